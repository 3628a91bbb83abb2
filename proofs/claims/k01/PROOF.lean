import PyProof.Rows.All
import Wide.All
import OpenK.AllK
import Wide.FinOn
import HandS.ForMost
import HandS.Exc
import HandS.Flow
import HandS.IsInst
import HandS.Defaults
import HandS.TupAny
import HandS.HeadEnd
import Lean
import HandS.Head0
import HandS.Head1
import HandS.Head2
import HandS.HeadHook1
import HandS.HeadHook2
import HandS.HeadHook4
import PySem.Challenge.RW_outofuse_k01_names_and_words
set_option Elab.async false
set_option linter.all false
set_option maxRecDepth 100000
set_option maxHeartbeats 4000000
/-! LyA: values without addresses of their own (D), a small heap of lists and instances (O), and how they stand in the layer's heap. -/
namespace Ly
open PySem PySem.Spec PyProof.Rows L2
inductive D where
  | non
  | bl (b : Bool)
  | int (i : Int)
  | str (x : Str)
  | tup (xs : List D)
  | ref (n : Nat)
  | glo (x : Str)
inductive O where
  | lst (xs : List D)
  | fro (xs : List D)
  | ins (c : Str) (fs : List (Str × D))
abbrev IH := List O
structure KM where
  K : PySem.W.Frag
  mg : Str → Option Value
mutual
inductive Rep (c : KM) (H : Hp) (ρ : Nat → Addr) (N : Nat) : D → V → Prop
  | non : Rep c H ρ N .non .non
  | bl (b : Bool) : Rep c H ρ N (.bl b) (.bl b)
  | int (i : Int) : Rep c H ρ N (.int i) (.int i)
  | str (x : Str) : Rep c H ρ N (.str x) (.str x)
  | tup {xs : List D} {a : Addr} {vs : List V} : SqT c.K H a vs → RepL c H ρ N xs vs → Rep c H ρ N (.tup xs) (.ref a)
  | ref {n : Nat} : n < N → Rep c H ρ N (.ref n) (.ref (ρ n))
  | glo {x : Str} {u : Value} {v : V} : c.mg x = some u → RelV v u → Rep c H ρ N (.glo x) v
inductive RepL (c : KM) (H : Hp) (ρ : Nat → Addr) (N : Nat) : List D → List V → Prop
  | nil : RepL c H ρ N [] []
  | cons {d : D} {v : V} {ds : List D} {vs : List V} : Rep c H ρ N d v → RepL c H ρ N ds vs → RepL c H ρ N (d :: ds) (v :: vs)
end
section
variable {c : KM} {H H' : Hp} {ρ ρ' : Nat → Addr} {N N' : Nat}
mutual
theorem Rep.mono (tk : ∀ a vs, SqT c.K H a vs → SqT c.K H' a vs) (ag : ∀ n, n < N → ρ' n = ρ n) (hN : N ≤ N') : ∀ {d : D} {v : V}, Rep c H ρ N d v → Rep c H' ρ' N' d v
  | _, _, .non => .non
  | _, _, .bl b => .bl b
  | _, _, .int b => .int b
  | _, _, .str b => .str b
  | _, _, .tup q r => .tup (tk _ _ q) (RepL.mono tk ag hN r)
  | _, _, .ref (n := n) q => by
    rw [← ag n q]
    exact .ref (Nat.lt_of_lt_of_le q hN)
  | _, _, .glo a b => .glo a b
theorem RepL.mono (tk : ∀ a vs, SqT c.K H a vs → SqT c.K H' a vs) (ag : ∀ n, n < N → ρ' n = ρ n) (hN : N ≤ N') : ∀ {d : List D} {v : List V}, RepL c H ρ N d v → RepL c H' ρ' N' d v
  | _, _, .nil => .nil
  | _, _, .cons a b => .cons (Rep.mono tk ag hN a) (RepL.mono tk ag hN b)
end
theorem RepL.length : ∀ {d : List D} {v : List V}, RepL c H ρ N d v → d.length = v.length
  | _, _, .nil => rfl
  | _, _, .cons _ b => by rw [List.length_cons, List.length_cons, RepL.length b]
theorem RepL.get : ∀ {ds : List D} {vs : List V} {i : Nat} {d : D}, RepL c H ρ N ds vs → ds[i]? = some d → ∃ v, vs[i]? = some v ∧ Rep c H ρ N d v
  | _, _, _, _, .nil, e => by simp at e
  | _, _, 0, _, .cons a b, e => by
    simp at e
    subst e
    exact ⟨_, rfl, a⟩
  | _, _, i + 1, _, .cons a b, e => by
    obtain ⟨v, e1, r⟩ := RepL.get (i := i) b (by simpa using e)
    exact ⟨v, by simpa using e1, r⟩
theorem RepL.geti : ∀ {ds : List D} {vs : List V} {i : Nat} {v : V}, RepL c H ρ N ds vs → vs[i]? = some v → ∃ d, ds[i]? = some d ∧ Rep c H ρ N d v
  | _, _, _, _, .nil, e => by simp at e
  | _, _, 0, _, .cons a b, e => by
    simp at e
    subst e
    exact ⟨_, rfl, a⟩
  | _, _, i + 1, _, .cons a b, e => by
    obtain ⟨v, e1, r⟩ := RepL.geti (i := i) b (by simpa using e)
    exact ⟨v, by simpa using e1, r⟩
theorem RepL.append : ∀ {ds es : List D} {vs ws : List V}, RepL c H ρ N ds vs → RepL c H ρ N es ws → RepL c H ρ N (ds ++ es) (vs ++ ws)
  | _, _, _, _, .nil, b => b
  | _, _, _, _, .cons a r, b => .cons a (RepL.append r b)
theorem RepL.take : ∀ {ds : List D} {vs : List V} (n : Nat), RepL c H ρ N ds vs → RepL c H ρ N (ds.take n) (vs.take n)
  | _, _, 0, _ => by simpa using RepL.nil
  | _, _, n + 1, .nil => by simpa using RepL.nil
  | _, _, n + 1, .cons a b => by simpa using RepL.cons a (RepL.take n b)
theorem RepL.drop : ∀ {ds : List D} {vs : List V} (n : Nat), RepL c H ρ N ds vs → RepL c H ρ N (ds.drop n) (vs.drop n)
  | _, _, 0, h => by simpa using h
  | _, _, n + 1, .nil => by simpa using RepL.nil
  | _, _, n + 1, .cons a b => by simpa using RepL.drop n b
theorem RepL.set {d : D} {v : V} (r : Rep c H ρ N d v) : ∀ {ds : List D} {vs : List V} (i : Nat), RepL c H ρ N ds vs → RepL c H ρ N (ds.set i d) (vs.set i v)
  | _, _, _, .nil => by simpa using RepL.nil
  | _, _, 0, .cons a b => by simpa using RepL.cons r b
  | _, _, i + 1, .cons a b => by simpa using RepL.cons a (RepL.set r i b)
theorem RepL.erase : ∀ {ds : List D} {vs : List V} (i : Nat), RepL c H ρ N ds vs → RepL c H ρ N (ds.eraseIdx i) (vs.eraseIdx i)
  | _, _, _, .nil => by simpa using RepL.nil
  | _, _, 0, .cons a b => by simpa using b
  | _, _, i + 1, .cons a b => by simpa using RepL.cons a (RepL.erase i b)
end
/-- a list that nobody changes: known as a whole, or one of the text's own -/
def Fro (K : PySem.W.Frag) (H : Hp) (a : Addr) (xs : List V) : Prop :=
  (∃ o, H a = some (.frz o (.lst xs))) ∨
    ∃ (o : Obj) (its : Array Value) (n : Nat), K.lookup a = some o ∧ o.cls = .type "list" ∧ o.dict = none ∧ o.data = .seq its n ∧ its.size ≤ sizeLine ∧ Vals xs its.toList
theorem Fro.sq {K : PySem.W.Frag} {H : Hp} {a : Addr} {xs : List V} (h : Fro K H a xs) : SqL K H a xs := by
  rcases h with ⟨o, h⟩ | h
  · exact .inl (.inr ⟨o, h⟩)
  · exact .inr h
inductive RepF (c : KM) (H : Hp) (ρ : Nat → Addr) (N : Nat) : List (Str × D) → List (Str × V) → Prop
  | nil : RepF c H ρ N [] []
  | cons {x : Str} {d : D} {v : V} {ds : List (Str × D)} {vs : List (Str × V)} : Rep c H ρ N d v → RepF c H ρ N ds vs → RepF c H ρ N ((x, d) :: ds) ((x, v) :: vs)
def ORep (c : KM) (H : Hp) (ρ : Nat → Addr) (N : Nat) (a : Addr) : O → Prop
  | .lst xs => ∃ vs, H a = some (.lst vs) ∧ RepL c H ρ N xs vs
  | .fro xs => ∃ vs, Fro c.K H a vs ∧ RepL c H ρ N xs vs
  | .ins cn fs => ∃ C dx vfs, c.mg cn = some (.ref C) ∧ H a = some (.ins C dx vfs) ∧ RepF c H ρ N fs vfs
def O.mu : O → Bool
  | .fro _ => false
  | _ => true
structure Sim (c : KM) (ρ : Nat → Addr) (h : IH) (H : Hp) : Prop where
  ob : ∀ n o, h[n]? = some o → ORep c H ρ h.length (ρ n) o
  inj : ∀ n m o o', h[n]? = some o → h[m]? = some o' → o.mu = true → o'.mu = true → ρ n = ρ m → n = m
structure Aft (c : KM) (ρ : Nat → Addr) (N : Nat) (H : Hp) (ρ' : Nat → Addr) (h' : IH) (H' : Hp) : Prop where
  len : N ≤ h'.length
  ag : ∀ n, n < N → ρ' n = ρ n
  tk : ∀ a vs, SqT c.K H a vs → SqT c.K H' a vs
  sim : Sim c ρ' h' H'
def SRel (c : KM) (H : Hp) (ρ : Nat → Addr) (N : Nat) (τ : List (Option D)) (σ : L2.St) : Prop :=
  σ.length = τ.length ∧ ∀ (i : Nat) (d : D), τ[i]? = some (some d) → ∃ v, σ[i]? = some (some v) ∧ Rep c H ρ N d v
section
variable {c : KM} {H H' H'' : Hp} {ρ ρ' ρ'' : Nat → Addr} {N : Nat} {h h' h'' : IH}
theorem Aft.refl (S : Sim c ρ h H) : Aft c ρ h.length H ρ h H := ⟨Nat.le_refl _, fun _ _ => rfl, fun _ _ q => q, S⟩
theorem Aft.trans (a : Aft c ρ N H ρ' h' H') (b : Aft c ρ' h'.length H' ρ'' h'' H'') : Aft c ρ N H ρ'' h'' H'' :=
  ⟨Nat.le_trans a.len b.len, fun n hn => (b.ag n (Nat.lt_of_lt_of_le hn a.len)).trans (a.ag n hn), fun x vs q => b.tk x vs (a.tk x vs q), b.sim⟩
theorem Aft.rep (a : Aft c ρ N H ρ' h' H') {d : D} {v : V} (r : Rep c H ρ N d v) : Rep c H' ρ' h'.length d v := r.mono a.tk a.ag a.len
theorem Aft.repL (a : Aft c ρ N H ρ' h' H') {d : List D} {v : List V} (r : RepL c H ρ N d v) : RepL c H' ρ' h'.length d v := r.mono a.tk a.ag a.len
theorem Aft.srel (a : Aft c ρ N H ρ' h' H') {τ : List (Option D)} {σ : L2.St} (r : SRel c H ρ N τ σ) : SRel c H' ρ' h'.length τ σ :=
  ⟨r.1, fun i d e => let ⟨v, e1, q⟩ := r.2 i d e; ⟨v, e1, a.rep q⟩⟩
theorem RepF.mono (tk : ∀ a vs, SqT c.K H a vs → SqT c.K H' a vs) {N' : Nat} (ag : ∀ n, n < N → ρ' n = ρ n) (hN : N ≤ N') : ∀ {d : List (Str × D)} {v : List (Str × V)}, RepF c H ρ N d v → RepF c H' ρ' N' d v
  | _, _, .nil => .nil
  | _, _, .cons a b => .cons (Rep.mono tk ag hN a) (RepF.mono tk ag hN b)
theorem RepF.look {x : Str} {d : D} : ∀ {fs : List (Str × D)} {vs : List (Str × V)}, RepF c H ρ N fs vs → fs.lookup x = some d → ∃ v, vs.lookup x = some v ∧ Rep c H ρ N d v
  | _, _, .nil, e => by simp at e
  | _, _, .cons (x := y) a b, e => by
    by_cases hx : x = y
    · subst hx
      simp at e
      subst e
      exact ⟨_, by simp, a⟩
    · have h1 : (x == y) = false := beq_eq_false_iff_ne.mpr hx
      simp only [List.lookup, h1] at e ⊢
      exact RepF.look b e
theorem RepF.none {x : Str} : ∀ {fs : List (Str × D)} {vs : List (Str × V)}, RepF c H ρ N fs vs → fs.lookup x = none → vs.lookup x = none
  | _, _, .nil, e => rfl
  | _, _, .cons (x := y) a b, e => by
    by_cases hx : x = y
    · subst hx
      simp at e
    · have h1 : (x == y) = false := beq_eq_false_iff_ne.mpr hx
      simp only [List.lookup, h1] at e ⊢
      exact RepF.none b e
/-- an object's address is tracked -/
theorem ORep.some {o : O} {a : Addr} (r : ORep c H ρ N a o) (m : o.mu = true) : ∃ u, H a = some u ∧ (∀ vs, u ≠ .tup vs) ∧ ∀ b vs, u ≠ .frz b vs := by
  cases o with
  | lst xs => obtain ⟨vs, e, _⟩ := r; exact ⟨_, e, fun _ z => (by cases z), fun _ _ z => (by cases z)⟩
  | fro xs => cases m
  | ins cn fs => obtain ⟨C, dx, vfs, _, e, _⟩ := r; exact ⟨_, e, fun _ z => (by cases z), fun _ _ z => (by cases z)⟩
theorem SqT.keep {K : PySem.W.Frag} {p : Addr} {o : HO} (hp : ∀ u, H p = Option.some u → (∀ vs, u ≠ .tup vs) ∧ ∀ b vs, u ≠ .frz b vs) : ∀ a vs, SqT K H a vs → SqT K (upd H p o) a vs := fun a vs q => by
  rcases q with (q | ⟨b, q⟩) | q
  · refine .inl (.inl ?_)
    rw [upd_ne]
    · exact q
    · rintro rfl
      exact (hp _ q).1 vs rfl
  · refine .inl (.inr ⟨b, ?_⟩)
    rw [upd_ne]
    · exact q
    · rintro rfl
      exact (hp _ q).2 _ _ rfl
  · exact .inr q
theorem Fro.keep {K : PySem.W.Frag} {p a : Addr} {o : HO} {vs : List V} (hp : ∀ u, H p = Option.some u → ∀ b vs, u ≠ .frz b vs) (q : Fro K H a vs) : Fro K (upd H p o) a vs := by
  rcases q with ⟨b, q⟩ | q
  · refine .inl ⟨b, ?_⟩
    rw [upd_ne]
    · exact q
    · rintro rfl
      exact hp _ q _ _ rfl
  · exact .inr q
/-- the object at a stays as the heap grows elsewhere -/
theorem ORep.keep {p a : Addr} {o : O} {u : HO} {N' : Nat} (r : ORep c H ρ N a o) (hp : ∀ u, H p = Option.some u → (∀ vs, u ≠ .tup vs) ∧ ∀ b vs, u ≠ .frz b vs) (ne : o.mu = true → a ≠ p) (ag : ∀ n, n < N → ρ' n = ρ n) (hN : N ≤ N') :
    ORep c (upd H p u) ρ' N' a o := by
  have tk := SqT.keep (K := c.K) (o := u) hp
  cases o with
  | lst xs =>
    obtain ⟨vs, e, r⟩ := r
    exact ⟨vs, by rw [upd_ne (ne rfl)]; exact e, r.mono tk ag hN⟩
  | fro xs =>
    obtain ⟨vs, e, r⟩ := r
    exact ⟨vs, e.keep fun u hu => (hp u hu).2, r.mono tk ag hN⟩
  | ins cn fs =>
    obtain ⟨C, dx, vfs, e0, e, r⟩ := r
    exact ⟨C, dx, vfs, e0, by rw [upd_ne (ne rfl)]; exact e, r.mono tk ag hN⟩
def ext (ρ : Nat → Addr) (N : Nat) (p : Addr) : Nat → Addr := fun n => if n = N then p else ρ n
theorem ext_lt {p : Addr} {n : Nat} (h : n < N) : ext ρ N p n = ρ n := if_neg (Nat.ne_of_lt h)
theorem ext_eq {p : Addr} : ext ρ N p N = p := if_pos rfl
/-- a tuple is made -/
theorem Aft.tuple {p : Addr} {vs : List V} (S : Sim c ρ h H) (hp : H p = Option.none) : Aft c ρ h.length H ρ h (upd H p (.tup vs)) := by
  have hp' : ∀ u, H p = Option.some u → (∀ vs, u ≠ .tup vs) ∧ ∀ b vs, u ≠ .frz b vs := fun u e => by rw [hp] at e; cases e
  refine ⟨Nat.le_refl _, fun _ _ => rfl, SqT.keep hp', ⟨fun n o e => (S.ob n o e).keep hp' (fun m => ?_) (fun _ _ => rfl) (Nat.le_refl _), S.inj⟩⟩
  obtain ⟨u, hu, _⟩ := (S.ob n o e).some m
  rintro z
  rw [z, hp] at hu
  cases hu
/-- a new object -/
theorem Aft.alloc {p : Addr} {o : O} {u : HO} (S : Sim c ρ h H) (hp : H p = Option.none) (r : ORep c (upd H p u) (ext ρ h.length p) (h.length + 1) p o) :
    Aft c ρ h.length H (ext ρ h.length p) (h ++ [o]) (upd H p u) := by
  have hp' : ∀ u, H p = Option.some u → (∀ vs, u ≠ .tup vs) ∧ ∀ b vs, u ≠ .frz b vs := fun u e => by rw [hp] at e; cases e
  have hl : (h ++ [o]).length = h.length + 1 := by simp
  have nep : ∀ n o', h[n]? = Option.some o' → o'.mu = true → ρ n ≠ p := fun n o' e m => by
    obtain ⟨u, hu, _⟩ := (S.ob n o' e).some m
    rintro z
    rw [z, hp] at hu
    cases hu
  have cs : ∀ n o', (h ++ [o])[n]? = Option.some o' → (n < h.length ∧ h[n]? = Option.some o') ∨ (n = h.length ∧ o' = o) := fun n o' e => by
    by_cases hn : n < h.length
    · rw [List.getElem?_append_left hn] at e
      exact .inl ⟨hn, e⟩
    · rw [List.getElem?_append_right (by omega)] at e
      have h0 : n - h.length = 0 := by
        have := (List.getElem?_eq_some_iff.mp e).1
        simp at this
        omega
      rw [h0] at e
      exact .inr ⟨by omega, (Option.some.inj e).symm⟩
  refine ⟨by rw [hl]; exact Nat.le_succ _, fun n hn => ext_lt hn, SqT.keep hp', ⟨fun n o' e => ?_, fun n m o1 o2 e1 e2 m1 m2 z => ?_⟩⟩
  · rw [hl]
    rcases cs n o' e with ⟨hn, e⟩ | ⟨rfl, rfl⟩
    · rw [ext_lt hn]
      exact (S.ob n o' e).keep hp' (nep n o' e) (fun k hk => ext_lt hk) (Nat.le_succ _)
    · rw [ext_eq]
      exact r
  · rcases cs n o1 e1 with ⟨hn, q1⟩ | ⟨hn, q1⟩
    · rcases cs m o2 e2 with ⟨hm, q2⟩ | ⟨hm, q2⟩
      · rw [ext_lt hn, ext_lt hm] at z
        exact S.inj n m o1 o2 q1 q2 m1 m2 z
      · subst hm
        rw [ext_lt hn, ext_eq] at z
        exact absurd z (nep n o1 q1 m1)
    · rcases cs m o2 e2 with ⟨hm, q2⟩ | ⟨hm, q2⟩
      · subst hn
        rw [ext_lt hm, ext_eq] at z
        exact absurd z.symm (nep m o2 q2 m2)
      · rw [hn, hm]
/-- an object is changed -/
theorem Aft.write {n : Nat} {o o' : O} {u : HO} (S : Sim c ρ h H) (e : h[n]? = some o) (m : o.mu = true) (r : ORep c (upd H (ρ n) u) ρ h.length (ρ n) o') (m' : o'.mu = true) :
    Aft c ρ h.length H ρ (h.set n o') (upd H (ρ n) u) := by
  obtain ⟨ou, hou, n1, n2⟩ := (S.ob n o e).some m
  have hp' : ∀ u, H (ρ n) = Option.some u → (∀ vs, u ≠ .tup vs) ∧ ∀ b vs, u ≠ .frz b vs := fun u e => by
    rw [hou] at e
    cases e
    exact ⟨n1, n2⟩
  have hn : n < h.length := (List.getElem?_eq_some_iff.mp e).1
  have hl : (h.set n o').length = h.length := by simp
  have cs : ∀ k x, (h.set n o')[k]? = Option.some x → (k = n ∧ x = o') ∨ (k ≠ n ∧ h[k]? = Option.some x) := fun k x q => by
    by_cases hk : k = n
    · subst hk
      rw [List.getElem?_set_self hn] at q
      exact .inl ⟨rfl, (Option.some.inj q).symm⟩
    · rw [List.getElem?_set_ne (Ne.symm hk)] at q
      exact .inr ⟨hk, q⟩
  refine ⟨by rw [hl]; exact Nat.le_refl _, fun _ _ => rfl, SqT.keep hp', ⟨fun k x q => ?_, fun k j o1 o2 e1 e2 m1 m2 z => ?_⟩⟩
  · rw [hl]
    rcases cs k x q with ⟨rfl, rfl⟩ | ⟨hk, q⟩
    · exact r
    · exact (S.ob k x q).keep hp' (fun mx z => hk (S.inj k n x o q e mx m z)) (fun _ _ => rfl) (Nat.le_refl _)
  · rcases cs k o1 e1 with ⟨rfl, rfl⟩ | ⟨hk, q1⟩
    · rcases cs j o2 e2 with ⟨rfl, rfl⟩ | ⟨hj, q2⟩
      · rfl
      · exact S.inj k j o o2 e q2 m m2 z
    · rcases cs j o2 e2 with ⟨rfl, rfl⟩ | ⟨hj, q2⟩
      · exact S.inj k j o1 o q1 e m1 m z
      · exact S.inj k j o1 o2 q1 q2 m1 m2 z
end
end Ly
/-! LyB: a small language and what its terms come to. -/
namespace Ly
open PySem PySem.Spec PyProof.Rows L2
instance decCMul {i j : Int} : Decidable (CMul i j) := by unfold CMul; infer_instance
instance decCDiv {i j : Int} : Decidable (CDiv i j) := by unfold CDiv; infer_instance
instance decCPow {i j : Int} : Decidable (CPow i j) := by unfold CPow; infer_instance
inductive Re (α : Type) where
  | ok (a : α) (h : IH)
  | ex (c : Str) (fs : List (Str × D)) (h : IH)
  | no
def Re.bind {α β : Type} (r : Re α) (f : α → IH → Re β) : Re β :=
  match r with
  | .ok a h => f a h
  | .ex c fs h => .ex c fs h
  | .no => .no
/-- targets -/
inductive T where
  | nm (i : Nat)
  | tp (ts : List T)
mutual
inductive E where
  | var (i : Nat)
  | int (i : Int) | str (x : Str) | bl (b : Bool) | non
  | glo (x : Str)
  | tup (es : Es) | lst (es : Es)
  | bin (op : Operator) (a b : E)
  | neg (a : E)
  | cmp (op : CmpOp) (a b : E)
  | chain (o p : CmpOp) (a b c : E)
  | not (a : E) | and (a b : E) | or (a b : E)
  | ife (c a b : E)
  | call (f : Str) (es : Es)
  | callk (f : Str) (ks : List Str) (es : Es)
  | blt (f : Str) (es : Es)
  | isi (a : E) (t : String)
  | sub (a b : E)
  | slc (a : E) (lo hi : Oe)
  | lc (own : List Nat) (t : T) (it : I) (tt : Oe) (e : E)
  | meth (m : Str) (a : E) (es : Es)
inductive Es where
  | nil
  | cons (e : E) (es : Es)
inductive Oe where
  | none
  | some (e : E)
inductive I where
  | seq (e : E)
  | rng (es : Es)
end
mutual
inductive S where
  | asg (t : T) (e : E)
  | iset (o i e : E)
  | expr (e : E)
  | ret (e : E)
  | retn
  | ife (c : E) (a b : Ss)
  | for (t : T) (it : I) (b : Ss)
  | whil (c : E) (b : Ss)
  | brk | cnt | pass
inductive Ss where
  | nil
  | cons (s : S) (ss : Ss)
end
/-! ### values -/
def D.sc : D → Option V
  | .non => some .non
  | .bl b => some (.bl b)
  | .int i => some (.int i)
  | .str x => some (.str x)
  | _ => none
def scs : List D → Option (List V)
  | [] => some []
  | d :: ds => match d.sc, scs ds with
    | some v, some vs => some (v :: vs)
    | _, _ => none
/-- the items of a list, a tuple -/
def items (h : IH) : D → Option (List D)
  | .tup xs => some xs
  | .ref n => match h[n]? with
    | some (.lst xs) => some xs
    | some (.fro xs) => some xs
    | _ => none
  | _ => none
def truth (h : IH) : D → Option Bool
  | .non => some false
  | .bl b => some b
  | .int i => some (i != 0)
  | .str x => if x.length ≤ sizeLine then some ((x.length : Int) != 0) else none
  | d => (items h d).map fun xs => !xs.isEmpty
abbrev ok1 (d : D) (h : IH) : Re D := .ok d h
def alloc (o : O) (h : IH) : Re D := .ok (.ref h.length) (h ++ [o])
def newl (xs : List D) (h : IH) : Re D := if xs.length ≤ sizeLine then alloc (.lst xs) h else .no
def newt (xs : List D) (h : IH) : Re D := if xs.length ≤ sizeLine then .ok (.tup xs) h else .no
def bin (op : Operator) (a b : D) (h : IH) : Re D :=
  match op, a, b with
  | .Add, .int i, .int j => .ok (.int (i + j)) h
  | .Sub, .int i, .int j => .ok (.int (i - j)) h
  | .Mult, .int i, .int j => if CMul i j then .ok (.int (i * j)) h else .no
  | .FloorDiv, .int i, .int j => if CDiv i j then .ok (.int (i / j)) h else .no
  | .Mod, .int i, .int j => if 0 < j then .ok (.int (i % j)) h else .no
  | .Pow, .int i, .int j => if CPow i j then .ok (.int (i ^ j.toNat)) h else .no
  | .Add, .str x, .str y => if x.length + y.length ≤ sizeLine then .ok (.str (x ++ y)) h else .no
  | .Add, .ref n, .ref m => match h[n]?, h[m]? with
    | some (.lst xs), some (.lst ys) => if xs.length + ys.length ≤ sizeLine then alloc (.lst (xs ++ ys)) h else .no
    | _, _ => .no
  | .Add, .tup xs, .tup ys => if xs.length + ys.length ≤ sizeLine then .ok (.tup (xs ++ ys)) h else .no
  | .Mult, .ref n, .int k => match h[n]? with
    | some (.lst xs) => if -(2 ^ 63) ≤ k ∧ k < 2 ^ 63 ∧ xs.length * k.toNat ≤ sizeLine then alloc (.lst (List.replicate k.toNat xs).flatten) h else .no
    | _ => .no
  | _, _, _ => .no
def isin (a b : D) (h : IH) : Option Bool :=
  match a, b with
  | .str x, .str y => match x.cps.toList with
    | [c] => some (decide (c ∈ y.cps.toList))
    | _ => none
  | a, b => match a.sc, (items h b).bind scs with
    | some v, some vs => some (inV v vs)
    | _, _ => none
def D.isNon : D → Option Bool
  | .non => some true
  | .glo _ => none
  | _ => some false
def cmp (op : CmpOp) (a b : D) (h : IH) : Option Bool :=
  match op, a, b with
  | .Lt, .int i, .int j => some (decide (i < j))
  | .LtE, .int i, .int j => some (decide (i ≤ j))
  | .Gt, .int i, .int j => some (decide (j < i))
  | .GtE, .int i, .int j => some (decide (j ≤ i))
  | .Is, a, .non => a.isNon
  | .IsNot, a, .non => a.isNon.map (!·)
  | .In, a, b => isin a b h
  | .NotIn, a, b => (isin a b h).map (!·)
  | .Eq, .int i, .int j => some (decide (i = j))
  | .Eq, .str i, .str j => some (decide (i = j))
  | .NotEq, .int i, .int j => some (!decide (i = j))
  | .NotEq, .str i, .str j => some (!decide (i = j))
  | _, _, _ => none
def sub (a b : D) (h : IH) : Re D :=
  match b with
  | .int i => match a with
    | .str z => if z.length ≤ sizeLine then (match atI z.cps.toList i with | some c => .ok (.str ⟨#[c]⟩) h | none => .no) else .no
    | a => match items h a with
      | some xs => (match atI xs i with | some d => .ok d h | none => .no)
      | none => .no
  | _ => .no
def cutD (xs : List D) (lo hi : Option Int) : List D := (xs.drop (HT.sIx xs.length 0 lo)).take (HT.sIx xs.length xs.length hi - HT.sIx xs.length 0 lo)
def slc (a : D) (lo hi : Option Int) (h : IH) : Re D :=
  match a with
  | .str z => if z.length ≤ sizeLine then .ok (.str (cutS z lo hi)) h else .no
  | .tup xs => if HT.sIx xs.length 0 lo = 0 ∧ HT.sIx xs.length xs.length hi = xs.length then .ok (.tup xs) h else .ok (.tup (cutD xs lo hi)) h
  | a => match items h a with
    | some xs => alloc (.lst (cutD xs lo hi)) h
    | none => .no
def isbs : List D → Option (List Bool)
  | [] => some []
  | .bl b :: ds => (isbs ds).map (b :: ·)
  | _ :: _ => none
def isints : List D → Option (List Int)
  | [] => some []
  | .int b :: ds => (isints ds).map (b :: ·)
  | _ :: _ => none
def isstrs : List D → Option (List Str)
  | [] => some []
  | .str b :: ds => (isstrs ds).map (b :: ·)
  | _ :: _ => none
/-- the type of a value, by its built-in name -/
def typ (h : IH) : D → Option String
  | .non => some "NoneType"
  | .bl _ => some "bool"
  | .int _ => some "int"
  | .str _ => some "str"
  | .tup _ => some "tuple"
  | .ref n => match h[n]? with
    | some (.lst _) => some "list"
    | some (.fro _) => some "list"
    | _ => none
  | _ => none
def datl (f : D → Option PyData) : List D → Option (List PyData)
  | [] => some []
  | d :: ds => match f d, datl f ds with
    | some x, some xs => some (x :: xs)
    | _, _ => none
def datS : D → Option PyData
  | .non => some .none
  | .bl b => some (.bool b)
  | .int i => if i.natAbs.log2 < 1920 then some (.int i) else none
  | .str x => some (.str x)
  | _ => none
/-- a value as data, to a depth -/
def dat (h : IH) : Nat → D → Option PyData
  | 0, d => datS d
  | k + 1, d => match d with
    | .tup xs => (datl (dat h k) xs).map .tuple
    | .ref n => match h[n]? with
      | some (.lst xs) => (datl (dat h k) xs).map .list
      | _ => none
    | d => datS d
def blt (f : Str) (ds : List D) (h : IH) : Re D :=
  if f = "len" then (match ds with
    | [.str x] => if x.length ≤ sizeLine then .ok (.int x.length) h else .no
    | [d] => (match items h d with | some xs => .ok (.int xs.length) h | none => .no)
    | _ => .no)
  else if f = "list" then (match ds with
    | [d] => (match items h d with | some xs => alloc (.lst xs) h | none => .no)
    | _ => .no)
  else if f = "all" then (match ds with
    | [.ref n] => (match (items h (.ref n)).bind isbs with | some bs => .ok (.bl (bs.all id)) h | none => .no)
    | _ => .no)
  else if f = "int" then (match ds with
    | [.int i] => .ok (.int i) h
    | [.bl b] => .ok (.int (if b then 1 else 0)) h
    | _ => .no)
  else if f = "repr" then (match ds with
    | [.ref n] => (match dat h 20 (.ref n) with | some p => if p.shown.length ≤ sizeLine then .ok (.str p.shown) h else .no | none => .no)
    | _ => .no)
  else .no
/-- the type, the method's name -/
def bmT (m : Str) : Option (String × Str × String) :=
  if m = "list.append" then some ("list", "append", "list.append")
  else if m = "str.join" then some ("str", "join", "str.join")
  else none
def meth (m : Str) (a : D) (ds : List D) (h : IH) : Re D :=
  if m = "list.append" then (match a, ds with
    | .ref n, [d] => (match h[n]? with | some (.lst xs) => if xs.length < sizeLine then .ok .non (h.set n (.lst (xs ++ [d]))) else .no | _ => .no)
    | _, _ => .no)
  else if m = "str.join" then (match a, ds with
    | .str z, [d] => (match (items h d).bind isstrs with
      | some ys => if (ys.map (·.length)).sum + ys.length * z.length ≤ 16777216 then .ok (.str (Txt.join z ys)) h else .no
      | none => .no)
    | _, _ => .no)
  else .no
def bindT : T → D → List (Option D) → Option (List (Option D))
  | .nm i, d, τ => if i < τ.length then some (τ.set i (some d)) else none
  | .tp ts, .tup ds, τ => if ts.length = ds.length then bindTs ts ds τ else none
  | _, _, _ => none
where bindTs : List T → List D → List (Option D) → Option (List (Option D))
  | [], [], τ => some τ
  | t :: ts, d :: ds, τ => (bindT t d τ).bind fun τ' => bindTs ts ds τ'
  | _, _, _ => none
def wipeD (τ : List (Option D)) : List Nat → List (Option D)
  | [] => τ
  | v :: vs => (wipeD τ vs).set v none
/-! ### walking -/
inductive J where
  | obj (n : Nat)
  | its (xs : List D)
  | rng (lo : Int) (n : Nat)
def J.get (j : J) (i : Nat) (h : IH) : Option (Option D) :=
  match j with
  | .obj n => match h[n]? with
    | some (.lst xs) => some xs[i]?
    | some (.fro xs) => some xs[i]?
    | _ => none
  | .its xs => some xs[i]?
  | .rng lo n => some (if i < n then some (.int (lo + i)) else none)
def J.most (j : J) (h : IH) : Nat :=
  match j with
  | .obj n => match h[n]? with
    | some (.lst xs) => xs.length
    | some (.fro xs) => xs.length
    | _ => 0
  | .its xs => xs.length
  | .rng _ n => n
def lcLoop (j : J) (turn : D → IH → Re (Option D)) (n0 : Nat) : Nat → Nat → IH → Re D
  | 0, _, _ => .no
  | f + 1, i, h => match j.get i h with
    | none => .no
    | some none => .ok (.ref n0) h
    | some (some d) => match turn d h with
      | .ok none h1 => lcLoop j turn n0 f (i + 1) h1
      | .ok (some y) h1 => (match h1[n0]? with
        | some (.lst acc) => if acc.length < sizeLine then lcLoop j turn n0 f (i + 1) (h1.set n0 (.lst (acc ++ [y]))) else .no
        | _ => .no)
      | _ => .no
structure G where
  cf : Str → List D → IH → Re D
  gl : Str → Option D
mutual
def ev (g : G) (τ : List (Option D)) : E → IH → Re D
  | .var i, h => match τ[i]? with
    | some (some d) => .ok d h
    | _ => .no
  | .int i, h => .ok (.int i) h
  | .str x, h => .ok (.str x) h
  | .bl b, h => .ok (.bl b) h
  | .non, h => .ok .non h
  | .glo x, h => match g.gl x with
    | some d => .ok d h
    | none => .no
  | .tup es, h => (evs g τ es h).bind fun ds h => newt ds h
  | .lst es, h => (evs g τ es h).bind fun ds h => newl ds h
  | .bin op a b, h => (ev g τ a h).bind fun x h => (ev g τ b h).bind fun y h => bin op x y h
  | .neg a, h => (ev g τ a h).bind fun x h => match x with
    | .int i => .ok (.int (-i)) h
    | _ => .no
  | .cmp op a b, h => (ev g τ a h).bind fun x h => (ev g τ b h).bind fun y h => match cmp op x y h with
    | some k => .ok (.bl k) h
    | none => .no
  | .chain o p a b c, h => (ev g τ a h).bind fun x h => (ev g τ b h).bind fun y h => match cmp o x y h with
    | some true => (ev g τ c h).bind fun z h => (match cmp p y z h with | some k => .ok (.bl k) h | none => .no)
    | some false => .ok (.bl false) h
    | none => .no
  | .not a, h => (ev g τ a h).bind fun x h => match truth h x with
    | some k => .ok (.bl (!k)) h
    | none => .no
  | .and a b, h => (ev g τ a h).bind fun x h => match truth h x with
    | some true => ev g τ b h
    | some false => .ok x h
    | none => .no
  | .or a b, h => (ev g τ a h).bind fun x h => match truth h x with
    | some true => .ok x h
    | some false => ev g τ b h
    | none => .no
  | .ife c a b, h => (ev g τ c h).bind fun x h => match truth h x with
    | some true => ev g τ a h
    | some false => ev g τ b h
    | none => .no
  | .call f es, h => (evs g τ es h).bind fun ds h => g.cf f ds h
  | .callk f _ es, h => (evs g τ es h).bind fun ds h => g.cf f ds h
  | .blt f es, h => (evs g τ es h).bind fun ds h => blt f ds h
  | .isi a t, h => (ev g τ a h).bind fun x h => match (typ h x).bind fun s => kitB s t with
    | some k => .ok (.bl k) h
    | none => .no
  | .sub a b, h => (ev g τ a h).bind fun x h => (ev g τ b h).bind fun y h => sub x y h
  | .slc a lo hi, h => (ev g τ a h).bind fun x h => (evo g τ lo h).bind fun l h => (evo g τ hi h).bind fun u h => slc x l u h
  | .lc own t it tt e, h => (evi g τ it h).bind fun j h => lcLoop j (fun d h => match bindT t d (wipeD τ own) with
      | none => .no
      | some τ' => (evt g τ' tt h).bind fun k h => if k then (ev g τ' e h).bind fun y h => .ok (some y) h else .ok none h) h.length (j.most h + 1) 0 (h ++ [.lst []])
  | .meth m a es, h => (ev g τ a h).bind fun x h => if typ h x = (bmT m).map (·.1) then (evs g τ es h).bind fun ds h => meth m x ds h else .no
def evs (g : G) (τ : List (Option D)) : Es → IH → Re (List D)
  | .nil, h => .ok [] h
  | .cons e es, h => (ev g τ e h).bind fun x h => (evs g τ es h).bind fun xs h => .ok (x :: xs) h
def evo (g : G) (τ : List (Option D)) : Oe → IH → Re (Option Int)
  | .none, h => .ok none h
  | .some e, h => (ev g τ e h).bind fun x h => match x with
    | .int i => .ok (some i) h
    | _ => .no
def evt (g : G) (τ : List (Option D)) : Oe → IH → Re Bool
  | .none, h => .ok true h
  | .some e, h => (ev g τ e h).bind fun x h => match truth h x with
    | some k => .ok k h
    | none => .no
def evi (g : G) (τ : List (Option D)) : I → IH → Re J
  | .seq e, h => (ev g τ e h).bind fun x h => match x with
    | .tup xs => .ok (.its xs) h
    | .ref n => (match items h (.ref n) with | some _ => .ok (.obj n) h | none => .no)
    | .str z => if z.length ≤ sizeLine then .ok (.its (z.cps.toList.map fun k => .str ⟨#[k]⟩)) h else .no
    | _ => .no
  | .rng es, h => (evs g τ es h).bind fun ds h => match ds with
    | [.int j] => if -(2 ^ 62) ≤ j ∧ j < 2 ^ 62 then .ok (.rng 0 j.toNat) h else .no
    | [.int i, .int j] => if -(2 ^ 62) ≤ i ∧ i < 2 ^ 62 ∧ -(2 ^ 62) ≤ j ∧ j < 2 ^ 62 then .ok (.rng i (j - i).toNat) h else .no
    | _ => .no
end
inductive Fl where
  | nx (τ : List (Option D)) | rt (d : D) | bk (τ : List (Option D)) | ct (τ : List (Option D))
def forLoop (j : J) (turn : D → List (Option D) → IH → Re Fl) : Nat → Nat → List (Option D) → IH → Re Fl
  | 0, _, _, _ => .no
  | f + 1, i, τ, h => match j.get i h with
    | none => .no
    | some none => .ok (.nx τ) h
    | some (some d) => (turn d τ h).bind fun r h1 => match r with
      | .nx τ' => forLoop j turn f (i + 1) τ' h1
      | .ct τ' => forLoop j turn f (i + 1) τ' h1
      | .bk τ' => .ok (.nx τ') h1
      | .rt d => .ok (.rt d) h1
def whileLoop (test : List (Option D) → IH → Re Bool) (body : List (Option D) → IH → Re Fl) : Nat → List (Option D) → IH → Re Fl
  | 0, _, _ => .no
  | f + 1, τ, h => (test τ h).bind fun k h => if k then (body τ h).bind fun r h1 => (match r with
      | .nx τ' => whileLoop test body f τ' h1
      | .ct τ' => whileLoop test body f τ' h1
      | .bk τ' => .ok (.nx τ') h1
      | .rt d => .ok (.rt d) h1) else .ok (.nx τ) h
def wmost : Nat := 1000000000
mutual
def ex (g : G) : S → List (Option D) → IH → Re Fl
  | .asg t e, τ, h => (ev g τ e h).bind fun x h => match bindT t x τ with
    | some τ' => .ok (.nx τ') h
    | none => .no
  | .iset o i e, τ, h => (ev g τ e h).bind fun v h => (ev g τ o h).bind fun x h => (ev g τ i h).bind fun y h => match x, y with
    | .ref n, .int k => (match h[n]? with
      | some (.lst xs) => (match ixN xs.length k with | some j => .ok (.nx τ) (h.set n (.lst (xs.set j v))) | none => .no)
      | _ => .no)
    | _, _ => .no
  | .expr e, τ, h => (ev g τ e h).bind fun _ h => .ok (.nx τ) h
  | .ret e, τ, h => (ev g τ e h).bind fun x h => .ok (.rt x) h
  | .retn, _, h => .ok (.rt .non) h
  | .ife c a b, τ, h => (ev g τ c h).bind fun x h => match truth h x with
    | some true => exs g a τ h
    | some false => exs g b τ h
    | none => .no
  | .for t it b, τ, h => (evi g τ it h).bind fun j h => forLoop j (fun d τ h => match bindT t d τ with
      | none => .no
      | some τ' => exs g b τ' h) (j.most h + 1) 0 τ h
  | .whil c b, τ, h => whileLoop (fun τ h => (ev g τ c h).bind fun x h => match truth h x with
      | some k => .ok k h
      | none => .no) (fun τ h => exs g b τ h) wmost τ h
  | .brk, τ, h => .ok (.bk τ) h
  | .cnt, τ, h => .ok (.ct τ) h
  | .pass, τ, h => .ok (.nx τ) h
def exs (g : G) : Ss → List (Option D) → IH → Re Fl
  | .nil, τ, h => .ok (.nx τ) h
  | .cons s ss, τ, h => (ex g s τ h).bind fun r h => match r with
    | .nx τ' => exs g ss τ' h
    | r => .ok r h
end
structure Fn where
  np : Nat
  nl : Nat
  body : Ss
def runFn (g : G) (f : Fn) (ds : List D) (h : IH) : Re D :=
  if ds.length = f.np then (exs g f.body (ds.map some ++ List.replicate (f.nl - ds.length) none) h).bind fun r h => match r with
    | .rt d => .ok d h
    | .nx _ => .ok .non h
    | _ => .no
  else .no
def run (tb : Str → Option Fn) (gl : Str → Option D) : Nat → Str → List D → IH → Re D
  | 0, _, _, _ => .no
  | k + 1, f, ds, h => match tb f with
    | some fn => runFn ⟨run tb gl k, gl⟩ fn ds h
    | none => .no
example (g : G) (h : IH) : ev g [] (.int 3) h = .ok (.int 3) h := rfl
example (g : G) (h : IH) : ex g .pass [] h = .ok (.nx []) h := rfl
example : bindT (.nm 0) .non [none] = some [some .non] := rfl
end Ly
/-! LyC: the layer's readings follow from what the terms come to. -/
namespace Ly
open PySem PySem.Spec PyProof.Rows L2
abbrev km (X : Cx) : KM := ⟨X.K, X.mg⟩
abbrev Rl (α β : Type) := Hp → (Nat → Addr) → Nat → α → β → Prop
/-- what is wanted behind -/
def Post {α β : Type} (c : KM) (W : WX) (R : Rl α β) (ρ : Nat → Addr) (N : Nat) (H : Hp) (σ : L2.St) (r : Re α) (Q : β → Hp → Prop) : Prop :=
  match r with
  | .ok a h' => ∀ b ρ' H', Aft c ρ N H ρ' h' H' → R H' ρ' h'.length a b → Q b H'
  | .ex cn fs h' => ∀ ρ' H' C dx vfs, Aft c ρ N H ρ' h' H' → c.mg cn = some (.ref C) → H' dx = some (.xd vfs) → RepF c H' ρ' h'.length fs vfs → W (.ref C) (some dx) σ H'
  | .no => False
abbrev rD (X : Cx) : Rl D V := fun H ρ N d v => Rep (km X) H ρ N d v
abbrev rL (X : Cx) : Rl (List D) (List V) := fun H ρ N d v => RepL (km X) H ρ N d v
def rEq (α : Type) : Rl α α := fun _ _ _ a b => a = b
section
variable {X : Cx} {W : WX} {α β γ δ : Type} {R : Rl α β} {R' : Rl γ δ} {ρ ρ1 : Nat → Addr} {N : Nat} {H H1 : Hp} {h h1 : IH} {σ : L2.St} {τ : List (Option D)} {Q : β → Hp → Prop} {Q' : δ → Hp → Prop}
theorem Post.shift {r : Re α} (A : Aft (km X) ρ N H ρ1 h1 H1) (P : Post (km X) W R ρ N H σ r Q) : Post (km X) W R ρ1 h1.length H1 σ r Q := by
  cases r with
  | ok a h' => exact fun b ρ' H' A' r => P b ρ' H' (A.trans A') r
  | ex c fs h' => exact fun ρ' H' C dx vfs A' => P ρ' H' C dx vfs (A.trans A')
  | no => exact P
theorem Post.mk {r : Re α} {k : α → IH → Re γ} (P : Post (km X) W R' ρ N H σ (r.bind k) Q') (hk : ∀ a h1, r = .ok a h1 → ∀ b ρ1 H1, Aft (km X) ρ N H ρ1 h1 H1 → R H1 ρ1 h1.length a b → Post (km X) W R' ρ1 h1.length H1 σ (k a h1) Q' → Q b H1) :
    Post (km X) W R ρ N H σ r Q := by
  cases r with
  | ok a h1 => exact fun b ρ1 H1 A r => hk a h1 rfl b ρ1 H1 A r (Post.shift A P)
  | ex c fs h' => exact P
  | no => exact P
theorem Post.ok {a : α} {b : β} (S : Sim (km X) ρ h H) (P : Post (km X) W R ρ h.length H σ (.ok a h) Q) (r : R H ρ h.length a b) : Q b H := P b ρ H (Aft.refl S) r
theorem Post.okA {a : α} {b : β} (A : Aft (km X) ρ N H ρ1 h1 H1) (P : Post (km X) W R ρ N H σ (.ok a h1) Q) (r : R H1 ρ1 h1.length a b) : Q b H1 := P b ρ1 H1 A r
/-- a reading by what a term comes to -/
def tG (X : Cx) (W : WX) (R : Rl α β) (f : List (Option D) → IH → Re α) : L2.St → Hp → (β → Hp → Prop) → Prop := fun σ H Q =>
  ∃ ρ h τ, Sim (km X) ρ h H ∧ SRel (km X) H ρ h.length τ σ ∧ Post (km X) W R ρ h.length H σ (f τ h) Q
abbrev tE (X : Cx) (W : WX) (g : G) (e : E) : TE := tG X W (rD X) fun τ h => ev g τ e h
abbrev tA (X : Cx) (W : WX) (g : G) (es : Es) : TA := tG X W (rL X) fun τ h => evs g τ es h
abbrev tO (X : Cx) (W : WX) (g : G) (e : Oe) : TO := tG X W (rEq (Option Int)) fun τ h => evo g τ e h
/-- the truth of a value -/
def evb (g : G) (τ : List (Option D)) (e : E) (h : IH) : Re Bool := (ev g τ e h).bind fun x h => match truth h x with
  | some k => .ok k h
  | none => .no
abbrev tT (X : Cx) (W : WX) (g : G) (e : E) : TT := tG X W (rEq Bool) fun τ h => evb g τ e h
abbrev tTo (X : Cx) (W : WX) (g : G) (e : Oe) : TT := tG X W (rEq Bool) fun τ h => evt g τ e h
end
theorem PE.imp {X : Cx} {e : Expr} {t t' : TE} (h : PE X e t) (i : ∀ σ H Q, t' σ H Q → t σ H Q) : PE X e t' := ⟨fun pins s σ H Q I q => h.run pins s σ H Q I (i σ H Q q)⟩
theorem PT.imp {X : Cx} {e : Expr} {t t' : TT} (h : PT X e t) (i : ∀ σ H Q, t' σ H Q → t σ H Q) : PT X e t' := ⟨fun pins s σ H Q I q => h.run pins s σ H Q I (i σ H Q q)⟩
theorem PA.imp {X : Cx} {e : List Expr} {t t' : TA} (h : PA X e t) (i : ∀ σ H Q, t' σ H Q → t σ H Q) : PA X e t' := ⟨fun pos pins s σ H Q I q => h.run pos pins s σ H Q I (i σ H Q q)⟩
theorem PO.imp {X : Cx} {e : Option Expr} {t t' : TO} (h : PO X e t) (i : ∀ σ H Q, t' σ H Q → t σ H Q) : PO X e t' := ⟨fun pins s σ H Q I q => h.run pins s σ H Q I (i σ H Q q)⟩
theorem PTs.imp {X : Cx} {e : List Expr} {t t' : TT} (h : PTs X e t) (i : ∀ σ H Q, t' σ H Q → t σ H Q) : PTs X e t' := ⟨fun pins s σ H Q I q => h.run pins s σ H Q I (i σ H Q q)⟩
theorem PI.imp {X : Cx} {tg it : Expr} {t t' : TI} (h : PI X tg it t) (i : ∀ σ H Q, t' σ H Q → t σ H Q) : PI X tg it t' := ⟨fun pins s σ H Q I q => h.run pins s σ H Q I (i σ H Q q)⟩
theorem PS.imp {X : Cx} {st : Stmt} {t t' : TS} (h : PS X st t) (i : ∀ D σ H, t' D σ H → t D σ H) : PS X st t' := ⟨fun pins s σ H D I q => h.run pins s σ H D I (i D σ H q)⟩
theorem PSs.imp {X : Cx} {st : List Stmt} {t t' : TS} (h : PSs X st t) (i : ∀ D σ H, t' D σ H → t D σ H) : PSs X st t' := ⟨fun pins s σ H D I q => h.run pins s σ H D I (i D σ H q)⟩
/-! ### values: the functions on D and the layer's rules -/
/-- a function of one, two values or a list of them is served by a rule of the layer -/
def Ad2 (X : Cx) (W : WX) (f : D → D → IH → Re D) (r : R2) : Prop := ∀ ρ h H σ x y v w (Q : VK), Sim (km X) ρ h H → Rep (km X) H ρ h.length x v → Rep (km X) H ρ h.length y w → Post (km X) W (rD X) ρ h.length H σ (f x y h) Q → r v w H Q
def AdL (X : Cx) (W : WX) (f : List D → IH → Re D) (r : List V → Hp → VK → Prop) : Prop := ∀ ρ h H σ xs vs (Q : VK), Sim (km X) ρ h H → RepL (km X) H ρ h.length xs vs → Post (km X) W (rD X) ρ h.length H σ (f xs h) Q → r vs H Q
section
variable {X : Cx} {W : WX} {ρ : Nat → Addr} {N : Nat} {H : Hp} {h : IH} {σ : L2.St} {Q : VK}
theorem Rep.intI {i : Int} {v : V} (r : Rep (km X) H ρ N (.int i) v) : v = .int i := by cases r; rfl
theorem Rep.blI {i : Bool} {v : V} (r : Rep (km X) H ρ N (.bl i) v) : v = .bl i := by cases r; rfl
theorem Rep.strI {i : Str} {v : V} (r : Rep (km X) H ρ N (.str i) v) : v = .str i := by cases r; rfl
theorem Rep.nonI {v : V} (r : Rep (km X) H ρ N .non v) : v = .non := by cases r; rfl
theorem Rep.refI {n : Nat} {v : V} (r : Rep (km X) H ρ N (.ref n) v) : v = .ref (ρ n) ∧ n < N := by
  cases r with
  | ref q => exact ⟨rfl, q⟩
theorem Rep.tupI {xs : List D} {v : V} (r : Rep (km X) H ρ N (.tup xs) v) : ∃ a vs, v = .ref a ∧ SqT X.K H a vs ∧ RepL (km X) H ρ N xs vs := by
  cases r with
  | tup q r => exact ⟨_, _, rfl, q, r⟩
theorem sc_rep {d : D} {v w : V} (e : d.sc = some w) (r : Rep (km X) H ρ N d v) : v = w ∧ flatV v = true := by
  cases d with
  | non => cases e; cases r; exact ⟨rfl, rfl⟩
  | bl b => cases e; cases r; exact ⟨rfl, rfl⟩
  | int b => cases e; cases r; exact ⟨rfl, rfl⟩
  | str b => cases e; cases r; exact ⟨rfl, rfl⟩
  | tup _ => cases e
  | ref _ => cases e
  | glo _ => cases e
theorem scs_rep : ∀ {ds : List D} {vs ws : List V}, scs ds = some ws → RepL (km X) H ρ N ds vs → vs = ws ∧ vs.all flatV = true
  | [], vs, ws, e, r => by
    cases r
    cases e
    exact ⟨rfl, rfl⟩
  | d :: ds, _, ws, e, .cons a b => by
    unfold scs at e
    cases e1 : d.sc with
    | none => rw [e1] at e; cases e
    | some w =>
      cases e2 : scs ds with
      | none => rw [e1, e2] at e; cases e
      | some w' =>
        rw [e1, e2] at e
        cases e
        obtain ⟨rfl, f1⟩ := sc_rep e1 a
        obtain ⟨rfl, f2⟩ := scs_rep e2 b
        exact ⟨rfl, by rw [List.all_cons, f1, f2]; rfl⟩
/-- the items as the layer has them -/
theorem items_rep {d : D} {xs : List D} {v : V} (S : Sim (km X) ρ h H) (e : items h d = some xs) (r : Rep (km X) H ρ h.length d v) : ∃ a vs, v = .ref a ∧ RepL (km X) H ρ h.length xs vs ∧ (SqL X.K H a vs ∨ SqT X.K H a vs) := by
  cases d with
  | tup ys =>
    cases e
    obtain ⟨a, vs, rfl, q, r⟩ := r.tupI
    exact ⟨a, vs, rfl, r, .inr q⟩
  | ref n =>
    obtain ⟨rfl, hn⟩ := r.refI
    unfold items at e
    cases e1 : h[n]? with
    | none => simp [e1] at e
    | some o =>
      have ob := S.ob n o e1
      cases o with
      | lst ys =>
        simp [e1] at e
        subst e
        obtain ⟨vs, q, r⟩ := ob
        exact ⟨_, vs, rfl, r, .inl (SqL.of q)⟩
      | fro ys =>
        simp [e1] at e
        subst e
        obtain ⟨vs, q, r⟩ := ob
        exact ⟨_, vs, rfl, r, .inl q.sq⟩
      | ins c fs => simp [e1] at e
  | non => cases e
  | bl _ => cases e
  | int _ => cases e
  | str _ => cases e
  | glo _ => cases e
theorem items_ref {n : Nat} {xs : List D} (S : Sim (km X) ρ h H) (e : items h (.ref n) = some xs) : ∃ vs, RepL (km X) H ρ h.length xs vs ∧ SqL X.K H (ρ n) vs := by
  unfold items at e
  cases e1 : h[n]? with
  | none => simp [e1] at e
  | some o =>
    have ob := S.ob n o e1
    cases o with
    | lst ys =>
      simp [e1] at e
      subst e
      obtain ⟨vs, q, r⟩ := ob
      exact ⟨vs, r, SqL.of q⟩
    | fro ys =>
      simp [e1] at e
      subst e
      obtain ⟨vs, q, r⟩ := ob
      exact ⟨vs, r, q.sq⟩
    | ins c fs => simp [e1] at e
theorem lst_at {n : Nat} {xs : List D} (S : Sim (km X) ρ h H) (e : h[n]? = some (.lst xs)) : ∃ vs, H (ρ n) = some (.lst vs) ∧ RepL (km X) H ρ h.length xs vs := S.ob n _ e
theorem truth_rep {d : D} {k : Bool} {v : V} (S : Sim (km X) ρ h H) (e : truth h d = some k) (r : Rep (km X) H ρ h.length d v) : TruV X.K v H k := by
  have go : ∀ {d : D}, (items h d).map (fun xs => !xs.isEmpty) = some k → Rep (km X) H ρ h.length d v → TruV X.K v H k := fun {d} e r => by
    cases e1 : items h d with
    | none => rw [e1] at e; cases e
    | some xs =>
      rw [e1] at e
      cases e
      obtain ⟨a, vs, rfl, rl, q⟩ := items_rep S e1 r
      have em : xs.isEmpty = vs.isEmpty := by cases rl <;> rfl
      rcases q with q | q
      · exact .inl ⟨vs, q, by show (!xs.isEmpty) = !vs.isEmpty; rw [em]⟩
      · exact .inr (.inl ⟨vs, q, by show (!xs.isEmpty) = !vs.isEmpty; rw [em]⟩)
  cases d with
  | non => cases e; cases r; exact rfl
  | bl b => cases e; cases r; exact rfl
  | int b => cases e; cases r; exact rfl
  | str b =>
    have e : (if b.length ≤ sizeLine then some ((b.length : Int) != 0) else none) = some k := e
    by_cases q : b.length ≤ sizeLine
    · rw [if_pos q] at e
      cases e
      cases r
      exact ⟨q, rfl⟩
    · rw [if_neg q] at e
      cases e
  | tup _ => exact go (by simpa only [truth] using e) r
  | ref _ => exact go (by simpa only [truth] using e) r
  | glo _ => simp [truth, items] at e
/-- a new list -/
theorem Post.newl {xs : List D} {vs : List V} {p : Addr} (S : Sim (km X) ρ h H) (P : Post (km X) W (rD X) ρ h.length H σ (alloc (.lst xs) h) Q) (r : RepL (km X) H ρ h.length xs vs) (hp : H p = none) : Q (.ref p) (upd H p (.lst vs)) := by
  have hp' : ∀ u, H p = Option.some u → (∀ vs, u ≠ .tup vs) ∧ ∀ b vs, u ≠ .frz b vs := fun u e => by rw [hp] at e; cases e
  have A : Aft (km X) ρ h.length H (ext ρ h.length p) (h ++ [.lst xs]) (upd H p (.lst vs)) :=
    Aft.alloc S hp ⟨vs, upd_same, r.mono (SqT.keep hp') (fun n hn => ext_lt hn) (Nat.le_succ _)⟩
  have q := P (.ref p) _ _ A
  refine q ?_
  have z : Rep (km X) (upd H p (.lst vs)) (ext ρ h.length p) (h ++ [O.lst xs]).length (.ref h.length) (.ref (ext ρ h.length p h.length)) := .ref (by simp)
  rw [ext_eq] at z
  exact z
theorem Post.newt {xs : List D} {vs : List V} {p : Addr} (S : Sim (km X) ρ h H) (P : Post (km X) W (rD X) ρ h.length H σ (.ok (.tup xs) h) Q) (r : RepL (km X) H ρ h.length xs vs) (hp : H p = none) : Q (.ref p) (upd H p (.tup vs)) := by
  have hp' : ∀ u, H p = Option.some u → (∀ vs, u ≠ .tup vs) ∧ ∀ b vs, u ≠ .frz b vs := fun u e => by rw [hp] at e; cases e
  exact P (.ref p) _ _ (Aft.tuple S hp) (.tup (SqT.of upd_same) (r.mono (SqT.keep hp') (fun _ _ => rfl) (Nat.le_refl _)))
/-- a list changed -/
theorem Post.setl {n : Nat} {xs ys : List D} {ws : List V} {d : D} {v : V} (S : Sim (km X) ρ h H) (P : Post (km X) W (rD X) ρ h.length H σ (.ok d (h.set n (.lst ys))) Q) (e : h[n]? = some (.lst xs)) (r : RepL (km X) H ρ h.length ys ws) (rv : Rep (km X) H ρ h.length d v) :
    Q v (upd H (ρ n) (.lst ws)) := by
  obtain ⟨us, hu, _⟩ := lst_at S e
  have hp' : ∀ u, H (ρ n) = Option.some u → (∀ vs, u ≠ .tup vs) ∧ ∀ b vs, u ≠ .frz b vs := fun u q => by
    rw [hu] at q
    cases q
    exact ⟨fun _ z => (by cases z), fun _ _ z => (by cases z)⟩
  have A : Aft (km X) ρ h.length H ρ (h.set n (.lst ys)) (upd H (ρ n) (.lst ws)) := Aft.write S e rfl ⟨ws, upd_same, r.mono (SqT.keep hp') (fun _ _ => rfl) (Nat.le_refl _)⟩ rfl
  refine P v _ _ A ?_
  have z := rv.mono (SqT.keep (o := .lst ws) hp') (fun n _ => (rfl : ρ n = ρ n)) (Nat.le_refl _)
  simpa using z
theorem cutV_rep {xs : List D} {vs : List V} {lo hi : Option Int} (r : RepL (km X) H ρ N xs vs) : RepL (km X) H ρ N (cutD xs lo hi) (cutV vs lo hi) := by
  unfold cutD cutV
  rw [r.length]
  exact (r.drop _).take _
theorem atI_rep {xs : List D} {vs : List V} {i : Int} {d : D} (r : RepL (km X) H ρ N xs vs) (e : atI xs i = some d) : ∃ v, atI vs i = some v ∧ Rep (km X) H ρ N d v := by
  unfold atI at e ⊢
  rw [r.length] at e
  cases e1 : ixN vs.length i with
  | none => rw [e1] at e; cases e
  | some j =>
    rw [e1] at e
    obtain ⟨v, h1, h2⟩ := r.get e
    exact ⟨v, h1, h2⟩
theorem isbs_rep : ∀ {ds : List D} {vs : List V} {bs : List Bool}, isbs ds = some bs → RepL (km X) H ρ N ds vs → vs = bs.map V.bl
  | [], _, _, e, r => by cases r; cases e; rfl
  | d :: ds, _, bs, e, .cons a b => by
    cases d <;> first | (cases e; done) | skip
    rename_i k
    unfold isbs at e
    cases e2 : isbs ds with
    | none => rw [e2] at e; cases e
    | some l =>
      rw [e2] at e
      cases e
      rw [a.blI, isbs_rep e2 b]
      rfl
theorem isints_rep : ∀ {ds : List D} {vs : List V} {bs : List Int}, isints ds = some bs → RepL (km X) H ρ N ds vs → vs = bs.map V.int
  | [], _, _, e, r => by cases r; cases e; rfl
  | d :: ds, _, bs, e, .cons a b => by
    cases d <;> first | (cases e; done) | skip
    rename_i k
    unfold isints at e
    cases e2 : isints ds with
    | none => rw [e2] at e; cases e
    | some l =>
      rw [e2] at e
      cases e
      rw [a.intI, isints_rep e2 b]
      rfl
theorem isstrs_rep : ∀ {ds : List D} {vs : List V} {bs : List Str}, isstrs ds = some bs → RepL (km X) H ρ N ds vs → vs = bs.map V.str
  | [], _, _, e, r => by cases r; cases e; rfl
  | d :: ds, _, bs, e, .cons a b => by
    cases d <;> first | (cases e; done) | skip
    rename_i k
    unfold isstrs at e
    cases e2 : isstrs ds with
    | none => rw [e2] at e; cases e
    | some l =>
      rw [e2] at e
      cases e
      rw [a.strI, isstrs_rep e2 b]
      rfl
end
end Ly
/-! LyD: operators, comparisons, built-ins, methods. -/
namespace Ly
open PySem PySem.Spec PyProof.Rows L2
section
variable {X : Cx} {W : WX}
/-! ### operators -/
def rAddU (K : PySem.W.Frag) : R2 := fun x y H Q => rI0 (fun i j => .int (i + j)) x y H Q ∨ (∃ i j, x = .str i ∧ y = .str j ∧ i.length + j.length ≤ sizeLine ∧ Q (.str (i ++ j)) H) ∨ L2.rCat x y H Q ∨ rCatA K x y H Q
theorem op_addU : OpR X (binaryOp .Add) (rAddU X.K) := op_add.or (op_add_str.or (op_cat.or op_catA))
def rMulU : R2 := fun x y H Q => rI CMul (fun i j => .int (i * j)) x y H Q ∨ rRep x y H Q
theorem op_mulU : OpR X (binaryOp .Mult) rMulU := op_mul.or op_rep
theorem ad_add : Ad2 X W (bin .Add) (rAddU X.K) := by
  intro ρ h H σ x y v w Q S rx ry P
  cases x <;> cases y <;> try (exact False.elim P)
  · rename_i i j
    rw [rx.intI, ry.intI]
    exact .inl ⟨i, j, rfl, rfl, Post.ok S P (.int _)⟩
  · rename_i a b
    rw [rx.strI, ry.strI]
    have P : Post (km X) W (rD X) ρ h.length H σ (if a.length + b.length ≤ sizeLine then .ok (.str (a ++ b)) h else .no) Q := P
    by_cases q : a.length + b.length ≤ sizeLine
    · rw [if_pos q] at P
      exact .inr (.inl ⟨a, b, rfl, rfl, q, Post.ok S P (.str _)⟩)
    · rw [if_neg q] at P
      exact P.elim
  · rename_i xs ys
    obtain ⟨a, vs, rfl, qa, ra⟩ := rx.tupI
    obtain ⟨b, ws, rfl, qb, rb⟩ := ry.tupI
    have P : Post (km X) W (rD X) ρ h.length H σ (if xs.length + ys.length ≤ sizeLine then .ok (.tup (xs ++ ys)) h else .no) Q := P
    by_cases q : xs.length + ys.length ≤ sizeLine
    · rw [if_pos q] at P
      have e1 := ra.length
      have e2 := rb.length
      refine .inr (.inr (.inr ⟨a, b, vs, ws, rfl, rfl, qa, qb, by omega, fun z => ?_, fun _ z => ?_, fun _ _ p hp => ?_⟩))
      · have e3 : xs = [] := by
          rw [z] at e1
          exact List.eq_nil_of_length_eq_zero e1
        rw [e3, List.nil_append] at P
        exact Post.ok S P (.tup qb rb)
      · have e3 : ys = [] := by
          rw [z] at e2
          exact List.eq_nil_of_length_eq_zero e2
        rw [e3, List.append_nil] at P
        exact Post.ok S P (.tup qa ra)
      · exact Post.newt S P (ra.append rb) hp
    · rw [if_neg q] at P
      exact P.elim
  · rename_i n m
    obtain ⟨rfl, hn⟩ := rx.refI
    obtain ⟨rfl, hm⟩ := ry.refI
    have P : Post (km X) W (rD X) ρ h.length H σ (match h[n]?, h[m]? with
      | some (.lst xs), some (.lst ys) => if xs.length + ys.length ≤ sizeLine then alloc (.lst (xs ++ ys)) h else .no
      | _, _ => .no) Q := P
    split at P
    · rename_i xs ys e1 e2
      obtain ⟨vs, q1, r1⟩ := lst_at S e1
      obtain ⟨ws, q2, r2⟩ := lst_at S e2
      by_cases q : xs.length + ys.length ≤ sizeLine
      · rw [if_pos q] at P
        refine .inr (.inr (.inl ⟨_, _, vs, ws, rfl, rfl, q1, q2, by rw [← r1.length, ← r2.length]; exact q, fun p hp => ?_⟩))
        exact Post.newl S P (r1.append r2) hp
      · rw [if_neg q] at P
        exact P.elim
    · exact P.elim
theorem ad_sub : Ad2 X W (bin .Sub) (rI0 fun i j => .int (i - j)) := by
  intro ρ h H σ x y v w Q S rx ry P
  cases x <;> cases y <;> try (exact False.elim P)
  rename_i i j
  rw [rx.intI, ry.intI]
  exact ⟨i, j, rfl, rfl, Post.ok S P (.int _)⟩
theorem rep_rep {ρ : Nat → Addr} {N : Nat} {H : Hp} {xs : List D} {vs : List V} (r : RepL (km X) H ρ N xs vs) : ∀ k : Nat, RepL (km X) H ρ N (List.replicate k xs).flatten (List.replicate k vs).flatten
  | 0 => .nil
  | k + 1 => by
    rw [List.replicate_succ, List.replicate_succ, List.flatten_cons, List.flatten_cons]
    exact r.append (rep_rep r k)
theorem ad_mul : Ad2 X W (bin .Mult) rMulU := by
  intro ρ h H σ x y v w Q S rx ry P
  cases x <;> cases y <;> try (exact False.elim P)
  · rename_i i j
    rw [rx.intI, ry.intI]
    have P : Post (km X) W (rD X) ρ h.length H σ (if CMul i j then .ok (.int (i * j)) h else .no) Q := P
    by_cases q : CMul i j
    · rw [if_pos q] at P
      exact .inl ⟨i, j, rfl, rfl, q, Post.ok S P (.int _)⟩
    · rw [if_neg q] at P
      exact P.elim
  · rename_i n k
    obtain ⟨rfl, hn⟩ := rx.refI
    rw [ry.intI]
    have P : Post (km X) W (rD X) ρ h.length H σ (match h[n]? with
      | some (.lst xs) => if -(2 ^ 63) ≤ k ∧ k < 2 ^ 63 ∧ xs.length * k.toNat ≤ sizeLine then alloc (.lst (List.replicate k.toNat xs).flatten) h else .no
      | _ => .no) Q := P
    split at P
    · rename_i xs e1
      obtain ⟨vs, q1, r1⟩ := lst_at S e1
      by_cases q : -(2 ^ 63) ≤ k ∧ k < 2 ^ 63 ∧ xs.length * k.toNat ≤ sizeLine
      · rw [if_pos q] at P
        obtain ⟨h1, h2, h3⟩ := q
        exact .inr ⟨_, k, vs, rfl, rfl, q1, h1, h2, by rw [← r1.length]; exact h3, fun p hp => Post.newl S P (rep_rep r1 _) hp⟩
      · rw [if_neg q] at P
        exact P.elim
    · exact P.elim
theorem ad_int {op : Operator} {C : Int → Int → Prop} [dc : ∀ i j, Decidable (C i j)] {g : Int → Int → Int} (e : ∀ i j h, bin op (.int i) (.int j) h = if C i j then .ok (.int (g i j)) h else .no) (e' : ∀ x y h, (∀ i j, ¬ (x = .int i ∧ y = .int j)) → bin op x y h = .no) :
    Ad2 X W (bin op) (rI C fun i j => .int (g i j)) := by
  intro ρ h H σ x y v w Q S rx ry P
  by_cases z : ∃ i j, x = .int i ∧ y = .int j
  · obtain ⟨i, j, rfl, rfl⟩ := z
    rw [rx.intI, ry.intI]
    rw [e] at P
    by_cases q : C i j
    · rw [if_pos q] at P
      exact ⟨i, j, rfl, rfl, q, Post.ok S P (.int _)⟩
    · rw [if_neg q] at P
      exact P.elim
  · rw [e' x y h fun i j q => z ⟨i, j, q⟩] at P
    exact P.elim
theorem ad_fdiv : Ad2 X W (bin .FloorDiv) (rI CDiv fun i j => .int (i / j)) := ad_int (C := CDiv) (fun _ _ _ => rfl) fun x y h q => by
  cases x <;> cases y <;> first | rfl | exact absurd ⟨rfl, rfl⟩ (q _ _)
theorem ad_mod : Ad2 X W (bin .Mod) (rI (fun _ j => 0 < j) fun i j => .int (i % j)) := ad_int (C := fun _ j => 0 < j) (fun _ _ _ => rfl) fun x y h q => by
  cases x <;> cases y <;> first | rfl | exact absurd ⟨rfl, rfl⟩ (q _ _)
theorem ad_pow : Ad2 X W (bin .Pow) (rI CPow fun i j => .int (i ^ j.toNat)) := ad_int (C := CPow) (fun _ _ _ => rfl) fun x y h q => by
  cases x <;> cases y <;> first | rfl | exact absurd ⟨rfl, rfl⟩ (q _ _)
/-- the operators that are served -/
def rOp (K : PySem.W.Frag) : Operator → R2
  | .Add => rAddU K
  | .Sub => rI0 fun i j => .int (i - j)
  | .Mult => rMulU
  | .FloorDiv => rI CDiv fun i j => .int (i / j)
  | .Mod => rI (fun _ j => 0 < j) fun i j => .int (i % j)
  | .Pow => rI CPow fun i j => .int (i ^ j.toNat)
  | _ => fun _ _ _ _ => False
theorem op_bin (op : Operator) : OpR X (binaryOp op) (rOp X.K op) := by
  cases op with
  | Add => exact op_addU
  | Sub => exact op_sub
  | Mult => exact op_mulU
  | FloorDiv => exact op_fdiv
  | Mod => exact op_mod
  | Pow => exact op_pow
  | _ => exact fun _ _ _ _ _ _ _ _ _ _ _ _ z => z.elim
theorem ad_bin (op : Operator) : Ad2 X W (bin op) (rOp X.K op) := by
  cases op with
  | Add => exact ad_add
  | Sub => exact ad_sub
  | Mult => exact ad_mul
  | FloorDiv => exact ad_fdiv
  | Mod => exact ad_mod
  | Pow => exact ad_pow
  | _ => exact fun _ _ _ _ x y _ _ _ _ _ _ P => by cases x <;> cases y <;> exact P
/-! ### comparisons -/
def cmpR (op : CmpOp) (x y : D) (h : IH) : Re D := match cmp op x y h with
  | some k => .ok (.bl k) h
  | none => .no
def rInU (K : PySem.W.Frag) (neg : Bool) : R2 := fun x y H Q => rIn K neg x y H Q ∨ (∃ (c : Nat) (z : Str), x = .str ⟨#[c]⟩ ∧ y = .str z ∧ Q (.bl (if neg then !decide (c ∈ z.cps.toList) else decide (c ∈ z.cps.toList))) H)
def rCmp (K : PySem.W.Frag) : CmpOp → R2
  | .Lt => rI0 fun i j => .bl (decide (i < j))
  | .LtE => rI0 fun i j => .bl (decide (i ≤ j))
  | .Gt => rI0 fun i j => .bl (decide (j < i))
  | .GtE => rI0 fun i j => .bl (decide (j ≤ i))
  | .Is => fun x y H Q => y = .non ∧ Q (.bl (decide (x = .non))) H
  | .IsNot => fun x y H Q => y = .non ∧ Q (.bl (!decide (x = .non))) H
  | .In => rInU K false
  | .NotIn => rInU K true
  | .Eq => L2.rEq
  | .NotEq => rNe
theorem op_cmp (op : CmpOp) : OpR X (compareOp op) (rCmp X.K op) := by
  cases op with
  | Lt => exact op_lt
  | LtE => exact op_le
  | Gt => exact op_gt
  | GtE => exact op_ge
  | Is => exact op_isN
  | IsNot => exact op_notN
  | In => exact op_in_seq.or op_in_sign
  | NotIn => exact op_notIn_seq.or op_notIn_sign
  | Eq => exact op_eq
  | NotEq => exact op_ne
theorem isNon_rep {ρ : Nat → Addr} {N : Nat} {H : Hp} {x : D} {v : V} {k : Bool} (r : Rep (km X) H ρ N x v) (e : x.isNon = some k) : decide (v = .non) = k := by
  cases r <;> first | (cases e; rfl) | cases e
theorem isin_rep {ρ : Nat → Addr} {h : IH} {H : Hp} {x y : D} {v w : V} {k : Bool} (S : Sim (km X) ρ h H) (rx : Rep (km X) H ρ h.length x v) (ry : Rep (km X) H ρ h.length y w) (e : isin x y h = some k) :
    (∃ p xs, w = .ref p ∧ (SqL X.K H p xs ∨ SqT X.K H p xs) ∧ flatV v = true ∧ xs.all flatV = true ∧ inV v xs = k) ∨ (∃ (c : Nat) (z : Str), v = .str ⟨#[c]⟩ ∧ w = .str z ∧ decide (c ∈ z.cps.toList) = k) := by
  have go : (match x.sc, (items h y).bind scs with
    | some v, some vs => some (inV v vs)
    | _, _ => none) = some k → (∃ p xs, w = .ref p ∧ (SqL X.K H p xs ∨ SqT X.K H p xs) ∧ flatV v = true ∧ xs.all flatV = true ∧ inV v xs = k) := fun e => by
    cases e1 : x.sc with
    | none => rw [e1] at e; cases e
    | some v' =>
      obtain ⟨rfl, f1⟩ := sc_rep e1 rx
      cases e2 : items h y with
      | none => rw [e1, e2] at e; cases e
      | some ys =>
        obtain ⟨a, vs, rfl, rl, q⟩ := items_rep S e2 ry
        cases e3 : scs ys with
        | none => simp [e1, e2, e3] at e
        | some ws =>
          obtain ⟨rfl, f2⟩ := scs_rep e3 rl
          simp [e1, e2, e3] at e
          exact ⟨a, vs, rfl, q, f1, f2, e⟩
  by_cases z : ∃ a b, x = .str a ∧ y = .str b
  · obtain ⟨a, b, rfl, rfl⟩ := z
    right
    have e : (match a.cps.toList with
      | [c] => some (decide (c ∈ b.cps.toList))
      | _ => none) = some k := e
    split at e
    · rename_i c hc
      refine ⟨c, b, ?_, ry.strI, Option.some.inj e⟩
      rw [rx.strI]
      congr 1
      obtain ⟨cps⟩ := a
      obtain ⟨l⟩ := cps
      simp at hc
      rw [hc]
    · cases e
  · left
    refine go ?_
    rw [← e]
    cases x <;> cases y <;> first | rfl | exact absurd ⟨_, _, rfl, rfl⟩ z
theorem ad_cmp (op : CmpOp) : Ad2 X W (cmpR op) (rCmp X.K op) := by
  intro ρ h H σ x y v w Q S rx ry P
  unfold cmpR at P
  cases e : cmp op x y h with
  | none => rw [e] at P; exact P.elim
  | some k =>
    rw [e] at P
    have q : Q (.bl k) H := Post.ok S P (.bl k)
    cases op with
    | In =>
      rcases isin_rep S rx ry e with ⟨p, xs, rfl, h1, h2, h3, h4⟩ | ⟨c, z, rfl, rfl, h1⟩
      · exact .inl ⟨p, xs, rfl, h1, h2, h3, by rw [if_neg Bool.false_ne_true, h4]; exact q⟩
      · exact .inr ⟨c, z, rfl, rfl, by rw [if_neg Bool.false_ne_true, h1]; exact q⟩
    | NotIn =>
      have e' : (isin x y h).map (!·) = some k := by cases x <;> cases y <;> exact e
      cases e1 : isin x y h with
      | none => rw [e1] at e'; cases e'
      | some k' =>
        rw [e1] at e'
        cases e'
        rcases isin_rep S rx ry e1 with ⟨p, xs, rfl, h1, h2, h3, h4⟩ | ⟨c, z, rfl, rfl, h1⟩
        · exact .inl ⟨p, xs, rfl, h1, h2, h3, by rw [if_pos rfl, h4]; exact q⟩
        · exact .inr ⟨c, z, rfl, rfl, by rw [if_pos rfl, h1]; exact q⟩
    | Is =>
      cases y <;> try (cases x <;> cases e <;> done)
      cases ry
      have e2 : x.isNon = some k := by cases x <;> exact e
      exact ⟨rfl, by rw [isNon_rep rx e2]; exact q⟩
    | IsNot =>
      cases y <;> try (cases x <;> cases e <;> done)
      cases ry
      have e2 : x.isNon.map (!·) = some k := by cases x <;> exact e
      cases e3 : x.isNon with
      | none => rw [e3] at e2; cases e2
      | some k' =>
        rw [e3] at e2
        cases e2
        exact ⟨rfl, by rw [isNon_rep rx e3]; exact q⟩
    | Eq =>
      cases x <;> cases y <;> first | (cases e; done) | skip
      · rename_i i j
        rw [rx.intI, ry.intI]
        refine ⟨rfl, ?_⟩
        rw [dec_int, Bool.beq_eq_decide_eq, show decide (i = j) = k from Option.some.inj e]
        exact q
      · rename_i i j
        rw [rx.strI, ry.strI]
        refine ⟨rfl, ?_⟩
        rw [dec_str, Bool.beq_eq_decide_eq, show decide (i = j) = k from Option.some.inj e]
        exact q
    | NotEq =>
      cases x <;> cases y <;> first | (cases e; done) | skip
      · rename_i i j
        rw [rx.intI, ry.intI]
        refine ⟨rfl, ?_⟩
        rw [dec_int, Bool.beq_eq_decide_eq, show (!decide (i = j)) = k from Option.some.inj e]
        exact q
      · rename_i i j
        rw [rx.strI, ry.strI]
        refine ⟨rfl, ?_⟩
        rw [dec_str, Bool.beq_eq_decide_eq, show (!decide (i = j)) = k from Option.some.inj e]
        exact q
    | _ =>
      cases x <;> cases y <;> first | (cases e; done) | skip
      rename_i i j
      rw [rx.intI, ry.intI]
      cases e
      exact ⟨i, j, rfl, rfl, q⟩
end
end Ly
/-! LyE: built-ins and methods. -/
namespace Ly
open PySem PySem.Spec PyProof.Rows L2
section
variable {X : Cx} {W : WX} {ρ : Nat → Addr} {H : Hp} {h : IH}
theorem datS_dp : ∀ {d : D} {p : PyData} {v : V}, datS d = some p → Rep (km X) H ρ h.length d v → Dp X.K H v p ∧ p.showable = true ∧ p.hasDict = false ∧ p.depth ≤ 0
  | .non, pp, _, e, r => by
    cases e
    cases r
    exact ⟨.non, rfl, rfl, Nat.le_refl _⟩
  | .bl b, pp, _, e, r => by
    cases e
    cases r
    exact ⟨.bl _, rfl, rfl, Nat.le_refl _⟩
  | .int i, pp, _, e, r => by
    have e : (if i.natAbs.log2 < 1920 then some (PyData.int i) else none) = some pp := e
    by_cases q : i.natAbs.log2 < 1920
    · rw [if_pos q] at e
      cases e
      cases r
      exact ⟨.int _, decide_eq_true q, rfl, Nat.le_refl _⟩
    · rw [if_neg q] at e
      cases e
  | .str x, pp, _, e, r => by
    cases e
    cases r
    exact ⟨.str _, rfl, rfl, Nat.le_refl _⟩
  | .tup _, _, _, e, _ => by cases e
  | .ref _, _, _, e, _ => by cases e
  | .glo _, _, _, e, _ => by cases e
theorem datl_dp {f : D → Option PyData} {k : Nat} (hf : ∀ d p v, f d = some p → Rep (km X) H ρ h.length d v → Dp X.K H v p ∧ p.showable = true ∧ p.hasDict = false ∧ p.depth ≤ k) :
    ∀ {d : List D} {p : List PyData} {v : List V}, datl f d = some p → RepL (km X) H ρ h.length d v → DpAll X.K H v p ∧ PyData.showableAll p = true ∧ PyData.hasDictAll p = false ∧ PyData.depthAll p ≤ k
  | [], pp, _, e, r => by
    cases e
    cases r
    exact ⟨.nil, rfl, rfl, Nat.zero_le _⟩
  | d :: ds, pp, _, e, .cons a b => by
    have e : (match f d, datl f ds with
      | some x, some xs => some (x :: xs)
      | _, _ => none) = some pp := e
    split at e
    · rename_i x xs e1 e2
      cases e
      obtain ⟨h1, h2, h3, h4⟩ := hf _ _ _ e1 a
      obtain ⟨g1, g2, g3, g4⟩ := datl_dp hf e2 b
      exact ⟨.cons h1 g1, by simp only [PyData.showableAll, h2, g2]; rfl, by simp only [PyData.hasDictAll, h3, g3]; rfl, by simp only [PyData.depthAll]; omega⟩
    · cases e
theorem dat_dp (S : Sim (km X) ρ h H) : ∀ (k : Nat) (d : D) (p : PyData) (v : V), dat h k d = some p → Rep (km X) H ρ h.length d v → Dp X.K H v p ∧ p.showable = true ∧ p.hasDict = false ∧ p.depth ≤ k
  | 0, d, p, v, e, r => datS_dp e r
  | k + 1, d, p, v, e, r => by
    have go : datS d = some p → Dp X.K H v p ∧ p.showable = true ∧ p.hasDict = false ∧ p.depth ≤ k + 1 := fun e => by
      obtain ⟨h1, h2, h3, h4⟩ := datS_dp e r
      exact ⟨h1, h2, h3, by omega⟩
    cases d with
    | tup xs =>
      have e : (datl (dat h k) xs).map PyData.tuple = some p := e
      cases e1 : datl (dat h k) xs with
      | none => rw [e1] at e; cases e
      | some ps =>
        rw [e1] at e
        cases e
        obtain ⟨a, vs, rfl, q, rl⟩ := r.tupI
        obtain ⟨h1, h2, h3, h4⟩ := datl_dp (dat_dp S k) e1 rl
        exact ⟨.tup q h1, h2, h3, by simp only [PyData.depth]; omega⟩
    | ref n =>
      obtain ⟨rfl, hn⟩ := r.refI
      have e : (match h[n]? with
        | some (.lst xs) => (datl (dat h k) xs).map PyData.list
        | _ => none) = some p := e
      split at e
      · rename_i xs e0
        cases e1 : datl (dat h k) xs with
        | none => rw [e1] at e; cases e
        | some ps =>
          rw [e1] at e
          cases e
          obtain ⟨vs, q, rl⟩ := lst_at S e0
          obtain ⟨h1, h2, h3, h4⟩ := datl_dp (dat_dp S k) e1 rl
          exact ⟨.lst (SqL.of q) h1, h2, h3, by simp only [PyData.depth]; omega⟩
      · cases e
    | non => exact go e
    | bl _ => exact go e
    | int _ => exact go e
    | str _ => exact go e
    | glo _ => exact go e
def rRepr (K : PySem.W.Frag) : List V → Hp → VK → Prop := fun xs H Q => ∃ a d, xs = [.ref a] ∧ Dp K H (.ref a) d ∧ d.showable = true ∧ d.hasDict = false ∧ d.depth ≤ 20 ∧ d.shown.length ≤ sizeLine ∧ Q (.str d.shown) H
theorem call_repr (hg : X.A.guards = some []) (hu : X.A.units + 64 < cLine) : CallR X (.builtin "repr") (rRepr X.K) := by
  intro pins s σ H xs us Q I r hh
  obtain ⟨a, d, rfl, dp, sh, nd, dd, sz, q⟩ := hh
  have e := r.ref1
  subst e
  obtain ⟨as, rd⟩ := Dp.reads I d _ _ dp rfl
  exact repr_of_reads' rd sh (PyData.noDict_hsm nd) hg (by omega) (fun _ _ e => e) (fun h' u tk k => ⟨.str d.shown, H, I.kept k, ⟨u, rfl⟩, q⟩) sz
/-- the served built-ins -/
def rBlt (K : PySem.W.Frag) (f : Str) : List V → Hp → VK → Prop :=
  if f = "len" then (fun xs H Q => ∃ x n, xs = [x] ∧ LenV K x H n ∧ Q (.int n) H)
  else if f = "list" then (fun xs H Q => ∃ p ys, xs = [.ref p] ∧ (SqL K H p ys ∨ SqT K H p ys) ∧ ∀ l, H l = none → Q (.ref l) (upd H l (.lst ys)))
  else if f = "all" then rAll K
  else if f = "int" then (fun xs H Q => (∃ i, xs = [.int i] ∧ Q (.int i) H) ∨ ∃ k, xs = [.bl k] ∧ Q (.int (if k then 1 else 0)) H)
  else if f = "repr" then rRepr K
  else fun _ _ _ => False
/-- how a built-in is found: a function or a type -/
inductive Bf where
  | fn (id : String) | ty (T : String)
def Bf.v : Bf → Value
  | .fn id => .builtin id
  | .ty T => .type T
def bltIs (f : Str) : Option Bf :=
  if f = "len" then some (.fn "len") else if f = "list" then some (.ty "list") else if f = "all" then some (.fn "all") else if f = "int" then some (.ty "int") else if f = "repr" then some (.fn "repr") else none
theorem call_blt (hc : X.calm = true) (hg : X.A.guards = some []) (hu : X.A.units + 64 < cLine) {f : Str} {u : Bf} (e : bltIs f = some u) : CallR X u.v (rBlt X.K f) := by
  unfold bltIs at e
  unfold rBlt
  by_cases h1 : f = "len"
  · rw [if_pos h1] at e ⊢
    cases e
    exact call_len
  rw [if_neg h1] at e ⊢
  by_cases h2 : f = "list"
  · rw [if_pos h2] at e ⊢
    cases e
    exact call_list_of
  rw [if_neg h2] at e ⊢
  by_cases h3 : f = "all"
  · rw [if_pos h3] at e ⊢
    cases e
    exact cr_all hc
  rw [if_neg h3] at e ⊢
  by_cases h4 : f = "int"
  · rw [if_pos h4] at e ⊢
    cases e
    exact call_int1
  rw [if_neg h4] at e ⊢
  by_cases h5 : f = "repr"
  · rw [if_pos h5] at e ⊢
    cases e
    exact call_repr hg hu
  rw [if_neg h5] at e
  cases e
theorem ad_blt (f : Str) : AdL X W (blt f) (rBlt X.K f) := by
  intro ρ h H σ xs vs Q S r P
  unfold blt at P
  unfold rBlt
  by_cases h1 : f = "len"
  · rw [if_pos h1] at P ⊢
    split at P
    · cases r with
      | cons a b =>
        cases b
        cases a
        split at P
        · exact ⟨_, _, rfl, ⟨by assumption, rfl⟩, Post.ok S P (.int _)⟩
        · exact P.elim
    · cases r with
      | cons a b =>
        cases b
        split at P
        · rename_i ys e
          obtain ⟨p, ws, rfl, rl, q⟩ := items_rep S e a
          refine ⟨_, ys.length, rfl, ?_, Post.ok S P (.int _)⟩
          rw [rl.length]
          rcases q with q | q
          · exact .inl ⟨ws, q, rfl⟩
          · exact .inr ⟨ws, q, rfl⟩
        · exact P.elim
    · exact P.elim
  rw [if_neg h1] at P ⊢
  by_cases h2 : f = "list"
  · rw [if_pos h2] at P ⊢
    split at P
    · cases r with
      | cons a b =>
        cases b
        split at P
        · rename_i ys e
          obtain ⟨p, ws, rfl, rl, q⟩ := items_rep S e a
          exact ⟨p, ws, rfl, q, fun l hl => Post.newl S P rl hl⟩
        · exact P.elim
    · exact P.elim
  rw [if_neg h2] at P ⊢
  by_cases h3 : f = "all"
  · rw [if_pos h3] at P ⊢
    split at P
    · rename_i n
      cases r with
      | cons a b =>
        cases b
        obtain ⟨rfl, hn⟩ := a.refI
        split at P
        · rename_i bs e
          cases e1 : items h (.ref n) with
          | none => rw [e1] at e; cases e
          | some ys =>
            rw [e1] at e
            obtain ⟨ws, rl, q⟩ := items_ref S e1
            rw [isbs_rep e rl] at q
            exact ⟨_, bs, rfl, q, Post.ok S P (.bl _)⟩
        · exact P.elim
    · exact P.elim
  rw [if_neg h3] at P ⊢
  by_cases h4 : f = "int"
  · rw [if_pos h4] at P ⊢
    split at P
    · cases r with
      | cons a b =>
        cases b
        rw [a.intI]
        exact .inl ⟨_, rfl, Post.ok S P (.int _)⟩
    · cases r with
      | cons a b =>
        cases b
        rw [a.blI]
        exact .inr ⟨_, rfl, Post.ok S P (.int _)⟩
    · exact P.elim
  rw [if_neg h4] at P ⊢
  by_cases h5 : f = "repr"
  · rw [if_pos h5] at P ⊢
    split at P
    · rename_i n
      cases r with
      | cons a b =>
        cases b
        split at P
        · rename_i p e
          split at P
          · obtain ⟨g1, g2, g3, g4⟩ := dat_dp S _ _ _ _ e a
            obtain ⟨rfl, hn⟩ := a.refI
            exact ⟨_, p, rfl, g1, g2, g3, g4, by assumption, Post.ok S P (.str _)⟩
          · exact P.elim
        · exact P.elim
    · exact P.elim
  rw [if_neg h5] at P
  exact P.elim
/-! ### subscripts, slices -/
theorem ad_ix : Ad2 X W Ly.sub (rIx X.K) := by
  intro ρ h H σ x y v w Q S rx ry P
  unfold Ly.sub at P
  split at P
  · rename_i i
    rw [ry.intI]
    split at P
    · rename_i z
      rw [rx.strI]
      split at P
      · split at P
        · rename_i c e
          exact .inr (.inr ⟨z, i, c, rfl, rfl, by assumption, e, Post.ok S P (.str _)⟩)
        · exact P.elim
      · exact P.elim
    · split at P
      · rename_i xs e
        obtain ⟨a, vs, rfl, rl, q⟩ := items_rep S e rx
        split at P
        · rename_i d e2
          obtain ⟨u, e3, ru⟩ := atI_rep rl e2
          have fin : Q u H := Post.ok S P ru
          rcases q with q | q
          · exact .inl ⟨a, vs, i, u, rfl, rfl, q, e3, fin⟩
          · exact .inr (.inl ⟨a, vs, i, u, rfl, rfl, q, e3, fin⟩)
        · exact P.elim
      · exact P.elim
  · exact P.elim
def rSlU (K : PySem.W.Frag) : V → Option Int → Option Int → Hp → VK → Prop := fun x lo hi H Q => rSlL K x lo hi H Q ∨ rSlA K x lo hi H Q ∨ rSlS x lo hi H Q
theorem sl_u : SlR X (rSlU X.K) := sl_list.or (sl_tupA.or sl_str)
theorem ad_slc {σ : L2.St} {x : D} {v : V} {lo hi : Option Int} {Q : VK} (S : Sim (km X) ρ h H) (rx : Rep (km X) H ρ h.length x v) (P : Post (km X) W (rD X) ρ h.length H σ (slc x lo hi h) Q) : rSlU X.K v lo hi H Q := by
  unfold slc at P
  split at P
  · rename_i z
    rw [rx.strI]
    split at P
    · exact .inr (.inr ⟨z, rfl, by assumption, Post.ok S P (.str _)⟩)
    · exact P.elim
  · rename_i xs
    obtain ⟨a, vs, rfl, q, r⟩ := rx.tupI
    have e := r.length
    rw [e] at P
    refine .inr (.inl ⟨a, vs, rfl, q, fun w => ?_, fun w p hp => ?_⟩)
    · rw [if_pos w] at P
      exact Post.ok S P (.tup q r)
    · rw [if_neg w] at P
      exact Post.newt S P (cutV_rep r) hp
  · rename_i h1 h2
    split at P
    · rename_i xs e
      obtain ⟨a, vs, rfl, rl, q⟩ := items_rep S e rx
      rcases q with q | q
      · exact .inl ⟨a, vs, rfl, q, fun p hp => Post.newl S P (cutV_rep rl) hp⟩
      · cases x with
        | tup ys => exact absurd rfl (h2 ys)
        | ref n =>
          obtain ⟨e1, _⟩ := rx.refI
          cases e1
          obtain ⟨ws, rl2, q2⟩ := items_ref S e
          exact .inl ⟨_, ws, rfl, q2, fun p hp => Post.newl S P (cutV_rep rl2) hp⟩
        | non => cases e
        | bl _ => cases e
        | int _ => cases e
        | str _ => cases e
        | glo _ => cases e
    · exact P.elim
/-! ### methods of built-in types -/
def AdM (X : Cx) (W : WX) (f : D → List D → IH → Re D) (r : V → List V → Hp → VK → Prop) : Prop := ∀ ρ h H σ x xs v vs (Q : VK), Sim (km X) ρ h H → Rep (km X) H ρ h.length x v → RepL (km X) H ρ h.length xs vs → Post (km X) W (rD X) ρ h.length H σ (f x xs h) Q → r v vs H Q
def rJoin (K : PySem.W.Frag) : V → List V → Hp → VK → Prop := fun x xs H Q => ∃ a p, ∃ ys : List Str, x = .str a ∧ xs = [.ref p] ∧ (SqL K H p (ys.map V.str) ∨ SqT K H p (ys.map V.str)) ∧ (ys.map (·.length)).sum + ys.length * a.length ≤ 16777216 ∧ Q (.str (Txt.join a ys)) H
def rMt (K : PySem.W.Frag) (m : Str) : V → List V → Hp → VK → Prop :=
  if m = "list.append" then rAppend
  else if m = "str.join" then rJoin K
  else fun _ _ _ _ => False
theorem mt_u {m n : Str} {T id : String} (e : bmT m = some (T, n, id)) : MtR X id (rMt X.K m) ∧ PlainAttrs T ∧ Slot T n id ∧ typeOf (.builtin id) = pure (.type "method_descriptor") := by
  unfold bmT at e
  unfold rMt
  by_cases h1 : m = "list.append"
  · rw [if_pos h1] at e ⊢
    cases e
    exact ⟨mt_append, PySem.F.plainAttrs_list, PySem.F.slot_list_append, PySem.F.type_list_append⟩
  rw [if_neg h1] at e ⊢
  by_cases h2 : m = "str.join"
  · rw [if_pos h2] at e ⊢
    cases e
    exact ⟨mt_join, PySem.F.plainAttrs_str, PySem.F.slot_str_join, PySem.F.type_str_join⟩
  rw [if_neg h2] at e
  cases e
theorem ad_meth (m : Str) : AdM X W (meth m) (rMt X.K m) := by
  intro ρ h H σ x xs v vs Q S rx rs P
  unfold meth at P
  unfold rMt
  by_cases h1 : m = "list.append"
  · rw [if_pos h1] at P ⊢
    split at P
    · rename_i n d
      obtain ⟨rfl, hn⟩ := rx.refI
      cases rs with
      | cons a b =>
        cases b
        split at P
        · rename_i ys e
          obtain ⟨ws, q, rl⟩ := lst_at S e
          split at P
          · refine ⟨_, ws, _, rfl, rfl, q, by rw [← rl.length]; assumption, ?_⟩
            exact Post.setl S P e (rl.append (.cons a .nil)) .non
          · exact P.elim
        · exact P.elim
    · exact P.elim
  rw [if_neg h1] at P ⊢
  by_cases h2 : m = "str.join"
  · rw [if_pos h2] at P ⊢
    split at P
    · rename_i z d
      rw [rx.strI]
      cases rs with
      | cons a b =>
        cases b
        split at P
        · rename_i ys e
          cases e1 : items h d with
          | none => rw [e1] at e; cases e
          | some ds =>
            rw [e1] at e
            obtain ⟨p, ws, rfl, rl, q⟩ := items_rep S e1 a
            rw [isstrs_rep e rl] at q
            split at P
            · exact ⟨z, p, ys, rfl, rfl, q, by assumption, Post.ok S P (.str _)⟩
            · exact P.elim
        · exact P.elim
    · exact P.elim
  rw [if_neg h2] at P
  exact P.elim
theorem bmT_T {m n : Str} {T id : String} (e : bmT m = some (T, n, id)) : T = "list" ∨ T = "str" := by
  unfold bmT at e
  split at e
  · cases e
    exact .inl rfl
  · split at e
    · cases e
      exact .inr rfl
    · cases e
/-- the receiver is of the type -/
theorem meth_ty {m n : Str} {T id : String} {σ : L2.St} {x : D} {xs : List D} {v : V} {r : D} {h1 : IH} (e : bmT m = some (T, n, id)) (S : Sim (km X) ρ h H) (rx : Rep (km X) H ρ h.length x v) (ht : typ h x = some T) : tyV X.K T v H := by
  cases x with
  | str z =>
    rw [rx.strI]
    cases ht
    exact rfl
  | ref k =>
    obtain ⟨rfl, hk⟩ := rx.refI
    unfold typ at ht
    cases e1 : h[k]? with
    | none => simp [e1] at ht
    | some o =>
      have ob := S.ob k o e1
      cases o with
      | lst ys =>
        simp [e1] at ht
        subst ht
        obtain ⟨vs, q, _⟩ := ob
        exact .inl ⟨rfl, vs, SqL.of q⟩
      | fro ys =>
        simp [e1] at ht
        subst ht
        obtain ⟨vs, q, _⟩ := ob
        exact .inl ⟨rfl, vs, q.sq⟩
      | ins _ _ => simp [e1] at ht
  | int _ =>
    rw [rx.intI]
    cases ht
    exact rfl
  | non => rcases bmT_T e with rfl | rfl <;> simp [typ] at ht
  | bl _ => rcases bmT_T e with rfl | rfl <;> simp [typ] at ht
  | tup _ => rcases bmT_T e with rfl | rfl <;> simp [typ] at ht
  | glo _ => cases ht
end
end Ly
/-! LyF: one lemma a construct. -/
namespace Ly
open PySem PySem.Spec PyProof.Rows L2
/-- a def's promise where the guards are known to be none -/
structure FnG (P : Program) (w : World) (K : PySem.W.Frag) (mg : Str → Option Value) (base : Heap) (k : Nat) (f : Addr) (fd : FuncData) (ps : List Str) (sp : Sp) : Prop where
  run : ∀ (A : Around) (outer : List Env) (s : Shared) (H : Hp) (args : Args) (us : List Value) (vs : List V) (Q : VK) (E : XK), A.guards = some [] → Room k A → Env0 P w K mg base A outer s H →
    vs.length = ps.length → BindsTo s fd args (ps.zip us) → Vals vs us → sp vs H Q E → codeAny (model P w) A (.call (.ref f) args) (CR (L2.CX P w) outer P w H s Q E) s
/-- the promise by what the def comes to -/
def spI (c : KM) (cf : List D → IH → Re D) : Sp := fun vs H Q E =>
  ∃ ρ h ds, Sim c ρ h H ∧ RepL c H ρ h.length ds vs ∧ Post c (fun cls d _ H' => E cls d H') (fun H ρ N d v => Rep c H ρ N d v) ρ h.length H [] (cf ds h) Q
/-- a def of the text as it stands: np parameters -/
structure FnF (P : Program) (w : World) (K : PySem.W.Frag) (mg : Str → Option Value) (base : Heap) (k : Nat) (cf : List D → IH → Re D) (f : Str) (ps : List Str) : Prop where
  ex : ∃ (a : Addr) (fd : FuncData), mg f = some (.ref a) ∧ PySem.W.keepIn K (.ref a) = true ∧ Binds K fd ps [] ∧ (∀ (s : Shared) (ws : List Value), ws.length = ps.length → BindsTo s fd ⟨[], ps.zip ws⟩ (ps.zip ws)) ∧ FnG P w K mg base k a fd ps (spI ⟨K, mg⟩ cf)
/-- the served built-in names -/
def bns : List Str := ["len", "list", "all", "int", "repr", "isinstance", "range", "str", "tuple", "bool", "dict"]
structure Cok (X : Cx) (W : WX) (g : G) (k : Nat) (fns : List (Str × List Str)) : Prop where
  nd : X.N.Nodup
  calm : X.calm = true
  gd : X.A.guards = some []
  room : Room k X.A
  tk : Takes X W
  gl : ∀ x d, g.gl x = some d → ∃ u v, X.mg x = some u ∧ RelV v u ∧ ∀ H ρ N, Rep (km X) H ρ N d v
  bl : ∀ x ∈ bns, X.mg x = none
  fn : ∀ f ps, (f, ps) ∈ fns → FnF X.prog X.w X.K X.mg X.base k (g.cf f) f ps
theorem Cok.hu {X : Cx} {W : WX} {g : G} {k : Nat} {fns : List (Str × List Str)} (c : Cok X W g k fns) : X.A.units + 64 < cLine := c.room.units
section
variable {X : Cx} {W : WX} {g : G} {k : Nat} {fns : List (Str × List Str)} {e a b d : Expr} {pos p : Pos}
theorem run_fnG {pins : List (Addr × Obj)} {s : Shared} {σ : L2.St} {H : Hp} {ρ : Nat → Addr} {h : IH} {ad : Addr} {fd : FuncData} {ps : List Str} {cf : List D → IH → Re D} {us : List Value} {vs : List V} {ds : List D} {args : Args} {Q : VK} (c : Cok X W g k fns)
    (F : FnG X.prog X.w X.K X.mg X.base k ad fd ps (spI (km X) cf)) (I : Inv X pins σ H s) (hl : vs.length = ps.length) (hb : BindsTo s fd args (ps.zip us)) (r : Vals vs us) (S : Sim (km X) ρ h H) (rl : RepL (km X) H ρ h.length ds vs)
    (P : Post (km X) W (rD X) ρ h.length H σ (cf ds h) Q) : wpAny (model X.prog X.w) X.A (call (.ref ad) args.pos args.kw) (EP X pins σ Q) X.xe s := by
  have sp : spI (km X) cf vs H Q (fun cls d H' => W cls d σ H') := ⟨ρ, h, ds, S, rl, by
    cases e : cf ds h with
    | ok d h' => rw [e] at P; exact P
    | ex cn fs h' => rw [e] at P; exact P
    | no => rw [e] at P; exact P⟩
  refine wpAny_call (codeAny_mono (F.run X.A X.stack s H args us vs Q _ c.gd c.room I.env0 hl hb r sp) fun q s' hq => ?_)
  cases q with
  | error er => exact c.tk er s' (XE.of_call I (fun _ _ _ z => z) hq)
  | ok fl =>
    cases fl with
    | ret u => exact I.after hq
    | next => exact hq.elim
    | brk => exact hq.elim
    | cont => exact hq.elim
/-! ### expressions -/
theorem s_var {i : Nat} {x : Str} (hN : X.N[i]? = some x) (hv : Vis X.env.scope x) (hd : (x == ("__debug__" : Str)) = false) (hcd : (x == ("__classdict__" : Str)) = false) : PE X (.Name x pos) (tE X W g (.var i)) :=
  PE.imp (pe_var hN hv hd hcd) fun σ H Q ⟨ρ, h, τ, S, R, P⟩ => by
    have P : Post (km X) W (rD X) ρ h.length H σ (match τ[i]? with
      | some (some d) => .ok d h
      | _ => .no) Q := P
    split at P
    · rename_i d e
      obtain ⟨v, e1, r⟩ := R.2 i d e
      exact ⟨v, e1, Post.ok S P r⟩
    · exact P.elim
theorem s_int {i : Int} {j : Nat} : PE X (.Constant (.int i) j pos) (tE X W g (.int i)) := PE.imp pe_int fun σ H Q ⟨ρ, h, τ, S, R, P⟩ => Post.ok S P (.int i)
theorem s_str {i : Str} {j : Nat} : PE X (.Constant (.str i) j pos) (tE X W g (.str i)) := PE.imp pe_str fun σ H Q ⟨ρ, h, τ, S, R, P⟩ => Post.ok S P (.str i)
theorem s_bl {i : Bool} {j : Nat} : PE X (.Constant (.bool i) j pos) (tE X W g (.bl i)) := PE.imp pe_bl fun σ H Q ⟨ρ, h, τ, S, R, P⟩ => Post.ok S P (.bl i)
theorem s_non {j : Nat} : PE X (.Constant .none j pos) (tE X W g .non) := PE.imp pe_non fun σ H Q ⟨ρ, h, τ, S, R, P⟩ => Post.ok S P .non
theorem s_glo {x : Str} (c : Cok X W g k fns) (hg : Gl X x) (hd : (x == ("__debug__" : Str)) = false) : PE X (.Name x pos) (tE X W g (.glo x)) := by
  refine ⟨fun pins s σ H Q I ⟨ρ, h, τ, S, R, P⟩ => ?_⟩
  have P : Post (km X) W (rD X) ρ h.length H σ (match g.gl x with
    | some d => .ok d h
    | none => .no) Q := P
  split at P
  · rename_i d e
    obtain ⟨u, v, hm, r, rp⟩ := c.gl x d e
    exact (pe_glob hg hm r hd).run pins s σ H Q I (Post.ok S P (rp H ρ _))
  · exact P.elim
theorem s_nil : PA X [] (tA X W g .nil) := PA.imp pa_nil fun σ H Q ⟨ρ, h, τ, S, R, P⟩ => Post.ok S P .nil
theorem s_cons {es : List Expr} {x : E} {xs : Es} (h1 : PE X e (tE X W g x)) (h2 : PA X es (tA X W g xs)) (hs : starEach (e :: es) X.env = (false, eval e X.env) :: starEach es X.env) : PA X (e :: es) (tA X W g (.cons x xs)) :=
  PA.imp (pa_cons h1 h2 hs) fun σ H Q ⟨ρ, h, τ, S, R, P⟩ => ⟨ρ, h, τ, S, R, Post.mk P fun y h1 _ v ρ1 H1 A1 r1 P1 =>
    ⟨ρ1, h1, τ, A1.sim, A1.srel R, Post.mk P1 fun ys h2 _ vs ρ2 H2 A2 r2 P2 => Post.ok A2.sim P2 (.cons (A2.rep r1) r2)⟩⟩
theorem s_tup {es : List Expr} {j : Nat} {xs : Es} (h1 : PA X es (tA X W g xs)) : PE X (.Tuple es j pos) (tE X W g (.tup xs)) :=
  PE.imp (pe_tup h1) fun σ H Q ⟨ρ, h, τ, S, R, P⟩ => ⟨ρ, h, τ, S, R, Post.mk P fun ds h1 _ vs ρ1 H1 A1 r1 P1 => by
    unfold newt at P1
    split at P1
    · exact ⟨by rw [← r1.length]; assumption, fun p hp => Post.newt A1.sim P1 r1 hp⟩
    · exact P1.elim⟩
theorem s_lst {es : List Expr} {xs : Es} (h1 : PA X es (tA X W g xs)) : PE X (.List es pos) (tE X W g (.lst xs)) :=
  PE.imp (pe_lst h1) fun σ H Q ⟨ρ, h, τ, S, R, P⟩ => ⟨ρ, h, τ, S, R, Post.mk P fun ds h1 _ vs ρ1 H1 A1 r1 P1 => by
    unfold newl at P1
    split at P1
    · exact ⟨by rw [← r1.length]; assumption, fun p hp => Post.newl A1.sim P1 r1 hp⟩
    · exact P1.elim⟩
theorem s_bin {op : Operator} {x y : E} (h1 : PE X a (tE X W g x)) (h2 : PE X b (tE X W g y)) : PE X (.BinOp a op b pos) (tE X W g (.bin op x y)) :=
  PE.imp (pe_op (op_bin op) h1 h2) fun σ H Q ⟨ρ, h, τ, S, R, P⟩ => ⟨ρ, h, τ, S, R, Post.mk P fun u h1 _ v ρ1 H1 A1 r1 P1 =>
    ⟨ρ1, h1, τ, A1.sim, A1.srel R, Post.mk P1 fun u' h2 _ v' ρ2 H2 A2 r2 P2 => ad_bin op ρ2 h2 H2 σ u u' v v' Q A2.sim (A2.rep r1) r2 P2⟩⟩
theorem s_neg {x : E} (h1 : PE X a (tE X W g x)) : PE X (.UnaryOp .USub a pos) (tE X W g (.neg x)) :=
  PE.imp (pe_un un_neg h1) fun σ H Q ⟨ρ, h, τ, S, R, P⟩ => ⟨ρ, h, τ, S, R, Post.mk P fun u h1 _ v ρ1 H1 A1 r1 P1 => by
    split at P1
    · exact ⟨_, r1.intI, Post.ok A1.sim P1 (.int _)⟩
    · exact P1.elim⟩
theorem t_cmp {op : CmpOp} {x y : E} : ∀ σ H Q, tE X W g (.cmp op x y) σ H Q → tOp (rCmp X.K op) (tE X W g x) (tE X W g y) σ H Q :=
  fun σ H Q ⟨ρ, h, τ, S, R, P⟩ => ⟨ρ, h, τ, S, R, Post.mk P fun u h1 _ v ρ1 H1 A1 r1 P1 =>
    ⟨ρ1, h1, τ, A1.sim, A1.srel R, Post.mk P1 fun u' h2 _ v' ρ2 H2 A2 r2 P2 => ad_cmp op ρ2 h2 H2 σ u u' v v' Q A2.sim (A2.rep r1) r2 P2⟩⟩
theorem s_cmp {op : CmpOp} {x y : E} (h1 : PE X a (tE X W g x)) (h2 : PE X b (tE X W g y)) (hm : behindInMarks op b = false) : PE X (.Compare a [op] [b] pos) (tE X W g (.cmp op x y)) :=
  PE.imp (pe_cmpR (op_cmp op) h1 h2 hm) t_cmp
/-- a value that is a bool, as a test -/
theorem tT_bl {x : E} (hb : ∀ τ h u h1, ev g τ x h = .ok u h1 → ∃ k, u = .bl k) : ∀ σ H Q, tT X W g x σ H Q → tE X W g x σ H (fun v H' => ∃ k, v = .bl k ∧ Q k H') :=
  fun σ H Q ⟨ρ, h, τ, S, R, P⟩ => ⟨ρ, h, τ, S, R, Post.mk P fun u h1 e v ρ1 H1 A1 r1 P1 => by
    obtain ⟨k, rfl⟩ := hb τ h u h1 e
    exact ⟨k, r1.blI, Post.ok A1.sim P1 rfl⟩⟩
theorem Re.bind_ok {α β : Type} {r : Re α} {f : α → IH → Re β} {y : β} {h : IH} (e : r.bind f = .ok y h) : ∃ x h1, r = .ok x h1 ∧ f x h1 = .ok y h := by
  cases r with
  | ok x h1 => exact ⟨x, h1, rfl, e⟩
  | ex _ _ _ => cases e
  | no => cases e
theorem cmp_bl {op : CmpOp} {x y : E} : ∀ τ h u h1, ev g τ (.cmp op x y) h = .ok u h1 → ∃ k, u = .bl k := by
  intro τ h u h1 e
  obtain ⟨d, h2, _, e⟩ := Re.bind_ok (show (ev g τ x h).bind _ = _ from e)
  obtain ⟨d', h3, _, e⟩ := Re.bind_ok e
  split at e
  · cases e
    exact ⟨_, rfl⟩
  · cases e
theorem z_cmp {op : CmpOp} {x y : E} (h1 : PE X a (tE X W g x)) (h2 : PE X b (tE X W g y)) (hm : behindInMarks op b = false) : PT X (.Compare a [op] [b] pos) (tT X W g (.cmp op x y)) :=
  PT.imp (pt_cmpR (op_cmp op) h1 h2 hm) fun σ H Q q => t_cmp σ H _ (tT_bl cmp_bl σ H Q q)
theorem t_chain {o q : CmpOp} {x y z : E} : ∀ σ H Q, tE X W g (.chain o q x y z) σ H Q → tChain (rCmp X.K o) (rCmp X.K q) (tE X W g x) (tE X W g y) (tE X W g z) σ H Q :=
  fun σ H Q ⟨ρ, h, τ, S, R, P⟩ => ⟨ρ, h, τ, S, R, Post.mk P fun u h1 _ v ρ1 H1 A1 r1 P1 =>
    ⟨ρ1, h1, τ, A1.sim, A1.srel R, Post.mk P1 fun u' h2 _ v' ρ2 H2 A2 r2 P2 => by
      refine ad_cmp (W := W) o ρ2 h2 H2 σ u u' v v' _ A2.sim (A2.rep r1) r2 ?_
      unfold cmpR
      split at P2
      · rename_i e
        rw [e]
        intro w ρ3 H3 A3 r3
        rw [r3.blI]
        refine ⟨true, rfl, ?_⟩
        rw [if_pos rfl]
        refine ⟨ρ3, h2, τ, A3.sim, A3.srel (A2.srel (A1.srel R)), Post.mk (Post.shift A3 P2) fun u3 h4 _ v3 ρ4 H4 A4 r4 P4 => ?_⟩
        refine ad_cmp (W := W) q ρ4 h4 H4 σ u' u3 v' v3 _ A4.sim (A4.rep (A3.rep r2)) r4 ?_
        unfold cmpR
        exact P4
      · rename_i e
        rw [e]
        intro w ρ3 H3 A3 r3
        rw [r3.blI]
        refine ⟨false, rfl, ?_⟩
        rw [if_neg Bool.false_ne_true]
        exact Post.okA A3 P2 (.bl false)
      · exact P2.elim⟩⟩
theorem chain_bl {o q : CmpOp} {x y z : E} : ∀ τ h u h1, ev g τ (.chain o q x y z) h = .ok u h1 → ∃ k, u = .bl k := by
  intro τ h u h1 e
  obtain ⟨d, h2, _, e⟩ := Re.bind_ok (show (ev g τ x h).bind _ = _ from e)
  obtain ⟨d', h3, _, e⟩ := Re.bind_ok e
  split at e
  · obtain ⟨d3, h4, _, e⟩ := Re.bind_ok e
    split at e
    · cases e
      exact ⟨_, rfl⟩
    · cases e
  · cases e
    exact ⟨_, rfl⟩
  · cases e
theorem s_chain {o q : CmpOp} {x y z : E} (h1 : PE X a (tE X W g x)) (h2 : PE X b (tE X W g y)) (h3 : PE X d (tE X W g z)) (hm : lastMarks [o, q] [b, d] = false) : PE X (.Compare a [o, q] [b, d] pos) (tE X W g (.chain o q x y z)) :=
  PE.imp (pe_chain (op_cmp o) (op_cmp q) h1 h2 h3 hm) t_chain
theorem z_chain {o q : CmpOp} {x y z : E} (h1 : PE X a (tE X W g x)) (h2 : PE X b (tE X W g y)) (h3 : PE X d (tE X W g z)) (hm : lastMarks [o, q] [b, d] = false) : PT X (.Compare a [o, q] [b, d] pos) (tT X W g (.chain o q x y z)) :=
  PT.imp (pt_chain (op_cmp o) (op_cmp q) h1 h2 h3 hm) fun σ H Q r => t_chain σ H _ (tT_bl chain_bl σ H Q r)
/-- truth behind a value -/
theorem tT_tru {x : E} : ∀ σ H Q, tT X W g x σ H Q → tE X W g x σ H (fun v H' => ∃ k, TruV X.K v H' k ∧ Q k H') :=
  fun σ H Q ⟨ρ, h, τ, S, R, P⟩ => ⟨ρ, h, τ, S, R, Post.mk P fun u h1 _ v ρ1 H1 A1 r1 P1 => by
    split at P1
    · rename_i q e
      exact ⟨q, truth_rep A1.sim e r1, Post.ok A1.sim P1 rfl⟩
    · exact P1.elim⟩
theorem z_any {x : E} (h1 : PE X a (tE X W g x)) (he : ∀ whole, isTrue a X.env whole = (do let v ← whole; standAt a.pos; holding [v] (truthy v))) : PT X a (tT X W g x) := PT.imp (pt_truth h1 he) tT_tru
theorem s_not {x : E} (h1 : PE X a (tE X W g x)) : PE X (.UnaryOp .Not a pos) (tE X W g (.not x)) :=
  PE.imp (pe_notT h1) fun σ H Q ⟨ρ, h, τ, S, R, P⟩ => ⟨ρ, h, τ, S, R, Post.mk P fun u h1 _ v ρ1 H1 A1 r1 P1 => by
    split at P1
    · rename_i q e
      exact ⟨q, truth_rep A1.sim e r1, Post.ok A1.sim P1 (.bl _)⟩
    · exact P1.elim⟩
theorem Re.bind_bind {α β γ : Type} (r : Re α) (f : α → IH → Re β) (k : β → IH → Re γ) : (r.bind f).bind k = r.bind fun x h => (f x h).bind k := by cases r <;> rfl
theorem evb_not {τ : List (Option D)} {x : E} {h : IH} : evb g τ (.not x) h = (evb g τ x h).bind fun q h => .ok (!q) h := by
  unfold evb
  rw [Re.bind_bind]
  show ((ev g τ x h).bind _).bind _ = _
  rw [Re.bind_bind]
  congr 1
  funext u h1
  cases truth h1 u <;> rfl
theorem z_not {x : E} (h1 : PT X a (tT X W g x)) : PT X (.UnaryOp .Not a pos) (tT X W g (.not x)) :=
  PT.imp (pt_not h1) fun σ H Q ⟨ρ, h, τ, S, R, P⟩ => by
    dsimp only at P
    rw [evb_not] at P
    exact ⟨ρ, h, τ, S, R, Post.mk P fun u h1 _ v ρ1 H1 A1 r1 P1 => by
      have r1 : u = v := r1
      subst r1
      exact Post.ok A1.sim P1 rfl⟩
theorem evb_and {τ : List (Option D)} {x y : E} {h : IH} : evb g τ (.and x y) h = (evb g τ x h).bind fun q h => if q = true then evb g τ y h else .ok false h := by
  unfold evb
  rw [Re.bind_bind]
  show ((ev g τ x h).bind _).bind _ = _
  rw [Re.bind_bind]
  congr 1
  funext u h1
  cases e : truth h1 u with
  | none => rfl
  | some q =>
    cases q with
    | true => rfl
    | false =>
      show (match truth h1 u with | some k => Re.ok k h1 | none => Re.no) = _
      rw [e]
      rfl
theorem evb_or {τ : List (Option D)} {x y : E} {h : IH} : evb g τ (.or x y) h = (evb g τ x h).bind fun q h => if q = true then .ok true h else evb g τ y h := by
  unfold evb
  rw [Re.bind_bind]
  show ((ev g τ x h).bind _).bind _ = _
  rw [Re.bind_bind]
  congr 1
  funext u h1
  cases e : truth h1 u with
  | none => rfl
  | some q =>
    cases q with
    | false => rfl
    | true =>
      show (match truth h1 u with | some k => Re.ok k h1 | none => Re.no) = _
      rw [e]
      rfl
theorem s_and {es : List Expr} {x y : E} (h1 : PE X a (tE X W g x)) (h2 : PE X (.BoolOp .And (b :: es) pos) (tE X W g y)) : PE X (.BoolOp .And (a :: b :: es) pos) (tE X W g (.and x y)) :=
  PE.imp (pe_andT h1 h2) fun σ H Q ⟨ρ, h, τ, S, R, P⟩ => ⟨ρ, h, τ, S, R, Post.mk P fun u h1 _ v ρ1 H1 A1 r1 P1 => by
    split at P1
    · rename_i e
      exact ⟨true, truth_rep A1.sim e r1, by rw [if_pos rfl]; exact ⟨ρ1, h1, τ, A1.sim, A1.srel R, P1⟩⟩
    · rename_i e
      exact ⟨false, truth_rep A1.sim e r1, by rw [if_neg Bool.false_ne_true]; exact Post.ok A1.sim P1 r1⟩
    · exact P1.elim⟩
theorem s_or {es : List Expr} {x y : E} (h1 : PE X a (tE X W g x)) (h2 : PE X (.BoolOp .Or (b :: es) pos) (tE X W g y)) : PE X (.BoolOp .Or (a :: b :: es) pos) (tE X W g (.or x y)) :=
  PE.imp (pe_orT h1 h2) fun σ H Q ⟨ρ, h, τ, S, R, P⟩ => ⟨ρ, h, τ, S, R, Post.mk P fun u h1 _ v ρ1 H1 A1 r1 P1 => by
    split at P1
    · rename_i e
      exact ⟨true, truth_rep A1.sim e r1, by rw [if_pos rfl]; exact Post.ok A1.sim P1 r1⟩
    · rename_i e
      exact ⟨false, truth_rep A1.sim e r1, by rw [if_neg Bool.false_ne_true]; exact ⟨ρ1, h1, τ, A1.sim, A1.srel R, P1⟩⟩
    · exact P1.elim⟩
theorem PW.imp {t t' : TT} (h : PW X e t) (i : ∀ σ H Q, t' σ H Q → t σ H Q) : PW X e t' := ⟨fun wh pins s σ H Q I q => h.run wh pins s σ H Q I (i σ H Q q)⟩
theorem z_and {es : List Expr} {x y : E} (h1 : PT X a (tT X W g x)) (h2 : PW X (.BoolOp .And (b :: es) pos) (tT X W g y)) : PW X (.BoolOp .And (a :: b :: es) pos) (tT X W g (.and x y)) :=
  PW.imp (pw_and h1 h2) fun σ H Q ⟨ρ, h, τ, S, R, P⟩ => by
    dsimp only at P
    rw [evb_and] at P
    exact ⟨ρ, h, τ, S, R, Post.mk P fun u h1 _ v ρ1 H1 A1 r1 P1 => by
      have r1 : u = v := r1
      subst r1
      cases u with
      | true =>
        rw [if_pos rfl] at P1 ⊢
        exact ⟨ρ1, h1, τ, A1.sim, A1.srel R, P1⟩
      | false =>
        rw [if_neg Bool.false_ne_true] at P1 ⊢
        exact Post.ok A1.sim P1 rfl⟩
theorem z_or {es : List Expr} {x y : E} (h1 : PT X a (tT X W g x)) (h2 : PW X (.BoolOp .Or (b :: es) pos) (tT X W g y)) : PW X (.BoolOp .Or (a :: b :: es) pos) (tT X W g (.or x y)) :=
  PW.imp (pw_or h1 h2) fun σ H Q ⟨ρ, h, τ, S, R, P⟩ => by
    dsimp only at P
    rw [evb_or] at P
    exact ⟨ρ, h, τ, S, R, Post.mk P fun u h1 _ v ρ1 H1 A1 r1 P1 => by
      have r1 : u = v := r1
      subst r1
      cases u with
      | true =>
        rw [if_pos rfl] at P1 ⊢
        exact Post.ok A1.sim P1 rfl
      | false =>
        rw [if_neg Bool.false_ne_true] at P1 ⊢
        exact ⟨ρ1, h1, τ, A1.sim, A1.srel R, P1⟩⟩
theorem s_ife {x y z : E} (h1 : PT X d (tT X W g x)) (h2 : PE X a (tE X W g y)) (h3 : PE X b (tE X W g z)) : PE X (.IfExp d a b pos) (tE X W g (.ife x y z)) :=
  PE.imp (pe_ifExp h1 h2 h3) fun σ H Q ⟨ρ, h, τ, S, R, P⟩ => ⟨ρ, h, τ, S, R, by
    have e : ev g τ (.ife x y z) h = (evb g τ x h).bind fun q h => if q = true then ev g τ y h else ev g τ z h := by
      unfold evb
      rw [Re.bind_bind]
      show (ev g τ x h).bind _ = _
      congr 1
      funext u h1
      cases truth h1 u with
      | none => rfl
      | some q => cases q <;> rfl
    dsimp only at P
    rw [e] at P
    exact Post.mk P fun u h1 _ v ρ1 H1 A1 r1 P1 => by
      have r1 : u = v := r1
      subst r1
      cases u with
      | true =>
        rw [if_pos rfl] at P1 ⊢
        exact ⟨ρ1, h1, τ, A1.sim, A1.srel R, P1⟩
      | false =>
        rw [if_neg Bool.false_ne_true] at P1 ⊢
        exact ⟨ρ1, h1, τ, A1.sim, A1.srel R, P1⟩⟩
theorem s_sub {x y : E} (h1 : PE X a (tE X W g x)) (h2 : PE X b (tE X W g y)) (hs : PlainIx b) : PE X (.Subscript a b pos) (tE X W g (.sub x y)) :=
  PE.imp (pe_ix ix_seq h1 h2 hs) fun σ H Q ⟨ρ, h, τ, S, R, P⟩ => ⟨ρ, h, τ, S, R, Post.mk P fun u h1 _ v ρ1 H1 A1 r1 P1 =>
    ⟨ρ1, h1, τ, A1.sim, A1.srel R, Post.mk P1 fun u' h2 _ v' ρ2 H2 A2 r2 P2 => ad_ix ρ2 h2 H2 σ u u' v v' Q A2.sim (A2.rep r1) r2 P2⟩⟩
theorem s_ono : PO X none (tO X W g .none) := PO.imp po_none fun σ H Q ⟨ρ, h, τ, S, R, P⟩ => Post.ok S P rfl
theorem s_oso {x : E} (h1 : PE X a (tE X W g x)) : PO X (some a) (tO X W g (.some x)) :=
  PO.imp (po_some h1) fun σ H Q ⟨ρ, h, τ, S, R, P⟩ => ⟨ρ, h, τ, S, R, Post.mk P fun u h1 _ v ρ1 H1 A1 r1 P1 => by
    split at P1
    · exact ⟨_, r1.intI, Post.ok A1.sim P1 rfl⟩
    · exact P1.elim⟩
theorem s_slc {lo hi : Option Expr} {x : E} {l u : Oe} {p2 : Pos} (h1 : PE X a (tE X W g x)) (h2 : PO X lo (tO X W g l)) (h3 : PO X hi (tO X W g u)) : PE X (.Subscript a (.Slice lo hi none p2) pos) (tE X W g (.slc x l u)) :=
  PE.imp (pe_slice sl_u h1 h2 h3) fun σ H Q ⟨ρ, h, τ, S, R, P⟩ => ⟨ρ, h, τ, S, R, Post.mk P fun u h1 _ v ρ1 H1 A1 r1 P1 =>
    ⟨ρ1, h1, τ, A1.sim, A1.srel R, Post.mk P1 fun lo h2 _ lo' ρ2 H2 A2 r2 P2 => ⟨ρ2, h2, τ, A2.sim, A2.srel (A1.srel R), Post.mk P2 fun hi h3 _ hi' ρ3 H3 A3 r3 P3 => by
      have r2 : lo = lo' := r2
      have r3 : hi = hi' := r3
      subst r2 r3
      exact ad_slc A3.sim (A3.rep (A2.rep r1)) P3⟩⟩⟩
/-- a built-in called -/
theorem s_blt {es : List Expr} {f : Str} {u : Bf} {x : E} {xs : Es} (c : Cok X W g k fns) (hf : bltIs f = some u) (hg : Gl X f) (hb : f ∈ bns) (hv : bootBuiltins f = some u.v) (ha : PA X (e :: es) (tA X W g (.cons x xs)))
    (hn : f ≠ "__name__") (hdb : (f == ("__debug__" : Str)) = false) (he : starEach (e :: es) X.env = (false, eval e X.env) :: starEach es X.env) (hpl : (backTo pos (starEach es X.env)).any (·.1) = false) :
    PE X (.Call (.Name f p) (e :: es) [] pos) (tE X W g (.blt f (.cons x xs))) := by
  have hc := call_blt (X := X) c.calm c.gd c.hu hf
  have imp : ∀ σ H Q, tE X W g (.blt f (.cons x xs)) σ H Q → tCB (rBlt X.K f) (tA X W g (.cons x xs)) σ H Q := fun σ H Q ⟨ρ, h, τ, S, R, P⟩ => ⟨ρ, h, τ, S, R, Post.mk P fun ds h1 _ vs ρ1 H1 A1 r1 P1 => ad_blt f ρ1 h1 H1 σ ds vs Q A1.sim r1 P1⟩
  cases u with
  | fn id => exact PE.imp (pe_callB hc hg (c.bl f hb) hv ha hn hdb he hpl) imp
  | ty T => exact PE.imp (pe_callTy hc hg (c.bl f hb) hv ha hn hdb he hpl) imp
/-- a method of a built-in type -/
theorem s_meth {es : List Expr} {o : Expr} {m n : Str} {T id : String} {x y : E} {xs : Es} {apos : Pos} (hm : bmT m = some (T, n, id)) (h1 : PE X o (tE X W g y)) (ha : PA X (e :: es) (tA X W g (.cons x xs)))
    (hbase : attributeBase o n X.env (eval o X.env) = eval o X.env)
    (hfew : ((backTo pos (starEach (e :: es) X.env)).all (fun x => !x.1) && (backToKw pos (keywordEach [] X.env)).all (fun x => x.1.isSome) && decide ((e :: es).length + ([] : List Keyword).length + (if ([] : List Keyword).isEmpty then 0 else 1) < 30)) = true)
    (hline : (apos.endLine == pos.line) = true) (hs : starEach (e :: es) X.env = (false, eval e X.env) :: starEach es X.env) (hplain : (backTo pos (starEach es X.env)).any (·.1) = false) :
    PE X (.Call (.Attribute o n apos) (e :: es) [] pos) (tE X W g (.meth m y (.cons x xs))) := by
  obtain ⟨q1, q2, q3, q4⟩ := mt_u (X := X) hm
  refine PE.imp (pe_bm q2 q3 q4 q1 h1 ha hbase hfew hline hs hplain) fun σ H Q ⟨ρ, h, τ, S, R, P⟩ => ?_
  refine ⟨ρ, h, τ, S, R, Post.mk P fun u h1 e v ρ1 H1 A1 r1 P1 => ?_⟩
  split at P1
  · rename_i ty
    rw [hm] at ty
    refine ⟨meth_ty (σ := σ) (xs := []) (r := .non) (h1 := []) hm A1.sim r1 ty, ρ1, h1, τ, A1.sim, A1.srel R, Post.mk P1 fun ds h2 _ vs ρ2 H2 A2 r2 P2 => ?_⟩
    exact ad_meth m ρ2 h2 H2 σ u ds v vs Q A2.sim (A2.rep r1) r2 P2
  · exact P1.elim
end
end Ly
/-! LyG: calls, isinstance, what is walked, list comprehensions, targets. -/
namespace Ly
open PySem PySem.Spec PyProof.Rows L2
section
variable {X : Cx} {W : WX} {g : G} {k : Nat} {fns : List (Str × List Str)} {e a b d : Expr} {pos p : Pos}
/-- the number of a call's arguments is the def's -/
theorem Post.len {cf : List D → IH → Re D} {n : Nat} (hn : ∀ ds h, ds.length ≠ n → cf ds h = .no) {ρ : Nat → Addr} {N : Nat} {H : Hp} {σ : L2.St} {ds : List D} {h : IH} {Q : VK} (P : Post (km X) W (rD X) ρ N H σ (cf ds h) Q) : ds.length = n := by
  by_cases q : ds.length = n
  · exact q
  · rw [hn ds h q] at P
    exact P.elim
theorem s_call {es : List Expr} {f : Str} {ps : List Str} {x : E} {xs : Es} (c : Cok X W g k fns) (hf : (f, ps) ∈ fns) (hn : ∀ ds h, ds.length ≠ ps.length → g.cf f ds h = .no) (hg : Gl X f) (ha : PA X (e :: es) (tA X W g (.cons x xs)))
    (hdb : (f == ("__debug__" : Str)) = false) (he : starEach (e :: es) X.env = (false, eval e X.env) :: starEach es X.env) (hpl : (backTo pos (starEach es X.env)).any (·.1) = false) :
    PE X (.Call (.Name f p) (e :: es) [] pos) (tE X W g (.call f (.cons x xs))) := by
  obtain ⟨ad, fd, hm, hk, hb, _, F⟩ := (c.fn f ps hf).ex
  refine ⟨fun pins s σ H Q I ⟨ρ, h, τ, S, R, P⟩ => ?_⟩
  refine wpAny_Call_Name_kw (ld_glob I hg hm ?_ hdb)
  have hA := ha.run pos pins s σ H (fun vs H1 => ∃ ρ1 h1 ds, Sim (km X) ρ1 h1 H1 ∧ RepL (km X) H1 ρ1 h1.length ds vs ∧ Post (km X) W (rD X) ρ1 h1.length H1 σ (g.cf f ds h1) Q) I
    ⟨ρ, h, τ, S, R, Post.mk P fun ds h1 _ vs ρ1 H1 A1 r1 P1 => ⟨ρ1, h1, ds, A1.sim, r1, P1⟩⟩
  refine PySem.W.callWith_K (h₀ := X.base) I.ok.mod.kin hk (thn hA fun us s1 q => ?_) he hpl
  obtain ⟨vs, H1, I1, r, ρ1, h1, ds, S1, r1, P1⟩ := q
  have hl : vs.length = ps.length := r1.length.symm.trans (Post.len hn P1)
  refine ⟨I1.kIn, run_fnG (args := ⟨[] ++ us, []⟩) c F I1 hl ?_ r S1 r1 P1⟩
  have z := hb s1 us I1.kIn (by rw [List.append_nil, ← r.length]; exact hl)
  rw [List.append_nil] at z
  exact z
theorem s_call0 {f : Str} {ps : List Str} (c : Cok X W g k fns) (hf : (f, ps) ∈ fns) (hn : ∀ ds h, ds.length ≠ ps.length → g.cf f ds h = .no) (hg : Gl X f) (hdb : (f == ("__debug__" : Str)) = false) :
    PE X (.Call (.Name f p) [] [] pos) (tE X W g (.call f .nil)) := by
  obtain ⟨ad, fd, hm, hk, hb, _, F⟩ := (c.fn f ps hf).ex
  refine ⟨fun pins s σ H Q I ⟨ρ, h, τ, S, R, P⟩ => ?_⟩
  refine wpAny_Call_Name_kw (ld_glob I hg hm ?_ hdb)
  have hl : ([] : List V).length = ps.length := Post.len (ds := []) hn P
  have z := hb s [] I.kIn (by rw [List.append_nil]; exact hl)
  rw [List.append_nil] at z
  exact PySem.W.callWith_K0 I.kIn hk (run_fnG (us := []) (vs := []) (ds := []) (args := ⟨[] ++ [], []⟩) c F I hl z .nil S .nil P)
/-- keywords from the left -/
def Ks (kws : List Keyword) : Es → Prop
  | .nil => kws = []
  | .cons _ xs => ∃ n e p r, kws = ⟨n, e, p⟩ :: r ∧ Ks r xs
theorem PK.imp {kws : List Keyword} {t t' : TA} (h : PK X kws t) (i : ∀ σ H Q, t' σ H Q → t σ H Q) : PK X kws t' := ⟨fun pos pins s σ H Q I q => h.run pos pins s σ H Q I (i σ H Q q)⟩
theorem s_knil : PK X [] (tA X W g .nil) := PK.imp pk_nil fun σ H Q ⟨ρ, h, τ, S, R, P⟩ => Post.ok S P .nil
theorem s_kcons {kws : List Keyword} {nm : Option Str} {kp : Pos} {x : E} {xs : Es} (h1 : PE X e (tE X W g x)) (h2 : PK X kws (tA X W g xs)) : PK X (⟨nm, e, kp⟩ :: kws) (tA X W g (.cons x xs)) :=
  PK.imp (pk_cons h1 h2) fun σ H Q ⟨ρ, h, τ, S, R, P⟩ => ⟨ρ, h, τ, S, R, Post.mk P fun y h1 _ v ρ1 H1 A1 r1 P1 =>
    ⟨ρ1, h1, τ, A1.sim, A1.srel R, Post.mk P1 fun ys h2 _ vs ρ2 H2 A2 r2 P2 => Post.ok A2.sim P2 (.cons (A2.rep r1) r2)⟩⟩
/-- f(k = v, ..): every argument by its name, in the order of the parameters -/
theorem s_callk {kws : List Keyword} {f : Str} {ps : List Str} {x : E} {xs : Es} (c : Cok X W g k fns) (hf : (f, ps) ∈ fns) (hn : ∀ ds h, ds.length ≠ ps.length → g.cf f ds h = .no) (hg : Gl X f) (hk' : PK X kws (tA X W g (.cons x xs)))
    (hall : (backToKw pos (keywordEach kws X.env)).all (·.1.isSome) = true) (hks : (backToKw pos (keywordEach kws X.env)).filterMap (·.1) = ps) (hdb : (f == ("__debug__" : Str)) = false)
    (hsp : (backToKw pos (keywordEach kws X.env)).any (·.1.isNone) = false) :
    PE X (.Call (.Name f p) [] kws pos) (tE X W g (.call f (.cons x xs))) := by
  obtain ⟨ad, fd, hm, hk, _, hb, F⟩ := (c.fn f ps hf).ex
  refine ⟨fun pins s σ H Q I ⟨ρ, h, τ, S, R, P⟩ => ?_⟩
  refine wpAny_Call_Name_kw (ld_glob I hg hm ?_ hdb)
  have hA := hk'.run pos pins s σ H (fun vs H1 => ∃ ρ1 h1 ds, Sim (km X) ρ1 h1 H1 ∧ RepL (km X) H1 ρ1 h1.length ds vs ∧ Post (km X) W (rD X) ρ1 h1.length H1 σ (g.cf f ds h1) Q) I
    ⟨ρ, h, τ, S, R, Post.mk P fun ds h1 _ vs ρ1 H1 A1 r1 P1 => ⟨ρ1, h1, ds, A1.sim, r1, P1⟩⟩
  refine PySem.W.callWith_KW0 (h₀ := X.base) I.ok.mod.kin hk hall (thn hA fun us s1 q => ?_) (by show (false || _) = false; rw [Bool.false_or]; exact hsp)
  obtain ⟨vs, H1, I1, r, ρ1, h1, ds, S1, r1, P1⟩ := q
  have hl : vs.length = ps.length := r1.length.symm.trans (Post.len hn P1)
  refine ⟨I1.kIn, ?_⟩
  rw [hks]
  refine run_fnG (args := ⟨[], ps.zip us⟩) c F I1 hl ?_ r S1 r1 P1
  exact hb s1 us (by rw [← r.length]; exact hl)
/-! ### isinstance -/
theorem typ_rep {ρ : Nat → Addr} {h : IH} {H : Hp} {x : D} {v : V} {s : String} (S : Sim (km X) ρ h H) (r : Rep (km X) H ρ h.length x v) (e : typ h x = some s) : TyX X.K H v (.type s) := by
  cases x with
  | non => cases e; cases r; exact .base .non
  | bl _ => cases e; cases r; exact .base (.bl _)
  | int _ => cases e; cases r; exact .base (.int _)
  | str _ => cases e; cases r; exact .base (.str _)
  | tup _ =>
    cases e
    obtain ⟨a, vs, rfl, q, _⟩ := r.tupI
    rcases q with (q | ⟨o, q⟩) | ⟨o, its, n, q1, q2, _⟩
    · exact .base (.tup q)
    · exact .fTuple q
    · exact .kTuple q1 q2
  | ref n =>
    obtain ⟨rfl, _⟩ := r.refI
    unfold typ at e
    cases e1 : h[n]? with
    | none => simp [e1] at e
    | some o =>
      have ob := S.ob n o e1
      cases o with
      | lst ys =>
        simp [e1] at e
        subst e
        obtain ⟨vs, q, _⟩ := ob
        exact .base (.lst q)
      | fro ys =>
        simp [e1] at e
        subst e
        obtain ⟨vs, q, _⟩ := ob
        rcases q with ⟨o, q⟩ | ⟨o, its, n, q1, q2, _⟩
        · exact .base (.frz q)
        · exact .kList q1 q2
      | ins _ _ => simp [e1] at e
  | glo _ => cases e
theorem s_isi {T : Str} {t : String} {x : E} {p1 : Pos} (c : Cok X W g k fns) (h1 : PE X a (tE X W g x)) (hi : Gl X "isinstance") (ht : Gl X T) (hb : T ∈ bns) (hv : bootBuiltins T = some (.type t)) (hn : T ≠ "__name__") (hdb : (T == ("__debug__" : Str)) = false)
    (he : starEach [a, .Name T p1] X.env = (false, eval a X.env) :: starEach [.Name T p1] X.env) : PE X (.Call (.Name "isinstance" p) [a, .Name T p1] [] pos) (tE X W g (.isi x t)) := by
  have m1 : X.mg "isinstance" = none := c.bl _ (by decide +kernel)
  have hty : PE X (.Name T p1) (tC (.ty t)) := pe_bltn ht (c.bl T hb) hv rfl hn hdb
  refine PE.imp (pe_callB call_isi hi m1 (by decide +kernel) (pa_cons h1 (pa_cons hty pa_nil) he) (by decide) (by decide) he rfl) fun σ H Q ⟨ρ, h, τ, S, R, P⟩ => ?_
  refine ⟨ρ, h, τ, S, R, Post.mk P fun u h1 e v ρ1 H1 A1 r1 P1 => ?_⟩
  split at P1
  · rename_i q e1
    cases e2 : typ h1 u with
    | none => rw [e2] at e1; cases e1
    | some s =>
      rw [e2] at e1
      exact ⟨v, .ty t, .type s, .type t, q, rfl, .ty t, typ_rep A1.sim r1 e2, kit_ty e1, Post.ok A1.sim P1 (.bl q)⟩
  · exact P1.elim
/-! ### what is walked -/
inductive JR (X : Cx) (H : Hp) (ρ : Nat → Addr) (N : Nat) : J → It → Prop
  | obj {n : Nat} : n < N → JR X H ρ N (.obj n) (Itl X.K (ρ n))
  | tup {xs : List D} {a : Addr} {vs : List V} : SqT X.K H a vs → RepL (km X) H ρ N xs vs → JR X H ρ N (.its xs) (Itt X.K a)
  | str {z : Str} : JR X H ρ N (.its (z.cps.toList.map fun k => .str ⟨#[k]⟩)) (Its z)
  | rng (lo : Int) (n : Nat) : JR X H ρ N (.rng lo n) (Itr lo n)
abbrev rJ (X : Cx) : Rl J It := fun H ρ N j t => JR X H ρ N j t
theorem JR.mono {ρ ρ' : Nat → Addr} {N : Nat} {H H' : Hp} {h' : IH} {j : J} {t : It} (A : Aft (km X) ρ N H ρ' h' H') (r : JR X H ρ N j t) : JR X H' ρ' h'.length j t := by
  cases r with
  | obj q =>
    rw [← A.ag _ q]
    exact .obj (Nat.lt_of_lt_of_le q A.len)
  | tup q r => exact .tup (A.tk _ _ q) (A.repL r)
  | str => exact .str
  | rng lo n => exact .rng lo n
/-- a turn: what is got -/
theorem JR.get {ρ : Nat → Addr} {H : Hp} {h : IH} {j : J} {t : It} {i : Nat} {d : D} (S : Sim (km X) ρ h H) (r : JR X H ρ h.length j t) (e : j.get i h = some (some d)) :
    t.go i H ∧ ∀ x H', t.yld i H x H' → H' = H ∧ Rep (km X) H ρ h.length d x := by
  cases r with
  | obj q =>
    rename_i n
    have e' : ∃ xs, items h (.ref n) = some xs ∧ xs[i]? = some d := by
      unfold J.get at e
      unfold items
      cases e1 : h[n]? with
      | none => simp [e1] at e
      | some o =>
        cases o with
        | lst xs => simp [e1] at e ⊢; exact e
        | fro xs => simp [e1] at e ⊢; exact e
        | ins _ _ => simp [e1] at e
    obtain ⟨xs, e1, e2⟩ := e'
    obtain ⟨vs, rl, sq⟩ := items_ref S e1
    obtain ⟨v, e3, rv⟩ := rl.get e2
    refine ⟨⟨vs, v, sq, e3⟩, fun x H' y => ?_⟩
    obtain ⟨y1, y2⟩ := y
    have e4 := y2 vs sq
    rw [e3] at e4
    cases e4
    exact ⟨y1, rv⟩
  | tup q rl =>
    rename_i xs a vs
    have e2 : xs[i]? = some d := Option.some.inj e
    obtain ⟨v, e3, rv⟩ := rl.get e2
    refine ⟨⟨vs, v, q, e3⟩, fun x H' y => ?_⟩
    obtain ⟨y1, y2⟩ := y
    have e4 := y2 vs q
    rw [e3] at e4
    cases e4
    exact ⟨y1, rv⟩
  | str =>
    rename_i z
    have e2 : (z.cps.toList.map fun k => D.str ⟨#[k]⟩)[i]? = some d := Option.some.inj e
    rw [List.getElem?_map] at e2
    cases e3 : z.cps.toList[i]? with
    | none => rw [e3] at e2; cases e2
    | some c =>
      rw [e3] at e2
      cases e2
      have e4 : z.cps[i]? = some c := by simpa using e3
      refine ⟨(Array.getElem?_eq_some_iff.mp e4).1, fun x H' y => ?_⟩
      obtain ⟨y1, c', y2, y3⟩ := y
      rw [e4] at y2
      cases y2
      rw [y3]
      exact ⟨y1, .str _⟩
  | rng lo n =>
    have e2 : (if i < n then some (D.int (lo + i)) else none) = some d := Option.some.inj e
    by_cases q : i < n
    · rw [if_pos q] at e2
      cases e2
      refine ⟨q, fun x H' y => ?_⟩
      obtain ⟨y1, y2⟩ := y
      rw [y2]
      exact ⟨y1, .int _⟩
    · rw [if_neg q] at e2
      cases e2
theorem JR.stop {ρ : Nat → Addr} {H : Hp} {h : IH} {j : J} {t : It} {i : Nat} (S : Sim (km X) ρ h H) (r : JR X H ρ h.length j t) (e : j.get i h = some none) : t.stop i H := by
  cases r with
  | obj q =>
    rename_i n
    have e' : ∃ xs, items h (.ref n) = some xs ∧ xs[i]? = none := by
      unfold J.get at e
      unfold items
      cases e1 : h[n]? with
      | none => simp [e1] at e
      | some o =>
        cases o with
        | lst xs => simp [e1] at e ⊢; exact e
        | fro xs => simp [e1] at e ⊢; exact e
        | ins _ _ => simp [e1] at e
    obtain ⟨xs, e1, e2⟩ := e'
    obtain ⟨vs, rl, sq⟩ := items_ref S e1
    exact ⟨vs, sq, by rw [← rl.length]; exact List.getElem?_eq_none_iff.mp e2⟩
  | tup q rl =>
    rename_i xs a vs
    have e2 : xs[i]? = none := Option.some.inj e
    exact ⟨vs, q, by rw [← rl.length]; exact List.getElem?_eq_none_iff.mp e2⟩
  | str =>
    rename_i z
    have e2 : (z.cps.toList.map fun k => D.str ⟨#[k]⟩)[i]? = none := Option.some.inj e
    have := List.getElem?_eq_none_iff.mp e2
    show z.cps.size ≤ i
    simpa using this
  | rng lo n =>
    have e2 : (if i < n then some (D.int (lo + i)) else none) = none := Option.some.inj e
    by_cases q : i < n
    · rw [if_pos q] at e2
      cases e2
    · exact Nat.le_of_not_lt q
abbrev tI (X : Cx) (W : WX) (g : G) (i : I) : TI := tG X W (rJ X) fun τ h => evi g τ i h
theorem s_seq {tg : Expr} {x : E} (hpe : PE X a (tE X W g x)) : PI X tg a (tI X W g (.seq x)) := by
  refine ⟨fun pins s σ H Rr I ⟨ρ, h, τ, S, R, P⟩ => ?_⟩
  have P : Post (km X) W (rJ X) ρ h.length H σ ((ev g τ x h).bind fun x h => match x with
    | .tup xs => .ok (.its xs) h
    | .ref n => (match items h (.ref n) with | some _ => .ok (.obj n) h | none => .no)
    | .str z => if z.length ≤ sizeLine then .ok (.its (z.cps.toList.map fun k => .str ⟨#[k]⟩)) h else .no
    | _ => .no) Rr := P
  cases e0 : ev g τ x h with
  | no => rw [e0] at P; exact P.elim
  | ex cn fs h' =>
    rw [e0] at P
    refine (pi_list (tg := tg) hpe).run pins s σ H Rr I ⟨ρ, h, τ, S, R, ?_⟩
    show Post (km X) W (rD X) ρ h.length H σ (ev g τ x h) _
    rw [e0]
    exact P
  | ok u h' =>
    cases u with
    | tup xs =>
      refine (pi_tup (tg := tg) hpe).run pins s σ H Rr I ⟨ρ, h, τ, S, R, Post.mk P fun u h1 e v ρ1 H1 A1 r1 P1 => ?_⟩
      cases e0.symm.trans e
      obtain ⟨a, vs, rfl, q, r⟩ := r1.tupI
      exact ⟨a, rfl, ⟨vs, q⟩, Post.ok A1.sim P1 (.tup q r)⟩
    | ref n =>
      refine (pi_list (tg := tg) hpe).run pins s σ H Rr I ⟨ρ, h, τ, S, R, Post.mk P fun u h1 e v ρ1 H1 A1 r1 P1 => ?_⟩
      cases e0.symm.trans e
      obtain ⟨rfl, hn⟩ := r1.refI
      have P1 : Post (km X) W (rJ X) ρ1 h'.length H1 σ (match items h' (.ref n) with | some _ => .ok (.obj n) h' | none => .no) Rr := P1
      split at P1
      · rename_i xs e2
        obtain ⟨vs, rl, sq⟩ := items_ref A1.sim e2
        exact ⟨_, rfl, ⟨vs, sq⟩, Post.ok A1.sim P1 (.obj hn)⟩
      · exact P1.elim
    | str z =>
      refine (pi_str (tg := tg) hpe).run pins s σ H Rr I ⟨ρ, h, τ, S, R, Post.mk P fun u h1 e v ρ1 H1 A1 r1 P1 => ?_⟩
      cases e0.symm.trans e
      have P1 : Post (km X) W (rJ X) ρ1 h'.length H1 σ (if z.length ≤ sizeLine then .ok (.its (z.cps.toList.map fun k => .str ⟨#[k]⟩)) h' else .no) Rr := P1
      split at P1
      · exact ⟨z, r1.strI, Post.ok A1.sim P1 .str⟩
      · exact P1.elim
    | non => rw [e0] at P; exact P.elim
    | bl _ => rw [e0] at P; exact P.elim
    | int _ => rw [e0] at P; exact P.elim
    | glo _ => rw [e0] at P; exact P.elim
theorem s_rng1 {tg : Expr} {x : E} (c : Cok X W g k fns) (hg : Gl X "range") (ha : PA X [a] (tA X W g (.cons x .nil))) (hs : starEach [a] X.env = [(false, eval a X.env)]) : PI X tg (.Call (.Name "range" p) [a] [] pos) (tI X W g (.rng (.cons x .nil))) :=
  PI.imp (pi_range1 hg (c.bl _ (by decide +kernel)) ha hs) fun σ H Q ⟨ρ, h, τ, S, R, P⟩ => ⟨ρ, h, τ, S, R, Post.mk P fun ds h1 e vs ρ1 H1 A1 r1 P1 => by
    split at P1
    · cases r1 with
      | cons ra rb =>
        cases rb
        rw [ra.intI]
        split at P1
        · rename_i q
          exact ⟨_, rfl, q.1, q.2, Post.ok A1.sim P1 (.rng _ _)⟩
        · exact P1.elim
    · obtain ⟨d1, h2, _, e⟩ := Re.bind_ok (show (ev g τ x h).bind _ = _ from e)
      obtain ⟨d2, h3, e3, e⟩ := Re.bind_ok e
      cases e3
      cases e
    · exact P1.elim⟩
theorem s_rng2 {tg : Expr} {x y : E} (c : Cok X W g k fns) (hg : Gl X "range") (ha : PA X [a, b] (tA X W g (.cons x (.cons y .nil)))) (hs : starEach [a, b] X.env = [(false, eval a X.env), (false, eval b X.env)]) (hs2 : starEach [b] X.env = [(false, eval b X.env)]) :
    PI X tg (.Call (.Name "range" p) [a, b] [] pos) (tI X W g (.rng (.cons x (.cons y .nil)))) :=
  PI.imp (pi_range2 hg (c.bl _ (by decide +kernel)) ha hs hs2) fun σ H Q ⟨ρ, h, τ, S, R, P⟩ => ⟨ρ, h, τ, S, R, Post.mk P fun ds h1 e vs ρ1 H1 A1 r1 P1 => by
    split at P1
    · obtain ⟨d1, h2, _, e⟩ := Re.bind_ok (show (ev g τ x h).bind _ = _ from e)
      obtain ⟨d2, h3, e3, e⟩ := Re.bind_ok e
      obtain ⟨d4, h4, _, e3⟩ := Re.bind_ok (show (ev g τ y h2).bind _ = _ from e3)
      obtain ⟨d5, h5, e6, e3⟩ := Re.bind_ok e3
      cases e6
      cases e3
      cases e
    · cases r1 with
      | cons ra rb =>
        cases rb with
        | cons rb rc =>
          cases rc
          rw [ra.intI, rb.intI]
          split at P1
          · rename_i q
            exact ⟨_, _, rfl, q, Post.ok A1.sim P1 (.rng _ _)⟩
          · exact P1.elim
    · exact P1.elim⟩
end
end Ly
/-! LyH: targets, list comprehensions, statements. -/
namespace Ly
open PySem PySem.Spec PyProof.Rows L2
theorem wipe_get {σ : L2.St} {j : Nat} : ∀ {vs : List Nat}, (wipe σ vs)[j]? = if j ∈ vs then (σ[j]?).map (fun _ => none) else σ[j]?
  | [] => by simp [wipe]
  | v :: vs => by
    unfold wipe
    rw [List.getElem?_set]
    by_cases h : v = j
    · subst h
      rw [if_pos rfl, if_pos List.mem_cons_self, wipe_length]
      by_cases q : v < σ.length
      · rw [if_pos q, List.getElem?_eq_getElem q]
        rfl
      · rw [if_neg q, List.getElem?_eq_none (by omega)]
        rfl
    · rw [if_neg h, wipe_get]
      by_cases q : j ∈ vs
      · rw [if_pos q, if_pos (List.mem_cons_of_mem _ q)]
      · rw [if_neg q, if_neg (by simp only [List.mem_cons, not_or]; exact ⟨fun e => h e.symm, q⟩)]
theorem wipe_set {σ : L2.St} {i : Nat} {x : Option V} {vs : List Nat} (h : i ∈ vs) : wipe (σ.set i x) vs = wipe σ vs := by
  apply List.ext_getElem?
  intro j
  rw [wipe_get, wipe_get]
  by_cases q : j ∈ vs
  · rw [if_pos q, if_pos q, List.getElem?_set]
    by_cases e : i = j
    · subst e
      rw [if_pos rfl]
      by_cases z : i < σ.length
      · rw [if_pos z, List.getElem?_eq_getElem z]
        rfl
      · rw [if_neg z, List.getElem?_eq_none (by omega)]
    · rw [if_neg e]
  · rw [if_neg q, if_neg q, List.getElem?_set_ne]
    rintro rfl
    exact q h
theorem wipe_wipe {σ : L2.St} {vs : List Nat} : wipe (wipe σ vs) vs = wipe σ vs := by
  apply List.ext_getElem?
  intro j
  rw [wipe_get, wipe_get]
  by_cases q : j ∈ vs
  · rw [if_pos q, if_pos q]
    cases σ[j]? <;> rfl
  · rw [if_neg q, if_neg q]
theorem wipeD_len {τ : List (Option D)} : ∀ {vs : List Nat}, (wipeD τ vs).length = τ.length
  | [] => rfl
  | v :: vs => by
    unfold wipeD
    rw [List.length_set, wipeD_len]
theorem wipeD_some {τ : List (Option D)} {i : Nat} {x : D} : ∀ {vs : List Nat}, (wipeD τ vs)[i]? = some (some x) → τ[i]? = some (some x) ∧ i ∉ vs
  | [], h => ⟨h, by simp⟩
  | v :: vs, h => by
    unfold wipeD at h
    rw [List.getElem?_set] at h
    by_cases hi : v = i
    · rw [if_pos hi] at h
      split at h <;> cases h
    · rw [if_neg hi] at h
      obtain ⟨a, b⟩ := wipeD_some h
      exact ⟨a, by simp only [List.mem_cons, not_or]; exact ⟨fun e => hi e.symm, b⟩⟩
mutual
def T.sl : T → List Nat
  | .nm i => [i]
  | .tp ts => sls ts
def sls : List T → List Nat
  | [] => []
  | t :: ts => t.sl ++ sls ts
end
section
variable {X : Cx} {W : WX} {g : G} {k : Nat} {fns : List (Str × List Str)} {e a b d : Expr} {pos p : Pos} {c : KM} {ρ : Nat → Addr} {N : Nat} {H : Hp} {h : IH} {τ : List (Option D)} {σ : L2.St}
theorem SRel.wipe {vs : List Nat} (R : SRel c H ρ N τ σ) : SRel c H ρ N (wipeD τ vs) (L2.wipe σ vs) := by
  refine ⟨by rw [wipe_length, wipeD_len]; exact R.1, fun i d e => ?_⟩
  obtain ⟨e1, ni⟩ := wipeD_some e
  obtain ⟨v, e2, r⟩ := R.2 i d e1
  exact ⟨v, by rw [wipe_get, if_neg ni]; exact e2, r⟩
theorem SRel.set {i : Nat} {d : D} {v : V} (R : SRel c H ρ N τ σ) (r : Rep c H ρ N d v) : SRel c H ρ N (τ.set i (some d)) (σ.set i (some v)) := by
  refine ⟨by rw [List.length_set, List.length_set]; exact R.1, fun j x e => ?_⟩
  rw [List.getElem?_set] at e ⊢
  by_cases hj : i = j
  · rw [if_pos hj] at e ⊢
    split at e
    · rename_i hl
      cases e
      exact ⟨v, by rw [if_pos (by rw [R.1]; exact hl)], r⟩
    · cases e
  · rw [if_neg hj] at e ⊢
    exact R.2 j x e
/-- a target, by what the binding comes to -/
def gT (X : Cx) (t : T) : TG := fun v σ H Q => ∃ ρ h τ d τ', Sim (km X) ρ h H ∧ SRel (km X) H ρ h.length τ σ ∧ Rep (km X) H ρ h.length d v ∧ bindT t d τ = some τ' ∧
  ∀ σ', SRel (km X) H ρ h.length τ' σ' → (∀ vs, (∀ j ∈ t.sl, j ∈ vs) → wipe σ' vs = wipe σ vs) → Q σ' H
def gTs (X : Cx) (t : List T) : TGs := fun v σ H Q => ∃ ρ h τ d τ', Sim (km X) ρ h H ∧ SRel (km X) H ρ h.length τ σ ∧ RepL (km X) H ρ h.length d v ∧ bindT.bindTs t d τ = some τ' ∧
  ∀ σ', SRel (km X) H ρ h.length τ' σ' → (∀ vs, (∀ j ∈ sls t, j ∈ vs) → wipe σ' vs = wipe σ vs) → Q σ' H
theorem PG.imp {tg : Expr} {t t' : TG} (h : PG X tg t) (i : ∀ v σ H Q, t' v σ H Q → t v σ H Q) : PG X tg t' := ⟨fun pins s σ H v u Q I r q => h.run pins s σ H v u Q I r (i v σ H Q q)⟩
theorem PGs.imp {tg : List Expr} {t t' : TGs} (h : PGs X tg t) (i : ∀ v σ H Q, t' v σ H Q → t v σ H Q) : PGs X tg t' := ⟨fun pins s σ H v u Q I r q => h.run pins s σ H v u Q I r (i v σ H Q q)⟩
theorem g_nm {i : Nat} {x : Str} (hN : X.N.Nodup) (hi : X.N[i]? = some x) (hx : Loc X.env.scope x) (hf : X.fn x = true ∨ X.env.scope.names.lookup x = some .local) : PG X (.Name x pos) (gT X (.nm i)) :=
  PG.imp (pg_name hN hi hx hf) fun v σ H Q ⟨ρ, h, τ, d, τ', S, R, r, e, q⟩ => by
    have e : (if i < τ.length then some (τ.set i (some d)) else none) = some τ' := e
    split at e
    · cases e
      exact q _ (R.set r) fun vs hv => wipe_set (hv i (by simp [T.sl]))
    · cases e
theorem g_nil : PGs X [] (gTs X []) := PGs.imp pgs_nil fun v σ H Q ⟨ρ, h, τ, d, τ', S, R, r, e, q⟩ => by
  cases r with
  | nil =>
    cases e
    exact ⟨rfl, q σ R fun _ _ => rfl⟩
  | cons _ _ => cases e
theorem g_cons {es : List Expr} {t : T} {ts : List T} (h1 : PG X e (gT X t)) (h2 : PGs X es (gTs X ts)) (hs : (assignEach (e :: es) X.env).map (·.2) = assign e X.env :: (assignEach es X.env).map (·.2)) : PGs X (e :: es) (gTs X (t :: ts)) :=
  PGs.imp (pgs_cons h1 h2 hs) fun v σ H Q ⟨ρ, h, τ, d, τ', S, R, r, e, q⟩ => by
    cases d with
    | nil => cases e
    | cons d0 ds => cases r with
      | cons ra rb =>
        have e : (bindT t d0 τ).bind (fun τ' => bindT.bindTs ts ds τ') = some τ' := e
        cases e1 : bindT t d0 τ with
        | none => rw [e1] at e; cases e
        | some τ1 =>
          rw [e1] at e
          refine ⟨_, _, rfl, ρ, h, τ, d0, τ1, S, R, ra, e1, fun σ1 R1 w1 => ⟨ρ, h, τ1, ds, τ', S, R1, rb, e, fun σ2 R2 w2 => q σ2 R2 fun vs hv => ?_⟩⟩
          rw [w2 vs fun j hj => hv j (by simp [sls, hj]), w1 vs fun j hj => hv j (by simp [sls, hj])]
theorem g_tup {es : List Expr} {ts : List T} {j : Nat} (hc : X.calm = true) (h1 : PGs X es (gTs X ts)) (hl : ts.length = es.length) (hn : (assignEach es X.env).length = es.length) (hst : (assignEach es X.env).findIdx? (·.1) = none) : PG X (.Tuple es j pos) (gT X (.tp ts)) :=
  PG.imp (pg_tup (n := es.length) hc h1 hn hst) fun v σ H Q ⟨ρ, h, τ, d, τ', S, R, r, e, q⟩ => by
    cases d with
    | tup ds =>
      obtain ⟨a, vs, rfl, sq, rl⟩ := r.tupI
      have e : (if ts.length = ds.length then bindT.bindTs ts ds τ else none) = some τ' := e
      split at e
      · rename_i hq
        exact ⟨a, vs, rfl, sq, by rw [← rl.length, ← hl, hq], ρ, h, τ, ds, τ', S, R, rl, e, fun σ' R' w => q σ' R' fun vs hv => w vs fun j hj => hv j (by simp only [T.sl]; exact hj)⟩
      · cases e
    | _ => cases e
/-! ### tests of a comprehension -/
theorem s_ptn : PTs X [] (tTo X W g .none) := PTs.imp pts_nil fun σ H Q ⟨ρ, h, τ, S, R, P⟩ => Post.ok S P rfl
theorem s_pto {x : E} (h1 : PT X a (tT X W g x)) : PTs X [a] (tTo X W g (.some x)) := PTs.imp (pts_one h1) fun σ H Q q => q
abbrev W0 : WX := fun _ _ _ _ => False
theorem Aft.setl {n : Nat} {xs ys : List D} {ws : List V} (S : Sim c ρ h H) (e : h[n]? = some (.lst xs)) (r : RepL c H ρ h.length ys ws) : Aft c ρ h.length H ρ (h.set n (.lst ys)) (upd H (ρ n) (.lst ws)) := by
  obtain ⟨us, hu, _⟩ := S.ob n _ e
  have hp' : ∀ u, H (ρ n) = Option.some u → (∀ vs, u ≠ .tup vs) ∧ ∀ b vs, u ≠ .frz b vs := fun u q => by
    rw [hu] at q
    cases q
    exact ⟨fun _ z => (by cases z), fun _ _ z => (by cases z)⟩
  exact Aft.write S e rfl ⟨ws, upd_same, r.mono (SqT.keep hp') (fun _ _ => rfl) (Nat.le_refl _)⟩ rfl
theorem t_lc {i : I} {t : T} {tt : Oe} {x : E} {vs : List Nat} (hown : ∀ j ∈ t.sl, j ∈ vs) : ∀ σ H Q, tE X W g (.lc vs t i tt x) σ H Q → tLc (tI X W g i) (gT X t) (tTo X W0 g tt) (tE X W0 g x) vs σ H Q := by
  rintro σ H Q ⟨ρ, h, τ, S, R, P⟩
  refine ⟨ρ, h, τ, S, R, Post.mk P fun j h1 _ jt ρ1 H1 A1 r1 P1 => ?_⟩
  intro Da hD
  have A2 : Aft (km X) ρ1 h1.length H1 (ext ρ1 h1.length Da) (h1 ++ [.lst []]) (upd H1 Da (.lst [])) := Aft.alloc A1.sim hD ⟨[], upd_same, .nil⟩
  have P2 := Post.shift A2 P1
  generalize htu : (fun d h => match bindT t d (wipeD τ vs) with
      | none => Re.no
      | some τ' => (evt g τ' tt h).bind fun k h => if k then (ev g τ' x h).bind fun y h => .ok (some y) h else .ok none h : D → IH → Re (Option D)) = turn at P2
  refine ⟨fun i m H' => ∃ ρ' h', Sim (km X) ρ' h' H' ∧ SRel (km X) H' ρ' h'.length τ σ ∧ JR X H' ρ' h'.length j jt ∧ h1.length < h'.length ∧ ρ' h1.length = Da ∧ Post (km X) W (rD X) ρ' h'.length H' σ (lcLoop j turn h1.length m i h') Q,
    ⟨_, _, _, A2.sim, A2.srel (A1.srel R), r1.mono A2, by simp, ext_eq, P2⟩, ?_⟩
  rintro i m H' ⟨ρ', h', S', R', J', hlt, hD', P'⟩
  cases m with
  | zero => exact P'.elim
  | succ f =>
    have P' : Post (km X) W (rD X) ρ' h'.length H' σ (match j.get i h' with
      | none => .no
      | some none => .ok (.ref h1.length) h'
      | some (some d) => match turn d h' with
        | .ok none h2 => lcLoop j turn h1.length f (i + 1) h2
        | .ok (some y) h2 => (match h2[h1.length]? with
          | some (.lst acc) => if acc.length < sizeLine then lcLoop j turn h1.length f (i + 1) (h2.set h1.length (.lst (acc ++ [y]))) else .no
          | _ => .no)
        | _ => .no) Q := P'
    cases e : j.get i h' with
    | none => rw [e] at P'; exact P'.elim
    | some o =>
      cases o with
      | none =>
        rw [e] at P'
        refine .inl ⟨J'.stop S' e, ?_⟩
        have z := Post.ok S' P' (Rep.ref hlt)
        rw [hD'] at z
        exact z
      | some d =>
        rw [e] at P'
        obtain ⟨go, yl⟩ := J'.get S' e
        refine .inr ⟨go, _, fun H2 n => ⟨f, Nat.lt_succ_self _, n⟩, fun x0 H2 y => ?_⟩
        obtain ⟨rfl, rd⟩ := yl x0 H2 y
        have P' : Post (km X) W (rD X) ρ' h'.length H2 σ (match turn d h' with
          | .ok none h2 => lcLoop j turn h1.length f (i + 1) h2
          | .ok (some y) h2 => (match h2[h1.length]? with
            | some (.lst acc) => if acc.length < sizeLine then lcLoop j turn h1.length f (i + 1) (h2.set h1.length (.lst (acc ++ [y]))) else .no
            | _ => .no)
          | _ => .no) Q := P'
        cases et : turn d h' with
        | no => rw [et] at P'; exact P'.elim
        | ex _ _ _ => rw [et] at P'; exact P'.elim
        | ok r h2 =>
          rw [et] at P'
          rw [← htu] at et
          dsimp only at et
          cases eb : bindT t d (wipeD τ vs) with
          | none => rw [eb] at et; cases et
          | some τ' =>
            rw [eb] at et
            obtain ⟨kk, h3, e3, et⟩ := Re.bind_ok et
            refine ⟨ρ', h', wipeD τ vs, d, τ', S', R'.wipe, rd, eb, fun σ' R'' hw => ⟨(hw vs hown).trans wipe_wipe, ρ', h', τ', S', R'', ?_⟩⟩
            show Post (km X) W0 (rEq Bool) ρ' h'.length H2 σ' (evt g τ' tt h') _
            rw [e3]
            intro b0 ρ3 H3 A3 ebk
            have ebk : kk = b0 := ebk
            subst ebk
            cases kk with
            | true =>
              rw [if_pos rfl] at et ⊢
              obtain ⟨y0, h4, e4, e5⟩ := Re.bind_ok et
              cases e5
              refine ⟨ρ3, h3, τ', A3.sim, A3.srel R'', ?_⟩
              show Post (km X) W0 (rD X) ρ3 h3.length H3 σ' (ev g τ' x h3) _
              rw [e4]
              intro v ρ4 H4 A4 r4
              have A34 := A3.trans A4
              have P4 := Post.shift A34 P'
              dsimp only at P4
              split at P4
              · rename_i acc e6
                split at P4
                · rename_i hz
                  obtain ⟨ws, q, rl⟩ := lst_at A34.sim e6
                  have hD4 : ρ4 h1.length = Da := (A34.ag _ hlt).trans hD'
                  have A5 := Aft.setl A34.sim e6 (rl.append (.cons r4 .nil))
                  rw [hD4] at q A5
                  have A345 := A34.trans A5
                  refine ⟨ws, q, by rw [← rl.length]; exact hz, ρ4, _, A345.sim, A345.srel R', J'.mono A345, Nat.lt_of_lt_of_le hlt A345.len, hD4, Post.shift A5 P4⟩
                · exact P4.elim
              · exact P4.elim
            | false =>
              rw [if_neg Bool.false_ne_true] at et ⊢
              cases et
              have P4 := Post.shift A3 P'
              exact ⟨ρ3, _, A3.sim, A3.srel R', J'.mono A3, Nat.lt_of_lt_of_le hlt A3.len, (A3.ag _ hlt).trans hD', P4⟩
end
end Ly
/-! LyI: statements. -/
namespace Ly
open PySem PySem.Spec PyProof.Rows L2
def PostF (c : KM) (W : WX) (ρ : Nat → Addr) (N : Nat) (H : Hp) (r : Re Fl) (D : Ends) : Prop :=
  match r with
  | .ok fl h' => ∀ ρ' H', Aft c ρ N H ρ' h' H' → (match fl with
    | .nx τ' => ∀ σ', SRel c H' ρ' h'.length τ' σ' → D.nx σ' H'
    | .bk τ' => ∀ σ', SRel c H' ρ' h'.length τ' σ' → D.bk σ' H'
    | .ct τ' => ∀ σ', SRel c H' ρ' h'.length τ' σ' → D.ct σ' H'
    | .rt d => ∀ v, Rep c H' ρ' h'.length d v → D.rt v H')
  | .ex cn fs h' => ∀ σ' ρ' H' C dx vfs, Aft c ρ N H ρ' h' H' → c.mg cn = some (.ref C) → H' dx = some (.xd vfs) → RepF c H' ρ' h'.length fs vfs → W (.ref C) (some dx) σ' H'
  | .no => False
section
variable {c : KM} {W : WX} {α β : Type} {R : Rl α β} {ρ ρ1 : Nat → Addr} {N : Nat} {H H1 : Hp} {h h1 : IH} {σ : L2.St} {τ : List (Option D)} {Q : β → Hp → Prop} {D D' : Ends}
theorem PostF.shift {r : Re Fl} (A : Aft c ρ N H ρ1 h1 H1) (P : PostF c W ρ N H r D) : PostF c W ρ1 h1.length H1 r D := by
  cases r with
  | ok a h' => exact fun ρ' H' A' => P ρ' H' (A.trans A')
  | ex cn fs h' => exact fun σ' ρ' H' C dx vfs A' => P σ' ρ' H' C dx vfs (A.trans A')
  | no => exact P
theorem PostF.mk {r : Re α} {k : α → IH → Re Fl} (P : PostF c W ρ N H (r.bind k) D) (hk : ∀ a h1, r = .ok a h1 → ∀ b ρ1 H1, Aft c ρ N H ρ1 h1 H1 → R H1 ρ1 h1.length a b → PostF c W ρ1 h1.length H1 (k a h1) D → Q b H1) : Post c W R ρ N H σ r Q := by
  cases r with
  | ok a h1 => exact fun b ρ1 H1 A r => hk a h1 rfl b ρ1 H1 A r (PostF.shift A P)
  | ex cn fs h' => exact P σ
  | no => exact P
/-- what a flow asks -/
def FlP (c : KM) (ρ : Nat → Addr) (h : IH) (H : Hp) (D : Ends) : Fl → Prop
  | .nx τ' => ∀ σ', SRel c H ρ h.length τ' σ' → D.nx σ' H
  | .bk τ' => ∀ σ', SRel c H ρ h.length τ' σ' → D.bk σ' H
  | .ct τ' => ∀ σ', SRel c H ρ h.length τ' σ' → D.ct σ' H
  | .rt d => ∀ v, Rep c H ρ h.length d v → D.rt v H
theorem PostF.fl {r : Re Fl} {k : Fl → IH → Re Fl} (P : PostF c W ρ N H (r.bind k) D) (hk : ∀ fl h1, r = .ok fl h1 → ∀ ρ1 H1, Aft c ρ N H ρ1 h1 H1 → PostF c W ρ1 h1.length H1 (k fl h1) D → FlP c ρ1 h1 H1 D' fl) : PostF c W ρ N H r D' := by
  cases r with
  | ok fl h1 =>
    intro ρ1 H1 A
    have z := hk fl h1 rfl ρ1 H1 A (PostF.shift A P)
    cases fl <;> exact z
  | ex cn fs h' => exact P
  | no => exact P
theorem PostF.at {fl : Fl} (S : Sim c ρ h H) (P : PostF c W ρ h.length H (.ok fl h) D) : FlP c ρ h H D fl := by
  have z := P ρ H (Aft.refl S)
  cases fl <;> exact z
def tS (X : Cx) (W : WX) (g : G) (s : S) : TS := fun D σ H => ∃ ρ h τ, Sim (km X) ρ h H ∧ SRel (km X) H ρ h.length τ σ ∧ PostF (km X) W ρ h.length H (ex g s τ h) D
def tSs (X : Cx) (W : WX) (g : G) (s : Ss) : TS := fun D σ H => ∃ ρ h τ, Sim (km X) ρ h H ∧ SRel (km X) H ρ h.length τ σ ∧ PostF (km X) W ρ h.length H (exs g s τ h) D
end
section
variable {X : Cx} {W : WX} {g : G} {k : Nat} {fns : List (Str × List Str)} {e a b : Expr} {pos p : Pos} {st : Stmt} {rest : List Stmt}
theorem x_nil : PSs X [] (tSs X W g .nil) := PSs.imp pss_nil fun D σ H ⟨ρ, h, τ, S, R, P⟩ => PostF.at S P σ R
theorem x_cons {s : S} {ss : Ss} (h1 : PS X st (tS X W g s)) (h2 : PSs X rest (tSs X W g ss)) : PSs X (st :: rest) (tSs X W g (.cons s ss)) :=
  PSs.imp (pss_cons h1 h2) fun D σ H ⟨ρ, h, τ, S, R, P⟩ => ⟨ρ, h, τ, S, R, PostF.fl P fun fl h1 _ ρ1 H1 A1 P1 => by
    cases fl with
    | nx τ' => exact fun σ' R' => ⟨ρ1, h1, τ', A1.sim, R', P1⟩
    | bk τ' => exact PostF.at (W := W) A1.sim P1
    | ct τ' => exact PostF.at (W := W) A1.sim P1
    | rt d => exact PostF.at (W := W) A1.sim P1⟩
theorem t_asg {t : T} {x : E} : ∀ D σ H, tS X W g (.asg t x) D σ H → tE X W g x σ H fun v H1 => gT X t v σ H1 D.nx :=
  fun D σ H ⟨ρ, h, τ, S, R, P⟩ => ⟨ρ, h, τ, S, R, PostF.mk P fun d h1 _ v ρ1 H1 A1 r1 P1 => by
    split at P1
    · rename_i τ' e1
      exact ⟨ρ1, h1, τ, d, τ', A1.sim, A1.srel R, r1, e1, fun σ' R' _ => PostF.at A1.sim P1 σ' R'⟩
    · exact P1.elim⟩
theorem gN {i : Nat} {v : V} {σ : L2.St} {H : Hp} {Q : L2.St → Hp → Prop} (q : gT X (.nm i) v σ H Q) : gName i v σ H Q := by
  obtain ⟨ρ, h, τ, d, τ', S, R, r, e, q⟩ := q
  have e : (if i < τ.length then some (τ.set i (some d)) else none) = some τ' := e
  split at e
  · cases e
    exact q _ (R.set r) fun vs hv => wipe_set (hv i (by simp [T.sl]))
  · cases e
theorem tE_mono {x : E} {σ : L2.St} {H : Hp} {Q Q' : VK} (i : ∀ v H, Q v H → Q' v H) (q : tE X W g x σ H Q) : tE X W g x σ H Q' := by
  obtain ⟨ρ, h, τ, S, R, P⟩ := q
  refine ⟨ρ, h, τ, S, R, ?_⟩
  revert P
  show Post (km X) W (rD X) ρ h.length H σ (ev g τ x h) Q → Post (km X) W (rD X) ρ h.length H σ (ev g τ x h) Q'
  intro P
  cases e : ev g τ x h with
  | ok d h' => rw [e] at P; exact fun v ρ' H' A r => i _ _ (P v ρ' H' A r)
  | ex cn fs h' => rw [e] at P; exact P
  | no => rw [e] at P; exact P.elim
theorem x_set {i : Nat} {y : Str} {x : E} {py : Pos} (hN : X.N.Nodup) (hi : X.N[i]? = some y) (hy : Loc X.env.scope y) (h1 : PE X e (tE X W g x)) (hs : swapsWith e (some (.Name y py)) pos.line X.env = pure false) (hf : X.fn y = true ∨ X.env.scope.names.lookup y = some .local) :
    PS X (.Assign [.Name y py] e pos) (tS X W g (.asg (.nm i) x)) :=
  PS.imp (ps_set hN hi hy h1 hs hf) fun D σ H q => tE_mono (fun v H1 z => gN z) (t_asg D σ H q)
theorem x_asg {tg : Expr} {t : T} {x : E} (h1 : PE X e (tE X W g x)) (hg : PG X tg (gT X t)) (hs : swapsWithSole [tg] e pos.line X.env = pure false) (hw : swappedStores [tg] e X.env = pure none) (h2 : (assignEach [tg] X.env).map (·.2) = [assign tg X.env]) :
    PS X (.Assign [tg] e pos) (tS X W g (.asg t x)) := PS.imp (ps_asg h1 hg hs hw h2) t_asg
theorem s_lc {tg it elt : Expr} {ifs : List Expr} {scope : Scope} {own : List (Str × Nat)} {t : T} {i : I} {tt : Oe} {x : E} (c : Cok X W g k fns) (hi : PI X tg it (tI X W g i)) (ok : BlkOk X.N X.env.scope scope own)
    (hg : ∀ (s : Shared) (H : Hp) (C : Addr) (cl : List (Str × Addr)) (fp : List Addr), PG (X.blk s H scope (compEnvC scope cl C X.env) fp) tg (gT X t)) (ht : ∀ (s : Shared) (H : Hp) (C : Addr) (cl : List (Str × Addr)) (fp : List Addr), PTs (X.blk s H scope (compEnvC scope cl C X.env) fp) ifs (tTo X W0 g tt))
    (he : ∀ (s : Shared) (H : Hp) (C : Addr) (cl : List (Str × Addr)) (fp : List Addr), PE (X.blk s H scope (compEnvC scope cl C X.env) fp) elt (tE X W0 g x)) (hown : ∀ j ∈ t.sl, j ∈ own.map (·.2)) (hs : ∀ x, foldedSetIterable it X.env x = pure x) :
    PE X (.ListComp elt [⟨tg, it, ifs, 0⟩] scope pos) (tE X W g (.lc (own.map (·.2)) t i tt x)) :=
  PE.imp (pe_lc c.calm c.nd hi ok hg ht he hs) (t_lc hown)
theorem x_setLc {j : Nat} {y : Str} {py : Pos} {tg it elt : Expr} {ifs : List Expr} {scope : Scope} {own : List (Str × Nat)} {t : T} {i : I} {tt : Oe} {x : E} {spos : Pos} (c : Cok X W g k fns) (hy : X.N[j]? = some y) (hyl : X.env.scope.names.lookup y = some .local)
    (hsw : swapsWith (.ListComp elt [⟨tg, it, ifs, 0⟩] scope pos) (some (.Name y py)) spos.line X.env = pure true) (hi : PI X tg it (tI X W g i)) (ok : BlkOk X.N X.env.scope scope own)
    (hg : ∀ (s : Shared) (H : Hp) (C : Addr) (cl : List (Str × Addr)) (fp : List Addr), PG (X.blk s H scope (compEnvC scope cl C X.env) fp) tg (gT X t)) (ht : ∀ (s : Shared) (H : Hp) (C : Addr) (cl : List (Str × Addr)) (fp : List Addr), PTs (X.blk s H scope (compEnvC scope cl C X.env) fp) ifs (tTo X W0 g tt))
    (he : ∀ (s : Shared) (H : Hp) (C : Addr) (cl : List (Str × Addr)) (fp : List Addr), PE (X.blk s H scope (compEnvC scope cl C X.env) fp) elt (tE X W0 g x)) (hown : ∀ j ∈ t.sl, j ∈ own.map (·.2)) (hs : ∀ x, foldedSetIterable it X.env x = pure x) :
    PS X (.Assign [.Name y py] (.ListComp elt [⟨tg, it, ifs, 0⟩] scope pos) spos) (tS X W g (.asg (.nm j) (.lc (own.map (·.2)) t i tt x))) :=
  PS.imp (ps_setLc c.calm c.nd hy hyl hsw hi ok hg ht he hs) fun D σ H q => t_lc hown σ H _ (tE_mono (fun v H1 z => gN z) (t_asg D σ H q))
theorem x_iset {o i : Expr} {x y z : E} {p2 : Pos} (h0 : PE X e (tE X W g z)) (h1 : PE X o (tE X W g x)) (h2 : PE X i (tE X W g y)) (ha : ∀ v, assign (.Subscript o i p2) X.env v = (do
      let ov ← holding [v] (eval o X.env)
      let iv ← holding [v, ov] (eval i X.env)
      standAt p2
      holding [v, ov, iv] (setItem ov iv v)
      release [v, ov, iv] [])) (hs : swapsWithSole [.Subscript o i p2] e pos.line X.env = pure false) (hw : swappedStores [.Subscript o i p2] e X.env = pure none) (h3 : (assignEach [.Subscript o i p2] X.env).map (·.2) = [assign (.Subscript o i p2) X.env]) :
    PS X (.Assign [.Subscript o i p2] e pos) (tS X W g (.iset x y z)) :=
  PS.imp (ps_asg h0 (pg_sub h1 h2 set_list ha) hs hw h3) fun D σ H ⟨ρ, h, τ, S, R, P⟩ => ⟨ρ, h, τ, S, R, PostF.mk P fun dv h1 _ v ρ1 H1 A1 r1 P1 =>
    ⟨ρ1, h1, τ, A1.sim, A1.srel R, PostF.mk P1 fun dx h2 _ vx ρ2 H2 A2 r2 P2 => ⟨ρ2, h2, τ, A2.sim, A2.srel (A1.srel R), PostF.mk P2 fun dy h3 _ vy ρ3 H3 A3 r3 P3 => by
      split at P3
      · have rx := A3.rep r2
        obtain ⟨rfl, hn⟩ := rx.refI
        rw [r3.intI]
        split at P3
        · rename_i xs e1
          split at P3
          · rename_i j e2
            obtain ⟨vs, q1, rl⟩ := lst_at A3.sim e1
            have A4 := Aft.setl A3.sim e1 (rl.set (A3.rep (A2.rep r1)) j)
            refine ⟨_, vs, _, j, rfl, rfl, q1, by rw [← rl.length]; exact e2, ?_⟩
            exact PostF.at A4.sim (PostF.shift A4 P3) σ (A4.srel (A3.srel (A2.srel (A1.srel R))))
          · exact P3.elim
        · exact P3.elim
      · exact P3.elim⟩⟩⟩
theorem x_expr {x : E} (h1 : PE X e (tE X W g x)) (hs : swapsWith e none pos.line X.env = pure false) : PS X (.Expr e pos) (tS X W g (.expr x)) :=
  PS.imp (ps_expr h1 hs) fun D σ H ⟨ρ, h, τ, S, R, P⟩ => ⟨ρ, h, τ, S, R, PostF.mk P fun d h1 _ v ρ1 H1 A1 r1 P1 => PostF.at A1.sim P1 σ (A1.srel R)⟩
theorem x_ret {x : E} (h1 : PE X e (tE X W g x)) : PS X (.Return (some e) pos) (tS X W g (.ret x)) :=
  PS.imp (ps_ret h1) fun D σ H ⟨ρ, h, τ, S, R, P⟩ => ⟨ρ, h, τ, S, R, PostF.mk P fun d h1 _ v ρ1 H1 A1 r1 P1 => PostF.at A1.sim P1 v r1⟩
theorem x_retn : PS X (.Return none pos) (tS X W g .retn) := PS.imp ps_retN fun D σ H ⟨ρ, h, τ, S, R, P⟩ => PostF.at S P .non .non
theorem x_pass : PS X (.Pass pos) (tS X W g .pass) := PS.imp ps_pass fun D σ H ⟨ρ, h, τ, S, R, P⟩ => PostF.at S P σ R
theorem x_brk : PS X (.Break pos) (tS X W g .brk) := PS.imp ps_break fun D σ H ⟨ρ, h, τ, S, R, P⟩ => PostF.at S P σ R
theorem x_cnt : PS X (.Continue pos) (tS X W g .cnt) := PS.imp ps_continue fun D σ H ⟨ρ, h, τ, S, R, P⟩ => PostF.at S P σ R
theorem x_ife {x : E} {s t : Ss} {q r : List Stmt} (h1 : PT X e (tT X W g x)) (h2 : PSs X q (tSs X W g s)) (h3 : PSs X r (tSs X W g t)) : PS X (.If e q r pos) (tS X W g (.ife x s t)) :=
  PS.imp (ps_if h1 h2 h3) fun D σ H ⟨ρ, h, τ, S, R, P⟩ => ⟨ρ, h, τ, S, R, by
    have e : ex g (.ife x s t) τ h = (evb g τ x h).bind fun q h => if q = true then exs g s τ h else exs g t τ h := by
      unfold evb
      rw [Re.bind_bind]
      show (ev g τ x h).bind _ = _
      congr 1
      funext u h1
      cases truth h1 u with
      | none => rfl
      | some q => cases q <;> rfl
    rw [e] at P
    exact PostF.mk P fun u h1 _ v ρ1 H1 A1 r1 P1 => by
      have r1 : u = v := r1
      subst r1
      cases u with
      | true =>
        rw [if_pos rfl] at P1 ⊢
        exact ⟨ρ1, h1, τ, A1.sim, A1.srel R, P1⟩
      | false =>
        rw [if_neg Bool.false_ne_true] at P1 ⊢
        exact ⟨ρ1, h1, τ, A1.sim, A1.srel R, P1⟩⟩
theorem x_for {tg it : Expr} {body : List Stmt} {t : T} {i : I} {s : Ss} (c : Cok X W g k fns) (hp : PassesOwn (model X.prog X.w) X.A X.env X.xe) (hi : PI X tg it (tI X W g i)) (hg : PG X tg (gT X t)) (hb : PSs X body (tSs X W g s)) (hs : ∀ x, foldedSetIterable it X.env x = pure x) :
    PS X (.For tg it body [] pos) (tS X W g (.for t i s)) :=
  PS.imp (ps_for hp c.calm hi hg hb hs) fun D σ H ⟨ρ, h, τ, S, R, P⟩ => ⟨ρ, h, τ, S, R, PostF.mk P fun j h1 _ jt ρ1 H1 A1 r1 P1 => by
    generalize htu : (fun d τ h => match bindT t d τ with
      | none => Re.no
      | some τ' => exs g s τ' h : Ly.D → List (Option Ly.D) → IH → Re Fl) = turn at P1
    refine ⟨fun i m σ' H' => ∃ ρ' h' τ', Sim (km X) ρ' h' H' ∧ SRel (km X) H' ρ' h'.length τ' σ' ∧ JR X H' ρ' h'.length j jt ∧ PostF (km X) W ρ' h'.length H' (forLoop j turn m i τ' h') D,
      ⟨_, ρ1, h1, τ, A1.sim, A1.srel R, r1, P1⟩, ?_⟩
    rintro i m σ' H' ⟨ρ', h', τ', S', R', J', P'⟩
    cases m with
    | zero => exact P'.elim
    | succ f =>
      have P' : PostF (km X) W ρ' h'.length H' (match j.get i h' with
        | none => .no
        | some none => .ok (.nx τ') h'
        | some (some d) => (turn d τ' h').bind fun r h1 => match r with
          | .nx τ' => forLoop j turn f (i + 1) τ' h1
          | .ct τ' => forLoop j turn f (i + 1) τ' h1
          | .bk τ' => .ok (.nx τ') h1
          | .rt d => .ok (.rt d) h1) D := P'
      cases e : j.get i h' with
      | none => rw [e] at P'; exact P'.elim
      | some o =>
        cases o with
        | none =>
          rw [e] at P'
          exact .inl ⟨J'.stop S' e, PostF.at S' P' σ' R'⟩
        | some d =>
          rw [e] at P'
          obtain ⟨go, yl⟩ := J'.get S' e
          refine .inr ⟨go, _, fun σ2 H2 n => ⟨f, Nat.lt_succ_self _, n⟩, fun x0 H2 y => ?_⟩
          obtain ⟨rfl, rd⟩ := yl x0 H2 y
          have P' : PostF (km X) W ρ' h'.length H2 ((turn d τ' h').bind fun r h1 => match r with
            | .nx τ' => forLoop j turn f (i + 1) τ' h1
            | .ct τ' => forLoop j turn f (i + 1) τ' h1
            | .bk τ' => .ok (.nx τ') h1
            | .rt d => .ok (.rt d) h1) D := P'
          have ett : turn d τ' h' = (match bindT t d τ' with
            | none => Re.no
            | some τ' => exs g s τ' h') := by rw [← htu]
          rw [ett] at P'
          cases eb : bindT t d τ' with
          | none => rw [eb] at P'; exact P'.elim
          | some τ2 =>
            rw [eb] at P'
            refine ⟨ρ', h', τ', d, τ2, S', R', rd, eb, fun σ2 R2 _ => ⟨ρ', h', τ2, S', R2, PostF.fl P' fun fl h3 _ ρ3 H3 A3 P3 => ?_⟩⟩
            cases fl with
            | nx τ3 => exact fun σ3 R3 => ⟨ρ3, h3, τ3, A3.sim, R3, J'.mono A3, P3⟩
            | ct τ3 => exact fun σ3 R3 => ⟨ρ3, h3, τ3, A3.sim, R3, J'.mono A3, P3⟩
            | bk τ3 => exact PostF.at (W := W) A3.sim P3
            | rt d3 => exact PostF.at (W := W) A3.sim P3⟩
theorem x_whil {x : E} {body : List Stmt} {s : Ss} (hp : PassesOwn (model X.prog X.w) X.A X.env X.xe) (h1 : PT X e (tT X W g x)) (hb : PSs X body (tSs X W g s)) : PS X (.While e body [] pos) (tS X W g (.whil x s)) :=
  PS.imp (ps_while hp h1 hb) fun D σ H ⟨ρ, h, τ, S, R, P⟩ => by
    refine ⟨fun m σ' H' => ∃ ρ' h' τ', Sim (km X) ρ' h' H' ∧ SRel (km X) H' ρ' h'.length τ' σ' ∧ PostF (km X) W ρ' h'.length H' (whileLoop (fun τ h => evb g τ x h) (fun τ h => exs g s τ h) m τ' h') D, ⟨wmost, ρ, h, τ, S, R, P⟩, ?_⟩
    rintro m σ' H' ⟨ρ', h', τ', S', R', P'⟩
    cases m with
    | zero => exact P'.elim
    | succ f =>
      have P' : PostF (km X) W ρ' h'.length H' ((evb g τ' x h').bind fun k h => if k then (exs g s τ' h).bind fun r h1 => (match r with
        | .nx τ' => whileLoop (fun τ h => evb g τ x h) (fun τ h => exs g s τ h) f τ' h1
        | .ct τ' => whileLoop (fun τ h => evb g τ x h) (fun τ h => exs g s τ h) f τ' h1
        | .bk τ' => .ok (.nx τ') h1
        | .rt d => .ok (.rt d) h1) else .ok (.nx τ') h) D := P'
      refine ⟨ρ', h', τ', S', R', PostF.mk P' fun u h1 _ v ρ1 H1 A1 r1 P1 => ?_⟩
      have r1 : u = v := r1
      subst r1
      cases u with
      | true =>
        rw [if_pos rfl] at P1 ⊢
        refine ⟨_, fun σ2 H2 n => ⟨f, Nat.lt_succ_self _, n⟩, ρ1, h1, τ', A1.sim, A1.srel R', PostF.fl P1 fun fl h3 _ ρ3 H3 A3 P3 => ?_⟩
        cases fl with
        | nx τ3 => exact fun σ3 R3 => ⟨ρ3, h3, τ3, A3.sim, R3, P3⟩
        | ct τ3 => exact fun σ3 R3 => ⟨ρ3, h3, τ3, A3.sim, R3, P3⟩
        | bk τ3 => exact PostF.at (W := W) A3.sim P3
        | rt d3 => exact PostF.at (W := W) A3.sim P3
      | false =>
        rw [if_neg Bool.false_ne_true] at P1 ⊢
        exact PostF.at A1.sim P1 σ' (A1.srel R')
end
end Ly
/-! LyJ: the check that a term is the reading of a piece of syntax. -/
namespace Ly
open PySem PySem.Spec PyProof.Rows L2
structure Kp where
  N : List Str
  sc : Scope
  fn : Str → Bool
  fns : List (Str × List Str)
def Kp.blk (k : Kp) (scope : Scope) : Kp := { k with sc := relS scope k.sc, fn := fun x => scope.names.lookup x == some .cell }
def isVis (k : Kp) (x : Str) : Bool := match k.sc.names.lookup x with
  | some .local => true
  | some .cell => true
  | some .free => true
  | _ => false
def isLoc (k : Kp) (x : Str) : Bool := match k.sc.names.lookup x with
  | some .local => true
  | some .cell => true
  | _ => false
def isLocal (k : Kp) (x : Str) : Bool := match k.sc.names.lookup x with
  | some .local => true
  | _ => false
def isGl (k : Kp) (x : Str) : Bool := (match k.sc.names.lookup x with
  | some .globalImplicit => true
  | _ => false) && decide (x ≠ "__debug__") && decide (x ≠ "__classdict__") && decide (x ≠ "__name__")
def plain : Expr → Bool
  | .Starred _ _ => false
  | _ => true
def notComp : Expr → Bool
  | .ListComp _ _ _ _ => false
  | .SetComp _ _ _ _ => false
  | .DictComp _ _ _ _ _ => false
  | _ => true
def notSet : Expr → Bool
  | .Set _ _ _ => false
  | _ => true
def notTup : Expr → Bool
  | .Tuple _ _ _ => false
  | _ => true
def notSlice : Expr → Bool
  | .Slice _ _ _ _ => false
  | _ => true
def notBare : Expr → Bool
  | .Call _ [] [] _ => false
  | _ => true
mutual
def chkT (k : Kp) : T → Expr → Bool
  | .nm i, x => match x with
    | .Name y _ => decide (k.N[i]? = some y) && isLoc k y && (k.fn y || isLocal k y)
    | _ => false
  | .tp ts, x => match x with
    | .Tuple es _ _ => chkTs k ts es
    | _ => false
def chkTs (k : Kp) : List T → List Expr → Bool
  | [], xs => match xs with
    | [] => true
    | _ => false
  | t :: ts, xs => match xs with
    | x :: r => plain x && chkT k t x && chkTs k ts r
    | _ => false
end
/-- the built-in types that stand behind isinstance -/
def isiT (x : Str) : Option String :=
  if x = "str" then some "str" else if x = "list" then some "list" else if x = "tuple" then some "tuple" else if x = "int" then some "int" else if x = "bool" then some "bool" else if x = "dict" then some "dict" else none
def ownP (N : List Str) (own : List Nat) : List (Str × Nat) := own.map fun j => (N.getD j Str.empty, j)
mutual
def chkE (k : Kp) : E → Expr → Bool
  | .var i, x => match x with
    | .Name y _ => decide (k.N[i]? = some y) && isVis k y && decide (y ≠ "__debug__") && decide (y ≠ "__classdict__")
    | _ => false
  | .int i, x => match x with
    | .Constant (.int j) _ _ => decide (i = j)
    | _ => false
  | .str i, x => match x with
    | .Constant (.str j) _ _ => decide (i = j)
    | _ => false
  | .bl i, x => match x with
    | .Constant (.bool j) _ _ => decide (i = j)
    | _ => false
  | .non, x => match x with
    | .Constant .none _ _ => true
    | _ => false
  | .glo y, x => match x with
    | .Name z _ => decide (y = z) && isGl k z
    | _ => false
  | .tup es, x => match x with
    | .Tuple xs _ _ => chkEs k es xs
    | _ => false
  | .lst es, x => match x with
    | .List xs _ => chkEs k es xs
    | _ => false
  | .bin op a b, x => match x with
    | .BinOp p o q _ => decide (op = o) && chkE k a p && chkE k b q
    | _ => false
  | .neg a, x => match x with
    | .UnaryOp .USub p _ => chkE k a p
    | _ => false
  | .cmp op a b, x => match x with
    | .Compare p [o] [q] _ => decide (op = o) && chkE k a p && chkE k b q && !(behindInMarks o q)
    | _ => false
  | .chain o p a b c, x => match x with
    | .Compare q [o', p'] [r, s] _ => decide (o = o') && decide (p = p') && chkE k a q && chkE k b r && chkE k c s && !(lastMarks [o', p'] [r, s])
    | _ => false
  | .not a, x => match x with
    | .UnaryOp .Not p _ => chkE k a p
    | _ => false
  | .and a b, x => match x with
    | .BoolOp .And [p, q] _ => chkE k a p && chkE k b q
    | .BoolOp .And (p :: q :: r :: s) pos => chkE k a p && chkE k b (.BoolOp .And (q :: r :: s) pos)
    | _ => false
  | .or a b, x => match x with
    | .BoolOp .Or [p, q] _ => chkE k a p && chkE k b q
    | .BoolOp .Or (p :: q :: r :: s) pos => chkE k a p && chkE k b (.BoolOp .Or (q :: r :: s) pos)
    | _ => false
  | .ife c a b, x => match x with
    | .IfExp p q r _ => chkE k c p && chkE k a q && chkE k b r
    | _ => false
  | .call f es, x => match x with
    | .Call (.Name y _) xs [] _ => decide (f = y) && isGl k y && (k.fns.lookup f).isSome && chkEs k es xs
    | .Call (.Name y _) [] (kw :: kws) _ => decide (f = y) && isGl k y && decide (k.fns.lookup f = some ((kw :: kws).filterMap (·.arg))) && (kw :: kws).all (·.arg.isSome) && chkKs k es (kw :: kws)
    | _ => false
  | .callk _ _ _, _ => false
  | .blt f es, x => match x with
    | .Call (.Name y _) (p :: xs) [] _ => decide (f = y) && isGl k y && (bltIs f).isSome && chkEs k es (p :: xs)
    | _ => false
  | .isi a t, x => match x with
    | .Call (.Name y _) [p, .Name z _] [] _ => decide (y = "isinstance") && isGl k y && isGl k z && decide (isiT z = some t) && plain p && chkE k a p
    | _ => false
  | .sub a b, x => match x with
    | .Subscript p q _ => chkE k a p && chkE k b q && notSlice q
    | _ => false
  | .slc a lo hi, x => match x with
    | .Subscript p (.Slice q r none _) _ => chkE k a p && chkO k lo q && chkO k hi r
    | _ => false
  | .lc own t it tt e, x => match x with
    | .ListComp elt [⟨tg, iter, ifs, z⟩] scope _ => decide (z = 0) && blkC k.N k.sc scope (ownP k.N own) && chkI k it iter && notSet iter && chkT (k.blk scope) t tg && chkIfs (k.blk scope) tt ifs && chkE (k.blk scope) e elt && t.sl.all (fun j => own.contains j)
    | _ => false
  | .meth m a es, x => match x with
    | .Call (.Attribute o n apos) (p :: xs) [] pos => (match bmT m with
      | some (_, n', _) => decide (n = n')
      | none => false) && chkE k a o && notBare o && chkEs k es (p :: xs) && (apos.endLine == pos.line) && decide ((p :: xs).length < 29)
    | _ => false
def chkEs (k : Kp) : Es → List Expr → Bool
  | .nil, xs => match xs with
    | [] => true
    | _ => false
  | .cons e es, xs => match xs with
    | x :: r => plain x && chkE k e x && chkEs k es r
    | _ => false
def chkKs (k : Kp) : Es → List Keyword → Bool
  | .nil, xs => match xs with
    | [] => true
    | _ => false
  | .cons e es, xs => match xs with
    | ⟨_, x, _⟩ :: r => chkE k e x && chkKs k es r
    | _ => false
def chkO (k : Kp) : Oe → Option Expr → Bool
  | .none, x => match x with
    | none => true
    | _ => false
  | .some e, x => match x with
    | some y => chkE k e y
    | _ => false
def chkIfs (k : Kp) : Oe → List Expr → Bool
  | .none, x => match x with
    | [] => true
    | _ => false
  | .some e, x => match x with
    | [y] => chkE k e y
    | _ => false
def chkI (k : Kp) : I → Expr → Bool
  | .seq e, x => chkE k e x
  | .rng es, x => match x with
    | .Call (.Name y _) [p] [] _ => decide (y = "range") && isGl k y && chkEs k es [p]
    | .Call (.Name y _) [p, q] [] _ => decide (y = "range") && isGl k y && chkEs k es [p, q]
    | _ => false
end
def swB (k : Kp) (value : Expr) (y : Str) (py : Pos) : Bool := match value with
  | .ListComp _ _ s p => isLocal k y && py.line == p.line && !(s.names.any fun (n, q) => n == y && (q == .local || q == .cell))
  | _ => false
mutual
def chkS (k : Kp) : S → Stmt → Bool
  | .asg t e, x => match x with
    | .Assign [tg] v _ => (match t, tg with
      | .nm j, .Name y py => decide (k.N[j]? = some y) && isLoc k y && (k.fn y || isLocal k y) && chkE k e v && (notComp v || (match v with | .ListComp _ _ _ _ => true | _ => false))
      | .tp ts, .Tuple es i p => chkT k (.tp ts) (.Tuple es i p) && chkE k e v && notComp v && notTup v
      | _, _ => false)
    | _ => false
  | .iset o i e, x => match x with
    | .Assign [.Subscript p q _] v _ => chkE k e v && chkE k o p && chkE k i q && notComp v && notSlice q
    | _ => false
  | .expr e, x => match x with
    | .Expr v _ => chkE k e v && notComp v
    | _ => false
  | .ret e, x => match x with
    | .Return (some v) _ => chkE k e v
    | _ => false
  | .retn, x => match x with
    | .Return none _ => true
    | _ => false
  | .ife c a b, x => match x with
    | .If v p q _ => chkE k c v && chkSs k a p && chkSs k b q
    | _ => false
  | .for t it b, x => match x with
    | .For tg iter p [] _ => chkT k t tg && chkI k it iter && notSet iter && chkSs k b p
    | _ => false
  | .whil c b, x => match x with
    | .While v p [] _ => chkE k c v && chkSs k b p
    | _ => false
  | .brk, x => match x with
    | .Break _ => true
    | _ => false
  | .cnt, x => match x with
    | .Continue _ => true
    | _ => false
  | .pass, x => match x with
    | .Pass _ => true
    | _ => false
def chkSs (k : Kp) : Ss → List Stmt → Bool
  | .nil, xs => match xs with
    | [] => true
    | _ => false
  | .cons s ss, xs => match xs with
    | x :: r => chkS k s x && chkSs k ss r
    | _ => false
end
end Ly
/-! LyK: what the check says. -/
namespace Ly
open PySem PySem.Spec PyProof.Rows L2
structure Kok (k : Kp) (X : Cx) : Prop where
  N : k.N = X.N
  sc : k.sc = X.env.scope
  fn : ∀ x, k.fn x = X.fn x
  kind : X.env.scope.kind = .function
theorem star_plain {e : Expr} {es : List Expr} {env : Env} (h : plain e = true) : starEach (e :: es) env = (false, eval e env) :: starEach es env := by
  cases e <;> first | rfl | cases h
theorem any_back {pos : Pos} {env : Env} : ∀ {es : List Expr}, es.all plain = true → (backTo pos (starEach es env)).any (·.1) = false
  | [], _ => rfl
  | e :: es, h => by
    rw [List.all_cons, Bool.and_eq_true] at h
    rw [star_plain h.1]
    show (false || (backTo pos (starEach es env)).any (·.1)) = false
    rw [any_back h.2]
    rfl
theorem all_back {pos : Pos} {env : Env} : ∀ {es : List Expr}, es.all plain = true → (backTo pos (starEach es env)).all (fun x => !x.1) = true
  | [], _ => rfl
  | e :: es, h => by
    rw [List.all_cons, Bool.and_eq_true] at h
    rw [star_plain h.1]
    show (true && (backTo pos (starEach es env)).all (fun x => !x.1)) = true
    rw [all_back h.2]
    rfl
theorem asg_plain {e : Expr} {es : List Expr} {env : Env} (h : plain e = true) : assignEach (e :: es) env = (false, assign e env) :: assignEach es env := by
  cases e <;> first | rfl | cases h
theorem asg_len {env : Env} : ∀ {es : List Expr}, es.all plain = true → (assignEach es env).length = es.length ∧ (assignEach es env).findIdx? (·.1) = none
  | [], _ => ⟨rfl, rfl⟩
  | e :: es, h => by
    rw [List.all_cons, Bool.and_eq_true] at h
    obtain ⟨h1, h2⟩ := asg_len (env := env) h.2
    rw [asg_plain h.1]
    refine ⟨by rw [List.length_cons, List.length_cons, h1], ?_⟩
    rw [List.findIdx?_cons, h2]
    rfl
theorem kw_len {pos : Pos} {env : Env} : ∀ {kws : List Keyword}, kws.all (·.arg.isSome) = true → (backToKw pos (keywordEach kws env)).all (·.1.isSome) = true ∧ (backToKw pos (keywordEach kws env)).filterMap (·.1) = kws.filterMap (·.arg) ∧ (backToKw pos (keywordEach kws env)).any (·.1.isNone) = false
  | [], _ => ⟨rfl, rfl, rfl⟩
  | ⟨n, v, p⟩ :: kws, h => by
    rw [List.all_cons, Bool.and_eq_true] at h
    obtain ⟨h1, h2, h3⟩ := kw_len (pos := pos) (env := env) h.2
    cases n with
    | none => exact absurd h.1 (by simp)
    | some x =>
      refine ⟨?_, ?_, ?_⟩
      · show (true && (backToKw pos (keywordEach kws env)).all (·.1.isSome)) = true
        rw [h1]
        rfl
      · show x :: (backToKw pos (keywordEach kws env)).filterMap (·.1) = x :: kws.filterMap (·.arg)
        rw [h2]
      · show (false || (backToKw pos (keywordEach kws env)).any (·.1.isNone)) = false
        rw [h3]
        rfl
theorem sw_comp {v : Expr} {t : Option Expr} {l : Nat} {env : Env} (h : notComp v = true) : swapsWith v t l env = pure false := by
  cases v <;> first | rfl | cases h
theorem fold_set {it : Expr} {env : Env} (h : notSet it = true) : ∀ x, foldedSetIterable it env x = pure x := by
  intro x
  cases it <;> first | rfl | cases h
theorem swp_tup {tg v : Expr} {env : Env} (h : notTup v = true) : swappedStores [tg] v env = pure none := by
  cases v <;> first | (cases tg <;> rfl) | cases h
theorem base_bare {o : Expr} {n : Str} {env : Env} (h : notBare o = true) : attributeBase o n env (eval o env) = eval o env := by
  unfold attributeBase
  split
  · cases h
  · rfl
theorem plainIx_of {q : Expr} (h : notSlice q = true) : PlainIx q := by
  intro o i
  cases q <;> first | rfl | cases h
section
variable {X : Cx} {W : WX} {g : G} {lv : Nat} {fns : List (Str × List Str)} {k : Kp}
theorem vis_of (K : Kok k X) {x : Str} (h : isVis k x = true) : Vis X.env.scope x := by
  unfold isVis at h
  rw [K.sc] at h
  split at h
  · exact .inl (by assumption)
  · exact .inr (.inl (by assumption))
  · exact .inr (.inr (by assumption))
  · cases h
theorem loc_of (K : Kok k X) {x : Str} (h : isLoc k x = true) : Loc X.env.scope x := by
  unfold isLoc at h
  rw [K.sc] at h
  split at h
  · exact .inl (by assumption)
  · exact .inr (by assumption)
  · cases h
theorem local_of (K : Kok k X) {x : Str} (h : isLocal k x = true) : X.env.scope.names.lookup x = some .local := by
  unfold isLocal at h
  rw [K.sc] at h
  split at h
  · assumption
  · cases h
theorem gl_of (K : Kok k X) {x : Str} (h : isGl k x = true) : Gl X x ∧ (x == ("__debug__" : Str)) = false ∧ x ≠ "__name__" := by
  unfold isGl at h
  rw [K.sc] at h
  simp only [Bool.and_eq_true, decide_eq_true_eq] at h
  obtain ⟨⟨⟨h1, h2⟩, _⟩, h4⟩ := h
  refine ⟨?_, beq_eq_false_iff_ne.mpr h2, h4⟩
  split at h1
  · assumption
  · cases h1
theorem fnl_of (K : Kok k X) {x : Str} (h : (k.fn x || isLocal k x) = true) : X.fn x = true ∨ X.env.scope.names.lookup x = some .local := by
  rcases Bool.or_eq_true_iff.mp h with h | h
  · exact .inl (by rw [← K.fn]; exact h)
  · exact .inr (local_of K h)
mutual
theorem gTok (hc : X.calm = true) (nd : X.N.Nodup) (K : Kok k X) : ∀ (t : T) (x : Expr), chkT k t x = true → PG X x (gT X t)
  | .nm i, x, h => by
    unfold chkT at h
    split at h
    · simp only [Bool.and_eq_true, decide_eq_true_eq] at h
      obtain ⟨⟨h1, h2⟩, h3⟩ := h
      exact g_nm nd (by rw [← K.N]; exact h1) (loc_of K h2) (fnl_of K h3)
    · cases h
  | .tp ts, x, h => by
    unfold chkT at h
    split at h
    · rename_i es _ _
      obtain ⟨h1, h2, h3⟩ := gTsok hc nd K ts es h
      obtain ⟨h4, h5⟩ := asg_len (env := X.env) h3
      exact g_tup hc h1 h2 h4 h5
    · cases h
theorem gTsok (hc : X.calm = true) (nd : X.N.Nodup) (K : Kok k X) : ∀ (t : List T) (x : List Expr), chkTs k t x = true → PGs X x (gTs X t) ∧ t.length = x.length ∧ x.all plain = true
  | [], x, h => by
    unfold chkTs at h
    split at h
    · exact ⟨g_nil, rfl, rfl⟩
    · cases h
  | t :: ts, x, h => by
    unfold chkTs at h
    split at h
    · rename_i x r
      simp only [Bool.and_eq_true] at h
      obtain ⟨⟨h1, h2⟩, h3⟩ := h
      obtain ⟨q1, q2, q3⟩ := gTsok hc nd K ts r h3
      refine ⟨g_cons (gTok hc nd K t x h2) q1 ?_, by rw [List.length_cons, List.length_cons, q2], by rw [List.all_cons, h1, q3]; rfl⟩
      rw [asg_plain h1]
      rfl
    · cases h
end
theorem Cok.blk {s : Shared} {H : Hp} {scope : Scope} {cenv : Env} {fp : List Addr} (c : Cok X W g lv fns) : Cok (X.blk s H scope cenv fp) W0 g lv fns :=
  ⟨c.nd, c.calm, c.gd, c.room, fun u s' ⟨_, _, _, _, _, _, _, _, _, _, _, _, _, _, _, _, z⟩ => z.elim, c.gl, c.bl, c.fn⟩
theorem Kok.blk {s : Shared} {H : Hp} {scope : Scope} {C : Addr} {cl : List (Str × Addr)} {fp : List Addr} (K : Kok k X) (hk : scope.kind = .function) : Kok (k.blk scope) (X.blk s H scope (compEnvC scope cl C X.env) fp) :=
  ⟨K.N, by show relS scope k.sc = relS scope X.env.scope; rw [K.sc], fun _ => rfl, hk⟩
theorem blt_boot {f : Str} {u : Bf} (h : bltIs f = some u) : f ∈ bns ∧ bootBuiltins f = some u.v := by
  unfold bltIs at h
  by_cases h1 : f = "len"
  · rw [if_pos h1] at h; cases h; subst h1; exact ⟨by decide +kernel, by decide +kernel⟩
  rw [if_neg h1] at h
  by_cases h1 : f = "list"
  · rw [if_pos h1] at h; cases h; subst h1; exact ⟨by decide +kernel, by decide +kernel⟩
  rw [if_neg h1] at h
  by_cases h1 : f = "all"
  · rw [if_pos h1] at h; cases h; subst h1; exact ⟨by decide +kernel, by decide +kernel⟩
  rw [if_neg h1] at h
  by_cases h1 : f = "int"
  · rw [if_pos h1] at h; cases h; subst h1; exact ⟨by decide +kernel, by decide +kernel⟩
  rw [if_neg h1] at h
  by_cases h1 : f = "repr"
  · rw [if_pos h1] at h; cases h; subst h1; exact ⟨by decide +kernel, by decide +kernel⟩
  rw [if_neg h1] at h
  cases h
theorem isi_boot {f : Str} {u : String} (h : isiT f = some u) : f ∈ bns ∧ bootBuiltins f = some (.type u) := by
  unfold isiT at h
  by_cases h1 : f = "str"
  · rw [if_pos h1] at h; cases h; subst h1; exact ⟨by decide +kernel, by decide +kernel⟩
  rw [if_neg h1] at h
  by_cases h1 : f = "list"
  · rw [if_pos h1] at h; cases h; subst h1; exact ⟨by decide +kernel, by decide +kernel⟩
  rw [if_neg h1] at h
  by_cases h1 : f = "tuple"
  · rw [if_pos h1] at h; cases h; subst h1; exact ⟨by decide +kernel, by decide +kernel⟩
  rw [if_neg h1] at h
  by_cases h1 : f = "int"
  · rw [if_pos h1] at h; cases h; subst h1; exact ⟨by decide +kernel, by decide +kernel⟩
  rw [if_neg h1] at h
  by_cases h1 : f = "bool"
  · rw [if_pos h1] at h; cases h; subst h1; exact ⟨by decide +kernel, by decide +kernel⟩
  rw [if_neg h1] at h
  by_cases h1 : f = "dict"
  · rw [if_pos h1] at h; cases h; subst h1; exact ⟨by decide +kernel, by decide +kernel⟩
  rw [if_neg h1] at h
  cases h
theorem pt_ife {c a b : Expr} {pos : Pos} {tc ta tb : TT} (hc : PT X c tc) (ha : PT X a ta) (hb : PT X b tb) : PT X (.IfExp c a b pos) (fun σ H Q => tc σ H fun q H1 => if q = true then ta σ H1 Q else tb σ H1 Q) := by
  refine ⟨fun pins s σ H Q I h => ?_⟩
  show wpAny _ _ (do if ← isTrue c X.env (eval c X.env) then isTrue a X.env (eval a X.env) else isTrue b X.env (eval b X.env)) _ _ _
  refine wpAny_bind (thn (hc.run pins s σ H _ I h) fun q s1 ⟨H1, I1, q1⟩ => ?_)
  cases q with
  | true =>
    rw [if_pos rfl] at q1
    exact ha.run pins s1 σ H1 Q I1 q1
  | false =>
    rw [if_neg Bool.false_ne_true] at q1
    exact hb.run pins s1 σ H1 Q I1 q1
theorem z_ife {a b d : Expr} {pos : Pos} {x y z : E} (h1 : PT X d (tT X W g x)) (h2 : PT X a (tT X W g y)) (h3 : PT X b (tT X W g z)) : PT X (.IfExp d a b pos) (tT X W g (.ife x y z)) :=
  PT.imp (pt_ife h1 h2 h3) fun σ H Q ⟨ρ, h, τ, S, R, P⟩ => ⟨ρ, h, τ, S, R, by
    have e : evb g τ (.ife x y z) h = (evb g τ x h).bind fun q h => if q = true then evb g τ y h else evb g τ z h := by
      unfold evb
      rw [Re.bind_bind]
      show ((ev g τ x h).bind _).bind _ = _
      rw [Re.bind_bind]
      congr 1
      funext u h1
      cases truth h1 u with
      | none => rfl
      | some q => cases q <;> rfl
    dsimp only at P
    rw [e] at P
    exact Post.mk P fun u h1 _ v ρ1 H1 A1 r1 P1 => by
      have r1 : u = v := r1
      subst r1
      cases u with
      | true =>
        rw [if_pos rfl] at P1 ⊢
        exact ⟨ρ1, h1, τ, A1.sim, A1.srel R, P1⟩
      | false =>
        rw [if_neg Bool.false_ne_true] at P1 ⊢
        exact ⟨ρ1, h1, τ, A1.sim, A1.srel R, P1⟩⟩
end
/-- the expression, the test, and-or as a test -/
def Good (X : Cx) (W : WX) (g : G) (x : Expr) (e : E) : Prop := PE X x (tE X W g e) ∧ PT X x (tT X W g e) ∧ ∀ op vs p, x = .BoolOp op vs p → PW X x (tT X W g e)
theorem Good.any {X : Cx} {W : WX} {g : G} {x : Expr} {e : E} (h : PE X x (tE X W g e)) (he : ∀ whole, isTrue x X.env whole = (do let v ← whole; standAt x.pos; holding [v] (truthy v))) (hn : ∀ op vs p, x ≠ .BoolOp op vs p) : Good X W g x e :=
  ⟨h, z_any h he, fun op vs p q => absurd q (hn op vs p)⟩
section
variable {g : G} {lv : Nat} {fns : List (Str × List Str)} (hn : ∀ f ps, (f, ps) ∈ fns → ∀ ds h, ds.length ≠ ps.length → g.cf f ds h = .no)
include hn
mutual
theorem sE : ∀ (e : E) (x : Expr) (k : Kp) (X : Cx) (W : WX), k.fns = fns → Kok k X → Cok X W g lv fns → chkE k e x = true → Good X W g x e
  | .var i, x, k, X, W, hf, K, c, h => by
    unfold chkE at h
    split at h
    · simp only [Bool.and_eq_true, decide_eq_true_eq] at h
      obtain ⟨⟨⟨h1, h2⟩, h3⟩, h4⟩ := h
      exact Good.any (s_var (by rw [← K.N]; exact h1) (vis_of K h2) (beq_eq_false_iff_ne.mpr h3) (beq_eq_false_iff_ne.mpr h4)) (fun _ => rfl) fun _ _ _ q => nomatch q
    · cases h
  | .int i, x, k, X, W, hf, K, c, h => by
    unfold chkE at h
    split at h
    · have h := of_decide_eq_true h
      subst h
      exact Good.any s_int (fun _ => rfl) fun _ _ _ q => nomatch q
    · cases h
  | .str i, x, k, X, W, hf, K, c, h => by
    unfold chkE at h
    split at h
    · have h := of_decide_eq_true h
      subst h
      exact Good.any s_str (fun _ => rfl) fun _ _ _ q => nomatch q
    · cases h
  | .bl i, x, k, X, W, hf, K, c, h => by
    unfold chkE at h
    split at h
    · have h := of_decide_eq_true h
      subst h
      exact Good.any s_bl (fun _ => rfl) fun _ _ _ q => nomatch q
    · cases h
  | .non, x, k, X, W, hf, K, c, h => by
    unfold chkE at h
    split at h
    · exact Good.any s_non (fun _ => rfl) fun _ _ _ q => nomatch q
    · cases h
  | .glo y, x, k, X, W, hf, K, c, h => by
    unfold chkE at h
    split at h
    · simp only [Bool.and_eq_true, decide_eq_true_eq] at h
      obtain ⟨h1, h2⟩ := h
      subst h1
      obtain ⟨g1, g2, _⟩ := gl_of K h2
      exact Good.any (s_glo c g1 g2) (fun _ => rfl) fun _ _ _ q => nomatch q
    · cases h
  | .tup es, x, k, X, W, hf, K, c, h => by
    unfold chkE at h
    split at h
    · exact Good.any (s_tup ((sEs es).1 _ k X W hf K c h).1) (fun _ => rfl) fun _ _ _ q => nomatch q
    · cases h
  | .lst es, x, k, X, W, hf, K, c, h => by
    unfold chkE at h
    split at h
    · exact Good.any (s_lst ((sEs es).1 _ k X W hf K c h).1) (fun _ => rfl) fun _ _ _ q => nomatch q
    · cases h
  | .bin op a b, x, k, X, W, hf, K, c, h => by
    unfold chkE at h
    split at h
    · simp only [Bool.and_eq_true, decide_eq_true_eq] at h
      obtain ⟨⟨h1, h2⟩, h3⟩ := h
      subst h1
      exact Good.any (s_bin (sE a _ k X W hf K c h2).1 (sE b _ k X W hf K c h3).1) (fun _ => rfl) fun _ _ _ q => nomatch q
    · cases h
  | .neg a, x, k, X, W, hf, K, c, h => by
    unfold chkE at h
    split at h
    · exact Good.any (s_neg (sE a _ k X W hf K c h).1) (fun _ => rfl) fun _ _ _ q => nomatch q
    · cases h
  | .cmp op a b, x, k, X, W, hf, K, c, h => by
    unfold chkE at h
    split at h
    · simp only [Bool.and_eq_true, decide_eq_true_eq, Bool.not_eq_true'] at h
      obtain ⟨⟨⟨h1, h2⟩, h3⟩, h4⟩ := h
      subst h1
      exact ⟨s_cmp (sE a _ k X W hf K c h2).1 (sE b _ k X W hf K c h3).1 h4, z_cmp (sE a _ k X W hf K c h2).1 (sE b _ k X W hf K c h3).1 h4, fun _ _ _ q => nomatch q⟩
    · cases h
  | .chain o p a b d, x, k, X, W, hf, K, c, h => by
    unfold chkE at h
    split at h
    · simp only [Bool.and_eq_true, decide_eq_true_eq, Bool.not_eq_true'] at h
      obtain ⟨⟨⟨⟨⟨h0, h1⟩, h2⟩, h3⟩, h4⟩, h5⟩ := h
      subst h0 h1
      exact ⟨s_chain (sE a _ k X W hf K c h2).1 (sE b _ k X W hf K c h3).1 (sE d _ k X W hf K c h4).1 h5, z_chain (sE a _ k X W hf K c h2).1 (sE b _ k X W hf K c h3).1 (sE d _ k X W hf K c h4).1 h5, fun _ _ _ q => nomatch q⟩
    · cases h
  | .not a, x, k, X, W, hf, K, c, h => by
    unfold chkE at h
    split at h
    · exact ⟨s_not (sE a _ k X W hf K c h).1, z_not (sE a _ k X W hf K c h).2.1, fun _ _ _ q => nomatch q⟩
    · cases h
  | .and a b, x, k, X, W, hf, K, c, h => by
    unfold chkE at h
    split at h
    · simp only [Bool.and_eq_true] at h
      have q1 := sE a _ k X W hf K c h.1
      have q2 := sE b _ k X W hf K c h.2
      have w := z_and (pos := by assumption) q1.2.1 (pw_and1 q2.2.1)
      exact ⟨s_and q1.1 (pe_one q2.1), w.pt, fun _ _ _ _ => w⟩
    · simp only [Bool.and_eq_true] at h
      have q1 := sE a _ k X W hf K c h.1
      have q2 := sE b _ k X W hf K c h.2
      have w := z_and q1.2.1 (q2.2.2 _ _ _ rfl)
      exact ⟨s_and q1.1 q2.1, w.pt, fun _ _ _ _ => w⟩
    · cases h
  | .or a b, x, k, X, W, hf, K, c, h => by
    unfold chkE at h
    split at h
    · simp only [Bool.and_eq_true] at h
      have q1 := sE a _ k X W hf K c h.1
      have q2 := sE b _ k X W hf K c h.2
      have w := z_or (pos := by assumption) q1.2.1 (pw_or1 q2.2.1)
      exact ⟨s_or q1.1 (pe_one q2.1), w.pt, fun _ _ _ _ => w⟩
    · simp only [Bool.and_eq_true] at h
      have q1 := sE a _ k X W hf K c h.1
      have q2 := sE b _ k X W hf K c h.2
      have w := z_or q1.2.1 (q2.2.2 _ _ _ rfl)
      exact ⟨s_or q1.1 q2.1, w.pt, fun _ _ _ _ => w⟩
    · cases h
  | .ife d a b, x, k, X, W, hf, K, c, h => by
    unfold chkE at h
    split at h
    · simp only [Bool.and_eq_true] at h
      obtain ⟨⟨h1, h2⟩, h3⟩ := h
      exact ⟨s_ife (sE d _ k X W hf K c h1).2.1 (sE a _ k X W hf K c h2).1 (sE b _ k X W hf K c h3).1, z_ife (sE d _ k X W hf K c h1).2.1 (sE a _ k X W hf K c h2).2.1 (sE b _ k X W hf K c h3).2.1, fun _ _ _ q => nomatch q⟩
    · cases h
  | .call f es, x, k, X, W, hf, K, c, h => by
    unfold chkE at h
    split at h
    · rename_i y py xs pos
      simp only [Bool.and_eq_true, decide_eq_true_eq] at h
      obtain ⟨⟨⟨h1, h2⟩, h3⟩, h4⟩ := h
      subst h1
      obtain ⟨g1, g2, _⟩ := gl_of K h2
      obtain ⟨ps, e1⟩ := Option.isSome_iff_exists.mp h3
      rw [hf] at e1
      have m := PySem.mem_of_lookup e1
      have q := (sEs es).1 _ k X W hf K c h4
      cases es with
      | nil =>
        unfold chkEs at h4
        split at h4
        · exact Good.any (s_call0 c m (hn f ps m) g1 g2) (fun _ => rfl) fun _ _ _ q => nomatch q
        · cases h4
      | cons e0 es0 =>
        cases xs with
        | nil => unfold chkEs at h4; cases h4
        | cons x0 xs0 =>
          have pl := q.2
          rw [List.all_cons, Bool.and_eq_true] at pl
          exact Good.any (s_call c m (hn f ps m) g1 q.1 g2 (star_plain pl.1) (any_back pl.2)) (fun _ => rfl) fun _ _ _ q => nomatch q
    · rename_i y py kw kws pos
      simp only [Bool.and_eq_true, decide_eq_true_eq] at h
      obtain ⟨⟨⟨⟨h1, h2⟩, h3⟩, h4⟩, h5⟩ := h
      subst h1
      obtain ⟨g1, g2, _⟩ := gl_of K h2
      rw [hf] at h3
      have m := PySem.mem_of_lookup h3
      have q := (sEs es).2 _ k X W hf K c h5
      obtain ⟨k1, k2, k3⟩ := kw_len (pos := pos) (env := X.env) h4
      cases es with
      | nil => unfold chkKs at h5; cases h5
      | cons e0 es0 => exact Good.any (s_callk c m (hn f _ m) g1 q k1 k2 g2 k3) (fun _ => rfl) fun _ _ _ q => nomatch q
    · cases h
  | .callk _ _ _, x, k, X, W, hf, K, c, h => by
    unfold chkE at h
    cases h
  | .blt f es, x, k, X, W, hf, K, c, h => by
    unfold chkE at h
    split at h
    · rename_i y py p xs pos
      simp only [Bool.and_eq_true, decide_eq_true_eq] at h
      obtain ⟨⟨⟨h1, h2⟩, h3⟩, h4⟩ := h
      subst h1
      obtain ⟨g1, g2, g3⟩ := gl_of K h2
      obtain ⟨u, e1⟩ := Option.isSome_iff_exists.mp h3
      obtain ⟨b1, b2⟩ := blt_boot e1
      have q := (sEs es).1 _ k X W hf K c h4
      cases es with
      | nil => unfold chkEs at h4; cases h4
      | cons e0 es0 =>
        have pl := q.2
        rw [List.all_cons, Bool.and_eq_true] at pl
        exact Good.any (s_blt c e1 g1 b1 b2 q.1 g3 g2 (star_plain pl.1) (any_back pl.2)) (fun _ => rfl) fun _ _ _ q => nomatch q
    · cases h
  | .isi a t, x, k, X, W, hf, K, c, h => by
    unfold chkE at h
    split at h
    · rename_i y py p z pz pos
      simp only [Bool.and_eq_true, decide_eq_true_eq] at h
      obtain ⟨⟨⟨⟨⟨h1, h2⟩, h3⟩, h4⟩, h5⟩, h6⟩ := h
      subst h1
      obtain ⟨g1, _, _⟩ := gl_of K h2
      obtain ⟨g2, g3, g4⟩ := gl_of K h3
      obtain ⟨b1, b2⟩ := isi_boot h4
      exact Good.any (s_isi c (sE a _ k X W hf K c h6).1 g1 g2 b1 b2 g4 g3 (star_plain h5)) (fun _ => rfl) fun _ _ _ q => nomatch q
    · cases h
  | .sub a b, x, k, X, W, hf, K, c, h => by
    unfold chkE at h
    split at h
    · simp only [Bool.and_eq_true] at h
      obtain ⟨⟨h1, h2⟩, h3⟩ := h
      exact Good.any (s_sub (sE a _ k X W hf K c h1).1 (sE b _ k X W hf K c h2).1 (plainIx_of h3)) (fun _ => rfl) fun _ _ _ q => nomatch q
    · cases h
  | .slc a lo hi, x, k, X, W, hf, K, c, h => by
    unfold chkE at h
    split at h
    · simp only [Bool.and_eq_true] at h
      obtain ⟨⟨h1, h2⟩, h3⟩ := h
      exact Good.any (s_slc (sE a _ k X W hf K c h1).1 ((sO lo).1 _ k X W hf K c h2) ((sO hi).1 _ k X W hf K c h3)) (fun _ => rfl) fun _ _ _ q => nomatch q
    · cases h
  | .lc own t it tt e, x, k, X, W, hf, K, c, h => by
    unfold chkE at h
    split at h
    · rename_i elt tg iter ifs z scope pos
      simp only [Bool.and_eq_true, decide_eq_true_eq, List.all_eq_true] at h
      obtain ⟨⟨⟨⟨⟨⟨⟨h0, h1⟩, h2⟩, h3⟩, h4⟩, h5⟩, h6⟩, h7⟩ := h
      subst h0
      have e1 : (ownP k.N own).map (·.2) = own := by
        unfold ownP
        rw [List.map_map]
        exact List.map_id' own
      have ok : BlkOk X.N X.env.scope scope (ownP k.N own) := by
        have z := blkOk_by h1
        rw [K.N, K.sc] at z
        rw [K.N]
        exact z
      have r := s_lc (pos := pos) (x := e) (tt := tt) c (sI it _ k X W hf K c tg h2) ok (fun s H C cl fp => gTok (X := X.blk s H scope (compEnvC scope cl C X.env) fp) c.calm c.nd (K.blk ok.kind) t tg h4) (fun s H C cl fp => (sO tt).2 _ (k.blk scope) _ W0 hf (K.blk ok.kind) c.blk h5) (fun s H C cl fp => (sE e elt (k.blk scope) _ W0 hf (K.blk ok.kind) c.blk h6).1)
        (by rw [e1]; exact fun j hj => by simpa using h7 j hj) (fold_set h3)
      rw [e1] at r
      exact Good.any r (fun _ => rfl) fun _ _ _ q => nomatch q
    · cases h
  | .meth m a es, x, k, X, W, hf, K, c, h => by
    unfold chkE at h
    split at h
    · rename_i o n apos p xs pos
      simp only [Bool.and_eq_true, decide_eq_true_eq] at h
      obtain ⟨⟨⟨⟨⟨h1, h2⟩, h3⟩, h4⟩, h5⟩, h6⟩ := h
      split at h1
      · rename_i T n' id e1
        have h1 := of_decide_eq_true h1
        subst h1
        have q := (sEs es).1 _ k X W hf K c h4
        cases es with
        | nil => unfold chkEs at h4; cases h4
        | cons e0 es0 =>
          have pl := q.2
          have pl2 := pl
          rw [List.all_cons, Bool.and_eq_true] at pl
          refine Good.any (s_meth e1 (sE a _ k X W hf K c h2).1 q.1 (base_bare h3) ?_ h5 (star_plain pl.1) (any_back pl.2)) (fun _ => rfl) fun _ _ _ q => nomatch q
          rw [all_back pl2]
          simp only [List.length_cons, List.length_nil] at h6 ⊢
          simp [keywordEach, backToKw]
          omega
      · cases h1
    · cases h
theorem sEs : ∀ (es : Es), (∀ (xs : List Expr) (k : Kp) (X : Cx) (W : WX), k.fns = fns → Kok k X → Cok X W g lv fns → chkEs k es xs = true → PA X xs (tA X W g es) ∧ xs.all plain = true) ∧
    ∀ (xs : List Keyword) (k : Kp) (X : Cx) (W : WX), k.fns = fns → Kok k X → Cok X W g lv fns → chkKs k es xs = true → PK X xs (tA X W g es)
  | .nil => by
    refine ⟨fun xs k X W hf K c h => ?_, fun xs k X W hf K c h => ?_⟩
    · unfold chkEs at h
      split at h
      · exact ⟨s_nil, rfl⟩
      · cases h
    · unfold chkKs at h
      split at h
      · exact s_knil
      · cases h
  | .cons e es => by
    refine ⟨fun xs k X W hf K c h => ?_, fun xs k X W hf K c h => ?_⟩
    · unfold chkEs at h
      split at h
      · simp only [Bool.and_eq_true] at h
        obtain ⟨⟨h1, h2⟩, h3⟩ := h
        have q := (sEs es).1 _ k X W hf K c h3
        exact ⟨s_cons (sE e _ k X W hf K c h2).1 q.1 (star_plain h1), by rw [List.all_cons, h1, q.2]; rfl⟩
      · cases h
    · unfold chkKs at h
      split at h
      · simp only [Bool.and_eq_true] at h
        exact s_kcons (sE e _ k X W hf K c h.1).1 ((sEs es).2 _ k X W hf K c h.2)
      · cases h
theorem sO : ∀ (o : Oe), (∀ (x : Option Expr) (k : Kp) (X : Cx) (W : WX), k.fns = fns → Kok k X → Cok X W g lv fns → chkO k o x = true → PO X x (tO X W g o)) ∧
    ∀ (xs : List Expr) (k : Kp) (X : Cx) (W : WX), k.fns = fns → Kok k X → Cok X W g lv fns → chkIfs k o xs = true → PTs X xs (tTo X W g o)
  | .none => by
    refine ⟨fun xs k X W hf K c h => ?_, fun xs k X W hf K c h => ?_⟩
    · unfold chkO at h
      split at h
      · exact s_ono
      · cases h
    · unfold chkIfs at h
      split at h
      · exact s_ptn
      · cases h
  | .some e => by
    refine ⟨fun xs k X W hf K c h => ?_, fun xs k X W hf K c h => ?_⟩
    · unfold chkO at h
      split at h
      · exact s_oso (sE e _ k X W hf K c h).1
      · cases h
    · unfold chkIfs at h
      split at h
      · exact s_pto (sE e _ k X W hf K c h).2.1
      · cases h
theorem sI : ∀ (i : I) (x : Expr) (k : Kp) (X : Cx) (W : WX), k.fns = fns → Kok k X → Cok X W g lv fns → ∀ tg, chkI k i x = true → PI X tg x (tI X W g i)
  | .seq e, x, k, X, W, hf, K, c, tg, h => by
    unfold chkI at h
    exact s_seq (sE e _ k X W hf K c h).1
  | .rng es, x, k, X, W, hf, K, c, tg, h => by
    unfold chkI at h
    split at h
    · simp only [Bool.and_eq_true, decide_eq_true_eq] at h
      obtain ⟨⟨h1, h2⟩, h3⟩ := h
      subst h1
      obtain ⟨g1, _, _⟩ := gl_of K h2
      have q := (sEs es).1 _ k X W hf K c h3
      have pl := q.2
      rw [List.all_cons, Bool.and_eq_true] at pl
      cases es with
      | nil => unfold chkEs at h3; cases h3
      | cons e0 es0 => cases es0 with
        | nil => exact s_rng1 c g1 q.1 (star_plain pl.1)
        | cons e1 es1 => simp [chkEs] at h3
    · simp only [Bool.and_eq_true, decide_eq_true_eq] at h
      obtain ⟨⟨h1, h2⟩, h3⟩ := h
      subst h1
      obtain ⟨g1, _, _⟩ := gl_of K h2
      have q := (sEs es).1 _ k X W hf K c h3
      have pl := q.2
      rw [List.all_cons, List.all_cons, Bool.and_eq_true, Bool.and_eq_true] at pl
      cases es with
      | nil => unfold chkEs at h3; cases h3
      | cons e0 es0 => cases es0 with
        | nil => simp [chkEs] at h3
        | cons e1 es1 => cases es1 with
          | nil => exact s_rng2 c g1 q.1 (by rw [star_plain pl.1, star_plain pl.2.1]; rfl) (by rw [star_plain pl.2.1]; rfl)
          | cons e2 es2 => simp [chkEs] at h3
    · cases h
end
end
end Ly
/-! LyL: statements checked, defs, the whole text. -/
namespace Ly
open PySem PySem.Spec PyProof.Rows L2
theorem sw_lc {elt : Expr} {gs : List Comprehension} {scope : Scope} {pos py : Pos} {y : Str} {l : Nat} {env : Env} (hk : env.scope.kind = .function) :
    swapsWith (.ListComp elt gs scope pos) (some (.Name y py)) l env = pure (env.kindOf y == some .local && py.line == pos.line && !(scope.names.any fun (n, q) => n == y && (q == .local || q == .cell))) := by
  have hb : env.blockKind = .function := by unfold Env.blockKind; rw [hk]; rfl
  unfold swapsWith
  simp only [hb, Expr.pos]
  rfl
section
variable {g : G} {lv : Nat} {fns : List (Str × List Str)} (hn : ∀ f ps, (f, ps) ∈ fns → ∀ ds h, ds.length ≠ ps.length → g.cf f ds h = .no)
include hn
theorem sLc {own : List Nat} {t : T} {it : I} {tt : Oe} {e : E} {elt : Expr} {gs : List Comprehension} {scope : Scope} {pos py spos : Pos} {y : Str} {j : Nat} {k : Kp} {X : Cx} {W : WX} (hf : k.fns = fns) (K : Kok k X) (c : Cok X W g lv fns) (h : chkE k (.lc own t it tt e) (.ListComp elt gs scope pos) = true)
    (h1 : X.N[j]? = some y) (h2 : X.env.scope.names.lookup y = some .local) (hsw : swapsWith (.ListComp elt gs scope pos) (some (.Name y py)) spos.line X.env = pure true) :
    PS X (.Assign [.Name y py] (.ListComp elt gs scope pos) spos) (tS X W g (.asg (.nm j) (.lc own t it tt e))) := by
  unfold chkE at h
  split at h
  · rename_i elt' tg iter ifs z scope' pos' q0
    cases q0
    simp only [Bool.and_eq_true, decide_eq_true_eq, List.all_eq_true] at h
    obtain ⟨⟨⟨⟨⟨⟨⟨h0, g1⟩, g2⟩, g3⟩, g4⟩, g5⟩, g6⟩, g7⟩ := h
    subst h0
    have e1 : (ownP k.N own).map (·.2) = own := by
      unfold ownP
      rw [List.map_map]
      exact List.map_id' own
    have ok : BlkOk X.N X.env.scope scope (ownP k.N own) := by
      have z := blkOk_by g1
      rw [K.N, K.sc] at z
      rw [K.N]
      exact z
    have r := x_setLc (x := e) (tt := tt) c h1 h2 hsw (sI hn it _ k X W hf K c tg g2) ok (fun s H C cl fp => gTok (X := X.blk s H scope (compEnvC scope cl C X.env) fp) c.calm c.nd (K.blk ok.kind) t tg g4) (fun s H C cl fp => (sO hn tt).2 _ (k.blk scope) _ W0 hf (K.blk ok.kind) c.blk g5)
      (fun s H C cl fp => (sE hn e elt (k.blk scope) _ W0 hf (K.blk ok.kind) c.blk g6).1) (by rw [e1]; exact fun j hj => by simpa using g7 j hj) (fold_set g3)
    rw [e1] at r
    exact r
  · cases h
mutual
theorem sS : ∀ (s : S) (x : Stmt) (k : Kp) (X : Cx) (W : WX), k.fns = fns → Kok k X → Cok X W g lv fns → PassesOwn (model X.prog X.w) X.A X.env X.xe → chkS k s x = true → PS X x (tS X W g s)
  | .asg t e, x, k, X, W, hf, K, c, hp, h => by
    unfold chkS at h
    split at h
    · rename_i tg v pos
      split at h
      · rename_i j y py
        simp only [Bool.and_eq_true, decide_eq_true_eq] at h
        obtain ⟨⟨⟨⟨h1, h2⟩, h3⟩, h4⟩, h5⟩ := h
        have N : X.N[j]? = some y := by rw [← K.N]; exact h1
        by_cases q : notComp v = true
        · exact x_set c.nd N (loc_of K h2) (sE hn e v k X W hf K c h4).1 (sw_comp q) (fnl_of K h3)
        · rcases Bool.or_eq_true_iff.mp h5 with h5 | h5
          · exact absurd h5 q
          · cases v <;> first | (cases h5; done) | skip
            rename_i elt gs scope p2 _
            have sw := sw_lc (elt := elt) (gs := gs) (scope := scope) (pos := p2) (py := py) (y := y) (l := pos.line) K.kind
            cases eb : (X.env.kindOf y == some .local && py.line == p2.line && !(scope.names.any fun (n, q) => n == y && (q == .local || q == .cell))) with
            | false =>
              rw [eb] at sw
              exact x_set c.nd N (loc_of K h2) (sE hn e _ k X W hf K c h4).1 sw (fnl_of K h3)
            | true =>
              rw [eb] at sw
              have hl : X.env.scope.names.lookup y = some .local := by
                simp only [Bool.and_eq_true] at eb
                exact beq_iff_eq.mp eb.1.1
              cases e <;> first | (unfold chkE at h4; cases h4; done) | skip
              exact sLc hn hf K c h4 N hl sw
      · rename_i ts es i p
        simp only [Bool.and_eq_true] at h
        obtain ⟨⟨⟨h1, h2⟩, h3⟩, h4⟩ := h
        exact x_asg (sE hn e v k X W hf K c h2).1 (gTok c.calm c.nd K _ _ h1) (show swapsWith v (some (.Tuple es i p)) pos.line X.env = pure false from sw_comp h3) (swp_tup h4) rfl
      · cases h
    · cases h
  | .iset o i e, x, k, X, W, hf, K, c, hp, h => by
    unfold chkS at h
    split at h
    · simp only [Bool.and_eq_true] at h
      obtain ⟨⟨⟨⟨h1, h2⟩, h3⟩, h4⟩, h5⟩ := h
      rename_i p q p2 v pos
      refine x_iset (sE hn e _ k X W hf K c h1).1 (sE hn o _ k X W hf K c h2).1 (sE hn i _ k X W hf K c h3).1 (fun u => ?_) (show swapsWith v (some (.Subscript p q p2)) pos.line X.env = pure false from sw_comp h4) ?_ rfl
      · cases q <;> first | rfl | cases h5
      · cases v <;> rfl
    · cases h
  | .expr e, x, k, X, W, hf, K, c, hp, h => by
    unfold chkS at h
    split at h
    · simp only [Bool.and_eq_true] at h
      exact x_expr (sE hn e _ k X W hf K c h.1).1 (sw_comp h.2)
    · cases h
  | .ret e, x, k, X, W, hf, K, c, hp, h => by
    unfold chkS at h
    split at h
    · exact x_ret (sE hn e _ k X W hf K c h).1
    · cases h
  | .retn, x, k, X, W, hf, K, c, hp, h => by
    unfold chkS at h
    split at h
    · exact x_retn
    · cases h
  | .ife d a b, x, k, X, W, hf, K, c, hp, h => by
    unfold chkS at h
    split at h
    · simp only [Bool.and_eq_true] at h
      obtain ⟨⟨h1, h2⟩, h3⟩ := h
      exact x_ife (sE hn d _ k X W hf K c h1).2.1 (sSs a _ k X W hf K c hp h2) (sSs b _ k X W hf K c hp h3)
    · cases h
  | .for t it b, x, k, X, W, hf, K, c, hp, h => by
    unfold chkS at h
    split at h
    · simp only [Bool.and_eq_true] at h
      obtain ⟨⟨⟨h1, h2⟩, h3⟩, h4⟩ := h
      exact x_for c hp (sI hn it _ k X W hf K c _ h2) (gTok c.calm c.nd K _ _ h1) (sSs b _ k X W hf K c hp h4) (fold_set h3)
    · cases h
  | .whil d b, x, k, X, W, hf, K, c, hp, h => by
    unfold chkS at h
    split at h
    · simp only [Bool.and_eq_true] at h
      exact x_whil hp (sE hn d _ k X W hf K c h.1).2.1 (sSs b _ k X W hf K c hp h.2)
    · cases h
  | .brk, x, k, X, W, hf, K, c, hp, h => by
    unfold chkS at h
    split at h
    · exact x_brk
    · cases h
  | .cnt, x, k, X, W, hf, K, c, hp, h => by
    unfold chkS at h
    split at h
    · exact x_cnt
    · cases h
  | .pass, x, k, X, W, hf, K, c, hp, h => by
    unfold chkS at h
    split at h
    · exact x_pass
    · cases h
theorem sSs : ∀ (s : Ss) (x : List Stmt) (k : Kp) (X : Cx) (W : WX), k.fns = fns → Kok k X → Cok X W g lv fns → PassesOwn (model X.prog X.w) X.A X.env X.xe → chkSs k s x = true → PSs X x (tSs X W g s)
  | .nil, x, k, X, W, hf, K, c, hp, h => by
    unfold chkSs at h
    split at h
    · exact x_nil
    · cases h
  | .cons s ss, x, k, X, W, hf, K, c, hp, h => by
    unfold chkSs at h
    split at h
    · simp only [Bool.and_eq_true] at h
      exact x_cons (sS s _ k X W hf K c hp h.1) (sSs ss _ k X W hf K c hp h.2)
    · cases h
end
end
/-! ### a def -/
section
variable {P : Program} {w : World} {K : PySem.W.Frag} {mg : Str → Option Value} {base : Heap}
/-- what the text's top has left, for terms -/
structure Env1 (K : PySem.W.Frag) (mg : Str → Option Value) (gl : Str → Option D) : Prop where
  gl : ∀ x d, gl x = some d → ∃ u v, mg x = some u ∧ RelV v u ∧ ∀ H ρ N, Rep ⟨K, mg⟩ H ρ N d v
  bl : ∀ x ∈ bns, mg x = none
theorem fn_run {cf : Str → List D → IH → Re D} {gl : Str → Option D} {fns : List (Str × List Str)} {lv : Nat} {x qual : Str} {st : Stmt} {N ps : List Str} {bd : Ss} {f : Addr} {fd : FuncData} (E1 : Env1 K mg gl) (F : FunD K x qual (defArgs st) (defBody st) (defScope st) [] [] f fd) (S : FnScope N ps (defScope st))
    (hc : ∀ f ps, (f, ps) ∈ fns → FnF P w K mg base lv (cf f) f ps) (hn : ∀ f ps, (f, ps) ∈ fns → ∀ ds h, ds.length ≠ ps.length → cf f ds h = .no)
    (hb : chkSs ⟨N, defScope st, fun _ => true, fns⟩ bd (defBody st) = true) : FnG P w K mg base (lv + 1) f fd ps (spI ⟨K, mg⟩ (runFn ⟨cf, gl⟩ ⟨ps.length, N.length, bd⟩)) := by
  obtain ⟨oc, od, dV, kV, doc, pm, an, cdv, ct, osl, rfl, lk, hcd, _, _⟩ := F.ex
  constructor
  intro A outer s H args us vs Q E hg hr e0 hl hbd r ⟨ρ, h, ds, Sm, rl, Pd⟩
  have lim : s.heap.NoLimit := e0.mod.nolimit.keeps fun b o q => (e0.bs b o q).1
  refine Att.call_fn (K := K) (e0.mod.kin.keeps fun b o q => (e0.bs b o q).1) lim lk hcd hr.depth hbd ?_ (fun s1 x1 => ?_) S.co S.gen S.kind
  · rw [List.all_eq_true]
    intro y hy
    rcases S.par y.1 (List.of_mem_zip (show (y.1, y.2) ∈ _ from hy)).1 with q | q
    · rw [q]; rfl
    · rw [q]; rfl
  · have I := inv_start (CX := L2.CX P w) (cd := cdv) (f := f) (qual := qual) (E := E) S hr.hd e0 hl r x1
    have hdl : ds.length = ps.length := rl.length.trans hl
    have Pd : Post ⟨K, mg⟩ (fun cls d _ H' => E cls d H') (fun H ρ N d v => Rep ⟨K, mg⟩ H ρ N d v) ρ h.length H [] (runFn ⟨cf, gl⟩ ⟨ps.length, N.length, bd⟩ ds h) Q := Pd
    unfold runFn at Pd
    rw [if_pos hdl] at Pd
    have tk : Takes (cxOf (L2.CX P w) P w K mg base N qual (defScope st) f cdv A outer s H E) (fun cls d _ H' => E cls d H') := takes_of rfl rfl rfl rfl
    have ck : Cok (cxOf (L2.CX P w) P w K mg base N qual (defScope st) f cdv A outer s H E) (fun cls d _ H' => E cls d H') ⟨cf, gl⟩ lv fns := ⟨S.nd, rfl, hg, hr.deeper _, tk, E1.gl, E1.bl, hc⟩
    have kk : Kok ⟨N, defScope st, fun _ => true, fns⟩ (cxOf (L2.CX P w) P w K mg base N qual (defScope st) f cdv A outer s H E) := ⟨rfl, rfl, fun _ => rfl, S.kind⟩
    have body := sSs (g := ⟨cf, gl⟩) (lv := lv) hn bd (defBody st) _ _ (fun cls d _ H' => E cls d H') rfl kk ck (passes_of rfl) hb
    have NL : ps.length ≤ N.length := by
      have z := congrArg List.length S.pre
      rw [List.length_take] at z
      omega
    have R0 : SRel ⟨K, mg⟩ H ρ h.length (ds.map some ++ List.replicate (N.length - ds.length) none) (L2.start N vs) := by
      unfold L2.start
      refine ⟨by simp only [List.length_append, List.length_map, List.length_replicate]; omega, fun i d e => ?_⟩
      by_cases hi : i < ds.length
      · rw [List.getElem?_append_left (by simpa using hi), List.getElem?_map] at e
        cases e1 : ds[i]? with
        | none => rw [e1] at e; cases e
        | some d' =>
          rw [e1] at e
          cases e
          obtain ⟨v, e2, rv⟩ := rl.get e1
          refine ⟨v, ?_, rv⟩
          have hi2 : i < vs.length := (List.getElem?_eq_some_iff.mp e2).1
          rw [List.getElem?_append_left (by simpa using hi2), List.getElem?_map, e2]
          rfl
      · rw [List.getElem?_append_right (by simpa using Nat.le_of_not_lt hi), List.getElem?_replicate] at e
        split at e <;> cases e
    refine wpAny_mono (body.run [] s1 (L2.start N vs) H { nx := fun _ H' => Q .non H', rt := Q } I ⟨ρ, h, _, Sm, R0, ?_⟩) (fun fl s' q => ?_) fun e s' q => q
    · cases er : exs ⟨cf, gl⟩ bd (ds.map some ++ List.replicate (N.length - ds.length) none) h with
      | no =>
        dsimp only at Pd
        rw [er] at Pd
        exact Pd.elim
      | ex cn fs h' =>
        dsimp only at Pd
        rw [er] at Pd
        exact fun _ => Pd
      | ok fl h' =>
        dsimp only at Pd
        rw [er] at Pd
        intro ρ' H' A'
        cases fl with
        | nx τ' => exact fun σ' _ => Pd .non ρ' H' A' .non
        | bk τ' => exact Pd.elim
        | ct τ' => exact Pd.elim
        | rt d => exact fun v rv => Pd v ρ' H' A' rv
    · cases fl with
      | ret u =>
        obtain ⟨v, σ', H', J, rv, z⟩ := q
        exact ⟨v, H', J.os, J.bare, J.base, J.hok, rv, z⟩
      | next =>
        obtain ⟨σ', H', J, z⟩ := q
        exact ⟨.non, H', J.os, J.bare, J.base, J.hok, rfl, z⟩
      | brk =>
        obtain ⟨_, _, _, z⟩ := q
        exact z.elim
      | cont =>
        obtain ⟨_, _, _, z⟩ := q
        exact z.elim
end
end Ly
/-! LyM: all defs of a text, the law's call. -/
namespace Ly
open PySem PySem.Spec PyProof.Rows L2
structure Fi where
  name : Str
  st : Stmt
  N : List Str
  ps : List Str
  bd : Ss
def Fi.fn (i : Fi) : Fn := ⟨i.ps.length, i.N.length, i.bd⟩
def tbl (fis : List Fi) (x : Str) : Option Fn := (fis.find? fun i => decide (i.name = x)).map Fi.fn
def nms (fis : List Fi) : List (Str × List Str) := fis.map fun i => (i.name, i.ps)
def scopeB (i : Fi) : Bool :=
  (match (defScope i.st).kind with | .function => true | _ => false) && !(defScope i.st).isCoroutine && !(defScope i.st).isGenerator && decide i.N.Nodup && decide (i.N.take i.ps.length = i.ps) &&
    i.ps.all (fun x => match (defScope i.st).names.lookup x with | some .local => true | some .cell => true | _ => false) && (defScope i.st).names.all fun y => match y.2 with | .free => false | _ => true
theorem scope_of {i : Fi} (h : scopeB i = true) : FnScope i.N i.ps (defScope i.st) := by
  unfold scopeB at h
  simp only [Bool.and_eq_true, decide_eq_true_eq, Bool.not_eq_true', List.all_eq_true] at h
  obtain ⟨⟨⟨⟨⟨⟨h1, h2⟩, h3⟩, h4⟩, h5⟩, h6⟩, h7⟩ := h
  refine ⟨?_, h2, h3, h4, h5, fun x hx => ?_, fun y hy z => ?_⟩
  · split at h1
    · assumption
    · cases h1
  · have q := h6 x hx
    split at q
    · exact .inl (by assumption)
    · exact .inr (by assumption)
    · cases q
  · have q := h7 y hy
    rw [z] at q
    cases q
/-- every def is what its term says, its names apart -/
def chkAll (fis : List Fi) : Bool := (fis.all fun i => scopeB i && chkSs ⟨i.N, defScope i.st, fun _ => true, nms fis⟩ i.bd (defBody i.st)) && decide (fis.map (·.name)).Nodup
section
variable {P : Program} {w : World} {K : PySem.W.Frag} {mg : Str → Option Value} {base : Heap}
/-- a def as the top has left it -/
structure Fd (K : PySem.W.Frag) (mg : Str → Option Value) (i : Fi) : Prop where
  ex : ∃ (f : Addr) (fd : FuncData), mg i.name = some (.ref f) ∧ FunD K i.name i.name (defArgs i.st) (defBody i.st) (defScope i.st) [] [] f fd ∧
    (∀ (s : Shared) (us : List Value), us.length = i.ps.length → BindsTo s fd ⟨us, []⟩ (i.ps.zip us)) ∧ (∀ (s : Shared) (us : List Value), us.length = i.ps.length → BindsTo s fd ⟨[], i.ps.zip us⟩ (i.ps.zip us))
theorem tbl_of {fis : List Fi} {i : Fi} (hi : i ∈ fis) (nd : (fis.map (·.name)).Nodup) : tbl fis i.name = some i.fn := by
  unfold tbl
  induction fis with
  | nil => cases hi
  | cons j r ih =>
    rw [List.find?_cons]
    rw [List.map_cons, List.nodup_cons] at nd
    rcases List.mem_cons.mp hi with e | hi
    · subst e
      simp
    · have ne : j.name ≠ i.name := fun e => nd.1 (by rw [e]; exact List.mem_map_of_mem hi)
      rw [decide_eq_false ne]
      exact ih hi nd.2
theorem run_no {fis : List Fi} {gl : Str → Option D} (nd : (fis.map (·.name)).Nodup) (k : Nat) {i : Fi} (hi : i ∈ fis) (ds : List D) (h : IH) (q : ds.length ≠ i.ps.length) : run (tbl fis) gl k i.name ds h = .no := by
  cases k with
  | zero => rfl
  | succ k =>
    show (match tbl fis i.name with | some fn => runFn ⟨run (tbl fis) gl k, gl⟩ fn ds h | none => .no) = .no
    rw [tbl_of hi nd]
    exact if_neg q
theorem prog_run {fis : List Fi} {gl : Str → Option D} (E1 : Env1 K mg gl) (hc : chkAll fis = true) (hF : ∀ i ∈ fis, Fd K mg i) : ∀ (k : Nat) (f : Str) (ps : List Str), (f, ps) ∈ nms fis → FnF P w K mg base k (run (tbl fis) gl k f) f ps := by
  unfold chkAll at hc
  simp only [Bool.and_eq_true, List.all_eq_true, decide_eq_true_eq] at hc
  obtain ⟨hc, nd⟩ := hc
  have hn : ∀ k f ps, (f, ps) ∈ nms fis → ∀ ds h, ds.length ≠ ps.length → run (tbl fis) gl k f ds h = .no := fun k f ps hm ds h q => by
    obtain ⟨i, hi, e⟩ := List.mem_map.mp hm
    cases e
    exact run_no nd k hi ds h q
  intro k
  induction k with
  | zero =>
    intro f ps hm
    obtain ⟨i, hi, e⟩ := List.mem_map.mp hm
    cases e
    obtain ⟨a, fd, h1, h2, h3, h4⟩ := (hF i hi).ex
    refine ⟨a, fd, h1, h2.kp, fun s us _ hl => ?_, h4, ⟨fun A outer s H args us vs Q E _ _ _ _ _ _ ⟨ρ, h, ds, _, _, z⟩ => z.elim⟩⟩
    rw [List.append_nil] at hl ⊢
    exact h3 s us hl
  | succ k ih =>
    intro f ps hm
    obtain ⟨i, hi, e⟩ := List.mem_map.mp hm
    cases e
    obtain ⟨a, fd, h1, h2, h3, h4⟩ := (hF i hi).ex
    refine ⟨a, fd, h1, h2.kp, fun s us _ hl => ?_, h4, ?_⟩
    · rw [List.append_nil] at hl ⊢
      exact h3 s us hl
    · have e : run (tbl fis) gl (k + 1) i.name = runFn ⟨run (tbl fis) gl k, gl⟩ i.fn := by
        funext ds h
        show (match tbl fis i.name with | some fn => runFn ⟨run (tbl fis) gl k, gl⟩ fn ds h | none => .no) = _
        rw [tbl_of hi nd]
      rw [e]
      obtain ⟨q1, q2⟩ := hc i hi
      exact fn_run E1 h2 (scope_of q1) ih (hn k) q2
end
/-- the call at the top, the script a list that nobody changes -/
theorem top_run {P : Program} {w : World} {K : PySem.W.Frag} {mg mb : Str → Option Value} {k : Nat} {fa a : Addr} {fd : FuncData} {x : Str} {cf : List D → IH → Re D} {s1 : Shared} {vs : List Value} {ns : List Int}
    (KX : K.In s1.heap) (nG : s1.heap.Ns mainGlobals mg) (nB : s1.heap.Ns builtinsNs mb) (bB : ∀ x : Str, x ≠ "__name__" → mb x = bootBuiltins x) (nL : s1.heap.NoLimit) (gs : s1.gens = #[])
    (oa : s1.heap.get? a = some { cls := .type "list", data := .seq vs.toArray }) (iv : IntsAre vs ns) (hl : ns.length ≤ sizeLine) (hr : Room k callerA)
    (F : ∀ base : Heap, K.In base → base.Ns mainGlobals mg → FnG P w K mg base k fa fd [x] (spI ⟨K, mg⟩ cf)) (bd : ∀ (s : Shared) (u : Value), BindsTo s fd ⟨[u], []⟩ [(x, u)])
    (ans : ∃ h', cf [.ref 0] [.fro (ns.map D.int)] = .ok (.bl true) h') :
    codeAny (model P w) callerA (.call (.ref fa) ⟨[.ref a], []⟩) (fun r s' => r = .ok (.ret (.bool true)) ∧ OldK s1.heap s'.heap ∧ s'.os = s1.os ∧ AllBare s'.gens) s1 := by
  have hv := vals_ints iv
  obtain ⟨hE, eE⟩ := ans
  have main : ∀ H : Hp, (∀ b, H b = none ∨ (b = a ∧ ∃ o, H b = some (.frz o (.lst (ns.map V.int))))) → Fro K H a (ns.map V.int) → HOk P w H s1.heap → (∀ u, H a = some u → K.lookup a = none) →
      codeAny (model P w) callerA (.call (.ref fa) ⟨[.ref a], []⟩) (fun r s' => r = .ok (.ret (.bool true)) ∧ OldK s1.heap s'.heap ∧ s'.os = s1.os ∧ AllBare s'.gens) s1 := by
    intro H oH fH kH uH
    have low : ∀ {b : Addr} {o : Obj}, s1.heap.get? b = some o → (b = a → H b = none) → (hidT s1.heap H).get? b = some o := fun {b o} e n => hidT_get e (by
      rcases oH b with z | ⟨z, _⟩
      · exact z
      · exact n z)
    have lowN : ∀ {b : Addr} {m : Str → Option Value}, s1.heap.Ns b m → (hidT s1.heap H).Ns b m := fun {b m} ⟨o, es, ep, e, d, q⟩ => ⟨o, es, ep, low e (fun z => by
      subst z
      rw [oa] at e
      cases e
      cases (show Data.seq vs.toArray _ = Data.dict es ep from d)), d, q⟩
    have lowK : K.In (hidT s1.heap H) := fun b o e => low (KX b o e) fun z => by
      subst z
      cases q : H b with
      | none => rfl
      | some u =>
        have z := uH u q
        rw [e] at z
        cases z
    have md : Mod K mg (hidT s1.heap H) := ⟨lowK, lowN nG, ⟨mb, lowN nB, bB⟩, by obtain ⟨mc, z1, z2⟩ := nL; exact ⟨mc, lowN z1, z2⟩⟩
    have en : Env0 P w K mg (hidT s1.heap H) callerA [] s1 H := ⟨rfl, md, fun _ _ e => of_hidT e, by rw [hidT_size]; exact Nat.le_refl _, trivial, fun b hb => (nomatch hb), kH, AllBare.of_eq gs⟩
    have sm : Sim ⟨K, mg⟩ (fun _ => a) [.fro (ns.map D.int)] H := by
      refine ⟨fun n o e => ?_, fun n m o o' e _ mu _ _ => ?_⟩
      · cases n with
        | succ n => simp at e
        | zero =>
          cases e
          refine ⟨_, fH, ?_⟩
          show RepL _ _ _ _ (ns.map D.int) (ns.map V.int)
          generalize ns = l
          induction l with
          | nil => exact .nil
          | cons i l ih => exact .cons (.int i) ih
      · cases n with
        | succ n => simp at e
        | zero =>
          cases e
          cases mu
    have sp : spI ⟨K, mg⟩ cf [.ref a] H (fun v _ => v = .bl true) fun _ _ _ => False := ⟨fun _ => a, [.fro (ns.map D.int)], [.ref 0], sm, .cons (.ref (n := 0) (by simp)) .nil, by
      rw [eE]
      exact fun v ρ' H' _ r => by cases r; rfl⟩
    refine codeAny_mono ((F _ lowK (lowN nG)).run callerA [] s1 H ⟨[.ref a], []⟩ [.ref a] [.ref a] _ _ rfl hr en rfl (bd s1 (.ref a)) (.cons rfl .nil) sp) fun r s' q => ?_
    cases r with
    | error e =>
      obtain ⟨_, _, _, _, _, _, _, _, _, _, _, _, z⟩ := q
      exact z.elim
    | ok fl =>
      cases fl with
      | next => exact q.elim
      | brk => exact q.elim
      | cont => exact q.elim
      | ret u =>
        obtain ⟨v, H', q1, q2, q3, q4, q5, q6⟩ := q
        have q6 : v = .bl true := q6
        subst q6
        cases q5
        refine ⟨rfl, OldK.of_keep fun b o e => ?_, q1, q2⟩
        rcases oH b with z | ⟨_, ob, z⟩
        · exact q3.keep b o e z (by intro y; cases y) (by intro y; cases y)
        · have t1 := (kH b _ z).1
          have t2 := (q4 b _ (q3.frzs b ob _ z)).1
          rw [e] at t1
          cases t1
          exact t2
  by_cases hk : ∃ o, K.lookup a = some o
  · obtain ⟨o, hk⟩ := hk
    have e := KX a o hk
    rw [oa] at e
    cases e
    have sz := iv.length
    exact main (fun _ => none) (fun _ => .inl rfl) (.inr ⟨_, vs.toArray, _, hk, rfl, rfl, rfl, by rw [List.size_toArray]; omega, by simpa using hv⟩) (fun b u z => (nomatch (show (none : Option HO) = some u from z))) fun u z => (nomatch (show (none : Option HO) = some u from z))
  · have hk : K.lookup a = none := by
      cases q : K.lookup a with
      | none => rfl
      | some o => exact absurd ⟨o, q⟩ hk
    refine main (fun b => if b = a then some (.frz { cls := .type "list", data := .seq vs.toArray } (.lst (ns.map V.int))) else none) (fun b => ?_) (.inl ⟨{ cls := .type "list", data := .seq vs.toArray }, if_pos rfl⟩) (fun b u z => ?_) fun _ _ => hk
    · by_cases hb : b = a
      · exact .inr ⟨hb, _, if_pos hb⟩
      · exact .inl (if_neg hb)
    · by_cases hb : b = a
      · subst hb
        cases (if_pos rfl).symm.trans z
        exact ⟨oa, by rw [List.length_map]; exact hl, vs, _, hv, oa⟩
      · cases (if_neg hb).symm.trans z
theorem walk_run {l : PySem.W.OpenLaw} {k : Nat} {q : Program} {loose : List Str} {XP : (Str → Option Value) → Heap → Prop} {YP : World → Heap → Prop} {d : DefRec} {x : Str} {cf : List D → IH → Re D}
    (hn : l.most = some 63) (hdf : d.params.defaults = []) (hr : Room k callerA)
    (F : ∀ (w : World) (mg : Str → Option Value) (fa : Addr) (h : Heap), YP w h → h.Ns mainGlobals mg → mg d.name = some (.ref fa) →
      ∃ (K : PySem.W.Frag) (fd : FuncData), K.In h ∧ (∀ (s : Shared) (u : Value), BindsTo s fd ⟨[u], []⟩ [(x, u)]) ∧ ∀ base : Heap, K.In base → base.Ns mainGlobals mg → FnG l.prog w K mg base k fa fd [x] (spI ⟨K, mg⟩ cf))
    (ans : ∀ ns : List Int, ns.length ≤ 63 → ∃ h', cf [.ref 0] [.fro (ns.map D.int)] = .ok (.bl true) h') : PySem.W.WalkO q loose XP YP l.row.toRowW d [] (fun f vs => PySem.call f vs) := by
  refine Att.attach_call hn hdf fun w s0 s1 mg mb fa o pm cd doc a vs ns G Y ho hd hcd hmg hobj hints hlen hg => ?_
  obtain ⟨K, fd, KX, hb, hF⟩ := F w mg fa _ Y G.T.g hmg
  exact top_run KX G.T.g G.T.b G.T.builtins G.T.nolimit hg hobj hints (Nat.le_trans hlen (by decide)) hr hF hb (ans ns hlen)
end Ly
/-! LyN: what the top has left, by one look. -/
namespace Ly
open PySem PySem.Spec PyProof.Rows L2
mutual
def dB (K : PySem.W.Frag) : D → Value → Bool
  | .non, v => match v with
    | .none => true
    | _ => false
  | .bl b, v => match v with
    | .bool c => b == c
    | _ => false
  | .int i, v => match v with
    | .int j _ => decide (i = j)
    | _ => false
  | .str i, v => match v with
    | .str j _ => decide (i = j)
    | _ => false
  | .tup ds, v => match v with
    | .ref a => match K.lookup a with
      | some ⟨.type c, _, .seq its _, _⟩ => decide (c = "tuple") && decide (its.size ≤ sizeLine) && dBs K ds its.toList
      | _ => false
    | _ => false
  | _, _ => false
def dBs (K : PySem.W.Frag) : List D → List Value → Bool
  | [], vs => match vs with
    | [] => true
    | _ => false
  | d :: ds, vs => match vs with
    | v :: vs => dB K d v && dBs K ds vs
    | _ => false
end
section
variable {K : PySem.W.Frag} {mg : Str → Option Value}
mutual
theorem dB_ok : ∀ (d : D) (v : Value), dB K d v = true → ∃ u, RelV u v ∧ ∀ H ρ N, Rep ⟨K, mg⟩ H ρ N d u
  | .non, v, h => by
    unfold dB at h
    split at h
    · exact ⟨.non, rfl, fun _ _ _ => .non⟩
    · cases h
  | .bl b, v, h => by
    unfold dB at h
    split at h
    · rw [beq_iff_eq.mp h]
      exact ⟨.bl _, rfl, fun _ _ _ => .bl _⟩
    · cases h
  | .int i, v, h => by
    unfold dB at h
    split at h
    · rw [of_decide_eq_true h]
      exact ⟨.int _, ⟨_, rfl⟩, fun _ _ _ => .int _⟩
    · cases h
  | .str i, v, h => by
    unfold dB at h
    split at h
    · rw [of_decide_eq_true h]
      exact ⟨.str _, ⟨_, rfl⟩, fun _ _ _ => .str _⟩
    · cases h
  | .tup ds, v, h => by
    unfold dB at h
    split at h
    · rename_i a
      split at h
      · rename_i c od its n sl e
        simp only [Bool.and_eq_true, decide_eq_true_eq] at h
        obtain ⟨⟨h1, h2⟩, h3⟩ := h
        obtain ⟨us, r1, r2⟩ := dBs_ok ds _ h3
        exact ⟨.ref a, rfl, fun H ρ N => .tup (.inr ⟨_, its, n, e, by rw [h1], rfl, h2, r1⟩) (r2 H ρ N)⟩
      · cases h
    · cases h
  | .ref _, v, h => by
    unfold dB at h
    cases h
  | .glo _, v, h => by
    unfold dB at h
    cases h
theorem dBs_ok : ∀ (d : List D) (v : List Value), dBs K d v = true → ∃ u, Vals u v ∧ ∀ H ρ N, RepL ⟨K, mg⟩ H ρ N d u
  | [], v, h => by
    unfold dBs at h
    split at h
    · exact ⟨[], .nil, fun _ _ _ => .nil⟩
    · cases h
  | d :: ds, v, h => by
    unfold dBs at h
    split at h
    · rw [Bool.and_eq_true] at h
      obtain ⟨u, r1, r2⟩ := dB_ok d _ h.1
      obtain ⟨us, q1, q2⟩ := dBs_ok ds _ h.2
      exact ⟨u :: us, .cons r1 q1, fun H ρ N => .cons (r2 H ρ N) (q2 H ρ N)⟩
    · cases h
end
end
/-- a module's constant -/
def cstB (K : PySem.W.Frag) (c : Str × D) : Bool := match PySem.W.nsIn K mainGlobals c.1 with
  | some (some v) => dB K c.2 v
  | _ => false
def dOf (i : Fi) : He.DefD := ⟨(i.name, none), i.name, i.name, defArgs i.st, defBody i.st, defScope i.st, [], []⟩
def fas (fis : List Fi) : List He.Fa := fis.map (fun i => .glo i.name) ++ bns.map .free
abbrev AlL : Type := He.AlD × Bool
def obsL (n : Nat) (fis : List Fi) (cs : List (Str × D)) (g : Addr → Option Obj) : AlL := (He.obsD (fas fis) (fis.map dOf) (He.frG g (He.asD g n)), cs.all (cstB (He.frG g (He.asD g n))))
def hookL (n : Nat) (fis : List Fi) (cs : List (Str × D)) : PySem.W.Hook where
  α := AlL
  obs := fun s => obsL n fis cs s.heap.get?
  val := fun _ => (He.valD (fis.map dOf), true)
  says := fun _ h => ∃ K : PySem.W.Frag, K.In h ∧ He.SaysD (fas fis) (fis.map dOf) K ∧ cs.all (cstB K) = true
  of := fun _ _ e => ⟨_, He.frG_in, congrArg (fun z : AlL => z.1) e, congrArg (fun z : AlL => z.2) e⟩
  keeps := fun _ _ _ ⟨K, hK, c⟩ k => ⟨K, PySem.W.Frag.In.keeps hK k, c⟩
theorem obsL_eq {n : Nat} {fis : List Fi} {cs : List (Str × D)} {g : Addr → Option Obj} {s : Shared} (h : ∀ a, g a = s.heap.get? a) : obsL n fis cs g = (hookL n fis cs).obs s := by
  rw [show g = s.heap.get? from funext h]
  rfl
/-- how a def binds -/
def BindsOk (i : Fi) : Prop := (∀ (kV doc pm : Value) (an : Option Addr) (cdv ct : Value) (us : List Value), us.length = i.ps.length → bindArgs (PySem.W.fnOf i.name i.name (defArgs i.st) (defBody i.st) (defScope i.st) .none kV doc pm an cdv ct) ⟨us, []⟩ = pure (i.ps.zip us)) ∧
  ∀ (kV doc pm : Value) (an : Option Addr) (cdv ct : Value) (us : List Value), us.length = i.ps.length → bindArgs (PySem.W.fnOf i.name i.name (defArgs i.st) (defBody i.st) (defScope i.st) .none kV doc pm an cdv ct) ⟨[], i.ps.zip us⟩ = pure (i.ps.zip us)
def glOf (cs : List (Str × D)) (x : Str) : Option D := cs.lookup x
section
variable {K : PySem.W.Frag} {mg : Str → Option Value} {h : Heap} {fis : List Fi} {cs : List (Str × D)}
theorem fd_of (X : K.In h) (G : h.Ns mainGlobals mg) (c : He.SaysD (fas fis) (fis.map dOf) K) (i : Fi) (hi : i ∈ fis) (hb : BindsOk i) : Fd K mg i := by
  obtain ⟨fd, F⟩ := c.defs (d := dOf i) (List.mem_map_of_mem hi)
  have g := He.glo_ok X G (c.facts (f := .glo i.name) (List.mem_append_left _ (List.mem_map_of_mem hi)))
  obtain ⟨oc, od, dV, kV, doc, pm, an, cdv, ct, osl, rfl, lk, hcd, hD, hK⟩ := F.ex
  rcases hD with ⟨_, rfl⟩ | ⟨e, _⟩
  · exact ⟨_, _, g, F, fun s us hl => .of_eq (hb.1 kV doc pm an cdv ct us hl), fun s us hl => .of_eq (hb.2 kV doc pm an cdv ct us hl)⟩
  · exact absurd rfl e
theorem env_of (X : K.In h) (G : h.Ns mainGlobals mg) (c : He.SaysD (fas fis) (fis.map dOf) K) (hc : cs.all (cstB K) = true) : Env1 K mg (glOf cs) := by
  refine ⟨fun x d e => ?_, fun x hx => ?_⟩
  · have m := PySem.mem_of_lookup e
    have q := List.all_eq_true.mp hc _ m
    unfold cstB at q
    split at q
    · rename_i v e2
      obtain ⟨u, r1, r2⟩ := dB_ok (mg := mg) d v q
      exact ⟨v, u, PySem.W.mg_of X G e2, r1, r2⟩
    · cases q
  · exact He.free_ok X G (c.facts (f := .free x) (List.mem_append_right _ (List.mem_map_of_mem hx)))
end
/-- the law's def at the end of the list: its own name x -/
theorem end_run {l : PySem.W.OpenLaw} {k n : Nat} {q : Program} {loose : List Str} {XP : (Str → Option Value) → Heap → Prop} {d : DefRec} {x : Str} {fis : List Fi} {cs : List (Str × D)} {li : Fi}
    (hn : l.most = some 63) (hdf : d.params.defaults = []) (hr : Room (k + 1) callerA) (hc : chkAll fis = true) (hB : ∀ i ∈ fis, BindsOk i) (hli : li ∈ fis) (hps : li.ps = [x]) (hname : d.name = li.name)
    (ans : ∀ ns : List Int, ns.length ≤ 63 → ∃ h', run (tbl fis) (glOf cs) (k + 1) li.name [.ref 0] [.fro (ns.map D.int)] = .ok (.bl true) h') :
    PySem.W.WalkO q loose XP (fun w h => (hookL n fis cs).says w h) l.row.toRowW d [] (fun f vs => PySem.call f vs) := by
  refine walk_run (k := k + 1) (x := x) (cf := run (tbl fis) (glOf cs) (k + 1) li.name) hn hdf hr (fun w mg fa h Y G hmg => ?_) ans
  obtain ⟨K, KX, c, hcs⟩ := Y
  rw [hname] at hmg
  have hc' := hc
  unfold chkAll at hc'
  simp only [Bool.and_eq_true, List.all_eq_true, decide_eq_true_eq] at hc'
  obtain ⟨hc', nd⟩ := hc'
  have hno : ∀ k f ps, (f, ps) ∈ nms fis → ∀ ds h, ds.length ≠ ps.length → run (tbl fis) (glOf cs) k f ds h = .no := fun k f ps hm ds h q => by
    obtain ⟨i, hi, e⟩ := List.mem_map.mp hm
    cases e
    exact run_no nd k hi ds h q
  obtain ⟨f', fd, g1, g2, g3, _⟩ := (fd_of KX G c li hli (hB li hli)).ex
  rw [hmg] at g1
  cases g1
  refine ⟨K, fd, KX, fun s u => ?_, fun base b1 b2 => ?_⟩
  · have z := g3 s [u] (by rw [hps]; rfl)
    rw [hps] at z
    exact z
  · have E1 : Env1 K mg (glOf cs) := env_of b1 b2 c hcs
    have e : run (tbl fis) (glOf cs) (k + 1) li.name = runFn ⟨run (tbl fis) (glOf cs) k, glOf cs⟩ li.fn := by
      funext ds h
      show (match tbl fis li.name with | some fn => runFn ⟨run (tbl fis) (glOf cs) k, glOf cs⟩ fn ds h | none => .no) = _
      rw [tbl_of hli nd]
    rw [e, ← hps]
    obtain ⟨q1, q2⟩ := hc' li hli
    exact fn_run E1 g2 (scope_of q1) (prog_run E1 hc (fun i hi => fd_of b1 b2 c i hi (hB i hi)) k) (hno k) q2
end Ly
/-! LwA: tools for what terms come to; the laws' common defs. -/
namespace Ly
open PySem PySem.Spec PyProof.Rows L2
theorem run_step {tb : Str → Option Fn} {gl : Str → Option D} {k : Nat} {f : Str} {fn : Fn} {ds : List D} {h : IH} (ht : tb f = some fn) : run tb gl (k + 1) f ds h = runFn ⟨run tb gl k, gl⟩ fn ds h := by
  show (match tb f with | some fn => runFn ⟨run tb gl k, gl⟩ fn ds h | none => .no) = _
  rw [ht]
theorem sl_line : sizeLine = 16777216 := sizeLine_eq
def drawFn : Fn := ⟨2, 5, (.cons (.ife (.and (.cmp .Eq (.sub (.var 0) (.int 2)) (.int 0)) (.cmp .Lt (.sub (.var 0) (.int 1)) (.blt "len" (.cons (.sub (.var 0) (.int 0)) .nil)))) (.cons (.asg (.nm 3) (.sub (.sub (.var 0) (.int 0)) (.sub (.var 0) (.int 1))))
   (.cons (.iset (.var 0) (.int 1) (.bin .Add (.sub (.var 0) (.int 1)) (.int 1)))
   (.cons (.iset (.var 0) (.int 2) (.ife (.cmp .GtE (.var 3) (.bin .Pow (.int 10) (.int 18))) (.var 3) (.int 0)))
   (.cons (.iset (.var 0) (.int 3) (.bin .Mod (.blt "int" (.cons (.bin .Add (.bin .Add (.bin .Mult (.sub (.var 0) (.int 3)) (.int 40009)) (.bin .Mult (.bin .Mod (.blt "int" (.cons (.var 3) .nil)) (.int 2147483549)) (.int 311))) (.int 1019)) .nil)) (.int 2147483587)))
   .nil)))) .nil)
  (.cons (.ife (.cmp .Gt (.sub (.var 0) (.int 2)) (.int 0)) (.cons (.asg (.nm 4) (.bin .Mod (.blt "int" (.cons (.sub (.var 0) (.int 2)) .nil)) (.var 1)))
   (.cons (.iset (.var 0) (.int 2) (.bin .FloorDiv (.sub (.var 0) (.int 2)) (.var 1)))
   (.cons (.ret (.var 4))
   .nil))) .nil)
  (.cons (.iset (.var 0) (.int 4) (.bin .Add (.sub (.var 0) (.int 4)) (.int 1)))
  (.cons (.asg (.nm 2) (.sub (.var 0) (.int 3)))
  (.cons (.iset (.var 0) (.int 3) (.bin .Mod (.blt "int" (.cons (.bin .Add (.bin .Add (.bin .Add (.bin .Mult (.var 2) (.var 2)) (.bin .Mult (.int 70003) (.var 2))) (.bin .Mult (.int 7919) (.sub (.var 0) (.int 4)))) (.int 30013)) .nil)) (.int 2147483587)))
  (.cons (.ret (.bin .Mod (.blt "int" (.cons (.bin .Add (.bin .Add (.bin .FloorDiv (.sub (.var 0) (.int 3)) (.int 61)) (.bin .Mult (.var 2) (.int 33311))) (.sub (.var 0) (.int 4))) .nil)) (.var 1)))
  .nil))))))⟩
/-- the bag as it stands -/
def bagO (s : Nat) (i c seed m : Int) : O := .lst [.ref s, .int i, .int c, .int seed, .int m]
section
variable {g : G} {τ : List (Option D)} {h : IH}
theorem exs_nx {s : S} {ss : Ss} {τ' : List (Option D)} {h' : IH} (e : ex g s τ h = .ok (.nx τ') h') : exs g (.cons s ss) τ h = exs g ss τ' h' := by
  show (ex g s τ h).bind _ = _
  rw [e]
  rfl
theorem exs_rt {s : S} {ss : Ss} {d : D} {h' : IH} (e : ex g s τ h = .ok (.rt d) h') : exs g (.cons s ss) τ h = .ok (.rt d) h' := by
  show (ex g s τ h).bind _ = _
  rw [e]
  rfl
theorem blt_len_list {xs : List D} {d : D} (e : items h d = some xs) (hs : ∀ x, d ≠ .str x) : blt "len" [d] h = .ok (.int xs.length) h := by
  unfold blt
  rw [if_pos rfl]
  cases d with
  | str x => exact absurd rfl (hs x)
  | _ => dsimp only; rw [e]
theorem blt_int {i : Int} : blt "int" [.int i] h = .ok (.int i) h := rfl
theorem items_lst {n : Nat} {xs : List D} (e : h[n]? = some (.lst xs)) : items h (.ref n) = some xs := by
  show (match h[n]? with | some (.lst xs) => some xs | some (.fro xs) => some xs | _ => none) = _
  rw [e]
theorem items_fro {n : Nat} {xs : List D} (e : h[n]? = some (.fro xs)) : items h (.ref n) = some xs := by
  show (match h[n]? with | some (.lst xs) => some xs | some (.fro xs) => some xs | _ => none) = _
  rw [e]
theorem items_tup {xs : List D} : items h (.tup xs) = some xs := rfl
theorem sub_str {z : Str} {i : Int} {c : Nat} (hz : z.length ≤ sizeLine) (e : atI z.cps.toList i = some c) : Ly.sub (.str z) (.int i) h = .ok (.str ⟨#[c]⟩) h := by
  show (if z.length ≤ sizeLine then (match atI z.cps.toList i with | some c => (Re.ok (D.str ⟨#[c]⟩) h : Re D) | none => .no) else .no) = _
  rw [if_pos hz, e]
theorem sub_seq {d : D} {xs : List D} {i : Int} {x : D} (e : items h d = some xs) (e2 : atI xs i = some x) : Ly.sub d (.int i) h = .ok x h := by
  cases d with
  | str z => cases e
  | _ => simp only [Ly.sub, e, e2]
end
section
variable {g : G} {h : IH} {b s : Nat} {i c seed m : Int} {xs : List D}
theorem bag0 (eb : h[b]? = some (bagO s i c seed m)) : Ly.sub (.ref b) (.int 0) h = .ok (.ref s) h := sub_seq (items_lst eb) rfl
theorem bag1 (eb : h[b]? = some (bagO s i c seed m)) : Ly.sub (.ref b) (.int 1) h = .ok (.int i) h := sub_seq (items_lst eb) rfl
theorem bag2 (eb : h[b]? = some (bagO s i c seed m)) : Ly.sub (.ref b) (.int 2) h = .ok (.int c) h := sub_seq (items_lst eb) rfl
theorem bag3 (eb : h[b]? = some (bagO s i c seed m)) : Ly.sub (.ref b) (.int 3) h = .ok (.int seed) h := sub_seq (items_lst eb) rfl
theorem bag4 (eb : h[b]? = some (bagO s i c seed m)) : Ly.sub (.ref b) (.int 4) h = .ok (.int m) h := sub_seq (items_lst eb) rfl
theorem ex_iset {o i e : E} {τ : List (Option D)} {v : D} {n : Nat} {k : Int} {ys : List D} {j : Nat} {h1 h2 h3 : IH} (e1 : ev g τ e h = .ok v h1) (e2 : ev g τ o h1 = .ok (.ref n) h2) (e3 : ev g τ i h2 = .ok (.int k) h3) (e4 : h3[n]? = some (.lst ys)) (e5 : ixN ys.length k = some j) :
    ex g (.iset o i e) τ h = .ok (.nx τ) (h3.set n (.lst (ys.set j v))) := by
  show (ev g τ e h).bind _ = _
  rw [e1]
  show (ev g τ o h1).bind _ = _
  rw [e2]
  show (ev g τ i h2).bind _ = _
  rw [e3]
  show (match h3[n]? with | some (.lst xs) => (match ixN xs.length k with | some j => Re.ok (Fl.nx τ) (h3.set n (.lst (xs.set j v))) | none => .no) | _ => .no) = _
  rw [e4]
  dsimp only
  rw [e5]
theorem set_get (hb : b < h.length) {o : O} : (h.set b o)[b]? = some o := List.getElem?_set_self hb
theorem set_get_ne (hs : s ≠ b) {o : O} : (h.set b o)[s]? = h[s]? := List.getElem?_set_ne (Ne.symm hs)
theorem set_set {o o' : O} : (h.set b o).set b o' = h.set b o' := List.set_set ..
theorem test1 (eb : h[b]? = some (bagO s i c seed m)) (es : h[s]? = some (.lst xs)) (t : List (Option D)) :
    ev g (some (.ref b) :: t) (.and (.cmp .Eq (.sub (.var 0) (.int 2)) (.int 0)) (.cmp .Lt (.sub (.var 0) (.int 1)) (.blt "len" (.cons (.sub (.var 0) (.int 0)) .nil)))) h = .ok (.bl (decide (c = 0) && decide (i < xs.length))) h := by
  simp only [ev, evs, Re.bind, List.getElem?_cons_zero, bag0 eb, bag1 eb, bag2 eb, blt_len_list (items_lst es) (fun x => by simp), cmp, truth]
  by_cases hc : c = 0
  · simp [hc]
  · simp [hc]
theorem iset1 {e : E} {t : List (Option D)} {v : Int} (e1 : ev g (some (.ref b) :: t) e h = .ok (.int v) h) (eb : h[b]? = some (bagO s i c seed m)) : ex g (.iset (.var 0) (.int 1) e) (some (.ref b) :: t) h = .ok (.nx (some (.ref b) :: t)) (h.set b (bagO s v c seed m)) :=
  ex_iset (j := 1) e1 rfl rfl eb rfl
theorem iset2 {e : E} {t : List (Option D)} {v : Int} (e1 : ev g (some (.ref b) :: t) e h = .ok (.int v) h) (eb : h[b]? = some (bagO s i c seed m)) : ex g (.iset (.var 0) (.int 2) e) (some (.ref b) :: t) h = .ok (.nx (some (.ref b) :: t)) (h.set b (bagO s i v seed m)) :=
  ex_iset (j := 2) e1 rfl rfl eb rfl
theorem iset3 {e : E} {t : List (Option D)} {v : Int} (e1 : ev g (some (.ref b) :: t) e h = .ok (.int v) h) (eb : h[b]? = some (bagO s i c seed m)) : ex g (.iset (.var 0) (.int 3) e) (some (.ref b) :: t) h = .ok (.nx (some (.ref b) :: t)) (h.set b (bagO s i c v m)) :=
  ex_iset (j := 3) e1 rfl rfl eb rfl
theorem iset4 {e : E} {t : List (Option D)} {v : Int} (e1 : ev g (some (.ref b) :: t) e h = .ok (.int v) h) (eb : h[b]? = some (bagO s i c seed m)) : ex g (.iset (.var 0) (.int 4) e) (some (.ref b) :: t) h = .ok (.nx (some (.ref b) :: t)) (h.set b (bagO s i c seed v)) :=
  ex_iset (j := 4) e1 rfl rfl eb rfl
theorem mulL {i j : Int} (h0 : 0 ≤ i) (h1 : i < 18446744073709551616) : CMul i j := .inl ⟨by omega, by omega⟩
/-- a number comes; the bag has changed, and nothing else -/
theorem draw_run {tb : Str → Option Fn} {gl : Str → Option D} {k : Nat} {many : Int} (ht : tb "_law_draw" = some drawFn) (eb : h[b]? = some (bagO s i c seed m)) (es : h[s]? = some (.lst xs)) (hs : s ≠ b) (hx : ∀ x ∈ xs, ∃ n, x = D.int n)
    (h0 : 0 ≤ i) (h1 : 0 ≤ c) (h2 : 0 ≤ seed) (h3 : seed < 2147483587) (m0 : 0 < many) (m1 : many < 1073741824) :
    ∃ (r i' c' seed' m' : Int), run tb gl (k + 1) "_law_draw" [.ref b, .int many] h = .ok (.int r) (h.set b (bagO s i' c' seed' m')) ∧ 0 ≤ r ∧ r < many ∧ 0 ≤ i' ∧ 0 ≤ c' ∧ 0 ≤ seed' ∧ seed' < 2147483587 := by
  have hb : b < h.length := (List.getElem?_eq_some_iff.mp eb).1
  have sg : ∀ o, (h.set b o)[b]? = some o := fun o => set_get hb
  have sg' : ∀ o, (h.set b o)[s]? = some (.lst xs) := fun o => (set_get_ne hs).trans es
  -- the first block
  have first : ∃ (i' c' seed' : Int) (t : Option D), (∀ g, ex g (.ife (.and (.cmp .Eq (.sub (.var 0) (.int 2)) (.int 0)) (.cmp .Lt (.sub (.var 0) (.int 1)) (.blt "len" (.cons (.sub (.var 0) (.int 0)) .nil)))) (.cons (.asg (.nm 3) (.sub (.sub (.var 0) (.int 0)) (.sub (.var 0) (.int 1))))
   (.cons (.iset (.var 0) (.int 1) (.bin .Add (.sub (.var 0) (.int 1)) (.int 1)))
   (.cons (.iset (.var 0) (.int 2) (.ife (.cmp .GtE (.var 3) (.bin .Pow (.int 10) (.int 18))) (.var 3) (.int 0)))
   (.cons (.iset (.var 0) (.int 3) (.bin .Mod (.blt "int" (.cons (.bin .Add (.bin .Add (.bin .Mult (.sub (.var 0) (.int 3)) (.int 40009)) (.bin .Mult (.bin .Mod (.blt "int" (.cons (.var 3) .nil)) (.int 2147483549)) (.int 311))) (.int 1019)) .nil)) (.int 2147483587)))
   .nil)))) .nil) [some (.ref b), some (.int many), none, none, none] h = .ok (.nx [some (.ref b), some (.int many), none, t, none]) (h.set b (bagO s i' c' seed' m))) ∧ 0 ≤ i' ∧ 0 ≤ c' ∧ 0 ≤ seed' ∧ seed' < 2147483587 := by
    by_cases q : c = 0 ∧ i < xs.length
    · obtain ⟨hc, hi⟩ := q
      have hi' : i.toNat < xs.length := by omega
      obtain ⟨n, hn⟩ := hx xs[i.toNat] (List.getElem_mem hi')
      have ea : atI xs i = some (.int n) := by
        unfold atI ixN
        rw [if_pos h0, if_pos hi]
        show xs[i.toNat]? = _
        rw [List.getElem?_eq_getElem hi', hn]
      refine ⟨i + 1, if n ≥ 1000000000000000000 then n else 0, (seed * 40009 + n % 2147483549 * 311 + 1019) % 2147483587, some (.int n), fun g => ?_, by omega, by split <;> omega, by omega, by omega⟩
      have t1 := test1 (g := g) eb es [some (.int many), none, none, none]
      rw [decide_eq_true hc, decide_eq_true hi] at t1
      simp only [ex]
      rw [t1]
      simp only [Re.bind, truth, Bool.and_self]
      rw [exs_nx (τ' := [some (.ref b), some (.int many), none, some (.int n), none]) (h' := h), exs_nx (iset1 (v := i + 1) ?_ eb), exs_nx (iset2 (v := if n ≥ 1000000000000000000 then n else 0) ?_ (sg _)), exs_nx (iset3 (v := (seed * 40009 + n % 2147483549 * 311 + 1019) % 2147483587) ?_ (set_get (by simpa using hb)))]
      · simp only [exs, set_set]
      · simp only [ev, evs, Re.bind, List.getElem?_cons_zero, List.getElem?_cons_succ, bag3 (set_get (b := b) (h := h.set b _) (by simpa using hb)), bin]
        rw [if_pos (mulL h2 (by omega))]
        simp only [blt_int, Re.bind]
        rw [if_pos (by decide)]
        simp only [Re.bind]
        rw [if_pos (mulL (by omega) (by omega))]
        simp only [Re.bind, blt_int]
        rw [if_pos (by decide)]
      · simp only [ev, Re.bind, List.getElem?_cons_zero, List.getElem?_cons_succ, bin]
        rw [if_pos (by decide)]
        simp only [Re.bind, cmp]
        by_cases z : n ≥ 1000000000000000000
        · have z' : (10 : Int) ^ (18 : Int).toNat ≤ n := z
          simp only [decide_eq_true z', truth, if_pos z]
        · have z' : ¬ (10 : Int) ^ (18 : Int).toNat ≤ n := z
          simp only [decide_eq_false z', truth, if_neg z]
      · simp only [ev, Re.bind, List.getElem?_cons_zero, bag1 eb, bin]
      · simp only [ex, ev, Re.bind, List.getElem?_cons_zero, bag0 eb, bag1 eb, sub_seq (items_lst es) ea]
        rfl
    · refine ⟨i, c, seed, none, fun g => ?_, h0, h1, h2, h3⟩
      have t1 := test1 (g := g) eb es [some (.int many), none, none, none]
      have e : (decide (c = 0) && decide (i < xs.length)) = false := by
        rw [← Bool.not_eq_true, Bool.and_eq_true, decide_eq_true_eq, decide_eq_true_eq]
        exact q
      rw [e] at t1
      have hset : h.set b (bagO s i c seed m) = h := by
        apply List.ext_getElem?
        intro j
        by_cases hj : j = b
        · rw [hj, sg, eb]
        · exact set_get_ne hj
      simp only [ex]
      rw [t1]
      simp only [Re.bind, truth, exs, hset]
  obtain ⟨i1, c1, s1, t, f1, g1, g2, g3, g4⟩ := first
  have hb1 : b < (h.set b (bagO s i1 c1 s1 m)).length := by simpa using hb
  by_cases hc : 0 < c1
  · refine ⟨c1 % many, i1, c1 / many, s1, m, ?_, Int.emod_nonneg _ (by omega), Int.emod_lt_of_pos _ m0, g1, Int.ediv_nonneg g2 (by omega), g3, g4⟩
    rw [run_step ht]
    show (exs _ drawFn.body [some (.ref b), some (.int many), none, none, none] h).bind _ = _
    dsimp only [drawFn]
    rw [exs_nx (f1 _)]
    rw [exs_rt (d := .int (c1 % many)) (h' := h.set b (bagO s i1 (c1 / many) s1 m))]
    · rfl
    · simp only [ex, ev, Re.bind, List.getElem?_cons_zero, bag2 (sg _), cmp, decide_eq_true hc, truth]
      rw [exs_nx (τ' := [some (.ref b), some (.int many), none, t, some (.int (c1 % many))]) (h' := h.set b (bagO s i1 c1 s1 m)), exs_nx (iset2 (v := c1 / many) ?_ (sg _)), exs_rt (d := .int (c1 % many)) (h' := h.set b (bagO s i1 (c1 / many) s1 m))]
      · simp only [ex, ev, Re.bind, List.getElem?_cons_zero, List.getElem?_cons_succ, set_set]
      · simp only [ev, Re.bind, List.getElem?_cons_zero, List.getElem?_cons_succ, bag2 (sg _), bin]
        rw [if_pos ⟨m0, m1⟩]
      · simp only [ex, ev, evs, Re.bind, List.getElem?_cons_zero, List.getElem?_cons_succ, bag2 (sg _), blt_int, bin]
        rw [if_pos m0]
        rfl
  · refine ⟨((s1 * s1 + 70003 * s1 + 7919 * (m + 1) + 30013) % 2147483587 / 61 + s1 * 33311 + (m + 1)) % many, i1, c1, (s1 * s1 + 70003 * s1 + 7919 * (m + 1) + 30013) % 2147483587, m + 1, ?_, Int.emod_nonneg _ (by omega), Int.emod_lt_of_pos _ m0, g1, g2, by omega, by omega⟩
    rw [run_step ht]
    show (exs _ drawFn.body [some (.ref b), some (.int many), none, none, none] h).bind _ = _
    dsimp only [drawFn]
    rw [exs_nx (f1 _)]
    rw [exs_nx (τ' := [some (.ref b), some (.int many), none, t, none]) (h' := h.set b (bagO s i1 c1 s1 m)), exs_nx (iset4 (v := m + 1) ?_ (sg _)),
      exs_nx (τ' := [some (.ref b), some (.int many), some (.int s1), t, none]) (h' := h.set b (bagO s i1 c1 s1 (m + 1))), exs_nx (iset3 (v := (s1 * s1 + 70003 * s1 + 7919 * (m + 1) + 30013) % 2147483587) ?_ (sg _)),
      exs_rt (d := .int (((s1 * s1 + 70003 * s1 + 7919 * (m + 1) + 30013) % 2147483587 / 61 + s1 * 33311 + (m + 1)) % many)) (h' := h.set b (bagO s i1 c1 ((s1 * s1 + 70003 * s1 + 7919 * (m + 1) + 30013) % 2147483587) (m + 1)))]
    · rfl
    · (try simp only [set_set]); simp only [ex, ev, evs, Re.bind, List.getElem?_cons_zero, List.getElem?_cons_succ, bag3 (sg _), bag4 (sg _), bin]
      rw [if_pos ⟨by decide, by decide⟩]
      simp only [Re.bind]
      rw [if_pos (mulL g3 (by omega))]
      simp only [Re.bind, blt_int, bag4 (sg _), bin]
      rw [if_pos m0]
    · (try simp only [set_set]); simp only [ex, ev, evs, Re.bind, List.getElem?_cons_zero, List.getElem?_cons_succ, bag3 (sg _), bag4 (sg _), bin]
      rw [if_pos (mulL g3 (by omega))]
      simp only [Re.bind]
      rw [if_pos (mulL (by omega) (by omega))]
      simp only [Re.bind, bag4 (sg _)]
      rw [if_pos (mulL (by omega) (by omega))]
      simp only [Re.bind, blt_int]
      rw [if_pos (by decide)]
    · (try simp only [set_set]); simp only [ex, ev, Re.bind, List.getElem?_cons_zero, bag3 (sg _)]
      rfl
    · (try simp only [set_set]); simp only [ex, ev, Re.bind, List.getElem?_cons_zero, bag4 (sg _), bin]
    · (try simp only [set_set]); simp only [ex, ev, Re.bind, List.getElem?_cons_zero, bag2 (sg _), cmp, decide_eq_false hc, truth, exs]
end
end Ly
/-! LwB: what a term comes to, told by what holds behind it. -/
namespace Ly
open PySem PySem.Spec PyProof.Rows L2
def Wp {α : Type} (r : Re α) (Q : α → IH → Prop) : Prop :=
  match r with
  | .ok a h => Q a h
  | _ => False
theorem Wp.mono {α : Type} {r : Re α} {Q Q' : α → IH → Prop} (w : Wp r Q) (f : ∀ a h, Q a h → Q' a h) : Wp r Q' := by
  cases r with
  | ok a h => exact f a h w
  | ex c fs h => exact w
  | no => exact w
theorem Wp.at {α : Type} {r : Re α} {Q : α → IH → Prop} (w : Wp r Q) : ∃ a h, r = .ok a h ∧ Q a h := by
  cases r with
  | ok a h => exact ⟨a, h, rfl, w⟩
  | ex c fs h => exact w.elim
  | no => exact w.elim
theorem wp_ok {α : Type} {a : α} {h : IH} {Q : α → IH → Prop} : Wp (.ok a h) Q = Q a h := rfl
theorem wp_bind {α β : Type} {r : Re α} {f : α → IH → Re β} {Q : β → IH → Prop} : Wp (Re.bind r f) Q = Wp r (fun a h => Wp (f a h) Q) := by
  cases r <;> rfl
/-- one of two, by a truth value that may be none -/
def br {α : Type} (t : Option Bool) (a b : Re α) : Re α :=
  match t with
  | some true => a
  | some false => b
  | none => .no
theorem wp_br {α : Type} {k : Bool} {a b : Re α} {Q : α → IH → Prop} : Wp (br (some k) a b) Q = ((k = true → Wp a Q) ∧ (k = false → Wp b Q)) := by
  cases k <;> simp [br]
theorem br_t {α : Type} {a b : Re α} : br (some true) a b = a := rfl
theorem br_f {α : Type} {a b : Re α} : br (some false) a b = b := rfl
def ret1 (t : Option Bool) (h : IH) : Re D :=
  match t with
  | some k => .ok (.bl k) h
  | none => .no
theorem ret1_s {k : Bool} {h : IH} : ret1 (some k) h = .ok (.bl k) h := rfl
def opt {α : Type} (t : Option α) (h : IH) : Re α :=
  match t with
  | some k => .ok k h
  | none => .no
theorem opt_s {α : Type} {k : α} {h : IH} : opt (some k) h = .ok k h := rfl
open Classical in
noncomputable def gd {α : Type} (p : Prop) (r : Re α) : Re α := if p then r else .no
theorem gd_intro {α : Type} {p : Prop} [Decidable p] {r : Re α} : gd p r = if p then r else .no := by
  unfold gd
  by_cases hp : p
  · rw [if_pos hp, if_pos hp]
  · rw [if_neg hp, if_neg hp]
theorem wp_gd {α : Type} {p : Prop} {r : Re α} {Q : α → IH → Prop} : Wp (gd p r) Q = (p ∧ Wp r Q) := by
  unfold gd
  by_cases hp : p
  · rw [if_pos hp]; simp [hp]
  · rw [if_neg hp]; simp [hp, Wp]
theorem gd_bind {α β : Type} {p : Prop} {r : Re α} {f : α → IH → Re β} : Re.bind (gd p r) f = gd p (Re.bind r f) := by
  unfold gd
  by_cases hp : p
  · rw [if_pos hp, if_pos hp]
  · rw [if_neg hp, if_neg hp]; rfl
theorem gd_t {α : Type} {r : Re α} : gd True r = r := if_pos trivial
def notR (t : Option Bool) (h : IH) : Re D :=
  match t with
  | some k => .ok (.bl (!k)) h
  | none => .no
theorem notR_s {k : Bool} {h : IH} : notR (some k) h = .ok (.bl (!k)) h := rfl
theorem bind_ok {α β : Type} {a : α} {h : IH} {f : α → IH → Re β} : Re.bind (.ok a h) f = f a h := rfl
theorem br_and1 {p q : Bool} {h : IH} : br (some p) (Re.ok (D.bl q) h) (Re.ok (D.bl false) h) = Re.ok (D.bl (p && q)) h := by cases p <;> rfl
theorem br_and2 {p q : Bool} {h : IH} : br (some p) (Re.ok (D.bl q) h) (Re.ok (D.bl p) h) = Re.ok (D.bl (p && q)) h := by cases p <;> rfl
theorem br_or1 {p q : Bool} {h : IH} : br (some p) (Re.ok (D.bl p) h) (Re.ok (D.bl q) h) = Re.ok (D.bl (p || q)) h := by cases p <;> rfl
namespace U
def itO : Option O → Option (List D)
  | some (.lst xs) => some xs
  | some (.fro xs) => some xs
  | _ => none
theorem itO_l {xs : List D} : itO (some (.lst xs)) = some xs := id rfl
theorem itO_f {xs : List D} : itO (some (.fro xs)) = some xs := id rfl
def fill : Nat → List D → List (Option D)
  | 0, _ => []
  | n + 1, [] => none :: fill n []
  | n + 1, d :: ds => some d :: fill n ds
theorem fill_z {ds : List D} : fill 0 ds = [] := rfl
theorem fill_n {n : Nat} : fill (n + 1) [] = none :: fill n [] := rfl
theorem fill_c {n : Nat} {d : D} {ds : List D} : fill (n + 1) (d :: ds) = some d :: fill n ds := rfl
theorem fill_eq : ∀ {ds : List D} {n : Nat}, ds.length ≤ n → ds.map some ++ List.replicate (n - ds.length) none = fill n ds
  | [], 0, _ => rfl
  | [], n + 1, _ => by
    rw [fill_n, ← fill_eq (ds := []) (n := n) (Nat.zero_le _)]
    rfl
  | d :: ds, 0, h => absurd h (by simp)
  | d :: ds, n + 1, h => by
    rw [fill_c, ← fill_eq (ds := ds) (n := n) (by simpa using h), List.length_cons, Nat.add_sub_add_right]
    rfl
def lk : List (Option D) → Nat → Option D
  | [], _ => none
  | o :: _, 0 => o
  | _ :: τ, i + 1 => lk τ i
theorem lk_z {o : Option D} {τ : List (Option D)} : lk (o :: τ) 0 = o := rfl
theorem lk_s {o : Option D} {τ : List (Option D)} {i : Nat} : lk (o :: τ) (i + 1) = lk τ i := rfl
theorem lk_eq : ∀ {τ : List (Option D)} {i : Nat}, (τ[i]?).join = lk τ i
  | [], _ => by simp [lk]
  | o :: τ, 0 => by simp [lk]
  | o :: τ, i + 1 => by simpa [lk] using lk_eq (τ := τ) (i := i)
def stI : Nat → D → List (Option D) → Option (List (Option D))
  | _, _, [] => none
  | 0, d, _ :: τ => some (some d :: τ)
  | i + 1, d, o :: τ => (stI i d τ).map (o :: ·)
theorem st_z {d : D} {o : Option D} {τ : List (Option D)} : stI 0 d (o :: τ) = some (some d :: τ) := rfl
theorem st_s {d : D} {o : Option D} {τ : List (Option D)} {i : Nat} : stI (i + 1) d (o :: τ) = (stI i d τ).map (o :: ·) := rfl
theorem st_eq : ∀ {τ : List (Option D)} {i : Nat} {d : D}, (if i < τ.length then some (τ.set i (some d)) else none) = stI i d τ
  | [], _, _ => by simp [stI]
  | o :: τ, 0, d => by simp [stI]
  | o :: τ, i + 1, d => by
    rw [st_s, ← st_eq]
    by_cases hi : i < τ.length
    · simp [hi]
    · simp [hi]
theorem bi_nm {i : Nat} {d : D} {τ : List (Option D)} : bindT (.nm i) d τ = stI i d τ := by
  rw [← st_eq]
  simp only [bindT]
theorem map_s {α β : Type} {f : α → β} {a : α} : Option.map f (some a) = some (f a) := rfl
theorem bind_s {α β : Type} {f : α → Option β} {a : α} : Option.bind (some a) f = f a := rfl
section
variable {g : G} {τ : List (Option D)} {h : IH}
theorem e_var {i : Nat} : ev g τ (.var i) h = opt (lk τ i) h := by
  rw [← lk_eq]
  simp only [ev]
  cases τ[i]? with
  | none => rfl
  | some o => cases o <;> rfl
theorem e_int {i : Int} : ev g τ (.int i) h = .ok (.int i) h := rfl
theorem e_str {x : Str} : ev g τ (.str x) h = .ok (.str x) h := rfl
theorem e_bl {b : Bool} : ev g τ (.bl b) h = .ok (.bl b) h := rfl
theorem e_non : ev g τ .non h = .ok .non h := rfl
theorem e_glo {x : Str} : ev g τ (.glo x) h = opt (g.gl x) h := by
  simp only [ev]
  cases g.gl x <;> rfl
theorem e_tup {es : Es} : ev g τ (.tup es) h = (evs g τ es h).bind fun ds h => newt ds h := rfl
theorem e_lst {es : Es} : ev g τ (.lst es) h = (evs g τ es h).bind fun ds h => newl ds h := rfl
theorem e_bin {op : Operator} {a b : E} : ev g τ (.bin op a b) h = (ev g τ a h).bind fun x h => (ev g τ b h).bind fun y h => bin op x y h := rfl
def negR : D → IH → Re D
  | .int i, h => .ok (.int (-i)) h
  | _, _ => .no
theorem e_neg {a : E} : ev g τ (.neg a) h = (ev g τ a h).bind fun x h => negR x h := by
  simp only [ev]
  congr 1
  funext x h
  cases x <;> rfl
theorem negR_i {i : Int} : negR (.int i) h = .ok (.int (-i)) h := rfl
theorem e_cmp {op : CmpOp} {a b : E} : ev g τ (.cmp op a b) h = (ev g τ a h).bind fun x h => (ev g τ b h).bind fun y h => ret1 (cmp op x y h) h := rfl
theorem e_chain {o p : CmpOp} {a b c : E} : ev g τ (.chain o p a b c) h = (ev g τ a h).bind fun x h => (ev g τ b h).bind fun y h => br (cmp o x y h) ((ev g τ c h).bind fun z h => ret1 (cmp p y z h) h) (.ok (.bl false) h) := rfl
theorem e_not {a : E} : ev g τ (.not a) h = (ev g τ a h).bind fun x h => notR (truth h x) h := rfl
theorem e_and {a b : E} : ev g τ (.and a b) h = (ev g τ a h).bind fun x h => br (truth h x) (ev g τ b h) (.ok x h) := rfl
theorem e_or {a b : E} : ev g τ (.or a b) h = (ev g τ a h).bind fun x h => br (truth h x) (.ok x h) (ev g τ b h) := rfl
theorem e_ife {c a b : E} : ev g τ (.ife c a b) h = (ev g τ c h).bind fun x h => br (truth h x) (ev g τ a h) (ev g τ b h) := rfl
theorem e_call {f : Str} {es : Es} : ev g τ (.call f es) h = (evs g τ es h).bind fun ds h => g.cf f ds h := rfl
theorem e_callk {f : Str} {ks : List Str} {es : Es} : ev g τ (.callk f ks es) h = (evs g τ es h).bind fun ds h => g.cf f ds h := rfl
theorem e_blt {f : Str} {es : Es} : ev g τ (.blt f es) h = (evs g τ es h).bind fun ds h => blt f ds h := rfl
theorem e_isi {a : E} {t : String} : ev g τ (.isi a t) h = (ev g τ a h).bind fun x h => ret1 ((typ h x).bind fun s => kitB s t) h := rfl
theorem e_sub {a b : E} : ev g τ (.sub a b) h = (ev g τ a h).bind fun x h => (ev g τ b h).bind fun y h => Ly.sub x y h := rfl
theorem e_slc {a : E} {lo hi : Oe} : ev g τ (.slc a lo hi) h = (ev g τ a h).bind fun x h => (evo g τ lo h).bind fun l h => (evo g τ hi h).bind fun u h => Ly.slc x l u h := rfl
def lcTurn (g : G) (τ : List (Option D)) (t : T) (tt : Oe) (e : E) (d : D) (h : IH) : Re (Option D) :=
  (opt (bindT t d τ) h).bind fun τ' h => (evt g τ' tt h).bind fun k h => br (some k) ((ev g τ' e h).bind fun y h => .ok (some y) h) (.ok none h)
theorem e_lc {own : List Nat} {t : T} {it : I} {tt : Oe} {e : E} : ev g τ (.lc own t it tt e) h = (evi g τ it h).bind fun j h => lcLoop j (lcTurn g (wipeD τ own) t tt e) h.length (j.most h + 1) 0 (h ++ [.lst []]) := by
  simp only [ev]
  congr 1
  funext j h
  congr 1
  funext d h
  unfold lcTurn
  cases bindT t d (wipeD τ own) with
  | none => rfl
  | some τ' =>
    show (evt g τ' tt h).bind _ = (evt g τ' tt h).bind _
    congr 1
    funext k h
    cases k <;> rfl
theorem e_meth {m : Str} {a : E} {es : Es} : ev g τ (.meth m a es) h = (ev g τ a h).bind fun x h => gd (typ h x = (bmT m).map (·.1)) ((evs g τ es h).bind fun ds h => meth m x ds h) := by
  simp only [ev, gd_intro]
theorem es_nil : evs g τ .nil h = .ok [] h := rfl
theorem es_cons {e : E} {es : Es} : evs g τ (.cons e es) h = (ev g τ e h).bind fun x h => (evs g τ es h).bind fun xs h => .ok (x :: xs) h := rfl
def intR : D → IH → Re (Option Int)
  | .int i, h => .ok (some i) h
  | _, _ => .no
theorem intR_i {i : Int} : intR (.int i) h = .ok (some i) h := rfl
theorem eo_none : evo g τ .none h = .ok none h := rfl
theorem eo_some {e : E} : evo g τ (.some e) h = (ev g τ e h).bind fun x h => intR x h := by
  simp only [evo]
  congr 1
  funext x h
  cases x <;> rfl
theorem et_none : evt g τ .none h = .ok true h := rfl
theorem et_some {e : E} : evt g τ (.some e) h = (ev g τ e h).bind fun x h => opt (truth h x) h := by
  simp only [evt]
  congr 1
  funext x h
  cases truth h x <;> rfl
noncomputable def seqR (h : IH) : D → Re J
  | .tup xs => .ok (.its xs) h
  | .ref n => gd (itO h[n]? ≠ none) (.ok (.obj n) h)
  | .str z => gd (z.length ≤ sizeLine) (.ok (.its (z.cps.toList.map fun k => .str ⟨#[k]⟩)) h)
  | _ => .no
theorem sq_t {xs : List D} : seqR h (.tup xs) = .ok (.its xs) h := rfl
theorem sq_s {z : Str} : seqR h (.str z) = gd (z.length ≤ sizeLine) (.ok (.its (z.cps.toList.map fun k => .str ⟨#[k]⟩)) h) := rfl
theorem sq_r {n : Nat} : seqR h (.ref n) = gd (itO h[n]? ≠ none) (.ok (.obj n) h) := rfl
theorem it_t {xs : List D} : items h (.tup xs) = some xs := rfl
theorem items_ref {n : Nat} : items h (.ref n) = itO h[n]? := by
  simp only [items]
  cases h[n]? with
  | none => rfl
  | some o => cases o <;> rfl
theorem ei_seq {e : E} : evi g τ (.seq e) h = (ev g τ e h).bind fun x h => seqR h x := by
  simp only [evi]
  congr 1
  funext x h
  cases x with
  | ref n =>
    simp only [seqR, gd_intro]
    rw [items_ref]
    cases itO h[n]? <;> simp
  | str z => simp only [seqR, gd_intro]
  | _ => rfl
theorem ei_rng {es : Es} : evi g τ (.rng es) h = (evs g τ es h).bind fun ds h => match ds with
    | [.int j] => if -(2 ^ 62) ≤ j ∧ j < 2 ^ 62 then .ok (.rng 0 j.toNat) h else .no
    | [.int i, .int j] => if -(2 ^ 62) ≤ i ∧ i < 2 ^ 62 ∧ -(2 ^ 62) ≤ j ∧ j < 2 ^ 62 then .ok (.rng i (j - i).toNat) h else .no
    | _ => .no := rfl
noncomputable def rng1 : D → IH → Re J
  | .int j, h => gd (-(2 ^ 62) ≤ j ∧ j < 2 ^ 62) (.ok (.rng 0 j.toNat) h)
  | _, _ => .no
theorem ei_rng1 {e : E} : evi g τ (.rng (.cons e .nil)) h = (ev g τ e h).bind fun x h => rng1 x h := by
  simp only [evi, evs]
  cases ev g τ e h with
  | ok x h =>
    cases x with
    | int j => simp only [Re.bind, rng1, gd_intro]
    | _ => rfl
  | _ => rfl
theorem rng1_i {j : Int} : rng1 (.int j) h = gd (-(2 ^ 62) ≤ j ∧ j < 2 ^ 62) (.ok (.rng 0 j.toNat) h) := rfl
-- statements
theorem x_asg {t : T} {e : E} : ex g (.asg t e) τ h = (ev g τ e h).bind fun x h => (opt (bindT t x τ) h).bind fun τ' h => .ok (.nx τ') h := by
  simp only [ex]
  congr 1
  funext x h
  cases bindT t x τ <;> rfl
def setO (τ : List (Option D)) (h : IH) (n : Nat) (k : Int) (v : D) : Option O → Re Fl
  | some (.lst xs) => (opt (ixN xs.length k) h).bind fun j h => .ok (.nx τ) (h.set n (.lst (xs.set j v)))
  | _ => .no
def setR (τ : List (Option D)) (h : IH) (v : D) : D → D → Re Fl
  | .ref n, .int k => setO τ h n k v h[n]?
  | _, _ => .no
theorem setR_r {n : Nat} {k : Int} {v : D} : setR τ h v (.ref n) (.int k) = setO τ h n k v h[n]? := rfl
theorem setO_l {n : Nat} {k : Int} {v : D} {xs : List D} : setO τ h n k v (some (.lst xs)) = (opt (ixN xs.length k) h).bind fun j h => .ok (.nx τ) (h.set n (.lst (xs.set j v))) := rfl
theorem x_iset {o i e : E} : ex g (.iset o i e) τ h = (ev g τ e h).bind fun v h => (ev g τ o h).bind fun x h => (ev g τ i h).bind fun y h => setR τ h v x y := by
  simp only [ex]
  congr 1; funext v h
  congr 1; funext x h
  congr 1; funext y h
  cases x with
  | ref n =>
    cases y with
    | int k =>
      simp only [setR, setO]
      cases h[n]? with
      | none => rfl
      | some o =>
        cases o with
        | lst xs => simp only [opt]; cases ixN xs.length k <;> rfl
        | _ => rfl
    | _ => rfl
  | _ => rfl
theorem x_expr {e : E} : ex g (.expr e) τ h = (ev g τ e h).bind fun _ h => .ok (.nx τ) h := rfl
theorem x_ret {e : E} : ex g (.ret e) τ h = (ev g τ e h).bind fun x h => .ok (.rt x) h := rfl
theorem x_retn : ex g .retn τ h = .ok (.rt .non) h := rfl
theorem x_ife {c : E} {a b : Ss} : ex g (.ife c a b) τ h = (ev g τ c h).bind fun x h => br (truth h x) (exs g a τ h) (exs g b τ h) := rfl
def forTurn (g : G) (t : T) (b : Ss) (d : D) (τ : List (Option D)) (h : IH) : Re Fl := (opt (bindT t d τ) h).bind fun τ' h => exs g b τ' h
theorem x_for {t : T} {it : I} {b : Ss} : ex g (.for t it b) τ h = (evi g τ it h).bind fun j h => forLoop j (forTurn g t b) (j.most h + 1) 0 τ h := by
  simp only [ex]
  congr 1
  funext j h
  congr 1
  funext d τ h
  unfold forTurn
  cases bindT t d τ <;> rfl
theorem x_brk : ex g .brk τ h = .ok (.bk τ) h := rfl
theorem x_cnt : ex g .cnt τ h = .ok (.ct τ) h := rfl
theorem x_pass : ex g .pass τ h = .ok (.nx τ) h := rfl
def seqS (g : G) (ss : Ss) : Fl → IH → Re Fl
  | .nx τ', h => exs g ss τ' h
  | r, h => .ok r h
theorem xs_nil : exs g .nil τ h = .ok (.nx τ) h := rfl
theorem xs_cons {s : S} {ss : Ss} : exs g (.cons s ss) τ h = (ex g s τ h).bind fun r h => seqS g ss r h := by
  simp only [exs]
  congr 1
  funext r h
  cases r <;> rfl
theorem seqS_n {ss : Ss} : seqS g ss (.nx τ) h = exs g ss τ h := rfl
theorem seqS_r {ss : Ss} {d : D} : seqS g ss (.rt d) h = .ok (.rt d) h := rfl
theorem seqS_b {ss : Ss} : seqS g ss (.bk τ) h = .ok (.bk τ) h := rfl
theorem seqS_c {ss : Ss} : seqS g ss (.ct τ) h = .ok (.ct τ) h := rfl
def outR : Fl → IH → Re D
  | .rt d, h => .ok d h
  | .nx _, h => .ok .non h
  | _, _ => .no
theorem outR_r {d : D} : outR (.rt d) h = .ok d h := rfl
theorem outR_n : outR (.nx τ) h = .ok .non h := rfl
theorem runFn_eq {f : Fn} {ds : List D} (h1 : ds.length = f.np) (h2 : f.np ≤ f.nl) : runFn g f ds h = (exs g f.body (fill f.nl ds) h).bind fun r h => outR r h := by
  unfold runFn
  rw [if_pos h1, fill_eq (by omega)]
  congr 1
  funext r h
  cases r <;> rfl
theorem run_eq {tb : Str → Option Fn} {gl : Str → Option D} {k : Nat} {f : Str} {fn : Fn} {ds : List D} (ht : tb f = some fn) (h1 : ds.length = fn.np) (h2 : fn.np ≤ fn.nl) : run tb gl (k + 1) f ds h = (exs ⟨run tb gl k, gl⟩ fn.body (fill fn.nl ds) h).bind fun r h => outR r h := by
  rw [run_step ht, runFn_eq h1 h2]
-- values
theorem tr_bl {b : Bool} : truth h (.bl b) = some b := rfl
theorem tr_int {b : Int} : truth h (.int b) = some (b != 0) := rfl
theorem tr_non : truth h .non = some false := rfl
theorem b_add {i j : Int} : bin .Add (.int i) (.int j) h = .ok (.int (i + j)) h := rfl
theorem b_sub {i j : Int} : bin .Sub (.int i) (.int j) h = .ok (.int (i - j)) h := rfl
theorem b_mul {i j : Int} : bin .Mult (.int i) (.int j) h = gd (CMul i j) (.ok (.int (i * j)) h) := by rw [gd_intro]; rfl
theorem b_div {i j : Int} : bin .FloorDiv (.int i) (.int j) h = gd (CDiv i j) (.ok (.int (i / j)) h) := by rw [gd_intro]; rfl
theorem b_mod {i j : Int} : bin .Mod (.int i) (.int j) h = gd (0 < j) (.ok (.int (i % j)) h) := by rw [gd_intro]; rfl
theorem b_pow {i j : Int} : bin .Pow (.int i) (.int j) h = gd (CPow i j) (.ok (.int (i ^ j.toNat)) h) := by rw [gd_intro]; rfl
theorem b_sadd {x y : Str} : bin .Add (.str x) (.str y) h = gd (x.length + y.length ≤ sizeLine) (.ok (.str (x ++ y)) h) := by rw [gd_intro]; rfl
theorem b_tadd {xs ys : List D} : bin .Add (.tup xs) (.tup ys) h = gd (xs.length + ys.length ≤ sizeLine) (.ok (.tup (xs ++ ys)) h) := by rw [gd_intro]; rfl
noncomputable def repO (h : IH) (k : Int) : Option O → Re D
  | some (.lst xs) => gd (-(2 ^ 63) ≤ k ∧ k < 2 ^ 63 ∧ xs.length * k.toNat ≤ sizeLine) (alloc (.lst (List.replicate k.toNat xs).flatten) h)
  | _ => .no
theorem repO_l {k : Int} {xs : List D} : repO h k (some (.lst xs)) = gd (-(2 ^ 63) ≤ k ∧ k < 2 ^ 63 ∧ xs.length * k.toNat ≤ sizeLine) (alloc (.lst (List.replicate k.toNat xs).flatten) h) := rfl
theorem b_rep {n : Nat} {k : Int} : bin .Mult (.ref n) (.int k) h = repO h k h[n]? := by
  show (match h[n]? with | some (.lst xs) => if -(2 ^ 63) ≤ k ∧ k < 2 ^ 63 ∧ xs.length * k.toNat ≤ sizeLine then alloc (.lst (List.replicate k.toNat xs).flatten) h else .no | _ => .no) = _
  cases h[n]? with
  | none => rfl
  | some o =>
    cases o with
    | lst xs => simp only [repO, gd_intro]
    | _ => rfl
noncomputable def ladO (h : IH) : Option O → Option O → Re D
  | some (.lst xs), some (.lst ys) => gd (xs.length + ys.length ≤ sizeLine) (alloc (.lst (xs ++ ys)) h)
  | _, _ => .no
theorem ladO_l {xs ys : List D} : ladO h (some (.lst xs)) (some (.lst ys)) = gd (xs.length + ys.length ≤ sizeLine) (alloc (.lst (xs ++ ys)) h) := rfl
theorem b_ladd {n m : Nat} : bin .Add (.ref n) (.ref m) h = ladO h h[n]? h[m]? := by
  show (match h[n]?, h[m]? with | some (.lst xs), some (.lst ys) => if xs.length + ys.length ≤ sizeLine then alloc (.lst (xs ++ ys)) h else .no | _, _ => .no) = _
  cases h[n]? with
  | none => rfl
  | some o =>
    cases o with
    | lst xs =>
      cases h[m]? with
      | none => rfl
      | some o =>
        cases o with
        | lst ys => simp only [ladO, gd_intro]
        | _ => rfl
    | _ => rfl
theorem c_lt {i j : Int} : cmp .Lt (.int i) (.int j) h = some (decide (i < j)) := rfl
theorem c_le {i j : Int} : cmp .LtE (.int i) (.int j) h = some (decide (i ≤ j)) := rfl
theorem c_gt {i j : Int} : cmp .Gt (.int i) (.int j) h = some (decide (j < i)) := rfl
theorem c_ge {i j : Int} : cmp .GtE (.int i) (.int j) h = some (decide (j ≤ i)) := rfl
theorem c_eq {i j : Int} : cmp .Eq (.int i) (.int j) h = some (decide (i = j)) := rfl
theorem c_ne {i j : Int} : cmp .NotEq (.int i) (.int j) h = some (!decide (i = j)) := rfl
theorem c_eqs {i j : Str} : cmp .Eq (.str i) (.str j) h = some (decide (i = j)) := rfl
theorem c_nes {i j : Str} : cmp .NotEq (.str i) (.str j) h = some (!decide (i = j)) := rfl
theorem c_in {a b : D} : cmp .In a b h = isin a b h := by cases a <;> cases b <;> rfl
theorem c_ni {a b : D} : cmp .NotIn a b h = (isin a b h).map (!·) := by cases a <;> cases b <;> rfl
theorem newl_eq {xs : List D} : newl xs h = gd (xs.length ≤ sizeLine) (alloc (.lst xs) h) := by rw [gd_intro]; rfl
theorem newt_eq {xs : List D} : newt xs h = gd (xs.length ≤ sizeLine) (.ok (.tup xs) h) := by rw [gd_intro]; rfl
theorem s_str {z : Str} {i : Int} : Ly.sub (.str z) (.int i) h = gd (z.length ≤ sizeLine) (opt ((atI z.cps.toList i).map fun c => D.str ⟨#[c]⟩) h) := by
  simp only [Ly.sub, gd_intro]
  cases atI z.cps.toList i <;> rfl
theorem s_ref {n : Nat} {i : Int} : Ly.sub (.ref n) (.int i) h = opt ((itO h[n]?).bind fun xs => atI xs i) h := by
  simp only [Ly.sub]
  rw [items_ref]
  cases itO h[n]? with
  | none => rfl
  | some xs => simp only [Option.bind]; cases atI xs i <;> rfl
theorem s_tup {xs : List D} {i : Int} : Ly.sub (.tup xs) (.int i) h = opt (atI xs i) h := by
  simp only [Ly.sub, items]
  cases atI xs i <;> rfl
theorem bl_lens {x : Str} : blt "len" [.str x] h = gd (x.length ≤ sizeLine) (.ok (.int x.length) h) := by rw [gd_intro]; rfl
theorem bl_lent {xs : List D} : blt "len" [.tup xs] h = .ok (.int xs.length) h := rfl
theorem bl_lenr {n : Nat} : blt "len" [.ref n] h = (opt (itO h[n]?) h).bind fun (xs : List D) h => .ok (.int xs.length) h := by
  show (match items h (.ref n) with | some (xs : List D) => Re.ok (D.int xs.length) h | none => Re.no) = _
  rw [items_ref]
  cases itO h[n]? <;> rfl
theorem bl_list {d : D} : blt "list" [d] h = (opt (items h d) h).bind fun xs h => alloc (.lst xs) h := by
  show (match items h d with | some xs => alloc (.lst xs) h | none => .no) = _
  cases items h d <;> rfl
theorem bl_all {n : Nat} : blt "all" [.ref n] h = (opt ((itO h[n]?).bind isbs) h).bind fun (bs : List Bool) h => .ok (.bl (bs.all id)) h := by
  show (match (items h (.ref n)).bind isbs with | some bs => Re.ok (D.bl (bs.all id)) h | none => .no) = _
  rw [items_ref]
  cases (itO h[n]?).bind isbs <;> rfl
theorem bl_int {i : Int} : blt "int" [.int i] h = .ok (.int i) h := rfl
theorem bl_repr {n : Nat} : blt "repr" [.ref n] h = (opt (dat h 20 (.ref n)) h).bind fun (p : PyData) h => gd (p.shown.length ≤ sizeLine) (.ok (.str p.shown) h) := by
  show (match dat h 20 (.ref n) with | some p => if p.shown.length ≤ sizeLine then Re.ok (D.str p.shown) h else .no | none => .no) = _
  simp only [gd_intro]
  cases dat h 20 (.ref n) <;> rfl
theorem m_join {z : Str} {d : D} : meth "str.join" (.str z) [d] h = (opt ((items h d).bind isstrs) h).bind fun (ys : List Str) h => gd ((ys.map (·.length)).sum + ys.length * z.length ≤ 16777216) (.ok (.str (Txt.join z ys)) h) := by
  show (match (items h d).bind isstrs with | some (ys : List Str) => if (ys.map (fun (y : Str) => y.length)).sum + ys.length * z.length ≤ 16777216 then Re.ok (D.str (Txt.join z ys)) h else Re.no | none => Re.no) = _
  simp only [gd_intro]
  cases (items h d).bind isstrs <;> rfl
noncomputable def appO (h : IH) (n : Nat) (d : D) : Option O → Re D
  | some (.lst xs) => gd (xs.length < sizeLine) (.ok .non (h.set n (.lst (xs ++ [d]))))
  | _ => .no
theorem appO_l {n : Nat} {d : D} {xs : List D} : appO h n d (some (.lst xs)) = gd (xs.length < sizeLine) (.ok .non (h.set n (.lst (xs ++ [d])))) := rfl
theorem m_app {n : Nat} {d : D} : meth "list.append" (.ref n) [d] h = appO h n d h[n]? := by
  show (match h[n]? with | some (.lst xs) => if xs.length < sizeLine then Re.ok D.non (h.set n (.lst (xs ++ [d]))) else .no | _ => .no) = _
  cases h[n]? with
  | none => rfl
  | some o =>
    cases o with
    | lst xs => simp only [appO, gd_intro]
    | _ => rfl
end
end U
end Ly
/-! LwC: what stays behind a step; the laws' bag, loops, lists made by a loop. -/
namespace Ly
open PySem PySem.Spec PyProof.Rows L2
namespace U
/-- all but the object at b stays as it is -/
def Fr (b : Nat) (h h' : IH) : Prop := ∀ n o, n ≠ b → h[n]? = some o → h'[n]? = some o
theorem Fr.rfl {b : Nat} {h : IH} : Fr b h h := fun _ _ _ e => e
theorem Fr.trans {b : Nat} {h h1 h2 : IH} (f : Fr b h h1) (k : Fr b h1 h2) : Fr b h h2 := fun n o q e => k n o q (f n o q e)
structure Bag (b s : Nat) (h : IH) : Prop where
  ne : s ≠ b
  bag : ∃ i c seed m : Int, h[b]? = some (bagO s i c seed m) ∧ 0 ≤ i ∧ 0 ≤ c ∧ 0 ≤ seed ∧ seed < 2147483587
  scr : ∃ xs, h[s]? = some (.lst xs) ∧ ∀ x ∈ xs, ∃ n, x = D.int n
theorem lt_of {h : IH} {n : Nat} {o : O} (e : h[n]? = some o) : n < h.length := (List.getElem?_eq_some_iff.mp e).1
theorem Bag.lt {b s : Nat} {h : IH} (B : Bag b s h) : b < h.length := by
  obtain ⟨i, c, seed, m, e, _⟩ := B.bag
  exact lt_of e
theorem Bag.slt {b s : Nat} {h : IH} (B : Bag b s h) : s < h.length := by
  obtain ⟨xs, e, _⟩ := B.scr
  exact lt_of e
theorem get_app {h : IH} {n : Nat} {o o' : O} (e : h[n]? = some o) : (h ++ [o'])[n]? = some o := by
  rw [List.getElem?_append_left (lt_of e), e]
theorem get_new {h : IH} {o' : O} : (h ++ [o'])[h.length]? = some o' := List.getElem?_concat_length
theorem Bag.keep {b s : Nat} {h h' : IH} (B : Bag b s h) (kb : h'[b]? = h[b]?) (ks : h'[s]? = h[s]?) : Bag b s h' :=
  ⟨B.ne, by rw [kb]; exact B.bag, by rw [ks]; exact B.scr⟩
theorem Bag.app {b s : Nat} {h : IH} {o : O} (B : Bag b s h) : Bag b s (h ++ [o]) :=
  B.keep (List.getElem?_append_left B.lt) (List.getElem?_append_left B.slt)
theorem Bag.set {b s n : Nat} {h : IH} {o : O} (B : Bag b s h) (h1 : n ≠ b) (h2 : n ≠ s) : Bag b s (h.set n o) :=
  B.keep (List.getElem?_set_ne h1) (List.getElem?_set_ne h2)
theorem Fr.app {b : Nat} {h : IH} {o : O} : Fr b h (h ++ [o]) := fun n o' _ e => get_app e
theorem wp_alloc {b s : Nat} {h : IH} {o : O} {Q : D → IH → Prop} (B : Bag b s h) (q : ∀ n h', n ≠ b → h'[n]? = some o → Bag b s h' → Fr b h h' → Q (.ref n) h') : Wp (alloc o h) Q := by
  show Q (.ref h.length) (h ++ [o])
  have := B.lt
  exact q _ _ (by omega) get_new B.app Fr.app
section
variable {b s : Nat} {h : IH} {tb : Str → Option Fn} {gl : Str → Option D} {k : Nat}
theorem wp_draw {many : Int} {Q : D → IH → Prop} (ht : tb "_law_draw" = some drawFn) (B : Bag b s h) (m0 : 0 < many) (m1 : many < 1073741824) (q : ∀ r h', 0 ≤ r → r < many → Bag b s h' → Fr b h h' → Q (.int r) h') : Wp (run tb gl (k + 1) "_law_draw" [.ref b, .int many] h) Q := by
  obtain ⟨i, c, seed, m, eb, h0, h1, h2, h3⟩ := B.bag
  obtain ⟨xs, es, hx⟩ := B.scr
  obtain ⟨r, i', c', seed', m', e, r0, r1, g0, g1, g2, g3⟩ := draw_run (gl := gl) (k := k) ht eb es B.ne hx h0 h1 h2 h3 m0 m1
  rw [e]
  exact q r _ r0 r1 ⟨B.ne, ⟨i', c', seed', m', set_get B.lt, g0, g1, g2, g3⟩, ⟨xs, (set_get_ne B.ne).trans es, hx⟩⟩ (fun n o hn en => (set_get_ne hn).trans en)
def ofFn : Fn := ⟨2, 2, (.cons (.ret (.sub (.var 1) (.call "_law_draw" (.cons (.var 0) (.cons (.blt "len" (.cons (.var 1) .nil)) .nil))))) .nil)⟩
theorem atI_ok {α : Type} {xs : List α} {r : Int} (h0 : 0 ≤ r) (h1 : r < xs.length) : ∃ x, x ∈ xs ∧ atI xs r = some x := by
  have hi : r.toNat < xs.length := by omega
  refine ⟨xs[r.toNat], List.getElem_mem hi, ?_⟩
  unfold atI ixN
  rw [if_pos h0, if_pos h1]
  exact List.getElem?_eq_getElem hi
theorem wp_ofS {z : Str} {Q : D → IH → Prop} (hd : tb "_law_draw" = some drawFn) (ht : tb "_law_of" = some ofFn) (B : Bag b s h) (z0 : 0 < z.length) (z1 : z.length < 1000000) (q : ∀ c h', c ∈ z.cps.toList → Bag b s h' → Fr b h h' → Q (.str ⟨#[c]⟩) h') : Wp (run tb gl (k + 2) "_law_of" [.ref b, .str z] h) Q := by
  rw [run_eq ht rfl (by decide)]
  have hz : z.length ≤ sizeLine := by rw [sl_line]; omega
  simp only [ofFn, wp_gd, wp_bind, wp_ok, fill_z, fill_n, fill_c, lk_z, lk_s, st_z, st_s, bi_nm, map_s, bind_s, xs_cons, xs_nil, x_asg, x_iset, x_expr, x_ret, x_retn, x_brk, x_cnt, x_pass, x_ife, x_for, seqS_n, seqS_r, seqS_b, seqS_c, outR_r, outR_n, opt_s, setR_r, e_var, e_int, e_str, e_bl, e_non, e_glo, e_tup, e_lst, e_bin, e_neg, e_cmp, e_chain, e_not, e_and, e_or, e_ife, e_call, e_callk, e_blt, e_isi, e_sub, e_slc, e_lc, e_meth, es_nil, es_cons, eo_none, eo_some, et_none, et_some, ei_seq, ei_rng1, intR_i, negR_i, rng1_i, wp_br, br_t, br_f, ret1_s, notR_s, itO_l, itO_f, tr_bl, tr_int, tr_non, b_add, b_sub, b_mul, b_div, b_mod, b_pow, b_sadd, b_tadd, c_lt, c_le, c_gt, c_ge, c_eq, c_ne, c_eqs, c_nes, c_in, c_ni, newl_eq, newt_eq, s_ref, s_tup, s_str, bl_lens, bl_lent, bl_lenr, bl_all, bl_int, bl_list, bl_repr, m_join, m_app, appO_l, sq_t, sq_s, sq_r, items_ref, it_t, bind_ok, gd_t, br_and1, br_and2, br_or1, gd_bind, repO_l, b_rep, ladO_l, b_ladd, hz, true_and]
  refine wp_draw (s := s) hd B (by omega) (by omega) fun r h' r0 r1 B' F => ?_
  obtain ⟨c, hc, e⟩ := atI_ok (xs := z.cps.toList) (r := r) r0 (by rw [Array.length_toList]; exact r1)
  simp only [wp_gd, wp_bind, wp_ok, fill_z, fill_n, fill_c, lk_z, lk_s, st_z, st_s, bi_nm, map_s, bind_s, xs_cons, xs_nil, x_asg, x_iset, x_expr, x_ret, x_retn, x_brk, x_cnt, x_pass, x_ife, x_for, seqS_n, seqS_r, seqS_b, seqS_c, outR_r, outR_n, opt_s, setR_r, e_var, e_int, e_str, e_bl, e_non, e_glo, e_tup, e_lst, e_bin, e_neg, e_cmp, e_chain, e_not, e_and, e_or, e_ife, e_call, e_callk, e_blt, e_isi, e_sub, e_slc, e_lc, e_meth, es_nil, es_cons, eo_none, eo_some, et_none, et_some, ei_seq, ei_rng1, intR_i, negR_i, rng1_i, wp_br, br_t, br_f, ret1_s, notR_s, itO_l, itO_f, tr_bl, tr_int, tr_non, b_add, b_sub, b_mul, b_div, b_mod, b_pow, b_sadd, b_tadd, c_lt, c_le, c_gt, c_ge, c_eq, c_ne, c_eqs, c_nes, c_in, c_ni, newl_eq, newt_eq, s_ref, s_tup, s_str, bl_lens, bl_lent, bl_lenr, bl_all, bl_int, bl_list, bl_repr, m_join, m_app, appO_l, sq_t, sq_s, sq_r, items_ref, it_t, bind_ok, gd_t, br_and1, br_and2, br_or1, gd_bind, repO_l, b_rep, ladO_l, b_ladd, hz, e, true_and]
  exact q c h' hc B' F
theorem wp_ofL {xs : List D} {n : Nat} {Q : D → IH → Prop} (hd : tb "_law_draw" = some drawFn) (ht : tb "_law_of" = some ofFn) (B : Bag b s h) (e : h[n]? = some (.lst xs)) (hn : n ≠ b) (z0 : 0 < xs.length) (z1 : xs.length < 1000000) (q : ∀ c h', c ∈ xs → Bag b s h' → Fr b h h' → Q c h') : Wp (run tb gl (k + 2) "_law_of" [.ref b, .ref n] h) Q := by
  rw [run_eq ht rfl (by decide)]
  simp only [ofFn, wp_gd, wp_bind, wp_ok, fill_z, fill_n, fill_c, lk_z, lk_s, st_z, st_s, bi_nm, map_s, bind_s, xs_cons, xs_nil, x_asg, x_iset, x_expr, x_ret, x_retn, x_brk, x_cnt, x_pass, x_ife, x_for, seqS_n, seqS_r, seqS_b, seqS_c, outR_r, outR_n, opt_s, setR_r, e_var, e_int, e_str, e_bl, e_non, e_glo, e_tup, e_lst, e_bin, e_neg, e_cmp, e_chain, e_not, e_and, e_or, e_ife, e_call, e_callk, e_blt, e_isi, e_sub, e_slc, e_lc, e_meth, es_nil, es_cons, eo_none, eo_some, et_none, et_some, ei_seq, ei_rng1, intR_i, negR_i, rng1_i, wp_br, br_t, br_f, ret1_s, notR_s, itO_l, itO_f, tr_bl, tr_int, tr_non, b_add, b_sub, b_mul, b_div, b_mod, b_pow, b_sadd, b_tadd, c_lt, c_le, c_gt, c_ge, c_eq, c_ne, c_eqs, c_nes, c_in, c_ni, newl_eq, newt_eq, s_ref, s_tup, s_str, bl_lens, bl_lent, bl_lenr, bl_all, bl_int, bl_list, bl_repr, m_join, m_app, appO_l, sq_t, sq_s, sq_r, items_ref, it_t, bind_ok, gd_t, br_and1, br_and2, br_or1, gd_bind, repO_l, b_rep, ladO_l, b_ladd, e]
  refine wp_draw (s := s) hd B (by omega) (by omega) fun r h' r0 r1 B' F => ?_
  obtain ⟨c, hc, e2⟩ := atI_ok (xs := xs) (r := r) r0 r1
  simp only [wp_gd, wp_bind, wp_ok, fill_z, fill_n, fill_c, lk_z, lk_s, st_z, st_s, bi_nm, map_s, bind_s, xs_cons, xs_nil, x_asg, x_iset, x_expr, x_ret, x_retn, x_brk, x_cnt, x_pass, x_ife, x_for, seqS_n, seqS_r, seqS_b, seqS_c, outR_r, outR_n, opt_s, setR_r, e_var, e_int, e_str, e_bl, e_non, e_glo, e_tup, e_lst, e_bin, e_neg, e_cmp, e_chain, e_not, e_and, e_or, e_ife, e_call, e_callk, e_blt, e_isi, e_sub, e_slc, e_lc, e_meth, es_nil, es_cons, eo_none, eo_some, et_none, et_some, ei_seq, ei_rng1, intR_i, negR_i, rng1_i, wp_br, br_t, br_f, ret1_s, notR_s, itO_l, itO_f, tr_bl, tr_int, tr_non, b_add, b_sub, b_mul, b_div, b_mod, b_pow, b_sadd, b_tadd, c_lt, c_le, c_gt, c_ge, c_eq, c_ne, c_eqs, c_nes, c_in, c_ni, newl_eq, newt_eq, s_ref, s_tup, s_str, bl_lens, bl_lent, bl_lenr, bl_all, bl_int, bl_list, bl_repr, m_join, m_app, appO_l, sq_t, sq_s, sq_r, items_ref, it_t, bind_ok, gd_t, br_and1, br_and2, br_or1, gd_bind, repO_l, b_rep, ladO_l, b_ladd, F _ _ hn e, e2]
  exact q c h' hc B' F
def openFn (seed : Int) : Fn := ⟨1, 1, (.cons (.ret (.lst (.cons (.blt "list" (.cons (.slc (.var 0) .none (.some (.int 63))) .nil)) (.cons (.int 0) (.cons (.int 0) (.cons (.int seed) (.cons (.int 0) .nil))))))) .nil)⟩
theorem slc_fro {n : Nat} {xs : List D} {lo hi : Option Int} (e : h[n]? = some (.fro xs)) : Ly.slc (.ref n) lo hi h = alloc (.lst (cutD xs lo hi)) h := by
  simp only [Ly.slc]
  rw [items_ref, e]
  rfl
theorem slc_lst {n : Nat} {xs : List D} {lo hi : Option Int} (e : h[n]? = some (.lst xs)) : Ly.slc (.ref n) lo hi h = alloc (.lst (cutD xs lo hi)) h := by
  simp only [Ly.slc]
  rw [items_ref, e]
  rfl
theorem sl_small {n : Nat} (h : n ≤ 1000000) : n ≤ sizeLine := by rw [sl_line]; omega
theorem mem_cutD {xs : List D} {lo hi : Option Int} {x : D} (m : x ∈ cutD xs lo hi) : x ∈ xs := List.mem_of_mem_drop (List.mem_of_mem_take m)
theorem wp_open {ns : List Int} {seed : Int} {Q : D → IH → Prop} (ht : tb "_law_open" = some (openFn seed)) (s0 : 0 ≤ seed) (s1 : seed < 2147483587) (q : ∀ h', Bag 3 2 h' → Q (.ref 3) h') : Wp (run tb gl (k + 1) "_law_open" [.ref 0] [.fro (ns.map D.int)]) Q := by
  rw [run_eq ht rfl (Nat.le_refl _)]
  have e0 : ([.fro (ns.map D.int)] : IH)[0]? = some (.fro (ns.map D.int)) := rfl
  simp only [openFn, wp_gd, wp_bind, wp_ok, fill_z, fill_n, fill_c, lk_z, lk_s, st_z, st_s, bi_nm, map_s, bind_s, xs_cons, xs_nil, x_asg, x_iset, x_expr, x_ret, x_retn, x_brk, x_cnt, x_pass, x_ife, x_for, seqS_n, seqS_r, seqS_b, seqS_c, outR_r, outR_n, opt_s, setR_r, e_var, e_int, e_str, e_bl, e_non, e_glo, e_tup, e_lst, e_bin, e_neg, e_cmp, e_chain, e_not, e_and, e_or, e_ife, e_call, e_callk, e_blt, e_isi, e_sub, e_slc, e_lc, e_meth, es_nil, es_cons, eo_none, eo_some, et_none, et_some, ei_seq, ei_rng1, intR_i, negR_i, rng1_i, wp_br, br_t, br_f, ret1_s, notR_s, itO_l, itO_f, tr_bl, tr_int, tr_non, b_add, b_sub, b_mul, b_div, b_mod, b_pow, b_sadd, b_tadd, c_lt, c_le, c_gt, c_ge, c_eq, c_ne, c_eqs, c_nes, c_in, c_ni, newl_eq, newt_eq, s_ref, s_tup, s_str, bl_lens, bl_lent, bl_lenr, bl_all, bl_int, bl_list, bl_repr, m_join, m_app, appO_l, sq_t, sq_s, sq_r, items_ref, it_t, bind_ok, gd_t, br_and1, br_and2, br_or1, gd_bind, repO_l, b_rep, ladO_l, b_ladd]
  rw [slc_fro e0]
  show _ ∧ _
  refine ⟨sl_small (by simp), ?_⟩
  refine q _ ⟨by decide, ⟨0, 0, seed, 0, rfl, by omega, by omega, s0, s1⟩, ⟨_, rfl, fun x m => ?_⟩⟩
  have := mem_cutD m
  rw [List.mem_map] at this
  obtain ⟨n, _, rfl⟩ := this
  exact ⟨n, rfl⟩
def sameFn : Fn := ⟨2, 2, (.cons (.ret (.cmp .Eq (.blt "repr" (.cons (.var 0) .nil)) (.blt "repr" (.cons (.var 1) .nil)))) .nil)⟩
theorem wp_same {n m : Nat} {p : PyData} {Q : D → IH → Prop} (ht : tb "_law_same" = some sameFn) (e1 : dat h 20 (.ref n) = some p) (e2 : dat h 20 (.ref m) = some p) (l : p.shown.length ≤ sizeLine) (q : Q (.bl true) h) : Wp (run tb gl (k + 1) "_law_same" [.ref n, .ref m] h) Q := by
  rw [run_eq ht rfl (by decide)]
  simp only [sameFn, wp_gd, wp_bind, wp_ok, fill_z, fill_n, fill_c, lk_z, lk_s, st_z, st_s, bi_nm, map_s, bind_s, xs_cons, xs_nil, x_asg, x_iset, x_expr, x_ret, x_retn, x_brk, x_cnt, x_pass, x_ife, x_for, seqS_n, seqS_r, seqS_b, seqS_c, outR_r, outR_n, opt_s, setR_r, e_var, e_int, e_str, e_bl, e_non, e_glo, e_tup, e_lst, e_bin, e_neg, e_cmp, e_chain, e_not, e_and, e_or, e_ife, e_call, e_callk, e_blt, e_isi, e_sub, e_slc, e_lc, e_meth, es_nil, es_cons, eo_none, eo_some, et_none, et_some, ei_seq, ei_rng1, intR_i, negR_i, rng1_i, wp_br, br_t, br_f, ret1_s, notR_s, itO_l, itO_f, tr_bl, tr_int, tr_non, b_add, b_sub, b_mul, b_div, b_mod, b_pow, b_sadd, b_tadd, c_lt, c_le, c_gt, c_ge, c_eq, c_ne, c_eqs, c_nes, c_in, c_ni, newl_eq, newt_eq, s_ref, s_tup, s_str, bl_lens, bl_lent, bl_lenr, bl_all, bl_int, bl_list, bl_repr, m_join, m_app, appO_l, sq_t, sq_s, sq_r, items_ref, it_t, bind_ok, gd_t, br_and1, br_and2, br_or1, gd_bind, repO_l, b_rep, ladO_l, b_ladd, e1, e2, l, decide_true, true_and]
  exact q
end
theorem wp_cut {g : G} {τ : List (Option D)} {h : IH} {st : S} {ss : Ss} {Q : Fl → IH → Prop} (P : List (Option D) → IH → Prop) (hx : Wp (ex g st τ h) (fun r h' => match r with | .nx τ' => P τ' h' | r => Q r h')) (ht : ∀ τ' h', P τ' h' → Wp (exs g ss τ' h') Q) : Wp (exs g (.cons st ss) τ h) Q := by
  rw [xs_cons, wp_bind]
  refine hx.mono fun r h' p => ?_
  cases r with
  | nx τ' => exact ht _ _ p
  | _ => exact p
/-- a list made by a loop -/
theorem wp_lc0 {b s : Nat} {j : J} {turn : D → IH → Re (Option D)} {h : IH} {Q : D → IH → Prop} {f : Nat} (item : Nat → Option D) (I : Nat → List D → Prop) (B : Bag b s h)
    (hg : ∀ i h', Fr b h h' → j.get i h' = some (item i)) (hf : item f = none) (i0 : I 0 [])
    (step : ∀ i acc d h1, item i = some d → I i acc → Bag b s h1 → Fr b h h1 → Wp (turn d h1) (fun o h2 => Bag b s h2 ∧ Fr b h1 h2 ∧ match o with | none => I (i + 1) acc | some y => acc.length < sizeLine ∧ I (i + 1) (acc ++ [y])))
    (fin : ∀ i acc n h', item i = none → I i acc → n ≠ b → h'[n]? = some (.lst acc) → Bag b s h' → Fr b h h' → Q (.ref n) h') :
    Wp (lcLoop j turn h.length (f + 1) 0 (h ++ [.lst []])) Q := by
  have key : ∀ (f' i : Nat) (acc : List D) (h1 : IH), (∃ m, m ≤ i + f' ∧ i ≤ m ∧ item m = none) → I i acc → h1[h.length]? = some (.lst acc) → Bag b s h1 → Fr b h h1 → Wp (lcLoop j turn h.length (f' + 1) i h1) Q := by
    intro f'
    induction f' with
    | zero =>
      intro i acc h1 hm hi e B1 F1
      obtain ⟨m, h1', h2', h3'⟩ := hm
      have : m = i := by omega
      subst this
      unfold lcLoop
      rw [hg _ _ F1, h3']
      exact fin m acc _ _ h3' hi (by have := B.lt; omega) e B1 F1
    | succ f' ih =>
      intro i acc h1 hm hi e B1 F1
      unfold lcLoop
      rw [hg _ _ F1]
      cases hd : item i with
      | none => exact fin i acc _ _ hd hi (by have := B.lt; omega) e B1 F1
      | some d =>
        dsimp only
        have hm' : ∃ m, m ≤ i + 1 + f' ∧ i + 1 ≤ m ∧ item m = none := by
          obtain ⟨m, h1', h2', h3'⟩ := hm
          refine ⟨m, by omega, ?_, h3'⟩
          by_cases hmi : m = i
          · subst hmi; rw [hd] at h3'; cases h3'
          · omega
        obtain ⟨o, h2, er, B2, F2, r⟩ := (step i acc d h1 hd hi B1 F1).at
        rw [er]
        have e2 : h2[h.length]? = some (.lst acc) := F2 _ _ (by have := B.lt; omega) e
        cases o with
        | none => exact ih _ _ _ hm' r e2 B2 (F1.trans F2)
        | some y =>
          dsimp only
          rw [e2]
          dsimp only
          rw [if_pos r.1]
          refine ih _ _ _ hm' r.2 (List.getElem?_set_self (lt_of e2)) (B2.set (by have := B.lt; omega) (by have := B.slt; omega)) ?_
          intro n o hn en
          rw [List.getElem?_set_ne (by have := lt_of en; omega)]
          exact F2 _ _ hn (F1 _ _ hn en)
  exact key f 0 [] (h ++ [.lst []]) ⟨f, by omega, by omega, hf⟩ i0 get_new B.app Fr.app
/-- a list that one expression makes of each of some values, with nothing changed -/
theorem lc_pure {j : J} {turn : D → IH → Re (Option D)} {h : IH} {xs : List D} (y : D → D) (hg : ∀ (i : Nat) (h' : IH), (∀ (n : Nat) (o : O), h[n]? = some o → h'[n]? = some o) → j.get i h' = some xs[i]?) (hl : xs.length < sizeLine)
    (step : ∀ (d : D) (h' : IH), d ∈ xs → (∀ (n : Nat) (o : O), h[n]? = some o → h'[n]? = some o) → turn d h' = .ok (some (y d)) h') :
    lcLoop j turn h.length (xs.length + 1) 0 (h ++ [.lst []]) = .ok (.ref h.length) (h ++ [.lst (xs.map y)]) := by
  have key : ∀ (f i : Nat), i + f = xs.length → lcLoop j turn h.length (f + 1) i (h ++ [.lst ((xs.take i).map y)]) = .ok (.ref h.length) (h ++ [.lst (xs.map y)]) := by
    intro f
    induction f with
    | zero =>
      intro i hi
      unfold lcLoop
      rw [hg i _ (fun n o e => get_app e)]
      have : xs[i]? = none := List.getElem?_eq_none (by omega)
      rw [this]
      dsimp only
      rw [List.take_of_length_le (by omega)]
    | succ f ih =>
      intro i hi
      unfold lcLoop
      rw [hg i _ (fun n o e => get_app e)]
      have hlt : i < xs.length := by omega
      rw [List.getElem?_eq_getElem hlt]
      dsimp only
      rw [step xs[i] _ (List.getElem_mem hlt) (fun n o e => get_app e)]
      dsimp only
      rw [get_new]
      dsimp only
      rw [if_pos (by rw [List.length_map, List.length_take]; omega)]
      have : (h ++ [O.lst ((xs.take i).map y)]).set h.length (.lst ((xs.take i).map y ++ [y xs[i]])) = h ++ [.lst ((xs.take (i + 1)).map y)] := by
        rw [List.set_append_right _ _ (Nat.le_refl _), Nat.sub_self, List.set_cons_zero, ← List.take_append_getElem hlt, List.map_append]
        rfl
      rw [this]
      exact ih (i + 1) (by omega)
  exact key xs.length 0 (by omega)
/-- a loop over numbers -/
theorem wp_forR {lo : Int} {n : Nat} {turn : D → List (Option D) → IH → Re Fl} {τ : List (Option D)} {h : IH} {Q : Fl → IH → Prop} (I : Nat → List (Option D) → IH → Prop) (i0 : I 0 τ h)
    (step : ∀ i τ h, i < n → I i τ h → Wp (turn (.int (lo + i)) τ h) (fun r h' => match r with | .nx τ' => I (i + 1) τ' h' | .ct τ' => I (i + 1) τ' h' | .bk τ' => Q (.nx τ') h' | .rt d => Q (.rt d) h'))
    (fin : ∀ τ h, I n τ h → Q (.nx τ) h) : Wp (forLoop (.rng lo n) turn (n + 1) 0 τ h) Q := by
  have key : ∀ (f i : Nat) (τ : List (Option D)) (h : IH), i + f = n → I i τ h → Wp (forLoop (.rng lo n) turn (f + 1) i τ h) Q := by
    intro f
    induction f with
    | zero =>
      intro i τ h hi ii
      have : i = n := by omega
      subst this
      unfold forLoop J.get
      simp only [Nat.lt_irrefl, if_false]
      exact fin τ h ii
    | succ f ih =>
      intro i τ h hi ii
      unfold forLoop J.get
      simp only [show i < n by omega, if_true]
      obtain ⟨r, h', e, p⟩ := (step i τ h (by omega) ii).at
      rw [e]
      cases r with
      | nx τ' => exact ih _ _ _ (by omega) p
      | ct τ' => exact ih _ _ _ (by omega) p
      | bk τ' => exact p
      | rt d => exact p
  exact key n 0 τ h (by omega) i0
end U
end Ly
/-! LwD: texts, lists made of others, values that are no strings. -/
namespace Ly
open PySem PySem.Spec PyProof.Rows L2
namespace U
/-- new objects only -/
def Gr (h h' : IH) : Prop := ∃ l, h' = h ++ l
theorem Gr.same {h : IH} : Gr h h := ⟨[], (List.append_nil h).symm⟩
theorem Gr.trans {h h1 h2 : IH} : Gr h h1 → Gr h1 h2 → Gr h h2 := by
  rintro ⟨l, rfl⟩ ⟨m, rfl⟩
  exact ⟨l ++ m, List.append_assoc ..⟩
theorem Gr.get {h h' : IH} {n : Nat} {o : O} (g : Gr h h') (e : h[n]? = some o) : h'[n]? = some o := by
  obtain ⟨l, rfl⟩ := g
  rw [List.getElem?_append_left (lt_of e), e]
theorem Gr.fr {h h' : IH} {b : Nat} (g : Gr h h') : Fr b h h' := fun n o _ e => g.get e
theorem Gr.bag {h h' : IH} {b s : Nat} (g : Gr h h') (B : Bag b s h) : Bag b s h' := by
  obtain ⟨l, rfl⟩ := g
  exact B.keep (List.getElem?_append_left B.lt) (List.getElem?_append_left B.slt)
theorem Gr.app {h : IH} {o : O} : Gr h (h ++ [o]) := ⟨[o], rfl⟩
theorem isbs_map {α : Type} {p : α → Bool} : ∀ {as : List α}, isbs (as.map fun a => D.bl (p a)) = some (as.map p)
  | [] => rfl
  | a :: as => by
    show (isbs (as.map fun a => D.bl (p a))).map _ = _
    rw [isbs_map]
    rfl
theorem isstrs_map {α : Type} {p : α → Str} : ∀ {as : List α}, isstrs (as.map fun a => D.str (p a)) = some (as.map p)
  | [] => rfl
  | a :: as => by
    show (isstrs (as.map fun a => D.str (p a))).map _ = _
    rw [isstrs_map]
    rfl
theorem all_map {α : Type} {p : α → Bool} {as : List α} : (as.map p).all id = as.all p := by
  rw [List.all_map]
  rfl
theorem lc_its {α : Type} {as : List α} {f : α → D} {turn : D → IH → Re (Option D)} {h : IH} (y : α → D) (hl : as.length < sizeLine)
    (step : ∀ (a : α) (h' : IH), a ∈ as → Gr h h' → turn (f a) h' = .ok (some (y a)) h') :
    lcLoop (.its (as.map f)) turn h.length (J.most (.its (as.map f)) h + 1) 0 (h ++ [.lst []]) = .ok (.ref h.length) (h ++ [.lst (as.map y)]) := by
  have key : ∀ (k i : Nat), i + k = as.length → lcLoop (.its (as.map f)) turn h.length (k + 1) i (h ++ [.lst ((as.take i).map y)]) = .ok (.ref h.length) (h ++ [.lst (as.map y)]) := by
    intro k
    induction k with
    | zero =>
      intro i hi
      unfold lcLoop J.get
      dsimp only
      have : (as.map f)[i]? = none := List.getElem?_eq_none (by simp; omega)
      rw [this]
      dsimp only
      rw [List.take_of_length_le (by omega)]
    | succ k ih =>
      intro i hi
      unfold lcLoop J.get
      dsimp only
      have hlt : i < as.length := by omega
      rw [List.getElem?_map, List.getElem?_eq_getElem hlt]
      dsimp only [Option.map]
      rw [step as[i] _ (List.getElem_mem hlt) Gr.app]
      dsimp only
      rw [get_new]
      dsimp only
      rw [if_pos (by rw [List.length_map, List.length_take]; omega)]
      have : (h ++ [O.lst ((as.take i).map y)]).set h.length (.lst ((as.take i).map y ++ [y as[i]])) = h ++ [.lst ((as.take (i + 1)).map y)] := by
        rw [List.set_append_right _ _ (Nat.le_refl _), Nat.sub_self, List.set_cons_zero, ← List.take_append_getElem hlt, List.map_append]
        rfl
      rw [this]
      exact ih (i + 1) (by omega)
  have := key as.length 0 (by omega)
  have e : J.most (.its (as.map f)) h = as.length := List.length_map ..
  rw [e]
  exact this
theorem wp_eq {α : Type} {r : Re α} {Q : α → IH → Prop} {a : α} {h : IH} (e : r = .ok a h) (q : Q a h) : Wp r Q := by
  rw [e]
  exact q
-- texts
theorem len_cut {z : Str} {lo hi : Option Int} : (cutS z lo hi).length ≤ z.length := by
  show ((z.cps.toList.drop _).take _).toArray.size ≤ z.cps.size
  rw [List.size_toArray, List.length_take, List.length_drop, Array.length_toList]
  omega
theorem len_add {x y : Str} : (x ++ y).length = x.length + y.length := by
  show (x.cps ++ y.cps).size = _
  rw [Array.size_append]
  rfl
theorem len_one {c : Nat} : (⟨#[c]⟩ : Str).length = 1 := id rfl
theorem len_join_nil : ∀ {ys : List Str}, (Txt.join (Str.ofString "") ys).length = (ys.map (·.length)).sum := by
  have key : ∀ (ys : List Str) (a : Array Nat), (ys.foldl (fun acc p => acc ++ (Str.ofString "").cps ++ p.cps) a).size = a.size + (ys.map (·.length)).sum := by
    intro ys
    induction ys with
    | nil => intro a; simp
    | cons y ys ih =>
      intro a
      rw [List.foldl_cons, ih, List.map_cons, List.sum_cons, Array.size_append, Array.size_append]
      show a.size + 0 + y.length + _ = _
      omega
  intro ys
  cases ys with
  | nil => rfl
  | cons y ys =>
    show (ys.foldl _ y.cps).size = _
    rw [key]
    rfl
theorem sum_ones : ∀ {cs : List Nat}, ((cs.map fun c => (⟨#[c]⟩ : Str)).map (·.length)).sum = cs.length
  | [] => rfl
  | c :: cs => by
    rw [List.map_cons, List.map_cons, List.sum_cons, sum_ones, List.length_cons]
    show 1 + _ = _
    omega
theorem isin_one {c : Nat} {z : Str} {h : IH} : isin (.str ⟨#[c]⟩) (.str z) h = some (decide (c ∈ z.cps.toList)) := rfl
def isS : D → Bool
  | .str _ => true
  | _ => false
/-- a value of which nothing is known but its type, and that texts are short -/
def Pl (b : Nat) (h : IH) : D → Prop
  | .str z => z.length ≤ 1000
  | .ref n => n ≠ b ∧ ∃ xs, h[n]? = some (.lst xs)
  | .glo _ => False
  | _ => True
theorem Pl.fr {b : Nat} {h h' : IH} {d : D} (p : Pl b h d) (F : Fr b h h') : Pl b h' d := by
  cases d with
  | ref n =>
    obtain ⟨q, xs, e⟩ := p
    exact ⟨q, xs, F _ _ q e⟩
  | _ => exact p
theorem Pl.gr {b : Nat} {h h' : IH} {d : D} (p : Pl b h d) (G : Gr h h') : Pl b h' d := p.fr G.fr
theorem isin_lst {a : D} {v : V} {n : Nat} {h : IH} {xs : List D} {vs : List V} (ha : a.sc = some v) (e : h[n]? = some (.lst xs)) (hv : scs xs = some vs) : isin a (.ref n) h = some (inV v vs) := by
  have ei : (items h (.ref n)).bind scs = some vs := by rw [items_ref, e]; exact hv
  have : isin a (.ref n) h = (match a.sc, (items h (.ref n)).bind scs with | some v, some vs => some (inV v vs) | _, _ => none) := by cases a <;> rfl
  rw [this, ha, ei]
theorem dat_lst {k n : Nat} {h : IH} {xs : List D} {ps : List PyData} (e : h[n]? = some (.lst xs)) (hp : datl (dat h k) xs = some ps) : dat h (k + 1) (.ref n) = some (.list ps) := by
  simp only [dat, e, hp]
  rfl
theorem Pl_str {b : Nat} {h : IH} {x : Str} (e : decide (x.length ≤ 1000) = true) : Pl b h (.str x) := by
  show x.length ≤ 1000
  exact of_decide_eq_true e
theorem kb1 : kitB "NoneType" "str" = some false := by decide
theorem kb2 : kitB "bool" "str" = some false := by decide
theorem kb3 : kitB "int" "str" = some false := by decide
theorem kb4 : kitB "str" "str" = some true := by decide
theorem kb5 : kitB "tuple" "str" = some false := by decide
theorem kb6 : kitB "list" "str" = some false := by decide
theorem Pl.isi {b : Nat} {h : IH} {d : D} (p : Pl b h d) : ((typ h d).bind fun s => kitB s "str") = some (isS d) := by
  cases d with
  | non => exact kb1
  | bl k => exact kb2
  | int k => exact kb3
  | str k => exact kb4
  | tup k => exact kb5
  | ref n =>
    obtain ⟨q, xs, e⟩ := p
    simp only [typ, e]
    exact kb6
  | glo x => exact p.elim
end U
end Ly
namespace K01
open PySem PySem.Spec PyProof.Rows L2 Ly
def top (i : Nat) : Stmt := PySem.Challenge.pw_outofuse_k01_names_and_words.main.body.getD i (.Pass ⟨0, 0, 0, 0⟩)
def f_is_word : Fi where
  name := "is_word"
  st := top 4
  N := ["value", "letter"]
  ps := ["value"]
  bd := (.cons (.ife (.or (.not (.isi (.var 0) "str")) (.not (.chain .LtE .LtE (.int 1) (.blt "len" (.cons (.var 0) .nil)) (.glo "MOST_LETTERS")))) (.cons (.ret (.bl false))
   .nil) .nil)
  (.cons (.ret (.blt "all" (.cons (.lc [1] (.nm 1) (.seq (.var 0)) .none (.cmp .In (.var 1) (.glo "LETTERS"))) .nil)))
  .nil))
def f_is_name : Fi where
  name := "is_name"
  st := top 5
  N := ["value"]
  ps := ["value"]
  bd := (.cons (.ret (.and (.call "is_word" (.cons (.var 0) .nil)) (.cmp .NotIn (.var 0) (.glo "RESERVED"))))
  .nil)
def f_law_open : Fi where
  name := "_law_open"
  st := top 7
  N := ["_law_script"]
  ps := ["_law_script"]
  bd := (.cons (.ret (.lst (.cons (.blt "list" (.cons (.slc (.var 0) .none (.some (.int 63))) .nil)) (.cons (.int 0) (.cons (.int 0) (.cons (.int 57951) (.cons (.int 0) .nil)))))))
  .nil)
def f_law_draw : Fi where
  name := "_law_draw"
  st := top 8
  N := ["_law_bag", "_law_many", "_law_seed", "_law_cell", "_law_digit"]
  ps := ["_law_bag", "_law_many"]
  bd := (.cons (.ife (.and (.cmp .Eq (.sub (.var 0) (.int 2)) (.int 0)) (.cmp .Lt (.sub (.var 0) (.int 1)) (.blt "len" (.cons (.sub (.var 0) (.int 0)) .nil)))) (.cons (.asg (.nm 3) (.sub (.sub (.var 0) (.int 0)) (.sub (.var 0) (.int 1))))
   (.cons (.iset (.var 0) (.int 1) (.bin .Add (.sub (.var 0) (.int 1)) (.int 1)))
   (.cons (.iset (.var 0) (.int 2) (.ife (.cmp .GtE (.var 3) (.bin .Pow (.int 10) (.int 18))) (.var 3) (.int 0)))
   (.cons (.iset (.var 0) (.int 3) (.bin .Mod (.blt "int" (.cons (.bin .Add (.bin .Add (.bin .Mult (.sub (.var 0) (.int 3)) (.int 40009)) (.bin .Mult (.bin .Mod (.blt "int" (.cons (.var 3) .nil)) (.int 2147483549)) (.int 311))) (.int 1019)) .nil)) (.int 2147483587)))
   .nil)))) .nil)
  (.cons (.ife (.cmp .Gt (.sub (.var 0) (.int 2)) (.int 0)) (.cons (.asg (.nm 4) (.bin .Mod (.blt "int" (.cons (.sub (.var 0) (.int 2)) .nil)) (.var 1)))
   (.cons (.iset (.var 0) (.int 2) (.bin .FloorDiv (.sub (.var 0) (.int 2)) (.var 1)))
   (.cons (.ret (.var 4))
   .nil))) .nil)
  (.cons (.iset (.var 0) (.int 4) (.bin .Add (.sub (.var 0) (.int 4)) (.int 1)))
  (.cons (.asg (.nm 2) (.sub (.var 0) (.int 3)))
  (.cons (.iset (.var 0) (.int 3) (.bin .Mod (.blt "int" (.cons (.bin .Add (.bin .Add (.bin .Add (.bin .Mult (.var 2) (.var 2)) (.bin .Mult (.int 70003) (.var 2))) (.bin .Mult (.int 7919) (.sub (.var 0) (.int 4)))) (.int 30013)) .nil)) (.int 2147483587)))
  (.cons (.ret (.bin .Mod (.blt "int" (.cons (.bin .Add (.bin .Add (.bin .FloorDiv (.sub (.var 0) (.int 3)) (.int 61)) (.bin .Mult (.var 2) (.int 33311))) (.sub (.var 0) (.int 4))) .nil)) (.var 1)))
  .nil))))))
def f_law_of : Fi where
  name := "_law_of"
  st := top 9
  N := ["_law_bag", "_law_things"]
  ps := ["_law_bag", "_law_things"]
  bd := (.cons (.ret (.sub (.var 1) (.call "_law_draw" (.cons (.var 0) (.cons (.blt "len" (.cons (.var 1) .nil)) .nil)))))
  .nil)
def f_law_same : Fi where
  name := "_law_same"
  st := top 10
  N := ["_law_found", "_law_due"]
  ps := ["_law_found", "_law_due"]
  bd := (.cons (.ret (.cmp .Eq (.blt "repr" (.cons (.var 0) .nil)) (.blt "repr" (.cons (.var 1) .nil))))
  .nil)
def f_law_any_odd : Fi where
  name := "_law_any_odd"
  st := top 11
  N := ["_law_bag"]
  ps := ["_law_bag"]
  bd := (.cons (.ret (.call "_law_of" (.cons (.var 0) (.cons (.lst (.cons .non (.cons (.bl true) (.cons (.neg (.int 1)) (.cons (.str "") (.cons (.str "A") (.cons (.str "a b") (.cons (.str "inside") (.cons (.str "removal") (.cons (.str "ninechars") (.cons (.tup .nil) (.cons (.lst .nil) (.cons (.tup (.cons (.str "a") .nil)) (.cons (.lst (.cons (.str "a") .nil)) (.cons (.bin .Pow (.int 10) (.int 20)) .nil))))))))))))))) .nil))))
  .nil)
def f_law : Fi where
  name := "law"
  st := top 12
  N := ["_law_script", "_law_bag", "_law_letters", "_law_turn", "_law_text", "_law_one", "_law_good", "_law_at", "_law_k", "_law_sign"]
  ps := ["_law_script"]
  bd := (.cons (.asg (.nm 1) (.call "_law_open" (.cons (.var 0) .nil)))
  (.cons (.asg (.nm 2) (.str "abcdefghijklmnopqrstuvwxyz"))
  (.cons (.for (.nm 3) (.rng (.cons (.int 8) .nil)) (.cons (.asg (.nm 4) (.meth "str.join" (.str "") (.cons (.lc [8] (.nm 8) (.rng (.cons (.call "_law_draw" (.cons (.var 1) (.cons (.int 12) .nil))) .nil)) .none (.call "_law_of" (.cons (.var 1) (.cons (.var 2) .nil)))) .nil)))
   (.cons (.ife (.cmp .Eq (.call "_law_draw" (.cons (.var 1) (.cons (.int 3) .nil))) (.int 0)) (.cons (.asg (.nm 7) (.call "_law_draw" (.cons (.var 1) (.cons (.bin .Add (.blt "len" (.cons (.var 4) .nil)) (.int 1)) .nil))))
    (.cons (.asg (.nm 4) (.bin .Add (.bin .Add (.slc (.var 4) .none (.some (.var 7))) (.call "_law_of" (.cons (.var 1) (.cons (.str "AZ09_ -.{") .nil)))) (.slc (.var 4) (.some (.var 7)) .none)))
    .nil)) .nil)
   (.cons (.asg (.nm 5) (.call "_law_of" (.cons (.var 1) (.cons (.lst (.cons (.var 4) (.cons (.var 4) (.cons (.var 4) (.cons (.str "inside") (.cons (.str "removal") (.cons (.str "insid") (.cons (.str "removals") (.cons (.call "_law_any_odd" (.cons (.var 1) .nil)) .nil))))))))) .nil))))
   (.cons (.asg (.nm 6) (.and (.isi (.var 5) "str") (.and (.chain .Lt .Lt (.int 0) (.blt "len" (.cons (.var 5) .nil)) (.int 9)) (.blt "all" (.cons (.lc [9] (.nm 9) (.seq (.var 5)) .none (.cmp .In (.var 9) (.var 2))) .nil)))))
   (.cons (.ife (.not (.call "_law_same" (.cons (.lst (.cons (.call "is_word" (.cons (.var 5) .nil)) (.cons (.call "is_name" (.cons (.var 5) .nil)) .nil))) (.cons (.lst (.cons (.var 6) (.cons (.and (.var 6) (.cmp .NotIn (.var 5) (.lst (.cons (.str "inside") (.cons (.str "removal") .nil))))) .nil))) .nil)))) (.cons (.ret (.bl false))
    .nil) .nil)
   .nil))))))
  (.cons (.ret (.call "_law_same" (.cons (.lst (.cons (.call "is_word" (.cons (.str "inside") .nil)) (.cons (.call "is_name" (.cons (.str "a") .nil)) (.cons (.call "is_word" (.cons (.str "zzzzzzzz") .nil)) .nil)))) (.cons (.bin .Mult (.lst (.cons (.bl true) .nil)) (.int 3)) .nil))))
  .nil))))
def fis : List Fi := [f_is_word, f_is_name, f_law_open, f_law_draw, f_law_of, f_law_same, f_law_any_odd, f_law]
def cs : List (Str × D) := [("LETTERS", (.str "abcdefghijklmnopqrstuvwxyz")), ("MOST_LETTERS", (.int 8)), ("RESERVED", (.tup [(.str "inside"), (.str "removal")]))]
theorem binds : ∀ i ∈ fis, BindsOk i := by
  intro i hi
  simp only [fis, List.mem_cons, List.not_mem_nil, or_false] at hi
  rcases hi with rfl | rfl | rfl | rfl | rfl | rfl | rfl | rfl
  · exact ⟨fun _ _ _ _ _ _ us hl => (match us, hl with | [_], _ => rfl), fun _ _ _ _ _ _ us hl => (match us, hl with | [_], _ => rfl)⟩
  · exact ⟨fun _ _ _ _ _ _ us hl => (match us, hl with | [_], _ => rfl), fun _ _ _ _ _ _ us hl => (match us, hl with | [_], _ => rfl)⟩
  · exact ⟨fun _ _ _ _ _ _ us hl => (match us, hl with | [_], _ => rfl), fun _ _ _ _ _ _ us hl => (match us, hl with | [_], _ => rfl)⟩
  · exact ⟨fun _ _ _ _ _ _ us hl => (match us, hl with | [_, _], _ => rfl), fun _ _ _ _ _ _ us hl => (match us, hl with | [_, _], _ => rfl)⟩
  · exact ⟨fun _ _ _ _ _ _ us hl => (match us, hl with | [_, _], _ => rfl), fun _ _ _ _ _ _ us hl => (match us, hl with | [_, _], _ => rfl)⟩
  · exact ⟨fun _ _ _ _ _ _ us hl => (match us, hl with | [_, _], _ => rfl), fun _ _ _ _ _ _ us hl => (match us, hl with | [_, _], _ => rfl)⟩
  · exact ⟨fun _ _ _ _ _ _ us hl => (match us, hl with | [_], _ => rfl), fun _ _ _ _ _ _ us hl => (match us, hl with | [_], _ => rfl)⟩
  · exact ⟨fun _ _ _ _ _ _ us hl => (match us, hl with | [_], _ => rfl), fun _ _ _ _ _ _ us hl => (match us, hl with | [_], _ => rfl)⟩
theorem chk : chkAll fis = true := by decide +kernel
end K01
namespace Ly.U.K01
open PySem PySem.Spec PyProof.Rows L2
open _root_.K01
abbrev tb := tbl fis
abbrev gl := glOf cs
def abc : Str := "abcdefghijklmnopqrstuvwxyz"
def isW : D → Bool
  | .str z => (decide (1 ≤ z.length) && decide (z.length ≤ 8)) && z.cps.toList.all fun c => decide (c ∈ abc.cps.toList)
  | _ => false
def resv (z : Str) : Bool := inV (.str z) [.str "inside", .str "removal"]
def isN : D → Bool
  | .str z => isW (.str z) && !resv z
  | _ => false
section
variable {b s k : Nat} {h : IH} {d : D} {Q : D → IH → Prop}
theorem all_abc {g : G} {τ : List (Option D)} {z : Str} {i : Nat} {own : List Nat} {e : E} (hz : z.length ≤ 1000) (st : ∀ c h', lcTurn g (wipeD τ own) (.nm i) .none e (.str ⟨#[c]⟩) h' = .ok (some (.bl (decide (c ∈ abc.cps.toList)))) h')
   (q : Q (.bl (z.cps.toList.all fun c => decide (c ∈ abc.cps.toList))) (h ++ [.lst (z.cps.toList.map fun c => .bl (decide (c ∈ abc.cps.toList)))])) :
    Wp (lcLoop (.its (z.cps.toList.map fun k => .str ⟨#[k]⟩)) (lcTurn g (wipeD τ own) (.nm i) .none e) h.length (J.most (.its (z.cps.toList.map fun k => .str ⟨#[k]⟩)) h + 1) 0 (h ++ [.lst []])) (fun a h => Wp (blt "all" [a] h) Q) := by
  refine wp_eq (lc_its (fun c => .bl (decide (c ∈ abc.cps.toList))) ?_ fun a h' _ _ => st a h') ?_
  · rw [Array.length_toList]; rw [sl_line]; exact Nat.lt_of_le_of_lt hz (by decide)
  · simp only [wp_gd, wp_bind, wp_ok, fill_z, fill_n, fill_c, lk_z, lk_s, st_z, st_s, bi_nm, map_s, bind_s, xs_cons, xs_nil, x_asg, x_iset, x_expr, x_ret, x_retn, x_brk, x_cnt, x_pass, x_ife, x_for, seqS_n, seqS_r, seqS_b, seqS_c, outR_r, outR_n, opt_s, setR_r, e_var, e_int, e_str, e_bl, e_non, e_glo, e_tup, e_lst, e_bin, e_neg, e_cmp, e_chain, e_not, e_and, e_or, e_ife, e_call, e_callk, e_blt, e_isi, e_sub, e_slc, e_lc, e_meth, es_nil, es_cons, eo_none, eo_some, et_none, et_some, ei_seq, ei_rng1, intR_i, negR_i, rng1_i, wp_br, br_t, br_f, ret1_s, notR_s, itO_l, itO_f, tr_bl, tr_int, tr_non, b_add, b_sub, b_mul, b_div, b_mod, b_pow, b_sadd, b_tadd, c_lt, c_le, c_gt, c_ge, c_eq, c_ne, c_eqs, c_nes, c_in, c_ni, newl_eq, newt_eq, s_ref, s_tup, s_str, bl_lens, bl_lent, bl_lenr, bl_all, bl_int, bl_list, bl_repr, m_join, m_app, appO_l, sq_t, sq_s, sq_r, items_ref, it_t, bind_ok, gd_t, br_and1, br_and2, br_or1, gd_bind, repO_l, b_rep, ladO_l, b_ladd, get_new, isbs_map, all_map]
    exact q
theorem wp_word (p : Pl b h d) (q : ∀ h', Gr h h' → Q (.bl (isW d)) h') : Wp (run tb gl (k + 1) "is_word" [d] h) Q := by
  rw [run_eq (fn := f_is_word.fn) rfl rfl (by decide)]
  have gm : gl "MOST_LETTERS" = some (.int 8) := rfl
  have pi := p.isi
  cases d with
  | str z =>
    have hz : z.length ≤ 1000 := p
    have hz' : z.length ≤ sizeLine := sl_small (Nat.le_trans hz (by decide))
    simp only [Fi.fn, f_is_word, List.length_cons, List.length_nil, gm, pi, isS, hz', wp_gd, wp_bind, wp_ok, fill_z, fill_n, fill_c, lk_z, lk_s, st_z, st_s, bi_nm, map_s, bind_s, xs_cons, xs_nil, x_asg, x_iset, x_expr, x_ret, x_retn, x_brk, x_cnt, x_pass, x_ife, x_for, seqS_n, seqS_r, seqS_b, seqS_c, outR_r, outR_n, opt_s, setR_r, e_var, e_int, e_str, e_bl, e_non, e_glo, e_tup, e_lst, e_bin, e_neg, e_cmp, e_chain, e_not, e_and, e_or, e_ife, e_call, e_callk, e_blt, e_isi, e_sub, e_slc, e_lc, e_meth, es_nil, es_cons, eo_none, eo_some, et_none, et_some, ei_seq, ei_rng1, intR_i, negR_i, rng1_i, wp_br, br_t, br_f, ret1_s, notR_s, itO_l, itO_f, tr_bl, tr_int, tr_non, b_add, b_sub, b_mul, b_div, b_mod, b_pow, b_sadd, b_tadd, c_lt, c_le, c_gt, c_ge, c_eq, c_ne, c_eqs, c_nes, c_in, c_ni, newl_eq, newt_eq, s_ref, s_tup, s_str, bl_lens, bl_lent, bl_lenr, bl_all, bl_int, bl_list, bl_repr, m_join, m_app, appO_l, sq_t, sq_s, sq_r, items_ref, it_t, bind_ok, gd_t, br_and1, br_and2, br_or1, gd_bind, repO_l, b_rep, ladO_l, b_ladd, Bool.not_true, Bool.false_or]
    refine ⟨fun h1 => ?_, fun h1 => ?_⟩
    · have : isW (.str z) = false := by
        show ((decide (1 ≤ z.length) && decide (z.length ≤ 8)) && _) = false
        rw [Bool.not_eq_true'] at h1
        rw [Bool.and_eq_false_iff]
        left
        rw [← h1]
        congr 1 <;> congr 1 <;> simp <;> omega
      rw [← this]
      exact q _ .same
    · refine all_abc hz (fun c h' => rfl) ?_
      have : isW (.str z) = z.cps.toList.all fun c => decide (c ∈ abc.cps.toList) := by
        show ((decide (1 ≤ z.length) && decide (z.length ≤ 8)) && _) = _
        rw [Bool.not_eq_false'] at h1
        have e : (decide (1 ≤ z.length) && decide (z.length ≤ 8)) = true := by
          rw [← h1]
          congr 1 <;> congr 1 <;> simp <;> omega
        rw [e, Bool.true_and]
      rw [← this]
      exact q _ .app
  | _ =>
    simp only [Fi.fn, f_is_word, List.length_cons, List.length_nil, gm, pi, isS, wp_gd, wp_bind, wp_ok, fill_z, fill_n, fill_c, lk_z, lk_s, st_z, st_s, bi_nm, map_s, bind_s, xs_cons, xs_nil, x_asg, x_iset, x_expr, x_ret, x_retn, x_brk, x_cnt, x_pass, x_ife, x_for, seqS_n, seqS_r, seqS_b, seqS_c, outR_r, outR_n, opt_s, setR_r, e_var, e_int, e_str, e_bl, e_non, e_glo, e_tup, e_lst, e_bin, e_neg, e_cmp, e_chain, e_not, e_and, e_or, e_ife, e_call, e_callk, e_blt, e_isi, e_sub, e_slc, e_lc, e_meth, es_nil, es_cons, eo_none, eo_some, et_none, et_some, ei_seq, ei_rng1, intR_i, negR_i, rng1_i, wp_br, br_t, br_f, ret1_s, notR_s, itO_l, itO_f, tr_bl, tr_int, tr_non, b_add, b_sub, b_mul, b_div, b_mod, b_pow, b_sadd, b_tadd, c_lt, c_le, c_gt, c_ge, c_eq, c_ne, c_eqs, c_nes, c_in, c_ni, newl_eq, newt_eq, s_ref, s_tup, s_str, bl_lens, bl_lent, bl_lenr, bl_all, bl_int, bl_list, bl_repr, m_join, m_app, appO_l, sq_t, sq_s, sq_r, items_ref, it_t, bind_ok, gd_t, br_and1, br_and2, br_or1, gd_bind, repO_l, b_rep, ladO_l, b_ladd, Bool.not_false]
    first | exact q _ .same | exact ⟨fun _ => q _ .same, fun x => by simp at x⟩
theorem isN_word {z : Str} : isN (.str z) = (isW (.str z) && !resv z) := rfl
theorem wp_name (p : Pl b h d) (q : ∀ h', Gr h h' → Q (.bl (isN d)) h') : Wp (run tb gl (k + 2) "is_name" [d] h) Q := by
  rw [run_eq (fn := f_is_name.fn) rfl rfl (by decide)]
  have gr : gl "RESERVED" = some (.tup [.str "inside", .str "removal"]) := rfl
  simp only [Fi.fn, f_is_name, List.length_cons, List.length_nil, gr, wp_gd, wp_bind, wp_ok, fill_z, fill_n, fill_c, lk_z, lk_s, st_z, st_s, bi_nm, map_s, bind_s, xs_cons, xs_nil, x_asg, x_iset, x_expr, x_ret, x_retn, x_brk, x_cnt, x_pass, x_ife, x_for, seqS_n, seqS_r, seqS_b, seqS_c, outR_r, outR_n, opt_s, setR_r, e_var, e_int, e_str, e_bl, e_non, e_glo, e_tup, e_lst, e_bin, e_neg, e_cmp, e_chain, e_not, e_and, e_or, e_ife, e_call, e_callk, e_blt, e_isi, e_sub, e_slc, e_lc, e_meth, es_nil, es_cons, eo_none, eo_some, et_none, et_some, ei_seq, ei_rng1, intR_i, negR_i, rng1_i, wp_br, br_t, br_f, ret1_s, notR_s, itO_l, itO_f, tr_bl, tr_int, tr_non, b_add, b_sub, b_mul, b_div, b_mod, b_pow, b_sadd, b_tadd, c_lt, c_le, c_gt, c_ge, c_eq, c_ne, c_eqs, c_nes, c_in, c_ni, newl_eq, newt_eq, s_ref, s_tup, s_str, bl_lens, bl_lent, bl_lenr, bl_all, bl_int, bl_list, bl_repr, m_join, m_app, appO_l, sq_t, sq_s, sq_r, items_ref, it_t, bind_ok, gd_t, br_and1, br_and2, br_or1, gd_bind, repO_l, b_rep, ladO_l, b_ladd]
  refine wp_word p fun h' G => ?_
  simp only [wp_gd, wp_bind, wp_ok, fill_z, fill_n, fill_c, lk_z, lk_s, st_z, st_s, bi_nm, map_s, bind_s, xs_cons, xs_nil, x_asg, x_iset, x_expr, x_ret, x_retn, x_brk, x_cnt, x_pass, x_ife, x_for, seqS_n, seqS_r, seqS_b, seqS_c, outR_r, outR_n, opt_s, setR_r, e_var, e_int, e_str, e_bl, e_non, e_glo, e_tup, e_lst, e_bin, e_neg, e_cmp, e_chain, e_not, e_and, e_or, e_ife, e_call, e_callk, e_blt, e_isi, e_sub, e_slc, e_lc, e_meth, es_nil, es_cons, eo_none, eo_some, et_none, et_some, ei_seq, ei_rng1, intR_i, negR_i, rng1_i, wp_br, br_t, br_f, ret1_s, notR_s, itO_l, itO_f, tr_bl, tr_int, tr_non, b_add, b_sub, b_mul, b_div, b_mod, b_pow, b_sadd, b_tadd, c_lt, c_le, c_gt, c_ge, c_eq, c_ne, c_eqs, c_nes, c_in, c_ni, newl_eq, newt_eq, s_ref, s_tup, s_str, bl_lens, bl_lent, bl_lenr, bl_all, bl_int, bl_list, bl_repr, m_join, m_app, appO_l, sq_t, sq_s, sq_r, items_ref, it_t, bind_ok, gd_t, br_and1, br_and2, br_or1, gd_bind, repO_l, b_rep, ladO_l, b_ladd]
  cases d with
  | str z =>
    have e : isin (.str z) (.tup [.str "inside", .str "removal"]) h' = some (resv z) := rfl
    simp only [e, wp_gd, wp_bind, wp_ok, fill_z, fill_n, fill_c, lk_z, lk_s, st_z, st_s, bi_nm, map_s, bind_s, xs_cons, xs_nil, x_asg, x_iset, x_expr, x_ret, x_retn, x_brk, x_cnt, x_pass, x_ife, x_for, seqS_n, seqS_r, seqS_b, seqS_c, outR_r, outR_n, opt_s, setR_r, e_var, e_int, e_str, e_bl, e_non, e_glo, e_tup, e_lst, e_bin, e_neg, e_cmp, e_chain, e_not, e_and, e_or, e_ife, e_call, e_callk, e_blt, e_isi, e_sub, e_slc, e_lc, e_meth, es_nil, es_cons, eo_none, eo_some, et_none, et_some, ei_seq, ei_rng1, intR_i, negR_i, rng1_i, wp_br, br_t, br_f, ret1_s, notR_s, itO_l, itO_f, tr_bl, tr_int, tr_non, b_add, b_sub, b_mul, b_div, b_mod, b_pow, b_sadd, b_tadd, c_lt, c_le, c_gt, c_ge, c_eq, c_ne, c_eqs, c_nes, c_in, c_ni, newl_eq, newt_eq, s_ref, s_tup, s_str, bl_lens, bl_lent, bl_lenr, bl_all, bl_int, bl_list, bl_repr, m_join, m_app, appO_l, sq_t, sq_s, sq_r, items_ref, it_t, bind_ok, gd_t, br_and1, br_and2, br_or1, gd_bind, repO_l, b_rep, ladO_l, b_ladd]
    have := q h' G
    rw [isN_word] at this
    refine ⟨fun h1 => ?_, fun h1 => ?_⟩
    · rw [h1, Bool.true_and] at this; exact this
    · rw [h1, Bool.false_and] at this; rw [h1]; exact this
  | _ => exact ⟨fun x => by simp [isW] at x, fun _ => q h' G⟩
theorem wp_odd (B : Bag b s h) (q : ∀ d h', Pl b h' d → Bag b s h' → Fr b h h' → Q d h') : Wp (run tb gl (k + 3) "_law_any_odd" [.ref b] h) Q := by
  rw [run_eq (fn := f_law_any_odd.fn) rfl rfl (by decide)]
  simp only [Fi.fn, f_law_any_odd, List.length_cons, List.length_nil, wp_gd, wp_bind, wp_ok, fill_z, fill_n, fill_c, lk_z, lk_s, st_z, st_s, bi_nm, map_s, bind_s, xs_cons, xs_nil, x_asg, x_iset, x_expr, x_ret, x_retn, x_brk, x_cnt, x_pass, x_ife, x_for, seqS_n, seqS_r, seqS_b, seqS_c, outR_r, outR_n, opt_s, setR_r, e_var, e_int, e_str, e_bl, e_non, e_glo, e_tup, e_lst, e_bin, e_neg, e_cmp, e_chain, e_not, e_and, e_or, e_ife, e_call, e_callk, e_blt, e_isi, e_sub, e_slc, e_lc, e_meth, es_nil, es_cons, eo_none, eo_some, et_none, et_some, ei_seq, ei_rng1, intR_i, negR_i, rng1_i, wp_br, br_t, br_f, ret1_s, notR_s, itO_l, itO_f, tr_bl, tr_int, tr_non, b_add, b_sub, b_mul, b_div, b_mod, b_pow, b_sadd, b_tadd, c_lt, c_le, c_gt, c_ge, c_eq, c_ne, c_eqs, c_nes, c_in, c_ni, newl_eq, newt_eq, s_ref, s_tup, s_str, bl_lens, bl_lent, bl_lenr, bl_all, bl_int, bl_list, bl_repr, m_join, m_app, appO_l, sq_t, sq_s, sq_r, items_ref, it_t, bind_ok, gd_t, br_and1, br_and2, br_or1, gd_bind, repO_l, b_rep, ladO_l, b_ladd]
  refine ⟨sl_small (by decide), sl_small (by decide), wp_alloc B fun n1 h1 c1 e1 B1 F1 => ?_⟩
  (try simp only [wp_gd, wp_bind, wp_ok, fill_z, fill_n, fill_c, lk_z, lk_s, st_z, st_s, bi_nm, map_s, bind_s, xs_cons, xs_nil, x_asg, x_iset, x_expr, x_ret, x_retn, x_brk, x_cnt, x_pass, x_ife, x_for, seqS_n, seqS_r, seqS_b, seqS_c, outR_r, outR_n, opt_s, setR_r, e_var, e_int, e_str, e_bl, e_non, e_glo, e_tup, e_lst, e_bin, e_neg, e_cmp, e_chain, e_not, e_and, e_or, e_ife, e_call, e_callk, e_blt, e_isi, e_sub, e_slc, e_lc, e_meth, es_nil, es_cons, eo_none, eo_some, et_none, et_some, ei_seq, ei_rng1, intR_i, negR_i, rng1_i, wp_br, br_t, br_f, ret1_s, notR_s, itO_l, itO_f, tr_bl, tr_int, tr_non, b_add, b_sub, b_mul, b_div, b_mod, b_pow, b_sadd, b_tadd, c_lt, c_le, c_gt, c_ge, c_eq, c_ne, c_eqs, c_nes, c_in, c_ni, newl_eq, newt_eq, s_ref, s_tup, s_str, bl_lens, bl_lent, bl_lenr, bl_all, bl_int, bl_list, bl_repr, m_join, m_app, appO_l, sq_t, sq_s, sq_r, items_ref, it_t, bind_ok, gd_t, br_and1, br_and2, br_or1, gd_bind, repO_l, b_rep, ladO_l, b_ladd])
  refine ⟨sl_small (by simp), sl_small (by simp), wp_alloc B1 fun n2 h2 c2 e2 B2 F2 => ?_⟩
  (try simp only [wp_gd, wp_bind, wp_ok, fill_z, fill_n, fill_c, lk_z, lk_s, st_z, st_s, bi_nm, map_s, bind_s, xs_cons, xs_nil, x_asg, x_iset, x_expr, x_ret, x_retn, x_brk, x_cnt, x_pass, x_ife, x_for, seqS_n, seqS_r, seqS_b, seqS_c, outR_r, outR_n, opt_s, setR_r, e_var, e_int, e_str, e_bl, e_non, e_glo, e_tup, e_lst, e_bin, e_neg, e_cmp, e_chain, e_not, e_and, e_or, e_ife, e_call, e_callk, e_blt, e_isi, e_sub, e_slc, e_lc, e_meth, es_nil, es_cons, eo_none, eo_some, et_none, et_some, ei_seq, ei_rng1, intR_i, negR_i, rng1_i, wp_br, br_t, br_f, ret1_s, notR_s, itO_l, itO_f, tr_bl, tr_int, tr_non, b_add, b_sub, b_mul, b_div, b_mod, b_pow, b_sadd, b_tadd, c_lt, c_le, c_gt, c_ge, c_eq, c_ne, c_eqs, c_nes, c_in, c_ni, newl_eq, newt_eq, s_ref, s_tup, s_str, bl_lens, bl_lent, bl_lenr, bl_all, bl_int, bl_list, bl_repr, m_join, m_app, appO_l, sq_t, sq_s, sq_r, items_ref, it_t, bind_ok, gd_t, br_and1, br_and2, br_or1, gd_bind, repO_l, b_rep, ladO_l, b_ladd])
  refine ⟨by decide, sl_small (by simp), wp_alloc B2 fun n3 h3 c3 e3 B3 F3 => ?_⟩
  refine wp_ofL rfl rfl B3 e3 c3 (by simp) (by simp) fun d h4 m B4 F4 => ?_
  have e1' := F4 _ _ c1 (F3 _ _ c1 (F2 _ _ c1 e1))
  have e2' := F4 _ _ c2 (F3 _ _ c2 e2)
  refine q d h4 ?_ B4 (F1.trans (F2.trans (F3.trans F4)))
  simp only [List.mem_cons, List.not_mem_nil, or_false] at m
  rcases m with rfl | rfl | rfl | rfl | rfl | rfl | rfl | rfl | rfl | rfl | rfl | rfl | rfl | rfl
  all_goals first
    | exact trivial
    | exact Pl_str (by decide)
    | exact ⟨c1, _, e1'⟩
    | exact ⟨c2, _, e2'⟩
end
def bdy : Ss := match f_law.bd with
  | .cons _ (.cons _ (.cons (.for _ _ b) _)) => b
  | _ => .nil
def bdy2 : Ss := match bdy with
  | .cons _ (.cons _ b) => b
  | _ => .nil
def st1 : S := match bdy with
  | .cons a _ => a
  | _ => .pass
def st2 : S := match bdy with
  | .cons _ (.cons b _) => b
  | _ => .pass
/-- the names behind a round -/
def Inv (_ : Nat) (τ : List (Option D)) (h : IH) : Prop := Bag 3 2 h ∧ ∃ o3 o4 o5 o6 o7 o8 o9 : Option D, τ = [some (.ref 0), some (.ref 3), some (.str abc), o3, o4, o5, o6, o7, o8, o9]
/-- behind the text -/
def Mid (m : Nat) (τ : List (Option D)) (h : IH) : Prop := Bag 3 2 h ∧ ∃ (o3 o5 o6 o7 o8 o9 : Option D) (text : Str), text.length ≤ m ∧ τ = [some (.ref 0), some (.ref 3), some (.str abc), o3, some (.str text), o5, o6, o7, o8, o9]
theorem round1 {k : Nat} {h : IH} {o3 o4 o5 o6 o7 o8 o9 : Option D} {Q : Fl → IH → Prop} (B : Bag 3 2 h) :
    Wp (ex ⟨run tb gl (k + 10), gl⟩ st1 [some (.ref 0), some (.ref 3), some (.str abc), o3, o4, o5, o6, o7, o8, o9] h) (fun r h' => match r with | .nx τ' => Mid 12 τ' h' | r => Q r h') := by
  simp only [bdy, f_law, st1, wp_gd, wp_bind, wp_ok, fill_z, fill_n, fill_c, lk_z, lk_s, st_z, st_s, bi_nm, map_s, bind_s, xs_cons, xs_nil, x_asg, x_iset, x_expr, x_ret, x_retn, x_brk, x_cnt, x_pass, x_ife, x_for, seqS_n, seqS_r, seqS_b, seqS_c, outR_r, outR_n, opt_s, setR_r, e_var, e_int, e_str, e_bl, e_non, e_glo, e_tup, e_lst, e_bin, e_neg, e_cmp, e_chain, e_not, e_and, e_or, e_ife, e_call, e_callk, e_blt, e_isi, e_sub, e_slc, e_lc, e_meth, es_nil, es_cons, eo_none, eo_some, et_none, et_some, ei_seq, ei_rng1, intR_i, negR_i, rng1_i, wp_br, br_t, br_f, ret1_s, notR_s, itO_l, itO_f, tr_bl, tr_int, tr_non, b_add, b_sub, b_mul, b_div, b_mod, b_pow, b_sadd, b_tadd, c_lt, c_le, c_gt, c_ge, c_eq, c_ne, c_eqs, c_nes, c_in, c_ni, newl_eq, newt_eq, s_ref, s_tup, s_str, bl_lens, bl_lent, bl_lenr, bl_all, bl_int, bl_list, bl_repr, m_join, m_app, appO_l, sq_t, sq_s, sq_r, items_ref, it_t, bind_ok, gd_t, br_and1, br_and2, br_or1, gd_bind, repO_l, b_rep, ladO_l, b_ladd]
  refine ⟨rfl, ?_⟩
  refine wp_draw rfl B (by omega) (by omega) fun r h1 r0 r1 B1 F1 => ?_
  simp only [wp_gd, wp_bind, wp_ok, fill_z, fill_n, fill_c, lk_z, lk_s, st_z, st_s, bi_nm, map_s, bind_s, xs_cons, xs_nil, x_asg, x_iset, x_expr, x_ret, x_retn, x_brk, x_cnt, x_pass, x_ife, x_for, seqS_n, seqS_r, seqS_b, seqS_c, outR_r, outR_n, opt_s, setR_r, e_var, e_int, e_str, e_bl, e_non, e_glo, e_tup, e_lst, e_bin, e_neg, e_cmp, e_chain, e_not, e_and, e_or, e_ife, e_call, e_callk, e_blt, e_isi, e_sub, e_slc, e_lc, e_meth, es_nil, es_cons, eo_none, eo_some, et_none, et_some, ei_seq, ei_rng1, intR_i, negR_i, rng1_i, wp_br, br_t, br_f, ret1_s, notR_s, itO_l, itO_f, tr_bl, tr_int, tr_non, b_add, b_sub, b_mul, b_div, b_mod, b_pow, b_sadd, b_tadd, c_lt, c_le, c_gt, c_ge, c_eq, c_ne, c_eqs, c_nes, c_in, c_ni, newl_eq, newt_eq, s_ref, s_tup, s_str, bl_lens, bl_lent, bl_lenr, bl_all, bl_int, bl_list, bl_repr, m_join, m_app, appO_l, sq_t, sq_s, sq_r, items_ref, it_t, bind_ok, gd_t, br_and1, br_and2, br_or1, gd_bind, repO_l, b_rep, ladO_l, b_ladd]
  refine ⟨by omega, ?_⟩
  refine wp_lc0 (f := r.toNat) (item := fun i => if i < r.toNat then some (.int (0 + i)) else none) (fun i acc => ∃ cs : List Nat, acc = cs.map (fun c => D.str ⟨#[c]⟩) ∧ cs.length = i ∧ cs.length ≤ 12) B1 (fun _ _ _ => rfl) (if_neg (Nat.lt_irrefl _)) ⟨[], rfl, rfl, by simp⟩ ?_ ?_
  · rintro i acc d h2 ei ⟨cs, rfl, e2, e3⟩ B2 F2
    have hi : i < r.toNat := by
      apply Decidable.byContradiction
      intro hn
      rw [if_neg hn] at ei
      cases ei
    simp only [lcTurn, wp_gd, wp_bind, wp_ok, fill_z, fill_n, fill_c, lk_z, lk_s, st_z, st_s, bi_nm, map_s, bind_s, xs_cons, xs_nil, x_asg, x_iset, x_expr, x_ret, x_retn, x_brk, x_cnt, x_pass, x_ife, x_for, seqS_n, seqS_r, seqS_b, seqS_c, outR_r, outR_n, opt_s, setR_r, e_var, e_int, e_str, e_bl, e_non, e_glo, e_tup, e_lst, e_bin, e_neg, e_cmp, e_chain, e_not, e_and, e_or, e_ife, e_call, e_callk, e_blt, e_isi, e_sub, e_slc, e_lc, e_meth, es_nil, es_cons, eo_none, eo_some, et_none, et_some, ei_seq, ei_rng1, intR_i, negR_i, rng1_i, wp_br, br_t, br_f, ret1_s, notR_s, itO_l, itO_f, tr_bl, tr_int, tr_non, b_add, b_sub, b_mul, b_div, b_mod, b_pow, b_sadd, b_tadd, c_lt, c_le, c_gt, c_ge, c_eq, c_ne, c_eqs, c_nes, c_in, c_ni, newl_eq, newt_eq, s_ref, s_tup, s_str, bl_lens, bl_lent, bl_lenr, bl_all, bl_int, bl_list, bl_repr, m_join, m_app, appO_l, sq_t, sq_s, sq_r, items_ref, it_t, bind_ok, gd_t, br_and1, br_and2, br_or1, gd_bind, repO_l, b_rep, ladO_l, b_ladd, wipeD, List.set_cons_zero, List.set_cons_succ]
    refine wp_ofS rfl rfl B2 (by decide) (by decide) fun c h3 hc B3 F3 => ?_
    (try simp only [wp_gd, wp_bind, wp_ok, fill_z, fill_n, fill_c, lk_z, lk_s, st_z, st_s, bi_nm, map_s, bind_s, xs_cons, xs_nil, x_asg, x_iset, x_expr, x_ret, x_retn, x_brk, x_cnt, x_pass, x_ife, x_for, seqS_n, seqS_r, seqS_b, seqS_c, outR_r, outR_n, opt_s, setR_r, e_var, e_int, e_str, e_bl, e_non, e_glo, e_tup, e_lst, e_bin, e_neg, e_cmp, e_chain, e_not, e_and, e_or, e_ife, e_call, e_callk, e_blt, e_isi, e_sub, e_slc, e_lc, e_meth, es_nil, es_cons, eo_none, eo_some, et_none, et_some, ei_seq, ei_rng1, intR_i, negR_i, rng1_i, wp_br, br_t, br_f, ret1_s, notR_s, itO_l, itO_f, tr_bl, tr_int, tr_non, b_add, b_sub, b_mul, b_div, b_mod, b_pow, b_sadd, b_tadd, c_lt, c_le, c_gt, c_ge, c_eq, c_ne, c_eqs, c_nes, c_in, c_ni, newl_eq, newt_eq, s_ref, s_tup, s_str, bl_lens, bl_lent, bl_lenr, bl_all, bl_int, bl_list, bl_repr, m_join, m_app, appO_l, sq_t, sq_s, sq_r, items_ref, it_t, bind_ok, gd_t, br_and1, br_and2, br_or1, gd_bind, repO_l, b_rep, ladO_l, b_ladd])
    refine ⟨B3, F3, ?_, cs ++ [c], by simp, by simp [e2], by simp; omega⟩
    rw [List.length_map]
    exact Nat.lt_of_le_of_lt e3 (by rw [sl_line]; decide)
  · rintro i acc n2 h2 ei ⟨cs, rfl, e2, e3⟩ hn2 en2 B2 F2
    simp only [wp_gd, wp_bind, wp_ok, fill_z, fill_n, fill_c, lk_z, lk_s, st_z, st_s, bi_nm, map_s, bind_s, xs_cons, xs_nil, x_asg, x_iset, x_expr, x_ret, x_retn, x_brk, x_cnt, x_pass, x_ife, x_for, seqS_n, seqS_r, seqS_b, seqS_c, outR_r, outR_n, opt_s, setR_r, e_var, e_int, e_str, e_bl, e_non, e_glo, e_tup, e_lst, e_bin, e_neg, e_cmp, e_chain, e_not, e_and, e_or, e_ife, e_call, e_callk, e_blt, e_isi, e_sub, e_slc, e_lc, e_meth, es_nil, es_cons, eo_none, eo_some, et_none, et_some, ei_seq, ei_rng1, intR_i, negR_i, rng1_i, wp_br, br_t, br_f, ret1_s, notR_s, itO_l, itO_f, tr_bl, tr_int, tr_non, b_add, b_sub, b_mul, b_div, b_mod, b_pow, b_sadd, b_tadd, c_lt, c_le, c_gt, c_ge, c_eq, c_ne, c_eqs, c_nes, c_in, c_ni, newl_eq, newt_eq, s_ref, s_tup, s_str, bl_lens, bl_lent, bl_lenr, bl_all, bl_int, bl_list, bl_repr, m_join, m_app, appO_l, sq_t, sq_s, sq_r, items_ref, it_t, bind_ok, gd_t, br_and1, br_and2, br_or1, gd_bind, repO_l, b_rep, ladO_l, b_ladd, en2, isstrs_map, sum_ones, List.length_map]
    refine ⟨by show _ + _ * 0 ≤ _; omega, ?_⟩
    have lt : (Txt.join (Str.ofString "") (cs.map fun c => (⟨#[c]⟩ : Str))).length ≤ 12 := by
      rw [len_join_nil, sum_ones]; exact e3
    exact ⟨B2, _, _, _, _, _, _, _, lt, rfl⟩
theorem slc_s {z : Str} {lo hi : Option Int} {h : IH} (hz : z.length ≤ sizeLine) : Ly.slc (.str z) lo hi h = .ok (.str (cutS z lo hi)) h := if_pos hz
theorem round2 {k : Nat} {τ : List (Option D)} {h : IH} {Q : Fl → IH → Prop} (M : Mid 12 τ h) :
    Wp (ex ⟨run tb gl (k + 10), gl⟩ st2 τ h) (fun r h' => match r with | .nx τ' => Mid 100 τ' h' | r => Q r h') := by
  obtain ⟨B, o3, o5, o6, o7, o8, o9, text, lt, rfl⟩ := M
  have lt' := sl_small (show text.length ≤ 1000000 by omega)
  simp only [bdy, f_law, st2, wp_gd, wp_bind, wp_ok, fill_z, fill_n, fill_c, lk_z, lk_s, st_z, st_s, bi_nm, map_s, bind_s, xs_cons, xs_nil, x_asg, x_iset, x_expr, x_ret, x_retn, x_brk, x_cnt, x_pass, x_ife, x_for, seqS_n, seqS_r, seqS_b, seqS_c, outR_r, outR_n, opt_s, setR_r, e_var, e_int, e_str, e_bl, e_non, e_glo, e_tup, e_lst, e_bin, e_neg, e_cmp, e_chain, e_not, e_and, e_or, e_ife, e_call, e_callk, e_blt, e_isi, e_sub, e_slc, e_lc, e_meth, es_nil, es_cons, eo_none, eo_some, et_none, et_some, ei_seq, ei_rng1, intR_i, negR_i, rng1_i, wp_br, br_t, br_f, ret1_s, notR_s, itO_l, itO_f, tr_bl, tr_int, tr_non, b_add, b_sub, b_mul, b_div, b_mod, b_pow, b_sadd, b_tadd, c_lt, c_le, c_gt, c_ge, c_eq, c_ne, c_eqs, c_nes, c_in, c_ni, newl_eq, newt_eq, s_ref, s_tup, s_str, bl_lens, bl_lent, bl_lenr, bl_all, bl_int, bl_list, bl_repr, m_join, m_app, appO_l, sq_t, sq_s, sq_r, items_ref, it_t, bind_ok, gd_t, br_and1, br_and2, br_or1, gd_bind, repO_l, b_rep, ladO_l, b_ladd]
  refine wp_draw rfl B (by omega) (by omega) fun r3 h3 r30 r31 B3 F3 => ?_
  simp only [wp_gd, wp_bind, wp_ok, fill_z, fill_n, fill_c, lk_z, lk_s, st_z, st_s, bi_nm, map_s, bind_s, xs_cons, xs_nil, x_asg, x_iset, x_expr, x_ret, x_retn, x_brk, x_cnt, x_pass, x_ife, x_for, seqS_n, seqS_r, seqS_b, seqS_c, outR_r, outR_n, opt_s, setR_r, e_var, e_int, e_str, e_bl, e_non, e_glo, e_tup, e_lst, e_bin, e_neg, e_cmp, e_chain, e_not, e_and, e_or, e_ife, e_call, e_callk, e_blt, e_isi, e_sub, e_slc, e_lc, e_meth, es_nil, es_cons, eo_none, eo_some, et_none, et_some, ei_seq, ei_rng1, intR_i, negR_i, rng1_i, wp_br, br_t, br_f, ret1_s, notR_s, itO_l, itO_f, tr_bl, tr_int, tr_non, b_add, b_sub, b_mul, b_div, b_mod, b_pow, b_sadd, b_tadd, c_lt, c_le, c_gt, c_ge, c_eq, c_ne, c_eqs, c_nes, c_in, c_ni, newl_eq, newt_eq, s_ref, s_tup, s_str, bl_lens, bl_lent, bl_lenr, bl_all, bl_int, bl_list, bl_repr, m_join, m_app, appO_l, sq_t, sq_s, sq_r, items_ref, it_t, bind_ok, gd_t, br_and1, br_and2, br_or1, gd_bind, repO_l, b_rep, ladO_l, b_ladd, lt']
  refine ⟨fun _ => ?_, fun _ => ⟨B3, _, _, _, _, _, _, _, by omega, rfl⟩⟩
  refine wp_draw rfl B3 (by omega) (by omega) fun r4 h4 r40 r41 B4 F4 => ?_
  simp only [wp_gd, wp_bind, wp_ok, fill_z, fill_n, fill_c, lk_z, lk_s, st_z, st_s, bi_nm, map_s, bind_s, xs_cons, xs_nil, x_asg, x_iset, x_expr, x_ret, x_retn, x_brk, x_cnt, x_pass, x_ife, x_for, seqS_n, seqS_r, seqS_b, seqS_c, outR_r, outR_n, opt_s, setR_r, e_var, e_int, e_str, e_bl, e_non, e_glo, e_tup, e_lst, e_bin, e_neg, e_cmp, e_chain, e_not, e_and, e_or, e_ife, e_call, e_callk, e_blt, e_isi, e_sub, e_slc, e_lc, e_meth, es_nil, es_cons, eo_none, eo_some, et_none, et_some, ei_seq, ei_rng1, intR_i, negR_i, rng1_i, wp_br, br_t, br_f, ret1_s, notR_s, itO_l, itO_f, tr_bl, tr_int, tr_non, b_add, b_sub, b_mul, b_div, b_mod, b_pow, b_sadd, b_tadd, c_lt, c_le, c_gt, c_ge, c_eq, c_ne, c_eqs, c_nes, c_in, c_ni, newl_eq, newt_eq, s_ref, s_tup, s_str, bl_lens, bl_lent, bl_lenr, bl_all, bl_int, bl_list, bl_repr, m_join, m_app, appO_l, sq_t, sq_s, sq_r, items_ref, it_t, bind_ok, gd_t, br_and1, br_and2, br_or1, gd_bind, repO_l, b_rep, ladO_l, b_ladd, slc_s lt']
  refine wp_ofS rfl rfl B4 (by decide) (by decide) fun c h5 hc B5 F5 => ?_
  have l1 := len_cut (z := text) (lo := none) (hi := some r4)
  have l2 := len_cut (z := text) (lo := some r4) (hi := none)
  simp only [wp_gd, wp_bind, wp_ok, fill_z, fill_n, fill_c, lk_z, lk_s, st_z, st_s, bi_nm, map_s, bind_s, xs_cons, xs_nil, x_asg, x_iset, x_expr, x_ret, x_retn, x_brk, x_cnt, x_pass, x_ife, x_for, seqS_n, seqS_r, seqS_b, seqS_c, outR_r, outR_n, opt_s, setR_r, e_var, e_int, e_str, e_bl, e_non, e_glo, e_tup, e_lst, e_bin, e_neg, e_cmp, e_chain, e_not, e_and, e_or, e_ife, e_call, e_callk, e_blt, e_isi, e_sub, e_slc, e_lc, e_meth, es_nil, es_cons, eo_none, eo_some, et_none, et_some, ei_seq, ei_rng1, intR_i, negR_i, rng1_i, wp_br, br_t, br_f, ret1_s, notR_s, itO_l, itO_f, tr_bl, tr_int, tr_non, b_add, b_sub, b_mul, b_div, b_mod, b_pow, b_sadd, b_tadd, c_lt, c_le, c_gt, c_ge, c_eq, c_ne, c_eqs, c_nes, c_in, c_ni, newl_eq, newt_eq, s_ref, s_tup, s_str, bl_lens, bl_lent, bl_lenr, bl_all, bl_int, bl_list, bl_repr, m_join, m_app, appO_l, sq_t, sq_s, sq_r, items_ref, it_t, bind_ok, gd_t, br_and1, br_and2, br_or1, gd_bind, repO_l, b_rep, ladO_l, b_ladd, slc_s lt', len_add, len_one]
  exact ⟨sl_small (by omega), sl_small (by omega), B5, _, _, _, _, _, _, _, by simp only [len_add, len_one]; omega, rfl⟩
theorem round3 {k i : Nat} {τ : List (Option D)} {h : IH} (M : Mid 100 τ h) :
    Wp (exs ⟨run tb gl (k + 10), gl⟩ bdy2 τ h) (fun r h' => match r with | .nx τ' => Inv (i + 1) τ' h' | .ct τ' => Inv (i + 1) τ' h' | .bk τ' => False | .rt d => d = .bl true) := by
  obtain ⟨B, o3, o5, o6, o7, o8, o9, text, lt, rfl⟩ := M
  have lt' := sl_small (show text.length ≤ 1000000 by omega)
  simp only [bdy, f_law, bdy2]
  refine wp_cut (fun τ h => Bag 3 2 h ∧ ∃ d, Pl 3 h d ∧ τ = [some (.ref 0), some (.ref 3), some (.str abc), o3, some (.str text), some d, o6, o7, o8, o9]) ?_ ?_
  · simp only [wp_gd, wp_bind, wp_ok, fill_z, fill_n, fill_c, lk_z, lk_s, st_z, st_s, bi_nm, map_s, bind_s, xs_cons, xs_nil, x_asg, x_iset, x_expr, x_ret, x_retn, x_brk, x_cnt, x_pass, x_ife, x_for, seqS_n, seqS_r, seqS_b, seqS_c, outR_r, outR_n, opt_s, setR_r, e_var, e_int, e_str, e_bl, e_non, e_glo, e_tup, e_lst, e_bin, e_neg, e_cmp, e_chain, e_not, e_and, e_or, e_ife, e_call, e_callk, e_blt, e_isi, e_sub, e_slc, e_lc, e_meth, es_nil, es_cons, eo_none, eo_some, et_none, et_some, ei_seq, ei_rng1, intR_i, negR_i, rng1_i, wp_br, br_t, br_f, ret1_s, notR_s, itO_l, itO_f, tr_bl, tr_int, tr_non, b_add, b_sub, b_mul, b_div, b_mod, b_pow, b_sadd, b_tadd, c_lt, c_le, c_gt, c_ge, c_eq, c_ne, c_eqs, c_nes, c_in, c_ni, newl_eq, newt_eq, s_ref, s_tup, s_str, bl_lens, bl_lent, bl_lenr, bl_all, bl_int, bl_list, bl_repr, m_join, m_app, appO_l, sq_t, sq_s, sq_r, items_ref, it_t, bind_ok, gd_t, br_and1, br_and2, br_or1, gd_bind, repO_l, b_rep, ladO_l, b_ladd]
    refine wp_odd B fun d h1 pd B1 F1 => ?_
    (try simp only [wp_gd, wp_bind, wp_ok, fill_z, fill_n, fill_c, lk_z, lk_s, st_z, st_s, bi_nm, map_s, bind_s, xs_cons, xs_nil, x_asg, x_iset, x_expr, x_ret, x_retn, x_brk, x_cnt, x_pass, x_ife, x_for, seqS_n, seqS_r, seqS_b, seqS_c, outR_r, outR_n, opt_s, setR_r, e_var, e_int, e_str, e_bl, e_non, e_glo, e_tup, e_lst, e_bin, e_neg, e_cmp, e_chain, e_not, e_and, e_or, e_ife, e_call, e_callk, e_blt, e_isi, e_sub, e_slc, e_lc, e_meth, es_nil, es_cons, eo_none, eo_some, et_none, et_some, ei_seq, ei_rng1, intR_i, negR_i, rng1_i, wp_br, br_t, br_f, ret1_s, notR_s, itO_l, itO_f, tr_bl, tr_int, tr_non, b_add, b_sub, b_mul, b_div, b_mod, b_pow, b_sadd, b_tadd, c_lt, c_le, c_gt, c_ge, c_eq, c_ne, c_eqs, c_nes, c_in, c_ni, newl_eq, newt_eq, s_ref, s_tup, s_str, bl_lens, bl_lent, bl_lenr, bl_all, bl_int, bl_list, bl_repr, m_join, m_app, appO_l, sq_t, sq_s, sq_r, items_ref, it_t, bind_ok, gd_t, br_and1, br_and2, br_or1, gd_bind, repO_l, b_rep, ladO_l, b_ladd])
    refine ⟨sl_small (by simp), wp_alloc B1 fun n2 h2 c2 e2 B2 F2 => ?_⟩
    (try simp only [wp_gd, wp_bind, wp_ok, fill_z, fill_n, fill_c, lk_z, lk_s, st_z, st_s, bi_nm, map_s, bind_s, xs_cons, xs_nil, x_asg, x_iset, x_expr, x_ret, x_retn, x_brk, x_cnt, x_pass, x_ife, x_for, seqS_n, seqS_r, seqS_b, seqS_c, outR_r, outR_n, opt_s, setR_r, e_var, e_int, e_str, e_bl, e_non, e_glo, e_tup, e_lst, e_bin, e_neg, e_cmp, e_chain, e_not, e_and, e_or, e_ife, e_call, e_callk, e_blt, e_isi, e_sub, e_slc, e_lc, e_meth, es_nil, es_cons, eo_none, eo_some, et_none, et_some, ei_seq, ei_rng1, intR_i, negR_i, rng1_i, wp_br, br_t, br_f, ret1_s, notR_s, itO_l, itO_f, tr_bl, tr_int, tr_non, b_add, b_sub, b_mul, b_div, b_mod, b_pow, b_sadd, b_tadd, c_lt, c_le, c_gt, c_ge, c_eq, c_ne, c_eqs, c_nes, c_in, c_ni, newl_eq, newt_eq, s_ref, s_tup, s_str, bl_lens, bl_lent, bl_lenr, bl_all, bl_int, bl_list, bl_repr, m_join, m_app, appO_l, sq_t, sq_s, sq_r, items_ref, it_t, bind_ok, gd_t, br_and1, br_and2, br_or1, gd_bind, repO_l, b_rep, ladO_l, b_ladd])
    refine wp_ofL rfl rfl B2 e2 c2 (by simp) (by simp) fun d' h3 m B3 F3 => ⟨B3, d', ?_, rfl⟩
    simp only [List.mem_cons, List.not_mem_nil, or_false] at m
    have pd3 := pd.fr (F2.trans F3)
    have pt : Pl 3 h3 (.str text) := (by omega : text.length ≤ 1000)
    rcases m with rfl | rfl | rfl | rfl | rfl | rfl | rfl | rfl
    all_goals first
      | exact pd3
      | exact pt
      | exact Pl_str (by decide)
  rintro τ' h1 ⟨B1, d, pd, rfl⟩
  refine wp_cut (fun τ h => Bag 3 2 h ∧ Pl 3 h d ∧ τ = [some (.ref 0), some (.ref 3), some (.str abc), o3, some (.str text), some d, some (.bl (isW d)), o7, o8, o9]) ?_ ?_
  · have pi := pd.isi
    cases d with
    | str z =>
      have hz : z.length ≤ 1000 := pd
      have hz' : z.length ≤ sizeLine := sl_small (Nat.le_trans hz (by decide))
      simp only [pi, isS, hz', wp_gd, wp_bind, wp_ok, fill_z, fill_n, fill_c, lk_z, lk_s, st_z, st_s, bi_nm, map_s, bind_s, xs_cons, xs_nil, x_asg, x_iset, x_expr, x_ret, x_retn, x_brk, x_cnt, x_pass, x_ife, x_for, seqS_n, seqS_r, seqS_b, seqS_c, outR_r, outR_n, opt_s, setR_r, e_var, e_int, e_str, e_bl, e_non, e_glo, e_tup, e_lst, e_bin, e_neg, e_cmp, e_chain, e_not, e_and, e_or, e_ife, e_call, e_callk, e_blt, e_isi, e_sub, e_slc, e_lc, e_meth, es_nil, es_cons, eo_none, eo_some, et_none, et_some, ei_seq, ei_rng1, intR_i, negR_i, rng1_i, wp_br, br_t, br_f, ret1_s, notR_s, itO_l, itO_f, tr_bl, tr_int, tr_non, b_add, b_sub, b_mul, b_div, b_mod, b_pow, b_sadd, b_tadd, c_lt, c_le, c_gt, c_ge, c_eq, c_ne, c_eqs, c_nes, c_in, c_ni, newl_eq, newt_eq, s_ref, s_tup, s_str, bl_lens, bl_lent, bl_lenr, bl_all, bl_int, bl_list, bl_repr, m_join, m_app, appO_l, sq_t, sq_s, sq_r, items_ref, it_t, bind_ok, gd_t, br_and1, br_and2, br_or1, gd_bind, repO_l, b_rep, ladO_l, b_ladd]
      have e : (decide (0 < (z.length : Int)) && decide ((z.length : Int) < 9)) = (decide (1 ≤ z.length) && decide (z.length ≤ 8)) := by
        congr 1 <;> congr 1 <;> simp <;> omega
      rw [e]
      have ew : isW (.str z) = ((decide (1 ≤ z.length) && decide (z.length ≤ 8)) && z.cps.toList.all fun c => decide (c ∈ abc.cps.toList)) := rfl
      refine ⟨fun h1 => ?_, fun h1 => ?_⟩
      · refine all_abc hz (fun c h' => rfl) ?_
        refine ⟨B1.app, Pl.gr (d := .str z) pd .app, ?_⟩
        rw [ew, h1, Bool.true_and]
      · refine ⟨B1, pd, ?_⟩
        rw [ew, h1, Bool.false_and]
    | _ =>
      simp only [pi, isS, wp_gd, wp_bind, wp_ok, fill_z, fill_n, fill_c, lk_z, lk_s, st_z, st_s, bi_nm, map_s, bind_s, xs_cons, xs_nil, x_asg, x_iset, x_expr, x_ret, x_retn, x_brk, x_cnt, x_pass, x_ife, x_for, seqS_n, seqS_r, seqS_b, seqS_c, outR_r, outR_n, opt_s, setR_r, e_var, e_int, e_str, e_bl, e_non, e_glo, e_tup, e_lst, e_bin, e_neg, e_cmp, e_chain, e_not, e_and, e_or, e_ife, e_call, e_callk, e_blt, e_isi, e_sub, e_slc, e_lc, e_meth, es_nil, es_cons, eo_none, eo_some, et_none, et_some, ei_seq, ei_rng1, intR_i, negR_i, rng1_i, wp_br, br_t, br_f, ret1_s, notR_s, itO_l, itO_f, tr_bl, tr_int, tr_non, b_add, b_sub, b_mul, b_div, b_mod, b_pow, b_sadd, b_tadd, c_lt, c_le, c_gt, c_ge, c_eq, c_ne, c_eqs, c_nes, c_in, c_ni, newl_eq, newt_eq, s_ref, s_tup, s_str, bl_lens, bl_lent, bl_lenr, bl_all, bl_int, bl_list, bl_repr, m_join, m_app, appO_l, sq_t, sq_s, sq_r, items_ref, it_t, bind_ok, gd_t, br_and1, br_and2, br_or1, gd_bind, repO_l, b_rep, ladO_l, b_ladd]
      exact ⟨B1, pd, rfl⟩
  rintro τ' h2 ⟨B2, pd2, rfl⟩
  simp only [wp_gd, wp_bind, wp_ok, fill_z, fill_n, fill_c, lk_z, lk_s, st_z, st_s, bi_nm, map_s, bind_s, xs_cons, xs_nil, x_asg, x_iset, x_expr, x_ret, x_retn, x_brk, x_cnt, x_pass, x_ife, x_for, seqS_n, seqS_r, seqS_b, seqS_c, outR_r, outR_n, opt_s, setR_r, e_var, e_int, e_str, e_bl, e_non, e_glo, e_tup, e_lst, e_bin, e_neg, e_cmp, e_chain, e_not, e_and, e_or, e_ife, e_call, e_callk, e_blt, e_isi, e_sub, e_slc, e_lc, e_meth, es_nil, es_cons, eo_none, eo_some, et_none, et_some, ei_seq, ei_rng1, intR_i, negR_i, rng1_i, wp_br, br_t, br_f, ret1_s, notR_s, itO_l, itO_f, tr_bl, tr_int, tr_non, b_add, b_sub, b_mul, b_div, b_mod, b_pow, b_sadd, b_tadd, c_lt, c_le, c_gt, c_ge, c_eq, c_ne, c_eqs, c_nes, c_in, c_ni, newl_eq, newt_eq, s_ref, s_tup, s_str, bl_lens, bl_lent, bl_lenr, bl_all, bl_int, bl_list, bl_repr, m_join, m_app, appO_l, sq_t, sq_s, sq_r, items_ref, it_t, bind_ok, gd_t, br_and1, br_and2, br_or1, gd_bind, repO_l, b_rep, ladO_l, b_ladd]
  refine wp_word pd2 fun h3 G3 => ?_
  (try simp only [wp_gd, wp_bind, wp_ok, fill_z, fill_n, fill_c, lk_z, lk_s, st_z, st_s, bi_nm, map_s, bind_s, xs_cons, xs_nil, x_asg, x_iset, x_expr, x_ret, x_retn, x_brk, x_cnt, x_pass, x_ife, x_for, seqS_n, seqS_r, seqS_b, seqS_c, outR_r, outR_n, opt_s, setR_r, e_var, e_int, e_str, e_bl, e_non, e_glo, e_tup, e_lst, e_bin, e_neg, e_cmp, e_chain, e_not, e_and, e_or, e_ife, e_call, e_callk, e_blt, e_isi, e_sub, e_slc, e_lc, e_meth, es_nil, es_cons, eo_none, eo_some, et_none, et_some, ei_seq, ei_rng1, intR_i, negR_i, rng1_i, wp_br, br_t, br_f, ret1_s, notR_s, itO_l, itO_f, tr_bl, tr_int, tr_non, b_add, b_sub, b_mul, b_div, b_mod, b_pow, b_sadd, b_tadd, c_lt, c_le, c_gt, c_ge, c_eq, c_ne, c_eqs, c_nes, c_in, c_ni, newl_eq, newt_eq, s_ref, s_tup, s_str, bl_lens, bl_lent, bl_lenr, bl_all, bl_int, bl_list, bl_repr, m_join, m_app, appO_l, sq_t, sq_s, sq_r, items_ref, it_t, bind_ok, gd_t, br_and1, br_and2, br_or1, gd_bind, repO_l, b_rep, ladO_l, b_ladd])
  refine wp_name (Pl.gr pd2 G3) fun h4 G4 => ?_
  (try simp only [wp_gd, wp_bind, wp_ok, fill_z, fill_n, fill_c, lk_z, lk_s, st_z, st_s, bi_nm, map_s, bind_s, xs_cons, xs_nil, x_asg, x_iset, x_expr, x_ret, x_retn, x_brk, x_cnt, x_pass, x_ife, x_for, seqS_n, seqS_r, seqS_b, seqS_c, outR_r, outR_n, opt_s, setR_r, e_var, e_int, e_str, e_bl, e_non, e_glo, e_tup, e_lst, e_bin, e_neg, e_cmp, e_chain, e_not, e_and, e_or, e_ife, e_call, e_callk, e_blt, e_isi, e_sub, e_slc, e_lc, e_meth, es_nil, es_cons, eo_none, eo_some, et_none, et_some, ei_seq, ei_rng1, intR_i, negR_i, rng1_i, wp_br, br_t, br_f, ret1_s, notR_s, itO_l, itO_f, tr_bl, tr_int, tr_non, b_add, b_sub, b_mul, b_div, b_mod, b_pow, b_sadd, b_tadd, c_lt, c_le, c_gt, c_ge, c_eq, c_ne, c_eqs, c_nes, c_in, c_ni, newl_eq, newt_eq, s_ref, s_tup, s_str, bl_lens, bl_lent, bl_lenr, bl_all, bl_int, bl_list, bl_repr, m_join, m_app, appO_l, sq_t, sq_s, sq_r, items_ref, it_t, bind_ok, gd_t, br_and1, br_and2, br_or1, gd_bind, repO_l, b_rep, ladO_l, b_ladd])
  have B4 : Bag 3 2 h4 := (G3.trans G4).bag B2
  refine ⟨sl_small (by simp), wp_alloc B4 fun n5 h5 c5 e5 B5 F5 => ?_⟩
  have fin : ∀ n6 h6, h6[n5]? = some (.lst [.bl (isW d), .bl (isN d)]) → h6[n6]? = some (.lst [.bl (isW d), .bl (isN d)]) → Bag 3 2 h6 → Wp (run tb gl (k + 10) "_law_same" [.ref n5, .ref n6] h6) fun a h =>
                  Wp (notR (truth h a) h) fun a h =>
                    Wp
                      (br (truth h a) (Re.ok (Fl.rt (D.bl false)) h)
                        (Re.ok
                          (Fl.nx
                            [some (D.ref 0), some (D.ref 3), some (D.str abc), o3, some (D.str text), some d,
                              some (D.bl (isW d)), o7, o8, o9])
                          h))
                      fun a h =>
                      Wp (seqS { cf := run tb gl (k + 10), gl := gl } Ss.nil a h) fun r h' =>
                        match r with
                        | Fl.nx τ' => Inv (i + 1) τ' h'
                        | Fl.ct τ' => Inv (i + 1) τ' h'
                        | Fl.bk τ' => False
                        | Fl.rt d => d = D.bl true := by
    intro n6 h6 e5 e6 B6
    refine wp_same (p := .list [.bool (isW d), .bool (isN d)]) rfl (dat_lst e5 rfl) (dat_lst e6 rfl) (sl_small ?_) ?_
    · have : ∀ a b : Bool, (PyData.list [.bool a, .bool b]).shown.length ≤ 1000000 := by decide
      exact this _ _
    · simp only [wp_gd, wp_bind, wp_ok, fill_z, fill_n, fill_c, lk_z, lk_s, st_z, st_s, bi_nm, map_s, bind_s, xs_cons, xs_nil, x_asg, x_iset, x_expr, x_ret, x_retn, x_brk, x_cnt, x_pass, x_ife, x_for, seqS_n, seqS_r, seqS_b, seqS_c, outR_r, outR_n, opt_s, setR_r, e_var, e_int, e_str, e_bl, e_non, e_glo, e_tup, e_lst, e_bin, e_neg, e_cmp, e_chain, e_not, e_and, e_or, e_ife, e_call, e_callk, e_blt, e_isi, e_sub, e_slc, e_lc, e_meth, es_nil, es_cons, eo_none, eo_some, et_none, et_some, ei_seq, ei_rng1, intR_i, negR_i, rng1_i, wp_br, br_t, br_f, ret1_s, notR_s, itO_l, itO_f, tr_bl, tr_int, tr_non, b_add, b_sub, b_mul, b_div, b_mod, b_pow, b_sadd, b_tadd, c_lt, c_le, c_gt, c_ge, c_eq, c_ne, c_eqs, c_nes, c_in, c_ni, newl_eq, newt_eq, s_ref, s_tup, s_str, bl_lens, bl_lent, bl_lenr, bl_all, bl_int, bl_list, bl_repr, m_join, m_app, appO_l, sq_t, sq_s, sq_r, items_ref, it_t, bind_ok, gd_t, br_and1, br_and2, br_or1, gd_bind, repO_l, b_rep, ladO_l, b_ladd, Bool.not_true]
      exact ⟨B6, _, _, _, _, _, _, _, rfl⟩
  (try simp only [wp_gd, wp_bind, wp_ok, fill_z, fill_n, fill_c, lk_z, lk_s, st_z, st_s, bi_nm, map_s, bind_s, xs_cons, xs_nil, x_asg, x_iset, x_expr, x_ret, x_retn, x_brk, x_cnt, x_pass, x_ife, x_for, seqS_n, seqS_r, seqS_b, seqS_c, outR_r, outR_n, opt_s, setR_r, e_var, e_int, e_str, e_bl, e_non, e_glo, e_tup, e_lst, e_bin, e_neg, e_cmp, e_chain, e_not, e_and, e_or, e_ife, e_call, e_callk, e_blt, e_isi, e_sub, e_slc, e_lc, e_meth, es_nil, es_cons, eo_none, eo_some, et_none, et_some, ei_seq, ei_rng1, intR_i, negR_i, rng1_i, wp_br, br_t, br_f, ret1_s, notR_s, itO_l, itO_f, tr_bl, tr_int, tr_non, b_add, b_sub, b_mul, b_div, b_mod, b_pow, b_sadd, b_tadd, c_lt, c_le, c_gt, c_ge, c_eq, c_ne, c_eqs, c_nes, c_in, c_ni, newl_eq, newt_eq, s_ref, s_tup, s_str, bl_lens, bl_lent, bl_lenr, bl_all, bl_int, bl_list, bl_repr, m_join, m_app, appO_l, sq_t, sq_s, sq_r, items_ref, it_t, bind_ok, gd_t, br_and1, br_and2, br_or1, gd_bind, repO_l, b_rep, ladO_l, b_ladd])
  refine ⟨fun hw => ⟨sl_small (by simp), wp_alloc B5 fun n6 h6 c6 e6 B6 F6 => ?_⟩, fun hw => ⟨sl_small (by simp), wp_alloc B5 fun n6 h6 c6 e6 B6 F6 => ?_⟩⟩
  · cases d with
    | str z =>
      simp only [isin_lst (a := .str z) (vs := [.str "inside", .str "removal"]) rfl e6 rfl, wp_gd, wp_bind, wp_ok, fill_z, fill_n, fill_c, lk_z, lk_s, st_z, st_s, bi_nm, map_s, bind_s, xs_cons, xs_nil, x_asg, x_iset, x_expr, x_ret, x_retn, x_brk, x_cnt, x_pass, x_ife, x_for, seqS_n, seqS_r, seqS_b, seqS_c, outR_r, outR_n, opt_s, setR_r, e_var, e_int, e_str, e_bl, e_non, e_glo, e_tup, e_lst, e_bin, e_neg, e_cmp, e_chain, e_not, e_and, e_or, e_ife, e_call, e_callk, e_blt, e_isi, e_sub, e_slc, e_lc, e_meth, es_nil, es_cons, eo_none, eo_some, et_none, et_some, ei_seq, ei_rng1, intR_i, negR_i, rng1_i, wp_br, br_t, br_f, ret1_s, notR_s, itO_l, itO_f, tr_bl, tr_int, tr_non, b_add, b_sub, b_mul, b_div, b_mod, b_pow, b_sadd, b_tadd, c_lt, c_le, c_gt, c_ge, c_eq, c_ne, c_eqs, c_nes, c_in, c_ni, newl_eq, newt_eq, s_ref, s_tup, s_str, bl_lens, bl_lent, bl_lenr, bl_all, bl_int, bl_list, bl_repr, m_join, m_app, appO_l, sq_t, sq_s, sq_r, items_ref, it_t, bind_ok, gd_t, br_and1, br_and2, br_or1, gd_bind, repO_l, b_rep, ladO_l, b_ladd]
      refine ⟨sl_small (by simp), wp_alloc B6 fun n7 h7 c7 e7 B7 F7 => ?_⟩
      have en : isN (.str z) = !resv z := by rw [isN_word, hw, Bool.true_and]
      refine fin n7 h7 (F7 _ _ c5 (F6 _ _ c5 e5)) ?_ B7
      rw [e7, en]
      rfl
    | _ => cases hw
  · have en : isN d = false := by
      cases d with
      | str z => rw [isN_word, hw, Bool.false_and]
      | _ => rfl
    refine fin n6 h6 (F6 _ _ c5 e5) ?_ B6
    rw [e6, en, hw]
theorem round {k i : Nat} {τ : List (Option D)} {h : IH} {n : Int} (I : Inv i τ h) :
    Wp (forTurn ⟨run tb gl (k + 10), gl⟩ (.nm 3) bdy (.int n) τ h) (fun r h' => match r with | .nx τ' => Inv (i + 1) τ' h' | .ct τ' => Inv (i + 1) τ' h' | .bk τ' => False | .rt d => d = .bl true) := by
  obtain ⟨B, o3, o4, o5, o6, o7, o8, o9, rfl⟩ := I
  simp only [forTurn, bi_nm, st_z, st_s, map_s, opt_s, bind_ok]
  refine wp_cut (Mid 12) (round1 B) fun τ1 h1 M1 => ?_
  exact wp_cut (Mid 100) (round2 M1) fun τ2 h2 M2 => round3 M2
theorem wp_word_lit {k : Nat} {h : IH} {x : Str} {Q : D → IH → Prop} (e : decide (x.length ≤ 1000) = true) (w : isW (.str x) = true) (q : ∀ h', Gr h h' → Q (.bl true) h') : Wp (run tb gl (k + 1) "is_word" [.str x] h) Q :=
  wp_word (b := 3) (Pl_str e) fun h' G => by rw [w]; exact q h' G
theorem wp_name_lit {k : Nat} {h : IH} {x : Str} {Q : D → IH → Prop} (e : decide (x.length ≤ 1000) = true) (w : isN (.str x) = true) (q : ∀ h', Gr h h' → Q (.bl true) h') : Wp (run tb gl (k + 2) "is_name" [.str x] h) Q :=
  wp_name (b := 3) (Pl_str e) fun h' G => by rw [w]; exact q h' G
theorem law {k : Nat} {ns : List Int} : Wp (run tb gl (k + 11) "law" [.ref 0] [.fro (ns.map D.int)]) (fun r _ => r = .bl true) := by
  rw [run_eq (fn := f_law.fn) rfl rfl (by decide)]
  simp only [Fi.fn, f_law, List.length_cons, List.length_nil]
  refine wp_bind ▸ wp_cut (fun τ h => Bag 3 2 h ∧ τ = [some (.ref 0), some (.ref 3), none, none, none, none, none, none, none, none]) ?_ ?_
  · simp only [wp_gd, wp_bind, wp_ok, fill_z, fill_n, fill_c, lk_z, lk_s, st_z, st_s, bi_nm, map_s, bind_s, xs_cons, xs_nil, x_asg, x_iset, x_expr, x_ret, x_retn, x_brk, x_cnt, x_pass, x_ife, x_for, seqS_n, seqS_r, seqS_b, seqS_c, outR_r, outR_n, opt_s, setR_r, e_var, e_int, e_str, e_bl, e_non, e_glo, e_tup, e_lst, e_bin, e_neg, e_cmp, e_chain, e_not, e_and, e_or, e_ife, e_call, e_callk, e_blt, e_isi, e_sub, e_slc, e_lc, e_meth, es_nil, es_cons, eo_none, eo_some, et_none, et_some, ei_seq, ei_rng1, intR_i, negR_i, rng1_i, wp_br, br_t, br_f, ret1_s, notR_s, itO_l, itO_f, tr_bl, tr_int, tr_non, b_add, b_sub, b_mul, b_div, b_mod, b_pow, b_sadd, b_tadd, c_lt, c_le, c_gt, c_ge, c_eq, c_ne, c_eqs, c_nes, c_in, c_ni, newl_eq, newt_eq, s_ref, s_tup, s_str, bl_lens, bl_lent, bl_lenr, bl_all, bl_int, bl_list, bl_repr, m_join, m_app, appO_l, sq_t, sq_s, sq_r, items_ref, it_t, bind_ok, gd_t, br_and1, br_and2, br_or1, gd_bind, repO_l, b_rep, ladO_l, b_ladd]
    exact wp_open (seed := 57951) rfl (by decide) (by decide) fun h B => ⟨B, rfl⟩
  rintro τ h ⟨B, rfl⟩
  refine wp_cut (Inv 0) (by simp only [wp_gd, wp_bind, wp_ok, fill_z, fill_n, fill_c, lk_z, lk_s, st_z, st_s, bi_nm, map_s, bind_s, xs_cons, xs_nil, x_asg, x_iset, x_expr, x_ret, x_retn, x_brk, x_cnt, x_pass, x_ife, x_for, seqS_n, seqS_r, seqS_b, seqS_c, outR_r, outR_n, opt_s, setR_r, e_var, e_int, e_str, e_bl, e_non, e_glo, e_tup, e_lst, e_bin, e_neg, e_cmp, e_chain, e_not, e_and, e_or, e_ife, e_call, e_callk, e_blt, e_isi, e_sub, e_slc, e_lc, e_meth, es_nil, es_cons, eo_none, eo_some, et_none, et_some, ei_seq, ei_rng1, intR_i, negR_i, rng1_i, wp_br, br_t, br_f, ret1_s, notR_s, itO_l, itO_f, tr_bl, tr_int, tr_non, b_add, b_sub, b_mul, b_div, b_mod, b_pow, b_sadd, b_tadd, c_lt, c_le, c_gt, c_ge, c_eq, c_ne, c_eqs, c_nes, c_in, c_ni, newl_eq, newt_eq, s_ref, s_tup, s_str, bl_lens, bl_lent, bl_lenr, bl_all, bl_int, bl_list, bl_repr, m_join, m_app, appO_l, sq_t, sq_s, sq_r, items_ref, it_t, bind_ok, gd_t, br_and1, br_and2, br_or1, gd_bind, repO_l, b_rep, ladO_l, b_ladd]; exact ⟨B, _, _, _, _, _, _, _, rfl⟩) fun τ1 h1 I => ?_
  refine wp_cut (Inv 8) ?_ fun τ2 h2 I2 => ?_
  · simp only [x_for, ei_rng1, e_int, bind_ok, rng1_i, gd_bind, wp_gd]
    refine ⟨by decide, wp_forR (n := 8) Inv I (fun i τ h hi Ii => (round Ii).mono fun r h' p => ?_) fun τ h Ii => Ii⟩
    cases r with
    | nx τ' => exact p
    | ct τ' => exact p
    | bk τ' => exact p.elim
    | rt d => simp only [wp_gd, wp_bind, wp_ok, fill_z, fill_n, fill_c, lk_z, lk_s, st_z, st_s, bi_nm, map_s, bind_s, xs_cons, xs_nil, x_asg, x_iset, x_expr, x_ret, x_retn, x_brk, x_cnt, x_pass, x_ife, x_for, seqS_n, seqS_r, seqS_b, seqS_c, outR_r, outR_n, opt_s, setR_r, e_var, e_int, e_str, e_bl, e_non, e_glo, e_tup, e_lst, e_bin, e_neg, e_cmp, e_chain, e_not, e_and, e_or, e_ife, e_call, e_callk, e_blt, e_isi, e_sub, e_slc, e_lc, e_meth, es_nil, es_cons, eo_none, eo_some, et_none, et_some, ei_seq, ei_rng1, intR_i, negR_i, rng1_i, wp_br, br_t, br_f, ret1_s, notR_s, itO_l, itO_f, tr_bl, tr_int, tr_non, b_add, b_sub, b_mul, b_div, b_mod, b_pow, b_sadd, b_tadd, c_lt, c_le, c_gt, c_ge, c_eq, c_ne, c_eqs, c_nes, c_in, c_ni, newl_eq, newt_eq, s_ref, s_tup, s_str, bl_lens, bl_lent, bl_lenr, bl_all, bl_int, bl_list, bl_repr, m_join, m_app, appO_l, sq_t, sq_s, sq_r, items_ref, it_t, bind_ok, gd_t, br_and1, br_and2, br_or1, gd_bind, repO_l, b_rep, ladO_l, b_ladd]; exact p
  obtain ⟨B2, o3, o4, o5, o6, o7, o8, o9, rfl⟩ := I2
  simp only [wp_gd, wp_bind, wp_ok, fill_z, fill_n, fill_c, lk_z, lk_s, st_z, st_s, bi_nm, map_s, bind_s, xs_cons, xs_nil, x_asg, x_iset, x_expr, x_ret, x_retn, x_brk, x_cnt, x_pass, x_ife, x_for, seqS_n, seqS_r, seqS_b, seqS_c, outR_r, outR_n, opt_s, setR_r, e_var, e_int, e_str, e_bl, e_non, e_glo, e_tup, e_lst, e_bin, e_neg, e_cmp, e_chain, e_not, e_and, e_or, e_ife, e_call, e_callk, e_blt, e_isi, e_sub, e_slc, e_lc, e_meth, es_nil, es_cons, eo_none, eo_some, et_none, et_some, ei_seq, ei_rng1, intR_i, negR_i, rng1_i, wp_br, br_t, br_f, ret1_s, notR_s, itO_l, itO_f, tr_bl, tr_int, tr_non, b_add, b_sub, b_mul, b_div, b_mod, b_pow, b_sadd, b_tadd, c_lt, c_le, c_gt, c_ge, c_eq, c_ne, c_eqs, c_nes, c_in, c_ni, newl_eq, newt_eq, s_ref, s_tup, s_str, bl_lens, bl_lent, bl_lenr, bl_all, bl_int, bl_list, bl_repr, m_join, m_app, appO_l, sq_t, sq_s, sq_r, items_ref, it_t, bind_ok, gd_t, br_and1, br_and2, br_or1, gd_bind, repO_l, b_rep, ladO_l, b_ladd]
  refine wp_word_lit (by decide) (by decide) fun h3 G3 => ?_
  (try simp only [wp_gd, wp_bind, wp_ok, fill_z, fill_n, fill_c, lk_z, lk_s, st_z, st_s, bi_nm, map_s, bind_s, xs_cons, xs_nil, x_asg, x_iset, x_expr, x_ret, x_retn, x_brk, x_cnt, x_pass, x_ife, x_for, seqS_n, seqS_r, seqS_b, seqS_c, outR_r, outR_n, opt_s, setR_r, e_var, e_int, e_str, e_bl, e_non, e_glo, e_tup, e_lst, e_bin, e_neg, e_cmp, e_chain, e_not, e_and, e_or, e_ife, e_call, e_callk, e_blt, e_isi, e_sub, e_slc, e_lc, e_meth, es_nil, es_cons, eo_none, eo_some, et_none, et_some, ei_seq, ei_rng1, intR_i, negR_i, rng1_i, wp_br, br_t, br_f, ret1_s, notR_s, itO_l, itO_f, tr_bl, tr_int, tr_non, b_add, b_sub, b_mul, b_div, b_mod, b_pow, b_sadd, b_tadd, c_lt, c_le, c_gt, c_ge, c_eq, c_ne, c_eqs, c_nes, c_in, c_ni, newl_eq, newt_eq, s_ref, s_tup, s_str, bl_lens, bl_lent, bl_lenr, bl_all, bl_int, bl_list, bl_repr, m_join, m_app, appO_l, sq_t, sq_s, sq_r, items_ref, it_t, bind_ok, gd_t, br_and1, br_and2, br_or1, gd_bind, repO_l, b_rep, ladO_l, b_ladd])
  refine wp_name_lit (by decide) (by decide) fun h4 G4 => ?_
  (try simp only [wp_gd, wp_bind, wp_ok, fill_z, fill_n, fill_c, lk_z, lk_s, st_z, st_s, bi_nm, map_s, bind_s, xs_cons, xs_nil, x_asg, x_iset, x_expr, x_ret, x_retn, x_brk, x_cnt, x_pass, x_ife, x_for, seqS_n, seqS_r, seqS_b, seqS_c, outR_r, outR_n, opt_s, setR_r, e_var, e_int, e_str, e_bl, e_non, e_glo, e_tup, e_lst, e_bin, e_neg, e_cmp, e_chain, e_not, e_and, e_or, e_ife, e_call, e_callk, e_blt, e_isi, e_sub, e_slc, e_lc, e_meth, es_nil, es_cons, eo_none, eo_some, et_none, et_some, ei_seq, ei_rng1, intR_i, negR_i, rng1_i, wp_br, br_t, br_f, ret1_s, notR_s, itO_l, itO_f, tr_bl, tr_int, tr_non, b_add, b_sub, b_mul, b_div, b_mod, b_pow, b_sadd, b_tadd, c_lt, c_le, c_gt, c_ge, c_eq, c_ne, c_eqs, c_nes, c_in, c_ni, newl_eq, newt_eq, s_ref, s_tup, s_str, bl_lens, bl_lent, bl_lenr, bl_all, bl_int, bl_list, bl_repr, m_join, m_app, appO_l, sq_t, sq_s, sq_r, items_ref, it_t, bind_ok, gd_t, br_and1, br_and2, br_or1, gd_bind, repO_l, b_rep, ladO_l, b_ladd])
  refine wp_word_lit (by decide) (by decide) fun h5 G5 => ?_
  (try simp only [wp_gd, wp_bind, wp_ok, fill_z, fill_n, fill_c, lk_z, lk_s, st_z, st_s, bi_nm, map_s, bind_s, xs_cons, xs_nil, x_asg, x_iset, x_expr, x_ret, x_retn, x_brk, x_cnt, x_pass, x_ife, x_for, seqS_n, seqS_r, seqS_b, seqS_c, outR_r, outR_n, opt_s, setR_r, e_var, e_int, e_str, e_bl, e_non, e_glo, e_tup, e_lst, e_bin, e_neg, e_cmp, e_chain, e_not, e_and, e_or, e_ife, e_call, e_callk, e_blt, e_isi, e_sub, e_slc, e_lc, e_meth, es_nil, es_cons, eo_none, eo_some, et_none, et_some, ei_seq, ei_rng1, intR_i, negR_i, rng1_i, wp_br, br_t, br_f, ret1_s, notR_s, itO_l, itO_f, tr_bl, tr_int, tr_non, b_add, b_sub, b_mul, b_div, b_mod, b_pow, b_sadd, b_tadd, c_lt, c_le, c_gt, c_ge, c_eq, c_ne, c_eqs, c_nes, c_in, c_ni, newl_eq, newt_eq, s_ref, s_tup, s_str, bl_lens, bl_lent, bl_lenr, bl_all, bl_int, bl_list, bl_repr, m_join, m_app, appO_l, sq_t, sq_s, sq_r, items_ref, it_t, bind_ok, gd_t, br_and1, br_and2, br_or1, gd_bind, repO_l, b_rep, ladO_l, b_ladd])
  have B5 := G5.bag (G4.bag (G3.bag B2))
  refine ⟨sl_small (by simp), wp_alloc B5 fun n6 h6 c6 e6 B6 F6 => ?_⟩
  (try simp only [wp_gd, wp_bind, wp_ok, fill_z, fill_n, fill_c, lk_z, lk_s, st_z, st_s, bi_nm, map_s, bind_s, xs_cons, xs_nil, x_asg, x_iset, x_expr, x_ret, x_retn, x_brk, x_cnt, x_pass, x_ife, x_for, seqS_n, seqS_r, seqS_b, seqS_c, outR_r, outR_n, opt_s, setR_r, e_var, e_int, e_str, e_bl, e_non, e_glo, e_tup, e_lst, e_bin, e_neg, e_cmp, e_chain, e_not, e_and, e_or, e_ife, e_call, e_callk, e_blt, e_isi, e_sub, e_slc, e_lc, e_meth, es_nil, es_cons, eo_none, eo_some, et_none, et_some, ei_seq, ei_rng1, intR_i, negR_i, rng1_i, wp_br, br_t, br_f, ret1_s, notR_s, itO_l, itO_f, tr_bl, tr_int, tr_non, b_add, b_sub, b_mul, b_div, b_mod, b_pow, b_sadd, b_tadd, c_lt, c_le, c_gt, c_ge, c_eq, c_ne, c_eqs, c_nes, c_in, c_ni, newl_eq, newt_eq, s_ref, s_tup, s_str, bl_lens, bl_lent, bl_lenr, bl_all, bl_int, bl_list, bl_repr, m_join, m_app, appO_l, sq_t, sq_s, sq_r, items_ref, it_t, bind_ok, gd_t, br_and1, br_and2, br_or1, gd_bind, repO_l, b_rep, ladO_l, b_ladd])
  refine ⟨sl_small (by simp), wp_alloc B6 fun n7 h7 c7 e7 B7 F7 => ?_⟩
  simp only [wp_gd, wp_bind, wp_ok, fill_z, fill_n, fill_c, lk_z, lk_s, st_z, st_s, bi_nm, map_s, bind_s, xs_cons, xs_nil, x_asg, x_iset, x_expr, x_ret, x_retn, x_brk, x_cnt, x_pass, x_ife, x_for, seqS_n, seqS_r, seqS_b, seqS_c, outR_r, outR_n, opt_s, setR_r, e_var, e_int, e_str, e_bl, e_non, e_glo, e_tup, e_lst, e_bin, e_neg, e_cmp, e_chain, e_not, e_and, e_or, e_ife, e_call, e_callk, e_blt, e_isi, e_sub, e_slc, e_lc, e_meth, es_nil, es_cons, eo_none, eo_some, et_none, et_some, ei_seq, ei_rng1, intR_i, negR_i, rng1_i, wp_br, br_t, br_f, ret1_s, notR_s, itO_l, itO_f, tr_bl, tr_int, tr_non, b_add, b_sub, b_mul, b_div, b_mod, b_pow, b_sadd, b_tadd, c_lt, c_le, c_gt, c_ge, c_eq, c_ne, c_eqs, c_nes, c_in, c_ni, newl_eq, newt_eq, s_ref, s_tup, s_str, bl_lens, bl_lent, bl_lenr, bl_all, bl_int, bl_list, bl_repr, m_join, m_app, appO_l, sq_t, sq_s, sq_r, items_ref, it_t, bind_ok, gd_t, br_and1, br_and2, br_or1, gd_bind, repO_l, b_rep, ladO_l, b_ladd, e7]
  refine ⟨by simp; exact sl_small (by decide), wp_alloc B7 fun n8 h8 c8 e8 B8 F8 => ?_⟩
  refine wp_same (p := .list [.bool true, .bool true, .bool true]) rfl (dat_lst (F8 _ _ c6 (F7 _ _ c6 e6)) rfl) (dat_lst e8 rfl) (sl_small (by decide)) ?_
  rfl
theorem ans : ∀ ns : List Int, ns.length ≤ 63 → ∃ h', run (tbl fis) (glOf cs) 21 f_law.name [.ref 0] [.fro (ns.map D.int)] = .ok (.bl true) h' := by
  intro ns _
  obtain ⟨a, h, e, q⟩ := (law (k := 10) (ns := ns)).at
  subst q
  exact ⟨h, e⟩
end Ly.U.K01
namespace K01
open PySem PySem.Spec PyProof.Rows L2 Ly
abbrev RR : PySem.W.OpenRow := PySem.W.OpenLaw.row PySem.Challenge.rw_outofuse_k01_names_and_words
abbrev hk : PySem.W.Hook := hookL 4 fis cs
def ob (s : PySem.W.SharedT) : AlL := obsL 4 fis cs (HandSHeadRun.getT s)
theorem ob_eq (s : PySem.W.SharedT) : ob s = hk.obs s.abs := obsL_eq (HandSHeadRun.getT_eq s)
def loose : List Str := ["LETTERS", "MOST_LETTERS", "RESERVED", "is_word", "is_name", "_law_open", "_law_draw", "_law_of", "_law_same", "_law_any_odd"]
theorem run_top (w : World) : HandSHeadRun.RunEq RR (PySem.W.view RR.prog [12]) hk ob 3000 loose w := by
  intro os
  kernel_rfl
end K01
open PySem PySem.W PySem.Calls PyProof.Rows
set_option maxRecDepth 100000 in
set_option maxHeartbeats 0 in
theorem PySem.Challenge.cw_outofuse_k01_names_and_words_holds : PySem.Challenge.rw_outofuse_k01_names_and_words.Holds := by
  w_on; o_law
  refine HandSHeadRun.head_any (r := K01.RR) (q := view K01.RR.prog [12]) (H := K01.hk) (ob := K01.ob) (M := 3000) (loose := K01.loose) (d := HandSHeadRun.topDef K01.RR.prog 12) (kwd := []) K01.ob_eq
    (by kernel_rfl) (fun s => by kernel_rfl) K01.run_top (by kernel_rfl) (by kernel_rfl) (by kernel_rfl) (by rfl) (by first | assumption | decide +kernel) (by decide +kernel) ⟨rfl, rfl, rfl, rfl, rfl, by decide +kernel⟩ ?hw ?hc
  case hw => w_witness2
  case hc =>
    exact Ly.end_run (l := PySem.Challenge.rw_outofuse_k01_names_and_words) (k := 20) (x := "_law_script") (li := K01.f_law) rfl (by kernel_rfl) ⟨rfl, by decide, by decide⟩ K01.chk K01.binds (by simp [K01.fis]) rfl (by kernel_rfl) Ly.U.K01.ans
