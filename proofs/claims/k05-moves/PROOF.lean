import PyProof.Rows.All
import Wide.All
import OpenK.AllK
import Wide.FinOn
import HandS.ForMost
import HandS.ForExc
import HandS.Deep
import HandS.TupAny
import HandS.IsInst
import HandS.TupLe
import HandS.Style
import HandS.ExcCtx
import HandS.ExcOwn
import HandS.WordsExc
import HandS.Defaults
import HandS.Conv
import HandS.HeadEnd
import HandS.HeadHook2
import HandS.Head2
import HandS.Comp
import HandS.SortInts
import HandS.More
import HandS.TryMany
import HandS.Iter
import PyProof.ReprRoads
import KE.KUnpack
import KE.KExcIs
import HandS.ExcField
import KE.KExcSuper
import KE.KExcInit
import HandS.ExcSuper
import HandS.ExcInit
import HandS.ExcValue
import HandS.HotCalls
import HandS.HeadHook1
import HandS.Hot
import PyProof.P3Eq
import PySem.Challenge.RW_braidyard_k05_moves_one_by_one
set_option Elab.async false
set_option linter.all false
set_option maxRecDepth 100000
set_option maxHeartbeats 8000000
namespace DL
open PySem PySem.Spec PyProof.Rows L2

/-! ### data -/
inductive D where
  | non | bl (b : Bool) | int (i : Int) | str (x : Str)
  | lst (xs : List D) | tup (xs : List D)
  | scr (ns : List Int)
  deriving Inhabited
/-- an owned thing: frozen data, a list of data, a list of owned things, an instance -/
inductive O where
  | dat (d : D) | lst (xs : List D) | mls (ts : List O) | ins (c : Str) (fs : List (Str × O)) | exn (c : Str) (fs : List (Str × D)) | mtp (ts : List O)
  deriving Inhabited
/-- a slot -/
inductive S where
  | un | dat (d : D) | own (t : O) | al (j : Nat) (p : List Str)
  deriving Inhabited
abbrev Ve := List S

mutual
inductive RD (Z : Hp) : V → D → Prop
  | non : RD Z .non .non
  | bl {b : Bool} : RD Z (.bl b) (.bl b)
  | int {i : Int} : RD Z (.int i) (.int i)
  | str {x : Str} : RD Z (.str x) (.str x)
  | lst {a : Addr} {vs : List V} {ds : List D} : Z a = some (.lst vs) → RDs Z vs ds → RD Z (.ref a) (.lst ds)
  | tup {a : Addr} {vs : List V} {ds : List D} : Z a = some (.tup vs) → RDs Z vs ds → RD Z (.ref a) (.tup ds)
  | scr {a : Addr} {o : Obj} {ns : List Int} : Z a = some (.frz o (.lst (ns.map V.int))) → RD Z (.ref a) (.scr ns)
inductive RDs (Z : Hp) : List V → List D → Prop
  | nil : RDs Z [] []
  | cons {v : V} {d : D} {vs : List V} {ds : List D} : RD Z v d → RDs Z vs ds → RDs Z (v :: vs) (d :: ds)
end
mutual
theorem RD.mono {Z Z' : Hp} (s : Same Z Z') : ∀ {v : V} {d : D}, RD Z v d → RD Z' v d
  | _, _, .non => .non
  | _, _, .bl => .bl
  | _, _, .int => .int
  | _, _, .str => .str
  | _, _, .lst h r => .lst (s _ _ h) (RDs.mono s r)
  | _, _, .tup h r => .tup (s _ _ h) (RDs.mono s r)
  | _, _, .scr h => .scr (s _ _ h)
theorem RDs.mono {Z Z' : Hp} (s : Same Z Z') : ∀ {vs : List V} {ds : List D}, RDs Z vs ds → RDs Z' vs ds
  | _, _, .nil => .nil
  | _, _, .cons h r => .cons (RD.mono s h) (RDs.mono s r)
end
theorem RDs.length {Z : Hp} : ∀ {vs : List V} {ds : List D}, RDs Z vs ds → vs.length = ds.length
  | _, _, .nil => rfl
  | _, _, .cons _ r => congrArg Nat.succ (RDs.length r)
theorem RDs.get {Z : Hp} : ∀ {vs : List V} {ds : List D} {i : Nat} {v : V}, RDs Z vs ds → vs[i]? = some v → ∃ d, ds[i]? = some d ∧ RD Z v d
  | _, _, _, _, .nil, e => by simp at e
  | _, _, 0, _, .cons h _, e => by simp at e; subst e; exact ⟨_, rfl, h⟩
  | _, _, i + 1, v, .cons _ r, e => by
    obtain ⟨d, h1, h2⟩ := RDs.get (i := i) (v := v) r (by simpa using e)
    exact ⟨d, by simpa using h1, h2⟩
theorem RDs.getd {Z : Hp} : ∀ {vs : List V} {ds : List D} {i : Nat} {d : D}, RDs Z vs ds → ds[i]? = some d → ∃ v, vs[i]? = some v ∧ RD Z v d
  | _, _, _, _, .nil, e => by simp at e
  | _, _, 0, _, .cons h _, e => by simp at e; subst e; exact ⟨_, rfl, h⟩
  | _, _, i + 1, v, .cons _ r, e => by
    obtain ⟨d, h1, h2⟩ := RDs.getd (i := i) (d := v) r (by simpa using e)
    exact ⟨d, by simpa using h1, h2⟩
theorem RDs.set {Z : Hp} {x : V} {d : D} (r : RD Z x d) : ∀ {xs : List V} {us : List D} (i : Nat), RDs Z xs us → RDs Z (xs.set i x) (us.set i d)
  | _, _, _, .nil => .nil
  | _, _, 0, .cons _ t => .cons r t
  | _, _, i + 1, .cons q t => .cons q (RDs.set r i t)
theorem RDs.append {Z : Hp} : ∀ {xs ys : List V} {us ws : List D}, RDs Z xs us → RDs Z ys ws → RDs Z (xs ++ ys) (us ++ ws)
  | _, _, _, _, .nil, s => s
  | _, _, _, _, .cons r t, s => .cons r (RDs.append t s)
theorem RDs.take {Z : Hp} : ∀ {xs : List V} {us : List D} (n : Nat), RDs Z xs us → RDs Z (xs.take n) (us.take n)
  | _, _, 0, _ => .nil
  | _, _, _ + 1, .nil => .nil
  | _, _, n + 1, .cons r t => .cons r (RDs.take n t)
theorem RDs.drop {Z : Hp} : ∀ {xs : List V} {us : List D} (n : Nat), RDs Z xs us → RDs Z (xs.drop n) (us.drop n)
  | _, _, 0, r => r
  | _, _, _ + 1, .nil => .nil
  | _, _, n + 1, .cons _ t => RDs.drop n t
theorem RDs.reverse {Z : Hp} {xs : List V} {us : List D} (h : RDs Z xs us) : RDs Z xs.reverse us.reverse := by
  induction h using RDs.rec (motive_1 := fun _ _ _ => True) with
  | nil => exact .nil
  | cons h r _ ih => rw [List.reverse_cons, List.reverse_cons]; exact ih.append (.cons h .nil)
  | _ => trivial
theorem RDs.ints {Z : Hp} : ∀ (ns : List Int), RDs Z (ns.map V.int) (ns.map D.int)
  | [] => .nil
  | _ :: ns => .cons .int (RDs.ints ns)

/-! ### what an error keeps -/
def XF (Z : Hp) (d : Option Addr) (fs : List (Str × D)) : Prop := (d = none ∧ fs = []) ∨ ∃ dd vfs, d = some dd ∧ Z dd = some (.xd vfs) ∧ ∀ f u, fs.lookup f = some u → ∃ v, vfs.lookup f = some v ∧ RD Z v u
theorem XF.mono {Z Z' : Hp} {d : Option Addr} {fs : List (Str × D)} (s : Same Z Z') (h : XF Z d fs) : XF Z' d fs := by
  rcases h with h | ⟨dd, vfs, h1, h2, h3⟩
  · exact .inl h
  · refine .inr ⟨dd, vfs, h1, s _ _ h2, fun f u e => ?_⟩
    obtain ⟨v, h4, h5⟩ := h3 f u e
    exact ⟨v, h4, h5.mono s⟩
/-! ### owned things -/
mutual
inductive Own (mg : Str → Option Value) (Z H : Hp) : V → O → List Addr → Prop
  | dat {v : V} {d : D} : RD Z v d → Own mg Z H v (.dat d) []
  | lst {a : Addr} {vs : List V} {ds : List D} : H a = some (.lst vs) → RDs Z vs ds → Own mg Z H (.ref a) (.lst ds) [a]
  | mls {a : Addr} {vs : List V} {ts : List O} {fp : List Addr} : H a = some (.lst vs) → Owns mg Z H vs ts fp → Own mg Z H (.ref a) (.mls ts) (a :: fp)
  | mtp {a : Addr} {vs : List V} {ts : List O} {fp : List Addr} : H a = some (.tup vs) → Owns mg Z H vs ts fp → Own mg Z H (.ref a) (.mtp ts) (a :: fp)
  | ins {a C dx : Addr} {c : Str} {vfs : List (Str × V)} {fs : List (Str × O)} {fp : List Addr} : H a = some (.ins C dx vfs) → mg c = some (.ref C) → OwnF mg Z H vfs fs fp → Own mg Z H (.ref a) (.ins c fs) (a :: fp)
  | exn {a C : Addr} {c : Str} {oe : Obj} {fs : List (Str × D)} : H a = some (.frz oe (.own 0)) → mg c = some (.ref C) → oe.cls = .ref C → (∃ vs, oe.data = .fields vs) → XF Z oe.dict fs → Own mg Z H (.ref a) (.exn c fs) [a]
inductive Owns (mg : Str → Option Value) (Z H : Hp) : List V → List O → List Addr → Prop
  | nil : Owns mg Z H [] [] []
  | cons {v : V} {t : O} {f : List Addr} {vs : List V} {ts : List O} {g : List Addr} : Own mg Z H v t f → Owns mg Z H vs ts g → Owns mg Z H (v :: vs) (t :: ts) (f ++ g)
inductive OwnF (mg : Str → Option Value) (Z H : Hp) : List (Str × V) → List (Str × O) → List Addr → Prop
  | nil : OwnF mg Z H [] [] []
  | cons {x : Str} {v : V} {t : O} {f : List Addr} {vs : List (Str × V)} {ts : List (Str × O)} {g : List Addr} : Own mg Z H v t f → OwnF mg Z H vs ts g → OwnF mg Z H ((x, v) :: vs) ((x, t) :: ts) (f ++ g)
end
section
variable {mg : Str → Option Value} {Z Z' H H' : Hp}
mutual
/-- what an owned thing leans on -/
theorem Own.keep (s : Same Z Z') : ∀ {v : V} {t : O} {fp : List Addr}, Own mg Z H v t fp → (∀ a ∈ fp, H' a = H a) → Own mg Z' H' v t fp
  | _, _, _, .dat r, _ => .dat (r.mono s)
  | _, _, _, .lst h r, k => .lst ((k _ (by simp)).trans h) (r.mono s)
  | _, _, _, .mls h r, k => .mls ((k _ (by simp)).trans h) (Owns.keep s r fun b hb => k b (by simp [hb]))
  | _, _, _, .mtp h r, k => .mtp ((k _ (by simp)).trans h) (Owns.keep s r fun b hb => k b (by simp [hb]))
  | _, _, _, .ins h m r, k => .ins ((k _ (by simp)).trans h) m (OwnF.keep s r fun b hb => k b (by simp [hb]))
  | _, _, _, .exn h m c f x, k => .exn ((k _ (by simp)).trans h) m c f (x.mono s)
theorem Owns.keep (s : Same Z Z') : ∀ {v : List V} {t : List O} {fp : List Addr}, Owns mg Z H v t fp → (∀ a ∈ fp, H' a = H a) → Owns mg Z' H' v t fp
  | _, _, _, .nil, _ => .nil
  | _, _, _, .cons h r, k => .cons (Own.keep s h fun b hb => k b (by simp [hb])) (Owns.keep s r fun b hb => k b (by simp [hb]))
theorem OwnF.keep (s : Same Z Z') : ∀ {v : List (Str × V)} {t : List (Str × O)} {fp : List Addr}, OwnF mg Z H v t fp → (∀ a ∈ fp, H' a = H a) → OwnF mg Z' H' v t fp
  | _, _, _, .nil, _ => .nil
  | _, _, _, .cons h r, k => .cons (Own.keep s h fun b hb => k b (by simp [hb])) (OwnF.keep s r fun b hb => k b (by simp [hb]))
end
mutual
theorem Own.there : ∀ {v : V} {t : O} {fp : List Addr}, Own mg Z H v t fp → ∀ a ∈ fp, ∃ o, H a = some o
  | _, _, _, .dat _, a, m => by simp at m
  | _, _, _, .lst h _, a, m => by simp at m; subst m; exact ⟨_, h⟩
  | _, _, _, .mls h r, a, m => by
    rcases List.mem_cons.mp m with e | m
    · subst e; exact ⟨_, h⟩
    · exact Owns.there r a m
  | _, _, _, .mtp h r, a, m => by
    rcases List.mem_cons.mp m with e | m
    · subst e; exact ⟨_, h⟩
    · exact Owns.there r a m
  | _, _, _, .ins h _ r, a, m => by
    rcases List.mem_cons.mp m with e | m
    · subst e; exact ⟨_, h⟩
    · exact OwnF.there r a m
  | _, _, _, .exn h _ _ _ _, a, m => by simp at m; subst m; exact ⟨_, h⟩
theorem Owns.there : ∀ {v : List V} {t : List O} {fp : List Addr}, Owns mg Z H v t fp → ∀ a ∈ fp, ∃ o, H a = some o
  | _, _, _, .nil, a, m => by simp at m
  | _, _, _, .cons h r, a, m => by
    rcases List.mem_append.mp m with m | m
    · exact Own.there h a m
    · exact Owns.there r a m
theorem OwnF.there : ∀ {v : List (Str × V)} {t : List (Str × O)} {fp : List Addr}, OwnF mg Z H v t fp → ∀ a ∈ fp, ∃ o, H a = some o
  | _, _, _, .nil, a, m => by simp at m
  | _, _, _, .cons h r, a, m => by
    rcases List.mem_append.mp m with m | m
    · exact Own.there h a m
    · exact OwnF.there r a m
end
end
mutual
/-- an owned thing is no dict of an error -/
theorem Own.noxd {mg : Str → Option Value} {Z H : Hp} : ∀ {v : V} {t : O} {fp : List Addr}, Own mg Z H v t fp → ∀ a ∈ fp, ∀ fs, H a ≠ some (.xd fs)
  | _, _, _, .dat _, a, m, _ => by simp at m
  | _, _, _, .lst h _, a, m, _ => by simp at m; subst m; rw [h]; exact fun z => nomatch z
  | _, _, _, .mls h r, a, m, fs => by
    rcases List.mem_cons.mp m with e | m
    · subst e; rw [h]; exact fun z => nomatch z
    · exact Owns.noxd r a m fs
  | _, _, _, .mtp h r, a, m, fs => by
    rcases List.mem_cons.mp m with e | m
    · subst e; rw [h]; exact fun z => nomatch z
    · exact Owns.noxd r a m fs
  | _, _, _, .ins h _ r, a, m, fs => by
    rcases List.mem_cons.mp m with e | m
    · subst e; rw [h]; exact fun z => nomatch z
    · exact OwnF.noxd r a m fs
  | _, _, _, .exn h _ _ _ _, a, m, _ => by simp at m; subst m; rw [h]; exact fun z => nomatch z
theorem Owns.noxd {mg : Str → Option Value} {Z H : Hp} : ∀ {v : List V} {t : List O} {fp : List Addr}, Owns mg Z H v t fp → ∀ a ∈ fp, ∀ fs, H a ≠ some (.xd fs)
  | _, _, _, .nil, a, m, _ => by simp at m
  | _, _, _, .cons h r, a, m, fs => by
    rcases List.mem_append.mp m with m | m
    · exact Own.noxd h a m fs
    · exact Owns.noxd r a m fs
theorem OwnF.noxd {mg : Str → Option Value} {Z H : Hp} : ∀ {v : List (Str × V)} {t : List (Str × O)} {fp : List Addr}, OwnF mg Z H v t fp → ∀ a ∈ fp, ∀ fs, H a ≠ some (.xd fs)
  | _, _, _, .nil, a, m, _ => by simp at m
  | _, _, _, .cons h r, a, m, fs => by
    rcases List.mem_append.mp m with m | m
    · exact Own.noxd h a m fs
    · exact OwnF.noxd r a m fs
end
/-- frozen: the data that it becomes -/
def O.toD : O → Option D
  | .dat d => some d
  | .lst xs => some (.lst xs)
  | .mls ts => (go ts).map D.lst
  | .mtp ts => (go ts).map D.tup
  | .ins _ _ => none
  | .exn _ _ => none
where go : List O → Option (List D)
  | [] => some []
  | t :: ts => match t.toD, go ts with
    | some d, some ds => some (d :: ds)
    | _, _ => none
/-- Z with what H says at fp -/
def frozen (Z H : Hp) (fp : List Addr) : Hp := fun b => if b ∈ fp then H b else Z b
section
variable {mg : Str → Option Value} {Z Z' H H' : Hp}
theorem frozen_same {fp : List Addr} (h : ∀ a ∈ fp, Z a = none) : Same Z (frozen Z H fp) := fun b o e => by
  unfold frozen
  by_cases m : b ∈ fp
  · rw [h b m] at e; cases e
  · rw [if_neg m]; exact e
theorem frozen_sub {fp : List Addr} (s : Same Z H) : Same (frozen Z H fp) H := fun b o e => by
  unfold frozen at e
  by_cases m : b ∈ fp
  · rw [if_pos m] at e; exact e
  · rw [if_neg m] at e; exact s b o e
theorem frozen_dom {fp : List Addr} {b : Addr} {o : HO} (e : frozen Z H fp b = some o) : Z b = some o ∨ b ∈ fp := by
  unfold frozen at e
  by_cases m : b ∈ fp
  · exact .inr m
  · rw [if_neg m] at e; exact .inl e
mutual
theorem Own.freeze (s : Same Z Z') : ∀ {v : V} {t : O} {fp : List Addr} {d : D}, Own mg Z H v t fp → (∀ a ∈ fp, Z' a = H a) → t.toD = some d → RD Z' v d
  | _, _, _, _, .dat r, _, e => by simp [O.toD] at e; subst e; exact r.mono s
  | _, _, _, _, .lst h r, k, e => by
    simp [O.toD] at e; subst e
    exact .lst ((k _ (by simp)).trans h) (r.mono s)
  | _, _, _, _, .mls h r, k, e => by
    simp only [O.toD, Option.map_eq_some_iff] at e
    obtain ⟨ds, e1, e2⟩ := e
    subst e2
    exact .lst ((k _ (by simp)).trans h) (Owns.freeze s r (fun b hb => k b (by simp [hb])) e1)
  | _, _, _, _, .mtp h r, k, e => by
    simp only [O.toD, Option.map_eq_some_iff] at e
    obtain ⟨ds, e1, e2⟩ := e
    subst e2
    exact .tup ((k _ (by simp)).trans h) (Owns.freeze s r (fun b hb => k b (by simp [hb])) e1)
  | _, _, _, _, .ins h m r, k, e => by simp [O.toD] at e
  | _, _, _, _, .exn _ _ _ _ _, k, e => by simp [O.toD] at e
theorem Owns.freeze (s : Same Z Z') : ∀ {v : List V} {t : List O} {fp : List Addr} {ds : List D}, Owns mg Z H v t fp → (∀ a ∈ fp, Z' a = H a) → O.toD.go t = some ds → RDs Z' v ds
  | _, _, _, _, .nil, _, e => by simp [O.toD.go] at e; subst e; exact .nil
  | _, _, _, _, .cons (t := t) (ts := ts) h r, k, e => by
    unfold O.toD.go at e
    split at e
    · rename_i d ds e1 e2
      cases e
      exact .cons (Own.freeze s h (fun b hb => k b (by simp [hb])) e1) (Owns.freeze s r (fun b hb => k b (by simp [hb])) e2)
    · cases e
end
end
/-- a place in a tuple, as a step of a path -/
def ixF (f : Str) : Nat := f.cps.size
def ixS (k : Nat) : Str := ⟨Array.replicate k 0⟩
@[simp] theorem ixF_ixS (k : Nat) : ixF (ixS k) = k := by simp [ixF, ixS]
/-- along the fields -/
def walk (H : Hp) : V → List Str → Option V
  | v, [] => some v
  | .ref a, f :: p => match H a with
    | some (.ins _ _ fs) => (fs.lookup f).bind fun u => walk H u p
    | some (.tup vs) => (vs[ixF f]?).bind fun u => walk H u p
    | _ => none
  | _, _ :: _ => none
def O.get : O → List Str → Option O
  | t, [] => some t
  | .ins _ fs, f :: p => (getF fs f).bind fun u => u.get p
  | .mtp ts, f :: p => (ts[ixF f]?).bind fun u => u.get p
  | _, _ :: _ => none
where getF : List (Str × O) → Str → Option O
  | [], _ => none
  | (g, u) :: r, f => if f = g then some u else getF r f
def setF (f : Str) (x : O) : List (Str × O) → List (Str × O)
  | [] => []
  | (g, u) :: r => if f = g then (g, x) :: r else (g, u) :: setF f x r
def O.set : O → List Str → O → O
  | _, [], x => x
  | .ins c fs, f :: p, x => match O.get.getF fs f with
    | some u => .ins c (setF f (u.set p x) fs)
    | none => .ins c fs
  | .mtp ts, f :: p, x => match ts[ixF f]? with
    | some u => .mtp (ts.set (ixF f) (u.set p x))
    | none => .mtp ts
  | t, _ :: _, _ => t
end DL
namespace DL
open PySem PySem.Spec PyProof.Rows L2

/-! comparisons of ints that the kernel decides without counting -/
def ltB (i b : Int) : Bool := match i, b with
  | .ofNat m, .ofNat n => Nat.ble (m + 1) n
  | .negSucc _, .ofNat _ => true
  | .ofNat _, .negSucc _ => false
  | .negSucc m, .negSucc n => Nat.ble (n + 1) m
def leB (i b : Int) : Bool := match i, b with
  | .ofNat m, .ofNat n => Nat.ble m n
  | .negSucc _, .ofNat _ => true
  | .ofNat _, .negSucc _ => false
  | .negSucc m, .negSucc n => Nat.ble n m
theorem ltB_iff {i b : Int} : ltB i b = true ↔ i < b := by
  cases i with
  | ofNat m => cases b with
    | ofNat n => simp only [ltB, Nat.ble_eq, Int.ofNat_eq_natCast]; omega
    | negSucc n => simp only [ltB, Int.ofNat_eq_natCast]; constructor <;> intro h <;> first | omega | cases h
  | negSucc m => cases b with
    | ofNat n => simp only [ltB, Int.ofNat_eq_natCast]; constructor <;> intro h <;> first | omega | trivial
    | negSucc n => simp only [ltB, Nat.ble_eq]; omega
theorem leB_iff {i b : Int} : leB i b = true ↔ i ≤ b := by
  cases i with
  | ofNat m => cases b with
    | ofNat n => simp only [leB, Nat.ble_eq, Int.ofNat_eq_natCast]; omega
    | negSucc n => simp only [leB, Int.ofNat_eq_natCast]; constructor <;> intro h <;> first | omega | cases h
  | negSucc m => cases b with
    | ofNat n => simp only [leB, Int.ofNat_eq_natCast]; constructor <;> intro h <;> first | omega | trivial
    | negSucc n => simp only [leB, Nat.ble_eq]; omega
def dLtI (i b : Int) : Decidable (i < b) := decidable_of_iff _ ltB_iff
def dLeI (i b : Int) : Decidable (i ≤ b) := decidable_of_iff _ leB_iff
/-! ### the entry, the context, the state -/
structure En where
  Z0 : Hp
  H0 : Hp
  F0 : List Addr
  vs : List V
structure Gx where
  mg : Str → Option Value
  pins : List Nat
  n : En
  W : WX
def SR (mg : Str → Option Value) (Z H : Hp) (env : Ve) (σ : L2.St) (i : Nat) : S → List Addr → Prop
  | .un, fp => fp = []
  | .dat d, fp => fp = [] ∧ ∃ v, σ[i]? = some (some v) ∧ RD Z v d
  | .own t, fp => ∃ v, σ[i]? = some (some v) ∧ Own mg Z H v t fp
  | .al j p, fp => fp = [] ∧ (∃ t, env[j]? = some (.own t)) ∧ ∃ v vj, σ[i]? = some (some v) ∧ σ[j]? = some (some vj) ∧ walk H vj p = some v
structure StR (g : Gx) (Z : Hp) (env : Ve) (σ : L2.St) (H : Hp) (fps : Nat → List Addr) : Prop where
  len : σ.length = env.length
  sub : Same Z H
  slot : ∀ i s, env[i]? = some s → SR g.mg Z H env σ i s (fps i)
  out : ∀ i, env.length ≤ i → fps i = []
  dis : ∀ i j a, a ∈ fps i → a ∈ fps j → i = j
  nd : ∀ i, (fps i).Nodup
  nz : ∀ i a, a ∈ fps i → Z a = none
  e1 : Same g.n.Z0 Z
  e2 : ∀ b o, g.n.H0 b = some o → b ∉ g.n.F0 → H b = some o
  e3 : ∀ b o, Z b = some o → g.n.Z0 b = some o ∨ b ∈ g.n.F0 ∨ g.n.H0 b = none
  e4 : ∀ i a, a ∈ fps i → a ∈ g.n.F0 ∨ g.n.H0 a = none
  pin : ∀ i ∈ g.pins, ∃ v, g.n.vs[i]? = some v ∧ σ[i]? = some (some v)

structure Exn where
  c : Str
  fs : List (Str × D)
inductive Ev where
  | dat (d : D) | pl (j : Nat) (p : List Str) | new (t : O)
inductive Res (α : Type) where
  | ok (a : α) (e : Ve) | ex (x : Exn) (e : Ve) | no
def Res.bind {α β : Type} : Res α → (α → Ve → Res β) → Res β
  | .ok a e, f => f a e
  | .ex x e, _ => .ex x e
  | .no, _ => .no
@[simp] theorem Res.bind_ok {α β : Type} (a : α) (e : Ve) (f : α → Ve → Res β) : (Res.ok a e).bind f = f a e := rfl
@[simp] theorem Res.bind_ex {α β : Type} (x : Exn) (e : Ve) (f : α → Ve → Res β) : (Res.ex x e).bind f = .ex x e := rfl
@[simp] theorem Res.bind_no {α β : Type} (f : α → Ve → Res β) : (Res.no).bind f = .no := rfl
abbrev EM := Ve → Res Ev
abbrev TM := Ve → Res Bool
abbrev AM := Ve → Res (List Ev)

def EvR (g : Gx) (Z H : Hp) (σ : L2.St) (fps : Nat → List Addr) (v : V) : Ev → Prop
  | .dat d => RD Z v d
  | .pl j p => ∃ vj, σ[j]? = some (some vj) ∧ walk H vj p = some v
  | .new t => ∃ fp, Own g.mg Z H v t fp ∧ fp.Nodup ∧ ∀ a ∈ fp, Z a = none ∧ (∀ i, a ∉ fps i) ∧ (a ∈ g.n.F0 ∨ g.n.H0 a = none)
def XR (mg : Str → Option Value) (Z H : Hp) (cls : Value) (d : Option Addr) (x : Exn) : Prop :=
  ∃ C, cls = .ref C ∧ mg x.c = some (.ref C) ∧ XF Z d x.fs

/-- what is wanted behind a mirror's answer -/
def Post {α β : Type} (g : Gx) (pu : Bool) (rel : Hp → Hp → L2.St → (Nat → List Addr) → β → α → Prop) (Z : Hp) (env : Ve) (σ : L2.St) (H : Hp) (fps : Nat → List Addr) (Q : β → Hp → Prop) : Res α → Prop
  | .ok a env' => ∀ b Z' H' fps', StR g Z' env' σ H' fps' → Same Z Z' → (pu = true → env' = env ∧ fps' = fps ∧ Same H H') → rel Z' H' σ fps' b a → Q b H'
  | .ex x env' => ∀ cls d Z' H' fps', StR g Z' env' σ H' fps' → Same Z Z' → XR g.mg Z' H' cls d x → g.W cls d σ H'
  | .no => False
section
variable {α β : Type} {g : Gx} {pu : Bool} {rel : Hp → Hp → L2.St → (Nat → List Addr) → β → α → Prop} {Z : Hp} {env : Ve} {σ : L2.St} {H : Hp} {fps : Nat → List Addr} {Q : β → Hp → Prop}
@[simp] theorem Post_ok {a : α} {env' : Ve} : Post g pu rel Z env σ H fps Q (.ok a env') = ∀ b Z' H' fps', StR g Z' env' σ H' fps' → Same Z Z' → (pu = true → env' = env ∧ fps' = fps ∧ Same H H') → rel Z' H' σ fps' b a → Q b H' := rfl
@[simp] theorem Post_ex {x : Exn} {env' : Ve} : Post g pu rel Z env σ H fps Q (.ex x env') = ∀ cls d Z' H' fps', StR g Z' env' σ H' fps' → Same Z Z' → XR g.mg Z' H' cls d x → g.W cls d σ H' := rfl
@[simp] theorem Post_no : Post g pu rel Z env σ H fps Q .no = False := rfl
end
/-- the wish that a mirror m makes -/
def tR {α β : Type} (g : Gx) (pu : Bool) (rel : Hp → Hp → L2.St → (Nat → List Addr) → β → α → Prop) (m : Ve → Res α) : L2.St → Hp → (β → Hp → Prop) → Prop := fun σ H Q =>
  ∃ Z env fps, StR g Z env σ H fps ∧ Post g pu rel Z env σ H fps Q (m env)
abbrev tE (g : Gx) (pu : Bool) (m : EM) : TE := tR g pu (EvR g) m
abbrev tT (g : Gx) (pu : Bool) (m : TM) : TT := tR g pu (fun _ _ _ _ (b c : Bool) => b = c) m
/-- held for later: no new thing; a place deeper than a slot only where nothing behind it stores (q) -/
def hold (q : Bool) : Res Ev → Res Ev
  | .ok (.dat d) e => .ok (.dat d) e
  | .ok (.new t) e => match t.toD with
    | some d => .ok (.dat d) e
    | none => .no
  | .ok (.pl j p) e => if (p.isEmpty || q) = true then .ok (.pl j p) e else .no
  | .ex x e => .ex x e
  | .no => .no
def HvR (q : Bool) (Z H : Hp) (σ : L2.St) (v : V) : Ev → Prop
  | .dat d => RD Z v d
  | .pl j p => (p = [] ∨ q = true) ∧ ∃ vj, σ[j]? = some (some vj) ∧ walk H vj p = some v
  | .new _ => False
theorem walk_mono {H H' : Hp} (s : Same H H') : ∀ {p : List Str} {v u : V}, walk H v p = some u → walk H' v p = some u
  | [], v, u, e => by unfold walk at e ⊢; exact e
  | f :: p, v, u, e => by
    cases v with
    | ref a =>
      unfold walk at e ⊢
      split at e
      · rename_i C dx fs h
        rw [s _ _ h]
        show (fs.lookup f).bind (fun u => walk H' u p) = some u
        cases q : fs.lookup f with
        | none => rw [q] at e; cases e
        | some w =>
          rw [q] at e
          exact walk_mono (p := p) s e
      · rename_i fs h
        rw [s _ _ h]
        show (fs[ixF f]?).bind (fun u => walk H' u p) = some u
        cases q : fs[ixF f]? with
        | none => rw [q] at e; cases e
        | some w =>
          rw [q] at e
          exact walk_mono (p := p) s e
      · cases e
    | _ => simp [walk] at e
theorem HvR.later {q : Bool} {Z Z' H H' : Hp} {σ : L2.St} {v : V} {x : Ev} (h : HvR q Z H σ v x) (s : Same Z Z') (k : q = true → Same H H') : HvR q Z' H' σ v x := by
  cases x with
  | dat d => exact RD.mono s h
  | pl j p =>
    obtain ⟨h1, vj, h2, h3⟩ := h
    refine ⟨h1, vj, h2, ?_⟩
    rcases h1 with e | e
    · subst e; exact h3
    · exact walk_mono (k e) h3
  | new t => exact h
section
variable {g : Gx} {Z Z' H H' : Hp} {env env' : Ve} {σ : L2.St} {fps fps' : Nat → List Addr}
theorem StR.there (s : StR g Z env σ H fps) {i : Nat} {a : Addr} (m : a ∈ fps i) : ∃ o, H a = some o := by
  by_cases hi : i < env.length
  · have q := s.slot i env[i] (List.getElem?_eq_getElem hi)
    cases e : env[i] with
    | un => rw [e] at q; rw [show fps i = [] from q] at m; cases m
    | dat d => rw [e] at q; rw [q.1] at m; cases m
    | own t => rw [e] at q; obtain ⟨v, _, ow⟩ := q; exact ow.there a m
    | al j p => rw [e] at q; rw [q.1] at m; cases m
  · rw [s.out i (Nat.le_of_not_lt hi)] at m; cases m
theorem StR.noxd (s : StR g Z env σ H fps) {i : Nat} {a : Addr} (m : a ∈ fps i) (fs : List (Str × V)) : H a ≠ some (.xd fs) := by
  by_cases hi : i < env.length
  · have q := s.slot i env[i] (List.getElem?_eq_getElem hi)
    cases e : env[i] with
    | un => rw [e] at q; rw [show fps i = [] from q] at m; cases m
    | dat d => rw [e] at q; rw [q.1] at m; cases m
    | own t => rw [e] at q; obtain ⟨v, _, ow⟩ := q; exact ow.noxd a m fs
    | al j p => rw [e] at q; rw [q.1] at m; cases m
  · rw [s.out i (Nat.le_of_not_lt hi)] at m; cases m
/-- new things beside -/
structure Fresh (Z H Z' H' : Hp) : Prop where
  z : Same Z Z'
  h : Same H H'
  s : Same Z' H'
  n : ∀ b o, Z' b = some o → Z b = some o ∨ H b = none
theorem Fresh.refl (s : Same Z H) : Fresh Z H Z H := ⟨.refl _, .refl _, s, fun _ _ e => .inl e⟩
theorem SR.keep {mg : Str → Option Value} {i : Nat} {s : S} {fp : List Addr} (z : Same Z Z') (h : SR mg Z H env σ i s fp) (k : ∀ a ∈ fp, H' a = H a) (w : ∀ v p u, walk H v p = some u → walk H' v p = some u) : SR mg Z' H' env σ i s fp := by
  cases s with
  | un => exact h
  | dat d => obtain ⟨e, v, h1, h2⟩ := h; exact ⟨e, v, h1, h2.mono z⟩
  | own t => obtain ⟨v, h1, h2⟩ := h; exact ⟨v, h1, h2.keep z k⟩
  | al j p => obtain ⟨e, h0, v, vj, h1, h2, h3⟩ := h; exact ⟨e, h0, v, vj, h1, h2, w _ _ _ h3⟩
theorem StR.fresh (s : StR g Z env σ H fps) (f : Fresh Z H Z' H') (hn : ∀ b o, g.n.H0 b = some o → b ∉ g.n.F0 → H b = some o := s.e2) : StR g Z' env σ H' fps where
  len := s.len
  sub := f.s
  slot := fun i x e => (s.slot i x e).keep f.z (fun a m => by obtain ⟨o, h⟩ := s.there m; rw [h]; exact f.h _ _ h) fun v p u => walk_mono f.h
  out := s.out
  dis := s.dis
  nd := s.nd
  nz := fun i a m => by
    cases q : Z' a with
    | none => rfl
    | some o =>
      rcases f.n a o q with z | z
      · rw [s.nz i a m] at z; cases z
      · obtain ⟨o', h⟩ := s.there m; rw [h] at z; cases z
  e1 := s.e1.trans f.z
  e2 := fun b o e k => f.h _ _ (s.e2 b o e k)
  e3 := fun b o e => by
    rcases f.n b o e with z | z
    · exact s.e3 b o z
    · by_cases m : b ∈ g.n.F0
      · exact .inr (.inl m)
      · refine .inr (.inr ?_)
        cases q : g.n.H0 b with
        | none => rfl
        | some u => rw [s.e2 b u q m] at z; cases z
  e4 := s.e4
  pin := s.pin
theorem StR.new0 (s : StR g Z env σ H fps) {a : Addr} (h : H a = none) : (∀ i, a ∉ fps i) ∧ (a ∈ g.n.F0 ∨ g.n.H0 a = none) := by
  refine ⟨fun i m => ?_, ?_⟩
  · obtain ⟨o, e⟩ := s.there m; rw [h] at e; cases e
  · by_cases m : a ∈ g.n.F0
    · exact .inl m
    · refine .inr ?_
      cases q : g.n.H0 a with
      | none => rfl
      | some u => rw [s.e2 a u q m] at h; cases h
/-- what a rule hands on: new data, or a new thing -/
def NewR (mg : Str → Option Value) (H Z' H' : Hp) (v : V) : Ev → Prop
  | .dat d => RD Z' v d
  | .new t => ∃ fp, Own mg Z' H' v t fp ∧ fp.Nodup ∧ ∀ a ∈ fp, H a = none ∧ Z' a = none
  | .pl _ _ => False
theorem NewR.ev {v : V} {x : Ev} (s : StR g Z env σ H fps) (h : NewR g.mg H Z' H' v x) : EvR g Z' H' σ fps v x := by
  cases x with
  | dat d => exact h
  | pl j p => exact h.elim
  | new t =>
    obtain ⟨fp, h1, h2, h3⟩ := h
    exact ⟨fp, h1, h2, fun a m => ⟨(h3 a m).2, (s.new0 (h3 a m).1).1, (s.new0 (h3 a m).1).2⟩⟩
/-- a new thing becomes data -/
theorem StR.freezeNew {v : V} {t : O} {d : D} {fp : List Addr} (s : StR g Z env σ H fps) (ow : Own g.mg Z H v t fp) (h : ∀ a ∈ fp, Z a = none ∧ (∀ i, a ∉ fps i) ∧ (a ∈ g.n.F0 ∨ g.n.H0 a = none)) (e : t.toD = some d) :
    StR g (frozen Z H fp) env σ H fps ∧ RD (frozen Z H fp) v d ∧ Same Z (frozen Z H fp) := by
  have z : Same Z (frozen Z H fp) := frozen_same fun a m => (h a m).1
  refine ⟨⟨s.len, frozen_sub s.sub, fun i x e => (s.slot i x e).keep z (fun a m => rfl) fun _ _ _ q => q, s.out, s.dis, s.nd, fun i a m => ?_, s.e1.trans z, s.e2, fun b o q => ?_, s.e4, s.pin⟩, ow.freeze z (fun a m => by unfold frozen; rw [if_pos m]) e, z⟩
  · unfold frozen
    rw [if_neg fun k => (h a k).2.1 i m]
    exact s.nz i a m
  · rcases frozen_dom q with k | k
    · exact s.e3 b o k
    · exact .inr (h b k).2.2
theorem hold_run {pu q : Bool} {m : EM} {Q : VK} (s : StR g Z env σ H fps)
    (ok : ∀ x e1, hold q (m env) = .ok x e1 → ∀ v Z1 H1 fps1, StR g Z1 e1 σ H1 fps1 → Same Z Z1 → (pu = true → e1 = env ∧ fps1 = fps ∧ Same H H1) → HvR q Z1 H1 σ v x → Q v H1)
    (ex : ∀ x e1, hold q (m env) = .ex x e1 → ∀ cls d Z1 H1 fps1, StR g Z1 e1 σ H1 fps1 → Same Z Z1 → XR g.mg Z1 H1 cls d x → g.W cls d σ H1)
    (no : hold q (m env) = .no → False) : tE g pu m σ H Q := by
  refine ⟨Z, env, fps, s, ?_⟩
  cases e : m env with
  | no => exact no (by rw [e]; rfl)
  | ex x e1 => exact ex x e1 (by rw [e]; rfl)
  | ok a e1 =>
    intro b Z' H' fps' s' z k r
    cases a with
    | dat d => exact ok (.dat d) e1 (by rw [e]; rfl) b Z' H' fps' s' z k r
    | pl j p =>
      by_cases hp : (p.isEmpty || q) = true
      · refine ok (.pl j p) e1 (by rw [e]; show (if _ then _ else _) = _; rw [if_pos hp]) b Z' H' fps' s' z k ⟨?_, r⟩
        rcases Bool.or_eq_true _ _ |>.mp hp with h | h
        · exact .inl (by simpa using h)
        · exact .inr h
      · exact (no (by rw [e]; show (if _ then _ else _) = _; rw [if_neg hp])).elim
    | new t =>
      obtain ⟨fp, r1, r2, r3⟩ := r
      cases ht : t.toD with
      | none => exact (no (by rw [e]; simp [hold, ht])).elim
      | some d =>
        obtain ⟨s2, r4, z2⟩ := s'.freezeNew r1 r3 ht
        exact ok (.dat d) e1 (by rw [e]; simp [hold, ht]) b _ H' fps' s2 (z.trans z2) k r4
/-- what a value is just now -/
def RN (Z H : Hp) (v : V) (d : D) : Prop := RD Z v d ∨ ∃ a vs ds, v = .ref a ∧ d = .lst ds ∧ H a = some (.lst vs) ∧ RDs Z vs ds
def O.flat : O → Option D
  | .dat d => some d
  | .lst xs => some (.lst xs)
  | _ => none
def peek (env : Ve) : Ev → Option D
  | .dat d => some d
  | .pl j p => match env[j]? with
    | some (.own t) => (t.get p).bind O.flat
    | _ => none
  | .new _ => none
theorem OwnF.get {mg : Str → Option Value} : ∀ {vs : List (Str × V)} {fs : List (Str × O)} {fp : List Addr} {f : Str} {t : O}, OwnF mg Z H vs fs fp → O.get.getF fs f = some t → ∃ v f', vs.lookup f = some v ∧ Own mg Z H v t f' ∧ ∀ a ∈ f', a ∈ fp
  | _, _, _, f, t, .nil, e => by simp [O.get.getF] at e
  | _, _, _, f, t, .cons (x := x) (v := v) (t := u) (f := f1) (vs := vs) (ts := ts) (g := g1) h r, e => by
    unfold O.get.getF at e
    by_cases c : f = x
    · subst c
      rw [if_pos rfl] at e
      cases e
      exact ⟨v, f1, by simp [List.lookup], h, fun a m => List.mem_append_left _ m⟩
    · rw [if_neg c] at e
      obtain ⟨v', f', h1, h2, h3⟩ := OwnF.get r e
      refine ⟨v', f', ?_, h2, fun a m => List.mem_append_right _ (h3 a m)⟩
      have : (f == x) = false := by simpa using c
      simp [List.lookup, this, h1]
theorem Owns.get {mg : Str → Option Value} : ∀ {vs : List V} {ts : List O} {fp : List Addr} {i : Nat} {t : O}, Owns mg Z H vs ts fp → ts[i]? = some t → ∃ v f', vs[i]? = some v ∧ Own mg Z H v t f' ∧ ∀ a ∈ f', a ∈ fp
  | _, _, _, i, t, .nil, e => by simp at e
  | _, _, _, 0, t, .cons (v := v) (f := f1) h r, e => by
    simp at e; subst e
    exact ⟨v, f1, rfl, h, fun a m => List.mem_append_left _ m⟩
  | _, _, _, i + 1, t, .cons h r, e => by
    obtain ⟨v', f', h1, h2, h3⟩ := Owns.get (i := i) r (by simpa using e)
    exact ⟨v', f', by simpa using h1, h2, fun a m => List.mem_append_right _ (h3 a m)⟩
theorem Own.get {mg : Str → Option Value} : ∀ {p : List Str} {v : V} {t t' : O} {fp : List Addr}, Own mg Z H v t fp → t.get p = some t' → ∃ v' fp', walk H v p = some v' ∧ Own mg Z H v' t' fp' ∧ ∀ a ∈ fp', a ∈ fp
  | [], v, t, t', fp, ow, e => by
    simp [O.get] at e
    subst e
    exact ⟨v, fp, by simp [walk], ow, fun _ m => m⟩
  | f :: p, v, t, t', fp, ow, e => by
    cases ow with
    | dat _ => simp [O.get] at e
    | lst _ _ => simp [O.get] at e
    | mls _ _ => simp [O.get] at e
    | exn _ _ _ _ _ => simp [O.get] at e
    | mtp h r =>
      unfold O.get at e
      rename_i a vs ts fp1
      cases q : ts[ixF f]? with
      | none => rw [q] at e; cases e
      | some u =>
        rw [q] at e
        obtain ⟨w, fp', h1, h2, h3⟩ := r.get q
        obtain ⟨v', fp2, h4, h5, h6⟩ := Own.get (p := p) h2 e
        refine ⟨v', fp2, ?_, h5, fun a m => List.mem_cons_of_mem _ (h3 _ (h6 _ m))⟩
        unfold walk
        rw [h]
        show (vs[ixF f]?).bind _ = _
        rw [h1]
        exact h4
    | ins h hm r =>
      unfold O.get at e
      rename_i a C dx c vfs fs fp1
      cases q : O.get.getF fs f with
      | none => rw [q] at e; cases e
      | some u =>
        rw [q] at e
        obtain ⟨w, fp', h1, h2, h3⟩ := r.get q
        obtain ⟨v', fp2, h4, h5, h6⟩ := Own.get (p := p) h2 e
        refine ⟨v', fp2, ?_, h5, fun a m => List.mem_cons_of_mem _ (h3 _ (h6 _ m))⟩
        unfold walk
        rw [h]
        show (vfs.lookup f).bind _ = _
        rw [h1]
        exact h4
theorem peek_ok {q : Bool} {v : V} {x : Ev} {d : D} (s : StR g Z env σ H fps) (h : HvR q Z H σ v x) (e : peek env x = some d) : RN Z H v d := by
  cases x with
  | dat d' => simp [peek] at e; subst e; exact .inl h
  | new t => exact h.elim
  | pl j p =>
    obtain ⟨_, vj, h1, h2⟩ := h
    have e : (match env[j]? with
      | some (.own t) => (t.get p).bind O.flat
      | _ => none) = some d := e
    split at e
    · rename_i t ht
      obtain ⟨v0, h3, ow⟩ := s.slot j _ ht
      rw [h1] at h3
      cases h3
      cases ht' : t.get p with
      | none => rw [ht'] at e; cases e
      | some t' =>
        rw [ht'] at e
        obtain ⟨v', fp', h4, h5, _⟩ := ow.get ht'
        rw [h2] at h4
        cases h4
        cases h5 with
        | dat r => simp [O.flat] at e; subst e; exact .inl r
        | lst r1 r2 => simp [O.flat] at e; subst e; exact .inr ⟨_, _, _, rfl, rfl, r1, r2⟩
        | mls _ _ => simp [O.flat] at e
        | mtp _ _ => simp [O.flat] at e
        | ins _ _ _ => simp [O.flat] at e
        | exn _ _ _ _ _ => simp [O.flat] at e
    · cases e
end
/-! ### the judgements -/
section
variable {X : Cx} {g : Gx}
theorem PE.imp {e : Expr} {t t' : TE} (h : PE X e t) (k : ∀ σ H Q, t' σ H Q → t σ H Q) : PE X e t' := ⟨fun pins s σ H Q I q => h.run pins s σ H Q I (k σ H Q q)⟩
theorem PT.imp {e : Expr} {t t' : TT} (h : PT X e t) (k : ∀ σ H Q, t' σ H Q → t σ H Q) : PT X e t' := ⟨fun pins s σ H Q I q => h.run pins s σ H Q I (k σ H Q q)⟩
abbrev DE (X : Cx) (g : Gx) (pu : Bool) (e : Expr) (m : EM) : Prop := PE X e (tE g pu m)
abbrev DT (X : Cx) (g : Gx) (pu : Bool) (e : Expr) (m : TM) : Prop := PT X e (tT g pu m)

def eName (i : Nat) : EM := fun env => match env[i]? with
  | some (.dat d) => .ok (.dat d) env
  | some (.own _) => .ok (.pl i []) env
  | some (.al j p) => .ok (.pl j p) env
  | _ => .no
theorem de_name (i : Nat) {x : Str} {pos : Pos} (hN : X.N[i]? = some x := by rfl) (hv : Vis X.env.scope x := by first | exact Or.inl rfl | exact Or.inr (Or.inl rfl) | exact Or.inr (Or.inr rfl))
    (hd : (x == ("__debug__" : Str)) = false := by decide) (hcd : (x == ("__classdict__" : Str)) = false := by decide) : DE X g true (.Name x pos) (eName i) := by
  refine PE.imp (pe_var hN hv hd hcd) fun σ H Q ⟨Z, env, fps, s, h⟩ => ?_
  unfold eName at h
  cases e : env[i]? with
  | none => rw [e] at h; exact h.elim
  | some x =>
    rw [e] at h
    have q := s.slot i _ e
    cases x with
    | un => exact h.elim
    | dat d =>
      obtain ⟨_, v, h1, h2⟩ := q
      exact ⟨v, h1, h v Z H fps s (.refl _) (fun _ => ⟨rfl, rfl, .refl _⟩) h2⟩
    | own t =>
      obtain ⟨v, h1, h2⟩ := q
      exact ⟨v, h1, h v Z H fps s (.refl _) (fun _ => ⟨rfl, rfl, .refl _⟩) ⟨v, h1, by simp [walk]⟩⟩
    | al j p =>
      obtain ⟨_, _, v, vj, h1, h2, h3⟩ := q
      exact ⟨v, h1, h v Z H fps s (.refl _) (fun _ => ⟨rfl, rfl, .refl _⟩) ⟨vj, h2, h3⟩⟩
def eD (d : D) : EM := fun env => .ok (.dat d) env
theorem de_c {e : Expr} {v : V} {d : D} (h : PE X e (tC v)) (r : ∀ Z, RD Z v d) : DE X g true e (eD d) := PE.imp h fun σ H Q ⟨Z, env, fps, s, h⟩ => h v Z H fps s (.refl _) (fun _ => ⟨rfl, rfl, .refl _⟩) (r _)
theorem de_int {i j pos} : DE X g true (.Constant (.int i) j pos) (eD (.int i)) := de_c pe_int fun _ => .int
theorem de_bl {b j pos} : DE X g true (.Constant (.bool b) j pos) (eD (.bl b)) := de_c pe_bl fun _ => .bl
theorem de_non {j pos} : DE X g true (.Constant .none j pos) (eD .non) := de_c pe_non fun _ => .non
theorem de_str {x j pos} : DE X g true (.Constant (.str x) j pos) (eD (.str x)) := de_c pe_str fun _ => .str

/-! ### two operands -/
def OpOk (X : Cx) (f : Value → Value → Sem Value) (op : D → D → Option Ev) : Prop :=
  ∃ r, OpR X f r ∧ ∀ mg Z H v u d e ev Q, Same Z H → RN Z H v d → RN Z H u e → op d e = some ev → (∀ v' Z' H', Fresh Z H Z' H' → NewR mg H Z' H' v' ev → Q v' H') → r v u H Q
def eOp2 (q : Bool) (op : D → D → Option Ev) (a b : EM) : EM := fun env => (hold q (a env)).bind fun x e1 => (hold true (b e1)).bind fun y e2 =>
  match peek e2 x, peek e2 y with
  | some d, some u => match op d u with
    | some ev => .ok ev e2
    | none => .no
  | _, _ => .no
theorem op2_run {p q : Bool} {op : D → D → Option Ev} {ma mb : EM} {r : V → V → Hp → VK → Prop}
    (hr : ∀ mg Z H v u d e ev Q, Same Z H → RN Z H v d → RN Z H u e → op d e = some ev → (∀ v' Z' H', Fresh Z H Z' H' → NewR mg H Z' H' v' ev → Q v' H') → r v u H Q)
    {σ : L2.St} {H : Hp} {Q : VK} (h : tE g (p && q) (eOp2 q op ma mb) σ H Q) : tOp r (tE g p ma) (tE g q mb) σ H Q := by
  obtain ⟨Z, env, fps, s, h⟩ := h
  refine hold_run (q := q) s (fun x e1 he v Z1 H1 fps1 s1 z1 k1 r1 => ?_) (fun x e1 he => ?_) (fun he => ?_)
  · refine hold_run (q := true) s1 (fun y e2 he2 u Z2 H2 fps2 s2 z2 k2 r2 => ?_) (fun y e2 he2 => ?_) (fun he2 => ?_)
    · simp only [eOp2, he, he2, Res.bind_ok] at h
      have r1' := r1.later z2 fun hq => (k2 hq).2.2
      cases h1 : peek e2 x with
      | none => simp [h1] at h
      | some d =>
        cases h2 : peek e2 y with
        | none => simp [h1, h2] at h
        | some d2 =>
          cases h3 : op d d2 with
          | none => simp [h1, h2, h3] at h
          | some ev =>
            simp only [h1, h2, h3] at h
            refine hr g.mg Z2 H2 v u d d2 ev Q s2.sub (peek_ok s2 r1' h1) (peek_ok s2 r2 h2) h3 fun v' Z' H' f nr => ?_
            refine h v' Z' H' fps2 (s2.fresh f) ((z1.trans z2).trans f.z) (fun hp => ?_) (nr.ev s2)
            simp only [Bool.and_eq_true] at hp
            obtain ⟨a1, a2, a3⟩ := k1 hp.1
            obtain ⟨b1, b2, b3⟩ := k2 hp.2
            exact ⟨b1.trans a1, b2.trans a2, (a3.trans b3).trans f.h⟩
    · simp only [eOp2, he, he2, Res.bind_ok, Res.bind_ex] at h
      exact fun cls dd Z2 H2 fps2 s2 z2 xr => h cls dd Z2 H2 fps2 s2 (z1.trans z2) xr
    · simp only [eOp2, he, he2, Res.bind_ok, Res.bind_no, Post_no] at h
  · simp only [eOp2, he, Res.bind_ex] at h
    exact h
  · simp only [eOp2, he, Res.bind_no, Post_no] at h
theorem de_bin {op : Operator} {f : D → D → Option Ev} {p q : Bool} {a b : Expr} {ma mb : EM} {pos : Pos} (ho : OpOk X (binaryOp op) f) (ha : DE X g p a ma) (hb : DE X g q b mb) : DE X g (p && q) (.BinOp a op b pos) (eOp2 q f ma mb) := by
  obtain ⟨r, h1, h2⟩ := ho
  exact PE.imp (pe_op h1 ha hb) fun σ H Q h => op2_run h2 h
theorem de_cmp {op : CmpOp} {f : D → D → Option Ev} {p q : Bool} {a b : Expr} {ma mb : EM} {pos : Pos} (ho : OpOk X (compareOp op) f) (ha : DE X g p a ma) (hb : DE X g q b mb) (hm : behindInMarks op b = false := by first | exact nomark _ | rfl) : DE X g (p && q) (.Compare a [op] [b] pos) (eOp2 q f ma mb) := by
  obtain ⟨r, h1, h2⟩ := ho
  exact PE.imp (pe_cmpR h1 ha hb hm) fun σ H Q h => op2_run h2 h
/-- a value that is a bool, as a test -/
def tvB (m : EM) : TM := fun env => match m env with
  | .ok (.dat (.bl b)) e => .ok b e
  | .ex x e => .ex x e
  | _ => .no
theorem tv_run {p : Bool} {m : EM} {σ : L2.St} {H : Hp} {Q : Bool → Hp → Prop} (h : tT g p (tvB m) σ H Q) : tE g p m σ H fun x H' => ∃ k, x = .bl k ∧ Q k H' := by
  obtain ⟨Z, env, fps, s, h⟩ := h
  refine ⟨Z, env, fps, s, ?_⟩
  unfold tvB at h
  cases e : m env with
  | no => rw [e] at h; exact h
  | ex x e1 => rw [e] at h; exact h
  | ok a e1 =>
    rw [e] at h
    intro b Z' H' fps' s' z k r
    cases a with
    | dat d =>
      cases d with
      | bl c => cases r; exact ⟨c, rfl, h c Z' H' fps' s' z k rfl⟩
      | _ => exact h.elim
    | _ => exact h.elim
theorem dt_cmp {op : CmpOp} {f : D → D → Option Ev} {p q : Bool} {a b : Expr} {ma mb : EM} {pos : Pos} (ho : OpOk X (compareOp op) f) (ha : DE X g p a ma) (hb : DE X g q b mb) (hm : behindInMarks op b = false := by first | exact nomark _ | rfl) : DT X g (p && q) (.Compare a [op] [b] pos) (tvB (eOp2 q f ma mb)) := by
  obtain ⟨r, h1, h2⟩ := ho
  refine PT.imp (pt_cmpR h1 ha hb hm) fun σ H Q h => ?_
  have h' := tv_run h
  exact op2_run h2 h'
theorem dt_val {e : Expr} {p : Bool} {m : EM} (h : DE X g p e m) (he : ∀ whole, isTrue e X.env whole = (do let v ← whole; standAt e.pos; holding [v] (truthy v)) := by intro _; rfl) : DT X g p e (tvB m) :=
  PT.imp (pt_val h he) fun σ H Q h => tv_run h
end
end DL
namespace DL
open PySem PySem.Spec PyProof.Rows L2
section
variable {Z Z' H H' : Hp} {v u : V} {d e : D}
theorem RN.int {i : Int} (h : RN Z H v (.int i)) : v = .int i := by
  rcases h with h | ⟨a, vs, ds, _, e, _⟩
  · cases h; rfl
  · cases e
theorem RN.bl {i : Bool} (h : RN Z H v (.bl i)) : v = .bl i := by
  rcases h with h | ⟨a, vs, ds, _, e, _⟩
  · cases h; rfl
  · cases e
theorem RN.str {i : Str} (h : RN Z H v (.str i)) : v = .str i := by
  rcases h with h | ⟨a, vs, ds, _, e, _⟩
  · cases h; rfl
  · cases e
theorem RN.non (h : RN Z H v .non) : v = .non := by
  rcases h with h | ⟨a, vs, ds, _, e, _⟩
  · cases h; rfl
  · cases e
theorem RN.lst {ds : List D} (s : Same Z H) (h : RN Z H v (.lst ds)) : ∃ a vs, v = .ref a ∧ H a = some (.lst vs) ∧ RDs Z vs ds := by
  rcases h with h | ⟨a, vs, ds, e1, e, h1, h2⟩
  · cases h with
    | lst h1 h2 => exact ⟨_, _, rfl, s _ _ h1, h2⟩
  · cases e; exact ⟨a, vs, e1, h1, h2⟩
theorem RN.tup {ds : List D} (s : Same Z H) (h : RN Z H v (.tup ds)) : ∃ a vs, v = .ref a ∧ H a = some (.tup vs) ∧ RDs Z vs ds := by
  rcases h with h | ⟨a, vs, ds, e1, e, h1, h2⟩
  · cases h with
    | tup h1 h2 => exact ⟨_, _, rfl, s _ _ h1, h2⟩
  · cases e
theorem Fresh.new (s : Same Z H) {p : Addr} {o : HO} (h : H p = none) : Fresh Z H Z (upd H p o) where
  z := .refl _
  h := fun b x e => by rw [upd_ne (ne_of_none e h)]; exact e
  s := fun b x e => by rw [upd_ne (ne_of_none (s b x e) h)]; exact s b x e
  n := fun b x e => .inl e
theorem Fresh.newZ (s : Same Z H) {p : Addr} {o : HO} (h : H p = none) : Fresh Z H (upd Z p o) (upd H p o) where
  z := fun b x e => by rw [upd_ne (ne_of_none (s b x e) h)]; exact e
  h := fun b x e => by rw [upd_ne (ne_of_none e h)]; exact e
  s := fun b x e => by
    by_cases c : b = p
    · subst c; rw [upd_same] at e ⊢; exact e
    · rw [upd_ne c] at e ⊢; exact s b x e
  n := fun b x e => by
    by_cases c : b = p
    · subst c; exact .inr h
    · rw [upd_ne c] at e; exact .inl e
theorem NewR.lst {mg : Str → Option Value} (s : Same Z H) {p : Addr} {vs : List V} {ds : List D} (h : H p = none) (r : RDs Z vs ds) : NewR mg H Z (upd H p (.lst vs)) (.ref p) (.new (.lst ds)) := by
  refine ⟨[p], .lst upd_same r, by simp, fun a m => ?_⟩
  have e : a = p := by simpa using m
  subst e
  refine ⟨h, ?_⟩
  cases q : Z a with
  | none => rfl
  | some o => rw [s a o q] at h; cases h
theorem NewR.tup {mg : Str → Option Value} (s : Same Z H) {p : Addr} {vs : List V} {ds : List D} (h : H p = none) (r : RDs Z vs ds) : NewR mg H (upd Z p (.tup vs)) (upd H p (.tup vs)) (.ref p) (.dat (.tup ds)) :=
  RD.tup upd_same (r.mono (Fresh.newZ (o := .tup vs) s h).z)
end
/-! ### data as the library compares them -/
def D.py : D → PyData
  | .non => .none
  | .bl b => .bool b
  | .int i => .int i
  | .str x => .str x
  | .lst xs => .list (pys xs)
  | .tup xs => .tuple (pys xs)
  | .scr ns => .list (ns.map .int)
where pys : List D → List PyData
  | [] => []
  | x :: xs => x.py :: pys xs
def D.nos : D → Bool
  | .lst xs => go xs
  | .tup xs => go xs
  | .scr _ => false
  | _ => true
where go : List D → Bool
  | [] => true
  | x :: xs => x.nos && go xs
mutual
theorem RD.dp {K : PySem.W.Frag} {Z H : Hp} (s : Same Z H) : ∀ {v : V} {d : D}, RD Z v d → d.nos = true → Dp K H v d.py
  | _, _, .non, _ => by simp only [D.py]; exact .non
  | _, _, .bl, _ => by simp only [D.py]; exact .bl _
  | _, _, .int, _ => by simp only [D.py]; exact .int _
  | _, _, .str, _ => by simp only [D.py]; exact .str _
  | _, _, .lst h r, n => by simp only [D.py]; exact .lst (.of (s _ _ h)) (RDs.dp s r (by simpa [D.nos] using n))
  | _, _, .tup h r, n => by simp only [D.py]; exact .tup (.of (s _ _ h)) (RDs.dp s r (by simpa [D.nos] using n))
  | _, _, .scr _, n => by simp [D.nos] at n
theorem RDs.dp {K : PySem.W.Frag} {Z H : Hp} (s : Same Z H) : ∀ {vs : List V} {ds : List D}, RDs Z vs ds → D.nos.go ds = true → DpAll K H vs (D.py.pys ds)
  | _, _, .nil, _ => .nil
  | _, _, .cons h r, n => by
    simp only [D.nos.go, Bool.and_eq_true] at n
    exact .cons (RD.dp s h n.1) (RDs.dp s r n.2)
end
theorem RN.dp {K : PySem.W.Frag} {Z H : Hp} {v : V} {d : D} (s : Same Z H) (h : RN Z H v d) (n : d.nos = true) : Dp K H v d.py := by
  rcases h with h | ⟨a, vs, ds, e1, e2, h1, h2⟩
  · exact h.dp s n
  · subst e1 e2
    simp only [D.py]
    exact .lst (.of h1) (h2.dp s (by simpa [D.nos] using n))
/-! ### operations by data -/
abbrev lim : Nat := 16777216
theorem lim_eq {n : Nat} (h : n ≤ lim) : n ≤ sizeLine := by rw [sizeLine_eq]; exact h
def addD : D → D → Option Ev
  | .int i, .int j => some (.dat (.int (i + j)))
  | .str x, .str y => if x.length + y.length ≤ lim then some (.dat (.str (x ++ y))) else none
  | .lst xs, .lst ys => if xs.length + ys.length ≤ lim then some (.new (.lst (xs ++ ys))) else none
  | .tup xs, .tup ys => if xs.length + ys.length ≤ lim then some (.dat (.tup (xs ++ ys))) else none
  | _, _ => none
def subD : D → D → Option Ev
  | .int i, .int j => some (.dat (.int (i - j)))
  | _, _ => none
section
local instance (priority := 5000) (i b : Int) : Decidable (i < b) := dLtI i b
local instance (priority := 5000) (i b : Int) : Decidable (i ≤ b) := dLeI i b
def mulD : D → D → Option Ev
  | .int i, .int j => if (-(2 ^ 64) < i ∧ i < 2 ^ 64) ∨ (-(2 ^ 64) < j ∧ j < 2 ^ 64) then some (.dat (.int (i * j))) else none
  | .lst xs, .int k => if -(2 ^ 63) ≤ k ∧ k < 2 ^ 63 ∧ xs.length * k.toNat ≤ lim then some (.new (.lst (List.replicate k.toNat xs).flatten)) else none
  | _, _ => none
def modD : D → D → Option Ev
  | .int i, .int j => if 0 < j then some (.dat (.int (i % j))) else none
  | _, _ => none
def fdivD : D → D → Option Ev
  | .int i, .int j => if 0 < j ∧ j < 1073741824 then some (.dat (.int (i / j))) else none
  | _, _ => none
def powD : D → D → Option Ev
  | .int i, .int j => if 0 ≤ j ∧ j ≤ 1000000 ∧ i.natAbs < 2 ^ 64 then some (.dat (.int (i ^ j.toNat))) else none
  | _, _ => none
end
section
variable {X : Cx}
theorem OpOk.mk {f : Value → Value → Sem Value} {op : D → D → Option Ev} (r : R2) (h : OpR X f r)
    (k : ∀ mg Z H v u d e ev Q, Same Z H → RN Z H v d → RN Z H u e → op d e = some ev → (∀ v' Z' H', Fresh Z H Z' H' → NewR mg H Z' H' v' ev → Q v' H') → r v u H Q) : OpOk X f op := ⟨r, h, k⟩
theorem ok_add : OpOk X (binaryOp .Add) addD := by
  refine .mk _ ((op_add.or op_add_str).or (op_cat.or op_catA)) fun mg Z H v u d e ev Q s rv ru h q => ?_
  cases d with
  | int i =>
    cases e with
    | int j => cases h; exact .inl (.inl ⟨i, j, rv.int, ru.int, q _ _ _ (.refl s) .int⟩)
    | _ => cases h
  | str x =>
    cases e with
    | str y =>
      simp only [addD] at h
      split at h
      · rename_i hl
        cases h
        exact .inl (.inr ⟨x, y, rv.str, ru.str, lim_eq hl, q _ _ _ (.refl s) .str⟩)
      · cases h
    | _ => cases h
  | lst xs =>
    cases e with
    | lst ys =>
      simp only [addD] at h
      split at h
      · rename_i hl
        cases h
        obtain ⟨a, vs, rfl, h1, r1⟩ := rv.lst s
        obtain ⟨b, ws, rfl, h2, r2⟩ := ru.lst s
        refine .inr (.inl ⟨a, b, vs, ws, rfl, rfl, h1, h2, lim_eq (by rw [r1.length, r2.length]; exact hl), fun p hp => ?_⟩)
        exact q _ _ _ (.new s hp) (.lst s hp (r1.append r2))
      · cases h
    | _ => cases h
  | tup xs =>
    cases e with
    | tup ys =>
      simp only [addD] at h
      split at h
      · rename_i hl
        cases h
        obtain ⟨a, vs, rfl, h1, r1⟩ := rv.tup s
        obtain ⟨b, ws, rfl, h2, r2⟩ := ru.tup s
        refine .inr (.inr ⟨a, b, vs, ws, rfl, rfl, .of h1, .of h2, lim_eq (by rw [r1.length, r2.length]; exact hl), fun e => ?_, fun _ e => ?_, fun _ _ p hp => ?_⟩)
        · subst e
          cases r1
          rcases ru with k | ⟨_, _, _, _, e, _⟩
          · exact q _ _ _ (.refl s) k
          · cases e
        · subst e
          cases r2
          rw [List.append_nil] at q
          rcases rv with k | ⟨_, _, _, _, e, _⟩
          · exact q _ _ _ (.refl s) k
          · cases e
        · exact q _ _ _ (.newZ s hp) (.tup s hp (r1.append r2))
      · cases h
    | _ => cases h
  | _ => cases h
theorem ok_ints {f : Value → Value → Sem Value} {op : D → D → Option Ev} {C : Int → Int → Prop} {gg : Int → Int → V} {gd : Int → Int → D} (hr : OpR X f (rI C gg)) (hd : ∀ i j Z, RD Z (gg i j) (gd i j))
    (h : ∀ d e ev, op d e = some ev → ∃ i j, d = .int i ∧ e = .int j ∧ C i j ∧ ev = .dat (gd i j)) : OpOk X f op := by
  refine .mk _ hr fun mg Z H v u d e ev Q s rv ru he q => ?_
  obtain ⟨i, j, rfl, rfl, c, rfl⟩ := h d e ev he
  exact ⟨i, j, rv.int, ru.int, c, q _ _ _ (.refl s) (hd i j _)⟩
theorem ok_sub : OpOk X (binaryOp .Sub) subD := by
  refine .mk _ op_sub fun mg Z H v u d e ev Q s rv ru h q => ?_
  cases d <;> cases e <;> cases h
  exact ⟨_, _, rv.int, ru.int, q _ _ _ (.refl s) .int⟩
theorem ok_mul : OpOk X (binaryOp .Mult) mulD := by
  refine .mk _ (op_mul.or op_rep) fun mg Z H v u d e ev Q s rv ru h q => ?_
  cases d with
  | int i =>
    cases e with
    | int j =>
      simp only [mulD] at h
      split at h
      · rename_i hl
        cases h
        exact .inl ⟨i, j, rv.int, ru.int, hl, q _ _ _ (.refl s) .int⟩
      · cases h
    | _ => cases h
  | lst xs =>
    cases e with
    | int k =>
      simp only [mulD] at h
      split at h
      · rename_i hl
        cases h
        obtain ⟨a, vs, rfl, h1, r1⟩ := rv.lst s
        refine .inr ⟨a, k, vs, rfl, ru.int, h1, hl.1, hl.2.1, lim_eq (by rw [r1.length]; exact hl.2.2), fun p hp => ?_⟩
        refine q _ _ _ (.new s hp) (.lst s hp ?_)
        have : ∀ n : Nat, RDs Z (List.replicate n vs).flatten (List.replicate n xs).flatten := fun n => by
          induction n with
          | zero => exact .nil
          | succ n ih => rw [List.replicate_succ, List.replicate_succ, List.flatten_cons, List.flatten_cons]; exact r1.append ih
        exact this _
      · cases h
    | _ => cases h
  | _ => cases h
theorem ok_mod : OpOk X (binaryOp .Mod) modD := by
  refine ok_ints (gd := fun i j => .int (i % j)) op_mod (fun _ _ _ => .int) fun d e ev h => ?_
  unfold modD at h
  split at h
  · split at h
    · cases h; exact ⟨_, _, rfl, rfl, by assumption, rfl⟩
    · cases h
  · cases h
theorem ok_fdiv : OpOk X (binaryOp .FloorDiv) fdivD := by
  refine ok_ints (gd := fun i j => .int (i / j)) op_fdiv (fun _ _ _ => .int) fun d e ev h => ?_
  unfold fdivD at h
  split at h
  · split at h
    · cases h; exact ⟨_, _, rfl, rfl, by assumption, rfl⟩
    · cases h
  · cases h
theorem ok_pow : OpOk X (binaryOp .Pow) powD := by
  refine ok_ints (gd := fun i j => .int (i ^ j.toNat)) op_pow (fun _ _ _ => .int) fun d e ev h => ?_
  unfold powD at h
  split at h
  · split at h
    · cases h; exact ⟨_, _, rfl, rfl, by assumption, rfl⟩
    · cases h
  · cases h
/-! comparisons -/
def eqOk (d : D) : Bool := d.nos && SeqAt.shaped d.py
def eqB (d e : D) : Bool := PyData.eqv d.py e.py
def strB : D → D → Option Bool
  | .str x, .str y => some (decide (x = y))
  | _, _ => none
def eqD (d e : D) : Option Ev := if (eqOk d && eqOk e) = true then some (.dat (.bl (eqB d e))) else (strB d e).map fun b => .dat (.bl b)
def neD (d e : D) : Option Ev := if (eqOk d && eqOk e) = true then some (.dat (.bl (!eqB d e))) else (strB d e).map fun b => .dat (.bl (!b))
theorem strB_some {d e : D} {b : Bool} (h : strB d e = some b) : ∃ x y, d = .str x ∧ e = .str y ∧ b = decide (x = y) := by
  unfold strB at h
  split at h
  · cases h; exact ⟨_, _, rfl, rfl, rfl⟩
  · cases h
theorem ok_eq (hu : X.A.units + 64 < cLine) : OpOk X (compareOp .Eq) eqD := by
  refine .mk _ ((op_eqD hu).or op_eq) fun mg Z H v u d e ev Q s rv ru h q => ?_
  unfold eqD at h
  split at h
  · rename_i hl
    cases h
    simp only [eqOk, Bool.and_eq_true] at hl
    exact .inl ⟨d.py, e.py, rv.dp s hl.1.1, ru.dp s hl.2.1, hl.1.2, hl.2.2, q _ _ _ (.refl s) .bl⟩
  · cases h2 : strB d e with
    | none => rw [h2] at h; cases h
    | some b =>
      rw [h2] at h
      cases h
      obtain ⟨x, y, rfl, rfl, rfl⟩ := strB_some h2
      cases rv.str
      cases ru.str
      exact .inr ⟨rfl, by have := q (.bl (decide (x = y))) Z H (.refl s) .bl; simpa using this⟩
theorem ok_ne (hu : X.A.units + 64 < cLine) : OpOk X (compareOp .NotEq) neD := by
  refine .mk _ ((op_neD hu).or op_ne) fun mg Z H v u d e ev Q s rv ru h q => ?_
  unfold neD at h
  split at h
  · rename_i hl
    cases h
    simp only [eqOk, Bool.and_eq_true] at hl
    exact .inl ⟨d.py, e.py, rv.dp s hl.1.1, ru.dp s hl.2.1, hl.1.2, hl.2.2, q _ _ _ (.refl s) .bl⟩
  · cases h2 : strB d e with
    | none => rw [h2] at h; cases h
    | some b =>
      rw [h2] at h
      cases h
      obtain ⟨x, y, rfl, rfl, rfl⟩ := strB_some h2
      cases rv.str
      cases ru.str
      exact .inr ⟨rfl, by have := q (.bl (!decide (x = y))) Z H (.refl s) .bl; simpa using this⟩
def ltD : D → D → Option Ev
  | .int i, .int j => some (.dat (.bl (decide (i < j))))
  | _, _ => none
def leD : D → D → Option Ev
  | .int i, .int j => some (.dat (.bl (decide (i ≤ j))))
  | _, _ => none
def gtD : D → D → Option Ev
  | .int i, .int j => some (.dat (.bl (decide (j < i))))
  | _, _ => none
def geD : D → D → Option Ev
  | .int i, .int j => some (.dat (.bl (decide (j ≤ i))))
  | _, _ => none
theorem ok_lt : OpOk X (compareOp .Lt) ltD := by
  refine .mk _ op_lt fun mg Z H v u d e ev Q s rv ru h q => ?_
  cases d <;> cases e <;> cases h
  exact ⟨_, _, rv.int, ru.int, q _ _ _ (.refl s) .bl⟩
theorem ok_le : OpOk X (compareOp .LtE) leD := by
  refine .mk _ op_le fun mg Z H v u d e ev Q s rv ru h q => ?_
  cases d <;> cases e <;> cases h
  exact ⟨_, _, rv.int, ru.int, q _ _ _ (.refl s) .bl⟩
theorem ok_gt : OpOk X (compareOp .Gt) gtD := by
  refine .mk _ op_gt fun mg Z H v u d e ev Q s rv ru h q => ?_
  cases d <;> cases e <;> cases h
  exact ⟨_, _, rv.int, ru.int, q _ _ _ (.refl s) .bl⟩
theorem ok_ge : OpOk X (compareOp .GtE) geD := by
  refine .mk _ op_ge fun mg Z H v u d e ev Q s rv ru h q => ?_
  cases d <;> cases e <;> cases h
  exact ⟨_, _, rv.int, ru.int, q _ _ _ (.refl s) .bl⟩
/-- is None -/
def D.isN : D → Bool
  | .non => true
  | _ => false
def D.isB : D → Bool → Bool
  | .bl c, b => c == b
  | _, _ => false
def isD : D → D → Option Ev
  | d, .non => some (.dat (.bl d.isN))
  | d, .bl b => some (.dat (.bl (d.isB b)))
  | _, _ => none
def isnotD : D → D → Option Ev
  | d, .non => some (.dat (.bl (!d.isN)))
  | d, .bl b => some (.dat (.bl (!d.isB b)))
  | _, _ => none
theorem RN.isN {Z H : Hp} {v : V} {d : D} (h : RN Z H v d) : decide (v = .non) = d.isN := by
  rcases h with h | ⟨a, vs, ds, e1, e2, h1, h2⟩
  · cases h <;> simp [D.isN]
  · subst e1 e2; simp [D.isN]
theorem RN.isB {Z H : Hp} {v : V} {d : D} {b : Bool} (h : RN Z H v d) : decide (v = .bl b) = d.isB b := by
  rcases h with h | ⟨a, vs, ds, e1, e2, h1, h2⟩
  · cases h <;> first | rfl | simp [D.isB]
    rename_i c; cases b <;> cases c <;> rfl
  · subst e1 e2; simp [D.isB]
theorem rel_bool {x : V} {v : Value} {b : Bool} (r : RelV x v) : (v == Value.bool b) = decide (x = .bl b) := by
  cases x <;> first
    | (obtain ⟨t, rfl⟩ := r; cases b <;> rfl)
    | (cases r; cases b <;> rfl)
    | (cases r; rename_i c; cases b <;> cases c <;> rfl)
theorem plain_bool {v : Value} {b : Bool} (h : ∀ s, v ≠ .builtin s) : plainIs v (.bool b) = true := by
  cases v <;> first | rfl | exact absurd rfl (h _)
theorem rel_nb {x : V} {v : Value} (r : RelV x v) : (∃ s, v = .builtin s) → False := fun ⟨s, e⟩ => by
  subst e
  cases x <;> first
    | (cases r; done)
    | (obtain ⟨t, e⟩ := r; cases e)
def rIsB : R2 := fun x y H Q => (y = .non ∧ Q (.bl (decide (x = .non))) H) ∨ ∃ b, y = .bl b ∧ Q (.bl (decide (x = .bl b))) H
theorem op_isB : OpR X (compareOp .Is) rIsB := by
  intro pins s σ H x y v u Q I rx ry h
  rcases h with h | ⟨b, rfl, q⟩
  · exact op_isN pins s σ H x y v u Q I rx ry h
  · cases ry
    exact wpAny_is_plain (plain_bool fun s e => rel_nb rx ⟨s, e⟩) (fin_bl I q (rel_bool rx).symm)
def rNotB : R2 := fun x y H Q => (y = .non ∧ Q (.bl (!decide (x = .non))) H) ∨ ∃ b, y = .bl b ∧ Q (.bl (!decide (x = .bl b))) H
theorem op_notB : OpR X (compareOp .IsNot) rNotB := by
  intro pins s σ H x y v u Q I rx ry h
  rcases h with h | ⟨b, rfl, q⟩
  · exact op_notN pins s σ H x y v u Q I rx ry h
  · cases ry
    exact wpAny_isNot_plain (plain_bool fun s e => rel_nb rx ⟨s, e⟩) (fin_bl I q (by rw [rel_bool rx]))
theorem ok_is : OpOk X (compareOp .Is) isD := by
  refine .mk _ op_isB fun mg Z H v u d e ev Q s rv ru h q => ?_
  unfold isD at h
  split at h
  · cases h
    refine .inl ⟨ru.non, ?_⟩
    rw [rv.isN]
    exact q _ _ _ (.refl s) .bl
  · cases h
    refine .inr ⟨_, ru.bl, ?_⟩
    rw [rv.isB]
    exact q _ _ _ (.refl s) .bl
  · cases h
theorem ok_isnot : OpOk X (compareOp .IsNot) isnotD := by
  refine .mk _ op_notB fun mg Z H v u d e ev Q s rv ru h q => ?_
  unfold isnotD at h
  split at h
  · cases h
    refine .inl ⟨ru.non, ?_⟩
    rw [rv.isN]
    exact q _ _ _ (.refl s) .bl
  · cases h
    refine .inr ⟨_, ru.bl, ?_⟩
    rw [rv.isB]
    exact q _ _ _ (.refl s) .bl
  · cases h
/-- flat data as values -/
def D.fl : D → Option V
  | .non => some .non
  | .bl b => some (.bl b)
  | .int i => some (.int i)
  | .str x => some (.str x)
  | _ => none
def fls : List D → Option (List V)
  | [] => some []
  | d :: ds => match d.fl, fls ds with
    | some v, some vs => some (v :: vs)
    | _, _ => none
theorem D.fl_flat {d : D} {v : V} (h : d.fl = some v) : flatV v = true := by cases d <;> cases h <;> rfl
theorem fls_flat : ∀ {ds : List D} {vs : List V}, fls ds = some vs → vs.all flatV = true
  | [], _, h => by cases h; rfl
  | d :: ds, vs, h => by
    unfold fls at h
    split at h
    · rename_i v ws e1 e2
      cases h
      rw [List.all_cons, D.fl_flat e1, fls_flat e2]; rfl
    · cases h
theorem RD.fl {Z : Hp} {v x : V} {d : D} (r : RD Z v d) (h : d.fl = some x) : v = x := by cases r <;> cases h <;> rfl
theorem RDs.fls {Z : Hp} : ∀ {vs : List V} {ds : List D} {xs : List V}, RDs Z vs ds → DL.fls ds = some xs → vs = xs
  | _, _, _, .nil, h => by cases h; rfl
  | _, _, xs, .cons r rs, h => by
    unfold DL.fls at h
    split at h
    · rename_i v ws e1 e2
      cases h
      rw [RD.fl r e1, RDs.fls rs e2]
    · cases h
theorem RN.fl {Z H : Hp} {v x : V} {d : D} (r : RN Z H v d) (h : d.fl = some x) : v = x := by
  cases d with
  | non => cases h; exact r.non
  | bl b => cases h; exact r.bl
  | int i => cases h; exact r.int
  | str y => cases h; exact r.str
  | _ => cases h
/-- in a list, in a tuple of flat things -/
def inD : D → D → Option Ev
  | d, .lst ds => if (eqOk d && eqOk (.lst ds)) = true then some (.dat (.bl (ds.any fun z => eqB z d))) else none
  | d, .tup ds => match d.fl, fls ds with
    | some x, some xs => some (.dat (.bl (inV x xs)))
    | _, _ => none
  | _, _ => none
def notinD : D → D → Option Ev
  | d, .lst ds => if (eqOk d && eqOk (.lst ds)) = true then some (.dat (.bl (!ds.any fun z => eqB z d))) else none
  | d, .tup ds => match d.fl, fls ds with
    | some x, some xs => some (.dat (.bl (!inV x xs)))
    | _, _ => none
  | _, _ => none
theorem any_pys (d : D) : ∀ ds : List D, ((D.py.pys ds).any fun z => PyData.eqv z d.py) = ds.any fun z => eqB z d
  | [] => rfl
  | x :: xs => by simp only [D.py.pys, List.any_cons, any_pys d xs]; rfl
theorem ok_in (hu : X.A.units + 65 < cLine) : OpOk X (compareOp .In) inD := by
  refine .mk _ ((op_inD hu).or op_in_seq) fun mg Z H v u d e ev Q s rv ru h q => ?_
  unfold inD at h
  split at h
  · split at h
    · rename_i ds hl
      cases h
      simp only [eqOk, Bool.and_eq_true] at hl
      refine .inl ⟨d.py, D.py.pys ds, rv.dp s hl.1.1, by have := ru.dp (K := X.K) s hl.2.1; simpa only [D.py] using this, hl.1.2, by simpa only [D.py] using hl.2.2, ?_⟩
      rw [any_pys]
      exact q _ _ _ (.refl s) .bl
    · cases h
  · split at h
    · rename_i x xs e1 e2
      cases h
      obtain ⟨a, ws, rfl, h1, r1⟩ := ru.tup s
      refine .inr ⟨a, xs, rfl, .inr (.of (r1.fls e2 ▸ h1)), rv.fl e1 ▸ D.fl_flat e1, fls_flat e2, ?_⟩
      rw [rv.fl e1]
      exact q _ _ _ (.refl s) .bl
    · cases h
  · cases h
theorem ok_notin (hu : X.A.units + 65 < cLine) : OpOk X (compareOp .NotIn) notinD := by
  refine .mk _ ((op_notInD hu).or op_notIn_seq) fun mg Z H v u d e ev Q s rv ru h q => ?_
  unfold notinD at h
  split at h
  · split at h
    · rename_i ds hl
      cases h
      simp only [eqOk, Bool.and_eq_true] at hl
      refine .inl ⟨d.py, D.py.pys ds, rv.dp s hl.1.1, by have := ru.dp (K := X.K) s hl.2.1; simpa only [D.py] using this, hl.1.2, by simpa only [D.py] using hl.2.2, ?_⟩
      rw [any_pys]
      exact q _ _ _ (.refl s) .bl
    · cases h
  · split at h
    · rename_i x xs e1 e2
      cases h
      obtain ⟨a, ws, rfl, h1, r1⟩ := ru.tup s
      refine .inr ⟨a, xs, rfl, .inr (.of (r1.fls e2 ▸ h1)), rv.fl e1 ▸ D.fl_flat e1, fls_flat e2, ?_⟩
      rw [rv.fl e1]
      exact q _ _ _ (.refl s) .bl
    · cases h
  · cases h
end
end DL
namespace DL
open PySem PySem.Spec PyProof.Rows L2
section
variable {X : Cx} {g : Gx}
abbrev DW (X : Cx) (g : Gx) (pu : Bool) (e : Expr) (m : TM) : Prop := PW X e (tT g pu m)
theorem PW.imp {e : Expr} {t t' : TT} (h : PW X e t) (k : ∀ σ H Q, t' σ H Q → t σ H Q) : PW X e t' := ⟨fun wh pins s σ H Q I q => h.run wh pins s σ H Q I (k σ H Q q)⟩
def tvNot (m : TM) : TM := fun env => (m env).bind fun b e => .ok (!b) e
theorem dt_not {p : Bool} {a : Expr} {m : TM} {pos : Pos} (h : DT X g p a m) : DT X g p (.UnaryOp .Not a pos) (tvNot m) := by
  refine PT.imp (pt_not h) fun σ H Q ⟨Z, env, fps, s, h⟩ => ⟨Z, env, fps, s, ?_⟩
  unfold tvNot at h
  cases e : m env with
  | no => simp [e] at h
  | ex x e1 => simpa [e] using h
  | ok c e1 =>
    simp only [e, Res.bind_ok] at h
    intro b Z' H' fps' s' z k r
    subst r
    exact h (!b) Z' H' fps' s' z k rfl
def tvAnd (a b : TM) : TM := fun env => (a env).bind fun c e1 => if c = true then b e1 else .ok false e1
def tvOr (a b : TM) : TM := fun env => (a env).bind fun c e1 => if c = true then .ok true e1 else b e1
theorem and_run {p q : Bool} {ma mb : TM} {σ : L2.St} {H : Hp} {Q : Bool → Hp → Prop} (h : tT g (p && q) (tvAnd ma mb) σ H Q) : tAnd (tT g p ma) (tT g q mb) σ H Q := by
  obtain ⟨Z, env, fps, s, h⟩ := h
  refine ⟨Z, env, fps, s, ?_⟩
  unfold tvAnd at h
  cases e : ma env with
  | no => simp [e] at h
  | ex x e1 => simpa [e] using h
  | ok c e1 =>
    intro b Z1 H1 fps1 s1 z1 k1 r1
    subst r1
    cases b with
    | false =>
      simp only [e, Res.bind_ok, Bool.false_eq_true, if_false] at h ⊢
      exact h false Z1 H1 fps1 s1 z1 (fun hp => k1 (by simp at hp; exact hp.1)) rfl
    | true =>
      simp only [e, Res.bind_ok, if_true] at h ⊢
      refine ⟨Z1, e1, fps1, s1, ?_⟩
      cases e2 : mb e1 with
      | no => simp [e2] at h
      | ex x e3 =>
        rw [e2] at h
        exact fun cls d Z2 H2 fps2 s2 z2 xr => h cls d Z2 H2 fps2 s2 (z1.trans z2) xr
      | ok c2 e3 =>
        rw [e2] at h
        refine fun b Z2 H2 fps2 s2 z2 k2 r2 => h b Z2 H2 fps2 s2 (z1.trans z2) (fun hp => ?_) r2
        simp only [Bool.and_eq_true] at hp
        obtain ⟨a1, a2, a3⟩ := k1 hp.1
        obtain ⟨b1, b2, b3⟩ := k2 hp.2
        exact ⟨b1.trans a1, b2.trans a2, a3.trans b3⟩
theorem or_run {p q : Bool} {ma mb : TM} {σ : L2.St} {H : Hp} {Q : Bool → Hp → Prop} (h : tT g (p && q) (tvOr ma mb) σ H Q) : tOr (tT g p ma) (tT g q mb) σ H Q := by
  obtain ⟨Z, env, fps, s, h⟩ := h
  refine ⟨Z, env, fps, s, ?_⟩
  unfold tvOr at h
  cases e : ma env with
  | no => simp [e] at h
  | ex x e1 => simpa [e] using h
  | ok c e1 =>
    intro b Z1 H1 fps1 s1 z1 k1 r1
    subst r1
    cases b with
    | true =>
      simp only [e, Res.bind_ok, if_true] at h ⊢
      exact h true Z1 H1 fps1 s1 z1 (fun hp => k1 (by simp at hp; exact hp.1)) rfl
    | false =>
      simp only [e, Res.bind_ok, Bool.false_eq_true, if_false] at h ⊢
      refine ⟨Z1, e1, fps1, s1, ?_⟩
      cases e2 : mb e1 with
      | no => simp [e2] at h
      | ex x e3 =>
        rw [e2] at h
        exact fun cls d Z2 H2 fps2 s2 z2 xr => h cls d Z2 H2 fps2 s2 (z1.trans z2) xr
      | ok c2 e3 =>
        rw [e2] at h
        refine fun b Z2 H2 fps2 s2 z2 k2 r2 => h b Z2 H2 fps2 s2 (z1.trans z2) (fun hp => ?_) r2
        simp only [Bool.and_eq_true] at hp
        obtain ⟨a1, a2, a3⟩ := k1 hp.1
        obtain ⟨b1, b2, b3⟩ := k2 hp.2
        exact ⟨b1.trans a1, b2.trans a2, a3.trans b3⟩
theorem dw_and1 {p : Bool} {a : Expr} {m : TM} {pos : Pos} (h : DT X g p a m) : DW X g p (.BoolOp .And [a] pos) m := pw_and1 h
theorem dw_or1 {p : Bool} {a : Expr} {m : TM} {pos : Pos} (h : DT X g p a m) : DW X g p (.BoolOp .Or [a] pos) m := pw_or1 h
theorem dw_and {p q : Bool} {a b : Expr} {rest : List Expr} {ma mb : TM} {pos : Pos} (ha : DT X g p a ma) (hb : DW X g q (.BoolOp .And (b :: rest) pos) mb) : DW X g (p && q) (.BoolOp .And (a :: b :: rest) pos) (tvAnd ma mb) := PW.imp (pw_and ha hb) fun σ H Q h => and_run h
theorem dw_or {p q : Bool} {a b : Expr} {rest : List Expr} {ma mb : TM} {pos : Pos} (ha : DT X g p a ma) (hb : DW X g q (.BoolOp .Or (b :: rest) pos) mb) : DW X g (p && q) (.BoolOp .Or (a :: b :: rest) pos) (tvOr ma mb) := PW.imp (pw_or ha hb) fun σ H Q h => or_run h
theorem dt_w {p : Bool} {e : Expr} {m : TM} (h : DW X g p e m) : DT X g p e m := h.pt
theorem tR_mono {α β : Type} {p : Bool} {rel : Hp → Hp → L2.St → (Nat → List Addr) → β → α → Prop} {m : Ve → Res α} {σ : L2.St} {H : Hp} {Q Q' : β → Hp → Prop} (h : tR g p rel m σ H Q) (k : ∀ b H', Q b H' → Q' b H') : tR g p rel m σ H Q' := by
  obtain ⟨Z, env, fps, s, h⟩ := h
  refine ⟨Z, env, fps, s, ?_⟩
  cases e : m env with
  | no => rw [e] at h; exact h
  | ex x e1 => rw [e] at h; exact h
  | ok c e1 =>
    rw [e] at h
    exact fun b Z1 H1 fps1 s1 z1 k1 r1 => k _ _ (h b Z1 H1 fps1 s1 z1 k1 r1)
/-! as values -/
def evT (m : TM) : EM := fun env => (m env).bind fun b e => .ok (.dat (.bl b)) e
theorem evT_run {p : Bool} {m : TM} {σ : L2.St} {H : Hp} {Q : VK} (h : tE g p (evT m) σ H Q) : tT g p m σ H fun b H' => Q (.bl b) H' := by
  obtain ⟨Z, env, fps, s, h⟩ := h
  refine ⟨Z, env, fps, s, ?_⟩
  unfold evT at h
  cases e : m env with
  | no => simp [e] at h
  | ex x e1 => simpa [e] using h
  | ok c e1 =>
    simp only [e, Res.bind_ok] at h
    intro b Z1 H1 fps1 s1 z1 k1 r1
    subst r1
    exact h (.bl b) Z1 H1 fps1 s1 z1 k1 .bl
/-- a value that is a bool: as a test -/
theorem tvB_of {p : Bool} {m : EM} {σ : L2.St} {H : Hp} {Q : Bool → Hp → Prop} (h : tT g p (tvB m) σ H Q) : tE g p m σ H fun x H' => ∃ k, x = .bl k ∧ Q k H' := tv_run h
theorem de_one {p : Bool} {op : BoolOp} {a : Expr} {m : EM} {pos : Pos} (h : DE X g p a m) : DE X g p (.BoolOp op [a] pos) m := pe_one h
def evAnd (a b : EM) : EM := fun env => (tvB a env).bind fun c e1 => if c = true then b e1 else .ok (.dat (.bl false)) e1
def evOr (a b : EM) : EM := fun env => (tvB a env).bind fun c e1 => if c = true then .ok (.dat (.bl true)) e1 else b e1
theorem ite_run {p q : Bool} {mc : TM} {ma mb : EM} {σ : L2.St} {H : Hp} {Q : VK} {q2 : Bool} (h : tE g (p && q && q2) (fun env => (mc env).bind fun c e1 => if c = true then ma e1 else mb e1) σ H Q) :
    tT g p mc σ H fun c H1 => if c = true then tE g q ma σ H1 Q else tE g q2 mb σ H1 Q := by
  obtain ⟨Z, env, fps, s, h⟩ := h
  refine ⟨Z, env, fps, s, ?_⟩
  cases e : mc env with
  | no => simp [e] at h
  | ex x e1 => simpa [e] using h
  | ok c e1 =>
    intro b Z1 H1 fps1 s1 z1 k1 r1
    subst r1
    simp only [e, Res.bind_ok] at h
    have go : ∀ {q' : Bool} {m : EM}, ((p && q && q2) = true → p = true ∧ q' = true) → Post g (p && q && q2) (EvR g) Z env σ H fps Q (m e1) → tE g q' m σ H1 Q := fun {q' m} hq h => by
      refine ⟨Z1, e1, fps1, s1, ?_⟩
      cases e2 : m e1 with
      | no => simp [e2] at h
      | ex x e3 =>
        rw [e2] at h
        exact fun cls d Z2 H2 fps2 s2 z2 xr => h cls d Z2 H2 fps2 s2 (z1.trans z2) xr
      | ok c2 e3 =>
        rw [e2] at h
        refine fun b Z2 H2 fps2 s2 z2 k2 r2 => h b Z2 H2 fps2 s2 (z1.trans z2) (fun hp => ?_) r2
        obtain ⟨a1, a2, a3⟩ := k1 (hq hp).1
        obtain ⟨b1, b2, b3⟩ := k2 (hq hp).2
        exact ⟨b1.trans a1, b2.trans a2, a3.trans b3⟩
    cases b with
    | true =>
      simp only [if_true] at h ⊢
      exact go (fun hp => by simp at hp; exact hp.1) h
    | false =>
      simp only [Bool.false_eq_true, if_false] at h ⊢
      exact go (fun hp => by simp at hp; exact ⟨hp.1.1, hp.2⟩) h
theorem lit_run {q : Bool} {d : D} {v : V} {σ : L2.St} {H : Hp} {Q : VK} (r : ∀ Z, RD Z v d) (h : tE g q (eD d) σ H Q) : Q v H := by
  obtain ⟨Z, env, fps, s, h⟩ := h
  exact h v Z H fps s (.refl _) (fun _ => ⟨rfl, rfl, .refl _⟩) (r _)
theorem de_and {p q : Bool} {a b : Expr} {rest : List Expr} {ma mb : EM} {pos : Pos} (ha : DE X g p a ma) (hb : DE X g q (.BoolOp .And (b :: rest) pos) mb) : DE X g (p && q) (.BoolOp .And (a :: b :: rest) pos) (evAnd ma mb) := by
  refine PE.imp (pe_and ha hb) fun σ H Q h => ?_
  have h1 : tE g (p && q && true) (fun env => (tvB ma env).bind fun c e1 => if c = true then mb e1 else eD (.bl false) e1) σ H Q := by rw [Bool.and_true]; exact h
  refine tR_mono (tv_run (ite_run h1)) fun b H' ⟨c, e, q⟩ => ⟨c, e, ?_⟩
  cases c with
  | true => exact q
  | false => exact lit_run (fun _ => RD.bl) q
theorem de_or {p q : Bool} {a b : Expr} {rest : List Expr} {ma mb : EM} {pos : Pos} (ha : DE X g p a ma) (hb : DE X g q (.BoolOp .Or (b :: rest) pos) mb) : DE X g (p && q) (.BoolOp .Or (a :: b :: rest) pos) (evOr ma mb) := by
  refine PE.imp (pe_or ha hb) fun σ H Q h => ?_
  have h1 : tE g (p && true && q) (fun env => (tvB ma env).bind fun c e1 => if c = true then eD (.bl true) e1 else mb e1) σ H Q := by rw [Bool.and_true]; exact h
  refine tR_mono (tv_run (ite_run h1)) fun b H' ⟨c, e, q⟩ => ⟨c, e, ?_⟩
  cases c with
  | false => exact q
  | true => exact lit_run (fun _ => RD.bl) q
def evNot (m : EM) : EM := fun env => (tvB m env).bind fun b e => .ok (.dat (.bl (!b))) e
theorem de_not {p : Bool} {a : Expr} {m : EM} {pos : Pos} (h : DE X g p a m) : DE X g p (.UnaryOp .Not a pos) (evNot m) := by
  refine PE.imp (pe_not h) fun σ H Q h => ?_
  have h1 : tT g p (tvB m) σ H fun b H' => Q (.bl (!b)) H' := by
    obtain ⟨Z, env, fps, s, h⟩ := h
    refine ⟨Z, env, fps, s, ?_⟩
    unfold evNot at h
    cases e : tvB m env with
    | no => simp [e] at h
    | ex x e1 => simpa [e] using h
    | ok c e1 =>
      simp only [e, Res.bind_ok] at h
      intro b Z1 H1 fps1 s1 z1 k1 r1
      subst r1
      exact h _ Z1 H1 fps1 s1 z1 k1 .bl
  exact tv_run h1
def evIf (c : TM) (a b : EM) : EM := fun env => (c env).bind fun x e1 => if x = true then a e1 else b e1
theorem de_if {p q q2 : Bool} {c a b : Expr} {mc : TM} {ma mb : EM} {pos : Pos} (hc : DT X g p c mc) (ha : DE X g q a ma) (hb : DE X g q2 b mb) : DE X g (p && q && q2) (.IfExp c a b pos) (evIf mc ma mb) :=
  PE.imp (pe_ifExp hc ha hb) fun σ H Q h => ite_run h
/-! one operand -/
def UnOk (X : Cx) (f : Value → Sem Value) (op : D → Option Ev) : Prop :=
  ∃ r, UnR X f r ∧ ∀ mg Z H v d ev Q, Same Z H → RN Z H v d → op d = some ev → (∀ v' Z' H', Fresh Z H Z' H' → NewR mg H Z' H' v' ev → Q v' H') → r v H Q
def eOp1 (op : D → Option Ev) (a : EM) : EM := fun env => (hold true (a env)).bind fun x e1 => match peek e1 x with
  | some d => match op d with
    | some ev => .ok ev e1
    | none => .no
  | none => .no
theorem op1_run {p : Bool} {op : D → Option Ev} {ma : EM} {r : V → Hp → VK → Prop} (hr : ∀ mg Z H v d ev Q, Same Z H → RN Z H v d → op d = some ev → (∀ v' Z' H', Fresh Z H Z' H' → NewR mg H Z' H' v' ev → Q v' H') → r v H Q)
    {σ : L2.St} {H : Hp} {Q : VK} (h : tE g p (eOp1 op ma) σ H Q) : tE g p ma σ H fun v H' => r v H' Q := by
  obtain ⟨Z, env, fps, s, h⟩ := h
  refine hold_run (q := true) s (fun x e1 he v Z1 H1 fps1 s1 z1 k1 r1 => ?_) (fun x e1 he => ?_) (fun he => ?_)
  · simp only [eOp1, he, Res.bind_ok] at h
    cases h1 : peek e1 x with
    | none => simp [h1] at h
    | some d =>
      cases h3 : op d with
      | none => simp [h1, h3] at h
      | some ev =>
        simp only [h1, h3] at h
        refine hr g.mg Z1 H1 v d ev Q s1.sub (peek_ok s1 r1 h1) h3 fun v' Z' H' f nr => ?_
        refine h v' Z' H' fps1 (s1.fresh f) (z1.trans f.z) (fun hp => ?_) (nr.ev s1)
        obtain ⟨a1, a2, a3⟩ := k1 hp
        exact ⟨a1, a2, a3.trans f.h⟩
  · simp only [eOp1, he, Res.bind_ex] at h
    exact h
  · simp only [eOp1, he, Res.bind_no, Post_no] at h
theorem de_un {op : UnaryOp} {f : D → Option Ev} {p : Bool} {a : Expr} {ma : EM} {pos : Pos} (ho : UnOk X (unaryOp op) f) (ha : DE X g p a ma) : DE X g p (.UnaryOp op a pos) (eOp1 f ma) := by
  obtain ⟨r, h1, h2⟩ := ho
  exact PE.imp (pe_un h1 ha) fun σ H Q h => op1_run h2 h
def negD : D → Option Ev
  | .int i => some (.dat (.int (-i)))
  | _ => none
theorem ok_neg : UnOk X (unaryOp .USub) negD := by
  refine ⟨_, un_neg, fun mg Z H v d ev Q s rv h q => ?_⟩
  cases d <;> cases h
  exact ⟨_, rv.int, q _ _ _ (.refl s) .int⟩
/-! chains a < b < c -/
def evChain (q q2 : Bool) (f f' : D → D → Option Ev) (a b c : EM) : EM := fun env => (hold q (a env)).bind fun x e1 => (hold q2 (b e1)).bind fun y e2 =>
  match peek e2 x, peek e2 y with
  | some d, some u => match f d u with
    | some (.dat (.bl k)) => if k = true then (hold true (c e2)).bind fun z e3 => match peek e3 y, peek e3 z with
        | some u', some w => match f' u' w with
          | some ev => .ok ev e3
          | none => .no
        | _, _ => .no
      else .ok (.dat (.bl false)) e2
    | _ => .no
  | _, _ => .no
theorem chain_run {p q q2 : Bool} {f f' : D → D → Option Ev} {ma mb mc : EM} {r r' : R2}
    (hr : ∀ mg Z H v u d e ev Q, Same Z H → RN Z H v d → RN Z H u e → f d e = some ev → (∀ v' Z' H', Fresh Z H Z' H' → NewR mg H Z' H' v' ev → Q v' H') → r v u H Q)
    (hr' : ∀ mg Z H v u d e ev Q, Same Z H → RN Z H v d → RN Z H u e → f' d e = some ev → (∀ v' Z' H', Fresh Z H Z' H' → NewR mg H Z' H' v' ev → Q v' H') → r' v u H Q)
    {σ : L2.St} {H : Hp} {Q : VK} (h : tE g (p && q && q2) (evChain (q && q2) q2 f f' ma mb mc) σ H Q) : tChain r r' (tE g p ma) (tE g q mb) (tE g q2 mc) σ H Q := by
  obtain ⟨Z, env, fps, s, h⟩ := h
  refine hold_run (q := q && q2) s (fun x e1 he v Z1 H1 fps1 s1 z1 k1 r1 => ?_) (fun x e1 he => ?_) (fun he => ?_)
  · refine hold_run (q := q2) s1 (fun y e2 he2 u Z2 H2 fps2 s2 z2 k2 r2 => ?_) (fun y e2 he2 => ?_) (fun he2 => ?_)
    · simp only [evChain, he, he2, Res.bind_ok] at h
      have r1' := r1.later z2 fun hq => (k2 (by simp at hq; exact hq.1)).2.2
      cases h1 : peek e2 x with
      | none => simp [h1] at h
      | some d =>
        cases h2 : peek e2 y with
        | none => simp [h1, h2] at h
        | some d2 =>
          cases h3 : f d d2 with
          | none => simp [h1, h2, h3] at h
          | some ev =>
            simp only [h1, h2, h3] at h
            refine hr g.mg Z2 H2 v u d d2 ev _ s2.sub (peek_ok s2 r1' h1) (peek_ok s2 r2 h2) h3 fun v' Z' H' fr nr => ?_
            cases ev with
            | new t => exact h.elim
            | pl j pp => exact h.elim
            | dat d3 =>
              cases d3 with
              | bl k =>
                cases nr
                have s3 := s2.fresh fr
                refine ⟨k, rfl, ?_⟩
                cases k with
                | false =>
                  simp only [Bool.false_eq_true, if_false] at h ⊢
                  refine h (.bl false) Z' H' fps2 s3 ((z1.trans z2).trans fr.z) (fun hp => ?_) .bl
                  simp only [Bool.and_eq_true] at hp
                  obtain ⟨a1, a2, a3⟩ := k1 hp.1.1
                  obtain ⟨b1, b2, b3⟩ := k2 hp.1.2
                  exact ⟨b1.trans a1, b2.trans a2, (a3.trans b3).trans fr.h⟩
                | true =>
                  simp only [if_true] at h ⊢
                  have r2' := r2.later fr.z fun _ => fr.h
                  refine hold_run (q := true) s3 (fun z e3 he3 w Z3 H3 fps3 s4 z3 k3 r3 => ?_) (fun z e3 he3 => ?_) (fun he3 => ?_)
                  · simp only [he3, Res.bind_ok] at h
                    have r2'' := r2'.later z3 fun hq => (k3 hq).2.2
                    cases h4 : peek e3 y with
                    | none => simp [h4] at h
                    | some d4 =>
                      cases h5 : peek e3 z with
                      | none => simp [h4, h5] at h
                      | some d5 =>
                        cases h6 : f' d4 d5 with
                        | none => simp [h4, h5, h6] at h
                        | some ev2 =>
                          simp only [h4, h5, h6] at h
                          refine hr' g.mg Z3 H3 u w d4 d5 ev2 Q s4.sub (peek_ok s4 r2'' h4) (peek_ok s4 r3 h5) h6 fun v'' Z4 H4 fr2 nr2 => ?_
                          refine h v'' Z4 H4 fps3 (s4.fresh fr2) (((((z1.trans z2).trans fr.z).trans z3).trans fr2.z)) (fun hp => ?_) (nr2.ev s4)
                          simp only [Bool.and_eq_true] at hp
                          obtain ⟨a1, a2, a3⟩ := k1 hp.1.1
                          obtain ⟨b1, b2, b3⟩ := k2 hp.1.2
                          obtain ⟨c1, c2, c3⟩ := k3 hp.2
                          exact ⟨c1.trans (b1.trans a1), c2.trans (b2.trans a2), (((a3.trans b3).trans fr.h).trans c3).trans fr2.h⟩
                  · simp only [he3, Res.bind_ex] at h
                    exact fun cls dd Z3 H3 fps3 s4 z3 xr => h cls dd Z3 H3 fps3 s4 (((z1.trans z2).trans fr.z).trans z3) xr
                  · simp only [he3, Res.bind_no, Post_no] at h
              | _ => exact h.elim
    · simp only [evChain, he, he2, Res.bind_ok, Res.bind_ex] at h
      exact fun cls dd Z2 H2 fps2 s2 z2 xr => h cls dd Z2 H2 fps2 s2 (z1.trans z2) xr
    · simp only [evChain, he, he2, Res.bind_ok, Res.bind_no, Post_no] at h
  · simp only [evChain, he, Res.bind_ex] at h
    exact h
  · simp only [evChain, he, Res.bind_no, Post_no] at h
theorem de_chain {op op' : CmpOp} {f f' : D → D → Option Ev} {p q q2 : Bool} {a b c : Expr} {ma mb mc : EM} {pos : Pos} (ho : OpOk X (compareOp op) f) (ho' : OpOk X (compareOp op') f') (ha : DE X g p a ma) (hb : DE X g q b mb) (hc : DE X g q2 c mc)
    (hm : lastMarks [op, op'] [b, c] = false := by with_unfolding_all rfl) : DE X g (p && q && q2) (.Compare a [op, op'] [b, c] pos) (evChain (q && q2) q2 f f' ma mb mc) := by
  obtain ⟨r, h1, h2⟩ := ho
  obtain ⟨r', h1', h2'⟩ := ho'
  exact PE.imp (pe_chain h1 h1' ha hb hc hm) fun σ H Q h => chain_run h2 h2' h
theorem dt_chain {op op' : CmpOp} {f f' : D → D → Option Ev} {p q q2 : Bool} {a b c : Expr} {ma mb mc : EM} {pos : Pos} (ho : OpOk X (compareOp op) f) (ho' : OpOk X (compareOp op') f') (ha : DE X g p a ma) (hb : DE X g q b mb) (hc : DE X g q2 c mc)
    (hm : lastMarks [op, op'] [b, c] = false := by with_unfolding_all rfl) : DT X g (p && q && q2) (.Compare a [op, op'] [b, c] pos) (tvB (evChain (q && q2) q2 f f' ma mb mc)) := by
  obtain ⟨r, h1, h2⟩ := ho
  obtain ⟨r', h1', h2'⟩ := ho'
  refine PT.imp (pt_chain h1 h1' ha hb hc hm) fun σ H Q h => ?_
  exact chain_run h2 h2' (tv_run h)
end
end DL
namespace DL
open PySem PySem.Spec PyProof.Rows L2
section
variable {X : Cx} {g : Gx}
/-! ### argument lists -/
inductive HvRs (Z H : Hp) (σ : L2.St) : List V → List Ev → Prop
  | nil : HvRs Z H σ [] []
  | cons {v : V} {x : Ev} {vs : List V} {xs : List Ev} : HvR true Z H σ v x → HvRs Z H σ vs xs → HvRs Z H σ (v :: vs) (x :: xs)
abbrev tA (g : Gx) (pu : Bool) (m : AM) : TA := tR g pu (fun Z' H' σ _ vs xs => HvRs Z' H' σ vs xs) m
abbrev DA (X : Cx) (g : Gx) (pu : Bool) (es : List Expr) (m : AM) : Prop := PA X es (tA g pu m)
theorem PA.imp {e : List Expr} {t t' : TA} (h : PA X e t) (k : ∀ σ H Q, t' σ H Q → t σ H Q) : PA X e t' := ⟨fun ps pins s σ H Q I q => h.run ps pins s σ H Q I (k σ H Q q)⟩
theorem HvR.last {q : Bool} {Z H : Hp} {σ : L2.St} {v : V} {x : Ev} (h : HvR q Z H σ v x) : HvR true Z H σ v x := by
  cases x with
  | dat d => exact h
  | pl j p => exact ⟨.inr rfl, h.2⟩
  | new t => exact h
theorem HvRs.length {Z H : Hp} {σ : L2.St} : ∀ {vs : List V} {xs : List Ev}, HvRs Z H σ vs xs → vs.length = xs.length
  | _, _, .nil => rfl
  | _, _, .cons _ r => congrArg Nat.succ r.length
def aNil : AM := fun env => .ok [] env
def aCons (q : Bool) (m : EM) (r : AM) : AM := fun env => (hold q (m env)).bind fun x e1 => (r e1).bind fun xs e2 => .ok (x :: xs) e2
theorem da_nil : DA X g true [] aNil := PA.imp pa_nil fun σ H Q ⟨Z, env, fps, s, h⟩ => h [] Z H fps s (.refl _) (fun _ => ⟨rfl, rfl, .refl _⟩) .nil
theorem cons_run {p q : Bool} {me : EM} {mr : AM} {σ : L2.St} {H : Hp} {Q : List V → Hp → Prop} (h : tA g (p && q) (aCons q me mr) σ H Q) : tCons (tE g p me) (tA g q mr) σ H Q := by
  obtain ⟨Z, env, fps, s, h⟩ := h
  refine hold_run (q := q) s (fun x e1 he v Z1 H1 fps1 s1 z1 k1 r1 => ?_) (fun x e1 he => ?_) (fun he => ?_)
  · refine ⟨Z1, e1, fps1, s1, ?_⟩
    simp only [aCons, he, Res.bind_ok] at h
    cases e2 : mr e1 with
    | no => simp [e2] at h
    | ex x2 e3 =>
      rw [e2] at h
      exact fun cls d Z2 H2 fps2 s2 z2 xr => h cls d Z2 H2 fps2 s2 (z1.trans z2) xr
    | ok xs e3 =>
      simp only [e2, Res.bind_ok] at h
      refine fun vs Z2 H2 fps2 s2 z2 k2 r2 => h (v :: vs) Z2 H2 fps2 s2 (z1.trans z2) (fun hp => ?_) (.cons (r1.later z2 fun hq => (k2 hq).2.2).last r2)
      simp only [Bool.and_eq_true] at hp
      obtain ⟨a1, a2, a3⟩ := k1 hp.1
      obtain ⟨b1, b2, b3⟩ := k2 hp.2
      exact ⟨b1.trans a1, b2.trans a2, a3.trans b3⟩
  · simp only [aCons, he, Res.bind_ex] at h
    exact h
  · simp only [aCons, he, Res.bind_no, Post_no] at h
theorem da_cons {p q : Bool} {e : Expr} {es : List Expr} {me : EM} {mr : AM} (h : DE X g p e me) (hr : DA X g q es mr) (hs : starEach (e :: es) X.env = (false, eval e X.env) :: starEach es X.env := by rfl) : DA X g (p && q) (e :: es) (aCons q me mr) :=
  PA.imp (pa_cons h hr hs) fun σ H Q h => cons_run h
def peeks (env : Ve) : List Ev → Option (List D)
  | [] => some []
  | x :: xs => match peek env x, peeks env xs with
    | some d, some ds => some (d :: ds)
    | _, _ => none
inductive RNs (Z H : Hp) : List V → List D → Prop
  | nil : RNs Z H [] []
  | cons {v : V} {d : D} {vs : List V} {ds : List D} : RN Z H v d → RNs Z H vs ds → RNs Z H (v :: vs) (d :: ds)
theorem RNs.length {Z H : Hp} : ∀ {vs : List V} {ds : List D}, RNs Z H vs ds → vs.length = ds.length
  | _, _, .nil => rfl
  | _, _, .cons _ r => congrArg Nat.succ r.length
theorem peeks_ok {Z H : Hp} {env : Ve} {σ : L2.St} {fps : Nat → List Addr} (s : StR g Z env σ H fps) : ∀ {vs : List V} {xs : List Ev} {ds : List D}, HvRs Z H σ vs xs → peeks env xs = some ds → RNs Z H vs ds
  | _, _, _, .nil, e => by cases e; exact .nil
  | _, _, ds, .cons (x := x) (xs := xs) h r, e => by
    unfold peeks at e
    cases h1 : peek env x with
    | none => simp [h1] at e
    | some d =>
      cases h2 : peeks env xs with
      | none => simp [h1, h2] at e
      | some ds' =>
        simp only [h1, h2, Option.some.injEq] at e
        subst e
        exact .cons (peek_ok s h h1) (peeks_ok s r h2)
/-- data only -/
def dats : List Ev → Option (List D)
  | [] => some []
  | .dat d :: xs => match dats xs with
    | some ds => some (d :: ds)
    | none => none
  | _ :: _ => none
theorem dats_ok {Z H : Hp} {σ : L2.St} : ∀ {vs : List V} {xs : List Ev} {ds : List D}, HvRs Z H σ vs xs → dats xs = some ds → RDs Z vs ds
  | _, _, _, .nil, e => by cases e; exact .nil
  | _, _, ds, .cons (x := x) (xs := xs) h r, e => by
    cases x with
    | dat d =>
      unfold dats at e
      cases h2 : dats xs with
      | none => simp [h2] at e
      | some ds' =>
        simp only [h2, Option.some.injEq] at e
        subst e
        exact .cons h (dats_ok r h2)
    | _ => cases e
/-! ### displays -/
def eTup (m : AM) : EM := fun env => (m env).bind fun xs e1 => match dats xs with
  | some ds => if ds.length ≤ lim then .ok (.dat (.tup ds)) e1 else .no
  | none => .no
def eLst (m : AM) : EM := fun env => (m env).bind fun xs e1 => match dats xs with
  | some ds => if ds.length ≤ lim then .ok (.new (.lst ds)) e1 else .no
  | none => .no
theorem de_tup {p : Bool} {es : List Expr} {m : AM} {k pos} (h : DA X g p es m) : DE X g p (.Tuple es k pos) (eTup m) := by
  refine PE.imp (pe_tup h) fun σ H Q ⟨Z, env, fps, s, h⟩ => ⟨Z, env, fps, s, ?_⟩
  unfold eTup at h
  cases e : m env with
  | no => simp [e] at h
  | ex x e1 => simpa [e] using h
  | ok xs e1 =>
    simp only [e, Res.bind_ok] at h
    intro vs Z1 H1 fps1 s1 z1 k1 r1
    cases h1 : dats xs with
    | none => simp [h1] at h
    | some ds =>
      simp only [h1] at h
      split at h
      · rename_i hl
        have rd := dats_ok r1 h1
        refine ⟨lim_eq (by rw [rd.length]; exact hl), fun a ha => ?_⟩
        have f := Fresh.newZ (o := .tup vs) s1.sub ha
        refine h (.ref a) _ _ fps1 (s1.fresh f) (z1.trans f.z) (fun hp => ?_) (NewR.tup (mg := g.mg) s1.sub ha rd)
        obtain ⟨a1, a2, a3⟩ := k1 hp
        exact ⟨a1, a2, a3.trans f.h⟩
      · exact h.elim
theorem de_lst {p : Bool} {es : List Expr} {m : AM} {pos} (h : DA X g p es m) : DE X g p (.List es pos) (eLst m) := by
  refine PE.imp (pe_lst h) fun σ H Q ⟨Z, env, fps, s, h⟩ => ⟨Z, env, fps, s, ?_⟩
  unfold eLst at h
  cases e : m env with
  | no => simp [e] at h
  | ex x e1 => simpa [e] using h
  | ok xs e1 =>
    simp only [e, Res.bind_ok] at h
    intro vs Z1 H1 fps1 s1 z1 k1 r1
    cases h1 : dats xs with
    | none => simp [h1] at h
    | some ds =>
      simp only [h1] at h
      split at h
      · rename_i hl
        have rd := dats_ok r1 h1
        refine ⟨lim_eq (by rw [rd.length]; exact hl), fun a ha => ?_⟩
        have f := Fresh.new (o := .lst vs) s1.sub ha
        have s2 := s1.fresh f
        refine h (.ref a) _ _ fps1 s2 z1 (fun hp => ?_) ((NewR.lst (mg := g.mg) s1.sub ha rd).ev s1)
        obtain ⟨a1, a2, a3⟩ := k1 hp
        exact ⟨a1, a2, a3.trans f.h⟩
      · exact h.elim
/-! ### subscripts -/
def ixD : D → D → Option Ev
  | .lst xs, .int i => (atI xs i).map Ev.dat
  | .tup xs, .int i => (atI xs i).map Ev.dat
  | .str z, .int i => if z.length ≤ lim then (atI z.cps.toList i).map fun c => Ev.dat (.str ⟨#[c]⟩) else none
  | _, _ => none
theorem RDs.atI {Z : Hp} {vs : List V} {ds : List D} {i : Int} {d : D} (r : RDs Z vs ds) (h : L2.atI ds i = some d) : ∃ v, L2.atI vs i = some v ∧ RD Z v d := by
  unfold L2.atI at h ⊢
  rw [r.length]
  cases q : ixN ds.length i with
  | none => rw [q] at h; cases h
  | some j =>
    rw [q] at h
    exact r.getd (i := j) h
theorem de_ix {p q : Bool} {a b : Expr} {ma mb : EM} {pos : Pos} (ha : DE X g p a ma) (hb : DE X g q b mb) (hs : PlainIx b := by exact (fun _ _ => rfl)) : DE X g (p && q) (.Subscript a b pos) (eOp2 q ixD ma mb) := by
  refine PE.imp (pe_ix ix_seq ha hb hs) fun σ H Q h => op2_run (fun mg Z H v u d e ev Q s rv ru h q => ?_) h
  cases d with
  | lst xs =>
    cases e with
    | int i =>
      simp only [ixD, Option.map_eq_some_iff] at h
      obtain ⟨d, h1, rfl⟩ := h
      obtain ⟨a, vs, rfl, h2, r2⟩ := rv.lst s
      obtain ⟨w, h3, r3⟩ := r2.atI h1
      exact .inl ⟨a, vs, i, w, rfl, ru.int, .of h2, h3, q _ _ _ (.refl s) r3⟩
    | _ => cases h
  | tup xs =>
    cases e with
    | int i =>
      simp only [ixD, Option.map_eq_some_iff] at h
      obtain ⟨d, h1, rfl⟩ := h
      obtain ⟨a, vs, rfl, h2, r2⟩ := rv.tup s
      obtain ⟨w, h3, r3⟩ := r2.atI h1
      exact .inr (.inl ⟨a, vs, i, w, rfl, ru.int, .of h2, h3, q _ _ _ (.refl s) r3⟩)
    | _ => cases h
  | str z =>
    cases e with
    | int i =>
      simp only [ixD] at h
      split at h
      · rename_i hl
        simp only [Option.map_eq_some_iff] at h
        obtain ⟨c, h1, rfl⟩ := h
        exact .inr (.inr ⟨z, i, c, rv.str, ru.int, lim_eq hl, h1, q _ _ _ (.refl s) .str⟩)
      · cases h
    | _ => cases h
  | _ => cases h
/-! slices -/
abbrev OM := Ve → Res (Option Int)
abbrev DO (X : Cx) (g : Gx) (pu : Bool) (e : Option Expr) (m : OM) : Prop := PO X e (tR g pu (fun _ _ _ _ (o o' : Option Int) => o = o') m)
def oNone : OM := fun env => .ok none env
def oSome (m : EM) : OM := fun env => match m env with
  | .ok (.dat (.int i)) e => .ok (some i) e
  | .ex x e => .ex x e
  | _ => .no
theorem PO.imp {e : Option Expr} {t t' : TO} (h : PO X e t) (k : ∀ σ H Q, t' σ H Q → t σ H Q) : PO X e t' := ⟨fun pins s σ H Q I q => h.run pins s σ H Q I (k σ H Q q)⟩
theorem do_none : DO X g true none oNone := PO.imp po_none fun σ H Q ⟨Z, env, fps, s, h⟩ => h none Z H fps s (.refl _) (fun _ => ⟨rfl, rfl, .refl _⟩) rfl
theorem do_some {p : Bool} {e : Expr} {m : EM} (h : DE X g p e m) : DO X g p (some e) (oSome m) := by
  refine PO.imp (po_some h) fun σ H Q ⟨Z, env, fps, s, h⟩ => ⟨Z, env, fps, s, ?_⟩
  unfold oSome at h
  cases e : m env with
  | no => simp [e] at h
  | ex x e1 => simpa [e] using h
  | ok x e1 =>
    intro v Z1 H1 fps1 s1 z1 k1 r1
    cases x with
    | dat d =>
      cases d with
      | int i => simp only [e] at h; cases r1; exact ⟨i, rfl, h (some i) Z1 H1 fps1 s1 z1 k1 rfl⟩
      | _ => simp [e] at h
    | _ => simp [e] at h
def cut {α : Type} (xs : List α) (lo hi : Option Int) : List α := (xs.drop (HT.sIx xs.length 0 lo)).take (HT.sIx xs.length xs.length hi - HT.sIx xs.length 0 lo)
theorem RDs.cut {Z : Hp} {vs : List V} {ds : List D} (r : RDs Z vs ds) (lo hi : Option Int) : RDs Z (cutV vs lo hi) (DL.cut ds lo hi) := by
  unfold cutV DL.cut
  rw [r.length]
  exact (r.drop _).take _
theorem cut_whole {α : Type} {xs : List α} {lo hi : Option Int} (h : HT.sIx xs.length 0 lo = 0 ∧ HT.sIx xs.length xs.length hi = xs.length) : cut xs lo hi = xs := by
  unfold cut
  rw [h.1, h.2]
  simp
/-- a list's slice: new; a tuple's slice -/
def slD : D → Option Int → Option Int → Option Ev
  | .lst xs, lo, hi => some (.new (.lst (cut xs lo hi)))
  | .tup xs, lo, hi => some (.dat (.tup (cut xs lo hi)))
  | _, _, _ => none
def eSl (q1 q2 : Bool) (a : EM) (lo hi : OM) : EM := fun env => (hold (q1 && q2) (a env)).bind fun x e1 => (lo e1).bind fun l e2 => (hi e2).bind fun u e3 => match peek e3 x with
  | some d => match slD d l u with
    | some ev => .ok ev e3
    | none => .no
  | none => .no
theorem de_sl {p q1 q2 : Bool} {a : Expr} {lo hi : Option Expr} {ma : EM} {ml mh : OM} {pos p2 : Pos} (ha : DE X g p a ma) (hl : DO X g q1 lo ml) (hh : DO X g q2 hi mh) : DE X g (p && (q1 && q2)) (.Subscript a (.Slice lo hi none p2) pos) (eSl q1 q2 ma ml mh) := by
  refine PE.imp (pe_slice (sl_list.or sl_tupA) ha hl hh) fun σ H Q ⟨Z, env, fps, s, h⟩ => ?_
  refine hold_run (q := q1 && q2) s (fun x e1 he v Z1 H1 fps1 s1 z1 k1 r1 => ?_) (fun x e1 he => ?_) (fun he => ?_)
  · refine ⟨Z1, e1, fps1, s1, ?_⟩
    simp only [eSl, he, Res.bind_ok] at h
    cases e2 : ml e1 with
    | no => simp [e2] at h
    | ex x2 e3 =>
      rw [e2] at h
      exact fun cls d Z2 H2 fps2 s2 z2 xr => h cls d Z2 H2 fps2 s2 (z1.trans z2) xr
    | ok l e3 =>
      simp only [e2, Res.bind_ok] at h
      intro l' Z2 H2 fps2 s2 z2 k2 r2
      subst r2
      refine ⟨Z2, e3, fps2, s2, ?_⟩
      cases e4 : mh e3 with
      | no => simp [e4] at h
      | ex x2 e5 =>
        rw [e4] at h
        exact fun cls d Z3 H3 fps3 s3 z3 xr => h cls d Z3 H3 fps3 s3 ((z1.trans z2).trans z3) xr
      | ok u e5 =>
        simp only [e4, Res.bind_ok] at h
        intro u' Z3 H3 fps3 s3 z3 k3 r3
        subst r3
        have r1' := (r1.later z2 fun hq => (k2 (by simp at hq; exact hq.1)).2.2).later z3 fun hq => (k3 (by simp at hq; exact hq.2)).2.2
        have pure' : (p && (q1 && q2)) = true → e5 = env ∧ fps3 = fps ∧ Same H H3 := fun hp => by
          simp only [Bool.and_eq_true] at hp
          obtain ⟨a1, a2, a3⟩ := k1 hp.1
          obtain ⟨b1, b2, b3⟩ := k2 hp.2.1
          obtain ⟨c1, c2, c3⟩ := k3 hp.2.2
          exact ⟨c1.trans (b1.trans a1), c2.trans (b2.trans a2), (a3.trans b3).trans c3⟩
        have zz := (z1.trans z2).trans z3
        cases h1 : peek e5 x with
        | none => simp [h1] at h
        | some d =>
          have rn := peek_ok s3 r1' h1
          cases h2 : slD d l' u' with
          | none => simp [h1, h2] at h
          | some ev =>
            simp only [h1, h2] at h
            cases d with
            | lst xs =>
              cases h2
              obtain ⟨a, vs, rfl, h4, r4⟩ := rn.lst s3.sub
              refine .inl ⟨a, vs, rfl, .of h4, fun b hb => ?_⟩
              have f := Fresh.new (o := .lst (cutV vs l' u')) s3.sub hb
              have s4 := s3.fresh f
              refine h (.ref b) _ _ fps3 s4 zz (fun hp => ?_) ((NewR.lst (mg := g.mg) s3.sub hb (r4.cut l' u')).ev s3)
              obtain ⟨a1, a2, a3⟩ := pure' hp
              exact ⟨a1, a2, a3.trans f.h⟩
            | tup xs =>
              cases h2
              have rd : RD Z3 v (.tup xs) := by
                rcases rn with h | ⟨a, vs, ds, _, e, _⟩
                · exact h
                · cases e
              obtain ⟨a, vs, rfl, h4, r4⟩ := rn.tup s3.sub
              refine .inr ⟨a, vs, rfl, .of h4, fun hw => ?_, fun hn b hb => ?_⟩
              · rw [r4.length] at hw
                rw [cut_whole hw] at h
                refine h (.ref a) Z3 H3 fps3 s3 zz (fun hp => ?_) rd
                obtain ⟨a1, a2, a3⟩ := pure' hp
                exact ⟨a1, a2, a3⟩
              · have f := Fresh.newZ (o := .tup (cutV vs l' u')) s3.sub hb
                refine h (.ref b) _ _ fps3 (s3.fresh f) (zz.trans f.z) (fun hp => ?_) (NewR.tup (mg := g.mg) s3.sub hb (r4.cut l' u'))
                obtain ⟨a1, a2, a3⟩ := pure' hp
                exact ⟨a1, a2, a3.trans f.h⟩
            | _ => cases h2
  · simp only [eSl, he, Res.bind_ex] at h
    exact h
  · simp only [eSl, he, Res.bind_no, Post_no] at h
/-! ### calls of built-ins -/
def CallOk (X : Cx) (f : Value) (op : List D → Option Ev) : Prop :=
  ∃ r, CallR X f r ∧ ∀ mg Z H vs ds ev Q, Same Z H → RNs Z H vs ds → op ds = some ev → (∀ v' Z' H', Fresh Z H Z' H' → NewR mg H Z' H' v' ev → Q v' H') → r vs H Q
def eCall (op : List D → Option Ev) (m : AM) : EM := fun env => (m env).bind fun xs e1 => match peeks e1 xs with
  | some ds => match op ds with
    | some ev => .ok ev e1
    | none => .no
  | none => .no
theorem call_run {p : Bool} {op : List D → Option Ev} {ma : AM} {r : List V → Hp → VK → Prop}
    (hr : ∀ mg Z H vs ds ev Q, Same Z H → RNs Z H vs ds → op ds = some ev → (∀ v' Z' H', Fresh Z H Z' H' → NewR mg H Z' H' v' ev → Q v' H') → r vs H Q)
    {σ : L2.St} {H : Hp} {Q : VK} (h : tE g p (eCall op ma) σ H Q) : tCB r (tA g p ma) σ H Q := by
  obtain ⟨Z, env, fps, s, h⟩ := h
  refine ⟨Z, env, fps, s, ?_⟩
  unfold eCall at h
  cases e : ma env with
  | no => simp [e] at h
  | ex x e1 => simpa [e] using h
  | ok xs e1 =>
    simp only [e, Res.bind_ok] at h
    intro vs Z1 H1 fps1 s1 z1 k1 r1
    cases h1 : peeks e1 xs with
    | none => simp [h1] at h
    | some ds =>
      cases h2 : op ds with
      | none => simp [h1, h2] at h
      | some ev =>
        simp only [h1, h2] at h
        refine hr g.mg Z1 H1 vs ds ev Q s1.sub (peeks_ok s1 r1 h1) h2 fun v' Z' H' f nr => ?_
        refine h v' Z' H' fps1 (s1.fresh f) (z1.trans f.z) (fun hp => ?_) (nr.ev s1)
        obtain ⟨a1, a2, a3⟩ := k1 hp
        exact ⟨a1, a2, a3.trans f.h⟩
theorem de_callB {id : String} {x : Str} {p : Bool} {op : List D → Option Ev} {e : Expr} {es : List Expr} {ma : AM} {ps pos : Pos} (hc : CallOk X (.builtin id) op) (hg : Gl X x) (hm : X.mg x = none) (hv : bootBuiltins x = some (.builtin id)) (ha : DA X g p (e :: es) ma)
    (hn : x ≠ "__name__" := by decide) (hdb : (x == ("__debug__" : Str)) = false := by decide) (he : starEach (e :: es) X.env = (false, eval e X.env) :: starEach es X.env := by rfl) (hpl : (backTo pos (starEach es X.env)).any (·.1) = false := by rfl) :
    DE X g p (.Call (.Name x ps) (e :: es) [] pos) (eCall op ma) := by
  obtain ⟨r, h1, h2⟩ := hc
  exact PE.imp (pe_callB h1 hg hm hv ha hn hdb he hpl) fun σ H Q h => call_run h2 h
theorem de_callTy {id : String} {x : Str} {p : Bool} {op : List D → Option Ev} {e : Expr} {es : List Expr} {ma : AM} {ps pos : Pos} (hc : CallOk X (.type id) op) (hg : Gl X x) (hm : X.mg x = none) (hv : bootBuiltins x = some (.type id)) (ha : DA X g p (e :: es) ma)
    (hn : x ≠ "__name__" := by decide) (hdb : (x == ("__debug__" : Str)) = false := by decide) (he : starEach (e :: es) X.env = (false, eval e X.env) :: starEach es X.env := by rfl) (hpl : (backTo pos (starEach es X.env)).any (·.1) = false := by rfl) :
    DE X g p (.Call (.Name x ps) (e :: es) [] pos) (eCall op ma) := by
  obtain ⟨r, h1, h2⟩ := hc
  exact PE.imp (pe_callTy h1 hg hm hv ha hn hdb he hpl) fun σ H Q h => call_run h2 h
theorem RNs.one {Z H : Hp} {vs : List V} {d : D} (h : RNs Z H vs [d]) : ∃ v, vs = [v] ∧ RN Z H v d := by
  cases h with
  | cons h r => cases r; exact ⟨_, rfl, h⟩
theorem RNs.two {Z H : Hp} {vs : List V} {d e : D} (h : RNs Z H vs [d, e]) : ∃ v u, vs = [v, u] ∧ RN Z H v d ∧ RN Z H u e := by
  cases h with
  | cons h r =>
    cases r with
    | cons h2 r => cases r; exact ⟨_, _, rfl, h, h2⟩
def lenD : List D → Option Ev
  | [.lst xs] => some (.dat (.int xs.length))
  | [.tup xs] => some (.dat (.int xs.length))
  | [.str z] => if z.length ≤ lim then some (.dat (.int z.length)) else none
  | _ => none
theorem ok_len : CallOk X (.builtin "len") lenD := by
  refine ⟨_, call_len, fun mg Z H vs ds ev Q s rs h q => ?_⟩
  unfold lenD at h
  split at h
  · obtain ⟨v, rfl, rv⟩ := rs.one
    obtain ⟨a, ws, rfl, h2, r2⟩ := rv.lst s
    cases h
    exact ⟨_, _, rfl, .inl ⟨ws, .of h2, rfl⟩, by rw [r2.length]; exact q _ _ _ (.refl s) .int⟩
  · obtain ⟨v, rfl, rv⟩ := rs.one
    obtain ⟨a, ws, rfl, h2, r2⟩ := rv.tup s
    cases h
    exact ⟨_, _, rfl, .inr ⟨ws, .of h2, rfl⟩, by rw [r2.length]; exact q _ _ _ (.refl s) .int⟩
  · split at h
    · rename_i hl
      cases h
      obtain ⟨v, rfl, rv⟩ := rs.one
      cases rv.str
      exact ⟨_, _, rfl, ⟨lim_eq hl, rfl⟩, q _ _ _ (.refl s) .int⟩
    · cases h
  · cases h
def absD : List D → Option Ev
  | [.int i] => some (.dat (.int (if i < 0 then -i else i)))
  | _ => none
theorem ok_abs : CallOk X (.builtin "abs") absD := by
  refine ⟨_, call_abs, fun mg Z H vs ds ev Q s rs h q => ?_⟩
  unfold absD at h
  split at h
  · cases h
    obtain ⟨v, rfl, rv⟩ := rs.one
    cases rv.int
    exact ⟨_, rfl, q _ _ _ (.refl s) .int⟩
  · cases h
def maxD : List D → Option Ev
  | [.int i, .int j] => some (.dat (.int (if j > i then j else i)))
  | _ => none
def minD : List D → Option Ev
  | [.int i, .int j] => some (.dat (.int (if j < i then j else i)))
  | _ => none
theorem ok_max (hc : X.calm = true) : CallOk X (.builtin "max") maxD := by
  refine ⟨_, call_max2 hc, fun mg Z H vs ds ev Q s rs h q => ?_⟩
  unfold maxD at h
  split at h
  · cases h
    obtain ⟨v, u, rfl, rv, ru⟩ := rs.two
    cases rv.int
    cases ru.int
    exact ⟨_, _, rfl, q _ _ _ (.refl s) .int⟩
  · cases h
theorem ok_min (hc : X.calm = true) : CallOk X (.builtin "min") minD := by
  refine ⟨_, call_min2 hc, fun mg Z H vs ds ev Q s rs h q => ?_⟩
  unfold minD at h
  split at h
  · cases h
    obtain ⟨v, u, rfl, rv, ru⟩ := rs.two
    cases rv.int
    cases ru.int
    exact ⟨_, _, rfl, q _ _ _ (.refl s) .int⟩
  · cases h
def intD : List D → Option Ev
  | [.int i] => some (.dat (.int i))
  | [.bl b] => some (.dat (.int (if b then 1 else 0)))
  | _ => none
theorem ok_int : CallOk X (.type "int") intD := by
  refine ⟨_, call_int1, fun mg Z H vs ds ev Q s rs h q => ?_⟩
  unfold intD at h
  split at h
  · cases h
    obtain ⟨v, rfl, rv⟩ := rs.one
    cases rv.int
    exact .inl ⟨_, rfl, q _ _ _ (.refl s) .int⟩
  · cases h
    obtain ⟨v, rfl, rv⟩ := rs.one
    cases rv.bl
    exact .inr ⟨_, rfl, q _ _ _ (.refl s) .int⟩
  · cases h
def listD : List D → Option Ev
  | [.lst xs] => some (.new (.lst xs))
  | [.tup xs] => some (.new (.lst xs))
  | _ => none
theorem ok_list : CallOk X (.type "list") listD := by
  refine ⟨_, call_list_of, fun mg Z H vs ds ev Q s rs h q => ?_⟩
  unfold listD at h
  split at h
  · cases h
    obtain ⟨v, rfl, rv⟩ := rs.one
    obtain ⟨a, ws, rfl, h2, r2⟩ := rv.lst s
    exact ⟨a, ws, rfl, .inl (.of h2), fun p hp => q _ _ _ (.new s hp) (.lst s hp r2)⟩
  · cases h
    obtain ⟨v, rfl, rv⟩ := rs.one
    obtain ⟨a, ws, rfl, h2, r2⟩ := rv.tup s
    exact ⟨a, ws, rfl, .inr (.of h2), fun p hp => q _ _ _ (.new s hp) (.lst s hp r2)⟩
  · cases h
def tupleD : List D → Option Ev
  | [.lst xs] => some (.dat (.tup xs))
  | [.tup xs] => some (.dat (.tup xs))
  | _ => none
theorem ok_tuple : CallOk X (.type "tuple") tupleD := by
  refine ⟨_, call_tuple_of, fun mg Z H vs ds ev Q s rs h q => ?_⟩
  unfold tupleD at h
  split at h
  · cases h
    obtain ⟨v, rfl, rv⟩ := rs.one
    obtain ⟨a, ws, rfl, h2, r2⟩ := rv.lst s
    exact ⟨a, ws, rfl, .inl ⟨.of h2, fun p hp => q _ _ _ (.newZ s hp) (.tup s hp r2)⟩⟩
  · cases h
    obtain ⟨v, rfl, rv⟩ := rs.one
    have rv' := rv
    obtain ⟨a, ws, rfl, h2, r2⟩ := rv.tup s
    rcases rv' with k | ⟨_, _, _, _, e, _⟩
    · exact ⟨a, ws, rfl, .inr ⟨.of h2, q _ _ _ (.refl s) k⟩⟩
    · cases e
  · cases h
/-- all of them ints, bools -/
def intsOf : List D → Option (List Int)
  | [] => some []
  | .int i :: r => (intsOf r).map (i :: ·)
  | _ :: _ => none
def boolsOf : List D → Option (List Bool)
  | [] => some []
  | .bl i :: r => (boolsOf r).map (i :: ·)
  | _ :: _ => none
theorem RDs.toInts {Z : Hp} : ∀ {vs : List V} {ds : List D} {ns : List Int}, RDs Z vs ds → intsOf ds = some ns → vs = ns.map V.int
  | _, _, ns, .nil, e => by cases e; rfl
  | _, _, ns, .cons (d := d) (ds := ds) h r, e => by
    cases d with
    | int i =>
      simp only [intsOf, Option.map_eq_some_iff] at e
      obtain ⟨ms, e1, rfl⟩ := e
      cases h
      rw [RDs.toInts r e1]; rfl
    | _ => cases e
theorem RDs.toBools {Z : Hp} : ∀ {vs : List V} {ds : List D} {ns : List Bool}, RDs Z vs ds → boolsOf ds = some ns → vs = ns.map V.bl
  | _, _, ns, .nil, e => by cases e; rfl
  | _, _, ns, .cons (d := d) (ds := ds) h r, e => by
    cases d with
    | bl i =>
      simp only [boolsOf, Option.map_eq_some_iff] at e
      obtain ⟨ms, e1, rfl⟩ := e
      cases h
      rw [RDs.toBools r e1]; rfl
    | _ => cases e
def sumD : List D → Option Ev
  | [.lst xs] => (intsOf xs).map fun ns => .dat (.int ns.sum)
  | _ => none
theorem ok_sum (hc : X.calm = true) : CallOk X (.builtin "sum") sumD := by
  refine ⟨_, cr_sum hc, fun mg Z H vs ds ev Q s rs h q => ?_⟩
  unfold sumD at h
  split at h
  · simp only [Option.map_eq_some_iff] at h
    obtain ⟨ns, e, rfl⟩ := h
    obtain ⟨v, rfl, rv⟩ := rs.one
    obtain ⟨a, ws, rfl, h2, r2⟩ := rv.lst s
    rw [r2.toInts e] at h2
    exact ⟨a, ns, rfl, .of h2, q _ _ _ (.refl s) .int⟩
  · cases h
def anyD : List D → Option Ev
  | [.lst xs] => (boolsOf xs).map fun ns => .dat (.bl (ns.any id))
  | _ => none
def allD : List D → Option Ev
  | [.lst xs] => (boolsOf xs).map fun ns => .dat (.bl (ns.all id))
  | _ => none
theorem ok_any (hc : X.calm = true) : CallOk X (.builtin "any") anyD := by
  refine ⟨_, cr_any hc, fun mg Z H vs ds ev Q s rs h q => ?_⟩
  unfold anyD at h
  split at h
  · simp only [Option.map_eq_some_iff] at h
    obtain ⟨ns, e, rfl⟩ := h
    obtain ⟨v, rfl, rv⟩ := rs.one
    obtain ⟨a, ws, rfl, h2, r2⟩ := rv.lst s
    rw [r2.toBools e] at h2
    exact ⟨a, ns, rfl, .of h2, q _ _ _ (.refl s) .bl⟩
  · cases h
theorem ok_all (hc : X.calm = true) : CallOk X (.builtin "all") allD := by
  refine ⟨_, cr_all hc, fun mg Z H vs ds ev Q s rs h q => ?_⟩
  unfold allD at h
  split at h
  · simp only [Option.map_eq_some_iff] at h
    obtain ⟨ns, e, rfl⟩ := h
    obtain ⟨v, rfl, rv⟩ := rs.one
    obtain ⟨a, ws, rfl, h2, r2⟩ := rv.lst s
    rw [r2.toBools e] at h2
    exact ⟨a, ns, rfl, .of h2, q _ _ _ (.refl s) .bl⟩
  · cases h
/-! isinstance with a built-in class -/
def isiD (T : String) : D → Option Bool
  | .non => kitB "NoneType" T
  | .bl _ => kitB "bool" T
  | .int _ => kitB "int" T
  | .str _ => kitB "str" T
  | .lst _ => kitB "list" T
  | .tup _ => kitB "tuple" T
  | .scr _ => none
def eIsi (T : String) (a : EM) : EM := eOp1 (fun d => (isiD T d).map fun b => .dat (.bl b)) a
theorem isi_ty {K : PySem.W.Frag} {Z H : Hp} {v : V} {d : D} {T : String} {b : Bool} (s : Same Z H) (r : RN Z H v d) (h : isiD T d = some b) : ∃ t, TyX K H v t ∧ PySem.W.kitOne K t (.type T) = some b := by
  cases d with
  | non => cases r.non; exact ⟨_, .base .non, kit_ty h⟩
  | bl c => cases r.bl; exact ⟨_, .base (.bl _), kit_ty h⟩
  | int c => cases r.int; exact ⟨_, .base (.int _), kit_ty h⟩
  | str c => cases r.str; exact ⟨_, .base (.str _), kit_ty h⟩
  | lst c => obtain ⟨a, ws, rfl, h2, _⟩ := r.lst s; exact ⟨_, .base (.lst h2), kit_ty h⟩
  | tup c => obtain ⟨a, ws, rfl, h2, _⟩ := r.tup s; exact ⟨_, .base (.tup h2), kit_ty h⟩
  | scr c => cases h
theorem de_isi {T : Str} {S : String} {p : Bool} {a : Expr} {ma : EM} {p1 p2 pos : Pos} (hg : Gl X "isinstance") (hm : X.mg "isinstance" = none) (hv : bootBuiltins "isinstance" = some (.builtin "isinstance")) (ha : DE X g p a ma)
    (hT : Gl X T) (hmT : X.mg T = none) (hvT : bootBuiltins T = some (.type S)) (hn : T ≠ "__name__" := by decide) (hdb : (T == ("__debug__" : Str)) = false := by decide)
    (hs : starEach [a, .Name T p2] X.env = (false, eval a X.env) :: starEach [.Name T p2] X.env := by rfl) (hs2 : starEach [.Name T p2] X.env = (false, eval (.Name T p2) X.env) :: starEach [] X.env := by rfl)
    (hpl : (backTo pos (starEach [.Name T p2] X.env)).any (·.1) = false := by rfl) :
    DE X g p (.Call (.Name "isinstance" p1) [a, .Name T p2] [] pos) (eIsi S ma) := by
  refine PE.imp (pe_callB call_isi hg hm hv (pa_cons ha (pa_cons (pe_bltn (v := .ty S) hT hmT hvT rfl hn hdb) pa_nil hs2) hs) (by decide) (by decide) hs hpl) fun σ H Q h => ?_
  refine op1_run (r := fun v H Q => rIsi X.K [v, .ty S] H Q) (fun mg Z H v d ev Q s rv h q => ?_) h
  simp only [Option.map_eq_some_iff] at h
  obtain ⟨b, h1, rfl⟩ := h
  obtain ⟨t, h2, h3⟩ := isi_ty (K := X.K) s rv h1
  exact ⟨v, .ty S, t, _, b, rfl, .ty S, h2, h3, q _ _ _ (.refl s) .bl⟩
end
end DL
namespace DL
open PySem PySem.Spec PyProof.Rows L2
section
variable {X : Cx} {g : Gx}
/-! ### what is walked -/
structure ItOk (J : It) (Z : Hp) (ds : List D) : Prop where
  go : ∀ i d, ds[i]? = some d → ∀ Z1 H1, Same Z Z1 → Same Z1 H1 → J.go i H1 ∧ ∀ x H', J.yld i H1 x H' → ∃ Z', Fresh Z1 H1 Z' H' ∧ RD Z' x d
  stop : ∀ Z1 H1, Same Z Z1 → Same Z1 H1 → J.stop ds.length H1
abbrev IM := Ve → Res (List D)
abbrev DI (X : Cx) (g : Gx) (pu : Bool) (tg iter : Expr) (m : IM) : Prop := PI X tg iter (tR g pu (fun Z' _ _ _ J ds => ItOk J Z' ds) m)
theorem PI.imp {tg e : Expr} {t t' : TI} (h : PI X tg e t) (k : ∀ σ H Q, t' σ H Q → t σ H Q) : PI X tg e t' := ⟨fun pins s σ H Q I q => h.run pins s σ H Q I (k σ H Q q)⟩
theorem PI.or {tg e : Expr} {t t' : TI} (h : PI X tg e t) (h' : PI X tg e t') : PI X tg e (fun σ H Q => t σ H Q ∨ t' σ H Q) := ⟨fun pins s σ H Q I q => q.elim (fun q => h.run pins s σ H Q I q) fun q => h'.run pins s σ H Q I q⟩
theorem itl_ok {K : PySem.W.Frag} {Z : Hp} {a : Addr} {vs : List V} {ds : List D} (h : Z a = some (.lst vs)) (r : RDs Z vs ds) : ItOk (Itl K a) Z ds where
  go := fun i d e Z1 H1 z s => by
    obtain ⟨v, h1, h2⟩ := r.getd e
    have q : SqL K H1 a vs := .of (s _ _ (z _ _ h))
    refine ⟨⟨vs, v, q, h1⟩, fun x H' ⟨e1, y⟩ => ?_⟩
    subst e1
    have := y vs q
    rw [h1] at this
    cases this
    exact ⟨Z1, .refl s, h2.mono z⟩
  stop := fun Z1 H1 z s => ⟨vs, .of (s _ _ (z _ _ h)), by rw [r.length]; exact Nat.le_refl _⟩
theorem its_ok {K : PySem.W.Frag} {Z : Hp} {a : Addr} {o : Obj} {ns : List Int} (h : Z a = some (.frz o (.lst (ns.map V.int)))) : ItOk (Itl K a) Z (ns.map D.int) where
  go := fun i d e Z1 H1 z s => by
    have q : SqL K H1 a (ns.map V.int) := .inl (.inr ⟨o, s _ _ (z _ _ h)⟩)
    rw [List.getElem?_map] at e
    cases hn : ns[i]? with
    | none => rw [hn] at e; cases e
    | some n =>
      rw [hn] at e
      cases e
      refine ⟨⟨_, .int n, q, by rw [List.getElem?_map, hn]; rfl⟩, fun x H' ⟨e1, y⟩ => ?_⟩
      subst e1
      have := y _ q
      rw [List.getElem?_map, hn] at this
      cases this
      exact ⟨Z1, .refl s, .int⟩
  stop := fun Z1 H1 z s => ⟨_, .inl (.inr ⟨o, s _ _ (z _ _ h)⟩), by rw [List.length_map, List.length_map]; exact Nat.le_refl _⟩
theorem itt_ok {K : PySem.W.Frag} {Z : Hp} {a : Addr} {vs : List V} {ds : List D} (h : Z a = some (.tup vs)) (r : RDs Z vs ds) : ItOk (Itt K a) Z ds where
  go := fun i d e Z1 H1 z s => by
    obtain ⟨v, h1, h2⟩ := r.getd e
    have q : SqT K H1 a vs := .of (s _ _ (z _ _ h))
    refine ⟨⟨vs, v, q, h1⟩, fun x H' ⟨e1, y⟩ => ?_⟩
    subst e1
    have := y vs q
    rw [h1] at this
    cases this
    exact ⟨Z1, .refl s, h2.mono z⟩
  stop := fun Z1 H1 z s => ⟨vs, .of (s _ _ (z _ _ h)), by rw [r.length]; exact Nat.le_refl _⟩
def rangeL (lo : Int) (n : Nat) : List D := (List.range n).map fun (i : Nat) => D.int (lo + (i : Int))
theorem itr_ok {Z : Hp} {lo : Int} {n : Nat} : ItOk (Itr lo n) Z (rangeL lo n) where
  go := fun i d e Z1 H1 z s => by
    unfold rangeL at e
    rw [List.getElem?_map] at e
    by_cases hi : i < n
    · rw [List.getElem?_range hi] at e
      cases e
      refine ⟨hi, fun x H' ⟨e1, y⟩ => ?_⟩
      subst e1 y
      exact ⟨Z1, .refl s, .int⟩
    · rw [List.getElem?_eq_none (by simpa using hi)] at e
      cases e
  stop := fun Z1 H1 z s => by
    show n ≤ (rangeL lo n).length
    unfold rangeL
    rw [List.length_map, List.length_range]
    exact Nat.le_refl _
def rangeC (lo c : Int) (n : Nat) : List D := (List.range n).map fun (i : Nat) => D.int (lo + (i : Int) * c)
theorem itc_ok {Z : Hp} {lo c : Int} {n : Nat} : ItOk (Itc lo c n) Z (rangeC lo c n) where
  go := fun i d e Z1 H1 z s => by
    unfold rangeC at e
    rw [List.getElem?_map] at e
    by_cases hi : i < n
    · rw [List.getElem?_range hi] at e
      cases e
      refine ⟨hi, fun x H' ⟨e1, y⟩ => ?_⟩
      subst e1 y
      exact ⟨Z1, .refl s, .int⟩
    · rw [List.getElem?_eq_none (by simpa using hi)] at e
      cases e
  stop := fun Z1 H1 z s => by
    show n ≤ (rangeC lo c n).length
    unfold rangeC
    rw [List.length_map, List.length_range]
    exact Nat.le_refl _
def enumL : Nat → List D → List D
  | _, [] => []
  | n, d :: ds => .tup [.int n, d] :: enumL (n + 1) ds
theorem enumL_get : ∀ (ds : List D) (n i : Nat), (enumL n ds)[i]? = (ds[i]?).map fun d => D.tup [.int ((n + i : Nat) : Int), d]
  | [], _, _ => rfl
  | _ :: _, n, 0 => rfl
  | _ :: ds, n, i + 1 => by
    show (enumL (n + 1) ds)[i]? = _
    rw [enumL_get ds (n + 1) i]
    show _ = (ds[i]?).map _
    rw [show n + 1 + i = n + (i + 1) by omega]
theorem enumL_length : ∀ (ds : List D) (n : Nat), (enumL n ds).length = ds.length
  | [], _ => rfl
  | _ :: ds, n => congrArg Nat.succ (enumL_length ds (n + 1))
theorem ite_ok {K : PySem.W.Frag} {Z : Hp} {a : Addr} {vs : List V} {ds : List D} (h : Z a = some (.lst vs)) (r : RDs Z vs ds) : ItOk (Ite K a) Z (enumL 0 ds) where
  go := fun i d e Z1 H1 z s => by
    rw [enumL_get] at e
    cases hd : ds[i]? with
    | none => rw [hd] at e; cases e
    | some d' =>
      rw [hd] at e
      cases e
      obtain ⟨v, h1, h2⟩ := r.getd hd
      have q : SqL K H1 a vs := .of (s _ _ (z _ _ h))
      refine ⟨⟨vs, v, q, h1⟩, fun x H' ⟨T, y, e1, hT, e2, hy⟩ => ?_⟩
      subst e1 e2
      have := hy vs q
      rw [h1] at this
      cases this
      rw [Nat.zero_add]
      exact ⟨_, .newZ s hT, NewR.tup (mg := fun _ => none) s hT (.cons .int (.cons (h2.mono z) .nil))⟩
  stop := fun Z1 H1 z s => ⟨vs, .of (s _ _ (z _ _ h)), by rw [enumL_length, r.length]; exact Nat.le_refl _⟩
def zipL : List D → List D → List D
  | d :: ds, e :: es => .tup [d, e] :: zipL ds es
  | _, _ => []
theorem zipL_get : ∀ (ds es : List D) (i : Nat) (x : D), (zipL ds es)[i]? = some x → ∃ d e, ds[i]? = some d ∧ es[i]? = some e ∧ x = .tup [d, e]
  | [], es, i, x, h => by unfold zipL at h; simp at h
  | _ :: _, [], i, x, h => by unfold zipL at h; simp at h
  | d :: ds, e :: es, 0, x, h => by unfold zipL at h; simp at h; exact ⟨d, e, rfl, rfl, h.symm⟩
  | d :: ds, e :: es, i + 1, x, h => by unfold zipL at h; simpa using zipL_get ds es i x (by simpa using h)
theorem zipL_length : ∀ (ds es : List D), ds.length ≤ (zipL ds es).length ∨ es.length ≤ (zipL ds es).length
  | [], es => by simp
  | _ :: _, [] => by simp
  | d :: ds, e :: es => by
    unfold zipL
    rcases zipL_length ds es with h | h
    · exact .inl (by simp; omega)
    · exact .inr (by simp; omega)
theorem itz_ok {K : PySem.W.Frag} {Z : Hp} {a b : Addr} {vs ws : List V} {ds es : List D} (h : Z a = some (.lst vs)) (r : RDs Z vs ds) (h' : Z b = some (.lst ws)) (r' : RDs Z ws es) : ItOk (Itz K a b) Z (zipL ds es) where
  go := fun i d e Z1 H1 z s => by
    obtain ⟨d1, d2, e1, e2, rfl⟩ := zipL_get ds es i d e
    obtain ⟨v, h1, h2⟩ := r.getd e1
    obtain ⟨u, h3, h4⟩ := r'.getd e2
    have q : SqL K H1 a vs := .of (s _ _ (z _ _ h))
    have q' : SqL K H1 b ws := .of (s _ _ (z _ _ h'))
    refine ⟨⟨vs, ws, v, u, q, q', h1, h3⟩, fun x H' ⟨T, y, w, e1, hT, e2, hy, hw⟩ => ?_⟩
    subst e1 e2
    have := hy vs q
    rw [h1] at this
    cases this
    have := hw ws q'
    rw [h3] at this
    cases this
    exact ⟨_, .newZ s hT, NewR.tup (mg := fun _ => none) s hT (.cons (h2.mono z) (.cons (h4.mono z) .nil))⟩
  stop := fun Z1 H1 z s => ⟨vs, ws, .of (s _ _ (z _ _ h)), .of (s _ _ (z _ _ h')), by rw [r.length, r'.length]; exact zipL_length ds es⟩
/-- a list, a tuple, the script -/
def iSeq (m : EM) : IM := fun env => (hold true (m env)).bind fun x e => match x with
  | .dat (.lst ds) => .ok ds e
  | .dat (.tup ds) => .ok ds e
  | .dat (.scr ns) => .ok (ns.map D.int) e
  | _ => .no
theorem di_seq {p : Bool} {tg e : Expr} {m : EM} (h : DE X g p e m) : DI X g p tg e (iSeq m) := by
  refine PI.imp (PI.or (pi_list (tg := tg) h) (pi_tup (tg := tg) h)) fun σ H R ⟨Z, env, fps, s, h⟩ => ?_
  have key : ∀ (x : Ev) (e1 : Ve), hold true (m env) = .ok x e1 → (∃ ds, x = .dat (.tup ds)) ∨ ¬ ∃ ds, x = .dat (.tup ds) := fun x e1 _ => Classical.em _
  by_cases ht : ∃ ds e1, hold true (m env) = .ok (.dat (.tup ds)) e1
  · obtain ⟨ds, e1, he⟩ := ht
    refine .inr (hold_run (q := true) s (fun x e1 he' v Z1 H1 fps1 s1 z1 k1 r1 => ?_) (fun x e1 he' => ?_) (fun he' => ?_))
    · rw [he] at he'
      cases he'
      simp only [iSeq, he, Res.bind_ok] at h
      cases r1 with
      | tup h2 r2 => exact ⟨_, rfl, ⟨_, .of (s1.sub _ _ h2)⟩, h _ Z1 H1 fps1 s1 z1 k1 (itt_ok h2 r2)⟩
    · rw [he] at he'; cases he'
    · rw [he] at he'; cases he'
  · refine .inl (hold_run (q := true) s (fun x e1 he v Z1 H1 fps1 s1 z1 k1 r1 => ?_) (fun x e1 he => ?_) (fun he => ?_))
    · simp only [iSeq, he, Res.bind_ok] at h
      cases x with
      | dat d =>
        cases d with
        | lst ds =>
          cases r1 with
          | lst h2 r2 => exact ⟨_, rfl, ⟨_, .of (s1.sub _ _ h2)⟩, h _ Z1 H1 fps1 s1 z1 k1 (itl_ok h2 r2)⟩
        | tup ds => exact (ht ⟨ds, e1, he⟩).elim
        | scr ns =>
          cases r1 with
          | scr h2 => exact ⟨_, rfl, ⟨_, .inl (.inr ⟨_, s1.sub _ _ h2⟩)⟩, h _ Z1 H1 fps1 s1 z1 k1 (its_ok h2)⟩
        | _ => exact h.elim
      | _ => exact h.elim
    · simp only [iSeq, he, Res.bind_ex] at h
      exact h
    · simp only [iSeq, he, Res.bind_no, Post_no] at h
section
local instance (priority := 5000) (i b : Int) : Decidable (i < b) := dLtI i b
local instance (priority := 5000) (i b : Int) : Decidable (i ≤ b) := dLeI i b
def iR1 (m : AM) : IM := fun env => (m env).bind fun xs e => match xs with
  | [.dat (.int j)] => if -(2 ^ 62) ≤ j ∧ j < 2 ^ 62 then .ok (rangeL 0 j.toNat) e else .no
  | _ => .no
def iR2 (m : AM) : IM := fun env => (m env).bind fun xs e => match xs with
  | [.dat (.int i), .dat (.int j)] => if -(2 ^ 62) ≤ i ∧ i < 2 ^ 62 ∧ -(2 ^ 62) ≤ j ∧ j < 2 ^ 62 then .ok (rangeL i (j - i).toNat) e else .no
  | _ => .no
/-- range(i, j, -1) -/
def iR3 (m : AM) : IM := fun env => (m env).bind fun xs e => match xs with
  | [.dat (.int i), .dat (.int j), .dat (.int c)] => if c = -1 ∧ -(2 ^ 62) ≤ i ∧ i < 2 ^ 62 ∧ -(2 ^ 62) ≤ j ∧ j < 2 ^ 62 then .ok (rangeC i (-1) (i - j).toNat) e else .no
  | _ => .no
end
theorem di_r1 {p : Bool} {tg a : Expr} {ma : AM} {ps pos : Pos} (hg : Gl X "range") (hm : X.mg "range" = none) (ha : DA X g p [a] ma) (hs : starEach [a] X.env = [(false, eval a X.env)] := by rfl) : DI X g p tg (.Call (.Name "range" ps) [a] [] pos) (iR1 ma) := by
  refine PI.imp (pi_range1 hg hm ha hs) fun σ H R ⟨Z, env, fps, s, h⟩ => ⟨Z, env, fps, s, ?_⟩
  unfold iR1 at h
  cases e : ma env with
  | no => simp [e] at h
  | ex x e1 => simpa [e] using h
  | ok xs e1 =>
    simp only [e, Res.bind_ok] at h
    intro vs Z1 H1 fps1 s1 z1 k1 r1
    split at h
    · split at h
      · rename_i j hj
        cases r1 with
        | cons r r' =>
          cases r'
          cases r
          exact ⟨j, rfl, hj.1, hj.2, h _ Z1 H1 fps1 s1 z1 k1 itr_ok⟩
      · exact h.elim
    · exact h.elim
theorem di_r2 {p : Bool} {tg a b : Expr} {ma : AM} {ps pos : Pos} (hg : Gl X "range") (hm : X.mg "range" = none) (ha : DA X g p [a, b] ma) (hs : starEach [a, b] X.env = [(false, eval a X.env), (false, eval b X.env)] := by rfl) (hs2 : starEach [b] X.env = [(false, eval b X.env)] := by rfl) : DI X g p tg (.Call (.Name "range" ps) [a, b] [] pos) (iR2 ma) := by
  refine PI.imp (pi_range2 hg hm ha hs hs2) fun σ H R ⟨Z, env, fps, s, h⟩ => ⟨Z, env, fps, s, ?_⟩
  unfold iR2 at h
  cases e : ma env with
  | no => simp [e] at h
  | ex x e1 => simpa [e] using h
  | ok xs e1 =>
    simp only [e, Res.bind_ok] at h
    intro vs Z1 H1 fps1 s1 z1 k1 r1
    split at h
    · split at h
      · rename_i i j hj
        cases r1 with
        | cons r r' =>
          cases r' with
          | cons r2 r3 =>
            cases r3
            cases r
            cases r2
            exact ⟨i, j, rfl, hj, h _ Z1 H1 fps1 s1 z1 k1 itr_ok⟩
      · exact h.elim
    · exact h.elim
theorem di_r3 {p : Bool} {tg a b c : Expr} {ma : AM} {ps pos : Pos} (hg : Gl X "range") (hm : X.mg "range" = none) (ha : DA X g p [a, b, c] ma) (hs : starEach [a, b, c] X.env = (false, eval a X.env) :: starEach [b, c] X.env := by rfl) (hpl : (backTo pos (starEach [b, c] X.env)).any (·.1) = false := by rfl) : DI X g p tg (.Call (.Name "range" ps) [a, b, c] [] pos) (iR3 ma) := by
  refine PI.imp (pi_range3 hg hm ha hs hpl) fun σ H R ⟨Z, env, fps, s, h⟩ => ⟨Z, env, fps, s, ?_⟩
  unfold iR3 at h
  cases e : ma env with
  | no => simp [e] at h
  | ex x e1 => simpa [e] using h
  | ok xs e1 =>
    simp only [e, Res.bind_ok] at h
    intro vs Z1 H1 fps1 s1 z1 k1 r1
    split at h
    · split at h
      · rename_i i j c hj
        obtain ⟨hc, h1, h2, h3, h4⟩ := hj
        subst hc
        cases r1 with
        | cons r r' =>
          cases r' with
          | cons r2 r3 =>
            cases r3 with
            | cons r4 r5 =>
              cases r5
              cases r
              cases r2
              cases r4
              exact ⟨i, j, -1, _, rfl, RgC.neg h1 h2 h3 h4, h _ Z1 H1 fps1 s1 z1 k1 itc_ok⟩
      · exact h.elim
    · exact h.elim
def iEnu (m : AM) : IM := fun env => (m env).bind fun xs e => match xs with
  | [.dat (.lst ds)] => .ok (enumL 0 ds) e
  | _ => .no
theorem di_enum {p : Bool} {a : Expr} {ma : AM} {ps pos tpos : Pos} {elts : List Expr} {kk : Nat} (hg : Gl X "enumerate") (hm : X.mg "enumerate" = none) (ha : DA X g p [a] ma) (hs : starEach [a] X.env = [(false, eval a X.env)] := by rfl) : DI X g p (.Tuple elts kk tpos) (.Call (.Name "enumerate" ps) [a] [] pos) (iEnu ma) := by
  refine PI.imp (pi_enum hg hm ha hs) fun σ H R ⟨Z, env, fps, s, h⟩ => ⟨Z, env, fps, s, ?_⟩
  unfold iEnu at h
  cases e : ma env with
  | no => simp [e] at h
  | ex x e1 => simpa [e] using h
  | ok xs e1 =>
    simp only [e, Res.bind_ok] at h
    intro vs Z1 H1 fps1 s1 z1 k1 r1
    split at h
    · cases r1 with
      | cons r r' =>
        cases r'
        cases r with
        | lst h2 r2 => exact ⟨_, _, rfl, .of (s1.sub _ _ h2), h _ Z1 H1 fps1 s1 z1 k1 (ite_ok h2 r2)⟩
    · exact h.elim
def iZp (m : AM) : IM := fun env => (m env).bind fun xs e => match xs with
  | [.dat (.lst ds), .dat (.lst es)] => .ok (zipL ds es) e
  | _ => .no
theorem di_zip {p : Bool} {a b : Expr} {ma : AM} {ps pos tpos : Pos} {elts : List Expr} {kk : Nat} (hg : Gl X "zip") (hm : X.mg "zip" = none) (ha : DA X g p [a, b] ma) (hs : starEach [a, b] X.env = (false, eval a X.env) :: starEach [b] X.env := by rfl) (hpl : (backTo pos (starEach [b] X.env)).any (·.1) = false := by rfl) : DI X g p (.Tuple elts kk tpos) (.Call (.Name "zip" ps) [a, b] [] pos) (iZp ma) := by
  refine PI.imp (pi_zip hg hm ha hs hpl) fun σ H R ⟨Z, env, fps, s, h⟩ => ⟨Z, env, fps, s, ?_⟩
  unfold iZp at h
  cases e : ma env with
  | no => simp [e] at h
  | ex x e1 => simpa [e] using h
  | ok xs e1 =>
    simp only [e, Res.bind_ok] at h
    intro vs Z1 H1 fps1 s1 z1 k1 r1
    split at h
    · cases r1 with
      | cons r r' =>
        cases r' with
        | cons r3 r4 =>
          cases r4
          cases r with
          | lst h2 r2 =>
            cases r3 with
            | lst h5 r5 => exact ⟨_, _, _, _, rfl, .of (s1.sub _ _ h2), .of (s1.sub _ _ h5), h _ Z1 H1 fps1 s1 z1 k1 (itz_ok h2 r2 h5 r5)⟩
    · exact h.elim
/-! ### storing a slot -/
def killS (i : Nat) : S → S
  | .al j p => if j = i then .un else .al j p
  | s => s
def setS (i : Nat) (x : S) (env : Ve) : Ve := match env[i]? with
  | some (.own _) => (env.map (killS i)).set i x
  | _ => env.set i x
theorem setS_length (i : Nat) (x : S) (env : Ve) : (setS i x env).length = env.length := by
  unfold setS
  split <;> simp
section
variable {Z H : Hp} {env : Ve} {σ : L2.St} {fps : Nat → List Addr}
/-- a slot stored: its new footprint fp -/
theorem StR.store (s : StR g Z env σ H fps) {i : Nat} {x : S} {v : V} {fp : List Addr} (hi : i < env.length) (hp : i ∉ g.pins)
    (hx : (∃ d, x = .dat d ∧ fp = [] ∧ RD Z v d) ∨ (∃ t, x = .own t ∧ Own g.mg Z H v t fp)) (hn : fp.Nodup) (hf : ∀ a ∈ fp, Z a = none ∧ (∀ j, j ≠ i → a ∉ fps j) ∧ (a ∈ g.n.F0 ∨ g.n.H0 a = none)) :
    StR g Z (setS i x env) (σ.set i (some v)) H (fun k => if k = i then fp else fps k) := by
  have hiσ : i < σ.length := by rw [s.len]; exact hi
  have other : ∀ k y, k ≠ i → env[k]? = some y → SR g.mg Z H (setS i x env) (σ.set i (some v)) k (killS i y) (fps k) := fun k y hk e => by
    have q := s.slot k y e
    have hσ : (σ.set i (some v))[k]? = σ[k]? := List.getElem?_set_ne (Ne.symm hk)
    cases y with
    | un => exact q
    | dat d => obtain ⟨e1, w, h1, h2⟩ := q; exact ⟨e1, w, by rw [hσ]; exact h1, h2⟩
    | own t => obtain ⟨w, h1, h2⟩ := q; exact ⟨w, by rw [hσ]; exact h1, h2⟩
    | al j p =>
      obtain ⟨e1, ⟨t, ht⟩, w, vj, h1, h2, h3⟩ := q
      show SR g.mg Z H _ _ k (if j = i then S.un else S.al j p) (fps k)
      by_cases c : j = i
      · rw [if_pos c]; exact e1
      · rw [if_neg c]
        refine ⟨e1, ⟨t, ?_⟩, w, vj, by rw [hσ]; exact h1, by rw [List.getElem?_set_ne (Ne.symm c)]; exact h2, h3⟩
        unfold setS
        split
        · rw [List.getElem?_set_ne (Ne.symm c), List.getElem?_map, ht]; rfl
        · rw [List.getElem?_set_ne (Ne.symm c)]; exact ht
  refine ⟨by rw [setS_length, List.length_set]; exact s.len, s.sub, fun k y e => ?_, fun k hk => ?_, fun k l a h1 h2 => ?_, fun k => ?_, fun k a h1 => ?_, s.e1, s.e2, s.e3, fun k a h1 => ?_, fun k hk => ?_⟩
  · by_cases c : k = i
    · subst c
      have ey : y = x := by
        unfold setS at e
        split at e
        · rw [List.getElem?_set_self (by simpa using hi)] at e; exact (Option.some.inj e).symm
        · rw [List.getElem?_set_self hi] at e; exact (Option.some.inj e).symm
      subst ey
      rw [if_pos rfl]
      rcases hx with ⟨d, rfl, rfl, r⟩ | ⟨t, rfl, r⟩
      · exact ⟨rfl, v, List.getElem?_set_self hiσ, r⟩
      · exact ⟨v, List.getElem?_set_self hiσ, r⟩
    · rw [if_neg c]
      unfold setS at e
      split at e
      · rename_i t ht
        rw [List.getElem?_set_ne (Ne.symm c), List.getElem?_map] at e
        cases q : env[k]? with
        | none => rw [q] at e; cases e
        | some y0 =>
          rw [q] at e
          cases e
          exact other k y0 c q
      · rename_i hno
        rw [List.getElem?_set_ne (Ne.symm c)] at e
        have h0 := other k y c e
        have hk : killS i y = y := by
          cases y with
          | al j p =>
            obtain ⟨_, ⟨t, ht⟩, _⟩ := s.slot k _ e
            show (if j = i then S.un else S.al j p) = S.al j p
            by_cases c2 : j = i
            · subst c2; exact (hno t ht).elim
            · rw [if_neg c2]
          | _ => rfl
        rw [hk] at h0
        exact h0
  · have hk' : env.length ≤ k := by rw [setS_length] at hk; exact hk
    have c : k ≠ i := by omega
    show (if k = i then fp else fps k) = []
    rw [if_neg c]
    exact s.out k hk'
  · by_cases c1 : k = i
    · by_cases c2 : l = i
      · rw [c1, c2]
      · simp only [c1, if_true, c2, if_false] at h1 h2
        exact ((hf a h1).2.1 l c2 h2).elim
    · by_cases c2 : l = i
      · simp only [c2, if_true, c1, if_false] at h1 h2
        exact ((hf a h2).2.1 k c1 h1).elim
      · simp only [c1, c2, if_false] at h1 h2
        exact s.dis k l a h1 h2
  · show (if k = i then fp else fps k).Nodup
    by_cases c : k = i
    · rw [if_pos c]; exact hn
    · rw [if_neg c]; exact s.nd k
  · by_cases c : k = i
    · simp only [c, if_true] at h1; exact (hf a h1).1
    · simp only [c, if_false] at h1; exact s.nz k a h1
  · by_cases c : k = i
    · simp only [c, if_true] at h1; exact (hf a h1).2.2
    · simp only [c, if_false] at h1; exact s.e4 k a h1
  · obtain ⟨w, h1, h2⟩ := s.pin k hk
    have c : k ≠ i := fun e => hp (e ▸ hk)
    exact ⟨w, h1, by rw [List.getElem?_set_ne (Ne.symm c)]; exact h2⟩
end
/-! ### targets -/
abbrev GM := D → Ve → Option Ve
def tGm (g : Gx) (ts : List Nat) (m : GM) : TG := fun v σ H Q => ∃ Z env fps d, StR g Z env σ H fps ∧ RD Z v d ∧ match m d env with
  | some env' => ∀ Z' σ' H' fps', StR g Z' env' σ' H' fps' → Same Z Z' → σ'.length = σ.length → (∀ k, k ∉ ts → σ'[k]? = σ[k]?) → Q σ' H'
  | none => False
abbrev DG (X : Cx) (g : Gx) (ts : List Nat) (tg : Expr) (m : GM) : Prop := PG X tg (tGm g ts m)
theorem PG.imp {tg : Expr} {t t' : TG} (h : PG X tg t) (k : ∀ v σ H Q, t' v σ H Q → t v σ H Q) : PG X tg t' := ⟨fun pins s σ H v u Q I r q => h.run pins s σ H v u Q I r (k v σ H Q q)⟩
theorem PGs.imp {tg : List Expr} {t t' : TGs} (h : PGs X tg t) (k : ∀ v σ H Q, t' v σ H Q → t v σ H Q) : PGs X tg t' := ⟨fun pins s σ H v u Q I r q => h.run pins s σ H v u Q I r (k v σ H Q q)⟩
def gNm (i : Nat) : GM := fun d env => if i < env.length then some (setS i (.dat d) env) else none
theorem dg_name {i : Nat} {x : Str} {pos : Pos} (hN : X.N.Nodup) (hi : X.N[i]? = some x) (hx : Loc X.env.scope x) (hp : i ∉ g.pins) (hf : X.fn x = true ∨ X.env.scope.names.lookup x = some .local := by first | exact .inl rfl | exact .inr rfl | assumption) : DG X g [i] (.Name x pos) (gNm i) := by
  refine PG.imp (pg_name hN hi hx hf) fun v σ H Q ⟨Z, env, fps, d, s, r, h⟩ => ?_
  unfold gNm at h
  split at h
  · rename_i env' e
    split at e
    · rename_i hl
      cases e
      exact h Z _ _ _ (s.store hl hp (.inl ⟨d, rfl, rfl, r⟩) (by simp) (fun a m => by simp at m)) (.refl _) (by simp) fun k hk => List.getElem?_set_ne (fun e => hk (by simp [e]))
    · cases e
  · exact h.elim
abbrev GMs := List D → Ve → Option Ve
def tGms (g : Gx) (ts : List Nat) (m : GMs) : TGs := fun vs σ H Q => ∃ Z env fps ds, StR g Z env σ H fps ∧ RDs Z vs ds ∧ match m ds env with
  | some env' => ∀ Z' σ' H' fps', StR g Z' env' σ' H' fps' → Same Z Z' → σ'.length = σ.length → (∀ k, k ∉ ts → σ'[k]? = σ[k]?) → Q σ' H'
  | none => False
abbrev DGs (X : Cx) (g : Gx) (ts : List Nat) (tg : List Expr) (m : GMs) : Prop := PGs X tg (tGms g ts m)
def gNl : GMs := fun ds env => match ds with
  | [] => some env
  | _ => none
def gCs (m : GM) (r : GMs) : GMs := fun ds env => match ds with
  | d :: ds => (m d env).bind fun e1 => r ds e1
  | [] => none
theorem dgs_nil : DGs X g [] [] gNl := by
  refine PGs.imp pgs_nil fun vs σ H Q ⟨Z, env, fps, ds, s, r, h⟩ => ?_
  cases r with
  | nil => exact ⟨rfl, h Z σ H fps s (.refl _) rfl fun _ _ => rfl⟩
  | cons _ _ => exact h.elim
theorem dgs_cons {e : Expr} {es : List Expr} {m : GM} {r : GMs} {t1 t2 : List Nat} (h1 : DG X g t1 e m) (h2 : DGs X g t2 es r) (hs : (assignEach (e :: es) X.env).map (·.2) = assign e X.env :: (assignEach es X.env).map (·.2) := by rfl) : DGs X g (t1 ++ t2) (e :: es) (gCs m r) := by
  refine PGs.imp (pgs_cons h1 h2 hs) fun vs σ H Q ⟨Z, env, fps, ds, s, rr, h⟩ => ?_
  cases rr with
  | nil => exact h.elim
  | cons r1 r2 =>
    refine ⟨_, _, rfl, Z, env, fps, _, s, r1, ?_⟩
    simp only [gCs] at h
    split
    · rename_i env1 e1
      simp only [e1, Option.bind_some] at h
      intro Z1 σ1 H1 fps1 s1 z1 ll kk
      refine ⟨Z1, env1, fps1, _, s1, r2.mono z1, ?_⟩
      split at h
      · rename_i env2 e2
        exact fun Z2 σ2 H2 fps2 s2 z2 ll2 kk2 => h Z2 σ2 H2 fps2 s2 (z1.trans z2) (ll2.trans ll) fun k hk => (kk2 k fun m => hk (List.mem_append_right _ m)).trans (kk k fun m => hk (List.mem_append_left _ m))
      · exact h.elim
    · rename_i e1
      simp [e1] at h
def gTp (n : Nat) (m : GMs) : GM := fun d env => match d with
  | .tup ds => if ds.length = n then m ds env else none
  | _ => none
theorem dg_tup {es : List Expr} {k : Nat} {m : GMs} {n : Nat} {ts : List Nat} {pos : Pos} (hc : X.calm = true) (h : DGs X g ts es m) (hn : (assignEach es X.env).length = n := by rfl) (hst : (assignEach es X.env).findIdx? (·.1) = none := by rfl) : DG X g ts (.Tuple es k pos) (gTp n m) := by
  refine PG.imp (pg_tup hc h hn hst) fun v σ H Q ⟨Z, env, fps, d, s, r, h⟩ => ?_
  cases r with
  | tup h1 r1 =>
    simp only [gTp] at h
    split at h
    · rename_i env' e
      split at e
      · rename_i hl
        refine ⟨_, _, rfl, .of (s.sub _ _ h1), by rw [r1.length]; exact hl, Z, env, fps, _, s, r1, ?_⟩
        rw [e]
        exact h
      · cases e
    · exact h.elim
  | _ => exact h.elim
end
end DL
namespace DL
open PySem PySem.Spec PyProof.Rows L2
section
variable {X : Cx} {g : Gx} {Z Z' H H' : Hp} {env env' : Ve} {σ σ' : L2.St} {fps fps' : Nat → List Addr}
/-! ### another entry -/
def Gx.at (g : Gx) (n : En) : Gx := { g with n := n }
def Gx.blk (g : Gx) (n : En) : Gx := { g with n := n, W := fun _ _ _ _ => False }
theorem StR.rebase {g' : Gx} {F : List Addr} {vs : List V} {Z2 H2 : Hp} {env2 : Ve} {σ2 : L2.St} {fps2 : Nat → List Addr} (s : StR g Z env σ H fps) (hm : g'.mg = g.mg) (hn : g'.n = ⟨Z, H, F, vs⟩) (hF : ∀ a ∈ F, ∃ i, a ∈ fps i)
    (hp : ∀ i ∈ g.pins, ∃ v, g.n.vs[i]? = some v ∧ σ2[i]? = some (some v)) (s' : StR g' Z2 env2 σ2 H2 fps2) : StR g Z2 env2 σ2 H2 fps2 := by
  have a1 := s'.e1
  have a2 := s'.e2
  have a3 := s'.e3
  have a4 := s'.e4
  rw [hn] at a1 a2 a3 a4
  simp only at a1 a2 a3 a4
  have inF : ∀ b, b ∈ F → b ∈ g.n.F0 ∨ g.n.H0 b = none := fun b m => by
    obtain ⟨i, hi⟩ := hF b m
    exact s.e4 i b hi
  have noH : ∀ b, H b = none → b ∈ g.n.F0 ∨ g.n.H0 b = none := fun b e => (s.new0 e).2
  refine ⟨s'.len, s'.sub, fun i x e => ?_, s'.out, s'.dis, s'.nd, s'.nz, s.e1.trans a1, fun b o e k => ?_, fun b o e => ?_, fun i a m => ?_, hp⟩
  · have := s'.slot i x e
    rw [hm] at this
    exact this
  · refine a2 b o (s.e2 b o e k) fun m => ?_
    rcases inF b m with h | h
    · exact k h
    · rw [e] at h; cases h
  · rcases a3 b o e with h | h | h
    · exact s.e3 b o h
    · exact .inr (inF b h)
    · exact .inr (noH b h)
  · rcases a4 i a m with h | h
    · exact inF a h
    · exact noH a h
/-- a frame's footprint as a list -/
def allF (n : Nat) (fps : Nat → List Addr) : List Addr := (List.range n).flatMap fps
theorem mem_allF {n : Nat} {a : Addr} : a ∈ allF n fps ↔ ∃ i, i < n ∧ a ∈ fps i := by
  unfold allF
  simp [List.mem_flatMap]
/-- from here on -/
theorem StR.enter (s : StR g Z env σ H fps) : StR (g.blk ⟨Z, H, allF env.length fps, g.n.vs⟩) Z env σ H fps where
  len := s.len
  sub := s.sub
  slot := s.slot
  out := s.out
  dis := s.dis
  nd := s.nd
  nz := s.nz
  e1 := .refl _
  e2 := fun b o e _ => e
  e3 := fun b o e => .inl e
  e4 := fun i a m => .inl (mem_allF.mpr ⟨i, (by
    by_cases h : i < env.length
    · exact h
    · rw [s.out i (Nat.le_of_not_lt h)] at m; simp at m), m⟩)
  pin := s.pin
/-! ### slots forgotten and brought back -/
def wipeV (own : List Nat) (env : Ve) : Ve := own.foldr (fun i acc => acc.set i .un) env
def keepS : Option S → S
  | some (.dat d) => .dat d
  | _ => .un
def restV (own : List Nat) (e e2 : Ve) : Ve := own.foldr (fun i acc => acc.set i (keepS e[i]?)) e2
def noOwn : Option S → Bool
  | some (.own _) => false
  | _ => true
def freeV (own : List Nat) (env : Ve) : Bool := own.all fun i => noOwn env[i]?
theorem wipeV_length : ∀ (own : List Nat) (env : Ve), (wipeV own env).length = env.length
  | [], _ => rfl
  | i :: own, env => by
    show ((wipeV own env).set i .un).length = _
    rw [List.length_set, wipeV_length own env]
theorem wipeV_get {k : Nat} : ∀ (own : List Nat) (env : Ve), k < env.length → (wipeV own env)[k]? = if k ∈ own then some .un else env[k]?
  | [], env, _ => by simp [wipeV]
  | i :: own, env, h => by
    show ((wipeV own env).set i .un)[k]? = _
    by_cases c : i = k
    · subst c
      rw [List.getElem?_set_self (by rw [wipeV_length]; exact h)]
      simp
    · rw [List.getElem?_set_ne c, wipeV_get own env h]
      have : k ≠ i := fun e => c e.symm
      simp [this]
theorem restV_length (e : Ve) : ∀ (own : List Nat) (env : Ve), (restV own e env).length = env.length
  | [], _ => rfl
  | i :: own, env => by
    show ((restV own e env).set i _).length = _
    rw [List.length_set, restV_length e own env]
theorem restV_get {k : Nat} (e : Ve) : ∀ (own : List Nat) (env : Ve), k < env.length → (restV own e env)[k]? = if k ∈ own then some (keepS e[k]?) else env[k]?
  | [], env, _ => by simp [restV]
  | i :: own, env, h => by
    show ((restV own e env).set i _)[k]? = _
    by_cases c : i = k
    · subst c
      rw [List.getElem?_set_self (by rw [restV_length]; exact h)]
      simp
    · rw [List.getElem?_set_ne c, restV_get e own env h]
      have : k ≠ i := fun e => c e.symm
      simp [this]
theorem wipe_get {k : Nat} : ∀ (own : List Nat) (σ : L2.St), k < σ.length → (wipe σ own)[k]? = if k ∈ own then some none else σ[k]?
  | [], σ, _ => by simp [wipe]
  | i :: own, σ, h => by
    show ((wipe σ own).set i none)[k]? = _
    by_cases c : i = k
    · subst c
      rw [List.getElem?_set_self (by rw [wipe_length]; exact h)]
      simp
    · rw [List.getElem?_set_ne c, wipe_get own σ h]
      have : k ≠ i := fun e => c e.symm
      simp [this]
theorem freeV_get {own : List Nat} (h : freeV own env = true) {k : Nat} (m : k ∈ own) {t : O} (e : env[k]? = some (.own t)) : False := by
  have := List.all_eq_true.mp h k m
  rw [e] at this
  cases this
theorem StR.wipe {own : List Nat} (s : StR g Z env σ H fps) (hf : freeV own env = true) (hp : ∀ i ∈ own, i ∉ g.pins) : StR g Z (wipeV own env) (L2.wipe σ own) H fps where
  len := by rw [wipe_length, wipeV_length]; exact s.len
  sub := s.sub
  slot := fun i x e => by
    have hi : i < env.length := by
      have := (List.getElem?_eq_some_iff.mp e).1
      rw [wipeV_length] at this
      exact this
    have hσ : i < σ.length := by rw [s.len]; exact hi
    rw [wipeV_get own env hi] at e
    by_cases m : i ∈ own
    · rw [if_pos m] at e
      cases e
      have q := s.slot i env[i] (List.getElem?_eq_getElem hi)
      show fps i = []
      cases e2 : env[i] with
      | un => rw [e2] at q; exact q
      | dat d => rw [e2] at q; exact q.1
      | own t => exact (freeV_get hf m (t := t) (by rw [List.getElem?_eq_getElem hi, e2])).elim
      | al j p => rw [e2] at q; exact q.1
    · rw [if_neg m] at e
      have q := s.slot i x e
      have hg : (L2.wipe σ own)[i]? = σ[i]? := by rw [wipe_get own σ hσ, if_neg m]
      cases x with
      | un => exact q
      | dat d => obtain ⟨e1, v, h1, h2⟩ := q; exact ⟨e1, v, by rw [hg]; exact h1, h2⟩
      | own t => obtain ⟨v, h1, h2⟩ := q; exact ⟨v, by rw [hg]; exact h1, h2⟩
      | al j p =>
        obtain ⟨e1, ⟨t, ht⟩, v, vj, h1, h2, h3⟩ := q
        have hj : j ∉ own := fun mj => freeV_get hf mj ht
        have hjl : j < env.length := (List.getElem?_eq_some_iff.mp ht).1
        exact ⟨e1, ⟨t, by rw [wipeV_get own env hjl, if_neg hj]; exact ht⟩, v, vj, by rw [hg]; exact h1, by rw [wipe_get own σ (by rw [s.len]; exact hjl), if_neg hj]; exact h2, h3⟩
  out := fun i h => s.out i (by rw [wipeV_length] at h; exact h)
  dis := s.dis
  nd := s.nd
  nz := s.nz
  e1 := s.e1
  e2 := s.e2
  e3 := s.e3
  e4 := s.e4
  pin := fun i hi => by
    obtain ⟨v, h1, h2⟩ := s.pin i hi
    refine ⟨v, h1, ?_⟩
    rw [wipe_get own σ (List.getElem?_eq_some_iff.mp h2).1, if_neg fun m => hp i m hi]
    exact h2
/-- the slots of own brought back from an elder state -/
theorem StR.rest {own : List Nat} {Z0 H0 : Hp} {env0 : Ve} {σ0 : L2.St} {fps0 : Nat → List Addr} (s0 : StR g Z0 env0 σ0 H0 fps0) (z : Same Z0 Z) (s : StR g Z env σ H fps) (hl : env.length = env0.length) (hf : freeV own env = true)
    (hσ : ∀ k, k ∉ own → σ[k]? = σ0[k]?) : StR g Z (restV own env0 env) σ0 H fps where
  len := by rw [restV_length, hl]; exact s0.len
  sub := s.sub
  slot := fun i x e => by
    have hi : i < env.length := by
      have := (List.getElem?_eq_some_iff.mp e).1
      rw [restV_length] at this
      exact this
    rw [restV_get env0 own env hi] at e
    by_cases m : i ∈ own
    · rw [if_pos m] at e
      have hfp : fps i = [] := by
        have q := s.slot i env[i] (List.getElem?_eq_getElem hi)
        cases e2 : env[i] with
        | un => rw [e2] at q; exact q
        | dat d => rw [e2] at q; exact q.1
        | own t => exact (freeV_get hf m (t := t) (by rw [List.getElem?_eq_getElem hi, e2])).elim
        | al j p => rw [e2] at q; exact q.1
      cases e
      rw [hfp]
      cases e3 : env0[i]? with
      | none => exact rfl
      | some y =>
        cases y with
        | dat d =>
          obtain ⟨_, v, h1, h2⟩ := s0.slot i _ e3
          exact ⟨rfl, v, h1, h2.mono z⟩
        | _ => exact rfl
    · rw [if_neg m] at e
      have q := s.slot i x e
      have hg := hσ i m
      cases x with
      | un => exact q
      | dat d => obtain ⟨e1, v, h1, h2⟩ := q; exact ⟨e1, v, by rw [← hg]; exact h1, h2⟩
      | own t => obtain ⟨v, h1, h2⟩ := q; exact ⟨v, by rw [← hg]; exact h1, h2⟩
      | al j p =>
        obtain ⟨e1, ⟨t, ht⟩, v, vj, h1, h2, h3⟩ := q
        have hj : j ∉ own := fun mj => freeV_get hf mj ht
        have hjl : j < env.length := (List.getElem?_eq_some_iff.mp ht).1
        exact ⟨e1, ⟨t, by rw [restV_get env0 own env hjl, if_neg hj]; exact ht⟩, v, vj, by rw [← hg]; exact h1, by rw [← hσ j hj]; exact h2, h3⟩
  out := fun i h => s.out i (by rw [restV_length] at h; exact h)
  dis := s.dis
  nd := s.nd
  nz := s.nz
  e1 := s.e1
  e2 := s.e2
  e3 := s.e3
  e4 := s.e4
  pin := s0.pin
/-- a list beside the slots changes -/
theorem walk_upd {D : Addr} {vs ws : List V} (hD : H D = some (.lst vs)) : ∀ {p : List Str} {v u : V}, walk H v p = some u → walk (upd H D (.lst ws)) v p = some u
  | [], v, u, e => by unfold walk at e ⊢; exact e
  | f :: p, v, u, e => by
    cases v with
    | ref a =>
      unfold walk at e ⊢
      split at e
      · rename_i C dx fs h
        have hne : a ≠ D := fun c => by rw [c, hD] at h; cases h
        rw [upd_ne hne, h]
        show (fs.lookup f).bind (fun u => walk _ u p) = some u
        cases q : fs.lookup f with
        | none => rw [q] at e; cases e
        | some w =>
          rw [q] at e
          exact walk_upd (p := p) hD e
      · rename_i fs h
        have hne : a ≠ D := fun c => by rw [c, hD] at h; cases h
        rw [upd_ne hne, h]
        show (fs[ixF f]?).bind (fun u => walk _ u p) = some u
        cases q : fs[ixF f]? with
        | none => rw [q] at e; cases e
        | some w =>
          rw [q] at e
          exact walk_upd (p := p) hD e
      · cases e
    | _ => simp [walk] at e
theorem StR.beside {D : Addr} {vs ws : List V} (s : StR g Z env σ H fps) (hD : H D = some (.lst vs)) (hZ : Z D = none) (hF : ∀ k, D ∉ fps k) (hE : D ∈ g.n.F0 ∨ g.n.H0 D = none) : StR g Z env σ (upd H D (.lst ws)) fps where
  len := s.len
  sub := fun b o e => by
    have hne : b ≠ D := fun c => by rw [c, hZ] at e; cases e
    rw [upd_ne hne]; exact s.sub b o e
  slot := fun i x e => (s.slot i x e).keep (.refl _) (fun a m => upd_ne fun c => hF i (c ▸ m)) fun v p u => walk_upd hD
  out := s.out
  dis := s.dis
  nd := s.nd
  nz := s.nz
  e1 := s.e1
  e2 := fun b o e k => by
    have hne : b ≠ D := fun c => by
      subst c
      rcases hE with h | h
      · exact k h
      · rw [h] at e; cases e
    rw [upd_ne hne]; exact s.e2 b o e k
  e3 := s.e3
  e4 := s.e4
  pin := s.pin
/-! ### comprehensions -/
abbrev DTs (X : Cx) (g : Gx) (pu : Bool) (ifs : List Expr) (m : TM) : Prop := PTs X ifs (tT g pu m)
theorem PTs.imp {e : List Expr} {t t' : TT} (h : PTs X e t) (k : ∀ σ H Q, t' σ H Q → t σ H Q) : PTs X e t' := ⟨fun pins s σ H Q I q => h.run pins s σ H Q I (k σ H Q q)⟩
def tYesM : TM := fun env => .ok true env
theorem dts_nil : DTs X g true [] tYesM := PTs.imp pts_nil fun σ H Q ⟨Z, env, fps, s, h⟩ => h true Z H fps s (.refl _) (fun _ => ⟨rfl, rfl, .refl _⟩) rfl
theorem dts_one {p : Bool} {c : Expr} {m : TM} (h : DT X g p c m) : DTs X g p [c] m := pts_one h
def compL (own : List Nat) (gm : GM) (tm : TM) (em : EM) : List D → Ve → List D → Res Ev
  | [], e, acc => .ok (.new (.lst acc)) e
  | d :: ds, e, acc => if freeV own e = true then match gm d (wipeV own e) with
      | none => .no
      | some e2 => match tm e2 with
        | .ok true e3 => match hold true (em e3) with
          | .ok (.dat x) e4 => if acc.length < lim ∧ freeV own e4 = true ∧ e4.length = e.length then compL own gm tm em ds (restV own e e4) (acc ++ [x]) else .no
          | _ => .no
        | .ok false e3 => if freeV own e3 = true ∧ e3.length = e.length then compL own gm tm em ds (restV own e e3) acc else .no
        | _ => .no
    else .no
def eComp (own : List Nat) (im : IM) (gm : GM) (tm : TM) (em : EM) : EM := fun env => (im env).bind fun ds e1 => compL own gm tm em ds e1 []
theorem wipe_eq {own : List Nat} {σ1 σ2 : L2.St} (hl : σ1.length = σ2.length) (h : ∀ k, k ∉ own → σ1[k]? = σ2[k]?) : L2.wipe σ1 own = L2.wipe σ2 own := by
  refine List.ext_getElem? fun k => ?_
  by_cases hk : k < σ1.length
  · rw [wipe_get own σ1 hk, wipe_get own σ2 (by omega)]
    by_cases m : k ∈ own
    · rw [if_pos m, if_pos m]
    · rw [if_neg m, if_neg m]; exact h k m
  · rw [List.getElem?_eq_none (by rw [wipe_length]; omega), List.getElem?_eq_none (by rw [wipe_length]; omega)]
end
section
variable {X : Cx} {g : Gx}
theorem comp_run {ow : List Nat} {p pt pe : Bool} {mi : IM} {gm : GM} {tm : TM} {em : EM} {ts : List Nat} (hpin : ∀ i ∈ ow, i ∉ g.pins) (hts : ∀ i ∈ ts, i ∈ ow) {σ : L2.St} {H : Hp} {Q : VK} (h : tE g false (eComp ow mi gm tm em) σ H Q) :
    tLc (tR g p (fun Z' _ _ _ J ds => ItOk J Z' ds) mi) (fun v σ H Q => ∃ n, tGm (g.blk n) ts gm v σ H Q) (fun σ H Q => ∃ n, tT (g.blk n) pt tm σ H Q) (fun σ H Q => ∃ n, tE (g.blk n) pe em σ H Q) ow σ H Q := by
  obtain ⟨Z, env, fps, s, h⟩ := h
  refine ⟨Z, env, fps, s, ?_⟩
  unfold eComp at h
  cases e : mi env with
  | no => simp [e] at h
  | ex x e1 => simpa [e] using h
  | ok ds e1 =>
    simp only [e, Res.bind_ok] at h
    intro J Z1 H1 fps1 s1 z1 _ it D hD
    let W : Nat → Nat → Hp → Prop := fun i m H2 => m = ds.length - i ∧ i ≤ ds.length ∧ ∃ Z2 e2 fps2 acc vs, StR g Z2 e2 σ H2 fps2 ∧ Same Z1 Z2 ∧ H2 D = some (.lst vs) ∧ RDs Z2 vs acc ∧ Z2 D = none ∧ (∀ k, D ∉ fps2 k) ∧
      Post g false (EvR g) Z env σ H fps Q (compL ow gm tm em (ds.drop i) e2 acc)
    have hst : D ∈ g.n.F0 ∨ g.n.H0 D = none := (s1.new0 hD).2
    refine ⟨W, ⟨ds.length, by omega, Nat.zero_le _, Z1, e1, fps1, [], [], s1.fresh (.new s1.sub hD), .refl _, upd_same, .nil, ?_, (s1.new0 hD).1, by simpa using h⟩, ?_⟩
    · cases q : Z1 D with
      | none => rfl
      | some o => rw [s1.sub _ _ q] at hD; cases hD
    rintro i m H2 ⟨rfl, hi2, Z2, e2, fps2, acc, vs, s2, z2, hH2, rv, hZ2, hF2, po⟩
    by_cases hlt : i < ds.length
    · right
      have hd : ds[i]? = some ds[i] := List.getElem?_eq_getElem hlt
      obtain ⟨go, yl⟩ := it.go i _ hd Z2 H2 z2 s2.sub
      refine ⟨go, fun H' => ∃ m', m' < ds.length - i ∧ W (i + 1) m' H', fun H' x => x, fun x H3 hy => ?_⟩
      obtain ⟨Z3, fr, rx⟩ := yl x H3 hy
      have s3 := s2.fresh fr
      rw [show ds.drop i = ds[i] :: ds.drop (i + 1) from (List.drop_eq_getElem_cons hlt)] at po
      simp only [compL] at po
      have hH3 : H3 D = some (.lst vs) := fr.h _ _ hH2
      have hZ3 : Z3 D = none := by
        cases q : Z3 D with
        | none => rfl
        | some o =>
          rcases fr.n D o q with k | k
          · rw [hZ2] at k; cases k
          · rw [hH2] at k; cases k
      split at po
      case isFalse => exact po.elim
      rename_i hfree
      have s3w : StR (g.blk ⟨Z3, H3, allF (wipeV ow e2).length fps2, g.n.vs⟩) Z3 (wipeV ow e2) (L2.wipe σ ow) H3 fps2 := (s3.wipe hfree hpin).enter
      have hDF : D ∉ allF (wipeV ow e2).length fps2 := fun m => by
        obtain ⟨k, _, hk⟩ := mem_allF.mp m
        exact hF2 k hk
      refine ⟨⟨Z3, H3, allF (wipeV ow e2).length fps2, g.n.vs⟩, Z3, wipeV ow e2, fps2, ds[i], s3w, rx, ?_⟩
      split at po
      · exact po.elim
      rename_i e4 hgm
      rw [hgm]
      intro Z4 σ4 H4 fps4 s4 z4 hl4 hσ4
      have hl4' : σ4.length = σ.length := by rw [hl4, wipe_length]
      have hσ4' : ∀ k, k ∉ ow → σ4[k]? = σ[k]? := fun k hk => by
        rw [hσ4 k fun m => hk (hts k m)]
        by_cases hkl : k < σ.length
        · rw [wipe_get ow σ hkl, if_neg hk]
        · rw [List.getElem?_eq_none (by rw [wipe_length]; omega), List.getElem?_eq_none (by omega)]
      refine ⟨wipe_eq hl4' hσ4', ?_⟩
      have pins4 : ∀ i ∈ g.pins, ∃ v, g.n.vs[i]? = some v ∧ σ4[i]? = some (some v) := fun i hi => by
        obtain ⟨v, h1, h2⟩ := s3.pin i hi
        refine ⟨v, h1, ?_⟩
        rw [hσ4' i fun m => hpin i m hi]
        exact h2
      have hmem : ∀ a ∈ allF (wipeV ow e2).length fps2, ∃ i, a ∈ fps2 i := fun a m => by
        obtain ⟨k, _, hk⟩ := mem_allF.mp m
        exact ⟨k, hk⟩
      -- where the new list stands
      have dOk : ∀ {Z5 H5 : Hp} {e5 : Ve} {fps5 : Nat → List Addr}, StR (g.blk ⟨Z3, H3, allF (wipeV ow e2).length fps2, g.n.vs⟩) Z5 e5 σ4 H5 fps5 → H5 D = some (.lst vs) ∧ Z5 D = none ∧ ∀ k, D ∉ fps5 k := fun {Z5 H5 e5 fps5} s5 => by
        refine ⟨s5.e2 D _ hH3 hDF, ?_, fun k m => ?_⟩
        · cases q : Z5 D with
          | none => rfl
          | some o =>
            rcases s5.e3 D o q with k | k | k
            · have k' : Z3 D = some o := k
              rw [hZ3] at k'; cases k'
            · exact (hDF k).elim
            · have k' : H3 D = none := k
              rw [hH3] at k'; cases k'
        · rcases s5.e4 k D m with q | q
          · exact hDF q
          · have q' : H3 D = none := q
            rw [hH3] at q'; cases q'
      have nextW : ∀ {Z5 H5 : Hp} {e5 : Ve} {fps5 : Nat → List Addr} {acc' : List DL.D} {ws : List V}, StR (g.blk ⟨Z3, H3, allF (wipeV ow e2).length fps2, g.n.vs⟩) Z5 e5 σ4 H5 fps5 → Same Z3 Z5 → freeV ow e5 = true → e5.length = e2.length → RDs Z5 ws acc' →
          Post g false (EvR g) Z env σ H fps Q (compL ow gm tm em (ds.drop (i + 1)) (restV ow e2 e5) acc') → ∃ m', m' < ds.length - i ∧ W (i + 1) m' (upd H5 D (.lst ws)) := fun {Z5 H5 e5 fps5 acc' ws} s5 z5 hf5 hl5 rw5 po5 => by
        obtain ⟨d1, d2, d3⟩ := dOk s5
        have s5' : StR g Z5 e5 σ4 H5 fps5 := s3.rebase (g' := g.blk _) rfl rfl hmem pins4 s5
        have s6 : StR g Z5 (restV ow e2 e5) σ H5 fps5 := s3.rest z5 s5' hl5 hf5 hσ4'
        exact ⟨ds.length - (i + 1), by omega, rfl, hlt, Z5, restV ow e2 e5, fps5, acc', ws, s6.beside d1 d2 d3 hst, (z2.trans fr.z).trans z5, upd_same, rw5, d2, d3, po5⟩
      refine ⟨⟨Z3, H3, allF (wipeV ow e2).length fps2, g.n.vs⟩, Z4, e4, fps4, s4, ?_⟩
      cases et : tm e4 with
      | no => simp [et] at po
      | ex x e5 => simp [et] at po
      | ok b e5 =>
        rw [et] at po
        intro b' Z5 H5 fps5 s5 z5 _ rb
        subst rb
        cases b' with
        | false =>
          simp only at po
          rw [if_neg Bool.false_ne_true]
          split at po
          · rename_i hf5
            obtain ⟨d1, d2, d3⟩ := dOk s5
            have q := nextW s5 (z4.trans z5) hf5.1 hf5.2 (rv.mono ((fr.z.trans z4).trans z5)) po
            have e6 : upd H5 D (.lst vs) = H5 := by
              funext b
              by_cases c : b = D
              · rw [c, upd_same, d1]
              · rw [upd_ne c]
            rw [e6] at q
            exact q
          · exact po.elim
        | true =>
          simp only at po
          rw [if_pos rfl]
          refine ⟨⟨Z3, H3, allF (wipeV ow e2).length fps2, g.n.vs⟩, hold_run (q := true) s5 (fun x e6 he6 y Z6 H6 fps6 s6 z6 k6 r6 => ?_) (fun x e6 he6 => ?_) (fun he6 => ?_)⟩
          · rw [he6] at po
            cases x with
            | dat d' =>
              simp only at po
              split at po
              · rename_i hf6
                obtain ⟨d1, d2, d3⟩ := dOk s6
                have rv' := rv.mono (((fr.z.trans z4).trans z5).trans z6)
                refine ⟨vs, d1, ?_, nextW s6 ((z4.trans z5).trans z6) hf6.2.1 hf6.2.2 (rv'.append (.cons r6 .nil)) po⟩
                rw [rv.length]
                exact Nat.lt_of_lt_of_le hf6.1 (by rw [sizeLine_eq]; exact Nat.le_refl _)
              · exact po.elim
            | _ => exact po.elim
          · rw [he6] at po; exact po.elim
          · rw [he6] at po; exact po.elim
    · left
      have hi3 : i = ds.length := by omega
      subst hi3
      refine ⟨it.stop Z2 H2 z2 s2.sub, ?_⟩
      rw [List.drop_length] at po
      simp only [compL] at po
      exact po (.ref D) Z2 H2 fps2 s2 (z1.trans z2) (fun q => by cases q) ⟨[D], .lst hH2 rv, by simp, fun a m => by
        have ea : a = D := by simpa using m
        subst ea
        exact ⟨hZ2, hF2, hst⟩⟩
theorem de_comp {own : List (Str × Nat)} {p pt pe : Bool} {tg iter elt : Expr} {ifs : List Expr} {scope : Scope} {pos : Pos} {mi : IM} {gm : GM} {tm : TM} {em : EM} {ts : List Nat} (hc : X.calm = true) (hN : X.N.Nodup) (hi : DI X g p tg iter mi) (ok : BlkOk X.N X.env.scope scope own)
    (hpin : ∀ i ∈ own.map (·.2), i ∉ g.pins) (hts : ∀ i ∈ ts, i ∈ own.map (·.2))
    (hg : ∀ (n : En) (s : Shared) (H : Hp) (C : Addr) (cl : List (Str × Addr)) (fp : List Addr), DG (X.blk s H scope (compEnvC scope cl C X.env) fp) (g.blk n) ts tg gm)
    (ht : ∀ (n : En) (s : Shared) (H : Hp) (C : Addr) (cl : List (Str × Addr)) (fp : List Addr), DTs (X.blk s H scope (compEnvC scope cl C X.env) fp) (g.blk n) pt ifs tm)
    (he : ∀ (n : En) (s : Shared) (H : Hp) (C : Addr) (cl : List (Str × Addr)) (fp : List Addr), DE (X.blk s H scope (compEnvC scope cl C X.env) fp) (g.blk n) pe elt em)
    (hs : ∀ x, foldedSetIterable iter X.env x = pure x := by intro _; rfl) :
    DE X g false (.ListComp elt [⟨tg, iter, ifs, 0⟩] scope pos) (eComp (own.map (·.2)) mi gm tm em) := by
  refine PE.imp (pe_lc (own := own) (g := fun v σ H Q => ∃ n, tGm (g.blk n) ts gm v σ H Q) (tt := fun σ H Q => ∃ n, tT (g.blk n) pt tm σ H Q) (te := fun σ H Q => ∃ n, tE (g.blk n) pe em σ H Q) hc hN hi ok
    (fun s H C cl fp => ⟨fun pins s' σ H' v u Q I r ⟨n, q⟩ => (hg n s H C cl fp).run pins s' σ H' v u Q I r q⟩)
    (fun s H C cl fp => ⟨fun pins s' σ H' Q I ⟨n, q⟩ => (ht n s H C cl fp).run pins s' σ H' Q I q⟩)
    (fun s H C cl fp => ⟨fun pins s' σ H' Q I ⟨n, q⟩ => (he n s H C cl fp).run pins s' σ H' Q I q⟩) hs) fun σ H Q h => comp_run hpin hts h
end
end DL
namespace DL
open PySem PySem.Spec PyProof.Rows L2
/-! ### statements -/
inductive Out where
  | nx (e : Ve) | rt (r : Ev) (e : Ve) | bk (e : Ve) | ct (e : Ve) | ex (x : Exn) (e : Ve) | no
abbrev SM := Ve → Out
def PostS (g : Gx) (Z : Hp) (D : Ends) : Out → Prop
  | .nx e => ∀ Z' σ' H' fps', StR g Z' e σ' H' fps' → Same Z Z' → D.nx σ' H'
  | .bk e => ∀ Z' σ' H' fps', StR g Z' e σ' H' fps' → Same Z Z' → D.bk σ' H'
  | .ct e => ∀ Z' σ' H' fps', StR g Z' e σ' H' fps' → Same Z Z' → D.ct σ' H'
  | .rt r e => ∀ v Z' σ' H' fps', StR g Z' e σ' H' fps' → Same Z Z' → EvR g Z' H' σ' fps' v r → D.rt v H'
  | .ex x e => ∀ cls d Z' σ' H' fps', StR g Z' e σ' H' fps' → Same Z Z' → XR g.mg Z' H' cls d x → g.W cls d σ' H'
  | .no => False
def tS (g : Gx) (m : SM) : TS := fun D σ H => ∃ Z env fps, StR g Z env σ H fps ∧ PostS g Z D (m env)
abbrev DS (X : Cx) (g : Gx) (st : Stmt) (m : SM) : Prop := PS X st (tS g m)
abbrev DSs (X : Cx) (g : Gx) (st : List Stmt) (m : SM) : Prop := PSs X st (tS g m)
section
variable {X : Cx} {g : Gx}
theorem PS.imp {e : Stmt} {t t' : TS} (h : PS X e t) (k : ∀ D σ H, t' D σ H → t D σ H) : PS X e t' := ⟨fun pins s σ H D I q => h.run pins s σ H D I (k D σ H q)⟩
theorem PSs.imp {e : List Stmt} {t t' : TS} (h : PSs X e t) (k : ∀ D σ H, t' D σ H → t D σ H) : PSs X e t' := ⟨fun pins s σ H D I q => h.run pins s σ H D I (k D σ H q)⟩
theorem PostS.mono {Z Z2 : Hp} {D : Ends} {o : Out} (z : Same Z Z2) (h : PostS g Z D o) : PostS g Z2 D o := by
  cases o with
  | no => exact h
  | nx e => exact fun Z' σ' H' fps' s' z' => h Z' σ' H' fps' s' (z.trans z')
  | bk e => exact fun Z' σ' H' fps' s' z' => h Z' σ' H' fps' s' (z.trans z')
  | ct e => exact fun Z' σ' H' fps' s' z' => h Z' σ' H' fps' s' (z.trans z')
  | rt r e => exact fun v Z' σ' H' fps' s' z' => h v Z' σ' H' fps' s' (z.trans z')
  | ex x e => exact fun cls d Z' σ' H' fps' s' z' => h cls d Z' σ' H' fps' s' (z.trans z')
/-- an expression's mirror, then a statement's end -/
def Out.ofRes {α : Type} (r : Res α) (f : α → Ve → Out) : Out := match r with
  | .ok a e => f a e
  | .ex x e => .ex x e
  | .no => .no
@[simp] theorem ofRes_ok {α : Type} (a : α) (e : Ve) (f : α → Ve → Out) : Out.ofRes (.ok a e) f = f a e := rfl
@[simp] theorem ofRes_ex {α : Type} (x : Exn) (e : Ve) (f : α → Ve → Out) : Out.ofRes (.ex x e) f = .ex x e := rfl
@[simp] theorem ofRes_no {α : Type} (f : α → Ve → Out) : Out.ofRes (.no) f = .no := rfl
def Out.seq (o : Out) (k : Ve → Out) : Out := match o with
  | .nx e => k e
  | o => o
@[simp] theorem seq_nx (e : Ve) (k : Ve → Out) : Out.seq (.nx e) k = k e := rfl
@[simp] theorem seq_rt (r : Ev) (e : Ve) (k : Ve → Out) : Out.seq (.rt r e) k = .rt r e := rfl
@[simp] theorem seq_bk (e : Ve) (k : Ve → Out) : Out.seq (.bk e) k = .bk e := rfl
@[simp] theorem seq_ct (e : Ve) (k : Ve → Out) : Out.seq (.ct e) k = .ct e := rfl
@[simp] theorem seq_ex (x : Exn) (e : Ve) (k : Ve → Out) : Out.seq (.ex x e) k = .ex x e := rfl
@[simp] theorem seq_no (k : Ve → Out) : Out.seq .no k = .no := rfl
def sSeq (a b : SM) : SM := fun env => (a env).seq b
def sPass : SM := fun env => .nx env
theorem dss_nil : DSs X g [] sPass := PSs.imp pss_nil fun D σ H ⟨Z, env, fps, s, h⟩ => h Z σ H fps s (.refl _)
theorem dss_one {st : Stmt} {m : SM} (h : DS X g st m) : DSs X g [st] m := pss_one h
theorem dss_cons {st : Stmt} {rest : List Stmt} {m r : SM} (h : DS X g st m) (hr : DSs X g rest r) : DSs X g (st :: rest) (sSeq m r) := by
  refine PSs.imp (pss_cons h hr) fun D σ H ⟨Z, env, fps, s, h⟩ => ⟨Z, env, fps, s, ?_⟩
  unfold sSeq at h
  cases e : m env with
  | no => simp [e] at h; exact h
  | nx e1 =>
    simp only [e, seq_nx] at h
    exact fun Z' σ' H' fps' s' z' => ⟨Z', e1, fps', s', h.mono z'⟩
  | bk e1 => simp only [e, seq_bk] at h; exact h
  | ct e1 => simp only [e, seq_ct] at h; exact h
  | rt r e1 => simp only [e, seq_rt] at h; exact h
  | ex x e1 => simp only [e, seq_ex] at h; exact h
theorem ds_pass {pos : Pos} : DS X g (.Pass pos) sPass := PS.imp ps_pass fun D σ H ⟨Z, env, fps, s, h⟩ => h Z σ H fps s (.refl _)
theorem ds_break {pos : Pos} : DS X g (.Break pos) (fun env => .bk env) := PS.imp ps_break fun D σ H ⟨Z, env, fps, s, h⟩ => h Z σ H fps s (.refl _)
theorem ds_continue {pos : Pos} : DS X g (.Continue pos) (fun env => .ct env) := PS.imp ps_continue fun D σ H ⟨Z, env, fps, s, h⟩ => h Z σ H fps s (.refl _)
def sExpr (m : EM) : SM := fun env => Out.ofRes (m env) fun _ e => .nx e
theorem ds_expr {e : Expr} {p : Bool} {m : EM} {pos : Pos} (h : DE X g p e m) (hs : swapsWith e none pos.line X.env = pure false := by rfl) : DS X g (.Expr e pos) (sExpr m) := by
  refine PS.imp (ps_expr h hs) fun D σ H ⟨Z, env, fps, s, h⟩ => ⟨Z, env, fps, s, ?_⟩
  unfold sExpr at h
  cases e : m env with
  | no => simp only [e, ofRes_no] at h; exact h
  | ex x e1 => simp only [e, ofRes_ex] at h; exact fun cls d Z' H' fps' => h cls d Z' σ H' fps'
  | ok a e1 => simp only [e, ofRes_ok] at h; exact fun v Z' H' fps' s' z' _ _ => h Z' σ H' fps' s' z'
def sIf (c : TM) (a b : SM) : SM := fun env => Out.ofRes (c env) fun x e => if x = true then a e else b e
theorem ds_if {c : Expr} {a b : List Stmt} {p : Bool} {mc : TM} {ma mb : SM} {pos : Pos} (hc : DT X g p c mc) (ha : DSs X g a ma) (hb : DSs X g b mb) : DS X g (.If c a b pos) (sIf mc ma mb) := by
  refine PS.imp (ps_if hc ha hb) fun D σ H ⟨Z, env, fps, s, h⟩ => ⟨Z, env, fps, s, ?_⟩
  unfold sIf at h
  cases e : mc env with
  | no => simp only [e, ofRes_no] at h; exact h
  | ex x e1 => simp only [e, ofRes_ex] at h; exact fun cls d Z' H' fps' => h cls d Z' σ H' fps'
  | ok a e1 =>
    simp only [e, ofRes_ok] at h
    intro b Z' H' fps' s' z' _ r
    subst r
    cases b with
    | true =>
      rw [if_pos rfl] at h ⊢
      exact ⟨Z', e1, fps', s', h.mono z'⟩
    | false =>
      rw [if_neg Bool.false_ne_true] at h ⊢
      exact ⟨Z', e1, fps', s', h.mono z'⟩
/-! return -/
section
variable {Z H : Hp} {env : Ve} {σ : L2.St} {fps : Nat → List Addr}
def dropS (j : Nat) (env : Ve) : Ve := (env.map (killS j)).set j .un
theorem StR.drop (s : StR g Z env σ H fps) {j : Nat} {t : O} (hj : env[j]? = some (.own t)) : StR g Z (dropS j env) σ H (fun k => if k = j then [] else fps k) := by
  have hjl : j < env.length := (List.getElem?_eq_some_iff.mp hj).1
  refine ⟨by unfold dropS; rw [List.length_set, List.length_map]; exact s.len, s.sub, fun k y e => ?_, fun k hk => ?_, fun k l a h1 h2 => ?_, fun k => ?_, fun k a h1 => ?_, s.e1, s.e2, s.e3, fun k a h1 => ?_, s.pin⟩
  · by_cases c : k = j
    · subst c
      unfold dropS at e
      rw [List.getElem?_set_self (by simpa using hjl)] at e
      cases e
      rw [if_pos rfl]
      exact rfl
    · rw [if_neg c]
      unfold dropS at e
      rw [List.getElem?_set_ne (Ne.symm c), List.getElem?_map] at e
      cases q : env[k]? with
      | none => rw [q] at e; cases e
      | some y0 =>
        rw [q] at e
        cases e
        have h0 := s.slot k y0 q
        cases y0 with
        | un => exact h0
        | dat d => exact h0
        | own t2 => exact h0
        | al i p =>
          obtain ⟨e1, ⟨t3, ht⟩, w, vj, h1, h2, h3⟩ := h0
          show SR g.mg Z H _ _ k (if i = j then S.un else S.al i p) (fps k)
          by_cases c2 : i = j
          · rw [if_pos c2]; exact e1
          · rw [if_neg c2]
            refine ⟨e1, ⟨t3, ?_⟩, w, vj, h1, h2, h3⟩
            unfold dropS
            rw [List.getElem?_set_ne (Ne.symm c2), List.getElem?_map, ht]
            rfl
  · have hk' : env.length ≤ k := by unfold dropS at hk; simpa using hk
    have c : k ≠ j := by omega
    show (if k = j then [] else fps k) = []
    rw [if_neg c]
    exact s.out k hk'
  · by_cases c1 : k = j
    · simp [c1] at h1
    · by_cases c2 : l = j
      · simp [c2] at h2
      · simp only [c1, c2, if_false] at h1 h2
        exact s.dis k l a h1 h2
  · show (if k = j then [] else fps k).Nodup
    by_cases c : k = j
    · rw [if_pos c]; exact List.nodup_nil
    · rw [if_neg c]; exact s.nd k
  · by_cases c : k = j
    · simp [c] at h1
    · simp only [c, if_false] at h1; exact s.nz k a h1
  · by_cases c : k = j
    · simp [c] at h1
    · simp only [c, if_false] at h1; exact s.e4 k a h1
end
def sRet (m : EM) : SM := fun env => Out.ofRes (m env) fun v e => match v with
  | .dat d => .rt (.dat d) e
  | .new t => .rt (.new t) e
  | .pl j p => match p, e[j]? with
    | [], some (.own t) => .rt (.new t) (dropS j e)
    | _, _ => .no
theorem ds_ret {e : Expr} {p : Bool} {m : EM} {pos : Pos} (h : DE X g p e m) : DS X g (.Return (some e) pos) (sRet m) := by
  refine PS.imp (ps_ret h) fun D σ H ⟨Z, env, fps, s, h⟩ => ⟨Z, env, fps, s, ?_⟩
  unfold sRet at h
  cases e : m env with
  | no => simp only [e, ofRes_no] at h; exact h
  | ex x e1 => simp only [e, ofRes_ex] at h; exact fun cls d Z' H' fps' => h cls d Z' σ H' fps'
  | ok a e1 =>
    simp only [e, ofRes_ok] at h
    intro v Z' H' fps' s' z' _ r
    cases a with
    | dat d => exact h v Z' σ H' fps' s' z' r
    | new t => exact h v Z' σ H' fps' s' z' r
    | pl j p =>
      simp only at h
      split at h
      · rename_i t ht
        obtain ⟨vj, h1, h2⟩ := r
        obtain ⟨v0, h3, ow⟩ := s'.slot j _ ht
        rw [h1] at h3
        cases h3
        unfold walk at h2
        cases h2
        refine h _ Z' σ H' _ (s'.drop ht) z' ⟨fps' j, ow, s'.nd j, fun a m => ⟨s'.nz j a m, fun i mi => ?_, s'.e4 j a m⟩⟩
        by_cases c : i = j
        · simp [c] at mi
        · simp only [c, if_false] at mi
          exact c (s'.dis i j a mi m)
      · exact h.elim
def sRetN : SM := fun env => .rt (.dat .non) env
theorem ds_retN {pos : Pos} : DS X g (.Return none pos) sRetN := PS.imp ps_retN fun D σ H ⟨Z, env, fps, s, h⟩ => h .non Z σ H fps s (.refl _) .non
/-! assignments -/
/-- x = e -/
def sSet (i : Nat) (m : EM) : SM := fun env => Out.ofRes (hold true (m env)) fun v e => match v with
  | .dat d => if i < e.length then .nx (setS i (.dat d) e) else .no
  | _ => .no
/-- x = a new thing, to be changed -/
def sOwn (i : Nat) (m : EM) : SM := fun env => Out.ofRes (m env) fun v e => match v with
  | .new t => if i < e.length then .nx (setS i (.own t) e) else .no
  | _ => .no
/-- x = another name of a thing, or of a part of it -/
def sAli (i : Nat) (m : EM) : SM := fun env => Out.ofRes (m env) fun v e => match v, e[i]? with
  | .pl j p, some .un => match e[j]? with
    | some (.own t) => if (t.get p).isSome = true ∧ i ≠ j then .nx (e.set i (.al j p)) else .no
    | _ => .no
  | _, _ => .no
def AsgOk (X : Cx) (g : Gx) (p : Bool) (i : Nat) (st : Stmt) (m : EM) : Prop := PS X st (tAsg (tE g p m) (gName i))
theorem asg_of {i : Nat} {x : Str} {e : Expr} {p : Bool} {m : EM} {px pos : Pos} (h : DE X g p e m) (hN : X.N.Nodup) (hi : X.N[i]? = some x) (hx : Loc X.env.scope x) (hf : X.fn x = true ∨ X.env.scope.names.lookup x = some .local := by first | exact .inl rfl | exact .inr rfl | assumption)
    (hs : swapsWithSole [.Name x px] e pos.line X.env = pure false := by rfl) (hw : swappedStores [.Name x px] e X.env = pure none := by rfl) (h1 : (assignEach [.Name x px] X.env).map (·.2) = [assign (.Name x px) X.env] := by rfl) : AsgOk X g p i (.Assign [.Name x px] e pos) m := ps_asg h (pg_name hN hi hx hf) hs hw h1
theorem asg_comp {i : Nat} {y : Str} {py : Pos} {own : List (Str × Nat)} {p pt pe : Bool} {tg iter elt : Expr} {ifs : List Expr} {scope : Scope} {pos spos : Pos} {mi : IM} {gm : GM} {tm : TM} {em : EM} {ts : List Nat} (hc : X.calm = true) (hN : X.N.Nodup) (hy : X.N[i]? = some y) (hyl : X.env.scope.names.lookup y = some .local)
    (hsw : swapsWith (.ListComp elt [⟨tg, iter, ifs, 0⟩] scope pos) (some (.Name y py)) spos.line X.env = pure true) (hi : DI X g p tg iter mi) (ok : BlkOk X.N X.env.scope scope own)
    (hpin : ∀ i ∈ own.map (·.2), i ∉ g.pins) (hts : ∀ i ∈ ts, i ∈ own.map (·.2))
    (hg : ∀ (n : En) (s : Shared) (H : Hp) (C : Addr) (cl : List (Str × Addr)) (fp : List Addr), DG (X.blk s H scope (compEnvC scope cl C X.env) fp) (g.blk n) ts tg gm)
    (ht : ∀ (n : En) (s : Shared) (H : Hp) (C : Addr) (cl : List (Str × Addr)) (fp : List Addr), DTs (X.blk s H scope (compEnvC scope cl C X.env) fp) (g.blk n) pt ifs tm)
    (he : ∀ (n : En) (s : Shared) (H : Hp) (C : Addr) (cl : List (Str × Addr)) (fp : List Addr), DE (X.blk s H scope (compEnvC scope cl C X.env) fp) (g.blk n) pe elt em)
    (hs : ∀ x, foldedSetIterable iter X.env x = pure x := by intro _; rfl) : AsgOk X g false i (.Assign [.Name y py] (.ListComp elt [⟨tg, iter, ifs, 0⟩] scope pos) spos) (eComp (own.map (·.2)) mi gm tm em) := by
  refine PS.imp (ps_setLc (own := own) (g := fun v σ H Q => ∃ n, tGm (g.blk n) ts gm v σ H Q) (tt := fun σ H Q => ∃ n, tT (g.blk n) pt tm σ H Q) (te := fun σ H Q => ∃ n, tE (g.blk n) pe em σ H Q) hc hN hy hyl hsw hi ok
    (fun s H C cl fp => ⟨fun pins s' σ H' v u Q I r ⟨n, q⟩ => (hg n s H C cl fp).run pins s' σ H' v u Q I r q⟩)
    (fun s H C cl fp => ⟨fun pins s' σ H' Q I ⟨n, q⟩ => (ht n s H C cl fp).run pins s' σ H' Q I q⟩)
    (fun s H C cl fp => ⟨fun pins s' σ H' Q I ⟨n, q⟩ => (he n s H C cl fp).run pins s' σ H' Q I q⟩) hs) fun D σ H h => comp_run hpin hts h
theorem ds_set {i : Nat} {p : Bool} {st : Stmt} {m : EM} (h : AsgOk X g p i st m) (hp : i ∉ g.pins) : DS X g st (sSet i m) := by
  refine PS.imp h fun D σ H ⟨Z, env, fps, s, h⟩ => ?_
  unfold sSet at h
  refine hold_run (q := true) s (fun x e1 he v Z1 H1 fps1 s1 z1 k1 r1 => ?_) (fun x e1 he => ?_) (fun he => ?_)
  · simp only [he, ofRes_ok] at h
    cases x with
    | dat d =>
      simp only at h
      split at h
      · rename_i hl
        exact h Z1 _ H1 _ (s1.store hl hp (.inl ⟨d, rfl, rfl, r1⟩) (by simp) (fun a m => by simp at m)) z1
      · exact h.elim
    | _ => exact h.elim
  · simp only [he, ofRes_ex] at h
    exact fun cls d Z' H' fps' => h cls d Z' σ H' fps'
  · simp only [he, ofRes_no] at h
    exact h
theorem ds_own {i : Nat} {p : Bool} {st : Stmt} {m : EM} (h : AsgOk X g p i st m) (hp : i ∉ g.pins) : DS X g st (sOwn i m) := by
  refine PS.imp h fun D σ H ⟨Z, env, fps, s, h⟩ => ⟨Z, env, fps, s, ?_⟩
  unfold sOwn at h
  cases e : m env with
  | no => simp only [e, ofRes_no] at h; exact h
  | ex x e1 => simp only [e, ofRes_ex] at h; exact fun cls d Z' H' fps' => h cls d Z' σ H' fps'
  | ok a e1 =>
    simp only [e, ofRes_ok] at h
    intro v Z' H' fps' s' z' _ r
    cases a with
    | new t =>
      simp only at h
      split at h
      · rename_i hl
        obtain ⟨fp, ow, nd, hf⟩ := r
        exact h Z' _ H' _ (s'.store hl hp (.inr ⟨t, rfl, ow⟩) nd (fun a m => ⟨(hf a m).1, fun j _ => (hf a m).2.1 j, (hf a m).2.2⟩)) z'
      · exact h.elim
    | _ => exact h.elim
theorem ds_ali {i : Nat} {p : Bool} {st : Stmt} {m : EM} (h : AsgOk X g p i st m) (hp : i ∉ g.pins) : DS X g st (sAli i m) := by
  refine PS.imp h fun D σ H ⟨Z, env, fps, s, h⟩ => ⟨Z, env, fps, s, ?_⟩
  unfold sAli at h
  cases e : m env with
  | no => simp only [e, ofRes_no] at h; exact h
  | ex x e1 => simp only [e, ofRes_ex] at h; exact fun cls d Z' H' fps' => h cls d Z' σ H' fps'
  | ok a e1 =>
    simp only [e, ofRes_ok] at h
    intro v Z' H' fps' s' z' _ r
    split at h
    · rename_i j pp hun
      split at h
      · rename_i t ht
        split at h
        · rename_i hg
          obtain ⟨vj, h1, h2⟩ := r
          have hil : i < e1.length := (List.getElem?_eq_some_iff.mp hun).1
          have hiσ : i < σ.length := by rw [s'.len]; exact hil
          refine h Z' (σ.set i (some v)) H' fps' ⟨by rw [List.length_set, List.length_set]; exact s'.len, s'.sub, fun k y e => ?_, fun k hk => s'.out k (by rw [List.length_set] at hk; exact hk), s'.dis, s'.nd, s'.nz, s'.e1, s'.e2, s'.e3, s'.e4, fun k hk => ?_⟩ z'
          · by_cases c : k = i
            · subst c
              rw [List.getElem?_set_self hil] at e
              cases e
              have h0 := s'.slot k _ hun
              exact ⟨h0, ⟨t, by rw [List.getElem?_set_ne hg.2]; exact ht⟩, v, vj, List.getElem?_set_self hiσ, by rw [List.getElem?_set_ne hg.2]; exact h1, h2⟩
            · rw [List.getElem?_set_ne (Ne.symm c)] at e
              have h0 := s'.slot k y e
              have hσ : (σ.set i (some v))[k]? = σ[k]? := List.getElem?_set_ne (Ne.symm c)
              cases y with
              | un => exact h0
              | dat d => obtain ⟨e1, w, q1, q2⟩ := h0; exact ⟨e1, w, by rw [hσ]; exact q1, q2⟩
              | own t2 => obtain ⟨w, q1, q2⟩ := h0; exact ⟨w, by rw [hσ]; exact q1, q2⟩
              | al j2 p2 =>
                obtain ⟨q0, ⟨t3, ht3⟩, w, vj2, q1, q2, q3⟩ := h0
                have hj2 : j2 ≠ i := fun c2 => by rw [c2, hun] at ht3; cases ht3
                exact ⟨q0, ⟨t3, by rw [List.getElem?_set_ne (Ne.symm hj2)]; exact ht3⟩, w, vj2, by rw [hσ]; exact q1, by rw [List.getElem?_set_ne (Ne.symm hj2)]; exact q2, q3⟩
          · obtain ⟨w, q1, q2⟩ := s'.pin k hk
            have c : k ≠ i := fun e => hp (e ▸ hk)
            exact ⟨w, q1, by rw [List.getElem?_set_ne (Ne.symm c)]; exact q2⟩
        · exact h.elim
      · exact h.elim
    · exact h.elim
/-- any target -/
def sAsg (m : EM) (gm : GM) : SM := fun env => Out.ofRes (hold true (m env)) fun v e => match v with
  | .dat d => match gm d e with
    | some e2 => .nx e2
    | none => .no
  | _ => .no
theorem ds_asg {tg e : Expr} {p : Bool} {m : EM} {gm : GM} {ts : List Nat} {pos : Pos} (he : DE X g p e m) (hg : DG X g ts tg gm) (hs : swapsWithSole [tg] e pos.line X.env = pure false := by rfl) (hw : swappedStores [tg] e X.env = pure none := by rfl)
    (h1 : (assignEach [tg] X.env).map (·.2) = [assign tg X.env] := by rfl) : DS X g (.Assign [tg] e pos) (sAsg m gm) := by
  refine PS.imp (ps_asg he hg hs hw h1) fun D σ H ⟨Z, env, fps, s, h⟩ => ?_
  unfold sAsg at h
  refine hold_run (q := true) s (fun x e1 he v Z1 H1 fps1 s1 z1 k1 r1 => ?_) (fun x e1 he => ?_) (fun he => ?_)
  · simp only [he, ofRes_ok] at h
    cases x with
    | dat d =>
      refine ⟨Z1, e1, fps1, d, s1, r1, ?_⟩
      simp only at h
      split at h
      · rename_i e2 hg2
        try rw [hg2]
        exact fun Z' σ' H' fps' s' z' _ _ => h Z' σ' H' fps' s' (z1.trans z')
      · exact h.elim
    | _ => exact h.elim
  · simp only [he, ofRes_ex] at h
    exact fun cls d Z' H' fps' => h cls d Z' σ H' fps'
  · simp only [he, ofRes_no] at h
    exact h
/-- a, b = e1, e2 (two local names) -/
def sPar (i j : Nat) (ma : AM) : SM := fun env => Out.ofRes (ma env) fun xs e => match xs with
  | [.dat d, .dat u] => if i < e.length ∧ j < e.length then .nx (setS j (.dat u) (setS i (.dat d) e)) else .no
  | _ => .no
theorem ds_par {i j : Nat} {x y : Str} {a b : Expr} {p : Bool} {ma : AM} {px py pt pos : Pos} {kt k2 pt2} (hc : X.calm = true) (hN : X.N.Nodup) (hi : X.N[i]? = some x) (hj : X.N[j]? = some y) (hij : i ≠ j)
    (hx : X.env.scope.names.lookup x = some .local) (hy : X.env.scope.names.lookup y = some .local) (ha : DA X g p [a, b] ma) (hpi : i ∉ g.pins) (hpj : j ∉ g.pins)
    (hw : swappedStores [.Tuple [.Name x px, .Name y py] kt pt] (.Tuple [a, b] k2 pt2) X.env = pure (some [x, y]))
    (hs : swapsWithSole [.Tuple [.Name x px, .Name y py] kt pt] (.Tuple [a, b] k2 pt2) pos.line X.env = pure false := by rfl) :
    DS X g (.Assign [.Tuple [.Name x px, .Name y py] kt pt] (.Tuple [a, b] k2 pt2) pos) (sPar i j ma) := by
  refine PS.imp (ps_par hc hN hi hj hij hx hy ha hw hs) fun D σ H ⟨Z, env, fps, s, h⟩ => ⟨Z, env, fps, s, ?_⟩
  unfold sPar at h
  cases e : ma env with
  | no => simp only [e, ofRes_no] at h; exact h
  | ex x e1 => simp only [e, ofRes_ex] at h; exact fun cls d Z' H' fps' => h cls d Z' σ H' fps'
  | ok xs e1 =>
    simp only [e, ofRes_ok] at h
    intro vs Z1 H1 fps1 s1 z1 _ r
    split at h
    · split at h
      · rename_i hl
        cases r with
        | cons r1 r =>
          cases r with
          | cons r2 r =>
            cases r
            have s2 := s1.store (i := i) hl.1 hpi (.inl ⟨_, rfl, rfl, r1⟩) (by simp) (fun a m => by simp at m)
            have s3 := s2.store (i := j) (by rw [setS_length]; exact hl.2) hpj (.inl ⟨_, rfl, rfl, r2⟩) (by simp) (fun a m => by simp at m)
            exact ⟨_, _, rfl, h Z1 _ H1 _ s3 z1⟩
      · exact h.elim
    · exact h.elim
def sPar3 (i j l : Nat) (ma : AM) : SM := fun env => Out.ofRes (ma env) fun xs e => match xs with
  | [.dat d, .dat u, .dat w] => if i < e.length ∧ j < e.length ∧ l < e.length then .nx (setS l (.dat w) (setS j (.dat u) (setS i (.dat d) e))) else .no
  | _ => .no
theorem ds_par3 {i j l : Nat} {x y z : Str} {a b c : Expr} {p : Bool} {ma : AM} {px py pz pt pos : Pos} {kt k2 pt2} (hc : X.calm = true) (hN : X.N.Nodup) (hi : X.N[i]? = some x) (hj : X.N[j]? = some y) (hl : X.N[l]? = some z) (hij : i ≠ j) (hil : i ≠ l) (hjl : j ≠ l)
    (hx : X.env.scope.names.lookup x = some .local) (hy : X.env.scope.names.lookup y = some .local) (hz : X.env.scope.names.lookup z = some .local) (ha : DA X g p [a, b, c] ma) (hpi : i ∉ g.pins) (hpj : j ∉ g.pins) (hpl : l ∉ g.pins)
    (hw : swappedStores [.Tuple [.Name x px, .Name y py, .Name z pz] kt pt] (.Tuple [a, b, c] k2 pt2) X.env = pure (some [x, y, z]))
    (hs : swapsWithSole [.Tuple [.Name x px, .Name y py, .Name z pz] kt pt] (.Tuple [a, b, c] k2 pt2) pos.line X.env = pure false := by rfl) :
    DS X g (.Assign [.Tuple [.Name x px, .Name y py, .Name z pz] kt pt] (.Tuple [a, b, c] k2 pt2) pos) (sPar3 i j l ma) := by
  refine PS.imp (ps_par3 hc hN hi hj hl hij hil hjl hx hy hz ha hw hs) fun D σ H ⟨Z, env, fps, s, h⟩ => ⟨Z, env, fps, s, ?_⟩
  unfold sPar3 at h
  cases e : ma env with
  | no => simp only [e, ofRes_no] at h; exact h
  | ex x e1 => simp only [e, ofRes_ex] at h; exact fun cls d Z' H' fps' => h cls d Z' σ H' fps'
  | ok xs e1 =>
    simp only [e, ofRes_ok] at h
    intro vs Z1 H1 fps1 s1 z1 _ r
    split at h
    · split at h
      · rename_i hl
        cases r with
        | cons r1 r =>
          cases r with
          | cons r2 r =>
            cases r with
            | cons r3 r =>
              cases r
              have s2 := s1.store (i := i) hl.1 hpi (.inl ⟨_, rfl, rfl, r1⟩) (by simp) (fun a m => by simp at m)
              have s3 := s2.store (i := j) (by rw [setS_length]; exact hl.2.1) hpj (.inl ⟨_, rfl, rfl, r2⟩) (by simp) (fun a m => by simp at m)
              have s4 := s3.store (i := l) (by rw [setS_length, setS_length]; exact hl.2.2) hpl (.inl ⟨_, rfl, rfl, r3⟩) (by simp) (fun a m => by simp at m)
              exact ⟨_, _, _, rfl, h Z1 _ H1 _ s4 z1⟩
      · exact h.elim
    · exact h.elim
end
end DL
namespace DL
open PySem PySem.Spec PyProof.Rows L2
/-! ### loops -/
def forL (gm : GM) (body : SM) : List D → Ve → Out
  | [], e => .nx e
  | d :: ds, e => match gm d e with
    | none => .no
    | some e1 => match body e1 with
      | .nx e2 => forL gm body ds e2
      | .ct e2 => forL gm body ds e2
      | .bk e2 => .nx e2
      | .rt r e2 => .rt r e2
      | .ex x e2 => .ex x e2
      | .no => .no
def sFor (im : IM) (gm : GM) (body : SM) : SM := fun env => Out.ofRes (im env) fun ds e => forL gm body ds e
def whileF (tm : TM) (body : SM) : Nat → Ve → Out
  | 0, _ => .no
  | n + 1, e => match tm e with
    | .no => .no
    | .ex x e1 => .ex x e1
    | .ok false e1 => .nx e1
    | .ok true e1 => match body e1 with
      | .nx e2 => whileF tm body n e2
      | .ct e2 => whileF tm body n e2
      | .bk e2 => .nx e2
      | .rt r e2 => .rt r e2
      | .ex x e2 => .ex x e2
      | .no => .no
def sWhile (fuel : Nat) (tm : TM) (body : SM) : SM := whileF tm body fuel
section
variable {X : Cx} {g : Gx}
theorem ds_for {tg iter : Expr} {body : List Stmt} {p : Bool} {im : IM} {gm : GM} {mb : SM} {ts : List Nat} {pos : Pos} (hp : PassesOwn (model X.prog X.w) X.A X.env X.xe) (hc : X.calm = true) (hi : DI X g p tg iter im) (hg : DG X g ts tg gm) (hb : DSs X g body mb)
    (hs : ∀ x, foldedSetIterable iter X.env x = pure x := by intro _; rfl) : DS X g (.For tg iter body [] pos) (sFor im gm mb) := by
  refine PS.imp (ps_for hp hc hi hg hb hs) fun D σ H ⟨Z, env, fps, s, h⟩ => ⟨Z, env, fps, s, ?_⟩
  unfold sFor at h
  cases e : im env with
  | no => simp only [e, ofRes_no] at h; exact h
  | ex x e1 => simp only [e, ofRes_ex] at h; exact fun cls d Z' H' fps' => h cls d Z' σ H' fps'
  | ok ds e1 =>
    simp only [e, ofRes_ok] at h
    intro J Z1 H1 fps1 s1 z1 _ it
    let W : Nat → Nat → L2.St → Hp → Prop := fun i m σ H => m = ds.length - i ∧ i ≤ ds.length ∧ ∃ Z2 e2 fps2, StR g Z2 e2 σ H fps2 ∧ Same Z1 Z2 ∧ PostS g Z2 D (forL gm mb (ds.drop i) e2)
    refine ⟨W, ⟨ds.length, by omega, Nat.zero_le _, Z1, e1, fps1, s1, .refl _, by simpa using h.mono z1⟩, ?_⟩
    rintro i m σ2 H2 ⟨rfl, hi2, Z2, e2, fps2, s2, z2, po⟩
    by_cases hlt : i < ds.length
    · right
      have hd : ds[i]? = some ds[i] := List.getElem?_eq_getElem hlt
      obtain ⟨go, yl⟩ := it.go i _ hd Z2 H2 z2 s2.sub
      refine ⟨go, fun σ' H' => ∃ m', m' < ds.length - i ∧ W (i + 1) m' σ' H', fun σ' H' x => x, fun x H3 hy => ?_⟩
      obtain ⟨Z3, fr, rx⟩ := yl x H3 hy
      have s3 := s2.fresh fr
      rw [show ds.drop i = ds[i] :: ds.drop (i + 1) from (List.drop_eq_getElem_cons hlt)] at po
      simp only [forL] at po
      refine ⟨Z3, e2, fps2, ds[i], s3, rx, ?_⟩
      split at po
      · exact po.elim
      rename_i e4 hgm
      rw [hgm]
      intro Z4 σ4 H4 fps4 s4 z4 _ _
      refine ⟨Z4, e4, fps4, s4, ?_⟩
      have zz : Same Z2 Z4 := fr.z.trans z4
      cases eb : mb e4 with
      | no => rw [eb] at po; exact po
      | nx e5 =>
        rw [eb] at po
        exact fun Z5 σ5 H5 fps5 s5 z5 => ⟨ds.length - (i + 1), by omega, rfl, hlt, Z5, e5, fps5, s5, (z2.trans zz).trans z5, po.mono (zz.trans z5)⟩
      | ct e5 =>
        rw [eb] at po
        exact fun Z5 σ5 H5 fps5 s5 z5 => ⟨ds.length - (i + 1), by omega, rfl, hlt, Z5, e5, fps5, s5, (z2.trans zz).trans z5, po.mono (zz.trans z5)⟩
      | bk e5 => rw [eb] at po; exact fun Z5 σ5 H5 fps5 s5 z5 => po Z5 σ5 H5 fps5 s5 (zz.trans z5)
      | rt r e5 => rw [eb] at po; exact fun v Z5 σ5 H5 fps5 s5 z5 => po v Z5 σ5 H5 fps5 s5 (zz.trans z5)
      | ex x e5 => rw [eb] at po; exact fun cls d Z5 σ5 H5 fps5 s5 z5 => po cls d Z5 σ5 H5 fps5 s5 (zz.trans z5)
    · left
      have hi3 : i = ds.length := by omega
      subst hi3
      rw [List.drop_length] at po
      exact ⟨it.stop Z2 H2 z2 s2.sub, po Z2 σ2 H2 fps2 s2 (.refl _)⟩
theorem ds_while {c : Expr} {body : List Stmt} {p : Bool} {tm : TM} {mb : SM} {pos : Pos} (fuel : Nat) (hp : PassesOwn (model X.prog X.w) X.A X.env X.xe) (hc : DT X g p c tm) (hb : DSs X g body mb) : DS X g (.While c body [] pos) (sWhile fuel tm mb) := by
  refine PS.imp (ps_while hp hc hb) fun D σ H ⟨Z, env, fps, s, h⟩ => ?_
  refine ⟨fun m σ H => ∃ Z2 e2 fps2, StR g Z2 e2 σ H fps2 ∧ PostS g Z2 D (whileF tm mb m e2), ⟨fuel, Z, env, fps, s, h⟩, ?_⟩
  rintro m σ2 H2 ⟨Z2, e2, fps2, s2, po⟩
  refine ⟨Z2, e2, fps2, s2, ?_⟩
  cases m with
  | zero => exact po.elim
  | succ m =>
    simp only [whileF] at po
    cases et : tm e2 with
    | no => rw [et] at po; exact po
    | ex x e3 => rw [et] at po; exact fun cls d Z' H' fps' => po cls d Z' σ2 H' fps'
    | ok b e3 =>
      rw [et] at po
      intro b' Z3 H3 fps3 s3 z3 _ rb
      subst rb
      cases b' with
      | false =>
        rw [if_neg Bool.false_ne_true]
        exact po Z3 σ2 H3 fps3 s3 z3
      | true =>
        simp only at po
        rw [if_pos rfl]
        refine ⟨fun σ' H' => ∃ m', m' < m + 1 ∧ ∃ Z2 e2 fps2, StR g Z2 e2 σ' H' fps2 ∧ PostS g Z2 D (whileF tm mb m' e2), fun σ' H' x => x, Z3, e3, fps3, s3, ?_⟩
        cases eb : mb e3 with
        | no => rw [eb] at po; exact po
        | nx e5 => rw [eb] at po; exact fun Z5 σ5 H5 fps5 s5 z5 => ⟨m, Nat.lt_succ_self _, Z5, e5, fps5, s5, po.mono (z3.trans z5)⟩
        | ct e5 => rw [eb] at po; exact fun Z5 σ5 H5 fps5 s5 z5 => ⟨m, Nat.lt_succ_self _, Z5, e5, fps5, s5, po.mono (z3.trans z5)⟩
        | bk e5 => rw [eb] at po; exact fun Z5 σ5 H5 fps5 s5 z5 => po Z5 σ5 H5 fps5 s5 (z3.trans z5)
        | rt r e5 => rw [eb] at po; exact fun v Z5 σ5 H5 fps5 s5 z5 => po v Z5 σ5 H5 fps5 s5 (z3.trans z5)
        | ex x e5 => rw [eb] at po; exact fun cls d Z5 σ5 H5 fps5 s5 z5 => po cls d Z5 σ5 H5 fps5 s5 (z3.trans z5)
end
/-! ### a list changed in place -/
def getP (env : Ve) (j : Nat) (p : List Str) : Option O := match env[j]? with
  | some (.own t) => t.get p
  | _ => none
def putP (j : Nat) (p : List Str) (x : O) (env : Ve) : Ve := match env[j]? with
  | some (.own t) => env.set j (.own (t.set p x))
  | _ => env
section
variable {mg : Str → Option Value} {Z H : Hp}
theorem OwnF.upd : ∀ {vs : List (Str × V)} {fs : List (Str × O)} {fp : List Addr} {f : Str} {u : O}, OwnF mg Z H vs fs fp → O.get.getF fs f = some u →
    ∃ v f', vs.lookup f = some v ∧ Own mg Z H v u f' ∧ (∀ a ∈ f', a ∈ fp) ∧ (fp.Nodup → f'.Nodup ∧ ∀ H' u', (∀ b, b ∉ f' → H' b = H b) → Own mg Z H' v u' f' → OwnF mg Z H' vs (setF f u' fs) fp)
  | _, _, _, f, u, .nil, e => by simp [O.get.getF] at e
  | _, _, _, f, u, .cons (x := x) (v := v) (t := t) (f := f1) (vs := vs) (ts := ts) (g := g1) h r, e => by
    unfold O.get.getF at e
    by_cases c : f = x
    · subst c
      rw [if_pos rfl] at e
      cases e
      refine ⟨v, f1, by simp [List.lookup], h, fun a m => List.mem_append_left _ m, fun nd => ?_⟩
      obtain ⟨n1, n2, n3⟩ := List.nodup_append.mp nd
      refine ⟨n1, fun H' u' k ow => ?_⟩
      unfold setF
      rw [if_pos rfl]
      exact .cons ow (r.keep (.refl _) fun b hb => k b fun m => n3 b m b hb rfl)
    · rw [if_neg c] at e
      obtain ⟨w, f', h1, h2, h3, h4⟩ := OwnF.upd r e
      refine ⟨w, f', ?_, h2, fun a m => List.mem_append_right _ (h3 a m), fun nd => ?_⟩
      · have : (f == x) = false := by simpa using c
        simp [List.lookup, this, h1]
      · obtain ⟨n1, n2, n3⟩ := List.nodup_append.mp nd
        obtain ⟨h5, h6⟩ := h4 n2
        refine ⟨h5, fun H' u' k ow => ?_⟩
        unfold setF
        rw [if_neg c]
        exact .cons (h.keep (.refl _) fun b hb => k b fun m => n3 b hb b (h3 b m) rfl) (h6 H' u' k ow)
theorem Owns.upd : ∀ {vs : List V} {ts : List O} {fp : List Addr} {i : Nat} {u : O}, Owns mg Z H vs ts fp → ts[i]? = some u →
    ∃ v f', vs[i]? = some v ∧ Own mg Z H v u f' ∧ (∀ a ∈ f', a ∈ fp) ∧ (fp.Nodup → f'.Nodup ∧ ∀ H' u', (∀ b, b ∉ f' → H' b = H b) → Own mg Z H' v u' f' → Owns mg Z H' vs (ts.set i u') fp)
  | _, _, _, i, u, .nil, e => by simp at e
  | _, _, _, 0, u, .cons (v := v) (t := t) (f := f1) (vs := vs) (ts := ts) (g := g1) h r, e => by
    simp at e
    subst e
    refine ⟨v, f1, rfl, h, fun a m => List.mem_append_left _ m, fun nd => ?_⟩
    obtain ⟨n1, n2, n3⟩ := List.nodup_append.mp nd
    refine ⟨n1, fun H' u' k ow => ?_⟩
    exact .cons ow (r.keep (.refl _) fun b hb => k b fun m => n3 b m b hb rfl)
  | _, _, _, i + 1, u, .cons (v := v) (t := t) (f := f1) (vs := vs) (ts := ts) (g := g1) h r, e => by
    obtain ⟨w, f', h1, h2, h3, h4⟩ := Owns.upd (i := i) r (by simpa using e)
    refine ⟨w, f', by simpa using h1, h2, fun a m => List.mem_append_right _ (h3 a m), fun nd => ?_⟩
    obtain ⟨n1, n2, n3⟩ := List.nodup_append.mp nd
    obtain ⟨h5, h6⟩ := h4 n2
    refine ⟨h5, fun H' u' k ow => ?_⟩
    exact .cons (h.keep (.refl _) fun b hb => k b fun m => n3 b hb b (h3 b m) rfl) (h6 H' u' k ow)
theorem Own.upd : ∀ {p : List Str} {v : V} {t : O} {fp : List Addr} {xs : List D}, Own mg Z H v t fp → fp.Nodup → t.get p = some (.lst xs) →
    ∃ a vs, walk H v p = some (.ref a) ∧ H a = some (.lst vs) ∧ RDs Z vs xs ∧ a ∈ fp ∧ ∀ ws ys, RDs Z ws ys → Own mg Z (L2.upd H a (.lst ws)) v (t.set p (.lst ys)) fp
  | [], v, t, fp, xs, ow, nd, e => by
    simp [O.get] at e
    subst e
    cases ow with
    | lst h r => exact ⟨_, _, by simp [walk], h, r, by simp, fun ws ys r' => .lst upd_same r'⟩
  | f :: p, v, t, fp, xs, ow, nd, e => by
    cases ow with
    | dat _ => simp [O.get] at e
    | lst _ _ => simp [O.get] at e
    | mls _ _ => simp [O.get] at e
    | exn _ _ _ _ _ => simp [O.get] at e
    | mtp h r =>
      rename_i a vs0 ts fp1
      unfold O.get at e
      cases q : ts[ixF f]? with
      | none => rw [q] at e; cases e
      | some u =>
        rw [q] at e
        obtain ⟨n1, n2⟩ := List.nodup_cons.mp nd
        obtain ⟨w, f', h1, h2, h3, h4⟩ := r.upd q
        obtain ⟨h5, h6⟩ := h4 n2
        obtain ⟨b, vs, k1, k2, k3, k4, k5⟩ := Own.upd (p := p) h2 h5 e
        refine ⟨b, vs, ?_, k2, k3, List.mem_cons_of_mem _ (h3 _ k4), fun ws ys r' => ?_⟩
        · unfold walk
          rw [h]
          show (vs0[ixF f]?).bind _ = _
          rw [h1]
          exact k1
        · have hne : a ≠ b := fun c => n1 (c ▸ h3 _ k4)
          unfold O.set
          rw [q]
          refine .mtp (by rw [upd_ne hne]; exact h) (h6 _ _ (fun b' hb' => upd_ne fun c => hb' (c ▸ k4)) (k5 ws ys r'))
    | ins h hm r =>
      rename_i a C dx c vfs fs fp1
      unfold O.get at e
      cases q : O.get.getF fs f with
      | none => rw [q] at e; cases e
      | some u =>
        rw [q] at e
        obtain ⟨n1, n2⟩ := List.nodup_cons.mp nd
        obtain ⟨w, f', h1, h2, h3, h4⟩ := r.upd q
        obtain ⟨h5, h6⟩ := h4 n2
        obtain ⟨b, vs, k1, k2, k3, k4, k5⟩ := Own.upd (p := p) h2 h5 e
        refine ⟨b, vs, ?_, k2, k3, List.mem_cons_of_mem _ (h3 _ k4), fun ws ys r' => ?_⟩
        · unfold walk
          rw [h]
          show (vfs.lookup f).bind _ = _
          rw [h1]
          exact k1
        · have hne : a ≠ b := fun c => n1 (c ▸ h3 _ k4)
          unfold O.set
          rw [q]
          refine .ins (by rw [upd_ne hne]; exact h) hm (h6 _ _ (fun b' hb' => upd_ne fun c => hb' (c ▸ k4)) (k5 ws ys r'))
end
section
variable {g : Gx} {Z H : Hp} {env : Ve} {σ : L2.St} {fps : Nat → List Addr}
theorem StR.update (s : StR g Z env σ H fps) {j : Nat} {p : List Str} {xs : List D} (hp : getP env j p = some (.lst xs)) {v vj : V} (hσ : σ[j]? = some (some vj)) (hw : walk H vj p = some v) :
    ∃ a vs, v = .ref a ∧ H a = some (.lst vs) ∧ RDs Z vs xs ∧ ∀ ws ys, RDs Z ws ys → StR g Z (putP j p (.lst ys) env) σ (upd H a (.lst ws)) fps := by
  unfold getP at hp
  split at hp
  case h_2 => cases hp
  rename_i t ht
  obtain ⟨v0, h1, ow⟩ := s.slot j _ ht
  rw [hσ] at h1
  cases h1
  obtain ⟨a, vs, k1, k2, k3, k4, k5⟩ := ow.upd (s.nd j) hp
  rw [hw] at k1
  cases k1
  have hjl : j < env.length := (List.getElem?_eq_some_iff.mp ht).1
  have hZ : Z a = none := s.nz j a k4
  have hE := s.e4 j a k4
  refine ⟨a, vs, rfl, k2, k3, fun ws ys r => ?_⟩
  have hput : putP j p (.lst ys) env = env.set j (.own (t.set p (.lst ys))) := by unfold putP; rw [ht]
  rw [hput]
  refine ⟨by rw [List.length_set]; exact s.len, fun b o e => ?_, fun i x e => ?_, fun i hi => s.out i (by rw [List.length_set] at hi; exact hi), s.dis, s.nd, s.nz, s.e1, fun b o e k => ?_, s.e3, s.e4, s.pin⟩
  · have hne : b ≠ a := fun c => by rw [c, hZ] at e; cases e
    rw [upd_ne hne]; exact s.sub b o e
  · by_cases c : i = j
    · subst c
      rw [List.getElem?_set_self hjl] at e
      cases e
      exact ⟨_, hσ, k5 ws ys r⟩
    · rw [List.getElem?_set_ne (Ne.symm c)] at e
      have q := (s.slot i x e).keep (.refl Z) (H' := upd H a (.lst ws)) (fun b m => upd_ne fun cc => c (s.dis i j a (cc ▸ m) k4)) fun v p u => walk_upd k2
      cases x with
      | un => exact q
      | dat d => exact q
      | own t2 => exact q
      | al j2 p2 =>
        obtain ⟨q0, ⟨t3, ht3⟩, q1⟩ := q
        refine ⟨q0, ?_, q1⟩
        by_cases c2 : j2 = j
        · subst c2; exact ⟨_, List.getElem?_set_self hjl⟩
        · exact ⟨t3, by rw [List.getElem?_set_ne (Ne.symm c2)]; exact ht3⟩
  · have hne : b ≠ a := fun c => by
      subst c
      rcases hE with h | h
      · exact k h
      · rw [h] at e; cases e
    rw [upd_ne hne]; exact s.e2 b o e k
end
section
variable {X : Cx} {g : Gx}
/-- o[i] as a target -/
def gSb (q : Bool) (mo mi : EM) : GM := fun d env => match hold q (mo env) with
  | .ok (.pl j p) e1 => match hold true (mi e1) with
    | .ok (.dat (.int k)) e2 => match getP e2 j p with
      | some (.lst xs) => match ixN xs.length k with
        | some t => some (putP j p (.lst (xs.set t d)) e2)
        | none => none
      | _ => none
    | _ => none
  | _ => none
theorem dg_sub {po q : Bool} {o i : Expr} {mo mi : EM} {pos : Pos} (ho : DE X g po o mo) (hi : DE X g q i mi)
    (ha : ∀ v, assign (.Subscript o i pos) X.env v = (do
      let ov ← holding [v] (eval o X.env)
      let iv ← holding [v, ov] (eval i X.env)
      standAt pos
      holding [v, ov, iv] (setItem ov iv v)
      release [v, ov, iv] []) := by intro _; rfl) : DG X g [] (.Subscript o i pos) (gSb q mo mi) := by
  refine PG.imp (pg_sub ho hi set_list ha) fun v σ H Q ⟨Z, env, fps, d, s, r, h⟩ => ?_
  refine hold_run (q := q) s (fun x e1 he vo Z1 H1 fps1 s1 z1 k1 r1 => ?_) (fun x e1 he => ?_) (fun he => ?_)
  · simp only [gSb, he] at h
    cases x with
    | pl j p =>
      refine hold_run (q := true) s1 (fun y e2 he2 vi Z2 H2 fps2 s2 z2 k2 r2 => ?_) (fun y e2 he2 => ?_) (fun he2 => ?_)
      · simp only [he2] at h
        cases y with
        | dat dy =>
          cases dy with
          | int k =>
            simp only at h
            have r1' := r1.later z2 fun hq => (k2 hq).2.2
            obtain ⟨_, vj, hσ, hw⟩ := r1'
            split at h
            · rename_i e3 hm
              split at hm
              · rename_i xs hg
                split at hm
                · rename_i t ht
                  cases hm
                  cases r2
                  obtain ⟨a, vs, e1, h1, h2, h3⟩ := s2.update hg hσ hw
                  subst e1
                  have rd := (r.mono z1).mono z2
                  exact ⟨a, vs, k, t, rfl, rfl, h1, by rw [h2.length]; exact ht, h Z2 σ _ fps2 (h3 _ _ (h2.set rd t)) (z1.trans z2) rfl fun _ _ => rfl⟩
                · cases hm
              · cases hm
            · exact h.elim
          | _ => exact h.elim
        | _ => exact h.elim
      · simp only [he2] at h
      · simp only [he2] at h
    | _ => exact h.elim
  · simp only [gSb, he] at h
  · simp only [gSb, he] at h
/-! methods that change a list -/
def MethOk (X : Cx) (id : String) (op : List D → List D → Option (D × List D)) : Prop :=
  ∃ r, MtR X id r ∧ ∀ Z H a vs xs us ds d ys Q, Same Z H → H a = some (.lst vs) → RDs Z vs xs → RDs Z us ds → op xs ds = some (d, ys) → (∀ w ws, RD Z w d → RDs Z ws ys → Q w (upd H a (.lst ws))) → r (.ref a) us H Q
def eMeth (q : Bool) (op : List D → List D → Option (D × List D)) (mo : EM) (ma : AM) : EM := fun env => (hold q (mo env)).bind fun x e1 => match x with
  | .pl j p => match getP e1 j p with
    | some (.lst _) => (ma e1).bind fun us e2 => match getP e2 j p, dats us with
      | some (.lst xs), some ds => match op xs ds with
        | some (d, ys) => .ok (.dat d) (putP j p (.lst ys) e2)
        | none => .no
      | _, _ => .no
    | _ => .no
  | _ => .no
theorem meth_run {po q : Bool} {op : List D → List D → Option (D × List D)} {mo : EM} {ma : AM} {r : V → List V → Hp → VK → Prop}
    (hr : ∀ Z H a vs xs us ds d ys Q, Same Z H → H a = some (.lst vs) → RDs Z vs xs → RDs Z us ds → op xs ds = some (d, ys) → (∀ w ws, RD Z w d → RDs Z ws ys → Q w (upd H a (.lst ws))) → r (.ref a) us H Q)
    {σ : L2.St} {H : Hp} {Q : VK} (h : tE g false (eMeth q op mo ma) σ H Q) : tE g po mo σ H fun x H1 => (∃ a vs, x = .ref a ∧ H1 a = some (.lst vs)) ∧ tA g q ma σ H1 fun xs H2 => r x xs H2 Q := by
  obtain ⟨Z, env, fps, s, h⟩ := h
  refine hold_run (q := q) s (fun x e1 he vo Z1 H1 fps1 s1 z1 k1 r1 => ?_) (fun x e1 he => ?_) (fun he => ?_)
  · simp only [eMeth, he, Res.bind_ok] at h
    cases x with
    | dat d => exact h.elim
    | new d => exact h.elim
    | pl j p =>
      simp only at h
      obtain ⟨hq0, vj, hσ, hw⟩ := r1
      split at h
      case h_2 => exact h.elim
      rename_i xs0 hg
      obtain ⟨a, vs, ea, h1, h2, _⟩ := s1.update hg hσ hw
      subst ea
      refine ⟨⟨a, vs, rfl, h1⟩, Z1, e1, fps1, s1, ?_⟩
      cases e2 : ma e1 with
      | no => simp [e2] at h
      | ex x2 e3 =>
        rw [e2] at h
        exact fun cls d Z2 H2 fps2 s2 z2 xr => h cls d Z2 H2 fps2 s2 (z1.trans z2) xr
      | ok us e3 =>
        simp only [e2, Res.bind_ok] at h
        intro ws Z2 H2 fps2 s2 z2 k2 r2
        have hw2 : walk H2 vj p = some (.ref a) := by
          rcases hq0 with e | e
          · subst e; exact hw
          · exact walk_mono (k2 e).2.2 hw
        split at h
        · rename_i xs ds hg2 hps
          split at h
          · rename_i d ys ho
            obtain ⟨a', vs', ea, h3, h4, h5⟩ := s2.update hg2 hσ hw2
            cases ea
            exact hr Z2 H2 a vs' xs ws ds d ys Q s2.sub h3 h4 (dats_ok r2 hps) ho fun w ws' rw rws => h w Z2 _ fps2 (h5 ws' ys rws) (z1.trans z2) (fun e => by cases e) rw
          · exact h.elim
        · exact h.elim
  · simp only [eMeth, he, Res.bind_ex] at h
    exact h
  · simp only [eMeth, he, Res.bind_no, Post_no] at h
theorem de_meth {name : Str} {id : String} {po q : Bool} {op : List D → List D → Option (D × List D)} {o e : Expr} {es : List Expr} {mo : EM} {ma : AM} {apos cpos : Pos} (pa : PlainAttrs "list") (slot : Slot "list" name id) (hty : typeOf (.builtin id) = pure (.type "method_descriptor")) (hm : MethOk X id op)
    (ho : DE X g po o mo) (ha : DA X g q (e :: es) ma) (hbase : attributeBase o name X.env (eval o X.env) = eval o X.env := by rfl)
    (hfew : ((backTo cpos (starEach (e :: es) X.env)).all (fun x => !x.1) && (backToKw cpos (keywordEach [] X.env)).all (fun x => x.1.isSome)
      && decide ((e :: es).length + ([] : List Keyword).length + (if ([] : List Keyword).isEmpty then 0 else 1) < 30)) = true := by rfl)
    (hline : (apos.endLine == cpos.line) = true := by rfl) (hs : starEach (e :: es) X.env = (false, eval e X.env) :: starEach es X.env := by rfl) (hplain : (backTo cpos (starEach es X.env)).any (·.1) = false := by rfl) :
    DE X g false (.Call (.Attribute o name apos) (e :: es) [] cpos) (eMeth q op mo ma) := by
  obtain ⟨r, h1, h2⟩ := hm
  refine PE.imp (pe_bm pa slot hty h1 ho ha hbase hfew hline hs hplain) fun σ H Q h => ?_
  refine tR_mono (meth_run (po := po) h2 h) fun x H1 ⟨⟨a, vs, ea, hv⟩, q1⟩ => ⟨?_, q1⟩
  subst ea
  exact .inl ⟨rfl, vs, .inl (.inl hv)⟩
theorem de_meth0 {name : Str} {id : String} {po : Bool} {op : List D → List D → Option (D × List D)} {o : Expr} {mo : EM} {apos cpos : Pos} (pa : PlainAttrs "list") (slot : Slot "list" name id) (hty : typeOf (.builtin id) = pure (.type "method_descriptor")) (hm : MethOk X id op) (ho : DE X g po o mo)
    (hbase : attributeBase o name X.env (eval o X.env) = eval o X.env := by rfl) (hline : (apos.endLine == cpos.line) = true := by rfl) :
    DE X g false (.Call (.Attribute o name apos) [] [] cpos) (eMeth true op mo aNil) := by
  obtain ⟨r, h1, h2⟩ := hm
  refine PE.imp (pe_bm0 pa slot hty h1 ho hbase hline) fun σ H Q h => ?_
  refine tR_mono (meth_run (po := po) h2 h) fun x H1 ⟨⟨a, vs, ea, hv⟩, Z, env, fps, s, q1⟩ => ⟨?_, q1 [] Z H1 fps s (.refl _) (fun _ => ⟨rfl, rfl, .refl _⟩) .nil⟩
  subst ea
  exact .inl ⟨rfl, vs, .inl (.inl hv)⟩
def appendD : List D → List D → Option (D × List D)
  | xs, [d] => if xs.length < lim then some (.non, xs ++ [d]) else none
  | _, _ => none
theorem RDs.one {Z : Hp} {vs : List V} {d : D} (h : RDs Z vs [d]) : ∃ v, vs = [v] ∧ RD Z v d := by
  cases h with
  | cons h r => cases r; exact ⟨_, rfl, h⟩
theorem lt_lim {n : Nat} (h : n < lim) : n < sizeLine := by rw [sizeLine_eq]; exact h
theorem ok_append : MethOk X "list.append" appendD := by
  refine ⟨_, mt_append, fun Z H a vs xs us ds d ys Q s hH rv ru h q => ?_⟩
  unfold appendD at h
  split at h
  · split at h
    · rename_i hl
      cases h
      obtain ⟨v, rfl, rv2⟩ := ru.one
      exact ⟨a, vs, v, rfl, rfl, hH, lt_lim (by rw [rv.length]; exact hl), q _ _ .non (rv.append (.cons rv2 .nil))⟩
    · cases h
  · cases h
def extendD : List D → List D → Option (D × List D)
  | xs, [.lst zs] => if xs.length + zs.length ≤ lim then some (.non, xs ++ zs) else none
  | _, _ => none
theorem ok_extend : MethOk X "list.extend" extendD := by
  refine ⟨_, mt_extend, fun Z H a vs xs us ds d ys Q s hH rv ru h q => ?_⟩
  unfold extendD at h
  split at h
  · split at h
    · rename_i hl
      cases h
      obtain ⟨v, rfl, rv2⟩ := ru.one
      cases rv2 with
      | lst h1 r1 => exact ⟨a, _, vs, _, rfl, rfl, hH, s _ _ h1, lim_eq (by rw [rv.length, r1.length]; exact hl), q _ _ .non (rv.append r1)⟩
    · cases h
  · cases h
def popD : List D → List D → Option (D × List D)
  | xs, [] => (xs[xs.length - 1]?).map fun d => (d, xs.dropLast)
  | _, _ => none
theorem RDs.dropLast {Z : Hp} {vs : List V} {ds : List D} (h : RDs Z vs ds) : RDs Z vs.dropLast ds.dropLast := by
  rw [List.dropLast_eq_take, List.dropLast_eq_take, h.length]
  exact h.take _
theorem ok_pop : MethOk X "list.pop" popD := by
  refine ⟨_, mt_pop, fun Z H a vs xs us ds d ys Q s hH rv ru h q => ?_⟩
  unfold popD at h
  split at h
  · simp only [Option.map_eq_some_iff] at h
    obtain ⟨d', h1, h2⟩ := h
    cases h2
    cases ru
    obtain ⟨v, h3, h4⟩ := rv.getd h1
    exact ⟨a, vs, v, rfl, rfl, hH, by rw [rv.length]; exact h3, q _ _ h4 rv.dropLast⟩
  · cases h
def reverseD : List D → List D → Option (D × List D)
  | xs, [] => some (.non, xs.reverse)
  | _, _ => none
theorem ok_reverse : MethOk X "list.reverse" reverseD := by
  refine ⟨_, mt_reverse, fun Z H a vs xs us ds d ys Q s hH rv ru h q => ?_⟩
  unfold reverseD at h
  split at h
  · cases h
    cases ru
    exact ⟨a, vs, rfl, rfl, hH, q _ _ .non rv.reverse⟩
  · cases h
end
/-! ### defs -/
inductive FRes where
  | ok (r : Ev) (bs : List O) | ex (x : Exn) (bs : List O) | no
abbrev FM := List S → FRes
def isOwn : S → Bool
  | .own _ => true
  | _ => false
/-- the slots behind a call: the owned ones as they are now -/
def aft : List S → List O → List S
  | .own _ :: r, b :: bs => .own b :: aft r bs
  | .dat d :: r, bs => .dat d :: aft r bs
  | _ :: r, bs => .un :: aft r bs
  | [], _ => []
/-- what the owned parameters hold at the end -/
def backs : List S → Ve → Option (List O)
  | .own _ :: r, .own t :: e => (backs r e).map (t :: ·)
  | .own _ :: _, _ => none
  | _ :: r, _ :: e => backs r e
  | _ :: _, [] => none
  | [], _ => some []
def gF (mg : Str → Option Value) (Z H : Hp) (F : List Addr) (vs : List V) : Gx := ⟨mg, [], ⟨Z, H, F, vs⟩, fun _ _ _ _ => False⟩
def PostF (mg : Str → Option Value) (Z H : Hp) (F : List Addr) (vs : List V) (as : List S) (Q : VK) (E : XK) : FRes → Prop
  | .ok r bs => ∀ v Z' H' fps', StR (gF mg Z H F vs) Z' (aft as bs) (vs.map some) H' fps' → EvR (gF mg Z H F vs) Z' H' (vs.map some) fps' v r → Q v H'
  | .ex x bs => ∀ cls d Z' H' fps', StR (gF mg Z H F vs) Z' (aft as bs) (vs.map some) H' fps' → XR mg Z' H' cls d x → E cls d H'
  | .no => False
/-- the promise: it does what its mirror does -/
def spF (mg : Str → Option Value) (np : Nat) (fm : FM) : Sp := fun vs H Q E => vs.length = np ∧ ∃ Z as fps F, StR (gF mg Z H F vs) Z as (vs.map some) H fps ∧ (∀ i a, a ∈ fps i → a ∈ F) ∧ PostF mg Z H F vs as Q E (fm as)
def finF (as : List S) (r : Ev) (e : Ve) : FRes := match r, backs as e with
  | .dat d, some bs => .ok (.dat d) bs
  | .new t, some bs => .ok (.new t) bs
  | _, _ => .no
/-- fixed: the parameters that are never stored -/
def runF (N np : Nat) (fixed : List Nat) (m : SM) : FM := fun as => if as.length = np ∧ (∀ i, i < np → isOwn (as.getD i .un) = true → i ∈ fixed) then match m (as ++ List.replicate (N - np) .un) with
  | .nx e => finF as (.dat .non) e
  | .rt r e => finF as r e
  | .ex x e => match backs as e with
    | some bs => .ex x bs
    | none => .no
  | _ => .no
  else .no
theorem backs_get : ∀ {as : List S} {e : Ve} {bs : List O}, backs as e = some bs → as.length ≤ e.length ∧ ∀ (i : Nat) (x : S), (aft as bs)[i]? = some x → (∃ d, as[i]? = some (S.dat d) ∧ x = S.dat d) ∨ x = S.un ∨ (∃ t t0, as[i]? = some (S.own t0) ∧ e[i]? = some (S.own t) ∧ x = S.own t)
  | [], e, bs, h => ⟨Nat.zero_le _, fun i x hx => by simp [aft] at hx⟩
  | a :: r, [], bs, h => by cases a <;> simp [backs] at h
  | .own t0 :: r, y :: e, bs, h => by
    cases y with
    | own t =>
      simp only [backs, Option.map_eq_some_iff] at h
      obtain ⟨bs', h1, rfl⟩ := h
      obtain ⟨h2, h3⟩ := backs_get h1
      refine ⟨Nat.succ_le_succ h2, fun i x hx => ?_⟩
      cases i with
      | zero => simp [aft] at hx; exact .inr (.inr ⟨t, t0, rfl, rfl, hx.symm⟩)
      | succ i => simpa using h3 i x (by simpa [aft] using hx)
    | _ => simp [backs] at h
  | .dat d :: r, y :: e, bs, h => by
    obtain ⟨h2, h3⟩ := backs_get (as := r) (e := e) (bs := bs) (by simpa [backs] using h)
    refine ⟨Nat.succ_le_succ h2, fun i x hx => ?_⟩
    cases i with
    | zero => simp [aft] at hx; exact .inl ⟨d, rfl, hx.symm⟩
    | succ i => simpa using h3 i x (by simpa [aft] using hx)
  | .un :: r, y :: e, bs, h => by
    obtain ⟨h2, h3⟩ := backs_get (as := r) (e := e) (bs := bs) (by simpa [backs] using h)
    refine ⟨Nat.succ_le_succ h2, fun i x hx => ?_⟩
    cases i with
    | zero => simp [aft] at hx; exact .inr (.inl hx.symm)
    | succ i => simpa using h3 i x (by simpa [aft] using hx)
  | .al j p :: r, y :: e, bs, h => by
    obtain ⟨h2, h3⟩ := backs_get (as := r) (e := e) (bs := bs) (by simpa [backs] using h)
    refine ⟨Nat.succ_le_succ h2, fun i x hx => ?_⟩
    cases i with
    | zero => simp [aft] at hx; exact .inr (.inl hx.symm)
    | succ i => simpa using h3 i x (by simpa [aft] using hx)
theorem aft_length : ∀ (as : List S) (bs : List O), (aft as bs).length = as.length
  | [], _ => rfl
  | .own _ :: r, [] => by simp [aft, aft_length r []]
  | .own _ :: r, b :: bs => by simp [aft, aft_length r bs]
  | .dat _ :: r, bs => by simp [aft, aft_length r bs]
  | .un :: r, bs => by simp [aft, aft_length r bs]
  | .al _ _ :: r, bs => by simp [aft, aft_length r bs]
/-- the callee's end, seen from the call -/
theorem StR.leave {g : Gx} {mg : Str → Option Value} {Z H Z' H' : Hp} {F : List Addr} {vs : List V} {as : List S} {bs : List O} {e : Ve} {σ' : L2.St} {fps fps' : Nat → List Addr} (h0 : StR (gF mg Z H F vs) Z as (vs.map some) H fps) (s : StR g Z' e σ' H' fps') (hm : g.mg = mg) (hn : g.n = ⟨Z, H, F, vs⟩)
    (hp : ∀ (i : Nat) (t : O), as[i]? = some (S.own t) → i ∈ g.pins) (hb : backs as e = some bs) :
    StR (gF mg Z H F vs) Z' (aft as bs) (vs.map some) H' (fun i => match (aft as bs)[i]? with | some (.own _) => fps' i | _ => []) := by
  obtain ⟨hl, hget⟩ := backs_get hb
  have sub : ∀ i a, a ∈ (match (aft as bs)[i]? with | some (.own _) => fps' i | _ => []) → a ∈ fps' i := fun i a m => by
    split at m
    · exact m
    · cases m
  have a1 := s.e1
  have a2 := s.e2
  have a3 := s.e3
  have a4 := s.e4
  rw [hn] at a1 a2 a3 a4
  refine ⟨by rw [List.length_map, aft_length]; have := h0.len; rw [List.length_map] at this; exact this, s.sub, fun i x hx => ?_, fun i hi => ?_, fun i j a h1 h2 => s.dis i j a (sub i a h1) (sub j a h2), fun i => ?_, fun i a m => s.nz i a (sub i a m), a1, a2, a3, fun i a m => a4 i a (sub i a m), fun i hi => by cases hi⟩
  · simp only [hx]
    rcases hget i x hx with ⟨d, h1, rfl⟩ | rfl | ⟨t, t0, h1, h2, rfl⟩
    · obtain ⟨_, v, q1, q2⟩ := h0.slot i _ h1
      exact ⟨rfl, v, q1, q2.mono a1⟩
    · exact rfl
    · obtain ⟨v, q1, q2⟩ := s.slot i _ h2
      obtain ⟨w, p1, p2⟩ := s.pin i (hp i t0 h1)
      rw [hn] at p1
      rw [p2] at q1
      cases q1
      refine ⟨_, ?_, by rw [hm] at q2; exact q2⟩
      have p1' : vs[i]? = some _ := p1
      rw [List.getElem?_map, p1']
      rfl
  · rw [List.getElem?_eq_none hi]
  · show (match (aft as bs)[i]? with | some (.own _) => fps' i | _ => []).Nodup
    split
    · exact s.nd i
    · exact List.nodup_nil
/-- the body's state at the entry -/
theorem StR.start {mg : Str → Option Value} {Z H : Hp} {F : List Addr} {vs : List V} {as : List S} {fps : Nat → List Addr} {N : List Str} {pins : List Nat} {W : WX} (h0 : StR (gF mg Z H F vs) Z as (vs.map some) H fps) (hN : vs.length ≤ N.length) (hp : ∀ i ∈ pins, i < vs.length) :
    StR ⟨mg, pins, ⟨Z, H, F, vs⟩, W⟩ Z (as ++ List.replicate (N.length - vs.length) .un) (L2.start N vs) H fps := by
  have hl : as.length = vs.length := by have := h0.len; rw [List.length_map] at this; exact this.symm
  have look : ∀ i v, (vs.map some)[i]? = some v → (L2.start N vs)[i]? = some v := fun i v e => by
    unfold L2.start
    rw [List.getElem?_append_left (List.getElem?_eq_some_iff.mp e).1]
    exact e
  refine ⟨by unfold L2.start; simp [hl], h0.sub, fun i x e => ?_, fun i hi => h0.out i (by simp at hi; omega), h0.dis, h0.nd, h0.nz, h0.e1, h0.e2, h0.e3, h0.e4, fun i hi => ?_⟩
  · by_cases c : i < as.length
    · rw [List.getElem?_append_left c] at e
      have q := h0.slot i x e
      cases x with
      | un => exact q
      | dat d => obtain ⟨e1, v, q1, q2⟩ := q; exact ⟨e1, v, look _ _ q1, q2⟩
      | own t => obtain ⟨v, q1, q2⟩ := q; exact ⟨v, look _ _ q1, q2⟩
      | al j p =>
        obtain ⟨e1, ⟨t, ht⟩, v, vj, q1, q2, q3⟩ := q
        exact ⟨e1, ⟨t, by rw [List.getElem?_append_left (List.getElem?_eq_some_iff.mp ht).1]; exact ht⟩, v, vj, look _ _ q1, look _ _ q2, q3⟩
    · rw [List.getElem?_append_right (by omega)] at e
      have hx : x = .un := by
        have := List.mem_of_getElem? e
        exact (List.mem_replicate.mp this).2
      subst hx
      exact h0.out i (by omega)
  · obtain ⟨v, hv⟩ : ∃ v, vs[i]? = some v := ⟨vs[i]'(hp i hi), List.getElem?_eq_getElem (hp i hi)⟩
    exact ⟨v, hv, look _ _ (by rw [List.getElem?_map, hv]; rfl)⟩
section
variable {P : Program} {w : World} {K : PySem.W.Frag} {mg : Str → Option Value} {base : Heap}
/-- THE RULE for a def -/
theorem fn_mirror {x qual : Str} {params : Arguments} {body : List Stmt} {scope : Scope} {f : Addr} {fd : FuncData} {N ps : List Str} {k : Nat} {fixed : List Nat} {m : SM} (F : FunD K x qual params body scope [] [] f fd) (SC : FnScope N ps scope) (hps : ps.length ≤ N.length) (hfx : ∀ i ∈ fixed, i < ps.length)
    (hb : ∀ (cdv : Value) (A : Around) (outer : List Env) (s : Shared) (H : Hp) (n : En) (E : XK), Room k (A.deeper (envOfC qual scope s.heap.objs.size f cdv)) →
      DSs (cxOf (L2N.CX P w) P w K mg base N qual scope f cdv A outer s H E) ⟨mg, fixed, n, fun cls d _ H => E cls d H⟩ body m) :
    FnOk P w K mg base (L2N.CX P w) (k + 1) f fd ps (spF mg ps.length (runF N.length ps.length fixed m)) := by
  refine F.ok SC (fun vs H Q E h => h.1) fun cdv A outer s H vs Q E hr ⟨hvl, Z, as, fps, Fp, h0, hF, po⟩ => ⟨_, hb cdv A outer s H ⟨Z, H, Fp, vs⟩ E hr, ?_⟩
  have hl : as.length = vs.length := by have := h0.len; rw [List.length_map] at this; exact this.symm
  unfold runF at po
  split at po
  case isFalse => exact po.elim
  rename_i hc
  have hfix : ∀ (i : Nat) (t : O), as[i]? = some (S.own t) → i ∈ fixed := fun i t e => by
    have hi : i < as.length := (List.getElem?_eq_some_iff.mp e).1
    refine hc.2 i (by omega) ?_
    rw [List.getD_eq_getElem?_getD, e]
    rfl
  have s0 : StR ⟨mg, fixed, ⟨Z, H, Fp, vs⟩, fun cls d _ H => E cls d H⟩ Z (as ++ List.replicate (N.length - ps.length) .un) (L2.start N vs) H fps := by
    have := h0.start (N := N) (pins := fixed) (W := fun cls d _ H => E cls d H) (by omega) fun i hi => by rw [hvl]; exact hfx i hi
    rw [hvl] at this
    exact this
  refine ⟨Z, _, fps, s0, ?_⟩
  have fin : ∀ {r : Ev} {e : Ve} {v : V} {Z' H' : Hp} {σ' : L2.St} {fps' : Nat → List Addr}, PostF mg Z H Fp vs as Q E (finF as r e) → StR ⟨mg, fixed, ⟨Z, H, Fp, vs⟩, fun cls d _ H => E cls d H⟩ Z' e σ' H' fps' → EvR ⟨mg, fixed, ⟨Z, H, Fp, vs⟩, fun cls d _ H => E cls d H⟩ Z' H' σ' fps' v r → Q v H' :=
    fun {r e v Z' H' σ' fps'} po s' re => by
      unfold finF at po
      split at po
      · rename_i d bs hb
        exact po v Z' H' _ (h0.leave s' rfl rfl hfix hb) re
      · rename_i t bs hb
        obtain ⟨fp, r1, r2, r3⟩ := re
        refine po v Z' H' _ (h0.leave s' rfl rfl hfix hb) ⟨fp, r1, r2, fun a m => ⟨(r3 a m).1, fun i mi => ?_, (r3 a m).2.2⟩⟩
        refine (r3 a m).2.1 i ?_
        simp only at mi
        split at mi
        · exact mi
        · cases mi
      · exact po.elim
  cases em : m (as ++ List.replicate (N.length - ps.length) .un) with
  | no => rw [em] at po; exact po
  | bk e => rw [em] at po; exact po.elim
  | ct e => rw [em] at po; exact po.elim
  | nx e => rw [em] at po; exact fun Z' σ' H' fps' s' _ => fin po s' .non
  | rt r e => rw [em] at po; exact fun v Z' σ' H' fps' s' _ re => fin po s' re
  | ex x e =>
    rw [em] at po
    intro cls d Z' σ' H' fps' s' _ xr
    simp only at po
    split at po
    · rename_i bs hb
      exact po cls d Z' H' _ (h0.leave s' rfl rfl hfix hb) xr
    · exact po.elim
end
end DL
namespace DL
open PySem PySem.Spec PyProof.Rows L2
/-! ### a def called -/
def toArgs (e : Ve) : Nat → List Ev → Option (List S × List (Nat × Nat))
  | _, [] => some ([], [])
  | i, x :: xs => match toArgs e (i + 1) xs with
    | none => none
    | some (as, ow) => match x with
      | .dat d => some (.dat d :: as, ow)
      | .pl j [] => match e[j]? with
        | some (.own (.dat d)) => some (.dat d :: as, ow)
        | some (.own t) => if (ow.lookup j).isSome = true then none else some (.own t :: as, (j, i) :: ow)
        | _ => none
      | _ => none
def killA : S → S
  | .al _ _ => .un
  | s => s
def backE (ow : List (Nat × Nat)) (r : List S) (e : Ve) : Ve := match ow with
  | [] => e
  | _ => e.mapIdx fun k s => match ow.lookup k with
    | some i => r.getD i .un
    | none => killA s
def eFn (np : Nat) (fm : FM) (ma : AM) : EM := fun env => (ma env).bind fun xs e1 => match toArgs e1 0 xs with
  | some (as, ow) => if as.length = np then match fm as with
    | .ok (.dat d) bs => .ok (.dat d) (backE ow (aft as bs) e1)
    | .ok (.new t) bs => .ok (.new t) (backE ow (aft as bs) e1)
    | .ok _ _ => .no
    | .ex x bs => .ex x (backE ow (aft as bs) e1)
    | .no => .no
    else .no
  | none => .no
theorem HvRs.get {Z H : Hp} {σ : L2.St} : ∀ {vs : List V} {xs : List Ev} {i : Nat} {x : Ev}, HvRs Z H σ vs xs → xs[i]? = some x → ∃ v, vs[i]? = some v ∧ HvR true Z H σ v x
  | _, _, _, _, .nil, e => by simp at e
  | _, _, 0, _, .cons h _, e => by simp at e; subst e; exact ⟨_, rfl, h⟩
  | _, _, i + 1, x, .cons _ r, e => by
    obtain ⟨v, h1, h2⟩ := HvRs.get (i := i) (x := x) r (by simpa using e)
    exact ⟨v, by simpa using h1, h2⟩
structure ArgsOk (g : Gx) (Z H : Hp) (e : Ve) (σ : L2.St) (fps : Nat → List Addr) (vs : List V) (i0 : Nat) (as : List S) (ow : List (Nat × Nat)) : Prop where
  len : as.length = vs.length
  up : ∀ k i, ow.lookup k = some i → i0 ≤ i ∧ ∃ t v, e[k]? = some (S.own t) ∧ as[i - i0]? = some (S.own t) ∧ vs[i - i0]? = some v ∧ σ[k]? = some (some v) ∧ Own g.mg Z H v t (fps k)
  dn : ∀ i t, as[i]? = some (S.own t) → ∃ k, ow.lookup k = some (i0 + i)
  dat : ∀ (i : Nat) d, as[i]? = some (S.dat d) → ∃ v, vs[i]? = some v ∧ RD Z v d
  one : ∀ (i : Nat) x, as[i]? = some x → (∃ d, x = S.dat d) ∨ ∃ t, x = S.own t
  inj : ∀ k k' i, ow.lookup k = some i → ow.lookup k' = some i → k = k'
theorem toArgs_ok {g : Gx} {Z H : Hp} {e : Ve} {σ : L2.St} {fps : Nat → List Addr} (s : StR g Z e σ H fps) : ∀ {vs : List V} {xs : List Ev} {i0 : Nat} {as : List S} {ow : List (Nat × Nat)}, HvRs Z H σ vs xs → toArgs e i0 xs = some (as, ow) → ArgsOk g Z H e σ fps vs i0 as ow
  | _, _, i0, as, ow, .nil, h => by
    simp [toArgs] at h
    obtain ⟨rfl, rfl⟩ := h
    exact ⟨rfl, fun k i e => by simp at e, fun i t e => by simp at e, fun i t e => by simp at e, fun i t e => by simp at e, fun k k' i e => by simp at e⟩
  | _, _, i0, as, ow, .cons (v := v) (x := x) (vs := vs) (xs := xs) hv hr, h => by
    unfold toArgs at h
    split at h
    · cases h
    rename_i as' ow' h1
    have ih := toArgs_ok s hr h1
    have dcase : ∀ d, RD Z v d → some (S.dat d :: as', ow') = some (as, ow) → ArgsOk g Z H e σ fps (v :: vs) i0 as ow := fun d rd q => by
      simp only [Option.some.injEq, Prod.mk.injEq] at q
      obtain ⟨rfl, rfl⟩ := q
      refine ⟨by simp [ih.len], fun k i e => ?_, fun i t e => ?_, fun i d' e => ?_, fun i y e => ?_, ih.inj⟩
      · obtain ⟨h2, t, v', h3, h4, h5, h6⟩ := ih.up k i e
        refine ⟨by omega, t, v', h3, ?_, ?_, h6⟩
        · rw [show i - i0 = (i - (i0 + 1)) + 1 by omega]; simpa using h4
        · rw [show i - i0 = (i - (i0 + 1)) + 1 by omega]; simpa using h5
      · cases i with
        | zero => simp at e
        | succ i =>
          obtain ⟨k, hk⟩ := ih.dn i t (by simpa using e)
          exact ⟨k, by rw [hk]; congr 1; omega⟩
      · cases i with
        | zero => simp at e; subst e; exact ⟨v, rfl, rd⟩
        | succ i => simpa using ih.dat i d' (by simpa using e)
      · cases i with
        | zero => simp at e; exact .inl ⟨d, e.symm⟩
        | succ i => exact ih.one i y (by simpa using e)
    cases x with
    | dat d => exact dcase d hv h
    | new t => exact hv.elim
    | pl j p =>
      obtain ⟨_, vj, hσ, hw⟩ := hv
      cases p with
      | cons f p => simp at h
      | nil =>
        unfold walk at hw
        cases hw
        simp only at h
        split at h
        · rename_i d hj
          obtain ⟨w, q1, q2⟩ := s.slot j _ hj
          rw [hσ] at q1
          cases q1
          generalize fps j = fpj at q2
          cases q2 with
          | dat rd => exact dcase d rd h
        · rename_i t hnd hj
          split at h
          · cases h
          · rename_i hno
            simp only [Option.some.injEq, Prod.mk.injEq] at h
            obtain ⟨rfl, rfl⟩ := h
            obtain ⟨w, q1, q2⟩ := s.slot j _ hj
            rw [hσ] at q1
            cases q1
            have hno' : ow'.lookup j = none := by
              cases q : ow'.lookup j with
              | none => rfl
              | some i => rw [q] at hno; simp at hno
            have lk : ∀ k, ((j, i0) :: ow').lookup k = if k = j then some i0 else ow'.lookup k := fun k => by
              by_cases c : k = j
              · subst c; simp [List.lookup]
              · have : (k == j) = false := by simpa using c
                simp [List.lookup, this, c]
            refine ⟨by simp [ih.len], fun k i e => ?_, fun i t' e => ?_, fun i d' e => ?_, fun i y e => ?_, fun k k' i h1 h2 => ?_⟩
            · rw [lk] at e
              split at e
              · rename_i c
                subst c
                cases e
                exact ⟨Nat.le_refl _, t, _, hj, by simp, by rw [Nat.sub_self]; rfl, hσ, q2⟩
              · obtain ⟨h2, t', v', h3, h4, h5, h6⟩ := ih.up k i e
                refine ⟨by omega, t', v', h3, ?_, ?_, h6⟩
                · rw [show i - i0 = (i - (i0 + 1)) + 1 by omega]; simpa using h4
                · rw [show i - i0 = (i - (i0 + 1)) + 1 by omega]; simpa using h5
            · cases i with
              | zero => exact ⟨j, by rw [lk, if_pos rfl]; rfl⟩
              | succ i =>
                obtain ⟨k, hk⟩ := ih.dn i t' (by simpa using e)
                refine ⟨k, ?_⟩
                rw [lk, if_neg (fun c => by rw [c, hno'] at hk; cases hk), hk]
                congr 1; omega
            · cases i with
              | zero => simp at e
              | succ i => simpa using ih.dat i d' (by simpa using e)
            · cases i with
              | zero => simp at e; exact .inr ⟨t, e.symm⟩
              | succ i => exact ih.one i y (by simpa using e)
            · rw [lk] at h1 h2
              split at h1
              · rename_i c1
                split at h2
                · rename_i c2; rw [c1, c2]
                · cases h1
                  have := (ih.up k' i0 h2).1
                  omega
              · split at h2
                · cases h2
                  have := (ih.up k i0 h1).1
                  omega
                · exact ih.inj k k' i h1 h2
        · cases h
section
variable {X : Cx} {g : Gx}
theorem fn_run {np : Nat} {p : Bool} {fm : FM} {ma : AM} {σ : L2.St} {H : Hp} {Q : VK} (h : tE g false (eFn np fm ma) σ H Q) : tA g p ma σ H fun vs H1 => spF g.mg np fm vs H1 Q (fun cls d H => g.W cls d σ H) := by
  obtain ⟨Z, env, fps, s, h⟩ := h
  refine ⟨Z, env, fps, s, ?_⟩
  unfold eFn at h
  cases e : ma env with
  | no => simp [e] at h
  | ex x e1 => simpa [e] using h
  | ok xs e1 =>
    simp only [e, Res.bind_ok] at h
    intro vs Z1 H1 fps1 s1 z1 _ r1
    split at h
    case h_2 => exact h.elim
    rename_i as ow hta
    split at h
    case isFalse => exact h.elim
    rename_i hnp
    have A := toArgs_ok s1 r1 hta
    let fpA : Nat → List Addr := fun i => match as[i]? with
      | some (.own _) => match (List.range e1.length).find? (fun k => ow.lookup k == some i) with
        | some k => fps1 k
        | none => []
      | _ => []
    -- the slot of an owned argument
    have src : ∀ i t, as[i]? = some (S.own t) → ∃ k v, ow.lookup k = some i ∧ fpA i = fps1 k ∧ vs[i]? = some v ∧ Own g.mg Z1 H1 v t (fps1 k) := fun i t hi => by
      obtain ⟨k, hk⟩ := A.dn i t hi
      rw [Nat.zero_add] at hk
      obtain ⟨_, t', v, h1, h2, h3, h4, h5⟩ := A.up k i hk
      rw [Nat.sub_zero, hi] at h2
      cases h2
      refine ⟨k, v, hk, ?_, by simpa using h3, h5⟩
      show (match as[i]? with
        | some (.own _) => match (List.range e1.length).find? (fun k => ow.lookup k == some i) with
          | some k => fps1 k
          | none => []
        | _ => []) = fps1 k
      rw [hi]
      show (match (List.range e1.length).find? (fun k => ow.lookup k == some i) with | some k => fps1 k | none => []) = fps1 k
      have hkl : k < e1.length := (List.getElem?_eq_some_iff.mp h1).1
      cases q : (List.range e1.length).find? (fun k => ow.lookup k == some i) with
      | none =>
        have := List.find?_eq_none.mp q k (by simpa using hkl)
        simp [hk] at this
      | some k' =>
        have hk' := List.find?_some q
        have hk'' : ow.lookup k' = some i := by simpa using hk'
        rw [A.inj k' k i hk'' hk]
    have fp0 : ∀ i, (∀ t, as[i]? ≠ some (S.own t)) → fpA i = [] := fun i hi => by
      show (match as[i]? with
        | some (.own _) => match (List.range e1.length).find? (fun k => ow.lookup k == some i) with
          | some k => fps1 k
          | none => []
        | _ => []) = []
      split
      · rename_i t ht; exact (hi t ht).elim
      · rfl
    have memA : ∀ i a, a ∈ fpA i → ∃ k t, ow.lookup k = some i ∧ as[i]? = some (S.own t) ∧ a ∈ fps1 k := fun i a m => by
      by_cases c : ∃ t, as[i]? = some (S.own t)
      · obtain ⟨t, ht⟩ := c
        obtain ⟨k, v, h1, h2, _⟩ := src i t ht
        exact ⟨k, t, h1, ht, by rw [← h2]; exact m⟩
      · rw [fp0 i fun t ht => c ⟨t, ht⟩] at m; cases m
    let F : List Addr := allF as.length fpA
    have hF : ∀ i a, a ∈ fpA i → a ∈ F := fun i a m => mem_allF.mpr ⟨i, by
      obtain ⟨k, t, h1, h2, h3⟩ := memA i a m
      exact (List.getElem?_eq_some_iff.mp h2).1, m⟩
    have inF : ∀ a, a ∈ F → ∃ k i t, ow.lookup k = some i ∧ as[i]? = some (S.own t) ∧ a ∈ fps1 k := fun a m => by
      obtain ⟨i, _, hi⟩ := mem_allF.mp m
      obtain ⟨k, t, h1, h2, h3⟩ := memA i a hi
      exact ⟨k, i, t, h1, h2, h3⟩
    have sA : StR (gF g.mg Z1 H1 F vs) Z1 as (vs.map some) H1 fpA := by
      refine ⟨by rw [List.length_map]; exact A.len.symm, s1.sub, fun i x hx => ?_, fun i hi => fp0 i fun t ht => ?_, fun i j a m1 m2 => ?_, fun i => ?_, fun i a m => ?_, .refl _, fun b o e _ => e, fun b o e => .inl e, fun i a m => .inl (hF i a m), fun i hi => by cases hi⟩
      · rcases A.one i x hx with ⟨d, rfl⟩ | ⟨t, rfl⟩
        · obtain ⟨v, h1, h2⟩ := A.dat i d hx
          exact ⟨fp0 i (fun t ht => by rw [hx] at ht; cases ht), v, by rw [List.getElem?_map, h1]; rfl, h2⟩
        · obtain ⟨k, v, h1, h2, h3, h4⟩ := src i t hx
          exact ⟨v, by rw [List.getElem?_map, h3]; rfl, by rw [h2]; exact h4⟩
      · rw [List.getElem?_eq_none hi] at ht; cases ht
      · obtain ⟨k, t, h1, _, h3⟩ := memA i a m1
        obtain ⟨k', t', h1', _, h3'⟩ := memA j a m2
        have := s1.dis k k' a h3 h3'
        subst this
        rw [h1] at h1'
        exact Option.some.inj h1'
      · by_cases c : ∃ t, as[i]? = some (S.own t)
        · obtain ⟨t, ht⟩ := c
          obtain ⟨k, v, _, h2, _⟩ := src i t ht
          rw [h2]; exact s1.nd k
        · rw [fp0 i fun t ht => c ⟨t, ht⟩]; exact List.nodup_nil
      · obtain ⟨k, t, _, _, h3⟩ := memA i a m
        exact s1.nz k a h3
    -- the state behind the call
    have back : ∀ {bs : List O} {Z2 H2 : Hp} {fps2 : Nat → List Addr}, StR (gF g.mg Z1 H1 F vs) Z2 (aft as bs) (vs.map some) H2 fps2 →
        ∃ fps3, StR g Z2 (backE ow (aft as bs) e1) σ H2 fps3 ∧ ∀ a, a ∈ F ∨ H1 a = none → (∀ i, a ∉ fps2 i) → ∀ k, a ∉ fps3 k := fun {bs Z2 H2 fps2} s2 => by
      have a1 : Same Z1 Z2 := s2.e1
      have a2 : ∀ b o, H1 b = some o → b ∉ F → H2 b = some o := s2.e2
      have a3 : ∀ b o, Z2 b = some o → Z1 b = some o ∨ b ∈ F ∨ H1 b = none := s2.e3
      have a4 : ∀ i a, a ∈ fps2 i → a ∈ F ∨ H1 a = none := s2.e4
      have notF : ∀ k a, ow.lookup k = none → a ∈ fps1 k → a ∉ F := fun k a hk m mF => by
        obtain ⟨k', i, t, h1, _, h3⟩ := inF a mF
        have := s1.dis k k' a m h3
        subst this
        rw [hk] at h1; cases h1
      have there : ∀ k a, a ∈ fps1 k → H1 a ≠ none := fun k a m e => by
        obtain ⟨o, ho⟩ := s1.there m
        rw [ho] at e; cases e
      have FF : ∀ a, a ∈ F → a ∈ allF e1.length fps1 := fun a m => by
        obtain ⟨k, i, t, h1, _, h3⟩ := inF a m
        obtain ⟨_, t', v, q1, _⟩ := A.up k i h1
        exact mem_allF.mpr ⟨k, (List.getElem?_eq_some_iff.mp q1).1, h3⟩
      let fps3 : Nat → List Addr := fun k => match ow.lookup k with
        | some i => fps2 i
        | none => fps1 k
      have f3s : ∀ k i, ow.lookup k = some i → fps3 k = fps2 i := fun k i e => by
        show (match ow.lookup k with | some i => fps2 i | none => fps1 k) = _
        rw [e]
      have f3n : ∀ k, ow.lookup k = none → fps3 k = fps1 k := fun k e => by
        show (match ow.lookup k with | some i => fps2 i | none => fps1 k) = _
        rw [e]
      have hlen : (backE ow (aft as bs) e1).length = e1.length := by
        unfold backE
        split <;> simp
      have hget : ∀ k x, (backE ow (aft as bs) e1)[k]? = some x → (∃ i, ow.lookup k = some i ∧ x = (aft as bs).getD i .un) ∨ (ow.lookup k = none ∧ ∃ y, e1[k]? = some y ∧ ((ow = [] ∧ x = y) ∨ x = killA y)) := fun k x hx => by
        unfold backE at hx
        split at hx
        · exact .inr ⟨rfl, x, hx, .inl ⟨rfl, rfl⟩⟩
        · rw [List.getElem?_mapIdx] at hx
          cases q : e1[k]? with
          | none => rw [q] at hx; cases hx
          | some y =>
            rw [q] at hx
            simp only [Option.map_some, Option.some.injEq] at hx
            cases q2 : ow.lookup k with
            | some i => rw [q2] at hx; exact .inl ⟨i, rfl, hx.symm⟩
            | none => rw [q2] at hx; exact .inr ⟨rfl, y, rfl, .inr hx.symm⟩
      have s3 : StR (g.at ⟨Z1, H1, allF e1.length fps1, g.n.vs⟩) Z2 (backE ow (aft as bs) e1) σ H2 fps3 := by
        refine ⟨by rw [hlen]; exact s1.len, s2.sub, fun k x hx => ?_, fun k hk => ?_, fun k l a m1 m2 => ?_, fun k => ?_, fun k a m => ?_, a1, fun b o e k => a2 b o e fun m => k (FF b m), fun b o e => (a3 b o e).imp id fun z => z.imp (FF b) id, fun k a m => ?_, s1.pin⟩
        · rcases hget k x hx with ⟨i, h1, rfl⟩ | ⟨h1, y, h2, h3⟩
          · rw [f3s k i h1]
            obtain ⟨_, t, v, _, q2, q3, q4, _⟩ := A.up k i h1
            rw [Nat.sub_zero] at q2 q3
            have hil : i < (aft as bs).length := by rw [aft_length]; exact (List.getElem?_eq_some_iff.mp q2).1
            have sl := s2.slot i _ (List.getElem?_eq_getElem hil)
            rw [List.getD_eq_getElem?_getD, List.getElem?_eq_getElem hil]
            show SR g.mg Z2 H2 _ σ k (aft as bs)[i] (fps2 i)
            have hv : (vs.map some)[i]? = some (some v) := by rw [List.getElem?_map, q3]; rfl
            cases hx2 : (aft as bs)[i] with
            | un => rw [hx2] at sl; exact sl
            | dat d => rw [hx2] at sl; obtain ⟨e1, w, p1, p2⟩ := sl; rw [hv] at p1; cases p1; exact ⟨e1, v, q4, p2⟩
            | own t2 => rw [hx2] at sl; obtain ⟨w, p1, p2⟩ := sl; rw [hv] at p1; cases p1; exact ⟨v, q4, p2⟩
            | al j p =>
              exfalso
              have : ∀ (as : List S) (bs : List O) (i : Nat) j p, (aft as bs)[i]? ≠ some (.al j p) := fun as => by
                induction as with
                | nil => intro bs i j p e; simp [aft] at e
                | cons a r ih =>
                  intro bs i j p e
                  cases a with
                  | own t0 =>
                    cases bs with
                    | nil => cases i with
                      | zero => simp [aft] at e
                      | succ i => exact ih [] i j p (by simpa [aft] using e)
                    | cons b bs => cases i with
                      | zero => simp [aft] at e
                      | succ i => exact ih bs i j p (by simpa [aft] using e)
                  | dat d => cases i with
                    | zero => simp [aft] at e
                    | succ i => exact ih bs i j p (by simpa [aft] using e)
                  | un => cases i with
                    | zero => simp [aft] at e
                    | succ i => exact ih bs i j p (by simpa [aft] using e)
                  | al j0 p0 => cases i with
                    | zero => simp [aft] at e
                    | succ i => exact ih bs i j p (by simpa [aft] using e)
              exact this as bs i j p (by rw [List.getElem?_eq_getElem hil, hx2])
          · rw [f3n k h1]
            have sl := s1.slot k y h2
            have keepH : ∀ a ∈ fps1 k, H2 a = H1 a := fun a m => by
              obtain ⟨o, ho⟩ := s1.there m
              rw [ho]; exact a2 a o ho (notF k a h1 m)
            rcases h3 with ⟨hnil, rfl⟩ | rfl
            · have hFn : F = [] := by
                cases q : F with
                | nil => rfl
                | cons a r =>
                  obtain ⟨k', i, t, h4, _⟩ := inF a (by rw [q]; exact List.mem_cons_self)
                  rw [hnil] at h4; cases h4
              have sm : Same H1 H2 := fun b o e => a2 b o e (by rw [hFn]; simp)
              have := sl.keep (env := e1) a1 keepH fun v p u => walk_mono sm
              have hb : backE ow (aft as bs) e1 = e1 := by rw [hnil]; rfl
              rw [hb]
              exact this
            · cases y with
              | un => exact sl
              | dat d => obtain ⟨e1, v, p1, p2⟩ := sl; exact ⟨e1, v, p1, p2.mono a1⟩
              | own t => obtain ⟨v, p1, p2⟩ := sl; exact ⟨v, p1, p2.keep a1 keepH⟩
              | al j p => exact sl.1
        · rw [hlen] at hk
          have h1 : ow.lookup k = none := by
            cases q : ow.lookup k with
            | none => rfl
            | some i =>
              obtain ⟨_, t, v, q1, _⟩ := A.up k i q
              have := (List.getElem?_eq_some_iff.mp q1).1
              omega
          rw [f3n k h1]; exact s1.out k hk
        · cases q1 : ow.lookup k with
          | some i =>
            rw [f3s k i q1] at m1
            cases q2 : ow.lookup l with
            | some j =>
              rw [f3s l j q2] at m2
              have := s2.dis i j a m1 m2
              subst this
              exact A.inj k l i q1 q2
            | none =>
              rw [f3n l q2] at m2
              rcases a4 i a m1 with z | z
              · exact (notF l a q2 m2 z).elim
              · exact (there l a m2 z).elim
          | none =>
            rw [f3n k q1] at m1
            cases q2 : ow.lookup l with
            | some j =>
              rw [f3s l j q2] at m2
              rcases a4 j a m2 with z | z
              · exact (notF k a q1 m1 z).elim
              · exact (there k a m1 z).elim
            | none =>
              rw [f3n l q2] at m2
              exact s1.dis k l a m1 m2
        · cases q1 : ow.lookup k with
          | some i => rw [f3s k i q1]; exact s2.nd i
          | none => rw [f3n k q1]; exact s1.nd k
        · cases q1 : ow.lookup k with
          | some i => rw [f3s k i q1] at m; exact s2.nz i a m
          | none =>
            rw [f3n k q1] at m
            cases q : Z2 a with
            | none => rfl
            | some o =>
              rcases a3 a o q with z | z | z
              · rw [s1.nz k a m] at z; cases z
              · exact (notF k a q1 m z).elim
              · exact (there k a m z).elim
        · cases q1 : ow.lookup k with
          | some i => rw [f3s k i q1] at m; exact (a4 i a m).imp (FF a) id
          | none =>
            rw [f3n k q1] at m
            refine .inl (mem_allF.mpr ⟨k, ?_, m⟩)
            by_cases c : k < e1.length
            · exact c
            · rw [s1.out k (Nat.le_of_not_lt c)] at m; cases m
      refine ⟨fps3, s1.rebase (g' := g.at ⟨Z1, H1, allF e1.length fps1, g.n.vs⟩) rfl rfl (fun a m => ?_) s1.pin s3, fun a ha hn k m => ?_⟩
      · obtain ⟨k, _, hk⟩ := mem_allF.mp m
        exact ⟨k, hk⟩
      · cases q1 : ow.lookup k with
        | some i => rw [f3s k i q1] at m; exact hn i m
        | none =>
          rw [f3n k q1] at m
          rcases ha with z | z
          · exact notF k a q1 m z
          · exact there k a m z
    refine ⟨by rw [← A.len]; exact hnp, Z1, as, fpA, F, sA, hF, ?_⟩
    cases ef : fm as with
    | no => rw [ef] at h; exact h
    | ok r bs =>
      rw [ef] at h
      intro v Z2 H2 fps2 s2 re
      obtain ⟨fps3, s3, dj⟩ := back s2
      cases r with
      | dat d => exact h v Z2 H2 fps3 s3 (z1.trans s2.e1) (fun q => by cases q) re
      | pl j pp => exact h.elim
      | new t =>
        refine h v Z2 H2 fps3 s3 (z1.trans s2.e1) (fun q => by cases q) ?_
        obtain ⟨fp, q1, q2, q3⟩ := re
        refine ⟨fp, q1, q2, fun a m => ⟨(q3 a m).1, dj a (q3 a m).2.2 (q3 a m).2.1, ?_⟩⟩
        rcases (q3 a m).2.2 with z | z
        · obtain ⟨k, i, t', _, _, h3⟩ := inF a z
          exact s1.e4 k a h3
        · exact (s1.new0 z).2
    | ex x bs =>
      rw [ef] at h
      intro cls d Z2 H2 fps2 s2 xr
      obtain ⟨fps3, s3, dj⟩ := back s2
      exact h cls d Z2 H2 fps3 s3 (z1.trans s2.e1) xr
end
end DL
namespace DL
open PySem PySem.Spec PyProof.Rows L2
/-! ### a def by its mirror -/
/-- a def of the text under its name: it does what fm does, by k levels -/
structure FnAt (P : Program) (w : World) (K : PySem.W.Frag) (mg : Str → Option Value) (base : Heap) (k : Nat) (x : Str) (ps : List Str) (np : Nat) (fm : FM) : Prop where
  ex : ∃ f fd, FnOk P w K mg base (L2N.CX P w) k f fd ps (spF mg np fm) ∧ mg x = some (.ref f) ∧ PySem.W.keepIn K (.ref f) = true ∧ Binds K fd ps []
/-- a def of the text as the head leaves it -/
structure DefAt (K : PySem.W.Frag) (mg : Str → Option Value) (x : Str) (ps : List Str) (st : Stmt) : Prop where
  ex : ∃ f fd, FunD K x x (defArgs st) (defBody st) (defScope st) [] [] f fd ∧ mg x = some (.ref f) ∧ Binds K fd ps []
section
variable {P : Program} {w : World} {K : PySem.W.Frag} {mg : Str → Option Value} {base : Heap}
theorem fn_at {x : Str} {ps N : List Str} {st : Stmt} {k : Nat} {fixed : List Nat} {m : SM} (F : DefAt K mg x ps st) (SC : FnScope N ps (defScope st)) (hps : ps.length ≤ N.length) (hfx : ∀ i ∈ fixed, i < ps.length)
    (hb : ∀ (f : Addr) (cdv : Value) (A : Around) (outer : List Env) (s : Shared) (H : Hp) (n : En) (E : XK), Room k (A.deeper (envOfC x (defScope st) s.heap.objs.size f cdv)) →
      DSs (cxOf (L2N.CX P w) P w K mg base N x (defScope st) f cdv A outer s H E) ⟨mg, fixed, n, fun cls d _ H => E cls d H⟩ (defBody st) m) :
    FnAt P w K mg base (k + 1) x ps ps.length (runF N.length ps.length fixed m) := by
  obtain ⟨f, fd, h1, h2, h3⟩ := F.ex
  exact ⟨f, fd, fn_mirror h1 SC hps hfx (hb f), h2, h1.kp, h3⟩
end
section
variable {X : Cx} {g : Gx}
theorem de_fn {k j np : Nat} {x : Str} {ps : List Str} {fm : FM} {p : Bool} {e : Expr} {es : List Expr} {ma : AM} {ps' pos : Pos} (F : FnAt X.prog X.w X.K X.mg X.base k x ps np fm) (hr : Room j X.A) (hkj : k ≤ j) (hmg : g.mg = X.mg) (hg : Gl X x) (tk : L2N.Takes X g.W) (ha : DA X g p (e :: es) ma)
    (hdb : (x == ("__debug__" : Str)) = false := by decide) (he : starEach (e :: es) X.env = (false, eval e X.env) :: starEach es X.env := by rfl) (hpl : (backTo pos (starEach es X.env)).any (·.1) = false := by rfl) :
    DE X g false (.Call (.Name x ps') (e :: es) [] pos) (eFn np fm ma) := by
  obtain ⟨f, fd, h1, h2, h3, h4⟩ := F.ex
  refine PE.imp (pe_callS h1 (hr.mono hkj) hg h2 h3 h4 (fun σ => L2N.passAt tk σ) ha hdb he hpl) fun σ H Q h => ?_
  have := fn_run (p := p) h
  rw [hmg] at this
  exact this
/-- a module's constant -/
theorem de_glob {x : Str} {i : Int} {pos : Pos} (hg : Gl X x) (hm : ∃ t, X.mg x = some (.int i t)) (hd : (x == ("__debug__" : Str)) = false := by decide) : DE X g true (.Name x pos) (eD (.int i)) := by
  obtain ⟨t, hm⟩ := hm
  exact de_c (pe_glob (v := .int i) hg hm ⟨t, rfl⟩ hd) fun _ => .int
/-- what the proof never comes to -/
def sNo : SM := fun _ => .no
theorem ds_no {st : Stmt} : DS X g st sNo := ⟨fun _ _ _ _ _ _ ⟨_, _, _, _, h⟩ => h.elim⟩
def eNo : EM := fun _ => .no
theorem de_no {e : Expr} {p : Bool} : DE X g p e eNo := ⟨fun _ _ _ _ _ _ ⟨_, _, _, _, h⟩ => h.elim⟩
/-- xs[::-1] -/
def revD : D → Option Ev
  | .lst xs => some (.new (.lst xs.reverse))
  | _ => none
theorem de_rev {e : Expr} {p : Bool} {m : EM} {k : Nat} {p1 p2 p3 pos : Pos} (he : DE X g p e m) : DE X g p (.Subscript e (.Slice none none (some (.UnaryOp .USub (.Constant (.int 1) k p1) p2)) p3) pos) (eOp1 revD m) := by
  refine PE.imp (pe_revL he) fun σ H Q h => ?_
  refine op1_run (r := fun x H1 Q => ∃ a xs, x = .ref a ∧ SqL X.K H1 a xs ∧ ∀ p, H1 p = none → Q (.ref p) (upd H1 p (.lst xs.reverse))) (fun mg Z H v d ev Q s rv h q => ?_) h
  cases d <;> cases h
  obtain ⟨a, vs, rfl, h1, r1⟩ := rv.lst s
  exact ⟨a, vs, rfl, .of h1, fun p hp => q _ _ _ (.new s hp) (.lst s hp r1.reverse)⟩
section
local instance (priority := 5000) (i b : Int) : Decidable (i < b) := dLtI i b
local instance (priority := 5000) (i b : Int) : Decidable (i ≤ b) := dLeI i b
/-- list(range(..)) -/
def eLr1 (m : EM) : EM := fun env => match m env with
  | .ok (.dat (.int n)) e => if -(2 ^ 62) ≤ n ∧ n ≤ 16777216 then .ok (.new (.lst (rangeL 0 n.toNat))) e else .no
  | .ex x e => .ex x e
  | _ => .no
def eLr2 (ma mb : EM) : EM := fun env => match ma env with
  | .ok (.dat (.int a)) e1 => match mb e1 with
    | .ok (.dat (.int b)) e => if -(2 ^ 62) ≤ a ∧ a < 2 ^ 62 ∧ -(2 ^ 62) ≤ b ∧ b < 2 ^ 62 ∧ (b - a).toNat ≤ 16777216 then .ok (.new (.lst (rangeL a (b - a).toNat))) e else .no
    | .ex x e => .ex x e
    | _ => .no
  | .ex x e => .ex x e
  | _ => .no
end
theorem rg_rd {Z : Hp} (a b : Int) : RDs Z (rgV a b) (rangeL a (b - a).toNat) := by
  unfold rgV rangeL
  generalize (b - a).toNat = n
  have : ∀ l : List Nat, RDs Z (l.map fun i => V.int (a + (i : Nat))) (l.map fun (i : Nat) => D.int (a + (i : Int))) := fun l => by
    induction l with
    | nil => exact .nil
    | cons x l ih => exact .cons .int ih
  exact this _
theorem de_lr1 {p : Bool} {a : Expr} {ma : EM} {p1 p2 pos pos2 : Pos} (hc : X.calm = true) (hl : Gl X "list") (hml : X.mg "list" = none) (hg : Gl X "range") (hm : X.mg "range" = none) (ha : DE X g p a ma)
    (na : starEach [a] X.env = (false, eval a X.env) :: starEach [] X.env := by rfl) (nb : starEach [.Call (.Name "range" p2) [a] [] pos2] X.env = (false, eval (.Call (.Name "range" p2) [a] [] pos2) X.env) :: starEach [] X.env := by rfl) :
    DE X g p (.Call (.Name "list" p1) [.Call (.Name "range" p2) [a] [] pos2] [] pos) (eLr1 ma) := by
  refine PE.imp (pe_listRg hc hl hml (prg_1 hg hm ha na) nb) fun σ H Q ⟨Z, env, fps, s, h⟩ => ⟨Z, env, fps, s, ?_⟩
  unfold eLr1 at h
  cases e : ma env with
  | no => simp [e] at h
  | ex x e1 => simpa [e] using h
  | ok x e1 =>
    intro v Z1 H1 fps1 s1 z1 k1 r1
    cases x with
    | dat d =>
      cases d with
      | int n =>
        simp only [e] at h
        split at h
        · rename_i hn
          cases r1
          refine ⟨n, rfl, ⟨by omega, by omega, hn.1, by omega, by omega⟩, fun q hq => ?_⟩
          have f := Fresh.new (o := .lst (rgV 0 n)) s1.sub hq
          have rd : RDs Z1 (rgV 0 n) (rangeL 0 n.toNat) := by have := rg_rd (Z := Z1) 0 n; rw [Int.sub_zero] at this; exact this
          refine h (.ref q) _ _ fps1 (s1.fresh f) z1 (fun hp => ?_) ((NewR.lst (mg := g.mg) s1.sub hq rd).ev s1)
          obtain ⟨a1, a2, a3⟩ := k1 hp
          exact ⟨a1, a2, a3.trans f.h⟩
        · exact h.elim
      | _ => simp [e] at h
    | _ => simp [e] at h
theorem de_lr2 {p q : Bool} {a b : Expr} {ma mb : EM} {p1 p2 pos pos2 : Pos} (hc : X.calm = true) (hl : Gl X "list") (hml : X.mg "list" = none) (hg : Gl X "range") (hm : X.mg "range" = none) (ha : DE X g p a ma) (hb : DE X g q b mb)
    (na : starEach [a, b] X.env = (false, eval a X.env) :: starEach [b] X.env := by rfl) (nb2 : starEach [b] X.env = (false, eval b X.env) :: starEach [] X.env := by rfl) (nb3 : (backTo pos2 (starEach [b] X.env)).any (·.1) = false := by rfl)
    (nb : starEach [.Call (.Name "range" p2) [a, b] [] pos2] X.env = (false, eval (.Call (.Name "range" p2) [a, b] [] pos2) X.env) :: starEach [] X.env := by rfl) :
    DE X g (p && q) (.Call (.Name "list" p1) [.Call (.Name "range" p2) [a, b] [] pos2] [] pos) (eLr2 ma mb) := by
  refine PE.imp (pe_listRg hc hl hml (prg_2 hg hm ha hb na nb2 nb3) nb) fun σ H Q ⟨Z, env, fps, s, h⟩ => ⟨Z, env, fps, s, ?_⟩
  unfold eLr2 at h
  cases e : ma env with
  | no => simp [e] at h
  | ex x e1 => simpa [e] using h
  | ok x e1 =>
    intro v Z1 H1 fps1 s1 z1 k1 r1
    cases x with
    | dat d =>
      cases d with
      | int i =>
        simp only [e] at h
        refine ⟨Z1, e1, fps1, s1, ?_⟩
        cases e2 : mb e1 with
        | no => simp [e2] at h
        | ex x e3 => simp only [e2] at h; exact fun cls d Z2 H2 fps2 s2 z2 xr => h cls d Z2 H2 fps2 s2 (z1.trans z2) xr
        | ok y e3 =>
          intro u Z2 H2 fps2 s2 z2 k2 r2
          cases y with
          | dat d2 =>
            cases d2 with
            | int j =>
              simp only [e2] at h
              split at h
              · rename_i hn
                cases r1
                cases r2
                refine ⟨i, j, rfl, rfl, hn, fun q hq => ?_⟩
                have f := Fresh.new (o := .lst (rgV i j)) s2.sub hq
                refine h (.ref q) _ _ fps2 (s2.fresh f) (z1.trans z2) (fun hp => ?_) ((NewR.lst (mg := g.mg) s2.sub hq (rg_rd i j)).ev s2)
                simp only [Bool.and_eq_true] at hp
                obtain ⟨a1, a2, a3⟩ := k1 hp.1
                obtain ⟨b1, b2, b3⟩ := k2 hp.2
                exact ⟨b1.trans a1, b2.trans a2, (a3.trans b3).trans f.h⟩
              · exact h.elim
            | _ => simp [e2] at h
          | _ => simp [e2] at h
      | _ => simp [e] at h
    | _ => simp [e] at h
end
/-! ### the end -/
def notList (o : Obj) : Bool := match o.cls with
  | .type "list" => false
  | _ => true
def frE (g : Addr → Option Obj) (as : List Addr) : PySem.W.Frag := (He.frG g as).filter fun p => notList p.2
theorem frE_lookup : ∀ {l : PySem.W.Frag} {a : Addr} {o : Obj}, (l.filter fun p => notList p.2).lookup a = some o → (a, o) ∈ l ∧ notList o = true
  | [], _, _, e => by cases e
  | (b, u) :: l, a, o, e => by
    rw [List.filter_cons] at e
    by_cases c : notList u = true
    · rw [if_pos c] at e
      by_cases d : a = b
      · subst d
        simp [List.lookup] at e
        subst e
        exact ⟨List.mem_cons_self, c⟩
      · have : (a == b) = false := by simpa using d
        simp only [List.lookup, this] at e
        obtain ⟨h1, h2⟩ := frE_lookup e
        exact ⟨List.mem_cons_of_mem _ h1, h2⟩
    · rw [if_neg c] at e
      obtain ⟨h1, h2⟩ := frE_lookup e
      exact ⟨List.mem_cons_of_mem _ h1, h2⟩
theorem frG_mem {g : Addr → Option Obj} {as : List Addr} {p : Addr × Obj} (h : p ∈ He.frG g as) : g p.1 = some p.2 := by
  unfold He.frG at h
  obtain ⟨a, _, e⟩ := List.mem_filterMap.mp h
  cases q : g a with
  | none => rw [q] at e; cases e
  | some o => rw [q] at e; cases e; exact q
def obsEG (n : Nat) (fa : List He.Fa) (fn : List He.DefD) (g : Addr → Option Obj) : He.AlD := He.obsD fa fn (frE g (He.asD g n))
def hookE (n : Nat) (fa : List He.Fa) (fn : List He.DefD) : PySem.W.Hook where
  α := He.AlD
  obs := fun s => obsEG n fa fn s.heap.get?
  val := fun _ => He.valD fn
  says := fun _ h => ∃ K : PySem.W.Frag, K.In h ∧ He.SaysD fa fn K ∧ ∀ a o, K.lookup a = some o → notList o = true
  of := fun _ s e => ⟨_, fun a o q => frG_mem (frE_lookup q).1, e, fun a o q => (frE_lookup q).2⟩
  keeps := fun _ _ _ ⟨K, hK, c, nl⟩ k => ⟨K, PySem.W.Frag.In.keeps hK k, c, nl⟩
theorem obsEG_eq {n : Nat} {fa : List He.Fa} {fn : List He.DefD} {g : Addr → Option Obj} {s : Shared} (h : ∀ a, g a = s.heap.get? a) : obsEG n fa fn g = (hookE n fa fn).obs s := by
  have e : g = s.heap.get? := funext h
  rw [e] <;> rfl
/-- the law's own promise, from what its mirror answers -/
theorem law_sp {K : PySem.W.Frag} {mg : Str → Option Value} {fm : FM} (nl : ∀ a o, K.lookup a = some o → notList o = true) {ns : List Int} (hm : fm [.dat (.scr ns)] = .ok (.dat (.bl true)) []) {H : Hp} {a : Addr} (hO : Only H) (hS : SqL K H a (ns.map V.int)) :
    spF mg 1 fm [.ref a] H (fun v _ => v = .bl true) fun _ _ _ => False := by
  have ha : ∃ o, H a = some (.frz o (.lst (ns.map V.int))) := by
    rcases hS with (h | h) | ⟨o, its, n, h1, h2, _⟩
    · rcases hO a with q | ⟨o, xs, q⟩
      · rw [q] at h; cases h
      · rw [q] at h; cases h
    · exact h
    · have := nl a o h1
      unfold notList at this
      rw [h2] at this
      cases this
  obtain ⟨o, ha⟩ := ha
  refine ⟨rfl, H, [.dat (.scr ns)], fun _ => [], [], ⟨rfl, .refl _, fun i x e => ?_, fun _ _ => rfl, fun i j a m => by simp at m, fun _ => List.nodup_nil, fun i a m => by simp at m, .refl _, fun b o e _ => e, fun b o e => .inl e, fun i a m => by simp at m, fun i hi => by cases hi⟩, fun i a m => by simp at m, ?_⟩
  · cases i with
    | zero => simp at e; subst e; exact ⟨rfl, .ref a, rfl, .scr ha⟩
    | succ i => simp at e
  · rw [hm]
    intro v Z' H' fps' s' r
    cases r
    rfl
/-- where nothing is to be let out, nothing is -/
theorem nothing_out {P : Program} {w : World} {K : PySem.W.Frag} {mg : Str → Option Value} {base : Heap} {k : Nat} {f : Addr} {fd : FuncData} {ps : List Str} {sp : Sp} (F : FnOk P w K mg base (L2N.CX P w) k f fd ps sp) :
    FnOk P w K mg base CX0 k f fd ps (fun vs H Q _ => sp vs H Q fun _ _ _ => False) := by
  refine ⟨fun vs H Q E h => F.len _ _ _ _ h, fun A outer s H args us vs Q E hr e0 hb hv hs => codeAny_mono (F.run A outer s H args us vs Q (fun _ _ _ => False) hr e0 hb hv hs) fun r s' hq => ?_⟩
  cases r with
  | error e =>
    obtain ⟨_, _, _, _, _, _, _, _, _, _, _, _, z⟩ := hq
    exact z.elim
  | ok fl =>
    cases fl with
    | ret u => exact hq
    | next => exact hq
    | brk => exact hq
    | cont => exact hq
theorem law_end {l : PySem.W.OpenLaw} {k : Nat} {q : Program} {loose : List Str} {n : Nat} {fa : List He.Fa} {fn : List He.DefD} {d : DefRec} {fm : FM} {XP : (Str → Option Value) → Heap → Prop} (hn : l.most = some 63) (hdf : d.params.defaults = []) (hr : Room k callerA) (hd : d.name = ("law" : Str))
    (F : ∀ (w : World) (K : PySem.W.Frag) (mg : Str → Option Value) (h : Heap), K.In h → h.Ns mainGlobals mg → He.SaysD fa fn K → ∃ f fd, mg "law" = some (.ref f) ∧ (∀ (s : Shared) (v : Value), BindsTo s fd ⟨[v], []⟩ [("script", v)]) ∧
      ∀ base : Heap, K.In base → base.Ns mainGlobals mg → FnOk l.prog w K mg base (L2N.CX l.prog w) k f fd ["script"] (spF mg 1 fm))
    (hm : ∀ ns : List Int, ns.length ≤ 63 → fm [.dat (.scr ns)] = .ok (.dat (.bl true)) []) :
    PySem.W.WalkO q loose XP (hookE n fa fn).says l.row.toRowW d [] (fun f vs => PySem.call f vs) := by
  refine L2.walk_ofE (l := l) (n := 63) (k := k) (x := "script") (CX := L2.CX0) hn (by decide) hdf hr ?_ (fun _ _ _ _ z => z)
  intro w mg f h Y G hmg
  obtain ⟨K, KX, c, nl⟩ := Y
  obtain ⟨f', fd, h1, h2, h3⟩ := F w K mg h KX G c
  rw [hd, h1] at hmg
  cases hmg
  exact ⟨K, fd, fun vs H Q _ => spF mg 1 fm vs H Q fun _ _ _ => False, KX, h2, fun H a ns hl hO hS => law_sp nl (hm ns hl) hO hS, fun base KB GB => nothing_out (h3 base KB GB)⟩
end DL
namespace DL
open PySem PySem.Spec PyProof.Rows L2
section
variable {X : Cx} {g : Gx}
theorem not_pin {i : Nat} (h : g.pins.contains i = false) : i ∉ g.pins := fun m => by
  have : g.pins.contains i = true := by simpa using m
  rw [h] at this; cases this
theorem all_pin {own : List Nat} (h : own.all (fun i => !g.pins.contains i) = true) : ∀ i ∈ own, i ∉ g.pins := fun i m => not_pin (by
  have := List.all_eq_true.mp h i m
  simpa using this)
theorem all_sub {ts own : List Nat} (h : ts.all (fun i => own.contains i) = true) : ∀ i ∈ ts, i ∈ own := fun i m => by
  have := List.all_eq_true.mp h i m
  simpa using this
/-! the rules with what can be looked up as rfl -/
theorem dx_comp {own : List (Str × Nat)} {p pt pe : Bool} {tg iter elt : Expr} {ifs : List Expr} {scope : Scope} {pos : Pos} {mi : IM} {gm : GM} {tm : TM} {em : EM} {ts : List Nat} (hc : X.calm = true) (hN : X.N.Nodup) (hi : DI X g p tg iter mi) (ok : BlkOk X.N X.env.scope scope own)
    (hg : ∀ (n : En) (s : Shared) (H : Hp) (C : Addr) (cl : List (Str × Addr)) (fp : List Addr), DG (X.blk s H scope (compEnvC scope cl C X.env) fp) (g.blk n) ts tg gm)
    (ht : ∀ (n : En) (s : Shared) (H : Hp) (C : Addr) (cl : List (Str × Addr)) (fp : List Addr), DTs (X.blk s H scope (compEnvC scope cl C X.env) fp) (g.blk n) pt ifs tm)
    (he : ∀ (n : En) (s : Shared) (H : Hp) (C : Addr) (cl : List (Str × Addr)) (fp : List Addr), DE (X.blk s H scope (compEnvC scope cl C X.env) fp) (g.blk n) pe elt em)
    (hpin : (own.map (·.2)).all (fun i => !g.pins.contains i) = true := by rfl) (hts : ts.all (fun i => (own.map (·.2)).contains i) = true := by rfl)
    (hs : ∀ x, foldedSetIterable iter X.env x = pure x := by intro _; rfl) :
    DE X g false (.ListComp elt [⟨tg, iter, ifs, 0⟩] scope pos) (eComp (own.map (·.2)) mi gm tm em) := de_comp hc hN hi ok (all_pin hpin) (all_sub hts) hg ht he hs
theorem ax_comp {i : Nat} {y : Str} {py : Pos} {own : List (Str × Nat)} {p pt pe : Bool} {tg iter elt : Expr} {ifs : List Expr} {scope : Scope} {pos spos : Pos} {mi : IM} {gm : GM} {tm : TM} {em : EM} {ts : List Nat} (hc : X.calm = true) (hN : X.N.Nodup) (hy : X.N[i]? = some y) (hyl : X.env.scope.names.lookup y = some .local)
    (hsw : swapsWith (.ListComp elt [⟨tg, iter, ifs, 0⟩] scope pos) (some (.Name y py)) spos.line X.env = pure true) (hi : DI X g p tg iter mi) (ok : BlkOk X.N X.env.scope scope own)
    (hg : ∀ (n : En) (s : Shared) (H : Hp) (C : Addr) (cl : List (Str × Addr)) (fp : List Addr), DG (X.blk s H scope (compEnvC scope cl C X.env) fp) (g.blk n) ts tg gm)
    (ht : ∀ (n : En) (s : Shared) (H : Hp) (C : Addr) (cl : List (Str × Addr)) (fp : List Addr), DTs (X.blk s H scope (compEnvC scope cl C X.env) fp) (g.blk n) pt ifs tm)
    (he : ∀ (n : En) (s : Shared) (H : Hp) (C : Addr) (cl : List (Str × Addr)) (fp : List Addr), DE (X.blk s H scope (compEnvC scope cl C X.env) fp) (g.blk n) pe elt em)
    (hpin : (own.map (·.2)).all (fun i => !g.pins.contains i) = true := by rfl) (hts : ts.all (fun i => (own.map (·.2)).contains i) = true := by rfl)
    (hs : ∀ x, foldedSetIterable iter X.env x = pure x := by intro _; rfl) : AsgOk X g false i (.Assign [.Name y py] (.ListComp elt [⟨tg, iter, ifs, 0⟩] scope pos) spos) (eComp (own.map (·.2)) mi gm tm em) := asg_comp hc hN hy hyl hsw hi ok (all_pin hpin) (all_sub hts) hg ht he hs
theorem dx_set {i : Nat} {p : Bool} {st : Stmt} {m : EM} (h : AsgOk X g p i st m) (hp : g.pins.contains i = false := by rfl) : DS X g st (sSet i m) := ds_set h (not_pin hp)
theorem dx_own {i : Nat} {p : Bool} {st : Stmt} {m : EM} (h : AsgOk X g p i st m) (hp : g.pins.contains i = false := by rfl) : DS X g st (sOwn i m) := ds_own h (not_pin hp)
theorem dx_ali {i : Nat} {p : Bool} {st : Stmt} {m : EM} (h : AsgOk X g p i st m) (hp : g.pins.contains i = false := by rfl) : DS X g st (sAli i m) := ds_ali h (not_pin hp)
theorem dx_name {i : Nat} {x : Str} {pos : Pos} (hN : X.N.Nodup) (hi : X.N[i]? = some x) (hx : Loc X.env.scope x) (hp : g.pins.contains i = false := by rfl) (hf : X.fn x = true ∨ X.env.scope.names.lookup x = some .local := by first | exact .inl rfl | exact .inr rfl | assumption) : DG X g [i] (.Name x pos) (gNm i) := dg_name hN hi hx (not_pin hp) hf
theorem dx_par {i j : Nat} {x y : Str} {a b : Expr} {p : Bool} {ma : AM} {px py pt pos : Pos} {kt k2 pt2} (hc : X.calm = true) (hN : X.N.Nodup) (hi : X.N[i]? = some x) (hj : X.N[j]? = some y) (hij : i ≠ j)
    (hx : X.env.scope.names.lookup x = some .local) (hy : X.env.scope.names.lookup y = some .local) (ha : DA X g p [a, b] ma)
    (hw : swappedStores [.Tuple [.Name x px, .Name y py] kt pt] (.Tuple [a, b] k2 pt2) X.env = pure (some [x, y]))
    (hpi : g.pins.contains i = false := by rfl) (hpj : g.pins.contains j = false := by rfl)
    (hs : swapsWithSole [.Tuple [.Name x px, .Name y py] kt pt] (.Tuple [a, b] k2 pt2) pos.line X.env = pure false := by rfl) :
    DS X g (.Assign [.Tuple [.Name x px, .Name y py] kt pt] (.Tuple [a, b] k2 pt2) pos) (sPar i j ma) := ds_par hc hN hi hj hij hx hy ha (not_pin hpi) (not_pin hpj) hw hs
theorem dx_par3 {i j l : Nat} {x y z : Str} {a b c : Expr} {p : Bool} {ma : AM} {px py pz pt pos : Pos} {kt k2 pt2} (hc : X.calm = true) (hN : X.N.Nodup) (hi : X.N[i]? = some x) (hj : X.N[j]? = some y) (hl : X.N[l]? = some z) (hij : i ≠ j) (hil : i ≠ l) (hjl : j ≠ l)
    (hx : X.env.scope.names.lookup x = some .local) (hy : X.env.scope.names.lookup y = some .local) (hz : X.env.scope.names.lookup z = some .local) (ha : DA X g p [a, b, c] ma)
    (hw : swappedStores [.Tuple [.Name x px, .Name y py, .Name z pz] kt pt] (.Tuple [a, b, c] k2 pt2) X.env = pure (some [x, y, z]))
    (hpi : g.pins.contains i = false := by rfl) (hpj : g.pins.contains j = false := by rfl) (hpl : g.pins.contains l = false := by rfl)
    (hs : swapsWithSole [.Tuple [.Name x px, .Name y py, .Name z pz] kt pt] (.Tuple [a, b, c] k2 pt2) pos.line X.env = pure false := by rfl) :
    DS X g (.Assign [.Tuple [.Name x px, .Name y py, .Name z pz] kt pt] (.Tuple [a, b, c] k2 pt2) pos) (sPar3 i j l ma) := ds_par3 hc hN hi hj hl hij hil hjl hx hy hz ha (not_pin hpi) (not_pin hpj) (not_pin hpl) hw hs
end
/-! ### the built-ins' names -/
theorem bt_len : bootBuiltins "len" = some (.builtin "len") := by decide +kernel
theorem bt_abs : bootBuiltins "abs" = some (.builtin "abs") := by decide +kernel
theorem bt_max : bootBuiltins "max" = some (.builtin "max") := by decide +kernel
theorem bt_min : bootBuiltins "min" = some (.builtin "min") := by decide +kernel
theorem bt_sum : bootBuiltins "sum" = some (.builtin "sum") := by decide +kernel
theorem bt_any : bootBuiltins "any" = some (.builtin "any") := by decide +kernel
theorem bt_all : bootBuiltins "all" = some (.builtin "all") := by decide +kernel
theorem bt_sorted : bootBuiltins "sorted" = some (.builtin "sorted") := by decide +kernel
theorem bt_isinstance : bootBuiltins "isinstance" = some (.builtin "isinstance") := by decide +kernel
theorem bt_int : bootBuiltins "int" = some (.type "int") := by decide +kernel
theorem bt_bool : bootBuiltins "bool" = some (.type "bool") := by decide +kernel
theorem bt_str : bootBuiltins "str" = some (.type "str") := by decide +kernel
theorem bt_list : bootBuiltins "list" = some (.type "list") := by decide +kernel
theorem bt_tuple : bootBuiltins "tuple" = some (.type "tuple") := by decide +kernel
theorem bt_dict : bootBuiltins "dict" = some (.type "dict") := by decide +kernel
/-! ### the head's facts -/
def mkD (x : Str) (st : Stmt) : He.DefD := ⟨(x, none), x, x, defArgs st, defBody st, defScope st, [], []⟩
theorem def_at {K : PySem.W.Frag} {h : Heap} {mg : Str → Option Value} {fa : List He.Fa} {fn : List He.DefD} {x : Str} {ps : List Str} {st : Stmt} (KX : K.In h) (G : h.Ns mainGlobals mg) (c : He.SaysD fa fn K) (i : Nat) (hi : fn[i]? = some (mkD x st)) (j : Nat) (hj : fa[j]? = some (.glo x))
    (hb : ∀ (kV doc pm : Value) (an : Option Addr) (cdv ct : Value) (us : List Value), us.length = ps.length → bindArgs (PySem.W.fnOf x x (defArgs st) (defBody st) (defScope st) .none kV doc pm an cdv ct) ⟨us, []⟩ = pure (ps.zip us)) : DefAt K mg x ps st := by
  obtain ⟨fd, F⟩ := c.def_ i hi
  exact ⟨_, fd, F, He.glo_ok KX G (c.fact j hj), FunD.bindsN F hb⟩
theorem law_at {K : PySem.W.Frag} {h : Heap} {mg : Str → Option Value} {fa : List He.Fa} {fn : List He.DefD} {x : Str} {ps : List Str} {st : Stmt} (KX : K.In h) (G : h.Ns mainGlobals mg) (c : He.SaysD fa fn K) (i : Nat) (hi : fn[i]? = some (mkD x st)) (j : Nat) (hj : fa[j]? = some (.glo x))
    (hb : ∀ (kV doc pm : Value) (an : Option Addr) (cdv ct : Value) (us : List Value), us.length = ps.length → bindArgs (PySem.W.fnOf x x (defArgs st) (defBody st) (defScope st) .none kV doc pm an cdv ct) ⟨us, []⟩ = pure (ps.zip us)) :
    ∃ f fd, FunD K x x (defArgs st) (defBody st) (defScope st) [] [] f fd ∧ mg x = some (.ref f) ∧ ∀ (s : Shared) (us : List Value), us.length = ps.length → BindsTo s fd ⟨us, []⟩ (ps.zip us) := by
  obtain ⟨fd, F⟩ := c.def_ i hi
  exact ⟨_, fd, F, He.glo_ok KX G (c.fact j hj), FunD.bindsA F hb⟩
end DL
namespace DL
open PySem PySem.Spec PyProof.Rows L2
theorem fnat_zero {P : Program} {w : World} {K : PySem.W.Frag} {mg : Str → Option Value} {base : Heap} {k : Nat} {x : Str} {ps : List Str} {st : Stmt} (F : DefAt K mg x ps st) : FnAt P w K mg base k x ps ps.length (fun _ => .no) := by
  obtain ⟨f, fd, h1, h2, h3⟩ := F.ex
  exact ⟨f, fd, ⟨fun vs H Q E h => h.1, fun A outer s H args us vs Q E hr e0 hb hv hs => by
    obtain ⟨_, _, _, _, _, _, _, po⟩ := hs
    exact po.elim⟩, h2, h1.kp, h3⟩
end DL
namespace DL
open PySem L2
theorem units65 {k : Nat} {A : Around} (hr : Room k A) : A.units + 65 < cLine := by have := hr.un; omega
end DL
namespace DL
open PySem PySem.Spec PyProof.Rows L2
/-! ### instances -/
theorem StR.insAt {g : Gx} {Z H : Hp} {env : Ve} {σ : L2.St} {fps : Nat → List Addr} (s : StR g Z env σ H fps) {j : Nat} {p : List Str} {c : Str} {fs : List (Str × O)} (hg : getP env j p = some (.ins c fs)) {vj v : V} (hσ : σ[j]? = some (some vj)) (hw : walk H vj p = some v) :
    ∃ a C dx vfs fp, v = .ref a ∧ H a = some (.ins C dx vfs) ∧ g.mg c = some (.ref C) ∧ OwnF g.mg Z H vfs fs fp := by
  unfold getP at hg
  split at hg
  · rename_i t ht
    obtain ⟨v0, h1, ow⟩ := s.slot j _ ht
    rw [hσ] at h1
    cases h1
    obtain ⟨v', fp', h4, h5, _⟩ := ow.get hg
    rw [hw] at h4
    cases h4
    cases h5 with
    | ins h hm r => exact ⟨_, _, _, _, _, rfl, h, hm, r⟩
  · cases hg
theorem walk_app {H : Hp} : ∀ {p q : List Str} {v u : V}, walk H v p = some u → walk H v (p ++ q) = walk H u q
  | [], q, v, u, h => by unfold walk at h; cases h; rfl
  | f :: p, q, v, u, h => by
    cases v with
    | ref a =>
      show (match H a with
        | some (.ins _ _ fs) => (fs.lookup f).bind fun u => walk H u (p ++ q)
        | some (.tup vs) => (vs[ixF f]?).bind fun u => walk H u (p ++ q)
        | _ => none) = _
      unfold walk at h
      split at h
      · rename_i C dx fs ha
        try rw [ha]
        show (fs.lookup f).bind (fun u => walk H u (p ++ q)) = walk H u q
        cases e : fs.lookup f with
        | none => rw [e] at h; cases h
        | some w => rw [e] at h; exact walk_app (p := p) h
      · rename_i fs ha
        try rw [ha]
        show (fs[ixF f]?).bind (fun u => walk H u (p ++ q)) = walk H u q
        cases e : fs[ixF f]? with
        | none => rw [e] at h; cases h
        | some w => rw [e] at h; exact walk_app (p := p) h
      · cases h
    | _ => simp [walk] at h
/-- the class c has the field's name nowhere -/
def FldOk (K : PySem.W.Frag) (mg : Str → Option Value) (c f : Str) : Prop := ∀ C, mg c = some (.ref C) → Cls K C ∧ NoAttr K C f
/-- o.f, o of the class c -/
def eFld (c f : Str) (m : EM) : EM := fun env => (m env).bind fun x e => match x with
  | .pl j p => match getP e j p with
    | some (.ins c' fs) => if c' = c then match O.get.getF fs f with
      | some (.dat d) => .ok (.dat d) e
      | some _ => .ok (.pl j (p ++ [f])) e
      | none => .no
      else .no
    | _ => .no
  | _ => .no
section
variable {X : Cx} {g : Gx}
theorem de_fld {c f : Str} {p : Bool} {e : Expr} {m : EM} {pos : Pos} (he : DE X g p e m) (hC : FldOk X.K g.mg c f) (hb : attributeBase e f X.env (eval e X.env) = eval e X.env := by rfl) : DE X g p (.Attribute e f pos) (eFld c f m) := by
  refine PE.imp (pe_fld he hb) fun σ H Q ⟨Z, env, fps, s, h⟩ => ⟨Z, env, fps, s, ?_⟩
  unfold eFld at h
  cases e1 : m env with
  | no => simp [e1] at h
  | ex x e2 => simpa [e1] using h
  | ok x e2 =>
    simp only [e1, Res.bind_ok] at h
    intro v Z1 H1 fps1 s1 z1 k1 r1
    cases x with
    | pl j pp =>
      obtain ⟨vj, hσ, hw⟩ := r1
      simp only at h
      split at h
      case h_2 => exact h.elim
      rename_i c' fs hg
      split at h
      case isFalse => exact h.elim
      rename_i hc
      subst hc
      obtain ⟨a, C, dx, vfs, fp, rfl, ha, hm, ow⟩ := s1.insAt hg hσ hw
      obtain ⟨h1, h2⟩ := hC C hm
      split at h
      · rename_i d hf
        obtain ⟨v', f', q1, q2, _⟩ := ow.get hf
        cases q2 with
        | dat rd => exact ⟨a, C, dx, vfs, v', rfl, ha, h1, h2, q1, h v' Z1 H1 fps1 s1 z1 k1 rd⟩
      · rename_i t hnd hf
        obtain ⟨v', f', q1, q2, _⟩ := ow.get hf
        refine ⟨a, C, dx, vfs, v', rfl, ha, h1, h2, q1, h v' Z1 H1 fps1 s1 z1 k1 ⟨vj, hσ, ?_⟩⟩
        rw [walk_app hw]
        unfold walk
        rw [ha]
        show (vfs.lookup f).bind _ = _
        rw [q1]
        simp [walk]
      · exact h.elim
    | _ => exact h.elim
end
end DL
namespace DL
open PySem PySem.Spec PyProof.Rows L2
/-! ### comprehensions with two fors -/
def compI (own1 : List Nat) (gm1 : GM) (tm1 : TM) (em : EM) : List D → Ve → List D → Option (Ve × List D)
  | [], e, acc => some (e, acc)
  | d :: ds, e, acc => if freeV own1 e = true then match gm1 d (wipeV own1 e) with
      | none => none
      | some e2 => match tm1 e2 with
        | .ok true e3 => match hold true (em e3) with
          | .ok (.dat x) e4 => if acc.length < lim ∧ freeV own1 e4 = true ∧ e4.length = e.length then compI own1 gm1 tm1 em ds (restV own1 e e4) (acc ++ [x]) else none
          | _ => none
        | .ok false e3 => if freeV own1 e3 = true ∧ e3.length = e.length then compI own1 gm1 tm1 em ds (restV own1 e e3) acc else none
        | _ => none
    else none
def compL2 (own own1 : List Nat) (gm : GM) (tm : TM) (im1 : IM) (gm1 : GM) (tm1 : TM) (em : EM) : List D → Ve → List D → Res Ev
  | [], e, acc => .ok (.new (.lst acc)) e
  | d :: ds, e, acc => if freeV own e = true then match gm d (wipeV own e) with
      | none => .no
      | some e2 => match tm e2 with
        | .ok true e3 => match im1 e3 with
          | .ok ds1 e4 => match compI own1 gm1 tm1 em ds1 e4 acc with
            | some (e5, acc') => if freeV own e5 = true ∧ e5.length = e.length then compL2 own own1 gm tm im1 gm1 tm1 em ds (restV own e e5) acc' else .no
            | none => .no
          | _ => .no
        | .ok false e3 => if freeV own e3 = true ∧ e3.length = e.length then compL2 own own1 gm tm im1 gm1 tm1 em ds (restV own e e3) acc else .no
        | _ => .no
    else .no
def eComp2 (own own1 : List Nat) (im : IM) (gm : GM) (tm : TM) (im1 : IM) (gm1 : GM) (tm1 : TM) (em : EM) : EM := fun env => (im env).bind fun ds e1 => compL2 own own1 gm tm im1 gm1 tm1 em ds e1 []
/-- a list that grows beside -/
structure AtD (g : Gx) (D : Addr) (Z : Hp) (e : Ve) (σ : L2.St) (H : Hp) (fps : Nat → List Addr) (vs : List V) (acc : List DL.D) : Prop where
  s : StR g Z e σ H fps
  h : H D = some (.lst vs)
  r : RDs Z vs acc
  z : Z D = none
  f : ∀ k, D ∉ fps k
section
variable {g : Gx} {D : Addr} {Z Z' H H' : Hp} {e e' : Ve} {σ σ' : L2.St} {fps fps' : Nat → List Addr} {vs : List V} {acc : List DL.D}
theorem AtD.fresh (a : AtD g D Z e σ H fps vs acc) (fr : Fresh Z H Z' H') : AtD g D Z' e σ H' fps vs acc where
  s := a.s.fresh fr
  h := fr.h _ _ a.h
  r := a.r.mono fr.z
  z := by
    cases q : Z' D with
    | none => rfl
    | some o =>
      rcases fr.n D o q with k | k
      · rw [a.z] at k; cases k
      · rw [a.h] at k; cases k
  f := a.f
theorem AtD.wipe {own : List Nat} (a : AtD g D Z e σ H fps vs acc) (hf : freeV own e = true) (hp : ∀ i ∈ own, i ∉ g.pins) : AtD g D Z (wipeV own e) (L2.wipe σ own) H fps vs acc := ⟨a.s.wipe hf hp, a.h, a.r, a.z, a.f⟩
theorem AtD.enter (a : AtD g D Z e σ H fps vs acc) : StR (g.blk ⟨Z, H, allF e.length fps, g.n.vs⟩) Z e σ H fps := a.s.enter
theorem AtD.hop (a : AtD g D Z e σ H fps vs acc) (pins : ∀ i ∈ g.pins, ∃ v, g.n.vs[i]? = some v ∧ σ'[i]? = some (some v)) (s' : StR (g.blk ⟨Z, H, allF e.length fps, g.n.vs⟩) Z' e' σ' H' fps') (z : Same Z Z') : AtD g D Z' e' σ' H' fps' vs acc := by
  have hmem : ∀ b ∈ allF e.length fps, ∃ i, b ∈ fps i := fun b m => by
    obtain ⟨k, _, hk⟩ := mem_allF.mp m
    exact ⟨k, hk⟩
  have hDF : D ∉ allF e.length fps := fun m => by
    obtain ⟨k, hk⟩ := hmem _ m
    exact a.f k hk
  refine ⟨a.s.rebase (g' := g.blk _) rfl rfl hmem pins s', s'.e2 D _ a.h hDF, a.r.mono z, ?_, fun k m => ?_⟩
  · cases q : Z' D with
    | none => rfl
    | some o =>
      rcases s'.e3 D o q with k | k | k
      · have k' : Z D = some o := k
        rw [a.z] at k'; cases k'
      · exact (hDF k).elim
      · have k' : H D = none := k
        rw [a.h] at k'; cases k'
  · rcases s'.e4 k D m with q | q
    · exact hDF q
    · have q' : H D = none := q
      rw [a.h] at q'; cases q'
theorem AtD.put {ws : List V} {acc' : List DL.D} (a : AtD g D Z e σ H fps vs acc) (hE : D ∈ g.n.F0 ∨ g.n.H0 D = none) (r : RDs Z ws acc') : AtD g D Z e σ (upd H D (.lst ws)) fps ws acc' :=
  ⟨a.s.beside a.h a.z a.f hE, upd_same, r, a.z, a.f⟩
theorem AtD.rest {own : List Nat} {Z0 H0 : Hp} {e0 : Ve} {σ0 : L2.St} {fps0 : Nat → List Addr} (s0 : StR g Z0 e0 σ0 H0 fps0) (z : Same Z0 Z) (a : AtD g D Z e σ H fps vs acc) (hl : e.length = e0.length) (hf : freeV own e = true) (hσ : ∀ k, k ∉ own → σ[k]? = σ0[k]?) : AtD g D Z (restV own e0 e) σ0 H fps vs acc :=
  ⟨s0.rest z a.s hl hf hσ, a.h, a.r, a.z, a.f⟩
theorem AtD.start (s : StR g Z e σ H fps) (hD : H D = none) : AtD g D Z e σ (upd H D (.lst [])) fps [] [] where
  s := s.fresh (.new s.sub hD)
  h := upd_same
  r := .nil
  z := by
    cases q : Z D with
    | none => rfl
    | some o => rw [s.sub _ _ q] at hD; cases hD
  f := (s.new0 hD).1
end
section
variable {X : Cx} {g : Gx}
theorem wiped_get {ow : List Nat} {σ σ4 : L2.St} {ts : List Nat} (hts : ∀ i ∈ ts, i ∈ ow) (hl : σ4.length = (L2.wipe σ ow).length) (h : ∀ k, k ∉ ts → σ4[k]? = (L2.wipe σ ow)[k]?) : σ4.length = σ.length ∧ (∀ k, k ∉ ow → σ4[k]? = σ[k]?) ∧ L2.wipe σ4 ow = L2.wipe σ ow := by
  have hl' : σ4.length = σ.length := by rw [hl, wipe_length]
  have q : ∀ k, k ∉ ow → σ4[k]? = σ[k]? := fun k hk => by
    rw [h k fun m => hk (hts k m)]
    by_cases hkl : k < σ.length
    · rw [wipe_get ow σ hkl, if_neg hk]
    · rw [List.getElem?_eq_none (by rw [wipe_length]; omega), List.getElem?_eq_none (by omega)]
  exact ⟨hl', q, wipe_eq hl' q⟩
theorem comp2_run {ow ow1 : List Nat} {p pt p1 pt1 pe : Bool} {mi : IM} {gm : GM} {tm : TM} {im1 : IM} {gm1 : GM} {tm1 : TM} {em : EM} {ts ts1 : List Nat} (hpin : ∀ i ∈ ow, i ∉ g.pins) (hts : ∀ i ∈ ts, i ∈ ow) (how : ∀ i ∈ ow1, i ∈ ow) (hts1 : ∀ i ∈ ts1, i ∈ ow1) {σ : L2.St} {H : Hp} {Q : VK}
    (h : tE g false (eComp2 ow ow1 mi gm tm im1 gm1 tm1 em) σ H Q) :
    tLc2 (tR g p (fun Z' _ _ _ J ds => ItOk J Z' ds) mi) (fun v σ H Q => ∃ n, tGm (g.blk n) ts gm v σ H Q) (fun σ H Q => ∃ n, tT (g.blk n) pt tm σ H Q)
      (fun σ H Q => ∃ n, tR (g.blk n) p1 (fun Z' _ _ _ J ds => ItOk J Z' ds) im1 σ H Q) (fun v σ H Q => ∃ n, tGm (g.blk n) ts1 gm1 v σ H Q) (fun σ H Q => ∃ n, tT (g.blk n) pt1 tm1 σ H Q)
      (fun σ H Q => ∃ n, tE (g.blk n) pe em σ H Q) ow ow1 σ H Q := by
  obtain ⟨Z, env, fps, s, h⟩ := h
  refine ⟨Z, env, fps, s, ?_⟩
  unfold eComp2 at h
  cases e : mi env with
  | no => simp [e] at h
  | ex x e1 => simpa [e] using h
  | ok ds e1 =>
    simp only [e, Res.bind_ok] at h
    intro J Z1 H1 fps1 s1 z1 _ it D hD
    let W : Nat → Nat → Hp → Prop := fun i m H2 => m = ds.length - i ∧ i ≤ ds.length ∧ ∃ Z2 e2 fps2 acc vs, AtD g D Z2 e2 σ H2 fps2 vs acc ∧ Same Z1 Z2 ∧
      Post g false (EvR g) Z env σ H fps Q (compL2 ow ow1 gm tm im1 gm1 tm1 em (ds.drop i) e2 acc)
    have hst : D ∈ g.n.F0 ∨ g.n.H0 D = none := (s1.new0 hD).2
    have hpin1 : ∀ i ∈ ow1, i ∉ g.pins := fun i m => hpin i (how i m)
    refine ⟨W, ⟨ds.length, by omega, Nat.zero_le _, Z1, e1, fps1, [], [], .start s1 hD, .refl _, by simpa using h⟩, ?_⟩
    rintro i m H2 ⟨rfl, hi2, Z2, e2, fps2, acc, vs, a2, z2, po⟩
    by_cases hlt : i < ds.length
    case neg =>
      left
      have hi3 : i = ds.length := by omega
      subst hi3
      refine ⟨it.stop Z2 H2 z2 a2.s.sub, ?_⟩
      rw [List.drop_length] at po
      simp only [compL2] at po
      exact po (.ref D) Z2 H2 fps2 a2.s (z1.trans z2) (fun q => by cases q) ⟨[D], .lst a2.h a2.r, by simp, fun a m => by
        have ea : a = D := by simpa using m
        subst ea
        exact ⟨a2.z, a2.f, hst⟩⟩
    right
    have hd : ds[i]? = some ds[i] := List.getElem?_eq_getElem hlt
    obtain ⟨go, yl⟩ := it.go i _ hd Z2 H2 z2 a2.s.sub
    refine ⟨go, fun H' => ∃ m', m' < ds.length - i ∧ W (i + 1) m' H', fun H' x => x, fun x H3 hy => ?_⟩
    obtain ⟨Z3, fr, rx⟩ := yl x H3 hy
    have a3 := a2.fresh fr
    rw [show ds.drop i = ds[i] :: ds.drop (i + 1) from (List.drop_eq_getElem_cons hlt)] at po
    simp only [compL2] at po
    split at po
    case isFalse => exact po.elim
    rename_i hfree
    have a3w := a3.wipe hfree hpin
    refine ⟨_, Z3, wipeV ow e2, fps2, ds[i], a3w.enter, rx, ?_⟩
    split at po
    · exact po.elim
    rename_i e4 hgm
    rw [hgm]
    intro Z4 σ4 H4 fps4 s4 z4 hl4 hσ4
    obtain ⟨hl4', hσ4', hw4⟩ := wiped_get hts hl4 hσ4
    refine ⟨hw4, ?_⟩
    have pins4 : ∀ i ∈ g.pins, ∃ v, g.n.vs[i]? = some v ∧ σ4[i]? = some (some v) := fun i hi => by
      obtain ⟨v, h1, h2⟩ := a3.s.pin i hi
      refine ⟨v, h1, ?_⟩
      rw [hσ4' i fun m => hpin i m hi]
      exact h2
    have a4 := a3w.hop pins4 s4 z4
    -- on to the next turn of the outer loop
    have nextW : ∀ {Z5 H5 : Hp} {e5 : Ve} {fps5 : Nat → List Addr} {acc' : List DL.D} {ws : List V}, AtD g D Z5 e5 σ4 H5 fps5 ws acc' → Same Z3 Z5 → freeV ow e5 = true → e5.length = e2.length →
        Post g false (EvR g) Z env σ H fps Q (compL2 ow ow1 gm tm im1 gm1 tm1 em (ds.drop (i + 1)) (restV ow e2 e5) acc') → ∃ m', m' < ds.length - i ∧ W (i + 1) m' H5 := fun {Z5 H5 e5 fps5 acc' ws} a5 z5 hf5 hl5 po5 =>
      ⟨ds.length - (i + 1), by omega, rfl, hlt, Z5, restV ow e2 e5, fps5, acc', ws, .rest a3.s z5 a5 hl5 hf5 hσ4', (z2.trans fr.z).trans z5, po5⟩
    refine ⟨_, Z4, e4, fps4, a4.enter, ?_⟩
    cases et : tm e4 with
    | no => simp [et] at po
    | ex x e5 => simp [et] at po
    | ok b e5 =>
      rw [et] at po
      intro b' Z5 H5 fps5 s5 z5 _ rb
      subst rb
      have a5 := a4.hop pins4 s5 z5
      cases b' with
      | false =>
        simp only at po
        rw [if_neg Bool.false_ne_true]
        split at po
        · rename_i hf5
          exact nextW a5 (z4.trans z5) hf5.1 hf5.2 po
        · exact po.elim
      | true =>
        simp only at po
        rw [if_pos rfl]
        refine ⟨_, Z5, e5, fps5, a5.enter, ?_⟩
        cases ei : im1 e5 with
        | no => simp [ei] at po
        | ex x e6 => simp [ei] at po
        | ok ds1 e6 =>
          rw [ei] at po
          simp only at po
          intro J1 Z6 H6 fps6 s6 z6 _ it1
          have a6 := a5.hop pins4 s6 z6
          have z36 : Same Z3 Z6 := (z4.trans z5).trans z6
          -- the inner loop
          let W1 : Nat → Nat → Hp → Prop := fun j k H7 => k = ds1.length - j ∧ j ≤ ds1.length ∧ ∃ Z7 e7 fps7 acc7 vs7, AtD g D Z7 e7 σ4 H7 fps7 vs7 acc7 ∧ Same Z6 Z7 ∧
            compI ow1 gm1 tm1 em ds1 e6 acc = compI ow1 gm1 tm1 em (ds1.drop j) e7 acc7
          refine ⟨W1, ⟨ds1.length, by omega, Nat.zero_le _, Z6, e6, fps6, acc, vs, a6, .refl _, by simp⟩, ?_⟩
          rintro j k H7 ⟨rfl, hj2, Z7, e7, fps7, acc7, vs7, a7, z7, ec⟩
          rw [ec] at po
          by_cases hlt1 : j < ds1.length
          case neg =>
            left
            have hj3 : j = ds1.length := by omega
            subst hj3
            refine ⟨it1.stop Z7 H7 z7 a7.s.sub, ?_⟩
            rw [List.drop_length] at po
            simp only [compI] at po
            split at po
            · rename_i hf7
              exact nextW a7 (z36.trans z7) hf7.1 hf7.2 po
            · exact po.elim
          right
          have hd1 : ds1[j]? = some ds1[j] := List.getElem?_eq_getElem hlt1
          obtain ⟨go1, yl1⟩ := it1.go j _ hd1 Z7 H7 z7 a7.s.sub
          refine ⟨go1, fun H' => ∃ k', k' < ds1.length - j ∧ W1 (j + 1) k' H', fun H' x => x, fun x1 H8 hy1 => ?_⟩
          obtain ⟨Z8, fr1, rx1⟩ := yl1 x1 H8 hy1
          have a8 := a7.fresh fr1
          rw [show ds1.drop j = ds1[j] :: ds1.drop (j + 1) from (List.drop_eq_getElem_cons hlt1)] at po ec
          simp only [compI] at po ec
          by_cases hfree1 : freeV ow1 e7 = true
          case neg => rw [if_neg hfree1] at po; simp at po
          rw [if_pos hfree1] at ec po
          have a8w := a8.wipe hfree1 hpin1
          refine ⟨_, Z8, wipeV ow1 e7, fps7, ds1[j], a8w.enter, rx1, ?_⟩
          cases hgm1 : gm1 ds1[j] (wipeV ow1 e7) with
          | none => rw [hgm1] at po; simp at po
          | some e9 =>
          rw [hgm1] at po ec
          simp only at po ec
          intro Z9 σ9 H9 fps9 s9 z9 hl9 hσ9
          obtain ⟨hl9', hσ9', hw9⟩ := wiped_get hts1 hl9 hσ9
          refine ⟨hw9, ?_⟩
          have pins9 : ∀ i ∈ g.pins, ∃ v, g.n.vs[i]? = some v ∧ σ9[i]? = some (some v) := fun i hi => by
            obtain ⟨v, h1, h2⟩ := a8.s.pin i hi
            refine ⟨v, h1, ?_⟩
            rw [hσ9' i fun m => hpin1 i m hi]
            exact h2
          have a9 := a8w.hop pins9 s9 z9
          have nextW1 : ∀ {Z5 H5 : Hp} {e5 : Ve} {fps5 : Nat → List Addr} {acc' : List DL.D} {ws : List V}, AtD g D Z5 e5 σ9 H5 fps5 ws acc' → Same Z8 Z5 → freeV ow1 e5 = true → e5.length = e7.length →
              compI ow1 gm1 tm1 em ds1 e6 acc = compI ow1 gm1 tm1 em (ds1.drop (j + 1)) (restV ow1 e7 e5) acc' → ∃ m', m' < ds1.length - j ∧ W1 (j + 1) m' H5 := fun {Z5 H5 e5 fps5 acc' ws} a5 z5 hf5 hl5 po5 =>
            ⟨ds1.length - (j + 1), by omega, rfl, hlt1, Z5, restV ow1 e7 e5, fps5, acc', ws, .rest a8.s z5 a5 hl5 hf5 hσ9', (z7.trans fr1.z).trans z5, po5⟩
          refine ⟨_, Z9, e9, fps9, a9.enter, ?_⟩
          cases et1 : tm1 e9 with
          | no => rw [et1] at po; simp at po
          | ex x e10 => rw [et1] at po; simp at po
          | ok b e10 =>
            rw [et1] at po ec
            intro b' Z10 H10 fps10 s10 z10 _ rb
            subst rb
            have a10 := a9.hop pins9 s10 z10
            cases b' with
            | false =>
              simp only at po ec
              rw [if_neg Bool.false_ne_true]
              by_cases hf5 : freeV ow1 e10 = true ∧ e10.length = e7.length
              · rw [if_pos hf5] at ec
                exact nextW1 a10 (z9.trans z10) hf5.1 hf5.2 ec
              · rw [if_neg hf5] at po; simp at po
            | true =>
              simp only at po ec
              rw [if_pos rfl]
              refine ⟨_, hold_run (q := true) a10.enter (fun x e11 he11 y Z11 H11 fps11 s11 z11 k11 r11 => ?_) (fun x e11 he11 => ?_) (fun he11 => ?_)⟩
              · rw [he11] at po ec
                cases x with
                | dat d' =>
                  simp only at po ec
                  by_cases hf11 : acc7.length < lim ∧ freeV ow1 e11 = true ∧ e11.length = e7.length
                  · rw [if_pos hf11] at ec
                    have a11 := a10.hop pins9 s11 z11
                    refine ⟨vs7, a11.h, ?_, nextW1 (a11.put hst (a11.r.append (.cons r11 .nil))) ((z9.trans z10).trans z11) hf11.2.1 hf11.2.2 ec⟩
                    rw [a11.r.length]
                    exact Nat.lt_of_lt_of_le hf11.1 (by rw [sizeLine_eq]; exact Nat.le_refl _)
                  · rw [if_neg hf11] at po; simp at po
                | _ => simp at po
              · rw [he11] at po; simp at po
              · rw [he11] at po; simp at po
end
end DL
namespace DL
open PySem PySem.Spec PyProof.Rows L2
section
variable {X : Cx} {g : Gx}
theorem dx_comp2 {own : List (Str × Nat)} {vs1 : List Nat} {p pt p1 pt1 pe : Bool} {tg iter tg1 iter1 elt : Expr} {ifs ifs1 : List Expr} {scope : Scope} {pos : Pos} {mi : IM} {gm : GM} {tm : TM} {im1 : IM} {gm1 : GM} {tm1 : TM} {em : EM} {ts ts1 : List Nat}
    (hc : X.calm = true) (hN : X.N.Nodup) (hi : DI X g p tg iter mi) (ok : BlkOk X.N X.env.scope scope own)
    (hg : ∀ (n : En) (s : Shared) (H : Hp) (C : Addr) (cl : List (Str × Addr)) (fp : List Addr), DG (X.blk s H scope (compEnvC scope cl C X.env) fp) (g.blk n) ts tg gm)
    (ht : ∀ (n : En) (s : Shared) (H : Hp) (C : Addr) (cl : List (Str × Addr)) (fp : List Addr), DTs (X.blk s H scope (compEnvC scope cl C X.env) fp) (g.blk n) pt ifs tm)
    (hi1 : ∀ (n : En) (s : Shared) (H : Hp) (C : Addr) (cl : List (Str × Addr)) (fp : List Addr), DI (X.blk s H scope (compEnvC scope cl C X.env) fp) (g.blk n) p1 tg1 iter1 im1)
    (hg1 : ∀ (n : En) (s : Shared) (H : Hp) (C : Addr) (cl : List (Str × Addr)) (fp : List Addr), DG (X.blk s H scope (compEnvC scope cl C X.env) fp) (g.blk n) ts1 tg1 gm1)
    (ht1 : ∀ (n : En) (s : Shared) (H : Hp) (C : Addr) (cl : List (Str × Addr)) (fp : List Addr), DTs (X.blk s H scope (compEnvC scope cl C X.env) fp) (g.blk n) pt1 ifs1 tm1)
    (he : ∀ (n : En) (s : Shared) (H : Hp) (C : Addr) (cl : List (Str × Addr)) (fp : List Addr), DE (X.blk s H scope (compEnvC scope cl C X.env) fp) (g.blk n) pe elt em)
    (hpin : (own.map (·.2)).all (fun i => !g.pins.contains i) = true := by rfl) (hts : ts.all (fun i => (own.map (·.2)).contains i) = true := by rfl) (hv : vs1.all (fun i => (own.map (·.2)).contains i) = true := by rfl) (hts1 : ts1.all (fun i => vs1.contains i) = true := by rfl)
    (hs : ∀ x, foldedSetIterable iter X.env x = pure x := by intro _; rfl) (hs1 : ∀ env x, foldedSetIterable iter1 env x = pure x := by intro _ _; rfl) :
    DE X g false (.ListComp elt [⟨tg, iter, ifs, 0⟩, ⟨tg1, iter1, ifs1, 0⟩] scope pos) (eComp2 (own.map (·.2)) vs1 mi gm tm im1 gm1 tm1 em) := by
  refine PE.imp (pe_lc2 (own := own) (vs1 := vs1) (g := fun v σ H Q => ∃ n, tGm (g.blk n) ts gm v σ H Q) (tt := fun σ H Q => ∃ n, tT (g.blk n) pt tm σ H Q) (wi1 := fun σ H Q => ∃ n, tR (g.blk n) p1 (fun Z' _ _ _ J ds => ItOk J Z' ds) im1 σ H Q)
    (g1 := fun v σ H Q => ∃ n, tGm (g.blk n) ts1 gm1 v σ H Q) (tt1 := fun σ H Q => ∃ n, tT (g.blk n) pt1 tm1 σ H Q) (te := fun σ H Q => ∃ n, tE (g.blk n) pe em σ H Q) hc hN hi ok (all_sub hv)
    (fun s H C cl fp => ⟨fun pins s' σ H' v u Q I r ⟨n, q⟩ => (hg n s H C cl fp).run pins s' σ H' v u Q I r q⟩)
    (fun s H C cl fp => ⟨fun pins s' σ H' Q I ⟨n, q⟩ => (ht n s H C cl fp).run pins s' σ H' Q I q⟩)
    (fun s H C cl fp => ⟨fun pins s' σ H' Q I ⟨n, q⟩ => (hi1 n s H C cl fp).run pins s' σ H' Q I q⟩)
    (fun s H C cl fp => ⟨fun pins s' σ H' v u Q I r ⟨n, q⟩ => (hg1 n s H C cl fp).run pins s' σ H' v u Q I r q⟩)
    (fun s H C cl fp => ⟨fun pins s' σ H' Q I ⟨n, q⟩ => (ht1 n s H C cl fp).run pins s' σ H' Q I q⟩)
    (fun s H C cl fp => ⟨fun pins s' σ H' Q I ⟨n, q⟩ => (he n s H C cl fp).run pins s' σ H' Q I q⟩) hs hs1) fun σ H Q h => comp2_run (all_pin hpin) (all_sub hts) (all_sub hv) (all_sub hts1) h
theorem ax_comp2 {i : Nat} {y : Str} {py : Pos} {own : List (Str × Nat)} {vs1 : List Nat} {p pt p1 pt1 pe : Bool} {tg iter tg1 iter1 elt : Expr} {ifs ifs1 : List Expr} {scope : Scope} {pos spos : Pos} {mi : IM} {gm : GM} {tm : TM} {im1 : IM} {gm1 : GM} {tm1 : TM} {em : EM} {ts ts1 : List Nat}
    (hc : X.calm = true) (hN : X.N.Nodup) (hy : X.N[i]? = some y) (hyl : X.env.scope.names.lookup y = some .local)
    (hsw : swapsWith (.ListComp elt [⟨tg, iter, ifs, 0⟩, ⟨tg1, iter1, ifs1, 0⟩] scope pos) (some (.Name y py)) spos.line X.env = pure true) (hi : DI X g p tg iter mi) (ok : BlkOk X.N X.env.scope scope own)
    (hg : ∀ (n : En) (s : Shared) (H : Hp) (C : Addr) (cl : List (Str × Addr)) (fp : List Addr), DG (X.blk s H scope (compEnvC scope cl C X.env) fp) (g.blk n) ts tg gm)
    (ht : ∀ (n : En) (s : Shared) (H : Hp) (C : Addr) (cl : List (Str × Addr)) (fp : List Addr), DTs (X.blk s H scope (compEnvC scope cl C X.env) fp) (g.blk n) pt ifs tm)
    (hi1 : ∀ (n : En) (s : Shared) (H : Hp) (C : Addr) (cl : List (Str × Addr)) (fp : List Addr), DI (X.blk s H scope (compEnvC scope cl C X.env) fp) (g.blk n) p1 tg1 iter1 im1)
    (hg1 : ∀ (n : En) (s : Shared) (H : Hp) (C : Addr) (cl : List (Str × Addr)) (fp : List Addr), DG (X.blk s H scope (compEnvC scope cl C X.env) fp) (g.blk n) ts1 tg1 gm1)
    (ht1 : ∀ (n : En) (s : Shared) (H : Hp) (C : Addr) (cl : List (Str × Addr)) (fp : List Addr), DTs (X.blk s H scope (compEnvC scope cl C X.env) fp) (g.blk n) pt1 ifs1 tm1)
    (he : ∀ (n : En) (s : Shared) (H : Hp) (C : Addr) (cl : List (Str × Addr)) (fp : List Addr), DE (X.blk s H scope (compEnvC scope cl C X.env) fp) (g.blk n) pe elt em)
    (hpin : (own.map (·.2)).all (fun i => !g.pins.contains i) = true := by rfl) (hts : ts.all (fun i => (own.map (·.2)).contains i) = true := by rfl) (hv : vs1.all (fun i => (own.map (·.2)).contains i) = true := by rfl) (hts1 : ts1.all (fun i => vs1.contains i) = true := by rfl)
    (hs : ∀ x, foldedSetIterable iter X.env x = pure x := by intro _; rfl) (hs1 : ∀ env x, foldedSetIterable iter1 env x = pure x := by intro _ _; rfl) :
    AsgOk X g false i (.Assign [.Name y py] (.ListComp elt [⟨tg, iter, ifs, 0⟩, ⟨tg1, iter1, ifs1, 0⟩] scope pos) spos) (eComp2 (own.map (·.2)) vs1 mi gm tm im1 gm1 tm1 em) := by
  refine PS.imp (ps_setLc2 (own := own) (vs1 := vs1) (g := fun v σ H Q => ∃ n, tGm (g.blk n) ts gm v σ H Q) (tt := fun σ H Q => ∃ n, tT (g.blk n) pt tm σ H Q) (wi1 := fun σ H Q => ∃ n, tR (g.blk n) p1 (fun Z' _ _ _ J ds => ItOk J Z' ds) im1 σ H Q)
    (g1 := fun v σ H Q => ∃ n, tGm (g.blk n) ts1 gm1 v σ H Q) (tt1 := fun σ H Q => ∃ n, tT (g.blk n) pt1 tm1 σ H Q) (te := fun σ H Q => ∃ n, tE (g.blk n) pe em σ H Q) hc hN hy hyl hsw hi ok (all_sub hv)
    (fun s H C cl fp => ⟨fun pins s' σ H' v u Q I r ⟨n, q⟩ => (hg n s H C cl fp).run pins s' σ H' v u Q I r q⟩)
    (fun s H C cl fp => ⟨fun pins s' σ H' Q I ⟨n, q⟩ => (ht n s H C cl fp).run pins s' σ H' Q I q⟩)
    (fun s H C cl fp => ⟨fun pins s' σ H' Q I ⟨n, q⟩ => (hi1 n s H C cl fp).run pins s' σ H' Q I q⟩)
    (fun s H C cl fp => ⟨fun pins s' σ H' v u Q I r ⟨n, q⟩ => (hg1 n s H C cl fp).run pins s' σ H' v u Q I r q⟩)
    (fun s H C cl fp => ⟨fun pins s' σ H' Q I ⟨n, q⟩ => (ht1 n s H C cl fp).run pins s' σ H' Q I q⟩)
    (fun s H C cl fp => ⟨fun pins s' σ H' Q I ⟨n, q⟩ => (he n s H C cl fp).run pins s' σ H' Q I q⟩) hs hs1) fun D σ H h => comp2_run (all_pin hpin) (all_sub hts) (all_sub hv) (all_sub hts1) h
/-! ### sorted, insert -/
def insI (x : Int) : List Int → List Int
  | [] => [x]
  | y :: ys => if x ≤ y then x :: y :: ys else y :: insI x ys
def srtI : List Int → List Int
  | [] => []
  | x :: xs => insI x (srtI xs)
theorem insI_perm (x : Int) : ∀ xs : List Int, (insI x xs).Perm (x :: xs)
  | [] => .refl _
  | y :: ys => by
    unfold insI
    split
    · exact .refl _
    · exact ((insI_perm x ys).cons y).trans (.swap _ _ _)
theorem srtI_perm : ∀ xs : List Int, (srtI xs).Perm xs
  | [] => .refl _
  | x :: xs => (insI_perm x _).trans ((srtI_perm xs).cons x)
theorem insI_sorted (x : Int) : ∀ xs : List Int, xs.Pairwise (· ≤ ·) → (insI x xs).Pairwise (· ≤ ·)
  | [], _ => by simp [insI]
  | y :: ys, h => by
    unfold insI
    have h' := List.pairwise_cons.mp h
    split
    · rename_i c
      refine List.pairwise_cons.mpr ⟨fun z m => ?_, h⟩
      rcases List.mem_cons.mp m with e | m
      · omega
      · have := h'.1 z m; omega
    · rename_i c
      refine List.pairwise_cons.mpr ⟨fun z m => ?_, insI_sorted x ys h'.2⟩
      have m2 := (insI_perm x ys).mem_iff.mp m
      rcases List.mem_cons.mp m2 with e | m2
      · omega
      · exact h'.1 z m2
theorem srtI_sorted : ∀ xs : List Int, (srtI xs).Pairwise (· ≤ ·)
  | [] => .nil
  | x :: xs => insI_sorted x _ (srtI_sorted xs)
theorem sorted_unique : ∀ {xs ys : List Int}, xs.Perm ys → xs.Pairwise (· ≤ ·) → ys.Pairwise (· ≤ ·) → xs = ys
  | [], ys, p, _, _ => (List.nil_perm.mp p).symm
  | x :: xs, [], p, _, _ => by have := p.length_eq; simp at this
  | x :: xs, y :: ys, p, hx, hy => by
    have hx' := List.pairwise_cons.mp hx
    have hy' := List.pairwise_cons.mp hy
    have e : x = y := by
      have m1 : x ∈ y :: ys := p.mem_iff.mp (by simp)
      have m2 : y ∈ x :: xs := p.mem_iff.mpr (by simp)
      rcases List.mem_cons.mp m1 with e | m1
      · exact e
      · rcases List.mem_cons.mp m2 with e | m2
        · exact e.symm
        · have := hx'.1 y m2; have := hy'.1 x m1; omega
    subst e
    rw [sorted_unique (List.Perm.cons_inv p) hx'.2 hy'.2]
def sortedD : List D → Option Ev
  | [.lst xs] => (intsOf xs).map fun ns => .new (.lst ((srtI ns).map D.int))
  | _ => none
theorem ok_sorted : CallOk X (.builtin "sorted") sortedD := by
  refine ⟨_, cr_sortedI, fun mg Z H vs ds ev Q s r h q => ?_⟩
  unfold sortedD at h
  split at h
  · simp only [Option.map_eq_some_iff] at h
    obtain ⟨ns, h1, h2⟩ := h
    subst h2
    obtain ⟨v, rfl, rv⟩ := r.one
    obtain ⟨a, vs, rfl, h3, r3⟩ := rv.lst s
    have e := r3.toInts h1
    subst e
    refine ⟨a, ns, rfl, .of h3, fun ns' p pe so hp => ?_⟩
    have e : ns' = srtI ns := sorted_unique (pe.trans (srtI_perm ns).symm) so (srtI_sorted ns)
    subst e
    exact q _ _ _ (.new s hp) (.lst s hp (RDs.ints _))
  · cases h
section
local instance (priority := 5000) (i b : Int) : Decidable (i < b) := dLtI i b
local instance (priority := 5000) (i b : Int) : Decidable (i ≤ b) := dLeI i b
def insertD : List D → List D → Option (D × List D)
  | xs, [.int i, d] => if xs.length < lim ∧ 0 ≤ i ∧ i < 2 ^ 63 then some (.non, xs.take i.toNat ++ [d] ++ xs.drop i.toNat) else none
  | _, _ => none
end
theorem ok_insert : MethOk X "list.insert" insertD := by
  refine ⟨_, mt_insert, fun Z H a vs xs us ds d ys Q s hH rv ru h q => ?_⟩
  unfold insertD at h
  split at h
  · split at h
    · rename_i i d' hl
      cases h
      cases ru with
      | cons r1 r2 =>
      cases r1
      obtain ⟨v, rfl, rv2⟩ := r2.one
      exact ⟨a, vs, i, v, rfl, rfl, hH, lt_lim (by rw [rv.length]; exact hl.1), hl.2.1, hl.2.2, q _ _ .non (((rv.take _).append (.cons rv2 .nil)).append (rv.drop _))⟩
    · cases h
  · cases h
end
end DL
namespace DL
open PySem PySem.Spec PyProof.Rows L2
/-- turns of a while, more than any here -/
@[irreducible] def fuel : Nat := 1000000
theorem fuel_eq : fuel = 1000000 := by unfold fuel; rfl
section
variable {X : Cx} {g : Gx}
/-- x = a new thing, to be changed, or data -/
def sOwn2 (i : Nat) (m : EM) : SM := fun env => Out.ofRes (m env) fun v e => match v with
  | .new t => if i < e.length then .nx (setS i (.own t) e) else .no
  | .dat d => if i < e.length then .nx (setS i (.dat d) e) else .no
  | _ => .no
theorem ds_own2 {i : Nat} {p : Bool} {st : Stmt} {m : EM} (h : AsgOk X g p i st m) (hp : i ∉ g.pins) : DS X g st (sOwn2 i m) := by
  refine PS.imp h fun D σ H ⟨Z, env, fps, s, h⟩ => ⟨Z, env, fps, s, ?_⟩
  unfold sOwn2 at h
  cases e : m env with
  | no => simp only [e, ofRes_no] at h; exact h
  | ex x e1 => simp only [e, ofRes_ex] at h; exact fun cls d Z' H' fps' => h cls d Z' σ H' fps'
  | ok a e1 =>
    simp only [e, ofRes_ok] at h
    intro v Z' H' fps' s' z' _ r
    cases a with
    | new t =>
      simp only at h
      split at h
      · rename_i hl
        obtain ⟨fp, ow, nd, hf⟩ := r
        exact h Z' _ H' _ (s'.store hl hp (.inr ⟨t, rfl, ow⟩) nd (fun a m => ⟨(hf a m).1, fun j _ => (hf a m).2.1 j, (hf a m).2.2⟩)) z'
      · exact h.elim
    | dat d =>
      simp only at h
      split at h
      · rename_i hl
        exact h Z' _ H' _ (s'.store hl hp (.inl ⟨d, rfl, rfl, r⟩) (by simp) (fun a m => by simp at m)) z'
      · exact h.elim
    | _ => exact h.elim
theorem dx_own2 {i : Nat} {p : Bool} {st : Stmt} {m : EM} (h : AsgOk X g p i st m) (hp : g.pins.contains i = false := by rfl) : DS X g st (sOwn2 i m) := ds_own2 h (not_pin hp)
/-- a value's truth, as a test -/
def truD : D → Option Bool
  | .non => some false
  | .bl b => some b
  | .int i => some (i != 0)
  | .str y => if y.length ≤ lim then some ((y.length : Int) != 0) else none
  | .lst xs => some (!xs.isEmpty)
  | .tup xs => some (!xs.isEmpty)
  | .scr _ => none
def tvT (m : EM) : TM := fun env => match hold true (m env) with
  | .ok x e => match (peek e x).bind truD with
    | some b => .ok b e
    | none => .no
  | .ex x e => .ex x e
  | .no => .no
theorem RDs.emp {Z : Hp} {vs : List V} {ds : List D} (h : RDs Z vs ds) : vs.isEmpty = ds.isEmpty := by cases h <;> rfl
theorem tru_run {p : Bool} {m : EM} {σ : L2.St} {H : Hp} {Q : Bool → Hp → Prop} (h : tT g p (tvT m) σ H Q) : tE g p m σ H fun x H' => ∃ k, TruV X.K x H' k ∧ Q k H' := by
  obtain ⟨Z, env, fps, s, h⟩ := h
  unfold tvT at h
  refine hold_run (q := true) s (fun x e1 he v Z1 H1 fps1 s1 z1 k1 r1 => ?_) (fun x e1 he => ?_) (fun he => ?_)
  · rw [he] at h
    simp only at h
    cases hp : peek e1 x with
    | none => rw [hp] at h; exact h.elim
    | some d =>
      rw [hp] at h
      cases ht : truD d with
      | none => simp [ht] at h
      | some b =>
        simp only [Option.bind_some, ht] at h
        refine ⟨b, ?_, h b Z1 H1 fps1 s1 z1 k1 rfl⟩
        have rn := peek_ok s1 r1 hp
        cases d with
        | non => cases ht; rw [rn.non]; exact rfl
        | bl b => cases ht; rw [rn.bl]; exact rfl
        | int i => cases ht; rw [rn.int]; exact rfl
        | str y =>
          simp only [truD] at ht
          split at ht
          · rename_i hl
            cases ht; rw [rn.str]; exact ⟨lim_eq hl, rfl⟩
          · cases ht
        | lst xs =>
          cases ht
          obtain ⟨a, vs, rfl, h1, r⟩ := rn.lst s1.sub
          exact .inl ⟨vs, .of h1, by rw [r.emp]⟩
        | tup xs =>
          cases ht
          obtain ⟨a, vs, rfl, h1, r⟩ := rn.tup s1.sub
          exact .inr (.inl ⟨vs, .of h1, by rw [r.emp]⟩)
        | scr ns => cases ht
  · rw [he] at h; exact h
  · rw [he] at h; exact h
theorem dt_tru {e : Expr} {p : Bool} {m : EM} (h : DE X g p e m) (he : ∀ whole, isTrue e X.env whole = (do let v ← whole; standAt e.pos; holding [v] (truthy v)) := by intro _; rfl) : DT X g p e (tvT m) :=
  PT.imp (pt_truth h he) fun σ H Q h => tru_run h
end
end DL
namespace DL
open PySem PySem.Spec PyProof.Rows L2
/-! ### walks over an owned list, by its name -/
def compN (own : List Nat) (j : Nat) (gm : GM) (tm : TM) (em : EM) : Nat → Nat → Ve → List D → Res Ev
  | 0, _, _, _ => .no
  | k + 1, i, e, acc => match e[j]? with
    | some (.own (.lst xs)) => match xs[i]? with
      | none => .ok (.new (.lst acc)) e
      | some d => if freeV own e = true then match gm d (wipeV own e) with
        | none => .no
        | some e2 => match tm e2 with
          | .ok true e3 => match hold true (em e3) with
            | .ok (.dat x) e4 => if acc.length < lim ∧ freeV own e4 = true ∧ e4.length = e.length then compN own j gm tm em k (i + 1) (restV own e e4) (acc ++ [x]) else .no
            | _ => .no
          | .ok false e3 => if freeV own e3 = true ∧ e3.length = e.length then compN own j gm tm em k (i + 1) (restV own e e3) acc else .no
          | _ => .no
        else .no
    | _ => .no
def eCompN (own : List Nat) (j : Nat) (gm : GM) (tm : TM) (em : EM) : EM := fun env => match env[j]? with
  | some (.own (.lst xs)) => compN own j gm tm em (xs.length + 1) 0 env []
  | some (.dat _) => eComp own (iSeq (eName j)) gm tm em env
  | _ => .no
section
variable {X : Cx} {g : Gx}
theorem StR.ownAt {Z : Hp} {e : Ve} {σ : L2.St} {H : Hp} {fps : Nat → List Addr} {j : Nat} {xs : List D} (s : StR g Z e σ H fps) (h : e[j]? = some (.own (.lst xs))) : ∃ a vs, σ[j]? = some (some (.ref a)) ∧ H a = some (.lst vs) ∧ RDs Z vs xs := by
  obtain ⟨v, h1, ow⟩ := s.slot j _ h
  generalize fps j = fp at ow
  cases ow with
  | lst h2 r => exact ⟨_, _, h1, h2, r⟩
theorem compN_run {ow : List Nat} {j : Nat} {pt pe : Bool} {gm : GM} {tm : TM} {em : EM} {ts : List Nat} {Z H : Hp} {env : Ve} {σ : L2.St} {fps : Nat → List Addr} {xs : List D} {Q : VK} (hpin : ∀ i ∈ ow, i ∉ g.pins) (hts : ∀ i ∈ ts, i ∈ ow) (s1 : StR g Z env σ H fps) (hj : env[j]? = some (.own (.lst xs)))
    (h : Post g false (EvR g) Z env σ H fps Q (compN ow j gm tm em (xs.length + 1) 0 env [])) {a : Addr} (ha : σ[j]? = some (some (.ref a))) :
    ∀ D, H D = none → ∃ W : Nat → Nat → Hp → Prop, (∃ m, W 0 m (upd H D (.lst []))) ∧ ∀ i m H, W i m H →
      ((Itl X.K a).stop i H ∧ Q (.ref D) H) ∨ ((Itl X.K a).go i H ∧ ∃ Nx : Hp → Prop, (∀ H', Nx H' → ∃ m', m' < m ∧ W (i + 1) m' H') ∧ ∀ x H', (Itl X.K a).yld i H x H' → (∃ n, tGm (g.blk n) ts gm x (wipe σ ow) H' fun σ2 H2 => wipe σ2 ow = wipe σ ow ∧ ∃ n, tT (g.blk n) pt tm σ2 H2 fun b H3 =>
        if b = true then ∃ n, tE (g.blk n) pe em σ2 H3 fun y H4 => ∃ acc, H4 D = some (.lst acc) ∧ acc.length < sizeLine ∧ Nx (upd H4 D (.lst (acc ++ [y]))) else Nx H3)) := by
  intro D hD
  let W : Nat → Nat → Hp → Prop := fun i m H2 => ∃ Z2 e2 fps2 acc vs, AtD g D Z2 e2 σ H2 fps2 vs acc ∧ Same Z Z2 ∧
    Post g false (EvR g) Z env σ H fps Q (compN ow j gm tm em m i e2 acc)
  have hst : D ∈ g.n.F0 ∨ g.n.H0 D = none := (s1.new0 hD).2
  refine ⟨W, ⟨xs.length + 1, Z, env, fps, [], [], .start s1 hD, .refl _, h⟩, ?_⟩
  rintro i m H2 ⟨Z2, e2, fps2, acc, vs, a2, z2, po⟩
  cases m with
  | zero => simp [compN] at po
  | succ m =>
  simp only [compN] at po
  split at po
  case h_2 => exact po.elim
  rename_i ys hys
  obtain ⟨a', ws, k1, k2, k3⟩ := a2.s.ownAt hys
  have k1' := k1
  rw [ha] at k1'
  cases k1'
  cases hd : ys[i]? with
  | none =>
    rw [hd] at po
    simp only at po
    left
    refine ⟨⟨ws, .of k2, ?_⟩, ?_⟩
    · have := List.getElem?_eq_none_iff.mp hd
      rw [k3.length]; exact this
    exact po (.ref D) Z2 H2 fps2 a2.s z2 (fun q => by cases q) ⟨[D], .lst a2.h a2.r, by simp, fun b m => by
      have ea : b = D := by simpa using m
      subst ea
      exact ⟨a2.z, a2.f, hst⟩⟩
  | some d =>
  rw [hd] at po
  simp only at po
  right
  obtain ⟨v, hv, rv⟩ := k3.getd hd
  refine ⟨⟨ws, v, .of k2, hv⟩, fun H' => ∃ m', m' < m + 1 ∧ W (i + 1) m' H', fun H' x => x, fun x H3 hy => ?_⟩
  obtain ⟨e1, y⟩ := hy
  subst e1
  have := y ws (.of k2)
  rw [hv] at this
  cases this
  split at po
  case isFalse => exact po.elim
  rename_i hfree
  have a3w := a2.wipe hfree hpin
  refine ⟨_, Z2, wipeV ow e2, fps2, d, a3w.enter, rv, ?_⟩
  split at po
  · exact po.elim
  rename_i e4 hgm
  rw [hgm]
  intro Z4 σ4 H4 fps4 s4 z4 hl4 hσ4
  obtain ⟨hl4', hσ4', hw4⟩ := wiped_get hts hl4 hσ4
  refine ⟨hw4, ?_⟩
  have pins4 : ∀ i ∈ g.pins, ∃ v, g.n.vs[i]? = some v ∧ σ4[i]? = some (some v) := fun i hi => by
    obtain ⟨v, h1, h2⟩ := a2.s.pin i hi
    refine ⟨v, h1, ?_⟩
    rw [hσ4' i fun m => hpin i m hi]
    exact h2
  have a4 := a3w.hop pins4 s4 z4
  have nextW : ∀ {Z5 H5 : Hp} {e5 : Ve} {fps5 : Nat → List Addr} {acc' : List DL.D} {ws : List V}, AtD g D Z5 e5 σ4 H5 fps5 ws acc' → Same Z2 Z5 → freeV ow e5 = true → e5.length = e2.length →
      Post g false (EvR g) Z env σ H fps Q (compN ow j gm tm em m (i + 1) (restV ow e2 e5) acc') → ∃ m', m' < m + 1 ∧ W (i + 1) m' H5 := fun {Z5 H5 e5 fps5 acc' ws} a5 z5 hf5 hl5 po5 =>
    ⟨m, by omega, Z5, restV ow e2 e5, fps5, acc', ws, .rest a2.s z5 a5 hl5 hf5 hσ4', z2.trans z5, po5⟩
  refine ⟨_, Z4, e4, fps4, a4.enter, ?_⟩
  cases et : tm e4 with
  | no => simp [et] at po
  | ex x e5 => simp [et] at po
  | ok b e5 =>
    rw [et] at po
    intro b' Z5 H5 fps5 s5 z5 _ rb
    subst rb
    have a5 := a4.hop pins4 s5 z5
    cases b' with
    | false =>
      simp only at po
      rw [if_neg Bool.false_ne_true]
      split at po
      · rename_i hf5
        exact nextW a5 (z4.trans z5) hf5.1 hf5.2 po
      · exact po.elim
    | true =>
      simp only at po
      rw [if_pos rfl]
      refine ⟨_, hold_run (q := true) a5.enter (fun x e11 he11 y Z11 H11 fps11 s11 z11 k11 r11 => ?_) (fun x e11 he11 => ?_) (fun he11 => ?_)⟩
      · rw [he11] at po
        cases x with
        | dat d' =>
          simp only at po
          split at po
          · rename_i hf11
            have a11 := a5.hop pins4 s11 z11
            refine ⟨vs, a11.h, ?_, nextW (a11.put hst (a11.r.append (.cons r11 .nil))) ((z4.trans z5).trans z11) hf11.2.1 hf11.2.2 po⟩
            rw [a11.r.length]
            exact Nat.lt_of_lt_of_le hf11.1 (by rw [sizeLine_eq]; exact Nat.le_refl _)
          · exact po.elim
        | _ => exact po.elim
      · rw [he11] at po; exact po.elim
      · rw [he11] at po; exact po.elim
theorem compNe_run {ow : List Nat} {j : Nat} {p pt pe : Bool} {gm : GM} {tm : TM} {em : EM} {ts : List Nat} {x : Str} {pos : Pos} {tg : Expr} (hpin : ∀ i ∈ ow, i ∉ g.pins) (hts : ∀ i ∈ ts, i ∈ ow) {σ : L2.St} {H : Hp} {Q : VK}
    (h : tE g false (eCompN ow j gm tm em) σ H Q) :
    tLc (fun σ H Q => tR g true (fun Z' _ _ _ J ds => ItOk J Z' ds) (iSeq (eName j)) σ H Q ∨ (fun σ H Q => (tE g true (eName j)) σ H fun x H1 => ∃ a, x = V.ref a ∧ (∃ xs, SqL X.K H1 a xs) ∧ Q (Itl X.K a) H1) σ H Q) (fun v σ H Q => ∃ n, tGm (g.blk n) ts gm v σ H Q) (fun σ H Q => ∃ n, tT (g.blk n) pt tm σ H Q) (fun σ H Q => ∃ n, tE (g.blk n) pe em σ H Q) ow σ H Q := by
  obtain ⟨Z, env, fps, s, h⟩ := h
  unfold eCompN at h
  split at h
  · rename_i xs hxs
    refine .inr ?_
    obtain ⟨a, vs, h1, h2, h3⟩ := s.ownAt hxs
    refine ⟨Z, env, fps, s, ?_⟩
    unfold eName
    rw [hxs]
    simp only [Post_ok]
    rintro b Z' H' fps' s' z' k ⟨vj, hv, hw⟩
    rw [h1] at hv
    cases hv
    simp only [walk, Option.some.injEq] at hw
    subst hw
    obtain ⟨_, q2, q3⟩ := k trivial
    subst q2
    refine ⟨a, rfl, ⟨vs, .of (q3 _ _ h2)⟩, ?_⟩
    refine compN_run (X := X) hpin hts s' hxs ?_ h1
    -- the wish is the same, later
    revert h
    cases compN ow j gm tm em (xs.length + 1) 0 env [] with
    | no => exact fun h => h
    | ok v e => exact fun h b Z2 H2 fps2 s2 z2 k2 r2 => h b Z2 H2 fps2 s2 (z'.trans z2) (fun q => by cases q) r2
    | ex v e => exact fun h cls d Z2 H2 fps2 s2 z2 r2 => h cls d Z2 H2 fps2 s2 (z'.trans z2) r2
  · exact .inl (comp_run (p := true) hpin hts ⟨Z, env, fps, s, h⟩)
  · exact h.elim
theorem dx_compN {own : List (Str × Nat)} {j : Nat} {pt pe : Bool} {tg elt : Expr} {ifs : List Expr} {scope : Scope} {pos px : Pos} {x : Str} {gm : GM} {tm : TM} {em : EM} {ts : List Nat} (hc : X.calm = true) (hN : X.N.Nodup) (hi : DE X g true (.Name x px) (eName j)) (ok : BlkOk X.N X.env.scope scope own)
    (hg : ∀ (n : En) (s : Shared) (H : Hp) (C : Addr) (cl : List (Str × Addr)) (fp : List Addr), DG (X.blk s H scope (compEnvC scope cl C X.env) fp) (g.blk n) ts tg gm)
    (ht : ∀ (n : En) (s : Shared) (H : Hp) (C : Addr) (cl : List (Str × Addr)) (fp : List Addr), DTs (X.blk s H scope (compEnvC scope cl C X.env) fp) (g.blk n) pt ifs tm)
    (he : ∀ (n : En) (s : Shared) (H : Hp) (C : Addr) (cl : List (Str × Addr)) (fp : List Addr), DE (X.blk s H scope (compEnvC scope cl C X.env) fp) (g.blk n) pe elt em)
    (hpin : (own.map (·.2)).all (fun i => !g.pins.contains i) = true := by rfl) (hts : ts.all (fun i => (own.map (·.2)).contains i) = true := by rfl)
    (hs : ∀ y, foldedSetIterable (.Name x px) X.env y = pure y := by intro _; rfl) :
    DE X g false (.ListComp elt [⟨tg, .Name x px, ifs, 0⟩] scope pos) (eCompN (own.map (·.2)) j gm tm em) := by
  refine PE.imp (pe_lc (own := own) (g := fun v σ H Q => ∃ n, tGm (g.blk n) ts gm v σ H Q) (tt := fun σ H Q => ∃ n, tT (g.blk n) pt tm σ H Q) (te := fun σ H Q => ∃ n, tE (g.blk n) pe em σ H Q) hc hN (PI.or (di_seq hi) (pi_list hi)) ok
    (fun s H C cl fp => ⟨fun pins s' σ H' v u Q I r ⟨n, q⟩ => (hg n s H C cl fp).run pins s' σ H' v u Q I r q⟩)
    (fun s H C cl fp => ⟨fun pins s' σ H' Q I ⟨n, q⟩ => (ht n s H C cl fp).run pins s' σ H' Q I q⟩)
    (fun s H C cl fp => ⟨fun pins s' σ H' Q I ⟨n, q⟩ => (he n s H C cl fp).run pins s' σ H' Q I q⟩) hs) fun σ H Q h => compNe_run (tg := tg) (p := true) (x := x) (pos := px) (all_pin hpin) (all_sub hts) h
theorem ax_compN {i : Nat} {y : Str} {py : Pos} {own : List (Str × Nat)} {j : Nat} {pt pe : Bool} {tg elt : Expr} {ifs : List Expr} {scope : Scope} {pos px spos : Pos} {x : Str} {gm : GM} {tm : TM} {em : EM} {ts : List Nat} (hc : X.calm = true) (hN : X.N.Nodup) (hy : X.N[i]? = some y) (hyl : X.env.scope.names.lookup y = some .local)
    (hsw : swapsWith (.ListComp elt [⟨tg, .Name x px, ifs, 0⟩] scope pos) (some (.Name y py)) spos.line X.env = pure true) (hi : DE X g true (.Name x px) (eName j)) (ok : BlkOk X.N X.env.scope scope own)
    (hg : ∀ (n : En) (s : Shared) (H : Hp) (C : Addr) (cl : List (Str × Addr)) (fp : List Addr), DG (X.blk s H scope (compEnvC scope cl C X.env) fp) (g.blk n) ts tg gm)
    (ht : ∀ (n : En) (s : Shared) (H : Hp) (C : Addr) (cl : List (Str × Addr)) (fp : List Addr), DTs (X.blk s H scope (compEnvC scope cl C X.env) fp) (g.blk n) pt ifs tm)
    (he : ∀ (n : En) (s : Shared) (H : Hp) (C : Addr) (cl : List (Str × Addr)) (fp : List Addr), DE (X.blk s H scope (compEnvC scope cl C X.env) fp) (g.blk n) pe elt em)
    (hpin : (own.map (·.2)).all (fun i => !g.pins.contains i) = true := by rfl) (hts : ts.all (fun i => (own.map (·.2)).contains i) = true := by rfl)
    (hs : ∀ y, foldedSetIterable (.Name x px) X.env y = pure y := by intro _; rfl) :
    AsgOk X g false i (.Assign [.Name y py] (.ListComp elt [⟨tg, .Name x px, ifs, 0⟩] scope pos) spos) (eCompN (own.map (·.2)) j gm tm em) := by
  refine PS.imp (ps_setLc (own := own) (g := fun v σ H Q => ∃ n, tGm (g.blk n) ts gm v σ H Q) (tt := fun σ H Q => ∃ n, tT (g.blk n) pt tm σ H Q) (te := fun σ H Q => ∃ n, tE (g.blk n) pe em σ H Q) hc hN hy hyl hsw (PI.or (di_seq hi) (pi_list hi)) ok
    (fun s H C cl fp => ⟨fun pins s' σ H' v u Q I r ⟨n, q⟩ => (hg n s H C cl fp).run pins s' σ H' v u Q I r q⟩)
    (fun s H C cl fp => ⟨fun pins s' σ H' Q I ⟨n, q⟩ => (ht n s H C cl fp).run pins s' σ H' Q I q⟩)
    (fun s H C cl fp => ⟨fun pins s' σ H' Q I ⟨n, q⟩ => (he n s H C cl fp).run pins s' σ H' Q I q⟩) hs) fun D σ H h => compNe_run (tg := tg) (p := true) (x := x) (pos := px) (all_pin hpin) (all_sub hts) h
/-! for-statements over a parameter that is never stored -/
def forN (j : Nat) (gm : GM) (body : SM) : Nat → Nat → Ve → Out
  | 0, _, _ => .no
  | k + 1, i, e => match e[j]? with
    | some (.own (.lst xs)) => match xs[i]? with
      | none => .nx e
      | some d => match gm d e with
        | none => .no
        | some e1 => match body e1 with
          | .nx e2 => forN j gm body k (i + 1) e2
          | .ct e2 => forN j gm body k (i + 1) e2
          | .bk e2 => .nx e2
          | .rt r e2 => .rt r e2
          | .ex x e2 => .ex x e2
          | .no => .no
    | _ => .no
def sForN (j : Nat) (gm : GM) (body : SM) : SM := fun env => match env[j]? with
  | some (.own (.lst xs)) => forN j gm body (xs.length + 1) 0 env
  | some (.dat _) => sFor (iSeq (eName j)) gm body env
  | _ => .no
theorem ds_forN {j : Nat} {tg : Expr} {body : List Stmt} {x : Str} {px : Pos} {gm : GM} {mb : SM} {ts : List Nat} {pos : Pos} (hp : PassesOwn (model X.prog X.w) X.A X.env X.xe) (hc : X.calm = true) (hi : DE X g true (.Name x px) (eName j)) (hg : DG X g ts tg gm) (hb : DSs X g body mb)
    (hj : g.pins.contains j = true := by rfl) (hs : ∀ y, foldedSetIterable (.Name x px) X.env y = pure y := by intro _; rfl) : DS X g (.For tg (.Name x px) body [] pos) (sForN j gm mb) := by
  have hj' : j ∈ g.pins := by simpa using hj
  have A : DS X g (.For tg (.Name x px) body [] pos) (sFor (iSeq (eName j)) gm mb) := ds_for hp hc (di_seq hi) hg hb hs
  have B := ps_for (pos := pos) hp hc (pi_list hi) hg hb hs
  refine ⟨fun pins s σ H D I ⟨Z, env, fps, s', h⟩ => ?_⟩
  unfold sForN at h
  split at h
  case h_2 => exact A.run pins s σ H D I ⟨Z, env, fps, s', h⟩
  case h_3 => exact h.elim
  rename_i xs hxs
  refine B.run pins s σ H D I ⟨Z, env, fps, s', ?_⟩
  obtain ⟨a, vs, h1, h2, h3⟩ := s'.ownAt hxs
  unfold eName
  rw [hxs]
  simp only [Post_ok]
  rintro b Z' H' fps' s1 z' k ⟨vj, hv, hw⟩
  rw [h1] at hv
  cases hv
  simp only [walk, Option.some.injEq] at hw
  subst hw
  obtain ⟨_, q2, q3⟩ := k trivial
  subst q2
  refine ⟨a, rfl, ⟨vs, .of (q3 _ _ h2)⟩, ?_⟩
  have pinv : ∀ {Z2 H2 : Hp} {e2 : Ve} {σ2 : L2.St} {fps2 : Nat → List Addr}, StR g Z2 e2 σ2 H2 fps2 → σ2[j]? = some (some (.ref a)) := fun s2 => by
    obtain ⟨v, p1, p2⟩ := s2.pin j hj'
    obtain ⟨v0, p3, p4⟩ := s'.pin j hj'
    rw [p1] at p3
    cases p3
    rw [h1] at p4
    cases p4
    exact p2
  let W : Nat → Nat → L2.St → Hp → Prop := fun i m σ H => ∃ Z2 e2 fps2, StR g Z2 e2 σ H fps2 ∧ PostS g Z2 D (forN j gm mb m i e2)
  refine ⟨W, ⟨xs.length + 1, Z', env, _, s1, h.mono z'⟩, ?_⟩
  rintro i m σ2 H2 ⟨Z2, e2, fps2, s2, po⟩
  cases m with
  | zero => exact po.elim
  | succ m =>
  simp only [forN] at po
  split at po
  case h_2 => exact po.elim
  rename_i ys hys
  obtain ⟨a', ws, k1, k2, k3⟩ := s2.ownAt hys
  rw [pinv s2] at k1
  cases k1
  cases hd : ys[i]? with
  | none =>
    rw [hd] at po
    left
    refine ⟨⟨ws, .of k2, ?_⟩, po Z2 σ2 H2 fps2 s2 (.refl _)⟩
    have := List.getElem?_eq_none_iff.mp hd
    rw [k3.length]; exact this
  | some d =>
  rw [hd] at po
  simp only at po
  right
  obtain ⟨v, hv, rv⟩ := k3.getd hd
  refine ⟨⟨ws, v, .of k2, hv⟩, fun σ' H' => ∃ m', m' < m + 1 ∧ W (i + 1) m' σ' H', fun σ' H' x => x, fun x H3 hy => ?_⟩
  obtain ⟨e1, y⟩ := hy
  subst e1
  have := y ws (.of k2)
  rw [hv] at this
  cases this
  refine ⟨Z2, e2, fps2, d, s2, rv, ?_⟩
  split at po
  · exact po.elim
  rename_i e4 hgm
  rw [hgm]
  intro Z4 σ4 H4 fps4 s4 z4 _ _
  refine ⟨Z4, e4, fps4, s4, ?_⟩
  cases eb : mb e4 with
  | no => rw [eb] at po; exact po
  | nx e5 =>
    rw [eb] at po
    exact fun Z5 σ5 H5 fps5 s5 z5 => ⟨m, by omega, Z5, e5, fps5, s5, po.mono (z4.trans z5)⟩
  | ct e5 =>
    rw [eb] at po
    exact fun Z5 σ5 H5 fps5 s5 z5 => ⟨m, by omega, Z5, e5, fps5, s5, po.mono (z4.trans z5)⟩
  | bk e5 => rw [eb] at po; exact fun Z5 σ5 H5 fps5 s5 z5 => po Z5 σ5 H5 fps5 s5 (z4.trans z5)
  | rt r e5 => rw [eb] at po; exact fun v Z5 σ5 H5 fps5 s5 z5 => po v Z5 σ5 H5 fps5 s5 (z4.trans z5)
  | ex x e5 => rw [eb] at po; exact fun cls d Z5 σ5 H5 fps5 s5 z5 => po cls d Z5 σ5 H5 fps5 s5 (z4.trans z5)
end
end DL
namespace DL
open PySem PySem.Spec PyProof.Rows L2
/-! ### a, b = e1, e2 with new things that stay owned -/
def keepO (own : Bool) (r : Res Ev) : Res Ev := if own = true then r else hold true r
def slotOf : Ev → Option S
  | .dat d => some (.dat d)
  | .new t => some (.own t)
  | .pl _ _ => none
def sParO (i j : Nat) (oa ob : Bool) (ma mb : EM) : SM := fun env => Out.ofRes (keepO oa (ma env)) fun va e1 => Out.ofRes (keepO ob (mb e1)) fun vb e2 => match slotOf va, slotOf vb with
  | some x, some y => if i < e2.length ∧ j < e2.length then .nx (setS j y (setS i x e2)) else .no
  | _, _ => .no
section
variable {g : Gx} {Z Z' H H' : Hp} {env : Ve} {σ : L2.St} {fps : Nat → List Addr}
theorem keep_run {own p : Bool} {m : EM} {Q : VK} (s : StR g Z env σ H fps)
    (ok : ∀ x e1, keepO own (m env) = .ok x e1 → ∀ v Z1 H1 fps1, StR g Z1 e1 σ H1 fps1 → Same Z Z1 → EvR g Z1 H1 σ fps1 v x → Q v H1)
    (ex : ∀ x e1, keepO own (m env) = .ex x e1 → ∀ cls d Z1 H1 fps1, StR g Z1 e1 σ H1 fps1 → Same Z Z1 → XR g.mg Z1 H1 cls d x → g.W cls d σ H1)
    (no : keepO own (m env) = .no → False) : tE g p m σ H Q := by
  cases own with
  | true =>
    refine ⟨Z, env, fps, s, ?_⟩
    cases e : m env with
    | no => exact no (by unfold keepO; rw [e]; rfl)
    | ex x e1 => exact ex x e1 (by unfold keepO; rw [e]; rfl)
    | ok a e1 =>
      intro v Z1 H1 fps1 s1 z1 _ r
      exact ok a e1 (by unfold keepO; rw [e]; rfl) v Z1 H1 fps1 s1 z1 r
  | false =>
    refine hold_run (q := true) s (fun x e1 he v Z1 H1 fps1 s1 z1 _ r => ok x e1 (by unfold keepO; exact he) v Z1 H1 fps1 s1 z1 ?_) (fun x e1 he => ex x e1 (by unfold keepO; exact he)) (fun he => no (by unfold keepO; exact he))
    cases x with
    | dat d => exact r
    | pl j p => exact r.2
    | new t => exact r.elim
theorem StR.enterAt (s : StR g Z env σ H fps) : StR (g.at ⟨Z, H, allF env.length fps, g.n.vs⟩) Z env σ H fps := by
  have q := s.enter
  exact ⟨q.len, q.sub, q.slot, q.out, q.dis, q.nd, q.nz, q.e1, q.e2, q.e3, q.e4, q.pin⟩
theorem StR.backAt {Z2 H2 : Hp} {env2 : Ve} {σ2 : L2.St} {fps2 : Nat → List Addr} (s : StR g Z env σ H fps) (s' : StR (g.at ⟨Z, H, allF env.length fps, g.n.vs⟩) Z2 env2 σ2 H2 fps2) (hp : ∀ i ∈ g.pins, ∃ v, g.n.vs[i]? = some v ∧ σ2[i]? = some (some v)) : StR g Z2 env2 σ2 H2 fps2 :=
  s.rebase (g' := g.at ⟨Z, H, allF env.length fps, g.n.vs⟩) rfl rfl (fun b m => by
    obtain ⟨k, _, hk⟩ := mem_allF.mp m
    exact ⟨k, hk⟩) hp s'
/-- a new thing that waits while something else is done -/
theorem Own.wait {v : V} {t : O} {fp : List Addr} {Z2 H2 : Hp} {env2 : Ve} {σ2 : L2.St} {fps2 : Nat → List Addr} (ow : Own g.mg Z H v t fp) (hf : ∀ a ∈ fp, Z a = none ∧ (∀ i, a ∉ fps i) ∧ (a ∈ g.n.F0 ∨ g.n.H0 a = none))
    (s' : StR (g.at ⟨Z, H, allF env.length fps, g.n.vs⟩) Z2 env2 σ2 H2 fps2) (z : Same Z Z2) : Own g.mg Z2 H2 v t fp ∧ (∀ a ∈ fp, Z2 a = none ∧ (∀ i, a ∉ fps2 i) ∧ (a ∈ g.n.F0 ∨ g.n.H0 a = none)) ∧ ∀ a ∈ fp, ¬ (a ∈ allF env.length fps ∨ H a = none) := by
  have nF : ∀ a ∈ fp, ¬ (a ∈ allF env.length fps ∨ H a = none) := fun a m q => by
    rcases q with q | q
    · obtain ⟨k, _, hk⟩ := mem_allF.mp q
      exact (hf a m).2.1 k hk
    · obtain ⟨o, e⟩ := ow.there a m
      rw [q] at e; cases e
  refine ⟨ow.keep z fun a m => ?_, fun a m => ⟨?_, fun i mi => ?_, (hf a m).2.2⟩, nF⟩
  · obtain ⟨o, e⟩ := ow.there a m
    rw [e]
    exact s'.e2 a o e fun q => nF a m (.inl q)
  · cases q : Z2 a with
    | none => rfl
    | some o =>
      rcases s'.e3 a o q with k | k | k
      · have k' : Z a = some o := k
        rw [(hf a m).1] at k'; cases k'
      · exact (nF a m (.inl k)).elim
      · exact (nF a m (.inr k)).elim
  · exact nF a m (s'.e4 i a mi)
/-- what is to be stored -/
structure SlR (g : Gx) (Z H : Hp) (fps : Nat → List Addr) (v : V) (x : S) (fp : List Addr) : Prop where
  r : (∃ d, x = .dat d ∧ fp = [] ∧ RD Z v d) ∨ (∃ t, x = .own t ∧ Own g.mg Z H v t fp)
  nd : fp.Nodup
  f : ∀ a ∈ fp, Z a = none ∧ (∀ i, a ∉ fps i) ∧ (a ∈ g.n.F0 ∨ g.n.H0 a = none)
theorem SlR.of {v : V} {a : Ev} {x : S} (r : EvR g Z H σ fps v a) (h : slotOf a = some x) : ∃ fp, SlR g Z H fps v x fp := by
  cases a with
  | dat d => cases h; exact ⟨[], .inl ⟨d, rfl, rfl, r⟩, by simp, fun a m => by simp at m⟩
  | new t => cases h; obtain ⟨fp, ow, nd, hf⟩ := r; exact ⟨fp, .inr ⟨t, rfl, ow⟩, nd, hf⟩
  | pl j p => cases h
theorem SlR.wait {v : V} {x : S} {fp : List Addr} {Z2 H2 : Hp} {env2 : Ve} {σ2 : L2.St} {fps2 : Nat → List Addr} (r : SlR g Z H fps v x fp) (s' : StR (g.at ⟨Z, H, allF env.length fps, g.n.vs⟩) Z2 env2 σ2 H2 fps2) (z : Same Z Z2) :
    SlR g Z2 H2 fps2 v x fp ∧ ∀ a ∈ fp, ¬ (a ∈ allF env.length fps ∨ H a = none) := by
  rcases r.r with ⟨d, h1, h2, h3⟩ | ⟨t, h1, ow⟩
  · subst h2
    exact ⟨⟨.inl ⟨d, h1, rfl, h3.mono z⟩, by simp, fun a m => by simp at m⟩, fun a m => by simp at m⟩
  · obtain ⟨w1, w2, w3⟩ := Own.wait ow r.f s' z
    exact ⟨⟨.inr ⟨t, h1, w1⟩, r.nd, w2⟩, w3⟩
theorem SlR.fresh {v : V} {x : S} {fp : List Addr} (r : SlR g Z H fps v x fp) {p : Addr} {o : HO} (hp : H p = none) : SlR g Z (upd H p o) fps v x fp := by
  refine ⟨?_, r.nd, r.f⟩
  rcases r.r with h | ⟨t, h1, ow⟩
  · exact .inl h
  · refine .inr ⟨t, h1, ow.keep (.refl _) fun a m => ?_⟩
    obtain ⟨o', e⟩ := ow.there a m
    rw [upd_ne (ne_of_none e hp)]
end
section
variable {X : Cx} {g : Gx}
theorem parO_run {i j : Nat} {oa ob p q : Bool} {ma mb : EM} {D : Ends} {σ : L2.St} {H : Hp} (hij : i ≠ j) (hpi : i ∉ g.pins) (hpj : j ∉ g.pins) (h : tS g (sParO i j oa ob ma mb) D σ H) :
    tE g p ma σ H fun v1 H1 => ∃ n, tE (g.at n) q mb σ H1 fun v2 H2 => ∀ H3, (H3 = H2 ∨ ∃ t, H2 t = none ∧ H3 = upd H2 t (.tup [v1, v2])) → D.nx ((σ.set i (some v1)).set j (some v2)) H3 := by
  obtain ⟨Z, env, fps, s, h⟩ := h
  unfold sParO at h
  refine keep_run (own := oa) s (fun x e1 he v1 Z1 H1 fps1 s1 z1 r1 => ?_) (fun x e1 he => ?_) (fun he => ?_)
  · rw [he] at h
    simp only [ofRes_ok] at h
    have pins1 : ∀ i ∈ g.pins, ∃ v, g.n.vs[i]? = some v ∧ σ[i]? = some (some v) := s1.pin
    refine ⟨_, keep_run (own := ob) s1.enterAt (fun y e2 he2 v2 Z2 H2 fps2 s2 z2 r2 => ?_) (fun y e2 he2 cls d Z2 H2 fps2 s2 z2 xr => ?_) (fun he2 => ?_)⟩
    · rw [he2] at h
      simp only [ofRes_ok] at h
      split at h
      case h_2 => exact h.elim
      rename_i sx sy hx hy
      split at h
      case isFalse => exact h.elim
      rename_i hl
      have s2' := s1.backAt s2 pins1
      obtain ⟨fp, rx⟩ := SlR.of r1 hx
      obtain ⟨fp2, ry⟩ := SlR.of r2 hy
      obtain ⟨rx2, nF⟩ := rx.wait s2 z2
      have ry2 : SlR g Z2 H2 fps2 v2 sy fp2 := by
        refine ⟨ry.r, ry.nd, fun a m => ⟨(ry.f a m).1, (ry.f a m).2.1, ?_⟩⟩
        rcases (ry.f a m).2.2 with k | k
        · obtain ⟨i, _, hk⟩ := mem_allF.mp k
          exact s1.e4 i a hk
        · exact (s1.new0 k).2
      have dj : ∀ a ∈ fp2, a ∉ fp := fun a m k => nF a k (ry.f a m).2.2
      -- the end, whatever stands beside
      have fin : ∀ H3, StR g Z2 e2 σ H3 fps2 → SlR g Z2 H3 fps2 v1 sx fp → SlR g Z2 H3 fps2 v2 sy fp2 → D.nx ((σ.set i (some v1)).set j (some v2)) H3 := fun H3 s3 a b => by
        have s4 := s3.store (i := i) hl.1 hpi a.r a.nd (fun c m => ⟨(a.f c m).1, fun k _ => (a.f c m).2.1 k, (a.f c m).2.2⟩)
        have s5 := s4.store (i := j) (by rw [setS_length]; exact hl.2) hpj b.r b.nd (fun c m => ⟨(b.f c m).1, fun k _ => by
          by_cases c1 : k = i
          · simp only [c1, if_true]; exact dj c m
          · simp only [c1, if_false]; exact (b.f c m).2.1 k, (b.f c m).2.2⟩)
        exact h Z2 _ H3 _ s5 (z1.trans z2)
      rintro H3 (e | ⟨t, ht, e⟩)
      · subst e
        exact fin _ s2' rx2 ry2
      · subst e
        exact fin _ (s2'.fresh (.new s2'.sub ht)) (rx2.fresh ht) (ry2.fresh ht)
    · rw [he2] at h
      simp only [ofRes_ex] at h
      exact h cls d Z2 σ H2 fps2 (s1.backAt s2 pins1) (z1.trans z2) xr
    · rw [he2] at h
      simp only [ofRes_no] at h
      exact h
  · rw [he] at h
    simp only [ofRes_ex] at h
    exact fun cls d Z' H' fps' => h cls d Z' σ H' fps'
  · rw [he] at h
    simp only [ofRes_no] at h
    exact h
theorem pa_two {a b : Expr} {ta tb : TE} (ha : PE X a ta) (hb : PE X b tb) (hs : starEach [a, b] X.env = (false, eval a X.env) :: starEach [b] X.env := by rfl) (hs2 : starEach [b] X.env = (false, eval b X.env) :: starEach [] X.env := by rfl) :
    PA X [a, b] (fun σ H Q => ta σ H fun v1 H1 => tb σ H1 fun v2 H2 => Q [v1, v2] H2) :=
  PA.imp (pa_cons ha (pa_cons hb pa_nil hs2) hs) fun σ H Q h => h
/-- of two local names -/
theorem dx_parO {i j : Nat} {oa ob : Bool} {x y : Str} {a b : Expr} {p q : Bool} {ma mb : EM} {px py pt pos : Pos} {kt k2 pt2} (hc : X.calm = true) (hN : X.N.Nodup) (hi : X.N[i]? = some x) (hj : X.N[j]? = some y) (hij : i ≠ j)
    (hx : X.env.scope.names.lookup x = some .local) (hy : X.env.scope.names.lookup y = some .local) (ha : DE X g p a ma) (hb : ∀ n, DE X (g.at n) q b mb)
    (hw : swappedStores [.Tuple [.Name x px, .Name y py] kt pt] (.Tuple [a, b] k2 pt2) X.env = pure (some [x, y])) (hpi : g.pins.contains i = false := by rfl) (hpj : g.pins.contains j = false := by rfl)
    (hs : swapsWithSole [.Tuple [.Name x px, .Name y py] kt pt] (.Tuple [a, b] k2 pt2) pos.line X.env = pure false := by rfl)
    (hs1 : starEach [a, b] X.env = (false, eval a X.env) :: starEach [b] X.env := by rfl) (hs2 : starEach [b] X.env = (false, eval b X.env) :: starEach [] X.env := by rfl) :
    DS X g (.Assign [.Tuple [.Name x px, .Name y py] kt pt] (.Tuple [a, b] k2 pt2) pos) (sParO i j oa ob ma mb) := by
  have hb' : PE X b (fun σ H Q => ∃ n, tE (g.at n) q mb σ H Q) := ⟨fun pins s σ H Q I ⟨n, k⟩ => (hb n).run pins s σ H Q I k⟩
  refine PS.imp (ps_par hc hN hi hj hij hx hy (pa_two ha hb' hs1 hs2) hw hs) fun D σ H h => ?_
  refine tR_mono (parO_run (p := p) (q := q) hij (not_pin hpi) (not_pin hpj) h) fun v1 H1 ⟨n, k⟩ => ⟨n, tR_mono k fun v2 H2 r => ⟨v1, v2, rfl, r H2 (.inl rfl)⟩⟩
/-- of two names, one of them a cell -/
theorem dx_parC {i j : Nat} {oa ob : Bool} {x y : Str} {a b : Expr} {p q : Bool} {ma mb : EM} {px py pt pos : Pos} {kt k2 pt2} (hc : X.calm = true) (hN : X.N.Nodup) (hi : X.N[i]? = some x) (hj : X.N[j]? = some y) (hij : i ≠ j)
    (hx : Loc X.env.scope x) (hfx : X.fn x = true ∨ X.env.scope.names.lookup x = some .local) (hy : Loc X.env.scope y) (hfy : X.fn y = true ∨ X.env.scope.names.lookup y = some .local) (ha : DE X g p a ma) (hb : ∀ n, DE X (g.at n) q b mb)
    (hpi : g.pins.contains i = false := by rfl) (hpj : g.pins.contains j = false := by rfl)
    (hs : swapsWithSole [.Tuple [.Name x px, .Name y py] kt pt] (.Tuple [a, b] k2 pt2) pos.line X.env = pure false := by rfl) (hw : swappedStores [.Tuple [.Name x px, .Name y py] kt pt] (.Tuple [a, b] k2 pt2) X.env = pure none := by rfl)
    (h1 : (assignEach [.Tuple [.Name x px, .Name y py] kt pt] X.env).map (·.2) = [assign (.Tuple [.Name x px, .Name y py] kt pt) X.env] := by rfl)
    (hs1 : starEach [a, b] X.env = (false, eval a X.env) :: starEach [b] X.env := by rfl) (hs2 : starEach [b] X.env = (false, eval b X.env) :: starEach [] X.env := by rfl)
    (h3 : (assignEach [.Name x px, .Name y py] X.env).map (·.2) = assign (.Name x px) X.env :: (assignEach [.Name y py] X.env).map (·.2) := by rfl) (h4 : (assignEach [.Name y py] X.env).map (·.2) = assign (.Name y py) X.env :: (assignEach [] X.env).map (·.2) := by rfl)
    (hn : (assignEach [.Name x px, .Name y py] X.env).length = 2 := by rfl) (hst : (assignEach [.Name x px, .Name y py] X.env).findIdx? (·.1) = none := by rfl) :
    DS X g (.Assign [.Tuple [.Name x px, .Name y py] kt pt] (.Tuple [a, b] k2 pt2) pos) (sParO i j oa ob ma mb) := by
  have hb' : PE X b (fun σ H Q => ∃ n, tE (g.at n) q mb σ H Q) := ⟨fun pins s σ H Q I ⟨n, k⟩ => (hb n).run pins s σ H Q I k⟩
  refine PS.imp (ps_asg (pe_tup (pa_two ha hb' hs1 hs2)) (pg_tup hc (pgs_cons (pg_name hN hi hx hfx) (pgs_cons (pg_name hN hj hy hfy) pgs_nil h4) h3) hn hst) hs hw h1) fun D σ H h => ?_
  refine tR_mono (parO_run (p := p) (q := q) hij (not_pin hpi) (not_pin hpj) h) fun v1 H1 ⟨n, k⟩ => ⟨n, tR_mono k fun v2 H2 r => ⟨lim_eq (show 2 ≤ lim by decide), fun t ht => ?_⟩⟩
  exact ⟨t, [v1, v2], rfl, .of upd_same, rfl, v1, [v2], rfl, v2, [], rfl, rfl, r _ (.inr ⟨t, ht, rfl⟩)⟩
end
end DL
namespace DL
open PySem PySem.Spec PyProof.Rows L2
/-- a name whose thing is data from here on -/
def eFrz (i : Nat) : EM := fun env => match env[i]? with
  | some (.dat d) => .ok (.dat d) env
  | some (.own t) => match t.toD with
    | some d => .ok (.dat d) ((dropS i env).set i (.dat d))
    | none => .no
  | _ => .no
section
variable {X : Cx} {g : Gx}
theorem dropS_get {j k : Nat} {env : Ve} {y : S} (h : (dropS j env)[k]? = some y) : (k = j ∧ y = .un) ∨ (k ≠ j ∧ ∃ x, env[k]? = some x ∧ y = killS j x) := by
  unfold dropS at h
  by_cases c : k = j
  · subst c
    rw [List.getElem?_set_self'] at h
    cases e : (env.map (killS k))[k]? with
    | none => rw [e] at h; cases h
    | some z => rw [e] at h; simp at h; exact .inl ⟨rfl, h.symm⟩
  · rw [List.getElem?_set_ne (Ne.symm c), List.getElem?_map] at h
    cases e : env[k]? with
    | none => rw [e] at h; cases h
    | some x => rw [e] at h; simp at h; exact .inr ⟨c, x, rfl, h.symm⟩
theorem StR.freeze {Z H : Hp} {env : Ve} {σ : L2.St} {fps : Nat → List Addr} (s : StR g Z env σ H fps) {j : Nat} {t : O} {d : D} (hj : env[j]? = some (.own t)) (e : t.toD = some d) :
    ∃ Z' v, StR g Z' ((dropS j env).set j (.dat d)) σ H (fun k => if k = j then [] else fps k) ∧ Same Z Z' ∧ σ[j]? = some (some v) ∧ RD Z' v d := by
  obtain ⟨v, h1, ow⟩ := s.slot j _ hj
  have s1 := s.drop hj
  obtain ⟨s2, rd, z⟩ := s1.freezeNew ow (fun a m => ⟨s.nz j a m, fun i mi => by
    by_cases c : i = j
    · simp [c] at mi
    · simp only [c, if_false] at mi
      exact c (s.dis i j a mi m), s.e4 j a m⟩) e
  refine ⟨_, v, ⟨?_, s2.sub, fun k x hk => ?_, fun k hk => ?_, s2.dis, s2.nd, s2.nz, s2.e1, s2.e2, s2.e3, s2.e4, s2.pin⟩, z, h1, rd⟩
  · rw [List.length_set]; exact s2.len
  · by_cases c : k = j
    · subst c
      have hx : x = .dat d := by
        rw [List.getElem?_set_self'] at hk
        cases q : (dropS k env)[k]? with
        | none => rw [q] at hk; cases hk
        | some z => rw [q] at hk; simp at hk; exact hk.symm
      subst hx
      exact ⟨by simp, v, h1, rd⟩
    · rw [List.getElem?_set_ne (Ne.symm c)] at hk
      have q := s2.slot k x hk
      cases x with
      | un => exact q
      | dat d => exact q
      | own t => exact q
      | al i p =>
        obtain ⟨e0, ⟨t', ht'⟩, r⟩ := q
        refine ⟨e0, ⟨t', ?_⟩, r⟩
        by_cases c2 : i = j
        · subst c2
          rcases dropS_get ht' with ⟨_, k2⟩ | ⟨k1, _⟩
          · cases k2
          · exact (k1 rfl).elim
        · rw [List.getElem?_set_ne (Ne.symm c2)]; exact ht'
  · exact s2.out k (by rw [List.length_set] at hk; exact hk)
theorem de_frz (i : Nat) {x : Str} {pos : Pos} (hN : X.N[i]? = some x := by rfl) (hv : Vis X.env.scope x := by first | exact Or.inl rfl | exact Or.inr (Or.inl rfl) | exact Or.inr (Or.inr rfl))
    (hd : (x == ("__debug__" : Str)) = false := by decide) (hcd : (x == ("__classdict__" : Str)) = false := by decide) : DE X g false (.Name x pos) (eFrz i) := by
  refine PE.imp (pe_var hN hv hd hcd) fun σ H Q ⟨Z, env, fps, s, h⟩ => ?_
  unfold eFrz at h
  split at h
  · rename_i d hd
    obtain ⟨_, v, h1, h2⟩ := s.slot i _ hd
    exact ⟨v, h1, h v Z H fps s (.refl _) (fun q => by cases q) h2⟩
  · rename_i t ht
    split at h
    · rename_i d hd
      obtain ⟨Z', v, s2, z, h1, rd⟩ := s.freeze ht hd
      exact ⟨v, h1, h v Z' H _ s2 z (fun q => by cases q) rd⟩
    · exact h.elim
  · exact h.elim
end
end DL
namespace DL
open PySem PySem.Spec PyProof.Rows L2
/-! ### a, b, c = e1, e2, e3 with new things that stay owned -/
def sParO3 (i j l : Nat) (oa ob oc : Bool) (ma mb mc : EM) : SM := fun env => Out.ofRes (keepO oa (ma env)) fun va e1 => Out.ofRes (keepO ob (mb e1)) fun vb e2 => Out.ofRes (keepO oc (mc e2)) fun vc e3 => match slotOf va, slotOf vb, slotOf vc with
  | some x, some y, some z => if i < e3.length ∧ j < e3.length ∧ l < e3.length then .nx (setS l z (setS j y (setS i x e3))) else .no
  | _, _, _ => .no
section
variable {X : Cx} {g : Gx}
theorem SlR.home {n : En} {Z H Z0 H0 : Hp} {fps fps0 : Nat → List Addr} {env0 : Ve} {σ0 : L2.St} {v : V} {x : S} {fp : List Addr} (s1 : StR g Z0 env0 σ0 H0 fps0) (r : SlR (g.at ⟨Z0, H0, allF env0.length fps0, g.n.vs⟩) Z H fps v x fp) : SlR g Z H fps v x fp := by
  refine ⟨r.r, r.nd, fun a m => ⟨(r.f a m).1, (r.f a m).2.1, ?_⟩⟩
  rcases (r.f a m).2.2 with k | k
  · obtain ⟨i, _, hk⟩ := mem_allF.mp k
    exact s1.e4 i a hk
  · exact (s1.new0 k).2
theorem parO3_run {i j l : Nat} {oa ob oc p q q2 : Bool} {ma mb mc : EM} {D : Ends} {σ : L2.St} {H : Hp} (hpi : i ∉ g.pins) (hpj : j ∉ g.pins) (hpl : l ∉ g.pins) (h : tS g (sParO3 i j l oa ob oc ma mb mc) D σ H) :
    tE g p ma σ H fun v1 H1 => ∃ n, tE (g.at n) q mb σ H1 fun v2 H2 => ∃ n2, tE (g.at n2) q2 mc σ H2 fun v3 H3 => ∀ H4, (H4 = H3 ∨ ∃ t, H3 t = none ∧ H4 = upd H3 t (.tup [v1, v2, v3])) → D.nx (((σ.set i (some v1)).set j (some v2)).set l (some v3)) H4 := by
  obtain ⟨Z, env, fps, s, h⟩ := h
  unfold sParO3 at h
  refine keep_run (own := oa) s (fun x e1 he v1 Z1 H1 fps1 s1 z1 r1 => ?_) (fun x e1 he => ?_) (fun he => ?_)
  · rw [he] at h
    simp only [ofRes_ok] at h
    have pins1 : ∀ i ∈ g.pins, ∃ v, g.n.vs[i]? = some v ∧ σ[i]? = some (some v) := s1.pin
    refine ⟨_, keep_run (own := ob) s1.enterAt (fun y e2 he2 v2 Z2 H2 fps2 s2 z2 r2 => ?_) (fun y e2 he2 cls d Z2 H2 fps2 s2 z2 xr => ?_) (fun he2 => ?_)⟩
    · rw [he2] at h
      simp only [ofRes_ok] at h
      have s2' := s1.backAt s2 pins1
      refine ⟨_, keep_run (own := oc) s2'.enterAt (fun w e3 he3 v3 Z3 H3 fps3 s3 z3 r3 => ?_) (fun w e3 he3 cls d Z3 H3 fps3 s3 z3 xr => ?_) (fun he3 => ?_)⟩
      · rw [he3] at h
        simp only [ofRes_ok] at h
        split at h
        case h_2 => exact h.elim
        rename_i sx sy sz hx hy hz
        split at h
        case isFalse => exact h.elim
        rename_i hl
        have s3' := s2'.backAt s3 pins1
        obtain ⟨fp, rx⟩ := SlR.of r1 hx
        obtain ⟨fp2, ry0⟩ := SlR.of r2 hy
        obtain ⟨fp3, rz0⟩ := SlR.of r3 hz
        obtain ⟨rx2, nF⟩ := rx.wait s2 z2
        have ry := SlR.home (n := g.n) s1 ry0
        obtain ⟨rx3, nF2⟩ := rx2.wait s3 z3
        obtain ⟨ry3, nF3⟩ := ry.wait s3 z3
        have rz := SlR.home (n := g.n) s2' rz0
        have d12 : ∀ a ∈ fp2, a ∉ fp := fun a m k => nF a k (ry0.f a m).2.2
        have d13 : ∀ a ∈ fp3, a ∉ fp := fun a m k => nF2 a k (rz0.f a m).2.2
        have d23 : ∀ a ∈ fp3, a ∉ fp2 := fun a m k => nF3 a k (rz0.f a m).2.2
        have fin : ∀ H4, StR g Z3 e3 σ H4 fps3 → SlR g Z3 H4 fps3 v1 sx fp → SlR g Z3 H4 fps3 v2 sy fp2 → SlR g Z3 H4 fps3 v3 sz fp3 → D.nx (((σ.set i (some v1)).set j (some v2)).set l (some v3)) H4 := fun H4 s4 a b c => by
          have t1 := s4.store (i := i) hl.1 hpi a.r a.nd (fun u m => ⟨(a.f u m).1, fun k _ => (a.f u m).2.1 k, (a.f u m).2.2⟩)
          have t2 := t1.store (i := j) (by rw [setS_length]; exact hl.2.1) hpj b.r b.nd (fun u m => ⟨(b.f u m).1, fun k _ => by
            by_cases c1 : k = i
            · simp only [c1, if_true]; exact d12 u m
            · simp only [c1, if_false]; exact (b.f u m).2.1 k, (b.f u m).2.2⟩)
          have t3 := t2.store (i := l) (by rw [setS_length, setS_length]; exact hl.2.2) hpl c.r c.nd (fun u m => ⟨(c.f u m).1, fun k _ => by
            by_cases c1 : k = j
            · simp only [c1, if_true]; exact d23 u m
            · simp only [c1, if_false]
              by_cases c2 : k = i
              · simp only [c2, if_true]; exact d13 u m
              · simp only [c2, if_false]; exact (c.f u m).2.1 k, (c.f u m).2.2⟩)
          exact h Z3 _ H4 _ t3 ((z1.trans z2).trans z3)
        rintro H4 (e | ⟨t, ht, e⟩)
        · subst e
          exact fin _ s3' rx3 ry3 rz
        · subst e
          exact fin _ (s3'.fresh (.new s3'.sub ht)) (rx3.fresh ht) (ry3.fresh ht) (rz.fresh ht)
      · rw [he3] at h
        simp only [ofRes_ex] at h
        exact h cls d Z3 σ H3 fps3 (s2'.backAt s3 pins1) ((z1.trans z2).trans z3) xr
      · rw [he3] at h
        simp only [ofRes_no] at h
        exact h
    · rw [he2] at h
      simp only [ofRes_ex] at h
      exact h cls d Z2 σ H2 fps2 (s1.backAt s2 pins1) (z1.trans z2) xr
    · rw [he2] at h
      simp only [ofRes_no] at h
      exact h
  · rw [he] at h
    simp only [ofRes_ex] at h
    exact fun cls d Z' H' fps' => h cls d Z' σ H' fps'
  · rw [he] at h
    simp only [ofRes_no] at h
    exact h
/-- of three local names -/
theorem dx_parO3 {i j l : Nat} {oa ob oc : Bool} {x y z : Str} {a b c : Expr} {p q q2 : Bool} {ma mb mc : EM} {px py pz pt pos : Pos} {kt k2 pt2} (hc : X.calm = true) (hN : X.N.Nodup) (hi : X.N[i]? = some x) (hj : X.N[j]? = some y) (hl : X.N[l]? = some z) (hij : i ≠ j) (hil : i ≠ l) (hjl : j ≠ l)
    (hx : X.env.scope.names.lookup x = some .local) (hy : X.env.scope.names.lookup y = some .local) (hz : X.env.scope.names.lookup z = some .local) (ha : DE X g p a ma) (hb : ∀ n, DE X (g.at n) q b mb) (hcc : ∀ n, DE X (g.at n) q2 c mc)
    (hw : swappedStores [.Tuple [.Name x px, .Name y py, .Name z pz] kt pt] (.Tuple [a, b, c] k2 pt2) X.env = pure (some [x, y, z])) (hpi : g.pins.contains i = false := by rfl) (hpj : g.pins.contains j = false := by rfl) (hpl : g.pins.contains l = false := by rfl)
    (hs : swapsWithSole [.Tuple [.Name x px, .Name y py, .Name z pz] kt pt] (.Tuple [a, b, c] k2 pt2) pos.line X.env = pure false := by rfl)
    (hs1 : starEach [a, b, c] X.env = (false, eval a X.env) :: starEach [b, c] X.env := by rfl) (hs2 : starEach [b, c] X.env = (false, eval b X.env) :: starEach [c] X.env := by rfl) (hs3 : starEach [c] X.env = (false, eval c X.env) :: starEach [] X.env := by rfl) :
    DS X g (.Assign [.Tuple [.Name x px, .Name y py, .Name z pz] kt pt] (.Tuple [a, b, c] k2 pt2) pos) (sParO3 i j l oa ob oc ma mb mc) := by
  have hb' : PE X b (fun σ H Q => ∃ n, tE (g.at n) q mb σ H Q) := ⟨fun pins s σ H Q I ⟨n, k⟩ => (hb n).run pins s σ H Q I k⟩
  have hc' : PE X c (fun σ H Q => ∃ n, tE (g.at n) q2 mc σ H Q) := ⟨fun pins s σ H Q I ⟨n, k⟩ => (hcc n).run pins s σ H Q I k⟩
  refine PS.imp (ps_par3 hc hN hi hj hl hij hil hjl hx hy hz (pa_cons ha (pa_cons hb' (pa_cons hc' pa_nil hs3) hs2) hs1) hw hs) fun D σ H h => ?_
  refine tR_mono (parO3_run (p := p) (q := q) (q2 := q2) (not_pin hpi) (not_pin hpj) (not_pin hpl) h) fun v1 H1 ⟨n, k⟩ => ⟨n, tR_mono k fun v2 H2 ⟨n2, k2⟩ => ⟨n2, tR_mono k2 fun v3 H3 r => ⟨v1, v2, v3, rfl, r H3 (.inl rfl)⟩⟩⟩
end
end DL
namespace DL
open PySem PySem.Spec PyProof.Rows L2
/-! ### a def called with owned things that it only reads: what it sees is data -/
def atomD : D → Bool
  | .non => true
  | .bl _ => true
  | .int _ => true
  | .str _ => true
  | _ => false
theorem RD.atom {Z Z' : Hp} {v : V} {d : D} (h : RD Z v d) (a : atomD d = true) : RD Z' v d := by
  cases h with
  | non => exact .non
  | bl => exact .bl
  | int => exact .int
  | str => exact .str
  | _ => cases a
theorem RDs.atom {Z Z' : Hp} : ∀ {vs : List V} {ds : List D}, RDs Z vs ds → ds.all atomD = true → RDs Z' vs ds
  | _, _, .nil, _ => .nil
  | _, _, .cons h r, a => by
    simp only [List.all_cons, Bool.and_eq_true] at a
    exact .cons (h.atom a.1) (RDs.atom r a.2)
def allAt (xs : List D) : Bool := xs.all atomD
def lendD (e : Ve) : Ev → Option D
  | .dat d => some d
  | .pl j p => (getP e j p).bind O.toD
  | .new _ => none
def lends (e : Ve) : List Ev → Option (List D)
  | [] => some []
  | x :: xs => match lendD e x, lends e xs with
    | some d, some ds => some (d :: ds)
    | _, _ => none
def lendR (e1 : Ve) : FRes → Res Ev
  | .ok (.dat d) _ => if atomD d = true then .ok (.dat d) e1 else .no
  | .ok (.new (.lst xs)) _ => if allAt xs = true then .ok (.new (.lst xs)) e1 else .no
  | .ex x _ => if x.fs.all (fun p => atomD p.2) = true then .ex x e1 else .no
  | _ => .no
def lendM (np : Nat) (fm : FM) (xs : List Ev) (e1 : Ve) : Res Ev := match lends e1 xs with
  | some ds => if ds.length = np then lendR e1 (fm (ds.map S.dat)) else .no
  | none => .no
/-- by what it reads; if that fails: with the things themselves -/
def eFnX (np : Nat) (fm : FM) (ma : AM) : EM := fun env => (ma env).bind fun xs e1 => match lendM np fm xs e1 with
  | .no => eFn np fm (fun _ => .ok xs e1) e1
  | r => r
section
variable {g : Gx}
theorem lends_ok {Z H : Hp} {e : Ve} {σ : L2.St} {fps : Nat → List Addr} (s : StR g Z e σ H fps) : ∀ {vs : List V} {xs : List Ev} {ds : List D}, HvRs Z H σ vs xs → lends e xs = some ds → RDs (frozen Z H (allF e.length fps)) vs ds
  | _, _, _, .nil, h => by simp [lends] at h; subst h; exact .nil
  | _, x :: xs, _, .cons r rs, h => by
    have z : Same Z (frozen Z H (allF e.length fps)) := frozen_same fun a m => by
      obtain ⟨k, _, hk⟩ := mem_allF.mp m
      exact s.nz k a hk
    unfold lends at h
    split at h
    · rename_i d ds h1 h2
      cases h
      refine .cons ?_ (lends_ok s rs h2)
      cases x with
      | dat d' => simp [lendD] at h1; subst h1; exact RD.mono z r
      | new t => simp [lendD] at h1
      | pl j p =>
        obtain ⟨_, vj, hσ, hw⟩ := r
        simp only [lendD, Option.bind_eq_some_iff] at h1
        obtain ⟨t', ht', hd⟩ := h1
        unfold getP at ht'
        split at ht'
        · rename_i t ht
          obtain ⟨v0, h3, ow⟩ := s.slot j _ ht
          rw [hσ] at h3
          cases h3
          obtain ⟨v', fp', h4, h5, h6⟩ := ow.get ht'
          rw [hw] at h4
          cases h4
          refine h5.freeze z (fun a m => ?_) hd
          unfold frozen
          rw [if_pos (mem_allF.mpr ⟨j, (List.getElem?_eq_some_iff.mp ht).1, h6 a m⟩)]
        · cases ht'
    · cases h
theorem lend_run {np : Nat} {fm : FM} {Z H : Hp} {e : Ve} {σ : L2.St} {fps : Nat → List Addr} {vs : List V} {xs : List Ev} {Q : VK} (s : StR g Z e σ H fps) (r : HvRs Z H σ vs xs) {ds : List D} (hd : lends e xs = some ds) (hn : ds.length = np)
    (h : Post g false (EvR g) Z e σ H fps Q (lendR e (fm (ds.map S.dat)))) : spF g.mg np fm vs H Q (fun cls d H => g.W cls d σ H) := by
  have rd := lends_ok s r hd
  have z : Same Z (frozen Z H (allF e.length fps)) := frozen_same fun a m => by
    obtain ⟨k, _, hk⟩ := mem_allF.mp m
    exact s.nz k a hk
  refine ⟨by rw [rd.length]; exact hn, frozen Z H (allF e.length fps), ds.map S.dat, fun _ => [], [], ⟨by simp [rd.length], frozen_sub s.sub, fun i x hx => ?_, fun _ _ => rfl, fun i j a m => by simp at m, fun _ => List.nodup_nil, fun i a m => by simp at m, .refl _, fun b o q _ => q, fun b o q => .inl q, fun i a m => by simp at m, fun i m => by simp [gF] at m⟩, fun i a m => by simp at m, ?_⟩
  · rw [List.getElem?_map] at hx
    cases hq : ds[i]? with
    | none => rw [hq] at hx; cases hx
    | some d =>
      rw [hq] at hx
      cases hx
      obtain ⟨v, h1, h2⟩ := rd.getd hq
      exact ⟨rfl, v, by rw [List.getElem?_map, h1]; rfl, h2⟩
  · have back : ∀ {Z2 H2 : Hp} {as : List S} {σ2 : L2.St} {fps2 : Nat → List Addr}, StR (gF g.mg (frozen Z H (allF e.length fps)) H [] vs) Z2 as σ2 H2 fps2 → StR g Z e σ H2 fps ∧ Same H H2 := fun {Z2 H2 as σ2 fps2} s2 => by
      have hh : Same H H2 := fun b o q => s2.e2 b o q (by simp [gF])
      exact ⟨s.fresh ⟨.refl _, hh, s.sub.trans hh, fun b o q => .inl q⟩, hh⟩
    cases hr : fm (ds.map S.dat) with
    | no => rw [hr] at h; exact h
    | ex x bs =>
      rw [hr] at h
      simp only [lendR] at h
      split at h
      · rename_i ha
        rintro cls d Z2 H2 fps2 s2 ⟨C, e1, e2, e3⟩
        obtain ⟨b1, b2⟩ := back s2
        rcases e3 with e3 | ⟨dd, vfs, k1, k2, k3⟩
        · exact h cls d Z H2 fps b1 (.refl _) ⟨C, e1, e2, .inl e3⟩
        · have zz : ∃ Z', StR g Z' e σ H2 fps ∧ Same Z Z' ∧ Z' dd = some (.xd vfs) := by
            rcases s2.e3 dd _ k2 with q | q | q
            · rcases frozen_dom (show frozen Z H (allF e.length fps) dd = some _ from q) with q | q
              · exact ⟨Z, b1, .refl _, q⟩
              · obtain ⟨i, _, hi⟩ := mem_allF.mp q
                exact absurd (show H dd = some (.xd vfs) from frozen_sub s.sub dd _ (by assumption)) (s.noxd hi vfs)
            · cases q
            · have q : H dd = none := q
              have nz : Z dd = none := by
                cases c : Z dd with
                | none => rfl
                | some o => have := s.sub dd o c; rw [q] at this; cases this
              have zs : Same Z (upd Z dd (.xd vfs)) := fun b o c => by rw [upd_ne (ne_of_none c nz)]; exact c
              refine ⟨_, s.fresh ⟨zs, b2, fun b o c => ?_, fun b o c => ?_⟩, zs, upd_same⟩
              · by_cases eb : b = dd
                · subst eb; rw [upd_same] at c; cases c; exact s2.sub _ _ k2
                · rw [upd_ne eb] at c; exact b2 b o (s.sub b o c)
              · by_cases eb : b = dd
                · subst eb; exact .inr q
                · rw [upd_ne eb] at c; exact .inl c
          obtain ⟨Z', z1, z2, z3⟩ := zz
          refine h cls d Z' H2 fps z1 z2 ⟨C, e1, e2, .inr ⟨dd, vfs, k1, z3, fun f u hu => ?_⟩⟩
          obtain ⟨v, l1, l2⟩ := k3 f u hu
          refine ⟨v, l1, l2.atom ?_⟩
          have mem : ∀ {l : List (Str × D)}, l.lookup f = some u → l.all (fun p => atomD p.2) = true → atomD u = true := by
            intro l
            induction l with
            | nil => intro h; cases h
            | cons p l ih =>
              intro h ha
              obtain ⟨k, w⟩ := p
              simp only [List.all_cons, Bool.and_eq_true] at ha
              simp only [List.lookup] at h
              split at h
              · cases h; exact ha.1
              · exact ih h ha.2
          exact mem hu ha
      · exact h.elim
    | ok v0 bs =>
      rw [hr] at h
      intro v Z2 H2 fps2 s2 er
      obtain ⟨b1, b2⟩ := back s2
      cases v0 with
      | pl j p => exact h.elim
      | dat d =>
        simp only [lendR] at h
        split at h
        · rename_i ha
          have er' : RD Z2 v d := er
          exact h v Z H2 fps b1 (.refl _) (fun q => by cases q) (er'.atom ha)
        · exact h.elim
      | new t =>
        cases t with
        | lst ys =>
          simp only [lendR] at h
          split at h
          · rename_i ha
            obtain ⟨fp, ow, nd, hf⟩ := er
            cases ow with
            | lst k1 k2 =>
              refine h _ Z H2 fps b1 (.refl _) (fun q => by cases q) ⟨_, .lst k1 (k2.atom ha), nd, fun a m => ?_⟩
              obtain ⟨f1, f2, f3⟩ := hf a m
              have hn : H a = none := by
                rcases f3 with f3 | f3
                · simp [gF] at f3
                · exact f3
              refine ⟨?_, (s.new0 hn).1, (s.new0 hn).2⟩
              cases q : Z a with
              | none => rfl
              | some o =>
                have := s2.e1 a o (z a o q)
                rw [f1] at this; cases this
          · exact h.elim
        | _ => exact h.elim
theorem fnX_run {np : Nat} {p : Bool} {fm : FM} {ma : AM} {σ : L2.St} {H : Hp} {Q : VK} (h : tE g false (eFnX np fm ma) σ H Q) : tA g p ma σ H fun vs H1 => spF g.mg np fm vs H1 Q (fun cls d H => g.W cls d σ H) := by
  obtain ⟨Z, env, fps, s, h⟩ := h
  unfold eFnX at h
  cases e : ma env with
  | no => simp [e] at h
  | ex x e1 => exact ⟨Z, env, fps, s, by simpa [e] using h⟩
  | ok xs e1 =>
    simp only [e, Res.bind_ok] at h
    by_cases hno : lendM np fm xs e1 = .no
    · rw [hno] at h
      refine fn_run ⟨Z, env, fps, s, ?_⟩
      unfold eFn
      rw [e]
      exact h
    · refine ⟨Z, env, fps, s, ?_⟩
      rw [e]
      intro vs Z1 H1 fps1 s1 z1 _ r1
      have here : ∀ {r : Res Ev}, Post g false (EvR g) Z env σ H fps Q r → Post g false (EvR g) Z1 e1 σ H1 fps1 Q r := fun {r} hr => by
        cases r with
        | no => exact hr
        | ok a e2 => exact fun b Z2 H2 fps2 s2 z2 _ q => hr b Z2 H2 fps2 s2 (z1.trans z2) (fun q => by cases q) q
        | ex x e2 => exact fun cls d Z2 H2 fps2 s2 z2 q => hr cls d Z2 H2 fps2 s2 (z1.trans z2) q
      have h' : Post g false (EvR g) Z env σ H fps Q (lendM np fm xs e1) := by
        revert h
        cases q : lendM np fm xs e1 with
        | no => exact (hno q).elim
        | ok a e2 => exact fun h => h
        | ex x e2 => exact fun h => h
      unfold lendM at h'
      split at h'
      · rename_i ds hds
        split at h'
        · rename_i hn
          exact lend_run s1 r1 hds hn (here h')
        · exact h'.elim
      · exact h'.elim
end
section
variable {X : Cx} {g : Gx}
theorem de_fnX {k j np : Nat} {x : Str} {ps : List Str} {fm : FM} {p : Bool} {e : Expr} {es : List Expr} {ma : AM} {ps' pos : Pos} (F : FnAt X.prog X.w X.K X.mg X.base k x ps np fm) (hr : Room j X.A) (hkj : k ≤ j) (hmg : g.mg = X.mg) (hg : Gl X x) (tk : L2N.Takes X g.W) (ha : DA X g p (e :: es) ma)
    (hdb : (x == ("__debug__" : Str)) = false := by decide) (he : starEach (e :: es) X.env = (false, eval e X.env) :: starEach es X.env := by rfl) (hpl : (backTo pos (starEach es X.env)).any (·.1) = false := by rfl) :
    DE X g false (.Call (.Name x ps') (e :: es) [] pos) (eFnX np fm ma) := by
  obtain ⟨f, fd, h1, h2, h3, h4⟩ := F.ex
  refine PE.imp (pe_callS h1 (hr.mono hkj) hg h2 h3 h4 (fun σ => L2N.passAt tk σ) ha hdb he hpl) fun σ H Q h => ?_
  have := fnX_run (p := p) h
  rw [hmg] at this
  exact this
end
end DL
namespace DL
open PySem PySem.Spec PyProof.Rows L2
/-! ### instances: methods, making, fields -/
/-- what never raises -/
def noX (fm : FM) : FM := fun as => match fm as with
  | .ex _ _ => .no
  | r => r
theorem spF_noX {mg : Str → Option Value} {np : Nat} {fm : FM} {vs : List V} {H : Hp} {Q : VK} {E E' : XK} (h : spF mg np (noX fm) vs H Q E) : spF mg np fm vs H Q E' := by
  obtain ⟨hl, Z, as, fps, F, h1, h2, h3⟩ := h
  refine ⟨hl, Z, as, fps, F, h1, h2, ?_⟩
  unfold noX at h3
  cases e : fm as with
  | no => rw [e] at h3; exact h3
  | ok r bs => rw [e] at h3; exact h3
  | ex x bs => rw [e] at h3; exact h3.elim
structure MethAt (P : Program) (w : World) (K : PySem.W.Frag) (mg : Str → Option Value) (base : Heap) (k : Nat) (c m : Str) (ps : List Str) (np : Nat) (fm : FM) : Prop where
  ex : ∃ C f fd, FnOk P w K mg base (L2N.CX P w) k f fd ps (spF mg np fm) ∧ mg c = some (.ref C) ∧ Cls K C ∧ Meth K C m f ∧ Binds K fd ps []
structure MakeAt (P : Program) (w : World) (K : PySem.W.Frag) (mg : Str → Option Value) (base : Heap) (k : Nat) (c : Str) (ps : List Str) (np : Nat) (fm : FM) : Prop where
  ex : ∃ C f fd, FnOk P w K mg base (L2N.CX P w) k f fd ps (spF mg np fm) ∧ mg c = some (.ref C) ∧ Mk K C f ∧ Binds K fd ps []
/-- a method of the thing at slot j -/
def eMth (c m : Str) (np : Nat) (fm : FM) (j : Nat) (q : Bool) (ma : AM) : EM := fun env => match env[j]? with
  | some (.own (.ins c' fs)) => if c' = c ∧ (O.get.getF fs m).isNone = true then eFn np (noX fm) (aCons q (eName j) ma) env else .no
  | _ => .no
section
variable {X : Cx} {g : Gx}
theorem passF : Passes (L2N.CX X.prog X.w) X (fun _ _ _ => False) := fun _ _ _ _ e s' I ⟨_, _, _, _, _, _, _, _, _, _, _, _, z⟩ => z.elim
theorem OwnF.nolook {mg : Str → Option Value} {Z H : Hp} {m : Str} : ∀ {vs : List (Str × V)} {fs : List (Str × O)} {fp : List Addr}, OwnF mg Z H vs fs fp → (O.get.getF fs m).isNone = true → vs.lookup m = none
  | _, _, _, .nil, _ => rfl
  | _, _, _, .cons (x := x) _ r, e => by
    unfold O.get.getF at e
    by_cases c : m = x
    · rw [if_pos c] at e; cases e
    · rw [if_neg c] at e
      have : (m == x) = false := by simpa using c
      simp [List.lookup, this, OwnF.nolook r e]
theorem name_out {j : Nat} {p : Bool} {σ : L2.St} {H : Hp} {Q : VK} (h : tE g p (eName j) σ H Q) : ∃ v, σ[j]? = some (some v) ∧ Q v H := by
  obtain ⟨Z, env, fps, s, h⟩ := h
  unfold eName at h
  split at h
  · rename_i d hd
    obtain ⟨_, v, h1, h2⟩ := s.slot j _ hd
    exact ⟨v, h1, h v Z H fps s (.refl _) (fun _ => ⟨rfl, rfl, .refl _⟩) h2⟩
  · rename_i t ht
    obtain ⟨v, h1, h2⟩ := s.slot j _ ht
    exact ⟨v, h1, h v Z H fps s (.refl _) (fun _ => ⟨rfl, rfl, .refl _⟩) ⟨v, h1, by simp [walk]⟩⟩
  · rename_i k pp hk
    obtain ⟨_, _, v, vj, h1, h2, h3⟩ := s.slot j _ hk
    exact ⟨v, h1, h v Z H fps s (.refl _) (fun _ => ⟨rfl, rfl, .refl _⟩) ⟨vj, h2, h3⟩⟩
  · exact h.elim
theorem meth_runI {c m : Str} {np : Nat} {fm : FM} {j : Nat} {ma : AM} {p : Bool} {σ : L2.St} {H : Hp} {Q : VK} {C : Addr} (hC : g.mg c = some (.ref C)) (h : tE g false (eMth c m np fm j p ma) σ H Q) :
    tMeth C m (spF g.mg np fm) [] (fun _ _ _ => False) (tE g true (eName j)) (tA g p ma) σ H Q := by
  obtain ⟨Z, env, fps, s, h⟩ := h
  unfold eMth at h
  split at h
  case h_2 => exact h.elim
  rename_i c' fs hj
  split at h
  case isFalse => exact h.elim
  rename_i hc
  obtain ⟨rfl, hn⟩ := hc
  refine ⟨Z, env, fps, s, ?_⟩
  have he : eName j env = .ok (.pl j []) env := by unfold eName; rw [hj]
  rw [he]
  rintro v Z1 H1 fps1 s1 z1 k1 ⟨vj, hσ, hw⟩
  simp only [walk, Option.some.injEq] at hw
  subst hw
  obtain ⟨a, C', dx, vfs, fp, ev, ha, hm, ow⟩ := s1.insAt (p := []) (by unfold getP; rw [hj]; rfl) (v := vj) hσ (by simp [walk])
  rw [hC] at hm
  cases hm
  refine ⟨a, dx, vfs, ev, ha, ow.nolook hn, ?_⟩
  have t : tE g false (eFn np (noX fm) (aCons p (eName j) ma)) σ H1 Q := by
    refine ⟨Z1, env, fps1, s1, ?_⟩
    revert h
    cases eFn np (noX fm) (aCons p (eName j) ma) env with
    | no => exact fun h => h
    | ok x e => exact fun h b Z2 H2 fps2 s2 z2 _ r => h b Z2 H2 fps2 s2 (z1.trans z2) (fun q => by cases q) r
    | ex x e => exact fun h cls d Z2 H2 fps2 s2 z2 r => h cls d Z2 H2 fps2 s2 (z1.trans z2) r
  obtain ⟨v', h1', h2'⟩ := name_out (cons_run (p := true) (q := p) (fn_run (p := true && p) t))
  rw [hσ] at h1'
  cases h1'
  exact tR_mono h2' fun vs H2 q => by rw [List.append_nil]; exact spF_noX q
theorem de_mth {k j np : Nat} {l : Nat} {c m x : Str} {ps : List Str} {fm : FM} {p : Bool} {e : Expr} {es : List Expr} {ma : AM} {px apos pos : Pos} {pl : Sem Bool} (F : MethAt X.prog X.w X.K X.mg X.base k c m ps np fm) (hr : Room l X.A) (hkl : k ≤ l) (hmg : g.mg = X.mg)
    (ho : DE X g true (.Name x px) (eName j)) (ha : DA X g p (e :: es) ma)
    (hst : starEach (e :: es) X.env = (false, eval e X.env) :: starEach es X.env := by rfl) (hpl : (backTo pos (starEach es X.env)).any (·.1) = false := by rfl)
    (ht : eval (.Call (.Attribute (.Name x px) m apos) (e :: es) [] pos) X.env = (do
      let ov ← eval (.Name x px) X.env
      standAt apos.atName
      let (f, first) ← holding [ov] (getMethod ov m pl)
      callWith pos f first (backTo pos (starEach (e :: es) X.env)) (backToKw pos (keywordEach [] X.env))) := by rfl) :
    DE X g false (.Call (.Attribute (.Name x px) m apos) (e :: es) [] pos) (eMth c m np fm j p ma) := by
  obtain ⟨C, f, fd, h1, h2, h3, h4, h5⟩ := F.ex
  refine PE.imp (pe_meth (pl := pl) ho h3 h4 h1 (hr.mono hkl) h5 .nil passF ha hst hpl ht) fun σ H Q h => ?_
  have := meth_runI (p := p) (C := C) (by rw [hmg]; exact h2) h
  rw [hmg] at this
  exact this
theorem de_mth0 {k j np : Nat} {l : Nat} {c m x : Str} {ps : List Str} {fm : FM} {px apos pos : Pos} {pl : Sem Bool} (F : MethAt X.prog X.w X.K X.mg X.base k c m ps np fm) (hr : Room l X.A) (hkl : k ≤ l) (hmg : g.mg = X.mg)
    (ho : DE X g true (.Name x px) (eName j))
    (ht : eval (.Call (.Attribute (.Name x px) m apos) [] [] pos) X.env = (do
      let ov ← eval (.Name x px) X.env
      standAt apos.atName
      let (f, first) ← holding [ov] (getMethod ov m pl)
      callWith pos f first (backTo pos (starEach [] X.env)) (backToKw pos (keywordEach [] X.env))) := by rfl) :
    DE X g false (.Call (.Attribute (.Name x px) m apos) [] [] pos) (eMth c m np fm j true aNil) := by
  obtain ⟨C, f, fd, h1, h2, h3, h4, h5⟩ := F.ex
  refine PE.imp (pe_meth0 (pl := pl) ho h3 h4 h1 (hr.mono hkl) h5 .nil passF ht) fun σ H Q h => ?_
  have := meth_runI (p := true) (C := C) (by rw [hmg]; exact h2) h
  rw [hmg] at this
  refine tR_mono this fun x H1 ⟨a, dx, fs, q1, q2, q3, Z, env, fps, s, q4⟩ => ⟨a, dx, fs, q1, q2, q3, ?_⟩
  exact q4 [] Z H1 fps s (.refl _) (fun _ => ⟨rfl, rfl, .refl _⟩) .nil
/-- C(..), its arguments data -/
def eMake (c : Str) (fm : FM) (np : Nat) (ma : AM) : EM := fun env => (ma env).bind fun xs e1 => match dats xs with
  | some ds => if ds.length + 1 = np then match fm (.own (.ins c []) :: ds.map S.dat) with
    | .ok (.dat .non) [t] => .ok (.new t) e1
    | _ => .no
    else .no
  | none => .no
theorem make_run {c : Str} {np : Nat} {fm : FM} {ma : AM} {p : Bool} {σ : L2.St} {H : Hp} {Q : VK} {C : Addr} (hC : g.mg c = some (.ref C)) (h : tE g false (eMake c fm np ma) σ H Q) :
    tMake C (spF g.mg np fm) [] (fun _ _ _ => False) (tA g p ma) σ H Q := by
  obtain ⟨Z, env, fps, s, h⟩ := h
  refine ⟨Z, env, fps, s, ?_⟩
  unfold eMake at h
  cases e : ma env with
  | no => simp [e] at h
  | ex x e1 => simpa [e] using h
  | ok xs e1 =>
    simp only [e, Res.bind_ok] at h
    intro vs Z1 H1 fps1 s1 z1 _ r1 x dx hx hdx hne
    cases hd : dats xs with
    | none => simp [hd] at h
    | some ds =>
    simp only [hd] at h
    split at h
    case isFalse => exact h.elim
    rename_i hnp
    have rd := dats_ok r1 hd
    let H' : Hp := upd (upd H1 dx (.own x)) x (.ins C dx [])
    have hh : ∀ b o, H1 b = some o → H' b = some o := fun b o q => by
      have n1 : b ≠ x := ne_of_none q hx
      have n2 : b ≠ dx := ne_of_none q hdx
      show upd (upd H1 dx (.own x)) x (.ins C dx []) b = some o
      rw [upd_ne n1, upd_ne n2]; exact q
    have hz0 : ∀ b, H1 b = none → Z1 b = none := fun b q => by
      cases k : Z1 b with
      | none => rfl
      | some o => rw [s1.sub b o k] at q; cases q
    rw [List.append_nil]
    refine ⟨by simp [rd.length, hnp], Z1, .own (.ins c []) :: ds.map S.dat, fun i => if i = 0 then [x] else [], [x], ⟨by simp [rd.length], fun b o q => hh b o (s1.sub b o q), fun i y hy => ?_, fun i hi => ?_, fun i j a m1 m2 => ?_, fun i => ?_, fun i a m => ?_, .refl _, fun b o q _ => q, fun b o q => .inl q, fun i a m => .inl ?_, fun i m => by simp [gF] at m⟩, fun i a m => ?_, ?_⟩
    · cases i with
      | zero =>
        simp only [List.getElem?_cons_zero, Option.some.injEq] at hy
        subst hy
        exact ⟨.ref x, rfl, .ins (fp := []) upd_same hC .nil⟩
      | succ i =>
        simp only [List.getElem?_cons_succ, List.getElem?_map] at hy
        cases hq : ds[i]? with
        | none => rw [hq] at hy; cases hy
        | some d =>
          rw [hq] at hy
          cases hy
          obtain ⟨v, k1, k2⟩ := rd.getd hq
          exact ⟨by simp, v, by simp [k1], k2⟩
    · have : i ≠ 0 := by simp at hi; omega
      simp [this]
    · by_cases c1 : i = 0
      · by_cases c2 : j = 0
        · omega
        · simp [c2] at m2
      · simp [c1] at m1
    · by_cases c1 : i = 0
      · simp [c1]
      · simp [c1]
    · by_cases c1 : i = 0
      · simp only [c1, if_true, List.mem_singleton] at m
        rw [m]; exact hz0 x hx
      · simp [c1] at m
    · by_cases c1 : i = 0
      · simp only [c1, if_true] at m; exact m
      · simp [c1] at m
    · by_cases c1 : i = 0
      · simp only [c1, if_true] at m; exact m
      · simp [c1] at m
    · cases hr : fm (.own (.ins c []) :: ds.map S.dat) with
      | no => rw [hr] at h; exact h
      | ex y bs => rw [hr] at h; exact h.elim
      | ok v0 bs =>
        rw [hr] at h
        split at h
        case h_2 => exact h.elim
        rename_i t hq
        cases hq
        intro v Z2 H2 fps2 s2 er
        have er' : RD Z2 v .non := er
        cases er'
        refine ⟨rfl, ?_⟩
        have a3 : ∀ b o, Z2 b = some o → Z1 b = some o ∨ b ∈ [x] ∨ H' b = none := s2.e3
        have a4 : ∀ i a, a ∈ fps2 i → a ∈ [x] ∨ H' a = none := s2.e4
        have nn : ∀ b, b ∈ [x] ∨ H' b = none → H1 b = none := fun b q => by
          rcases q with q | q
          · rw [List.mem_singleton.mp q]; exact hx
          · cases k : H1 b with
            | none => rfl
            | some o => rw [hh b o k] at q; cases q
        have hs : Same H1 H2 := fun b o q => s2.e2 b o (hh b o q) fun m => by
          have m' : b ∈ [x] := m
          rw [List.mem_singleton.mp m', hx] at q; cases q
        have fr : Fresh Z1 H1 Z2 H2 := ⟨s2.e1, hs, s2.sub, fun b o q => by
          rcases a3 b o q with k | k | k
          · exact .inl k
          · exact .inr (nn b (.inl k))
          · exact .inr (nn b (.inr k))⟩
        have s3 := s1.fresh fr
        obtain ⟨v0, k1, ow⟩ := s2.slot 0 _ (show (aft (.own (.ins c []) :: ds.map S.dat) [t])[0]? = some (.own t) from rfl)
        simp only [List.map_cons, List.getElem?_cons_zero, Option.some.injEq] at k1
        subst k1
        exact h (.ref x) Z2 H2 fps1 s3 (z1.trans fr.z) (fun q => by cases q) ⟨fps2 0, ow, s2.nd 0, fun a m => ⟨s2.nz 0 a m, (s1.new0 (nn a (a4 0 a m))).1, (s1.new0 (nn a (a4 0 a m))).2⟩⟩
theorem de_make {k np l : Nat} {c : Str} {ps : List Str} {fm : FM} {p : Bool} {e : Expr} {es : List Expr} {ma : AM} {px pos : Pos} (F : MakeAt X.prog X.w X.K X.mg X.base k c ps np fm) (hr : Room l X.A) (hkl : k + 1 ≤ l) (hmg : g.mg = X.mg) (hg : Gl X c) (ha : DA X g p (e :: es) ma)
    (hdb : (c == ("__debug__" : Str)) = false := by decide) (he : starEach (e :: es) X.env = (false, eval e X.env) :: starEach es X.env := by rfl) (hpl : (backTo pos (starEach es X.env)).any (·.1) = false := by rfl) :
    DE X g false (.Call (.Name c px) (e :: es) [] pos) (eMake c fm np ma) := by
  obtain ⟨C, f, fd, h1, h2, h3, h4⟩ := F.ex
  refine PE.imp (pe_make h3 h1 (hr.mono hkl) hg h2 h4 .nil passF ha hdb he hpl) fun σ H Q h => ?_
  have := make_run (p := p) (C := C) (by rw [hmg]; exact h2) h
  rw [hmg] at this
  exact this
end
end DL
namespace DL
open PySem PySem.Spec PyProof.Rows L2
/-! ### o.f = e -/
def putFO (f : Str) (t : O) : List (Str × O) → List (Str × O)
  | [] => [(f, t)]
  | (g, x) :: r => if g = f then (g, t) :: r else (g, x) :: putFO f t r
theorem OwnF.put {mg : Str → Option Value} {Z H : Hp} {f : Str} {v : V} {t : O} {f' : List Addr} (ow : Own mg Z H v t f') (nd' : f'.Nodup) : ∀ {vs : List (Str × V)} {fs : List (Str × O)} {fp : List Addr}, OwnF mg Z H vs fs fp → fp.Nodup → (∀ a ∈ f', a ∉ fp) →
    ∃ fp2, OwnF mg Z H (putF f v vs) (putFO f t fs) fp2 ∧ fp2.Nodup ∧ (∀ a ∈ fp2, a ∈ fp ∨ a ∈ f')
  | _, _, _, .nil, _, _ => ⟨f' ++ [], .cons ow .nil, by simpa using nd', fun a m => .inr (by simpa using m)⟩
  | _, _, _, .cons (x := x) (v := w) (t := u) (f := f1) (vs := vs) (ts := ts) (g := g1) h r, nd, dj => by
    obtain ⟨n1, n2, n3⟩ := List.nodup_append.mp nd
    by_cases c : x = f
    · refine ⟨f' ++ g1, ?_, ?_, fun a m => ?_⟩
      · simp only [putF, putFO, if_pos c]; exact .cons ow r
      · exact List.nodup_append.mpr ⟨nd', n2, fun a ha b hb e => dj a ha (List.mem_append_right _ (e ▸ hb))⟩
      · rcases List.mem_append.mp m with m | m
        · exact .inr m
        · exact .inl (List.mem_append_right _ m)
    · obtain ⟨fp2, k1, k2, k3⟩ := OwnF.put ow nd' r n2 fun a m k => dj a m (List.mem_append_right _ k)
      refine ⟨f1 ++ fp2, ?_, ?_, fun a m => ?_⟩
      · simp only [putF, putFO, if_neg c]; exact .cons h k1
      · refine List.nodup_append.mpr ⟨n1, k2, fun a ha b hb e => ?_⟩
        subst e
        rcases k3 a hb with q | q
        · exact n3 a ha a q rfl
        · exact dj a q (List.mem_append_left _ ha)
      · rcases List.mem_append.mp m with m | m
        · exact .inl (List.mem_append_left _ m)
        · rcases k3 a m with q | q
          · exact .inl (List.mem_append_right _ q)
          · exact .inr q
def noAl (e : Ve) : Bool := e.all fun s => match s with
  | .al _ _ => false
  | _ => true
def ownOf : S → Option O
  | .dat d => some (.dat d)
  | .own t => some t
  | _ => none
def sFldS (c f : Str) (j : Nat) (o : Bool) (me : EM) : SM := fun env => Out.ofRes (keepO o (me env)) fun v e => match (slotOf v).bind ownOf, e[j]? with
  | some t, some (.own (.ins c' fs)) => if c' = c ∧ fs.length < 1000 ∧ noAl e = true then .nx (e.set j (.own (.ins c (putFO f t fs)))) else .no
  | _, _ => .no
section
variable {X : Cx} {g : Gx}
theorem SlR.own {Z H : Hp} {fps : Nat → List Addr} {v : V} {x : S} {fp : List Addr} {t : O} (r : SlR g Z H fps v x fp) (h : ownOf x = some t) : Own g.mg Z H v t fp := by
  rcases r.r with ⟨d, rfl, rfl, rd⟩ | ⟨t', rfl, ow⟩
  · cases h; exact .dat rd
  · cases h; exact ow
theorem OwnF.len {mg : Str → Option Value} {Z H : Hp} : ∀ {vs : List (Str × V)} {fs : List (Str × O)} {fp : List Addr}, OwnF mg Z H vs fs fp → vs.length = fs.length
  | _, _, _, .nil => rfl
  | _, _, _, .cons _ r => congrArg Nat.succ (OwnF.len r)
theorem fldS_run {c f : Str} {j : Nat} {o p : Bool} {me : EM} {D : Ends} {σ : L2.St} {H : Hp} {K : PySem.W.Frag} (hC : FldOk K g.mg c f) (h : tS g (sFldS c f j o me) D σ H) :
    sFld K (fun σ H Q => ∃ n, tE (g.at n) true (eName j) σ H Q) (tE g p me) f D σ H := by
  obtain ⟨Z, env, fps, s, h⟩ := h
  unfold sFldS at h
  refine keep_run (own := o) s (fun x e1 he v Z1 H1 fps1 s1 z1 r1 => ?_) (fun x e1 he => ?_) (fun he => ?_)
  · rw [he] at h
    simp only [ofRes_ok] at h
    split at h
    case h_2 => exact h.elim
    rename_i t c' fs ht hj
    split at h
    case isFalse => exact h.elim
    rename_i hl
    obtain ⟨rfl, hlen, hna⟩ := hl
    simp only [Option.bind_eq_some_iff] at ht
    obtain ⟨sx, hsx, hto⟩ := ht
    obtain ⟨fp, rx⟩ := SlR.of r1 hsx
    refine ⟨_, Z1, e1, fps1, s1.enterAt, ?_⟩
    have hn : eName j e1 = .ok (.pl j []) e1 := by unfold eName; rw [hj]
    rw [hn]
    rintro v2 Z2 H2 fps2 s2 z2 k2 ⟨vj, hσ, hw⟩
    simp only [walk, Option.some.injEq] at hw
    subst hw
    obtain ⟨_, e2, _⟩ := k2 rfl
    subst e2
    have s2' := s1.backAt s2 s1.pin
    obtain ⟨rx2, nF⟩ := rx.wait s2 z2
    have ow := rx2.own hto
    obtain ⟨w0, h1, owj⟩ := s2'.slot j _ hj
    rw [hσ] at h1
    cases h1
    have ndj := s2'.nd j
    generalize hfj : fps2 j = fj at owj ndj
    cases owj with
    | ins ha hm owf =>
      rename_i a C dx vfs fq
      obtain ⟨n1, n2⟩ := List.nodup_cons.mp ndj
      obtain ⟨hc1, hc2⟩ := hC C hm
      have inj : ∀ b, b ∈ fps2 j ↔ b = a ∨ b ∈ fq := fun b => by rw [hfj]; exact List.mem_cons
      have djx : ∀ b ∈ fp, b ∉ fq := fun b m k => (rx2.f b m).2.1 j ((inj b).mpr (.inr k))
      have nax : a ∉ fp := fun m => (rx2.f a m).2.1 j ((inj a).mpr (.inl rfl))
      obtain ⟨fp2, q1, q2, q3⟩ := OwnF.put (f := f) ow rx2.nd owf n2 djx
      refine ⟨a, C, dx, vfs, rfl, ha, hc1, hc2, by rw [owf.len]; exact hlen, ?_⟩
      have na2 : a ∉ fp2 := fun m => by
        rcases q3 a m with k | k
        · exact n1 k
        · exact nax k
      -- the state behind it
      have jl : j < e1.length := (List.getElem?_eq_some_iff.mp hj).1
      refine h Z2 σ (upd H2 a (.ins C dx (putF f v vfs))) (fun k => if k = j then a :: fp2 else fps2 k) ⟨by rw [List.length_set]; exact s2'.len, fun b u q => ?_, fun k x hk => ?_, fun k hk => ?_, fun k l b m1 m2 => ?_, fun k => ?_, fun k b m => ?_, s2'.e1, fun b u q1 q2 => ?_, s2'.e3, fun k b m => ?_, s2'.pin⟩ (z1.trans z2)
      · have : b ≠ a := fun e => by
          rw [e] at q
          rw [s2'.nz j a ((inj a).mpr (.inl rfl))] at q; cases q
        rw [upd_ne this]; exact s2'.sub b u q
      · by_cases c : k = j
        · subst c
          rw [List.getElem?_set_self jl] at hk
          cases hk
          rw [if_pos rfl]
          exact ⟨.ref a, hσ, .ins upd_same hm (q1.keep (.refl _) fun b hb => upd_ne fun e => na2 (e ▸ hb))⟩
        · rw [List.getElem?_set_ne (Ne.symm c)] at hk
          rw [if_neg c]
          have q := s2'.slot k x hk
          cases x with
          | un => exact q
          | dat d => exact q
          | own t =>
            obtain ⟨w, k1, k2⟩ := q
            refine ⟨w, k1, k2.keep (.refl _) fun b hb => upd_ne fun e => ?_⟩
            rw [e] at hb
            exact c (s2'.dis k j a hb ((inj a).mpr (.inl rfl)))
          | al i pp =>
            have := List.all_eq_true.mp hna (S.al i pp) (List.mem_of_getElem? hk)
            cases this
      · rw [List.length_set] at hk
        have : k ≠ j := by omega
        show (if k = j then a :: fp2 else fps2 k) = []
        rw [if_neg this]; exact s2'.out k hk
      · have key : ∀ k l, k ≠ j → l = j → b ∈ fps2 k → b ∈ a :: fp2 → False := fun k l hk hl mk ml => by
          rcases List.mem_cons.mp ml with e | ml
          · exact hk (s2'.dis k j b mk ((inj b).mpr (.inl e)))
          · rcases q3 b ml with e | e
            · exact hk (s2'.dis k j b mk ((inj b).mpr (.inr e)))
            · exact (rx2.f b e).2.1 k mk
        by_cases c1 : k = j
        · by_cases c2 : l = j
          · omega
          · simp only [c1, if_true] at m1
            simp only [c2, if_false] at m2
            exact (key l k c2 c1 m2 m1).elim
        · by_cases c2 : l = j
          · simp only [c1, if_false] at m1
            simp only [c2, if_true] at m2
            exact (key k l c1 c2 m1 m2).elim
          · simp only [c1, if_false] at m1
            simp only [c2, if_false] at m2
            exact s2'.dis k l b m1 m2
      · show (if k = j then a :: fp2 else fps2 k).Nodup
        by_cases c : k = j
        · rw [if_pos c]; exact List.nodup_cons.mpr ⟨na2, q2⟩
        · rw [if_neg c]; exact s2'.nd k
      · by_cases c : k = j
        · simp only [c, if_true] at m
          rcases List.mem_cons.mp m with e | m
          · rw [e]; exact s2'.nz j a ((inj a).mpr (.inl rfl))
          · rcases q3 b m with e | e
            · exact s2'.nz j b ((inj b).mpr (.inr e))
            · exact (rx2.f b e).1
        · simp only [c, if_false] at m; exact s2'.nz k b m
      · have : b ≠ a := fun e => by
          subst e
          rcases s2'.e4 j b ((inj b).mpr (.inl rfl)) with k | k
          · exact q2 k
          · rw [k] at q1; cases q1
        rw [upd_ne this]; exact s2'.e2 b u q1 q2
      · by_cases c : k = j
        · simp only [c, if_true] at m
          rcases List.mem_cons.mp m with e | m
          · rw [e]; exact s2'.e4 j a ((inj a).mpr (.inl rfl))
          · rcases q3 b m with e | e
            · exact s2'.e4 j b ((inj b).mpr (.inr e))
            · exact (rx2.f b e).2.2
        · simp only [c, if_false] at m; exact s2'.e4 k b m
  · rw [he] at h
    simp only [ofRes_ex] at h
    exact fun cls d Z' H' fps' => h cls d Z' σ H' fps'
  · rw [he] at h
    simp only [ofRes_no] at h
    exact h
theorem dx_fldS {c f x : Str} {j : Nat} {o p : Bool} {value : Expr} {me : EM} {px pos' pos : Pos} (hC : FldOk X.K g.mg c f) (ho : ∀ n, DE X (g.at n) true (.Name x px) (eName j)) (hv : DE X g p value me)
    (hs : swapsWith value (some (.Attribute (.Name x px) f pos')) pos.line X.env = pure false := by rfl) : DS X g (.Assign [.Attribute (.Name x px) f pos'] value pos) (sFldS c f j o me) := by
  have ho' : PE X (.Name x px) (fun σ H Q => ∃ n, tE (g.at n) true (eName j) σ H Q) := ⟨fun pins s σ H Q I ⟨n, k⟩ => (ho n).run pins s σ H Q I k⟩
  exact PS.imp (ps_fld ho' hv hs) fun D σ H h => fldS_run hC h
end
end DL
namespace DL
open PySem PySem.Spec PyProof.Rows L2
/-! ### a, b = e1, another name of a thing -/
def sParA (i j : Nat) (ma : AM) : SM := fun env => Out.ofRes (ma env) fun xs e => match xs, e[j]? with
  | [.dat d, .pl k p], some .un => match e[k]? with
    | some (.own t) => if (t.get p).isSome = true ∧ i < e.length ∧ i ≠ j ∧ k ≠ i ∧ k ≠ j then .nx ((setS i (.dat d) e).set j (.al k p)) else .no
    | _ => .no
  | _, _ => .no
section
variable {X : Cx} {g : Gx}
theorem StR.alias {Z H : Hp} {env : Ve} {σ : L2.St} {fps : Nat → List Addr} (s : StR g Z env σ H fps) {j k : Nat} {p : List Str} {t : O} {v vk : V} (hj : env[j]? = some .un) (hp : j ∉ g.pins) (hk : env[k]? = some (.own t)) (hkj : k ≠ j) (hσ : σ[k]? = some (some vk)) (hw : walk H vk p = some v) :
    StR g Z (env.set j (.al k p)) (σ.set j (some v)) H fps := by
  have jl : j < env.length := (List.getElem?_eq_some_iff.mp hj).1
  have jσ : j < σ.length := by rw [s.len]; exact jl
  have fj : fps j = [] := s.slot j _ hj
  refine ⟨by rw [List.length_set, List.length_set]; exact s.len, s.sub, fun l x hl => ?_, fun l hl => s.out l (by rw [List.length_set] at hl; exact hl), s.dis, s.nd, s.nz, s.e1, s.e2, s.e3, s.e4, fun l hl => ?_⟩
  · by_cases c : l = j
    · subst c
      rw [List.getElem?_set_self jl] at hl
      cases hl
      refine ⟨fj, ⟨t, by rw [List.getElem?_set_ne (Ne.symm hkj)]; exact hk⟩, v, vk, by rw [List.getElem?_set_self jσ], by rw [List.getElem?_set_ne (Ne.symm hkj)]; exact hσ, hw⟩
    · rw [List.getElem?_set_ne (Ne.symm c)] at hl
      have hσl : (σ.set j (some v))[l]? = σ[l]? := List.getElem?_set_ne (Ne.symm c)
      have q := s.slot l x hl
      cases x with
      | un => exact q
      | dat d => obtain ⟨a, w, h1, h2⟩ := q; exact ⟨a, w, by rw [hσl]; exact h1, h2⟩
      | own u => obtain ⟨w, h1, h2⟩ := q; exact ⟨w, by rw [hσl]; exact h1, h2⟩
      | al i pp =>
        obtain ⟨a, ⟨u, hu⟩, w, vj, h1, h2, h3⟩ := q
        have hi : i ≠ j := fun e => by rw [e, hj] at hu; cases hu
        exact ⟨a, ⟨u, by rw [List.getElem?_set_ne (Ne.symm hi)]; exact hu⟩, w, vj, by rw [hσl]; exact h1, by rw [List.getElem?_set_ne (Ne.symm hi)]; exact h2, h3⟩
  · obtain ⟨w, h1, h2⟩ := s.pin l hl
    have hne : j ≠ l := fun e => hp (by rw [e]; exact hl)
    exact ⟨w, h1, by rw [List.getElem?_set_ne hne]; exact h2⟩
theorem dx_parA {i j : Nat} {x y : Str} {a b : Expr} {p : Bool} {ma : AM} {px py pt pos : Pos} {kt k2 pt2} (hc : X.calm = true) (hN : X.N.Nodup) (hi : X.N[i]? = some x) (hj : X.N[j]? = some y) (hij : i ≠ j)
    (hx : X.env.scope.names.lookup x = some .local) (hy : X.env.scope.names.lookup y = some .local) (ha : DA X g p [a, b] ma)
    (hw : swappedStores [.Tuple [.Name x px, .Name y py] kt pt] (.Tuple [a, b] k2 pt2) X.env = pure (some [x, y]))
    (hpi : g.pins.contains i = false := by rfl) (hpj : g.pins.contains j = false := by rfl)
    (hs : swapsWithSole [.Tuple [.Name x px, .Name y py] kt pt] (.Tuple [a, b] k2 pt2) pos.line X.env = pure false := by rfl) :
    DS X g (.Assign [.Tuple [.Name x px, .Name y py] kt pt] (.Tuple [a, b] k2 pt2) pos) (sParA i j ma) := by
  refine PS.imp (ps_par hc hN hi hj hij hx hy ha hw hs) fun D σ H ⟨Z, env, fps, s, h⟩ => ⟨Z, env, fps, s, ?_⟩
  unfold sParA at h
  cases e : ma env with
  | no => simp only [e, ofRes_no] at h; exact h
  | ex x e1 => simp only [e, ofRes_ex] at h; exact fun cls d Z' H' fps' => h cls d Z' σ H' fps'
  | ok xs e1 =>
    simp only [e, ofRes_ok] at h
    intro vs Z1 H1 fps1 s1 z1 _ r
    split at h
    case h_2 => exact h.elim
    rename_i d k pp hun
    split at h
    case h_2 => exact h.elim
    rename_i t hk
    split at h
    case isFalse => exact h.elim
    rename_i hl
    obtain ⟨_, hil, _, hki, hkj⟩ := hl
    cases r with
    | cons r1 r =>
    cases r with
    | cons r2 r =>
    cases r
    obtain ⟨_, vk, hσ, hwk⟩ := r2
    have s2 := s1.store (i := i) hil (not_pin hpi) (.inl ⟨_, rfl, rfl, r1⟩) (by simp) (fun a m => by simp at m)
    have hs1 : setS i (S.dat d) e1 = (setS i (S.dat d) e1) := rfl
    have gj : (setS i (S.dat d) e1)[j]? = some .un := by
      unfold setS
      split
      · rw [List.getElem?_set_ne hij, List.getElem?_map, hun]; rfl
      · rw [List.getElem?_set_ne hij]; exact hun
    have gk : (setS i (S.dat d) e1)[k]? = some (.own t) := by
      unfold setS
      split
      · rw [List.getElem?_set_ne (Ne.symm hki), List.getElem?_map, hk]; rfl
      · rw [List.getElem?_set_ne (Ne.symm hki)]; exact hk
    have s3 := s2.alias (p := pp) gj (not_pin hpj) gk hkj (by rw [List.getElem?_set_ne (Ne.symm hki)]; exact hσ) hwk
    exact ⟨_, _, rfl, h Z1 _ H1 _ s3 z1⟩
/-! ### o.f, data from here on -/
theorem OwnF.frz {mg : Str → Option Value} {Z H : Hp} {f : Str} {t : O} {d : D} (e : t.toD = some d) : ∀ {vs : List (Str × V)} {fs : List (Str × O)} {fp : List Addr}, OwnF mg Z H vs fs fp → fp.Nodup → O.get.getF fs f = some t →
    ∃ v f1, vs.lookup f = some v ∧ Own mg Z H v t f1 ∧ f1.Nodup ∧ (∀ a ∈ f1, a ∈ fp) ∧ ∀ Z', Same Z Z' → (∀ a ∈ f1, Z' a = H a) → RD Z' v d ∧ ∃ fp2, OwnF mg Z' H vs (setF f (.dat d) fs) fp2 ∧ fp2.Nodup ∧ ∀ a ∈ fp2, a ∈ fp ∧ a ∉ f1
  | _, _, _, .nil, _, h => by simp [O.get.getF] at h
  | _, _, _, .cons (x := x) (v := w) (t := u) (f := f1) (vs := vs) (ts := ts) (g := g1) ow r, nd, h => by
    obtain ⟨n1, n2, n3⟩ := List.nodup_append.mp nd
    unfold O.get.getF at h
    by_cases c : f = x
    · subst c
      rw [if_pos rfl] at h
      cases h
      refine ⟨w, f1, by simp [List.lookup], ow, n1, fun a m => List.mem_append_left _ m, fun Z' z k => ?_⟩
      have rd := ow.freeze z k e
      refine ⟨rd, [] ++ g1, ?_, by simpa using n2, fun a m => ?_⟩
      · unfold setF
        rw [if_pos rfl]
        exact .cons (.dat rd) (r.keep z fun b _ => rfl)
      · have m' : a ∈ g1 := by simpa using m
        exact ⟨List.mem_append_right _ m', fun q => n3 a q a m' rfl⟩
    · rw [if_neg c] at h
      obtain ⟨v, f2, h1, h2, h3, h4, h5⟩ := OwnF.frz e r n2 h
      refine ⟨v, f2, ?_, h2, h3, fun a m => List.mem_append_right _ (h4 a m), fun Z' z k => ?_⟩
      · have : (f == x) = false := by simpa using c
        simp [List.lookup, this, h1]
      · obtain ⟨rd, fp2, q1, q2, q3⟩ := h5 Z' z k
        refine ⟨rd, f1 ++ fp2, ?_, List.nodup_append.mpr ⟨n1, q2, fun a ha b hb e => n3 a ha b (q3 b hb).1 e⟩, fun a m => ?_⟩
        · unfold setF
          rw [if_neg c]
          exact .cons (ow.keep z fun b _ => rfl) q1
        · rcases List.mem_append.mp m with m | m
          · exact ⟨List.mem_append_left _ m, fun q => n3 a m a (h4 a q) rfl⟩
          · exact ⟨List.mem_append_right _ (q3 a m).1, (q3 a m).2⟩
def eFldF (c f : Str) (j : Nat) : EM := fun env => match env[j]? with
  | some (.own (.ins c' fs)) => if c' = c then match (O.get.getF fs f).bind O.toD with
    | some d => .ok (.dat d) (env.set j (.own (.ins c (setF f (.dat d) fs))))
    | none => .no
    else .no
  | _ => .no
theorem StR.frzFld {Z H : Hp} {env : Ve} {σ : L2.St} {fps : Nat → List Addr} (s : StR g Z env σ H fps) {j : Nat} {c f : Str} {fs : List (Str × O)} {d : D} (hj : env[j]? = some (.own (.ins c fs))) (hd : (O.get.getF fs f).bind O.toD = some d) :
    ∃ a C dx vfs v Z' fps', σ[j]? = some (some (.ref a)) ∧ H a = some (.ins C dx vfs) ∧ g.mg c = some (.ref C) ∧ vfs.lookup f = some v ∧ RD Z' v d ∧ Same Z Z' ∧ StR g Z' (env.set j (.own (.ins c (setF f (.dat d) fs)))) σ H fps' := by
  obtain ⟨v0, h1, ow⟩ := s.slot j _ hj
  have jl : j < env.length := (List.getElem?_eq_some_iff.mp hj).1
  have ndj := s.nd j
  generalize hfj : fps j = fj at ow ndj
  cases ow with
  | ins ha hm owf =>
    rename_i a C dx vfs fq
    obtain ⟨n1, n2⟩ := List.nodup_cons.mp ndj
    simp only [Option.bind_eq_some_iff] at hd
    obtain ⟨t, ht, htd⟩ := hd
    obtain ⟨v, f1, q1, q2, q3, q4, q5⟩ := owf.frz htd n2 ht
    have inj : ∀ b, b ∈ fps j ↔ b = a ∨ b ∈ fq := fun b => by rw [hfj]; exact List.mem_cons
    have z : Same Z (frozen Z H f1) := frozen_same fun b m => s.nz j b ((inj b).mpr (.inr (q4 b m)))
    obtain ⟨rd, fp2, r1, r2, r3⟩ := q5 (frozen Z H f1) z (fun b m => by unfold frozen; rw [if_pos m])
    refine ⟨a, C, dx, vfs, v, frozen Z H f1, fun k => if k = j then a :: fp2 else fps k, h1, ha, hm, q1, rd, z, ⟨by rw [List.length_set]; exact s.len, frozen_sub s.sub, fun k x hk => ?_, fun k hk => ?_, fun k l b m1 m2 => ?_, fun k => ?_, fun k b m => ?_, s.e1.trans z, s.e2, fun b u q => ?_, fun k b m => ?_, s.pin⟩⟩
    · by_cases c : k = j
      · subst c
        rw [List.getElem?_set_self jl] at hk
        cases hk
        rw [if_pos rfl]
        exact ⟨.ref a, h1, .ins ha hm r1⟩
      · rw [List.getElem?_set_ne (Ne.symm c)] at hk
        rw [if_neg c]
        have q := s.slot k x hk
        cases x with
        | un => exact q
        | dat d => obtain ⟨e, w, k1, k2⟩ := q; exact ⟨e, w, k1, k2.mono z⟩
        | own t => obtain ⟨w, k1, k2⟩ := q; exact ⟨w, k1, k2.keep z fun b _ => rfl⟩
        | al i pp =>
          obtain ⟨e, ⟨t', ht'⟩, w, vj, k1, k2, k3⟩ := q
          refine ⟨e, ?_, w, vj, k1, k2, k3⟩
          by_cases c2 : i = j
          · subst c2; exact ⟨_, List.getElem?_set_self jl⟩
          · exact ⟨t', by rw [List.getElem?_set_ne (Ne.symm c2)]; exact ht'⟩
    · rw [List.length_set] at hk
      have : k ≠ j := by omega
      show (if k = j then a :: fp2 else fps k) = []
      rw [if_neg this]; exact s.out k hk
    · have up : ∀ b, b ∈ a :: fp2 → b ∈ fps j := fun b m => by
        rcases List.mem_cons.mp m with e | m
        · exact (inj b).mpr (.inl e)
        · exact (inj b).mpr (.inr (r3 b m).1)
      by_cases c1 : k = j
      · by_cases c2 : l = j
        · omega
        · simp only [c1, if_true] at m1
          simp only [c2, if_false] at m2
          exact (c2 (s.dis l j b m2 (up b m1))).elim
      · by_cases c2 : l = j
        · simp only [c1, if_false] at m1
          simp only [c2, if_true] at m2
          exact (c1 (s.dis k j b m1 (up b m2))).elim
        · simp only [c1, if_false] at m1
          simp only [c2, if_false] at m2
          exact s.dis k l b m1 m2
    · show (if k = j then a :: fp2 else fps k).Nodup
      by_cases c : k = j
      · rw [if_pos c]; exact List.nodup_cons.mpr ⟨fun m => n1 (r3 a m).1, r2⟩
      · rw [if_neg c]; exact s.nd k
    · unfold frozen
      by_cases c : k = j
      · simp only [c, if_true] at m
        rcases List.mem_cons.mp m with e | m
        · rw [if_neg fun q => n1 (e ▸ q4 b q)]
          rw [e]; exact s.nz j a ((inj a).mpr (.inl rfl))
        · rw [if_neg (r3 b m).2]
          exact s.nz j b ((inj b).mpr (.inr (r3 b m).1))
      · simp only [c, if_false] at m
        rw [if_neg fun q => c (s.dis k j b m ((inj b).mpr (.inr (q4 b q))))]
        exact s.nz k b m
    · rcases frozen_dom q with k | k
      · exact s.e3 b u k
      · exact .inr (s.e4 j b ((inj b).mpr (.inr (q4 b k))))
    · by_cases c : k = j
      · simp only [c, if_true] at m
        rcases List.mem_cons.mp m with e | m
        · rw [e]; exact s.e4 j a ((inj a).mpr (.inl rfl))
        · exact s.e4 j b ((inj b).mpr (.inr (r3 b m).1))
      · simp only [c, if_false] at m; exact s.e4 k b m
theorem de_fldF {c f x : Str} {j : Nat} {px pos : Pos} (ho : DE X g true (.Name x px) (eName j)) (hC : FldOk X.K g.mg c f) (hb : attributeBase (.Name x px) f X.env (eval (.Name x px) X.env) = eval (.Name x px) X.env := by rfl) : DE X g false (.Attribute (.Name x px) f pos) (eFldF c f j) := by
  refine PE.imp (pe_fld ho hb) fun σ H Q ⟨Z, env, fps, s, h⟩ => ?_
  unfold eFldF at h
  split at h
  case h_2 => exact h.elim
  rename_i c' fs hj
  split at h
  case isFalse => exact h.elim
  rename_i hc
  subst hc
  split at h
  case h_2 => exact h.elim
  rename_i d hd
  refine ⟨Z, env, fps, s, ?_⟩
  have hn : eName j env = .ok (.pl j []) env := by unfold eName; rw [hj]
  rw [hn]
  rintro v Z1 H1 fps1 s1 z1 k1 ⟨vj, hσ, hw⟩
  simp only [walk, Option.some.injEq] at hw
  subst hw
  obtain ⟨a, C, dx, vfs, w, Z2, fps2, q1, q2, q3, q4, q5, q6, q7⟩ := s1.frzFld hj hd
  rw [hσ] at q1
  cases q1
  obtain ⟨h1, h2⟩ := hC C q3
  exact ⟨a, C, dx, vfs, w, rfl, q2, h1, h2, q4, h w Z2 H1 fps2 q7 (z1.trans q6) (fun q => by cases q) q5⟩
end
end DL
namespace DL
open PySem PySem.Spec PyProof.Rows L2
/-! ### xs.index(y) -/
def indexD : D → D → Option Ev
  | .lst xs, .int y => match intsOf xs with
    | some ns => if y ∈ ns then some (.dat (.int (ns.idxOf y : Nat))) else none
    | none => none
  | _, _ => none
def eIdx (q : Bool) (a b : EM) : EM := fun env => (hold q (a env)).bind fun x e1 => match peek e1 x with
  | some (.lst _) => (hold true (b e1)).bind fun y e2 => match peek e2 x, peek e2 y with
    | some d, some u => match indexD d u with
      | some ev => .ok ev e2
      | none => .no
    | _, _ => .no
  | _ => .no
section
variable {X : Cx} {g : Gx}
theorem idx_first {ns : List Int} {y : Int} (h : y ∈ ns) : ns[ns.idxOf y]? = some y ∧ ∀ m z, m < ns.idxOf y → ns[m]? = some z → z ≠ y := by
  induction ns with
  | nil => cases h
  | cons x ns ih =>
    by_cases c : x = y
    · subst c
      refine ⟨by simp, fun m z hm => ?_⟩
      simp at hm
    · have h' : y ∈ ns := by
        rcases List.mem_cons.mp h with e | e
        · exact (c e.symm).elim
        · exact e
      obtain ⟨i1, i2⟩ := ih h'
      have e : (x :: ns).idxOf y = ns.idxOf y + 1 := by
        rw [List.idxOf_cons]
        have : (x == y) = false := by simpa using c
        rw [this]; rfl
      rw [e]
      refine ⟨by simpa using i1, fun m z hm hz => ?_⟩
      cases m with
      | zero => simp at hz; subst hz; exact c
      | succ m => exact i2 m z (by omega) (by simpa using hz)
theorem de_index {p q : Bool} {o b : Expr} {mo mb : EM} {apos cpos : Pos} (ho : DE X g p o mo) (hb : DE X g q b mb) (hbase : attributeBase o "index" X.env (eval o X.env) = eval o X.env := by rfl)
    (hfew : ((backTo cpos (starEach [b] X.env)).all (fun x => !x.1) && (backToKw cpos (keywordEach [] X.env)).all (fun x => x.1.isSome) && decide (([b] : List Expr).length + ([] : List Keyword).length + (if ([] : List Keyword).isEmpty then 0 else 1) < 30)) = true := by rfl)
    (hline : (apos.endLine == cpos.line) = true := by rfl) (hs : starEach [b] X.env = (false, eval b X.env) :: starEach [] X.env := by rfl) (hplain : (backTo cpos (starEach ([] : List Expr) X.env)).any (·.1) = false := by rfl) :
    DE X g (p && q) (.Call (.Attribute o "index" apos) [b] [] cpos) (eIdx q mo mb) := by
  refine PE.imp (pe_bm PySem.F.plainAttrs_list PySem.F.slot_list_index PySem.F.type_list_index mt_index ho (pa_cons hb pa_nil hs) hbase hfew hline hs hplain) fun σ H Q ⟨Z, env, fps, s, h⟩ => ?_
  refine hold_run (q := q) s (fun x e1 he v Z1 H1 fps1 s1 z1 k1 r1 => ?_) (fun x e1 he => ?_) (fun he => ?_)
  · simp only [eIdx, he, Res.bind_ok] at h
    split at h
    case h_2 => exact h.elim
    rename_i ys0 hp0
    have l0 := (peek_ok s1 r1 hp0).lst s1.sub
    obtain ⟨a0, vs0, rfl, ha0, _⟩ := l0
    refine ⟨.inl ⟨rfl, vs0, .inl (.inl ha0)⟩, hold_run (q := true) s1 (fun y e2 he2 u Z2 H2 fps2 s2 z2 k2 r2 => ?_) (fun y e2 he2 => ?_) (fun he2 => ?_)⟩
    · simp only [he2, Res.bind_ok] at h
      have r1' := r1.later z2 fun e => (k2 e).2.2
      split at h
      case h_2 => exact h.elim
      rename_i d w hd hw
      split at h
      case h_2 => exact h.elim
      rename_i ev hev
      have rd := peek_ok s2 r1' hd
      have rw' := peek_ok s2 r2 hw
      unfold indexD at hev
      split at hev
      case h_2 => cases hev
      rename_i xs y
      split at hev
      case h_2 => cases hev
      rename_i ns hns
      split at hev
      case isFalse => cases hev
      rename_i hmem
      cases hev
      obtain ⟨a, vs, ea, ha, rv⟩ := rd.lst s2.sub
      have e := rv.toInts hns
      subst e
      cases rw'.int
      obtain ⟨f1, f2⟩ := idx_first hmem
      refine ⟨a, ns.map V.int, .int y, ns.idxOf y, .int y, ea, rfl, .of ha, rfl, ?_, by rw [List.getElem?_map, f1]; rfl, by simp [eqV], fun m z' hm hz => ?_, ?_⟩
      · rw [List.all_map]; exact List.all_eq_true.mpr fun _ _ => rfl
      · rw [List.getElem?_map] at hz
        cases hq : ns[m]? with
        | none => rw [hq] at hz; cases hz
        | some z =>
          rw [hq] at hz
          cases hz
          have := f2 m z hm hq
          simpa [eqV] using this
      · refine h (.int (ns.idxOf y : Nat)) Z2 H2 fps2 s2 (z1.trans z2) (fun hp => ?_) (show RD Z2 _ _ from .int)
        simp only [Bool.and_eq_true] at hp
        obtain ⟨a1, a2, a3⟩ := k1 hp.1
        obtain ⟨b1, b2, b3⟩ := k2 hp.2
        exact ⟨b1.trans a1, b2.trans a2, a3.trans b3⟩
    · simp only [he2, Res.bind_ex] at h
      exact fun cls dd Z2 H2 fps2 s2 z2 xr => h cls dd Z2 H2 fps2 s2 (z1.trans z2) xr
    · simp only [he2, Res.bind_no, Post_no] at h
  · simp only [eIdx, he, Res.bind_ex] at h
    exact h
  · simp only [eIdx, he, Res.bind_no, Post_no] at h
/-! ### list(range(a, b, -1)) -/
def dnV (i c : Int) (n : Nat) : List V := (List.range n).map fun (k : Nat) => V.int (i + (k : Int) * c)
theorem vals_dn {i c : Int} {n : Nat} {acc : Array Value} (h : ItemsOf (fun k v => ∃ t, v = .int (i + k * c) t) acc n) : Vals (dnV i c n) acc.toList := by
  have hn : acc.toList.length = n := by rw [Array.length_toList]; exact h.1
  unfold dnV
  rw [← hn]
  refine vals_of_get acc.toList (fun k => V.int (i + (k : Int) * c)) fun j u hj => ?_
  exact h.2 j u (by rw [← hj, Array.getElem?_toList])
theorem pe_dn {a b c : Expr} {ta : TA} {p1 p2 q1 q2 : Pos} (hc : X.calm = true) (gl : Gl X "list") (ml : X.mg "list" = none) (gr : Gl X "range") (mr : X.mg "range" = none) (ha : PA X [a, b, c] ta)
    (s1 : starEach [a, b, c] X.env = (false, eval a X.env) :: starEach [b, c] X.env := by rfl) (s2 : (backTo q2 (starEach [b, c] X.env)).any (·.1) = false := by rfl)
    (s3 : starEach [.Call (.Name "range" p2) [a, b, c] [] q2] X.env = (false, eval (.Call (.Name "range" p2) [a, b, c] [] q2) X.env) :: starEach [] X.env := by rfl) :
    PE X (.Call (.Name "list" p1) [.Call (.Name "range" p2) [a, b, c] [] q2] [] q1) (fun σ H Q => ta σ H fun vs H1 => ∃ (i j : Int), vs = [.int i, .int j, .int (-1)] ∧ RgC i j (-1) (i - j).toNat ∧ (i - j).toNat ≤ 16777216 ∧ ∀ t, H1 t = none → Q (.ref t) (upd H1 t (.lst (dnV i (-1) (i - j).toNat)))) := by
  refine ⟨fun pins s σ H Q I h => ?_⟩
  have inner : wpAny (model X.prog X.w) X.A (eval (.Call (.Name "range" p2) [a, b, c] [] q2) X.env) (fun x s' => ∃ r i j t u v H1, x = .ref r ∧ IsRange s'.heap r i j (-1) t u v ∧ Inv X pins σ H1 s' ∧ RgC i j (-1) (i - j).toNat ∧ (i - j).toNat ≤ 16777216 ∧ ∀ t, H1 t = none → Q (.ref t) (upd H1 t (.lst (dnV i (-1) (i - j).toNat)))) X.xe s := by
    refine Call_ (ld_blt I gr mr boot_range (PyProof.Rows.callWith_type1 (thn (ha.run q2 pins s σ H _ I h) fun us s4 ⟨vs, H1, I1, r1, k1⟩ => ?_) s1 s2))
    obtain ⟨i, j, rfl, ok, small, q⟩ := k1
    obtain ⟨c0, c1, c2, c3⟩ := ok
    cases r1 with
    | cons ra rb =>
    cases rb with
    | cons rb rc =>
    cases rc with
    | cons rc rd =>
      cases rd
      obtain ⟨t, rfl⟩ := ra
      obtain ⟨t', rfl⟩ := rb
      obtain ⟨t'', rfl⟩ := rc
      exact call_range_3 c0 ⟨_, i, j, t, t', t'', H1, rfl, IsRange.new _ _ _ _ _ _ _, I1.kept fun b o e => Heap.get?_push_of_some _ e, ⟨c0, c1, c2, c3⟩, small, q⟩ (.inl (PyProof.noPylong_small c1))
  refine Call_ (ld_blt I gl ml boot_list (PyProof.Rows.callWith_type1 (args_cons (thn inner fun x s5 ⟨r, i, j, t, u, v, H1, ex, ir, I1, ok, small, q⟩ => args_nil ?_) s3) s3))
  subst ex
  refine call_list_range (I1.ok.hd hc) ir ok.2.2.1 ok.2.2.2 (by omega) fun h' tk acc cp keep new its => ?_
  have hlen : (dnV i (-1) (i - j).toNat).length = (i - j).toNat := by unfold dnV; rw [List.length_map, List.length_range]
  have laid : ObjOk X.prog X.w (upd H1 s5.heap.objs.size (.lst (dnV i (-1) (i - j).toNat))) h' s5.heap.objs.size (.lst (dnV i (-1) (i - j).toNat)) :=
    ⟨by rw [hlen, sizeLine_eq]; exact small, acc.toList, cp, vals_dn its, by rw [Array.toArray_toList]; exact new⟩
  exact ⟨.ref s5.heap.objs.size, _, I1.laid keep (Nat.le_refl _) laid, rfl, q _ (I1.hok.fresh (Nat.le_refl _))⟩
section
local instance (priority := 5000) (i b : Int) : Decidable (i < b) := dLtI i b
local instance (priority := 5000) (i b : Int) : Decidable (i ≤ b) := dLeI i b
def eLr3 (ma : AM) : EM := fun env => (ma env).bind fun xs e => match xs with
  | [.dat (.int i), .dat (.int j), .dat (.int c)] => if c = -1 ∧ -(2 ^ 62) ≤ i ∧ i < 2 ^ 62 ∧ -(2 ^ 62) ≤ j ∧ j < 2 ^ 62 ∧ (i - j).toNat ≤ 16777216 then .ok (.new (.lst (rangeC i (-1) (i - j).toNat))) e else .no
  | _ => .no
end
theorem dn_rd {Z : Hp} (i c : Int) (n : Nat) : RDs Z (dnV i c n) (rangeC i c n) := by
  unfold dnV rangeC
  generalize List.range n = l
  induction l with
  | nil => exact .nil
  | cons x l ih => exact .cons .int ih
theorem de_lr3 {p : Bool} {a b c : Expr} {ma : AM} {p1 p2 q1 q2 : Pos} (hc : X.calm = true) (gl : Gl X "list") (ml : X.mg "list" = none) (gr : Gl X "range") (mr : X.mg "range" = none) (ha : DA X g p [a, b, c] ma)
    (s1 : starEach [a, b, c] X.env = (false, eval a X.env) :: starEach [b, c] X.env := by rfl) (s2 : (backTo q2 (starEach [b, c] X.env)).any (·.1) = false := by rfl)
    (s3 : starEach [.Call (.Name "range" p2) [a, b, c] [] q2] X.env = (false, eval (.Call (.Name "range" p2) [a, b, c] [] q2) X.env) :: starEach [] X.env := by rfl) :
    DE X g p (.Call (.Name "list" p1) [.Call (.Name "range" p2) [a, b, c] [] q2] [] q1) (eLr3 ma) := by
  refine PE.imp (pe_dn hc gl ml gr mr ha s1 s2 s3) fun σ H Q ⟨Z, env, fps, s, h⟩ => ⟨Z, env, fps, s, ?_⟩
  unfold eLr3 at h
  cases e : ma env with
  | no => simp [e] at h
  | ex x e1 => simpa [e] using h
  | ok xs e1 =>
    simp only [e, Res.bind_ok] at h
    intro vs Z1 H1 fps1 s4 z1 k1 r1
    split at h
    case h_2 => exact h.elim
    rename_i i j c'
    split at h
    case isFalse => exact h.elim
    rename_i hl
    obtain ⟨rfl, h1, h2, h3, h4, h5⟩ := hl
    match vs, r1 with
    | [_, _, _], .cons r (.cons r' (.cons r'' .nil)) =>
      cases r
      cases r'
      cases r''
      refine ⟨i, j, rfl, RgC.neg h1 h2 h3 h4, h5, fun t ht => ?_⟩
      have f := Fresh.new (o := .lst (dnV i (-1) (i - j).toNat)) s4.sub ht
      refine h (.ref t) _ _ fps1 (s4.fresh f) z1 (fun hp => ?_) ((NewR.lst (mg := g.mg) s4.sub ht (dn_rd i (-1) _)).ev s4)
      obtain ⟨a1, a2, a3⟩ := k1 hp
      exact ⟨a1, a2, a3.trans f.h⟩
end
end DL
namespace DL
open PySem PySem.Spec PyProof.Rows L2
/-! ### classes of the text as the head leaves them -/
def clsBody : Stmt → List Stmt
  | .ClassDef (body := b) .. => b
  | _ => []
def inCls (st : Stmt) (i : Nat) : Stmt := (clsBody st).getD i (.Pass ⟨0, 0, 0, 0⟩)
def mkM (c m q : Str) (st : Stmt) : He.DefD := ⟨(c, some m), m, q, defArgs st, defBody st, defScope st, [], []⟩
structure MDefAt (K : PySem.W.Frag) (mg : Str → Option Value) (c m q : Str) (ps : List Str) (st : Stmt) : Prop where
  ex : ∃ C f fd, FunD K m q (defArgs st) (defBody st) (defScope st) [] [] f fd ∧ mg c = some (.ref C) ∧ Cls K C ∧ Meth K C m f ∧ Binds K fd ps []
structure KDefAt (K : PySem.W.Frag) (mg : Str → Option Value) (c q : Str) (ps : List Str) (st : Stmt) : Prop where
  ex : ∃ C f fd, FunD K "__init__" q (defArgs st) (defBody st) (defScope st) [] [] f fd ∧ mg c = some (.ref C) ∧ Mk K C f ∧ Binds K fd ps []
section
variable {P : Program} {w : World} {K : PySem.W.Frag} {mg : Str → Option Value} {base : Heap}
theorem meth_at {c m q : Str} {ps N : List Str} {st : Stmt} {k : Nat} {fixed : List Nat} {mm : SM} (F : MDefAt K mg c m q ps st) (SC : FnScope N ps (defScope st)) (hps : ps.length ≤ N.length) (hfx : ∀ i ∈ fixed, i < ps.length)
    (hb : ∀ (f : Addr) (cdv : Value) (A : Around) (outer : List Env) (s : Shared) (H : Hp) (n : En) (E : XK), Room k (A.deeper (envOfC q (defScope st) s.heap.objs.size f cdv)) →
      DSs (cxOf (L2N.CX P w) P w K mg base N q (defScope st) f cdv A outer s H E) ⟨mg, fixed, n, fun cls d _ H => E cls d H⟩ (defBody st) mm) :
    MethAt P w K mg base (k + 1) c m ps ps.length (runF N.length ps.length fixed mm) := by
  obtain ⟨C, f, fd, h1, h2, h3, h4, h5⟩ := F.ex
  exact ⟨C, f, fd, fn_mirror h1 SC hps hfx (hb f), h2, h3, h4, h5⟩
theorem make_at {c q : Str} {ps N : List Str} {st : Stmt} {k : Nat} {fixed : List Nat} {mm : SM} (F : KDefAt K mg c q ps st) (SC : FnScope N ps (defScope st)) (hps : ps.length ≤ N.length) (hfx : ∀ i ∈ fixed, i < ps.length)
    (hb : ∀ (f : Addr) (cdv : Value) (A : Around) (outer : List Env) (s : Shared) (H : Hp) (n : En) (E : XK), Room k (A.deeper (envOfC q (defScope st) s.heap.objs.size f cdv)) →
      DSs (cxOf (L2N.CX P w) P w K mg base N q (defScope st) f cdv A outer s H E) ⟨mg, fixed, n, fun cls d _ H => E cls d H⟩ (defBody st) mm) :
    MakeAt P w K mg base (k + 1) c ps ps.length (runF N.length ps.length fixed mm) := by
  obtain ⟨C, f, fd, h1, h2, h3, h4⟩ := F.ex
  exact ⟨C, f, fd, fn_mirror h1 SC hps hfx (hb f), h2, h3, h4⟩
end
theorem mdef_at {K : PySem.W.Frag} {h : Heap} {mg : Str → Option Value} {fa : List He.Fa} {fn : List He.DefD} {c m q : Str} {ps : List Str} {st : Stmt} (KX : K.In h) (G : h.Ns mainGlobals mg) (s : He.SaysD fa fn K) (i : Nat) (hi : fn[i]? = some (mkM c m q st)) (j1 j2 j3 : Nat) (h1 : fa[j1]? = some (.glo c)) (h2 : fa[j2]? = some (.cls c)) (h3 : fa[j3]? = some (.meth c m))
    (hb : ∀ (kV doc pm : Value) (an : Option Addr) (cdv ct : Value) (us : List Value), us.length = ps.length → bindArgs (PySem.W.fnOf m q (defArgs st) (defBody st) (defScope st) .none kV doc pm an cdv ct) ⟨us, []⟩ = pure (ps.zip us)) : MDefAt K mg c m q ps st := by
  obtain ⟨fd, F⟩ := s.def_ i hi
  exact ⟨_, _, fd, F, He.glo_ok KX G (s.fact j1 h1), He.cls_ok (s.fact j2 h2), He.meth_ok (s.fact j3 h3), FunD.bindsN F hb⟩
theorem kdef_at {K : PySem.W.Frag} {h : Heap} {mg : Str → Option Value} {fa : List He.Fa} {fn : List He.DefD} {c q : Str} {ps : List Str} {st : Stmt} (KX : K.In h) (G : h.Ns mainGlobals mg) (s : He.SaysD fa fn K) (i : Nat) (hi : fn[i]? = some (mkM c "__init__" q st)) (j1 j2 : Nat) (h1 : fa[j1]? = some (.glo c)) (h2 : fa[j2]? = some (.mkr c))
    (hb : ∀ (kV doc pm : Value) (an : Option Addr) (cdv ct : Value) (us : List Value), us.length = ps.length → bindArgs (PySem.W.fnOf "__init__" q (defArgs st) (defBody st) (defScope st) .none kV doc pm an cdv ct) ⟨us, []⟩ = pure (ps.zip us)) : KDefAt K mg c q ps st := by
  obtain ⟨fd, F⟩ := s.def_ i hi
  exact ⟨_, _, fd, F, He.glo_ok KX G (s.fact j1 h1), He.mkr_ok (s.fact j2 h2), FunD.bindsN F hb⟩
theorem fld_at {K : PySem.W.Frag} {h : Heap} {mg : Str → Option Value} {fa : List He.Fa} {fn : List He.DefD} {c f : Str} (KX : K.In h) (G : h.Ns mainGlobals mg) (s : He.SaysD fa fn K) (j1 j2 j3 : Nat) (h1 : fa[j1]? = some (.glo c)) (h2 : fa[j2]? = some (.cls c)) (h3 : fa[j3]? = some (.noat c f)) : FldOk K mg c f := fun C hC => by
  have e := He.glo_ok KX G (s.fact j1 h1)
  rw [e] at hC
  cases hC
  exact ⟨He.cls_ok (s.fact j2 h2), He.noat_ok (s.fact j3 h3)⟩
end DL
namespace DL
open PySem PySem.Spec PyProof.Rows L2
/-! ### xs[::2] -/
def pk2 {α : Type} (xs : List α) : List α := (sliceRange 0 xs.length 2).filterMap fun k => xs[k]?
theorem paired_fm {α β : Type} {R : α → β → Prop} {xs : List α} {ys : List β} (h : ∀ k : Nat, match xs[k]?, ys[k]? with | some a, some b => R a b | none, none => True | _, _ => False) : ∀ ks : List Nat, Paired R (ks.filterMap fun k => xs[k]?) (ks.filterMap fun k => ys[k]?)
  | [] => .nil
  | k :: ks => by
    have hk := h k
    have ih := paired_fm h ks
    cases e1 : xs[k]? with
    | none =>
      rw [e1] at hk
      cases e2 : ys[k]? with
      | none => simpa [List.filterMap_cons, e1, e2] using ih
      | some b => rw [e2] at hk; exact hk.elim
    | some a =>
      rw [e1] at hk
      cases e2 : ys[k]? with
      | none => rw [e2] at hk; exact hk.elim
      | some b =>
        rw [e2] at hk
        simp only [List.filterMap_cons, e1, e2]
        exact .cons hk ih
theorem paired_at {α β : Type} {R : α → β → Prop} {xs : List α} {ys : List β} (h : Paired R xs ys) : ∀ k : Nat, match xs[k]?, ys[k]? with | some a, some b => R a b | none, none => True | _, _ => False := by
  induction h with
  | nil => intro k; simp
  | cons h _ ih =>
    intro k
    cases k with
    | zero => simpa using h
    | succ k => simpa using ih k
theorem vals_pk2 {xs : List V} {its : List Value} (h : Vals xs its) : Vals (pk2 xs) (pk2 its) := by
  unfold pk2
  rw [Paired.length h]
  exact paired_fm (paired_at h) _
theorem pick2_eq (items : Array Value) : slicePick items none none (some 2) = (pk2 items.toList).toArray := by
  unfold slicePick pk2
  have e : sliceBounds none none (some 2) items.size = (0, (items.size : Int), 2) := rfl
  rw [e]
  simp [Array.getElem?_toList]
theorem pk2_length {α : Type} (xs : List α) : (pk2 xs).length ≤ xs.length := by
  unfold pk2
  refine Nat.le_trans (List.length_filterMap_le _ _) ?_
  refine sliceRange_length_le 0 (xs.length : Int) 2 xs.length (fun _ => ⟨by omega, by omega⟩) (fun h => absurd (by decide : (2 : Int) > 0) h)
def tSt2 (K : PySem.W.Frag) (te : TE) : TE := fun σ H Q => te σ H fun x H1 => ∃ a xs, x = .ref a ∧ SqL K H1 a xs ∧ ∀ p, H1 p = none → Q (.ref p) (upd H1 p (.lst (pk2 xs)))
section
variable {X : Cx} {g : Gx}
theorem pe_st2 {e : Expr} {te : TE} {k : Nat} {p1 p3 pos : Pos} (he : PE X e te) : PE X (.Subscript e (.Slice none none (some (.Constant (.int 2) k p1)) p3) pos) (tSt2 X.K te) := by
  refine ⟨fun pins s σ H Q I h => ?_⟩
  refine Subscript_ (thn (he.run pins s σ H _ I h) fun v s1 ⟨x, H1, I1, r1, q1⟩ => ?_)
  obtain ⟨a, xs, ex, hx, q⟩ := q1
  subst ex
  cases r1
  have hst : PO X (some (.Constant (.int 2) k p1)) (tPart (tC (.int 2))) := po_some pe_int
  refine wpAny_Slice (thn (po_none.run pins s1 σ H1 (fun o H2 => o = none ∧ H2 = H1) I1 ⟨rfl, rfl⟩) fun vl s2 ⟨l, H2, I2, pl, el, e2⟩ => ?_)
  subst el e2
  refine thn (po_none.run pins s2 σ H2 (fun o H3 => o = none ∧ H3 = H2) I2 ⟨rfl, rfl⟩) fun vu s3 ⟨u, H3, I3, pu, eu, e3⟩ => ?_
  subst eu e3
  refine thn (hst.run pins s3 σ H3 (fun o H4 => o = some 2 ∧ H4 = H3) I3 ⟨2, rfl, rfl, rfl⟩) fun vs s4 ⟨o, H4, I4, ps, eo, e4⟩ => ?_
  subst eo e4
  have I5 : Inv X pins σ H4 { s4 with heap := s4.heap.push { cls := .type "slice", data := .fields #[vl, vu, vs] } } := I4.kept (t' := s4.toks) fun b ob q => Heap.get?_push_of_some _ q
  obtain ⟨its, r, ht, hz⟩ := I5.list hx
  have hlen := r.length
  show wpAny (model X.prog X.w) X.A (subscriptTail e (.Slice none none (some (.Constant (.int 2) k p1)) p3) (.ref a) (.ref s4.heap.objs.size)) (EP X pins σ Q) X.xe { s4 with heap := s4.heap.push { cls := .type "slice", data := .fields #[vl, vu, vs] } }
  refine tail_any (ops := [.ref a, .ref s4.heap.objs.size]) ht.isList.typeIs (PySem.slot_list_getitem.lookup) ?_ (by with_unfolding_all rfl)
  refine wpAny_getItem_list_slice ht.isList (Heap.IsSliceOf.new _ vl vu vs) pl pu ps (by decide) ?_ (by rw [List.size_toArray]; omega)
  rw [pick2_eq]
  refine ⟨.ref _, _, I5.laid (t' := s4.toks) (o := .lst (pk2 xs)) (fun b ob q => Heap.get?_push_of_some _ q) (Nat.le_refl _) ?_, rfl, q _ (I5.hok.fresh (Nat.le_refl _))⟩
  exact ⟨Nat.le_trans (pk2_length xs) hz, _, 0, vals_pk2 r, Heap.get?_push_size _ rfl⟩
def st2D : D → Option Ev
  | .lst xs => some (.new (.lst (pk2 xs)))
  | _ => none
theorem RDs.paired {Z : Hp} : ∀ {vs : List V} {ds : List D}, RDs Z vs ds → Paired (RD Z) vs ds
  | _, _, .nil => .nil
  | _, _, .cons h r => .cons h (RDs.paired r)
theorem RDs.of_paired {Z : Hp} {vs : List V} {ds : List D} (h : Paired (RD Z) vs ds) : RDs Z vs ds := by
  induction h with
  | nil => exact .nil
  | cons h _ ih => exact .cons h ih
theorem RDs.pk2 {Z : Hp} {vs : List V} {ds : List D} (h : RDs Z vs ds) : RDs Z (DL.pk2 vs) (DL.pk2 ds) := by
  unfold DL.pk2
  rw [h.length]
  exact RDs.of_paired (paired_fm (paired_at h.paired) _)
theorem de_st2 {e : Expr} {p : Bool} {m : EM} {k : Nat} {p1 p3 pos : Pos} (he : DE X g p e m) : DE X g p (.Subscript e (.Slice none none (some (.Constant (.int 2) k p1)) p3) pos) (eOp1 st2D m) := by
  refine PE.imp (pe_st2 he) fun σ H Q h => ?_
  refine op1_run (r := fun x H1 Q => ∃ a xs, x = .ref a ∧ SqL X.K H1 a xs ∧ ∀ p, H1 p = none → Q (.ref p) (upd H1 p (.lst (pk2 xs)))) (fun mg Z H v d ev Q s rv h q => ?_) h
  cases d <;> cases h
  obtain ⟨a, vs, rfl, h1, r1⟩ := rv.lst s
  exact ⟨a, vs, rfl, .of h1, fun p hp => q _ _ _ (.new s hp) (.lst s hp r1.pk2)⟩
/-! ### repr of lists and tuples -/
def reprFit (d : D) : Bool := d.py.showable && decide (d.py.shown.length ≤ 16777216)
def reprD : List D → Option Ev
  | [.lst xs] => if (eqOk (.lst xs) && reprFit (.lst xs)) = true then some (.dat (.str (D.lst xs).py.shown)) else none
  | [.tup xs] => if (eqOk (.tup xs) && reprFit (.tup xs)) = true then some (.dat (.str (D.tup xs).py.shown)) else none
  | _ => none
def rRepr (K : PySem.W.Frag) : List V → Hp → VK → Prop := fun xs H Q => ∃ (a : Addr) (d : PyData), xs = [.ref a] ∧ Dp K H (.ref a) d ∧ SeqAt.shaped d = true ∧ d.showable = true ∧ d.shown.length ≤ sizeLine ∧ Q (.str d.shown) H
theorem call_repr (hg : X.A.guards = some []) (hu : X.A.units + 66 < cLine) : CallR X (.builtin "repr") (rRepr X.K) := by
  intro pins s σ H xs us Q I r h
  obtain ⟨a, d, rfl, hd, sd, hs, hl, q⟩ := h
  cases r with
  | cons rx rr =>
    cases rr
    cases rx
    obtain ⟨as, h1⟩ := Dp.reads I d _ _ hd rfl
    have hc := SeqAt.canLay_of_shaped sd
    have hdep : d.depth ≤ 64 := by
      unfold SeqAt.shaped at sd
      simp only [Bool.and_eq_true, decide_eq_true_eq] at sd
      omega
    have hnd := PyData.hasDict_of_canLay d hc
    refine PySem.repr_of_reads' (h₀ := s.heap) h1 hs (fun z => by rw [hnd] at z; cases z) hg (by omega) (fun b o e => e) (fun h' u tk k => ?_) hl
    exact ⟨.str d.shown, H, I.kept (t' := tk) k, ⟨u, rfl⟩, q⟩
theorem ok_repr (hg : X.A.guards = some []) (hu : X.A.units + 66 < cLine) : CallOk X (.builtin "repr") reprD := by
  refine ⟨_, call_repr hg hu, fun mg Z H vs ds ev Q s rs h q => ?_⟩
  unfold reprD at h
  split at h
  · split at h
    · rename_i hl
      obtain ⟨v, rfl, rv⟩ := rs.one
      obtain ⟨a, ws, rfl, h2, r2⟩ := rv.lst s
      simp only [eqOk, reprFit, Bool.and_eq_true, decide_eq_true_eq] at hl
      cases h
      exact ⟨a, _, rfl, rv.dp s hl.1.1, hl.1.2, hl.2.1, by rw [sizeLine_eq]; exact hl.2.2, q _ _ _ (.refl s) .str⟩
    · cases h
  · split at h
    · rename_i hl
      obtain ⟨v, rfl, rv⟩ := rs.one
      simp only [eqOk, reprFit, Bool.and_eq_true, decide_eq_true_eq] at hl
      cases h
      have hd := rv.dp (K := X.K) s hl.1.1
      obtain ⟨a, rfl⟩ : ∃ a, v = .ref a := by
        simp only [D.py] at hd
        cases hd
        exact ⟨_, rfl⟩
      exact ⟨a, _, rfl, hd, hl.1.2, hl.2.1, by rw [sizeLine_eq]; exact hl.2.2, q _ _ _ (.refl s) .str⟩
    · cases h
  · cases h
end
end DL
namespace DL
open PySem PySem.Spec PyProof.Rows L2
/-! ### a def that is called where nothing is being shown (no repr runs around it) -/
structure FnG (P : Program) (w : World) (K : PySem.W.Frag) (mg : Str → Option Value) (base : Heap) (CX : CXT) (k : Nat) (f : Addr) (fd : FuncData) (ps : List Str) (sp : Sp) : Prop where
  len : ∀ vs H Q E, sp vs H Q E → vs.length = ps.length
  run : ∀ (A : Around) (outer : List Env) (s : Shared) (H : Hp) (args : Args) (us : List Value) (vs : List V) (Q : VK) (E : XK), Room k A → A.guards = some [] → Env0 P w K mg base A outer s H → BindsTo s fd args (ps.zip us) → Vals vs us → sp vs H Q E →
    codeAny (model P w) A (.call (.ref f) args) (CR CX outer P w H s Q E) s
section
variable {P : Program} {w : World} {K : PySem.W.Frag} {mg : Str → Option Value} {base : Heap} {CX : CXT}
theorem fnG_of {k : Nat} {f : Addr} {x qual : Str} {params : Arguments} {body : List Stmt} {scope : Scope} {fd : FuncData} {N ps : List Str} {sp : Sp} (F : FunD K x qual params body scope [] [] f fd) (S : FnScope N ps scope)
    (len : ∀ vs H Q E, sp vs H Q E → vs.length = ps.length)
    (hbody : ∀ (cdv : Value) (A : Around) (outer : List Env) (s : Shared) (H : Hp) (vs : List V) (Q : VK) (E : XK), Room k (A.deeper (envOfC qual scope s.heap.objs.size f cdv)) → A.guards = some [] → sp vs H Q E →
      ∃ t, PSs (cxOf CX P w K mg base N qual scope f cdv A outer s H E) body t ∧ t { nx := fun _ H' => Q .non H', rt := Q } (start N vs) H) :
    FnG P w K mg base CX (k + 1) f fd ps sp := by
  obtain ⟨oc, od, dV, kV, doc, pm, an, cdv, ct, osl, rfl, lk, hcd, _, _⟩ := F.ex
  refine ⟨len, fun A outer s H args us vs Q E hr hg e0 hb r hsp => ?_⟩
  have hl := len _ _ _ _ hsp
  have KX : K.In s.heap := e0.mod.kin.keeps fun b o e => (e0.bs b o e).1
  have lim : s.heap.NoLimit := e0.mod.nolimit.keeps fun b o e => (e0.bs b o e).1
  have hkind : ∀ y ∈ ps.zip us, scope.names.lookup y.1 = some .local ∨ (scope.names.lookup y.1 = some .cell ∧ ((cellsFrom (s.heap.objs.size + 1) scope.names []).lookup y.1).isSome = true) := fun ⟨n, v⟩ hy => by
    rcases S.par n (List.of_mem_zip hy).1 with q | q
    · exact .inl q
    · exact .inr ⟨q, PySem.W.cellsFrom_some _ _ _ (.inl q)⟩
  refine codeAny_call_function hr.depth (KX _ _ lk) rfl S.co S.gen rfl (PySem.W.codeRec_of KX hcd) (hb _ _ _ _ ?_)
  refine wpAny_newFunctionEnv_cells S.kind hkind fun env he s1 x => ?_
  subst he
  refine ⟨lim.keeps x.toInCall.keep, codeAny_func ?_⟩
  obtain ⟨t, ht, hq⟩ := hbody cdv A outer s H vs Q E (hr.deeper _) hg hsp
  have I : Inv (cxOf CX P w K mg base N qual scope f cdv A outer s H E) [] (start N vs) H s1 := inv_start S hr.hd e0 hl r x
  refine wpAny_mono (ht.run [] s1 (start N vs) H _ I hq) (fun fl s' hs => ?_) fun e s' hs => hs
  have fin : ∀ {σ' : L2.St} {H' : Hp} {v : V} {u : Value}, Inv (cxOf CX P w K mg base N qual scope f cdv A outer s H E) [] σ' H' s' → RelV v u → Q v H' → CE outer P w H s Q u s' :=
    fun {σ' H' v u} J rv q => ⟨v, H', J.os, J.bare, J.base, J.hok, rv, q⟩
  cases fl with
  | ret u =>
    obtain ⟨v, σ', H', J, rv, q⟩ := hs
    exact fin J rv q
  | next =>
    obtain ⟨σ', H', J, q⟩ := hs
    exact fin (v := V.non) (u := Value.none) J rfl q
  | brk =>
    obtain ⟨_, _, _, q⟩ := hs
    exact False.elim q
  | cont =>
    obtain ⟨_, _, _, q⟩ := hs
    exact False.elim q
theorem fn_mirrorG {x qual : Str} {params : Arguments} {body : List Stmt} {scope : Scope} {f : Addr} {fd : FuncData} {N ps : List Str} {k : Nat} {fixed : List Nat} {m : SM} (F : FunD K x qual params body scope [] [] f fd) (SC : FnScope N ps scope) (hps : ps.length ≤ N.length) (hfx : ∀ i ∈ fixed, i < ps.length)
    (hb : ∀ (cdv : Value) (A : Around) (outer : List Env) (s : Shared) (H : Hp) (n : En) (E : XK), Room k (A.deeper (envOfC qual scope s.heap.objs.size f cdv)) → A.guards = some [] →
      DSs (cxOf (L2N.CX P w) P w K mg base N qual scope f cdv A outer s H E) ⟨mg, fixed, n, fun cls d _ H => E cls d H⟩ body m) :
    FnG P w K mg base (L2N.CX P w) (k + 1) f fd ps (spF mg ps.length (runF N.length ps.length fixed m)) := by
  refine fnG_of F SC (fun vs H Q E h => h.1) fun cdv A outer s H vs Q E hr hgd ⟨hvl, Z, as, fps, Fp, h0, hF, po⟩ => ⟨_, hb cdv A outer s H ⟨Z, H, Fp, vs⟩ E hr hgd, ?_⟩
  have hl : as.length = vs.length := by have := h0.len; rw [List.length_map] at this; exact this.symm
  unfold runF at po
  split at po
  case isFalse => exact po.elim
  rename_i hc
  have hfix : ∀ (i : Nat) (t : O), as[i]? = some (S.own t) → i ∈ fixed := fun i t e => by
    have hi : i < as.length := (List.getElem?_eq_some_iff.mp e).1
    refine hc.2 i (by omega) ?_
    rw [List.getD_eq_getElem?_getD, e]
    rfl
  have s0 : StR ⟨mg, fixed, ⟨Z, H, Fp, vs⟩, fun cls d _ H => E cls d H⟩ Z (as ++ List.replicate (N.length - ps.length) .un) (L2.start N vs) H fps := by
    have := h0.start (N := N) (pins := fixed) (W := fun cls d _ H => E cls d H) (by omega) fun i hi => by rw [hvl]; exact hfx i hi
    rw [hvl] at this
    exact this
  refine ⟨Z, _, fps, s0, ?_⟩
  have fin : ∀ {r : Ev} {e : Ve} {v : V} {Z' H' : Hp} {σ' : L2.St} {fps' : Nat → List Addr}, PostF mg Z H Fp vs as Q E (finF as r e) → StR ⟨mg, fixed, ⟨Z, H, Fp, vs⟩, fun cls d _ H => E cls d H⟩ Z' e σ' H' fps' → EvR ⟨mg, fixed, ⟨Z, H, Fp, vs⟩, fun cls d _ H => E cls d H⟩ Z' H' σ' fps' v r → Q v H' :=
    fun {r e v Z' H' σ' fps'} po s' re => by
      unfold finF at po
      split at po
      · rename_i d bs hb
        exact po v Z' H' _ (h0.leave s' rfl rfl hfix hb) re
      · rename_i t bs hb
        obtain ⟨fp, r1, r2, r3⟩ := re
        refine po v Z' H' _ (h0.leave s' rfl rfl hfix hb) ⟨fp, r1, r2, fun a m => ⟨(r3 a m).1, fun i mi => ?_, (r3 a m).2.2⟩⟩
        refine (r3 a m).2.1 i ?_
        simp only at mi
        split at mi
        · exact mi
        · cases mi
      · exact po.elim
  cases em : m (as ++ List.replicate (N.length - ps.length) .un) with
  | no => rw [em] at po; exact po
  | bk e => rw [em] at po; exact po.elim
  | ct e => rw [em] at po; exact po.elim
  | nx e => rw [em] at po; exact fun Z' σ' H' fps' s' _ => fin po s' .non
  | rt r e => rw [em] at po; exact fun v Z' σ' H' fps' s' _ re => fin po s' re
  | ex x e =>
    rw [em] at po
    intro cls d Z' σ' H' fps' s' _ xr
    simp only at po
    split at po
    · rename_i bs hb
      exact po cls d Z' H' _ (h0.leave s' rfl rfl hfix hb) xr
    · exact po.elim
end
section
variable {P : Program} {w : World} {K : PySem.W.Frag} {mg : Str → Option Value} {base : Heap}
structure FnAtG (P : Program) (w : World) (K : PySem.W.Frag) (mg : Str → Option Value) (base : Heap) (k : Nat) (x : Str) (ps : List Str) (np : Nat) (fm : FM) : Prop where
  ex : ∃ f fd, FnG P w K mg base (L2N.CX P w) k f fd ps (spF mg np fm) ∧ mg x = some (.ref f) ∧ PySem.W.keepIn K (.ref f) = true ∧ Binds K fd ps []
theorem fn_atG {x : Str} {ps N : List Str} {st : Stmt} {k : Nat} {fixed : List Nat} {m : SM} (F : DefAt K mg x ps st) (SC : FnScope N ps (defScope st)) (hps : ps.length ≤ N.length) (hfx : ∀ i ∈ fixed, i < ps.length)
    (hb : ∀ (f : Addr) (cdv : Value) (A : Around) (outer : List Env) (s : Shared) (H : Hp) (n : En) (E : XK), Room k (A.deeper (envOfC x (defScope st) s.heap.objs.size f cdv)) → A.guards = some [] →
      DSs (cxOf (L2N.CX P w) P w K mg base N x (defScope st) f cdv A outer s H E) ⟨mg, fixed, n, fun cls d _ H => E cls d H⟩ (defBody st) m) :
    FnAtG P w K mg base (k + 1) x ps ps.length (runF N.length ps.length fixed m) := by
  obtain ⟨f, fd, h1, h2, h3⟩ := F.ex
  exact ⟨f, fd, fn_mirrorG h1 SC hps hfx (hb f), h2, h1.kp, h3⟩
end
/-! ### the call of such a def -/
section
variable {X : Cx} {g : Gx}
theorem run_fnG {CX : CXT} {k : Nat} {f : Addr} {fd : FuncData} {ps : List Str} {sp : Sp} {E : L2.St → XK} {pins : List (Addr × Obj)} {σ : L2.St} {H : Hp} {s : Shared} {Q : VK} {us : List Value} {vs : List V} (F : FnG X.prog X.w X.K X.mg X.base CX k f fd ps sp) (hr : Room k X.A) (hg : X.A.guards = some []) (hb : Binds X.K fd ps []) (hx : PassesAt CX X σ (E σ))
    (I : Inv X pins σ H s) (r : Vals vs us) (h : sp vs H Q (E σ)) : wpAny (model X.prog X.w) X.A (call (.ref f) us) (EP X pins σ Q) X.xe s := by
  have hl : us.length = ps.length := by rw [← r.length]; exact F.len _ _ _ _ h
  refine wpAny_call (codeAny_mono (F.run X.A X.stack s H ⟨us, []⟩ us vs Q (E σ) hr hg I.env0 (by simpa using hb s us I.kIn (by simpa using hl)) r h) fun r s' hq => ?_)
  cases r with
  | error e => exact hx pins H s e s' I hq
  | ok fl =>
    cases fl with
    | ret u => exact I.after hq
    | next => exact False.elim hq
    | brk => exact False.elim hq
    | cont => exact False.elim hq
theorem pe_callG {CX : CXT} {k : Nat} {f : Addr} {fd : FuncData} {ps : List Str} {sp : Sp} {E : L2.St → XK} {x : Str} {p pos : Pos} {e : Expr} {es : List Expr} {t : TA} (F : FnG X.prog X.w X.K X.mg X.base CX k f fd ps sp) (hr : Room k X.A) (hgd : X.A.guards = some []) (hg : Gl X x) (hm : X.mg x = some (.ref f)) (hk : PySem.W.keepIn X.K (.ref f) = true) (hb : Binds X.K fd ps []) (hx : ∀ σ, PassesAt CX X σ (E σ))
    (ha : PA X (e :: es) t) (hdb : (x == ("__debug__" : Str)) = false := by decide) (he : starEach (e :: es) X.env = (false, eval e X.env) :: starEach es X.env := by rfl) (hpl : (backTo pos (starEach es X.env)).any (·.1) = false := by rfl) :
    PE X (.Call (.Name x p) (e :: es) [] pos) (tCallS sp E t) := by
  refine ⟨fun pins s σ H Q I h => ?_⟩
  refine wpAny_Call_Name_kw (ld_glob I hg hm ?_ hdb)
  refine PySem.W.callWith_K (h₀ := X.base) I.ok.mod.kin hk (thn (ha.run pos pins s σ H _ I h) fun us s1 ⟨vs, H1, I1, r, q⟩ => ⟨I1.kIn, ?_⟩) he hpl
  exact run_fnG F hr hgd hb (hx σ) I1 r q
theorem de_fnG {k j np : Nat} {x : Str} {ps : List Str} {fm : FM} {p : Bool} {e : Expr} {es : List Expr} {ma : AM} {ps' pos : Pos} (F : FnAtG X.prog X.w X.K X.mg X.base k x ps np fm) (hr : Room j X.A) (hgd : X.A.guards = some []) (hkj : k ≤ j) (hmg : g.mg = X.mg) (hg : Gl X x) (tk : L2N.Takes X g.W) (ha : DA X g p (e :: es) ma)
    (hdb : (x == ("__debug__" : Str)) = false := by decide) (he : starEach (e :: es) X.env = (false, eval e X.env) :: starEach es X.env := by rfl) (hpl : (backTo pos (starEach es X.env)).any (·.1) = false := by rfl) :
    DE X g false (.Call (.Name x ps') (e :: es) [] pos) (eFn np fm ma) := by
  obtain ⟨f, fd, h1, h2, h3, h4⟩ := F.ex
  refine PE.imp (pe_callG h1 (hr.mono hkj) hgd hg h2 h3 h4 (fun σ => L2N.passAt tk σ) ha hdb he hpl) fun σ H Q h => ?_
  have := fn_run (p := p) h
  rw [hmg] at this
  exact this
end
/-! ### the law's end over such a def -/
/-- what is tracked at the law's entry: the script alone -/
def scH (a : Addr) (o : Obj) (ns : List Int) : Hp := fun b => if b = a then some (.frz o (.lst (ns.map V.int))) else none
section
variable {a b : Addr} {o : Obj} {ns : List Int} {u : HO}
theorem scH_at : scH a o ns a = some (.frz o (.lst (ns.map V.int))) := if_pos rfl
theorem scH_ne (h : b ≠ a) : scH a o ns b = none := if_neg h
theorem scH_is (h : scH a o ns b = some u) : b = a ∧ u = .frz o (.lst (ns.map V.int)) := by
  by_cases e : b = a
  · subst e
    rw [scH_at] at h
    exact ⟨rfl, (Option.some.inj h).symm⟩
  · rw [scH_ne e] at h; cases h
theorem scH_only : Only (scH a o ns) := fun b => by
  by_cases e : b = a
  · subst e; exact .inr ⟨_, _, scH_at⟩
  · exact .inl (scH_ne e)
end
theorem law_callG {P : Program} {w : World} {K : PySem.W.Frag} {mg mb : Str → Option Value} {CX : CXT} {k : Nat} {fa a : Addr} {fd : FuncData} {x : Str} {sp : Sp} {s : Shared} {vs : List Value} {ns : List Int}
    (KX : K.In s.heap) (hns : s.heap.Ns mainGlobals mg) (hb : s.heap.Ns builtinsNs mb) (hbb : ∀ x : Str, x ≠ "__name__" → mb x = bootBuiltins x) (hlim : s.heap.NoLimit) (hg : s.gens = #[])
    (ha : s.heap.get? a = some { cls := .type "list", data := .seq vs.toArray }) (hi : IntsAre vs ns) (hl : ns.length ≤ sizeLine) (hr : Room k callerA) (nk : K.lookup a = none)
    (F : ∀ base : Heap, K.In base → base.Ns mainGlobals mg → FnG P w K mg base CX k fa fd [x] sp) (hbind : ∀ (s : Shared) (u : Value), BindsTo s fd ⟨[u], []⟩ [(x, u)])
    (hsp : ∀ H : Hp, Only H → SqL K H a (ns.map V.int) → sp [.ref a] H (fun v _ => v = .bl true) fun _ _ _ => False)
    (hCX : ∀ H e s', CX [] H s (fun _ _ _ => False) e s' → False) :
    codeAny (model P w) callerA (.call (.ref fa) ⟨[.ref a], []⟩) (fun r s' => r = .ok (.ret (.bool true)) ∧ OldK s.heap s'.heap ∧ s'.os = s.os ∧ AllBare s'.gens) s := by
  generalize hH : scH a { cls := .type "list", data := .seq vs.toArray } ns = H
  have none_of : ∀ {b : Addr}, b ≠ a → H b = none := fun h => by rw [← hH]; exact scH_ne h
  have hok : HOk P w H s.heap := fun b u e => by
    rw [← hH] at e
    obtain ⟨rfl, rfl⟩ := scH_is e
    exact ⟨ha, by rw [List.length_map]; exact hl, vs, _, vals_ints hi, ha⟩
  -- what is no list stands in the ground
  have down : ∀ {b : Addr} {o : Obj}, s.heap.get? b = some o → (∀ i n, o.data ≠ .seq i n) → (hidT s.heap H).get? b = some o := fun {b o} e d => hidT_get e (none_of fun z => by
    rw [z, ha] at e
    exact d _ _ (congrArg Obj.data (Option.some.inj e)).symm)
  have downNs : ∀ {b : Addr} {m : Str → Option Value}, s.heap.Ns b m → (hidT s.heap H).Ns b m := fun ⟨o, es, ep, e, d, r⟩ => ⟨o, es, ep, down e (fun i n z => by rw [d] at z; cases z), d, r⟩
  have KB : K.In (hidT s.heap H) := fun b o e => hidT_get (KX b o e) (none_of fun z => by rw [z, nk] at e; cases e)
  obtain ⟨ml, h1, h2⟩ := hlim
  have e0 : Env0 P w K mg (hidT s.heap H) callerA [] s H :=
    ⟨rfl, ⟨KB, downNs hns, ⟨mb, downNs hb, hbb⟩, ⟨ml, downNs h1, h2⟩⟩, fun b o e => of_hidT e, Nat.le_of_eq (hidT_size _ _), trivial, (fun b m => nomatch (show b ∈ ([] : List Addr) from m)), hok, .of_eq hg⟩
  have hO : Only H := by rw [← hH]; exact scH_only
  have hS : SqL K H a (ns.map V.int) := .inl (.inr ⟨_, by rw [← hH]; exact scH_at⟩)
  refine codeAny_mono ((F _ KB (downNs hns)).run callerA [] s H ⟨[.ref a], []⟩ [.ref a] [.ref a] _ _ hr rfl e0 (hbind s (.ref a)) (.cons rfl .nil) (hsp H hO hS)) fun r s' h => ?_
  match r, h with
  | .error e, h => exact (hCX H e s' h).elim
  | .ok (.ret u), ⟨v, H', os, bare, un, hok', rv, q⟩ =>
    have q' : v = .bl true := q
    subst q'
    obtain rfl : u = Value.bool true := rv
    refine ⟨rfl, OldK.of_keep fun b o e => ?_, os, bare⟩
    by_cases z : b = a
    · subst z
      have t := un.frzs b _ _ (by rw [← hH]; exact scH_at)
      rw [ha] at e
      rw [← Option.some.inj e]
      exact (hok' b _ t).1
    · exact un.keep b o e (none_of z) (fun m => by cases m) (fun m => by cases m)
  | .ok .next, h => exact False.elim h
  | .ok .brk, h => exact False.elim h
  | .ok .cont, h => exact False.elim h
theorem law_endG {l : PySem.W.OpenLaw} {k : Nat} {q : Program} {loose : List Str} {n : Nat} {fa : List He.Fa} {fn : List He.DefD} {d : DefRec} {fm : FM} {XP : (Str → Option Value) → Heap → Prop} (hn : l.most = some 63) (hdf : d.params.defaults = []) (hr : Room k callerA) (hd : d.name = ("law" : Str))
    (F : ∀ (w : World) (K : PySem.W.Frag) (mg : Str → Option Value) (h : Heap), K.In h → h.Ns mainGlobals mg → He.SaysD fa fn K → ∃ f fd, mg "law" = some (.ref f) ∧ (∀ (s : Shared) (v : Value), BindsTo s fd ⟨[v], []⟩ [("script", v)]) ∧
      ∀ base : Heap, K.In base → base.Ns mainGlobals mg → FnG l.prog w K mg base (L2N.CX l.prog w) k f fd ["script"] (spF mg 1 fm))
    (hm : ∀ ns : List Int, ns.length ≤ 63 → fm [.dat (.scr ns)] = .ok (.dat (.bl true)) []) :
    PySem.W.WalkO q loose XP (hookE n fa fn).says l.row.toRowW d [] (fun f vs => PySem.call f vs) := by
  refine Att.attach_call hn hdf fun w s₀ s₁ mg mb f o pm cd doc a vs ns G Y ho hd' hcd hmg hobj hints hlen hg => ?_
  obtain ⟨K, KX, c, nl⟩ := Y
  obtain ⟨f', fd, h1, h2, h3⟩ := F w K mg _ KX G.T.g c
  rw [hd, h1] at hmg
  cases hmg
  refine law_callG (x := "script") (sp := spF mg 1 fm) KX G.T.g G.T.b G.T.builtins G.T.nolimit hg hobj hints (Nat.le_trans hlen (by rw [sizeLine_eq]; omega)) hr ?_ (fun base KB GB => h3 base KB GB) h2 (fun H hO hS => law_sp nl (hm ns hlen) hO hS) fun H e s' h => ?_
  · cases hk : K.lookup a with
    | none => rfl
    | some o =>
      have e := KX a o hk
      have z := nl a o hk
      rw [hobj] at e
      rw [← Option.some.inj e] at z
      cases z
  · obtain ⟨_, _, _, _, _, _, _, _, _, _, _, _, z⟩ := h
    exact z.elim
end DL
namespace DL
open PySem PySem.Spec PyProof.Rows L2
theorem bt_repr : bootBuiltins "repr" = some (.builtin "repr") := by decide +kernel
theorem units66 {k : Nat} {A : Around} (h : Room k A) : A.units + 66 < cLine := by have := h.un; omega
end DL
namespace DL
open PySem PySem.Spec PyProof.Rows L2
/-! ### a, b, .. = a tuple or a list of that length -/
def gSq (K : PySem.W.Frag) (n : Nat) (t : TGs) : TG := fun v σ H Q => ∃ a xs, v = .ref a ∧ (SqT K H a xs ∨ SqL K H a xs) ∧ xs.length = n ∧ t xs σ H Q
section
variable {X : Cx} {g : Gx} {pos : Pos}
theorem pg_sq {es : List Expr} {k : Nat} {t : TGs} {n : Nat} (hc : X.calm = true) (h : PGs X es t)
    (hn : (assignEach es X.env).length = n := by rfl) (hst : (assignEach es X.env).findIdx? (·.1) = none := by rfl) : PG X (.Tuple es k pos) (gSq X.K n t) := by
  refine ⟨fun pins s σ H v u Q I r hw => ?_⟩
  obtain ⟨a, xs, e1, hq, hl, hw⟩ := hw
  subst e1
  rcases hq with hq | hq
  · exact (pg_tup hc h hn hst).run pins s σ H (.ref a) u Q I r ⟨a, xs, rfl, hq, hl, hw⟩
  · cases r
    obtain ⟨its, rv, ht, hz⟩ := I.list hq
    have hsz : (assignEach es X.env).length = its.toArray.size := by rw [hn, ← hl, rv.length]; simp
    rw [assign_Tuple]
    refine wpAny_bind (wpAny_standAt ?_)
    unfold unpack
    rw [hsz, hst]
    refine wpAny_bind (wpAny_holding (PySem.W.kun_itemsOf (I.ok.hd hc) ht.isList fun h' hx => ?_))
    have I1 : Inv X pins σ H { s with heap := h' } := I.kept (t' := s.toks) fun b o e => hx b o (Nat.ne_of_lt (Heap.lt_size e)) e
    exact h.run pins _ σ H xs _ Q I1 (by simpa using rv) hw
def gTq (n : Nat) (m : GMs) : GM := fun d env => match d with
  | .tup ds => if ds.length = n then m ds env else none
  | .lst ds => if ds.length = n then m ds env else none
  | _ => none
theorem dg_sq {es : List Expr} {k : Nat} {m : GMs} {n : Nat} {ts : List Nat} {pos : Pos} (hc : X.calm = true) (h : DGs X g ts es m) (hn : (assignEach es X.env).length = n := by rfl) (hst : (assignEach es X.env).findIdx? (·.1) = none := by rfl) : DG X g ts (.Tuple es k pos) (gTq n m) := by
  refine PG.imp (pg_sq hc h hn hst) fun v σ H Q ⟨Z, env, fps, d, s, r, h⟩ => ?_
  cases r with
  | tup h1 r1 =>
    simp only [gTq] at h
    split at h
    · rename_i env' e
      split at e
      · rename_i hl
        refine ⟨_, _, rfl, .inl (.of (s.sub _ _ h1)), by rw [r1.length]; exact hl, Z, env, fps, _, s, r1, ?_⟩
        rw [e]
        exact h
      · cases e
    · exact h.elim
  | lst h1 r1 =>
    simp only [gTq] at h
    split at h
    · rename_i env' e
      split at e
      · rename_i hl
        refine ⟨_, _, rfl, .inr (.of (s.sub _ _ h1)), by rw [r1.length]; exact hl, Z, env, fps, _, s, r1, ?_⟩
        rw [e]
        exact h
      · cases e
    · exact h.elim
  | _ => exact h.elim
end
end DL
namespace DL
open PySem PySem.Spec PyProof.Rows L2
/-! ### try: the caught error is tracked, so it may be handed on -/
/-- how a caught error stands in the heap -/
abbrev xo (oe : Obj) : HO := .frz oe (.own 0)
section
variable {X : Cx} {pins : List (Addr × Obj)} {σ : L2.St} {H : Hp} {s : Shared}
/-- an object that is new since the entry, and not tracked yet, is tracked, and known to the object -/
theorem inv_track {a : Addr} {oe : Obj} {vs : Array Value} (I : Inv X pins σ H s) (n0 : X.s_0.heap.get? a = none) (ha : s.heap.get? a = some oe) (hd : oe.data = .fields vs) (na : H a = none) (nL : a ≠ X.env.locals) (np : ∀ p ∈ X.pn ++ pins, p.1 ≠ a) :
    Inv X pins σ (upd H a (xo oe)) s := by
  have n1 : ∀ {b : Addr} {o : Obj}, X.s_0.heap.get? b = some o → b ≠ a := fun q e => by rw [e, n0] at q; cases q
  have n2 : ∀ {b : Addr} {o : HO}, H b = some o → b ≠ a := fun q e => by rw [e, na] at q; cases q
  have nc : ∀ x c, X.env.cells.lookup x = some c → c ≠ a := fun x c e z => by
    obtain ⟨v, o, ho, hv⟩ := I.cell x c e
    rw [z, ha] at ho
    cases ho
    rw [hd] at hv
    cases hv
  refine { I with base := ⟨I.base.keep, I.base.slot, fun b o q n hx => ?_, I.base.there, fun b xs q => ?_, fun b o u q => ?_, fun b ps q => ?_⟩, free := ?_, freeC := fun x c e => ?_, pin := fun p hp => ?_, hok := fun b u q => ?_ }
  · rw [upd_ne (n1 q)]; exact I.base.free b o q n hx
  · have := I.base.tups b xs q; rw [upd_ne (n2 this)]; exact this
  · have := I.base.frzs b o u q; rw [upd_ne (n2 this)]; exact this
  · obtain ⟨m, k⟩ := I.base.tbls b ps q; exact ⟨m, by rw [upd_ne (n2 k)]; exact k⟩
  · rw [upd_ne (Ne.symm nL)]; exact I.free
  · rw [upd_ne (nc x c e)]; exact I.freeC x c e
  · obtain ⟨p1, p2, p3⟩ := I.pin p hp
    exact ⟨p1, by rw [upd_ne (np p hp)]; exact p2, p3⟩
  · by_cases c : b = a
    · subst c
      rw [upd_same] at q
      cases q
      exact ⟨ha, _, ha⟩
    · rw [upd_ne c] at q
      exact (I.hok b u q).stay (fun _ _ _ k => k) (fun c k => by rw [upd_ne (n2 k)]; exact k) fun c xs k => by rw [upd_ne (n2 k)]; exact k
end
/-- what leaves a suite whose error's name goes -/
def gone (i : Nat) (D : Ends) : Ends := { nx := fun σ' H' => D.nx (σ'.set i none) H', rt := D.rt, bk := fun σ' H' => D.bk (σ'.set i none) H', ct := fun σ' H' => D.ct (σ'.set i none) H' }
/-- the wish of a clause that takes all that comes -/
def wTrk (K : PySem.W.Frag) (c : Value) (i : Nat) (ts : TS) (D : Ends) : WX := fun cls d σ H => PySem.W.exmOne K cls c = some true ∧
  ∀ (a : Addr) (oe : Obj), L2N.Zn cls d oe → (∃ vs, oe.data = .fields vs) → H a = none → ts (gone i D) (σ.set i (some (.ref a))) (upd H a (xo oe))
section
variable {X : Cx} {x n : Str} {c : Value} {i : Nat} {body suite : List Stmt} {b₀ : Stmt} {np pos pos' : Pos} {tb : WX → TS} {ts : TS}
/-- the suite's own context -/
abbrev sui (X : Cx) (a : Addr) (oe : Obj) (pn : List (Addr × Obj)) : Cx := { X.suite a pn with H_0 := upd X.H_0 a (xo oe) }
theorem inv_sui0 {pins : List (Addr × Obj)} {σ : L2.St} {H : Hp} {s : Shared} (I : Inv X pins σ H s) (a : Addr) : Inv (X.suite a (X.pn ++ pins)) [] σ H s :=
  { I with ok := I.ok.suite _ _, pin := fun p hp => I.pin p (by rw [List.append_nil] at hp; exact hp) }
theorem inv_sui {pins : List (Addr × Obj)} {σ : L2.St} {H : Hp} {s : Shared} {a : Addr} {oe : Obj} (I : Inv X pins σ H s) (n0 : X.s_0.heap.get? a = none) (nF : a ∉ X.fs) (ha : H a = some (xo oe)) : Inv (sui X a oe (X.pn ++ pins)) [] σ H s := by
  have n1 : ∀ {b : Addr} {o : Obj}, X.s_0.heap.get? b = some o → b ≠ a := fun q e => by rw [e, n0] at q; cases q
  have ok := I.ok.suite a (X.pn ++ pins)
  refine { I with ok := { ok with bs := fun b o e => ?_, frf := fun b hb => ?_ }, base := ⟨fun b o q n => ?_, fun b o q n => ?_, fun b o q n => ?_, I.base.there, fun b xs q => ?_, fun b o u q => ?_, fun b ps q => ?_⟩, pin := fun p hp => I.pin p (by rw [List.append_nil] at hp; exact hp) }
  · obtain ⟨h1, h2⟩ := I.ok.bs b o e
    exact ⟨h1, by show upd X.H_0 a (xo oe) b = none; rw [upd_ne (n1 h1)]; exact h2⟩
  · show upd X.H_0 a (xo oe) b = none
    rw [upd_ne (fun e => nF (by rw [← e]; exact hb))]; exact I.ok.frf b hb
  · exact I.base.keep b o q (by have n : upd X.H_0 a (xo oe) b = none := n; rw [upd_ne (n1 q)] at n; exact n)
  · exact I.base.slot b o q (by have n : upd X.H_0 a (xo oe) b = none := n; rw [upd_ne (n1 q)] at n; exact n)
  · exact I.base.free b o q (by have n : upd X.H_0 a (xo oe) b = none := n; rw [upd_ne (n1 q)] at n; exact n)
  · have q : upd X.H_0 a (xo oe) b = some (.tup xs) := q
    by_cases c : b = a
    · subst c; rw [upd_same] at q; cases q
    · rw [upd_ne c] at q; exact I.base.tups b xs q
  · have q : upd X.H_0 a (xo oe) b = some (.frz o u) := q
    by_cases c : b = a
    · subst c; rw [upd_same] at q; cases q; exact ha
    · rw [upd_ne c] at q; exact I.base.frzs b o u q
  · have q : upd X.H_0 a (xo oe) b = some (.tbl ps) := q
    by_cases c : b = a
    · subst c; rw [upd_same] at q; cases q
    · rw [upd_ne c] at q; exact I.base.tbls b ps q
theorem inv_unsui {pins pn' : List (Addr × Obj)} {σ : L2.St} {H : Hp} {s : Shared} {a : Addr} {oe : Obj} (I : Inv (sui X a oe (X.pn ++ pins)) pn' σ H s) (ok : X.Ok) (n0 : X.s_0.heap.get? a = none) (t0 : ∀ xs, X.H_0 a ≠ some (.tup xs)) (f0 : ∀ o u, X.H_0 a ≠ some (.frz o u)) (b0 : ∀ ps, X.H_0 a ≠ some (.tbl ps)) : Inv X pins σ H s := by
  have n1 : ∀ {b : Addr} {o : Obj}, X.s_0.heap.get? b = some o → b ≠ a := fun q e => by rw [e, n0] at q; cases q
  have u1 : ∀ {b : Addr} {o : Obj}, X.s_0.heap.get? b = some o → X.H_0 b = none → upd X.H_0 a (xo oe) b = none := fun q n => by rw [upd_ne (n1 q)]; exact n
  exact { I with ok := ok, base := ⟨fun b o q n => I.base.keep b o q (u1 q n), fun b o q n => I.base.slot b o q (u1 q n), fun b o q n => I.base.free b o q (u1 q n), I.base.there, fun b xs q => I.base.tups b xs (by show upd X.H_0 a (xo oe) b = _; rw [upd_ne (fun e => t0 xs (by rw [← e]; exact q))]; exact q), fun b o u q => I.base.frzs b o u (by show upd X.H_0 a (xo oe) b = _; rw [upd_ne (fun e => f0 o u (by rw [← e]; exact q))]; exact q), fun b ps q => I.base.tbls b ps (by show upd X.H_0 a (xo oe) b = _; rw [upd_ne (fun e => b0 ps (by rw [← e]; exact q))]; exact q)⟩, pin := fun p hp => I.pin p (List.mem_append_left _ hp) }
/-- an error is being handled, and known from the entry on -/
def HotX (X : Cx) : Prop := ∃ (a : Addr) (oe : Obj) (vs : Array Value), X.A.handled = some (.ref a) ∧ X.H_0 a = some (xo oe) ∧ oe.data = .fields vs ∧ vs[2]? = some .none
theorem ps_try_trk (hs : X.stack = X.env :: X.outer) (hf : X.env.frame = some X.env.locals) (hex : X.ex = []) (hN : X.N.Nodup) (hi : X.N[i]? = some n) (hln : X.env.kindOf n = some .local) (hc : Names X x c)
    (hb : ∀ (W : WX) (pn : List (Addr × Obj)) (xe : Value → Shared → Prop), L2N.Takes (X.tr pn xe) W → PassesOwn (model X.prog X.w) X.A X.env xe → PSs (X.tr pn xe) body (tb W))
    (hsu : ∀ (a : Addr) (oe : Obj) (pn : List (Addr × Obj)), HotX (sui X a oe pn) → PSs (sui X a oe pn) (b₀ :: suite) ts) :
    PS X (.Try body [.ExceptHandler (some (.Name x np)) (some n) (b₀ :: suite) pos'] [] [] pos) (fun D σ H => tb (wTrk X.K c i ts D) D σ H) := by
  refine ⟨fun pins s σ H D I h => ?_⟩
  have hfr : X.A.frames = some (X.env :: X.outer) := by rw [I.ok.frames, hs]
  refine wpAny_Try_except (wpAny_mono ((hb (wTrk X.K c i ts D) (X.pn ++ pins) _ (fun u s' q => ?_) PassesOwn.looking).run [] s σ H D (I.toTry _) h) (fun f s1 r => ?_) fun e s1 he => he)
  -- what is caught
  · obtain ⟨a, B, sI, pins', σ', H', cls, d, rfl, J', nb, up, sky, na, os, ag, yes, w⟩ := q
    have J : Inv X pins σ' H' sI := J'.ofTry I.ok
    have sky1 : Sky B (X.env :: X.outer) a (L2N.Zn cls d) X.env.locals s'.heap := hs ▸ sky
    refine L2N.Sky.land L2N.Zn.steady hfr hf sky1 fun h3 fl3 up3 => ?_
    obtain ⟨oe3, vs3, he3, hz3, hd3⟩ := fl3.there
    have frame : ∀ {h : Heap} {o : Obj} {vs : Array Value}, h.FunFrames B (X.env :: X.outer) → h.get? a = some o → o.data = .fields vs → a ∉ frs (X.env :: X.outer) := fun ff e dd hm => by
      obtain ⟨_, o', e', nf⟩ := ff.mem hm
      cases e.symm.trans e'
      exact nf _ dd
    have nfr := frame fl3.2.2.1 he3 hd3
    have nL : a ≠ X.env.locals := fun z => nfr (List.mem_filterMap.mpr ⟨X.env, List.mem_cons_self, by rw [hf, z]⟩)
    have nI : sI.heap.get? a = none := by
      cases z : sI.heap.get? a with
      | none => rfl
      | some o =>
        have hB := nb a o z (by rw [show (X.tr (X.pn ++ pins) _).stack = X.env :: X.outer from hs]; exact nfr)
        have := fl3.2.1
        rw [hB] at this
        cases this
    have n0 : X.s_0.heap.get? a = none := by
      cases z : X.s_0.heap.get? a with
      | none => rfl
      | some o =>
        obtain ⟨o', k⟩ := J.base.there a o z (by rw [hex]; exact fun m => nomatch m)
        rw [nI] at k
        cases k
    have np' : ∀ p ∈ X.pn ++ pins, p.1 ≠ a := fun p hp e => by
      have := (J.pin p hp).1
      rw [e, nI] at this
      cases this
    have nF : a ∉ X.fs := fun hm => by
      obtain ⟨e, he, q⟩ := List.mem_filterMap.mp hm
      exact nfr (List.mem_filterMap.mpr ⟨e, List.mem_cons_of_mem _ he, q⟩)
    have t0 : ∀ xs, X.H_0 a ≠ some (.tup xs) := fun xs q => by have := J.base.tups a xs q; rw [na] at this; cases this
    have f0 : ∀ o u, X.H_0 a ≠ some (.frz o u) := fun o u q => by have := J.base.frzs a o u q; rw [na] at this; cases this
    have b0 : ∀ ps, X.H_0 a ≠ some (.tbl ps) := fun ps q => by obtain ⟨m, this⟩ := J.base.tbls a ps q; rw [na] at this; cases this
    have J3 : Inv X pins σ' H' { s' with heap := h3 } := J.landed nb fl3.1 (up.trans up3) os ag
    have S3 := inv_sui0 J3 a
    refine wpAny_handleBy_cons (codeAny_handlers_test ?_) (by intro z; cases z)
    have T3 : PySem.W.Looks (model X.prog X.w) h3 (typeOf (.ref a)) cls := fun A Q E s k q => wpAny_typeOf_ref (k _ _ he3) (by rw [hz3.1]; exact q)
    have M3 := PySem.W.exm_one (M := model X.prog X.w) J3.kIn T3 yes
    have test : ∀ {Q E : Value → Shared → Prop}, Q c { s' with heap := h3 } → wpAny (model X.prog X.w) (X.A.mark (some (.ref a))) (eval (.Name x np) X.env) Q E { s' with heap := h3 } := fun q => by
      obtain ⟨k1, k2, k3⟩ := hc
      rcases k3 with k3 | ⟨k3, k4, k5⟩
      · exact ld_glob (X := X.suite a (X.pn ++ pins)) S3 k1 k3 q k2
      · exact ld_blt (X := X.suite a (X.pn ++ pins)) S3 k1 k3 k4 q k5 k2
    refine test (M3.here (codeAny_handlers_suite_as (HandSPX.lands_againZ fl3 fun h4 fl4 up4 => ?_)))
    obtain ⟨oe4, vs4, he4, hz4, hd4⟩ := fl4.there
    have J4 : Inv X pins σ' (upd H' a (xo oe4)) { s' with heap := h4 } := inv_track (J.landed nb fl4.1 ((up.trans up3).trans up4) os ag) n0 he4 hd4 na nL np'
    refine store_ok (X := sui X a oe4 (X.pn ++ pins)) (v := .ref a) (inv_sui J4 n0 nF upd_same) hN hi (.inl hln) rfl (fun s5 S5 => ?_) (.inr hln)
    refine wpAny_mono ((hsu a oe4 (X.pn ++ pins) ⟨a, oe4, vs4, rfl, upd_same, hd4, hz4.2.2 _ hd4⟩).run [] s5 _ _ (gone i D) S5 (w a oe4 hz4 ⟨_, hd4⟩ na)) (fun f s6 r => ?_) fun _ _ z => z.elim
    have last : ∀ {σ6 : L2.St} {H6 : Hp} {Q : Shared → Prop}, Inv (sui X a oe4 (X.pn ++ pins)) [] σ6 H6 s6 → (∀ s7, Inv X pins (σ6.set i none) H6 s7 → Q s7) →
        wpAny (model X.prog X.w) X.A (do bindName X.env n .none; unbindBehindTheSuite X.env n pos') (fun _ s7 => Q s7) X.xe s6 := fun S6 k => gone_ok (inv_unsui S6 I.ok n0 t0 f0 b0) hN hi hln k
    cases f with
    | next => obtain ⟨σ6, H6, S6, q6⟩ := r; exact last S6 fun s7 J7 => ⟨_, _, J7, q6⟩
    | brk => obtain ⟨σ6, H6, S6, q6⟩ := r; exact last S6 fun s7 J7 => ⟨_, _, J7, q6⟩
    | cont => obtain ⟨σ6, H6, S6, q6⟩ := r; exact last S6 fun s7 J7 => ⟨_, _, J7, q6⟩
    | ret u => obtain ⟨v6, σ6, H6, S6, r6, q6⟩ := r; exact last S6 fun s7 J7 => ⟨_, _, _, J7, r6, q6⟩
  -- what is not raised
  · cases f with
    | next => obtain ⟨σ', H', J', q⟩ := r; exact wpAny_execs_nil ⟨σ', H', J'.ofTry I.ok, q⟩
    | brk => obtain ⟨σ', H', J', q⟩ := r; exact ⟨σ', H', J'.ofTry I.ok, q⟩
    | cont => obtain ⟨σ', H', J', q⟩ := r; exact ⟨σ', H', J'.ofTry I.ok, q⟩
    | ret u => obtain ⟨v, σ', H', J', rv, q⟩ := r; exact ⟨v, σ', H', J'.ofTry I.ok, rv, q⟩
end
end DL
namespace DL
open PySem PySem.Spec PyProof.Rows L2
section
variable {X : Cx} {g : Gx} {Z H : Hp} {env : Ve} {σ : L2.St} {fps : Nat → List Addr}
/-! ### the wish aside -/
abbrev Gx.wish (g : Gx) (W : WX) : Gx := { g with W := W }
theorem StR.reW {W : WX} (s : StR g Z env σ H fps) : StR (g.wish W) Z env σ H fps := ⟨s.len, s.sub, s.slot, s.out, s.dis, s.nd, s.nz, s.e1, s.e2, s.e3, s.e4, s.pin⟩
theorem StR.unW {W : WX} (s : StR (g.wish W) Z env σ H fps) : StR g Z env σ H fps := ⟨s.len, s.sub, s.slot, s.out, s.dis, s.nd, s.nz, s.e1, s.e2, s.e3, s.e4, s.pin⟩
theorem EvR.unW {W : WX} {v : V} {x : Ev} (h : EvR (g.wish W) Z H σ fps v x) : EvR g Z H σ fps v x := by
  cases x <;> exact h
/-- a slot that holds nothing is forgotten -/
theorem StR.forget (s : StR g Z env σ H fps) {i : Nat} (hi : env[i]? = some .un) (hp : i ∉ g.pins) : StR g Z env (σ.set i none) H fps := by
  refine ⟨by rw [List.length_set]; exact s.len, s.sub, fun k y e => ?_, s.out, s.dis, s.nd, s.nz, s.e1, s.e2, s.e3, s.e4, fun k hk => ?_⟩
  · have q := s.slot k y e
    by_cases c : k = i
    · subst c
      rw [hi] at e
      cases e
      exact q
    · have hσ : (σ.set i none)[k]? = σ[k]? := List.getElem?_set_ne (Ne.symm c)
      cases y with
      | un => exact q
      | dat d => obtain ⟨e1, w, h1, h2⟩ := q; exact ⟨e1, w, by rw [hσ]; exact h1, h2⟩
      | own t => obtain ⟨w, h1, h2⟩ := q; exact ⟨w, by rw [hσ]; exact h1, h2⟩
      | al j p =>
        obtain ⟨e1, ⟨t, ht⟩, w, vj, h1, h2, h3⟩ := q
        have cj : j ≠ i := fun z => by rw [z, hi] at ht; cases ht
        exact ⟨e1, ⟨t, ht⟩, w, vj, by rw [hσ]; exact h1, by rw [List.getElem?_set_ne (Ne.symm cj)]; exact h2, h3⟩
  · obtain ⟨v, h1, h2⟩ := s.pin k hk
    have c : k ≠ i := fun z => hp (z ▸ hk)
    exact ⟨v, h1, by rw [List.getElem?_set_ne (Ne.symm c)]; exact h2⟩
end
/-! ### try .. except C as e -/
/-- behind the suite the error's name goes -/
def outGone (i : Nat) : Out → Out
  | .nx e => match e[i]? with
    | some (.own _) => .nx (dropS i e)
    | _ => .no
  | .bk e => match e[i]? with
    | some (.own _) => .bk (dropS i e)
    | _ => .no
  | .ct e => match e[i]? with
    | some (.own _) => .ct (dropS i e)
    | _ => .no
  | .rt r e => .rt r e
  | .ex _ _ => .no
  | .no => .no
def sTry (tab : List Str) (i : Nat) (body suite : SM) : SM := fun env => match body env with
  | .ex x e => if tab.contains x.c = true ∧ i < e.length then outGone i (suite (setS i (.own (.exn x.c x.fs)) e)) else .no
  | o => o
theorem dropS_at {i : Nat} {e : Ve} {t : O} (h : e[i]? = some (.own t)) : (dropS i e)[i]? = some .un := by
  unfold dropS
  rw [List.getElem?_set_self (by rw [List.length_map]; exact (List.getElem?_eq_some_iff.mp h).1)]
section
variable {X : Cx} {g : Gx}
theorem takesF : L2N.Takes X (fun _ _ _ _ => False) := fun u s' ⟨_, _, _, _, _, _, _, _, _, _, _, _, _, _, _, _, w⟩ => w.elim
theorem takes_sui {a : Addr} {oe : Obj} {pn : List (Addr × Obj)} : L2N.Takes (sui X a oe pn) (fun _ _ _ _ => False) := fun u s' ⟨_, _, _, _, _, _, _, _, _, _, _, _, _, _, _, _, w⟩ => w.elim
theorem ds_try {tab : List Str} {i : Nat} {x n : Str} {c : Value} {body suite : List Stmt} {b₀ : Stmt} {np pos pos' : Pos} {mb ms : SM} (hs : X.stack = X.env :: X.outer) (hf : X.env.frame = some X.env.locals) (hex : X.ex = []) (hN : X.N.Nodup) (hi : X.N[i]? = some n) (hln : X.env.kindOf n = some .local) (hp : i ∉ g.pins) (hmg : g.mg = X.mg)
    (hc : Names X x c) (hT : ∀ y ∈ tab, ∀ C, X.mg y = some (.ref C) → PySem.W.exmOne X.K (.ref C) c = some true)
    (hb : ∀ (W : WX) (pn : List (Addr × Obj)) (xe : Value → Shared → Prop), L2N.Takes (X.tr pn xe) W → PassesOwn (model X.prog X.w) X.A X.env xe → DSs (X.tr pn xe) (g.wish W) body mb)
    (hsu : ∀ (a : Addr) (oe : Obj) (pn : List (Addr × Obj)), HotX (sui X a oe pn) → L2N.Takes (sui X a oe pn) (fun _ _ _ _ => False) → PassesOwn (model X.prog X.w) (sui X a oe pn).A X.env (fun _ _ => False) → DSs (sui X a oe pn) (g.wish fun _ _ _ _ => False) (b₀ :: suite) ms) :
    DS X g (.Try body [.ExceptHandler (some (.Name x np)) (some n) (b₀ :: suite) pos'] [] [] pos) (sTry tab i mb ms) := by
  refine PS.imp (ps_try_trk (tb := fun W => tS (g.wish W) mb) (ts := tS (g.wish fun _ _ _ _ => False) ms) hs hf hex hN hi hln hc hb fun a oe pn hot => hsu a oe pn hot takes_sui PassesOwn.never) fun D σ H ⟨Z, env, fps, s, h⟩ => ⟨Z, env, fps, s.reW, ?_⟩
  unfold sTry at h
  cases em : mb env with
  | no => rw [em] at h; exact h
  | nx e => rw [em] at h; exact fun Z' σ' H' fps' s' z => h Z' σ' H' fps' s'.unW z
  | bk e => rw [em] at h; exact fun Z' σ' H' fps' s' z => h Z' σ' H' fps' s'.unW z
  | ct e => rw [em] at h; exact fun Z' σ' H' fps' s' z => h Z' σ' H' fps' s'.unW z
  | rt r e => rw [em] at h; exact fun v Z' σ' H' fps' s' z r => h v Z' σ' H' fps' s'.unW z r.unW
  | ex x e =>
    rw [em] at h
    simp only at h
    split at h
    · rename_i hk
      intro cls d Z' σ' H' fps' s' z xr
      obtain ⟨C, rfl, hC, xf⟩ := xr
      refine ⟨hT x.c (by simpa using hk.1) C (hmg ▸ hC), fun a oe hz hd na => ?_⟩
      have s0 : StR g Z' e σ' H' fps' := s'.unW
      have f : Fresh Z' H' Z' (upd H' a (xo oe)) := .new s0.sub na
      have s1 := s0.fresh f
      have ow : Own g.mg Z' (upd H' a (xo oe)) (.ref a) (.exn x.c x.fs) [a] := .exn upd_same hC hz.1 hd (hz.2.1 ▸ xf)
      have zn : Z' a = none := by
        cases q : Z' a with
        | none => rfl
        | some o => have := s0.sub a o q; rw [na] at this; cases this
      obtain ⟨n1, n2⟩ := s0.new0 na
      have s2 := s1.store (i := i) (x := .own (.exn x.c x.fs)) (v := .ref a) (fp := [a]) hk.2 hp (.inr ⟨_, rfl, ow⟩) (by simp) fun b m => by
        have e : b = a := by simpa using m
        subst e
        exact ⟨zn, fun j _ => n1 j, n2⟩
      refine ⟨Z', setS i (.own (.exn x.c x.fs)) e, _, s2.reW, ?_⟩
      have fin : ∀ {e1 : Ve} {K : L2.St → Hp → Prop}, (∃ t, e1[i]? = some (.own t)) → (∀ Z2 σ2 H2 fps2, StR g Z2 (dropS i e1) σ2 H2 fps2 → Same Z Z2 → K σ2 H2) → ∀ Z2 σ2 H2 fps2, StR (g.wish fun _ _ _ _ => False) Z2 e1 σ2 H2 fps2 → Same Z' Z2 → K (σ2.set i none) H2 := fun ⟨t, ht⟩ k Z2 σ2 H2 fps2 s3 z3 =>
        k Z2 _ H2 _ ((s3.unW.drop ht).forget (dropS_at ht) hp) (z.trans z3)
      cases es : ms (setS i (.own (.exn x.c x.fs)) e) with
      | no => rw [es] at h; exact h
      | ex x2 e2 => rw [es] at h; exact h.elim
      | nx e1 =>
        rw [es] at h
        simp only [outGone] at h
        split at h
        · rename_i t ht
          exact fin ⟨_, ht⟩ h
        · exact h.elim
      | bk e1 =>
        rw [es] at h
        simp only [outGone] at h
        split at h
        · rename_i t ht
          exact fin ⟨_, ht⟩ h
        · exact h.elim
      | ct e1 =>
        rw [es] at h
        simp only [outGone] at h
        split at h
        · rename_i t ht
          exact fin ⟨_, ht⟩ h
        · exact h.elim
      | rt r e1 => rw [es] at h; exact fun v Z2 σ2 H2 fps2 s3 z3 r3 => h v Z2 σ2 H2 fps2 s3.unW (z.trans z3) r3.unW
    · exact h.elim
/-! ### raise C() -/
def sRaise0 (x : Str) : SM := fun env => .ex ⟨x, []⟩ env
abbrev exTl : List Value := [.type "Exception", .type "BaseException", .type "object"]
structure RzOk (K : PySem.W.Frag) (mg : Str → Option Value) (x : Str) : Prop where
  ex : ∃ C, mg x = some (.ref C) ∧ PySem.W.excIn K C exTl "Exception.__new__" = true ∧ PySem.W.keepIn K (.ref C) = true ∧ PySem.W.subIn K (.ref C) (.type "BaseException") = some true ∧ PySem.W.typeIn K (.ref C) = some (.type "type")
theorem pmk_bare {x : Str} {C : Addr} {p pos : Pos} (q : PySem.W.excIn X.K C exTl "Exception.__new__" = true) (gC : X.mg x = some (.ref C)) (kC : PySem.W.keepIn X.K (.ref C) = true) (r : Raises X (.ref C)) (hg : Gl X x) (hdb : (x == ("__debug__" : Str)) = false) :
    L2N.PMk X (.Call (.Name x p) [] [] pos) (fun _ H Q => Q (.ref C) none H) := by
  intro pins s σ H Q I h
  refine wpAny_Call_Name_kw (ld_glob I hg gC (PySem.W.callWith_K0 I.kIn kC ?_) hdb)
  obtain ⟨bm, N, nm, qn, bs, hdct, sn, sub, ab, col, dd, k0, k1, k2, k3, k5, mN, hC, hN, hni, T⟩ := exc_obj I.kIn q
  exact wpAny_call_exc_subT PySem.F.excBase_Exception T hC hN hni (fun h' e hm => L2N.mk_of I hm r h (I.hok.gone hm.new)) (Nat.zero_le _)
theorem ds_raise0 {x : Str} {p p2 pos : Pos} (hc : X.calm = true) (tk : L2N.Takes X g.W) (hmg : g.mg = X.mg) (R : RzOk X.K X.mg x) (hg : Gl X x) (hdb : (x == ("__debug__" : Str)) = false := by decide) : DS X g (.Raise (some (.Call (.Name x p) [] [] p2)) none pos) (sRaise0 x) := by
  obtain ⟨C, h1, h2, h3, h4, h5⟩ := R.ex
  exact PS.imp (L2N.ps_raise hc tk (pmk_bare h2 h1 h3 (raises_own h4 h5) hg hdb)) fun D σ H ⟨Z, env, fps, s, h⟩ => h (.ref C) none Z σ H fps s (.refl _) ⟨C, rfl, hmg ▸ h1, .inl ⟨rfl, rfl⟩⟩
/-! ### isinstance(e, C) -/
structure ExK (K : PySem.W.Frag) (D : Addr) : Prop where
  cl : (PySem.W.clsIn K D).isSome = true
  ga : PySem.W.findIn K (.ref D) "__getattribute__" = some (some (.builtin "BaseException.__getattribute__"))
  gg : PySem.W.findIn K (.ref D) "__getattr__" = some none
  su : PySem.W.subIn K (.ref D) (.type "BaseException") = some true
  fc : PySem.W.findIn K (.ref D) "__class__" = some (some (.builtin "object.__class__"))
  gs : PySem.W.specialIn K (.builtin "object.__class__") "__get__" = some (some (.builtin "getset_descriptor.__get__"))
  tk : PySem.W.takesIn K (.builtin "object.__class__") = some true
  mo : PySem.W.mroIn K D (.type "object") = some true
  hd : PySem.W.hasDictIn K D = true
/-- a tracked error of the class D -/
def IsX (H : Hp) (a D : Addr) (oe : Obj) : Prop := H a = some (xo oe) ∧ oe.cls = .ref D ∧ (∃ vs, oe.data = .fields vs) ∧ ∀ dd, oe.dict = some dd → ∃ vfs, H dd = some (.xd vfs)
theorem inst_at {pins : List (Addr × Obj)} {σ : L2.St} {H : Hp} {s : Shared} {a D : Addr} {oe : Obj} (I : Inv X pins σ H s) (h : IsX H a D oe) : ∃ od, PySem.W.InstAt s.heap a oe D od := by
  obtain ⟨h1, h2, ⟨vs, h3⟩, h4⟩ := h
  obtain ⟨ho, _⟩ := I.hok a _ h1
  have hn : PySem.W.notCls oe = true := by unfold PySem.W.notCls; rw [h3] <;> rfl
  cases q : oe.dict with
  | none => exact ⟨none, ho, h2, hn, by rw [q]; trivial⟩
  | some dd =>
    obtain ⟨vfs, h5⟩ := h4 dd q
    obtain ⟨mA, ⟨o, _, _, e, _⟩, _⟩ := I.hok dd _ h5
    exact ⟨some o, ho, h2, hn, by rw [q]; exact e⟩
def rIsX (K : PySem.W.Frag) : List V → Hp → VK → Prop := fun xs H Q => ∃ (a D C' : Addr) (oe : Obj) (b : Bool), xs = [.ref a, .ref C'] ∧ IsX H a D oe ∧ ExK K D ∧ PySem.W.kitOne K (.ref D) (.ref C') = some b ∧ Q (.bl b) H
theorem call_isX : CallR X (.builtin "isinstance") (rIsX X.K) := by
  intro pins s σ H xs us Q I r h
  obtain ⟨a, D, C', oe, b, rfl, hx, k, e, q⟩ := h
  cases r with
  | cons rx rr =>
    cases rr with
    | cons rt rr =>
      cases rr
      cases rx
      cases rt
      obtain ⟨od, J⟩ := inst_at I hx
      exact PySem.W.kia_one (PySem.W.kitx_exc k.cl k.ga k.gg k.su k.fc k.gs k.tk k.mo) I.kIn J e (fun z => nomatch z) fun tk => ⟨.bl b, H, I.tok tk, rfl, q⟩
def isxB (c y : Str) : Bool := c == y || y == ("BraidError" : Str)
def eIsx (tab : List Str) (y : Str) (ma : EM) : EM := fun env => (ma env).bind fun x e1 => match x with
  | .pl j [] => match e1[j]? with
    | some (.own (.exn c _)) => if tab.contains c = true then .ok (.dat (.bl (isxB c y))) e1 else .no
    | _ => .no
  | _ => .no
structure IsxOk (K : PySem.W.Frag) (mg : Str → Option Value) (tab : List Str) (y : Str) : Prop where
  ex : ∃ C', mg y = some (.ref C') ∧ ∀ c ∈ tab, ∀ D, mg c = some (.ref D) → ExK K D ∧ PySem.W.kitOne K (.ref D) (.ref C') = some (isxB c y)
/-- an owned error at its place -/
theorem exn_at {Z H : Hp} {e : Ve} {σ : L2.St} {fps : Nat → List Addr} {j : Nat} {c : Str} {fs : List (Str × D)} {v vj : V} (s : StR g Z e σ H fps) (hj : e[j]? = some (.own (.exn c fs))) (hσ : σ[j]? = some (some vj)) (hw : walk H vj [] = some v) :
    ∃ a C oe, v = .ref a ∧ g.mg c = some (.ref C) ∧ IsX H a C oe ∧ XF Z oe.dict fs := by
  obtain ⟨v0, h1, ow⟩ := s.slot j _ hj
  rw [hσ] at h1
  cases h1
  simp only [walk, Option.some.injEq] at hw
  subst hw
  generalize fps j = fp at ow
  cases ow with
  | exn k1 k2 k3 k4 k5 =>
    refine ⟨_, _, _, rfl, k2, ⟨k1, k3, k4, fun dd hd => ?_⟩, k5⟩
    rcases k5 with ⟨q, _⟩ | ⟨d2, vfs, q1, q2, _⟩
    · rw [q] at hd; cases hd
    · rw [q1] at hd; cases hd; exact ⟨vfs, s.sub _ _ q2⟩
theorem de_isx {tab : List Str} {y : Str} {p : Bool} {a : Expr} {ma : EM} {p1 p2 pos : Pos} (hg : Gl X "isinstance") (hm : X.mg "isinstance" = none) (hv : bootBuiltins "isinstance" = some (.builtin "isinstance")) (ha : DE X g p a ma)
    (hmg : g.mg = X.mg) (hT : IsxOk X.K X.mg tab y) (hy : Gl X y) (hdb : (y == ("__debug__" : Str)) = false := by decide)
    (hs : starEach [a, .Name y p2] X.env = (false, eval a X.env) :: starEach [.Name y p2] X.env := by rfl) (hs2 : starEach [.Name y p2] X.env = (false, eval (.Name y p2) X.env) :: starEach [] X.env := by rfl)
    (hpl : (backTo pos (starEach [.Name y p2] X.env)).any (·.1) = false := by rfl) :
    DE X g p (.Call (.Name "isinstance" p1) [a, .Name y p2] [] pos) (eIsx tab y ma) := by
  obtain ⟨C', hC, hT⟩ := hT.ex
  refine PE.imp (pe_callB call_isX hg hm hv (pa_cons ha (pa_cons (pe_glob (v := .ref C') hy hC rfl hdb) pa_nil hs2) hs) (by decide) (by decide) hs hpl) fun σ H Q ⟨Z, env, fps, s, h⟩ => ?_
  show tE g p ma σ H fun x H1 => rIsX X.K [x, .ref C'] H1 Q
  refine ⟨Z, env, fps, s, ?_⟩
  unfold eIsx at h
  cases e : ma env with
  | no => rw [e] at h; exact h
  | ex x e1 => rw [e] at h; exact h
  | ok x e1 =>
    rw [e, Res.bind_ok] at h
    intro v Z1 H1 fps1 s1 z1 k1 r1
    cases x with
    | dat d => exact h.elim
    | new t => exact h.elim
    | pl j pp =>
      cases pp with
      | cons f pp => exact h.elim
      | nil =>
        simp only at h
        split at h
        · rename_i c fs hj
          split at h
          · rename_i hk
            obtain ⟨vj, r2, r3⟩ := r1
            obtain ⟨a, C, oe, rfl, hc, hx, _⟩ := exn_at s1 hj r2 r3
            obtain ⟨t1, t2⟩ := hT c (by simpa using hk) C (hmg ▸ hc)
            exact ⟨a, C, C', oe, _, rfl, hx, t1, t2, h _ Z1 H1 fps1 s1 z1 k1 .bl⟩
          · exact h.elim
        · exact h.elim
/-! ### e.f -/
def tXfT (K : PySem.W.Frag) (f : Str) (te : TE) : TE := fun σ H Q => te σ H fun x H1 => ∃ (a C dd : Addr) (oe : Obj) (fs : List (Str × V)) (v : V), x = .ref a ∧ IsX H1 a C oe ∧ oe.dict = some dd ∧ ExK K C ∧ PySem.W.findIn K (.ref C) f = some none ∧ H1 dd = some (.xd fs) ∧ fs.lookup f = some v ∧ Q v H1
theorem pe_xfT {e : Expr} {te : TE} {pos : Pos} {n : Str} (he : PE X e te) (hb : attributeBase e n X.env (eval e X.env) = eval e X.env := by rfl) : PE X (.Attribute e n pos) (tXfT X.K n te) := by
  refine ⟨fun pins s σ H Q I h => attr_of hb (thn (he.run pins s σ H _ I h) fun u s1 hh => ?_)⟩
  obtain ⟨x, H1, I1, rx, a, C, dd, oe, fs, v, ex, hx, ed, k, hno, ea, l, q⟩ := hh
  subst ex
  obtain rfl : u = Value.ref a := rx
  obtain ⟨h1, h2, ⟨vs, h3⟩, _⟩ := hx
  obtain ⟨ho, _⟩ := I1.hok a _ h1
  obtain ⟨mA, hns, hr⟩ := I1.hok dd _ ea
  obtain ⟨od, ho2, hl⟩ := lookIn_ns hns
  obtain ⟨u, hu, ru⟩ := RelO.some_of (v := v) (o := mA n) (by rw [← l]; exact hr n)
  exact HandSPX.exc_get I1.kIn ⟨ho, h2, by unfold PySem.W.notCls; rw [h3] <;> rfl, by rw [ed]; exact ho2⟩ k.ga k.gg k.su (PySem.W.findObj_own k.hd hno rfl (by rw [hl, hu])) (handed_of ru) ⟨v, H1, I1.tok _, ru, q⟩
def eFldX (tab : List Str) (f : Str) (ma : EM) : EM := fun env => (ma env).bind fun x e1 => match x with
  | .pl j [] => match e1[j]? with
    | some (.own (.exn c fs)) => if tab.contains c = true then match fs.lookup f with
        | some d => .ok (.dat d) e1
        | none => .no
      else .no
    | _ => .no
  | _ => .no
structure FdxOk (K : PySem.W.Frag) (mg : Str → Option Value) (tab : List Str) (f : Str) : Prop where
  ex : ∀ c ∈ tab, ∀ C, mg c = some (.ref C) → ExK K C ∧ PySem.W.findIn K (.ref C) f = some none
theorem de_fldX {tab : List Str} {f : Str} {p : Bool} {a : Expr} {ma : EM} {pos : Pos} (ha : DE X g p a ma) (hmg : g.mg = X.mg) (hT : FdxOk X.K X.mg tab f) (hb : attributeBase a f X.env (eval a X.env) = eval a X.env := by rfl) : DE X g p (.Attribute a f pos) (eFldX tab f ma) := by
  refine PE.imp (pe_xfT ha hb) fun σ H Q ⟨Z, env, fps, s, h⟩ => ⟨Z, env, fps, s, ?_⟩
  unfold eFldX at h
  cases e : ma env with
  | no => rw [e] at h; exact h
  | ex x e1 => rw [e] at h; exact h
  | ok x e1 =>
    rw [e, Res.bind_ok] at h
    intro v Z1 H1 fps1 s1 z1 k1 r1
    cases x with
    | dat d => exact h.elim
    | new t => exact h.elim
    | pl j pp =>
      cases pp with
      | cons f pp => exact h.elim
      | nil =>
        simp only at h
        split at h
        · rename_i c fs hj
          split at h
          · rename_i hk
            split at h
            · rename_i d hd
              obtain ⟨vj, r2, r3⟩ := r1
              obtain ⟨a, C, oe, rfl, hc, hx, xf⟩ := exn_at s1 hj r2 r3
              obtain ⟨t1, t2⟩ := hT.ex c (by simpa using hk) C (hmg ▸ hc)
              rcases xf with ⟨_, q⟩ | ⟨dd, vfs, q1, q2, q3⟩
              · rw [q] at hd; cases hd
              · obtain ⟨w, q4, q5⟩ := q3 f d hd
                exact ⟨a, C, dd, oe, vfs, w, rfl, hx, q1, t1, t2, s1.sub _ _ q2, q4, h w Z1 H1 fps1 s1 z1 k1 q5⟩
            · exact h.elim
          · exact h.elim
        · exact h.elim
end
end DL
namespace DL
open PySem PySem.Spec PyProof.Rows L2 PySem.W PySem.Calls
/-! ### an error class whose __init__ says super().__init__(x), self.f = x -/
/-- what the written part says of the class C, its __init__ at fI, the cell of its own name at cc, the code at cda -/
structure SupF (P : Program) (K : PySem.W.Frag) (p f : Str) (C fI cc cda : Addr) (qual : Str) (params : Arguments) (body : List Stmt) (scope : Scope) (dV kV doc pm ct oc : Value) (an od : Option Addr) (osl : Array (Option Value)) : Prop where
  kp : PySem.W.keepIn K (.ref C) = true
  init : excInitIn K C exTl "Exception.__new__" = true
  iC : PySem.W.findIn K (.ref C) "__init__" = some (some (.ref fI))
  tI : PySem.W.typeIn K (.ref fI) = some (.type "function")
  fn : K.lookup fI = some ⟨oc, od, .func (ksFn "__init__" qual params body scope dV kV doc pm an (.ref cda) ct cc), osl⟩
  code : PySem.W.codeIn K (.ref cda) qual = true
  cell : ∃ cl cld csl, K.lookup cc = some ⟨cl, cld, .cell (some (.ref C)), csl⟩
  file : ∃ ccl cdd vs ccs fl tf, K.lookup cda = some ⟨ccl, cdd, .fields vs, ccs⟩ ∧ vs[2]? = some (.str fl tf) ∧ ((P.main.file : Str) == fl) = true
  top : (P.main.scope.names.lookup ("super" : Str)).isSome = false
  sup : PySem.W.nsIn K mainGlobals "super" = some none
  cls : ∃ cd, PySem.W.clsIn K C = some cd
  mro : PySem.W.mroIn K C (.ref C) = some true
  nxt : ks_superIn K C C "__init__" = some (some (.builtin "Exception.__init__"))
  subE : PySem.W.subIn K (.ref C) (.type "Exception") = some true
  any : PySem.W.nsIn K cStatics "thirdparty.any" = some none
  sa : PySem.W.findIn K (.ref C) "__setattr__" = some (some (.builtin "object.__setattr__"))
  ov : excOver K C exTl = true
  tk : takerIn K C f = some none
  hd : PySem.W.hasDictIn K C = true
  subB : PySem.W.subIn K (.ref C) (.type "BaseException") = some true
  tyC : PySem.W.typeIn K (.ref C) = some (.type "type")
  s1 : scope.names.lookup ("super" : Str) = some .globalImplicit
  s2 : scope.names.lookup ("__class__" : Str) = some .free
  s3 : scope.names.lookup ("self" : Str) = some .local
  s4 : scope.names.lookup p = some .local
  s5 : scope.kind = .function
  s6 : scope.isCoroutine = false
  s7 : scope.isGenerator = false
  s8 : ∀ x ∈ scope.names, x.2 ≠ .cell
  ps : ∃ ar, (params.posonlyargs ++ params.args).head? = some ar ∧ ar.arg = "self"
  np : p ≠ "self"
  nd : (p == ("__debug__" : Str)) = false
  bind : ∀ a b : Value, bindArgs (ksFn "__init__" qual params body scope dV kV doc pm an (.ref cda) ct cc) ⟨[a, b], []⟩ = pure ([(("self" : Str), a), (p, b)] : List (Str × Value))
section
variable {P : Program} {w : World} {A : Around} {E : Value → Shared → Prop} {s : Shared} {h₀ : Heap} {L : Addr} {m : Str → Option Value} {news : List (Addr × Obj)} {K : PySem.W.Frag} {p f : Str} {C fI cc cda x : Addr} {qual : Str} {params : Arguments} {body : List Stmt} {scope : Scope} {dV kV doc pm ct oc : Value} {an od : Option Addr} {osl : Array (Option Value)}
/-- super(), in such an __init__ -/
theorem sup_node (T : SupF P K p f C fI cc cda qual params body scope dV kV doc pm ct oc an od osl) {mg : Str → Option Value} {base : Heap} (MD : Mod K mg base) (bk : ∀ b o, base.get? b = some o → h₀.get? b = some o)
    {p0 p1 : Pos} {ox : Obj} {odx : Option Obj} {whole : Sem Value} {Q : Value → Shared → Prop} (F : Fr h₀ L s.heap m) (N : News h₀ L s.heap news) (hv : m "self" = some (.ref x)) (I : InstAt s.heap x ox C odx)
    (h : ∀ so h', Fr h₀ L h' m → News h₀ L h' ((so, ks_superObj C x C) :: news) → (∀ p ∈ news, p.1 < so) → Q (.ref so) { s with heap := h' }) :
    _root_.PySem.wpAt (model P w) A (.func body (ksEnv qual scope L fI (.ref cda) cc)) (attributeBase (.Call (.Name "super" p0) [] [] p1) "__init__" (ksEnv qual scope L fI (.ref cda) cc) whole) Q E s := by
  have X0 : K.In h₀ := MD.kin.keeps bk
  have X : K.In s.heap := X0.keeps F.keep
  obtain ⟨hh, g, d, t, os⟩ := s
  obtain ⟨cd, hcd⟩ := T.cls
  obtain ⟨oD, hD1, hD2⟩ : ∃ oD, hh.get? C = some oD ∧ oD.data = .cls cd := by
    unfold clsIn at hcd
    split at hcd
    · rename_i c d cd' sl ho
      cases hcd
      exact ⟨_, X _ _ ho, rfl⟩
    · cases hcd
  obtain ⟨cl, cld, csl, hcell⟩ := T.cell
  obtain ⟨ccl, cdd, vs, ccs, fl, tf, hcode, hvs, hfile⟩ := T.file
  obtain ⟨ar, hp, har⟩ := T.ps
  obtain ⟨mb, hb1, hb2⟩ := MD.blt
  refine ks_wpAt_super_base (env := ksEnv qual scope L fI (.ref cda) cc) T.s1 T.s2 rfl rfl (X _ _ T.fn) rfl hp rfl (X _ _ hcode) rfl hvs hfile T.top ?_
  rw [har]
  refine ks_loadName_global T.s5 T.s1 (loadGlobal_builtin (env := ksEnv qual scope L fI (.ref cda) cc) ((MD.glob.keeps bk).keeps F.keep) (mg_none_of MD.kin MD.glob T.sup) ((hb1.keeps bk).keeps F.keep) ((hb2 _ (by decide +kernel)).trans (show bootBuiltins "super" = some (.type "super") by decide +kernel)) ⟨rfl, ?_⟩)
  refine wpAny_loadName_free T.s5 T.s2 rfl ⟨_, X _ _ hcell, rfl⟩ ?_
  refine wpAny_loadName_local T.s5 T.s3 F.ns hv ?_
  refine ks_wpAny_isType_cls hD1 hD2 ⟨rfl, ?_⟩
  refine ks_wpAny_call_super hD1 hD2 I.at_ I.cls (fun c e => ?_) (looks_mroIn X T.mro) (fun h' e k => ?_)
  · have := I.no
    unfold notCls at this
    rw [e] at this
    exact Bool.noConfusion this
  · obtain ⟨F', N', l'⟩ := ks_newsPush (s := ⟨hh, g, d, t, os⟩) F N rfl e k
    exact h _ _ F' N' l'
/-- such an __init__, run: the error at e gets its dict -/
theorem sup_body {p0 p1 p2 p3 p4 p5 p6 p7 p8 p9 : Pos} (T : SupF P K p f C fI cc cda qual params body scope dV kV doc pm ct oc an od osl)
    (hbody : body = [.Expr (.Call (.Attribute (.Call (.Name "super" p0) [] [] p1) "__init__" p2) [.Name p p3] [] p4) p5, .Assign [.Attribute (.Name "self" p6) f p7] (.Name p p8) p9])
    {pl : Sem Bool} (he : ∀ L, eval (.Call (.Attribute (.Call (.Name "super" p0) [] [] p1) "__init__" p2) [.Name p p3] [] p4) (ksEnv qual scope L fI (.ref cda) cc) = (do
      let ov ← attributeBase (.Call (.Name "super" p0) [] [] p1) "__init__" (ksEnv qual scope L fI (.ref cda) cc) (eval (.Call (.Name "super" p0) [] [] p1) (ksEnv qual scope L fI (.ref cda) cc))
      standAt p2.atName
      let (f, first) ← holding [ov] (getMethod ov "__init__" pl)
      callWith p4 f first (backTo p4 (starEach [.Name p p3] (ksEnv qual scope L fI (.ref cda) cc))) []))
    {mg : Str → Option Value} {base : Heap} (MD : Mod K mg base) (bk : ∀ b o, base.get? b = some o → h₀.get? b = some o) {t : Addr} {u : Value} {Q : Flow → Shared → Prop}
    (F : Fr h₀ L s.heap m) (N : News h₀ L s.heap [(x, excObj C t none .none), (t, excTup [u])]) (hxt : x ≠ t) (h1 : m "self" = some (.ref x)) (h2 : m p = some u)
    (h : ∀ t' dx h' tk', Fr h₀ L h' m → h'.get? dx = some (dictOf (putL f (PyData.keyHash w.params f) (.str f tk') u []) (putN f [] 0)) → h'.get? x = some (excObj C t' (some dx) .none) → dx ≠ x → h₀.get? dx = none → (∀ tk2, Q .next { s with heap := h', toks := tk2 })) :
    _root_.PySem.wpAt (model P w) A (.func body (ksEnv qual scope L fI (.ref cda) cc)) (execs body (ksEnv qual scope L fI (.ref cda) cc)) Q E s := by
  subst hbody
  have hi : ∀ L, interactive (ksEnv qual scope L fI (.ref cda) cc) = false := fun L => by
    unfold interactive
    rw [show (ksEnv qual scope L fI (.ref cda) cc).scope.kind = .function from T.s5]
    rfl
  have X0 : K.In h₀ := MD.kin.keeps bk
  refine ks_wpAt_execs_cons (ks_wpAt_Expr_any (ks_wpAt_MethodCall (pl := pl) (sup_node T MD bk F N h1 (InstAt.of_exc0 (t := t) (c2 := .none) N (by simp)) fun so hA FA NA la => ?_) (he L)) (hi L))
  have nx : ∀ {h : Heap} {l : List (Addr × Obj)} {q : Addr × Obj}, News h₀ L h l → q ∈ l → q.1 < h.objs.size := fun N hq => Heap.lt_size (N _ hq).1
  refine kxs_method PySem.W.kxs_Exception (x := x) (C := C) (D := C) FA X0 NA (by simp) (InstAt.of_exc0 (t := t) (c2 := .none) NA (by simp)) T.any T.nxt T.subE rfl fun q hB FB NB lb => ?_
  have nq : q ≠ x := fun e => absurd (lb (x, excObj C t none .none) (by simp)) (by rw [e]; exact Nat.lt_irrefl _)
  have nso : so ≠ x := fun e => absurd (la (x, excObj C t none .none) (by simp)) (by rw [e]; exact Nat.lt_irrefl _)
  refine kxs_callWith1 NB List.mem_cons_self ?_
  refine Calls.spliced_cons (PySem.ESX.ldL FB.ns h2 (Calls.spliced_nil ⟨kxs_at NB List.mem_cons_self, ?_⟩) T.s5 T.s4 T.nd)
  refine kxs_call FB X0 NB PySem.F.excBase_Exception T.init List.mem_cons_self (.tail nq (.tail nso (.head fun p hp => by
    have : p = (t, excTup [u]) := by simpa using hp
    subst this
    exact Ne.symm hxt))) (by show 1 ≤ sizeLine; rw [sizeLine_eq]; omega) fun t' hC FC NC lc => ?_
  have nt' : t' ≠ x := fun e => absurd (lc (x, excObj C t none .none) (by simp)) (by rw [e]; exact Nat.lt_irrefl _)
  refine ks_wpAt_execs_cons (ks_wpAt_Assign_Attr (wpAt_of_wpAny (PySem.ESX.ldL FC.ns h2 (PySem.ESX.ldL FC.ns h1 ?_ T.s5 T.s3 (by decide)) T.s5 T.s4 T.nd)))
  refine set_exc0 PySem.F.store_Exception FC X0 NC (x := x) (t := t') (c2 := .none) (by simp) T.sa T.ov T.tk T.hd rfl (.tail nt' (.tail nq (.tail nso (.head fun p hp => by
    have : p = (t, excTup [u]) := by simpa using hp
    subst this
    exact Ne.symm hxt)))) (by simp [putL]) fun dx hD FD ND ld => ?_
  have nd := ld (x, excObj C t' none .none) (by simp)
  have g1 := (ND (dx, _) List.mem_cons_self)
  have g2 := (ND (x, excObj C t' (some dx) .none) (by simp))
  refine wpAt_of_wpAny ?_
  exact wpAny_execs_nil (h t' dx hD _ FD g1.1 g2.1 (fun e => absurd nd (by rw [e]; exact Nat.lt_irrefl _)) g1.2.2 _)
end
section
variable {X : Cx} {g : Gx}
theorem one_ns {h : Heap} {dx : Addr} {f : Str} {hs : Int} {tk : Tok} {u : Value} (e : h.get? dx = some (dictOf (putL f hs (.str f tk) u []) (putN f [] 0))) : h.Ns1 dx (fun y => if y = f then some u else none) := by
  refine ⟨_, _, _, e, rfl, ?_, ?_, fun y => ?_⟩
  · intro e he
    simp [putL] at he
    subst he
    exact ⟨f, tk, rfl⟩
  · show List.Pairwise _ (putL f hs (.str f tk) u []).toArray.toList
    simp [putL]
  · simp only [nsFind, findBy, putL, List.find?_toArray, List.find?_cons, List.find?_nil, Value.isStr]
    by_cases c : y = f
    · subst c; simp
    · have : (f == y) = false := by simpa using Ne.symm c
      simp [c, this]
theorem pmk_sup {y p f : Str} {C fI cc cda : Addr} {qual : Str} {params : Arguments} {body : List Stmt} {scope : Scope} {dV kV doc pm ct oc : Value} {an od : Option Addr} {osl : Array (Option Value)} {e : Expr} {te : TE} {q0 pos : Pos}
    {p0 p1 p2 p3 p4 p5 p6 p7 p8 p9 : Pos} (T : SupF X.prog X.K p f C fI cc cda qual params body scope dV kV doc pm ct oc an od osl)
    (hbody : body = [.Expr (.Call (.Attribute (.Call (.Name "super" p0) [] [] p1) "__init__" p2) [.Name p p3] [] p4) p5, .Assign [.Attribute (.Name "self" p6) f p7] (.Name p p8) p9])
    {pl : Sem Bool} (hev : ∀ L, eval (.Call (.Attribute (.Call (.Name "super" p0) [] [] p1) "__init__" p2) [.Name p p3] [] p4) (ksEnv qual scope L fI (.ref cda) cc) = (do
      let ov ← attributeBase (.Call (.Name "super" p0) [] [] p1) "__init__" (ksEnv qual scope L fI (.ref cda) cc) (eval (.Call (.Name "super" p0) [] [] p1) (ksEnv qual scope L fI (.ref cda) cc))
      standAt p2.atName
      let (f, first) ← holding [ov] (getMethod ov "__init__" pl)
      callWith p4 f first (backTo p4 (starEach [.Name p p3] (ksEnv qual scope L fI (.ref cda) cc))) []))
    {k : Nat} (hr : Room (k + 1) X.A) (gC : X.mg y = some (.ref C)) (hg : Gl X y) (he : PE X e te) (hdb : (y == ("__debug__" : Str)) = false) (hs : starEach [e] X.env = (false, eval e X.env) :: starEach [] X.env := by rfl) :
    L2N.PMk X (.Call (.Name y q0) [e] [] pos) (fun σ H Q => te σ H fun v H1 => ∀ d, H1 d = none → Q (.ref C) (some d) (upd H1 d (.xd [(f, v)]))) := by
  intro pins s σ H Q I h
  refine wpAny_Call_Name_kw (ld_glob I hg gC ?_ hdb)
  have ha : PA X [e] (tCons te tNil) := pa_cons he pa_nil hs
  refine PySem.W.callWith_K (h₀ := X.base) I.ok.mod.kin T.kp (thn (ha.run pos pins s σ H (fun vs H1 => match vs with
    | [v] => ∀ d, H1 d = none → Q (.ref C) (some d) (upd H1 d (.xd [(f, v)]))
    | _ => False) I h) fun us s1 hh => ?_) hs (by rfl)
  obtain ⟨vs, H1, I1, r1, q1⟩ := hh
  refine ⟨I1.kIn, ?_⟩
  cases r1 with
  | nil => exact q1.elim
  | cons ru rn =>
    rename_i v u vs' us'
    cases rn with
    | cons _ _ => exact q1.elim
    | nil =>
      obtain ⟨hp, gs, dr, tk, os⟩ := s1
      obtain ⟨nm, N', qn, bs, bm, hdct, sn, sub, ab, col, dd, k0, k1, k2, k3, k5, hC, hT⟩ := excInit_of I1.kIn T.init
      show wpAny _ _ (call (.ref C) [u]) _ _ _
      refine wpAny_call (PySem.HandSPX.call_own PySem.F.excBase_Exception hT hC (PySem.W.looks_findIn I1.kIn T.iC) (fun self => PySem.W.bind_fn I1.kIn self T.tI) (by show 1 ≤ sizeLine; rw [sizeLine_eq]; omega) ?_)
      have kk : ∀ b o, hp.get? b = some o → ((hp.push (PySem.W.kdv_tup [u])).push (PySem.HandSPX.excO C hp.objs.size)).get? b = some o := fun b o e => Heap.get?_push_of_some _ (Heap.get?_push_of_some _ e)
      have g1 : ((hp.push (PySem.W.kdv_tup [u])).push (PySem.HandSPX.excO C hp.objs.size)).get? (hp.objs.size + 1) = some (PySem.HandSPX.excO C hp.objs.size) := by heap_get
      have g2 : ((hp.push (PySem.W.kdv_tup [u])).push (PySem.HandSPX.excO C hp.objs.size)).get? hp.objs.size = some (PySem.W.kdv_tup [u]) := Heap.get?_push_of_some _ (Heap.get?_push_size _ rfl)
      have sz : ((hp.push (PySem.W.kdv_tup [u])).push (PySem.HandSPX.excO C hp.objs.size)).objs.size = hp.objs.size + 2 := by rw [Heap.size_push, Heap.size_push]
      have bk := I1.bk
      refine ks_codeAny_call_defAt (fd := ksFn "__init__" qual params body scope dV kV doc pm an (.ref cda) ct cc) (body := body) (binds := [("self", .ref (hp.objs.size + 1)), (p, u)]) ((hr.make C [u] []).depth)
        (kk _ _ (I1.kIn _ _ T.fn)) rfl (I1.ok.mod.nolimit.keeps fun b o e => kk _ _ (bk b o e)) (PySem.W.codeRec_of (PySem.W.Frag.In.keeps I1.kIn kk) T.code) rfl (.of_eq (T.bind _ _)) T.s8 (fun z hz => ?_) (fun h₁ hns hk => ?_) T.s6 T.s7 T.s5
      · simp only [List.mem_cons, List.not_mem_nil, or_false] at hz
        rcases hz with rfl | rfl
        · exact T.s3
        · exact T.s4
      rw [sz] at hns
      have hL : callEnv (ksFn "__init__" qual params body scope dV kV doc pm an (.ref cda) ct cc) ((hp.push (PySem.W.kdv_tup [u])).push (PySem.HandSPX.excO C hp.objs.size)).objs.size fI = ksEnv qual scope (hp.objs.size + 2) fI (.ref cda) cc := by rw [sz]; rfl
      rw [hL]
      have F : Fr hp (hp.objs.size + 2) h₁ (fun x => [(("self" : Str), Value.ref (hp.objs.size + 1)), (p, u)].reverse.lookup x) := ⟨hns, fun b o q => hk _ _ (kk _ _ q), Nat.le_add_right _ _⟩
      have none1 : hp.get? (hp.objs.size + 1) = none := by
        cases c : hp.get? (hp.objs.size + 1) with
        | none => rfl
        | some o => exact absurd (Heap.lt_size c) (Nat.not_lt.mpr (Nat.le_succ _))
      have none0 : hp.get? hp.objs.size = none := by
        cases c : hp.get? hp.objs.size with
        | none => rfl
        | some o => exact absurd (Heap.lt_size c) (Nat.lt_irrefl _)
      have N : News hp (hp.objs.size + 2) h₁ [(hp.objs.size + 1, excObj C hp.objs.size none .none), (hp.objs.size, excTup [u])] := fun q hq => by
        simp only [List.mem_cons, List.not_mem_nil, or_false] at hq
        rcases hq with rfl | rfl
        · exact ⟨hk _ _ g1, by show (hp.objs.size + 1 : Nat) ≠ hp.objs.size + 2; omega, none1⟩
        · exact ⟨hk _ _ g2, by show (hp.objs.size : Nat) ≠ hp.objs.size + 2; omega, none0⟩
      have l1 : [(("self" : Str), Value.ref (hp.objs.size + 1)), (p, u)].reverse.lookup ("self" : Str) = some (.ref (hp.objs.size + 1)) := by
        have : (("self" : Str) == p) = false := by simpa using Ne.symm T.np
        simp [List.lookup, this]
      have l2 : [(("self" : Str), Value.ref (hp.objs.size + 1)), (p, u)].reverse.lookup p = some u := by simp [List.lookup]
      refine sup_body T hbody hev I1.ok.mod bk F N (Nat.succ_ne_self _) l1 l2 fun t' dx h' tk' FD gd gx ndx nd tk2 => ?_
      have keepO : ∀ b o, hp.get? b = some o → h'.get? b = some o := FD.keep
      obtain ⟨G, c1, c2⟩ := restrict h' fun b => decide (b ≠ hp.objs.size + 1)
      have gk : ∀ b, b ≠ hp.objs.size + 1 → G.get? b = h'.get? b := fun b hb => c1 b (decide_eq_true hb)
      have ge : G.get? (hp.objs.size + 1) = none := c2 _ (by simp)
      have n1 : H1 (hp.objs.size + 1) = none := I1.hok.gone none1
      have nH : H1 dx = none := I1.hok.gone nd
      have J := I1.laidN (h' := G) (a := dx) (o := .xd [(f, v)]) (t' := tk2) (fun b o q => (gk b fun e => by rw [e, none1] at q; cases q).trans (keepO b o q)) nd nH
        ⟨_, (one_ns (tk := tk') ((gk dx ndx).trans gd)), fun z => relO_put (fs := []) (mA := fun _ => none) ru (fun z => (show RelO none none from trivial)) z⟩
      refine ⟨rfl, hp.objs.size + 1, _, _, _, _, .ref C, some dx, rfl, J, fun b o q => ?_, ge, gx, ⟨rfl, rfl, fun vs e => by cases e; rfl⟩, rfl, rfl, ?_, rfl, I1.bare, raises_own T.subB T.tyC, q1 dx nH⟩
      · by_cases c : b = hp.objs.size + 1
        · rw [c, ge] at q; cases q
        · exact (gk b c).symm.trans q
      · rw [upd_ne (Ne.symm ndx)]; exact n1
/-! ### raise C(e), as a statement -/
structure SupAt (P : Program) (K : PySem.W.Frag) (mg : Str → Option Value) (y p f : Str) : Prop where
  ex : ∃ (C fI cc cda : Addr) (qual : Str) (params : Arguments) (body : List Stmt) (scope : Scope) (dV kV doc pm ct oc : Value) (an od : Option Addr) (osl : Array (Option Value)) (p0 p1 p2 p3 p4 p5 p6 p7 p8 p9 : Pos) (pl : Sem Bool),
    mg y = some (.ref C) ∧ SupF P K p f C fI cc cda qual params body scope dV kV doc pm ct oc an od osl ∧
    body = [.Expr (.Call (.Attribute (.Call (.Name "super" p0) [] [] p1) "__init__" p2) [.Name p p3] [] p4) p5, .Assign [.Attribute (.Name "self" p6) f p7] (.Name p p8) p9] ∧
    ∀ L, eval (.Call (.Attribute (.Call (.Name "super" p0) [] [] p1) "__init__" p2) [.Name p p3] [] p4) (ksEnv qual scope L fI (.ref cda) cc) = (do
      let ov ← attributeBase (.Call (.Name "super" p0) [] [] p1) "__init__" (ksEnv qual scope L fI (.ref cda) cc) (eval (.Call (.Name "super" p0) [] [] p1) (ksEnv qual scope L fI (.ref cda) cc))
      standAt p2.atName
      let (f, first) ← holding [ov] (getMethod ov "__init__" pl)
      callWith p4 f first (backTo p4 (starEach [.Name p p3] (ksEnv qual scope L fI (.ref cda) cc))) [])
def sRaise1 (x f : Str) (m : EM) : SM := fun env => Out.ofRes (m env) fun v e => match v with
  | .dat d => .ex ⟨x, [(f, d)]⟩ e
  | _ => .no
theorem ds_raise1 {y p f : Str} {pp : Bool} {e : Expr} {me : EM} {k : Nat} {q0 p2 pos : Pos} (hc : X.calm = true) (tk : L2N.Takes X g.W) (hr : Room k X.A) (hk : 1 ≤ k) (hmg : g.mg = X.mg) (R : SupAt X.prog X.K X.mg y p f) (hg : Gl X y) (he : DE X g pp e me)
    (hdb : (y == ("__debug__" : Str)) = false := by decide) (hs : starEach [e] X.env = (false, eval e X.env) :: starEach [] X.env := by rfl) : DS X g (.Raise (some (.Call (.Name y q0) [e] [] p2)) none pos) (sRaise1 y f me) := by
  obtain ⟨C, fI, cc, cda, qual, params, body, scope, dV, kV, doc, pm, ct, oc, an, od, osl, p0, p1, p2', p3, p4, p5, p6, p7, p8, p9, pl, gC, T, hbody, hev⟩ := R.ex
  obtain ⟨j, rfl⟩ : ∃ j, k = j + 1 := ⟨k - 1, by omega⟩
  refine PS.imp (L2N.ps_raise hc tk (pmk_sup T hbody hev hr gC hg he hdb hs)) fun D σ H ⟨Z, env, fps, s, h⟩ => ?_
  refine ⟨Z, env, fps, s, ?_⟩
  unfold sRaise1 at h
  cases em : me env with
  | no => rw [em] at h; exact h
  | ex x e1 => rw [em] at h; exact fun cls d Z1 H1 fps1 s1 z1 xr => h cls d Z1 σ H1 fps1 s1 z1 xr
  | ok x e1 =>
    rw [em, ofRes_ok] at h
    intro v Z1 H1 fps1 s1 z1 k1 r1
    cases x with
    | pl j q => exact h.elim
    | new t => exact h.elim
    | dat d =>
      intro dd nd
      have f1 : Fresh Z1 H1 (upd Z1 dd (.xd [(f, v)])) (upd H1 dd (.xd [(f, v)])) := .newZ s1.sub nd
      refine h (.ref C) (some dd) _ σ _ fps1 (s1.fresh f1) (z1.trans f1.z) ⟨C, rfl, hmg ▸ gC, .inr ⟨dd, [(f, v)], rfl, upd_same, fun f' u hu => ?_⟩⟩
      by_cases c : f' = f
      · subst c
        simp [List.lookup] at hu
        subst hu
        exact ⟨v, by simp [List.lookup], RD.mono f1.z r1⟩
      · have : (f' == f) = false := by simpa using c
        simp [List.lookup, this] at hu
end
end DL
namespace DL
open PySem PySem.Spec PyProof.Rows L2
/-! ### what the top says of error classes -/
inductive Fx where
  | exc (x : Str) | cls (x : Str) | isx (x y : Str) (b : Bool) | exm (x y : Str) | nof (x f : Str) | ini (x f file qual : Str)
def codeF (K : PySem.W.Frag) (a : Addr) : Addr := match K.lookup a with
  | some ⟨_, _, .func fd, _⟩ => (match fd.code with
    | .ref c => c
    | _ => 0)
  | _ => 0
def cellF (K : PySem.W.Frag) (a : Addr) : Addr := match K.lookup a with
  | some ⟨_, _, .func fd, _⟩ => (match fd.closure with
    | [(_, c)] => c
    | _ => 0)
  | _ => 0
def Fx.ok (K : PySem.W.Frag) : Fx → Bool
  | .exc x => PySem.W.excIn K (He.ga K x) exTl "Exception.__new__" && (PySem.W.keepIn K (.ref (He.ga K x)) && (decide (PySem.W.subIn K (.ref (He.ga K x)) (.type "BaseException") = some true) && decide (PySem.W.typeIn K (.ref (He.ga K x)) = some (.type "type"))))
  | .cls x => (PySem.W.clsIn K (He.ga K x)).isSome && (He.eqO (PySem.W.findIn K (.ref (He.ga K x)) "__getattribute__") (some (some (.builtin "BaseException.__getattribute__"))) && (He.eqO (PySem.W.findIn K (.ref (He.ga K x)) "__getattr__") (some none) &&
    (decide (PySem.W.subIn K (.ref (He.ga K x)) (.type "BaseException") = some true) && (He.eqO (PySem.W.findIn K (.ref (He.ga K x)) "__class__") (some (some (.builtin "object.__class__"))) && (He.eqO (PySem.W.specialIn K (.builtin "object.__class__") "__get__") (some (some (.builtin "getset_descriptor.__get__"))) &&
    (decide (PySem.W.takesIn K (.builtin "object.__class__") = some true) && (decide (PySem.W.mroIn K (He.ga K x) (.type "object") = some true) && PySem.W.hasDictIn K (He.ga K x))))))))
  | .isx x y b => decide (PySem.W.kitOne K (.ref (He.ga K x)) (.ref (He.ga K y)) = some b)
  | .exm x y => decide (PySem.W.exmOne K (.ref (He.ga K x)) (.ref (He.ga K y)) = some true)
  | .nof x f => He.eqO (PySem.W.findIn K (.ref (He.ga K x)) f) (some none)
  | .ini x f file qual => PySem.W.keepIn K (.ref (He.ga K x)) && (PySem.W.excInitIn K (He.ga K x) exTl "Exception.__new__" && (He.eqO (PySem.W.findIn K (.ref (He.ga K x)) "__init__") (some (some (.ref (He.ma K (He.ga K x) "__init__")))) &&
    (decide (PySem.W.typeIn K (.ref (He.ma K (He.ga K x) "__init__")) = some (.type "function")) && (PySem.W.codeIn K (.ref (codeF K (He.ma K (He.ga K x) "__init__"))) qual &&
    ((match K.lookup (cellF K (He.ma K (He.ga K x) "__init__")) with
      | some ⟨_, _, .cell (some (.ref c)), _⟩ => decide (c = He.ga K x)
      | _ => false) && ((match K.lookup (codeF K (He.ma K (He.ga K x) "__init__")) with
      | some ⟨_, _, .fields vs, _⟩ => (match vs.toList with
        | _ :: _ :: .str fl _ :: _ => decide (fl = file)
        | _ => false)
      | _ => false) && (He.eqO (PySem.W.nsIn K mainGlobals "super") (some none) && ((PySem.W.clsIn K (He.ga K x)).isSome && (decide (PySem.W.mroIn K (He.ga K x) (.ref (He.ga K x)) = some true) &&
    (He.eqO (PySem.W.ks_superIn K (He.ga K x) (He.ga K x) "__init__") (some (some (.builtin "Exception.__init__"))) && (decide (PySem.W.subIn K (.ref (He.ga K x)) (.type "Exception") = some true) && (He.eqO (PySem.W.nsIn K cStatics "thirdparty.any") (some none) &&
    (He.eqO (PySem.W.findIn K (.ref (He.ga K x)) "__setattr__") (some (some (.builtin "object.__setattr__"))) && (PySem.W.excOver K (He.ga K x) exTl && (He.eqO (PySem.W.takerIn K (He.ga K x) f) (some none) && (PySem.W.hasDictIn K (He.ga K x) &&
    (decide (PySem.W.subIn K (.ref (He.ga K x)) (.type "BaseException") = some true) && decide (PySem.W.typeIn K (.ref (He.ga K x)) = some (.type "type")))))))))))))))))))
/-- an __init__ as its text has it -/
structure InD where
  x : Str
  qual : Str
  params : Arguments
  body : List Stmt
  scope : Scope
abbrev InW : Type := Option (Str × Str × Arguments × FuncBody × Scope × Addr × List Str × Addr × Value × Bool)
def isRef : Value → Bool
  | .ref _ => true
  | _ => false
def inW (K : PySem.W.Frag) (d : InD) : InW := match K.lookup (He.ma K (He.ga K d.x) "__init__") with
  | some ⟨_, _, .func fd, _⟩ => some (fd.name, fd.qualname, fd.params, fd.body, fd.scope, fd.globals, fd.closure.map (·.1), fd.builtins, fd.defaults, isRef fd.code)
  | _ => none
def InD.val (d : InD) : InW := some ("__init__", d.qual, d.params, .stmts d.body, d.scope, mainGlobals, ["__class__"], builtinsNs, .none, true)
abbrev AlF : Type := He.AlD × Bool × List InW
structure SaysF (fa : List He.Fa) (fn : List He.DefD) (fx : List Fx) (il : List InD) (K : PySem.W.Frag) : Prop where
  d : He.SaysD fa fn K
  x : (fx.all fun f => f.ok K) = true
  i : il.map (inW K) = il.map InD.val
def obsF (fa : List He.Fa) (fn : List He.DefD) (fx : List Fx) (il : List InD) (K : PySem.W.Frag) : AlF := (He.obsD fa fn K, fx.all fun f => f.ok K, il.map (inW K))
def valF (fn : List He.DefD) (il : List InD) : AlF := (He.valD fn, true, il.map InD.val)
def obsFG (n : Nat) (fa : List He.Fa) (fn : List He.DefD) (fx : List Fx) (il : List InD) (g : Addr → Option Obj) : AlF := obsF fa fn fx il (frE g (cStatics :: He.asD g n))
def hookF (n : Nat) (fa : List He.Fa) (fn : List He.DefD) (fx : List Fx) (il : List InD) : PySem.W.Hook where
  α := AlF
  obs := fun s => obsFG n fa fn fx il s.heap.get?
  val := fun _ => valF fn il
  says := fun _ h => ∃ K : PySem.W.Frag, K.In h ∧ SaysF fa fn fx il K ∧ ∀ a o, K.lookup a = some o → notList o = true
  of := fun _ s e => ⟨_, fun a o q => frG_mem (frE_lookup q).1, ⟨congrArg (fun z : AlF => z.1) e, congrArg (fun z : AlF => z.2.1) e, congrArg (fun z : AlF => z.2.2) e⟩, fun a o q => (frE_lookup q).2⟩
  keeps := fun _ _ _ ⟨K, hK, c, nl⟩ k => ⟨K, PySem.W.Frag.In.keeps hK k, c, nl⟩
theorem obsFG_eq {n : Nat} {fa : List He.Fa} {fn : List He.DefD} {fx : List Fx} {il : List InD} {g : Addr → Option Obj} {s : Shared} (h : ∀ a, g a = s.heap.get? a) : obsFG n fa fn fx il g = (hookF n fa fn fx il).obs s := by
  have e : g = s.heap.get? := funext h
  rw [e] <;> rfl
section
variable {fa : List He.Fa} {fn : List He.DefD} {fx : List Fx} {il : List InD} {K : PySem.W.Frag} {mg : Str → Option Value} {h : Heap}
theorem SaysF.f1 (c : SaysF fa fn fx il K) (i : Nat) {f : Fx} (h : fx[i]? = some f) : f.ok K = true := List.all_eq_true.mp c.x f (List.mem_of_getElem? h)
theorem rz_at (KX : K.In h) (G : h.Ns mainGlobals mg) (c : SaysF fa fn fx il K) {x : Str} (i j : Nat) (hi : fa[i]? = some (.glo x)) (hj : fx[j]? = some (.exc x)) : RzOk K mg x := by
  have q := c.f1 j hj
  simp only [Fx.ok, Bool.and_eq_true, decide_eq_true_eq] at q
  exact ⟨_, He.glo_ok KX G (c.d.fact i hi), q.1, q.2.1, q.2.2.1, q.2.2.2⟩
theorem exk_at (c : SaysF fa fn fx il K) {x : Str} (j : Nat) (hj : fx[j]? = some (.cls x)) : ExK K (He.ga K x) := by
  have q := c.f1 j hj
  simp only [Fx.ok, Bool.and_eq_true, decide_eq_true_eq] at q
  obtain ⟨q1, q2, q3, q4, q5, q6, q7, q8, q9⟩ := q
  exact ⟨q1, He.eqO_ok q2, He.eqO_ok q3, q4, He.eqO_ok q5, He.eqO_ok q6, q7, q8, q9⟩
theorem isx_at (KX : K.In h) (G : h.Ns mainGlobals mg) (c : SaysF fa fn fx il K) {tab : List Str} {y : Str} (i : Nat) (hi : fa[i]? = some (.glo y))
    (hT : ∀ x ∈ tab, ∃ i j l : Nat, fa[i]? = some (He.Fa.glo x) ∧ fx[j]? = some (Fx.cls x) ∧ fx[l]? = some (Fx.isx x y (isxB x y))) : IsxOk K mg tab y := by
  refine ⟨_, He.glo_ok KX G (c.d.fact i hi), fun x hx D hD => ?_⟩
  obtain ⟨i1, j1, l1, t1, t2, t3⟩ := hT x hx
  have g1 := He.glo_ok KX G (c.d.fact i1 t1)
  rw [g1] at hD
  cases hD
  have q := c.f1 l1 t3
  simp only [Fx.ok, decide_eq_true_eq] at q
  exact ⟨exk_at c j1 t2, q⟩
theorem fdx_at (KX : K.In h) (G : h.Ns mainGlobals mg) (c : SaysF fa fn fx il K) {tab : List Str} {f : Str} (hT : ∀ x ∈ tab, ∃ i j l : Nat, fa[i]? = some (He.Fa.glo x) ∧ fx[j]? = some (Fx.cls x) ∧ fx[l]? = some (Fx.nof x f)) : FdxOk K mg tab f := by
  refine ⟨fun x hx D hD => ?_⟩
  obtain ⟨i1, j1, l1, t1, t2, t3⟩ := hT x hx
  have g1 := He.glo_ok KX G (c.d.fact i1 t1)
  rw [g1] at hD
  cases hD
  have q := c.f1 l1 t3
  simp only [Fx.ok] at q
  exact ⟨exk_at c j1 t2, He.eqO_ok q⟩
/-- what a clause takes -/
structure TakOk (K : PySem.W.Frag) (mg : Str → Option Value) (tab : List Str) (y : Str) : Prop where
  ex : ∃ C, mg y = some (.ref C) ∧ ∀ c ∈ tab, ∀ D, mg c = some (.ref D) → PySem.W.exmOne K (.ref D) (.ref C) = some true
theorem tak_at (KX : K.In h) (G : h.Ns mainGlobals mg) (c : SaysF fa fn fx il K) {tab : List Str} {y : Str} (i : Nat) (hi : fa[i]? = some (.glo y)) (hT : ∀ x ∈ tab, ∃ i l : Nat, fa[i]? = some (He.Fa.glo x) ∧ fx[l]? = some (Fx.exm x y)) : TakOk K mg tab y := by
  refine ⟨_, He.glo_ok KX G (c.d.fact i hi), fun x hx D hD => ?_⟩
  obtain ⟨i1, l1, t1, t3⟩ := hT x hx
  have g1 := He.glo_ok KX G (c.d.fact i1 t1)
  rw [g1] at hD
  cases hD
  have q := c.f1 l1 t3
  simpa only [Fx.ok, decide_eq_true_eq] using q
theorem forall_nil {P : Str → Prop} : ∀ x ∈ ([] : List Str), P x := fun _ h => nomatch h
theorem forall_cons {P : Str → Prop} {a : Str} {l : List Str} (h : P a) (k : ∀ x ∈ l, P x) : ∀ x ∈ a :: l, P x := fun x hx => by
  rcases List.mem_cons.mp hx with rfl | hx
  · exact h
  · exact k x hx
theorem in_at (c : SaysF fa fn fx il K) (i : Nat) {d : InD} (h : il[i]? = some d) : inW K d = d.val := by
  have e := congrArg (fun l => l[i]?) c.i
  simp only [List.getElem?_map, h, Option.map_some, Option.some.injEq] at e
  exact e
open PySem.W in
theorem sup_at {P : Program} (KX : K.In h) (G : h.Ns mainGlobals mg) (c : SaysF fa fn fx il K) {y p f file : Str} {d : InD} (i j k : Nat) (hi : fa[i]? = some (.glo y)) (hj : fx[j]? = some (.ini y f file d.qual)) (hk : il[k]? = some d) (dx : d.x = y)
    (hfile : ((P.main.file : Str) == file) = true) (htop : (P.main.scope.names.lookup ("super" : Str)).isSome = false) {p0 p1 p2 p3 p4 p5 p6 p7 p8 p9 : Pos} {pl : Sem Bool}
    (hbody : d.body = [.Expr (.Call (.Attribute (.Call (.Name "super" p0) [] [] p1) "__init__" p2) [.Name p p3] [] p4) p5, .Assign [.Attribute (.Name "self" p6) f p7] (.Name p p8) p9])
    (hev : ∀ (fI cda cc L : Addr), eval (.Call (.Attribute (.Call (.Name "super" p0) [] [] p1) "__init__" p2) [.Name p p3] [] p4) (ksEnv d.qual d.scope L fI (.ref cda) cc) = (do
      let ov ← attributeBase (.Call (.Name "super" p0) [] [] p1) "__init__" (ksEnv d.qual d.scope L fI (.ref cda) cc) (eval (.Call (.Name "super" p0) [] [] p1) (ksEnv d.qual d.scope L fI (.ref cda) cc))
      standAt p2.atName
      let (f, first) ← holding [ov] (getMethod ov "__init__" pl)
      callWith p4 f first (backTo p4 (starEach [.Name p p3] (ksEnv d.qual d.scope L fI (.ref cda) cc))) []))
    (s1 : d.scope.names.lookup ("super" : Str) = some .globalImplicit) (s2 : d.scope.names.lookup ("__class__" : Str) = some .free) (s3 : d.scope.names.lookup ("self" : Str) = some .local) (s4 : d.scope.names.lookup p = some .local) (s5 : d.scope.kind = .function)
    (s6 : d.scope.isCoroutine = false) (s7 : d.scope.isGenerator = false) (s8 : ∀ x ∈ d.scope.names, x.2 ≠ .cell) (ps : ∃ ar, (d.params.posonlyargs ++ d.params.args).head? = some ar ∧ ar.arg = "self") (np : p ≠ "self") (nd : (p == ("__debug__" : Str)) = false)
    (hbind : ∀ (kV doc pm ct : Value) (an : Option Addr) (cda cc : Addr) (a b : Value), bindArgs (ksFn "__init__" d.qual d.params d.body d.scope .none kV doc pm an (.ref cda) ct cc) ⟨[a, b], []⟩ = pure ([(("self" : Str), a), (p, b)] : List (Str × Value))) :
    SupAt P K mg y p f := by
  have q := c.f1 j hj
  have e := in_at c k hk
  unfold inW at e
  rw [dx] at e
  simp only [Fx.ok, Bool.and_eq_true, decide_eq_true_eq] at q
  obtain ⟨q1, q2, q3, q4, q5, q6, q7, q8, q9, q10, q11, q12, q13, q14, q15, q16, q17, q18, q19⟩ := q
  split at e
  · rename_i oc od fd osl hf
    obtain ⟨n1, n2, n3, n4, n5, n6, n7, n8, n9, n10, n11, n12, n13, n14, n15⟩ := fd
    simp only [InD.val, Option.some.injEq, Prod.mk.injEq] at e
    obtain ⟨e1, e2, e3, e4, e5, e6, e7, e8, e9, e10⟩ := e
    subst e1 e2 e3 e4 e5 e6 e8 e9
    obtain ⟨cda, rfl⟩ : ∃ cda, n13 = .ref cda := by
      cases n13 <;> first | exact ⟨_, rfl⟩ | (simp [isRef] at e10)
    obtain ⟨cc, rfl⟩ : ∃ cc, n7 = [(("__class__" : Str), cc)] := by
      match n7, e7 with
      | [(a, cc)], e7 => simp at e7; exact ⟨cc, by rw [e7]⟩
    have hc1 : codeF K (He.ma K (He.ga K y) "__init__") = cda := by unfold codeF; rw [hf]
    have hc2 : cellF K (He.ma K (He.ga K y) "__init__") = cc := by unfold cellF; rw [hf]
    rw [hc1] at q5 q7
    rw [hc2] at q6
    refine ⟨He.ga K y, He.ma K (He.ga K y) "__init__", cc, cda, d.qual, d.params, d.body, d.scope, .none, n9, n10, n11, n14, oc, n12, od, osl, p0, p1, p2, p3, p4, p5, p6, p7, p8, p9, pl, He.glo_ok KX G (c.d.fact i hi), ?_, hbody, hev _ _ _⟩
    refine ⟨q1, q2, He.eqO_ok q3, q4, hf, q5, ?_, ?_, htop, He.eqO_ok q8, Option.isSome_iff_exists.mp q9, q10, He.eqO_ok q11, q12, He.eqO_ok q13, He.eqO_ok q14, q15, He.eqO_ok q16, q17, q18, q19, s1, s2, s3, s4, s5, s6, s7, s8, ps, np, nd, hbind _ _ _ _ _ _ _⟩
    · split at q6
      · rename_i o1 o2 c' o3 hl
        have q6 := of_decide_eq_true q6
        subst q6
        exact ⟨_, _, _, hl⟩
      · cases q6
    · split at q7
      · rename_i o1 o2 vs o3 hl
        split at q7
        · rename_i a1 a2 fl tf a3 hv
          have q7 := of_decide_eq_true q7
          subst q7
          refine ⟨_, _, vs, _, fl, tf, hl, ?_, hfile⟩
          rw [← Array.getElem?_toList, hv]
          rfl
        · cases q7
      · cases q7
  · cases e
end
section
variable {X : Cx} {g : Gx}
theorem ds_tryT {tab : List Str} {i : Nat} {x n : Str} {body suite : List Stmt} {b₀ : Stmt} {np pos pos' : Pos} {mb ms : SM} (T : TakOk X.K X.mg tab x) {k : Nat} (hr : Room k X.A) (hg : Gl X x) (hs : X.stack = X.env :: X.outer) (hf : X.env.frame = some X.env.locals) (hex : X.ex = []) (hN : X.N.Nodup) (hi : X.N[i]? = some n) (hln : X.env.kindOf n = some .local) (hp : i ∉ g.pins) (hmg : g.mg = X.mg)
    (hb : ∀ (W : WX) (pn : List (Addr × Obj)) (xe : Value → Shared → Prop), L2N.Takes (X.tr pn xe) W → PassesOwn (model X.prog X.w) X.A X.env xe → DSs (X.tr pn xe) (g.wish W) body mb)
    (hsu : ∀ (a : Addr) (oe : Obj) (pn : List (Addr × Obj)), HotX (sui X a oe pn) → L2H.RoomH k (sui X a oe pn).A → L2N.Takes (sui X a oe pn) (fun _ _ _ _ => False) → PassesOwn (model X.prog X.w) (sui X a oe pn).A X.env (fun _ _ => False) → DSs (sui X a oe pn) (g.wish fun _ _ _ _ => False) (b₀ :: suite) ms)
    (hdb : (x == ("__debug__" : Str)) = false := by decide) : DS X g (.Try body [.ExceptHandler (some (.Name x np)) (some n) (b₀ :: suite) pos'] [] [] pos) (sTry tab i mb ms) := by
  obtain ⟨C, h1, h2⟩ := T.ex
  exact ds_try hs hf hex hN hi hln hp hmg ⟨hg, hdb, .inl h1⟩ h2 hb fun a oe pn hot tk hp => hsu a oe pn hot ⟨hr.dp, hr.un⟩ tk hp
end
/-! ### the law's end over this hook -/
theorem law_endF {l : PySem.W.OpenLaw} {k : Nat} {q : Program} {loose : List Str} {n : Nat} {fa : List He.Fa} {fn : List He.DefD} {fx : List Fx} {il : List InD} {d : DefRec} {fm : FM} {XP : (Str → Option Value) → Heap → Prop} (hn : l.most = some 63) (hdf : d.params.defaults = []) (hr : Room k callerA) (hd : d.name = ("law" : Str))
    (F : ∀ (w : World) (K : PySem.W.Frag) (mg : Str → Option Value) (h : Heap), K.In h → h.Ns mainGlobals mg → SaysF fa fn fx il K → ∃ f fd, mg "law" = some (.ref f) ∧ (∀ (s : Shared) (v : Value), BindsTo s fd ⟨[v], []⟩ [("script", v)]) ∧
      ∀ base : Heap, K.In base → base.Ns mainGlobals mg → FnOk l.prog w K mg base (L2N.CX l.prog w) k f fd ["script"] (spF mg 1 fm))
    (hm : ∀ ns : List Int, ns.length ≤ 63 → fm [.dat (.scr ns)] = .ok (.dat (.bl true)) []) :
    PySem.W.WalkO q loose XP (hookF n fa fn fx il).says l.row.toRowW d [] (fun f vs => PySem.call f vs) := by
  refine L2.walk_ofE (l := l) (n := 63) (k := k) (x := "script") (CX := L2.CX0) hn (by decide) hdf hr ?_ (fun _ _ _ _ z => z)
  intro w mg f h Y G hmg
  obtain ⟨K, KX, c, nl⟩ := Y
  obtain ⟨f', fd, h1, h2, h3⟩ := F w K mg h KX G c
  rw [hd, h1] at hmg
  cases hmg
  exact ⟨K, fd, fun vs H Q _ => spF mg 1 fm vs H Q fun _ _ _ => False, KX, h2, fun H a ns hl hO hS => law_sp nl (hm ns hl) hO hS, fun base KB GB => nothing_out (h3 base KB GB)⟩
theorem law_endFG {l : PySem.W.OpenLaw} {k : Nat} {q : Program} {loose : List Str} {n : Nat} {fa : List He.Fa} {fn : List He.DefD} {fx : List Fx} {il : List InD} {d : DefRec} {fm : FM} {XP : (Str → Option Value) → Heap → Prop} (hn : l.most = some 63) (hdf : d.params.defaults = []) (hr : Room k callerA) (hd : d.name = ("law" : Str))
    (F : ∀ (w : World) (K : PySem.W.Frag) (mg : Str → Option Value) (h : Heap), K.In h → h.Ns mainGlobals mg → SaysF fa fn fx il K → ∃ f fd, mg "law" = some (.ref f) ∧ (∀ (s : Shared) (v : Value), BindsTo s fd ⟨[v], []⟩ [("script", v)]) ∧
      ∀ base : Heap, K.In base → base.Ns mainGlobals mg → FnG l.prog w K mg base (L2N.CX l.prog w) k f fd ["script"] (spF mg 1 fm))
    (hm : ∀ ns : List Int, ns.length ≤ 63 → fm [.dat (.scr ns)] = .ok (.dat (.bl true)) []) :
    PySem.W.WalkO q loose XP (hookF n fa fn fx il).says l.row.toRowW d [] (fun f vs => PySem.call f vs) := by
  refine Att.attach_call hn hdf fun w s₀ s₁ mg mb f o pm cd doc a vs ns G Y ho hd' hcd hmg hobj hints hlen hg => ?_
  obtain ⟨K, KX, c, nl⟩ := Y
  obtain ⟨f', fd, h1, h2, h3⟩ := F w K mg _ KX G.T.g c
  rw [hd, h1] at hmg
  cases hmg
  refine law_callG (x := "script") (sp := spF mg 1 fm) KX G.T.g G.T.b G.T.builtins G.T.nolimit hg hobj hints (Nat.le_trans hlen (by rw [sizeLine_eq]; omega)) hr ?_ (fun base KB GB => h3 base KB GB) h2 (fun H hO hS => law_sp nl (hm ns hlen) hO hS) fun H e s' h => ?_
  · cases hk : K.lookup a with
    | none => rfl
    | some o =>
      have e := KX a o hk
      have z := nl a o hk
      rw [hobj] at e
      rw [← Option.some.inj e] at z
      cases z
  · obtain ⟨_, _, _, _, _, _, _, _, _, _, _, _, z⟩ := h
    exact z.elim
end DL
namespace DL
open PySem PySem.Spec PyProof.Rows L2
/-! ### defs that are called while an error is handled -/
def HotS (A : Around) (H : Hp) : Prop := ∃ (a : Addr) (oe : Obj) (vs : Array Value), A.handled = some (.ref a) ∧ H a = some (xo oe) ∧ oe.data = .fields vs ∧ vs[2]? = some .none
structure FnT (P : Program) (w : World) (K : PySem.W.Frag) (mg : Str → Option Value) (base : Heap) (CX : CXT) (k : Nat) (f : Addr) (fd : FuncData) (ps : List Str) (sp : Sp) : Prop where
  len : ∀ vs H Q E, sp vs H Q E → vs.length = ps.length
  run : ∀ (A : Around) (outer : List Env) (s : Shared) (H : Hp) (args : Args) (us : List Value) (vs : List V) (Q : VK) (E : XK), L2H.RoomH k A → HotS A H → Env0 P w K mg base A outer s H → BindsTo s fd args (ps.zip us) → Vals vs us → sp vs H Q E →
    codeAny (model P w) A (.call (.ref f) args) (CR CX outer P w H s Q E) s
/-- the context of its body -/
abbrev cxT (CX : CXT) (P : Program) (w : World) (K : PySem.W.Frag) (mg : Str → Option Value) (base : Heap) (N : List Str) (qual : Str) (scope : Scope) (f : Addr) (cd : Value) (A : Around) (outer : List Env) (s : Shared) (H : Hp) (E : XK) : Cx :=
  { cxOf CX P w K mg base N qual scope f cd A outer s H E with calm := false }
section
variable {P : Program} {w : World} {K : PySem.W.Frag} {mg : Str → Option Value} {base : Heap} {CX : CXT}
theorem inv_startT {N ps : List Str} {qual : Str} {scope : Scope} {f : Addr} {cd : Value} {A : Around} {outer : List Env} {s s1 : Shared} {H : Hp} {E : XK} {us : List Value} {vs : List V}
    (S : FnScope N ps scope) (e0 : Env0 P w K mg base A outer s H) (hl : vs.length = ps.length) (r : Vals vs us)
    (x : InCallC s s.heap.objs.size (bindL (envOfC qual scope s.heap.objs.size f cd).kindOf (ps.zip us) fun _ => none) (cellsFrom (s.heap.objs.size + 1) scope.names []) (bindC (envOfC qual scope s.heap.objs.size f cd).kindOf (ps.zip us) fun _ => none) s1) :
    Inv (cxT CX P w K mg base N qual scope f cd A outer s H E) [] (start N vs) H s1 := by
  have e1 : Env0 P w K mg base { A with handled := none } outer s H := { e0 with frames := e0.frames }
  have I := inv_start (CX := CX) (E := E) S (A := { A with handled := none }) rfl e1 hl r x
  exact { I with ok := { I.ok with hd := fun z => Bool.noConfusion (show false = true from z), frames := Around.frames_deeper e0.frames } }
theorem fnT_of {k : Nat} {f : Addr} {x qual : Str} {params : Arguments} {body : List Stmt} {scope : Scope} {fd : FuncData} {N ps : List Str} {sp : Sp} (F : FunD K x qual params body scope [] [] f fd) (S : FnScope N ps scope)
    (len : ∀ vs H Q E, sp vs H Q E → vs.length = ps.length)
    (hbody : ∀ (cdv : Value) (A : Around) (outer : List Env) (s : Shared) (H : Hp) (vs : List V) (Q : VK) (E : XK), L2H.RoomH k (A.deeper (envOfC qual scope s.heap.objs.size f cdv)) → HotX (cxT CX P w K mg base N qual scope f cdv A outer s H E) → sp vs H Q E →
      ∃ t, PSs (cxT CX P w K mg base N qual scope f cdv A outer s H E) body t ∧ t { nx := fun _ H' => Q .non H', rt := Q } (start N vs) H) :
    FnT P w K mg base CX (k + 1) f fd ps sp := by
  obtain ⟨oc, od, dV, kV, doc, pm, an, cdv, ct, osl, rfl, lk, hcd, _, _⟩ := F.ex
  refine ⟨len, fun A outer s H args us vs Q E hr hot e0 hb r hsp => ?_⟩
  have hl := len _ _ _ _ hsp
  have KX : K.In s.heap := e0.mod.kin.keeps fun b o e => (e0.bs b o e).1
  have hkind : ∀ y ∈ ps.zip us, scope.names.lookup y.1 = some .local ∨ (scope.names.lookup y.1 = some .cell ∧ ((cellsFrom (s.heap.objs.size + 1) scope.names []).lookup y.1).isSome = true) := fun ⟨n, v⟩ hy => by
    rcases S.par n (List.of_mem_zip hy).1 with q | q
    · exact .inl q
    · exact .inr ⟨q, PySem.W.cellsFrom_some _ _ _ (.inl q)⟩
  refine codeAny_call_function hr.depth (KX _ _ lk) rfl S.co S.gen rfl (PySem.W.codeRec_of KX hcd) (hb _ _ _ _ ?_)
  refine wpAny_newFunctionEnv_cells S.kind hkind fun env he s1 x => ?_
  subst he
  refine ⟨(e0.mod.nolimit.keeps fun b o e => (e0.bs b o e).1).keeps x.toInCall.keep, codeAny_func ?_⟩
  obtain ⟨a, oe, vs1, h1, h2, h3, h4⟩ := hot
  obtain ⟨t, ht, hq⟩ := hbody cdv A outer s H vs Q E (hr.deeper _) ⟨a, oe, vs1, h1, h2, h3, h4⟩ hsp
  refine wpAny_mono (ht.run [] s1 (start N vs) H _ (inv_startT S e0 hl r x) hq) (fun fl s' hs => ?_) fun e s' hs => hs
  cases fl with
  | ret u => obtain ⟨v, σ', H', J, rv, q⟩ := hs; exact ⟨v, H', J.os, J.bare, J.base, J.hok, rv, q⟩
  | next => obtain ⟨σ', H', J, q⟩ := hs; exact ⟨.non, H', J.os, J.bare, J.base, J.hok, rfl, q⟩
  | brk => obtain ⟨_, _, _, q⟩ := hs; exact q.elim
  | cont => obtain ⟨_, _, _, q⟩ := hs; exact q.elim
theorem fn_mirrorT {x qual : Str} {params : Arguments} {body : List Stmt} {scope : Scope} {f : Addr} {fd : FuncData} {N ps : List Str} {k : Nat} {fixed : List Nat} {m : SM} (F : FunD K x qual params body scope [] [] f fd) (SC : FnScope N ps scope) (hps : ps.length ≤ N.length) (hfx : ∀ i ∈ fixed, i < ps.length)
    (hb : ∀ (cdv : Value) (A : Around) (outer : List Env) (s : Shared) (H : Hp) (n : En) (E : XK), L2H.RoomH k (A.deeper (envOfC qual scope s.heap.objs.size f cdv)) → HotX (cxT (L2N.CX P w) P w K mg base N qual scope f cdv A outer s H E) →
      DSs (cxT (L2N.CX P w) P w K mg base N qual scope f cdv A outer s H E) ⟨mg, fixed, n, fun cls d _ H => E cls d H⟩ body m) :
    FnT P w K mg base (L2N.CX P w) (k + 1) f fd ps (spF mg ps.length (runF N.length ps.length fixed m)) := by
  refine fnT_of F SC (fun vs H Q E h => h.1) fun cdv A outer s H vs Q E hr hot ⟨hvl, Z, as, fps, Fp, h0, hF, po⟩ => ⟨_, hb cdv A outer s H ⟨Z, H, Fp, vs⟩ E hr hot, ?_⟩
  have hl : as.length = vs.length := by have := h0.len; rw [List.length_map] at this; exact this.symm
  unfold runF at po
  split at po
  case isFalse => exact po.elim
  rename_i hc
  have hfix : ∀ (i : Nat) (t : O), as[i]? = some (S.own t) → i ∈ fixed := fun i t e => by
    have hi : i < as.length := (List.getElem?_eq_some_iff.mp e).1
    refine hc.2 i (by omega) ?_
    rw [List.getD_eq_getElem?_getD, e]
    rfl
  have s0 : StR ⟨mg, fixed, ⟨Z, H, Fp, vs⟩, fun cls d _ H => E cls d H⟩ Z (as ++ List.replicate (N.length - ps.length) .un) (L2.start N vs) H fps := by
    have := h0.start (N := N) (pins := fixed) (W := fun cls d _ H => E cls d H) (by omega) fun i hi => by rw [hvl]; exact hfx i hi
    rw [hvl] at this
    exact this
  refine ⟨Z, _, fps, s0, ?_⟩
  have fin : ∀ {r : Ev} {e : Ve} {v : V} {Z' H' : Hp} {σ' : L2.St} {fps' : Nat → List Addr}, PostF mg Z H Fp vs as Q E (finF as r e) → StR ⟨mg, fixed, ⟨Z, H, Fp, vs⟩, fun cls d _ H => E cls d H⟩ Z' e σ' H' fps' → EvR ⟨mg, fixed, ⟨Z, H, Fp, vs⟩, fun cls d _ H => E cls d H⟩ Z' H' σ' fps' v r → Q v H' :=
    fun {r e v Z' H' σ' fps'} po s' re => by
      unfold finF at po
      split at po
      · rename_i d bs hb
        exact po v Z' H' _ (h0.leave s' rfl rfl hfix hb) re
      · rename_i t bs hb
        obtain ⟨fp, r1, r2, r3⟩ := re
        refine po v Z' H' _ (h0.leave s' rfl rfl hfix hb) ⟨fp, r1, r2, fun a m => ⟨(r3 a m).1, fun i mi => ?_, (r3 a m).2.2⟩⟩
        refine (r3 a m).2.1 i ?_
        simp only at mi
        split at mi
        · exact mi
        · cases mi
      · exact po.elim
  cases em : m (as ++ List.replicate (N.length - ps.length) .un) with
  | no => rw [em] at po; exact po
  | bk e => rw [em] at po; exact po.elim
  | ct e => rw [em] at po; exact po.elim
  | nx e => rw [em] at po; exact fun Z' σ' H' fps' s' _ => fin po s' .non
  | rt r e => rw [em] at po; exact fun v Z' σ' H' fps' s' _ re => fin po s' re
  | ex x e =>
    rw [em] at po
    intro cls d Z' σ' H' fps' s' _ xr
    simp only at po
    split at po
    · rename_i bs hb
      exact po cls d Z' H' _ (h0.leave s' rfl rfl hfix hb) xr
    · exact po.elim
end
section
variable {X : Cx}
theorem HotX.at {pins : List (Addr × Obj)} {σ : L2.St} {H : Hp} {s : Shared} (h : HotX X) (I : Inv X pins σ H s) : HotS X.A H := by
  obtain ⟨a, oe, vs, h1, h2, h3, h4⟩ := h
  exact ⟨a, oe, vs, h1, I.base.frzs _ _ _ h2, h3, h4⟩
theorem unitsT {k : Nat} {A : Around} (h : L2H.RoomH k A) : A.units + 64 < cLine := by have := h.un; omega
theorem unitsT5 {k : Nat} {A : Around} (h : L2H.RoomH k A) : A.units + 65 < cLine := by have := h.un; omega
end
section
variable {P : Program} {w : World} {K : PySem.W.Frag} {mg : Str → Option Value} {base : Heap}
structure FnAtT (P : Program) (w : World) (K : PySem.W.Frag) (mg : Str → Option Value) (base : Heap) (k : Nat) (x : Str) (ps : List Str) (np : Nat) (fm : FM) : Prop where
  ex : ∃ f fd, FnT P w K mg base (L2N.CX P w) k f fd ps (spF mg np fm) ∧ mg x = some (.ref f) ∧ PySem.W.keepIn K (.ref f) = true ∧ Binds K fd ps []
theorem fn_atT {x : Str} {ps N : List Str} {st : Stmt} {k : Nat} {fixed : List Nat} {m : SM} (F : DefAt K mg x ps st) (SC : FnScope N ps (defScope st)) (hps : ps.length ≤ N.length) (hfx : ∀ i ∈ fixed, i < ps.length)
    (hb : ∀ (f : Addr) (cdv : Value) (A : Around) (outer : List Env) (s : Shared) (H : Hp) (n : En) (E : XK), L2H.RoomH k (A.deeper (envOfC x (defScope st) s.heap.objs.size f cdv)) → HotX (cxT (L2N.CX P w) P w K mg base N x (defScope st) f cdv A outer s H E) →
      DSs (cxT (L2N.CX P w) P w K mg base N x (defScope st) f cdv A outer s H E) ⟨mg, fixed, n, fun cls d _ H => E cls d H⟩ (defBody st) m) :
    FnAtT P w K mg base (k + 1) x ps ps.length (runF N.length ps.length fixed m) := by
  obtain ⟨f, fd, h1, h2, h3⟩ := F.ex
  exact ⟨f, fd, fn_mirrorT h1 SC hps hfx (hb f), h2, h1.kp, h3⟩
end
/-! ### the call of such a def -/
section
variable {X : Cx} {g : Gx}
theorem run_fnT {CX : CXT} {k : Nat} {f : Addr} {fd : FuncData} {ps : List Str} {sp : Sp} {E : L2.St → XK} {pins : List (Addr × Obj)} {σ : L2.St} {H : Hp} {s : Shared} {Q : VK} {us : List Value} {vs : List V} (F : FnT X.prog X.w X.K X.mg X.base CX k f fd ps sp) (hr : L2H.RoomH k X.A) (hot : HotX X) (hb : Binds X.K fd ps []) (hx : PassesAt CX X σ (E σ))
    (I : Inv X pins σ H s) (r : Vals vs us) (h : sp vs H Q (E σ)) : wpAny (model X.prog X.w) X.A (call (.ref f) us) (EP X pins σ Q) X.xe s := by
  have hl : us.length = ps.length := by rw [← r.length]; exact F.len _ _ _ _ h
  refine wpAny_call (codeAny_mono (F.run X.A X.stack s H ⟨us, []⟩ us vs Q (E σ) hr (hot.at I) I.env0 (by simpa using hb s us I.kIn (by simpa using hl)) r h) fun r s' hq => ?_)
  cases r with
  | error e => exact hx pins H s e s' I hq
  | ok fl =>
    cases fl with
    | ret u => exact I.after hq
    | next => exact False.elim hq
    | brk => exact False.elim hq
    | cont => exact False.elim hq
theorem pe_callT {CX : CXT} {k : Nat} {f : Addr} {fd : FuncData} {ps : List Str} {sp : Sp} {E : L2.St → XK} {x : Str} {p pos : Pos} {e : Expr} {es : List Expr} {t : TA} (F : FnT X.prog X.w X.K X.mg X.base CX k f fd ps sp) (hr : L2H.RoomH k X.A) (hot : HotX X) (hg : Gl X x) (hm : X.mg x = some (.ref f)) (hk : PySem.W.keepIn X.K (.ref f) = true) (hb : Binds X.K fd ps []) (hx : ∀ σ, PassesAt CX X σ (E σ))
    (ha : PA X (e :: es) t) (hdb : (x == ("__debug__" : Str)) = false := by decide) (he : starEach (e :: es) X.env = (false, eval e X.env) :: starEach es X.env := by rfl) (hpl : (backTo pos (starEach es X.env)).any (·.1) = false := by rfl) :
    PE X (.Call (.Name x p) (e :: es) [] pos) (tCallS sp E t) := by
  refine ⟨fun pins s σ H Q I h => ?_⟩
  refine wpAny_Call_Name_kw (ld_glob I hg hm ?_ hdb)
  refine PySem.W.callWith_K (h₀ := X.base) I.ok.mod.kin hk (thn (ha.run pos pins s σ H _ I h) fun us s1 ⟨vs, H1, I1, r, q⟩ => ⟨I1.kIn, ?_⟩) he hpl
  exact run_fnT F hr hot hb (hx σ) I1 r q
theorem de_fnT {k j np : Nat} {x : Str} {ps : List Str} {fm : FM} {p : Bool} {e : Expr} {es : List Expr} {ma : AM} {ps' pos : Pos} (F : FnAtT X.prog X.w X.K X.mg X.base k x ps np fm) (hr : L2H.RoomH j X.A) (hot : HotX X) (hkj : k ≤ j) (hmg : g.mg = X.mg) (hg : Gl X x) (tk : L2N.Takes X g.W) (ha : DA X g p (e :: es) ma)
    (hdb : (x == ("__debug__" : Str)) = false := by decide) (he : starEach (e :: es) X.env = (false, eval e X.env) :: starEach es X.env := by rfl) (hpl : (backTo pos (starEach es X.env)).any (·.1) = false := by rfl) :
    DE X g false (.Call (.Name x ps') (e :: es) [] pos) (eFn np fm ma) := by
  obtain ⟨f, fd, h1, h2, h3, h4⟩ := F.ex
  refine PE.imp (pe_callT h1 (hr.mono hkj) hot hg h2 h3 h4 (fun σ => L2N.passAt tk σ) ha hdb he hpl) fun σ H Q h => ?_
  have := fn_run (p := p) h
  rw [hmg] at this
  exact this
end
end DL
namespace DL
open PySem PySem.Spec PyProof.Rows L2 _root_.HotX
/-! ### iterators that end while an error is handled -/
section
variable {prog : Program} {w : World} {A : Around} {E : Value → Shared → Prop} {s : Shared}
theorem list_end_hot {it l x1 : Addr} {i : Nat} {items : Array Value} {Q : Option Value → Shared → Prop} (hot : HotAt A x1 s.heap) (ne : x1 ≠ it) (hit : s.heap.IsListIter it l i) (hl : s.heap.IsList l items) (hx : items[i]? = none)
    (hQ : ∀ h', Heap.ExtBut it s.heap h' → Q none { s with heap := h' }) : wpAny (model prog w) A (pyNext (.ref it)) Q E s := by
  obtain ⟨hh, o1, vs1, h1, d1, c1⟩ := hot
  obtain ⟨o, ho, hc, hd⟩ := id hit
  obtain ⟨ol, hol, _, nl, hdl⟩ := hl
  unfold pyNext
  refine wpAny_bind (wpAny_attempt (wpAny_callSpecial?_slot (name := Str.ofString "__next__") hit.typeIs slot_listiter_next (wpAny_call_entry slot_listiter_next hit.typeIs entry_listiter_next ?_ (args_listiter_next _))))
  show wpAny _ _ (field (.ref it) 0 >>= _) _ _ s
  refine wpAny_bind (wpAny_field ho hd (x := .ref l) rfl ?_)
  show wpAny _ _ (if (Value.ref l == Value.none) = true then _ else _) _ _ s
  rw [if_neg (show ¬ ((Value.ref l == Value.none) = true) from Bool.false_ne_true)]
  show wpAny _ _ (field (.ref it) 1 >>= _) _ _ s
  refine wpAny_bind (wpAny_field ho hd (x := .int i 0) rfl ?_)
  show wpAny _ _ (seqItems? (.ref l) >>= _) _ _ s
  refine wpAny_bind (wpAny_seqItems hol hdl ?_)
  simp only [Int.toNat_natCast, hx]
  refine wpAny_bind (wpAny_rule (wpAny_bind (wpAny_setField ho hd (by simp) ?_)))
  show wpAny _ _ (newExc (.type "StopIteration") [] >>= _) _ _ _
  refine wpAny_bind ?_
  simp only [newExc, newTuple]
  refine wpAny_bind (wpAny_newObj_type ?_ (by size_fits))
  refine wpAny_bind (m := firstArgMember _ _) (wpAny_of_eq (a := Value.none) (by first | rfl | (simp only [firstArgMember]; rfl)) ?_)
  refine wpAny_newObj_type ?_ (by size_fits)
  have k1 : ∀ b ob, b ≠ it → s.heap.get? b = some ob → (s.heap.update it (Obj.mapFields fun vs => vs.setIfInBounds 0 .none)).get? b = some ob := fun b ob hb e => by rw [Heap.get?_update_other _ _ (Ne.symm hb)]; exact e
  have h1' := k1 x1 o1 ne h1
  refine raiseNew_hot ⟨hh, o1, vs1, Heap.get?_push_of_some _ (Heap.get?_push_of_some _ h1'), d1, c1⟩ (Nat.ne_of_lt (Heap.lt_size (Heap.get?_push_of_some _ h1'))) (Heap.get?_push_size _ rfl) rfl (by first | (simp; done) | (simp; omega) | (simp only [Array.size_append]; simp; omega)) ?_
  refine wpAny_bind (wpAny_isInstance (T := "StopIteration") (b := true) ⟨_, Heap.get?_update_self _ (Heap.get?_push_size _ rfl) rfl, rfl⟩ isSubtype_stop ?_)
  refine wpAny_pure (hQ _ fun b ob hb e => ?_)
  have e' := k1 b ob hb e
  rw [Heap.get?_update_other _ _ (Nat.ne_of_gt (Heap.lt_size (Heap.get?_push_of_some _ e')))]
  exact Heap.get?_push_of_some _ (Heap.get?_push_of_some _ e')
theorem tup_end_hot {it l x1 : Addr} {i : Nat} {items : Array Value} {Q : Option Value → Shared → Prop} (hot : HotAt A x1 s.heap) (ne : x1 ≠ it) (hit : IsTupIter s.heap it l i) (hl : IsTup s.heap l items) (hx : items[i]? = none)
    (hQ : ∀ h', Heap.ExtBut it s.heap h' → Q none { s with heap := h' }) : wpAny (model prog w) A (pyNext (.ref it)) Q E s := by
  obtain ⟨hh, o1, vs1, h1, d1, c1⟩ := hot
  obtain ⟨o, ho, hc, hd⟩ := id hit
  obtain ⟨ol, hol, _, nl, hdl⟩ := hl
  unfold pyNext
  refine wpAny_bind (wpAny_attempt (wpAny_callSpecial?_slot (name := Str.ofString "__next__") hit.typeIs slot_tupleiter_next (wpAny_call_entry slot_tupleiter_next hit.typeIs entry_tupleiter_next ?_ (args_tupleiter_next _))))
  show wpAny _ _ (field (.ref it) 0 >>= _) _ _ s
  refine wpAny_bind (wpAny_field ho hd (x := .ref l) rfl ?_)
  show wpAny _ _ (if (Value.ref l == Value.none) = true then _ else _) _ _ s
  rw [if_neg (show ¬ ((Value.ref l == Value.none) = true) from Bool.false_ne_true)]
  show wpAny _ _ (field (.ref it) 1 >>= _) _ _ s
  refine wpAny_bind (wpAny_field ho hd (x := .int i 0) rfl ?_)
  show wpAny _ _ (seqItems? (.ref l) >>= _) _ _ s
  refine wpAny_bind (wpAny_seqItems hol hdl ?_)
  simp only [Int.toNat_natCast, hx]
  refine wpAny_bind (wpAny_rule (wpAny_bind (wpAny_setField ho hd (by simp) ?_)))
  show wpAny _ _ (newExc (.type "StopIteration") [] >>= _) _ _ _
  refine wpAny_bind ?_
  simp only [newExc, newTuple]
  refine wpAny_bind (wpAny_newObj_type ?_ (by size_fits))
  refine wpAny_bind (m := firstArgMember _ _) (wpAny_of_eq (a := Value.none) (by first | rfl | (simp only [firstArgMember]; rfl)) ?_)
  refine wpAny_newObj_type ?_ (by size_fits)
  have k1 : ∀ b ob, b ≠ it → s.heap.get? b = some ob → (s.heap.update it (Obj.mapFields fun vs => vs.setIfInBounds 0 .none)).get? b = some ob := fun b ob hb e => by rw [Heap.get?_update_other _ _ (Ne.symm hb)]; exact e
  have h1' := k1 x1 o1 ne h1
  refine raiseNew_hot ⟨hh, o1, vs1, Heap.get?_push_of_some _ (Heap.get?_push_of_some _ h1'), d1, c1⟩ (Nat.ne_of_lt (Heap.lt_size (Heap.get?_push_of_some _ h1'))) (Heap.get?_push_size _ rfl) rfl (by first | (simp; done) | (simp; omega) | (simp only [Array.size_append]; simp; omega)) ?_
  refine wpAny_bind (wpAny_isInstance (T := "StopIteration") (b := true) ⟨_, Heap.get?_update_self _ (Heap.get?_push_size _ rfl) rfl, rfl⟩ isSubtype_stop ?_)
  refine wpAny_pure (hQ _ fun b ob hb e => ?_)
  have e' := k1 b ob hb e
  rw [Heap.get?_update_other _ _ (Nat.ne_of_gt (Heap.lt_size (Heap.get?_push_of_some _ e')))]
  exact Heap.get?_push_of_some _ (Heap.get?_push_of_some _ e')
theorem unpack_hot {t x1 : Addr} {items : Array Value} {targets : List (Bool × (Value → Sem Unit))} {Q : Unit → Shared → Prop} (hot : HotAt A x1 s.heap) (ht : IsTup s.heap t items)
    (hn : targets.length = items.size) (hstar : targets.findIdx? (·.1) = none)
    (h : ∀ h', Heap.ExtBut s.heap.objs.size s.heap h' → wpAny (model prog w) A (assignInOrder (targets.map (·.2)) items.toList) Q E { s with heap := h' }) :
    wpAny (model prog w) A (unpack (.ref t) targets) Q E s := by
  unfold unpack
  rw [hn, hstar]
  have hlt : t ≠ s.heap.objs.size := by obtain ⟨o, ho, _⟩ := ht; exact Nat.ne_of_lt (Heap.lt_size ho)
  obtain ⟨hh, o1, vs1, h1, d1, c1⟩ := hot
  have nx : x1 ≠ s.heap.objs.size := Nat.ne_of_lt (Heap.lt_size h1)
  refine wpAny_bind (wpAny_holding ?_)
  unfold unpackItems
  refine wpAny_bind ?_
  unfold notIterableAtAll
  refine wpAny_bind (wpAny_specialOf ht.typeIs slot_tuple_iter.lookup ?_)
  refine wpAny_pure ?_
  simp only [Bool.false_eq_true, if_false]
  refine wpAny_bind (wpAny_holding (iter_tuple ht ?_))
  refine wpAny_bind (wpAny_holding (draw_tuple hlt items.size 0 _ _ ⟨_, Heap.get?_push_size _ rfl, rfl, rfl⟩ (ht.push _) (by omega) fun h₁ hit₁ hs₁ => ?_))
  have hall : List.take items.size (List.drop 0 items.toList) = items.toList := by
    rw [List.drop_zero]; exact List.take_of_length_le (by simp)
  rw [hall, if_neg (by simp)]
  have ht₁ : IsTup h₁ t items := (ht.push _).extBut hs₁.extBut hlt
  refine wpAny_bind (wpAny_holding (tup_end_hot (x1 := x1) ⟨hh, o1, vs1, hs₁.extBut _ _ nx (Heap.get?_push_of_some _ h1), d1, c1⟩ nx hit₁ ht₁ (by simp) fun h₂ he₂ => ?_))
  simp only [Option.isSome_none, Bool.false_eq_true, if_false]
  exact wpAny_pure (h h₂ fun b o hb e => he₂ b o hb (hs₁.extBut b o hb (Heap.get?_push_of_some _ e)))
end
/-! ### a, b = a tuple, while an error is handled -/
section
variable {X : Cx} {g : Gx}
theorem HotX.heap (h : HotX X) {pins : List (Addr × Obj)} {σ : L2.St} {H : Hp} {s : Shared} (I : Inv X pins σ H s) : ∃ x1 oe, HotAt X.A x1 s.heap ∧ H x1 = some (xo oe) := by
  obtain ⟨a, oe, vs, h1, h2, h3, h4⟩ := h
  have q := I.base.frzs _ _ _ h2
  obtain ⟨ho, _⟩ := I.hok a _ q
  exact ⟨a, oe, ⟨h1, oe, vs, ho, h3, h4⟩, q⟩
theorem pg_tupT {es : List Expr} {k : Nat} {t : TGs} {n : Nat} {pos : Pos} (hot : HotX X) (h : PGs X es t) (hn : (assignEach es X.env).length = n) (hst : (assignEach es X.env).findIdx? (·.1) = none) : PG X (.Tuple es k pos) (gTup X.K n t) := by
  refine ⟨fun pins s σ H v u Q I r hw => ?_⟩
  obtain ⟨a, xs, e1, hq, hl, hw⟩ := hw
  subst e1
  cases r
  obtain ⟨its, rv, ht, hz⟩ := I.tuple hq
  obtain ⟨x1, oe, hx, _⟩ := hot.heap I
  rw [assign_Tuple]
  refine wpAny_bind (wpAny_standAt (unpack_hot hx ht (by simp [hn, ← hl, rv.length]) hst fun h' hx => ?_))
  exact h.run pins _ σ H xs _ Q (I.kept (t' := s.toks) fun b o e => hx b o (Nat.ne_of_lt (Heap.lt_size e)) e) (by simpa using rv) hw
end
end DL
namespace DL
open PySem PySem.Spec PyProof.Rows L2
/-! ### list comprehensions while an error is handled -/
structure TurnT (P : Program) (w : World) (K : PySem.W.Frag) (tg : Expr) (J : It) (fp : List Addr) (it : Addr) (tn : Nat → Heap → Prop) : Prop where
  mem : it ∈ fp
  obj : ∀ i h, tn i h → ∀ b ∈ fp, ∃ o, h.get? b = some o ∧ ∀ v, o.data ≠ .cell v
  keep : ∀ i h h', tn i h → (∀ b ∈ fp, ∀ o, h.get? b = some o → h'.get? b = some o) → tn i h'
  item : ∀ (X : Cx), X.prog = P → X.w = w → X.K = K → HotX X → ∀ (i : Nat) (pins : List (Addr × Obj)) (s : Shared) (σ : L2.St) (H : Hp) (E : Value → Shared → Prop), Inv X pins σ H s → (∀ b ∈ fp, FpOk X pins H b) → tn i s.heap → J.go i H →
    wpAny (model P w) X.A (pyNext (.ref it)) (fun r s1 => ∃ u, r = some u ∧
      wpAny (model P w) X.A (letOwnedTupleGo tg (.ref it) u) (fun _ s2 => ∃ x H', Inv X pins σ H' s2 ∧ RelV x u ∧ J.yld i H x H' ∧ tn (i + 1) s2.heap ∧ ∀ b ∈ fp, H' b = none) E s1) E s
  done : ∀ (X : Cx), X.prog = P → X.w = w → X.K = K → HotX X → ∀ (i : Nat) (pins : List (Addr × Obj)) (s : Shared) (σ : L2.St) (H : Hp) (E : Value → Shared → Prop), Inv X pins σ H s → (∀ b ∈ fp, FpOk X pins H b) → tn i s.heap → J.stop i H →
    wpAny (model P w) X.A (pyNext (.ref it)) (fun r s1 => r = none ∧ Inv X pins σ H s1) E s
  self : ∀ (A : Around) (i : Nat) (s : Shared) (Q : Value → Shared → Prop) (E : Value → Shared → Prop), tn i s.heap → Q (.ref it) s → wpAny (model P w) A (pyIter (.ref it)) Q E s
theorem turnT_list {P : Program} {w : World} {K : PySem.W.Frag} {tg : Expr} (a it : Addr) : TurnT P w K tg (Itl K a) [it] it (fun i h => h.IsListIter it a i) where
  mem := (turn_list (P := P) (w := w) (K := K) (tg := tg) a it).mem
  obj := (turn_list (P := P) (w := w) (K := K) (tg := tg) a it).obj
  keep := (turn_list (P := P) (w := w) (K := K) (tg := tg) a it).keep
  self := (turn_list (P := P) (w := w) (K := K) (tg := tg) a it).self
  item := by
    intro X hP hw hK hot i pins s σ H E I hf st hg
    subst hP hw hK
    obtain ⟨xs, x, hq, hx⟩ := hg
    obtain ⟨its, rv, p, hz⟩ := I.list hq
    obtain ⟨u, hu, ru⟩ := rv.get hx
    obtain ⟨f0, f1, f2, f3, f4, f5⟩ := hf it (by simp)
    refine wpAny_pyNext_list_item st p.isList (x := u) (by simpa using hu) fun h' st' sb => ?_
    obtain ⟨o, e, c, d⟩ := id st'
    exact ⟨u, rfl, go_of (s := { s with heap := h' }) e c d (by decide) ⟨x, H, I.turned (t' := s.toks) (fun b o hb e => (sb.2 b hb).trans e) f0 f1 f3 f4 f5, ru, ⟨rfl, fun ys hy => by rw [I.list_inj hy hq]; exact hx⟩, st', fun b hb => (hf b hb).1⟩⟩
  done := by
    intro X hP hw hK hot i pins s σ H E I hf st hg
    subst hP hw hK
    obtain ⟨xs, hq, hx⟩ := hg
    obtain ⟨its, rv, p, hz⟩ := I.list hq
    obtain ⟨f0, f1, f2, f3, f4, f5⟩ := hf it (by simp)
    have hl := rv.length
    obtain ⟨x1, oe, hA, hx1⟩ := hot.heap I
    exact list_end_hot hA (fun e => by rw [e, f0] at hx1; cases hx1) st p.isList (by simp; omega) fun h' eb => ⟨rfl, I.turned (t' := s.toks) (fun b o hb e => eb b o hb e) f0 f1 f3 f4 f5⟩
theorem turnT_tuple {P : Program} {w : World} {K : PySem.W.Frag} {tg : Expr} (a it : Addr) : TurnT P w K tg (Itt K a) [it] it (fun i h => h.IsTupleIter it a i) where
  mem := (turn_tuple (P := P) (w := w) (K := K) (tg := tg) a it).mem
  obj := (turn_tuple (P := P) (w := w) (K := K) (tg := tg) a it).obj
  keep := (turn_tuple (P := P) (w := w) (K := K) (tg := tg) a it).keep
  self := (turn_tuple (P := P) (w := w) (K := K) (tg := tg) a it).self
  item := by
    intro X hP hw hK hot i pins s σ H E I hf st hg
    subst hP hw hK
    obtain ⟨xs, x, hq, hx⟩ := hg
    obtain ⟨its, rv, p, hz⟩ := I.tuple hq
    obtain ⟨u, hu, ru⟩ := rv.get hx
    obtain ⟨f0, f1, f2, f3, f4, f5⟩ := hf it (by simp)
    refine wpAny_pyNext_tuple_item st (show s.heap.IsTuple a its.toArray from p) (x := u) (by simpa using hu) fun h' st' sb => ?_
    obtain ⟨o, e, c, d⟩ := id st'
    exact ⟨u, rfl, go_of (s := { s with heap := h' }) e c d (by decide) ⟨x, H, I.turned (t' := s.toks) (fun b o hb e => (sb.2 b hb).trans e) f0 f1 f3 f4 f5, ru, ⟨rfl, fun ys hy => by rw [I.tuple_inj hy hq]; exact hx⟩, st', fun b hb => (hf b hb).1⟩⟩
  done := by
    intro X hP hw hK hot i pins s σ H E I hf st hg
    subst hP hw hK
    obtain ⟨xs, hq, hx⟩ := hg
    obtain ⟨its, rv, p, hz⟩ := I.tuple hq
    obtain ⟨f0, f1, f2, f3, f4, f5⟩ := hf it (by simp)
    have hl := rv.length
    obtain ⟨x1, oe, hA, hx1⟩ := hot.heap I
    exact tup_end_hot hA (fun e => by rw [e, f0] at hx1; cases hx1) st p (by simp; omega) fun h' eb => ⟨rfl, I.turned (t' := s.toks) (fun b o hb e => eb b o hb e) f0 f1 f3 f4 f5⟩
def PIET (X : Cx) (pins : List (Addr × Obj)) (σ : L2.St) (tg : Expr) (R : It → Hp → Prop) (itv : Value) (s2 : Shared) : Prop :=
  ∃ (it : Addr) (fp : List Addr) (tn : Nat → Heap → Prop) (J : It) (H' : Hp), itv = .ref it ∧ Inv X pins σ H' s2 ∧ TurnT X.prog X.w X.K tg J fp it tn ∧ tn 0 s2.heap ∧ (∀ b ∈ fp, FpOk X pins H' b) ∧ R J H'
structure PIT (X : Cx) (tg iter : Expr) (wi : TI) : Prop where
  run : ∀ (pins : List (Addr × Obj)) (s : Shared) (σ : L2.St) (H : Hp) (R : It → Hp → Prop), Inv X pins σ H s → wi σ H R →
    wpAny (model X.prog X.w) X.A (eval iter X.env) (fun v s1 => wpAny (model X.prog X.w) X.A (pyIter v) (PIET X pins σ tg R) X.xe s1) X.xe s
section
variable {X : Cx} {g : Gx}
theorem PIT.imp {tg e : Expr} {t t' : TI} (h : PIT X tg e t) (k : ∀ σ H Q, t' σ H Q → t σ H Q) : PIT X tg e t' := ⟨fun pins s σ H Q I q => h.run pins s σ H Q I (k σ H Q q)⟩
theorem PIT.or {tg e : Expr} {t t' : TI} (h : PIT X tg e t) (h' : PIT X tg e t') : PIT X tg e (fun σ H Q => t σ H Q ∨ t' σ H Q) := ⟨fun pins s σ H Q I q => q.elim (fun q => h.run pins s σ H Q I q) fun q => h'.run pins s σ H Q I q⟩
theorem pit_list {tg l : Expr} {tl : TE} (hl : PE X l tl) : PIT X tg l (iList X.K tl) := by
  refine ⟨fun pins s σ H R I h => ?_⟩
  refine thn (hl.run pins s σ H _ I h) fun v s1 ⟨x, H1, I1, r1, q1⟩ => ?_
  obtain ⟨a, e, ⟨xs, hq⟩, q⟩ := q1
  subst e
  cases r1
  obtain ⟨its, rv, p, hz⟩ := I1.list hq
  refine wpAny_pyIter_list p.isList ?_
  refine ⟨s1.heap.objs.size, [s1.heap.objs.size], _, _, H1, rfl, I1.kept (t' := s1.toks) fun b o e => Heap.get?_push_of_some _ e, turnT_list a _, ⟨_, Heap.get?_push_size _ rfl, rfl, rfl⟩, fun b hb => ?_, q⟩
  have e : b = s1.heap.objs.size := by simpa using hb
  subst e
  exact I1.fpOk (Nat.le_refl _) (I1.hok.fresh (Nat.le_refl _))
theorem pit_tup {tg l : Expr} {tl : TE} (hl : PE X l tl) : PIT X tg l (iTup X.K tl) := by
  refine ⟨fun pins s σ H R I h => ?_⟩
  refine thn (hl.run pins s σ H _ I h) fun v s1 ⟨x, H1, I1, r1, q1⟩ => ?_
  obtain ⟨a, e, ⟨xs, hq⟩, q⟩ := q1
  subst e
  cases r1
  obtain ⟨its, rv, p, hz⟩ := I1.tuple hq
  refine wpAny_pyIter_tuple (show s1.heap.IsTuple a its.toArray from p) ?_
  refine ⟨s1.heap.objs.size, [s1.heap.objs.size], _, _, H1, rfl, I1.kept (t' := s1.toks) fun b o e => Heap.get?_push_of_some _ e, turnT_tuple a _, ⟨_, Heap.get?_push_size _ rfl, rfl, rfl⟩, fun b hb => ?_, q⟩
  have e : b = s1.heap.objs.size := by simpa using hb
  subst e
  exact I1.fpOk (Nat.le_refl _) (I1.hok.fresh (Nat.le_refl _))
abbrev DIT (X : Cx) (g : Gx) (pu : Bool) (tg iter : Expr) (m : IM) : Prop := PIT X tg iter (tR g pu (fun Z' _ _ _ J ds => ItOk J Z' ds) m)
theorem dit_seq {p : Bool} {tg e : Expr} {m : EM} (h : DE X g p e m) : DIT X g p tg e (iSeq m) := by
  refine PIT.imp (PIT.or (pit_list (tg := tg) h) (pit_tup (tg := tg) h)) fun σ H R ⟨Z, env, fps, s, h⟩ => ?_
  have key : ∀ (x : Ev) (e1 : Ve), hold true (m env) = .ok x e1 → (∃ ds, x = .dat (.tup ds)) ∨ ¬ ∃ ds, x = .dat (.tup ds) := fun x e1 _ => Classical.em _
  by_cases ht : ∃ ds e1, hold true (m env) = .ok (.dat (.tup ds)) e1
  · obtain ⟨ds, e1, he⟩ := ht
    refine .inr (hold_run (q := true) s (fun x e1 he' v Z1 H1 fps1 s1 z1 k1 r1 => ?_) (fun x e1 he' => ?_) (fun he' => ?_))
    · rw [he] at he'
      cases he'
      simp only [iSeq, he, Res.bind_ok] at h
      cases r1 with
      | tup h2 r2 => exact ⟨_, rfl, ⟨_, .of (s1.sub _ _ h2)⟩, h _ Z1 H1 fps1 s1 z1 k1 (itt_ok h2 r2)⟩
    · rw [he] at he'; cases he'
    · rw [he] at he'; cases he'
  · refine .inl (hold_run (q := true) s (fun x e1 he v Z1 H1 fps1 s1 z1 k1 r1 => ?_) (fun x e1 he => ?_) (fun he => ?_))
    · simp only [iSeq, he, Res.bind_ok] at h
      cases x with
      | dat d =>
        cases d with
        | lst ds =>
          cases r1 with
          | lst h2 r2 => exact ⟨_, rfl, ⟨_, .of (s1.sub _ _ h2)⟩, h _ Z1 H1 fps1 s1 z1 k1 (itl_ok h2 r2)⟩
        | tup ds => exact (ht ⟨ds, e1, he⟩).elim
        | scr ns =>
          cases r1 with
          | scr h2 => exact ⟨_, rfl, ⟨_, .inl (.inr ⟨_, s1.sub _ _ h2⟩)⟩, h _ Z1 H1 fps1 s1 z1 k1 (its_ok h2)⟩
        | _ => exact h.elim
      | _ => exact h.elim
    · simp only [iSeq, he, Res.bind_ex] at h
      exact h
    · simp only [iSeq, he, Res.bind_no, Post_no] at h
theorem dg_tupT {es : List Expr} {k : Nat} {m : GMs} {n : Nat} {ts : List Nat} {pos : Pos} (hot : HotX X) (h : DGs X g ts es m) (hn : (assignEach es X.env).length = n := by rfl) (hst : (assignEach es X.env).findIdx? (·.1) = none := by rfl) : DG X g ts (.Tuple es k pos) (gTp n m) := by
  refine PG.imp (pg_tupT hot h hn hst) fun v σ H Q ⟨Z, env, fps, d, s, r, h⟩ => ?_
  cases r with
  | tup h1 r1 =>
    simp only [gTp] at h
    split at h
    · rename_i env' e
      split at e
      · rename_i hl
        refine ⟨_, _, rfl, .of (s.sub _ _ h1), by rw [r1.length]; exact hl, Z, env, fps, _, s, r1, ?_⟩
        rw [e]
        exact h
      · cases e
    · exact h.elim
  | _ => exact h.elim
theorem lc_coreT {pins : List (Addr × Obj)} {s : Shared} {σ : L2.St} {H : Hp} {Q : VK} {elt tg iter : Expr} {ifs : List Expr} {scope : Scope} {own : List (Str × Nat)} {pos pos' : Pos} {wi : TI} {g : TG} {tt : TT} {te : TE} {use : Option (Value → Sem Unit)} {Qf : Value → Shared → Prop}
    (hot : HotX X) (hN : X.N.Nodup) (I : Inv X pins σ H s) (hi : PIT X tg iter wi) (ok : BlkOk X.N X.env.scope scope own)
    (hg : ∀ (s : Shared) (H : Hp) (C : Addr) (cl : List (Str × Addr)) (fp : List Addr), HotX (X.blk s H scope (compEnvC scope cl C X.env) fp) → PG (X.blk s H scope (compEnvC scope cl C X.env) fp) tg g) (ht : ∀ (s : Shared) (H : Hp) (C : Addr) (cl : List (Str × Addr)) (fp : List Addr), HotX (X.blk s H scope (compEnvC scope cl C X.env) fp) → PTs (X.blk s H scope (compEnvC scope cl C X.env) fp) ifs tt)
    (he : ∀ (s : Shared) (H : Hp) (C : Addr) (cl : List (Str × Addr)) (fp : List Addr), HotX (X.blk s H scope (compEnvC scope cl C X.env) fp) → PE (X.blk s H scope (compEnvC scope cl C X.env) fp) elt te) (hs : ∀ x, foldedSetIterable iter X.env x = pure x)
    (h : tLc wi g tt te (own.map (·.2)) σ H Q)
    (hRR : ∀ D C s' m H', Inv X pins σ H' s' → Q (.ref D) H' → s'.heap.Ns C m → FpOk X pins H' C → compPost (model X.prog X.w) X.A X.xe use Qf (.ref D) C (.ok .next) s') :
    wpAny (model X.prog X.w) X.A (comprehension (.ListComp elt [⟨tg, iter, ifs, 0⟩] scope pos) scope X.env pos' (newList []) false (eval iter X.env) use) Qf X.xe s := by
  have hfree : ∀ y ∈ scope.names, y.2 = .free → ∃ c, X.env.cells.lookup y.1 = some c := fun y hy e => by
    rcases ok.free y hy e with k | k
    · exact I.ok.has _ (.inl k)
    · exact I.ok.has _ (.inr k)
  refine wpAny_comprehension_free (use := use) rfl hs (closure_ok hfree) ok.kind (fun y hy e => by rw [ok.uniq y hy, e])
    (thn (hi.run pins s σ H _ I h) fun xv s1 hx => thn hx fun itv s2 h2 => ?_)
  obtain ⟨it, fp, tn, J, H2, e, I2, T, st2, f2, q⟩ := h2
  subst e
  refine wpAny_newObj_type (newEnv_comp ?_) (by show 0 ≤ sizeLine; decide)
  generalize hD : s2.heap.objs.size = D
  have hDn : H2 D = none := I2.hok.fresh (Nat.le_of_eq hD)
  obtain ⟨W, ⟨m0, w0⟩, turn⟩ := q D hDn
  -- the new list
  generalize hs3 : ({ s2 with heap := s2.heap.push { cls := .type "list", data := .seq ([] : List Value).toArray } } : Shared) = s3
  have I3 : Inv X pins σ (upd H2 D (.lst [])) s3 := by
    rw [← hs3]
    refine I2.laid (t' := s2.toks) (fun b o e => Heap.get?_push_of_some _ e) (Nat.le_of_eq hD) ⟨Nat.zero_le _, [], 0, .nil, ?_⟩
    rw [← hD]
    exact Heap.get?_push_size _ rfl
  have h3 : s3.heap = s2.heap.push { cls := .type "list", data := .seq ([] : List Value).toArray } := by rw [← hs3]
  have sz : ∀ b ∈ fp, b < s2.heap.objs.size := fun b hb => by
    obtain ⟨o, e, _⟩ := T.obj _ _ st2 b hb
    exact Heap.lt_size e
  have f3 : ∀ b ∈ fp, FpOk X pins (upd H2 D (.lst [])) b ∧ b < s3.heap.objs.size := fun b hb => by
    have hlt := sz b hb
    refine ⟨⟨?_, (f2 b hb).2⟩, by rw [h3, Heap.size_push]; exact Nat.lt_succ_of_lt hlt⟩
    rw [upd_ne (by rw [← hD]; exact Nat.ne_of_lt hlt)]
    exact (f2 b hb).1
  have st3 : tn 0 s3.heap := T.keep _ _ _ st2 fun b _ o e => by rw [h3]; exact Heap.get?_push_of_some _ e
  have I4 := block_start I3 ok hN f3
  obtain ⟨ha, hoe, hvs, hh1, hh2, hh3, hh4⟩ := hot
  have q2 : H2 ha = some (xo hoe) := I2.base.frzs _ _ _ hh2
  have hotB : ∀ (C : Addr) (cl : List (Str × Addr)), HotX (X.blk s3 (upd H2 D (.lst [])) scope (compEnvC scope cl C X.env) fp) := fun C cl => ⟨ha, hoe, hvs, hh1, (show upd H2 D (.lst []) ha = _ by rw [upd_ne (fun e => by rw [e, hDn] at q2; cases q2)]; exact q2), hh3, hh4⟩
  have hb := hotB s3.heap.objs.size (cellsFrom (s3.heap.objs.size + 1) scope.names (cloFrom X.env.cells scope.names []))
  have pg := hg s3 (upd H2 D (.lst [])) s3.heap.objs.size (cellsFrom (s3.heap.objs.size + 1) scope.names (cloFrom X.env.cells scope.names [])) fp hb
  have pt := ht s3 (upd H2 D (.lst [])) s3.heap.objs.size (cellsFrom (s3.heap.objs.size + 1) scope.names (cloFrom X.env.cells scope.names [])) fp hb
  have pe := he s3 (upd H2 D (.lst [])) s3.heap.objs.size (cellsFrom (s3.heap.objs.size + 1) scope.names (cloFrom X.env.cells scope.names [])) fp hb
  show codeAny _ _ (.compStart (.ListComp elt [⟨tg, iter, ifs, 0⟩] scope pos) 0 (.ref it) (.ref D) (compEnvC scope (cellsFrom (s3.heap.objs.size + 1) scope.names (cloFrom X.env.cells scope.names [])) s3.heap.objs.size X.env)) (compPost (model X.prog X.w) X.A X.xe use Qf (.ref D) s3.heap.objs.size) { s3 with heap := pushCells (s3.heap.push { cls := .type "dict", data := .dict #[] }) scope.names }
  have nfp : ∀ b ∈ fp, (upd H2 D (.lst [])) b = none := fun b hb => (f3 b hb).1.1
  generalize hce : compEnvC scope (cellsFrom (s3.heap.objs.size + 1) scope.names (cloFrom X.env.cells scope.names [])) s3.heap.objs.size X.env = ce at I4 pg pt pe hb ⊢
  have cL : ce.locals = s3.heap.objs.size := by subst hce; rfl
  generalize hH3 : upd H2 D (.lst []) = H3 at I3 I4 pg pt pe hb w0 nfp f3
  generalize hs4 : ({ s3 with heap := pushCells (s3.heap.push { cls := .type "dict", data := .dict #[] }) scope.names } : Shared) = s4 at I4 ⊢
  have st4 : tn 0 s4.heap := T.keep _ _ _ st3 fun b _ o e => by rw [← hs4]; exact pushCells_keeps _ _ _ _ (Heap.get?_push_of_some _ e)
  have stat : ∀ {σ' : L2.St} {H' : Hp} {s' : Shared}, Inv (X.blk s3 H3 scope ce fp) [] σ' H' s' → (∀ b ∈ fp, H' b = none) → ∀ b ∈ fp, FpOk (X.blk s3 H3 scope ce fp) [] H' b := fun {σ' H' s'} I' hn b hb =>
    ⟨hn b hb, (I'.ok.exf b hb).1, I'.ok.exfs b hb, .inl hb, fun x c e => (I'.ok.exf b hb).2 x c e, fun p hp => absurd (show p ∈ ([] : List (Addr × Obj)) ++ [] from hp) (by simp)⟩
  have loop : codeAny (model X.prog X.w) X.A (.compLoop (.ListComp elt [⟨tg, iter, ifs, 0⟩] scope pos) 0 (.ref it) (.ref D) ce) (compPost (model X.prog X.w) X.A X.xe use Qf (.ref D) s3.heap.objs.size) s4 := by
    refine compLoop_any (fun n s' => ∃ i H', Inv (X.blk s3 H3 scope ce fp) [] (L2.wipe σ (own.map (·.2))) H' s' ∧ tn i s'.heap ∧ (∀ b ∈ fp, H' b = none) ∧ W i n H') ?_ m0 ⟨0, H3, I4, st4, nfp, w0⟩
    rintro n s5 ⟨i, H5, I5, st5, n5, w5⟩
    rcases turn i n H5 w5 with ⟨stop, qq⟩ | ⟨go, Nx, hNx, step⟩
    · have td := T.done (X.blk s3 H3 scope ce fp) rfl rfl rfl hb i [] s5 _ H5 (fun _ _ => False) I5 (stat I5 n5) st5 stop
      refine thnF td fun r s6 ⟨hr, I6⟩ => ?_
      subst hr
      -- back in the def's context
      have I7 : Inv X pins σ H5 s6 := I3.call' (ch := fp) I6.os I6.base I6.hok I6.bare fun b hb => ⟨(f3 b hb).1.2.2.2.1, (f3 b hb).1.2.1, (f3 b hb).1.2.2.2.2.1, (f3 b hb).1.2.2.2.2.2⟩
      have nC : H5 s3.heap.objs.size = none := by
        have z : H5 ce.locals = none := I6.free
        rw [cL] at z
        exact z
      obtain ⟨m, hn, _⟩ := I6.loc
      have hn : s6.heap.Ns ce.locals m := hn
      rw [cL] at hn
      exact hRR D s3.heap.objs.size s6 m H5 I7 qq hn (I3.fpOk (Nat.le_refl _) nC)
    · have ti := T.item (X.blk s3 H3 scope ce fp) rfl rfl rfl hb i [] s5 _ H5 (fun _ _ => False) I5 (stat I5 n5) st5 go
      refine thnF ti fun r s6 ⟨u, hr, h6⟩ => ?_
      subst hr
      refine thnF h6 fun _ s7 ⟨x, H7, I7, r7, y7, st7, n7⟩ => ?_
      have I7' := I7.pinned (stat I7 n7) (T.obj _ _ st7)
      refine thnF (pg.run _ s7 _ H7 x u _ I7' r7 (step x H7 y7)) fun _ s8 ⟨σ8, H8, I8, hw8, q8⟩ => ?_
      refine thnF (pt.run _ s8 σ8 H8 _ I8 q8) fun b s9 ⟨H9, I9, q9⟩ => ?_
      -- the turn's end
      have fin : ∀ {s' : Shared} {H' : Hp}, Inv (X.blk s3 H3 scope ce fp) ([] ++ pinsAt fp s7.heap) σ8 H' s' → Nx H' → ∃ m, m < n ∧ ∃ i H', Inv (X.blk s3 H3 scope ce fp) [] (L2.wipe σ (own.map (·.2))) H' s' ∧ tn i s'.heap ∧ (∀ b ∈ fp, H' b = none) ∧ W i m H' := fun {s' H'} I' nx => by
        obtain ⟨m', hm, w'⟩ := hNx H' nx
        have pin' : ∀ b ∈ fp, ∀ o, s7.heap.get? b = some o → s'.heap.get? b = some o ∧ H' b = none := fun b hb o e =>
          let z := I'.pin (b, o) (List.mem_append_right _ (List.mem_append_right _ (mem_pinsAt hb e)))
          ⟨z.1, z.2.1⟩
        have hl : (L2.wipe σ (own.map (·.2))).length = σ8.length := by rw [← hw8, wipe_length]
        refine ⟨m', hm, i + 1, H', (I'.unpinned (pins := [])).weak hl (fun j v e => ?_), T.keep _ _ _ st7 fun b hb o e => (pin' b hb o e).1, fun b hb => ?_, w'⟩
        · rw [← hw8] at e
          exact (wipe_some e).1
        · obtain ⟨o, e, _⟩ := T.obj _ _ st7 b hb
          exact (pin' b hb o e).2
      cases b with
      | false =>
        simp only [Bool.false_eq_true, if_false] at q9 ⊢
        exact fin I9 q9
      | true =>
        simp only [if_true] at q9 ⊢
        refine thnF (pe.run _ s9 σ8 H9 _ I9 q9) fun z s10 ⟨yv, H10, I10, r10, acc, hD10, hz10, nx⟩ => ?_
        exact app_ok (X := X.blk s3 H3 scope ce fp) I10 hD10 hz10 r10 fun s11 I11 => fin I11 nx
  exact codeAny_compStart_list loop (T.self X.A 0 _ _ _ st4 loop)
theorem pe_lcT {elt tg iter : Expr} {ifs : List Expr} {scope : Scope} {own : List (Str × Nat)} {pos : Pos} {wi : TI} {g : TG} {tt : TT} {te : TE} (hot : HotX X) (hN : X.N.Nodup) (hi : PIT X tg iter wi) (ok : BlkOk X.N X.env.scope scope own)
    (hg : ∀ (s : Shared) (H : Hp) (C : Addr) (cl : List (Str × Addr)) (fp : List Addr), HotX (X.blk s H scope (compEnvC scope cl C X.env) fp) → PG (X.blk s H scope (compEnvC scope cl C X.env) fp) tg g) (ht : ∀ (s : Shared) (H : Hp) (C : Addr) (cl : List (Str × Addr)) (fp : List Addr), HotX (X.blk s H scope (compEnvC scope cl C X.env) fp) → PTs (X.blk s H scope (compEnvC scope cl C X.env) fp) ifs tt)
    (he : ∀ (s : Shared) (H : Hp) (C : Addr) (cl : List (Str × Addr)) (fp : List Addr), HotX (X.blk s H scope (compEnvC scope cl C X.env) fp) → PE (X.blk s H scope (compEnvC scope cl C X.env) fp) elt te) (hs : ∀ x, foldedSetIterable iter X.env x = pure x := by intro _; rfl) :
    PE X (.ListComp elt [⟨tg, iter, ifs, 0⟩] scope pos) (tLc wi g tt te (own.map (·.2))) := by
  refine ⟨fun pins s σ H Q I h => ?_⟩
  rw [eval_ListComp]
  refine lc_coreT hot hN I hi ok hg ht he hs h fun D C s' m H' I' q hn f => ⟨m, hn, fun h'' sb => ?_⟩
  obtain ⟨f0, f1, f2, f3, f4, f5⟩ := f
  exact ⟨.ref D, H', I'.turned (t' := s'.toks) (fun b o hb e => (sb.2 b hb).trans e) f0 f1 f3 f4 f5, rfl, q⟩
theorem dx_compT {own : List (Str × Nat)} {p pt pe : Bool} {tg iter elt : Expr} {ifs : List Expr} {scope : Scope} {pos : Pos} {mi : IM} {gm : GM} {tm : TM} {em : EM} {ts : List Nat} (hot : HotX X) (hN : X.N.Nodup) (hi : DIT X g p tg iter mi) (ok : BlkOk X.N X.env.scope scope own)
    (hg : ∀ (n : En) (s : Shared) (H : Hp) (C : Addr) (cl : List (Str × Addr)) (fp : List Addr), HotX (X.blk s H scope (compEnvC scope cl C X.env) fp) → DG (X.blk s H scope (compEnvC scope cl C X.env) fp) (g.blk n) ts tg gm)
    (ht : ∀ (n : En) (s : Shared) (H : Hp) (C : Addr) (cl : List (Str × Addr)) (fp : List Addr), HotX (X.blk s H scope (compEnvC scope cl C X.env) fp) → DTs (X.blk s H scope (compEnvC scope cl C X.env) fp) (g.blk n) pt ifs tm)
    (he : ∀ (n : En) (s : Shared) (H : Hp) (C : Addr) (cl : List (Str × Addr)) (fp : List Addr), HotX (X.blk s H scope (compEnvC scope cl C X.env) fp) → DE (X.blk s H scope (compEnvC scope cl C X.env) fp) (g.blk n) pe elt em)
    (hpin : (own.map (·.2)).all (fun i => !g.pins.contains i) = true := by rfl) (hts : ts.all (fun i => (own.map (·.2)).contains i) = true := by rfl)
    (hs : ∀ x, foldedSetIterable iter X.env x = pure x := by intro _; rfl) :
    DE X g false (.ListComp elt [⟨tg, iter, ifs, 0⟩] scope pos) (eComp (own.map (·.2)) mi gm tm em) := by
  refine PE.imp (pe_lcT (own := own) (g := fun v σ H Q => ∃ n, tGm (g.blk n) ts gm v σ H Q) (tt := fun σ H Q => ∃ n, tT (g.blk n) pt tm σ H Q) (te := fun σ H Q => ∃ n, tE (g.blk n) pe em σ H Q) hot hN hi ok
    (fun s H C cl fp hb => ⟨fun pins s' σ H' v u Q I r ⟨n, q⟩ => (hg n s H C cl fp hb).run pins s' σ H' v u Q I r q⟩)
    (fun s H C cl fp hb => ⟨fun pins s' σ H' Q I ⟨n, q⟩ => (ht n s H C cl fp hb).run pins s' σ H' Q I q⟩)
    (fun s H C cl fp hb => ⟨fun pins s' σ H' Q I ⟨n, q⟩ => (he n s H C cl fp hb).run pins s' σ H' Q I q⟩) hs) fun σ H Q h => comp_run (all_pin hpin) (all_sub hts) h
end
end DL
/-! ### del xs[a:b], xs[a:b] = a list -/
namespace L2
open PySem PySem.Spec PyProof.Rows
theorem sel_fm {α : Type} (sel : Nat → Bool) {a c : Nat} (hsel : ∀ k, sel k = (decide (a ≤ k) && decide (k < c))) (hac : a ≤ c) : ∀ (its : List α) (off : Nat),
    (its.zipIdx off).filterMap (fun (x, k) => if sel k = true then none else some x) = its.take (a - off) ++ its.drop (c - off)
  | [], off => by simp
  | x :: r, off => by
    rw [List.zipIdx_cons, List.filterMap_cons]
    have ih := sel_fm sel hsel hac r (off + 1)
    by_cases h1 : off < a
    · have e : sel off = false := by rw [hsel]; simp; omega
      rw [show a - off = (a - (off + 1)) + 1 by omega, show c - off = (c - (off + 1)) + 1 by omega]
      simp only [e, Bool.false_eq_true, if_false, List.take_succ_cons, List.drop_succ_cons, List.cons_append]
      rw [ih]
    · by_cases h2 : off < c
      · have e : sel off = true := by rw [hsel]; simp; omega
        rw [show a - off = 0 by omega, show c - off = (c - (off + 1)) + 1 by omega]
        simp only [e, if_true, List.take_zero, List.nil_append, List.drop_succ_cons]
        rw [ih, show a - (off + 1) = 0 by omega, List.take_zero, List.nil_append]
      · have e : sel off = false := by rw [hsel]; simp; omega
        rw [show a - off = 0 by omega, show c - off = 0 by omega]
        simp only [e, Bool.false_eq_true, if_false, List.take_zero, List.nil_append, List.drop_zero]
        rw [ih, show a - (off + 1) = 0 by omega, show c - (off + 1) = 0 by omega]
        simp
theorem size_fm {α : Type} (f : α × Nat → Option α) (its : List α) : (its.zipIdx.filterMap f).length ≤ its.length := by
  refine Nat.le_trans (List.length_filterMap_le _ _) ?_
  simp
section
variable {prog : Program} {w : World} {A : Around} {E : Value → Shared → Prop} {s : Shared}
theorem delItem_slice {l sl : Addr} {items : Array Value} {n : Nat} {vl vu : Value} {a c : Nat} {Q : Unit → Shared → Prop}
    (e : s.heap.get? l = some { cls := .type "list", data := .seq items n })
    (hs : s.heap.IsSliceOf sl vl vu .none) (pl : IsPart vl (some (a : Int))) (pu : IsPart vu (some (c : Int))) (hac : a ≤ c) (hc : c ≤ items.size)
    (hsz : items.size ≤ sizeLine) (h : ∀ f : Array Value → Array Value, f items = (items.toList.take a ++ items.toList.drop c).toArray → Q () { s with heap := s.heap.update l (Obj.mapSeq f) }) :
    wpAny (model prog w) A (delItem (.ref l) (.ref sl)) Q E s := by
  have hl : s.heap.IsList l items := PySem.IsL.isList e
  obtain ⟨os, hos, hcs, hds⟩ := id hs
  have hTs : s.TypeIs (.ref sl) "slice" := ⟨os, hos, hcs⟩
  have hstep : ¬ ((rawPart none == rawInt 0) = true) := Bool.false_ne_true
  refine PySem.wpAny_delItem_slot hl.typeIs (by decide) F.slot_list_delitem (wpAny_call_entry F.slot_list_delitem hl.typeIs F.entry_list_delitem ?_ (F.args_list_delitem_2 _ _))
  show wpAny _ _ (Builtin.List.listSubscript? (.ref sl) >>= _) _ _ s
  refine wpAny_bind ?_
  unfold Builtin.List.listSubscript?
  refine wpAny_bind (wpAny_specialOf hTs slice_no_index ?_)
  simp only [Option.isNone_none, if_true]
  refine wpAny_pure ?_
  show wpAny _ _ (typeOf (.ref sl) >>= _) _ _ s
  refine wpAny_bind (wpAny_typeOf hTs ?_)
  first
    | rw [if_neg (by decide)]
    | refine PySem.W.KFB.if_not (by decide) ?_
  rw [listSliceParts_eq]
  refine wpAny_bind (wpAny_bind (wpAny_field hos hds (x := .none) rfl (wpAny_bind (wpAny_listPart .none ?_))))
  rw [if_neg hstep]
  refine wpAny_bind (wpAny_field hos hds (x := vl) rfl (wpAny_bind (wpAny_listPart pl ?_)))
  refine wpAny_bind (wpAny_field hos hds (x := vu) rfl (wpAny_bind (wpAny_listPart pu (wpAny_pure ?_))))
  unfold Builtin.List.listItems
  refine wpAny_bind (wpAny_bind (wpAny_seqItems e rfl (wpAny_pure ?_)))
  refine wpAny_bind (wpAny_of_eq ((sliceIndices_raw (some (a : Int)) (some (c : Int)) none items.size (by simp)).trans (congrArg (pure : Int × Int × Int → Sem (Int × Int × Int)) (bounds_run hac hc))) ?_)
  refine wpAny_bind (wpAny_rule ?_)
  refine wpAny_bind (wpAny_updateSeq (hz := hsz) (_hz' := ?_) e rfl ?_)
  · refine wpAny_bind (wpAny_letGo ?_)
    refine wpAny_pure ⟨.none, rfl, h _ ?_⟩
    refine congrArg List.toArray ((sel_fm _ (a := a) (c := c) (fun k => ?_) hac items.toList 0))
    show (if (1 : Int) > 0 then (decide ((a : Int) ≤ (k : Int)) && decide ((k : Int) < (c : Int)) && (((k : Int) - (a : Int)) % 1 == 0)) else _) = _
    rw [if_pos (by decide), Int.emod_one]
    simp
  · refine Nat.le_trans ?_ (Nat.le_succ_of_le hsz)
    simp only [List.size_toArray]
    exact Nat.le_trans (size_fm _ _) (by simp)
end
section
variable {X : Cx}
theorem del_slice {pins : List (Addr × Obj)} {s : Shared} {σ : St} {H : Hp} {l sl : Addr} {xs : List V} {a c : Int} {vl vu : Value} {Q : Unit → Shared → Prop} (I : Inv X pins σ H s)
    (hH : H l = some (.lst xs)) (hs : s.heap.IsSliceOf sl vl vu .none) (pl : IsPart vl (some a)) (pu : IsPart vu (some c)) (h0 : 0 ≤ a) (hac : a ≤ c) (hc : c ≤ xs.length)
    (h : ∀ s', Inv X pins σ (upd H l (.lst (xs.take a.toNat ++ xs.drop c.toNat))) s' → Q () s') :
    wpAny (model X.prog X.w) X.A (delItem (.ref l) (.ref sl)) Q X.xe s := by
  obtain ⟨z, its, n, r, hl, e⟩ := I.lstM hH
  obtain ⟨a', rfl⟩ := Int.eq_ofNat_of_zero_le h0
  obtain ⟨c', rfl⟩ := Int.eq_ofNat_of_zero_le (Int.le_trans h0 hac)
  simp only [Int.toNat_natCast] at h
  refine delItem_slice (a := a') (c := c') e hs pl pu (by omega) (by rw [List.size_toArray]; omega) (by rw [List.size_toArray]; omega) fun f hf => h _ ?_
  refine I.lset (its' := its.take a' ++ its.drop c') (t' := s.toks) hH e ?_ (Vals.append (r.take _) (r.drop _)) ?_
  · simpa using hf
  · rw [List.length_append, List.length_take, List.length_drop]
    omega
def tDelS (to : TE) (tl th : TO) : TS := fun D σ H => to σ H fun x H1 => tl σ H1 fun lo H2 => th σ H2 fun hi H3 => ∃ (l : Addr) (xs : List V) (a c : Int), x = .ref l ∧ lo = some a ∧ hi = some c ∧ H3 l = some (.lst xs) ∧ 0 ≤ a ∧ a ≤ c ∧ c ≤ xs.length ∧ D.nx σ (upd H3 l (.lst (xs.take a.toNat ++ xs.drop c.toNat)))
theorem ps_delS {o : Expr} {lo hi : Option Expr} {to : TE} {tl th : TO} {p2 tpos pos : Pos} (ho : PE X o to) (hl : PO X lo tl) (hu : PO X hi th) : PS X (.Delete [.Subscript o (.Slice lo hi none p2) tpos] pos) (tDelS to tl th) := by
  refine ⟨fun pins s σ H D I h => ?_⟩
  refine wpAny_Delete (wpAny_deleteEach_cons (wpAny_delete_Subscript (thn (ho.run pins s σ H _ I h) fun u s1 ⟨x, H1, I1, rx, q1⟩ => ?_)))
  refine wpAny_Slice (thn (hl.run pins s1 σ H1 _ I1 q1) fun vl s2 ⟨l, H2, I2, pl, q2⟩ => thn (hu.run pins s2 σ H2 _ I2 q2) fun vu s3 ⟨w, H3, I3, pu, q3⟩ => ?_)
  rw [evalPart_none]
  refine wpAny_pure ?_
  obtain ⟨b, xs, a, c, rfl, rfl, rfl, hH, h0, hac, hc, q⟩ := q3
  cases (show u = Value.ref b from rx)
  have I4 : Inv X pins σ H3 { s3 with heap := s3.heap.push { cls := .type "slice", data := .fields #[vl, vu, .none] } } := I3.kept (t' := s3.toks) fun b ob q => Heap.get?_push_of_some _ q
  exact del_slice I4 hH (Heap.IsSliceOf.new ..) pl pu h0 hac hc fun s5 I5 => wpAny_deleteEach_nil ⟨σ, _, I5, q⟩
def gCut (to : TE) (tl th : TO) : TG := fun v σ H Q => to σ H fun x H1 => tl σ H1 fun lo H2 => th σ H2 fun hi H3 => ∃ (l b : Addr) (xs ys : List V) (a c : Int), x = .ref l ∧ v = .ref b ∧ lo = some a ∧ hi = some c ∧ H3 l = some (.lst xs) ∧ H3 b = some (.lst ys) ∧ l ≠ b ∧ 0 ≤ a ∧ a ≤ c ∧ c ≤ xs.length ∧ xs.length + ys.length ≤ sizeLine ∧ Q σ (upd H3 l (.lst (xs.take a.toNat ++ ys ++ xs.drop c.toNat)))
theorem part_rel {v : Value} {a : Int} (p : IsPart v (some a)) : RelV (.int a) v := by cases p; exact ⟨_, rfl⟩
theorem pg_cut {o : Expr} {lo hi : Option Expr} {to : TE} {tl th : TO} {p2 pos : Pos} (ho : PE X o to) (hl : PO X lo tl) (hu : PO X hi th)
    (ha : ∀ v, assign (.Subscript o (.Slice lo hi none p2) pos) X.env v = (do
      let ov ← holding [v] (eval o X.env)
      let iv ← holding [v, ov] (eval (.Slice lo hi none p2) X.env)
      standAt pos
      holding [v, ov, iv] (setItem ov iv v)
      release [iv, v, ov] []) := by intro _; rfl) : PG X (.Subscript o (.Slice lo hi none p2) pos) (gCut to tl th) := by
  refine ⟨fun pins s σ H v u Q I r h => ?_⟩
  rw [ha]
  refine wpAny_bind (wpAny_holding (thn (ho.run pins s σ H _ I h) fun ov s1 ⟨x, H1, I1, r1, q1⟩ => ?_))
  refine wpAny_bind (wpAny_holding ?_)
  refine wpAny_Slice (thn (hl.run pins s1 σ H1 _ I1 q1) fun vl s2 ⟨l, H2, I2, pl, q2⟩ => thn (hu.run pins s2 σ H2 _ I2 q2) fun vu s3 ⟨w, H3, I3, pu, q3⟩ => ?_)
  rw [evalPart_none]
  refine wpAny_pure ?_
  obtain ⟨a, b, xs, ys, i, c, rfl, rfl, rfl, rfl, hH, hB, ne, h0, hac, hc, hz, q⟩ := q3
  cases (show ov = Value.ref a from r1)
  cases (show u = Value.ref b from r)
  have I4 : Inv X pins σ H3 { s3 with heap := s3.heap.push { cls := .type "slice", data := .fields #[vl, vu, .none] } } := I3.kept (t' := s3.toks) fun b ob q => Heap.get?_push_of_some _ q
  exact wpAny_bind (wpAny_standAt (wpAny_bind (wpAny_holding (set_slice I4 hH hB ne (Heap.IsSliceOf.new ..) (part_rel pl) (part_rel pu) h0 hac hc hz fun s5 I5 => wpAny_release ⟨σ, _, I5, q⟩))))
end
end L2
namespace DL
open PySem PySem.Spec PyProof.Rows L2
section
variable {X : Cx} {g : Gx}
local instance (priority := 5000) (i b : Int) : Decidable (i < b) := dLtI i b
local instance (priority := 5000) (i b : Int) : Decidable (i ≤ b) := dLeI i b
/-- a place and two bounds -/
def cutF (q1 q2 : Bool) (mo : EM) (ml mh : OM) (k : Nat → List Str → List D → Int → Int → Ve → Option Ve) : Ve → Option Ve := fun env => match hold (q1 && q2) (mo env) with
  | .ok (.pl j p) e1 => match ml e1 with
    | .ok (some a) e2 => match mh e2 with
      | .ok (some c) e3 => match getP e3 j p with
        | some (.lst xs) => if 0 ≤ a ∧ a ≤ c ∧ c ≤ xs.length then k j p xs a c e3 else none
        | _ => none
      | _ => none
    | _ => none
  | _ => none
theorem cut_run {p q1 q2 : Bool} {mo : EM} {ml mh : OM} {k : Nat → List Str → List D → Int → Int → Ve → Option Ve} {Z : Hp} {env e9 : Ve} {σ : L2.St} {H : Hp} {fps : Nat → List Addr} {R : V → Option Int → Option Int → Hp → Prop}
    (s : StR g Z env σ H fps) (h : cutF q1 q2 mo ml mh k env = some e9)
    (hk : ∀ (j : Nat) (pt : List Str) (xs : List D) (a c : Int) (e3 : Ve) (b : Addr) (vs : List V) (Z3 H3 : Hp) (fps3 : Nat → List Addr), StR g Z3 e3 σ H3 fps3 → Same Z Z3 → 0 ≤ a → a ≤ c → c ≤ xs.length → k j pt xs a c e3 = some e9 → H3 b = some (.lst vs) → RDs Z3 vs xs →
      (∀ ws ys, RDs Z3 ws ys → StR g Z3 (putP j pt (.lst ys) e3) σ (upd H3 b (.lst ws)) fps3) → R (.ref b) (some a) (some c) H3) :
    (tE g p mo) σ H fun x H1 => (tR g q1 (fun _ _ _ _ (o o' : Option Int) => o = o') ml) σ H1 fun lo H2 => (tR g q2 (fun _ _ _ _ (o o' : Option Int) => o = o') mh) σ H2 fun hi H3 => R x lo hi H3 := by
  unfold cutF at h
  refine hold_run (q := q1 && q2) s (fun x e1 he v Z1 H1 fps1 s1 z1 k1 r1 => ?_) (fun x e1 he => ?_) (fun he => ?_)
  · rw [he] at h
    cases x with
    | pl j pt =>
      refine ⟨Z1, e1, fps1, s1, ?_⟩
      simp only at h
      cases e2 : ml e1 with
      | no => simp [e2] at h
      | ex x2 e3 => simp [e2] at h
      | ok l e3 =>
        rw [e2] at h
        intro l' Z2 H2 fps2 s2 z2 k2 r2
        subst r2
        refine ⟨Z2, e3, fps2, s2, ?_⟩
        cases l' with
        | none => cases h
        | some a =>
        simp only at h
        cases e4 : mh e3 with
        | no => simp [e4] at h
        | ex x2 e5 => simp [e4] at h
        | ok u e5 =>
          rw [e4] at h
          intro u' Z3 H3 fps3 s3 z3 k3 r3
          subst r3
          cases u' with
          | none => cases h
          | some c =>
          simp only at h
          have r1' := (r1.later z2 fun hq => (k2 (by simp at hq; exact hq.1)).2.2).later z3 fun hq => (k3 (by simp at hq; exact hq.2)).2.2
          obtain ⟨_, vj, hσ, hw⟩ := r1'
          split at h
          · rename_i xs hg
            split at h
            · rename_i hb
              obtain ⟨b, vs, eb, h1, h2, h3⟩ := s3.update hg hσ hw
              subst eb
              exact hk j pt xs a c e5 b vs Z3 H3 fps3 s3 ((z1.trans z2).trans z3) hb.1 hb.2.1 hb.2.2 h h1 h2 h3
            · cases h
          · cases h
    | _ => cases h
  · rw [he] at h; cases h
  · rw [he] at h; cases h
/-- del o[a:c] -/
def sDelS (q1 q2 : Bool) (mo : EM) (ml mh : OM) : SM := fun env => match cutF q1 q2 mo ml mh (fun j p xs a c e => some (putP j p (.lst (xs.take a.toNat ++ xs.drop c.toNat)) e)) env with
  | some e => .nx e
  | none => .no
theorem ds_delS {p q1 q2 : Bool} {o : Expr} {lo hi : Option Expr} {mo : EM} {ml mh : OM} {p2 tpos pos : Pos} (ho : DE X g p o mo) (hl : DO X g q1 lo ml) (hh : DO X g q2 hi mh) : DS X g (.Delete [.Subscript o (.Slice lo hi none p2) tpos] pos) (sDelS q1 q2 mo ml mh) := by
  refine PS.imp (ps_delS ho hl hh) fun D σ H ⟨Z, env, fps, s, h⟩ => ?_
  unfold sDelS at h
  split at h
  case h_2 => exact h.elim
  rename_i e9 he
  refine cut_run (R := fun x lo hi H3 => ∃ (l : Addr) (xs : List V) (a c : Int), x = .ref l ∧ lo = some a ∧ hi = some c ∧ H3 l = some (.lst xs) ∧ 0 ≤ a ∧ a ≤ c ∧ c ≤ xs.length ∧ D.nx σ (upd H3 l (.lst (xs.take a.toNat ++ xs.drop c.toNat)))) s he fun j pt xs a c e3 b vs Z3 H3 fps3 s3 z3 h0 hac hc hk h1 h2 h3 => ?_
  cases hk
  exact ⟨b, vs, a, c, rfl, rfl, rfl, h1, h0, hac, by rw [h2.length]; exact hc, h Z3 σ _ fps3 (h3 _ _ ((h2.take _).append (h2.drop _))) z3⟩
/-- o[a:c] = a list, as a target -/
def gCutD (q1 q2 : Bool) (mo : EM) (ml mh : OM) : GM := fun d env => match d with
  | .lst ys => cutF q1 q2 mo ml mh (fun j p xs a c e => if xs.length + ys.length ≤ lim then some (putP j p (.lst (xs.take a.toNat ++ ys ++ xs.drop c.toNat)) e) else none) env
  | _ => none
theorem dg_cut {p q1 q2 : Bool} {o : Expr} {lo hi : Option Expr} {mo : EM} {ml mh : OM} {p2 pos : Pos} (ho : DE X g p o mo) (hl : DO X g q1 lo ml) (hh : DO X g q2 hi mh)
    (ha : ∀ v, assign (.Subscript o (.Slice lo hi none p2) pos) X.env v = (do
      let ov ← holding [v] (eval o X.env)
      let iv ← holding [v, ov] (eval (.Slice lo hi none p2) X.env)
      standAt pos
      holding [v, ov, iv] (setItem ov iv v)
      release [iv, v, ov] []) := by intro _; rfl) : DG X g [] (.Subscript o (.Slice lo hi none p2) pos) (gCutD q1 q2 mo ml mh) := by
  refine PG.imp (pg_cut ho hl hh ha) fun v σ H Q ⟨Z, env, fps, d, s, r, h⟩ => ?_
  unfold gCutD at h
  cases d with
  | lst ys =>
    simp only at h
    split at h
    case h_2 => exact h.elim
    rename_i e9 he
    obtain ⟨b, ws, rfl, hb, rb⟩ : ∃ b ws, v = V.ref b ∧ Z b = some (.lst ws) ∧ RDs Z ws ys := by
      cases r with
      | lst hb rb => exact ⟨_, _, rfl, hb, rb⟩
    refine cut_run (R := fun x lo hi H3 => ∃ (l b' : Addr) (xs ys : List V) (a c : Int), x = .ref l ∧ V.ref b = .ref b' ∧ lo = some a ∧ hi = some c ∧ H3 l = some (.lst xs) ∧ H3 b' = some (.lst ys) ∧ l ≠ b' ∧ 0 ≤ a ∧ a ≤ c ∧ c ≤ xs.length ∧ xs.length + ys.length ≤ sizeLine ∧ Q σ (upd H3 l (.lst (xs.take a.toNat ++ ys ++ xs.drop c.toNat)))) s he fun j pt xs a c e3 l vs Z3 H3 fps3 s3 z3 h0 hac hc hk h1 h2 h3 => ?_
    split at hk
    case isFalse => cases hk
    rename_i hz
    cases hk
    have hb3 : Z3 b = some (.lst ws) := z3 _ _ hb
    have rb3 := rb.mono z3
    have ne : l ≠ b := fun c => by
      have q := (h3 (.int 0 :: ws) (.int 0 :: ys) (.cons .int rb3)).sub _ _ hb3
      rw [← c, upd_same] at q
      cases q
    exact ⟨l, b, vs, ws, a, c, rfl, rfl, rfl, rfl, h1, s3.sub _ _ hb3, ne, h0, hac, by rw [h2.length]; exact hc, by rw [h2.length, rb3.length, sizeLine_eq]; exact hz,
      h Z3 σ _ fps3 (h3 _ _ (((h2.take _).append rb3).append (h2.drop _))) z3 rfl fun _ _ => rfl⟩
  | _ => exact h.elim
end
end DL
namespace DL
open PySem PySem.Spec PyProof.Rows L2
/-! ### str(number) -/
section
variable {X : Cx}
def strD : List D → Option Ev
  | [.int i] => if i.natAbs.log2 < 1920 then some (.dat (.str (toString i))) else none
  | _ => none
theorem ok_str : CallOk X (.type "str") strD := by
  refine ⟨_, call_str_int, fun mg Z H vs ds ev Q s rs h q => ?_⟩
  unfold strD at h
  split at h
  · split at h
    · rename_i hl
      cases h
      obtain ⟨v, rfl, rv⟩ := rs.one
      cases rv.int
      exact ⟨_, rfl, hl, q _ _ _ (.refl s) .str⟩
    · cases h
  · cases h
end
end DL
namespace DL
open PySem PySem.Spec PyProof.Rows L2
/-! ### tuples that hold an owned thing at their end, their places -/
inductive EvRs (g : Gx) (Z H : Hp) (σ : L2.St) (fps : Nat → List Addr) : List V → List Ev → Prop
  | one {v : V} {x : Ev} : EvR g Z H σ fps v x → EvRs g Z H σ fps [v] [x]
  | cons {v : V} {x : Ev} {vs : List V} {xs : List Ev} : HvR true Z H σ v x → EvRs g Z H σ fps vs xs → EvRs g Z H σ fps (v :: vs) (x :: xs)
abbrev tAL (g : Gx) (pu : Bool) (m : AM) : TA := tR g pu (fun Z' H' σ fps vs xs => EvRs g Z' H' σ fps vs xs) m
abbrev DAL (X : Cx) (g : Gx) (pu : Bool) (es : List Expr) (m : AM) : Prop := PA X es (tAL g pu m)
def aLast (m : EM) : AM := fun env => (m env).bind fun x e => .ok [x] e
section
variable {X : Cx} {g : Gx}
theorem dal_one {p : Bool} {e : Expr} {me : EM} (h : DE X g p e me) (hs : starEach [e] X.env = (false, eval e X.env) :: starEach [] X.env := by rfl) : DAL X g p [e] (aLast me) :=
  PA.imp (pa_cons h pa_nil hs) fun σ H Q ⟨Z, env, fps, s, h⟩ => by
    refine ⟨Z, env, fps, s, ?_⟩
    unfold aLast at h
    cases e2 : me env with
    | no => simp [e2] at h
    | ex x e3 => simpa [e2] using h
    | ok x e3 =>
      simp only [e2, Res.bind_ok] at h
      exact fun v Z1 H1 fps1 s1 z1 k1 r1 => h [v] Z1 H1 fps1 s1 z1 k1 (.one r1)
theorem consL_run {p q : Bool} {me : EM} {mr : AM} {σ : L2.St} {H : Hp} {Q : List V → Hp → Prop} (h : tAL g (p && q) (aCons q me mr) σ H Q) : tCons (tE g p me) (tAL g q mr) σ H Q := by
  obtain ⟨Z, env, fps, s, h⟩ := h
  refine hold_run (q := q) s (fun x e1 he v Z1 H1 fps1 s1 z1 k1 r1 => ?_) (fun x e1 he => ?_) (fun he => ?_)
  · refine ⟨Z1, e1, fps1, s1, ?_⟩
    simp only [aCons, he, Res.bind_ok] at h
    cases e2 : mr e1 with
    | no => simp [e2] at h
    | ex x2 e3 =>
      rw [e2] at h
      exact fun cls d Z2 H2 fps2 s2 z2 xr => h cls d Z2 H2 fps2 s2 (z1.trans z2) xr
    | ok xs e3 =>
      simp only [e2, Res.bind_ok] at h
      refine fun vs Z2 H2 fps2 s2 z2 k2 r2 => h (v :: vs) Z2 H2 fps2 s2 (z1.trans z2) (fun hp => ?_) (.cons (r1.later z2 fun hq => (k2 hq).2.2).last r2)
      simp only [Bool.and_eq_true] at hp
      obtain ⟨a1, a2, a3⟩ := k1 hp.1
      obtain ⟨b1, b2, b3⟩ := k2 hp.2
      exact ⟨b1.trans a1, b2.trans a2, a3.trans b3⟩
  · simp only [aCons, he, Res.bind_ex] at h
    exact h
  · simp only [aCons, he, Res.bind_no, Post_no] at h
theorem dal_cons {p q : Bool} {e : Expr} {es : List Expr} {me : EM} {mr : AM} (h : DE X g p e me) (hr : DAL X g q es mr) (hs : starEach (e :: es) X.env = (false, eval e X.env) :: starEach es X.env := by rfl) : DAL X g (p && q) (e :: es) (aCons q me mr) :=
  PA.imp (pa_cons h hr hs) fun σ H Q h => consL_run h
/-- what a tuple with these elements is -/
inductive TpO where
  | dat (ds : List D) | own (ts : List O) | no
def tpO : List Ev → TpO
  | [] => .no
  | [.dat d] => .dat [d]
  | [.new t] => .own [t]
  | .dat d :: xs => match tpO xs with
    | .dat ds => .dat (d :: ds)
    | .own ts => .own (.dat d :: ts)
    | .no => .no
  | _ :: _ => .no
def eTupO (m : AM) : EM := fun env => (m env).bind fun xs e1 => match tpO xs with
  | .dat ds => if ds.length ≤ lim then .ok (.dat (.tup ds)) e1 else .no
  | .own ts => if ts.length ≤ lim then .ok (.new (.mtp ts)) e1 else .no
  | .no => .no
theorem tpO_dat {Z H : Hp} {σ : L2.St} {fps : Nat → List Addr} : ∀ {vs : List V} {xs : List Ev} {ds : List D}, EvRs g Z H σ fps vs xs → tpO xs = .dat ds → RDs Z vs ds
  | _, _, ds, .one (x := x) r, e => by
    cases x with
    | dat d => simp [tpO] at e; subst e; exact .cons r .nil
    | new t => simp [tpO] at e
    | pl j p => simp [tpO] at e
  | _, _, ds, .cons (x := x) (xs := xs) r rs, e => by
    cases x with
    | new t => exact r.elim
    | pl j p => cases xs <;> simp [tpO] at e
    | dat d =>
      cases xs with
      | nil => cases rs
      | cons y ys =>
        unfold tpO at e
        split at e
        · rename_i ds' h1
          cases e
          exact .cons r (tpO_dat rs h1)
        · cases e
        · cases e
theorem tpO_own {Z H : Hp} {σ : L2.St} {fps : Nat → List Addr} : ∀ {vs : List V} {xs : List Ev} {ts : List O}, EvRs g Z H σ fps vs xs → tpO xs = .own ts →
    ∃ fp, Owns g.mg Z H vs ts fp ∧ fp.Nodup ∧ ∀ a ∈ fp, Z a = none ∧ (∀ i, a ∉ fps i) ∧ (a ∈ g.n.F0 ∨ g.n.H0 a = none)
  | _, _, ts, .one (x := x) r, e => by
    cases x with
    | dat d => simp [tpO] at e
    | new t =>
      simp [tpO] at e; subst e
      obtain ⟨fp, h1, h2, h3⟩ := r
      exact ⟨fp ++ [], .cons h1 .nil, by simpa using h2, by simpa using h3⟩
    | pl j p => simp [tpO] at e
  | _, _, ts, .cons (x := x) (xs := xs) r rs, e => by
    cases x with
    | new t => exact r.elim
    | pl j p => cases xs <;> simp [tpO] at e
    | dat d =>
      cases xs with
      | nil => cases rs
      | cons y ys =>
        unfold tpO at e
        split at e
        · cases e
        · rename_i ts' h1
          cases e
          obtain ⟨fp, h1, h2, h3⟩ := tpO_own rs h1
          exact ⟨[] ++ fp, .cons (.dat r) h1, by simpa using h2, by simpa using h3⟩
        · cases e
theorem Owns.length {mg : Str → Option Value} {Z H : Hp} : ∀ {vs : List V} {ts : List O} {fp : List Addr}, Owns mg Z H vs ts fp → vs.length = ts.length
  | _, _, _, .nil => rfl
  | _, _, _, .cons _ r => congrArg Nat.succ (Owns.length r)
theorem de_tupO {p : Bool} {es : List Expr} {m : AM} {k pos} (h : DAL X g p es m) : DE X g p (.Tuple es k pos) (eTupO m) := by
  refine PE.imp (pe_tup h) fun σ H Q ⟨Z, env, fps, s, h⟩ => ⟨Z, env, fps, s, ?_⟩
  unfold eTupO at h
  cases e : m env with
  | no => simp [e] at h
  | ex x e1 => simpa [e] using h
  | ok xs e1 =>
    simp only [e, Res.bind_ok] at h
    intro vs Z1 H1 fps1 s1 z1 k1 r1
    cases h1 : tpO xs with
    | no => simp [h1] at h
    | dat ds =>
      simp only [h1] at h
      split at h
      · rename_i hl
        have rd := tpO_dat r1 h1
        refine ⟨lim_eq (by rw [rd.length]; exact hl), fun a ha => ?_⟩
        have f := Fresh.newZ (o := .tup vs) s1.sub ha
        refine h (.ref a) _ _ fps1 (s1.fresh f) (z1.trans f.z) (fun hp => ?_) (NewR.tup (mg := g.mg) s1.sub ha rd)
        obtain ⟨a1, a2, a3⟩ := k1 hp
        exact ⟨a1, a2, a3.trans f.h⟩
      · exact h.elim
    | own ts =>
      simp only [h1] at h
      split at h
      · rename_i hl
        obtain ⟨fp, ow, nd, hf⟩ := tpO_own r1 h1
        refine ⟨lim_eq (by rw [ow.length]; exact hl), fun a ha => ?_⟩
        have f := Fresh.new (o := .tup vs) s1.sub ha
        have s2 := s1.fresh f
        have na : a ∉ fp := fun m => by obtain ⟨o, ho⟩ := ow.there a m; rw [ha] at ho; cases ho
        refine h (.ref a) _ _ fps1 s2 z1 (fun hp => ?_) ⟨a :: fp, .mtp upd_same (ow.keep (.refl _) fun b hb => upd_ne fun e => na (e ▸ hb)), List.nodup_cons.mpr ⟨na, nd⟩, fun b m => ?_⟩
        · obtain ⟨a1, a2, a3⟩ := k1 hp
          exact ⟨a1, a2, a3.trans f.h⟩
        · rcases List.mem_cons.mp m with c | m
          · subst c
            refine ⟨?_, s1.new0 ha⟩
            cases q : Z1 b with
            | none => rfl
            | some o => rw [s1.sub _ _ q] at ha; cases ha
          · exact hf b m
      · exact h.elim
/-- a name whose thing is handed on -/
def eMov (j : Nat) : EM := fun env => match env[j]? with
  | some (.own t) => .ok (.new t) (dropS j env)
  | some (.dat d) => .ok (.dat d) env
  | _ => .no
theorem de_mov (j : Nat) {x : Str} {pos : Pos} (hN : X.N[j]? = some x := by rfl) (hv : Vis X.env.scope x := by first | exact Or.inl rfl | exact Or.inr (Or.inl rfl) | exact Or.inr (Or.inr rfl))
    (hd : (x == ("__debug__" : Str)) = false := by decide) (hcd : (x == ("__classdict__" : Str)) = false := by decide) : DE X g false (.Name x pos) (eMov j) := by
  refine PE.imp (pe_var hN hv hd hcd) fun σ H Q ⟨Z, env, fps, s, h⟩ => ?_
  unfold eMov at h
  split at h
  · rename_i t ht
    obtain ⟨v, h1, ow⟩ := s.slot j _ ht
    refine ⟨v, h1, h _ Z H _ (s.drop ht) (.refl _) (fun e => nomatch e) ⟨fps j, ow, s.nd j, fun a m => ⟨s.nz j a m, fun i mi => ?_, s.e4 j a m⟩⟩⟩
    by_cases c : i = j
    · simp [c] at mi
    · simp only [c, if_false] at mi
      exact c (s.dis i j a mi m)
  · rename_i d ht
    obtain ⟨_, v, h1, rd⟩ := s.slot j _ ht
    exact ⟨v, h1, h _ Z H _ s (.refl _) (fun e => nomatch e) rd⟩
  · exact h.elim
/-- x[k], k a number: a place in an owned tuple, too -/
def eIxC (k : Nat) (mo : EM) : EM := fun env => match mo env with
  | .ok (.pl j p) e1 => match getP e1 j p with
    | some (.mtp ts) => match ts[k]? with
      | some (.dat d) => .ok (.dat d) e1
      | some _ => .ok (.pl j (p ++ [ixS k])) e1
      | none => .no
    | _ => eOp2 true ixD mo (eD (.int k)) env
  | _ => eOp2 true ixD mo (eD (.int k)) env
theorem StR.mtpAt {Z H : Hp} {env : Ve} {σ : L2.St} {fps : Nat → List Addr} (s : StR g Z env σ H fps) {j : Nat} {p : List Str} {ts : List O} (hg : getP env j p = some (.mtp ts)) {vj v : V} (hσ : σ[j]? = some (some vj)) (hw : walk H vj p = some v) :
    ∃ a vs fp, v = .ref a ∧ H a = some (.tup vs) ∧ Owns g.mg Z H vs ts fp := by
  unfold getP at hg
  split at hg
  · rename_i t ht
    obtain ⟨v0, h1, ow⟩ := s.slot j _ ht
    rw [hσ] at h1
    cases h1
    obtain ⟨v', fp', h4, h5, _⟩ := ow.get hg
    rw [hw] at h4
    cases h4
    cases h5 with
    | mtp h r => exact ⟨_, _, _, rfl, h, r⟩
  · cases hg
theorem ixseq_run {X : Cx} {mg : Str → Option Value} {Z H : Hp} {v u : V} {d e : D} {ev : Ev} {Q : VK} (s : Same Z H) (rv : RN Z H v d) (ru : RN Z H u e) (h : ixD d e = some ev) (q : ∀ v' Z' H', Fresh Z H Z' H' → NewR mg H Z' H' v' ev → Q v' H') : rIx X.K v u H Q := by
  cases d with
  | lst xs =>
    cases e with
    | int i =>
      simp only [ixD, Option.map_eq_some_iff] at h
      obtain ⟨d, h1, rfl⟩ := h
      obtain ⟨a, vs, rfl, h2, r2⟩ := rv.lst s
      obtain ⟨w, h3, r3⟩ := r2.atI h1
      exact .inl ⟨a, vs, i, w, rfl, ru.int, .of h2, h3, q _ _ _ (.refl s) r3⟩
    | _ => cases h
  | tup xs =>
    cases e with
    | int i =>
      simp only [ixD, Option.map_eq_some_iff] at h
      obtain ⟨d, h1, rfl⟩ := h
      obtain ⟨a, vs, rfl, h2, r2⟩ := rv.tup s
      obtain ⟨w, h3, r3⟩ := r2.atI h1
      exact .inr (.inl ⟨a, vs, i, w, rfl, ru.int, .of h2, h3, q _ _ _ (.refl s) r3⟩)
    | _ => cases h
  | str z =>
    cases e with
    | int i =>
      simp only [ixD] at h
      split at h
      · rename_i hl
        simp only [Option.map_eq_some_iff] at h
        obtain ⟨c, h1, rfl⟩ := h
        exact .inr (.inr ⟨z, i, c, rv.str, ru.int, lim_eq hl, h1, q _ _ _ (.refl s) .str⟩)
      · cases h
    | _ => cases h
  | _ => cases h
theorem de_ixC {p : Bool} {k : Nat} {a : Expr} {ma : EM} {pk pos : Pos} {jj} (ha : DE X g p a ma) (hs : PlainIx (.Constant (.int (k : Int)) jj pk) := by exact (fun _ _ => rfl)) : DE X g p (.Subscript a (.Constant (.int (k : Int)) jj pk) pos) (eIxC k ma) := by
  have hb : DE X g true (.Constant (.int (k : Int)) jj pk) (eD (.int (k : Int))) := de_int
  refine PE.imp (pe_ix ix_seq ha hb hs) fun σ H Q hh => ?_
  obtain ⟨Z, env, fps, s, h⟩ := hh
  unfold eIxC at h
  split at h
  · rename_i j pp e1 hm
    split at h
    · rename_i ts hg
      refine ⟨Z, env, fps, s, ?_⟩
      rw [hm]
      intro v Z1 H1 fps1 s1 z1 k1 r1
      obtain ⟨vj, hσ, hw⟩ := r1
      obtain ⟨a, vs, fp, rfl, hv, ow⟩ := s1.mtpAt hg hσ hw
      refine ⟨Z1, e1, fps1, s1, fun u Z2 H2 fps2 s2 z2 k2 r2 => ?_⟩
      obtain ⟨-, b2, b3⟩ := k2 rfl
      subst b2
      cases r2
      split at h
      · rename_i d hd
        obtain ⟨w, f', h1, h2, _⟩ := ow.get hd
        cases h2 with
        | dat rd => exact .inr (.inl ⟨a, vs, k, w, rfl, rfl, .of (b3 _ _ hv), atI_nat h1, h w Z2 H2 fps2 s2 (z1.trans z2) (fun hp => ⟨(k1 hp).1, (k1 hp).2.1, (k1 hp).2.2.trans b3⟩) (rd.mono z2)⟩)
      · rename_i t hnd hd
        obtain ⟨w, f', h1, h2, _⟩ := ow.get hd
        refine .inr (.inl ⟨a, vs, k, w, rfl, rfl, .of (b3 _ _ hv), atI_nat h1, h w Z2 H2 fps2 s2 (z1.trans z2) (fun hp => ⟨(k1 hp).1, (k1 hp).2.1, (k1 hp).2.2.trans b3⟩) ⟨vj, hσ, ?_⟩⟩)
        rw [walk_app (walk_mono b3 hw)]
        unfold walk
        rw [b3 _ _ hv]
        show (vs[ixF (ixS k)]?).bind _ = _
        rw [ixF_ixS, h1]
        simp [walk]
      · exact h.elim
    · exact op2_run (p := p) (q := true) (fun mg Z H v u d e ev Q s rv ru h q => ixseq_run s rv ru h q) ⟨Z, env, fps, s, by rw [Bool.and_true]; exact h⟩
  · exact op2_run (p := p) (q := true) (fun mg Z H v u d e ev Q s rv ru h q => ixseq_run s rv ru h q) ⟨Z, env, fps, s, by rw [Bool.and_true]; exact h⟩
end
@[simp] theorem hold_mtp (q : Bool) (ts : List O) (e : Ve) : hold q (.ok (.new (.mtp ts)) e) = match (O.mtp ts).toD with
  | some d => .ok (.dat d) e
  | none => .no := rfl
end DL
namespace DL
open PySem L2
/-! ### evaluating mirrors by simp -/
@[simp] theorem hold_dat (q : Bool) (d : D) (e : Ve) : hold q (.ok (.dat d) e) = .ok (.dat d) e := rfl
@[simp] theorem hold_lst (q : Bool) (xs : List D) (e : Ve) : hold q (.ok (.new (.lst xs)) e) = .ok (.dat (.lst xs)) e := rfl
@[simp] theorem hold_newdat (q : Bool) (d : D) (e : Ve) : hold q (.ok (.new (.dat d)) e) = .ok (.dat d) e := rfl
@[simp] theorem hold_root (q : Bool) (j : Nat) (e : Ve) : hold q (.ok (.pl j []) e) = .ok (.pl j []) e := rfl
@[simp] theorem hold_pltrue (j : Nat) (p : List Str) (e : Ve) : hold true (.ok (.pl j p) e) = .ok (.pl j p) e := by cases p <;> rfl
@[simp] theorem hold_ex (q : Bool) (x : Exn) (e : Ve) : hold q (.ex x e) = .ex x e := rfl
@[simp] theorem hold_no (q : Bool) : hold q .no = .no := rfl
@[simp] theorem peek_dat (env : Ve) (d : D) : peek env (.dat d) = some d := rfl
theorem peek_pl (env : Ve) (j : Nat) (p : List Str) : peek env (.pl j p) = match env[j]? with | some (.own t) => (t.get p).bind O.flat | _ => none := rfl
@[simp] theorem get_nil (t : O) : t.get [] = some t := by cases t <;> rfl
@[simp] theorem set_nil (t x : O) : t.set [] x = x := by cases t <;> rfl
@[simp] theorem flat_lst (xs : List D) : O.flat (.lst xs) = some (.lst xs) := rfl
@[simp] theorem flat_dat (d : D) : O.flat (.dat d) = some d := rfl
/-! slots that hold no thing of their own -/
def Nw : S → Bool
  | .own _ => false
  | _ => true
@[simp] theorem Nw_un : Nw .un = true := rfl
@[simp] theorem Nw_dat (d : D) : Nw (.dat d) = true := rfl
@[simp] theorem Nw_al (j : Nat) (p : List Str) : Nw (.al j p) = true := rfl
@[simp] theorem Nw_own (t : O) : Nw (.own t) = false := rfl
def nwAt (i : Nat) (env : Ve) : Bool := match env[i]? with
  | some s => Nw s
  | none => true
theorem setS_nw {i : Nat} {x : S} {env : Ve} (h : nwAt i env = true) : setS i x env = env.set i x := by
  unfold nwAt at h
  unfold setS
  split
  · rename_i t ht
    rw [ht] at h
    cases h
  · rfl
@[simp] theorem nwAt_zero (s : S) (e : Ve) : nwAt 0 (s :: e) = Nw s := rfl
@[simp] theorem nwAt_succ (i : Nat) (s : S) (e : Ve) : nwAt (i + 1) (s :: e) = nwAt i e := rfl
/-- unbound or data -/
def Pl : S → Bool
  | .un => true
  | .dat _ => true
  | _ => false
@[simp] theorem Pl_un : Pl .un = true := rfl
@[simp] theorem Pl_dat (d : D) : Pl (.dat d) = true := rfl
@[simp] theorem nw_pl {s : S} (h : Pl s = true) : Nw s = true := by cases s <;> first | rfl | cases h
@[simp] theorem killS_un (i : Nat) : killS i .un = .un := rfl
@[simp] theorem killS_dat (i : Nat) (d : D) : killS i (.dat d) = .dat d := rfl
@[simp] theorem killS_own (i : Nat) (t : O) : killS i (.own t) = .own t := rfl
@[simp] theorem killS_al (i j : Nat) (p : List Str) : killS i (.al j p) = if j = i then .un else .al j p := rfl
@[simp] theorem killS_pl {i : Nat} {s : S} (h : Pl s = true) : killS i s = s := by cases s <;> first | rfl | cases h
@[simp] theorem killA_un : killA .un = .un := rfl
@[simp] theorem killA_dat (d : D) : killA (.dat d) = .dat d := rfl
@[simp] theorem killA_own (t : O) : killA (.own t) = .own t := rfl
@[simp] theorem killA_al (j : Nat) (p : List Str) : killA (.al j p) = .un := rfl
@[simp] theorem killA_pl {s : S} (h : Pl s = true) : killA s = s := by cases s <;> first | rfl | cases h
theorem setS_own {i : Nat} {x : S} {env : Ve} {t : O} (h : env[i]? = some (.own t)) : setS i x env = (env.map (killS i)).set i x := by
  unfold setS; rw [h]
theorem noOwn_nw (s : S) : noOwn (some s) = Nw s := by cases s <;> rfl
/-! ints in lists -/
theorem atI_zero {α : Type} (x : α) (xs : List α) : L2.atI (x :: xs) 0 = some x := by simp [L2.atI, L2.ixN]
theorem atI_pos {α : Type} {xs : List α} {i : Int} (h : 0 ≤ i) : L2.atI xs i = xs[i.toNat]? := by
  unfold L2.atI L2.ixN
  rw [if_pos h]
  by_cases c : i < xs.length
  · rw [if_pos c]; rfl
  · rw [if_neg c, List.getElem?_eq_none (by omega)]; rfl
theorem ixN_pos {n : Nat} {i : Int} (h : 0 ≤ i) (h2 : i < n) : L2.ixN n i = some i.toNat := by
  unfold L2.ixN; rw [if_pos h, if_pos h2]
theorem ixN_zero (n : Nat) : L2.ixN (n + 1) 0 = some 0 := ixN_pos (by omega) (by omega)
theorem eqOk_int (i : Int) : eqOk (.int i) = true := by simp [eqOk, D.nos, SeqAt.shaped, D.py, PyData.canLay0, PyData.depth]
theorem eqB_int (i j : Int) : eqB (.int i) (.int j) = decide (i = j) := by
  show (i == j) = decide (i = j)
  exact Bool.beq_eq_decide_eq i j
@[simp] theorem eqD_int (i j : Int) : eqD (.int i) (.int j) = some (.dat (.bl (decide (i = j)))) := by unfold eqD; rw [eqOk_int, eqOk_int, eqB_int]; rfl
@[simp] theorem neD_int (i j : Int) : neD (.int i) (.int j) = some (.dat (.bl (!decide (i = j)))) := by unfold neD; rw [eqOk_int, eqOk_int, eqB_int]; rfl
/-! loops by invariants -/
theorem forL_inv {gm : GM} {body : SM} {I : Ve → Prop} : ∀ {ds : List D} {e : Ve}, I e → (∀ d ∈ ds, ∀ e, I e → ∃ e1, gm d e = some e1 ∧ ∃ e2, (body e1 = .nx e2 ∨ body e1 = .ct e2) ∧ I e2) → ∃ e', forL gm body ds e = .nx e' ∧ I e'
  | [], e, h, _ => ⟨e, rfl, h⟩
  | d :: ds, e, h, k => by
    obtain ⟨e1, h1, e2, h2, h3⟩ := k d (List.mem_cons_self) e h
    obtain ⟨e', h4, h5⟩ := forL_inv (ds := ds) h3 fun d' hd => k d' (List.mem_cons_of_mem _ hd)
    refine ⟨e', ?_, h5⟩
    rcases h2 with h2 | h2
    · simp only [forL, h1, h2, h4]
    · simp only [forL, h1, h2, h4]
/-- .. that may be left by break -/
theorem forL_brk {gm : GM} {body : SM} {I J : Ve → Prop} (IJ : ∀ e, I e → J e) : ∀ {ds : List D} {e : Ve}, I e → (∀ d ∈ ds, ∀ e, I e → ∃ e1, gm d e = some e1 ∧ ∃ e2, ((body e1 = .nx e2 ∨ body e1 = .ct e2) ∧ I e2) ∨ (body e1 = .bk e2 ∧ J e2)) → ∃ e', forL gm body ds e = .nx e' ∧ J e'
  | [], e, h, _ => ⟨e, rfl, IJ e h⟩
  | d :: ds, e, h, k => by
    obtain ⟨e1, h1, e2, h2⟩ := k d (List.mem_cons_self) e h
    rcases h2 with ⟨h2, h3⟩ | ⟨h2, h3⟩
    · obtain ⟨e', h4, h5⟩ := forL_brk IJ (ds := ds) h3 fun d' hd => k d' (List.mem_cons_of_mem _ hd)
      refine ⟨e', ?_, h5⟩
      rcases h2 with h2 | h2
      · simp only [forL, h1, h2, h4]
      · simp only [forL, h1, h2, h4]
    · exact ⟨e2, by simp only [forL, h1, h2], h3⟩
end DL
namespace DL
open PySem L2
/-! ### lists of ints -/
def mi (w : List Int) : List D := w.map D.int
theorem mi_eq (w : List Int) : mi w = w.map D.int := rfl
@[simp] theorem mi_length (w : List Int) : (mi w).length = w.length := by simp [mi]
@[simp] theorem mi_append (a b : List Int) : mi a ++ mi b = mi (a ++ b) := by simp [mi]
@[simp] theorem mi_app1 (a : List Int) (x : Int) : mi a ++ [D.int x] = mi (a ++ [x]) := by simp [mi]
@[simp] theorem mi_app2 (a : List Int) (x y : Int) : mi a ++ [D.int x, D.int y] = mi (a ++ [x, y]) := by simp [mi]
@[simp] theorem mi_reverse (a : List Int) : (mi a).reverse = mi a.reverse := by simp [mi]
@[simp] theorem mi_set (a : List Int) (i : Nat) (x : Int) : (mi a).set i (D.int x) = mi (a.set i x) := by simp [mi, List.map_set]
@[simp] theorem mi_get (a : List Int) (i : Nat) : (mi a)[i]? = a[i]?.map D.int := by simp [mi]
@[simp] theorem mi_atI (a : List Int) (i : Int) : L2.atI (mi a) i = (L2.atI a i).map D.int := by
  unfold L2.atI; rw [mi_length]; cases L2.ixN a.length i with
  | none => rfl
  | some k => simp
@[simp] theorem mi_dropLast (a : List Int) : (mi a).dropLast = mi a.dropLast := by simp [mi, List.map_dropLast]
@[simp] theorem mi_cut (a : List Int) (lo hi : Option Int) : cut (mi a) lo hi = mi (cut a lo hi) := by simp [cut, mi, List.map_take, List.map_drop]
@[simp] theorem mi_rep (a : List Int) (k : Nat) : (List.replicate k (mi a)).flatten = mi (List.replicate k a).flatten := by simp [mi, List.map_flatten]
@[simp] theorem lst_0 : D.lst [] = D.lst (mi []) := rfl
@[simp] theorem lst_1 (a : Int) : D.lst [.int a] = D.lst (mi [a]) := rfl
@[simp] theorem lst_2 (a b : Int) : D.lst [.int a, .int b] = D.lst (mi [a, b]) := rfl
@[simp] theorem lst_3 (a b c : Int) : D.lst [.int a, .int b, .int c] = D.lst (mi [a, b, c]) := rfl
@[simp] theorem lst_4 (a b c d : Int) : D.lst [.int a, .int b, .int c, .int d] = D.lst (mi [a, b, c, d]) := rfl
@[simp] theorem lst_5 (a b c d e : Int) : D.lst [.int a, .int b, .int c, .int d, .int e] = D.lst (mi [a, b, c, d, e]) := rfl
@[simp] theorem lst_6 (a b c d e f : Int) : D.lst [.int a, .int b, .int c, .int d, .int e, .int f] = D.lst (mi [a, b, c, d, e, f]) := rfl
@[simp] theorem lst_7 (a b c d e f g : Int) : D.lst [.int a, .int b, .int c, .int d, .int e, .int f, .int g] = D.lst (mi [a, b, c, d, e, f, g]) := rfl
@[simp] theorem lst_8 (a b c d e f g h : Int) : D.lst [.int a, .int b, .int c, .int d, .int e, .int f, .int g, .int h] = D.lst (mi [a, b, c, d, e, f, g, h]) := rfl
@[simp] theorem olst_0 : O.lst [] = O.lst (mi []) := rfl
@[simp] theorem olst_1 (a : Int) : O.lst [.int a] = O.lst (mi [a]) := rfl
@[simp] theorem olst_2 (a b : Int) : O.lst [.int a, .int b] = O.lst (mi [a, b]) := rfl
@[simp] theorem olst_3 (a b c : Int) : O.lst [.int a, .int b, .int c] = O.lst (mi [a, b, c]) := rfl
@[simp] theorem olst_4 (a b c d : Int) : O.lst [.int a, .int b, .int c, .int d] = O.lst (mi [a, b, c, d]) := rfl
@[simp] theorem olst_5 (a b c d e : Int) : O.lst [.int a, .int b, .int c, .int d, .int e] = O.lst (mi [a, b, c, d, e]) := rfl
@[simp] theorem olst_6 (a b c d e f : Int) : O.lst [.int a, .int b, .int c, .int d, .int e, .int f] = O.lst (mi [a, b, c, d, e, f]) := rfl
@[simp] theorem olst_7 (a b c d e f g : Int) : O.lst [.int a, .int b, .int c, .int d, .int e, .int f, .int g] = O.lst (mi [a, b, c, d, e, f, g]) := rfl
@[simp] theorem olst_8 (a b c d e f g h : Int) : O.lst [.int a, .int b, .int c, .int d, .int e, .int f, .int g, .int h] = O.lst (mi [a, b, c, d, e, f, g, h]) := rfl
@[simp] theorem intsOf_mi : ∀ w : List Int, intsOf (mi w) = some w
  | [] => rfl
  | i :: w => by
    show (intsOf (mi w)).map (i :: ·) = _
    rw [intsOf_mi w]; rfl
def rg (lo : Int) (n : Nat) : List Int := (List.range n).map fun (i : Nat) => lo + (i : Int)
@[simp] theorem rangeL_mi (lo : Int) (n : Nat) : rangeL lo n = mi (rg lo n) := by simp [rangeL, mi, rg]
@[simp] theorem rg_length (lo : Int) (n : Nat) : (rg lo n).length = n := by simp [rg]
theorem rg_mem {lo : Int} {n : Nat} {x : Int} (h : x ∈ rg lo n) : lo ≤ x ∧ x < lo + n := by
  simp only [rg, List.mem_map, List.mem_range] at h
  obtain ⟨i, hi, rfl⟩ := h
  omega
@[simp] theorem absD_int (i : Int) : absD [.int i] = some (.dat (.int (i.natAbs : Int))) := by
  show some (Ev.dat (D.int (if i < 0 then -i else i))) = _
  congr 3
  split <;> omega
@[simp] theorem maxD_int (i j : Int) : maxD [.int i, .int j] = some (.dat (.int (max i j))) := by
  show some (Ev.dat (D.int (if j > i then j else i))) = _
  congr 3
  split <;> omega
@[simp] theorem minD_int (i j : Int) : minD [.int i, .int j] = some (.dat (.int (min i j))) := by
  show some (Ev.dat (D.int (if j < i then j else i))) = _
  congr 3
  split <;> omega
/-! ranges -/
/-- by choice, so that the kernel does not count -/
noncomputable def smI (j : Int) : Bool := @decide (-(2 ^ 62) ≤ j ∧ j < 2 ^ 62) (Classical.propDecidable _)
theorem smI_iff (j : Int) : smI j = true ↔ -(2 ^ 62) ≤ j ∧ j < 2 ^ 62 := @decide_eq_true_iff _ (Classical.propDecidable _)
theorem smI_nat {j : Int} (h : -16777216 ≤ j) (h2 : j ≤ 16777216) : smI j = true := (smI_iff j).2 ⟨by omega, by omega⟩
@[simp] theorem smI_0 : smI 0 = true := smI_nat (by omega) (by omega)
@[simp] theorem smI_1 : smI 1 = true := smI_nat (by omega) (by omega)
@[simp] theorem smI_2 : smI 2 = true := smI_nat (by omega) (by omega)
@[simp] theorem smI_3 : smI 3 = true := smI_nat (by omega) (by omega)
@[simp] theorem smI_4 : smI 4 = true := smI_nat (by omega) (by omega)
@[simp] theorem smI_5 : smI 5 = true := smI_nat (by omega) (by omega)
@[simp] theorem smI_6 : smI 6 = true := smI_nat (by omega) (by omega)
@[simp] theorem smI_7 : smI 7 = true := smI_nat (by omega) (by omega)
@[simp] theorem smI_8 : smI 8 = true := smI_nat (by omega) (by omega)
@[simp] theorem smI_9 : smI 9 = true := smI_nat (by omega) (by omega)
@[simp] theorem smI_10 : smI 10 = true := smI_nat (by omega) (by omega)
@[simp] theorem smI_11 : smI 11 = true := smI_nat (by omega) (by omega)
@[simp] theorem smI_12 : smI 12 = true := smI_nat (by omega) (by omega)
@[simp] theorem smI_13 : smI 13 = true := smI_nat (by omega) (by omega)
@[simp] theorem smI_14 : smI 14 = true := smI_nat (by omega) (by omega)
@[simp] theorem smI_15 : smI 15 = true := smI_nat (by omega) (by omega)
@[simp] theorem smI_16 : smI 16 = true := smI_nat (by omega) (by omega)
@[simp] theorem smI_17 : smI 17 = true := smI_nat (by omega) (by omega)
@[simp] theorem smI_18 : smI 18 = true := smI_nat (by omega) (by omega)
@[simp] theorem smI_19 : smI 19 = true := smI_nat (by omega) (by omega)
@[simp] theorem smI_20 : smI 20 = true := smI_nat (by omega) (by omega)
@[simp] theorem smI_21 : smI 21 = true := smI_nat (by omega) (by omega)
@[simp] theorem smI_22 : smI 22 = true := smI_nat (by omega) (by omega)
@[simp] theorem smI_23 : smI 23 = true := smI_nat (by omega) (by omega)
@[simp] theorem smI_24 : smI 24 = true := smI_nat (by omega) (by omega)
@[simp] theorem smI_25 : smI 25 = true := smI_nat (by omega) (by omega)
@[simp] theorem smI_26 : smI 26 = true := smI_nat (by omega) (by omega)
@[simp] theorem smI_27 : smI 27 = true := smI_nat (by omega) (by omega)
@[simp] theorem smI_28 : smI 28 = true := smI_nat (by omega) (by omega)
@[simp] theorem smI_29 : smI 29 = true := smI_nat (by omega) (by omega)
@[simp] theorem smI_30 : smI 30 = true := smI_nat (by omega) (by omega)
@[simp] theorem smI_31 : smI 31 = true := smI_nat (by omega) (by omega)
@[simp] theorem smI_32 : smI 32 = true := smI_nat (by omega) (by omega)
@[simp] theorem smI_33 : smI 33 = true := smI_nat (by omega) (by omega)
@[simp] theorem smI_34 : smI 34 = true := smI_nat (by omega) (by omega)
@[simp] theorem smI_35 : smI 35 = true := smI_nat (by omega) (by omega)
@[simp] theorem smI_36 : smI 36 = true := smI_nat (by omega) (by omega)
@[simp] theorem smI_37 : smI 37 = true := smI_nat (by omega) (by omega)
@[simp] theorem smI_38 : smI 38 = true := smI_nat (by omega) (by omega)
@[simp] theorem smI_39 : smI 39 = true := smI_nat (by omega) (by omega)
@[simp] theorem smI_40 : smI 40 = true := smI_nat (by omega) (by omega)
@[simp] theorem smI_41 : smI 41 = true := smI_nat (by omega) (by omega)
@[simp] theorem smI_42 : smI 42 = true := smI_nat (by omega) (by omega)
@[simp] theorem smI_43 : smI 43 = true := smI_nat (by omega) (by omega)
@[simp] theorem smI_44 : smI 44 = true := smI_nat (by omega) (by omega)
@[simp] theorem smI_45 : smI 45 = true := smI_nat (by omega) (by omega)
@[simp] theorem smI_46 : smI 46 = true := smI_nat (by omega) (by omega)
@[simp] theorem smI_47 : smI 47 = true := smI_nat (by omega) (by omega)
@[simp] theorem smI_48 : smI 48 = true := smI_nat (by omega) (by omega)
@[simp] theorem smI_49 : smI 49 = true := smI_nat (by omega) (by omega)
@[simp] theorem smI_50 : smI 50 = true := smI_nat (by omega) (by omega)
@[simp] theorem smI_51 : smI 51 = true := smI_nat (by omega) (by omega)
@[simp] theorem smI_52 : smI 52 = true := smI_nat (by omega) (by omega)
@[simp] theorem smI_53 : smI 53 = true := smI_nat (by omega) (by omega)
@[simp] theorem smI_54 : smI 54 = true := smI_nat (by omega) (by omega)
@[simp] theorem smI_55 : smI 55 = true := smI_nat (by omega) (by omega)
@[simp] theorem smI_56 : smI 56 = true := smI_nat (by omega) (by omega)
@[simp] theorem smI_57 : smI 57 = true := smI_nat (by omega) (by omega)
@[simp] theorem smI_58 : smI 58 = true := smI_nat (by omega) (by omega)
@[simp] theorem smI_59 : smI 59 = true := smI_nat (by omega) (by omega)
@[simp] theorem smI_60 : smI 60 = true := smI_nat (by omega) (by omega)
@[simp] theorem smI_61 : smI 61 = true := smI_nat (by omega) (by omega)
@[simp] theorem smI_62 : smI 62 = true := smI_nat (by omega) (by omega)
@[simp] theorem smI_63 : smI 63 = true := smI_nat (by omega) (by omega)
@[simp] theorem smI_64 : smI 64 = true := smI_nat (by omega) (by omega)
@[simp] theorem smI_100 : smI 100 = true := smI_nat (by omega) (by omega)
@[simp] theorem smI_120 : smI 120 = true := smI_nat (by omega) (by omega)
@[simp] theorem smI_200 : smI 200 = true := smI_nat (by omega) (by omega)
@[simp] theorem smI_300 : smI 300 = true := smI_nat (by omega) (by omega)
@[simp] theorem smI_400 : smI 400 = true := smI_nat (by omega) (by omega)
noncomputable def iR1f : List Ev → Ve → Res (List D)
  | [.dat (.int j)], e => if smI j = true then .ok (rangeL 0 j.toNat) e else .no
  | _, _ => .no
theorem iR1_eq (m : AM) : iR1 m = fun env => (m env).bind iR1f := by
  funext env
  unfold iR1
  congr 1
  funext xs e
  unfold iR1f
  split
  · simp only [smI_iff]
    split <;> first | rfl | (rename_i hh; first | rw [if_pos hh] | rw [if_neg hh])
  · rename_i hno
    split
    · exact (hno _ rfl).elim
    · rfl
noncomputable def iR2f : List Ev → Ve → Res (List D)
  | [.dat (.int i), .dat (.int j)], e => if smI i = true ∧ smI j = true then .ok (rangeL i (j - i).toNat) e else .no
  | _, _ => .no
theorem iR2_eq (m : AM) : iR2 m = fun env => (m env).bind iR2f := by
  funext env
  unfold iR2
  congr 1
  funext xs e
  unfold iR2f
  split
  · simp only [smI_iff, and_assoc]
    split <;> first | rfl | (rename_i hh; first | rw [if_pos hh] | rw [if_neg hh])
  · rename_i hno
    split
    · exact (hno _ _ rfl).elim
    · rfl
noncomputable def iR3f : List Ev → Ve → Res (List D)
  | [.dat (.int i), .dat (.int j), .dat (.int c)], e => if c = -1 ∧ smI i = true ∧ smI j = true then .ok (rangeC i (-1) (i - j).toNat) e else .no
  | _, _ => .no
theorem iR3_eq (m : AM) : iR3 m = fun env => (m env).bind iR3f := by
  funext env
  unfold iR3
  congr 1
  funext xs e
  unfold iR3f
  split
  · simp only [smI_iff, and_assoc]
    split <;> first | rfl | (rename_i hh; first | rw [if_pos hh] | rw [if_neg hh])
  · rename_i hno
    split
    · exact (hno _ _ _ rfl).elim
    · rfl
/-! equality -/
theorem eqOk_mi (w : List Int) : eqOk (.lst (mi w)) = true := by
  have h1 : ∀ w : List Int, D.nos.go (mi w) = true := by
    intro w
    induction w with
    | nil => rfl
    | cons i w ih => exact ih
  have h2 : ∀ w : List Int, PyData.canLayAll0 (D.py.pys (mi w)) = true := by
    intro w
    induction w with
    | nil => simp [mi, D.py.pys, PyData.canLayAll0]
    | cons i w ih => simpa [mi, D.py.pys, PyData.canLayAll0, D.py, PyData.canLay0] using ih
  have h3 : ∀ w : List Int, PyData.depthAll (D.py.pys (mi w)) = 0 := by
    intro w
    induction w with
    | nil => simp [mi, D.py.pys, PyData.depthAll]
    | cons i w ih => simpa [mi, D.py.pys, PyData.depthAll, D.py, PyData.depth] using ih
  simp [eqOk, D.nos, SeqAt.shaped, D.py, PyData.canLay0, PyData.depth, h1, h2, h3]
theorem eqvAll_mi : ∀ a b : List Int, PyData.eqvAll (D.py.pys (mi a)) (D.py.pys (mi b)) = decide (a = b)
  | [], [] => by simp [mi, D.py.pys, PyData.eqvAll]
  | [], y :: b => by simp [mi, D.py.pys, PyData.eqvAll]
  | x :: a, [] => by simp [mi, D.py.pys, PyData.eqvAll]
  | x :: a, y :: b => by
    have ih := eqvAll_mi a b
    simp only [mi, List.map_cons, D.py.pys, PyData.eqvAll, D.py, PyData.eqv] at ih ⊢
    rw [ih]
    by_cases h1 : x = y <;> by_cases h2 : a = b <;> simp [h1, h2]
theorem eqB_mi (a b : List Int) : eqB (.lst (mi a)) (.lst (mi b)) = decide (a = b) := by
  simp only [eqB, D.py, PyData.eqv]
  exact eqvAll_mi a b
@[simp] theorem eqD_mi (a b : List Int) : eqD (.lst (mi a)) (.lst (mi b)) = some (.dat (.bl (decide (a = b)))) := by unfold eqD; rw [eqOk_mi, eqOk_mi, eqB_mi]; rfl
@[simp] theorem neD_mi (a b : List Int) : neD (.lst (mi a)) (.lst (mi b)) = some (.dat (.bl (!decide (a = b)))) := by unfold neD; rw [eqOk_mi, eqOk_mi, eqB_mi]; rfl
theorem eqOk_bl (b : Bool) : eqOk (.bl b) = true := by simp [eqOk, D.nos, SeqAt.shaped, D.py, PyData.canLay0, PyData.depth]
@[simp] theorem eqD_bl (a b : Bool) : eqD (.bl a) (.bl b) = some (.dat (.bl (a == b))) := by
  unfold eqD; rw [eqOk_bl, eqOk_bl]; simp only [eqB, D.py, PyData.eqv]; rfl
theorem eqB_str (a b : Str) : eqB (.str a) (.str b) = decide (a = b) := by
  simp only [eqB, D.py, PyData.eqv]
  by_cases h : a = b
  · subst h; simp
  · simp [h]
@[simp] theorem eqD_str (a b : Str) : eqD (.str a) (.str b) = some (.dat (.bl (decide (a = b)))) := by
  unfold eqD
  split
  · rw [eqB_str]
  · rfl
@[simp] theorem neD_str (a b : Str) : neD (.str a) (.str b) = some (.dat (.bl (!decide (a = b)))) := by
  unfold neD
  split
  · rw [eqB_str]
  · rfl
@[simp] theorem isB_int (i : Int) (b : Bool) : D.isB (.int i) b = false := rfl
@[simp] theorem isB_str (i : Str) (b : Bool) : D.isB (.str i) b = false := rfl
@[simp] theorem isB_lst (i : List D) (b : Bool) : D.isB (.lst i) b = false := rfl
@[simp] theorem isB_tup (i : List D) (b : Bool) : D.isB (.tup i) b = false := rfl
@[simp] theorem isB_non (b : Bool) : D.isB .non b = false := rfl
@[simp] theorem isB_bl (a b : Bool) : D.isB (.bl a) b = (a == b) := rfl
@[simp] theorem ne_int_non (i : Int) : isD (.int i) .non = some (.dat (.bl false)) := rfl
@[simp] theorem isN_int (i : Int) : D.isN (.int i) = false := rfl
@[simp] theorem isN_bl (i : Bool) : D.isN (.bl i) = false := rfl
@[simp] theorem isN_lst (i : List D) : D.isN (.lst i) = false := rfl
@[simp] theorem isN_tup (i : List D) : D.isN (.tup i) = false := rfl
@[simp] theorem isN_str (i : Str) : D.isN (.str i) = false := rfl
@[simp] theorem isN_non : D.isN .non = true := rfl
/-! isinstance -/
@[simp] theorem isi_bool_non  : isiD "bool" .non = some false := by rfl
@[simp] theorem isi_bool_bl (b : Bool) : isiD "bool" (.bl b) = some true := by rfl
@[simp] theorem isi_bool_int (b : Int) : isiD "bool" (.int b) = some false := by rfl
@[simp] theorem isi_bool_str (b : Str) : isiD "bool" (.str b) = some false := by rfl
@[simp] theorem isi_bool_lst (b : List D) : isiD "bool" (.lst b) = some false := by rfl
@[simp] theorem isi_bool_tup (b : List D) : isiD "bool" (.tup b) = some false := by rfl
@[simp] theorem isi_int_non  : isiD "int" .non = some false := by rfl
@[simp] theorem isi_int_bl (b : Bool) : isiD "int" (.bl b) = some true := by rfl
@[simp] theorem isi_int_int (b : Int) : isiD "int" (.int b) = some true := by rfl
@[simp] theorem isi_int_str (b : Str) : isiD "int" (.str b) = some false := by rfl
@[simp] theorem isi_int_lst (b : List D) : isiD "int" (.lst b) = some false := by rfl
@[simp] theorem isi_int_tup (b : List D) : isiD "int" (.tup b) = some false := by rfl
@[simp] theorem isi_str_non  : isiD "str" .non = some false := by rfl
@[simp] theorem isi_str_bl (b : Bool) : isiD "str" (.bl b) = some false := by rfl
@[simp] theorem isi_str_int (b : Int) : isiD "str" (.int b) = some false := by rfl
@[simp] theorem isi_str_str (b : Str) : isiD "str" (.str b) = some true := by rfl
@[simp] theorem isi_str_lst (b : List D) : isiD "str" (.lst b) = some false := by rfl
@[simp] theorem isi_str_tup (b : List D) : isiD "str" (.tup b) = some false := by rfl
@[simp] theorem isi_list_non  : isiD "list" .non = some false := by rfl
@[simp] theorem isi_list_bl (b : Bool) : isiD "list" (.bl b) = some false := by rfl
@[simp] theorem isi_list_int (b : Int) : isiD "list" (.int b) = some false := by rfl
@[simp] theorem isi_list_str (b : Str) : isiD "list" (.str b) = some false := by rfl
@[simp] theorem isi_list_lst (b : List D) : isiD "list" (.lst b) = some true := by rfl
@[simp] theorem isi_list_tup (b : List D) : isiD "list" (.tup b) = some false := by rfl
@[simp] theorem isi_tuple_non  : isiD "tuple" .non = some false := by rfl
@[simp] theorem isi_tuple_bl (b : Bool) : isiD "tuple" (.bl b) = some false := by rfl
@[simp] theorem isi_tuple_int (b : Int) : isiD "tuple" (.int b) = some false := by rfl
@[simp] theorem isi_tuple_str (b : Str) : isiD "tuple" (.str b) = some false := by rfl
@[simp] theorem isi_tuple_lst (b : List D) : isiD "tuple" (.lst b) = some false := by rfl
@[simp] theorem isi_tuple_tup (b : List D) : isiD "tuple" (.tup b) = some true := by rfl
/-! comprehensions -/
theorem comp_mi {own : List Nat} {gm : GM} {tm : TM} {em : EM} {env : Ve} {p : Int → Bool} {f : Int → Int} (hf : freeV own env = true) : ∀ {w : List Int} {acc : List Int}, acc.length + w.length ≤ lim →
    (∀ i ∈ w, ∃ e2, gm (.int i) (wipeV own env) = some e2 ∧ ∃ e3, tm e2 = .ok (p i) e3 ∧
      (p i = true → ∃ e4, hold true (em e3) = .ok (.dat (.int (f i))) e4 ∧ freeV own e4 = true ∧ e4.length = env.length ∧ restV own env e4 = env) ∧
      (p i = false → freeV own e3 = true ∧ e3.length = env.length ∧ restV own env e3 = env)) →
    compL own gm tm em (mi w) env (mi acc) = .ok (.new (.lst (mi (acc ++ (w.filter p).map f)))) env
  | [], acc, _, _ => by simp [mi, compL]
  | i :: w, acc, hl, h => by
    obtain ⟨e2, h1, e3, h2, h3, h4⟩ := h i List.mem_cons_self
    have ih := fun a ha => comp_mi (own := own) (gm := gm) (tm := tm) (em := em) (p := p) (f := f) hf (w := w) (acc := a) ha fun j hj => h j (List.mem_cons_of_mem _ hj)
    simp only [List.length_cons] at hl
    show compL own gm tm em (D.int i :: mi w) env (mi acc) = _
    unfold compL
    rw [if_pos hf]
    simp only [h1, h2]
    cases hp : p i with
    | true =>
      obtain ⟨e4, k1, k2, k3, k4⟩ := h3 hp
      rw [List.filter_cons_of_pos hp]
      simp only [k1]
      rw [if_pos ⟨by simp only [mi_length]; simp only [lim] at hl ⊢; omega, k2, k3⟩, k4, mi_app1, ih (acc ++ [f i]) (by simp only [List.length_append, List.length_singleton]; omega)]
      simp
    | false =>
      obtain ⟨k2, k3, k4⟩ := h4 hp
      rw [List.filter_cons_of_neg (by simp [hp])]
      simp only []
      rw [if_pos ⟨k2, k3⟩, k4, ih acc (by omega)]
theorem comp_map {own : List Nat} {gm : GM} {em : EM} {env : Ve} (f : Int → Int) {w : List Int} (hf : freeV own env = true) (hl : w.length ≤ lim)
    (h : ∀ i ∈ w, ∃ e2, gm (.int i) (wipeV own env) = some e2 ∧ ∃ e4, hold true (em e2) = .ok (.dat (.int (f i))) e4 ∧ freeV own e4 = true ∧ e4.length = env.length ∧ restV own env e4 = env) :
    compL own gm tYesM em (mi w) env [] = .ok (.new (.lst (mi (w.map f)))) env := by
  have := comp_mi (own := own) (gm := gm) (tm := tYesM) (em := em) (p := fun _ => true) (f := f) hf (w := w) (acc := []) (by simpa using hl) (fun i hi => by
    obtain ⟨e2, h1, e4, h2⟩ := h i hi
    exact ⟨e2, h1, e2, rfl, fun _ => ⟨e4, h2⟩, fun h => nomatch h⟩)
  have hfl : w.filter (fun _ => true) = w := List.filter_eq_self.2 fun _ _ => rfl
  rw [hfl] at this
  rw [List.nil_append] at this
  exact this
theorem comp_flt {own : List Nat} {gm : GM} {tm : TM} {em : EM} {env : Ve} (p : Int → Bool) {w : List Int} (hf : freeV own env = true) (hl : w.length ≤ lim)
    (h : ∀ i ∈ w, ∃ e2, gm (.int i) (wipeV own env) = some e2 ∧ tm e2 = .ok (p i) e2 ∧ hold true (em e2) = .ok (.dat (.int i)) e2 ∧ freeV own e2 = true ∧ e2.length = env.length ∧ restV own env e2 = env) :
    compL own gm tm em (mi w) env [] = .ok (.new (.lst (mi (w.filter p)))) env := by
  have := comp_mi (own := own) (gm := gm) (tm := tm) (em := em) (p := p) (f := fun x => x) hf (w := w) (acc := []) (by simpa using hl) (fun i hi => by
    obtain ⟨e2, h1, h2, h3, h4⟩ := h i hi
    exact ⟨e2, h1, e2, h2, fun _ => ⟨e2, h3, h4⟩, fun _ => h4⟩)
  rw [List.nil_append, List.map_id'' (fun _ => rfl)] at this
  exact this
/-- bools as items -/
def mb (w : List Bool) : List D := w.map D.bl
@[simp] theorem mb_length (w : List Bool) : (mb w).length = w.length := by simp [mb]
@[simp] theorem boolsOf_mb : ∀ w : List Bool, boolsOf (mb w) = some w
  | [] => rfl
  | i :: w => by
    show (boolsOf (mb w)).map (i :: ·) = _
    rw [boolsOf_mb w]; rfl
theorem comp_gen {own : List Nat} {gm : GM} {em : EM} {env : Ve} (f : D → D) (hf : freeV own env = true) : ∀ {w : List D} {acc : List D}, acc.length + w.length ≤ lim →
    (∀ i ∈ w, ∃ e2, gm i (wipeV own env) = some e2 ∧ ∃ e4, hold true (em e2) = .ok (.dat (f i)) e4 ∧ freeV own e4 = true ∧ e4.length = env.length ∧ restV own env e4 = env) →
    compL own gm tYesM em w env acc = .ok (.new (.lst (acc ++ w.map f))) env
  | [], acc, _, _ => by simp [compL]
  | i :: w, acc, hl, h => by
    obtain ⟨e2, h1, e4, k1, k2, k3, k4⟩ := h i List.mem_cons_self
    have ih := fun a ha => comp_gen (own := own) (gm := gm) (em := em) f hf (w := w) (acc := a) ha fun j hj => h j (List.mem_cons_of_mem _ hj)
    simp only [List.length_cons] at hl
    unfold compL
    rw [if_pos hf]
    simp only [h1, tYesM, k1]
    rw [if_pos ⟨by simp only [lim] at hl ⊢; omega, k2, k3⟩, k4]
    have := ih (acc ++ [f i]) (by simp only [List.length_append, List.length_singleton]; omega)
    rw [this]
    simp
/-- what a comprehension keeps -/
theorem comp_inv {own : List Nat} {gm : GM} {em : EM} {I : Ve → Prop} {P : Int → Prop} : ∀ {w : List D} {e : Ve} {acc : List Int}, I e → acc.length + w.length ≤ lim →
    (∀ i ∈ w, ∀ e, I e → freeV own e = true ∧ ∃ e2, gm i (wipeV own e) = some e2 ∧ ∃ v e4, hold true (em e2) = .ok (.dat (.int v)) e4 ∧ P v ∧ freeV own e4 = true ∧ e4.length = e.length ∧ I (restV own e e4)) →
    ∃ v e', compL own gm tYesM em w e (mi acc) = .ok (.new (.lst (mi (acc ++ v)))) e' ∧ I e' ∧ v.length = w.length ∧ ∀ x ∈ v, P x
  | [], e, acc, hI, _, _ => ⟨[], e, by simp [compL], hI, rfl, by simp⟩
  | i :: w, e, acc, hI, hl, h => by
    obtain ⟨hf, e2, h1, v, e4, k1, k5, k2, k3, k4⟩ := h i List.mem_cons_self e hI
    simp only [List.length_cons] at hl
    obtain ⟨vs, e', h2, h3, h4, h5⟩ := comp_inv (own := own) (gm := gm) (em := em) (P := P) (w := w) (acc := acc ++ [v]) k4 (by simp only [List.length_append, List.length_singleton]; omega) fun j hj => h j (List.mem_cons_of_mem _ hj)
    refine ⟨v :: vs, e', ?_, h3, by simp [h4], ?_⟩
    · unfold compL
      rw [if_pos hf]
      simp only [h1, tYesM, k1]
      rw [if_pos ⟨by simp only [mi_length]; simp only [lim] at hl ⊢; omega, k2, k3⟩]
      rw [mi_app1]
      rw [h2]
      simp
    · intro x hx
      rcases List.mem_cons.1 hx with rfl | hx
      · exact k5
      · exact h5 x hx
/-! calls -/
def chk (fixed : List Nat) : Nat → List S → Bool
  | _, [] => true
  | i, .own _ :: r => fixed.contains i && chk fixed (i + 1) r
  | i, _ :: r => chk fixed (i + 1) r
theorem chk_get {fixed : List Nat} : ∀ {as : List S} {i : Nat}, chk fixed i as = true → ∀ j, isOwn (as.getD j .un) = true → i + j ∈ fixed
  | [], i, _, j, h => by simp [isOwn] at h
  | .own t :: r, i, k, j, h => by
    simp only [chk, Bool.and_eq_true, List.contains_iff_mem] at k
    cases j with
    | zero => exact k.1
    | succ j => have := chk_get k.2 j (by simpa using h); rwa [Nat.add_assoc, Nat.add_comm 1 j] at this
  | .un :: r, i, k, j, h => by
    cases j with
    | zero => simp [isOwn] at h
    | succ j => have := chk_get (as := r) (i := i + 1) k j (by simpa using h); rwa [Nat.add_assoc, Nat.add_comm 1 j] at this
  | .dat _ :: r, i, k, j, h => by
    cases j with
    | zero => simp [isOwn] at h
    | succ j => have := chk_get (as := r) (i := i + 1) k j (by simpa using h); rwa [Nat.add_assoc, Nat.add_comm 1 j] at this
  | .al _ _ :: r, i, k, j, h => by
    cases j with
    | zero => simp [isOwn] at h
    | succ j => have := chk_get (as := r) (i := i + 1) k j (by simpa using h); rwa [Nat.add_assoc, Nat.add_comm 1 j] at this
theorem runF_eq {N np : Nat} {fixed : List Nat} {m : SM} {as : List S} (hl : as.length = np) (hc : chk fixed 0 as = true) : runF N np fixed m as = match m (as ++ List.replicate (N - np) .un) with
  | .nx e => finF as (.dat .non) e
  | .rt r e => finF as r e
  | .ex x e => match backs as e with
    | some bs => .ex x bs
    | none => .no
  | _ => .no := by
  unfold runF
  refine (if_pos ⟨hl, fun i hi h => by simpa using chk_get hc i h⟩).trans ?_
  cases m (as ++ List.replicate (N - np) .un) <;> rfl
/-! a block, statement by statement -/
theorem sSeq_nx {a b : SM} {e : Ve} (e' : Ve) (h : a e = .nx e') : sSeq a b e = b e' := by unfold sSeq; rw [h]; rfl
theorem sSeq_rt {a b : SM} {e : Ve} {r : Ev} {e' : Ve} (h : a e = .rt r e') : sSeq a b e = .rt r e' := by unfold sSeq; rw [h]; rfl
theorem runF_rt {N np : Nat} {fixed : List Nat} {m : SM} {as : List S} {r : Ev} {e : Ve} (hl : as.length = np) (hc : chk fixed 0 as = true) (h : m (as ++ List.replicate (N - np) .un) = .rt r e) : runF N np fixed m as = finF as r e := by
  rw [runF_eq hl hc, h]
/-! loops -/
def stp (gm : GM) (body : SM) (d : D) (e : Ve) : Out := match gm d e with
  | none => .no
  | some e1 => body e1
theorem forL_stp (gm : GM) (body : SM) (d : D) (ds : List D) (e : Ve) : forL gm body (d :: ds) e = match stp gm body d e with
  | .nx e2 => forL gm body ds e2
  | .ct e2 => forL gm body ds e2
  | .bk e2 => .nx e2
  | .rt r e2 => .rt r e2
  | .ex x e2 => .ex x e2
  | .no => .no := by
  unfold stp
  simp only [forL]
  cases gm d e <;> rfl
theorem forL_st {α : Type} (En : α → Ve) (G : Nat → α → Prop) {gm : GM} {body : SM} : ∀ {ds : List D} {i : Nat} {a : α}, G i a →
    (∀ k a, i ≤ k → k < i + ds.length → ∀ d ∈ ds, G k a → ∃ a', (stp gm body d (En a) = .nx (En a') ∨ stp gm body d (En a) = .ct (En a')) ∧ G (k + 1) a') →
    ∃ a', forL gm body ds (En a) = .nx (En a') ∧ G (i + ds.length) a'
  | [], i, a, h, _ => ⟨a, rfl, h⟩
  | d :: ds, i, a, h, k => by
    obtain ⟨a1, h1, h2⟩ := k i a (by omega) (by simp) d List.mem_cons_self h
    obtain ⟨a', h3, h4⟩ := forL_st En G (ds := ds) h2 fun j a hj hj2 d hd => k j a (by omega) (by simp only [List.length_cons]; omega) d (List.mem_cons_of_mem _ hd)
    refine ⟨a', ?_, by simpa [Nat.add_comm, Nat.add_left_comm] using h4⟩
    rw [forL_stp]
    rcases h1 with h1 | h1 <;> rw [h1] <;> exact h3
theorem forL_stb {α : Type} (En : α → Ve) (G : Nat → α → Prop) (J : α → Prop) {gm : GM} {body : SM} : ∀ {ds : List D} {i : Nat} {a : α}, G i a →
    (∀ k a, i ≤ k → k < i + ds.length → ∀ d ∈ ds, G k a → ∃ a', ((stp gm body d (En a) = .nx (En a') ∨ stp gm body d (En a) = .ct (En a')) ∧ G (k + 1) a') ∨ (stp gm body d (En a) = .bk (En a') ∧ J a')) →
    ∃ a', forL gm body ds (En a) = .nx (En a') ∧ (G (i + ds.length) a' ∨ J a')
  | [], i, a, h, _ => ⟨a, rfl, .inl h⟩
  | d :: ds, i, a, h, k => by
    obtain ⟨a1, hh⟩ := k i a (by omega) (by simp) d List.mem_cons_self h
    rcases hh with ⟨h1, h2⟩ | ⟨h1, h2⟩
    · obtain ⟨a', h3, h4⟩ := forL_stb En G J (ds := ds) h2 fun j a hj hj2 d hd => k j a (by omega) (by simp only [List.length_cons]; omega) d (List.mem_cons_of_mem _ hd)
      refine ⟨a', ?_, by simpa [Nat.add_comm, Nat.add_left_comm] using h4⟩
      rw [forL_stp]
      rcases h1 with h1 | h1 <;> rw [h1] <;> exact h3
    · exact ⟨a1, by rw [forL_stp, h1], .inr h2⟩
theorem forL_str {α : Type} (En : α → Ve) (G : Nat → α → Prop) (R : Ev → Ve → Prop) {gm : GM} {body : SM} : ∀ {ds : List D} {i : Nat} {a : α}, G i a →
    (∀ k a, i ≤ k → k < i + ds.length → ∀ d ∈ ds, G k a → (∃ a', (stp gm body d (En a) = .nx (En a') ∨ stp gm body d (En a) = .ct (En a')) ∧ G (k + 1) a') ∨ ∃ r e, stp gm body d (En a) = .rt r e ∧ R r e) →
    (∃ a', forL gm body ds (En a) = .nx (En a') ∧ G (i + ds.length) a') ∨ ∃ r e, forL gm body ds (En a) = .rt r e ∧ R r e
  | [], i, a, h, _ => .inl ⟨a, rfl, h⟩
  | d :: ds, i, a, h, k => by
    have hh := k i a (by omega) (by simp) d List.mem_cons_self h
    rcases hh with ⟨a1, h1, h2⟩ | ⟨r, e, h1, h2⟩
    · have ih := forL_str En G R (ds := ds) h2 fun j a hj hj2 d hd => k j a (by omega) (by simp only [List.length_cons]; omega) d (List.mem_cons_of_mem _ hd)
      have he : forL gm body (d :: ds) (En a) = forL gm body ds (En a1) := by
        rw [forL_stp]
        rcases h1 with h1 | h1 <;> rw [h1]
      rw [he]
      rcases ih with ⟨a', h3, h4⟩ | h3
      · exact .inl ⟨a', h3, by simpa [Nat.add_comm, Nat.add_left_comm] using h4⟩
      · exact .inr h3
    · exact .inr ⟨r, e, by rw [forL_stp, h1], h2⟩
theorem forL_rt {gm : GM} {body : SM} {I : Ve → Prop} {R : Ev → Ve → Prop} : ∀ {ds : List D} {e : Ve}, I e → (∀ d ∈ ds, ∀ e, I e → ∃ e1, gm d e = some e1 ∧ ((∃ e2, (body e1 = .nx e2 ∨ body e1 = .ct e2) ∧ I e2) ∨ ∃ r e2, body e1 = .rt r e2 ∧ R r e2)) → (∃ e', forL gm body ds e = .nx e' ∧ I e') ∨ ∃ r e', forL gm body ds e = .rt r e' ∧ R r e'
  | [], e, h, _ => .inl ⟨e, rfl, h⟩
  | d :: ds, e, h, k => by
    obtain ⟨e1, h1, h2⟩ := k d (List.mem_cons_self) e h
    rcases h2 with ⟨e2, h2, h3⟩ | ⟨r, e2, h2, h3⟩
    · have ih := forL_rt (ds := ds) h3 fun d' hd => k d' (List.mem_cons_of_mem _ hd)
      rcases h2 with h2 | h2
      · simpa only [forL, h1, h2] using ih
      · simpa only [forL, h1, h2] using ih
    · exact .inr ⟨r, e2, by simp only [forL, h1, h2], h3⟩
/-- a loop as a fold over the items -/
theorem forL_fold {α : Type} {gm : GM} {body : SM} (En : α → Ve → Prop) (st : α → Int → α) : ∀ {w : List Int} {a : α} {e : Ve}, En a e → (∀ i ∈ w, ∀ a e, En a e → ∃ e1, gm (.int i) e = some e1 ∧ ∃ e2, (body e1 = .nx e2 ∨ body e1 = .ct e2) ∧ En (st a i) e2) → ∃ e', forL gm body (mi w) e = .nx e' ∧ En (w.foldl st a) e'
  | [], a, e, h, _ => ⟨e, rfl, h⟩
  | i :: w, a, e, h, k => by
    obtain ⟨e1, h1, e2, h2, h3⟩ := k i List.mem_cons_self a e h
    obtain ⟨e', h4, h5⟩ := forL_fold En st (w := w) h3 fun j hj => k j (List.mem_cons_of_mem _ hj)
    refine ⟨e', ?_, h5⟩
    show forL gm body (D.int i :: mi w) e = _
    rcases h2 with h2 | h2
    · simp only [forL, h1, h2, h4]
    · simp only [forL, h1, h2, h4]
end DL
namespace Law
open PySem DL
/-! texts: ==, and repr of words -/
theorem eqOk_str (a : Str) (h : PyData.canLay0 (.str a) = true) : eqOk (.str a) = true := by simp [eqOk, D.nos, SeqAt.shaped, D.py, PyData.depth, h]
theorem pys_mi : ∀ w : List Int, D.py.pys (mi w) = w.map PyData.int
  | [] => rfl
  | x :: w => by
    show D.py (.int x) :: D.py.pys (mi w) = _
    rw [pys_mi w]; simp [D.py]
theorem small_int {x : Int} (h : x.natAbs ≤ 8) : PyData.intsShort 13 (.int x) = true ∧ PyData.showable (.int x) = true ∧ PyData.weight (.int x) ≤ 4 := by
  have : x = -8 ∨ x = -7 ∨ x = -6 ∨ x = -5 ∨ x = -4 ∨ x = -3 ∨ x = -2 ∨ x = -1 ∨ x = 0 ∨ x = 1 ∨ x = 2 ∨ x = 3 ∨ x = 4 ∨ x = 5 ∨ x = 6 ∨ x = 7 ∨ x = 8 := by omega
  rcases this with rfl | rfl | rfl | rfl | rfl | rfl | rfl | rfl | rfl | rfl | rfl | rfl | rfl | rfl | rfl | rfl | rfl <;> exact ⟨by decide +kernel, by decide +kernel, by decide +kernel⟩
theorem ints_lay : ∀ {w : List Int}, (∀ x ∈ w, x.natAbs ≤ 8) → PyData.canLayAll0 (w.map PyData.int) = true ∧ PyData.intsShortAll 13 (w.map PyData.int) = true ∧ PyData.showableAll (w.map PyData.int) = true ∧ PyData.depthAll (w.map PyData.int) = 0 ∧ PyData.weightAll (w.map PyData.int) ≤ w.length * 5
  | [], _ => ⟨rfl, rfl, rfl, rfl, by simp [PyData.weightAll]⟩
  | x :: w, h => by
    obtain ⟨h1, h2, h3, h4, h5⟩ := ints_lay (w := w) fun y hy => h y (List.mem_cons_of_mem _ hy)
    obtain ⟨k1, k2, k3⟩ := small_int (h x List.mem_cons_self)
    refine ⟨by simp [PyData.canLayAll0, PyData.canLay0, h1], by simp [PyData.intsShortAll, k1, h2], by simp [PyData.showableAll, k2, h3], by simp [PyData.depthAll, PyData.depth, h4], ?_⟩
    rw [List.map_cons]
    unfold PyData.weightAll
    rw [List.length_cons]
    omega
theorem reprD_two {u v : List Int} (hu : ∀ x ∈ u, x.natAbs ≤ 8) (hv : ∀ x ∈ v, x.natAbs ≤ 8) (lu : u.length ≤ 10000) (lv : v.length ≤ 10000) : reprD [.tup [.lst (mi u), .lst (mi v)]] = some (.dat (.str (D.tup [.lst (mi u), .lst (mi v)]).py.shown)) := by
  obtain ⟨a1, a2, a3, a4, a5⟩ := ints_lay hu
  obtain ⟨b1, b2, b3, b4, b5⟩ := ints_lay hv
  have e : (D.tup [.lst (mi u), .lst (mi v)]).py = .tuple [.list (u.map PyData.int), .list (v.map PyData.int)] := by
    simp [D.py, D.py.pys, pys_mi]
  have hl : PyData.layable0 (.tuple [.list (u.map PyData.int), .list (v.map PyData.int)]) = true := by
    simp only [PyData.layable0, Bool.and_eq_true, decide_eq_true_eq]
    refine ⟨⟨by simp [PyData.canLay0, PyData.canLayAll0, a1, b1], by simp [PyData.depth, PyData.depthAll, a4, b4]⟩, ?_⟩
    simp only [PyData.weight, PyData.weightAll]
    have : (2 : Nat) ^ 20 = 1048576 := by decide
    omega
  have hs : PyData.intsShort 13 (.tuple [.list (u.map PyData.int), .list (v.map PyData.int)]) = true := by simp [PyData.intsShort, PyData.intsShortAll, a2, b2]
  have hw : PyData.showable (.tuple [.list (u.map PyData.int), .list (v.map PyData.int)]) = true := by simp [PyData.showable, PyData.showableAll, a3, b3]
  have hn : (D.tup [.lst (mi u), .lst (mi v)]).nos = true := by
    have : ∀ w : List Int, D.nos.go (mi w) = true := fun w => by
      induction w with
      | nil => rfl
      | cons x w ih => show (D.nos (.int x) && D.nos.go (mi w)) = true; rw [ih]; rfl
    simp [D.nos, D.nos.go, this]
  have k1 : eqOk (.tup [.lst (mi u), .lst (mi v)]) = true := by
    unfold eqOk
    rw [hn, e]
    simp only [Bool.true_and]
    exact SeqAt.shaped_of_layable hl
  have k2 : reprFit (.tup [.lst (mi u), .lst (mi v)]) = true := by
    unfold reprFit
    rw [e, hw]
    have := PyProof.Rows.shown_le13 hl hs
    simp
    omega
  simp only [reprD]
  rw [k1, k2]
  rfl
end Law
namespace Law
open PySem DL
/-! data of bounded depth -/
def Fit : Nat → D → Prop
  | 0, _ => False
  | k + 1, .lst xs => xs.length ≤ 16000000 ∧ ∀ x ∈ xs, Fit k x
  | k + 1, .tup xs => xs.length ≤ 16000000 ∧ ∀ x ∈ xs, Fit k x
  | _ + 1, .scr _ => False
  | _ + 1, .str x => PyData.canLay0 (.str x) = true
  | _ + 1, _ => True
theorem Fit.succ : ∀ {k : Nat} {d : D}, Fit k d → Fit (k + 1) d
  | 0, _, h => h.elim
  | k + 1, d, h => by
    cases d with
    | lst xs => exact ⟨h.1, fun x m => (h.2 x m).succ⟩
    | tup xs => exact ⟨h.1, fun x m => (h.2 x m).succ⟩
    | scr _ => exact h.elim
    | str x => exact h
    | _ => trivial
theorem Fit.mono {k j : Nat} {d : D} (h : Fit k d) (l : k ≤ j) : Fit j d := by
  induction l with
  | refl => exact h
  | step _ ih => exact ih.succ
theorem fit_eq : ∀ {k : Nat} {d : D}, Fit k d → d.nos = true ∧ d.py.canLay0 = true ∧ d.py.depth ≤ k
  | 0, _, h => h.elim
  | k + 1, d, h => by
    have go : ∀ {xs : List D}, (∀ x ∈ xs, Fit k x) → D.nos.go xs = true ∧ PyData.canLayAll0 (D.py.pys xs) = true ∧ PyData.depthAll (D.py.pys xs) ≤ k := fun {xs} => by
      induction xs with
      | nil => exact fun _ => ⟨by simp [D.nos.go], by simp [D.py.pys, PyData.canLayAll0], by simp [D.py.pys, PyData.depthAll]⟩
      | cons x xs ih =>
        intro h
        obtain ⟨a1, a2, a3⟩ := fit_eq (h x List.mem_cons_self)
        obtain ⟨b1, b2, b3⟩ := ih fun y m => h y (List.mem_cons_of_mem _ m)
        refine ⟨by simp [D.nos.go, a1, b1], by simp [D.py.pys, PyData.canLayAll0, a2, b2], ?_⟩
        simp only [D.py.pys, PyData.depthAll]
        omega
    cases d with
    | lst xs =>
      obtain ⟨a1, a2, a3⟩ := go h.2
      exact ⟨by simpa [D.nos] using a1, by simpa [D.py, PyData.canLay0] using a2, by simpa [D.py, PyData.depth] using a3⟩
    | tup xs =>
      obtain ⟨a1, a2, a3⟩ := go h.2
      exact ⟨by simpa [D.nos] using a1, by simpa [D.py, PyData.canLay0] using a2, by simpa [D.py, PyData.depth] using a3⟩
    | scr _ => exact h.elim
    | str x => exact ⟨rfl, by simpa [D.py] using (show PyData.canLay0 (.str x) = true from h), by simp [D.py, PyData.depth]⟩
    | non => exact ⟨rfl, by simp [D.py, PyData.canLay0], by simp [D.py, PyData.depth]⟩
    | bl b => exact ⟨rfl, by simp [D.py, PyData.canLay0], by simp [D.py, PyData.depth]⟩
    | int i => exact ⟨rfl, by simp [D.py, PyData.canLay0], by simp [D.py, PyData.depth]⟩
theorem fit_ok {k : Nat} {d : D} (h : Fit k d) (hk : k ≤ 60) : eqOk d = true := by
  obtain ⟨a, b, c⟩ := fit_eq h
  unfold eqOk SeqAt.shaped
  rw [a, b]
  simp only [Bool.true_and, decide_eq_true_eq]
  omega
/-- == with a text -/
def isS (d : D) (t : Str) : Bool := match d with
  | .str x => decide (x = t)
  | _ => false
@[simp] theorem isS_str (x t : Str) : isS (.str x) t = decide (x = t) := rfl
@[simp] theorem isS_int (x : Int) (t : Str) : isS (.int x) t = false := rfl
@[simp] theorem isS_bl (x : Bool) (t : Str) : isS (.bl x) t = false := rfl
@[simp] theorem isS_non (t : Str) : isS .non t = false := rfl
@[simp] theorem isS_lst (x : List D) (t : Str) : isS (.lst x) t = false := rfl
@[simp] theorem isS_tup (x : List D) (t : Str) : isS (.tup x) t = false := rfl
theorem isS_true {d : D} {t : Str} (h : isS d t = true) : d = .str t := by
  cases d <;> first | (cases h) | (simp at h; rw [h])
theorem eqD_S {k : Nat} {d : D} (h : Fit k d) (hk : k ≤ 60) {t : Str} (ht : eqOk (.str t) = true) : eqD d (.str t) = some (.dat (.bl (isS d t))) := by
  cases d with
  | str x => rw [eqD_str]; rfl
  | scr _ => cases k <;> exact h.elim
  | _ =>
    unfold eqD
    rw [fit_ok h hk, ht]
    simp only [Bool.and_self, if_true]
    simp [eqB, D.py, PyData.eqv]
theorem fit_mi {k : Nat} {w : List Int} (h : w.length ≤ 16000000) : Fit (k + 2) (.lst (mi w)) := ⟨by rw [mi_length]; exact h, fun x m => by
  obtain ⟨i, _, rfl⟩ := List.mem_map.1 m
  trivial⟩
/-- the thing itself, or new as a list -/
def nwE : D → Ev
  | .lst xs => .new (.lst xs)
  | d => .dat d
@[simp] theorem hold_nwE (q : Bool) (d : D) (e : Ve) : hold q (.ok (nwE d) e) = .ok (.dat d) e := by cases d <;> rfl
@[simp] theorem nwE_lst (xs : List D) : nwE (.lst xs) = .new (.lst xs) := rfl
@[simp] theorem nwE_tup (xs : List D) : nwE (.tup xs) = .dat (.tup xs) := rfl
@[simp] theorem nwE_str (xs : Str) : nwE (.str xs) = .dat (.str xs) := rfl
@[simp] theorem nwE_int (xs : Int) : nwE (.int xs) = .dat (.int xs) := rfl
@[simp] theorem nwE_bl (xs : Bool) : nwE (.bl xs) = .dat (.bl xs) := rfl
@[simp] theorem nwE_scr (xs : List Int) : nwE (.scr xs) = .dat (.scr xs) := rfl
@[simp] theorem nwE_non : nwE .non = .dat .non := rfl
@[simp] theorem atI_0 {α : Type} (x : α) (xs : List α) : L2.atI (x :: xs) 0 = some x := atI_zero x xs
@[simp] theorem atI_1 {α : Type} (x y : α) (xs : List α) : L2.atI (x :: y :: xs) 1 = some y := by rw [atI_pos (by omega)]; rfl
@[simp] theorem atI_2 {α : Type} (x y z : α) (xs : List α) : L2.atI (x :: y :: z :: xs) 2 = some z := by rw [atI_pos (by omega)]; rfl
theorem map_blc {α : Type} (w : List α) (b : Bool) : (w.map fun _ => D.bl b) = mb (List.replicate w.length b) := by
  induction w with
  | nil => rfl
  | cons a w ih => rw [List.map_cons, ih]; rfl
end Law
/-! mirrors, printed by wip/gen.py -/
namespace Mir
open PySem DL
def xtab : List Str := ["BadStrands", "BadWord", "BadMove", "BadLetter", "TooLong"]
@[simp] theorem xt_BadStrands : ("BadStrands" : Str) ∈ xtab := by decide +kernel
@[simp] theorem xt_BadWord : ("BadWord" : Str) ∈ xtab := by decide +kernel
@[simp] theorem xt_BadMove : ("BadMove" : Str) ∈ xtab := by decide +kernel
@[simp] theorem xt_BadLetter : ("BadLetter" : Str) ∈ xtab := by decide +kernel
@[simp] theorem xt_TooLong : ("TooLong" : Str) ∈ xtab := by decide +kernel
def xtab_number : List Str := ["TooLong"]
@[simp] theorem xt_number_TooLong : ("TooLong" : Str) ∈ xtab_number := by decide +kernel
def xtab_place : List Str := ["BadLetter"]
@[simp] theorem xt_place_BadLetter : ("BadLetter" : Str) ∈ xtab_place := by decide +kernel
@[simp] theorem xi_BadStrands_BadDeed : isxB ("BadStrands" : Str) ("BadDeed" : Str) = false := by decide +kernel
@[simp] theorem xi_BadWord_BadDeed : isxB ("BadWord" : Str) ("BadDeed" : Str) = false := by decide +kernel
@[simp] theorem xi_BadMove_BadDeed : isxB ("BadMove" : Str) ("BadDeed" : Str) = false := by decide +kernel
@[simp] theorem xi_BadLetter_BadDeed : isxB ("BadLetter" : Str) ("BadDeed" : Str) = false := by decide +kernel
@[simp] theorem xi_TooLong_BadDeed : isxB ("TooLong" : Str) ("BadDeed" : Str) = false := by decide +kernel
@[simp] theorem xi_BadStrands_BadEntry : isxB ("BadStrands" : Str) ("BadEntry" : Str) = false := by decide +kernel
@[simp] theorem xi_BadWord_BadEntry : isxB ("BadWord" : Str) ("BadEntry" : Str) = false := by decide +kernel
@[simp] theorem xi_BadMove_BadEntry : isxB ("BadMove" : Str) ("BadEntry" : Str) = false := by decide +kernel
@[simp] theorem xi_BadLetter_BadEntry : isxB ("BadLetter" : Str) ("BadEntry" : Str) = false := by decide +kernel
@[simp] theorem xi_TooLong_BadEntry : isxB ("TooLong" : Str) ("BadEntry" : Str) = false := by decide +kernel
@[simp] theorem xi_BadStrands_BadForm : isxB ("BadStrands" : Str) ("BadForm" : Str) = false := by decide +kernel
@[simp] theorem xi_BadWord_BadForm : isxB ("BadWord" : Str) ("BadForm" : Str) = false := by decide +kernel
@[simp] theorem xi_BadMove_BadForm : isxB ("BadMove" : Str) ("BadForm" : Str) = false := by decide +kernel
@[simp] theorem xi_BadLetter_BadForm : isxB ("BadLetter" : Str) ("BadForm" : Str) = false := by decide +kernel
@[simp] theorem xi_TooLong_BadForm : isxB ("TooLong" : Str) ("BadForm" : Str) = false := by decide +kernel
@[simp] theorem xi_BadStrands_BadHandle : isxB ("BadStrands" : Str) ("BadHandle" : Str) = false := by decide +kernel
@[simp] theorem xi_BadWord_BadHandle : isxB ("BadWord" : Str) ("BadHandle" : Str) = false := by decide +kernel
@[simp] theorem xi_BadMove_BadHandle : isxB ("BadMove" : Str) ("BadHandle" : Str) = false := by decide +kernel
@[simp] theorem xi_BadLetter_BadHandle : isxB ("BadLetter" : Str) ("BadHandle" : Str) = false := by decide +kernel
@[simp] theorem xi_TooLong_BadHandle : isxB ("TooLong" : Str) ("BadHandle" : Str) = false := by decide +kernel
@[simp] theorem xi_BadStrands_BadLetter : isxB ("BadStrands" : Str) ("BadLetter" : Str) = false := by decide +kernel
@[simp] theorem xi_BadWord_BadLetter : isxB ("BadWord" : Str) ("BadLetter" : Str) = false := by decide +kernel
@[simp] theorem xi_BadMove_BadLetter : isxB ("BadMove" : Str) ("BadLetter" : Str) = false := by decide +kernel
@[simp] theorem xi_BadLetter_BadLetter : isxB ("BadLetter" : Str) ("BadLetter" : Str) = true := by decide +kernel
@[simp] theorem xi_TooLong_BadLetter : isxB ("TooLong" : Str) ("BadLetter" : Str) = false := by decide +kernel
@[simp] theorem xi_BadStrands_BadList : isxB ("BadStrands" : Str) ("BadList" : Str) = false := by decide +kernel
@[simp] theorem xi_BadWord_BadList : isxB ("BadWord" : Str) ("BadList" : Str) = false := by decide +kernel
@[simp] theorem xi_BadMove_BadList : isxB ("BadMove" : Str) ("BadList" : Str) = false := by decide +kernel
@[simp] theorem xi_BadLetter_BadList : isxB ("BadLetter" : Str) ("BadList" : Str) = false := by decide +kernel
@[simp] theorem xi_TooLong_BadList : isxB ("TooLong" : Str) ("BadList" : Str) = false := by decide +kernel
@[simp] theorem xi_BadStrands_BadMove : isxB ("BadStrands" : Str) ("BadMove" : Str) = false := by decide +kernel
@[simp] theorem xi_BadWord_BadMove : isxB ("BadWord" : Str) ("BadMove" : Str) = false := by decide +kernel
@[simp] theorem xi_BadMove_BadMove : isxB ("BadMove" : Str) ("BadMove" : Str) = true := by decide +kernel
@[simp] theorem xi_BadLetter_BadMove : isxB ("BadLetter" : Str) ("BadMove" : Str) = false := by decide +kernel
@[simp] theorem xi_TooLong_BadMove : isxB ("TooLong" : Str) ("BadMove" : Str) = false := by decide +kernel
@[simp] theorem xi_BadStrands_BadNumber : isxB ("BadStrands" : Str) ("BadNumber" : Str) = false := by decide +kernel
@[simp] theorem xi_BadWord_BadNumber : isxB ("BadWord" : Str) ("BadNumber" : Str) = false := by decide +kernel
@[simp] theorem xi_BadMove_BadNumber : isxB ("BadMove" : Str) ("BadNumber" : Str) = false := by decide +kernel
@[simp] theorem xi_BadLetter_BadNumber : isxB ("BadLetter" : Str) ("BadNumber" : Str) = false := by decide +kernel
@[simp] theorem xi_TooLong_BadNumber : isxB ("TooLong" : Str) ("BadNumber" : Str) = false := by decide +kernel
@[simp] theorem xi_BadStrands_BadNumbers : isxB ("BadStrands" : Str) ("BadNumbers" : Str) = false := by decide +kernel
@[simp] theorem xi_BadWord_BadNumbers : isxB ("BadWord" : Str) ("BadNumbers" : Str) = false := by decide +kernel
@[simp] theorem xi_BadMove_BadNumbers : isxB ("BadMove" : Str) ("BadNumbers" : Str) = false := by decide +kernel
@[simp] theorem xi_BadLetter_BadNumbers : isxB ("BadLetter" : Str) ("BadNumbers" : Str) = false := by decide +kernel
@[simp] theorem xi_TooLong_BadNumbers : isxB ("TooLong" : Str) ("BadNumbers" : Str) = false := by decide +kernel
@[simp] theorem xi_BadStrands_BadPaper : isxB ("BadStrands" : Str) ("BadPaper" : Str) = false := by decide +kernel
@[simp] theorem xi_BadWord_BadPaper : isxB ("BadWord" : Str) ("BadPaper" : Str) = false := by decide +kernel
@[simp] theorem xi_BadMove_BadPaper : isxB ("BadMove" : Str) ("BadPaper" : Str) = false := by decide +kernel
@[simp] theorem xi_BadLetter_BadPaper : isxB ("BadLetter" : Str) ("BadPaper" : Str) = false := by decide +kernel
@[simp] theorem xi_TooLong_BadPaper : isxB ("TooLong" : Str) ("BadPaper" : Str) = false := by decide +kernel
@[simp] theorem xi_BadStrands_BadPlaces : isxB ("BadStrands" : Str) ("BadPlaces" : Str) = false := by decide +kernel
@[simp] theorem xi_BadWord_BadPlaces : isxB ("BadWord" : Str) ("BadPlaces" : Str) = false := by decide +kernel
@[simp] theorem xi_BadMove_BadPlaces : isxB ("BadMove" : Str) ("BadPlaces" : Str) = false := by decide +kernel
@[simp] theorem xi_BadLetter_BadPlaces : isxB ("BadLetter" : Str) ("BadPlaces" : Str) = false := by decide +kernel
@[simp] theorem xi_TooLong_BadPlaces : isxB ("TooLong" : Str) ("BadPlaces" : Str) = false := by decide +kernel
@[simp] theorem xi_BadStrands_BadRange : isxB ("BadStrands" : Str) ("BadRange" : Str) = false := by decide +kernel
@[simp] theorem xi_BadWord_BadRange : isxB ("BadWord" : Str) ("BadRange" : Str) = false := by decide +kernel
@[simp] theorem xi_BadMove_BadRange : isxB ("BadMove" : Str) ("BadRange" : Str) = false := by decide +kernel
@[simp] theorem xi_BadLetter_BadRange : isxB ("BadLetter" : Str) ("BadRange" : Str) = false := by decide +kernel
@[simp] theorem xi_TooLong_BadRange : isxB ("TooLong" : Str) ("BadRange" : Str) = false := by decide +kernel
@[simp] theorem xi_BadStrands_BadStrands : isxB ("BadStrands" : Str) ("BadStrands" : Str) = true := by decide +kernel
@[simp] theorem xi_BadWord_BadStrands : isxB ("BadWord" : Str) ("BadStrands" : Str) = false := by decide +kernel
@[simp] theorem xi_BadMove_BadStrands : isxB ("BadMove" : Str) ("BadStrands" : Str) = false := by decide +kernel
@[simp] theorem xi_BadLetter_BadStrands : isxB ("BadLetter" : Str) ("BadStrands" : Str) = false := by decide +kernel
@[simp] theorem xi_TooLong_BadStrands : isxB ("TooLong" : Str) ("BadStrands" : Str) = false := by decide +kernel
@[simp] theorem xi_BadStrands_BadText : isxB ("BadStrands" : Str) ("BadText" : Str) = false := by decide +kernel
@[simp] theorem xi_BadWord_BadText : isxB ("BadWord" : Str) ("BadText" : Str) = false := by decide +kernel
@[simp] theorem xi_BadMove_BadText : isxB ("BadMove" : Str) ("BadText" : Str) = false := by decide +kernel
@[simp] theorem xi_BadLetter_BadText : isxB ("BadLetter" : Str) ("BadText" : Str) = false := by decide +kernel
@[simp] theorem xi_TooLong_BadText : isxB ("TooLong" : Str) ("BadText" : Str) = false := by decide +kernel
@[simp] theorem xi_BadStrands_BadTurning : isxB ("BadStrands" : Str) ("BadTurning" : Str) = false := by decide +kernel
@[simp] theorem xi_BadWord_BadTurning : isxB ("BadWord" : Str) ("BadTurning" : Str) = false := by decide +kernel
@[simp] theorem xi_BadMove_BadTurning : isxB ("BadMove" : Str) ("BadTurning" : Str) = false := by decide +kernel
@[simp] theorem xi_BadLetter_BadTurning : isxB ("BadLetter" : Str) ("BadTurning" : Str) = false := by decide +kernel
@[simp] theorem xi_TooLong_BadTurning : isxB ("TooLong" : Str) ("BadTurning" : Str) = false := by decide +kernel
@[simp] theorem xi_BadStrands_BadWord : isxB ("BadStrands" : Str) ("BadWord" : Str) = false := by decide +kernel
@[simp] theorem xi_BadWord_BadWord : isxB ("BadWord" : Str) ("BadWord" : Str) = true := by decide +kernel
@[simp] theorem xi_BadMove_BadWord : isxB ("BadMove" : Str) ("BadWord" : Str) = false := by decide +kernel
@[simp] theorem xi_BadLetter_BadWord : isxB ("BadLetter" : Str) ("BadWord" : Str) = false := by decide +kernel
@[simp] theorem xi_TooLong_BadWord : isxB ("TooLong" : Str) ("BadWord" : Str) = false := by decide +kernel
@[simp] theorem xi_BadStrands_InUse : isxB ("BadStrands" : Str) ("InUse" : Str) = false := by decide +kernel
@[simp] theorem xi_BadWord_InUse : isxB ("BadWord" : Str) ("InUse" : Str) = false := by decide +kernel
@[simp] theorem xi_BadMove_InUse : isxB ("BadMove" : Str) ("InUse" : Str) = false := by decide +kernel
@[simp] theorem xi_BadLetter_InUse : isxB ("BadLetter" : Str) ("InUse" : Str) = false := by decide +kernel
@[simp] theorem xi_TooLong_InUse : isxB ("TooLong" : Str) ("InUse" : Str) = false := by decide +kernel
@[simp] theorem xi_BadStrands_NoCurve : isxB ("BadStrands" : Str) ("NoCurve" : Str) = false := by decide +kernel
@[simp] theorem xi_BadWord_NoCurve : isxB ("BadWord" : Str) ("NoCurve" : Str) = false := by decide +kernel
@[simp] theorem xi_BadMove_NoCurve : isxB ("BadMove" : Str) ("NoCurve" : Str) = false := by decide +kernel
@[simp] theorem xi_BadLetter_NoCurve : isxB ("BadLetter" : Str) ("NoCurve" : Str) = false := by decide +kernel
@[simp] theorem xi_TooLong_NoCurve : isxB ("TooLong" : Str) ("NoCurve" : Str) = false := by decide +kernel
@[simp] theorem xi_BadStrands_NotPositive : isxB ("BadStrands" : Str) ("NotPositive" : Str) = false := by decide +kernel
@[simp] theorem xi_BadWord_NotPositive : isxB ("BadWord" : Str) ("NotPositive" : Str) = false := by decide +kernel
@[simp] theorem xi_BadMove_NotPositive : isxB ("BadMove" : Str) ("NotPositive" : Str) = false := by decide +kernel
@[simp] theorem xi_BadLetter_NotPositive : isxB ("BadLetter" : Str) ("NotPositive" : Str) = false := by decide +kernel
@[simp] theorem xi_TooLong_NotPositive : isxB ("TooLong" : Str) ("NotPositive" : Str) = false := by decide +kernel
@[simp] theorem xi_BadStrands_NothingToRedo : isxB ("BadStrands" : Str) ("NothingToRedo" : Str) = false := by decide +kernel
@[simp] theorem xi_BadWord_NothingToRedo : isxB ("BadWord" : Str) ("NothingToRedo" : Str) = false := by decide +kernel
@[simp] theorem xi_BadMove_NothingToRedo : isxB ("BadMove" : Str) ("NothingToRedo" : Str) = false := by decide +kernel
@[simp] theorem xi_BadLetter_NothingToRedo : isxB ("BadLetter" : Str) ("NothingToRedo" : Str) = false := by decide +kernel
@[simp] theorem xi_TooLong_NothingToRedo : isxB ("TooLong" : Str) ("NothingToRedo" : Str) = false := by decide +kernel
@[simp] theorem xi_BadStrands_NothingToUndo : isxB ("BadStrands" : Str) ("NothingToUndo" : Str) = false := by decide +kernel
@[simp] theorem xi_BadWord_NothingToUndo : isxB ("BadWord" : Str) ("NothingToUndo" : Str) = false := by decide +kernel
@[simp] theorem xi_BadMove_NothingToUndo : isxB ("BadMove" : Str) ("NothingToUndo" : Str) = false := by decide +kernel
@[simp] theorem xi_BadLetter_NothingToUndo : isxB ("BadLetter" : Str) ("NothingToUndo" : Str) = false := by decide +kernel
@[simp] theorem xi_TooLong_NothingToUndo : isxB ("TooLong" : Str) ("NothingToUndo" : Str) = false := by decide +kernel
@[simp] theorem xi_BadStrands_TooLong : isxB ("BadStrands" : Str) ("TooLong" : Str) = false := by decide +kernel
@[simp] theorem xi_BadWord_TooLong : isxB ("BadWord" : Str) ("TooLong" : Str) = false := by decide +kernel
@[simp] theorem xi_BadMove_TooLong : isxB ("BadMove" : Str) ("TooLong" : Str) = false := by decide +kernel
@[simp] theorem xi_BadLetter_TooLong : isxB ("BadLetter" : Str) ("TooLong" : Str) = false := by decide +kernel
@[simp] theorem xi_TooLong_TooLong : isxB ("TooLong" : Str) ("TooLong" : Str) = true := by decide +kernel
@[simp] theorem xi_BadStrands_TooMany : isxB ("BadStrands" : Str) ("TooMany" : Str) = false := by decide +kernel
@[simp] theorem xi_BadWord_TooMany : isxB ("BadWord" : Str) ("TooMany" : Str) = false := by decide +kernel
@[simp] theorem xi_BadMove_TooMany : isxB ("BadMove" : Str) ("TooMany" : Str) = false := by decide +kernel
@[simp] theorem xi_BadLetter_TooMany : isxB ("BadLetter" : Str) ("TooMany" : Str) = false := by decide +kernel
@[simp] theorem xi_TooLong_TooMany : isxB ("TooLong" : Str) ("TooMany" : Str) = false := by decide +kernel
@[simp] theorem xi_BadStrands_UnknownName : isxB ("BadStrands" : Str) ("UnknownName" : Str) = false := by decide +kernel
@[simp] theorem xi_BadWord_UnknownName : isxB ("BadWord" : Str) ("UnknownName" : Str) = false := by decide +kernel
@[simp] theorem xi_BadMove_UnknownName : isxB ("BadMove" : Str) ("UnknownName" : Str) = false := by decide +kernel
@[simp] theorem xi_BadLetter_UnknownName : isxB ("BadLetter" : Str) ("UnknownName" : Str) = false := by decide +kernel
@[simp] theorem xi_TooLong_UnknownName : isxB ("TooLong" : Str) ("UnknownName" : Str) = false := by decide +kernel
/-- _law_pool(script): slots 0 script, 1 pool, 2 cell, 3 state, 4 k, 5 rest -/
def b__law_pool_1 : SM := (sSeq (sSet 3 (eOp2 true modD (eOp2 true addD (eOp2 true mulD (eName 3) (eD (.int 48271))) (eD (.int 11))) (eD (.int 2147483647))))
    (sExpr (eMeth true appendD (eName 1) (aCons true (eOp2 true modD (eCall intD (aCons true (eOp2 true fdivD (eName 3) (eD (.int 97))) aNil)) (eD (.int 60))) aNil))))
def b__law_pool_2 : SM := (sSet 3 (eOp2 true modD (eOp2 true addD (eOp2 true mulD (eName 3) (eD (.int 31))) (eCall intD (aCons true (eName 2) aNil))) (eD (.int 2147483647))))
def b__law_pool_3 : SM := (sSeq (sExpr (eMeth true appendD (eName 1) (aCons true (eOp2 true modD (eCall intD (aCons true (eName 5) aNil)) (eD (.int 60))) aNil)))
    (sSeq (sSet 5 (eCall intD (aCons true (eOp2 true fdivD (eName 5) (eD (.int 60))) aNil)))
    (sIf (tvB (eOp2 true eqD (eName 5) (eD (.int 0)))) (fun env => .bk env) sPass)))
def b__law_pool_4 : SM := (sSeq (sSet 5 (eCall intD (aCons true (eName 2) aNil)))
    (sIf (tvB (eOp2 true geD (eName 5) (eOp2 true powD (eD (.int 10)) (eD (.int 18))))) (sFor (iR1 (aCons true (eD (.int 60)) aNil)) (gNm 4) b__law_pool_3) (sOwn 1 (eOp2 true addD (eName 1) (eLst (aCons true (eOp2 true modD (eCall intD (aCons true (eName 5) aNil)) (eD (.int 60))) (aCons true (eOp2 true modD (eCall intD (aCons true (eOp2 true fdivD (eName 5) (eD (.int 60))) aNil)) (eD (.int 60))) aNil)))))))
def m__law_pool : SM :=
  (sSeq (sOwn 1 (eLst aNil))
    (sSeq (sFor (iSeq (eName 0)) (gNm 2) b__law_pool_4)
    (sSeq (sSet 3 (eD (.int 17)))
    (sSeq (sFor (iSeq (eName 0)) (gNm 2) b__law_pool_2)
    (sSeq (sFor (iR1 (aCons true (eD (.int 300)) aNil)) (gNm 4) b__law_pool_1)
    (sRet (eName 1)))))))
def f__law_pool : FM := runF 6 1 [0] m__law_pool
/-- _law_stream(script): slots 0 script -/
def m__law_stream : SM :=
  (sRet (eOp2 false addD (eLst (aCons true (eD (.int 1)) aNil)) (eFn 1 f__law_pool (aCons true (eName 0) aNil))))
def f__law_stream : FM := runF 1 1 [0] m__law_stream
/-- _law_pick(pool, many): slots 0 pool, 1 many, 2 place -/
def m__law_pick : SM :=
  (sSeq (sSet 2 (eOp2 true ixD (eName 0) (eD (.int 0))))
    (sSeq (sAsg (eOp2 true addD (eName 2) (eD (.int 1))) (gSb true (eName 0) (eD (.int 0))))
    (sSeq (sIf (tvB (eOp2 true eqD (eOp2 true ixD (eName 0) (eD (.int 0))) (eCall lenD (aCons true (eName 0) aNil)))) (sAsg (eD (.int 1)) (gSb true (eName 0) (eD (.int 0)))) sPass)
    (sRet (eOp2 true modD (eCall intD (aCons true (eOp2 true ixD (eName 0) (eName 2)) aNil)) (eName 1))))))
def f__law_pick : FM := runF 3 2 [0, 1] m__law_pick
/-- _law_rich(pool, n, many): slots 0 pool, 1 n, 2 many, 3 word, 4 k, 5 kind, 6 e, 7 i, 8 j, 9 h, 10 blocks -/
def b__law_rich_1 : SM := (sSeq (sPar 5 6 (aCons false (eFn 2 f__law_pick (aCons true (eName 0) (aCons true (eD (.int 8)) aNil))) (aCons true (eOp2 false ixD (eLst (aCons true (eD (.int 1)) (aCons true (eOp1 negD (eD (.int 1))) aNil))) (eFn 2 f__law_pick (aCons true (eName 0) (aCons true (eD (.int 2)) aNil)))) aNil)))
    (sSeq (sPar 7 8 (aCons false (eOp2 false addD (eD (.int 1)) (eOp2 true modD (eCall intD (aCons true (eFn 2 f__law_pick (aCons true (eName 0) (aCons true (eD (.int 60)) aNil))) aNil)) (eOp2 true subD (eName 1) (eD (.int 1))))) (aCons true (eOp2 false addD (eD (.int 1)) (eOp2 true modD (eCall intD (aCons true (eFn 2 f__law_pick (aCons true (eName 0) (aCons true (eD (.int 60)) aNil))) aNil)) (eOp2 true subD (eName 1) (eD (.int 1))))) aNil)))
    (sSeq (sSet 9 (eCall maxD (aCons true (eD (.int 1)) (aCons true (eOp2 true subD (eOp2 true addD (eName 7) (eD (.int 1))) (eOp2 true mulD (eD (.int 2)) (eCall intD (aCons true (eOp2 true eqD (eName 7) (eOp2 true subD (eName 1) (eD (.int 1)))) aNil)))) aNil))))
    (sSeq (sSet 10 (eLst (aCons true (eLst (aCons true (eOp2 true mulD (eName 6) (eName 7)) aNil)) (aCons true (eLst (aCons true (eOp2 true mulD (eName 6) (eName 7)) (aCons true (eOp2 true subD (eD (.int 0)) (eOp2 true mulD (eName 6) (eName 7))) aNil))) (aCons true (eLst (aCons true (eOp2 true mulD (eName 6) (eName 7)) (aCons true (eOp2 true mulD (eName 6) (eName 8)) aNil))) (aCons true (eLst (aCons true (eOp2 true mulD (eName 6) (eName 7)) (aCons true (eOp2 true mulD (eName 6) (eName 9)) (aCons true (eOp2 true mulD (eName 6) (eName 7)) aNil)))) (aCons true (eLst (aCons true (eOp2 true mulD (eName 6) (eName 7)) (aCons true (eOp2 true subD (eD (.int 0)) (eOp2 true mulD (eName 6) (eName 9))) (aCons true (eOp2 true mulD (eName 6) (eName 7)) aNil)))) aNil)))))))
    (sSeq (sSet 10 (eOp2 true addD (eName 10) (eLst (aCons true (eLst (aCons true (eOp2 true mulD (eName 6) (eName 7)) (aCons true (eOp2 true mulD (eName 6) (eName 9)) (aCons true (eOp2 true subD (eD (.int 0)) (eOp2 true mulD (eName 6) (eName 7))) aNil)))) (aCons true (eLst (aCons true (eOp2 true mulD (eName 6) (eName 7)) (aCons true (eOp2 true mulD (eName 6) (eName 8)) (aCons true (eOp2 true mulD (eName 6) (eName 7)) aNil)))) (aCons true (eLst (aCons true (eOp2 true mulD (eName 6) (eName 7)) (aCons true (eOp2 true subD (eD (.int 0)) (eOp2 true mulD (eName 6) (eName 8))) aNil))) aNil))))))
    (sSet 3 (eOp2 true addD (eName 3) (eOp2 true ixD (eName 10) (eName 5)))))))))
def m__law_rich : SM :=
  (sSeq (sSet 3 (eLst aNil))
    (sSeq (sFor (iR1 (aCons true (eOp2 true mulD (eName 2) (eCall intD (aCons true (eOp2 true gtD (eName 1) (eD (.int 1))) aNil))) aNil)) (gNm 4) b__law_rich_1)
    (sRet (eName 3))))
def f__law_rich : FM := runF 11 3 [0, 1, 2] m__law_rich
/-- _law_odd(pool, n, word): slots 0 pool, 1 n, 2 word, 3 place, 4 letter, 5 name, 6 found -/
def m__law_odd : SM :=
  (sSeq (sPar 3 4 (aCons false (eOp2 true modD (eCall intD (aCons true (eFn 2 f__law_pick (aCons true (eName 0) (aCons true (eD (.int 60)) aNil))) aNil)) (eOp2 true addD (eCall lenD (aCons true (eName 2) aNil)) (eD (.int 1)))) (aCons true (eOp2 false ixD (eLst (aCons true (eD (.int 1)) (aCons true (eOp1 negD (eD (.int 1))) aNil))) (eFn 2 f__law_pick (aCons true (eName 0) (aCons true (eD (.int 2)) aNil)))) aNil)))
    (sSeq (sSet 5 (eOp2 false ixD (eLst (aCons true (eD (.str "take")) (aCons true (eD (.str "far")) (aCons true (eD (.str "near")) aNil)))) (eFn 2 f__law_pick (aCons true (eName 0) (aCons true (eD (.int 3)) aNil)))))
    (sSeq (sSet 6 (eLst (aCons true (eD .non) (aCons true (eD (.bl true)) (aCons true (eName 3) (aCons true (eName 5) (aCons true (eLst aNil) (aCons true (eTup aNil) (aCons true (eTup (aCons true (eName 5) aNil)) (aCons true (eLst (aCons true (eName 5) (aCons true (eName 3) aNil))) (aCons true (eTup (aCons true (eName 5) (aCons true (eName 3) (aCons true (eName 4) aNil)))) (aCons true (eTup (aCons true (eName 5) (aCons true (eName 3) (aCons true (eD .non) aNil)))) (aCons true (eTup (aCons true (eName 5) (aCons true (eTup (aCons true (eName 3) aNil)) aNil))) aNil)))))))))))))
    (sSeq (sSet 6 (eOp2 true addD (eName 6) (eLst (aCons true (eTup (aCons true (eD (.str "put")) (aCons true (eName 3) aNil))) (aCons true (eTup (aCons true (eD (.str "put")) (aCons true (eName 3) (aCons true (eName 4) (aCons true (eName 4) aNil))))) (aCons true (eLst (aCons true (eD (.str "put")) (aCons true (eName 3) (aCons true (eName 4) aNil)))) (aCons true (eTup (aCons true (eName 3) (aCons true (eName 5) aNil))) (aCons true (eTup (aCons true (eD (.str "")) (aCons true (eName 3) aNil))) (aCons true (eTup (aCons true (eD .non) (aCons true (eName 3) aNil))) aNil)))))))))
    (sSeq (sSet 6 (eOp2 true addD (eName 6) (eLst (aCons true (eTup (aCons true (eOp2 true addD (eName 5) (eD (.str "s"))) (aCons true (eName 3) aNil))) (aCons true (eTup (aCons true (eD (.str "Put")) (aCons true (eName 3) (aCons true (eName 4) aNil)))) (aCons true (eTup (aCons true (eD (.str "put")) (aCons true (eD (.bl true)) (aCons true (eName 4) aNil)))) (aCons true (eTup (aCons true (eD (.str "put")) (aCons true (eName 3) (aCons true (eD (.bl true)) aNil)))) (aCons true (eTup (aCons true (eD (.str "put")) (aCons true (eName 3) (aCons true (eD .non) aNil)))) aNil))))))))
    (sSeq (sSet 6 (eOp2 true addD (eName 6) (eLst (aCons true (eTup (aCons true (eName 5) (aCons true (eD (.bl true)) aNil))) (aCons true (eTup (aCons true (eName 5) (aCons true (eD (.bl false)) aNil))) (aCons true (eTup (aCons true (eName 5) (aCons true (eD .non) aNil))) (aCons true (eTup (aCons true (eName 5) (aCons true (eCall strD (aCons true (eName 3) aNil)) aNil))) (aCons true (eTup (aCons true (eName 5) (aCons true (eLst (aCons true (eName 3) aNil)) aNil))) (aCons true (eTup (aCons true (eLst (aCons true (eName 5) aNil)) (aCons true (eName 3) aNil))) (aCons true (eTup (aCons true (eTup (aCons true (eName 5) aNil)) (aCons true (eName 3) aNil))) aNil))))))))))
    (sSeq (sSet 6 (eOp2 true addD (eName 6) (eLst (aCons true (eTup (aCons true (eD (.str "put")) (aCons true (eCall strD (aCons true (eName 3) aNil)) (aCons true (eName 4) aNil)))) (aCons true (eTup (aCons true (eD (.str "put")) (aCons true (eName 3) (aCons true (eLst (aCons true (eName 4) aNil)) aNil)))) (aCons true (eTup (aCons true (eD (.str "put")) (aCons true (eName 3) (aCons true (eCall strD (aCons true (eName 4) aNil)) aNil)))) (aCons true (eLst (aCons true (eTup (aCons true (eName 5) (aCons true (eName 3) aNil))) aNil)) aNil)))))))
    (sSeq (sSet 6 (eOp2 true addD (eName 6) (eLst (aCons true (eTup (aCons true (eTup (aCons true (eName 5) (aCons true (eName 3) aNil))) aNil)) (aCons true (eTup (aCons true (eName 5) (aCons true (eOp2 true powD (eD (.int 10)) (eD (.int 30))) aNil))) (aCons true (eTup (aCons true (eD (.str "put")) (aCons true (eOp2 true powD (eD (.int 10)) (eD (.int 30))) (aCons true (eName 4) aNil)))) (aCons true (eTup (aCons true (eD (.str "put")) (aCons true (eName 3) (aCons true (eOp2 true powD (eD (.int 10)) (eD (.int 30))) aNil)))) (aCons true (eTup (aCons true (eName 5) (aCons true (eOp2 true subD (eD (.int 0)) (eOp2 true powD (eD (.int 10)) (eD (.int 30)))) aNil))) aNil))))))))
    (sRet (eOp2 true addD (eName 6) (eLst (aCons true (eTup (aCons true (eName 5) (aCons true (eOp2 true subD (eOp2 true subD (eName 3) (eCall lenD (aCons true (eName 2) aNil))) (eD (.int 1))) aNil))) (aCons true (eTup (aCons true (eD (.str "put")) (aCons true (eOp2 true subD (eOp2 true subD (eName 3) (eCall lenD (aCons true (eName 2) aNil))) (eD (.int 1))) (aCons true (eName 4) aNil)))) (aCons true (eTup (aCons true (eD (.str "put")) (aCons true (eName 3) (aCons true (eName 4) (aCons true (eName 3) (aCons true (eName 4) aNil)))))) aNil))))))))))))))
def f__law_odd : FM := runF 7 3 [0, 1, 2] m__law_odd
/-- _law_steps(n, word): slots 0 n, 1 word, 2 found, 3 place, 4 letter -/
def c__law_steps_1 : EM := (eTup (aCons true (eD (.str "put")) (aCons true (eName 3) (aCons true (eName 4) aNil))))
def b__law_steps_2 : SM := (sSeq (sSet 2 (eOp2 true addD (eName 2) (eLst (aCons true (eTup (aCons true (eD (.str "take")) (aCons true (eName 3) aNil))) (aCons true (eTup (aCons true (eD (.str "far")) (aCons true (eName 3) aNil))) (aCons true (eTup (aCons true (eD (.str "near")) (aCons true (eName 3) aNil))) aNil))))))
    (sSet 2 (eOp2 false addD (eName 2) (eComp [4] (iR2 (aCons true (eOp2 true subD (eOp2 true subD (eD (.int 0)) (eName 0)) (eD (.int 1))) (aCons true (eOp2 true addD (eName 0) (eD (.int 2))) aNil))) (gNm 4) tYesM c__law_steps_1))))
def m__law_steps : SM :=
  (sSeq (sSet 2 (eLst aNil))
    (sSeq (sFor (iR2 (aCons true (eOp2 true subD (eD (.int 0)) (eD (.int 2))) (aCons true (eOp2 true addD (eCall lenD (aCons true (eName 1) aNil)) (eD (.int 2))) aNil))) (gNm 3) b__law_steps_2)
    (sRet (eName 2))))
def f__law_steps : FM := runF 5 2 [0, 1] m__law_steps
/-- _law_within(value, low, high): slots 0 value, 1 low, 2 high -/
def m__law_within : SM :=
  (sRet (evAnd (eIsi "int" (eName 0)) (evAnd (evNot (eIsi "bool" (eName 0))) (evChain true true leD leD (eName 1) (eName 0) (eName 2)))))
def f__law_within : FM := runF 3 3 [0, 1, 2] m__law_within
/-- _law_behind(n, word, step): slots 0 n, 1 word, 2 step, 3 head, 4 rest, 5 one, 6 two -/
def m__law_behind : SM :=
  (sSeq (sIf (tvOr (tvNot (tvB (eIsi "tuple" (eName 2)))) (tvOr (tvB (eOp2 true ltD (eCall lenD (aCons true (eName 2) aNil)) (eD (.int 2)))) (tvOr (tvNot (tvB (eIsi "str" (eOp2 true ixD (eName 2) (eD (.int 0)))))) (tvNot (tvB (eFn 3 f__law_within (aCons true (eOp2 true ixD (eName 2) (eD (.int 1))) (aCons true (eD (.int 0)) (aCons true (eCall lenD (aCons true (eName 1) aNil)) aNil))))))))) (sRet (eD .non)) sPass)
    (sSeq (sPar 3 4 (aCons true (eSl true true (eName 1) oNone (oSome (eOp2 true ixD (eName 2) (eD (.int 1))))) (aCons true (eSl true true (eName 1) (oSome (eOp2 true ixD (eName 2) (eD (.int 1)))) oNone) aNil)))
    (sSeq (sIf (tvAnd (tvB (eOp2 true eqD (eCall lenD (aCons true (eName 2) aNil)) (eD (.int 3)))) (tvAnd (tvB (eOp2 true eqD (eOp2 true ixD (eName 2) (eD (.int 0))) (eD (.str "put")))) (tvAnd (tvB (eFn 3 f__law_within (aCons true (eOp2 true ixD (eName 2) (eD (.int 2))) (aCons true (eOp2 true subD (eD (.int 1)) (eName 0)) (aCons true (eOp2 true subD (eName 0) (eD (.int 1))) aNil))))) (tvB (eOp2 true neD (eOp2 true ixD (eName 2) (eD (.int 2))) (eD (.int 0))))))) (sRet (eOp2 true addD (eOp2 true addD (eName 3) (eLst (aCons true (eOp2 true ixD (eName 2) (eD (.int 2))) (aCons true (eOp2 true subD (eD (.int 0)) (eOp2 true ixD (eName 2) (eD (.int 2)))) aNil)))) (eName 4))) sPass)
    (sSeq (sIf (tvOr (tvB (eOp2 true neD (eCall lenD (aCons true (eName 2) aNil)) (eD (.int 2)))) (tvB (eOp2 true ltD (eCall lenD (aCons true (eName 4) aNil)) (eD (.int 2))))) (sRet (eD .non)) sPass)
    (sSeq (sPar 5 6 (aCons true (eOp2 true ixD (eName 4) (eD (.int 0))) (aCons true (eOp2 true ixD (eName 4) (eD (.int 1))) aNil)))
    (sSeq (sIf (tvAnd (tvB (eOp2 true eqD (eOp2 true ixD (eName 2) (eD (.int 0))) (eD (.str "take")))) (tvB (eOp2 true eqD (eName 5) (eOp2 true subD (eD (.int 0)) (eName 6))))) (sRet (eOp2 true addD (eName 3) (eSl true true (eName 4) (oSome (eD (.int 2))) oNone))) sPass)
    (sSeq (sIf (tvAnd (tvB (eOp2 true eqD (eOp2 true ixD (eName 2) (eD (.int 0))) (eD (.str "far")))) (tvB (eOp2 true gtD (eCall absD (aCons true (eOp2 true subD (eCall absD (aCons true (eName 5) aNil)) (eCall absD (aCons true (eName 6) aNil))) aNil)) (eD (.int 1))))) (sRet (eOp2 true addD (eOp2 true addD (eName 3) (eLst (aCons true (eName 6) (aCons true (eName 5) aNil)))) (eSl true true (eName 4) (oSome (eD (.int 2))) oNone))) sPass)
    (sSeq (sIf (tvAnd (tvB (eOp2 true eqD (eOp2 true ixD (eName 2) (eD (.int 0))) (eD (.str "near")))) (tvAnd (tvB (eOp2 true gtD (eCall lenD (aCons true (eName 4) aNil)) (eD (.int 2)))) (tvAnd (tvB (eOp2 true eqD (eOp2 true ixD (eName 4) (eD (.int 2))) (eName 5))) (tvAnd (tvB (eOp2 true eqD (eOp2 true gtD (eName 5) (eD (.int 0))) (eOp2 true gtD (eName 6) (eD (.int 0))))) (tvB (eOp2 true eqD (eCall absD (aCons true (eOp2 true subD (eCall absD (aCons true (eName 5) aNil)) (eCall absD (aCons true (eName 6) aNil))) aNil)) (eD (.int 1)))))))) (sRet (eOp2 true addD (eOp2 true addD (eName 3) (eLst (aCons true (eName 6) (aCons true (eName 5) (aCons true (eName 6) aNil))))) (eSl true true (eName 4) (oSome (eD (.int 3))) oNone))) sPass)
    (sRet (eD .non))))))))))
def f__law_behind : FM := runF 7 3 [0, 1, 2] m__law_behind
/-- is_number(value): slots 0 value -/
def m_is_number : SM :=
  (sRet (evAnd (eIsi "int" (eName 0)) (evNot (eIsi "bool" (eName 0)))))
def f_is_number : FM := runF 1 1 [0] m_is_number
/-- check_strands(n): slots 0 n -/
def m_check_strands : SM :=
  (sIf (tvOr (tvNot (tvB (eFn 1 f_is_number (aCons true (eName 0) aNil)))) (tvNot (tvB (evChain true true leD leD (eD (.int 1)) (eName 0) (eD (.int 8)))))) (sRaise0 "BadStrands") sPass)
def f_check_strands : FM := runF 1 1 [0] m_check_strands
/-- check_letters(n, word, most): slots 0 n, 1 word, 2 most, 3 place, 4 letter -/
def b_check_letters_1 : SM := (sIf (tvOr (tvNot (tvB (eFn 1 f_is_number (aCons true (eName 4) aNil)))) (tvNot (tvB (evChain true true leD ltD (eD (.int 1)) (eCall absD (aCons true (eName 4) aNil)) (eName 0))))) (sRaise1 "BadLetter" "place" (eName 3)) sPass)
def m_check_letters : SM :=
  (sSeq (sExpr (eFn 1 f_check_strands (aCons true (eName 0) aNil)))
    (sSeq (sIf (tvNot (tvB (eIsi "list" (eName 1)))) (sRaise0 "BadWord") sPass)
    (sSeq (sIf (tvB (eOp2 true gtD (eCall lenD (aCons true (eName 1) aNil)) (eName 2))) (sRaise1 "TooLong" "number" (eCall lenD (aCons true (eName 1) aNil))) sPass)
    (sFor (iEnu (aCons true (eName 1) aNil)) (gTp 2 (gCs (gNm 3) (gCs (gNm 4) gNl))) b_check_letters_1))))
def f_check_letters : FM := runF 5 3 [0, 1, 2] m_check_letters
/-- take_away(word, place): slots 0 word, 1 place -/
def m_take_away : SM :=
  (sSeq (sIf (tvOr (tvB (eOp2 true gtD (eOp2 true addD (eName 1) (eD (.int 2))) (eCall lenD (aCons true (eName 0) aNil)))) (tvB (eOp2 true neD (eOp2 true addD (eOp2 true ixD (eName 0) (eName 1)) (eOp2 true ixD (eName 0) (eOp2 true addD (eName 1) (eD (.int 1))))) (eD (.int 0))))) (sRet (eD (.bl false))) sPass)
    (sSeq (sDelS true true (eName 0) (oSome (eName 1)) (oSome (eOp2 true addD (eName 1) (eD (.int 2)))))
    (sRet (eD (.bl true)))))
def f_take_away : FM := runF 2 2 [0, 1] m_take_away
/-- exchange_far(word, place): slots 0 word, 1 place -/
def m_exchange_far : SM :=
  (sSeq (sIf (tvOr (tvB (eOp2 true gtD (eOp2 true addD (eName 1) (eD (.int 2))) (eCall lenD (aCons true (eName 0) aNil)))) (tvB (eOp2 true ltD (eCall absD (aCons true (eOp2 true subD (eCall absD (aCons true (eOp2 true ixD (eName 0) (eName 1)) aNil)) (eCall absD (aCons true (eOp2 true ixD (eName 0) (eOp2 true addD (eName 1) (eD (.int 1)))) aNil))) aNil)) (eD (.int 2))))) (sRet (eD (.bl false))) sPass)
    (sSeq (sAsg (eTup (aCons true (eOp2 true ixD (eName 0) (eOp2 true addD (eName 1) (eD (.int 1)))) (aCons true (eOp2 true ixD (eName 0) (eName 1)) aNil))) (gTp 2 (gCs (gSb true (eName 0) (eName 1)) (gCs (gSb true (eName 0) (eOp2 true addD (eName 1) (eD (.int 1)))) gNl))))
    (sRet (eD (.bl true)))))
def f_exchange_far : FM := runF 2 2 [0, 1] m_exchange_far
/-- turn_near(word, place): slots 0 word, 1 place -/
def m_turn_near : SM :=
  (sSeq (sIf (tvOr (tvB (eOp2 true gtD (eOp2 true addD (eName 1) (eD (.int 3))) (eCall lenD (aCons true (eName 0) aNil)))) (tvOr (tvB (eOp2 true neD (eOp2 true ixD (eName 0) (eName 1)) (eOp2 true ixD (eName 0) (eOp2 true addD (eName 1) (eD (.int 2)))))) (tvB (eOp2 true neD (eCall absD (aCons true (eOp2 true subD (eOp2 true ixD (eName 0) (eName 1)) (eOp2 true ixD (eName 0) (eOp2 true addD (eName 1) (eD (.int 1))))) aNil)) (eD (.int 1)))))) (sRet (eD (.bl false))) sPass)
    (sSeq (sAsg (eTup (aCons true (eOp2 true ixD (eName 0) (eOp2 true addD (eName 1) (eD (.int 1)))) (aCons true (eOp2 true ixD (eName 0) (eName 1)) (aCons true (eOp2 true ixD (eName 0) (eOp2 true addD (eName 1) (eD (.int 1)))) aNil)))) (gTp 3 (gCs (gSb true (eName 0) (eName 1)) (gCs (gSb true (eName 0) (eOp2 true addD (eName 1) (eD (.int 1)))) (gCs (gSb true (eName 0) (eOp2 true addD (eName 1) (eD (.int 2)))) gNl)))))
    (sRet (eD (.bl true)))))
def f_turn_near : FM := runF 2 2 [0, 1] m_turn_near
/-- is_letter(n, value): slots 0 n, 1 value -/
def m_is_letter : SM :=
  (sRet (evAnd (eFn 1 f_is_number (aCons true (eName 1) aNil)) (evChain true true leD ltD (eD (.int 1)) (eCall absD (aCons true (eName 1) aNil)) (eName 0))))
def f_is_letter : FM := runF 2 2 [0, 1] m_is_letter
/-- put_in(n, word, place, letter): slots 0 n, 1 word, 2 place, 3 letter -/
def m_put_in : SM :=
  (sSeq (sIf (tvOr (tvB (eOp2 true gtD (eName 2) (eCall lenD (aCons true (eName 1) aNil)))) (tvNot (tvB (eFn 2 f_is_letter (aCons true (eName 0) (aCons true (eName 3) aNil)))))) (sRet (eD (.bl false))) sPass)
    (sSeq (sAsg (eLst (aCons true (eName 3) (aCons true (eOp1 negD (eName 3)) aNil))) (gCutD true true (eName 1) (oSome (eName 2)) (oSome (eName 2))))
    (sRet (eD (.bl true)))))
def f_put_in : FM := runF 4 4 [0, 1, 2, 3] m_put_in
/-- try_move(n, word, step): slots 0 n, 1 word, 2 step -/
def m_try_move : SM :=
  (sSeq (sIf (tvOr (tvNot (tvB (eIsi "tuple" (eName 2)))) (tvOr (tvB (eOp2 true notinD (eCall lenD (aCons true (eName 2) aNil)) (eTup (aCons true (eD (.int 2)) (aCons true (eD (.int 3)) aNil))))) (tvOr (tvNot (tvB (eFn 1 f_is_number (aCons true (eOp2 true ixD (eName 2) (eD (.int 1))) aNil)))) (tvB (eOp2 true ltD (eOp2 true ixD (eName 2) (eD (.int 1))) (eD (.int 0))))))) (sRet (eD (.bl false))) sPass)
    (sSeq (sIf (tvB (eOp2 true eqD (eCall lenD (aCons true (eName 2) aNil)) (eD (.int 3)))) (sRet (evAnd (eOp2 true eqD (eOp2 true ixD (eName 2) (eD (.int 0))) (eD (.str "put"))) (eFn 4 f_put_in (aCons true (eName 0) (aCons true (eName 1) (aCons true (eOp2 true ixD (eName 2) (eD (.int 1))) (aCons true (eOp2 true ixD (eName 2) (eD (.int 2))) aNil))))))) sPass)
    (sSeq (sIf (tvB (eOp2 true eqD (eOp2 true ixD (eName 2) (eD (.int 0))) (eD (.str "take")))) (sRet (eFn 2 f_take_away (aCons true (eName 1) (aCons true (eOp2 true ixD (eName 2) (eD (.int 1))) aNil)))) sPass)
    (sSeq (sIf (tvB (eOp2 true eqD (eOp2 true ixD (eName 2) (eD (.int 0))) (eD (.str "far")))) (sRet (eFn 2 f_exchange_far (aCons true (eName 1) (aCons true (eOp2 true ixD (eName 2) (eD (.int 1))) aNil)))) sPass)
    (sRet (evAnd (eOp2 true eqD (eOp2 true ixD (eName 2) (eD (.int 0))) (eD (.str "near"))) (eFn 2 f_turn_near (aCons true (eName 1) (aCons true (eOp2 true ixD (eName 2) (eD (.int 1))) aNil)))))))))
def f_try_move : FM := runF 3 3 [0, 1, 2] m_try_move
/-- move(n, word, step): slots 0 n, 1 word, 2 step, 3 found -/
def m_move : SM :=
  (sSeq (sExpr (eFn 3 f_check_letters (aCons true (eName 0) (aCons true (eName 1) (aCons true (eD (.int 4000)) aNil)))))
    (sSeq (sOwn 3 (eCall listD (aCons true (eName 1) aNil)))
    (sSeq (sIf (tvNot (tvB (eFn 3 f_try_move (aCons true (eName 0) (aCons true (eName 3) (aCons true (eName 2) aNil)))))) (sRaise0 "BadMove") sPass)
    (sSeq (sIf (tvB (eOp2 true gtD (eCall lenD (aCons true (eName 3) aNil)) (eD (.int 4000)))) (sRaise1 "TooLong" "number" (eCall lenD (aCons true (eName 3) aNil))) sPass)
    (sRet (eName 3))))))
def f_move : FM := runF 4 3 [0, 1, 2] m_move
/-- _law_classes(e): slots 0 e, 1 held, 2 name, 3 is_so -/
def t__law_classes_1 : TM := (tvT (eName 3))
def c__law_classes_2 : EM := (eName 2)
def m__law_classes : SM :=
  (sSeq (sSet 1 (eLst (aCons true (eTup (aCons true (eD (.str "strands")) (aCons true (eIsx xtab "BadStrands" (eName 0)) aNil))) (aCons true (eTup (aCons true (eD (.str "word")) (aCons true (eIsx xtab "BadWord" (eName 0)) aNil))) (aCons true (eTup (aCons true (eD (.str "long")) (aCons true (eIsx xtab "TooLong" (eName 0)) aNil))) aNil)))))
    (sSeq (sSet 1 (eOp2 true addD (eName 1) (eLst (aCons true (eTup (aCons true (eD (.str "letter")) (aCons true (eIsx xtab "BadLetter" (eName 0)) aNil))) (aCons true (eTup (aCons true (eD (.str "places")) (aCons true (eIsx xtab "BadPlaces" (eName 0)) aNil))) (aCons true (eTup (aCons true (eD (.str "move")) (aCons true (eIsx xtab "BadMove" (eName 0)) aNil))) aNil))))))
    (sSeq (sSet 1 (eOp2 true addD (eName 1) (eLst (aCons true (eTup (aCons true (eD (.str "turning")) (aCons true (eIsx xtab "BadTurning" (eName 0)) aNil))) (aCons true (eTup (aCons true (eD (.str "form")) (aCons true (eIsx xtab "BadForm" (eName 0)) aNil))) (aCons true (eTup (aCons true (eD (.str "many")) (aCons true (eIsx xtab "TooMany" (eName 0)) aNil))) aNil))))))
    (sSeq (sSet 1 (eOp2 true addD (eName 1) (eLst (aCons true (eTup (aCons true (eD (.str "handle")) (aCons true (eIsx xtab "BadHandle" (eName 0)) aNil))) (aCons true (eTup (aCons true (eD (.str "list")) (aCons true (eIsx xtab "BadList" (eName 0)) aNil))) (aCons true (eTup (aCons true (eD (.str "numbers")) (aCons true (eIsx xtab "BadNumbers" (eName 0)) aNil))) aNil))))))
    (sSeq (sSet 1 (eOp2 true addD (eName 1) (eLst (aCons true (eTup (aCons true (eD (.str "number")) (aCons true (eIsx xtab "BadNumber" (eName 0)) aNil))) (aCons true (eTup (aCons true (eD (.str "range")) (aCons true (eIsx xtab "BadRange" (eName 0)) aNil))) (aCons true (eTup (aCons true (eD (.str "deed")) (aCons true (eIsx xtab "BadDeed" (eName 0)) aNil))) aNil))))))
    (sSeq (sSet 1 (eOp2 true addD (eName 1) (eLst (aCons true (eTup (aCons true (eD (.str "paper")) (aCons true (eIsx xtab "BadPaper" (eName 0)) aNil))) (aCons true (eTup (aCons true (eD (.str "use")) (aCons true (eIsx xtab "InUse" (eName 0)) aNil))) (aCons true (eTup (aCons true (eD (.str "positive")) (aCons true (eIsx xtab "NotPositive" (eName 0)) aNil))) aNil))))))
    (sSeq (sSet 1 (eOp2 true addD (eName 1) (eLst (aCons true (eTup (aCons true (eD (.str "curve")) (aCons true (eIsx xtab "NoCurve" (eName 0)) aNil))) (aCons true (eTup (aCons true (eD (.str "undo")) (aCons true (eIsx xtab "NothingToUndo" (eName 0)) aNil))) (aCons true (eTup (aCons true (eD (.str "redo")) (aCons true (eIsx xtab "NothingToRedo" (eName 0)) aNil))) aNil))))))
    (sSeq (sSet 1 (eOp2 true addD (eName 1) (eLst (aCons true (eTup (aCons true (eD (.str "name")) (aCons true (eIsx xtab "UnknownName" (eName 0)) aNil))) (aCons true (eTup (aCons true (eD (.str "entry")) (aCons true (eIsx xtab "BadEntry" (eName 0)) aNil))) (aCons true (eTup (aCons true (eD (.str "text")) (aCons true (eIsx xtab "BadText" (eName 0)) aNil))) aNil))))))
    (sRet (eComp [2, 3] (iSeq (eName 1)) (gTp 2 (gCs (gNm 2) (gCs (gNm 3) gNl))) t__law_classes_1 c__law_classes_2))))))))))
def f__law_classes : FM := runF 4 1 [0] m__law_classes
/-- _law_kept(e): slots 0 e -/
def m__law_kept : SM :=
  (sSeq (sIf (tvB (eIsx xtab "BadLetter" (eName 0))) (sRet (eFldX xtab_place "place" (eName 0))) sPass)
    (sSeq (sIf (tvB (eIsx xtab "TooLong" (eName 0))) (sRet (eFldX xtab_number "number" (eName 0))) sPass)
    (sRet (eD .non))))
def f__law_kept : FM := runF 1 1 [0] m__law_kept
/-- _law_told(n, word, step): slots 0 n, 1 word, 2 step, 3 e -/
def m__law_told : SM :=
  (sTry xtab 3 (sRet (eTupO (aCons false (eD (.str "told")) (aLast (eFn 3 f_move (aCons true (eName 0) (aCons true (eName 1) (aCons true (eName 2) aNil)))))))) (sRet (eTup (aCons false (eD (.str "refused")) (aCons false (eFn 1 f__law_classes (aCons true (eName 3) aNil)) (aCons true (eFn 1 f__law_kept (aCons true (eName 3) aNil)) aNil))))))
def f__law_told : FM := runF 4 3 [0, 1, 2] m__law_told
/-- _law_same(value, due): slots 0 value, 1 due, 2 k -/
def c__law_same_1 (self : FM) : EM := (eFn 2 self (aCons true (eOp2 true ixD (eName 0) (eName 2)) (aCons true (eOp2 true ixD (eName 1) (eName 2)) aNil)))
def m__law_same (self : FM) : SM :=
  (sSeq (sIf (tvB (eOp2 true isD (eName 1) (eD .non))) (sRet (eOp2 true isD (eName 0) (eD .non))) sPass)
    (sSeq (sIf (tvB (eIsi "bool" (eName 1))) (sRet (evAnd (eIsi "bool" (eName 0)) (eOp2 true eqD (eName 0) (eName 1)))) sPass)
    (sSeq (sIf (tvB (eIsi "int" (eName 1))) (sRet (evAnd (eIsi "int" (eName 0)) (evAnd (evNot (eIsi "bool" (eName 0))) (eOp2 true eqD (eName 0) (eName 1))))) sPass)
    (sSeq (sIf (tvB (eIsi "str" (eName 1))) (sRet (evAnd (eIsi "str" (eName 0)) (eOp2 true eqD (eName 0) (eName 1)))) sPass)
    (sSeq (sIf (tvOr (tvAnd (tvB (eIsi "list" (eName 1))) (tvNot (tvB (eIsi "list" (eName 0))))) (tvAnd (tvB (eIsi "tuple" (eName 1))) (tvNot (tvB (eIsi "tuple" (eName 0)))))) (sRet (eD (.bl false))) sPass)
    (sRet (evAnd (eOp2 true eqD (eCall lenD (aCons true (eName 0) aNil)) (eCall lenD (aCons true (eName 1) aNil))) (eCall allD (aCons true (eComp [2] (iR1 (aCons true (eCall lenD (aCons true (eName 1) aNil)) aNil)) (gNm 2) tYesM (c__law_same_1 self)) aNil)))))))))
def fr__law_same : Nat → FM
  | 0 => fun _ => .no
  | n + 1 => runF 3 2 [0, 1] (m__law_same (fr__law_same n))
def f__law_same : FM := fr__law_same 6
/-- _law_copy(value): slots 0 value, 1 one -/
def c__law_copy_1 (self : FM) : EM := (eFn 1 self (aCons true (eName 1) aNil))
def c__law_copy_2 (self : FM) : EM := (eFn 1 self (aCons true (eName 1) aNil))
def m__law_copy (self : FM) : SM :=
  (sSeq (sIf (tvB (eIsi "list" (eName 0))) (sRet (eComp [1] (iSeq (eName 0)) (gNm 1) tYesM (c__law_copy_2 self))) sPass)
    (sSeq (sIf (tvB (eIsi "tuple" (eName 0))) (sRet (eCall tupleD (aCons true (eComp [1] (iSeq (eName 0)) (gNm 1) tYesM (c__law_copy_1 self)) aNil))) sPass)
    (sRet (eName 0))))
def fr__law_copy : Nat → FM
  | 0 => fun _ => .no
  | n + 1 => runF 2 1 [0] (m__law_copy (fr__law_copy n))
def f__law_copy : FM := fr__law_copy 6
/-- _law_way_back(word, step): slots 0 word, 1 step -/
def m__law_way_back : SM :=
  (sSeq (sIf (tvB (eOp2 true eqD (eOp2 true ixD (eName 1) (eD (.int 0))) (eD (.str "put")))) (sRet (eTup (aCons true (eD (.str "take")) (aCons true (eOp2 true ixD (eName 1) (eD (.int 1))) aNil)))) sPass)
    (sSeq (sIf (tvB (eOp2 true eqD (eOp2 true ixD (eName 1) (eD (.int 0))) (eD (.str "take")))) (sRet (eTup (aCons true (eD (.str "put")) (aCons true (eOp2 true ixD (eName 1) (eD (.int 1))) (aCons true (eOp2 true ixD (eName 0) (eOp2 true ixD (eName 1) (eD (.int 1)))) aNil))))) sPass)
    (sRet (eName 1))))
def f__law_way_back : FM := runF 2 2 [0, 1] m__law_way_back
/-- _law_is_right(n, word, step): slots 0 n, 1 word, 2 step, 3 handed, 4 further, 5 due, 6 told, 7 letter -/
def c__law_is_right_1 : EM := (eName 7)
def m__law_is_right : SM :=
  (sSeq (sPar 3 4 (aCons false (eComp [7] (iSeq (eName 1)) (gNm 7) tYesM c__law_is_right_1) (aCons true (eFn 1 f__law_copy (aCons true (eName 2) aNil)) aNil)))
    (sSeq (sSet 5 (eFn 3 f__law_behind (aCons true (eName 0) (aCons true (eName 1) (aCons true (eName 2) aNil)))))
    (sSeq (sOwn2 6 (eFn 3 f__law_told (aCons true (eName 0) (aCons true (eName 3) (aCons true (eName 4) aNil)))))
    (sSeq (sIf (tvOr (tvB (eOp2 true neD (eName 3) (eName 1))) (tvNot (tvB (eFn 2 f__law_same (aCons true (eName 4) (aCons true (eName 2) aNil)))))) (sRet (eD (.bl false))) sPass)
    (sSeq (sIf (tvB (eOp2 true isD (eName 5) (eD .non))) (sRet (eFnX 2 f__law_same (aCons true (eName 6) (aCons true (eTup (aCons true (eD (.str "refused")) (aCons true (eLst (aCons true (eD (.str "move")) aNil)) (aCons true (eD .non) aNil)))) aNil)))) sPass)
    (sSeq (sIf (tvNot (tvB (eFnX 2 f__law_same (aCons true (eName 6) (aCons true (eTup (aCons true (eD (.str "told")) (aCons true (eName 5) aNil))) aNil))))) (sRet (eD (.bl false))) sPass)
    (sSeq (sExpr (eMeth true appendD (eIxC 1 (eName 6)) (aCons true (eD (.int 0)) aNil)))
    (sSeq (sIf (tvOr (tvB (eOp2 true neD (eName 3) (eName 1))) (tvNot (tvB (eFn 2 f__law_same (aCons true (eFn 3 f__law_told (aCons true (eName 0) (aCons true (eName 3) (aCons true (eName 4) aNil)))) (aCons true (eTup (aCons true (eD (.str "told")) (aCons true (eName 5) aNil))) aNil)))))) (sRet (eD (.bl false))) sPass)
    (sRet (eFn 2 f__law_same (aCons true (eFn 3 f__law_told (aCons false (eName 0) (aCons false (eName 5) (aCons true (eFn 2 f__law_way_back (aCons true (eName 1) (aCons true (eName 2) aNil))) aNil)))) (aCons true (eTup (aCons true (eD (.str "told")) (aCons true (eName 1) aNil))) aNil))))))))))))
def f__law_is_right : FM := runF 8 3 [0, 1, 2] m__law_is_right
/-- law(script): slots 0 script, 1 pool, 2 n, 3 word, 4 step -/
def b_law_1 : SM := (sIf (tvNot (tvB (eFn 3 f__law_is_right (aCons true (eName 2) (aCons true (eName 3) (aCons true (eName 4) aNil)))))) (sRet (eD (.bl false))) sPass)
def b_law_2 : SM := (sIf (tvNot (tvB (eFn 3 f__law_is_right (aCons true (eName 2) (aCons true (eName 3) (aCons true (eName 4) aNil)))))) (sRet (eD (.bl false))) sPass)
def m_law : SM :=
  (sSeq (sOwn 1 (eFn 1 f__law_stream (aCons true (eName 0) aNil)))
    (sSeq (sSet 2 (eOp2 false ixD (eLst (aCons true (eD (.int 1)) (aCons true (eD (.int 2)) (aCons true (eD (.int 8)) (aCons true (eD (.int 3)) (aCons true (eD (.int 4)) (aCons true (eD (.int 5)) (aCons true (eD (.int 6)) (aCons true (eD (.int 7)) aNil))))))))) (eFn 2 f__law_pick (aCons true (eName 1) (aCons true (eD (.int 8)) aNil)))))
    (sSeq (sSet 3 (eFn 3 f__law_rich (aCons false (eName 1) (aCons false (eName 2) (aCons true (eFn 2 f__law_pick (aCons true (eName 1) (aCons true (eD (.int 4)) aNil))) aNil)))))
    (sSeq (sFor (iSeq (eFn 3 f__law_odd (aCons true (eName 1) (aCons true (eName 2) (aCons true (eName 3) aNil))))) (gNm 4) b_law_2)
    (sSeq (sFor (iSeq (eFn 2 f__law_steps (aCons true (eName 2) (aCons true (eName 3) aNil)))) (gNm 4) b_law_1)
    (sRet (eD (.bl true))))))))
def f_law : FM := runF 5 1 [0] m_law
end Mir
namespace Law
open PySem DL Mir
theorem copy_ok : ∀ {k : Nat} {d : D}, Fit k d → fr__law_copy k [.dat d] = .ok (nwE d) []
  | 0, _, h => h.elim
  | k + 1, d, h => by
    have it : ∀ x, Fit k x → hold true ((eFn 1 (fr__law_copy k) (aCons true (eName 1) aNil)) [.dat d, .dat x]) = .ok (.dat x) [.dat d, .dat x] := fun x hx => by
      have := copy_ok hx
      cases x <;> simp [sSeq, sSet, sOwn, sAli, sAsg, sRet, sRetN, sIf, sPass, sExpr, sFor, sPar, sPar3, sParO, sParO3, eFnX, lendM, lends, lendD, lendR, atomD, keepO, slotOf, sOwn2, eFrz, tvT, truD, sortedD, insertD, eOp2, eOp1, eName, eD, ixD, setS_nw, setS_own, nwAt, noOwn_nw, peek_pl, gSb, gNm, gTp, gTq, gCs, gNl, getP, putP, addD, subD, mulD, modD, fdivD, powD, ltD, leD, gtD, geD, isD, isnotD, D.isN, negD, tvB, tvNot, tvAnd, tvOr, evT, evAnd, evOr, evNot, evIf, evChain, eCall, aCons, aNil, peeks, dats, lenD, intD, listD, tupleD, eTup, eLst, eSl, oNone, oSome, slD, revD, eLr1, eLr2, iSeq, iR1_eq, iR1f, iR2_eq, iR2f, iR3_eq, iR3f, iEnu, iZp, tYesM, eMeth, appendD, extendD, popD, reverseD, dropS, eFn, toArgs, backE, aft, finF, backs, eIsi, stp, lim, sTry, outGone, sRaise0, sRaise1, eIsx, eFldX, inD, notinD, sDelS, cutF, gCutD, evChain, O.toD, O.toD.go, eIxC, eTupO, tpO, aLast, eMov, O.get, O.set, ixF_ixS, this]
    show runF 2 1 [0] (m__law_copy (fr__law_copy k)) _ = _
    rw [runF_eq (by rfl) (by rfl)]
    cases d with
    | scr _ => exact h.elim
    | lst xs =>
      have c := comp_gen (own := [1]) (gm := gNm 1) (em := c__law_copy_2 (fr__law_copy k)) (env := [.dat (.lst xs), .un]) id rfl (w := xs) (acc := []) (by have := h.1; simp [lim]; omega) fun x hx => ⟨_, rfl, _, it x (h.2 x hx), rfl, rfl, rfl⟩
      simp only [List.nil_append, List.map_id] at c
      simp [m__law_copy, sSeq, sSet, sOwn, sAli, sAsg, sRet, sRetN, sIf, sPass, sExpr, sFor, sPar, sPar3, sParO, sParO3, eFnX, lendM, lends, lendD, lendR, atomD, keepO, slotOf, sOwn2, eFrz, tvT, truD, sortedD, insertD, eOp2, eOp1, eName, eD, ixD, setS_nw, setS_own, nwAt, noOwn_nw, peek_pl, gSb, gNm, gTp, gTq, gCs, gNl, getP, putP, addD, subD, mulD, modD, fdivD, powD, ltD, leD, gtD, geD, isD, isnotD, D.isN, negD, tvB, tvNot, tvAnd, tvOr, evT, evAnd, evOr, evNot, evIf, evChain, eCall, aCons, aNil, peeks, dats, lenD, intD, listD, tupleD, eTup, eLst, eSl, oNone, oSome, slD, revD, eLr1, eLr2, iSeq, iR1_eq, iR1f, iR2_eq, iR2f, iR3_eq, iR3f, iEnu, iZp, tYesM, eMeth, appendD, extendD, popD, reverseD, dropS, eFn, toArgs, backE, aft, finF, backs, eIsi, stp, lim, sTry, outGone, sRaise0, sRaise1, eIsx, eFldX, inD, notinD, sDelS, cutF, gCutD, evChain, O.toD, O.toD.go, eIxC, eTupO, tpO, aLast, eMov, O.get, O.set, ixF_ixS, eComp, c]
    | tup xs =>
      have c := comp_gen (own := [1]) (gm := gNm 1) (em := c__law_copy_1 (fr__law_copy k)) (env := [.dat (.tup xs), .un]) id rfl (w := xs) (acc := []) (by have := h.1; simp [lim]; omega) fun x hx => ⟨_, rfl, _, it x (h.2 x hx), rfl, rfl, rfl⟩
      simp only [List.nil_append, List.map_id] at c
      simp [m__law_copy, sSeq, sSet, sOwn, sAli, sAsg, sRet, sRetN, sIf, sPass, sExpr, sFor, sPar, sPar3, sParO, sParO3, eFnX, lendM, lends, lendD, lendR, atomD, keepO, slotOf, sOwn2, eFrz, tvT, truD, sortedD, insertD, eOp2, eOp1, eName, eD, ixD, setS_nw, setS_own, nwAt, noOwn_nw, peek_pl, gSb, gNm, gTp, gTq, gCs, gNl, getP, putP, addD, subD, mulD, modD, fdivD, powD, ltD, leD, gtD, geD, isD, isnotD, D.isN, negD, tvB, tvNot, tvAnd, tvOr, evT, evAnd, evOr, evNot, evIf, evChain, eCall, aCons, aNil, peeks, dats, lenD, intD, listD, tupleD, eTup, eLst, eSl, oNone, oSome, slD, revD, eLr1, eLr2, iSeq, iR1_eq, iR1f, iR2_eq, iR2f, iR3_eq, iR3f, iEnu, iZp, tYesM, eMeth, appendD, extendD, popD, reverseD, dropS, eFn, toArgs, backE, aft, finF, backs, eIsi, stp, lim, sTry, outGone, sRaise0, sRaise1, eIsx, eFldX, inD, notinD, sDelS, cutF, gCutD, evChain, O.toD, O.toD.go, eIxC, eTupO, tpO, aLast, eMov, O.get, O.set, ixF_ixS, eComp, c]
    | _ => simp [m__law_copy, sSeq, sSet, sOwn, sAli, sAsg, sRet, sRetN, sIf, sPass, sExpr, sFor, sPar, sPar3, sParO, sParO3, eFnX, lendM, lends, lendD, lendR, atomD, keepO, slotOf, sOwn2, eFrz, tvT, truD, sortedD, insertD, eOp2, eOp1, eName, eD, ixD, setS_nw, setS_own, nwAt, noOwn_nw, peek_pl, gSb, gNm, gTp, gTq, gCs, gNl, getP, putP, addD, subD, mulD, modD, fdivD, powD, ltD, leD, gtD, geD, isD, isnotD, D.isN, negD, tvB, tvNot, tvAnd, tvOr, evT, evAnd, evOr, evNot, evIf, evChain, eCall, aCons, aNil, peeks, dats, lenD, intD, listD, tupleD, eTup, eLst, eSl, oNone, oSome, slD, revD, eLr1, eLr2, iSeq, iR1_eq, iR1f, iR2_eq, iR2f, iR3_eq, iR3f, iEnu, iZp, tYesM, eMeth, appendD, extendD, popD, reverseD, dropS, eFn, toArgs, backE, aft, finF, backs, eIsi, stp, lim, sTry, outGone, sRaise0, sRaise1, eIsx, eFldX, inD, notinD, sDelS, cutF, gCutD, evChain, O.toD, O.toD.go, eIxC, eTupO, tpO, aLast, eMov, O.get, O.set, ixF_ixS]
theorem same_ok : ∀ {k : Nat} {d : D}, Fit k d → fr__law_same k [.dat d, .dat d] = .ok (.dat (.bl true)) []
  | 0, _, h => h.elim
  | k + 1, d, h => by
    show runF 3 2 [0, 1] (m__law_same (fr__law_same k)) _ = _
    rw [runF_eq (by rfl) (by rfl)]
    have seq : ∀ (d : D) (xs : List D), (∀ i, ixD d (.int i) = (L2.atI xs i).map Ev.dat) → xs.length ≤ 16000000 → (∀ x ∈ xs, Fit k x) →
        compL [2] (gNm 2) tYesM (c__law_same_1 (fr__law_same k)) (mi (rg 0 xs.length)) [.dat d, .dat d, .un] [] = .ok (.new (.lst (mb (List.replicate xs.length true)))) [.dat d, .dat d, .un] := fun d xs hd hl hx => by
      have c := comp_gen (own := [2]) (gm := gNm 2) (em := c__law_same_1 (fr__law_same k)) (env := [.dat d, .dat d, .un]) (fun _ => .bl true) rfl (w := mi (rg 0 xs.length)) (acc := []) (by simp [lim]; omega) fun i hi => by
        obtain ⟨j, hj, rfl⟩ := List.mem_map.1 hi
        have hr := rg_mem hj
        obtain ⟨x, hx'⟩ : ∃ x, xs[j.toNat]? = some x := ⟨xs[j.toNat]'(by omega), List.getElem?_eq_getElem (by omega)⟩
        have h1 : L2.atI xs j = some x := by rw [atI_pos hr.1]; exact hx'
        have h2 := same_ok (hx x (List.mem_of_getElem? hx'))
        have h3 : ixD d (.int j) = some (.dat x) := by rw [hd, h1]; rfl
        exact ⟨[.dat d, .dat d, .dat (.int j)], by simp [gNm, wipeV, sSeq, sSet, sOwn, sAli, sAsg, sRet, sRetN, sIf, sPass, sExpr, sFor, sPar, sPar3, sParO, sParO3, eFnX, lendM, lends, lendD, lendR, atomD, keepO, slotOf, sOwn2, eFrz, tvT, truD, sortedD, insertD, eOp2, eOp1, eName, eD, ixD, setS_nw, setS_own, nwAt, noOwn_nw, peek_pl, gSb, gNm, gTp, gTq, gCs, gNl, getP, putP, addD, subD, mulD, modD, fdivD, powD, ltD, leD, gtD, geD, isD, isnotD, D.isN, negD, tvB, tvNot, tvAnd, tvOr, evT, evAnd, evOr, evNot, evIf, evChain, eCall, aCons, aNil, peeks, dats, lenD, intD, listD, tupleD, eTup, eLst, eSl, oNone, oSome, slD, revD, eLr1, eLr2, iSeq, iR1_eq, iR1f, iR2_eq, iR2f, iR3_eq, iR3f, iEnu, iZp, tYesM, eMeth, appendD, extendD, popD, reverseD, dropS, eFn, toArgs, backE, aft, finF, backs, eIsi, stp, lim, sTry, outGone, sRaise0, sRaise1, eIsx, eFldX, inD, notinD, sDelS, cutF, gCutD, evChain, O.toD, O.toD.go, eIxC, eTupO, tpO, aLast, eMov, O.get, O.set, ixF_ixS], [.dat d, .dat d, .dat (.int j)], by simp [c__law_same_1, eFn, toArgs, aCons, aNil, eOp2, eName, h3, h2, aft, backE], rfl, rfl, rfl⟩
      rw [List.nil_append, map_blc, mi_length, rg_length] at c
      exact c
    cases d with
    | scr _ => exact h.elim
    | lst xs =>
      have c := seq (.lst xs) xs (fun _ => rfl) h.1 h.2
      have hs : smI ((xs.length : Int)) = true := smI_nat (by omega) (by have := h.1; omega)
      simp [m__law_same, sSeq, sSet, sOwn, sAli, sAsg, sRet, sRetN, sIf, sPass, sExpr, sFor, sPar, sPar3, sParO, sParO3, eFnX, lendM, lends, lendD, lendR, atomD, keepO, slotOf, sOwn2, eFrz, tvT, truD, sortedD, insertD, eOp2, eOp1, eName, eD, ixD, setS_nw, setS_own, nwAt, noOwn_nw, peek_pl, gSb, gNm, gTp, gTq, gCs, gNl, getP, putP, addD, subD, mulD, modD, fdivD, powD, ltD, leD, gtD, geD, isD, isnotD, D.isN, negD, tvB, tvNot, tvAnd, tvOr, evT, evAnd, evOr, evNot, evIf, evChain, eCall, aCons, aNil, peeks, dats, lenD, intD, listD, tupleD, eTup, eLst, eSl, oNone, oSome, slD, revD, eLr1, eLr2, iSeq, iR1_eq, iR1f, iR2_eq, iR2f, iR3_eq, iR3f, iEnu, iZp, tYesM, eMeth, appendD, extendD, popD, reverseD, dropS, eFn, toArgs, backE, aft, finF, backs, eIsi, stp, lim, sTry, outGone, sRaise0, sRaise1, eIsx, eFldX, inD, notinD, sDelS, cutF, gCutD, evChain, O.toD, O.toD.go, eIxC, eTupO, tpO, aLast, eMov, O.get, O.set, ixF_ixS, eComp, hs, c, allD]
    | tup xs =>
      have c := seq (.tup xs) xs (fun _ => rfl) h.1 h.2
      have hs : smI ((xs.length : Int)) = true := smI_nat (by omega) (by have := h.1; omega)
      simp [m__law_same, sSeq, sSet, sOwn, sAli, sAsg, sRet, sRetN, sIf, sPass, sExpr, sFor, sPar, sPar3, sParO, sParO3, eFnX, lendM, lends, lendD, lendR, atomD, keepO, slotOf, sOwn2, eFrz, tvT, truD, sortedD, insertD, eOp2, eOp1, eName, eD, ixD, setS_nw, setS_own, nwAt, noOwn_nw, peek_pl, gSb, gNm, gTp, gTq, gCs, gNl, getP, putP, addD, subD, mulD, modD, fdivD, powD, ltD, leD, gtD, geD, isD, isnotD, D.isN, negD, tvB, tvNot, tvAnd, tvOr, evT, evAnd, evOr, evNot, evIf, evChain, eCall, aCons, aNil, peeks, dats, lenD, intD, listD, tupleD, eTup, eLst, eSl, oNone, oSome, slD, revD, eLr1, eLr2, iSeq, iR1_eq, iR1f, iR2_eq, iR2f, iR3_eq, iR3f, iEnu, iZp, tYesM, eMeth, appendD, extendD, popD, reverseD, dropS, eFn, toArgs, backE, aft, finF, backs, eIsi, stp, lim, sTry, outGone, sRaise0, sRaise1, eIsx, eFldX, inD, notinD, sDelS, cutF, gCutD, evChain, O.toD, O.toD.go, eIxC, eTupO, tpO, aLast, eMov, O.get, O.set, ixF_ixS, eComp, hs, c, allD]
    | _ => simp [m__law_same, sSeq, sSet, sOwn, sAli, sAsg, sRet, sRetN, sIf, sPass, sExpr, sFor, sPar, sPar3, sParO, sParO3, eFnX, lendM, lends, lendD, lendR, atomD, keepO, slotOf, sOwn2, eFrz, tvT, truD, sortedD, insertD, eOp2, eOp1, eName, eD, ixD, setS_nw, setS_own, nwAt, noOwn_nw, peek_pl, gSb, gNm, gTp, gTq, gCs, gNl, getP, putP, addD, subD, mulD, modD, fdivD, powD, ltD, leD, gtD, geD, isD, isnotD, D.isN, negD, tvB, tvNot, tvAnd, tvOr, evT, evAnd, evOr, evNot, evIf, evChain, eCall, aCons, aNil, peeks, dats, lenD, intD, listD, tupleD, eTup, eLst, eSl, oNone, oSome, slD, revD, eLr1, eLr2, iSeq, iR1_eq, iR1f, iR2_eq, iR2f, iR3_eq, iR3f, iEnu, iZp, tYesM, eMeth, appendD, extendD, popD, reverseD, dropS, eFn, toArgs, backE, aft, finF, backs, eIsi, stp, lim, sTry, outGone, sRaise0, sRaise1, eIsx, eFldX, inD, notinD, sDelS, cutF, gCutD, evChain, O.toD, O.toD.go, eIxC, eTupO, tpO, aLast, eMov, O.get, O.set, ixF_ixS]

/-- the errors of words -/
inductive Er where
  | strands | word | long (k : Int) | letter (p : Int)
def Er.nm : Er → Str
  | .strands => "strands"
  | .word => "word"
  | .long _ => "long"
  | .letter _ => "letter"
def Er.kept : Er → D
  | .strands => .non
  | .word => .non
  | .long k => .int k
  | .letter p => .int p
def Er.exn : Er → Exn
  | .strands => ⟨"BadStrands", []⟩
  | .word => ⟨"BadWord", []⟩
  | .long k => ⟨"TooLong", [("number", .int k)]⟩
  | .letter p => ⟨"BadLetter", [("place", .int p)]⟩
def isL (n : Int) : D → Bool
  | .int i => decide (i ≠ 0 ∧ (i.natAbs : Int) < n)
  | _ => false
def badAt (n : Int) : List D → Int → Option Int
  | [], _ => none
  | d :: ds, k => if isL n d = true then badAt n ds (k + 1) else some k
def Wd (n : Int) (w : List Int) : Prop := ∀ l ∈ w, l ≠ 0 ∧ (l.natAbs : Int) < n
theorem badAt_none {n : Int} : ∀ {ds : List D} {k : Int}, badAt n ds k = none → ∃ w, ds = mi w ∧ Wd n w
  | [], _, _ => ⟨[], rfl, fun _ m => nomatch m⟩
  | d :: ds, k, h => by
    unfold badAt at h
    split at h
    · rename_i hd
      obtain ⟨w, rfl, hw⟩ := badAt_none h
      cases d with
      | int i =>
        refine ⟨i :: w, rfl, fun l m => ?_⟩
        rcases List.mem_cons.1 m with rfl | m
        · simpa [isL] using hd
        · exact hw l m
      | _ => cases hd
    · cases h
theorem badAt_mi {n : Int} : ∀ {w : List Int} {k : Int}, Wd n w → badAt n (mi w) k = none
  | [], _, _ => rfl
  | l :: w, k, h => by
    show badAt n (D.int l :: mi w) k = none
    unfold badAt
    rw [if_pos (by simpa [isL] using h l List.mem_cons_self)]
    exact badAt_mi fun x m => h x (List.mem_cons_of_mem _ m)
/-- the error that is due for a word -/
def ferr (n w : D) (most : Int) : Option Er := match n with
  | .int n => if n < 1 ∨ 8 < n then some .strands else match w with
    | .lst xs => if most < xs.length then some (.long xs.length) else (badAt n xs 0).map .letter
    | _ => some .word
  | _ => some .strands
theorem ferr_none {n w : D} {most : Int} (h : ferr n w most = none) : ∃ (m : Int) (u : List Int), n = .int m ∧ w = .lst (mi u) ∧ 1 ≤ m ∧ m ≤ 8 ∧ (u.length : Int) ≤ most ∧ Wd m u := by
  unfold ferr at h
  split at h
  · rename_i m
    split at h
    · cases h
    · split at h
      · rename_i xs
        split at h
        · cases h
        · simp only [Option.map_eq_none_iff] at h
          obtain ⟨u, rfl, hu⟩ := badAt_none h
          rw [mi_length] at *
          exact ⟨m, u, rfl, rfl, by omega, by omega, by omega, hu⟩
      · cases h
  · cases h
theorem ferr_ok {m : Int} {u : List Int} {most : Int} (h1 : 1 ≤ m) (h8 : m ≤ 8) (hl : (u.length : Int) ≤ most) (hu : Wd m u) : ferr (.int m) (.lst (mi u)) most = none := by
  unfold ferr
  simp only
  rw [if_neg (by omega), if_neg (by rw [mi_length]; omega), badAt_mi hu]
  rfl
theorem rg_cons' (k : Nat) (m : Nat) : mi (rg k (m + 1)) = D.int k :: mi (rg ((k + 1 : Nat) : Int) m) := by
  simp only [rg, mi, List.map_map]
  rw [List.range_succ_eq_map]
  simp [List.map_map, Function.comp_def]
  intro a _
  omega
def Ns (d : D) : Prop := match d with
  | .scr _ => False
  | .lst xs => xs.length ≤ 16000000 ∧ ∀ d ∈ xs, ∀ ns, d ≠ .scr ns
  | _ => True
theorem Fit.ns {k : Nat} {d : D} (h : Fit k d) : Ns d := by
  cases k with
  | zero => exact h.elim
  | succ k =>
    cases d with
    | scr _ => exact h.elim
    | lst xs => exact ⟨h.1, fun d m ns e => by have := h.2 d m; rw [e] at this; cases k <;> exact this.elim⟩
    | _ => trivial
def isI : D → Bool
  | .int _ => true
  | _ => false
@[simp] theorem isI_int (i : Int) : isI (.int i) = true := rfl
@[simp] theorem isI_str (i : Str) : isI (.str i) = false := rfl
@[simp] theorem isI_bl (i : Bool) : isI (.bl i) = false := rfl
@[simp] theorem isI_non : isI .non = false := rfl
@[simp] theorem isI_lst (i : List D) : isI (.lst i) = false := rfl
@[simp] theorem isI_tup (i : List D) : isI (.tup i) = false := rfl
theorem number_ok {d : D} (h : ∀ ns, d ≠ .scr ns) : f_is_number [.dat d] = .ok (.dat (.bl (isI d))) [] := by
  unfold f_is_number
  rw [runF_eq (by rfl) (by rfl)]
  cases d with
  | scr ns => exact (h ns rfl).elim
  | _ => simp [m_is_number, sSeq, sSet, sOwn, sAli, sAsg, sRet, sRetN, sIf, sPass, sExpr, sFor, sPar, sPar3, sParO, sParO3, eFnX, lendM, lends, lendD, lendR, atomD, keepO, slotOf, sOwn2, eFrz, tvT, truD, sortedD, insertD, eOp2, eOp1, eName, eD, ixD, setS_nw, setS_own, nwAt, noOwn_nw, peek_pl, gSb, gNm, gTp, gTq, gCs, gNl, getP, putP, addD, subD, mulD, modD, fdivD, powD, ltD, leD, gtD, geD, isD, isnotD, D.isN, negD, tvB, tvNot, tvAnd, tvOr, evT, evAnd, evOr, evNot, evIf, evChain, eCall, aCons, aNil, peeks, dats, lenD, intD, listD, tupleD, eTup, eLst, eSl, oNone, oSome, slD, revD, eLr1, eLr2, iSeq, iR1_eq, iR1f, iR2_eq, iR2f, iR3_eq, iR3f, iEnu, iZp, tYesM, eMeth, appendD, extendD, popD, reverseD, dropS, eFn, toArgs, backE, aft, finF, backs, eIsi, stp, lim, sTry, outGone, sRaise0, sRaise1, eIsx, eFldX, inD, notinD, sDelS, cutF, gCutD, evChain, O.toD, O.toD.go, eIxC, eTupO, tpO, aLast, eMov, O.get, O.set, ixF_ixS]
theorem strands_ok {n : D} (h : Ns n) : f_check_strands [.dat n] = match n with
    | .int n => if n < 1 ∨ 8 < n then .ex ⟨"BadStrands", []⟩ [] else .ok (.dat .non) []
    | _ => .ex ⟨"BadStrands", []⟩ [] := by
  unfold f_check_strands
  rw [runF_eq (by rfl) (by rfl)]
  cases n with
  | scr ns => exact h.elim
  | int n =>
    have hn := number_ok (d := .int n) (fun _ => by simp)
    by_cases c : n < 1
    · have c1 : ¬ 1 ≤ n := by omega
      simp only
      rw [if_pos (.inl c)]
      simp [m_check_strands, sSeq, sSet, sOwn, sAli, sAsg, sRet, sRetN, sIf, sPass, sExpr, sFor, sPar, sPar3, sParO, sParO3, eFnX, lendM, lends, lendD, lendR, atomD, keepO, slotOf, sOwn2, eFrz, tvT, truD, sortedD, insertD, eOp2, eOp1, eName, eD, ixD, setS_nw, setS_own, nwAt, noOwn_nw, peek_pl, gSb, gNm, gTp, gTq, gCs, gNl, getP, putP, addD, subD, mulD, modD, fdivD, powD, ltD, leD, gtD, geD, isD, isnotD, D.isN, negD, tvB, tvNot, tvAnd, tvOr, evT, evAnd, evOr, evNot, evIf, evChain, eCall, aCons, aNil, peeks, dats, lenD, intD, listD, tupleD, eTup, eLst, eSl, oNone, oSome, slD, revD, eLr1, eLr2, iSeq, iR1_eq, iR1f, iR2_eq, iR2f, iR3_eq, iR3f, iEnu, iZp, tYesM, eMeth, appendD, extendD, popD, reverseD, dropS, eFn, toArgs, backE, aft, finF, backs, eIsi, stp, lim, sTry, outGone, sRaise0, sRaise1, eIsx, eFldX, inD, notinD, sDelS, cutF, gCutD, evChain, O.toD, O.toD.go, eIxC, eTupO, tpO, aLast, eMov, O.get, O.set, ixF_ixS, hn, c1]
    · by_cases c2 : 8 < n
      · have c1 : 1 ≤ n := by omega
        have c3 : ¬ n ≤ 8 := by omega
        simp only
        rw [if_pos (.inr c2)]
        simp [m_check_strands, sSeq, sSet, sOwn, sAli, sAsg, sRet, sRetN, sIf, sPass, sExpr, sFor, sPar, sPar3, sParO, sParO3, eFnX, lendM, lends, lendD, lendR, atomD, keepO, slotOf, sOwn2, eFrz, tvT, truD, sortedD, insertD, eOp2, eOp1, eName, eD, ixD, setS_nw, setS_own, nwAt, noOwn_nw, peek_pl, gSb, gNm, gTp, gTq, gCs, gNl, getP, putP, addD, subD, mulD, modD, fdivD, powD, ltD, leD, gtD, geD, isD, isnotD, D.isN, negD, tvB, tvNot, tvAnd, tvOr, evT, evAnd, evOr, evNot, evIf, evChain, eCall, aCons, aNil, peeks, dats, lenD, intD, listD, tupleD, eTup, eLst, eSl, oNone, oSome, slD, revD, eLr1, eLr2, iSeq, iR1_eq, iR1f, iR2_eq, iR2f, iR3_eq, iR3f, iEnu, iZp, tYesM, eMeth, appendD, extendD, popD, reverseD, dropS, eFn, toArgs, backE, aft, finF, backs, eIsi, stp, lim, sTry, outGone, sRaise0, sRaise1, eIsx, eFldX, inD, notinD, sDelS, cutF, gCutD, evChain, O.toD, O.toD.go, eIxC, eTupO, tpO, aLast, eMov, O.get, O.set, ixF_ixS, hn, c1, c3]
      · have c1 : 1 ≤ n := by omega
        have c3 : n ≤ 8 := by omega
        simp only
        rw [if_neg (by omega)]
        simp [m_check_strands, sSeq, sSet, sOwn, sAli, sAsg, sRet, sRetN, sIf, sPass, sExpr, sFor, sPar, sPar3, sParO, sParO3, eFnX, lendM, lends, lendD, lendR, atomD, keepO, slotOf, sOwn2, eFrz, tvT, truD, sortedD, insertD, eOp2, eOp1, eName, eD, ixD, setS_nw, setS_own, nwAt, noOwn_nw, peek_pl, gSb, gNm, gTp, gTq, gCs, gNl, getP, putP, addD, subD, mulD, modD, fdivD, powD, ltD, leD, gtD, geD, isD, isnotD, D.isN, negD, tvB, tvNot, tvAnd, tvOr, evT, evAnd, evOr, evNot, evIf, evChain, eCall, aCons, aNil, peeks, dats, lenD, intD, listD, tupleD, eTup, eLst, eSl, oNone, oSome, slD, revD, eLr1, eLr2, iSeq, iR1_eq, iR1f, iR2_eq, iR2f, iR3_eq, iR3f, iEnu, iZp, tYesM, eMeth, appendD, extendD, popD, reverseD, dropS, eFn, toArgs, backE, aft, finF, backs, eIsi, stp, lim, sTry, outGone, sRaise0, sRaise1, eIsx, eFldX, inD, notinD, sDelS, cutF, gCutD, evChain, O.toD, O.toD.go, eIxC, eTupO, tpO, aLast, eMov, O.get, O.set, ixF_ixS, hn, c1, c3]
  | non => simp [m_check_strands, sSeq, sSet, sOwn, sAli, sAsg, sRet, sRetN, sIf, sPass, sExpr, sFor, sPar, sPar3, sParO, sParO3, eFnX, lendM, lends, lendD, lendR, atomD, keepO, slotOf, sOwn2, eFrz, tvT, truD, sortedD, insertD, eOp2, eOp1, eName, eD, ixD, setS_nw, setS_own, nwAt, noOwn_nw, peek_pl, gSb, gNm, gTp, gTq, gCs, gNl, getP, putP, addD, subD, mulD, modD, fdivD, powD, ltD, leD, gtD, geD, isD, isnotD, D.isN, negD, tvB, tvNot, tvAnd, tvOr, evT, evAnd, evOr, evNot, evIf, evChain, eCall, aCons, aNil, peeks, dats, lenD, intD, listD, tupleD, eTup, eLst, eSl, oNone, oSome, slD, revD, eLr1, eLr2, iSeq, iR1_eq, iR1f, iR2_eq, iR2f, iR3_eq, iR3f, iEnu, iZp, tYesM, eMeth, appendD, extendD, popD, reverseD, dropS, eFn, toArgs, backE, aft, finF, backs, eIsi, stp, lim, sTry, outGone, sRaise0, sRaise1, eIsx, eFldX, inD, notinD, sDelS, cutF, gCutD, evChain, O.toD, O.toD.go, eIxC, eTupO, tpO, aLast, eMov, O.get, O.set, ixF_ixS, number_ok (d := .non) (fun _ => by simp)]
  | bl b => simp [m_check_strands, sSeq, sSet, sOwn, sAli, sAsg, sRet, sRetN, sIf, sPass, sExpr, sFor, sPar, sPar3, sParO, sParO3, eFnX, lendM, lends, lendD, lendR, atomD, keepO, slotOf, sOwn2, eFrz, tvT, truD, sortedD, insertD, eOp2, eOp1, eName, eD, ixD, setS_nw, setS_own, nwAt, noOwn_nw, peek_pl, gSb, gNm, gTp, gTq, gCs, gNl, getP, putP, addD, subD, mulD, modD, fdivD, powD, ltD, leD, gtD, geD, isD, isnotD, D.isN, negD, tvB, tvNot, tvAnd, tvOr, evT, evAnd, evOr, evNot, evIf, evChain, eCall, aCons, aNil, peeks, dats, lenD, intD, listD, tupleD, eTup, eLst, eSl, oNone, oSome, slD, revD, eLr1, eLr2, iSeq, iR1_eq, iR1f, iR2_eq, iR2f, iR3_eq, iR3f, iEnu, iZp, tYesM, eMeth, appendD, extendD, popD, reverseD, dropS, eFn, toArgs, backE, aft, finF, backs, eIsi, stp, lim, sTry, outGone, sRaise0, sRaise1, eIsx, eFldX, inD, notinD, sDelS, cutF, gCutD, evChain, O.toD, O.toD.go, eIxC, eTupO, tpO, aLast, eMov, O.get, O.set, ixF_ixS, number_ok (d := .bl b) (fun _ => by simp)]
  | str b => simp [m_check_strands, sSeq, sSet, sOwn, sAli, sAsg, sRet, sRetN, sIf, sPass, sExpr, sFor, sPar, sPar3, sParO, sParO3, eFnX, lendM, lends, lendD, lendR, atomD, keepO, slotOf, sOwn2, eFrz, tvT, truD, sortedD, insertD, eOp2, eOp1, eName, eD, ixD, setS_nw, setS_own, nwAt, noOwn_nw, peek_pl, gSb, gNm, gTp, gTq, gCs, gNl, getP, putP, addD, subD, mulD, modD, fdivD, powD, ltD, leD, gtD, geD, isD, isnotD, D.isN, negD, tvB, tvNot, tvAnd, tvOr, evT, evAnd, evOr, evNot, evIf, evChain, eCall, aCons, aNil, peeks, dats, lenD, intD, listD, tupleD, eTup, eLst, eSl, oNone, oSome, slD, revD, eLr1, eLr2, iSeq, iR1_eq, iR1f, iR2_eq, iR2f, iR3_eq, iR3f, iEnu, iZp, tYesM, eMeth, appendD, extendD, popD, reverseD, dropS, eFn, toArgs, backE, aft, finF, backs, eIsi, stp, lim, sTry, outGone, sRaise0, sRaise1, eIsx, eFldX, inD, notinD, sDelS, cutF, gCutD, evChain, O.toD, O.toD.go, eIxC, eTupO, tpO, aLast, eMov, O.get, O.set, ixF_ixS, number_ok (d := .str b) (fun _ => by simp)]
  | lst b => simp [m_check_strands, sSeq, sSet, sOwn, sAli, sAsg, sRet, sRetN, sIf, sPass, sExpr, sFor, sPar, sPar3, sParO, sParO3, eFnX, lendM, lends, lendD, lendR, atomD, keepO, slotOf, sOwn2, eFrz, tvT, truD, sortedD, insertD, eOp2, eOp1, eName, eD, ixD, setS_nw, setS_own, nwAt, noOwn_nw, peek_pl, gSb, gNm, gTp, gTq, gCs, gNl, getP, putP, addD, subD, mulD, modD, fdivD, powD, ltD, leD, gtD, geD, isD, isnotD, D.isN, negD, tvB, tvNot, tvAnd, tvOr, evT, evAnd, evOr, evNot, evIf, evChain, eCall, aCons, aNil, peeks, dats, lenD, intD, listD, tupleD, eTup, eLst, eSl, oNone, oSome, slD, revD, eLr1, eLr2, iSeq, iR1_eq, iR1f, iR2_eq, iR2f, iR3_eq, iR3f, iEnu, iZp, tYesM, eMeth, appendD, extendD, popD, reverseD, dropS, eFn, toArgs, backE, aft, finF, backs, eIsi, stp, lim, sTry, outGone, sRaise0, sRaise1, eIsx, eFldX, inD, notinD, sDelS, cutF, gCutD, evChain, O.toD, O.toD.go, eIxC, eTupO, tpO, aLast, eMov, O.get, O.set, ixF_ixS, number_ok (d := .lst b) (fun _ => by simp)]
  | tup b => simp [m_check_strands, sSeq, sSet, sOwn, sAli, sAsg, sRet, sRetN, sIf, sPass, sExpr, sFor, sPar, sPar3, sParO, sParO3, eFnX, lendM, lends, lendD, lendR, atomD, keepO, slotOf, sOwn2, eFrz, tvT, truD, sortedD, insertD, eOp2, eOp1, eName, eD, ixD, setS_nw, setS_own, nwAt, noOwn_nw, peek_pl, gSb, gNm, gTp, gTq, gCs, gNl, getP, putP, addD, subD, mulD, modD, fdivD, powD, ltD, leD, gtD, geD, isD, isnotD, D.isN, negD, tvB, tvNot, tvAnd, tvOr, evT, evAnd, evOr, evNot, evIf, evChain, eCall, aCons, aNil, peeks, dats, lenD, intD, listD, tupleD, eTup, eLst, eSl, oNone, oSome, slD, revD, eLr1, eLr2, iSeq, iR1_eq, iR1f, iR2_eq, iR2f, iR3_eq, iR3f, iEnu, iZp, tYesM, eMeth, appendD, extendD, popD, reverseD, dropS, eFn, toArgs, backE, aft, finF, backs, eIsi, stp, lim, sTry, outGone, sRaise0, sRaise1, eIsx, eFldX, inD, notinD, sDelS, cutF, gCutD, evChain, O.toD, O.toD.go, eIxC, eTupO, tpO, aLast, eMov, O.get, O.set, ixF_ixS, number_ok (d := .tup b) (fun _ => by simp)]
theorem cl_step {n : Int} {xs : List D} {most : Int} {s3 s4 : S} {d : D} {k : Nat} (hs : ∀ ns, d ≠ .scr ns) (p3 : Pl s3 = true) (p4 : Pl s4 = true) :
    stp (gTp 2 (gCs (gNm 3) (gCs (gNm 4) gNl))) b_check_letters_1 (.tup [.int k, d]) [.dat (.int n), .dat (.lst xs), .dat (.int most), s3, s4] = if isL n d = true then .nx [.dat (.int n), .dat (.lst xs), .dat (.int most), .dat (.int k), .dat d]
      else .ex ⟨"BadLetter", [("place", .int k)]⟩ [.dat (.int n), .dat (.lst xs), .dat (.int most), .dat (.int k), .dat d] := by
  have hn := number_ok hs
  cases d with
  | scr ns => exact (hs ns rfl).elim
  | int i =>
    by_cases c : 1 ≤ (i.natAbs : Int)
    · by_cases c2 : (i.natAbs : Int) < n
      · have c0 : i ≠ 0 := by omega
        simp [b_check_letters_1, sSeq, sSet, sOwn, sAli, sAsg, sRet, sRetN, sIf, sPass, sExpr, sFor, sPar, sPar3, sParO, sParO3, eFnX, lendM, lends, lendD, lendR, atomD, keepO, slotOf, sOwn2, eFrz, tvT, truD, sortedD, insertD, eOp2, eOp1, eName, eD, ixD, setS_nw, setS_own, nwAt, noOwn_nw, peek_pl, gSb, gNm, gTp, gTq, gCs, gNl, getP, putP, addD, subD, mulD, modD, fdivD, powD, ltD, leD, gtD, geD, isD, isnotD, D.isN, negD, tvB, tvNot, tvAnd, tvOr, evT, evAnd, evOr, evNot, evIf, evChain, eCall, aCons, aNil, peeks, dats, lenD, intD, listD, tupleD, eTup, eLst, eSl, oNone, oSome, slD, revD, eLr1, eLr2, iSeq, iR1_eq, iR1f, iR2_eq, iR2f, iR3_eq, iR3f, iEnu, iZp, tYesM, eMeth, appendD, extendD, popD, reverseD, dropS, eFn, toArgs, backE, aft, finF, backs, eIsi, stp, lim, sTry, outGone, sRaise0, sRaise1, eIsx, eFldX, inD, notinD, sDelS, cutF, gCutD, evChain, O.toD, O.toD.go, eIxC, eTupO, tpO, aLast, eMov, O.get, O.set, ixF_ixS, hn, isL, p3, p4, c, c2, c0]
      · simp [b_check_letters_1, sSeq, sSet, sOwn, sAli, sAsg, sRet, sRetN, sIf, sPass, sExpr, sFor, sPar, sPar3, sParO, sParO3, eFnX, lendM, lends, lendD, lendR, atomD, keepO, slotOf, sOwn2, eFrz, tvT, truD, sortedD, insertD, eOp2, eOp1, eName, eD, ixD, setS_nw, setS_own, nwAt, noOwn_nw, peek_pl, gSb, gNm, gTp, gTq, gCs, gNl, getP, putP, addD, subD, mulD, modD, fdivD, powD, ltD, leD, gtD, geD, isD, isnotD, D.isN, negD, tvB, tvNot, tvAnd, tvOr, evT, evAnd, evOr, evNot, evIf, evChain, eCall, aCons, aNil, peeks, dats, lenD, intD, listD, tupleD, eTup, eLst, eSl, oNone, oSome, slD, revD, eLr1, eLr2, iSeq, iR1_eq, iR1f, iR2_eq, iR2f, iR3_eq, iR3f, iEnu, iZp, tYesM, eMeth, appendD, extendD, popD, reverseD, dropS, eFn, toArgs, backE, aft, finF, backs, eIsi, stp, lim, sTry, outGone, sRaise0, sRaise1, eIsx, eFldX, inD, notinD, sDelS, cutF, gCutD, evChain, O.toD, O.toD.go, eIxC, eTupO, tpO, aLast, eMov, O.get, O.set, ixF_ixS, hn, isL, p3, p4, c, c2]
    · have c0 : i = 0 := by omega
      subst c0
      simp [b_check_letters_1, sSeq, sSet, sOwn, sAli, sAsg, sRet, sRetN, sIf, sPass, sExpr, sFor, sPar, sPar3, sParO, sParO3, eFnX, lendM, lends, lendD, lendR, atomD, keepO, slotOf, sOwn2, eFrz, tvT, truD, sortedD, insertD, eOp2, eOp1, eName, eD, ixD, setS_nw, setS_own, nwAt, noOwn_nw, peek_pl, gSb, gNm, gTp, gTq, gCs, gNl, getP, putP, addD, subD, mulD, modD, fdivD, powD, ltD, leD, gtD, geD, isD, isnotD, D.isN, negD, tvB, tvNot, tvAnd, tvOr, evT, evAnd, evOr, evNot, evIf, evChain, eCall, aCons, aNil, peeks, dats, lenD, intD, listD, tupleD, eTup, eLst, eSl, oNone, oSome, slD, revD, eLr1, eLr2, iSeq, iR1_eq, iR1f, iR2_eq, iR2f, iR3_eq, iR3f, iEnu, iZp, tYesM, eMeth, appendD, extendD, popD, reverseD, dropS, eFn, toArgs, backE, aft, finF, backs, eIsi, stp, lim, sTry, outGone, sRaise0, sRaise1, eIsx, eFldX, inD, notinD, sDelS, cutF, gCutD, evChain, O.toD, O.toD.go, eIxC, eTupO, tpO, aLast, eMov, O.get, O.set, ixF_ixS, hn, isL, p3, p4]
  | _ => simp [b_check_letters_1, sSeq, sSet, sOwn, sAli, sAsg, sRet, sRetN, sIf, sPass, sExpr, sFor, sPar, sPar3, sParO, sParO3, eFnX, lendM, lends, lendD, lendR, atomD, keepO, slotOf, sOwn2, eFrz, tvT, truD, sortedD, insertD, eOp2, eOp1, eName, eD, ixD, setS_nw, setS_own, nwAt, noOwn_nw, peek_pl, gSb, gNm, gTp, gTq, gCs, gNl, getP, putP, addD, subD, mulD, modD, fdivD, powD, ltD, leD, gtD, geD, isD, isnotD, D.isN, negD, tvB, tvNot, tvAnd, tvOr, evT, evAnd, evOr, evNot, evIf, evChain, eCall, aCons, aNil, peeks, dats, lenD, intD, listD, tupleD, eTup, eLst, eSl, oNone, oSome, slD, revD, eLr1, eLr2, iSeq, iR1_eq, iR1f, iR2_eq, iR2f, iR3_eq, iR3f, iEnu, iZp, tYesM, eMeth, appendD, extendD, popD, reverseD, dropS, eFn, toArgs, backE, aft, finF, backs, eIsi, stp, lim, sTry, outGone, sRaise0, sRaise1, eIsx, eFldX, inD, notinD, sDelS, cutF, gCutD, evChain, O.toD, O.toD.go, eIxC, eTupO, tpO, aLast, eMov, O.get, O.set, ixF_ixS, hn, isL, p3, p4]
theorem cl_loop {n : Int} {xs : List D} {most : Int} : ∀ {ys : List D} {k : Nat} {s3 s4 : S}, (∀ d ∈ ys, ∀ ns, d ≠ .scr ns) → Pl s3 = true → Pl s4 = true →
    ∃ s3' s4', forL (gTp 2 (gCs (gNm 3) (gCs (gNm 4) gNl))) b_check_letters_1 (enumL k ys) [.dat (.int n), .dat (.lst xs), .dat (.int most), s3, s4] = (match badAt n ys k with
      | none => .nx [.dat (.int n), .dat (.lst xs), .dat (.int most), s3', s4']
      | some p => .ex ⟨"BadLetter", [("place", .int p)]⟩ [.dat (.int n), .dat (.lst xs), .dat (.int most), s3', s4'])
  | [], k, s3, s4, _, _, _ => ⟨s3, s4, rfl⟩
  | d :: ys, k, s3, s4, hx, p3, p4 => by
    have st := cl_step (n := n) (xs := xs) (most := most) (k := k) (hx d List.mem_cons_self) p3 p4
    show ∃ s3' s4', forL _ _ (D.tup [.int k, d] :: enumL (k + 1) ys) _ = _
    rw [forL_stp, st]
    unfold badAt
    by_cases c : isL n d = true
    · rw [if_pos c, if_pos c]
      obtain ⟨a, b, e⟩ := cl_loop (n := n) (xs := xs) (most := most) (ys := ys) (k := k + 1) (s3 := .dat (.int k)) (s4 := .dat d) (fun d m => hx d (List.mem_cons_of_mem _ m)) rfl rfl
      exact ⟨a, b, by simpa using e⟩
    · rw [if_neg c, if_neg c]
      exact ⟨_, _, rfl⟩
def erR (o : Option Er) : FRes := match o with
  | some e => .ex e.exn []
  | none => .ok (.dat .non) []
theorem letters_ok {n w : D} {most : Int} (hn : Ns n) (hw : Ns w) : f_check_letters [.dat n, .dat w, .dat (.int most)] = erR (ferr n w most) := by
  have hst := strands_ok hn
  unfold f_check_letters
  rw [runF_eq (by rfl) (by rfl)]
  unfold ferr
  cases n with
  | scr _ => exact hn.elim
  | int n =>
    by_cases c : n < 1 ∨ 8 < n
    · simp only at hst ⊢
      rw [if_pos c] at hst ⊢
      simp [m_check_letters, sSeq, sSet, sOwn, sAli, sAsg, sRet, sRetN, sIf, sPass, sExpr, sFor, sPar, sPar3, sParO, sParO3, eFnX, lendM, lends, lendD, lendR, atomD, keepO, slotOf, sOwn2, eFrz, tvT, truD, sortedD, insertD, eOp2, eOp1, eName, eD, ixD, setS_nw, setS_own, nwAt, noOwn_nw, peek_pl, gSb, gNm, gTp, gTq, gCs, gNl, getP, putP, addD, subD, mulD, modD, fdivD, powD, ltD, leD, gtD, geD, isD, isnotD, D.isN, negD, tvB, tvNot, tvAnd, tvOr, evT, evAnd, evOr, evNot, evIf, evChain, eCall, aCons, aNil, peeks, dats, lenD, intD, listD, tupleD, eTup, eLst, eSl, oNone, oSome, slD, revD, eLr1, eLr2, iSeq, iR1_eq, iR1f, iR2_eq, iR2f, iR3_eq, iR3f, iEnu, iZp, tYesM, eMeth, appendD, extendD, popD, reverseD, dropS, eFn, toArgs, backE, aft, finF, backs, eIsi, stp, lim, sTry, outGone, sRaise0, sRaise1, eIsx, eFldX, inD, notinD, sDelS, cutF, gCutD, evChain, O.toD, O.toD.go, eIxC, eTupO, tpO, aLast, eMov, O.get, O.set, ixF_ixS, hst, erR, Er.exn]
    · simp only at hst ⊢
      rw [if_neg c] at hst ⊢
      cases w with
      | scr _ => exact hw.elim
      | lst xs =>
        by_cases c3 : most < xs.length
        · simp only
          rw [if_pos c3]
          simp [m_check_letters, sSeq, sSet, sOwn, sAli, sAsg, sRet, sRetN, sIf, sPass, sExpr, sFor, sPar, sPar3, sParO, sParO3, eFnX, lendM, lends, lendD, lendR, atomD, keepO, slotOf, sOwn2, eFrz, tvT, truD, sortedD, insertD, eOp2, eOp1, eName, eD, ixD, setS_nw, setS_own, nwAt, noOwn_nw, peek_pl, gSb, gNm, gTp, gTq, gCs, gNl, getP, putP, addD, subD, mulD, modD, fdivD, powD, ltD, leD, gtD, geD, isD, isnotD, D.isN, negD, tvB, tvNot, tvAnd, tvOr, evT, evAnd, evOr, evNot, evIf, evChain, eCall, aCons, aNil, peeks, dats, lenD, intD, listD, tupleD, eTup, eLst, eSl, oNone, oSome, slD, revD, eLr1, eLr2, iSeq, iR1_eq, iR1f, iR2_eq, iR2f, iR3_eq, iR3f, iEnu, iZp, tYesM, eMeth, appendD, extendD, popD, reverseD, dropS, eFn, toArgs, backE, aft, finF, backs, eIsi, stp, lim, sTry, outGone, sRaise0, sRaise1, eIsx, eFldX, inD, notinD, sDelS, cutF, gCutD, evChain, O.toD, O.toD.go, eIxC, eTupO, tpO, aLast, eMov, O.get, O.set, ixF_ixS, hst, c3, erR, Er.exn]
        · simp only
          rw [if_neg c3]
          obtain ⟨a, b, e⟩ := cl_loop (n := n) (xs := xs) (most := most) (ys := xs) (k := 0) (s3 := .un) (s4 := .un) hw.2 rfl rfl
          cases hb : badAt n xs 0 with
          | none =>
            rw [show ((0 : Nat) : Int) = 0 from rfl, hb] at e
            simp [m_check_letters, sSeq, sSet, sOwn, sAli, sAsg, sRet, sRetN, sIf, sPass, sExpr, sFor, sPar, sPar3, sParO, sParO3, eFnX, lendM, lends, lendD, lendR, atomD, keepO, slotOf, sOwn2, eFrz, tvT, truD, sortedD, insertD, eOp2, eOp1, eName, eD, ixD, setS_nw, setS_own, nwAt, noOwn_nw, peek_pl, gSb, gNm, gTp, gTq, gCs, gNl, getP, putP, addD, subD, mulD, modD, fdivD, powD, ltD, leD, gtD, geD, isD, isnotD, D.isN, negD, tvB, tvNot, tvAnd, tvOr, evT, evAnd, evOr, evNot, evIf, evChain, eCall, aCons, aNil, peeks, dats, lenD, intD, listD, tupleD, eTup, eLst, eSl, oNone, oSome, slD, revD, eLr1, eLr2, iSeq, iR1_eq, iR1f, iR2_eq, iR2f, iR3_eq, iR3f, iEnu, iZp, tYesM, eMeth, appendD, extendD, popD, reverseD, dropS, eFn, toArgs, backE, aft, finF, backs, eIsi, stp, lim, sTry, outGone, sRaise0, sRaise1, eIsx, eFldX, inD, notinD, sDelS, cutF, gCutD, evChain, O.toD, O.toD.go, eIxC, eTupO, tpO, aLast, eMov, O.get, O.set, ixF_ixS, hst, c3, e, erR]
          | some p =>
            rw [show ((0 : Nat) : Int) = 0 from rfl, hb] at e
            simp [m_check_letters, sSeq, sSet, sOwn, sAli, sAsg, sRet, sRetN, sIf, sPass, sExpr, sFor, sPar, sPar3, sParO, sParO3, eFnX, lendM, lends, lendD, lendR, atomD, keepO, slotOf, sOwn2, eFrz, tvT, truD, sortedD, insertD, eOp2, eOp1, eName, eD, ixD, setS_nw, setS_own, nwAt, noOwn_nw, peek_pl, gSb, gNm, gTp, gTq, gCs, gNl, getP, putP, addD, subD, mulD, modD, fdivD, powD, ltD, leD, gtD, geD, isD, isnotD, D.isN, negD, tvB, tvNot, tvAnd, tvOr, evT, evAnd, evOr, evNot, evIf, evChain, eCall, aCons, aNil, peeks, dats, lenD, intD, listD, tupleD, eTup, eLst, eSl, oNone, oSome, slD, revD, eLr1, eLr2, iSeq, iR1_eq, iR1f, iR2_eq, iR2f, iR3_eq, iR3f, iEnu, iZp, tYesM, eMeth, appendD, extendD, popD, reverseD, dropS, eFn, toArgs, backE, aft, finF, backs, eIsi, stp, lim, sTry, outGone, sRaise0, sRaise1, eIsx, eFldX, inD, notinD, sDelS, cutF, gCutD, evChain, O.toD, O.toD.go, eIxC, eTupO, tpO, aLast, eMov, O.get, O.set, ixF_ixS, hst, c3, e, erR, Er.exn]
      | _ => simp [m_check_letters, sSeq, sSet, sOwn, sAli, sAsg, sRet, sRetN, sIf, sPass, sExpr, sFor, sPar, sPar3, sParO, sParO3, eFnX, lendM, lends, lendD, lendR, atomD, keepO, slotOf, sOwn2, eFrz, tvT, truD, sortedD, insertD, eOp2, eOp1, eName, eD, ixD, setS_nw, setS_own, nwAt, noOwn_nw, peek_pl, gSb, gNm, gTp, gTq, gCs, gNl, getP, putP, addD, subD, mulD, modD, fdivD, powD, ltD, leD, gtD, geD, isD, isnotD, D.isN, negD, tvB, tvNot, tvAnd, tvOr, evT, evAnd, evOr, evNot, evIf, evChain, eCall, aCons, aNil, peeks, dats, lenD, intD, listD, tupleD, eTup, eLst, eSl, oNone, oSome, slD, revD, eLr1, eLr2, iSeq, iR1_eq, iR1f, iR2_eq, iR2f, iR3_eq, iR3f, iEnu, iZp, tYesM, eMeth, appendD, extendD, popD, reverseD, dropS, eFn, toArgs, backE, aft, finF, backs, eIsi, stp, lim, sTry, outGone, sRaise0, sRaise1, eIsx, eFldX, inD, notinD, sDelS, cutF, gCutD, evChain, O.toD, O.toD.go, eIxC, eTupO, tpO, aLast, eMov, O.get, O.set, ixF_ixS, hst, erR, Er.exn]
  | _ => simp [m_check_letters, sSeq, sSet, sOwn, sAli, sAsg, sRet, sRetN, sIf, sPass, sExpr, sFor, sPar, sPar3, sParO, sParO3, eFnX, lendM, lends, lendD, lendR, atomD, keepO, slotOf, sOwn2, eFrz, tvT, truD, sortedD, insertD, eOp2, eOp1, eName, eD, ixD, setS_nw, setS_own, nwAt, noOwn_nw, peek_pl, gSb, gNm, gTp, gTq, gCs, gNl, getP, putP, addD, subD, mulD, modD, fdivD, powD, ltD, leD, gtD, geD, isD, isnotD, D.isN, negD, tvB, tvNot, tvAnd, tvOr, evT, evAnd, evOr, evNot, evIf, evChain, eCall, aCons, aNil, peeks, dats, lenD, intD, listD, tupleD, eTup, eLst, eSl, oNone, oSome, slD, revD, eLr1, eLr2, iSeq, iR1_eq, iR1f, iR2_eq, iR2f, iR3_eq, iR3f, iEnu, iZp, tYesM, eMeth, appendD, extendD, popD, reverseD, dropS, eFn, toArgs, backE, aft, finF, backs, eIsi, stp, lim, sTry, outGone, sRaise0, sRaise1, eIsx, eFldX, inD, notinD, sDelS, cutF, gCutD, evChain, O.toD, O.toD.go, eIxC, eTupO, tpO, aLast, eMov, O.get, O.set, ixF_ixS, hst, erR, Er.exn]
theorem cls_loop {X : S} {H : D} (hX : noOwn (some X) = true ∨ ∃ t, X = .own t) : ∀ {ps : List (Str × Bool)} {acc : List D}, acc.length + ps.length ≤ lim →
    compL [2, 3] (gTp 2 (gCs (gNm 2) (gCs (gNm 3) gNl))) t__law_classes_1 c__law_classes_2 (ps.map fun p => .tup [.str p.1, .bl p.2]) [X, .dat H, .un, .un] acc = .ok (.new (.lst (acc ++ (ps.filter (·.2)).map fun p => .str p.1))) [X, .dat H, .un, .un]
  | [], acc, _ => by simp [compL]
  | (a, b) :: ps, acc, hl => by
    simp only [List.length_cons] at hl
    have hl' : acc.length < lim := by omega
    have i1 := cls_loop (H := H) hX (ps := ps) (acc := acc ++ [.str a]) (by simp; omega)
    have i2 := cls_loop (H := H) hX (ps := ps) (acc := acc) (by omega)
    rw [List.map_cons]
    unfold compL
    simp only [lim] at hl'
    simp only [t__law_classes_1, c__law_classes_2] at i1 i2
    cases b
    · simp [freeV, wipeV, restV, keepS, t__law_classes_1, c__law_classes_2, sSeq, sSet, sOwn, sAli, sAsg, sRet, sRetN, sIf, sPass, sExpr, sFor, sPar, sPar3, sParO, sParO3, eFnX, lendM, lends, lendD, lendR, atomD, keepO, slotOf, sOwn2, eFrz, tvT, truD, sortedD, insertD, eOp2, eOp1, eName, eD, ixD, setS_nw, setS_own, nwAt, noOwn_nw, peek_pl, gSb, gNm, gTp, gTq, gCs, gNl, getP, putP, addD, subD, mulD, modD, fdivD, powD, ltD, leD, gtD, geD, isD, isnotD, D.isN, negD, tvB, tvNot, tvAnd, tvOr, evT, evAnd, evOr, evNot, evIf, evChain, eCall, aCons, aNil, peeks, dats, lenD, intD, listD, tupleD, eTup, eLst, eSl, oNone, oSome, slD, revD, eLr1, eLr2, iSeq, iR1_eq, iR1f, iR2_eq, iR2f, iR3_eq, iR3f, iEnu, iZp, tYesM, eMeth, appendD, extendD, popD, reverseD, dropS, eFn, toArgs, backE, aft, finF, backs, eIsi, stp, lim, sTry, outGone, sRaise0, sRaise1, eIsx, eFldX, inD, notinD, sDelS, cutF, gCutD, evChain, O.toD, O.toD.go, eIxC, eTupO, tpO, aLast, eMov, O.get, O.set, ixF_ixS, i2]
    · simp [freeV, wipeV, restV, keepS, t__law_classes_1, c__law_classes_2, sSeq, sSet, sOwn, sAli, sAsg, sRet, sRetN, sIf, sPass, sExpr, sFor, sPar, sPar3, sParO, sParO3, eFnX, lendM, lends, lendD, lendR, atomD, keepO, slotOf, sOwn2, eFrz, tvT, truD, sortedD, insertD, eOp2, eOp1, eName, eD, ixD, setS_nw, setS_own, nwAt, noOwn_nw, peek_pl, gSb, gNm, gTp, gTq, gCs, gNl, getP, putP, addD, subD, mulD, modD, fdivD, powD, ltD, leD, gtD, geD, isD, isnotD, D.isN, negD, tvB, tvNot, tvAnd, tvOr, evT, evAnd, evOr, evNot, evIf, evChain, eCall, aCons, aNil, peeks, dats, lenD, intD, listD, tupleD, eTup, eLst, eSl, oNone, oSome, slD, revD, eLr1, eLr2, iSeq, iR1_eq, iR1f, iR2_eq, iR2f, iR3_eq, iR3f, iEnu, iZp, tYesM, eMeth, appendD, extendD, popD, reverseD, dropS, eFn, toArgs, backE, aft, finF, backs, eIsi, stp, lim, sTry, outGone, sRaise0, sRaise1, eIsx, eFldX, inD, notinD, sDelS, cutF, gCutD, evChain, O.toD, O.toD.go, eIxC, eTupO, tpO, aLast, eMov, O.get, O.set, ixF_ixS, i1, hl']
theorem classes_ok (e : Er) : f__law_classes [.own (.exn e.exn.c e.exn.fs)] = .ok (.new (.lst [.str e.nm])) [.exn e.exn.c e.exn.fs] := by
  unfold f__law_classes
  rw [runF_eq (by rfl) (by rfl)]
  cases e with
  | strands => 
    have c := fun H => cls_loop (X := .own (.exn "BadStrands" [])) (H := H) (.inr ⟨_, rfl⟩) (ps := [(("strands" : Str), true), (("word" : Str), false), (("long" : Str), false), (("letter" : Str), false), (("places" : Str), false), (("move" : Str), false), (("turning" : Str), false), (("form" : Str), false), (("many" : Str), false), (("handle" : Str), false), (("list" : Str), false), (("numbers" : Str), false), (("number" : Str), false), (("range" : Str), false), (("deed" : Str), false), (("paper" : Str), false), (("use" : Str), false), (("positive" : Str), false), (("curve" : Str), false), (("undo" : Str), false), (("redo" : Str), false), (("name" : Str), false), (("entry" : Str), false), (("text" : Str), false)]) (acc := []) (by decide)
    simp at c
    simp [m__law_classes, sSeq, sSet, sOwn, sAli, sAsg, sRet, sRetN, sIf, sPass, sExpr, sFor, sPar, sPar3, sParO, sParO3, eFnX, lendM, lends, lendD, lendR, atomD, keepO, slotOf, sOwn2, eFrz, tvT, truD, sortedD, insertD, eOp2, eOp1, eName, eD, ixD, setS_nw, setS_own, nwAt, noOwn_nw, peek_pl, gSb, gNm, gTp, gTq, gCs, gNl, getP, putP, addD, subD, mulD, modD, fdivD, powD, ltD, leD, gtD, geD, isD, isnotD, D.isN, negD, tvB, tvNot, tvAnd, tvOr, evT, evAnd, evOr, evNot, evIf, evChain, eCall, aCons, aNil, peeks, dats, lenD, intD, listD, tupleD, eTup, eLst, eSl, oNone, oSome, slD, revD, eLr1, eLr2, iSeq, iR1_eq, iR1f, iR2_eq, iR2f, iR3_eq, iR3f, iEnu, iZp, tYesM, eMeth, appendD, extendD, popD, reverseD, dropS, eFn, toArgs, backE, aft, finF, backs, eIsi, stp, lim, sTry, outGone, sRaise0, sRaise1, eIsx, eFldX, inD, notinD, sDelS, cutF, gCutD, evChain, O.toD, O.toD.go, eIxC, eTupO, tpO, aLast, eMov, O.get, O.set, ixF_ixS, Er.exn, Er.nm, eComp, c]
  | word => 
    have c := fun H => cls_loop (X := .own (.exn "BadWord" [])) (H := H) (.inr ⟨_, rfl⟩) (ps := [(("strands" : Str), false), (("word" : Str), true), (("long" : Str), false), (("letter" : Str), false), (("places" : Str), false), (("move" : Str), false), (("turning" : Str), false), (("form" : Str), false), (("many" : Str), false), (("handle" : Str), false), (("list" : Str), false), (("numbers" : Str), false), (("number" : Str), false), (("range" : Str), false), (("deed" : Str), false), (("paper" : Str), false), (("use" : Str), false), (("positive" : Str), false), (("curve" : Str), false), (("undo" : Str), false), (("redo" : Str), false), (("name" : Str), false), (("entry" : Str), false), (("text" : Str), false)]) (acc := []) (by decide)
    simp at c
    simp [m__law_classes, sSeq, sSet, sOwn, sAli, sAsg, sRet, sRetN, sIf, sPass, sExpr, sFor, sPar, sPar3, sParO, sParO3, eFnX, lendM, lends, lendD, lendR, atomD, keepO, slotOf, sOwn2, eFrz, tvT, truD, sortedD, insertD, eOp2, eOp1, eName, eD, ixD, setS_nw, setS_own, nwAt, noOwn_nw, peek_pl, gSb, gNm, gTp, gTq, gCs, gNl, getP, putP, addD, subD, mulD, modD, fdivD, powD, ltD, leD, gtD, geD, isD, isnotD, D.isN, negD, tvB, tvNot, tvAnd, tvOr, evT, evAnd, evOr, evNot, evIf, evChain, eCall, aCons, aNil, peeks, dats, lenD, intD, listD, tupleD, eTup, eLst, eSl, oNone, oSome, slD, revD, eLr1, eLr2, iSeq, iR1_eq, iR1f, iR2_eq, iR2f, iR3_eq, iR3f, iEnu, iZp, tYesM, eMeth, appendD, extendD, popD, reverseD, dropS, eFn, toArgs, backE, aft, finF, backs, eIsi, stp, lim, sTry, outGone, sRaise0, sRaise1, eIsx, eFldX, inD, notinD, sDelS, cutF, gCutD, evChain, O.toD, O.toD.go, eIxC, eTupO, tpO, aLast, eMov, O.get, O.set, ixF_ixS, Er.exn, Er.nm, eComp, c]
  | long k => 
    have c := fun H => cls_loop (X := .own (.exn "TooLong" [("number", .int k)])) (H := H) (.inr ⟨_, rfl⟩) (ps := [(("strands" : Str), false), (("word" : Str), false), (("long" : Str), true), (("letter" : Str), false), (("places" : Str), false), (("move" : Str), false), (("turning" : Str), false), (("form" : Str), false), (("many" : Str), false), (("handle" : Str), false), (("list" : Str), false), (("numbers" : Str), false), (("number" : Str), false), (("range" : Str), false), (("deed" : Str), false), (("paper" : Str), false), (("use" : Str), false), (("positive" : Str), false), (("curve" : Str), false), (("undo" : Str), false), (("redo" : Str), false), (("name" : Str), false), (("entry" : Str), false), (("text" : Str), false)]) (acc := []) (by decide)
    simp at c
    simp [m__law_classes, sSeq, sSet, sOwn, sAli, sAsg, sRet, sRetN, sIf, sPass, sExpr, sFor, sPar, sPar3, sParO, sParO3, eFnX, lendM, lends, lendD, lendR, atomD, keepO, slotOf, sOwn2, eFrz, tvT, truD, sortedD, insertD, eOp2, eOp1, eName, eD, ixD, setS_nw, setS_own, nwAt, noOwn_nw, peek_pl, gSb, gNm, gTp, gTq, gCs, gNl, getP, putP, addD, subD, mulD, modD, fdivD, powD, ltD, leD, gtD, geD, isD, isnotD, D.isN, negD, tvB, tvNot, tvAnd, tvOr, evT, evAnd, evOr, evNot, evIf, evChain, eCall, aCons, aNil, peeks, dats, lenD, intD, listD, tupleD, eTup, eLst, eSl, oNone, oSome, slD, revD, eLr1, eLr2, iSeq, iR1_eq, iR1f, iR2_eq, iR2f, iR3_eq, iR3f, iEnu, iZp, tYesM, eMeth, appendD, extendD, popD, reverseD, dropS, eFn, toArgs, backE, aft, finF, backs, eIsi, stp, lim, sTry, outGone, sRaise0, sRaise1, eIsx, eFldX, inD, notinD, sDelS, cutF, gCutD, evChain, O.toD, O.toD.go, eIxC, eTupO, tpO, aLast, eMov, O.get, O.set, ixF_ixS, Er.exn, Er.nm, eComp, c]
  | letter k => 
    have c := fun H => cls_loop (X := .own (.exn "BadLetter" [("place", .int k)])) (H := H) (.inr ⟨_, rfl⟩) (ps := [(("strands" : Str), false), (("word" : Str), false), (("long" : Str), false), (("letter" : Str), true), (("places" : Str), false), (("move" : Str), false), (("turning" : Str), false), (("form" : Str), false), (("many" : Str), false), (("handle" : Str), false), (("list" : Str), false), (("numbers" : Str), false), (("number" : Str), false), (("range" : Str), false), (("deed" : Str), false), (("paper" : Str), false), (("use" : Str), false), (("positive" : Str), false), (("curve" : Str), false), (("undo" : Str), false), (("redo" : Str), false), (("name" : Str), false), (("entry" : Str), false), (("text" : Str), false)]) (acc := []) (by decide)
    simp at c
    simp [m__law_classes, sSeq, sSet, sOwn, sAli, sAsg, sRet, sRetN, sIf, sPass, sExpr, sFor, sPar, sPar3, sParO, sParO3, eFnX, lendM, lends, lendD, lendR, atomD, keepO, slotOf, sOwn2, eFrz, tvT, truD, sortedD, insertD, eOp2, eOp1, eName, eD, ixD, setS_nw, setS_own, nwAt, noOwn_nw, peek_pl, gSb, gNm, gTp, gTq, gCs, gNl, getP, putP, addD, subD, mulD, modD, fdivD, powD, ltD, leD, gtD, geD, isD, isnotD, D.isN, negD, tvB, tvNot, tvAnd, tvOr, evT, evAnd, evOr, evNot, evIf, evChain, eCall, aCons, aNil, peeks, dats, lenD, intD, listD, tupleD, eTup, eLst, eSl, oNone, oSome, slD, revD, eLr1, eLr2, iSeq, iR1_eq, iR1f, iR2_eq, iR2f, iR3_eq, iR3f, iEnu, iZp, tYesM, eMeth, appendD, extendD, popD, reverseD, dropS, eFn, toArgs, backE, aft, finF, backs, eIsi, stp, lim, sTry, outGone, sRaise0, sRaise1, eIsx, eFldX, inD, notinD, sDelS, cutF, gCutD, evChain, O.toD, O.toD.go, eIxC, eTupO, tpO, aLast, eMov, O.get, O.set, ixF_ixS, Er.exn, Er.nm, eComp, c]

@[simp] theorem ne_take_far : ((("take" : Str) = ("far" : Str)) = False) := by decide +kernel
@[simp] theorem ne_take_near : ((("take" : Str) = ("near" : Str)) = False) := by decide +kernel
@[simp] theorem ne_take_put : ((("take" : Str) = ("put" : Str)) = False) := by decide +kernel
@[simp] theorem ne_take_turn : ((("take" : Str) = ("turn" : Str)) = False) := by decide +kernel
@[simp] theorem ne_take_grow : ((("take" : Str) = ("grow" : Str)) = False) := by decide +kernel
@[simp] theorem ne_take_shrink : ((("take" : Str) = ("shrink" : Str)) = False) := by decide +kernel
@[simp] theorem ne_far_take : ((("far" : Str) = ("take" : Str)) = False) := by decide +kernel
@[simp] theorem ne_far_near : ((("far" : Str) = ("near" : Str)) = False) := by decide +kernel
@[simp] theorem ne_far_put : ((("far" : Str) = ("put" : Str)) = False) := by decide +kernel
@[simp] theorem ne_far_turn : ((("far" : Str) = ("turn" : Str)) = False) := by decide +kernel
@[simp] theorem ne_far_grow : ((("far" : Str) = ("grow" : Str)) = False) := by decide +kernel
@[simp] theorem ne_far_shrink : ((("far" : Str) = ("shrink" : Str)) = False) := by decide +kernel
@[simp] theorem ne_near_take : ((("near" : Str) = ("take" : Str)) = False) := by decide +kernel
@[simp] theorem ne_near_far : ((("near" : Str) = ("far" : Str)) = False) := by decide +kernel
@[simp] theorem ne_near_put : ((("near" : Str) = ("put" : Str)) = False) := by decide +kernel
@[simp] theorem ne_near_turn : ((("near" : Str) = ("turn" : Str)) = False) := by decide +kernel
@[simp] theorem ne_near_grow : ((("near" : Str) = ("grow" : Str)) = False) := by decide +kernel
@[simp] theorem ne_near_shrink : ((("near" : Str) = ("shrink" : Str)) = False) := by decide +kernel
@[simp] theorem ne_put_take : ((("put" : Str) = ("take" : Str)) = False) := by decide +kernel
@[simp] theorem ne_put_far : ((("put" : Str) = ("far" : Str)) = False) := by decide +kernel
@[simp] theorem ne_put_near : ((("put" : Str) = ("near" : Str)) = False) := by decide +kernel
@[simp] theorem ne_put_turn : ((("put" : Str) = ("turn" : Str)) = False) := by decide +kernel
@[simp] theorem ne_put_grow : ((("put" : Str) = ("grow" : Str)) = False) := by decide +kernel
@[simp] theorem ne_put_shrink : ((("put" : Str) = ("shrink" : Str)) = False) := by decide +kernel
@[simp] theorem ne_turn_take : ((("turn" : Str) = ("take" : Str)) = False) := by decide +kernel
@[simp] theorem ne_turn_far : ((("turn" : Str) = ("far" : Str)) = False) := by decide +kernel
@[simp] theorem ne_turn_near : ((("turn" : Str) = ("near" : Str)) = False) := by decide +kernel
@[simp] theorem ne_turn_put : ((("turn" : Str) = ("put" : Str)) = False) := by decide +kernel
@[simp] theorem ne_turn_grow : ((("turn" : Str) = ("grow" : Str)) = False) := by decide +kernel
@[simp] theorem ne_turn_shrink : ((("turn" : Str) = ("shrink" : Str)) = False) := by decide +kernel
@[simp] theorem ne_grow_take : ((("grow" : Str) = ("take" : Str)) = False) := by decide +kernel
@[simp] theorem ne_grow_far : ((("grow" : Str) = ("far" : Str)) = False) := by decide +kernel
@[simp] theorem ne_grow_near : ((("grow" : Str) = ("near" : Str)) = False) := by decide +kernel
@[simp] theorem ne_grow_put : ((("grow" : Str) = ("put" : Str)) = False) := by decide +kernel
@[simp] theorem ne_grow_turn : ((("grow" : Str) = ("turn" : Str)) = False) := by decide +kernel
@[simp] theorem ne_grow_shrink : ((("grow" : Str) = ("shrink" : Str)) = False) := by decide +kernel
@[simp] theorem ne_shrink_take : ((("shrink" : Str) = ("take" : Str)) = False) := by decide +kernel
@[simp] theorem ne_shrink_far : ((("shrink" : Str) = ("far" : Str)) = False) := by decide +kernel
@[simp] theorem ne_shrink_near : ((("shrink" : Str) = ("near" : Str)) = False) := by decide +kernel
@[simp] theorem ne_shrink_put : ((("shrink" : Str) = ("put" : Str)) = False) := by decide +kernel
@[simp] theorem ne_shrink_turn : ((("shrink" : Str) = ("turn" : Str)) = False) := by decide +kernel
@[simp] theorem ne_shrink_grow : ((("shrink" : Str) = ("grow" : Str)) = False) := by decide +kernel

@[simp] theorem mi_take (w : List Int) (k : Nat) : (mi w).take k = mi (w.take k) := by simp [mi, List.map_take]
@[simp] theorem mi_drop (w : List Int) (k : Nat) : (mi w).drop k = mi (w.drop k) := by simp [mi, List.map_drop]
theorem cut_lo (w : List Int) {k : Int} (h : 0 ≤ k) : cut w none (some k) = w.take k.toNat := by
  unfold cut HT.sIx
  simp only
  rw [if_neg (by omega)]
  simp only [List.drop_zero, Nat.sub_zero]
  by_cases c : k.toNat ≤ w.length
  · rw [Nat.min_eq_left c]
  · rw [Nat.min_eq_right (by omega), List.take_of_length_le (Nat.le_refl _), List.take_of_length_le (by omega)]
theorem cut_hi (w : List Int) {k : Int} (h : 0 ≤ k) : cut w (some k) none = w.drop k.toNat := by
  unfold cut HT.sIx
  simp only
  rw [if_neg (by omega)]
  by_cases c : k.toNat ≤ w.length
  · rw [Nat.min_eq_left c]
    exact List.take_of_length_le (by simp)
  · rw [Nat.min_eq_right (by omega), List.drop_of_length_le (Nat.le_refl _), List.drop_of_length_le (by omega)]
    simp
theorem at0 (u r : List Int) (x : Int) : L2.atI (u ++ x :: r) (u.length : Int) = some x := by
  rw [atI_pos (by omega)]
  simp
theorem at1 (u r : List Int) (x y : Int) : L2.atI (u ++ x :: y :: r) ((u.length : Int) + 1) = some y := by
  rw [atI_pos (by omega), show ((u.length : Int) + 1).toNat = u.length + 1 by omega, List.getElem?_append_right (by omega)]
  simp
theorem at2 (u r : List Int) (x y z : Int) : L2.atI (u ++ x :: y :: z :: r) ((u.length : Int) + 2) = some z := by
  rw [atI_pos (by omega), show ((u.length : Int) + 2).toNat = u.length + 2 by omega, List.getElem?_append_right (by omega)]
  simp
theorem ix0 {k n : Nat} (h : k < n) : L2.ixN n (k : Int) = some k := by rw [ixN_pos (by omega) (by omega)]; simp
theorem ix1 {k n : Nat} (h : k + 1 < n) : L2.ixN n ((k : Int) + 1) = some (k + 1) := by rw [ixN_pos (by omega) (by omega)]; congr 1
theorem ix2 {k n : Nat} (h : k + 2 < n) : L2.ixN n ((k : Int) + 2) = some (k + 2) := by rw [ixN_pos (by omega) (by omega)]; congr 1
theorem set0 (u r : List Int) (x y : Int) : (u ++ x :: r).set u.length y = u ++ y :: r := by
  induction u with
  | nil => rfl
  | cons a u ih => simp [ih]
theorem set1 (u r : List Int) (x y z : Int) : (u ++ x :: y :: r).set (u.length + 1) z = u ++ x :: z :: r := by
  induction u with
  | nil => rfl
  | cons a u ih => simp [ih]
theorem set2 (u r : List Int) (x y z t : Int) : (u ++ x :: y :: z :: r).set (u.length + 2) t = u ++ x :: y :: t :: r := by
  induction u with
  | nil => rfl
  | cons a u ih => simp [ih]
/-- a word behind a move -/
def bhd2 (nm : Str) (u : List Int) : List Int → Option (List Int)
  | x :: y :: r => if nm = "take" then (if x + y = 0 then some (u ++ r) else none)
    else if nm = "far" then (if 1 < (((x.natAbs : Int) - y.natAbs).natAbs : Int) then some (u ++ y :: x :: r) else none)
    else if nm = "near" then (match r with
      | z :: r' => if z = x ∧ ((x - y).natAbs : Int) = 1 then some (u ++ y :: x :: y :: r') else none
      | [] => none)
    else none
  | _ => none
def bhd (n : Int) (w : List Int) : D → Option (List Int)
  | .tup [.str nm, .int p] => if 0 ≤ p ∧ p ≤ w.length then bhd2 nm (w.take p.toNat) (w.drop p.toNat) else none
  | .tup [.str nm, .int p, .int l] => if 0 ≤ p ∧ p ≤ w.length ∧ nm = "put" ∧ l ≠ 0 ∧ (l.natAbs : Int) < n then some (w.take p.toNat ++ l :: -l :: w.drop p.toNat) else none
  | _ => none
theorem within_ok {d : D} {lo hi : Int} (h : ∀ ns, d ≠ .scr ns) : f__law_within [.dat d, .dat (.int lo), .dat (.int hi)] = .ok (.dat (.bl (match d with
    | .int i => decide (lo ≤ i ∧ i ≤ hi)
    | _ => false))) [] := by
  unfold f__law_within
  rw [runF_eq (by rfl) (by rfl)]
  cases d with
  | scr ns => exact (h ns rfl).elim
  | int i =>
    by_cases c : lo ≤ i
    · simp [m__law_within, sSeq, sSet, sOwn, sAli, sAsg, sRet, sRetN, sIf, sPass, sExpr, sFor, sPar, sPar3, sParO, sParO3, eFnX, lendM, lends, lendD, lendR, atomD, keepO, slotOf, sOwn2, eFrz, tvT, truD, sortedD, insertD, eOp2, eOp1, eName, eD, ixD, setS_nw, setS_own, nwAt, noOwn_nw, peek_pl, gSb, gNm, gTp, gTq, gCs, gNl, getP, putP, addD, subD, mulD, modD, fdivD, powD, ltD, leD, gtD, geD, isD, isnotD, D.isN, negD, tvB, tvNot, tvAnd, tvOr, evT, evAnd, evOr, evNot, evIf, evChain, eCall, aCons, aNil, peeks, dats, lenD, intD, listD, tupleD, eTup, eLst, eSl, oNone, oSome, slD, revD, eLr1, eLr2, iSeq, iR1_eq, iR1f, iR2_eq, iR2f, iR3_eq, iR3f, iEnu, iZp, tYesM, eMeth, appendD, extendD, popD, reverseD, dropS, eFn, toArgs, backE, aft, finF, backs, eIsi, stp, lim, sTry, outGone, sRaise0, sRaise1, eIsx, eFldX, inD, notinD, sDelS, cutF, gCutD, evChain, O.toD, O.toD.go, eIxC, eTupO, tpO, aLast, eMov, O.get, O.set, ixF_ixS, c]
    · simp [m__law_within, sSeq, sSet, sOwn, sAli, sAsg, sRet, sRetN, sIf, sPass, sExpr, sFor, sPar, sPar3, sParO, sParO3, eFnX, lendM, lends, lendD, lendR, atomD, keepO, slotOf, sOwn2, eFrz, tvT, truD, sortedD, insertD, eOp2, eOp1, eName, eD, ixD, setS_nw, setS_own, nwAt, noOwn_nw, peek_pl, gSb, gNm, gTp, gTq, gCs, gNl, getP, putP, addD, subD, mulD, modD, fdivD, powD, ltD, leD, gtD, geD, isD, isnotD, D.isN, negD, tvB, tvNot, tvAnd, tvOr, evT, evAnd, evOr, evNot, evIf, evChain, eCall, aCons, aNil, peeks, dats, lenD, intD, listD, tupleD, eTup, eLst, eSl, oNone, oSome, slD, revD, eLr1, eLr2, iSeq, iR1_eq, iR1f, iR2_eq, iR2f, iR3_eq, iR3f, iEnu, iZp, tYesM, eMeth, appendD, extendD, popD, reverseD, dropS, eFn, toArgs, backE, aft, finF, backs, eIsi, stp, lim, sTry, outGone, sRaise0, sRaise1, eIsx, eFldX, inD, notinD, sDelS, cutF, gCutD, evChain, O.toD, O.toD.go, eIxC, eTupO, tpO, aLast, eMov, O.get, O.set, ixF_ixS, c]
  | _ => simp [m__law_within, sSeq, sSet, sOwn, sAli, sAsg, sRet, sRetN, sIf, sPass, sExpr, sFor, sPar, sPar3, sParO, sParO3, eFnX, lendM, lends, lendD, lendR, atomD, keepO, slotOf, sOwn2, eFrz, tvT, truD, sortedD, insertD, eOp2, eOp1, eName, eD, ixD, setS_nw, setS_own, nwAt, noOwn_nw, peek_pl, gSb, gNm, gTp, gTq, gCs, gNl, getP, putP, addD, subD, mulD, modD, fdivD, powD, ltD, leD, gtD, geD, isD, isnotD, D.isN, negD, tvB, tvNot, tvAnd, tvOr, evT, evAnd, evOr, evNot, evIf, evChain, eCall, aCons, aNil, peeks, dats, lenD, intD, listD, tupleD, eTup, eLst, eSl, oNone, oSome, slD, revD, eLr1, eLr2, iSeq, iR1_eq, iR1f, iR2_eq, iR2f, iR3_eq, iR3f, iEnu, iZp, tYesM, eMeth, appendD, extendD, popD, reverseD, dropS, eFn, toArgs, backE, aft, finF, backs, eIsi, stp, lim, sTry, outGone, sRaise0, sRaise1, eIsx, eFldX, inD, notinD, sDelS, cutF, gCutD, evChain, O.toD, O.toD.go, eIxC, eTupO, tpO, aLast, eMov, O.get, O.set, ixF_ixS]
theorem split_at {w : List Int} {p : Int} (h : 0 ≤ p ∧ p ≤ w.length) : ∃ u v, w = u ++ v ∧ p = (u.length : Int) := by
  refine ⟨w.take p.toNat, w.drop p.toNat, (List.take_append_drop _ _).symm, ?_⟩
  rw [List.length_take]
  omega
def bR (o : Option (List Int)) : FRes := match o with
  | some u => .ok (.new (.lst (mi u))) []
  | none => .ok (.dat .non) []
theorem near_iff {x y : Int} (hx : x ≠ 0) (hy : y ≠ 0) : ((x - y).natAbs : Int) = 1 ↔ ((0 < x ↔ 0 < y) ∧ (((x.natAbs : Int) - y.natAbs).natAbs : Int) = 1) := by omega
theorem behind2 {n : Int} {u v : List Int} {nm : Str} (hl : u.length + v.length ≤ 16000000) (hv : ∀ l ∈ v, l ≠ 0) : f__law_behind [.dat (.int n), .dat (.lst (mi (u ++ v))), .dat (.tup [.str nm, .int u.length])] = bR (bhd2 nm u v) := by
  have hw0 : ∀ L : Int, (u.length : Int) ≤ L → f__law_within [.dat (.int u.length), .dat (.int 0), .dat (.int L)] = .ok (.dat (.bl true)) [] := fun L h => by
    rw [within_ok (fun _ => by simp)]
    simp [h]
  have c1 : cut (u ++ v) none (some (u.length : Int)) = u := by rw [cut_lo _ (by omega)]; simp
  have c2 : cut (u ++ v) (some (u.length : Int)) none = v := by rw [cut_hi _ (by omega)]; simp
  unfold f__law_behind
  rw [runF_eq (by rfl) (by rfl)]
  match v, hv, hl, c1, c2 with
  | [], hv, hl, c1, c2 =>
    have hw := hw0 (u.length : Int) (by omega)
    simp at c1 c2
    simp [m__law_behind, sSeq, sSet, sOwn, sAli, sAsg, sRet, sRetN, sIf, sPass, sExpr, sFor, sPar, sPar3, sParO, sParO3, eFnX, lendM, lends, lendD, lendR, atomD, keepO, slotOf, sOwn2, eFrz, tvT, truD, sortedD, insertD, eOp2, eOp1, eName, eD, ixD, setS_nw, setS_own, nwAt, noOwn_nw, peek_pl, gSb, gNm, gTp, gTq, gCs, gNl, getP, putP, addD, subD, mulD, modD, fdivD, powD, ltD, leD, gtD, geD, isD, isnotD, D.isN, negD, tvB, tvNot, tvAnd, tvOr, evT, evAnd, evOr, evNot, evIf, evChain, eCall, aCons, aNil, peeks, dats, lenD, intD, listD, tupleD, eTup, eLst, eSl, oNone, oSome, slD, revD, eLr1, eLr2, iSeq, iR1_eq, iR1f, iR2_eq, iR2f, iR3_eq, iR3f, iEnu, iZp, tYesM, eMeth, appendD, extendD, popD, reverseD, dropS, eFn, toArgs, backE, aft, finF, backs, eIsi, stp, lim, sTry, outGone, sRaise0, sRaise1, eIsx, eFldX, inD, notinD, sDelS, cutF, gCutD, evChain, O.toD, O.toD.go, eIxC, eTupO, tpO, aLast, eMov, O.get, O.set, ixF_ixS, hw, c1, c2, bhd2, bR]
  | [x], hv, hl, c1, c2 =>
    have hw := hw0 ((u.length : Int) + 1) (by omega)
    simp [m__law_behind, sSeq, sSet, sOwn, sAli, sAsg, sRet, sRetN, sIf, sPass, sExpr, sFor, sPar, sPar3, sParO, sParO3, eFnX, lendM, lends, lendD, lendR, atomD, keepO, slotOf, sOwn2, eFrz, tvT, truD, sortedD, insertD, eOp2, eOp1, eName, eD, ixD, setS_nw, setS_own, nwAt, noOwn_nw, peek_pl, gSb, gNm, gTp, gTq, gCs, gNl, getP, putP, addD, subD, mulD, modD, fdivD, powD, ltD, leD, gtD, geD, isD, isnotD, D.isN, negD, tvB, tvNot, tvAnd, tvOr, evT, evAnd, evOr, evNot, evIf, evChain, eCall, aCons, aNil, peeks, dats, lenD, intD, listD, tupleD, eTup, eLst, eSl, oNone, oSome, slD, revD, eLr1, eLr2, iSeq, iR1_eq, iR1f, iR2_eq, iR2f, iR3_eq, iR3f, iEnu, iZp, tYesM, eMeth, appendD, extendD, popD, reverseD, dropS, eFn, toArgs, backE, aft, finF, backs, eIsi, stp, lim, sTry, outGone, sRaise0, sRaise1, eIsx, eFldX, inD, notinD, sDelS, cutF, gCutD, evChain, O.toD, O.toD.go, eIxC, eTupO, tpO, aLast, eMov, O.get, O.set, ixF_ixS, hw, c1, c2, bhd2, bR]
  | x :: y :: r, hv, hl, c1, c2 =>
    have hw := hw0 ((u.length : Int) + ((r.length : Int) + 1 + 1)) (by omega)
    have hx := hv x (by simp)
    have hy := hv y (by simp)
    have c3 : cut (x :: y :: r) (some 2) none = r := by rw [cut_hi _ (by omega)]; rfl
    simp only [List.length_cons] at hl
    have l0 : u.length + r.length ≤ 16777216 := by omega
    have l1 : u.length + (r.length + 1 + 1) ≤ 16777216 := by omega
    have l2 : ¬ (r.length : Int) + 1 + 1 < 2 := by omega
    have l3 : u.length + 2 ≤ 16777216 := by omega
    have l4 : u.length + 2 + r.length ≤ 16777216 := by omega
    by_cases a1 : nm = "take"
    · subst a1
      by_cases a2 : x = -y
      · have a3 : x + y = 0 := by omega
        subst a2
        simp [m__law_behind, sSeq, sSet, sOwn, sAli, sAsg, sRet, sRetN, sIf, sPass, sExpr, sFor, sPar, sPar3, sParO, sParO3, eFnX, lendM, lends, lendD, lendR, atomD, keepO, slotOf, sOwn2, eFrz, tvT, truD, sortedD, insertD, eOp2, eOp1, eName, eD, ixD, setS_nw, setS_own, nwAt, noOwn_nw, peek_pl, gSb, gNm, gTp, gTq, gCs, gNl, getP, putP, addD, subD, mulD, modD, fdivD, powD, ltD, leD, gtD, geD, isD, isnotD, D.isN, negD, tvB, tvNot, tvAnd, tvOr, evT, evAnd, evOr, evNot, evIf, evChain, eCall, aCons, aNil, peeks, dats, lenD, intD, listD, tupleD, eTup, eLst, eSl, oNone, oSome, slD, revD, eLr1, eLr2, iSeq, iR1_eq, iR1f, iR2_eq, iR2f, iR3_eq, iR3f, iEnu, iZp, tYesM, eMeth, appendD, extendD, popD, reverseD, dropS, eFn, toArgs, backE, aft, finF, backs, eIsi, stp, lim, sTry, outGone, sRaise0, sRaise1, eIsx, eFldX, inD, notinD, sDelS, cutF, gCutD, evChain, O.toD, O.toD.go, eIxC, eTupO, tpO, aLast, eMov, O.get, O.set, ixF_ixS, hw, c1, c2, c3, bhd2, bR, l0, l2, a3]
      · have a3 : ¬ x + y = 0 := by omega
        simp [m__law_behind, sSeq, sSet, sOwn, sAli, sAsg, sRet, sRetN, sIf, sPass, sExpr, sFor, sPar, sPar3, sParO, sParO3, eFnX, lendM, lends, lendD, lendR, atomD, keepO, slotOf, sOwn2, eFrz, tvT, truD, sortedD, insertD, eOp2, eOp1, eName, eD, ixD, setS_nw, setS_own, nwAt, noOwn_nw, peek_pl, gSb, gNm, gTp, gTq, gCs, gNl, getP, putP, addD, subD, mulD, modD, fdivD, powD, ltD, leD, gtD, geD, isD, isnotD, D.isN, negD, tvB, tvNot, tvAnd, tvOr, evT, evAnd, evOr, evNot, evIf, evChain, eCall, aCons, aNil, peeks, dats, lenD, intD, listD, tupleD, eTup, eLst, eSl, oNone, oSome, slD, revD, eLr1, eLr2, iSeq, iR1_eq, iR1f, iR2_eq, iR2f, iR3_eq, iR3f, iEnu, iZp, tYesM, eMeth, appendD, extendD, popD, reverseD, dropS, eFn, toArgs, backE, aft, finF, backs, eIsi, stp, lim, sTry, outGone, sRaise0, sRaise1, eIsx, eFldX, inD, notinD, sDelS, cutF, gCutD, evChain, O.toD, O.toD.go, eIxC, eTupO, tpO, aLast, eMov, O.get, O.set, ixF_ixS, hw, c1, c2, c3, bhd2, bR, a2, a3, l0, l2]
    · by_cases b1 : nm = "far"
      · subst b1
        by_cases a2 : 1 < (((x.natAbs : Int) - y.natAbs).natAbs : Int)
        · simp [m__law_behind, sSeq, sSet, sOwn, sAli, sAsg, sRet, sRetN, sIf, sPass, sExpr, sFor, sPar, sPar3, sParO, sParO3, eFnX, lendM, lends, lendD, lendR, atomD, keepO, slotOf, sOwn2, eFrz, tvT, truD, sortedD, insertD, eOp2, eOp1, eName, eD, ixD, setS_nw, setS_own, nwAt, noOwn_nw, peek_pl, gSb, gNm, gTp, gTq, gCs, gNl, getP, putP, addD, subD, mulD, modD, fdivD, powD, ltD, leD, gtD, geD, isD, isnotD, D.isN, negD, tvB, tvNot, tvAnd, tvOr, evT, evAnd, evOr, evNot, evIf, evChain, eCall, aCons, aNil, peeks, dats, lenD, intD, listD, tupleD, eTup, eLst, eSl, oNone, oSome, slD, revD, eLr1, eLr2, iSeq, iR1_eq, iR1f, iR2_eq, iR2f, iR3_eq, iR3f, iEnu, iZp, tYesM, eMeth, appendD, extendD, popD, reverseD, dropS, eFn, toArgs, backE, aft, finF, backs, eIsi, stp, lim, sTry, outGone, sRaise0, sRaise1, eIsx, eFldX, inD, notinD, sDelS, cutF, gCutD, evChain, O.toD, O.toD.go, eIxC, eTupO, tpO, aLast, eMov, O.get, O.set, ixF_ixS, hw, c1, c2, c3, bhd2, bR, a2, l1, l2, l3, l4]
        · simp [m__law_behind, sSeq, sSet, sOwn, sAli, sAsg, sRet, sRetN, sIf, sPass, sExpr, sFor, sPar, sPar3, sParO, sParO3, eFnX, lendM, lends, lendD, lendR, atomD, keepO, slotOf, sOwn2, eFrz, tvT, truD, sortedD, insertD, eOp2, eOp1, eName, eD, ixD, setS_nw, setS_own, nwAt, noOwn_nw, peek_pl, gSb, gNm, gTp, gTq, gCs, gNl, getP, putP, addD, subD, mulD, modD, fdivD, powD, ltD, leD, gtD, geD, isD, isnotD, D.isN, negD, tvB, tvNot, tvAnd, tvOr, evT, evAnd, evOr, evNot, evIf, evChain, eCall, aCons, aNil, peeks, dats, lenD, intD, listD, tupleD, eTup, eLst, eSl, oNone, oSome, slD, revD, eLr1, eLr2, iSeq, iR1_eq, iR1f, iR2_eq, iR2f, iR3_eq, iR3f, iEnu, iZp, tYesM, eMeth, appendD, extendD, popD, reverseD, dropS, eFn, toArgs, backE, aft, finF, backs, eIsi, stp, lim, sTry, outGone, sRaise0, sRaise1, eIsx, eFldX, inD, notinD, sDelS, cutF, gCutD, evChain, O.toD, O.toD.go, eIxC, eTupO, tpO, aLast, eMov, O.get, O.set, ixF_ixS, hw, c1, c2, c3, bhd2, bR, a2, l2]
      · by_cases d1 : nm = "near"
        · subst d1
          cases r with
          | nil =>
            have hw := hw0 ((u.length : Int) + 2) (by omega)
            simp [m__law_behind, sSeq, sSet, sOwn, sAli, sAsg, sRet, sRetN, sIf, sPass, sExpr, sFor, sPar, sPar3, sParO, sParO3, eFnX, lendM, lends, lendD, lendR, atomD, keepO, slotOf, sOwn2, eFrz, tvT, truD, sortedD, insertD, eOp2, eOp1, eName, eD, ixD, setS_nw, setS_own, nwAt, noOwn_nw, peek_pl, gSb, gNm, gTp, gTq, gCs, gNl, getP, putP, addD, subD, mulD, modD, fdivD, powD, ltD, leD, gtD, geD, isD, isnotD, D.isN, negD, tvB, tvNot, tvAnd, tvOr, evT, evAnd, evOr, evNot, evIf, evChain, eCall, aCons, aNil, peeks, dats, lenD, intD, listD, tupleD, eTup, eLst, eSl, oNone, oSome, slD, revD, eLr1, eLr2, iSeq, iR1_eq, iR1f, iR2_eq, iR2f, iR3_eq, iR3f, iEnu, iZp, tYesM, eMeth, appendD, extendD, popD, reverseD, dropS, eFn, toArgs, backE, aft, finF, backs, eIsi, stp, lim, sTry, outGone, sRaise0, sRaise1, eIsx, eFldX, inD, notinD, sDelS, cutF, gCutD, evChain, O.toD, O.toD.go, eIxC, eTupO, tpO, aLast, eMov, O.get, O.set, ixF_ixS, hw, c1, c2, c3, bhd2, bR]
          | cons z r' =>
            have c4 : cut (x :: y :: z :: r') (some 3) none = r' := by rw [cut_hi _ (by omega)]; rfl
            simp only [List.length_cons] at hl
            have l5 : ¬ (r'.length : Int) + 1 + 1 + 1 < 2 := by omega
            have l6 : (2 : Int) < (r'.length : Int) + 1 + 1 + 1 := by omega
            have l7 : u.length + 3 ≤ 16777216 := by omega
            have l8 : u.length + 3 + r'.length ≤ 16777216 := by omega
            have hw := hw0 ((u.length : Int) + ((r'.length : Int) + 1 + 1 + 1)) (by omega)
            by_cases e1 : z = x
            · subst e1
              have ni := near_iff hx hy
              by_cases e2 : (0 < z ↔ 0 < y)
              · by_cases e3 : (((z.natAbs : Int) - y.natAbs).natAbs : Int) = 1
                · have e4 : ((z - y).natAbs : Int) = 1 := ni.2 ⟨e2, e3⟩
                  simp [m__law_behind, sSeq, sSet, sOwn, sAli, sAsg, sRet, sRetN, sIf, sPass, sExpr, sFor, sPar, sPar3, sParO, sParO3, eFnX, lendM, lends, lendD, lendR, atomD, keepO, slotOf, sOwn2, eFrz, tvT, truD, sortedD, insertD, eOp2, eOp1, eName, eD, ixD, setS_nw, setS_own, nwAt, noOwn_nw, peek_pl, gSb, gNm, gTp, gTq, gCs, gNl, getP, putP, addD, subD, mulD, modD, fdivD, powD, ltD, leD, gtD, geD, isD, isnotD, D.isN, negD, tvB, tvNot, tvAnd, tvOr, evT, evAnd, evOr, evNot, evIf, evChain, eCall, aCons, aNil, peeks, dats, lenD, intD, listD, tupleD, eTup, eLst, eSl, oNone, oSome, slD, revD, eLr1, eLr2, iSeq, iR1_eq, iR1f, iR2_eq, iR2f, iR3_eq, iR3f, iEnu, iZp, tYesM, eMeth, appendD, extendD, popD, reverseD, dropS, eFn, toArgs, backE, aft, finF, backs, eIsi, stp, lim, sTry, outGone, sRaise0, sRaise1, eIsx, eFldX, inD, notinD, sDelS, cutF, gCutD, evChain, O.toD, O.toD.go, eIxC, eTupO, tpO, aLast, eMov, O.get, O.set, ixF_ixS, hw, c1, c2, c4, bhd2, bR, e2, e3, e4, l5, l6, l7, l8]
                · have e4 : ¬ ((z - y).natAbs : Int) = 1 := fun h => e3 (ni.1 h).2
                  simp [m__law_behind, sSeq, sSet, sOwn, sAli, sAsg, sRet, sRetN, sIf, sPass, sExpr, sFor, sPar, sPar3, sParO, sParO3, eFnX, lendM, lends, lendD, lendR, atomD, keepO, slotOf, sOwn2, eFrz, tvT, truD, sortedD, insertD, eOp2, eOp1, eName, eD, ixD, setS_nw, setS_own, nwAt, noOwn_nw, peek_pl, gSb, gNm, gTp, gTq, gCs, gNl, getP, putP, addD, subD, mulD, modD, fdivD, powD, ltD, leD, gtD, geD, isD, isnotD, D.isN, negD, tvB, tvNot, tvAnd, tvOr, evT, evAnd, evOr, evNot, evIf, evChain, eCall, aCons, aNil, peeks, dats, lenD, intD, listD, tupleD, eTup, eLst, eSl, oNone, oSome, slD, revD, eLr1, eLr2, iSeq, iR1_eq, iR1f, iR2_eq, iR2f, iR3_eq, iR3f, iEnu, iZp, tYesM, eMeth, appendD, extendD, popD, reverseD, dropS, eFn, toArgs, backE, aft, finF, backs, eIsi, stp, lim, sTry, outGone, sRaise0, sRaise1, eIsx, eFldX, inD, notinD, sDelS, cutF, gCutD, evChain, O.toD, O.toD.go, eIxC, eTupO, tpO, aLast, eMov, O.get, O.set, ixF_ixS, hw, c1, c2, c4, bhd2, bR, e2, e3, e4, l5, l6]
              · have e4 : ¬ ((z - y).natAbs : Int) = 1 := fun h => e2 (ni.1 h).1
                simp [m__law_behind, sSeq, sSet, sOwn, sAli, sAsg, sRet, sRetN, sIf, sPass, sExpr, sFor, sPar, sPar3, sParO, sParO3, eFnX, lendM, lends, lendD, lendR, atomD, keepO, slotOf, sOwn2, eFrz, tvT, truD, sortedD, insertD, eOp2, eOp1, eName, eD, ixD, setS_nw, setS_own, nwAt, noOwn_nw, peek_pl, gSb, gNm, gTp, gTq, gCs, gNl, getP, putP, addD, subD, mulD, modD, fdivD, powD, ltD, leD, gtD, geD, isD, isnotD, D.isN, negD, tvB, tvNot, tvAnd, tvOr, evT, evAnd, evOr, evNot, evIf, evChain, eCall, aCons, aNil, peeks, dats, lenD, intD, listD, tupleD, eTup, eLst, eSl, oNone, oSome, slD, revD, eLr1, eLr2, iSeq, iR1_eq, iR1f, iR2_eq, iR2f, iR3_eq, iR3f, iEnu, iZp, tYesM, eMeth, appendD, extendD, popD, reverseD, dropS, eFn, toArgs, backE, aft, finF, backs, eIsi, stp, lim, sTry, outGone, sRaise0, sRaise1, eIsx, eFldX, inD, notinD, sDelS, cutF, gCutD, evChain, O.toD, O.toD.go, eIxC, eTupO, tpO, aLast, eMov, O.get, O.set, ixF_ixS, hw, c1, c2, c4, bhd2, bR, e2, e4, l5, l6]
            · simp [m__law_behind, sSeq, sSet, sOwn, sAli, sAsg, sRet, sRetN, sIf, sPass, sExpr, sFor, sPar, sPar3, sParO, sParO3, eFnX, lendM, lends, lendD, lendR, atomD, keepO, slotOf, sOwn2, eFrz, tvT, truD, sortedD, insertD, eOp2, eOp1, eName, eD, ixD, setS_nw, setS_own, nwAt, noOwn_nw, peek_pl, gSb, gNm, gTp, gTq, gCs, gNl, getP, putP, addD, subD, mulD, modD, fdivD, powD, ltD, leD, gtD, geD, isD, isnotD, D.isN, negD, tvB, tvNot, tvAnd, tvOr, evT, evAnd, evOr, evNot, evIf, evChain, eCall, aCons, aNil, peeks, dats, lenD, intD, listD, tupleD, eTup, eLst, eSl, oNone, oSome, slD, revD, eLr1, eLr2, iSeq, iR1_eq, iR1f, iR2_eq, iR2f, iR3_eq, iR3f, iEnu, iZp, tYesM, eMeth, appendD, extendD, popD, reverseD, dropS, eFn, toArgs, backE, aft, finF, backs, eIsi, stp, lim, sTry, outGone, sRaise0, sRaise1, eIsx, eFldX, inD, notinD, sDelS, cutF, gCutD, evChain, O.toD, O.toD.go, eIxC, eTupO, tpO, aLast, eMov, O.get, O.set, ixF_ixS, hw, c1, c2, c4, bhd2, bR, e1, l5, l6]
        · simp [m__law_behind, sSeq, sSet, sOwn, sAli, sAsg, sRet, sRetN, sIf, sPass, sExpr, sFor, sPar, sPar3, sParO, sParO3, eFnX, lendM, lends, lendD, lendR, atomD, keepO, slotOf, sOwn2, eFrz, tvT, truD, sortedD, insertD, eOp2, eOp1, eName, eD, ixD, setS_nw, setS_own, nwAt, noOwn_nw, peek_pl, gSb, gNm, gTp, gTq, gCs, gNl, getP, putP, addD, subD, mulD, modD, fdivD, powD, ltD, leD, gtD, geD, isD, isnotD, D.isN, negD, tvB, tvNot, tvAnd, tvOr, evT, evAnd, evOr, evNot, evIf, evChain, eCall, aCons, aNil, peeks, dats, lenD, intD, listD, tupleD, eTup, eLst, eSl, oNone, oSome, slD, revD, eLr1, eLr2, iSeq, iR1_eq, iR1f, iR2_eq, iR2f, iR3_eq, iR3f, iEnu, iZp, tYesM, eMeth, appendD, extendD, popD, reverseD, dropS, eFn, toArgs, backE, aft, finF, backs, eIsi, stp, lim, sTry, outGone, sRaise0, sRaise1, eIsx, eFldX, inD, notinD, sDelS, cutF, gCutD, evChain, O.toD, O.toD.go, eIxC, eTupO, tpO, aLast, eMov, O.get, O.set, ixF_ixS, hw, c1, c2, c3, bhd2, bR, a1, b1, d1, l2]

theorem Fit.notScr {k : Nat} {d : D} (h : Fit k d) : ∀ ns, d ≠ .scr ns := fun ns e => by rw [e] at h; cases k <;> exact h.elim
theorem Fit.mem {k : Nat} {xs : List D} (h : Fit k (.tup xs)) {x : D} (m : x ∈ xs) : Fit k x := by
  cases k with
  | zero => exact h.elim
  | succ k => exact (h.2 x m).succ
theorem bhd_no {n : Int} {w : List Int} {nm : Str} {b : D} {rest : List D} (h : ¬ ∃ p, b = .int p ∧ 0 ≤ p ∧ p ≤ (w.length : Int)) : bhd n w (.tup (.str nm :: b :: rest)) = none := by
  unfold bhd
  split
  · rename_i nm' p e
    injection e with e
    injection e with _ e
    injection e with e _
    exact if_neg fun c => h ⟨p, e, c⟩
  · rename_i nm' p l e
    injection e with e
    injection e with _ e
    injection e with e _
    exact if_neg fun c => h ⟨p, e, c.1, c.2.1⟩
  · rfl
theorem behind_ok {n : Int} {w : List Int} {k : Nat} {step : D} (hf : Fit k step) (hl : w.length ≤ 15000000) (hw : ∀ l ∈ w, l ≠ 0) : f__law_behind [.dat (.int n), .dat (.lst (mi w)), .dat step] = bR (bhd n w step) := by
  cases step with
  | scr ns => exact (hf.notScr ns rfl).elim
  | tup xs =>
    match xs, hf with
    | [], hf =>
      unfold f__law_behind
      rw [runF_eq (by rfl) (by rfl)]
      simp [m__law_behind, sSeq, sSet, sOwn, sAli, sAsg, sRet, sRetN, sIf, sPass, sExpr, sFor, sPar, sPar3, sParO, sParO3, eFnX, lendM, lends, lendD, lendR, atomD, keepO, slotOf, sOwn2, eFrz, tvT, truD, sortedD, insertD, eOp2, eOp1, eName, eD, ixD, setS_nw, setS_own, nwAt, noOwn_nw, peek_pl, gSb, gNm, gTp, gTq, gCs, gNl, getP, putP, addD, subD, mulD, modD, fdivD, powD, ltD, leD, gtD, geD, isD, isnotD, D.isN, negD, tvB, tvNot, tvAnd, tvOr, evT, evAnd, evOr, evNot, evIf, evChain, eCall, aCons, aNil, peeks, dats, lenD, intD, listD, tupleD, eTup, eLst, eSl, oNone, oSome, slD, revD, eLr1, eLr2, iSeq, iR1_eq, iR1f, iR2_eq, iR2f, iR3_eq, iR3f, iEnu, iZp, tYesM, eMeth, appendD, extendD, popD, reverseD, dropS, eFn, toArgs, backE, aft, finF, backs, eIsi, stp, lim, sTry, outGone, sRaise0, sRaise1, eIsx, eFldX, inD, notinD, sDelS, cutF, gCutD, evChain, O.toD, O.toD.go, eIxC, eTupO, tpO, aLast, eMov, O.get, O.set, ixF_ixS, bhd, bR]
    | [a], hf =>
      unfold f__law_behind
      rw [runF_eq (by rfl) (by rfl)]
      simp [m__law_behind, sSeq, sSet, sOwn, sAli, sAsg, sRet, sRetN, sIf, sPass, sExpr, sFor, sPar, sPar3, sParO, sParO3, eFnX, lendM, lends, lendD, lendR, atomD, keepO, slotOf, sOwn2, eFrz, tvT, truD, sortedD, insertD, eOp2, eOp1, eName, eD, ixD, setS_nw, setS_own, nwAt, noOwn_nw, peek_pl, gSb, gNm, gTp, gTq, gCs, gNl, getP, putP, addD, subD, mulD, modD, fdivD, powD, ltD, leD, gtD, geD, isD, isnotD, D.isN, negD, tvB, tvNot, tvAnd, tvOr, evT, evAnd, evOr, evNot, evIf, evChain, eCall, aCons, aNil, peeks, dats, lenD, intD, listD, tupleD, eTup, eLst, eSl, oNone, oSome, slD, revD, eLr1, eLr2, iSeq, iR1_eq, iR1f, iR2_eq, iR2f, iR3_eq, iR3f, iEnu, iZp, tYesM, eMeth, appendD, extendD, popD, reverseD, dropS, eFn, toArgs, backE, aft, finF, backs, eIsi, stp, lim, sTry, outGone, sRaise0, sRaise1, eIsx, eFldX, inD, notinD, sDelS, cutF, gCutD, evChain, O.toD, O.toD.go, eIxC, eTupO, tpO, aLast, eMov, O.get, O.set, ixF_ixS, bhd, bR]
    | a :: b :: rest, hf =>
      have fa := (hf.mem (x := a) (by simp)).notScr
      have fb := (hf.mem (x := b) (by simp)).notScr
      have hr : ¬ (rest.length : Int) + 1 + 1 < 2 := by omega
      cases a with
      | scr ns => exact (fa ns rfl).elim
      | str nm =>
        have hwi := within_ok (lo := 0) (hi := (w.length : Int)) fb
        by_cases B : ∃ p, b = .int p ∧ 0 ≤ p ∧ p ≤ (w.length : Int)
        · obtain ⟨p, rfl, hp⟩ := B
          simp only at hwi
          rw [decide_eq_true hp] at hwi
          obtain ⟨u, v, rfl, rfl⟩ := split_at hp
          match rest, hf, hr with
          | [], hf, hr =>
            rw [behind2 (by simpa using Nat.le_trans hl (by omega)) (fun l m => hw l (by simp [m]))]
            simp [bhd]
            rw [if_pos (by omega)]
          | [c], hf, hr =>
            have fc := (hf.mem (x := c) (by simp)).notScr
            have hwc := within_ok (lo := 1 - n) (hi := n - 1) fc
            simp only [List.length_append] at hl
            simp at hwi
            have c1 : cut (u ++ v) none (some (u.length : Int)) = u := by rw [cut_lo _ (by omega)]; simp
            have c2 : cut (u ++ v) (some (u.length : Int)) none = v := by rw [cut_hi _ (by omega)]; simp
            have l1 : u.length + 2 ≤ 16777216 := by omega
            have l2 : u.length + 2 + v.length ≤ 16777216 := by omega
            unfold f__law_behind
            rw [runF_eq (by rfl) (by rfl)]
            by_cases a1 : nm = "put"
            · subst a1
              cases c with
              | scr ns => exact (fc ns rfl).elim
              | int l =>
                simp only at hwc
                by_cases a2 : 1 - n ≤ l ∧ l ≤ n - 1
                · rw [decide_eq_true a2] at hwc
                  by_cases a3 : l = 0
                  · subst a3
                    simp [m__law_behind, sSeq, sSet, sOwn, sAli, sAsg, sRet, sRetN, sIf, sPass, sExpr, sFor, sPar, sPar3, sParO, sParO3, eFnX, lendM, lends, lendD, lendR, atomD, keepO, slotOf, sOwn2, eFrz, tvT, truD, sortedD, insertD, eOp2, eOp1, eName, eD, ixD, setS_nw, setS_own, nwAt, noOwn_nw, peek_pl, gSb, gNm, gTp, gTq, gCs, gNl, getP, putP, addD, subD, mulD, modD, fdivD, powD, ltD, leD, gtD, geD, isD, isnotD, D.isN, negD, tvB, tvNot, tvAnd, tvOr, evT, evAnd, evOr, evNot, evIf, evChain, eCall, aCons, aNil, peeks, dats, lenD, intD, listD, tupleD, eTup, eLst, eSl, oNone, oSome, slD, revD, eLr1, eLr2, iSeq, iR1_eq, iR1f, iR2_eq, iR2f, iR3_eq, iR3f, iEnu, iZp, tYesM, eMeth, appendD, extendD, popD, reverseD, dropS, eFn, toArgs, backE, aft, finF, backs, eIsi, stp, lim, sTry, outGone, sRaise0, sRaise1, eIsx, eFldX, inD, notinD, sDelS, cutF, gCutD, evChain, O.toD, O.toD.go, eIxC, eTupO, tpO, aLast, eMov, O.get, O.set, ixF_ixS, bhd, bR, hwi, hwc, c1, c2]
                  · have a4 : (l.natAbs : Int) < n := by omega
                    have a5 : (u.length : Int) ≤ (u.length : Int) + v.length := by omega
                    simp [m__law_behind, sSeq, sSet, sOwn, sAli, sAsg, sRet, sRetN, sIf, sPass, sExpr, sFor, sPar, sPar3, sParO, sParO3, eFnX, lendM, lends, lendD, lendR, atomD, keepO, slotOf, sOwn2, eFrz, tvT, truD, sortedD, insertD, eOp2, eOp1, eName, eD, ixD, setS_nw, setS_own, nwAt, noOwn_nw, peek_pl, gSb, gNm, gTp, gTq, gCs, gNl, getP, putP, addD, subD, mulD, modD, fdivD, powD, ltD, leD, gtD, geD, isD, isnotD, D.isN, negD, tvB, tvNot, tvAnd, tvOr, evT, evAnd, evOr, evNot, evIf, evChain, eCall, aCons, aNil, peeks, dats, lenD, intD, listD, tupleD, eTup, eLst, eSl, oNone, oSome, slD, revD, eLr1, eLr2, iSeq, iR1_eq, iR1f, iR2_eq, iR2f, iR3_eq, iR3f, iEnu, iZp, tYesM, eMeth, appendD, extendD, popD, reverseD, dropS, eFn, toArgs, backE, aft, finF, backs, eIsi, stp, lim, sTry, outGone, sRaise0, sRaise1, eIsx, eFldX, inD, notinD, sDelS, cutF, gCutD, evChain, O.toD, O.toD.go, eIxC, eTupO, tpO, aLast, eMov, O.get, O.set, ixF_ixS, bhd, bR, hwi, hwc, c1, c2, a3, a4, a5, l1, l2]
                · rw [decide_eq_false a2] at hwc
                  have a4 : ¬ (l.natAbs : Int) < n := by omega
                  simp [m__law_behind, sSeq, sSet, sOwn, sAli, sAsg, sRet, sRetN, sIf, sPass, sExpr, sFor, sPar, sPar3, sParO, sParO3, eFnX, lendM, lends, lendD, lendR, atomD, keepO, slotOf, sOwn2, eFrz, tvT, truD, sortedD, insertD, eOp2, eOp1, eName, eD, ixD, setS_nw, setS_own, nwAt, noOwn_nw, peek_pl, gSb, gNm, gTp, gTq, gCs, gNl, getP, putP, addD, subD, mulD, modD, fdivD, powD, ltD, leD, gtD, geD, isD, isnotD, D.isN, negD, tvB, tvNot, tvAnd, tvOr, evT, evAnd, evOr, evNot, evIf, evChain, eCall, aCons, aNil, peeks, dats, lenD, intD, listD, tupleD, eTup, eLst, eSl, oNone, oSome, slD, revD, eLr1, eLr2, iSeq, iR1_eq, iR1f, iR2_eq, iR2f, iR3_eq, iR3f, iEnu, iZp, tYesM, eMeth, appendD, extendD, popD, reverseD, dropS, eFn, toArgs, backE, aft, finF, backs, eIsi, stp, lim, sTry, outGone, sRaise0, sRaise1, eIsx, eFldX, inD, notinD, sDelS, cutF, gCutD, evChain, O.toD, O.toD.go, eIxC, eTupO, tpO, aLast, eMov, O.get, O.set, ixF_ixS, bhd, bR, hwi, hwc, c1, c2, a4]
              | _ => simp [m__law_behind, sSeq, sSet, sOwn, sAli, sAsg, sRet, sRetN, sIf, sPass, sExpr, sFor, sPar, sPar3, sParO, sParO3, eFnX, lendM, lends, lendD, lendR, atomD, keepO, slotOf, sOwn2, eFrz, tvT, truD, sortedD, insertD, eOp2, eOp1, eName, eD, ixD, setS_nw, setS_own, nwAt, noOwn_nw, peek_pl, gSb, gNm, gTp, gTq, gCs, gNl, getP, putP, addD, subD, mulD, modD, fdivD, powD, ltD, leD, gtD, geD, isD, isnotD, D.isN, negD, tvB, tvNot, tvAnd, tvOr, evT, evAnd, evOr, evNot, evIf, evChain, eCall, aCons, aNil, peeks, dats, lenD, intD, listD, tupleD, eTup, eLst, eSl, oNone, oSome, slD, revD, eLr1, eLr2, iSeq, iR1_eq, iR1f, iR2_eq, iR2f, iR3_eq, iR3f, iEnu, iZp, tYesM, eMeth, appendD, extendD, popD, reverseD, dropS, eFn, toArgs, backE, aft, finF, backs, eIsi, stp, lim, sTry, outGone, sRaise0, sRaise1, eIsx, eFldX, inD, notinD, sDelS, cutF, gCutD, evChain, O.toD, O.toD.go, eIxC, eTupO, tpO, aLast, eMov, O.get, O.set, ixF_ixS, bhd, bR, hwi, hwc, c1, c2]
            · cases c <;> simp [m__law_behind, sSeq, sSet, sOwn, sAli, sAsg, sRet, sRetN, sIf, sPass, sExpr, sFor, sPar, sPar3, sParO, sParO3, eFnX, lendM, lends, lendD, lendR, atomD, keepO, slotOf, sOwn2, eFrz, tvT, truD, sortedD, insertD, eOp2, eOp1, eName, eD, ixD, setS_nw, setS_own, nwAt, noOwn_nw, peek_pl, gSb, gNm, gTp, gTq, gCs, gNl, getP, putP, addD, subD, mulD, modD, fdivD, powD, ltD, leD, gtD, geD, isD, isnotD, D.isN, negD, tvB, tvNot, tvAnd, tvOr, evT, evAnd, evOr, evNot, evIf, evChain, eCall, aCons, aNil, peeks, dats, lenD, intD, listD, tupleD, eTup, eLst, eSl, oNone, oSome, slD, revD, eLr1, eLr2, iSeq, iR1_eq, iR1f, iR2_eq, iR2f, iR3_eq, iR3f, iEnu, iZp, tYesM, eMeth, appendD, extendD, popD, reverseD, dropS, eFn, toArgs, backE, aft, finF, backs, eIsi, stp, lim, sTry, outGone, sRaise0, sRaise1, eIsx, eFldX, inD, notinD, sDelS, cutF, gCutD, evChain, O.toD, O.toD.go, eIxC, eTupO, tpO, aLast, eMov, O.get, O.set, ixF_ixS, bhd, bR, hwi, c1, c2, a1]
          | c :: d :: rest, hf, hr =>
            have c1 : cut (u ++ v) none (some (u.length : Int)) = u := by rw [cut_lo _ (by omega)]; simp
            have c2 : cut (u ++ v) (some (u.length : Int)) none = v := by rw [cut_hi _ (by omega)]; simp
            have r1 : ¬ (rest.length : Int) + 1 + 1 + 1 + 1 < 2 := by omega
            have r2 : ¬ (rest.length : Int) + 1 + 1 + 1 + 1 = 3 := by omega
            have r3 : ¬ (rest.length : Int) + 1 + 1 + 1 + 1 = 2 := by omega
            simp at hwi
            unfold f__law_behind
            rw [runF_eq (by rfl) (by rfl)]
            simp [m__law_behind, sSeq, sSet, sOwn, sAli, sAsg, sRet, sRetN, sIf, sPass, sExpr, sFor, sPar, sPar3, sParO, sParO3, eFnX, lendM, lends, lendD, lendR, atomD, keepO, slotOf, sOwn2, eFrz, tvT, truD, sortedD, insertD, eOp2, eOp1, eName, eD, ixD, setS_nw, setS_own, nwAt, noOwn_nw, peek_pl, gSb, gNm, gTp, gTq, gCs, gNl, getP, putP, addD, subD, mulD, modD, fdivD, powD, ltD, leD, gtD, geD, isD, isnotD, D.isN, negD, tvB, tvNot, tvAnd, tvOr, evT, evAnd, evOr, evNot, evIf, evChain, eCall, aCons, aNil, peeks, dats, lenD, intD, listD, tupleD, eTup, eLst, eSl, oNone, oSome, slD, revD, eLr1, eLr2, iSeq, iR1_eq, iR1f, iR2_eq, iR2f, iR3_eq, iR3f, iEnu, iZp, tYesM, eMeth, appendD, extendD, popD, reverseD, dropS, eFn, toArgs, backE, aft, finF, backs, eIsi, stp, lim, sTry, outGone, sRaise0, sRaise1, eIsx, eFldX, inD, notinD, sDelS, cutF, gCutD, evChain, O.toD, O.toD.go, eIxC, eTupO, tpO, aLast, eMov, O.get, O.set, ixF_ixS, bhd, bR, hwi, c1, c2, r1, r2, r3]
        · have hw0 : f__law_within [.dat b, .dat (.int 0), .dat (.int (w.length : Int))] = .ok (.dat (.bl false)) [] := by
            rw [hwi]
            cases b <;> first | rfl | skip
            rename_i p
            simp only
            rw [decide_eq_false fun c => B ⟨p, rfl, c⟩]
          rw [bhd_no B]
          unfold f__law_behind
          rw [runF_eq (by rfl) (by rfl)]
          simp [m__law_behind, sSeq, sSet, sOwn, sAli, sAsg, sRet, sRetN, sIf, sPass, sExpr, sFor, sPar, sPar3, sParO, sParO3, eFnX, lendM, lends, lendD, lendR, atomD, keepO, slotOf, sOwn2, eFrz, tvT, truD, sortedD, insertD, eOp2, eOp1, eName, eD, ixD, setS_nw, setS_own, nwAt, noOwn_nw, peek_pl, gSb, gNm, gTp, gTq, gCs, gNl, getP, putP, addD, subD, mulD, modD, fdivD, powD, ltD, leD, gtD, geD, isD, isnotD, D.isN, negD, tvB, tvNot, tvAnd, tvOr, evT, evAnd, evOr, evNot, evIf, evChain, eCall, aCons, aNil, peeks, dats, lenD, intD, listD, tupleD, eTup, eLst, eSl, oNone, oSome, slD, revD, eLr1, eLr2, iSeq, iR1_eq, iR1f, iR2_eq, iR2f, iR3_eq, iR3f, iEnu, iZp, tYesM, eMeth, appendD, extendD, popD, reverseD, dropS, eFn, toArgs, backE, aft, finF, backs, eIsi, stp, lim, sTry, outGone, sRaise0, sRaise1, eIsx, eFldX, inD, notinD, sDelS, cutF, gCutD, evChain, O.toD, O.toD.go, eIxC, eTupO, tpO, aLast, eMov, O.get, O.set, ixF_ixS, bR, hw0, hr]
      | _ =>
        unfold f__law_behind
        rw [runF_eq (by rfl) (by rfl)]
        simp [m__law_behind, sSeq, sSet, sOwn, sAli, sAsg, sRet, sRetN, sIf, sPass, sExpr, sFor, sPar, sPar3, sParO, sParO3, eFnX, lendM, lends, lendD, lendR, atomD, keepO, slotOf, sOwn2, eFrz, tvT, truD, sortedD, insertD, eOp2, eOp1, eName, eD, ixD, setS_nw, setS_own, nwAt, noOwn_nw, peek_pl, gSb, gNm, gTp, gTq, gCs, gNl, getP, putP, addD, subD, mulD, modD, fdivD, powD, ltD, leD, gtD, geD, isD, isnotD, D.isN, negD, tvB, tvNot, tvAnd, tvOr, evT, evAnd, evOr, evNot, evIf, evChain, eCall, aCons, aNil, peeks, dats, lenD, intD, listD, tupleD, eTup, eLst, eSl, oNone, oSome, slD, revD, eLr1, eLr2, iSeq, iR1_eq, iR1f, iR2_eq, iR2f, iR3_eq, iR3f, iEnu, iZp, tYesM, eMeth, appendD, extendD, popD, reverseD, dropS, eFn, toArgs, backE, aft, finF, backs, eIsi, stp, lim, sTry, outGone, sRaise0, sRaise1, eIsx, eFldX, inD, notinD, sDelS, cutF, gCutD, evChain, O.toD, O.toD.go, eIxC, eTupO, tpO, aLast, eMov, O.get, O.set, ixF_ixS, bhd, bR, hr]
  | _ =>
    unfold f__law_behind
    rw [runF_eq (by rfl) (by rfl)]
    simp [m__law_behind, sSeq, sSet, sOwn, sAli, sAsg, sRet, sRetN, sIf, sPass, sExpr, sFor, sPar, sPar3, sParO, sParO3, eFnX, lendM, lends, lendD, lendR, atomD, keepO, slotOf, sOwn2, eFrz, tvT, truD, sortedD, insertD, eOp2, eOp1, eName, eD, ixD, setS_nw, setS_own, nwAt, noOwn_nw, peek_pl, gSb, gNm, gTp, gTq, gCs, gNl, getP, putP, addD, subD, mulD, modD, fdivD, powD, ltD, leD, gtD, geD, isD, isnotD, D.isN, negD, tvB, tvNot, tvAnd, tvOr, evT, evAnd, evOr, evNot, evIf, evChain, eCall, aCons, aNil, peeks, dats, lenD, intD, listD, tupleD, eTup, eLst, eSl, oNone, oSome, slD, revD, eLr1, eLr2, iSeq, iR1_eq, iR1f, iR2_eq, iR2f, iR3_eq, iR3f, iEnu, iZp, tYesM, eMeth, appendD, extendD, popD, reverseD, dropS, eFn, toArgs, backE, aft, finF, backs, eIsi, stp, lim, sTry, outGone, sRaise0, sRaise1, eIsx, eFldX, inD, notinD, sDelS, cutF, gCutD, evChain, O.toD, O.toD.go, eIxC, eTupO, tpO, aLast, eMov, O.get, O.set, ixF_ixS, bhd, bR]

def tR (w : List Int) (o : Option (List Int)) : FRes := match o with
  | some u => .ok (.dat (.bl true)) [.lst (mi u)]
  | none => .ok (.dat (.bl false)) [.lst (mi w)]
theorem take_ok {u v : List Int} : f_take_away [.own (.lst (mi (u ++ v))), .dat (.int u.length)] = tR (u ++ v) (bhd2 "take" u v) := by
  unfold f_take_away
  rw [runF_eq (by rfl) (by rfl)]
  match v with
  | [] =>
    have c : (u.length : Int) < (u.length : Int) + 2 := by omega
    simp [m_take_away, sSeq, sSet, sOwn, sAli, sAsg, sRet, sRetN, sIf, sPass, sExpr, sFor, sPar, sPar3, sParO, sParO3, eFnX, lendM, lends, lendD, lendR, atomD, keepO, slotOf, sOwn2, eFrz, tvT, truD, sortedD, insertD, eOp2, eOp1, eName, eD, ixD, setS_nw, setS_own, nwAt, noOwn_nw, peek_pl, gSb, gNm, gTp, gTq, gCs, gNl, getP, putP, addD, subD, mulD, modD, fdivD, powD, ltD, leD, gtD, geD, isD, isnotD, D.isN, negD, tvB, tvNot, tvAnd, tvOr, evT, evAnd, evOr, evNot, evIf, evChain, eCall, aCons, aNil, peeks, dats, lenD, intD, listD, tupleD, eTup, eLst, eSl, oNone, oSome, slD, revD, eLr1, eLr2, iSeq, iR1_eq, iR1f, iR2_eq, iR2f, iR3_eq, iR3f, iEnu, iZp, tYesM, eMeth, appendD, extendD, popD, reverseD, dropS, eFn, toArgs, backE, aft, finF, backs, eIsi, stp, lim, sTry, outGone, sRaise0, sRaise1, eIsx, eFldX, inD, notinD, sDelS, cutF, gCutD, evChain, O.toD, O.toD.go, eIxC, eTupO, tpO, aLast, eMov, O.get, O.set, ixF_ixS, tR, bhd2, c]
  | [x] =>
    have c : (u.length : Int) + 1 < (u.length : Int) + 2 := by omega
    simp [m_take_away, sSeq, sSet, sOwn, sAli, sAsg, sRet, sRetN, sIf, sPass, sExpr, sFor, sPar, sPar3, sParO, sParO3, eFnX, lendM, lends, lendD, lendR, atomD, keepO, slotOf, sOwn2, eFrz, tvT, truD, sortedD, insertD, eOp2, eOp1, eName, eD, ixD, setS_nw, setS_own, nwAt, noOwn_nw, peek_pl, gSb, gNm, gTp, gTq, gCs, gNl, getP, putP, addD, subD, mulD, modD, fdivD, powD, ltD, leD, gtD, geD, isD, isnotD, D.isN, negD, tvB, tvNot, tvAnd, tvOr, evT, evAnd, evOr, evNot, evIf, evChain, eCall, aCons, aNil, peeks, dats, lenD, intD, listD, tupleD, eTup, eLst, eSl, oNone, oSome, slD, revD, eLr1, eLr2, iSeq, iR1_eq, iR1f, iR2_eq, iR2f, iR3_eq, iR3f, iEnu, iZp, tYesM, eMeth, appendD, extendD, popD, reverseD, dropS, eFn, toArgs, backE, aft, finF, backs, eIsi, stp, lim, sTry, outGone, sRaise0, sRaise1, eIsx, eFldX, inD, notinD, sDelS, cutF, gCutD, evChain, O.toD, O.toD.go, eIxC, eTupO, tpO, aLast, eMov, O.get, O.set, ixF_ixS, tR, bhd2, c]
  | x :: y :: r =>
    have c : ¬ (u.length : Int) + ((r.length : Int) + 1 + 1) < (u.length : Int) + 2 := by omega
    have c2 : (u.length : Int) + 2 ≤ (u.length : Int) + ((r.length : Int) + 1 + 1) := by omega
    have c3 : ((u.length : Int) + 2).toNat = u.length + 2 := by omega
    have c4 : (u.length : Int) ≤ (u.length : Int) + 2 := by omega
    by_cases a : x + y = 0
    · simp [m_take_away, sSeq, sSet, sOwn, sAli, sAsg, sRet, sRetN, sIf, sPass, sExpr, sFor, sPar, sPar3, sParO, sParO3, eFnX, lendM, lends, lendD, lendR, atomD, keepO, slotOf, sOwn2, eFrz, tvT, truD, sortedD, insertD, eOp2, eOp1, eName, eD, ixD, setS_nw, setS_own, nwAt, noOwn_nw, peek_pl, gSb, gNm, gTp, gTq, gCs, gNl, getP, putP, addD, subD, mulD, modD, fdivD, powD, ltD, leD, gtD, geD, isD, isnotD, D.isN, negD, tvB, tvNot, tvAnd, tvOr, evT, evAnd, evOr, evNot, evIf, evChain, eCall, aCons, aNil, peeks, dats, lenD, intD, listD, tupleD, eTup, eLst, eSl, oNone, oSome, slD, revD, eLr1, eLr2, iSeq, iR1_eq, iR1f, iR2_eq, iR2f, iR3_eq, iR3f, iEnu, iZp, tYesM, eMeth, appendD, extendD, popD, reverseD, dropS, eFn, toArgs, backE, aft, finF, backs, eIsi, stp, lim, sTry, outGone, sRaise0, sRaise1, eIsx, eFldX, inD, notinD, sDelS, cutF, gCutD, evChain, O.toD, O.toD.go, eIxC, eTupO, tpO, aLast, eMov, O.get, O.set, ixF_ixS, tR, bhd2, c, c2, c3, c4, at0, at1, a]
    · simp [m_take_away, sSeq, sSet, sOwn, sAli, sAsg, sRet, sRetN, sIf, sPass, sExpr, sFor, sPar, sPar3, sParO, sParO3, eFnX, lendM, lends, lendD, lendR, atomD, keepO, slotOf, sOwn2, eFrz, tvT, truD, sortedD, insertD, eOp2, eOp1, eName, eD, ixD, setS_nw, setS_own, nwAt, noOwn_nw, peek_pl, gSb, gNm, gTp, gTq, gCs, gNl, getP, putP, addD, subD, mulD, modD, fdivD, powD, ltD, leD, gtD, geD, isD, isnotD, D.isN, negD, tvB, tvNot, tvAnd, tvOr, evT, evAnd, evOr, evNot, evIf, evChain, eCall, aCons, aNil, peeks, dats, lenD, intD, listD, tupleD, eTup, eLst, eSl, oNone, oSome, slD, revD, eLr1, eLr2, iSeq, iR1_eq, iR1f, iR2_eq, iR2f, iR3_eq, iR3f, iEnu, iZp, tYesM, eMeth, appendD, extendD, popD, reverseD, dropS, eFn, toArgs, backE, aft, finF, backs, eIsi, stp, lim, sTry, outGone, sRaise0, sRaise1, eIsx, eFldX, inD, notinD, sDelS, cutF, gCutD, evChain, O.toD, O.toD.go, eIxC, eTupO, tpO, aLast, eMov, O.get, O.set, ixF_ixS, tR, bhd2, c, at0, at1, a]
theorem far_ok {u v : List Int} : f_exchange_far [.own (.lst (mi (u ++ v))), .dat (.int u.length)] = tR (u ++ v) (bhd2 "far" u v) := by
  unfold f_exchange_far
  rw [runF_eq (by rfl) (by rfl)]
  match v with
  | [] =>
    have c : (u.length : Int) < (u.length : Int) + 2 := by omega
    simp [m_exchange_far, sSeq, sSet, sOwn, sAli, sAsg, sRet, sRetN, sIf, sPass, sExpr, sFor, sPar, sPar3, sParO, sParO3, eFnX, lendM, lends, lendD, lendR, atomD, keepO, slotOf, sOwn2, eFrz, tvT, truD, sortedD, insertD, eOp2, eOp1, eName, eD, ixD, setS_nw, setS_own, nwAt, noOwn_nw, peek_pl, gSb, gNm, gTp, gTq, gCs, gNl, getP, putP, addD, subD, mulD, modD, fdivD, powD, ltD, leD, gtD, geD, isD, isnotD, D.isN, negD, tvB, tvNot, tvAnd, tvOr, evT, evAnd, evOr, evNot, evIf, evChain, eCall, aCons, aNil, peeks, dats, lenD, intD, listD, tupleD, eTup, eLst, eSl, oNone, oSome, slD, revD, eLr1, eLr2, iSeq, iR1_eq, iR1f, iR2_eq, iR2f, iR3_eq, iR3f, iEnu, iZp, tYesM, eMeth, appendD, extendD, popD, reverseD, dropS, eFn, toArgs, backE, aft, finF, backs, eIsi, stp, lim, sTry, outGone, sRaise0, sRaise1, eIsx, eFldX, inD, notinD, sDelS, cutF, gCutD, evChain, O.toD, O.toD.go, eIxC, eTupO, tpO, aLast, eMov, O.get, O.set, ixF_ixS, tR, bhd2, c]
  | [x] =>
    have c : (u.length : Int) + 1 < (u.length : Int) + 2 := by omega
    simp [m_exchange_far, sSeq, sSet, sOwn, sAli, sAsg, sRet, sRetN, sIf, sPass, sExpr, sFor, sPar, sPar3, sParO, sParO3, eFnX, lendM, lends, lendD, lendR, atomD, keepO, slotOf, sOwn2, eFrz, tvT, truD, sortedD, insertD, eOp2, eOp1, eName, eD, ixD, setS_nw, setS_own, nwAt, noOwn_nw, peek_pl, gSb, gNm, gTp, gTq, gCs, gNl, getP, putP, addD, subD, mulD, modD, fdivD, powD, ltD, leD, gtD, geD, isD, isnotD, D.isN, negD, tvB, tvNot, tvAnd, tvOr, evT, evAnd, evOr, evNot, evIf, evChain, eCall, aCons, aNil, peeks, dats, lenD, intD, listD, tupleD, eTup, eLst, eSl, oNone, oSome, slD, revD, eLr1, eLr2, iSeq, iR1_eq, iR1f, iR2_eq, iR2f, iR3_eq, iR3f, iEnu, iZp, tYesM, eMeth, appendD, extendD, popD, reverseD, dropS, eFn, toArgs, backE, aft, finF, backs, eIsi, stp, lim, sTry, outGone, sRaise0, sRaise1, eIsx, eFldX, inD, notinD, sDelS, cutF, gCutD, evChain, O.toD, O.toD.go, eIxC, eTupO, tpO, aLast, eMov, O.get, O.set, ixF_ixS, tR, bhd2, c]
  | x :: y :: r =>
    have c : ¬ (u.length : Int) + ((r.length : Int) + 1 + 1) < (u.length : Int) + 2 := by omega
    have i0 := ix0 (k := u.length) (n := u.length + (r.length + 1 + 1)) (by omega)
    have i1 := ix1 (k := u.length) (n := u.length + (r.length + 1 + 1)) (by omega)
    by_cases a : 1 < (((x.natAbs : Int) - y.natAbs).natAbs : Int)
    · have a2 : ¬ (((x.natAbs : Int) - y.natAbs).natAbs : Int) < 2 := by omega
      simp [m_exchange_far, sSeq, sSet, sOwn, sAli, sAsg, sRet, sRetN, sIf, sPass, sExpr, sFor, sPar, sPar3, sParO, sParO3, eFnX, lendM, lends, lendD, lendR, atomD, keepO, slotOf, sOwn2, eFrz, tvT, truD, sortedD, insertD, eOp2, eOp1, eName, eD, ixD, setS_nw, setS_own, nwAt, noOwn_nw, peek_pl, gSb, gNm, gTp, gTq, gCs, gNl, getP, putP, addD, subD, mulD, modD, fdivD, powD, ltD, leD, gtD, geD, isD, isnotD, D.isN, negD, tvB, tvNot, tvAnd, tvOr, evT, evAnd, evOr, evNot, evIf, evChain, eCall, aCons, aNil, peeks, dats, lenD, intD, listD, tupleD, eTup, eLst, eSl, oNone, oSome, slD, revD, eLr1, eLr2, iSeq, iR1_eq, iR1f, iR2_eq, iR2f, iR3_eq, iR3f, iEnu, iZp, tYesM, eMeth, appendD, extendD, popD, reverseD, dropS, eFn, toArgs, backE, aft, finF, backs, eIsi, stp, lim, sTry, outGone, sRaise0, sRaise1, eIsx, eFldX, inD, notinD, sDelS, cutF, gCutD, evChain, O.toD, O.toD.go, eIxC, eTupO, tpO, aLast, eMov, O.get, O.set, ixF_ixS, tR, bhd2, c, at0, at1, a, a2, i0, i1, set0, set1]
    · have a2 : (((x.natAbs : Int) - y.natAbs).natAbs : Int) < 2 := by omega
      simp [m_exchange_far, sSeq, sSet, sOwn, sAli, sAsg, sRet, sRetN, sIf, sPass, sExpr, sFor, sPar, sPar3, sParO, sParO3, eFnX, lendM, lends, lendD, lendR, atomD, keepO, slotOf, sOwn2, eFrz, tvT, truD, sortedD, insertD, eOp2, eOp1, eName, eD, ixD, setS_nw, setS_own, nwAt, noOwn_nw, peek_pl, gSb, gNm, gTp, gTq, gCs, gNl, getP, putP, addD, subD, mulD, modD, fdivD, powD, ltD, leD, gtD, geD, isD, isnotD, D.isN, negD, tvB, tvNot, tvAnd, tvOr, evT, evAnd, evOr, evNot, evIf, evChain, eCall, aCons, aNil, peeks, dats, lenD, intD, listD, tupleD, eTup, eLst, eSl, oNone, oSome, slD, revD, eLr1, eLr2, iSeq, iR1_eq, iR1f, iR2_eq, iR2f, iR3_eq, iR3f, iEnu, iZp, tYesM, eMeth, appendD, extendD, popD, reverseD, dropS, eFn, toArgs, backE, aft, finF, backs, eIsi, stp, lim, sTry, outGone, sRaise0, sRaise1, eIsx, eFldX, inD, notinD, sDelS, cutF, gCutD, evChain, O.toD, O.toD.go, eIxC, eTupO, tpO, aLast, eMov, O.get, O.set, ixF_ixS, tR, bhd2, c, at0, at1, a, a2]
theorem near_ok {u v : List Int} : f_turn_near [.own (.lst (mi (u ++ v))), .dat (.int u.length)] = tR (u ++ v) (bhd2 "near" u v) := by
  unfold f_turn_near
  rw [runF_eq (by rfl) (by rfl)]
  match v with
  | [] =>
    have c : (u.length : Int) < (u.length : Int) + 3 := by omega
    simp [m_turn_near, sSeq, sSet, sOwn, sAli, sAsg, sRet, sRetN, sIf, sPass, sExpr, sFor, sPar, sPar3, sParO, sParO3, eFnX, lendM, lends, lendD, lendR, atomD, keepO, slotOf, sOwn2, eFrz, tvT, truD, sortedD, insertD, eOp2, eOp1, eName, eD, ixD, setS_nw, setS_own, nwAt, noOwn_nw, peek_pl, gSb, gNm, gTp, gTq, gCs, gNl, getP, putP, addD, subD, mulD, modD, fdivD, powD, ltD, leD, gtD, geD, isD, isnotD, D.isN, negD, tvB, tvNot, tvAnd, tvOr, evT, evAnd, evOr, evNot, evIf, evChain, eCall, aCons, aNil, peeks, dats, lenD, intD, listD, tupleD, eTup, eLst, eSl, oNone, oSome, slD, revD, eLr1, eLr2, iSeq, iR1_eq, iR1f, iR2_eq, iR2f, iR3_eq, iR3f, iEnu, iZp, tYesM, eMeth, appendD, extendD, popD, reverseD, dropS, eFn, toArgs, backE, aft, finF, backs, eIsi, stp, lim, sTry, outGone, sRaise0, sRaise1, eIsx, eFldX, inD, notinD, sDelS, cutF, gCutD, evChain, O.toD, O.toD.go, eIxC, eTupO, tpO, aLast, eMov, O.get, O.set, ixF_ixS, tR, bhd2, c]
  | [x] =>
    have c : (u.length : Int) + 1 < (u.length : Int) + 3 := by omega
    simp [m_turn_near, sSeq, sSet, sOwn, sAli, sAsg, sRet, sRetN, sIf, sPass, sExpr, sFor, sPar, sPar3, sParO, sParO3, eFnX, lendM, lends, lendD, lendR, atomD, keepO, slotOf, sOwn2, eFrz, tvT, truD, sortedD, insertD, eOp2, eOp1, eName, eD, ixD, setS_nw, setS_own, nwAt, noOwn_nw, peek_pl, gSb, gNm, gTp, gTq, gCs, gNl, getP, putP, addD, subD, mulD, modD, fdivD, powD, ltD, leD, gtD, geD, isD, isnotD, D.isN, negD, tvB, tvNot, tvAnd, tvOr, evT, evAnd, evOr, evNot, evIf, evChain, eCall, aCons, aNil, peeks, dats, lenD, intD, listD, tupleD, eTup, eLst, eSl, oNone, oSome, slD, revD, eLr1, eLr2, iSeq, iR1_eq, iR1f, iR2_eq, iR2f, iR3_eq, iR3f, iEnu, iZp, tYesM, eMeth, appendD, extendD, popD, reverseD, dropS, eFn, toArgs, backE, aft, finF, backs, eIsi, stp, lim, sTry, outGone, sRaise0, sRaise1, eIsx, eFldX, inD, notinD, sDelS, cutF, gCutD, evChain, O.toD, O.toD.go, eIxC, eTupO, tpO, aLast, eMov, O.get, O.set, ixF_ixS, tR, bhd2, c]
  | [x, y] =>
    have c : (u.length : Int) + 2 < (u.length : Int) + 3 := by omega
    simp [m_turn_near, sSeq, sSet, sOwn, sAli, sAsg, sRet, sRetN, sIf, sPass, sExpr, sFor, sPar, sPar3, sParO, sParO3, eFnX, lendM, lends, lendD, lendR, atomD, keepO, slotOf, sOwn2, eFrz, tvT, truD, sortedD, insertD, eOp2, eOp1, eName, eD, ixD, setS_nw, setS_own, nwAt, noOwn_nw, peek_pl, gSb, gNm, gTp, gTq, gCs, gNl, getP, putP, addD, subD, mulD, modD, fdivD, powD, ltD, leD, gtD, geD, isD, isnotD, D.isN, negD, tvB, tvNot, tvAnd, tvOr, evT, evAnd, evOr, evNot, evIf, evChain, eCall, aCons, aNil, peeks, dats, lenD, intD, listD, tupleD, eTup, eLst, eSl, oNone, oSome, slD, revD, eLr1, eLr2, iSeq, iR1_eq, iR1f, iR2_eq, iR2f, iR3_eq, iR3f, iEnu, iZp, tYesM, eMeth, appendD, extendD, popD, reverseD, dropS, eFn, toArgs, backE, aft, finF, backs, eIsi, stp, lim, sTry, outGone, sRaise0, sRaise1, eIsx, eFldX, inD, notinD, sDelS, cutF, gCutD, evChain, O.toD, O.toD.go, eIxC, eTupO, tpO, aLast, eMov, O.get, O.set, ixF_ixS, tR, bhd2, c]
  | x :: y :: z :: r =>
    have c : ¬ (u.length : Int) + ((r.length : Int) + 1 + 1 + 1) < (u.length : Int) + 3 := by omega
    have i0 := ix0 (k := u.length) (n := u.length + (r.length + 1 + 1 + 1)) (by omega)
    have i1 := ix1 (k := u.length) (n := u.length + (r.length + 1 + 1 + 1)) (by omega)
    have i2 := ix2 (k := u.length) (n := u.length + (r.length + 1 + 1 + 1)) (by omega)
    by_cases a : z = x
    · subst a
      by_cases b : ((z - y).natAbs : Int) = 1
      · simp [m_turn_near, sSeq, sSet, sOwn, sAli, sAsg, sRet, sRetN, sIf, sPass, sExpr, sFor, sPar, sPar3, sParO, sParO3, eFnX, lendM, lends, lendD, lendR, atomD, keepO, slotOf, sOwn2, eFrz, tvT, truD, sortedD, insertD, eOp2, eOp1, eName, eD, ixD, setS_nw, setS_own, nwAt, noOwn_nw, peek_pl, gSb, gNm, gTp, gTq, gCs, gNl, getP, putP, addD, subD, mulD, modD, fdivD, powD, ltD, leD, gtD, geD, isD, isnotD, D.isN, negD, tvB, tvNot, tvAnd, tvOr, evT, evAnd, evOr, evNot, evIf, evChain, eCall, aCons, aNil, peeks, dats, lenD, intD, listD, tupleD, eTup, eLst, eSl, oNone, oSome, slD, revD, eLr1, eLr2, iSeq, iR1_eq, iR1f, iR2_eq, iR2f, iR3_eq, iR3f, iEnu, iZp, tYesM, eMeth, appendD, extendD, popD, reverseD, dropS, eFn, toArgs, backE, aft, finF, backs, eIsi, stp, lim, sTry, outGone, sRaise0, sRaise1, eIsx, eFldX, inD, notinD, sDelS, cutF, gCutD, evChain, O.toD, O.toD.go, eIxC, eTupO, tpO, aLast, eMov, O.get, O.set, ixF_ixS, tR, bhd2, c, at0, at1, at2, b, i0, i1, i2, set0, set1, set2]
      · simp [m_turn_near, sSeq, sSet, sOwn, sAli, sAsg, sRet, sRetN, sIf, sPass, sExpr, sFor, sPar, sPar3, sParO, sParO3, eFnX, lendM, lends, lendD, lendR, atomD, keepO, slotOf, sOwn2, eFrz, tvT, truD, sortedD, insertD, eOp2, eOp1, eName, eD, ixD, setS_nw, setS_own, nwAt, noOwn_nw, peek_pl, gSb, gNm, gTp, gTq, gCs, gNl, getP, putP, addD, subD, mulD, modD, fdivD, powD, ltD, leD, gtD, geD, isD, isnotD, D.isN, negD, tvB, tvNot, tvAnd, tvOr, evT, evAnd, evOr, evNot, evIf, evChain, eCall, aCons, aNil, peeks, dats, lenD, intD, listD, tupleD, eTup, eLst, eSl, oNone, oSome, slD, revD, eLr1, eLr2, iSeq, iR1_eq, iR1f, iR2_eq, iR2f, iR3_eq, iR3f, iEnu, iZp, tYesM, eMeth, appendD, extendD, popD, reverseD, dropS, eFn, toArgs, backE, aft, finF, backs, eIsi, stp, lim, sTry, outGone, sRaise0, sRaise1, eIsx, eFldX, inD, notinD, sDelS, cutF, gCutD, evChain, O.toD, O.toD.go, eIxC, eTupO, tpO, aLast, eMov, O.get, O.set, ixF_ixS, tR, bhd2, c, at0, at1, at2, b]
    · have a' : ¬ x = z := fun e => a e.symm
      simp [m_turn_near, sSeq, sSet, sOwn, sAli, sAsg, sRet, sRetN, sIf, sPass, sExpr, sFor, sPar, sPar3, sParO, sParO3, eFnX, lendM, lends, lendD, lendR, atomD, keepO, slotOf, sOwn2, eFrz, tvT, truD, sortedD, insertD, eOp2, eOp1, eName, eD, ixD, setS_nw, setS_own, nwAt, noOwn_nw, peek_pl, gSb, gNm, gTp, gTq, gCs, gNl, getP, putP, addD, subD, mulD, modD, fdivD, powD, ltD, leD, gtD, geD, isD, isnotD, D.isN, negD, tvB, tvNot, tvAnd, tvOr, evT, evAnd, evOr, evNot, evIf, evChain, eCall, aCons, aNil, peeks, dats, lenD, intD, listD, tupleD, eTup, eLst, eSl, oNone, oSome, slD, revD, eLr1, eLr2, iSeq, iR1_eq, iR1f, iR2_eq, iR2f, iR3_eq, iR3f, iEnu, iZp, tYesM, eMeth, appendD, extendD, popD, reverseD, dropS, eFn, toArgs, backE, aft, finF, backs, eIsi, stp, lim, sTry, outGone, sRaise0, sRaise1, eIsx, eFldX, inD, notinD, sDelS, cutF, gCutD, evChain, O.toD, O.toD.go, eIxC, eTupO, tpO, aLast, eMov, O.get, O.set, ixF_ixS, tR, bhd2, c, at0, at1, at2, a, a']
theorem letter_is {n : Int} {d : D} (h : ∀ ns, d ≠ .scr ns) : f_is_letter [.dat (.int n), .dat d] = .ok (.dat (.bl (isL n d))) [] := by
  have hn := number_ok h
  unfold f_is_letter
  rw [runF_eq (by rfl) (by rfl)]
  cases d with
  | scr ns => exact (h ns rfl).elim
  | int i =>
    by_cases c : 1 ≤ (i.natAbs : Int)
    · have c0 : i ≠ 0 := by omega
      simp [m_is_letter, sSeq, sSet, sOwn, sAli, sAsg, sRet, sRetN, sIf, sPass, sExpr, sFor, sPar, sPar3, sParO, sParO3, eFnX, lendM, lends, lendD, lendR, atomD, keepO, slotOf, sOwn2, eFrz, tvT, truD, sortedD, insertD, eOp2, eOp1, eName, eD, ixD, setS_nw, setS_own, nwAt, noOwn_nw, peek_pl, gSb, gNm, gTp, gTq, gCs, gNl, getP, putP, addD, subD, mulD, modD, fdivD, powD, ltD, leD, gtD, geD, isD, isnotD, D.isN, negD, tvB, tvNot, tvAnd, tvOr, evT, evAnd, evOr, evNot, evIf, evChain, eCall, aCons, aNil, peeks, dats, lenD, intD, listD, tupleD, eTup, eLst, eSl, oNone, oSome, slD, revD, eLr1, eLr2, iSeq, iR1_eq, iR1f, iR2_eq, iR2f, iR3_eq, iR3f, iEnu, iZp, tYesM, eMeth, appendD, extendD, popD, reverseD, dropS, eFn, toArgs, backE, aft, finF, backs, eIsi, stp, lim, sTry, outGone, sRaise0, sRaise1, eIsx, eFldX, inD, notinD, sDelS, cutF, gCutD, evChain, O.toD, O.toD.go, eIxC, eTupO, tpO, aLast, eMov, O.get, O.set, ixF_ixS, hn, isL, c, c0]
    · have c0 : i = 0 := by omega
      subst c0
      simp [m_is_letter, sSeq, sSet, sOwn, sAli, sAsg, sRet, sRetN, sIf, sPass, sExpr, sFor, sPar, sPar3, sParO, sParO3, eFnX, lendM, lends, lendD, lendR, atomD, keepO, slotOf, sOwn2, eFrz, tvT, truD, sortedD, insertD, eOp2, eOp1, eName, eD, ixD, setS_nw, setS_own, nwAt, noOwn_nw, peek_pl, gSb, gNm, gTp, gTq, gCs, gNl, getP, putP, addD, subD, mulD, modD, fdivD, powD, ltD, leD, gtD, geD, isD, isnotD, D.isN, negD, tvB, tvNot, tvAnd, tvOr, evT, evAnd, evOr, evNot, evIf, evChain, eCall, aCons, aNil, peeks, dats, lenD, intD, listD, tupleD, eTup, eLst, eSl, oNone, oSome, slD, revD, eLr1, eLr2, iSeq, iR1_eq, iR1f, iR2_eq, iR2f, iR3_eq, iR3f, iEnu, iZp, tYesM, eMeth, appendD, extendD, popD, reverseD, dropS, eFn, toArgs, backE, aft, finF, backs, eIsi, stp, lim, sTry, outGone, sRaise0, sRaise1, eIsx, eFldX, inD, notinD, sDelS, cutF, gCutD, evChain, O.toD, O.toD.go, eIxC, eTupO, tpO, aLast, eMov, O.get, O.set, ixF_ixS, hn, isL]
  | _ => simp [m_is_letter, sSeq, sSet, sOwn, sAli, sAsg, sRet, sRetN, sIf, sPass, sExpr, sFor, sPar, sPar3, sParO, sParO3, eFnX, lendM, lends, lendD, lendR, atomD, keepO, slotOf, sOwn2, eFrz, tvT, truD, sortedD, insertD, eOp2, eOp1, eName, eD, ixD, setS_nw, setS_own, nwAt, noOwn_nw, peek_pl, gSb, gNm, gTp, gTq, gCs, gNl, getP, putP, addD, subD, mulD, modD, fdivD, powD, ltD, leD, gtD, geD, isD, isnotD, D.isN, negD, tvB, tvNot, tvAnd, tvOr, evT, evAnd, evOr, evNot, evIf, evChain, eCall, aCons, aNil, peeks, dats, lenD, intD, listD, tupleD, eTup, eLst, eSl, oNone, oSome, slD, revD, eLr1, eLr2, iSeq, iR1_eq, iR1f, iR2_eq, iR2f, iR3_eq, iR3f, iEnu, iZp, tYesM, eMeth, appendD, extendD, popD, reverseD, dropS, eFn, toArgs, backE, aft, finF, backs, eIsi, stp, lim, sTry, outGone, sRaise0, sRaise1, eIsx, eFldX, inD, notinD, sDelS, cutF, gCutD, evChain, O.toD, O.toD.go, eIxC, eTupO, tpO, aLast, eMov, O.get, O.set, ixF_ixS, hn, isL]
theorem put_ok {n : Int} {u v : List Int} {d : D} (hl : u.length + v.length ≤ 15000000) (h : ∀ ns, d ≠ .scr ns) : f_put_in [.dat (.int n), .own (.lst (mi (u ++ v))), .dat (.int u.length), .dat d] = tR (u ++ v) (match d with
    | .int l => if l ≠ 0 ∧ (l.natAbs : Int) < n then some (u ++ l :: -l :: v) else none
    | _ => none) := by
  have hn := letter_is (n := n) h
  unfold f_put_in
  rw [runF_eq (by rfl) (by rfl)]
  have c : ¬ (u.length : Int) + v.length < u.length := by omega
  have c2 : (u.length : Int) ≤ (u.length : Int) + v.length := by omega
  have c3 : u.length + v.length + 2 ≤ 16777216 := by omega
  cases d with
  | scr ns => exact (h ns rfl).elim
  | int l =>
    by_cases a : l ≠ 0 ∧ (l.natAbs : Int) < n
    · simp [m_put_in, sSeq, sSet, sOwn, sAli, sAsg, sRet, sRetN, sIf, sPass, sExpr, sFor, sPar, sPar3, sParO, sParO3, eFnX, lendM, lends, lendD, lendR, atomD, keepO, slotOf, sOwn2, eFrz, tvT, truD, sortedD, insertD, eOp2, eOp1, eName, eD, ixD, setS_nw, setS_own, nwAt, noOwn_nw, peek_pl, gSb, gNm, gTp, gTq, gCs, gNl, getP, putP, addD, subD, mulD, modD, fdivD, powD, ltD, leD, gtD, geD, isD, isnotD, D.isN, negD, tvB, tvNot, tvAnd, tvOr, evT, evAnd, evOr, evNot, evIf, evChain, eCall, aCons, aNil, peeks, dats, lenD, intD, listD, tupleD, eTup, eLst, eSl, oNone, oSome, slD, revD, eLr1, eLr2, iSeq, iR1_eq, iR1f, iR2_eq, iR2f, iR3_eq, iR3f, iEnu, iZp, tYesM, eMeth, appendD, extendD, popD, reverseD, dropS, eFn, toArgs, backE, aft, finF, backs, eIsi, stp, lim, sTry, outGone, sRaise0, sRaise1, eIsx, eFldX, inD, notinD, sDelS, cutF, gCutD, evChain, O.toD, O.toD.go, eIxC, eTupO, tpO, aLast, eMov, O.get, O.set, ixF_ixS, hn, isL, c, c2, c3, a, tR]
    · simp [m_put_in, sSeq, sSet, sOwn, sAli, sAsg, sRet, sRetN, sIf, sPass, sExpr, sFor, sPar, sPar3, sParO, sParO3, eFnX, lendM, lends, lendD, lendR, atomD, keepO, slotOf, sOwn2, eFrz, tvT, truD, sortedD, insertD, eOp2, eOp1, eName, eD, ixD, setS_nw, setS_own, nwAt, noOwn_nw, peek_pl, gSb, gNm, gTp, gTq, gCs, gNl, getP, putP, addD, subD, mulD, modD, fdivD, powD, ltD, leD, gtD, geD, isD, isnotD, D.isN, negD, tvB, tvNot, tvAnd, tvOr, evT, evAnd, evOr, evNot, evIf, evChain, eCall, aCons, aNil, peeks, dats, lenD, intD, listD, tupleD, eTup, eLst, eSl, oNone, oSome, slD, revD, eLr1, eLr2, iSeq, iR1_eq, iR1f, iR2_eq, iR2f, iR3_eq, iR3f, iEnu, iZp, tYesM, eMeth, appendD, extendD, popD, reverseD, dropS, eFn, toArgs, backE, aft, finF, backs, eIsi, stp, lim, sTry, outGone, sRaise0, sRaise1, eIsx, eFldX, inD, notinD, sDelS, cutF, gCutD, evChain, O.toD, O.toD.go, eIxC, eTupO, tpO, aLast, eMov, O.get, O.set, ixF_ixS, hn, isL, c, a, tR]
  | _ => simp [m_put_in, sSeq, sSet, sOwn, sAli, sAsg, sRet, sRetN, sIf, sPass, sExpr, sFor, sPar, sPar3, sParO, sParO3, eFnX, lendM, lends, lendD, lendR, atomD, keepO, slotOf, sOwn2, eFrz, tvT, truD, sortedD, insertD, eOp2, eOp1, eName, eD, ixD, setS_nw, setS_own, nwAt, noOwn_nw, peek_pl, gSb, gNm, gTp, gTq, gCs, gNl, getP, putP, addD, subD, mulD, modD, fdivD, powD, ltD, leD, gtD, geD, isD, isnotD, D.isN, negD, tvB, tvNot, tvAnd, tvOr, evT, evAnd, evOr, evNot, evIf, evChain, eCall, aCons, aNil, peeks, dats, lenD, intD, listD, tupleD, eTup, eLst, eSl, oNone, oSome, slD, revD, eLr1, eLr2, iSeq, iR1_eq, iR1f, iR2_eq, iR2f, iR3_eq, iR3f, iEnu, iZp, tYesM, eMeth, appendD, extendD, popD, reverseD, dropS, eFn, toArgs, backE, aft, finF, backs, eIsi, stp, lim, sTry, outGone, sRaise0, sRaise1, eIsx, eFldX, inD, notinD, sDelS, cutF, gCutD, evChain, O.toD, O.toD.go, eIxC, eTupO, tpO, aLast, eMov, O.get, O.set, ixF_ixS, hn, isL, c, tR]

theorem ok_take : eqOk (.str "take") = true := eqOk_str _ (by decide +kernel)
theorem ok_far : eqOk (.str "far") = true := eqOk_str _ (by decide +kernel)
theorem ok_near : eqOk (.str "near") = true := eqOk_str _ (by decide +kernel)
theorem ok_put : eqOk (.str "put") = true := eqOk_str _ (by decide +kernel)
theorem ok_turn : eqOk (.str "turn") = true := eqOk_str _ (by decide +kernel)
theorem ok_grow : eqOk (.str "grow") = true := eqOk_str _ (by decide +kernel)
theorem ok_shrink : eqOk (.str "shrink") = true := eqOk_str _ (by decide +kernel)
theorem take_gt {w : List Int} {p : Int} (h : (w.length : Int) < p) : f_take_away [.own (.lst (mi w)), .dat (.int p)] = tR w none := by
  have c : (w.length : Int) < p + 2 := by omega
  unfold f_take_away
  rw [runF_eq (by rfl) (by rfl)]
  simp [m_take_away, sSeq, sSet, sOwn, sAli, sAsg, sRet, sRetN, sIf, sPass, sExpr, sFor, sPar, sPar3, sParO, sParO3, eFnX, lendM, lends, lendD, lendR, atomD, keepO, slotOf, sOwn2, eFrz, tvT, truD, sortedD, insertD, eOp2, eOp1, eName, eD, ixD, setS_nw, setS_own, nwAt, noOwn_nw, peek_pl, gSb, gNm, gTp, gTq, gCs, gNl, getP, putP, addD, subD, mulD, modD, fdivD, powD, ltD, leD, gtD, geD, isD, isnotD, D.isN, negD, tvB, tvNot, tvAnd, tvOr, evT, evAnd, evOr, evNot, evIf, evChain, eCall, aCons, aNil, peeks, dats, lenD, intD, listD, tupleD, eTup, eLst, eSl, oNone, oSome, slD, revD, eLr1, eLr2, iSeq, iR1_eq, iR1f, iR2_eq, iR2f, iR3_eq, iR3f, iEnu, iZp, tYesM, eMeth, appendD, extendD, popD, reverseD, dropS, eFn, toArgs, backE, aft, finF, backs, eIsi, stp, lim, sTry, outGone, sRaise0, sRaise1, eIsx, eFldX, inD, notinD, sDelS, cutF, gCutD, evChain, O.toD, O.toD.go, eIxC, eTupO, tpO, aLast, eMov, O.get, O.set, ixF_ixS, tR, c]
theorem far_gt {w : List Int} {p : Int} (h : (w.length : Int) < p) : f_exchange_far [.own (.lst (mi w)), .dat (.int p)] = tR w none := by
  have c : (w.length : Int) < p + 2 := by omega
  unfold f_exchange_far
  rw [runF_eq (by rfl) (by rfl)]
  simp [m_exchange_far, sSeq, sSet, sOwn, sAli, sAsg, sRet, sRetN, sIf, sPass, sExpr, sFor, sPar, sPar3, sParO, sParO3, eFnX, lendM, lends, lendD, lendR, atomD, keepO, slotOf, sOwn2, eFrz, tvT, truD, sortedD, insertD, eOp2, eOp1, eName, eD, ixD, setS_nw, setS_own, nwAt, noOwn_nw, peek_pl, gSb, gNm, gTp, gTq, gCs, gNl, getP, putP, addD, subD, mulD, modD, fdivD, powD, ltD, leD, gtD, geD, isD, isnotD, D.isN, negD, tvB, tvNot, tvAnd, tvOr, evT, evAnd, evOr, evNot, evIf, evChain, eCall, aCons, aNil, peeks, dats, lenD, intD, listD, tupleD, eTup, eLst, eSl, oNone, oSome, slD, revD, eLr1, eLr2, iSeq, iR1_eq, iR1f, iR2_eq, iR2f, iR3_eq, iR3f, iEnu, iZp, tYesM, eMeth, appendD, extendD, popD, reverseD, dropS, eFn, toArgs, backE, aft, finF, backs, eIsi, stp, lim, sTry, outGone, sRaise0, sRaise1, eIsx, eFldX, inD, notinD, sDelS, cutF, gCutD, evChain, O.toD, O.toD.go, eIxC, eTupO, tpO, aLast, eMov, O.get, O.set, ixF_ixS, tR, c]
theorem near_gt {w : List Int} {p : Int} (h : (w.length : Int) < p) : f_turn_near [.own (.lst (mi w)), .dat (.int p)] = tR w none := by
  have c : (w.length : Int) < p + 3 := by omega
  unfold f_turn_near
  rw [runF_eq (by rfl) (by rfl)]
  simp [m_turn_near, sSeq, sSet, sOwn, sAli, sAsg, sRet, sRetN, sIf, sPass, sExpr, sFor, sPar, sPar3, sParO, sParO3, eFnX, lendM, lends, lendD, lendR, atomD, keepO, slotOf, sOwn2, eFrz, tvT, truD, sortedD, insertD, eOp2, eOp1, eName, eD, ixD, setS_nw, setS_own, nwAt, noOwn_nw, peek_pl, gSb, gNm, gTp, gTq, gCs, gNl, getP, putP, addD, subD, mulD, modD, fdivD, powD, ltD, leD, gtD, geD, isD, isnotD, D.isN, negD, tvB, tvNot, tvAnd, tvOr, evT, evAnd, evOr, evNot, evIf, evChain, eCall, aCons, aNil, peeks, dats, lenD, intD, listD, tupleD, eTup, eLst, eSl, oNone, oSome, slD, revD, eLr1, eLr2, iSeq, iR1_eq, iR1f, iR2_eq, iR2f, iR3_eq, iR3f, iEnu, iZp, tYesM, eMeth, appendD, extendD, popD, reverseD, dropS, eFn, toArgs, backE, aft, finF, backs, eIsi, stp, lim, sTry, outGone, sRaise0, sRaise1, eIsx, eFldX, inD, notinD, sDelS, cutF, gCutD, evChain, O.toD, O.toD.go, eIxC, eTupO, tpO, aLast, eMov, O.get, O.set, ixF_ixS, tR, c]
theorem put_gt {n : Int} {w : List Int} {p : Int} {d : D} (h : (w.length : Int) < p) : f_put_in [.dat (.int n), .own (.lst (mi w)), .dat (.int p), .dat d] = tR w none := by
  unfold f_put_in
  rw [runF_eq (by rfl) (by rfl)]
  simp [m_put_in, sSeq, sSet, sOwn, sAli, sAsg, sRet, sRetN, sIf, sPass, sExpr, sFor, sPar, sPar3, sParO, sParO3, eFnX, lendM, lends, lendD, lendR, atomD, keepO, slotOf, sOwn2, eFrz, tvT, truD, sortedD, insertD, eOp2, eOp1, eName, eD, ixD, setS_nw, setS_own, nwAt, noOwn_nw, peek_pl, gSb, gNm, gTp, gTq, gCs, gNl, getP, putP, addD, subD, mulD, modD, fdivD, powD, ltD, leD, gtD, geD, isD, isnotD, D.isN, negD, tvB, tvNot, tvAnd, tvOr, evT, evAnd, evOr, evNot, evIf, evChain, eCall, aCons, aNil, peeks, dats, lenD, intD, listD, tupleD, eTup, eLst, eSl, oNone, oSome, slD, revD, eLr1, eLr2, iSeq, iR1_eq, iR1f, iR2_eq, iR2f, iR3_eq, iR3f, iEnu, iZp, tYesM, eMeth, appendD, extendD, popD, reverseD, dropS, eFn, toArgs, backE, aft, finF, backs, eIsi, stp, lim, sTry, outGone, sRaise0, sRaise1, eIsx, eFldX, inD, notinD, sDelS, cutF, gCutD, evChain, O.toD, O.toD.go, eIxC, eTupO, tpO, aLast, eMov, O.get, O.set, ixF_ixS, tR, h]
/-- a move of two things, of three things -/
def mv2 (w : List Int) (nm : Str) (p : Int) : Option (List Int) := if p ≤ w.length then bhd2 nm (w.take p.toNat) (w.drop p.toNat) else none
theorem take2 {w : List Int} {p : Int} (h : 0 ≤ p) : f_take_away [.own (.lst (mi w)), .dat (.int p)] = tR w (mv2 w "take" p) := by
  unfold mv2
  by_cases c : p ≤ w.length
  · obtain ⟨u, v, rfl, rfl⟩ := split_at ⟨h, c⟩
    rw [if_pos c, take_ok]
    simp
  · rw [if_neg c, take_gt (by omega)]
theorem far2 {w : List Int} {p : Int} (h : 0 ≤ p) : f_exchange_far [.own (.lst (mi w)), .dat (.int p)] = tR w (mv2 w "far" p) := by
  unfold mv2
  by_cases c : p ≤ w.length
  · obtain ⟨u, v, rfl, rfl⟩ := split_at ⟨h, c⟩
    rw [if_pos c, far_ok]
    simp
  · rw [if_neg c, far_gt (by omega)]
theorem near2 {w : List Int} {p : Int} (h : 0 ≤ p) : f_turn_near [.own (.lst (mi w)), .dat (.int p)] = tR w (mv2 w "near" p) := by
  unfold mv2
  by_cases c : p ≤ w.length
  · obtain ⟨u, v, rfl, rfl⟩ := split_at ⟨h, c⟩
    rw [if_pos c, near_ok]
    simp
  · rw [if_neg c, near_gt (by omega)]
theorem bhd_two {n : Int} {w : List Int} {nm : Str} {p : Int} (h : 0 ≤ p) : bhd n w (.tup [.str nm, .int p]) = mv2 w nm p := by
  simp only [bhd, mv2, h, true_and]
theorem mv2_none {w : List Int} {nm : Str} {p : Int} (h1 : nm ≠ "take") (h2 : nm ≠ "far") (h3 : nm ≠ "near") : mv2 w nm p = none := by
  unfold mv2 bhd2
  split
  · split
    · first
      | rfl
      | (rw [if_neg h1, if_neg h2, if_neg h3])
    · rfl
  · rfl
theorem put2 {n : Int} {w : List Int} {p : Int} {d : D} (hl : w.length ≤ 15000000) (h : 0 ≤ p) (hd : ∀ ns, d ≠ .scr ns) : f_put_in [.dat (.int n), .own (.lst (mi w)), .dat (.int p), .dat d] = tR w (bhd n w (.tup [.str "put", .int p, d])) := by
  by_cases c : p ≤ w.length
  · obtain ⟨u, v, rfl, rfl⟩ := split_at ⟨h, c⟩
    rw [put_ok (by simpa using hl) hd]
    cases d with
    | int l =>
      have c2 : (u.length : Int) ≤ (u.length : Int) + v.length := by omega
      simp only [bhd]; simp [c2]
    | _ => rfl
  · rw [put_gt (by omega), bhd_no]
    rintro ⟨q, e, _, h2⟩
    cases e
    exact c h2
theorem try_ok {n : Int} {w : List Int} {k : Nat} {step : D} (hf : Fit k step) (hk : k ≤ 60) (hl : w.length ≤ 15000000) : f_try_move [.dat (.int n), .own (.lst (mi w)), .dat step] = tR w (bhd n w step) := by
  unfold f_try_move
  rw [runF_eq (by rfl) (by rfl)]
  cases step with
  | scr ns => exact (hf.notScr ns rfl).elim
  | tup xs =>
    match xs, hf with
    | [], hf => simp [m_try_move, sSeq, sSet, sOwn, sAli, sAsg, sRet, sRetN, sIf, sPass, sExpr, sFor, sPar, sPar3, sParO, sParO3, eFnX, lendM, lends, lendD, lendR, atomD, keepO, slotOf, sOwn2, eFrz, tvT, truD, sortedD, insertD, eOp2, eOp1, eName, eD, ixD, setS_nw, setS_own, nwAt, noOwn_nw, peek_pl, gSb, gNm, gTp, gTq, gCs, gNl, getP, putP, addD, subD, mulD, modD, fdivD, powD, ltD, leD, gtD, geD, isD, isnotD, D.isN, negD, tvB, tvNot, tvAnd, tvOr, evT, evAnd, evOr, evNot, evIf, evChain, eCall, aCons, aNil, peeks, dats, lenD, intD, listD, tupleD, eTup, eLst, eSl, oNone, oSome, slD, revD, eLr1, eLr2, iSeq, iR1_eq, iR1f, iR2_eq, iR2f, iR3_eq, iR3f, iEnu, iZp, tYesM, eMeth, appendD, extendD, popD, reverseD, dropS, eFn, toArgs, backE, aft, finF, backs, eIsi, stp, lim, sTry, outGone, sRaise0, sRaise1, eIsx, eFldX, inD, notinD, sDelS, cutF, gCutD, evChain, O.toD, O.toD.go, eIxC, eTupO, tpO, aLast, eMov, O.get, O.set, ixF_ixS, bhd, tR, D.fl, fls, L2.inV, L2.eqV]
    | [a], hf => simp [m_try_move, sSeq, sSet, sOwn, sAli, sAsg, sRet, sRetN, sIf, sPass, sExpr, sFor, sPar, sPar3, sParO, sParO3, eFnX, lendM, lends, lendD, lendR, atomD, keepO, slotOf, sOwn2, eFrz, tvT, truD, sortedD, insertD, eOp2, eOp1, eName, eD, ixD, setS_nw, setS_own, nwAt, noOwn_nw, peek_pl, gSb, gNm, gTp, gTq, gCs, gNl, getP, putP, addD, subD, mulD, modD, fdivD, powD, ltD, leD, gtD, geD, isD, isnotD, D.isN, negD, tvB, tvNot, tvAnd, tvOr, evT, evAnd, evOr, evNot, evIf, evChain, eCall, aCons, aNil, peeks, dats, lenD, intD, listD, tupleD, eTup, eLst, eSl, oNone, oSome, slD, revD, eLr1, eLr2, iSeq, iR1_eq, iR1f, iR2_eq, iR2f, iR3_eq, iR3f, iEnu, iZp, tYesM, eMeth, appendD, extendD, popD, reverseD, dropS, eFn, toArgs, backE, aft, finF, backs, eIsi, stp, lim, sTry, outGone, sRaise0, sRaise1, eIsx, eFldX, inD, notinD, sDelS, cutF, gCutD, evChain, O.toD, O.toD.go, eIxC, eTupO, tpO, aLast, eMov, O.get, O.set, ixF_ixS, bhd, tR, D.fl, fls, L2.inV, L2.eqV]
    | a :: b :: c :: d :: r, hf =>
      have r2 : ¬ 2 = (r.length : Int) + 1 + 1 + 1 + 1 := by omega
      have r3 : ¬ 3 = (r.length : Int) + 1 + 1 + 1 + 1 := by omega
      have e : bhd n w (.tup (a :: b :: c :: d :: r)) = none := by
        unfold bhd
        split
        · rename_i e; cases e
        · rename_i e; cases e
        · rfl
      rw [e]
      simp [m_try_move, sSeq, sSet, sOwn, sAli, sAsg, sRet, sRetN, sIf, sPass, sExpr, sFor, sPar, sPar3, sParO, sParO3, eFnX, lendM, lends, lendD, lendR, atomD, keepO, slotOf, sOwn2, eFrz, tvT, truD, sortedD, insertD, eOp2, eOp1, eName, eD, ixD, setS_nw, setS_own, nwAt, noOwn_nw, peek_pl, gSb, gNm, gTp, gTq, gCs, gNl, getP, putP, addD, subD, mulD, modD, fdivD, powD, ltD, leD, gtD, geD, isD, isnotD, D.isN, negD, tvB, tvNot, tvAnd, tvOr, evT, evAnd, evOr, evNot, evIf, evChain, eCall, aCons, aNil, peeks, dats, lenD, intD, listD, tupleD, eTup, eLst, eSl, oNone, oSome, slD, revD, eLr1, eLr2, iSeq, iR1_eq, iR1f, iR2_eq, iR2f, iR3_eq, iR3f, iEnu, iZp, tYesM, eMeth, appendD, extendD, popD, reverseD, dropS, eFn, toArgs, backE, aft, finF, backs, eIsi, stp, lim, sTry, outGone, sRaise0, sRaise1, eIsx, eFldX, inD, notinD, sDelS, cutF, gCutD, evChain, O.toD, O.toD.go, eIxC, eTupO, tpO, aLast, eMov, O.get, O.set, ixF_ixS, tR, D.fl, fls, L2.inV, L2.eqV, r2, r3]
    | [a, b], hf =>
      have fa := hf.mem (x := a) (by simp)
      have hb := number_ok (hf.mem (x := b) (by simp)).notScr
      have e1 := eqD_S fa hk ok_take
      have e2 := eqD_S fa hk ok_far
      have e3 := eqD_S fa hk ok_near
      have no : (∀ nm, a ≠ .str nm) → bhd n w (.tup [a, b]) = none := fun h => by cases a <;> first | rfl | exact (h _ rfl).elim
      cases b with
      | int p =>
        by_cases hp : p < 0
        · have e : bhd n w (.tup [a, .int p]) = none := by
            cases a with
            | str nm => exact bhd_no (by rintro ⟨q, e, h, _⟩; cases e; omega)
            | _ => rfl
          rw [e]
          simp [m_try_move, sSeq, sSet, sOwn, sAli, sAsg, sRet, sRetN, sIf, sPass, sExpr, sFor, sPar, sPar3, sParO, sParO3, eFnX, lendM, lends, lendD, lendR, atomD, keepO, slotOf, sOwn2, eFrz, tvT, truD, sortedD, insertD, eOp2, eOp1, eName, eD, ixD, setS_nw, setS_own, nwAt, noOwn_nw, peek_pl, gSb, gNm, gTp, gTq, gCs, gNl, getP, putP, addD, subD, mulD, modD, fdivD, powD, ltD, leD, gtD, geD, isD, isnotD, D.isN, negD, tvB, tvNot, tvAnd, tvOr, evT, evAnd, evOr, evNot, evIf, evChain, eCall, aCons, aNil, peeks, dats, lenD, intD, listD, tupleD, eTup, eLst, eSl, oNone, oSome, slD, revD, eLr1, eLr2, iSeq, iR1_eq, iR1f, iR2_eq, iR2f, iR3_eq, iR3f, iEnu, iZp, tYesM, eMeth, appendD, extendD, popD, reverseD, dropS, eFn, toArgs, backE, aft, finF, backs, eIsi, stp, lim, sTry, outGone, sRaise0, sRaise1, eIsx, eFldX, inD, notinD, sDelS, cutF, gCutD, evChain, O.toD, O.toD.go, eIxC, eTupO, tpO, aLast, eMov, O.get, O.set, ixF_ixS, tR, D.fl, fls, L2.inV, L2.eqV, hb, hp]
        · have hp0 : 0 ≤ p := by omega
          have t := take2 (w := w) hp0
          have f := far2 (w := w) hp0
          have m := near2 (w := w) hp0
          cases a with
          | str nm =>
            rw [bhd_two hp0]
            by_cases c1 : nm = "take"
            · subst c1
              cases hm : mv2 w "take" p <;> rw [hm] at t <;> simp [m_try_move, sSeq, sSet, sOwn, sAli, sAsg, sRet, sRetN, sIf, sPass, sExpr, sFor, sPar, sPar3, sParO, sParO3, eFnX, lendM, lends, lendD, lendR, atomD, keepO, slotOf, sOwn2, eFrz, tvT, truD, sortedD, insertD, eOp2, eOp1, eName, eD, ixD, setS_nw, setS_own, nwAt, noOwn_nw, peek_pl, gSb, gNm, gTp, gTq, gCs, gNl, getP, putP, addD, subD, mulD, modD, fdivD, powD, ltD, leD, gtD, geD, isD, isnotD, D.isN, negD, tvB, tvNot, tvAnd, tvOr, evT, evAnd, evOr, evNot, evIf, evChain, eCall, aCons, aNil, peeks, dats, lenD, intD, listD, tupleD, eTup, eLst, eSl, oNone, oSome, slD, revD, eLr1, eLr2, iSeq, iR1_eq, iR1f, iR2_eq, iR2f, iR3_eq, iR3f, iEnu, iZp, tYesM, eMeth, appendD, extendD, popD, reverseD, dropS, eFn, toArgs, backE, aft, finF, backs, eIsi, stp, lim, sTry, outGone, sRaise0, sRaise1, eIsx, eFldX, inD, notinD, sDelS, cutF, gCutD, evChain, O.toD, O.toD.go, eIxC, eTupO, tpO, aLast, eMov, O.get, O.set, ixF_ixS, tR, D.fl, fls, L2.inV, L2.eqV, hb, hp, e1, t]
            · by_cases c2 : nm = "far"
              · subst c2
                cases hm : mv2 w "far" p <;> rw [hm] at f <;> simp [m_try_move, sSeq, sSet, sOwn, sAli, sAsg, sRet, sRetN, sIf, sPass, sExpr, sFor, sPar, sPar3, sParO, sParO3, eFnX, lendM, lends, lendD, lendR, atomD, keepO, slotOf, sOwn2, eFrz, tvT, truD, sortedD, insertD, eOp2, eOp1, eName, eD, ixD, setS_nw, setS_own, nwAt, noOwn_nw, peek_pl, gSb, gNm, gTp, gTq, gCs, gNl, getP, putP, addD, subD, mulD, modD, fdivD, powD, ltD, leD, gtD, geD, isD, isnotD, D.isN, negD, tvB, tvNot, tvAnd, tvOr, evT, evAnd, evOr, evNot, evIf, evChain, eCall, aCons, aNil, peeks, dats, lenD, intD, listD, tupleD, eTup, eLst, eSl, oNone, oSome, slD, revD, eLr1, eLr2, iSeq, iR1_eq, iR1f, iR2_eq, iR2f, iR3_eq, iR3f, iEnu, iZp, tYesM, eMeth, appendD, extendD, popD, reverseD, dropS, eFn, toArgs, backE, aft, finF, backs, eIsi, stp, lim, sTry, outGone, sRaise0, sRaise1, eIsx, eFldX, inD, notinD, sDelS, cutF, gCutD, evChain, O.toD, O.toD.go, eIxC, eTupO, tpO, aLast, eMov, O.get, O.set, ixF_ixS, tR, D.fl, fls, L2.inV, L2.eqV, hb, hp, f]
              · by_cases c3 : nm = "near"
                · subst c3
                  cases hm : mv2 w "near" p <;> rw [hm] at m <;> simp [m_try_move, sSeq, sSet, sOwn, sAli, sAsg, sRet, sRetN, sIf, sPass, sExpr, sFor, sPar, sPar3, sParO, sParO3, eFnX, lendM, lends, lendD, lendR, atomD, keepO, slotOf, sOwn2, eFrz, tvT, truD, sortedD, insertD, eOp2, eOp1, eName, eD, ixD, setS_nw, setS_own, nwAt, noOwn_nw, peek_pl, gSb, gNm, gTp, gTq, gCs, gNl, getP, putP, addD, subD, mulD, modD, fdivD, powD, ltD, leD, gtD, geD, isD, isnotD, D.isN, negD, tvB, tvNot, tvAnd, tvOr, evT, evAnd, evOr, evNot, evIf, evChain, eCall, aCons, aNil, peeks, dats, lenD, intD, listD, tupleD, eTup, eLst, eSl, oNone, oSome, slD, revD, eLr1, eLr2, iSeq, iR1_eq, iR1f, iR2_eq, iR2f, iR3_eq, iR3f, iEnu, iZp, tYesM, eMeth, appendD, extendD, popD, reverseD, dropS, eFn, toArgs, backE, aft, finF, backs, eIsi, stp, lim, sTry, outGone, sRaise0, sRaise1, eIsx, eFldX, inD, notinD, sDelS, cutF, gCutD, evChain, O.toD, O.toD.go, eIxC, eTupO, tpO, aLast, eMov, O.get, O.set, ixF_ixS, tR, D.fl, fls, L2.inV, L2.eqV, hb, hp, m]
                · rw [mv2_none c1 c2 c3]
                  simp [m_try_move, sSeq, sSet, sOwn, sAli, sAsg, sRet, sRetN, sIf, sPass, sExpr, sFor, sPar, sPar3, sParO, sParO3, eFnX, lendM, lends, lendD, lendR, atomD, keepO, slotOf, sOwn2, eFrz, tvT, truD, sortedD, insertD, eOp2, eOp1, eName, eD, ixD, setS_nw, setS_own, nwAt, noOwn_nw, peek_pl, gSb, gNm, gTp, gTq, gCs, gNl, getP, putP, addD, subD, mulD, modD, fdivD, powD, ltD, leD, gtD, geD, isD, isnotD, D.isN, negD, tvB, tvNot, tvAnd, tvOr, evT, evAnd, evOr, evNot, evIf, evChain, eCall, aCons, aNil, peeks, dats, lenD, intD, listD, tupleD, eTup, eLst, eSl, oNone, oSome, slD, revD, eLr1, eLr2, iSeq, iR1_eq, iR1f, iR2_eq, iR2f, iR3_eq, iR3f, iEnu, iZp, tYesM, eMeth, appendD, extendD, popD, reverseD, dropS, eFn, toArgs, backE, aft, finF, backs, eIsi, stp, lim, sTry, outGone, sRaise0, sRaise1, eIsx, eFldX, inD, notinD, sDelS, cutF, gCutD, evChain, O.toD, O.toD.go, eIxC, eTupO, tpO, aLast, eMov, O.get, O.set, ixF_ixS, tR, D.fl, fls, L2.inV, L2.eqV, hb, hp, c1, c2, c3]
          | scr ns => exact (fa.notScr ns rfl).elim
          | _ =>
            rw [no (fun _ => by simp)]
            simp at e1 e2 e3
            simp [m_try_move, sSeq, sSet, sOwn, sAli, sAsg, sRet, sRetN, sIf, sPass, sExpr, sFor, sPar, sPar3, sParO, sParO3, eFnX, lendM, lends, lendD, lendR, atomD, keepO, slotOf, sOwn2, eFrz, tvT, truD, sortedD, insertD, eOp2, eOp1, eName, eD, ixD, setS_nw, setS_own, nwAt, noOwn_nw, peek_pl, gSb, gNm, gTp, gTq, gCs, gNl, getP, putP, addD, subD, mulD, modD, fdivD, powD, ltD, leD, gtD, geD, isD, isnotD, D.isN, negD, tvB, tvNot, tvAnd, tvOr, evT, evAnd, evOr, evNot, evIf, evChain, eCall, aCons, aNil, peeks, dats, lenD, intD, listD, tupleD, eTup, eLst, eSl, oNone, oSome, slD, revD, eLr1, eLr2, iSeq, iR1_eq, iR1f, iR2_eq, iR2f, iR3_eq, iR3f, iEnu, iZp, tYesM, eMeth, appendD, extendD, popD, reverseD, dropS, eFn, toArgs, backE, aft, finF, backs, eIsi, stp, lim, sTry, outGone, sRaise0, sRaise1, eIsx, eFldX, inD, notinD, sDelS, cutF, gCutD, evChain, O.toD, O.toD.go, eIxC, eTupO, tpO, aLast, eMov, O.get, O.set, ixF_ixS, tR, D.fl, fls, L2.inV, L2.eqV, hb, hp, e1, e2, e3]
      | scr ns => exact ((hf.mem (x := .scr ns) (by simp)).notScr ns rfl).elim
      | _ =>
        have e : ∀ x, (∀ p, x ≠ .int p) → bhd n w (.tup [a, x]) = none := fun x h => by cases a <;> cases x <;> first | rfl | exact (h _ rfl).elim
        rw [e _ (fun _ => by simp)]
        simp [m_try_move, sSeq, sSet, sOwn, sAli, sAsg, sRet, sRetN, sIf, sPass, sExpr, sFor, sPar, sPar3, sParO, sParO3, eFnX, lendM, lends, lendD, lendR, atomD, keepO, slotOf, sOwn2, eFrz, tvT, truD, sortedD, insertD, eOp2, eOp1, eName, eD, ixD, setS_nw, setS_own, nwAt, noOwn_nw, peek_pl, gSb, gNm, gTp, gTq, gCs, gNl, getP, putP, addD, subD, mulD, modD, fdivD, powD, ltD, leD, gtD, geD, isD, isnotD, D.isN, negD, tvB, tvNot, tvAnd, tvOr, evT, evAnd, evOr, evNot, evIf, evChain, eCall, aCons, aNil, peeks, dats, lenD, intD, listD, tupleD, eTup, eLst, eSl, oNone, oSome, slD, revD, eLr1, eLr2, iSeq, iR1_eq, iR1f, iR2_eq, iR2f, iR3_eq, iR3f, iEnu, iZp, tYesM, eMeth, appendD, extendD, popD, reverseD, dropS, eFn, toArgs, backE, aft, finF, backs, eIsi, stp, lim, sTry, outGone, sRaise0, sRaise1, eIsx, eFldX, inD, notinD, sDelS, cutF, gCutD, evChain, O.toD, O.toD.go, eIxC, eTupO, tpO, aLast, eMov, O.get, O.set, ixF_ixS, tR, D.fl, fls, L2.inV, L2.eqV, hb]
    | [a, b, c], hf =>
      have fa := hf.mem (x := a) (by simp)
      have hb := number_ok (hf.mem (x := b) (by simp)).notScr
      have fc := (hf.mem (x := c) (by simp)).notScr
      have e1 := eqD_S fa hk ok_put
      cases b with
      | int p =>
        by_cases hp : p < 0
        · have e : bhd n w (.tup [a, .int p, c]) = none := by
            cases a with
            | str nm => exact bhd_no (by rintro ⟨q, e, h, _⟩; cases e; omega)
            | _ => rfl
          rw [e]
          simp [m_try_move, sSeq, sSet, sOwn, sAli, sAsg, sRet, sRetN, sIf, sPass, sExpr, sFor, sPar, sPar3, sParO, sParO3, eFnX, lendM, lends, lendD, lendR, atomD, keepO, slotOf, sOwn2, eFrz, tvT, truD, sortedD, insertD, eOp2, eOp1, eName, eD, ixD, setS_nw, setS_own, nwAt, noOwn_nw, peek_pl, gSb, gNm, gTp, gTq, gCs, gNl, getP, putP, addD, subD, mulD, modD, fdivD, powD, ltD, leD, gtD, geD, isD, isnotD, D.isN, negD, tvB, tvNot, tvAnd, tvOr, evT, evAnd, evOr, evNot, evIf, evChain, eCall, aCons, aNil, peeks, dats, lenD, intD, listD, tupleD, eTup, eLst, eSl, oNone, oSome, slD, revD, eLr1, eLr2, iSeq, iR1_eq, iR1f, iR2_eq, iR2f, iR3_eq, iR3f, iEnu, iZp, tYesM, eMeth, appendD, extendD, popD, reverseD, dropS, eFn, toArgs, backE, aft, finF, backs, eIsi, stp, lim, sTry, outGone, sRaise0, sRaise1, eIsx, eFldX, inD, notinD, sDelS, cutF, gCutD, evChain, O.toD, O.toD.go, eIxC, eTupO, tpO, aLast, eMov, O.get, O.set, ixF_ixS, tR, D.fl, fls, L2.inV, L2.eqV, hb, hp]
        · have hp0 : 0 ≤ p := by omega
          have t := put2 (n := n) hl hp0 fc
          cases a with
          | str nm =>
            by_cases c1 : nm = "put"
            · subst c1
              cases hm : bhd n w (.tup [.str "put", .int p, c]) <;> rw [hm] at t <;> simp [m_try_move, sSeq, sSet, sOwn, sAli, sAsg, sRet, sRetN, sIf, sPass, sExpr, sFor, sPar, sPar3, sParO, sParO3, eFnX, lendM, lends, lendD, lendR, atomD, keepO, slotOf, sOwn2, eFrz, tvT, truD, sortedD, insertD, eOp2, eOp1, eName, eD, ixD, setS_nw, setS_own, nwAt, noOwn_nw, peek_pl, gSb, gNm, gTp, gTq, gCs, gNl, getP, putP, addD, subD, mulD, modD, fdivD, powD, ltD, leD, gtD, geD, isD, isnotD, D.isN, negD, tvB, tvNot, tvAnd, tvOr, evT, evAnd, evOr, evNot, evIf, evChain, eCall, aCons, aNil, peeks, dats, lenD, intD, listD, tupleD, eTup, eLst, eSl, oNone, oSome, slD, revD, eLr1, eLr2, iSeq, iR1_eq, iR1f, iR2_eq, iR2f, iR3_eq, iR3f, iEnu, iZp, tYesM, eMeth, appendD, extendD, popD, reverseD, dropS, eFn, toArgs, backE, aft, finF, backs, eIsi, stp, lim, sTry, outGone, sRaise0, sRaise1, eIsx, eFldX, inD, notinD, sDelS, cutF, gCutD, evChain, O.toD, O.toD.go, eIxC, eTupO, tpO, aLast, eMov, O.get, O.set, ixF_ixS, tR, D.fl, fls, L2.inV, L2.eqV, hb, hp, t]
            · have e : bhd n w (.tup [.str nm, .int p, c]) = none := by
                cases c <;> first | rfl | skip
                simp only [bhd]
                rw [if_neg fun h => c1 h.2.2.1]
              rw [e]
              simp [m_try_move, sSeq, sSet, sOwn, sAli, sAsg, sRet, sRetN, sIf, sPass, sExpr, sFor, sPar, sPar3, sParO, sParO3, eFnX, lendM, lends, lendD, lendR, atomD, keepO, slotOf, sOwn2, eFrz, tvT, truD, sortedD, insertD, eOp2, eOp1, eName, eD, ixD, setS_nw, setS_own, nwAt, noOwn_nw, peek_pl, gSb, gNm, gTp, gTq, gCs, gNl, getP, putP, addD, subD, mulD, modD, fdivD, powD, ltD, leD, gtD, geD, isD, isnotD, D.isN, negD, tvB, tvNot, tvAnd, tvOr, evT, evAnd, evOr, evNot, evIf, evChain, eCall, aCons, aNil, peeks, dats, lenD, intD, listD, tupleD, eTup, eLst, eSl, oNone, oSome, slD, revD, eLr1, eLr2, iSeq, iR1_eq, iR1f, iR2_eq, iR2f, iR3_eq, iR3f, iEnu, iZp, tYesM, eMeth, appendD, extendD, popD, reverseD, dropS, eFn, toArgs, backE, aft, finF, backs, eIsi, stp, lim, sTry, outGone, sRaise0, sRaise1, eIsx, eFldX, inD, notinD, sDelS, cutF, gCutD, evChain, O.toD, O.toD.go, eIxC, eTupO, tpO, aLast, eMov, O.get, O.set, ixF_ixS, tR, D.fl, fls, L2.inV, L2.eqV, hb, hp, c1]
          | scr ns => exact (fa.notScr ns rfl).elim
          | _ =>
            simp at e1
            simp [m_try_move, sSeq, sSet, sOwn, sAli, sAsg, sRet, sRetN, sIf, sPass, sExpr, sFor, sPar, sPar3, sParO, sParO3, eFnX, lendM, lends, lendD, lendR, atomD, keepO, slotOf, sOwn2, eFrz, tvT, truD, sortedD, insertD, eOp2, eOp1, eName, eD, ixD, setS_nw, setS_own, nwAt, noOwn_nw, peek_pl, gSb, gNm, gTp, gTq, gCs, gNl, getP, putP, addD, subD, mulD, modD, fdivD, powD, ltD, leD, gtD, geD, isD, isnotD, D.isN, negD, tvB, tvNot, tvAnd, tvOr, evT, evAnd, evOr, evNot, evIf, evChain, eCall, aCons, aNil, peeks, dats, lenD, intD, listD, tupleD, eTup, eLst, eSl, oNone, oSome, slD, revD, eLr1, eLr2, iSeq, iR1_eq, iR1f, iR2_eq, iR2f, iR3_eq, iR3f, iEnu, iZp, tYesM, eMeth, appendD, extendD, popD, reverseD, dropS, eFn, toArgs, backE, aft, finF, backs, eIsi, stp, lim, sTry, outGone, sRaise0, sRaise1, eIsx, eFldX, inD, notinD, sDelS, cutF, gCutD, evChain, O.toD, O.toD.go, eIxC, eTupO, tpO, aLast, eMov, O.get, O.set, ixF_ixS, tR, D.fl, fls, L2.inV, L2.eqV, hb, hp, e1, bhd]
      | scr ns => exact ((hf.mem (x := .scr ns) (by simp)).notScr ns rfl).elim
      | _ =>
        have e : ∀ x, (∀ p, x ≠ .int p) → bhd n w (.tup [a, x, c]) = none := fun x h => by cases a <;> cases x <;> first | rfl | exact (h _ rfl).elim
        rw [e _ (fun _ => by simp)]
        simp [m_try_move, sSeq, sSet, sOwn, sAli, sAsg, sRet, sRetN, sIf, sPass, sExpr, sFor, sPar, sPar3, sParO, sParO3, eFnX, lendM, lends, lendD, lendR, atomD, keepO, slotOf, sOwn2, eFrz, tvT, truD, sortedD, insertD, eOp2, eOp1, eName, eD, ixD, setS_nw, setS_own, nwAt, noOwn_nw, peek_pl, gSb, gNm, gTp, gTq, gCs, gNl, getP, putP, addD, subD, mulD, modD, fdivD, powD, ltD, leD, gtD, geD, isD, isnotD, D.isN, negD, tvB, tvNot, tvAnd, tvOr, evT, evAnd, evOr, evNot, evIf, evChain, eCall, aCons, aNil, peeks, dats, lenD, intD, listD, tupleD, eTup, eLst, eSl, oNone, oSome, slD, revD, eLr1, eLr2, iSeq, iR1_eq, iR1f, iR2_eq, iR2f, iR3_eq, iR3f, iEnu, iZp, tYesM, eMeth, appendD, extendD, popD, reverseD, dropS, eFn, toArgs, backE, aft, finF, backs, eIsi, stp, lim, sTry, outGone, sRaise0, sRaise1, eIsx, eFldX, inD, notinD, sDelS, cutF, gCutD, evChain, O.toD, O.toD.go, eIxC, eTupO, tpO, aLast, eMov, O.get, O.set, ixF_ixS, tR, D.fl, fls, L2.inV, L2.eqV, hb]
  | _ => simp [m_try_move, sSeq, sSet, sOwn, sAli, sAsg, sRet, sRetN, sIf, sPass, sExpr, sFor, sPar, sPar3, sParO, sParO3, eFnX, lendM, lends, lendD, lendR, atomD, keepO, slotOf, sOwn2, eFrz, tvT, truD, sortedD, insertD, eOp2, eOp1, eName, eD, ixD, setS_nw, setS_own, nwAt, noOwn_nw, peek_pl, gSb, gNm, gTp, gTq, gCs, gNl, getP, putP, addD, subD, mulD, modD, fdivD, powD, ltD, leD, gtD, geD, isD, isnotD, D.isN, negD, tvB, tvNot, tvAnd, tvOr, evT, evAnd, evOr, evNot, evIf, evChain, eCall, aCons, aNil, peeks, dats, lenD, intD, listD, tupleD, eTup, eLst, eSl, oNone, oSome, slD, revD, eLr1, eLr2, iSeq, iR1_eq, iR1f, iR2_eq, iR2f, iR3_eq, iR3f, iEnu, iZp, tYesM, eMeth, appendD, extendD, popD, reverseD, dropS, eFn, toArgs, backE, aft, finF, backs, eIsi, stp, lim, sTry, outGone, sRaise0, sRaise1, eIsx, eFldX, inD, notinD, sDelS, cutF, gCutD, evChain, O.toD, O.toD.go, eIxC, eTupO, tpO, aLast, eMov, O.get, O.set, ixF_ixS, bhd, tR]

/-! the drawn numbers -/
structure PoolOk (xs : List D) : Prop where
  ex : ∃ (p : Int) (cs : List Int), xs = mi (p :: cs) ∧ 1 ≤ p ∧ p ≤ cs.length ∧ 300 ≤ cs.length ∧ cs.length ≤ 5000 ∧ ∀ c ∈ cs, 0 ≤ c ∧ c < 60
abbrev Pool : Type := {xs : List D // PoolOk xs}
theorem pick_ok (q : Pool) {m : Int} (hm : 0 < m) : ∃ v : Int, ∃ q' : Pool, f__law_pick [.own (.lst q.1), .dat (.int m)] = .ok (.dat (.int v)) [.lst q'.1] ∧ 0 ≤ v ∧ v < m := by
  obtain ⟨xs, h⟩ := q
  obtain ⟨p, cs, rfl, h1, h2, h3, h4, h5⟩ := h.ex
  obtain ⟨c, hc⟩ : ∃ c, cs[p.toNat - 1]? = some c := ⟨cs[p.toNat - 1]'(by omega), List.getElem?_eq_getElem (by omega)⟩
  have hat : ∀ x, L2.atI (x :: cs) p = some c := fun x => by
    rw [atI_pos (by omega)]
    obtain ⟨k, hk⟩ : ∃ k, p.toNat = k + 1 := ⟨p.toNat - 1, by omega⟩
    rw [hk]
    rw [hk] at hc
    simp at hc ⊢
    exact hc
  have hall : ∀ (i : Nat), i < 2 → isOwn (([S.own (O.lst (mi (p :: cs))), S.dat (D.int m)] : List S).getD i .un) = true → i ∈ [0, 1] := fun i hi _ => by
    match i, hi with
    | 0, _ => simp
    | 1, _ => simp
  have hrun : m__law_pick [S.own (O.lst (mi (p :: cs))), S.dat (D.int m), .un] = .rt (.dat (.int (c % m))) [S.own (O.lst (mi ((if p = cs.length then 1 else p + 1) :: cs))), S.dat (D.int m), S.dat (.int p)] := by
    by_cases hp : p = cs.length
    · have hat' := hat 1
      rw [hp] at hat'
      simp [m__law_pick, sSeq, sSet, sOwn, sAli, sAsg, sRet, sRetN, sIf, sPass, sExpr, sFor, sPar, sPar3, sParO, sParO3, eFnX, lendM, lends, lendD, lendR, atomD, keepO, slotOf, sOwn2, eFrz, tvT, truD, sortedD, insertD, eOp2, eOp1, eName, eD, ixD, setS_nw, setS_own, nwAt, noOwn_nw, peek_pl, gSb, gNm, gTp, gTq, gCs, gNl, getP, putP, addD, subD, mulD, modD, fdivD, powD, ltD, leD, gtD, geD, isD, isnotD, D.isN, negD, tvB, tvNot, tvAnd, tvOr, evT, evAnd, evOr, evNot, evIf, evChain, eCall, aCons, aNil, peeks, dats, lenD, intD, listD, tupleD, eTup, eLst, eSl, oNone, oSome, slD, revD, eLr1, eLr2, iSeq, iR1_eq, iR1f, iR2_eq, iR2f, iR3_eq, iR3f, iEnu, iZp, tYesM, eMeth, appendD, extendD, popD, reverseD, dropS, eFn, toArgs, backE, aft, finF, backs, eIsi, stp, lim, sTry, outGone, sRaise0, sRaise1, eIsx, eFldX, inD, notinD, sDelS, cutF, gCutD, evChain, O.toD, O.toD.go, eIxC, eTupO, tpO, aLast, eMov, O.get, O.set, ixF_ixS, hat, ixN_zero, hm, hp, atI_zero, hat']
    · simp [m__law_pick, sSeq, sSet, sOwn, sAli, sAsg, sRet, sRetN, sIf, sPass, sExpr, sFor, sPar, sPar3, sParO, sParO3, eFnX, lendM, lends, lendD, lendR, atomD, keepO, slotOf, sOwn2, eFrz, tvT, truD, sortedD, insertD, eOp2, eOp1, eName, eD, ixD, setS_nw, setS_own, nwAt, noOwn_nw, peek_pl, gSb, gNm, gTp, gTq, gCs, gNl, getP, putP, addD, subD, mulD, modD, fdivD, powD, ltD, leD, gtD, geD, isD, isnotD, D.isN, negD, tvB, tvNot, tvAnd, tvOr, evT, evAnd, evOr, evNot, evIf, evChain, eCall, aCons, aNil, peeks, dats, lenD, intD, listD, tupleD, eTup, eLst, eSl, oNone, oSome, slD, revD, eLr1, eLr2, iSeq, iR1_eq, iR1f, iR2_eq, iR2f, iR3_eq, iR3f, iEnu, iZp, tYesM, eMeth, appendD, extendD, popD, reverseD, dropS, eFn, toArgs, backE, aft, finF, backs, eIsi, stp, lim, sTry, outGone, sRaise0, sRaise1, eIsx, eFldX, inD, notinD, sDelS, cutF, gCutD, evChain, O.toD, O.toD.go, eIxC, eTupO, tpO, aLast, eMov, O.get, O.set, ixF_ixS, hat, ixN_zero, hm, hp, atI_zero]
  refine ⟨c % m, ⟨mi ((if p = cs.length then 1 else p + 1) :: cs), ⟨_, cs, rfl, ?_, ?_, h3, h4, h5⟩⟩, ?_, Int.emod_nonneg _ (by omega), Int.emod_lt_of_pos _ hm⟩
  · split <;> omega
  · split <;> omega
  · unfold f__law_pick runF
    rw [if_pos ⟨rfl, hall⟩]
    show (match m__law_pick [S.own (O.lst (mi (p :: cs))), S.dat (D.int m), .un] with
      | .nx e => _ | .rt r e => _ | .ex x e => _ | _ => _) = _
    rw [hrun]
    rfl
open Classical in
noncomputable def pV (q : Pool) (m : Int) : Int := if h : 0 < m then Classical.choose (pick_ok q h) else 0
open Classical in
noncomputable def pR (q : Pool) (m : Int) : Pool := if h : 0 < m then Classical.choose (Classical.choose_spec (pick_ok q h)) else q
theorem pick_eq (q : Pool) {m : Int} (hm : 0 < m) : f__law_pick [.own (.lst q.1), .dat (.int m)] = .ok (.dat (.int (pV q m))) [.lst (pR q m).1] := by
  unfold pV pR
  rw [dif_pos hm, dif_pos hm]
  exact (Classical.choose_spec (Classical.choose_spec (pick_ok q hm))).1
theorem pV_rg (q : Pool) {m : Int} (hm : 0 < m) : 0 ≤ pV q m ∧ pV q m < m := by
  unfold pV
  rw [dif_pos hm]
  exact (Classical.choose_spec (Classical.choose_spec (pick_ok q hm))).2
/-! the pool is made -/
def Cel (cs : List Int) : Prop := ∀ c ∈ cs, 0 ≤ c ∧ c < 60
theorem Cel.app {a b : List Int} (h : Cel a) (k : Cel b) : Cel (a ++ b) := fun c hc => by
  rcases List.mem_append.1 hc with hc | hc
  · exact h c hc
  · exact k c hc
theorem cel_one (r : Int) : Cel [r % 60] := fun c hc => by simp at hc; subst hc; omega
theorem cel_two (r q : Int) : Cel [r % 60, q % 60] := fun c hc => by simp at hc; rcases hc with rfl | rfl <;> omega
theorem pool_in {ns : List Int} {ct st k : S} (cs : List Int) (r : Int) (hc : Cel cs) (hk : Pl k = true) (hl : cs.length < 16777000) : ∃ cs' r' k', forL (gNm 4) b__law_pool_3 (mi (rg 0 60)) [.dat (.scr ns), .own (.lst (mi cs)), ct, st, k, .dat (.int r)] = .nx [.dat (.scr ns), .own (.lst (mi cs')), ct, st, k', .dat (.int r')] ∧ Cel cs' ∧ Pl k' = true ∧ cs'.length ≤ cs.length + 60 := by
  obtain ⟨⟨cs', k', r'⟩, h1, h2⟩ := forL_stb (gm := gNm 4) (body := b__law_pool_3) (ds := mi (rg 0 60)) (i := 0) (a := (cs, k, r)) (fun (x : List Int × S × Int) => [.dat (.scr ns), .own (.lst (mi x.1)), ct, st, x.2.1, .dat (.int x.2.2)])
    (fun i x => Cel x.1 ∧ Pl x.2.1 = true ∧ x.1.length = cs.length + i) (fun x => Cel x.1 ∧ Pl x.2.1 = true ∧ x.1.length ≤ cs.length + 60) ⟨hc, hk, rfl⟩ fun i ⟨cs, k, r⟩ hi0 hi d hd ⟨g1, g2, g3⟩ => by
      obtain ⟨d, hd', rfl⟩ := List.mem_map.1 hd
      simp only [mi_length, rg_length] at hi
      simp only at g1 g2 g3
      have hl' : cs.length < 16777216 := by omega
      refine ⟨(cs ++ [r % 60], .dat (.int d), r / 60), ?_⟩
      by_cases hz : r / 60 = 0
      · refine .inr ⟨?_, g1.app (cel_one r), rfl, by simp; omega⟩
        simp [b__law_pool_3, sSeq, sSet, sOwn, sAli, sAsg, sRet, sRetN, sIf, sPass, sExpr, sFor, sPar, sPar3, sParO, sParO3, eFnX, lendM, lends, lendD, lendR, atomD, keepO, slotOf, sOwn2, eFrz, tvT, truD, sortedD, insertD, eOp2, eOp1, eName, eD, ixD, setS_nw, setS_own, nwAt, noOwn_nw, peek_pl, gSb, gNm, gTp, gTq, gCs, gNl, getP, putP, addD, subD, mulD, modD, fdivD, powD, ltD, leD, gtD, geD, isD, isnotD, D.isN, negD, tvB, tvNot, tvAnd, tvOr, evT, evAnd, evOr, evNot, evIf, evChain, eCall, aCons, aNil, peeks, dats, lenD, intD, listD, tupleD, eTup, eLst, eSl, oNone, oSome, slD, revD, eLr1, eLr2, iSeq, iR1_eq, iR1f, iR2_eq, iR2f, iR3_eq, iR3f, iEnu, iZp, tYesM, eMeth, appendD, extendD, popD, reverseD, dropS, eFn, toArgs, backE, aft, finF, backs, eIsi, stp, lim, sTry, outGone, sRaise0, sRaise1, eIsx, eFldX, inD, notinD, sDelS, cutF, gCutD, evChain, O.toD, O.toD.go, eIxC, eTupO, tpO, aLast, eMov, O.get, O.set, ixF_ixS, g2, hl', lim, hz]
      · refine .inl ⟨.inl ?_, g1.app (cel_one r), rfl, by simp; omega⟩
        simp [b__law_pool_3, sSeq, sSet, sOwn, sAli, sAsg, sRet, sRetN, sIf, sPass, sExpr, sFor, sPar, sPar3, sParO, sParO3, eFnX, lendM, lends, lendD, lendR, atomD, keepO, slotOf, sOwn2, eFrz, tvT, truD, sortedD, insertD, eOp2, eOp1, eName, eD, ixD, setS_nw, setS_own, nwAt, noOwn_nw, peek_pl, gSb, gNm, gTp, gTq, gCs, gNl, getP, putP, addD, subD, mulD, modD, fdivD, powD, ltD, leD, gtD, geD, isD, isnotD, D.isN, negD, tvB, tvNot, tvAnd, tvOr, evT, evAnd, evOr, evNot, evIf, evChain, eCall, aCons, aNil, peeks, dats, lenD, intD, listD, tupleD, eTup, eLst, eSl, oNone, oSome, slD, revD, eLr1, eLr2, iSeq, iR1_eq, iR1f, iR2_eq, iR2f, iR3_eq, iR3f, iEnu, iZp, tYesM, eMeth, appendD, extendD, popD, reverseD, dropS, eFn, toArgs, backE, aft, finF, backs, eIsi, stp, lim, sTry, outGone, sRaise0, sRaise1, eIsx, eFldX, inD, notinD, sDelS, cutF, gCutD, evChain, O.toD, O.toD.go, eIxC, eTupO, tpO, aLast, eMov, O.get, O.set, ixF_ixS, g2, hl', lim, hz]
  simp only [mi_length, rg_length] at h1 h2
  refine ⟨cs', r', k', h1, ?_⟩
  rcases h2 with ⟨h2, h3, h4⟩ | h2
  · exact ⟨h2, h3, by omega⟩
  · exact h2
theorem law_pool_ok (ns : List Int) (h : ns.length ≤ 63) : ∃ cs : List Int, f__law_pool [.dat (.scr ns)] = .ok (.new (.lst (mi cs))) [] ∧ 300 ≤ cs.length ∧ cs.length ≤ 5000 ∧ Cel cs := by
  obtain ⟨⟨c1, ct1, k1, r1⟩, a1, a2, a3, a4, a5, a6⟩ := forL_st (gm := gNm 2) (body := b__law_pool_4) (ds := mi ns) (i := 0) (a := ([], .un, .un, .un)) (fun (x : List Int × S × S × S) => [.dat (.scr ns), .own (.lst (mi x.1)), x.2.1, .un, x.2.2.1, x.2.2.2])
    (fun i x => Cel x.1 ∧ Pl x.2.1 = true ∧ Pl x.2.2.1 = true ∧ Pl x.2.2.2 = true ∧ x.1.length ≤ 60 * i) ⟨(fun _ h => nomatch h), rfl, rfl, rfl, by simp⟩ fun i ⟨cs, ct, k, r⟩ hi0 hi d hd ⟨g1, g2, g3, g4, g5⟩ => by
      obtain ⟨m, hd', rfl⟩ := List.mem_map.1 hd
      simp only [mi_length] at hi
      simp only at g1 g2 g3 g4 g5
      by_cases hm : (10 : Int) ^ 18 ≤ m
      · obtain ⟨cs1, r1, k1, f1, f2, f3, f4⟩ := pool_in (ns := ns) (ct := .dat (.int m)) (st := .un) (k := k) cs m g1 g3 (by omega)
        refine ⟨(cs1, .dat (.int m), k1, .dat (.int r1)), .inl ?_, f2, rfl, f3, rfl, by simp only; omega⟩
        simp at hm
        simp [b__law_pool_4, sSeq, sSet, sOwn, sAli, sAsg, sRet, sRetN, sIf, sPass, sExpr, sFor, sPar, sPar3, sParO, sParO3, eFnX, lendM, lends, lendD, lendR, atomD, keepO, slotOf, sOwn2, eFrz, tvT, truD, sortedD, insertD, eOp2, eOp1, eName, eD, ixD, setS_nw, setS_own, nwAt, noOwn_nw, peek_pl, gSb, gNm, gTp, gTq, gCs, gNl, getP, putP, addD, subD, mulD, modD, fdivD, powD, ltD, leD, gtD, geD, isD, isnotD, D.isN, negD, tvB, tvNot, tvAnd, tvOr, evT, evAnd, evOr, evNot, evIf, evChain, eCall, aCons, aNil, peeks, dats, lenD, intD, listD, tupleD, eTup, eLst, eSl, oNone, oSome, slD, revD, eLr1, eLr2, iSeq, iR1_eq, iR1f, iR2_eq, iR2f, iR3_eq, iR3f, iEnu, iZp, tYesM, eMeth, appendD, extendD, popD, reverseD, dropS, eFn, toArgs, backE, aft, finF, backs, eIsi, stp, lim, sTry, outGone, sRaise0, sRaise1, eIsx, eFldX, inD, notinD, sDelS, cutF, gCutD, evChain, O.toD, O.toD.go, eIxC, eTupO, tpO, aLast, eMov, O.get, O.set, ixF_ixS, g2, g3, g4, hm, f1]
      · refine ⟨(cs ++ [m % 60, m / 60 % 60], .dat (.int m), k, .dat (.int m)), .inl ?_, g1.app (cel_two _ _), rfl, g3, rfl, by simp; omega⟩
        simp at hm
        have hm' : ¬ (1000000000000000000 ≤ m) := by omega
        have hl : cs.length + 2 ≤ 16777216 := by omega
        simp [b__law_pool_4, sSeq, sSet, sOwn, sAli, sAsg, sRet, sRetN, sIf, sPass, sExpr, sFor, sPar, sPar3, sParO, sParO3, eFnX, lendM, lends, lendD, lendR, atomD, keepO, slotOf, sOwn2, eFrz, tvT, truD, sortedD, insertD, eOp2, eOp1, eName, eD, ixD, setS_nw, setS_own, nwAt, noOwn_nw, peek_pl, gSb, gNm, gTp, gTq, gCs, gNl, getP, putP, addD, subD, mulD, modD, fdivD, powD, ltD, leD, gtD, geD, isD, isnotD, D.isN, negD, tvB, tvNot, tvAnd, tvOr, evT, evAnd, evOr, evNot, evIf, evChain, eCall, aCons, aNil, peeks, dats, lenD, intD, listD, tupleD, eTup, eLst, eSl, oNone, oSome, slD, revD, eLr1, eLr2, iSeq, iR1_eq, iR1f, iR2_eq, iR2f, iR3_eq, iR3f, iEnu, iZp, tYesM, eMeth, appendD, extendD, popD, reverseD, dropS, eFn, toArgs, backE, aft, finF, backs, eIsi, stp, lim, sTry, outGone, sRaise0, sRaise1, eIsx, eFldX, inD, notinD, sDelS, cutF, gCutD, evChain, O.toD, O.toD.go, eIxC, eTupO, tpO, aLast, eMov, O.get, O.set, ixF_ixS, g2, g3, g4, hm', lim, hl]
  simp only [mi_length, Nat.zero_add] at a1 a2 a3 a4 a5 a6
  obtain ⟨⟨ct2, s2⟩, b1, b2⟩ := forL_st (gm := gNm 2) (body := b__law_pool_2) (ds := mi ns) (i := 0) (a := (ct1, 17)) (fun (x : S × Int) => [.dat (.scr ns), .own (.lst (mi c1)), x.1, .dat (.int x.2), k1, r1])
    (fun i x => Pl x.1 = true) a3 fun i ⟨ct, s⟩ hi0 hi d hd g2 => by
      obtain ⟨m, hd', rfl⟩ := List.mem_map.1 hd
      simp only at g2
      refine ⟨(.dat (.int m), (s * 31 + m) % 2147483647), .inl ?_, rfl⟩
      simp [b__law_pool_2, sSeq, sSet, sOwn, sAli, sAsg, sRet, sRetN, sIf, sPass, sExpr, sFor, sPar, sPar3, sParO, sParO3, eFnX, lendM, lends, lendD, lendR, atomD, keepO, slotOf, sOwn2, eFrz, tvT, truD, sortedD, insertD, eOp2, eOp1, eName, eD, ixD, setS_nw, setS_own, nwAt, noOwn_nw, peek_pl, gSb, gNm, gTp, gTq, gCs, gNl, getP, putP, addD, subD, mulD, modD, fdivD, powD, ltD, leD, gtD, geD, isD, isnotD, D.isN, negD, tvB, tvNot, tvAnd, tvOr, evT, evAnd, evOr, evNot, evIf, evChain, eCall, aCons, aNil, peeks, dats, lenD, intD, listD, tupleD, eTup, eLst, eSl, oNone, oSome, slD, revD, eLr1, eLr2, iSeq, iR1_eq, iR1f, iR2_eq, iR2f, iR3_eq, iR3f, iEnu, iZp, tYesM, eMeth, appendD, extendD, popD, reverseD, dropS, eFn, toArgs, backE, aft, finF, backs, eIsi, stp, lim, sTry, outGone, sRaise0, sRaise1, eIsx, eFldX, inD, notinD, sDelS, cutF, gCutD, evChain, O.toD, O.toD.go, eIxC, eTupO, tpO, aLast, eMov, O.get, O.set, ixF_ixS, g2]
  simp only at b1 b2
  obtain ⟨⟨c3, k3, s3⟩, d1, d2, d3, d4⟩ := forL_st (gm := gNm 4) (body := b__law_pool_1) (ds := mi (rg 0 300)) (i := 0) (a := (c1, k1, s2)) (fun (x : List Int × S × Int) => [.dat (.scr ns), .own (.lst (mi x.1)), ct2, .dat (.int x.2.2), x.2.1, r1])
    (fun i x => Cel x.1 ∧ Pl x.2.1 = true ∧ x.1.length = c1.length + i) ⟨a2, a4, rfl⟩ fun i ⟨cs, k, s⟩ hi0 hi d hd ⟨g1, g2, g3⟩ => by
      obtain ⟨m, hd', rfl⟩ := List.mem_map.1 hd
      simp only [mi_length, rg_length] at hi
      simp only at g1 g2 g3
      have hl : cs.length < 16777216 := by omega
      refine ⟨(cs ++ [(s * 48271 + 11) % 2147483647 / 97 % 60], .dat (.int m), (s * 48271 + 11) % 2147483647), .inl ?_, g1.app (cel_one _), rfl, by simp; omega⟩
      simp [b__law_pool_1, sSeq, sSet, sOwn, sAli, sAsg, sRet, sRetN, sIf, sPass, sExpr, sFor, sPar, sPar3, sParO, sParO3, eFnX, lendM, lends, lendD, lendR, atomD, keepO, slotOf, sOwn2, eFrz, tvT, truD, sortedD, insertD, eOp2, eOp1, eName, eD, ixD, setS_nw, setS_own, nwAt, noOwn_nw, peek_pl, gSb, gNm, gTp, gTq, gCs, gNl, getP, putP, addD, subD, mulD, modD, fdivD, powD, ltD, leD, gtD, geD, isD, isnotD, D.isN, negD, tvB, tvNot, tvAnd, tvOr, evT, evAnd, evOr, evNot, evIf, evChain, eCall, aCons, aNil, peeks, dats, lenD, intD, listD, tupleD, eTup, eLst, eSl, oNone, oSome, slD, revD, eLr1, eLr2, iSeq, iR1_eq, iR1f, iR2_eq, iR2f, iR3_eq, iR3f, iEnu, iZp, tYesM, eMeth, appendD, extendD, popD, reverseD, dropS, eFn, toArgs, backE, aft, finF, backs, eIsi, stp, lim, sTry, outGone, sRaise0, sRaise1, eIsx, eFldX, inD, notinD, sDelS, cutF, gCutD, evChain, O.toD, O.toD.go, eIxC, eTupO, tpO, aLast, eMov, O.get, O.set, ixF_ixS, g2, lim, hl]
  simp only [mi_length, rg_length] at d1 d2 d3 d4
  refine ⟨c3, ?_, by omega, by omega, d2⟩
  unfold f__law_pool runF
  rw [if_pos (by simp [isOwn])]
  simp [m__law_pool, sSeq, sSet, sOwn, sAli, sAsg, sRet, sRetN, sIf, sPass, sExpr, sFor, sPar, sPar3, sParO, sParO3, eFnX, lendM, lends, lendD, lendR, atomD, keepO, slotOf, sOwn2, eFrz, tvT, truD, sortedD, insertD, eOp2, eOp1, eName, eD, ixD, setS_nw, setS_own, nwAt, noOwn_nw, peek_pl, gSb, gNm, gTp, gTq, gCs, gNl, getP, putP, addD, subD, mulD, modD, fdivD, powD, ltD, leD, gtD, geD, isD, isnotD, D.isN, negD, tvB, tvNot, tvAnd, tvOr, evT, evAnd, evOr, evNot, evIf, evChain, eCall, aCons, aNil, peeks, dats, lenD, intD, listD, tupleD, eTup, eLst, eSl, oNone, oSome, slD, revD, eLr1, eLr2, iSeq, iR1_eq, iR1f, iR2_eq, iR2f, iR3_eq, iR3f, iEnu, iZp, tYesM, eMeth, appendD, extendD, popD, reverseD, dropS, eFn, toArgs, backE, aft, finF, backs, eIsi, stp, lim, sTry, outGone, sRaise0, sRaise1, eIsx, eFldX, inD, notinD, sDelS, cutF, gCutD, evChain, O.toD, O.toD.go, eIxC, eTupO, tpO, aLast, eMov, O.get, O.set, ixF_ixS, ← mi_eq, a1, b1, d1]
theorem stream_ok (ns : List Int) (h : ns.length ≤ 63) : ∃ q : Pool, f__law_stream [.dat (.scr ns)] = .ok (.new (.lst q.1)) [] := by
  obtain ⟨cs, h1, h2, h3, h4⟩ := law_pool_ok ns h
  refine ⟨⟨mi (1 :: cs), ⟨1, cs, rfl, by omega, by omega, h2, h3, h4⟩⟩, ?_⟩
  unfold f__law_stream runF
  rw [if_pos (by simp [isOwn])]
  have hl : 1 + cs.length ≤ 16777216 := by omega
  simp [m__law_stream, sSeq, sSet, sOwn, sAli, sAsg, sRet, sRetN, sIf, sPass, sExpr, sFor, sPar, sPar3, sParO, sParO3, eFnX, lendM, lends, lendD, lendR, atomD, keepO, slotOf, sOwn2, eFrz, tvT, truD, sortedD, insertD, eOp2, eOp1, eName, eD, ixD, setS_nw, setS_own, nwAt, noOwn_nw, peek_pl, gSb, gNm, gTp, gTq, gCs, gNl, getP, putP, addD, subD, mulD, modD, fdivD, powD, ltD, leD, gtD, geD, isD, isnotD, D.isN, negD, tvB, tvNot, tvAnd, tvOr, evT, evAnd, evOr, evNot, evIf, evChain, eCall, aCons, aNil, peeks, dats, lenD, intD, listD, tupleD, eTup, eLst, eSl, oNone, oSome, slD, revD, eLr1, eLr2, iSeq, iR1_eq, iR1f, iR2_eq, iR2f, iR3_eq, iR3f, iEnu, iZp, tYesM, eMeth, appendD, extendD, popD, reverseD, dropS, eFn, toArgs, backE, aft, finF, backs, eIsi, stp, lim, sTry, outGone, sRaise0, sRaise1, eIsx, eFldX, inD, notinD, sDelS, cutF, gCutD, evChain, O.toD, O.toD.go, eIxC, eTupO, tpO, aLast, eMov, O.get, O.set, ixF_ixS, h1, lim, hl]

theorem at_last (u : List Int) (l : Int) : L2.atI (u ++ [l]) (-1) = some l := by
  unfold L2.atI L2.ixN
  rw [if_neg (by omega), if_pos (by simp; omega)]
  simp only [Option.bind_some, List.length_append, List.length_singleton]
  rw [show ((-1 : Int) + ((u.length + 1 : Nat) : Int)).toNat = u.length by omega]
  simp
theorem cut_last (u : List Int) (l : Int) : cut (u ++ [l]) none (some (-1)) = u := by
  unfold cut HT.sIx
  simp only
  rw [if_pos (by omega)]
  simp only [List.drop_zero, Nat.sub_zero, List.length_append, List.length_singleton]
  rw [show ((-1 : Int) + ((u.length + 1 : Nat) : Int)).toNat = u.length by omega]
  simp
@[simp] theorem mi_nil_iff (w : List Int) : (mi w = []) = (w = []) := by cases w <;> simp [mi]
theorem ends (w : List Int) : w = [] ∨ ∃ u l, w = u ++ [l] := by
  rcases List.eq_nil_or_concat w with h | ⟨u, l, h⟩
  · exact .inl h
  · exact .inr ⟨u, l, by simpa using h⟩
/-- the last letter alone can go -/
def shr (n : Int) (w : List Int) : Bool := decide (1 < n) && (match w.getLast? with
  | some l => decide ((l.natAbs : Int) = n - 1) && w.dropLast.all fun x => decide ((x.natAbs : Int) < n - 1)
  | none => false)
theorem shr_nil (n : Int) : shr n [] = false := by simp [shr]
theorem shr_end (n : Int) (u : List Int) (l : Int) : shr n (u ++ [l]) = (decide (1 < n) && (decide ((l.natAbs : Int) = n - 1) && u.all fun x => decide ((x.natAbs : Int) < n - 1))) := by simp [shr]
theorem map_blf (w : List Int) (p : Int → Bool) : ((mi w).map fun d => match d with | .int x => D.bl (p x) | d => d) = mb (w.map p) := by
  simp [mi, mb, List.map_map, Function.comp_def]
/-- the strands and the word behind a step -/
def stB (n : Int) (w : List Int) : D → Option (Int × List Int)
  | .tup (.str nm :: r) =>
    if nm = "turn" then (match r with
      | [.int l] => if l ≠ 0 ∧ (l.natAbs : Int) < n then some (n, -l :: (w ++ [l])) else none
      | _ => none)
    else if nm = "grow" then (match r with
      | [.int l] => if (l.natAbs : Int) = 1 then some (n + 1, w ++ [n * l]) else none
      | _ => none)
    else if nm = "shrink" then (match r with
      | [] => if shr n w = true then some (n - 1, w.dropLast) else none
      | _ => none)
    else (bhd n w (.tup (.str nm :: r))).map fun u => (n, u)
  | _ => none
def sR (o : Option (Int × List Int)) : FRes := match o with
  | some (m, u) => .ok (.dat (.tup [.int m, .lst (mi u)])) []
  | none => .ok (.dat .non) []
theorem rg_snoc (m : Nat) : rg 0 (m + 1) = rg 0 m ++ [(m : Int)] := by
  unfold rg
  rw [List.range_succ, List.map_append]
  simp
theorem held_iff {n : Int} {w : List Int} (hw : Wd n w) : (1 < n ∧ ((rg 0 w.length).filter fun k => decide (((w.getD k.toNat 0).natAbs : Int) = n - 1)) = [(w.length : Int) - 1]) ↔ shr n w = true := by
  rcases ends w with rfl | ⟨u, l, rfl⟩
  · rw [shr_nil]
    simp [rg]
  · rw [shr_end]
    have hu : Wd n u := fun x m => hw x (List.mem_append_left _ m)
    have e0 : (rg 0 u.length).filter (fun k => decide ((((u ++ [l]).getD k.toNat 0).natAbs : Int) = n - 1)) = (rg 0 u.length).filter (fun k => decide (((u.getD k.toNat 0).natAbs : Int) = n - 1)) := by
      refine List.filter_congr fun k hk => ?_
      have hr := rg_mem hk
      rw [List.getD_eq_getElem?_getD, List.getElem?_append_left (by omega), ← List.getD_eq_getElem?_getD]
    rw [show (u ++ [l]).length = u.length + 1 by simp, rg_snoc, List.filter_append, e0]
    have e1 : (u ++ [l]).getD ((u.length : Int)).toNat 0 = l := by simp
    rw [List.filter_cons, e1, List.filter_nil]
    have hcast : ((u.length + 1 : Nat) : Int) - 1 = u.length := by omega
    rw [hcast]
    by_cases c : (l.natAbs : Int) = n - 1
    · simp only [c, decide_true, if_true, Bool.true_and, Bool.and_eq_true, decide_eq_true_eq]
      refine and_congr Iff.rfl ?_
      rw [show ((rg 0 u.length).filter (fun k => decide (((u.getD k.toNat 0).natAbs : Int) = n - 1)) ++ [(u.length : Int)] = [(u.length : Int)]) ↔ (rg 0 u.length).filter (fun k => decide (((u.getD k.toNat 0).natAbs : Int) = n - 1)) = [] by simp]
      rw [List.filter_eq_nil_iff, List.all_eq_true]
      constructor
      · intro h x hx
        obtain ⟨i, hi, e⟩ := List.mem_iff_getElem.1 hx
        have := h (i : Int) (List.mem_map.2 ⟨i, List.mem_range.2 hi, by simp⟩)
        simp only [decide_eq_true_eq] at this ⊢
        have e2 : u.getD ((i : Int)).toNat 0 = x := by rw [List.getD_eq_getElem?_getD]; simp [hi, e]
        rw [e2] at this
        have := (hu x hx).2
        omega
      · intro h k hk
        have hr := rg_mem hk
        have hx : u.getD k.toNat 0 ∈ u := by
          rw [List.getD_eq_getElem?_getD, List.getElem?_eq_getElem (by omega)]
          exact List.getElem_mem _
        have := h _ hx
        simp only [decide_eq_true_eq] at this ⊢
        omega
    · have e2 : decide ((l.natAbs : Int) = n - 1) = false := decide_eq_false c
      rw [e2]
      simp only [Bool.false_eq_true, if_false, List.append_nil, Bool.false_and, Bool.and_false, iff_false, not_and]
      intro _ h
      have : (u.length : Int) ∈ (rg 0 u.length).filter (fun k => decide (((u.getD k.toNat 0).natAbs : Int) = n - 1)) := by rw [h]; simp
      have := rg_mem (List.mem_filter.1 this).1
      omega

theorem bhd_len {n : Int} {w u : List Int} {d : D} (h : bhd n w d = some u) : u.length ≤ w.length + 2 := by
  unfold bhd at h
  split at h
  · split at h
    · rename_i hp
      obtain ⟨a, b, rfl, e⟩ := split_at hp
      rw [e] at h
      simp at h
      unfold bhd2 at h
      repeat' split at h
      all_goals first | (cases h; done) | (cases h; simp <;> omega)
    · cases h
  · split at h
    · rename_i hp
      cases h
      simp
      omega
    · cases h
  · cases h
theorem bhd_wd {n : Int} {w u : List Int} {d : D} (h : bhd n w d = some u) (hw : Wd n w) : Wd n u := by
  unfold bhd at h
  split at h
  · split at h
    · rename_i hp
      obtain ⟨a, b, rfl, e⟩ := split_at hp
      rw [e] at h
      simp at h
      unfold bhd2 at h
      repeat' split at h
      all_goals first
        | (cases h; done)
        | (cases h
           intro l hl
           refine hw l ?_
           simp only [List.mem_append, List.mem_cons] at hl ⊢
           rcases hl with hl | hl | hl | hl | hl <;> simp [hl])
        | (cases h
           intro l hl
           refine hw l ?_
           simp only [List.mem_append, List.mem_cons] at hl ⊢
           rcases hl with hl | hl | hl | hl <;> simp [hl])
        | (cases h
           intro l hl
           refine hw l ?_
           simp only [List.mem_append, List.mem_cons] at hl ⊢
           rcases hl with hl | hl <;> simp [hl])
    · cases h
  · split at h
    · rename_i p l hp
      cases h
      intro x hx
      simp only [List.mem_append, List.mem_cons] at hx
      rcases hx with hx | rfl | rfl | hx
      · exact hw x (List.mem_of_mem_take hx)
      · exact hp.2.2.2
      · have := hp.2.2.2; omega
      · exact hw x (List.mem_of_mem_drop hx)
    · cases h
  · cases h
theorem stB_wd {n m : Int} {w u : List Int} {d : D} (h : stB n w d = some (m, u)) (h1 : 1 ≤ n) (hw : Wd n w) : 1 ≤ m ∧ m ≤ n + 1 ∧ Wd m u ∧ u.length ≤ w.length + 2 := by
  unfold stB at h
  split at h
  case h_2 => cases h
  split at h
  · split at h
    · split at h
      · rename_i l hl
        cases h
        refine ⟨h1, by omega, fun x hx => ?_, by simp⟩
        simp only [List.mem_append, List.mem_cons, List.not_mem_nil, or_false] at hx
        rcases hx with rfl | hx | rfl
        · omega
        · exact hw x hx
        · exact hl
      · cases h
    · cases h
  · split at h
    · split at h
      · split at h
        · rename_i l hl
          cases h
          refine ⟨by omega, by omega, fun x hx => ?_, by simp⟩
          simp only [List.mem_append, List.mem_cons, List.not_mem_nil, or_false] at hx
          rcases hx with hx | rfl
          · have := hw x hx; omega
          · have : l = 1 ∨ l = -1 := by omega
            rcases this with rfl | rfl <;> omega
        · cases h
      · cases h
    · split at h
      · split at h
        · split at h
          · rename_i hs
            cases h
            rcases ends w with rfl | ⟨u, l, rfl⟩
            · rw [shr_nil] at hs; cases hs
            · rw [shr_end] at hs
              simp only [Bool.and_eq_true, decide_eq_true_eq, List.all_eq_true] at hs
              refine ⟨by omega, by omega, fun x hx => ?_, by simp; omega⟩
              have hx : x ∈ u := by simpa using hx
              exact ⟨(hw x (List.mem_append_left _ hx)).1, by have := hs.2.2 x hx; omega⟩
          · cases h
        · cases h
      · simp only [Option.map_eq_some_iff] at h
        obtain ⟨v, hv, e⟩ := h
        cases e
        exact ⟨h1, by omega, bhd_wd hv hw, bhd_len hv⟩
/-- the strands and the word behind a row of steps -/
def ldB (n : Int) (w : List Int) : List D → Option (Int × List Int)
  | [] => some (n, w)
  | s :: r => match stB n w s with
    | none => none
    | some (m, u) => if 8 < m ∨ 400 < u.length then none else ldB m u r
def ldR (n : Int) (w : List Int) (m : Int) (v : List Int) : D → Bool
  | .lst vs => match ldB n w vs with
    | some (a, b) => decide (a = m) && decide (b = v)
    | none => false
  | _ => false
theorem eqD_pair (n m : Int) (w v : List Int) (hw : w.length ≤ 16000000) (hv : v.length ≤ 16000000) : eqD (.tup [.int n, .lst (mi w)]) (.tup [.int m, .lst (mi v)]) = some (.dat (.bl (decide (n = m) && decide (w = v)))) := by
  have f : ∀ (n : Int) (w : List Int), w.length ≤ 16000000 → eqOk (.tup [.int n, .lst (mi w)]) = true := fun n w h => fit_ok (k := 5) ⟨by simp, fun x hx => by
    simp only [List.mem_cons, List.not_mem_nil, or_false] at hx
    rcases hx with rfl | rfl
    · trivial
    · exact (fit_mi (k := 2) h)⟩ (by omega)
  have e := eqB_mi w v
  unfold eqD
  rw [f n w hw, f m v hv]
  simp only [Bool.and_self, if_true]
  simp only [eqB, D.py, D.py.pys, PyData.eqv, PyData.eqvAll] at e ⊢
  rw [e]
  simp
  rfl
theorem ldB_len {n : Int} : ∀ {vs : List D} {n : Int} {w : List Int} {a : Int} {b : List Int}, ldB n w vs = some (a, b) → w.length ≤ 400 → b.length ≤ 400
  | [], n, w, a, b, h, hl => by cases h; exact hl
  | d :: vs, n, w, a, b, h, hl => by
    unfold ldB at h
    split at h
    · cases h
    · rename_i m u hs
      split at h
      · cases h
      · exact ldB_len (n := n) h (by omega)
/-- what is due -/
def due (n w m v V : D) : D := match ferr n w 400 with
  | some e => .tup [.str "refused", .lst [.str e.nm], e.kept]
  | none => match ferr m v 400 with
    | some e => .tup [.str "refused", .lst [.str e.nm], e.kept]
    | none => match n, w, m, v with
      | .int a, .lst x, .int b, .lst y => .tup [.str "told", .bl (ldR a ((intsOf x).getD []) b ((intsOf y).getD []) V)]
      | _, _, _, _ => .non
theorem Er.fit (e : Er) : Fit 2 (.lst [.str e.nm]) ∧ Fit 1 e.kept := by
  cases e <;> exact ⟨⟨by simp, fun x hx => by
    simp only [List.mem_cons, List.not_mem_nil, or_false] at hx
    subst hx
    first
    | (show PyData.canLay0 (.str ("strands" : Str)) = true; decide +kernel)
    | (show PyData.canLay0 (.str ("word" : Str)) = true; decide +kernel)
    | (show PyData.canLay0 (.str ("long" : Str)) = true; decide +kernel)
    | (show PyData.canLay0 (.str ("letter" : Str)) = true; decide +kernel)⟩, trivial⟩
theorem lit_fit (s : Str) (h : PyData.canLay0 (.str s) = true) (k : Nat) : Fit (k + 1) (.str s) := h
theorem due_fit {n w m v V : D} : Fit 3 (due n w m v V) := by
  have r : PyData.canLay0 (.str ("refused" : Str)) = true := by decide +kernel
  have t : PyData.canLay0 (.str ("told" : Str)) = true := by decide +kernel
  have go : ∀ e : Er, Fit 3 (.tup [.str "refused", .lst [.str e.nm], e.kept]) := fun e => ⟨by simp, fun x hx => by
    simp only [List.mem_cons, List.not_mem_nil, or_false] at hx
    rcases hx with rfl | rfl | rfl
    · exact r
    · exact e.fit.1
    · exact e.fit.2.succ⟩
  unfold due
  split
  · exact go _
  · split
    · exact go _
    · split
      · exact ⟨by simp, fun x hx => by
          simp only [List.mem_cons, List.not_mem_nil, or_false] at hx
          rcases hx with rfl | rfl
          · exact t
          · trivial⟩
      · trivial
theorem atI_mem {α : Type} {xs : List α} {i : Int} (h : 0 ≤ i) (h2 : i < xs.length) : ∃ b ∈ xs, L2.atI xs i = some b := by
  rw [atI_pos h]
  exact ⟨xs[i.toNat]'(by omega), List.getElem_mem _, List.getElem?_eq_getElem (by omega)⟩
def sg (y : Int) : Int := if y = 0 then 1 else -1
theorem sg_at {y : Int} (hy : 0 ≤ y) (hy2 : y < 2) : L2.atI [(1 : Int), -1] y = some (sg y) := by
  have : y = 0 ∨ y = 1 := by omega
  rcases this with rfl | rfl <;> rfl
theorem sg_or (y : Int) : sg y = 1 ∨ sg y = -1 := by unfold sg; split <;> simp
theorem sg_big (y : Int) : -18446744073709551616 < sg y ∧ sg y < 18446744073709551616 := by rcases sg_or y with h | h <;> omega
theorem lt_ltr {n x : Int} (hn : 1 < n) : 0 ≤ x % (n - 1) ∧ x % (n - 1) < n - 1 := ⟨Int.emod_nonneg _ (by omega), Int.emod_lt_of_pos _ (by omega)⟩
theorem ltr {n e i : Int} (he : e = 1 ∨ e = -1) (h1 : 1 ≤ i) (h2 : i < n) : (e * i ≠ 0 ∧ ((e * i).natAbs : Int) < n) ∧ (0 - e * i ≠ 0 ∧ ((0 - e * i).natAbs : Int) < n) := by
  rcases he with rfl | rfl <;> omega
theorem Wd.nil {n : Int} : Wd n [] := fun _ m => nomatch m
theorem Wd.cons {n l : Int} {w : List Int} (h : l ≠ 0 ∧ (l.natAbs : Int) < n) (hw : Wd n w) : Wd n (l :: w) := fun x m => by
  rcases List.mem_cons.1 m with rfl | m
  · exact h
  · exact hw x m
theorem Wd.app {n : Int} {u v : List Int} (hu : Wd n u) (hv : Wd n v) : Wd n (u ++ v) := fun x m => by
  rcases List.mem_append.1 m with m | m
  · exact hu x m
  · exact hv x m
theorem Wd.take {n : Int} {w : List Int} (h : Wd n w) (k : Nat) : Wd n (w.take k) := fun x m => h x (List.mem_of_mem_take m)
theorem Wd.drop {n : Int} {w : List Int} (h : Wd n w) (k : Nat) : Wd n (w.drop k) := fun x m => h x (List.mem_of_mem_drop m)
theorem rich_step1 {q : Pool} {n many : Int} {w : List Int} {k : D} {s5 s6 s7 s8 s9 s10 s4 : S} (hn : 1 < n) (h8 : n ≤ 8) (hw : Wd n w) (hl : w.length ≤ 1000) (p4 : Pl s4 = true) (p5 : Pl s5 = true) (p6 : Pl s6 = true) (p7 : Pl s7 = true) (p8 : Pl s8 = true) (p9 : Pl s9 = true) (p10 : Pl s10 = true) :
    ∃ (q' : Pool) (u : List Int) (a b c d e f : D), stp (gNm 4) b__law_rich_1 k [.own (.lst q.1), .dat (.int n), .dat (.int many), .dat (.lst (mi w)), s4, s5, s6, s7, s8, s9, s10] = .nx [.own (.lst q'.1), .dat (.int n), .dat (.int many), .dat (.lst (mi (w ++ u))), .dat k, .dat a, .dat b, .dat c, .dat d, .dat e, .dat f] ∧ Wd n u ∧ u.length ≤ 3 ∧ 1 ≤ u.length := by
  have hv0 := pV_rg q (m := 8) (by omega)
  have hv1 := pV_rg (pR q 8) (m := 2) (by omega)
  have hs := sg_at hv1.1 hv1.2
  have he := sg_or (pV (pR q 8) 2)
  have hb := sg_big (pV (pR q 8) 2)
  generalize hx : pV q 8 = x at hv0
  generalize hee : sg (pV (pR q 8) 2) = e at *
  have hi := lt_ltr (x := pV (pR (pR q 8) 2) 60) hn
  have hj := lt_ltr (x := pV (pR (pR (pR q 8) 2) 60) 60) hn
  have hn1 : 0 < n - 1 := by omega
  generalize hii : pV (pR (pR q 8) 2) 60 % (n - 1) = i at hi
  generalize hjj : pV (pR (pR (pR q 8) 2) 60) 60 % (n - 1) = j at hj
  obtain ⟨h, hh, h1, h2⟩ : ∃ h : Int, max 1 (1 + i + 1 - 2 * (if 1 + i = n - 1 then 1 else 0)) = h ∧ 1 ≤ h ∧ h < n := by
    refine ⟨_, rfl, by omega, ?_⟩
    split <;> omega
  have ai := ltr he (i := 1 + i) (by omega) (show 1 + i < n by omega)
  have aj := ltr he (i := 1 + j) (by omega) (show 1 + j < n by omega)
  have ah := ltr he (i := h) h1 h2
  obtain ⟨u, hu, hu1, hu2, hu3⟩ : ∃ u, L2.atI [D.lst (mi [e * (1 + i)]), D.lst (mi [e * (1 + i), 0 - e * (1 + i)]), D.lst (mi [e * (1 + i), e * (1 + j)]), D.lst (mi [e * (1 + i), e * h, e * (1 + i)]), D.lst (mi [e * (1 + i), 0 - e * h, e * (1 + i)]), D.lst (mi [e * (1 + i), e * h, 0 - e * (1 + i)]), D.lst (mi [e * (1 + i), e * (1 + j), e * (1 + i)]), D.lst (mi [e * (1 + i), 0 - e * (1 + j)])] x = some (.lst (mi u)) ∧ Wd n u ∧ u.length ≤ 3 ∧ 1 ≤ u.length := by
    have : x = 0 ∨ x = 1 ∨ x = 2 ∨ x = 3 ∨ x = 4 ∨ x = 5 ∨ x = 6 ∨ x = 7 := by omega
    rcases this with rfl | rfl | rfl | rfl | rfl | rfl | rfl | rfl
    · exact ⟨_, rfl, .cons ai.1 .nil, by simp, by simp⟩
    · exact ⟨_, rfl, .cons ai.1 (.cons ai.2 .nil), by simp, by simp⟩
    · exact ⟨_, rfl, .cons ai.1 (.cons aj.1 .nil), by simp, by simp⟩
    · exact ⟨_, rfl, .cons ai.1 (.cons ah.1 (.cons ai.1 .nil)), by simp, by simp⟩
    · exact ⟨_, rfl, .cons ai.1 (.cons ah.2 (.cons ai.1 .nil)), by simp, by simp⟩
    · exact ⟨_, rfl, .cons ai.1 (.cons ah.1 (.cons ai.2 .nil)), by simp, by simp⟩
    · exact ⟨_, rfl, .cons ai.1 (.cons aj.1 (.cons ai.1 .nil)), by simp, by simp⟩
    · exact ⟨_, rfl, .cons ai.1 (.cons aj.2 .nil), by simp, by simp⟩
  have hlim : w.length + u.length ≤ 16777216 := by omega
  refine ⟨pR (pR (pR (pR q 8) 2) 60) 60, u, .int x, .int e, .int (1 + i), .int (1 + j), .int h, .lst [D.lst (mi [e * (1 + i)]), D.lst (mi [e * (1 + i), 0 - e * (1 + i)]), D.lst (mi [e * (1 + i), e * (1 + j)]), D.lst (mi [e * (1 + i), e * h, e * (1 + i)]), D.lst (mi [e * (1 + i), 0 - e * h, e * (1 + i)]), D.lst (mi [e * (1 + i), e * h, 0 - e * (1 + i)]), D.lst (mi [e * (1 + i), e * (1 + j), e * (1 + i)]), D.lst (mi [e * (1 + i), 0 - e * (1 + j)])], ?_, hu1, hu2, hu3⟩
  have hg : gNm 4 k [.own (.lst q.1), .dat (.int n), .dat (.int many), .dat (.lst (mi w)), s4, s5, s6, s7, s8, s9, s10] = some [.own (.lst q.1), .dat (.int n), .dat (.int many), .dat (.lst (mi w)), .dat k, s5, s6, s7, s8, s9, s10] := by
    simp [sSeq, sSet, sOwn, sAli, sAsg, sRet, sRetN, sIf, sPass, sExpr, sFor, sPar, sPar3, sParO, sParO3, eFnX, lendM, lends, lendD, lendR, atomD, keepO, slotOf, sOwn2, eFrz, tvT, truD, sortedD, insertD, eOp2, eOp1, eName, eD, ixD, setS_nw, setS_own, nwAt, noOwn_nw, peek_pl, gSb, gNm, gTp, gTq, gCs, gNl, getP, putP, addD, subD, mulD, modD, fdivD, powD, ltD, leD, gtD, geD, isD, isnotD, D.isN, negD, tvB, tvNot, tvAnd, tvOr, evT, evAnd, evOr, evNot, evIf, evChain, eCall, aCons, aNil, peeks, dats, lenD, intD, listD, tupleD, eTup, eLst, eSl, oNone, oSome, slD, revD, eLr1, eLr2, iSeq, iR1_eq, iR1f, iR2_eq, iR2f, iR3_eq, iR3f, iEnu, iZp, tYesM, eMeth, appendD, extendD, popD, reverseD, dropS, eFn, toArgs, backE, aft, finF, backs, eIsi, stp, lim, sTry, outGone, sRaise0, sRaise1, eIsx, eFldX, inD, notinD, sDelS, cutF, gCutD, evChain, O.toD, O.toD.go, eIxC, eTupO, tpO, aLast, eMov, O.get, O.set, ixF_ixS, p4]
  unfold stp
  rw [hg]
  simp only
  unfold b__law_rich_1
  rw [sSeq_nx [.own (.lst (pR (pR q 8) 2).1), .dat (.int n), .dat (.int many), .dat (.lst (mi w)), .dat k, .dat (.int x), .dat (.int e), s7, s8, s9, s10] (by simp [sSeq, sSet, sOwn, sAli, sAsg, sRet, sRetN, sIf, sPass, sExpr, sFor, sPar, sPar3, sParO, sParO3, eFnX, lendM, lends, lendD, lendR, atomD, keepO, slotOf, sOwn2, eFrz, tvT, truD, sortedD, insertD, eOp2, eOp1, eName, eD, ixD, setS_nw, setS_own, nwAt, noOwn_nw, peek_pl, gSb, gNm, gTp, gTq, gCs, gNl, getP, putP, addD, subD, mulD, modD, fdivD, powD, ltD, leD, gtD, geD, isD, isnotD, D.isN, negD, tvB, tvNot, tvAnd, tvOr, evT, evAnd, evOr, evNot, evIf, evChain, eCall, aCons, aNil, peeks, dats, lenD, intD, listD, tupleD, eTup, eLst, eSl, oNone, oSome, slD, revD, eLr1, eLr2, iSeq, iR1_eq, iR1f, iR2_eq, iR2f, iR3_eq, iR3f, iEnu, iZp, tYesM, eMeth, appendD, extendD, popD, reverseD, dropS, eFn, toArgs, backE, aft, finF, backs, eIsi, stp, lim, sTry, outGone, sRaise0, sRaise1, eIsx, eFldX, inD, notinD, sDelS, cutF, gCutD, evChain, O.toD, O.toD.go, eIxC, eTupO, tpO, aLast, eMov, O.get, O.set, ixF_ixS, pick_eq, hx, hs, p5, p6, p7, p8, p9, p10])]
  rw [sSeq_nx [.own (.lst (pR (pR (pR (pR q 8) 2) 60) 60).1), .dat (.int n), .dat (.int many), .dat (.lst (mi w)), .dat k, .dat (.int x), .dat (.int e), .dat (.int (1 + i)), .dat (.int (1 + j)), s9, s10] (by simp [sSeq, sSet, sOwn, sAli, sAsg, sRet, sRetN, sIf, sPass, sExpr, sFor, sPar, sPar3, sParO, sParO3, eFnX, lendM, lends, lendD, lendR, atomD, keepO, slotOf, sOwn2, eFrz, tvT, truD, sortedD, insertD, eOp2, eOp1, eName, eD, ixD, setS_nw, setS_own, nwAt, noOwn_nw, peek_pl, gSb, gNm, gTp, gTq, gCs, gNl, getP, putP, addD, subD, mulD, modD, fdivD, powD, ltD, leD, gtD, geD, isD, isnotD, D.isN, negD, tvB, tvNot, tvAnd, tvOr, evT, evAnd, evOr, evNot, evIf, evChain, eCall, aCons, aNil, peeks, dats, lenD, intD, listD, tupleD, eTup, eLst, eSl, oNone, oSome, slD, revD, eLr1, eLr2, iSeq, iR1_eq, iR1f, iR2_eq, iR2f, iR3_eq, iR3f, iEnu, iZp, tYesM, eMeth, appendD, extendD, popD, reverseD, dropS, eFn, toArgs, backE, aft, finF, backs, eIsi, stp, lim, sTry, outGone, sRaise0, sRaise1, eIsx, eFldX, inD, notinD, sDelS, cutF, gCutD, evChain, O.toD, O.toD.go, eIxC, eTupO, tpO, aLast, eMov, O.get, O.set, ixF_ixS, pick_eq, hii, hjj, hn, p7, p8, p9, p10])]
  rw [sSeq_nx [.own (.lst (pR (pR (pR (pR q 8) 2) 60) 60).1), .dat (.int n), .dat (.int many), .dat (.lst (mi w)), .dat k, .dat (.int x), .dat (.int e), .dat (.int (1 + i)), .dat (.int (1 + j)), .dat (.int h), s10] (by
    by_cases c : 1 + i = n - 1
    · rw [if_pos c] at hh
      simp [sSeq, sSet, sOwn, sAli, sAsg, sRet, sRetN, sIf, sPass, sExpr, sFor, sPar, sPar3, sParO, sParO3, eFnX, lendM, lends, lendD, lendR, atomD, keepO, slotOf, sOwn2, eFrz, tvT, truD, sortedD, insertD, eOp2, eOp1, eName, eD, ixD, setS_nw, setS_own, nwAt, noOwn_nw, peek_pl, gSb, gNm, gTp, gTq, gCs, gNl, getP, putP, addD, subD, mulD, modD, fdivD, powD, ltD, leD, gtD, geD, isD, isnotD, D.isN, negD, tvB, tvNot, tvAnd, tvOr, evT, evAnd, evOr, evNot, evIf, evChain, eCall, aCons, aNil, peeks, dats, lenD, intD, listD, tupleD, eTup, eLst, eSl, oNone, oSome, slD, revD, eLr1, eLr2, iSeq, iR1_eq, iR1f, iR2_eq, iR2f, iR3_eq, iR3f, iEnu, iZp, tYesM, eMeth, appendD, extendD, popD, reverseD, dropS, eFn, toArgs, backE, aft, finF, backs, eIsi, stp, lim, sTry, outGone, sRaise0, sRaise1, eIsx, eFldX, inD, notinD, sDelS, cutF, gCutD, evChain, O.toD, O.toD.go, eIxC, eTupO, tpO, aLast, eMov, O.get, O.set, ixF_ixS, p9, c] at hh ⊢
      omega
    · rw [if_neg c] at hh
      simp [sSeq, sSet, sOwn, sAli, sAsg, sRet, sRetN, sIf, sPass, sExpr, sFor, sPar, sPar3, sParO, sParO3, eFnX, lendM, lends, lendD, lendR, atomD, keepO, slotOf, sOwn2, eFrz, tvT, truD, sortedD, insertD, eOp2, eOp1, eName, eD, ixD, setS_nw, setS_own, nwAt, noOwn_nw, peek_pl, gSb, gNm, gTp, gTq, gCs, gNl, getP, putP, addD, subD, mulD, modD, fdivD, powD, ltD, leD, gtD, geD, isD, isnotD, D.isN, negD, tvB, tvNot, tvAnd, tvOr, evT, evAnd, evOr, evNot, evIf, evChain, eCall, aCons, aNil, peeks, dats, lenD, intD, listD, tupleD, eTup, eLst, eSl, oNone, oSome, slD, revD, eLr1, eLr2, iSeq, iR1_eq, iR1f, iR2_eq, iR2f, iR3_eq, iR3f, iEnu, iZp, tYesM, eMeth, appendD, extendD, popD, reverseD, dropS, eFn, toArgs, backE, aft, finF, backs, eIsi, stp, lim, sTry, outGone, sRaise0, sRaise1, eIsx, eFldX, inD, notinD, sDelS, cutF, gCutD, evChain, O.toD, O.toD.go, eIxC, eTupO, tpO, aLast, eMov, O.get, O.set, ixF_ixS, p9, c] at hh ⊢
      omega)]
  rw [sSeq_nx [.own (.lst (pR (pR (pR (pR q 8) 2) 60) 60).1), .dat (.int n), .dat (.int many), .dat (.lst (mi w)), .dat k, .dat (.int x), .dat (.int e), .dat (.int (1 + i)), .dat (.int (1 + j)), .dat (.int h), .dat (.lst [D.lst (mi [e * (1 + i)]), D.lst (mi [e * (1 + i), 0 - e * (1 + i)]), D.lst (mi [e * (1 + i), e * (1 + j)]), D.lst (mi [e * (1 + i), e * h, e * (1 + i)]), D.lst (mi [e * (1 + i), 0 - e * h, e * (1 + i)])])] (by simp [sSeq, sSet, sOwn, sAli, sAsg, sRet, sRetN, sIf, sPass, sExpr, sFor, sPar, sPar3, sParO, sParO3, eFnX, lendM, lends, lendD, lendR, atomD, keepO, slotOf, sOwn2, eFrz, tvT, truD, sortedD, insertD, eOp2, eOp1, eName, eD, ixD, setS_nw, setS_own, nwAt, noOwn_nw, peek_pl, gSb, gNm, gTp, gTq, gCs, gNl, getP, putP, addD, subD, mulD, modD, fdivD, powD, ltD, leD, gtD, geD, isD, isnotD, D.isN, negD, tvB, tvNot, tvAnd, tvOr, evT, evAnd, evOr, evNot, evIf, evChain, eCall, aCons, aNil, peeks, dats, lenD, intD, listD, tupleD, eTup, eLst, eSl, oNone, oSome, slD, revD, eLr1, eLr2, iSeq, iR1_eq, iR1f, iR2_eq, iR2f, iR3_eq, iR3f, iEnu, iZp, tYesM, eMeth, appendD, extendD, popD, reverseD, dropS, eFn, toArgs, backE, aft, finF, backs, eIsi, stp, lim, sTry, outGone, sRaise0, sRaise1, eIsx, eFldX, inD, notinD, sDelS, cutF, gCutD, evChain, O.toD, O.toD.go, eIxC, eTupO, tpO, aLast, eMov, O.get, O.set, ixF_ixS, hb, p10])]
  rw [sSeq_nx [.own (.lst (pR (pR (pR (pR q 8) 2) 60) 60).1), .dat (.int n), .dat (.int many), .dat (.lst (mi w)), .dat k, .dat (.int x), .dat (.int e), .dat (.int (1 + i)), .dat (.int (1 + j)), .dat (.int h), .dat (.lst [D.lst (mi [e * (1 + i)]), D.lst (mi [e * (1 + i), 0 - e * (1 + i)]), D.lst (mi [e * (1 + i), e * (1 + j)]), D.lst (mi [e * (1 + i), e * h, e * (1 + i)]), D.lst (mi [e * (1 + i), 0 - e * h, e * (1 + i)]), D.lst (mi [e * (1 + i), e * h, 0 - e * (1 + i)]), D.lst (mi [e * (1 + i), e * (1 + j), e * (1 + i)]), D.lst (mi [e * (1 + i), 0 - e * (1 + j)])])] (by simp [sSeq, sSet, sOwn, sAli, sAsg, sRet, sRetN, sIf, sPass, sExpr, sFor, sPar, sPar3, sParO, sParO3, eFnX, lendM, lends, lendD, lendR, atomD, keepO, slotOf, sOwn2, eFrz, tvT, truD, sortedD, insertD, eOp2, eOp1, eName, eD, ixD, setS_nw, setS_own, nwAt, noOwn_nw, peek_pl, gSb, gNm, gTp, gTq, gCs, gNl, getP, putP, addD, subD, mulD, modD, fdivD, powD, ltD, leD, gtD, geD, isD, isnotD, D.isN, negD, tvB, tvNot, tvAnd, tvOr, evT, evAnd, evOr, evNot, evIf, evChain, eCall, aCons, aNil, peeks, dats, lenD, intD, listD, tupleD, eTup, eLst, eSl, oNone, oSome, slD, revD, eLr1, eLr2, iSeq, iR1_eq, iR1f, iR2_eq, iR2f, iR3_eq, iR3f, iEnu, iZp, tYesM, eMeth, appendD, extendD, popD, reverseD, dropS, eFn, toArgs, backE, aft, finF, backs, eIsi, stp, lim, sTry, outGone, sRaise0, sRaise1, eIsx, eFldX, inD, notinD, sDelS, cutF, gCutD, evChain, O.toD, O.toD.go, eIxC, eTupO, tpO, aLast, eMov, O.get, O.set, ixF_ixS, hb])]
  simp only [Int.zero_sub] at hu ⊢
  simp [sSeq, sSet, sOwn, sAli, sAsg, sRet, sRetN, sIf, sPass, sExpr, sFor, sPar, sPar3, sParO, sParO3, eFnX, lendM, lends, lendD, lendR, atomD, keepO, slotOf, sOwn2, eFrz, tvT, truD, sortedD, insertD, eOp2, eOp1, eName, eD, ixD, setS_nw, setS_own, nwAt, noOwn_nw, peek_pl, gSb, gNm, gTp, gTq, gCs, gNl, getP, putP, addD, subD, mulD, modD, fdivD, powD, ltD, leD, gtD, geD, isD, isnotD, D.isN, negD, tvB, tvNot, tvAnd, tvOr, evT, evAnd, evOr, evNot, evIf, evChain, eCall, aCons, aNil, peeks, dats, lenD, intD, listD, tupleD, eTup, eLst, eSl, oNone, oSome, slD, revD, eLr1, eLr2, iSeq, iR1_eq, iR1f, iR2_eq, iR2f, iR3_eq, iR3f, iEnu, iZp, tYesM, eMeth, appendD, extendD, popD, reverseD, dropS, eFn, toArgs, backE, aft, finF, backs, eIsi, stp, lim, sTry, outGone, sRaise0, sRaise1, eIsx, eFldX, inD, notinD, sDelS, cutF, gCutD, evChain, O.toD, O.toD.go, eIxC, eTupO, tpO, aLast, eMov, O.get, O.set, ixF_ixS, hu, hlim]
theorem rich_step {q : Pool} {n many : Int} {w : List Int} {k : D} {s5 s6 s7 s8 s9 s10 s4 : S} (hn : 1 < n) (h8 : n ≤ 8) (hw : Wd n w) (hl : w.length ≤ 1000) (p4 : Pl s4 = true) (p5 : Pl s5 = true) (p6 : Pl s6 = true) (p7 : Pl s7 = true) (p8 : Pl s8 = true) (p9 : Pl s9 = true) (p10 : Pl s10 = true) :
    ∃ (q' : Pool) (u : List Int) (a b c d e f : D), stp (gNm 4) b__law_rich_1 k [.own (.lst q.1), .dat (.int n), .dat (.int many), .dat (.lst (mi w)), s4, s5, s6, s7, s8, s9, s10] = .nx [.own (.lst q'.1), .dat (.int n), .dat (.int many), .dat (.lst (mi (w ++ u))), .dat k, .dat a, .dat b, .dat c, .dat d, .dat e, .dat f] ∧ Wd n u ∧ u.length ≤ 3 := by
  obtain ⟨q', u, a, b, c, d, e, f, h1, h2, h3, _⟩ := rich_step1 (q := q) (many := many) (k := k) hn h8 hw hl p4 p5 p6 p7 p8 p9 p10
  exact ⟨q', u, a, b, c, d, e, f, h1, h2, h3⟩

structure RSt where
  q : Pool
  w : List Int
  a : S
  b : S
  c : S
  d : S
  e : S
  f : S
  g : S
def RSt.env (n many : Int) (r : RSt) : Ve := [.own (.lst r.q.1), .dat (.int n), .dat (.int many), .dat (.lst (mi r.w)), r.a, r.b, r.c, r.d, r.e, r.f, r.g]
theorem rich_ok1 (q : Pool) {n many : Int} (h1 : 1 ≤ n) (h8 : n ≤ 8) (hm : 0 ≤ many) (hm2 : many ≤ 60) : ∃ (w : List Int) (q' : Pool), f__law_rich [.own (.lst q.1), .dat (.int n), .dat (.int many)] = .ok (.dat (.lst (mi w))) [.lst q'.1] ∧ Wd n w ∧ w.length ≤ 180 ∧ (1 < n → many.toNat ≤ w.length) := by
  unfold f__law_rich
  rw [runF_eq (by rfl) (by rfl)]
  by_cases c : 1 < n
  · obtain ⟨r, e, g1, g2, g3, _⟩ := forL_st (gm := gNm 4) (body := b__law_rich_1) (RSt.env n many) (fun i r => Wd n r.w ∧ r.w.length ≤ 3 * i ∧ i ≤ r.w.length ∧ Pl r.a = true ∧ Pl r.b = true ∧ Pl r.c = true ∧ Pl r.d = true ∧ Pl r.e = true ∧ Pl r.f = true ∧ Pl r.g = true) (ds := mi (rg 0 many.toNat)) (i := 0) (a := ⟨q, [], .un, .un, .un, .un, .un, .un, .un⟩) ⟨Wd.nil, by simp, by simp, rfl, rfl, rfl, rfl, rfl, rfl, rfl⟩ fun k r hk0 hk d hd ⟨x1, x2, x0, x3, x4, x5, x6, x7, x8, x9⟩ => by
      simp only [mi_length, rg_length] at hk
      obtain ⟨q', u, a', b', c', d', e', f', hst, hu1, hu2, hu3⟩ := rich_step1 (q := r.q) (many := many) (k := d) c h8 x1 (by omega) x3 x4 x5 x6 x7 x8 x9
      exact ⟨⟨q', r.w ++ u, .dat d, .dat a', .dat b', .dat c', .dat d', .dat e', .dat f'⟩, .inl hst, x1.app hu1, by simp only [List.length_append]; omega, by simp only [List.length_append]; omega, rfl, rfl, rfl, rfl, rfl, rfl, rfl⟩
    simp only [mi_length, rg_length] at g2 g3
    have hs : smI many = true := smI_nat (by omega) (by omega)
    have e' : forL (gNm 4) b__law_rich_1 (mi (rg 0 many.toNat)) [.own (.lst q.1), .dat (.int n), .dat (.int many), .dat (.lst (mi [])), .un, .un, .un, .un, .un, .un, .un] = .nx (r.env n many) := e
    refine ⟨r.w, r.q, ?_, g1, by omega, fun _ => by omega⟩
    simp [m__law_rich, sSeq, sSet, sOwn, sAli, sAsg, sRet, sRetN, sIf, sPass, sExpr, sFor, sPar, sPar3, sParO, sParO3, eFnX, lendM, lends, lendD, lendR, atomD, keepO, slotOf, sOwn2, eFrz, tvT, truD, sortedD, insertD, eOp2, eOp1, eName, eD, ixD, setS_nw, setS_own, nwAt, noOwn_nw, peek_pl, gSb, gNm, gTp, gTq, gCs, gNl, getP, putP, addD, subD, mulD, modD, fdivD, powD, ltD, leD, gtD, geD, isD, isnotD, D.isN, negD, tvB, tvNot, tvAnd, tvOr, evT, evAnd, evOr, evNot, evIf, evChain, eCall, aCons, aNil, peeks, dats, lenD, intD, listD, tupleD, eTup, eLst, eSl, oNone, oSome, slD, revD, eLr1, eLr2, iSeq, iR1_eq, iR1f, iR2_eq, iR2f, iR3_eq, iR3f, iEnu, iZp, tYesM, eMeth, appendD, extendD, popD, reverseD, dropS, eFn, toArgs, backE, aft, finF, backs, eIsi, stp, lim, sTry, outGone, sRaise0, sRaise1, eIsx, eFldX, inD, notinD, sDelS, cutF, gCutD, evChain, O.toD, O.toD.go, eIxC, eTupO, tpO, aLast, eMov, O.get, O.set, ixF_ixS, c, hs, e', RSt.env]
  · refine ⟨[], q, ?_, Wd.nil, by simp, fun h => (c h).elim⟩
    have e' : ∀ e, forL (gNm 4) b__law_rich_1 (mi (rg 0 0)) e = .nx e := fun e => rfl
    simp [m__law_rich, sSeq, sSet, sOwn, sAli, sAsg, sRet, sRetN, sIf, sPass, sExpr, sFor, sPar, sPar3, sParO, sParO3, eFnX, lendM, lends, lendD, lendR, atomD, keepO, slotOf, sOwn2, eFrz, tvT, truD, sortedD, insertD, eOp2, eOp1, eName, eD, ixD, setS_nw, setS_own, nwAt, noOwn_nw, peek_pl, gSb, gNm, gTp, gTq, gCs, gNl, getP, putP, addD, subD, mulD, modD, fdivD, powD, ltD, leD, gtD, geD, isD, isnotD, D.isN, negD, tvB, tvNot, tvAnd, tvOr, evT, evAnd, evOr, evNot, evIf, evChain, eCall, aCons, aNil, peeks, dats, lenD, intD, listD, tupleD, eTup, eLst, eSl, oNone, oSome, slD, revD, eLr1, eLr2, iSeq, iR1_eq, iR1f, iR2_eq, iR2f, iR3_eq, iR3f, iEnu, iZp, tYesM, eMeth, appendD, extendD, popD, reverseD, dropS, eFn, toArgs, backE, aft, finF, backs, eIsi, stp, lim, sTry, outGone, sRaise0, sRaise1, eIsx, eFldX, inD, notinD, sDelS, cutF, gCutD, evChain, O.toD, O.toD.go, eIxC, eTupO, tpO, aLast, eMov, O.get, O.set, ixF_ixS, c, e']
theorem rich_ok (q : Pool) {n many : Int} (h1 : 1 ≤ n) (h8 : n ≤ 8) (hm : 0 ≤ many) (hm2 : many ≤ 60) : ∃ (w : List Int) (q' : Pool), f__law_rich [.own (.lst q.1), .dat (.int n), .dat (.int many)] = .ok (.dat (.lst (mi w))) [.lst q'.1] ∧ Wd n w ∧ w.length ≤ 180 := by
  obtain ⟨w, q', h, hw, hl, _⟩ := rich_ok1 q h1 h8 hm hm2
  exact ⟨w, q', h, hw, hl⟩
/-- steps that are drawn -/
inductive St : D → Prop
  | turn (i : Int) : St (.tup [.str "turn", .int i])
  | grow (i : Int) : St (.tup [.str "grow", .int i])
  | shrink : St (.tup [.str "shrink"])
  | put (p i : Int) : St (.tup [.str "put", .int p, .int i])
  | take (p : Int) : St (.tup [.str "take", .int p])
  | far (p : Int) : St (.tup [.str "far", .int p])
  | near (p : Int) : St (.tup [.str "near", .int p])
theorem lay_take : PyData.canLay0 (.str ("take" : Str)) = true := by decide +kernel
theorem lay_far : PyData.canLay0 (.str ("far" : Str)) = true := by decide +kernel
theorem lay_near : PyData.canLay0 (.str ("near" : Str)) = true := by decide +kernel
theorem lay_put : PyData.canLay0 (.str ("put" : Str)) = true := by decide +kernel
theorem lay_turn : PyData.canLay0 (.str ("turn" : Str)) = true := by decide +kernel
theorem lay_grow : PyData.canLay0 (.str ("grow" : Str)) = true := by decide +kernel
theorem lay_shrink : PyData.canLay0 (.str ("shrink" : Str)) = true := by decide +kernel
theorem fit1 {k : Nat} {a : D} (h : Fit k a) : Fit (k + 1) (.tup [a]) := ⟨by simp, fun x hx => by
  simp only [List.mem_cons, List.not_mem_nil, or_false] at hx
  subst hx; exact h⟩
theorem fit2 {k : Nat} {a b : D} (h : Fit k a) (h2 : Fit k b) : Fit (k + 1) (.tup [a, b]) := ⟨by simp, fun x hx => by
  simp only [List.mem_cons, List.not_mem_nil, or_false] at hx
  rcases hx with rfl | rfl
  · exact h
  · exact h2⟩
theorem fit3 {k : Nat} {a b c : D} (h : Fit k a) (h2 : Fit k b) (h3 : Fit k c) : Fit (k + 1) (.tup [a, b, c]) := ⟨by simp, fun x hx => by
  simp only [List.mem_cons, List.not_mem_nil, or_false] at hx
  rcases hx with rfl | rfl | rfl
  · exact h
  · exact h2
  · exact h3⟩
theorem fiti (k : Nat) (i : Int) : Fit (k + 1) (.int i) := trivial
theorem St.fit {d : D} (h : St d) : Fit 2 d := by
  cases h with
  | turn i => exact fit2 (k := 1) lay_turn (fiti 0 i)
  | grow i => exact fit2 (k := 1) lay_grow (fiti 0 i)
  | shrink => exact fit1 (k := 1) lay_shrink
  | put p i => exact fit3 (k := 1) lay_put (fiti 0 p) (fiti 0 i)
  | take p => exact fit2 (k := 1) lay_take (fiti 0 p)
  | far p => exact fit2 (k := 1) lay_far (fiti 0 p)
  | near p => exact fit2 (k := 1) lay_near (fiti 0 p)

theorem kept_ok (e : Er) : f__law_kept [.own (.exn e.exn.c e.exn.fs)] = .ok (.dat e.kept) [.exn e.exn.c e.exn.fs] := by
  unfold f__law_kept
  rw [runF_eq (by rfl) (by rfl)]
  cases e <;> simp [m__law_kept, sSeq, sSet, sOwn, sAli, sAsg, sRet, sRetN, sIf, sPass, sExpr, sFor, sPar, sPar3, sParO, sParO3, eFnX, lendM, lends, lendD, lendR, atomD, keepO, slotOf, sOwn2, eFrz, tvT, truD, sortedD, insertD, eOp2, eOp1, eName, eD, ixD, setS_nw, setS_own, nwAt, noOwn_nw, peek_pl, gSb, gNm, gTp, gTq, gCs, gNl, getP, putP, addD, subD, mulD, modD, fdivD, powD, ltD, leD, gtD, geD, isD, isnotD, D.isN, negD, tvB, tvNot, tvAnd, tvOr, evT, evAnd, evOr, evNot, evIf, evChain, eCall, aCons, aNil, peeks, dats, lenD, intD, listD, tupleD, eTup, eLst, eSl, oNone, oSome, slD, revD, eLr1, eLr2, iSeq, iR1_eq, iR1f, iR2_eq, iR2f, iR3_eq, iR3f, iEnu, iZp, tYesM, eMeth, appendD, extendD, popD, reverseD, dropS, eFn, toArgs, backE, aft, finF, backs, eIsi, stp, lim, sTry, outGone, sRaise0, sRaise1, eIsx, eFldX, inD, notinD, sDelS, cutF, gCutD, evChain, O.toD, O.toD.go, eIxC, eTupO, tpO, aLast, eMov, O.get, O.set, ixF_ixS, Er.exn, Er.kept, List.lookup]
/-- the word behind a row of moves -/
def mvB (n : Int) (w : List Int) : List D → Option (List Int)
  | [] => some w
  | s :: r => match bhd n w s with
    | none => none
    | some u => if 4000 < u.length then none else mvB n u r
def mvR (n : Int) (w v : List Int) : D → Bool
  | .lst vs => match mvB n w vs with
    | some b => decide (b = v)
    | none => false
  | _ => false
/-! towers of moves -/
theorem mvB_app {n : Int} : ∀ {a b : List D} {w : List Int}, mvB n w (a ++ b) = (mvB n w a).bind fun u => mvB n u b
  | [], b, w => rfl
  | s :: a, b, w => by
    show mvB n w (s :: (a ++ b)) = _
    rw [mvB, mvB]
    cases bhd n w s with
    | none => rfl
    | some u =>
      simp only
      split
      · rfl
      · exact mvB_app
def putM (l p : Int) : D := .tup [.str "put", .int p, .int l]
def takeM (p : Int) : D := .tup [.str "take", .int p]
theorem bhd_put {n l : Int} {u v : List Int} (hl : l ≠ 0 ∧ (l.natAbs : Int) < n) : bhd n (u ++ v) (putM l u.length) = some (u ++ l :: -l :: v) := by
  have c : (0 : Int) ≤ (u.length : Int) ∧ (u.length : Int) ≤ ((u ++ v).length : Int) ∧ ("put" : Str) = "put" ∧ l ≠ 0 ∧ (l.natAbs : Int) < n := ⟨by omega, by simp; omega, rfl, hl.1, hl.2⟩
  show (if _ then _ else _) = _
  rw [if_pos c]
  simp
theorem bhd_take {n l : Int} {u v : List Int} : bhd n (u ++ l :: -l :: v) (takeM u.length) = some (u ++ v) := by
  simp only [takeM, bhd]
  rw [if_pos ⟨by omega, by simp; omega⟩]
  simp [bhd2]
  omega
theorem tower {n l : Int} (hl : l ≠ 0 ∧ (l.natAbs : Int) < n) : ∀ {ps : List Int} {w : List Int}, (∀ p ∈ ps, 0 ≤ p ∧ p ≤ w.length) → w.length ≤ 4000 →
    mvB n w (ps.map (putM l) ++ ps.reverse.map takeM) = if w.length + 2 * ps.length ≤ 4000 then some w else none
  | [], w, _, hw => by simp [mvB, hw]
  | p :: ps, w, h, hw => by
    obtain ⟨u, v, rfl, rfl⟩ := split_at (h p List.mem_cons_self)
    have e : ((u.length : Int) :: ps).map (putM l) ++ ((u.length : Int) :: ps).reverse.map takeM = putM l u.length :: ((ps.map (putM l) ++ ps.reverse.map takeM) ++ [takeM u.length]) := by simp
    rw [e]
    unfold mvB
    rw [bhd_put hl]
    simp only
    by_cases c : 4000 < (u ++ l :: -l :: v).length
    · rw [if_pos c, if_neg (by simp at c ⊢; omega)]
    · rw [if_neg c, mvB_app]
      have ih := tower hl (ps := ps) (w := u ++ l :: -l :: v) (fun q hq => by
        have := h q (List.mem_cons_of_mem _ hq)
        simp at this ⊢
        omega) (by omega)
      rw [ih]
      by_cases c2 : (u ++ l :: -l :: v).length + 2 * ps.length ≤ 4000
      · rw [if_pos c2, if_pos (by simp at c2 ⊢; omega)]
        simp only [Option.bind_some]
        unfold mvB
        rw [bhd_take]
        simp only
        rw [if_neg (by omega)]
        rfl
      · rw [if_neg c2, if_neg (by simp at c2 ⊢; omega)]
        rfl

theorem classes_mv : f__law_classes [.own (.exn "BadMove" [])] = .ok (.new (.lst [.str "move"])) [.exn "BadMove" []] := by
  unfold f__law_classes
  rw [runF_eq (by rfl) (by rfl)]
  have c := fun H => cls_loop (X := .own (.exn "BadMove" [])) (H := H) (.inr ⟨_, rfl⟩) (ps := [(("strands" : Str), false), (("word" : Str), false), (("long" : Str), false), (("letter" : Str), false), (("places" : Str), false), (("move" : Str), true), (("turning" : Str), false), (("form" : Str), false), (("many" : Str), false), (("handle" : Str), false), (("list" : Str), false), (("numbers" : Str), false), (("number" : Str), false), (("range" : Str), false), (("deed" : Str), false), (("paper" : Str), false), (("use" : Str), false), (("positive" : Str), false), (("curve" : Str), false), (("undo" : Str), false), (("redo" : Str), false), (("name" : Str), false), (("entry" : Str), false), (("text" : Str), false)]) (acc := []) (by decide)
  simp at c
  simp [m__law_classes, sSeq, sSet, sOwn, sAli, sAsg, sRet, sRetN, sIf, sPass, sExpr, sFor, sPar, sPar3, sParO, sParO3, eFnX, lendM, lends, lendD, lendR, atomD, keepO, slotOf, sOwn2, eFrz, tvT, truD, sortedD, insertD, eOp2, eOp1, eName, eD, ixD, setS_nw, setS_own, nwAt, noOwn_nw, peek_pl, gSb, gNm, gTp, gTq, gCs, gNl, getP, putP, addD, subD, mulD, modD, fdivD, powD, ltD, leD, gtD, geD, isD, isnotD, D.isN, negD, tvB, tvNot, tvAnd, tvOr, evT, evAnd, evOr, evNot, evIf, evChain, eCall, aCons, aNil, peeks, dats, lenD, intD, listD, tupleD, eTup, eLst, eSl, oNone, oSome, slD, revD, eLr1, eLr2, iSeq, iR1_eq, iR1f, iR2_eq, iR2f, iR3_eq, iR3f, iEnu, iZp, tYesM, eMeth, appendD, extendD, popD, reverseD, dropS, eFn, toArgs, backE, aft, finF, backs, eIsi, stp, lim, sTry, outGone, sRaise0, sRaise1, eIsx, eFldX, inD, notinD, sDelS, cutF, gCutD, evChain, O.toD, O.toD.go, eIxC, eTupO, tpO, aLast, eMov, O.get, O.set, ixF_ixS, eComp, c]
theorem kept_mv : f__law_kept [.own (.exn "BadMove" [])] = .ok (.dat .non) [.exn "BadMove" []] := by
  unfold f__law_kept
  rw [runF_eq (by rfl) (by rfl)]
  simp [m__law_kept, sSeq, sSet, sOwn, sAli, sAsg, sRet, sRetN, sIf, sPass, sExpr, sFor, sPar, sPar3, sParO, sParO3, eFnX, lendM, lends, lendD, lendR, atomD, keepO, slotOf, sOwn2, eFrz, tvT, truD, sortedD, insertD, eOp2, eOp1, eName, eD, ixD, setS_nw, setS_own, nwAt, noOwn_nw, peek_pl, gSb, gNm, gTp, gTq, gCs, gNl, getP, putP, addD, subD, mulD, modD, fdivD, powD, ltD, leD, gtD, geD, isD, isnotD, D.isN, negD, tvB, tvNot, tvAnd, tvOr, evT, evAnd, evOr, evNot, evIf, evChain, eCall, aCons, aNil, peeks, dats, lenD, intD, listD, tupleD, eTup, eLst, eSl, oNone, oSome, slD, revD, eLr1, eLr2, iSeq, iR1_eq, iR1f, iR2_eq, iR2f, iR3_eq, iR3f, iEnu, iZp, tYesM, eMeth, appendD, extendD, popD, reverseD, dropS, eFn, toArgs, backE, aft, finF, backs, eIsi, stp, lim, sTry, outGone, sRaise0, sRaise1, eIsx, eFldX, inD, notinD, sDelS, cutF, gCutD, evChain, O.toD, O.toD.go, eIxC, eTupO, tpO, aLast, eMov, O.get, O.set, ixF_ixS]
/-- what move is due to tell -/
def mvE (o : Option (List Int)) : FRes := match o with
  | none => .ex ⟨"BadMove", []⟩ []
  | some u => if 4000 < u.length then .ex (Er.long u.length).exn [] else .ok (.new (.lst (mi u))) []
theorem move_ok {n : Int} {w : List Int} {k : Nat} {step : D} (hf : Fit k step) (hk : k ≤ 60) (he : ferr (.int n) (.lst (mi w)) 4000 = none) : f_move [.dat (.int n), .dat (.lst (mi w)), .dat step] = mvE (bhd n w step) := by
  obtain ⟨m, x, e1, e2, a1, a8, al, ax⟩ := ferr_none he
  cases e1
  have e3 : w = x := by
    have := congrArg (fun d => match d with | D.lst xs => intsOf xs | _ => none) e2
    simpa using this
  subst e3
  have hl := letters_ok (n := .int n) (w := .lst (mi w)) (most := 4000) trivial ⟨by rw [mi_length]; omega, fun d m ns e => by
    obtain ⟨i, _, rfl⟩ := List.mem_map.1 m
    cases e⟩
  rw [he] at hl
  have ht := try_ok (n := n) (w := w) hf hk (by omega)
  unfold f_move
  rw [runF_eq (by rfl) (by rfl)]
  cases hb : bhd n w step with
  | none =>
    rw [hb] at ht
    simp [m_move, sSeq, sSet, sOwn, sAli, sAsg, sRet, sRetN, sIf, sPass, sExpr, sFor, sPar, sPar3, sParO, sParO3, eFnX, lendM, lends, lendD, lendR, atomD, keepO, slotOf, sOwn2, eFrz, tvT, truD, sortedD, insertD, eOp2, eOp1, eName, eD, ixD, setS_nw, setS_own, nwAt, noOwn_nw, peek_pl, gSb, gNm, gTp, gTq, gCs, gNl, getP, putP, addD, subD, mulD, modD, fdivD, powD, ltD, leD, gtD, geD, isD, isnotD, D.isN, negD, tvB, tvNot, tvAnd, tvOr, evT, evAnd, evOr, evNot, evIf, evChain, eCall, aCons, aNil, peeks, dats, lenD, intD, listD, tupleD, eTup, eLst, eSl, oNone, oSome, slD, revD, eLr1, eLr2, iSeq, iR1_eq, iR1f, iR2_eq, iR2f, iR3_eq, iR3f, iEnu, iZp, tYesM, eMeth, appendD, extendD, popD, reverseD, dropS, eFn, toArgs, backE, aft, finF, backs, eIsi, stp, lim, sTry, outGone, sRaise0, sRaise1, eIsx, eFldX, inD, notinD, sDelS, cutF, gCutD, evChain, O.toD, O.toD.go, eIxC, eTupO, tpO, aLast, eMov, O.get, O.set, ixF_ixS, hl, erR, ht, tR, mvE]
  | some u =>
    rw [hb] at ht
    by_cases c : 4000 < u.length
    · have c2 : (4000 : Int) < u.length := by omega
      simp [m_move, sSeq, sSet, sOwn, sAli, sAsg, sRet, sRetN, sIf, sPass, sExpr, sFor, sPar, sPar3, sParO, sParO3, eFnX, lendM, lends, lendD, lendR, atomD, keepO, slotOf, sOwn2, eFrz, tvT, truD, sortedD, insertD, eOp2, eOp1, eName, eD, ixD, setS_nw, setS_own, nwAt, noOwn_nw, peek_pl, gSb, gNm, gTp, gTq, gCs, gNl, getP, putP, addD, subD, mulD, modD, fdivD, powD, ltD, leD, gtD, geD, isD, isnotD, D.isN, negD, tvB, tvNot, tvAnd, tvOr, evT, evAnd, evOr, evNot, evIf, evChain, eCall, aCons, aNil, peeks, dats, lenD, intD, listD, tupleD, eTup, eLst, eSl, oNone, oSome, slD, revD, eLr1, eLr2, iSeq, iR1_eq, iR1f, iR2_eq, iR2f, iR3_eq, iR3f, iEnu, iZp, tYesM, eMeth, appendD, extendD, popD, reverseD, dropS, eFn, toArgs, backE, aft, finF, backs, eIsi, stp, lim, sTry, outGone, sRaise0, sRaise1, eIsx, eFldX, inD, notinD, sDelS, cutF, gCutD, evChain, O.toD, O.toD.go, eIxC, eTupO, tpO, aLast, eMov, O.get, O.set, ixF_ixS, hl, erR, ht, tR, mvE, c, c2, Er.exn]
    · have c2 : ¬ (4000 : Int) < u.length := by omega
      simp [m_move, sSeq, sSet, sOwn, sAli, sAsg, sRet, sRetN, sIf, sPass, sExpr, sFor, sPar, sPar3, sParO, sParO3, eFnX, lendM, lends, lendD, lendR, atomD, keepO, slotOf, sOwn2, eFrz, tvT, truD, sortedD, insertD, eOp2, eOp1, eName, eD, ixD, setS_nw, setS_own, nwAt, noOwn_nw, peek_pl, gSb, gNm, gTp, gTq, gCs, gNl, getP, putP, addD, subD, mulD, modD, fdivD, powD, ltD, leD, gtD, geD, isD, isnotD, D.isN, negD, tvB, tvNot, tvAnd, tvOr, evT, evAnd, evOr, evNot, evIf, evChain, eCall, aCons, aNil, peeks, dats, lenD, intD, listD, tupleD, eTup, eLst, eSl, oNone, oSome, slD, revD, eLr1, eLr2, iSeq, iR1_eq, iR1f, iR2_eq, iR2f, iR3_eq, iR3f, iEnu, iZp, tYesM, eMeth, appendD, extendD, popD, reverseD, dropS, eFn, toArgs, backE, aft, finF, backs, eIsi, stp, lim, sTry, outGone, sRaise0, sRaise1, eIsx, eFldX, inD, notinD, sDelS, cutF, gCutD, evChain, O.toD, O.toD.go, eIxC, eTupO, tpO, aLast, eMov, O.get, O.set, ixF_ixS, hl, erR, ht, tR, mvE, c, c2]

def due8 (n w step : D) : D := match ferr n w 4000 with
  | some e => .tup [.str "refused", .lst [.str e.nm], e.kept]
  | none => match n, w with
    | .int a, .lst xs => match bhd a ((intsOf xs).getD []) step with
      | none => .tup [.str "refused", .lst [.str "move"], .non]
      | some u => if 4000 < u.length then .tup [.str "refused", .lst [.str "long"], .int u.length] else .tup [.str "told", .lst (mi u)]
    | _, _ => .non
theorem eqD_refl {k : Nat} {d : D} (h : Fit k d) (hk : k ≤ 60) : eqD d d = some (.dat (.bl true)) := by
  unfold eqD eqB
  rw [fit_ok h hk, PySem.SeqAt.eqv_refl d.py (fit_eq h).2.1]
  rfl
theorem neD_refl {k : Nat} {d : D} (h : Fit k d) (hk : k ≤ 60) : neD d d = some (.dat (.bl false)) := by
  unfold neD eqB
  rw [fit_ok h hk, PySem.SeqAt.eqv_refl d.py (fit_eq h).2.1]
  rfl

theorem er_fit3 (e : Er) : Fit 3 (.tup [.str "refused", .lst [.str e.nm], e.kept]) := ⟨by simp, fun x hx => by
  have r : PyData.canLay0 (.str ("refused" : Str)) = true := by decide +kernel
  simp only [List.mem_cons, List.not_mem_nil, or_false] at hx
  rcases hx with rfl | rfl | rfl
  · exact r
  · exact e.fit.1
  · exact e.fit.2.succ⟩
theorem copy_comp {B : List D} {own : List Nat} {c : EM} {env : Ve} {i : Nat} (hB : B.length ≤ 16000000) (hf : freeV own env = true)
    (h : ∀ x, ∃ e2, gNm i x (wipeV own env) = some e2 ∧ ∃ e4, hold true (c e2) = .ok (.dat x) e4 ∧ freeV own e4 = true ∧ e4.length = env.length ∧ restV own env e4 = env) :
    compL own (gNm i) tYesM c B env [] = .ok (.new (.lst B)) env := by
  have := comp_gen (own := own) (gm := gNm i) (em := c) (env := env) id hf (w := B) (acc := []) (by simp [lim]; omega) fun x _ => h x
  simpa using this
end Law
namespace Law
open PySem DL Mir
@[simp] theorem isI_scr (i : List Int) : isI (.scr i) = false := rfl
def tdE (o : Option (List Int)) : Ev := match o with
  | none => .dat (.tup [.str "refused", .lst [.str "move"], .non])
  | some u => .new (.mtp [.dat (.str "told"), .lst (mi u)])
def tdD (o : Option (List Int)) : D := match o with
  | none => .tup [.str "refused", .lst [.str "move"], .non]
  | some u => .tup [.str "told", .lst (mi u)]
theorem told5_ok {n : Int} {w : List Int} {step : D} {k : Nat} (hf : Fit k step) (hk : k ≤ 60) (h1 : 1 ≤ n) (h8 : n ≤ 8) (hw : Wd n w) (hl : w.length ≤ 3000) : f__law_told [.dat (.int n), .dat (.lst (mi w)), .dat step] = .ok (tdE (bhd n w step)) [] := by
  have hm := move_ok hf hk (ferr_ok (most := 4000) h1 h8 (by omega) hw)
  unfold f__law_told
  rw [runF_eq (by rfl) (by rfl)]
  cases hbb : bhd n w step with
  | none =>
    rw [hbb] at hm
    have k1 := classes_mv
    have k2 := kept_mv
    simp [m__law_told, sSeq, sSet, sOwn, sAli, sAsg, sRet, sRetN, sIf, sPass, sExpr, sFor, sPar, sPar3, sParO, sParO3, eFnX, lendM, lends, lendD, lendR, atomD, keepO, slotOf, sOwn2, eFrz, tvT, truD, sortedD, insertD, eOp2, eOp1, eName, eD, ixD, setS_nw, setS_own, nwAt, noOwn_nw, peek_pl, gSb, gNm, gTp, gTq, gCs, gNl, getP, putP, addD, subD, mulD, modD, fdivD, powD, ltD, leD, gtD, geD, isD, isnotD, D.isN, negD, tvB, tvNot, tvAnd, tvOr, evT, evAnd, evOr, evNot, evIf, evChain, eCall, aCons, aNil, peeks, dats, lenD, intD, listD, tupleD, eTup, eLst, eSl, oNone, oSome, slD, revD, eLr1, eLr2, iSeq, iR1_eq, iR1f, iR2_eq, iR2f, iR3_eq, iR3f, iEnu, iZp, tYesM, eMeth, appendD, extendD, popD, reverseD, dropS, eFn, toArgs, backE, aft, finF, backs, eIsi, stp, lim, sTry, outGone, sRaise0, sRaise1, eIsx, eFldX, inD, notinD, sDelS, cutF, gCutD, evChain, O.toD, O.toD.go, eIxC, eTupO, tpO, aLast, eMov, O.get, O.set, ixF_ixS, hm, mvE, k1, k2, tdE]
  | some u =>
    rw [hbb] at hm
    have := bhd_len hbb
    have c : ¬ 4000 < u.length := by omega
    simp only [mvE, if_neg c] at hm
    simp [m__law_told, sSeq, sSet, sOwn, sAli, sAsg, sRet, sRetN, sIf, sPass, sExpr, sFor, sPar, sPar3, sParO, sParO3, eFnX, lendM, lends, lendD, lendR, atomD, keepO, slotOf, sOwn2, eFrz, tvT, truD, sortedD, insertD, eOp2, eOp1, eName, eD, ixD, setS_nw, setS_own, nwAt, noOwn_nw, peek_pl, gSb, gNm, gTp, gTq, gCs, gNl, getP, putP, addD, subD, mulD, modD, fdivD, powD, ltD, leD, gtD, geD, isD, isnotD, D.isN, negD, tvB, tvNot, tvAnd, tvOr, evT, evAnd, evOr, evNot, evIf, evChain, eCall, aCons, aNil, peeks, dats, lenD, intD, listD, tupleD, eTup, eLst, eSl, oNone, oSome, slD, revD, eLr1, eLr2, iSeq, iR1_eq, iR1f, iR2_eq, iR2f, iR3_eq, iR3f, iEnu, iZp, tYesM, eMeth, appendD, extendD, popD, reverseD, dropS, eFn, toArgs, backE, aft, finF, backs, eIsi, stp, lim, sTry, outGone, sRaise0, sRaise1, eIsx, eFldX, inD, notinD, sDelS, cutF, gCutD, evChain, O.toD, O.toD.go, eIxC, eTupO, tpO, aLast, eMov, O.get, O.set, ixF_ixS, hm, c, tdE]
theorem tdD_fit {o : Option (List Int)} (h : ∀ u, o = some u → u.length ≤ 16000000) : Fit 5 (tdD o) := by
  have r : PyData.canLay0 (.str ("refused" : Str)) = true := by decide +kernel
  have t : PyData.canLay0 (.str ("told" : Str)) = true := by decide +kernel
  have m : PyData.canLay0 (.str ("move" : Str)) = true := by decide +kernel
  cases o with
  | none => exact fit3 (k := 4) r ⟨by simp, fun x hx => by simp at hx; subst hx; exact m⟩ (show Fit 4 .non from trivial)
  | some u => exact fit2 (k := 4) t (fit_mi (k := 2) (h u rfl))
def wayB (w : List Int) (d : D) : D := match d with
  | .tup [.str nm, .int p] => if nm = "take" then .tup [.str "put", .int p, .int ((L2.atI w p).getD 0)] else d
  | .tup [.str nm, .int p, .int l] => .tup [.str "take", .int p]
  | _ => d
theorem way_ok {n : Int} {w u : List Int} {d : D} (h : bhd n w d = some u) : f__law_way_back [.dat (.lst (mi w)), .dat d] = .ok (.dat (wayB w d)) [] := by
  unfold f__law_way_back
  rw [runF_eq (by rfl) (by rfl)]
  unfold bhd at h
  split at h
  · rename_i nm p
    split at h
    · rename_i hp
      obtain ⟨a, b, rfl, rfl⟩ := split_at hp
      simp at h
      by_cases c : nm = "take"
      · subst c
        match b, h with
        | x :: y :: r, h =>
          have hat : L2.atI (a ++ x :: y :: r) (a.length : Int) = some x := by rw [atI_pos (by omega)]; simp
          simp [m__law_way_back, sSeq, sSet, sOwn, sAli, sAsg, sRet, sRetN, sIf, sPass, sExpr, sFor, sPar, sPar3, sParO, sParO3, eFnX, lendM, lends, lendD, lendR, atomD, keepO, slotOf, sOwn2, eFrz, tvT, truD, sortedD, insertD, eOp2, eOp1, eName, eD, ixD, setS_nw, setS_own, nwAt, noOwn_nw, peek_pl, gSb, gNm, gTp, gTq, gCs, gNl, getP, putP, addD, subD, mulD, modD, fdivD, powD, ltD, leD, gtD, geD, isD, isnotD, D.isN, negD, tvB, tvNot, tvAnd, tvOr, evT, evAnd, evOr, evNot, evIf, evChain, eCall, aCons, aNil, peeks, dats, lenD, intD, listD, tupleD, eTup, eLst, eSl, oNone, oSome, slD, revD, eLr1, eLr2, iSeq, iR1_eq, iR1f, iR2_eq, iR2f, iR3_eq, iR3f, iEnu, iZp, tYesM, eMeth, appendD, extendD, popD, reverseD, dropS, eFn, toArgs, backE, aft, finF, backs, eIsi, stp, lim, sTry, outGone, sRaise0, sRaise1, eIsx, eFldX, inD, notinD, sDelS, cutF, gCutD, evChain, O.toD, O.toD.go, eIxC, eTupO, tpO, aLast, eMov, O.get, O.set, ixF_ixS, wayB, hat]
        | [x], h => simp [bhd2] at h
        | [], h => simp [bhd2] at h
      · have c2 : nm ≠ "put" := by
          intro e
          subst e
          unfold bhd2 at h
          split at h
          · simp at h
          · cases h
        simp [m__law_way_back, sSeq, sSet, sOwn, sAli, sAsg, sRet, sRetN, sIf, sPass, sExpr, sFor, sPar, sPar3, sParO, sParO3, eFnX, lendM, lends, lendD, lendR, atomD, keepO, slotOf, sOwn2, eFrz, tvT, truD, sortedD, insertD, eOp2, eOp1, eName, eD, ixD, setS_nw, setS_own, nwAt, noOwn_nw, peek_pl, gSb, gNm, gTp, gTq, gCs, gNl, getP, putP, addD, subD, mulD, modD, fdivD, powD, ltD, leD, gtD, geD, isD, isnotD, D.isN, negD, tvB, tvNot, tvAnd, tvOr, evT, evAnd, evOr, evNot, evIf, evChain, eCall, aCons, aNil, peeks, dats, lenD, intD, listD, tupleD, eTup, eLst, eSl, oNone, oSome, slD, revD, eLr1, eLr2, iSeq, iR1_eq, iR1f, iR2_eq, iR2f, iR3_eq, iR3f, iEnu, iZp, tYesM, eMeth, appendD, extendD, popD, reverseD, dropS, eFn, toArgs, backE, aft, finF, backs, eIsi, stp, lim, sTry, outGone, sRaise0, sRaise1, eIsx, eFldX, inD, notinD, sDelS, cutF, gCutD, evChain, O.toD, O.toD.go, eIxC, eTupO, tpO, aLast, eMov, O.get, O.set, ixF_ixS, wayB, c, c2]
    · cases h
  · rename_i nm p l
    split at h
    · rename_i hp
      obtain ⟨_, _, rfl, _⟩ := hp
      simp [m__law_way_back, sSeq, sSet, sOwn, sAli, sAsg, sRet, sRetN, sIf, sPass, sExpr, sFor, sPar, sPar3, sParO, sParO3, eFnX, lendM, lends, lendD, lendR, atomD, keepO, slotOf, sOwn2, eFrz, tvT, truD, sortedD, insertD, eOp2, eOp1, eName, eD, ixD, setS_nw, setS_own, nwAt, noOwn_nw, peek_pl, gSb, gNm, gTp, gTq, gCs, gNl, getP, putP, addD, subD, mulD, modD, fdivD, powD, ltD, leD, gtD, geD, isD, isnotD, D.isN, negD, tvB, tvNot, tvAnd, tvOr, evT, evAnd, evOr, evNot, evIf, evChain, eCall, aCons, aNil, peeks, dats, lenD, intD, listD, tupleD, eTup, eLst, eSl, oNone, oSome, slD, revD, eLr1, eLr2, iSeq, iR1_eq, iR1f, iR2_eq, iR2f, iR3_eq, iR3f, iEnu, iZp, tYesM, eMeth, appendD, extendD, popD, reverseD, dropS, eFn, toArgs, backE, aft, finF, backs, eIsi, stp, lim, sTry, outGone, sRaise0, sRaise1, eIsx, eFldX, inD, notinD, sDelS, cutF, gCutD, evChain, O.toD, O.toD.go, eIxC, eTupO, tpO, aLast, eMov, O.get, O.set, ixF_ixS, wayB]
    · cases h
  · cases h
theorem way_back {n : Int} {w u : List Int} {d : D} (hw : Wd n w) (h : bhd n w d = some u) : bhd n u (wayB w d) = some w := by
  unfold bhd at h
  split at h
  · rename_i nm p
    split at h
    · rename_i hp
      obtain ⟨a, b, rfl, rfl⟩ := split_at hp
      have hpu : ∀ v : List Int, (0 : Int) ≤ (a.length : Int) ∧ (a.length : Int) ≤ ((a ++ v).length : Int) := fun v => by simp; omega
      simp at h
      unfold bhd2 at h
      split at h
      · rename_i x y r
        have hx := hw x (by simp)
        split at h
        · rename_i e
          subst e
          split at h
          · rename_i e
            cases h
            have hat : L2.atI (a ++ x :: y :: r) (a.length : Int) = some x := by rw [atI_pos (by omega)]; simp
            have e2 : -x = y := by omega
            simp [wayB, hat, bhd, hx, e2]
            omega
          · cases h
        · rename_i n1
          split at h
          · rename_i e
            subst e
            split at h
            · rename_i e
              cases h
              have e2 : 1 < (((y.natAbs : Int) - x.natAbs).natAbs : Int) := by omega
              have z : (a.length : Int) ≤ (a.length : Int) + ((r.length : Int) + 1 + 1) := by omega
              simp only [wayB, n1, if_false, bhd]
              rw [if_pos (by simp; omega)]
              simp only [Int.toNat_natCast, List.take_left', List.drop_left', List.take_left, List.drop_left]
              simp [bhd2, e2]
            · cases h
          · rename_i n2
            split at h
            · rename_i e
              subst e
              split at h
              · rename_i z r'
                split at h
                · rename_i e
                  obtain ⟨rfl, e⟩ := e
                  cases h
                  have e2 : ((y - z).natAbs : Int) = 1 := by omega
                  simp only [wayB, n1, if_false, bhd]
                  rw [if_pos (by simp; omega)]
                  simp only [Int.toNat_natCast, List.take_left', List.drop_left', List.take_left, List.drop_left]
                  simp [bhd2, e2]
                · cases h
              · cases h
            · cases h
      · cases h
    · cases h
  · rename_i nm p l
    split at h
    · rename_i hp
      obtain ⟨p0, p1, rfl, hl0, hl1⟩ := hp
      obtain ⟨a, b, rfl, rfl⟩ := split_at ⟨p0, p1⟩
      simp at h
      subst h
      simp only [wayB, bhd]
      rw [if_pos (by simp; omega)]
      simp [bhd2]
      omega
    · cases h
  · cases h
theorem wayB_fit {k : Nat} {w : List Int} {d : D} (hf : Fit (k + 3) d) : Fit (k + 3) (wayB w d) := by
  have t : PyData.canLay0 (.str ("take" : Str)) = true := by decide +kernel
  have p : PyData.canLay0 (.str ("put" : Str)) = true := by decide +kernel
  unfold wayB
  split
  · split
    · exact fit3 (k := k + 2) p trivial trivial
    · exact hf
  · exact fit2 (k := k + 2) t trivial
  · exact hf
end Law
namespace Law
open PySem DL Mir
theorem is_right5 {n : Int} {w : List Int} {step : D} (hf : Fit 4 step) (h1 : 1 ≤ n) (h8 : n ≤ 8) (hw : Wd n w) (hl : w.length ≤ 2000) : f__law_is_right [.dat (.int n), .dat (.lst (mi w)), .dat step] = .ok (.dat (.bl true)) [] := by
  have c1 := copy_ok (hf.mono (j := 6) (by omega))
  have k1 : ∀ {d : D} {i : Nat} {e : Ve}, f__law_copy [.dat d] = .ok (nwE d) [] → e[i]? = some (.dat d) → eFn 1 f__law_copy (aCons true (eName i) aNil) e = .ok (nwE d) e := fun {d i e} h h2 => by
    cases d <;> simp [sSeq, sSet, sOwn, sAli, sAsg, sRet, sRetN, sIf, sPass, sExpr, sFor, sPar, sPar3, sParO, sParO3, eFnX, lendM, lends, lendD, lendR, atomD, keepO, slotOf, sOwn2, eFrz, tvT, truD, sortedD, insertD, eOp2, eOp1, eName, eD, ixD, setS_nw, setS_own, nwAt, noOwn_nw, peek_pl, gSb, gNm, gTp, gTq, gCs, gNl, getP, putP, addD, subD, mulD, modD, fdivD, powD, ltD, leD, gtD, geD, isD, isnotD, D.isN, negD, tvB, tvNot, tvAnd, tvOr, evT, evAnd, evOr, evNot, evIf, evChain, eCall, aCons, aNil, peeks, dats, lenD, intD, listD, tupleD, eTup, eLst, eSl, oNone, oSome, slD, revD, eLr1, eLr2, iSeq, iR1_eq, iR1f, iR2_eq, iR2f, iR3_eq, iR3f, iEnu, iZp, tYesM, eMeth, appendD, extendD, popD, reverseD, dropS, eFn, toArgs, backE, aft, finF, backs, eIsi, stp, lim, sTry, outGone, sRaise0, sRaise1, eIsx, eFldX, inD, notinD, sDelS, cutF, gCutD, evChain, O.toD, O.toD.go, eIxC, eTupO, tpO, aLast, eMov, O.get, O.set, ixF_ixS, h, h2]
  have t := told5_ok hf (by omega) h1 h8 hw (by omega)
  have hb := behind_ok (n := n) (w := w) hf (by omega) (fun l m => (hw l m).1)
  have cc := comp_map (own := [7]) (gm := gNm 7) (em := c__law_is_right_1) (env := [.dat (.int n), .dat (.lst (mi w)), .dat step, .un, .un, .un, .un, .un]) id (w := w) rfl (by simp [lim]; omega) fun i hi => ⟨[.dat (.int n), .dat (.lst (mi w)), .dat step, .un, .un, .un, .un, .dat (.int i)], rfl, [.dat (.int n), .dat (.lst (mi w)), .dat step, .un, .un, .un, .un, .dat (.int i)], rfl, rfl, rfl, rfl⟩
  rw [List.map_id] at cc
  have gen : ∀ (E1 E2 : EM), E1 [.dat (.int n), .dat (.lst (mi w)), .dat step, .un, .un, .un, .un, .un] = .ok (.new (.lst (mi w))) [.dat (.int n), .dat (.lst (mi w)), .dat step, .un, .un, .un, .un, .un] → E2 [.dat (.int n), .dat (.lst (mi w)), .dat step, .un, .un, .un, .un, .un] = .ok (nwE step) [.dat (.int n), .dat (.lst (mi w)), .dat step, .un, .un, .un, .un, .un] → sPar 3 4 (aCons false E1 (aCons true E2 aNil)) [.dat (.int n), .dat (.lst (mi w)), .dat step, .un, .un, .un, .un, .un] = .nx [.dat (.int n), .dat (.lst (mi w)), .dat step, .dat (.lst (mi w)), .dat step, .un, .un, .un] := fun E1 E2 h1 h2 => by
    simp [sSeq, sSet, sOwn, sAli, sAsg, sRet, sRetN, sIf, sPass, sExpr, sFor, sPar, sPar3, sParO, sParO3, eFnX, lendM, lends, lendD, lendR, atomD, keepO, slotOf, sOwn2, eFrz, tvT, truD, sortedD, insertD, eOp2, eOp1, eName, eD, ixD, setS_nw, setS_own, nwAt, noOwn_nw, peek_pl, gSb, gNm, gTp, gTq, gCs, gNl, getP, putP, addD, subD, mulD, modD, fdivD, powD, ltD, leD, gtD, geD, isD, isnotD, D.isN, negD, tvB, tvNot, tvAnd, tvOr, evT, evAnd, evOr, evNot, evIf, evChain, eCall, aCons, aNil, peeks, dats, lenD, intD, listD, tupleD, eTup, eLst, eSl, oNone, oSome, slD, revD, eLr1, eLr2, iSeq, iR1_eq, iR1f, iR2_eq, iR2f, iR3_eq, iR3f, iEnu, iZp, tYesM, eMeth, appendD, extendD, popD, reverseD, dropS, eFn, toArgs, backE, aft, finF, backs, eIsi, stp, lim, sTry, outGone, sRaise0, sRaise1, eIsx, eFldX, inD, notinD, sDelS, cutF, gCutD, evChain, O.toD, O.toD.go, eIxC, eTupO, tpO, aLast, eMov, O.get, O.set, ixF_ixS, h1, h2]
  have A : sPar 3 4 (aCons false (eComp [7] (iSeq (eName 1)) (gNm 7) tYesM c__law_is_right_1) (aCons true (eFn 1 f__law_copy (aCons true (eName 2) aNil)) aNil)) [.dat (.int n), .dat (.lst (mi w)), .dat step, .un, .un, .un, .un, .un] = .nx [.dat (.int n), .dat (.lst (mi w)), .dat step, .dat (.lst (mi w)), .dat step, .un, .un, .un] := by
    have := k1 (i := 2) (e := [.dat (.int n), .dat (.lst (mi w)), .dat step, .un, .un, .un, .un, .un]) c1 rfl
    have h2 : eComp [7] (iSeq (eName 1)) (gNm 7) tYesM c__law_is_right_1 [.dat (.int n), .dat (.lst (mi w)), .dat step, .un, .un, .un, .un, .un] = .ok (.new (.lst (mi w))) [.dat (.int n), .dat (.lst (mi w)), .dat step, .un, .un, .un, .un, .un] := by
      unfold eComp
      simp only [sSeq, sSet, sOwn, sAli, sAsg, sRet, sRetN, sIf, sPass, sExpr, sFor, sPar, sPar3, sParO, sParO3, eFnX, lendM, lends, lendD, lendR, atomD, keepO, slotOf, sOwn2, eFrz, tvT, truD, sortedD, insertD, eOp2, eOp1, eName, eD, ixD, setS_nw, setS_own, nwAt, noOwn_nw, peek_pl, gSb, gNm, gTp, gTq, gCs, gNl, getP, putP, addD, subD, mulD, modD, fdivD, powD, ltD, leD, gtD, geD, isD, isnotD, D.isN, negD, tvB, tvNot, tvAnd, tvOr, evT, evAnd, evOr, evNot, evIf, evChain, eCall, aCons, aNil, peeks, dats, lenD, intD, listD, tupleD, eTup, eLst, eSl, oNone, oSome, slD, revD, eLr1, eLr2, iSeq, iR1_eq, iR1f, iR2_eq, iR2f, iR3_eq, iR3f, iEnu, iZp, tYesM, eMeth, appendD, extendD, popD, reverseD, dropS, eFn, toArgs, backE, aft, finF, backs, eIsi, stp, lim, sTry, outGone, sRaise0, sRaise1, eIsx, eFldX, inD, notinD, sDelS, cutF, gCutD, evChain, O.toD, O.toD.go, eIxC, eTupO, tpO, aLast, eMov, O.get, O.set, ixF_ixS]
      simpa [sSeq, sSet, sOwn, sAli, sAsg, sRet, sRetN, sIf, sPass, sExpr, sFor, sPar, sPar3, sParO, sParO3, eFnX, lendM, lends, lendD, lendR, atomD, keepO, slotOf, sOwn2, eFrz, tvT, truD, sortedD, insertD, eOp2, eOp1, eName, eD, ixD, setS_nw, setS_own, nwAt, noOwn_nw, peek_pl, gSb, gNm, gTp, gTq, gCs, gNl, getP, putP, addD, subD, mulD, modD, fdivD, powD, ltD, leD, gtD, geD, isD, isnotD, D.isN, negD, tvB, tvNot, tvAnd, tvOr, evT, evAnd, evOr, evNot, evIf, evChain, eCall, aCons, aNil, peeks, dats, lenD, intD, listD, tupleD, eTup, eLst, eSl, oNone, oSome, slD, revD, eLr1, eLr2, iSeq, iR1_eq, iR1f, iR2_eq, iR2f, iR3_eq, iR3f, iEnu, iZp, tYesM, eMeth, appendD, extendD, popD, reverseD, dropS, eFn, toArgs, backE, aft, finF, backs, eIsi, stp, lim, sTry, outGone, sRaise0, sRaise1, eIsx, eFldX, inD, notinD, sDelS, cutF, gCutD, evChain, O.toD, O.toD.go, eIxC, eTupO, tpO, aLast, eMov, O.get, O.set, ixF_ixS] using cc
    exact gen _ _ h2 this
  have s1 : f__law_same [.dat step, .dat step] = .ok (.dat (.bl true)) [] := same_ok (hf.mono (j := 6) (by omega))
  have td := fun o (h : ∀ u : List Int, o = some u → u.length ≤ 16000000) => same_ok ((tdD_fit h).mono (j := 6) (by omega))
  unfold f__law_is_right
  cases hbb : bhd n w step with
  | none =>
    rw [hbb] at t hb
    have td := td none (fun u h => nomatch h)
    have td' : f__law_same [.dat (.tup [.str "refused", .lst [.str "move"], .non]), .dat (.tup [.str "refused", .lst [.str "move"], .non])] = .ok (.dat (.bl true)) [] := td
    refine (runF_rt (by rfl) (by rfl) (r := .dat (.bl true)) (e := [.dat (.int n), .dat (.lst (mi w)), .dat step, .dat (.lst (mi w)), .dat step, .dat .non, .dat (tdD none), .un]) ?_).trans rfl
    show m__law_is_right [.dat (.int n), .dat (.lst (mi w)), .dat step, .un, .un, .un, .un, .un] = _
    unfold m__law_is_right
    rw [sSeq_nx _ A]
    rw [sSeq_nx [.dat (.int n), .dat (.lst (mi w)), .dat step, .dat (.lst (mi w)), .dat step, .dat .non, .un, .un] (by simp [sSeq, sSet, sOwn, sAli, sAsg, sRet, sRetN, sIf, sPass, sExpr, sFor, sPar, sPar3, sParO, sParO3, eFnX, lendM, lends, lendD, lendR, atomD, keepO, slotOf, sOwn2, eFrz, tvT, truD, sortedD, insertD, eOp2, eOp1, eName, eD, ixD, setS_nw, setS_own, nwAt, noOwn_nw, peek_pl, gSb, gNm, gTp, gTq, gCs, gNl, getP, putP, addD, subD, mulD, modD, fdivD, powD, ltD, leD, gtD, geD, isD, isnotD, D.isN, negD, tvB, tvNot, tvAnd, tvOr, evT, evAnd, evOr, evNot, evIf, evChain, eCall, aCons, aNil, peeks, dats, lenD, intD, listD, tupleD, eTup, eLst, eSl, oNone, oSome, slD, revD, eLr1, eLr2, iSeq, iR1_eq, iR1f, iR2_eq, iR2f, iR3_eq, iR3f, iEnu, iZp, tYesM, eMeth, appendD, extendD, popD, reverseD, dropS, eFn, toArgs, backE, aft, finF, backs, eIsi, stp, lim, sTry, outGone, sRaise0, sRaise1, eIsx, eFldX, inD, notinD, sDelS, cutF, gCutD, evChain, O.toD, O.toD.go, eIxC, eTupO, tpO, aLast, eMov, O.get, O.set, ixF_ixS, hb, bR])]
    rw [sSeq_nx [.dat (.int n), .dat (.lst (mi w)), .dat step, .dat (.lst (mi w)), .dat step, .dat .non, .dat (tdD none), .un] (by simp [sSeq, sSet, sOwn, sAli, sAsg, sRet, sRetN, sIf, sPass, sExpr, sFor, sPar, sPar3, sParO, sParO3, eFnX, lendM, lends, lendD, lendR, atomD, keepO, slotOf, sOwn2, eFrz, tvT, truD, sortedD, insertD, eOp2, eOp1, eName, eD, ixD, setS_nw, setS_own, nwAt, noOwn_nw, peek_pl, gSb, gNm, gTp, gTq, gCs, gNl, getP, putP, addD, subD, mulD, modD, fdivD, powD, ltD, leD, gtD, geD, isD, isnotD, D.isN, negD, tvB, tvNot, tvAnd, tvOr, evT, evAnd, evOr, evNot, evIf, evChain, eCall, aCons, aNil, peeks, dats, lenD, intD, listD, tupleD, eTup, eLst, eSl, oNone, oSome, slD, revD, eLr1, eLr2, iSeq, iR1_eq, iR1f, iR2_eq, iR2f, iR3_eq, iR3f, iEnu, iZp, tYesM, eMeth, appendD, extendD, popD, reverseD, dropS, eFn, toArgs, backE, aft, finF, backs, eIsi, stp, lim, sTry, outGone, sRaise0, sRaise1, eIsx, eFldX, inD, notinD, sDelS, cutF, gCutD, evChain, O.toD, O.toD.go, eIxC, eTupO, tpO, aLast, eMov, O.get, O.set, ixF_ixS, t, tdE, tdD])]
    rw [sSeq_nx [.dat (.int n), .dat (.lst (mi w)), .dat step, .dat (.lst (mi w)), .dat step, .dat .non, .dat (tdD none), .un] (by simp [sSeq, sSet, sOwn, sAli, sAsg, sRet, sRetN, sIf, sPass, sExpr, sFor, sPar, sPar3, sParO, sParO3, eFnX, lendM, lends, lendD, lendR, atomD, keepO, slotOf, sOwn2, eFrz, tvT, truD, sortedD, insertD, eOp2, eOp1, eName, eD, ixD, setS_nw, setS_own, nwAt, noOwn_nw, peek_pl, gSb, gNm, gTp, gTq, gCs, gNl, getP, putP, addD, subD, mulD, modD, fdivD, powD, ltD, leD, gtD, geD, isD, isnotD, D.isN, negD, tvB, tvNot, tvAnd, tvOr, evT, evAnd, evOr, evNot, evIf, evChain, eCall, aCons, aNil, peeks, dats, lenD, intD, listD, tupleD, eTup, eLst, eSl, oNone, oSome, slD, revD, eLr1, eLr2, iSeq, iR1_eq, iR1f, iR2_eq, iR2f, iR3_eq, iR3f, iEnu, iZp, tYesM, eMeth, appendD, extendD, popD, reverseD, dropS, eFn, toArgs, backE, aft, finF, backs, eIsi, stp, lim, sTry, outGone, sRaise0, sRaise1, eIsx, eFldX, inD, notinD, sDelS, cutF, gCutD, evChain, O.toD, O.toD.go, eIxC, eTupO, tpO, aLast, eMov, O.get, O.set, ixF_ixS, s1])]
    refine sSeq_rt ?_
    simp [sSeq, sSet, sOwn, sAli, sAsg, sRet, sRetN, sIf, sPass, sExpr, sFor, sPar, sPar3, sParO, sParO3, eFnX, lendM, lends, lendD, lendR, atomD, keepO, slotOf, sOwn2, eFrz, tvT, truD, sortedD, insertD, eOp2, eOp1, eName, eD, ixD, setS_nw, setS_own, nwAt, noOwn_nw, peek_pl, gSb, gNm, gTp, gTq, gCs, gNl, getP, putP, addD, subD, mulD, modD, fdivD, powD, ltD, leD, gtD, geD, isD, isnotD, D.isN, negD, tvB, tvNot, tvAnd, tvOr, evT, evAnd, evOr, evNot, evIf, evChain, eCall, aCons, aNil, peeks, dats, lenD, intD, listD, tupleD, eTup, eLst, eSl, oNone, oSome, slD, revD, eLr1, eLr2, iSeq, iR1_eq, iR1f, iR2_eq, iR2f, iR3_eq, iR3f, iEnu, iZp, tYesM, eMeth, appendD, extendD, popD, reverseD, dropS, eFn, toArgs, backE, aft, finF, backs, eIsi, stp, lim, sTry, outGone, sRaise0, sRaise1, eIsx, eFldX, inD, notinD, sDelS, cutF, gCutD, evChain, O.toD, O.toD.go, eIxC, eTupO, tpO, aLast, eMov, O.get, O.set, ixF_ixS, tdD, td']
  | some u =>
    rw [hbb] at t hb
    have ul := bhd_len hbb
    have ud := bhd_wd hbb hw
    have td1 := td (some u) (fun v h => by cases h; omega)
    have td2 := td (some w) (fun v h => by cases h; omega)
    simp only [tdD] at td1 td2
    have td1' : f__law_same [.dat (.tup [.str "told", .lst (mi u)]), .dat (.tup [.str "told", .lst (mi u)])] = .ok (.dat (.bl true)) [] := td1
    have td2' : f__law_same [.dat (.tup [.str "told", .lst (mi w)]), .dat (.tup [.str "told", .lst (mi w)])] = .ok (.dat (.bl true)) [] := td2
    have wo := way_ok hbb
    have wb := way_back hw hbb
    have wf := wayB_fit (w := w) (k := 1) hf
    have t2 := told5_ok wf (by omega) h1 h8 ud (by omega)
    rw [wb] at t2
    have gl : u.length ≤ 16777215 := by omega
    have gl2 : u.length < 16777216 := by omega
    refine (runF_rt (by rfl) (by rfl) (r := .dat (.bl true)) (e := [.dat (.int n), .dat (.lst (mi w)), .dat step, .dat (.lst (mi w)), .dat step, .dat (.lst (mi u)), .own (.mtp [.dat (.str "told"), .lst (mi (u ++ [0]))]), .un]) ?_).trans rfl
    show m__law_is_right [.dat (.int n), .dat (.lst (mi w)), .dat step, .un, .un, .un, .un, .un] = _
    unfold m__law_is_right
    rw [sSeq_nx _ A]
    rw [sSeq_nx [.dat (.int n), .dat (.lst (mi w)), .dat step, .dat (.lst (mi w)), .dat step, .dat (.lst (mi u)), .un, .un] (by simp [sSeq, sSet, sOwn, sAli, sAsg, sRet, sRetN, sIf, sPass, sExpr, sFor, sPar, sPar3, sParO, sParO3, eFnX, lendM, lends, lendD, lendR, atomD, keepO, slotOf, sOwn2, eFrz, tvT, truD, sortedD, insertD, eOp2, eOp1, eName, eD, ixD, setS_nw, setS_own, nwAt, noOwn_nw, peek_pl, gSb, gNm, gTp, gTq, gCs, gNl, getP, putP, addD, subD, mulD, modD, fdivD, powD, ltD, leD, gtD, geD, isD, isnotD, D.isN, negD, tvB, tvNot, tvAnd, tvOr, evT, evAnd, evOr, evNot, evIf, evChain, eCall, aCons, aNil, peeks, dats, lenD, intD, listD, tupleD, eTup, eLst, eSl, oNone, oSome, slD, revD, eLr1, eLr2, iSeq, iR1_eq, iR1f, iR2_eq, iR2f, iR3_eq, iR3f, iEnu, iZp, tYesM, eMeth, appendD, extendD, popD, reverseD, dropS, eFn, toArgs, backE, aft, finF, backs, eIsi, stp, lim, sTry, outGone, sRaise0, sRaise1, eIsx, eFldX, inD, notinD, sDelS, cutF, gCutD, evChain, O.toD, O.toD.go, eIxC, eTupO, tpO, aLast, eMov, O.get, O.set, ixF_ixS, hb, bR])]
    rw [sSeq_nx [.dat (.int n), .dat (.lst (mi w)), .dat step, .dat (.lst (mi w)), .dat step, .dat (.lst (mi u)), .own (.mtp [.dat (.str "told"), .lst (mi u)]), .un] (by simp [sSeq, sSet, sOwn, sAli, sAsg, sRet, sRetN, sIf, sPass, sExpr, sFor, sPar, sPar3, sParO, sParO3, eFnX, lendM, lends, lendD, lendR, atomD, keepO, slotOf, sOwn2, eFrz, tvT, truD, sortedD, insertD, eOp2, eOp1, eName, eD, ixD, setS_nw, setS_own, nwAt, noOwn_nw, peek_pl, gSb, gNm, gTp, gTq, gCs, gNl, getP, putP, addD, subD, mulD, modD, fdivD, powD, ltD, leD, gtD, geD, isD, isnotD, D.isN, negD, tvB, tvNot, tvAnd, tvOr, evT, evAnd, evOr, evNot, evIf, evChain, eCall, aCons, aNil, peeks, dats, lenD, intD, listD, tupleD, eTup, eLst, eSl, oNone, oSome, slD, revD, eLr1, eLr2, iSeq, iR1_eq, iR1f, iR2_eq, iR2f, iR3_eq, iR3f, iEnu, iZp, tYesM, eMeth, appendD, extendD, popD, reverseD, dropS, eFn, toArgs, backE, aft, finF, backs, eIsi, stp, lim, sTry, outGone, sRaise0, sRaise1, eIsx, eFldX, inD, notinD, sDelS, cutF, gCutD, evChain, O.toD, O.toD.go, eIxC, eTupO, tpO, aLast, eMov, O.get, O.set, ixF_ixS, t, tdE])]
    rw [sSeq_nx [.dat (.int n), .dat (.lst (mi w)), .dat step, .dat (.lst (mi w)), .dat step, .dat (.lst (mi u)), .own (.mtp [.dat (.str "told"), .lst (mi u)]), .un] (by simp [sSeq, sSet, sOwn, sAli, sAsg, sRet, sRetN, sIf, sPass, sExpr, sFor, sPar, sPar3, sParO, sParO3, eFnX, lendM, lends, lendD, lendR, atomD, keepO, slotOf, sOwn2, eFrz, tvT, truD, sortedD, insertD, eOp2, eOp1, eName, eD, ixD, setS_nw, setS_own, nwAt, noOwn_nw, peek_pl, gSb, gNm, gTp, gTq, gCs, gNl, getP, putP, addD, subD, mulD, modD, fdivD, powD, ltD, leD, gtD, geD, isD, isnotD, D.isN, negD, tvB, tvNot, tvAnd, tvOr, evT, evAnd, evOr, evNot, evIf, evChain, eCall, aCons, aNil, peeks, dats, lenD, intD, listD, tupleD, eTup, eLst, eSl, oNone, oSome, slD, revD, eLr1, eLr2, iSeq, iR1_eq, iR1f, iR2_eq, iR2f, iR3_eq, iR3f, iEnu, iZp, tYesM, eMeth, appendD, extendD, popD, reverseD, dropS, eFn, toArgs, backE, aft, finF, backs, eIsi, stp, lim, sTry, outGone, sRaise0, sRaise1, eIsx, eFldX, inD, notinD, sDelS, cutF, gCutD, evChain, O.toD, O.toD.go, eIxC, eTupO, tpO, aLast, eMov, O.get, O.set, ixF_ixS, s1])]
    rw [sSeq_nx [.dat (.int n), .dat (.lst (mi w)), .dat step, .dat (.lst (mi w)), .dat step, .dat (.lst (mi u)), .own (.mtp [.dat (.str "told"), .lst (mi u)]), .un] (by simp [sSeq, sSet, sOwn, sAli, sAsg, sRet, sRetN, sIf, sPass, sExpr, sFor, sPar, sPar3, sParO, sParO3, eFnX, lendM, lends, lendD, lendR, atomD, keepO, slotOf, sOwn2, eFrz, tvT, truD, sortedD, insertD, eOp2, eOp1, eName, eD, ixD, setS_nw, setS_own, nwAt, noOwn_nw, peek_pl, gSb, gNm, gTp, gTq, gCs, gNl, getP, putP, addD, subD, mulD, modD, fdivD, powD, ltD, leD, gtD, geD, isD, isnotD, D.isN, negD, tvB, tvNot, tvAnd, tvOr, evT, evAnd, evOr, evNot, evIf, evChain, eCall, aCons, aNil, peeks, dats, lenD, intD, listD, tupleD, eTup, eLst, eSl, oNone, oSome, slD, revD, eLr1, eLr2, iSeq, iR1_eq, iR1f, iR2_eq, iR2f, iR3_eq, iR3f, iEnu, iZp, tYesM, eMeth, appendD, extendD, popD, reverseD, dropS, eFn, toArgs, backE, aft, finF, backs, eIsi, stp, lim, sTry, outGone, sRaise0, sRaise1, eIsx, eFldX, inD, notinD, sDelS, cutF, gCutD, evChain, O.toD, O.toD.go, eIxC, eTupO, tpO, aLast, eMov, O.get, O.set, ixF_ixS])]
    rw [sSeq_nx [.dat (.int n), .dat (.lst (mi w)), .dat step, .dat (.lst (mi w)), .dat step, .dat (.lst (mi u)), .own (.mtp [.dat (.str "told"), .lst (mi u)]), .un] (by simp [sSeq, sSet, sOwn, sAli, sAsg, sRet, sRetN, sIf, sPass, sExpr, sFor, sPar, sPar3, sParO, sParO3, eFnX, lendM, lends, lendD, lendR, atomD, keepO, slotOf, sOwn2, eFrz, tvT, truD, sortedD, insertD, eOp2, eOp1, eName, eD, ixD, setS_nw, setS_own, nwAt, noOwn_nw, peek_pl, gSb, gNm, gTp, gTq, gCs, gNl, getP, putP, addD, subD, mulD, modD, fdivD, powD, ltD, leD, gtD, geD, isD, isnotD, D.isN, negD, tvB, tvNot, tvAnd, tvOr, evT, evAnd, evOr, evNot, evIf, evChain, eCall, aCons, aNil, peeks, dats, lenD, intD, listD, tupleD, eTup, eLst, eSl, oNone, oSome, slD, revD, eLr1, eLr2, iSeq, iR1_eq, iR1f, iR2_eq, iR2f, iR3_eq, iR3f, iEnu, iZp, tYesM, eMeth, appendD, extendD, popD, reverseD, dropS, eFn, toArgs, backE, aft, finF, backs, eIsi, stp, lim, sTry, outGone, sRaise0, sRaise1, eIsx, eFldX, inD, notinD, sDelS, cutF, gCutD, evChain, O.toD, O.toD.go, eIxC, eTupO, tpO, aLast, eMov, O.get, O.set, ixF_ixS, td1'])]
    rw [sSeq_nx [.dat (.int n), .dat (.lst (mi w)), .dat step, .dat (.lst (mi w)), .dat step, .dat (.lst (mi u)), .own (.mtp [.dat (.str "told"), .lst (mi (u ++ [0]))]), .un] (by simp [sSeq, sSet, sOwn, sAli, sAsg, sRet, sRetN, sIf, sPass, sExpr, sFor, sPar, sPar3, sParO, sParO3, eFnX, lendM, lends, lendD, lendR, atomD, keepO, slotOf, sOwn2, eFrz, tvT, truD, sortedD, insertD, eOp2, eOp1, eName, eD, ixD, setS_nw, setS_own, nwAt, noOwn_nw, peek_pl, gSb, gNm, gTp, gTq, gCs, gNl, getP, putP, addD, subD, mulD, modD, fdivD, powD, ltD, leD, gtD, geD, isD, isnotD, D.isN, negD, tvB, tvNot, tvAnd, tvOr, evT, evAnd, evOr, evNot, evIf, evChain, eCall, aCons, aNil, peeks, dats, lenD, intD, listD, tupleD, eTup, eLst, eSl, oNone, oSome, slD, revD, eLr1, eLr2, iSeq, iR1_eq, iR1f, iR2_eq, iR2f, iR3_eq, iR3f, iEnu, iZp, tYesM, eMeth, appendD, extendD, popD, reverseD, dropS, eFn, toArgs, backE, aft, finF, backs, eIsi, stp, lim, sTry, outGone, sRaise0, sRaise1, eIsx, eFldX, inD, notinD, sDelS, cutF, gCutD, evChain, O.toD, O.toD.go, eIxC, eTupO, tpO, aLast, eMov, O.get, O.set, ixF_ixS, gl2])]
    rw [sSeq_nx [.dat (.int n), .dat (.lst (mi w)), .dat step, .dat (.lst (mi w)), .dat step, .dat (.lst (mi u)), .own (.mtp [.dat (.str "told"), .lst (mi (u ++ [0]))]), .un] (by simp [sSeq, sSet, sOwn, sAli, sAsg, sRet, sRetN, sIf, sPass, sExpr, sFor, sPar, sPar3, sParO, sParO3, eFnX, lendM, lends, lendD, lendR, atomD, keepO, slotOf, sOwn2, eFrz, tvT, truD, sortedD, insertD, eOp2, eOp1, eName, eD, ixD, setS_nw, setS_own, nwAt, noOwn_nw, peek_pl, gSb, gNm, gTp, gTq, gCs, gNl, getP, putP, addD, subD, mulD, modD, fdivD, powD, ltD, leD, gtD, geD, isD, isnotD, D.isN, negD, tvB, tvNot, tvAnd, tvOr, evT, evAnd, evOr, evNot, evIf, evChain, eCall, aCons, aNil, peeks, dats, lenD, intD, listD, tupleD, eTup, eLst, eSl, oNone, oSome, slD, revD, eLr1, eLr2, iSeq, iR1_eq, iR1f, iR2_eq, iR2f, iR3_eq, iR3f, iEnu, iZp, tYesM, eMeth, appendD, extendD, popD, reverseD, dropS, eFn, toArgs, backE, aft, finF, backs, eIsi, stp, lim, sTry, outGone, sRaise0, sRaise1, eIsx, eFldX, inD, notinD, sDelS, cutF, gCutD, evChain, O.toD, O.toD.go, eIxC, eTupO, tpO, aLast, eMov, O.get, O.set, ixF_ixS, t, tdE, td1'])]
    simp [sSeq, sSet, sOwn, sAli, sAsg, sRet, sRetN, sIf, sPass, sExpr, sFor, sPar, sPar3, sParO, sParO3, eFnX, lendM, lends, lendD, lendR, atomD, keepO, slotOf, sOwn2, eFrz, tvT, truD, sortedD, insertD, eOp2, eOp1, eName, eD, ixD, setS_nw, setS_own, nwAt, noOwn_nw, peek_pl, gSb, gNm, gTp, gTq, gCs, gNl, getP, putP, addD, subD, mulD, modD, fdivD, powD, ltD, leD, gtD, geD, isD, isnotD, D.isN, negD, tvB, tvNot, tvAnd, tvOr, evT, evAnd, evOr, evNot, evIf, evChain, eCall, aCons, aNil, peeks, dats, lenD, intD, listD, tupleD, eTup, eLst, eSl, oNone, oSome, slD, revD, eLr1, eLr2, iSeq, iR1_eq, iR1f, iR2_eq, iR2f, iR3_eq, iR3f, iEnu, iZp, tYesM, eMeth, appendD, extendD, popD, reverseD, dropS, eFn, toArgs, backE, aft, finF, backs, eIsi, stp, lim, sTry, outGone, sRaise0, sRaise1, eIsx, eFldX, inD, notinD, sDelS, cutF, gCutD, evChain, O.toD, O.toD.go, eIxC, eTupO, tpO, aLast, eMov, O.get, O.set, ixF_ixS, wo, t2, tdE, td2']
end Law
namespace Law
open PySem DL Mir
theorem lay_nat : ∀ i : Fin 200, PyData.canLay0 (.str (toString ((i.val : Nat) : Int) : String)) = true := by decide +kernel
theorem lay_int {i : Int} (h0 : 0 ≤ i) (h1 : i < 200) : PyData.canLay0 (.str (toString i : String)) = true := by
  have := lay_nat ⟨i.toNat, by omega⟩
  simp only at this
  rwa [show ((i.toNat : Nat) : Int) = i by omega] at this
theorem strD_sm {i : Int} (h0 : i.natAbs < 1000) : strD [.int i] = some (.dat (.str (toString i : String))) := by
  unfold strD
  simp only
  rw [if_pos]
  by_cases c : i.natAbs = 0
  · rw [c]; decide
  · rw [Nat.log2_lt c]
    exact Nat.lt_of_lt_of_le h0 (Nat.le_trans (show 1000 ≤ 2 ^ 10 by decide) (Nat.pow_le_pow_right (by decide) (by decide)))
theorem all_app {k : Nat} {a b : List D} (ha : ∀ d ∈ a, Fit k d) (hb : ∀ d ∈ b, Fit k d) : ∀ d ∈ a ++ b, Fit k d := fun d m => by
  rcases List.mem_append.1 m with m | m
  · exact ha d m
  · exact hb d m
theorem odd_ok (q : Pool) {n : Int} {w : List Int} (hl : w.length ≤ 180) : ∃ (ds : List D) (q' : Pool), f__law_odd [.own (.lst q.1), .dat (.int n), .dat (.lst (mi w))] = .ok (.new (.lst ds)) [.lst q'.1] ∧ ∀ d ∈ ds, Fit 4 d := by
  have hl0 : (0 : Int) < (w.length : Int) + 1 := by omega
  have ha0 : 0 ≤ pV q 60 % ((w.length : Int) + 1) := Int.emod_nonneg _ (by omega)
  have ha1 : pV q 60 % ((w.length : Int) + 1) < (w.length : Int) + 1 := Int.emod_lt_of_pos _ hl0
  generalize hat : pV q 60 % ((w.length : Int) + 1) = p at ha0 ha1
  have hv1 := pV_rg (pR q 60) (m := 2) (by omega)
  have hsg := sg_at hv1.1 hv1.2
  obtain ⟨l, hle, hlr⟩ : ∃ l, sg (pV (pR q 60) 2) = l ∧ (l = 1 ∨ l = -1) := ⟨_, rfl, by unfold sg; split <;> simp⟩
  rw [hle] at hsg
  generalize hq2 : pR (pR q 60) 2 = q2
  have hv3 := pV_rg q2 (m := 3) (by omega)
  obtain ⟨nm, hnm, ln, lns, lls⟩ : ∃ nm : Str, L2.atI [D.str "take", D.str "far", D.str "near"] (pV q2 3) = some (.str nm) ∧ PyData.canLay0 (.str nm) = true ∧ PyData.canLay0 (.str (nm ++ ("s" : Str))) = true ∧ nm.length + ("s" : Str).length ≤ 16777216 := by
    generalize pV q2 3 = x at hv3
    have : x = 0 ∨ x = 1 ∨ x = 2 := by omega
    rcases this with rfl | rfl | rfl
    · exact ⟨_, rfl, lay_take, by decide +kernel, by decide +kernel⟩
    · exact ⟨_, rfl, lay_far, by decide +kernel, by decide +kernel⟩
    · exact ⟨_, rfl, lay_near, by decide +kernel, by decide +kernel⟩
  generalize hq3 : pR q2 3 = q3
  have sp := strD_sm (i := p) (by omega)
  have sl := strD_sm (i := l) (by omega)
  have lp := lay_int ha0 (by omega)
  have ll : PyData.canLay0 (.str (toString l : String)) = true := by rcases hlr with rfl | rfl <;> decide +kernel
  generalize hts : (Str.ofString (toString p : String)) = tp at sp lp
  generalize htl : (Str.ofString (toString l : String)) = tl at sl ll
  have A : ∀ r : SM, sSeq (sPar 3 4 (aCons false (eOp2 true modD (eCall intD (aCons true (eFn 2 f__law_pick (aCons true (eName 0) (aCons true (eD (.int 60)) aNil))) aNil)) (eOp2 true addD (eCall lenD (aCons true (eName 2) aNil)) (eD (.int 1)))) (aCons true (eOp2 false ixD (eLst (aCons true (eD (.int 1)) (aCons true (eOp1 negD (eD (.int 1))) aNil))) (eFn 2 f__law_pick (aCons true (eName 0) (aCons true (eD (.int 2)) aNil)))) aNil)))
      (sSeq (sSet 5 (eOp2 false ixD (eLst (aCons true (eD (.str "take")) (aCons true (eD (.str "far")) (aCons true (eD (.str "near")) aNil)))) (eFn 2 f__law_pick (aCons true (eName 0) (aCons true (eD (.int 3)) aNil))))) r) [.own (.lst q.1), .dat (.int n), .dat (.lst (mi w)), .un, .un, .un, .un] = r [.own (.lst q3.1), .dat (.int n), .dat (.lst (mi w)), .dat (.int p), .dat (.int l), .dat (.str nm), .un] := fun r => by
    rw [sSeq_nx [.own (.lst q2.1), .dat (.int n), .dat (.lst (mi w)), .dat (.int p), .dat (.int l), .un, .un] (by simp [sSeq, sSet, sOwn, sAli, sAsg, sRet, sRetN, sIf, sPass, sExpr, sFor, sPar, sPar3, sParO, sParO3, eFnX, lendM, lends, lendD, lendR, atomD, keepO, slotOf, sOwn2, eFrz, tvT, truD, sortedD, insertD, eOp2, eOp1, eName, eD, ixD, setS_nw, setS_own, nwAt, noOwn_nw, peek_pl, gSb, gNm, gTp, gTq, gCs, gNl, getP, putP, addD, subD, mulD, modD, fdivD, powD, ltD, leD, gtD, geD, isD, isnotD, D.isN, negD, tvB, tvNot, tvAnd, tvOr, evT, evAnd, evOr, evNot, evIf, evChain, eCall, aCons, aNil, peeks, dats, lenD, intD, listD, tupleD, eTup, eLst, eSl, oNone, oSome, slD, revD, eLr1, eLr2, iSeq, iR1_eq, iR1f, iR2_eq, iR2f, iR3_eq, iR3f, iEnu, iZp, tYesM, eMeth, appendD, extendD, popD, reverseD, dropS, eFn, toArgs, backE, aft, finF, backs, eIsi, stp, lim, sTry, outGone, sRaise0, sRaise1, eIsx, eFldX, inD, notinD, sDelS, cutF, gCutD, evChain, O.toD, O.toD.go, eIxC, eTupO, tpO, aLast, eMov, O.get, O.set, ixF_ixS, pick_eq, hat, hl0, hsg, hq2, hle])]
    rw [sSeq_nx [.own (.lst q3.1), .dat (.int n), .dat (.lst (mi w)), .dat (.int p), .dat (.int l), .dat (.str nm), .un] (by simp [sSeq, sSet, sOwn, sAli, sAsg, sRet, sRetN, sIf, sPass, sExpr, sFor, sPar, sPar3, sParO, sParO3, eFnX, lendM, lends, lendD, lendR, atomD, keepO, slotOf, sOwn2, eFrz, tvT, truD, sortedD, insertD, eOp2, eOp1, eName, eD, ixD, setS_nw, setS_own, nwAt, noOwn_nw, peek_pl, gSb, gNm, gTp, gTq, gCs, gNl, getP, putP, addD, subD, mulD, modD, fdivD, powD, ltD, leD, gtD, geD, isD, isnotD, D.isN, negD, tvB, tvNot, tvAnd, tvOr, evT, evAnd, evOr, evNot, evIf, evChain, eCall, aCons, aNil, peeks, dats, lenD, intD, listD, tupleD, eTup, eLst, eSl, oNone, oSome, slD, revD, eLr1, eLr2, iSeq, iR1_eq, iR1f, iR2_eq, iR2f, iR3_eq, iR3f, iEnu, iZp, tYesM, eMeth, appendD, extendD, popD, reverseD, dropS, eFn, toArgs, backE, aft, finF, backs, eIsi, stp, lim, sTry, outGone, sRaise0, sRaise1, eIsx, eFldX, inD, notinD, sDelS, cutF, gCutD, evChain, O.toD, O.toD.go, eIxC, eTupO, tpO, aLast, eMov, O.get, O.set, ixF_ixS, pick_eq, hnm, hq3])]
  have lput := lay_put
  have lPut : PyData.canLay0 (.str ("Put" : Str)) = true := by decide +kernel
  have lE : PyData.canLay0 (.str ("" : Str)) = true := by decide +kernel
  obtain ⟨ds, x, hm, hf⟩ : ∃ ds x, m__law_odd [.own (.lst q.1), .dat (.int n), .dat (.lst (mi w)), .un, .un, .un, .un] = .rt (.new (.lst ds)) [.own (.lst q3.1), .dat (.int n), .dat (.lst (mi w)), .dat (.int p), .dat (.int l), .dat (.str nm), .dat x] ∧ ∀ d ∈ ds, Fit 4 d := by
    unfold m__law_odd
    rw [A]
    simp [sSeq, sSet, sOwn, sAli, sAsg, sRet, sRetN, sIf, sPass, sExpr, sFor, sPar, sPar3, sParO, sParO3, eFnX, lendM, lends, lendD, lendR, atomD, keepO, slotOf, sOwn2, eFrz, tvT, truD, sortedD, insertD, eOp2, eOp1, eName, eD, ixD, setS_nw, setS_own, nwAt, noOwn_nw, peek_pl, gSb, gNm, gTp, gTq, gCs, gNl, getP, putP, addD, subD, mulD, modD, fdivD, powD, ltD, leD, gtD, geD, isD, isnotD, D.isN, negD, tvB, tvNot, tvAnd, tvOr, evT, evAnd, evOr, evNot, evIf, evChain, eCall, aCons, aNil, peeks, dats, lenD, intD, listD, tupleD, eTup, eLst, eSl, oNone, oSome, slD, revD, eLr1, eLr2, iSeq, iR1_eq, iR1f, iR2_eq, iR2f, iR3_eq, iR3f, iEnu, iZp, tYesM, eMeth, appendD, extendD, popD, reverseD, dropS, eFn, toArgs, backE, aft, finF, backs, eIsi, stp, lim, sTry, outGone, sRaise0, sRaise1, eIsx, eFldX, inD, notinD, sDelS, cutF, gCutD, evChain, O.toD, O.toD.go, eIxC, eTupO, tpO, aLast, eMov, O.get, O.set, ixF_ixS, sp, sl, lls, Fit, ln, lns, lput, lPut, lE, lp, ll]
    simp [mi, Fit]
  refine ⟨ds, q3, ?_, hf⟩
  unfold f__law_odd
  exact (runF_rt (by rfl) (by rfl) hm).trans rfl
end Law
namespace Law
open PySem DL Mir
theorem put_comp {n p : Int} {W F : D} {s4 : S} (h1 : 1 ≤ n) (h8 : n ≤ 8) (p4 : Pl s4 = true) :
    compL [4] (gNm 4) tYesM c__law_steps_1 (mi (rg (0 - n - 1) (n + 2 - (0 - n - 1)).toNat)) [.dat (.int n), .dat W, .dat F, .dat (.int p), s4] [] = .ok (.new (.lst ((mi (rg (0 - n - 1) (n + 2 - (0 - n - 1)).toNat)).map fun i => .tup [.str "put", .int p, i]))) [.dat (.int n), .dat W, .dat F, .dat (.int p), s4] := by
  have c := comp_gen (own := [4]) (gm := gNm 4) (em := c__law_steps_1) (env := [.dat (.int n), .dat W, .dat F, .dat (.int p), s4]) (fun i => .tup [.str "put", .int p, i]) ((by cases s4 <;> first | rfl | cases p4)) (w := mi (rg (0 - n - 1) (n + 2 - (0 - n - 1)).toNat)) (acc := []) (by simp [lim]; omega) fun i hi => by
    obtain ⟨j, hj, rfl⟩ := List.mem_map.1 hi
    exact ⟨[.dat (.int n), .dat W, .dat F, .dat (.int p), .dat (.int j)], (by cases s4 <;> first | rfl | cases p4), [.dat (.int n), .dat W, .dat F, .dat (.int p), .dat (.int j)], by simp [c__law_steps_1, sSeq, sSet, sOwn, sAli, sAsg, sRet, sRetN, sIf, sPass, sExpr, sFor, sPar, sPar3, sParO, sParO3, eFnX, lendM, lends, lendD, lendR, atomD, keepO, slotOf, sOwn2, eFrz, tvT, truD, sortedD, insertD, eOp2, eOp1, eName, eD, ixD, setS_nw, setS_own, nwAt, noOwn_nw, peek_pl, gSb, gNm, gTp, gTq, gCs, gNl, getP, putP, addD, subD, mulD, modD, fdivD, powD, ltD, leD, gtD, geD, isD, isnotD, D.isN, negD, tvB, tvNot, tvAnd, tvOr, evT, evAnd, evOr, evNot, evIf, evChain, eCall, aCons, aNil, peeks, dats, lenD, intD, listD, tupleD, eTup, eLst, eSl, oNone, oSome, slD, revD, eLr1, eLr2, iSeq, iR1_eq, iR1f, iR2_eq, iR2f, iR3_eq, iR3f, iEnu, iZp, tYesM, eMeth, appendD, extendD, popD, reverseD, dropS, eFn, toArgs, backE, aft, finF, backs, eIsi, stp, lim, sTry, outGone, sRaise0, sRaise1, eIsx, eFldX, inD, notinD, sDelS, cutF, gCutD, evChain, O.toD, O.toD.go, eIxC, eTupO, tpO, aLast, eMov, O.get, O.set, ixF_ixS], rfl, rfl, (by cases s4 <;> first | rfl | cases p4)⟩
  simpa using c
theorem steps_ok {n : Int} {w : List Int} (h1 : 1 ≤ n) (h8 : n ≤ 8) (hl : w.length ≤ 180) : ∃ ds : List D, f__law_steps [.dat (.int n), .dat (.lst (mi w))] = .ok (.dat (.lst ds)) [] ∧ ∀ d ∈ ds, Fit 4 d := by
  obtain ⟨⟨F, s3, s4⟩, e, g1, g2, g3, g4⟩ := forL_st (gm := gNm 3) (body := b__law_steps_2) (fun (x : List D × S × S) => ([.dat (.int n), .dat (.lst (mi w)), .dat (.lst x.1), x.2.1, x.2.2] : Ve)) (fun i x => x.1.length ≤ 30 * i ∧ (∀ d ∈ x.1, Fit 4 d) ∧ Pl x.2.1 = true ∧ Pl x.2.2 = true) (ds := mi (rg (-2) (w.length + 4))) (i := 0) (a := ([], .un, .un)) ⟨by simp, (fun _ m => nomatch m), rfl, rfl⟩ fun k ⟨F, s3, s4⟩ _ hk d hd ⟨x1, x2, p3, p4⟩ => by
    obtain ⟨j, hj, rfl⟩ := List.mem_map.1 hd
    simp only [mi_length, rg_length] at hk
    simp only at x1 x2 p3 p4
    have lr : (n + 2 - (0 - n - 1)).toNat ≤ 27 := by omega
    refine ⟨(F ++ [.tup [.str "take", .int j], .tup [.str "far", .int j], .tup [.str "near", .int j]] ++ (mi (rg (0 - n - 1) (n + 2 - (0 - n - 1)).toNat)).map fun i => .tup [.str "put", .int j, i], .dat (.int j), s4), .inl ?_, by simp; omega, ?_, rfl, p4⟩
    · have c := put_comp (p := j) (W := .lst (mi w)) (F := .lst (F ++ [.tup [.str "take", .int j], .tup [.str "far", .int j], .tup [.str "near", .int j]])) h1 h8 p4
      have z1 : F.length + 3 ≤ 16777216 := by omega
      have z2 : F.length + 3 + (n + 2 - (0 - n - 1)).toNat ≤ 16777216 := by omega
      have z5 : F.length ≤ 16777213 := by omega
      have z3 : smI (0 - n - 1) = true := smI_nat (by omega) (by omega)
      have z4 : smI (n + 2) = true := smI_nat (by omega) (by omega)
      unfold stp
      rw [show gNm 3 (D.int j) [.dat (.int n), .dat (.lst (mi w)), .dat (.lst F), s3, s4] = some [.dat (.int n), .dat (.lst (mi w)), .dat (.lst F), .dat (.int j), s4] by simp [sSeq, sSet, sOwn, sAli, sAsg, sRet, sRetN, sIf, sPass, sExpr, sFor, sPar, sPar3, sParO, sParO3, eFnX, lendM, lends, lendD, lendR, atomD, keepO, slotOf, sOwn2, eFrz, tvT, truD, sortedD, insertD, eOp2, eOp1, eName, eD, ixD, setS_nw, setS_own, nwAt, noOwn_nw, peek_pl, gSb, gNm, gTp, gTq, gCs, gNl, getP, putP, addD, subD, mulD, modD, fdivD, powD, ltD, leD, gtD, geD, isD, isnotD, D.isN, negD, tvB, tvNot, tvAnd, tvOr, evT, evAnd, evOr, evNot, evIf, evChain, eCall, aCons, aNil, peeks, dats, lenD, intD, listD, tupleD, eTup, eLst, eSl, oNone, oSome, slD, revD, eLr1, eLr2, iSeq, iR1_eq, iR1f, iR2_eq, iR2f, iR3_eq, iR3f, iEnu, iZp, tYesM, eMeth, appendD, extendD, popD, reverseD, dropS, eFn, toArgs, backE, aft, finF, backs, eIsi, stp, lim, sTry, outGone, sRaise0, sRaise1, eIsx, eFldX, inD, notinD, sDelS, cutF, gCutD, evChain, O.toD, O.toD.go, eIxC, eTupO, tpO, aLast, eMov, O.get, O.set, ixF_ixS, p3]]
      simp only
      unfold b__law_steps_2
      rw [sSeq_nx [.dat (.int n), .dat (.lst (mi w)), .dat (.lst (F ++ [.tup [.str "take", .int j], .tup [.str "far", .int j], .tup [.str "near", .int j]])), .dat (.int j), s4] (by simp [sSeq, sSet, sOwn, sAli, sAsg, sRet, sRetN, sIf, sPass, sExpr, sFor, sPar, sPar3, sParO, sParO3, eFnX, lendM, lends, lendD, lendR, atomD, keepO, slotOf, sOwn2, eFrz, tvT, truD, sortedD, insertD, eOp2, eOp1, eName, eD, ixD, setS_nw, setS_own, nwAt, noOwn_nw, peek_pl, gSb, gNm, gTp, gTq, gCs, gNl, getP, putP, addD, subD, mulD, modD, fdivD, powD, ltD, leD, gtD, geD, isD, isnotD, D.isN, negD, tvB, tvNot, tvAnd, tvOr, evT, evAnd, evOr, evNot, evIf, evChain, eCall, aCons, aNil, peeks, dats, lenD, intD, listD, tupleD, eTup, eLst, eSl, oNone, oSome, slD, revD, eLr1, eLr2, iSeq, iR1_eq, iR1f, iR2_eq, iR2f, iR3_eq, iR3f, iEnu, iZp, tYesM, eMeth, appendD, extendD, popD, reverseD, dropS, eFn, toArgs, backE, aft, finF, backs, eIsi, stp, lim, sTry, outGone, sRaise0, sRaise1, eIsx, eFldX, inD, notinD, sDelS, cutF, gCutD, evChain, O.toD, O.toD.go, eIxC, eTupO, tpO, aLast, eMov, O.get, O.set, ixF_ixS, z1, z5])]
      have c' : eComp [4] (iR2 (aCons true (eOp2 true subD (eOp2 true subD (eD (.int 0)) (eName 0)) (eD (.int 1))) (aCons true (eOp2 true addD (eName 0) (eD (.int 2))) aNil))) (gNm 4) tYesM c__law_steps_1 [.dat (.int n), .dat (.lst (mi w)), .dat (.lst (F ++ [.tup [.str "take", .int j], .tup [.str "far", .int j], .tup [.str "near", .int j]])), .dat (.int j), s4] = .ok (.new (.lst ((mi (rg (0 - n - 1) (n + 2 - (0 - n - 1)).toNat)).map fun i => .tup [.str "put", .int j, i]))) [.dat (.int n), .dat (.lst (mi w)), .dat (.lst (F ++ [.tup [.str "take", .int j], .tup [.str "far", .int j], .tup [.str "near", .int j]])), .dat (.int j), s4] := by
        rw [← c]
        simp [eComp, sSeq, sSet, sOwn, sAli, sAsg, sRet, sRetN, sIf, sPass, sExpr, sFor, sPar, sPar3, sParO, sParO3, eFnX, lendM, lends, lendD, lendR, atomD, keepO, slotOf, sOwn2, eFrz, tvT, truD, sortedD, insertD, eOp2, eOp1, eName, eD, ixD, setS_nw, setS_own, nwAt, noOwn_nw, peek_pl, gSb, gNm, gTp, gTq, gCs, gNl, getP, putP, addD, subD, mulD, modD, fdivD, powD, ltD, leD, gtD, geD, isD, isnotD, D.isN, negD, tvB, tvNot, tvAnd, tvOr, evT, evAnd, evOr, evNot, evIf, evChain, eCall, aCons, aNil, peeks, dats, lenD, intD, listD, tupleD, eTup, eLst, eSl, oNone, oSome, slD, revD, eLr1, eLr2, iSeq, iR1_eq, iR1f, iR2_eq, iR2f, iR3_eq, iR3f, iEnu, iZp, tYesM, eMeth, appendD, extendD, popD, reverseD, dropS, eFn, toArgs, backE, aft, finF, backs, eIsi, stp, lim, sTry, outGone, sRaise0, sRaise1, eIsx, eFldX, inD, notinD, sDelS, cutF, gCutD, evChain, O.toD, O.toD.go, eIxC, eTupO, tpO, aLast, eMov, O.get, O.set, ixF_ixS] at z3 z4 ⊢
        simp [z3, z4]
      have gen : ∀ (E2 : EM) (e : Ve) (G : List D), G.length ≤ 1000 → e = [.dat (.int n), .dat (.lst (mi w)), .dat (.lst (F ++ [.tup [.str "take", .int j], .tup [.str "far", .int j], .tup [.str "near", .int j]])), .dat (.int j), s4] → E2 e = .ok (.new (.lst G)) e → sSet 2 (eOp2 false addD (eName 2) E2) e = .nx [.dat (.int n), .dat (.lst (mi w)), .dat (.lst (F ++ [.tup [.str "take", .int j], .tup [.str "far", .int j], .tup [.str "near", .int j]] ++ G)), .dat (.int j), s4] := fun E2 e G hG he hE => by
        subst he
        have z : F.length + (G.length + 1 + 1 + 1) ≤ 16777216 := by omega
        have z' : F.length + (G.length + 3) ≤ 16777216 := by omega
        have z'' : F.length + 3 + G.length ≤ 16777216 := by omega
        simp [sSeq, sSet, sOwn, sAli, sAsg, sRet, sRetN, sIf, sPass, sExpr, sFor, sPar, sPar3, sParO, sParO3, eFnX, lendM, lends, lendD, lendR, atomD, keepO, slotOf, sOwn2, eFrz, tvT, truD, sortedD, insertD, eOp2, eOp1, eName, eD, ixD, setS_nw, setS_own, nwAt, noOwn_nw, peek_pl, gSb, gNm, gTp, gTq, gCs, gNl, getP, putP, addD, subD, mulD, modD, fdivD, powD, ltD, leD, gtD, geD, isD, isnotD, D.isN, negD, tvB, tvNot, tvAnd, tvOr, evT, evAnd, evOr, evNot, evIf, evChain, eCall, aCons, aNil, peeks, dats, lenD, intD, listD, tupleD, eTup, eLst, eSl, oNone, oSome, slD, revD, eLr1, eLr2, iSeq, iR1_eq, iR1f, iR2_eq, iR2f, iR3_eq, iR3f, iEnu, iZp, tYesM, eMeth, appendD, extendD, popD, reverseD, dropS, eFn, toArgs, backE, aft, finF, backs, eIsi, stp, lim, sTry, outGone, sRaise0, sRaise1, eIsx, eFldX, inD, notinD, sDelS, cutF, gCutD, evChain, O.toD, O.toD.go, eIxC, eTupO, tpO, aLast, eMov, O.get, O.set, ixF_ixS, hE, z, z', z'']
      exact gen _ _ _ (by simp; omega) rfl c'
    · refine all_app (all_app x2 (fun d m => ?_)) fun d m => ?_
      · simp only [List.mem_cons, List.not_mem_nil, or_false] at m
        rcases m with rfl | rfl | rfl
        · exact fit2 (k := 3) lay_take trivial
        · exact fit2 (k := 3) lay_far trivial
        · exact fit2 (k := 3) lay_near trivial
      · obtain ⟨i, hi, rfl⟩ := List.mem_map.1 m
        obtain ⟨i, hi, rfl⟩ := List.mem_map.1 hi
        exact fit3 (k := 3) lay_put trivial trivial
  refine ⟨F, ?_, g2⟩
  have z4 : smI ((w.length : Int) + 2) = true := smI_nat (by omega) (by omega)
  have z3 : smI (0 - 2) = true := smI_nat (by omega) (by omega)
  have z5 : ((w.length : Int) + 2 - (0 - 2)).toNat = w.length + 4 := by omega
  have e' : forL (gNm 3) b__law_steps_2 (mi (rg (0 - 2) ((w.length : Int) + 2 - (0 - 2)).toNat)) [.dat (.int n), .dat (.lst (mi w)), .dat (.lst (mi [])), .un, .un] = .nx [.dat (.int n), .dat (.lst (mi w)), .dat (.lst F), s3, s4] := by
    rw [z5]
    exact e
  unfold f__law_steps
  refine (runF_rt (by rfl) (by rfl) (r := .dat (.lst F)) (e := [.dat (.int n), .dat (.lst (mi w)), .dat (.lst F), s3, s4]) ?_).trans rfl
  show m__law_steps [.dat (.int n), .dat (.lst (mi w)), .un, .un, .un] = _
  unfold m__law_steps
  rw [sSeq_nx [.dat (.int n), .dat (.lst (mi w)), .dat (.lst (mi [])), .un, .un] (by simp [sSeq, sSet, sOwn, sAli, sAsg, sRet, sRetN, sIf, sPass, sExpr, sFor, sPar, sPar3, sParO, sParO3, eFnX, lendM, lends, lendD, lendR, atomD, keepO, slotOf, sOwn2, eFrz, tvT, truD, sortedD, insertD, eOp2, eOp1, eName, eD, ixD, setS_nw, setS_own, nwAt, noOwn_nw, peek_pl, gSb, gNm, gTp, gTq, gCs, gNl, getP, putP, addD, subD, mulD, modD, fdivD, powD, ltD, leD, gtD, geD, isD, isnotD, D.isN, negD, tvB, tvNot, tvAnd, tvOr, evT, evAnd, evOr, evNot, evIf, evChain, eCall, aCons, aNil, peeks, dats, lenD, intD, listD, tupleD, eTup, eLst, eSl, oNone, oSome, slD, revD, eLr1, eLr2, iSeq, iR1_eq, iR1f, iR2_eq, iR2f, iR3_eq, iR3f, iEnu, iZp, tYesM, eMeth, appendD, extendD, popD, reverseD, dropS, eFn, toArgs, backE, aft, finF, backs, eIsi, stp, lim, sTry, outGone, sRaise0, sRaise1, eIsx, eFldX, inD, notinD, sDelS, cutF, gCutD, evChain, O.toD, O.toD.go, eIxC, eTupO, tpO, aLast, eMov, O.get, O.set, ixF_ixS])]
  rw [sSeq_nx [.dat (.int n), .dat (.lst (mi w)), .dat (.lst F), s3, s4] ?_]
  · simp [sSeq, sSet, sOwn, sAli, sAsg, sRet, sRetN, sIf, sPass, sExpr, sFor, sPar, sPar3, sParO, sParO3, eFnX, lendM, lends, lendD, lendR, atomD, keepO, slotOf, sOwn2, eFrz, tvT, truD, sortedD, insertD, eOp2, eOp1, eName, eD, ixD, setS_nw, setS_own, nwAt, noOwn_nw, peek_pl, gSb, gNm, gTp, gTq, gCs, gNl, getP, putP, addD, subD, mulD, modD, fdivD, powD, ltD, leD, gtD, geD, isD, isnotD, D.isN, negD, tvB, tvNot, tvAnd, tvOr, evT, evAnd, evOr, evNot, evIf, evChain, eCall, aCons, aNil, peeks, dats, lenD, intD, listD, tupleD, eTup, eLst, eSl, oNone, oSome, slD, revD, eLr1, eLr2, iSeq, iR1_eq, iR1f, iR2_eq, iR2f, iR3_eq, iR3f, iEnu, iZp, tYesM, eMeth, appendD, extendD, popD, reverseD, dropS, eFn, toArgs, backE, aft, finF, backs, eIsi, stp, lim, sTry, outGone, sRaise0, sRaise1, eIsx, eFldX, inD, notinD, sDelS, cutF, gCutD, evChain, O.toD, O.toD.go, eIxC, eTupO, tpO, aLast, eMov, O.get, O.set, ixF_ixS]
  · unfold sFor
    have : (iR2 (aCons true (eOp2 true subD (eD (.int 0)) (eD (.int 2))) (aCons true (eOp2 true addD (eCall lenD (aCons true (eName 1) aNil)) (eD (.int 2))) aNil))) [.dat (.int n), .dat (.lst (mi w)), .dat (.lst (mi [])), .un, .un] = .ok (mi (rg (0 - 2) ((w.length : Int) + 2 - (0 - 2)).toNat)) [.dat (.int n), .dat (.lst (mi w)), .dat (.lst (mi [])), .un, .un] := by
      simp [sSeq, sSet, sOwn, sAli, sAsg, sRet, sRetN, sIf, sPass, sExpr, sFor, sPar, sPar3, sParO, sParO3, eFnX, lendM, lends, lendD, lendR, atomD, keepO, slotOf, sOwn2, eFrz, tvT, truD, sortedD, insertD, eOp2, eOp1, eName, eD, ixD, setS_nw, setS_own, nwAt, noOwn_nw, peek_pl, gSb, gNm, gTp, gTq, gCs, gNl, getP, putP, addD, subD, mulD, modD, fdivD, powD, ltD, leD, gtD, geD, isD, isnotD, D.isN, negD, tvB, tvNot, tvAnd, tvOr, evT, evAnd, evOr, evNot, evIf, evChain, eCall, aCons, aNil, peeks, dats, lenD, intD, listD, tupleD, eTup, eLst, eSl, oNone, oSome, slD, revD, eLr1, eLr2, iSeq, iR1_eq, iR1f, iR2_eq, iR2f, iR3_eq, iR3f, iEnu, iZp, tYesM, eMeth, appendD, extendD, popD, reverseD, dropS, eFn, toArgs, backE, aft, finF, backs, eIsi, stp, lim, sTry, outGone, sRaise0, sRaise1, eIsx, eFldX, inD, notinD, sDelS, cutF, gCutD, evChain, O.toD, O.toD.go, eIxC, eTupO, tpO, aLast, eMov, O.get, O.set, ixF_ixS] at z3 z4 ⊢
      simp [z3, z4]
    rw [this]
    exact e'
theorem sFor_ok {im : IM} {gm : GM} {body : SM} {env e1 : Ve} {ds : List D} {o : Out} (h : im env = .ok ds e1) (h2 : forL gm body ds e1 = o) : sFor im gm body env = o := by
  unfold sFor
  rw [h]
  exact h2
theorem law_loop {ns : List Int} {q : Pool} {n : Int} {w : List Int} {ds : List D} {b : SM} (hb : b = b_law_1 ∨ b = b_law_2) (hr : ∀ d, Fit 4 d → f__law_is_right [.dat (.int n), .dat (.lst (mi w)), .dat d] = .ok (.dat (.bl true)) []) (hd : ∀ d ∈ ds, Fit 4 d) (s4 : S) (p4 : Pl s4 = true) :
    ∃ s4', forL (gNm 4) b ds [.dat (.scr ns), .own (.lst q.1), .dat (.int n), .dat (.lst (mi w)), s4] = .nx [.dat (.scr ns), .own (.lst q.1), .dat (.int n), .dat (.lst (mi w)), s4'] ∧ Pl s4' = true := by
  obtain ⟨s', e, g⟩ := forL_st (gm := gNm 4) (body := b) (fun (x : S) => ([.dat (.scr ns), .own (.lst q.1), .dat (.int n), .dat (.lst (mi w)), x] : Ve)) (fun _ x => Pl x = true) (ds := ds) (i := 0) (a := s4) p4 fun k s _ _ d hdm hp => by
    have hi := hr d (hd d hdm)
    refine ⟨.dat d, .inl ?_, rfl⟩
    rcases hb with rfl | rfl
    · simp [b_law_1, sSeq, sSet, sOwn, sAli, sAsg, sRet, sRetN, sIf, sPass, sExpr, sFor, sPar, sPar3, sParO, sParO3, eFnX, lendM, lends, lendD, lendR, atomD, keepO, slotOf, sOwn2, eFrz, tvT, truD, sortedD, insertD, eOp2, eOp1, eName, eD, ixD, setS_nw, setS_own, nwAt, noOwn_nw, peek_pl, gSb, gNm, gTp, gTq, gCs, gNl, getP, putP, addD, subD, mulD, modD, fdivD, powD, ltD, leD, gtD, geD, isD, isnotD, D.isN, negD, tvB, tvNot, tvAnd, tvOr, evT, evAnd, evOr, evNot, evIf, evChain, eCall, aCons, aNil, peeks, dats, lenD, intD, listD, tupleD, eTup, eLst, eSl, oNone, oSome, slD, revD, eLr1, eLr2, iSeq, iR1_eq, iR1f, iR2_eq, iR2f, iR3_eq, iR3f, iEnu, iZp, tYesM, eMeth, appendD, extendD, popD, reverseD, dropS, eFn, toArgs, backE, aft, finF, backs, eIsi, stp, lim, sTry, outGone, sRaise0, sRaise1, eIsx, eFldX, inD, notinD, sDelS, cutF, gCutD, evChain, O.toD, O.toD.go, eIxC, eTupO, tpO, aLast, eMov, O.get, O.set, ixF_ixS, hp, hi]
    · simp [b_law_2, sSeq, sSet, sOwn, sAli, sAsg, sRet, sRetN, sIf, sPass, sExpr, sFor, sPar, sPar3, sParO, sParO3, eFnX, lendM, lends, lendD, lendR, atomD, keepO, slotOf, sOwn2, eFrz, tvT, truD, sortedD, insertD, eOp2, eOp1, eName, eD, ixD, setS_nw, setS_own, nwAt, noOwn_nw, peek_pl, gSb, gNm, gTp, gTq, gCs, gNl, getP, putP, addD, subD, mulD, modD, fdivD, powD, ltD, leD, gtD, geD, isD, isnotD, D.isN, negD, tvB, tvNot, tvAnd, tvOr, evT, evAnd, evOr, evNot, evIf, evChain, eCall, aCons, aNil, peeks, dats, lenD, intD, listD, tupleD, eTup, eLst, eSl, oNone, oSome, slD, revD, eLr1, eLr2, iSeq, iR1_eq, iR1f, iR2_eq, iR2f, iR3_eq, iR3f, iEnu, iZp, tYesM, eMeth, appendD, extendD, popD, reverseD, dropS, eFn, toArgs, backE, aft, finF, backs, eIsi, stp, lim, sTry, outGone, sRaise0, sRaise1, eIsx, eFldX, inD, notinD, sDelS, cutF, gCutD, evChain, O.toD, O.toD.go, eIxC, eTupO, tpO, aLast, eMov, O.get, O.set, ixF_ixS, hp, hi]
  exact ⟨s', e, g⟩
theorem law_true (ns : List Int) (h : ns.length ≤ 63) : f_law [.dat (.scr ns)] = .ok (.dat (.bl true)) [] := by
  obtain ⟨q, hq⟩ := stream_ok ns h
  have v := pV_rg q (m := 8) (by omega)
  obtain ⟨n, hn, h1, h8⟩ : ∃ n, L2.atI [(1 : Int), 2, 8, 3, 4, 5, 6, 7] (pV q 8) = some n ∧ 1 ≤ n ∧ n ≤ 8 := by
    generalize pV q 8 = x at v
    have : x = 0 ∨ x = 1 ∨ x = 2 ∨ x = 3 ∨ x = 4 ∨ x = 5 ∨ x = 6 ∨ x = 7 := by omega
    rcases this with rfl | rfl | rfl | rfl | rfl | rfl | rfl | rfl <;> exact ⟨_, rfl, by decide, by decide⟩
  have v9 := pV_rg (pR q 8) (m := 4) (by omega)
  obtain ⟨w, q1, hw, wd, wl⟩ := rich_ok (pR (pR q 8) 4) h1 h8 (many := pV (pR q 8) 4) (by omega) (by omega)
  obtain ⟨ds, q2, ho, hd⟩ := odd_ok q1 (n := n) wl
  obtain ⟨es, hs, he⟩ := steps_ok h1 h8 wl
  have hr := fun d hd => is_right5 (n := n) (w := w) (step := d) hd h1 h8 wd (by omega)
  obtain ⟨s4, l1, p4⟩ := law_loop (ns := ns) (q := q2) (b := b_law_2) (.inr rfl) hr hd .un rfl
  obtain ⟨s5, l2, p5⟩ := law_loop (ns := ns) (q := q2) (b := b_law_1) (.inl rfl) hr he s4 p4
  have hm : m_law [.dat (.scr ns), .un, .un, .un, .un] = .rt (.dat (.bl true)) [.dat (.scr ns), .own (.lst q2.1), .dat (.int n), .dat (.lst (mi w)), s5] := by
    unfold m_law
    rw [sSeq_nx [.dat (.scr ns), .own (.lst q.1), .un, .un, .un] (by simp [sSeq, sSet, sOwn, sAli, sAsg, sRet, sRetN, sIf, sPass, sExpr, sFor, sPar, sPar3, sParO, sParO3, eFnX, lendM, lends, lendD, lendR, atomD, keepO, slotOf, sOwn2, eFrz, tvT, truD, sortedD, insertD, eOp2, eOp1, eName, eD, ixD, setS_nw, setS_own, nwAt, noOwn_nw, peek_pl, gSb, gNm, gTp, gTq, gCs, gNl, getP, putP, addD, subD, mulD, modD, fdivD, powD, ltD, leD, gtD, geD, isD, isnotD, D.isN, negD, tvB, tvNot, tvAnd, tvOr, evT, evAnd, evOr, evNot, evIf, evChain, eCall, aCons, aNil, peeks, dats, lenD, intD, listD, tupleD, eTup, eLst, eSl, oNone, oSome, slD, revD, eLr1, eLr2, iSeq, iR1_eq, iR1f, iR2_eq, iR2f, iR3_eq, iR3f, iEnu, iZp, tYesM, eMeth, appendD, extendD, popD, reverseD, dropS, eFn, toArgs, backE, aft, finF, backs, eIsi, stp, lim, sTry, outGone, sRaise0, sRaise1, eIsx, eFldX, inD, notinD, sDelS, cutF, gCutD, evChain, O.toD, O.toD.go, eIxC, eTupO, tpO, aLast, eMov, O.get, O.set, ixF_ixS, hq])]
    rw [sSeq_nx [.dat (.scr ns), .own (.lst (pR q 8).1), .dat (.int n), .un, .un] (by simp [sSeq, sSet, sOwn, sAli, sAsg, sRet, sRetN, sIf, sPass, sExpr, sFor, sPar, sPar3, sParO, sParO3, eFnX, lendM, lends, lendD, lendR, atomD, keepO, slotOf, sOwn2, eFrz, tvT, truD, sortedD, insertD, eOp2, eOp1, eName, eD, ixD, setS_nw, setS_own, nwAt, noOwn_nw, peek_pl, gSb, gNm, gTp, gTq, gCs, gNl, getP, putP, addD, subD, mulD, modD, fdivD, powD, ltD, leD, gtD, geD, isD, isnotD, D.isN, negD, tvB, tvNot, tvAnd, tvOr, evT, evAnd, evOr, evNot, evIf, evChain, eCall, aCons, aNil, peeks, dats, lenD, intD, listD, tupleD, eTup, eLst, eSl, oNone, oSome, slD, revD, eLr1, eLr2, iSeq, iR1_eq, iR1f, iR2_eq, iR2f, iR3_eq, iR3f, iEnu, iZp, tYesM, eMeth, appendD, extendD, popD, reverseD, dropS, eFn, toArgs, backE, aft, finF, backs, eIsi, stp, lim, sTry, outGone, sRaise0, sRaise1, eIsx, eFldX, inD, notinD, sDelS, cutF, gCutD, evChain, O.toD, O.toD.go, eIxC, eTupO, tpO, aLast, eMov, O.get, O.set, ixF_ixS, pick_eq, hn])]
    rw [sSeq_nx [.dat (.scr ns), .own (.lst q1.1), .dat (.int n), .dat (.lst (mi w)), .un] (by simp [sSeq, sSet, sOwn, sAli, sAsg, sRet, sRetN, sIf, sPass, sExpr, sFor, sPar, sPar3, sParO, sParO3, eFnX, lendM, lends, lendD, lendR, atomD, keepO, slotOf, sOwn2, eFrz, tvT, truD, sortedD, insertD, eOp2, eOp1, eName, eD, ixD, setS_nw, setS_own, nwAt, noOwn_nw, peek_pl, gSb, gNm, gTp, gTq, gCs, gNl, getP, putP, addD, subD, mulD, modD, fdivD, powD, ltD, leD, gtD, geD, isD, isnotD, D.isN, negD, tvB, tvNot, tvAnd, tvOr, evT, evAnd, evOr, evNot, evIf, evChain, eCall, aCons, aNil, peeks, dats, lenD, intD, listD, tupleD, eTup, eLst, eSl, oNone, oSome, slD, revD, eLr1, eLr2, iSeq, iR1_eq, iR1f, iR2_eq, iR2f, iR3_eq, iR3f, iEnu, iZp, tYesM, eMeth, appendD, extendD, popD, reverseD, dropS, eFn, toArgs, backE, aft, finF, backs, eIsi, stp, lim, sTry, outGone, sRaise0, sRaise1, eIsx, eFldX, inD, notinD, sDelS, cutF, gCutD, evChain, O.toD, O.toD.go, eIxC, eTupO, tpO, aLast, eMov, O.get, O.set, ixF_ixS, pick_eq, hw])]
    rw [sSeq_nx [.dat (.scr ns), .own (.lst q2.1), .dat (.int n), .dat (.lst (mi w)), s4] (sFor_ok (by simp [sSeq, sSet, sOwn, sAli, sAsg, sRet, sRetN, sIf, sPass, sExpr, sFor, sPar, sPar3, sParO, sParO3, eFnX, lendM, lends, lendD, lendR, atomD, keepO, slotOf, sOwn2, eFrz, tvT, truD, sortedD, insertD, eOp2, eOp1, eName, eD, ixD, setS_nw, setS_own, nwAt, noOwn_nw, peek_pl, gSb, gNm, gTp, gTq, gCs, gNl, getP, putP, addD, subD, mulD, modD, fdivD, powD, ltD, leD, gtD, geD, isD, isnotD, D.isN, negD, tvB, tvNot, tvAnd, tvOr, evT, evAnd, evOr, evNot, evIf, evChain, eCall, aCons, aNil, peeks, dats, lenD, intD, listD, tupleD, eTup, eLst, eSl, oNone, oSome, slD, revD, eLr1, eLr2, iSeq, iR1_eq, iR1f, iR2_eq, iR2f, iR3_eq, iR3f, iEnu, iZp, tYesM, eMeth, appendD, extendD, popD, reverseD, dropS, eFn, toArgs, backE, aft, finF, backs, eIsi, stp, lim, sTry, outGone, sRaise0, sRaise1, eIsx, eFldX, inD, notinD, sDelS, cutF, gCutD, evChain, O.toD, O.toD.go, eIxC, eTupO, tpO, aLast, eMov, O.get, O.set, ixF_ixS, ho]) l1)]
    rw [sSeq_nx [.dat (.scr ns), .own (.lst q2.1), .dat (.int n), .dat (.lst (mi w)), s5] (sFor_ok (by simp [sSeq, sSet, sOwn, sAli, sAsg, sRet, sRetN, sIf, sPass, sExpr, sFor, sPar, sPar3, sParO, sParO3, eFnX, lendM, lends, lendD, lendR, atomD, keepO, slotOf, sOwn2, eFrz, tvT, truD, sortedD, insertD, eOp2, eOp1, eName, eD, ixD, setS_nw, setS_own, nwAt, noOwn_nw, peek_pl, gSb, gNm, gTp, gTq, gCs, gNl, getP, putP, addD, subD, mulD, modD, fdivD, powD, ltD, leD, gtD, geD, isD, isnotD, D.isN, negD, tvB, tvNot, tvAnd, tvOr, evT, evAnd, evOr, evNot, evIf, evChain, eCall, aCons, aNil, peeks, dats, lenD, intD, listD, tupleD, eTup, eLst, eSl, oNone, oSome, slD, revD, eLr1, eLr2, iSeq, iR1_eq, iR1f, iR2_eq, iR2f, iR3_eq, iR3f, iEnu, iZp, tYesM, eMeth, appendD, extendD, popD, reverseD, dropS, eFn, toArgs, backE, aft, finF, backs, eIsi, stp, lim, sTry, outGone, sRaise0, sRaise1, eIsx, eFldX, inD, notinD, sDelS, cutF, gCutD, evChain, O.toD, O.toD.go, eIxC, eTupO, tpO, aLast, eMov, O.get, O.set, ixF_ixS, hs]) l2)]
    simp [sSeq, sSet, sOwn, sAli, sAsg, sRet, sRetN, sIf, sPass, sExpr, sFor, sPar, sPar3, sParO, sParO3, eFnX, lendM, lends, lendD, lendR, atomD, keepO, slotOf, sOwn2, eFrz, tvT, truD, sortedD, insertD, eOp2, eOp1, eName, eD, ixD, setS_nw, setS_own, nwAt, noOwn_nw, peek_pl, gSb, gNm, gTp, gTq, gCs, gNl, getP, putP, addD, subD, mulD, modD, fdivD, powD, ltD, leD, gtD, geD, isD, isnotD, D.isN, negD, tvB, tvNot, tvAnd, tvOr, evT, evAnd, evOr, evNot, evIf, evChain, eCall, aCons, aNil, peeks, dats, lenD, intD, listD, tupleD, eTup, eLst, eSl, oNone, oSome, slD, revD, eLr1, eLr2, iSeq, iR1_eq, iR1f, iR2_eq, iR2f, iR3_eq, iR3f, iEnu, iZp, tYesM, eMeth, appendD, extendD, popD, reverseD, dropS, eFn, toArgs, backE, aft, finF, backs, eIsi, stp, lim, sTry, outGone, sRaise0, sRaise1, eIsx, eFldX, inD, notinD, sDelS, cutF, gCutD, evChain, O.toD, O.toD.go, eIxC, eTupO, tpO, aLast, eMov, O.get, O.set, ixF_ixS]
  unfold f_law
  rw [runF_rt (by rfl) (by rfl) hm]
  rfl
end Law
/-! the walk, printed by wip/gen.py -/
namespace Wlk
open PySem PySem.Spec PyProof.Rows L2 DL Mir
def top (i : Nat) : Stmt := PySem.Challenge.pw_braidyard_k05_moves_one_by_one.main.body.getD i (.Pass ⟨0, 0, 0, 0⟩)
abbrev s__law_pool : Stmt := top 41
abbrev s__law_stream : Stmt := top 42
abbrev s__law_pick : Stmt := top 43
abbrev s__law_rich : Stmt := top 50
abbrev s__law_odd : Stmt := top 53
abbrev s__law_steps : Stmt := top 52
abbrev s__law_within : Stmt := top 48
abbrev s__law_behind : Stmt := top 49
abbrev s_is_number : Stmt := top 28
abbrev s_check_strands : Stmt := top 29
abbrev s_check_letters : Stmt := top 30
abbrev s_take_away : Stmt := top 35
abbrev s_exchange_far : Stmt := top 36
abbrev s_turn_near : Stmt := top 37
abbrev s_is_letter : Stmt := top 33
abbrev s_put_in : Stmt := top 34
abbrev s_try_move : Stmt := top 38
abbrev s_move : Stmt := top 39
abbrev s__law_classes : Stmt := top 46
abbrev s__law_kept : Stmt := top 47
abbrev s__law_told : Stmt := top 51
abbrev s__law_same : Stmt := top 44
abbrev s__law_copy : Stmt := top 45
abbrev s__law_way_back : Stmt := top 54
abbrev s__law_is_right : Stmt := top 55
abbrev s_law : Stmt := top 56
structure Glb (P : Program) (K : PySem.W.Frag) (mg : Str → Option Value) : Prop where
  rz_BadStrands : RzOk K mg "BadStrands"
  rz_BadWord : RzOk K mg "BadWord"
  rz_BadMove : RzOk K mg "BadMove"
  su_BadLetter : SupAt P K mg "BadLetter" "place" "place"
  su_TooLong : SupAt P K mg "TooLong" "number" "number"
  tk_BraidError : TakOk K mg Mir.xtab "BraidError"
  ix_BadDeed : IsxOk K mg Mir.xtab "BadDeed"
  ix_BadEntry : IsxOk K mg Mir.xtab "BadEntry"
  ix_BadForm : IsxOk K mg Mir.xtab "BadForm"
  ix_BadHandle : IsxOk K mg Mir.xtab "BadHandle"
  ix_BadLetter : IsxOk K mg Mir.xtab "BadLetter"
  ix_BadList : IsxOk K mg Mir.xtab "BadList"
  ix_BadMove : IsxOk K mg Mir.xtab "BadMove"
  ix_BadNumber : IsxOk K mg Mir.xtab "BadNumber"
  ix_BadNumbers : IsxOk K mg Mir.xtab "BadNumbers"
  ix_BadPaper : IsxOk K mg Mir.xtab "BadPaper"
  ix_BadPlaces : IsxOk K mg Mir.xtab "BadPlaces"
  ix_BadRange : IsxOk K mg Mir.xtab "BadRange"
  ix_BadStrands : IsxOk K mg Mir.xtab "BadStrands"
  ix_BadText : IsxOk K mg Mir.xtab "BadText"
  ix_BadTurning : IsxOk K mg Mir.xtab "BadTurning"
  ix_BadWord : IsxOk K mg Mir.xtab "BadWord"
  ix_InUse : IsxOk K mg Mir.xtab "InUse"
  ix_NoCurve : IsxOk K mg Mir.xtab "NoCurve"
  ix_NotPositive : IsxOk K mg Mir.xtab "NotPositive"
  ix_NothingToRedo : IsxOk K mg Mir.xtab "NothingToRedo"
  ix_NothingToUndo : IsxOk K mg Mir.xtab "NothingToUndo"
  ix_TooLong : IsxOk K mg Mir.xtab "TooLong"
  ix_TooMany : IsxOk K mg Mir.xtab "TooMany"
  ix_UnknownName : IsxOk K mg Mir.xtab "UnknownName"
  xf_number : FdxOk K mg Mir.xtab_number "number"
  xf_place : FdxOk K mg Mir.xtab_place "place"
  n_abs : mg "abs" = none
  n_all : mg "all" = none
  n_bool : mg "bool" = none
  n_enumerate : mg "enumerate" = none
  n_int : mg "int" = none
  n_isinstance : mg "isinstance" = none
  n_len : mg "len" = none
  n_list : mg "list" = none
  n_max : mg "max" = none
  n_range : mg "range" = none
  n_str : mg "str" = none
  n_tuple : mg "tuple" = none
  c_MOST_MOVED : ∃ t, mg "MOST_MOVED" = some (.int (4000) t)
  c_MOST_STRANDS : ∃ t, mg "MOST_STRANDS" = some (.int (8) t)
section
variable {P : Program} {w : World} {K : PySem.W.Frag} {mg : Str → Option Value} {base : Heap}
theorem sc__law_pool : FnScope ["script", "pool", "cell", "state", "k", "rest"] ["script"] (defScope s__law_pool) := ⟨rfl, rfl, rfl, by decide +kernel, rfl, by decide +kernel, by decide +kernel⟩
theorem ok__law_pool (D : DefAt K mg "_law_pool" ["script"] s__law_pool) (G : Glb P K mg)  : FnAt P w K mg base 1 "_law_pool" ["script"] 1 f__law_pool := by
  refine fn_at (fixed := [0]) D sc__law_pool (by decide) (by decide) fun f cdv A outer s H n E hr => ?_
  have hu := hr.units
  have hu5 := units65 hr
  have hp := passes_of (X := cxOf (L2N.CX P w) P w K mg base ["script", "pool", "cell", "state", "k", "rest"] "_law_pool" (defScope s__law_pool) f cdv A outer s H E) rfl
  have tk := L2N.takes_of (X := cxOf (L2N.CX P w) P w K mg base ["script", "pool", "cell", "state", "k", "rest"] "_law_pool" (defScope s__law_pool) f cdv A outer s H E) (E := E) rfl rfl rfl rfl
  exact (dss_cons (dx_own (asg_of (i := 1) (de_lst da_nil) sc__law_pool.nd (by rfl) (Or.inl (by rfl))))
    (dss_cons (ds_for hp (by rfl) (di_seq (de_name 0)) (dx_name sc__law_pool.nd (by rfl) (Or.inl (by rfl))) (dss_cons (dx_set (asg_of (i := 5) (de_callTy ok_int (by rfl) G.n_int bt_int (da_cons (de_name 2) da_nil)) sc__law_pool.nd (by rfl) (Or.inl (by rfl))))
    (dss_one (ds_if (dt_cmp ok_ge (de_name 5) (de_bin ok_pow de_int de_int)) (dss_one (ds_for hp (by rfl) (di_r1 (by rfl) G.n_range (da_cons de_int da_nil)) (dx_name sc__law_pool.nd (by rfl) (Or.inl (by rfl))) (dss_cons (ds_expr (de_meth PySem.F.plainAttrs_list PySem.F.slot_list_append PySem.F.type_list_append ok_append (de_name 1) (da_cons (de_bin ok_mod (de_callTy ok_int (by rfl) G.n_int bt_int (da_cons (de_name 5) da_nil)) de_int) da_nil)))
    (dss_cons (dx_set (asg_of (i := 5) (de_callTy ok_int (by rfl) G.n_int bt_int (da_cons (de_bin ok_fdiv (de_name 5) de_int) da_nil)) sc__law_pool.nd (by rfl) (Or.inl (by rfl))))
    (dss_one (ds_if (dt_cmp (ok_eq hu) (de_name 5) de_int) (dss_one ds_break) dss_nil)))))) (dss_one (dx_own (asg_of (i := 1) (de_bin ok_add (de_name 1) (de_lst (da_cons (de_bin ok_mod (de_callTy ok_int (by rfl) G.n_int bt_int (da_cons (de_name 5) da_nil)) de_int) (da_cons (de_bin ok_mod (de_callTy ok_int (by rfl) G.n_int bt_int (da_cons (de_bin ok_fdiv (de_name 5) de_int) da_nil)) de_int) da_nil)))) sc__law_pool.nd (by rfl) (Or.inl (by rfl)))))))))
    (dss_cons (dx_set (asg_of (i := 3) de_int sc__law_pool.nd (by rfl) (Or.inl (by rfl))))
    (dss_cons (ds_for hp (by rfl) (di_seq (de_name 0)) (dx_name sc__law_pool.nd (by rfl) (Or.inl (by rfl))) (dss_one (dx_set (asg_of (i := 3) (de_bin ok_mod (de_bin ok_add (de_bin ok_mul (de_name 3) de_int) (de_callTy ok_int (by rfl) G.n_int bt_int (da_cons (de_name 2) da_nil))) de_int) sc__law_pool.nd (by rfl) (Or.inl (by rfl))))))
    (dss_cons (ds_for hp (by rfl) (di_r1 (by rfl) G.n_range (da_cons de_int da_nil)) (dx_name sc__law_pool.nd (by rfl) (Or.inl (by rfl))) (dss_cons (dx_set (asg_of (i := 3) (de_bin ok_mod (de_bin ok_add (de_bin ok_mul (de_name 3) de_int) de_int) de_int) sc__law_pool.nd (by rfl) (Or.inl (by rfl))))
    (dss_one (ds_expr (de_meth PySem.F.plainAttrs_list PySem.F.slot_list_append PySem.F.type_list_append ok_append (de_name 1) (da_cons (de_bin ok_mod (de_callTy ok_int (by rfl) G.n_int bt_int (da_cons (de_bin ok_fdiv (de_name 3) de_int) da_nil)) de_int) da_nil))))))
    (dss_one (ds_ret (de_name 1))))))))
theorem sc__law_stream : FnScope ["script"] ["script"] (defScope s__law_stream) := ⟨rfl, rfl, rfl, by decide +kernel, rfl, by decide +kernel, by decide +kernel⟩
theorem ok__law_stream (D : DefAt K mg "_law_stream" ["script"] s__law_stream) (G : Glb P K mg) (F__law_pool : FnAt P w K mg base 1 "_law_pool" ["script"] 1 f__law_pool) : FnAt P w K mg base 2 "_law_stream" ["script"] 1 f__law_stream := by
  refine fn_at (fixed := [0]) D sc__law_stream (by decide) (by decide) fun f cdv A outer s H n E hr => ?_
  have hu := hr.units
  have hu5 := units65 hr
  have hp := passes_of (X := cxOf (L2N.CX P w) P w K mg base ["script"] "_law_stream" (defScope s__law_stream) f cdv A outer s H E) rfl
  have tk := L2N.takes_of (X := cxOf (L2N.CX P w) P w K mg base ["script"] "_law_stream" (defScope s__law_stream) f cdv A outer s H E) (E := E) rfl rfl rfl rfl
  exact (dss_one (ds_ret (de_bin ok_add (de_lst (da_cons de_int da_nil)) (de_fn F__law_pool hr (by decide) (by rfl) (by rfl) tk (da_cons (de_name 0) da_nil)))))
theorem sc__law_pick : FnScope ["pool", "many", "place"] ["pool", "many"] (defScope s__law_pick) := ⟨rfl, rfl, rfl, by decide +kernel, rfl, by decide +kernel, by decide +kernel⟩
theorem ok__law_pick (D : DefAt K mg "_law_pick" ["pool", "many"] s__law_pick) (G : Glb P K mg)  : FnAt P w K mg base 1 "_law_pick" ["pool", "many"] 2 f__law_pick := by
  refine fn_at (fixed := [0, 1]) D sc__law_pick (by decide) (by decide) fun f cdv A outer s H n E hr => ?_
  have hu := hr.units
  have hu5 := units65 hr
  have hp := passes_of (X := cxOf (L2N.CX P w) P w K mg base ["pool", "many", "place"] "_law_pick" (defScope s__law_pick) f cdv A outer s H E) rfl
  have tk := L2N.takes_of (X := cxOf (L2N.CX P w) P w K mg base ["pool", "many", "place"] "_law_pick" (defScope s__law_pick) f cdv A outer s H E) (E := E) rfl rfl rfl rfl
  exact (dss_cons (dx_set (asg_of (i := 2) (de_ix (de_name 0) de_int) sc__law_pick.nd (by rfl) (Or.inl (by rfl))))
    (dss_cons (ds_asg (de_bin ok_add (de_name 2) de_int) (dg_sub (de_name 0) de_int))
    (dss_cons (ds_if (dt_cmp (ok_eq hu) (de_ix (de_name 0) de_int) (de_callB ok_len (by rfl) G.n_len bt_len (da_cons (de_name 0) da_nil))) (dss_one (ds_asg de_int (dg_sub (de_name 0) de_int))) dss_nil)
    (dss_one (ds_ret (de_bin ok_mod (de_callTy ok_int (by rfl) G.n_int bt_int (da_cons (de_ix (de_name 0) (de_name 2)) da_nil)) (de_name 1)))))))
theorem sc__law_rich : FnScope ["pool", "n", "many", "word", "k", "kind", "e", "i", "j", "h", "blocks"] ["pool", "n", "many"] (defScope s__law_rich) := ⟨rfl, rfl, rfl, by decide +kernel, rfl, by decide +kernel, by decide +kernel⟩
theorem ok__law_rich (D : DefAt K mg "_law_rich" ["pool", "n", "many"] s__law_rich) (G : Glb P K mg) (F__law_pick : FnAt P w K mg base 1 "_law_pick" ["pool", "many"] 2 f__law_pick) : FnAt P w K mg base 2 "_law_rich" ["pool", "n", "many"] 3 f__law_rich := by
  refine fn_at (fixed := [0, 1, 2]) D sc__law_rich (by decide) (by decide) fun f cdv A outer s H n E hr => ?_
  have hu := hr.units
  have hu5 := units65 hr
  have hp := passes_of (X := cxOf (L2N.CX P w) P w K mg base ["pool", "n", "many", "word", "k", "kind", "e", "i", "j", "h", "blocks"] "_law_rich" (defScope s__law_rich) f cdv A outer s H E) rfl
  have tk := L2N.takes_of (X := cxOf (L2N.CX P w) P w K mg base ["pool", "n", "many", "word", "k", "kind", "e", "i", "j", "h", "blocks"] "_law_rich" (defScope s__law_rich) f cdv A outer s H E) (E := E) rfl rfl rfl rfl
  exact (dss_cons (dx_set (asg_of (i := 3) (de_lst da_nil) sc__law_rich.nd (by rfl) (Or.inl (by rfl))))
    (dss_cons (ds_for hp (by rfl) (di_r1 (by rfl) G.n_range (da_cons (de_bin ok_mul (de_name 2) (de_callTy ok_int (by rfl) G.n_int bt_int (da_cons (de_cmp ok_gt (de_name 1) de_int) da_nil))) da_nil)) (dx_name sc__law_rich.nd (by rfl) (Or.inl (by rfl))) (dss_cons (dx_par (i := 5) (j := 6) (by rfl) sc__law_rich.nd (by rfl) (by rfl) (by decide) (by rfl) (by rfl) (da_cons (de_fn F__law_pick hr (by decide) (by rfl) (by rfl) tk (da_cons (de_name 0) (da_cons de_int da_nil))) (da_cons (de_ix (de_lst (da_cons de_int (da_cons (de_un ok_neg de_int) da_nil))) (de_fn F__law_pick hr (by decide) (by rfl) (by rfl) tk (da_cons (de_name 0) (da_cons de_int da_nil)))) da_nil)) (by rfl))
    (dss_cons (dx_par (i := 7) (j := 8) (by rfl) sc__law_rich.nd (by rfl) (by rfl) (by decide) (by rfl) (by rfl) (da_cons (de_bin ok_add de_int (de_bin ok_mod (de_callTy ok_int (by rfl) G.n_int bt_int (da_cons (de_fn F__law_pick hr (by decide) (by rfl) (by rfl) tk (da_cons (de_name 0) (da_cons de_int da_nil))) da_nil)) (de_bin ok_sub (de_name 1) de_int))) (da_cons (de_bin ok_add de_int (de_bin ok_mod (de_callTy ok_int (by rfl) G.n_int bt_int (da_cons (de_fn F__law_pick hr (by decide) (by rfl) (by rfl) tk (da_cons (de_name 0) (da_cons de_int da_nil))) da_nil)) (de_bin ok_sub (de_name 1) de_int))) da_nil)) (by rfl))
    (dss_cons (dx_set (asg_of (i := 9) (de_callB (ok_max (by rfl)) (by rfl) G.n_max bt_max (da_cons de_int (da_cons (de_bin ok_sub (de_bin ok_add (de_name 7) de_int) (de_bin ok_mul de_int (de_callTy ok_int (by rfl) G.n_int bt_int (da_cons (de_cmp (ok_eq hu) (de_name 7) (de_bin ok_sub (de_name 1) de_int)) da_nil)))) da_nil))) sc__law_rich.nd (by rfl) (Or.inl (by rfl))))
    (dss_cons (dx_set (asg_of (i := 10) (de_lst (da_cons (de_lst (da_cons (de_bin ok_mul (de_name 6) (de_name 7)) da_nil)) (da_cons (de_lst (da_cons (de_bin ok_mul (de_name 6) (de_name 7)) (da_cons (de_bin ok_sub de_int (de_bin ok_mul (de_name 6) (de_name 7))) da_nil))) (da_cons (de_lst (da_cons (de_bin ok_mul (de_name 6) (de_name 7)) (da_cons (de_bin ok_mul (de_name 6) (de_name 8)) da_nil))) (da_cons (de_lst (da_cons (de_bin ok_mul (de_name 6) (de_name 7)) (da_cons (de_bin ok_mul (de_name 6) (de_name 9)) (da_cons (de_bin ok_mul (de_name 6) (de_name 7)) da_nil)))) (da_cons (de_lst (da_cons (de_bin ok_mul (de_name 6) (de_name 7)) (da_cons (de_bin ok_sub de_int (de_bin ok_mul (de_name 6) (de_name 9))) (da_cons (de_bin ok_mul (de_name 6) (de_name 7)) da_nil)))) da_nil)))))) sc__law_rich.nd (by rfl) (Or.inl (by rfl))))
    (dss_cons (dx_set (asg_of (i := 10) (de_bin ok_add (de_name 10) (de_lst (da_cons (de_lst (da_cons (de_bin ok_mul (de_name 6) (de_name 7)) (da_cons (de_bin ok_mul (de_name 6) (de_name 9)) (da_cons (de_bin ok_sub de_int (de_bin ok_mul (de_name 6) (de_name 7))) da_nil)))) (da_cons (de_lst (da_cons (de_bin ok_mul (de_name 6) (de_name 7)) (da_cons (de_bin ok_mul (de_name 6) (de_name 8)) (da_cons (de_bin ok_mul (de_name 6) (de_name 7)) da_nil)))) (da_cons (de_lst (da_cons (de_bin ok_mul (de_name 6) (de_name 7)) (da_cons (de_bin ok_sub de_int (de_bin ok_mul (de_name 6) (de_name 8))) da_nil))) da_nil))))) sc__law_rich.nd (by rfl) (Or.inl (by rfl))))
    (dss_one (dx_set (asg_of (i := 3) (de_bin ok_add (de_name 3) (de_ix (de_name 10) (de_name 5))) sc__law_rich.nd (by rfl) (Or.inl (by rfl)))))))))))
    (dss_one (ds_ret (de_name 3)))))
theorem sc__law_odd : FnScope ["pool", "n", "word", "place", "letter", "name", "found"] ["pool", "n", "word"] (defScope s__law_odd) := ⟨rfl, rfl, rfl, by decide +kernel, rfl, by decide +kernel, by decide +kernel⟩
theorem ok__law_odd (D : DefAt K mg "_law_odd" ["pool", "n", "word"] s__law_odd) (G : Glb P K mg) (F__law_pick : FnAt P w K mg base 1 "_law_pick" ["pool", "many"] 2 f__law_pick) : FnAt P w K mg base 2 "_law_odd" ["pool", "n", "word"] 3 f__law_odd := by
  refine fn_at (fixed := [0, 1, 2]) D sc__law_odd (by decide) (by decide) fun f cdv A outer s H n E hr => ?_
  have hu := hr.units
  have hu5 := units65 hr
  have hp := passes_of (X := cxOf (L2N.CX P w) P w K mg base ["pool", "n", "word", "place", "letter", "name", "found"] "_law_odd" (defScope s__law_odd) f cdv A outer s H E) rfl
  have tk := L2N.takes_of (X := cxOf (L2N.CX P w) P w K mg base ["pool", "n", "word", "place", "letter", "name", "found"] "_law_odd" (defScope s__law_odd) f cdv A outer s H E) (E := E) rfl rfl rfl rfl
  exact (dss_cons (dx_par (i := 3) (j := 4) (by rfl) sc__law_odd.nd (by rfl) (by rfl) (by decide) (by rfl) (by rfl) (da_cons (de_bin ok_mod (de_callTy ok_int (by rfl) G.n_int bt_int (da_cons (de_fn F__law_pick hr (by decide) (by rfl) (by rfl) tk (da_cons (de_name 0) (da_cons de_int da_nil))) da_nil)) (de_bin ok_add (de_callB ok_len (by rfl) G.n_len bt_len (da_cons (de_name 2) da_nil)) de_int)) (da_cons (de_ix (de_lst (da_cons de_int (da_cons (de_un ok_neg de_int) da_nil))) (de_fn F__law_pick hr (by decide) (by rfl) (by rfl) tk (da_cons (de_name 0) (da_cons de_int da_nil)))) da_nil)) (by rfl))
    (dss_cons (dx_set (asg_of (i := 5) (de_ix (de_lst (da_cons de_str (da_cons de_str (da_cons de_str da_nil)))) (de_fn F__law_pick hr (by decide) (by rfl) (by rfl) tk (da_cons (de_name 0) (da_cons de_int da_nil)))) sc__law_odd.nd (by rfl) (Or.inl (by rfl))))
    (dss_cons (dx_set (asg_of (i := 6) (de_lst (da_cons de_non (da_cons de_bl (da_cons (de_name 3) (da_cons (de_name 5) (da_cons (de_lst da_nil) (da_cons (de_tup da_nil) (da_cons (de_tup (da_cons (de_name 5) da_nil)) (da_cons (de_lst (da_cons (de_name 5) (da_cons (de_name 3) da_nil))) (da_cons (de_tup (da_cons (de_name 5) (da_cons (de_name 3) (da_cons (de_name 4) da_nil)))) (da_cons (de_tup (da_cons (de_name 5) (da_cons (de_name 3) (da_cons de_non da_nil)))) (da_cons (de_tup (da_cons (de_name 5) (da_cons (de_tup (da_cons (de_name 3) da_nil)) da_nil))) da_nil)))))))))))) sc__law_odd.nd (by rfl) (Or.inl (by rfl))))
    (dss_cons (dx_set (asg_of (i := 6) (de_bin ok_add (de_name 6) (de_lst (da_cons (de_tup (da_cons de_str (da_cons (de_name 3) da_nil))) (da_cons (de_tup (da_cons de_str (da_cons (de_name 3) (da_cons (de_name 4) (da_cons (de_name 4) da_nil))))) (da_cons (de_lst (da_cons de_str (da_cons (de_name 3) (da_cons (de_name 4) da_nil)))) (da_cons (de_tup (da_cons (de_name 3) (da_cons (de_name 5) da_nil))) (da_cons (de_tup (da_cons de_str (da_cons (de_name 3) da_nil))) (da_cons (de_tup (da_cons de_non (da_cons (de_name 3) da_nil))) da_nil)))))))) sc__law_odd.nd (by rfl) (Or.inl (by rfl))))
    (dss_cons (dx_set (asg_of (i := 6) (de_bin ok_add (de_name 6) (de_lst (da_cons (de_tup (da_cons (de_bin ok_add (de_name 5) de_str) (da_cons (de_name 3) da_nil))) (da_cons (de_tup (da_cons de_str (da_cons (de_name 3) (da_cons (de_name 4) da_nil)))) (da_cons (de_tup (da_cons de_str (da_cons de_bl (da_cons (de_name 4) da_nil)))) (da_cons (de_tup (da_cons de_str (da_cons (de_name 3) (da_cons de_bl da_nil)))) (da_cons (de_tup (da_cons de_str (da_cons (de_name 3) (da_cons de_non da_nil)))) da_nil))))))) sc__law_odd.nd (by rfl) (Or.inl (by rfl))))
    (dss_cons (dx_set (asg_of (i := 6) (de_bin ok_add (de_name 6) (de_lst (da_cons (de_tup (da_cons (de_name 5) (da_cons de_bl da_nil))) (da_cons (de_tup (da_cons (de_name 5) (da_cons de_bl da_nil))) (da_cons (de_tup (da_cons (de_name 5) (da_cons de_non da_nil))) (da_cons (de_tup (da_cons (de_name 5) (da_cons (de_callTy ok_str (by rfl) G.n_str bt_str (da_cons (de_name 3) da_nil)) da_nil))) (da_cons (de_tup (da_cons (de_name 5) (da_cons (de_lst (da_cons (de_name 3) da_nil)) da_nil))) (da_cons (de_tup (da_cons (de_lst (da_cons (de_name 5) da_nil)) (da_cons (de_name 3) da_nil))) (da_cons (de_tup (da_cons (de_tup (da_cons (de_name 5) da_nil)) (da_cons (de_name 3) da_nil))) da_nil))))))))) sc__law_odd.nd (by rfl) (Or.inl (by rfl))))
    (dss_cons (dx_set (asg_of (i := 6) (de_bin ok_add (de_name 6) (de_lst (da_cons (de_tup (da_cons de_str (da_cons (de_callTy ok_str (by rfl) G.n_str bt_str (da_cons (de_name 3) da_nil)) (da_cons (de_name 4) da_nil)))) (da_cons (de_tup (da_cons de_str (da_cons (de_name 3) (da_cons (de_lst (da_cons (de_name 4) da_nil)) da_nil)))) (da_cons (de_tup (da_cons de_str (da_cons (de_name 3) (da_cons (de_callTy ok_str (by rfl) G.n_str bt_str (da_cons (de_name 4) da_nil)) da_nil)))) (da_cons (de_lst (da_cons (de_tup (da_cons (de_name 5) (da_cons (de_name 3) da_nil))) da_nil)) da_nil)))))) sc__law_odd.nd (by rfl) (Or.inl (by rfl))))
    (dss_cons (dx_set (asg_of (i := 6) (de_bin ok_add (de_name 6) (de_lst (da_cons (de_tup (da_cons (de_tup (da_cons (de_name 5) (da_cons (de_name 3) da_nil))) da_nil)) (da_cons (de_tup (da_cons (de_name 5) (da_cons (de_bin ok_pow de_int de_int) da_nil))) (da_cons (de_tup (da_cons de_str (da_cons (de_bin ok_pow de_int de_int) (da_cons (de_name 4) da_nil)))) (da_cons (de_tup (da_cons de_str (da_cons (de_name 3) (da_cons (de_bin ok_pow de_int de_int) da_nil)))) (da_cons (de_tup (da_cons (de_name 5) (da_cons (de_bin ok_sub de_int (de_bin ok_pow de_int de_int)) da_nil))) da_nil))))))) sc__law_odd.nd (by rfl) (Or.inl (by rfl))))
    (dss_one (ds_ret (de_bin ok_add (de_name 6) (de_lst (da_cons (de_tup (da_cons (de_name 5) (da_cons (de_bin ok_sub (de_bin ok_sub (de_name 3) (de_callB ok_len (by rfl) G.n_len bt_len (da_cons (de_name 2) da_nil))) de_int) da_nil))) (da_cons (de_tup (da_cons de_str (da_cons (de_bin ok_sub (de_bin ok_sub (de_name 3) (de_callB ok_len (by rfl) G.n_len bt_len (da_cons (de_name 2) da_nil))) de_int) (da_cons (de_name 4) da_nil)))) (da_cons (de_tup (da_cons de_str (da_cons (de_name 3) (da_cons (de_name 4) (da_cons (de_name 3) (da_cons (de_name 4) da_nil)))))) da_nil)))))))))))))))
theorem sc__law_steps : FnScope ["n", "word", "found", "place", "letter"] ["n", "word"] (defScope s__law_steps) := ⟨rfl, rfl, rfl, by decide +kernel, rfl, by decide +kernel, by decide +kernel⟩
theorem ok__law_steps (D : DefAt K mg "_law_steps" ["n", "word"] s__law_steps) (G : Glb P K mg)  : FnAt P w K mg base 1 "_law_steps" ["n", "word"] 2 f__law_steps := by
  refine fn_at (fixed := [0, 1]) D sc__law_steps (by decide) (by decide) fun f cdv A outer s H n E hr => ?_
  have hu := hr.units
  have hu5 := units65 hr
  have hp := passes_of (X := cxOf (L2N.CX P w) P w K mg base ["n", "word", "found", "place", "letter"] "_law_steps" (defScope s__law_steps) f cdv A outer s H E) rfl
  have tk := L2N.takes_of (X := cxOf (L2N.CX P w) P w K mg base ["n", "word", "found", "place", "letter"] "_law_steps" (defScope s__law_steps) f cdv A outer s H E) (E := E) rfl rfl rfl rfl
  exact (dss_cons (dx_set (asg_of (i := 2) (de_lst da_nil) sc__law_steps.nd (by rfl) (Or.inl (by rfl))))
    (dss_cons (ds_for hp (by rfl) (di_r2 (by rfl) G.n_range (da_cons (de_bin ok_sub de_int de_int) (da_cons (de_bin ok_add (de_callB ok_len (by rfl) G.n_len bt_len (da_cons (de_name 1) da_nil)) de_int) da_nil))) (dx_name sc__law_steps.nd (by rfl) (Or.inr (by rfl))) (dss_cons (dx_set (asg_of (i := 2) (de_bin ok_add (de_name 2) (de_lst (da_cons (de_tup (da_cons de_str (da_cons (de_name 3) da_nil))) (da_cons (de_tup (da_cons de_str (da_cons (de_name 3) da_nil))) (da_cons (de_tup (da_cons de_str (da_cons (de_name 3) da_nil))) da_nil))))) sc__law_steps.nd (by rfl) (Or.inl (by rfl))))
    (dss_one (dx_set (asg_of (i := 2) (de_bin ok_add (de_name 2) (dx_comp (own := [("letter", 4)]) (by rfl) sc__law_steps.nd (di_r2 (by rfl) G.n_range (da_cons (de_bin ok_sub (de_bin ok_sub de_int (de_name 0)) de_int) (da_cons (de_bin ok_add (de_name 0) de_int) da_nil))) (blkOk_by (by kernel_rfl)) (fun _ _ _ _ _ _ => (dx_name sc__law_steps.nd (by rfl) (Or.inl (by rfl)))) (fun _ _ _ _ _ _ => dts_nil) (fun _ _ _ _ _ _ => (de_tup (da_cons de_str (da_cons (de_name 3) (da_cons (de_name 4) da_nil))))))) sc__law_steps.nd (by rfl) (Or.inl (by rfl)))))))
    (dss_one (ds_ret (de_name 2)))))
theorem sc__law_within : FnScope ["value", "low", "high"] ["value", "low", "high"] (defScope s__law_within) := ⟨rfl, rfl, rfl, by decide +kernel, rfl, by decide +kernel, by decide +kernel⟩
theorem ok__law_within (D : DefAt K mg "_law_within" ["value", "low", "high"] s__law_within) (G : Glb P K mg)  : FnAt P w K mg base 1 "_law_within" ["value", "low", "high"] 3 f__law_within := by
  refine fn_at (fixed := [0, 1, 2]) D sc__law_within (by decide) (by decide) fun f cdv A outer s H n E hr => ?_
  have hu := hr.units
  have hu5 := units65 hr
  have hp := passes_of (X := cxOf (L2N.CX P w) P w K mg base ["value", "low", "high"] "_law_within" (defScope s__law_within) f cdv A outer s H E) rfl
  have tk := L2N.takes_of (X := cxOf (L2N.CX P w) P w K mg base ["value", "low", "high"] "_law_within" (defScope s__law_within) f cdv A outer s H E) (E := E) rfl rfl rfl rfl
  exact (dss_one (ds_ret (de_and (de_isi (by rfl) G.n_isinstance bt_isinstance (de_name 0) (by rfl) G.n_int bt_int) (de_and (de_not (de_isi (by rfl) G.n_isinstance bt_isinstance (de_name 0) (by rfl) G.n_bool bt_bool)) (de_one (de_chain ok_le ok_le (de_name 1) (de_name 0) (de_name 2)))))))
theorem sc__law_behind : FnScope ["n", "word", "step", "head", "rest", "one", "two"] ["n", "word", "step"] (defScope s__law_behind) := ⟨rfl, rfl, rfl, by decide +kernel, rfl, by decide +kernel, by decide +kernel⟩
theorem ok__law_behind (D : DefAt K mg "_law_behind" ["n", "word", "step"] s__law_behind) (G : Glb P K mg) (F__law_within : FnAt P w K mg base 1 "_law_within" ["value", "low", "high"] 3 f__law_within) : FnAt P w K mg base 2 "_law_behind" ["n", "word", "step"] 3 f__law_behind := by
  refine fn_at (fixed := [0, 1, 2]) D sc__law_behind (by decide) (by decide) fun f cdv A outer s H n E hr => ?_
  have hu := hr.units
  have hu5 := units65 hr
  have hp := passes_of (X := cxOf (L2N.CX P w) P w K mg base ["n", "word", "step", "head", "rest", "one", "two"] "_law_behind" (defScope s__law_behind) f cdv A outer s H E) rfl
  have tk := L2N.takes_of (X := cxOf (L2N.CX P w) P w K mg base ["n", "word", "step", "head", "rest", "one", "two"] "_law_behind" (defScope s__law_behind) f cdv A outer s H E) (E := E) rfl rfl rfl rfl
  exact (dss_cons (ds_if (dt_w (dw_or (dt_not (dt_val (de_isi (by rfl) G.n_isinstance bt_isinstance (de_name 2) (by rfl) G.n_tuple bt_tuple))) (dw_or (dt_cmp ok_lt (de_callB ok_len (by rfl) G.n_len bt_len (da_cons (de_name 2) da_nil)) de_int) (dw_or (dt_not (dt_val (de_isi (by rfl) G.n_isinstance bt_isinstance (de_ix (de_name 2) de_int) (by rfl) G.n_str bt_str))) (dw_or1 (dt_not (dt_val (de_fn F__law_within hr (by decide) (by rfl) (by rfl) tk (da_cons (de_ix (de_name 2) de_int) (da_cons de_int (da_cons (de_callB ok_len (by rfl) G.n_len bt_len (da_cons (de_name 1) da_nil)) da_nil))))))))))) (dss_one (ds_ret de_non)) dss_nil)
    (dss_cons (dx_par (i := 3) (j := 4) (by rfl) sc__law_behind.nd (by rfl) (by rfl) (by decide) (by rfl) (by rfl) (da_cons (de_sl (de_name 1) do_none (do_some (de_ix (de_name 2) de_int))) (da_cons (de_sl (de_name 1) (do_some (de_ix (de_name 2) de_int)) do_none) da_nil)) (by rfl))
    (dss_cons (ds_if (dt_w (dw_and (dt_cmp (ok_eq hu) (de_callB ok_len (by rfl) G.n_len bt_len (da_cons (de_name 2) da_nil)) de_int) (dw_and (dt_cmp (ok_eq hu) (de_ix (de_name 2) de_int) de_str) (dw_and (dt_val (de_fn F__law_within hr (by decide) (by rfl) (by rfl) tk (da_cons (de_ix (de_name 2) de_int) (da_cons (de_bin ok_sub de_int (de_name 0)) (da_cons (de_bin ok_sub (de_name 0) de_int) da_nil))))) (dw_and1 (dt_cmp (ok_ne hu) (de_ix (de_name 2) de_int) de_int)))))) (dss_one (ds_ret (de_bin ok_add (de_bin ok_add (de_name 3) (de_lst (da_cons (de_ix (de_name 2) de_int) (da_cons (de_bin ok_sub de_int (de_ix (de_name 2) de_int)) da_nil)))) (de_name 4)))) dss_nil)
    (dss_cons (ds_if (dt_w (dw_or (dt_cmp (ok_ne hu) (de_callB ok_len (by rfl) G.n_len bt_len (da_cons (de_name 2) da_nil)) de_int) (dw_or1 (dt_cmp ok_lt (de_callB ok_len (by rfl) G.n_len bt_len (da_cons (de_name 4) da_nil)) de_int)))) (dss_one (ds_ret de_non)) dss_nil)
    (dss_cons (dx_par (i := 5) (j := 6) (by rfl) sc__law_behind.nd (by rfl) (by rfl) (by decide) (by rfl) (by rfl) (da_cons (de_ix (de_name 4) de_int) (da_cons (de_ix (de_name 4) de_int) da_nil)) (by rfl))
    (dss_cons (ds_if (dt_w (dw_and (dt_cmp (ok_eq hu) (de_ix (de_name 2) de_int) de_str) (dw_and1 (dt_cmp (ok_eq hu) (de_name 5) (de_bin ok_sub de_int (de_name 6)))))) (dss_one (ds_ret (de_bin ok_add (de_name 3) (de_sl (de_name 4) (do_some de_int) do_none)))) dss_nil)
    (dss_cons (ds_if (dt_w (dw_and (dt_cmp (ok_eq hu) (de_ix (de_name 2) de_int) de_str) (dw_and1 (dt_cmp ok_gt (de_callB ok_abs (by rfl) G.n_abs bt_abs (da_cons (de_bin ok_sub (de_callB ok_abs (by rfl) G.n_abs bt_abs (da_cons (de_name 5) da_nil)) (de_callB ok_abs (by rfl) G.n_abs bt_abs (da_cons (de_name 6) da_nil))) da_nil)) de_int)))) (dss_one (ds_ret (de_bin ok_add (de_bin ok_add (de_name 3) (de_lst (da_cons (de_name 6) (da_cons (de_name 5) da_nil)))) (de_sl (de_name 4) (do_some de_int) do_none)))) dss_nil)
    (dss_cons (ds_if (dt_w (dw_and (dt_cmp (ok_eq hu) (de_ix (de_name 2) de_int) de_str) (dw_and (dt_cmp ok_gt (de_callB ok_len (by rfl) G.n_len bt_len (da_cons (de_name 4) da_nil)) de_int) (dw_and (dt_cmp (ok_eq hu) (de_ix (de_name 4) de_int) (de_name 5)) (dw_and (dt_cmp (ok_eq hu) (de_cmp ok_gt (de_name 5) de_int) (de_cmp ok_gt (de_name 6) de_int)) (dw_and1 (dt_cmp (ok_eq hu) (de_callB ok_abs (by rfl) G.n_abs bt_abs (da_cons (de_bin ok_sub (de_callB ok_abs (by rfl) G.n_abs bt_abs (da_cons (de_name 5) da_nil)) (de_callB ok_abs (by rfl) G.n_abs bt_abs (da_cons (de_name 6) da_nil))) da_nil)) de_int))))))) (dss_one (ds_ret (de_bin ok_add (de_bin ok_add (de_name 3) (de_lst (da_cons (de_name 6) (da_cons (de_name 5) (da_cons (de_name 6) da_nil))))) (de_sl (de_name 4) (do_some de_int) do_none)))) dss_nil)
    (dss_one (ds_ret de_non))))))))))
theorem sc_is_number : FnScope ["value"] ["value"] (defScope s_is_number) := ⟨rfl, rfl, rfl, by decide +kernel, rfl, by decide +kernel, by decide +kernel⟩
theorem ok_is_number (D : DefAt K mg "is_number" ["value"] s_is_number) (G : Glb P K mg)  : FnAt P w K mg base 1 "is_number" ["value"] 1 f_is_number := by
  refine fn_at (fixed := [0]) D sc_is_number (by decide) (by decide) fun f cdv A outer s H n E hr => ?_
  have hu := hr.units
  have hu5 := units65 hr
  have hp := passes_of (X := cxOf (L2N.CX P w) P w K mg base ["value"] "is_number" (defScope s_is_number) f cdv A outer s H E) rfl
  have tk := L2N.takes_of (X := cxOf (L2N.CX P w) P w K mg base ["value"] "is_number" (defScope s_is_number) f cdv A outer s H E) (E := E) rfl rfl rfl rfl
  exact (dss_one (ds_ret (de_and (de_isi (by rfl) G.n_isinstance bt_isinstance (de_name 0) (by rfl) G.n_int bt_int) (de_one (de_not (de_isi (by rfl) G.n_isinstance bt_isinstance (de_name 0) (by rfl) G.n_bool bt_bool))))))
theorem sc_check_strands : FnScope ["n"] ["n"] (defScope s_check_strands) := ⟨rfl, rfl, rfl, by decide +kernel, rfl, by decide +kernel, by decide +kernel⟩
theorem ok_check_strands (D : DefAt K mg "check_strands" ["n"] s_check_strands) (G : Glb P K mg) (F_is_number : FnAt P w K mg base 1 "is_number" ["value"] 1 f_is_number) : FnAt P w K mg base 2 "check_strands" ["n"] 1 f_check_strands := by
  refine fn_at (fixed := [0]) D sc_check_strands (by decide) (by decide) fun f cdv A outer s H n E hr => ?_
  have hu := hr.units
  have hu5 := units65 hr
  have hp := passes_of (X := cxOf (L2N.CX P w) P w K mg base ["n"] "check_strands" (defScope s_check_strands) f cdv A outer s H E) rfl
  have tk := L2N.takes_of (X := cxOf (L2N.CX P w) P w K mg base ["n"] "check_strands" (defScope s_check_strands) f cdv A outer s H E) (E := E) rfl rfl rfl rfl
  exact (dss_one (ds_if (dt_w (dw_or (dt_not (dt_val (de_fn F_is_number hr (by decide) (by rfl) (by rfl) tk (da_cons (de_name 0) da_nil)))) (dw_or1 (dt_not (dt_chain ok_le ok_le de_int (de_name 0) (de_glob (by rfl) G.c_MOST_STRANDS)))))) (dss_one (ds_raise0 (by rfl) tk (by rfl) G.rz_BadStrands (by rfl))) dss_nil))
theorem sc_check_letters : FnScope ["n", "word", "most", "place", "letter"] ["n", "word", "most"] (defScope s_check_letters) := ⟨rfl, rfl, rfl, by decide +kernel, rfl, by decide +kernel, by decide +kernel⟩
theorem ok_check_letters (D : DefAt K mg "check_letters" ["n", "word", "most"] s_check_letters) (G : Glb P K mg) (F_check_strands : FnAt P w K mg base 2 "check_strands" ["n"] 1 f_check_strands) (F_is_number : FnAt P w K mg base 1 "is_number" ["value"] 1 f_is_number) : FnAt P w K mg base 3 "check_letters" ["n", "word", "most"] 3 f_check_letters := by
  refine fn_at (fixed := [0, 1, 2]) D sc_check_letters (by decide) (by decide) fun f cdv A outer s H n E hr => ?_
  have hu := hr.units
  have hu5 := units65 hr
  have hp := passes_of (X := cxOf (L2N.CX P w) P w K mg base ["n", "word", "most", "place", "letter"] "check_letters" (defScope s_check_letters) f cdv A outer s H E) rfl
  have tk := L2N.takes_of (X := cxOf (L2N.CX P w) P w K mg base ["n", "word", "most", "place", "letter"] "check_letters" (defScope s_check_letters) f cdv A outer s H E) (E := E) rfl rfl rfl rfl
  exact (dss_cons (ds_expr (de_fn F_check_strands hr (by decide) (by rfl) (by rfl) tk (da_cons (de_name 0) da_nil)))
    (dss_cons (ds_if (dt_not (dt_val (de_isi (by rfl) G.n_isinstance bt_isinstance (de_name 1) (by rfl) G.n_list bt_list))) (dss_one (ds_raise0 (by rfl) tk (by rfl) G.rz_BadWord (by rfl))) dss_nil)
    (dss_cons (ds_if (dt_cmp ok_gt (de_callB ok_len (by rfl) G.n_len bt_len (da_cons (de_name 1) da_nil)) (de_name 2)) (dss_one (ds_raise1 (by rfl) tk hr (by decide) (by rfl) G.su_TooLong (by rfl) (de_callB ok_len (by rfl) G.n_len bt_len (da_cons (de_name 1) da_nil)))) dss_nil)
    (dss_one (ds_for hp (by rfl) (di_enum (by rfl) G.n_enumerate (da_cons (de_name 1) da_nil)) (dg_tup (by rfl) (dgs_cons (dx_name sc_check_letters.nd (by rfl) (Or.inl (by rfl))) (dgs_cons (dx_name sc_check_letters.nd (by rfl) (Or.inl (by rfl))) dgs_nil))) (dss_one (ds_if (dt_w (dw_or (dt_not (dt_val (de_fn F_is_number hr (by decide) (by rfl) (by rfl) tk (da_cons (de_name 4) da_nil)))) (dw_or1 (dt_not (dt_chain ok_le ok_lt de_int (de_callB ok_abs (by rfl) G.n_abs bt_abs (da_cons (de_name 4) da_nil)) (de_name 0)))))) (dss_one (ds_raise1 (by rfl) tk hr (by decide) (by rfl) G.su_BadLetter (by rfl) (de_name 3))) dss_nil)))))))
theorem sc_take_away : FnScope ["word", "place"] ["word", "place"] (defScope s_take_away) := ⟨rfl, rfl, rfl, by decide +kernel, rfl, by decide +kernel, by decide +kernel⟩
theorem ok_take_away (D : DefAt K mg "take_away" ["word", "place"] s_take_away) (G : Glb P K mg)  : FnAt P w K mg base 1 "take_away" ["word", "place"] 2 f_take_away := by
  refine fn_at (fixed := [0, 1]) D sc_take_away (by decide) (by decide) fun f cdv A outer s H n E hr => ?_
  have hu := hr.units
  have hu5 := units65 hr
  have hp := passes_of (X := cxOf (L2N.CX P w) P w K mg base ["word", "place"] "take_away" (defScope s_take_away) f cdv A outer s H E) rfl
  have tk := L2N.takes_of (X := cxOf (L2N.CX P w) P w K mg base ["word", "place"] "take_away" (defScope s_take_away) f cdv A outer s H E) (E := E) rfl rfl rfl rfl
  exact (dss_cons (ds_if (dt_w (dw_or (dt_cmp ok_gt (de_bin ok_add (de_name 1) de_int) (de_callB ok_len (by rfl) G.n_len bt_len (da_cons (de_name 0) da_nil))) (dw_or1 (dt_cmp (ok_ne hu) (de_bin ok_add (de_ix (de_name 0) (de_name 1)) (de_ix (de_name 0) (de_bin ok_add (de_name 1) de_int))) de_int)))) (dss_one (ds_ret de_bl)) dss_nil)
    (dss_cons (ds_delS (de_name 0) (do_some (de_name 1)) (do_some (de_bin ok_add (de_name 1) de_int)))
    (dss_one (ds_ret de_bl))))
theorem sc_exchange_far : FnScope ["word", "place"] ["word", "place"] (defScope s_exchange_far) := ⟨rfl, rfl, rfl, by decide +kernel, rfl, by decide +kernel, by decide +kernel⟩
theorem ok_exchange_far (D : DefAt K mg "exchange_far" ["word", "place"] s_exchange_far) (G : Glb P K mg)  : FnAt P w K mg base 1 "exchange_far" ["word", "place"] 2 f_exchange_far := by
  refine fn_at (fixed := [0, 1]) D sc_exchange_far (by decide) (by decide) fun f cdv A outer s H n E hr => ?_
  have hu := hr.units
  have hu5 := units65 hr
  have hp := passes_of (X := cxOf (L2N.CX P w) P w K mg base ["word", "place"] "exchange_far" (defScope s_exchange_far) f cdv A outer s H E) rfl
  have tk := L2N.takes_of (X := cxOf (L2N.CX P w) P w K mg base ["word", "place"] "exchange_far" (defScope s_exchange_far) f cdv A outer s H E) (E := E) rfl rfl rfl rfl
  exact (dss_cons (ds_if (dt_w (dw_or (dt_cmp ok_gt (de_bin ok_add (de_name 1) de_int) (de_callB ok_len (by rfl) G.n_len bt_len (da_cons (de_name 0) da_nil))) (dw_or1 (dt_cmp ok_lt (de_callB ok_abs (by rfl) G.n_abs bt_abs (da_cons (de_bin ok_sub (de_callB ok_abs (by rfl) G.n_abs bt_abs (da_cons (de_ix (de_name 0) (de_name 1)) da_nil)) (de_callB ok_abs (by rfl) G.n_abs bt_abs (da_cons (de_ix (de_name 0) (de_bin ok_add (de_name 1) de_int)) da_nil))) da_nil)) de_int)))) (dss_one (ds_ret de_bl)) dss_nil)
    (dss_cons (ds_asg (de_tup (da_cons (de_ix (de_name 0) (de_bin ok_add (de_name 1) de_int)) (da_cons (de_ix (de_name 0) (de_name 1)) da_nil))) (dg_tup (by rfl) (dgs_cons (dg_sub (de_name 0) (de_name 1)) (dgs_cons (dg_sub (de_name 0) (de_bin ok_add (de_name 1) de_int)) dgs_nil))))
    (dss_one (ds_ret de_bl))))
theorem sc_turn_near : FnScope ["word", "place"] ["word", "place"] (defScope s_turn_near) := ⟨rfl, rfl, rfl, by decide +kernel, rfl, by decide +kernel, by decide +kernel⟩
theorem ok_turn_near (D : DefAt K mg "turn_near" ["word", "place"] s_turn_near) (G : Glb P K mg)  : FnAt P w K mg base 1 "turn_near" ["word", "place"] 2 f_turn_near := by
  refine fn_at (fixed := [0, 1]) D sc_turn_near (by decide) (by decide) fun f cdv A outer s H n E hr => ?_
  have hu := hr.units
  have hu5 := units65 hr
  have hp := passes_of (X := cxOf (L2N.CX P w) P w K mg base ["word", "place"] "turn_near" (defScope s_turn_near) f cdv A outer s H E) rfl
  have tk := L2N.takes_of (X := cxOf (L2N.CX P w) P w K mg base ["word", "place"] "turn_near" (defScope s_turn_near) f cdv A outer s H E) (E := E) rfl rfl rfl rfl
  exact (dss_cons (ds_if (dt_w (dw_or (dt_cmp ok_gt (de_bin ok_add (de_name 1) de_int) (de_callB ok_len (by rfl) G.n_len bt_len (da_cons (de_name 0) da_nil))) (dw_or (dt_cmp (ok_ne hu) (de_ix (de_name 0) (de_name 1)) (de_ix (de_name 0) (de_bin ok_add (de_name 1) de_int))) (dw_or1 (dt_cmp (ok_ne hu) (de_callB ok_abs (by rfl) G.n_abs bt_abs (da_cons (de_bin ok_sub (de_ix (de_name 0) (de_name 1)) (de_ix (de_name 0) (de_bin ok_add (de_name 1) de_int))) da_nil)) de_int))))) (dss_one (ds_ret de_bl)) dss_nil)
    (dss_cons (ds_asg (de_tup (da_cons (de_ix (de_name 0) (de_bin ok_add (de_name 1) de_int)) (da_cons (de_ix (de_name 0) (de_name 1)) (da_cons (de_ix (de_name 0) (de_bin ok_add (de_name 1) de_int)) da_nil)))) (dg_tup (by rfl) (dgs_cons (dg_sub (de_name 0) (de_name 1)) (dgs_cons (dg_sub (de_name 0) (de_bin ok_add (de_name 1) de_int)) (dgs_cons (dg_sub (de_name 0) (de_bin ok_add (de_name 1) de_int)) dgs_nil)))))
    (dss_one (ds_ret de_bl))))
theorem sc_is_letter : FnScope ["n", "value"] ["n", "value"] (defScope s_is_letter) := ⟨rfl, rfl, rfl, by decide +kernel, rfl, by decide +kernel, by decide +kernel⟩
theorem ok_is_letter (D : DefAt K mg "is_letter" ["n", "value"] s_is_letter) (G : Glb P K mg) (F_is_number : FnAt P w K mg base 1 "is_number" ["value"] 1 f_is_number) : FnAt P w K mg base 2 "is_letter" ["n", "value"] 2 f_is_letter := by
  refine fn_at (fixed := [0, 1]) D sc_is_letter (by decide) (by decide) fun f cdv A outer s H n E hr => ?_
  have hu := hr.units
  have hu5 := units65 hr
  have hp := passes_of (X := cxOf (L2N.CX P w) P w K mg base ["n", "value"] "is_letter" (defScope s_is_letter) f cdv A outer s H E) rfl
  have tk := L2N.takes_of (X := cxOf (L2N.CX P w) P w K mg base ["n", "value"] "is_letter" (defScope s_is_letter) f cdv A outer s H E) (E := E) rfl rfl rfl rfl
  exact (dss_one (ds_ret (de_and (de_fn F_is_number hr (by decide) (by rfl) (by rfl) tk (da_cons (de_name 1) da_nil)) (de_one (de_chain ok_le ok_lt de_int (de_callB ok_abs (by rfl) G.n_abs bt_abs (da_cons (de_name 1) da_nil)) (de_name 0))))))
theorem sc_put_in : FnScope ["n", "word", "place", "letter"] ["n", "word", "place", "letter"] (defScope s_put_in) := ⟨rfl, rfl, rfl, by decide +kernel, rfl, by decide +kernel, by decide +kernel⟩
theorem ok_put_in (D : DefAt K mg "put_in" ["n", "word", "place", "letter"] s_put_in) (G : Glb P K mg) (F_is_letter : FnAt P w K mg base 2 "is_letter" ["n", "value"] 2 f_is_letter) : FnAt P w K mg base 3 "put_in" ["n", "word", "place", "letter"] 4 f_put_in := by
  refine fn_at (fixed := [0, 1, 2, 3]) D sc_put_in (by decide) (by decide) fun f cdv A outer s H n E hr => ?_
  have hu := hr.units
  have hu5 := units65 hr
  have hp := passes_of (X := cxOf (L2N.CX P w) P w K mg base ["n", "word", "place", "letter"] "put_in" (defScope s_put_in) f cdv A outer s H E) rfl
  have tk := L2N.takes_of (X := cxOf (L2N.CX P w) P w K mg base ["n", "word", "place", "letter"] "put_in" (defScope s_put_in) f cdv A outer s H E) (E := E) rfl rfl rfl rfl
  exact (dss_cons (ds_if (dt_w (dw_or (dt_cmp ok_gt (de_name 2) (de_callB ok_len (by rfl) G.n_len bt_len (da_cons (de_name 1) da_nil))) (dw_or1 (dt_not (dt_val (de_fn F_is_letter hr (by decide) (by rfl) (by rfl) tk (da_cons (de_name 0) (da_cons (de_name 3) da_nil)))))))) (dss_one (ds_ret de_bl)) dss_nil)
    (dss_cons (ds_asg (de_lst (da_cons (de_name 3) (da_cons (de_un ok_neg (de_name 3)) da_nil))) (dg_cut (de_name 1) (do_some (de_name 2)) (do_some (de_name 2))))
    (dss_one (ds_ret de_bl))))
theorem sc_try_move : FnScope ["n", "word", "step"] ["n", "word", "step"] (defScope s_try_move) := ⟨rfl, rfl, rfl, by decide +kernel, rfl, by decide +kernel, by decide +kernel⟩
theorem ok_try_move (D : DefAt K mg "try_move" ["n", "word", "step"] s_try_move) (G : Glb P K mg) (F_exchange_far : FnAt P w K mg base 1 "exchange_far" ["word", "place"] 2 f_exchange_far) (F_is_number : FnAt P w K mg base 1 "is_number" ["value"] 1 f_is_number) (F_put_in : FnAt P w K mg base 3 "put_in" ["n", "word", "place", "letter"] 4 f_put_in) (F_take_away : FnAt P w K mg base 1 "take_away" ["word", "place"] 2 f_take_away) (F_turn_near : FnAt P w K mg base 1 "turn_near" ["word", "place"] 2 f_turn_near) : FnAt P w K mg base 4 "try_move" ["n", "word", "step"] 3 f_try_move := by
  refine fn_at (fixed := [0, 1, 2]) D sc_try_move (by decide) (by decide) fun f cdv A outer s H n E hr => ?_
  have hu := hr.units
  have hu5 := units65 hr
  have hp := passes_of (X := cxOf (L2N.CX P w) P w K mg base ["n", "word", "step"] "try_move" (defScope s_try_move) f cdv A outer s H E) rfl
  have tk := L2N.takes_of (X := cxOf (L2N.CX P w) P w K mg base ["n", "word", "step"] "try_move" (defScope s_try_move) f cdv A outer s H E) (E := E) rfl rfl rfl rfl
  exact (dss_cons (ds_if (dt_w (dw_or (dt_not (dt_val (de_isi (by rfl) G.n_isinstance bt_isinstance (de_name 2) (by rfl) G.n_tuple bt_tuple))) (dw_or (dt_cmp (ok_notin hu5) (de_callB ok_len (by rfl) G.n_len bt_len (da_cons (de_name 2) da_nil)) (de_tup (da_cons de_int (da_cons de_int da_nil)))) (dw_or (dt_not (dt_val (de_fn F_is_number hr (by decide) (by rfl) (by rfl) tk (da_cons (de_ix (de_name 2) de_int) da_nil)))) (dw_or1 (dt_cmp ok_lt (de_ix (de_name 2) de_int) de_int)))))) (dss_one (ds_ret de_bl)) dss_nil)
    (dss_cons (ds_if (dt_cmp (ok_eq hu) (de_callB ok_len (by rfl) G.n_len bt_len (da_cons (de_name 2) da_nil)) de_int) (dss_one (ds_ret (de_and (de_cmp (ok_eq hu) (de_ix (de_name 2) de_int) de_str) (de_one (de_fn F_put_in hr (by decide) (by rfl) (by rfl) tk (da_cons (de_name 0) (da_cons (de_name 1) (da_cons (de_ix (de_name 2) de_int) (da_cons (de_ix (de_name 2) de_int) da_nil))))))))) dss_nil)
    (dss_cons (ds_if (dt_cmp (ok_eq hu) (de_ix (de_name 2) de_int) de_str) (dss_one (ds_ret (de_fn F_take_away hr (by decide) (by rfl) (by rfl) tk (da_cons (de_name 1) (da_cons (de_ix (de_name 2) de_int) da_nil))))) dss_nil)
    (dss_cons (ds_if (dt_cmp (ok_eq hu) (de_ix (de_name 2) de_int) de_str) (dss_one (ds_ret (de_fn F_exchange_far hr (by decide) (by rfl) (by rfl) tk (da_cons (de_name 1) (da_cons (de_ix (de_name 2) de_int) da_nil))))) dss_nil)
    (dss_one (ds_ret (de_and (de_cmp (ok_eq hu) (de_ix (de_name 2) de_int) de_str) (de_one (de_fn F_turn_near hr (by decide) (by rfl) (by rfl) tk (da_cons (de_name 1) (da_cons (de_ix (de_name 2) de_int) da_nil)))))))))))
theorem sc_move : FnScope ["n", "word", "step", "found"] ["n", "word", "step"] (defScope s_move) := ⟨rfl, rfl, rfl, by decide +kernel, rfl, by decide +kernel, by decide +kernel⟩
theorem ok_move (D : DefAt K mg "move" ["n", "word", "step"] s_move) (G : Glb P K mg) (F_check_letters : FnAt P w K mg base 3 "check_letters" ["n", "word", "most"] 3 f_check_letters) (F_try_move : FnAt P w K mg base 4 "try_move" ["n", "word", "step"] 3 f_try_move) : FnAt P w K mg base 5 "move" ["n", "word", "step"] 3 f_move := by
  refine fn_at (fixed := [0, 1, 2]) D sc_move (by decide) (by decide) fun f cdv A outer s H n E hr => ?_
  have hu := hr.units
  have hu5 := units65 hr
  have hp := passes_of (X := cxOf (L2N.CX P w) P w K mg base ["n", "word", "step", "found"] "move" (defScope s_move) f cdv A outer s H E) rfl
  have tk := L2N.takes_of (X := cxOf (L2N.CX P w) P w K mg base ["n", "word", "step", "found"] "move" (defScope s_move) f cdv A outer s H E) (E := E) rfl rfl rfl rfl
  exact (dss_cons (ds_expr (de_fn F_check_letters hr (by decide) (by rfl) (by rfl) tk (da_cons (de_name 0) (da_cons (de_name 1) (da_cons (de_glob (by rfl) G.c_MOST_MOVED) da_nil)))))
    (dss_cons (dx_own (asg_of (i := 3) (de_callTy ok_list (by rfl) G.n_list bt_list (da_cons (de_name 1) da_nil)) sc_move.nd (by rfl) (Or.inl (by rfl))))
    (dss_cons (ds_if (dt_not (dt_val (de_fn F_try_move hr (by decide) (by rfl) (by rfl) tk (da_cons (de_name 0) (da_cons (de_name 3) (da_cons (de_name 2) da_nil)))))) (dss_one (ds_raise0 (by rfl) tk (by rfl) G.rz_BadMove (by rfl))) dss_nil)
    (dss_cons (ds_if (dt_cmp ok_gt (de_callB ok_len (by rfl) G.n_len bt_len (da_cons (de_name 3) da_nil)) (de_glob (by rfl) G.c_MOST_MOVED)) (dss_one (ds_raise1 (by rfl) tk hr (by decide) (by rfl) G.su_TooLong (by rfl) (de_callB ok_len (by rfl) G.n_len bt_len (da_cons (de_name 3) da_nil)))) dss_nil)
    (dss_one (ds_ret (de_name 3)))))))
theorem sc__law_classes : FnScope ["e", "held", "name", "is_so"] ["e"] (defScope s__law_classes) := ⟨rfl, rfl, rfl, by decide +kernel, rfl, by decide +kernel, by decide +kernel⟩
theorem ok__law_classes (D : DefAt K mg "_law_classes" ["e"] s__law_classes) (G : Glb P K mg)  : FnAt P w K mg base 1 "_law_classes" ["e"] 1 f__law_classes := by
  refine fn_at (fixed := [0]) D sc__law_classes (by decide) (by decide) fun f cdv A outer s H n E hr => ?_
  have hu := hr.units
  have hu5 := units65 hr
  have hp := passes_of (X := cxOf (L2N.CX P w) P w K mg base ["e", "held", "name", "is_so"] "_law_classes" (defScope s__law_classes) f cdv A outer s H E) rfl
  have tk := L2N.takes_of (X := cxOf (L2N.CX P w) P w K mg base ["e", "held", "name", "is_so"] "_law_classes" (defScope s__law_classes) f cdv A outer s H E) (E := E) rfl rfl rfl rfl
  exact (dss_cons (dx_set (asg_of (i := 1) (de_lst (da_cons (de_tup (da_cons de_str (da_cons (de_isx (tab := Mir.xtab) (by rfl) G.n_isinstance bt_isinstance (de_name 0) (by rfl) G.ix_BadStrands (by rfl)) da_nil))) (da_cons (de_tup (da_cons de_str (da_cons (de_isx (tab := Mir.xtab) (by rfl) G.n_isinstance bt_isinstance (de_name 0) (by rfl) G.ix_BadWord (by rfl)) da_nil))) (da_cons (de_tup (da_cons de_str (da_cons (de_isx (tab := Mir.xtab) (by rfl) G.n_isinstance bt_isinstance (de_name 0) (by rfl) G.ix_TooLong (by rfl)) da_nil))) da_nil)))) sc__law_classes.nd (by rfl) (Or.inl (by rfl))))
    (dss_cons (dx_set (asg_of (i := 1) (de_bin ok_add (de_name 1) (de_lst (da_cons (de_tup (da_cons de_str (da_cons (de_isx (tab := Mir.xtab) (by rfl) G.n_isinstance bt_isinstance (de_name 0) (by rfl) G.ix_BadLetter (by rfl)) da_nil))) (da_cons (de_tup (da_cons de_str (da_cons (de_isx (tab := Mir.xtab) (by rfl) G.n_isinstance bt_isinstance (de_name 0) (by rfl) G.ix_BadPlaces (by rfl)) da_nil))) (da_cons (de_tup (da_cons de_str (da_cons (de_isx (tab := Mir.xtab) (by rfl) G.n_isinstance bt_isinstance (de_name 0) (by rfl) G.ix_BadMove (by rfl)) da_nil))) da_nil))))) sc__law_classes.nd (by rfl) (Or.inl (by rfl))))
    (dss_cons (dx_set (asg_of (i := 1) (de_bin ok_add (de_name 1) (de_lst (da_cons (de_tup (da_cons de_str (da_cons (de_isx (tab := Mir.xtab) (by rfl) G.n_isinstance bt_isinstance (de_name 0) (by rfl) G.ix_BadTurning (by rfl)) da_nil))) (da_cons (de_tup (da_cons de_str (da_cons (de_isx (tab := Mir.xtab) (by rfl) G.n_isinstance bt_isinstance (de_name 0) (by rfl) G.ix_BadForm (by rfl)) da_nil))) (da_cons (de_tup (da_cons de_str (da_cons (de_isx (tab := Mir.xtab) (by rfl) G.n_isinstance bt_isinstance (de_name 0) (by rfl) G.ix_TooMany (by rfl)) da_nil))) da_nil))))) sc__law_classes.nd (by rfl) (Or.inl (by rfl))))
    (dss_cons (dx_set (asg_of (i := 1) (de_bin ok_add (de_name 1) (de_lst (da_cons (de_tup (da_cons de_str (da_cons (de_isx (tab := Mir.xtab) (by rfl) G.n_isinstance bt_isinstance (de_name 0) (by rfl) G.ix_BadHandle (by rfl)) da_nil))) (da_cons (de_tup (da_cons de_str (da_cons (de_isx (tab := Mir.xtab) (by rfl) G.n_isinstance bt_isinstance (de_name 0) (by rfl) G.ix_BadList (by rfl)) da_nil))) (da_cons (de_tup (da_cons de_str (da_cons (de_isx (tab := Mir.xtab) (by rfl) G.n_isinstance bt_isinstance (de_name 0) (by rfl) G.ix_BadNumbers (by rfl)) da_nil))) da_nil))))) sc__law_classes.nd (by rfl) (Or.inl (by rfl))))
    (dss_cons (dx_set (asg_of (i := 1) (de_bin ok_add (de_name 1) (de_lst (da_cons (de_tup (da_cons de_str (da_cons (de_isx (tab := Mir.xtab) (by rfl) G.n_isinstance bt_isinstance (de_name 0) (by rfl) G.ix_BadNumber (by rfl)) da_nil))) (da_cons (de_tup (da_cons de_str (da_cons (de_isx (tab := Mir.xtab) (by rfl) G.n_isinstance bt_isinstance (de_name 0) (by rfl) G.ix_BadRange (by rfl)) da_nil))) (da_cons (de_tup (da_cons de_str (da_cons (de_isx (tab := Mir.xtab) (by rfl) G.n_isinstance bt_isinstance (de_name 0) (by rfl) G.ix_BadDeed (by rfl)) da_nil))) da_nil))))) sc__law_classes.nd (by rfl) (Or.inl (by rfl))))
    (dss_cons (dx_set (asg_of (i := 1) (de_bin ok_add (de_name 1) (de_lst (da_cons (de_tup (da_cons de_str (da_cons (de_isx (tab := Mir.xtab) (by rfl) G.n_isinstance bt_isinstance (de_name 0) (by rfl) G.ix_BadPaper (by rfl)) da_nil))) (da_cons (de_tup (da_cons de_str (da_cons (de_isx (tab := Mir.xtab) (by rfl) G.n_isinstance bt_isinstance (de_name 0) (by rfl) G.ix_InUse (by rfl)) da_nil))) (da_cons (de_tup (da_cons de_str (da_cons (de_isx (tab := Mir.xtab) (by rfl) G.n_isinstance bt_isinstance (de_name 0) (by rfl) G.ix_NotPositive (by rfl)) da_nil))) da_nil))))) sc__law_classes.nd (by rfl) (Or.inl (by rfl))))
    (dss_cons (dx_set (asg_of (i := 1) (de_bin ok_add (de_name 1) (de_lst (da_cons (de_tup (da_cons de_str (da_cons (de_isx (tab := Mir.xtab) (by rfl) G.n_isinstance bt_isinstance (de_name 0) (by rfl) G.ix_NoCurve (by rfl)) da_nil))) (da_cons (de_tup (da_cons de_str (da_cons (de_isx (tab := Mir.xtab) (by rfl) G.n_isinstance bt_isinstance (de_name 0) (by rfl) G.ix_NothingToUndo (by rfl)) da_nil))) (da_cons (de_tup (da_cons de_str (da_cons (de_isx (tab := Mir.xtab) (by rfl) G.n_isinstance bt_isinstance (de_name 0) (by rfl) G.ix_NothingToRedo (by rfl)) da_nil))) da_nil))))) sc__law_classes.nd (by rfl) (Or.inl (by rfl))))
    (dss_cons (dx_set (asg_of (i := 1) (de_bin ok_add (de_name 1) (de_lst (da_cons (de_tup (da_cons de_str (da_cons (de_isx (tab := Mir.xtab) (by rfl) G.n_isinstance bt_isinstance (de_name 0) (by rfl) G.ix_UnknownName (by rfl)) da_nil))) (da_cons (de_tup (da_cons de_str (da_cons (de_isx (tab := Mir.xtab) (by rfl) G.n_isinstance bt_isinstance (de_name 0) (by rfl) G.ix_BadEntry (by rfl)) da_nil))) (da_cons (de_tup (da_cons de_str (da_cons (de_isx (tab := Mir.xtab) (by rfl) G.n_isinstance bt_isinstance (de_name 0) (by rfl) G.ix_BadText (by rfl)) da_nil))) da_nil))))) sc__law_classes.nd (by rfl) (Or.inl (by rfl))))
    (dss_one (ds_ret (dx_comp (own := [("name", 2), ("is_so", 3)]) (by rfl) sc__law_classes.nd (di_seq (de_name 1)) (blkOk_by (by kernel_rfl)) (fun _ _ _ _ _ _ => (dg_tup (by rfl) (dgs_cons (dx_name sc__law_classes.nd (by rfl) (Or.inl (by rfl))) (dgs_cons (dx_name sc__law_classes.nd (by rfl) (Or.inl (by rfl))) dgs_nil)))) (fun _ _ _ _ _ _ => (dts_one (dt_tru (de_name 3)))) (fun _ _ _ _ _ _ => (de_name 2)))))))))))))
theorem okT__law_classes (D : DefAt K mg "_law_classes" ["e"] s__law_classes) (G : Glb P K mg)  : FnAtT P w K mg base 1 "_law_classes" ["e"] 1 f__law_classes := by
  refine fn_atT (fixed := [0]) D sc__law_classes (by decide) (by decide) fun f cdv A outer s H n E hr hot => ?_
  have hu := unitsT hr
  have hu5 := unitsT5 hr
  have hp := passes_of (X := cxT (L2N.CX P w) P w K mg base ["e", "held", "name", "is_so"] "_law_classes" (defScope s__law_classes) f cdv A outer s H E) rfl
  have tk := L2N.takes_of (X := cxT (L2N.CX P w) P w K mg base ["e", "held", "name", "is_so"] "_law_classes" (defScope s__law_classes) f cdv A outer s H E) (E := E) rfl rfl rfl rfl
  exact (dss_cons (dx_set (asg_of (i := 1) (de_lst (da_cons (de_tup (da_cons de_str (da_cons (de_isx (tab := Mir.xtab) (by rfl) G.n_isinstance bt_isinstance (de_name 0) (by rfl) G.ix_BadStrands (by rfl)) da_nil))) (da_cons (de_tup (da_cons de_str (da_cons (de_isx (tab := Mir.xtab) (by rfl) G.n_isinstance bt_isinstance (de_name 0) (by rfl) G.ix_BadWord (by rfl)) da_nil))) (da_cons (de_tup (da_cons de_str (da_cons (de_isx (tab := Mir.xtab) (by rfl) G.n_isinstance bt_isinstance (de_name 0) (by rfl) G.ix_TooLong (by rfl)) da_nil))) da_nil)))) sc__law_classes.nd (by rfl) (Or.inl (by rfl))))
    (dss_cons (dx_set (asg_of (i := 1) (de_bin ok_add (de_name 1) (de_lst (da_cons (de_tup (da_cons de_str (da_cons (de_isx (tab := Mir.xtab) (by rfl) G.n_isinstance bt_isinstance (de_name 0) (by rfl) G.ix_BadLetter (by rfl)) da_nil))) (da_cons (de_tup (da_cons de_str (da_cons (de_isx (tab := Mir.xtab) (by rfl) G.n_isinstance bt_isinstance (de_name 0) (by rfl) G.ix_BadPlaces (by rfl)) da_nil))) (da_cons (de_tup (da_cons de_str (da_cons (de_isx (tab := Mir.xtab) (by rfl) G.n_isinstance bt_isinstance (de_name 0) (by rfl) G.ix_BadMove (by rfl)) da_nil))) da_nil))))) sc__law_classes.nd (by rfl) (Or.inl (by rfl))))
    (dss_cons (dx_set (asg_of (i := 1) (de_bin ok_add (de_name 1) (de_lst (da_cons (de_tup (da_cons de_str (da_cons (de_isx (tab := Mir.xtab) (by rfl) G.n_isinstance bt_isinstance (de_name 0) (by rfl) G.ix_BadTurning (by rfl)) da_nil))) (da_cons (de_tup (da_cons de_str (da_cons (de_isx (tab := Mir.xtab) (by rfl) G.n_isinstance bt_isinstance (de_name 0) (by rfl) G.ix_BadForm (by rfl)) da_nil))) (da_cons (de_tup (da_cons de_str (da_cons (de_isx (tab := Mir.xtab) (by rfl) G.n_isinstance bt_isinstance (de_name 0) (by rfl) G.ix_TooMany (by rfl)) da_nil))) da_nil))))) sc__law_classes.nd (by rfl) (Or.inl (by rfl))))
    (dss_cons (dx_set (asg_of (i := 1) (de_bin ok_add (de_name 1) (de_lst (da_cons (de_tup (da_cons de_str (da_cons (de_isx (tab := Mir.xtab) (by rfl) G.n_isinstance bt_isinstance (de_name 0) (by rfl) G.ix_BadHandle (by rfl)) da_nil))) (da_cons (de_tup (da_cons de_str (da_cons (de_isx (tab := Mir.xtab) (by rfl) G.n_isinstance bt_isinstance (de_name 0) (by rfl) G.ix_BadList (by rfl)) da_nil))) (da_cons (de_tup (da_cons de_str (da_cons (de_isx (tab := Mir.xtab) (by rfl) G.n_isinstance bt_isinstance (de_name 0) (by rfl) G.ix_BadNumbers (by rfl)) da_nil))) da_nil))))) sc__law_classes.nd (by rfl) (Or.inl (by rfl))))
    (dss_cons (dx_set (asg_of (i := 1) (de_bin ok_add (de_name 1) (de_lst (da_cons (de_tup (da_cons de_str (da_cons (de_isx (tab := Mir.xtab) (by rfl) G.n_isinstance bt_isinstance (de_name 0) (by rfl) G.ix_BadNumber (by rfl)) da_nil))) (da_cons (de_tup (da_cons de_str (da_cons (de_isx (tab := Mir.xtab) (by rfl) G.n_isinstance bt_isinstance (de_name 0) (by rfl) G.ix_BadRange (by rfl)) da_nil))) (da_cons (de_tup (da_cons de_str (da_cons (de_isx (tab := Mir.xtab) (by rfl) G.n_isinstance bt_isinstance (de_name 0) (by rfl) G.ix_BadDeed (by rfl)) da_nil))) da_nil))))) sc__law_classes.nd (by rfl) (Or.inl (by rfl))))
    (dss_cons (dx_set (asg_of (i := 1) (de_bin ok_add (de_name 1) (de_lst (da_cons (de_tup (da_cons de_str (da_cons (de_isx (tab := Mir.xtab) (by rfl) G.n_isinstance bt_isinstance (de_name 0) (by rfl) G.ix_BadPaper (by rfl)) da_nil))) (da_cons (de_tup (da_cons de_str (da_cons (de_isx (tab := Mir.xtab) (by rfl) G.n_isinstance bt_isinstance (de_name 0) (by rfl) G.ix_InUse (by rfl)) da_nil))) (da_cons (de_tup (da_cons de_str (da_cons (de_isx (tab := Mir.xtab) (by rfl) G.n_isinstance bt_isinstance (de_name 0) (by rfl) G.ix_NotPositive (by rfl)) da_nil))) da_nil))))) sc__law_classes.nd (by rfl) (Or.inl (by rfl))))
    (dss_cons (dx_set (asg_of (i := 1) (de_bin ok_add (de_name 1) (de_lst (da_cons (de_tup (da_cons de_str (da_cons (de_isx (tab := Mir.xtab) (by rfl) G.n_isinstance bt_isinstance (de_name 0) (by rfl) G.ix_NoCurve (by rfl)) da_nil))) (da_cons (de_tup (da_cons de_str (da_cons (de_isx (tab := Mir.xtab) (by rfl) G.n_isinstance bt_isinstance (de_name 0) (by rfl) G.ix_NothingToUndo (by rfl)) da_nil))) (da_cons (de_tup (da_cons de_str (da_cons (de_isx (tab := Mir.xtab) (by rfl) G.n_isinstance bt_isinstance (de_name 0) (by rfl) G.ix_NothingToRedo (by rfl)) da_nil))) da_nil))))) sc__law_classes.nd (by rfl) (Or.inl (by rfl))))
    (dss_cons (dx_set (asg_of (i := 1) (de_bin ok_add (de_name 1) (de_lst (da_cons (de_tup (da_cons de_str (da_cons (de_isx (tab := Mir.xtab) (by rfl) G.n_isinstance bt_isinstance (de_name 0) (by rfl) G.ix_UnknownName (by rfl)) da_nil))) (da_cons (de_tup (da_cons de_str (da_cons (de_isx (tab := Mir.xtab) (by rfl) G.n_isinstance bt_isinstance (de_name 0) (by rfl) G.ix_BadEntry (by rfl)) da_nil))) (da_cons (de_tup (da_cons de_str (da_cons (de_isx (tab := Mir.xtab) (by rfl) G.n_isinstance bt_isinstance (de_name 0) (by rfl) G.ix_BadText (by rfl)) da_nil))) da_nil))))) sc__law_classes.nd (by rfl) (Or.inl (by rfl))))
    (dss_one (ds_ret (dx_compT (own := [("name", 2), ("is_so", 3)]) hot sc__law_classes.nd (dit_seq (de_name 1)) (blkOk_by (by kernel_rfl)) (fun _ _ _ _ _ _ hot => (dg_tupT hot (dgs_cons (dx_name sc__law_classes.nd (by rfl) (Or.inl (by rfl))) (dgs_cons (dx_name sc__law_classes.nd (by rfl) (Or.inl (by rfl))) dgs_nil)))) (fun _ _ _ _ _ _ hot => (dts_one (dt_tru (de_name 3)))) (fun _ _ _ _ _ _ hot => (de_name 2)))))))))))))
theorem sc__law_kept : FnScope ["e"] ["e"] (defScope s__law_kept) := ⟨rfl, rfl, rfl, by decide +kernel, rfl, by decide +kernel, by decide +kernel⟩
theorem ok__law_kept (D : DefAt K mg "_law_kept" ["e"] s__law_kept) (G : Glb P K mg)  : FnAt P w K mg base 1 "_law_kept" ["e"] 1 f__law_kept := by
  refine fn_at (fixed := [0]) D sc__law_kept (by decide) (by decide) fun f cdv A outer s H n E hr => ?_
  have hu := hr.units
  have hu5 := units65 hr
  have hp := passes_of (X := cxOf (L2N.CX P w) P w K mg base ["e"] "_law_kept" (defScope s__law_kept) f cdv A outer s H E) rfl
  have tk := L2N.takes_of (X := cxOf (L2N.CX P w) P w K mg base ["e"] "_law_kept" (defScope s__law_kept) f cdv A outer s H E) (E := E) rfl rfl rfl rfl
  exact (dss_cons (ds_if (dt_val (de_isx (tab := Mir.xtab) (by rfl) G.n_isinstance bt_isinstance (de_name 0) (by rfl) G.ix_BadLetter (by rfl))) (dss_one (ds_ret (de_fldX (tab := Mir.xtab_place) (de_name 0) (by rfl) G.xf_place))) dss_nil)
    (dss_cons (ds_if (dt_val (de_isx (tab := Mir.xtab) (by rfl) G.n_isinstance bt_isinstance (de_name 0) (by rfl) G.ix_TooLong (by rfl))) (dss_one (ds_ret (de_fldX (tab := Mir.xtab_number) (de_name 0) (by rfl) G.xf_number))) dss_nil)
    (dss_one (ds_ret de_non))))
theorem okT__law_kept (D : DefAt K mg "_law_kept" ["e"] s__law_kept) (G : Glb P K mg)  : FnAtT P w K mg base 1 "_law_kept" ["e"] 1 f__law_kept := by
  refine fn_atT (fixed := [0]) D sc__law_kept (by decide) (by decide) fun f cdv A outer s H n E hr hot => ?_
  have hu := unitsT hr
  have hu5 := unitsT5 hr
  have hp := passes_of (X := cxT (L2N.CX P w) P w K mg base ["e"] "_law_kept" (defScope s__law_kept) f cdv A outer s H E) rfl
  have tk := L2N.takes_of (X := cxT (L2N.CX P w) P w K mg base ["e"] "_law_kept" (defScope s__law_kept) f cdv A outer s H E) (E := E) rfl rfl rfl rfl
  exact (dss_cons (ds_if (dt_val (de_isx (tab := Mir.xtab) (by rfl) G.n_isinstance bt_isinstance (de_name 0) (by rfl) G.ix_BadLetter (by rfl))) (dss_one (ds_ret (de_fldX (tab := Mir.xtab_place) (de_name 0) (by rfl) G.xf_place))) dss_nil)
    (dss_cons (ds_if (dt_val (de_isx (tab := Mir.xtab) (by rfl) G.n_isinstance bt_isinstance (de_name 0) (by rfl) G.ix_TooLong (by rfl))) (dss_one (ds_ret (de_fldX (tab := Mir.xtab_number) (de_name 0) (by rfl) G.xf_number))) dss_nil)
    (dss_one (ds_ret de_non))))
theorem sc__law_told : FnScope ["n", "word", "step", "e"] ["n", "word", "step"] (defScope s__law_told) := ⟨rfl, rfl, rfl, by decide +kernel, rfl, by decide +kernel, by decide +kernel⟩
theorem ok__law_told (D : DefAt K mg "_law_told" ["n", "word", "step"] s__law_told) (G : Glb P K mg) (F_move : FnAt P w K mg base 5 "move" ["n", "word", "step"] 3 f_move) (FT__law_classes : FnAtT P w K mg base 1 "_law_classes" ["e"] 1 f__law_classes) (FT__law_kept : FnAtT P w K mg base 1 "_law_kept" ["e"] 1 f__law_kept) : FnAt P w K mg base 6 "_law_told" ["n", "word", "step"] 3 f__law_told := by
  refine fn_at (fixed := [0, 1, 2]) D sc__law_told (by decide) (by decide) fun f cdv A outer s H n E hr => ?_
  have hu := hr.units
  have hu5 := units65 hr
  have hp := passes_of (X := cxOf (L2N.CX P w) P w K mg base ["n", "word", "step", "e"] "_law_told" (defScope s__law_told) f cdv A outer s H E) rfl
  have tk := L2N.takes_of (X := cxOf (L2N.CX P w) P w K mg base ["n", "word", "step", "e"] "_law_told" (defScope s__law_told) f cdv A outer s H E) (E := E) rfl rfl rfl rfl
  exact (dss_one (ds_tryT (tab := Mir.xtab) (i := 3) G.tk_BraidError hr (by rfl) rfl rfl rfl sc__law_told.nd (by rfl) (by rfl) (show 3 ∉ ([0, 1, 2] : List Nat) by decide) (by rfl) (fun _ _ _ tk hp => (dss_one (ds_ret (de_tupO (dal_cons de_str (dal_one (de_fn F_move hr (by decide) (by rfl) (by rfl) tk (da_cons (de_name 0) (da_cons (de_name 1) (da_cons (de_name 2) da_nil)))))))))) (fun _ _ _ hot hr tk hp => (dss_one (ds_ret (de_tup (da_cons de_str (da_cons (de_fnT FT__law_classes hr hot (by decide) (by rfl) (by rfl) tk (da_cons (de_name 3) da_nil)) (da_cons (de_fnT FT__law_kept hr hot (by decide) (by rfl) (by rfl) tk (da_cons (de_name 3) da_nil)) da_nil)))))))))
theorem sc__law_same : FnScope ["value", "due", "k"] ["value", "due"] (defScope s__law_same) := ⟨rfl, rfl, rfl, by decide +kernel, rfl, by decide +kernel, by decide +kernel⟩
theorem okr__law_same (D : DefAt K mg "_law_same" ["value", "due"] s__law_same) (G : Glb P K mg)  : ∀ n, FnAt P w K mg base (0 + n) "_law_same" ["value", "due"] 2 (fr__law_same n)
  | 0 => fnat_zero D
  | nn + 1 => by
    have F_self := okr__law_same D G  nn
    refine fn_at (k := 0 + nn) (fixed := [0, 1]) D sc__law_same (by decide) (by decide) fun f cdv A outer s H n E hr => ?_
    have hu := hr.units
    have hu5 := units65 hr
    have hp := passes_of (X := cxOf (L2N.CX P w) P w K mg base ["value", "due", "k"] "_law_same" (defScope s__law_same) f cdv A outer s H E) rfl
    have tk := L2N.takes_of (X := cxOf (L2N.CX P w) P w K mg base ["value", "due", "k"] "_law_same" (defScope s__law_same) f cdv A outer s H E) (E := E) rfl rfl rfl rfl
    exact (dss_cons (ds_if (dt_cmp ok_is (de_name 1) de_non) (dss_one (ds_ret (de_cmp ok_is (de_name 0) de_non))) dss_nil)
    (dss_cons (ds_if (dt_val (de_isi (by rfl) G.n_isinstance bt_isinstance (de_name 1) (by rfl) G.n_bool bt_bool)) (dss_one (ds_ret (de_and (de_isi (by rfl) G.n_isinstance bt_isinstance (de_name 0) (by rfl) G.n_bool bt_bool) (de_one (de_cmp (ok_eq hu) (de_name 0) (de_name 1)))))) dss_nil)
    (dss_cons (ds_if (dt_val (de_isi (by rfl) G.n_isinstance bt_isinstance (de_name 1) (by rfl) G.n_int bt_int)) (dss_one (ds_ret (de_and (de_isi (by rfl) G.n_isinstance bt_isinstance (de_name 0) (by rfl) G.n_int bt_int) (de_and (de_not (de_isi (by rfl) G.n_isinstance bt_isinstance (de_name 0) (by rfl) G.n_bool bt_bool)) (de_one (de_cmp (ok_eq hu) (de_name 0) (de_name 1))))))) dss_nil)
    (dss_cons (ds_if (dt_val (de_isi (by rfl) G.n_isinstance bt_isinstance (de_name 1) (by rfl) G.n_str bt_str)) (dss_one (ds_ret (de_and (de_isi (by rfl) G.n_isinstance bt_isinstance (de_name 0) (by rfl) G.n_str bt_str) (de_one (de_cmp (ok_eq hu) (de_name 0) (de_name 1)))))) dss_nil)
    (dss_cons (ds_if (dt_w (dw_or (dt_w (dw_and (dt_val (de_isi (by rfl) G.n_isinstance bt_isinstance (de_name 1) (by rfl) G.n_list bt_list)) (dw_and1 (dt_not (dt_val (de_isi (by rfl) G.n_isinstance bt_isinstance (de_name 0) (by rfl) G.n_list bt_list)))))) (dw_or1 (dt_w (dw_and (dt_val (de_isi (by rfl) G.n_isinstance bt_isinstance (de_name 1) (by rfl) G.n_tuple bt_tuple)) (dw_and1 (dt_not (dt_val (de_isi (by rfl) G.n_isinstance bt_isinstance (de_name 0) (by rfl) G.n_tuple bt_tuple))))))))) (dss_one (ds_ret de_bl)) dss_nil)
    (dss_one (ds_ret (de_and (de_cmp (ok_eq hu) (de_callB ok_len (by rfl) G.n_len bt_len (da_cons (de_name 0) da_nil)) (de_callB ok_len (by rfl) G.n_len bt_len (da_cons (de_name 1) da_nil))) (de_one (de_callB (ok_all (by rfl)) (by rfl) G.n_all bt_all (da_cons (dx_comp (own := [("k", 2)]) (by rfl) sc__law_same.nd (di_r1 (by rfl) G.n_range (da_cons (de_callB ok_len (by rfl) G.n_len bt_len (da_cons (de_name 1) da_nil)) da_nil)) (blkOk_by (by kernel_rfl)) (fun _ _ _ _ _ _ => (dx_name sc__law_same.nd (by rfl) (Or.inl (by rfl)))) (fun _ _ _ _ _ _ => dts_nil) (fun _ _ _ _ _ _ => (de_fn F_self hr (by omega) (by rfl) (by rfl) takesF (da_cons (de_ix (de_name 0) (de_name 2)) (da_cons (de_ix (de_name 1) (de_name 2)) da_nil))))) da_nil)))))))))))
theorem ok__law_same (D : DefAt K mg "_law_same" ["value", "due"] s__law_same) (G : Glb P K mg)  : FnAt P w K mg base 6 "_law_same" ["value", "due"] 2 f__law_same := okr__law_same D G  6
theorem sc__law_copy : FnScope ["value", "one"] ["value"] (defScope s__law_copy) := ⟨rfl, rfl, rfl, by decide +kernel, rfl, by decide +kernel, by decide +kernel⟩
theorem okr__law_copy (D : DefAt K mg "_law_copy" ["value"] s__law_copy) (G : Glb P K mg)  : ∀ n, FnAt P w K mg base (0 + n) "_law_copy" ["value"] 1 (fr__law_copy n)
  | 0 => fnat_zero D
  | nn + 1 => by
    have F_self := okr__law_copy D G  nn
    refine fn_at (k := 0 + nn) (fixed := [0]) D sc__law_copy (by decide) (by decide) fun f cdv A outer s H n E hr => ?_
    have hu := hr.units
    have hu5 := units65 hr
    have hp := passes_of (X := cxOf (L2N.CX P w) P w K mg base ["value", "one"] "_law_copy" (defScope s__law_copy) f cdv A outer s H E) rfl
    have tk := L2N.takes_of (X := cxOf (L2N.CX P w) P w K mg base ["value", "one"] "_law_copy" (defScope s__law_copy) f cdv A outer s H E) (E := E) rfl rfl rfl rfl
    exact (dss_cons (ds_if (dt_val (de_isi (by rfl) G.n_isinstance bt_isinstance (de_name 0) (by rfl) G.n_list bt_list)) (dss_one (ds_ret (dx_comp (own := [("one", 1)]) (by rfl) sc__law_copy.nd (di_seq (de_name 0)) (blkOk_by (by kernel_rfl)) (fun _ _ _ _ _ _ => (dx_name sc__law_copy.nd (by rfl) (Or.inl (by rfl)))) (fun _ _ _ _ _ _ => dts_nil) (fun _ _ _ _ _ _ => (de_fn F_self hr (by omega) (by rfl) (by rfl) takesF (da_cons (de_name 1) da_nil)))))) dss_nil)
    (dss_cons (ds_if (dt_val (de_isi (by rfl) G.n_isinstance bt_isinstance (de_name 0) (by rfl) G.n_tuple bt_tuple)) (dss_one (ds_ret (de_callTy ok_tuple (by rfl) G.n_tuple bt_tuple (da_cons (dx_comp (own := [("one", 1)]) (by rfl) sc__law_copy.nd (di_seq (de_name 0)) (blkOk_by (by kernel_rfl)) (fun _ _ _ _ _ _ => (dx_name sc__law_copy.nd (by rfl) (Or.inl (by rfl)))) (fun _ _ _ _ _ _ => dts_nil) (fun _ _ _ _ _ _ => (de_fn F_self hr (by omega) (by rfl) (by rfl) takesF (da_cons (de_name 1) da_nil)))) da_nil)))) dss_nil)
    (dss_one (ds_ret (de_name 0)))))
theorem ok__law_copy (D : DefAt K mg "_law_copy" ["value"] s__law_copy) (G : Glb P K mg)  : FnAt P w K mg base 6 "_law_copy" ["value"] 1 f__law_copy := okr__law_copy D G  6
theorem sc__law_way_back : FnScope ["word", "step"] ["word", "step"] (defScope s__law_way_back) := ⟨rfl, rfl, rfl, by decide +kernel, rfl, by decide +kernel, by decide +kernel⟩
theorem ok__law_way_back (D : DefAt K mg "_law_way_back" ["word", "step"] s__law_way_back) (G : Glb P K mg)  : FnAt P w K mg base 1 "_law_way_back" ["word", "step"] 2 f__law_way_back := by
  refine fn_at (fixed := [0, 1]) D sc__law_way_back (by decide) (by decide) fun f cdv A outer s H n E hr => ?_
  have hu := hr.units
  have hu5 := units65 hr
  have hp := passes_of (X := cxOf (L2N.CX P w) P w K mg base ["word", "step"] "_law_way_back" (defScope s__law_way_back) f cdv A outer s H E) rfl
  have tk := L2N.takes_of (X := cxOf (L2N.CX P w) P w K mg base ["word", "step"] "_law_way_back" (defScope s__law_way_back) f cdv A outer s H E) (E := E) rfl rfl rfl rfl
  exact (dss_cons (ds_if (dt_cmp (ok_eq hu) (de_ix (de_name 1) de_int) de_str) (dss_one (ds_ret (de_tup (da_cons de_str (da_cons (de_ix (de_name 1) de_int) da_nil))))) dss_nil)
    (dss_cons (ds_if (dt_cmp (ok_eq hu) (de_ix (de_name 1) de_int) de_str) (dss_one (ds_ret (de_tup (da_cons de_str (da_cons (de_ix (de_name 1) de_int) (da_cons (de_ix (de_name 0) (de_ix (de_name 1) de_int)) da_nil)))))) dss_nil)
    (dss_one (ds_ret (de_name 1)))))
theorem sc__law_is_right : FnScope ["n", "word", "step", "handed", "further", "due", "told", "letter"] ["n", "word", "step"] (defScope s__law_is_right) := ⟨rfl, rfl, rfl, by decide +kernel, rfl, by decide +kernel, by decide +kernel⟩
theorem ok__law_is_right (D : DefAt K mg "_law_is_right" ["n", "word", "step"] s__law_is_right) (G : Glb P K mg) (F__law_behind : FnAt P w K mg base 2 "_law_behind" ["n", "word", "step"] 3 f__law_behind) (F__law_copy : FnAt P w K mg base 6 "_law_copy" ["value"] 1 f__law_copy) (F__law_same : FnAt P w K mg base 6 "_law_same" ["value", "due"] 2 f__law_same) (F__law_told : FnAt P w K mg base 6 "_law_told" ["n", "word", "step"] 3 f__law_told) (F__law_way_back : FnAt P w K mg base 1 "_law_way_back" ["word", "step"] 2 f__law_way_back) : FnAt P w K mg base 7 "_law_is_right" ["n", "word", "step"] 3 f__law_is_right := by
  refine fn_at (fixed := [0, 1, 2]) D sc__law_is_right (by decide) (by decide) fun f cdv A outer s H n E hr => ?_
  have hu := hr.units
  have hu5 := units65 hr
  have hp := passes_of (X := cxOf (L2N.CX P w) P w K mg base ["n", "word", "step", "handed", "further", "due", "told", "letter"] "_law_is_right" (defScope s__law_is_right) f cdv A outer s H E) rfl
  have tk := L2N.takes_of (X := cxOf (L2N.CX P w) P w K mg base ["n", "word", "step", "handed", "further", "due", "told", "letter"] "_law_is_right" (defScope s__law_is_right) f cdv A outer s H E) (E := E) rfl rfl rfl rfl
  exact (dss_cons (dx_par (i := 3) (j := 4) (by rfl) sc__law_is_right.nd (by rfl) (by rfl) (by decide) (by rfl) (by rfl) (da_cons (dx_comp (own := [("letter", 7)]) (by rfl) sc__law_is_right.nd (di_seq (de_name 1)) (blkOk_by (by kernel_rfl)) (fun _ _ _ _ _ _ => (dx_name sc__law_is_right.nd (by rfl) (Or.inl (by rfl)))) (fun _ _ _ _ _ _ => dts_nil) (fun _ _ _ _ _ _ => (de_name 7))) (da_cons (de_fn F__law_copy hr (by decide) (by rfl) (by rfl) tk (da_cons (de_name 2) da_nil)) da_nil)) (by rfl))
    (dss_cons (dx_set (asg_of (i := 5) (de_fn F__law_behind hr (by decide) (by rfl) (by rfl) tk (da_cons (de_name 0) (da_cons (de_name 1) (da_cons (de_name 2) da_nil)))) sc__law_is_right.nd (by rfl) (Or.inl (by rfl))))
    (dss_cons (dx_own2 (asg_of (i := 6) (de_fn F__law_told hr (by decide) (by rfl) (by rfl) tk (da_cons (de_name 0) (da_cons (de_name 3) (da_cons (de_name 4) da_nil)))) sc__law_is_right.nd (by rfl) (Or.inl (by rfl))))
    (dss_cons (ds_if (dt_w (dw_or (dt_cmp (ok_ne hu) (de_name 3) (de_name 1)) (dw_or1 (dt_not (dt_val (de_fn F__law_same hr (by decide) (by rfl) (by rfl) tk (da_cons (de_name 4) (da_cons (de_name 2) da_nil)))))))) (dss_one (ds_ret de_bl)) dss_nil)
    (dss_cons (ds_if (dt_cmp ok_is (de_name 5) de_non) (dss_one (ds_ret (de_fnX F__law_same hr (by decide) (by rfl) (by rfl) tk (da_cons (de_name 6) (da_cons (de_tup (da_cons de_str (da_cons (de_lst (da_cons de_str da_nil)) (da_cons de_non da_nil)))) da_nil))))) dss_nil)
    (dss_cons (ds_if (dt_not (dt_val (de_fnX F__law_same hr (by decide) (by rfl) (by rfl) tk (da_cons (de_name 6) (da_cons (de_tup (da_cons de_str (da_cons (de_name 5) da_nil))) da_nil))))) (dss_one (ds_ret de_bl)) dss_nil)
    (dss_cons (ds_expr (de_meth PySem.F.plainAttrs_list PySem.F.slot_list_append PySem.F.type_list_append ok_append (de_ixC (k := 1) (de_name 6)) (da_cons de_int da_nil)))
    (dss_cons (ds_if (dt_w (dw_or (dt_cmp (ok_ne hu) (de_name 3) (de_name 1)) (dw_or1 (dt_not (dt_val (de_fn F__law_same hr (by decide) (by rfl) (by rfl) tk (da_cons (de_fn F__law_told hr (by decide) (by rfl) (by rfl) tk (da_cons (de_name 0) (da_cons (de_name 3) (da_cons (de_name 4) da_nil)))) (da_cons (de_tup (da_cons de_str (da_cons (de_name 5) da_nil))) da_nil)))))))) (dss_one (ds_ret de_bl)) dss_nil)
    (dss_one (ds_ret (de_fn F__law_same hr (by decide) (by rfl) (by rfl) tk (da_cons (de_fn F__law_told hr (by decide) (by rfl) (by rfl) tk (da_cons (de_name 0) (da_cons (de_name 5) (da_cons (de_fn F__law_way_back hr (by decide) (by rfl) (by rfl) tk (da_cons (de_name 1) (da_cons (de_name 2) da_nil))) da_nil)))) (da_cons (de_tup (da_cons de_str (da_cons (de_name 1) da_nil))) da_nil)))))))))))))
theorem sc_law : FnScope ["script", "pool", "n", "word", "step"] ["script"] (defScope s_law) := ⟨rfl, rfl, rfl, by decide +kernel, rfl, by decide +kernel, by decide +kernel⟩
theorem ok_law {f : Addr} {fd : FuncData} (D : FunD K "law" "law" (defArgs s_law) (defBody s_law) (defScope s_law) [] [] f fd) (G : Glb P K mg) (F__law_is_right : FnAt P w K mg base 7 "_law_is_right" ["n", "word", "step"] 3 f__law_is_right) (F__law_odd : FnAt P w K mg base 2 "_law_odd" ["pool", "n", "word"] 3 f__law_odd) (F__law_pick : FnAt P w K mg base 1 "_law_pick" ["pool", "many"] 2 f__law_pick) (F__law_rich : FnAt P w K mg base 2 "_law_rich" ["pool", "n", "many"] 3 f__law_rich) (F__law_steps : FnAt P w K mg base 1 "_law_steps" ["n", "word"] 2 f__law_steps) (F__law_stream : FnAt P w K mg base 2 "_law_stream" ["script"] 1 f__law_stream) : FnOk P w K mg base (L2N.CX P w) 8 f fd ["script"] (spF mg 1 f_law) := by
  refine fn_mirror (fixed := [0]) D sc_law (by decide) (by decide) fun cdv A outer s H n E hr => ?_
  have hu := hr.units
  have hu5 := units65 hr
  have hp := passes_of (X := cxOf (L2N.CX P w) P w K mg base ["script", "pool", "n", "word", "step"] "law" (defScope s_law) f cdv A outer s H E) rfl
  have tk := L2N.takes_of (X := cxOf (L2N.CX P w) P w K mg base ["script", "pool", "n", "word", "step"] "law" (defScope s_law) f cdv A outer s H E) (E := E) rfl rfl rfl rfl
  exact (dss_cons (dx_own (asg_of (i := 1) (de_fn F__law_stream hr (by decide) (by rfl) (by rfl) tk (da_cons (de_name 0) da_nil)) sc_law.nd (by rfl) (Or.inl (by rfl))))
    (dss_cons (dx_set (asg_of (i := 2) (de_ix (de_lst (da_cons de_int (da_cons de_int (da_cons de_int (da_cons de_int (da_cons de_int (da_cons de_int (da_cons de_int (da_cons de_int da_nil))))))))) (de_fn F__law_pick hr (by decide) (by rfl) (by rfl) tk (da_cons (de_name 1) (da_cons de_int da_nil)))) sc_law.nd (by rfl) (Or.inl (by rfl))))
    (dss_cons (dx_set (asg_of (i := 3) (de_fn F__law_rich hr (by decide) (by rfl) (by rfl) tk (da_cons (de_name 1) (da_cons (de_name 2) (da_cons (de_fn F__law_pick hr (by decide) (by rfl) (by rfl) tk (da_cons (de_name 1) (da_cons de_int da_nil))) da_nil)))) sc_law.nd (by rfl) (Or.inl (by rfl))))
    (dss_cons (ds_for hp (by rfl) (di_seq (de_fn F__law_odd hr (by decide) (by rfl) (by rfl) tk (da_cons (de_name 1) (da_cons (de_name 2) (da_cons (de_name 3) da_nil))))) (dx_name sc_law.nd (by rfl) (Or.inl (by rfl))) (dss_one (ds_if (dt_not (dt_val (de_fn F__law_is_right hr (by decide) (by rfl) (by rfl) tk (da_cons (de_name 2) (da_cons (de_name 3) (da_cons (de_name 4) da_nil)))))) (dss_one (ds_ret de_bl)) dss_nil)))
    (dss_cons (ds_for hp (by rfl) (di_seq (de_fn F__law_steps hr (by decide) (by rfl) (by rfl) tk (da_cons (de_name 2) (da_cons (de_name 3) da_nil)))) (dx_name sc_law.nd (by rfl) (Or.inl (by rfl))) (dss_one (ds_if (dt_not (dt_val (de_fn F__law_is_right hr (by decide) (by rfl) (by rfl) tk (da_cons (de_name 2) (da_cons (de_name 3) (da_cons (de_name 4) da_nil)))))) (dss_one (ds_ret de_bl)) dss_nil)))
    (dss_one (ds_ret de_bl)))))))
end
def fn : List He.DefD := [mkD "_law_pool" s__law_pool, mkD "_law_stream" s__law_stream, mkD "_law_pick" s__law_pick, mkD "_law_rich" s__law_rich, mkD "_law_odd" s__law_odd, mkD "_law_steps" s__law_steps, mkD "_law_within" s__law_within, mkD "_law_behind" s__law_behind, mkD "is_number" s_is_number, mkD "check_strands" s_check_strands, mkD "check_letters" s_check_letters, mkD "take_away" s_take_away, mkD "exchange_far" s_exchange_far, mkD "turn_near" s_turn_near, mkD "is_letter" s_is_letter, mkD "put_in" s_put_in, mkD "try_move" s_try_move, mkD "move" s_move, mkD "_law_classes" s__law_classes, mkD "_law_kept" s__law_kept, mkD "_law_told" s__law_told, mkD "_law_same" s__law_same, mkD "_law_copy" s__law_copy, mkD "_law_way_back" s__law_way_back, mkD "_law_is_right" s__law_is_right, mkD "law" s_law]
def fa : List He.Fa := ([.glo "_law_pool", .glo "_law_stream", .glo "_law_pick", .glo "_law_rich", .glo "_law_odd", .glo "_law_steps", .glo "_law_within", .glo "_law_behind", .glo "is_number", .glo "check_strands", .glo "check_letters", .glo "take_away", .glo "exchange_far", .glo "turn_near", .glo "is_letter", .glo "put_in", .glo "try_move", .glo "move", .glo "_law_classes", .glo "_law_kept", .glo "_law_told", .glo "_law_same", .glo "_law_copy", .glo "_law_way_back", .glo "_law_is_right", .glo "law", .free "abs", .free "all", .free "bool", .free "enumerate"] : List He.Fa) ++ ([.free "int", .free "isinstance", .free "len", .free "list", .free "max", .free "range", .free "str", .free "tuple", .int "MOST_MOVED" (4000), .int "MOST_STRANDS" (8), .glo "BadDeed", .glo "BadEntry", .glo "BadForm", .glo "BadHandle", .glo "BadLetter", .glo "BadList", .glo "BadMove", .glo "BadNumber", .glo "BadNumbers", .glo "BadPaper", .glo "BadPlaces", .glo "BadRange", .glo "BadStrands", .glo "BadText", .glo "BadTurning", .glo "BadWord", .glo "BraidError", .glo "InUse", .glo "NoCurve", .glo "NotPositive"] : List He.Fa) ++ ([.glo "NothingToRedo", .glo "NothingToUndo", .glo "TooLong", .glo "TooMany", .glo "UnknownName"] : List He.Fa)
def fx : List Fx := ([.cls "BadStrands", .exc "BadStrands", .isx "BadStrands" "BadDeed" false, .isx "BadStrands" "BadEntry" false, .isx "BadStrands" "BadForm" false, .isx "BadStrands" "BadHandle" false, .isx "BadStrands" "BadLetter" false, .isx "BadStrands" "BadList" false, .isx "BadStrands" "BadMove" false, .isx "BadStrands" "BadNumber" false, .isx "BadStrands" "BadNumbers" false, .isx "BadStrands" "BadPaper" false, .isx "BadStrands" "BadPlaces" false, .isx "BadStrands" "BadRange" false, .isx "BadStrands" "BadStrands" true, .isx "BadStrands" "BadText" false, .isx "BadStrands" "BadTurning" false, .isx "BadStrands" "BadWord" false, .isx "BadStrands" "InUse" false, .isx "BadStrands" "NoCurve" false, .isx "BadStrands" "NotPositive" false, .isx "BadStrands" "NothingToRedo" false, .isx "BadStrands" "NothingToUndo" false, .isx "BadStrands" "TooLong" false, .isx "BadStrands" "TooMany" false, .isx "BadStrands" "UnknownName" false, .exm "BadStrands" "BraidError", .cls "BadWord", .exc "BadWord", .isx "BadWord" "BadDeed" false] : List Fx) ++ ([.isx "BadWord" "BadEntry" false, .isx "BadWord" "BadForm" false, .isx "BadWord" "BadHandle" false, .isx "BadWord" "BadLetter" false, .isx "BadWord" "BadList" false, .isx "BadWord" "BadMove" false, .isx "BadWord" "BadNumber" false, .isx "BadWord" "BadNumbers" false, .isx "BadWord" "BadPaper" false, .isx "BadWord" "BadPlaces" false, .isx "BadWord" "BadRange" false, .isx "BadWord" "BadStrands" false, .isx "BadWord" "BadText" false, .isx "BadWord" "BadTurning" false, .isx "BadWord" "BadWord" true, .isx "BadWord" "InUse" false, .isx "BadWord" "NoCurve" false, .isx "BadWord" "NotPositive" false, .isx "BadWord" "NothingToRedo" false, .isx "BadWord" "NothingToUndo" false, .isx "BadWord" "TooLong" false, .isx "BadWord" "TooMany" false, .isx "BadWord" "UnknownName" false, .exm "BadWord" "BraidError", .cls "BadMove", .exc "BadMove", .isx "BadMove" "BadDeed" false, .isx "BadMove" "BadEntry" false, .isx "BadMove" "BadForm" false, .isx "BadMove" "BadHandle" false] : List Fx) ++ ([.isx "BadMove" "BadLetter" false, .isx "BadMove" "BadList" false, .isx "BadMove" "BadMove" true, .isx "BadMove" "BadNumber" false, .isx "BadMove" "BadNumbers" false, .isx "BadMove" "BadPaper" false, .isx "BadMove" "BadPlaces" false, .isx "BadMove" "BadRange" false, .isx "BadMove" "BadStrands" false, .isx "BadMove" "BadText" false, .isx "BadMove" "BadTurning" false, .isx "BadMove" "BadWord" false, .isx "BadMove" "InUse" false, .isx "BadMove" "NoCurve" false, .isx "BadMove" "NotPositive" false, .isx "BadMove" "NothingToRedo" false, .isx "BadMove" "NothingToUndo" false, .isx "BadMove" "TooLong" false, .isx "BadMove" "TooMany" false, .isx "BadMove" "UnknownName" false, .exm "BadMove" "BraidError", .cls "BadLetter", .ini "BadLetter" "place" PySem.Challenge.pw_braidyard_k05_moves_one_by_one.main.file "BadLetter.__init__", .isx "BadLetter" "BadDeed" false, .isx "BadLetter" "BadEntry" false, .isx "BadLetter" "BadForm" false, .isx "BadLetter" "BadHandle" false, .isx "BadLetter" "BadLetter" true, .isx "BadLetter" "BadList" false, .isx "BadLetter" "BadMove" false] : List Fx) ++ ([.isx "BadLetter" "BadNumber" false, .isx "BadLetter" "BadNumbers" false, .isx "BadLetter" "BadPaper" false, .isx "BadLetter" "BadPlaces" false, .isx "BadLetter" "BadRange" false, .isx "BadLetter" "BadStrands" false, .isx "BadLetter" "BadText" false, .isx "BadLetter" "BadTurning" false, .isx "BadLetter" "BadWord" false, .isx "BadLetter" "InUse" false, .isx "BadLetter" "NoCurve" false, .isx "BadLetter" "NotPositive" false, .isx "BadLetter" "NothingToRedo" false, .isx "BadLetter" "NothingToUndo" false, .isx "BadLetter" "TooLong" false, .isx "BadLetter" "TooMany" false, .isx "BadLetter" "UnknownName" false, .exm "BadLetter" "BraidError", .nof "BadLetter" "place", .cls "TooLong", .ini "TooLong" "number" PySem.Challenge.pw_braidyard_k05_moves_one_by_one.main.file "TooLong.__init__", .isx "TooLong" "BadDeed" false, .isx "TooLong" "BadEntry" false, .isx "TooLong" "BadForm" false, .isx "TooLong" "BadHandle" false, .isx "TooLong" "BadLetter" false, .isx "TooLong" "BadList" false, .isx "TooLong" "BadMove" false, .isx "TooLong" "BadNumber" false, .isx "TooLong" "BadNumbers" false] : List Fx) ++ ([.isx "TooLong" "BadPaper" false, .isx "TooLong" "BadPlaces" false, .isx "TooLong" "BadRange" false, .isx "TooLong" "BadStrands" false, .isx "TooLong" "BadText" false, .isx "TooLong" "BadTurning" false, .isx "TooLong" "BadWord" false, .isx "TooLong" "InUse" false, .isx "TooLong" "NoCurve" false, .isx "TooLong" "NotPositive" false, .isx "TooLong" "NothingToRedo" false, .isx "TooLong" "NothingToUndo" false, .isx "TooLong" "TooLong" true, .isx "TooLong" "TooMany" false, .isx "TooLong" "UnknownName" false, .exm "TooLong" "BraidError", .nof "TooLong" "number"] : List Fx)
abbrev si_BadLetter : Stmt := inCls (top 20) 0
abbrev si_TooLong : Stmt := inCls (top 21) 0
def il : List InD := [⟨"BadLetter", "BadLetter.__init__", defArgs si_BadLetter, defBody si_BadLetter, defScope si_BadLetter⟩, ⟨"TooLong", "TooLong.__init__", defArgs si_TooLong, defBody si_TooLong, defScope si_TooLong⟩]
theorem facts {P : Program} {w : World} {K : PySem.W.Frag} {h : Heap} {mg : Str → Option Value} (hfile : ((P.main.file : Str) == PySem.Challenge.pw_braidyard_k05_moves_one_by_one.main.file) = true) (htop : (P.main.scope.names.lookup ("super" : Str)).isSome = false) (KX : K.In h) (NS : h.Ns mainGlobals mg) (c : SaysF fa fn fx il K) : ∃ f fd, mg "law" = some (.ref f) ∧ (∀ (s : Shared) (v : Value), BindsTo s fd ⟨[v], []⟩ [("script", v)]) ∧
    ∀ base : Heap, K.In base → base.Ns mainGlobals mg → FnOk P w K mg base (L2N.CX P w) 8 f fd ["script"] (spF mg 1 f_law) := by
  have G : Glb P K mg := ⟨rz_at KX NS c 52 1 rfl rfl, rz_at KX NS c 55 28 rfl rfl, rz_at KX NS c 46 55 rfl rfl, sup_at KX NS c (p := "place") 44 82 0 rfl rfl rfl rfl hfile htop rfl (fun _ _ _ _ => rfl) rfl rfl rfl rfl rfl rfl rfl (by decide +kernel) ⟨_, rfl, rfl⟩ (by decide) (by decide) (fun _ _ _ _ _ _ _ _ _ => rfl), sup_at KX NS c (p := "number") 62 110 1 rfl rfl rfl rfl hfile htop rfl (fun _ _ _ _ => rfl) rfl rfl rfl rfl rfl rfl rfl (by decide +kernel) ⟨_, rfl, rfl⟩ (by decide) (by decide) (fun _ _ _ _ _ _ _ _ _ => rfl), tak_at KX NS c 56 rfl ((forall_cons ⟨52, 26, rfl, rfl⟩ (forall_cons ⟨55, 53, rfl, rfl⟩ (forall_cons ⟨46, 80, rfl, rfl⟩ (forall_cons ⟨44, 107, rfl, rfl⟩ (forall_cons ⟨62, 135, rfl, rfl⟩ forall_nil)))))), isx_at KX NS c 40 rfl ((forall_cons ⟨52, 0, 2, rfl, rfl, rfl⟩ (forall_cons ⟨55, 27, 29, rfl, rfl, rfl⟩ (forall_cons ⟨46, 54, 56, rfl, rfl, rfl⟩ (forall_cons ⟨44, 81, 83, rfl, rfl, rfl⟩ (forall_cons ⟨62, 109, 111, rfl, rfl, rfl⟩ forall_nil)))))), isx_at KX NS c 41 rfl ((forall_cons ⟨52, 0, 3, rfl, rfl, rfl⟩ (forall_cons ⟨55, 27, 30, rfl, rfl, rfl⟩ (forall_cons ⟨46, 54, 57, rfl, rfl, rfl⟩ (forall_cons ⟨44, 81, 84, rfl, rfl, rfl⟩ (forall_cons ⟨62, 109, 112, rfl, rfl, rfl⟩ forall_nil)))))), isx_at KX NS c 42 rfl ((forall_cons ⟨52, 0, 4, rfl, rfl, rfl⟩ (forall_cons ⟨55, 27, 31, rfl, rfl, rfl⟩ (forall_cons ⟨46, 54, 58, rfl, rfl, rfl⟩ (forall_cons ⟨44, 81, 85, rfl, rfl, rfl⟩ (forall_cons ⟨62, 109, 113, rfl, rfl, rfl⟩ forall_nil)))))), isx_at KX NS c 43 rfl ((forall_cons ⟨52, 0, 5, rfl, rfl, rfl⟩ (forall_cons ⟨55, 27, 32, rfl, rfl, rfl⟩ (forall_cons ⟨46, 54, 59, rfl, rfl, rfl⟩ (forall_cons ⟨44, 81, 86, rfl, rfl, rfl⟩ (forall_cons ⟨62, 109, 114, rfl, rfl, rfl⟩ forall_nil)))))), isx_at KX NS c 44 rfl ((forall_cons ⟨52, 0, 6, rfl, rfl, rfl⟩ (forall_cons ⟨55, 27, 33, rfl, rfl, rfl⟩ (forall_cons ⟨46, 54, 60, rfl, rfl, rfl⟩ (forall_cons ⟨44, 81, 87, rfl, rfl, rfl⟩ (forall_cons ⟨62, 109, 115, rfl, rfl, rfl⟩ forall_nil)))))), isx_at KX NS c 45 rfl ((forall_cons ⟨52, 0, 7, rfl, rfl, rfl⟩ (forall_cons ⟨55, 27, 34, rfl, rfl, rfl⟩ (forall_cons ⟨46, 54, 61, rfl, rfl, rfl⟩ (forall_cons ⟨44, 81, 88, rfl, rfl, rfl⟩ (forall_cons ⟨62, 109, 116, rfl, rfl, rfl⟩ forall_nil)))))), isx_at KX NS c 46 rfl ((forall_cons ⟨52, 0, 8, rfl, rfl, rfl⟩ (forall_cons ⟨55, 27, 35, rfl, rfl, rfl⟩ (forall_cons ⟨46, 54, 62, rfl, rfl, rfl⟩ (forall_cons ⟨44, 81, 89, rfl, rfl, rfl⟩ (forall_cons ⟨62, 109, 117, rfl, rfl, rfl⟩ forall_nil)))))), isx_at KX NS c 47 rfl ((forall_cons ⟨52, 0, 9, rfl, rfl, rfl⟩ (forall_cons ⟨55, 27, 36, rfl, rfl, rfl⟩ (forall_cons ⟨46, 54, 63, rfl, rfl, rfl⟩ (forall_cons ⟨44, 81, 90, rfl, rfl, rfl⟩ (forall_cons ⟨62, 109, 118, rfl, rfl, rfl⟩ forall_nil)))))), isx_at KX NS c 48 rfl ((forall_cons ⟨52, 0, 10, rfl, rfl, rfl⟩ (forall_cons ⟨55, 27, 37, rfl, rfl, rfl⟩ (forall_cons ⟨46, 54, 64, rfl, rfl, rfl⟩ (forall_cons ⟨44, 81, 91, rfl, rfl, rfl⟩ (forall_cons ⟨62, 109, 119, rfl, rfl, rfl⟩ forall_nil)))))), isx_at KX NS c 49 rfl ((forall_cons ⟨52, 0, 11, rfl, rfl, rfl⟩ (forall_cons ⟨55, 27, 38, rfl, rfl, rfl⟩ (forall_cons ⟨46, 54, 65, rfl, rfl, rfl⟩ (forall_cons ⟨44, 81, 92, rfl, rfl, rfl⟩ (forall_cons ⟨62, 109, 120, rfl, rfl, rfl⟩ forall_nil)))))), isx_at KX NS c 50 rfl ((forall_cons ⟨52, 0, 12, rfl, rfl, rfl⟩ (forall_cons ⟨55, 27, 39, rfl, rfl, rfl⟩ (forall_cons ⟨46, 54, 66, rfl, rfl, rfl⟩ (forall_cons ⟨44, 81, 93, rfl, rfl, rfl⟩ (forall_cons ⟨62, 109, 121, rfl, rfl, rfl⟩ forall_nil)))))), isx_at KX NS c 51 rfl ((forall_cons ⟨52, 0, 13, rfl, rfl, rfl⟩ (forall_cons ⟨55, 27, 40, rfl, rfl, rfl⟩ (forall_cons ⟨46, 54, 67, rfl, rfl, rfl⟩ (forall_cons ⟨44, 81, 94, rfl, rfl, rfl⟩ (forall_cons ⟨62, 109, 122, rfl, rfl, rfl⟩ forall_nil)))))), isx_at KX NS c 52 rfl ((forall_cons ⟨52, 0, 14, rfl, rfl, rfl⟩ (forall_cons ⟨55, 27, 41, rfl, rfl, rfl⟩ (forall_cons ⟨46, 54, 68, rfl, rfl, rfl⟩ (forall_cons ⟨44, 81, 95, rfl, rfl, rfl⟩ (forall_cons ⟨62, 109, 123, rfl, rfl, rfl⟩ forall_nil)))))), isx_at KX NS c 53 rfl ((forall_cons ⟨52, 0, 15, rfl, rfl, rfl⟩ (forall_cons ⟨55, 27, 42, rfl, rfl, rfl⟩ (forall_cons ⟨46, 54, 69, rfl, rfl, rfl⟩ (forall_cons ⟨44, 81, 96, rfl, rfl, rfl⟩ (forall_cons ⟨62, 109, 124, rfl, rfl, rfl⟩ forall_nil)))))), isx_at KX NS c 54 rfl ((forall_cons ⟨52, 0, 16, rfl, rfl, rfl⟩ (forall_cons ⟨55, 27, 43, rfl, rfl, rfl⟩ (forall_cons ⟨46, 54, 70, rfl, rfl, rfl⟩ (forall_cons ⟨44, 81, 97, rfl, rfl, rfl⟩ (forall_cons ⟨62, 109, 125, rfl, rfl, rfl⟩ forall_nil)))))), isx_at KX NS c 55 rfl ((forall_cons ⟨52, 0, 17, rfl, rfl, rfl⟩ (forall_cons ⟨55, 27, 44, rfl, rfl, rfl⟩ (forall_cons ⟨46, 54, 71, rfl, rfl, rfl⟩ (forall_cons ⟨44, 81, 98, rfl, rfl, rfl⟩ (forall_cons ⟨62, 109, 126, rfl, rfl, rfl⟩ forall_nil)))))), isx_at KX NS c 57 rfl ((forall_cons ⟨52, 0, 18, rfl, rfl, rfl⟩ (forall_cons ⟨55, 27, 45, rfl, rfl, rfl⟩ (forall_cons ⟨46, 54, 72, rfl, rfl, rfl⟩ (forall_cons ⟨44, 81, 99, rfl, rfl, rfl⟩ (forall_cons ⟨62, 109, 127, rfl, rfl, rfl⟩ forall_nil)))))), isx_at KX NS c 58 rfl ((forall_cons ⟨52, 0, 19, rfl, rfl, rfl⟩ (forall_cons ⟨55, 27, 46, rfl, rfl, rfl⟩ (forall_cons ⟨46, 54, 73, rfl, rfl, rfl⟩ (forall_cons ⟨44, 81, 100, rfl, rfl, rfl⟩ (forall_cons ⟨62, 109, 128, rfl, rfl, rfl⟩ forall_nil)))))), isx_at KX NS c 59 rfl ((forall_cons ⟨52, 0, 20, rfl, rfl, rfl⟩ (forall_cons ⟨55, 27, 47, rfl, rfl, rfl⟩ (forall_cons ⟨46, 54, 74, rfl, rfl, rfl⟩ (forall_cons ⟨44, 81, 101, rfl, rfl, rfl⟩ (forall_cons ⟨62, 109, 129, rfl, rfl, rfl⟩ forall_nil)))))), isx_at KX NS c 60 rfl ((forall_cons ⟨52, 0, 21, rfl, rfl, rfl⟩ (forall_cons ⟨55, 27, 48, rfl, rfl, rfl⟩ (forall_cons ⟨46, 54, 75, rfl, rfl, rfl⟩ (forall_cons ⟨44, 81, 102, rfl, rfl, rfl⟩ (forall_cons ⟨62, 109, 130, rfl, rfl, rfl⟩ forall_nil)))))), isx_at KX NS c 61 rfl ((forall_cons ⟨52, 0, 22, rfl, rfl, rfl⟩ (forall_cons ⟨55, 27, 49, rfl, rfl, rfl⟩ (forall_cons ⟨46, 54, 76, rfl, rfl, rfl⟩ (forall_cons ⟨44, 81, 103, rfl, rfl, rfl⟩ (forall_cons ⟨62, 109, 131, rfl, rfl, rfl⟩ forall_nil)))))), isx_at KX NS c 62 rfl ((forall_cons ⟨52, 0, 23, rfl, rfl, rfl⟩ (forall_cons ⟨55, 27, 50, rfl, rfl, rfl⟩ (forall_cons ⟨46, 54, 77, rfl, rfl, rfl⟩ (forall_cons ⟨44, 81, 104, rfl, rfl, rfl⟩ (forall_cons ⟨62, 109, 132, rfl, rfl, rfl⟩ forall_nil)))))), isx_at KX NS c 63 rfl ((forall_cons ⟨52, 0, 24, rfl, rfl, rfl⟩ (forall_cons ⟨55, 27, 51, rfl, rfl, rfl⟩ (forall_cons ⟨46, 54, 78, rfl, rfl, rfl⟩ (forall_cons ⟨44, 81, 105, rfl, rfl, rfl⟩ (forall_cons ⟨62, 109, 133, rfl, rfl, rfl⟩ forall_nil)))))), isx_at KX NS c 64 rfl ((forall_cons ⟨52, 0, 25, rfl, rfl, rfl⟩ (forall_cons ⟨55, 27, 52, rfl, rfl, rfl⟩ (forall_cons ⟨46, 54, 79, rfl, rfl, rfl⟩ (forall_cons ⟨44, 81, 106, rfl, rfl, rfl⟩ (forall_cons ⟨62, 109, 134, rfl, rfl, rfl⟩ forall_nil)))))), fdx_at KX NS c ((forall_cons ⟨62, 109, 136, rfl, rfl, rfl⟩ forall_nil)), fdx_at KX NS c ((forall_cons ⟨44, 81, 108, rfl, rfl, rfl⟩ forall_nil)), He.free_ok KX NS (c.d.fact 26 rfl), He.free_ok KX NS (c.d.fact 27 rfl), He.free_ok KX NS (c.d.fact 28 rfl), He.free_ok KX NS (c.d.fact 29 rfl), He.free_ok KX NS (c.d.fact 30 rfl), He.free_ok KX NS (c.d.fact 31 rfl), He.free_ok KX NS (c.d.fact 32 rfl), He.free_ok KX NS (c.d.fact 33 rfl), He.free_ok KX NS (c.d.fact 34 rfl), He.free_ok KX NS (c.d.fact 35 rfl), He.free_ok KX NS (c.d.fact 36 rfl), He.free_ok KX NS (c.d.fact 37 rfl), He.int_ok KX NS (c.d.fact 38 rfl), He.int_ok KX NS (c.d.fact 39 rfl)⟩
  have D__law_pool : DefAt K mg "_law_pool" ["script"] s__law_pool := def_at KX NS c.d 0 rfl 0 rfl (fun _ _ _ _ _ _ us hl => match us, hl with | [_], _ => rfl)
  have D__law_stream : DefAt K mg "_law_stream" ["script"] s__law_stream := def_at KX NS c.d 1 rfl 1 rfl (fun _ _ _ _ _ _ us hl => match us, hl with | [_], _ => rfl)
  have D__law_pick : DefAt K mg "_law_pick" ["pool", "many"] s__law_pick := def_at KX NS c.d 2 rfl 2 rfl (fun _ _ _ _ _ _ us hl => match us, hl with | [_, _], _ => rfl)
  have D__law_rich : DefAt K mg "_law_rich" ["pool", "n", "many"] s__law_rich := def_at KX NS c.d 3 rfl 3 rfl (fun _ _ _ _ _ _ us hl => match us, hl with | [_, _, _], _ => rfl)
  have D__law_odd : DefAt K mg "_law_odd" ["pool", "n", "word"] s__law_odd := def_at KX NS c.d 4 rfl 4 rfl (fun _ _ _ _ _ _ us hl => match us, hl with | [_, _, _], _ => rfl)
  have D__law_steps : DefAt K mg "_law_steps" ["n", "word"] s__law_steps := def_at KX NS c.d 5 rfl 5 rfl (fun _ _ _ _ _ _ us hl => match us, hl with | [_, _], _ => rfl)
  have D__law_within : DefAt K mg "_law_within" ["value", "low", "high"] s__law_within := def_at KX NS c.d 6 rfl 6 rfl (fun _ _ _ _ _ _ us hl => match us, hl with | [_, _, _], _ => rfl)
  have D__law_behind : DefAt K mg "_law_behind" ["n", "word", "step"] s__law_behind := def_at KX NS c.d 7 rfl 7 rfl (fun _ _ _ _ _ _ us hl => match us, hl with | [_, _, _], _ => rfl)
  have D_is_number : DefAt K mg "is_number" ["value"] s_is_number := def_at KX NS c.d 8 rfl 8 rfl (fun _ _ _ _ _ _ us hl => match us, hl with | [_], _ => rfl)
  have D_check_strands : DefAt K mg "check_strands" ["n"] s_check_strands := def_at KX NS c.d 9 rfl 9 rfl (fun _ _ _ _ _ _ us hl => match us, hl with | [_], _ => rfl)
  have D_check_letters : DefAt K mg "check_letters" ["n", "word", "most"] s_check_letters := def_at KX NS c.d 10 rfl 10 rfl (fun _ _ _ _ _ _ us hl => match us, hl with | [_, _, _], _ => rfl)
  have D_take_away : DefAt K mg "take_away" ["word", "place"] s_take_away := def_at KX NS c.d 11 rfl 11 rfl (fun _ _ _ _ _ _ us hl => match us, hl with | [_, _], _ => rfl)
  have D_exchange_far : DefAt K mg "exchange_far" ["word", "place"] s_exchange_far := def_at KX NS c.d 12 rfl 12 rfl (fun _ _ _ _ _ _ us hl => match us, hl with | [_, _], _ => rfl)
  have D_turn_near : DefAt K mg "turn_near" ["word", "place"] s_turn_near := def_at KX NS c.d 13 rfl 13 rfl (fun _ _ _ _ _ _ us hl => match us, hl with | [_, _], _ => rfl)
  have D_is_letter : DefAt K mg "is_letter" ["n", "value"] s_is_letter := def_at KX NS c.d 14 rfl 14 rfl (fun _ _ _ _ _ _ us hl => match us, hl with | [_, _], _ => rfl)
  have D_put_in : DefAt K mg "put_in" ["n", "word", "place", "letter"] s_put_in := def_at KX NS c.d 15 rfl 15 rfl (fun _ _ _ _ _ _ us hl => match us, hl with | [_, _, _, _], _ => rfl)
  have D_try_move : DefAt K mg "try_move" ["n", "word", "step"] s_try_move := def_at KX NS c.d 16 rfl 16 rfl (fun _ _ _ _ _ _ us hl => match us, hl with | [_, _, _], _ => rfl)
  have D_move : DefAt K mg "move" ["n", "word", "step"] s_move := def_at KX NS c.d 17 rfl 17 rfl (fun _ _ _ _ _ _ us hl => match us, hl with | [_, _, _], _ => rfl)
  have D__law_classes : DefAt K mg "_law_classes" ["e"] s__law_classes := def_at KX NS c.d 18 rfl 18 rfl (fun _ _ _ _ _ _ us hl => match us, hl with | [_], _ => rfl)
  have D__law_kept : DefAt K mg "_law_kept" ["e"] s__law_kept := def_at KX NS c.d 19 rfl 19 rfl (fun _ _ _ _ _ _ us hl => match us, hl with | [_], _ => rfl)
  have D__law_told : DefAt K mg "_law_told" ["n", "word", "step"] s__law_told := def_at KX NS c.d 20 rfl 20 rfl (fun _ _ _ _ _ _ us hl => match us, hl with | [_, _, _], _ => rfl)
  have D__law_same : DefAt K mg "_law_same" ["value", "due"] s__law_same := def_at KX NS c.d 21 rfl 21 rfl (fun _ _ _ _ _ _ us hl => match us, hl with | [_, _], _ => rfl)
  have D__law_copy : DefAt K mg "_law_copy" ["value"] s__law_copy := def_at KX NS c.d 22 rfl 22 rfl (fun _ _ _ _ _ _ us hl => match us, hl with | [_], _ => rfl)
  have D__law_way_back : DefAt K mg "_law_way_back" ["word", "step"] s__law_way_back := def_at KX NS c.d 23 rfl 23 rfl (fun _ _ _ _ _ _ us hl => match us, hl with | [_, _], _ => rfl)
  have D__law_is_right : DefAt K mg "_law_is_right" ["n", "word", "step"] s__law_is_right := def_at KX NS c.d 24 rfl 24 rfl (fun _ _ _ _ _ _ us hl => match us, hl with | [_, _, _], _ => rfl)
  obtain ⟨f, fd, F, hf, hbind⟩ := law_at (ps := ["script"]) (st := s_law) (x := "law") KX NS c.d 25 rfl 25 rfl (fun _ _ _ _ _ _ us hl => match us, hl with | [_], _ => rfl)
  refine ⟨f, fd, hf, fun s v => hbind s [v] rfl, fun base _ _ => ?_⟩
  have F__law_pool : FnAt P w K mg base 1 "_law_pool" ["script"] 1 f__law_pool := ok__law_pool D__law_pool G 
  have F__law_stream : FnAt P w K mg base 2 "_law_stream" ["script"] 1 f__law_stream := ok__law_stream D__law_stream G F__law_pool
  have F__law_pick : FnAt P w K mg base 1 "_law_pick" ["pool", "many"] 2 f__law_pick := ok__law_pick D__law_pick G 
  have F__law_rich : FnAt P w K mg base 2 "_law_rich" ["pool", "n", "many"] 3 f__law_rich := ok__law_rich D__law_rich G F__law_pick
  have F__law_odd : FnAt P w K mg base 2 "_law_odd" ["pool", "n", "word"] 3 f__law_odd := ok__law_odd D__law_odd G F__law_pick
  have F__law_steps : FnAt P w K mg base 1 "_law_steps" ["n", "word"] 2 f__law_steps := ok__law_steps D__law_steps G 
  have F__law_within : FnAt P w K mg base 1 "_law_within" ["value", "low", "high"] 3 f__law_within := ok__law_within D__law_within G 
  have F__law_behind : FnAt P w K mg base 2 "_law_behind" ["n", "word", "step"] 3 f__law_behind := ok__law_behind D__law_behind G F__law_within
  have F_is_number : FnAt P w K mg base 1 "is_number" ["value"] 1 f_is_number := ok_is_number D_is_number G 
  have F_check_strands : FnAt P w K mg base 2 "check_strands" ["n"] 1 f_check_strands := ok_check_strands D_check_strands G F_is_number
  have F_check_letters : FnAt P w K mg base 3 "check_letters" ["n", "word", "most"] 3 f_check_letters := ok_check_letters D_check_letters G F_check_strands F_is_number
  have F_take_away : FnAt P w K mg base 1 "take_away" ["word", "place"] 2 f_take_away := ok_take_away D_take_away G 
  have F_exchange_far : FnAt P w K mg base 1 "exchange_far" ["word", "place"] 2 f_exchange_far := ok_exchange_far D_exchange_far G 
  have F_turn_near : FnAt P w K mg base 1 "turn_near" ["word", "place"] 2 f_turn_near := ok_turn_near D_turn_near G 
  have F_is_letter : FnAt P w K mg base 2 "is_letter" ["n", "value"] 2 f_is_letter := ok_is_letter D_is_letter G F_is_number
  have F_put_in : FnAt P w K mg base 3 "put_in" ["n", "word", "place", "letter"] 4 f_put_in := ok_put_in D_put_in G F_is_letter
  have F_try_move : FnAt P w K mg base 4 "try_move" ["n", "word", "step"] 3 f_try_move := ok_try_move D_try_move G F_exchange_far F_is_number F_put_in F_take_away F_turn_near
  have F_move : FnAt P w K mg base 5 "move" ["n", "word", "step"] 3 f_move := ok_move D_move G F_check_letters F_try_move
  have F__law_classes : FnAt P w K mg base 1 "_law_classes" ["e"] 1 f__law_classes := ok__law_classes D__law_classes G 
  have FT__law_classes : FnAtT P w K mg base 1 "_law_classes" ["e"] 1 f__law_classes := okT__law_classes D__law_classes G 
  have F__law_kept : FnAt P w K mg base 1 "_law_kept" ["e"] 1 f__law_kept := ok__law_kept D__law_kept G 
  have FT__law_kept : FnAtT P w K mg base 1 "_law_kept" ["e"] 1 f__law_kept := okT__law_kept D__law_kept G 
  have F__law_told : FnAt P w K mg base 6 "_law_told" ["n", "word", "step"] 3 f__law_told := ok__law_told D__law_told G F_move FT__law_classes FT__law_kept
  have F__law_same : FnAt P w K mg base 6 "_law_same" ["value", "due"] 2 f__law_same := ok__law_same D__law_same G 
  have F__law_copy : FnAt P w K mg base 6 "_law_copy" ["value"] 1 f__law_copy := ok__law_copy D__law_copy G 
  have F__law_way_back : FnAt P w K mg base 1 "_law_way_back" ["word", "step"] 2 f__law_way_back := ok__law_way_back D__law_way_back G 
  have F__law_is_right : FnAt P w K mg base 7 "_law_is_right" ["n", "word", "step"] 3 f__law_is_right := ok__law_is_right D__law_is_right G F__law_behind F__law_copy F__law_same F__law_told F__law_way_back
  exact ok_law F G F__law_is_right F__law_odd F__law_pick F__law_rich F__law_steps F__law_stream
abbrev RR : PySem.W.OpenRow := PySem.W.OpenLaw.row PySem.Challenge.rw_braidyard_k05_moves_one_by_one
abbrev hk : PySem.W.Hook := hookF 5 fa fn fx il
def ob (s : PySem.W.SharedT) : AlF := obsFG 5 fa fn fx il (HandSHeadRun.getT s)
theorem ob_eq (s : PySem.W.SharedT) : ob s = hk.obs s.abs := obsFG_eq (HandSHeadRun.getT_eq s)
def loose : List PySem.Str := (["BraidError", "BadStrands", "BadWord", "BadTurning", "BadForm", "BadPlaces", "BadMove", "BadHandle", "BadList", "BadNumbers", "BadNumber", "BadRange", "BadDeed", "BadPaper", "InUse", "NotPositive", "NoCurve", "NothingToUndo", "NothingToRedo", "BadLetter", "TooLong", "TooMany", "UnknownName", "BadEntry", "BadText", "MOST_STRANDS", "is_number", "check_strands", "check_letters", "MOST_MOVED"] : List PySem.Str) ++ (["is_letter", "put_in", "take_away", "exchange_far", "turn_near", "try_move", "move", "_law_pool", "_law_stream", "_law_pick", "_law_same", "_law_copy", "_law_classes", "_law_kept", "_law_within", "_law_behind", "_law_rich", "_law_told", "_law_steps", "_law_odd", "_law_way_back", "_law_is_right"] : List PySem.Str)
theorem run (w : World) : HandSHeadRun.RunEq RR (PySem.W.view RR.prog [56]) hk ob 20000 loose w := by
  intro os
  kernel_rfl
end Wlk
open PySem PySem.W PySem.Calls PyProof.Rows
set_option maxRecDepth 100000 in
set_option maxHeartbeats 0 in
theorem PySem.Challenge.cw_braidyard_k05_moves_one_by_one_holds : PySem.Challenge.rw_braidyard_k05_moves_one_by_one.Holds := by
  w_on; o_law
  refine HandSHeadRun.head_any (r := OpenLaw.row PySem.Challenge.rw_braidyard_k05_moves_one_by_one) (q := view (OpenLaw.row PySem.Challenge.rw_braidyard_k05_moves_one_by_one).prog [56]) (H := Wlk.hk) (ob := Wlk.ob) (M := 20000) (loose := Wlk.loose) (d := HandSHeadRun.topDef (OpenLaw.row PySem.Challenge.rw_braidyard_k05_moves_one_by_one).prog 56) (kwd := []) Wlk.ob_eq
    (by kernel_rfl) (fun s => by kernel_rfl) Wlk.run (by kernel_rfl) (by kernel_rfl) (by kernel_rfl) (by rfl) (by first | assumption | decide +kernel) (by decide +kernel) ⟨rfl, rfl, rfl, rfl, rfl, by decide +kernel⟩ ?hw ?hc
  case hw => w_witness2
  case hc => exact DL.law_endF (l := PySem.Challenge.rw_braidyard_k05_moves_one_by_one) (k := 8) rfl (by kernel_rfl) ⟨rfl, by decide, by decide⟩ (by kernel_rfl) (fun w K mg h KX NS c => Wlk.facts (by kernel_rfl) (by kernel_rfl) KX NS c) Law.law_true
