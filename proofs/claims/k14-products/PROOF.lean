import PyProof.Rows.All
import Wide.All
import OpenK.AllK
import Wide.FinOn
import HandS.ForMost
import HandS.ForExc
import HandS.Deep
import HandS.TupAny
import HandS.IsInst
import HandS.TupLe
import HandS.Style
import HandS.ExcOwn
import HandS.WordsExc
import HandS.Defaults
import HandS.Conv
import HandS.HeadEnd
import HandS.HeadHook2
import HandS.Head2
import HandS.Comp
import HandS.SortInts
import HandS.More
import PySem.Challenge.RW_braidyard_k14_whole_products_and_rests
set_option Elab.async false
set_option linter.all false
set_option maxRecDepth 100000
set_option maxHeartbeats 8000000
namespace DL
open PySem PySem.Spec PyProof.Rows L2

/-! ### data -/
inductive D where
  | non | bl (b : Bool) | int (i : Int) | str (x : Str)
  | lst (xs : List D) | tup (xs : List D)
  | scr (ns : List Int)
  deriving Inhabited
/-- an owned thing: frozen data, a list of data, a list of owned things, an instance -/
inductive O where
  | dat (d : D) | lst (xs : List D) | mls (ts : List O) | ins (c : Str) (fs : List (Str × O))
  deriving Inhabited
/-- a slot -/
inductive S where
  | un | dat (d : D) | own (t : O) | al (j : Nat) (p : List Str)
  deriving Inhabited
abbrev Ve := List S

mutual
inductive RD (Z : Hp) : V → D → Prop
  | non : RD Z .non .non
  | bl {b : Bool} : RD Z (.bl b) (.bl b)
  | int {i : Int} : RD Z (.int i) (.int i)
  | str {x : Str} : RD Z (.str x) (.str x)
  | lst {a : Addr} {vs : List V} {ds : List D} : Z a = some (.lst vs) → RDs Z vs ds → RD Z (.ref a) (.lst ds)
  | tup {a : Addr} {vs : List V} {ds : List D} : Z a = some (.tup vs) → RDs Z vs ds → RD Z (.ref a) (.tup ds)
  | scr {a : Addr} {o : Obj} {ns : List Int} : Z a = some (.frz o (.lst (ns.map V.int))) → RD Z (.ref a) (.scr ns)
inductive RDs (Z : Hp) : List V → List D → Prop
  | nil : RDs Z [] []
  | cons {v : V} {d : D} {vs : List V} {ds : List D} : RD Z v d → RDs Z vs ds → RDs Z (v :: vs) (d :: ds)
end
mutual
theorem RD.mono {Z Z' : Hp} (s : Same Z Z') : ∀ {v : V} {d : D}, RD Z v d → RD Z' v d
  | _, _, .non => .non
  | _, _, .bl => .bl
  | _, _, .int => .int
  | _, _, .str => .str
  | _, _, .lst h r => .lst (s _ _ h) (RDs.mono s r)
  | _, _, .tup h r => .tup (s _ _ h) (RDs.mono s r)
  | _, _, .scr h => .scr (s _ _ h)
theorem RDs.mono {Z Z' : Hp} (s : Same Z Z') : ∀ {vs : List V} {ds : List D}, RDs Z vs ds → RDs Z' vs ds
  | _, _, .nil => .nil
  | _, _, .cons h r => .cons (RD.mono s h) (RDs.mono s r)
end
theorem RDs.length {Z : Hp} : ∀ {vs : List V} {ds : List D}, RDs Z vs ds → vs.length = ds.length
  | _, _, .nil => rfl
  | _, _, .cons _ r => congrArg Nat.succ (RDs.length r)
theorem RDs.get {Z : Hp} : ∀ {vs : List V} {ds : List D} {i : Nat} {v : V}, RDs Z vs ds → vs[i]? = some v → ∃ d, ds[i]? = some d ∧ RD Z v d
  | _, _, _, _, .nil, e => by simp at e
  | _, _, 0, _, .cons h _, e => by simp at e; subst e; exact ⟨_, rfl, h⟩
  | _, _, i + 1, v, .cons _ r, e => by
    obtain ⟨d, h1, h2⟩ := RDs.get (i := i) (v := v) r (by simpa using e)
    exact ⟨d, by simpa using h1, h2⟩
theorem RDs.getd {Z : Hp} : ∀ {vs : List V} {ds : List D} {i : Nat} {d : D}, RDs Z vs ds → ds[i]? = some d → ∃ v, vs[i]? = some v ∧ RD Z v d
  | _, _, _, _, .nil, e => by simp at e
  | _, _, 0, _, .cons h _, e => by simp at e; subst e; exact ⟨_, rfl, h⟩
  | _, _, i + 1, v, .cons _ r, e => by
    obtain ⟨d, h1, h2⟩ := RDs.getd (i := i) (d := v) r (by simpa using e)
    exact ⟨d, by simpa using h1, h2⟩
theorem RDs.set {Z : Hp} {x : V} {d : D} (r : RD Z x d) : ∀ {xs : List V} {us : List D} (i : Nat), RDs Z xs us → RDs Z (xs.set i x) (us.set i d)
  | _, _, _, .nil => .nil
  | _, _, 0, .cons _ t => .cons r t
  | _, _, i + 1, .cons q t => .cons q (RDs.set r i t)
theorem RDs.append {Z : Hp} : ∀ {xs ys : List V} {us ws : List D}, RDs Z xs us → RDs Z ys ws → RDs Z (xs ++ ys) (us ++ ws)
  | _, _, _, _, .nil, s => s
  | _, _, _, _, .cons r t, s => .cons r (RDs.append t s)
theorem RDs.take {Z : Hp} : ∀ {xs : List V} {us : List D} (n : Nat), RDs Z xs us → RDs Z (xs.take n) (us.take n)
  | _, _, 0, _ => .nil
  | _, _, _ + 1, .nil => .nil
  | _, _, n + 1, .cons r t => .cons r (RDs.take n t)
theorem RDs.drop {Z : Hp} : ∀ {xs : List V} {us : List D} (n : Nat), RDs Z xs us → RDs Z (xs.drop n) (us.drop n)
  | _, _, 0, r => r
  | _, _, _ + 1, .nil => .nil
  | _, _, n + 1, .cons _ t => RDs.drop n t
theorem RDs.reverse {Z : Hp} {xs : List V} {us : List D} (h : RDs Z xs us) : RDs Z xs.reverse us.reverse := by
  induction h using RDs.rec (motive_1 := fun _ _ _ => True) with
  | nil => exact .nil
  | cons h r _ ih => rw [List.reverse_cons, List.reverse_cons]; exact ih.append (.cons h .nil)
  | _ => trivial
theorem RDs.ints {Z : Hp} : ∀ (ns : List Int), RDs Z (ns.map V.int) (ns.map D.int)
  | [] => .nil
  | _ :: ns => .cons .int (RDs.ints ns)

/-! ### owned things -/
mutual
inductive Own (mg : Str → Option Value) (Z H : Hp) : V → O → List Addr → Prop
  | dat {v : V} {d : D} : RD Z v d → Own mg Z H v (.dat d) []
  | lst {a : Addr} {vs : List V} {ds : List D} : H a = some (.lst vs) → RDs Z vs ds → Own mg Z H (.ref a) (.lst ds) [a]
  | mls {a : Addr} {vs : List V} {ts : List O} {fp : List Addr} : H a = some (.lst vs) → Owns mg Z H vs ts fp → Own mg Z H (.ref a) (.mls ts) (a :: fp)
  | ins {a C dx : Addr} {c : Str} {vfs : List (Str × V)} {fs : List (Str × O)} {fp : List Addr} : H a = some (.ins C dx vfs) → mg c = some (.ref C) → OwnF mg Z H vfs fs fp → Own mg Z H (.ref a) (.ins c fs) (a :: fp)
inductive Owns (mg : Str → Option Value) (Z H : Hp) : List V → List O → List Addr → Prop
  | nil : Owns mg Z H [] [] []
  | cons {v : V} {t : O} {f : List Addr} {vs : List V} {ts : List O} {g : List Addr} : Own mg Z H v t f → Owns mg Z H vs ts g → Owns mg Z H (v :: vs) (t :: ts) (f ++ g)
inductive OwnF (mg : Str → Option Value) (Z H : Hp) : List (Str × V) → List (Str × O) → List Addr → Prop
  | nil : OwnF mg Z H [] [] []
  | cons {x : Str} {v : V} {t : O} {f : List Addr} {vs : List (Str × V)} {ts : List (Str × O)} {g : List Addr} : Own mg Z H v t f → OwnF mg Z H vs ts g → OwnF mg Z H ((x, v) :: vs) ((x, t) :: ts) (f ++ g)
end
section
variable {mg : Str → Option Value} {Z Z' H H' : Hp}
mutual
/-- what an owned thing leans on -/
theorem Own.keep (s : Same Z Z') : ∀ {v : V} {t : O} {fp : List Addr}, Own mg Z H v t fp → (∀ a ∈ fp, H' a = H a) → Own mg Z' H' v t fp
  | _, _, _, .dat r, _ => .dat (r.mono s)
  | _, _, _, .lst h r, k => .lst ((k _ (by simp)).trans h) (r.mono s)
  | _, _, _, .mls h r, k => .mls ((k _ (by simp)).trans h) (Owns.keep s r fun b hb => k b (by simp [hb]))
  | _, _, _, .ins h m r, k => .ins ((k _ (by simp)).trans h) m (OwnF.keep s r fun b hb => k b (by simp [hb]))
theorem Owns.keep (s : Same Z Z') : ∀ {v : List V} {t : List O} {fp : List Addr}, Owns mg Z H v t fp → (∀ a ∈ fp, H' a = H a) → Owns mg Z' H' v t fp
  | _, _, _, .nil, _ => .nil
  | _, _, _, .cons h r, k => .cons (Own.keep s h fun b hb => k b (by simp [hb])) (Owns.keep s r fun b hb => k b (by simp [hb]))
theorem OwnF.keep (s : Same Z Z') : ∀ {v : List (Str × V)} {t : List (Str × O)} {fp : List Addr}, OwnF mg Z H v t fp → (∀ a ∈ fp, H' a = H a) → OwnF mg Z' H' v t fp
  | _, _, _, .nil, _ => .nil
  | _, _, _, .cons h r, k => .cons (Own.keep s h fun b hb => k b (by simp [hb])) (OwnF.keep s r fun b hb => k b (by simp [hb]))
end
mutual
theorem Own.there : ∀ {v : V} {t : O} {fp : List Addr}, Own mg Z H v t fp → ∀ a ∈ fp, ∃ o, H a = some o
  | _, _, _, .dat _, a, m => by simp at m
  | _, _, _, .lst h _, a, m => by simp at m; subst m; exact ⟨_, h⟩
  | _, _, _, .mls h r, a, m => by
    rcases List.mem_cons.mp m with e | m
    · subst e; exact ⟨_, h⟩
    · exact Owns.there r a m
  | _, _, _, .ins h _ r, a, m => by
    rcases List.mem_cons.mp m with e | m
    · subst e; exact ⟨_, h⟩
    · exact OwnF.there r a m
theorem Owns.there : ∀ {v : List V} {t : List O} {fp : List Addr}, Owns mg Z H v t fp → ∀ a ∈ fp, ∃ o, H a = some o
  | _, _, _, .nil, a, m => by simp at m
  | _, _, _, .cons h r, a, m => by
    rcases List.mem_append.mp m with m | m
    · exact Own.there h a m
    · exact Owns.there r a m
theorem OwnF.there : ∀ {v : List (Str × V)} {t : List (Str × O)} {fp : List Addr}, OwnF mg Z H v t fp → ∀ a ∈ fp, ∃ o, H a = some o
  | _, _, _, .nil, a, m => by simp at m
  | _, _, _, .cons h r, a, m => by
    rcases List.mem_append.mp m with m | m
    · exact Own.there h a m
    · exact OwnF.there r a m
end
end
/-- frozen: the data that it becomes -/
def O.toD : O → Option D
  | .dat d => some d
  | .lst xs => some (.lst xs)
  | .mls ts => (go ts).map D.lst
  | .ins _ _ => none
where go : List O → Option (List D)
  | [] => some []
  | t :: ts => match t.toD, go ts with
    | some d, some ds => some (d :: ds)
    | _, _ => none
/-- Z with what H says at fp -/
def frozen (Z H : Hp) (fp : List Addr) : Hp := fun b => if b ∈ fp then H b else Z b
section
variable {mg : Str → Option Value} {Z Z' H H' : Hp}
theorem frozen_same {fp : List Addr} (h : ∀ a ∈ fp, Z a = none) : Same Z (frozen Z H fp) := fun b o e => by
  unfold frozen
  by_cases m : b ∈ fp
  · rw [h b m] at e; cases e
  · rw [if_neg m]; exact e
theorem frozen_sub {fp : List Addr} (s : Same Z H) : Same (frozen Z H fp) H := fun b o e => by
  unfold frozen at e
  by_cases m : b ∈ fp
  · rw [if_pos m] at e; exact e
  · rw [if_neg m] at e; exact s b o e
theorem frozen_dom {fp : List Addr} {b : Addr} {o : HO} (e : frozen Z H fp b = some o) : Z b = some o ∨ b ∈ fp := by
  unfold frozen at e
  by_cases m : b ∈ fp
  · exact .inr m
  · rw [if_neg m] at e; exact .inl e
mutual
theorem Own.freeze (s : Same Z Z') : ∀ {v : V} {t : O} {fp : List Addr} {d : D}, Own mg Z H v t fp → (∀ a ∈ fp, Z' a = H a) → t.toD = some d → RD Z' v d
  | _, _, _, _, .dat r, _, e => by simp [O.toD] at e; subst e; exact r.mono s
  | _, _, _, _, .lst h r, k, e => by
    simp [O.toD] at e; subst e
    exact .lst ((k _ (by simp)).trans h) (r.mono s)
  | _, _, _, _, .mls h r, k, e => by
    simp only [O.toD, Option.map_eq_some_iff] at e
    obtain ⟨ds, e1, e2⟩ := e
    subst e2
    exact .lst ((k _ (by simp)).trans h) (Owns.freeze s r (fun b hb => k b (by simp [hb])) e1)
  | _, _, _, _, .ins h m r, k, e => by simp [O.toD] at e
theorem Owns.freeze (s : Same Z Z') : ∀ {v : List V} {t : List O} {fp : List Addr} {ds : List D}, Owns mg Z H v t fp → (∀ a ∈ fp, Z' a = H a) → O.toD.go t = some ds → RDs Z' v ds
  | _, _, _, _, .nil, _, e => by simp [O.toD.go] at e; subst e; exact .nil
  | _, _, _, _, .cons (t := t) (ts := ts) h r, k, e => by
    unfold O.toD.go at e
    split at e
    · rename_i d ds e1 e2
      cases e
      exact .cons (Own.freeze s h (fun b hb => k b (by simp [hb])) e1) (Owns.freeze s r (fun b hb => k b (by simp [hb])) e2)
    · cases e
end
end
/-- along the fields -/
def walk (H : Hp) : V → List Str → Option V
  | v, [] => some v
  | .ref a, f :: p => match H a with
    | some (.ins _ _ fs) => (fs.lookup f).bind fun u => walk H u p
    | _ => none
  | _, _ :: _ => none
def O.get : O → List Str → Option O
  | t, [] => some t
  | .ins _ fs, f :: p => (getF fs f).bind fun u => u.get p
  | _, _ :: _ => none
where getF : List (Str × O) → Str → Option O
  | [], _ => none
  | (g, u) :: r, f => if f = g then some u else getF r f
def setF (f : Str) (x : O) : List (Str × O) → List (Str × O)
  | [] => []
  | (g, u) :: r => if f = g then (g, x) :: r else (g, u) :: setF f x r
def O.set : O → List Str → O → O
  | _, [], x => x
  | .ins c fs, f :: p, x => match O.get.getF fs f with
    | some u => .ins c (setF f (u.set p x) fs)
    | none => .ins c fs
  | t, _ :: _, _ => t
end DL
namespace DL
open PySem PySem.Spec PyProof.Rows L2

/-! comparisons of ints that the kernel decides without counting -/
def ltB (i b : Int) : Bool := match i, b with
  | .ofNat m, .ofNat n => Nat.ble (m + 1) n
  | .negSucc _, .ofNat _ => true
  | .ofNat _, .negSucc _ => false
  | .negSucc m, .negSucc n => Nat.ble (n + 1) m
def leB (i b : Int) : Bool := match i, b with
  | .ofNat m, .ofNat n => Nat.ble m n
  | .negSucc _, .ofNat _ => true
  | .ofNat _, .negSucc _ => false
  | .negSucc m, .negSucc n => Nat.ble n m
theorem ltB_iff {i b : Int} : ltB i b = true ↔ i < b := by
  cases i with
  | ofNat m => cases b with
    | ofNat n => simp only [ltB, Nat.ble_eq, Int.ofNat_eq_natCast]; omega
    | negSucc n => simp only [ltB, Int.ofNat_eq_natCast]; constructor <;> intro h <;> first | omega | cases h
  | negSucc m => cases b with
    | ofNat n => simp only [ltB, Int.ofNat_eq_natCast]; constructor <;> intro h <;> first | omega | trivial
    | negSucc n => simp only [ltB, Nat.ble_eq]; omega
theorem leB_iff {i b : Int} : leB i b = true ↔ i ≤ b := by
  cases i with
  | ofNat m => cases b with
    | ofNat n => simp only [leB, Nat.ble_eq, Int.ofNat_eq_natCast]; omega
    | negSucc n => simp only [leB, Int.ofNat_eq_natCast]; constructor <;> intro h <;> first | omega | cases h
  | negSucc m => cases b with
    | ofNat n => simp only [leB, Int.ofNat_eq_natCast]; constructor <;> intro h <;> first | omega | trivial
    | negSucc n => simp only [leB, Nat.ble_eq]; omega
def dLtI (i b : Int) : Decidable (i < b) := decidable_of_iff _ ltB_iff
def dLeI (i b : Int) : Decidable (i ≤ b) := decidable_of_iff _ leB_iff
/-! ### the entry, the context, the state -/
structure En where
  Z0 : Hp
  H0 : Hp
  F0 : List Addr
  vs : List V
structure Gx where
  mg : Str → Option Value
  pins : List Nat
  n : En
  W : WX
def SR (mg : Str → Option Value) (Z H : Hp) (env : Ve) (σ : L2.St) (i : Nat) : S → List Addr → Prop
  | .un, fp => fp = []
  | .dat d, fp => fp = [] ∧ ∃ v, σ[i]? = some (some v) ∧ RD Z v d
  | .own t, fp => ∃ v, σ[i]? = some (some v) ∧ Own mg Z H v t fp
  | .al j p, fp => fp = [] ∧ (∃ t, env[j]? = some (.own t)) ∧ ∃ v vj, σ[i]? = some (some v) ∧ σ[j]? = some (some vj) ∧ walk H vj p = some v
structure StR (g : Gx) (Z : Hp) (env : Ve) (σ : L2.St) (H : Hp) (fps : Nat → List Addr) : Prop where
  len : σ.length = env.length
  sub : Same Z H
  slot : ∀ i s, env[i]? = some s → SR g.mg Z H env σ i s (fps i)
  out : ∀ i, env.length ≤ i → fps i = []
  dis : ∀ i j a, a ∈ fps i → a ∈ fps j → i = j
  nd : ∀ i, (fps i).Nodup
  nz : ∀ i a, a ∈ fps i → Z a = none
  e1 : Same g.n.Z0 Z
  e2 : ∀ b o, g.n.H0 b = some o → b ∉ g.n.F0 → H b = some o
  e3 : ∀ b o, Z b = some o → g.n.Z0 b = some o ∨ b ∈ g.n.F0 ∨ g.n.H0 b = none
  e4 : ∀ i a, a ∈ fps i → a ∈ g.n.F0 ∨ g.n.H0 a = none
  pin : ∀ i ∈ g.pins, ∃ v, g.n.vs[i]? = some v ∧ σ[i]? = some (some v)

structure Exn where
  c : Str
  fs : List (Str × D)
inductive Ev where
  | dat (d : D) | pl (j : Nat) (p : List Str) | new (t : O)
inductive Res (α : Type) where
  | ok (a : α) (e : Ve) | ex (x : Exn) (e : Ve) | no
def Res.bind {α β : Type} : Res α → (α → Ve → Res β) → Res β
  | .ok a e, f => f a e
  | .ex x e, _ => .ex x e
  | .no, _ => .no
@[simp] theorem Res.bind_ok {α β : Type} (a : α) (e : Ve) (f : α → Ve → Res β) : (Res.ok a e).bind f = f a e := rfl
@[simp] theorem Res.bind_ex {α β : Type} (x : Exn) (e : Ve) (f : α → Ve → Res β) : (Res.ex x e).bind f = .ex x e := rfl
@[simp] theorem Res.bind_no {α β : Type} (f : α → Ve → Res β) : (Res.no).bind f = .no := rfl
abbrev EM := Ve → Res Ev
abbrev TM := Ve → Res Bool
abbrev AM := Ve → Res (List Ev)

def EvR (g : Gx) (Z H : Hp) (σ : L2.St) (fps : Nat → List Addr) (v : V) : Ev → Prop
  | .dat d => RD Z v d
  | .pl j p => ∃ vj, σ[j]? = some (some vj) ∧ walk H vj p = some v
  | .new t => ∃ fp, Own g.mg Z H v t fp ∧ fp.Nodup ∧ ∀ a ∈ fp, Z a = none ∧ (∀ i, a ∉ fps i) ∧ (a ∈ g.n.F0 ∨ g.n.H0 a = none)
def XR (mg : Str → Option Value) (Z H : Hp) (cls : Value) (d : Option Addr) (x : Exn) : Prop :=
  ∃ C, cls = .ref C ∧ mg x.c = some (.ref C) ∧ (x.fs = [] ∨ ∃ dd vfs, d = some dd ∧ H dd = some (.xd vfs) ∧ ∀ f u, x.fs.lookup f = some u → ∃ v, vfs.lookup f = some v ∧ RD Z v u)

/-- what is wanted behind a mirror's answer -/
def Post {α β : Type} (g : Gx) (pu : Bool) (rel : Hp → Hp → L2.St → (Nat → List Addr) → β → α → Prop) (Z : Hp) (env : Ve) (σ : L2.St) (H : Hp) (fps : Nat → List Addr) (Q : β → Hp → Prop) : Res α → Prop
  | .ok a env' => ∀ b Z' H' fps', StR g Z' env' σ H' fps' → Same Z Z' → (pu = true → env' = env ∧ fps' = fps ∧ Same H H') → rel Z' H' σ fps' b a → Q b H'
  | .ex x env' => ∀ cls d Z' H' fps', StR g Z' env' σ H' fps' → Same Z Z' → XR g.mg Z' H' cls d x → g.W cls d σ H'
  | .no => False
section
variable {α β : Type} {g : Gx} {pu : Bool} {rel : Hp → Hp → L2.St → (Nat → List Addr) → β → α → Prop} {Z : Hp} {env : Ve} {σ : L2.St} {H : Hp} {fps : Nat → List Addr} {Q : β → Hp → Prop}
@[simp] theorem Post_ok {a : α} {env' : Ve} : Post g pu rel Z env σ H fps Q (.ok a env') = ∀ b Z' H' fps', StR g Z' env' σ H' fps' → Same Z Z' → (pu = true → env' = env ∧ fps' = fps ∧ Same H H') → rel Z' H' σ fps' b a → Q b H' := rfl
@[simp] theorem Post_ex {x : Exn} {env' : Ve} : Post g pu rel Z env σ H fps Q (.ex x env') = ∀ cls d Z' H' fps', StR g Z' env' σ H' fps' → Same Z Z' → XR g.mg Z' H' cls d x → g.W cls d σ H' := rfl
@[simp] theorem Post_no : Post g pu rel Z env σ H fps Q .no = False := rfl
end
/-- the wish that a mirror m makes -/
def tR {α β : Type} (g : Gx) (pu : Bool) (rel : Hp → Hp → L2.St → (Nat → List Addr) → β → α → Prop) (m : Ve → Res α) : L2.St → Hp → (β → Hp → Prop) → Prop := fun σ H Q =>
  ∃ Z env fps, StR g Z env σ H fps ∧ Post g pu rel Z env σ H fps Q (m env)
abbrev tE (g : Gx) (pu : Bool) (m : EM) : TE := tR g pu (EvR g) m
abbrev tT (g : Gx) (pu : Bool) (m : TM) : TT := tR g pu (fun _ _ _ _ (b c : Bool) => b = c) m
/-- held for later: no new thing; a place deeper than a slot only where nothing behind it stores (q) -/
def hold (q : Bool) : Res Ev → Res Ev
  | .ok (.dat d) e => .ok (.dat d) e
  | .ok (.new t) e => match t.toD with
    | some d => .ok (.dat d) e
    | none => .no
  | .ok (.pl j p) e => if (p.isEmpty || q) = true then .ok (.pl j p) e else .no
  | .ex x e => .ex x e
  | .no => .no
def HvR (q : Bool) (Z H : Hp) (σ : L2.St) (v : V) : Ev → Prop
  | .dat d => RD Z v d
  | .pl j p => (p = [] ∨ q = true) ∧ ∃ vj, σ[j]? = some (some vj) ∧ walk H vj p = some v
  | .new _ => False
theorem walk_mono {H H' : Hp} (s : Same H H') : ∀ {p : List Str} {v u : V}, walk H v p = some u → walk H' v p = some u
  | [], v, u, e => by unfold walk at e ⊢; exact e
  | f :: p, v, u, e => by
    cases v with
    | ref a =>
      unfold walk at e ⊢
      split at e
      · rename_i C dx fs h
        rw [s _ _ h]
        show (fs.lookup f).bind (fun u => walk H' u p) = some u
        cases q : fs.lookup f with
        | none => rw [q] at e; cases e
        | some w =>
          rw [q] at e
          exact walk_mono (p := p) s e
      · cases e
    | _ => simp [walk] at e
theorem HvR.later {q : Bool} {Z Z' H H' : Hp} {σ : L2.St} {v : V} {x : Ev} (h : HvR q Z H σ v x) (s : Same Z Z') (k : q = true → Same H H') : HvR q Z' H' σ v x := by
  cases x with
  | dat d => exact RD.mono s h
  | pl j p =>
    obtain ⟨h1, vj, h2, h3⟩ := h
    refine ⟨h1, vj, h2, ?_⟩
    rcases h1 with e | e
    · subst e; exact h3
    · exact walk_mono (k e) h3
  | new t => exact h
section
variable {g : Gx} {Z Z' H H' : Hp} {env env' : Ve} {σ : L2.St} {fps fps' : Nat → List Addr}
theorem StR.there (s : StR g Z env σ H fps) {i : Nat} {a : Addr} (m : a ∈ fps i) : ∃ o, H a = some o := by
  by_cases hi : i < env.length
  · have q := s.slot i env[i] (List.getElem?_eq_getElem hi)
    cases e : env[i] with
    | un => rw [e] at q; rw [show fps i = [] from q] at m; cases m
    | dat d => rw [e] at q; rw [q.1] at m; cases m
    | own t => rw [e] at q; obtain ⟨v, _, ow⟩ := q; exact ow.there a m
    | al j p => rw [e] at q; rw [q.1] at m; cases m
  · rw [s.out i (Nat.le_of_not_lt hi)] at m; cases m
/-- new things beside -/
structure Fresh (Z H Z' H' : Hp) : Prop where
  z : Same Z Z'
  h : Same H H'
  s : Same Z' H'
  n : ∀ b o, Z' b = some o → Z b = some o ∨ H b = none
theorem Fresh.refl (s : Same Z H) : Fresh Z H Z H := ⟨.refl _, .refl _, s, fun _ _ e => .inl e⟩
theorem SR.keep {mg : Str → Option Value} {i : Nat} {s : S} {fp : List Addr} (z : Same Z Z') (h : SR mg Z H env σ i s fp) (k : ∀ a ∈ fp, H' a = H a) (w : ∀ v p u, walk H v p = some u → walk H' v p = some u) : SR mg Z' H' env σ i s fp := by
  cases s with
  | un => exact h
  | dat d => obtain ⟨e, v, h1, h2⟩ := h; exact ⟨e, v, h1, h2.mono z⟩
  | own t => obtain ⟨v, h1, h2⟩ := h; exact ⟨v, h1, h2.keep z k⟩
  | al j p => obtain ⟨e, h0, v, vj, h1, h2, h3⟩ := h; exact ⟨e, h0, v, vj, h1, h2, w _ _ _ h3⟩
theorem StR.fresh (s : StR g Z env σ H fps) (f : Fresh Z H Z' H') (hn : ∀ b o, g.n.H0 b = some o → b ∉ g.n.F0 → H b = some o := s.e2) : StR g Z' env σ H' fps where
  len := s.len
  sub := f.s
  slot := fun i x e => (s.slot i x e).keep f.z (fun a m => by obtain ⟨o, h⟩ := s.there m; rw [h]; exact f.h _ _ h) fun v p u => walk_mono f.h
  out := s.out
  dis := s.dis
  nd := s.nd
  nz := fun i a m => by
    cases q : Z' a with
    | none => rfl
    | some o =>
      rcases f.n a o q with z | z
      · rw [s.nz i a m] at z; cases z
      · obtain ⟨o', h⟩ := s.there m; rw [h] at z; cases z
  e1 := s.e1.trans f.z
  e2 := fun b o e k => f.h _ _ (s.e2 b o e k)
  e3 := fun b o e => by
    rcases f.n b o e with z | z
    · exact s.e3 b o z
    · by_cases m : b ∈ g.n.F0
      · exact .inr (.inl m)
      · refine .inr (.inr ?_)
        cases q : g.n.H0 b with
        | none => rfl
        | some u => rw [s.e2 b u q m] at z; cases z
  e4 := s.e4
  pin := s.pin
theorem StR.new0 (s : StR g Z env σ H fps) {a : Addr} (h : H a = none) : (∀ i, a ∉ fps i) ∧ (a ∈ g.n.F0 ∨ g.n.H0 a = none) := by
  refine ⟨fun i m => ?_, ?_⟩
  · obtain ⟨o, e⟩ := s.there m; rw [h] at e; cases e
  · by_cases m : a ∈ g.n.F0
    · exact .inl m
    · refine .inr ?_
      cases q : g.n.H0 a with
      | none => rfl
      | some u => rw [s.e2 a u q m] at h; cases h
/-- what a rule hands on: new data, or a new thing -/
def NewR (mg : Str → Option Value) (H Z' H' : Hp) (v : V) : Ev → Prop
  | .dat d => RD Z' v d
  | .new t => ∃ fp, Own mg Z' H' v t fp ∧ fp.Nodup ∧ ∀ a ∈ fp, H a = none ∧ Z' a = none
  | .pl _ _ => False
theorem NewR.ev {v : V} {x : Ev} (s : StR g Z env σ H fps) (h : NewR g.mg H Z' H' v x) : EvR g Z' H' σ fps v x := by
  cases x with
  | dat d => exact h
  | pl j p => exact h.elim
  | new t =>
    obtain ⟨fp, h1, h2, h3⟩ := h
    exact ⟨fp, h1, h2, fun a m => ⟨(h3 a m).2, (s.new0 (h3 a m).1).1, (s.new0 (h3 a m).1).2⟩⟩
/-- a new thing becomes data -/
theorem StR.freezeNew {v : V} {t : O} {d : D} {fp : List Addr} (s : StR g Z env σ H fps) (ow : Own g.mg Z H v t fp) (h : ∀ a ∈ fp, Z a = none ∧ (∀ i, a ∉ fps i) ∧ (a ∈ g.n.F0 ∨ g.n.H0 a = none)) (e : t.toD = some d) :
    StR g (frozen Z H fp) env σ H fps ∧ RD (frozen Z H fp) v d ∧ Same Z (frozen Z H fp) := by
  have z : Same Z (frozen Z H fp) := frozen_same fun a m => (h a m).1
  refine ⟨⟨s.len, frozen_sub s.sub, fun i x e => (s.slot i x e).keep z (fun a m => rfl) fun _ _ _ q => q, s.out, s.dis, s.nd, fun i a m => ?_, s.e1.trans z, s.e2, fun b o q => ?_, s.e4, s.pin⟩, ow.freeze z (fun a m => by unfold frozen; rw [if_pos m]) e, z⟩
  · unfold frozen
    rw [if_neg fun k => (h a k).2.1 i m]
    exact s.nz i a m
  · rcases frozen_dom q with k | k
    · exact s.e3 b o k
    · exact .inr (h b k).2.2
theorem hold_run {pu q : Bool} {m : EM} {Q : VK} (s : StR g Z env σ H fps)
    (ok : ∀ x e1, hold q (m env) = .ok x e1 → ∀ v Z1 H1 fps1, StR g Z1 e1 σ H1 fps1 → Same Z Z1 → (pu = true → e1 = env ∧ fps1 = fps ∧ Same H H1) → HvR q Z1 H1 σ v x → Q v H1)
    (ex : ∀ x e1, hold q (m env) = .ex x e1 → ∀ cls d Z1 H1 fps1, StR g Z1 e1 σ H1 fps1 → Same Z Z1 → XR g.mg Z1 H1 cls d x → g.W cls d σ H1)
    (no : hold q (m env) = .no → False) : tE g pu m σ H Q := by
  refine ⟨Z, env, fps, s, ?_⟩
  cases e : m env with
  | no => exact no (by rw [e]; rfl)
  | ex x e1 => exact ex x e1 (by rw [e]; rfl)
  | ok a e1 =>
    intro b Z' H' fps' s' z k r
    cases a with
    | dat d => exact ok (.dat d) e1 (by rw [e]; rfl) b Z' H' fps' s' z k r
    | pl j p =>
      by_cases hp : (p.isEmpty || q) = true
      · refine ok (.pl j p) e1 (by rw [e]; show (if _ then _ else _) = _; rw [if_pos hp]) b Z' H' fps' s' z k ⟨?_, r⟩
        rcases Bool.or_eq_true _ _ |>.mp hp with h | h
        · exact .inl (by simpa using h)
        · exact .inr h
      · exact (no (by rw [e]; show (if _ then _ else _) = _; rw [if_neg hp])).elim
    | new t =>
      obtain ⟨fp, r1, r2, r3⟩ := r
      cases ht : t.toD with
      | none => exact (no (by rw [e]; simp [hold, ht])).elim
      | some d =>
        obtain ⟨s2, r4, z2⟩ := s'.freezeNew r1 r3 ht
        exact ok (.dat d) e1 (by rw [e]; simp [hold, ht]) b _ H' fps' s2 (z.trans z2) k r4
/-- what a value is just now -/
def RN (Z H : Hp) (v : V) (d : D) : Prop := RD Z v d ∨ ∃ a vs ds, v = .ref a ∧ d = .lst ds ∧ H a = some (.lst vs) ∧ RDs Z vs ds
def O.flat : O → Option D
  | .dat d => some d
  | .lst xs => some (.lst xs)
  | _ => none
def peek (env : Ve) : Ev → Option D
  | .dat d => some d
  | .pl j p => match env[j]? with
    | some (.own t) => (t.get p).bind O.flat
    | _ => none
  | .new _ => none
theorem OwnF.get {mg : Str → Option Value} : ∀ {vs : List (Str × V)} {fs : List (Str × O)} {fp : List Addr} {f : Str} {t : O}, OwnF mg Z H vs fs fp → O.get.getF fs f = some t → ∃ v f', vs.lookup f = some v ∧ Own mg Z H v t f' ∧ ∀ a ∈ f', a ∈ fp
  | _, _, _, f, t, .nil, e => by simp [O.get.getF] at e
  | _, _, _, f, t, .cons (x := x) (v := v) (t := u) (f := f1) (vs := vs) (ts := ts) (g := g1) h r, e => by
    unfold O.get.getF at e
    by_cases c : f = x
    · subst c
      rw [if_pos rfl] at e
      cases e
      exact ⟨v, f1, by simp [List.lookup], h, fun a m => List.mem_append_left _ m⟩
    · rw [if_neg c] at e
      obtain ⟨v', f', h1, h2, h3⟩ := OwnF.get r e
      refine ⟨v', f', ?_, h2, fun a m => List.mem_append_right _ (h3 a m)⟩
      have : (f == x) = false := by simpa using c
      simp [List.lookup, this, h1]
theorem Own.get {mg : Str → Option Value} : ∀ {p : List Str} {v : V} {t t' : O} {fp : List Addr}, Own mg Z H v t fp → t.get p = some t' → ∃ v' fp', walk H v p = some v' ∧ Own mg Z H v' t' fp' ∧ ∀ a ∈ fp', a ∈ fp
  | [], v, t, t', fp, ow, e => by
    simp [O.get] at e
    subst e
    exact ⟨v, fp, by simp [walk], ow, fun _ m => m⟩
  | f :: p, v, t, t', fp, ow, e => by
    cases ow with
    | dat _ => simp [O.get] at e
    | lst _ _ => simp [O.get] at e
    | mls _ _ => simp [O.get] at e
    | ins h hm r =>
      unfold O.get at e
      rename_i a C dx c vfs fs fp1
      cases q : O.get.getF fs f with
      | none => rw [q] at e; cases e
      | some u =>
        rw [q] at e
        obtain ⟨w, fp', h1, h2, h3⟩ := r.get q
        obtain ⟨v', fp2, h4, h5, h6⟩ := Own.get (p := p) h2 e
        refine ⟨v', fp2, ?_, h5, fun a m => List.mem_cons_of_mem _ (h3 _ (h6 _ m))⟩
        unfold walk
        rw [h]
        show (vfs.lookup f).bind _ = _
        rw [h1]
        exact h4
theorem peek_ok {q : Bool} {v : V} {x : Ev} {d : D} (s : StR g Z env σ H fps) (h : HvR q Z H σ v x) (e : peek env x = some d) : RN Z H v d := by
  cases x with
  | dat d' => simp [peek] at e; subst e; exact .inl h
  | new t => exact h.elim
  | pl j p =>
    obtain ⟨_, vj, h1, h2⟩ := h
    have e : (match env[j]? with
      | some (.own t) => (t.get p).bind O.flat
      | _ => none) = some d := e
    split at e
    · rename_i t ht
      obtain ⟨v0, h3, ow⟩ := s.slot j _ ht
      rw [h1] at h3
      cases h3
      cases ht' : t.get p with
      | none => rw [ht'] at e; cases e
      | some t' =>
        rw [ht'] at e
        obtain ⟨v', fp', h4, h5, _⟩ := ow.get ht'
        rw [h2] at h4
        cases h4
        cases h5 with
        | dat r => simp [O.flat] at e; subst e; exact .inl r
        | lst r1 r2 => simp [O.flat] at e; subst e; exact .inr ⟨_, _, _, rfl, rfl, r1, r2⟩
        | mls _ _ => simp [O.flat] at e
        | ins _ _ _ => simp [O.flat] at e
    · cases e
end
/-! ### the judgements -/
section
variable {X : Cx} {g : Gx}
theorem PE.imp {e : Expr} {t t' : TE} (h : PE X e t) (k : ∀ σ H Q, t' σ H Q → t σ H Q) : PE X e t' := ⟨fun pins s σ H Q I q => h.run pins s σ H Q I (k σ H Q q)⟩
theorem PT.imp {e : Expr} {t t' : TT} (h : PT X e t) (k : ∀ σ H Q, t' σ H Q → t σ H Q) : PT X e t' := ⟨fun pins s σ H Q I q => h.run pins s σ H Q I (k σ H Q q)⟩
abbrev DE (X : Cx) (g : Gx) (pu : Bool) (e : Expr) (m : EM) : Prop := PE X e (tE g pu m)
abbrev DT (X : Cx) (g : Gx) (pu : Bool) (e : Expr) (m : TM) : Prop := PT X e (tT g pu m)

def eName (i : Nat) : EM := fun env => match env[i]? with
  | some (.dat d) => .ok (.dat d) env
  | some (.own _) => .ok (.pl i []) env
  | some (.al j p) => .ok (.pl j p) env
  | _ => .no
theorem de_name (i : Nat) {x : Str} {pos : Pos} (hN : X.N[i]? = some x := by rfl) (hv : Vis X.env.scope x := by first | exact Or.inl rfl | exact Or.inr (Or.inl rfl) | exact Or.inr (Or.inr rfl))
    (hd : (x == ("__debug__" : Str)) = false := by decide) (hcd : (x == ("__classdict__" : Str)) = false := by decide) : DE X g true (.Name x pos) (eName i) := by
  refine PE.imp (pe_var hN hv hd hcd) fun σ H Q ⟨Z, env, fps, s, h⟩ => ?_
  unfold eName at h
  cases e : env[i]? with
  | none => rw [e] at h; exact h.elim
  | some x =>
    rw [e] at h
    have q := s.slot i _ e
    cases x with
    | un => exact h.elim
    | dat d =>
      obtain ⟨_, v, h1, h2⟩ := q
      exact ⟨v, h1, h v Z H fps s (.refl _) (fun _ => ⟨rfl, rfl, .refl _⟩) h2⟩
    | own t =>
      obtain ⟨v, h1, h2⟩ := q
      exact ⟨v, h1, h v Z H fps s (.refl _) (fun _ => ⟨rfl, rfl, .refl _⟩) ⟨v, h1, by simp [walk]⟩⟩
    | al j p =>
      obtain ⟨_, _, v, vj, h1, h2, h3⟩ := q
      exact ⟨v, h1, h v Z H fps s (.refl _) (fun _ => ⟨rfl, rfl, .refl _⟩) ⟨vj, h2, h3⟩⟩
def eD (d : D) : EM := fun env => .ok (.dat d) env
theorem de_c {e : Expr} {v : V} {d : D} (h : PE X e (tC v)) (r : ∀ Z, RD Z v d) : DE X g true e (eD d) := PE.imp h fun σ H Q ⟨Z, env, fps, s, h⟩ => h v Z H fps s (.refl _) (fun _ => ⟨rfl, rfl, .refl _⟩) (r _)
theorem de_int {i j pos} : DE X g true (.Constant (.int i) j pos) (eD (.int i)) := de_c pe_int fun _ => .int
theorem de_bl {b j pos} : DE X g true (.Constant (.bool b) j pos) (eD (.bl b)) := de_c pe_bl fun _ => .bl
theorem de_non {j pos} : DE X g true (.Constant .none j pos) (eD .non) := de_c pe_non fun _ => .non
theorem de_str {x j pos} : DE X g true (.Constant (.str x) j pos) (eD (.str x)) := de_c pe_str fun _ => .str

/-! ### two operands -/
def OpOk (X : Cx) (f : Value → Value → Sem Value) (op : D → D → Option Ev) : Prop :=
  ∃ r, OpR X f r ∧ ∀ mg Z H v u d e ev Q, Same Z H → RN Z H v d → RN Z H u e → op d e = some ev → (∀ v' Z' H', Fresh Z H Z' H' → NewR mg H Z' H' v' ev → Q v' H') → r v u H Q
def eOp2 (q : Bool) (op : D → D → Option Ev) (a b : EM) : EM := fun env => (hold q (a env)).bind fun x e1 => (hold true (b e1)).bind fun y e2 =>
  match peek e2 x, peek e2 y with
  | some d, some u => match op d u with
    | some ev => .ok ev e2
    | none => .no
  | _, _ => .no
theorem op2_run {p q : Bool} {op : D → D → Option Ev} {ma mb : EM} {r : V → V → Hp → VK → Prop}
    (hr : ∀ mg Z H v u d e ev Q, Same Z H → RN Z H v d → RN Z H u e → op d e = some ev → (∀ v' Z' H', Fresh Z H Z' H' → NewR mg H Z' H' v' ev → Q v' H') → r v u H Q)
    {σ : L2.St} {H : Hp} {Q : VK} (h : tE g (p && q) (eOp2 q op ma mb) σ H Q) : tOp r (tE g p ma) (tE g q mb) σ H Q := by
  obtain ⟨Z, env, fps, s, h⟩ := h
  refine hold_run (q := q) s (fun x e1 he v Z1 H1 fps1 s1 z1 k1 r1 => ?_) (fun x e1 he => ?_) (fun he => ?_)
  · refine hold_run (q := true) s1 (fun y e2 he2 u Z2 H2 fps2 s2 z2 k2 r2 => ?_) (fun y e2 he2 => ?_) (fun he2 => ?_)
    · simp only [eOp2, he, he2, Res.bind_ok] at h
      have r1' := r1.later z2 fun hq => (k2 hq).2.2
      cases h1 : peek e2 x with
      | none => simp [h1] at h
      | some d =>
        cases h2 : peek e2 y with
        | none => simp [h1, h2] at h
        | some d2 =>
          cases h3 : op d d2 with
          | none => simp [h1, h2, h3] at h
          | some ev =>
            simp only [h1, h2, h3] at h
            refine hr g.mg Z2 H2 v u d d2 ev Q s2.sub (peek_ok s2 r1' h1) (peek_ok s2 r2 h2) h3 fun v' Z' H' f nr => ?_
            refine h v' Z' H' fps2 (s2.fresh f) ((z1.trans z2).trans f.z) (fun hp => ?_) (nr.ev s2)
            simp only [Bool.and_eq_true] at hp
            obtain ⟨a1, a2, a3⟩ := k1 hp.1
            obtain ⟨b1, b2, b3⟩ := k2 hp.2
            exact ⟨b1.trans a1, b2.trans a2, (a3.trans b3).trans f.h⟩
    · simp only [eOp2, he, he2, Res.bind_ok, Res.bind_ex] at h
      exact fun cls dd Z2 H2 fps2 s2 z2 xr => h cls dd Z2 H2 fps2 s2 (z1.trans z2) xr
    · simp only [eOp2, he, he2, Res.bind_ok, Res.bind_no, Post_no] at h
  · simp only [eOp2, he, Res.bind_ex] at h
    exact h
  · simp only [eOp2, he, Res.bind_no, Post_no] at h
theorem de_bin {op : Operator} {f : D → D → Option Ev} {p q : Bool} {a b : Expr} {ma mb : EM} {pos : Pos} (ho : OpOk X (binaryOp op) f) (ha : DE X g p a ma) (hb : DE X g q b mb) : DE X g (p && q) (.BinOp a op b pos) (eOp2 q f ma mb) := by
  obtain ⟨r, h1, h2⟩ := ho
  exact PE.imp (pe_op h1 ha hb) fun σ H Q h => op2_run h2 h
theorem de_cmp {op : CmpOp} {f : D → D → Option Ev} {p q : Bool} {a b : Expr} {ma mb : EM} {pos : Pos} (ho : OpOk X (compareOp op) f) (ha : DE X g p a ma) (hb : DE X g q b mb) (hm : behindInMarks op b = false := by first | exact nomark _ | rfl) : DE X g (p && q) (.Compare a [op] [b] pos) (eOp2 q f ma mb) := by
  obtain ⟨r, h1, h2⟩ := ho
  exact PE.imp (pe_cmpR h1 ha hb hm) fun σ H Q h => op2_run h2 h
/-- a value that is a bool, as a test -/
def tvB (m : EM) : TM := fun env => match m env with
  | .ok (.dat (.bl b)) e => .ok b e
  | .ex x e => .ex x e
  | _ => .no
theorem tv_run {p : Bool} {m : EM} {σ : L2.St} {H : Hp} {Q : Bool → Hp → Prop} (h : tT g p (tvB m) σ H Q) : tE g p m σ H fun x H' => ∃ k, x = .bl k ∧ Q k H' := by
  obtain ⟨Z, env, fps, s, h⟩ := h
  refine ⟨Z, env, fps, s, ?_⟩
  unfold tvB at h
  cases e : m env with
  | no => rw [e] at h; exact h
  | ex x e1 => rw [e] at h; exact h
  | ok a e1 =>
    rw [e] at h
    intro b Z' H' fps' s' z k r
    cases a with
    | dat d =>
      cases d with
      | bl c => cases r; exact ⟨c, rfl, h c Z' H' fps' s' z k rfl⟩
      | _ => exact h.elim
    | _ => exact h.elim
theorem dt_cmp {op : CmpOp} {f : D → D → Option Ev} {p q : Bool} {a b : Expr} {ma mb : EM} {pos : Pos} (ho : OpOk X (compareOp op) f) (ha : DE X g p a ma) (hb : DE X g q b mb) (hm : behindInMarks op b = false := by first | exact nomark _ | rfl) : DT X g (p && q) (.Compare a [op] [b] pos) (tvB (eOp2 q f ma mb)) := by
  obtain ⟨r, h1, h2⟩ := ho
  refine PT.imp (pt_cmpR h1 ha hb hm) fun σ H Q h => ?_
  have h' := tv_run h
  exact op2_run h2 h'
theorem dt_val {e : Expr} {p : Bool} {m : EM} (h : DE X g p e m) (he : ∀ whole, isTrue e X.env whole = (do let v ← whole; standAt e.pos; holding [v] (truthy v)) := by intro _; rfl) : DT X g p e (tvB m) :=
  PT.imp (pt_val h he) fun σ H Q h => tv_run h
end
end DL
namespace DL
open PySem PySem.Spec PyProof.Rows L2
section
variable {Z Z' H H' : Hp} {v u : V} {d e : D}
theorem RN.int {i : Int} (h : RN Z H v (.int i)) : v = .int i := by
  rcases h with h | ⟨a, vs, ds, _, e, _⟩
  · cases h; rfl
  · cases e
theorem RN.bl {i : Bool} (h : RN Z H v (.bl i)) : v = .bl i := by
  rcases h with h | ⟨a, vs, ds, _, e, _⟩
  · cases h; rfl
  · cases e
theorem RN.str {i : Str} (h : RN Z H v (.str i)) : v = .str i := by
  rcases h with h | ⟨a, vs, ds, _, e, _⟩
  · cases h; rfl
  · cases e
theorem RN.non (h : RN Z H v .non) : v = .non := by
  rcases h with h | ⟨a, vs, ds, _, e, _⟩
  · cases h; rfl
  · cases e
theorem RN.lst {ds : List D} (s : Same Z H) (h : RN Z H v (.lst ds)) : ∃ a vs, v = .ref a ∧ H a = some (.lst vs) ∧ RDs Z vs ds := by
  rcases h with h | ⟨a, vs, ds, e1, e, h1, h2⟩
  · cases h with
    | lst h1 h2 => exact ⟨_, _, rfl, s _ _ h1, h2⟩
  · cases e; exact ⟨a, vs, e1, h1, h2⟩
theorem RN.tup {ds : List D} (s : Same Z H) (h : RN Z H v (.tup ds)) : ∃ a vs, v = .ref a ∧ H a = some (.tup vs) ∧ RDs Z vs ds := by
  rcases h with h | ⟨a, vs, ds, e1, e, h1, h2⟩
  · cases h with
    | tup h1 h2 => exact ⟨_, _, rfl, s _ _ h1, h2⟩
  · cases e
theorem Fresh.new (s : Same Z H) {p : Addr} {o : HO} (h : H p = none) : Fresh Z H Z (upd H p o) where
  z := .refl _
  h := fun b x e => by rw [upd_ne (ne_of_none e h)]; exact e
  s := fun b x e => by rw [upd_ne (ne_of_none (s b x e) h)]; exact s b x e
  n := fun b x e => .inl e
theorem Fresh.newZ (s : Same Z H) {p : Addr} {o : HO} (h : H p = none) : Fresh Z H (upd Z p o) (upd H p o) where
  z := fun b x e => by rw [upd_ne (ne_of_none (s b x e) h)]; exact e
  h := fun b x e => by rw [upd_ne (ne_of_none e h)]; exact e
  s := fun b x e => by
    by_cases c : b = p
    · subst c; rw [upd_same] at e ⊢; exact e
    · rw [upd_ne c] at e ⊢; exact s b x e
  n := fun b x e => by
    by_cases c : b = p
    · subst c; exact .inr h
    · rw [upd_ne c] at e; exact .inl e
theorem NewR.lst {mg : Str → Option Value} (s : Same Z H) {p : Addr} {vs : List V} {ds : List D} (h : H p = none) (r : RDs Z vs ds) : NewR mg H Z (upd H p (.lst vs)) (.ref p) (.new (.lst ds)) := by
  refine ⟨[p], .lst upd_same r, by simp, fun a m => ?_⟩
  have e : a = p := by simpa using m
  subst e
  refine ⟨h, ?_⟩
  cases q : Z a with
  | none => rfl
  | some o => rw [s a o q] at h; cases h
theorem NewR.tup {mg : Str → Option Value} (s : Same Z H) {p : Addr} {vs : List V} {ds : List D} (h : H p = none) (r : RDs Z vs ds) : NewR mg H (upd Z p (.tup vs)) (upd H p (.tup vs)) (.ref p) (.dat (.tup ds)) :=
  RD.tup upd_same (r.mono (Fresh.newZ (o := .tup vs) s h).z)
end
/-! ### data as the library compares them -/
def D.py : D → PyData
  | .non => .none
  | .bl b => .bool b
  | .int i => .int i
  | .str x => .str x
  | .lst xs => .list (pys xs)
  | .tup xs => .tuple (pys xs)
  | .scr ns => .list (ns.map .int)
where pys : List D → List PyData
  | [] => []
  | x :: xs => x.py :: pys xs
def D.nos : D → Bool
  | .lst xs => go xs
  | .tup xs => go xs
  | .scr _ => false
  | _ => true
where go : List D → Bool
  | [] => true
  | x :: xs => x.nos && go xs
mutual
theorem RD.dp {K : PySem.W.Frag} {Z H : Hp} (s : Same Z H) : ∀ {v : V} {d : D}, RD Z v d → d.nos = true → Dp K H v d.py
  | _, _, .non, _ => by simp only [D.py]; exact .non
  | _, _, .bl, _ => by simp only [D.py]; exact .bl _
  | _, _, .int, _ => by simp only [D.py]; exact .int _
  | _, _, .str, _ => by simp only [D.py]; exact .str _
  | _, _, .lst h r, n => by simp only [D.py]; exact .lst (.of (s _ _ h)) (RDs.dp s r (by simpa [D.nos] using n))
  | _, _, .tup h r, n => by simp only [D.py]; exact .tup (.of (s _ _ h)) (RDs.dp s r (by simpa [D.nos] using n))
  | _, _, .scr _, n => by simp [D.nos] at n
theorem RDs.dp {K : PySem.W.Frag} {Z H : Hp} (s : Same Z H) : ∀ {vs : List V} {ds : List D}, RDs Z vs ds → D.nos.go ds = true → DpAll K H vs (D.py.pys ds)
  | _, _, .nil, _ => .nil
  | _, _, .cons h r, n => by
    simp only [D.nos.go, Bool.and_eq_true] at n
    exact .cons (RD.dp s h n.1) (RDs.dp s r n.2)
end
theorem RN.dp {K : PySem.W.Frag} {Z H : Hp} {v : V} {d : D} (s : Same Z H) (h : RN Z H v d) (n : d.nos = true) : Dp K H v d.py := by
  rcases h with h | ⟨a, vs, ds, e1, e2, h1, h2⟩
  · exact h.dp s n
  · subst e1 e2
    simp only [D.py]
    exact .lst (.of h1) (h2.dp s (by simpa [D.nos] using n))
/-! ### operations by data -/
abbrev lim : Nat := 16777216
theorem lim_eq {n : Nat} (h : n ≤ lim) : n ≤ sizeLine := by rw [sizeLine_eq]; exact h
def addD : D → D → Option Ev
  | .int i, .int j => some (.dat (.int (i + j)))
  | .str x, .str y => if x.length + y.length ≤ lim then some (.dat (.str (x ++ y))) else none
  | .lst xs, .lst ys => if xs.length + ys.length ≤ lim then some (.new (.lst (xs ++ ys))) else none
  | .tup xs, .tup ys => if xs.length + ys.length ≤ lim then some (.dat (.tup (xs ++ ys))) else none
  | _, _ => none
def subD : D → D → Option Ev
  | .int i, .int j => some (.dat (.int (i - j)))
  | _, _ => none
section
local instance (priority := 5000) (i b : Int) : Decidable (i < b) := dLtI i b
local instance (priority := 5000) (i b : Int) : Decidable (i ≤ b) := dLeI i b
def mulD : D → D → Option Ev
  | .int i, .int j => if (-(2 ^ 64) < i ∧ i < 2 ^ 64) ∨ (-(2 ^ 64) < j ∧ j < 2 ^ 64) then some (.dat (.int (i * j))) else none
  | .lst xs, .int k => if -(2 ^ 63) ≤ k ∧ k < 2 ^ 63 ∧ xs.length * k.toNat ≤ lim then some (.new (.lst (List.replicate k.toNat xs).flatten)) else none
  | _, _ => none
def modD : D → D → Option Ev
  | .int i, .int j => if 0 < j then some (.dat (.int (i % j))) else none
  | _, _ => none
def fdivD : D → D → Option Ev
  | .int i, .int j => if 0 < j ∧ j < 1073741824 then some (.dat (.int (i / j))) else none
  | _, _ => none
def powD : D → D → Option Ev
  | .int i, .int j => if 0 ≤ j ∧ j ≤ 1000000 ∧ i.natAbs < 2 ^ 64 then some (.dat (.int (i ^ j.toNat))) else none
  | _, _ => none
end
section
variable {X : Cx}
theorem OpOk.mk {f : Value → Value → Sem Value} {op : D → D → Option Ev} (r : R2) (h : OpR X f r)
    (k : ∀ mg Z H v u d e ev Q, Same Z H → RN Z H v d → RN Z H u e → op d e = some ev → (∀ v' Z' H', Fresh Z H Z' H' → NewR mg H Z' H' v' ev → Q v' H') → r v u H Q) : OpOk X f op := ⟨r, h, k⟩
theorem ok_add : OpOk X (binaryOp .Add) addD := by
  refine .mk _ ((op_add.or op_add_str).or (op_cat.or op_catA)) fun mg Z H v u d e ev Q s rv ru h q => ?_
  cases d with
  | int i =>
    cases e with
    | int j => cases h; exact .inl (.inl ⟨i, j, rv.int, ru.int, q _ _ _ (.refl s) .int⟩)
    | _ => cases h
  | str x =>
    cases e with
    | str y =>
      simp only [addD] at h
      split at h
      · rename_i hl
        cases h
        exact .inl (.inr ⟨x, y, rv.str, ru.str, lim_eq hl, q _ _ _ (.refl s) .str⟩)
      · cases h
    | _ => cases h
  | lst xs =>
    cases e with
    | lst ys =>
      simp only [addD] at h
      split at h
      · rename_i hl
        cases h
        obtain ⟨a, vs, rfl, h1, r1⟩ := rv.lst s
        obtain ⟨b, ws, rfl, h2, r2⟩ := ru.lst s
        refine .inr (.inl ⟨a, b, vs, ws, rfl, rfl, h1, h2, lim_eq (by rw [r1.length, r2.length]; exact hl), fun p hp => ?_⟩)
        exact q _ _ _ (.new s hp) (.lst s hp (r1.append r2))
      · cases h
    | _ => cases h
  | tup xs =>
    cases e with
    | tup ys =>
      simp only [addD] at h
      split at h
      · rename_i hl
        cases h
        obtain ⟨a, vs, rfl, h1, r1⟩ := rv.tup s
        obtain ⟨b, ws, rfl, h2, r2⟩ := ru.tup s
        refine .inr (.inr ⟨a, b, vs, ws, rfl, rfl, .of h1, .of h2, lim_eq (by rw [r1.length, r2.length]; exact hl), fun e => ?_, fun _ e => ?_, fun _ _ p hp => ?_⟩)
        · subst e
          cases r1
          rcases ru with k | ⟨_, _, _, _, e, _⟩
          · exact q _ _ _ (.refl s) k
          · cases e
        · subst e
          cases r2
          rw [List.append_nil] at q
          rcases rv with k | ⟨_, _, _, _, e, _⟩
          · exact q _ _ _ (.refl s) k
          · cases e
        · exact q _ _ _ (.newZ s hp) (.tup s hp (r1.append r2))
      · cases h
    | _ => cases h
  | _ => cases h
theorem ok_ints {f : Value → Value → Sem Value} {op : D → D → Option Ev} {C : Int → Int → Prop} {gg : Int → Int → V} {gd : Int → Int → D} (hr : OpR X f (rI C gg)) (hd : ∀ i j Z, RD Z (gg i j) (gd i j))
    (h : ∀ d e ev, op d e = some ev → ∃ i j, d = .int i ∧ e = .int j ∧ C i j ∧ ev = .dat (gd i j)) : OpOk X f op := by
  refine .mk _ hr fun mg Z H v u d e ev Q s rv ru he q => ?_
  obtain ⟨i, j, rfl, rfl, c, rfl⟩ := h d e ev he
  exact ⟨i, j, rv.int, ru.int, c, q _ _ _ (.refl s) (hd i j _)⟩
theorem ok_sub : OpOk X (binaryOp .Sub) subD := by
  refine .mk _ op_sub fun mg Z H v u d e ev Q s rv ru h q => ?_
  cases d <;> cases e <;> cases h
  exact ⟨_, _, rv.int, ru.int, q _ _ _ (.refl s) .int⟩
theorem ok_mul : OpOk X (binaryOp .Mult) mulD := by
  refine .mk _ (op_mul.or op_rep) fun mg Z H v u d e ev Q s rv ru h q => ?_
  cases d with
  | int i =>
    cases e with
    | int j =>
      simp only [mulD] at h
      split at h
      · rename_i hl
        cases h
        exact .inl ⟨i, j, rv.int, ru.int, hl, q _ _ _ (.refl s) .int⟩
      · cases h
    | _ => cases h
  | lst xs =>
    cases e with
    | int k =>
      simp only [mulD] at h
      split at h
      · rename_i hl
        cases h
        obtain ⟨a, vs, rfl, h1, r1⟩ := rv.lst s
        refine .inr ⟨a, k, vs, rfl, ru.int, h1, hl.1, hl.2.1, lim_eq (by rw [r1.length]; exact hl.2.2), fun p hp => ?_⟩
        refine q _ _ _ (.new s hp) (.lst s hp ?_)
        have : ∀ n : Nat, RDs Z (List.replicate n vs).flatten (List.replicate n xs).flatten := fun n => by
          induction n with
          | zero => exact .nil
          | succ n ih => rw [List.replicate_succ, List.replicate_succ, List.flatten_cons, List.flatten_cons]; exact r1.append ih
        exact this _
      · cases h
    | _ => cases h
  | _ => cases h
theorem ok_mod : OpOk X (binaryOp .Mod) modD := by
  refine ok_ints (gd := fun i j => .int (i % j)) op_mod (fun _ _ _ => .int) fun d e ev h => ?_
  unfold modD at h
  split at h
  · split at h
    · cases h; exact ⟨_, _, rfl, rfl, by assumption, rfl⟩
    · cases h
  · cases h
theorem ok_fdiv : OpOk X (binaryOp .FloorDiv) fdivD := by
  refine ok_ints (gd := fun i j => .int (i / j)) op_fdiv (fun _ _ _ => .int) fun d e ev h => ?_
  unfold fdivD at h
  split at h
  · split at h
    · cases h; exact ⟨_, _, rfl, rfl, by assumption, rfl⟩
    · cases h
  · cases h
theorem ok_pow : OpOk X (binaryOp .Pow) powD := by
  refine ok_ints (gd := fun i j => .int (i ^ j.toNat)) op_pow (fun _ _ _ => .int) fun d e ev h => ?_
  unfold powD at h
  split at h
  · split at h
    · cases h; exact ⟨_, _, rfl, rfl, by assumption, rfl⟩
    · cases h
  · cases h
/-! comparisons -/
def eqOk (d : D) : Bool := d.nos && SeqAt.shaped d.py
def eqB (d e : D) : Bool := PyData.eqv d.py e.py
def eqD (d e : D) : Option Ev := if (eqOk d && eqOk e) = true then some (.dat (.bl (eqB d e))) else none
def neD (d e : D) : Option Ev := if (eqOk d && eqOk e) = true then some (.dat (.bl (!eqB d e))) else none
theorem ok_eq (hu : X.A.units + 64 < cLine) : OpOk X (compareOp .Eq) eqD := by
  refine .mk _ (op_eqD hu) fun mg Z H v u d e ev Q s rv ru h q => ?_
  unfold eqD at h
  split at h
  · rename_i hl
    cases h
    simp only [eqOk, Bool.and_eq_true] at hl
    exact ⟨d.py, e.py, rv.dp s hl.1.1, ru.dp s hl.2.1, hl.1.2, hl.2.2, q _ _ _ (.refl s) .bl⟩
  · cases h
theorem ok_ne (hu : X.A.units + 64 < cLine) : OpOk X (compareOp .NotEq) neD := by
  refine .mk _ (op_neD hu) fun mg Z H v u d e ev Q s rv ru h q => ?_
  unfold neD at h
  split at h
  · rename_i hl
    cases h
    simp only [eqOk, Bool.and_eq_true] at hl
    exact ⟨d.py, e.py, rv.dp s hl.1.1, ru.dp s hl.2.1, hl.1.2, hl.2.2, q _ _ _ (.refl s) .bl⟩
  · cases h
def ltD : D → D → Option Ev
  | .int i, .int j => some (.dat (.bl (decide (i < j))))
  | _, _ => none
def leD : D → D → Option Ev
  | .int i, .int j => some (.dat (.bl (decide (i ≤ j))))
  | _, _ => none
def gtD : D → D → Option Ev
  | .int i, .int j => some (.dat (.bl (decide (j < i))))
  | _, _ => none
def geD : D → D → Option Ev
  | .int i, .int j => some (.dat (.bl (decide (j ≤ i))))
  | _, _ => none
theorem ok_lt : OpOk X (compareOp .Lt) ltD := by
  refine .mk _ op_lt fun mg Z H v u d e ev Q s rv ru h q => ?_
  cases d <;> cases e <;> cases h
  exact ⟨_, _, rv.int, ru.int, q _ _ _ (.refl s) .bl⟩
theorem ok_le : OpOk X (compareOp .LtE) leD := by
  refine .mk _ op_le fun mg Z H v u d e ev Q s rv ru h q => ?_
  cases d <;> cases e <;> cases h
  exact ⟨_, _, rv.int, ru.int, q _ _ _ (.refl s) .bl⟩
theorem ok_gt : OpOk X (compareOp .Gt) gtD := by
  refine .mk _ op_gt fun mg Z H v u d e ev Q s rv ru h q => ?_
  cases d <;> cases e <;> cases h
  exact ⟨_, _, rv.int, ru.int, q _ _ _ (.refl s) .bl⟩
theorem ok_ge : OpOk X (compareOp .GtE) geD := by
  refine .mk _ op_ge fun mg Z H v u d e ev Q s rv ru h q => ?_
  cases d <;> cases e <;> cases h
  exact ⟨_, _, rv.int, ru.int, q _ _ _ (.refl s) .bl⟩
/-- is None -/
def D.isN : D → Bool
  | .non => true
  | _ => false
def isD : D → D → Option Ev
  | d, .non => some (.dat (.bl d.isN))
  | _, _ => none
def isnotD : D → D → Option Ev
  | d, .non => some (.dat (.bl (!d.isN)))
  | _, _ => none
theorem RN.isN {Z H : Hp} {v : V} {d : D} (h : RN Z H v d) : decide (v = .non) = d.isN := by
  rcases h with h | ⟨a, vs, ds, e1, e2, h1, h2⟩
  · cases h <;> simp [D.isN]
  · subst e1 e2; simp [D.isN]
theorem ok_is : OpOk X (compareOp .Is) isD := by
  refine .mk _ op_isN fun mg Z H v u d e ev Q s rv ru h q => ?_
  unfold isD at h
  split at h
  · cases h
    refine ⟨ru.non, ?_⟩
    rw [rv.isN]
    exact q _ _ _ (.refl s) .bl
  · cases h
theorem ok_isnot : OpOk X (compareOp .IsNot) isnotD := by
  refine .mk _ op_notN fun mg Z H v u d e ev Q s rv ru h q => ?_
  unfold isnotD at h
  split at h
  · cases h
    refine ⟨ru.non, ?_⟩
    rw [rv.isN]
    exact q _ _ _ (.refl s) .bl
  · cases h
/-- in a list -/
def inD : D → D → Option Ev
  | d, .lst ds => if (eqOk d && eqOk (.lst ds)) = true then some (.dat (.bl (ds.any fun z => eqB z d))) else none
  | _, _ => none
def notinD : D → D → Option Ev
  | d, .lst ds => if (eqOk d && eqOk (.lst ds)) = true then some (.dat (.bl (!ds.any fun z => eqB z d))) else none
  | _, _ => none
theorem any_pys (d : D) : ∀ ds : List D, ((D.py.pys ds).any fun z => PyData.eqv z d.py) = ds.any fun z => eqB z d
  | [] => rfl
  | x :: xs => by simp only [D.py.pys, List.any_cons, any_pys d xs]; rfl
theorem ok_in (hu : X.A.units + 65 < cLine) : OpOk X (compareOp .In) inD := by
  refine .mk _ (op_inD hu) fun mg Z H v u d e ev Q s rv ru h q => ?_
  unfold inD at h
  split at h
  · split at h
    · rename_i ds hl
      cases h
      simp only [eqOk, Bool.and_eq_true] at hl
      refine ⟨d.py, D.py.pys ds, rv.dp s hl.1.1, by have := ru.dp (K := X.K) s hl.2.1; simpa only [D.py] using this, hl.1.2, by simpa only [D.py] using hl.2.2, ?_⟩
      rw [any_pys]
      exact q _ _ _ (.refl s) .bl
    · cases h
  · cases h
theorem ok_notin (hu : X.A.units + 65 < cLine) : OpOk X (compareOp .NotIn) notinD := by
  refine .mk _ (op_notInD hu) fun mg Z H v u d e ev Q s rv ru h q => ?_
  unfold notinD at h
  split at h
  · split at h
    · rename_i ds hl
      cases h
      simp only [eqOk, Bool.and_eq_true] at hl
      refine ⟨d.py, D.py.pys ds, rv.dp s hl.1.1, by have := ru.dp (K := X.K) s hl.2.1; simpa only [D.py] using this, hl.1.2, by simpa only [D.py] using hl.2.2, ?_⟩
      rw [any_pys]
      exact q _ _ _ (.refl s) .bl
    · cases h
  · cases h
end
end DL
namespace DL
open PySem PySem.Spec PyProof.Rows L2
section
variable {X : Cx} {g : Gx}
abbrev DW (X : Cx) (g : Gx) (pu : Bool) (e : Expr) (m : TM) : Prop := PW X e (tT g pu m)
theorem PW.imp {e : Expr} {t t' : TT} (h : PW X e t) (k : ∀ σ H Q, t' σ H Q → t σ H Q) : PW X e t' := ⟨fun wh pins s σ H Q I q => h.run wh pins s σ H Q I (k σ H Q q)⟩
def tvNot (m : TM) : TM := fun env => (m env).bind fun b e => .ok (!b) e
theorem dt_not {p : Bool} {a : Expr} {m : TM} {pos : Pos} (h : DT X g p a m) : DT X g p (.UnaryOp .Not a pos) (tvNot m) := by
  refine PT.imp (pt_not h) fun σ H Q ⟨Z, env, fps, s, h⟩ => ⟨Z, env, fps, s, ?_⟩
  unfold tvNot at h
  cases e : m env with
  | no => simp [e] at h
  | ex x e1 => simpa [e] using h
  | ok c e1 =>
    simp only [e, Res.bind_ok] at h
    intro b Z' H' fps' s' z k r
    subst r
    exact h (!b) Z' H' fps' s' z k rfl
def tvAnd (a b : TM) : TM := fun env => (a env).bind fun c e1 => if c = true then b e1 else .ok false e1
def tvOr (a b : TM) : TM := fun env => (a env).bind fun c e1 => if c = true then .ok true e1 else b e1
theorem and_run {p q : Bool} {ma mb : TM} {σ : L2.St} {H : Hp} {Q : Bool → Hp → Prop} (h : tT g (p && q) (tvAnd ma mb) σ H Q) : tAnd (tT g p ma) (tT g q mb) σ H Q := by
  obtain ⟨Z, env, fps, s, h⟩ := h
  refine ⟨Z, env, fps, s, ?_⟩
  unfold tvAnd at h
  cases e : ma env with
  | no => simp [e] at h
  | ex x e1 => simpa [e] using h
  | ok c e1 =>
    intro b Z1 H1 fps1 s1 z1 k1 r1
    subst r1
    cases b with
    | false =>
      simp only [e, Res.bind_ok, Bool.false_eq_true, if_false] at h ⊢
      exact h false Z1 H1 fps1 s1 z1 (fun hp => k1 (by simp at hp; exact hp.1)) rfl
    | true =>
      simp only [e, Res.bind_ok, if_true] at h ⊢
      refine ⟨Z1, e1, fps1, s1, ?_⟩
      cases e2 : mb e1 with
      | no => simp [e2] at h
      | ex x e3 =>
        rw [e2] at h
        exact fun cls d Z2 H2 fps2 s2 z2 xr => h cls d Z2 H2 fps2 s2 (z1.trans z2) xr
      | ok c2 e3 =>
        rw [e2] at h
        refine fun b Z2 H2 fps2 s2 z2 k2 r2 => h b Z2 H2 fps2 s2 (z1.trans z2) (fun hp => ?_) r2
        simp only [Bool.and_eq_true] at hp
        obtain ⟨a1, a2, a3⟩ := k1 hp.1
        obtain ⟨b1, b2, b3⟩ := k2 hp.2
        exact ⟨b1.trans a1, b2.trans a2, a3.trans b3⟩
theorem or_run {p q : Bool} {ma mb : TM} {σ : L2.St} {H : Hp} {Q : Bool → Hp → Prop} (h : tT g (p && q) (tvOr ma mb) σ H Q) : tOr (tT g p ma) (tT g q mb) σ H Q := by
  obtain ⟨Z, env, fps, s, h⟩ := h
  refine ⟨Z, env, fps, s, ?_⟩
  unfold tvOr at h
  cases e : ma env with
  | no => simp [e] at h
  | ex x e1 => simpa [e] using h
  | ok c e1 =>
    intro b Z1 H1 fps1 s1 z1 k1 r1
    subst r1
    cases b with
    | true =>
      simp only [e, Res.bind_ok, if_true] at h ⊢
      exact h true Z1 H1 fps1 s1 z1 (fun hp => k1 (by simp at hp; exact hp.1)) rfl
    | false =>
      simp only [e, Res.bind_ok, Bool.false_eq_true, if_false] at h ⊢
      refine ⟨Z1, e1, fps1, s1, ?_⟩
      cases e2 : mb e1 with
      | no => simp [e2] at h
      | ex x e3 =>
        rw [e2] at h
        exact fun cls d Z2 H2 fps2 s2 z2 xr => h cls d Z2 H2 fps2 s2 (z1.trans z2) xr
      | ok c2 e3 =>
        rw [e2] at h
        refine fun b Z2 H2 fps2 s2 z2 k2 r2 => h b Z2 H2 fps2 s2 (z1.trans z2) (fun hp => ?_) r2
        simp only [Bool.and_eq_true] at hp
        obtain ⟨a1, a2, a3⟩ := k1 hp.1
        obtain ⟨b1, b2, b3⟩ := k2 hp.2
        exact ⟨b1.trans a1, b2.trans a2, a3.trans b3⟩
theorem dw_and1 {p : Bool} {a : Expr} {m : TM} {pos : Pos} (h : DT X g p a m) : DW X g p (.BoolOp .And [a] pos) m := pw_and1 h
theorem dw_or1 {p : Bool} {a : Expr} {m : TM} {pos : Pos} (h : DT X g p a m) : DW X g p (.BoolOp .Or [a] pos) m := pw_or1 h
theorem dw_and {p q : Bool} {a b : Expr} {rest : List Expr} {ma mb : TM} {pos : Pos} (ha : DT X g p a ma) (hb : DW X g q (.BoolOp .And (b :: rest) pos) mb) : DW X g (p && q) (.BoolOp .And (a :: b :: rest) pos) (tvAnd ma mb) := PW.imp (pw_and ha hb) fun σ H Q h => and_run h
theorem dw_or {p q : Bool} {a b : Expr} {rest : List Expr} {ma mb : TM} {pos : Pos} (ha : DT X g p a ma) (hb : DW X g q (.BoolOp .Or (b :: rest) pos) mb) : DW X g (p && q) (.BoolOp .Or (a :: b :: rest) pos) (tvOr ma mb) := PW.imp (pw_or ha hb) fun σ H Q h => or_run h
theorem dt_w {p : Bool} {e : Expr} {m : TM} (h : DW X g p e m) : DT X g p e m := h.pt
theorem tR_mono {α β : Type} {p : Bool} {rel : Hp → Hp → L2.St → (Nat → List Addr) → β → α → Prop} {m : Ve → Res α} {σ : L2.St} {H : Hp} {Q Q' : β → Hp → Prop} (h : tR g p rel m σ H Q) (k : ∀ b H', Q b H' → Q' b H') : tR g p rel m σ H Q' := by
  obtain ⟨Z, env, fps, s, h⟩ := h
  refine ⟨Z, env, fps, s, ?_⟩
  cases e : m env with
  | no => rw [e] at h; exact h
  | ex x e1 => rw [e] at h; exact h
  | ok c e1 =>
    rw [e] at h
    exact fun b Z1 H1 fps1 s1 z1 k1 r1 => k _ _ (h b Z1 H1 fps1 s1 z1 k1 r1)
/-! as values -/
def evT (m : TM) : EM := fun env => (m env).bind fun b e => .ok (.dat (.bl b)) e
theorem evT_run {p : Bool} {m : TM} {σ : L2.St} {H : Hp} {Q : VK} (h : tE g p (evT m) σ H Q) : tT g p m σ H fun b H' => Q (.bl b) H' := by
  obtain ⟨Z, env, fps, s, h⟩ := h
  refine ⟨Z, env, fps, s, ?_⟩
  unfold evT at h
  cases e : m env with
  | no => simp [e] at h
  | ex x e1 => simpa [e] using h
  | ok c e1 =>
    simp only [e, Res.bind_ok] at h
    intro b Z1 H1 fps1 s1 z1 k1 r1
    subst r1
    exact h (.bl b) Z1 H1 fps1 s1 z1 k1 .bl
/-- a value that is a bool: as a test -/
theorem tvB_of {p : Bool} {m : EM} {σ : L2.St} {H : Hp} {Q : Bool → Hp → Prop} (h : tT g p (tvB m) σ H Q) : tE g p m σ H fun x H' => ∃ k, x = .bl k ∧ Q k H' := tv_run h
theorem de_one {p : Bool} {op : BoolOp} {a : Expr} {m : EM} {pos : Pos} (h : DE X g p a m) : DE X g p (.BoolOp op [a] pos) m := pe_one h
def evAnd (a b : EM) : EM := fun env => (tvB a env).bind fun c e1 => if c = true then b e1 else .ok (.dat (.bl false)) e1
def evOr (a b : EM) : EM := fun env => (tvB a env).bind fun c e1 => if c = true then .ok (.dat (.bl true)) e1 else b e1
theorem ite_run {p q : Bool} {mc : TM} {ma mb : EM} {σ : L2.St} {H : Hp} {Q : VK} {q2 : Bool} (h : tE g (p && q && q2) (fun env => (mc env).bind fun c e1 => if c = true then ma e1 else mb e1) σ H Q) :
    tT g p mc σ H fun c H1 => if c = true then tE g q ma σ H1 Q else tE g q2 mb σ H1 Q := by
  obtain ⟨Z, env, fps, s, h⟩ := h
  refine ⟨Z, env, fps, s, ?_⟩
  cases e : mc env with
  | no => simp [e] at h
  | ex x e1 => simpa [e] using h
  | ok c e1 =>
    intro b Z1 H1 fps1 s1 z1 k1 r1
    subst r1
    simp only [e, Res.bind_ok] at h
    have go : ∀ {q' : Bool} {m : EM}, ((p && q && q2) = true → p = true ∧ q' = true) → Post g (p && q && q2) (EvR g) Z env σ H fps Q (m e1) → tE g q' m σ H1 Q := fun {q' m} hq h => by
      refine ⟨Z1, e1, fps1, s1, ?_⟩
      cases e2 : m e1 with
      | no => simp [e2] at h
      | ex x e3 =>
        rw [e2] at h
        exact fun cls d Z2 H2 fps2 s2 z2 xr => h cls d Z2 H2 fps2 s2 (z1.trans z2) xr
      | ok c2 e3 =>
        rw [e2] at h
        refine fun b Z2 H2 fps2 s2 z2 k2 r2 => h b Z2 H2 fps2 s2 (z1.trans z2) (fun hp => ?_) r2
        obtain ⟨a1, a2, a3⟩ := k1 (hq hp).1
        obtain ⟨b1, b2, b3⟩ := k2 (hq hp).2
        exact ⟨b1.trans a1, b2.trans a2, a3.trans b3⟩
    cases b with
    | true =>
      simp only [if_true] at h ⊢
      exact go (fun hp => by simp at hp; exact hp.1) h
    | false =>
      simp only [Bool.false_eq_true, if_false] at h ⊢
      exact go (fun hp => by simp at hp; exact ⟨hp.1.1, hp.2⟩) h
theorem lit_run {q : Bool} {d : D} {v : V} {σ : L2.St} {H : Hp} {Q : VK} (r : ∀ Z, RD Z v d) (h : tE g q (eD d) σ H Q) : Q v H := by
  obtain ⟨Z, env, fps, s, h⟩ := h
  exact h v Z H fps s (.refl _) (fun _ => ⟨rfl, rfl, .refl _⟩) (r _)
theorem de_and {p q : Bool} {a b : Expr} {rest : List Expr} {ma mb : EM} {pos : Pos} (ha : DE X g p a ma) (hb : DE X g q (.BoolOp .And (b :: rest) pos) mb) : DE X g (p && q) (.BoolOp .And (a :: b :: rest) pos) (evAnd ma mb) := by
  refine PE.imp (pe_and ha hb) fun σ H Q h => ?_
  have h1 : tE g (p && q && true) (fun env => (tvB ma env).bind fun c e1 => if c = true then mb e1 else eD (.bl false) e1) σ H Q := by rw [Bool.and_true]; exact h
  refine tR_mono (tv_run (ite_run h1)) fun b H' ⟨c, e, q⟩ => ⟨c, e, ?_⟩
  cases c with
  | true => exact q
  | false => exact lit_run (fun _ => RD.bl) q
theorem de_or {p q : Bool} {a b : Expr} {rest : List Expr} {ma mb : EM} {pos : Pos} (ha : DE X g p a ma) (hb : DE X g q (.BoolOp .Or (b :: rest) pos) mb) : DE X g (p && q) (.BoolOp .Or (a :: b :: rest) pos) (evOr ma mb) := by
  refine PE.imp (pe_or ha hb) fun σ H Q h => ?_
  have h1 : tE g (p && true && q) (fun env => (tvB ma env).bind fun c e1 => if c = true then eD (.bl true) e1 else mb e1) σ H Q := by rw [Bool.and_true]; exact h
  refine tR_mono (tv_run (ite_run h1)) fun b H' ⟨c, e, q⟩ => ⟨c, e, ?_⟩
  cases c with
  | false => exact q
  | true => exact lit_run (fun _ => RD.bl) q
def evNot (m : EM) : EM := fun env => (tvB m env).bind fun b e => .ok (.dat (.bl (!b))) e
theorem de_not {p : Bool} {a : Expr} {m : EM} {pos : Pos} (h : DE X g p a m) : DE X g p (.UnaryOp .Not a pos) (evNot m) := by
  refine PE.imp (pe_not h) fun σ H Q h => ?_
  have h1 : tT g p (tvB m) σ H fun b H' => Q (.bl (!b)) H' := by
    obtain ⟨Z, env, fps, s, h⟩ := h
    refine ⟨Z, env, fps, s, ?_⟩
    unfold evNot at h
    cases e : tvB m env with
    | no => simp [e] at h
    | ex x e1 => simpa [e] using h
    | ok c e1 =>
      simp only [e, Res.bind_ok] at h
      intro b Z1 H1 fps1 s1 z1 k1 r1
      subst r1
      exact h _ Z1 H1 fps1 s1 z1 k1 .bl
  exact tv_run h1
def evIf (c : TM) (a b : EM) : EM := fun env => (c env).bind fun x e1 => if x = true then a e1 else b e1
theorem de_if {p q q2 : Bool} {c a b : Expr} {mc : TM} {ma mb : EM} {pos : Pos} (hc : DT X g p c mc) (ha : DE X g q a ma) (hb : DE X g q2 b mb) : DE X g (p && q && q2) (.IfExp c a b pos) (evIf mc ma mb) :=
  PE.imp (pe_ifExp hc ha hb) fun σ H Q h => ite_run h
/-! one operand -/
def UnOk (X : Cx) (f : Value → Sem Value) (op : D → Option Ev) : Prop :=
  ∃ r, UnR X f r ∧ ∀ mg Z H v d ev Q, Same Z H → RN Z H v d → op d = some ev → (∀ v' Z' H', Fresh Z H Z' H' → NewR mg H Z' H' v' ev → Q v' H') → r v H Q
def eOp1 (op : D → Option Ev) (a : EM) : EM := fun env => (hold true (a env)).bind fun x e1 => match peek e1 x with
  | some d => match op d with
    | some ev => .ok ev e1
    | none => .no
  | none => .no
theorem op1_run {p : Bool} {op : D → Option Ev} {ma : EM} {r : V → Hp → VK → Prop} (hr : ∀ mg Z H v d ev Q, Same Z H → RN Z H v d → op d = some ev → (∀ v' Z' H', Fresh Z H Z' H' → NewR mg H Z' H' v' ev → Q v' H') → r v H Q)
    {σ : L2.St} {H : Hp} {Q : VK} (h : tE g p (eOp1 op ma) σ H Q) : tE g p ma σ H fun v H' => r v H' Q := by
  obtain ⟨Z, env, fps, s, h⟩ := h
  refine hold_run (q := true) s (fun x e1 he v Z1 H1 fps1 s1 z1 k1 r1 => ?_) (fun x e1 he => ?_) (fun he => ?_)
  · simp only [eOp1, he, Res.bind_ok] at h
    cases h1 : peek e1 x with
    | none => simp [h1] at h
    | some d =>
      cases h3 : op d with
      | none => simp [h1, h3] at h
      | some ev =>
        simp only [h1, h3] at h
        refine hr g.mg Z1 H1 v d ev Q s1.sub (peek_ok s1 r1 h1) h3 fun v' Z' H' f nr => ?_
        refine h v' Z' H' fps1 (s1.fresh f) (z1.trans f.z) (fun hp => ?_) (nr.ev s1)
        obtain ⟨a1, a2, a3⟩ := k1 hp
        exact ⟨a1, a2, a3.trans f.h⟩
  · simp only [eOp1, he, Res.bind_ex] at h
    exact h
  · simp only [eOp1, he, Res.bind_no, Post_no] at h
theorem de_un {op : UnaryOp} {f : D → Option Ev} {p : Bool} {a : Expr} {ma : EM} {pos : Pos} (ho : UnOk X (unaryOp op) f) (ha : DE X g p a ma) : DE X g p (.UnaryOp op a pos) (eOp1 f ma) := by
  obtain ⟨r, h1, h2⟩ := ho
  exact PE.imp (pe_un h1 ha) fun σ H Q h => op1_run h2 h
def negD : D → Option Ev
  | .int i => some (.dat (.int (-i)))
  | _ => none
theorem ok_neg : UnOk X (unaryOp .USub) negD := by
  refine ⟨_, un_neg, fun mg Z H v d ev Q s rv h q => ?_⟩
  cases d <;> cases h
  exact ⟨_, rv.int, q _ _ _ (.refl s) .int⟩
/-! chains a < b < c -/
def evChain (q q2 : Bool) (f f' : D → D → Option Ev) (a b c : EM) : EM := fun env => (hold q (a env)).bind fun x e1 => (hold q2 (b e1)).bind fun y e2 =>
  match peek e2 x, peek e2 y with
  | some d, some u => match f d u with
    | some (.dat (.bl k)) => if k = true then (hold true (c e2)).bind fun z e3 => match peek e3 y, peek e3 z with
        | some u', some w => match f' u' w with
          | some ev => .ok ev e3
          | none => .no
        | _, _ => .no
      else .ok (.dat (.bl false)) e2
    | _ => .no
  | _, _ => .no
theorem chain_run {p q q2 : Bool} {f f' : D → D → Option Ev} {ma mb mc : EM} {r r' : R2}
    (hr : ∀ mg Z H v u d e ev Q, Same Z H → RN Z H v d → RN Z H u e → f d e = some ev → (∀ v' Z' H', Fresh Z H Z' H' → NewR mg H Z' H' v' ev → Q v' H') → r v u H Q)
    (hr' : ∀ mg Z H v u d e ev Q, Same Z H → RN Z H v d → RN Z H u e → f' d e = some ev → (∀ v' Z' H', Fresh Z H Z' H' → NewR mg H Z' H' v' ev → Q v' H') → r' v u H Q)
    {σ : L2.St} {H : Hp} {Q : VK} (h : tE g (p && q && q2) (evChain (q && q2) q2 f f' ma mb mc) σ H Q) : tChain r r' (tE g p ma) (tE g q mb) (tE g q2 mc) σ H Q := by
  obtain ⟨Z, env, fps, s, h⟩ := h
  refine hold_run (q := q && q2) s (fun x e1 he v Z1 H1 fps1 s1 z1 k1 r1 => ?_) (fun x e1 he => ?_) (fun he => ?_)
  · refine hold_run (q := q2) s1 (fun y e2 he2 u Z2 H2 fps2 s2 z2 k2 r2 => ?_) (fun y e2 he2 => ?_) (fun he2 => ?_)
    · simp only [evChain, he, he2, Res.bind_ok] at h
      have r1' := r1.later z2 fun hq => (k2 (by simp at hq; exact hq.1)).2.2
      cases h1 : peek e2 x with
      | none => simp [h1] at h
      | some d =>
        cases h2 : peek e2 y with
        | none => simp [h1, h2] at h
        | some d2 =>
          cases h3 : f d d2 with
          | none => simp [h1, h2, h3] at h
          | some ev =>
            simp only [h1, h2, h3] at h
            refine hr g.mg Z2 H2 v u d d2 ev _ s2.sub (peek_ok s2 r1' h1) (peek_ok s2 r2 h2) h3 fun v' Z' H' fr nr => ?_
            cases ev with
            | new t => exact h.elim
            | pl j pp => exact h.elim
            | dat d3 =>
              cases d3 with
              | bl k =>
                cases nr
                have s3 := s2.fresh fr
                refine ⟨k, rfl, ?_⟩
                cases k with
                | false =>
                  simp only [Bool.false_eq_true, if_false] at h ⊢
                  refine h (.bl false) Z' H' fps2 s3 ((z1.trans z2).trans fr.z) (fun hp => ?_) .bl
                  simp only [Bool.and_eq_true] at hp
                  obtain ⟨a1, a2, a3⟩ := k1 hp.1.1
                  obtain ⟨b1, b2, b3⟩ := k2 hp.1.2
                  exact ⟨b1.trans a1, b2.trans a2, (a3.trans b3).trans fr.h⟩
                | true =>
                  simp only [if_true] at h ⊢
                  have r2' := r2.later fr.z fun _ => fr.h
                  refine hold_run (q := true) s3 (fun z e3 he3 w Z3 H3 fps3 s4 z3 k3 r3 => ?_) (fun z e3 he3 => ?_) (fun he3 => ?_)
                  · simp only [he3, Res.bind_ok] at h
                    have r2'' := r2'.later z3 fun hq => (k3 hq).2.2
                    cases h4 : peek e3 y with
                    | none => simp [h4] at h
                    | some d4 =>
                      cases h5 : peek e3 z with
                      | none => simp [h4, h5] at h
                      | some d5 =>
                        cases h6 : f' d4 d5 with
                        | none => simp [h4, h5, h6] at h
                        | some ev2 =>
                          simp only [h4, h5, h6] at h
                          refine hr' g.mg Z3 H3 u w d4 d5 ev2 Q s4.sub (peek_ok s4 r2'' h4) (peek_ok s4 r3 h5) h6 fun v'' Z4 H4 fr2 nr2 => ?_
                          refine h v'' Z4 H4 fps3 (s4.fresh fr2) (((((z1.trans z2).trans fr.z).trans z3).trans fr2.z)) (fun hp => ?_) (nr2.ev s4)
                          simp only [Bool.and_eq_true] at hp
                          obtain ⟨a1, a2, a3⟩ := k1 hp.1.1
                          obtain ⟨b1, b2, b3⟩ := k2 hp.1.2
                          obtain ⟨c1, c2, c3⟩ := k3 hp.2
                          exact ⟨c1.trans (b1.trans a1), c2.trans (b2.trans a2), (((a3.trans b3).trans fr.h).trans c3).trans fr2.h⟩
                  · simp only [he3, Res.bind_ex] at h
                    exact fun cls dd Z3 H3 fps3 s4 z3 xr => h cls dd Z3 H3 fps3 s4 (((z1.trans z2).trans fr.z).trans z3) xr
                  · simp only [he3, Res.bind_no, Post_no] at h
              | _ => exact h.elim
    · simp only [evChain, he, he2, Res.bind_ok, Res.bind_ex] at h
      exact fun cls dd Z2 H2 fps2 s2 z2 xr => h cls dd Z2 H2 fps2 s2 (z1.trans z2) xr
    · simp only [evChain, he, he2, Res.bind_ok, Res.bind_no, Post_no] at h
  · simp only [evChain, he, Res.bind_ex] at h
    exact h
  · simp only [evChain, he, Res.bind_no, Post_no] at h
theorem de_chain {op op' : CmpOp} {f f' : D → D → Option Ev} {p q q2 : Bool} {a b c : Expr} {ma mb mc : EM} {pos : Pos} (ho : OpOk X (compareOp op) f) (ho' : OpOk X (compareOp op') f') (ha : DE X g p a ma) (hb : DE X g q b mb) (hc : DE X g q2 c mc)
    (hm : lastMarks [op, op'] [b, c] = false := by with_unfolding_all rfl) : DE X g (p && q && q2) (.Compare a [op, op'] [b, c] pos) (evChain (q && q2) q2 f f' ma mb mc) := by
  obtain ⟨r, h1, h2⟩ := ho
  obtain ⟨r', h1', h2'⟩ := ho'
  exact PE.imp (pe_chain h1 h1' ha hb hc hm) fun σ H Q h => chain_run h2 h2' h
theorem dt_chain {op op' : CmpOp} {f f' : D → D → Option Ev} {p q q2 : Bool} {a b c : Expr} {ma mb mc : EM} {pos : Pos} (ho : OpOk X (compareOp op) f) (ho' : OpOk X (compareOp op') f') (ha : DE X g p a ma) (hb : DE X g q b mb) (hc : DE X g q2 c mc)
    (hm : lastMarks [op, op'] [b, c] = false := by with_unfolding_all rfl) : DT X g (p && q && q2) (.Compare a [op, op'] [b, c] pos) (tvB (evChain (q && q2) q2 f f' ma mb mc)) := by
  obtain ⟨r, h1, h2⟩ := ho
  obtain ⟨r', h1', h2'⟩ := ho'
  refine PT.imp (pt_chain h1 h1' ha hb hc hm) fun σ H Q h => ?_
  exact chain_run h2 h2' (tv_run h)
end
end DL
namespace DL
open PySem PySem.Spec PyProof.Rows L2
section
variable {X : Cx} {g : Gx}
/-! ### argument lists -/
inductive HvRs (Z H : Hp) (σ : L2.St) : List V → List Ev → Prop
  | nil : HvRs Z H σ [] []
  | cons {v : V} {x : Ev} {vs : List V} {xs : List Ev} : HvR true Z H σ v x → HvRs Z H σ vs xs → HvRs Z H σ (v :: vs) (x :: xs)
abbrev tA (g : Gx) (pu : Bool) (m : AM) : TA := tR g pu (fun Z' H' σ _ vs xs => HvRs Z' H' σ vs xs) m
abbrev DA (X : Cx) (g : Gx) (pu : Bool) (es : List Expr) (m : AM) : Prop := PA X es (tA g pu m)
theorem PA.imp {e : List Expr} {t t' : TA} (h : PA X e t) (k : ∀ σ H Q, t' σ H Q → t σ H Q) : PA X e t' := ⟨fun ps pins s σ H Q I q => h.run ps pins s σ H Q I (k σ H Q q)⟩
theorem HvR.last {q : Bool} {Z H : Hp} {σ : L2.St} {v : V} {x : Ev} (h : HvR q Z H σ v x) : HvR true Z H σ v x := by
  cases x with
  | dat d => exact h
  | pl j p => exact ⟨.inr rfl, h.2⟩
  | new t => exact h
theorem HvRs.length {Z H : Hp} {σ : L2.St} : ∀ {vs : List V} {xs : List Ev}, HvRs Z H σ vs xs → vs.length = xs.length
  | _, _, .nil => rfl
  | _, _, .cons _ r => congrArg Nat.succ r.length
def aNil : AM := fun env => .ok [] env
def aCons (q : Bool) (m : EM) (r : AM) : AM := fun env => (hold q (m env)).bind fun x e1 => (r e1).bind fun xs e2 => .ok (x :: xs) e2
theorem da_nil : DA X g true [] aNil := PA.imp pa_nil fun σ H Q ⟨Z, env, fps, s, h⟩ => h [] Z H fps s (.refl _) (fun _ => ⟨rfl, rfl, .refl _⟩) .nil
theorem cons_run {p q : Bool} {me : EM} {mr : AM} {σ : L2.St} {H : Hp} {Q : List V → Hp → Prop} (h : tA g (p && q) (aCons q me mr) σ H Q) : tCons (tE g p me) (tA g q mr) σ H Q := by
  obtain ⟨Z, env, fps, s, h⟩ := h
  refine hold_run (q := q) s (fun x e1 he v Z1 H1 fps1 s1 z1 k1 r1 => ?_) (fun x e1 he => ?_) (fun he => ?_)
  · refine ⟨Z1, e1, fps1, s1, ?_⟩
    simp only [aCons, he, Res.bind_ok] at h
    cases e2 : mr e1 with
    | no => simp [e2] at h
    | ex x2 e3 =>
      rw [e2] at h
      exact fun cls d Z2 H2 fps2 s2 z2 xr => h cls d Z2 H2 fps2 s2 (z1.trans z2) xr
    | ok xs e3 =>
      simp only [e2, Res.bind_ok] at h
      refine fun vs Z2 H2 fps2 s2 z2 k2 r2 => h (v :: vs) Z2 H2 fps2 s2 (z1.trans z2) (fun hp => ?_) (.cons (r1.later z2 fun hq => (k2 hq).2.2).last r2)
      simp only [Bool.and_eq_true] at hp
      obtain ⟨a1, a2, a3⟩ := k1 hp.1
      obtain ⟨b1, b2, b3⟩ := k2 hp.2
      exact ⟨b1.trans a1, b2.trans a2, a3.trans b3⟩
  · simp only [aCons, he, Res.bind_ex] at h
    exact h
  · simp only [aCons, he, Res.bind_no, Post_no] at h
theorem da_cons {p q : Bool} {e : Expr} {es : List Expr} {me : EM} {mr : AM} (h : DE X g p e me) (hr : DA X g q es mr) (hs : starEach (e :: es) X.env = (false, eval e X.env) :: starEach es X.env := by rfl) : DA X g (p && q) (e :: es) (aCons q me mr) :=
  PA.imp (pa_cons h hr hs) fun σ H Q h => cons_run h
def peeks (env : Ve) : List Ev → Option (List D)
  | [] => some []
  | x :: xs => match peek env x, peeks env xs with
    | some d, some ds => some (d :: ds)
    | _, _ => none
inductive RNs (Z H : Hp) : List V → List D → Prop
  | nil : RNs Z H [] []
  | cons {v : V} {d : D} {vs : List V} {ds : List D} : RN Z H v d → RNs Z H vs ds → RNs Z H (v :: vs) (d :: ds)
theorem RNs.length {Z H : Hp} : ∀ {vs : List V} {ds : List D}, RNs Z H vs ds → vs.length = ds.length
  | _, _, .nil => rfl
  | _, _, .cons _ r => congrArg Nat.succ r.length
theorem peeks_ok {Z H : Hp} {env : Ve} {σ : L2.St} {fps : Nat → List Addr} (s : StR g Z env σ H fps) : ∀ {vs : List V} {xs : List Ev} {ds : List D}, HvRs Z H σ vs xs → peeks env xs = some ds → RNs Z H vs ds
  | _, _, _, .nil, e => by cases e; exact .nil
  | _, _, ds, .cons (x := x) (xs := xs) h r, e => by
    unfold peeks at e
    cases h1 : peek env x with
    | none => simp [h1] at e
    | some d =>
      cases h2 : peeks env xs with
      | none => simp [h1, h2] at e
      | some ds' =>
        simp only [h1, h2, Option.some.injEq] at e
        subst e
        exact .cons (peek_ok s h h1) (peeks_ok s r h2)
/-- data only -/
def dats : List Ev → Option (List D)
  | [] => some []
  | .dat d :: xs => match dats xs with
    | some ds => some (d :: ds)
    | none => none
  | _ :: _ => none
theorem dats_ok {Z H : Hp} {σ : L2.St} : ∀ {vs : List V} {xs : List Ev} {ds : List D}, HvRs Z H σ vs xs → dats xs = some ds → RDs Z vs ds
  | _, _, _, .nil, e => by cases e; exact .nil
  | _, _, ds, .cons (x := x) (xs := xs) h r, e => by
    cases x with
    | dat d =>
      unfold dats at e
      cases h2 : dats xs with
      | none => simp [h2] at e
      | some ds' =>
        simp only [h2, Option.some.injEq] at e
        subst e
        exact .cons h (dats_ok r h2)
    | _ => cases e
/-! ### displays -/
def eTup (m : AM) : EM := fun env => (m env).bind fun xs e1 => match dats xs with
  | some ds => if ds.length ≤ lim then .ok (.dat (.tup ds)) e1 else .no
  | none => .no
def eLst (m : AM) : EM := fun env => (m env).bind fun xs e1 => match dats xs with
  | some ds => if ds.length ≤ lim then .ok (.new (.lst ds)) e1 else .no
  | none => .no
theorem de_tup {p : Bool} {es : List Expr} {m : AM} {k pos} (h : DA X g p es m) : DE X g p (.Tuple es k pos) (eTup m) := by
  refine PE.imp (pe_tup h) fun σ H Q ⟨Z, env, fps, s, h⟩ => ⟨Z, env, fps, s, ?_⟩
  unfold eTup at h
  cases e : m env with
  | no => simp [e] at h
  | ex x e1 => simpa [e] using h
  | ok xs e1 =>
    simp only [e, Res.bind_ok] at h
    intro vs Z1 H1 fps1 s1 z1 k1 r1
    cases h1 : dats xs with
    | none => simp [h1] at h
    | some ds =>
      simp only [h1] at h
      split at h
      · rename_i hl
        have rd := dats_ok r1 h1
        refine ⟨lim_eq (by rw [rd.length]; exact hl), fun a ha => ?_⟩
        have f := Fresh.newZ (o := .tup vs) s1.sub ha
        refine h (.ref a) _ _ fps1 (s1.fresh f) (z1.trans f.z) (fun hp => ?_) (NewR.tup (mg := g.mg) s1.sub ha rd)
        obtain ⟨a1, a2, a3⟩ := k1 hp
        exact ⟨a1, a2, a3.trans f.h⟩
      · exact h.elim
theorem de_lst {p : Bool} {es : List Expr} {m : AM} {pos} (h : DA X g p es m) : DE X g p (.List es pos) (eLst m) := by
  refine PE.imp (pe_lst h) fun σ H Q ⟨Z, env, fps, s, h⟩ => ⟨Z, env, fps, s, ?_⟩
  unfold eLst at h
  cases e : m env with
  | no => simp [e] at h
  | ex x e1 => simpa [e] using h
  | ok xs e1 =>
    simp only [e, Res.bind_ok] at h
    intro vs Z1 H1 fps1 s1 z1 k1 r1
    cases h1 : dats xs with
    | none => simp [h1] at h
    | some ds =>
      simp only [h1] at h
      split at h
      · rename_i hl
        have rd := dats_ok r1 h1
        refine ⟨lim_eq (by rw [rd.length]; exact hl), fun a ha => ?_⟩
        have f := Fresh.new (o := .lst vs) s1.sub ha
        have s2 := s1.fresh f
        refine h (.ref a) _ _ fps1 s2 z1 (fun hp => ?_) ((NewR.lst (mg := g.mg) s1.sub ha rd).ev s1)
        obtain ⟨a1, a2, a3⟩ := k1 hp
        exact ⟨a1, a2, a3.trans f.h⟩
      · exact h.elim
/-! ### subscripts -/
def ixD : D → D → Option Ev
  | .lst xs, .int i => (atI xs i).map Ev.dat
  | .tup xs, .int i => (atI xs i).map Ev.dat
  | .str z, .int i => if z.length ≤ lim then (atI z.cps.toList i).map fun c => Ev.dat (.str ⟨#[c]⟩) else none
  | _, _ => none
theorem RDs.atI {Z : Hp} {vs : List V} {ds : List D} {i : Int} {d : D} (r : RDs Z vs ds) (h : L2.atI ds i = some d) : ∃ v, L2.atI vs i = some v ∧ RD Z v d := by
  unfold L2.atI at h ⊢
  rw [r.length]
  cases q : ixN ds.length i with
  | none => rw [q] at h; cases h
  | some j =>
    rw [q] at h
    exact r.getd (i := j) h
theorem de_ix {p q : Bool} {a b : Expr} {ma mb : EM} {pos : Pos} (ha : DE X g p a ma) (hb : DE X g q b mb) (hs : PlainIx b := by exact (fun _ _ => rfl)) : DE X g (p && q) (.Subscript a b pos) (eOp2 q ixD ma mb) := by
  refine PE.imp (pe_ix ix_seq ha hb hs) fun σ H Q h => op2_run (fun mg Z H v u d e ev Q s rv ru h q => ?_) h
  cases d with
  | lst xs =>
    cases e with
    | int i =>
      simp only [ixD, Option.map_eq_some_iff] at h
      obtain ⟨d, h1, rfl⟩ := h
      obtain ⟨a, vs, rfl, h2, r2⟩ := rv.lst s
      obtain ⟨w, h3, r3⟩ := r2.atI h1
      exact .inl ⟨a, vs, i, w, rfl, ru.int, .of h2, h3, q _ _ _ (.refl s) r3⟩
    | _ => cases h
  | tup xs =>
    cases e with
    | int i =>
      simp only [ixD, Option.map_eq_some_iff] at h
      obtain ⟨d, h1, rfl⟩ := h
      obtain ⟨a, vs, rfl, h2, r2⟩ := rv.tup s
      obtain ⟨w, h3, r3⟩ := r2.atI h1
      exact .inr (.inl ⟨a, vs, i, w, rfl, ru.int, .of h2, h3, q _ _ _ (.refl s) r3⟩)
    | _ => cases h
  | str z =>
    cases e with
    | int i =>
      simp only [ixD] at h
      split at h
      · rename_i hl
        simp only [Option.map_eq_some_iff] at h
        obtain ⟨c, h1, rfl⟩ := h
        exact .inr (.inr ⟨z, i, c, rv.str, ru.int, lim_eq hl, h1, q _ _ _ (.refl s) .str⟩)
      · cases h
    | _ => cases h
  | _ => cases h
/-! slices -/
abbrev OM := Ve → Res (Option Int)
abbrev DO (X : Cx) (g : Gx) (pu : Bool) (e : Option Expr) (m : OM) : Prop := PO X e (tR g pu (fun _ _ _ _ (o o' : Option Int) => o = o') m)
def oNone : OM := fun env => .ok none env
def oSome (m : EM) : OM := fun env => match m env with
  | .ok (.dat (.int i)) e => .ok (some i) e
  | .ex x e => .ex x e
  | _ => .no
theorem PO.imp {e : Option Expr} {t t' : TO} (h : PO X e t) (k : ∀ σ H Q, t' σ H Q → t σ H Q) : PO X e t' := ⟨fun pins s σ H Q I q => h.run pins s σ H Q I (k σ H Q q)⟩
theorem do_none : DO X g true none oNone := PO.imp po_none fun σ H Q ⟨Z, env, fps, s, h⟩ => h none Z H fps s (.refl _) (fun _ => ⟨rfl, rfl, .refl _⟩) rfl
theorem do_some {p : Bool} {e : Expr} {m : EM} (h : DE X g p e m) : DO X g p (some e) (oSome m) := by
  refine PO.imp (po_some h) fun σ H Q ⟨Z, env, fps, s, h⟩ => ⟨Z, env, fps, s, ?_⟩
  unfold oSome at h
  cases e : m env with
  | no => simp [e] at h
  | ex x e1 => simpa [e] using h
  | ok x e1 =>
    intro v Z1 H1 fps1 s1 z1 k1 r1
    cases x with
    | dat d =>
      cases d with
      | int i => simp only [e] at h; cases r1; exact ⟨i, rfl, h (some i) Z1 H1 fps1 s1 z1 k1 rfl⟩
      | _ => simp [e] at h
    | _ => simp [e] at h
def cut {α : Type} (xs : List α) (lo hi : Option Int) : List α := (xs.drop (HT.sIx xs.length 0 lo)).take (HT.sIx xs.length xs.length hi - HT.sIx xs.length 0 lo)
theorem RDs.cut {Z : Hp} {vs : List V} {ds : List D} (r : RDs Z vs ds) (lo hi : Option Int) : RDs Z (cutV vs lo hi) (DL.cut ds lo hi) := by
  unfold cutV DL.cut
  rw [r.length]
  exact (r.drop _).take _
/-- a list's slice: new; the slice of a tuple that is not the whole -/
def slD : D → Option Int → Option Int → Option Ev
  | .lst xs, lo, hi => some (.new (.lst (cut xs lo hi)))
  | .tup xs, lo, hi => if HT.sIx xs.length 0 lo = 0 ∧ HT.sIx xs.length xs.length hi = xs.length then none else some (.dat (.tup (cut xs lo hi)))
  | _, _, _ => none
def eSl (q1 q2 : Bool) (a : EM) (lo hi : OM) : EM := fun env => (hold (q1 && q2) (a env)).bind fun x e1 => (lo e1).bind fun l e2 => (hi e2).bind fun u e3 => match peek e3 x with
  | some d => match slD d l u with
    | some ev => .ok ev e3
    | none => .no
  | none => .no
theorem de_sl {p q1 q2 : Bool} {a : Expr} {lo hi : Option Expr} {ma : EM} {ml mh : OM} {pos p2 : Pos} (ha : DE X g p a ma) (hl : DO X g q1 lo ml) (hh : DO X g q2 hi mh) : DE X g (p && (q1 && q2)) (.Subscript a (.Slice lo hi none p2) pos) (eSl q1 q2 ma ml mh) := by
  refine PE.imp (pe_slice (sl_list.or sl_tup) ha hl hh) fun σ H Q ⟨Z, env, fps, s, h⟩ => ?_
  refine hold_run (q := q1 && q2) s (fun x e1 he v Z1 H1 fps1 s1 z1 k1 r1 => ?_) (fun x e1 he => ?_) (fun he => ?_)
  · refine ⟨Z1, e1, fps1, s1, ?_⟩
    simp only [eSl, he, Res.bind_ok] at h
    cases e2 : ml e1 with
    | no => simp [e2] at h
    | ex x2 e3 =>
      rw [e2] at h
      exact fun cls d Z2 H2 fps2 s2 z2 xr => h cls d Z2 H2 fps2 s2 (z1.trans z2) xr
    | ok l e3 =>
      simp only [e2, Res.bind_ok] at h
      intro l' Z2 H2 fps2 s2 z2 k2 r2
      subst r2
      refine ⟨Z2, e3, fps2, s2, ?_⟩
      cases e4 : mh e3 with
      | no => simp [e4] at h
      | ex x2 e5 =>
        rw [e4] at h
        exact fun cls d Z3 H3 fps3 s3 z3 xr => h cls d Z3 H3 fps3 s3 ((z1.trans z2).trans z3) xr
      | ok u e5 =>
        simp only [e4, Res.bind_ok] at h
        intro u' Z3 H3 fps3 s3 z3 k3 r3
        subst r3
        have r1' := (r1.later z2 fun hq => (k2 (by simp at hq; exact hq.1)).2.2).later z3 fun hq => (k3 (by simp at hq; exact hq.2)).2.2
        have pure' : (p && (q1 && q2)) = true → e5 = env ∧ fps3 = fps ∧ Same H H3 := fun hp => by
          simp only [Bool.and_eq_true] at hp
          obtain ⟨a1, a2, a3⟩ := k1 hp.1
          obtain ⟨b1, b2, b3⟩ := k2 hp.2.1
          obtain ⟨c1, c2, c3⟩ := k3 hp.2.2
          exact ⟨c1.trans (b1.trans a1), c2.trans (b2.trans a2), (a3.trans b3).trans c3⟩
        have zz := (z1.trans z2).trans z3
        cases h1 : peek e5 x with
        | none => simp [h1] at h
        | some d =>
          have rn := peek_ok s3 r1' h1
          cases h2 : slD d l' u' with
          | none => simp [h1, h2] at h
          | some ev =>
            simp only [h1, h2] at h
            cases d with
            | lst xs =>
              cases h2
              obtain ⟨a, vs, rfl, h4, r4⟩ := rn.lst s3.sub
              refine .inl ⟨a, vs, rfl, .of h4, fun b hb => ?_⟩
              have f := Fresh.new (o := .lst (cutV vs l' u')) s3.sub hb
              have s4 := s3.fresh f
              refine h (.ref b) _ _ fps3 s4 zz (fun hp => ?_) ((NewR.lst (mg := g.mg) s3.sub hb (r4.cut l' u')).ev s3)
              obtain ⟨a1, a2, a3⟩ := pure' hp
              exact ⟨a1, a2, a3.trans f.h⟩
            | tup xs =>
              simp only [slD] at h2
              split at h2
              · cases h2
              · rename_i hn
                cases h2
                obtain ⟨a, vs, rfl, h4, r4⟩ := rn.tup s3.sub
                refine .inr ⟨a, vs, rfl, .of h4, by rw [r4.length]; exact hn, fun b hb => ?_⟩
                have f := Fresh.newZ (o := .tup (cutV vs l' u')) s3.sub hb
                refine h (.ref b) _ _ fps3 (s3.fresh f) (zz.trans f.z) (fun hp => ?_) (NewR.tup (mg := g.mg) s3.sub hb (r4.cut l' u'))
                obtain ⟨a1, a2, a3⟩ := pure' hp
                exact ⟨a1, a2, a3.trans f.h⟩
            | _ => cases h2
  · simp only [eSl, he, Res.bind_ex] at h
    exact h
  · simp only [eSl, he, Res.bind_no, Post_no] at h
/-! ### calls of built-ins -/
def CallOk (X : Cx) (f : Value) (op : List D → Option Ev) : Prop :=
  ∃ r, CallR X f r ∧ ∀ mg Z H vs ds ev Q, Same Z H → RNs Z H vs ds → op ds = some ev → (∀ v' Z' H', Fresh Z H Z' H' → NewR mg H Z' H' v' ev → Q v' H') → r vs H Q
def eCall (op : List D → Option Ev) (m : AM) : EM := fun env => (m env).bind fun xs e1 => match peeks e1 xs with
  | some ds => match op ds with
    | some ev => .ok ev e1
    | none => .no
  | none => .no
theorem call_run {p : Bool} {op : List D → Option Ev} {ma : AM} {r : List V → Hp → VK → Prop}
    (hr : ∀ mg Z H vs ds ev Q, Same Z H → RNs Z H vs ds → op ds = some ev → (∀ v' Z' H', Fresh Z H Z' H' → NewR mg H Z' H' v' ev → Q v' H') → r vs H Q)
    {σ : L2.St} {H : Hp} {Q : VK} (h : tE g p (eCall op ma) σ H Q) : tCB r (tA g p ma) σ H Q := by
  obtain ⟨Z, env, fps, s, h⟩ := h
  refine ⟨Z, env, fps, s, ?_⟩
  unfold eCall at h
  cases e : ma env with
  | no => simp [e] at h
  | ex x e1 => simpa [e] using h
  | ok xs e1 =>
    simp only [e, Res.bind_ok] at h
    intro vs Z1 H1 fps1 s1 z1 k1 r1
    cases h1 : peeks e1 xs with
    | none => simp [h1] at h
    | some ds =>
      cases h2 : op ds with
      | none => simp [h1, h2] at h
      | some ev =>
        simp only [h1, h2] at h
        refine hr g.mg Z1 H1 vs ds ev Q s1.sub (peeks_ok s1 r1 h1) h2 fun v' Z' H' f nr => ?_
        refine h v' Z' H' fps1 (s1.fresh f) (z1.trans f.z) (fun hp => ?_) (nr.ev s1)
        obtain ⟨a1, a2, a3⟩ := k1 hp
        exact ⟨a1, a2, a3.trans f.h⟩
theorem de_callB {id : String} {x : Str} {p : Bool} {op : List D → Option Ev} {e : Expr} {es : List Expr} {ma : AM} {ps pos : Pos} (hc : CallOk X (.builtin id) op) (hg : Gl X x) (hm : X.mg x = none) (hv : bootBuiltins x = some (.builtin id)) (ha : DA X g p (e :: es) ma)
    (hn : x ≠ "__name__" := by decide) (hdb : (x == ("__debug__" : Str)) = false := by decide) (he : starEach (e :: es) X.env = (false, eval e X.env) :: starEach es X.env := by rfl) (hpl : (backTo pos (starEach es X.env)).any (·.1) = false := by rfl) :
    DE X g p (.Call (.Name x ps) (e :: es) [] pos) (eCall op ma) := by
  obtain ⟨r, h1, h2⟩ := hc
  exact PE.imp (pe_callB h1 hg hm hv ha hn hdb he hpl) fun σ H Q h => call_run h2 h
theorem de_callTy {id : String} {x : Str} {p : Bool} {op : List D → Option Ev} {e : Expr} {es : List Expr} {ma : AM} {ps pos : Pos} (hc : CallOk X (.type id) op) (hg : Gl X x) (hm : X.mg x = none) (hv : bootBuiltins x = some (.type id)) (ha : DA X g p (e :: es) ma)
    (hn : x ≠ "__name__" := by decide) (hdb : (x == ("__debug__" : Str)) = false := by decide) (he : starEach (e :: es) X.env = (false, eval e X.env) :: starEach es X.env := by rfl) (hpl : (backTo pos (starEach es X.env)).any (·.1) = false := by rfl) :
    DE X g p (.Call (.Name x ps) (e :: es) [] pos) (eCall op ma) := by
  obtain ⟨r, h1, h2⟩ := hc
  exact PE.imp (pe_callTy h1 hg hm hv ha hn hdb he hpl) fun σ H Q h => call_run h2 h
theorem RNs.one {Z H : Hp} {vs : List V} {d : D} (h : RNs Z H vs [d]) : ∃ v, vs = [v] ∧ RN Z H v d := by
  cases h with
  | cons h r => cases r; exact ⟨_, rfl, h⟩
theorem RNs.two {Z H : Hp} {vs : List V} {d e : D} (h : RNs Z H vs [d, e]) : ∃ v u, vs = [v, u] ∧ RN Z H v d ∧ RN Z H u e := by
  cases h with
  | cons h r =>
    cases r with
    | cons h2 r => cases r; exact ⟨_, _, rfl, h, h2⟩
def lenD : List D → Option Ev
  | [.lst xs] => some (.dat (.int xs.length))
  | [.tup xs] => some (.dat (.int xs.length))
  | [.str z] => if z.length ≤ lim then some (.dat (.int z.length)) else none
  | _ => none
theorem ok_len : CallOk X (.builtin "len") lenD := by
  refine ⟨_, call_len, fun mg Z H vs ds ev Q s rs h q => ?_⟩
  unfold lenD at h
  split at h
  · obtain ⟨v, rfl, rv⟩ := rs.one
    obtain ⟨a, ws, rfl, h2, r2⟩ := rv.lst s
    cases h
    exact ⟨_, _, rfl, .inl ⟨ws, .of h2, rfl⟩, by rw [r2.length]; exact q _ _ _ (.refl s) .int⟩
  · obtain ⟨v, rfl, rv⟩ := rs.one
    obtain ⟨a, ws, rfl, h2, r2⟩ := rv.tup s
    cases h
    exact ⟨_, _, rfl, .inr ⟨ws, .of h2, rfl⟩, by rw [r2.length]; exact q _ _ _ (.refl s) .int⟩
  · split at h
    · rename_i hl
      cases h
      obtain ⟨v, rfl, rv⟩ := rs.one
      cases rv.str
      exact ⟨_, _, rfl, ⟨lim_eq hl, rfl⟩, q _ _ _ (.refl s) .int⟩
    · cases h
  · cases h
def absD : List D → Option Ev
  | [.int i] => some (.dat (.int (if i < 0 then -i else i)))
  | _ => none
theorem ok_abs : CallOk X (.builtin "abs") absD := by
  refine ⟨_, call_abs, fun mg Z H vs ds ev Q s rs h q => ?_⟩
  unfold absD at h
  split at h
  · cases h
    obtain ⟨v, rfl, rv⟩ := rs.one
    cases rv.int
    exact ⟨_, rfl, q _ _ _ (.refl s) .int⟩
  · cases h
def maxD : List D → Option Ev
  | [.int i, .int j] => some (.dat (.int (if j > i then j else i)))
  | _ => none
def minD : List D → Option Ev
  | [.int i, .int j] => some (.dat (.int (if j < i then j else i)))
  | _ => none
theorem ok_max (hc : X.calm = true) : CallOk X (.builtin "max") maxD := by
  refine ⟨_, call_max2 hc, fun mg Z H vs ds ev Q s rs h q => ?_⟩
  unfold maxD at h
  split at h
  · cases h
    obtain ⟨v, u, rfl, rv, ru⟩ := rs.two
    cases rv.int
    cases ru.int
    exact ⟨_, _, rfl, q _ _ _ (.refl s) .int⟩
  · cases h
theorem ok_min (hc : X.calm = true) : CallOk X (.builtin "min") minD := by
  refine ⟨_, call_min2 hc, fun mg Z H vs ds ev Q s rs h q => ?_⟩
  unfold minD at h
  split at h
  · cases h
    obtain ⟨v, u, rfl, rv, ru⟩ := rs.two
    cases rv.int
    cases ru.int
    exact ⟨_, _, rfl, q _ _ _ (.refl s) .int⟩
  · cases h
def intD : List D → Option Ev
  | [.int i] => some (.dat (.int i))
  | [.bl b] => some (.dat (.int (if b then 1 else 0)))
  | _ => none
theorem ok_int : CallOk X (.type "int") intD := by
  refine ⟨_, call_int1, fun mg Z H vs ds ev Q s rs h q => ?_⟩
  unfold intD at h
  split at h
  · cases h
    obtain ⟨v, rfl, rv⟩ := rs.one
    cases rv.int
    exact .inl ⟨_, rfl, q _ _ _ (.refl s) .int⟩
  · cases h
    obtain ⟨v, rfl, rv⟩ := rs.one
    cases rv.bl
    exact .inr ⟨_, rfl, q _ _ _ (.refl s) .int⟩
  · cases h
def listD : List D → Option Ev
  | [.lst xs] => some (.new (.lst xs))
  | [.tup xs] => some (.new (.lst xs))
  | _ => none
theorem ok_list : CallOk X (.type "list") listD := by
  refine ⟨_, call_list_of, fun mg Z H vs ds ev Q s rs h q => ?_⟩
  unfold listD at h
  split at h
  · cases h
    obtain ⟨v, rfl, rv⟩ := rs.one
    obtain ⟨a, ws, rfl, h2, r2⟩ := rv.lst s
    exact ⟨a, ws, rfl, .inl (.of h2), fun p hp => q _ _ _ (.new s hp) (.lst s hp r2)⟩
  · cases h
    obtain ⟨v, rfl, rv⟩ := rs.one
    obtain ⟨a, ws, rfl, h2, r2⟩ := rv.tup s
    exact ⟨a, ws, rfl, .inr (.of h2), fun p hp => q _ _ _ (.new s hp) (.lst s hp r2)⟩
  · cases h
def tupleD : List D → Option Ev
  | [.lst xs] => some (.dat (.tup xs))
  | [.tup xs] => some (.dat (.tup xs))
  | _ => none
theorem ok_tuple : CallOk X (.type "tuple") tupleD := by
  refine ⟨_, call_tuple_of, fun mg Z H vs ds ev Q s rs h q => ?_⟩
  unfold tupleD at h
  split at h
  · cases h
    obtain ⟨v, rfl, rv⟩ := rs.one
    obtain ⟨a, ws, rfl, h2, r2⟩ := rv.lst s
    exact ⟨a, ws, rfl, .inl ⟨.of h2, fun p hp => q _ _ _ (.newZ s hp) (.tup s hp r2)⟩⟩
  · cases h
    obtain ⟨v, rfl, rv⟩ := rs.one
    have rv' := rv
    obtain ⟨a, ws, rfl, h2, r2⟩ := rv.tup s
    rcases rv' with k | ⟨_, _, _, _, e, _⟩
    · exact ⟨a, ws, rfl, .inr ⟨.of h2, q _ _ _ (.refl s) k⟩⟩
    · cases e
  · cases h
/-- all of them ints, bools -/
def intsOf : List D → Option (List Int)
  | [] => some []
  | .int i :: r => (intsOf r).map (i :: ·)
  | _ :: _ => none
def boolsOf : List D → Option (List Bool)
  | [] => some []
  | .bl i :: r => (boolsOf r).map (i :: ·)
  | _ :: _ => none
theorem RDs.toInts {Z : Hp} : ∀ {vs : List V} {ds : List D} {ns : List Int}, RDs Z vs ds → intsOf ds = some ns → vs = ns.map V.int
  | _, _, ns, .nil, e => by cases e; rfl
  | _, _, ns, .cons (d := d) (ds := ds) h r, e => by
    cases d with
    | int i =>
      simp only [intsOf, Option.map_eq_some_iff] at e
      obtain ⟨ms, e1, rfl⟩ := e
      cases h
      rw [RDs.toInts r e1]; rfl
    | _ => cases e
theorem RDs.toBools {Z : Hp} : ∀ {vs : List V} {ds : List D} {ns : List Bool}, RDs Z vs ds → boolsOf ds = some ns → vs = ns.map V.bl
  | _, _, ns, .nil, e => by cases e; rfl
  | _, _, ns, .cons (d := d) (ds := ds) h r, e => by
    cases d with
    | bl i =>
      simp only [boolsOf, Option.map_eq_some_iff] at e
      obtain ⟨ms, e1, rfl⟩ := e
      cases h
      rw [RDs.toBools r e1]; rfl
    | _ => cases e
def sumD : List D → Option Ev
  | [.lst xs] => (intsOf xs).map fun ns => .dat (.int ns.sum)
  | _ => none
theorem ok_sum (hc : X.calm = true) : CallOk X (.builtin "sum") sumD := by
  refine ⟨_, cr_sum hc, fun mg Z H vs ds ev Q s rs h q => ?_⟩
  unfold sumD at h
  split at h
  · simp only [Option.map_eq_some_iff] at h
    obtain ⟨ns, e, rfl⟩ := h
    obtain ⟨v, rfl, rv⟩ := rs.one
    obtain ⟨a, ws, rfl, h2, r2⟩ := rv.lst s
    rw [r2.toInts e] at h2
    exact ⟨a, ns, rfl, .of h2, q _ _ _ (.refl s) .int⟩
  · cases h
def anyD : List D → Option Ev
  | [.lst xs] => (boolsOf xs).map fun ns => .dat (.bl (ns.any id))
  | _ => none
def allD : List D → Option Ev
  | [.lst xs] => (boolsOf xs).map fun ns => .dat (.bl (ns.all id))
  | _ => none
theorem ok_any (hc : X.calm = true) : CallOk X (.builtin "any") anyD := by
  refine ⟨_, cr_any hc, fun mg Z H vs ds ev Q s rs h q => ?_⟩
  unfold anyD at h
  split at h
  · simp only [Option.map_eq_some_iff] at h
    obtain ⟨ns, e, rfl⟩ := h
    obtain ⟨v, rfl, rv⟩ := rs.one
    obtain ⟨a, ws, rfl, h2, r2⟩ := rv.lst s
    rw [r2.toBools e] at h2
    exact ⟨a, ns, rfl, .of h2, q _ _ _ (.refl s) .bl⟩
  · cases h
theorem ok_all (hc : X.calm = true) : CallOk X (.builtin "all") allD := by
  refine ⟨_, cr_all hc, fun mg Z H vs ds ev Q s rs h q => ?_⟩
  unfold allD at h
  split at h
  · simp only [Option.map_eq_some_iff] at h
    obtain ⟨ns, e, rfl⟩ := h
    obtain ⟨v, rfl, rv⟩ := rs.one
    obtain ⟨a, ws, rfl, h2, r2⟩ := rv.lst s
    rw [r2.toBools e] at h2
    exact ⟨a, ns, rfl, .of h2, q _ _ _ (.refl s) .bl⟩
  · cases h
/-! isinstance with a built-in class -/
def isiD (T : String) : D → Option Bool
  | .non => kitB "NoneType" T
  | .bl _ => kitB "bool" T
  | .int _ => kitB "int" T
  | .str _ => kitB "str" T
  | .lst _ => kitB "list" T
  | .tup _ => kitB "tuple" T
  | .scr _ => none
def eIsi (T : String) (a : EM) : EM := eOp1 (fun d => (isiD T d).map fun b => .dat (.bl b)) a
theorem isi_ty {K : PySem.W.Frag} {Z H : Hp} {v : V} {d : D} {T : String} {b : Bool} (s : Same Z H) (r : RN Z H v d) (h : isiD T d = some b) : ∃ t, TyX K H v t ∧ PySem.W.kitOne K t (.type T) = some b := by
  cases d with
  | non => cases r.non; exact ⟨_, .base .non, kit_ty h⟩
  | bl c => cases r.bl; exact ⟨_, .base (.bl _), kit_ty h⟩
  | int c => cases r.int; exact ⟨_, .base (.int _), kit_ty h⟩
  | str c => cases r.str; exact ⟨_, .base (.str _), kit_ty h⟩
  | lst c => obtain ⟨a, ws, rfl, h2, _⟩ := r.lst s; exact ⟨_, .base (.lst h2), kit_ty h⟩
  | tup c => obtain ⟨a, ws, rfl, h2, _⟩ := r.tup s; exact ⟨_, .base (.tup h2), kit_ty h⟩
  | scr c => cases h
theorem de_isi {T : Str} {S : String} {p : Bool} {a : Expr} {ma : EM} {p1 p2 pos : Pos} (hg : Gl X "isinstance") (hm : X.mg "isinstance" = none) (hv : bootBuiltins "isinstance" = some (.builtin "isinstance")) (ha : DE X g p a ma)
    (hT : Gl X T) (hmT : X.mg T = none) (hvT : bootBuiltins T = some (.type S)) (hn : T ≠ "__name__" := by decide) (hdb : (T == ("__debug__" : Str)) = false := by decide)
    (hs : starEach [a, .Name T p2] X.env = (false, eval a X.env) :: starEach [.Name T p2] X.env := by rfl) (hs2 : starEach [.Name T p2] X.env = (false, eval (.Name T p2) X.env) :: starEach [] X.env := by rfl)
    (hpl : (backTo pos (starEach [.Name T p2] X.env)).any (·.1) = false := by rfl) :
    DE X g p (.Call (.Name "isinstance" p1) [a, .Name T p2] [] pos) (eIsi S ma) := by
  refine PE.imp (pe_callB call_isi hg hm hv (pa_cons ha (pa_cons (pe_bltn (v := .ty S) hT hmT hvT rfl hn hdb) pa_nil hs2) hs) (by decide) (by decide) hs hpl) fun σ H Q h => ?_
  refine op1_run (r := fun v H Q => rIsi X.K [v, .ty S] H Q) (fun mg Z H v d ev Q s rv h q => ?_) h
  simp only [Option.map_eq_some_iff] at h
  obtain ⟨b, h1, rfl⟩ := h
  obtain ⟨t, h2, h3⟩ := isi_ty (K := X.K) s rv h1
  exact ⟨v, .ty S, t, _, b, rfl, .ty S, h2, h3, q _ _ _ (.refl s) .bl⟩
end
end DL
namespace DL
open PySem PySem.Spec PyProof.Rows L2
section
variable {X : Cx} {g : Gx}
/-! ### what is walked -/
structure ItOk (J : It) (Z : Hp) (ds : List D) : Prop where
  go : ∀ i d, ds[i]? = some d → ∀ Z1 H1, Same Z Z1 → Same Z1 H1 → J.go i H1 ∧ ∀ x H', J.yld i H1 x H' → ∃ Z', Fresh Z1 H1 Z' H' ∧ RD Z' x d
  stop : ∀ Z1 H1, Same Z Z1 → Same Z1 H1 → J.stop ds.length H1
abbrev IM := Ve → Res (List D)
abbrev DI (X : Cx) (g : Gx) (pu : Bool) (tg iter : Expr) (m : IM) : Prop := PI X tg iter (tR g pu (fun Z' _ _ _ J ds => ItOk J Z' ds) m)
theorem PI.imp {tg e : Expr} {t t' : TI} (h : PI X tg e t) (k : ∀ σ H Q, t' σ H Q → t σ H Q) : PI X tg e t' := ⟨fun pins s σ H Q I q => h.run pins s σ H Q I (k σ H Q q)⟩
theorem PI.or {tg e : Expr} {t t' : TI} (h : PI X tg e t) (h' : PI X tg e t') : PI X tg e (fun σ H Q => t σ H Q ∨ t' σ H Q) := ⟨fun pins s σ H Q I q => q.elim (fun q => h.run pins s σ H Q I q) fun q => h'.run pins s σ H Q I q⟩
theorem itl_ok {K : PySem.W.Frag} {Z : Hp} {a : Addr} {vs : List V} {ds : List D} (h : Z a = some (.lst vs)) (r : RDs Z vs ds) : ItOk (Itl K a) Z ds where
  go := fun i d e Z1 H1 z s => by
    obtain ⟨v, h1, h2⟩ := r.getd e
    have q : SqL K H1 a vs := .of (s _ _ (z _ _ h))
    refine ⟨⟨vs, v, q, h1⟩, fun x H' ⟨e1, y⟩ => ?_⟩
    subst e1
    have := y vs q
    rw [h1] at this
    cases this
    exact ⟨Z1, .refl s, h2.mono z⟩
  stop := fun Z1 H1 z s => ⟨vs, .of (s _ _ (z _ _ h)), by rw [r.length]; exact Nat.le_refl _⟩
theorem its_ok {K : PySem.W.Frag} {Z : Hp} {a : Addr} {o : Obj} {ns : List Int} (h : Z a = some (.frz o (.lst (ns.map V.int)))) : ItOk (Itl K a) Z (ns.map D.int) where
  go := fun i d e Z1 H1 z s => by
    have q : SqL K H1 a (ns.map V.int) := .inl (.inr ⟨o, s _ _ (z _ _ h)⟩)
    rw [List.getElem?_map] at e
    cases hn : ns[i]? with
    | none => rw [hn] at e; cases e
    | some n =>
      rw [hn] at e
      cases e
      refine ⟨⟨_, .int n, q, by rw [List.getElem?_map, hn]; rfl⟩, fun x H' ⟨e1, y⟩ => ?_⟩
      subst e1
      have := y _ q
      rw [List.getElem?_map, hn] at this
      cases this
      exact ⟨Z1, .refl s, .int⟩
  stop := fun Z1 H1 z s => ⟨_, .inl (.inr ⟨o, s _ _ (z _ _ h)⟩), by rw [List.length_map, List.length_map]; exact Nat.le_refl _⟩
theorem itt_ok {K : PySem.W.Frag} {Z : Hp} {a : Addr} {vs : List V} {ds : List D} (h : Z a = some (.tup vs)) (r : RDs Z vs ds) : ItOk (Itt K a) Z ds where
  go := fun i d e Z1 H1 z s => by
    obtain ⟨v, h1, h2⟩ := r.getd e
    have q : SqT K H1 a vs := .of (s _ _ (z _ _ h))
    refine ⟨⟨vs, v, q, h1⟩, fun x H' ⟨e1, y⟩ => ?_⟩
    subst e1
    have := y vs q
    rw [h1] at this
    cases this
    exact ⟨Z1, .refl s, h2.mono z⟩
  stop := fun Z1 H1 z s => ⟨vs, .of (s _ _ (z _ _ h)), by rw [r.length]; exact Nat.le_refl _⟩
def rangeL (lo : Int) (n : Nat) : List D := (List.range n).map fun (i : Nat) => D.int (lo + (i : Int))
theorem itr_ok {Z : Hp} {lo : Int} {n : Nat} : ItOk (Itr lo n) Z (rangeL lo n) where
  go := fun i d e Z1 H1 z s => by
    unfold rangeL at e
    rw [List.getElem?_map] at e
    by_cases hi : i < n
    · rw [List.getElem?_range hi] at e
      cases e
      refine ⟨hi, fun x H' ⟨e1, y⟩ => ?_⟩
      subst e1 y
      exact ⟨Z1, .refl s, .int⟩
    · rw [List.getElem?_eq_none (by simpa using hi)] at e
      cases e
  stop := fun Z1 H1 z s => by
    show n ≤ (rangeL lo n).length
    unfold rangeL
    rw [List.length_map, List.length_range]
    exact Nat.le_refl _
def rangeC (lo c : Int) (n : Nat) : List D := (List.range n).map fun (i : Nat) => D.int (lo + (i : Int) * c)
theorem itc_ok {Z : Hp} {lo c : Int} {n : Nat} : ItOk (Itc lo c n) Z (rangeC lo c n) where
  go := fun i d e Z1 H1 z s => by
    unfold rangeC at e
    rw [List.getElem?_map] at e
    by_cases hi : i < n
    · rw [List.getElem?_range hi] at e
      cases e
      refine ⟨hi, fun x H' ⟨e1, y⟩ => ?_⟩
      subst e1 y
      exact ⟨Z1, .refl s, .int⟩
    · rw [List.getElem?_eq_none (by simpa using hi)] at e
      cases e
  stop := fun Z1 H1 z s => by
    show n ≤ (rangeC lo c n).length
    unfold rangeC
    rw [List.length_map, List.length_range]
    exact Nat.le_refl _
def enumL : Nat → List D → List D
  | _, [] => []
  | n, d :: ds => .tup [.int n, d] :: enumL (n + 1) ds
theorem enumL_get : ∀ (ds : List D) (n i : Nat), (enumL n ds)[i]? = (ds[i]?).map fun d => D.tup [.int ((n + i : Nat) : Int), d]
  | [], _, _ => rfl
  | _ :: _, n, 0 => rfl
  | _ :: ds, n, i + 1 => by
    show (enumL (n + 1) ds)[i]? = _
    rw [enumL_get ds (n + 1) i]
    show _ = (ds[i]?).map _
    rw [show n + 1 + i = n + (i + 1) by omega]
theorem enumL_length : ∀ (ds : List D) (n : Nat), (enumL n ds).length = ds.length
  | [], _ => rfl
  | _ :: ds, n => congrArg Nat.succ (enumL_length ds (n + 1))
theorem ite_ok {K : PySem.W.Frag} {Z : Hp} {a : Addr} {vs : List V} {ds : List D} (h : Z a = some (.lst vs)) (r : RDs Z vs ds) : ItOk (Ite K a) Z (enumL 0 ds) where
  go := fun i d e Z1 H1 z s => by
    rw [enumL_get] at e
    cases hd : ds[i]? with
    | none => rw [hd] at e; cases e
    | some d' =>
      rw [hd] at e
      cases e
      obtain ⟨v, h1, h2⟩ := r.getd hd
      have q : SqL K H1 a vs := .of (s _ _ (z _ _ h))
      refine ⟨⟨vs, v, q, h1⟩, fun x H' ⟨T, y, e1, hT, e2, hy⟩ => ?_⟩
      subst e1 e2
      have := hy vs q
      rw [h1] at this
      cases this
      rw [Nat.zero_add]
      exact ⟨_, .newZ s hT, NewR.tup (mg := fun _ => none) s hT (.cons .int (.cons (h2.mono z) .nil))⟩
  stop := fun Z1 H1 z s => ⟨vs, .of (s _ _ (z _ _ h)), by rw [enumL_length, r.length]; exact Nat.le_refl _⟩
def zipL : List D → List D → List D
  | d :: ds, e :: es => .tup [d, e] :: zipL ds es
  | _, _ => []
theorem zipL_get : ∀ (ds es : List D) (i : Nat) (x : D), (zipL ds es)[i]? = some x → ∃ d e, ds[i]? = some d ∧ es[i]? = some e ∧ x = .tup [d, e]
  | [], es, i, x, h => by unfold zipL at h; simp at h
  | _ :: _, [], i, x, h => by unfold zipL at h; simp at h
  | d :: ds, e :: es, 0, x, h => by unfold zipL at h; simp at h; exact ⟨d, e, rfl, rfl, h.symm⟩
  | d :: ds, e :: es, i + 1, x, h => by unfold zipL at h; simpa using zipL_get ds es i x (by simpa using h)
theorem zipL_length : ∀ (ds es : List D), ds.length ≤ (zipL ds es).length ∨ es.length ≤ (zipL ds es).length
  | [], es => by simp
  | _ :: _, [] => by simp
  | d :: ds, e :: es => by
    unfold zipL
    rcases zipL_length ds es with h | h
    · exact .inl (by simp; omega)
    · exact .inr (by simp; omega)
theorem itz_ok {K : PySem.W.Frag} {Z : Hp} {a b : Addr} {vs ws : List V} {ds es : List D} (h : Z a = some (.lst vs)) (r : RDs Z vs ds) (h' : Z b = some (.lst ws)) (r' : RDs Z ws es) : ItOk (Itz K a b) Z (zipL ds es) where
  go := fun i d e Z1 H1 z s => by
    obtain ⟨d1, d2, e1, e2, rfl⟩ := zipL_get ds es i d e
    obtain ⟨v, h1, h2⟩ := r.getd e1
    obtain ⟨u, h3, h4⟩ := r'.getd e2
    have q : SqL K H1 a vs := .of (s _ _ (z _ _ h))
    have q' : SqL K H1 b ws := .of (s _ _ (z _ _ h'))
    refine ⟨⟨vs, ws, v, u, q, q', h1, h3⟩, fun x H' ⟨T, y, w, e1, hT, e2, hy, hw⟩ => ?_⟩
    subst e1 e2
    have := hy vs q
    rw [h1] at this
    cases this
    have := hw ws q'
    rw [h3] at this
    cases this
    exact ⟨_, .newZ s hT, NewR.tup (mg := fun _ => none) s hT (.cons (h2.mono z) (.cons (h4.mono z) .nil))⟩
  stop := fun Z1 H1 z s => ⟨vs, ws, .of (s _ _ (z _ _ h)), .of (s _ _ (z _ _ h')), by rw [r.length, r'.length]; exact zipL_length ds es⟩
/-- a list, a tuple, the script -/
def iSeq (m : EM) : IM := fun env => (hold true (m env)).bind fun x e => match x with
  | .dat (.lst ds) => .ok ds e
  | .dat (.tup ds) => .ok ds e
  | .dat (.scr ns) => .ok (ns.map D.int) e
  | _ => .no
theorem di_seq {p : Bool} {tg e : Expr} {m : EM} (h : DE X g p e m) : DI X g p tg e (iSeq m) := by
  refine PI.imp (PI.or (pi_list (tg := tg) h) (pi_tup (tg := tg) h)) fun σ H R ⟨Z, env, fps, s, h⟩ => ?_
  have key : ∀ (x : Ev) (e1 : Ve), hold true (m env) = .ok x e1 → (∃ ds, x = .dat (.tup ds)) ∨ ¬ ∃ ds, x = .dat (.tup ds) := fun x e1 _ => Classical.em _
  by_cases ht : ∃ ds e1, hold true (m env) = .ok (.dat (.tup ds)) e1
  · obtain ⟨ds, e1, he⟩ := ht
    refine .inr (hold_run (q := true) s (fun x e1 he' v Z1 H1 fps1 s1 z1 k1 r1 => ?_) (fun x e1 he' => ?_) (fun he' => ?_))
    · rw [he] at he'
      cases he'
      simp only [iSeq, he, Res.bind_ok] at h
      cases r1 with
      | tup h2 r2 => exact ⟨_, rfl, ⟨_, .of (s1.sub _ _ h2)⟩, h _ Z1 H1 fps1 s1 z1 k1 (itt_ok h2 r2)⟩
    · rw [he] at he'; cases he'
    · rw [he] at he'; cases he'
  · refine .inl (hold_run (q := true) s (fun x e1 he v Z1 H1 fps1 s1 z1 k1 r1 => ?_) (fun x e1 he => ?_) (fun he => ?_))
    · simp only [iSeq, he, Res.bind_ok] at h
      cases x with
      | dat d =>
        cases d with
        | lst ds =>
          cases r1 with
          | lst h2 r2 => exact ⟨_, rfl, ⟨_, .of (s1.sub _ _ h2)⟩, h _ Z1 H1 fps1 s1 z1 k1 (itl_ok h2 r2)⟩
        | tup ds => exact (ht ⟨ds, e1, he⟩).elim
        | scr ns =>
          cases r1 with
          | scr h2 => exact ⟨_, rfl, ⟨_, .inl (.inr ⟨_, s1.sub _ _ h2⟩)⟩, h _ Z1 H1 fps1 s1 z1 k1 (its_ok h2)⟩
        | _ => exact h.elim
      | _ => exact h.elim
    · simp only [iSeq, he, Res.bind_ex] at h
      exact h
    · simp only [iSeq, he, Res.bind_no, Post_no] at h
section
local instance (priority := 5000) (i b : Int) : Decidable (i < b) := dLtI i b
local instance (priority := 5000) (i b : Int) : Decidable (i ≤ b) := dLeI i b
def iR1 (m : AM) : IM := fun env => (m env).bind fun xs e => match xs with
  | [.dat (.int j)] => if -(2 ^ 62) ≤ j ∧ j < 2 ^ 62 then .ok (rangeL 0 j.toNat) e else .no
  | _ => .no
def iR2 (m : AM) : IM := fun env => (m env).bind fun xs e => match xs with
  | [.dat (.int i), .dat (.int j)] => if -(2 ^ 62) ≤ i ∧ i < 2 ^ 62 ∧ -(2 ^ 62) ≤ j ∧ j < 2 ^ 62 then .ok (rangeL i (j - i).toNat) e else .no
  | _ => .no
/-- range(i, j, -1) -/
def iR3 (m : AM) : IM := fun env => (m env).bind fun xs e => match xs with
  | [.dat (.int i), .dat (.int j), .dat (.int c)] => if c = -1 ∧ -(2 ^ 62) ≤ i ∧ i < 2 ^ 62 ∧ -(2 ^ 62) ≤ j ∧ j < 2 ^ 62 then .ok (rangeC i (-1) (i - j).toNat) e else .no
  | _ => .no
end
theorem di_r1 {p : Bool} {tg a : Expr} {ma : AM} {ps pos : Pos} (hg : Gl X "range") (hm : X.mg "range" = none) (ha : DA X g p [a] ma) (hs : starEach [a] X.env = [(false, eval a X.env)] := by rfl) : DI X g p tg (.Call (.Name "range" ps) [a] [] pos) (iR1 ma) := by
  refine PI.imp (pi_range1 hg hm ha hs) fun σ H R ⟨Z, env, fps, s, h⟩ => ⟨Z, env, fps, s, ?_⟩
  unfold iR1 at h
  cases e : ma env with
  | no => simp [e] at h
  | ex x e1 => simpa [e] using h
  | ok xs e1 =>
    simp only [e, Res.bind_ok] at h
    intro vs Z1 H1 fps1 s1 z1 k1 r1
    split at h
    · split at h
      · rename_i j hj
        cases r1 with
        | cons r r' =>
          cases r'
          cases r
          exact ⟨j, rfl, hj.1, hj.2, h _ Z1 H1 fps1 s1 z1 k1 itr_ok⟩
      · exact h.elim
    · exact h.elim
theorem di_r2 {p : Bool} {tg a b : Expr} {ma : AM} {ps pos : Pos} (hg : Gl X "range") (hm : X.mg "range" = none) (ha : DA X g p [a, b] ma) (hs : starEach [a, b] X.env = [(false, eval a X.env), (false, eval b X.env)] := by rfl) (hs2 : starEach [b] X.env = [(false, eval b X.env)] := by rfl) : DI X g p tg (.Call (.Name "range" ps) [a, b] [] pos) (iR2 ma) := by
  refine PI.imp (pi_range2 hg hm ha hs hs2) fun σ H R ⟨Z, env, fps, s, h⟩ => ⟨Z, env, fps, s, ?_⟩
  unfold iR2 at h
  cases e : ma env with
  | no => simp [e] at h
  | ex x e1 => simpa [e] using h
  | ok xs e1 =>
    simp only [e, Res.bind_ok] at h
    intro vs Z1 H1 fps1 s1 z1 k1 r1
    split at h
    · split at h
      · rename_i i j hj
        cases r1 with
        | cons r r' =>
          cases r' with
          | cons r2 r3 =>
            cases r3
            cases r
            cases r2
            exact ⟨i, j, rfl, hj, h _ Z1 H1 fps1 s1 z1 k1 itr_ok⟩
      · exact h.elim
    · exact h.elim
theorem di_r3 {p : Bool} {tg a b c : Expr} {ma : AM} {ps pos : Pos} (hg : Gl X "range") (hm : X.mg "range" = none) (ha : DA X g p [a, b, c] ma) (hs : starEach [a, b, c] X.env = (false, eval a X.env) :: starEach [b, c] X.env := by rfl) (hpl : (backTo pos (starEach [b, c] X.env)).any (·.1) = false := by rfl) : DI X g p tg (.Call (.Name "range" ps) [a, b, c] [] pos) (iR3 ma) := by
  refine PI.imp (pi_range3 hg hm ha hs hpl) fun σ H R ⟨Z, env, fps, s, h⟩ => ⟨Z, env, fps, s, ?_⟩
  unfold iR3 at h
  cases e : ma env with
  | no => simp [e] at h
  | ex x e1 => simpa [e] using h
  | ok xs e1 =>
    simp only [e, Res.bind_ok] at h
    intro vs Z1 H1 fps1 s1 z1 k1 r1
    split at h
    · split at h
      · rename_i i j c hj
        obtain ⟨hc, h1, h2, h3, h4⟩ := hj
        subst hc
        cases r1 with
        | cons r r' =>
          cases r' with
          | cons r2 r3 =>
            cases r3 with
            | cons r4 r5 =>
              cases r5
              cases r
              cases r2
              cases r4
              exact ⟨i, j, -1, _, rfl, RgC.neg h1 h2 h3 h4, h _ Z1 H1 fps1 s1 z1 k1 itc_ok⟩
      · exact h.elim
    · exact h.elim
def iEnu (m : AM) : IM := fun env => (m env).bind fun xs e => match xs with
  | [.dat (.lst ds)] => .ok (enumL 0 ds) e
  | _ => .no
theorem di_enum {p : Bool} {a : Expr} {ma : AM} {ps pos tpos : Pos} {elts : List Expr} {kk : Nat} (hg : Gl X "enumerate") (hm : X.mg "enumerate" = none) (ha : DA X g p [a] ma) (hs : starEach [a] X.env = [(false, eval a X.env)] := by rfl) : DI X g p (.Tuple elts kk tpos) (.Call (.Name "enumerate" ps) [a] [] pos) (iEnu ma) := by
  refine PI.imp (pi_enum hg hm ha hs) fun σ H R ⟨Z, env, fps, s, h⟩ => ⟨Z, env, fps, s, ?_⟩
  unfold iEnu at h
  cases e : ma env with
  | no => simp [e] at h
  | ex x e1 => simpa [e] using h
  | ok xs e1 =>
    simp only [e, Res.bind_ok] at h
    intro vs Z1 H1 fps1 s1 z1 k1 r1
    split at h
    · cases r1 with
      | cons r r' =>
        cases r'
        cases r with
        | lst h2 r2 => exact ⟨_, _, rfl, .of (s1.sub _ _ h2), h _ Z1 H1 fps1 s1 z1 k1 (ite_ok h2 r2)⟩
    · exact h.elim
def iZp (m : AM) : IM := fun env => (m env).bind fun xs e => match xs with
  | [.dat (.lst ds), .dat (.lst es)] => .ok (zipL ds es) e
  | _ => .no
theorem di_zip {p : Bool} {a b : Expr} {ma : AM} {ps pos tpos : Pos} {elts : List Expr} {kk : Nat} (hg : Gl X "zip") (hm : X.mg "zip" = none) (ha : DA X g p [a, b] ma) (hs : starEach [a, b] X.env = (false, eval a X.env) :: starEach [b] X.env := by rfl) (hpl : (backTo pos (starEach [b] X.env)).any (·.1) = false := by rfl) : DI X g p (.Tuple elts kk tpos) (.Call (.Name "zip" ps) [a, b] [] pos) (iZp ma) := by
  refine PI.imp (pi_zip hg hm ha hs hpl) fun σ H R ⟨Z, env, fps, s, h⟩ => ⟨Z, env, fps, s, ?_⟩
  unfold iZp at h
  cases e : ma env with
  | no => simp [e] at h
  | ex x e1 => simpa [e] using h
  | ok xs e1 =>
    simp only [e, Res.bind_ok] at h
    intro vs Z1 H1 fps1 s1 z1 k1 r1
    split at h
    · cases r1 with
      | cons r r' =>
        cases r' with
        | cons r3 r4 =>
          cases r4
          cases r with
          | lst h2 r2 =>
            cases r3 with
            | lst h5 r5 => exact ⟨_, _, _, _, rfl, .of (s1.sub _ _ h2), .of (s1.sub _ _ h5), h _ Z1 H1 fps1 s1 z1 k1 (itz_ok h2 r2 h5 r5)⟩
    · exact h.elim
/-! ### storing a slot -/
def killS (i : Nat) : S → S
  | .al j p => if j = i then .un else .al j p
  | s => s
def setS (i : Nat) (x : S) (env : Ve) : Ve := match env[i]? with
  | some (.own _) => (env.map (killS i)).set i x
  | _ => env.set i x
theorem setS_length (i : Nat) (x : S) (env : Ve) : (setS i x env).length = env.length := by
  unfold setS
  split <;> simp
section
variable {Z H : Hp} {env : Ve} {σ : L2.St} {fps : Nat → List Addr}
/-- a slot stored: its new footprint fp -/
theorem StR.store (s : StR g Z env σ H fps) {i : Nat} {x : S} {v : V} {fp : List Addr} (hi : i < env.length) (hp : i ∉ g.pins)
    (hx : (∃ d, x = .dat d ∧ fp = [] ∧ RD Z v d) ∨ (∃ t, x = .own t ∧ Own g.mg Z H v t fp)) (hn : fp.Nodup) (hf : ∀ a ∈ fp, Z a = none ∧ (∀ j, j ≠ i → a ∉ fps j) ∧ (a ∈ g.n.F0 ∨ g.n.H0 a = none)) :
    StR g Z (setS i x env) (σ.set i (some v)) H (fun k => if k = i then fp else fps k) := by
  have hiσ : i < σ.length := by rw [s.len]; exact hi
  have other : ∀ k y, k ≠ i → env[k]? = some y → SR g.mg Z H (setS i x env) (σ.set i (some v)) k (killS i y) (fps k) := fun k y hk e => by
    have q := s.slot k y e
    have hσ : (σ.set i (some v))[k]? = σ[k]? := List.getElem?_set_ne (Ne.symm hk)
    cases y with
    | un => exact q
    | dat d => obtain ⟨e1, w, h1, h2⟩ := q; exact ⟨e1, w, by rw [hσ]; exact h1, h2⟩
    | own t => obtain ⟨w, h1, h2⟩ := q; exact ⟨w, by rw [hσ]; exact h1, h2⟩
    | al j p =>
      obtain ⟨e1, ⟨t, ht⟩, w, vj, h1, h2, h3⟩ := q
      show SR g.mg Z H _ _ k (if j = i then S.un else S.al j p) (fps k)
      by_cases c : j = i
      · rw [if_pos c]; exact e1
      · rw [if_neg c]
        refine ⟨e1, ⟨t, ?_⟩, w, vj, by rw [hσ]; exact h1, by rw [List.getElem?_set_ne (Ne.symm c)]; exact h2, h3⟩
        unfold setS
        split
        · rw [List.getElem?_set_ne (Ne.symm c), List.getElem?_map, ht]; rfl
        · rw [List.getElem?_set_ne (Ne.symm c)]; exact ht
  refine ⟨by rw [setS_length, List.length_set]; exact s.len, s.sub, fun k y e => ?_, fun k hk => ?_, fun k l a h1 h2 => ?_, fun k => ?_, fun k a h1 => ?_, s.e1, s.e2, s.e3, fun k a h1 => ?_, fun k hk => ?_⟩
  · by_cases c : k = i
    · subst c
      have ey : y = x := by
        unfold setS at e
        split at e
        · rw [List.getElem?_set_self (by simpa using hi)] at e; exact (Option.some.inj e).symm
        · rw [List.getElem?_set_self hi] at e; exact (Option.some.inj e).symm
      subst ey
      rw [if_pos rfl]
      rcases hx with ⟨d, rfl, rfl, r⟩ | ⟨t, rfl, r⟩
      · exact ⟨rfl, v, List.getElem?_set_self hiσ, r⟩
      · exact ⟨v, List.getElem?_set_self hiσ, r⟩
    · rw [if_neg c]
      unfold setS at e
      split at e
      · rename_i t ht
        rw [List.getElem?_set_ne (Ne.symm c), List.getElem?_map] at e
        cases q : env[k]? with
        | none => rw [q] at e; cases e
        | some y0 =>
          rw [q] at e
          cases e
          exact other k y0 c q
      · rename_i hno
        rw [List.getElem?_set_ne (Ne.symm c)] at e
        have h0 := other k y c e
        have hk : killS i y = y := by
          cases y with
          | al j p =>
            obtain ⟨_, ⟨t, ht⟩, _⟩ := s.slot k _ e
            show (if j = i then S.un else S.al j p) = S.al j p
            by_cases c2 : j = i
            · subst c2; exact (hno t ht).elim
            · rw [if_neg c2]
          | _ => rfl
        rw [hk] at h0
        exact h0
  · have hk' : env.length ≤ k := by rw [setS_length] at hk; exact hk
    have c : k ≠ i := by omega
    show (if k = i then fp else fps k) = []
    rw [if_neg c]
    exact s.out k hk'
  · by_cases c1 : k = i
    · by_cases c2 : l = i
      · rw [c1, c2]
      · simp only [c1, if_true, c2, if_false] at h1 h2
        exact ((hf a h1).2.1 l c2 h2).elim
    · by_cases c2 : l = i
      · simp only [c2, if_true, c1, if_false] at h1 h2
        exact ((hf a h2).2.1 k c1 h1).elim
      · simp only [c1, c2, if_false] at h1 h2
        exact s.dis k l a h1 h2
  · show (if k = i then fp else fps k).Nodup
    by_cases c : k = i
    · rw [if_pos c]; exact hn
    · rw [if_neg c]; exact s.nd k
  · by_cases c : k = i
    · simp only [c, if_true] at h1; exact (hf a h1).1
    · simp only [c, if_false] at h1; exact s.nz k a h1
  · by_cases c : k = i
    · simp only [c, if_true] at h1; exact (hf a h1).2.2
    · simp only [c, if_false] at h1; exact s.e4 k a h1
  · obtain ⟨w, h1, h2⟩ := s.pin k hk
    have c : k ≠ i := fun e => hp (e ▸ hk)
    exact ⟨w, h1, by rw [List.getElem?_set_ne (Ne.symm c)]; exact h2⟩
end
/-! ### targets -/
abbrev GM := D → Ve → Option Ve
def tGm (g : Gx) (ts : List Nat) (m : GM) : TG := fun v σ H Q => ∃ Z env fps d, StR g Z env σ H fps ∧ RD Z v d ∧ match m d env with
  | some env' => ∀ Z' σ' H' fps', StR g Z' env' σ' H' fps' → Same Z Z' → σ'.length = σ.length → (∀ k, k ∉ ts → σ'[k]? = σ[k]?) → Q σ' H'
  | none => False
abbrev DG (X : Cx) (g : Gx) (ts : List Nat) (tg : Expr) (m : GM) : Prop := PG X tg (tGm g ts m)
theorem PG.imp {tg : Expr} {t t' : TG} (h : PG X tg t) (k : ∀ v σ H Q, t' v σ H Q → t v σ H Q) : PG X tg t' := ⟨fun pins s σ H v u Q I r q => h.run pins s σ H v u Q I r (k v σ H Q q)⟩
theorem PGs.imp {tg : List Expr} {t t' : TGs} (h : PGs X tg t) (k : ∀ v σ H Q, t' v σ H Q → t v σ H Q) : PGs X tg t' := ⟨fun pins s σ H v u Q I r q => h.run pins s σ H v u Q I r (k v σ H Q q)⟩
def gNm (i : Nat) : GM := fun d env => if i < env.length then some (setS i (.dat d) env) else none
theorem dg_name {i : Nat} {x : Str} {pos : Pos} (hN : X.N.Nodup) (hi : X.N[i]? = some x) (hx : Loc X.env.scope x) (hp : i ∉ g.pins) (hf : X.fn x = true ∨ X.env.scope.names.lookup x = some .local := by first | exact .inl rfl | exact .inr rfl | assumption) : DG X g [i] (.Name x pos) (gNm i) := by
  refine PG.imp (pg_name hN hi hx hf) fun v σ H Q ⟨Z, env, fps, d, s, r, h⟩ => ?_
  unfold gNm at h
  split at h
  · rename_i env' e
    split at e
    · rename_i hl
      cases e
      exact h Z _ _ _ (s.store hl hp (.inl ⟨d, rfl, rfl, r⟩) (by simp) (fun a m => by simp at m)) (.refl _) (by simp) fun k hk => List.getElem?_set_ne (fun e => hk (by simp [e]))
    · cases e
  · exact h.elim
abbrev GMs := List D → Ve → Option Ve
def tGms (g : Gx) (ts : List Nat) (m : GMs) : TGs := fun vs σ H Q => ∃ Z env fps ds, StR g Z env σ H fps ∧ RDs Z vs ds ∧ match m ds env with
  | some env' => ∀ Z' σ' H' fps', StR g Z' env' σ' H' fps' → Same Z Z' → σ'.length = σ.length → (∀ k, k ∉ ts → σ'[k]? = σ[k]?) → Q σ' H'
  | none => False
abbrev DGs (X : Cx) (g : Gx) (ts : List Nat) (tg : List Expr) (m : GMs) : Prop := PGs X tg (tGms g ts m)
def gNl : GMs := fun ds env => match ds with
  | [] => some env
  | _ => none
def gCs (m : GM) (r : GMs) : GMs := fun ds env => match ds with
  | d :: ds => (m d env).bind fun e1 => r ds e1
  | [] => none
theorem dgs_nil : DGs X g [] [] gNl := by
  refine PGs.imp pgs_nil fun vs σ H Q ⟨Z, env, fps, ds, s, r, h⟩ => ?_
  cases r with
  | nil => exact ⟨rfl, h Z σ H fps s (.refl _) rfl fun _ _ => rfl⟩
  | cons _ _ => exact h.elim
theorem dgs_cons {e : Expr} {es : List Expr} {m : GM} {r : GMs} {t1 t2 : List Nat} (h1 : DG X g t1 e m) (h2 : DGs X g t2 es r) (hs : (assignEach (e :: es) X.env).map (·.2) = assign e X.env :: (assignEach es X.env).map (·.2) := by rfl) : DGs X g (t1 ++ t2) (e :: es) (gCs m r) := by
  refine PGs.imp (pgs_cons h1 h2 hs) fun vs σ H Q ⟨Z, env, fps, ds, s, rr, h⟩ => ?_
  cases rr with
  | nil => exact h.elim
  | cons r1 r2 =>
    refine ⟨_, _, rfl, Z, env, fps, _, s, r1, ?_⟩
    simp only [gCs] at h
    split
    · rename_i env1 e1
      simp only [e1, Option.bind_some] at h
      intro Z1 σ1 H1 fps1 s1 z1 ll kk
      refine ⟨Z1, env1, fps1, _, s1, r2.mono z1, ?_⟩
      split at h
      · rename_i env2 e2
        exact fun Z2 σ2 H2 fps2 s2 z2 ll2 kk2 => h Z2 σ2 H2 fps2 s2 (z1.trans z2) (ll2.trans ll) fun k hk => (kk2 k fun m => hk (List.mem_append_right _ m)).trans (kk k fun m => hk (List.mem_append_left _ m))
      · exact h.elim
    · rename_i e1
      simp [e1] at h
def gTp (n : Nat) (m : GMs) : GM := fun d env => match d with
  | .tup ds => if ds.length = n then m ds env else none
  | _ => none
theorem dg_tup {es : List Expr} {k : Nat} {m : GMs} {n : Nat} {ts : List Nat} {pos : Pos} (hc : X.calm = true) (h : DGs X g ts es m) (hn : (assignEach es X.env).length = n := by rfl) (hst : (assignEach es X.env).findIdx? (·.1) = none := by rfl) : DG X g ts (.Tuple es k pos) (gTp n m) := by
  refine PG.imp (pg_tup hc h hn hst) fun v σ H Q ⟨Z, env, fps, d, s, r, h⟩ => ?_
  cases r with
  | tup h1 r1 =>
    simp only [gTp] at h
    split at h
    · rename_i env' e
      split at e
      · rename_i hl
        refine ⟨_, _, rfl, .of (s.sub _ _ h1), by rw [r1.length]; exact hl, Z, env, fps, _, s, r1, ?_⟩
        rw [e]
        exact h
      · cases e
    · exact h.elim
  | _ => exact h.elim
end
end DL
namespace DL
open PySem PySem.Spec PyProof.Rows L2
section
variable {X : Cx} {g : Gx} {Z Z' H H' : Hp} {env env' : Ve} {σ σ' : L2.St} {fps fps' : Nat → List Addr}
/-! ### another entry -/
def Gx.at (g : Gx) (n : En) : Gx := { g with n := n }
def Gx.blk (g : Gx) (n : En) : Gx := { g with n := n, W := fun _ _ _ _ => False }
theorem StR.rebase {g' : Gx} {F : List Addr} {vs : List V} {Z2 H2 : Hp} {env2 : Ve} {σ2 : L2.St} {fps2 : Nat → List Addr} (s : StR g Z env σ H fps) (hm : g'.mg = g.mg) (hn : g'.n = ⟨Z, H, F, vs⟩) (hF : ∀ a ∈ F, ∃ i, a ∈ fps i)
    (hp : ∀ i ∈ g.pins, ∃ v, g.n.vs[i]? = some v ∧ σ2[i]? = some (some v)) (s' : StR g' Z2 env2 σ2 H2 fps2) : StR g Z2 env2 σ2 H2 fps2 := by
  have a1 := s'.e1
  have a2 := s'.e2
  have a3 := s'.e3
  have a4 := s'.e4
  rw [hn] at a1 a2 a3 a4
  simp only at a1 a2 a3 a4
  have inF : ∀ b, b ∈ F → b ∈ g.n.F0 ∨ g.n.H0 b = none := fun b m => by
    obtain ⟨i, hi⟩ := hF b m
    exact s.e4 i b hi
  have noH : ∀ b, H b = none → b ∈ g.n.F0 ∨ g.n.H0 b = none := fun b e => (s.new0 e).2
  refine ⟨s'.len, s'.sub, fun i x e => ?_, s'.out, s'.dis, s'.nd, s'.nz, s.e1.trans a1, fun b o e k => ?_, fun b o e => ?_, fun i a m => ?_, hp⟩
  · have := s'.slot i x e
    rw [hm] at this
    exact this
  · refine a2 b o (s.e2 b o e k) fun m => ?_
    rcases inF b m with h | h
    · exact k h
    · rw [e] at h; cases h
  · rcases a3 b o e with h | h | h
    · exact s.e3 b o h
    · exact .inr (inF b h)
    · exact .inr (noH b h)
  · rcases a4 i a m with h | h
    · exact inF a h
    · exact noH a h
/-- a frame's footprint as a list -/
def allF (n : Nat) (fps : Nat → List Addr) : List Addr := (List.range n).flatMap fps
theorem mem_allF {n : Nat} {a : Addr} : a ∈ allF n fps ↔ ∃ i, i < n ∧ a ∈ fps i := by
  unfold allF
  simp [List.mem_flatMap]
/-- from here on -/
theorem StR.enter (s : StR g Z env σ H fps) : StR (g.blk ⟨Z, H, allF env.length fps, g.n.vs⟩) Z env σ H fps where
  len := s.len
  sub := s.sub
  slot := s.slot
  out := s.out
  dis := s.dis
  nd := s.nd
  nz := s.nz
  e1 := .refl _
  e2 := fun b o e _ => e
  e3 := fun b o e => .inl e
  e4 := fun i a m => .inl (mem_allF.mpr ⟨i, (by
    by_cases h : i < env.length
    · exact h
    · rw [s.out i (Nat.le_of_not_lt h)] at m; simp at m), m⟩)
  pin := s.pin
/-! ### slots forgotten and brought back -/
def wipeV (own : List Nat) (env : Ve) : Ve := own.foldr (fun i acc => acc.set i .un) env
def keepS : Option S → S
  | some (.dat d) => .dat d
  | _ => .un
def restV (own : List Nat) (e e2 : Ve) : Ve := own.foldr (fun i acc => acc.set i (keepS e[i]?)) e2
def noOwn : Option S → Bool
  | some (.own _) => false
  | _ => true
def freeV (own : List Nat) (env : Ve) : Bool := own.all fun i => noOwn env[i]?
theorem wipeV_length : ∀ (own : List Nat) (env : Ve), (wipeV own env).length = env.length
  | [], _ => rfl
  | i :: own, env => by
    show ((wipeV own env).set i .un).length = _
    rw [List.length_set, wipeV_length own env]
theorem wipeV_get {k : Nat} : ∀ (own : List Nat) (env : Ve), k < env.length → (wipeV own env)[k]? = if k ∈ own then some .un else env[k]?
  | [], env, _ => by simp [wipeV]
  | i :: own, env, h => by
    show ((wipeV own env).set i .un)[k]? = _
    by_cases c : i = k
    · subst c
      rw [List.getElem?_set_self (by rw [wipeV_length]; exact h)]
      simp
    · rw [List.getElem?_set_ne c, wipeV_get own env h]
      have : k ≠ i := fun e => c e.symm
      simp [this]
theorem restV_length (e : Ve) : ∀ (own : List Nat) (env : Ve), (restV own e env).length = env.length
  | [], _ => rfl
  | i :: own, env => by
    show ((restV own e env).set i _).length = _
    rw [List.length_set, restV_length e own env]
theorem restV_get {k : Nat} (e : Ve) : ∀ (own : List Nat) (env : Ve), k < env.length → (restV own e env)[k]? = if k ∈ own then some (keepS e[k]?) else env[k]?
  | [], env, _ => by simp [restV]
  | i :: own, env, h => by
    show ((restV own e env).set i _)[k]? = _
    by_cases c : i = k
    · subst c
      rw [List.getElem?_set_self (by rw [restV_length]; exact h)]
      simp
    · rw [List.getElem?_set_ne c, restV_get e own env h]
      have : k ≠ i := fun e => c e.symm
      simp [this]
theorem wipe_get {k : Nat} : ∀ (own : List Nat) (σ : L2.St), k < σ.length → (wipe σ own)[k]? = if k ∈ own then some none else σ[k]?
  | [], σ, _ => by simp [wipe]
  | i :: own, σ, h => by
    show ((wipe σ own).set i none)[k]? = _
    by_cases c : i = k
    · subst c
      rw [List.getElem?_set_self (by rw [wipe_length]; exact h)]
      simp
    · rw [List.getElem?_set_ne c, wipe_get own σ h]
      have : k ≠ i := fun e => c e.symm
      simp [this]
theorem freeV_get {own : List Nat} (h : freeV own env = true) {k : Nat} (m : k ∈ own) {t : O} (e : env[k]? = some (.own t)) : False := by
  have := List.all_eq_true.mp h k m
  rw [e] at this
  cases this
theorem StR.wipe {own : List Nat} (s : StR g Z env σ H fps) (hf : freeV own env = true) (hp : ∀ i ∈ own, i ∉ g.pins) : StR g Z (wipeV own env) (L2.wipe σ own) H fps where
  len := by rw [wipe_length, wipeV_length]; exact s.len
  sub := s.sub
  slot := fun i x e => by
    have hi : i < env.length := by
      have := (List.getElem?_eq_some_iff.mp e).1
      rw [wipeV_length] at this
      exact this
    have hσ : i < σ.length := by rw [s.len]; exact hi
    rw [wipeV_get own env hi] at e
    by_cases m : i ∈ own
    · rw [if_pos m] at e
      cases e
      have q := s.slot i env[i] (List.getElem?_eq_getElem hi)
      show fps i = []
      cases e2 : env[i] with
      | un => rw [e2] at q; exact q
      | dat d => rw [e2] at q; exact q.1
      | own t => exact (freeV_get hf m (t := t) (by rw [List.getElem?_eq_getElem hi, e2])).elim
      | al j p => rw [e2] at q; exact q.1
    · rw [if_neg m] at e
      have q := s.slot i x e
      have hg : (L2.wipe σ own)[i]? = σ[i]? := by rw [wipe_get own σ hσ, if_neg m]
      cases x with
      | un => exact q
      | dat d => obtain ⟨e1, v, h1, h2⟩ := q; exact ⟨e1, v, by rw [hg]; exact h1, h2⟩
      | own t => obtain ⟨v, h1, h2⟩ := q; exact ⟨v, by rw [hg]; exact h1, h2⟩
      | al j p =>
        obtain ⟨e1, ⟨t, ht⟩, v, vj, h1, h2, h3⟩ := q
        have hj : j ∉ own := fun mj => freeV_get hf mj ht
        have hjl : j < env.length := (List.getElem?_eq_some_iff.mp ht).1
        exact ⟨e1, ⟨t, by rw [wipeV_get own env hjl, if_neg hj]; exact ht⟩, v, vj, by rw [hg]; exact h1, by rw [wipe_get own σ (by rw [s.len]; exact hjl), if_neg hj]; exact h2, h3⟩
  out := fun i h => s.out i (by rw [wipeV_length] at h; exact h)
  dis := s.dis
  nd := s.nd
  nz := s.nz
  e1 := s.e1
  e2 := s.e2
  e3 := s.e3
  e4 := s.e4
  pin := fun i hi => by
    obtain ⟨v, h1, h2⟩ := s.pin i hi
    refine ⟨v, h1, ?_⟩
    rw [wipe_get own σ (List.getElem?_eq_some_iff.mp h2).1, if_neg fun m => hp i m hi]
    exact h2
/-- the slots of own brought back from an elder state -/
theorem StR.rest {own : List Nat} {Z0 H0 : Hp} {env0 : Ve} {σ0 : L2.St} {fps0 : Nat → List Addr} (s0 : StR g Z0 env0 σ0 H0 fps0) (z : Same Z0 Z) (s : StR g Z env σ H fps) (hl : env.length = env0.length) (hf : freeV own env = true)
    (hσ : ∀ k, k ∉ own → σ[k]? = σ0[k]?) : StR g Z (restV own env0 env) σ0 H fps where
  len := by rw [restV_length, hl]; exact s0.len
  sub := s.sub
  slot := fun i x e => by
    have hi : i < env.length := by
      have := (List.getElem?_eq_some_iff.mp e).1
      rw [restV_length] at this
      exact this
    rw [restV_get env0 own env hi] at e
    by_cases m : i ∈ own
    · rw [if_pos m] at e
      have hfp : fps i = [] := by
        have q := s.slot i env[i] (List.getElem?_eq_getElem hi)
        cases e2 : env[i] with
        | un => rw [e2] at q; exact q
        | dat d => rw [e2] at q; exact q.1
        | own t => exact (freeV_get hf m (t := t) (by rw [List.getElem?_eq_getElem hi, e2])).elim
        | al j p => rw [e2] at q; exact q.1
      cases e
      rw [hfp]
      cases e3 : env0[i]? with
      | none => exact rfl
      | some y =>
        cases y with
        | dat d =>
          obtain ⟨_, v, h1, h2⟩ := s0.slot i _ e3
          exact ⟨rfl, v, h1, h2.mono z⟩
        | _ => exact rfl
    · rw [if_neg m] at e
      have q := s.slot i x e
      have hg := hσ i m
      cases x with
      | un => exact q
      | dat d => obtain ⟨e1, v, h1, h2⟩ := q; exact ⟨e1, v, by rw [← hg]; exact h1, h2⟩
      | own t => obtain ⟨v, h1, h2⟩ := q; exact ⟨v, by rw [← hg]; exact h1, h2⟩
      | al j p =>
        obtain ⟨e1, ⟨t, ht⟩, v, vj, h1, h2, h3⟩ := q
        have hj : j ∉ own := fun mj => freeV_get hf mj ht
        have hjl : j < env.length := (List.getElem?_eq_some_iff.mp ht).1
        exact ⟨e1, ⟨t, by rw [restV_get env0 own env hjl, if_neg hj]; exact ht⟩, v, vj, by rw [← hg]; exact h1, by rw [← hσ j hj]; exact h2, h3⟩
  out := fun i h => s.out i (by rw [restV_length] at h; exact h)
  dis := s.dis
  nd := s.nd
  nz := s.nz
  e1 := s.e1
  e2 := s.e2
  e3 := s.e3
  e4 := s.e4
  pin := s0.pin
/-- a list beside the slots changes -/
theorem walk_upd {D : Addr} {vs ws : List V} (hD : H D = some (.lst vs)) : ∀ {p : List Str} {v u : V}, walk H v p = some u → walk (upd H D (.lst ws)) v p = some u
  | [], v, u, e => by unfold walk at e ⊢; exact e
  | f :: p, v, u, e => by
    cases v with
    | ref a =>
      unfold walk at e ⊢
      split at e
      · rename_i C dx fs h
        have hne : a ≠ D := fun c => by rw [c, hD] at h; cases h
        rw [upd_ne hne, h]
        show (fs.lookup f).bind (fun u => walk _ u p) = some u
        cases q : fs.lookup f with
        | none => rw [q] at e; cases e
        | some w =>
          rw [q] at e
          exact walk_upd (p := p) hD e
      · cases e
    | _ => simp [walk] at e
theorem StR.beside {D : Addr} {vs ws : List V} (s : StR g Z env σ H fps) (hD : H D = some (.lst vs)) (hZ : Z D = none) (hF : ∀ k, D ∉ fps k) (hE : D ∈ g.n.F0 ∨ g.n.H0 D = none) : StR g Z env σ (upd H D (.lst ws)) fps where
  len := s.len
  sub := fun b o e => by
    have hne : b ≠ D := fun c => by rw [c, hZ] at e; cases e
    rw [upd_ne hne]; exact s.sub b o e
  slot := fun i x e => (s.slot i x e).keep (.refl _) (fun a m => upd_ne fun c => hF i (c ▸ m)) fun v p u => walk_upd hD
  out := s.out
  dis := s.dis
  nd := s.nd
  nz := s.nz
  e1 := s.e1
  e2 := fun b o e k => by
    have hne : b ≠ D := fun c => by
      subst c
      rcases hE with h | h
      · exact k h
      · rw [h] at e; cases e
    rw [upd_ne hne]; exact s.e2 b o e k
  e3 := s.e3
  e4 := s.e4
  pin := s.pin
/-! ### comprehensions -/
abbrev DTs (X : Cx) (g : Gx) (pu : Bool) (ifs : List Expr) (m : TM) : Prop := PTs X ifs (tT g pu m)
theorem PTs.imp {e : List Expr} {t t' : TT} (h : PTs X e t) (k : ∀ σ H Q, t' σ H Q → t σ H Q) : PTs X e t' := ⟨fun pins s σ H Q I q => h.run pins s σ H Q I (k σ H Q q)⟩
def tYesM : TM := fun env => .ok true env
theorem dts_nil : DTs X g true [] tYesM := PTs.imp pts_nil fun σ H Q ⟨Z, env, fps, s, h⟩ => h true Z H fps s (.refl _) (fun _ => ⟨rfl, rfl, .refl _⟩) rfl
theorem dts_one {p : Bool} {c : Expr} {m : TM} (h : DT X g p c m) : DTs X g p [c] m := pts_one h
def compL (own : List Nat) (gm : GM) (tm : TM) (em : EM) : List D → Ve → List D → Res Ev
  | [], e, acc => .ok (.new (.lst acc)) e
  | d :: ds, e, acc => if freeV own e = true then match gm d (wipeV own e) with
      | none => .no
      | some e2 => match tm e2 with
        | .ok true e3 => match hold true (em e3) with
          | .ok (.dat x) e4 => if acc.length < lim ∧ freeV own e4 = true ∧ e4.length = e.length then compL own gm tm em ds (restV own e e4) (acc ++ [x]) else .no
          | _ => .no
        | .ok false e3 => if freeV own e3 = true ∧ e3.length = e.length then compL own gm tm em ds (restV own e e3) acc else .no
        | _ => .no
    else .no
def eComp (own : List Nat) (im : IM) (gm : GM) (tm : TM) (em : EM) : EM := fun env => (im env).bind fun ds e1 => compL own gm tm em ds e1 []
theorem wipe_eq {own : List Nat} {σ1 σ2 : L2.St} (hl : σ1.length = σ2.length) (h : ∀ k, k ∉ own → σ1[k]? = σ2[k]?) : L2.wipe σ1 own = L2.wipe σ2 own := by
  refine List.ext_getElem? fun k => ?_
  by_cases hk : k < σ1.length
  · rw [wipe_get own σ1 hk, wipe_get own σ2 (by omega)]
    by_cases m : k ∈ own
    · rw [if_pos m, if_pos m]
    · rw [if_neg m, if_neg m]; exact h k m
  · rw [List.getElem?_eq_none (by rw [wipe_length]; omega), List.getElem?_eq_none (by rw [wipe_length]; omega)]
end
section
variable {X : Cx} {g : Gx}
theorem comp_run {ow : List Nat} {p pt pe : Bool} {mi : IM} {gm : GM} {tm : TM} {em : EM} {ts : List Nat} (hpin : ∀ i ∈ ow, i ∉ g.pins) (hts : ∀ i ∈ ts, i ∈ ow) {σ : L2.St} {H : Hp} {Q : VK} (h : tE g false (eComp ow mi gm tm em) σ H Q) :
    tLc (tR g p (fun Z' _ _ _ J ds => ItOk J Z' ds) mi) (fun v σ H Q => ∃ n, tGm (g.blk n) ts gm v σ H Q) (fun σ H Q => ∃ n, tT (g.blk n) pt tm σ H Q) (fun σ H Q => ∃ n, tE (g.blk n) pe em σ H Q) ow σ H Q := by
  obtain ⟨Z, env, fps, s, h⟩ := h
  refine ⟨Z, env, fps, s, ?_⟩
  unfold eComp at h
  cases e : mi env with
  | no => simp [e] at h
  | ex x e1 => simpa [e] using h
  | ok ds e1 =>
    simp only [e, Res.bind_ok] at h
    intro J Z1 H1 fps1 s1 z1 _ it D hD
    let W : Nat → Nat → Hp → Prop := fun i m H2 => m = ds.length - i ∧ i ≤ ds.length ∧ ∃ Z2 e2 fps2 acc vs, StR g Z2 e2 σ H2 fps2 ∧ Same Z1 Z2 ∧ H2 D = some (.lst vs) ∧ RDs Z2 vs acc ∧ Z2 D = none ∧ (∀ k, D ∉ fps2 k) ∧
      Post g false (EvR g) Z env σ H fps Q (compL ow gm tm em (ds.drop i) e2 acc)
    have hst : D ∈ g.n.F0 ∨ g.n.H0 D = none := (s1.new0 hD).2
    refine ⟨W, ⟨ds.length, by omega, Nat.zero_le _, Z1, e1, fps1, [], [], s1.fresh (.new s1.sub hD), .refl _, upd_same, .nil, ?_, (s1.new0 hD).1, by simpa using h⟩, ?_⟩
    · cases q : Z1 D with
      | none => rfl
      | some o => rw [s1.sub _ _ q] at hD; cases hD
    rintro i m H2 ⟨rfl, hi2, Z2, e2, fps2, acc, vs, s2, z2, hH2, rv, hZ2, hF2, po⟩
    by_cases hlt : i < ds.length
    · right
      have hd : ds[i]? = some ds[i] := List.getElem?_eq_getElem hlt
      obtain ⟨go, yl⟩ := it.go i _ hd Z2 H2 z2 s2.sub
      refine ⟨go, fun H' => ∃ m', m' < ds.length - i ∧ W (i + 1) m' H', fun H' x => x, fun x H3 hy => ?_⟩
      obtain ⟨Z3, fr, rx⟩ := yl x H3 hy
      have s3 := s2.fresh fr
      rw [show ds.drop i = ds[i] :: ds.drop (i + 1) from (List.drop_eq_getElem_cons hlt)] at po
      simp only [compL] at po
      have hH3 : H3 D = some (.lst vs) := fr.h _ _ hH2
      have hZ3 : Z3 D = none := by
        cases q : Z3 D with
        | none => rfl
        | some o =>
          rcases fr.n D o q with k | k
          · rw [hZ2] at k; cases k
          · rw [hH2] at k; cases k
      split at po
      case isFalse => exact po.elim
      rename_i hfree
      have s3w : StR (g.blk ⟨Z3, H3, allF (wipeV ow e2).length fps2, g.n.vs⟩) Z3 (wipeV ow e2) (L2.wipe σ ow) H3 fps2 := (s3.wipe hfree hpin).enter
      have hDF : D ∉ allF (wipeV ow e2).length fps2 := fun m => by
        obtain ⟨k, _, hk⟩ := mem_allF.mp m
        exact hF2 k hk
      refine ⟨⟨Z3, H3, allF (wipeV ow e2).length fps2, g.n.vs⟩, Z3, wipeV ow e2, fps2, ds[i], s3w, rx, ?_⟩
      split at po
      · exact po.elim
      rename_i e4 hgm
      rw [hgm]
      intro Z4 σ4 H4 fps4 s4 z4 hl4 hσ4
      have hl4' : σ4.length = σ.length := by rw [hl4, wipe_length]
      have hσ4' : ∀ k, k ∉ ow → σ4[k]? = σ[k]? := fun k hk => by
        rw [hσ4 k fun m => hk (hts k m)]
        by_cases hkl : k < σ.length
        · rw [wipe_get ow σ hkl, if_neg hk]
        · rw [List.getElem?_eq_none (by rw [wipe_length]; omega), List.getElem?_eq_none (by omega)]
      refine ⟨wipe_eq hl4' hσ4', ?_⟩
      have pins4 : ∀ i ∈ g.pins, ∃ v, g.n.vs[i]? = some v ∧ σ4[i]? = some (some v) := fun i hi => by
        obtain ⟨v, h1, h2⟩ := s3.pin i hi
        refine ⟨v, h1, ?_⟩
        rw [hσ4' i fun m => hpin i m hi]
        exact h2
      have hmem : ∀ a ∈ allF (wipeV ow e2).length fps2, ∃ i, a ∈ fps2 i := fun a m => by
        obtain ⟨k, _, hk⟩ := mem_allF.mp m
        exact ⟨k, hk⟩
      -- where the new list stands
      have dOk : ∀ {Z5 H5 : Hp} {e5 : Ve} {fps5 : Nat → List Addr}, StR (g.blk ⟨Z3, H3, allF (wipeV ow e2).length fps2, g.n.vs⟩) Z5 e5 σ4 H5 fps5 → H5 D = some (.lst vs) ∧ Z5 D = none ∧ ∀ k, D ∉ fps5 k := fun {Z5 H5 e5 fps5} s5 => by
        refine ⟨s5.e2 D _ hH3 hDF, ?_, fun k m => ?_⟩
        · cases q : Z5 D with
          | none => rfl
          | some o =>
            rcases s5.e3 D o q with k | k | k
            · have k' : Z3 D = some o := k
              rw [hZ3] at k'; cases k'
            · exact (hDF k).elim
            · have k' : H3 D = none := k
              rw [hH3] at k'; cases k'
        · rcases s5.e4 k D m with q | q
          · exact hDF q
          · have q' : H3 D = none := q
            rw [hH3] at q'; cases q'
      have nextW : ∀ {Z5 H5 : Hp} {e5 : Ve} {fps5 : Nat → List Addr} {acc' : List DL.D} {ws : List V}, StR (g.blk ⟨Z3, H3, allF (wipeV ow e2).length fps2, g.n.vs⟩) Z5 e5 σ4 H5 fps5 → Same Z3 Z5 → freeV ow e5 = true → e5.length = e2.length → RDs Z5 ws acc' →
          Post g false (EvR g) Z env σ H fps Q (compL ow gm tm em (ds.drop (i + 1)) (restV ow e2 e5) acc') → ∃ m', m' < ds.length - i ∧ W (i + 1) m' (upd H5 D (.lst ws)) := fun {Z5 H5 e5 fps5 acc' ws} s5 z5 hf5 hl5 rw5 po5 => by
        obtain ⟨d1, d2, d3⟩ := dOk s5
        have s5' : StR g Z5 e5 σ4 H5 fps5 := s3.rebase (g' := g.blk _) rfl rfl hmem pins4 s5
        have s6 : StR g Z5 (restV ow e2 e5) σ H5 fps5 := s3.rest z5 s5' hl5 hf5 hσ4'
        exact ⟨ds.length - (i + 1), by omega, rfl, hlt, Z5, restV ow e2 e5, fps5, acc', ws, s6.beside d1 d2 d3 hst, (z2.trans fr.z).trans z5, upd_same, rw5, d2, d3, po5⟩
      refine ⟨⟨Z3, H3, allF (wipeV ow e2).length fps2, g.n.vs⟩, Z4, e4, fps4, s4, ?_⟩
      cases et : tm e4 with
      | no => simp [et] at po
      | ex x e5 => simp [et] at po
      | ok b e5 =>
        rw [et] at po
        intro b' Z5 H5 fps5 s5 z5 _ rb
        subst rb
        cases b' with
        | false =>
          simp only at po
          rw [if_neg Bool.false_ne_true]
          split at po
          · rename_i hf5
            obtain ⟨d1, d2, d3⟩ := dOk s5
            have q := nextW s5 (z4.trans z5) hf5.1 hf5.2 (rv.mono ((fr.z.trans z4).trans z5)) po
            have e6 : upd H5 D (.lst vs) = H5 := by
              funext b
              by_cases c : b = D
              · rw [c, upd_same, d1]
              · rw [upd_ne c]
            rw [e6] at q
            exact q
          · exact po.elim
        | true =>
          simp only at po
          rw [if_pos rfl]
          refine ⟨⟨Z3, H3, allF (wipeV ow e2).length fps2, g.n.vs⟩, hold_run (q := true) s5 (fun x e6 he6 y Z6 H6 fps6 s6 z6 k6 r6 => ?_) (fun x e6 he6 => ?_) (fun he6 => ?_)⟩
          · rw [he6] at po
            cases x with
            | dat d' =>
              simp only at po
              split at po
              · rename_i hf6
                obtain ⟨d1, d2, d3⟩ := dOk s6
                have rv' := rv.mono (((fr.z.trans z4).trans z5).trans z6)
                refine ⟨vs, d1, ?_, nextW s6 ((z4.trans z5).trans z6) hf6.2.1 hf6.2.2 (rv'.append (.cons r6 .nil)) po⟩
                rw [rv.length]
                exact Nat.lt_of_lt_of_le hf6.1 (by rw [sizeLine_eq]; exact Nat.le_refl _)
              · exact po.elim
            | _ => exact po.elim
          · rw [he6] at po; exact po.elim
          · rw [he6] at po; exact po.elim
    · left
      have hi3 : i = ds.length := by omega
      subst hi3
      refine ⟨it.stop Z2 H2 z2 s2.sub, ?_⟩
      rw [List.drop_length] at po
      simp only [compL] at po
      exact po (.ref D) Z2 H2 fps2 s2 (z1.trans z2) (fun q => by cases q) ⟨[D], .lst hH2 rv, by simp, fun a m => by
        have ea : a = D := by simpa using m
        subst ea
        exact ⟨hZ2, hF2, hst⟩⟩
theorem de_comp {own : List (Str × Nat)} {p pt pe : Bool} {tg iter elt : Expr} {ifs : List Expr} {scope : Scope} {pos : Pos} {mi : IM} {gm : GM} {tm : TM} {em : EM} {ts : List Nat} (hc : X.calm = true) (hN : X.N.Nodup) (hi : DI X g p tg iter mi) (ok : BlkOk X.N X.env.scope scope own)
    (hpin : ∀ i ∈ own.map (·.2), i ∉ g.pins) (hts : ∀ i ∈ ts, i ∈ own.map (·.2))
    (hg : ∀ (n : En) (s : Shared) (H : Hp) (C : Addr) (cl : List (Str × Addr)) (fp : List Addr), DG (X.blk s H scope (compEnvC scope cl C X.env) fp) (g.blk n) ts tg gm)
    (ht : ∀ (n : En) (s : Shared) (H : Hp) (C : Addr) (cl : List (Str × Addr)) (fp : List Addr), DTs (X.blk s H scope (compEnvC scope cl C X.env) fp) (g.blk n) pt ifs tm)
    (he : ∀ (n : En) (s : Shared) (H : Hp) (C : Addr) (cl : List (Str × Addr)) (fp : List Addr), DE (X.blk s H scope (compEnvC scope cl C X.env) fp) (g.blk n) pe elt em)
    (hs : ∀ x, foldedSetIterable iter X.env x = pure x := by intro _; rfl) :
    DE X g false (.ListComp elt [⟨tg, iter, ifs, 0⟩] scope pos) (eComp (own.map (·.2)) mi gm tm em) := by
  refine PE.imp (pe_lc (own := own) (g := fun v σ H Q => ∃ n, tGm (g.blk n) ts gm v σ H Q) (tt := fun σ H Q => ∃ n, tT (g.blk n) pt tm σ H Q) (te := fun σ H Q => ∃ n, tE (g.blk n) pe em σ H Q) hc hN hi ok
    (fun s H C cl fp => ⟨fun pins s' σ H' v u Q I r ⟨n, q⟩ => (hg n s H C cl fp).run pins s' σ H' v u Q I r q⟩)
    (fun s H C cl fp => ⟨fun pins s' σ H' Q I ⟨n, q⟩ => (ht n s H C cl fp).run pins s' σ H' Q I q⟩)
    (fun s H C cl fp => ⟨fun pins s' σ H' Q I ⟨n, q⟩ => (he n s H C cl fp).run pins s' σ H' Q I q⟩) hs) fun σ H Q h => comp_run hpin hts h
end
end DL
namespace DL
open PySem PySem.Spec PyProof.Rows L2
/-! ### statements -/
inductive Out where
  | nx (e : Ve) | rt (r : Ev) (e : Ve) | bk (e : Ve) | ct (e : Ve) | ex (x : Exn) (e : Ve) | no
abbrev SM := Ve → Out
def PostS (g : Gx) (Z : Hp) (D : Ends) : Out → Prop
  | .nx e => ∀ Z' σ' H' fps', StR g Z' e σ' H' fps' → Same Z Z' → D.nx σ' H'
  | .bk e => ∀ Z' σ' H' fps', StR g Z' e σ' H' fps' → Same Z Z' → D.bk σ' H'
  | .ct e => ∀ Z' σ' H' fps', StR g Z' e σ' H' fps' → Same Z Z' → D.ct σ' H'
  | .rt r e => ∀ v Z' σ' H' fps', StR g Z' e σ' H' fps' → Same Z Z' → EvR g Z' H' σ' fps' v r → D.rt v H'
  | .ex x e => ∀ cls d Z' σ' H' fps', StR g Z' e σ' H' fps' → Same Z Z' → XR g.mg Z' H' cls d x → g.W cls d σ' H'
  | .no => False
def tS (g : Gx) (m : SM) : TS := fun D σ H => ∃ Z env fps, StR g Z env σ H fps ∧ PostS g Z D (m env)
abbrev DS (X : Cx) (g : Gx) (st : Stmt) (m : SM) : Prop := PS X st (tS g m)
abbrev DSs (X : Cx) (g : Gx) (st : List Stmt) (m : SM) : Prop := PSs X st (tS g m)
section
variable {X : Cx} {g : Gx}
theorem PS.imp {e : Stmt} {t t' : TS} (h : PS X e t) (k : ∀ D σ H, t' D σ H → t D σ H) : PS X e t' := ⟨fun pins s σ H D I q => h.run pins s σ H D I (k D σ H q)⟩
theorem PSs.imp {e : List Stmt} {t t' : TS} (h : PSs X e t) (k : ∀ D σ H, t' D σ H → t D σ H) : PSs X e t' := ⟨fun pins s σ H D I q => h.run pins s σ H D I (k D σ H q)⟩
theorem PostS.mono {Z Z2 : Hp} {D : Ends} {o : Out} (z : Same Z Z2) (h : PostS g Z D o) : PostS g Z2 D o := by
  cases o with
  | no => exact h
  | nx e => exact fun Z' σ' H' fps' s' z' => h Z' σ' H' fps' s' (z.trans z')
  | bk e => exact fun Z' σ' H' fps' s' z' => h Z' σ' H' fps' s' (z.trans z')
  | ct e => exact fun Z' σ' H' fps' s' z' => h Z' σ' H' fps' s' (z.trans z')
  | rt r e => exact fun v Z' σ' H' fps' s' z' => h v Z' σ' H' fps' s' (z.trans z')
  | ex x e => exact fun cls d Z' σ' H' fps' s' z' => h cls d Z' σ' H' fps' s' (z.trans z')
/-- an expression's mirror, then a statement's end -/
def Out.ofRes {α : Type} (r : Res α) (f : α → Ve → Out) : Out := match r with
  | .ok a e => f a e
  | .ex x e => .ex x e
  | .no => .no
@[simp] theorem ofRes_ok {α : Type} (a : α) (e : Ve) (f : α → Ve → Out) : Out.ofRes (.ok a e) f = f a e := rfl
@[simp] theorem ofRes_ex {α : Type} (x : Exn) (e : Ve) (f : α → Ve → Out) : Out.ofRes (.ex x e) f = .ex x e := rfl
@[simp] theorem ofRes_no {α : Type} (f : α → Ve → Out) : Out.ofRes (.no) f = .no := rfl
def Out.seq (o : Out) (k : Ve → Out) : Out := match o with
  | .nx e => k e
  | o => o
@[simp] theorem seq_nx (e : Ve) (k : Ve → Out) : Out.seq (.nx e) k = k e := rfl
@[simp] theorem seq_rt (r : Ev) (e : Ve) (k : Ve → Out) : Out.seq (.rt r e) k = .rt r e := rfl
@[simp] theorem seq_bk (e : Ve) (k : Ve → Out) : Out.seq (.bk e) k = .bk e := rfl
@[simp] theorem seq_ct (e : Ve) (k : Ve → Out) : Out.seq (.ct e) k = .ct e := rfl
@[simp] theorem seq_ex (x : Exn) (e : Ve) (k : Ve → Out) : Out.seq (.ex x e) k = .ex x e := rfl
@[simp] theorem seq_no (k : Ve → Out) : Out.seq .no k = .no := rfl
def sSeq (a b : SM) : SM := fun env => (a env).seq b
def sPass : SM := fun env => .nx env
theorem dss_nil : DSs X g [] sPass := PSs.imp pss_nil fun D σ H ⟨Z, env, fps, s, h⟩ => h Z σ H fps s (.refl _)
theorem dss_one {st : Stmt} {m : SM} (h : DS X g st m) : DSs X g [st] m := pss_one h
theorem dss_cons {st : Stmt} {rest : List Stmt} {m r : SM} (h : DS X g st m) (hr : DSs X g rest r) : DSs X g (st :: rest) (sSeq m r) := by
  refine PSs.imp (pss_cons h hr) fun D σ H ⟨Z, env, fps, s, h⟩ => ⟨Z, env, fps, s, ?_⟩
  unfold sSeq at h
  cases e : m env with
  | no => simp [e] at h; exact h
  | nx e1 =>
    simp only [e, seq_nx] at h
    exact fun Z' σ' H' fps' s' z' => ⟨Z', e1, fps', s', h.mono z'⟩
  | bk e1 => simp only [e, seq_bk] at h; exact h
  | ct e1 => simp only [e, seq_ct] at h; exact h
  | rt r e1 => simp only [e, seq_rt] at h; exact h
  | ex x e1 => simp only [e, seq_ex] at h; exact h
theorem ds_pass {pos : Pos} : DS X g (.Pass pos) sPass := PS.imp ps_pass fun D σ H ⟨Z, env, fps, s, h⟩ => h Z σ H fps s (.refl _)
theorem ds_break {pos : Pos} : DS X g (.Break pos) (fun env => .bk env) := PS.imp ps_break fun D σ H ⟨Z, env, fps, s, h⟩ => h Z σ H fps s (.refl _)
theorem ds_continue {pos : Pos} : DS X g (.Continue pos) (fun env => .ct env) := PS.imp ps_continue fun D σ H ⟨Z, env, fps, s, h⟩ => h Z σ H fps s (.refl _)
def sExpr (m : EM) : SM := fun env => Out.ofRes (m env) fun _ e => .nx e
theorem ds_expr {e : Expr} {p : Bool} {m : EM} {pos : Pos} (h : DE X g p e m) (hs : swapsWith e none pos.line X.env = pure false := by rfl) : DS X g (.Expr e pos) (sExpr m) := by
  refine PS.imp (ps_expr h hs) fun D σ H ⟨Z, env, fps, s, h⟩ => ⟨Z, env, fps, s, ?_⟩
  unfold sExpr at h
  cases e : m env with
  | no => simp only [e, ofRes_no] at h; exact h
  | ex x e1 => simp only [e, ofRes_ex] at h; exact fun cls d Z' H' fps' => h cls d Z' σ H' fps'
  | ok a e1 => simp only [e, ofRes_ok] at h; exact fun v Z' H' fps' s' z' _ _ => h Z' σ H' fps' s' z'
def sIf (c : TM) (a b : SM) : SM := fun env => Out.ofRes (c env) fun x e => if x = true then a e else b e
theorem ds_if {c : Expr} {a b : List Stmt} {p : Bool} {mc : TM} {ma mb : SM} {pos : Pos} (hc : DT X g p c mc) (ha : DSs X g a ma) (hb : DSs X g b mb) : DS X g (.If c a b pos) (sIf mc ma mb) := by
  refine PS.imp (ps_if hc ha hb) fun D σ H ⟨Z, env, fps, s, h⟩ => ⟨Z, env, fps, s, ?_⟩
  unfold sIf at h
  cases e : mc env with
  | no => simp only [e, ofRes_no] at h; exact h
  | ex x e1 => simp only [e, ofRes_ex] at h; exact fun cls d Z' H' fps' => h cls d Z' σ H' fps'
  | ok a e1 =>
    simp only [e, ofRes_ok] at h
    intro b Z' H' fps' s' z' _ r
    subst r
    cases b with
    | true =>
      rw [if_pos rfl] at h ⊢
      exact ⟨Z', e1, fps', s', h.mono z'⟩
    | false =>
      rw [if_neg Bool.false_ne_true] at h ⊢
      exact ⟨Z', e1, fps', s', h.mono z'⟩
/-! return -/
section
variable {Z H : Hp} {env : Ve} {σ : L2.St} {fps : Nat → List Addr}
def dropS (j : Nat) (env : Ve) : Ve := (env.map (killS j)).set j .un
theorem StR.drop (s : StR g Z env σ H fps) {j : Nat} {t : O} (hj : env[j]? = some (.own t)) : StR g Z (dropS j env) σ H (fun k => if k = j then [] else fps k) := by
  have hjl : j < env.length := (List.getElem?_eq_some_iff.mp hj).1
  refine ⟨by unfold dropS; rw [List.length_set, List.length_map]; exact s.len, s.sub, fun k y e => ?_, fun k hk => ?_, fun k l a h1 h2 => ?_, fun k => ?_, fun k a h1 => ?_, s.e1, s.e2, s.e3, fun k a h1 => ?_, s.pin⟩
  · by_cases c : k = j
    · subst c
      unfold dropS at e
      rw [List.getElem?_set_self (by simpa using hjl)] at e
      cases e
      rw [if_pos rfl]
      exact rfl
    · rw [if_neg c]
      unfold dropS at e
      rw [List.getElem?_set_ne (Ne.symm c), List.getElem?_map] at e
      cases q : env[k]? with
      | none => rw [q] at e; cases e
      | some y0 =>
        rw [q] at e
        cases e
        have h0 := s.slot k y0 q
        cases y0 with
        | un => exact h0
        | dat d => exact h0
        | own t2 => exact h0
        | al i p =>
          obtain ⟨e1, ⟨t3, ht⟩, w, vj, h1, h2, h3⟩ := h0
          show SR g.mg Z H _ _ k (if i = j then S.un else S.al i p) (fps k)
          by_cases c2 : i = j
          · rw [if_pos c2]; exact e1
          · rw [if_neg c2]
            refine ⟨e1, ⟨t3, ?_⟩, w, vj, h1, h2, h3⟩
            unfold dropS
            rw [List.getElem?_set_ne (Ne.symm c2), List.getElem?_map, ht]
            rfl
  · have hk' : env.length ≤ k := by unfold dropS at hk; simpa using hk
    have c : k ≠ j := by omega
    show (if k = j then [] else fps k) = []
    rw [if_neg c]
    exact s.out k hk'
  · by_cases c1 : k = j
    · simp [c1] at h1
    · by_cases c2 : l = j
      · simp [c2] at h2
      · simp only [c1, c2, if_false] at h1 h2
        exact s.dis k l a h1 h2
  · show (if k = j then [] else fps k).Nodup
    by_cases c : k = j
    · rw [if_pos c]; exact List.nodup_nil
    · rw [if_neg c]; exact s.nd k
  · by_cases c : k = j
    · simp [c] at h1
    · simp only [c, if_false] at h1; exact s.nz k a h1
  · by_cases c : k = j
    · simp [c] at h1
    · simp only [c, if_false] at h1; exact s.e4 k a h1
end
def sRet (m : EM) : SM := fun env => Out.ofRes (m env) fun v e => match v with
  | .dat d => .rt (.dat d) e
  | .new t => .rt (.new t) e
  | .pl j p => match p, e[j]? with
    | [], some (.own t) => .rt (.new t) (dropS j e)
    | _, _ => .no
theorem ds_ret {e : Expr} {p : Bool} {m : EM} {pos : Pos} (h : DE X g p e m) : DS X g (.Return (some e) pos) (sRet m) := by
  refine PS.imp (ps_ret h) fun D σ H ⟨Z, env, fps, s, h⟩ => ⟨Z, env, fps, s, ?_⟩
  unfold sRet at h
  cases e : m env with
  | no => simp only [e, ofRes_no] at h; exact h
  | ex x e1 => simp only [e, ofRes_ex] at h; exact fun cls d Z' H' fps' => h cls d Z' σ H' fps'
  | ok a e1 =>
    simp only [e, ofRes_ok] at h
    intro v Z' H' fps' s' z' _ r
    cases a with
    | dat d => exact h v Z' σ H' fps' s' z' r
    | new t => exact h v Z' σ H' fps' s' z' r
    | pl j p =>
      simp only at h
      split at h
      · rename_i t ht
        obtain ⟨vj, h1, h2⟩ := r
        obtain ⟨v0, h3, ow⟩ := s'.slot j _ ht
        rw [h1] at h3
        cases h3
        unfold walk at h2
        cases h2
        refine h _ Z' σ H' _ (s'.drop ht) z' ⟨fps' j, ow, s'.nd j, fun a m => ⟨s'.nz j a m, fun i mi => ?_, s'.e4 j a m⟩⟩
        by_cases c : i = j
        · simp [c] at mi
        · simp only [c, if_false] at mi
          exact c (s'.dis i j a mi m)
      · exact h.elim
def sRetN : SM := fun env => .rt (.dat .non) env
theorem ds_retN {pos : Pos} : DS X g (.Return none pos) sRetN := PS.imp ps_retN fun D σ H ⟨Z, env, fps, s, h⟩ => h .non Z σ H fps s (.refl _) .non
/-! assignments -/
/-- x = e -/
def sSet (i : Nat) (m : EM) : SM := fun env => Out.ofRes (hold true (m env)) fun v e => match v with
  | .dat d => if i < e.length then .nx (setS i (.dat d) e) else .no
  | _ => .no
/-- x = a new thing, to be changed -/
def sOwn (i : Nat) (m : EM) : SM := fun env => Out.ofRes (m env) fun v e => match v with
  | .new t => if i < e.length then .nx (setS i (.own t) e) else .no
  | _ => .no
/-- x = another name of a thing, or of a part of it -/
def sAli (i : Nat) (m : EM) : SM := fun env => Out.ofRes (m env) fun v e => match v, e[i]? with
  | .pl j p, some .un => match e[j]? with
    | some (.own t) => if (t.get p).isSome = true ∧ i ≠ j then .nx (e.set i (.al j p)) else .no
    | _ => .no
  | _, _ => .no
def AsgOk (X : Cx) (g : Gx) (p : Bool) (i : Nat) (st : Stmt) (m : EM) : Prop := PS X st (tAsg (tE g p m) (gName i))
theorem asg_of {i : Nat} {x : Str} {e : Expr} {p : Bool} {m : EM} {px pos : Pos} (h : DE X g p e m) (hN : X.N.Nodup) (hi : X.N[i]? = some x) (hx : Loc X.env.scope x) (hf : X.fn x = true ∨ X.env.scope.names.lookup x = some .local := by first | exact .inl rfl | exact .inr rfl | assumption)
    (hs : swapsWithSole [.Name x px] e pos.line X.env = pure false := by rfl) (hw : swappedStores [.Name x px] e X.env = pure none := by rfl) (h1 : (assignEach [.Name x px] X.env).map (·.2) = [assign (.Name x px) X.env] := by rfl) : AsgOk X g p i (.Assign [.Name x px] e pos) m := ps_asg h (pg_name hN hi hx hf) hs hw h1
theorem asg_comp {i : Nat} {y : Str} {py : Pos} {own : List (Str × Nat)} {p pt pe : Bool} {tg iter elt : Expr} {ifs : List Expr} {scope : Scope} {pos spos : Pos} {mi : IM} {gm : GM} {tm : TM} {em : EM} {ts : List Nat} (hc : X.calm = true) (hN : X.N.Nodup) (hy : X.N[i]? = some y) (hyl : X.env.scope.names.lookup y = some .local)
    (hsw : swapsWith (.ListComp elt [⟨tg, iter, ifs, 0⟩] scope pos) (some (.Name y py)) spos.line X.env = pure true) (hi : DI X g p tg iter mi) (ok : BlkOk X.N X.env.scope scope own)
    (hpin : ∀ i ∈ own.map (·.2), i ∉ g.pins) (hts : ∀ i ∈ ts, i ∈ own.map (·.2))
    (hg : ∀ (n : En) (s : Shared) (H : Hp) (C : Addr) (cl : List (Str × Addr)) (fp : List Addr), DG (X.blk s H scope (compEnvC scope cl C X.env) fp) (g.blk n) ts tg gm)
    (ht : ∀ (n : En) (s : Shared) (H : Hp) (C : Addr) (cl : List (Str × Addr)) (fp : List Addr), DTs (X.blk s H scope (compEnvC scope cl C X.env) fp) (g.blk n) pt ifs tm)
    (he : ∀ (n : En) (s : Shared) (H : Hp) (C : Addr) (cl : List (Str × Addr)) (fp : List Addr), DE (X.blk s H scope (compEnvC scope cl C X.env) fp) (g.blk n) pe elt em)
    (hs : ∀ x, foldedSetIterable iter X.env x = pure x := by intro _; rfl) : AsgOk X g false i (.Assign [.Name y py] (.ListComp elt [⟨tg, iter, ifs, 0⟩] scope pos) spos) (eComp (own.map (·.2)) mi gm tm em) := by
  refine PS.imp (ps_setLc (own := own) (g := fun v σ H Q => ∃ n, tGm (g.blk n) ts gm v σ H Q) (tt := fun σ H Q => ∃ n, tT (g.blk n) pt tm σ H Q) (te := fun σ H Q => ∃ n, tE (g.blk n) pe em σ H Q) hc hN hy hyl hsw hi ok
    (fun s H C cl fp => ⟨fun pins s' σ H' v u Q I r ⟨n, q⟩ => (hg n s H C cl fp).run pins s' σ H' v u Q I r q⟩)
    (fun s H C cl fp => ⟨fun pins s' σ H' Q I ⟨n, q⟩ => (ht n s H C cl fp).run pins s' σ H' Q I q⟩)
    (fun s H C cl fp => ⟨fun pins s' σ H' Q I ⟨n, q⟩ => (he n s H C cl fp).run pins s' σ H' Q I q⟩) hs) fun D σ H h => comp_run hpin hts h
theorem ds_set {i : Nat} {p : Bool} {st : Stmt} {m : EM} (h : AsgOk X g p i st m) (hp : i ∉ g.pins) : DS X g st (sSet i m) := by
  refine PS.imp h fun D σ H ⟨Z, env, fps, s, h⟩ => ?_
  unfold sSet at h
  refine hold_run (q := true) s (fun x e1 he v Z1 H1 fps1 s1 z1 k1 r1 => ?_) (fun x e1 he => ?_) (fun he => ?_)
  · simp only [he, ofRes_ok] at h
    cases x with
    | dat d =>
      simp only at h
      split at h
      · rename_i hl
        exact h Z1 _ H1 _ (s1.store hl hp (.inl ⟨d, rfl, rfl, r1⟩) (by simp) (fun a m => by simp at m)) z1
      · exact h.elim
    | _ => exact h.elim
  · simp only [he, ofRes_ex] at h
    exact fun cls d Z' H' fps' => h cls d Z' σ H' fps'
  · simp only [he, ofRes_no] at h
    exact h
theorem ds_own {i : Nat} {p : Bool} {st : Stmt} {m : EM} (h : AsgOk X g p i st m) (hp : i ∉ g.pins) : DS X g st (sOwn i m) := by
  refine PS.imp h fun D σ H ⟨Z, env, fps, s, h⟩ => ⟨Z, env, fps, s, ?_⟩
  unfold sOwn at h
  cases e : m env with
  | no => simp only [e, ofRes_no] at h; exact h
  | ex x e1 => simp only [e, ofRes_ex] at h; exact fun cls d Z' H' fps' => h cls d Z' σ H' fps'
  | ok a e1 =>
    simp only [e, ofRes_ok] at h
    intro v Z' H' fps' s' z' _ r
    cases a with
    | new t =>
      simp only at h
      split at h
      · rename_i hl
        obtain ⟨fp, ow, nd, hf⟩ := r
        exact h Z' _ H' _ (s'.store hl hp (.inr ⟨t, rfl, ow⟩) nd (fun a m => ⟨(hf a m).1, fun j _ => (hf a m).2.1 j, (hf a m).2.2⟩)) z'
      · exact h.elim
    | _ => exact h.elim
theorem ds_ali {i : Nat} {p : Bool} {st : Stmt} {m : EM} (h : AsgOk X g p i st m) (hp : i ∉ g.pins) : DS X g st (sAli i m) := by
  refine PS.imp h fun D σ H ⟨Z, env, fps, s, h⟩ => ⟨Z, env, fps, s, ?_⟩
  unfold sAli at h
  cases e : m env with
  | no => simp only [e, ofRes_no] at h; exact h
  | ex x e1 => simp only [e, ofRes_ex] at h; exact fun cls d Z' H' fps' => h cls d Z' σ H' fps'
  | ok a e1 =>
    simp only [e, ofRes_ok] at h
    intro v Z' H' fps' s' z' _ r
    split at h
    · rename_i j pp hun
      split at h
      · rename_i t ht
        split at h
        · rename_i hg
          obtain ⟨vj, h1, h2⟩ := r
          have hil : i < e1.length := (List.getElem?_eq_some_iff.mp hun).1
          have hiσ : i < σ.length := by rw [s'.len]; exact hil
          refine h Z' (σ.set i (some v)) H' fps' ⟨by rw [List.length_set, List.length_set]; exact s'.len, s'.sub, fun k y e => ?_, fun k hk => s'.out k (by rw [List.length_set] at hk; exact hk), s'.dis, s'.nd, s'.nz, s'.e1, s'.e2, s'.e3, s'.e4, fun k hk => ?_⟩ z'
          · by_cases c : k = i
            · subst c
              rw [List.getElem?_set_self hil] at e
              cases e
              have h0 := s'.slot k _ hun
              exact ⟨h0, ⟨t, by rw [List.getElem?_set_ne hg.2]; exact ht⟩, v, vj, List.getElem?_set_self hiσ, by rw [List.getElem?_set_ne hg.2]; exact h1, h2⟩
            · rw [List.getElem?_set_ne (Ne.symm c)] at e
              have h0 := s'.slot k y e
              have hσ : (σ.set i (some v))[k]? = σ[k]? := List.getElem?_set_ne (Ne.symm c)
              cases y with
              | un => exact h0
              | dat d => obtain ⟨e1, w, q1, q2⟩ := h0; exact ⟨e1, w, by rw [hσ]; exact q1, q2⟩
              | own t2 => obtain ⟨w, q1, q2⟩ := h0; exact ⟨w, by rw [hσ]; exact q1, q2⟩
              | al j2 p2 =>
                obtain ⟨q0, ⟨t3, ht3⟩, w, vj2, q1, q2, q3⟩ := h0
                have hj2 : j2 ≠ i := fun c2 => by rw [c2, hun] at ht3; cases ht3
                exact ⟨q0, ⟨t3, by rw [List.getElem?_set_ne (Ne.symm hj2)]; exact ht3⟩, w, vj2, by rw [hσ]; exact q1, by rw [List.getElem?_set_ne (Ne.symm hj2)]; exact q2, q3⟩
          · obtain ⟨w, q1, q2⟩ := s'.pin k hk
            have c : k ≠ i := fun e => hp (e ▸ hk)
            exact ⟨w, q1, by rw [List.getElem?_set_ne (Ne.symm c)]; exact q2⟩
        · exact h.elim
      · exact h.elim
    · exact h.elim
/-- any target -/
def sAsg (m : EM) (gm : GM) : SM := fun env => Out.ofRes (hold true (m env)) fun v e => match v with
  | .dat d => match gm d e with
    | some e2 => .nx e2
    | none => .no
  | _ => .no
theorem ds_asg {tg e : Expr} {p : Bool} {m : EM} {gm : GM} {ts : List Nat} {pos : Pos} (he : DE X g p e m) (hg : DG X g ts tg gm) (hs : swapsWithSole [tg] e pos.line X.env = pure false := by rfl) (hw : swappedStores [tg] e X.env = pure none := by rfl)
    (h1 : (assignEach [tg] X.env).map (·.2) = [assign tg X.env] := by rfl) : DS X g (.Assign [tg] e pos) (sAsg m gm) := by
  refine PS.imp (ps_asg he hg hs hw h1) fun D σ H ⟨Z, env, fps, s, h⟩ => ?_
  unfold sAsg at h
  refine hold_run (q := true) s (fun x e1 he v Z1 H1 fps1 s1 z1 k1 r1 => ?_) (fun x e1 he => ?_) (fun he => ?_)
  · simp only [he, ofRes_ok] at h
    cases x with
    | dat d =>
      refine ⟨Z1, e1, fps1, d, s1, r1, ?_⟩
      simp only at h
      split at h
      · rename_i e2 hg2
        try rw [hg2]
        exact fun Z' σ' H' fps' s' z' _ _ => h Z' σ' H' fps' s' (z1.trans z')
      · exact h.elim
    | _ => exact h.elim
  · simp only [he, ofRes_ex] at h
    exact fun cls d Z' H' fps' => h cls d Z' σ H' fps'
  · simp only [he, ofRes_no] at h
    exact h
/-- a, b = e1, e2 (two local names) -/
def sPar (i j : Nat) (ma : AM) : SM := fun env => Out.ofRes (ma env) fun xs e => match xs with
  | [.dat d, .dat u] => if i < e.length ∧ j < e.length then .nx (setS j (.dat u) (setS i (.dat d) e)) else .no
  | _ => .no
theorem ds_par {i j : Nat} {x y : Str} {a b : Expr} {p : Bool} {ma : AM} {px py pt pos : Pos} {kt k2 pt2} (hc : X.calm = true) (hN : X.N.Nodup) (hi : X.N[i]? = some x) (hj : X.N[j]? = some y) (hij : i ≠ j)
    (hx : X.env.scope.names.lookup x = some .local) (hy : X.env.scope.names.lookup y = some .local) (ha : DA X g p [a, b] ma) (hpi : i ∉ g.pins) (hpj : j ∉ g.pins)
    (hw : swappedStores [.Tuple [.Name x px, .Name y py] kt pt] (.Tuple [a, b] k2 pt2) X.env = pure (some [x, y]))
    (hs : swapsWithSole [.Tuple [.Name x px, .Name y py] kt pt] (.Tuple [a, b] k2 pt2) pos.line X.env = pure false := by rfl) :
    DS X g (.Assign [.Tuple [.Name x px, .Name y py] kt pt] (.Tuple [a, b] k2 pt2) pos) (sPar i j ma) := by
  refine PS.imp (ps_par hc hN hi hj hij hx hy ha hw hs) fun D σ H ⟨Z, env, fps, s, h⟩ => ⟨Z, env, fps, s, ?_⟩
  unfold sPar at h
  cases e : ma env with
  | no => simp only [e, ofRes_no] at h; exact h
  | ex x e1 => simp only [e, ofRes_ex] at h; exact fun cls d Z' H' fps' => h cls d Z' σ H' fps'
  | ok xs e1 =>
    simp only [e, ofRes_ok] at h
    intro vs Z1 H1 fps1 s1 z1 _ r
    split at h
    · split at h
      · rename_i hl
        cases r with
        | cons r1 r =>
          cases r with
          | cons r2 r =>
            cases r
            have s2 := s1.store (i := i) hl.1 hpi (.inl ⟨_, rfl, rfl, r1⟩) (by simp) (fun a m => by simp at m)
            have s3 := s2.store (i := j) (by rw [setS_length]; exact hl.2) hpj (.inl ⟨_, rfl, rfl, r2⟩) (by simp) (fun a m => by simp at m)
            exact ⟨_, _, rfl, h Z1 _ H1 _ s3 z1⟩
      · exact h.elim
    · exact h.elim
def sPar3 (i j l : Nat) (ma : AM) : SM := fun env => Out.ofRes (ma env) fun xs e => match xs with
  | [.dat d, .dat u, .dat w] => if i < e.length ∧ j < e.length ∧ l < e.length then .nx (setS l (.dat w) (setS j (.dat u) (setS i (.dat d) e))) else .no
  | _ => .no
theorem ds_par3 {i j l : Nat} {x y z : Str} {a b c : Expr} {p : Bool} {ma : AM} {px py pz pt pos : Pos} {kt k2 pt2} (hc : X.calm = true) (hN : X.N.Nodup) (hi : X.N[i]? = some x) (hj : X.N[j]? = some y) (hl : X.N[l]? = some z) (hij : i ≠ j) (hil : i ≠ l) (hjl : j ≠ l)
    (hx : X.env.scope.names.lookup x = some .local) (hy : X.env.scope.names.lookup y = some .local) (hz : X.env.scope.names.lookup z = some .local) (ha : DA X g p [a, b, c] ma) (hpi : i ∉ g.pins) (hpj : j ∉ g.pins) (hpl : l ∉ g.pins)
    (hw : swappedStores [.Tuple [.Name x px, .Name y py, .Name z pz] kt pt] (.Tuple [a, b, c] k2 pt2) X.env = pure (some [x, y, z]))
    (hs : swapsWithSole [.Tuple [.Name x px, .Name y py, .Name z pz] kt pt] (.Tuple [a, b, c] k2 pt2) pos.line X.env = pure false := by rfl) :
    DS X g (.Assign [.Tuple [.Name x px, .Name y py, .Name z pz] kt pt] (.Tuple [a, b, c] k2 pt2) pos) (sPar3 i j l ma) := by
  refine PS.imp (ps_par3 hc hN hi hj hl hij hil hjl hx hy hz ha hw hs) fun D σ H ⟨Z, env, fps, s, h⟩ => ⟨Z, env, fps, s, ?_⟩
  unfold sPar3 at h
  cases e : ma env with
  | no => simp only [e, ofRes_no] at h; exact h
  | ex x e1 => simp only [e, ofRes_ex] at h; exact fun cls d Z' H' fps' => h cls d Z' σ H' fps'
  | ok xs e1 =>
    simp only [e, ofRes_ok] at h
    intro vs Z1 H1 fps1 s1 z1 _ r
    split at h
    · split at h
      · rename_i hl
        cases r with
        | cons r1 r =>
          cases r with
          | cons r2 r =>
            cases r with
            | cons r3 r =>
              cases r
              have s2 := s1.store (i := i) hl.1 hpi (.inl ⟨_, rfl, rfl, r1⟩) (by simp) (fun a m => by simp at m)
              have s3 := s2.store (i := j) (by rw [setS_length]; exact hl.2.1) hpj (.inl ⟨_, rfl, rfl, r2⟩) (by simp) (fun a m => by simp at m)
              have s4 := s3.store (i := l) (by rw [setS_length, setS_length]; exact hl.2.2) hpl (.inl ⟨_, rfl, rfl, r3⟩) (by simp) (fun a m => by simp at m)
              exact ⟨_, _, _, rfl, h Z1 _ H1 _ s4 z1⟩
      · exact h.elim
    · exact h.elim
end
end DL
namespace DL
open PySem PySem.Spec PyProof.Rows L2
/-! ### loops -/
def forL (gm : GM) (body : SM) : List D → Ve → Out
  | [], e => .nx e
  | d :: ds, e => match gm d e with
    | none => .no
    | some e1 => match body e1 with
      | .nx e2 => forL gm body ds e2
      | .ct e2 => forL gm body ds e2
      | .bk e2 => .nx e2
      | .rt r e2 => .rt r e2
      | .ex x e2 => .ex x e2
      | .no => .no
def sFor (im : IM) (gm : GM) (body : SM) : SM := fun env => Out.ofRes (im env) fun ds e => forL gm body ds e
def whileF (tm : TM) (body : SM) : Nat → Ve → Out
  | 0, _ => .no
  | n + 1, e => match tm e with
    | .no => .no
    | .ex x e1 => .ex x e1
    | .ok false e1 => .nx e1
    | .ok true e1 => match body e1 with
      | .nx e2 => whileF tm body n e2
      | .ct e2 => whileF tm body n e2
      | .bk e2 => .nx e2
      | .rt r e2 => .rt r e2
      | .ex x e2 => .ex x e2
      | .no => .no
def sWhile (fuel : Nat) (tm : TM) (body : SM) : SM := whileF tm body fuel
section
variable {X : Cx} {g : Gx}
theorem ds_for {tg iter : Expr} {body : List Stmt} {p : Bool} {im : IM} {gm : GM} {mb : SM} {ts : List Nat} {pos : Pos} (hp : PassesOwn (model X.prog X.w) X.A X.env X.xe) (hc : X.calm = true) (hi : DI X g p tg iter im) (hg : DG X g ts tg gm) (hb : DSs X g body mb)
    (hs : ∀ x, foldedSetIterable iter X.env x = pure x := by intro _; rfl) : DS X g (.For tg iter body [] pos) (sFor im gm mb) := by
  refine PS.imp (ps_for hp hc hi hg hb hs) fun D σ H ⟨Z, env, fps, s, h⟩ => ⟨Z, env, fps, s, ?_⟩
  unfold sFor at h
  cases e : im env with
  | no => simp only [e, ofRes_no] at h; exact h
  | ex x e1 => simp only [e, ofRes_ex] at h; exact fun cls d Z' H' fps' => h cls d Z' σ H' fps'
  | ok ds e1 =>
    simp only [e, ofRes_ok] at h
    intro J Z1 H1 fps1 s1 z1 _ it
    let W : Nat → Nat → L2.St → Hp → Prop := fun i m σ H => m = ds.length - i ∧ i ≤ ds.length ∧ ∃ Z2 e2 fps2, StR g Z2 e2 σ H fps2 ∧ Same Z1 Z2 ∧ PostS g Z2 D (forL gm mb (ds.drop i) e2)
    refine ⟨W, ⟨ds.length, by omega, Nat.zero_le _, Z1, e1, fps1, s1, .refl _, by simpa using h.mono z1⟩, ?_⟩
    rintro i m σ2 H2 ⟨rfl, hi2, Z2, e2, fps2, s2, z2, po⟩
    by_cases hlt : i < ds.length
    · right
      have hd : ds[i]? = some ds[i] := List.getElem?_eq_getElem hlt
      obtain ⟨go, yl⟩ := it.go i _ hd Z2 H2 z2 s2.sub
      refine ⟨go, fun σ' H' => ∃ m', m' < ds.length - i ∧ W (i + 1) m' σ' H', fun σ' H' x => x, fun x H3 hy => ?_⟩
      obtain ⟨Z3, fr, rx⟩ := yl x H3 hy
      have s3 := s2.fresh fr
      rw [show ds.drop i = ds[i] :: ds.drop (i + 1) from (List.drop_eq_getElem_cons hlt)] at po
      simp only [forL] at po
      refine ⟨Z3, e2, fps2, ds[i], s3, rx, ?_⟩
      split at po
      · exact po.elim
      rename_i e4 hgm
      rw [hgm]
      intro Z4 σ4 H4 fps4 s4 z4 _ _
      refine ⟨Z4, e4, fps4, s4, ?_⟩
      have zz : Same Z2 Z4 := fr.z.trans z4
      cases eb : mb e4 with
      | no => rw [eb] at po; exact po
      | nx e5 =>
        rw [eb] at po
        exact fun Z5 σ5 H5 fps5 s5 z5 => ⟨ds.length - (i + 1), by omega, rfl, hlt, Z5, e5, fps5, s5, (z2.trans zz).trans z5, po.mono (zz.trans z5)⟩
      | ct e5 =>
        rw [eb] at po
        exact fun Z5 σ5 H5 fps5 s5 z5 => ⟨ds.length - (i + 1), by omega, rfl, hlt, Z5, e5, fps5, s5, (z2.trans zz).trans z5, po.mono (zz.trans z5)⟩
      | bk e5 => rw [eb] at po; exact fun Z5 σ5 H5 fps5 s5 z5 => po Z5 σ5 H5 fps5 s5 (zz.trans z5)
      | rt r e5 => rw [eb] at po; exact fun v Z5 σ5 H5 fps5 s5 z5 => po v Z5 σ5 H5 fps5 s5 (zz.trans z5)
      | ex x e5 => rw [eb] at po; exact fun cls d Z5 σ5 H5 fps5 s5 z5 => po cls d Z5 σ5 H5 fps5 s5 (zz.trans z5)
    · left
      have hi3 : i = ds.length := by omega
      subst hi3
      rw [List.drop_length] at po
      exact ⟨it.stop Z2 H2 z2 s2.sub, po Z2 σ2 H2 fps2 s2 (.refl _)⟩
theorem ds_while {c : Expr} {body : List Stmt} {p : Bool} {tm : TM} {mb : SM} {pos : Pos} (fuel : Nat) (hp : PassesOwn (model X.prog X.w) X.A X.env X.xe) (hc : DT X g p c tm) (hb : DSs X g body mb) : DS X g (.While c body [] pos) (sWhile fuel tm mb) := by
  refine PS.imp (ps_while hp hc hb) fun D σ H ⟨Z, env, fps, s, h⟩ => ?_
  refine ⟨fun m σ H => ∃ Z2 e2 fps2, StR g Z2 e2 σ H fps2 ∧ PostS g Z2 D (whileF tm mb m e2), ⟨fuel, Z, env, fps, s, h⟩, ?_⟩
  rintro m σ2 H2 ⟨Z2, e2, fps2, s2, po⟩
  refine ⟨Z2, e2, fps2, s2, ?_⟩
  cases m with
  | zero => exact po.elim
  | succ m =>
    simp only [whileF] at po
    cases et : tm e2 with
    | no => rw [et] at po; exact po
    | ex x e3 => rw [et] at po; exact fun cls d Z' H' fps' => po cls d Z' σ2 H' fps'
    | ok b e3 =>
      rw [et] at po
      intro b' Z3 H3 fps3 s3 z3 _ rb
      subst rb
      cases b' with
      | false =>
        rw [if_neg Bool.false_ne_true]
        exact po Z3 σ2 H3 fps3 s3 z3
      | true =>
        simp only at po
        rw [if_pos rfl]
        refine ⟨fun σ' H' => ∃ m', m' < m + 1 ∧ ∃ Z2 e2 fps2, StR g Z2 e2 σ' H' fps2 ∧ PostS g Z2 D (whileF tm mb m' e2), fun σ' H' x => x, Z3, e3, fps3, s3, ?_⟩
        cases eb : mb e3 with
        | no => rw [eb] at po; exact po
        | nx e5 => rw [eb] at po; exact fun Z5 σ5 H5 fps5 s5 z5 => ⟨m, Nat.lt_succ_self _, Z5, e5, fps5, s5, po.mono (z3.trans z5)⟩
        | ct e5 => rw [eb] at po; exact fun Z5 σ5 H5 fps5 s5 z5 => ⟨m, Nat.lt_succ_self _, Z5, e5, fps5, s5, po.mono (z3.trans z5)⟩
        | bk e5 => rw [eb] at po; exact fun Z5 σ5 H5 fps5 s5 z5 => po Z5 σ5 H5 fps5 s5 (z3.trans z5)
        | rt r e5 => rw [eb] at po; exact fun v Z5 σ5 H5 fps5 s5 z5 => po v Z5 σ5 H5 fps5 s5 (z3.trans z5)
        | ex x e5 => rw [eb] at po; exact fun cls d Z5 σ5 H5 fps5 s5 z5 => po cls d Z5 σ5 H5 fps5 s5 (z3.trans z5)
end
/-! ### a list changed in place -/
def getP (env : Ve) (j : Nat) (p : List Str) : Option O := match env[j]? with
  | some (.own t) => t.get p
  | _ => none
def putP (j : Nat) (p : List Str) (x : O) (env : Ve) : Ve := match env[j]? with
  | some (.own t) => env.set j (.own (t.set p x))
  | _ => env
section
variable {mg : Str → Option Value} {Z H : Hp}
theorem OwnF.upd : ∀ {vs : List (Str × V)} {fs : List (Str × O)} {fp : List Addr} {f : Str} {u : O}, OwnF mg Z H vs fs fp → O.get.getF fs f = some u →
    ∃ v f', vs.lookup f = some v ∧ Own mg Z H v u f' ∧ (∀ a ∈ f', a ∈ fp) ∧ (fp.Nodup → f'.Nodup ∧ ∀ H' u', (∀ b, b ∉ f' → H' b = H b) → Own mg Z H' v u' f' → OwnF mg Z H' vs (setF f u' fs) fp)
  | _, _, _, f, u, .nil, e => by simp [O.get.getF] at e
  | _, _, _, f, u, .cons (x := x) (v := v) (t := t) (f := f1) (vs := vs) (ts := ts) (g := g1) h r, e => by
    unfold O.get.getF at e
    by_cases c : f = x
    · subst c
      rw [if_pos rfl] at e
      cases e
      refine ⟨v, f1, by simp [List.lookup], h, fun a m => List.mem_append_left _ m, fun nd => ?_⟩
      obtain ⟨n1, n2, n3⟩ := List.nodup_append.mp nd
      refine ⟨n1, fun H' u' k ow => ?_⟩
      unfold setF
      rw [if_pos rfl]
      exact .cons ow (r.keep (.refl _) fun b hb => k b fun m => n3 b m b hb rfl)
    · rw [if_neg c] at e
      obtain ⟨w, f', h1, h2, h3, h4⟩ := OwnF.upd r e
      refine ⟨w, f', ?_, h2, fun a m => List.mem_append_right _ (h3 a m), fun nd => ?_⟩
      · have : (f == x) = false := by simpa using c
        simp [List.lookup, this, h1]
      · obtain ⟨n1, n2, n3⟩ := List.nodup_append.mp nd
        obtain ⟨h5, h6⟩ := h4 n2
        refine ⟨h5, fun H' u' k ow => ?_⟩
        unfold setF
        rw [if_neg c]
        exact .cons (h.keep (.refl _) fun b hb => k b fun m => n3 b hb b (h3 b m) rfl) (h6 H' u' k ow)
theorem Own.upd : ∀ {p : List Str} {v : V} {t : O} {fp : List Addr} {xs : List D}, Own mg Z H v t fp → fp.Nodup → t.get p = some (.lst xs) →
    ∃ a vs, walk H v p = some (.ref a) ∧ H a = some (.lst vs) ∧ RDs Z vs xs ∧ a ∈ fp ∧ ∀ ws ys, RDs Z ws ys → Own mg Z (L2.upd H a (.lst ws)) v (t.set p (.lst ys)) fp
  | [], v, t, fp, xs, ow, nd, e => by
    simp [O.get] at e
    subst e
    cases ow with
    | lst h r => exact ⟨_, _, by simp [walk], h, r, by simp, fun ws ys r' => .lst upd_same r'⟩
  | f :: p, v, t, fp, xs, ow, nd, e => by
    cases ow with
    | dat _ => simp [O.get] at e
    | lst _ _ => simp [O.get] at e
    | mls _ _ => simp [O.get] at e
    | ins h hm r =>
      rename_i a C dx c vfs fs fp1
      unfold O.get at e
      cases q : O.get.getF fs f with
      | none => rw [q] at e; cases e
      | some u =>
        rw [q] at e
        obtain ⟨n1, n2⟩ := List.nodup_cons.mp nd
        obtain ⟨w, f', h1, h2, h3, h4⟩ := r.upd q
        obtain ⟨h5, h6⟩ := h4 n2
        obtain ⟨b, vs, k1, k2, k3, k4, k5⟩ := Own.upd (p := p) h2 h5 e
        refine ⟨b, vs, ?_, k2, k3, List.mem_cons_of_mem _ (h3 _ k4), fun ws ys r' => ?_⟩
        · unfold walk
          rw [h]
          show (vfs.lookup f).bind _ = _
          rw [h1]
          exact k1
        · have hne : a ≠ b := fun c => n1 (c ▸ h3 _ k4)
          unfold O.set
          rw [q]
          refine .ins (by rw [upd_ne hne]; exact h) hm (h6 _ _ (fun b' hb' => upd_ne fun c => hb' (c ▸ k4)) (k5 ws ys r'))
end
section
variable {g : Gx} {Z H : Hp} {env : Ve} {σ : L2.St} {fps : Nat → List Addr}
theorem StR.update (s : StR g Z env σ H fps) {j : Nat} {p : List Str} {xs : List D} (hp : getP env j p = some (.lst xs)) {v vj : V} (hσ : σ[j]? = some (some vj)) (hw : walk H vj p = some v) :
    ∃ a vs, v = .ref a ∧ H a = some (.lst vs) ∧ RDs Z vs xs ∧ ∀ ws ys, RDs Z ws ys → StR g Z (putP j p (.lst ys) env) σ (upd H a (.lst ws)) fps := by
  unfold getP at hp
  split at hp
  case h_2 => cases hp
  rename_i t ht
  obtain ⟨v0, h1, ow⟩ := s.slot j _ ht
  rw [hσ] at h1
  cases h1
  obtain ⟨a, vs, k1, k2, k3, k4, k5⟩ := ow.upd (s.nd j) hp
  rw [hw] at k1
  cases k1
  have hjl : j < env.length := (List.getElem?_eq_some_iff.mp ht).1
  have hZ : Z a = none := s.nz j a k4
  have hE := s.e4 j a k4
  refine ⟨a, vs, rfl, k2, k3, fun ws ys r => ?_⟩
  have hput : putP j p (.lst ys) env = env.set j (.own (t.set p (.lst ys))) := by unfold putP; rw [ht]
  rw [hput]
  refine ⟨by rw [List.length_set]; exact s.len, fun b o e => ?_, fun i x e => ?_, fun i hi => s.out i (by rw [List.length_set] at hi; exact hi), s.dis, s.nd, s.nz, s.e1, fun b o e k => ?_, s.e3, s.e4, s.pin⟩
  · have hne : b ≠ a := fun c => by rw [c, hZ] at e; cases e
    rw [upd_ne hne]; exact s.sub b o e
  · by_cases c : i = j
    · subst c
      rw [List.getElem?_set_self hjl] at e
      cases e
      exact ⟨_, hσ, k5 ws ys r⟩
    · rw [List.getElem?_set_ne (Ne.symm c)] at e
      have q := (s.slot i x e).keep (.refl Z) (H' := upd H a (.lst ws)) (fun b m => upd_ne fun cc => c (s.dis i j a (cc ▸ m) k4)) fun v p u => walk_upd k2
      cases x with
      | un => exact q
      | dat d => exact q
      | own t2 => exact q
      | al j2 p2 =>
        obtain ⟨q0, ⟨t3, ht3⟩, q1⟩ := q
        refine ⟨q0, ?_, q1⟩
        by_cases c2 : j2 = j
        · subst c2; exact ⟨_, List.getElem?_set_self hjl⟩
        · exact ⟨t3, by rw [List.getElem?_set_ne (Ne.symm c2)]; exact ht3⟩
  · have hne : b ≠ a := fun c => by
      subst c
      rcases hE with h | h
      · exact k h
      · rw [h] at e; cases e
    rw [upd_ne hne]; exact s.e2 b o e k
end
section
variable {X : Cx} {g : Gx}
/-- o[i] as a target -/
def gSb (q : Bool) (mo mi : EM) : GM := fun d env => match hold q (mo env) with
  | .ok (.pl j p) e1 => match hold true (mi e1) with
    | .ok (.dat (.int k)) e2 => match getP e2 j p with
      | some (.lst xs) => match ixN xs.length k with
        | some t => some (putP j p (.lst (xs.set t d)) e2)
        | none => none
      | _ => none
    | _ => none
  | _ => none
theorem dg_sub {po q : Bool} {o i : Expr} {mo mi : EM} {pos : Pos} (ho : DE X g po o mo) (hi : DE X g q i mi)
    (ha : ∀ v, assign (.Subscript o i pos) X.env v = (do
      let ov ← holding [v] (eval o X.env)
      let iv ← holding [v, ov] (eval i X.env)
      standAt pos
      holding [v, ov, iv] (setItem ov iv v)
      release [v, ov, iv] []) := by intro _; rfl) : DG X g [] (.Subscript o i pos) (gSb q mo mi) := by
  refine PG.imp (pg_sub ho hi set_list ha) fun v σ H Q ⟨Z, env, fps, d, s, r, h⟩ => ?_
  refine hold_run (q := q) s (fun x e1 he vo Z1 H1 fps1 s1 z1 k1 r1 => ?_) (fun x e1 he => ?_) (fun he => ?_)
  · simp only [gSb, he] at h
    cases x with
    | pl j p =>
      refine hold_run (q := true) s1 (fun y e2 he2 vi Z2 H2 fps2 s2 z2 k2 r2 => ?_) (fun y e2 he2 => ?_) (fun he2 => ?_)
      · simp only [he2] at h
        cases y with
        | dat dy =>
          cases dy with
          | int k =>
            simp only at h
            have r1' := r1.later z2 fun hq => (k2 hq).2.2
            obtain ⟨_, vj, hσ, hw⟩ := r1'
            split at h
            · rename_i e3 hm
              split at hm
              · rename_i xs hg
                split at hm
                · rename_i t ht
                  cases hm
                  cases r2
                  obtain ⟨a, vs, e1, h1, h2, h3⟩ := s2.update hg hσ hw
                  subst e1
                  have rd := (r.mono z1).mono z2
                  exact ⟨a, vs, k, t, rfl, rfl, h1, by rw [h2.length]; exact ht, h Z2 σ _ fps2 (h3 _ _ (h2.set rd t)) (z1.trans z2) rfl fun _ _ => rfl⟩
                · cases hm
              · cases hm
            · exact h.elim
          | _ => exact h.elim
        | _ => exact h.elim
      · simp only [he2] at h
      · simp only [he2] at h
    | _ => exact h.elim
  · simp only [gSb, he] at h
  · simp only [gSb, he] at h
/-! methods that change a list -/
def MethOk (X : Cx) (id : String) (op : List D → List D → Option (D × List D)) : Prop :=
  ∃ r, MtR X id r ∧ ∀ Z H a vs xs us ds d ys Q, Same Z H → H a = some (.lst vs) → RDs Z vs xs → RDs Z us ds → op xs ds = some (d, ys) → (∀ w ws, RD Z w d → RDs Z ws ys → Q w (upd H a (.lst ws))) → r (.ref a) us H Q
def eMeth (q : Bool) (op : List D → List D → Option (D × List D)) (mo : EM) (ma : AM) : EM := fun env => (hold q (mo env)).bind fun x e1 => match x with
  | .pl j p => match getP e1 j p with
    | some (.lst _) => (ma e1).bind fun us e2 => match getP e2 j p, dats us with
      | some (.lst xs), some ds => match op xs ds with
        | some (d, ys) => .ok (.dat d) (putP j p (.lst ys) e2)
        | none => .no
      | _, _ => .no
    | _ => .no
  | _ => .no
theorem meth_run {po q : Bool} {op : List D → List D → Option (D × List D)} {mo : EM} {ma : AM} {r : V → List V → Hp → VK → Prop}
    (hr : ∀ Z H a vs xs us ds d ys Q, Same Z H → H a = some (.lst vs) → RDs Z vs xs → RDs Z us ds → op xs ds = some (d, ys) → (∀ w ws, RD Z w d → RDs Z ws ys → Q w (upd H a (.lst ws))) → r (.ref a) us H Q)
    {σ : L2.St} {H : Hp} {Q : VK} (h : tE g false (eMeth q op mo ma) σ H Q) : tE g po mo σ H fun x H1 => (∃ a vs, x = .ref a ∧ H1 a = some (.lst vs)) ∧ tA g q ma σ H1 fun xs H2 => r x xs H2 Q := by
  obtain ⟨Z, env, fps, s, h⟩ := h
  refine hold_run (q := q) s (fun x e1 he vo Z1 H1 fps1 s1 z1 k1 r1 => ?_) (fun x e1 he => ?_) (fun he => ?_)
  · simp only [eMeth, he, Res.bind_ok] at h
    cases x with
    | dat d => exact h.elim
    | new d => exact h.elim
    | pl j p =>
      simp only at h
      obtain ⟨hq0, vj, hσ, hw⟩ := r1
      split at h
      case h_2 => exact h.elim
      rename_i xs0 hg
      obtain ⟨a, vs, ea, h1, h2, _⟩ := s1.update hg hσ hw
      subst ea
      refine ⟨⟨a, vs, rfl, h1⟩, Z1, e1, fps1, s1, ?_⟩
      cases e2 : ma e1 with
      | no => simp [e2] at h
      | ex x2 e3 =>
        rw [e2] at h
        exact fun cls d Z2 H2 fps2 s2 z2 xr => h cls d Z2 H2 fps2 s2 (z1.trans z2) xr
      | ok us e3 =>
        simp only [e2, Res.bind_ok] at h
        intro ws Z2 H2 fps2 s2 z2 k2 r2
        have hw2 : walk H2 vj p = some (.ref a) := by
          rcases hq0 with e | e
          · subst e; exact hw
          · exact walk_mono (k2 e).2.2 hw
        split at h
        · rename_i xs ds hg2 hps
          split at h
          · rename_i d ys ho
            obtain ⟨a', vs', ea, h3, h4, h5⟩ := s2.update hg2 hσ hw2
            cases ea
            exact hr Z2 H2 a vs' xs ws ds d ys Q s2.sub h3 h4 (dats_ok r2 hps) ho fun w ws' rw rws => h w Z2 _ fps2 (h5 ws' ys rws) (z1.trans z2) (fun e => by cases e) rw
          · exact h.elim
        · exact h.elim
  · simp only [eMeth, he, Res.bind_ex] at h
    exact h
  · simp only [eMeth, he, Res.bind_no, Post_no] at h
theorem de_meth {name : Str} {id : String} {po q : Bool} {op : List D → List D → Option (D × List D)} {o e : Expr} {es : List Expr} {mo : EM} {ma : AM} {apos cpos : Pos} (pa : PlainAttrs "list") (slot : Slot "list" name id) (hty : typeOf (.builtin id) = pure (.type "method_descriptor")) (hm : MethOk X id op)
    (ho : DE X g po o mo) (ha : DA X g q (e :: es) ma) (hbase : attributeBase o name X.env (eval o X.env) = eval o X.env := by rfl)
    (hfew : ((backTo cpos (starEach (e :: es) X.env)).all (fun x => !x.1) && (backToKw cpos (keywordEach [] X.env)).all (fun x => x.1.isSome)
      && decide ((e :: es).length + ([] : List Keyword).length + (if ([] : List Keyword).isEmpty then 0 else 1) < 30)) = true := by rfl)
    (hline : (apos.endLine == cpos.line) = true := by rfl) (hs : starEach (e :: es) X.env = (false, eval e X.env) :: starEach es X.env := by rfl) (hplain : (backTo cpos (starEach es X.env)).any (·.1) = false := by rfl) :
    DE X g false (.Call (.Attribute o name apos) (e :: es) [] cpos) (eMeth q op mo ma) := by
  obtain ⟨r, h1, h2⟩ := hm
  refine PE.imp (pe_bm pa slot hty h1 ho ha hbase hfew hline hs hplain) fun σ H Q h => ?_
  refine tR_mono (meth_run (po := po) h2 h) fun x H1 ⟨⟨a, vs, ea, hv⟩, q1⟩ => ⟨?_, q1⟩
  subst ea
  exact .inl ⟨rfl, vs, .inl (.inl hv)⟩
theorem de_meth0 {name : Str} {id : String} {po : Bool} {op : List D → List D → Option (D × List D)} {o : Expr} {mo : EM} {apos cpos : Pos} (pa : PlainAttrs "list") (slot : Slot "list" name id) (hty : typeOf (.builtin id) = pure (.type "method_descriptor")) (hm : MethOk X id op) (ho : DE X g po o mo)
    (hbase : attributeBase o name X.env (eval o X.env) = eval o X.env := by rfl) (hline : (apos.endLine == cpos.line) = true := by rfl) :
    DE X g false (.Call (.Attribute o name apos) [] [] cpos) (eMeth true op mo aNil) := by
  obtain ⟨r, h1, h2⟩ := hm
  refine PE.imp (pe_bm0 pa slot hty h1 ho hbase hline) fun σ H Q h => ?_
  refine tR_mono (meth_run (po := po) h2 h) fun x H1 ⟨⟨a, vs, ea, hv⟩, Z, env, fps, s, q1⟩ => ⟨?_, q1 [] Z H1 fps s (.refl _) (fun _ => ⟨rfl, rfl, .refl _⟩) .nil⟩
  subst ea
  exact .inl ⟨rfl, vs, .inl (.inl hv)⟩
def appendD : List D → List D → Option (D × List D)
  | xs, [d] => if xs.length < lim then some (.non, xs ++ [d]) else none
  | _, _ => none
theorem RDs.one {Z : Hp} {vs : List V} {d : D} (h : RDs Z vs [d]) : ∃ v, vs = [v] ∧ RD Z v d := by
  cases h with
  | cons h r => cases r; exact ⟨_, rfl, h⟩
theorem lt_lim {n : Nat} (h : n < lim) : n < sizeLine := by rw [sizeLine_eq]; exact h
theorem ok_append : MethOk X "list.append" appendD := by
  refine ⟨_, mt_append, fun Z H a vs xs us ds d ys Q s hH rv ru h q => ?_⟩
  unfold appendD at h
  split at h
  · split at h
    · rename_i hl
      cases h
      obtain ⟨v, rfl, rv2⟩ := ru.one
      exact ⟨a, vs, v, rfl, rfl, hH, lt_lim (by rw [rv.length]; exact hl), q _ _ .non (rv.append (.cons rv2 .nil))⟩
    · cases h
  · cases h
def extendD : List D → List D → Option (D × List D)
  | xs, [.lst zs] => if xs.length + zs.length ≤ lim then some (.non, xs ++ zs) else none
  | _, _ => none
theorem ok_extend : MethOk X "list.extend" extendD := by
  refine ⟨_, mt_extend, fun Z H a vs xs us ds d ys Q s hH rv ru h q => ?_⟩
  unfold extendD at h
  split at h
  · split at h
    · rename_i hl
      cases h
      obtain ⟨v, rfl, rv2⟩ := ru.one
      cases rv2 with
      | lst h1 r1 => exact ⟨a, _, vs, _, rfl, rfl, hH, s _ _ h1, lim_eq (by rw [rv.length, r1.length]; exact hl), q _ _ .non (rv.append r1)⟩
    · cases h
  · cases h
def popD : List D → List D → Option (D × List D)
  | xs, [] => (xs[xs.length - 1]?).map fun d => (d, xs.dropLast)
  | _, _ => none
theorem RDs.dropLast {Z : Hp} {vs : List V} {ds : List D} (h : RDs Z vs ds) : RDs Z vs.dropLast ds.dropLast := by
  rw [List.dropLast_eq_take, List.dropLast_eq_take, h.length]
  exact h.take _
theorem ok_pop : MethOk X "list.pop" popD := by
  refine ⟨_, mt_pop, fun Z H a vs xs us ds d ys Q s hH rv ru h q => ?_⟩
  unfold popD at h
  split at h
  · simp only [Option.map_eq_some_iff] at h
    obtain ⟨d', h1, h2⟩ := h
    cases h2
    cases ru
    obtain ⟨v, h3, h4⟩ := rv.getd h1
    exact ⟨a, vs, v, rfl, rfl, hH, by rw [rv.length]; exact h3, q _ _ h4 rv.dropLast⟩
  · cases h
def reverseD : List D → List D → Option (D × List D)
  | xs, [] => some (.non, xs.reverse)
  | _, _ => none
theorem ok_reverse : MethOk X "list.reverse" reverseD := by
  refine ⟨_, mt_reverse, fun Z H a vs xs us ds d ys Q s hH rv ru h q => ?_⟩
  unfold reverseD at h
  split at h
  · cases h
    cases ru
    exact ⟨a, vs, rfl, rfl, hH, q _ _ .non rv.reverse⟩
  · cases h
end
/-! ### defs -/
inductive FRes where
  | ok (r : Ev) (bs : List O) | ex (x : Exn) (bs : List O) | no
abbrev FM := List S → FRes
def isOwn : S → Bool
  | .own _ => true
  | _ => false
/-- the slots behind a call: the owned ones as they are now -/
def aft : List S → List O → List S
  | .own _ :: r, b :: bs => .own b :: aft r bs
  | .dat d :: r, bs => .dat d :: aft r bs
  | _ :: r, bs => .un :: aft r bs
  | [], _ => []
/-- what the owned parameters hold at the end -/
def backs : List S → Ve → Option (List O)
  | .own _ :: r, .own t :: e => (backs r e).map (t :: ·)
  | .own _ :: _, _ => none
  | _ :: r, _ :: e => backs r e
  | _ :: _, [] => none
  | [], _ => some []
def gF (mg : Str → Option Value) (Z H : Hp) (F : List Addr) (vs : List V) : Gx := ⟨mg, [], ⟨Z, H, F, vs⟩, fun _ _ _ _ => False⟩
def PostF (mg : Str → Option Value) (Z H : Hp) (F : List Addr) (vs : List V) (as : List S) (Q : VK) (E : XK) : FRes → Prop
  | .ok r bs => ∀ v Z' H' fps', StR (gF mg Z H F vs) Z' (aft as bs) (vs.map some) H' fps' → EvR (gF mg Z H F vs) Z' H' (vs.map some) fps' v r → Q v H'
  | .ex x bs => ∀ cls d Z' H' fps', StR (gF mg Z H F vs) Z' (aft as bs) (vs.map some) H' fps' → XR mg Z' H' cls d x → E cls d H'
  | .no => False
/-- the promise: it does what its mirror does -/
def spF (mg : Str → Option Value) (np : Nat) (fm : FM) : Sp := fun vs H Q E => vs.length = np ∧ ∃ Z as fps F, StR (gF mg Z H F vs) Z as (vs.map some) H fps ∧ (∀ i a, a ∈ fps i → a ∈ F) ∧ PostF mg Z H F vs as Q E (fm as)
def finF (as : List S) (r : Ev) (e : Ve) : FRes := match r, backs as e with
  | .dat d, some bs => .ok (.dat d) bs
  | .new t, some bs => .ok (.new t) bs
  | _, _ => .no
/-- fixed: the parameters that are never stored -/
def runF (N np : Nat) (fixed : List Nat) (m : SM) : FM := fun as => if as.length = np ∧ (∀ i, i < np → isOwn (as.getD i .un) = true → i ∈ fixed) then match m (as ++ List.replicate (N - np) .un) with
  | .nx e => finF as (.dat .non) e
  | .rt r e => finF as r e
  | .ex x e => match backs as e with
    | some bs => .ex x bs
    | none => .no
  | _ => .no
  else .no
theorem backs_get : ∀ {as : List S} {e : Ve} {bs : List O}, backs as e = some bs → as.length ≤ e.length ∧ ∀ (i : Nat) (x : S), (aft as bs)[i]? = some x → (∃ d, as[i]? = some (S.dat d) ∧ x = S.dat d) ∨ x = S.un ∨ (∃ t t0, as[i]? = some (S.own t0) ∧ e[i]? = some (S.own t) ∧ x = S.own t)
  | [], e, bs, h => ⟨Nat.zero_le _, fun i x hx => by simp [aft] at hx⟩
  | a :: r, [], bs, h => by cases a <;> simp [backs] at h
  | .own t0 :: r, y :: e, bs, h => by
    cases y with
    | own t =>
      simp only [backs, Option.map_eq_some_iff] at h
      obtain ⟨bs', h1, rfl⟩ := h
      obtain ⟨h2, h3⟩ := backs_get h1
      refine ⟨Nat.succ_le_succ h2, fun i x hx => ?_⟩
      cases i with
      | zero => simp [aft] at hx; exact .inr (.inr ⟨t, t0, rfl, rfl, hx.symm⟩)
      | succ i => simpa using h3 i x (by simpa [aft] using hx)
    | _ => simp [backs] at h
  | .dat d :: r, y :: e, bs, h => by
    obtain ⟨h2, h3⟩ := backs_get (as := r) (e := e) (bs := bs) (by simpa [backs] using h)
    refine ⟨Nat.succ_le_succ h2, fun i x hx => ?_⟩
    cases i with
    | zero => simp [aft] at hx; exact .inl ⟨d, rfl, hx.symm⟩
    | succ i => simpa using h3 i x (by simpa [aft] using hx)
  | .un :: r, y :: e, bs, h => by
    obtain ⟨h2, h3⟩ := backs_get (as := r) (e := e) (bs := bs) (by simpa [backs] using h)
    refine ⟨Nat.succ_le_succ h2, fun i x hx => ?_⟩
    cases i with
    | zero => simp [aft] at hx; exact .inr (.inl hx.symm)
    | succ i => simpa using h3 i x (by simpa [aft] using hx)
  | .al j p :: r, y :: e, bs, h => by
    obtain ⟨h2, h3⟩ := backs_get (as := r) (e := e) (bs := bs) (by simpa [backs] using h)
    refine ⟨Nat.succ_le_succ h2, fun i x hx => ?_⟩
    cases i with
    | zero => simp [aft] at hx; exact .inr (.inl hx.symm)
    | succ i => simpa using h3 i x (by simpa [aft] using hx)
theorem aft_length : ∀ (as : List S) (bs : List O), (aft as bs).length = as.length
  | [], _ => rfl
  | .own _ :: r, [] => by simp [aft, aft_length r []]
  | .own _ :: r, b :: bs => by simp [aft, aft_length r bs]
  | .dat _ :: r, bs => by simp [aft, aft_length r bs]
  | .un :: r, bs => by simp [aft, aft_length r bs]
  | .al _ _ :: r, bs => by simp [aft, aft_length r bs]
/-- the callee's end, seen from the call -/
theorem StR.leave {g : Gx} {mg : Str → Option Value} {Z H Z' H' : Hp} {F : List Addr} {vs : List V} {as : List S} {bs : List O} {e : Ve} {σ' : L2.St} {fps fps' : Nat → List Addr} (h0 : StR (gF mg Z H F vs) Z as (vs.map some) H fps) (s : StR g Z' e σ' H' fps') (hm : g.mg = mg) (hn : g.n = ⟨Z, H, F, vs⟩)
    (hp : ∀ (i : Nat) (t : O), as[i]? = some (S.own t) → i ∈ g.pins) (hb : backs as e = some bs) :
    StR (gF mg Z H F vs) Z' (aft as bs) (vs.map some) H' (fun i => match (aft as bs)[i]? with | some (.own _) => fps' i | _ => []) := by
  obtain ⟨hl, hget⟩ := backs_get hb
  have sub : ∀ i a, a ∈ (match (aft as bs)[i]? with | some (.own _) => fps' i | _ => []) → a ∈ fps' i := fun i a m => by
    split at m
    · exact m
    · cases m
  have a1 := s.e1
  have a2 := s.e2
  have a3 := s.e3
  have a4 := s.e4
  rw [hn] at a1 a2 a3 a4
  refine ⟨by rw [List.length_map, aft_length]; have := h0.len; rw [List.length_map] at this; exact this, s.sub, fun i x hx => ?_, fun i hi => ?_, fun i j a h1 h2 => s.dis i j a (sub i a h1) (sub j a h2), fun i => ?_, fun i a m => s.nz i a (sub i a m), a1, a2, a3, fun i a m => a4 i a (sub i a m), fun i hi => by cases hi⟩
  · simp only [hx]
    rcases hget i x hx with ⟨d, h1, rfl⟩ | rfl | ⟨t, t0, h1, h2, rfl⟩
    · obtain ⟨_, v, q1, q2⟩ := h0.slot i _ h1
      exact ⟨rfl, v, q1, q2.mono a1⟩
    · exact rfl
    · obtain ⟨v, q1, q2⟩ := s.slot i _ h2
      obtain ⟨w, p1, p2⟩ := s.pin i (hp i t0 h1)
      rw [hn] at p1
      rw [p2] at q1
      cases q1
      refine ⟨_, ?_, by rw [hm] at q2; exact q2⟩
      have p1' : vs[i]? = some _ := p1
      rw [List.getElem?_map, p1']
      rfl
  · rw [List.getElem?_eq_none hi]
  · show (match (aft as bs)[i]? with | some (.own _) => fps' i | _ => []).Nodup
    split
    · exact s.nd i
    · exact List.nodup_nil
/-- the body's state at the entry -/
theorem StR.start {mg : Str → Option Value} {Z H : Hp} {F : List Addr} {vs : List V} {as : List S} {fps : Nat → List Addr} {N : List Str} {pins : List Nat} {W : WX} (h0 : StR (gF mg Z H F vs) Z as (vs.map some) H fps) (hN : vs.length ≤ N.length) (hp : ∀ i ∈ pins, i < vs.length) :
    StR ⟨mg, pins, ⟨Z, H, F, vs⟩, W⟩ Z (as ++ List.replicate (N.length - vs.length) .un) (L2.start N vs) H fps := by
  have hl : as.length = vs.length := by have := h0.len; rw [List.length_map] at this; exact this.symm
  have look : ∀ i v, (vs.map some)[i]? = some v → (L2.start N vs)[i]? = some v := fun i v e => by
    unfold L2.start
    rw [List.getElem?_append_left (List.getElem?_eq_some_iff.mp e).1]
    exact e
  refine ⟨by unfold L2.start; simp [hl], h0.sub, fun i x e => ?_, fun i hi => h0.out i (by simp at hi; omega), h0.dis, h0.nd, h0.nz, h0.e1, h0.e2, h0.e3, h0.e4, fun i hi => ?_⟩
  · by_cases c : i < as.length
    · rw [List.getElem?_append_left c] at e
      have q := h0.slot i x e
      cases x with
      | un => exact q
      | dat d => obtain ⟨e1, v, q1, q2⟩ := q; exact ⟨e1, v, look _ _ q1, q2⟩
      | own t => obtain ⟨v, q1, q2⟩ := q; exact ⟨v, look _ _ q1, q2⟩
      | al j p =>
        obtain ⟨e1, ⟨t, ht⟩, v, vj, q1, q2, q3⟩ := q
        exact ⟨e1, ⟨t, by rw [List.getElem?_append_left (List.getElem?_eq_some_iff.mp ht).1]; exact ht⟩, v, vj, look _ _ q1, look _ _ q2, q3⟩
    · rw [List.getElem?_append_right (by omega)] at e
      have hx : x = .un := by
        have := List.mem_of_getElem? e
        exact (List.mem_replicate.mp this).2
      subst hx
      exact h0.out i (by omega)
  · obtain ⟨v, hv⟩ : ∃ v, vs[i]? = some v := ⟨vs[i]'(hp i hi), List.getElem?_eq_getElem (hp i hi)⟩
    exact ⟨v, hv, look _ _ (by rw [List.getElem?_map, hv]; rfl)⟩
section
variable {P : Program} {w : World} {K : PySem.W.Frag} {mg : Str → Option Value} {base : Heap}
/-- THE RULE for a def -/
theorem fn_mirror {x qual : Str} {params : Arguments} {body : List Stmt} {scope : Scope} {f : Addr} {fd : FuncData} {N ps : List Str} {k : Nat} {fixed : List Nat} {m : SM} (F : FunD K x qual params body scope [] [] f fd) (SC : FnScope N ps scope) (hps : ps.length ≤ N.length) (hfx : ∀ i ∈ fixed, i < ps.length)
    (hb : ∀ (cdv : Value) (A : Around) (outer : List Env) (s : Shared) (H : Hp) (n : En) (E : XK), Room k (A.deeper (envOfC qual scope s.heap.objs.size f cdv)) →
      DSs (cxOf (L2.CX P w) P w K mg base N qual scope f cdv A outer s H E) ⟨mg, fixed, n, fun cls d _ H => E cls d H⟩ body m) :
    FnOk P w K mg base (L2.CX P w) (k + 1) f fd ps (spF mg ps.length (runF N.length ps.length fixed m)) := by
  refine F.ok SC (fun vs H Q E h => h.1) fun cdv A outer s H vs Q E hr ⟨hvl, Z, as, fps, Fp, h0, hF, po⟩ => ⟨_, hb cdv A outer s H ⟨Z, H, Fp, vs⟩ E hr, ?_⟩
  have hl : as.length = vs.length := by have := h0.len; rw [List.length_map] at this; exact this.symm
  unfold runF at po
  split at po
  case isFalse => exact po.elim
  rename_i hc
  have hfix : ∀ (i : Nat) (t : O), as[i]? = some (S.own t) → i ∈ fixed := fun i t e => by
    have hi : i < as.length := (List.getElem?_eq_some_iff.mp e).1
    refine hc.2 i (by omega) ?_
    rw [List.getD_eq_getElem?_getD, e]
    rfl
  have s0 : StR ⟨mg, fixed, ⟨Z, H, Fp, vs⟩, fun cls d _ H => E cls d H⟩ Z (as ++ List.replicate (N.length - ps.length) .un) (L2.start N vs) H fps := by
    have := h0.start (N := N) (pins := fixed) (W := fun cls d _ H => E cls d H) (by omega) fun i hi => by rw [hvl]; exact hfx i hi
    rw [hvl] at this
    exact this
  refine ⟨Z, _, fps, s0, ?_⟩
  have fin : ∀ {r : Ev} {e : Ve} {v : V} {Z' H' : Hp} {σ' : L2.St} {fps' : Nat → List Addr}, PostF mg Z H Fp vs as Q E (finF as r e) → StR ⟨mg, fixed, ⟨Z, H, Fp, vs⟩, fun cls d _ H => E cls d H⟩ Z' e σ' H' fps' → EvR ⟨mg, fixed, ⟨Z, H, Fp, vs⟩, fun cls d _ H => E cls d H⟩ Z' H' σ' fps' v r → Q v H' :=
    fun {r e v Z' H' σ' fps'} po s' re => by
      unfold finF at po
      split at po
      · rename_i d bs hb
        exact po v Z' H' _ (h0.leave s' rfl rfl hfix hb) re
      · rename_i t bs hb
        obtain ⟨fp, r1, r2, r3⟩ := re
        refine po v Z' H' _ (h0.leave s' rfl rfl hfix hb) ⟨fp, r1, r2, fun a m => ⟨(r3 a m).1, fun i mi => ?_, (r3 a m).2.2⟩⟩
        refine (r3 a m).2.1 i ?_
        simp only at mi
        split at mi
        · exact mi
        · cases mi
      · exact po.elim
  cases em : m (as ++ List.replicate (N.length - ps.length) .un) with
  | no => rw [em] at po; exact po
  | bk e => rw [em] at po; exact po.elim
  | ct e => rw [em] at po; exact po.elim
  | nx e => rw [em] at po; exact fun Z' σ' H' fps' s' _ => fin po s' .non
  | rt r e => rw [em] at po; exact fun v Z' σ' H' fps' s' _ re => fin po s' re
  | ex x e =>
    rw [em] at po
    intro cls d Z' σ' H' fps' s' _ xr
    simp only at po
    split at po
    · rename_i bs hb
      exact po cls d Z' H' _ (h0.leave s' rfl rfl hfix hb) xr
    · exact po.elim
end
end DL
namespace DL
open PySem PySem.Spec PyProof.Rows L2
/-! ### a def called -/
def toArgs (e : Ve) : Nat → List Ev → Option (List S × List (Nat × Nat))
  | _, [] => some ([], [])
  | i, x :: xs => match toArgs e (i + 1) xs with
    | none => none
    | some (as, ow) => match x with
      | .dat d => some (.dat d :: as, ow)
      | .pl j [] => match e[j]? with
        | some (.own (.dat d)) => some (.dat d :: as, ow)
        | some (.own t) => if (ow.lookup j).isSome = true then none else some (.own t :: as, (j, i) :: ow)
        | _ => none
      | _ => none
def killA : S → S
  | .al _ _ => .un
  | s => s
def backE (ow : List (Nat × Nat)) (r : List S) (e : Ve) : Ve := match ow with
  | [] => e
  | _ => e.mapIdx fun k s => match ow.lookup k with
    | some i => r.getD i .un
    | none => killA s
def eFn (np : Nat) (fm : FM) (ma : AM) : EM := fun env => (ma env).bind fun xs e1 => match toArgs e1 0 xs with
  | some (as, ow) => if as.length = np then match fm as with
    | .ok (.dat d) bs => .ok (.dat d) (backE ow (aft as bs) e1)
    | .ok (.new t) bs => .ok (.new t) (backE ow (aft as bs) e1)
    | .ok _ _ => .no
    | .ex x bs => .ex x (backE ow (aft as bs) e1)
    | .no => .no
    else .no
  | none => .no
theorem HvRs.get {Z H : Hp} {σ : L2.St} : ∀ {vs : List V} {xs : List Ev} {i : Nat} {x : Ev}, HvRs Z H σ vs xs → xs[i]? = some x → ∃ v, vs[i]? = some v ∧ HvR true Z H σ v x
  | _, _, _, _, .nil, e => by simp at e
  | _, _, 0, _, .cons h _, e => by simp at e; subst e; exact ⟨_, rfl, h⟩
  | _, _, i + 1, x, .cons _ r, e => by
    obtain ⟨v, h1, h2⟩ := HvRs.get (i := i) (x := x) r (by simpa using e)
    exact ⟨v, by simpa using h1, h2⟩
structure ArgsOk (g : Gx) (Z H : Hp) (e : Ve) (σ : L2.St) (fps : Nat → List Addr) (vs : List V) (i0 : Nat) (as : List S) (ow : List (Nat × Nat)) : Prop where
  len : as.length = vs.length
  up : ∀ k i, ow.lookup k = some i → i0 ≤ i ∧ ∃ t v, e[k]? = some (S.own t) ∧ as[i - i0]? = some (S.own t) ∧ vs[i - i0]? = some v ∧ σ[k]? = some (some v) ∧ Own g.mg Z H v t (fps k)
  dn : ∀ i t, as[i]? = some (S.own t) → ∃ k, ow.lookup k = some (i0 + i)
  dat : ∀ (i : Nat) d, as[i]? = some (S.dat d) → ∃ v, vs[i]? = some v ∧ RD Z v d
  one : ∀ (i : Nat) x, as[i]? = some x → (∃ d, x = S.dat d) ∨ ∃ t, x = S.own t
  inj : ∀ k k' i, ow.lookup k = some i → ow.lookup k' = some i → k = k'
theorem toArgs_ok {g : Gx} {Z H : Hp} {e : Ve} {σ : L2.St} {fps : Nat → List Addr} (s : StR g Z e σ H fps) : ∀ {vs : List V} {xs : List Ev} {i0 : Nat} {as : List S} {ow : List (Nat × Nat)}, HvRs Z H σ vs xs → toArgs e i0 xs = some (as, ow) → ArgsOk g Z H e σ fps vs i0 as ow
  | _, _, i0, as, ow, .nil, h => by
    simp [toArgs] at h
    obtain ⟨rfl, rfl⟩ := h
    exact ⟨rfl, fun k i e => by simp at e, fun i t e => by simp at e, fun i t e => by simp at e, fun i t e => by simp at e, fun k k' i e => by simp at e⟩
  | _, _, i0, as, ow, .cons (v := v) (x := x) (vs := vs) (xs := xs) hv hr, h => by
    unfold toArgs at h
    split at h
    · cases h
    rename_i as' ow' h1
    have ih := toArgs_ok s hr h1
    have dcase : ∀ d, RD Z v d → some (S.dat d :: as', ow') = some (as, ow) → ArgsOk g Z H e σ fps (v :: vs) i0 as ow := fun d rd q => by
      simp only [Option.some.injEq, Prod.mk.injEq] at q
      obtain ⟨rfl, rfl⟩ := q
      refine ⟨by simp [ih.len], fun k i e => ?_, fun i t e => ?_, fun i d' e => ?_, fun i y e => ?_, ih.inj⟩
      · obtain ⟨h2, t, v', h3, h4, h5, h6⟩ := ih.up k i e
        refine ⟨by omega, t, v', h3, ?_, ?_, h6⟩
        · rw [show i - i0 = (i - (i0 + 1)) + 1 by omega]; simpa using h4
        · rw [show i - i0 = (i - (i0 + 1)) + 1 by omega]; simpa using h5
      · cases i with
        | zero => simp at e
        | succ i =>
          obtain ⟨k, hk⟩ := ih.dn i t (by simpa using e)
          exact ⟨k, by rw [hk]; congr 1; omega⟩
      · cases i with
        | zero => simp at e; subst e; exact ⟨v, rfl, rd⟩
        | succ i => simpa using ih.dat i d' (by simpa using e)
      · cases i with
        | zero => simp at e; exact .inl ⟨d, e.symm⟩
        | succ i => exact ih.one i y (by simpa using e)
    cases x with
    | dat d => exact dcase d hv h
    | new t => exact hv.elim
    | pl j p =>
      obtain ⟨_, vj, hσ, hw⟩ := hv
      cases p with
      | cons f p => simp at h
      | nil =>
        unfold walk at hw
        cases hw
        simp only at h
        split at h
        · rename_i d hj
          obtain ⟨w, q1, q2⟩ := s.slot j _ hj
          rw [hσ] at q1
          cases q1
          generalize fps j = fpj at q2
          cases q2 with
          | dat rd => exact dcase d rd h
        · rename_i t hnd hj
          split at h
          · cases h
          · rename_i hno
            simp only [Option.some.injEq, Prod.mk.injEq] at h
            obtain ⟨rfl, rfl⟩ := h
            obtain ⟨w, q1, q2⟩ := s.slot j _ hj
            rw [hσ] at q1
            cases q1
            have hno' : ow'.lookup j = none := by
              cases q : ow'.lookup j with
              | none => rfl
              | some i => rw [q] at hno; simp at hno
            have lk : ∀ k, ((j, i0) :: ow').lookup k = if k = j then some i0 else ow'.lookup k := fun k => by
              by_cases c : k = j
              · subst c; simp [List.lookup]
              · have : (k == j) = false := by simpa using c
                simp [List.lookup, this, c]
            refine ⟨by simp [ih.len], fun k i e => ?_, fun i t' e => ?_, fun i d' e => ?_, fun i y e => ?_, fun k k' i h1 h2 => ?_⟩
            · rw [lk] at e
              split at e
              · rename_i c
                subst c
                cases e
                exact ⟨Nat.le_refl _, t, _, hj, by simp, by rw [Nat.sub_self]; rfl, hσ, q2⟩
              · obtain ⟨h2, t', v', h3, h4, h5, h6⟩ := ih.up k i e
                refine ⟨by omega, t', v', h3, ?_, ?_, h6⟩
                · rw [show i - i0 = (i - (i0 + 1)) + 1 by omega]; simpa using h4
                · rw [show i - i0 = (i - (i0 + 1)) + 1 by omega]; simpa using h5
            · cases i with
              | zero => exact ⟨j, by rw [lk, if_pos rfl]; rfl⟩
              | succ i =>
                obtain ⟨k, hk⟩ := ih.dn i t' (by simpa using e)
                refine ⟨k, ?_⟩
                rw [lk, if_neg (fun c => by rw [c, hno'] at hk; cases hk), hk]
                congr 1; omega
            · cases i with
              | zero => simp at e
              | succ i => simpa using ih.dat i d' (by simpa using e)
            · cases i with
              | zero => simp at e; exact .inr ⟨t, e.symm⟩
              | succ i => exact ih.one i y (by simpa using e)
            · rw [lk] at h1 h2
              split at h1
              · rename_i c1
                split at h2
                · rename_i c2; rw [c1, c2]
                · cases h1
                  have := (ih.up k' i0 h2).1
                  omega
              · split at h2
                · cases h2
                  have := (ih.up k i0 h1).1
                  omega
                · exact ih.inj k k' i h1 h2
        · cases h
section
variable {X : Cx} {g : Gx}
theorem fn_run {np : Nat} {p : Bool} {fm : FM} {ma : AM} {σ : L2.St} {H : Hp} {Q : VK} (h : tE g false (eFn np fm ma) σ H Q) : tA g p ma σ H fun vs H1 => spF g.mg np fm vs H1 Q (fun cls d H => g.W cls d σ H) := by
  obtain ⟨Z, env, fps, s, h⟩ := h
  refine ⟨Z, env, fps, s, ?_⟩
  unfold eFn at h
  cases e : ma env with
  | no => simp [e] at h
  | ex x e1 => simpa [e] using h
  | ok xs e1 =>
    simp only [e, Res.bind_ok] at h
    intro vs Z1 H1 fps1 s1 z1 _ r1
    split at h
    case h_2 => exact h.elim
    rename_i as ow hta
    split at h
    case isFalse => exact h.elim
    rename_i hnp
    have A := toArgs_ok s1 r1 hta
    let fpA : Nat → List Addr := fun i => match as[i]? with
      | some (.own _) => match (List.range e1.length).find? (fun k => ow.lookup k == some i) with
        | some k => fps1 k
        | none => []
      | _ => []
    -- the slot of an owned argument
    have src : ∀ i t, as[i]? = some (S.own t) → ∃ k v, ow.lookup k = some i ∧ fpA i = fps1 k ∧ vs[i]? = some v ∧ Own g.mg Z1 H1 v t (fps1 k) := fun i t hi => by
      obtain ⟨k, hk⟩ := A.dn i t hi
      rw [Nat.zero_add] at hk
      obtain ⟨_, t', v, h1, h2, h3, h4, h5⟩ := A.up k i hk
      rw [Nat.sub_zero, hi] at h2
      cases h2
      refine ⟨k, v, hk, ?_, by simpa using h3, h5⟩
      show (match as[i]? with
        | some (.own _) => match (List.range e1.length).find? (fun k => ow.lookup k == some i) with
          | some k => fps1 k
          | none => []
        | _ => []) = fps1 k
      rw [hi]
      show (match (List.range e1.length).find? (fun k => ow.lookup k == some i) with | some k => fps1 k | none => []) = fps1 k
      have hkl : k < e1.length := (List.getElem?_eq_some_iff.mp h1).1
      cases q : (List.range e1.length).find? (fun k => ow.lookup k == some i) with
      | none =>
        have := List.find?_eq_none.mp q k (by simpa using hkl)
        simp [hk] at this
      | some k' =>
        have hk' := List.find?_some q
        have hk'' : ow.lookup k' = some i := by simpa using hk'
        rw [A.inj k' k i hk'' hk]
    have fp0 : ∀ i, (∀ t, as[i]? ≠ some (S.own t)) → fpA i = [] := fun i hi => by
      show (match as[i]? with
        | some (.own _) => match (List.range e1.length).find? (fun k => ow.lookup k == some i) with
          | some k => fps1 k
          | none => []
        | _ => []) = []
      split
      · rename_i t ht; exact (hi t ht).elim
      · rfl
    have memA : ∀ i a, a ∈ fpA i → ∃ k t, ow.lookup k = some i ∧ as[i]? = some (S.own t) ∧ a ∈ fps1 k := fun i a m => by
      by_cases c : ∃ t, as[i]? = some (S.own t)
      · obtain ⟨t, ht⟩ := c
        obtain ⟨k, v, h1, h2, _⟩ := src i t ht
        exact ⟨k, t, h1, ht, by rw [← h2]; exact m⟩
      · rw [fp0 i fun t ht => c ⟨t, ht⟩] at m; cases m
    let F : List Addr := allF as.length fpA
    have hF : ∀ i a, a ∈ fpA i → a ∈ F := fun i a m => mem_allF.mpr ⟨i, by
      obtain ⟨k, t, h1, h2, h3⟩ := memA i a m
      exact (List.getElem?_eq_some_iff.mp h2).1, m⟩
    have inF : ∀ a, a ∈ F → ∃ k i t, ow.lookup k = some i ∧ as[i]? = some (S.own t) ∧ a ∈ fps1 k := fun a m => by
      obtain ⟨i, _, hi⟩ := mem_allF.mp m
      obtain ⟨k, t, h1, h2, h3⟩ := memA i a hi
      exact ⟨k, i, t, h1, h2, h3⟩
    have sA : StR (gF g.mg Z1 H1 F vs) Z1 as (vs.map some) H1 fpA := by
      refine ⟨by rw [List.length_map]; exact A.len.symm, s1.sub, fun i x hx => ?_, fun i hi => fp0 i fun t ht => ?_, fun i j a m1 m2 => ?_, fun i => ?_, fun i a m => ?_, .refl _, fun b o e _ => e, fun b o e => .inl e, fun i a m => .inl (hF i a m), fun i hi => by cases hi⟩
      · rcases A.one i x hx with ⟨d, rfl⟩ | ⟨t, rfl⟩
        · obtain ⟨v, h1, h2⟩ := A.dat i d hx
          exact ⟨fp0 i (fun t ht => by rw [hx] at ht; cases ht), v, by rw [List.getElem?_map, h1]; rfl, h2⟩
        · obtain ⟨k, v, h1, h2, h3, h4⟩ := src i t hx
          exact ⟨v, by rw [List.getElem?_map, h3]; rfl, by rw [h2]; exact h4⟩
      · rw [List.getElem?_eq_none hi] at ht; cases ht
      · obtain ⟨k, t, h1, _, h3⟩ := memA i a m1
        obtain ⟨k', t', h1', _, h3'⟩ := memA j a m2
        have := s1.dis k k' a h3 h3'
        subst this
        rw [h1] at h1'
        exact Option.some.inj h1'
      · by_cases c : ∃ t, as[i]? = some (S.own t)
        · obtain ⟨t, ht⟩ := c
          obtain ⟨k, v, _, h2, _⟩ := src i t ht
          rw [h2]; exact s1.nd k
        · rw [fp0 i fun t ht => c ⟨t, ht⟩]; exact List.nodup_nil
      · obtain ⟨k, t, _, _, h3⟩ := memA i a m
        exact s1.nz k a h3
    -- the state behind the call
    have back : ∀ {bs : List O} {Z2 H2 : Hp} {fps2 : Nat → List Addr}, StR (gF g.mg Z1 H1 F vs) Z2 (aft as bs) (vs.map some) H2 fps2 →
        ∃ fps3, StR g Z2 (backE ow (aft as bs) e1) σ H2 fps3 ∧ ∀ a, a ∈ F ∨ H1 a = none → (∀ i, a ∉ fps2 i) → ∀ k, a ∉ fps3 k := fun {bs Z2 H2 fps2} s2 => by
      have a1 : Same Z1 Z2 := s2.e1
      have a2 : ∀ b o, H1 b = some o → b ∉ F → H2 b = some o := s2.e2
      have a3 : ∀ b o, Z2 b = some o → Z1 b = some o ∨ b ∈ F ∨ H1 b = none := s2.e3
      have a4 : ∀ i a, a ∈ fps2 i → a ∈ F ∨ H1 a = none := s2.e4
      have notF : ∀ k a, ow.lookup k = none → a ∈ fps1 k → a ∉ F := fun k a hk m mF => by
        obtain ⟨k', i, t, h1, _, h3⟩ := inF a mF
        have := s1.dis k k' a m h3
        subst this
        rw [hk] at h1; cases h1
      have there : ∀ k a, a ∈ fps1 k → H1 a ≠ none := fun k a m e => by
        obtain ⟨o, ho⟩ := s1.there m
        rw [ho] at e; cases e
      have FF : ∀ a, a ∈ F → a ∈ allF e1.length fps1 := fun a m => by
        obtain ⟨k, i, t, h1, _, h3⟩ := inF a m
        obtain ⟨_, t', v, q1, _⟩ := A.up k i h1
        exact mem_allF.mpr ⟨k, (List.getElem?_eq_some_iff.mp q1).1, h3⟩
      let fps3 : Nat → List Addr := fun k => match ow.lookup k with
        | some i => fps2 i
        | none => fps1 k
      have f3s : ∀ k i, ow.lookup k = some i → fps3 k = fps2 i := fun k i e => by
        show (match ow.lookup k with | some i => fps2 i | none => fps1 k) = _
        rw [e]
      have f3n : ∀ k, ow.lookup k = none → fps3 k = fps1 k := fun k e => by
        show (match ow.lookup k with | some i => fps2 i | none => fps1 k) = _
        rw [e]
      have hlen : (backE ow (aft as bs) e1).length = e1.length := by
        unfold backE
        split <;> simp
      have hget : ∀ k x, (backE ow (aft as bs) e1)[k]? = some x → (∃ i, ow.lookup k = some i ∧ x = (aft as bs).getD i .un) ∨ (ow.lookup k = none ∧ ∃ y, e1[k]? = some y ∧ ((ow = [] ∧ x = y) ∨ x = killA y)) := fun k x hx => by
        unfold backE at hx
        split at hx
        · exact .inr ⟨rfl, x, hx, .inl ⟨rfl, rfl⟩⟩
        · rw [List.getElem?_mapIdx] at hx
          cases q : e1[k]? with
          | none => rw [q] at hx; cases hx
          | some y =>
            rw [q] at hx
            simp only [Option.map_some, Option.some.injEq] at hx
            cases q2 : ow.lookup k with
            | some i => rw [q2] at hx; exact .inl ⟨i, rfl, hx.symm⟩
            | none => rw [q2] at hx; exact .inr ⟨rfl, y, rfl, .inr hx.symm⟩
      have s3 : StR (g.at ⟨Z1, H1, allF e1.length fps1, g.n.vs⟩) Z2 (backE ow (aft as bs) e1) σ H2 fps3 := by
        refine ⟨by rw [hlen]; exact s1.len, s2.sub, fun k x hx => ?_, fun k hk => ?_, fun k l a m1 m2 => ?_, fun k => ?_, fun k a m => ?_, a1, fun b o e k => a2 b o e fun m => k (FF b m), fun b o e => (a3 b o e).imp id fun z => z.imp (FF b) id, fun k a m => ?_, s1.pin⟩
        · rcases hget k x hx with ⟨i, h1, rfl⟩ | ⟨h1, y, h2, h3⟩
          · rw [f3s k i h1]
            obtain ⟨_, t, v, _, q2, q3, q4, _⟩ := A.up k i h1
            rw [Nat.sub_zero] at q2 q3
            have hil : i < (aft as bs).length := by rw [aft_length]; exact (List.getElem?_eq_some_iff.mp q2).1
            have sl := s2.slot i _ (List.getElem?_eq_getElem hil)
            rw [List.getD_eq_getElem?_getD, List.getElem?_eq_getElem hil]
            show SR g.mg Z2 H2 _ σ k (aft as bs)[i] (fps2 i)
            have hv : (vs.map some)[i]? = some (some v) := by rw [List.getElem?_map, q3]; rfl
            cases hx2 : (aft as bs)[i] with
            | un => rw [hx2] at sl; exact sl
            | dat d => rw [hx2] at sl; obtain ⟨e1, w, p1, p2⟩ := sl; rw [hv] at p1; cases p1; exact ⟨e1, v, q4, p2⟩
            | own t2 => rw [hx2] at sl; obtain ⟨w, p1, p2⟩ := sl; rw [hv] at p1; cases p1; exact ⟨v, q4, p2⟩
            | al j p =>
              exfalso
              have : ∀ (as : List S) (bs : List O) (i : Nat) j p, (aft as bs)[i]? ≠ some (.al j p) := fun as => by
                induction as with
                | nil => intro bs i j p e; simp [aft] at e
                | cons a r ih =>
                  intro bs i j p e
                  cases a with
                  | own t0 =>
                    cases bs with
                    | nil => cases i with
                      | zero => simp [aft] at e
                      | succ i => exact ih [] i j p (by simpa [aft] using e)
                    | cons b bs => cases i with
                      | zero => simp [aft] at e
                      | succ i => exact ih bs i j p (by simpa [aft] using e)
                  | dat d => cases i with
                    | zero => simp [aft] at e
                    | succ i => exact ih bs i j p (by simpa [aft] using e)
                  | un => cases i with
                    | zero => simp [aft] at e
                    | succ i => exact ih bs i j p (by simpa [aft] using e)
                  | al j0 p0 => cases i with
                    | zero => simp [aft] at e
                    | succ i => exact ih bs i j p (by simpa [aft] using e)
              exact this as bs i j p (by rw [List.getElem?_eq_getElem hil, hx2])
          · rw [f3n k h1]
            have sl := s1.slot k y h2
            have keepH : ∀ a ∈ fps1 k, H2 a = H1 a := fun a m => by
              obtain ⟨o, ho⟩ := s1.there m
              rw [ho]; exact a2 a o ho (notF k a h1 m)
            rcases h3 with ⟨hnil, rfl⟩ | rfl
            · have hFn : F = [] := by
                cases q : F with
                | nil => rfl
                | cons a r =>
                  obtain ⟨k', i, t, h4, _⟩ := inF a (by rw [q]; exact List.mem_cons_self)
                  rw [hnil] at h4; cases h4
              have sm : Same H1 H2 := fun b o e => a2 b o e (by rw [hFn]; simp)
              have := sl.keep (env := e1) a1 keepH fun v p u => walk_mono sm
              have hb : backE ow (aft as bs) e1 = e1 := by rw [hnil]; rfl
              rw [hb]
              exact this
            · cases y with
              | un => exact sl
              | dat d => obtain ⟨e1, v, p1, p2⟩ := sl; exact ⟨e1, v, p1, p2.mono a1⟩
              | own t => obtain ⟨v, p1, p2⟩ := sl; exact ⟨v, p1, p2.keep a1 keepH⟩
              | al j p => exact sl.1
        · rw [hlen] at hk
          have h1 : ow.lookup k = none := by
            cases q : ow.lookup k with
            | none => rfl
            | some i =>
              obtain ⟨_, t, v, q1, _⟩ := A.up k i q
              have := (List.getElem?_eq_some_iff.mp q1).1
              omega
          rw [f3n k h1]; exact s1.out k hk
        · cases q1 : ow.lookup k with
          | some i =>
            rw [f3s k i q1] at m1
            cases q2 : ow.lookup l with
            | some j =>
              rw [f3s l j q2] at m2
              have := s2.dis i j a m1 m2
              subst this
              exact A.inj k l i q1 q2
            | none =>
              rw [f3n l q2] at m2
              rcases a4 i a m1 with z | z
              · exact (notF l a q2 m2 z).elim
              · exact (there l a m2 z).elim
          | none =>
            rw [f3n k q1] at m1
            cases q2 : ow.lookup l with
            | some j =>
              rw [f3s l j q2] at m2
              rcases a4 j a m2 with z | z
              · exact (notF k a q1 m1 z).elim
              · exact (there k a m1 z).elim
            | none =>
              rw [f3n l q2] at m2
              exact s1.dis k l a m1 m2
        · cases q1 : ow.lookup k with
          | some i => rw [f3s k i q1]; exact s2.nd i
          | none => rw [f3n k q1]; exact s1.nd k
        · cases q1 : ow.lookup k with
          | some i => rw [f3s k i q1] at m; exact s2.nz i a m
          | none =>
            rw [f3n k q1] at m
            cases q : Z2 a with
            | none => rfl
            | some o =>
              rcases a3 a o q with z | z | z
              · rw [s1.nz k a m] at z; cases z
              · exact (notF k a q1 m z).elim
              · exact (there k a m z).elim
        · cases q1 : ow.lookup k with
          | some i => rw [f3s k i q1] at m; exact (a4 i a m).imp (FF a) id
          | none =>
            rw [f3n k q1] at m
            refine .inl (mem_allF.mpr ⟨k, ?_, m⟩)
            by_cases c : k < e1.length
            · exact c
            · rw [s1.out k (Nat.le_of_not_lt c)] at m; cases m
      refine ⟨fps3, s1.rebase (g' := g.at ⟨Z1, H1, allF e1.length fps1, g.n.vs⟩) rfl rfl (fun a m => ?_) s1.pin s3, fun a ha hn k m => ?_⟩
      · obtain ⟨k, _, hk⟩ := mem_allF.mp m
        exact ⟨k, hk⟩
      · cases q1 : ow.lookup k with
        | some i => rw [f3s k i q1] at m; exact hn i m
        | none =>
          rw [f3n k q1] at m
          rcases ha with z | z
          · exact notF k a q1 m z
          · exact there k a m z
    refine ⟨by rw [← A.len]; exact hnp, Z1, as, fpA, F, sA, hF, ?_⟩
    cases ef : fm as with
    | no => rw [ef] at h; exact h
    | ok r bs =>
      rw [ef] at h
      intro v Z2 H2 fps2 s2 re
      obtain ⟨fps3, s3, dj⟩ := back s2
      cases r with
      | dat d => exact h v Z2 H2 fps3 s3 (z1.trans s2.e1) (fun q => by cases q) re
      | pl j pp => exact h.elim
      | new t =>
        refine h v Z2 H2 fps3 s3 (z1.trans s2.e1) (fun q => by cases q) ?_
        obtain ⟨fp, q1, q2, q3⟩ := re
        refine ⟨fp, q1, q2, fun a m => ⟨(q3 a m).1, dj a (q3 a m).2.2 (q3 a m).2.1, ?_⟩⟩
        rcases (q3 a m).2.2 with z | z
        · obtain ⟨k, i, t', _, _, h3⟩ := inF a z
          exact s1.e4 k a h3
        · exact (s1.new0 z).2
    | ex x bs =>
      rw [ef] at h
      intro cls d Z2 H2 fps2 s2 xr
      obtain ⟨fps3, s3, dj⟩ := back s2
      exact h cls d Z2 H2 fps3 s3 (z1.trans s2.e1) xr
end
end DL
namespace DL
open PySem PySem.Spec PyProof.Rows L2
/-! ### a def by its mirror -/
/-- a def of the text under its name: it does what fm does, by k levels -/
structure FnAt (P : Program) (w : World) (K : PySem.W.Frag) (mg : Str → Option Value) (base : Heap) (k : Nat) (x : Str) (ps : List Str) (np : Nat) (fm : FM) : Prop where
  ex : ∃ f fd, FnOk P w K mg base (L2.CX P w) k f fd ps (spF mg np fm) ∧ mg x = some (.ref f) ∧ PySem.W.keepIn K (.ref f) = true ∧ Binds K fd ps []
/-- a def of the text as the head leaves it -/
structure DefAt (K : PySem.W.Frag) (mg : Str → Option Value) (x : Str) (ps : List Str) (st : Stmt) : Prop where
  ex : ∃ f fd, FunD K x x (defArgs st) (defBody st) (defScope st) [] [] f fd ∧ mg x = some (.ref f) ∧ Binds K fd ps []
section
variable {P : Program} {w : World} {K : PySem.W.Frag} {mg : Str → Option Value} {base : Heap}
theorem fn_at {x : Str} {ps N : List Str} {st : Stmt} {k : Nat} {fixed : List Nat} {m : SM} (F : DefAt K mg x ps st) (SC : FnScope N ps (defScope st)) (hps : ps.length ≤ N.length) (hfx : ∀ i ∈ fixed, i < ps.length)
    (hb : ∀ (f : Addr) (cdv : Value) (A : Around) (outer : List Env) (s : Shared) (H : Hp) (n : En) (E : XK), Room k (A.deeper (envOfC x (defScope st) s.heap.objs.size f cdv)) →
      DSs (cxOf (L2.CX P w) P w K mg base N x (defScope st) f cdv A outer s H E) ⟨mg, fixed, n, fun cls d _ H => E cls d H⟩ (defBody st) m) :
    FnAt P w K mg base (k + 1) x ps ps.length (runF N.length ps.length fixed m) := by
  obtain ⟨f, fd, h1, h2, h3⟩ := F.ex
  exact ⟨f, fd, fn_mirror h1 SC hps hfx (hb f), h2, h1.kp, h3⟩
end
section
variable {X : Cx} {g : Gx}
theorem de_fn {k j np : Nat} {x : Str} {ps : List Str} {fm : FM} {p : Bool} {e : Expr} {es : List Expr} {ma : AM} {ps' pos : Pos} (F : FnAt X.prog X.w X.K X.mg X.base k x ps np fm) (hr : Room j X.A) (hkj : k ≤ j) (hmg : g.mg = X.mg) (hg : Gl X x) (tk : Takes X g.W) (ha : DA X g p (e :: es) ma)
    (hdb : (x == ("__debug__" : Str)) = false := by decide) (he : starEach (e :: es) X.env = (false, eval e X.env) :: starEach es X.env := by rfl) (hpl : (backTo pos (starEach es X.env)).any (·.1) = false := by rfl) :
    DE X g false (.Call (.Name x ps') (e :: es) [] pos) (eFn np fm ma) := by
  obtain ⟨f, fd, h1, h2, h3, h4⟩ := F.ex
  refine PE.imp (pe_callS h1 (hr.mono hkj) hg h2 h3 h4 (fun σ => passAt tk σ) ha hdb he hpl) fun σ H Q h => ?_
  have := fn_run (p := p) h
  rw [hmg] at this
  exact this
/-- a module's constant -/
theorem de_glob {x : Str} {i : Int} {pos : Pos} (hg : Gl X x) (hm : ∃ t, X.mg x = some (.int i t)) (hd : (x == ("__debug__" : Str)) = false := by decide) : DE X g true (.Name x pos) (eD (.int i)) := by
  obtain ⟨t, hm⟩ := hm
  exact de_c (pe_glob (v := .int i) hg hm ⟨t, rfl⟩ hd) fun _ => .int
/-- what the proof never comes to -/
def sNo : SM := fun _ => .no
theorem ds_no {st : Stmt} : DS X g st sNo := ⟨fun _ _ _ _ _ _ ⟨_, _, _, _, h⟩ => h.elim⟩
def eNo : EM := fun _ => .no
theorem de_no {e : Expr} {p : Bool} : DE X g p e eNo := ⟨fun _ _ _ _ _ _ ⟨_, _, _, _, h⟩ => h.elim⟩
/-- xs[::-1] -/
def revD : D → Option Ev
  | .lst xs => some (.new (.lst xs.reverse))
  | _ => none
theorem de_rev {e : Expr} {p : Bool} {m : EM} {k : Nat} {p1 p2 p3 pos : Pos} (he : DE X g p e m) : DE X g p (.Subscript e (.Slice none none (some (.UnaryOp .USub (.Constant (.int 1) k p1) p2)) p3) pos) (eOp1 revD m) := by
  refine PE.imp (pe_revL he) fun σ H Q h => ?_
  refine op1_run (r := fun x H1 Q => ∃ a xs, x = .ref a ∧ SqL X.K H1 a xs ∧ ∀ p, H1 p = none → Q (.ref p) (upd H1 p (.lst xs.reverse))) (fun mg Z H v d ev Q s rv h q => ?_) h
  cases d <;> cases h
  obtain ⟨a, vs, rfl, h1, r1⟩ := rv.lst s
  exact ⟨a, vs, rfl, .of h1, fun p hp => q _ _ _ (.new s hp) (.lst s hp r1.reverse)⟩
section
local instance (priority := 5000) (i b : Int) : Decidable (i < b) := dLtI i b
local instance (priority := 5000) (i b : Int) : Decidable (i ≤ b) := dLeI i b
/-- list(range(..)) -/
def eLr1 (m : EM) : EM := fun env => match m env with
  | .ok (.dat (.int n)) e => if -(2 ^ 62) ≤ n ∧ n ≤ 16777216 then .ok (.new (.lst (rangeL 0 n.toNat))) e else .no
  | .ex x e => .ex x e
  | _ => .no
def eLr2 (ma mb : EM) : EM := fun env => match ma env with
  | .ok (.dat (.int a)) e1 => match mb e1 with
    | .ok (.dat (.int b)) e => if -(2 ^ 62) ≤ a ∧ a < 2 ^ 62 ∧ -(2 ^ 62) ≤ b ∧ b < 2 ^ 62 ∧ (b - a).toNat ≤ 16777216 then .ok (.new (.lst (rangeL a (b - a).toNat))) e else .no
    | .ex x e => .ex x e
    | _ => .no
  | .ex x e => .ex x e
  | _ => .no
end
theorem rg_rd {Z : Hp} (a b : Int) : RDs Z (rgV a b) (rangeL a (b - a).toNat) := by
  unfold rgV rangeL
  generalize (b - a).toNat = n
  have : ∀ l : List Nat, RDs Z (l.map fun i => V.int (a + (i : Nat))) (l.map fun (i : Nat) => D.int (a + (i : Int))) := fun l => by
    induction l with
    | nil => exact .nil
    | cons x l ih => exact .cons .int ih
  exact this _
theorem de_lr1 {p : Bool} {a : Expr} {ma : EM} {p1 p2 pos pos2 : Pos} (hc : X.calm = true) (hl : Gl X "list") (hml : X.mg "list" = none) (hg : Gl X "range") (hm : X.mg "range" = none) (ha : DE X g p a ma)
    (na : starEach [a] X.env = (false, eval a X.env) :: starEach [] X.env := by rfl) (nb : starEach [.Call (.Name "range" p2) [a] [] pos2] X.env = (false, eval (.Call (.Name "range" p2) [a] [] pos2) X.env) :: starEach [] X.env := by rfl) :
    DE X g p (.Call (.Name "list" p1) [.Call (.Name "range" p2) [a] [] pos2] [] pos) (eLr1 ma) := by
  refine PE.imp (pe_listRg hc hl hml (prg_1 hg hm ha na) nb) fun σ H Q ⟨Z, env, fps, s, h⟩ => ⟨Z, env, fps, s, ?_⟩
  unfold eLr1 at h
  cases e : ma env with
  | no => simp [e] at h
  | ex x e1 => simpa [e] using h
  | ok x e1 =>
    intro v Z1 H1 fps1 s1 z1 k1 r1
    cases x with
    | dat d =>
      cases d with
      | int n =>
        simp only [e] at h
        split at h
        · rename_i hn
          cases r1
          refine ⟨n, rfl, ⟨by omega, by omega, hn.1, by omega, by omega⟩, fun q hq => ?_⟩
          have f := Fresh.new (o := .lst (rgV 0 n)) s1.sub hq
          have rd : RDs Z1 (rgV 0 n) (rangeL 0 n.toNat) := by have := rg_rd (Z := Z1) 0 n; rw [Int.sub_zero] at this; exact this
          refine h (.ref q) _ _ fps1 (s1.fresh f) z1 (fun hp => ?_) ((NewR.lst (mg := g.mg) s1.sub hq rd).ev s1)
          obtain ⟨a1, a2, a3⟩ := k1 hp
          exact ⟨a1, a2, a3.trans f.h⟩
        · exact h.elim
      | _ => simp [e] at h
    | _ => simp [e] at h
theorem de_lr2 {p q : Bool} {a b : Expr} {ma mb : EM} {p1 p2 pos pos2 : Pos} (hc : X.calm = true) (hl : Gl X "list") (hml : X.mg "list" = none) (hg : Gl X "range") (hm : X.mg "range" = none) (ha : DE X g p a ma) (hb : DE X g q b mb)
    (na : starEach [a, b] X.env = (false, eval a X.env) :: starEach [b] X.env := by rfl) (nb2 : starEach [b] X.env = (false, eval b X.env) :: starEach [] X.env := by rfl) (nb3 : (backTo pos2 (starEach [b] X.env)).any (·.1) = false := by rfl)
    (nb : starEach [.Call (.Name "range" p2) [a, b] [] pos2] X.env = (false, eval (.Call (.Name "range" p2) [a, b] [] pos2) X.env) :: starEach [] X.env := by rfl) :
    DE X g (p && q) (.Call (.Name "list" p1) [.Call (.Name "range" p2) [a, b] [] pos2] [] pos) (eLr2 ma mb) := by
  refine PE.imp (pe_listRg hc hl hml (prg_2 hg hm ha hb na nb2 nb3) nb) fun σ H Q ⟨Z, env, fps, s, h⟩ => ⟨Z, env, fps, s, ?_⟩
  unfold eLr2 at h
  cases e : ma env with
  | no => simp [e] at h
  | ex x e1 => simpa [e] using h
  | ok x e1 =>
    intro v Z1 H1 fps1 s1 z1 k1 r1
    cases x with
    | dat d =>
      cases d with
      | int i =>
        simp only [e] at h
        refine ⟨Z1, e1, fps1, s1, ?_⟩
        cases e2 : mb e1 with
        | no => simp [e2] at h
        | ex x e3 => simp only [e2] at h; exact fun cls d Z2 H2 fps2 s2 z2 xr => h cls d Z2 H2 fps2 s2 (z1.trans z2) xr
        | ok y e3 =>
          intro u Z2 H2 fps2 s2 z2 k2 r2
          cases y with
          | dat d2 =>
            cases d2 with
            | int j =>
              simp only [e2] at h
              split at h
              · rename_i hn
                cases r1
                cases r2
                refine ⟨i, j, rfl, rfl, hn, fun q hq => ?_⟩
                have f := Fresh.new (o := .lst (rgV i j)) s2.sub hq
                refine h (.ref q) _ _ fps2 (s2.fresh f) (z1.trans z2) (fun hp => ?_) ((NewR.lst (mg := g.mg) s2.sub hq (rg_rd i j)).ev s2)
                simp only [Bool.and_eq_true] at hp
                obtain ⟨a1, a2, a3⟩ := k1 hp.1
                obtain ⟨b1, b2, b3⟩ := k2 hp.2
                exact ⟨b1.trans a1, b2.trans a2, (a3.trans b3).trans f.h⟩
              · exact h.elim
            | _ => simp [e2] at h
          | _ => simp [e2] at h
      | _ => simp [e] at h
    | _ => simp [e] at h
end
/-! ### the end -/
def notList (o : Obj) : Bool := match o.cls with
  | .type "list" => false
  | _ => true
def frE (g : Addr → Option Obj) (as : List Addr) : PySem.W.Frag := (He.frG g as).filter fun p => notList p.2
theorem frE_lookup : ∀ {l : PySem.W.Frag} {a : Addr} {o : Obj}, (l.filter fun p => notList p.2).lookup a = some o → (a, o) ∈ l ∧ notList o = true
  | [], _, _, e => by cases e
  | (b, u) :: l, a, o, e => by
    rw [List.filter_cons] at e
    by_cases c : notList u = true
    · rw [if_pos c] at e
      by_cases d : a = b
      · subst d
        simp [List.lookup] at e
        subst e
        exact ⟨List.mem_cons_self, c⟩
      · have : (a == b) = false := by simpa using d
        simp only [List.lookup, this] at e
        obtain ⟨h1, h2⟩ := frE_lookup e
        exact ⟨List.mem_cons_of_mem _ h1, h2⟩
    · rw [if_neg c] at e
      obtain ⟨h1, h2⟩ := frE_lookup e
      exact ⟨List.mem_cons_of_mem _ h1, h2⟩
theorem frG_mem {g : Addr → Option Obj} {as : List Addr} {p : Addr × Obj} (h : p ∈ He.frG g as) : g p.1 = some p.2 := by
  unfold He.frG at h
  obtain ⟨a, _, e⟩ := List.mem_filterMap.mp h
  cases q : g a with
  | none => rw [q] at e; cases e
  | some o => rw [q] at e; cases e; exact q
def obsEG (n : Nat) (fa : List He.Fa) (fn : List He.DefD) (g : Addr → Option Obj) : He.AlD := He.obsD fa fn (frE g (He.asD g n))
def hookE (n : Nat) (fa : List He.Fa) (fn : List He.DefD) : PySem.W.Hook where
  α := He.AlD
  obs := fun s => obsEG n fa fn s.heap.get?
  val := fun _ => He.valD fn
  says := fun _ h => ∃ K : PySem.W.Frag, K.In h ∧ He.SaysD fa fn K ∧ ∀ a o, K.lookup a = some o → notList o = true
  of := fun _ s e => ⟨_, fun a o q => frG_mem (frE_lookup q).1, e, fun a o q => (frE_lookup q).2⟩
  keeps := fun _ _ _ ⟨K, hK, c, nl⟩ k => ⟨K, PySem.W.Frag.In.keeps hK k, c, nl⟩
theorem obsEG_eq {n : Nat} {fa : List He.Fa} {fn : List He.DefD} {g : Addr → Option Obj} {s : Shared} (h : ∀ a, g a = s.heap.get? a) : obsEG n fa fn g = (hookE n fa fn).obs s := by
  have e : g = s.heap.get? := funext h
  rw [e] <;> rfl
/-- the law's own promise, from what its mirror answers -/
theorem law_sp {K : PySem.W.Frag} {mg : Str → Option Value} {fm : FM} (nl : ∀ a o, K.lookup a = some o → notList o = true) {ns : List Int} (hm : fm [.dat (.scr ns)] = .ok (.dat (.bl true)) []) {H : Hp} {a : Addr} (hO : Only H) (hS : SqL K H a (ns.map V.int)) :
    spF mg 1 fm [.ref a] H (fun v _ => v = .bl true) fun _ _ _ => False := by
  have ha : ∃ o, H a = some (.frz o (.lst (ns.map V.int))) := by
    rcases hS with (h | h) | ⟨o, its, n, h1, h2, _⟩
    · rcases hO a with q | ⟨o, xs, q⟩
      · rw [q] at h; cases h
      · rw [q] at h; cases h
    · exact h
    · have := nl a o h1
      unfold notList at this
      rw [h2] at this
      cases this
  obtain ⟨o, ha⟩ := ha
  refine ⟨rfl, H, [.dat (.scr ns)], fun _ => [], [], ⟨rfl, .refl _, fun i x e => ?_, fun _ _ => rfl, fun i j a m => by simp at m, fun _ => List.nodup_nil, fun i a m => by simp at m, .refl _, fun b o e _ => e, fun b o e => .inl e, fun i a m => by simp at m, fun i hi => by cases hi⟩, fun i a m => by simp at m, ?_⟩
  · cases i with
    | zero => simp at e; subst e; exact ⟨rfl, .ref a, rfl, .scr ha⟩
    | succ i => simp at e
  · rw [hm]
    intro v Z' H' fps' s' r
    cases r
    rfl
/-- where nothing is to be let out, nothing is -/
theorem nothing_out {P : Program} {w : World} {K : PySem.W.Frag} {mg : Str → Option Value} {base : Heap} {k : Nat} {f : Addr} {fd : FuncData} {ps : List Str} {sp : Sp} (F : FnOk P w K mg base (L2.CX P w) k f fd ps sp) :
    FnOk P w K mg base CX0 k f fd ps (fun vs H Q _ => sp vs H Q fun _ _ _ => False) := by
  refine ⟨fun vs H Q E h => F.len _ _ _ _ h, fun A outer s H args us vs Q E hr e0 hb hv hs => codeAny_mono (F.run A outer s H args us vs Q (fun _ _ _ => False) hr e0 hb hv hs) fun r s' hq => ?_⟩
  cases r with
  | error e =>
    obtain ⟨_, _, _, _, _, _, _, _, _, _, _, _, z⟩ := hq
    exact z.elim
  | ok fl =>
    cases fl with
    | ret u => exact hq
    | next => exact hq
    | brk => exact hq
    | cont => exact hq
theorem law_end {l : PySem.W.OpenLaw} {k : Nat} {q : Program} {loose : List Str} {n : Nat} {fa : List He.Fa} {fn : List He.DefD} {d : DefRec} {fm : FM} {XP : (Str → Option Value) → Heap → Prop} (hn : l.most = some 63) (hdf : d.params.defaults = []) (hr : Room k callerA) (hd : d.name = ("law" : Str))
    (F : ∀ (w : World) (K : PySem.W.Frag) (mg : Str → Option Value) (h : Heap), K.In h → h.Ns mainGlobals mg → He.SaysD fa fn K → ∃ f fd, mg "law" = some (.ref f) ∧ (∀ (s : Shared) (v : Value), BindsTo s fd ⟨[v], []⟩ [("script", v)]) ∧
      ∀ base : Heap, K.In base → base.Ns mainGlobals mg → FnOk l.prog w K mg base (L2.CX l.prog w) k f fd ["script"] (spF mg 1 fm))
    (hm : ∀ ns : List Int, ns.length ≤ 63 → fm [.dat (.scr ns)] = .ok (.dat (.bl true)) []) :
    PySem.W.WalkO q loose XP (hookE n fa fn).says l.row.toRowW d [] (fun f vs => PySem.call f vs) := by
  refine L2.walk_ofE (l := l) (n := 63) (k := k) (x := "script") (CX := L2.CX0) hn (by decide) hdf hr ?_ (fun _ _ _ _ z => z)
  intro w mg f h Y G hmg
  obtain ⟨K, KX, c, nl⟩ := Y
  obtain ⟨f', fd, h1, h2, h3⟩ := F w K mg h KX G c
  rw [hd, h1] at hmg
  cases hmg
  exact ⟨K, fd, fun vs H Q _ => spF mg 1 fm vs H Q fun _ _ _ => False, KX, h2, fun H a ns hl hO hS => law_sp nl (hm ns hl) hO hS, fun base KB GB => nothing_out (h3 base KB GB)⟩
end DL
namespace DL
open PySem PySem.Spec PyProof.Rows L2
section
variable {X : Cx} {g : Gx}
theorem not_pin {i : Nat} (h : g.pins.contains i = false) : i ∉ g.pins := fun m => by
  have : g.pins.contains i = true := by simpa using m
  rw [h] at this; cases this
theorem all_pin {own : List Nat} (h : own.all (fun i => !g.pins.contains i) = true) : ∀ i ∈ own, i ∉ g.pins := fun i m => not_pin (by
  have := List.all_eq_true.mp h i m
  simpa using this)
theorem all_sub {ts own : List Nat} (h : ts.all (fun i => own.contains i) = true) : ∀ i ∈ ts, i ∈ own := fun i m => by
  have := List.all_eq_true.mp h i m
  simpa using this
/-! the rules with what can be looked up as rfl -/
theorem dx_comp {own : List (Str × Nat)} {p pt pe : Bool} {tg iter elt : Expr} {ifs : List Expr} {scope : Scope} {pos : Pos} {mi : IM} {gm : GM} {tm : TM} {em : EM} {ts : List Nat} (hc : X.calm = true) (hN : X.N.Nodup) (hi : DI X g p tg iter mi) (ok : BlkOk X.N X.env.scope scope own)
    (hg : ∀ (n : En) (s : Shared) (H : Hp) (C : Addr) (cl : List (Str × Addr)) (fp : List Addr), DG (X.blk s H scope (compEnvC scope cl C X.env) fp) (g.blk n) ts tg gm)
    (ht : ∀ (n : En) (s : Shared) (H : Hp) (C : Addr) (cl : List (Str × Addr)) (fp : List Addr), DTs (X.blk s H scope (compEnvC scope cl C X.env) fp) (g.blk n) pt ifs tm)
    (he : ∀ (n : En) (s : Shared) (H : Hp) (C : Addr) (cl : List (Str × Addr)) (fp : List Addr), DE (X.blk s H scope (compEnvC scope cl C X.env) fp) (g.blk n) pe elt em)
    (hpin : (own.map (·.2)).all (fun i => !g.pins.contains i) = true := by rfl) (hts : ts.all (fun i => (own.map (·.2)).contains i) = true := by rfl)
    (hs : ∀ x, foldedSetIterable iter X.env x = pure x := by intro _; rfl) :
    DE X g false (.ListComp elt [⟨tg, iter, ifs, 0⟩] scope pos) (eComp (own.map (·.2)) mi gm tm em) := de_comp hc hN hi ok (all_pin hpin) (all_sub hts) hg ht he hs
theorem ax_comp {i : Nat} {y : Str} {py : Pos} {own : List (Str × Nat)} {p pt pe : Bool} {tg iter elt : Expr} {ifs : List Expr} {scope : Scope} {pos spos : Pos} {mi : IM} {gm : GM} {tm : TM} {em : EM} {ts : List Nat} (hc : X.calm = true) (hN : X.N.Nodup) (hy : X.N[i]? = some y) (hyl : X.env.scope.names.lookup y = some .local)
    (hsw : swapsWith (.ListComp elt [⟨tg, iter, ifs, 0⟩] scope pos) (some (.Name y py)) spos.line X.env = pure true) (hi : DI X g p tg iter mi) (ok : BlkOk X.N X.env.scope scope own)
    (hg : ∀ (n : En) (s : Shared) (H : Hp) (C : Addr) (cl : List (Str × Addr)) (fp : List Addr), DG (X.blk s H scope (compEnvC scope cl C X.env) fp) (g.blk n) ts tg gm)
    (ht : ∀ (n : En) (s : Shared) (H : Hp) (C : Addr) (cl : List (Str × Addr)) (fp : List Addr), DTs (X.blk s H scope (compEnvC scope cl C X.env) fp) (g.blk n) pt ifs tm)
    (he : ∀ (n : En) (s : Shared) (H : Hp) (C : Addr) (cl : List (Str × Addr)) (fp : List Addr), DE (X.blk s H scope (compEnvC scope cl C X.env) fp) (g.blk n) pe elt em)
    (hpin : (own.map (·.2)).all (fun i => !g.pins.contains i) = true := by rfl) (hts : ts.all (fun i => (own.map (·.2)).contains i) = true := by rfl)
    (hs : ∀ x, foldedSetIterable iter X.env x = pure x := by intro _; rfl) : AsgOk X g false i (.Assign [.Name y py] (.ListComp elt [⟨tg, iter, ifs, 0⟩] scope pos) spos) (eComp (own.map (·.2)) mi gm tm em) := asg_comp hc hN hy hyl hsw hi ok (all_pin hpin) (all_sub hts) hg ht he hs
theorem dx_set {i : Nat} {p : Bool} {st : Stmt} {m : EM} (h : AsgOk X g p i st m) (hp : g.pins.contains i = false := by rfl) : DS X g st (sSet i m) := ds_set h (not_pin hp)
theorem dx_own {i : Nat} {p : Bool} {st : Stmt} {m : EM} (h : AsgOk X g p i st m) (hp : g.pins.contains i = false := by rfl) : DS X g st (sOwn i m) := ds_own h (not_pin hp)
theorem dx_ali {i : Nat} {p : Bool} {st : Stmt} {m : EM} (h : AsgOk X g p i st m) (hp : g.pins.contains i = false := by rfl) : DS X g st (sAli i m) := ds_ali h (not_pin hp)
theorem dx_name {i : Nat} {x : Str} {pos : Pos} (hN : X.N.Nodup) (hi : X.N[i]? = some x) (hx : Loc X.env.scope x) (hp : g.pins.contains i = false := by rfl) (hf : X.fn x = true ∨ X.env.scope.names.lookup x = some .local := by first | exact .inl rfl | exact .inr rfl | assumption) : DG X g [i] (.Name x pos) (gNm i) := dg_name hN hi hx (not_pin hp) hf
theorem dx_par {i j : Nat} {x y : Str} {a b : Expr} {p : Bool} {ma : AM} {px py pt pos : Pos} {kt k2 pt2} (hc : X.calm = true) (hN : X.N.Nodup) (hi : X.N[i]? = some x) (hj : X.N[j]? = some y) (hij : i ≠ j)
    (hx : X.env.scope.names.lookup x = some .local) (hy : X.env.scope.names.lookup y = some .local) (ha : DA X g p [a, b] ma)
    (hw : swappedStores [.Tuple [.Name x px, .Name y py] kt pt] (.Tuple [a, b] k2 pt2) X.env = pure (some [x, y]))
    (hpi : g.pins.contains i = false := by rfl) (hpj : g.pins.contains j = false := by rfl)
    (hs : swapsWithSole [.Tuple [.Name x px, .Name y py] kt pt] (.Tuple [a, b] k2 pt2) pos.line X.env = pure false := by rfl) :
    DS X g (.Assign [.Tuple [.Name x px, .Name y py] kt pt] (.Tuple [a, b] k2 pt2) pos) (sPar i j ma) := ds_par hc hN hi hj hij hx hy ha (not_pin hpi) (not_pin hpj) hw hs
theorem dx_par3 {i j l : Nat} {x y z : Str} {a b c : Expr} {p : Bool} {ma : AM} {px py pz pt pos : Pos} {kt k2 pt2} (hc : X.calm = true) (hN : X.N.Nodup) (hi : X.N[i]? = some x) (hj : X.N[j]? = some y) (hl : X.N[l]? = some z) (hij : i ≠ j) (hil : i ≠ l) (hjl : j ≠ l)
    (hx : X.env.scope.names.lookup x = some .local) (hy : X.env.scope.names.lookup y = some .local) (hz : X.env.scope.names.lookup z = some .local) (ha : DA X g p [a, b, c] ma)
    (hw : swappedStores [.Tuple [.Name x px, .Name y py, .Name z pz] kt pt] (.Tuple [a, b, c] k2 pt2) X.env = pure (some [x, y, z]))
    (hpi : g.pins.contains i = false := by rfl) (hpj : g.pins.contains j = false := by rfl) (hpl : g.pins.contains l = false := by rfl)
    (hs : swapsWithSole [.Tuple [.Name x px, .Name y py, .Name z pz] kt pt] (.Tuple [a, b, c] k2 pt2) pos.line X.env = pure false := by rfl) :
    DS X g (.Assign [.Tuple [.Name x px, .Name y py, .Name z pz] kt pt] (.Tuple [a, b, c] k2 pt2) pos) (sPar3 i j l ma) := ds_par3 hc hN hi hj hl hij hil hjl hx hy hz ha (not_pin hpi) (not_pin hpj) (not_pin hpl) hw hs
end
/-! ### the built-ins' names -/
theorem bt_len : bootBuiltins "len" = some (.builtin "len") := by decide +kernel
theorem bt_abs : bootBuiltins "abs" = some (.builtin "abs") := by decide +kernel
theorem bt_max : bootBuiltins "max" = some (.builtin "max") := by decide +kernel
theorem bt_min : bootBuiltins "min" = some (.builtin "min") := by decide +kernel
theorem bt_sum : bootBuiltins "sum" = some (.builtin "sum") := by decide +kernel
theorem bt_any : bootBuiltins "any" = some (.builtin "any") := by decide +kernel
theorem bt_all : bootBuiltins "all" = some (.builtin "all") := by decide +kernel
theorem bt_sorted : bootBuiltins "sorted" = some (.builtin "sorted") := by decide +kernel
theorem bt_isinstance : bootBuiltins "isinstance" = some (.builtin "isinstance") := by decide +kernel
theorem bt_int : bootBuiltins "int" = some (.type "int") := by decide +kernel
theorem bt_bool : bootBuiltins "bool" = some (.type "bool") := by decide +kernel
theorem bt_str : bootBuiltins "str" = some (.type "str") := by decide +kernel
theorem bt_list : bootBuiltins "list" = some (.type "list") := by decide +kernel
theorem bt_tuple : bootBuiltins "tuple" = some (.type "tuple") := by decide +kernel
theorem bt_dict : bootBuiltins "dict" = some (.type "dict") := by decide +kernel
/-! ### the head's facts -/
def mkD (x : Str) (st : Stmt) : He.DefD := ⟨(x, none), x, x, defArgs st, defBody st, defScope st, [], []⟩
theorem def_at {K : PySem.W.Frag} {h : Heap} {mg : Str → Option Value} {fa : List He.Fa} {fn : List He.DefD} {x : Str} {ps : List Str} {st : Stmt} (KX : K.In h) (G : h.Ns mainGlobals mg) (c : He.SaysD fa fn K) (i : Nat) (hi : fn[i]? = some (mkD x st)) (j : Nat) (hj : fa[j]? = some (.glo x))
    (hb : ∀ (kV doc pm : Value) (an : Option Addr) (cdv ct : Value) (us : List Value), us.length = ps.length → bindArgs (PySem.W.fnOf x x (defArgs st) (defBody st) (defScope st) .none kV doc pm an cdv ct) ⟨us, []⟩ = pure (ps.zip us)) : DefAt K mg x ps st := by
  obtain ⟨fd, F⟩ := c.def_ i hi
  exact ⟨_, fd, F, He.glo_ok KX G (c.fact j hj), FunD.bindsN F hb⟩
theorem law_at {K : PySem.W.Frag} {h : Heap} {mg : Str → Option Value} {fa : List He.Fa} {fn : List He.DefD} {x : Str} {ps : List Str} {st : Stmt} (KX : K.In h) (G : h.Ns mainGlobals mg) (c : He.SaysD fa fn K) (i : Nat) (hi : fn[i]? = some (mkD x st)) (j : Nat) (hj : fa[j]? = some (.glo x))
    (hb : ∀ (kV doc pm : Value) (an : Option Addr) (cdv ct : Value) (us : List Value), us.length = ps.length → bindArgs (PySem.W.fnOf x x (defArgs st) (defBody st) (defScope st) .none kV doc pm an cdv ct) ⟨us, []⟩ = pure (ps.zip us)) :
    ∃ f fd, FunD K x x (defArgs st) (defBody st) (defScope st) [] [] f fd ∧ mg x = some (.ref f) ∧ ∀ (s : Shared) (us : List Value), us.length = ps.length → BindsTo s fd ⟨us, []⟩ (ps.zip us) := by
  obtain ⟨fd, F⟩ := c.def_ i hi
  exact ⟨_, fd, F, He.glo_ok KX G (c.fact j hj), FunD.bindsA F hb⟩
end DL
namespace DL
open PySem PySem.Spec PyProof.Rows L2
theorem fnat_zero {P : Program} {w : World} {K : PySem.W.Frag} {mg : Str → Option Value} {base : Heap} {k : Nat} {x : Str} {ps : List Str} {st : Stmt} (F : DefAt K mg x ps st) : FnAt P w K mg base k x ps ps.length (fun _ => .no) := by
  obtain ⟨f, fd, h1, h2, h3⟩ := F.ex
  exact ⟨f, fd, ⟨fun vs H Q E h => h.1, fun A outer s H args us vs Q E hr e0 hb hv hs => by
    obtain ⟨_, _, _, _, _, _, _, po⟩ := hs
    exact po.elim⟩, h2, h1.kp, h3⟩
end DL
namespace DL
open PySem L2
theorem units65 {k : Nat} {A : Around} (hr : Room k A) : A.units + 65 < cLine := by have := hr.un; omega
end DL
namespace DL
open PySem PySem.Spec PyProof.Rows L2
/-! ### instances -/
theorem StR.insAt {g : Gx} {Z H : Hp} {env : Ve} {σ : L2.St} {fps : Nat → List Addr} (s : StR g Z env σ H fps) {j : Nat} {p : List Str} {c : Str} {fs : List (Str × O)} (hg : getP env j p = some (.ins c fs)) {vj v : V} (hσ : σ[j]? = some (some vj)) (hw : walk H vj p = some v) :
    ∃ a C dx vfs fp, v = .ref a ∧ H a = some (.ins C dx vfs) ∧ g.mg c = some (.ref C) ∧ OwnF g.mg Z H vfs fs fp := by
  unfold getP at hg
  split at hg
  · rename_i t ht
    obtain ⟨v0, h1, ow⟩ := s.slot j _ ht
    rw [hσ] at h1
    cases h1
    obtain ⟨v', fp', h4, h5, _⟩ := ow.get hg
    rw [hw] at h4
    cases h4
    cases h5 with
    | ins h hm r => exact ⟨_, _, _, _, _, rfl, h, hm, r⟩
  · cases hg
theorem walk_app {H : Hp} : ∀ {p q : List Str} {v u : V}, walk H v p = some u → walk H v (p ++ q) = walk H u q
  | [], q, v, u, h => by unfold walk at h; cases h; rfl
  | f :: p, q, v, u, h => by
    cases v with
    | ref a =>
      show (match H a with
        | some (.ins _ _ fs) => (fs.lookup f).bind fun u => walk H u (p ++ q)
        | _ => none) = _
      unfold walk at h
      split at h
      · rename_i C dx fs ha
        try rw [ha]
        show (fs.lookup f).bind (fun u => walk H u (p ++ q)) = walk H u q
        cases e : fs.lookup f with
        | none => rw [e] at h; cases h
        | some w => rw [e] at h; exact walk_app (p := p) h
      · cases h
    | _ => simp [walk] at h
/-- the class c has the field's name nowhere -/
def FldOk (K : PySem.W.Frag) (mg : Str → Option Value) (c f : Str) : Prop := ∀ C, mg c = some (.ref C) → Cls K C ∧ NoAttr K C f
/-- o.f, o of the class c -/
def eFld (c f : Str) (m : EM) : EM := fun env => (m env).bind fun x e => match x with
  | .pl j p => match getP e j p with
    | some (.ins c' fs) => if c' = c then match O.get.getF fs f with
      | some (.dat d) => .ok (.dat d) e
      | some _ => .ok (.pl j (p ++ [f])) e
      | none => .no
      else .no
    | _ => .no
  | _ => .no
section
variable {X : Cx} {g : Gx}
theorem de_fld {c f : Str} {p : Bool} {e : Expr} {m : EM} {pos : Pos} (he : DE X g p e m) (hC : FldOk X.K g.mg c f) (hb : attributeBase e f X.env (eval e X.env) = eval e X.env := by rfl) : DE X g p (.Attribute e f pos) (eFld c f m) := by
  refine PE.imp (pe_fld he hb) fun σ H Q ⟨Z, env, fps, s, h⟩ => ⟨Z, env, fps, s, ?_⟩
  unfold eFld at h
  cases e1 : m env with
  | no => simp [e1] at h
  | ex x e2 => simpa [e1] using h
  | ok x e2 =>
    simp only [e1, Res.bind_ok] at h
    intro v Z1 H1 fps1 s1 z1 k1 r1
    cases x with
    | pl j pp =>
      obtain ⟨vj, hσ, hw⟩ := r1
      simp only at h
      split at h
      case h_2 => exact h.elim
      rename_i c' fs hg
      split at h
      case isFalse => exact h.elim
      rename_i hc
      subst hc
      obtain ⟨a, C, dx, vfs, fp, rfl, ha, hm, ow⟩ := s1.insAt hg hσ hw
      obtain ⟨h1, h2⟩ := hC C hm
      split at h
      · rename_i d hf
        obtain ⟨v', f', q1, q2, _⟩ := ow.get hf
        cases q2 with
        | dat rd => exact ⟨a, C, dx, vfs, v', rfl, ha, h1, h2, q1, h v' Z1 H1 fps1 s1 z1 k1 rd⟩
      · rename_i t hnd hf
        obtain ⟨v', f', q1, q2, _⟩ := ow.get hf
        refine ⟨a, C, dx, vfs, v', rfl, ha, h1, h2, q1, h v' Z1 H1 fps1 s1 z1 k1 ⟨vj, hσ, ?_⟩⟩
        rw [walk_app hw]
        unfold walk
        rw [ha]
        show (vfs.lookup f).bind _ = _
        rw [q1]
        simp [walk]
      · exact h.elim
    | _ => exact h.elim
end
end DL
namespace DL
open PySem PySem.Spec PyProof.Rows L2
/-! ### comprehensions with two fors -/
def compI (own1 : List Nat) (gm1 : GM) (tm1 : TM) (em : EM) : List D → Ve → List D → Option (Ve × List D)
  | [], e, acc => some (e, acc)
  | d :: ds, e, acc => if freeV own1 e = true then match gm1 d (wipeV own1 e) with
      | none => none
      | some e2 => match tm1 e2 with
        | .ok true e3 => match hold true (em e3) with
          | .ok (.dat x) e4 => if acc.length < lim ∧ freeV own1 e4 = true ∧ e4.length = e.length then compI own1 gm1 tm1 em ds (restV own1 e e4) (acc ++ [x]) else none
          | _ => none
        | .ok false e3 => if freeV own1 e3 = true ∧ e3.length = e.length then compI own1 gm1 tm1 em ds (restV own1 e e3) acc else none
        | _ => none
    else none
def compL2 (own own1 : List Nat) (gm : GM) (tm : TM) (im1 : IM) (gm1 : GM) (tm1 : TM) (em : EM) : List D → Ve → List D → Res Ev
  | [], e, acc => .ok (.new (.lst acc)) e
  | d :: ds, e, acc => if freeV own e = true then match gm d (wipeV own e) with
      | none => .no
      | some e2 => match tm e2 with
        | .ok true e3 => match im1 e3 with
          | .ok ds1 e4 => match compI own1 gm1 tm1 em ds1 e4 acc with
            | some (e5, acc') => if freeV own e5 = true ∧ e5.length = e.length then compL2 own own1 gm tm im1 gm1 tm1 em ds (restV own e e5) acc' else .no
            | none => .no
          | _ => .no
        | .ok false e3 => if freeV own e3 = true ∧ e3.length = e.length then compL2 own own1 gm tm im1 gm1 tm1 em ds (restV own e e3) acc else .no
        | _ => .no
    else .no
def eComp2 (own own1 : List Nat) (im : IM) (gm : GM) (tm : TM) (im1 : IM) (gm1 : GM) (tm1 : TM) (em : EM) : EM := fun env => (im env).bind fun ds e1 => compL2 own own1 gm tm im1 gm1 tm1 em ds e1 []
/-- a list that grows beside -/
structure AtD (g : Gx) (D : Addr) (Z : Hp) (e : Ve) (σ : L2.St) (H : Hp) (fps : Nat → List Addr) (vs : List V) (acc : List DL.D) : Prop where
  s : StR g Z e σ H fps
  h : H D = some (.lst vs)
  r : RDs Z vs acc
  z : Z D = none
  f : ∀ k, D ∉ fps k
section
variable {g : Gx} {D : Addr} {Z Z' H H' : Hp} {e e' : Ve} {σ σ' : L2.St} {fps fps' : Nat → List Addr} {vs : List V} {acc : List DL.D}
theorem AtD.fresh (a : AtD g D Z e σ H fps vs acc) (fr : Fresh Z H Z' H') : AtD g D Z' e σ H' fps vs acc where
  s := a.s.fresh fr
  h := fr.h _ _ a.h
  r := a.r.mono fr.z
  z := by
    cases q : Z' D with
    | none => rfl
    | some o =>
      rcases fr.n D o q with k | k
      · rw [a.z] at k; cases k
      · rw [a.h] at k; cases k
  f := a.f
theorem AtD.wipe {own : List Nat} (a : AtD g D Z e σ H fps vs acc) (hf : freeV own e = true) (hp : ∀ i ∈ own, i ∉ g.pins) : AtD g D Z (wipeV own e) (L2.wipe σ own) H fps vs acc := ⟨a.s.wipe hf hp, a.h, a.r, a.z, a.f⟩
theorem AtD.enter (a : AtD g D Z e σ H fps vs acc) : StR (g.blk ⟨Z, H, allF e.length fps, g.n.vs⟩) Z e σ H fps := a.s.enter
theorem AtD.hop (a : AtD g D Z e σ H fps vs acc) (pins : ∀ i ∈ g.pins, ∃ v, g.n.vs[i]? = some v ∧ σ'[i]? = some (some v)) (s' : StR (g.blk ⟨Z, H, allF e.length fps, g.n.vs⟩) Z' e' σ' H' fps') (z : Same Z Z') : AtD g D Z' e' σ' H' fps' vs acc := by
  have hmem : ∀ b ∈ allF e.length fps, ∃ i, b ∈ fps i := fun b m => by
    obtain ⟨k, _, hk⟩ := mem_allF.mp m
    exact ⟨k, hk⟩
  have hDF : D ∉ allF e.length fps := fun m => by
    obtain ⟨k, hk⟩ := hmem _ m
    exact a.f k hk
  refine ⟨a.s.rebase (g' := g.blk _) rfl rfl hmem pins s', s'.e2 D _ a.h hDF, a.r.mono z, ?_, fun k m => ?_⟩
  · cases q : Z' D with
    | none => rfl
    | some o =>
      rcases s'.e3 D o q with k | k | k
      · have k' : Z D = some o := k
        rw [a.z] at k'; cases k'
      · exact (hDF k).elim
      · have k' : H D = none := k
        rw [a.h] at k'; cases k'
  · rcases s'.e4 k D m with q | q
    · exact hDF q
    · have q' : H D = none := q
      rw [a.h] at q'; cases q'
theorem AtD.put {ws : List V} {acc' : List DL.D} (a : AtD g D Z e σ H fps vs acc) (hE : D ∈ g.n.F0 ∨ g.n.H0 D = none) (r : RDs Z ws acc') : AtD g D Z e σ (upd H D (.lst ws)) fps ws acc' :=
  ⟨a.s.beside a.h a.z a.f hE, upd_same, r, a.z, a.f⟩
theorem AtD.rest {own : List Nat} {Z0 H0 : Hp} {e0 : Ve} {σ0 : L2.St} {fps0 : Nat → List Addr} (s0 : StR g Z0 e0 σ0 H0 fps0) (z : Same Z0 Z) (a : AtD g D Z e σ H fps vs acc) (hl : e.length = e0.length) (hf : freeV own e = true) (hσ : ∀ k, k ∉ own → σ[k]? = σ0[k]?) : AtD g D Z (restV own e0 e) σ0 H fps vs acc :=
  ⟨s0.rest z a.s hl hf hσ, a.h, a.r, a.z, a.f⟩
theorem AtD.start (s : StR g Z e σ H fps) (hD : H D = none) : AtD g D Z e σ (upd H D (.lst [])) fps [] [] where
  s := s.fresh (.new s.sub hD)
  h := upd_same
  r := .nil
  z := by
    cases q : Z D with
    | none => rfl
    | some o => rw [s.sub _ _ q] at hD; cases hD
  f := (s.new0 hD).1
end
section
variable {X : Cx} {g : Gx}
theorem wiped_get {ow : List Nat} {σ σ4 : L2.St} {ts : List Nat} (hts : ∀ i ∈ ts, i ∈ ow) (hl : σ4.length = (L2.wipe σ ow).length) (h : ∀ k, k ∉ ts → σ4[k]? = (L2.wipe σ ow)[k]?) : σ4.length = σ.length ∧ (∀ k, k ∉ ow → σ4[k]? = σ[k]?) ∧ L2.wipe σ4 ow = L2.wipe σ ow := by
  have hl' : σ4.length = σ.length := by rw [hl, wipe_length]
  have q : ∀ k, k ∉ ow → σ4[k]? = σ[k]? := fun k hk => by
    rw [h k fun m => hk (hts k m)]
    by_cases hkl : k < σ.length
    · rw [wipe_get ow σ hkl, if_neg hk]
    · rw [List.getElem?_eq_none (by rw [wipe_length]; omega), List.getElem?_eq_none (by omega)]
  exact ⟨hl', q, wipe_eq hl' q⟩
theorem comp2_run {ow ow1 : List Nat} {p pt p1 pt1 pe : Bool} {mi : IM} {gm : GM} {tm : TM} {im1 : IM} {gm1 : GM} {tm1 : TM} {em : EM} {ts ts1 : List Nat} (hpin : ∀ i ∈ ow, i ∉ g.pins) (hts : ∀ i ∈ ts, i ∈ ow) (how : ∀ i ∈ ow1, i ∈ ow) (hts1 : ∀ i ∈ ts1, i ∈ ow1) {σ : L2.St} {H : Hp} {Q : VK}
    (h : tE g false (eComp2 ow ow1 mi gm tm im1 gm1 tm1 em) σ H Q) :
    tLc2 (tR g p (fun Z' _ _ _ J ds => ItOk J Z' ds) mi) (fun v σ H Q => ∃ n, tGm (g.blk n) ts gm v σ H Q) (fun σ H Q => ∃ n, tT (g.blk n) pt tm σ H Q)
      (fun σ H Q => ∃ n, tR (g.blk n) p1 (fun Z' _ _ _ J ds => ItOk J Z' ds) im1 σ H Q) (fun v σ H Q => ∃ n, tGm (g.blk n) ts1 gm1 v σ H Q) (fun σ H Q => ∃ n, tT (g.blk n) pt1 tm1 σ H Q)
      (fun σ H Q => ∃ n, tE (g.blk n) pe em σ H Q) ow ow1 σ H Q := by
  obtain ⟨Z, env, fps, s, h⟩ := h
  refine ⟨Z, env, fps, s, ?_⟩
  unfold eComp2 at h
  cases e : mi env with
  | no => simp [e] at h
  | ex x e1 => simpa [e] using h
  | ok ds e1 =>
    simp only [e, Res.bind_ok] at h
    intro J Z1 H1 fps1 s1 z1 _ it D hD
    let W : Nat → Nat → Hp → Prop := fun i m H2 => m = ds.length - i ∧ i ≤ ds.length ∧ ∃ Z2 e2 fps2 acc vs, AtD g D Z2 e2 σ H2 fps2 vs acc ∧ Same Z1 Z2 ∧
      Post g false (EvR g) Z env σ H fps Q (compL2 ow ow1 gm tm im1 gm1 tm1 em (ds.drop i) e2 acc)
    have hst : D ∈ g.n.F0 ∨ g.n.H0 D = none := (s1.new0 hD).2
    have hpin1 : ∀ i ∈ ow1, i ∉ g.pins := fun i m => hpin i (how i m)
    refine ⟨W, ⟨ds.length, by omega, Nat.zero_le _, Z1, e1, fps1, [], [], .start s1 hD, .refl _, by simpa using h⟩, ?_⟩
    rintro i m H2 ⟨rfl, hi2, Z2, e2, fps2, acc, vs, a2, z2, po⟩
    by_cases hlt : i < ds.length
    case neg =>
      left
      have hi3 : i = ds.length := by omega
      subst hi3
      refine ⟨it.stop Z2 H2 z2 a2.s.sub, ?_⟩
      rw [List.drop_length] at po
      simp only [compL2] at po
      exact po (.ref D) Z2 H2 fps2 a2.s (z1.trans z2) (fun q => by cases q) ⟨[D], .lst a2.h a2.r, by simp, fun a m => by
        have ea : a = D := by simpa using m
        subst ea
        exact ⟨a2.z, a2.f, hst⟩⟩
    right
    have hd : ds[i]? = some ds[i] := List.getElem?_eq_getElem hlt
    obtain ⟨go, yl⟩ := it.go i _ hd Z2 H2 z2 a2.s.sub
    refine ⟨go, fun H' => ∃ m', m' < ds.length - i ∧ W (i + 1) m' H', fun H' x => x, fun x H3 hy => ?_⟩
    obtain ⟨Z3, fr, rx⟩ := yl x H3 hy
    have a3 := a2.fresh fr
    rw [show ds.drop i = ds[i] :: ds.drop (i + 1) from (List.drop_eq_getElem_cons hlt)] at po
    simp only [compL2] at po
    split at po
    case isFalse => exact po.elim
    rename_i hfree
    have a3w := a3.wipe hfree hpin
    refine ⟨_, Z3, wipeV ow e2, fps2, ds[i], a3w.enter, rx, ?_⟩
    split at po
    · exact po.elim
    rename_i e4 hgm
    rw [hgm]
    intro Z4 σ4 H4 fps4 s4 z4 hl4 hσ4
    obtain ⟨hl4', hσ4', hw4⟩ := wiped_get hts hl4 hσ4
    refine ⟨hw4, ?_⟩
    have pins4 : ∀ i ∈ g.pins, ∃ v, g.n.vs[i]? = some v ∧ σ4[i]? = some (some v) := fun i hi => by
      obtain ⟨v, h1, h2⟩ := a3.s.pin i hi
      refine ⟨v, h1, ?_⟩
      rw [hσ4' i fun m => hpin i m hi]
      exact h2
    have a4 := a3w.hop pins4 s4 z4
    -- on to the next turn of the outer loop
    have nextW : ∀ {Z5 H5 : Hp} {e5 : Ve} {fps5 : Nat → List Addr} {acc' : List DL.D} {ws : List V}, AtD g D Z5 e5 σ4 H5 fps5 ws acc' → Same Z3 Z5 → freeV ow e5 = true → e5.length = e2.length →
        Post g false (EvR g) Z env σ H fps Q (compL2 ow ow1 gm tm im1 gm1 tm1 em (ds.drop (i + 1)) (restV ow e2 e5) acc') → ∃ m', m' < ds.length - i ∧ W (i + 1) m' H5 := fun {Z5 H5 e5 fps5 acc' ws} a5 z5 hf5 hl5 po5 =>
      ⟨ds.length - (i + 1), by omega, rfl, hlt, Z5, restV ow e2 e5, fps5, acc', ws, .rest a3.s z5 a5 hl5 hf5 hσ4', (z2.trans fr.z).trans z5, po5⟩
    refine ⟨_, Z4, e4, fps4, a4.enter, ?_⟩
    cases et : tm e4 with
    | no => simp [et] at po
    | ex x e5 => simp [et] at po
    | ok b e5 =>
      rw [et] at po
      intro b' Z5 H5 fps5 s5 z5 _ rb
      subst rb
      have a5 := a4.hop pins4 s5 z5
      cases b' with
      | false =>
        simp only at po
        rw [if_neg Bool.false_ne_true]
        split at po
        · rename_i hf5
          exact nextW a5 (z4.trans z5) hf5.1 hf5.2 po
        · exact po.elim
      | true =>
        simp only at po
        rw [if_pos rfl]
        refine ⟨_, Z5, e5, fps5, a5.enter, ?_⟩
        cases ei : im1 e5 with
        | no => simp [ei] at po
        | ex x e6 => simp [ei] at po
        | ok ds1 e6 =>
          rw [ei] at po
          simp only at po
          intro J1 Z6 H6 fps6 s6 z6 _ it1
          have a6 := a5.hop pins4 s6 z6
          have z36 : Same Z3 Z6 := (z4.trans z5).trans z6
          -- the inner loop
          let W1 : Nat → Nat → Hp → Prop := fun j k H7 => k = ds1.length - j ∧ j ≤ ds1.length ∧ ∃ Z7 e7 fps7 acc7 vs7, AtD g D Z7 e7 σ4 H7 fps7 vs7 acc7 ∧ Same Z6 Z7 ∧
            compI ow1 gm1 tm1 em ds1 e6 acc = compI ow1 gm1 tm1 em (ds1.drop j) e7 acc7
          refine ⟨W1, ⟨ds1.length, by omega, Nat.zero_le _, Z6, e6, fps6, acc, vs, a6, .refl _, by simp⟩, ?_⟩
          rintro j k H7 ⟨rfl, hj2, Z7, e7, fps7, acc7, vs7, a7, z7, ec⟩
          rw [ec] at po
          by_cases hlt1 : j < ds1.length
          case neg =>
            left
            have hj3 : j = ds1.length := by omega
            subst hj3
            refine ⟨it1.stop Z7 H7 z7 a7.s.sub, ?_⟩
            rw [List.drop_length] at po
            simp only [compI] at po
            split at po
            · rename_i hf7
              exact nextW a7 (z36.trans z7) hf7.1 hf7.2 po
            · exact po.elim
          right
          have hd1 : ds1[j]? = some ds1[j] := List.getElem?_eq_getElem hlt1
          obtain ⟨go1, yl1⟩ := it1.go j _ hd1 Z7 H7 z7 a7.s.sub
          refine ⟨go1, fun H' => ∃ k', k' < ds1.length - j ∧ W1 (j + 1) k' H', fun H' x => x, fun x1 H8 hy1 => ?_⟩
          obtain ⟨Z8, fr1, rx1⟩ := yl1 x1 H8 hy1
          have a8 := a7.fresh fr1
          rw [show ds1.drop j = ds1[j] :: ds1.drop (j + 1) from (List.drop_eq_getElem_cons hlt1)] at po ec
          simp only [compI] at po ec
          by_cases hfree1 : freeV ow1 e7 = true
          case neg => rw [if_neg hfree1] at po; simp at po
          rw [if_pos hfree1] at ec po
          have a8w := a8.wipe hfree1 hpin1
          refine ⟨_, Z8, wipeV ow1 e7, fps7, ds1[j], a8w.enter, rx1, ?_⟩
          cases hgm1 : gm1 ds1[j] (wipeV ow1 e7) with
          | none => rw [hgm1] at po; simp at po
          | some e9 =>
          rw [hgm1] at po ec
          simp only at po ec
          intro Z9 σ9 H9 fps9 s9 z9 hl9 hσ9
          obtain ⟨hl9', hσ9', hw9⟩ := wiped_get hts1 hl9 hσ9
          refine ⟨hw9, ?_⟩
          have pins9 : ∀ i ∈ g.pins, ∃ v, g.n.vs[i]? = some v ∧ σ9[i]? = some (some v) := fun i hi => by
            obtain ⟨v, h1, h2⟩ := a8.s.pin i hi
            refine ⟨v, h1, ?_⟩
            rw [hσ9' i fun m => hpin1 i m hi]
            exact h2
          have a9 := a8w.hop pins9 s9 z9
          have nextW1 : ∀ {Z5 H5 : Hp} {e5 : Ve} {fps5 : Nat → List Addr} {acc' : List DL.D} {ws : List V}, AtD g D Z5 e5 σ9 H5 fps5 ws acc' → Same Z8 Z5 → freeV ow1 e5 = true → e5.length = e7.length →
              compI ow1 gm1 tm1 em ds1 e6 acc = compI ow1 gm1 tm1 em (ds1.drop (j + 1)) (restV ow1 e7 e5) acc' → ∃ m', m' < ds1.length - j ∧ W1 (j + 1) m' H5 := fun {Z5 H5 e5 fps5 acc' ws} a5 z5 hf5 hl5 po5 =>
            ⟨ds1.length - (j + 1), by omega, rfl, hlt1, Z5, restV ow1 e7 e5, fps5, acc', ws, .rest a8.s z5 a5 hl5 hf5 hσ9', (z7.trans fr1.z).trans z5, po5⟩
          refine ⟨_, Z9, e9, fps9, a9.enter, ?_⟩
          cases et1 : tm1 e9 with
          | no => rw [et1] at po; simp at po
          | ex x e10 => rw [et1] at po; simp at po
          | ok b e10 =>
            rw [et1] at po ec
            intro b' Z10 H10 fps10 s10 z10 _ rb
            subst rb
            have a10 := a9.hop pins9 s10 z10
            cases b' with
            | false =>
              simp only at po ec
              rw [if_neg Bool.false_ne_true]
              by_cases hf5 : freeV ow1 e10 = true ∧ e10.length = e7.length
              · rw [if_pos hf5] at ec
                exact nextW1 a10 (z9.trans z10) hf5.1 hf5.2 ec
              · rw [if_neg hf5] at po; simp at po
            | true =>
              simp only at po ec
              rw [if_pos rfl]
              refine ⟨_, hold_run (q := true) a10.enter (fun x e11 he11 y Z11 H11 fps11 s11 z11 k11 r11 => ?_) (fun x e11 he11 => ?_) (fun he11 => ?_)⟩
              · rw [he11] at po ec
                cases x with
                | dat d' =>
                  simp only at po ec
                  by_cases hf11 : acc7.length < lim ∧ freeV ow1 e11 = true ∧ e11.length = e7.length
                  · rw [if_pos hf11] at ec
                    have a11 := a10.hop pins9 s11 z11
                    refine ⟨vs7, a11.h, ?_, nextW1 (a11.put hst (a11.r.append (.cons r11 .nil))) ((z9.trans z10).trans z11) hf11.2.1 hf11.2.2 ec⟩
                    rw [a11.r.length]
                    exact Nat.lt_of_lt_of_le hf11.1 (by rw [sizeLine_eq]; exact Nat.le_refl _)
                  · rw [if_neg hf11] at po; simp at po
                | _ => simp at po
              · rw [he11] at po; simp at po
              · rw [he11] at po; simp at po
end
end DL
namespace DL
open PySem PySem.Spec PyProof.Rows L2
section
variable {X : Cx} {g : Gx}
theorem dx_comp2 {own : List (Str × Nat)} {vs1 : List Nat} {p pt p1 pt1 pe : Bool} {tg iter tg1 iter1 elt : Expr} {ifs ifs1 : List Expr} {scope : Scope} {pos : Pos} {mi : IM} {gm : GM} {tm : TM} {im1 : IM} {gm1 : GM} {tm1 : TM} {em : EM} {ts ts1 : List Nat}
    (hc : X.calm = true) (hN : X.N.Nodup) (hi : DI X g p tg iter mi) (ok : BlkOk X.N X.env.scope scope own)
    (hg : ∀ (n : En) (s : Shared) (H : Hp) (C : Addr) (cl : List (Str × Addr)) (fp : List Addr), DG (X.blk s H scope (compEnvC scope cl C X.env) fp) (g.blk n) ts tg gm)
    (ht : ∀ (n : En) (s : Shared) (H : Hp) (C : Addr) (cl : List (Str × Addr)) (fp : List Addr), DTs (X.blk s H scope (compEnvC scope cl C X.env) fp) (g.blk n) pt ifs tm)
    (hi1 : ∀ (n : En) (s : Shared) (H : Hp) (C : Addr) (cl : List (Str × Addr)) (fp : List Addr), DI (X.blk s H scope (compEnvC scope cl C X.env) fp) (g.blk n) p1 tg1 iter1 im1)
    (hg1 : ∀ (n : En) (s : Shared) (H : Hp) (C : Addr) (cl : List (Str × Addr)) (fp : List Addr), DG (X.blk s H scope (compEnvC scope cl C X.env) fp) (g.blk n) ts1 tg1 gm1)
    (ht1 : ∀ (n : En) (s : Shared) (H : Hp) (C : Addr) (cl : List (Str × Addr)) (fp : List Addr), DTs (X.blk s H scope (compEnvC scope cl C X.env) fp) (g.blk n) pt1 ifs1 tm1)
    (he : ∀ (n : En) (s : Shared) (H : Hp) (C : Addr) (cl : List (Str × Addr)) (fp : List Addr), DE (X.blk s H scope (compEnvC scope cl C X.env) fp) (g.blk n) pe elt em)
    (hpin : (own.map (·.2)).all (fun i => !g.pins.contains i) = true := by rfl) (hts : ts.all (fun i => (own.map (·.2)).contains i) = true := by rfl) (hv : vs1.all (fun i => (own.map (·.2)).contains i) = true := by rfl) (hts1 : ts1.all (fun i => vs1.contains i) = true := by rfl)
    (hs : ∀ x, foldedSetIterable iter X.env x = pure x := by intro _; rfl) (hs1 : ∀ env x, foldedSetIterable iter1 env x = pure x := by intro _ _; rfl) :
    DE X g false (.ListComp elt [⟨tg, iter, ifs, 0⟩, ⟨tg1, iter1, ifs1, 0⟩] scope pos) (eComp2 (own.map (·.2)) vs1 mi gm tm im1 gm1 tm1 em) := by
  refine PE.imp (pe_lc2 (own := own) (vs1 := vs1) (g := fun v σ H Q => ∃ n, tGm (g.blk n) ts gm v σ H Q) (tt := fun σ H Q => ∃ n, tT (g.blk n) pt tm σ H Q) (wi1 := fun σ H Q => ∃ n, tR (g.blk n) p1 (fun Z' _ _ _ J ds => ItOk J Z' ds) im1 σ H Q)
    (g1 := fun v σ H Q => ∃ n, tGm (g.blk n) ts1 gm1 v σ H Q) (tt1 := fun σ H Q => ∃ n, tT (g.blk n) pt1 tm1 σ H Q) (te := fun σ H Q => ∃ n, tE (g.blk n) pe em σ H Q) hc hN hi ok (all_sub hv)
    (fun s H C cl fp => ⟨fun pins s' σ H' v u Q I r ⟨n, q⟩ => (hg n s H C cl fp).run pins s' σ H' v u Q I r q⟩)
    (fun s H C cl fp => ⟨fun pins s' σ H' Q I ⟨n, q⟩ => (ht n s H C cl fp).run pins s' σ H' Q I q⟩)
    (fun s H C cl fp => ⟨fun pins s' σ H' Q I ⟨n, q⟩ => (hi1 n s H C cl fp).run pins s' σ H' Q I q⟩)
    (fun s H C cl fp => ⟨fun pins s' σ H' v u Q I r ⟨n, q⟩ => (hg1 n s H C cl fp).run pins s' σ H' v u Q I r q⟩)
    (fun s H C cl fp => ⟨fun pins s' σ H' Q I ⟨n, q⟩ => (ht1 n s H C cl fp).run pins s' σ H' Q I q⟩)
    (fun s H C cl fp => ⟨fun pins s' σ H' Q I ⟨n, q⟩ => (he n s H C cl fp).run pins s' σ H' Q I q⟩) hs hs1) fun σ H Q h => comp2_run (all_pin hpin) (all_sub hts) (all_sub hv) (all_sub hts1) h
theorem ax_comp2 {i : Nat} {y : Str} {py : Pos} {own : List (Str × Nat)} {vs1 : List Nat} {p pt p1 pt1 pe : Bool} {tg iter tg1 iter1 elt : Expr} {ifs ifs1 : List Expr} {scope : Scope} {pos spos : Pos} {mi : IM} {gm : GM} {tm : TM} {im1 : IM} {gm1 : GM} {tm1 : TM} {em : EM} {ts ts1 : List Nat}
    (hc : X.calm = true) (hN : X.N.Nodup) (hy : X.N[i]? = some y) (hyl : X.env.scope.names.lookup y = some .local)
    (hsw : swapsWith (.ListComp elt [⟨tg, iter, ifs, 0⟩, ⟨tg1, iter1, ifs1, 0⟩] scope pos) (some (.Name y py)) spos.line X.env = pure true) (hi : DI X g p tg iter mi) (ok : BlkOk X.N X.env.scope scope own)
    (hg : ∀ (n : En) (s : Shared) (H : Hp) (C : Addr) (cl : List (Str × Addr)) (fp : List Addr), DG (X.blk s H scope (compEnvC scope cl C X.env) fp) (g.blk n) ts tg gm)
    (ht : ∀ (n : En) (s : Shared) (H : Hp) (C : Addr) (cl : List (Str × Addr)) (fp : List Addr), DTs (X.blk s H scope (compEnvC scope cl C X.env) fp) (g.blk n) pt ifs tm)
    (hi1 : ∀ (n : En) (s : Shared) (H : Hp) (C : Addr) (cl : List (Str × Addr)) (fp : List Addr), DI (X.blk s H scope (compEnvC scope cl C X.env) fp) (g.blk n) p1 tg1 iter1 im1)
    (hg1 : ∀ (n : En) (s : Shared) (H : Hp) (C : Addr) (cl : List (Str × Addr)) (fp : List Addr), DG (X.blk s H scope (compEnvC scope cl C X.env) fp) (g.blk n) ts1 tg1 gm1)
    (ht1 : ∀ (n : En) (s : Shared) (H : Hp) (C : Addr) (cl : List (Str × Addr)) (fp : List Addr), DTs (X.blk s H scope (compEnvC scope cl C X.env) fp) (g.blk n) pt1 ifs1 tm1)
    (he : ∀ (n : En) (s : Shared) (H : Hp) (C : Addr) (cl : List (Str × Addr)) (fp : List Addr), DE (X.blk s H scope (compEnvC scope cl C X.env) fp) (g.blk n) pe elt em)
    (hpin : (own.map (·.2)).all (fun i => !g.pins.contains i) = true := by rfl) (hts : ts.all (fun i => (own.map (·.2)).contains i) = true := by rfl) (hv : vs1.all (fun i => (own.map (·.2)).contains i) = true := by rfl) (hts1 : ts1.all (fun i => vs1.contains i) = true := by rfl)
    (hs : ∀ x, foldedSetIterable iter X.env x = pure x := by intro _; rfl) (hs1 : ∀ env x, foldedSetIterable iter1 env x = pure x := by intro _ _; rfl) :
    AsgOk X g false i (.Assign [.Name y py] (.ListComp elt [⟨tg, iter, ifs, 0⟩, ⟨tg1, iter1, ifs1, 0⟩] scope pos) spos) (eComp2 (own.map (·.2)) vs1 mi gm tm im1 gm1 tm1 em) := by
  refine PS.imp (ps_setLc2 (own := own) (vs1 := vs1) (g := fun v σ H Q => ∃ n, tGm (g.blk n) ts gm v σ H Q) (tt := fun σ H Q => ∃ n, tT (g.blk n) pt tm σ H Q) (wi1 := fun σ H Q => ∃ n, tR (g.blk n) p1 (fun Z' _ _ _ J ds => ItOk J Z' ds) im1 σ H Q)
    (g1 := fun v σ H Q => ∃ n, tGm (g.blk n) ts1 gm1 v σ H Q) (tt1 := fun σ H Q => ∃ n, tT (g.blk n) pt1 tm1 σ H Q) (te := fun σ H Q => ∃ n, tE (g.blk n) pe em σ H Q) hc hN hy hyl hsw hi ok (all_sub hv)
    (fun s H C cl fp => ⟨fun pins s' σ H' v u Q I r ⟨n, q⟩ => (hg n s H C cl fp).run pins s' σ H' v u Q I r q⟩)
    (fun s H C cl fp => ⟨fun pins s' σ H' Q I ⟨n, q⟩ => (ht n s H C cl fp).run pins s' σ H' Q I q⟩)
    (fun s H C cl fp => ⟨fun pins s' σ H' Q I ⟨n, q⟩ => (hi1 n s H C cl fp).run pins s' σ H' Q I q⟩)
    (fun s H C cl fp => ⟨fun pins s' σ H' v u Q I r ⟨n, q⟩ => (hg1 n s H C cl fp).run pins s' σ H' v u Q I r q⟩)
    (fun s H C cl fp => ⟨fun pins s' σ H' Q I ⟨n, q⟩ => (ht1 n s H C cl fp).run pins s' σ H' Q I q⟩)
    (fun s H C cl fp => ⟨fun pins s' σ H' Q I ⟨n, q⟩ => (he n s H C cl fp).run pins s' σ H' Q I q⟩) hs hs1) fun D σ H h => comp2_run (all_pin hpin) (all_sub hts) (all_sub hv) (all_sub hts1) h
/-! ### sorted, insert -/
def insI (x : Int) : List Int → List Int
  | [] => [x]
  | y :: ys => if x ≤ y then x :: y :: ys else y :: insI x ys
def srtI : List Int → List Int
  | [] => []
  | x :: xs => insI x (srtI xs)
theorem insI_perm (x : Int) : ∀ xs : List Int, (insI x xs).Perm (x :: xs)
  | [] => .refl _
  | y :: ys => by
    unfold insI
    split
    · exact .refl _
    · exact ((insI_perm x ys).cons y).trans (.swap _ _ _)
theorem srtI_perm : ∀ xs : List Int, (srtI xs).Perm xs
  | [] => .refl _
  | x :: xs => (insI_perm x _).trans ((srtI_perm xs).cons x)
theorem insI_sorted (x : Int) : ∀ xs : List Int, xs.Pairwise (· ≤ ·) → (insI x xs).Pairwise (· ≤ ·)
  | [], _ => by simp [insI]
  | y :: ys, h => by
    unfold insI
    have h' := List.pairwise_cons.mp h
    split
    · rename_i c
      refine List.pairwise_cons.mpr ⟨fun z m => ?_, h⟩
      rcases List.mem_cons.mp m with e | m
      · omega
      · have := h'.1 z m; omega
    · rename_i c
      refine List.pairwise_cons.mpr ⟨fun z m => ?_, insI_sorted x ys h'.2⟩
      have m2 := (insI_perm x ys).mem_iff.mp m
      rcases List.mem_cons.mp m2 with e | m2
      · omega
      · exact h'.1 z m2
theorem srtI_sorted : ∀ xs : List Int, (srtI xs).Pairwise (· ≤ ·)
  | [] => .nil
  | x :: xs => insI_sorted x _ (srtI_sorted xs)
theorem sorted_unique : ∀ {xs ys : List Int}, xs.Perm ys → xs.Pairwise (· ≤ ·) → ys.Pairwise (· ≤ ·) → xs = ys
  | [], ys, p, _, _ => (List.nil_perm.mp p).symm
  | x :: xs, [], p, _, _ => by have := p.length_eq; simp at this
  | x :: xs, y :: ys, p, hx, hy => by
    have hx' := List.pairwise_cons.mp hx
    have hy' := List.pairwise_cons.mp hy
    have e : x = y := by
      have m1 : x ∈ y :: ys := p.mem_iff.mp (by simp)
      have m2 : y ∈ x :: xs := p.mem_iff.mpr (by simp)
      rcases List.mem_cons.mp m1 with e | m1
      · exact e
      · rcases List.mem_cons.mp m2 with e | m2
        · exact e.symm
        · have := hx'.1 y m2; have := hy'.1 x m1; omega
    subst e
    rw [sorted_unique (List.Perm.cons_inv p) hx'.2 hy'.2]
def sortedD : List D → Option Ev
  | [.lst xs] => (intsOf xs).map fun ns => .new (.lst ((srtI ns).map D.int))
  | _ => none
theorem ok_sorted : CallOk X (.builtin "sorted") sortedD := by
  refine ⟨_, cr_sortedI, fun mg Z H vs ds ev Q s r h q => ?_⟩
  unfold sortedD at h
  split at h
  · simp only [Option.map_eq_some_iff] at h
    obtain ⟨ns, h1, h2⟩ := h
    subst h2
    obtain ⟨v, rfl, rv⟩ := r.one
    obtain ⟨a, vs, rfl, h3, r3⟩ := rv.lst s
    have e := r3.toInts h1
    subst e
    refine ⟨a, ns, rfl, .of h3, fun ns' p pe so hp => ?_⟩
    have e : ns' = srtI ns := sorted_unique (pe.trans (srtI_perm ns).symm) so (srtI_sorted ns)
    subst e
    exact q _ _ _ (.new s hp) (.lst s hp (RDs.ints _))
  · cases h
section
local instance (priority := 5000) (i b : Int) : Decidable (i < b) := dLtI i b
local instance (priority := 5000) (i b : Int) : Decidable (i ≤ b) := dLeI i b
def insertD : List D → List D → Option (D × List D)
  | xs, [.int i, d] => if xs.length < lim ∧ 0 ≤ i ∧ i < 2 ^ 63 then some (.non, xs.take i.toNat ++ [d] ++ xs.drop i.toNat) else none
  | _, _ => none
end
theorem ok_insert : MethOk X "list.insert" insertD := by
  refine ⟨_, mt_insert, fun Z H a vs xs us ds d ys Q s hH rv ru h q => ?_⟩
  unfold insertD at h
  split at h
  · split at h
    · rename_i i d' hl
      cases h
      cases ru with
      | cons r1 r2 =>
      cases r1
      obtain ⟨v, rfl, rv2⟩ := r2.one
      exact ⟨a, vs, i, v, rfl, rfl, hH, lt_lim (by rw [rv.length]; exact hl.1), hl.2.1, hl.2.2, q _ _ .non (((rv.take _).append (.cons rv2 .nil)).append (rv.drop _))⟩
    · cases h
  · cases h
end
end DL
namespace DL
open PySem PySem.Spec PyProof.Rows L2
/-- turns of a while, more than any here -/
@[irreducible] def fuel : Nat := 1000000
theorem fuel_eq : fuel = 1000000 := by unfold fuel; rfl
section
variable {X : Cx} {g : Gx}
/-- x = a new thing, to be changed, or data -/
def sOwn2 (i : Nat) (m : EM) : SM := fun env => Out.ofRes (m env) fun v e => match v with
  | .new t => if i < e.length then .nx (setS i (.own t) e) else .no
  | .dat d => if i < e.length then .nx (setS i (.dat d) e) else .no
  | _ => .no
theorem ds_own2 {i : Nat} {p : Bool} {st : Stmt} {m : EM} (h : AsgOk X g p i st m) (hp : i ∉ g.pins) : DS X g st (sOwn2 i m) := by
  refine PS.imp h fun D σ H ⟨Z, env, fps, s, h⟩ => ⟨Z, env, fps, s, ?_⟩
  unfold sOwn2 at h
  cases e : m env with
  | no => simp only [e, ofRes_no] at h; exact h
  | ex x e1 => simp only [e, ofRes_ex] at h; exact fun cls d Z' H' fps' => h cls d Z' σ H' fps'
  | ok a e1 =>
    simp only [e, ofRes_ok] at h
    intro v Z' H' fps' s' z' _ r
    cases a with
    | new t =>
      simp only at h
      split at h
      · rename_i hl
        obtain ⟨fp, ow, nd, hf⟩ := r
        exact h Z' _ H' _ (s'.store hl hp (.inr ⟨t, rfl, ow⟩) nd (fun a m => ⟨(hf a m).1, fun j _ => (hf a m).2.1 j, (hf a m).2.2⟩)) z'
      · exact h.elim
    | dat d =>
      simp only at h
      split at h
      · rename_i hl
        exact h Z' _ H' _ (s'.store hl hp (.inl ⟨d, rfl, rfl, r⟩) (by simp) (fun a m => by simp at m)) z'
      · exact h.elim
    | _ => exact h.elim
theorem dx_own2 {i : Nat} {p : Bool} {st : Stmt} {m : EM} (h : AsgOk X g p i st m) (hp : g.pins.contains i = false := by rfl) : DS X g st (sOwn2 i m) := ds_own2 h (not_pin hp)
/-- a value's truth, as a test -/
def truD : D → Option Bool
  | .non => some false
  | .bl b => some b
  | .int i => some (i != 0)
  | .str y => if y.length ≤ lim then some ((y.length : Int) != 0) else none
  | .lst xs => some (!xs.isEmpty)
  | .tup xs => some (!xs.isEmpty)
  | .scr _ => none
def tvT (m : EM) : TM := fun env => match hold true (m env) with
  | .ok x e => match (peek e x).bind truD with
    | some b => .ok b e
    | none => .no
  | .ex x e => .ex x e
  | .no => .no
theorem RDs.emp {Z : Hp} {vs : List V} {ds : List D} (h : RDs Z vs ds) : vs.isEmpty = ds.isEmpty := by cases h <;> rfl
theorem tru_run {p : Bool} {m : EM} {σ : L2.St} {H : Hp} {Q : Bool → Hp → Prop} (h : tT g p (tvT m) σ H Q) : tE g p m σ H fun x H' => ∃ k, TruV X.K x H' k ∧ Q k H' := by
  obtain ⟨Z, env, fps, s, h⟩ := h
  unfold tvT at h
  refine hold_run (q := true) s (fun x e1 he v Z1 H1 fps1 s1 z1 k1 r1 => ?_) (fun x e1 he => ?_) (fun he => ?_)
  · rw [he] at h
    simp only at h
    cases hp : peek e1 x with
    | none => rw [hp] at h; exact h.elim
    | some d =>
      rw [hp] at h
      cases ht : truD d with
      | none => simp [ht] at h
      | some b =>
        simp only [Option.bind_some, ht] at h
        refine ⟨b, ?_, h b Z1 H1 fps1 s1 z1 k1 rfl⟩
        have rn := peek_ok s1 r1 hp
        cases d with
        | non => cases ht; rw [rn.non]; exact rfl
        | bl b => cases ht; rw [rn.bl]; exact rfl
        | int i => cases ht; rw [rn.int]; exact rfl
        | str y =>
          simp only [truD] at ht
          split at ht
          · rename_i hl
            cases ht; rw [rn.str]; exact ⟨lim_eq hl, rfl⟩
          · cases ht
        | lst xs =>
          cases ht
          obtain ⟨a, vs, rfl, h1, r⟩ := rn.lst s1.sub
          exact .inl ⟨vs, .of h1, by rw [r.emp]⟩
        | tup xs =>
          cases ht
          obtain ⟨a, vs, rfl, h1, r⟩ := rn.tup s1.sub
          exact .inr (.inl ⟨vs, .of h1, by rw [r.emp]⟩)
        | scr ns => cases ht
  · rw [he] at h; exact h
  · rw [he] at h; exact h
theorem dt_tru {e : Expr} {p : Bool} {m : EM} (h : DE X g p e m) (he : ∀ whole, isTrue e X.env whole = (do let v ← whole; standAt e.pos; holding [v] (truthy v)) := by intro _; rfl) : DT X g p e (tvT m) :=
  PT.imp (pt_truth h he) fun σ H Q h => tru_run h
end
end DL
namespace DL
open PySem PySem.Spec PyProof.Rows L2
/-! ### walks over an owned list, by its name -/
def compN (own : List Nat) (j : Nat) (gm : GM) (tm : TM) (em : EM) : Nat → Nat → Ve → List D → Res Ev
  | 0, _, _, _ => .no
  | k + 1, i, e, acc => match e[j]? with
    | some (.own (.lst xs)) => match xs[i]? with
      | none => .ok (.new (.lst acc)) e
      | some d => if freeV own e = true then match gm d (wipeV own e) with
        | none => .no
        | some e2 => match tm e2 with
          | .ok true e3 => match hold true (em e3) with
            | .ok (.dat x) e4 => if acc.length < lim ∧ freeV own e4 = true ∧ e4.length = e.length then compN own j gm tm em k (i + 1) (restV own e e4) (acc ++ [x]) else .no
            | _ => .no
          | .ok false e3 => if freeV own e3 = true ∧ e3.length = e.length then compN own j gm tm em k (i + 1) (restV own e e3) acc else .no
          | _ => .no
        else .no
    | _ => .no
def eCompN (own : List Nat) (j : Nat) (gm : GM) (tm : TM) (em : EM) : EM := fun env => match env[j]? with
  | some (.own (.lst xs)) => compN own j gm tm em (xs.length + 1) 0 env []
  | some (.dat _) => eComp own (iSeq (eName j)) gm tm em env
  | _ => .no
section
variable {X : Cx} {g : Gx}
theorem StR.ownAt {Z : Hp} {e : Ve} {σ : L2.St} {H : Hp} {fps : Nat → List Addr} {j : Nat} {xs : List D} (s : StR g Z e σ H fps) (h : e[j]? = some (.own (.lst xs))) : ∃ a vs, σ[j]? = some (some (.ref a)) ∧ H a = some (.lst vs) ∧ RDs Z vs xs := by
  obtain ⟨v, h1, ow⟩ := s.slot j _ h
  generalize fps j = fp at ow
  cases ow with
  | lst h2 r => exact ⟨_, _, h1, h2, r⟩
theorem compN_run {ow : List Nat} {j : Nat} {pt pe : Bool} {gm : GM} {tm : TM} {em : EM} {ts : List Nat} {Z H : Hp} {env : Ve} {σ : L2.St} {fps : Nat → List Addr} {xs : List D} {Q : VK} (hpin : ∀ i ∈ ow, i ∉ g.pins) (hts : ∀ i ∈ ts, i ∈ ow) (s1 : StR g Z env σ H fps) (hj : env[j]? = some (.own (.lst xs)))
    (h : Post g false (EvR g) Z env σ H fps Q (compN ow j gm tm em (xs.length + 1) 0 env [])) {a : Addr} (ha : σ[j]? = some (some (.ref a))) :
    ∀ D, H D = none → ∃ W : Nat → Nat → Hp → Prop, (∃ m, W 0 m (upd H D (.lst []))) ∧ ∀ i m H, W i m H →
      ((Itl X.K a).stop i H ∧ Q (.ref D) H) ∨ ((Itl X.K a).go i H ∧ ∃ Nx : Hp → Prop, (∀ H', Nx H' → ∃ m', m' < m ∧ W (i + 1) m' H') ∧ ∀ x H', (Itl X.K a).yld i H x H' → (∃ n, tGm (g.blk n) ts gm x (wipe σ ow) H' fun σ2 H2 => wipe σ2 ow = wipe σ ow ∧ ∃ n, tT (g.blk n) pt tm σ2 H2 fun b H3 =>
        if b = true then ∃ n, tE (g.blk n) pe em σ2 H3 fun y H4 => ∃ acc, H4 D = some (.lst acc) ∧ acc.length < sizeLine ∧ Nx (upd H4 D (.lst (acc ++ [y]))) else Nx H3)) := by
  intro D hD
  let W : Nat → Nat → Hp → Prop := fun i m H2 => ∃ Z2 e2 fps2 acc vs, AtD g D Z2 e2 σ H2 fps2 vs acc ∧ Same Z Z2 ∧
    Post g false (EvR g) Z env σ H fps Q (compN ow j gm tm em m i e2 acc)
  have hst : D ∈ g.n.F0 ∨ g.n.H0 D = none := (s1.new0 hD).2
  refine ⟨W, ⟨xs.length + 1, Z, env, fps, [], [], .start s1 hD, .refl _, h⟩, ?_⟩
  rintro i m H2 ⟨Z2, e2, fps2, acc, vs, a2, z2, po⟩
  cases m with
  | zero => simp [compN] at po
  | succ m =>
  simp only [compN] at po
  split at po
  case h_2 => exact po.elim
  rename_i ys hys
  obtain ⟨a', ws, k1, k2, k3⟩ := a2.s.ownAt hys
  have k1' := k1
  rw [ha] at k1'
  cases k1'
  cases hd : ys[i]? with
  | none =>
    rw [hd] at po
    simp only at po
    left
    refine ⟨⟨ws, .of k2, ?_⟩, ?_⟩
    · have := List.getElem?_eq_none_iff.mp hd
      rw [k3.length]; exact this
    exact po (.ref D) Z2 H2 fps2 a2.s z2 (fun q => by cases q) ⟨[D], .lst a2.h a2.r, by simp, fun b m => by
      have ea : b = D := by simpa using m
      subst ea
      exact ⟨a2.z, a2.f, hst⟩⟩
  | some d =>
  rw [hd] at po
  simp only at po
  right
  obtain ⟨v, hv, rv⟩ := k3.getd hd
  refine ⟨⟨ws, v, .of k2, hv⟩, fun H' => ∃ m', m' < m + 1 ∧ W (i + 1) m' H', fun H' x => x, fun x H3 hy => ?_⟩
  obtain ⟨e1, y⟩ := hy
  subst e1
  have := y ws (.of k2)
  rw [hv] at this
  cases this
  split at po
  case isFalse => exact po.elim
  rename_i hfree
  have a3w := a2.wipe hfree hpin
  refine ⟨_, Z2, wipeV ow e2, fps2, d, a3w.enter, rv, ?_⟩
  split at po
  · exact po.elim
  rename_i e4 hgm
  rw [hgm]
  intro Z4 σ4 H4 fps4 s4 z4 hl4 hσ4
  obtain ⟨hl4', hσ4', hw4⟩ := wiped_get hts hl4 hσ4
  refine ⟨hw4, ?_⟩
  have pins4 : ∀ i ∈ g.pins, ∃ v, g.n.vs[i]? = some v ∧ σ4[i]? = some (some v) := fun i hi => by
    obtain ⟨v, h1, h2⟩ := a2.s.pin i hi
    refine ⟨v, h1, ?_⟩
    rw [hσ4' i fun m => hpin i m hi]
    exact h2
  have a4 := a3w.hop pins4 s4 z4
  have nextW : ∀ {Z5 H5 : Hp} {e5 : Ve} {fps5 : Nat → List Addr} {acc' : List DL.D} {ws : List V}, AtD g D Z5 e5 σ4 H5 fps5 ws acc' → Same Z2 Z5 → freeV ow e5 = true → e5.length = e2.length →
      Post g false (EvR g) Z env σ H fps Q (compN ow j gm tm em m (i + 1) (restV ow e2 e5) acc') → ∃ m', m' < m + 1 ∧ W (i + 1) m' H5 := fun {Z5 H5 e5 fps5 acc' ws} a5 z5 hf5 hl5 po5 =>
    ⟨m, by omega, Z5, restV ow e2 e5, fps5, acc', ws, .rest a2.s z5 a5 hl5 hf5 hσ4', z2.trans z5, po5⟩
  refine ⟨_, Z4, e4, fps4, a4.enter, ?_⟩
  cases et : tm e4 with
  | no => simp [et] at po
  | ex x e5 => simp [et] at po
  | ok b e5 =>
    rw [et] at po
    intro b' Z5 H5 fps5 s5 z5 _ rb
    subst rb
    have a5 := a4.hop pins4 s5 z5
    cases b' with
    | false =>
      simp only at po
      rw [if_neg Bool.false_ne_true]
      split at po
      · rename_i hf5
        exact nextW a5 (z4.trans z5) hf5.1 hf5.2 po
      · exact po.elim
    | true =>
      simp only at po
      rw [if_pos rfl]
      refine ⟨_, hold_run (q := true) a5.enter (fun x e11 he11 y Z11 H11 fps11 s11 z11 k11 r11 => ?_) (fun x e11 he11 => ?_) (fun he11 => ?_)⟩
      · rw [he11] at po
        cases x with
        | dat d' =>
          simp only at po
          split at po
          · rename_i hf11
            have a11 := a5.hop pins4 s11 z11
            refine ⟨vs, a11.h, ?_, nextW (a11.put hst (a11.r.append (.cons r11 .nil))) ((z4.trans z5).trans z11) hf11.2.1 hf11.2.2 po⟩
            rw [a11.r.length]
            exact Nat.lt_of_lt_of_le hf11.1 (by rw [sizeLine_eq]; exact Nat.le_refl _)
          · exact po.elim
        | _ => exact po.elim
      · rw [he11] at po; exact po.elim
      · rw [he11] at po; exact po.elim
theorem compNe_run {ow : List Nat} {j : Nat} {p pt pe : Bool} {gm : GM} {tm : TM} {em : EM} {ts : List Nat} {x : Str} {pos : Pos} {tg : Expr} (hpin : ∀ i ∈ ow, i ∉ g.pins) (hts : ∀ i ∈ ts, i ∈ ow) {σ : L2.St} {H : Hp} {Q : VK}
    (h : tE g false (eCompN ow j gm tm em) σ H Q) :
    tLc (fun σ H Q => tR g true (fun Z' _ _ _ J ds => ItOk J Z' ds) (iSeq (eName j)) σ H Q ∨ (fun σ H Q => (tE g true (eName j)) σ H fun x H1 => ∃ a, x = V.ref a ∧ (∃ xs, SqL X.K H1 a xs) ∧ Q (Itl X.K a) H1) σ H Q) (fun v σ H Q => ∃ n, tGm (g.blk n) ts gm v σ H Q) (fun σ H Q => ∃ n, tT (g.blk n) pt tm σ H Q) (fun σ H Q => ∃ n, tE (g.blk n) pe em σ H Q) ow σ H Q := by
  obtain ⟨Z, env, fps, s, h⟩ := h
  unfold eCompN at h
  split at h
  · rename_i xs hxs
    refine .inr ?_
    obtain ⟨a, vs, h1, h2, h3⟩ := s.ownAt hxs
    refine ⟨Z, env, fps, s, ?_⟩
    unfold eName
    rw [hxs]
    simp only [Post_ok]
    rintro b Z' H' fps' s' z' k ⟨vj, hv, hw⟩
    rw [h1] at hv
    cases hv
    simp only [walk, Option.some.injEq] at hw
    subst hw
    obtain ⟨_, q2, q3⟩ := k trivial
    subst q2
    refine ⟨a, rfl, ⟨vs, .of (q3 _ _ h2)⟩, ?_⟩
    refine compN_run (X := X) hpin hts s' hxs ?_ h1
    -- the wish is the same, later
    revert h
    cases compN ow j gm tm em (xs.length + 1) 0 env [] with
    | no => exact fun h => h
    | ok v e => exact fun h b Z2 H2 fps2 s2 z2 k2 r2 => h b Z2 H2 fps2 s2 (z'.trans z2) (fun q => by cases q) r2
    | ex v e => exact fun h cls d Z2 H2 fps2 s2 z2 r2 => h cls d Z2 H2 fps2 s2 (z'.trans z2) r2
  · exact .inl (comp_run (p := true) hpin hts ⟨Z, env, fps, s, h⟩)
  · exact h.elim
theorem dx_compN {own : List (Str × Nat)} {j : Nat} {pt pe : Bool} {tg elt : Expr} {ifs : List Expr} {scope : Scope} {pos px : Pos} {x : Str} {gm : GM} {tm : TM} {em : EM} {ts : List Nat} (hc : X.calm = true) (hN : X.N.Nodup) (hi : DE X g true (.Name x px) (eName j)) (ok : BlkOk X.N X.env.scope scope own)
    (hg : ∀ (n : En) (s : Shared) (H : Hp) (C : Addr) (cl : List (Str × Addr)) (fp : List Addr), DG (X.blk s H scope (compEnvC scope cl C X.env) fp) (g.blk n) ts tg gm)
    (ht : ∀ (n : En) (s : Shared) (H : Hp) (C : Addr) (cl : List (Str × Addr)) (fp : List Addr), DTs (X.blk s H scope (compEnvC scope cl C X.env) fp) (g.blk n) pt ifs tm)
    (he : ∀ (n : En) (s : Shared) (H : Hp) (C : Addr) (cl : List (Str × Addr)) (fp : List Addr), DE (X.blk s H scope (compEnvC scope cl C X.env) fp) (g.blk n) pe elt em)
    (hpin : (own.map (·.2)).all (fun i => !g.pins.contains i) = true := by rfl) (hts : ts.all (fun i => (own.map (·.2)).contains i) = true := by rfl)
    (hs : ∀ y, foldedSetIterable (.Name x px) X.env y = pure y := by intro _; rfl) :
    DE X g false (.ListComp elt [⟨tg, .Name x px, ifs, 0⟩] scope pos) (eCompN (own.map (·.2)) j gm tm em) := by
  refine PE.imp (pe_lc (own := own) (g := fun v σ H Q => ∃ n, tGm (g.blk n) ts gm v σ H Q) (tt := fun σ H Q => ∃ n, tT (g.blk n) pt tm σ H Q) (te := fun σ H Q => ∃ n, tE (g.blk n) pe em σ H Q) hc hN (PI.or (di_seq hi) (pi_list hi)) ok
    (fun s H C cl fp => ⟨fun pins s' σ H' v u Q I r ⟨n, q⟩ => (hg n s H C cl fp).run pins s' σ H' v u Q I r q⟩)
    (fun s H C cl fp => ⟨fun pins s' σ H' Q I ⟨n, q⟩ => (ht n s H C cl fp).run pins s' σ H' Q I q⟩)
    (fun s H C cl fp => ⟨fun pins s' σ H' Q I ⟨n, q⟩ => (he n s H C cl fp).run pins s' σ H' Q I q⟩) hs) fun σ H Q h => compNe_run (tg := tg) (p := true) (x := x) (pos := px) (all_pin hpin) (all_sub hts) h
theorem ax_compN {i : Nat} {y : Str} {py : Pos} {own : List (Str × Nat)} {j : Nat} {pt pe : Bool} {tg elt : Expr} {ifs : List Expr} {scope : Scope} {pos px spos : Pos} {x : Str} {gm : GM} {tm : TM} {em : EM} {ts : List Nat} (hc : X.calm = true) (hN : X.N.Nodup) (hy : X.N[i]? = some y) (hyl : X.env.scope.names.lookup y = some .local)
    (hsw : swapsWith (.ListComp elt [⟨tg, .Name x px, ifs, 0⟩] scope pos) (some (.Name y py)) spos.line X.env = pure true) (hi : DE X g true (.Name x px) (eName j)) (ok : BlkOk X.N X.env.scope scope own)
    (hg : ∀ (n : En) (s : Shared) (H : Hp) (C : Addr) (cl : List (Str × Addr)) (fp : List Addr), DG (X.blk s H scope (compEnvC scope cl C X.env) fp) (g.blk n) ts tg gm)
    (ht : ∀ (n : En) (s : Shared) (H : Hp) (C : Addr) (cl : List (Str × Addr)) (fp : List Addr), DTs (X.blk s H scope (compEnvC scope cl C X.env) fp) (g.blk n) pt ifs tm)
    (he : ∀ (n : En) (s : Shared) (H : Hp) (C : Addr) (cl : List (Str × Addr)) (fp : List Addr), DE (X.blk s H scope (compEnvC scope cl C X.env) fp) (g.blk n) pe elt em)
    (hpin : (own.map (·.2)).all (fun i => !g.pins.contains i) = true := by rfl) (hts : ts.all (fun i => (own.map (·.2)).contains i) = true := by rfl)
    (hs : ∀ y, foldedSetIterable (.Name x px) X.env y = pure y := by intro _; rfl) :
    AsgOk X g false i (.Assign [.Name y py] (.ListComp elt [⟨tg, .Name x px, ifs, 0⟩] scope pos) spos) (eCompN (own.map (·.2)) j gm tm em) := by
  refine PS.imp (ps_setLc (own := own) (g := fun v σ H Q => ∃ n, tGm (g.blk n) ts gm v σ H Q) (tt := fun σ H Q => ∃ n, tT (g.blk n) pt tm σ H Q) (te := fun σ H Q => ∃ n, tE (g.blk n) pe em σ H Q) hc hN hy hyl hsw (PI.or (di_seq hi) (pi_list hi)) ok
    (fun s H C cl fp => ⟨fun pins s' σ H' v u Q I r ⟨n, q⟩ => (hg n s H C cl fp).run pins s' σ H' v u Q I r q⟩)
    (fun s H C cl fp => ⟨fun pins s' σ H' Q I ⟨n, q⟩ => (ht n s H C cl fp).run pins s' σ H' Q I q⟩)
    (fun s H C cl fp => ⟨fun pins s' σ H' Q I ⟨n, q⟩ => (he n s H C cl fp).run pins s' σ H' Q I q⟩) hs) fun D σ H h => compNe_run (tg := tg) (p := true) (x := x) (pos := px) (all_pin hpin) (all_sub hts) h
/-! for-statements over a parameter that is never stored -/
def forN (j : Nat) (gm : GM) (body : SM) : Nat → Nat → Ve → Out
  | 0, _, _ => .no
  | k + 1, i, e => match e[j]? with
    | some (.own (.lst xs)) => match xs[i]? with
      | none => .nx e
      | some d => match gm d e with
        | none => .no
        | some e1 => match body e1 with
          | .nx e2 => forN j gm body k (i + 1) e2
          | .ct e2 => forN j gm body k (i + 1) e2
          | .bk e2 => .nx e2
          | .rt r e2 => .rt r e2
          | .ex x e2 => .ex x e2
          | .no => .no
    | _ => .no
def sForN (j : Nat) (gm : GM) (body : SM) : SM := fun env => match env[j]? with
  | some (.own (.lst xs)) => forN j gm body (xs.length + 1) 0 env
  | some (.dat _) => sFor (iSeq (eName j)) gm body env
  | _ => .no
theorem ds_forN {j : Nat} {tg : Expr} {body : List Stmt} {x : Str} {px : Pos} {gm : GM} {mb : SM} {ts : List Nat} {pos : Pos} (hp : PassesOwn (model X.prog X.w) X.A X.env X.xe) (hc : X.calm = true) (hi : DE X g true (.Name x px) (eName j)) (hg : DG X g ts tg gm) (hb : DSs X g body mb)
    (hj : g.pins.contains j = true := by rfl) (hs : ∀ y, foldedSetIterable (.Name x px) X.env y = pure y := by intro _; rfl) : DS X g (.For tg (.Name x px) body [] pos) (sForN j gm mb) := by
  have hj' : j ∈ g.pins := by simpa using hj
  have A : DS X g (.For tg (.Name x px) body [] pos) (sFor (iSeq (eName j)) gm mb) := ds_for hp hc (di_seq hi) hg hb hs
  have B := ps_for (pos := pos) hp hc (pi_list hi) hg hb hs
  refine ⟨fun pins s σ H D I ⟨Z, env, fps, s', h⟩ => ?_⟩
  unfold sForN at h
  split at h
  case h_2 => exact A.run pins s σ H D I ⟨Z, env, fps, s', h⟩
  case h_3 => exact h.elim
  rename_i xs hxs
  refine B.run pins s σ H D I ⟨Z, env, fps, s', ?_⟩
  obtain ⟨a, vs, h1, h2, h3⟩ := s'.ownAt hxs
  unfold eName
  rw [hxs]
  simp only [Post_ok]
  rintro b Z' H' fps' s1 z' k ⟨vj, hv, hw⟩
  rw [h1] at hv
  cases hv
  simp only [walk, Option.some.injEq] at hw
  subst hw
  obtain ⟨_, q2, q3⟩ := k trivial
  subst q2
  refine ⟨a, rfl, ⟨vs, .of (q3 _ _ h2)⟩, ?_⟩
  have pinv : ∀ {Z2 H2 : Hp} {e2 : Ve} {σ2 : L2.St} {fps2 : Nat → List Addr}, StR g Z2 e2 σ2 H2 fps2 → σ2[j]? = some (some (.ref a)) := fun s2 => by
    obtain ⟨v, p1, p2⟩ := s2.pin j hj'
    obtain ⟨v0, p3, p4⟩ := s'.pin j hj'
    rw [p1] at p3
    cases p3
    rw [h1] at p4
    cases p4
    exact p2
  let W : Nat → Nat → L2.St → Hp → Prop := fun i m σ H => ∃ Z2 e2 fps2, StR g Z2 e2 σ H fps2 ∧ PostS g Z2 D (forN j gm mb m i e2)
  refine ⟨W, ⟨xs.length + 1, Z', env, _, s1, h.mono z'⟩, ?_⟩
  rintro i m σ2 H2 ⟨Z2, e2, fps2, s2, po⟩
  cases m with
  | zero => exact po.elim
  | succ m =>
  simp only [forN] at po
  split at po
  case h_2 => exact po.elim
  rename_i ys hys
  obtain ⟨a', ws, k1, k2, k3⟩ := s2.ownAt hys
  rw [pinv s2] at k1
  cases k1
  cases hd : ys[i]? with
  | none =>
    rw [hd] at po
    left
    refine ⟨⟨ws, .of k2, ?_⟩, po Z2 σ2 H2 fps2 s2 (.refl _)⟩
    have := List.getElem?_eq_none_iff.mp hd
    rw [k3.length]; exact this
  | some d =>
  rw [hd] at po
  simp only at po
  right
  obtain ⟨v, hv, rv⟩ := k3.getd hd
  refine ⟨⟨ws, v, .of k2, hv⟩, fun σ' H' => ∃ m', m' < m + 1 ∧ W (i + 1) m' σ' H', fun σ' H' x => x, fun x H3 hy => ?_⟩
  obtain ⟨e1, y⟩ := hy
  subst e1
  have := y ws (.of k2)
  rw [hv] at this
  cases this
  refine ⟨Z2, e2, fps2, d, s2, rv, ?_⟩
  split at po
  · exact po.elim
  rename_i e4 hgm
  rw [hgm]
  intro Z4 σ4 H4 fps4 s4 z4 _ _
  refine ⟨Z4, e4, fps4, s4, ?_⟩
  cases eb : mb e4 with
  | no => rw [eb] at po; exact po
  | nx e5 =>
    rw [eb] at po
    exact fun Z5 σ5 H5 fps5 s5 z5 => ⟨m, by omega, Z5, e5, fps5, s5, po.mono (z4.trans z5)⟩
  | ct e5 =>
    rw [eb] at po
    exact fun Z5 σ5 H5 fps5 s5 z5 => ⟨m, by omega, Z5, e5, fps5, s5, po.mono (z4.trans z5)⟩
  | bk e5 => rw [eb] at po; exact fun Z5 σ5 H5 fps5 s5 z5 => po Z5 σ5 H5 fps5 s5 (z4.trans z5)
  | rt r e5 => rw [eb] at po; exact fun v Z5 σ5 H5 fps5 s5 z5 => po v Z5 σ5 H5 fps5 s5 (z4.trans z5)
  | ex x e5 => rw [eb] at po; exact fun cls d Z5 σ5 H5 fps5 s5 z5 => po cls d Z5 σ5 H5 fps5 s5 (z4.trans z5)
end
end DL
namespace DL
open PySem PySem.Spec PyProof.Rows L2
/-! ### a, b = e1, e2 with new things that stay owned -/
def keepO (own : Bool) (r : Res Ev) : Res Ev := if own = true then r else hold true r
def slotOf : Ev → Option S
  | .dat d => some (.dat d)
  | .new t => some (.own t)
  | .pl _ _ => none
def sParO (i j : Nat) (oa ob : Bool) (ma mb : EM) : SM := fun env => Out.ofRes (keepO oa (ma env)) fun va e1 => Out.ofRes (keepO ob (mb e1)) fun vb e2 => match slotOf va, slotOf vb with
  | some x, some y => if i < e2.length ∧ j < e2.length then .nx (setS j y (setS i x e2)) else .no
  | _, _ => .no
section
variable {g : Gx} {Z Z' H H' : Hp} {env : Ve} {σ : L2.St} {fps : Nat → List Addr}
theorem keep_run {own p : Bool} {m : EM} {Q : VK} (s : StR g Z env σ H fps)
    (ok : ∀ x e1, keepO own (m env) = .ok x e1 → ∀ v Z1 H1 fps1, StR g Z1 e1 σ H1 fps1 → Same Z Z1 → EvR g Z1 H1 σ fps1 v x → Q v H1)
    (ex : ∀ x e1, keepO own (m env) = .ex x e1 → ∀ cls d Z1 H1 fps1, StR g Z1 e1 σ H1 fps1 → Same Z Z1 → XR g.mg Z1 H1 cls d x → g.W cls d σ H1)
    (no : keepO own (m env) = .no → False) : tE g p m σ H Q := by
  cases own with
  | true =>
    refine ⟨Z, env, fps, s, ?_⟩
    cases e : m env with
    | no => exact no (by unfold keepO; rw [e]; rfl)
    | ex x e1 => exact ex x e1 (by unfold keepO; rw [e]; rfl)
    | ok a e1 =>
      intro v Z1 H1 fps1 s1 z1 _ r
      exact ok a e1 (by unfold keepO; rw [e]; rfl) v Z1 H1 fps1 s1 z1 r
  | false =>
    refine hold_run (q := true) s (fun x e1 he v Z1 H1 fps1 s1 z1 _ r => ok x e1 (by unfold keepO; exact he) v Z1 H1 fps1 s1 z1 ?_) (fun x e1 he => ex x e1 (by unfold keepO; exact he)) (fun he => no (by unfold keepO; exact he))
    cases x with
    | dat d => exact r
    | pl j p => exact r.2
    | new t => exact r.elim
theorem StR.enterAt (s : StR g Z env σ H fps) : StR (g.at ⟨Z, H, allF env.length fps, g.n.vs⟩) Z env σ H fps := by
  have q := s.enter
  exact ⟨q.len, q.sub, q.slot, q.out, q.dis, q.nd, q.nz, q.e1, q.e2, q.e3, q.e4, q.pin⟩
theorem StR.backAt {Z2 H2 : Hp} {env2 : Ve} {σ2 : L2.St} {fps2 : Nat → List Addr} (s : StR g Z env σ H fps) (s' : StR (g.at ⟨Z, H, allF env.length fps, g.n.vs⟩) Z2 env2 σ2 H2 fps2) (hp : ∀ i ∈ g.pins, ∃ v, g.n.vs[i]? = some v ∧ σ2[i]? = some (some v)) : StR g Z2 env2 σ2 H2 fps2 :=
  s.rebase (g' := g.at ⟨Z, H, allF env.length fps, g.n.vs⟩) rfl rfl (fun b m => by
    obtain ⟨k, _, hk⟩ := mem_allF.mp m
    exact ⟨k, hk⟩) hp s'
/-- a new thing that waits while something else is done -/
theorem Own.wait {v : V} {t : O} {fp : List Addr} {Z2 H2 : Hp} {env2 : Ve} {σ2 : L2.St} {fps2 : Nat → List Addr} (ow : Own g.mg Z H v t fp) (hf : ∀ a ∈ fp, Z a = none ∧ (∀ i, a ∉ fps i) ∧ (a ∈ g.n.F0 ∨ g.n.H0 a = none))
    (s' : StR (g.at ⟨Z, H, allF env.length fps, g.n.vs⟩) Z2 env2 σ2 H2 fps2) (z : Same Z Z2) : Own g.mg Z2 H2 v t fp ∧ (∀ a ∈ fp, Z2 a = none ∧ (∀ i, a ∉ fps2 i) ∧ (a ∈ g.n.F0 ∨ g.n.H0 a = none)) ∧ ∀ a ∈ fp, ¬ (a ∈ allF env.length fps ∨ H a = none) := by
  have nF : ∀ a ∈ fp, ¬ (a ∈ allF env.length fps ∨ H a = none) := fun a m q => by
    rcases q with q | q
    · obtain ⟨k, _, hk⟩ := mem_allF.mp q
      exact (hf a m).2.1 k hk
    · obtain ⟨o, e⟩ := ow.there a m
      rw [q] at e; cases e
  refine ⟨ow.keep z fun a m => ?_, fun a m => ⟨?_, fun i mi => ?_, (hf a m).2.2⟩, nF⟩
  · obtain ⟨o, e⟩ := ow.there a m
    rw [e]
    exact s'.e2 a o e fun q => nF a m (.inl q)
  · cases q : Z2 a with
    | none => rfl
    | some o =>
      rcases s'.e3 a o q with k | k | k
      · have k' : Z a = some o := k
        rw [(hf a m).1] at k'; cases k'
      · exact (nF a m (.inl k)).elim
      · exact (nF a m (.inr k)).elim
  · exact nF a m (s'.e4 i a mi)
/-- what is to be stored -/
structure SlR (g : Gx) (Z H : Hp) (fps : Nat → List Addr) (v : V) (x : S) (fp : List Addr) : Prop where
  r : (∃ d, x = .dat d ∧ fp = [] ∧ RD Z v d) ∨ (∃ t, x = .own t ∧ Own g.mg Z H v t fp)
  nd : fp.Nodup
  f : ∀ a ∈ fp, Z a = none ∧ (∀ i, a ∉ fps i) ∧ (a ∈ g.n.F0 ∨ g.n.H0 a = none)
theorem SlR.of {v : V} {a : Ev} {x : S} (r : EvR g Z H σ fps v a) (h : slotOf a = some x) : ∃ fp, SlR g Z H fps v x fp := by
  cases a with
  | dat d => cases h; exact ⟨[], .inl ⟨d, rfl, rfl, r⟩, by simp, fun a m => by simp at m⟩
  | new t => cases h; obtain ⟨fp, ow, nd, hf⟩ := r; exact ⟨fp, .inr ⟨t, rfl, ow⟩, nd, hf⟩
  | pl j p => cases h
theorem SlR.wait {v : V} {x : S} {fp : List Addr} {Z2 H2 : Hp} {env2 : Ve} {σ2 : L2.St} {fps2 : Nat → List Addr} (r : SlR g Z H fps v x fp) (s' : StR (g.at ⟨Z, H, allF env.length fps, g.n.vs⟩) Z2 env2 σ2 H2 fps2) (z : Same Z Z2) :
    SlR g Z2 H2 fps2 v x fp ∧ ∀ a ∈ fp, ¬ (a ∈ allF env.length fps ∨ H a = none) := by
  rcases r.r with ⟨d, h1, h2, h3⟩ | ⟨t, h1, ow⟩
  · subst h2
    exact ⟨⟨.inl ⟨d, h1, rfl, h3.mono z⟩, by simp, fun a m => by simp at m⟩, fun a m => by simp at m⟩
  · obtain ⟨w1, w2, w3⟩ := Own.wait ow r.f s' z
    exact ⟨⟨.inr ⟨t, h1, w1⟩, r.nd, w2⟩, w3⟩
theorem SlR.fresh {v : V} {x : S} {fp : List Addr} (r : SlR g Z H fps v x fp) {p : Addr} {o : HO} (hp : H p = none) : SlR g Z (upd H p o) fps v x fp := by
  refine ⟨?_, r.nd, r.f⟩
  rcases r.r with h | ⟨t, h1, ow⟩
  · exact .inl h
  · refine .inr ⟨t, h1, ow.keep (.refl _) fun a m => ?_⟩
    obtain ⟨o', e⟩ := ow.there a m
    rw [upd_ne (ne_of_none e hp)]
end
section
variable {X : Cx} {g : Gx}
theorem parO_run {i j : Nat} {oa ob p q : Bool} {ma mb : EM} {D : Ends} {σ : L2.St} {H : Hp} (hij : i ≠ j) (hpi : i ∉ g.pins) (hpj : j ∉ g.pins) (h : tS g (sParO i j oa ob ma mb) D σ H) :
    tE g p ma σ H fun v1 H1 => ∃ n, tE (g.at n) q mb σ H1 fun v2 H2 => ∀ H3, (H3 = H2 ∨ ∃ t, H2 t = none ∧ H3 = upd H2 t (.tup [v1, v2])) → D.nx ((σ.set i (some v1)).set j (some v2)) H3 := by
  obtain ⟨Z, env, fps, s, h⟩ := h
  unfold sParO at h
  refine keep_run (own := oa) s (fun x e1 he v1 Z1 H1 fps1 s1 z1 r1 => ?_) (fun x e1 he => ?_) (fun he => ?_)
  · rw [he] at h
    simp only [ofRes_ok] at h
    have pins1 : ∀ i ∈ g.pins, ∃ v, g.n.vs[i]? = some v ∧ σ[i]? = some (some v) := s1.pin
    refine ⟨_, keep_run (own := ob) s1.enterAt (fun y e2 he2 v2 Z2 H2 fps2 s2 z2 r2 => ?_) (fun y e2 he2 cls d Z2 H2 fps2 s2 z2 xr => ?_) (fun he2 => ?_)⟩
    · rw [he2] at h
      simp only [ofRes_ok] at h
      split at h
      case h_2 => exact h.elim
      rename_i sx sy hx hy
      split at h
      case isFalse => exact h.elim
      rename_i hl
      have s2' := s1.backAt s2 pins1
      obtain ⟨fp, rx⟩ := SlR.of r1 hx
      obtain ⟨fp2, ry⟩ := SlR.of r2 hy
      obtain ⟨rx2, nF⟩ := rx.wait s2 z2
      have ry2 : SlR g Z2 H2 fps2 v2 sy fp2 := by
        refine ⟨ry.r, ry.nd, fun a m => ⟨(ry.f a m).1, (ry.f a m).2.1, ?_⟩⟩
        rcases (ry.f a m).2.2 with k | k
        · obtain ⟨i, _, hk⟩ := mem_allF.mp k
          exact s1.e4 i a hk
        · exact (s1.new0 k).2
      have dj : ∀ a ∈ fp2, a ∉ fp := fun a m k => nF a k (ry.f a m).2.2
      -- the end, whatever stands beside
      have fin : ∀ H3, StR g Z2 e2 σ H3 fps2 → SlR g Z2 H3 fps2 v1 sx fp → SlR g Z2 H3 fps2 v2 sy fp2 → D.nx ((σ.set i (some v1)).set j (some v2)) H3 := fun H3 s3 a b => by
        have s4 := s3.store (i := i) hl.1 hpi a.r a.nd (fun c m => ⟨(a.f c m).1, fun k _ => (a.f c m).2.1 k, (a.f c m).2.2⟩)
        have s5 := s4.store (i := j) (by rw [setS_length]; exact hl.2) hpj b.r b.nd (fun c m => ⟨(b.f c m).1, fun k _ => by
          by_cases c1 : k = i
          · simp only [c1, if_true]; exact dj c m
          · simp only [c1, if_false]; exact (b.f c m).2.1 k, (b.f c m).2.2⟩)
        exact h Z2 _ H3 _ s5 (z1.trans z2)
      rintro H3 (e | ⟨t, ht, e⟩)
      · subst e
        exact fin _ s2' rx2 ry2
      · subst e
        exact fin _ (s2'.fresh (.new s2'.sub ht)) (rx2.fresh ht) (ry2.fresh ht)
    · rw [he2] at h
      simp only [ofRes_ex] at h
      exact h cls d Z2 σ H2 fps2 (s1.backAt s2 pins1) (z1.trans z2) xr
    · rw [he2] at h
      simp only [ofRes_no] at h
      exact h
  · rw [he] at h
    simp only [ofRes_ex] at h
    exact fun cls d Z' H' fps' => h cls d Z' σ H' fps'
  · rw [he] at h
    simp only [ofRes_no] at h
    exact h
theorem pa_two {a b : Expr} {ta tb : TE} (ha : PE X a ta) (hb : PE X b tb) (hs : starEach [a, b] X.env = (false, eval a X.env) :: starEach [b] X.env := by rfl) (hs2 : starEach [b] X.env = (false, eval b X.env) :: starEach [] X.env := by rfl) :
    PA X [a, b] (fun σ H Q => ta σ H fun v1 H1 => tb σ H1 fun v2 H2 => Q [v1, v2] H2) :=
  PA.imp (pa_cons ha (pa_cons hb pa_nil hs2) hs) fun σ H Q h => h
/-- of two local names -/
theorem dx_parO {i j : Nat} {oa ob : Bool} {x y : Str} {a b : Expr} {p q : Bool} {ma mb : EM} {px py pt pos : Pos} {kt k2 pt2} (hc : X.calm = true) (hN : X.N.Nodup) (hi : X.N[i]? = some x) (hj : X.N[j]? = some y) (hij : i ≠ j)
    (hx : X.env.scope.names.lookup x = some .local) (hy : X.env.scope.names.lookup y = some .local) (ha : DE X g p a ma) (hb : ∀ n, DE X (g.at n) q b mb)
    (hw : swappedStores [.Tuple [.Name x px, .Name y py] kt pt] (.Tuple [a, b] k2 pt2) X.env = pure (some [x, y])) (hpi : g.pins.contains i = false := by rfl) (hpj : g.pins.contains j = false := by rfl)
    (hs : swapsWithSole [.Tuple [.Name x px, .Name y py] kt pt] (.Tuple [a, b] k2 pt2) pos.line X.env = pure false := by rfl)
    (hs1 : starEach [a, b] X.env = (false, eval a X.env) :: starEach [b] X.env := by rfl) (hs2 : starEach [b] X.env = (false, eval b X.env) :: starEach [] X.env := by rfl) :
    DS X g (.Assign [.Tuple [.Name x px, .Name y py] kt pt] (.Tuple [a, b] k2 pt2) pos) (sParO i j oa ob ma mb) := by
  have hb' : PE X b (fun σ H Q => ∃ n, tE (g.at n) q mb σ H Q) := ⟨fun pins s σ H Q I ⟨n, k⟩ => (hb n).run pins s σ H Q I k⟩
  refine PS.imp (ps_par hc hN hi hj hij hx hy (pa_two ha hb' hs1 hs2) hw hs) fun D σ H h => ?_
  refine tR_mono (parO_run (p := p) (q := q) hij (not_pin hpi) (not_pin hpj) h) fun v1 H1 ⟨n, k⟩ => ⟨n, tR_mono k fun v2 H2 r => ⟨v1, v2, rfl, r H2 (.inl rfl)⟩⟩
/-- of two names, one of them a cell -/
theorem dx_parC {i j : Nat} {oa ob : Bool} {x y : Str} {a b : Expr} {p q : Bool} {ma mb : EM} {px py pt pos : Pos} {kt k2 pt2} (hc : X.calm = true) (hN : X.N.Nodup) (hi : X.N[i]? = some x) (hj : X.N[j]? = some y) (hij : i ≠ j)
    (hx : Loc X.env.scope x) (hfx : X.fn x = true ∨ X.env.scope.names.lookup x = some .local) (hy : Loc X.env.scope y) (hfy : X.fn y = true ∨ X.env.scope.names.lookup y = some .local) (ha : DE X g p a ma) (hb : ∀ n, DE X (g.at n) q b mb)
    (hpi : g.pins.contains i = false := by rfl) (hpj : g.pins.contains j = false := by rfl)
    (hs : swapsWithSole [.Tuple [.Name x px, .Name y py] kt pt] (.Tuple [a, b] k2 pt2) pos.line X.env = pure false := by rfl) (hw : swappedStores [.Tuple [.Name x px, .Name y py] kt pt] (.Tuple [a, b] k2 pt2) X.env = pure none := by rfl)
    (h1 : (assignEach [.Tuple [.Name x px, .Name y py] kt pt] X.env).map (·.2) = [assign (.Tuple [.Name x px, .Name y py] kt pt) X.env] := by rfl)
    (hs1 : starEach [a, b] X.env = (false, eval a X.env) :: starEach [b] X.env := by rfl) (hs2 : starEach [b] X.env = (false, eval b X.env) :: starEach [] X.env := by rfl)
    (h3 : (assignEach [.Name x px, .Name y py] X.env).map (·.2) = assign (.Name x px) X.env :: (assignEach [.Name y py] X.env).map (·.2) := by rfl) (h4 : (assignEach [.Name y py] X.env).map (·.2) = assign (.Name y py) X.env :: (assignEach [] X.env).map (·.2) := by rfl)
    (hn : (assignEach [.Name x px, .Name y py] X.env).length = 2 := by rfl) (hst : (assignEach [.Name x px, .Name y py] X.env).findIdx? (·.1) = none := by rfl) :
    DS X g (.Assign [.Tuple [.Name x px, .Name y py] kt pt] (.Tuple [a, b] k2 pt2) pos) (sParO i j oa ob ma mb) := by
  have hb' : PE X b (fun σ H Q => ∃ n, tE (g.at n) q mb σ H Q) := ⟨fun pins s σ H Q I ⟨n, k⟩ => (hb n).run pins s σ H Q I k⟩
  refine PS.imp (ps_asg (pe_tup (pa_two ha hb' hs1 hs2)) (pg_tup hc (pgs_cons (pg_name hN hi hx hfx) (pgs_cons (pg_name hN hj hy hfy) pgs_nil h4) h3) hn hst) hs hw h1) fun D σ H h => ?_
  refine tR_mono (parO_run (p := p) (q := q) hij (not_pin hpi) (not_pin hpj) h) fun v1 H1 ⟨n, k⟩ => ⟨n, tR_mono k fun v2 H2 r => ⟨lim_eq (show 2 ≤ lim by decide), fun t ht => ?_⟩⟩
  exact ⟨t, [v1, v2], rfl, .of upd_same, rfl, v1, [v2], rfl, v2, [], rfl, rfl, r _ (.inr ⟨t, ht, rfl⟩)⟩
end
end DL
namespace DL
open PySem PySem.Spec PyProof.Rows L2
/-- a name whose thing is data from here on -/
def eFrz (i : Nat) : EM := fun env => match env[i]? with
  | some (.dat d) => .ok (.dat d) env
  | some (.own t) => match t.toD with
    | some d => .ok (.dat d) ((dropS i env).set i (.dat d))
    | none => .no
  | _ => .no
section
variable {X : Cx} {g : Gx}
theorem dropS_get {j k : Nat} {env : Ve} {y : S} (h : (dropS j env)[k]? = some y) : (k = j ∧ y = .un) ∨ (k ≠ j ∧ ∃ x, env[k]? = some x ∧ y = killS j x) := by
  unfold dropS at h
  by_cases c : k = j
  · subst c
    rw [List.getElem?_set_self'] at h
    cases e : (env.map (killS k))[k]? with
    | none => rw [e] at h; cases h
    | some z => rw [e] at h; simp at h; exact .inl ⟨rfl, h.symm⟩
  · rw [List.getElem?_set_ne (Ne.symm c), List.getElem?_map] at h
    cases e : env[k]? with
    | none => rw [e] at h; cases h
    | some x => rw [e] at h; simp at h; exact .inr ⟨c, x, rfl, h.symm⟩
theorem StR.freeze {Z H : Hp} {env : Ve} {σ : L2.St} {fps : Nat → List Addr} (s : StR g Z env σ H fps) {j : Nat} {t : O} {d : D} (hj : env[j]? = some (.own t)) (e : t.toD = some d) :
    ∃ Z' v, StR g Z' ((dropS j env).set j (.dat d)) σ H (fun k => if k = j then [] else fps k) ∧ Same Z Z' ∧ σ[j]? = some (some v) ∧ RD Z' v d := by
  obtain ⟨v, h1, ow⟩ := s.slot j _ hj
  have s1 := s.drop hj
  obtain ⟨s2, rd, z⟩ := s1.freezeNew ow (fun a m => ⟨s.nz j a m, fun i mi => by
    by_cases c : i = j
    · simp [c] at mi
    · simp only [c, if_false] at mi
      exact c (s.dis i j a mi m), s.e4 j a m⟩) e
  refine ⟨_, v, ⟨?_, s2.sub, fun k x hk => ?_, fun k hk => ?_, s2.dis, s2.nd, s2.nz, s2.e1, s2.e2, s2.e3, s2.e4, s2.pin⟩, z, h1, rd⟩
  · rw [List.length_set]; exact s2.len
  · by_cases c : k = j
    · subst c
      have hx : x = .dat d := by
        rw [List.getElem?_set_self'] at hk
        cases q : (dropS k env)[k]? with
        | none => rw [q] at hk; cases hk
        | some z => rw [q] at hk; simp at hk; exact hk.symm
      subst hx
      exact ⟨by simp, v, h1, rd⟩
    · rw [List.getElem?_set_ne (Ne.symm c)] at hk
      have q := s2.slot k x hk
      cases x with
      | un => exact q
      | dat d => exact q
      | own t => exact q
      | al i p =>
        obtain ⟨e0, ⟨t', ht'⟩, r⟩ := q
        refine ⟨e0, ⟨t', ?_⟩, r⟩
        by_cases c2 : i = j
        · subst c2
          rcases dropS_get ht' with ⟨_, k2⟩ | ⟨k1, _⟩
          · cases k2
          · exact (k1 rfl).elim
        · rw [List.getElem?_set_ne (Ne.symm c2)]; exact ht'
  · exact s2.out k (by rw [List.length_set] at hk; exact hk)
theorem de_frz (i : Nat) {x : Str} {pos : Pos} (hN : X.N[i]? = some x := by rfl) (hv : Vis X.env.scope x := by first | exact Or.inl rfl | exact Or.inr (Or.inl rfl) | exact Or.inr (Or.inr rfl))
    (hd : (x == ("__debug__" : Str)) = false := by decide) (hcd : (x == ("__classdict__" : Str)) = false := by decide) : DE X g false (.Name x pos) (eFrz i) := by
  refine PE.imp (pe_var hN hv hd hcd) fun σ H Q ⟨Z, env, fps, s, h⟩ => ?_
  unfold eFrz at h
  split at h
  · rename_i d hd
    obtain ⟨_, v, h1, h2⟩ := s.slot i _ hd
    exact ⟨v, h1, h v Z H fps s (.refl _) (fun q => by cases q) h2⟩
  · rename_i t ht
    split at h
    · rename_i d hd
      obtain ⟨Z', v, s2, z, h1, rd⟩ := s.freeze ht hd
      exact ⟨v, h1, h v Z' H _ s2 z (fun q => by cases q) rd⟩
    · exact h.elim
  · exact h.elim
end
end DL
namespace DL
open PySem PySem.Spec PyProof.Rows L2
/-! ### a, b, c = e1, e2, e3 with new things that stay owned -/
def sParO3 (i j l : Nat) (oa ob oc : Bool) (ma mb mc : EM) : SM := fun env => Out.ofRes (keepO oa (ma env)) fun va e1 => Out.ofRes (keepO ob (mb e1)) fun vb e2 => Out.ofRes (keepO oc (mc e2)) fun vc e3 => match slotOf va, slotOf vb, slotOf vc with
  | some x, some y, some z => if i < e3.length ∧ j < e3.length ∧ l < e3.length then .nx (setS l z (setS j y (setS i x e3))) else .no
  | _, _, _ => .no
section
variable {X : Cx} {g : Gx}
theorem SlR.home {n : En} {Z H Z0 H0 : Hp} {fps fps0 : Nat → List Addr} {env0 : Ve} {σ0 : L2.St} {v : V} {x : S} {fp : List Addr} (s1 : StR g Z0 env0 σ0 H0 fps0) (r : SlR (g.at ⟨Z0, H0, allF env0.length fps0, g.n.vs⟩) Z H fps v x fp) : SlR g Z H fps v x fp := by
  refine ⟨r.r, r.nd, fun a m => ⟨(r.f a m).1, (r.f a m).2.1, ?_⟩⟩
  rcases (r.f a m).2.2 with k | k
  · obtain ⟨i, _, hk⟩ := mem_allF.mp k
    exact s1.e4 i a hk
  · exact (s1.new0 k).2
theorem parO3_run {i j l : Nat} {oa ob oc p q q2 : Bool} {ma mb mc : EM} {D : Ends} {σ : L2.St} {H : Hp} (hpi : i ∉ g.pins) (hpj : j ∉ g.pins) (hpl : l ∉ g.pins) (h : tS g (sParO3 i j l oa ob oc ma mb mc) D σ H) :
    tE g p ma σ H fun v1 H1 => ∃ n, tE (g.at n) q mb σ H1 fun v2 H2 => ∃ n2, tE (g.at n2) q2 mc σ H2 fun v3 H3 => ∀ H4, (H4 = H3 ∨ ∃ t, H3 t = none ∧ H4 = upd H3 t (.tup [v1, v2, v3])) → D.nx (((σ.set i (some v1)).set j (some v2)).set l (some v3)) H4 := by
  obtain ⟨Z, env, fps, s, h⟩ := h
  unfold sParO3 at h
  refine keep_run (own := oa) s (fun x e1 he v1 Z1 H1 fps1 s1 z1 r1 => ?_) (fun x e1 he => ?_) (fun he => ?_)
  · rw [he] at h
    simp only [ofRes_ok] at h
    have pins1 : ∀ i ∈ g.pins, ∃ v, g.n.vs[i]? = some v ∧ σ[i]? = some (some v) := s1.pin
    refine ⟨_, keep_run (own := ob) s1.enterAt (fun y e2 he2 v2 Z2 H2 fps2 s2 z2 r2 => ?_) (fun y e2 he2 cls d Z2 H2 fps2 s2 z2 xr => ?_) (fun he2 => ?_)⟩
    · rw [he2] at h
      simp only [ofRes_ok] at h
      have s2' := s1.backAt s2 pins1
      refine ⟨_, keep_run (own := oc) s2'.enterAt (fun w e3 he3 v3 Z3 H3 fps3 s3 z3 r3 => ?_) (fun w e3 he3 cls d Z3 H3 fps3 s3 z3 xr => ?_) (fun he3 => ?_)⟩
      · rw [he3] at h
        simp only [ofRes_ok] at h
        split at h
        case h_2 => exact h.elim
        rename_i sx sy sz hx hy hz
        split at h
        case isFalse => exact h.elim
        rename_i hl
        have s3' := s2'.backAt s3 pins1
        obtain ⟨fp, rx⟩ := SlR.of r1 hx
        obtain ⟨fp2, ry0⟩ := SlR.of r2 hy
        obtain ⟨fp3, rz0⟩ := SlR.of r3 hz
        obtain ⟨rx2, nF⟩ := rx.wait s2 z2
        have ry := SlR.home (n := g.n) s1 ry0
        obtain ⟨rx3, nF2⟩ := rx2.wait s3 z3
        obtain ⟨ry3, nF3⟩ := ry.wait s3 z3
        have rz := SlR.home (n := g.n) s2' rz0
        have d12 : ∀ a ∈ fp2, a ∉ fp := fun a m k => nF a k (ry0.f a m).2.2
        have d13 : ∀ a ∈ fp3, a ∉ fp := fun a m k => nF2 a k (rz0.f a m).2.2
        have d23 : ∀ a ∈ fp3, a ∉ fp2 := fun a m k => nF3 a k (rz0.f a m).2.2
        have fin : ∀ H4, StR g Z3 e3 σ H4 fps3 → SlR g Z3 H4 fps3 v1 sx fp → SlR g Z3 H4 fps3 v2 sy fp2 → SlR g Z3 H4 fps3 v3 sz fp3 → D.nx (((σ.set i (some v1)).set j (some v2)).set l (some v3)) H4 := fun H4 s4 a b c => by
          have t1 := s4.store (i := i) hl.1 hpi a.r a.nd (fun u m => ⟨(a.f u m).1, fun k _ => (a.f u m).2.1 k, (a.f u m).2.2⟩)
          have t2 := t1.store (i := j) (by rw [setS_length]; exact hl.2.1) hpj b.r b.nd (fun u m => ⟨(b.f u m).1, fun k _ => by
            by_cases c1 : k = i
            · simp only [c1, if_true]; exact d12 u m
            · simp only [c1, if_false]; exact (b.f u m).2.1 k, (b.f u m).2.2⟩)
          have t3 := t2.store (i := l) (by rw [setS_length, setS_length]; exact hl.2.2) hpl c.r c.nd (fun u m => ⟨(c.f u m).1, fun k _ => by
            by_cases c1 : k = j
            · simp only [c1, if_true]; exact d23 u m
            · simp only [c1, if_false]
              by_cases c2 : k = i
              · simp only [c2, if_true]; exact d13 u m
              · simp only [c2, if_false]; exact (c.f u m).2.1 k, (c.f u m).2.2⟩)
          exact h Z3 _ H4 _ t3 ((z1.trans z2).trans z3)
        rintro H4 (e | ⟨t, ht, e⟩)
        · subst e
          exact fin _ s3' rx3 ry3 rz
        · subst e
          exact fin _ (s3'.fresh (.new s3'.sub ht)) (rx3.fresh ht) (ry3.fresh ht) (rz.fresh ht)
      · rw [he3] at h
        simp only [ofRes_ex] at h
        exact h cls d Z3 σ H3 fps3 (s2'.backAt s3 pins1) ((z1.trans z2).trans z3) xr
      · rw [he3] at h
        simp only [ofRes_no] at h
        exact h
    · rw [he2] at h
      simp only [ofRes_ex] at h
      exact h cls d Z2 σ H2 fps2 (s1.backAt s2 pins1) (z1.trans z2) xr
    · rw [he2] at h
      simp only [ofRes_no] at h
      exact h
  · rw [he] at h
    simp only [ofRes_ex] at h
    exact fun cls d Z' H' fps' => h cls d Z' σ H' fps'
  · rw [he] at h
    simp only [ofRes_no] at h
    exact h
/-- of three local names -/
theorem dx_parO3 {i j l : Nat} {oa ob oc : Bool} {x y z : Str} {a b c : Expr} {p q q2 : Bool} {ma mb mc : EM} {px py pz pt pos : Pos} {kt k2 pt2} (hc : X.calm = true) (hN : X.N.Nodup) (hi : X.N[i]? = some x) (hj : X.N[j]? = some y) (hl : X.N[l]? = some z) (hij : i ≠ j) (hil : i ≠ l) (hjl : j ≠ l)
    (hx : X.env.scope.names.lookup x = some .local) (hy : X.env.scope.names.lookup y = some .local) (hz : X.env.scope.names.lookup z = some .local) (ha : DE X g p a ma) (hb : ∀ n, DE X (g.at n) q b mb) (hcc : ∀ n, DE X (g.at n) q2 c mc)
    (hw : swappedStores [.Tuple [.Name x px, .Name y py, .Name z pz] kt pt] (.Tuple [a, b, c] k2 pt2) X.env = pure (some [x, y, z])) (hpi : g.pins.contains i = false := by rfl) (hpj : g.pins.contains j = false := by rfl) (hpl : g.pins.contains l = false := by rfl)
    (hs : swapsWithSole [.Tuple [.Name x px, .Name y py, .Name z pz] kt pt] (.Tuple [a, b, c] k2 pt2) pos.line X.env = pure false := by rfl)
    (hs1 : starEach [a, b, c] X.env = (false, eval a X.env) :: starEach [b, c] X.env := by rfl) (hs2 : starEach [b, c] X.env = (false, eval b X.env) :: starEach [c] X.env := by rfl) (hs3 : starEach [c] X.env = (false, eval c X.env) :: starEach [] X.env := by rfl) :
    DS X g (.Assign [.Tuple [.Name x px, .Name y py, .Name z pz] kt pt] (.Tuple [a, b, c] k2 pt2) pos) (sParO3 i j l oa ob oc ma mb mc) := by
  have hb' : PE X b (fun σ H Q => ∃ n, tE (g.at n) q mb σ H Q) := ⟨fun pins s σ H Q I ⟨n, k⟩ => (hb n).run pins s σ H Q I k⟩
  have hc' : PE X c (fun σ H Q => ∃ n, tE (g.at n) q2 mc σ H Q) := ⟨fun pins s σ H Q I ⟨n, k⟩ => (hcc n).run pins s σ H Q I k⟩
  refine PS.imp (ps_par3 hc hN hi hj hl hij hil hjl hx hy hz (pa_cons ha (pa_cons hb' (pa_cons hc' pa_nil hs3) hs2) hs1) hw hs) fun D σ H h => ?_
  refine tR_mono (parO3_run (p := p) (q := q) (q2 := q2) (not_pin hpi) (not_pin hpj) (not_pin hpl) h) fun v1 H1 ⟨n, k⟩ => ⟨n, tR_mono k fun v2 H2 ⟨n2, k2⟩ => ⟨n2, tR_mono k2 fun v3 H3 r => ⟨v1, v2, v3, rfl, r H3 (.inl rfl)⟩⟩⟩
end
end DL
namespace DL
open PySem PySem.Spec PyProof.Rows L2
/-! ### a def called with owned things that it only reads: what it sees is data -/
def atomD : D → Bool
  | .non => true
  | .bl _ => true
  | .int _ => true
  | .str _ => true
  | _ => false
theorem RD.atom {Z Z' : Hp} {v : V} {d : D} (h : RD Z v d) (a : atomD d = true) : RD Z' v d := by
  cases h with
  | non => exact .non
  | bl => exact .bl
  | int => exact .int
  | str => exact .str
  | _ => cases a
theorem RDs.atom {Z Z' : Hp} : ∀ {vs : List V} {ds : List D}, RDs Z vs ds → ds.all atomD = true → RDs Z' vs ds
  | _, _, .nil, _ => .nil
  | _, _, .cons h r, a => by
    simp only [List.all_cons, Bool.and_eq_true] at a
    exact .cons (h.atom a.1) (RDs.atom r a.2)
def allAt (xs : List D) : Bool := xs.all atomD
def lendD (e : Ve) : Ev → Option D
  | .dat d => some d
  | .pl j p => (getP e j p).bind O.toD
  | .new _ => none
def lends (e : Ve) : List Ev → Option (List D)
  | [] => some []
  | x :: xs => match lendD e x, lends e xs with
    | some d, some ds => some (d :: ds)
    | _, _ => none
def lendR (e1 : Ve) : FRes → Res Ev
  | .ok (.dat d) _ => if atomD d = true then .ok (.dat d) e1 else .no
  | .ok (.new (.lst xs)) _ => if allAt xs = true then .ok (.new (.lst xs)) e1 else .no
  | .ex x _ => if x.fs.all (fun p => atomD p.2) = true then .ex x e1 else .no
  | _ => .no
def lendM (np : Nat) (fm : FM) (xs : List Ev) (e1 : Ve) : Res Ev := match lends e1 xs with
  | some ds => if ds.length = np then lendR e1 (fm (ds.map S.dat)) else .no
  | none => .no
/-- by what it reads; if that fails: with the things themselves -/
def eFnX (np : Nat) (fm : FM) (ma : AM) : EM := fun env => (ma env).bind fun xs e1 => match lendM np fm xs e1 with
  | .no => eFn np fm (fun _ => .ok xs e1) e1
  | r => r
section
variable {g : Gx}
theorem lends_ok {Z H : Hp} {e : Ve} {σ : L2.St} {fps : Nat → List Addr} (s : StR g Z e σ H fps) : ∀ {vs : List V} {xs : List Ev} {ds : List D}, HvRs Z H σ vs xs → lends e xs = some ds → RDs (frozen Z H (allF e.length fps)) vs ds
  | _, _, _, .nil, h => by simp [lends] at h; subst h; exact .nil
  | _, x :: xs, _, .cons r rs, h => by
    have z : Same Z (frozen Z H (allF e.length fps)) := frozen_same fun a m => by
      obtain ⟨k, _, hk⟩ := mem_allF.mp m
      exact s.nz k a hk
    unfold lends at h
    split at h
    · rename_i d ds h1 h2
      cases h
      refine .cons ?_ (lends_ok s rs h2)
      cases x with
      | dat d' => simp [lendD] at h1; subst h1; exact RD.mono z r
      | new t => simp [lendD] at h1
      | pl j p =>
        obtain ⟨_, vj, hσ, hw⟩ := r
        simp only [lendD, Option.bind_eq_some_iff] at h1
        obtain ⟨t', ht', hd⟩ := h1
        unfold getP at ht'
        split at ht'
        · rename_i t ht
          obtain ⟨v0, h3, ow⟩ := s.slot j _ ht
          rw [hσ] at h3
          cases h3
          obtain ⟨v', fp', h4, h5, h6⟩ := ow.get ht'
          rw [hw] at h4
          cases h4
          refine h5.freeze z (fun a m => ?_) hd
          unfold frozen
          rw [if_pos (mem_allF.mpr ⟨j, (List.getElem?_eq_some_iff.mp ht).1, h6 a m⟩)]
        · cases ht'
    · cases h
theorem lend_run {np : Nat} {fm : FM} {Z H : Hp} {e : Ve} {σ : L2.St} {fps : Nat → List Addr} {vs : List V} {xs : List Ev} {Q : VK} (s : StR g Z e σ H fps) (r : HvRs Z H σ vs xs) {ds : List D} (hd : lends e xs = some ds) (hn : ds.length = np)
    (h : Post g false (EvR g) Z e σ H fps Q (lendR e (fm (ds.map S.dat)))) : spF g.mg np fm vs H Q (fun cls d H => g.W cls d σ H) := by
  have rd := lends_ok s r hd
  have z : Same Z (frozen Z H (allF e.length fps)) := frozen_same fun a m => by
    obtain ⟨k, _, hk⟩ := mem_allF.mp m
    exact s.nz k a hk
  refine ⟨by rw [rd.length]; exact hn, frozen Z H (allF e.length fps), ds.map S.dat, fun _ => [], [], ⟨by simp [rd.length], frozen_sub s.sub, fun i x hx => ?_, fun _ _ => rfl, fun i j a m => by simp at m, fun _ => List.nodup_nil, fun i a m => by simp at m, .refl _, fun b o q _ => q, fun b o q => .inl q, fun i a m => by simp at m, fun i m => by simp [gF] at m⟩, fun i a m => by simp at m, ?_⟩
  · rw [List.getElem?_map] at hx
    cases hq : ds[i]? with
    | none => rw [hq] at hx; cases hx
    | some d =>
      rw [hq] at hx
      cases hx
      obtain ⟨v, h1, h2⟩ := rd.getd hq
      exact ⟨rfl, v, by rw [List.getElem?_map, h1]; rfl, h2⟩
  · have back : ∀ {Z2 H2 : Hp} {as : List S} {σ2 : L2.St} {fps2 : Nat → List Addr}, StR (gF g.mg (frozen Z H (allF e.length fps)) H [] vs) Z2 as σ2 H2 fps2 → StR g Z e σ H2 fps ∧ Same H H2 := fun {Z2 H2 as σ2 fps2} s2 => by
      have hh : Same H H2 := fun b o q => s2.e2 b o q (by simp [gF])
      exact ⟨s.fresh ⟨.refl _, hh, s.sub.trans hh, fun b o q => .inl q⟩, hh⟩
    cases hr : fm (ds.map S.dat) with
    | no => rw [hr] at h; exact h
    | ex x bs =>
      rw [hr] at h
      simp only [lendR] at h
      split at h
      · rename_i ha
        rintro cls d Z2 H2 fps2 s2 ⟨C, e1, e2, e3⟩
        obtain ⟨b1, b2⟩ := back s2
        refine h cls d Z H2 fps b1 (.refl _) ⟨C, e1, e2, ?_⟩
        rcases e3 with e3 | ⟨dd, vfs, k1, k2, k3⟩
        · exact .inl e3
        · refine .inr ⟨dd, vfs, k1, k2, fun f u hu => ?_⟩
          obtain ⟨v, l1, l2⟩ := k3 f u hu
          refine ⟨v, l1, l2.atom ?_⟩
          have mem : ∀ {l : List (Str × D)}, l.lookup f = some u → l.all (fun p => atomD p.2) = true → atomD u = true := by
            intro l
            induction l with
            | nil => intro h; cases h
            | cons p l ih =>
              intro h ha
              obtain ⟨k, w⟩ := p
              simp only [List.all_cons, Bool.and_eq_true] at ha
              simp only [List.lookup] at h
              split at h
              · cases h; exact ha.1
              · exact ih h ha.2
          exact mem hu ha
      · exact h.elim
    | ok v0 bs =>
      rw [hr] at h
      intro v Z2 H2 fps2 s2 er
      obtain ⟨b1, b2⟩ := back s2
      cases v0 with
      | pl j p => exact h.elim
      | dat d =>
        simp only [lendR] at h
        split at h
        · rename_i ha
          have er' : RD Z2 v d := er
          exact h v Z H2 fps b1 (.refl _) (fun q => by cases q) (er'.atom ha)
        · exact h.elim
      | new t =>
        cases t with
        | lst ys =>
          simp only [lendR] at h
          split at h
          · rename_i ha
            obtain ⟨fp, ow, nd, hf⟩ := er
            cases ow with
            | lst k1 k2 =>
              refine h _ Z H2 fps b1 (.refl _) (fun q => by cases q) ⟨_, .lst k1 (k2.atom ha), nd, fun a m => ?_⟩
              obtain ⟨f1, f2, f3⟩ := hf a m
              have hn : H a = none := by
                rcases f3 with f3 | f3
                · simp [gF] at f3
                · exact f3
              refine ⟨?_, (s.new0 hn).1, (s.new0 hn).2⟩
              cases q : Z a with
              | none => rfl
              | some o =>
                have := s2.e1 a o (z a o q)
                rw [f1] at this; cases this
          · exact h.elim
        | _ => exact h.elim
theorem fnX_run {np : Nat} {p : Bool} {fm : FM} {ma : AM} {σ : L2.St} {H : Hp} {Q : VK} (h : tE g false (eFnX np fm ma) σ H Q) : tA g p ma σ H fun vs H1 => spF g.mg np fm vs H1 Q (fun cls d H => g.W cls d σ H) := by
  obtain ⟨Z, env, fps, s, h⟩ := h
  unfold eFnX at h
  cases e : ma env with
  | no => simp [e] at h
  | ex x e1 => exact ⟨Z, env, fps, s, by simpa [e] using h⟩
  | ok xs e1 =>
    simp only [e, Res.bind_ok] at h
    by_cases hno : lendM np fm xs e1 = .no
    · rw [hno] at h
      refine fn_run ⟨Z, env, fps, s, ?_⟩
      unfold eFn
      rw [e]
      exact h
    · refine ⟨Z, env, fps, s, ?_⟩
      rw [e]
      intro vs Z1 H1 fps1 s1 z1 _ r1
      have here : ∀ {r : Res Ev}, Post g false (EvR g) Z env σ H fps Q r → Post g false (EvR g) Z1 e1 σ H1 fps1 Q r := fun {r} hr => by
        cases r with
        | no => exact hr
        | ok a e2 => exact fun b Z2 H2 fps2 s2 z2 _ q => hr b Z2 H2 fps2 s2 (z1.trans z2) (fun q => by cases q) q
        | ex x e2 => exact fun cls d Z2 H2 fps2 s2 z2 q => hr cls d Z2 H2 fps2 s2 (z1.trans z2) q
      have h' : Post g false (EvR g) Z env σ H fps Q (lendM np fm xs e1) := by
        revert h
        cases q : lendM np fm xs e1 with
        | no => exact (hno q).elim
        | ok a e2 => exact fun h => h
        | ex x e2 => exact fun h => h
      unfold lendM at h'
      split at h'
      · rename_i ds hds
        split at h'
        · rename_i hn
          exact lend_run s1 r1 hds hn (here h')
        · exact h'.elim
      · exact h'.elim
end
section
variable {X : Cx} {g : Gx}
theorem de_fnX {k j np : Nat} {x : Str} {ps : List Str} {fm : FM} {p : Bool} {e : Expr} {es : List Expr} {ma : AM} {ps' pos : Pos} (F : FnAt X.prog X.w X.K X.mg X.base k x ps np fm) (hr : Room j X.A) (hkj : k ≤ j) (hmg : g.mg = X.mg) (hg : Gl X x) (tk : Takes X g.W) (ha : DA X g p (e :: es) ma)
    (hdb : (x == ("__debug__" : Str)) = false := by decide) (he : starEach (e :: es) X.env = (false, eval e X.env) :: starEach es X.env := by rfl) (hpl : (backTo pos (starEach es X.env)).any (·.1) = false := by rfl) :
    DE X g false (.Call (.Name x ps') (e :: es) [] pos) (eFnX np fm ma) := by
  obtain ⟨f, fd, h1, h2, h3, h4⟩ := F.ex
  refine PE.imp (pe_callS h1 (hr.mono hkj) hg h2 h3 h4 (fun σ => passAt tk σ) ha hdb he hpl) fun σ H Q h => ?_
  have := fnX_run (p := p) h
  rw [hmg] at this
  exact this
end
end DL
namespace DL
open PySem L2
/-! ### evaluating mirrors by simp -/
@[simp] theorem hold_dat (q : Bool) (d : D) (e : Ve) : hold q (.ok (.dat d) e) = .ok (.dat d) e := rfl
@[simp] theorem hold_lst (q : Bool) (xs : List D) (e : Ve) : hold q (.ok (.new (.lst xs)) e) = .ok (.dat (.lst xs)) e := rfl
@[simp] theorem hold_newdat (q : Bool) (d : D) (e : Ve) : hold q (.ok (.new (.dat d)) e) = .ok (.dat d) e := rfl
@[simp] theorem hold_root (q : Bool) (j : Nat) (e : Ve) : hold q (.ok (.pl j []) e) = .ok (.pl j []) e := rfl
@[simp] theorem hold_pltrue (j : Nat) (p : List Str) (e : Ve) : hold true (.ok (.pl j p) e) = .ok (.pl j p) e := by cases p <;> rfl
@[simp] theorem hold_ex (q : Bool) (x : Exn) (e : Ve) : hold q (.ex x e) = .ex x e := rfl
@[simp] theorem hold_no (q : Bool) : hold q .no = .no := rfl
@[simp] theorem peek_dat (env : Ve) (d : D) : peek env (.dat d) = some d := rfl
theorem peek_pl (env : Ve) (j : Nat) (p : List Str) : peek env (.pl j p) = match env[j]? with | some (.own t) => (t.get p).bind O.flat | _ => none := rfl
@[simp] theorem get_nil (t : O) : t.get [] = some t := by cases t <;> rfl
@[simp] theorem set_nil (t x : O) : t.set [] x = x := by cases t <;> rfl
@[simp] theorem flat_lst (xs : List D) : O.flat (.lst xs) = some (.lst xs) := rfl
@[simp] theorem flat_dat (d : D) : O.flat (.dat d) = some d := rfl
/-! slots that hold no thing of their own -/
def Nw : S → Bool
  | .own _ => false
  | _ => true
@[simp] theorem Nw_un : Nw .un = true := rfl
@[simp] theorem Nw_dat (d : D) : Nw (.dat d) = true := rfl
@[simp] theorem Nw_al (j : Nat) (p : List Str) : Nw (.al j p) = true := rfl
@[simp] theorem Nw_own (t : O) : Nw (.own t) = false := rfl
def nwAt (i : Nat) (env : Ve) : Bool := match env[i]? with
  | some s => Nw s
  | none => true
theorem setS_nw {i : Nat} {x : S} {env : Ve} (h : nwAt i env = true) : setS i x env = env.set i x := by
  unfold nwAt at h
  unfold setS
  split
  · rename_i t ht
    rw [ht] at h
    cases h
  · rfl
@[simp] theorem nwAt_zero (s : S) (e : Ve) : nwAt 0 (s :: e) = Nw s := rfl
@[simp] theorem nwAt_succ (i : Nat) (s : S) (e : Ve) : nwAt (i + 1) (s :: e) = nwAt i e := rfl
/-- unbound or data -/
def Pl : S → Bool
  | .un => true
  | .dat _ => true
  | _ => false
@[simp] theorem Pl_un : Pl .un = true := rfl
@[simp] theorem Pl_dat (d : D) : Pl (.dat d) = true := rfl
@[simp] theorem nw_pl {s : S} (h : Pl s = true) : Nw s = true := by cases s <;> first | rfl | cases h
@[simp] theorem killS_un (i : Nat) : killS i .un = .un := rfl
@[simp] theorem killS_dat (i : Nat) (d : D) : killS i (.dat d) = .dat d := rfl
@[simp] theorem killS_own (i : Nat) (t : O) : killS i (.own t) = .own t := rfl
@[simp] theorem killS_al (i j : Nat) (p : List Str) : killS i (.al j p) = if j = i then .un else .al j p := rfl
@[simp] theorem killS_pl {i : Nat} {s : S} (h : Pl s = true) : killS i s = s := by cases s <;> first | rfl | cases h
@[simp] theorem killA_un : killA .un = .un := rfl
@[simp] theorem killA_dat (d : D) : killA (.dat d) = .dat d := rfl
@[simp] theorem killA_own (t : O) : killA (.own t) = .own t := rfl
@[simp] theorem killA_al (j : Nat) (p : List Str) : killA (.al j p) = .un := rfl
@[simp] theorem killA_pl {s : S} (h : Pl s = true) : killA s = s := by cases s <;> first | rfl | cases h
theorem setS_own {i : Nat} {x : S} {env : Ve} {t : O} (h : env[i]? = some (.own t)) : setS i x env = (env.map (killS i)).set i x := by
  unfold setS; rw [h]
theorem noOwn_nw (s : S) : noOwn (some s) = Nw s := by cases s <;> rfl
/-! ints in lists -/
theorem atI_zero {α : Type} (x : α) (xs : List α) : L2.atI (x :: xs) 0 = some x := by simp [L2.atI, L2.ixN]
theorem atI_pos {α : Type} {xs : List α} {i : Int} (h : 0 ≤ i) : L2.atI xs i = xs[i.toNat]? := by
  unfold L2.atI L2.ixN
  rw [if_pos h]
  by_cases c : i < xs.length
  · rw [if_pos c]; rfl
  · rw [if_neg c, List.getElem?_eq_none (by omega)]; rfl
theorem ixN_pos {n : Nat} {i : Int} (h : 0 ≤ i) (h2 : i < n) : L2.ixN n i = some i.toNat := by
  unfold L2.ixN; rw [if_pos h, if_pos h2]
theorem ixN_zero (n : Nat) : L2.ixN (n + 1) 0 = some 0 := ixN_pos (by omega) (by omega)
theorem eqOk_int (i : Int) : eqOk (.int i) = true := by simp [eqOk, D.nos, SeqAt.shaped, D.py, PyData.canLay0, PyData.depth]
theorem eqB_int (i j : Int) : eqB (.int i) (.int j) = decide (i = j) := by
  show (i == j) = decide (i = j)
  exact Bool.beq_eq_decide_eq i j
@[simp] theorem eqD_int (i j : Int) : eqD (.int i) (.int j) = some (.dat (.bl (decide (i = j)))) := by unfold eqD; rw [eqOk_int, eqOk_int, eqB_int]; rfl
@[simp] theorem neD_int (i j : Int) : neD (.int i) (.int j) = some (.dat (.bl (!decide (i = j)))) := by unfold neD; rw [eqOk_int, eqOk_int, eqB_int]; rfl
/-! loops by invariants -/
theorem forL_inv {gm : GM} {body : SM} {I : Ve → Prop} : ∀ {ds : List D} {e : Ve}, I e → (∀ d ∈ ds, ∀ e, I e → ∃ e1, gm d e = some e1 ∧ ∃ e2, (body e1 = .nx e2 ∨ body e1 = .ct e2) ∧ I e2) → ∃ e', forL gm body ds e = .nx e' ∧ I e'
  | [], e, h, _ => ⟨e, rfl, h⟩
  | d :: ds, e, h, k => by
    obtain ⟨e1, h1, e2, h2, h3⟩ := k d (List.mem_cons_self) e h
    obtain ⟨e', h4, h5⟩ := forL_inv (ds := ds) h3 fun d' hd => k d' (List.mem_cons_of_mem _ hd)
    refine ⟨e', ?_, h5⟩
    rcases h2 with h2 | h2
    · simp only [forL, h1, h2, h4]
    · simp only [forL, h1, h2, h4]
/-- .. that may be left by break -/
theorem forL_brk {gm : GM} {body : SM} {I J : Ve → Prop} (IJ : ∀ e, I e → J e) : ∀ {ds : List D} {e : Ve}, I e → (∀ d ∈ ds, ∀ e, I e → ∃ e1, gm d e = some e1 ∧ ∃ e2, ((body e1 = .nx e2 ∨ body e1 = .ct e2) ∧ I e2) ∨ (body e1 = .bk e2 ∧ J e2)) → ∃ e', forL gm body ds e = .nx e' ∧ J e'
  | [], e, h, _ => ⟨e, rfl, IJ e h⟩
  | d :: ds, e, h, k => by
    obtain ⟨e1, h1, e2, h2⟩ := k d (List.mem_cons_self) e h
    rcases h2 with ⟨h2, h3⟩ | ⟨h2, h3⟩
    · obtain ⟨e', h4, h5⟩ := forL_brk IJ (ds := ds) h3 fun d' hd => k d' (List.mem_cons_of_mem _ hd)
      refine ⟨e', ?_, h5⟩
      rcases h2 with h2 | h2
      · simp only [forL, h1, h2, h4]
      · simp only [forL, h1, h2, h4]
    · exact ⟨e2, by simp only [forL, h1, h2], h3⟩
end DL
namespace DL
open PySem L2
/-! ### lists of ints -/
def mi (w : List Int) : List D := w.map D.int
theorem mi_eq (w : List Int) : mi w = w.map D.int := rfl
@[simp] theorem mi_length (w : List Int) : (mi w).length = w.length := by simp [mi]
@[simp] theorem mi_append (a b : List Int) : mi a ++ mi b = mi (a ++ b) := by simp [mi]
@[simp] theorem mi_app1 (a : List Int) (x : Int) : mi a ++ [D.int x] = mi (a ++ [x]) := by simp [mi]
@[simp] theorem mi_app2 (a : List Int) (x y : Int) : mi a ++ [D.int x, D.int y] = mi (a ++ [x, y]) := by simp [mi]
@[simp] theorem mi_reverse (a : List Int) : (mi a).reverse = mi a.reverse := by simp [mi]
@[simp] theorem mi_set (a : List Int) (i : Nat) (x : Int) : (mi a).set i (D.int x) = mi (a.set i x) := by simp [mi, List.map_set]
@[simp] theorem mi_get (a : List Int) (i : Nat) : (mi a)[i]? = a[i]?.map D.int := by simp [mi]
@[simp] theorem mi_atI (a : List Int) (i : Int) : L2.atI (mi a) i = (L2.atI a i).map D.int := by
  unfold L2.atI; rw [mi_length]; cases L2.ixN a.length i with
  | none => rfl
  | some k => simp
@[simp] theorem mi_dropLast (a : List Int) : (mi a).dropLast = mi a.dropLast := by simp [mi, List.map_dropLast]
@[simp] theorem mi_cut (a : List Int) (lo hi : Option Int) : cut (mi a) lo hi = mi (cut a lo hi) := by simp [cut, mi, List.map_take, List.map_drop]
@[simp] theorem mi_rep (a : List Int) (k : Nat) : (List.replicate k (mi a)).flatten = mi (List.replicate k a).flatten := by simp [mi, List.map_flatten]
@[simp] theorem lst_0 : D.lst [] = D.lst (mi []) := rfl
@[simp] theorem lst_1 (a : Int) : D.lst [.int a] = D.lst (mi [a]) := rfl
@[simp] theorem lst_2 (a b : Int) : D.lst [.int a, .int b] = D.lst (mi [a, b]) := rfl
@[simp] theorem lst_3 (a b c : Int) : D.lst [.int a, .int b, .int c] = D.lst (mi [a, b, c]) := rfl
@[simp] theorem lst_4 (a b c d : Int) : D.lst [.int a, .int b, .int c, .int d] = D.lst (mi [a, b, c, d]) := rfl
@[simp] theorem lst_5 (a b c d e : Int) : D.lst [.int a, .int b, .int c, .int d, .int e] = D.lst (mi [a, b, c, d, e]) := rfl
@[simp] theorem lst_6 (a b c d e f : Int) : D.lst [.int a, .int b, .int c, .int d, .int e, .int f] = D.lst (mi [a, b, c, d, e, f]) := rfl
@[simp] theorem lst_7 (a b c d e f g : Int) : D.lst [.int a, .int b, .int c, .int d, .int e, .int f, .int g] = D.lst (mi [a, b, c, d, e, f, g]) := rfl
@[simp] theorem lst_8 (a b c d e f g h : Int) : D.lst [.int a, .int b, .int c, .int d, .int e, .int f, .int g, .int h] = D.lst (mi [a, b, c, d, e, f, g, h]) := rfl
@[simp] theorem olst_0 : O.lst [] = O.lst (mi []) := rfl
@[simp] theorem olst_1 (a : Int) : O.lst [.int a] = O.lst (mi [a]) := rfl
@[simp] theorem olst_2 (a b : Int) : O.lst [.int a, .int b] = O.lst (mi [a, b]) := rfl
@[simp] theorem olst_3 (a b c : Int) : O.lst [.int a, .int b, .int c] = O.lst (mi [a, b, c]) := rfl
@[simp] theorem olst_4 (a b c d : Int) : O.lst [.int a, .int b, .int c, .int d] = O.lst (mi [a, b, c, d]) := rfl
@[simp] theorem olst_5 (a b c d e : Int) : O.lst [.int a, .int b, .int c, .int d, .int e] = O.lst (mi [a, b, c, d, e]) := rfl
@[simp] theorem olst_6 (a b c d e f : Int) : O.lst [.int a, .int b, .int c, .int d, .int e, .int f] = O.lst (mi [a, b, c, d, e, f]) := rfl
@[simp] theorem olst_7 (a b c d e f g : Int) : O.lst [.int a, .int b, .int c, .int d, .int e, .int f, .int g] = O.lst (mi [a, b, c, d, e, f, g]) := rfl
@[simp] theorem olst_8 (a b c d e f g h : Int) : O.lst [.int a, .int b, .int c, .int d, .int e, .int f, .int g, .int h] = O.lst (mi [a, b, c, d, e, f, g, h]) := rfl
@[simp] theorem intsOf_mi : ∀ w : List Int, intsOf (mi w) = some w
  | [] => rfl
  | i :: w => by
    show (intsOf (mi w)).map (i :: ·) = _
    rw [intsOf_mi w]; rfl
def rg (lo : Int) (n : Nat) : List Int := (List.range n).map fun (i : Nat) => lo + (i : Int)
@[simp] theorem rangeL_mi (lo : Int) (n : Nat) : rangeL lo n = mi (rg lo n) := by simp [rangeL, mi, rg]
@[simp] theorem rg_length (lo : Int) (n : Nat) : (rg lo n).length = n := by simp [rg]
theorem rg_mem {lo : Int} {n : Nat} {x : Int} (h : x ∈ rg lo n) : lo ≤ x ∧ x < lo + n := by
  simp only [rg, List.mem_map, List.mem_range] at h
  obtain ⟨i, hi, rfl⟩ := h
  omega
@[simp] theorem absD_int (i : Int) : absD [.int i] = some (.dat (.int (i.natAbs : Int))) := by
  show some (Ev.dat (D.int (if i < 0 then -i else i))) = _
  congr 3
  split <;> omega
@[simp] theorem maxD_int (i j : Int) : maxD [.int i, .int j] = some (.dat (.int (max i j))) := by
  show some (Ev.dat (D.int (if j > i then j else i))) = _
  congr 3
  split <;> omega
@[simp] theorem minD_int (i j : Int) : minD [.int i, .int j] = some (.dat (.int (min i j))) := by
  show some (Ev.dat (D.int (if j < i then j else i))) = _
  congr 3
  split <;> omega
/-! ranges -/
/-- by choice, so that the kernel does not count -/
noncomputable def smI (j : Int) : Bool := @decide (-(2 ^ 62) ≤ j ∧ j < 2 ^ 62) (Classical.propDecidable _)
theorem smI_iff (j : Int) : smI j = true ↔ -(2 ^ 62) ≤ j ∧ j < 2 ^ 62 := @decide_eq_true_iff _ (Classical.propDecidable _)
theorem smI_nat {j : Int} (h : -16777216 ≤ j) (h2 : j ≤ 16777216) : smI j = true := (smI_iff j).2 ⟨by omega, by omega⟩
@[simp] theorem smI_0 : smI 0 = true := smI_nat (by omega) (by omega)
@[simp] theorem smI_1 : smI 1 = true := smI_nat (by omega) (by omega)
@[simp] theorem smI_2 : smI 2 = true := smI_nat (by omega) (by omega)
@[simp] theorem smI_3 : smI 3 = true := smI_nat (by omega) (by omega)
@[simp] theorem smI_4 : smI 4 = true := smI_nat (by omega) (by omega)
@[simp] theorem smI_5 : smI 5 = true := smI_nat (by omega) (by omega)
@[simp] theorem smI_6 : smI 6 = true := smI_nat (by omega) (by omega)
@[simp] theorem smI_7 : smI 7 = true := smI_nat (by omega) (by omega)
@[simp] theorem smI_8 : smI 8 = true := smI_nat (by omega) (by omega)
@[simp] theorem smI_9 : smI 9 = true := smI_nat (by omega) (by omega)
@[simp] theorem smI_10 : smI 10 = true := smI_nat (by omega) (by omega)
@[simp] theorem smI_11 : smI 11 = true := smI_nat (by omega) (by omega)
@[simp] theorem smI_12 : smI 12 = true := smI_nat (by omega) (by omega)
@[simp] theorem smI_13 : smI 13 = true := smI_nat (by omega) (by omega)
@[simp] theorem smI_14 : smI 14 = true := smI_nat (by omega) (by omega)
@[simp] theorem smI_15 : smI 15 = true := smI_nat (by omega) (by omega)
@[simp] theorem smI_16 : smI 16 = true := smI_nat (by omega) (by omega)
@[simp] theorem smI_17 : smI 17 = true := smI_nat (by omega) (by omega)
@[simp] theorem smI_18 : smI 18 = true := smI_nat (by omega) (by omega)
@[simp] theorem smI_19 : smI 19 = true := smI_nat (by omega) (by omega)
@[simp] theorem smI_20 : smI 20 = true := smI_nat (by omega) (by omega)
@[simp] theorem smI_21 : smI 21 = true := smI_nat (by omega) (by omega)
@[simp] theorem smI_22 : smI 22 = true := smI_nat (by omega) (by omega)
@[simp] theorem smI_23 : smI 23 = true := smI_nat (by omega) (by omega)
@[simp] theorem smI_24 : smI 24 = true := smI_nat (by omega) (by omega)
@[simp] theorem smI_25 : smI 25 = true := smI_nat (by omega) (by omega)
@[simp] theorem smI_26 : smI 26 = true := smI_nat (by omega) (by omega)
@[simp] theorem smI_27 : smI 27 = true := smI_nat (by omega) (by omega)
@[simp] theorem smI_28 : smI 28 = true := smI_nat (by omega) (by omega)
@[simp] theorem smI_29 : smI 29 = true := smI_nat (by omega) (by omega)
@[simp] theorem smI_30 : smI 30 = true := smI_nat (by omega) (by omega)
@[simp] theorem smI_31 : smI 31 = true := smI_nat (by omega) (by omega)
@[simp] theorem smI_32 : smI 32 = true := smI_nat (by omega) (by omega)
@[simp] theorem smI_33 : smI 33 = true := smI_nat (by omega) (by omega)
@[simp] theorem smI_34 : smI 34 = true := smI_nat (by omega) (by omega)
@[simp] theorem smI_35 : smI 35 = true := smI_nat (by omega) (by omega)
@[simp] theorem smI_36 : smI 36 = true := smI_nat (by omega) (by omega)
@[simp] theorem smI_37 : smI 37 = true := smI_nat (by omega) (by omega)
@[simp] theorem smI_38 : smI 38 = true := smI_nat (by omega) (by omega)
@[simp] theorem smI_39 : smI 39 = true := smI_nat (by omega) (by omega)
@[simp] theorem smI_40 : smI 40 = true := smI_nat (by omega) (by omega)
@[simp] theorem smI_41 : smI 41 = true := smI_nat (by omega) (by omega)
@[simp] theorem smI_42 : smI 42 = true := smI_nat (by omega) (by omega)
@[simp] theorem smI_43 : smI 43 = true := smI_nat (by omega) (by omega)
@[simp] theorem smI_44 : smI 44 = true := smI_nat (by omega) (by omega)
@[simp] theorem smI_45 : smI 45 = true := smI_nat (by omega) (by omega)
@[simp] theorem smI_46 : smI 46 = true := smI_nat (by omega) (by omega)
@[simp] theorem smI_47 : smI 47 = true := smI_nat (by omega) (by omega)
@[simp] theorem smI_48 : smI 48 = true := smI_nat (by omega) (by omega)
@[simp] theorem smI_49 : smI 49 = true := smI_nat (by omega) (by omega)
@[simp] theorem smI_50 : smI 50 = true := smI_nat (by omega) (by omega)
@[simp] theorem smI_51 : smI 51 = true := smI_nat (by omega) (by omega)
@[simp] theorem smI_52 : smI 52 = true := smI_nat (by omega) (by omega)
@[simp] theorem smI_53 : smI 53 = true := smI_nat (by omega) (by omega)
@[simp] theorem smI_54 : smI 54 = true := smI_nat (by omega) (by omega)
@[simp] theorem smI_55 : smI 55 = true := smI_nat (by omega) (by omega)
@[simp] theorem smI_56 : smI 56 = true := smI_nat (by omega) (by omega)
@[simp] theorem smI_57 : smI 57 = true := smI_nat (by omega) (by omega)
@[simp] theorem smI_58 : smI 58 = true := smI_nat (by omega) (by omega)
@[simp] theorem smI_59 : smI 59 = true := smI_nat (by omega) (by omega)
@[simp] theorem smI_60 : smI 60 = true := smI_nat (by omega) (by omega)
@[simp] theorem smI_61 : smI 61 = true := smI_nat (by omega) (by omega)
@[simp] theorem smI_62 : smI 62 = true := smI_nat (by omega) (by omega)
@[simp] theorem smI_63 : smI 63 = true := smI_nat (by omega) (by omega)
@[simp] theorem smI_64 : smI 64 = true := smI_nat (by omega) (by omega)
@[simp] theorem smI_100 : smI 100 = true := smI_nat (by omega) (by omega)
@[simp] theorem smI_120 : smI 120 = true := smI_nat (by omega) (by omega)
@[simp] theorem smI_200 : smI 200 = true := smI_nat (by omega) (by omega)
@[simp] theorem smI_300 : smI 300 = true := smI_nat (by omega) (by omega)
@[simp] theorem smI_400 : smI 400 = true := smI_nat (by omega) (by omega)
noncomputable def iR1f : List Ev → Ve → Res (List D)
  | [.dat (.int j)], e => if smI j = true then .ok (rangeL 0 j.toNat) e else .no
  | _, _ => .no
theorem iR1_eq (m : AM) : iR1 m = fun env => (m env).bind iR1f := by
  funext env
  unfold iR1
  congr 1
  funext xs e
  unfold iR1f
  split
  · simp only [smI_iff]
    split <;> first | rfl | (rename_i hh; first | rw [if_pos hh] | rw [if_neg hh])
  · rename_i hno
    split
    · exact (hno _ rfl).elim
    · rfl
noncomputable def iR2f : List Ev → Ve → Res (List D)
  | [.dat (.int i), .dat (.int j)], e => if smI i = true ∧ smI j = true then .ok (rangeL i (j - i).toNat) e else .no
  | _, _ => .no
theorem iR2_eq (m : AM) : iR2 m = fun env => (m env).bind iR2f := by
  funext env
  unfold iR2
  congr 1
  funext xs e
  unfold iR2f
  split
  · simp only [smI_iff, and_assoc]
    split <;> first | rfl | (rename_i hh; first | rw [if_pos hh] | rw [if_neg hh])
  · rename_i hno
    split
    · exact (hno _ _ rfl).elim
    · rfl
noncomputable def iR3f : List Ev → Ve → Res (List D)
  | [.dat (.int i), .dat (.int j), .dat (.int c)], e => if c = -1 ∧ smI i = true ∧ smI j = true then .ok (rangeC i (-1) (i - j).toNat) e else .no
  | _, _ => .no
theorem iR3_eq (m : AM) : iR3 m = fun env => (m env).bind iR3f := by
  funext env
  unfold iR3
  congr 1
  funext xs e
  unfold iR3f
  split
  · simp only [smI_iff, and_assoc]
    split <;> first | rfl | (rename_i hh; first | rw [if_pos hh] | rw [if_neg hh])
  · rename_i hno
    split
    · exact (hno _ _ _ rfl).elim
    · rfl
/-! equality -/
theorem eqOk_mi (w : List Int) : eqOk (.lst (mi w)) = true := by
  have h1 : ∀ w : List Int, D.nos.go (mi w) = true := by
    intro w
    induction w with
    | nil => rfl
    | cons i w ih => exact ih
  have h2 : ∀ w : List Int, PyData.canLayAll0 (D.py.pys (mi w)) = true := by
    intro w
    induction w with
    | nil => simp [mi, D.py.pys, PyData.canLayAll0]
    | cons i w ih => simpa [mi, D.py.pys, PyData.canLayAll0, D.py, PyData.canLay0] using ih
  have h3 : ∀ w : List Int, PyData.depthAll (D.py.pys (mi w)) = 0 := by
    intro w
    induction w with
    | nil => simp [mi, D.py.pys, PyData.depthAll]
    | cons i w ih => simpa [mi, D.py.pys, PyData.depthAll, D.py, PyData.depth] using ih
  simp [eqOk, D.nos, SeqAt.shaped, D.py, PyData.canLay0, PyData.depth, h1, h2, h3]
theorem eqvAll_mi : ∀ a b : List Int, PyData.eqvAll (D.py.pys (mi a)) (D.py.pys (mi b)) = decide (a = b)
  | [], [] => by simp [mi, D.py.pys, PyData.eqvAll]
  | [], y :: b => by simp [mi, D.py.pys, PyData.eqvAll]
  | x :: a, [] => by simp [mi, D.py.pys, PyData.eqvAll]
  | x :: a, y :: b => by
    have ih := eqvAll_mi a b
    simp only [mi, List.map_cons, D.py.pys, PyData.eqvAll, D.py, PyData.eqv] at ih ⊢
    rw [ih]
    by_cases h1 : x = y <;> by_cases h2 : a = b <;> simp [h1, h2]
theorem eqB_mi (a b : List Int) : eqB (.lst (mi a)) (.lst (mi b)) = decide (a = b) := by
  simp only [eqB, D.py, PyData.eqv]
  exact eqvAll_mi a b
@[simp] theorem eqD_mi (a b : List Int) : eqD (.lst (mi a)) (.lst (mi b)) = some (.dat (.bl (decide (a = b)))) := by unfold eqD; rw [eqOk_mi, eqOk_mi, eqB_mi]; rfl
@[simp] theorem neD_mi (a b : List Int) : neD (.lst (mi a)) (.lst (mi b)) = some (.dat (.bl (!decide (a = b)))) := by unfold neD; rw [eqOk_mi, eqOk_mi, eqB_mi]; rfl
theorem eqOk_bl (b : Bool) : eqOk (.bl b) = true := by simp [eqOk, D.nos, SeqAt.shaped, D.py, PyData.canLay0, PyData.depth]
@[simp] theorem eqD_bl (a b : Bool) : eqD (.bl a) (.bl b) = some (.dat (.bl (a == b))) := by
  unfold eqD; rw [eqOk_bl, eqOk_bl]; simp only [eqB, D.py, PyData.eqv]; rfl
@[simp] theorem ne_int_non (i : Int) : isD (.int i) .non = some (.dat (.bl false)) := rfl
@[simp] theorem isN_int (i : Int) : D.isN (.int i) = false := rfl
@[simp] theorem isN_bl (i : Bool) : D.isN (.bl i) = false := rfl
@[simp] theorem isN_lst (i : List D) : D.isN (.lst i) = false := rfl
@[simp] theorem isN_tup (i : List D) : D.isN (.tup i) = false := rfl
@[simp] theorem isN_str (i : Str) : D.isN (.str i) = false := rfl
@[simp] theorem isN_non : D.isN .non = true := rfl
/-! isinstance -/
@[simp] theorem isi_bool_non  : isiD "bool" .non = some false := by rfl
@[simp] theorem isi_bool_bl (b : Bool) : isiD "bool" (.bl b) = some true := by rfl
@[simp] theorem isi_bool_int (b : Int) : isiD "bool" (.int b) = some false := by rfl
@[simp] theorem isi_bool_str (b : Str) : isiD "bool" (.str b) = some false := by rfl
@[simp] theorem isi_bool_lst (b : List D) : isiD "bool" (.lst b) = some false := by rfl
@[simp] theorem isi_bool_tup (b : List D) : isiD "bool" (.tup b) = some false := by rfl
@[simp] theorem isi_int_non  : isiD "int" .non = some false := by rfl
@[simp] theorem isi_int_bl (b : Bool) : isiD "int" (.bl b) = some true := by rfl
@[simp] theorem isi_int_int (b : Int) : isiD "int" (.int b) = some true := by rfl
@[simp] theorem isi_int_str (b : Str) : isiD "int" (.str b) = some false := by rfl
@[simp] theorem isi_int_lst (b : List D) : isiD "int" (.lst b) = some false := by rfl
@[simp] theorem isi_int_tup (b : List D) : isiD "int" (.tup b) = some false := by rfl
@[simp] theorem isi_str_non  : isiD "str" .non = some false := by rfl
@[simp] theorem isi_str_bl (b : Bool) : isiD "str" (.bl b) = some false := by rfl
@[simp] theorem isi_str_int (b : Int) : isiD "str" (.int b) = some false := by rfl
@[simp] theorem isi_str_str (b : Str) : isiD "str" (.str b) = some true := by rfl
@[simp] theorem isi_str_lst (b : List D) : isiD "str" (.lst b) = some false := by rfl
@[simp] theorem isi_str_tup (b : List D) : isiD "str" (.tup b) = some false := by rfl
@[simp] theorem isi_list_non  : isiD "list" .non = some false := by rfl
@[simp] theorem isi_list_bl (b : Bool) : isiD "list" (.bl b) = some false := by rfl
@[simp] theorem isi_list_int (b : Int) : isiD "list" (.int b) = some false := by rfl
@[simp] theorem isi_list_str (b : Str) : isiD "list" (.str b) = some false := by rfl
@[simp] theorem isi_list_lst (b : List D) : isiD "list" (.lst b) = some true := by rfl
@[simp] theorem isi_list_tup (b : List D) : isiD "list" (.tup b) = some false := by rfl
@[simp] theorem isi_tuple_non  : isiD "tuple" .non = some false := by rfl
@[simp] theorem isi_tuple_bl (b : Bool) : isiD "tuple" (.bl b) = some false := by rfl
@[simp] theorem isi_tuple_int (b : Int) : isiD "tuple" (.int b) = some false := by rfl
@[simp] theorem isi_tuple_str (b : Str) : isiD "tuple" (.str b) = some false := by rfl
@[simp] theorem isi_tuple_lst (b : List D) : isiD "tuple" (.lst b) = some false := by rfl
@[simp] theorem isi_tuple_tup (b : List D) : isiD "tuple" (.tup b) = some true := by rfl
/-! comprehensions -/
theorem comp_mi {own : List Nat} {gm : GM} {tm : TM} {em : EM} {env : Ve} {p : Int → Bool} {f : Int → Int} (hf : freeV own env = true) : ∀ {w : List Int} {acc : List Int}, acc.length + w.length ≤ lim →
    (∀ i ∈ w, ∃ e2, gm (.int i) (wipeV own env) = some e2 ∧ ∃ e3, tm e2 = .ok (p i) e3 ∧
      (p i = true → ∃ e4, hold true (em e3) = .ok (.dat (.int (f i))) e4 ∧ freeV own e4 = true ∧ e4.length = env.length ∧ restV own env e4 = env) ∧
      (p i = false → freeV own e3 = true ∧ e3.length = env.length ∧ restV own env e3 = env)) →
    compL own gm tm em (mi w) env (mi acc) = .ok (.new (.lst (mi (acc ++ (w.filter p).map f)))) env
  | [], acc, _, _ => by simp [mi, compL]
  | i :: w, acc, hl, h => by
    obtain ⟨e2, h1, e3, h2, h3, h4⟩ := h i List.mem_cons_self
    have ih := fun a ha => comp_mi (own := own) (gm := gm) (tm := tm) (em := em) (p := p) (f := f) hf (w := w) (acc := a) ha fun j hj => h j (List.mem_cons_of_mem _ hj)
    simp only [List.length_cons] at hl
    show compL own gm tm em (D.int i :: mi w) env (mi acc) = _
    unfold compL
    rw [if_pos hf]
    simp only [h1, h2]
    cases hp : p i with
    | true =>
      obtain ⟨e4, k1, k2, k3, k4⟩ := h3 hp
      rw [List.filter_cons_of_pos hp]
      simp only [k1]
      rw [if_pos ⟨by simp only [mi_length]; simp only [lim] at hl ⊢; omega, k2, k3⟩, k4, mi_app1, ih (acc ++ [f i]) (by simp only [List.length_append, List.length_singleton]; omega)]
      simp
    | false =>
      obtain ⟨k2, k3, k4⟩ := h4 hp
      rw [List.filter_cons_of_neg (by simp [hp])]
      simp only []
      rw [if_pos ⟨k2, k3⟩, k4, ih acc (by omega)]
theorem comp_map {own : List Nat} {gm : GM} {em : EM} {env : Ve} (f : Int → Int) {w : List Int} (hf : freeV own env = true) (hl : w.length ≤ lim)
    (h : ∀ i ∈ w, ∃ e2, gm (.int i) (wipeV own env) = some e2 ∧ ∃ e4, hold true (em e2) = .ok (.dat (.int (f i))) e4 ∧ freeV own e4 = true ∧ e4.length = env.length ∧ restV own env e4 = env) :
    compL own gm tYesM em (mi w) env [] = .ok (.new (.lst (mi (w.map f)))) env := by
  have := comp_mi (own := own) (gm := gm) (tm := tYesM) (em := em) (p := fun _ => true) (f := f) hf (w := w) (acc := []) (by simpa using hl) (fun i hi => by
    obtain ⟨e2, h1, e4, h2⟩ := h i hi
    exact ⟨e2, h1, e2, rfl, fun _ => ⟨e4, h2⟩, fun h => nomatch h⟩)
  have hfl : w.filter (fun _ => true) = w := List.filter_eq_self.2 fun _ _ => rfl
  rw [hfl] at this
  rw [List.nil_append] at this
  exact this
theorem comp_flt {own : List Nat} {gm : GM} {tm : TM} {em : EM} {env : Ve} (p : Int → Bool) {w : List Int} (hf : freeV own env = true) (hl : w.length ≤ lim)
    (h : ∀ i ∈ w, ∃ e2, gm (.int i) (wipeV own env) = some e2 ∧ tm e2 = .ok (p i) e2 ∧ hold true (em e2) = .ok (.dat (.int i)) e2 ∧ freeV own e2 = true ∧ e2.length = env.length ∧ restV own env e2 = env) :
    compL own gm tm em (mi w) env [] = .ok (.new (.lst (mi (w.filter p)))) env := by
  have := comp_mi (own := own) (gm := gm) (tm := tm) (em := em) (p := p) (f := fun x => x) hf (w := w) (acc := []) (by simpa using hl) (fun i hi => by
    obtain ⟨e2, h1, h2, h3, h4⟩ := h i hi
    exact ⟨e2, h1, e2, h2, fun _ => ⟨e2, h3, h4⟩, fun _ => h4⟩)
  rw [List.nil_append, List.map_id'' (fun _ => rfl)] at this
  exact this
/-- bools as items -/
def mb (w : List Bool) : List D := w.map D.bl
@[simp] theorem mb_length (w : List Bool) : (mb w).length = w.length := by simp [mb]
@[simp] theorem boolsOf_mb : ∀ w : List Bool, boolsOf (mb w) = some w
  | [] => rfl
  | i :: w => by
    show (boolsOf (mb w)).map (i :: ·) = _
    rw [boolsOf_mb w]; rfl
theorem comp_gen {own : List Nat} {gm : GM} {em : EM} {env : Ve} (f : D → D) (hf : freeV own env = true) : ∀ {w : List D} {acc : List D}, acc.length + w.length ≤ lim →
    (∀ i ∈ w, ∃ e2, gm i (wipeV own env) = some e2 ∧ ∃ e4, hold true (em e2) = .ok (.dat (f i)) e4 ∧ freeV own e4 = true ∧ e4.length = env.length ∧ restV own env e4 = env) →
    compL own gm tYesM em w env acc = .ok (.new (.lst (acc ++ w.map f))) env
  | [], acc, _, _ => by simp [compL]
  | i :: w, acc, hl, h => by
    obtain ⟨e2, h1, e4, k1, k2, k3, k4⟩ := h i List.mem_cons_self
    have ih := fun a ha => comp_gen (own := own) (gm := gm) (em := em) f hf (w := w) (acc := a) ha fun j hj => h j (List.mem_cons_of_mem _ hj)
    simp only [List.length_cons] at hl
    unfold compL
    rw [if_pos hf]
    simp only [h1, tYesM, k1]
    rw [if_pos ⟨by simp only [lim] at hl ⊢; omega, k2, k3⟩, k4]
    have := ih (acc ++ [f i]) (by simp only [List.length_append, List.length_singleton]; omega)
    rw [this]
    simp
/-- what a comprehension keeps -/
theorem comp_inv {own : List Nat} {gm : GM} {em : EM} {I : Ve → Prop} {P : Int → Prop} : ∀ {w : List D} {e : Ve} {acc : List Int}, I e → acc.length + w.length ≤ lim →
    (∀ i ∈ w, ∀ e, I e → freeV own e = true ∧ ∃ e2, gm i (wipeV own e) = some e2 ∧ ∃ v e4, hold true (em e2) = .ok (.dat (.int v)) e4 ∧ P v ∧ freeV own e4 = true ∧ e4.length = e.length ∧ I (restV own e e4)) →
    ∃ v e', compL own gm tYesM em w e (mi acc) = .ok (.new (.lst (mi (acc ++ v)))) e' ∧ I e' ∧ v.length = w.length ∧ ∀ x ∈ v, P x
  | [], e, acc, hI, _, _ => ⟨[], e, by simp [compL], hI, rfl, by simp⟩
  | i :: w, e, acc, hI, hl, h => by
    obtain ⟨hf, e2, h1, v, e4, k1, k5, k2, k3, k4⟩ := h i List.mem_cons_self e hI
    simp only [List.length_cons] at hl
    obtain ⟨vs, e', h2, h3, h4, h5⟩ := comp_inv (own := own) (gm := gm) (em := em) (P := P) (w := w) (acc := acc ++ [v]) k4 (by simp only [List.length_append, List.length_singleton]; omega) fun j hj => h j (List.mem_cons_of_mem _ hj)
    refine ⟨v :: vs, e', ?_, h3, by simp [h4], ?_⟩
    · unfold compL
      rw [if_pos hf]
      simp only [h1, tYesM, k1]
      rw [if_pos ⟨by simp only [mi_length]; simp only [lim] at hl ⊢; omega, k2, k3⟩]
      rw [mi_app1]
      rw [h2]
      simp
    · intro x hx
      rcases List.mem_cons.1 hx with rfl | hx
      · exact k5
      · exact h5 x hx
/-! calls -/
def chk (fixed : List Nat) : Nat → List S → Bool
  | _, [] => true
  | i, .own _ :: r => fixed.contains i && chk fixed (i + 1) r
  | i, _ :: r => chk fixed (i + 1) r
theorem chk_get {fixed : List Nat} : ∀ {as : List S} {i : Nat}, chk fixed i as = true → ∀ j, isOwn (as.getD j .un) = true → i + j ∈ fixed
  | [], i, _, j, h => by simp [isOwn] at h
  | .own t :: r, i, k, j, h => by
    simp only [chk, Bool.and_eq_true, List.contains_iff_mem] at k
    cases j with
    | zero => exact k.1
    | succ j => have := chk_get k.2 j (by simpa using h); rwa [Nat.add_assoc, Nat.add_comm 1 j] at this
  | .un :: r, i, k, j, h => by
    cases j with
    | zero => simp [isOwn] at h
    | succ j => have := chk_get (as := r) (i := i + 1) k j (by simpa using h); rwa [Nat.add_assoc, Nat.add_comm 1 j] at this
  | .dat _ :: r, i, k, j, h => by
    cases j with
    | zero => simp [isOwn] at h
    | succ j => have := chk_get (as := r) (i := i + 1) k j (by simpa using h); rwa [Nat.add_assoc, Nat.add_comm 1 j] at this
  | .al _ _ :: r, i, k, j, h => by
    cases j with
    | zero => simp [isOwn] at h
    | succ j => have := chk_get (as := r) (i := i + 1) k j (by simpa using h); rwa [Nat.add_assoc, Nat.add_comm 1 j] at this
theorem runF_eq {N np : Nat} {fixed : List Nat} {m : SM} {as : List S} (hl : as.length = np) (hc : chk fixed 0 as = true) : runF N np fixed m as = match m (as ++ List.replicate (N - np) .un) with
  | .nx e => finF as (.dat .non) e
  | .rt r e => finF as r e
  | .ex x e => match backs as e with
    | some bs => .ex x bs
    | none => .no
  | _ => .no := by
  unfold runF
  refine (if_pos ⟨hl, fun i hi h => by simpa using chk_get hc i h⟩).trans ?_
  cases m (as ++ List.replicate (N - np) .un) <;> rfl
/-! a block, statement by statement -/
theorem sSeq_nx {a b : SM} {e : Ve} (e' : Ve) (h : a e = .nx e') : sSeq a b e = b e' := by unfold sSeq; rw [h]; rfl
theorem sSeq_rt {a b : SM} {e : Ve} {r : Ev} {e' : Ve} (h : a e = .rt r e') : sSeq a b e = .rt r e' := by unfold sSeq; rw [h]; rfl
theorem runF_rt {N np : Nat} {fixed : List Nat} {m : SM} {as : List S} {r : Ev} {e : Ve} (hl : as.length = np) (hc : chk fixed 0 as = true) (h : m (as ++ List.replicate (N - np) .un) = .rt r e) : runF N np fixed m as = finF as r e := by
  rw [runF_eq hl hc, h]
/-! loops -/
def stp (gm : GM) (body : SM) (d : D) (e : Ve) : Out := match gm d e with
  | none => .no
  | some e1 => body e1
theorem forL_stp (gm : GM) (body : SM) (d : D) (ds : List D) (e : Ve) : forL gm body (d :: ds) e = match stp gm body d e with
  | .nx e2 => forL gm body ds e2
  | .ct e2 => forL gm body ds e2
  | .bk e2 => .nx e2
  | .rt r e2 => .rt r e2
  | .ex x e2 => .ex x e2
  | .no => .no := by
  unfold stp
  simp only [forL]
  cases gm d e <;> rfl
theorem forL_st {α : Type} (En : α → Ve) (G : Nat → α → Prop) {gm : GM} {body : SM} : ∀ {ds : List D} {i : Nat} {a : α}, G i a →
    (∀ k a, i ≤ k → k < i + ds.length → ∀ d ∈ ds, G k a → ∃ a', (stp gm body d (En a) = .nx (En a') ∨ stp gm body d (En a) = .ct (En a')) ∧ G (k + 1) a') →
    ∃ a', forL gm body ds (En a) = .nx (En a') ∧ G (i + ds.length) a'
  | [], i, a, h, _ => ⟨a, rfl, h⟩
  | d :: ds, i, a, h, k => by
    obtain ⟨a1, h1, h2⟩ := k i a (by omega) (by simp) d List.mem_cons_self h
    obtain ⟨a', h3, h4⟩ := forL_st En G (ds := ds) h2 fun j a hj hj2 d hd => k j a (by omega) (by simp only [List.length_cons]; omega) d (List.mem_cons_of_mem _ hd)
    refine ⟨a', ?_, by simpa [Nat.add_comm, Nat.add_left_comm] using h4⟩
    rw [forL_stp]
    rcases h1 with h1 | h1 <;> rw [h1] <;> exact h3
theorem forL_stb {α : Type} (En : α → Ve) (G : Nat → α → Prop) (J : α → Prop) {gm : GM} {body : SM} : ∀ {ds : List D} {i : Nat} {a : α}, G i a →
    (∀ k a, i ≤ k → k < i + ds.length → ∀ d ∈ ds, G k a → ∃ a', ((stp gm body d (En a) = .nx (En a') ∨ stp gm body d (En a) = .ct (En a')) ∧ G (k + 1) a') ∨ (stp gm body d (En a) = .bk (En a') ∧ J a')) →
    ∃ a', forL gm body ds (En a) = .nx (En a') ∧ (G (i + ds.length) a' ∨ J a')
  | [], i, a, h, _ => ⟨a, rfl, .inl h⟩
  | d :: ds, i, a, h, k => by
    obtain ⟨a1, hh⟩ := k i a (by omega) (by simp) d List.mem_cons_self h
    rcases hh with ⟨h1, h2⟩ | ⟨h1, h2⟩
    · obtain ⟨a', h3, h4⟩ := forL_stb En G J (ds := ds) h2 fun j a hj hj2 d hd => k j a (by omega) (by simp only [List.length_cons]; omega) d (List.mem_cons_of_mem _ hd)
      refine ⟨a', ?_, by simpa [Nat.add_comm, Nat.add_left_comm] using h4⟩
      rw [forL_stp]
      rcases h1 with h1 | h1 <;> rw [h1] <;> exact h3
    · exact ⟨a1, by rw [forL_stp, h1], .inr h2⟩
theorem forL_str {α : Type} (En : α → Ve) (G : Nat → α → Prop) (R : Ev → Ve → Prop) {gm : GM} {body : SM} : ∀ {ds : List D} {i : Nat} {a : α}, G i a →
    (∀ k a, i ≤ k → k < i + ds.length → ∀ d ∈ ds, G k a → (∃ a', (stp gm body d (En a) = .nx (En a') ∨ stp gm body d (En a) = .ct (En a')) ∧ G (k + 1) a') ∨ ∃ r e, stp gm body d (En a) = .rt r e ∧ R r e) →
    (∃ a', forL gm body ds (En a) = .nx (En a') ∧ G (i + ds.length) a') ∨ ∃ r e, forL gm body ds (En a) = .rt r e ∧ R r e
  | [], i, a, h, _ => .inl ⟨a, rfl, h⟩
  | d :: ds, i, a, h, k => by
    have hh := k i a (by omega) (by simp) d List.mem_cons_self h
    rcases hh with ⟨a1, h1, h2⟩ | ⟨r, e, h1, h2⟩
    · have ih := forL_str En G R (ds := ds) h2 fun j a hj hj2 d hd => k j a (by omega) (by simp only [List.length_cons]; omega) d (List.mem_cons_of_mem _ hd)
      have he : forL gm body (d :: ds) (En a) = forL gm body ds (En a1) := by
        rw [forL_stp]
        rcases h1 with h1 | h1 <;> rw [h1]
      rw [he]
      rcases ih with ⟨a', h3, h4⟩ | h3
      · exact .inl ⟨a', h3, by simpa [Nat.add_comm, Nat.add_left_comm] using h4⟩
      · exact .inr h3
    · exact .inr ⟨r, e, by rw [forL_stp, h1], h2⟩
theorem forL_rt {gm : GM} {body : SM} {I : Ve → Prop} {R : Ev → Ve → Prop} : ∀ {ds : List D} {e : Ve}, I e → (∀ d ∈ ds, ∀ e, I e → ∃ e1, gm d e = some e1 ∧ ((∃ e2, (body e1 = .nx e2 ∨ body e1 = .ct e2) ∧ I e2) ∨ ∃ r e2, body e1 = .rt r e2 ∧ R r e2)) → (∃ e', forL gm body ds e = .nx e' ∧ I e') ∨ ∃ r e', forL gm body ds e = .rt r e' ∧ R r e'
  | [], e, h, _ => .inl ⟨e, rfl, h⟩
  | d :: ds, e, h, k => by
    obtain ⟨e1, h1, h2⟩ := k d (List.mem_cons_self) e h
    rcases h2 with ⟨e2, h2, h3⟩ | ⟨r, e2, h2, h3⟩
    · have ih := forL_rt (ds := ds) h3 fun d' hd => k d' (List.mem_cons_of_mem _ hd)
      rcases h2 with h2 | h2
      · simpa only [forL, h1, h2] using ih
      · simpa only [forL, h1, h2] using ih
    · exact .inr ⟨r, e2, by simp only [forL, h1, h2], h3⟩
/-- a loop as a fold over the items -/
theorem forL_fold {α : Type} {gm : GM} {body : SM} (En : α → Ve → Prop) (st : α → Int → α) : ∀ {w : List Int} {a : α} {e : Ve}, En a e → (∀ i ∈ w, ∀ a e, En a e → ∃ e1, gm (.int i) e = some e1 ∧ ∃ e2, (body e1 = .nx e2 ∨ body e1 = .ct e2) ∧ En (st a i) e2) → ∃ e', forL gm body (mi w) e = .nx e' ∧ En (w.foldl st a) e'
  | [], a, e, h, _ => ⟨e, rfl, h⟩
  | i :: w, a, e, h, k => by
    obtain ⟨e1, h1, e2, h2, h3⟩ := k i List.mem_cons_self a e h
    obtain ⟨e', h4, h5⟩ := forL_fold En st (w := w) h3 fun j hj => k j (List.mem_cons_of_mem _ hj)
    refine ⟨e', ?_, h5⟩
    show forL gm body (D.int i :: mi w) e = _
    rcases h2 with h2 | h2
    · simp only [forL, h1, h2, h4]
    · simp only [forL, h1, h2, h4]
end DL
namespace DL
open PySem L2
/-! comprehensions with two fors, walks over owned lists -/
theorem compI_mi {own : List Nat} {gm : GM} {tm : TM} {em : EM} {env : Ve} {p : Int → Bool} {f : Int → Int} (hf : freeV own env = true) : ∀ {w : List Int} {acc : List Int}, acc.length + w.length ≤ lim →
    (∀ i ∈ w, ∃ e2, gm (.int i) (wipeV own env) = some e2 ∧ ∃ e3, tm e2 = .ok (p i) e3 ∧
      (p i = true → ∃ e4, hold true (em e3) = .ok (.dat (.int (f i))) e4 ∧ freeV own e4 = true ∧ e4.length = env.length ∧ restV own env e4 = env) ∧
      (p i = false → freeV own e3 = true ∧ e3.length = env.length ∧ restV own env e3 = env)) →
    compI own gm tm em (mi w) env (mi acc) = some (env, mi (acc ++ (w.filter p).map f))
  | [], acc, _, _ => by simp [mi, compI]
  | i :: w, acc, hl, h => by
    obtain ⟨e2, h1, e3, h2, h3, h4⟩ := h i List.mem_cons_self
    have ih := fun a ha => compI_mi (own := own) (gm := gm) (tm := tm) (em := em) (p := p) (f := f) hf (w := w) (acc := a) ha fun j hj => h j (List.mem_cons_of_mem _ hj)
    simp only [List.length_cons] at hl
    show compI own gm tm em (D.int i :: mi w) env (mi acc) = _
    unfold compI
    rw [if_pos hf]
    simp only [h1, h2]
    cases hp : p i with
    | true =>
      obtain ⟨e4, k1, k2, k3, k4⟩ := h3 hp
      rw [List.filter_cons_of_pos hp]
      simp only [k1]
      rw [if_pos ⟨by simp only [mi_length]; simp only [lim] at hl ⊢; omega, k2, k3⟩, k4, mi_app1, ih (acc ++ [f i]) (by simp only [List.length_append, List.length_singleton]; omega)]
      simp
    | false =>
      obtain ⟨k2, k3, k4⟩ := h4 hp
      rw [List.filter_cons_of_neg (by simp [hp])]
      simp only []
      rw [if_pos ⟨k2, k3⟩, k4, ih acc (by omega)]
theorem comp2_mi {own own1 : List Nat} {gm gm1 : GM} {tm tm1 : TM} {im1 : IM} {em : EM} {env : Ve} (r : Int → List Int) (hf : freeV own env = true) : ∀ {w : List Int} {acc : List Int},
    (∀ i ∈ w, ∀ acc : List Int, ∃ e2, gm (.int i) (wipeV own env) = some e2 ∧ ∃ e3, tm e2 = .ok true e3 ∧ ∃ ds e4 e5, im1 e3 = .ok ds e4 ∧ (acc.length + 1000 ≤ lim → compI own1 gm1 tm1 em ds e4 (mi acc) = some (e5, mi (acc ++ r i))) ∧ freeV own e5 = true ∧ e5.length = env.length ∧ restV own env e5 = env ∧ (r i).length ≤ 1000) →
    acc.length + w.length * 1000 ≤ lim →
    compL2 own own1 gm tm im1 gm1 tm1 em (mi w) env (mi acc) = .ok (.new (.lst (mi (acc ++ (w.map r).flatten)))) env
  | [], acc, _, _ => by simp [mi, compL2]
  | i :: w, acc, h, hl => by
    obtain ⟨e2, h1, e3, h2, ds, e4, e5, h3, h4, h5, h6, h7, h8⟩ := h i List.mem_cons_self acc
    simp only [List.length_cons] at hl
    have ih := comp2_mi (own := own) (own1 := own1) (gm := gm) (gm1 := gm1) (tm := tm) (tm1 := tm1) (im1 := im1) (em := em) r hf (w := w) (acc := acc ++ r i) (fun j hj => h j (List.mem_cons_of_mem _ hj)) (by simp only [List.length_append]; omega)
    show compL2 own own1 gm tm im1 gm1 tm1 em (D.int i :: mi w) env (mi acc) = _
    unfold compL2
    rw [if_pos hf]
    simp only [h1, h2, h3, h4 (by omega)]
    rw [if_pos ⟨h5, h6⟩, h7, ih]
    simp
/-- a walk over an owned list that stays -/
theorem compN_eq {own : List Nat} {j : Nat} {gm : GM} {tm : TM} {em : EM} {env : Ve} {xs : List D} (hj : env[j]? = some (.own (.lst xs)))
    (h : ∀ d ∈ xs, ∀ e2 e3 b, gm d (wipeV own env) = some e2 → tm e2 = .ok b e3 → (b = false → restV own env e3 = env) ∧ (b = true → ∀ x e4, hold true (em e3) = .ok (.dat x) e4 → restV own env e4 = env)) :
    ∀ {k i : Nat} {acc : List D}, k + i = xs.length + 1 → i ≤ xs.length → compN own j gm tm em k i env acc = compL own gm tm em (xs.drop i) env acc
  | 0, i, acc, hk, hi => by omega
  | k + 1, i, acc, hk, hi => by
    unfold compN
    rw [hj]
    simp only
    by_cases hl : i < xs.length
    · have hd : xs[i]? = some xs[i] := List.getElem?_eq_getElem hl
      have hm : xs[i] ∈ xs := List.getElem_mem hl
      rw [hd, List.drop_eq_getElem_cons hl]
      unfold compL
      simp only
      have ih := fun a => compN_eq hj h (k := k) (i := i + 1) (acc := a) (by omega) (by omega)
      cases e1 : gm xs[i] (wipeV own env) with
      | none => rfl
      | some e2 =>
        simp only
        cases e3 : tm e2 with
        | no => rfl
        | ex x e => rfl
        | ok b e =>
          have hh := h _ hm e2 e b e1 e3
          cases b with
          | false => simp only [hh.1 rfl, ih]
          | true =>
            simp only
            cases e4 : hold true (em e) with
            | no => rfl
            | ex x e' => rfl
            | ok v e' =>
              cases v with
              | dat x => simp only [hh.2 rfl x e' e4, ih]
              | pl a b => rfl
              | new t => rfl
    · have hd : xs[i]? = none := List.getElem?_eq_none (by omega)
      rw [hd, List.drop_eq_nil_of_le (by omega)]
      simp [compL]
theorem eCompN_own {own : List Nat} {j : Nat} {gm : GM} {tm : TM} {em : EM} {env : Ve} {xs : List D} (hj : env[j]? = some (.own (.lst xs)))
    (h : ∀ d ∈ xs, ∀ e2 e3 b, gm d (wipeV own env) = some e2 → tm e2 = .ok b e3 → (b = false → restV own env e3 = env) ∧ (b = true → ∀ x e4, hold true (em e3) = .ok (.dat x) e4 → restV own env e4 = env)) :
    eCompN own j gm tm em env = compL own gm tm em xs env [] := by
  unfold eCompN
  rw [hj]
  exact compN_eq hj h (k := xs.length + 1) (i := 0) (by omega) (by omega)
theorem forN_eq {j : Nat} {gm : GM} {body : SM} {xs : List D} {I : Ve → Prop} (hI : ∀ e, I e → e[j]? = some (.own (.lst xs)))
    (h : ∀ d ∈ xs, ∀ e e1 e2, I e → gm d e = some e1 → (body e1 = .nx e2 ∨ body e1 = .ct e2) → I e2) :
    ∀ {k i : Nat} {e : Ve}, I e → k + i = xs.length + 1 → i ≤ xs.length → forN j gm body k i e = forL gm body (xs.drop i) e
  | 0, i, e, _, hk, hi => by omega
  | k + 1, i, e, he, hk, hi => by
    unfold forN
    rw [hI e he]
    simp only
    by_cases hl : i < xs.length
    · have hd : xs[i]? = some xs[i] := List.getElem?_eq_getElem hl
      have hm : xs[i] ∈ xs := List.getElem_mem hl
      rw [hd, List.drop_eq_getElem_cons hl]
      unfold forL
      simp only
      cases e1 : gm xs[i] e with
      | none => rfl
      | some e2 =>
        simp only
        cases eb : body e2 with
        | nx e3 => exact forN_eq hI h (h _ hm e e2 e3 he e1 (.inl eb)) (by omega) (by omega)
        | ct e3 => exact forN_eq hI h (h _ hm e e2 e3 he e1 (.inr eb)) (by omega) (by omega)
        | _ => rfl
    · have hd : xs[i]? = none := List.getElem?_eq_none (by omega)
      rw [hd, List.drop_eq_nil_of_le (by omega)]
      simp [forL]
theorem sForN_own {j : Nat} {gm : GM} {body : SM} {xs : List D} {e : Ve} (I : Ve → Prop) (hI : ∀ e, I e → e[j]? = some (.own (.lst xs)))
    (h : ∀ d ∈ xs, ∀ e e1 e2, I e → gm d e = some e1 → (body e1 = .nx e2 ∨ body e1 = .ct e2) → I e2) (he : I e) : sForN j gm body e = forL gm body xs e := by
  unfold sForN
  rw [hI e he]
  exact forN_eq hI h he (by omega) (by omega)
/-- the same, step by step with states -/
theorem sForN_st {α : Type} (En : α → Ve) (G : Nat → α → Prop) {j : Nat} {gm : GM} {body : SM} {xs : List D} (hj : ∀ a, (En a)[j]? = some (.own (.lst xs))) : ∀ {k i : Nat} {a : α}, G i a → k + i = xs.length + 1 → i ≤ xs.length →
    (∀ i a, i < xs.length → ∀ d, xs[i]? = some d → G i a → ∃ a', (stp gm body d (En a) = .nx (En a') ∨ stp gm body d (En a) = .ct (En a')) ∧ G (i + 1) a') →
    ∃ a', forN j gm body k i (En a) = .nx (En a') ∧ G xs.length a'
  | 0, i, a, _, hk, hi, _ => by omega
  | k + 1, i, a, g, hk, hi, h => by
    unfold forN
    rw [hj]
    simp only
    by_cases hl : i < xs.length
    · have hd : xs[i]? = some xs[i] := List.getElem?_eq_getElem hl
      obtain ⟨a1, h1, h2⟩ := h i a hl _ hd g
      obtain ⟨a', h3, h4⟩ := sForN_st En G (gm := gm) (body := body) hj (k := k) (i := i + 1) (a := a1) h2 (by omega) (by omega) h
      refine ⟨a', ?_, h4⟩
      rw [hd]
      simp only
      unfold stp at h1
      cases e1 : gm xs[i] (En a) with
      | none => rw [e1] at h1; rcases h1 with h1 | h1 <;> cases h1
      | some e2 =>
        rw [e1] at h1
        simp only at h1 ⊢
        rcases h1 with h1 | h1 <;> rw [h1] <;> exact h3
    · have hd : xs[i]? = none := List.getElem?_eq_none (by omega)
      rw [hd]
      have : i = xs.length := by omega
      subst this
      exact ⟨a, rfl, g⟩
theorem rg_cons (i : Int) (j : Nat) : rg i (j + 1) = i :: rg (i + 1) j := by
  unfold rg
  rw [List.range_succ_eq_map]
  simp only [List.map_cons, List.map_map]
  congr 1
  · simp
  · refine List.map_congr_left fun k _ => ?_
    simp only [Function.comp]
    omega
/-- a loop over a range -/
theorem forL_rg {α : Type} (En : α → Ve) (G : Nat → α → Prop) {gm : GM} {body : SM} {m : Nat} (h : ∀ i a, i < m → G i a → ∃ a', (stp gm body (.int (i : Int)) (En a) = .nx (En a') ∨ stp gm body (.int (i : Int)) (En a) = .ct (En a')) ∧ G (i + 1) a') :
    ∀ {j i : Nat} {a : α}, i + j = m → G i a → ∃ a', forL gm body (mi (rg (i : Int) j)) (En a) = .nx (En a') ∧ G m a'
  | 0, i, a, e, g => by
    have : i = m := by omega
    subst this
    exact ⟨a, rfl, g⟩
  | j + 1, i, a, e, g => by
    obtain ⟨a1, h1, h2⟩ := h i a (by omega) g
    obtain ⟨a', h3, h4⟩ := forL_rg En G h (j := j) (i := i + 1) (a := a1) (by omega) h2
    refine ⟨a', ?_, h4⟩
    rw [rg_cons]
    show forL gm body (D.int i :: mi (rg ((i : Int) + 1) j)) (En a) = _
    rw [forL_stp]
    have e2 : ((i : Int) + 1) = ((i + 1 : Nat) : Int) := by omega
    rw [e2]
    rcases h1 with h1 | h1 <;> rw [h1] <;> exact h3
@[simp] theorem allAt_mi (w : List Int) : allAt (mi w) = true := by
  unfold allAt mi
  rw [List.all_map]
  exact List.all_eq_true.mpr fun _ _ => rfl
end DL
/-! mirrors, printed by wip/gen.py -/
namespace Mir
open PySem DL
/-- _law_pool(script): slots 0 script, 1 pool, 2 cell, 3 state, 4 k, 5 rest_v -/
def b__law_pool_1 : SM := (sSeq (sSet 3 (eOp2 true modD (eOp2 true addD (eOp2 true mulD (eName 3) (eD (.int 48271))) (eD (.int 11))) (eD (.int 2147483647))))
    (sExpr (eMeth true appendD (eName 1) (aCons true (eOp2 true modD (eCall intD (aCons true (eOp2 true fdivD (eName 3) (eD (.int 97))) aNil)) (eD (.int 60))) aNil))))
def b__law_pool_2 : SM := (sSet 3 (eOp2 true modD (eOp2 true addD (eOp2 true mulD (eName 3) (eD (.int 31))) (eCall intD (aCons true (eName 2) aNil))) (eD (.int 2147483647))))
def b__law_pool_3 : SM := (sSeq (sExpr (eMeth true appendD (eName 1) (aCons true (eOp2 true modD (eCall intD (aCons true (eName 5) aNil)) (eD (.int 60))) aNil)))
    (sSeq (sSet 5 (eCall intD (aCons true (eOp2 true fdivD (eName 5) (eD (.int 60))) aNil)))
    (sIf (tvB (eOp2 true eqD (eName 5) (eD (.int 0)))) (fun env => .bk env) sPass)))
def b__law_pool_4 : SM := (sSeq (sSet 5 (eCall intD (aCons true (eName 2) aNil)))
    (sIf (tvB (eOp2 true geD (eName 5) (eOp2 true powD (eD (.int 10)) (eD (.int 18))))) (sFor (iR1 (aCons true (eD (.int 60)) aNil)) (gNm 4) b__law_pool_3) (sOwn 1 (eOp2 true addD (eName 1) (eLst (aCons true (eOp2 true modD (eCall intD (aCons true (eName 5) aNil)) (eD (.int 60))) (aCons true (eOp2 true modD (eCall intD (aCons true (eOp2 true fdivD (eName 5) (eD (.int 60))) aNil)) (eD (.int 60))) aNil)))))))
def m__law_pool : SM :=
  (sSeq (sOwn 1 (eLst aNil))
    (sSeq (sFor (iSeq (eName 0)) (gNm 2) b__law_pool_4)
    (sSeq (sSet 3 (eD (.int 17)))
    (sSeq (sFor (iSeq (eName 0)) (gNm 2) b__law_pool_2)
    (sSeq (sFor (iR1 (aCons true (eD (.int 300)) aNil)) (gNm 4) b__law_pool_1)
    (sRet (eName 1)))))))
def f__law_pool : FM := runF 6 1 [0] m__law_pool
/-- _law_stream(script): slots 0 script -/
def m__law_stream : SM :=
  (sRet (eOp2 false addD (eLst (aCons true (eD (.int 1)) aNil)) (eFn 1 f__law_pool (aCons true (eName 0) aNil))))
def f__law_stream : FM := runF 1 1 [0] m__law_stream
/-- _law_pick(pool, many): slots 0 pool, 1 many, 2 place -/
def m__law_pick : SM :=
  (sSeq (sSet 2 (eOp2 true ixD (eName 0) (eD (.int 0))))
    (sSeq (sAsg (eOp2 true addD (eName 2) (eD (.int 1))) (gSb true (eName 0) (eD (.int 0))))
    (sSeq (sIf (tvB (eOp2 true eqD (eOp2 true ixD (eName 0) (eD (.int 0))) (eCall lenD (aCons true (eName 0) aNil)))) (sAsg (eD (.int 1)) (gSb true (eName 0) (eD (.int 0)))) sPass)
    (sRet (eOp2 true modD (eCall intD (aCons true (eOp2 true ixD (eName 0) (eName 2)) aNil)) (eName 1))))))
def f__law_pick : FM := runF 3 2 [0, 1] m__law_pick
/-- _law_strands(pool): slots 0 pool -/
def m__law_strands : SM :=
  (sRet (eOp2 false ixD (eLst (aCons true (eD (.int 1)) (aCons true (eD (.int 2)) (aCons true (eD (.int 2)) (aCons true (eD (.int 3)) (aCons true (eD (.int 3)) (aCons true (eD (.int 3)) (aCons true (eD (.int 4)) (aCons true (eD (.int 4)) (aCons true (eD (.int 5)) (aCons true (eD (.int 6)) (aCons true (eD (.int 7)) (aCons true (eD (.int 8)) aNil))))))))))))) (eFn 2 f__law_pick (aCons true (eName 0) (aCons true (eD (.int 12)) aNil)))))
def f__law_strands : FM := runF 1 1 [0] m__law_strands
/-- _law_shuffled(pool, n): slots 0 pool, 1 n, 2 found, 3 p -/
def b__law_shuffled_1 : SM := (sExpr (eMeth false insertD (eName 2) (aCons true (eFn 2 f__law_pick (aCons true (eName 0) (aCons true (eOp2 true addD (eName 3) (eD (.int 1))) aNil))) (aCons true (eName 3) aNil))))
def m__law_shuffled : SM :=
  (sSeq (sOwn 2 (eLst aNil))
    (sSeq (sFor (iR1 (aCons true (eName 1) aNil)) (gNm 3) b__law_shuffled_1)
    (sRet (eName 2))))
def f__law_shuffled : FM := runF 4 2 [0, 1] m__law_shuffled
/-- _law_simple(pool, n): slots 0 pool, 1 n, 2 shape, 3 s, 4 turn, 5 i -/
def b__law_simple_1 : SM := (sSeq (sSet 5 (eOp2 false addD (eD (.int 1)) (eOp2 true modD (eCall intD (aCons true (eFn 2 f__law_pick (aCons true (eName 0) (aCons true (eD (.int 60)) aNil))) aNil)) (eOp2 true subD (eName 1) (eD (.int 1))))))
    (sAsg (eTup (aCons true (eOp2 true ixD (eName 3) (eName 5)) (aCons true (eOp2 true ixD (eName 3) (eOp2 true subD (eName 5) (eD (.int 1)))) aNil))) (gTp 2 (gCs (gSb true (eName 3) (eOp2 true subD (eName 5) (eD (.int 1)))) (gCs (gSb true (eName 3) (eName 5)) gNl)))))
def m__law_simple : SM :=
  (sSeq (sParO 2 3 false true (eFn 2 f__law_pick (aCons true (eName 0) (aCons true (eD (.int 6)) aNil))) (eLr1 (eName 1)))
    (sSeq (sIf (tvB (eOp2 true ltD (eName 2) (eD (.int 3)))) (sRet (eFn 2 f__law_shuffled (aCons true (eName 0) (aCons true (eName 1) aNil)))) sPass)
    (sSeq (sIf (tvB (eOp2 true eqD (eName 2) (eD (.int 5)))) (sOwn 3 (eOp1 revD (eName 3))) sPass)
    (sSeq (sFor (iR1 (aCons true (eOp2 true mulD (eFn 2 f__law_pick (aCons true (eName 0) (aCons true (eD (.int 5)) aNil))) (eCall intD (aCons true (eOp2 true gtD (eName 1) (eD (.int 1))) aNil))) aNil)) (gNm 4) b__law_simple_1)
    (sRet (eName 3))))))
def f__law_simple : FM := runF 6 2 [0, 1] m__law_simple
/-- _law_simple_word(s): slots 0 s, 1 found, 2 turn, 3 held, 4 i, 5 p -/
def t__law_simple_word_1 : TM := (tvB (eOp2 true gtD (eOp2 true ixD (eName 0) (eOp2 true subD (eName 4) (eD (.int 1)))) (eOp2 true ixD (eName 0) (eName 4))))
def c__law_simple_word_2 : EM := (eName 4)
def b__law_simple_word_3 : SM := (sSeq (sSet 3 (eComp [4] (iR2 (aCons true (eD (.int 1)) (aCons true (eCall lenD (aCons true (eName 0) aNil)) aNil))) (gNm 4) t__law_simple_word_1 c__law_simple_word_2))
    (sSeq (sIf (tvB (eOp2 true eqD (eName 3) (eLst aNil))) (sRet (eName 1)) sPass)
    (sSeq (sSet 4 (eOp2 true ixD (eName 3) (eD (.int 0))))
    (sSeq (sAsg (eTup (aCons true (eOp2 true ixD (eName 0) (eName 4)) (aCons true (eOp2 true ixD (eName 0) (eOp2 true subD (eName 4) (eD (.int 1)))) aNil))) (gTp 2 (gCs (gSb true (eName 0) (eOp2 true subD (eName 4) (eD (.int 1)))) (gCs (gSb true (eName 0) (eName 4)) gNl))))
    (sExpr (eMeth true appendD (eName 1) (aCons true (eName 4) aNil)))))))
def c__law_simple_word_4 : EM := (eName 5)
def m__law_simple_word : SM :=
  (sSeq (sParO 0 1 true true (eCompN [5] 0 (gNm 5) tYesM c__law_simple_word_4) (eLst aNil))
    (sSeq (sFor (iR1 (aCons true (eOp2 true mulD (eCall lenD (aCons true (eName 0) aNil)) (eCall lenD (aCons true (eName 0) aNil))) aNil)) (gNm 2) b__law_simple_word_3)
    (sRet (eName 1))))
def f__law_simple_word : FM := runF 6 1 [] m__law_simple_word
/-- _law_turning(n, word): slots 0 n, 1 word, 2 standing, 3 found, 4 letter, 5 place -/
def b__law_turning_1 : SM := (sAsg (eName 5) (gSb true (eName 3) (eOp2 true ixD (eName 2) (eName 5))))
def b__law_turning_2 : SM := (sSeq (sSet 5 (eCall absD (aCons true (eName 4) aNil)))
    (sAsg (eTup (aCons true (eOp2 true ixD (eName 2) (eName 5)) (aCons true (eOp2 true ixD (eName 2) (eOp2 true subD (eName 5) (eD (.int 1)))) aNil))) (gTp 2 (gCs (gSb true (eName 2) (eOp2 true subD (eName 5) (eD (.int 1)))) (gCs (gSb true (eName 2) (eName 5)) gNl)))))
def m__law_turning : SM :=
  (sSeq (sParO 2 3 true true (eLr1 (eName 0)) (eOp2 true mulD (eLst (aCons true (eD (.int 0)) aNil)) (eName 0)))
    (sSeq (sFor (iSeq (eName 1)) (gNm 4) b__law_turning_2)
    (sSeq (sFor (iR1 (aCons true (eName 0) aNil)) (gNm 5) b__law_turning_1)
    (sRet (eName 3)))))
def f__law_turning : FM := runF 6 2 [0, 1] m__law_turning
/-- _law_composed(s, t): slots 0 s, 1 t, 2 p -/
def c__law_composed_1 : EM := (eOp2 true ixD (eName 1) (eName 2))
def m__law_composed : SM :=
  (sRet (eComp [2] (iSeq (eName 0)) (gNm 2) tYesM c__law_composed_1))
def f__law_composed : FM := runF 3 2 [0, 1] m__law_composed
/-- _law_letter(n, i): slots 0 n, 1 i, 2 s -/
def m__law_letter : SM :=
  (sSeq (sOwn 2 (eLr1 (eName 0)))
    (sSeq (sAsg (eTup (aCons true (eName 1) (aCons true (eOp2 true subD (eName 1) (eD (.int 1))) aNil))) (gTp 2 (gCs (gSb true (eName 2) (eOp2 true subD (eName 1) (eD (.int 1)))) (gCs (gSb true (eName 2) (eName 1)) gNl))))
    (sRet (eName 2))))
def f__law_letter : FM := runF 3 2 [0, 1] m__law_letter
/-- _law_backward(s): slots 0 s, 1 found, 2 p -/
def b__law_backward_1 : SM := (sAsg (eName 2) (gSb true (eName 1) (eOp2 true ixD (eName 0) (eName 2))))
def m__law_backward : SM :=
  (sSeq (sOwn 1 (eOp2 true mulD (eLst (aCons true (eD (.int 0)) aNil)) (eCall lenD (aCons true (eName 0) aNil))))
    (sSeq (sFor (iR1 (aCons true (eCall lenD (aCons true (eName 0) aNil)) aNil)) (gNm 2) b__law_backward_1)
    (sRet (eName 1))))
def f__law_backward : FM := runF 3 1 [0] m__law_backward
/-- _law_partner(pool, s): slots 0 pool, 1 s, 2 n, 3 shape, 4 word, 5 t, 6 i, 7 p -/
def c__law_partner_1 : EM := (eOp2 true subD (eOp2 true subD (eName 2) (eD (.int 1))) (eName 7))
def m__law_partner : SM :=
  (sSeq (sAsg (eTup (aCons false (eCall lenD (aCons true (eName 1) aNil)) (aCons true (eFn 2 f__law_pick (aCons true (eName 0) (aCons true (eD (.int 3)) aNil))) aNil))) (gTp 2 (gCs (gNm 2) (gCs (gNm 3) gNl))))
    (sSeq (sIf (tvOr (tvB (eOp2 true eqD (eName 3) (eD (.int 0)))) (tvB (eOp2 true eqD (eName 2) (eD (.int 1))))) (sRet (eFn 2 f__law_simple (aCons true (eName 0) (aCons true (eName 2) aNil)))) sPass)
    (sSeq (sSet 4 (eFn 1 f__law_simple_word (aCons true (eComp [7] (iSeq (eFn 1 f__law_backward (aCons true (eName 1) aNil))) (gNm 7) tYesM c__law_partner_1) aNil)))
    (sSeq (sSet 4 (eSl true false (eName 4) oNone (oSome (eFn 2 f__law_pick (aCons true (eName 0) (aCons true (eOp2 true addD (eCall lenD (aCons true (eName 4) aNil)) (eD (.int 1))) aNil))))))
    (sSeq (sSet 5 (eFn 2 f__law_turning (aCons true (eName 2) (aCons true (eName 4) aNil))))
    (sSeq (sIf (tvB (eOp2 true eqD (eName 3) (eD (.int 2)))) (sSeq (sSet 6 (eOp2 false addD (eD (.int 1)) (eOp2 true modD (eCall intD (aCons true (eFn 2 f__law_pick (aCons true (eName 0) (aCons true (eD (.int 60)) aNil))) aNil)) (eOp2 true subD (eName 2) (eD (.int 1))))))
    (sSet 5 (eFn 2 f__law_composed (aCons false (eName 5) (aCons true (eFn 2 f__law_letter (aCons true (eName 2) (aCons true (eName 6) aNil))) aNil))))) sPass)
    (sRet (eName 5))))))))
def f__law_partner : FM := runF 8 2 [0, 1] m__law_partner
/-- _law_same(value, due): slots 0 value, 1 due, 2 k -/
def c__law_same_1 (self : FM) : EM := (eFn 2 self (aCons true (eOp2 true ixD (eName 0) (eName 2)) (aCons true (eOp2 true ixD (eName 1) (eName 2)) aNil)))
def m__law_same (self : FM) : SM :=
  (sSeq (sIf (tvB (eOp2 true isD (eName 1) (eD .non))) (sRet (eOp2 true isD (eName 0) (eD .non))) sPass)
    (sSeq (sIf (tvB (eIsi "bool" (eName 1))) (sRet (evAnd (eIsi "bool" (eName 0)) (eOp2 true eqD (eName 0) (eName 1)))) sPass)
    (sSeq (sIf (tvB (eIsi "int" (eName 1))) (sRet (evAnd (eIsi "int" (eName 0)) (evAnd (evNot (eIsi "bool" (eName 0))) (eOp2 true eqD (eName 0) (eName 1))))) sPass)
    (sSeq (sIf (tvB (eIsi "str" (eName 1))) (sRet (evAnd (eIsi "str" (eName 0)) (eOp2 true eqD (eName 0) (eName 1)))) sPass)
    (sSeq (sIf (tvOr (tvAnd (tvB (eIsi "list" (eName 1))) (tvNot (tvB (eIsi "list" (eName 0))))) (tvAnd (tvB (eIsi "tuple" (eName 1))) (tvNot (tvB (eIsi "tuple" (eName 0)))))) (sRet (eD (.bl false))) sPass)
    (sRet (evAnd (eOp2 true eqD (eCall lenD (aCons true (eName 0) aNil)) (eCall lenD (aCons true (eName 1) aNil))) (eCall allD (aCons true (eComp [2] (iR1 (aCons true (eCall lenD (aCons true (eName 1) aNil)) aNil)) (gNm 2) tYesM (c__law_same_1 self)) aNil)))))))))
def fr__law_same : Nat → FM
  | 0 => fun _ => .no
  | n + 1 => runF 3 2 [0, 1] (m__law_same (fr__law_same n))
def f__law_same : FM := fr__law_same 6
/-- is_number(value): slots 0 value -/
def m_is_number : SM :=
  (sRet (evAnd (eIsi "int" (eName 0)) (evNot (eIsi "bool" (eName 0)))))
def f_is_number : FM := runF 1 1 [0] m_is_number
/-- check_strands(n): slots 0 n -/
def m_check_strands : SM :=
  (sIf (tvOr (tvNot (tvB (eFn 1 f_is_number (aCons true (eName 0) aNil)))) (tvNot (tvB (evChain true true leD leD (eD (.int 1)) (eName 0) (eD (.int 8)))))) sNo sPass)
def f_check_strands : FM := runF 1 1 [0] m_check_strands
/-- is_place(n, value): slots 0 n, 1 value -/
def m_is_place : SM :=
  (sRet (evAnd (eFn 1 f_is_number (aCons true (eName 1) aNil)) (evChain true true leD ltD (eD (.int 0)) (eName 1) (eName 0))))
def f_is_place : FM := runF 2 2 [0, 1] m_is_place
/-- check_turning(n, s): slots 0 n, 1 s, 2 p -/
def c_check_turning_1 : EM := (eFn 2 f_is_place (aCons true (eName 0) (aCons true (eName 2) aNil)))
def m_check_turning : SM :=
  (sIf (tvOr (tvNot (tvB (eIsi "list" (eName 1)))) (tvOr (tvB (eOp2 true neD (eCall lenD (aCons true (eName 1) aNil)) (eName 0))) (tvOr (tvNot (tvB (eCall allD (aCons true (eComp [2] (iSeq (eName 1)) (gNm 2) tYesM c_check_turning_1) aNil)))) (tvB (eOp2 true neD (eCall sortedD (aCons true (eName 1) aNil)) (eLr1 (eName 0))))))) sNo sPass)
def f_check_turning : FM := runF 3 2 [0, 1] m_check_turning
/-- check_simples(n, simples): slots 0 n, 1 simples, 2 s -/
def b_check_simples_1 : SM := (sExpr (eFn 2 f_check_turning (aCons true (eName 0) (aCons true (eName 2) aNil))))
def m_check_simples : SM :=
  (sSeq (sExpr (eFn 1 f_check_strands (aCons true (eName 0) aNil)))
    (sFor (iSeq (eName 1)) (gNm 2) b_check_simples_1))
def f_check_simples : FM := runF 3 2 [0, 1] m_check_simples
/-- composed(s, t): slots 0 s, 1 t, 2 p -/
def c_composed_1 : EM := (eOp2 true ixD (eName 1) (eName 2))
def m_composed : SM :=
  (sRet (eComp [2] (iSeq (eName 0)) (gNm 2) tYesM c_composed_1))
def f_composed : FM := runF 3 2 [0, 1] m_composed
/-- crossings(s): slots 0 s, 1 q, 2 p -/
def t_crossings_1 : TM := (tvB (eOp2 true gtD (eOp2 true ixD (eName 0) (eName 2)) (eOp2 true ixD (eName 0) (eName 1))))
def i_crossings_2 : IM := (iR1 (aCons true (eName 1) aNil))
def c_crossings_3 : EM := (eD (.int 1))
def m_crossings : SM :=
  (sRet (eCall sumD (aCons true (eComp2 [1, 2] [2] (iR1 (aCons true (eCall lenD (aCons true (eName 0) aNil)) aNil)) (gNm 1) tYesM i_crossings_2 (gNm 2) t_crossings_1 c_crossings_3) aNil)))
def f_crossings : FM := runF 3 1 [0] m_crossings
/-- then_simple(n, s, t): slots 0 n, 1 s, 2 t, 3 found -/
def m_then_simple : SM :=
  (sSeq (sExpr (eFn 2 f_check_simples (aCons true (eName 0) (aCons true (eLst (aCons true (eName 1) (aCons true (eName 2) aNil))) aNil))))
    (sSeq (sOwn 3 (eFn 2 f_composed (aCons true (eName 1) (aCons true (eName 2) aNil))))
    (sRet (evIf (tvB (eOp2 false eqD (eFnX 1 f_crossings (aCons true (eName 3) aNil)) (eOp2 false addD (eFn 1 f_crossings (aCons true (eName 1) aNil)) (eFn 1 f_crossings (aCons true (eName 2) aNil))))) (eName 3) (eD .non)))))
def f_then_simple : FM := runF 4 3 [0, 1, 2] m_then_simple
/-- _law_climb_right(pool, n, s): slots 0 pool, 1 n, 2 s, 3 held, 4 turn, 5 ends, 6 rising, 7 falling, 8 t, 9 due, 10 p, 11 i -/
def c__law_climb_right_1 : EM := (eName 10)
def c__law_climb_right_2 : EM := (eName 10)
def t__law_climb_right_3 : TM := (tvB (eOp2 true gtD (eOp2 true ixD (eName 5) (eOp2 true subD (eName 11) (eD (.int 1)))) (eOp2 true ixD (eName 5) (eName 11))))
def c__law_climb_right_4 : EM := (eName 11)
def t__law_climb_right_5 : TM := (tvB (eOp2 true ltD (eOp2 true ixD (eName 5) (eOp2 true subD (eName 11) (eD (.int 1)))) (eOp2 true ixD (eName 5) (eName 11))))
def c__law_climb_right_6 : EM := (eName 11)
def b__law_climb_right_7 : SM := (sSeq (sSet 5 (eFn 1 f__law_backward (aCons true (eName 3) aNil)))
    (sSeq (sSet 6 (eComp [11] (iR2 (aCons true (eD (.int 1)) (aCons true (eName 1) aNil))) (gNm 11) t__law_climb_right_5 c__law_climb_right_6))
    (sSeq (sSet 7 (eComp [11] (iR2 (aCons true (eD (.int 1)) (aCons true (eName 1) aNil))) (gNm 11) t__law_climb_right_3 c__law_climb_right_4))
    (sSeq (sIf (tvB (eOp2 true neD (eName 7) (eLst aNil))) (sSeq (sSet 8 (eFn 2 f__law_letter (aCons false (eName 1) (aCons true (eOp2 false ixD (eName 7) (eFn 2 f__law_pick (aCons true (eName 0) (aCons true (eCall lenD (aCons true (eName 7) aNil)) aNil)))) aNil))))
    (sIf (tvB (eOp2 true isnotD (eFn 3 f_then_simple (aCons false (eName 1) (aCons true (eComp [10] (iSeq (eName 3)) (gNm 10) tYesM c__law_climb_right_2) (aCons true (eName 8) aNil)))) (eD .non))) (sRet (eD (.bl false))) sPass)) sPass)
    (sSeq (sIf (tvB (eOp2 true eqD (eName 6) (eLst aNil))) (sRet (eOp2 true eqD (eName 3) (eOp1 revD (eLr1 (eName 1))))) sPass)
    (sSeq (sSet 8 (eFn 2 f__law_letter (aCons false (eName 1) (aCons true (eOp2 false ixD (eName 6) (eFn 2 f__law_pick (aCons true (eName 0) (aCons true (eCall lenD (aCons true (eName 6) aNil)) aNil)))) aNil))))
    (sSeq (sSet 9 (eFn 2 f__law_composed (aCons true (eName 3) (aCons true (eName 8) aNil))))
    (sSeq (sIf (tvNot (tvB (eFn 2 f__law_same (aCons true (eFn 3 f_then_simple (aCons false (eName 1) (aCons true (eComp [10] (iSeq (eName 3)) (gNm 10) tYesM c__law_climb_right_1) (aCons true (eName 8) aNil)))) (aCons true (eName 9) aNil))))) (sRet (eD (.bl false))) sPass)
    (sSet 3 (eName 9))))))))))
def c__law_climb_right_8 : EM := (eName 10)
def m__law_climb_right : SM :=
  (sSeq (sSet 3 (eComp [10] (iSeq (eName 2)) (gNm 10) tYesM c__law_climb_right_8))
    (sSeq (sFor (iR1 (aCons true (eD (.int 29)) aNil)) (gNm 4) b__law_climb_right_7)
    (sRet (eD (.bl false)))))
def f__law_climb_right : FM := runF 12 3 [0, 1, 2] m__law_climb_right
/-- _law_crossings(s): slots 0 s, 1 many, 2 q, 3 p -/
def t__law_crossings_1 : TM := (tvB (eOp2 true gtD (eOp2 true ixD (eName 0) (eName 3)) (eOp2 true ixD (eName 0) (eName 2))))
def c__law_crossings_2 : EM := (eName 3)
def b__law_crossings_3 : SM := (sSet 1 (eOp2 false addD (eName 1) (eCall lenD (aCons true (eComp [3] (iR1 (aCons true (eName 2) aNil)) (gNm 3) t__law_crossings_1 c__law_crossings_2) aNil))))
def m__law_crossings : SM :=
  (sSeq (sSet 1 (eD (.int 0)))
    (sSeq (sFor (iR1 (aCons true (eCall lenD (aCons true (eName 0) aNil)) aNil)) (gNm 2) b__law_crossings_3)
    (sRet (eName 1))))
def f__law_crossings : FM := runF 4 1 [0] m__law_crossings
/-- _law_product_right(n, s, t): slots 0 n, 1 s, 2 t, 3 due, 4 handed, 5 told, 6 again, 7 p -/
def c__law_product_right_1 : EM := (eName 7)
def c__law_product_right_2 : EM := (eName 7)
def m__law_product_right : SM :=
  (sSeq (sPar 3 4 (aCons false (eFn 2 f__law_composed (aCons true (eName 1) (aCons true (eName 2) aNil))) (aCons true (eLst (aCons false (eComp [7] (iSeq (eName 1)) (gNm 7) tYesM c__law_product_right_2) (aCons true (eComp [7] (iSeq (eName 2)) (gNm 7) tYesM c__law_product_right_1) aNil))) aNil)))
    (sSeq (sIf (tvB (eOp2 false neD (eFn 1 f__law_crossings (aCons true (eName 3) aNil)) (eOp2 false addD (eFn 1 f__law_crossings (aCons true (eName 1) aNil)) (eFn 1 f__law_crossings (aCons true (eName 2) aNil))))) (sSet 3 (eD .non)) sPass)
    (sSeq (sOwn2 5 (eFn 3 f_then_simple (aCons true (eName 0) (aCons true (eOp2 true ixD (eName 4) (eD (.int 0))) (aCons true (eOp2 true ixD (eName 4) (eD (.int 1))) aNil)))))
    (sSeq (sIf (tvOr (tvNot (tvB (eFnX 2 f__law_same (aCons true (eName 5) (aCons true (eName 3) aNil))))) (tvB (eOp2 true neD (eName 4) (eLst (aCons true (eName 1) (aCons true (eName 2) aNil)))))) (sRet (eD (.bl false))) sPass)
    (sSeq (sIf (tvB (eOp2 true isnotD (eName 5) (eD .non))) (sSeq (sAsg (eName 0) (gSb true (eName 5) (eD (.int 0))))
    (sExpr (eMeth true appendD (eName 5) (aCons true (eD (.int 0)) aNil)))) sPass)
    (sSeq (sSet 6 (eFn 3 f_then_simple (aCons true (eName 0) (aCons true (eOp2 true ixD (eName 4) (eD (.int 0))) (aCons true (eOp2 true ixD (eName 4) (eD (.int 1))) aNil)))))
    (sRet (evAnd (eFn 2 f__law_same (aCons true (eName 6) (aCons true (eName 3) aNil))) (eOp2 true eqD (eName 4) (eLst (aCons true (eName 1) (aCons true (eName 2) aNil))))))))))))
def f__law_product_right : FM := runF 8 3 [0, 1, 2] m__law_product_right
/-- opposite(s): slots 0 s, 1 q -/
def c_opposite_1 : EM := (eOp2 true subD (eOp2 true subD (eCall lenD (aCons true (eName 0) aNil)) (eD (.int 1))) (eName 1))
def m_opposite : SM :=
  (sRet (eComp [1] (iSeq (eName 0)) (gNm 1) tYesM c_opposite_1))
def f_opposite : FM := runF 2 1 [0] m_opposite
/-- backward(s): slots 0 s, 1 found, 2 p, 3 q -/
def b_backward_1 : SM := (sAsg (eName 2) (gSb true (eName 1) (eName 3)))
def m_backward : SM :=
  (sSeq (sOwn 1 (eOp2 true mulD (eLst (aCons true (eD (.int 0)) aNil)) (eCall lenD (aCons true (eName 0) aNil))))
    (sSeq (sFor (iEnu (aCons true (eName 0) aNil)) (gTp 2 (gCs (gNm 2) (gCs (gNm 3) gNl))) b_backward_1)
    (sRet (eName 1))))
def f_backward : FM := runF 4 1 [0] m_backward
/-- rest(s): slots 0 s -/
def m_rest : SM :=
  (sRet (eFn 1 f_opposite (aCons true (eFn 1 f_backward (aCons true (eName 0) aNil)) aNil)))
def f_rest : FM := runF 1 1 [0] m_rest
/-- rest_of(n, s): slots 0 n, 1 s -/
def m_rest_of : SM :=
  (sSeq (sExpr (eFn 2 f_check_simples (aCons true (eName 0) (aCons true (eLst (aCons true (eName 1) aNil)) aNil))))
    (sRet (eFn 1 f_rest (aCons true (eName 1) aNil))))
def f_rest_of : FM := runF 2 2 [0, 1] m_rest_of
/-- rest_ahead(s): slots 0 s -/
def m_rest_ahead : SM :=
  (sRet (eOp1 revD (eFn 1 f_backward (aCons true (eName 0) aNil))))
def f_rest_ahead : FM := runF 1 1 [0] m_rest_ahead
/-- fore_rest(n, s): slots 0 n, 1 s -/
def m_fore_rest : SM :=
  (sSeq (sExpr (eFn 2 f_check_simples (aCons true (eName 0) (aCons true (eLst (aCons true (eName 1) aNil)) aNil))))
    (sRet (eFn 1 f_rest_ahead (aCons true (eName 1) aNil))))
def f_fore_rest : FM := runF 2 2 [0, 1] m_fore_rest
/-- about(s): slots 0 s -/
def m_about : SM :=
  (sRet (eFn 1 f_opposite (aCons true (eOp1 revD (eName 0)) aNil)))
def f_about : FM := runF 1 1 [0] m_about
/-- turned_simple(n, s): slots 0 n, 1 s -/
def m_turned_simple : SM :=
  (sSeq (sExpr (eFn 2 f_check_simples (aCons true (eName 0) (aCons true (eLst (aCons true (eName 1) aNil)) aNil))))
    (sRet (eFn 1 f_about (aCons true (eName 1) aNil))))
def f_turned_simple : FM := runF 2 2 [0, 1] m_turned_simple
/-- _law_whole(value): slots 0 value -/
def m__law_whole : SM :=
  (sRet (evAnd (eIsi "int" (eName 0)) (evNot (eIsi "bool" (eName 0)))))
def f__law_whole : FM := runF 1 1 [0] m__law_whole
/-- _law_is_turning(n, value): slots 0 n, 1 value, 2 p -/
def c__law_is_turning_1 : EM := (eFn 1 f__law_whole (aCons true (eName 2) aNil))
def m__law_is_turning : SM :=
  (sSeq (sIf (tvOr (tvNot (tvB (eIsi "list" (eName 1)))) (tvOr (tvB (eOp2 true neD (eCall lenD (aCons true (eName 1) aNil)) (eName 0))) (tvNot (tvB (eCall allD (aCons true (eComp [2] (iSeq (eName 1)) (gNm 2) tYesM c__law_is_turning_1) aNil)))))) (sRet (eD (.bl false))) sPass)
    (sRet (eOp2 true eqD (eCall sortedD (aCons true (eName 1) aNil)) (eLr1 (eName 0)))))
def f__law_is_turning : FM := runF 3 2 [0, 1] m__law_is_turning
/-- _law_rests_right(n, s): slots 0 n, 1 s, 2 half, 3 handed, 4 rest_v, 5 fore, 6 about_v, 7 kept, 8 p -/
def c__law_rests_right_1 : EM := (eName 8)
def c__law_rests_right_2 : EM := (eName 8)
def m__law_rests_right : SM :=
  (sSeq (sPar 2 3 (aCons false (eOp1 revD (eLr1 (eName 0))) (aCons true (eComp [8] (iSeq (eName 1)) (gNm 8) tYesM c__law_rests_right_2) aNil)))
    (sSeq (sParO3 4 5 6 true true true (eFn 2 f_rest_of (aCons true (eName 0) (aCons true (eName 3) aNil))) (eFn 2 f_fore_rest (aCons true (eName 0) (aCons true (eName 3) aNil))) (eFn 2 f_turned_simple (aCons true (eName 0) (aCons true (eName 3) aNil))))
    (sSeq (sIf (tvOr (tvNot (tvB (eFnX 2 f__law_is_turning (aCons true (eName 0) (aCons true (eName 4) aNil))))) (tvOr (tvNot (tvB (eFnX 2 f__law_is_turning (aCons true (eName 0) (aCons true (eName 5) aNil))))) (tvNot (tvB (eFnX 2 f__law_is_turning (aCons true (eName 0) (aCons true (eName 6) aNil))))))) (sRet (eD (.bl false))) sPass)
    (sSeq (sIf (tvOr (tvB (eOp2 true neD (eFnX 2 f__law_composed (aCons true (eName 1) (aCons true (eName 4) aNil))) (eName 2))) (tvB (eOp2 true neD (eFnX 2 f__law_composed (aCons true (eName 5) (aCons true (eName 1) aNil))) (eName 2)))) (sRet (eD (.bl false))) sPass)
    (sSeq (sIf (tvOr (tvB (eOp2 false neD (eFn 2 f__law_composed (aCons true (eName 1) (aCons true (eName 2) aNil))) (eFnX 2 f__law_composed (aCons true (eName 2) (aCons true (eName 6) aNil))))) (tvB (eOp2 true neD (eName 3) (eName 1)))) (sRet (eD (.bl false))) sPass)
    (sSeq (sIf (tvOr (tvNot (tvB (eFn 2 f__law_same (aCons true (eFnX 3 f_then_simple (aCons true (eName 0) (aCons true (eName 3) (aCons true (eName 4) aNil)))) (aCons true (eName 2) aNil))))) (tvNot (tvB (eFn 2 f__law_same (aCons true (eFnX 3 f_then_simple (aCons true (eName 0) (aCons true (eName 5) (aCons true (eName 3) aNil)))) (aCons true (eName 2) aNil)))))) (sRet (eD (.bl false))) sPass)
    (sSeq (sIf (tvOr (tvNot (tvB (eFn 2 f__law_same (aCons true (eFnX 2 f_fore_rest (aCons true (eName 0) (aCons true (eName 4) aNil))) (aCons true (eName 1) aNil))))) (tvNot (tvB (eFn 2 f__law_same (aCons true (eFnX 2 f_rest_of (aCons true (eName 0) (aCons true (eName 5) aNil))) (aCons true (eName 1) aNil)))))) (sRet (eD (.bl false))) sPass)
    (sSeq (sIf (tvOr (tvNot (tvB (eFn 2 f__law_same (aCons true (eFnX 2 f_turned_simple (aCons true (eName 0) (aCons true (eName 6) aNil))) (aCons true (eName 1) aNil))))) (tvNot (tvB (eFnX 2 f__law_same (aCons true (eFnX 2 f_rest_of (aCons true (eName 0) (aCons true (eName 4) aNil))) (aCons true (eName 6) aNil)))))) (sRet (eD (.bl false))) sPass)
    (sSeq (sSet 7 (eCompN [8] 4 (gNm 8) tYesM c__law_rests_right_1))
    (sSeq (sExpr (eMeth true appendD (eName 4) (aCons true (eD (.int 0)) aNil)))
    (sSeq (sAsg (eName 0) (gSb true (eName 5) (eD (.int 0))))
    (sSeq (sExpr (eMeth true appendD (eName 6) (aCons true (eName 0) aNil)))
    (sRet (evAnd (eOp2 true eqD (eName 3) (eName 1)) (eFn 2 f__law_same (aCons true (eFn 2 f_rest_of (aCons true (eName 0) (aCons true (eName 3) aNil))) (aCons true (eName 7) aNil)))))))))))))))))
def f__law_rests_right : FM := runF 9 2 [0, 1] m__law_rests_right
/-- law(script): slots 0 script, 1 pool, 2 turn, 3 n, 4 s, 5 t, 6 u -/
def b_law_1 : SM := (sSeq (sSet 3 (eFn 1 f__law_strands (aCons true (eName 1) aNil)))
    (sSeq (sSet 4 (eFn 2 f__law_simple (aCons true (eName 1) (aCons true (eName 3) aNil))))
    (sSeq (sSet 5 (eFn 2 f__law_partner (aCons true (eName 1) (aCons true (eName 4) aNil))))
    (sSeq (sSet 6 (eFn 2 f__law_partner (aCons true (eName 1) (aCons true (eName 5) aNil))))
    (sSeq (sIf (tvOr (tvNot (tvB (eFn 3 f__law_product_right (aCons true (eName 3) (aCons true (eName 4) (aCons true (eName 5) aNil)))))) (tvOr (tvNot (tvB (eFn 3 f__law_product_right (aCons true (eName 3) (aCons true (eName 5) (aCons true (eName 6) aNil)))))) (tvNot (tvB (eFn 3 f__law_product_right (aCons true (eName 3) (aCons true (eName 4) (aCons true (eName 5) aNil)))))))) (sRet (eD (.bl false))) sPass)
    (sSeq (sIf (tvOr (tvNot (tvB (eFn 3 f__law_product_right (aCons true (eName 3) (aCons true (eName 4) (aCons true (eName 4) aNil)))))) (tvOr (tvNot (tvB (eFn 2 f__law_rests_right (aCons true (eName 3) (aCons true (eName 4) aNil))))) (tvNot (tvB (eFn 2 f__law_rests_right (aCons true (eName 3) (aCons true (eName 5) aNil))))))) (sRet (eD (.bl false))) sPass)
    (sIf (tvNot (tvB (eFn 3 f__law_climb_right (aCons true (eName 1) (aCons true (eName 3) (aCons true (eName 4) aNil)))))) (sRet (eD (.bl false))) sPass)))))))
def m_law : SM :=
  (sSeq (sOwn 1 (eFn 1 f__law_stream (aCons true (eName 0) aNil)))
    (sSeq (sFor (iR1 (aCons true (eD (.int 3)) aNil)) (gNm 2) b_law_1)
    (sRet (eD (.bl true)))))
def f_law : FM := runF 7 1 [0] m_law
end Mir
namespace Law
open PySem DL Mir
/-! the drawn numbers -/
structure PoolOk (xs : List D) : Prop where
  ex : ∃ (p : Int) (cs : List Int), xs = mi (p :: cs) ∧ 1 ≤ p ∧ p ≤ cs.length ∧ 300 ≤ cs.length ∧ cs.length ≤ 5000 ∧ ∀ c ∈ cs, 0 ≤ c ∧ c < 60
abbrev Pool : Type := {xs : List D // PoolOk xs}
theorem pick_ok (q : Pool) {m : Int} (hm : 0 < m) : ∃ v : Int, ∃ q' : Pool, f__law_pick [.own (.lst q.1), .dat (.int m)] = .ok (.dat (.int v)) [.lst q'.1] ∧ 0 ≤ v ∧ v < m := by
  obtain ⟨xs, h⟩ := q
  obtain ⟨p, cs, rfl, h1, h2, h3, h4, h5⟩ := h.ex
  obtain ⟨c, hc⟩ : ∃ c, cs[p.toNat - 1]? = some c := ⟨cs[p.toNat - 1]'(by omega), List.getElem?_eq_getElem (by omega)⟩
  have hat : ∀ x, L2.atI (x :: cs) p = some c := fun x => by
    rw [atI_pos (by omega)]
    obtain ⟨k, hk⟩ : ∃ k, p.toNat = k + 1 := ⟨p.toNat - 1, by omega⟩
    rw [hk]
    rw [hk] at hc
    simp at hc ⊢
    exact hc
  have hall : ∀ (i : Nat), i < 2 → isOwn (([S.own (O.lst (mi (p :: cs))), S.dat (D.int m)] : List S).getD i .un) = true → i ∈ [0, 1] := fun i hi _ => by
    match i, hi with
    | 0, _ => simp
    | 1, _ => simp
  have hrun : m__law_pick [S.own (O.lst (mi (p :: cs))), S.dat (D.int m), .un] = .rt (.dat (.int (c % m))) [S.own (O.lst (mi ((if p = cs.length then 1 else p + 1) :: cs))), S.dat (D.int m), S.dat (.int p)] := by
    by_cases hp : p = cs.length
    · have hat' := hat 1
      rw [hp] at hat'
      simp [m__law_pick, sSeq, sSet, sOwn, sAli, sAsg, sRet, sRetN, sIf, sPass, sExpr, sFor, sPar, sPar3, sParO, sParO3, eFnX, lendM, lends, lendD, lendR, atomD, keepO, slotOf, sOwn2, eFrz, tvT, truD, sortedD, insertD, eOp2, eOp1, eName, eD, ixD, setS_nw, setS_own, nwAt, noOwn_nw, peek_pl, gSb, gNm, gTp, gCs, gNl, getP, putP, addD, subD, mulD, modD, fdivD, powD, ltD, leD, gtD, geD, isD, isnotD, D.isN, negD, tvB, tvNot, tvAnd, tvOr, evT, evAnd, evOr, evNot, evIf, evChain, eCall, aCons, aNil, peeks, dats, lenD, intD, listD, tupleD, eTup, eLst, eSl, oNone, oSome, slD, revD, eLr1, eLr2, iSeq, iR1_eq, iR1f, iR2_eq, iR2f, iR3_eq, iR3f, iEnu, iZp, tYesM, eMeth, appendD, extendD, popD, reverseD, dropS, eFn, toArgs, backE, aft, finF, backs, eIsi, stp, lim, hat, ixN_zero, hm, hp, atI_zero, hat']
    · simp [m__law_pick, sSeq, sSet, sOwn, sAli, sAsg, sRet, sRetN, sIf, sPass, sExpr, sFor, sPar, sPar3, sParO, sParO3, eFnX, lendM, lends, lendD, lendR, atomD, keepO, slotOf, sOwn2, eFrz, tvT, truD, sortedD, insertD, eOp2, eOp1, eName, eD, ixD, setS_nw, setS_own, nwAt, noOwn_nw, peek_pl, gSb, gNm, gTp, gCs, gNl, getP, putP, addD, subD, mulD, modD, fdivD, powD, ltD, leD, gtD, geD, isD, isnotD, D.isN, negD, tvB, tvNot, tvAnd, tvOr, evT, evAnd, evOr, evNot, evIf, evChain, eCall, aCons, aNil, peeks, dats, lenD, intD, listD, tupleD, eTup, eLst, eSl, oNone, oSome, slD, revD, eLr1, eLr2, iSeq, iR1_eq, iR1f, iR2_eq, iR2f, iR3_eq, iR3f, iEnu, iZp, tYesM, eMeth, appendD, extendD, popD, reverseD, dropS, eFn, toArgs, backE, aft, finF, backs, eIsi, stp, lim, hat, ixN_zero, hm, hp, atI_zero]
  refine ⟨c % m, ⟨mi ((if p = cs.length then 1 else p + 1) :: cs), ⟨_, cs, rfl, ?_, ?_, h3, h4, h5⟩⟩, ?_, Int.emod_nonneg _ (by omega), Int.emod_lt_of_pos _ hm⟩
  · split <;> omega
  · split <;> omega
  · unfold f__law_pick runF
    rw [if_pos ⟨rfl, hall⟩]
    show (match m__law_pick [S.own (O.lst (mi (p :: cs))), S.dat (D.int m), .un] with
      | .nx e => _ | .rt r e => _ | .ex x e => _ | _ => _) = _
    rw [hrun]
    rfl
open Classical in
noncomputable def pV (q : Pool) (m : Int) : Int := if h : 0 < m then Classical.choose (pick_ok q h) else 0
open Classical in
noncomputable def pR (q : Pool) (m : Int) : Pool := if h : 0 < m then Classical.choose (Classical.choose_spec (pick_ok q h)) else q
theorem pick_eq (q : Pool) {m : Int} (hm : 0 < m) : f__law_pick [.own (.lst q.1), .dat (.int m)] = .ok (.dat (.int (pV q m))) [.lst (pR q m).1] := by
  unfold pV pR
  rw [dif_pos hm, dif_pos hm]
  exact (Classical.choose_spec (Classical.choose_spec (pick_ok q hm))).1
theorem pV_rg (q : Pool) {m : Int} (hm : 0 < m) : 0 ≤ pV q m ∧ pV q m < m := by
  unfold pV
  rw [dif_pos hm]
  exact (Classical.choose_spec (Classical.choose_spec (pick_ok q hm))).2
/-! the pool is made -/
def Cel (cs : List Int) : Prop := ∀ c ∈ cs, 0 ≤ c ∧ c < 60
theorem Cel.app {a b : List Int} (h : Cel a) (k : Cel b) : Cel (a ++ b) := fun c hc => by
  rcases List.mem_append.1 hc with hc | hc
  · exact h c hc
  · exact k c hc
theorem cel_one (r : Int) : Cel [r % 60] := fun c hc => by simp at hc; subst hc; omega
theorem cel_two (r q : Int) : Cel [r % 60, q % 60] := fun c hc => by simp at hc; rcases hc with rfl | rfl <;> omega
theorem pool_in {ns : List Int} {ct st k : S} (cs : List Int) (r : Int) (hc : Cel cs) (hk : Pl k = true) (hl : cs.length < 16777000) : ∃ cs' r' k', forL (gNm 4) b__law_pool_3 (mi (rg 0 60)) [.dat (.scr ns), .own (.lst (mi cs)), ct, st, k, .dat (.int r)] = .nx [.dat (.scr ns), .own (.lst (mi cs')), ct, st, k', .dat (.int r')] ∧ Cel cs' ∧ Pl k' = true ∧ cs'.length ≤ cs.length + 60 := by
  obtain ⟨⟨cs', k', r'⟩, h1, h2⟩ := forL_stb (gm := gNm 4) (body := b__law_pool_3) (ds := mi (rg 0 60)) (i := 0) (a := (cs, k, r)) (fun (x : List Int × S × Int) => [.dat (.scr ns), .own (.lst (mi x.1)), ct, st, x.2.1, .dat (.int x.2.2)])
    (fun i x => Cel x.1 ∧ Pl x.2.1 = true ∧ x.1.length = cs.length + i) (fun x => Cel x.1 ∧ Pl x.2.1 = true ∧ x.1.length ≤ cs.length + 60) ⟨hc, hk, rfl⟩ fun i ⟨cs, k, r⟩ hi0 hi d hd ⟨g1, g2, g3⟩ => by
      obtain ⟨d, hd', rfl⟩ := List.mem_map.1 hd
      simp only [mi_length, rg_length] at hi
      simp only at g1 g2 g3
      have hl' : cs.length < 16777216 := by omega
      refine ⟨(cs ++ [r % 60], .dat (.int d), r / 60), ?_⟩
      by_cases hz : r / 60 = 0
      · refine .inr ⟨?_, g1.app (cel_one r), rfl, by simp; omega⟩
        simp [b__law_pool_3, sSeq, sSet, sOwn, sAli, sAsg, sRet, sRetN, sIf, sPass, sExpr, sFor, sPar, sPar3, sParO, sParO3, eFnX, lendM, lends, lendD, lendR, atomD, keepO, slotOf, sOwn2, eFrz, tvT, truD, sortedD, insertD, eOp2, eOp1, eName, eD, ixD, setS_nw, setS_own, nwAt, noOwn_nw, peek_pl, gSb, gNm, gTp, gCs, gNl, getP, putP, addD, subD, mulD, modD, fdivD, powD, ltD, leD, gtD, geD, isD, isnotD, D.isN, negD, tvB, tvNot, tvAnd, tvOr, evT, evAnd, evOr, evNot, evIf, evChain, eCall, aCons, aNil, peeks, dats, lenD, intD, listD, tupleD, eTup, eLst, eSl, oNone, oSome, slD, revD, eLr1, eLr2, iSeq, iR1_eq, iR1f, iR2_eq, iR2f, iR3_eq, iR3f, iEnu, iZp, tYesM, eMeth, appendD, extendD, popD, reverseD, dropS, eFn, toArgs, backE, aft, finF, backs, eIsi, stp, lim, g2, hl', lim, hz]
      · refine .inl ⟨.inl ?_, g1.app (cel_one r), rfl, by simp; omega⟩
        simp [b__law_pool_3, sSeq, sSet, sOwn, sAli, sAsg, sRet, sRetN, sIf, sPass, sExpr, sFor, sPar, sPar3, sParO, sParO3, eFnX, lendM, lends, lendD, lendR, atomD, keepO, slotOf, sOwn2, eFrz, tvT, truD, sortedD, insertD, eOp2, eOp1, eName, eD, ixD, setS_nw, setS_own, nwAt, noOwn_nw, peek_pl, gSb, gNm, gTp, gCs, gNl, getP, putP, addD, subD, mulD, modD, fdivD, powD, ltD, leD, gtD, geD, isD, isnotD, D.isN, negD, tvB, tvNot, tvAnd, tvOr, evT, evAnd, evOr, evNot, evIf, evChain, eCall, aCons, aNil, peeks, dats, lenD, intD, listD, tupleD, eTup, eLst, eSl, oNone, oSome, slD, revD, eLr1, eLr2, iSeq, iR1_eq, iR1f, iR2_eq, iR2f, iR3_eq, iR3f, iEnu, iZp, tYesM, eMeth, appendD, extendD, popD, reverseD, dropS, eFn, toArgs, backE, aft, finF, backs, eIsi, stp, lim, g2, hl', lim, hz]
  simp only [mi_length, rg_length] at h1 h2
  refine ⟨cs', r', k', h1, ?_⟩
  rcases h2 with ⟨h2, h3, h4⟩ | h2
  · exact ⟨h2, h3, by omega⟩
  · exact h2
theorem law_pool_ok (ns : List Int) (h : ns.length ≤ 63) : ∃ cs : List Int, f__law_pool [.dat (.scr ns)] = .ok (.new (.lst (mi cs))) [] ∧ 300 ≤ cs.length ∧ cs.length ≤ 5000 ∧ Cel cs := by
  obtain ⟨⟨c1, ct1, k1, r1⟩, a1, a2, a3, a4, a5, a6⟩ := forL_st (gm := gNm 2) (body := b__law_pool_4) (ds := mi ns) (i := 0) (a := ([], .un, .un, .un)) (fun (x : List Int × S × S × S) => [.dat (.scr ns), .own (.lst (mi x.1)), x.2.1, .un, x.2.2.1, x.2.2.2])
    (fun i x => Cel x.1 ∧ Pl x.2.1 = true ∧ Pl x.2.2.1 = true ∧ Pl x.2.2.2 = true ∧ x.1.length ≤ 60 * i) ⟨(fun _ h => nomatch h), rfl, rfl, rfl, by simp⟩ fun i ⟨cs, ct, k, r⟩ hi0 hi d hd ⟨g1, g2, g3, g4, g5⟩ => by
      obtain ⟨m, hd', rfl⟩ := List.mem_map.1 hd
      simp only [mi_length] at hi
      simp only at g1 g2 g3 g4 g5
      by_cases hm : (10 : Int) ^ 18 ≤ m
      · obtain ⟨cs1, r1, k1, f1, f2, f3, f4⟩ := pool_in (ns := ns) (ct := .dat (.int m)) (st := .un) (k := k) cs m g1 g3 (by omega)
        refine ⟨(cs1, .dat (.int m), k1, .dat (.int r1)), .inl ?_, f2, rfl, f3, rfl, by simp only; omega⟩
        simp at hm
        simp [b__law_pool_4, sSeq, sSet, sOwn, sAli, sAsg, sRet, sRetN, sIf, sPass, sExpr, sFor, sPar, sPar3, sParO, sParO3, eFnX, lendM, lends, lendD, lendR, atomD, keepO, slotOf, sOwn2, eFrz, tvT, truD, sortedD, insertD, eOp2, eOp1, eName, eD, ixD, setS_nw, setS_own, nwAt, noOwn_nw, peek_pl, gSb, gNm, gTp, gCs, gNl, getP, putP, addD, subD, mulD, modD, fdivD, powD, ltD, leD, gtD, geD, isD, isnotD, D.isN, negD, tvB, tvNot, tvAnd, tvOr, evT, evAnd, evOr, evNot, evIf, evChain, eCall, aCons, aNil, peeks, dats, lenD, intD, listD, tupleD, eTup, eLst, eSl, oNone, oSome, slD, revD, eLr1, eLr2, iSeq, iR1_eq, iR1f, iR2_eq, iR2f, iR3_eq, iR3f, iEnu, iZp, tYesM, eMeth, appendD, extendD, popD, reverseD, dropS, eFn, toArgs, backE, aft, finF, backs, eIsi, stp, lim, g2, g3, g4, hm, f1]
      · refine ⟨(cs ++ [m % 60, m / 60 % 60], .dat (.int m), k, .dat (.int m)), .inl ?_, g1.app (cel_two _ _), rfl, g3, rfl, by simp; omega⟩
        simp at hm
        have hm' : ¬ (1000000000000000000 ≤ m) := by omega
        have hl : cs.length + 2 ≤ 16777216 := by omega
        simp [b__law_pool_4, sSeq, sSet, sOwn, sAli, sAsg, sRet, sRetN, sIf, sPass, sExpr, sFor, sPar, sPar3, sParO, sParO3, eFnX, lendM, lends, lendD, lendR, atomD, keepO, slotOf, sOwn2, eFrz, tvT, truD, sortedD, insertD, eOp2, eOp1, eName, eD, ixD, setS_nw, setS_own, nwAt, noOwn_nw, peek_pl, gSb, gNm, gTp, gCs, gNl, getP, putP, addD, subD, mulD, modD, fdivD, powD, ltD, leD, gtD, geD, isD, isnotD, D.isN, negD, tvB, tvNot, tvAnd, tvOr, evT, evAnd, evOr, evNot, evIf, evChain, eCall, aCons, aNil, peeks, dats, lenD, intD, listD, tupleD, eTup, eLst, eSl, oNone, oSome, slD, revD, eLr1, eLr2, iSeq, iR1_eq, iR1f, iR2_eq, iR2f, iR3_eq, iR3f, iEnu, iZp, tYesM, eMeth, appendD, extendD, popD, reverseD, dropS, eFn, toArgs, backE, aft, finF, backs, eIsi, stp, lim, g2, g3, g4, hm', lim, hl]
  simp only [mi_length, Nat.zero_add] at a1 a2 a3 a4 a5 a6
  obtain ⟨⟨ct2, s2⟩, b1, b2⟩ := forL_st (gm := gNm 2) (body := b__law_pool_2) (ds := mi ns) (i := 0) (a := (ct1, 17)) (fun (x : S × Int) => [.dat (.scr ns), .own (.lst (mi c1)), x.1, .dat (.int x.2), k1, r1])
    (fun i x => Pl x.1 = true) a3 fun i ⟨ct, s⟩ hi0 hi d hd g2 => by
      obtain ⟨m, hd', rfl⟩ := List.mem_map.1 hd
      simp only at g2
      refine ⟨(.dat (.int m), (s * 31 + m) % 2147483647), .inl ?_, rfl⟩
      simp [b__law_pool_2, sSeq, sSet, sOwn, sAli, sAsg, sRet, sRetN, sIf, sPass, sExpr, sFor, sPar, sPar3, sParO, sParO3, eFnX, lendM, lends, lendD, lendR, atomD, keepO, slotOf, sOwn2, eFrz, tvT, truD, sortedD, insertD, eOp2, eOp1, eName, eD, ixD, setS_nw, setS_own, nwAt, noOwn_nw, peek_pl, gSb, gNm, gTp, gCs, gNl, getP, putP, addD, subD, mulD, modD, fdivD, powD, ltD, leD, gtD, geD, isD, isnotD, D.isN, negD, tvB, tvNot, tvAnd, tvOr, evT, evAnd, evOr, evNot, evIf, evChain, eCall, aCons, aNil, peeks, dats, lenD, intD, listD, tupleD, eTup, eLst, eSl, oNone, oSome, slD, revD, eLr1, eLr2, iSeq, iR1_eq, iR1f, iR2_eq, iR2f, iR3_eq, iR3f, iEnu, iZp, tYesM, eMeth, appendD, extendD, popD, reverseD, dropS, eFn, toArgs, backE, aft, finF, backs, eIsi, stp, lim, g2]
  simp only at b1 b2
  obtain ⟨⟨c3, k3, s3⟩, d1, d2, d3, d4⟩ := forL_st (gm := gNm 4) (body := b__law_pool_1) (ds := mi (rg 0 300)) (i := 0) (a := (c1, k1, s2)) (fun (x : List Int × S × Int) => [.dat (.scr ns), .own (.lst (mi x.1)), ct2, .dat (.int x.2.2), x.2.1, r1])
    (fun i x => Cel x.1 ∧ Pl x.2.1 = true ∧ x.1.length = c1.length + i) ⟨a2, a4, rfl⟩ fun i ⟨cs, k, s⟩ hi0 hi d hd ⟨g1, g2, g3⟩ => by
      obtain ⟨m, hd', rfl⟩ := List.mem_map.1 hd
      simp only [mi_length, rg_length] at hi
      simp only at g1 g2 g3
      have hl : cs.length < 16777216 := by omega
      refine ⟨(cs ++ [(s * 48271 + 11) % 2147483647 / 97 % 60], .dat (.int m), (s * 48271 + 11) % 2147483647), .inl ?_, g1.app (cel_one _), rfl, by simp; omega⟩
      simp [b__law_pool_1, sSeq, sSet, sOwn, sAli, sAsg, sRet, sRetN, sIf, sPass, sExpr, sFor, sPar, sPar3, sParO, sParO3, eFnX, lendM, lends, lendD, lendR, atomD, keepO, slotOf, sOwn2, eFrz, tvT, truD, sortedD, insertD, eOp2, eOp1, eName, eD, ixD, setS_nw, setS_own, nwAt, noOwn_nw, peek_pl, gSb, gNm, gTp, gCs, gNl, getP, putP, addD, subD, mulD, modD, fdivD, powD, ltD, leD, gtD, geD, isD, isnotD, D.isN, negD, tvB, tvNot, tvAnd, tvOr, evT, evAnd, evOr, evNot, evIf, evChain, eCall, aCons, aNil, peeks, dats, lenD, intD, listD, tupleD, eTup, eLst, eSl, oNone, oSome, slD, revD, eLr1, eLr2, iSeq, iR1_eq, iR1f, iR2_eq, iR2f, iR3_eq, iR3f, iEnu, iZp, tYesM, eMeth, appendD, extendD, popD, reverseD, dropS, eFn, toArgs, backE, aft, finF, backs, eIsi, stp, lim, g2, lim, hl]
  simp only [mi_length, rg_length] at d1 d2 d3 d4
  refine ⟨c3, ?_, by omega, by omega, d2⟩
  unfold f__law_pool runF
  rw [if_pos (by simp [isOwn])]
  simp [m__law_pool, sSeq, sSet, sOwn, sAli, sAsg, sRet, sRetN, sIf, sPass, sExpr, sFor, sPar, sPar3, sParO, sParO3, eFnX, lendM, lends, lendD, lendR, atomD, keepO, slotOf, sOwn2, eFrz, tvT, truD, sortedD, insertD, eOp2, eOp1, eName, eD, ixD, setS_nw, setS_own, nwAt, noOwn_nw, peek_pl, gSb, gNm, gTp, gCs, gNl, getP, putP, addD, subD, mulD, modD, fdivD, powD, ltD, leD, gtD, geD, isD, isnotD, D.isN, negD, tvB, tvNot, tvAnd, tvOr, evT, evAnd, evOr, evNot, evIf, evChain, eCall, aCons, aNil, peeks, dats, lenD, intD, listD, tupleD, eTup, eLst, eSl, oNone, oSome, slD, revD, eLr1, eLr2, iSeq, iR1_eq, iR1f, iR2_eq, iR2f, iR3_eq, iR3f, iEnu, iZp, tYesM, eMeth, appendD, extendD, popD, reverseD, dropS, eFn, toArgs, backE, aft, finF, backs, eIsi, stp, lim, ← mi_eq, a1, b1, d1]
theorem stream_ok (ns : List Int) (h : ns.length ≤ 63) : ∃ q : Pool, f__law_stream [.dat (.scr ns)] = .ok (.new (.lst q.1)) [] := by
  obtain ⟨cs, h1, h2, h3, h4⟩ := law_pool_ok ns h
  refine ⟨⟨mi (1 :: cs), ⟨1, cs, rfl, by omega, by omega, h2, h3, h4⟩⟩, ?_⟩
  unfold f__law_stream runF
  rw [if_pos (by simp [isOwn])]
  have hl : 1 + cs.length ≤ 16777216 := by omega
  simp [m__law_stream, sSeq, sSet, sOwn, sAli, sAsg, sRet, sRetN, sIf, sPass, sExpr, sFor, sPar, sPar3, sParO, sParO3, eFnX, lendM, lends, lendD, lendR, atomD, keepO, slotOf, sOwn2, eFrz, tvT, truD, sortedD, insertD, eOp2, eOp1, eName, eD, ixD, setS_nw, setS_own, nwAt, noOwn_nw, peek_pl, gSb, gNm, gTp, gCs, gNl, getP, putP, addD, subD, mulD, modD, fdivD, powD, ltD, leD, gtD, geD, isD, isnotD, D.isN, negD, tvB, tvNot, tvAnd, tvOr, evT, evAnd, evOr, evNot, evIf, evChain, eCall, aCons, aNil, peeks, dats, lenD, intD, listD, tupleD, eTup, eLst, eSl, oNone, oSome, slD, revD, eLr1, eLr2, iSeq, iR1_eq, iR1f, iR2_eq, iR2f, iR3_eq, iR3f, iEnu, iZp, tYesM, eMeth, appendD, extendD, popD, reverseD, dropS, eFn, toArgs, backE, aft, finF, backs, eIsi, stp, lim, h1, lim, hl]
end Law
namespace Bm
/-- a crossing on two pairs of numbers -/
def up (a b c d : Int) : Int × Int × Int × Int :=
  let z := a - min b 0 - c + max d 0
  (a + max b 0 + max (max d 0 - z) 0, d - max z 0, c + min d 0 + min (min b 0 + z) 0, b + max z 0)
def dn (a b c d : Int) : Int × Int × Int × Int :=
  let z := a + min b 0 - c - max d 0
  (a - max b 0 - max (max d 0 + z) 0, d + min z 0, c - min d 0 - min (min b 0 - z) 0, b - min z 0)
theorem dn_up (a b c d : Int) : (let p := up a b c d; dn p.1 p.2.1 p.2.2.1 p.2.2.2) = (a, b, c, d) := by
  simp only [up, dn]
  refine Prod.ext ?_ (Prod.ext ?_ (Prod.ext ?_ ?_)) <;> simp only <;> omega
theorem up_dn (a b c d : Int) : (let p := dn a b c d; up p.1 p.2.1 p.2.2.1 p.2.2.2) = (a, b, c, d) := by
  simp only [up, dn]
  refine Prod.ext ?_ (Prod.ext ?_ (Prod.ext ?_ ?_)) <;> simp only <;> omega
end Bm
namespace Bm
/-! ### words that stand for the same braid -/
def Ltr (n : Int) (l : Int) : Prop := l ≠ 0 ∧ -n < l ∧ l < n
inductive Rule (n : Int) : List Int → List Int → Prop
  | inv (l : Int) (h : Ltr n l) : Rule n [l, -l] []
  | far (a b : Int) (ha : Ltr n a) (hb : Ltr n b) (h : 1 < (a.natAbs : Int) - b.natAbs ∨ 1 < (b.natAbs : Int) - a.natAbs) : Rule n [a, b] [b, a]
  | near (a b : Int) (ha : Ltr n a) (hb : Ltr n b) (h : (0 < a ∧ 0 < b) ∨ (a < 0 ∧ b < 0)) (h1 : b = a + 1 ∨ a = b + 1) : Rule n [a, b, a] [b, a, b]
inductive Eqv (n : Int) : List Int → List Int → Prop
  | refl (w) : Eqv n w w
  | symm {u v} : Eqv n u v → Eqv n v u
  | trans {u v w} : Eqv n u v → Eqv n v w → Eqv n u w
  | step {x y} (u v) : Rule n x y → Eqv n (u ++ x ++ v) (u ++ y ++ v)
theorem Ltr.neg {n l : Int} (h : Ltr n l) : Ltr n (-l) := by unfold Ltr at *; omega
theorem Rule.eqv {n : Int} {x y : List Int} (h : Rule n x y) : Eqv n x y := by
  have := Eqv.step [] [] h
  simpa using this
theorem Eqv.left {n : Int} {u v : List Int} (a : List Int) (h : Eqv n u v) : Eqv n (a ++ u) (a ++ v) := by
  induction h with
  | refl => exact .refl _
  | symm _ ih => exact ih.symm
  | trans _ _ i1 i2 => exact i1.trans i2
  | step p q r => simpa [List.append_assoc] using Eqv.step (a ++ p) q r
theorem Eqv.right {n : Int} {u v : List Int} (a : List Int) (h : Eqv n u v) : Eqv n (u ++ a) (v ++ a) := by
  induction h with
  | refl => exact .refl _
  | symm _ ih => exact ih.symm
  | trans _ _ i1 i2 => exact i1.trans i2
  | step p q r => simpa [List.append_assoc] using Eqv.step p (q ++ a) r
theorem Eqv.app {n : Int} {u v a b : List Int} (h : Eqv n u v) (k : Eqv n a b) : Eqv n (u ++ a) (v ++ b) := (h.right a).trans (k.left v)
theorem Eqv.mid {n : Int} {u v : List Int} (a b : List Int) (h : Eqv n u v) : Eqv n (a ++ u ++ b) (a ++ v ++ b) := (h.left a).right b
theorem Eqv.of_eq {n : Int} {u v : List Int} (h : u = v) : Eqv n u v := h ▸ .refl _
/-- what the moves do not change -/
theorem Eqv.inv {n : Int} {α : Type} (F : List Int → α → α) (hn : ∀ a, F [] a = a) (ha : ∀ u v a, F (u ++ v) a = F v (F u a)) (hr : ∀ x y, Rule n x y → ∀ a, F x a = F y a) {u v : List Int} (h : Eqv n u v) : ∀ a, F u a = F v a := by
  induction h with
  | refl => exact fun _ => rfl
  | symm _ ih => exact fun a => (ih a).symm
  | trans _ _ i1 i2 => exact fun a => (i1 a).trans (i2 a)
  | step p q r => intro a; simp only [ha, hr _ _ r]
def Lw (n : Int) (w : List Int) : Prop := ∀ l ∈ w, Ltr n l
theorem Lw.nil {n : Int} : Lw n [] := fun _ h => nomatch h
theorem Lw.app {n : Int} {u v : List Int} (h : Lw n u) (k : Lw n v) : Lw n (u ++ v) := fun l hl => by
  rcases List.mem_append.1 hl with hl | hl
  · exact h l hl
  · exact k l hl
theorem Lw.of_app {n : Int} {u v : List Int} (h : Lw n (u ++ v)) : Lw n u ∧ Lw n v := ⟨fun l hl => h l (List.mem_append_left _ hl), fun l hl => h l (List.mem_append_right _ hl)⟩
theorem Lw.cons {n : Int} {l : Int} {w : List Int} (h : Ltr n l) (k : Lw n w) : Lw n (l :: w) := fun x hx => by
  rcases List.mem_cons.1 hx with rfl | hx
  · exact h
  · exact k x hx
/-! the back -/
def back (w : List Int) : List Int := w.reverse.map fun l => -l
theorem back_app (u v : List Int) : back (u ++ v) = back v ++ back u := by simp [back]
theorem back_back (w : List Int) : back (back w) = w := by
  unfold back
  rw [← List.map_reverse, List.reverse_reverse, List.map_map]
  have : (fun l : Int => -l) ∘ (fun l : Int => -l) = id := funext fun l => by simp
  rw [this, List.map_id]
theorem Rule.back {n : Int} {x y : List Int} (h : Rule n x y) : Eqv n (back x) (back y) := by
  cases h with
  | inv l h => exact (Rule.inv l h).eqv.trans (.refl _) |> fun k => by simpa [Bm.back] using k
  | far a b ha hb h =>
    have := (Rule.far (-b) (-a) (Ltr.neg (by assumption)) (Ltr.neg (by assumption)) (by omega)).eqv
    simpa [Bm.back] using this
  | near a b h h1 =>
    have := (Rule.near (-a) (-b) (Ltr.neg (by assumption)) (Ltr.neg (by assumption)) (by omega) (by omega)).eqv
    simpa [Bm.back] using this
theorem Eqv.back {n : Int} {u v : List Int} (h : Eqv n u v) : Eqv n (back u) (back v) := by
  induction h with
  | refl => exact .refl _
  | symm _ ih => exact ih.symm
  | trans _ _ i1 i2 => exact i1.trans i2
  | step p q r => simpa only [back_app, List.append_assoc] using (r.back.right (Bm.back p)).left (Bm.back q)
def Nz (w : List Int) : Prop := ∀ l ∈ w, l ≠ 0
theorem Nz.app {u v : List Int} (h : Nz u) (k : Nz v) : Nz (u ++ v) := fun l hl => by
  rcases List.mem_append.1 hl with hl | hl
  · exact h l hl
  · exact k l hl
theorem Nz.back {w : List Int} (h : Nz w) : Nz (back w) := fun l hl => by
  simp only [Bm.back, List.mem_map, List.mem_reverse] at hl
  obtain ⟨x, hx, rfl⟩ := hl
  have := h x hx
  omega
theorem Lw.nz {n : Int} {w : List Int} (h : Lw n w) : Nz w := fun l hl => (h l hl).1
theorem Lw.back {n : Int} {w : List Int} (h : Lw n w) : Lw n (Bm.back w) := fun l hl => by
  simp only [Bm.back, List.mem_map, List.mem_reverse] at hl
  obtain ⟨x, hx, rfl⟩ := hl
  have := h x hx
  unfold Ltr at *
  omega
theorem cancel {n : Int} : ∀ {w : List Int}, Lw n w → Eqv n (w ++ back w) []
  | [], _ => .refl _
  | l :: w, h => by
    have ih := cancel (w := w) fun x hx => h x (List.mem_cons_of_mem _ hx)
    have h1 : Eqv n ([l] ++ (w ++ back w) ++ [-l]) ([l] ++ [] ++ [-l]) := ih.mid _ _
    have h2 : Eqv n [l, -l] [] := (Rule.inv l (h l List.mem_cons_self)).eqv
    have h3 : (l :: w) ++ back (l :: w) = [l] ++ (w ++ back w) ++ [-l] := by simp [back]
    rw [h3]
    exact h1.trans h2
theorem cancel' {n : Int} {w : List Int} (h : Lw n w) : Eqv n (back w ++ w) [] := by
  have := cancel h.back
  rwa [back_back] at this
/-! the mirror -/
def mir (w : List Int) : List Int := w.map fun l => -l
theorem mir_app (u v : List Int) : mir (u ++ v) = mir u ++ mir v := by simp [mir]
theorem mir_mir (w : List Int) : mir (mir w) = w := by
  unfold mir
  rw [List.map_map]
  have : (fun l : Int => -l) ∘ (fun l : Int => -l) = id := funext fun l => by simp
  rw [this, List.map_id]
theorem Rule.mir {n : Int} {x y : List Int} (h : Rule n x y) : Eqv n (mir x) (mir y) := by
  cases h with
  | inv l h => 
    have := (Rule.inv (-l) h.neg).eqv
    simpa [Bm.mir] using this
  | far a b ha hb h =>
    have := (Rule.far (-a) (-b) (Ltr.neg (by assumption)) (Ltr.neg (by assumption)) (by omega)).eqv
    simpa [Bm.mir] using this
  | near a b h h1 =>
    have := (Rule.near (-a) (-b) (Ltr.neg (by assumption)) (Ltr.neg (by assumption)) (by omega) (by omega)).eqv
    simpa [Bm.mir] using this
theorem Eqv.mir {n : Int} {u v : List Int} (h : Eqv n u v) : Eqv n (mir u) (mir v) := by
  induction h with
  | refl => exact .refl _
  | symm _ ih => exact ih.symm
  | trans _ _ i1 i2 => exact i1.trans i2
  | step p q r => simpa only [mir_app, List.append_assoc] using (r.mir.right (Bm.mir q)).left (Bm.mir p)
theorem Lw.mir {n : Int} {w : List Int} (h : Lw n w) : Lw n (Bm.mir w) := fun l hl => by
  simp only [Bm.mir, List.mem_map] at hl
  obtain ⟨x, hx, rfl⟩ := hl
  have := h x hx
  unfold Ltr at *
  omega
/-! turned about: letters of n strands; Eqv n by words of n strands only -/
/-- one letter turned -/
def tl (n l : Int) : Int := if 0 < l then n - l else -(n + l)
def trn (n : Int) (w : List Int) : List Int := w.map (tl n)
theorem trn_app (n : Int) (u v : List Int) : trn n (u ++ v) = trn n u ++ trn n v := by simp [trn]
theorem tl_tl {n l : Int} (h : Ltr n l) : tl n (tl n l) = l := by
  unfold tl Ltr at *
  split <;> split <;> omega
theorem tl_ltr {n l : Int} (h : Ltr n l) : Ltr n (tl n l) := by
  unfold tl Ltr at *
  split <;> omega
theorem Lw.trn {n : Int} {w : List Int} (h : Lw n w) : Lw n (Bm.trn n w) := fun l hl => by
  simp only [Bm.trn, List.mem_map] at hl
  obtain ⟨x, hx, rfl⟩ := hl
  exact tl_ltr (h x hx)
theorem trn_trn {n : Int} : ∀ {w : List Int}, Lw n w → trn n (trn n w) = w
  | [], _ => rfl
  | l :: w, h => by
    have ih := trn_trn (n := n) (w := w) fun x hx => h x (List.mem_cons_of_mem _ hx)
    simp only [trn, List.map_cons, List.map_map] at ih ⊢
    rw [ih, tl_tl (h l List.mem_cons_self)]
end Bm
namespace Tp
/-! a checked certificate for identities of piecewise linear forms -/
def dot : List Int → List Int → Int
  | a :: u, b :: x => a * b + dot u x
  | _, _ => 0
def add : List Int → List Int → List Int
  | a :: u, b :: v => (a + b) :: add u v
  | [], v => v
  | u, [] => u
def sml (k : Int) (u : List Int) : List Int := u.map (k * ·)
theorem dot_nil (u : List Int) : dot u [] = 0 := by cases u <;> rfl
theorem dot_add : ∀ (u v x : List Int), dot (add u v) x = dot u x + dot v x
  | [], v, x => by simp [add, dot]
  | a :: u, [], x => by simp [add, dot]
  | a :: u, b :: v, [] => by simp [dot_nil]
  | a :: u, b :: v, y :: x => by
    simp only [add, dot, dot_add u v x, Int.add_mul]
    omega
theorem dot_sml (k : Int) : ∀ (u x : List Int), dot (sml k u) x = k * dot u x
  | [], x => by simp [sml, dot]
  | a :: u, [] => by simp [dot_nil]
  | a :: u, y :: x => by
    have := dot_sml k u x
    simp only [sml, List.map_cons, dot] at this ⊢
    rw [this, Int.mul_add, Int.mul_assoc]
inductive Ins where
  | lin (c : List (Int × Nat))
  | mx (c : List (Int × Nat))
inductive Tr where
  | fin
  | ln (l : List Int) (t : Tr)
  | sp (l : List Int) (p n : Tr)
  | ps (l : List Int) (m : Nat) (cs : List (Int × Nat)) (t : Tr)
  | ng (l : List Int) (m : Nat) (cs : List (Int × Nat)) (t : Tr)
def combV (vs : List Int) (c : List (Int × Nat)) : Int := c.foldr (fun p s => p.1 * vs.getD p.2 0 + s) 0
def comb (ls : List (List Int)) (c : List (Int × Nat)) : List Int := c.foldr (fun p s => add (sml p.1 (ls.getD p.2 [])) s) [0, 0, 0, 0, 0, 0]
def okV : List Int → List Ins → List Int → Prop
  | _, [], [] => True
  | vs, .lin c :: r, v :: o => v = combV vs c ∧ okV (v :: vs) r o
  | vs, .mx c :: r, v :: o => v = max (combV vs c) 0 ∧ okV (v :: vs) r o
  | _, _, _ => False
def inb (n : Nat) (c : List (Int × Nat)) : Bool := c.all fun p => decide (p.2 < n)
def pos (c : List (Int × Nat)) : Bool := c.all fun p => decide (0 ≤ p.1)
def zr : List Int := [0, 0, 0, 0, 0, 0]
def check (goals : List (Nat × Nat)) (ls cons : List (List Int)) : List Ins → Tr → Bool
  | [], .fin => goals.all fun p => ls.getD p.1 [] == ls.getD p.2 [] && decide (p.1 < ls.length) && decide (p.2 < ls.length)
  | .lin c :: r, .ln l t => inb ls.length c && (comb ls c == l) && check goals (l :: ls) cons r t
  | .mx c :: r, .sp l p n => inb ls.length c && (comb ls c == l) && check goals (l :: ls) (l :: cons) r p && check goals (zr :: ls) (sml (-1) l :: cons) r n
  | .mx c :: r, .ps l m cs t => inb ls.length c && (comb ls c == l) && decide (0 < m) && pos cs && (sml m l == comb cons cs) && check goals (l :: ls) cons r t
  | .mx c :: r, .ng l m cs t => inb ls.length c && (comb ls c == l) && decide (0 < m) && pos cs && (sml (-m) l == comb cons cs) && check goals (zr :: ls) cons r t
  | _, _ => false
theorem comb_dot {x : List Int} {ls : List (List Int)} {vs : List Int} (h : ∀ i, i < ls.length → vs.getD i 0 = dot (ls.getD i []) x) : ∀ {c : List (Int × Nat)}, inb ls.length c = true → dot (comb ls c) x = combV vs c
  | [], _ => by
    show dot [0, 0, 0, 0, 0, 0] x = 0
    rcases x with _ | ⟨_, _ | ⟨_, _ | ⟨_, _ | ⟨_, _ | ⟨_, _ | ⟨_, _⟩⟩⟩⟩⟩⟩ <;> simp [dot]
  | p :: c, hc => by
    simp only [inb, List.all_cons, Bool.and_eq_true, decide_eq_true_eq] at hc
    have ih := comb_dot h (c := c) hc.2
    simp only [comb, combV, List.foldr_cons] at ih ⊢
    rw [dot_add, ih, dot_sml, h _ hc.1]
theorem cons_pos {x : List Int} {cons : List (List Int)} (h : ∀ c ∈ cons, 0 ≤ dot c x) : ∀ {cs : List (Int × Nat)}, pos cs = true → 0 ≤ dot (comb cons cs) x
  | [], _ => by
    show 0 ≤ dot [0, 0, 0, 0, 0, 0] x
    rcases x with _ | ⟨_, _ | ⟨_, _ | ⟨_, _ | ⟨_, _ | ⟨_, _ | ⟨_, _⟩⟩⟩⟩⟩⟩ <;> simp [dot]
  | p :: c, hc => by
    simp only [pos, List.all_cons, Bool.and_eq_true, decide_eq_true_eq] at hc
    have ih := cons_pos h (cs := c) hc.2
    have hp : 0 ≤ dot (cons.getD p.2 []) x := by
      rw [List.getD_eq_getElem?_getD]
      cases e : cons[p.2]? with
      | none => simp [dot]
      | some u => exact h u (List.mem_of_getElem? e)
    simp only [comb, List.foldr_cons] at ih ⊢
    rw [dot_add, dot_sml]
    have := Int.mul_nonneg hc.1 hp
    omega
theorem grow {x : List Int} {ls : List (List Int)} {vs : List Int} {u : List Int} {v : Int} (h : ∀ i, i < ls.length → vs.getD i 0 = dot (ls.getD i []) x) (k : v = dot u x) : ∀ i, i < (u :: ls).length → (v :: vs).getD i 0 = dot ((u :: ls).getD i []) x := by
  intro i hi
  cases i with
  | zero => simpa using k
  | succ i => simpa using h i (by simpa using hi)
theorem dot_zr (x : List Int) : dot zr x = 0 := by
  rcases x with _ | ⟨_, _ | ⟨_, _ | ⟨_, _ | ⟨_, _ | ⟨_, _ | ⟨_, _⟩⟩⟩⟩⟩⟩ <;> simp [dot, zr]
theorem check_go {goals : List (Nat × Nat)} {x : List Int} : ∀ {pr : List Ins} {t : Tr} {ls cons : List (List Int)} {vs out : List Int}, check goals ls cons pr t = true → (∀ i, i < ls.length → vs.getD i 0 = dot (ls.getD i []) x) → (∀ c ∈ cons, 0 ≤ dot c x) → okV vs pr out → ∀ p ∈ goals, (out.reverse ++ vs).getD p.1 0 = (out.reverse ++ vs).getD p.2 0
  | [], t, ls, cons, vs, out, hc, hv, hs, ho => by
    cases t with
    | fin =>
      intro p hp
      simp only [check, List.all_eq_true, Bool.and_eq_true, beq_iff_eq, decide_eq_true_eq] at hc
      obtain ⟨⟨h1, h2⟩, h3⟩ := hc p hp
      cases out with
      | nil =>
        simp only [List.reverse_nil, List.nil_append]
        rw [hv _ h2, hv _ h3, h1]
      | cons => simp [okV] at ho
    | _ => cases hc
  | .lin c :: r, t, ls, cons, vs, [], hc, hv, hs, ho => by simp [okV] at ho
  | .mx c :: r, t, ls, cons, vs, [], hc, hv, hs, ho => by simp [okV] at ho
  | .lin c :: r, t, ls, cons, vs, v :: out, hc, hv, hs, ho => by
    rw [List.reverse_cons, List.append_assoc]
    cases t with
    | ln l t =>
      simp only [check, Bool.and_eq_true, beq_iff_eq] at hc
      obtain ⟨⟨c1, c2⟩, c3⟩ := hc
      exact check_go (pr := r) (vs := v :: vs) c3 (grow hv (by rw [ho.1, ← comb_dot hv c1, c2])) hs ho.2
    | _ => cases hc
  | .mx c :: r, t, ls, cons, vs, v :: out, hc, hv, hs, ho => by
    obtain ⟨ho1, ho2⟩ := ho
    rw [List.reverse_cons, List.append_assoc]
    cases t with
    | fin => cases hc
    | ln => cases hc
    | sp l p n =>
      simp only [check, Bool.and_eq_true, beq_iff_eq] at hc
      obtain ⟨⟨⟨c1, rfl⟩, c3⟩, c4⟩ := hc
      have e := comb_dot hv c1
      by_cases g : 0 ≤ combV vs c
      · refine check_go (pr := r) (vs := v :: vs) c3 (grow hv ?_) (fun u hu => ?_) ho2
        · rw [ho1, e]; omega
        · rcases List.mem_cons.1 hu with rfl | hu
          · rw [e]; exact g
          · exact hs u hu
      · refine check_go (pr := r) (vs := v :: vs) c4 (grow hv ?_) (fun u hu => ?_) ho2
        · rw [ho1, dot_zr]; omega
        · rcases List.mem_cons.1 hu with rfl | hu
          · rw [dot_sml, e]; omega
          · exact hs u hu
    | ps l m cs t =>
      simp only [check, Bool.and_eq_true, decide_eq_true_eq, beq_iff_eq] at hc
      obtain ⟨⟨⟨⟨⟨c1, rfl⟩, c2⟩, c3⟩, c4⟩, c5⟩ := hc
      have e := comb_dot hv c1
      have k := cons_pos hs c3
      rw [← c4, dot_sml, e] at k
      have g : 0 ≤ combV vs c := by
        rcases Int.lt_or_le (combV vs c) 0 with g | g
        · have := Int.mul_neg_of_pos_of_neg (a := (m : Int)) (by omega) g
          omega
        · exact g
      refine check_go (pr := r) (vs := v :: vs) c5 (grow hv ?_) hs ho2
      rw [ho1, e]; omega
    | ng l m cs t =>
      simp only [check, Bool.and_eq_true, decide_eq_true_eq, beq_iff_eq] at hc
      obtain ⟨⟨⟨⟨⟨c1, rfl⟩, c2⟩, c3⟩, c4⟩, c5⟩ := hc
      have e := comb_dot hv c1
      have k := cons_pos hs c3
      rw [← c4, dot_sml, e] at k
      have g : combV vs c ≤ 0 := by
        rcases Int.lt_or_le 0 (combV vs c) with g | g
        · have := Int.mul_pos (a := (m : Int)) (by omega) g
          rw [Int.neg_mul] at k
          omega
        · exact g
      refine check_go (pr := r) (vs := v :: vs) c5 (grow hv ?_) hs ho2
      rw [ho1, dot_zr]; omega
def unit6 : List (List Int) := [[0, 0, 0, 0, 0, 1], [0, 0, 0, 0, 1, 0], [0, 0, 0, 1, 0, 0], [0, 0, 1, 0, 0, 0], [0, 1, 0, 0, 0, 0], [1, 0, 0, 0, 0, 0]]
theorem check_ok {goals : List (Nat × Nat)} {pr : List Ins} {t : Tr} {x vs out : List Int} (h : check goals unit6 [] pr t = true) (hv : ∀ i, i < 6 → vs.getD i 0 = dot (unit6.getD i []) x) (ho : okV vs pr out) : ∀ p ∈ goals, (out.reverse ++ vs).getD p.1 0 = (out.reverse ++ vs).getD p.2 0 :=
  check_go (ls := unit6) h hv (fun _ h => nomatch h) ho
def prog : List Ins := [.mx [(1, 4)], .mx [(1, 3)], .lin [(1, 7), (-1, 6), (1, 1), (-1, 5), (1, 0)], .mx [(1, 0)], .mx [(1, 2), (-1, 1)], .mx [(1, 9), (-1, 4), (1, 2)], .lin [(1, 11), (1, 5), (1, 1)], .lin [(1, 9), (-1, 3)], .lin [(1, 11), (1, 10), (-1, 6), (1, 12), (-1, 7), (1, 5), (-1, 2)], .lin [(1, 13), (1, 5)], .mx [(1, 0)], .mx [(1, 11)], .lin [(1, 3), (-1, 2), (1, 1), (-1, 13), (1, 0)], .mx [(1, 0)], .mx [(1, 2), (-1, 1)], .mx [(1, 5), (-1, 4), (1, 2)], .lin [(1, 7), (1, 5), (1, 1)], .lin [(1, 17), (-1, 3)], .lin [(1, 19), (1, 18), (-1, 6), (1, 8), (-1, 7), (1, 5), (-1, 2)], .lin [(1, 9), (1, 5)], .mx [(1, 12)], .mx [(1, 3)], .lin [(1, 15), (-1, 14), (1, 1), (-1, 5), (1, 0)], .mx [(1, 0)], .mx [(1, 2), (-1, 1)], .mx [(1, 17), (-1, 4), (1, 2)], .lin [(1, 19), (1, 5), (1, 1)], .lin [(1, 9), (-1, 3)], .lin [(1, 11), (1, 10), (-1, 6), (1, 20), (-1, 7), (1, 5), (-1, 2)], .lin [(1, 21), (1, 5)], .lin [(1, 33), (-1, 32), (1, 28), (-1, 31), (1, 18)], .mx [(1, 0)], .mx [(1, 20), (-1, 1)], .mx [(1, 35), (-1, 31), (1, 2)], .lin [(1, 37), (1, 32), (1, 1)], .lin [(1, 35), (-1, 3)], .lin [(1, 37), (1, 36), (-1, 24), (1, 38), (-1, 34), (1, 5), (-1, 2)], .lin [(1, 39), (1, 5)], .mx [(1, 2)], .lin [(1, 44), (-1, 43), (1, 38), (-1, 4), (1, 0)], .mx [(1, 0)], .mx [(1, 2), (-1, 1)], .mx [(1, 46), (-1, 41), (1, 2)], .lin [(1, 48), (1, 42), (1, 1)], .lin [(1, 8), (-1, 3)], .lin [(1, 10), (1, 9), (-1, 6), (1, 49), (-1, 44), (1, 5), (-1, 2)], .lin [(1, 50), (1, 5)], .mx [(1, 0)], .mx [(1, 10)], .lin [(1, 3), (-1, 2), (1, 1), (-1, 12), (1, 0)], .mx [(1, 0)], .mx [(1, 2), (-1, 1)], .mx [(1, 5), (-1, 4), (1, 2)], .lin [(1, 7), (1, 5), (1, 1)], .lin [(1, 16), (-1, 3)], .lin [(1, 18), (1, 17), (-1, 6), (1, 8), (-1, 7), (1, 5), (-1, 2)], .lin [(1, 9), (1, 5)]]
def goals : List (Nat × Nat) := [(30, 13), (29, 12), (28, 3), (27, 2), (38, 1), (37, 0)]
def cert : Tr := .sp [0, 1, 0, 0, 0, 0] (.sp [0, 0, 0, 1, 0, 0] (.ln [1, 0, -1, 1, 0, 0] (.sp [1, 0, -1, 1, 0, 0] (.sp [-1, 0, 1, 0, 0, 0] (.ps [1, 0, -1, 1, 0, 0] 1 [(1, 1)] (.ln [0, 1, 1, 0, 0, 0] (.ln [-1, 0, 1, 0, 0, 0] (.ln [0, 0, 1, 0, 0, 0] (.ln [1, 1, -1, 1, 0, 0] (.ps [1, 1, -1, 1, 0, 0] 1 [(1, 3), (1, 1)] (.sp [0, 0, 0, 0, 0, 1] (.ln [0, 0, 1, 0, -1, 1] (.sp [0, 0, 1, 0, -1, 1] (.sp [0, 0, -1, 0, 1, 0] (.ps [0, 0, 1, 0, -1, 1] 1 [(1, 1)] (.ln [1, 1, -1, 1, 1, 0] (.ln [0, 0, -1, 0, 1, 0] (.ln [0, 0, 0, 0, 1, 0] (.ln [1, 1, 0, 1, -1, 1] (.ps [-1, 0, 1, 0, 0, 0] 1 [(1, 3)] (.ps [0, 0, -1, 0, 1, 0] 1 [(1, 0)] (.ln [-1, 0, 1, -1, 0, 0] (.ng [-1, 0, 1, -1, 0, 0] 1 [(1, 4)] (.ps [1, 0, -2, 1, 1, 0] 1 [(1, 4), (1, 0)] (.ng [-1, 0, 1, -1, 0, 0] 1 [(1, 4)] (.ln [0, 1, 0, 1, 1, 0] (.ln [0, 0, -1, 0, 1, 0] (.ln [0, 1, 0, 0, 1, 0] (.ln [-1, 0, 1, 0, 0, 0] (.ln [0, 0, 1, 0, -1, 1] (.ps [0, 0, 1, 0, -1, 1] 1 [(1, 1)] (.ps [0, 0, -1, 0, 1, 0] 1 [(1, 0)] (.ps [0, 0, 1, 0, -1, 1] 1 [(1, 1)] (.ln [0, 0, 0, 1, 1, 0] (.ln [0, 0, -1, 0, 1, 0] (.ln [0, 0, 0, 0, 1, 0] (.ln [0, 0, 1, 1, -1, 1] (.ps [0, 0, -1, 0, 1, 0] 1 [(1, 0)] (.ln [1, 0, -1, -1, 0, 0] (.ng [1, 0, -1, -1, 0, 0] 1 [(1, 5), (1, 3)] (.ps [-1, 0, 0, 1, 1, 0] 1 [(1, 5), (1, 3), (1, 0)] (.ng [1, 0, -1, -1, 0, 0] 1 [(1, 5), (1, 3)] (.ln [0, 1, 0, 1, 1, 0] (.ln [0, 0, -1, 0, 1, 0] (.ln [1, 0, -1, 0, 1, 0] (.ln [0, 1, 0, 0, 0, 0] (.ps [0, 1, 0, 0, 0, 0] 1 [(1, 6)] (.ps [0, 0, 1, 1, -1, 1] 1 [(1, 5), (1, 1)] (.ln [1, 0, 0, 1, -1, 1] (.ps [1, 0, 0, 1, -1, 1] 1 [(1, 4), (1, 1)] (.ps [-1, 0, 1, 0, 0, 0] 1 [(1, 3)] (.ps [1, 0, 0, 1, -1, 1] 1 [(1, 4), (1, 1)] (.ln [0, 1, 0, 0, 1, 0] (.ln [-1, 0, 1, 0, 0, 0] (.ln [0, 0, 0, 0, 1, 0] (.ln [1, 1, 0, 1, -1, 1] (.fin))))))))))))))))))))))))))))))))))))))))))) (.ps [0, 0, 1, 0, -1, 1] 1 [(1, 1)] (.ln [1, 1, 0, 1, 0, 0] (.ln [0, 0, -1, 0, 1, 0] (.ln [0, 0, 0, 0, 1, 0] (.ln [1, 1, 0, 1, -1, 1] (.ps [-1, 0, 1, 0, 0, 0] 1 [(1, 3)] (.ng [0, 0, -1, 0, 1, 0] 1 [(1, 0)] (.ln [-1, 0, 1, -1, 0, 0] (.ng [-1, 0, 1, -1, 0, 0] 1 [(1, 4)] (.ps [1, 0, -1, 1, 0, 0] 1 [(1, 4)] (.ng [-1, 0, 1, -1, 0, 0] 1 [(1, 4)] (.ln [0, 1, 1, 1, 0, 0] (.ln [0, 0, -1, 0, 1, 0] (.ln [0, 1, 0, 0, 1, 0] (.ln [-1, 0, 1, 0, 0, 0] (.ln [0, 0, 1, 0, -1, 1] (.ps [0, 0, 1, 0, -1, 1] 1 [(1, 1)] (.ng [0, 0, -1, 0, 1, 0] 1 [(1, 0)] (.ps [0, 0, 1, 0, -1, 1] 1 [(1, 1)] (.ln [0, 0, 1, 1, 0, 0] (.ln [0, 0, -1, 0, 1, 0] (.ln [0, 0, 0, 0, 1, 0] (.ln [0, 0, 1, 1, -1, 1] (.ng [0, 0, -1, 0, 1, 0] 1 [(1, 0)] (.ln [1, 0, -1, -1, 0, 0] (.ng [1, 0, -1, -1, 0, 0] 1 [(1, 5), (1, 3)] (.ps [-1, 0, 1, 1, 0, 0] 1 [(1, 5), (1, 3)] (.ng [1, 0, -1, -1, 0, 0] 1 [(1, 5), (1, 3)] (.ln [0, 1, 1, 1, 0, 0] (.ln [0, 0, -1, 0, 1, 0] (.ln [1, 0, -1, 0, 1, 0] (.ln [0, 1, 0, 0, 0, 0] (.ps [0, 1, 0, 0, 0, 0] 1 [(1, 6)] (.ps [0, 0, 1, 1, -1, 1] 1 [(1, 5), (1, 1)] (.ln [1, 0, 0, 1, -1, 1] (.ps [1, 0, 0, 1, -1, 1] 1 [(1, 4), (1, 1)] (.ps [-1, 0, 1, 0, 0, 0] 1 [(1, 3)] (.ps [1, 0, 0, 1, -1, 1] 1 [(1, 4), (1, 1)] (.ln [0, 1, 0, 0, 1, 0] (.ln [-1, 0, 1, 0, 0, 0] (.ln [0, 0, 0, 0, 1, 0] (.ln [1, 1, 0, 1, -1, 1] (.fin)))))))))))))))))))))))))))))))))))))))))))) (.ps [0, 0, -1, 0, 1, 0] 1 [(1, 1), (1, 0)] (.ng [0, 0, 1, 0, -1, 1] 1 [(1, 0)] (.ln [1, 1, -1, 1, 1, 0] (.ln [0, 0, 0, 0, 0, 1] (.ln [0, 0, 1, 0, 0, 1] (.ln [1, 1, -1, 1, 0, 0] (.ps [-1, 0, 1, 0, 0, 0] 1 [(1, 2)] (.ps [0, 0, 0, 0, 0, 1] 1 [(1, 1)] (.ln [-1, 0, 2, -1, -1, 1] (.ng [-1, 0, 2, -1, -1, 1] 1 [(1, 3), (1, 0)] (.ps [1, 0, -2, 1, 1, 0] 1 [(1, 3), (1, 1), (1, 0)] (.ng [-1, 0, 2, -1, -1, 1] 1 [(1, 3), (1, 0)] (.ln [0, 1, 0, 1, 1, 0] (.ln [0, 0, 0, 0, 0, 1] (.ln [0, 1, 1, 0, 0, 1] (.ln [-1, 0, 1, 0, 0, 0] (.ln [0, 0, 1, 0, -1, 1] (.ng [0, 0, 1, 0, -1, 1] 1 [(1, 0)] (.ps [0, 0, -1, 0, 1, 0] 1 [(1, 1), (1, 0)] (.ng [0, 0, 1, 0, -1, 1] 1 [(1, 0)] (.ln [0, 0, 0, 1, 1, 0] (.ln [0, 0, 0, 0, 0, 1] (.ln [0, 0, 1, 0, 0, 1] (.ln [0, 0, 0, 1, 0, 0] (.ps [0, 0, 0, 0, 0, 1] 1 [(1, 1)] (.ln [1, 0, 0, -1, -1, 1] (.ng [1, 0, 0, -1, -1, 1] 1 [(1, 4), (1, 2), (1, 0)] (.ps [-1, 0, 0, 1, 1, 0] 1 [(1, 4), (1, 2), (1, 1), (1, 0)] (.ng [1, 0, 0, -1, -1, 1] 1 [(1, 4), (1, 2), (1, 0)] (.ln [0, 1, 0, 1, 1, 0] (.ln [0, 0, 0, 0, 0, 1] (.ln [1, 0, 0, 0, 0, 1] (.ln [0, 1, 0, 0, 0, 0] (.ps [0, 1, 0, 0, 0, 0] 1 [(1, 5)] (.ps [0, 0, 0, 1, 0, 0] 1 [(1, 4)] (.ln [1, 0, -1, 1, 0, 0] (.ps [1, 0, -1, 1, 0, 0] 1 [(1, 3)] (.ps [-1, 0, 1, 0, 0, 0] 1 [(1, 2)] (.ps [1, 0, -1, 1, 0, 0] 1 [(1, 3)] (.ln [0, 1, 1, 0, 0, 1] (.ln [-1, 0, 1, 0, 0, 0] (.ln [0, 0, 1, 0, 0, 1] (.ln [1, 1, -1, 1, 0, 0] (.fin)))))))))))))))))))))))))))))))))))))))))))))) (.ln [0, 0, 1, 0, -1, 0] (.sp [0, 0, 1, 0, -1, 0] (.ng [0, 0, -1, 0, 1, 0] 1 [(1, 0)] (.ps [0, 0, 1, 0, -1, 0] 1 [(1, 0)] (.ln [1, 1, 0, 1, 0, 0] (.ln [0, 0, -1, 0, 1, 1] (.ln [0, 0, 0, 0, 1, 1] (.ln [1, 1, 0, 1, -1, 0] (.ps [-1, 0, 1, 0, 0, 0] 1 [(1, 2)] (.ng [0, 0, -1, 0, 1, 1] 1 [(1, 1), (1, 0)] (.ln [-1, 0, 1, -1, 0, 0] (.ng [-1, 0, 1, -1, 0, 0] 1 [(1, 3)] (.ps [1, 0, -1, 1, 0, 0] 1 [(1, 3)] (.ng [-1, 0, 1, -1, 0, 0] 1 [(1, 3)] (.ln [0, 1, 1, 1, 0, 0] (.ln [0, 0, -1, 0, 1, 1] (.ln [0, 1, 0, 0, 1, 1] (.ln [-1, 0, 1, 0, 0, 0] (.ln [0, 0, 1, 0, -1, 0] (.ps [0, 0, 1, 0, -1, 0] 1 [(1, 0)] (.ng [0, 0, -1, 0, 1, 0] 1 [(1, 0)] (.ps [0, 0, 1, 0, -1, 0] 1 [(1, 0)] (.ln [0, 0, 1, 1, 0, 0] (.ln [0, 0, -1, 0, 1, 1] (.ln [0, 0, 0, 0, 1, 1] (.ln [0, 0, 1, 1, -1, 0] (.ng [0, 0, -1, 0, 1, 1] 1 [(1, 1), (1, 0)] (.ln [1, 0, -1, -1, 0, 0] (.ng [1, 0, -1, -1, 0, 0] 1 [(1, 4), (1, 2)] (.ps [-1, 0, 1, 1, 0, 0] 1 [(1, 4), (1, 2)] (.ng [1, 0, -1, -1, 0, 0] 1 [(1, 4), (1, 2)] (.ln [0, 1, 1, 1, 0, 0] (.ln [0, 0, -1, 0, 1, 1] (.ln [1, 0, -1, 0, 1, 1] (.ln [0, 1, 0, 0, 0, 0] (.ps [0, 1, 0, 0, 0, 0] 1 [(1, 5)] (.ps [0, 0, 1, 1, -1, 0] 1 [(1, 4), (1, 0)] (.ln [1, 0, 0, 1, -1, 0] (.ps [1, 0, 0, 1, -1, 0] 1 [(1, 3), (1, 0)] (.ps [-1, 0, 1, 0, 0, 0] 1 [(1, 2)] (.ps [1, 0, 0, 1, -1, 0] 1 [(1, 3), (1, 0)] (.ln [0, 1, 0, 0, 1, 1] (.ln [-1, 0, 1, 0, 0, 0] (.ln [0, 0, 0, 0, 1, 1] (.ln [1, 1, 0, 1, -1, 0] (.fin)))))))))))))))))))))))))))))))))))))))))))) (.ps [0, 0, -1, 0, 1, 0] 1 [(1, 0)] (.ng [0, 0, 1, 0, -1, 0] 1 [(1, 0)] (.ln [1, 1, -1, 1, 1, 0] (.ln [0, 0, 0, 0, 0, 1] (.ln [0, 0, 1, 0, 0, 1] (.ln [1, 1, -1, 1, 0, 0] (.ps [-1, 0, 1, 0, 0, 0] 1 [(1, 2)] (.ng [0, 0, 0, 0, 0, 1] 1 [(1, 1)] (.ln [-1, 0, 2, -1, -1, 0] (.ng [-1, 0, 2, -1, -1, 0] 1 [(1, 3), (1, 0)] (.ps [1, 0, -2, 1, 1, 0] 1 [(1, 3), (1, 0)] (.ng [-1, 0, 2, -1, -1, 0] 1 [(1, 3), (1, 0)] (.ln [0, 1, 0, 1, 1, 0] (.ln [0, 0, 0, 0, 0, 1] (.ln [0, 1, 1, 0, 0, 1] (.ln [-1, 0, 1, 0, 0, 0] (.ln [0, 0, 1, 0, -1, 0] (.ng [0, 0, 1, 0, -1, 0] 1 [(1, 0)] (.ps [0, 0, -1, 0, 1, 0] 1 [(1, 0)] (.ng [0, 0, 1, 0, -1, 0] 1 [(1, 0)] (.ln [0, 0, 0, 1, 1, 0] (.ln [0, 0, 0, 0, 0, 1] (.ln [0, 0, 1, 0, 0, 1] (.ln [0, 0, 0, 1, 0, 0] (.ng [0, 0, 0, 0, 0, 1] 1 [(1, 1)] (.ln [1, 0, 0, -1, -1, 0] (.ng [1, 0, 0, -1, -1, 0] 1 [(1, 4), (1, 2), (1, 0)] (.ps [-1, 0, 0, 1, 1, 0] 1 [(1, 4), (1, 2), (1, 0)] (.ng [1, 0, 0, -1, -1, 0] 1 [(1, 4), (1, 2), (1, 0)] (.ln [0, 1, 0, 1, 1, 0] (.ln [0, 0, 0, 0, 0, 1] (.ln [1, 0, 0, 0, 0, 1] (.ln [0, 1, 0, 0, 0, 0] (.ps [0, 1, 0, 0, 0, 0] 1 [(1, 5)] (.ps [0, 0, 0, 1, 0, 0] 1 [(1, 4)] (.ln [1, 0, -1, 1, 0, 0] (.ps [1, 0, -1, 1, 0, 0] 1 [(1, 3)] (.ps [-1, 0, 1, 0, 0, 0] 1 [(1, 2)] (.ps [1, 0, -1, 1, 0, 0] 1 [(1, 3)] (.ln [0, 1, 1, 0, 0, 1] (.ln [-1, 0, 1, 0, 0, 0] (.ln [0, 0, 1, 0, 0, 1] (.ln [1, 1, -1, 1, 0, 0] (.fin))))))))))))))))))))))))))))))))))))))))))))))))))))) (.ps [1, 0, -1, 1, 0, 0] 1 [(1, 1)] (.ln [1, 1, 0, 0, 0, 0] (.ln [-1, 0, 1, 0, 0, 0] (.ln [0, 0, 1, 0, 0, 0] (.ln [1, 1, -1, 1, 0, 0] (.ps [1, 1, -1, 1, 0, 0] 1 [(1, 3), (1, 1)] (.sp [0, 0, 0, 0, 0, 1] (.ln [0, 0, 1, 0, -1, 1] (.sp [0, 0, 1, 0, -1, 1] (.sp [0, 0, -1, 0, 1, 0] (.ps [0, 0, 1, 0, -1, 1] 1 [(1, 1)] (.ln [1, 1, -1, 1, 1, 0] (.ln [0, 0, -1, 0, 1, 0] (.ln [0, 0, 0, 0, 1, 0] (.ln [1, 1, 0, 1, -1, 1] (.ng [-1, 0, 1, 0, 0, 0] 1 [(1, 3)] (.ps [0, 0, -1, 0, 1, 0] 1 [(1, 0)] (.ln [1, 0, -1, -1, 0, 0] (.sp [1, 0, -1, -1, 0, 0] (.sp [-1, 0, 0, 1, 1, 0] (.ng [0, 0, 0, -1, 0, 0] 1 [(1, 7)] (.ln [0, 1, 0, 1, 1, 0] (.ln [-1, 0, 0, 1, 1, 0] (.ln [1, 1, -1, 0, 1, 0] (.ln [0, 0, 0, -1, 0, 0] (.ln [0, 0, 1, 0, -1, 1] (.ps [0, 0, 1, 0, -1, 1] 1 [(1, 3)] (.ps [0, 0, -1, 0, 1, 0] 1 [(1, 2)] (.ps [0, 0, 1, 0, -1, 1] 1 [(1, 3)] (.ln [0, 0, 0, 1, 1, 0] (.ln [0, 0, -1, 0, 1, 0] (.ln [0, 0, 0, 0, 1, 0] (.ln [0, 0, 1, 1, -1, 1] (.ps [0, 0, -1, 0, 1, 0] 1 [(1, 2)] (.ln [1, 0, -1, -1, 0, 0] (.ps [1, 0, -1, -1, 0, 0] 1 [(1, 1)] (.ps [-1, 0, 0, 1, 1, 0] 1 [(1, 0)] (.ps [1, 0, -1, -1, 0, 0] 1 [(1, 1)] (.ln [0, 1, 0, 1, 1, 0] (.ln [-1, 0, 0, 1, 1, 0] (.ln [0, 0, 0, 1, 1, 0] (.ln [1, 1, -1, -1, 0, 0] (.ps [1, 1, -1, -1, 0, 0] 1 [(1, 8), (1, 1)] (.ps [0, 0, 1, 1, -1, 1] 1 [(1, 7), (1, 3)] (.ln [0, 0, 1, 2, -1, 1] (.ps [0, 0, 1, 2, -1, 1] 1 [(2, 7), (1, 3)] (.ng [0, 0, 0, -1, 0, 0] 1 [(1, 7)] (.ps [0, 0, 1, 2, -1, 1] 1 [(2, 7), (1, 3)] (.ln [1, 1, -1, 0, 1, 0] (.ln [0, 0, 0, -1, 0, 0] (.ln [0, 0, 0, 0, 1, 0] (.ln [1, 1, 0, 1, -1, 1] (.fin))))))))))))))))))))))))))))))))) (.ng [0, 0, 0, -1, 0, 0] 1 [(1, 7)] (.ln [1, 1, 0, 0, 0, 0] (.ln [-1, 0, 0, 1, 1, 0] (.ln [1, 1, -1, 0, 1, 0] (.ln [0, 0, 0, -1, 0, 0] (.ln [0, 0, 1, 0, -1, 1] (.ps [0, 0, 1, 0, -1, 1] 1 [(1, 3)] (.ps [0, 0, -1, 0, 1, 0] 1 [(1, 2)] (.ps [0, 0, 1, 0, -1, 1] 1 [(1, 3)] (.ln [0, 0, 0, 1, 1, 0] (.ln [0, 0, -1, 0, 1, 0] (.ln [0, 0, 0, 0, 1, 0] (.ln [0, 0, 1, 1, -1, 1] (.ps [0, 0, -1, 0, 1, 0] 1 [(1, 2)] (.ln [1, 0, -1, -1, 0, 0] (.ps [1, 0, -1, -1, 0, 0] 1 [(1, 1)] (.ng [-1, 0, 0, 1, 1, 0] 1 [(1, 0)] (.ps [1, 0, -1, -1, 0, 0] 1 [(1, 1)] (.ln [1, 1, 0, 0, 0, 0] (.ln [-1, 0, 0, 1, 1, 0] (.ln [0, 0, 0, 1, 1, 0] (.ln [1, 1, -1, -1, 0, 0] (.ps [1, 1, -1, -1, 0, 0] 1 [(1, 8), (1, 1)] (.ps [0, 0, 1, 1, -1, 1] 1 [(1, 7), (1, 3)] (.ln [0, 0, 1, 2, -1, 1] (.ps [0, 0, 1, 2, -1, 1] 1 [(2, 7), (1, 3)] (.ng [0, 0, 0, -1, 0, 0] 1 [(1, 7)] (.ps [0, 0, 1, 2, -1, 1] 1 [(2, 7), (1, 3)] (.ln [1, 1, -1, 0, 1, 0] (.ln [0, 0, 0, -1, 0, 0] (.ln [0, 0, 0, 0, 1, 0] (.ln [1, 1, 0, 1, -1, 1] (.fin)))))))))))))))))))))))))))))))))) (.ps [-1, 0, 0, 1, 1, 0] 1 [(1, 1), (1, 0)] (.ng [0, 0, 0, -1, 0, 0] 1 [(1, 6)] (.ln [0, 1, 0, 1, 1, 0] (.ln [0, 0, -1, 0, 1, 0] (.ln [1, 1, -1, 0, 1, 0] (.ln [-1, 0, 1, 0, 0, 0] (.ln [0, 0, 1, 0, -1, 1] (.ps [0, 0, 1, 0, -1, 1] 1 [(1, 2)] (.ps [0, 0, -1, 0, 1, 0] 1 [(1, 1)] (.ps [0, 0, 1, 0, -1, 1] 1 [(1, 2)] (.ln [0, 0, 0, 1, 1, 0] (.ln [0, 0, -1, 0, 1, 0] (.ln [0, 0, 0, 0, 1, 0] (.ln [0, 0, 1, 1, -1, 1] (.ps [0, 0, -1, 0, 1, 0] 1 [(1, 1)] (.ln [1, 0, -1, -1, 0, 0] (.ng [1, 0, -1, -1, 0, 0] 1 [(1, 0)] (.ps [-1, 0, 0, 1, 1, 0] 1 [(1, 1), (1, 0)] (.ng [1, 0, -1, -1, 0, 0] 1 [(1, 0)] (.ln [0, 1, 0, 1, 1, 0] (.ln [0, 0, -1, 0, 1, 0] (.ln [1, 0, -1, 0, 1, 0] (.ln [0, 1, 0, 0, 0, 0] (.ps [0, 1, 0, 0, 0, 0] 1 [(1, 7)] (.ps [0, 0, 1, 1, -1, 1] 1 [(1, 6), (1, 2)] (.ln [1, 0, 0, 1, -1, 1] (.ps [1, 0, 0, 1, -1, 1] 1 [(1, 5), (1, 2)] (.ng [-1, 0, 1, 0, 0, 0] 1 [(1, 4)] (.ps [1, 0, 0, 1, -1, 1] 1 [(1, 5), (1, 2)] (.ln [1, 1, -1, 0, 1, 0] (.ln [-1, 0, 1, 0, 0, 0] (.ln [0, 0, 0, 0, 1, 0] (.ln [1, 1, 0, 1, -1, 1] (.fin))))))))))))))))))))))))))))))))))))))))))) (.ps [0, 0, 1, 0, -1, 1] 1 [(1, 1)] (.ln [1, 1, 0, 1, 0, 0] (.ln [0, 0, -1, 0, 1, 0] (.ln [0, 0, 0, 0, 1, 0] (.ln [1, 1, 0, 1, -1, 1] (.ng [-1, 0, 1, 0, 0, 0] 1 [(1, 3)] (.ng [0, 0, -1, 0, 1, 0] 1 [(1, 0)] (.ln [1, 0, -1, -1, 0, 0] (.sp [1, 0, -1, -1, 0, 0] (.ng [-1, 0, 1, 1, 0, 0] 1 [(1, 0)] (.ng [0, 0, 0, -1, 0, 0] 1 [(1, 6)] (.ln [1, 1, 0, 0, 0, 0] (.ln [-1, 0, 0, 1, 1, 0] (.ln [1, 1, -1, 0, 1, 0] (.ln [0, 0, 0, -1, 0, 0] (.ln [0, 0, 1, 0, -1, 1] (.ps [0, 0, 1, 0, -1, 1] 1 [(1, 2)] (.ng [0, 0, -1, 0, 1, 0] 1 [(1, 1)] (.ps [0, 0, 1, 0, -1, 1] 1 [(1, 2)] (.ln [0, 0, 1, 1, 0, 0] (.ln [0, 0, -1, 0, 1, 0] (.ln [0, 0, 0, 0, 1, 0] (.ln [0, 0, 1, 1, -1, 1] (.ng [0, 0, -1, 0, 1, 0] 1 [(1, 1)] (.ln [1, 0, -1, -1, 0, 0] (.ps [1, 0, -1, -1, 0, 0] 1 [(1, 0)] (.ng [-1, 0, 1, 1, 0, 0] 1 [(1, 0)] (.ps [1, 0, -1, -1, 0, 0] 1 [(1, 0)] (.ln [1, 1, 0, 0, 0, 0] (.ln [-1, 0, 0, 1, 1, 0] (.ln [0, 0, 0, 1, 1, 0] (.ln [1, 1, -1, -1, 0, 0] (.ps [1, 1, -1, -1, 0, 0] 1 [(1, 7), (1, 0)] (.ps [0, 0, 1, 1, -1, 1] 1 [(1, 6), (1, 2)] (.ln [0, 0, 1, 2, -1, 1] (.ps [0, 0, 1, 2, -1, 1] 1 [(2, 6), (1, 2)] (.ng [0, 0, 0, -1, 0, 0] 1 [(1, 6)] (.ps [0, 0, 1, 2, -1, 1] 1 [(2, 6), (1, 2)] (.ln [1, 1, -1, 0, 1, 0] (.ln [0, 0, 0, -1, 0, 0] (.ln [0, 0, 0, 0, 1, 0] (.ln [1, 1, 0, 1, -1, 1] (.fin)))))))))))))))))))))))))))))))))) (.ps [-1, 0, 1, 1, 0, 0] 1 [(1, 0)] (.ng [0, 0, 0, -1, 0, 0] 1 [(1, 6)] (.ln [0, 1, 1, 1, 0, 0] (.ln [0, 0, -1, 0, 1, 0] (.ln [1, 1, -1, 0, 1, 0] (.ln [-1, 0, 1, 0, 0, 0] (.ln [0, 0, 1, 0, -1, 1] (.ps [0, 0, 1, 0, -1, 1] 1 [(1, 2)] (.ng [0, 0, -1, 0, 1, 0] 1 [(1, 1)] (.ps [0, 0, 1, 0, -1, 1] 1 [(1, 2)] (.ln [0, 0, 1, 1, 0, 0] (.ln [0, 0, -1, 0, 1, 0] (.ln [0, 0, 0, 0, 1, 0] (.ln [0, 0, 1, 1, -1, 1] (.ng [0, 0, -1, 0, 1, 0] 1 [(1, 1)] (.ln [1, 0, -1, -1, 0, 0] (.ng [1, 0, -1, -1, 0, 0] 1 [(1, 0)] (.ps [-1, 0, 1, 1, 0, 0] 1 [(1, 0)] (.ng [1, 0, -1, -1, 0, 0] 1 [(1, 0)] (.ln [0, 1, 1, 1, 0, 0] (.ln [0, 0, -1, 0, 1, 0] (.ln [1, 0, -1, 0, 1, 0] (.ln [0, 1, 0, 0, 0, 0] (.ps [0, 1, 0, 0, 0, 0] 1 [(1, 7)] (.ps [0, 0, 1, 1, -1, 1] 1 [(1, 6), (1, 2)] (.ln [1, 0, 0, 1, -1, 1] (.ps [1, 0, 0, 1, -1, 1] 1 [(1, 5), (1, 2)] (.ng [-1, 0, 1, 0, 0, 0] 1 [(1, 4)] (.ps [1, 0, 0, 1, -1, 1] 1 [(1, 5), (1, 2)] (.ln [1, 1, -1, 0, 1, 0] (.ln [-1, 0, 1, 0, 0, 0] (.ln [0, 0, 0, 0, 1, 0] (.ln [1, 1, 0, 1, -1, 1] (.fin)))))))))))))))))))))))))))))))))))))))))))) (.ps [0, 0, -1, 0, 1, 0] 1 [(1, 1), (1, 0)] (.ng [0, 0, 1, 0, -1, 1] 1 [(1, 0)] (.ln [1, 1, -1, 1, 1, 0] (.ln [0, 0, 0, 0, 0, 1] (.ln [0, 0, 1, 0, 0, 1] (.ln [1, 1, -1, 1, 0, 0] (.ng [-1, 0, 1, 0, 0, 0] 1 [(1, 2)] (.ps [0, 0, 0, 0, 0, 1] 1 [(1, 1)] (.ln [1, 0, 0, -1, -1, 1] (.sp [1, 0, 0, -1, -1, 1] (.sp [-1, 0, 0, 1, 1, 0] (.ng [0, 0, 1, -1, -1, 1] 1 [(1, 6), (1, 2)] (.ln [0, 1, 0, 1, 1, 0] (.ln [-1, 0, 0, 1, 1, 0] (.ln [1, 1, 0, 0, 0, 1] (.ln [0, 0, 1, -1, -1, 1] (.ln [0, 0, 1, 0, -1, 1] (.ng [0, 0, 1, 0, -1, 1] 1 [(1, 2)] (.ps [0, 0, -1, 0, 1, 0] 1 [(1, 3), (1, 2)] (.ng [0, 0, 1, 0, -1, 1] 1 [(1, 2)] (.ln [0, 0, 0, 1, 1, 0] (.ln [0, 0, 0, 0, 0, 1] (.ln [0, 0, 1, 0, 0, 1] (.ln [0, 0, 0, 1, 0, 0] (.ps [0, 0, 0, 0, 0, 1] 1 [(1, 3)] (.ln [1, 0, 0, -1, -1, 1] (.ps [1, 0, 0, -1, -1, 1] 1 [(1, 1)] (.ps [-1, 0, 0, 1, 1, 0] 1 [(1, 0)] (.ps [1, 0, 0, -1, -1, 1] 1 [(1, 1)] (.ln [0, 1, 0, 1, 1, 0] (.ln [-1, 0, 0, 1, 1, 0] (.ln [0, 0, 0, 1, 1, 0] (.ln [1, 1, 0, -1, -1, 1] (.ps [1, 1, 0, -1, -1, 1] 1 [(1, 7), (1, 1)] (.ps [0, 0, 0, 1, 0, 0] 1 [(1, 6)] (.ln [0, 0, -1, 2, 1, -1] (.ps [0, 0, -1, 2, 1, -1] 1 [(2, 6), (1, 2)] (.ng [0, 0, 1, -1, -1, 1] 1 [(1, 6), (1, 2)] (.ps [0, 0, -1, 2, 1, -1] 1 [(2, 6), (1, 2)] (.ln [1, 1, 0, 0, 0, 1] (.ln [0, 0, 1, -1, -1, 1] (.ln [0, 0, 1, 0, 0, 1] (.ln [1, 1, -1, 1, 0, 0] (.fin))))))))))))))))))))))))))))))))) (.ng [0, 0, 1, -1, -1, 1] 1 [(1, 6), (1, 2)] (.ln [1, 1, 0, 0, 0, 0] (.ln [-1, 0, 0, 1, 1, 0] (.ln [1, 1, 0, 0, 0, 1] (.ln [0, 0, 1, -1, -1, 1] (.ln [0, 0, 1, 0, -1, 1] (.ng [0, 0, 1, 0, -1, 1] 1 [(1, 2)] (.ps [0, 0, -1, 0, 1, 0] 1 [(1, 3), (1, 2)] (.ng [0, 0, 1, 0, -1, 1] 1 [(1, 2)] (.ln [0, 0, 0, 1, 1, 0] (.ln [0, 0, 0, 0, 0, 1] (.ln [0, 0, 1, 0, 0, 1] (.ln [0, 0, 0, 1, 0, 0] (.ps [0, 0, 0, 0, 0, 1] 1 [(1, 3)] (.ln [1, 0, 0, -1, -1, 1] (.ps [1, 0, 0, -1, -1, 1] 1 [(1, 1)] (.ng [-1, 0, 0, 1, 1, 0] 1 [(1, 0)] (.ps [1, 0, 0, -1, -1, 1] 1 [(1, 1)] (.ln [1, 1, 0, 0, 0, 0] (.ln [-1, 0, 0, 1, 1, 0] (.ln [0, 0, 0, 1, 1, 0] (.ln [1, 1, 0, -1, -1, 1] (.ps [1, 1, 0, -1, -1, 1] 1 [(1, 7), (1, 1)] (.ps [0, 0, 0, 1, 0, 0] 1 [(1, 6)] (.ln [0, 0, -1, 2, 1, -1] (.ps [0, 0, -1, 2, 1, -1] 1 [(2, 6), (1, 2)] (.ng [0, 0, 1, -1, -1, 1] 1 [(1, 6), (1, 2)] (.ps [0, 0, -1, 2, 1, -1] 1 [(2, 6), (1, 2)] (.ln [1, 1, 0, 0, 0, 1] (.ln [0, 0, 1, -1, -1, 1] (.ln [0, 0, 1, 0, 0, 1] (.ln [1, 1, -1, 1, 0, 0] (.fin)))))))))))))))))))))))))))))))))) (.ps [-1, 0, 0, 1, 1, 0] 1 [(1, 2), (1, 0)] (.ng [0, 0, 1, -1, -1, 1] 1 [(1, 5), (1, 1)] (.ln [0, 1, 0, 1, 1, 0] (.ln [0, 0, 0, 0, 0, 1] (.ln [1, 1, 0, 0, 0, 1] (.ln [-1, 0, 1, 0, 0, 0] (.ln [0, 0, 1, 0, -1, 1] (.ng [0, 0, 1, 0, -1, 1] 1 [(1, 1)] (.ps [0, 0, -1, 0, 1, 0] 1 [(1, 2), (1, 1)] (.ng [0, 0, 1, 0, -1, 1] 1 [(1, 1)] (.ln [0, 0, 0, 1, 1, 0] (.ln [0, 0, 0, 0, 0, 1] (.ln [0, 0, 1, 0, 0, 1] (.ln [0, 0, 0, 1, 0, 0] (.ps [0, 0, 0, 0, 0, 1] 1 [(1, 2)] (.ln [1, 0, 0, -1, -1, 1] (.ng [1, 0, 0, -1, -1, 1] 1 [(1, 0)] (.ps [-1, 0, 0, 1, 1, 0] 1 [(1, 2), (1, 0)] (.ng [1, 0, 0, -1, -1, 1] 1 [(1, 0)] (.ln [0, 1, 0, 1, 1, 0] (.ln [0, 0, 0, 0, 0, 1] (.ln [1, 0, 0, 0, 0, 1] (.ln [0, 1, 0, 0, 0, 0] (.ps [0, 1, 0, 0, 0, 0] 1 [(1, 6)] (.ps [0, 0, 0, 1, 0, 0] 1 [(1, 5)] (.ln [1, 0, -1, 1, 0, 0] (.ps [1, 0, -1, 1, 0, 0] 1 [(1, 4)] (.ng [-1, 0, 1, 0, 0, 0] 1 [(1, 3)] (.ps [1, 0, -1, 1, 0, 0] 1 [(1, 4)] (.ln [1, 1, 0, 0, 0, 1] (.ln [-1, 0, 1, 0, 0, 0] (.ln [0, 0, 1, 0, 0, 1] (.ln [1, 1, -1, 1, 0, 0] (.fin)))))))))))))))))))))))))))))))))))))))))))))) (.ln [0, 0, 1, 0, -1, 0] (.sp [0, 0, 1, 0, -1, 0] (.ng [0, 0, -1, 0, 1, 0] 1 [(1, 0)] (.ps [0, 0, 1, 0, -1, 0] 1 [(1, 0)] (.ln [1, 1, 0, 1, 0, 0] (.ln [0, 0, -1, 0, 1, 1] (.ln [0, 0, 0, 0, 1, 1] (.ln [1, 1, 0, 1, -1, 0] (.ng [-1, 0, 1, 0, 0, 0] 1 [(1, 2)] (.ng [0, 0, -1, 0, 1, 1] 1 [(1, 1), (1, 0)] (.ln [1, 0, -1, -1, 0, 0] (.sp [1, 0, -1, -1, 0, 0] (.ng [-1, 0, 1, 1, 0, 0] 1 [(1, 0)] (.ng [0, 0, 0, -1, 0, 0] 1 [(1, 5)] (.ln [1, 1, 0, 0, 0, 0] (.ln [-1, 0, 0, 1, 1, 1] (.ln [1, 1, -1, 0, 1, 1] (.ln [0, 0, 0, -1, 0, 0] (.ln [0, 0, 1, 0, -1, 0] (.ps [0, 0, 1, 0, -1, 0] 1 [(1, 1)] (.ng [0, 0, -1, 0, 1, 0] 1 [(1, 1)] (.ps [0, 0, 1, 0, -1, 0] 1 [(1, 1)] (.ln [0, 0, 1, 1, 0, 0] (.ln [0, 0, -1, 0, 1, 1] (.ln [0, 0, 0, 0, 1, 1] (.ln [0, 0, 1, 1, -1, 0] (.ng [0, 0, -1, 0, 1, 1] 1 [(1, 2), (1, 1)] (.ln [1, 0, -1, -1, 0, 0] (.ps [1, 0, -1, -1, 0, 0] 1 [(1, 0)] (.ng [-1, 0, 1, 1, 0, 0] 1 [(1, 0)] (.ps [1, 0, -1, -1, 0, 0] 1 [(1, 0)] (.ln [1, 1, 0, 0, 0, 0] (.ln [-1, 0, 0, 1, 1, 1] (.ln [0, 0, 0, 1, 1, 1] (.ln [1, 1, -1, -1, 0, 0] (.ps [1, 1, -1, -1, 0, 0] 1 [(1, 6), (1, 0)] (.ps [0, 0, 1, 1, -1, 0] 1 [(1, 5), (1, 1)] (.ln [0, 0, 1, 2, -1, 0] (.ps [0, 0, 1, 2, -1, 0] 1 [(2, 5), (1, 1)] (.ng [0, 0, 0, -1, 0, 0] 1 [(1, 5)] (.ps [0, 0, 1, 2, -1, 0] 1 [(2, 5), (1, 1)] (.ln [1, 1, -1, 0, 1, 1] (.ln [0, 0, 0, -1, 0, 0] (.ln [0, 0, 0, 0, 1, 1] (.ln [1, 1, 0, 1, -1, 0] (.fin)))))))))))))))))))))))))))))))))) (.ps [-1, 0, 1, 1, 0, 0] 1 [(1, 0)] (.ng [0, 0, 0, -1, 0, 0] 1 [(1, 5)] (.ln [0, 1, 1, 1, 0, 0] (.ln [0, 0, -1, 0, 1, 1] (.ln [1, 1, -1, 0, 1, 1] (.ln [-1, 0, 1, 0, 0, 0] (.ln [0, 0, 1, 0, -1, 0] (.ps [0, 0, 1, 0, -1, 0] 1 [(1, 1)] (.ng [0, 0, -1, 0, 1, 0] 1 [(1, 1)] (.ps [0, 0, 1, 0, -1, 0] 1 [(1, 1)] (.ln [0, 0, 1, 1, 0, 0] (.ln [0, 0, -1, 0, 1, 1] (.ln [0, 0, 0, 0, 1, 1] (.ln [0, 0, 1, 1, -1, 0] (.ng [0, 0, -1, 0, 1, 1] 1 [(1, 2), (1, 1)] (.ln [1, 0, -1, -1, 0, 0] (.ng [1, 0, -1, -1, 0, 0] 1 [(1, 0)] (.ps [-1, 0, 1, 1, 0, 0] 1 [(1, 0)] (.ng [1, 0, -1, -1, 0, 0] 1 [(1, 0)] (.ln [0, 1, 1, 1, 0, 0] (.ln [0, 0, -1, 0, 1, 1] (.ln [1, 0, -1, 0, 1, 1] (.ln [0, 1, 0, 0, 0, 0] (.ps [0, 1, 0, 0, 0, 0] 1 [(1, 6)] (.ps [0, 0, 1, 1, -1, 0] 1 [(1, 5), (1, 1)] (.ln [1, 0, 0, 1, -1, 0] (.ps [1, 0, 0, 1, -1, 0] 1 [(1, 4), (1, 1)] (.ng [-1, 0, 1, 0, 0, 0] 1 [(1, 3)] (.ps [1, 0, 0, 1, -1, 0] 1 [(1, 4), (1, 1)] (.ln [1, 1, -1, 0, 1, 1] (.ln [-1, 0, 1, 0, 0, 0] (.ln [0, 0, 0, 0, 1, 1] (.ln [1, 1, 0, 1, -1, 0] (.fin)))))))))))))))))))))))))))))))))))))))))))) (.ps [0, 0, -1, 0, 1, 0] 1 [(1, 0)] (.ng [0, 0, 1, 0, -1, 0] 1 [(1, 0)] (.ln [1, 1, -1, 1, 1, 0] (.ln [0, 0, 0, 0, 0, 1] (.ln [0, 0, 1, 0, 0, 1] (.ln [1, 1, -1, 1, 0, 0] (.ng [-1, 0, 1, 0, 0, 0] 1 [(1, 2)] (.ng [0, 0, 0, 0, 0, 1] 1 [(1, 1)] (.ln [1, 0, 0, -1, -1, 0] (.sp [1, 0, 0, -1, -1, 0] (.ng [-1, 0, 0, 1, 1, 0] 1 [(1, 0)] (.ng [0, 0, 1, -1, -1, 0] 1 [(1, 5), (1, 1)] (.ln [1, 1, 0, 0, 0, 0] (.ln [-1, 0, 0, 1, 1, 1] (.ln [1, 1, 0, 0, 0, 1] (.ln [0, 0, 1, -1, -1, 0] (.ln [0, 0, 1, 0, -1, 0] (.ng [0, 0, 1, 0, -1, 0] 1 [(1, 1)] (.ps [0, 0, -1, 0, 1, 0] 1 [(1, 1)] (.ng [0, 0, 1, 0, -1, 0] 1 [(1, 1)] (.ln [0, 0, 0, 1, 1, 0] (.ln [0, 0, 0, 0, 0, 1] (.ln [0, 0, 1, 0, 0, 1] (.ln [0, 0, 0, 1, 0, 0] (.ng [0, 0, 0, 0, 0, 1] 1 [(1, 2)] (.ln [1, 0, 0, -1, -1, 0] (.ps [1, 0, 0, -1, -1, 0] 1 [(1, 0)] (.ng [-1, 0, 0, 1, 1, 0] 1 [(1, 0)] (.ps [1, 0, 0, -1, -1, 0] 1 [(1, 0)] (.ln [1, 1, 0, 0, 0, 0] (.ln [-1, 0, 0, 1, 1, 1] (.ln [0, 0, 0, 1, 1, 1] (.ln [1, 1, 0, -1, -1, 0] (.ps [1, 1, 0, -1, -1, 0] 1 [(1, 6), (1, 0)] (.ps [0, 0, 0, 1, 0, 0] 1 [(1, 5)] (.ln [0, 0, -1, 2, 1, 0] (.ps [0, 0, -1, 2, 1, 0] 1 [(2, 5), (1, 1)] (.ng [0, 0, 1, -1, -1, 0] 1 [(1, 5), (1, 1)] (.ps [0, 0, -1, 2, 1, 0] 1 [(2, 5), (1, 1)] (.ln [1, 1, 0, 0, 0, 1] (.ln [0, 0, 1, -1, -1, 0] (.ln [0, 0, 1, 0, 0, 1] (.ln [1, 1, -1, 1, 0, 0] (.fin)))))))))))))))))))))))))))))))))) (.ps [-1, 0, 0, 1, 1, 0] 1 [(1, 0)] (.ng [0, 0, 1, -1, -1, 0] 1 [(1, 5), (1, 1)] (.ln [0, 1, 0, 1, 1, 0] (.ln [0, 0, 0, 0, 0, 1] (.ln [1, 1, 0, 0, 0, 1] (.ln [-1, 0, 1, 0, 0, 0] (.ln [0, 0, 1, 0, -1, 0] (.ng [0, 0, 1, 0, -1, 0] 1 [(1, 1)] (.ps [0, 0, -1, 0, 1, 0] 1 [(1, 1)] (.ng [0, 0, 1, 0, -1, 0] 1 [(1, 1)] (.ln [0, 0, 0, 1, 1, 0] (.ln [0, 0, 0, 0, 0, 1] (.ln [0, 0, 1, 0, 0, 1] (.ln [0, 0, 0, 1, 0, 0] (.ng [0, 0, 0, 0, 0, 1] 1 [(1, 2)] (.ln [1, 0, 0, -1, -1, 0] (.ng [1, 0, 0, -1, -1, 0] 1 [(1, 0)] (.ps [-1, 0, 0, 1, 1, 0] 1 [(1, 0)] (.ng [1, 0, 0, -1, -1, 0] 1 [(1, 0)] (.ln [0, 1, 0, 1, 1, 0] (.ln [0, 0, 0, 0, 0, 1] (.ln [1, 0, 0, 0, 0, 1] (.ln [0, 1, 0, 0, 0, 0] (.ps [0, 1, 0, 0, 0, 0] 1 [(1, 6)] (.ps [0, 0, 0, 1, 0, 0] 1 [(1, 5)] (.ln [1, 0, -1, 1, 0, 0] (.ps [1, 0, -1, 1, 0, 0] 1 [(1, 4)] (.ng [-1, 0, 1, 0, 0, 0] 1 [(1, 3)] (.ps [1, 0, -1, 1, 0, 0] 1 [(1, 4)] (.ln [1, 1, 0, 0, 0, 1] (.ln [-1, 0, 1, 0, 0, 0] (.ln [0, 0, 1, 0, 0, 1] (.ln [1, 1, -1, 1, 0, 0] (.fin)))))))))))))))))))))))))))))))))))))))))))))))))))))) (.ps [-1, 0, 1, 0, 0, 0] 1 [(1, 1), (1, 0)] (.ng [1, 0, -1, 1, 0, 0] 1 [(1, 0)] (.ln [0, 1, 1, 0, 0, 0] (.ln [0, 0, 0, 1, 0, 0] (.ln [1, 0, 0, 1, 0, 0] (.ln [0, 1, 0, 0, 0, 0] (.ps [0, 1, 0, 0, 0, 0] 1 [(1, 2)] (.sp [0, 0, 0, 0, 0, 1] (.ln [1, 0, 0, 1, -1, 1] (.sp [1, 0, 0, 1, -1, 1] (.sp [-1, 0, 0, -1, 1, 0] (.ps [1, 0, 0, 1, -1, 1] 1 [(1, 1)] (.ln [0, 1, 0, 0, 1, 0] (.ln [-1, 0, 0, -1, 1, 0] (.ln [0, 0, 0, 0, 1, 0] (.ln [1, 1, 0, 1, -1, 1] (.ps [0, 0, 0, 1, 0, 0] 1 [(1, 4)] (.ps [-1, 0, 0, -1, 1, 0] 1 [(1, 0)] (.ln [-1, 0, 1, -1, 0, 0] (.ps [-1, 0, 1, -1, 0, 0] 1 [(1, 3)] (.sp [0, 0, -1, 0, 1, 0] (.ps [-1, 0, 1, -1, 0, 0] 1 [(1, 4)] (.ln [0, 1, 0, 1, 1, 0] (.ln [0, 0, -1, 0, 1, 0] (.ln [0, 1, 0, 0, 1, 0] (.ln [-1, 0, 1, 0, 0, 0] (.ln [0, 0, 1, 0, -1, 1] (.ps [0, 0, 1, 0, -1, 1] 1 [(1, 4), (1, 2)] (.ps [0, 0, -1, 0, 1, 0] 1 [(1, 0)] (.ps [0, 0, 1, 0, -1, 1] 1 [(1, 4), (1, 2)] (.ln [0, 0, 0, 1, 1, 0] (.ln [0, 0, -1, 0, 1, 0] (.ln [0, 0, 0, 0, 1, 0] (.ln [0, 0, 1, 1, -1, 1] (.ps [0, 0, -1, 0, 1, 0] 1 [(1, 0)] (.ln [1, 0, -1, -1, 0, 0] (.ng [1, 0, -1, -1, 0, 0] 1 [(2, 5), (1, 4)] (.ps [-1, 0, 0, 1, 1, 0] 1 [(2, 5), (1, 1)] (.ng [1, 0, -1, -1, 0, 0] 1 [(2, 5), (1, 4)] (.ln [0, 1, 0, 1, 1, 0] (.ln [0, 0, -1, 0, 1, 0] (.ln [1, 0, -1, 0, 1, 0] (.ln [0, 1, 0, 0, 0, 0] (.ps [0, 1, 0, 0, 0, 0] 1 [(1, 6)] (.ps [0, 0, 1, 1, -1, 1] 1 [(1, 5), (1, 4), (1, 2)] (.ln [1, 0, 0, 1, -1, 1] (.ps [1, 0, 0, 1, -1, 1] 1 [(1, 2)] (.ps [-1, 0, 1, 0, 0, 0] 1 [(1, 5), (1, 4)] (.ps [1, 0, 0, 1, -1, 1] 1 [(1, 2)] (.ln [0, 1, 0, 0, 1, 0] (.ln [-1, 0, 1, 0, 0, 0] (.ln [0, 0, 0, 0, 1, 0] (.ln [1, 1, 0, 1, -1, 1] (.fin))))))))))))))))))))))))))))))))) (.ps [-1, 0, 1, -1, 0, 0] 1 [(1, 4)] (.ln [0, 1, 1, 1, 0, 0] (.ln [0, 0, -1, 0, 1, 0] (.ln [0, 1, 0, 0, 1, 0] (.ln [-1, 0, 1, 0, 0, 0] (.ln [0, 0, 1, 0, -1, 1] (.ps [0, 0, 1, 0, -1, 1] 1 [(1, 4), (1, 2)] (.ng [0, 0, -1, 0, 1, 0] 1 [(1, 0)] (.ps [0, 0, 1, 0, -1, 1] 1 [(1, 4), (1, 2)] (.ln [0, 0, 1, 1, 0, 0] (.ln [0, 0, -1, 0, 1, 0] (.ln [0, 0, 0, 0, 1, 0] (.ln [0, 0, 1, 1, -1, 1] (.ng [0, 0, -1, 0, 1, 0] 1 [(1, 0)] (.ln [1, 0, -1, -1, 0, 0] (.ng [1, 0, -1, -1, 0, 0] 1 [(2, 5), (1, 4)] (.ps [-1, 0, 1, 1, 0, 0] 1 [(2, 5), (1, 4)] (.ng [1, 0, -1, -1, 0, 0] 1 [(2, 5), (1, 4)] (.ln [0, 1, 1, 1, 0, 0] (.ln [0, 0, -1, 0, 1, 0] (.ln [1, 0, -1, 0, 1, 0] (.ln [0, 1, 0, 0, 0, 0] (.ps [0, 1, 0, 0, 0, 0] 1 [(1, 6)] (.ps [0, 0, 1, 1, -1, 1] 1 [(1, 5), (1, 4), (1, 2)] (.ln [1, 0, 0, 1, -1, 1] (.ps [1, 0, 0, 1, -1, 1] 1 [(1, 2)] (.ps [-1, 0, 1, 0, 0, 0] 1 [(1, 5), (1, 4)] (.ps [1, 0, 0, 1, -1, 1] 1 [(1, 2)] (.ln [0, 1, 0, 0, 1, 0] (.ln [-1, 0, 1, 0, 0, 0] (.ln [0, 0, 0, 0, 1, 0] (.ln [1, 1, 0, 1, -1, 1] (.fin))))))))))))))))))))))))))))))))))))))))))) (.ps [1, 0, 0, 1, -1, 1] 1 [(1, 1)] (.ln [1, 1, 0, 1, 0, 0] (.ln [-1, 0, 0, -1, 1, 0] (.ln [0, 0, 0, 0, 1, 0] (.ln [1, 1, 0, 1, -1, 1] (.ps [0, 0, 0, 1, 0, 0] 1 [(1, 4)] (.ng [-1, 0, 0, -1, 1, 0] 1 [(1, 0)] (.ln [-1, 0, 1, -1, 0, 0] (.ps [-1, 0, 1, -1, 0, 0] 1 [(1, 3)] (.ng [1, 0, -1, 1, 0, 0] 1 [(1, 3)] (.ps [-1, 0, 1, -1, 0, 0] 1 [(1, 3)] (.ln [0, 1, 1, 1, 0, 0] (.ln [0, 0, -1, 0, 1, 0] (.ln [0, 1, 0, 0, 1, 0] (.ln [-1, 0, 1, 0, 0, 0] (.ln [0, 0, 1, 0, -1, 1] (.ps [0, 0, 1, 0, -1, 1] 1 [(1, 3), (1, 1)] (.ng [0, 0, -1, 0, 1, 0] 1 [(1, 3), (1, 0)] (.ps [0, 0, 1, 0, -1, 1] 1 [(1, 3), (1, 1)] (.ln [0, 0, 1, 1, 0, 0] (.ln [0, 0, -1, 0, 1, 0] (.ln [0, 0, 0, 0, 1, 0] (.ln [0, 0, 1, 1, -1, 1] (.ng [0, 0, -1, 0, 1, 0] 1 [(1, 3), (1, 0)] (.ln [1, 0, -1, -1, 0, 0] (.ng [1, 0, -1, -1, 0, 0] 1 [(2, 4), (1, 3)] (.ps [-1, 0, 1, 1, 0, 0] 1 [(2, 4), (1, 3)] (.ng [1, 0, -1, -1, 0, 0] 1 [(2, 4), (1, 3)] (.ln [0, 1, 1, 1, 0, 0] (.ln [0, 0, -1, 0, 1, 0] (.ln [1, 0, -1, 0, 1, 0] (.ln [0, 1, 0, 0, 0, 0] (.ps [0, 1, 0, 0, 0, 0] 1 [(1, 5)] (.ps [0, 0, 1, 1, -1, 1] 1 [(1, 4), (1, 3), (1, 1)] (.ln [1, 0, 0, 1, -1, 1] (.ps [1, 0, 0, 1, -1, 1] 1 [(1, 1)] (.ps [-1, 0, 1, 0, 0, 0] 1 [(1, 4), (1, 3)] (.ps [1, 0, 0, 1, -1, 1] 1 [(1, 1)] (.ln [0, 1, 0, 0, 1, 0] (.ln [-1, 0, 1, 0, 0, 0] (.ln [0, 0, 0, 0, 1, 0] (.ln [1, 1, 0, 1, -1, 1] (.fin)))))))))))))))))))))))))))))))))))))))))))) (.ps [-1, 0, 0, -1, 1, 0] 1 [(1, 1), (1, 0)] (.ng [1, 0, 0, 1, -1, 1] 1 [(1, 0)] (.ln [0, 1, 0, 0, 1, 0] (.ln [0, 0, 0, 0, 0, 1] (.ln [1, 0, 0, 1, 0, 1] (.ln [0, 1, 0, 0, 0, 0] (.ps [0, 0, 0, 1, 0, 0] 1 [(1, 3)] (.ps [0, 0, 0, 0, 0, 1] 1 [(1, 1)] (.ln [0, 0, 1, 0, -1, 1] (.sp [0, 0, 1, 0, -1, 1] (.sp [0, 0, -1, 0, 1, 0] (.ps [0, 0, 1, 0, -1, 1] 1 [(1, 1)] (.ln [0, 1, 0, 1, 1, 0] (.ln [0, 0, -1, 0, 1, 0] (.ln [0, 1, 0, 0, 1, 0] (.ln [0, 0, 1, 1, -1, 1] (.ln [0, 0, 1, 0, -1, 1] (.ps [0, 0, 1, 0, -1, 1] 1 [(1, 1)] (.ps [0, 0, -1, 0, 1, 0] 1 [(1, 0)] (.ps [0, 0, 1, 0, -1, 1] 1 [(1, 1)] (.ln [0, 0, 0, 1, 1, 0] (.ln [0, 0, -1, 0, 1, 0] (.ln [0, 0, 0, 0, 1, 0] (.ln [0, 0, 1, 1, -1, 1] (.ps [0, 0, -1, 0, 1, 0] 1 [(1, 0)] (.ln [1, 0, -1, -1, 0, 0] (.ng [1, 0, -1, -1, 0, 0] 1 [(2, 5), (1, 4)] (.ps [-1, 0, 0, 1, 1, 0] 1 [(2, 5), (1, 3), (1, 2)] (.ng [1, 0, -1, -1, 0, 0] 1 [(2, 5), (1, 4)] (.ln [0, 1, 0, 1, 1, 0] (.ln [0, 0, -1, 0, 1, 0] (.ln [1, 0, -1, 0, 1, 0] (.ln [0, 1, 0, 0, 0, 0] (.ps [0, 1, 0, 0, 0, 0] 1 [(1, 6)] (.ps [0, 0, 1, 1, -1, 1] 1 [(1, 5), (1, 1)] (.ln [1, 0, 0, 1, -1, 1] (.ng [1, 0, 0, 1, -1, 1] 1 [(1, 2)] (.ps [-1, 0, 1, 0, 0, 0] 1 [(1, 5), (1, 4)] (.ng [1, 0, 0, 1, -1, 1] 1 [(1, 2)] (.ln [0, 1, 0, 0, 1, 0] (.ln [0, 0, 1, 1, -1, 1] (.ln [1, 0, 0, 1, 0, 1] (.ln [0, 1, 0, 0, 0, 0] (.fin))))))))))))))))))))))))))))))))) (.ps [0, 0, 1, 0, -1, 1] 1 [(1, 1)] (.ln [0, 1, 1, 1, 0, 0] (.ln [0, 0, -1, 0, 1, 0] (.ln [0, 1, 0, 0, 1, 0] (.ln [0, 0, 1, 1, -1, 1] (.ln [0, 0, 1, 0, -1, 1] (.ps [0, 0, 1, 0, -1, 1] 1 [(1, 1)] (.ng [0, 0, -1, 0, 1, 0] 1 [(1, 0)] (.ps [0, 0, 1, 0, -1, 1] 1 [(1, 1)] (.ln [0, 0, 1, 1, 0, 0] (.ln [0, 0, -1, 0, 1, 0] (.ln [0, 0, 0, 0, 1, 0] (.ln [0, 0, 1, 1, -1, 1] (.ng [0, 0, -1, 0, 1, 0] 1 [(1, 0)] (.ln [1, 0, -1, -1, 0, 0] (.ng [1, 0, -1, -1, 0, 0] 1 [(2, 5), (1, 4)] (.ps [-1, 0, 1, 1, 0, 0] 1 [(2, 5), (1, 4)] (.ng [1, 0, -1, -1, 0, 0] 1 [(2, 5), (1, 4)] (.ln [0, 1, 1, 1, 0, 0] (.ln [0, 0, -1, 0, 1, 0] (.ln [1, 0, -1, 0, 1, 0] (.ln [0, 1, 0, 0, 0, 0] (.ps [0, 1, 0, 0, 0, 0] 1 [(1, 6)] (.ps [0, 0, 1, 1, -1, 1] 1 [(1, 5), (1, 1)] (.ln [1, 0, 0, 1, -1, 1] (.ng [1, 0, 0, 1, -1, 1] 1 [(1, 2)] (.ps [-1, 0, 1, 0, 0, 0] 1 [(1, 5), (1, 4)] (.ng [1, 0, 0, 1, -1, 1] 1 [(1, 2)] (.ln [0, 1, 0, 0, 1, 0] (.ln [0, 0, 1, 1, -1, 1] (.ln [1, 0, 0, 1, 0, 1] (.ln [0, 1, 0, 0, 0, 0] (.fin)))))))))))))))))))))))))))))))))) (.ps [0, 0, -1, 0, 1, 0] 1 [(1, 2), (1, 0)] (.ng [0, 0, 1, 0, -1, 1] 1 [(1, 0)] (.ln [0, 1, 0, 1, 1, 0] (.ln [0, 0, 0, 0, 0, 1] (.ln [0, 1, 1, 0, 0, 1] (.ln [0, 0, 0, 1, 0, 0] (.ln [0, 0, 1, 0, -1, 1] (.ng [0, 0, 1, 0, -1, 1] 1 [(1, 0)] (.ps [0, 0, -1, 0, 1, 0] 1 [(1, 2), (1, 0)] (.ng [0, 0, 1, 0, -1, 1] 1 [(1, 0)] (.ln [0, 0, 0, 1, 1, 0] (.ln [0, 0, 0, 0, 0, 1] (.ln [0, 0, 1, 0, 0, 1] (.ln [0, 0, 0, 1, 0, 0] (.ps [0, 0, 0, 0, 0, 1] 1 [(1, 2)] (.ln [1, 0, 0, -1, -1, 1] (.ng [1, 0, 0, -1, -1, 1] 1 [(2, 4), (1, 1)] (.ps [-1, 0, 0, 1, 1, 0] 1 [(2, 4), (1, 2), (1, 1)] (.ng [1, 0, 0, -1, -1, 1] 1 [(2, 4), (1, 1)] (.ln [0, 1, 0, 1, 1, 0] (.ln [0, 0, 0, 0, 0, 1] (.ln [1, 0, 0, 0, 0, 1] (.ln [0, 1, 0, 0, 0, 0] (.ps [0, 1, 0, 0, 0, 0] 1 [(1, 5)] (.ps [0, 0, 0, 1, 0, 0] 1 [(1, 4)] (.ln [1, 0, -1, 1, 0, 0] (.ng [1, 0, -1, 1, 0, 0] 1 [(1, 3)] (.ps [-1, 0, 1, 0, 0, 0] 1 [(1, 4), (1, 3)] (.ng [1, 0, -1, 1, 0, 0] 1 [(1, 3)] (.ln [0, 1, 1, 0, 0, 1] (.ln [0, 0, 0, 1, 0, 0] (.ln [1, 0, 0, 1, 0, 1] (.ln [0, 1, 0, 0, 0, 0] (.fin)))))))))))))))))))))))))))))))))))))))))))))) (.ln [1, 0, 0, 1, -1, 0] (.sp [1, 0, 0, 1, -1, 0] (.ng [-1, 0, 0, -1, 1, 0] 1 [(1, 0)] (.ps [1, 0, 0, 1, -1, 0] 1 [(1, 0)] (.ln [1, 1, 0, 1, 0, 0] (.ln [-1, 0, 0, -1, 1, 1] (.ln [0, 0, 0, 0, 1, 1] (.ln [1, 1, 0, 1, -1, 0] (.ps [0, 0, 0, 1, 0, 0] 1 [(1, 3)] (.ng [-1, 0, 0, -1, 1, 1] 1 [(1, 1), (1, 0)] (.ln [-1, 0, 1, -1, 0, 0] (.ps [-1, 0, 1, -1, 0, 0] 1 [(1, 2)] (.ng [1, 0, -1, 1, 0, 0] 1 [(1, 2)] (.ps [-1, 0, 1, -1, 0, 0] 1 [(1, 2)] (.ln [0, 1, 1, 1, 0, 0] (.ln [0, 0, -1, 0, 1, 1] (.ln [0, 1, 0, 0, 1, 1] (.ln [-1, 0, 1, 0, 0, 0] (.ln [0, 0, 1, 0, -1, 0] (.ps [0, 0, 1, 0, -1, 0] 1 [(1, 2), (1, 0)] (.ng [0, 0, -1, 0, 1, 0] 1 [(1, 2), (1, 0)] (.ps [0, 0, 1, 0, -1, 0] 1 [(1, 2), (1, 0)] (.ln [0, 0, 1, 1, 0, 0] (.ln [0, 0, -1, 0, 1, 1] (.ln [0, 0, 0, 0, 1, 1] (.ln [0, 0, 1, 1, -1, 0] (.ng [0, 0, -1, 0, 1, 1] 1 [(1, 2), (1, 1), (1, 0)] (.ln [1, 0, -1, -1, 0, 0] (.ng [1, 0, -1, -1, 0, 0] 1 [(2, 3), (1, 2)] (.ps [-1, 0, 1, 1, 0, 0] 1 [(2, 3), (1, 2)] (.ng [1, 0, -1, -1, 0, 0] 1 [(2, 3), (1, 2)] (.ln [0, 1, 1, 1, 0, 0] (.ln [0, 0, -1, 0, 1, 1] (.ln [1, 0, -1, 0, 1, 1] (.ln [0, 1, 0, 0, 0, 0] (.ps [0, 1, 0, 0, 0, 0] 1 [(1, 4)] (.ps [0, 0, 1, 1, -1, 0] 1 [(1, 3), (1, 2), (1, 0)] (.ln [1, 0, 0, 1, -1, 0] (.ps [1, 0, 0, 1, -1, 0] 1 [(1, 0)] (.ps [-1, 0, 1, 0, 0, 0] 1 [(1, 3), (1, 2)] (.ps [1, 0, 0, 1, -1, 0] 1 [(1, 0)] (.ln [0, 1, 0, 0, 1, 1] (.ln [-1, 0, 1, 0, 0, 0] (.ln [0, 0, 0, 0, 1, 1] (.ln [1, 1, 0, 1, -1, 0] (.fin)))))))))))))))))))))))))))))))))))))))))))) (.ps [-1, 0, 0, -1, 1, 0] 1 [(1, 0)] (.ng [1, 0, 0, 1, -1, 0] 1 [(1, 0)] (.ln [0, 1, 0, 0, 1, 0] (.ln [0, 0, 0, 0, 0, 1] (.ln [1, 0, 0, 1, 0, 1] (.ln [0, 1, 0, 0, 0, 0] (.ps [0, 0, 0, 1, 0, 0] 1 [(1, 3)] (.ng [0, 0, 0, 0, 0, 1] 1 [(1, 1)] (.ln [0, 0, 1, 0, -1, 0] (.sp [0, 0, 1, 0, -1, 0] (.ng [0, 0, -1, 0, 1, 0] 1 [(1, 0)] (.ps [0, 0, 1, 0, -1, 0] 1 [(1, 0)] (.ln [0, 1, 1, 1, 0, 0] (.ln [0, 0, -1, 0, 1, 1] (.ln [0, 1, 0, 0, 1, 1] (.ln [0, 0, 1, 1, -1, 0] (.ln [0, 0, 1, 0, -1, 0] (.ps [0, 0, 1, 0, -1, 0] 1 [(1, 0)] (.ng [0, 0, -1, 0, 1, 0] 1 [(1, 0)] (.ps [0, 0, 1, 0, -1, 0] 1 [(1, 0)] (.ln [0, 0, 1, 1, 0, 0] (.ln [0, 0, -1, 0, 1, 1] (.ln [0, 0, 0, 0, 1, 1] (.ln [0, 0, 1, 1, -1, 0] (.ng [0, 0, -1, 0, 1, 1] 1 [(1, 2), (1, 0)] (.ln [1, 0, -1, -1, 0, 0] (.ng [1, 0, -1, -1, 0, 0] 1 [(2, 4), (1, 3)] (.ps [-1, 0, 1, 1, 0, 0] 1 [(2, 4), (1, 3)] (.ng [1, 0, -1, -1, 0, 0] 1 [(2, 4), (1, 3)] (.ln [0, 1, 1, 1, 0, 0] (.ln [0, 0, -1, 0, 1, 1] (.ln [1, 0, -1, 0, 1, 1] (.ln [0, 1, 0, 0, 0, 0] (.ps [0, 1, 0, 0, 0, 0] 1 [(1, 5)] (.ps [0, 0, 1, 1, -1, 0] 1 [(1, 4), (1, 0)] (.ln [1, 0, 0, 1, -1, 0] (.ng [1, 0, 0, 1, -1, 0] 1 [(1, 1)] (.ps [-1, 0, 1, 0, 0, 0] 1 [(1, 4), (1, 3)] (.ng [1, 0, 0, 1, -1, 0] 1 [(1, 1)] (.ln [0, 1, 0, 0, 1, 1] (.ln [0, 0, 1, 1, -1, 0] (.ln [1, 0, 0, 1, 0, 1] (.ln [0, 1, 0, 0, 0, 0] (.fin)))))))))))))))))))))))))))))))))) (.ps [0, 0, -1, 0, 1, 0] 1 [(1, 0)] (.ng [0, 0, 1, 0, -1, 0] 1 [(1, 0)] (.ln [0, 1, 0, 1, 1, 0] (.ln [0, 0, 0, 0, 0, 1] (.ln [0, 1, 1, 0, 0, 1] (.ln [0, 0, 0, 1, 0, 0] (.ln [0, 0, 1, 0, -1, 0] (.ng [0, 0, 1, 0, -1, 0] 1 [(1, 0)] (.ps [0, 0, -1, 0, 1, 0] 1 [(1, 0)] (.ng [0, 0, 1, 0, -1, 0] 1 [(1, 0)] (.ln [0, 0, 0, 1, 1, 0] (.ln [0, 0, 0, 0, 0, 1] (.ln [0, 0, 1, 0, 0, 1] (.ln [0, 0, 0, 1, 0, 0] (.ng [0, 0, 0, 0, 0, 1] 1 [(1, 2)] (.ln [1, 0, 0, -1, -1, 0] (.ng [1, 0, 0, -1, -1, 0] 1 [(2, 4), (1, 1)] (.ps [-1, 0, 0, 1, 1, 0] 1 [(2, 4), (1, 1)] (.ng [1, 0, 0, -1, -1, 0] 1 [(2, 4), (1, 1)] (.ln [0, 1, 0, 1, 1, 0] (.ln [0, 0, 0, 0, 0, 1] (.ln [1, 0, 0, 0, 0, 1] (.ln [0, 1, 0, 0, 0, 0] (.ps [0, 1, 0, 0, 0, 0] 1 [(1, 5)] (.ps [0, 0, 0, 1, 0, 0] 1 [(1, 4)] (.ln [1, 0, -1, 1, 0, 0] (.ng [1, 0, -1, 1, 0, 0] 1 [(1, 3)] (.ps [-1, 0, 1, 0, 0, 0] 1 [(1, 4), (1, 3)] (.ng [1, 0, -1, 1, 0, 0] 1 [(1, 3)] (.ln [0, 1, 1, 0, 0, 1] (.ln [0, 0, 0, 1, 0, 0] (.ln [1, 0, 0, 1, 0, 1] (.ln [0, 1, 0, 0, 0, 0] (.fin)))))))))))))))))))))))))))))))))))))))))))))))))))))))) (.ln [1, 0, -1, 0, 0, 0] (.sp [1, 0, -1, 0, 0, 0] (.ng [-1, 0, 1, 0, 0, 0] 1 [(1, 0)] (.ps [1, 0, -1, 0, 0, 0] 1 [(1, 0)] (.ln [1, 1, 0, 0, 0, 0] (.ln [-1, 0, 1, 1, 0, 0] (.ln [0, 0, 1, 1, 0, 0] (.ln [1, 1, -1, 0, 0, 0] (.ps [1, 1, -1, 0, 0, 0] 1 [(1, 2), (1, 0)] (.sp [0, 0, 0, 0, 0, 1] (.ln [0, 0, 1, 1, -1, 1] (.sp [0, 0, 1, 1, -1, 1] (.sp [0, 0, -1, -1, 1, 0] (.ps [0, 0, 1, 1, -1, 1] 1 [(1, 1)] (.ln [1, 1, -1, 0, 1, 0] (.ln [0, 0, -1, -1, 1, 0] (.ln [0, 0, 0, 0, 1, 0] (.ln [1, 1, 0, 1, -1, 1] (.ng [-1, 0, 1, 1, 0, 0] 1 [(1, 4), (1, 3)] (.ps [0, 0, -1, -1, 1, 0] 1 [(1, 0)] (.ln [1, 0, -1, -2, 0, 0] (.ps [1, 0, -1, -2, 0, 0] 1 [(2, 4), (1, 3)] (.sp [-1, 0, 0, 1, 1, 0] (.ps [0, 0, 0, -1, 0, 0] 1 [(1, 5)] (.ln [0, 1, 0, 1, 1, 0] (.ln [-1, 0, 0, 1, 1, 0] (.ln [1, 1, -1, 0, 1, 0] (.ln [0, 0, 0, -1, 0, 0] (.ln [0, 0, 1, -1, -1, 1] (.ps [0, 0, 1, -1, -1, 1] 1 [(2, 5), (1, 2)] (.ps [0, 0, -1, 1, 1, 0] 1 [(1, 4), (1, 0)] (.ps [0, 0, 1, 0, -1, 1] 1 [(1, 5), (1, 2)] (.ln [0, 0, 0, 1, 1, 0] (.ln [0, 0, -1, 1, 1, 0] (.ln [0, 0, 0, 0, 1, 0] (.ln [0, 0, 1, 0, -1, 1] (.ps [0, 0, -1, 1, 1, 0] 1 [(1, 4), (1, 0)] (.ln [1, 0, -1, 0, 0, 0] (.ps [1, 0, -1, 0, 0, 0] 1 [(1, 4)] (.ps [-1, 0, 0, 1, 1, 0] 1 [(1, 0)] (.ps [1, 0, -1, 0, 0, 0] 1 [(1, 4)] (.ln [0, 1, 0, 1, 1, 0] (.ln [-1, 0, 0, 1, 1, 0] (.ln [0, 0, 0, 1, 1, 0] (.ln [1, 1, -1, 0, 0, 0] (.ps [1, 1, -1, 0, 0, 0] 1 [(1, 6), (1, 4)] (.ps [0, 0, 1, 0, -1, 1] 1 [(1, 5), (1, 2)] (.ln [0, 0, 1, 1, -1, 1] (.ps [0, 0, 1, 1, -1, 1] 1 [(1, 2)] (.ps [0, 0, 0, -1, 0, 0] 1 [(1, 5)] (.ps [0, 0, 1, 1, -1, 1] 1 [(1, 2)] (.ln [1, 1, -1, 0, 1, 0] (.ln [0, 0, 0, -1, 0, 0] (.ln [0, 0, 0, 0, 1, 0] (.ln [1, 1, 0, 1, -1, 1] (.fin))))))))))))))))))))))))))))))))) (.ps [0, 0, 0, -1, 0, 0] 1 [(1, 5)] (.ln [1, 1, 0, 0, 0, 0] (.ln [-1, 0, 0, 1, 1, 0] (.ln [1, 1, -1, 0, 1, 0] (.ln [0, 0, 0, -1, 0, 0] (.ln [0, 0, 1, -1, -1, 1] (.ps [0, 0, 1, -1, -1, 1] 1 [(2, 5), (1, 2)] (.sp [0, 0, -1, 1, 1, 0] (.ps [0, 0, 1, 0, -1, 1] 1 [(1, 6), (1, 3)] (.ln [0, 0, 0, 1, 1, 0] (.ln [0, 0, -1, 1, 1, 0] (.ln [0, 0, 0, 0, 1, 0] (.ln [0, 0, 1, 0, -1, 1] (.ps [0, 0, -1, 1, 1, 0] 1 [(1, 0)] (.ln [1, 0, -1, 0, 0, 0] (.ps [1, 0, -1, 0, 0, 0] 1 [(1, 5)] (.ng [-1, 0, 0, 1, 1, 0] 1 [(1, 1)] (.ps [1, 0, -1, 0, 0, 0] 1 [(1, 5)] (.ln [1, 1, 0, 0, 0, 0] (.ln [-1, 0, 0, 1, 1, 0] (.ln [0, 0, 0, 1, 1, 0] (.ln [1, 1, -1, 0, 0, 0] (.ps [1, 1, -1, 0, 0, 0] 1 [(1, 7), (1, 5)] (.ps [0, 0, 1, 0, -1, 1] 1 [(1, 6), (1, 3)] (.ln [0, 0, 1, 1, -1, 1] (.ps [0, 0, 1, 1, -1, 1] 1 [(1, 3)] (.ps [0, 0, 0, -1, 0, 0] 1 [(1, 6)] (.ps [0, 0, 1, 1, -1, 1] 1 [(1, 3)] (.ln [1, 1, -1, 0, 1, 0] (.ln [0, 0, 0, -1, 0, 0] (.ln [0, 0, 0, 0, 1, 0] (.ln [1, 1, 0, 1, -1, 1] (.fin))))))))))))))))))))))))) (.ps [0, 0, 1, 0, -1, 1] 1 [(1, 6), (1, 3)] (.ln [0, 0, 1, 0, 0, 0] (.ln [0, 0, -1, 1, 1, 0] (.ln [0, 0, 0, 0, 1, 0] (.ln [0, 0, 1, 0, -1, 1] (.ng [0, 0, -1, 1, 1, 0] 1 [(1, 0)] (.ln [1, 0, -1, 0, 0, 0] (.ps [1, 0, -1, 0, 0, 0] 1 [(1, 5)] (.ng [-1, 0, 1, 0, 0, 0] 1 [(1, 5)] (.ps [1, 0, -1, 0, 0, 0] 1 [(1, 5)] (.ln [1, 1, 0, 0, 0, 0] (.ln [-1, 0, 0, 1, 1, 0] (.ln [0, 0, 0, 1, 1, 0] (.ln [1, 1, -1, 0, 0, 0] (.ps [1, 1, -1, 0, 0, 0] 1 [(1, 7), (1, 5)] (.ps [0, 0, 1, 0, -1, 1] 1 [(1, 6), (1, 3)] (.ln [0, 0, 1, 1, -1, 1] (.ps [0, 0, 1, 1, -1, 1] 1 [(1, 3)] (.ps [0, 0, 0, -1, 0, 0] 1 [(1, 6)] (.ps [0, 0, 1, 1, -1, 1] 1 [(1, 3)] (.ln [1, 1, -1, 0, 1, 0] (.ln [0, 0, 0, -1, 0, 0] (.ln [0, 0, 0, 0, 1, 0] (.ln [1, 1, 0, 1, -1, 1] (.fin))))))))))))))))))))))))))))))))))))))))))) (.ps [0, 0, 1, 1, -1, 1] 1 [(1, 1)] (.ln [1, 1, 0, 1, 0, 0] (.ln [0, 0, -1, -1, 1, 0] (.ln [0, 0, 0, 0, 1, 0] (.ln [1, 1, 0, 1, -1, 1] (.ng [-1, 0, 1, 1, 0, 0] 1 [(1, 4), (1, 3)] (.ng [0, 0, -1, -1, 1, 0] 1 [(1, 0)] (.ln [1, 0, -1, -2, 0, 0] (.ps [1, 0, -1, -2, 0, 0] 1 [(2, 4), (1, 3)] (.ng [-1, 0, 1, 2, 0, 0] 1 [(2, 4), (1, 3)] (.ps [0, 0, 0, -1, 0, 0] 1 [(1, 4)] (.ln [1, 1, 0, 0, 0, 0] (.ln [-1, 0, 0, 1, 1, 0] (.ln [1, 1, -1, 0, 1, 0] (.ln [0, 0, 0, -1, 0, 0] (.ln [0, 0, 1, -1, -1, 1] (.ps [0, 0, 1, -1, -1, 1] 1 [(2, 4), (1, 1)] (.ng [0, 0, -1, 1, 1, 0] 1 [(2, 4), (1, 0)] (.ps [0, 0, 1, 0, -1, 1] 1 [(1, 4), (1, 1)] (.ln [0, 0, 1, 0, 0, 0] (.ln [0, 0, -1, 1, 1, 0] (.ln [0, 0, 0, 0, 1, 0] (.ln [0, 0, 1, 0, -1, 1] (.ng [0, 0, -1, 1, 1, 0] 1 [(2, 4), (1, 0)] (.ln [1, 0, -1, 0, 0, 0] (.ps [1, 0, -1, 0, 0, 0] 1 [(1, 3)] (.ng [-1, 0, 1, 0, 0, 0] 1 [(1, 3)] (.ps [1, 0, -1, 0, 0, 0] 1 [(1, 3)] (.ln [1, 1, 0, 0, 0, 0] (.ln [-1, 0, 0, 1, 1, 0] (.ln [0, 0, 0, 1, 1, 0] (.ln [1, 1, -1, 0, 0, 0] (.ps [1, 1, -1, 0, 0, 0] 1 [(1, 5), (1, 3)] (.ps [0, 0, 1, 0, -1, 1] 1 [(1, 4), (1, 1)] (.ln [0, 0, 1, 1, -1, 1] (.ps [0, 0, 1, 1, -1, 1] 1 [(1, 1)] (.ps [0, 0, 0, -1, 0, 0] 1 [(1, 4)] (.ps [0, 0, 1, 1, -1, 1] 1 [(1, 1)] (.ln [1, 1, -1, 0, 1, 0] (.ln [0, 0, 0, -1, 0, 0] (.ln [0, 0, 0, 0, 1, 0] (.ln [1, 1, 0, 1, -1, 1] (.fin)))))))))))))))))))))))))))))))))))))))))))) (.ps [0, 0, -1, -1, 1, 0] 1 [(1, 1), (1, 0)] (.ng [0, 0, 1, 1, -1, 1] 1 [(1, 0)] (.ln [1, 1, -1, 0, 1, 0] (.ln [0, 0, 0, 0, 0, 1] (.ln [0, 0, 1, 1, 0, 1] (.ln [1, 1, -1, 0, 0, 0] (.ng [-1, 0, 1, 1, 0, 0] 1 [(1, 3), (1, 2)] (.ps [0, 0, 0, 0, 0, 1] 1 [(1, 1)] (.ln [1, 0, 0, -1, -1, 1] (.sp [1, 0, 0, -1, -1, 1] (.sp [-1, 0, 0, 1, 1, 0] (.sp [0, 0, 1, 0, -1, 1] (.ln [0, 1, 0, 1, 1, 0] (.ln [-1, 0, 0, 1, 1, 0] (.ln [1, 1, -1, 0, 1, 0] (.ln [0, 0, 1, 0, -1, 1] (.ln [0, 0, 1, -1, -1, 1] (.ps [0, 0, 1, -1, -1, 1] 1 [(1, 6), (1, 0)] (.ps [0, 0, -1, 1, 1, 0] 1 [(1, 5), (1, 1)] (.ps [0, 0, 1, 0, -1, 1] 1 [(1, 0)] (.ln [0, 0, 0, 1, 1, 0] (.ln [0, 0, -1, 1, 1, 0] (.ln [0, 0, 0, 0, 1, 0] (.ln [0, 0, 1, 0, -1, 1] (.ps [0, 0, -1, 1, 1, 0] 1 [(1, 5), (1, 1)] (.ln [1, 0, -1, 0, 0, 0] (.ps [1, 0, -1, 0, 0, 0] 1 [(1, 5)] (.ps [-1, 0, 0, 1, 1, 0] 1 [(1, 1)] (.ps [1, 0, -1, 0, 0, 0] 1 [(1, 5)] (.ln [0, 1, 0, 1, 1, 0] (.ln [-1, 0, 0, 1, 1, 0] (.ln [0, 0, 0, 1, 1, 0] (.ln [1, 1, -1, 0, 0, 0] (.ps [1, 1, -1, 0, 0, 0] 1 [(1, 7), (1, 5)] (.ps [0, 0, 1, 0, -1, 1] 1 [(1, 0)] (.ln [0, 0, 1, 1, -1, 1] (.ng [0, 0, 1, 1, -1, 1] 1 [(1, 3)] (.ps [0, 0, 0, -1, 0, 0] 1 [(1, 6)] (.ng [0, 0, 1, 1, -1, 1] 1 [(1, 3)] (.ln [1, 1, -1, 0, 1, 0] (.ln [0, 0, 1, 0, -1, 1] (.ln [0, 0, 1, 1, 0, 1] (.ln [1, 1, -1, 0, 0, 0] (.fin)))))))))))))))))))))))))))))))) (.ln [0, 1, 0, 1, 1, 0] (.ln [-1, 0, 0, 1, 1, 0] (.ln [1, 1, 0, 0, 0, 1] (.ln [0, 0, 1, 0, -1, 1] (.ln [0, 0, 1, -1, -1, 1] (.sp [0, 0, 1, -1, -1, 1] (.ps [0, 0, -1, 1, 1, 0] 1 [(1, 6), (1, 2)] (.ng [0, 0, 1, 0, -1, 1] 1 [(1, 1)] (.ln [0, 0, 0, 1, 1, 0] (.ln [0, 0, -1, 1, 1, 0] (.ln [0, 0, 1, 0, 0, 1] (.ln [0, 0, 1, 0, -1, 1] (.ps [0, 0, -1, 1, 1, 0] 1 [(1, 6), (1, 2)] (.ln [1, 0, -1, 0, 0, 0] (.ps [1, 0, -1, 0, 0, 0] 1 [(1, 6)] (.ps [-1, 0, 0, 1, 1, 0] 1 [(1, 2)] (.ps [1, 0, -1, 0, 0, 0] 1 [(1, 6)] (.ln [0, 1, 0, 1, 1, 0] (.ln [-1, 0, 0, 1, 1, 0] (.ln [0, 0, 0, 1, 1, 0] (.ln [1, 1, -1, 0, 0, 0] (.ps [1, 1, -1, 0, 0, 0] 1 [(1, 8), (1, 6)] (.ng [0, 0, 1, 0, -1, 1] 1 [(1, 1)] (.ln [0, 0, -1, 1, 1, -1] (.ng [0, 0, -1, 1, 1, -1] 1 [(1, 0)] (.ps [0, 0, 1, -1, -1, 1] 1 [(1, 0)] (.ng [0, 0, -1, 1, 1, -1] 1 [(1, 0)] (.ln [1, 1, 0, 0, 0, 1] (.ln [0, 0, 1, 0, -1, 1] (.ln [0, 0, 1, 1, 0, 1] (.ln [1, 1, -1, 0, 0, 0] (.fin)))))))))))))))))))))))))) (.ps [0, 0, -1, 1, 1, 0] 1 [(1, 6), (1, 2)] (.ng [0, 0, 1, 0, -1, 1] 1 [(1, 1)] (.ln [0, 0, 0, 1, 1, 0] (.ln [0, 0, 0, 0, 0, 1] (.ln [0, 0, 1, 0, 0, 1] (.ln [0, 0, 0, 1, 0, 0] (.ps [0, 0, 0, 0, 0, 1] 1 [(1, 5)] (.ln [1, 0, 0, -1, -1, 1] (.ps [1, 0, 0, -1, -1, 1] 1 [(1, 3)] (.ps [-1, 0, 0, 1, 1, 0] 1 [(1, 2)] (.ps [1, 0, 0, -1, -1, 1] 1 [(1, 3)] (.ln [0, 1, 0, 1, 1, 0] (.ln [-1, 0, 0, 1, 1, 0] (.ln [0, 0, 0, 1, 1, 0] (.ln [1, 1, 0, -1, -1, 1] (.ps [1, 1, 0, -1, -1, 1] 1 [(1, 8), (1, 3)] (.ng [0, 0, 0, 1, 0, 0] 1 [(1, 7)] (.ln [0, 0, -1, 1, 1, -1] (.ps [0, 0, -1, 1, 1, -1] 1 [(1, 0)] (.ng [0, 0, 1, -1, -1, 1] 1 [(1, 0)] (.ps [0, 0, -1, 1, 1, -1] 1 [(1, 0)] (.ln [1, 1, 0, 0, 0, 1] (.ln [0, 0, 1, 0, -1, 1] (.ln [0, 0, 1, 1, 0, 1] (.ln [1, 1, -1, 0, 0, 0] (.fin))))))))))))))))))))))))))))))))) (.sp [0, 0, 1, 0, -1, 1] (.ln [1, 1, 0, 0, 0, 0] (.ln [-1, 0, 0, 1, 1, 0] (.ln [1, 1, -1, 0, 1, 0] (.ln [0, 0, 1, 0, -1, 1] (.ln [0, 0, 1, -1, -1, 1] (.ps [0, 0, 1, -1, -1, 1] 1 [(1, 6), (1, 0)] (.sp [0, 0, -1, 1, 1, 0] (.ps [0, 0, 1, 0, -1, 1] 1 [(1, 1)] (.ln [0, 0, 0, 1, 1, 0] (.ln [0, 0, -1, 1, 1, 0] (.ln [0, 0, 0, 0, 1, 0] (.ln [0, 0, 1, 0, -1, 1] (.ps [0, 0, -1, 1, 1, 0] 1 [(1, 0)] (.ln [1, 0, -1, 0, 0, 0] (.ps [1, 0, -1, 0, 0, 0] 1 [(1, 6)] (.ng [-1, 0, 0, 1, 1, 0] 1 [(1, 2)] (.ps [1, 0, -1, 0, 0, 0] 1 [(1, 6)] (.ln [1, 1, 0, 0, 0, 0] (.ln [-1, 0, 0, 1, 1, 0] (.ln [0, 0, 0, 1, 1, 0] (.ln [1, 1, -1, 0, 0, 0] (.ps [1, 1, -1, 0, 0, 0] 1 [(1, 8), (1, 6)] (.ps [0, 0, 1, 0, -1, 1] 1 [(1, 1)] (.ln [0, 0, 1, 1, -1, 1] (.ng [0, 0, 1, 1, -1, 1] 1 [(1, 4)] (.ps [0, 0, 0, -1, 0, 0] 1 [(1, 7)] (.ng [0, 0, 1, 1, -1, 1] 1 [(1, 4)] (.ln [1, 1, -1, 0, 1, 0] (.ln [0, 0, 1, 0, -1, 1] (.ln [0, 0, 1, 1, 0, 1] (.ln [1, 1, -1, 0, 0, 0] (.fin))))))))))))))))))))))))) (.ps [0, 0, 1, 0, -1, 1] 1 [(1, 1)] (.ln [0, 0, 1, 0, 0, 0] (.ln [0, 0, -1, 1, 1, 0] (.ln [0, 0, 0, 0, 1, 0] (.ln [0, 0, 1, 0, -1, 1] (.ng [0, 0, -1, 1, 1, 0] 1 [(1, 0)] (.ln [1, 0, -1, 0, 0, 0] (.ps [1, 0, -1, 0, 0, 0] 1 [(1, 6)] (.ng [-1, 0, 1, 0, 0, 0] 1 [(1, 6)] (.ps [1, 0, -1, 0, 0, 0] 1 [(1, 6)] (.ln [1, 1, 0, 0, 0, 0] (.ln [-1, 0, 0, 1, 1, 0] (.ln [0, 0, 0, 1, 1, 0] (.ln [1, 1, -1, 0, 0, 0] (.ps [1, 1, -1, 0, 0, 0] 1 [(1, 8), (1, 6)] (.ps [0, 0, 1, 0, -1, 1] 1 [(1, 1)] (.ln [0, 0, 1, 1, -1, 1] (.ng [0, 0, 1, 1, -1, 1] 1 [(1, 4)] (.ps [0, 0, 0, -1, 0, 0] 1 [(1, 7)] (.ng [0, 0, 1, 1, -1, 1] 1 [(1, 4)] (.ln [1, 1, -1, 0, 1, 0] (.ln [0, 0, 1, 0, -1, 1] (.ln [0, 0, 1, 1, 0, 1] (.ln [1, 1, -1, 0, 0, 0] (.fin)))))))))))))))))))))))))))))))) (.ln [1, 1, 0, 0, 0, 0] (.ln [-1, 0, 0, 1, 1, 0] (.ln [1, 1, 0, 0, 0, 1] (.ln [0, 0, 1, 0, -1, 1] (.ln [0, 0, 1, -1, -1, 1] (.sp [0, 0, 1, -1, -1, 1] (.sp [0, 0, -1, 1, 1, 0] (.ng [0, 0, 1, 0, -1, 1] 1 [(1, 2)] (.ln [0, 0, 0, 1, 1, 0] (.ln [0, 0, -1, 1, 1, 0] (.ln [0, 0, 1, 0, 0, 1] (.ln [0, 0, 1, 0, -1, 1] (.ps [0, 0, -1, 1, 1, 0] 1 [(1, 0)] (.ln [1, 0, -1, 0, 0, 0] (.ps [1, 0, -1, 0, 0, 0] 1 [(1, 7)] (.ng [-1, 0, 0, 1, 1, 0] 1 [(1, 3)] (.ps [1, 0, -1, 0, 0, 0] 1 [(1, 7)] (.ln [1, 1, 0, 0, 0, 0] (.ln [-1, 0, 0, 1, 1, 0] (.ln [0, 0, 0, 1, 1, 0] (.ln [1, 1, -1, 0, 0, 0] (.ps [1, 1, -1, 0, 0, 0] 1 [(1, 9), (1, 7)] (.ng [0, 0, 1, 0, -1, 1] 1 [(1, 2)] (.ln [0, 0, -1, 1, 1, -1] (.ng [0, 0, -1, 1, 1, -1] 1 [(1, 1)] (.ps [0, 0, 1, -1, -1, 1] 1 [(1, 1)] (.ng [0, 0, -1, 1, 1, -1] 1 [(1, 1)] (.ln [1, 1, 0, 0, 0, 1] (.ln [0, 0, 1, 0, -1, 1] (.ln [0, 0, 1, 1, 0, 1] (.ln [1, 1, -1, 0, 0, 0] (.fin))))))))))))))))))))))))) (.ng [0, 0, 1, 0, -1, 1] 1 [(1, 2)] (.ln [0, 0, 1, 0, 0, 0] (.ln [0, 0, -1, 1, 1, 0] (.ln [0, 0, 1, 0, 0, 1] (.ln [0, 0, 1, 0, -1, 1] (.ng [0, 0, -1, 1, 1, 0] 1 [(1, 0)] (.ln [1, 0, -1, 0, 0, 0] (.ps [1, 0, -1, 0, 0, 0] 1 [(1, 7)] (.ng [-1, 0, 1, 0, 0, 0] 1 [(1, 7)] (.ps [1, 0, -1, 0, 0, 0] 1 [(1, 7)] (.ln [1, 1, 0, 0, 0, 0] (.ln [-1, 0, 0, 1, 1, 0] (.ln [0, 0, 0, 1, 1, 0] (.ln [1, 1, -1, 0, 0, 0] (.ps [1, 1, -1, 0, 0, 0] 1 [(1, 9), (1, 7)] (.ng [0, 0, 1, 0, -1, 1] 1 [(1, 2)] (.ln [0, 0, -1, 1, 1, -1] (.ng [0, 0, -1, 1, 1, -1] 1 [(1, 1)] (.ps [0, 0, 1, -1, -1, 1] 1 [(1, 1)] (.ng [0, 0, -1, 1, 1, -1] 1 [(1, 1)] (.ln [1, 1, 0, 0, 0, 1] (.ln [0, 0, 1, 0, -1, 1] (.ln [0, 0, 1, 1, 0, 1] (.ln [1, 1, -1, 0, 0, 0] (.fin)))))))))))))))))))))))))) (.ps [0, 0, -1, 1, 1, 0] 1 [(1, 5), (1, 0)] (.ng [0, 0, 1, 0, -1, 1] 1 [(1, 1)] (.ln [0, 0, 0, 1, 1, 0] (.ln [0, 0, 0, 0, 0, 1] (.ln [0, 0, 1, 0, 0, 1] (.ln [0, 0, 0, 1, 0, 0] (.ps [0, 0, 0, 0, 0, 1] 1 [(1, 5)] (.ln [1, 0, 0, -1, -1, 1] (.ps [1, 0, 0, -1, -1, 1] 1 [(1, 3)] (.ng [-1, 0, 0, 1, 1, 0] 1 [(1, 2)] (.ps [1, 0, 0, -1, -1, 1] 1 [(1, 3)] (.ln [1, 1, 0, 0, 0, 0] (.ln [-1, 0, 0, 1, 1, 0] (.ln [0, 0, 0, 1, 1, 0] (.ln [1, 1, 0, -1, -1, 1] (.ps [1, 1, 0, -1, -1, 1] 1 [(1, 8), (1, 3)] (.ng [0, 0, 0, 1, 0, 0] 1 [(1, 7)] (.ln [0, 0, -1, 1, 1, -1] (.ps [0, 0, -1, 1, 1, -1] 1 [(1, 0)] (.ng [0, 0, 1, -1, -1, 1] 1 [(1, 0)] (.ps [0, 0, -1, 1, 1, -1] 1 [(1, 0)] (.ln [1, 1, 0, 0, 0, 1] (.ln [0, 0, 1, 0, -1, 1] (.ln [0, 0, 1, 1, 0, 1] (.ln [1, 1, -1, 0, 0, 0] (.fin)))))))))))))))))))))))))))))))))) (.ps [-1, 0, 0, 1, 1, 0] 1 [(1, 2), (1, 0)] (.ng [0, 0, 1, 0, -1, 1] 2 [(1, 3), (1, 1), (1, 0)] (.ln [0, 1, 0, 1, 1, 0] (.ln [0, 0, 0, 0, 0, 1] (.ln [1, 1, 0, 0, 0, 1] (.ln [-1, 0, 1, 1, 0, 0] (.ln [0, 0, 1, -1, -1, 1] (.ng [0, 0, 1, -1, -1, 1] 1 [(1, 3), (1, 0)] (.ps [0, 0, -1, 1, 1, 0] 1 [(1, 3), (1, 2), (1, 0)] (.ng [0, 0, 1, 0, -1, 1] 2 [(1, 3), (1, 1), (1, 0)] (.ln [0, 0, 0, 1, 1, 0] (.ln [0, 0, 0, 0, 0, 1] (.ln [0, 0, 1, 0, 0, 1] (.ln [0, 0, 0, 1, 0, 0] (.ps [0, 0, 0, 0, 0, 1] 1 [(1, 2)] (.ln [1, 0, 0, -1, -1, 1] (.ng [1, 0, 0, -1, -1, 1] 1 [(1, 0)] (.ps [-1, 0, 0, 1, 1, 0] 1 [(1, 2), (1, 0)] (.ng [1, 0, 0, -1, -1, 1] 1 [(1, 0)] (.ln [0, 1, 0, 1, 1, 0] (.ln [0, 0, 0, 0, 0, 1] (.ln [1, 0, 0, 0, 0, 1] (.ln [0, 1, 0, 0, 0, 0] (.ps [0, 1, 0, 0, 0, 0] 1 [(1, 5)] (.ng [0, 0, 0, 1, 0, 0] 1 [(1, 4)] (.ln [1, 0, -1, 0, 0, 0] (.ps [1, 0, -1, 0, 0, 0] 1 [(1, 3)] (.ng [-1, 0, 1, 0, 0, 0] 1 [(1, 3)] (.ps [1, 0, -1, 0, 0, 0] 1 [(1, 3)] (.ln [1, 1, 0, 0, 0, 1] (.ln [-1, 0, 1, 1, 0, 0] (.ln [0, 0, 1, 1, 0, 1] (.ln [1, 1, -1, 0, 0, 0] (.fin)))))))))))))))))))))))))))))))))))))))))))))) (.ln [0, 0, 1, 1, -1, 0] (.sp [0, 0, 1, 1, -1, 0] (.ng [0, 0, -1, -1, 1, 0] 1 [(1, 0)] (.ps [0, 0, 1, 1, -1, 0] 1 [(1, 0)] (.ln [1, 1, 0, 1, 0, 0] (.ln [0, 0, -1, -1, 1, 1] (.ln [0, 0, 0, 0, 1, 1] (.ln [1, 1, 0, 1, -1, 0] (.ng [-1, 0, 1, 1, 0, 0] 1 [(1, 3), (1, 2)] (.ng [0, 0, -1, -1, 1, 1] 1 [(1, 1), (1, 0)] (.ln [1, 0, -1, -2, 0, 0] (.ps [1, 0, -1, -2, 0, 0] 1 [(2, 3), (1, 2)] (.ng [-1, 0, 1, 2, 0, 0] 1 [(2, 3), (1, 2)] (.ps [0, 0, 0, -1, 0, 0] 1 [(1, 3)] (.ln [1, 1, 0, 0, 0, 0] (.ln [-1, 0, 0, 1, 1, 1] (.ln [1, 1, -1, 0, 1, 1] (.ln [0, 0, 0, -1, 0, 0] (.ln [0, 0, 1, -1, -1, 0] (.ps [0, 0, 1, -1, -1, 0] 1 [(2, 3), (1, 0)] (.ng [0, 0, -1, 1, 1, 0] 1 [(2, 3), (1, 0)] (.ps [0, 0, 1, 0, -1, 0] 1 [(1, 3), (1, 0)] (.ln [0, 0, 1, 0, 0, 0] (.ln [0, 0, -1, 1, 1, 1] (.ln [0, 0, 0, 0, 1, 1] (.ln [0, 0, 1, 0, -1, 0] (.ng [0, 0, -1, 1, 1, 1] 1 [(2, 3), (1, 1), (1, 0)] (.ln [1, 0, -1, 0, 0, 0] (.ps [1, 0, -1, 0, 0, 0] 1 [(1, 2)] (.ng [-1, 0, 1, 0, 0, 0] 1 [(1, 2)] (.ps [1, 0, -1, 0, 0, 0] 1 [(1, 2)] (.ln [1, 1, 0, 0, 0, 0] (.ln [-1, 0, 0, 1, 1, 1] (.ln [0, 0, 0, 1, 1, 1] (.ln [1, 1, -1, 0, 0, 0] (.ps [1, 1, -1, 0, 0, 0] 1 [(1, 4), (1, 2)] (.ps [0, 0, 1, 0, -1, 0] 1 [(1, 3), (1, 0)] (.ln [0, 0, 1, 1, -1, 0] (.ps [0, 0, 1, 1, -1, 0] 1 [(1, 0)] (.ps [0, 0, 0, -1, 0, 0] 1 [(1, 3)] (.ps [0, 0, 1, 1, -1, 0] 1 [(1, 0)] (.ln [1, 1, -1, 0, 1, 1] (.ln [0, 0, 0, -1, 0, 0] (.ln [0, 0, 0, 0, 1, 1] (.ln [1, 1, 0, 1, -1, 0] (.fin)))))))))))))))))))))))))))))))))))))))))))) (.ps [0, 0, -1, -1, 1, 0] 1 [(1, 0)] (.ng [0, 0, 1, 1, -1, 0] 1 [(1, 0)] (.ln [1, 1, -1, 0, 1, 0] (.ln [0, 0, 0, 0, 0, 1] (.ln [0, 0, 1, 1, 0, 1] (.ln [1, 1, -1, 0, 0, 0] (.ng [-1, 0, 1, 1, 0, 0] 1 [(1, 3), (1, 2)] (.ng [0, 0, 0, 0, 0, 1] 1 [(1, 1)] (.ln [1, 0, 0, -1, -1, 0] (.sp [1, 0, 0, -1, -1, 0] (.ng [-1, 0, 0, 1, 1, 0] 1 [(1, 0)] (.sp [0, 0, 1, 0, -1, 0] (.ln [1, 1, 0, 0, 0, 0] (.ln [-1, 0, 0, 1, 1, 1] (.ln [1, 1, -1, 0, 1, 1] (.ln [0, 0, 1, 0, -1, 0] (.ln [0, 0, 1, -1, -1, 0] (.ps [0, 0, 1, -1, -1, 0] 1 [(1, 5), (1, 0)] (.ng [0, 0, -1, 1, 1, 0] 1 [(1, 5), (1, 0)] (.ps [0, 0, 1, 0, -1, 0] 1 [(1, 0)] (.ln [0, 0, 1, 0, 0, 0] (.ln [0, 0, -1, 1, 1, 1] (.ln [0, 0, 0, 0, 1, 1] (.ln [0, 0, 1, 0, -1, 0] (.ng [0, 0, -1, 1, 1, 1] 1 [(1, 5), (1, 3), (1, 0)] (.ln [1, 0, -1, 0, 0, 0] (.ps [1, 0, -1, 0, 0, 0] 1 [(1, 4)] (.ng [-1, 0, 1, 0, 0, 0] 1 [(1, 4)] (.ps [1, 0, -1, 0, 0, 0] 1 [(1, 4)] (.ln [1, 1, 0, 0, 0, 0] (.ln [-1, 0, 0, 1, 1, 1] (.ln [0, 0, 0, 1, 1, 1] (.ln [1, 1, -1, 0, 0, 0] (.ps [1, 1, -1, 0, 0, 0] 1 [(1, 6), (1, 4)] (.ps [0, 0, 1, 0, -1, 0] 1 [(1, 0)] (.ln [0, 0, 1, 1, -1, 0] (.ng [0, 0, 1, 1, -1, 0] 1 [(1, 2)] (.ps [0, 0, 0, -1, 0, 0] 1 [(1, 5)] (.ng [0, 0, 1, 1, -1, 0] 1 [(1, 2)] (.ln [1, 1, -1, 0, 1, 1] (.ln [0, 0, 1, 0, -1, 0] (.ln [0, 0, 1, 1, 0, 1] (.ln [1, 1, -1, 0, 0, 0] (.fin)))))))))))))))))))))))))))))))) (.ln [1, 1, 0, 0, 0, 0] (.ln [-1, 0, 0, 1, 1, 1] (.ln [1, 1, 0, 0, 0, 1] (.ln [0, 0, 1, 0, -1, 0] (.ln [0, 0, 1, -1, -1, 0] (.sp [0, 0, 1, -1, -1, 0] (.ng [0, 0, -1, 1, 1, 0] 1 [(1, 0)] (.ng [0, 0, 1, 0, -1, 0] 1 [(1, 1)] (.ln [0, 0, 1, 0, 0, 0] (.ln [0, 0, -1, 1, 1, 1] (.ln [0, 0, 1, 0, 0, 1] (.ln [0, 0, 1, 0, -1, 0] (.ng [0, 0, -1, 1, 1, 1] 1 [(1, 4), (1, 0)] (.ln [1, 0, -1, 0, 0, 0] (.ps [1, 0, -1, 0, 0, 0] 1 [(1, 5)] (.ng [-1, 0, 1, 0, 0, 0] 1 [(1, 5)] (.ps [1, 0, -1, 0, 0, 0] 1 [(1, 5)] (.ln [1, 1, 0, 0, 0, 0] (.ln [-1, 0, 0, 1, 1, 1] (.ln [0, 0, 0, 1, 1, 1] (.ln [1, 1, -1, 0, 0, 0] (.ps [1, 1, -1, 0, 0, 0] 1 [(1, 7), (1, 5)] (.ng [0, 0, 1, 0, -1, 0] 1 [(1, 1)] (.ln [0, 0, -1, 1, 1, 0] (.ng [0, 0, -1, 1, 1, 0] 1 [(1, 0)] (.ps [0, 0, 1, -1, -1, 0] 1 [(1, 0)] (.ng [0, 0, -1, 1, 1, 0] 1 [(1, 0)] (.ln [1, 1, 0, 0, 0, 1] (.ln [0, 0, 1, 0, -1, 0] (.ln [0, 0, 1, 1, 0, 1] (.ln [1, 1, -1, 0, 0, 0] (.fin)))))))))))))))))))))))))) (.ps [0, 0, -1, 1, 1, 0] 1 [(1, 0)] (.ng [0, 0, 1, 0, -1, 0] 1 [(1, 1)] (.ln [0, 0, 0, 1, 1, 0] (.ln [0, 0, 0, 0, 0, 1] (.ln [0, 0, 1, 0, 0, 1] (.ln [0, 0, 0, 1, 0, 0] (.ng [0, 0, 0, 0, 0, 1] 1 [(1, 4)] (.ln [1, 0, 0, -1, -1, 0] (.ps [1, 0, 0, -1, -1, 0] 1 [(1, 2)] (.ng [-1, 0, 0, 1, 1, 0] 1 [(1, 2)] (.ps [1, 0, 0, -1, -1, 0] 1 [(1, 2)] (.ln [1, 1, 0, 0, 0, 0] (.ln [-1, 0, 0, 1, 1, 1] (.ln [0, 0, 0, 1, 1, 1] (.ln [1, 1, 0, -1, -1, 0] (.ps [1, 1, 0, -1, -1, 0] 1 [(1, 7), (1, 2)] (.ng [0, 0, 0, 1, 0, 0] 1 [(1, 6)] (.ln [0, 0, -1, 1, 1, 0] (.ps [0, 0, -1, 1, 1, 0] 1 [(1, 0)] (.ng [0, 0, 1, -1, -1, 0] 1 [(1, 0)] (.ps [0, 0, -1, 1, 1, 0] 1 [(1, 0)] (.ln [1, 1, 0, 0, 0, 1] (.ln [0, 0, 1, 0, -1, 0] (.ln [0, 0, 1, 1, 0, 1] (.ln [1, 1, -1, 0, 0, 0] (.fin)))))))))))))))))))))))))))))))))) (.ps [-1, 0, 0, 1, 1, 0] 1 [(1, 0)] (.ng [0, 0, 1, 0, -1, 0] 2 [(1, 3), (1, 1), (1, 0)] (.ln [0, 1, 0, 1, 1, 0] (.ln [0, 0, 0, 0, 0, 1] (.ln [1, 1, 0, 0, 0, 1] (.ln [-1, 0, 1, 1, 0, 0] (.ln [0, 0, 1, -1, -1, 0] (.ng [0, 0, 1, -1, -1, 0] 1 [(1, 3), (1, 0)] (.ps [0, 0, -1, 1, 1, 0] 1 [(1, 3), (1, 0)] (.ng [0, 0, 1, 0, -1, 0] 2 [(1, 3), (1, 1), (1, 0)] (.ln [0, 0, 0, 1, 1, 0] (.ln [0, 0, 0, 0, 0, 1] (.ln [0, 0, 1, 0, 0, 1] (.ln [0, 0, 0, 1, 0, 0] (.ng [0, 0, 0, 0, 0, 1] 1 [(1, 2)] (.ln [1, 0, 0, -1, -1, 0] (.ng [1, 0, 0, -1, -1, 0] 1 [(1, 0)] (.ps [-1, 0, 0, 1, 1, 0] 1 [(1, 0)] (.ng [1, 0, 0, -1, -1, 0] 1 [(1, 0)] (.ln [0, 1, 0, 1, 1, 0] (.ln [0, 0, 0, 0, 0, 1] (.ln [1, 0, 0, 0, 0, 1] (.ln [0, 1, 0, 0, 0, 0] (.ps [0, 1, 0, 0, 0, 0] 1 [(1, 5)] (.ng [0, 0, 0, 1, 0, 0] 1 [(1, 4)] (.ln [1, 0, -1, 0, 0, 0] (.ps [1, 0, -1, 0, 0, 0] 1 [(1, 3)] (.ng [-1, 0, 1, 0, 0, 0] 1 [(1, 3)] (.ps [1, 0, -1, 0, 0, 0] 1 [(1, 3)] (.ln [1, 1, 0, 0, 0, 1] (.ln [-1, 0, 1, 1, 0, 0] (.ln [0, 0, 1, 1, 0, 1] (.ln [1, 1, -1, 0, 0, 0] (.fin)))))))))))))))))))))))))))))))))))))))))))))))))))))) (.ps [-1, 0, 1, 0, 0, 0] 1 [(1, 0)] (.ng [1, 0, -1, 0, 0, 0] 1 [(1, 0)] (.ln [0, 1, 1, 0, 0, 0] (.ln [0, 0, 0, 1, 0, 0] (.ln [1, 0, 0, 1, 0, 0] (.ln [0, 1, 0, 0, 0, 0] (.ps [0, 1, 0, 0, 0, 0] 1 [(1, 2)] (.sp [0, 0, 0, 0, 0, 1] (.ln [1, 0, 0, 1, -1, 1] (.sp [1, 0, 0, 1, -1, 1] (.sp [-1, 0, 0, -1, 1, 0] (.ps [1, 0, 0, 1, -1, 1] 1 [(1, 1)] (.ln [0, 1, 0, 0, 1, 0] (.ln [-1, 0, 0, -1, 1, 0] (.ln [0, 0, 0, 0, 1, 0] (.ln [1, 1, 0, 1, -1, 1] (.ng [0, 0, 0, 1, 0, 0] 1 [(1, 4)] (.ps [-1, 0, 0, -1, 1, 0] 1 [(1, 0)] (.ln [-1, 0, 1, -2, 0, 0] (.ps [-1, 0, 1, -2, 0, 0] 1 [(2, 4), (1, 3)] (.sp [0, 0, -1, 1, 1, 0] (.ps [-1, 0, 1, -1, 0, 0] 1 [(1, 5), (1, 4)] (.ln [0, 1, 0, 1, 1, 0] (.ln [0, 0, -1, 1, 1, 0] (.ln [0, 1, 0, 0, 1, 0] (.ln [-1, 0, 1, -1, 0, 0] (.ln [0, 0, 1, -1, -1, 1] (.ps [0, 0, 1, -1, -1, 1] 1 [(2, 5), (1, 4), (1, 2)] (.ps [0, 0, -1, 1, 1, 0] 1 [(1, 0)] (.ps [0, 0, 1, 0, -1, 1] 1 [(1, 5), (1, 4), (1, 2)] (.ln [0, 0, 0, 1, 1, 0] (.ln [0, 0, -1, 1, 1, 0] (.ln [0, 0, 0, 0, 1, 0] (.ln [0, 0, 1, 0, -1, 1] (.ps [0, 0, -1, 1, 1, 0] 1 [(1, 0)] (.ln [1, 0, -1, 0, 0, 0] (.ng [1, 0, -1, 0, 0, 0] 1 [(1, 4)] (.ps [-1, 0, 0, 1, 1, 0] 1 [(1, 4), (1, 0)] (.ng [1, 0, -1, 0, 0, 0] 1 [(1, 4)] (.ln [0, 1, 0, 1, 1, 0] (.ln [0, 0, -1, 1, 1, 0] (.ln [1, 0, -1, 1, 1, 0] (.ln [0, 1, 0, 0, 0, 0] (.ps [0, 1, 0, 0, 0, 0] 1 [(1, 6)] (.ps [0, 0, 1, 0, -1, 1] 1 [(1, 5), (1, 4), (1, 2)] (.ln [1, 0, 0, 1, -1, 1] (.ps [1, 0, 0, 1, -1, 1] 1 [(1, 2)] (.ps [-1, 0, 1, -1, 0, 0] 1 [(1, 5), (1, 4)] (.ps [1, 0, 0, 1, -1, 1] 1 [(1, 2)] (.ln [0, 1, 0, 0, 1, 0] (.ln [-1, 0, 1, -1, 0, 0] (.ln [0, 0, 0, 0, 1, 0] (.ln [1, 1, 0, 1, -1, 1] (.fin))))))))))))))))))))))))))))))))) (.ps [-1, 0, 1, -1, 0, 0] 1 [(1, 5), (1, 4)] (.ln [0, 1, 1, 0, 0, 0] (.ln [0, 0, -1, 1, 1, 0] (.ln [0, 1, 0, 0, 1, 0] (.ln [-1, 0, 1, -1, 0, 0] (.ln [0, 0, 1, -1, -1, 1] (.ps [0, 0, 1, -1, -1, 1] 1 [(2, 5), (1, 4), (1, 2)] (.ng [0, 0, -1, 1, 1, 0] 1 [(1, 0)] (.ps [0, 0, 1, 0, -1, 1] 1 [(1, 5), (1, 4), (1, 2)] (.ln [0, 0, 1, 0, 0, 0] (.ln [0, 0, -1, 1, 1, 0] (.ln [0, 0, 0, 0, 1, 0] (.ln [0, 0, 1, 0, -1, 1] (.ng [0, 0, -1, 1, 1, 0] 1 [(1, 0)] (.ln [1, 0, -1, 0, 0, 0] (.ng [1, 0, -1, 0, 0, 0] 1 [(1, 4)] (.ps [-1, 0, 1, 0, 0, 0] 1 [(1, 4)] (.ng [1, 0, -1, 0, 0, 0] 1 [(1, 4)] (.ln [0, 1, 1, 0, 0, 0] (.ln [0, 0, -1, 1, 1, 0] (.ln [1, 0, -1, 1, 1, 0] (.ln [0, 1, 0, 0, 0, 0] (.ps [0, 1, 0, 0, 0, 0] 1 [(1, 6)] (.ps [0, 0, 1, 0, -1, 1] 1 [(1, 5), (1, 4), (1, 2)] (.ln [1, 0, 0, 1, -1, 1] (.ps [1, 0, 0, 1, -1, 1] 1 [(1, 2)] (.ps [-1, 0, 1, -1, 0, 0] 1 [(1, 5), (1, 4)] (.ps [1, 0, 0, 1, -1, 1] 1 [(1, 2)] (.ln [0, 1, 0, 0, 1, 0] (.ln [-1, 0, 1, -1, 0, 0] (.ln [0, 0, 0, 0, 1, 0] (.ln [1, 1, 0, 1, -1, 1] (.fin))))))))))))))))))))))))))))))))))))))))))) (.ps [1, 0, 0, 1, -1, 1] 1 [(1, 1)] (.ln [1, 1, 0, 1, 0, 0] (.ln [-1, 0, 0, -1, 1, 0] (.ln [0, 0, 0, 0, 1, 0] (.ln [1, 1, 0, 1, -1, 1] (.ng [0, 0, 0, 1, 0, 0] 1 [(1, 4)] (.ng [-1, 0, 0, -1, 1, 0] 1 [(1, 0)] (.ln [-1, 0, 1, -2, 0, 0] (.ps [-1, 0, 1, -2, 0, 0] 1 [(2, 4), (1, 3)] (.ng [1, 0, -1, 2, 0, 0] 1 [(2, 4), (1, 3)] (.ps [-1, 0, 1, -1, 0, 0] 1 [(1, 4), (1, 3)] (.ln [0, 1, 1, 0, 0, 0] (.ln [0, 0, -1, 1, 1, 0] (.ln [0, 1, 0, 0, 1, 0] (.ln [-1, 0, 1, -1, 0, 0] (.ln [0, 0, 1, -1, -1, 1] (.ps [0, 0, 1, -1, -1, 1] 1 [(2, 4), (1, 3), (1, 1)] (.ng [0, 0, -1, 1, 1, 0] 1 [(2, 4), (1, 3), (1, 0)] (.ps [0, 0, 1, 0, -1, 1] 1 [(1, 4), (1, 3), (1, 1)] (.ln [0, 0, 1, 0, 0, 0] (.ln [0, 0, -1, 1, 1, 0] (.ln [0, 0, 0, 0, 1, 0] (.ln [0, 0, 1, 0, -1, 1] (.ng [0, 0, -1, 1, 1, 0] 1 [(2, 4), (1, 3), (1, 0)] (.ln [1, 0, -1, 0, 0, 0] (.ng [1, 0, -1, 0, 0, 0] 1 [(1, 3)] (.ps [-1, 0, 1, 0, 0, 0] 1 [(1, 3)] (.ng [1, 0, -1, 0, 0, 0] 1 [(1, 3)] (.ln [0, 1, 1, 0, 0, 0] (.ln [0, 0, -1, 1, 1, 0] (.ln [1, 0, -1, 1, 1, 0] (.ln [0, 1, 0, 0, 0, 0] (.ps [0, 1, 0, 0, 0, 0] 1 [(1, 5)] (.ps [0, 0, 1, 0, -1, 1] 1 [(1, 4), (1, 3), (1, 1)] (.ln [1, 0, 0, 1, -1, 1] (.ps [1, 0, 0, 1, -1, 1] 1 [(1, 1)] (.ps [-1, 0, 1, -1, 0, 0] 1 [(1, 4), (1, 3)] (.ps [1, 0, 0, 1, -1, 1] 1 [(1, 1)] (.ln [0, 1, 0, 0, 1, 0] (.ln [-1, 0, 1, -1, 0, 0] (.ln [0, 0, 0, 0, 1, 0] (.ln [1, 1, 0, 1, -1, 1] (.fin)))))))))))))))))))))))))))))))))))))))))))) (.ps [-1, 0, 0, -1, 1, 0] 1 [(1, 1), (1, 0)] (.ng [1, 0, 0, 1, -1, 1] 1 [(1, 0)] (.ln [0, 1, 0, 0, 1, 0] (.ln [0, 0, 0, 0, 0, 1] (.ln [1, 0, 0, 1, 0, 1] (.ln [0, 1, 0, 0, 0, 0] (.ng [0, 0, 0, 1, 0, 0] 1 [(1, 3)] (.ps [0, 0, 0, 0, 0, 1] 1 [(1, 1)] (.ln [0, 0, 1, -1, -1, 1] (.sp [0, 0, 1, -1, -1, 1] (.sp [0, 0, -1, 1, 1, 0] (.sp [0, 0, 1, 0, -1, 1] (.ln [0, 1, 0, 1, 1, 0] (.ln [0, 0, -1, 1, 1, 0] (.ln [0, 1, 0, 0, 1, 0] (.ln [0, 0, 1, 0, -1, 1] (.ln [0, 0, 1, -1, -1, 1] (.ps [0, 0, 1, -1, -1, 1] 1 [(1, 2)] (.ps [0, 0, -1, 1, 1, 0] 1 [(1, 1)] (.ps [0, 0, 1, 0, -1, 1] 1 [(1, 0)] (.ln [0, 0, 0, 1, 1, 0] (.ln [0, 0, -1, 1, 1, 0] (.ln [0, 0, 0, 0, 1, 0] (.ln [0, 0, 1, 0, -1, 1] (.ps [0, 0, -1, 1, 1, 0] 1 [(1, 1)] (.ln [1, 0, -1, 0, 0, 0] (.ng [1, 0, -1, 0, 0, 0] 1 [(1, 5)] (.ps [-1, 0, 0, 1, 1, 0] 1 [(1, 5), (1, 1)] (.ng [1, 0, -1, 0, 0, 0] 1 [(1, 5)] (.ln [0, 1, 0, 1, 1, 0] (.ln [0, 0, -1, 1, 1, 0] (.ln [1, 0, -1, 1, 1, 0] (.ln [0, 1, 0, 0, 0, 0] (.ps [0, 1, 0, 0, 0, 0] 1 [(1, 7)] (.ps [0, 0, 1, 0, -1, 1] 1 [(1, 0)] (.ln [1, 0, 0, 1, -1, 1] (.ng [1, 0, 0, 1, -1, 1] 1 [(1, 3)] (.ps [-1, 0, 1, -1, 0, 0] 1 [(1, 6), (1, 5)] (.ng [1, 0, 0, 1, -1, 1] 1 [(1, 3)] (.ln [0, 1, 0, 0, 1, 0] (.ln [0, 0, 1, 0, -1, 1] (.ln [1, 0, 0, 1, 0, 1] (.ln [0, 1, 0, 0, 0, 0] (.fin)))))))))))))))))))))))))))))))) (.ln [0, 1, 0, 1, 1, 0] (.ln [0, 0, -1, 1, 1, 0] (.ln [0, 1, 1, 0, 0, 1] (.ln [0, 0, 1, 0, -1, 1] (.ln [0, 0, 1, -1, -1, 1] (.ps [0, 0, 1, -1, -1, 1] 1 [(1, 2)] (.ps [0, 0, -1, 1, 1, 0] 1 [(1, 1)] (.ng [0, 0, 1, 0, -1, 1] 1 [(1, 0)] (.ln [0, 0, 0, 1, 1, 0] (.ln [0, 0, -1, 1, 1, 0] (.ln [0, 0, 1, 0, 0, 1] (.ln [0, 0, 1, 0, -1, 1] (.ps [0, 0, -1, 1, 1, 0] 1 [(1, 1)] (.ln [1, 0, -1, 0, 0, 0] (.ng [1, 0, -1, 0, 0, 0] 1 [(1, 5)] (.ps [-1, 0, 0, 1, 1, 0] 1 [(1, 5), (1, 1)] (.ng [1, 0, -1, 0, 0, 0] 1 [(1, 5)] (.ln [0, 1, 0, 1, 1, 0] (.ln [0, 0, -1, 1, 1, 0] (.ln [1, 0, -1, 1, 1, 0] (.ln [0, 1, 0, 0, 0, 0] (.ps [0, 1, 0, 0, 0, 0] 1 [(1, 7)] (.ng [0, 0, 1, 0, -1, 1] 1 [(1, 0)] (.ln [1, 0, -2, 1, 1, -1] (.ng [1, 0, -2, 1, 1, -1] 1 [(1, 5), (1, 2)] (.ps [-1, 0, 2, -1, -1, 1] 1 [(1, 5), (1, 2)] (.ng [1, 0, -2, 1, 1, -1] 1 [(1, 5), (1, 2)] (.ln [0, 1, 1, 0, 0, 1] (.ln [0, 0, 1, 0, -1, 1] (.ln [1, 0, 0, 1, 0, 1] (.ln [0, 1, 0, 0, 0, 0] (.fin))))))))))))))))))))))))))))))))) (.sp [0, 0, 1, 0, -1, 1] (.ln [0, 1, 1, 0, 0, 0] (.ln [0, 0, -1, 1, 1, 0] (.ln [0, 1, 0, 0, 1, 0] (.ln [0, 0, 1, 0, -1, 1] (.ln [0, 0, 1, -1, -1, 1] (.ps [0, 0, 1, -1, -1, 1] 1 [(1, 2)] (.ng [0, 0, -1, 1, 1, 0] 1 [(1, 1)] (.ps [0, 0, 1, 0, -1, 1] 1 [(1, 0)] (.ln [0, 0, 1, 0, 0, 0] (.ln [0, 0, -1, 1, 1, 0] (.ln [0, 0, 0, 0, 1, 0] (.ln [0, 0, 1, 0, -1, 1] (.ng [0, 0, -1, 1, 1, 0] 1 [(1, 1)] (.ln [1, 0, -1, 0, 0, 0] (.ng [1, 0, -1, 0, 0, 0] 1 [(1, 5)] (.ps [-1, 0, 1, 0, 0, 0] 1 [(1, 5)] (.ng [1, 0, -1, 0, 0, 0] 1 [(1, 5)] (.ln [0, 1, 1, 0, 0, 0] (.ln [0, 0, -1, 1, 1, 0] (.ln [1, 0, -1, 1, 1, 0] (.ln [0, 1, 0, 0, 0, 0] (.ps [0, 1, 0, 0, 0, 0] 1 [(1, 7)] (.ps [0, 0, 1, 0, -1, 1] 1 [(1, 0)] (.ln [1, 0, 0, 1, -1, 1] (.ng [1, 0, 0, 1, -1, 1] 1 [(1, 3)] (.ps [-1, 0, 1, -1, 0, 0] 1 [(1, 6), (1, 5)] (.ng [1, 0, 0, 1, -1, 1] 1 [(1, 3)] (.ln [0, 1, 0, 0, 1, 0] (.ln [0, 0, 1, 0, -1, 1] (.ln [1, 0, 0, 1, 0, 1] (.ln [0, 1, 0, 0, 0, 0] (.fin)))))))))))))))))))))))))))))))) (.ln [0, 1, 1, 0, 0, 0] (.ln [0, 0, -1, 1, 1, 0] (.ln [0, 1, 1, 0, 0, 1] (.ln [0, 0, 1, 0, -1, 1] (.ln [0, 0, 1, -1, -1, 1] (.ps [0, 0, 1, -1, -1, 1] 1 [(1, 2)] (.ng [0, 0, -1, 1, 1, 0] 1 [(1, 1)] (.ng [0, 0, 1, 0, -1, 1] 1 [(1, 0)] (.ln [0, 0, 1, 0, 0, 0] (.ln [0, 0, -1, 1, 1, 0] (.ln [0, 0, 1, 0, 0, 1] (.ln [0, 0, 1, 0, -1, 1] (.ng [0, 0, -1, 1, 1, 0] 1 [(1, 1)] (.ln [1, 0, -1, 0, 0, 0] (.ng [1, 0, -1, 0, 0, 0] 1 [(1, 5)] (.ps [-1, 0, 1, 0, 0, 0] 1 [(1, 5)] (.ng [1, 0, -1, 0, 0, 0] 1 [(1, 5)] (.ln [0, 1, 1, 0, 0, 0] (.ln [0, 0, -1, 1, 1, 0] (.ln [1, 0, -1, 1, 1, 0] (.ln [0, 1, 0, 0, 0, 0] (.ps [0, 1, 0, 0, 0, 0] 1 [(1, 7)] (.ng [0, 0, 1, 0, -1, 1] 1 [(1, 0)] (.ln [1, 0, -2, 1, 1, -1] (.ng [1, 0, -2, 1, 1, -1] 1 [(1, 5), (1, 2)] (.ps [-1, 0, 2, -1, -1, 1] 1 [(1, 5), (1, 2)] (.ng [1, 0, -2, 1, 1, -1] 1 [(1, 5), (1, 2)] (.ln [0, 1, 1, 0, 0, 1] (.ln [0, 0, 1, 0, -1, 1] (.ln [1, 0, 0, 1, 0, 1] (.ln [0, 1, 0, 0, 0, 0] (.fin)))))))))))))))))))))))))))))))))) (.ps [0, 0, -1, 1, 1, 0] 1 [(1, 2), (1, 0)] (.ng [0, 0, 1, 0, -1, 1] 1 [(1, 4), (1, 0)] (.ln [0, 1, 0, 1, 1, 0] (.ln [0, 0, 0, 0, 0, 1] (.ln [0, 1, 1, 0, 0, 1] (.ln [0, 0, 0, 1, 0, 0] (.ln [0, 0, 1, -1, -1, 1] (.ng [0, 0, 1, -1, -1, 1] 1 [(1, 0)] (.ps [0, 0, -1, 1, 1, 0] 1 [(1, 2), (1, 0)] (.ng [0, 0, 1, 0, -1, 1] 1 [(1, 4), (1, 0)] (.ln [0, 0, 0, 1, 1, 0] (.ln [0, 0, 0, 0, 0, 1] (.ln [0, 0, 1, 0, 0, 1] (.ln [0, 0, 0, 1, 0, 0] (.ps [0, 0, 0, 0, 0, 1] 1 [(1, 2)] (.ln [1, 0, 0, -1, -1, 1] (.ng [1, 0, 0, -1, -1, 1] 1 [(1, 3), (1, 0)] (.ps [-1, 0, 0, 1, 1, 0] 1 [(1, 3), (1, 2), (1, 0)] (.ng [1, 0, 0, -1, -1, 1] 1 [(1, 3), (1, 0)] (.ln [0, 1, 0, 1, 1, 0] (.ln [0, 0, 0, 0, 0, 1] (.ln [1, 0, 0, 0, 0, 1] (.ln [0, 1, 0, 0, 0, 0] (.ps [0, 1, 0, 0, 0, 0] 1 [(1, 5)] (.ng [0, 0, 0, 1, 0, 0] 1 [(1, 4)] (.ln [1, 0, -1, 0, 0, 0] (.ng [1, 0, -1, 0, 0, 0] 1 [(1, 3)] (.ps [-1, 0, 1, 0, 0, 0] 1 [(1, 3)] (.ng [1, 0, -1, 0, 0, 0] 1 [(1, 3)] (.ln [0, 1, 1, 0, 0, 1] (.ln [0, 0, 0, 1, 0, 0] (.ln [1, 0, 0, 1, 0, 1] (.ln [0, 1, 0, 0, 0, 0] (.fin)))))))))))))))))))))))))))))))))))))))))))))) (.ln [1, 0, 0, 1, -1, 0] (.sp [1, 0, 0, 1, -1, 0] (.ng [-1, 0, 0, -1, 1, 0] 1 [(1, 0)] (.ps [1, 0, 0, 1, -1, 0] 1 [(1, 0)] (.ln [1, 1, 0, 1, 0, 0] (.ln [-1, 0, 0, -1, 1, 1] (.ln [0, 0, 0, 0, 1, 1] (.ln [1, 1, 0, 1, -1, 0] (.ng [0, 0, 0, 1, 0, 0] 1 [(1, 3)] (.ng [-1, 0, 0, -1, 1, 1] 1 [(1, 1), (1, 0)] (.ln [-1, 0, 1, -2, 0, 0] (.ps [-1, 0, 1, -2, 0, 0] 1 [(2, 3), (1, 2)] (.ng [1, 0, -1, 2, 0, 0] 1 [(2, 3), (1, 2)] (.ps [-1, 0, 1, -1, 0, 0] 1 [(1, 3), (1, 2)] (.ln [0, 1, 1, 0, 0, 0] (.ln [0, 0, -1, 1, 1, 1] (.ln [0, 1, 0, 0, 1, 1] (.ln [-1, 0, 1, -1, 0, 0] (.ln [0, 0, 1, -1, -1, 0] (.ps [0, 0, 1, -1, -1, 0] 1 [(2, 3), (1, 2), (1, 0)] (.ng [0, 0, -1, 1, 1, 0] 1 [(2, 3), (1, 2), (1, 0)] (.ps [0, 0, 1, 0, -1, 0] 1 [(1, 3), (1, 2), (1, 0)] (.ln [0, 0, 1, 0, 0, 0] (.ln [0, 0, -1, 1, 1, 1] (.ln [0, 0, 0, 0, 1, 1] (.ln [0, 0, 1, 0, -1, 0] (.ng [0, 0, -1, 1, 1, 1] 1 [(2, 3), (1, 2), (1, 1), (1, 0)] (.ln [1, 0, -1, 0, 0, 0] (.ng [1, 0, -1, 0, 0, 0] 1 [(1, 2)] (.ps [-1, 0, 1, 0, 0, 0] 1 [(1, 2)] (.ng [1, 0, -1, 0, 0, 0] 1 [(1, 2)] (.ln [0, 1, 1, 0, 0, 0] (.ln [0, 0, -1, 1, 1, 1] (.ln [1, 0, -1, 1, 1, 1] (.ln [0, 1, 0, 0, 0, 0] (.ps [0, 1, 0, 0, 0, 0] 1 [(1, 4)] (.ps [0, 0, 1, 0, -1, 0] 1 [(1, 3), (1, 2), (1, 0)] (.ln [1, 0, 0, 1, -1, 0] (.ps [1, 0, 0, 1, -1, 0] 1 [(1, 0)] (.ps [-1, 0, 1, -1, 0, 0] 1 [(1, 3), (1, 2)] (.ps [1, 0, 0, 1, -1, 0] 1 [(1, 0)] (.ln [0, 1, 0, 0, 1, 1] (.ln [-1, 0, 1, -1, 0, 0] (.ln [0, 0, 0, 0, 1, 1] (.ln [1, 1, 0, 1, -1, 0] (.fin)))))))))))))))))))))))))))))))))))))))))))) (.ps [-1, 0, 0, -1, 1, 0] 1 [(1, 0)] (.ng [1, 0, 0, 1, -1, 0] 1 [(1, 0)] (.ln [0, 1, 0, 0, 1, 0] (.ln [0, 0, 0, 0, 0, 1] (.ln [1, 0, 0, 1, 0, 1] (.ln [0, 1, 0, 0, 0, 0] (.ng [0, 0, 0, 1, 0, 0] 1 [(1, 3)] (.ng [0, 0, 0, 0, 0, 1] 1 [(1, 1)] (.ln [0, 0, 1, -1, -1, 0] (.sp [0, 0, 1, -1, -1, 0] (.ng [0, 0, -1, 1, 1, 0] 1 [(1, 0)] (.sp [0, 0, 1, 0, -1, 0] (.ln [0, 1, 1, 0, 0, 0] (.ln [0, 0, -1, 1, 1, 1] (.ln [0, 1, 0, 0, 1, 1] (.ln [0, 0, 1, 0, -1, 0] (.ln [0, 0, 1, -1, -1, 0] (.ps [0, 0, 1, -1, -1, 0] 1 [(1, 1)] (.ng [0, 0, -1, 1, 1, 0] 1 [(1, 1)] (.ps [0, 0, 1, 0, -1, 0] 1 [(1, 0)] (.ln [0, 0, 1, 0, 0, 0] (.ln [0, 0, -1, 1, 1, 1] (.ln [0, 0, 0, 0, 1, 1] (.ln [0, 0, 1, 0, -1, 0] (.ng [0, 0, -1, 1, 1, 1] 1 [(1, 3), (1, 1)] (.ln [1, 0, -1, 0, 0, 0] (.ng [1, 0, -1, 0, 0, 0] 1 [(1, 4)] (.ps [-1, 0, 1, 0, 0, 0] 1 [(1, 4)] (.ng [1, 0, -1, 0, 0, 0] 1 [(1, 4)] (.ln [0, 1, 1, 0, 0, 0] (.ln [0, 0, -1, 1, 1, 1] (.ln [1, 0, -1, 1, 1, 1] (.ln [0, 1, 0, 0, 0, 0] (.ps [0, 1, 0, 0, 0, 0] 1 [(1, 6)] (.ps [0, 0, 1, 0, -1, 0] 1 [(1, 0)] (.ln [1, 0, 0, 1, -1, 0] (.ng [1, 0, 0, 1, -1, 0] 1 [(1, 2)] (.ps [-1, 0, 1, -1, 0, 0] 1 [(1, 5), (1, 4)] (.ng [1, 0, 0, 1, -1, 0] 1 [(1, 2)] (.ln [0, 1, 0, 0, 1, 1] (.ln [0, 0, 1, 0, -1, 0] (.ln [1, 0, 0, 1, 0, 1] (.ln [0, 1, 0, 0, 0, 0] (.fin)))))))))))))))))))))))))))))))) (.ln [0, 1, 1, 0, 0, 0] (.ln [0, 0, -1, 1, 1, 1] (.ln [0, 1, 1, 0, 0, 1] (.ln [0, 0, 1, 0, -1, 0] (.ln [0, 0, 1, -1, -1, 0] (.ps [0, 0, 1, -1, -1, 0] 1 [(1, 1)] (.ng [0, 0, -1, 1, 1, 0] 1 [(1, 1)] (.ng [0, 0, 1, 0, -1, 0] 1 [(1, 0)] (.ln [0, 0, 1, 0, 0, 0] (.ln [0, 0, -1, 1, 1, 1] (.ln [0, 0, 1, 0, 0, 1] (.ln [0, 0, 1, 0, -1, 0] (.ng [0, 0, -1, 1, 1, 1] 1 [(1, 3), (1, 1)] (.ln [1, 0, -1, 0, 0, 0] (.ng [1, 0, -1, 0, 0, 0] 1 [(1, 4)] (.ps [-1, 0, 1, 0, 0, 0] 1 [(1, 4)] (.ng [1, 0, -1, 0, 0, 0] 1 [(1, 4)] (.ln [0, 1, 1, 0, 0, 0] (.ln [0, 0, -1, 1, 1, 1] (.ln [1, 0, -1, 1, 1, 1] (.ln [0, 1, 0, 0, 0, 0] (.ps [0, 1, 0, 0, 0, 0] 1 [(1, 6)] (.ng [0, 0, 1, 0, -1, 0] 1 [(1, 0)] (.ln [1, 0, -2, 1, 1, 0] (.ng [1, 0, -2, 1, 1, 0] 1 [(1, 4), (1, 1)] (.ps [-1, 0, 2, -1, -1, 0] 1 [(1, 4), (1, 1)] (.ng [1, 0, -2, 1, 1, 0] 1 [(1, 4), (1, 1)] (.ln [0, 1, 1, 0, 0, 1] (.ln [0, 0, 1, 0, -1, 0] (.ln [1, 0, 0, 1, 0, 1] (.ln [0, 1, 0, 0, 0, 0] (.fin)))))))))))))))))))))))))))))))))) (.ps [0, 0, -1, 1, 1, 0] 1 [(1, 0)] (.ng [0, 0, 1, 0, -1, 0] 1 [(1, 4), (1, 0)] (.ln [0, 1, 0, 1, 1, 0] (.ln [0, 0, 0, 0, 0, 1] (.ln [0, 1, 1, 0, 0, 1] (.ln [0, 0, 0, 1, 0, 0] (.ln [0, 0, 1, -1, -1, 0] (.ng [0, 0, 1, -1, -1, 0] 1 [(1, 0)] (.ps [0, 0, -1, 1, 1, 0] 1 [(1, 0)] (.ng [0, 0, 1, 0, -1, 0] 1 [(1, 4), (1, 0)] (.ln [0, 0, 0, 1, 1, 0] (.ln [0, 0, 0, 0, 0, 1] (.ln [0, 0, 1, 0, 0, 1] (.ln [0, 0, 0, 1, 0, 0] (.ng [0, 0, 0, 0, 0, 1] 1 [(1, 2)] (.ln [1, 0, 0, -1, -1, 0] (.ng [1, 0, 0, -1, -1, 0] 1 [(1, 3), (1, 0)] (.ps [-1, 0, 0, 1, 1, 0] 1 [(1, 3), (1, 0)] (.ng [1, 0, 0, -1, -1, 0] 1 [(1, 3), (1, 0)] (.ln [0, 1, 0, 1, 1, 0] (.ln [0, 0, 0, 0, 0, 1] (.ln [1, 0, 0, 0, 0, 1] (.ln [0, 1, 0, 0, 0, 0] (.ps [0, 1, 0, 0, 0, 0] 1 [(1, 5)] (.ng [0, 0, 0, 1, 0, 0] 1 [(1, 4)] (.ln [1, 0, -1, 0, 0, 0] (.ng [1, 0, -1, 0, 0, 0] 1 [(1, 3)] (.ps [-1, 0, 1, 0, 0, 0] 1 [(1, 3)] (.ng [1, 0, -1, 0, 0, 0] 1 [(1, 3)] (.ln [0, 1, 1, 0, 0, 1] (.ln [0, 0, 0, 1, 0, 0] (.ln [1, 0, 0, 1, 0, 1] (.ln [0, 1, 0, 0, 0, 0] (.fin))))))))))))))))))))))))))))))))))))))))))))))))))))))))) (.sp [0, 0, 0, 1, 0, 0] (.ln [1, -1, -1, 1, 0, 0] (.sp [1, -1, -1, 1, 0, 0] (.sp [-1, 1, 1, 0, 0, 0] (.sp [1, 0, -1, 1, 0, 0] (.ln [0, 1, 1, 0, 0, 0] (.ln [-1, 1, 1, 0, 0, 0] (.ln [0, 0, 1, 0, 0, 0] (.ln [1, 0, -1, 1, 0, 0] (.ps [1, 0, -1, 1, 0, 0] 1 [(1, 0)] (.sp [0, 0, 0, 0, 0, 1] (.ln [0, 0, 1, 0, -1, 1] (.sp [0, 0, 1, 0, -1, 1] (.sp [0, 0, -1, 0, 1, 0] (.ps [0, 0, 1, 0, -1, 1] 1 [(1, 1)] (.ln [1, 0, -1, 1, 1, 0] (.ln [0, 0, -1, 0, 1, 0] (.ln [0, 0, 0, 0, 1, 0] (.ln [1, 0, 0, 1, -1, 1] (.ps [-1, 1, 1, 0, 0, 0] 1 [(1, 4)] (.ps [0, 0, -1, 0, 1, 0] 1 [(1, 0)] (.ln [-1, 1, 1, -1, 0, 0] (.ng [-1, 1, 1, -1, 0, 0] 1 [(1, 5)] (.ps [1, -1, -2, 1, 1, 0] 1 [(1, 5), (1, 0)] (.ng [-1, 1, 1, -1, 0, 0] 1 [(1, 5)] (.ln [0, 1, 0, 1, 1, 0] (.ln [0, 0, -1, 0, 1, 0] (.ln [0, 1, 0, 0, 1, 0] (.ln [-1, 1, 1, 0, 0, 0] (.ln [0, 0, 1, 0, -1, 1] (.ps [0, 0, 1, 0, -1, 1] 1 [(1, 1)] (.ps [0, 0, -1, 0, 1, 0] 1 [(1, 0)] (.ps [0, 0, 1, 0, -1, 1] 1 [(1, 1)] (.ln [0, 0, 0, 1, 1, 0] (.ln [0, 0, -1, 0, 1, 0] (.ln [0, 0, 0, 0, 1, 0] (.ln [0, 0, 1, 1, -1, 1] (.ps [0, 0, -1, 0, 1, 0] 1 [(1, 0)] (.ln [1, -1, -1, -1, 0, 0] (.ng [1, -1, -1, -1, 0, 0] 1 [(1, 6), (1, 4)] (.ps [-1, 1, 0, 1, 1, 0] 1 [(1, 7), (2, 4), (1, 3), (1, 0)] (.ng [1, 0, -1, -1, 0, 0] 1 [(1, 7), (1, 6), (1, 4)] (.ln [0, 1, 0, 1, 1, 0] (.ln [0, 0, -1, 0, 1, 0] (.ln [1, 0, -1, 0, 1, 0] (.ln [0, 1, 0, 0, 0, 0] (.ng [0, 1, 0, 0, 0, 0] 1 [(1, 7)] (.ps [0, 0, 1, 1, -1, 1] 1 [(1, 6), (1, 1)] (.ln [1, -1, 0, 1, -1, 1] (.ps [1, -1, 0, 1, -1, 1] 1 [(1, 5), (1, 1)] (.ps [-1, 1, 1, 0, 0, 0] 1 [(1, 4)] (.ps [1, 0, 0, 1, -1, 1] 1 [(1, 3), (1, 1)] (.ln [0, 1, 0, 0, 1, 0] (.ln [-1, 1, 1, 0, 0, 0] (.ln [0, 0, 0, 0, 1, 0] (.ln [1, 0, 0, 1, -1, 1] (.fin))))))))))))))))))))))))))))))))))))))))))) (.ps [0, 0, 1, 0, -1, 1] 1 [(1, 1)] (.ln [1, 0, 0, 1, 0, 0] (.ln [0, 0, -1, 0, 1, 0] (.ln [0, 0, 0, 0, 1, 0] (.ln [1, 0, 0, 1, -1, 1] (.ps [-1, 1, 1, 0, 0, 0] 1 [(1, 4)] (.ng [0, 0, -1, 0, 1, 0] 1 [(1, 0)] (.ln [-1, 1, 1, -1, 0, 0] (.ng [-1, 1, 1, -1, 0, 0] 1 [(1, 5)] (.ps [1, -1, -1, 1, 0, 0] 1 [(1, 5)] (.ng [-1, 1, 1, -1, 0, 0] 1 [(1, 5)] (.ln [0, 1, 1, 1, 0, 0] (.ln [0, 0, -1, 0, 1, 0] (.ln [0, 1, 0, 0, 1, 0] (.ln [-1, 1, 1, 0, 0, 0] (.ln [0, 0, 1, 0, -1, 1] (.ps [0, 0, 1, 0, -1, 1] 1 [(1, 1)] (.ng [0, 0, -1, 0, 1, 0] 1 [(1, 0)] (.ps [0, 0, 1, 0, -1, 1] 1 [(1, 1)] (.ln [0, 0, 1, 1, 0, 0] (.ln [0, 0, -1, 0, 1, 0] (.ln [0, 0, 0, 0, 1, 0] (.ln [0, 0, 1, 1, -1, 1] (.ng [0, 0, -1, 0, 1, 0] 1 [(1, 0)] (.ln [1, -1, -1, -1, 0, 0] (.ng [1, -1, -1, -1, 0, 0] 1 [(1, 6), (1, 4)] (.ps [-1, 1, 1, 1, 0, 0] 1 [(1, 6), (1, 4)] (.ng [1, 0, -1, -1, 0, 0] 1 [(1, 7), (1, 6), (1, 4)] (.ln [0, 1, 1, 1, 0, 0] (.ln [0, 0, -1, 0, 1, 0] (.ln [1, 0, -1, 0, 1, 0] (.ln [0, 1, 0, 0, 0, 0] (.ng [0, 1, 0, 0, 0, 0] 1 [(1, 7)] (.ps [0, 0, 1, 1, -1, 1] 1 [(1, 6), (1, 1)] (.ln [1, -1, 0, 1, -1, 1] (.ps [1, -1, 0, 1, -1, 1] 1 [(1, 5), (1, 1)] (.ps [-1, 1, 1, 0, 0, 0] 1 [(1, 4)] (.ps [1, 0, 0, 1, -1, 1] 1 [(1, 3), (1, 1)] (.ln [0, 1, 0, 0, 1, 0] (.ln [-1, 1, 1, 0, 0, 0] (.ln [0, 0, 0, 0, 1, 0] (.ln [1, 0, 0, 1, -1, 1] (.fin)))))))))))))))))))))))))))))))))))))))))))) (.ps [0, 0, -1, 0, 1, 0] 1 [(1, 1), (1, 0)] (.ng [0, 0, 1, 0, -1, 1] 1 [(1, 0)] (.ln [1, 0, -1, 1, 1, 0] (.ln [0, 0, 0, 0, 0, 1] (.ln [0, 0, 1, 0, 0, 1] (.ln [1, 0, -1, 1, 0, 0] (.ps [-1, 1, 1, 0, 0, 0] 1 [(1, 3)] (.ps [0, 0, 0, 0, 0, 1] 1 [(1, 1)] (.ln [-1, 1, 2, -1, -1, 1] (.ng [-1, 1, 2, -1, -1, 1] 1 [(1, 4), (1, 0)] (.ps [1, -1, -2, 1, 1, 0] 1 [(1, 4), (1, 1), (1, 0)] (.ng [-1, 1, 2, -1, -1, 1] 1 [(1, 4), (1, 0)] (.ln [0, 1, 0, 1, 1, 0] (.ln [0, 0, 0, 0, 0, 1] (.ln [0, 1, 1, 0, 0, 1] (.ln [-1, 1, 1, 0, 0, 0] (.ln [0, 0, 1, 0, -1, 1] (.ng [0, 0, 1, 0, -1, 1] 1 [(1, 0)] (.ps [0, 0, -1, 0, 1, 0] 1 [(1, 1), (1, 0)] (.ng [0, 0, 1, 0, -1, 1] 1 [(1, 0)] (.ln [0, 0, 0, 1, 1, 0] (.ln [0, 0, 0, 0, 0, 1] (.ln [0, 0, 1, 0, 0, 1] (.ln [0, 0, 0, 1, 0, 0] (.ps [0, 0, 0, 0, 0, 1] 1 [(1, 1)] (.ln [1, -1, 0, -1, -1, 1] (.ng [1, -1, 0, -1, -1, 1] 1 [(1, 6), (2, 3), (1, 2), (1, 0)] (.ps [-1, 1, 0, 1, 1, 0] 1 [(1, 6), (2, 3), (1, 2), (1, 1), (1, 0)] (.ng [1, 0, 0, -1, -1, 1] 1 [(1, 6), (1, 5), (1, 3), (1, 0)] (.ln [0, 1, 0, 1, 1, 0] (.ln [0, 0, 0, 0, 0, 1] (.ln [1, 0, 0, 0, 0, 1] (.ln [0, 1, 0, 0, 0, 0] (.ng [0, 1, 0, 0, 0, 0] 1 [(1, 6)] (.ps [0, 0, 0, 1, 0, 0] 1 [(1, 5)] (.ln [1, -1, -1, 1, 0, 0] (.ps [1, -1, -1, 1, 0, 0] 1 [(1, 4)] (.ps [-1, 1, 1, 0, 0, 0] 1 [(1, 3)] (.ps [1, 0, -1, 1, 0, 0] 1 [(1, 2)] (.ln [0, 1, 1, 0, 0, 1] (.ln [-1, 1, 1, 0, 0, 0] (.ln [0, 0, 1, 0, 0, 1] (.ln [1, 0, -1, 1, 0, 0] (.fin)))))))))))))))))))))))))))))))))))))))))))))) (.ln [0, 0, 1, 0, -1, 0] (.sp [0, 0, 1, 0, -1, 0] (.ng [0, 0, -1, 0, 1, 0] 1 [(1, 0)] (.ps [0, 0, 1, 0, -1, 0] 1 [(1, 0)] (.ln [1, 0, 0, 1, 0, 0] (.ln [0, 0, -1, 0, 1, 1] (.ln [0, 0, 0, 0, 1, 1] (.ln [1, 0, 0, 1, -1, 0] (.ps [-1, 1, 1, 0, 0, 0] 1 [(1, 3)] (.ng [0, 0, -1, 0, 1, 1] 1 [(1, 1), (1, 0)] (.ln [-1, 1, 1, -1, 0, 0] (.ng [-1, 1, 1, -1, 0, 0] 1 [(1, 4)] (.ps [1, -1, -1, 1, 0, 0] 1 [(1, 4)] (.ng [-1, 1, 1, -1, 0, 0] 1 [(1, 4)] (.ln [0, 1, 1, 1, 0, 0] (.ln [0, 0, -1, 0, 1, 1] (.ln [0, 1, 0, 0, 1, 1] (.ln [-1, 1, 1, 0, 0, 0] (.ln [0, 0, 1, 0, -1, 0] (.ps [0, 0, 1, 0, -1, 0] 1 [(1, 0)] (.ng [0, 0, -1, 0, 1, 0] 1 [(1, 0)] (.ps [0, 0, 1, 0, -1, 0] 1 [(1, 0)] (.ln [0, 0, 1, 1, 0, 0] (.ln [0, 0, -1, 0, 1, 1] (.ln [0, 0, 0, 0, 1, 1] (.ln [0, 0, 1, 1, -1, 0] (.ng [0, 0, -1, 0, 1, 1] 1 [(1, 1), (1, 0)] (.ln [1, -1, -1, -1, 0, 0] (.ng [1, -1, -1, -1, 0, 0] 1 [(1, 5), (1, 3)] (.ps [-1, 1, 1, 1, 0, 0] 1 [(1, 5), (1, 3)] (.ng [1, 0, -1, -1, 0, 0] 1 [(1, 6), (1, 5), (1, 3)] (.ln [0, 1, 1, 1, 0, 0] (.ln [0, 0, -1, 0, 1, 1] (.ln [1, 0, -1, 0, 1, 1] (.ln [0, 1, 0, 0, 0, 0] (.ng [0, 1, 0, 0, 0, 0] 1 [(1, 6)] (.ps [0, 0, 1, 1, -1, 0] 1 [(1, 5), (1, 0)] (.ln [1, -1, 0, 1, -1, 0] (.ps [1, -1, 0, 1, -1, 0] 1 [(1, 4), (1, 0)] (.ps [-1, 1, 1, 0, 0, 0] 1 [(1, 3)] (.ps [1, 0, 0, 1, -1, 0] 1 [(1, 2), (1, 0)] (.ln [0, 1, 0, 0, 1, 1] (.ln [-1, 1, 1, 0, 0, 0] (.ln [0, 0, 0, 0, 1, 1] (.ln [1, 0, 0, 1, -1, 0] (.fin)))))))))))))))))))))))))))))))))))))))))))) (.ps [0, 0, -1, 0, 1, 0] 1 [(1, 0)] (.ng [0, 0, 1, 0, -1, 0] 1 [(1, 0)] (.ln [1, 0, -1, 1, 1, 0] (.ln [0, 0, 0, 0, 0, 1] (.ln [0, 0, 1, 0, 0, 1] (.ln [1, 0, -1, 1, 0, 0] (.ps [-1, 1, 1, 0, 0, 0] 1 [(1, 3)] (.ng [0, 0, 0, 0, 0, 1] 1 [(1, 1)] (.ln [-1, 1, 2, -1, -1, 0] (.ng [-1, 1, 2, -1, -1, 0] 1 [(1, 4), (1, 0)] (.ps [1, -1, -2, 1, 1, 0] 1 [(1, 4), (1, 0)] (.ng [-1, 1, 2, -1, -1, 0] 1 [(1, 4), (1, 0)] (.ln [0, 1, 0, 1, 1, 0] (.ln [0, 0, 0, 0, 0, 1] (.ln [0, 1, 1, 0, 0, 1] (.ln [-1, 1, 1, 0, 0, 0] (.ln [0, 0, 1, 0, -1, 0] (.ng [0, 0, 1, 0, -1, 0] 1 [(1, 0)] (.ps [0, 0, -1, 0, 1, 0] 1 [(1, 0)] (.ng [0, 0, 1, 0, -1, 0] 1 [(1, 0)] (.ln [0, 0, 0, 1, 1, 0] (.ln [0, 0, 0, 0, 0, 1] (.ln [0, 0, 1, 0, 0, 1] (.ln [0, 0, 0, 1, 0, 0] (.ng [0, 0, 0, 0, 0, 1] 1 [(1, 1)] (.ln [1, -1, 0, -1, -1, 0] (.ng [1, -1, 0, -1, -1, 0] 1 [(1, 6), (2, 3), (1, 2), (1, 0)] (.ps [-1, 1, 0, 1, 1, 0] 1 [(1, 6), (2, 3), (1, 2), (1, 0)] (.ng [1, 0, 0, -1, -1, 0] 1 [(1, 6), (1, 5), (1, 3), (1, 0)] (.ln [0, 1, 0, 1, 1, 0] (.ln [0, 0, 0, 0, 0, 1] (.ln [1, 0, 0, 0, 0, 1] (.ln [0, 1, 0, 0, 0, 0] (.ng [0, 1, 0, 0, 0, 0] 1 [(1, 6)] (.ps [0, 0, 0, 1, 0, 0] 1 [(1, 5)] (.ln [1, -1, -1, 1, 0, 0] (.ps [1, -1, -1, 1, 0, 0] 1 [(1, 4)] (.ps [-1, 1, 1, 0, 0, 0] 1 [(1, 3)] (.ps [1, 0, -1, 1, 0, 0] 1 [(1, 2)] (.ln [0, 1, 1, 0, 0, 1] (.ln [-1, 1, 1, 0, 0, 0] (.ln [0, 0, 1, 0, 0, 1] (.ln [1, 0, -1, 1, 0, 0] (.fin)))))))))))))))))))))))))))))))))))))))))))))))))))) (.ln [0, 1, 1, 0, 0, 0] (.ln [-1, 1, 1, 0, 0, 0] (.ln [1, 0, 0, 1, 0, 0] (.ln [1, 0, -1, 1, 0, 0] (.ng [1, 0, -1, 1, 0, 0] 1 [(1, 0)] (.sp [0, 0, 0, 0, 0, 1] (.ln [0, 0, 1, 0, -1, 1] (.sp [0, 0, 1, 0, -1, 1] (.sp [0, 0, -1, 0, 1, 0] (.sp [1, 0, 0, 1, -1, 1] (.ln [1, 0, -1, 1, 1, 0] (.ln [0, 0, -1, 0, 1, 0] (.ln [0, 0, 0, 0, 1, 0] (.ln [1, 0, 0, 1, -1, 1] (.ps [-1, 1, 1, 0, 0, 0] 1 [(1, 5)] (.ps [0, 0, -1, 0, 1, 0] 1 [(1, 1)] (.ln [-1, 1, 1, -1, 0, 0] (.ng [-1, 1, 1, -1, 0, 0] 1 [(1, 6)] (.ps [1, -1, -2, 1, 1, 0] 1 [(1, 6), (1, 1)] (.ng [-1, 1, 1, -1, 0, 0] 1 [(1, 6)] (.ln [0, 1, 0, 1, 1, 0] (.ln [0, 0, -1, 0, 1, 0] (.ln [0, 1, 0, 0, 1, 0] (.ln [-1, 1, 1, 0, 0, 0] (.ln [0, 0, 1, 0, -1, 1] (.ps [0, 0, 1, 0, -1, 1] 1 [(1, 2)] (.ps [0, 0, -1, 0, 1, 0] 1 [(1, 1)] (.ps [0, 0, 1, 0, -1, 1] 1 [(1, 2)] (.ln [0, 0, 0, 1, 1, 0] (.ln [0, 0, -1, 0, 1, 0] (.ln [0, 0, 0, 0, 1, 0] (.ln [0, 0, 1, 1, -1, 1] (.ps [0, 0, -1, 0, 1, 0] 1 [(1, 1)] (.ln [1, -1, -1, -1, 0, 0] (.ng [1, -1, -1, -1, 0, 0] 1 [(1, 7), (1, 5)] (.ps [-1, 1, 0, 1, 1, 0] 1 [(1, 7), (1, 5), (1, 1)] (.ng [1, 0, -1, -1, 0, 0] 1 [(1, 8), (1, 7), (1, 5)] (.ln [0, 1, 0, 1, 1, 0] (.ln [0, 0, -1, 0, 1, 0] (.ln [1, 0, -1, 0, 1, 0] (.ln [0, 1, 0, 0, 0, 0] (.ng [0, 1, 0, 0, 0, 0] 1 [(1, 8)] (.ps [0, 0, 1, 1, -1, 1] 1 [(1, 7), (1, 2)] (.ln [1, -1, 0, 1, -1, 1] (.ps [1, -1, 0, 1, -1, 1] 1 [(1, 6), (1, 2)] (.ps [-1, 1, 1, 0, 0, 0] 1 [(1, 5)] (.ps [1, 0, 0, 1, -1, 1] 1 [(1, 0)] (.ln [0, 1, 0, 0, 1, 0] (.ln [-1, 1, 1, 0, 0, 0] (.ln [0, 0, 0, 0, 1, 0] (.ln [1, 0, 0, 1, -1, 1] (.fin)))))))))))))))))))))))))))))))))))))))))) (.ln [1, 0, -1, 1, 1, 0] (.ln [0, 0, -1, 0, 1, 0] (.ln [1, 0, 0, 1, 0, 1] (.ln [1, 0, 0, 1, -1, 1] (.ps [-1, 1, 1, 0, 0, 0] 1 [(1, 5)] (.ps [0, 0, -1, 0, 1, 0] 1 [(1, 1)] (.ln [-1, 1, 1, -1, 0, 0] (.ng [-1, 1, 1, -1, 0, 0] 1 [(1, 6)] (.ps [1, -1, -2, 1, 1, 0] 1 [(1, 6), (1, 1)] (.ng [-1, 1, 1, -1, 0, 0] 1 [(1, 6)] (.ln [0, 1, 0, 1, 1, 0] (.ln [0, 0, -1, 0, 1, 0] (.ln [0, 1, 0, 0, 1, 0] (.ln [-1, 1, 1, 0, 0, 0] (.ln [0, 0, 1, 0, -1, 1] (.ps [0, 0, 1, 0, -1, 1] 1 [(1, 2)] (.ps [0, 0, -1, 0, 1, 0] 1 [(1, 1)] (.ps [0, 0, 1, 0, -1, 1] 1 [(1, 2)] (.ln [0, 0, 0, 1, 1, 0] (.ln [0, 0, -1, 0, 1, 0] (.ln [0, 0, 0, 0, 1, 0] (.ln [0, 0, 1, 1, -1, 1] (.ps [0, 0, -1, 0, 1, 0] 1 [(1, 1)] (.ln [1, -1, -1, -1, 0, 0] (.ng [1, -1, -1, -1, 0, 0] 1 [(1, 7), (1, 5)] (.ps [-1, 1, 0, 1, 1, 0] 1 [(1, 7), (1, 5), (1, 1)] (.ng [1, 0, -1, -1, 0, 0] 1 [(1, 8), (1, 7), (1, 5)] (.ln [0, 1, 0, 1, 1, 0] (.ln [0, 0, -1, 0, 1, 0] (.ln [1, 0, -1, 0, 1, 0] (.ln [0, 1, 0, 0, 0, 0] (.ng [0, 1, 0, 0, 0, 0] 1 [(1, 8)] (.ps [0, 0, 1, 1, -1, 1] 1 [(1, 7), (1, 2)] (.ln [1, -1, 0, 1, -1, 1] (.ps [1, -1, 0, 1, -1, 1] 1 [(1, 6), (1, 2)] (.ps [-1, 1, 1, 0, 0, 0] 1 [(1, 5)] (.ng [1, 0, 0, 1, -1, 1] 1 [(1, 0)] (.ln [0, 1, 0, 0, 1, 0] (.ln [-1, 1, 1, 0, 0, 0] (.ln [1, 0, 0, 1, 0, 1] (.ln [1, 0, 0, 1, -1, 1] (.fin))))))))))))))))))))))))))))))))))))))))))) (.sp [1, 0, 0, 1, -1, 1] (.ln [1, 0, 0, 1, 0, 0] (.ln [0, 0, -1, 0, 1, 0] (.ln [0, 0, 0, 0, 1, 0] (.ln [1, 0, 0, 1, -1, 1] (.ps [-1, 1, 1, 0, 0, 0] 1 [(1, 5)] (.ng [0, 0, -1, 0, 1, 0] 1 [(1, 1)] (.ln [-1, 1, 1, -1, 0, 0] (.ng [-1, 1, 1, -1, 0, 0] 1 [(1, 6)] (.ps [1, -1, -1, 1, 0, 0] 1 [(1, 6)] (.ng [-1, 1, 1, -1, 0, 0] 1 [(1, 6)] (.ln [0, 1, 1, 1, 0, 0] (.ln [0, 0, -1, 0, 1, 0] (.ln [0, 1, 0, 0, 1, 0] (.ln [-1, 1, 1, 0, 0, 0] (.ln [0, 0, 1, 0, -1, 1] (.ps [0, 0, 1, 0, -1, 1] 1 [(1, 2)] (.ng [0, 0, -1, 0, 1, 0] 1 [(1, 1)] (.ps [0, 0, 1, 0, -1, 1] 1 [(1, 2)] (.ln [0, 0, 1, 1, 0, 0] (.ln [0, 0, -1, 0, 1, 0] (.ln [0, 0, 0, 0, 1, 0] (.ln [0, 0, 1, 1, -1, 1] (.ng [0, 0, -1, 0, 1, 0] 1 [(1, 1)] (.ln [1, -1, -1, -1, 0, 0] (.ng [1, -1, -1, -1, 0, 0] 1 [(1, 7), (1, 5)] (.ps [-1, 1, 1, 1, 0, 0] 1 [(1, 7), (1, 5)] (.ng [1, 0, -1, -1, 0, 0] 1 [(1, 8), (1, 7), (1, 5)] (.ln [0, 1, 1, 1, 0, 0] (.ln [0, 0, -1, 0, 1, 0] (.ln [1, 0, -1, 0, 1, 0] (.ln [0, 1, 0, 0, 0, 0] (.ng [0, 1, 0, 0, 0, 0] 1 [(1, 8)] (.ps [0, 0, 1, 1, -1, 1] 1 [(1, 7), (1, 2)] (.ln [1, -1, 0, 1, -1, 1] (.ps [1, -1, 0, 1, -1, 1] 1 [(1, 6), (1, 2)] (.ps [-1, 1, 1, 0, 0, 0] 1 [(1, 5)] (.ps [1, 0, 0, 1, -1, 1] 1 [(1, 0)] (.ln [0, 1, 0, 0, 1, 0] (.ln [-1, 1, 1, 0, 0, 0] (.ln [0, 0, 0, 0, 1, 0] (.ln [1, 0, 0, 1, -1, 1] (.fin)))))))))))))))))))))))))))))))))))))))))) (.ln [1, 0, 0, 1, 0, 0] (.ln [0, 0, -1, 0, 1, 0] (.ln [1, 0, 0, 1, 0, 1] (.ln [1, 0, 0, 1, -1, 1] (.ps [-1, 1, 1, 0, 0, 0] 1 [(1, 5)] (.ng [0, 0, -1, 0, 1, 0] 1 [(1, 1)] (.ln [-1, 1, 1, -1, 0, 0] (.ng [-1, 1, 1, -1, 0, 0] 1 [(1, 6)] (.ps [1, -1, -1, 1, 0, 0] 1 [(1, 6)] (.ng [-1, 1, 1, -1, 0, 0] 1 [(1, 6)] (.ln [0, 1, 1, 1, 0, 0] (.ln [0, 0, -1, 0, 1, 0] (.ln [0, 1, 0, 0, 1, 0] (.ln [-1, 1, 1, 0, 0, 0] (.ln [0, 0, 1, 0, -1, 1] (.ps [0, 0, 1, 0, -1, 1] 1 [(1, 2)] (.ng [0, 0, -1, 0, 1, 0] 1 [(1, 1)] (.ps [0, 0, 1, 0, -1, 1] 1 [(1, 2)] (.ln [0, 0, 1, 1, 0, 0] (.ln [0, 0, -1, 0, 1, 0] (.ln [0, 0, 0, 0, 1, 0] (.ln [0, 0, 1, 1, -1, 1] (.ng [0, 0, -1, 0, 1, 0] 1 [(1, 1)] (.ln [1, -1, -1, -1, 0, 0] (.ng [1, -1, -1, -1, 0, 0] 1 [(1, 7), (1, 5)] (.ps [-1, 1, 1, 1, 0, 0] 1 [(1, 7), (1, 5)] (.ng [1, 0, -1, -1, 0, 0] 1 [(1, 8), (1, 7), (1, 5)] (.ln [0, 1, 1, 1, 0, 0] (.ln [0, 0, -1, 0, 1, 0] (.ln [1, 0, -1, 0, 1, 0] (.ln [0, 1, 0, 0, 0, 0] (.ng [0, 1, 0, 0, 0, 0] 1 [(1, 8)] (.ps [0, 0, 1, 1, -1, 1] 1 [(1, 7), (1, 2)] (.ln [1, -1, 0, 1, -1, 1] (.ps [1, -1, 0, 1, -1, 1] 1 [(1, 6), (1, 2)] (.ps [-1, 1, 1, 0, 0, 0] 1 [(1, 5)] (.ng [1, 0, 0, 1, -1, 1] 1 [(1, 0)] (.ln [0, 1, 0, 0, 1, 0] (.ln [-1, 1, 1, 0, 0, 0] (.ln [1, 0, 0, 1, 0, 1] (.ln [1, 0, 0, 1, -1, 1] (.fin)))))))))))))))))))))))))))))))))))))))))))) (.ps [0, 0, -1, 0, 1, 0] 1 [(1, 1), (1, 0)] (.ng [1, 0, 0, 1, -1, 1] 1 [(1, 2), (1, 0)] (.ln [1, 0, -1, 1, 1, 0] (.ln [0, 0, 0, 0, 0, 1] (.ln [1, 0, 0, 1, 0, 1] (.ln [1, 0, -1, 1, 0, 0] (.ps [-1, 1, 1, 0, 0, 0] 1 [(1, 3)] (.ps [0, 0, 0, 0, 0, 1] 1 [(1, 1)] (.ln [-1, 1, 2, -1, -1, 1] (.ng [-1, 1, 2, -1, -1, 1] 1 [(1, 4), (1, 0)] (.ps [1, -1, -2, 1, 1, 0] 1 [(1, 4), (1, 1), (1, 0)] (.ng [-1, 1, 2, -1, -1, 1] 1 [(1, 4), (1, 0)] (.ln [0, 1, 0, 1, 1, 0] (.ln [0, 0, 0, 0, 0, 1] (.ln [0, 1, 1, 0, 0, 1] (.ln [-1, 1, 1, 0, 0, 0] (.ln [0, 0, 1, 0, -1, 1] (.ng [0, 0, 1, 0, -1, 1] 1 [(1, 0)] (.ps [0, 0, -1, 0, 1, 0] 1 [(1, 1), (1, 0)] (.ng [0, 0, 1, 0, -1, 1] 1 [(1, 0)] (.ln [0, 0, 0, 1, 1, 0] (.ln [0, 0, 0, 0, 0, 1] (.ln [0, 0, 1, 0, 0, 1] (.ln [0, 0, 0, 1, 0, 0] (.ps [0, 0, 0, 0, 0, 1] 1 [(1, 1)] (.ln [1, -1, 0, -1, -1, 1] (.ng [1, -1, 0, -1, -1, 1] 1 [(1, 5), (1, 3), (1, 0)] (.ps [-1, 1, 0, 1, 1, 0] 1 [(1, 5), (1, 3), (1, 1), (1, 0)] (.ng [1, 0, 0, -1, -1, 1] 1 [(1, 6), (1, 5), (1, 3), (1, 0)] (.ln [0, 1, 0, 1, 1, 0] (.ln [0, 0, 0, 0, 0, 1] (.ln [1, 0, 0, 0, 0, 1] (.ln [0, 1, 0, 0, 0, 0] (.ng [0, 1, 0, 0, 0, 0] 1 [(1, 6)] (.ps [0, 0, 0, 1, 0, 0] 1 [(1, 5)] (.ln [1, -1, -1, 1, 0, 0] (.ps [1, -1, -1, 1, 0, 0] 1 [(1, 4)] (.ps [-1, 1, 1, 0, 0, 0] 1 [(1, 3)] (.ng [1, 0, -1, 1, 0, 0] 1 [(1, 2)] (.ln [0, 1, 1, 0, 0, 1] (.ln [-1, 1, 1, 0, 0, 0] (.ln [1, 0, 0, 1, 0, 1] (.ln [1, 0, -1, 1, 0, 0] (.fin)))))))))))))))))))))))))))))))))))))))))))))) (.ln [0, 0, 1, 0, -1, 0] (.sp [0, 0, 1, 0, -1, 0] (.ng [0, 0, -1, 0, 1, 0] 1 [(1, 0)] (.sp [1, 0, 0, 1, -1, 0] (.ln [1, 0, 0, 1, 0, 0] (.ln [0, 0, -1, 0, 1, 1] (.ln [0, 0, 0, 0, 1, 1] (.ln [1, 0, 0, 1, -1, 0] (.ps [-1, 1, 1, 0, 0, 0] 1 [(1, 4)] (.ng [0, 0, -1, 0, 1, 1] 1 [(1, 2), (1, 1)] (.ln [-1, 1, 1, -1, 0, 0] (.ng [-1, 1, 1, -1, 0, 0] 1 [(1, 5)] (.ps [1, -1, -1, 1, 0, 0] 1 [(1, 5)] (.ng [-1, 1, 1, -1, 0, 0] 1 [(1, 5)] (.ln [0, 1, 1, 1, 0, 0] (.ln [0, 0, -1, 0, 1, 1] (.ln [0, 1, 0, 0, 1, 1] (.ln [-1, 1, 1, 0, 0, 0] (.ln [0, 0, 1, 0, -1, 0] (.ps [0, 0, 1, 0, -1, 0] 1 [(1, 1)] (.ng [0, 0, -1, 0, 1, 0] 1 [(1, 1)] (.ps [0, 0, 1, 0, -1, 0] 1 [(1, 1)] (.ln [0, 0, 1, 1, 0, 0] (.ln [0, 0, -1, 0, 1, 1] (.ln [0, 0, 0, 0, 1, 1] (.ln [0, 0, 1, 1, -1, 0] (.ng [0, 0, -1, 0, 1, 1] 1 [(1, 2), (1, 1)] (.ln [1, -1, -1, -1, 0, 0] (.ng [1, -1, -1, -1, 0, 0] 1 [(1, 6), (1, 4)] (.ps [-1, 1, 1, 1, 0, 0] 1 [(1, 6), (1, 4)] (.ng [1, 0, -1, -1, 0, 0] 1 [(1, 7), (1, 6), (1, 4)] (.ln [0, 1, 1, 1, 0, 0] (.ln [0, 0, -1, 0, 1, 1] (.ln [1, 0, -1, 0, 1, 1] (.ln [0, 1, 0, 0, 0, 0] (.ng [0, 1, 0, 0, 0, 0] 1 [(1, 7)] (.ps [0, 0, 1, 1, -1, 0] 1 [(1, 6), (1, 1)] (.ln [1, -1, 0, 1, -1, 0] (.ps [1, -1, 0, 1, -1, 0] 1 [(1, 5), (1, 1)] (.ps [-1, 1, 1, 0, 0, 0] 1 [(1, 4)] (.ps [1, 0, 0, 1, -1, 0] 1 [(1, 0)] (.ln [0, 1, 0, 0, 1, 1] (.ln [-1, 1, 1, 0, 0, 0] (.ln [0, 0, 0, 0, 1, 1] (.ln [1, 0, 0, 1, -1, 0] (.fin)))))))))))))))))))))))))))))))))))))))))) (.ln [1, 0, 0, 1, 0, 0] (.ln [0, 0, -1, 0, 1, 1] (.ln [1, 0, 0, 1, 0, 1] (.ln [1, 0, 0, 1, -1, 0] (.ps [-1, 1, 1, 0, 0, 0] 1 [(1, 4)] (.ng [0, 0, -1, 0, 1, 1] 1 [(1, 2), (1, 1)] (.ln [-1, 1, 1, -1, 0, 0] (.ng [-1, 1, 1, -1, 0, 0] 1 [(1, 5)] (.ps [1, -1, -1, 1, 0, 0] 1 [(1, 5)] (.ng [-1, 1, 1, -1, 0, 0] 1 [(1, 5)] (.ln [0, 1, 1, 1, 0, 0] (.ln [0, 0, -1, 0, 1, 1] (.ln [0, 1, 0, 0, 1, 1] (.ln [-1, 1, 1, 0, 0, 0] (.ln [0, 0, 1, 0, -1, 0] (.ps [0, 0, 1, 0, -1, 0] 1 [(1, 1)] (.ng [0, 0, -1, 0, 1, 0] 1 [(1, 1)] (.ps [0, 0, 1, 0, -1, 0] 1 [(1, 1)] (.ln [0, 0, 1, 1, 0, 0] (.ln [0, 0, -1, 0, 1, 1] (.ln [0, 0, 0, 0, 1, 1] (.ln [0, 0, 1, 1, -1, 0] (.ng [0, 0, -1, 0, 1, 1] 1 [(1, 2), (1, 1)] (.ln [1, -1, -1, -1, 0, 0] (.ng [1, -1, -1, -1, 0, 0] 1 [(1, 6), (1, 4)] (.ps [-1, 1, 1, 1, 0, 0] 1 [(1, 6), (1, 4)] (.ng [1, 0, -1, -1, 0, 0] 1 [(1, 7), (1, 6), (1, 4)] (.ln [0, 1, 1, 1, 0, 0] (.ln [0, 0, -1, 0, 1, 1] (.ln [1, 0, -1, 0, 1, 1] (.ln [0, 1, 0, 0, 0, 0] (.ng [0, 1, 0, 0, 0, 0] 1 [(1, 7)] (.ps [0, 0, 1, 1, -1, 0] 1 [(1, 6), (1, 1)] (.ln [1, -1, 0, 1, -1, 0] (.ps [1, -1, 0, 1, -1, 0] 1 [(1, 5), (1, 1)] (.ps [-1, 1, 1, 0, 0, 0] 1 [(1, 4)] (.ng [1, 0, 0, 1, -1, 0] 1 [(1, 0)] (.ln [0, 1, 0, 0, 1, 1] (.ln [-1, 1, 1, 0, 0, 0] (.ln [1, 0, 0, 1, 0, 1] (.ln [1, 0, 0, 1, -1, 0] (.fin)))))))))))))))))))))))))))))))))))))))))))) (.ps [0, 0, -1, 0, 1, 0] 1 [(1, 0)] (.ng [1, 0, 0, 1, -1, 0] 1 [(1, 2), (1, 0)] (.ln [1, 0, -1, 1, 1, 0] (.ln [0, 0, 0, 0, 0, 1] (.ln [1, 0, 0, 1, 0, 1] (.ln [1, 0, -1, 1, 0, 0] (.ps [-1, 1, 1, 0, 0, 0] 1 [(1, 3)] (.ng [0, 0, 0, 0, 0, 1] 1 [(1, 1)] (.ln [-1, 1, 2, -1, -1, 0] (.ng [-1, 1, 2, -1, -1, 0] 1 [(1, 4), (1, 0)] (.ps [1, -1, -2, 1, 1, 0] 1 [(1, 4), (1, 0)] (.ng [-1, 1, 2, -1, -1, 0] 1 [(1, 4), (1, 0)] (.ln [0, 1, 0, 1, 1, 0] (.ln [0, 0, 0, 0, 0, 1] (.ln [0, 1, 1, 0, 0, 1] (.ln [-1, 1, 1, 0, 0, 0] (.ln [0, 0, 1, 0, -1, 0] (.ng [0, 0, 1, 0, -1, 0] 1 [(1, 0)] (.ps [0, 0, -1, 0, 1, 0] 1 [(1, 0)] (.ng [0, 0, 1, 0, -1, 0] 1 [(1, 0)] (.ln [0, 0, 0, 1, 1, 0] (.ln [0, 0, 0, 0, 0, 1] (.ln [0, 0, 1, 0, 0, 1] (.ln [0, 0, 0, 1, 0, 0] (.ng [0, 0, 0, 0, 0, 1] 1 [(1, 1)] (.ln [1, -1, 0, -1, -1, 0] (.ng [1, -1, 0, -1, -1, 0] 1 [(1, 5), (1, 3), (1, 0)] (.ps [-1, 1, 0, 1, 1, 0] 1 [(1, 5), (1, 3), (1, 0)] (.ng [1, 0, 0, -1, -1, 0] 1 [(1, 6), (1, 5), (1, 3), (1, 0)] (.ln [0, 1, 0, 1, 1, 0] (.ln [0, 0, 0, 0, 0, 1] (.ln [1, 0, 0, 0, 0, 1] (.ln [0, 1, 0, 0, 0, 0] (.ng [0, 1, 0, 0, 0, 0] 1 [(1, 6)] (.ps [0, 0, 0, 1, 0, 0] 1 [(1, 5)] (.ln [1, -1, -1, 1, 0, 0] (.ps [1, -1, -1, 1, 0, 0] 1 [(1, 4)] (.ps [-1, 1, 1, 0, 0, 0] 1 [(1, 3)] (.ng [1, 0, -1, 1, 0, 0] 1 [(1, 2)] (.ln [0, 1, 1, 0, 0, 1] (.ln [-1, 1, 1, 0, 0, 0] (.ln [1, 0, 0, 1, 0, 1] (.ln [1, 0, -1, 1, 0, 0] (.fin))))))))))))))))))))))))))))))))))))))))))))))))))))) (.sp [1, 0, -1, 1, 0, 0] (.ln [1, 0, 0, 0, 0, 0] (.ln [-1, 1, 1, 0, 0, 0] (.ln [0, 0, 1, 0, 0, 0] (.ln [1, 0, -1, 1, 0, 0] (.ps [1, 0, -1, 1, 0, 0] 1 [(1, 0)] (.sp [0, 0, 0, 0, 0, 1] (.ln [0, 0, 1, 0, -1, 1] (.sp [0, 0, 1, 0, -1, 1] (.sp [0, 0, -1, 0, 1, 0] (.ps [0, 0, 1, 0, -1, 1] 1 [(1, 1)] (.ln [1, 0, -1, 1, 1, 0] (.ln [0, 0, -1, 0, 1, 0] (.ln [0, 0, 0, 0, 1, 0] (.ln [1, 0, 0, 1, -1, 1] (.ng [-1, 1, 1, 0, 0, 0] 1 [(1, 4)] (.ps [0, 0, -1, 0, 1, 0] 1 [(1, 0)] (.ln [1, -1, -1, -1, 0, 0] (.sp [1, -1, -1, -1, 0, 0] (.sp [-1, 1, 0, 1, 1, 0] (.ng [0, 0, 0, -1, 0, 0] 1 [(1, 8)] (.ln [0, 1, 0, 1, 1, 0] (.ln [-1, 1, 0, 1, 1, 0] (.ln [1, 0, -1, 0, 1, 0] (.ln [0, 0, 0, -1, 0, 0] (.ln [0, 0, 1, 0, -1, 1] (.ps [0, 0, 1, 0, -1, 1] 1 [(1, 3)] (.ps [0, 0, -1, 0, 1, 0] 1 [(1, 2)] (.ps [0, 0, 1, 0, -1, 1] 1 [(1, 3)] (.ln [0, 0, 0, 1, 1, 0] (.ln [0, 0, -1, 0, 1, 0] (.ln [0, 0, 0, 0, 1, 0] (.ln [0, 0, 1, 1, -1, 1] (.ps [0, 0, -1, 0, 1, 0] 1 [(1, 2)] (.ln [1, -1, -1, -1, 0, 0] (.ps [1, -1, -1, -1, 0, 0] 1 [(1, 1)] (.ps [-1, 1, 0, 1, 1, 0] 1 [(1, 0)] (.sp [1, 0, -1, -1, 0, 0] (.ln [0, 1, 0, 1, 1, 0] (.ln [-1, 1, 0, 1, 1, 0] (.ln [0, 0, 0, 1, 1, 0] (.ln [1, 0, -1, -1, 0, 0] (.ps [1, 0, -1, -1, 0, 0] 1 [(1, 0)] (.ps [0, 0, 1, 1, -1, 1] 1 [(1, 9), (1, 4)] (.ln [0, 0, 1, 2, -1, 1] (.ps [0, 0, 1, 2, -1, 1] 1 [(2, 9), (1, 4)] (.ng [0, 0, 0, -1, 0, 0] 1 [(1, 9)] (.ps [0, 0, 1, 2, -1, 1] 1 [(2, 9), (1, 4)] (.ln [1, 0, -1, 0, 1, 0] (.ln [0, 0, 0, -1, 0, 0] (.ln [0, 0, 0, 0, 1, 0] (.ln [1, 0, 0, 1, -1, 1] (.fin))))))))))))))) (.ln [0, 1, 0, 1, 1, 0] (.ln [-1, 1, 0, 1, 1, 0] (.ln [1, 0, -1, 0, 1, 0] (.ln [1, 0, -1, -1, 0, 0] (.ng [1, 0, -1, -1, 0, 0] 1 [(1, 0)] (.ps [0, 0, 1, 1, -1, 1] 1 [(1, 9), (1, 4)] (.ln [0, 0, 1, 2, -1, 1] (.ps [0, 0, 1, 2, -1, 1] 1 [(2, 9), (1, 4)] (.ng [0, 0, 0, -1, 0, 0] 1 [(1, 9)] (.ps [1, 0, 0, 1, -1, 1] 1 [(1, 6), (1, 4)] (.ln [1, 0, -1, 0, 1, 0] (.ln [0, 0, 0, -1, 0, 0] (.ln [0, 0, 0, 0, 1, 0] (.ln [1, 0, 0, 1, -1, 1] (.fin))))))))))))))))))))))))))))))))) (.ng [0, 0, 0, -1, 0, 0] 1 [(1, 8)] (.ln [1, 0, 0, 0, 0, 0] (.ln [-1, 1, 0, 1, 1, 0] (.ln [1, 0, -1, 0, 1, 0] (.ln [0, 0, 0, -1, 0, 0] (.ln [0, 0, 1, 0, -1, 1] (.ps [0, 0, 1, 0, -1, 1] 1 [(1, 3)] (.ps [0, 0, -1, 0, 1, 0] 1 [(1, 2)] (.ps [0, 0, 1, 0, -1, 1] 1 [(1, 3)] (.ln [0, 0, 0, 1, 1, 0] (.ln [0, 0, -1, 0, 1, 0] (.ln [0, 0, 0, 0, 1, 0] (.ln [0, 0, 1, 1, -1, 1] (.ps [0, 0, -1, 0, 1, 0] 1 [(1, 2)] (.ln [1, -1, -1, -1, 0, 0] (.ps [1, -1, -1, -1, 0, 0] 1 [(1, 1)] (.ng [-1, 1, 0, 1, 1, 0] 1 [(1, 0)] (.sp [1, 0, -1, -1, 0, 0] (.ln [1, 0, 0, 0, 0, 0] (.ln [-1, 1, 0, 1, 1, 0] (.ln [0, 0, 0, 1, 1, 0] (.ln [1, 0, -1, -1, 0, 0] (.ps [1, 0, -1, -1, 0, 0] 1 [(1, 0)] (.ps [0, 0, 1, 1, -1, 1] 1 [(1, 9), (1, 4)] (.ln [0, 0, 1, 2, -1, 1] (.ps [0, 0, 1, 2, -1, 1] 1 [(2, 9), (1, 4)] (.ng [0, 0, 0, -1, 0, 0] 1 [(1, 9)] (.ps [0, 0, 1, 2, -1, 1] 1 [(2, 9), (1, 4)] (.ln [1, 0, -1, 0, 1, 0] (.ln [0, 0, 0, -1, 0, 0] (.ln [0, 0, 0, 0, 1, 0] (.ln [1, 0, 0, 1, -1, 1] (.fin))))))))))))))) (.ln [1, 0, 0, 0, 0, 0] (.ln [-1, 1, 0, 1, 1, 0] (.ln [1, 0, -1, 0, 1, 0] (.ln [1, 0, -1, -1, 0, 0] (.ng [1, 0, -1, -1, 0, 0] 1 [(1, 0)] (.ps [0, 0, 1, 1, -1, 1] 1 [(1, 9), (1, 4)] (.ln [0, 0, 1, 2, -1, 1] (.ps [0, 0, 1, 2, -1, 1] 1 [(2, 9), (1, 4)] (.ng [0, 0, 0, -1, 0, 0] 1 [(1, 9)] (.ps [1, 0, 0, 1, -1, 1] 1 [(1, 6), (1, 4)] (.ln [1, 0, -1, 0, 1, 0] (.ln [0, 0, 0, -1, 0, 0] (.ln [0, 0, 0, 0, 1, 0] (.ln [1, 0, 0, 1, -1, 1] (.fin)))))))))))))))))))))))))))))))))) (.ps [-1, 1, 0, 1, 1, 0] 1 [(1, 1), (1, 0)] (.ng [0, 0, 0, -1, 0, 0] 1 [(1, 7)] (.ln [0, 1, 0, 1, 1, 0] (.ln [0, 0, -1, 0, 1, 0] (.ln [1, 0, -1, 0, 1, 0] (.ln [-1, 1, 1, 0, 0, 0] (.ln [0, 0, 1, 0, -1, 1] (.ps [0, 0, 1, 0, -1, 1] 1 [(1, 2)] (.ps [0, 0, -1, 0, 1, 0] 1 [(1, 1)] (.ps [0, 0, 1, 0, -1, 1] 1 [(1, 2)] (.ln [0, 0, 0, 1, 1, 0] (.ln [0, 0, -1, 0, 1, 0] (.ln [0, 0, 0, 0, 1, 0] (.ln [0, 0, 1, 1, -1, 1] (.ps [0, 0, -1, 0, 1, 0] 1 [(1, 1)] (.ln [1, -1, -1, -1, 0, 0] (.ng [1, -1, -1, -1, 0, 0] 1 [(1, 0)] (.ps [-1, 1, 0, 1, 1, 0] 1 [(1, 1), (1, 0)] (.ng [1, 0, -1, -1, 0, 0] 1 [(1, 8), (1, 0)] (.ln [0, 1, 0, 1, 1, 0] (.ln [0, 0, -1, 0, 1, 0] (.ln [1, 0, -1, 0, 1, 0] (.ln [0, 1, 0, 0, 0, 0] (.ng [0, 1, 0, 0, 0, 0] 1 [(1, 8)] (.ps [0, 0, 1, 1, -1, 1] 1 [(1, 7), (1, 2)] (.ln [1, -1, 0, 1, -1, 1] (.ps [1, -1, 0, 1, -1, 1] 1 [(1, 6), (1, 2)] (.ng [-1, 1, 1, 0, 0, 0] 1 [(1, 5)] (.ps [1, 0, 0, 1, -1, 1] 1 [(1, 4), (1, 2)] (.ln [1, 0, -1, 0, 1, 0] (.ln [-1, 1, 1, 0, 0, 0] (.ln [0, 0, 0, 0, 1, 0] (.ln [1, 0, 0, 1, -1, 1] (.fin))))))))))))))))))))))))))))))))))))))))))) (.ps [0, 0, 1, 0, -1, 1] 1 [(1, 1)] (.ln [1, 0, 0, 1, 0, 0] (.ln [0, 0, -1, 0, 1, 0] (.ln [0, 0, 0, 0, 1, 0] (.ln [1, 0, 0, 1, -1, 1] (.ng [-1, 1, 1, 0, 0, 0] 1 [(1, 4)] (.ng [0, 0, -1, 0, 1, 0] 1 [(1, 0)] (.ln [1, -1, -1, -1, 0, 0] (.sp [1, -1, -1, -1, 0, 0] (.ng [-1, 1, 1, 1, 0, 0] 1 [(1, 0)] (.ng [0, 0, 0, -1, 0, 0] 1 [(1, 7)] (.ln [1, 0, 0, 0, 0, 0] (.ln [-1, 1, 0, 1, 1, 0] (.ln [1, 0, -1, 0, 1, 0] (.ln [0, 0, 0, -1, 0, 0] (.ln [0, 0, 1, 0, -1, 1] (.ps [0, 0, 1, 0, -1, 1] 1 [(1, 2)] (.ng [0, 0, -1, 0, 1, 0] 1 [(1, 1)] (.ps [0, 0, 1, 0, -1, 1] 1 [(1, 2)] (.ln [0, 0, 1, 1, 0, 0] (.ln [0, 0, -1, 0, 1, 0] (.ln [0, 0, 0, 0, 1, 0] (.ln [0, 0, 1, 1, -1, 1] (.ng [0, 0, -1, 0, 1, 0] 1 [(1, 1)] (.ln [1, -1, -1, -1, 0, 0] (.ps [1, -1, -1, -1, 0, 0] 1 [(1, 0)] (.ng [-1, 1, 1, 1, 0, 0] 1 [(1, 0)] (.sp [1, 0, -1, -1, 0, 0] (.ln [1, 0, 0, 0, 0, 0] (.ln [-1, 1, 0, 1, 1, 0] (.ln [0, 0, 0, 1, 1, 0] (.ln [1, 0, -1, -1, 0, 0] (.ps [1, 0, -1, -1, 0, 0] 1 [(1, 0)] (.ps [0, 0, 1, 1, -1, 1] 1 [(1, 8), (1, 3)] (.ln [0, 0, 1, 2, -1, 1] (.ps [0, 0, 1, 2, -1, 1] 1 [(2, 8), (1, 3)] (.ng [0, 0, 0, -1, 0, 0] 1 [(1, 8)] (.ps [0, 0, 1, 2, -1, 1] 1 [(2, 8), (1, 3)] (.ln [1, 0, -1, 0, 1, 0] (.ln [0, 0, 0, -1, 0, 0] (.ln [0, 0, 0, 0, 1, 0] (.ln [1, 0, 0, 1, -1, 1] (.fin))))))))))))))) (.ln [1, 0, 0, 0, 0, 0] (.ln [-1, 1, 0, 1, 1, 0] (.ln [1, 0, -1, 0, 1, 0] (.ln [1, 0, -1, -1, 0, 0] (.ng [1, 0, -1, -1, 0, 0] 1 [(1, 0)] (.ps [0, 0, 1, 1, -1, 1] 1 [(1, 8), (1, 3)] (.ln [0, 0, 1, 2, -1, 1] (.ps [0, 0, 1, 2, -1, 1] 1 [(2, 8), (1, 3)] (.ng [0, 0, 0, -1, 0, 0] 1 [(1, 8)] (.ps [1, 0, 0, 1, -1, 1] 1 [(1, 5), (1, 3)] (.ln [1, 0, -1, 0, 1, 0] (.ln [0, 0, 0, -1, 0, 0] (.ln [0, 0, 0, 0, 1, 0] (.ln [1, 0, 0, 1, -1, 1] (.fin)))))))))))))))))))))))))))))))))) (.ps [-1, 1, 1, 1, 0, 0] 1 [(1, 0)] (.ng [0, 0, 0, -1, 0, 0] 1 [(1, 7)] (.ln [0, 1, 1, 1, 0, 0] (.ln [0, 0, -1, 0, 1, 0] (.ln [1, 0, -1, 0, 1, 0] (.ln [-1, 1, 1, 0, 0, 0] (.ln [0, 0, 1, 0, -1, 1] (.ps [0, 0, 1, 0, -1, 1] 1 [(1, 2)] (.ng [0, 0, -1, 0, 1, 0] 1 [(1, 1)] (.ps [0, 0, 1, 0, -1, 1] 1 [(1, 2)] (.ln [0, 0, 1, 1, 0, 0] (.ln [0, 0, -1, 0, 1, 0] (.ln [0, 0, 0, 0, 1, 0] (.ln [0, 0, 1, 1, -1, 1] (.ng [0, 0, -1, 0, 1, 0] 1 [(1, 1)] (.ln [1, -1, -1, -1, 0, 0] (.ng [1, -1, -1, -1, 0, 0] 1 [(1, 0)] (.ps [-1, 1, 1, 1, 0, 0] 1 [(1, 0)] (.ng [1, 0, -1, -1, 0, 0] 1 [(1, 8), (1, 0)] (.ln [0, 1, 1, 1, 0, 0] (.ln [0, 0, -1, 0, 1, 0] (.ln [1, 0, -1, 0, 1, 0] (.ln [0, 1, 0, 0, 0, 0] (.ng [0, 1, 0, 0, 0, 0] 1 [(1, 8)] (.ps [0, 0, 1, 1, -1, 1] 1 [(1, 7), (1, 2)] (.ln [1, -1, 0, 1, -1, 1] (.ps [1, -1, 0, 1, -1, 1] 1 [(1, 6), (1, 2)] (.ng [-1, 1, 1, 0, 0, 0] 1 [(1, 5)] (.ps [1, 0, 0, 1, -1, 1] 1 [(1, 4), (1, 2)] (.ln [1, 0, -1, 0, 1, 0] (.ln [-1, 1, 1, 0, 0, 0] (.ln [0, 0, 0, 0, 1, 0] (.ln [1, 0, 0, 1, -1, 1] (.fin)))))))))))))))))))))))))))))))))))))))))))) (.ps [0, 0, -1, 0, 1, 0] 1 [(1, 1), (1, 0)] (.ng [0, 0, 1, 0, -1, 1] 1 [(1, 0)] (.ln [1, 0, -1, 1, 1, 0] (.ln [0, 0, 0, 0, 0, 1] (.ln [0, 0, 1, 0, 0, 1] (.ln [1, 0, -1, 1, 0, 0] (.ng [-1, 1, 1, 0, 0, 0] 1 [(1, 3)] (.ps [0, 0, 0, 0, 0, 1] 1 [(1, 1)] (.ln [1, -1, 0, -1, -1, 1] (.sp [1, -1, 0, -1, -1, 1] (.sp [-1, 1, 0, 1, 1, 0] (.ng [0, 0, 1, -1, -1, 1] 1 [(1, 7), (1, 2)] (.ln [0, 1, 0, 1, 1, 0] (.ln [-1, 1, 0, 1, 1, 0] (.ln [1, 0, 0, 0, 0, 1] (.ln [0, 0, 1, -1, -1, 1] (.ln [0, 0, 1, 0, -1, 1] (.ng [0, 0, 1, 0, -1, 1] 1 [(1, 2)] (.ps [0, 0, -1, 0, 1, 0] 1 [(1, 3), (1, 2)] (.ng [0, 0, 1, 0, -1, 1] 1 [(1, 2)] (.ln [0, 0, 0, 1, 1, 0] (.ln [0, 0, 0, 0, 0, 1] (.ln [0, 0, 1, 0, 0, 1] (.ln [0, 0, 0, 1, 0, 0] (.ps [0, 0, 0, 0, 0, 1] 1 [(1, 3)] (.ln [1, -1, 0, -1, -1, 1] (.ps [1, -1, 0, -1, -1, 1] 1 [(1, 1)] (.ps [-1, 1, 0, 1, 1, 0] 1 [(1, 0)] (.sp [1, 0, 0, -1, -1, 1] (.ln [0, 1, 0, 1, 1, 0] (.ln [-1, 1, 0, 1, 1, 0] (.ln [0, 0, 0, 1, 1, 0] (.ln [1, 0, 0, -1, -1, 1] (.ps [1, 0, 0, -1, -1, 1] 1 [(1, 0)] (.ps [0, 0, 0, 1, 0, 0] 1 [(1, 8)] (.ln [0, 0, -1, 2, 1, -1] (.ps [0, 0, -1, 2, 1, -1] 1 [(2, 8), (1, 3)] (.ng [0, 0, 1, -1, -1, 1] 1 [(1, 8), (1, 3)] (.ps [0, 0, -1, 2, 1, -1] 1 [(2, 8), (1, 3)] (.ln [1, 0, 0, 0, 0, 1] (.ln [0, 0, 1, -1, -1, 1] (.ln [0, 0, 1, 0, 0, 1] (.ln [1, 0, -1, 1, 0, 0] (.fin))))))))))))))) (.ln [0, 1, 0, 1, 1, 0] (.ln [-1, 1, 0, 1, 1, 0] (.ln [1, 0, 0, 0, 0, 1] (.ln [1, 0, 0, -1, -1, 1] (.ng [1, 0, 0, -1, -1, 1] 1 [(1, 0)] (.ps [0, 0, 0, 1, 0, 0] 1 [(1, 8)] (.ln [0, 0, -1, 2, 1, -1] (.ps [0, 0, -1, 2, 1, -1] 1 [(2, 8), (1, 3)] (.ng [0, 0, 1, -1, -1, 1] 1 [(1, 8), (1, 3)] (.ps [1, 0, -1, 1, 0, 0] 1 [(1, 5)] (.ln [1, 0, 0, 0, 0, 1] (.ln [0, 0, 1, -1, -1, 1] (.ln [0, 0, 1, 0, 0, 1] (.ln [1, 0, -1, 1, 0, 0] (.fin))))))))))))))))))))))))))))))))) (.ng [0, 0, 1, -1, -1, 1] 1 [(1, 7), (1, 2)] (.ln [1, 0, 0, 0, 0, 0] (.ln [-1, 1, 0, 1, 1, 0] (.ln [1, 0, 0, 0, 0, 1] (.ln [0, 0, 1, -1, -1, 1] (.ln [0, 0, 1, 0, -1, 1] (.ng [0, 0, 1, 0, -1, 1] 1 [(1, 2)] (.ps [0, 0, -1, 0, 1, 0] 1 [(1, 3), (1, 2)] (.ng [0, 0, 1, 0, -1, 1] 1 [(1, 2)] (.ln [0, 0, 0, 1, 1, 0] (.ln [0, 0, 0, 0, 0, 1] (.ln [0, 0, 1, 0, 0, 1] (.ln [0, 0, 0, 1, 0, 0] (.ps [0, 0, 0, 0, 0, 1] 1 [(1, 3)] (.ln [1, -1, 0, -1, -1, 1] (.ps [1, -1, 0, -1, -1, 1] 1 [(1, 1)] (.ng [-1, 1, 0, 1, 1, 0] 1 [(1, 0)] (.sp [1, 0, 0, -1, -1, 1] (.ln [1, 0, 0, 0, 0, 0] (.ln [-1, 1, 0, 1, 1, 0] (.ln [0, 0, 0, 1, 1, 0] (.ln [1, 0, 0, -1, -1, 1] (.ps [1, 0, 0, -1, -1, 1] 1 [(1, 0)] (.ps [0, 0, 0, 1, 0, 0] 1 [(1, 8)] (.ln [0, 0, -1, 2, 1, -1] (.ps [0, 0, -1, 2, 1, -1] 1 [(2, 8), (1, 3)] (.ng [0, 0, 1, -1, -1, 1] 1 [(1, 8), (1, 3)] (.ps [0, 0, -1, 2, 1, -1] 1 [(2, 8), (1, 3)] (.ln [1, 0, 0, 0, 0, 1] (.ln [0, 0, 1, -1, -1, 1] (.ln [0, 0, 1, 0, 0, 1] (.ln [1, 0, -1, 1, 0, 0] (.fin))))))))))))))) (.ln [1, 0, 0, 0, 0, 0] (.ln [-1, 1, 0, 1, 1, 0] (.ln [1, 0, 0, 0, 0, 1] (.ln [1, 0, 0, -1, -1, 1] (.ng [1, 0, 0, -1, -1, 1] 1 [(1, 0)] (.ps [0, 0, 0, 1, 0, 0] 1 [(1, 8)] (.ln [0, 0, -1, 2, 1, -1] (.ps [0, 0, -1, 2, 1, -1] 1 [(2, 8), (1, 3)] (.ng [0, 0, 1, -1, -1, 1] 1 [(1, 8), (1, 3)] (.ps [1, 0, -1, 1, 0, 0] 1 [(1, 5)] (.ln [1, 0, 0, 0, 0, 1] (.ln [0, 0, 1, -1, -1, 1] (.ln [0, 0, 1, 0, 0, 1] (.ln [1, 0, -1, 1, 0, 0] (.fin)))))))))))))))))))))))))))))))))) (.ps [-1, 1, 0, 1, 1, 0] 1 [(1, 2), (1, 0)] (.ng [0, 0, 1, -1, -1, 1] 1 [(1, 6), (1, 1)] (.ln [0, 1, 0, 1, 1, 0] (.ln [0, 0, 0, 0, 0, 1] (.ln [1, 0, 0, 0, 0, 1] (.ln [-1, 1, 1, 0, 0, 0] (.ln [0, 0, 1, 0, -1, 1] (.ng [0, 0, 1, 0, -1, 1] 1 [(1, 1)] (.ps [0, 0, -1, 0, 1, 0] 1 [(1, 2), (1, 1)] (.ng [0, 0, 1, 0, -1, 1] 1 [(1, 1)] (.ln [0, 0, 0, 1, 1, 0] (.ln [0, 0, 0, 0, 0, 1] (.ln [0, 0, 1, 0, 0, 1] (.ln [0, 0, 0, 1, 0, 0] (.ps [0, 0, 0, 0, 0, 1] 1 [(1, 2)] (.ln [1, -1, 0, -1, -1, 1] (.ng [1, -1, 0, -1, -1, 1] 1 [(1, 0)] (.ps [-1, 1, 0, 1, 1, 0] 1 [(1, 2), (1, 0)] (.ng [1, 0, 0, -1, -1, 1] 1 [(1, 7), (1, 0)] (.ln [0, 1, 0, 1, 1, 0] (.ln [0, 0, 0, 0, 0, 1] (.ln [1, 0, 0, 0, 0, 1] (.ln [0, 1, 0, 0, 0, 0] (.ng [0, 1, 0, 0, 0, 0] 1 [(1, 7)] (.ps [0, 0, 0, 1, 0, 0] 1 [(1, 6)] (.ln [1, -1, -1, 1, 0, 0] (.ps [1, -1, -1, 1, 0, 0] 1 [(1, 5)] (.ng [-1, 1, 1, 0, 0, 0] 1 [(1, 4)] (.ps [1, 0, -1, 1, 0, 0] 1 [(1, 3)] (.ln [1, 0, 0, 0, 0, 1] (.ln [-1, 1, 1, 0, 0, 0] (.ln [0, 0, 1, 0, 0, 1] (.ln [1, 0, -1, 1, 0, 0] (.fin)))))))))))))))))))))))))))))))))))))))))))))) (.ln [0, 0, 1, 0, -1, 0] (.sp [0, 0, 1, 0, -1, 0] (.ng [0, 0, -1, 0, 1, 0] 1 [(1, 0)] (.ps [0, 0, 1, 0, -1, 0] 1 [(1, 0)] (.ln [1, 0, 0, 1, 0, 0] (.ln [0, 0, -1, 0, 1, 1] (.ln [0, 0, 0, 0, 1, 1] (.ln [1, 0, 0, 1, -1, 0] (.ng [-1, 1, 1, 0, 0, 0] 1 [(1, 3)] (.ng [0, 0, -1, 0, 1, 1] 1 [(1, 1), (1, 0)] (.ln [1, -1, -1, -1, 0, 0] (.sp [1, -1, -1, -1, 0, 0] (.ng [-1, 1, 1, 1, 0, 0] 1 [(1, 0)] (.ng [0, 0, 0, -1, 0, 0] 1 [(1, 6)] (.ln [1, 0, 0, 0, 0, 0] (.ln [-1, 1, 0, 1, 1, 1] (.ln [1, 0, -1, 0, 1, 1] (.ln [0, 0, 0, -1, 0, 0] (.ln [0, 0, 1, 0, -1, 0] (.ps [0, 0, 1, 0, -1, 0] 1 [(1, 1)] (.ng [0, 0, -1, 0, 1, 0] 1 [(1, 1)] (.ps [0, 0, 1, 0, -1, 0] 1 [(1, 1)] (.ln [0, 0, 1, 1, 0, 0] (.ln [0, 0, -1, 0, 1, 1] (.ln [0, 0, 0, 0, 1, 1] (.ln [0, 0, 1, 1, -1, 0] (.ng [0, 0, -1, 0, 1, 1] 1 [(1, 2), (1, 1)] (.ln [1, -1, -1, -1, 0, 0] (.ps [1, -1, -1, -1, 0, 0] 1 [(1, 0)] (.ng [-1, 1, 1, 1, 0, 0] 1 [(1, 0)] (.sp [1, 0, -1, -1, 0, 0] (.ln [1, 0, 0, 0, 0, 0] (.ln [-1, 1, 0, 1, 1, 1] (.ln [0, 0, 0, 1, 1, 1] (.ln [1, 0, -1, -1, 0, 0] (.ps [1, 0, -1, -1, 0, 0] 1 [(1, 0)] (.ps [0, 0, 1, 1, -1, 0] 1 [(1, 7), (1, 2)] (.ln [0, 0, 1, 2, -1, 0] (.ps [0, 0, 1, 2, -1, 0] 1 [(2, 7), (1, 2)] (.ng [0, 0, 0, -1, 0, 0] 1 [(1, 7)] (.ps [0, 0, 1, 2, -1, 0] 1 [(2, 7), (1, 2)] (.ln [1, 0, -1, 0, 1, 1] (.ln [0, 0, 0, -1, 0, 0] (.ln [0, 0, 0, 0, 1, 1] (.ln [1, 0, 0, 1, -1, 0] (.fin))))))))))))))) (.ln [1, 0, 0, 0, 0, 0] (.ln [-1, 1, 0, 1, 1, 1] (.ln [1, 0, -1, 0, 1, 1] (.ln [1, 0, -1, -1, 0, 0] (.ng [1, 0, -1, -1, 0, 0] 1 [(1, 0)] (.ps [0, 0, 1, 1, -1, 0] 1 [(1, 7), (1, 2)] (.ln [0, 0, 1, 2, -1, 0] (.ps [0, 0, 1, 2, -1, 0] 1 [(2, 7), (1, 2)] (.ng [0, 0, 0, -1, 0, 0] 1 [(1, 7)] (.ps [1, 0, 0, 1, -1, 0] 1 [(1, 4), (1, 2)] (.ln [1, 0, -1, 0, 1, 1] (.ln [0, 0, 0, -1, 0, 0] (.ln [0, 0, 0, 0, 1, 1] (.ln [1, 0, 0, 1, -1, 0] (.fin)))))))))))))))))))))))))))))))))) (.ps [-1, 1, 1, 1, 0, 0] 1 [(1, 0)] (.ng [0, 0, 0, -1, 0, 0] 1 [(1, 6)] (.ln [0, 1, 1, 1, 0, 0] (.ln [0, 0, -1, 0, 1, 1] (.ln [1, 0, -1, 0, 1, 1] (.ln [-1, 1, 1, 0, 0, 0] (.ln [0, 0, 1, 0, -1, 0] (.ps [0, 0, 1, 0, -1, 0] 1 [(1, 1)] (.ng [0, 0, -1, 0, 1, 0] 1 [(1, 1)] (.ps [0, 0, 1, 0, -1, 0] 1 [(1, 1)] (.ln [0, 0, 1, 1, 0, 0] (.ln [0, 0, -1, 0, 1, 1] (.ln [0, 0, 0, 0, 1, 1] (.ln [0, 0, 1, 1, -1, 0] (.ng [0, 0, -1, 0, 1, 1] 1 [(1, 2), (1, 1)] (.ln [1, -1, -1, -1, 0, 0] (.ng [1, -1, -1, -1, 0, 0] 1 [(1, 0)] (.ps [-1, 1, 1, 1, 0, 0] 1 [(1, 0)] (.ng [1, 0, -1, -1, 0, 0] 1 [(1, 7), (1, 0)] (.ln [0, 1, 1, 1, 0, 0] (.ln [0, 0, -1, 0, 1, 1] (.ln [1, 0, -1, 0, 1, 1] (.ln [0, 1, 0, 0, 0, 0] (.ng [0, 1, 0, 0, 0, 0] 1 [(1, 7)] (.ps [0, 0, 1, 1, -1, 0] 1 [(1, 6), (1, 1)] (.ln [1, -1, 0, 1, -1, 0] (.ps [1, -1, 0, 1, -1, 0] 1 [(1, 5), (1, 1)] (.ng [-1, 1, 1, 0, 0, 0] 1 [(1, 4)] (.ps [1, 0, 0, 1, -1, 0] 1 [(1, 3), (1, 1)] (.ln [1, 0, -1, 0, 1, 1] (.ln [-1, 1, 1, 0, 0, 0] (.ln [0, 0, 0, 0, 1, 1] (.ln [1, 0, 0, 1, -1, 0] (.fin)))))))))))))))))))))))))))))))))))))))))))) (.ps [0, 0, -1, 0, 1, 0] 1 [(1, 0)] (.ng [0, 0, 1, 0, -1, 0] 1 [(1, 0)] (.ln [1, 0, -1, 1, 1, 0] (.ln [0, 0, 0, 0, 0, 1] (.ln [0, 0, 1, 0, 0, 1] (.ln [1, 0, -1, 1, 0, 0] (.ng [-1, 1, 1, 0, 0, 0] 1 [(1, 3)] (.ng [0, 0, 0, 0, 0, 1] 1 [(1, 1)] (.ln [1, -1, 0, -1, -1, 0] (.sp [1, -1, 0, -1, -1, 0] (.ng [-1, 1, 0, 1, 1, 0] 1 [(1, 0)] (.ng [0, 0, 1, -1, -1, 0] 1 [(1, 6), (1, 1)] (.ln [1, 0, 0, 0, 0, 0] (.ln [-1, 1, 0, 1, 1, 1] (.ln [1, 0, 0, 0, 0, 1] (.ln [0, 0, 1, -1, -1, 0] (.ln [0, 0, 1, 0, -1, 0] (.ng [0, 0, 1, 0, -1, 0] 1 [(1, 1)] (.ps [0, 0, -1, 0, 1, 0] 1 [(1, 1)] (.ng [0, 0, 1, 0, -1, 0] 1 [(1, 1)] (.ln [0, 0, 0, 1, 1, 0] (.ln [0, 0, 0, 0, 0, 1] (.ln [0, 0, 1, 0, 0, 1] (.ln [0, 0, 0, 1, 0, 0] (.ng [0, 0, 0, 0, 0, 1] 1 [(1, 2)] (.ln [1, -1, 0, -1, -1, 0] (.ps [1, -1, 0, -1, -1, 0] 1 [(1, 0)] (.ng [-1, 1, 0, 1, 1, 0] 1 [(1, 0)] (.sp [1, 0, 0, -1, -1, 0] (.ln [1, 0, 0, 0, 0, 0] (.ln [-1, 1, 0, 1, 1, 1] (.ln [0, 0, 0, 1, 1, 1] (.ln [1, 0, 0, -1, -1, 0] (.ps [1, 0, 0, -1, -1, 0] 1 [(1, 0)] (.ps [0, 0, 0, 1, 0, 0] 1 [(1, 7)] (.ln [0, 0, -1, 2, 1, 0] (.ps [0, 0, -1, 2, 1, 0] 1 [(2, 7), (1, 2)] (.ng [0, 0, 1, -1, -1, 0] 1 [(1, 7), (1, 2)] (.ps [0, 0, -1, 2, 1, 0] 1 [(2, 7), (1, 2)] (.ln [1, 0, 0, 0, 0, 1] (.ln [0, 0, 1, -1, -1, 0] (.ln [0, 0, 1, 0, 0, 1] (.ln [1, 0, -1, 1, 0, 0] (.fin))))))))))))))) (.ln [1, 0, 0, 0, 0, 0] (.ln [-1, 1, 0, 1, 1, 1] (.ln [1, 0, 0, 0, 0, 1] (.ln [1, 0, 0, -1, -1, 0] (.ng [1, 0, 0, -1, -1, 0] 1 [(1, 0)] (.ps [0, 0, 0, 1, 0, 0] 1 [(1, 7)] (.ln [0, 0, -1, 2, 1, 0] (.ps [0, 0, -1, 2, 1, 0] 1 [(2, 7), (1, 2)] (.ng [0, 0, 1, -1, -1, 0] 1 [(1, 7), (1, 2)] (.ps [1, 0, -1, 1, 0, 0] 1 [(1, 4)] (.ln [1, 0, 0, 0, 0, 1] (.ln [0, 0, 1, -1, -1, 0] (.ln [0, 0, 1, 0, 0, 1] (.ln [1, 0, -1, 1, 0, 0] (.fin)))))))))))))))))))))))))))))))))) (.ps [-1, 1, 0, 1, 1, 0] 1 [(1, 0)] (.ng [0, 0, 1, -1, -1, 0] 1 [(1, 6), (1, 1)] (.ln [0, 1, 0, 1, 1, 0] (.ln [0, 0, 0, 0, 0, 1] (.ln [1, 0, 0, 0, 0, 1] (.ln [-1, 1, 1, 0, 0, 0] (.ln [0, 0, 1, 0, -1, 0] (.ng [0, 0, 1, 0, -1, 0] 1 [(1, 1)] (.ps [0, 0, -1, 0, 1, 0] 1 [(1, 1)] (.ng [0, 0, 1, 0, -1, 0] 1 [(1, 1)] (.ln [0, 0, 0, 1, 1, 0] (.ln [0, 0, 0, 0, 0, 1] (.ln [0, 0, 1, 0, 0, 1] (.ln [0, 0, 0, 1, 0, 0] (.ng [0, 0, 0, 0, 0, 1] 1 [(1, 2)] (.ln [1, -1, 0, -1, -1, 0] (.ng [1, -1, 0, -1, -1, 0] 1 [(1, 0)] (.ps [-1, 1, 0, 1, 1, 0] 1 [(1, 0)] (.ng [1, 0, 0, -1, -1, 0] 1 [(1, 7), (1, 0)] (.ln [0, 1, 0, 1, 1, 0] (.ln [0, 0, 0, 0, 0, 1] (.ln [1, 0, 0, 0, 0, 1] (.ln [0, 1, 0, 0, 0, 0] (.ng [0, 1, 0, 0, 0, 0] 1 [(1, 7)] (.ps [0, 0, 0, 1, 0, 0] 1 [(1, 6)] (.ln [1, -1, -1, 1, 0, 0] (.ps [1, -1, -1, 1, 0, 0] 1 [(1, 5)] (.ng [-1, 1, 1, 0, 0, 0] 1 [(1, 4)] (.ps [1, 0, -1, 1, 0, 0] 1 [(1, 3)] (.ln [1, 0, 0, 0, 0, 1] (.ln [-1, 1, 1, 0, 0, 0] (.ln [0, 0, 1, 0, 0, 1] (.ln [1, 0, -1, 1, 0, 0] (.fin)))))))))))))))))))))))))))))))))))))))))))))))))))) (.ln [1, 0, 0, 0, 0, 0] (.ln [-1, 1, 1, 0, 0, 0] (.ln [1, 0, 0, 1, 0, 0] (.ln [1, 0, -1, 1, 0, 0] (.ng [1, 0, -1, 1, 0, 0] 1 [(1, 0)] (.sp [0, 0, 0, 0, 0, 1] (.ln [0, 0, 1, 0, -1, 1] (.sp [0, 0, 1, 0, -1, 1] (.sp [0, 0, -1, 0, 1, 0] (.sp [1, 0, 0, 1, -1, 1] (.ln [1, 0, -1, 1, 1, 0] (.ln [0, 0, -1, 0, 1, 0] (.ln [0, 0, 0, 0, 1, 0] (.ln [1, 0, 0, 1, -1, 1] (.ng [-1, 1, 1, 0, 0, 0] 1 [(1, 5)] (.ps [0, 0, -1, 0, 1, 0] 1 [(1, 1)] (.ln [1, -1, -1, -1, 0, 0] (.sp [1, -1, -1, -1, 0, 0] (.sp [-1, 1, 0, 1, 1, 0] (.ng [0, 0, 0, -1, 0, 0] 1 [(1, 9)] (.ln [0, 1, 0, 1, 1, 0] (.ln [-1, 1, 0, 1, 1, 0] (.ln [1, 0, -1, 0, 1, 0] (.ln [0, 0, 0, -1, 0, 0] (.ln [0, 0, 1, 0, -1, 1] (.ps [0, 0, 1, 0, -1, 1] 1 [(1, 4)] (.ps [0, 0, -1, 0, 1, 0] 1 [(1, 3)] (.ps [0, 0, 1, 0, -1, 1] 1 [(1, 4)] (.ln [0, 0, 0, 1, 1, 0] (.ln [0, 0, -1, 0, 1, 0] (.ln [0, 0, 0, 0, 1, 0] (.ln [0, 0, 1, 1, -1, 1] (.ps [0, 0, -1, 0, 1, 0] 1 [(1, 3)] (.ln [1, -1, -1, -1, 0, 0] (.ps [1, -1, -1, -1, 0, 0] 1 [(1, 1)] (.ps [-1, 1, 0, 1, 1, 0] 1 [(1, 0)] (.ng [1, 0, -1, -1, 0, 0] 1 [(2, 9), (1, 6)] (.ln [0, 1, 0, 1, 1, 0] (.ln [-1, 1, 0, 1, 1, 0] (.ln [1, 0, -1, 0, 1, 0] (.ln [1, 0, -1, -1, 0, 0] (.ng [1, 0, -1, -1, 0, 0] 1 [(2, 9), (1, 6)] (.ps [0, 0, 1, 1, -1, 1] 1 [(1, 9), (1, 4)] (.ln [0, 0, 1, 2, -1, 1] (.ps [0, 0, 1, 2, -1, 1] 1 [(2, 9), (1, 4)] (.ng [0, 0, 0, -1, 0, 0] 1 [(1, 9)] (.ps [1, 0, 0, 1, -1, 1] 1 [(1, 2)] (.ln [1, 0, -1, 0, 1, 0] (.ln [0, 0, 0, -1, 0, 0] (.ln [0, 0, 0, 0, 1, 0] (.ln [1, 0, 0, 1, -1, 1] (.fin))))))))))))))))))))))))))))))))) (.ng [0, 0, 0, -1, 0, 0] 1 [(1, 9)] (.ln [1, 0, 0, 0, 0, 0] (.ln [-1, 1, 0, 1, 1, 0] (.ln [1, 0, -1, 0, 1, 0] (.ln [0, 0, 0, -1, 0, 0] (.ln [0, 0, 1, 0, -1, 1] (.ps [0, 0, 1, 0, -1, 1] 1 [(1, 4)] (.ps [0, 0, -1, 0, 1, 0] 1 [(1, 3)] (.ps [0, 0, 1, 0, -1, 1] 1 [(1, 4)] (.ln [0, 0, 0, 1, 1, 0] (.ln [0, 0, -1, 0, 1, 0] (.ln [0, 0, 0, 0, 1, 0] (.ln [0, 0, 1, 1, -1, 1] (.ps [0, 0, -1, 0, 1, 0] 1 [(1, 3)] (.ln [1, -1, -1, -1, 0, 0] (.ps [1, -1, -1, -1, 0, 0] 1 [(1, 1)] (.ng [-1, 1, 0, 1, 1, 0] 1 [(1, 0)] (.ng [1, 0, -1, -1, 0, 0] 1 [(2, 9), (1, 6)] (.ln [1, 0, 0, 0, 0, 0] (.ln [-1, 1, 0, 1, 1, 0] (.ln [1, 0, -1, 0, 1, 0] (.ln [1, 0, -1, -1, 0, 0] (.ng [1, 0, -1, -1, 0, 0] 1 [(2, 9), (1, 6)] (.ps [0, 0, 1, 1, -1, 1] 1 [(1, 9), (1, 4)] (.ln [0, 0, 1, 2, -1, 1] (.ps [0, 0, 1, 2, -1, 1] 1 [(2, 9), (1, 4)] (.ng [0, 0, 0, -1, 0, 0] 1 [(1, 9)] (.ps [1, 0, 0, 1, -1, 1] 1 [(1, 2)] (.ln [1, 0, -1, 0, 1, 0] (.ln [0, 0, 0, -1, 0, 0] (.ln [0, 0, 0, 0, 1, 0] (.ln [1, 0, 0, 1, -1, 1] (.fin)))))))))))))))))))))))))))))))))) (.ps [-1, 1, 0, 1, 1, 0] 1 [(1, 2), (1, 0)] (.ng [0, 0, 0, -1, 0, 0] 1 [(1, 8)] (.ln [0, 1, 0, 1, 1, 0] (.ln [0, 0, -1, 0, 1, 0] (.ln [1, 0, -1, 0, 1, 0] (.ln [-1, 1, 1, 0, 0, 0] (.ln [0, 0, 1, 0, -1, 1] (.ps [0, 0, 1, 0, -1, 1] 1 [(1, 3)] (.ps [0, 0, -1, 0, 1, 0] 1 [(1, 2)] (.ps [0, 0, 1, 0, -1, 1] 1 [(1, 3)] (.ln [0, 0, 0, 1, 1, 0] (.ln [0, 0, -1, 0, 1, 0] (.ln [0, 0, 0, 0, 1, 0] (.ln [0, 0, 1, 1, -1, 1] (.ps [0, 0, -1, 0, 1, 0] 1 [(1, 2)] (.ln [1, -1, -1, -1, 0, 0] (.ng [1, -1, -1, -1, 0, 0] 1 [(1, 0)] (.ps [-1, 1, 0, 1, 1, 0] 1 [(1, 2), (1, 0)] (.ng [1, 0, -1, -1, 0, 0] 1 [(2, 8), (1, 5)] (.ln [0, 1, 0, 1, 1, 0] (.ln [0, 0, -1, 0, 1, 0] (.ln [1, 0, -1, 0, 1, 0] (.ln [0, 1, 0, 0, 0, 0] (.ng [0, 1, 0, 0, 0, 0] 1 [(1, 9)] (.ps [0, 0, 1, 1, -1, 1] 1 [(1, 8), (1, 3)] (.ln [1, -1, 0, 1, -1, 1] (.ps [1, -1, 0, 1, -1, 1] 1 [(1, 7), (1, 3)] (.ng [-1, 1, 1, 0, 0, 0] 1 [(1, 6)] (.ps [1, 0, 0, 1, -1, 1] 1 [(1, 1)] (.ln [1, 0, -1, 0, 1, 0] (.ln [-1, 1, 1, 0, 0, 0] (.ln [0, 0, 0, 0, 1, 0] (.ln [1, 0, 0, 1, -1, 1] (.fin)))))))))))))))))))))))))))))))))))))))))) (.ln [1, 0, -1, 1, 1, 0] (.ln [0, 0, -1, 0, 1, 0] (.ln [1, 0, 0, 1, 0, 1] (.ln [1, 0, 0, 1, -1, 1] (.ng [-1, 1, 1, 0, 0, 0] 1 [(1, 5)] (.ps [0, 0, -1, 0, 1, 0] 1 [(1, 1)] (.ln [1, -1, -1, -1, 0, 0] (.sp [1, -1, -1, -1, 0, 0] (.sp [-1, 1, 0, 1, 1, 0] (.ng [0, 0, 0, -1, 0, 0] 1 [(1, 9)] (.ln [0, 1, 0, 1, 1, 0] (.ln [-1, 1, 0, 1, 1, 0] (.ln [1, 0, -1, 0, 1, 0] (.ln [0, 0, 0, -1, 0, 0] (.ln [0, 0, 1, 0, -1, 1] (.ps [0, 0, 1, 0, -1, 1] 1 [(1, 4)] (.ps [0, 0, -1, 0, 1, 0] 1 [(1, 3)] (.ps [0, 0, 1, 0, -1, 1] 1 [(1, 4)] (.ln [0, 0, 0, 1, 1, 0] (.ln [0, 0, -1, 0, 1, 0] (.ln [0, 0, 0, 0, 1, 0] (.ln [0, 0, 1, 1, -1, 1] (.ps [0, 0, -1, 0, 1, 0] 1 [(1, 3)] (.ln [1, -1, -1, -1, 0, 0] (.ps [1, -1, -1, -1, 0, 0] 1 [(1, 1)] (.ps [-1, 1, 0, 1, 1, 0] 1 [(1, 0)] (.ng [1, 0, -1, -1, 0, 0] 1 [(2, 9), (1, 6)] (.ln [0, 1, 0, 1, 1, 0] (.ln [-1, 1, 0, 1, 1, 0] (.ln [1, 0, -1, 0, 1, 0] (.ln [1, 0, -1, -1, 0, 0] (.ng [1, 0, -1, -1, 0, 0] 1 [(2, 9), (1, 6)] (.ps [0, 0, 1, 1, -1, 1] 1 [(1, 9), (1, 4)] (.ln [0, 0, 1, 2, -1, 1] (.ps [0, 0, 1, 2, -1, 1] 1 [(2, 9), (1, 4)] (.ng [0, 0, 0, -1, 0, 0] 1 [(1, 9)] (.ng [1, 0, 0, 1, -1, 1] 1 [(1, 2)] (.ln [1, 0, -1, 0, 1, 0] (.ln [0, 0, 0, -1, 0, 0] (.ln [1, 0, 0, 1, 0, 1] (.ln [1, 0, 0, 1, -1, 1] (.fin))))))))))))))))))))))))))))))))) (.ng [0, 0, 0, -1, 0, 0] 1 [(1, 9)] (.ln [1, 0, 0, 0, 0, 0] (.ln [-1, 1, 0, 1, 1, 0] (.ln [1, 0, -1, 0, 1, 0] (.ln [0, 0, 0, -1, 0, 0] (.ln [0, 0, 1, 0, -1, 1] (.ps [0, 0, 1, 0, -1, 1] 1 [(1, 4)] (.ps [0, 0, -1, 0, 1, 0] 1 [(1, 3)] (.ps [0, 0, 1, 0, -1, 1] 1 [(1, 4)] (.ln [0, 0, 0, 1, 1, 0] (.ln [0, 0, -1, 0, 1, 0] (.ln [0, 0, 0, 0, 1, 0] (.ln [0, 0, 1, 1, -1, 1] (.ps [0, 0, -1, 0, 1, 0] 1 [(1, 3)] (.ln [1, -1, -1, -1, 0, 0] (.ps [1, -1, -1, -1, 0, 0] 1 [(1, 1)] (.ng [-1, 1, 0, 1, 1, 0] 1 [(1, 0)] (.ng [1, 0, -1, -1, 0, 0] 1 [(2, 9), (1, 6)] (.ln [1, 0, 0, 0, 0, 0] (.ln [-1, 1, 0, 1, 1, 0] (.ln [1, 0, -1, 0, 1, 0] (.ln [1, 0, -1, -1, 0, 0] (.ng [1, 0, -1, -1, 0, 0] 1 [(2, 9), (1, 6)] (.ps [0, 0, 1, 1, -1, 1] 1 [(1, 9), (1, 4)] (.ln [0, 0, 1, 2, -1, 1] (.ps [0, 0, 1, 2, -1, 1] 1 [(2, 9), (1, 4)] (.ng [0, 0, 0, -1, 0, 0] 1 [(1, 9)] (.ng [1, 0, 0, 1, -1, 1] 1 [(1, 2)] (.ln [1, 0, -1, 0, 1, 0] (.ln [0, 0, 0, -1, 0, 0] (.ln [1, 0, 0, 1, 0, 1] (.ln [1, 0, 0, 1, -1, 1] (.fin)))))))))))))))))))))))))))))))))) (.ps [-1, 1, 0, 1, 1, 0] 1 [(1, 2), (1, 0)] (.ng [0, 0, 0, -1, 0, 0] 1 [(1, 8)] (.ln [0, 1, 0, 1, 1, 0] (.ln [0, 0, -1, 0, 1, 0] (.ln [1, 0, -1, 0, 1, 0] (.ln [-1, 1, 1, 0, 0, 0] (.ln [0, 0, 1, 0, -1, 1] (.ps [0, 0, 1, 0, -1, 1] 1 [(1, 3)] (.ps [0, 0, -1, 0, 1, 0] 1 [(1, 2)] (.ps [0, 0, 1, 0, -1, 1] 1 [(1, 3)] (.ln [0, 0, 0, 1, 1, 0] (.ln [0, 0, -1, 0, 1, 0] (.ln [0, 0, 0, 0, 1, 0] (.ln [0, 0, 1, 1, -1, 1] (.ps [0, 0, -1, 0, 1, 0] 1 [(1, 2)] (.ln [1, -1, -1, -1, 0, 0] (.ng [1, -1, -1, -1, 0, 0] 1 [(1, 0)] (.ps [-1, 1, 0, 1, 1, 0] 1 [(1, 2), (1, 0)] (.ng [1, 0, -1, -1, 0, 0] 1 [(2, 8), (1, 5)] (.ln [0, 1, 0, 1, 1, 0] (.ln [0, 0, -1, 0, 1, 0] (.ln [1, 0, -1, 0, 1, 0] (.ln [0, 1, 0, 0, 0, 0] (.ng [0, 1, 0, 0, 0, 0] 1 [(1, 9)] (.ps [0, 0, 1, 1, -1, 1] 1 [(1, 8), (1, 3)] (.ln [1, -1, 0, 1, -1, 1] (.ps [1, -1, 0, 1, -1, 1] 1 [(1, 7), (1, 3)] (.ng [-1, 1, 1, 0, 0, 0] 1 [(1, 6)] (.ng [1, 0, 0, 1, -1, 1] 1 [(1, 1)] (.ln [1, 0, -1, 0, 1, 0] (.ln [-1, 1, 1, 0, 0, 0] (.ln [1, 0, 0, 1, 0, 1] (.ln [1, 0, 0, 1, -1, 1] (.fin))))))))))))))))))))))))))))))))))))))))))) (.sp [1, 0, 0, 1, -1, 1] (.ln [1, 0, 0, 1, 0, 0] (.ln [0, 0, -1, 0, 1, 0] (.ln [0, 0, 0, 0, 1, 0] (.ln [1, 0, 0, 1, -1, 1] (.ng [-1, 1, 1, 0, 0, 0] 1 [(1, 5)] (.ng [0, 0, -1, 0, 1, 0] 1 [(1, 1)] (.ln [1, -1, -1, -1, 0, 0] (.sp [1, -1, -1, -1, 0, 0] (.ng [-1, 1, 1, 1, 0, 0] 1 [(1, 0)] (.ng [0, 0, 0, -1, 0, 0] 1 [(1, 8)] (.ln [1, 0, 0, 0, 0, 0] (.ln [-1, 1, 0, 1, 1, 0] (.ln [1, 0, -1, 0, 1, 0] (.ln [0, 0, 0, -1, 0, 0] (.ln [0, 0, 1, 0, -1, 1] (.ps [0, 0, 1, 0, -1, 1] 1 [(1, 3)] (.ng [0, 0, -1, 0, 1, 0] 1 [(1, 2)] (.ps [0, 0, 1, 0, -1, 1] 1 [(1, 3)] (.ln [0, 0, 1, 1, 0, 0] (.ln [0, 0, -1, 0, 1, 0] (.ln [0, 0, 0, 0, 1, 0] (.ln [0, 0, 1, 1, -1, 1] (.ng [0, 0, -1, 0, 1, 0] 1 [(1, 2)] (.ln [1, -1, -1, -1, 0, 0] (.ps [1, -1, -1, -1, 0, 0] 1 [(1, 0)] (.ng [-1, 1, 1, 1, 0, 0] 1 [(1, 0)] (.ng [1, 0, -1, -1, 0, 0] 1 [(2, 8), (1, 5)] (.ln [1, 0, 0, 0, 0, 0] (.ln [-1, 1, 0, 1, 1, 0] (.ln [1, 0, -1, 0, 1, 0] (.ln [1, 0, -1, -1, 0, 0] (.ng [1, 0, -1, -1, 0, 0] 1 [(2, 8), (1, 5)] (.ps [0, 0, 1, 1, -1, 1] 1 [(1, 8), (1, 3)] (.ln [0, 0, 1, 2, -1, 1] (.ps [0, 0, 1, 2, -1, 1] 1 [(2, 8), (1, 3)] (.ng [0, 0, 0, -1, 0, 0] 1 [(1, 8)] (.ps [1, 0, 0, 1, -1, 1] 1 [(1, 1)] (.ln [1, 0, -1, 0, 1, 0] (.ln [0, 0, 0, -1, 0, 0] (.ln [0, 0, 0, 0, 1, 0] (.ln [1, 0, 0, 1, -1, 1] (.fin)))))))))))))))))))))))))))))))))) (.ps [-1, 1, 1, 1, 0, 0] 1 [(1, 0)] (.ng [0, 0, 0, -1, 0, 0] 1 [(1, 8)] (.ln [0, 1, 1, 1, 0, 0] (.ln [0, 0, -1, 0, 1, 0] (.ln [1, 0, -1, 0, 1, 0] (.ln [-1, 1, 1, 0, 0, 0] (.ln [0, 0, 1, 0, -1, 1] (.ps [0, 0, 1, 0, -1, 1] 1 [(1, 3)] (.ng [0, 0, -1, 0, 1, 0] 1 [(1, 2)] (.ps [0, 0, 1, 0, -1, 1] 1 [(1, 3)] (.ln [0, 0, 1, 1, 0, 0] (.ln [0, 0, -1, 0, 1, 0] (.ln [0, 0, 0, 0, 1, 0] (.ln [0, 0, 1, 1, -1, 1] (.ng [0, 0, -1, 0, 1, 0] 1 [(1, 2)] (.ln [1, -1, -1, -1, 0, 0] (.ng [1, -1, -1, -1, 0, 0] 1 [(1, 0)] (.ps [-1, 1, 1, 1, 0, 0] 1 [(1, 0)] (.ng [1, 0, -1, -1, 0, 0] 1 [(2, 8), (1, 5)] (.ln [0, 1, 1, 1, 0, 0] (.ln [0, 0, -1, 0, 1, 0] (.ln [1, 0, -1, 0, 1, 0] (.ln [0, 1, 0, 0, 0, 0] (.ng [0, 1, 0, 0, 0, 0] 1 [(1, 9)] (.ps [0, 0, 1, 1, -1, 1] 1 [(1, 8), (1, 3)] (.ln [1, -1, 0, 1, -1, 1] (.ps [1, -1, 0, 1, -1, 1] 1 [(1, 7), (1, 3)] (.ng [-1, 1, 1, 0, 0, 0] 1 [(1, 6)] (.ps [1, 0, 0, 1, -1, 1] 1 [(1, 1)] (.ln [1, 0, -1, 0, 1, 0] (.ln [-1, 1, 1, 0, 0, 0] (.ln [0, 0, 0, 0, 1, 0] (.ln [1, 0, 0, 1, -1, 1] (.fin)))))))))))))))))))))))))))))))))))))))))) (.ln [1, 0, 0, 1, 0, 0] (.ln [0, 0, -1, 0, 1, 0] (.ln [1, 0, 0, 1, 0, 1] (.ln [1, 0, 0, 1, -1, 1] (.ng [-1, 1, 1, 0, 0, 0] 1 [(1, 5)] (.ng [0, 0, -1, 0, 1, 0] 1 [(1, 1)] (.ln [1, -1, -1, -1, 0, 0] (.sp [1, -1, -1, -1, 0, 0] (.ng [-1, 1, 1, 1, 0, 0] 1 [(1, 0)] (.ng [0, 0, 0, -1, 0, 0] 1 [(1, 8)] (.ln [1, 0, 0, 0, 0, 0] (.ln [-1, 1, 0, 1, 1, 0] (.ln [1, 0, -1, 0, 1, 0] (.ln [0, 0, 0, -1, 0, 0] (.ln [0, 0, 1, 0, -1, 1] (.ps [0, 0, 1, 0, -1, 1] 1 [(1, 3)] (.ng [0, 0, -1, 0, 1, 0] 1 [(1, 2)] (.ps [0, 0, 1, 0, -1, 1] 1 [(1, 3)] (.ln [0, 0, 1, 1, 0, 0] (.ln [0, 0, -1, 0, 1, 0] (.ln [0, 0, 0, 0, 1, 0] (.ln [0, 0, 1, 1, -1, 1] (.ng [0, 0, -1, 0, 1, 0] 1 [(1, 2)] (.ln [1, -1, -1, -1, 0, 0] (.ps [1, -1, -1, -1, 0, 0] 1 [(1, 0)] (.ng [-1, 1, 1, 1, 0, 0] 1 [(1, 0)] (.ng [1, 0, -1, -1, 0, 0] 1 [(2, 8), (1, 5)] (.ln [1, 0, 0, 0, 0, 0] (.ln [-1, 1, 0, 1, 1, 0] (.ln [1, 0, -1, 0, 1, 0] (.ln [1, 0, -1, -1, 0, 0] (.ng [1, 0, -1, -1, 0, 0] 1 [(2, 8), (1, 5)] (.ps [0, 0, 1, 1, -1, 1] 1 [(1, 8), (1, 3)] (.ln [0, 0, 1, 2, -1, 1] (.ps [0, 0, 1, 2, -1, 1] 1 [(2, 8), (1, 3)] (.ng [0, 0, 0, -1, 0, 0] 1 [(1, 8)] (.ng [1, 0, 0, 1, -1, 1] 1 [(1, 1)] (.ln [1, 0, -1, 0, 1, 0] (.ln [0, 0, 0, -1, 0, 0] (.ln [1, 0, 0, 1, 0, 1] (.ln [1, 0, 0, 1, -1, 1] (.fin)))))))))))))))))))))))))))))))))) (.ps [-1, 1, 1, 1, 0, 0] 1 [(1, 0)] (.ng [0, 0, 0, -1, 0, 0] 1 [(1, 8)] (.ln [0, 1, 1, 1, 0, 0] (.ln [0, 0, -1, 0, 1, 0] (.ln [1, 0, -1, 0, 1, 0] (.ln [-1, 1, 1, 0, 0, 0] (.ln [0, 0, 1, 0, -1, 1] (.ps [0, 0, 1, 0, -1, 1] 1 [(1, 3)] (.ng [0, 0, -1, 0, 1, 0] 1 [(1, 2)] (.ps [0, 0, 1, 0, -1, 1] 1 [(1, 3)] (.ln [0, 0, 1, 1, 0, 0] (.ln [0, 0, -1, 0, 1, 0] (.ln [0, 0, 0, 0, 1, 0] (.ln [0, 0, 1, 1, -1, 1] (.ng [0, 0, -1, 0, 1, 0] 1 [(1, 2)] (.ln [1, -1, -1, -1, 0, 0] (.ng [1, -1, -1, -1, 0, 0] 1 [(1, 0)] (.ps [-1, 1, 1, 1, 0, 0] 1 [(1, 0)] (.ng [1, 0, -1, -1, 0, 0] 1 [(2, 8), (1, 5)] (.ln [0, 1, 1, 1, 0, 0] (.ln [0, 0, -1, 0, 1, 0] (.ln [1, 0, -1, 0, 1, 0] (.ln [0, 1, 0, 0, 0, 0] (.ng [0, 1, 0, 0, 0, 0] 1 [(1, 9)] (.ps [0, 0, 1, 1, -1, 1] 1 [(1, 8), (1, 3)] (.ln [1, -1, 0, 1, -1, 1] (.ps [1, -1, 0, 1, -1, 1] 1 [(1, 7), (1, 3)] (.ng [-1, 1, 1, 0, 0, 0] 1 [(1, 6)] (.ng [1, 0, 0, 1, -1, 1] 1 [(1, 1)] (.ln [1, 0, -1, 0, 1, 0] (.ln [-1, 1, 1, 0, 0, 0] (.ln [1, 0, 0, 1, 0, 1] (.ln [1, 0, 0, 1, -1, 1] (.fin)))))))))))))))))))))))))))))))))))))))))))) (.ps [0, 0, -1, 0, 1, 0] 1 [(1, 1), (1, 0)] (.ng [1, 0, 0, 1, -1, 1] 1 [(1, 2), (1, 0)] (.ln [1, 0, -1, 1, 1, 0] (.ln [0, 0, 0, 0, 0, 1] (.ln [1, 0, 0, 1, 0, 1] (.ln [1, 0, -1, 1, 0, 0] (.ng [-1, 1, 1, 0, 0, 0] 1 [(1, 3)] (.ps [0, 0, 0, 0, 0, 1] 1 [(1, 1)] (.ln [1, -1, 0, -1, -1, 1] (.sp [1, -1, 0, -1, -1, 1] (.sp [-1, 1, 0, 1, 1, 0] (.ng [0, 0, 1, -1, -1, 1] 1 [(1, 7), (1, 2)] (.ln [0, 1, 0, 1, 1, 0] (.ln [-1, 1, 0, 1, 1, 0] (.ln [1, 0, 0, 0, 0, 1] (.ln [0, 0, 1, -1, -1, 1] (.ln [0, 0, 1, 0, -1, 1] (.ng [0, 0, 1, 0, -1, 1] 1 [(1, 2)] (.ps [0, 0, -1, 0, 1, 0] 1 [(1, 3), (1, 2)] (.ng [0, 0, 1, 0, -1, 1] 1 [(1, 2)] (.ln [0, 0, 0, 1, 1, 0] (.ln [0, 0, 0, 0, 0, 1] (.ln [0, 0, 1, 0, 0, 1] (.ln [0, 0, 0, 1, 0, 0] (.ps [0, 0, 0, 0, 0, 1] 1 [(1, 3)] (.ln [1, -1, 0, -1, -1, 1] (.ps [1, -1, 0, -1, -1, 1] 1 [(1, 1)] (.ps [-1, 1, 0, 1, 1, 0] 1 [(1, 0)] (.ng [1, 0, 0, -1, -1, 1] 1 [(2, 7), (1, 4), (1, 2)] (.ln [0, 1, 0, 1, 1, 0] (.ln [-1, 1, 0, 1, 1, 0] (.ln [1, 0, 0, 0, 0, 1] (.ln [1, 0, 0, -1, -1, 1] (.ng [1, 0, 0, -1, -1, 1] 1 [(2, 7), (1, 4), (1, 2)] (.ps [0, 0, 0, 1, 0, 0] 1 [(1, 7)] (.ln [0, 0, -1, 2, 1, -1] (.ps [0, 0, -1, 2, 1, -1] 1 [(2, 7), (1, 2)] (.ng [0, 0, 1, -1, -1, 1] 1 [(1, 7), (1, 2)] (.ng [1, 0, -1, 1, 0, 0] 1 [(1, 4)] (.ln [1, 0, 0, 0, 0, 1] (.ln [0, 0, 1, -1, -1, 1] (.ln [1, 0, 0, 1, 0, 1] (.ln [1, 0, -1, 1, 0, 0] (.fin))))))))))))))))))))))))))))))))) (.ng [0, 0, 1, -1, -1, 1] 1 [(1, 7), (1, 2)] (.ln [1, 0, 0, 0, 0, 0] (.ln [-1, 1, 0, 1, 1, 0] (.ln [1, 0, 0, 0, 0, 1] (.ln [0, 0, 1, -1, -1, 1] (.ln [0, 0, 1, 0, -1, 1] (.ng [0, 0, 1, 0, -1, 1] 1 [(1, 2)] (.ps [0, 0, -1, 0, 1, 0] 1 [(1, 3), (1, 2)] (.ng [0, 0, 1, 0, -1, 1] 1 [(1, 2)] (.ln [0, 0, 0, 1, 1, 0] (.ln [0, 0, 0, 0, 0, 1] (.ln [0, 0, 1, 0, 0, 1] (.ln [0, 0, 0, 1, 0, 0] (.ps [0, 0, 0, 0, 0, 1] 1 [(1, 3)] (.ln [1, -1, 0, -1, -1, 1] (.ps [1, -1, 0, -1, -1, 1] 1 [(1, 1)] (.ng [-1, 1, 0, 1, 1, 0] 1 [(1, 0)] (.ng [1, 0, 0, -1, -1, 1] 1 [(2, 7), (1, 4), (1, 2)] (.ln [1, 0, 0, 0, 0, 0] (.ln [-1, 1, 0, 1, 1, 0] (.ln [1, 0, 0, 0, 0, 1] (.ln [1, 0, 0, -1, -1, 1] (.ng [1, 0, 0, -1, -1, 1] 1 [(2, 7), (1, 4), (1, 2)] (.ps [0, 0, 0, 1, 0, 0] 1 [(1, 7)] (.ln [0, 0, -1, 2, 1, -1] (.ps [0, 0, -1, 2, 1, -1] 1 [(2, 7), (1, 2)] (.ng [0, 0, 1, -1, -1, 1] 1 [(1, 7), (1, 2)] (.ng [1, 0, -1, 1, 0, 0] 1 [(1, 4)] (.ln [1, 0, 0, 0, 0, 1] (.ln [0, 0, 1, -1, -1, 1] (.ln [1, 0, 0, 1, 0, 1] (.ln [1, 0, -1, 1, 0, 0] (.fin)))))))))))))))))))))))))))))))))) (.ps [-1, 1, 0, 1, 1, 0] 1 [(1, 2), (1, 0)] (.ng [0, 0, 1, -1, -1, 1] 1 [(1, 6), (1, 1)] (.ln [0, 1, 0, 1, 1, 0] (.ln [0, 0, 0, 0, 0, 1] (.ln [1, 0, 0, 0, 0, 1] (.ln [-1, 1, 1, 0, 0, 0] (.ln [0, 0, 1, 0, -1, 1] (.ng [0, 0, 1, 0, -1, 1] 1 [(1, 1)] (.ps [0, 0, -1, 0, 1, 0] 1 [(1, 2), (1, 1)] (.ng [0, 0, 1, 0, -1, 1] 1 [(1, 1)] (.ln [0, 0, 0, 1, 1, 0] (.ln [0, 0, 0, 0, 0, 1] (.ln [0, 0, 1, 0, 0, 1] (.ln [0, 0, 0, 1, 0, 0] (.ps [0, 0, 0, 0, 0, 1] 1 [(1, 2)] (.ln [1, -1, 0, -1, -1, 1] (.ng [1, -1, 0, -1, -1, 1] 1 [(1, 0)] (.ps [-1, 1, 0, 1, 1, 0] 1 [(1, 2), (1, 0)] (.ng [1, 0, 0, -1, -1, 1] 1 [(2, 6), (1, 3), (1, 1)] (.ln [0, 1, 0, 1, 1, 0] (.ln [0, 0, 0, 0, 0, 1] (.ln [1, 0, 0, 0, 0, 1] (.ln [0, 1, 0, 0, 0, 0] (.ng [0, 1, 0, 0, 0, 0] 1 [(1, 7)] (.ps [0, 0, 0, 1, 0, 0] 1 [(1, 6)] (.ln [1, -1, -1, 1, 0, 0] (.ps [1, -1, -1, 1, 0, 0] 1 [(1, 5)] (.ng [-1, 1, 1, 0, 0, 0] 1 [(1, 4)] (.ng [1, 0, -1, 1, 0, 0] 1 [(1, 3)] (.ln [1, 0, 0, 0, 0, 1] (.ln [-1, 1, 1, 0, 0, 0] (.ln [1, 0, 0, 1, 0, 1] (.ln [1, 0, -1, 1, 0, 0] (.fin)))))))))))))))))))))))))))))))))))))))))))))) (.ln [0, 0, 1, 0, -1, 0] (.sp [0, 0, 1, 0, -1, 0] (.ng [0, 0, -1, 0, 1, 0] 1 [(1, 0)] (.sp [1, 0, 0, 1, -1, 0] (.ln [1, 0, 0, 1, 0, 0] (.ln [0, 0, -1, 0, 1, 1] (.ln [0, 0, 0, 0, 1, 1] (.ln [1, 0, 0, 1, -1, 0] (.ng [-1, 1, 1, 0, 0, 0] 1 [(1, 4)] (.ng [0, 0, -1, 0, 1, 1] 1 [(1, 2), (1, 1)] (.ln [1, -1, -1, -1, 0, 0] (.sp [1, -1, -1, -1, 0, 0] (.ng [-1, 1, 1, 1, 0, 0] 1 [(1, 0)] (.ng [0, 0, 0, -1, 0, 0] 1 [(1, 7)] (.ln [1, 0, 0, 0, 0, 0] (.ln [-1, 1, 0, 1, 1, 1] (.ln [1, 0, -1, 0, 1, 1] (.ln [0, 0, 0, -1, 0, 0] (.ln [0, 0, 1, 0, -1, 0] (.ps [0, 0, 1, 0, -1, 0] 1 [(1, 2)] (.ng [0, 0, -1, 0, 1, 0] 1 [(1, 2)] (.ps [0, 0, 1, 0, -1, 0] 1 [(1, 2)] (.ln [0, 0, 1, 1, 0, 0] (.ln [0, 0, -1, 0, 1, 1] (.ln [0, 0, 0, 0, 1, 1] (.ln [0, 0, 1, 1, -1, 0] (.ng [0, 0, -1, 0, 1, 1] 1 [(1, 3), (1, 2)] (.ln [1, -1, -1, -1, 0, 0] (.ps [1, -1, -1, -1, 0, 0] 1 [(1, 0)] (.ng [-1, 1, 1, 1, 0, 0] 1 [(1, 0)] (.ng [1, 0, -1, -1, 0, 0] 1 [(2, 7), (1, 4)] (.ln [1, 0, 0, 0, 0, 0] (.ln [-1, 1, 0, 1, 1, 1] (.ln [1, 0, -1, 0, 1, 1] (.ln [1, 0, -1, -1, 0, 0] (.ng [1, 0, -1, -1, 0, 0] 1 [(2, 7), (1, 4)] (.ps [0, 0, 1, 1, -1, 0] 1 [(1, 7), (1, 2)] (.ln [0, 0, 1, 2, -1, 0] (.ps [0, 0, 1, 2, -1, 0] 1 [(2, 7), (1, 2)] (.ng [0, 0, 0, -1, 0, 0] 1 [(1, 7)] (.ps [1, 0, 0, 1, -1, 0] 1 [(1, 1)] (.ln [1, 0, -1, 0, 1, 1] (.ln [0, 0, 0, -1, 0, 0] (.ln [0, 0, 0, 0, 1, 1] (.ln [1, 0, 0, 1, -1, 0] (.fin)))))))))))))))))))))))))))))))))) (.ps [-1, 1, 1, 1, 0, 0] 1 [(1, 0)] (.ng [0, 0, 0, -1, 0, 0] 1 [(1, 7)] (.ln [0, 1, 1, 1, 0, 0] (.ln [0, 0, -1, 0, 1, 1] (.ln [1, 0, -1, 0, 1, 1] (.ln [-1, 1, 1, 0, 0, 0] (.ln [0, 0, 1, 0, -1, 0] (.ps [0, 0, 1, 0, -1, 0] 1 [(1, 2)] (.ng [0, 0, -1, 0, 1, 0] 1 [(1, 2)] (.ps [0, 0, 1, 0, -1, 0] 1 [(1, 2)] (.ln [0, 0, 1, 1, 0, 0] (.ln [0, 0, -1, 0, 1, 1] (.ln [0, 0, 0, 0, 1, 1] (.ln [0, 0, 1, 1, -1, 0] (.ng [0, 0, -1, 0, 1, 1] 1 [(1, 3), (1, 2)] (.ln [1, -1, -1, -1, 0, 0] (.ng [1, -1, -1, -1, 0, 0] 1 [(1, 0)] (.ps [-1, 1, 1, 1, 0, 0] 1 [(1, 0)] (.ng [1, 0, -1, -1, 0, 0] 1 [(2, 7), (1, 4)] (.ln [0, 1, 1, 1, 0, 0] (.ln [0, 0, -1, 0, 1, 1] (.ln [1, 0, -1, 0, 1, 1] (.ln [0, 1, 0, 0, 0, 0] (.ng [0, 1, 0, 0, 0, 0] 1 [(1, 8)] (.ps [0, 0, 1, 1, -1, 0] 1 [(1, 7), (1, 2)] (.ln [1, -1, 0, 1, -1, 0] (.ps [1, -1, 0, 1, -1, 0] 1 [(1, 6), (1, 2)] (.ng [-1, 1, 1, 0, 0, 0] 1 [(1, 5)] (.ps [1, 0, 0, 1, -1, 0] 1 [(1, 1)] (.ln [1, 0, -1, 0, 1, 1] (.ln [-1, 1, 1, 0, 0, 0] (.ln [0, 0, 0, 0, 1, 1] (.ln [1, 0, 0, 1, -1, 0] (.fin)))))))))))))))))))))))))))))))))))))))))) (.ln [1, 0, 0, 1, 0, 0] (.ln [0, 0, -1, 0, 1, 1] (.ln [1, 0, 0, 1, 0, 1] (.ln [1, 0, 0, 1, -1, 0] (.ng [-1, 1, 1, 0, 0, 0] 1 [(1, 4)] (.ng [0, 0, -1, 0, 1, 1] 1 [(1, 2), (1, 1)] (.ln [1, -1, -1, -1, 0, 0] (.sp [1, -1, -1, -1, 0, 0] (.ng [-1, 1, 1, 1, 0, 0] 1 [(1, 0)] (.ng [0, 0, 0, -1, 0, 0] 1 [(1, 7)] (.ln [1, 0, 0, 0, 0, 0] (.ln [-1, 1, 0, 1, 1, 1] (.ln [1, 0, -1, 0, 1, 1] (.ln [0, 0, 0, -1, 0, 0] (.ln [0, 0, 1, 0, -1, 0] (.ps [0, 0, 1, 0, -1, 0] 1 [(1, 2)] (.ng [0, 0, -1, 0, 1, 0] 1 [(1, 2)] (.ps [0, 0, 1, 0, -1, 0] 1 [(1, 2)] (.ln [0, 0, 1, 1, 0, 0] (.ln [0, 0, -1, 0, 1, 1] (.ln [0, 0, 0, 0, 1, 1] (.ln [0, 0, 1, 1, -1, 0] (.ng [0, 0, -1, 0, 1, 1] 1 [(1, 3), (1, 2)] (.ln [1, -1, -1, -1, 0, 0] (.ps [1, -1, -1, -1, 0, 0] 1 [(1, 0)] (.ng [-1, 1, 1, 1, 0, 0] 1 [(1, 0)] (.ng [1, 0, -1, -1, 0, 0] 1 [(2, 7), (1, 4)] (.ln [1, 0, 0, 0, 0, 0] (.ln [-1, 1, 0, 1, 1, 1] (.ln [1, 0, -1, 0, 1, 1] (.ln [1, 0, -1, -1, 0, 0] (.ng [1, 0, -1, -1, 0, 0] 1 [(2, 7), (1, 4)] (.ps [0, 0, 1, 1, -1, 0] 1 [(1, 7), (1, 2)] (.ln [0, 0, 1, 2, -1, 0] (.ps [0, 0, 1, 2, -1, 0] 1 [(2, 7), (1, 2)] (.ng [0, 0, 0, -1, 0, 0] 1 [(1, 7)] (.ng [1, 0, 0, 1, -1, 0] 1 [(1, 1)] (.ln [1, 0, -1, 0, 1, 1] (.ln [0, 0, 0, -1, 0, 0] (.ln [1, 0, 0, 1, 0, 1] (.ln [1, 0, 0, 1, -1, 0] (.fin)))))))))))))))))))))))))))))))))) (.ps [-1, 1, 1, 1, 0, 0] 1 [(1, 0)] (.ng [0, 0, 0, -1, 0, 0] 1 [(1, 7)] (.ln [0, 1, 1, 1, 0, 0] (.ln [0, 0, -1, 0, 1, 1] (.ln [1, 0, -1, 0, 1, 1] (.ln [-1, 1, 1, 0, 0, 0] (.ln [0, 0, 1, 0, -1, 0] (.ps [0, 0, 1, 0, -1, 0] 1 [(1, 2)] (.ng [0, 0, -1, 0, 1, 0] 1 [(1, 2)] (.ps [0, 0, 1, 0, -1, 0] 1 [(1, 2)] (.ln [0, 0, 1, 1, 0, 0] (.ln [0, 0, -1, 0, 1, 1] (.ln [0, 0, 0, 0, 1, 1] (.ln [0, 0, 1, 1, -1, 0] (.ng [0, 0, -1, 0, 1, 1] 1 [(1, 3), (1, 2)] (.ln [1, -1, -1, -1, 0, 0] (.ng [1, -1, -1, -1, 0, 0] 1 [(1, 0)] (.ps [-1, 1, 1, 1, 0, 0] 1 [(1, 0)] (.ng [1, 0, -1, -1, 0, 0] 1 [(2, 7), (1, 4)] (.ln [0, 1, 1, 1, 0, 0] (.ln [0, 0, -1, 0, 1, 1] (.ln [1, 0, -1, 0, 1, 1] (.ln [0, 1, 0, 0, 0, 0] (.ng [0, 1, 0, 0, 0, 0] 1 [(1, 8)] (.ps [0, 0, 1, 1, -1, 0] 1 [(1, 7), (1, 2)] (.ln [1, -1, 0, 1, -1, 0] (.ps [1, -1, 0, 1, -1, 0] 1 [(1, 6), (1, 2)] (.ng [-1, 1, 1, 0, 0, 0] 1 [(1, 5)] (.ng [1, 0, 0, 1, -1, 0] 1 [(1, 1)] (.ln [1, 0, -1, 0, 1, 1] (.ln [-1, 1, 1, 0, 0, 0] (.ln [1, 0, 0, 1, 0, 1] (.ln [1, 0, 0, 1, -1, 0] (.fin)))))))))))))))))))))))))))))))))))))))))))) (.ps [0, 0, -1, 0, 1, 0] 1 [(1, 0)] (.ng [1, 0, 0, 1, -1, 0] 1 [(1, 2), (1, 0)] (.ln [1, 0, -1, 1, 1, 0] (.ln [0, 0, 0, 0, 0, 1] (.ln [1, 0, 0, 1, 0, 1] (.ln [1, 0, -1, 1, 0, 0] (.ng [-1, 1, 1, 0, 0, 0] 1 [(1, 3)] (.ng [0, 0, 0, 0, 0, 1] 1 [(1, 1)] (.ln [1, -1, 0, -1, -1, 0] (.sp [1, -1, 0, -1, -1, 0] (.ng [-1, 1, 0, 1, 1, 0] 1 [(1, 0)] (.ng [0, 0, 1, -1, -1, 0] 1 [(1, 6), (1, 1)] (.ln [1, 0, 0, 0, 0, 0] (.ln [-1, 1, 0, 1, 1, 1] (.ln [1, 0, 0, 0, 0, 1] (.ln [0, 0, 1, -1, -1, 0] (.ln [0, 0, 1, 0, -1, 0] (.ng [0, 0, 1, 0, -1, 0] 1 [(1, 1)] (.ps [0, 0, -1, 0, 1, 0] 1 [(1, 1)] (.ng [0, 0, 1, 0, -1, 0] 1 [(1, 1)] (.ln [0, 0, 0, 1, 1, 0] (.ln [0, 0, 0, 0, 0, 1] (.ln [0, 0, 1, 0, 0, 1] (.ln [0, 0, 0, 1, 0, 0] (.ng [0, 0, 0, 0, 0, 1] 1 [(1, 2)] (.ln [1, -1, 0, -1, -1, 0] (.ps [1, -1, 0, -1, -1, 0] 1 [(1, 0)] (.ng [-1, 1, 0, 1, 1, 0] 1 [(1, 0)] (.ng [1, 0, 0, -1, -1, 0] 1 [(2, 6), (1, 3), (1, 1)] (.ln [1, 0, 0, 0, 0, 0] (.ln [-1, 1, 0, 1, 1, 1] (.ln [1, 0, 0, 0, 0, 1] (.ln [1, 0, 0, -1, -1, 0] (.ng [1, 0, 0, -1, -1, 0] 1 [(2, 6), (1, 3), (1, 1)] (.ps [0, 0, 0, 1, 0, 0] 1 [(1, 6)] (.ln [0, 0, -1, 2, 1, 0] (.ps [0, 0, -1, 2, 1, 0] 1 [(2, 6), (1, 1)] (.ng [0, 0, 1, -1, -1, 0] 1 [(1, 6), (1, 1)] (.ng [1, 0, -1, 1, 0, 0] 1 [(1, 3)] (.ln [1, 0, 0, 0, 0, 1] (.ln [0, 0, 1, -1, -1, 0] (.ln [1, 0, 0, 1, 0, 1] (.ln [1, 0, -1, 1, 0, 0] (.fin)))))))))))))))))))))))))))))))))) (.ps [-1, 1, 0, 1, 1, 0] 1 [(1, 0)] (.ng [0, 0, 1, -1, -1, 0] 1 [(1, 6), (1, 1)] (.ln [0, 1, 0, 1, 1, 0] (.ln [0, 0, 0, 0, 0, 1] (.ln [1, 0, 0, 0, 0, 1] (.ln [-1, 1, 1, 0, 0, 0] (.ln [0, 0, 1, 0, -1, 0] (.ng [0, 0, 1, 0, -1, 0] 1 [(1, 1)] (.ps [0, 0, -1, 0, 1, 0] 1 [(1, 1)] (.ng [0, 0, 1, 0, -1, 0] 1 [(1, 1)] (.ln [0, 0, 0, 1, 1, 0] (.ln [0, 0, 0, 0, 0, 1] (.ln [0, 0, 1, 0, 0, 1] (.ln [0, 0, 0, 1, 0, 0] (.ng [0, 0, 0, 0, 0, 1] 1 [(1, 2)] (.ln [1, -1, 0, -1, -1, 0] (.ng [1, -1, 0, -1, -1, 0] 1 [(1, 0)] (.ps [-1, 1, 0, 1, 1, 0] 1 [(1, 0)] (.ng [1, 0, 0, -1, -1, 0] 1 [(2, 6), (1, 3), (1, 1)] (.ln [0, 1, 0, 1, 1, 0] (.ln [0, 0, 0, 0, 0, 1] (.ln [1, 0, 0, 0, 0, 1] (.ln [0, 1, 0, 0, 0, 0] (.ng [0, 1, 0, 0, 0, 0] 1 [(1, 7)] (.ps [0, 0, 0, 1, 0, 0] 1 [(1, 6)] (.ln [1, -1, -1, 1, 0, 0] (.ps [1, -1, -1, 1, 0, 0] 1 [(1, 5)] (.ng [-1, 1, 1, 0, 0, 0] 1 [(1, 4)] (.ng [1, 0, -1, 1, 0, 0] 1 [(1, 3)] (.ln [1, 0, 0, 0, 0, 1] (.ln [-1, 1, 1, 0, 0, 0] (.ln [1, 0, 0, 1, 0, 1] (.ln [1, 0, -1, 1, 0, 0] (.fin)))))))))))))))))))))))))))))))))))))))))))))))))))))) (.ps [-1, 1, 1, 0, 0, 0] 1 [(1, 1), (1, 0)] (.ng [1, 0, -1, 1, 0, 0] 1 [(1, 2), (1, 0)] (.ln [0, 1, 1, 0, 0, 0] (.ln [0, 0, 0, 1, 0, 0] (.ln [1, 0, 0, 1, 0, 0] (.ln [0, 1, 0, 0, 0, 0] (.ng [0, 1, 0, 0, 0, 0] 1 [(1, 2)] (.sp [0, 0, 0, 0, 0, 1] (.ln [1, -1, 0, 1, -1, 1] (.sp [1, -1, 0, 1, -1, 1] (.sp [-1, 1, 0, -1, 1, 0] (.sp [1, 0, 0, 1, -1, 1] (.ln [0, 1, 0, 0, 1, 0] (.ln [-1, 1, 0, -1, 1, 0] (.ln [0, 0, 0, 0, 1, 0] (.ln [1, 0, 0, 1, -1, 1] (.ps [0, 0, 0, 1, 0, 0] 1 [(1, 5)] (.ps [-1, 1, 0, -1, 1, 0] 1 [(1, 1)] (.ln [-1, 1, 1, -1, 0, 0] (.ps [-1, 1, 1, -1, 0, 0] 1 [(1, 4)] (.sp [0, 0, -1, 0, 1, 0] (.ps [-1, 1, 1, -1, 0, 0] 1 [(1, 5)] (.ln [0, 1, 0, 1, 1, 0] (.ln [0, 0, -1, 0, 1, 0] (.ln [0, 1, 0, 0, 1, 0] (.ln [-1, 1, 1, 0, 0, 0] (.ln [0, 0, 1, 0, -1, 1] (.ps [0, 0, 1, 0, -1, 1] 1 [(1, 5), (1, 3)] (.ps [0, 0, -1, 0, 1, 0] 1 [(1, 0)] (.ps [0, 0, 1, 0, -1, 1] 1 [(1, 5), (1, 3)] (.ln [0, 0, 0, 1, 1, 0] (.ln [0, 0, -1, 0, 1, 0] (.ln [0, 0, 0, 0, 1, 0] (.ln [0, 0, 1, 1, -1, 1] (.ps [0, 0, -1, 0, 1, 0] 1 [(1, 0)] (.ln [1, -1, -1, -1, 0, 0] (.ng [1, -1, -1, -1, 0, 0] 1 [(2, 6), (1, 5)] (.ps [-1, 1, 0, 1, 1, 0] 1 [(2, 6), (1, 2)] (.ng [1, 0, -1, -1, 0, 0] 1 [(1, 7), (2, 6), (1, 5)] (.ln [0, 1, 0, 1, 1, 0] (.ln [0, 0, -1, 0, 1, 0] (.ln [1, 0, -1, 0, 1, 0] (.ln [0, 1, 0, 0, 0, 0] (.ng [0, 1, 0, 0, 0, 0] 1 [(1, 7)] (.ps [0, 0, 1, 1, -1, 1] 1 [(1, 6), (1, 5), (1, 3)] (.ln [1, -1, 0, 1, -1, 1] (.ps [1, -1, 0, 1, -1, 1] 1 [(1, 3)] (.ps [-1, 1, 1, 0, 0, 0] 1 [(1, 6), (1, 5)] (.ps [1, 0, 0, 1, -1, 1] 1 [(1, 1)] (.ln [0, 1, 0, 0, 1, 0] (.ln [-1, 1, 1, 0, 0, 0] (.ln [0, 0, 0, 0, 1, 0] (.ln [1, 0, 0, 1, -1, 1] (.fin))))))))))))))))))))))))))))))))) (.ps [-1, 1, 1, -1, 0, 0] 1 [(1, 5)] (.ln [0, 1, 1, 1, 0, 0] (.ln [0, 0, -1, 0, 1, 0] (.ln [0, 1, 0, 0, 1, 0] (.ln [-1, 1, 1, 0, 0, 0] (.ln [0, 0, 1, 0, -1, 1] (.ps [0, 0, 1, 0, -1, 1] 1 [(1, 5), (1, 3)] (.ng [0, 0, -1, 0, 1, 0] 1 [(1, 0)] (.ps [0, 0, 1, 0, -1, 1] 1 [(1, 5), (1, 3)] (.ln [0, 0, 1, 1, 0, 0] (.ln [0, 0, -1, 0, 1, 0] (.ln [0, 0, 0, 0, 1, 0] (.ln [0, 0, 1, 1, -1, 1] (.ng [0, 0, -1, 0, 1, 0] 1 [(1, 0)] (.ln [1, -1, -1, -1, 0, 0] (.ng [1, -1, -1, -1, 0, 0] 1 [(2, 6), (1, 5)] (.ps [-1, 1, 1, 1, 0, 0] 1 [(2, 6), (1, 5)] (.ng [1, 0, -1, -1, 0, 0] 1 [(1, 7), (2, 6), (1, 5)] (.ln [0, 1, 1, 1, 0, 0] (.ln [0, 0, -1, 0, 1, 0] (.ln [1, 0, -1, 0, 1, 0] (.ln [0, 1, 0, 0, 0, 0] (.ng [0, 1, 0, 0, 0, 0] 1 [(1, 7)] (.ps [0, 0, 1, 1, -1, 1] 1 [(1, 6), (1, 5), (1, 3)] (.ln [1, -1, 0, 1, -1, 1] (.ps [1, -1, 0, 1, -1, 1] 1 [(1, 3)] (.ps [-1, 1, 1, 0, 0, 0] 1 [(1, 6), (1, 5)] (.ps [1, 0, 0, 1, -1, 1] 1 [(1, 1)] (.ln [0, 1, 0, 0, 1, 0] (.ln [-1, 1, 1, 0, 0, 0] (.ln [0, 0, 0, 0, 1, 0] (.ln [1, 0, 0, 1, -1, 1] (.fin)))))))))))))))))))))))))))))))))))))))))) (.ln [0, 1, 0, 0, 1, 0] (.ln [-1, 1, 0, -1, 1, 0] (.ln [1, 0, 0, 1, 0, 1] (.ln [1, 0, 0, 1, -1, 1] (.ps [0, 0, 0, 1, 0, 0] 1 [(1, 5)] (.ps [-1, 1, 0, -1, 1, 0] 1 [(1, 1)] (.ln [-1, 1, 1, -1, 0, 0] (.ps [-1, 1, 1, -1, 0, 0] 1 [(1, 4)] (.sp [0, 0, -1, 0, 1, 0] (.ps [-1, 1, 1, -1, 0, 0] 1 [(1, 5)] (.ln [0, 1, 0, 1, 1, 0] (.ln [0, 0, -1, 0, 1, 0] (.ln [0, 1, 0, 0, 1, 0] (.ln [-1, 1, 1, 0, 0, 0] (.ln [0, 0, 1, 0, -1, 1] (.ps [0, 0, 1, 0, -1, 1] 1 [(1, 5), (1, 3)] (.ps [0, 0, -1, 0, 1, 0] 1 [(1, 0)] (.ps [0, 0, 1, 0, -1, 1] 1 [(1, 5), (1, 3)] (.ln [0, 0, 0, 1, 1, 0] (.ln [0, 0, -1, 0, 1, 0] (.ln [0, 0, 0, 0, 1, 0] (.ln [0, 0, 1, 1, -1, 1] (.ps [0, 0, -1, 0, 1, 0] 1 [(1, 0)] (.ln [1, -1, -1, -1, 0, 0] (.ng [1, -1, -1, -1, 0, 0] 1 [(2, 6), (1, 5)] (.ps [-1, 1, 0, 1, 1, 0] 1 [(2, 6), (1, 2)] (.ng [1, 0, -1, -1, 0, 0] 1 [(1, 7), (2, 6), (1, 5)] (.ln [0, 1, 0, 1, 1, 0] (.ln [0, 0, -1, 0, 1, 0] (.ln [1, 0, -1, 0, 1, 0] (.ln [0, 1, 0, 0, 0, 0] (.ng [0, 1, 0, 0, 0, 0] 1 [(1, 7)] (.ps [0, 0, 1, 1, -1, 1] 1 [(1, 6), (1, 5), (1, 3)] (.ln [1, -1, 0, 1, -1, 1] (.ps [1, -1, 0, 1, -1, 1] 1 [(1, 3)] (.ps [-1, 1, 1, 0, 0, 0] 1 [(1, 6), (1, 5)] (.ng [1, 0, 0, 1, -1, 1] 1 [(1, 1)] (.ln [0, 1, 0, 0, 1, 0] (.ln [-1, 1, 1, 0, 0, 0] (.ln [1, 0, 0, 1, 0, 1] (.ln [1, 0, 0, 1, -1, 1] (.fin))))))))))))))))))))))))))))))))) (.ps [-1, 1, 1, -1, 0, 0] 1 [(1, 5)] (.ln [0, 1, 1, 1, 0, 0] (.ln [0, 0, -1, 0, 1, 0] (.ln [0, 1, 0, 0, 1, 0] (.ln [-1, 1, 1, 0, 0, 0] (.ln [0, 0, 1, 0, -1, 1] (.ps [0, 0, 1, 0, -1, 1] 1 [(1, 5), (1, 3)] (.ng [0, 0, -1, 0, 1, 0] 1 [(1, 0)] (.ps [0, 0, 1, 0, -1, 1] 1 [(1, 5), (1, 3)] (.ln [0, 0, 1, 1, 0, 0] (.ln [0, 0, -1, 0, 1, 0] (.ln [0, 0, 0, 0, 1, 0] (.ln [0, 0, 1, 1, -1, 1] (.ng [0, 0, -1, 0, 1, 0] 1 [(1, 0)] (.ln [1, -1, -1, -1, 0, 0] (.ng [1, -1, -1, -1, 0, 0] 1 [(2, 6), (1, 5)] (.ps [-1, 1, 1, 1, 0, 0] 1 [(2, 6), (1, 5)] (.ng [1, 0, -1, -1, 0, 0] 1 [(1, 7), (2, 6), (1, 5)] (.ln [0, 1, 1, 1, 0, 0] (.ln [0, 0, -1, 0, 1, 0] (.ln [1, 0, -1, 0, 1, 0] (.ln [0, 1, 0, 0, 0, 0] (.ng [0, 1, 0, 0, 0, 0] 1 [(1, 7)] (.ps [0, 0, 1, 1, -1, 1] 1 [(1, 6), (1, 5), (1, 3)] (.ln [1, -1, 0, 1, -1, 1] (.ps [1, -1, 0, 1, -1, 1] 1 [(1, 3)] (.ps [-1, 1, 1, 0, 0, 0] 1 [(1, 6), (1, 5)] (.ng [1, 0, 0, 1, -1, 1] 1 [(1, 1)] (.ln [0, 1, 0, 0, 1, 0] (.ln [-1, 1, 1, 0, 0, 0] (.ln [1, 0, 0, 1, 0, 1] (.ln [1, 0, 0, 1, -1, 1] (.fin))))))))))))))))))))))))))))))))))))))))))) (.sp [1, 0, 0, 1, -1, 1] (.ln [1, 0, 0, 1, 0, 0] (.ln [-1, 1, 0, -1, 1, 0] (.ln [0, 0, 0, 0, 1, 0] (.ln [1, 0, 0, 1, -1, 1] (.ps [0, 0, 0, 1, 0, 0] 1 [(1, 5)] (.ng [-1, 1, 0, -1, 1, 0] 1 [(1, 1)] (.ln [-1, 1, 1, -1, 0, 0] (.ps [-1, 1, 1, -1, 0, 0] 1 [(1, 4)] (.ng [1, -1, -1, 1, 0, 0] 1 [(1, 4)] (.ps [-1, 1, 1, -1, 0, 0] 1 [(1, 4)] (.ln [0, 1, 1, 1, 0, 0] (.ln [0, 0, -1, 0, 1, 0] (.ln [0, 1, 0, 0, 1, 0] (.ln [-1, 1, 1, 0, 0, 0] (.ln [0, 0, 1, 0, -1, 1] (.ps [0, 0, 1, 0, -1, 1] 1 [(1, 4), (1, 2)] (.ng [0, 0, -1, 0, 1, 0] 1 [(1, 4), (1, 1)] (.ps [0, 0, 1, 0, -1, 1] 1 [(1, 4), (1, 2)] (.ln [0, 0, 1, 1, 0, 0] (.ln [0, 0, -1, 0, 1, 0] (.ln [0, 0, 0, 0, 1, 0] (.ln [0, 0, 1, 1, -1, 1] (.ng [0, 0, -1, 0, 1, 0] 1 [(1, 4), (1, 1)] (.ln [1, -1, -1, -1, 0, 0] (.ng [1, -1, -1, -1, 0, 0] 1 [(2, 5), (1, 4)] (.ps [-1, 1, 1, 1, 0, 0] 1 [(2, 5), (1, 4)] (.ng [1, 0, -1, -1, 0, 0] 1 [(1, 6), (2, 5), (1, 4)] (.ln [0, 1, 1, 1, 0, 0] (.ln [0, 0, -1, 0, 1, 0] (.ln [1, 0, -1, 0, 1, 0] (.ln [0, 1, 0, 0, 0, 0] (.ng [0, 1, 0, 0, 0, 0] 1 [(1, 6)] (.ps [0, 0, 1, 1, -1, 1] 1 [(1, 5), (1, 4), (1, 2)] (.ln [1, -1, 0, 1, -1, 1] (.ps [1, -1, 0, 1, -1, 1] 1 [(1, 2)] (.ps [-1, 1, 1, 0, 0, 0] 1 [(1, 5), (1, 4)] (.ps [1, 0, 0, 1, -1, 1] 1 [(1, 0)] (.ln [0, 1, 0, 0, 1, 0] (.ln [-1, 1, 1, 0, 0, 0] (.ln [0, 0, 0, 0, 1, 0] (.ln [1, 0, 0, 1, -1, 1] (.fin)))))))))))))))))))))))))))))))))))))))))) (.ln [1, 0, 0, 1, 0, 0] (.ln [-1, 1, 0, -1, 1, 0] (.ln [1, 0, 0, 1, 0, 1] (.ln [1, 0, 0, 1, -1, 1] (.ps [0, 0, 0, 1, 0, 0] 1 [(1, 5)] (.ng [-1, 1, 0, -1, 1, 0] 1 [(1, 1)] (.ln [-1, 1, 1, -1, 0, 0] (.ps [-1, 1, 1, -1, 0, 0] 1 [(1, 4)] (.ng [1, -1, -1, 1, 0, 0] 1 [(1, 4)] (.ps [-1, 1, 1, -1, 0, 0] 1 [(1, 4)] (.ln [0, 1, 1, 1, 0, 0] (.ln [0, 0, -1, 0, 1, 0] (.ln [0, 1, 0, 0, 1, 0] (.ln [-1, 1, 1, 0, 0, 0] (.ln [0, 0, 1, 0, -1, 1] (.ps [0, 0, 1, 0, -1, 1] 1 [(1, 4), (1, 2)] (.ng [0, 0, -1, 0, 1, 0] 1 [(1, 4), (1, 1)] (.ps [0, 0, 1, 0, -1, 1] 1 [(1, 4), (1, 2)] (.ln [0, 0, 1, 1, 0, 0] (.ln [0, 0, -1, 0, 1, 0] (.ln [0, 0, 0, 0, 1, 0] (.ln [0, 0, 1, 1, -1, 1] (.ng [0, 0, -1, 0, 1, 0] 1 [(1, 4), (1, 1)] (.ln [1, -1, -1, -1, 0, 0] (.ng [1, -1, -1, -1, 0, 0] 1 [(2, 5), (1, 4)] (.ps [-1, 1, 1, 1, 0, 0] 1 [(2, 5), (1, 4)] (.ng [1, 0, -1, -1, 0, 0] 1 [(1, 6), (2, 5), (1, 4)] (.ln [0, 1, 1, 1, 0, 0] (.ln [0, 0, -1, 0, 1, 0] (.ln [1, 0, -1, 0, 1, 0] (.ln [0, 1, 0, 0, 0, 0] (.ng [0, 1, 0, 0, 0, 0] 1 [(1, 6)] (.ps [0, 0, 1, 1, -1, 1] 1 [(1, 5), (1, 4), (1, 2)] (.ln [1, -1, 0, 1, -1, 1] (.ps [1, -1, 0, 1, -1, 1] 1 [(1, 2)] (.ps [-1, 1, 1, 0, 0, 0] 1 [(1, 5), (1, 4)] (.ng [1, 0, 0, 1, -1, 1] 1 [(1, 0)] (.ln [0, 1, 0, 0, 1, 0] (.ln [-1, 1, 1, 0, 0, 0] (.ln [1, 0, 0, 1, 0, 1] (.ln [1, 0, 0, 1, -1, 1] (.fin)))))))))))))))))))))))))))))))))))))))))))) (.ps [-1, 1, 0, -1, 1, 0] 1 [(1, 1), (1, 0)] (.ng [1, 0, 0, 1, -1, 1] 1 [(1, 4), (1, 0)] (.ln [0, 1, 0, 0, 1, 0] (.ln [0, 0, 0, 0, 0, 1] (.ln [1, 0, 0, 1, 0, 1] (.ln [0, 1, 0, 0, 0, 0] (.ps [0, 0, 0, 1, 0, 0] 1 [(1, 3)] (.ps [0, 0, 0, 0, 0, 1] 1 [(1, 1)] (.ln [0, 0, 1, 0, -1, 1] (.sp [0, 0, 1, 0, -1, 1] (.sp [0, 0, -1, 0, 1, 0] (.ps [0, 0, 1, 0, -1, 1] 1 [(1, 1)] (.ln [0, 1, 0, 1, 1, 0] (.ln [0, 0, -1, 0, 1, 0] (.ln [0, 1, 0, 0, 1, 0] (.ln [0, 0, 1, 1, -1, 1] (.ln [0, 0, 1, 0, -1, 1] (.ps [0, 0, 1, 0, -1, 1] 1 [(1, 1)] (.ps [0, 0, -1, 0, 1, 0] 1 [(1, 0)] (.ps [0, 0, 1, 0, -1, 1] 1 [(1, 1)] (.ln [0, 0, 0, 1, 1, 0] (.ln [0, 0, -1, 0, 1, 0] (.ln [0, 0, 0, 0, 1, 0] (.ln [0, 0, 1, 1, -1, 1] (.ps [0, 0, -1, 0, 1, 0] 1 [(1, 0)] (.ln [1, -1, -1, -1, 0, 0] (.ng [1, -1, -1, -1, 0, 0] 1 [(2, 5), (1, 4)] (.ps [-1, 1, 0, 1, 1, 0] 1 [(2, 5), (1, 3), (1, 2)] (.ng [1, 0, -1, -1, 0, 0] 1 [(1, 6), (2, 5), (1, 4)] (.ln [0, 1, 0, 1, 1, 0] (.ln [0, 0, -1, 0, 1, 0] (.ln [1, 0, -1, 0, 1, 0] (.ln [0, 1, 0, 0, 0, 0] (.ng [0, 1, 0, 0, 0, 0] 1 [(1, 6)] (.ps [0, 0, 1, 1, -1, 1] 1 [(1, 5), (1, 1)] (.ln [1, -1, 0, 1, -1, 1] (.ng [1, -1, 0, 1, -1, 1] 1 [(1, 2)] (.ps [-1, 1, 1, 0, 0, 0] 1 [(1, 5), (1, 4)] (.ng [1, 0, 0, 1, -1, 1] 1 [(1, 6), (1, 2)] (.ln [0, 1, 0, 0, 1, 0] (.ln [0, 0, 1, 1, -1, 1] (.ln [1, 0, 0, 1, 0, 1] (.ln [0, 1, 0, 0, 0, 0] (.fin))))))))))))))))))))))))))))))))) (.ps [0, 0, 1, 0, -1, 1] 1 [(1, 1)] (.ln [0, 1, 1, 1, 0, 0] (.ln [0, 0, -1, 0, 1, 0] (.ln [0, 1, 0, 0, 1, 0] (.ln [0, 0, 1, 1, -1, 1] (.ln [0, 0, 1, 0, -1, 1] (.ps [0, 0, 1, 0, -1, 1] 1 [(1, 1)] (.ng [0, 0, -1, 0, 1, 0] 1 [(1, 0)] (.ps [0, 0, 1, 0, -1, 1] 1 [(1, 1)] (.ln [0, 0, 1, 1, 0, 0] (.ln [0, 0, -1, 0, 1, 0] (.ln [0, 0, 0, 0, 1, 0] (.ln [0, 0, 1, 1, -1, 1] (.ng [0, 0, -1, 0, 1, 0] 1 [(1, 0)] (.ln [1, -1, -1, -1, 0, 0] (.ng [1, -1, -1, -1, 0, 0] 1 [(2, 5), (1, 4)] (.ps [-1, 1, 1, 1, 0, 0] 1 [(2, 5), (1, 4)] (.ng [1, 0, -1, -1, 0, 0] 1 [(1, 6), (2, 5), (1, 4)] (.ln [0, 1, 1, 1, 0, 0] (.ln [0, 0, -1, 0, 1, 0] (.ln [1, 0, -1, 0, 1, 0] (.ln [0, 1, 0, 0, 0, 0] (.ng [0, 1, 0, 0, 0, 0] 1 [(1, 6)] (.ps [0, 0, 1, 1, -1, 1] 1 [(1, 5), (1, 1)] (.ln [1, -1, 0, 1, -1, 1] (.ng [1, -1, 0, 1, -1, 1] 1 [(1, 2)] (.ps [-1, 1, 1, 0, 0, 0] 1 [(1, 5), (1, 4)] (.ng [1, 0, 0, 1, -1, 1] 1 [(1, 6), (1, 2)] (.ln [0, 1, 0, 0, 1, 0] (.ln [0, 0, 1, 1, -1, 1] (.ln [1, 0, 0, 1, 0, 1] (.ln [0, 1, 0, 0, 0, 0] (.fin)))))))))))))))))))))))))))))))))) (.ps [0, 0, -1, 0, 1, 0] 1 [(1, 2), (1, 0)] (.ng [0, 0, 1, 0, -1, 1] 1 [(1, 0)] (.ln [0, 1, 0, 1, 1, 0] (.ln [0, 0, 0, 0, 0, 1] (.ln [0, 1, 1, 0, 0, 1] (.ln [0, 0, 0, 1, 0, 0] (.ln [0, 0, 1, 0, -1, 1] (.ng [0, 0, 1, 0, -1, 1] 1 [(1, 0)] (.ps [0, 0, -1, 0, 1, 0] 1 [(1, 2), (1, 0)] (.ng [0, 0, 1, 0, -1, 1] 1 [(1, 0)] (.ln [0, 0, 0, 1, 1, 0] (.ln [0, 0, 0, 0, 0, 1] (.ln [0, 0, 1, 0, 0, 1] (.ln [0, 0, 0, 1, 0, 0] (.ps [0, 0, 0, 0, 0, 1] 1 [(1, 2)] (.ln [1, -1, 0, -1, -1, 1] (.ng [1, -1, 0, -1, -1, 1] 1 [(2, 4), (1, 1)] (.ps [-1, 1, 0, 1, 1, 0] 1 [(2, 4), (1, 2), (1, 1)] (.ng [1, 0, 0, -1, -1, 1] 1 [(1, 5), (2, 4), (1, 1)] (.ln [0, 1, 0, 1, 1, 0] (.ln [0, 0, 0, 0, 0, 1] (.ln [1, 0, 0, 0, 0, 1] (.ln [0, 1, 0, 0, 0, 0] (.ng [0, 1, 0, 0, 0, 0] 1 [(1, 5)] (.ps [0, 0, 0, 1, 0, 0] 1 [(1, 4)] (.ln [1, -1, -1, 1, 0, 0] (.ng [1, -1, -1, 1, 0, 0] 1 [(1, 3)] (.ps [-1, 1, 1, 0, 0, 0] 1 [(1, 4), (1, 3)] (.ng [1, 0, -1, 1, 0, 0] 1 [(1, 5), (1, 3)] (.ln [0, 1, 1, 0, 0, 1] (.ln [0, 0, 0, 1, 0, 0] (.ln [1, 0, 0, 1, 0, 1] (.ln [0, 1, 0, 0, 0, 0] (.fin)))))))))))))))))))))))))))))))))))))))))))))) (.ln [1, -1, 0, 1, -1, 0] (.sp [1, -1, 0, 1, -1, 0] (.ng [-1, 1, 0, -1, 1, 0] 1 [(1, 0)] (.sp [1, 0, 0, 1, -1, 0] (.ln [1, 0, 0, 1, 0, 0] (.ln [-1, 1, 0, -1, 1, 1] (.ln [0, 0, 0, 0, 1, 1] (.ln [1, 0, 0, 1, -1, 0] (.ps [0, 0, 0, 1, 0, 0] 1 [(1, 4)] (.ng [-1, 1, 0, -1, 1, 1] 1 [(1, 2), (1, 1)] (.ln [-1, 1, 1, -1, 0, 0] (.ps [-1, 1, 1, -1, 0, 0] 1 [(1, 3)] (.ng [1, -1, -1, 1, 0, 0] 1 [(1, 3)] (.ps [-1, 1, 1, -1, 0, 0] 1 [(1, 3)] (.ln [0, 1, 1, 1, 0, 0] (.ln [0, 0, -1, 0, 1, 1] (.ln [0, 1, 0, 0, 1, 1] (.ln [-1, 1, 1, 0, 0, 0] (.ln [0, 0, 1, 0, -1, 0] (.ps [0, 0, 1, 0, -1, 0] 1 [(1, 3), (1, 1)] (.ng [0, 0, -1, 0, 1, 0] 1 [(1, 3), (1, 1)] (.ps [0, 0, 1, 0, -1, 0] 1 [(1, 3), (1, 1)] (.ln [0, 0, 1, 1, 0, 0] (.ln [0, 0, -1, 0, 1, 1] (.ln [0, 0, 0, 0, 1, 1] (.ln [0, 0, 1, 1, -1, 0] (.ng [0, 0, -1, 0, 1, 1] 1 [(1, 3), (1, 2), (1, 1)] (.ln [1, -1, -1, -1, 0, 0] (.ng [1, -1, -1, -1, 0, 0] 1 [(2, 4), (1, 3)] (.ps [-1, 1, 1, 1, 0, 0] 1 [(2, 4), (1, 3)] (.ng [1, 0, -1, -1, 0, 0] 1 [(1, 5), (2, 4), (1, 3)] (.ln [0, 1, 1, 1, 0, 0] (.ln [0, 0, -1, 0, 1, 1] (.ln [1, 0, -1, 0, 1, 1] (.ln [0, 1, 0, 0, 0, 0] (.ng [0, 1, 0, 0, 0, 0] 1 [(1, 5)] (.ps [0, 0, 1, 1, -1, 0] 1 [(1, 4), (1, 3), (1, 1)] (.ln [1, -1, 0, 1, -1, 0] (.ps [1, -1, 0, 1, -1, 0] 1 [(1, 1)] (.ps [-1, 1, 1, 0, 0, 0] 1 [(1, 4), (1, 3)] (.ps [1, 0, 0, 1, -1, 0] 1 [(1, 0)] (.ln [0, 1, 0, 0, 1, 1] (.ln [-1, 1, 1, 0, 0, 0] (.ln [0, 0, 0, 0, 1, 1] (.ln [1, 0, 0, 1, -1, 0] (.fin)))))))))))))))))))))))))))))))))))))))))) (.ln [1, 0, 0, 1, 0, 0] (.ln [-1, 1, 0, -1, 1, 1] (.ln [1, 0, 0, 1, 0, 1] (.ln [1, 0, 0, 1, -1, 0] (.ps [0, 0, 0, 1, 0, 0] 1 [(1, 4)] (.ng [-1, 1, 0, -1, 1, 1] 1 [(1, 2), (1, 1)] (.ln [-1, 1, 1, -1, 0, 0] (.ps [-1, 1, 1, -1, 0, 0] 1 [(1, 3)] (.ng [1, -1, -1, 1, 0, 0] 1 [(1, 3)] (.ps [-1, 1, 1, -1, 0, 0] 1 [(1, 3)] (.ln [0, 1, 1, 1, 0, 0] (.ln [0, 0, -1, 0, 1, 1] (.ln [0, 1, 0, 0, 1, 1] (.ln [-1, 1, 1, 0, 0, 0] (.ln [0, 0, 1, 0, -1, 0] (.ps [0, 0, 1, 0, -1, 0] 1 [(1, 3), (1, 1)] (.ng [0, 0, -1, 0, 1, 0] 1 [(1, 3), (1, 1)] (.ps [0, 0, 1, 0, -1, 0] 1 [(1, 3), (1, 1)] (.ln [0, 0, 1, 1, 0, 0] (.ln [0, 0, -1, 0, 1, 1] (.ln [0, 0, 0, 0, 1, 1] (.ln [0, 0, 1, 1, -1, 0] (.ng [0, 0, -1, 0, 1, 1] 1 [(1, 3), (1, 2), (1, 1)] (.ln [1, -1, -1, -1, 0, 0] (.ng [1, -1, -1, -1, 0, 0] 1 [(2, 4), (1, 3)] (.ps [-1, 1, 1, 1, 0, 0] 1 [(2, 4), (1, 3)] (.ng [1, 0, -1, -1, 0, 0] 1 [(1, 5), (2, 4), (1, 3)] (.ln [0, 1, 1, 1, 0, 0] (.ln [0, 0, -1, 0, 1, 1] (.ln [1, 0, -1, 0, 1, 1] (.ln [0, 1, 0, 0, 0, 0] (.ng [0, 1, 0, 0, 0, 0] 1 [(1, 5)] (.ps [0, 0, 1, 1, -1, 0] 1 [(1, 4), (1, 3), (1, 1)] (.ln [1, -1, 0, 1, -1, 0] (.ps [1, -1, 0, 1, -1, 0] 1 [(1, 1)] (.ps [-1, 1, 1, 0, 0, 0] 1 [(1, 4), (1, 3)] (.ng [1, 0, 0, 1, -1, 0] 1 [(1, 0)] (.ln [0, 1, 0, 0, 1, 1] (.ln [-1, 1, 1, 0, 0, 0] (.ln [1, 0, 0, 1, 0, 1] (.ln [1, 0, 0, 1, -1, 0] (.fin)))))))))))))))))))))))))))))))))))))))))))) (.ps [-1, 1, 0, -1, 1, 0] 1 [(1, 0)] (.ng [1, 0, 0, 1, -1, 0] 1 [(1, 4), (1, 0)] (.ln [0, 1, 0, 0, 1, 0] (.ln [0, 0, 0, 0, 0, 1] (.ln [1, 0, 0, 1, 0, 1] (.ln [0, 1, 0, 0, 0, 0] (.ps [0, 0, 0, 1, 0, 0] 1 [(1, 3)] (.ng [0, 0, 0, 0, 0, 1] 1 [(1, 1)] (.ln [0, 0, 1, 0, -1, 0] (.sp [0, 0, 1, 0, -1, 0] (.ng [0, 0, -1, 0, 1, 0] 1 [(1, 0)] (.ps [0, 0, 1, 0, -1, 0] 1 [(1, 0)] (.ln [0, 1, 1, 1, 0, 0] (.ln [0, 0, -1, 0, 1, 1] (.ln [0, 1, 0, 0, 1, 1] (.ln [0, 0, 1, 1, -1, 0] (.ln [0, 0, 1, 0, -1, 0] (.ps [0, 0, 1, 0, -1, 0] 1 [(1, 0)] (.ng [0, 0, -1, 0, 1, 0] 1 [(1, 0)] (.ps [0, 0, 1, 0, -1, 0] 1 [(1, 0)] (.ln [0, 0, 1, 1, 0, 0] (.ln [0, 0, -1, 0, 1, 1] (.ln [0, 0, 0, 0, 1, 1] (.ln [0, 0, 1, 1, -1, 0] (.ng [0, 0, -1, 0, 1, 1] 1 [(1, 2), (1, 0)] (.ln [1, -1, -1, -1, 0, 0] (.ng [1, -1, -1, -1, 0, 0] 1 [(2, 4), (1, 3)] (.ps [-1, 1, 1, 1, 0, 0] 1 [(2, 4), (1, 3)] (.ng [1, 0, -1, -1, 0, 0] 1 [(1, 5), (2, 4), (1, 3)] (.ln [0, 1, 1, 1, 0, 0] (.ln [0, 0, -1, 0, 1, 1] (.ln [1, 0, -1, 0, 1, 1] (.ln [0, 1, 0, 0, 0, 0] (.ng [0, 1, 0, 0, 0, 0] 1 [(1, 5)] (.ps [0, 0, 1, 1, -1, 0] 1 [(1, 4), (1, 0)] (.ln [1, -1, 0, 1, -1, 0] (.ng [1, -1, 0, 1, -1, 0] 1 [(1, 1)] (.ps [-1, 1, 1, 0, 0, 0] 1 [(1, 4), (1, 3)] (.ng [1, 0, 0, 1, -1, 0] 1 [(1, 5), (1, 1)] (.ln [0, 1, 0, 0, 1, 1] (.ln [0, 0, 1, 1, -1, 0] (.ln [1, 0, 0, 1, 0, 1] (.ln [0, 1, 0, 0, 0, 0] (.fin)))))))))))))))))))))))))))))))))) (.ps [0, 0, -1, 0, 1, 0] 1 [(1, 0)] (.ng [0, 0, 1, 0, -1, 0] 1 [(1, 0)] (.ln [0, 1, 0, 1, 1, 0] (.ln [0, 0, 0, 0, 0, 1] (.ln [0, 1, 1, 0, 0, 1] (.ln [0, 0, 0, 1, 0, 0] (.ln [0, 0, 1, 0, -1, 0] (.ng [0, 0, 1, 0, -1, 0] 1 [(1, 0)] (.ps [0, 0, -1, 0, 1, 0] 1 [(1, 0)] (.ng [0, 0, 1, 0, -1, 0] 1 [(1, 0)] (.ln [0, 0, 0, 1, 1, 0] (.ln [0, 0, 0, 0, 0, 1] (.ln [0, 0, 1, 0, 0, 1] (.ln [0, 0, 0, 1, 0, 0] (.ng [0, 0, 0, 0, 0, 1] 1 [(1, 2)] (.ln [1, -1, 0, -1, -1, 0] (.ng [1, -1, 0, -1, -1, 0] 1 [(2, 4), (1, 1)] (.ps [-1, 1, 0, 1, 1, 0] 1 [(2, 4), (1, 1)] (.ng [1, 0, 0, -1, -1, 0] 1 [(1, 5), (2, 4), (1, 1)] (.ln [0, 1, 0, 1, 1, 0] (.ln [0, 0, 0, 0, 0, 1] (.ln [1, 0, 0, 0, 0, 1] (.ln [0, 1, 0, 0, 0, 0] (.ng [0, 1, 0, 0, 0, 0] 1 [(1, 5)] (.ps [0, 0, 0, 1, 0, 0] 1 [(1, 4)] (.ln [1, -1, -1, 1, 0, 0] (.ng [1, -1, -1, 1, 0, 0] 1 [(1, 3)] (.ps [-1, 1, 1, 0, 0, 0] 1 [(1, 4), (1, 3)] (.ng [1, 0, -1, 1, 0, 0] 1 [(1, 5), (1, 3)] (.ln [0, 1, 1, 0, 0, 1] (.ln [0, 0, 0, 1, 0, 0] (.ln [1, 0, 0, 1, 0, 1] (.ln [0, 1, 0, 0, 0, 0] (.fin)))))))))))))))))))))))))))))))))))))))))))))))))))))))) (.ln [1, -1, -1, 0, 0, 0] (.sp [1, -1, -1, 0, 0, 0] (.ng [-1, 1, 1, 0, 0, 0] 1 [(1, 0)] (.sp [1, 0, -1, 0, 0, 0] (.ln [1, 0, 0, 0, 0, 0] (.ln [-1, 1, 1, 1, 0, 0] (.ln [0, 0, 1, 1, 0, 0] (.ln [1, 0, -1, 0, 0, 0] (.ps [1, 0, -1, 0, 0, 0] 1 [(1, 0)] (.sp [0, 0, 0, 0, 0, 1] (.ln [0, 0, 1, 1, -1, 1] (.sp [0, 0, 1, 1, -1, 1] (.sp [0, 0, -1, -1, 1, 0] (.ps [0, 0, 1, 1, -1, 1] 1 [(1, 1)] (.ln [1, 0, -1, 0, 1, 0] (.ln [0, 0, -1, -1, 1, 0] (.ln [0, 0, 0, 0, 1, 0] (.ln [1, 0, 0, 1, -1, 1] (.ng [-1, 1, 1, 1, 0, 0] 1 [(1, 5), (1, 4)] (.ps [0, 0, -1, -1, 1, 0] 1 [(1, 0)] (.ln [1, -1, -1, -2, 0, 0] (.ps [1, -1, -1, -2, 0, 0] 1 [(2, 5), (1, 4)] (.sp [-1, 1, 0, 1, 1, 0] (.ps [0, 0, 0, -1, 0, 0] 1 [(1, 6)] (.ln [0, 1, 0, 1, 1, 0] (.ln [-1, 1, 0, 1, 1, 0] (.ln [1, 0, -1, 0, 1, 0] (.ln [0, 0, 0, -1, 0, 0] (.ln [0, 0, 1, -1, -1, 1] (.ps [0, 0, 1, -1, -1, 1] 1 [(2, 6), (1, 2)] (.ps [0, 0, -1, 1, 1, 0] 1 [(1, 7), (1, 4), (1, 0)] (.ps [0, 0, 1, 0, -1, 1] 1 [(1, 6), (1, 2)] (.ln [0, 0, 0, 1, 1, 0] (.ln [0, 0, -1, 1, 1, 0] (.ln [0, 0, 0, 0, 1, 0] (.ln [0, 0, 1, 0, -1, 1] (.ps [0, 0, -1, 1, 1, 0] 1 [(1, 7), (1, 4), (1, 0)] (.ln [1, -1, -1, 0, 0, 0] (.ps [1, -1, -1, 0, 0, 0] 1 [(1, 5)] (.ps [-1, 1, 0, 1, 1, 0] 1 [(1, 0)] (.ps [1, 0, -1, 0, 0, 0] 1 [(1, 4)] (.ln [0, 1, 0, 1, 1, 0] (.ln [-1, 1, 0, 1, 1, 0] (.ln [0, 0, 0, 1, 1, 0] (.ln [1, 0, -1, 0, 0, 0] (.ps [1, 0, -1, 0, 0, 0] 1 [(1, 4)] (.ps [0, 0, 1, 0, -1, 1] 1 [(1, 6), (1, 2)] (.ln [0, 0, 1, 1, -1, 1] (.ps [0, 0, 1, 1, -1, 1] 1 [(1, 2)] (.ps [0, 0, 0, -1, 0, 0] 1 [(1, 6)] (.ps [0, 0, 1, 1, -1, 1] 1 [(1, 2)] (.ln [1, 0, -1, 0, 1, 0] (.ln [0, 0, 0, -1, 0, 0] (.ln [0, 0, 0, 0, 1, 0] (.ln [1, 0, 0, 1, -1, 1] (.fin))))))))))))))))))))))))))))))))) (.ps [0, 0, 0, -1, 0, 0] 1 [(1, 6)] (.ln [1, 0, 0, 0, 0, 0] (.ln [-1, 1, 0, 1, 1, 0] (.ln [1, 0, -1, 0, 1, 0] (.ln [0, 0, 0, -1, 0, 0] (.ln [0, 0, 1, -1, -1, 1] (.ps [0, 0, 1, -1, -1, 1] 1 [(2, 6), (1, 2)] (.sp [0, 0, -1, 1, 1, 0] (.ps [0, 0, 1, 0, -1, 1] 1 [(1, 7), (1, 3)] (.ln [0, 0, 0, 1, 1, 0] (.ln [0, 0, -1, 1, 1, 0] (.ln [0, 0, 0, 0, 1, 0] (.ln [0, 0, 1, 0, -1, 1] (.ps [0, 0, -1, 1, 1, 0] 1 [(1, 0)] (.ln [1, -1, -1, 0, 0, 0] (.ps [1, -1, -1, 0, 0, 0] 1 [(1, 6)] (.ng [-1, 1, 0, 1, 1, 0] 1 [(1, 1)] (.ps [1, 0, -1, 0, 0, 0] 1 [(1, 5)] (.ln [1, 0, 0, 0, 0, 0] (.ln [-1, 1, 0, 1, 1, 0] (.ln [0, 0, 0, 1, 1, 0] (.ln [1, 0, -1, 0, 0, 0] (.ps [1, 0, -1, 0, 0, 0] 1 [(1, 5)] (.ps [0, 0, 1, 0, -1, 1] 1 [(1, 7), (1, 3)] (.ln [0, 0, 1, 1, -1, 1] (.ps [0, 0, 1, 1, -1, 1] 1 [(1, 3)] (.ps [0, 0, 0, -1, 0, 0] 1 [(1, 7)] (.ps [0, 0, 1, 1, -1, 1] 1 [(1, 3)] (.ln [1, 0, -1, 0, 1, 0] (.ln [0, 0, 0, -1, 0, 0] (.ln [0, 0, 0, 0, 1, 0] (.ln [1, 0, 0, 1, -1, 1] (.fin))))))))))))))))))))))))) (.ps [0, 0, 1, 0, -1, 1] 1 [(1, 7), (1, 3)] (.ln [0, 0, 1, 0, 0, 0] (.ln [0, 0, -1, 1, 1, 0] (.ln [0, 0, 0, 0, 1, 0] (.ln [0, 0, 1, 0, -1, 1] (.ng [0, 0, -1, 1, 1, 0] 1 [(1, 0)] (.ln [1, -1, -1, 0, 0, 0] (.ps [1, -1, -1, 0, 0, 0] 1 [(1, 6)] (.ng [-1, 1, 1, 0, 0, 0] 1 [(1, 6)] (.ps [1, 0, -1, 0, 0, 0] 1 [(1, 5)] (.ln [1, 0, 0, 0, 0, 0] (.ln [-1, 1, 0, 1, 1, 0] (.ln [0, 0, 0, 1, 1, 0] (.ln [1, 0, -1, 0, 0, 0] (.ps [1, 0, -1, 0, 0, 0] 1 [(1, 5)] (.ps [0, 0, 1, 0, -1, 1] 1 [(1, 7), (1, 3)] (.ln [0, 0, 1, 1, -1, 1] (.ps [0, 0, 1, 1, -1, 1] 1 [(1, 3)] (.ps [0, 0, 0, -1, 0, 0] 1 [(1, 7)] (.ps [0, 0, 1, 1, -1, 1] 1 [(1, 3)] (.ln [1, 0, -1, 0, 1, 0] (.ln [0, 0, 0, -1, 0, 0] (.ln [0, 0, 0, 0, 1, 0] (.ln [1, 0, 0, 1, -1, 1] (.fin))))))))))))))))))))))))))))))))))))))))))) (.ps [0, 0, 1, 1, -1, 1] 1 [(1, 1)] (.ln [1, 0, 0, 1, 0, 0] (.ln [0, 0, -1, -1, 1, 0] (.ln [0, 0, 0, 0, 1, 0] (.ln [1, 0, 0, 1, -1, 1] (.ng [-1, 1, 1, 1, 0, 0] 1 [(1, 5), (1, 4)] (.ng [0, 0, -1, -1, 1, 0] 1 [(1, 0)] (.ln [1, -1, -1, -2, 0, 0] (.ps [1, -1, -1, -2, 0, 0] 1 [(2, 5), (1, 4)] (.ng [-1, 1, 1, 2, 0, 0] 1 [(2, 5), (1, 4)] (.ps [0, 0, 0, -1, 0, 0] 1 [(1, 5)] (.ln [1, 0, 0, 0, 0, 0] (.ln [-1, 1, 0, 1, 1, 0] (.ln [1, 0, -1, 0, 1, 0] (.ln [0, 0, 0, -1, 0, 0] (.ln [0, 0, 1, -1, -1, 1] (.ps [0, 0, 1, -1, -1, 1] 1 [(2, 5), (1, 1)] (.ng [0, 0, -1, 1, 1, 0] 1 [(2, 5), (1, 0)] (.ps [0, 0, 1, 0, -1, 1] 1 [(1, 5), (1, 1)] (.ln [0, 0, 1, 0, 0, 0] (.ln [0, 0, -1, 1, 1, 0] (.ln [0, 0, 0, 0, 1, 0] (.ln [0, 0, 1, 0, -1, 1] (.ng [0, 0, -1, 1, 1, 0] 1 [(2, 5), (1, 0)] (.ln [1, -1, -1, 0, 0, 0] (.ps [1, -1, -1, 0, 0, 0] 1 [(1, 4)] (.ng [-1, 1, 1, 0, 0, 0] 1 [(1, 4)] (.ps [1, 0, -1, 0, 0, 0] 1 [(1, 3)] (.ln [1, 0, 0, 0, 0, 0] (.ln [-1, 1, 0, 1, 1, 0] (.ln [0, 0, 0, 1, 1, 0] (.ln [1, 0, -1, 0, 0, 0] (.ps [1, 0, -1, 0, 0, 0] 1 [(1, 3)] (.ps [0, 0, 1, 0, -1, 1] 1 [(1, 5), (1, 1)] (.ln [0, 0, 1, 1, -1, 1] (.ps [0, 0, 1, 1, -1, 1] 1 [(1, 1)] (.ps [0, 0, 0, -1, 0, 0] 1 [(1, 5)] (.ps [0, 0, 1, 1, -1, 1] 1 [(1, 1)] (.ln [1, 0, -1, 0, 1, 0] (.ln [0, 0, 0, -1, 0, 0] (.ln [0, 0, 0, 0, 1, 0] (.ln [1, 0, 0, 1, -1, 1] (.fin)))))))))))))))))))))))))))))))))))))))))))) (.ps [0, 0, -1, -1, 1, 0] 1 [(1, 1), (1, 0)] (.ng [0, 0, 1, 1, -1, 1] 1 [(1, 0)] (.ln [1, 0, -1, 0, 1, 0] (.ln [0, 0, 0, 0, 0, 1] (.ln [0, 0, 1, 1, 0, 1] (.ln [1, 0, -1, 0, 0, 0] (.ng [-1, 1, 1, 1, 0, 0] 1 [(1, 4), (1, 3)] (.ps [0, 0, 0, 0, 0, 1] 1 [(1, 1)] (.ln [1, -1, 0, -1, -1, 1] (.sp [1, -1, 0, -1, -1, 1] (.sp [-1, 1, 0, 1, 1, 0] (.sp [0, 0, 1, 0, -1, 1] (.ln [0, 1, 0, 1, 1, 0] (.ln [-1, 1, 0, 1, 1, 0] (.ln [1, 0, -1, 0, 1, 0] (.ln [0, 0, 1, 0, -1, 1] (.ln [0, 0, 1, -1, -1, 1] (.ps [0, 0, 1, -1, -1, 1] 1 [(1, 7), (1, 0)] (.ps [0, 0, -1, 1, 1, 0] 1 [(1, 8), (1, 5), (1, 1)] (.ps [0, 0, 1, 0, -1, 1] 1 [(1, 0)] (.ln [0, 0, 0, 1, 1, 0] (.ln [0, 0, -1, 1, 1, 0] (.ln [0, 0, 0, 0, 1, 0] (.ln [0, 0, 1, 0, -1, 1] (.ps [0, 0, -1, 1, 1, 0] 1 [(1, 8), (1, 5), (1, 1)] (.ln [1, -1, -1, 0, 0, 0] (.ps [1, -1, -1, 0, 0, 0] 1 [(1, 6)] (.ps [-1, 1, 0, 1, 1, 0] 1 [(1, 1)] (.ps [1, 0, -1, 0, 0, 0] 1 [(1, 5)] (.ln [0, 1, 0, 1, 1, 0] (.ln [-1, 1, 0, 1, 1, 0] (.ln [0, 0, 0, 1, 1, 0] (.ln [1, 0, -1, 0, 0, 0] (.ps [1, 0, -1, 0, 0, 0] 1 [(1, 5)] (.ps [0, 0, 1, 0, -1, 1] 1 [(1, 0)] (.ln [0, 0, 1, 1, -1, 1] (.ng [0, 0, 1, 1, -1, 1] 1 [(1, 3)] (.ps [0, 0, 0, -1, 0, 0] 1 [(1, 7)] (.ng [0, 0, 1, 1, -1, 1] 1 [(1, 3)] (.ln [1, 0, -1, 0, 1, 0] (.ln [0, 0, 1, 0, -1, 1] (.ln [0, 0, 1, 1, 0, 1] (.ln [1, 0, -1, 0, 0, 0] (.fin)))))))))))))))))))))))))))))))) (.ln [0, 1, 0, 1, 1, 0] (.ln [-1, 1, 0, 1, 1, 0] (.ln [1, 0, 0, 0, 0, 1] (.ln [0, 0, 1, 0, -1, 1] (.ln [0, 0, 1, -1, -1, 1] (.sp [0, 0, 1, -1, -1, 1] (.ps [0, 0, -1, 1, 1, 0] 1 [(1, 9), (1, 6), (1, 2)] (.ng [0, 0, 1, 0, -1, 1] 1 [(1, 1)] (.ln [0, 0, 0, 1, 1, 0] (.ln [0, 0, -1, 1, 1, 0] (.ln [0, 0, 1, 0, 0, 1] (.ln [0, 0, 1, 0, -1, 1] (.ps [0, 0, -1, 1, 1, 0] 1 [(1, 9), (1, 6), (1, 2)] (.ln [1, -1, -1, 0, 0, 0] (.ps [1, -1, -1, 0, 0, 0] 1 [(1, 7)] (.ps [-1, 1, 0, 1, 1, 0] 1 [(1, 2)] (.ps [1, 0, -1, 0, 0, 0] 1 [(1, 6)] (.ln [0, 1, 0, 1, 1, 0] (.ln [-1, 1, 0, 1, 1, 0] (.ln [0, 0, 0, 1, 1, 0] (.ln [1, 0, -1, 0, 0, 0] (.ps [1, 0, -1, 0, 0, 0] 1 [(1, 6)] (.ng [0, 0, 1, 0, -1, 1] 1 [(1, 1)] (.ln [0, 0, -1, 1, 1, -1] (.ng [0, 0, -1, 1, 1, -1] 1 [(1, 0)] (.ps [0, 0, 1, -1, -1, 1] 1 [(1, 0)] (.ng [0, 0, -1, 1, 1, -1] 1 [(1, 0)] (.ln [1, 0, 0, 0, 0, 1] (.ln [0, 0, 1, 0, -1, 1] (.ln [0, 0, 1, 1, 0, 1] (.ln [1, 0, -1, 0, 0, 0] (.fin)))))))))))))))))))))))))) (.ps [0, 0, -1, 1, 1, 0] 1 [(1, 9), (1, 6), (1, 2)] (.ng [0, 0, 1, 0, -1, 1] 1 [(1, 1)] (.ln [0, 0, 0, 1, 1, 0] (.ln [0, 0, 0, 0, 0, 1] (.ln [0, 0, 1, 0, 0, 1] (.ln [0, 0, 0, 1, 0, 0] (.ps [0, 0, 0, 0, 0, 1] 1 [(1, 5)] (.ln [1, -1, 0, -1, -1, 1] (.ps [1, -1, 0, -1, -1, 1] 1 [(1, 3)] (.ps [-1, 1, 0, 1, 1, 0] 1 [(1, 2)] (.sp [1, 0, 0, -1, -1, 1] (.ln [0, 1, 0, 1, 1, 0] (.ln [-1, 1, 0, 1, 1, 0] (.ln [0, 0, 0, 1, 1, 0] (.ln [1, 0, 0, -1, -1, 1] (.ps [1, 0, 0, -1, -1, 1] 1 [(1, 0)] (.ng [0, 0, 0, 1, 0, 0] 1 [(1, 9)] (.ln [0, 0, -1, 1, 1, -1] (.ps [0, 0, -1, 1, 1, -1] 1 [(1, 1)] (.ng [0, 0, 1, -1, -1, 1] 1 [(1, 1)] (.ps [0, 0, -1, 1, 1, -1] 1 [(1, 1)] (.ln [1, 0, 0, 0, 0, 1] (.ln [0, 0, 1, 0, -1, 1] (.ln [0, 0, 1, 1, 0, 1] (.ln [1, 0, -1, 0, 0, 0] (.fin))))))))))))))) (.ln [0, 1, 0, 1, 1, 0] (.ln [-1, 1, 0, 1, 1, 0] (.ln [1, 0, 0, 0, 0, 1] (.ln [1, 0, 0, -1, -1, 1] (.ng [1, 0, 0, -1, -1, 1] 1 [(1, 0)] (.ng [0, 0, 0, 1, 0, 0] 1 [(1, 9)] (.ln [0, 0, -1, 1, 1, -1] (.ps [0, 0, -1, 1, 1, -1] 1 [(1, 1)] (.ng [0, 0, 1, -1, -1, 1] 1 [(1, 1)] (.ps [1, 0, -1, 0, 0, 0] 1 [(1, 7)] (.ln [1, 0, 0, 0, 0, 1] (.ln [0, 0, 1, 0, -1, 1] (.ln [0, 0, 1, 1, 0, 1] (.ln [1, 0, -1, 0, 0, 0] (.fin))))))))))))))))))))))))))))))))) (.sp [0, 0, 1, 0, -1, 1] (.ln [1, 0, 0, 0, 0, 0] (.ln [-1, 1, 0, 1, 1, 0] (.ln [1, 0, -1, 0, 1, 0] (.ln [0, 0, 1, 0, -1, 1] (.ln [0, 0, 1, -1, -1, 1] (.ps [0, 0, 1, -1, -1, 1] 1 [(1, 7), (1, 0)] (.sp [0, 0, -1, 1, 1, 0] (.ps [0, 0, 1, 0, -1, 1] 1 [(1, 1)] (.ln [0, 0, 0, 1, 1, 0] (.ln [0, 0, -1, 1, 1, 0] (.ln [0, 0, 0, 0, 1, 0] (.ln [0, 0, 1, 0, -1, 1] (.ps [0, 0, -1, 1, 1, 0] 1 [(1, 0)] (.ln [1, -1, -1, 0, 0, 0] (.ps [1, -1, -1, 0, 0, 0] 1 [(1, 7)] (.ng [-1, 1, 0, 1, 1, 0] 1 [(1, 2)] (.ps [1, 0, -1, 0, 0, 0] 1 [(1, 6)] (.ln [1, 0, 0, 0, 0, 0] (.ln [-1, 1, 0, 1, 1, 0] (.ln [0, 0, 0, 1, 1, 0] (.ln [1, 0, -1, 0, 0, 0] (.ps [1, 0, -1, 0, 0, 0] 1 [(1, 6)] (.ps [0, 0, 1, 0, -1, 1] 1 [(1, 1)] (.ln [0, 0, 1, 1, -1, 1] (.ng [0, 0, 1, 1, -1, 1] 1 [(1, 4)] (.ps [0, 0, 0, -1, 0, 0] 1 [(1, 8)] (.ng [0, 0, 1, 1, -1, 1] 1 [(1, 4)] (.ln [1, 0, -1, 0, 1, 0] (.ln [0, 0, 1, 0, -1, 1] (.ln [0, 0, 1, 1, 0, 1] (.ln [1, 0, -1, 0, 0, 0] (.fin))))))))))))))))))))))))) (.ps [0, 0, 1, 0, -1, 1] 1 [(1, 1)] (.ln [0, 0, 1, 0, 0, 0] (.ln [0, 0, -1, 1, 1, 0] (.ln [0, 0, 0, 0, 1, 0] (.ln [0, 0, 1, 0, -1, 1] (.ng [0, 0, -1, 1, 1, 0] 1 [(1, 0)] (.ln [1, -1, -1, 0, 0, 0] (.ps [1, -1, -1, 0, 0, 0] 1 [(1, 7)] (.ng [-1, 1, 1, 0, 0, 0] 1 [(1, 7)] (.ps [1, 0, -1, 0, 0, 0] 1 [(1, 6)] (.ln [1, 0, 0, 0, 0, 0] (.ln [-1, 1, 0, 1, 1, 0] (.ln [0, 0, 0, 1, 1, 0] (.ln [1, 0, -1, 0, 0, 0] (.ps [1, 0, -1, 0, 0, 0] 1 [(1, 6)] (.ps [0, 0, 1, 0, -1, 1] 1 [(1, 1)] (.ln [0, 0, 1, 1, -1, 1] (.ng [0, 0, 1, 1, -1, 1] 1 [(1, 4)] (.ps [0, 0, 0, -1, 0, 0] 1 [(1, 8)] (.ng [0, 0, 1, 1, -1, 1] 1 [(1, 4)] (.ln [1, 0, -1, 0, 1, 0] (.ln [0, 0, 1, 0, -1, 1] (.ln [0, 0, 1, 1, 0, 1] (.ln [1, 0, -1, 0, 0, 0] (.fin)))))))))))))))))))))))))))))))) (.ln [1, 0, 0, 0, 0, 0] (.ln [-1, 1, 0, 1, 1, 0] (.ln [1, 0, 0, 0, 0, 1] (.ln [0, 0, 1, 0, -1, 1] (.ln [0, 0, 1, -1, -1, 1] (.sp [0, 0, 1, -1, -1, 1] (.sp [0, 0, -1, 1, 1, 0] (.ng [0, 0, 1, 0, -1, 1] 1 [(1, 2)] (.ln [0, 0, 0, 1, 1, 0] (.ln [0, 0, -1, 1, 1, 0] (.ln [0, 0, 1, 0, 0, 1] (.ln [0, 0, 1, 0, -1, 1] (.ps [0, 0, -1, 1, 1, 0] 1 [(1, 0)] (.ln [1, -1, -1, 0, 0, 0] (.ps [1, -1, -1, 0, 0, 0] 1 [(1, 8)] (.ng [-1, 1, 0, 1, 1, 0] 1 [(1, 3)] (.ps [1, 0, -1, 0, 0, 0] 1 [(1, 7)] (.ln [1, 0, 0, 0, 0, 0] (.ln [-1, 1, 0, 1, 1, 0] (.ln [0, 0, 0, 1, 1, 0] (.ln [1, 0, -1, 0, 0, 0] (.ps [1, 0, -1, 0, 0, 0] 1 [(1, 7)] (.ng [0, 0, 1, 0, -1, 1] 1 [(1, 2)] (.ln [0, 0, -1, 1, 1, -1] (.ng [0, 0, -1, 1, 1, -1] 1 [(1, 1)] (.ps [0, 0, 1, -1, -1, 1] 1 [(1, 1)] (.ng [0, 0, -1, 1, 1, -1] 1 [(1, 1)] (.ln [1, 0, 0, 0, 0, 1] (.ln [0, 0, 1, 0, -1, 1] (.ln [0, 0, 1, 1, 0, 1] (.ln [1, 0, -1, 0, 0, 0] (.fin))))))))))))))))))))))))) (.ng [0, 0, 1, 0, -1, 1] 1 [(1, 2)] (.ln [0, 0, 1, 0, 0, 0] (.ln [0, 0, -1, 1, 1, 0] (.ln [0, 0, 1, 0, 0, 1] (.ln [0, 0, 1, 0, -1, 1] (.ng [0, 0, -1, 1, 1, 0] 1 [(1, 0)] (.ln [1, -1, -1, 0, 0, 0] (.ps [1, -1, -1, 0, 0, 0] 1 [(1, 8)] (.ng [-1, 1, 1, 0, 0, 0] 1 [(1, 8)] (.ps [1, 0, -1, 0, 0, 0] 1 [(1, 7)] (.ln [1, 0, 0, 0, 0, 0] (.ln [-1, 1, 0, 1, 1, 0] (.ln [0, 0, 0, 1, 1, 0] (.ln [1, 0, -1, 0, 0, 0] (.ps [1, 0, -1, 0, 0, 0] 1 [(1, 7)] (.ng [0, 0, 1, 0, -1, 1] 1 [(1, 2)] (.ln [0, 0, -1, 1, 1, -1] (.ng [0, 0, -1, 1, 1, -1] 1 [(1, 1)] (.ps [0, 0, 1, -1, -1, 1] 1 [(1, 1)] (.ng [0, 0, -1, 1, 1, -1] 1 [(1, 1)] (.ln [1, 0, 0, 0, 0, 1] (.ln [0, 0, 1, 0, -1, 1] (.ln [0, 0, 1, 1, 0, 1] (.ln [1, 0, -1, 0, 0, 0] (.fin)))))))))))))))))))))))))) (.ps [0, 0, -1, 1, 1, 0] 1 [(1, 5), (1, 0)] (.ng [0, 0, 1, 0, -1, 1] 1 [(1, 1)] (.ln [0, 0, 0, 1, 1, 0] (.ln [0, 0, 0, 0, 0, 1] (.ln [0, 0, 1, 0, 0, 1] (.ln [0, 0, 0, 1, 0, 0] (.ps [0, 0, 0, 0, 0, 1] 1 [(1, 5)] (.ln [1, -1, 0, -1, -1, 1] (.ps [1, -1, 0, -1, -1, 1] 1 [(1, 3)] (.ng [-1, 1, 0, 1, 1, 0] 1 [(1, 2)] (.sp [1, 0, 0, -1, -1, 1] (.ln [1, 0, 0, 0, 0, 0] (.ln [-1, 1, 0, 1, 1, 0] (.ln [0, 0, 0, 1, 1, 0] (.ln [1, 0, 0, -1, -1, 1] (.ps [1, 0, 0, -1, -1, 1] 1 [(1, 0)] (.ng [0, 0, 0, 1, 0, 0] 1 [(1, 9)] (.ln [0, 0, -1, 1, 1, -1] (.ps [0, 0, -1, 1, 1, -1] 1 [(1, 1)] (.ng [0, 0, 1, -1, -1, 1] 1 [(1, 1)] (.ps [0, 0, -1, 1, 1, -1] 1 [(1, 1)] (.ln [1, 0, 0, 0, 0, 1] (.ln [0, 0, 1, 0, -1, 1] (.ln [0, 0, 1, 1, 0, 1] (.ln [1, 0, -1, 0, 0, 0] (.fin))))))))))))))) (.ln [1, 0, 0, 0, 0, 0] (.ln [-1, 1, 0, 1, 1, 0] (.ln [1, 0, 0, 0, 0, 1] (.ln [1, 0, 0, -1, -1, 1] (.ng [1, 0, 0, -1, -1, 1] 1 [(1, 0)] (.ng [0, 0, 0, 1, 0, 0] 1 [(1, 9)] (.ln [0, 0, -1, 1, 1, -1] (.ps [0, 0, -1, 1, 1, -1] 1 [(1, 1)] (.ng [0, 0, 1, -1, -1, 1] 1 [(1, 1)] (.ps [1, 0, -1, 0, 0, 0] 1 [(1, 7)] (.ln [1, 0, 0, 0, 0, 1] (.ln [0, 0, 1, 0, -1, 1] (.ln [0, 0, 1, 1, 0, 1] (.ln [1, 0, -1, 0, 0, 0] (.fin)))))))))))))))))))))))))))))))))) (.ps [-1, 1, 0, 1, 1, 0] 1 [(1, 2), (1, 0)] (.ng [0, 0, 1, 0, -1, 1] 2 [(1, 6), (1, 3), (1, 1), (1, 0)] (.ln [0, 1, 0, 1, 1, 0] (.ln [0, 0, 0, 0, 0, 1] (.ln [1, 0, 0, 0, 0, 1] (.ln [-1, 1, 1, 1, 0, 0] (.ln [0, 0, 1, -1, -1, 1] (.ng [0, 0, 1, -1, -1, 1] 1 [(1, 6), (1, 3), (1, 0)] (.ps [0, 0, -1, 1, 1, 0] 1 [(1, 6), (1, 3), (1, 2), (1, 0)] (.ng [0, 0, 1, 0, -1, 1] 2 [(1, 6), (1, 3), (1, 1), (1, 0)] (.ln [0, 0, 0, 1, 1, 0] (.ln [0, 0, 0, 0, 0, 1] (.ln [0, 0, 1, 0, 0, 1] (.ln [0, 0, 0, 1, 0, 0] (.ps [0, 0, 0, 0, 0, 1] 1 [(1, 2)] (.ln [1, -1, 0, -1, -1, 1] (.ng [1, -1, 0, -1, -1, 1] 1 [(1, 0)] (.ps [-1, 1, 0, 1, 1, 0] 1 [(1, 2), (1, 0)] (.ng [1, 0, 0, -1, -1, 1] 1 [(1, 6), (1, 0)] (.ln [0, 1, 0, 1, 1, 0] (.ln [0, 0, 0, 0, 0, 1] (.ln [1, 0, 0, 0, 0, 1] (.ln [0, 1, 0, 0, 0, 0] (.ng [0, 1, 0, 0, 0, 0] 1 [(1, 6)] (.ng [0, 0, 0, 1, 0, 0] 1 [(1, 5)] (.ln [1, -1, -1, 0, 0, 0] (.ps [1, -1, -1, 0, 0, 0] 1 [(1, 4)] (.ng [-1, 1, 1, 0, 0, 0] 1 [(1, 4)] (.ps [1, 0, -1, 0, 0, 0] 1 [(1, 3)] (.ln [1, 0, 0, 0, 0, 1] (.ln [-1, 1, 1, 1, 0, 0] (.ln [0, 0, 1, 1, 0, 1] (.ln [1, 0, -1, 0, 0, 0] (.fin)))))))))))))))))))))))))))))))))))))))))))))) (.ln [0, 0, 1, 1, -1, 0] (.sp [0, 0, 1, 1, -1, 0] (.ng [0, 0, -1, -1, 1, 0] 1 [(1, 0)] (.ps [0, 0, 1, 1, -1, 0] 1 [(1, 0)] (.ln [1, 0, 0, 1, 0, 0] (.ln [0, 0, -1, -1, 1, 1] (.ln [0, 0, 0, 0, 1, 1] (.ln [1, 0, 0, 1, -1, 0] (.ng [-1, 1, 1, 1, 0, 0] 1 [(1, 4), (1, 3)] (.ng [0, 0, -1, -1, 1, 1] 1 [(1, 1), (1, 0)] (.ln [1, -1, -1, -2, 0, 0] (.ps [1, -1, -1, -2, 0, 0] 1 [(2, 4), (1, 3)] (.ng [-1, 1, 1, 2, 0, 0] 1 [(2, 4), (1, 3)] (.ps [0, 0, 0, -1, 0, 0] 1 [(1, 4)] (.ln [1, 0, 0, 0, 0, 0] (.ln [-1, 1, 0, 1, 1, 1] (.ln [1, 0, -1, 0, 1, 1] (.ln [0, 0, 0, -1, 0, 0] (.ln [0, 0, 1, -1, -1, 0] (.ps [0, 0, 1, -1, -1, 0] 1 [(2, 4), (1, 0)] (.ng [0, 0, -1, 1, 1, 0] 1 [(2, 4), (1, 0)] (.ps [0, 0, 1, 0, -1, 0] 1 [(1, 4), (1, 0)] (.ln [0, 0, 1, 0, 0, 0] (.ln [0, 0, -1, 1, 1, 1] (.ln [0, 0, 0, 0, 1, 1] (.ln [0, 0, 1, 0, -1, 0] (.ng [0, 0, -1, 1, 1, 1] 1 [(2, 4), (1, 1), (1, 0)] (.ln [1, -1, -1, 0, 0, 0] (.ps [1, -1, -1, 0, 0, 0] 1 [(1, 3)] (.ng [-1, 1, 1, 0, 0, 0] 1 [(1, 3)] (.ps [1, 0, -1, 0, 0, 0] 1 [(1, 2)] (.ln [1, 0, 0, 0, 0, 0] (.ln [-1, 1, 0, 1, 1, 1] (.ln [0, 0, 0, 1, 1, 1] (.ln [1, 0, -1, 0, 0, 0] (.ps [1, 0, -1, 0, 0, 0] 1 [(1, 2)] (.ps [0, 0, 1, 0, -1, 0] 1 [(1, 4), (1, 0)] (.ln [0, 0, 1, 1, -1, 0] (.ps [0, 0, 1, 1, -1, 0] 1 [(1, 0)] (.ps [0, 0, 0, -1, 0, 0] 1 [(1, 4)] (.ps [0, 0, 1, 1, -1, 0] 1 [(1, 0)] (.ln [1, 0, -1, 0, 1, 1] (.ln [0, 0, 0, -1, 0, 0] (.ln [0, 0, 0, 0, 1, 1] (.ln [1, 0, 0, 1, -1, 0] (.fin)))))))))))))))))))))))))))))))))))))))))))) (.ps [0, 0, -1, -1, 1, 0] 1 [(1, 0)] (.ng [0, 0, 1, 1, -1, 0] 1 [(1, 0)] (.ln [1, 0, -1, 0, 1, 0] (.ln [0, 0, 0, 0, 0, 1] (.ln [0, 0, 1, 1, 0, 1] (.ln [1, 0, -1, 0, 0, 0] (.ng [-1, 1, 1, 1, 0, 0] 1 [(1, 4), (1, 3)] (.ng [0, 0, 0, 0, 0, 1] 1 [(1, 1)] (.ln [1, -1, 0, -1, -1, 0] (.sp [1, -1, 0, -1, -1, 0] (.ng [-1, 1, 0, 1, 1, 0] 1 [(1, 0)] (.sp [0, 0, 1, 0, -1, 0] (.ln [1, 0, 0, 0, 0, 0] (.ln [-1, 1, 0, 1, 1, 1] (.ln [1, 0, -1, 0, 1, 1] (.ln [0, 0, 1, 0, -1, 0] (.ln [0, 0, 1, -1, -1, 0] (.ps [0, 0, 1, -1, -1, 0] 1 [(1, 6), (1, 0)] (.ng [0, 0, -1, 1, 1, 0] 1 [(1, 6), (1, 0)] (.ps [0, 0, 1, 0, -1, 0] 1 [(1, 0)] (.ln [0, 0, 1, 0, 0, 0] (.ln [0, 0, -1, 1, 1, 1] (.ln [0, 0, 0, 0, 1, 1] (.ln [0, 0, 1, 0, -1, 0] (.ng [0, 0, -1, 1, 1, 1] 1 [(1, 6), (1, 3), (1, 0)] (.ln [1, -1, -1, 0, 0, 0] (.ps [1, -1, -1, 0, 0, 0] 1 [(1, 5)] (.ng [-1, 1, 1, 0, 0, 0] 1 [(1, 5)] (.ps [1, 0, -1, 0, 0, 0] 1 [(1, 4)] (.ln [1, 0, 0, 0, 0, 0] (.ln [-1, 1, 0, 1, 1, 1] (.ln [0, 0, 0, 1, 1, 1] (.ln [1, 0, -1, 0, 0, 0] (.ps [1, 0, -1, 0, 0, 0] 1 [(1, 4)] (.ps [0, 0, 1, 0, -1, 0] 1 [(1, 0)] (.ln [0, 0, 1, 1, -1, 0] (.ng [0, 0, 1, 1, -1, 0] 1 [(1, 2)] (.ps [0, 0, 0, -1, 0, 0] 1 [(1, 6)] (.ng [0, 0, 1, 1, -1, 0] 1 [(1, 2)] (.ln [1, 0, -1, 0, 1, 1] (.ln [0, 0, 1, 0, -1, 0] (.ln [0, 0, 1, 1, 0, 1] (.ln [1, 0, -1, 0, 0, 0] (.fin)))))))))))))))))))))))))))))))) (.ln [1, 0, 0, 0, 0, 0] (.ln [-1, 1, 0, 1, 1, 1] (.ln [1, 0, 0, 0, 0, 1] (.ln [0, 0, 1, 0, -1, 0] (.ln [0, 0, 1, -1, -1, 0] (.sp [0, 0, 1, -1, -1, 0] (.ng [0, 0, -1, 1, 1, 0] 1 [(1, 0)] (.ng [0, 0, 1, 0, -1, 0] 1 [(1, 1)] (.ln [0, 0, 1, 0, 0, 0] (.ln [0, 0, -1, 1, 1, 1] (.ln [0, 0, 1, 0, 0, 1] (.ln [0, 0, 1, 0, -1, 0] (.ng [0, 0, -1, 1, 1, 1] 1 [(1, 4), (1, 0)] (.ln [1, -1, -1, 0, 0, 0] (.ps [1, -1, -1, 0, 0, 0] 1 [(1, 6)] (.ng [-1, 1, 1, 0, 0, 0] 1 [(1, 6)] (.ps [1, 0, -1, 0, 0, 0] 1 [(1, 5)] (.ln [1, 0, 0, 0, 0, 0] (.ln [-1, 1, 0, 1, 1, 1] (.ln [0, 0, 0, 1, 1, 1] (.ln [1, 0, -1, 0, 0, 0] (.ps [1, 0, -1, 0, 0, 0] 1 [(1, 5)] (.ng [0, 0, 1, 0, -1, 0] 1 [(1, 1)] (.ln [0, 0, -1, 1, 1, 0] (.ng [0, 0, -1, 1, 1, 0] 1 [(1, 0)] (.ps [0, 0, 1, -1, -1, 0] 1 [(1, 0)] (.ng [0, 0, -1, 1, 1, 0] 1 [(1, 0)] (.ln [1, 0, 0, 0, 0, 1] (.ln [0, 0, 1, 0, -1, 0] (.ln [0, 0, 1, 1, 0, 1] (.ln [1, 0, -1, 0, 0, 0] (.fin)))))))))))))))))))))))))) (.ps [0, 0, -1, 1, 1, 0] 1 [(1, 0)] (.ng [0, 0, 1, 0, -1, 0] 1 [(1, 1)] (.ln [0, 0, 0, 1, 1, 0] (.ln [0, 0, 0, 0, 0, 1] (.ln [0, 0, 1, 0, 0, 1] (.ln [0, 0, 0, 1, 0, 0] (.ng [0, 0, 0, 0, 0, 1] 1 [(1, 4)] (.ln [1, -1, 0, -1, -1, 0] (.ps [1, -1, 0, -1, -1, 0] 1 [(1, 2)] (.ng [-1, 1, 0, 1, 1, 0] 1 [(1, 2)] (.sp [1, 0, 0, -1, -1, 0] (.ln [1, 0, 0, 0, 0, 0] (.ln [-1, 1, 0, 1, 1, 1] (.ln [0, 0, 0, 1, 1, 1] (.ln [1, 0, 0, -1, -1, 0] (.ps [1, 0, 0, -1, -1, 0] 1 [(1, 0)] (.ng [0, 0, 0, 1, 0, 0] 1 [(1, 8)] (.ln [0, 0, -1, 1, 1, 0] (.ps [0, 0, -1, 1, 1, 0] 1 [(1, 1)] (.ng [0, 0, 1, -1, -1, 0] 1 [(1, 1)] (.ps [0, 0, -1, 1, 1, 0] 1 [(1, 1)] (.ln [1, 0, 0, 0, 0, 1] (.ln [0, 0, 1, 0, -1, 0] (.ln [0, 0, 1, 1, 0, 1] (.ln [1, 0, -1, 0, 0, 0] (.fin))))))))))))))) (.ln [1, 0, 0, 0, 0, 0] (.ln [-1, 1, 0, 1, 1, 1] (.ln [1, 0, 0, 0, 0, 1] (.ln [1, 0, 0, -1, -1, 0] (.ng [1, 0, 0, -1, -1, 0] 1 [(1, 0)] (.ng [0, 0, 0, 1, 0, 0] 1 [(1, 8)] (.ln [0, 0, -1, 1, 1, 0] (.ps [0, 0, -1, 1, 1, 0] 1 [(1, 1)] (.ng [0, 0, 1, -1, -1, 0] 1 [(1, 1)] (.ps [1, 0, -1, 0, 0, 0] 1 [(1, 6)] (.ln [1, 0, 0, 0, 0, 1] (.ln [0, 0, 1, 0, -1, 0] (.ln [0, 0, 1, 1, 0, 1] (.ln [1, 0, -1, 0, 0, 0] (.fin)))))))))))))))))))))))))))))))))) (.ps [-1, 1, 0, 1, 1, 0] 1 [(1, 0)] (.ng [0, 0, 1, 0, -1, 0] 2 [(1, 6), (1, 3), (1, 1), (1, 0)] (.ln [0, 1, 0, 1, 1, 0] (.ln [0, 0, 0, 0, 0, 1] (.ln [1, 0, 0, 0, 0, 1] (.ln [-1, 1, 1, 1, 0, 0] (.ln [0, 0, 1, -1, -1, 0] (.ng [0, 0, 1, -1, -1, 0] 1 [(1, 6), (1, 3), (1, 0)] (.ps [0, 0, -1, 1, 1, 0] 1 [(1, 6), (1, 3), (1, 0)] (.ng [0, 0, 1, 0, -1, 0] 2 [(1, 6), (1, 3), (1, 1), (1, 0)] (.ln [0, 0, 0, 1, 1, 0] (.ln [0, 0, 0, 0, 0, 1] (.ln [0, 0, 1, 0, 0, 1] (.ln [0, 0, 0, 1, 0, 0] (.ng [0, 0, 0, 0, 0, 1] 1 [(1, 2)] (.ln [1, -1, 0, -1, -1, 0] (.ng [1, -1, 0, -1, -1, 0] 1 [(1, 0)] (.ps [-1, 1, 0, 1, 1, 0] 1 [(1, 0)] (.ng [1, 0, 0, -1, -1, 0] 1 [(1, 6), (1, 0)] (.ln [0, 1, 0, 1, 1, 0] (.ln [0, 0, 0, 0, 0, 1] (.ln [1, 0, 0, 0, 0, 1] (.ln [0, 1, 0, 0, 0, 0] (.ng [0, 1, 0, 0, 0, 0] 1 [(1, 6)] (.ng [0, 0, 0, 1, 0, 0] 1 [(1, 5)] (.ln [1, -1, -1, 0, 0, 0] (.ps [1, -1, -1, 0, 0, 0] 1 [(1, 4)] (.ng [-1, 1, 1, 0, 0, 0] 1 [(1, 4)] (.ps [1, 0, -1, 0, 0, 0] 1 [(1, 3)] (.ln [1, 0, 0, 0, 0, 1] (.ln [-1, 1, 1, 1, 0, 0] (.ln [0, 0, 1, 1, 0, 1] (.ln [1, 0, -1, 0, 0, 0] (.fin)))))))))))))))))))))))))))))))))))))))))))))))))))) (.ln [1, 0, 0, 0, 0, 0] (.ln [-1, 1, 1, 1, 0, 0] (.ln [1, 0, 0, 1, 0, 0] (.ln [1, 0, -1, 0, 0, 0] (.ng [1, 0, -1, 0, 0, 0] 1 [(1, 0)] (.sp [0, 0, 0, 0, 0, 1] (.ln [0, 0, 1, 1, -1, 1] (.sp [0, 0, 1, 1, -1, 1] (.sp [0, 0, -1, -1, 1, 0] (.sp [1, 0, 0, 1, -1, 1] (.ln [1, 0, -1, 0, 1, 0] (.ln [0, 0, -1, -1, 1, 0] (.ln [0, 0, 0, 0, 1, 0] (.ln [1, 0, 0, 1, -1, 1] (.ng [-1, 1, 1, 1, 0, 0] 1 [(1, 6), (1, 5)] (.ps [0, 0, -1, -1, 1, 0] 1 [(1, 1)] (.ln [1, -1, -1, -2, 0, 0] (.ps [1, -1, -1, -2, 0, 0] 1 [(2, 6), (1, 5)] (.sp [-1, 1, 0, 1, 1, 0] (.ps [0, 0, 0, -1, 0, 0] 1 [(1, 7)] (.ln [0, 1, 0, 1, 1, 0] (.ln [-1, 1, 0, 1, 1, 0] (.ln [1, 0, -1, 0, 1, 0] (.ln [0, 0, 0, -1, 0, 0] (.ln [0, 0, 1, -1, -1, 1] (.ps [0, 0, 1, -1, -1, 1] 1 [(2, 7), (1, 3)] (.ps [0, 0, -1, 1, 1, 0] 1 [(1, 6), (1, 0)] (.ps [0, 0, 1, 0, -1, 1] 1 [(1, 7), (1, 3)] (.ln [0, 0, 0, 1, 1, 0] (.ln [0, 0, -1, 1, 1, 0] (.ln [0, 0, 0, 0, 1, 0] (.ln [0, 0, 1, 0, -1, 1] (.ps [0, 0, -1, 1, 1, 0] 1 [(1, 6), (1, 0)] (.ln [1, -1, -1, 0, 0, 0] (.ps [1, -1, -1, 0, 0, 0] 1 [(1, 6)] (.ps [-1, 1, 0, 1, 1, 0] 1 [(1, 0)] (.ng [1, 0, -1, 0, 0, 0] 1 [(1, 5)] (.ln [0, 1, 0, 1, 1, 0] (.ln [-1, 1, 0, 1, 1, 0] (.ln [1, 0, -1, 1, 1, 0] (.ln [1, 0, -1, 0, 0, 0] (.ng [1, 0, -1, 0, 0, 0] 1 [(1, 5)] (.ps [0, 0, 1, 0, -1, 1] 1 [(1, 7), (1, 3)] (.ln [0, 0, 1, 1, -1, 1] (.ps [0, 0, 1, 1, -1, 1] 1 [(1, 3)] (.ps [0, 0, 0, -1, 0, 0] 1 [(1, 7)] (.ps [1, 0, 0, 1, -1, 1] 1 [(1, 1)] (.ln [1, 0, -1, 0, 1, 0] (.ln [0, 0, 0, -1, 0, 0] (.ln [0, 0, 0, 0, 1, 0] (.ln [1, 0, 0, 1, -1, 1] (.fin))))))))))))))))))))))))))))))))) (.ps [0, 0, 0, -1, 0, 0] 1 [(1, 7)] (.ln [1, 0, 0, 0, 0, 0] (.ln [-1, 1, 0, 1, 1, 0] (.ln [1, 0, -1, 0, 1, 0] (.ln [0, 0, 0, -1, 0, 0] (.ln [0, 0, 1, -1, -1, 1] (.ps [0, 0, 1, -1, -1, 1] 1 [(2, 7), (1, 3)] (.sp [0, 0, -1, 1, 1, 0] (.ps [0, 0, 1, 0, -1, 1] 1 [(1, 8), (1, 4)] (.ln [0, 0, 0, 1, 1, 0] (.ln [0, 0, -1, 1, 1, 0] (.ln [0, 0, 0, 0, 1, 0] (.ln [0, 0, 1, 0, -1, 1] (.ps [0, 0, -1, 1, 1, 0] 1 [(1, 0)] (.ln [1, -1, -1, 0, 0, 0] (.ps [1, -1, -1, 0, 0, 0] 1 [(1, 7)] (.ng [-1, 1, 0, 1, 1, 0] 1 [(1, 1)] (.ng [1, 0, -1, 0, 0, 0] 1 [(1, 6)] (.ln [1, 0, 0, 0, 0, 0] (.ln [-1, 1, 0, 1, 1, 0] (.ln [1, 0, -1, 1, 1, 0] (.ln [1, 0, -1, 0, 0, 0] (.ng [1, 0, -1, 0, 0, 0] 1 [(1, 6)] (.ps [0, 0, 1, 0, -1, 1] 1 [(1, 8), (1, 4)] (.ln [0, 0, 1, 1, -1, 1] (.ps [0, 0, 1, 1, -1, 1] 1 [(1, 4)] (.ps [0, 0, 0, -1, 0, 0] 1 [(1, 8)] (.ps [1, 0, 0, 1, -1, 1] 1 [(1, 2)] (.ln [1, 0, -1, 0, 1, 0] (.ln [0, 0, 0, -1, 0, 0] (.ln [0, 0, 0, 0, 1, 0] (.ln [1, 0, 0, 1, -1, 1] (.fin))))))))))))))))))))))))) (.ps [0, 0, 1, 0, -1, 1] 1 [(1, 8), (1, 4)] (.ln [0, 0, 1, 0, 0, 0] (.ln [0, 0, -1, 1, 1, 0] (.ln [0, 0, 0, 0, 1, 0] (.ln [0, 0, 1, 0, -1, 1] (.ng [0, 0, -1, 1, 1, 0] 1 [(1, 0)] (.ln [1, -1, -1, 0, 0, 0] (.ps [1, -1, -1, 0, 0, 0] 1 [(1, 7)] (.ng [-1, 1, 1, 0, 0, 0] 1 [(1, 7)] (.ng [1, 0, -1, 0, 0, 0] 1 [(1, 6)] (.ln [1, 0, 0, 0, 0, 0] (.ln [-1, 1, 0, 1, 1, 0] (.ln [1, 0, -1, 1, 1, 0] (.ln [1, 0, -1, 0, 0, 0] (.ng [1, 0, -1, 0, 0, 0] 1 [(1, 6)] (.ps [0, 0, 1, 0, -1, 1] 1 [(1, 8), (1, 4)] (.ln [0, 0, 1, 1, -1, 1] (.ps [0, 0, 1, 1, -1, 1] 1 [(1, 4)] (.ps [0, 0, 0, -1, 0, 0] 1 [(1, 8)] (.ps [1, 0, 0, 1, -1, 1] 1 [(1, 2)] (.ln [1, 0, -1, 0, 1, 0] (.ln [0, 0, 0, -1, 0, 0] (.ln [0, 0, 0, 0, 1, 0] (.ln [1, 0, 0, 1, -1, 1] (.fin)))))))))))))))))))))))))))))))))))))))))) (.ln [1, 0, -1, 0, 1, 0] (.ln [0, 0, -1, -1, 1, 0] (.ln [1, 0, 0, 1, 0, 1] (.ln [1, 0, 0, 1, -1, 1] (.ng [-1, 1, 1, 1, 0, 0] 1 [(1, 6), (1, 5)] (.ps [0, 0, -1, -1, 1, 0] 1 [(1, 1)] (.ln [1, -1, -1, -2, 0, 0] (.ps [1, -1, -1, -2, 0, 0] 1 [(2, 6), (1, 5)] (.sp [-1, 1, 0, 1, 1, 0] (.ps [0, 0, 0, -1, 0, 0] 1 [(1, 7)] (.ln [0, 1, 0, 1, 1, 0] (.ln [-1, 1, 0, 1, 1, 0] (.ln [1, 0, -1, 0, 1, 0] (.ln [0, 0, 0, -1, 0, 0] (.ln [0, 0, 1, -1, -1, 1] (.ps [0, 0, 1, -1, -1, 1] 1 [(2, 7), (1, 3)] (.ps [0, 0, -1, 1, 1, 0] 1 [(1, 6), (1, 0)] (.ps [0, 0, 1, 0, -1, 1] 1 [(1, 7), (1, 3)] (.ln [0, 0, 0, 1, 1, 0] (.ln [0, 0, -1, 1, 1, 0] (.ln [0, 0, 0, 0, 1, 0] (.ln [0, 0, 1, 0, -1, 1] (.ps [0, 0, -1, 1, 1, 0] 1 [(1, 6), (1, 0)] (.ln [1, -1, -1, 0, 0, 0] (.ps [1, -1, -1, 0, 0, 0] 1 [(1, 6)] (.ps [-1, 1, 0, 1, 1, 0] 1 [(1, 0)] (.ng [1, 0, -1, 0, 0, 0] 1 [(1, 5)] (.ln [0, 1, 0, 1, 1, 0] (.ln [-1, 1, 0, 1, 1, 0] (.ln [1, 0, -1, 1, 1, 0] (.ln [1, 0, -1, 0, 0, 0] (.ng [1, 0, -1, 0, 0, 0] 1 [(1, 5)] (.ps [0, 0, 1, 0, -1, 1] 1 [(1, 7), (1, 3)] (.ln [0, 0, 1, 1, -1, 1] (.ps [0, 0, 1, 1, -1, 1] 1 [(1, 3)] (.ps [0, 0, 0, -1, 0, 0] 1 [(1, 7)] (.ng [1, 0, 0, 1, -1, 1] 1 [(1, 1)] (.ln [1, 0, -1, 0, 1, 0] (.ln [0, 0, 0, -1, 0, 0] (.ln [1, 0, 0, 1, 0, 1] (.ln [1, 0, 0, 1, -1, 1] (.fin))))))))))))))))))))))))))))))))) (.ps [0, 0, 0, -1, 0, 0] 1 [(1, 7)] (.ln [1, 0, 0, 0, 0, 0] (.ln [-1, 1, 0, 1, 1, 0] (.ln [1, 0, -1, 0, 1, 0] (.ln [0, 0, 0, -1, 0, 0] (.ln [0, 0, 1, -1, -1, 1] (.ps [0, 0, 1, -1, -1, 1] 1 [(2, 7), (1, 3)] (.sp [0, 0, -1, 1, 1, 0] (.ps [0, 0, 1, 0, -1, 1] 1 [(1, 8), (1, 4)] (.ln [0, 0, 0, 1, 1, 0] (.ln [0, 0, -1, 1, 1, 0] (.ln [0, 0, 0, 0, 1, 0] (.ln [0, 0, 1, 0, -1, 1] (.ps [0, 0, -1, 1, 1, 0] 1 [(1, 0)] (.ln [1, -1, -1, 0, 0, 0] (.ps [1, -1, -1, 0, 0, 0] 1 [(1, 7)] (.ng [-1, 1, 0, 1, 1, 0] 1 [(1, 1)] (.ng [1, 0, -1, 0, 0, 0] 1 [(1, 6)] (.ln [1, 0, 0, 0, 0, 0] (.ln [-1, 1, 0, 1, 1, 0] (.ln [1, 0, -1, 1, 1, 0] (.ln [1, 0, -1, 0, 0, 0] (.ng [1, 0, -1, 0, 0, 0] 1 [(1, 6)] (.ps [0, 0, 1, 0, -1, 1] 1 [(1, 8), (1, 4)] (.ln [0, 0, 1, 1, -1, 1] (.ps [0, 0, 1, 1, -1, 1] 1 [(1, 4)] (.ps [0, 0, 0, -1, 0, 0] 1 [(1, 8)] (.ng [1, 0, 0, 1, -1, 1] 1 [(1, 2)] (.ln [1, 0, -1, 0, 1, 0] (.ln [0, 0, 0, -1, 0, 0] (.ln [1, 0, 0, 1, 0, 1] (.ln [1, 0, 0, 1, -1, 1] (.fin))))))))))))))))))))))))) (.ps [0, 0, 1, 0, -1, 1] 1 [(1, 8), (1, 4)] (.ln [0, 0, 1, 0, 0, 0] (.ln [0, 0, -1, 1, 1, 0] (.ln [0, 0, 0, 0, 1, 0] (.ln [0, 0, 1, 0, -1, 1] (.ng [0, 0, -1, 1, 1, 0] 1 [(1, 0)] (.ln [1, -1, -1, 0, 0, 0] (.ps [1, -1, -1, 0, 0, 0] 1 [(1, 7)] (.ng [-1, 1, 1, 0, 0, 0] 1 [(1, 7)] (.ng [1, 0, -1, 0, 0, 0] 1 [(1, 6)] (.ln [1, 0, 0, 0, 0, 0] (.ln [-1, 1, 0, 1, 1, 0] (.ln [1, 0, -1, 1, 1, 0] (.ln [1, 0, -1, 0, 0, 0] (.ng [1, 0, -1, 0, 0, 0] 1 [(1, 6)] (.ps [0, 0, 1, 0, -1, 1] 1 [(1, 8), (1, 4)] (.ln [0, 0, 1, 1, -1, 1] (.ps [0, 0, 1, 1, -1, 1] 1 [(1, 4)] (.ps [0, 0, 0, -1, 0, 0] 1 [(1, 8)] (.ng [1, 0, 0, 1, -1, 1] 1 [(1, 2)] (.ln [1, 0, -1, 0, 1, 0] (.ln [0, 0, 0, -1, 0, 0] (.ln [1, 0, 0, 1, 0, 1] (.ln [1, 0, 0, 1, -1, 1] (.fin))))))))))))))))))))))))))))))))))))))))))) (.sp [1, 0, 0, 1, -1, 1] (.ln [1, 0, 0, 1, 0, 0] (.ln [0, 0, -1, -1, 1, 0] (.ln [0, 0, 0, 0, 1, 0] (.ln [1, 0, 0, 1, -1, 1] (.ng [-1, 1, 1, 1, 0, 0] 1 [(1, 6), (1, 5)] (.ng [0, 0, -1, -1, 1, 0] 1 [(1, 1)] (.ln [1, -1, -1, -2, 0, 0] (.ps [1, -1, -1, -2, 0, 0] 1 [(2, 6), (1, 5)] (.ng [-1, 1, 1, 2, 0, 0] 1 [(2, 6), (1, 5)] (.ps [0, 0, 0, -1, 0, 0] 1 [(1, 6)] (.ln [1, 0, 0, 0, 0, 0] (.ln [-1, 1, 0, 1, 1, 0] (.ln [1, 0, -1, 0, 1, 0] (.ln [0, 0, 0, -1, 0, 0] (.ln [0, 0, 1, -1, -1, 1] (.ps [0, 0, 1, -1, -1, 1] 1 [(2, 6), (1, 2)] (.ng [0, 0, -1, 1, 1, 0] 1 [(2, 6), (1, 1)] (.ps [0, 0, 1, 0, -1, 1] 1 [(1, 6), (1, 2)] (.ln [0, 0, 1, 0, 0, 0] (.ln [0, 0, -1, 1, 1, 0] (.ln [0, 0, 0, 0, 1, 0] (.ln [0, 0, 1, 0, -1, 1] (.ng [0, 0, -1, 1, 1, 0] 1 [(2, 6), (1, 1)] (.ln [1, -1, -1, 0, 0, 0] (.ps [1, -1, -1, 0, 0, 0] 1 [(1, 5)] (.ng [-1, 1, 1, 0, 0, 0] 1 [(1, 5)] (.ng [1, 0, -1, 0, 0, 0] 1 [(1, 4)] (.ln [1, 0, 0, 0, 0, 0] (.ln [-1, 1, 0, 1, 1, 0] (.ln [1, 0, -1, 1, 1, 0] (.ln [1, 0, -1, 0, 0, 0] (.ng [1, 0, -1, 0, 0, 0] 1 [(1, 4)] (.ps [0, 0, 1, 0, -1, 1] 1 [(1, 6), (1, 2)] (.ln [0, 0, 1, 1, -1, 1] (.ps [0, 0, 1, 1, -1, 1] 1 [(1, 2)] (.ps [0, 0, 0, -1, 0, 0] 1 [(1, 6)] (.ps [1, 0, 0, 1, -1, 1] 1 [(1, 0)] (.ln [1, 0, -1, 0, 1, 0] (.ln [0, 0, 0, -1, 0, 0] (.ln [0, 0, 0, 0, 1, 0] (.ln [1, 0, 0, 1, -1, 1] (.fin)))))))))))))))))))))))))))))))))))))))))) (.ln [1, 0, 0, 1, 0, 0] (.ln [0, 0, -1, -1, 1, 0] (.ln [1, 0, 0, 1, 0, 1] (.ln [1, 0, 0, 1, -1, 1] (.ng [-1, 1, 1, 1, 0, 0] 1 [(1, 6), (1, 5)] (.ng [0, 0, -1, -1, 1, 0] 1 [(1, 1)] (.ln [1, -1, -1, -2, 0, 0] (.ps [1, -1, -1, -2, 0, 0] 1 [(2, 6), (1, 5)] (.ng [-1, 1, 1, 2, 0, 0] 1 [(2, 6), (1, 5)] (.ps [0, 0, 0, -1, 0, 0] 1 [(1, 6)] (.ln [1, 0, 0, 0, 0, 0] (.ln [-1, 1, 0, 1, 1, 0] (.ln [1, 0, -1, 0, 1, 0] (.ln [0, 0, 0, -1, 0, 0] (.ln [0, 0, 1, -1, -1, 1] (.ps [0, 0, 1, -1, -1, 1] 1 [(2, 6), (1, 2)] (.ng [0, 0, -1, 1, 1, 0] 1 [(2, 6), (1, 1)] (.ps [0, 0, 1, 0, -1, 1] 1 [(1, 6), (1, 2)] (.ln [0, 0, 1, 0, 0, 0] (.ln [0, 0, -1, 1, 1, 0] (.ln [0, 0, 0, 0, 1, 0] (.ln [0, 0, 1, 0, -1, 1] (.ng [0, 0, -1, 1, 1, 0] 1 [(2, 6), (1, 1)] (.ln [1, -1, -1, 0, 0, 0] (.ps [1, -1, -1, 0, 0, 0] 1 [(1, 5)] (.ng [-1, 1, 1, 0, 0, 0] 1 [(1, 5)] (.ng [1, 0, -1, 0, 0, 0] 1 [(1, 4)] (.ln [1, 0, 0, 0, 0, 0] (.ln [-1, 1, 0, 1, 1, 0] (.ln [1, 0, -1, 1, 1, 0] (.ln [1, 0, -1, 0, 0, 0] (.ng [1, 0, -1, 0, 0, 0] 1 [(1, 4)] (.ps [0, 0, 1, 0, -1, 1] 1 [(1, 6), (1, 2)] (.ln [0, 0, 1, 1, -1, 1] (.ps [0, 0, 1, 1, -1, 1] 1 [(1, 2)] (.ps [0, 0, 0, -1, 0, 0] 1 [(1, 6)] (.ng [1, 0, 0, 1, -1, 1] 1 [(1, 0)] (.ln [1, 0, -1, 0, 1, 0] (.ln [0, 0, 0, -1, 0, 0] (.ln [1, 0, 0, 1, 0, 1] (.ln [1, 0, 0, 1, -1, 1] (.fin)))))))))))))))))))))))))))))))))))))))))))) (.ps [0, 0, -1, -1, 1, 0] 1 [(1, 1), (1, 0)] (.ng [1, 0, 0, 1, -1, 1] 1 [(1, 2), (1, 0)] (.ln [1, 0, -1, 0, 1, 0] (.ln [0, 0, 0, 0, 0, 1] (.ln [1, 0, 0, 1, 0, 1] (.ln [1, 0, -1, 0, 0, 0] (.ng [-1, 1, 1, 1, 0, 0] 1 [(1, 4), (1, 3)] (.ps [0, 0, 0, 0, 0, 1] 1 [(1, 1)] (.ln [1, -1, 0, -1, -1, 1] (.sp [1, -1, 0, -1, -1, 1] (.sp [-1, 1, 0, 1, 1, 0] (.sp [0, 0, 1, 0, -1, 1] (.ln [0, 1, 0, 1, 1, 0] (.ln [-1, 1, 0, 1, 1, 0] (.ln [1, 0, -1, 0, 1, 0] (.ln [0, 0, 1, 0, -1, 1] (.ln [0, 0, 1, -1, -1, 1] (.ps [0, 0, 1, -1, -1, 1] 1 [(1, 7), (1, 0)] (.ps [0, 0, -1, 1, 1, 0] 1 [(1, 6), (1, 1)] (.ps [0, 0, 1, 0, -1, 1] 1 [(1, 0)] (.ln [0, 0, 0, 1, 1, 0] (.ln [0, 0, -1, 1, 1, 0] (.ln [0, 0, 0, 0, 1, 0] (.ln [0, 0, 1, 0, -1, 1] (.ps [0, 0, -1, 1, 1, 0] 1 [(1, 6), (1, 1)] (.ln [1, -1, -1, 0, 0, 0] (.ps [1, -1, -1, 0, 0, 0] 1 [(1, 6)] (.ps [-1, 1, 0, 1, 1, 0] 1 [(1, 1)] (.ng [1, 0, -1, 0, 0, 0] 1 [(1, 5)] (.ln [0, 1, 0, 1, 1, 0] (.ln [-1, 1, 0, 1, 1, 0] (.ln [1, 0, -1, 1, 1, 0] (.ln [1, 0, -1, 0, 0, 0] (.ng [1, 0, -1, 0, 0, 0] 1 [(1, 5)] (.ps [0, 0, 1, 0, -1, 1] 1 [(1, 0)] (.ln [0, 0, 1, 1, -1, 1] (.ng [0, 0, 1, 1, -1, 1] 1 [(1, 3)] (.ps [0, 0, 0, -1, 0, 0] 1 [(1, 7)] (.ng [1, 0, 0, 1, -1, 1] 1 [(1, 5), (1, 3)] (.ln [1, 0, -1, 0, 1, 0] (.ln [0, 0, 1, 0, -1, 1] (.ln [1, 0, 0, 1, 0, 1] (.ln [1, 0, -1, 0, 0, 0] (.fin)))))))))))))))))))))))))))))))) (.ln [0, 1, 0, 1, 1, 0] (.ln [-1, 1, 0, 1, 1, 0] (.ln [1, 0, 0, 0, 0, 1] (.ln [0, 0, 1, 0, -1, 1] (.ln [0, 0, 1, -1, -1, 1] (.sp [0, 0, 1, -1, -1, 1] (.ps [0, 0, -1, 1, 1, 0] 1 [(1, 7), (1, 2)] (.ng [0, 0, 1, 0, -1, 1] 1 [(1, 1)] (.ln [0, 0, 0, 1, 1, 0] (.ln [0, 0, -1, 1, 1, 0] (.ln [0, 0, 1, 0, 0, 1] (.ln [0, 0, 1, 0, -1, 1] (.ps [0, 0, -1, 1, 1, 0] 1 [(1, 7), (1, 2)] (.ln [1, -1, -1, 0, 0, 0] (.ps [1, -1, -1, 0, 0, 0] 1 [(1, 7)] (.ps [-1, 1, 0, 1, 1, 0] 1 [(1, 2)] (.ng [1, 0, -1, 0, 0, 0] 1 [(1, 6)] (.ln [0, 1, 0, 1, 1, 0] (.ln [-1, 1, 0, 1, 1, 0] (.ln [1, 0, -1, 1, 1, 0] (.ln [1, 0, -1, 0, 0, 0] (.ng [1, 0, -1, 0, 0, 0] 1 [(1, 6)] (.ng [0, 0, 1, 0, -1, 1] 1 [(1, 1)] (.ln [0, 0, -1, 1, 1, -1] (.ng [0, 0, -1, 1, 1, -1] 1 [(1, 0)] (.ps [0, 0, 1, -1, -1, 1] 1 [(1, 0)] (.ng [1, 0, -2, 1, 1, -1] 1 [(1, 6), (1, 0)] (.ln [1, 0, 0, 0, 0, 1] (.ln [0, 0, 1, 0, -1, 1] (.ln [1, 0, 0, 1, 0, 1] (.ln [1, 0, -1, 0, 0, 0] (.fin)))))))))))))))))))))))))) (.ps [0, 0, -1, 1, 1, 0] 1 [(1, 7), (1, 2)] (.ng [0, 0, 1, 0, -1, 1] 1 [(1, 1)] (.ln [0, 0, 0, 1, 1, 0] (.ln [0, 0, 0, 0, 0, 1] (.ln [0, 0, 1, 0, 0, 1] (.ln [0, 0, 0, 1, 0, 0] (.ps [0, 0, 0, 0, 0, 1] 1 [(1, 5)] (.ln [1, -1, 0, -1, -1, 1] (.ps [1, -1, 0, -1, -1, 1] 1 [(1, 3)] (.ps [-1, 1, 0, 1, 1, 0] 1 [(1, 2)] (.ng [1, 0, 0, -1, -1, 1] 1 [(1, 6), (1, 0)] (.ln [0, 1, 0, 1, 1, 0] (.ln [-1, 1, 0, 1, 1, 0] (.ln [1, 0, 0, 0, 0, 1] (.ln [1, 0, 0, -1, -1, 1] (.ng [1, 0, 0, -1, -1, 1] 1 [(1, 6), (1, 0)] (.ng [0, 0, 0, 1, 0, 0] 1 [(1, 8)] (.ln [0, 0, -1, 1, 1, -1] (.ps [0, 0, -1, 1, 1, -1] 1 [(1, 0)] (.ng [0, 0, 1, -1, -1, 1] 1 [(1, 0)] (.ng [1, 0, -1, 0, 0, 0] 1 [(1, 6)] (.ln [1, 0, 0, 0, 0, 1] (.ln [0, 0, 1, 0, -1, 1] (.ln [1, 0, 0, 1, 0, 1] (.ln [1, 0, -1, 0, 0, 0] (.fin))))))))))))))))))))))))))))))))) (.sp [0, 0, 1, 0, -1, 1] (.ln [1, 0, 0, 0, 0, 0] (.ln [-1, 1, 0, 1, 1, 0] (.ln [1, 0, -1, 0, 1, 0] (.ln [0, 0, 1, 0, -1, 1] (.ln [0, 0, 1, -1, -1, 1] (.ps [0, 0, 1, -1, -1, 1] 1 [(1, 7), (1, 0)] (.sp [0, 0, -1, 1, 1, 0] (.ps [0, 0, 1, 0, -1, 1] 1 [(1, 1)] (.ln [0, 0, 0, 1, 1, 0] (.ln [0, 0, -1, 1, 1, 0] (.ln [0, 0, 0, 0, 1, 0] (.ln [0, 0, 1, 0, -1, 1] (.ps [0, 0, -1, 1, 1, 0] 1 [(1, 0)] (.ln [1, -1, -1, 0, 0, 0] (.ps [1, -1, -1, 0, 0, 0] 1 [(1, 7)] (.ng [-1, 1, 0, 1, 1, 0] 1 [(1, 2)] (.ng [1, 0, -1, 0, 0, 0] 1 [(1, 6)] (.ln [1, 0, 0, 0, 0, 0] (.ln [-1, 1, 0, 1, 1, 0] (.ln [1, 0, -1, 1, 1, 0] (.ln [1, 0, -1, 0, 0, 0] (.ng [1, 0, -1, 0, 0, 0] 1 [(1, 6)] (.ps [0, 0, 1, 0, -1, 1] 1 [(1, 1)] (.ln [0, 0, 1, 1, -1, 1] (.ng [0, 0, 1, 1, -1, 1] 1 [(1, 4)] (.ps [0, 0, 0, -1, 0, 0] 1 [(1, 8)] (.ng [1, 0, 0, 1, -1, 1] 1 [(1, 6), (1, 4)] (.ln [1, 0, -1, 0, 1, 0] (.ln [0, 0, 1, 0, -1, 1] (.ln [1, 0, 0, 1, 0, 1] (.ln [1, 0, -1, 0, 0, 0] (.fin))))))))))))))))))))))))) (.ps [0, 0, 1, 0, -1, 1] 1 [(1, 1)] (.ln [0, 0, 1, 0, 0, 0] (.ln [0, 0, -1, 1, 1, 0] (.ln [0, 0, 0, 0, 1, 0] (.ln [0, 0, 1, 0, -1, 1] (.ng [0, 0, -1, 1, 1, 0] 1 [(1, 0)] (.ln [1, -1, -1, 0, 0, 0] (.ps [1, -1, -1, 0, 0, 0] 1 [(1, 7)] (.ng [-1, 1, 1, 0, 0, 0] 1 [(1, 7)] (.ng [1, 0, -1, 0, 0, 0] 1 [(1, 6)] (.ln [1, 0, 0, 0, 0, 0] (.ln [-1, 1, 0, 1, 1, 0] (.ln [1, 0, -1, 1, 1, 0] (.ln [1, 0, -1, 0, 0, 0] (.ng [1, 0, -1, 0, 0, 0] 1 [(1, 6)] (.ps [0, 0, 1, 0, -1, 1] 1 [(1, 1)] (.ln [0, 0, 1, 1, -1, 1] (.ng [0, 0, 1, 1, -1, 1] 1 [(1, 4)] (.ps [0, 0, 0, -1, 0, 0] 1 [(1, 8)] (.ng [1, 0, 0, 1, -1, 1] 1 [(1, 6), (1, 4)] (.ln [1, 0, -1, 0, 1, 0] (.ln [0, 0, 1, 0, -1, 1] (.ln [1, 0, 0, 1, 0, 1] (.ln [1, 0, -1, 0, 0, 0] (.fin)))))))))))))))))))))))))))))))) (.ln [1, 0, 0, 0, 0, 0] (.ln [-1, 1, 0, 1, 1, 0] (.ln [1, 0, 0, 0, 0, 1] (.ln [0, 0, 1, 0, -1, 1] (.ln [0, 0, 1, -1, -1, 1] (.sp [0, 0, 1, -1, -1, 1] (.sp [0, 0, -1, 1, 1, 0] (.ng [0, 0, 1, 0, -1, 1] 1 [(1, 2)] (.ln [0, 0, 0, 1, 1, 0] (.ln [0, 0, -1, 1, 1, 0] (.ln [0, 0, 1, 0, 0, 1] (.ln [0, 0, 1, 0, -1, 1] (.ps [0, 0, -1, 1, 1, 0] 1 [(1, 0)] (.ln [1, -1, -1, 0, 0, 0] (.ps [1, -1, -1, 0, 0, 0] 1 [(1, 8)] (.ng [-1, 1, 0, 1, 1, 0] 1 [(1, 3)] (.ng [1, 0, -1, 0, 0, 0] 1 [(1, 7)] (.ln [1, 0, 0, 0, 0, 0] (.ln [-1, 1, 0, 1, 1, 0] (.ln [1, 0, -1, 1, 1, 0] (.ln [1, 0, -1, 0, 0, 0] (.ng [1, 0, -1, 0, 0, 0] 1 [(1, 7)] (.ng [0, 0, 1, 0, -1, 1] 1 [(1, 2)] (.ln [0, 0, -1, 1, 1, -1] (.ng [0, 0, -1, 1, 1, -1] 1 [(1, 1)] (.ps [0, 0, 1, -1, -1, 1] 1 [(1, 1)] (.ng [1, 0, -2, 1, 1, -1] 1 [(1, 7), (1, 1)] (.ln [1, 0, 0, 0, 0, 1] (.ln [0, 0, 1, 0, -1, 1] (.ln [1, 0, 0, 1, 0, 1] (.ln [1, 0, -1, 0, 0, 0] (.fin))))))))))))))))))))))))) (.ng [0, 0, 1, 0, -1, 1] 1 [(1, 2)] (.ln [0, 0, 1, 0, 0, 0] (.ln [0, 0, -1, 1, 1, 0] (.ln [0, 0, 1, 0, 0, 1] (.ln [0, 0, 1, 0, -1, 1] (.ng [0, 0, -1, 1, 1, 0] 1 [(1, 0)] (.ln [1, -1, -1, 0, 0, 0] (.ps [1, -1, -1, 0, 0, 0] 1 [(1, 8)] (.ng [-1, 1, 1, 0, 0, 0] 1 [(1, 8)] (.ng [1, 0, -1, 0, 0, 0] 1 [(1, 7)] (.ln [1, 0, 0, 0, 0, 0] (.ln [-1, 1, 0, 1, 1, 0] (.ln [1, 0, -1, 1, 1, 0] (.ln [1, 0, -1, 0, 0, 0] (.ng [1, 0, -1, 0, 0, 0] 1 [(1, 7)] (.ng [0, 0, 1, 0, -1, 1] 1 [(1, 2)] (.ln [0, 0, -1, 1, 1, -1] (.ng [0, 0, -1, 1, 1, -1] 1 [(1, 1)] (.ps [0, 0, 1, -1, -1, 1] 1 [(1, 1)] (.ng [1, 0, -2, 1, 1, -1] 1 [(1, 7), (1, 1)] (.ln [1, 0, 0, 0, 0, 1] (.ln [0, 0, 1, 0, -1, 1] (.ln [1, 0, 0, 1, 0, 1] (.ln [1, 0, -1, 0, 0, 0] (.fin)))))))))))))))))))))))))) (.ps [0, 0, -1, 1, 1, 0] 1 [(1, 5), (1, 0)] (.ng [0, 0, 1, 0, -1, 1] 1 [(1, 1)] (.ln [0, 0, 0, 1, 1, 0] (.ln [0, 0, 0, 0, 0, 1] (.ln [0, 0, 1, 0, 0, 1] (.ln [0, 0, 0, 1, 0, 0] (.ps [0, 0, 0, 0, 0, 1] 1 [(1, 5)] (.ln [1, -1, 0, -1, -1, 1] (.ps [1, -1, 0, -1, -1, 1] 1 [(1, 3)] (.ng [-1, 1, 0, 1, 1, 0] 1 [(1, 2)] (.ng [1, 0, 0, -1, -1, 1] 1 [(1, 6), (1, 0)] (.ln [1, 0, 0, 0, 0, 0] (.ln [-1, 1, 0, 1, 1, 0] (.ln [1, 0, 0, 0, 0, 1] (.ln [1, 0, 0, -1, -1, 1] (.ng [1, 0, 0, -1, -1, 1] 1 [(1, 6), (1, 0)] (.ng [0, 0, 0, 1, 0, 0] 1 [(1, 8)] (.ln [0, 0, -1, 1, 1, -1] (.ps [0, 0, -1, 1, 1, -1] 1 [(1, 0)] (.ng [0, 0, 1, -1, -1, 1] 1 [(1, 0)] (.ng [1, 0, -1, 0, 0, 0] 1 [(1, 6)] (.ln [1, 0, 0, 0, 0, 1] (.ln [0, 0, 1, 0, -1, 1] (.ln [1, 0, 0, 1, 0, 1] (.ln [1, 0, -1, 0, 0, 0] (.fin)))))))))))))))))))))))))))))))))) (.ps [-1, 1, 0, 1, 1, 0] 1 [(1, 2), (1, 0)] (.ng [0, 0, 1, 0, -1, 1] 2 [(1, 4), (1, 1), (1, 0)] (.ln [0, 1, 0, 1, 1, 0] (.ln [0, 0, 0, 0, 0, 1] (.ln [1, 0, 0, 0, 0, 1] (.ln [-1, 1, 1, 1, 0, 0] (.ln [0, 0, 1, -1, -1, 1] (.ng [0, 0, 1, -1, -1, 1] 1 [(1, 4), (1, 0)] (.ps [0, 0, -1, 1, 1, 0] 1 [(1, 4), (1, 2), (1, 0)] (.ng [0, 0, 1, 0, -1, 1] 2 [(1, 4), (1, 1), (1, 0)] (.ln [0, 0, 0, 1, 1, 0] (.ln [0, 0, 0, 0, 0, 1] (.ln [0, 0, 1, 0, 0, 1] (.ln [0, 0, 0, 1, 0, 0] (.ps [0, 0, 0, 0, 0, 1] 1 [(1, 2)] (.ln [1, -1, 0, -1, -1, 1] (.ng [1, -1, 0, -1, -1, 1] 1 [(1, 0)] (.ps [-1, 1, 0, 1, 1, 0] 1 [(1, 2), (1, 0)] (.ng [1, 0, 0, -1, -1, 1] 1 [(1, 6), (1, 0)] (.ln [0, 1, 0, 1, 1, 0] (.ln [0, 0, 0, 0, 0, 1] (.ln [1, 0, 0, 0, 0, 1] (.ln [0, 1, 0, 0, 0, 0] (.ng [0, 1, 0, 0, 0, 0] 1 [(1, 6)] (.ng [0, 0, 0, 1, 0, 0] 1 [(1, 5)] (.ln [1, -1, -1, 0, 0, 0] (.ps [1, -1, -1, 0, 0, 0] 1 [(1, 4)] (.ng [-1, 1, 1, 0, 0, 0] 1 [(1, 4)] (.ng [1, 0, -1, 0, 0, 0] 1 [(1, 3)] (.ln [1, 0, 0, 0, 0, 1] (.ln [-1, 1, 1, 1, 0, 0] (.ln [1, 0, 0, 1, 0, 1] (.ln [1, 0, -1, 0, 0, 0] (.fin)))))))))))))))))))))))))))))))))))))))))))))) (.ln [0, 0, 1, 1, -1, 0] (.sp [0, 0, 1, 1, -1, 0] (.ng [0, 0, -1, -1, 1, 0] 1 [(1, 0)] (.sp [1, 0, 0, 1, -1, 0] (.ln [1, 0, 0, 1, 0, 0] (.ln [0, 0, -1, -1, 1, 1] (.ln [0, 0, 0, 0, 1, 1] (.ln [1, 0, 0, 1, -1, 0] (.ng [-1, 1, 1, 1, 0, 0] 1 [(1, 5), (1, 4)] (.ng [0, 0, -1, -1, 1, 1] 1 [(1, 2), (1, 1)] (.ln [1, -1, -1, -2, 0, 0] (.ps [1, -1, -1, -2, 0, 0] 1 [(2, 5), (1, 4)] (.ng [-1, 1, 1, 2, 0, 0] 1 [(2, 5), (1, 4)] (.ps [0, 0, 0, -1, 0, 0] 1 [(1, 5)] (.ln [1, 0, 0, 0, 0, 0] (.ln [-1, 1, 0, 1, 1, 1] (.ln [1, 0, -1, 0, 1, 1] (.ln [0, 0, 0, -1, 0, 0] (.ln [0, 0, 1, -1, -1, 0] (.ps [0, 0, 1, -1, -1, 0] 1 [(2, 5), (1, 1)] (.ng [0, 0, -1, 1, 1, 0] 1 [(2, 5), (1, 1)] (.ps [0, 0, 1, 0, -1, 0] 1 [(1, 5), (1, 1)] (.ln [0, 0, 1, 0, 0, 0] (.ln [0, 0, -1, 1, 1, 1] (.ln [0, 0, 0, 0, 1, 1] (.ln [0, 0, 1, 0, -1, 0] (.ng [0, 0, -1, 1, 1, 1] 1 [(2, 5), (1, 2), (1, 1)] (.ln [1, -1, -1, 0, 0, 0] (.ps [1, -1, -1, 0, 0, 0] 1 [(1, 4)] (.ng [-1, 1, 1, 0, 0, 0] 1 [(1, 4)] (.ng [1, 0, -1, 0, 0, 0] 1 [(1, 3)] (.ln [1, 0, 0, 0, 0, 0] (.ln [-1, 1, 0, 1, 1, 1] (.ln [1, 0, -1, 1, 1, 1] (.ln [1, 0, -1, 0, 0, 0] (.ng [1, 0, -1, 0, 0, 0] 1 [(1, 3)] (.ps [0, 0, 1, 0, -1, 0] 1 [(1, 5), (1, 1)] (.ln [0, 0, 1, 1, -1, 0] (.ps [0, 0, 1, 1, -1, 0] 1 [(1, 1)] (.ps [0, 0, 0, -1, 0, 0] 1 [(1, 5)] (.ps [1, 0, 0, 1, -1, 0] 1 [(1, 0)] (.ln [1, 0, -1, 0, 1, 1] (.ln [0, 0, 0, -1, 0, 0] (.ln [0, 0, 0, 0, 1, 1] (.ln [1, 0, 0, 1, -1, 0] (.fin)))))))))))))))))))))))))))))))))))))))))) (.ln [1, 0, 0, 1, 0, 0] (.ln [0, 0, -1, -1, 1, 1] (.ln [1, 0, 0, 1, 0, 1] (.ln [1, 0, 0, 1, -1, 0] (.ng [-1, 1, 1, 1, 0, 0] 1 [(1, 5), (1, 4)] (.ng [0, 0, -1, -1, 1, 1] 1 [(1, 2), (1, 1)] (.ln [1, -1, -1, -2, 0, 0] (.ps [1, -1, -1, -2, 0, 0] 1 [(2, 5), (1, 4)] (.ng [-1, 1, 1, 2, 0, 0] 1 [(2, 5), (1, 4)] (.ps [0, 0, 0, -1, 0, 0] 1 [(1, 5)] (.ln [1, 0, 0, 0, 0, 0] (.ln [-1, 1, 0, 1, 1, 1] (.ln [1, 0, -1, 0, 1, 1] (.ln [0, 0, 0, -1, 0, 0] (.ln [0, 0, 1, -1, -1, 0] (.ps [0, 0, 1, -1, -1, 0] 1 [(2, 5), (1, 1)] (.ng [0, 0, -1, 1, 1, 0] 1 [(2, 5), (1, 1)] (.ps [0, 0, 1, 0, -1, 0] 1 [(1, 5), (1, 1)] (.ln [0, 0, 1, 0, 0, 0] (.ln [0, 0, -1, 1, 1, 1] (.ln [0, 0, 0, 0, 1, 1] (.ln [0, 0, 1, 0, -1, 0] (.ng [0, 0, -1, 1, 1, 1] 1 [(2, 5), (1, 2), (1, 1)] (.ln [1, -1, -1, 0, 0, 0] (.ps [1, -1, -1, 0, 0, 0] 1 [(1, 4)] (.ng [-1, 1, 1, 0, 0, 0] 1 [(1, 4)] (.ng [1, 0, -1, 0, 0, 0] 1 [(1, 3)] (.ln [1, 0, 0, 0, 0, 0] (.ln [-1, 1, 0, 1, 1, 1] (.ln [1, 0, -1, 1, 1, 1] (.ln [1, 0, -1, 0, 0, 0] (.ng [1, 0, -1, 0, 0, 0] 1 [(1, 3)] (.ps [0, 0, 1, 0, -1, 0] 1 [(1, 5), (1, 1)] (.ln [0, 0, 1, 1, -1, 0] (.ps [0, 0, 1, 1, -1, 0] 1 [(1, 1)] (.ps [0, 0, 0, -1, 0, 0] 1 [(1, 5)] (.ng [1, 0, 0, 1, -1, 0] 1 [(1, 0)] (.ln [1, 0, -1, 0, 1, 1] (.ln [0, 0, 0, -1, 0, 0] (.ln [1, 0, 0, 1, 0, 1] (.ln [1, 0, 0, 1, -1, 0] (.fin)))))))))))))))))))))))))))))))))))))))))))) (.ps [0, 0, -1, -1, 1, 0] 1 [(1, 0)] (.ng [1, 0, 0, 1, -1, 0] 1 [(1, 2), (1, 0)] (.ln [1, 0, -1, 0, 1, 0] (.ln [0, 0, 0, 0, 0, 1] (.ln [1, 0, 0, 1, 0, 1] (.ln [1, 0, -1, 0, 0, 0] (.ng [-1, 1, 1, 1, 0, 0] 1 [(1, 4), (1, 3)] (.ng [0, 0, 0, 0, 0, 1] 1 [(1, 1)] (.ln [1, -1, 0, -1, -1, 0] (.sp [1, -1, 0, -1, -1, 0] (.ng [-1, 1, 0, 1, 1, 0] 1 [(1, 0)] (.sp [0, 0, 1, 0, -1, 0] (.ln [1, 0, 0, 0, 0, 0] (.ln [-1, 1, 0, 1, 1, 1] (.ln [1, 0, -1, 0, 1, 1] (.ln [0, 0, 1, 0, -1, 0] (.ln [0, 0, 1, -1, -1, 0] (.ps [0, 0, 1, -1, -1, 0] 1 [(1, 6), (1, 0)] (.ng [0, 0, -1, 1, 1, 0] 1 [(1, 6), (1, 0)] (.ps [0, 0, 1, 0, -1, 0] 1 [(1, 0)] (.ln [0, 0, 1, 0, 0, 0] (.ln [0, 0, -1, 1, 1, 1] (.ln [0, 0, 0, 0, 1, 1] (.ln [0, 0, 1, 0, -1, 0] (.ng [0, 0, -1, 1, 1, 1] 1 [(1, 6), (1, 3), (1, 0)] (.ln [1, -1, -1, 0, 0, 0] (.ps [1, -1, -1, 0, 0, 0] 1 [(1, 5)] (.ng [-1, 1, 1, 0, 0, 0] 1 [(1, 5)] (.ng [1, 0, -1, 0, 0, 0] 1 [(1, 4)] (.ln [1, 0, 0, 0, 0, 0] (.ln [-1, 1, 0, 1, 1, 1] (.ln [1, 0, -1, 1, 1, 1] (.ln [1, 0, -1, 0, 0, 0] (.ng [1, 0, -1, 0, 0, 0] 1 [(1, 4)] (.ps [0, 0, 1, 0, -1, 0] 1 [(1, 0)] (.ln [0, 0, 1, 1, -1, 0] (.ng [0, 0, 1, 1, -1, 0] 1 [(1, 2)] (.ps [0, 0, 0, -1, 0, 0] 1 [(1, 6)] (.ng [1, 0, 0, 1, -1, 0] 1 [(1, 4), (1, 2)] (.ln [1, 0, -1, 0, 1, 1] (.ln [0, 0, 1, 0, -1, 0] (.ln [1, 0, 0, 1, 0, 1] (.ln [1, 0, -1, 0, 0, 0] (.fin)))))))))))))))))))))))))))))))) (.ln [1, 0, 0, 0, 0, 0] (.ln [-1, 1, 0, 1, 1, 1] (.ln [1, 0, 0, 0, 0, 1] (.ln [0, 0, 1, 0, -1, 0] (.ln [0, 0, 1, -1, -1, 0] (.sp [0, 0, 1, -1, -1, 0] (.ng [0, 0, -1, 1, 1, 0] 1 [(1, 0)] (.ng [0, 0, 1, 0, -1, 0] 1 [(1, 1)] (.ln [0, 0, 1, 0, 0, 0] (.ln [0, 0, -1, 1, 1, 1] (.ln [0, 0, 1, 0, 0, 1] (.ln [0, 0, 1, 0, -1, 0] (.ng [0, 0, -1, 1, 1, 1] 1 [(1, 4), (1, 0)] (.ln [1, -1, -1, 0, 0, 0] (.ps [1, -1, -1, 0, 0, 0] 1 [(1, 6)] (.ng [-1, 1, 1, 0, 0, 0] 1 [(1, 6)] (.ng [1, 0, -1, 0, 0, 0] 1 [(1, 5)] (.ln [1, 0, 0, 0, 0, 0] (.ln [-1, 1, 0, 1, 1, 1] (.ln [1, 0, -1, 1, 1, 1] (.ln [1, 0, -1, 0, 0, 0] (.ng [1, 0, -1, 0, 0, 0] 1 [(1, 5)] (.ng [0, 0, 1, 0, -1, 0] 1 [(1, 1)] (.ln [0, 0, -1, 1, 1, 0] (.ng [0, 0, -1, 1, 1, 0] 1 [(1, 0)] (.ps [0, 0, 1, -1, -1, 0] 1 [(1, 0)] (.ng [1, 0, -2, 1, 1, 0] 1 [(1, 5), (1, 0)] (.ln [1, 0, 0, 0, 0, 1] (.ln [0, 0, 1, 0, -1, 0] (.ln [1, 0, 0, 1, 0, 1] (.ln [1, 0, -1, 0, 0, 0] (.fin)))))))))))))))))))))))))) (.ps [0, 0, -1, 1, 1, 0] 1 [(1, 0)] (.ng [0, 0, 1, 0, -1, 0] 1 [(1, 1)] (.ln [0, 0, 0, 1, 1, 0] (.ln [0, 0, 0, 0, 0, 1] (.ln [0, 0, 1, 0, 0, 1] (.ln [0, 0, 0, 1, 0, 0] (.ng [0, 0, 0, 0, 0, 1] 1 [(1, 4)] (.ln [1, -1, 0, -1, -1, 0] (.ps [1, -1, 0, -1, -1, 0] 1 [(1, 2)] (.ng [-1, 1, 0, 1, 1, 0] 1 [(1, 2)] (.ng [1, 0, 0, -1, -1, 0] 1 [(1, 5), (1, 0)] (.ln [1, 0, 0, 0, 0, 0] (.ln [-1, 1, 0, 1, 1, 1] (.ln [1, 0, 0, 0, 0, 1] (.ln [1, 0, 0, -1, -1, 0] (.ng [1, 0, 0, -1, -1, 0] 1 [(1, 5), (1, 0)] (.ng [0, 0, 0, 1, 0, 0] 1 [(1, 7)] (.ln [0, 0, -1, 1, 1, 0] (.ps [0, 0, -1, 1, 1, 0] 1 [(1, 0)] (.ng [0, 0, 1, -1, -1, 0] 1 [(1, 0)] (.ng [1, 0, -1, 0, 0, 0] 1 [(1, 5)] (.ln [1, 0, 0, 0, 0, 1] (.ln [0, 0, 1, 0, -1, 0] (.ln [1, 0, 0, 1, 0, 1] (.ln [1, 0, -1, 0, 0, 0] (.fin)))))))))))))))))))))))))))))))))) (.ps [-1, 1, 0, 1, 1, 0] 1 [(1, 0)] (.ng [0, 0, 1, 0, -1, 0] 2 [(1, 4), (1, 1), (1, 0)] (.ln [0, 1, 0, 1, 1, 0] (.ln [0, 0, 0, 0, 0, 1] (.ln [1, 0, 0, 0, 0, 1] (.ln [-1, 1, 1, 1, 0, 0] (.ln [0, 0, 1, -1, -1, 0] (.ng [0, 0, 1, -1, -1, 0] 1 [(1, 4), (1, 0)] (.ps [0, 0, -1, 1, 1, 0] 1 [(1, 4), (1, 0)] (.ng [0, 0, 1, 0, -1, 0] 2 [(1, 4), (1, 1), (1, 0)] (.ln [0, 0, 0, 1, 1, 0] (.ln [0, 0, 0, 0, 0, 1] (.ln [0, 0, 1, 0, 0, 1] (.ln [0, 0, 0, 1, 0, 0] (.ng [0, 0, 0, 0, 0, 1] 1 [(1, 2)] (.ln [1, -1, 0, -1, -1, 0] (.ng [1, -1, 0, -1, -1, 0] 1 [(1, 0)] (.ps [-1, 1, 0, 1, 1, 0] 1 [(1, 0)] (.ng [1, 0, 0, -1, -1, 0] 1 [(1, 6), (1, 0)] (.ln [0, 1, 0, 1, 1, 0] (.ln [0, 0, 0, 0, 0, 1] (.ln [1, 0, 0, 0, 0, 1] (.ln [0, 1, 0, 0, 0, 0] (.ng [0, 1, 0, 0, 0, 0] 1 [(1, 6)] (.ng [0, 0, 0, 1, 0, 0] 1 [(1, 5)] (.ln [1, -1, -1, 0, 0, 0] (.ps [1, -1, -1, 0, 0, 0] 1 [(1, 4)] (.ng [-1, 1, 1, 0, 0, 0] 1 [(1, 4)] (.ng [1, 0, -1, 0, 0, 0] 1 [(1, 3)] (.ln [1, 0, 0, 0, 0, 1] (.ln [-1, 1, 1, 1, 0, 0] (.ln [1, 0, 0, 1, 0, 1] (.ln [1, 0, -1, 0, 0, 0] (.fin)))))))))))))))))))))))))))))))))))))))))))))))))))))) (.ps [-1, 1, 1, 0, 0, 0] 1 [(1, 0)] (.ng [1, 0, -1, 0, 0, 0] 1 [(1, 2), (1, 0)] (.ln [0, 1, 1, 0, 0, 0] (.ln [0, 0, 0, 1, 0, 0] (.ln [1, 0, 0, 1, 0, 0] (.ln [0, 1, 0, 0, 0, 0] (.ng [0, 1, 0, 0, 0, 0] 1 [(1, 2)] (.sp [0, 0, 0, 0, 0, 1] (.ln [1, -1, 0, 1, -1, 1] (.sp [1, -1, 0, 1, -1, 1] (.sp [-1, 1, 0, -1, 1, 0] (.sp [1, 0, 0, 1, -1, 1] (.ln [0, 1, 0, 0, 1, 0] (.ln [-1, 1, 0, -1, 1, 0] (.ln [0, 0, 0, 0, 1, 0] (.ln [1, 0, 0, 1, -1, 1] (.ng [0, 0, 0, 1, 0, 0] 1 [(1, 5)] (.ps [-1, 1, 0, -1, 1, 0] 1 [(1, 1)] (.ln [-1, 1, 1, -2, 0, 0] (.ps [-1, 1, 1, -2, 0, 0] 1 [(2, 5), (1, 4)] (.sp [0, 0, -1, 1, 1, 0] (.ps [-1, 1, 1, -1, 0, 0] 1 [(1, 6), (1, 5)] (.ln [0, 1, 0, 1, 1, 0] (.ln [0, 0, -1, 1, 1, 0] (.ln [0, 1, 0, 0, 1, 0] (.ln [-1, 1, 1, -1, 0, 0] (.ln [0, 0, 1, -1, -1, 1] (.ps [0, 0, 1, -1, -1, 1] 1 [(2, 6), (1, 5), (1, 3)] (.ps [0, 0, -1, 1, 1, 0] 1 [(1, 0)] (.ps [0, 0, 1, 0, -1, 1] 1 [(1, 6), (1, 5), (1, 3)] (.ln [0, 0, 0, 1, 1, 0] (.ln [0, 0, -1, 1, 1, 0] (.ln [0, 0, 0, 0, 1, 0] (.ln [0, 0, 1, 0, -1, 1] (.ps [0, 0, -1, 1, 1, 0] 1 [(1, 0)] (.ln [1, -1, -1, 0, 0, 0] (.ng [1, -1, -1, 0, 0, 0] 1 [(1, 5)] (.ps [-1, 1, 0, 1, 1, 0] 1 [(1, 5), (1, 0)] (.ng [1, 0, -1, 0, 0, 0] 1 [(1, 7), (1, 5)] (.ln [0, 1, 0, 1, 1, 0] (.ln [0, 0, -1, 1, 1, 0] (.ln [1, 0, -1, 1, 1, 0] (.ln [0, 1, 0, 0, 0, 0] (.ng [0, 1, 0, 0, 0, 0] 1 [(1, 7)] (.ps [0, 0, 1, 0, -1, 1] 1 [(1, 6), (1, 5), (1, 3)] (.ln [1, -1, 0, 1, -1, 1] (.ps [1, -1, 0, 1, -1, 1] 1 [(1, 3)] (.ps [-1, 1, 1, -1, 0, 0] 1 [(1, 6), (1, 5)] (.ps [1, 0, 0, 1, -1, 1] 1 [(1, 1)] (.ln [0, 1, 0, 0, 1, 0] (.ln [-1, 1, 1, -1, 0, 0] (.ln [0, 0, 0, 0, 1, 0] (.ln [1, 0, 0, 1, -1, 1] (.fin))))))))))))))))))))))))))))))))) (.ps [-1, 1, 1, -1, 0, 0] 1 [(1, 6), (1, 5)] (.ln [0, 1, 1, 0, 0, 0] (.ln [0, 0, -1, 1, 1, 0] (.ln [0, 1, 0, 0, 1, 0] (.ln [-1, 1, 1, -1, 0, 0] (.ln [0, 0, 1, -1, -1, 1] (.ps [0, 0, 1, -1, -1, 1] 1 [(2, 6), (1, 5), (1, 3)] (.ng [0, 0, -1, 1, 1, 0] 1 [(1, 0)] (.ps [0, 0, 1, 0, -1, 1] 1 [(1, 6), (1, 5), (1, 3)] (.ln [0, 0, 1, 0, 0, 0] (.ln [0, 0, -1, 1, 1, 0] (.ln [0, 0, 0, 0, 1, 0] (.ln [0, 0, 1, 0, -1, 1] (.ng [0, 0, -1, 1, 1, 0] 1 [(1, 0)] (.ln [1, -1, -1, 0, 0, 0] (.ng [1, -1, -1, 0, 0, 0] 1 [(1, 5)] (.ps [-1, 1, 1, 0, 0, 0] 1 [(1, 5)] (.ng [1, 0, -1, 0, 0, 0] 1 [(1, 7), (1, 5)] (.ln [0, 1, 1, 0, 0, 0] (.ln [0, 0, -1, 1, 1, 0] (.ln [1, 0, -1, 1, 1, 0] (.ln [0, 1, 0, 0, 0, 0] (.ng [0, 1, 0, 0, 0, 0] 1 [(1, 7)] (.ps [0, 0, 1, 0, -1, 1] 1 [(1, 6), (1, 5), (1, 3)] (.ln [1, -1, 0, 1, -1, 1] (.ps [1, -1, 0, 1, -1, 1] 1 [(1, 3)] (.ps [-1, 1, 1, -1, 0, 0] 1 [(1, 6), (1, 5)] (.ps [1, 0, 0, 1, -1, 1] 1 [(1, 1)] (.ln [0, 1, 0, 0, 1, 0] (.ln [-1, 1, 1, -1, 0, 0] (.ln [0, 0, 0, 0, 1, 0] (.ln [1, 0, 0, 1, -1, 1] (.fin)))))))))))))))))))))))))))))))))))))))))) (.ln [0, 1, 0, 0, 1, 0] (.ln [-1, 1, 0, -1, 1, 0] (.ln [1, 0, 0, 1, 0, 1] (.ln [1, 0, 0, 1, -1, 1] (.ng [0, 0, 0, 1, 0, 0] 1 [(1, 5)] (.ps [-1, 1, 0, -1, 1, 0] 1 [(1, 1)] (.ln [-1, 1, 1, -2, 0, 0] (.ps [-1, 1, 1, -2, 0, 0] 1 [(2, 5), (1, 4)] (.sp [0, 0, -1, 1, 1, 0] (.ps [-1, 1, 1, -1, 0, 0] 1 [(1, 6), (1, 5)] (.ln [0, 1, 0, 1, 1, 0] (.ln [0, 0, -1, 1, 1, 0] (.ln [0, 1, 0, 0, 1, 0] (.ln [-1, 1, 1, -1, 0, 0] (.ln [0, 0, 1, -1, -1, 1] (.ps [0, 0, 1, -1, -1, 1] 1 [(2, 6), (1, 5), (1, 3)] (.ps [0, 0, -1, 1, 1, 0] 1 [(1, 0)] (.ps [0, 0, 1, 0, -1, 1] 1 [(1, 6), (1, 5), (1, 3)] (.ln [0, 0, 0, 1, 1, 0] (.ln [0, 0, -1, 1, 1, 0] (.ln [0, 0, 0, 0, 1, 0] (.ln [0, 0, 1, 0, -1, 1] (.ps [0, 0, -1, 1, 1, 0] 1 [(1, 0)] (.ln [1, -1, -1, 0, 0, 0] (.ng [1, -1, -1, 0, 0, 0] 1 [(1, 5)] (.ps [-1, 1, 0, 1, 1, 0] 1 [(1, 5), (1, 0)] (.ng [1, 0, -1, 0, 0, 0] 1 [(1, 7), (1, 5)] (.ln [0, 1, 0, 1, 1, 0] (.ln [0, 0, -1, 1, 1, 0] (.ln [1, 0, -1, 1, 1, 0] (.ln [0, 1, 0, 0, 0, 0] (.ng [0, 1, 0, 0, 0, 0] 1 [(1, 7)] (.ps [0, 0, 1, 0, -1, 1] 1 [(1, 6), (1, 5), (1, 3)] (.ln [1, -1, 0, 1, -1, 1] (.ps [1, -1, 0, 1, -1, 1] 1 [(1, 3)] (.ps [-1, 1, 1, -1, 0, 0] 1 [(1, 6), (1, 5)] (.ng [1, 0, 0, 1, -1, 1] 1 [(1, 1)] (.ln [0, 1, 0, 0, 1, 0] (.ln [-1, 1, 1, -1, 0, 0] (.ln [1, 0, 0, 1, 0, 1] (.ln [1, 0, 0, 1, -1, 1] (.fin))))))))))))))))))))))))))))))))) (.ps [-1, 1, 1, -1, 0, 0] 1 [(1, 6), (1, 5)] (.ln [0, 1, 1, 0, 0, 0] (.ln [0, 0, -1, 1, 1, 0] (.ln [0, 1, 0, 0, 1, 0] (.ln [-1, 1, 1, -1, 0, 0] (.ln [0, 0, 1, -1, -1, 1] (.ps [0, 0, 1, -1, -1, 1] 1 [(2, 6), (1, 5), (1, 3)] (.ng [0, 0, -1, 1, 1, 0] 1 [(1, 0)] (.ps [0, 0, 1, 0, -1, 1] 1 [(1, 6), (1, 5), (1, 3)] (.ln [0, 0, 1, 0, 0, 0] (.ln [0, 0, -1, 1, 1, 0] (.ln [0, 0, 0, 0, 1, 0] (.ln [0, 0, 1, 0, -1, 1] (.ng [0, 0, -1, 1, 1, 0] 1 [(1, 0)] (.ln [1, -1, -1, 0, 0, 0] (.ng [1, -1, -1, 0, 0, 0] 1 [(1, 5)] (.ps [-1, 1, 1, 0, 0, 0] 1 [(1, 5)] (.ng [1, 0, -1, 0, 0, 0] 1 [(1, 7), (1, 5)] (.ln [0, 1, 1, 0, 0, 0] (.ln [0, 0, -1, 1, 1, 0] (.ln [1, 0, -1, 1, 1, 0] (.ln [0, 1, 0, 0, 0, 0] (.ng [0, 1, 0, 0, 0, 0] 1 [(1, 7)] (.ps [0, 0, 1, 0, -1, 1] 1 [(1, 6), (1, 5), (1, 3)] (.ln [1, -1, 0, 1, -1, 1] (.ps [1, -1, 0, 1, -1, 1] 1 [(1, 3)] (.ps [-1, 1, 1, -1, 0, 0] 1 [(1, 6), (1, 5)] (.ng [1, 0, 0, 1, -1, 1] 1 [(1, 1)] (.ln [0, 1, 0, 0, 1, 0] (.ln [-1, 1, 1, -1, 0, 0] (.ln [1, 0, 0, 1, 0, 1] (.ln [1, 0, 0, 1, -1, 1] (.fin))))))))))))))))))))))))))))))))))))))))))) (.sp [1, 0, 0, 1, -1, 1] (.ln [1, 0, 0, 1, 0, 0] (.ln [-1, 1, 0, -1, 1, 0] (.ln [0, 0, 0, 0, 1, 0] (.ln [1, 0, 0, 1, -1, 1] (.ng [0, 0, 0, 1, 0, 0] 1 [(1, 5)] (.ng [-1, 1, 0, -1, 1, 0] 1 [(1, 1)] (.ln [-1, 1, 1, -2, 0, 0] (.ps [-1, 1, 1, -2, 0, 0] 1 [(2, 5), (1, 4)] (.ng [1, -1, -1, 2, 0, 0] 1 [(2, 5), (1, 4)] (.ps [-1, 1, 1, -1, 0, 0] 1 [(1, 5), (1, 4)] (.ln [0, 1, 1, 0, 0, 0] (.ln [0, 0, -1, 1, 1, 0] (.ln [0, 1, 0, 0, 1, 0] (.ln [-1, 1, 1, -1, 0, 0] (.ln [0, 0, 1, -1, -1, 1] (.ps [0, 0, 1, -1, -1, 1] 1 [(2, 5), (1, 4), (1, 2)] (.ng [0, 0, -1, 1, 1, 0] 1 [(2, 5), (1, 4), (1, 1)] (.ps [0, 0, 1, 0, -1, 1] 1 [(1, 5), (1, 4), (1, 2)] (.ln [0, 0, 1, 0, 0, 0] (.ln [0, 0, -1, 1, 1, 0] (.ln [0, 0, 0, 0, 1, 0] (.ln [0, 0, 1, 0, -1, 1] (.ng [0, 0, -1, 1, 1, 0] 1 [(2, 5), (1, 4), (1, 1)] (.ln [1, -1, -1, 0, 0, 0] (.ng [1, -1, -1, 0, 0, 0] 1 [(1, 4)] (.ps [-1, 1, 1, 0, 0, 0] 1 [(1, 4)] (.ng [1, 0, -1, 0, 0, 0] 1 [(1, 6), (1, 4)] (.ln [0, 1, 1, 0, 0, 0] (.ln [0, 0, -1, 1, 1, 0] (.ln [1, 0, -1, 1, 1, 0] (.ln [0, 1, 0, 0, 0, 0] (.ng [0, 1, 0, 0, 0, 0] 1 [(1, 6)] (.ps [0, 0, 1, 0, -1, 1] 1 [(1, 5), (1, 4), (1, 2)] (.ln [1, -1, 0, 1, -1, 1] (.ps [1, -1, 0, 1, -1, 1] 1 [(1, 2)] (.ps [-1, 1, 1, -1, 0, 0] 1 [(1, 5), (1, 4)] (.ps [1, 0, 0, 1, -1, 1] 1 [(1, 0)] (.ln [0, 1, 0, 0, 1, 0] (.ln [-1, 1, 1, -1, 0, 0] (.ln [0, 0, 0, 0, 1, 0] (.ln [1, 0, 0, 1, -1, 1] (.fin)))))))))))))))))))))))))))))))))))))))))) (.ln [1, 0, 0, 1, 0, 0] (.ln [-1, 1, 0, -1, 1, 0] (.ln [1, 0, 0, 1, 0, 1] (.ln [1, 0, 0, 1, -1, 1] (.ng [0, 0, 0, 1, 0, 0] 1 [(1, 5)] (.ng [-1, 1, 0, -1, 1, 0] 1 [(1, 1)] (.ln [-1, 1, 1, -2, 0, 0] (.ps [-1, 1, 1, -2, 0, 0] 1 [(2, 5), (1, 4)] (.ng [1, -1, -1, 2, 0, 0] 1 [(2, 5), (1, 4)] (.ps [-1, 1, 1, -1, 0, 0] 1 [(1, 5), (1, 4)] (.ln [0, 1, 1, 0, 0, 0] (.ln [0, 0, -1, 1, 1, 0] (.ln [0, 1, 0, 0, 1, 0] (.ln [-1, 1, 1, -1, 0, 0] (.ln [0, 0, 1, -1, -1, 1] (.ps [0, 0, 1, -1, -1, 1] 1 [(2, 5), (1, 4), (1, 2)] (.ng [0, 0, -1, 1, 1, 0] 1 [(2, 5), (1, 4), (1, 1)] (.ps [0, 0, 1, 0, -1, 1] 1 [(1, 5), (1, 4), (1, 2)] (.ln [0, 0, 1, 0, 0, 0] (.ln [0, 0, -1, 1, 1, 0] (.ln [0, 0, 0, 0, 1, 0] (.ln [0, 0, 1, 0, -1, 1] (.ng [0, 0, -1, 1, 1, 0] 1 [(2, 5), (1, 4), (1, 1)] (.ln [1, -1, -1, 0, 0, 0] (.ng [1, -1, -1, 0, 0, 0] 1 [(1, 4)] (.ps [-1, 1, 1, 0, 0, 0] 1 [(1, 4)] (.ng [1, 0, -1, 0, 0, 0] 1 [(1, 6), (1, 4)] (.ln [0, 1, 1, 0, 0, 0] (.ln [0, 0, -1, 1, 1, 0] (.ln [1, 0, -1, 1, 1, 0] (.ln [0, 1, 0, 0, 0, 0] (.ng [0, 1, 0, 0, 0, 0] 1 [(1, 6)] (.ps [0, 0, 1, 0, -1, 1] 1 [(1, 5), (1, 4), (1, 2)] (.ln [1, -1, 0, 1, -1, 1] (.ps [1, -1, 0, 1, -1, 1] 1 [(1, 2)] (.ps [-1, 1, 1, -1, 0, 0] 1 [(1, 5), (1, 4)] (.ng [1, 0, 0, 1, -1, 1] 1 [(1, 0)] (.ln [0, 1, 0, 0, 1, 0] (.ln [-1, 1, 1, -1, 0, 0] (.ln [1, 0, 0, 1, 0, 1] (.ln [1, 0, 0, 1, -1, 1] (.fin)))))))))))))))))))))))))))))))))))))))))))) (.ps [-1, 1, 0, -1, 1, 0] 1 [(1, 1), (1, 0)] (.ng [1, 0, 0, 1, -1, 1] 1 [(1, 4), (1, 0)] (.ln [0, 1, 0, 0, 1, 0] (.ln [0, 0, 0, 0, 0, 1] (.ln [1, 0, 0, 1, 0, 1] (.ln [0, 1, 0, 0, 0, 0] (.ng [0, 0, 0, 1, 0, 0] 1 [(1, 3)] (.ps [0, 0, 0, 0, 0, 1] 1 [(1, 1)] (.ln [0, 0, 1, -1, -1, 1] (.sp [0, 0, 1, -1, -1, 1] (.sp [0, 0, -1, 1, 1, 0] (.sp [0, 0, 1, 0, -1, 1] (.ln [0, 1, 0, 1, 1, 0] (.ln [0, 0, -1, 1, 1, 0] (.ln [0, 1, 0, 0, 1, 0] (.ln [0, 0, 1, 0, -1, 1] (.ln [0, 0, 1, -1, -1, 1] (.ps [0, 0, 1, -1, -1, 1] 1 [(1, 2)] (.ps [0, 0, -1, 1, 1, 0] 1 [(1, 1)] (.ps [0, 0, 1, 0, -1, 1] 1 [(1, 0)] (.ln [0, 0, 0, 1, 1, 0] (.ln [0, 0, -1, 1, 1, 0] (.ln [0, 0, 0, 0, 1, 0] (.ln [0, 0, 1, 0, -1, 1] (.ps [0, 0, -1, 1, 1, 0] 1 [(1, 1)] (.ln [1, -1, -1, 0, 0, 0] (.ng [1, -1, -1, 0, 0, 0] 1 [(1, 5)] (.ps [-1, 1, 0, 1, 1, 0] 1 [(1, 5), (1, 1)] (.ng [1, 0, -1, 0, 0, 0] 1 [(1, 7), (1, 5)] (.ln [0, 1, 0, 1, 1, 0] (.ln [0, 0, -1, 1, 1, 0] (.ln [1, 0, -1, 1, 1, 0] (.ln [0, 1, 0, 0, 0, 0] (.ng [0, 1, 0, 0, 0, 0] 1 [(1, 7)] (.ps [0, 0, 1, 0, -1, 1] 1 [(1, 0)] (.ln [1, -1, 0, 1, -1, 1] (.ng [1, -1, 0, 1, -1, 1] 1 [(1, 3)] (.ps [-1, 1, 1, -1, 0, 0] 1 [(1, 6), (1, 5)] (.ng [1, 0, 0, 1, -1, 1] 1 [(1, 7), (1, 3)] (.ln [0, 1, 0, 0, 1, 0] (.ln [0, 0, 1, 0, -1, 1] (.ln [1, 0, 0, 1, 0, 1] (.ln [0, 1, 0, 0, 0, 0] (.fin)))))))))))))))))))))))))))))))) (.ln [0, 1, 0, 1, 1, 0] (.ln [0, 0, -1, 1, 1, 0] (.ln [0, 1, 1, 0, 0, 1] (.ln [0, 0, 1, 0, -1, 1] (.ln [0, 0, 1, -1, -1, 1] (.ps [0, 0, 1, -1, -1, 1] 1 [(1, 2)] (.ps [0, 0, -1, 1, 1, 0] 1 [(1, 1)] (.ng [0, 0, 1, 0, -1, 1] 1 [(1, 0)] (.ln [0, 0, 0, 1, 1, 0] (.ln [0, 0, -1, 1, 1, 0] (.ln [0, 0, 1, 0, 0, 1] (.ln [0, 0, 1, 0, -1, 1] (.ps [0, 0, -1, 1, 1, 0] 1 [(1, 1)] (.ln [1, -1, -1, 0, 0, 0] (.ng [1, -1, -1, 0, 0, 0] 1 [(1, 5)] (.ps [-1, 1, 0, 1, 1, 0] 1 [(1, 5), (1, 1)] (.ng [1, 0, -1, 0, 0, 0] 1 [(1, 7), (1, 5)] (.ln [0, 1, 0, 1, 1, 0] (.ln [0, 0, -1, 1, 1, 0] (.ln [1, 0, -1, 1, 1, 0] (.ln [0, 1, 0, 0, 0, 0] (.ng [0, 1, 0, 0, 0, 0] 1 [(1, 7)] (.ng [0, 0, 1, 0, -1, 1] 1 [(1, 0)] (.ln [1, -1, -2, 1, 1, -1] (.ng [1, -1, -2, 1, 1, -1] 1 [(1, 5), (1, 2)] (.ps [-1, 1, 2, -1, -1, 1] 1 [(1, 5), (1, 2)] (.ng [1, 0, -2, 1, 1, -1] 1 [(1, 7), (1, 5), (1, 2)] (.ln [0, 1, 1, 0, 0, 1] (.ln [0, 0, 1, 0, -1, 1] (.ln [1, 0, 0, 1, 0, 1] (.ln [0, 1, 0, 0, 0, 0] (.fin))))))))))))))))))))))))))))))))) (.sp [0, 0, 1, 0, -1, 1] (.ln [0, 1, 1, 0, 0, 0] (.ln [0, 0, -1, 1, 1, 0] (.ln [0, 1, 0, 0, 1, 0] (.ln [0, 0, 1, 0, -1, 1] (.ln [0, 0, 1, -1, -1, 1] (.ps [0, 0, 1, -1, -1, 1] 1 [(1, 2)] (.ng [0, 0, -1, 1, 1, 0] 1 [(1, 1)] (.ps [0, 0, 1, 0, -1, 1] 1 [(1, 0)] (.ln [0, 0, 1, 0, 0, 0] (.ln [0, 0, -1, 1, 1, 0] (.ln [0, 0, 0, 0, 1, 0] (.ln [0, 0, 1, 0, -1, 1] (.ng [0, 0, -1, 1, 1, 0] 1 [(1, 1)] (.ln [1, -1, -1, 0, 0, 0] (.ng [1, -1, -1, 0, 0, 0] 1 [(1, 5)] (.ps [-1, 1, 1, 0, 0, 0] 1 [(1, 5)] (.ng [1, 0, -1, 0, 0, 0] 1 [(1, 7), (1, 5)] (.ln [0, 1, 1, 0, 0, 0] (.ln [0, 0, -1, 1, 1, 0] (.ln [1, 0, -1, 1, 1, 0] (.ln [0, 1, 0, 0, 0, 0] (.ng [0, 1, 0, 0, 0, 0] 1 [(1, 7)] (.ps [0, 0, 1, 0, -1, 1] 1 [(1, 0)] (.ln [1, -1, 0, 1, -1, 1] (.ng [1, -1, 0, 1, -1, 1] 1 [(1, 3)] (.ps [-1, 1, 1, -1, 0, 0] 1 [(1, 6), (1, 5)] (.ng [1, 0, 0, 1, -1, 1] 1 [(1, 7), (1, 3)] (.ln [0, 1, 0, 0, 1, 0] (.ln [0, 0, 1, 0, -1, 1] (.ln [1, 0, 0, 1, 0, 1] (.ln [0, 1, 0, 0, 0, 0] (.fin)))))))))))))))))))))))))))))))) (.ln [0, 1, 1, 0, 0, 0] (.ln [0, 0, -1, 1, 1, 0] (.ln [0, 1, 1, 0, 0, 1] (.ln [0, 0, 1, 0, -1, 1] (.ln [0, 0, 1, -1, -1, 1] (.ps [0, 0, 1, -1, -1, 1] 1 [(1, 2)] (.ng [0, 0, -1, 1, 1, 0] 1 [(1, 1)] (.ng [0, 0, 1, 0, -1, 1] 1 [(1, 0)] (.ln [0, 0, 1, 0, 0, 0] (.ln [0, 0, -1, 1, 1, 0] (.ln [0, 0, 1, 0, 0, 1] (.ln [0, 0, 1, 0, -1, 1] (.ng [0, 0, -1, 1, 1, 0] 1 [(1, 1)] (.ln [1, -1, -1, 0, 0, 0] (.ng [1, -1, -1, 0, 0, 0] 1 [(1, 5)] (.ps [-1, 1, 1, 0, 0, 0] 1 [(1, 5)] (.ng [1, 0, -1, 0, 0, 0] 1 [(1, 7), (1, 5)] (.ln [0, 1, 1, 0, 0, 0] (.ln [0, 0, -1, 1, 1, 0] (.ln [1, 0, -1, 1, 1, 0] (.ln [0, 1, 0, 0, 0, 0] (.ng [0, 1, 0, 0, 0, 0] 1 [(1, 7)] (.ng [0, 0, 1, 0, -1, 1] 1 [(1, 0)] (.ln [1, -1, -2, 1, 1, -1] (.ng [1, -1, -2, 1, 1, -1] 1 [(1, 5), (1, 2)] (.ps [-1, 1, 2, -1, -1, 1] 1 [(1, 5), (1, 2)] (.ng [1, 0, -2, 1, 1, -1] 1 [(1, 7), (1, 5), (1, 2)] (.ln [0, 1, 1, 0, 0, 1] (.ln [0, 0, 1, 0, -1, 1] (.ln [1, 0, 0, 1, 0, 1] (.ln [0, 1, 0, 0, 0, 0] (.fin)))))))))))))))))))))))))))))))))) (.ps [0, 0, -1, 1, 1, 0] 1 [(1, 2), (1, 0)] (.ng [0, 0, 1, 0, -1, 1] 1 [(1, 4), (1, 0)] (.ln [0, 1, 0, 1, 1, 0] (.ln [0, 0, 0, 0, 0, 1] (.ln [0, 1, 1, 0, 0, 1] (.ln [0, 0, 0, 1, 0, 0] (.ln [0, 0, 1, -1, -1, 1] (.ng [0, 0, 1, -1, -1, 1] 1 [(1, 0)] (.ps [0, 0, -1, 1, 1, 0] 1 [(1, 2), (1, 0)] (.ng [0, 0, 1, 0, -1, 1] 1 [(1, 4), (1, 0)] (.ln [0, 0, 0, 1, 1, 0] (.ln [0, 0, 0, 0, 0, 1] (.ln [0, 0, 1, 0, 0, 1] (.ln [0, 0, 0, 1, 0, 0] (.ps [0, 0, 0, 0, 0, 1] 1 [(1, 2)] (.ln [1, -1, 0, -1, -1, 1] (.ng [1, -1, 0, -1, -1, 1] 1 [(1, 3), (1, 0)] (.ps [-1, 1, 0, 1, 1, 0] 1 [(1, 3), (1, 2), (1, 0)] (.ng [1, 0, 0, -1, -1, 1] 1 [(1, 5), (1, 3), (1, 0)] (.ln [0, 1, 0, 1, 1, 0] (.ln [0, 0, 0, 0, 0, 1] (.ln [1, 0, 0, 0, 0, 1] (.ln [0, 1, 0, 0, 0, 0] (.ng [0, 1, 0, 0, 0, 0] 1 [(1, 5)] (.ng [0, 0, 0, 1, 0, 0] 1 [(1, 4)] (.ln [1, -1, -1, 0, 0, 0] (.ng [1, -1, -1, 0, 0, 0] 1 [(1, 3)] (.ps [-1, 1, 1, 0, 0, 0] 1 [(1, 3)] (.ng [1, 0, -1, 0, 0, 0] 1 [(1, 5), (1, 3)] (.ln [0, 1, 1, 0, 0, 1] (.ln [0, 0, 0, 1, 0, 0] (.ln [1, 0, 0, 1, 0, 1] (.ln [0, 1, 0, 0, 0, 0] (.fin)))))))))))))))))))))))))))))))))))))))))))))) (.ln [1, -1, 0, 1, -1, 0] (.sp [1, -1, 0, 1, -1, 0] (.ng [-1, 1, 0, -1, 1, 0] 1 [(1, 0)] (.sp [1, 0, 0, 1, -1, 0] (.ln [1, 0, 0, 1, 0, 0] (.ln [-1, 1, 0, -1, 1, 1] (.ln [0, 0, 0, 0, 1, 1] (.ln [1, 0, 0, 1, -1, 0] (.ng [0, 0, 0, 1, 0, 0] 1 [(1, 4)] (.ng [-1, 1, 0, -1, 1, 1] 1 [(1, 2), (1, 1)] (.ln [-1, 1, 1, -2, 0, 0] (.ps [-1, 1, 1, -2, 0, 0] 1 [(2, 4), (1, 3)] (.ng [1, -1, -1, 2, 0, 0] 1 [(2, 4), (1, 3)] (.ps [-1, 1, 1, -1, 0, 0] 1 [(1, 4), (1, 3)] (.ln [0, 1, 1, 0, 0, 0] (.ln [0, 0, -1, 1, 1, 1] (.ln [0, 1, 0, 0, 1, 1] (.ln [-1, 1, 1, -1, 0, 0] (.ln [0, 0, 1, -1, -1, 0] (.ps [0, 0, 1, -1, -1, 0] 1 [(2, 4), (1, 3), (1, 1)] (.ng [0, 0, -1, 1, 1, 0] 1 [(2, 4), (1, 3), (1, 1)] (.ps [0, 0, 1, 0, -1, 0] 1 [(1, 4), (1, 3), (1, 1)] (.ln [0, 0, 1, 0, 0, 0] (.ln [0, 0, -1, 1, 1, 1] (.ln [0, 0, 0, 0, 1, 1] (.ln [0, 0, 1, 0, -1, 0] (.ng [0, 0, -1, 1, 1, 1] 1 [(2, 4), (1, 3), (1, 2), (1, 1)] (.ln [1, -1, -1, 0, 0, 0] (.ng [1, -1, -1, 0, 0, 0] 1 [(1, 3)] (.ps [-1, 1, 1, 0, 0, 0] 1 [(1, 3)] (.ng [1, 0, -1, 0, 0, 0] 1 [(1, 5), (1, 3)] (.ln [0, 1, 1, 0, 0, 0] (.ln [0, 0, -1, 1, 1, 1] (.ln [1, 0, -1, 1, 1, 1] (.ln [0, 1, 0, 0, 0, 0] (.ng [0, 1, 0, 0, 0, 0] 1 [(1, 5)] (.ps [0, 0, 1, 0, -1, 0] 1 [(1, 4), (1, 3), (1, 1)] (.ln [1, -1, 0, 1, -1, 0] (.ps [1, -1, 0, 1, -1, 0] 1 [(1, 1)] (.ps [-1, 1, 1, -1, 0, 0] 1 [(1, 4), (1, 3)] (.ps [1, 0, 0, 1, -1, 0] 1 [(1, 0)] (.ln [0, 1, 0, 0, 1, 1] (.ln [-1, 1, 1, -1, 0, 0] (.ln [0, 0, 0, 0, 1, 1] (.ln [1, 0, 0, 1, -1, 0] (.fin)))))))))))))))))))))))))))))))))))))))))) (.ln [1, 0, 0, 1, 0, 0] (.ln [-1, 1, 0, -1, 1, 1] (.ln [1, 0, 0, 1, 0, 1] (.ln [1, 0, 0, 1, -1, 0] (.ng [0, 0, 0, 1, 0, 0] 1 [(1, 4)] (.ng [-1, 1, 0, -1, 1, 1] 1 [(1, 2), (1, 1)] (.ln [-1, 1, 1, -2, 0, 0] (.ps [-1, 1, 1, -2, 0, 0] 1 [(2, 4), (1, 3)] (.ng [1, -1, -1, 2, 0, 0] 1 [(2, 4), (1, 3)] (.ps [-1, 1, 1, -1, 0, 0] 1 [(1, 4), (1, 3)] (.ln [0, 1, 1, 0, 0, 0] (.ln [0, 0, -1, 1, 1, 1] (.ln [0, 1, 0, 0, 1, 1] (.ln [-1, 1, 1, -1, 0, 0] (.ln [0, 0, 1, -1, -1, 0] (.ps [0, 0, 1, -1, -1, 0] 1 [(2, 4), (1, 3), (1, 1)] (.ng [0, 0, -1, 1, 1, 0] 1 [(2, 4), (1, 3), (1, 1)] (.ps [0, 0, 1, 0, -1, 0] 1 [(1, 4), (1, 3), (1, 1)] (.ln [0, 0, 1, 0, 0, 0] (.ln [0, 0, -1, 1, 1, 1] (.ln [0, 0, 0, 0, 1, 1] (.ln [0, 0, 1, 0, -1, 0] (.ng [0, 0, -1, 1, 1, 1] 1 [(2, 4), (1, 3), (1, 2), (1, 1)] (.ln [1, -1, -1, 0, 0, 0] (.ng [1, -1, -1, 0, 0, 0] 1 [(1, 3)] (.ps [-1, 1, 1, 0, 0, 0] 1 [(1, 3)] (.ng [1, 0, -1, 0, 0, 0] 1 [(1, 5), (1, 3)] (.ln [0, 1, 1, 0, 0, 0] (.ln [0, 0, -1, 1, 1, 1] (.ln [1, 0, -1, 1, 1, 1] (.ln [0, 1, 0, 0, 0, 0] (.ng [0, 1, 0, 0, 0, 0] 1 [(1, 5)] (.ps [0, 0, 1, 0, -1, 0] 1 [(1, 4), (1, 3), (1, 1)] (.ln [1, -1, 0, 1, -1, 0] (.ps [1, -1, 0, 1, -1, 0] 1 [(1, 1)] (.ps [-1, 1, 1, -1, 0, 0] 1 [(1, 4), (1, 3)] (.ng [1, 0, 0, 1, -1, 0] 1 [(1, 0)] (.ln [0, 1, 0, 0, 1, 1] (.ln [-1, 1, 1, -1, 0, 0] (.ln [1, 0, 0, 1, 0, 1] (.ln [1, 0, 0, 1, -1, 0] (.fin)))))))))))))))))))))))))))))))))))))))))))) (.ps [-1, 1, 0, -1, 1, 0] 1 [(1, 0)] (.ng [1, 0, 0, 1, -1, 0] 1 [(1, 4), (1, 0)] (.ln [0, 1, 0, 0, 1, 0] (.ln [0, 0, 0, 0, 0, 1] (.ln [1, 0, 0, 1, 0, 1] (.ln [0, 1, 0, 0, 0, 0] (.ng [0, 0, 0, 1, 0, 0] 1 [(1, 3)] (.ng [0, 0, 0, 0, 0, 1] 1 [(1, 1)] (.ln [0, 0, 1, -1, -1, 0] (.sp [0, 0, 1, -1, -1, 0] (.ng [0, 0, -1, 1, 1, 0] 1 [(1, 0)] (.sp [0, 0, 1, 0, -1, 0] (.ln [0, 1, 1, 0, 0, 0] (.ln [0, 0, -1, 1, 1, 1] (.ln [0, 1, 0, 0, 1, 1] (.ln [0, 0, 1, 0, -1, 0] (.ln [0, 0, 1, -1, -1, 0] (.ps [0, 0, 1, -1, -1, 0] 1 [(1, 1)] (.ng [0, 0, -1, 1, 1, 0] 1 [(1, 1)] (.ps [0, 0, 1, 0, -1, 0] 1 [(1, 0)] (.ln [0, 0, 1, 0, 0, 0] (.ln [0, 0, -1, 1, 1, 1] (.ln [0, 0, 0, 0, 1, 1] (.ln [0, 0, 1, 0, -1, 0] (.ng [0, 0, -1, 1, 1, 1] 1 [(1, 3), (1, 1)] (.ln [1, -1, -1, 0, 0, 0] (.ng [1, -1, -1, 0, 0, 0] 1 [(1, 4)] (.ps [-1, 1, 1, 0, 0, 0] 1 [(1, 4)] (.ng [1, 0, -1, 0, 0, 0] 1 [(1, 6), (1, 4)] (.ln [0, 1, 1, 0, 0, 0] (.ln [0, 0, -1, 1, 1, 1] (.ln [1, 0, -1, 1, 1, 1] (.ln [0, 1, 0, 0, 0, 0] (.ng [0, 1, 0, 0, 0, 0] 1 [(1, 6)] (.ps [0, 0, 1, 0, -1, 0] 1 [(1, 0)] (.ln [1, -1, 0, 1, -1, 0] (.ng [1, -1, 0, 1, -1, 0] 1 [(1, 2)] (.ps [-1, 1, 1, -1, 0, 0] 1 [(1, 5), (1, 4)] (.ng [1, 0, 0, 1, -1, 0] 1 [(1, 6), (1, 2)] (.ln [0, 1, 0, 0, 1, 1] (.ln [0, 0, 1, 0, -1, 0] (.ln [1, 0, 0, 1, 0, 1] (.ln [0, 1, 0, 0, 0, 0] (.fin)))))))))))))))))))))))))))))))) (.ln [0, 1, 1, 0, 0, 0] (.ln [0, 0, -1, 1, 1, 1] (.ln [0, 1, 1, 0, 0, 1] (.ln [0, 0, 1, 0, -1, 0] (.ln [0, 0, 1, -1, -1, 0] (.ps [0, 0, 1, -1, -1, 0] 1 [(1, 1)] (.ng [0, 0, -1, 1, 1, 0] 1 [(1, 1)] (.ng [0, 0, 1, 0, -1, 0] 1 [(1, 0)] (.ln [0, 0, 1, 0, 0, 0] (.ln [0, 0, -1, 1, 1, 1] (.ln [0, 0, 1, 0, 0, 1] (.ln [0, 0, 1, 0, -1, 0] (.ng [0, 0, -1, 1, 1, 1] 1 [(1, 3), (1, 1)] (.ln [1, -1, -1, 0, 0, 0] (.ng [1, -1, -1, 0, 0, 0] 1 [(1, 4)] (.ps [-1, 1, 1, 0, 0, 0] 1 [(1, 4)] (.ng [1, 0, -1, 0, 0, 0] 1 [(1, 6), (1, 4)] (.ln [0, 1, 1, 0, 0, 0] (.ln [0, 0, -1, 1, 1, 1] (.ln [1, 0, -1, 1, 1, 1] (.ln [0, 1, 0, 0, 0, 0] (.ng [0, 1, 0, 0, 0, 0] 1 [(1, 6)] (.ng [0, 0, 1, 0, -1, 0] 1 [(1, 0)] (.ln [1, -1, -2, 1, 1, 0] (.ng [1, -1, -2, 1, 1, 0] 1 [(1, 4), (1, 1)] (.ps [-1, 1, 2, -1, -1, 0] 1 [(1, 4), (1, 1)] (.ng [1, 0, -2, 1, 1, 0] 1 [(1, 6), (1, 4), (1, 1)] (.ln [0, 1, 1, 0, 0, 1] (.ln [0, 0, 1, 0, -1, 0] (.ln [1, 0, 0, 1, 0, 1] (.ln [0, 1, 0, 0, 0, 0] (.fin)))))))))))))))))))))))))))))))))) (.ps [0, 0, -1, 1, 1, 0] 1 [(1, 0)] (.ng [0, 0, 1, 0, -1, 0] 1 [(1, 4), (1, 0)] (.ln [0, 1, 0, 1, 1, 0] (.ln [0, 0, 0, 0, 0, 1] (.ln [0, 1, 1, 0, 0, 1] (.ln [0, 0, 0, 1, 0, 0] (.ln [0, 0, 1, -1, -1, 0] (.ng [0, 0, 1, -1, -1, 0] 1 [(1, 0)] (.ps [0, 0, -1, 1, 1, 0] 1 [(1, 0)] (.ng [0, 0, 1, 0, -1, 0] 1 [(1, 4), (1, 0)] (.ln [0, 0, 0, 1, 1, 0] (.ln [0, 0, 0, 0, 0, 1] (.ln [0, 0, 1, 0, 0, 1] (.ln [0, 0, 0, 1, 0, 0] (.ng [0, 0, 0, 0, 0, 1] 1 [(1, 2)] (.ln [1, -1, 0, -1, -1, 0] (.ng [1, -1, 0, -1, -1, 0] 1 [(1, 3), (1, 0)] (.ps [-1, 1, 0, 1, 1, 0] 1 [(1, 3), (1, 0)] (.ng [1, 0, 0, -1, -1, 0] 1 [(1, 5), (1, 3), (1, 0)] (.ln [0, 1, 0, 1, 1, 0] (.ln [0, 0, 0, 0, 0, 1] (.ln [1, 0, 0, 0, 0, 1] (.ln [0, 1, 0, 0, 0, 0] (.ng [0, 1, 0, 0, 0, 0] 1 [(1, 5)] (.ng [0, 0, 0, 1, 0, 0] 1 [(1, 4)] (.ln [1, -1, -1, 0, 0, 0] (.ng [1, -1, -1, 0, 0, 0] 1 [(1, 3)] (.ps [-1, 1, 1, 0, 0, 0] 1 [(1, 3)] (.ng [1, 0, -1, 0, 0, 0] 1 [(1, 5), (1, 3)] (.ln [0, 1, 1, 0, 0, 1] (.ln [0, 0, 0, 1, 0, 0] (.ln [1, 0, 0, 1, 0, 1] (.ln [0, 1, 0, 0, 0, 0] (.fin)))))))))))))))))))))))))))))))))))))))))))))))))))))))))
set_option maxRecDepth 1000000 in
theorem cert_ok : check goals unit6 [] prog cert = true := by decide +kernel
theorem near_pl (a b c d e f p0 p1 z1 p2 p3 p4 s1 t1 u1 v1 p5 p6 z2 p7 p8 p9 s2 t2 u2 v2 p10 p11 z3 p12 p13 p14 s3 t3 u3 v3 z4 p15 p16 p17 s4 t4 u4 v4 p18 z5 p19 p20 p21 s5 t5 u5 v5 p22 p23 z6 p24 p25 p26 s6 t6 u6 v6 : Int)
  (h_p0 : p0 = max (b) 0)
  (h_p1 : p1 = max (d) 0)
  (h_z1 : z1 = a - b + p0 - c + p1)
  (h_p2 : p2 = max (z1) 0)
  (h_p3 : p3 = max (p1 - z1) 0)
  (h_p4 : p4 = max (b - p0 + z1) 0)
  (h_s1 : s1 = a + p0 + p3)
  (h_t1 : t1 = d - p2)
  (h_u1 : u1 = c + d - p1 + b - p0 + z1 - p4)
  (h_v1 : v1 = b + p2)
  (h_p5 : p5 = max (v1) 0)
  (h_p6 : p6 = max (f) 0)
  (h_z2 : z2 = u1 - v1 + p5 - e + p6)
  (h_p7 : p7 = max (z2) 0)
  (h_p8 : p8 = max (p6 - z2) 0)
  (h_p9 : p9 = max (v1 - p5 + z2) 0)
  (h_s2 : s2 = u1 + p5 + p8)
  (h_t2 : t2 = f - p7)
  (h_u2 : u2 = e + f - p6 + v1 - p5 + z2 - p9)
  (h_v2 : v2 = v1 + p7)
  (h_p10 : p10 = max (t1) 0)
  (h_p11 : p11 = max (t2) 0)
  (h_z3 : z3 = s1 - t1 + p10 - s2 + p11)
  (h_p12 : p12 = max (z3) 0)
  (h_p13 : p13 = max (p11 - z3) 0)
  (h_p14 : p14 = max (t1 - p10 + z3) 0)
  (h_s3 : s3 = s1 + p10 + p13)
  (h_t3 : t3 = t2 - p12)
  (h_u3 : u3 = s2 + t2 - p11 + t1 - p10 + z3 - p14)
  (h_v3 : v3 = t1 + p12)
  (h_z4 : z4 = c - d + p1 - e + p6)
  (h_p15 : p15 = max (z4) 0)
  (h_p16 : p16 = max (p6 - z4) 0)
  (h_p17 : p17 = max (d - p1 + z4) 0)
  (h_s4 : s4 = c + p1 + p16)
  (h_t4 : t4 = f - p15)
  (h_u4 : u4 = e + f - p6 + d - p1 + z4 - p17)
  (h_v4 : v4 = d + p15)
  (h_p18 : p18 = max (t4) 0)
  (h_z5 : z5 = a - b + p0 - s4 + p18)
  (h_p19 : p19 = max (z5) 0)
  (h_p20 : p20 = max (p18 - z5) 0)
  (h_p21 : p21 = max (b - p0 + z5) 0)
  (h_s5 : s5 = a + p0 + p20)
  (h_t5 : t5 = t4 - p19)
  (h_u5 : u5 = s4 + t4 - p18 + b - p0 + z5 - p21)
  (h_v5 : v5 = b + p19)
  (h_p22 : p22 = max (v5) 0)
  (h_p23 : p23 = max (v4) 0)
  (h_z6 : z6 = u5 - v5 + p22 - u4 + p23)
  (h_p24 : p24 = max (z6) 0)
  (h_p25 : p25 = max (p23 - z6) 0)
  (h_p26 : p26 = max (v5 - p22 + z6) 0)
  (h_s6 : s6 = u5 + p22 + p25)
  (h_t6 : t6 = v4 - p24)
  (h_u6 : u6 = u4 + v4 - p23 + v5 - p22 + z6 - p26)
  (h_v6 : v6 = v5 + p24)
  : s3 = s5 ∧ t3 = t5 ∧ u3 = s6 ∧ v3 = t6 ∧ u2 = u6 ∧ v2 = v6 := by
  have h := check_ok (x := [a, b, c, d, e, f]) (vs := [f, e, d, c, b, a]) (out := [p0, p1, z1, p2, p3, p4, s1, t1, u1, v1, p5, p6, z2, p7, p8, p9, s2, t2, u2, v2, p10, p11, z3, p12, p13, p14, s3, t3, u3, v3, z4, p15, p16, p17, s4, t4, u4, v4, p18, z5, p19, p20, p21, s5, t5, u5, v5, p22, p23, z6, p24, p25, p26, s6, t6, u6, v6]) cert_ok ?_ ?_
  · simpa [goals] using h
  · intro i hi
    match i, hi with
    | 0, _ | 1, _ | 2, _ | 3, _ | 4, _ | 5, _ => simp [dot, unit6]
  · simp only [prog, okV, combV, List.foldr, List.getD_eq_getElem?_getD]
    simp only [List.getElem?_cons_succ, List.getElem?_cons_zero, Option.getD_some]
    refine ⟨?_, ?_, ?_, ?_, ?_, ?_, ?_, ?_, ?_, ?_, ?_, ?_, ?_, ?_, ?_, ?_, ?_, ?_, ?_, ?_, ?_, ?_, ?_, ?_, ?_, ?_, ?_, ?_, ?_, ?_, ?_, ?_, ?_, ?_, ?_, ?_, ?_, ?_, ?_, ?_, ?_, ?_, ?_, ?_, ?_, ?_, ?_, ?_, ?_, ?_, ?_, ?_, ?_, ?_, ?_, ?_, ?_, trivial⟩
    · rw [h_p0]; congr 1; omega
    · rw [h_p1]; congr 1; omega
    · rw [h_z1]; omega
    · rw [h_p2]; congr 1; omega
    · rw [h_p3]; congr 1; omega
    · rw [h_p4]; congr 1; omega
    · rw [h_s1]; omega
    · rw [h_t1]; omega
    · rw [h_u1]; omega
    · rw [h_v1]; omega
    · rw [h_p5]; congr 1; omega
    · rw [h_p6]; congr 1; omega
    · rw [h_z2]; omega
    · rw [h_p7]; congr 1; omega
    · rw [h_p8]; congr 1; omega
    · rw [h_p9]; congr 1; omega
    · rw [h_s2]; omega
    · rw [h_t2]; omega
    · rw [h_u2]; omega
    · rw [h_v2]; omega
    · rw [h_p10]; congr 1; omega
    · rw [h_p11]; congr 1; omega
    · rw [h_z3]; omega
    · rw [h_p12]; congr 1; omega
    · rw [h_p13]; congr 1; omega
    · rw [h_p14]; congr 1; omega
    · rw [h_s3]; omega
    · rw [h_t3]; omega
    · rw [h_u3]; omega
    · rw [h_v3]; omega
    · rw [h_z4]; omega
    · rw [h_p15]; congr 1; omega
    · rw [h_p16]; congr 1; omega
    · rw [h_p17]; congr 1; omega
    · rw [h_s4]; omega
    · rw [h_t4]; omega
    · rw [h_u4]; omega
    · rw [h_v4]; omega
    · rw [h_p18]; congr 1; omega
    · rw [h_z5]; omega
    · rw [h_p19]; congr 1; omega
    · rw [h_p20]; congr 1; omega
    · rw [h_p21]; congr 1; omega
    · rw [h_s5]; omega
    · rw [h_t5]; omega
    · rw [h_u5]; omega
    · rw [h_v5]; omega
    · rw [h_p22]; congr 1; omega
    · rw [h_p23]; congr 1; omega
    · rw [h_z6]; omega
    · rw [h_p24]; congr 1; omega
    · rw [h_p25]; congr 1; omega
    · rw [h_p26]; congr 1; omega
    · rw [h_s6]; omega
    · rw [h_t6]; omega
    · rw [h_u6]; omega
    · rw [h_v6]; omega
end Tp
namespace Bm
def zz (a b c d : Int) : Int := a - b + max b 0 - c + max d 0
def u1 (a b c d : Int) : Int := a + max b 0 + max (max d 0 - zz a b c d) 0
def u2 (a b c d : Int) : Int := d - max (zz a b c d) 0
def u3 (a b c d : Int) : Int := c + d - max d 0 + b - max b 0 + zz a b c d - max (b - max b 0 + zz a b c d) 0
def u4 (a b c d : Int) : Int := b + max (zz a b c d) 0
theorem up_eq (a b c d : Int) : up a b c d = (u1 a b c d, u2 a b c d, u3 a b c d, u4 a b c d) := by
  simp only [up, u1, u2, u3, u4, zz]
  refine Prod.ext ?_ (Prod.ext ?_ (Prod.ext ?_ ?_)) <;> simp only <;> omega
theorem near_u (a b c d e f : Int) :
    (let p1 := u1 a b c d; let p2 := u2 a b c d; let p3 := u3 a b c d; let p4 := u4 a b c d
     let q1 := u1 p3 p4 e f; let q2 := u2 p3 p4 e f; let q3 := u3 p3 p4 e f; let q4 := u4 p3 p4 e f
     let r1 := u1 c d e f; let r2 := u2 c d e f; let r3 := u3 c d e f; let r4 := u4 c d e f
     let s1 := u1 a b r1 r2; let s2 := u2 a b r1 r2; let s3 := u3 a b r1 r2; let s4 := u4 a b r1 r2
     u1 p1 p2 q1 q2 = s1 ∧ u2 p1 p2 q1 q2 = s2 ∧ u3 p1 p2 q1 q2 = u1 s3 s4 r3 r4 ∧ u4 p1 p2 q1 q2 = u2 s3 s4 r3 r4 ∧ q3 = u3 s3 s4 r3 r4 ∧ q4 = u4 s3 s4 r3 r4) :=
  Tp.near_pl a b c d e f _ _ _ _ _ _ _ _ _ _ _ _ _ _ _ _ _ _ _ _ _ _ _ _ _ _ _ _ _ _ _ _ _ _ _ _ _ _ _ _ _ _ _ _ _ _ _ _ _ _ _ _ _ _ _ _ _ rfl rfl rfl rfl rfl rfl rfl rfl rfl rfl rfl rfl rfl rfl rfl rfl rfl rfl rfl rfl rfl rfl rfl rfl rfl rfl rfl rfl rfl rfl rfl rfl rfl rfl rfl rfl rfl rfl rfl rfl rfl rfl rfl rfl rfl rfl rfl rfl rfl rfl rfl rfl rfl rfl rfl rfl rfl
/-- the numbers: at 2k the x of the place k, at 2k+1 its y -/
abbrev Sq : Type := Nat → Int
def put (p : Nat) (r : Int × Int × Int × Int) (s : Sq) : Sq := fun k => if k = p then r.1 else if k = p + 1 then r.2.1 else if k = p + 2 then r.2.2.1 else if k = p + 3 then r.2.2.2 else s k
def upA (p : Nat) (s : Sq) : Sq := put p (up (s p) (s (p + 1)) (s (p + 2)) (s (p + 3))) s
def dnA (p : Nat) (s : Sq) : Sq := put p (dn (s p) (s (p + 1)) (s (p + 2)) (s (p + 3))) s
theorem put0 (p : Nat) (r) (s : Sq) : put p r s p = r.1 := by simp [put]
theorem put1 (p : Nat) (r) (s : Sq) : put p r s (p + 1) = r.2.1 := by simp [put]
theorem put2 (p : Nat) (r) (s : Sq) : put p r s (p + 2) = r.2.2.1 := by simp [put]
theorem put3 (p : Nat) (r) (s : Sq) : put p r s (p + 3) = r.2.2.2 := by simp [put]
theorem put_out {p : Nat} {r} {s : Sq} {k : Nat} (h : k < p ∨ p + 3 < k) : put p r s k = s k := by
  unfold put
  rw [if_neg (by omega), if_neg (by omega), if_neg (by omega), if_neg (by omega)]
theorem put_self {p : Nat} {s : Sq} {r t} (h : t = (s p, s (p + 1), s (p + 2), s (p + 3))) : put p t (put p r s) = s := by
  subst h
  funext k
  unfold put
  simp only
  split
  · subst_vars; rfl
  · split
    · subst_vars; rfl
    · split
      · subst_vars; rfl
      · split
        · subst_vars; rfl
        · rfl
theorem dn_upA (p : Nat) (s : Sq) : dnA p (upA p s) = s := by
  unfold dnA upA
  rw [put0, put1, put2, put3]
  exact put_self (dn_up _ _ _ _)
theorem up_dnA (p : Nat) (s : Sq) : upA p (dnA p s) = s := by
  unfold dnA upA
  rw [put0, put1, put2, put3]
  exact put_self (up_dn _ _ _ _)
theorem put_put {p q : Nat} {r t} {s : Sq} (h : p + 3 < q ∨ q + 3 < p) : put p r (put q t s) = put q t (put p r s) := by
  funext k
  unfold put
  by_cases h0 : k = p ∨ k = p + 1 ∨ k = p + 2 ∨ k = p + 3
  · rcases h0 with h0 | h0 | h0 | h0 <;> subst h0 <;> (repeat' split) <;> first | rfl | omega
  · rw [if_neg (by omega), if_neg (by omega), if_neg (by omega), if_neg (by omega)]
    repeat' split
    all_goals first | rfl | omega
theorem far_uu {p q : Nat} (s : Sq) (h : p + 3 < q ∨ q + 3 < p) : upA p (upA q s) = upA q (upA p s) := by
  unfold upA
  rw [put_out (by omega), put_out (by omega), put_out (by omega), put_out (by omega), put_out (by omega), put_out (by omega), put_out (by omega), put_out (by omega)]
  exact put_put h
theorem far_ud {p q : Nat} (s : Sq) (h : p + 3 < q ∨ q + 3 < p) : upA p (dnA q s) = dnA q (upA p s) := by
  have := far_uu (dnA q s) h
  rw [up_dnA] at this
  rw [this, dn_upA]
theorem far_dd {p q : Nat} (s : Sq) (h : p + 3 < q ∨ q + 3 < p) : dnA p (dnA q s) = dnA q (dnA p s) := by
  have := far_ud (dnA p s) h
  rw [up_dnA] at this
  rw [← this, dn_upA]
theorem near_uA (p : Nat) (s : Sq) : upA p (upA (p + 2) (upA p s)) = upA (p + 2) (upA p (upA (p + 2) s)) := by
  have h := near_u (s p) (s (p + 1)) (s (p + 2)) (s (p + 3)) (s (p + 4)) (s (p + 5))
  funext k
  by_cases hk : k < p ∨ p + 5 < k
  · unfold upA
    rw [put_out (by omega), put_out (by omega), put_out (by omega), put_out (by omega), put_out (by omega), put_out (by omega)]
  · obtain ⟨j, hj, rfl⟩ : ∃ j, j < 6 ∧ k = p + j := ⟨k - p, by omega, by omega⟩
    simp only at h
    obtain ⟨h0, h1, h2, h3, h4, h5⟩ := h
    match j, hj with
    | 0, _ => simpa [upA, put, up_eq, Nat.add_assoc] using h0
    | 1, _ => simpa [upA, put, up_eq, Nat.add_assoc] using h1
    | 2, _ => simpa [upA, put, up_eq, Nat.add_assoc] using h2
    | 3, _ => simpa [upA, put, up_eq, Nat.add_assoc] using h3
    | 4, _ => simpa [upA, put, up_eq, Nat.add_assoc] using h4
    | 5, _ => simpa [upA, put, up_eq, Nat.add_assoc] using h5
theorem near_dA (p : Nat) (s : Sq) : dnA p (dnA (p + 2) (dnA p s)) = dnA (p + 2) (dnA p (dnA (p + 2) s)) := by
  have h := near_uA p (dnA (p + 2) (dnA p (dnA (p + 2) s)))
  rw [up_dnA, up_dnA, up_dnA] at h
  have h2 := congrArg (fun t => dnA p (dnA (p + 2) (dnA p t))) h
  simp only [dn_upA] at h2
  exact h2.symm
def act (l : Int) (s : Sq) : Sq := if 0 < l then upA (2 * l.natAbs - 2) s else dnA (2 * l.natAbs - 2) s
def num (w : List Int) (s : Sq) : Sq := w.foldl (fun s l => act l s) s
theorem num_app (u v : List Int) (s : Sq) : num (u ++ v) s = num v (num u s) := by simp [num]
theorem act_inv {l : Int} (h : l ≠ 0) (s : Sq) : act (-l) (act l s) = s := by
  unfold act
  rw [Int.natAbs_neg]
  by_cases c : 0 < l
  · rw [if_neg (by omega), if_pos c, dn_upA]
  · rw [if_pos (by omega), if_neg c, up_dnA]
theorem act_far {a b : Int} (s : Sq) (ha : a ≠ 0) (hb : b ≠ 0) (h : 1 < (a.natAbs : Int) - b.natAbs ∨ 1 < (b.natAbs : Int) - a.natAbs) : act a (act b s) = act b (act a s) := by
  have hp : (2 * a.natAbs - 2) + 3 < 2 * b.natAbs - 2 ∨ (2 * b.natAbs - 2) + 3 < 2 * a.natAbs - 2 := by omega
  unfold act
  split <;> split
  · exact far_uu s hp
  · exact far_ud s hp
  · exact (far_ud s hp.symm).symm
  · exact far_dd s hp
theorem act_near {a b : Int} (s : Sq) (h : (0 < a ∧ 0 < b) ∨ (a < 0 ∧ b < 0)) (h1 : b = a + 1 ∨ a = b + 1) : act a (act b (act a s)) = act b (act a (act b s)) := by
  have key : ∀ a b : Int, (0 < a ∧ 0 < b) ∨ (a < 0 ∧ b < 0) → b.natAbs = a.natAbs + 1 → ∀ s, act a (act b (act a s)) = act b (act a (act b s)) := by
    intro a b h e s
    have e2 : 2 * b.natAbs - 2 = (2 * a.natAbs - 2) + 2 := by omega
    unfold act
    rw [e2]
    rcases h with ⟨h1, h2⟩ | ⟨h1, h2⟩
    · rw [if_pos h1, if_pos h2, if_pos h1, if_pos h2, if_pos h1, if_pos h2]; exact near_uA _ s
    · rw [if_neg (by omega), if_neg (by omega), if_neg (by omega), if_neg (by omega), if_neg (by omega), if_neg (by omega)]; exact near_dA _ s
  have : b.natAbs = a.natAbs + 1 ∨ a.natAbs = b.natAbs + 1 := by omega
  rcases this with e | e
  · exact key a b h e s
  · exact (key b a (by omega) e s).symm
/-- words that stand for the same braid move the numbers alike -/
theorem Eqv.num {n : Int} {u v : List Int} (h : Eqv n u v) (s : Sq) : num u s = num v s := by
  refine Eqv.inv Bm.num (fun _ => rfl) num_app (fun x y r a => ?_) h s
  cases r with
  | inv l h => exact act_inv h.1 a
  | far a b ha hb h => exact (act_far _ hb.1 ha.1 h.symm)
  | near a b ha hb h h1 => exact act_near _ h h1
end Bm
namespace Law
open PySem DL Bm
/-! the numbers -/
def tab (m : Nat) (s : Sq) : List Int := (List.range m).map s
theorem tab_length (m : Nat) (s : Sq) : (tab m s).length = m := by simp [tab]
theorem tab_get {m : Nat} {s : Sq} {i : Nat} (h : i < m) : (tab m s)[i]? = some (s i) := by simp [tab, h]
theorem tab_at {m : Nat} {s : Sq} {i : Int} {p : Nat} (e : i = p) (h : p < m) : L2.atI (tab m s) i = some (s p) := by
  subst e
  rw [atI_pos (by omega)]
  simpa using tab_get h
theorem tab_ix {m : Nat} {s : Sq} {i : Int} {p : Nat} (e : i = p) (h : p < m) : L2.ixN (tab m s).length i = some p := by
  subst e
  rw [tab_length]
  simpa using ixN_pos (n := m) (i := (p : Int)) (by omega) (by omega)
def upd (s : Sq) (p : Nat) (v : Int) : Sq := fun k => if k = p then v else s k
theorem tab_set {m : Nat} {s : Sq} {p : Nat} {v : Int} : (tab m s).set p v = tab m (upd s p v) := by
  unfold tab
  refine List.ext_getElem? fun k => ?_
  rw [List.getElem?_set]
  simp only [List.length_map, List.length_range, List.getElem?_map]
  by_cases hk : k < m
  · rw [List.getElem?_range hk]
    by_cases c : p = k
    · subst c; simp [hk, upd]
    · rw [if_neg c]; simp [upd, Ne.symm c]
  · rw [List.getElem?_eq_none (l := List.range m) (by simpa using hk)]
    split <;> simp
    omega
end Law
namespace Bm
/-! ### simple braids, told by their turnings -/
def sw {α : Type} (p : Nat) (s : Nat → α) : Nat → α := fun k => if k = p then s (p + 1) else if k = p + 1 then s p else s k
theorem sw_p {α : Type} (p : Nat) (s : Nat → α) : sw p s p = s (p + 1) := by simp [sw]
theorem sw_q {α : Type} (p : Nat) (s : Nat → α) : sw p s (p + 1) = s p := by simp [sw]
theorem sw_o {α : Type} {p k : Nat} (s : Nat → α) (h : k ≠ p) (h2 : k ≠ p + 1) : sw p s k = s k := by simp [sw, h, h2]
theorem sw_comp {α β : Type} (p : Nat) (f : α → β) (g : Nat → α) : sw p (fun k => f (g k)) = fun k => f (sw p g k) := by
  funext k; unfold sw; split <;> (try split) <;> rfl
theorem sw_sw {α : Type} (p : Nat) (s : Nat → α) : sw p (sw p s) = s := by
  funext k
  by_cases h : k = p
  · subst h; rw [sw_p, sw_q]
  · by_cases h2 : k = p + 1
    · subst h2; rw [sw_q, sw_p]
    · rw [sw_o _ h h2, sw_o _ h h2]
theorem sw_far {α : Type} {p q : Nat} (s : Nat → α) (h : q + 1 < p) : sw q (sw p s) = sw p (sw q s) := by
  funext k
  simp only [sw]
  repeat' split
  all_goals first | rfl | omega
theorem sw_near {α : Type} (q : Nat) (s : Nat → α) : sw q (sw (q + 1) (sw q s)) = sw (q + 1) (sw q (sw (q + 1) s)) := by
  funext k
  by_cases h1 : k = q
  · subst h1
    have a : ¬ k + 1 + 1 = k := by omega
    have b : ¬ k = k + 1 + 1 := by omega
    simp [sw, a, b]
  · by_cases h2 : k = q + 1
    · subst h2
      have a : ¬ q + 1 + 1 = q := by omega
      have b : ¬ q = q + 1 + 1 := by omega
      simp [sw, a, b]
    · by_cases h3 : k = q + 1 + 1
      · subst h3
        have a : ¬ q + 1 + 1 = q := by omega
        have b : ¬ q = q + 1 + 1 := by omega
        simp [sw, a, b]
      · simp [sw, h1, h2, h3]
structure Prm (m : Nat) (s : Sq) : Prop where
  lo : ∀ k, k < m → 0 ≤ s k ∧ s k < m
  inj : ∀ j k, j < m → k < m → s j = s k → j = k
theorem sw_at {α : Type} {p m k : Nat} (s : Nat → α) (hp : p + 1 < m) (hk : k < m) : ∃ j, j < m ∧ sw p s k = s j ∧ (k = p ∧ j = p + 1 ∨ k = p + 1 ∧ j = p ∨ k ≠ p ∧ k ≠ p + 1 ∧ j = k) := by
  by_cases h : k = p
  · exact ⟨p + 1, hp, by rw [h, sw_p], .inl ⟨h, rfl⟩⟩
  · by_cases h2 : k = p + 1
    · exact ⟨p, by omega, by rw [h2, sw_q], .inr (.inl ⟨h2, rfl⟩)⟩
    · exact ⟨k, hk, sw_o _ h h2, .inr (.inr ⟨h, h2, rfl⟩)⟩
theorem Prm.sw {m p : Nat} {s : Sq} (h : Prm m s) (hp : p + 1 < m) : Prm m (sw p s) where
  lo := fun k hk => by
    obtain ⟨j, hj, e, _⟩ := sw_at s hp hk
    rw [e]; exact h.lo j hj
  inj := fun j k hj hk e => by
    obtain ⟨j', hj', e1, c1⟩ := sw_at s hp hj
    obtain ⟨k', hk', e2, c2⟩ := sw_at s hp hk
    rw [e1, e2] at e
    have := h.inj j' k' hj' hk' e
    omega
def cnt (f : Nat → Bool) : Nat → Nat
  | 0 => 0
  | k + 1 => cnt f k + (if f k = true then 1 else 0)
def inv (s : Sq) : Nat → Nat
  | 0 => 0
  | q + 1 => inv s q + cnt (fun p => decide (s q < s p)) q
theorem cnt_congr {f g : Nat → Bool} : ∀ {k : Nat}, (∀ j, j < k → f j = g j) → cnt f k = cnt g k
  | 0, _ => rfl
  | k + 1, h => by
    unfold cnt
    rw [cnt_congr fun j hj => h j (by omega), h k (by omega)]
theorem cnt_sw {p : Nat} (F : Int → Bool) (s : Sq) : ∀ {k : Nat}, p + 1 < k → cnt (fun j => F (sw p s j)) k = cnt (fun j => F (s j)) k
  | 0, h => by omega
  | k + 1, h => by
    by_cases c : p + 1 = k
    · subst c
      have e : cnt (fun j => F (sw p s j)) p = cnt (fun j => F (s j)) p := cnt_congr fun j hj => by rw [sw_o _ (by omega) (by omega)]
      simp only [cnt, e, sw_p, sw_q]
      omega
    · have ih := cnt_sw F s (k := k) (p := p) (by omega)
      have e := sw_o (k := k) (p := p) s (by omega) (by omega)
      simp only [cnt, ih, e]
theorem inv_congr {s t : Sq} : ∀ {m : Nat}, (∀ k, k < m → s k = t k) → inv s m = inv t m
  | 0, _ => rfl
  | m + 1, h => by
    unfold inv
    rw [inv_congr fun k hk => h k (by omega), cnt_congr (g := fun p => decide (t m < t p)) fun j hj => by rw [h m (by omega), h j (by omega)]]
theorem inv_sw {p : Nat} {s : Sq} (hd : s (p + 1) < s p) : ∀ {m : Nat}, p + 1 < m → inv (sw p s) m + 1 = inv s m
  | 0, h => by omega
  | q + 1, h => by
    by_cases c : p + 1 = q
    · subst c
      have e1 : inv (sw p s) p = inv s p := inv_congr fun k hk => sw_o _ (by omega) (by omega)
      have e2 : cnt (fun j => decide (s (p + 1) < sw p s j)) p = cnt (fun j => decide (s (p + 1) < s j)) p := cnt_congr fun j hj => by rw [sw_o _ (by omega) (by omega)]
      have e3 : cnt (fun j => decide (s p < sw p s j)) p = cnt (fun j => decide (s p < s j)) p := cnt_congr fun j hj => by rw [sw_o _ (by omega) (by omega)]
      simp only [inv, e1, sw_p, sw_q, cnt, e2, e3]
      have h1 : decide (s p < s (p + 1)) = false := by simp; omega
      have h2 : decide (s (p + 1) < s p) = true := by simpa using hd
      simp only [h1, h2, if_true]
      simp
      omega
    · have ih := inv_sw hd (m := q) (by omega)
      simp only [inv]
      rw [sw_o (k := q) _ (by omega) (by omega), cnt_sw (fun x => decide (s q < x)) s (by omega)]
      omega
def dsc (m : Nat) (s : Sq) : List Nat := (List.range (m - 1)).filter fun p => decide (s (p + 1) < s p)
theorem dsc_mem {m p : Nat} {s : Sq} : p ∈ dsc m s ↔ p + 1 < m ∧ s (p + 1) < s p := by
  simp only [dsc, List.mem_filter, List.mem_range, decide_eq_true_eq]
  omega
theorem dsc_nil {m : Nat} {s : Sq} (h : dsc m s = []) : ∀ p, p + 1 < m → s p ≤ s (p + 1) := fun p hp => by
  by_cases c : s (p + 1) < s p
  · have := dsc_mem.mpr ⟨hp, c⟩
    rw [h] at this; cases this
  · omega
theorem dsc_cons {m p : Nat} {s : Sq} {r : List Nat} (h : dsc m s = p :: r) : p + 1 < m ∧ s (p + 1) < s p ∧ ∀ j, j < p → ¬ s (j + 1) < s j := by
  have h0 : p ∈ dsc m s := by rw [h]; exact List.mem_cons_self
  obtain ⟨h1, h2⟩ := dsc_mem.mp h0
  refine ⟨h1, h2, fun j hj c => ?_⟩
  have hj' : j ∈ dsc m s := dsc_mem.mpr ⟨by omega, c⟩
  have hs : (dsc m s).Pairwise (· < ·) := (List.pairwise_lt_range (n := m - 1)).filter _
  rw [h] at hs hj'
  rcases List.mem_cons.mp hj' with e | e
  · omega
  · have := (List.pairwise_cons.mp hs).1 j e; omega
theorem mono_le {m : Nat} {s : Sq} (h : ∀ p, p + 1 < m → s p ≤ s (p + 1)) : ∀ {k j : Nat}, j ≤ k → k < m → s j ≤ s k
  | 0, j, hj, _ => by have : j = 0 := by omega
                      subst this; omega
  | k + 1, j, hj, hk => by
    by_cases c : j = k + 1
    · subst c; omega
    · have := mono_le h (k := k) (j := j) (by omega) (by omega)
      have := h k hk
      omega
theorem cnt_zero {f : Nat → Bool} : ∀ {k : Nat}, (∀ j, j < k → f j = false) → cnt f k = 0
  | 0, _ => rfl
  | k + 1, h => by unfold cnt; rw [cnt_zero fun j hj => h j (by omega), h k (by omega)]; rfl
theorem inv_zero {s : Sq} : ∀ {m : Nat}, (∀ p, p + 1 < m → s p ≤ s (p + 1)) → inv s m = 0
  | 0, _ => rfl
  | q + 1, h => by
    unfold inv
    rw [inv_zero fun p hp => h p (by omega), cnt_zero fun j hj => by have := mono_le h (k := q) (j := j) (by omega) (by omega); simp; omega]
theorem cnt_le {f : Nat → Bool} : ∀ (k : Nat), cnt f k ≤ k
  | 0 => Nat.le_refl _
  | k + 1 => by unfold cnt; have := cnt_le (f := f) k; split <;> omega
theorem inv_le {s : Sq} : ∀ (m : Nat), inv s m ≤ m * m
  | 0 => Nat.le_refl _
  | m + 1 => by
    unfold inv
    have h1 := inv_le (s := s) m
    have h2 := cnt_le (f := fun p => decide (s m < s p)) m
    have e : (m + 1) * (m + 1) = m * m + 2 * m + 1 := by rw [Nat.add_mul, Nat.mul_add]; omega
    omega
/-- the first word, by fuel -/
def wd (m : Nat) : Nat → Sq → List Int
  | 0, _ => []
  | k + 1, s => match dsc m s with
    | [] => []
    | p :: _ => ((p : Int) + 1) :: wd m k (sw p s)
def W (m : Nat) (s : Sq) : List Int := wd m (inv s m) s
theorem W_nil {m : Nat} {s : Sq} (h : dsc m s = []) : W m s = [] := by
  unfold W
  rw [inv_zero (dsc_nil h)]
  rfl
theorem W_cons {m p : Nat} {s : Sq} {r : List Nat} (h : dsc m s = p :: r) : W m s = ((p : Int) + 1) :: W m (sw p s) := by
  obtain ⟨h1, h2, _⟩ := dsc_cons h
  have e := inv_sw h2 h1
  unfold W
  rw [← e]
  rw [wd.eq_2, h]
theorem dsc_cases (m : Nat) (s : Sq) : dsc m s = [] ∨ ∃ p r, dsc m s = p :: r := by
  cases dsc m s with
  | nil => exact .inl rfl
  | cons p r => exact .inr ⟨p, r, rfl⟩
theorem W_length {m : Nat} : ∀ {k : Nat} {s : Sq}, inv s m = k → (W m s).length = k := by
  intro k
  induction k with
  | zero =>
    intro s h
    rcases dsc_cases m s with c | ⟨p, r, c⟩
    · rw [W_nil c]; rfl
    · obtain ⟨h1, h2, _⟩ := dsc_cons c
      have := inv_sw h2 h1
      omega
  | succ k ih =>
    intro s h
    rcases dsc_cases m s with c | ⟨p, r, c⟩
    · rw [inv_zero (dsc_nil c)] at h; omega
    · obtain ⟨h1, h2, _⟩ := dsc_cons c
      have := inv_sw h2 h1
      rw [W_cons c, List.length_cons, ih (s := sw p s) (by omega)]
theorem W_lw {m : Nat} : ∀ {k : Nat} {s : Sq}, inv s m = k → ∀ l ∈ W m s, 1 ≤ l ∧ l < m := by
  intro k
  induction k with
  | zero =>
    intro s h l hl
    have := W_length h
    rw [List.length_eq_zero_iff.mp this] at hl; cases hl
  | succ k ih =>
    intro s h l hl
    rcases dsc_cases m s with c | ⟨p, r, c⟩
    · rw [inv_zero (dsc_nil c)] at h; omega
    · obtain ⟨h1, h2, _⟩ := dsc_cons c
      have := inv_sw h2 h1
      rw [W_cons c] at hl
      rcases List.mem_cons.mp hl with e | hl
      · omega
      · exact ih (s := sw p s) (by omega) l hl
theorem W_Lw (m : Nat) (s : Sq) : Lw m (W m s) := fun l hl => by
  have := W_lw (m := m) (s := s) rfl l hl
  unfold Ltr; omega
theorem ltr_of {m p : Nat} (h : p + 1 < m) : Ltr m ((p : Int) + 1) := by unfold Ltr; omega
/-- any letter with which it begins can be the first one -/
theorem W_any {m : Nat} : ∀ (k : Nat) (s : Sq), inv s m = k → ∀ p, p + 1 < m → s (p + 1) < s p → Eqv m (((p : Int) + 1) :: W m (sw p s)) (W m s) := by
  intro k
  induction k using Nat.strongRecOn with
  | ind k ih =>
  intro s hk p hp hd
  rcases dsc_cases m s with c | ⟨q, r, c⟩
  · have := dsc_nil c p hp; omega
  obtain ⟨h1, h2, h3⟩ := dsc_cons c
  have eW := W_cons c
  have kq := inv_sw h2 h1
  have kp := inv_sw hd hp
  by_cases e : p = q
  · subst e; rw [eW]; exact .refl _
  have hqp : q < p := by
    by_cases c2 : p < q
    · exact (h3 p c2 hd).elim
    · omega
  by_cases far : q + 1 < p
  · have a1 := ih (inv (sw q s) m) (by omega) (sw q s) rfl p hp (by rw [sw_o _ (by omega) (by omega), sw_o _ (by omega) (by omega)]; exact hd)
    have a2 := ih (inv (sw p s) m) (by omega) (sw p s) rfl q h1 (by rw [sw_o _ (by omega) (by omega), sw_o _ (by omega) (by omega)]; exact h2)
    rw [sw_far s far] at a2
    rw [eW]
    have b1 : Eqv m ([(p : Int) + 1] ++ W m (sw p s)) ([(p : Int) + 1] ++ (((q : Int) + 1) :: W m (sw p (sw q s)))) := a2.symm.left _
    have b2 : Eqv m ([(q : Int) + 1] ++ (((p : Int) + 1) :: W m (sw p (sw q s)))) ([(q : Int) + 1] ++ W m (sw q s)) := a1.left _
    have b3 : Eqv m ([(p : Int) + 1, (q : Int) + 1] ++ W m (sw p (sw q s))) ([(q : Int) + 1, (p : Int) + 1] ++ W m (sw p (sw q s))) := (Rule.far _ _ (ltr_of hp) (ltr_of h1) (by omega)).eqv.right _
    exact (b1.trans b3).trans b2
  · have e1 : p = q + 1 := by omega
    subst e1
    have d1 : (sw (q + 1) s) (q + 1) < (sw (q + 1) s) q := by rw [sw_p, sw_o _ (by omega) (by omega)]; omega
    have a1 := ih (inv (sw (q + 1) s) m) (by omega) (sw (q + 1) s) rfl q h1 d1
    have k1 := inv_sw d1 h1
    have d2 : (sw q (sw (q + 1) s)) (q + 1 + 1) < (sw q (sw (q + 1) s)) (q + 1) := by rw [sw_q, sw_o (k := q + 1 + 1) _ (by omega) (by omega), sw_q, sw_o _ (by omega) (by omega)]; omega
    have a2 := ih (inv (sw q (sw (q + 1) s)) m) (by omega) (sw q (sw (q + 1) s)) rfl (q + 1) hp d2
    have d3 : (sw q s) (q + 1 + 1) < (sw q s) (q + 1) := by rw [sw_q, sw_o _ (by omega) (by omega)]; omega
    have a3 := ih (inv (sw q s) m) (by omega) (sw q s) rfl (q + 1) hp d3
    have k3 := inv_sw d3 hp
    have d4 : (sw (q + 1) (sw q s)) (q + 1) < (sw (q + 1) (sw q s)) q := by rw [sw_p, sw_o (k := q) _ (by omega) (by omega), sw_p, sw_o _ (by omega) (by omega)]; omega
    have a4 := ih (inv (sw (q + 1) (sw q s)) m) (by omega) (sw (q + 1) (sw q s)) rfl q h1 d4
    rw [sw_near] at a4
    rw [eW]
    have b1 := (a2.left [(q : Int) + 1]).trans a1
    have b2 := (a4.left [((q + 1 : Nat) : Int) + 1]).trans a3
    have b3 : Eqv m ([((q + 1 : Nat) : Int) + 1, (q : Int) + 1, ((q + 1 : Nat) : Int) + 1] ++ W m (sw (q + 1) (sw q (sw (q + 1) s)))) ([(q : Int) + 1, ((q + 1 : Nat) : Int) + 1, (q : Int) + 1] ++ W m (sw (q + 1) (sw q (sw (q + 1) s)))) :=
      (Rule.near _ _ (ltr_of hp) (ltr_of h1) (.inl ⟨by omega, by omega⟩) (by omega)).eqv.right _
    exact ((b1.symm.left [((q + 1 : Nat) : Int) + 1]).trans b3).trans (b2.left [(q : Int) + 1])
/-- a row of letters that takes the crossings away, one by one -/
inductive Srt (m : Nat) : Sq → List Int → Prop
  | nil {s : Sq} (h : ∀ p, p + 1 < m → s p ≤ s (p + 1)) : Srt m s []
  | cons {s : Sq} {p : Nat} {w : List Int} (hp : p + 1 < m) (hd : s (p + 1) < s p) (h : Srt m (sw p s) w) : Srt m s (((p : Int) + 1) :: w)
theorem Srt.eqv {m : Nat} {s : Sq} {w : List Int} (h : Srt m s w) : Eqv m w (W m s) ∧ w.length = inv s m := by
  induction h with
  | nil h =>
    have e := inv_zero h
    have := W_length e
    rw [List.length_eq_zero_iff.mp this, e]
    exact ⟨.refl _, rfl⟩
  | cons hp hd _ ih =>
    have := inv_sw hd hp
    refine ⟨(ih.1.left [_]).trans (W_any _ _ rfl _ hp hd), ?_⟩
    rw [List.length_cons, ih.2]; omega
theorem W_srt {m : Nat} : ∀ {k : Nat} {s : Sq}, inv s m = k → Srt m s (W m s) := by
  intro k
  induction k with
  | zero =>
    intro s h
    rcases dsc_cases m s with c | ⟨p, r, c⟩
    · rw [W_nil c]; exact .nil (dsc_nil c)
    · obtain ⟨h1, h2, _⟩ := dsc_cons c
      have := inv_sw h2 h1
      omega
  | succ k ih =>
    intro s h
    rcases dsc_cases m s with c | ⟨p, r, c⟩
    · rw [inv_zero (dsc_nil c)] at h; omega
    · obtain ⟨h1, h2, _⟩ := dsc_cons c
      have := inv_sw h2 h1
      rw [W_cons c]
      exact .cons h1 h2 (ih (by omega))
theorem Srt.lw {m : Nat} {s : Sq} {w : List Int} (h : Srt m s w) : Lw m w := by
  induction h with
  | nil _ => exact .nil
  | cons hp _ _ ih => exact .cons (ltr_of hp) ih
/-- what ascends is the turning of no crossing -/
theorem asc_id {m : Nat} {s : Sq} (P : Prm m s) (h : ∀ p, p + 1 < m → s p ≤ s (p + 1)) : ∀ k, k < m → s k = k := by
  have st : ∀ p, p + 1 < m → s p + 1 ≤ s (p + 1) := fun p hp => by
    have h1 := h p hp
    by_cases c : s p = s (p + 1)
    · have := P.inj p (p + 1) (by omega) hp c; omega
    · omega
  have up : ∀ k, k < m → (k : Int) ≤ s k := by
    intro k
    induction k with
    | zero => intro hk; have := P.lo 0 hk; omega
    | succ k ih => intro hk; have := ih (by omega); have := st k hk; omega
  have dn : ∀ j, j < m → s (m - 1 - j) ≤ ((m - 1 - j : Nat) : Int) := by
    intro j
    induction j with
    | zero => intro hj; have := P.lo (m - 1) (by omega); simp only [Nat.sub_zero]; omega
    | succ j ih =>
      intro hj
      have h1 := ih (by omega)
      have h2 := st (m - 1 - (j + 1)) (by omega)
      have e : m - 1 - (j + 1) + 1 = m - 1 - j := by omega
      rw [e] at h2
      omega
  intro k hk
  have h1 := up k hk
  have h2 := dn (m - 1 - k) (by omega)
  have e : m - 1 - (m - 1 - k) = k := by omega
  rw [e] at h2
  omega
/-- two values exchanged -/
def vs (v : Int) (s : Sq) : Sq := fun k => if s k = v then v + 1 else if s k = v + 1 then v else s k
theorem vs_sw (v : Int) (p : Nat) (s : Sq) : sw p (vs v s) = vs v (sw p s) := by
  funext k
  simp only [sw, vs]
  repeat' split
  all_goals first | rfl | omega
theorem Prm.vs {m : Nat} {s : Sq} {v : Int} (h : Prm m s) (h0 : 0 ≤ v) (h1 : v + 1 < m) : Prm m (vs v s) where
  lo := fun k hk => by
    have := h.lo k hk
    unfold Bm.vs
    repeat' split
    all_goals omega
  inj := fun j k hj hk e => by
    refine h.inj j k hj hk ?_
    unfold Bm.vs at e
    repeat' split at e
    all_goals omega
theorem Srt.behind {m : Nat} {v : Int} (h0 : 0 ≤ v) (h1 : v + 1 < m) {t : Sq} {w : List Int} (h : Srt m t w) : ∀ {s : Sq}, t = Bm.vs v s → Prm m s → (∀ a b, a < m → b < m → s a = v → s b = v + 1 → b < a) → Srt m s (w ++ [v + 1]) := by
  induction h with
  | nil h =>
    intro s e P hab
    subst e
    have id := asc_id (P.vs h0 h1) h
    obtain ⟨p, rfl⟩ : ∃ p : Nat, v = p := ⟨v.toNat, by omega⟩
    have e1 : s p = p + 1 := by
      have := id p (by omega)
      unfold Bm.vs at this
      repeat' split at this
      all_goals omega
    have e2 : s (p + 1) = p := by
      have := id (p + 1) (by omega)
      unfold Bm.vs at this
      repeat' split at this
      all_goals omega
    have e3 : ∀ k, k < m → k ≠ p → k ≠ p + 1 → s k = k := fun k hk n1 n2 => by
      have := id k hk
      unfold Bm.vs at this
      repeat' split at this
      all_goals omega
    refine .cons (by omega) (by omega) (.nil fun q hq => ?_)
    have f : ∀ k, k < m → sw p s k = k := fun k hk => by
      by_cases c1 : k = p
      · subst c1; rw [sw_p, e2]
      · by_cases c2 : k = p + 1
        · subst c2; rw [sw_q, e1]; omega
        · rw [sw_o _ c1 c2, e3 k hk c1 c2]
    rw [f q (by omega), f (q + 1) hq]
    omega
  | cons hp hd _ ih =>
    rename_i t p w _
    intro s e P hab
    subst e
    have hd' : s (p + 1) < s p := by
      have n1 := hab p (p + 1) (by omega) hp
      have n2 := hab (p + 1) p hp (by omega)
      unfold Bm.vs at hd
      repeat' split at hd
      all_goals omega
    refine .cons hp hd' (ih (vs_sw v p s) (P.sw hp) fun a b ha hb e1 e2 => ?_)
    obtain ⟨a', ha', f1, c1⟩ := sw_at s hp ha
    obtain ⟨b', hb', f2, c2⟩ := sw_at s hp hb
    rw [f1] at e1
    rw [f2] at e2
    have hlt := hab a' b' ha' hb' e1 e2
    have nn : ¬ (b' = p ∧ a' = p + 1) := fun ⟨x, y⟩ => by
      rw [y] at e1
      rw [x] at e2
      have k1 : Bm.vs v s (p + 1) = v + 1 := by unfold Bm.vs; rw [if_pos e1]
      have k2 : Bm.vs v s p = v := by unfold Bm.vs; rw [if_neg (by omega), if_pos e2]
      omega
    omega
theorem ends_ok {m : Nat} {v : Int} {s : Sq} (P : Prm m s) (h0 : 0 ≤ v) (h1 : v + 1 < m) (h : ∀ a b, a < m → b < m → s a = v → s b = v + 1 → b < a) : Eqv m (W m (vs v s) ++ [v + 1]) (W m s) ∧ (W m (vs v s) ++ [v + 1]).length = inv s m :=
  ((W_srt rfl).behind h0 h1 rfl P h).eqv
end Bm
namespace Law
open PySem DL Bm
theorem nodup_sub_perm : ∀ {xs ys : List Int}, xs.Nodup → (∀ x ∈ xs, x ∈ ys) → ys.length ≤ xs.length → xs.Perm ys
  | [], ys, _, _, h => by
    have : ys = [] := List.length_eq_zero_iff.mp (by simpa using h)
    rw [this]
  | x :: xs, ys, hn, hs, hl => by
    have hx : x ∈ ys := hs x List.mem_cons_self
    have hn' := List.nodup_cons.mp hn
    have ih := nodup_sub_perm (xs := xs) (ys := ys.erase x) hn'.2 (fun y hy => by
      have : y ≠ x := fun e => hn'.1 (e ▸ hy)
      exact (List.mem_erase_of_ne this).mpr (hs y (List.mem_cons_of_mem _ hy))) (by
      rw [List.length_erase_of_mem hx]
      simp only [List.length_cons] at hl
      omega)
    exact (ih.cons x).trans (List.perm_cons_erase hx).symm
theorem rg_mem' {m : Nat} {x : Int} : x ∈ rg 0 m ↔ 0 ≤ x ∧ x < m := by
  simp only [rg, List.mem_map, List.mem_range]
  constructor
  · rintro ⟨i, hi, rfl⟩; omega
  · rintro ⟨h1, h2⟩; exact ⟨x.toNat, by omega, by omega⟩
theorem rg_eq_tab (m : Nat) : rg 0 m = tab m (fun k => (k : Int)) := by simp [rg, tab]
theorem tab_perm {m : Nat} {s : Sq} (P : Prm m s) : (tab m s).Perm (rg 0 m) := by
  refine nodup_sub_perm ?_ (fun x hx => ?_) (by simp [tab_length])
  · unfold tab
    refine List.pairwise_map.mpr ?_
    refine (List.pairwise_lt_range (n := m)).imp_of_mem fun {a b} ha hb hab e => ?_
    have := P.inj a b (List.mem_range.mp ha) (List.mem_range.mp hb) e
    omega
  · simp only [tab, List.mem_map, List.mem_range] at hx
    obtain ⟨k, hk, rfl⟩ := hx
    exact rg_mem'.mpr (P.lo k hk)
theorem rg_sorted (m : Nat) : (rg 0 m).Pairwise (· ≤ ·) := by
  unfold rg
  refine List.pairwise_map.mpr ?_
  exact (List.pairwise_lt_range (n := m)).imp fun {a b} h => by omega
theorem srt_tab {m : Nat} {s : Sq} (P : Prm m s) : srtI (tab m s) = rg 0 m := sorted_unique ((srtI_perm _).trans (tab_perm P)) (srtI_sorted _) (rg_sorted m)
theorem tab_eq {m : Nat} {s t : Sq} : tab m s = tab m t ↔ ∀ k, k < m → s k = t k := by
  constructor
  · intro h k hk
    have e1 := tab_get (s := s) hk
    rw [h, tab_get (s := t) hk] at e1
    exact (Option.some.inj e1).symm
  · intro h
    refine List.ext_getElem? fun k => ?_
    by_cases hk : k < m
    · rw [tab_get hk, tab_get hk, h k hk]
    · rw [List.getElem?_eq_none (by rw [tab_length]; omega), List.getElem?_eq_none (by rw [tab_length]; omega)]
theorem list_tab (xs : List Int) : xs = tab xs.length (fun k => xs.getD k 0) := by
  refine List.ext_getElem? fun k => ?_
  by_cases hk : k < xs.length
  · rw [tab_get hk]; simp [hk]
  · rw [List.getElem?_eq_none (by omega), List.getElem?_eq_none (by rw [tab_length]; omega)]
theorem perm_tab {m : Nat} {xs : List Int} (h : xs.Perm (rg 0 m)) : ∃ s, xs = tab m s ∧ Prm m s := by
  have hl : xs.length = m := by rw [h.length_eq, rg_length]
  subst hl
  refine ⟨_, list_tab xs, fun k hk => ?_, fun j k hj hk e => ?_⟩
  · have : xs.getD k 0 ∈ xs := by simp [hk]
    exact rg_mem'.mp (h.mem_iff.mp this)
  · have nd : xs.Nodup := by
      refine h.nodup_iff.mpr ?_
      unfold rg
      refine List.pairwise_map.mpr ?_
      exact (List.pairwise_lt_range (n := xs.length)).imp fun {a b} h => by omega
    simp [hj, hk] at e
    have q := List.pairwise_iff_getElem.mp nd
    rcases Nat.lt_trichotomy j k with c | c | c
    · exact (q j k hj hk c e).elim
    · exact c
    · exact (q k j hk hj c e.symm).elim
theorem sw_upd {p : Nat} {s : Sq} : upd (upd s p (s (p + 1))) (p + 1) (s p) = sw p s := by
  funext k
  simp only [upd, sw]
  by_cases h1 : k = p + 1
  · have h2 : ¬ k = p := by omega
    simp [h1]
  · simp [h1]
theorem sw_upd' {p : Nat} {s : Sq} : upd (upd s (p + 1) (s p)) p (s (p + 1)) = sw p s := by
  funext k
  simp only [upd, sw]
/-! swaps by a word -/
def sws {α : Type} (w : List Int) (f : Nat → α) : Nat → α := w.foldl (fun f l => sw (l.natAbs - 1) f) f
theorem sws_comp {α β : Type} (f : α → β) : ∀ (w : List Int) (g : Nat → α), sws w (fun k => f (g k)) = fun k => f (sws w g k)
  | [], g => rfl
  | l :: w, g => by
    show sws w (sw _ (fun k => f (g k))) = _
    rw [sw_comp, sws_comp f w]
    rfl
theorem sws_srt {m : Nat} {s : Sq} {w : List Int} (h : Srt m s w) : Prm m s → ∀ k, k < m → sws w s k = k := by
  induction h with
  | nil h => exact fun P => asc_id P h
  | cons hp hd _ ih =>
    rename_i s p w _
    intro P k hk
    show sws w (sw (((p : Int) + 1).natAbs - 1) s) k = k
    have e : ((p : Int) + 1).natAbs - 1 = p := by omega
    rw [e]
    exact ih (P.sw hp) k hk
theorem sws_rg {m : Nat} : ∀ {w : List Int} {g : Nat → Nat}, Lw m w → (∀ k, k < m → g k < m) → ∀ k, k < m → sws w g k < m
  | [], g, _, h, k, hk => h k hk
  | l :: w, g, hw, h, k, hk => by
    have hl := hw l List.mem_cons_self
    unfold Ltr at hl
    refine sws_rg (w := w) (g := sw (l.natAbs - 1) g) (fun x hx => hw x (List.mem_cons_of_mem _ hx)) (fun k hk => ?_) k hk
    obtain ⟨j, hj, e, _⟩ := sw_at g (p := l.natAbs - 1) (by omega) hk
    rw [e]; exact h j hj
/-- where each one ends, written down -/
def bk (s : Sq) : Nat → Sq
  | 0 => fun _ => 0
  | k + 1 => upd (bk s k) (s k).toNat k
theorem bk_at {m : Nat} {s : Sq} (P : Prm m s) : ∀ {k : Nat}, k ≤ m → ∀ i, i < k → bk s k (s i).toNat = i
  | 0, _, i, hi => by omega
  | k + 1, hk, i, hi => by
    show upd (bk s k) (s k).toNat k (s i).toNat = i
    unfold upd
    by_cases c : (s i).toNat = (s k).toNat
    · rw [if_pos c]
      have h1 := P.lo i (by omega)
      have h2 := P.lo k (by omega)
      have := P.inj i k (by omega) (by omega) (by omega)
      omega
    · rw [if_neg c]
      by_cases c2 : i = k
      · subst c2; exact (c rfl).elim
      · exact bk_at P (k := k) (by omega) i (by omega)
/-- what stands at the places behind a word that sorts it -/
theorem bk_sws {m : Nat} {s : Sq} {w : List Int} (h : Srt m s w) (P : Prm m s) : Prm m (sws w fun k => (k : Int)) ∧ ∀ j, j < m → bk (sws w fun k => (k : Int)) m j = s j := by
  have e : (sws w fun k => (k : Int)) = fun k => ((sws w (fun k => k) k : Nat) : Int) := sws_comp (fun k : Nat => (k : Int)) w (fun k => k)
  have e2 : sws w s = fun k => s (sws w (fun k => k) k) := sws_comp s w (fun k => k)
  have r := sws_rg h.lw (g := fun k => k) (fun k hk => hk)
  have q : ∀ k, k < m → s (sws w (fun k => k) k) = k := fun k hk => by
    have := sws_srt h P k hk
    rw [e2] at this
    exact this
  have PP : Prm m (sws w fun k => (k : Int)) := by
    rw [e]
    refine ⟨fun k hk => by have := r k hk; omega, fun j k hj hk c => ?_⟩
    have c' : sws w (fun k => k) j = sws w (fun k => k) k := by omega
    have h1 := q j hj
    rw [c', q k hk] at h1
    omega
  refine ⟨PP, fun j hj => ?_⟩
  have hs := P.lo j hj
  have hk : (s j).toNat < m := by omega
  have e3 : sws w (fun k => k) (s j).toNat = j := P.inj _ _ (r _ hk) hj (by rw [q _ hk]; omega)
  have := bk_at PP (k := m) (Nat.le_refl _) (s j).toNat hk
  rw [e] at this
  simp only [e3] at this
  rw [e]
  have t : ((j : Int)).toNat = j := by omega
  rw [t] at this
  rw [this]
  omega
theorem prm_bk {m : Nat} {s : Sq} (P : Prm m s) : Prm m (bk s m) ∧ ∀ k, k < m → s (bk s m k).toNat = k := by
  -- each place is reached
  have onto : ∀ k, k < m → ∃ i, i < m ∧ s i = k := fun k hk => by
    have : ((k : Nat) : Int) ∈ tab m s := (tab_perm P).mem_iff.mpr (rg_mem'.mpr ⟨by omega, by omega⟩)
    simp only [tab, List.mem_map, List.mem_range] at this
    obtain ⟨i, hi, e⟩ := this
    exact ⟨i, hi, e⟩
  have val : ∀ k, k < m → ∃ i, i < m ∧ s i = k ∧ bk s m k = i := fun k hk => by
    obtain ⟨i, hi, e⟩ := onto k hk
    refine ⟨i, hi, e, ?_⟩
    have := bk_at P (k := m) (Nat.le_refl _) i hi
    rw [e] at this
    simpa using this
  refine ⟨⟨fun k hk => ?_, fun j k hj hk e => ?_⟩, fun k hk => ?_⟩
  · obtain ⟨i, hi, e1, e2⟩ := val k hk
    omega
  · obtain ⟨i, hi, e1, e2⟩ := val j hj
    obtain ⟨i', hi', e3, e4⟩ := val k hk
    have : i = i' := by omega
    subst this
    omega
  · obtain ⟨i, hi, e1, e2⟩ := val k hk
    rw [e2]
    simpa using e1
end Law
namespace Law
open PySem DL Mir Bm
theorem is_number_int (i : Int) : f_is_number [.dat (.int i)] = .ok (.dat (.bl true)) [] := by
  unfold f_is_number
  rw [runF_eq (by rfl) (by rfl)]
  simp [m_is_number, sSeq, sSet, sOwn, sAli, sAsg, sRet, sRetN, sIf, sPass, sExpr, sFor, sPar, sPar3, sParO, sParO3, eFnX, lendM, lends, lendD, lendR, atomD, keepO, slotOf, sOwn2, eFrz, tvT, truD, sortedD, insertD, eOp2, eOp1, eName, eD, ixD, setS_nw, setS_own, nwAt, noOwn_nw, peek_pl, gSb, gNm, gTp, gCs, gNl, getP, putP, addD, subD, mulD, modD, fdivD, powD, ltD, leD, gtD, geD, isD, isnotD, D.isN, negD, tvB, tvNot, tvAnd, tvOr, evT, evAnd, evOr, evNot, evIf, evChain, eCall, aCons, aNil, peeks, dats, lenD, intD, listD, tupleD, eTup, eLst, eSl, oNone, oSome, slD, revD, eLr1, eLr2, iSeq, iR1_eq, iR1f, iR2_eq, iR2f, iR3_eq, iR3f, iEnu, iZp, tYesM, eMeth, appendD, extendD, popD, reverseD, dropS, eFn, toArgs, backE, aft, finF, backs, eIsi, stp, lim]
theorem check_strands_ok {n : Int} (h1 : 1 ≤ n) (h8 : n ≤ 8) : f_check_strands [.dat (.int n)] = .ok (.dat .non) [] := by
  unfold f_check_strands
  rw [runF_eq (by rfl) (by rfl)]
  simp [m_check_strands, sSeq, sSet, sOwn, sAli, sAsg, sRet, sRetN, sIf, sPass, sExpr, sFor, sPar, sPar3, sParO, sParO3, eFnX, lendM, lends, lendD, lendR, atomD, keepO, slotOf, sOwn2, eFrz, tvT, truD, sortedD, insertD, eOp2, eOp1, eName, eD, ixD, setS_nw, setS_own, nwAt, noOwn_nw, peek_pl, gSb, gNm, gTp, gCs, gNl, getP, putP, addD, subD, mulD, modD, fdivD, powD, ltD, leD, gtD, geD, isD, isnotD, D.isN, negD, tvB, tvNot, tvAnd, tvOr, evT, evAnd, evOr, evNot, evIf, evChain, eCall, aCons, aNil, peeks, dats, lenD, intD, listD, tupleD, eTup, eLst, eSl, oNone, oSome, slD, revD, eLr1, eLr2, iSeq, iR1_eq, iR1f, iR2_eq, iR2f, iR3_eq, iR3f, iEnu, iZp, tYesM, eMeth, appendD, extendD, popD, reverseD, dropS, eFn, toArgs, backE, aft, finF, backs, eIsi, stp, lim, is_number_int, h1, h8]
theorem is_place_ok {n i : Int} (h0 : 0 ≤ i) (h1 : i < n) : f_is_place [.dat (.int n), .dat (.int i)] = .ok (.dat (.bl true)) [] := by
  unfold f_is_place
  rw [runF_eq (by rfl) (by rfl)]
  simp [m_is_place, sSeq, sSet, sOwn, sAli, sAsg, sRet, sRetN, sIf, sPass, sExpr, sFor, sPar, sPar3, sParO, sParO3, eFnX, lendM, lends, lendD, lendR, atomD, keepO, slotOf, sOwn2, eFrz, tvT, truD, sortedD, insertD, eOp2, eOp1, eName, eD, ixD, setS_nw, setS_own, nwAt, noOwn_nw, peek_pl, gSb, gNm, gTp, gCs, gNl, getP, putP, addD, subD, mulD, modD, fdivD, powD, ltD, leD, gtD, geD, isD, isnotD, D.isN, negD, tvB, tvNot, tvAnd, tvOr, evT, evAnd, evOr, evNot, evIf, evChain, eCall, aCons, aNil, peeks, dats, lenD, intD, listD, tupleD, eTup, eLst, eSl, oNone, oSome, slD, revD, eLr1, eLr2, iSeq, iR1_eq, iR1f, iR2_eq, iR2f, iR3_eq, iR3f, iEnu, iZp, tYesM, eMeth, appendD, extendD, popD, reverseD, dropS, eFn, toArgs, backE, aft, finF, backs, eIsi, stp, lim, is_number_int, h0, h1]
theorem map_bl (w : List D) : w.map (fun _ => D.bl true) = mb (List.replicate w.length true) := by
  induction w with
  | nil => rfl
  | cons x w ih => rw [List.map_cons, ih]; rfl
theorem all_mb_true : ∀ k : Nat, (List.replicate k true).all id = true
  | 0 => rfl
  | k + 1 => by simp [List.replicate_succ]
theorem check_turning_ok {m : Nat} {s : Sq} (h8 : m ≤ 8) (P : Prm m s) : f_check_turning [.dat (.int m), .dat (.lst (mi (tab m s)))] = .ok (.dat .non) [] := by
  have hc := comp_gen (own := [2]) (gm := gNm 2) (em := c_check_turning_1) (env := [.dat (.int m), .dat (.lst (mi (tab m s))), .un]) (fun _ => .bl true) rfl (w := mi (tab m s)) (acc := []) (by simp [tab_length, lim]; omega) fun i hi => by
    obtain ⟨k, hk, rfl⟩ := List.mem_map.1 hi
    have := rg_mem'.mp ((tab_perm P).mem_iff.mp hk)
    exact ⟨[.dat (.int m), .dat (.lst (mi (tab m s))), .dat (.int k)], by simp [gNm, wipeV, sSeq, sSet, sOwn, sAli, sAsg, sRet, sRetN, sIf, sPass, sExpr, sFor, sPar, sPar3, sParO, sParO3, eFnX, lendM, lends, lendD, lendR, atomD, keepO, slotOf, sOwn2, eFrz, tvT, truD, sortedD, insertD, eOp2, eOp1, eName, eD, ixD, setS_nw, setS_own, nwAt, noOwn_nw, peek_pl, gSb, gNm, gTp, gCs, gNl, getP, putP, addD, subD, mulD, modD, fdivD, powD, ltD, leD, gtD, geD, isD, isnotD, D.isN, negD, tvB, tvNot, tvAnd, tvOr, evT, evAnd, evOr, evNot, evIf, evChain, eCall, aCons, aNil, peeks, dats, lenD, intD, listD, tupleD, eTup, eLst, eSl, oNone, oSome, slD, revD, eLr1, eLr2, iSeq, iR1_eq, iR1f, iR2_eq, iR2f, iR3_eq, iR3f, iEnu, iZp, tYesM, eMeth, appendD, extendD, popD, reverseD, dropS, eFn, toArgs, backE, aft, finF, backs, eIsi, stp, lim], [.dat (.int m), .dat (.lst (mi (tab m s))), .dat (.int k)], by simp [c_check_turning_1, sSeq, sSet, sOwn, sAli, sAsg, sRet, sRetN, sIf, sPass, sExpr, sFor, sPar, sPar3, sParO, sParO3, eFnX, lendM, lends, lendD, lendR, atomD, keepO, slotOf, sOwn2, eFrz, tvT, truD, sortedD, insertD, eOp2, eOp1, eName, eD, ixD, setS_nw, setS_own, nwAt, noOwn_nw, peek_pl, gSb, gNm, gTp, gCs, gNl, getP, putP, addD, subD, mulD, modD, fdivD, powD, ltD, leD, gtD, geD, isD, isnotD, D.isN, negD, tvB, tvNot, tvAnd, tvOr, evT, evAnd, evOr, evNot, evIf, evChain, eCall, aCons, aNil, peeks, dats, lenD, intD, listD, tupleD, eTup, eLst, eSl, oNone, oSome, slD, revD, eLr1, eLr2, iSeq, iR1_eq, iR1f, iR2_eq, iR2f, iR3_eq, iR3f, iEnu, iZp, tYesM, eMeth, appendD, extendD, popD, reverseD, dropS, eFn, toArgs, backE, aft, finF, backs, eIsi, stp, lim, is_place_ok this.1 this.2], rfl, rfl, rfl⟩
  have he : (mi (tab m s)).map (fun _ => D.bl true) = mb (List.replicate m true) := by
    rw [map_bl, mi_length, tab_length]
  have hlim : (m : Int) ≤ 16777216 := by omega
  rw [List.nil_append, he] at hc
  have hr : srtI (tab m s) = rg 0 m := srt_tab P
  have hs : smI (m : Int) = true := smI_nat (by omega) (by omega)
  unfold f_check_turning
  rw [runF_eq (by rfl) (by rfl)]
  simp [m_check_turning, eComp, sSeq, sSet, sOwn, sAli, sAsg, sRet, sRetN, sIf, sPass, sExpr, sFor, sPar, sPar3, sParO, sParO3, eFnX, lendM, lends, lendD, lendR, atomD, keepO, slotOf, sOwn2, eFrz, tvT, truD, sortedD, insertD, eOp2, eOp1, eName, eD, ixD, setS_nw, setS_own, nwAt, noOwn_nw, peek_pl, gSb, gNm, gTp, gCs, gNl, getP, putP, addD, subD, mulD, modD, fdivD, powD, ltD, leD, gtD, geD, isD, isnotD, D.isN, negD, tvB, tvNot, tvAnd, tvOr, evT, evAnd, evOr, evNot, evIf, evChain, eCall, aCons, aNil, peeks, dats, lenD, intD, listD, tupleD, eTup, eLst, eSl, oNone, oSome, slD, revD, eLr1, eLr2, iSeq, iR1_eq, iR1f, iR2_eq, iR2f, iR3_eq, iR3f, iEnu, iZp, tYesM, eMeth, appendD, extendD, popD, reverseD, dropS, eFn, toArgs, backE, aft, finF, backs, eIsi, stp, lim, hc, tab_length, allD, hr, hs, hlim, ← mi_eq]
theorem check_simples_ok1 {m : Nat} {s : Sq} (h1 : 1 ≤ m) (h8 : m ≤ 8) (P : Prm m s) : f_check_simples [.dat (.int m), .dat (.lst [.lst (mi (tab m s))])] = .ok (.dat .non) [] := by
  unfold f_check_simples
  rw [runF_eq (by rfl) (by rfl)]
  simp [m_check_simples, b_check_simples_1, sSeq, sSet, sOwn, sAli, sAsg, sRet, sRetN, sIf, sPass, sExpr, sFor, sPar, sPar3, sParO, sParO3, eFnX, lendM, lends, lendD, lendR, atomD, keepO, slotOf, sOwn2, eFrz, tvT, truD, sortedD, insertD, eOp2, eOp1, eName, eD, ixD, setS_nw, setS_own, nwAt, noOwn_nw, peek_pl, gSb, gNm, gTp, gCs, gNl, getP, putP, addD, subD, mulD, modD, fdivD, powD, ltD, leD, gtD, geD, isD, isnotD, D.isN, negD, tvB, tvNot, tvAnd, tvOr, evT, evAnd, evOr, evNot, evIf, evChain, eCall, aCons, aNil, peeks, dats, lenD, intD, listD, tupleD, eTup, eLst, eSl, oNone, oSome, slD, revD, eLr1, eLr2, iSeq, iR1_eq, iR1f, iR2_eq, iR2f, iR3_eq, iR3f, iEnu, iZp, tYesM, eMeth, appendD, extendD, popD, reverseD, dropS, eFn, toArgs, backE, aft, finF, backs, eIsi, stp, lim, check_strands_ok (n := m) (by omega) (by omega), check_turning_ok h8 P, forL]
theorem check_simples_ok2 {m : Nat} {s t : Sq} (h1 : 1 ≤ m) (h8 : m ≤ 8) (P : Prm m s) (R : Prm m t) : f_check_simples [.dat (.int m), .dat (.lst [.lst (mi (tab m s)), .lst (mi (tab m t))])] = .ok (.dat .non) [] := by
  unfold f_check_simples
  rw [runF_eq (by rfl) (by rfl)]
  simp [m_check_simples, b_check_simples_1, sSeq, sSet, sOwn, sAli, sAsg, sRet, sRetN, sIf, sPass, sExpr, sFor, sPar, sPar3, sParO, sParO3, eFnX, lendM, lends, lendD, lendR, atomD, keepO, slotOf, sOwn2, eFrz, tvT, truD, sortedD, insertD, eOp2, eOp1, eName, eD, ixD, setS_nw, setS_own, nwAt, noOwn_nw, peek_pl, gSb, gNm, gTp, gCs, gNl, getP, putP, addD, subD, mulD, modD, fdivD, powD, ltD, leD, gtD, geD, isD, isnotD, D.isN, negD, tvB, tvNot, tvAnd, tvOr, evT, evAnd, evOr, evNot, evIf, evChain, eCall, aCons, aNil, peeks, dats, lenD, intD, listD, tupleD, eTup, eLst, eSl, oNone, oSome, slD, revD, eLr1, eLr2, iSeq, iR1_eq, iR1f, iR2_eq, iR2f, iR3_eq, iR3f, iEnu, iZp, tYesM, eMeth, appendD, extendD, popD, reverseD, dropS, eFn, toArgs, backE, aft, finF, backs, eIsi, stp, lim, check_strands_ok (n := m) (by omega) (by omega), check_turning_ok h8 P, check_turning_ok h8 R, forL]
/-! letters -/
def fl (m : Nat) (s : Sq) : List Int := (dsc m s).map fun (p : Nat) => ((p : Int) + 1)
theorem flt_fl (m : Nat) (s : Sq) : (rg 1 (m - 1)).filter (fun i => decide (s i.toNat < s (i.toNat - 1))) = fl m s := by
  unfold rg fl dsc
  rw [List.filter_map]
  have e : (fun (i : Int) => decide (s i.toNat < s (i.toNat - 1))) ∘ (fun (i : Nat) => 1 + (i : Int)) = fun p => decide (s (p + 1) < s p) := by
    funext p
    have e1 : (1 + (p : Int)).toNat = p + 1 := by omega
    simp [e1]
  rw [e]
  exact List.map_congr_left fun p _ => Int.add_comm _ _
theorem rg1 {m : Nat} {i : Int} (h : i ∈ rg 1 (m - 1)) : ∃ p : Nat, i = (p : Int) + 1 ∧ p + 1 < m := by
  have := rg_mem h
  exact ⟨i.toNat - 1, by omega, by omega⟩
theorem range1_ok {m : Nat} (s : Sq) (h1 : 1 ≤ m) (h8 : m ≤ 8) (x : S) : iR2 (aCons true (eD (.int 1)) (aCons true (eCall lenD (aCons true (eName 0) aNil)) aNil)) [.dat (.lst (mi (tab m s))), x] = .ok (mi (rg 1 (m - 1))) [.dat (.lst (mi (tab m s))), x] := by
  have hs : smI (m : Int) = true := smI_nat (by omega) (by omega)
  have e : ((m : Int) - 1).toNat = m - 1 := by omega
  simp [sSeq, sSet, sOwn, sAli, sAsg, sRet, sRetN, sIf, sPass, sExpr, sFor, sPar, sPar3, sParO, sParO3, eFnX, lendM, lends, lendD, lendR, atomD, keepO, slotOf, sOwn2, eFrz, tvT, truD, sortedD, insertD, eOp2, eOp1, eName, eD, ixD, setS_nw, setS_own, nwAt, noOwn_nw, peek_pl, gSb, gNm, gTp, gCs, gNl, getP, putP, addD, subD, mulD, modD, fdivD, powD, ltD, leD, gtD, geD, isD, isnotD, D.isN, negD, tvB, tvNot, tvAnd, tvOr, evT, evAnd, evOr, evNot, evIf, evChain, eCall, aCons, aNil, peeks, dats, lenD, intD, listD, tupleD, eTup, eLst, eSl, oNone, oSome, slD, revD, eLr1, eLr2, iSeq, iR1_eq, iR1f, iR2_eq, iR2f, iR3_eq, iR3f, iEnu, iZp, tYesM, eMeth, appendD, extendD, popD, reverseD, dropS, eFn, toArgs, backE, aft, finF, backs, eIsi, stp, lim, tab_length, hs, e]
theorem fl_nil {m : Nat} {s : Sq} (h : dsc m s = []) : fl m s = [] := by unfold fl; rw [h]; rfl
theorem fl_cons {m p : Nat} {s : Sq} {r : List Nat} (h : dsc m s = p :: r) : ∃ r', fl m s = ((p : Int) + 1) :: r' := by unfold fl; rw [h]; exact ⟨_, rfl⟩
theorem inv_64 {m : Nat} (h8 : m ≤ 8) (s : Sq) : inv s m ≤ 64 := by
  have h := inv_le (s := s) m
  have : m * m ≤ 8 * 8 := Nat.mul_le_mul h8 h8
  omega
/-! the turning back -/
theorem zeros_tab (m : Nat) : List.replicate m (0 : Int) = tab m (fun _ => 0) := by
  unfold tab
  rw [List.map_const', List.length_range]
theorem enum_get {w : List Int} {k : Nat} : (enumL 0 (mi w))[k]? = w[k]?.map fun x => D.tup [.int k, .int x] := by
  rw [enumL_get, mi_get]
  cases w[k]? <;> simp
theorem backward_loop {m : Nat} {s : Sq} (P : Prm m s) : ∀ {j k : Nat} {a b : S}, k + j = m → Pl a = true → Pl b = true →
    ∃ a' b', forL (gTp 2 (gCs (gNm 2) (gCs (gNm 3) gNl))) b_backward_1 ((enumL 0 (mi (tab m s))).drop k) [.dat (.lst (mi (tab m s))), .own (.lst (mi (tab m (bk s k)))), a, b] = .nx [.dat (.lst (mi (tab m s))), .own (.lst (mi (tab m (bk s m)))), a', b'] := by
  intro j
  induction j with
  | zero =>
    intro k a b hk ha hb
    have : (enumL 0 (mi (tab m s))).drop k = [] := List.drop_eq_nil_of_le (by rw [enumL_length, mi_length, tab_length]; omega)
    rw [this]
    have : k = m := by omega
    subst this
    exact ⟨a, b, rfl⟩
  | succ j ih =>
    intro k a b hk ha hb
    have hl : k < (enumL 0 (mi (tab m s))).length := by rw [enumL_length, mi_length, tab_length]; omega
    have hg : (enumL 0 (mi (tab m s)))[k] = D.tup [.int k, .int (s k)] := by
      have h := enum_get (w := tab m s) (k := k)
      rw [tab_get (by omega), List.getElem?_eq_getElem hl] at h
      exact Option.some.inj h
    have hs := P.lo k (by omega)
    obtain ⟨a', b', e⟩ := ih (k := k + 1) (a := .dat (.int k)) (b := .dat (.int (s k))) (by omega) rfl rfl
    refine ⟨a', b', ?_⟩
    rw [List.drop_eq_getElem_cons hl, hg, forL_stp]
    have i1 : L2.ixN m (s k) = some (s k).toNat := by simpa [tab_length] using tab_ix (s := s) (m := m) (i := s k) (p := (s k).toNat) (by omega) (by omega)
    have st : stp (gTp 2 (gCs (gNm 2) (gCs (gNm 3) gNl))) b_backward_1 (D.tup [.int k, .int (s k)]) [.dat (.lst (mi (tab m s))), .own (.lst (mi (tab m (bk s k)))), a, b] = .nx [.dat (.lst (mi (tab m s))), .own (.lst (mi (tab m (bk s (k + 1))))), .dat (.int k), .dat (.int (s k))] := by
      simp [b_backward_1, sSeq, sSet, sOwn, sAli, sAsg, sRet, sRetN, sIf, sPass, sExpr, sFor, sPar, sPar3, sParO, sParO3, eFnX, lendM, lends, lendD, lendR, atomD, keepO, slotOf, sOwn2, eFrz, tvT, truD, sortedD, insertD, eOp2, eOp1, eName, eD, ixD, setS_nw, setS_own, nwAt, noOwn_nw, peek_pl, gSb, gNm, gTp, gCs, gNl, getP, putP, addD, subD, mulD, modD, fdivD, powD, ltD, leD, gtD, geD, isD, isnotD, D.isN, negD, tvB, tvNot, tvAnd, tvOr, evT, evAnd, evOr, evNot, evIf, evChain, eCall, aCons, aNil, peeks, dats, lenD, intD, listD, tupleD, eTup, eLst, eSl, oNone, oSome, slD, revD, eLr1, eLr2, iSeq, iR1_eq, iR1f, iR2_eq, iR2f, iR3_eq, iR3f, iEnu, iZp, tYesM, eMeth, appendD, extendD, popD, reverseD, dropS, eFn, toArgs, backE, aft, finF, backs, eIsi, stp, lim, ha, hb, tab_length, i1, tab_set, bk]
    rw [st]
    exact e
theorem backward_ok {m : Nat} {s : Sq} (h8 : m ≤ 8) (P : Prm m s) : f_backward [.dat (.lst (mi (tab m s)))] = .ok (.new (.lst (mi (tab m (bk s m))))) [] := by
  obtain ⟨a', b', e⟩ := backward_loop P (j := m) (k := 0) (a := .un) (b := .un) (by omega) rfl rfl
  rw [List.drop_zero] at e
  have z : mi (List.replicate m (0 : Int)) = mi (tab m (bk s 0)) := by rw [zeros_tab]; rfl
  have z1 : -(9223372036854775808 : Int) ≤ m := by omega
  have z2 : (m : Int) < 9223372036854775808 := by omega
  have z3 : m ≤ 16777216 := by omega
  unfold f_backward
  rw [runF_eq (by rfl) (by rfl)]
  simp [m_backward, sSeq, sSet, sOwn, sAli, sAsg, sRet, sRetN, sIf, sPass, sExpr, sFor, sPar, sPar3, sParO, sParO3, eFnX, lendM, lends, lendD, lendR, atomD, keepO, slotOf, sOwn2, eFrz, tvT, truD, sortedD, insertD, eOp2, eOp1, eName, eD, ixD, setS_nw, setS_own, nwAt, noOwn_nw, peek_pl, gSb, gNm, gTp, gCs, gNl, getP, putP, addD, subD, mulD, modD, fdivD, powD, ltD, leD, gtD, geD, isD, isnotD, D.isN, negD, tvB, tvNot, tvAnd, tvOr, evT, evAnd, evOr, evNot, evIf, evChain, eCall, aCons, aNil, peeks, dats, lenD, intD, listD, tupleD, eTup, eLst, eSl, oNone, oSome, slD, revD, eLr1, eLr2, iSeq, iR1_eq, iR1f, iR2_eq, iR2f, iR3_eq, iR3f, iEnu, iZp, tYesM, eMeth, appendD, extendD, popD, reverseD, dropS, eFn, toArgs, backE, aft, finF, backs, eIsi, stp, lim, tab_length, z, z1, z2, z3, e]
theorem rg_succ (m : Nat) : rg 0 (m + 1) = rg 0 m ++ [(m : Int)] := by
  unfold rg
  rw [List.range_succ, List.map_append]
  simp
theorem flt_cnt (F : Nat → Bool) : ∀ q : Nat, ((rg 0 q).filter fun p => F p.toNat).length = cnt F q
  | 0 => rfl
  | q + 1 => by
    rw [rg_succ, List.filter_append, List.length_append, flt_cnt F q]
    show _ = cnt F q + (if F q = true then 1 else 0)
    have e : ((q : Int)).toNat = q := by omega
    by_cases c : F q = true
    · simp [c]
    · simp [c]
theorem sum_ones (w : List Int) : (w.map fun _ => (1 : Int)).sum = w.length := by
  induction w with
  | nil => rfl
  | cons x w ih => rw [List.map_cons, List.sum_cons, ih, List.length_cons]; omega
def crs (s : Sq) (q : Int) : List Int := ((rg 0 q.toNat).filter fun p => decide (s q.toNat < s p.toNat)).map fun _ => 1
theorem crs_sum (s : Sq) : ∀ m : Nat, ((rg 0 m).map (crs s)).flatten.sum = inv s m
  | 0 => rfl
  | m + 1 => by
    rw [rg_succ, List.map_append, List.flatten_append, List.sum_append_int, crs_sum s m]
    rw [inv.eq_2]
    have e : ((m : Int)).toNat = m := by omega
    have := flt_cnt (fun p => decide (s m < s p)) m
    simp only [List.map_cons, List.map_nil, List.flatten_cons, List.flatten_nil, List.append_nil, crs, sum_ones, e, this]
    omega
theorem rg0 {m : Nat} {i : Int} (h : i ∈ rg 0 m) : ∃ p : Nat, i = p ∧ p < m := by
  have := rg_mem h
  exact ⟨i.toNat, by omega, by omega⟩
theorem crossings_ok {m : Nat} (s : Sq) (h8 : m ≤ 8) : f_crossings [.dat (.lst (mi (tab m s)))] = .ok (.dat (.int (inv s m))) [] := by
  have hc := comp2_mi (own := [1, 2]) (own1 := [2]) (gm := gNm 1) (gm1 := gNm 2) (tm := tYesM) (tm1 := t_crossings_1) (im1 := i_crossings_2) (em := c_crossings_3) (env := [.dat (.lst (mi (tab m s))), .un, .un]) (crs s) rfl (w := rg 0 m) (acc := []) (fun i hi acc => by
    obtain ⟨q, rfl, hq⟩ := rg0 hi
    have hs : smI (q : Int) = true := smI_nat (by omega) (by omega)
    have e : ((q : Int)).toNat = q := by omega
    refine ⟨[.dat (.lst (mi (tab m s))), .dat (.int q), .un], by simp [gNm, wipeV, sSeq, sSet, sOwn, sAli, sAsg, sRet, sRetN, sIf, sPass, sExpr, sFor, sPar, sPar3, sParO, sParO3, eFnX, lendM, lends, lendD, lendR, atomD, keepO, slotOf, sOwn2, eFrz, tvT, truD, sortedD, insertD, eOp2, eOp1, eName, eD, ixD, setS_nw, setS_own, nwAt, noOwn_nw, peek_pl, gSb, gNm, gTp, gCs, gNl, getP, putP, addD, subD, mulD, modD, fdivD, powD, ltD, leD, gtD, geD, isD, isnotD, D.isN, negD, tvB, tvNot, tvAnd, tvOr, evT, evAnd, evOr, evNot, evIf, evChain, eCall, aCons, aNil, peeks, dats, lenD, intD, listD, tupleD, eTup, eLst, eSl, oNone, oSome, slD, revD, eLr1, eLr2, iSeq, iR1_eq, iR1f, iR2_eq, iR2f, iR3_eq, iR3f, iEnu, iZp, tYesM, eMeth, appendD, extendD, popD, reverseD, dropS, eFn, toArgs, backE, aft, finF, backs, eIsi, stp, lim], [.dat (.lst (mi (tab m s))), .dat (.int q), .un], rfl, mi (rg 0 q), [.dat (.lst (mi (tab m s))), .dat (.int q), .un], [.dat (.lst (mi (tab m s))), .dat (.int q), .un], by simp [i_crossings_2, sSeq, sSet, sOwn, sAli, sAsg, sRet, sRetN, sIf, sPass, sExpr, sFor, sPar, sPar3, sParO, sParO3, eFnX, lendM, lends, lendD, lendR, atomD, keepO, slotOf, sOwn2, eFrz, tvT, truD, sortedD, insertD, eOp2, eOp1, eName, eD, ixD, setS_nw, setS_own, nwAt, noOwn_nw, peek_pl, gSb, gNm, gTp, gCs, gNl, getP, putP, addD, subD, mulD, modD, fdivD, powD, ltD, leD, gtD, geD, isD, isnotD, D.isN, negD, tvB, tvNot, tvAnd, tvOr, evT, evAnd, evOr, evNot, evIf, evChain, eCall, aCons, aNil, peeks, dats, lenD, intD, listD, tupleD, eTup, eLst, eSl, oNone, oSome, slD, revD, eLr1, eLr2, iSeq, iR1_eq, iR1f, iR2_eq, iR2f, iR3_eq, iR3f, iEnu, iZp, tYesM, eMeth, appendD, extendD, popD, reverseD, dropS, eFn, toArgs, backE, aft, finF, backs, eIsi, stp, lim, hs], fun ha => ?_, rfl, rfl, rfl, ?_⟩
    · refine compI_mi (p := fun p => decide (s q < s p.toNat)) (f := fun _ => 1) rfl (by simp only [rg_length]; omega) fun j hj => ?_
      obtain ⟨p, rfl, hp⟩ := rg0 hj
      have a1 : L2.atI (tab m s) (p : Int) = some (s p) := tab_at rfl (by omega)
      have a2 : L2.atI (tab m s) (q : Int) = some (s q) := tab_at rfl hq
      refine ⟨[.dat (.lst (mi (tab m s))), .dat (.int q), .dat (.int p)], by simp [gNm, wipeV, sSeq, sSet, sOwn, sAli, sAsg, sRet, sRetN, sIf, sPass, sExpr, sFor, sPar, sPar3, sParO, sParO3, eFnX, lendM, lends, lendD, lendR, atomD, keepO, slotOf, sOwn2, eFrz, tvT, truD, sortedD, insertD, eOp2, eOp1, eName, eD, ixD, setS_nw, setS_own, nwAt, noOwn_nw, peek_pl, gSb, gNm, gTp, gCs, gNl, getP, putP, addD, subD, mulD, modD, fdivD, powD, ltD, leD, gtD, geD, isD, isnotD, D.isN, negD, tvB, tvNot, tvAnd, tvOr, evT, evAnd, evOr, evNot, evIf, evChain, eCall, aCons, aNil, peeks, dats, lenD, intD, listD, tupleD, eTup, eLst, eSl, oNone, oSome, slD, revD, eLr1, eLr2, iSeq, iR1_eq, iR1f, iR2_eq, iR2f, iR3_eq, iR3f, iEnu, iZp, tYesM, eMeth, appendD, extendD, popD, reverseD, dropS, eFn, toArgs, backE, aft, finF, backs, eIsi, stp, lim], [.dat (.lst (mi (tab m s))), .dat (.int q), .dat (.int p)], by simp [t_crossings_1, sSeq, sSet, sOwn, sAli, sAsg, sRet, sRetN, sIf, sPass, sExpr, sFor, sPar, sPar3, sParO, sParO3, eFnX, lendM, lends, lendD, lendR, atomD, keepO, slotOf, sOwn2, eFrz, tvT, truD, sortedD, insertD, eOp2, eOp1, eName, eD, ixD, setS_nw, setS_own, nwAt, noOwn_nw, peek_pl, gSb, gNm, gTp, gCs, gNl, getP, putP, addD, subD, mulD, modD, fdivD, powD, ltD, leD, gtD, geD, isD, isnotD, D.isN, negD, tvB, tvNot, tvAnd, tvOr, evT, evAnd, evOr, evNot, evIf, evChain, eCall, aCons, aNil, peeks, dats, lenD, intD, listD, tupleD, eTup, eLst, eSl, oNone, oSome, slD, revD, eLr1, eLr2, iSeq, iR1_eq, iR1f, iR2_eq, iR2f, iR3_eq, iR3f, iEnu, iZp, tYesM, eMeth, appendD, extendD, popD, reverseD, dropS, eFn, toArgs, backE, aft, finF, backs, eIsi, stp, lim, a1, a2], fun _ => ⟨[.dat (.lst (mi (tab m s))), .dat (.int q), .dat (.int p)], by simp [c_crossings_3, sSeq, sSet, sOwn, sAli, sAsg, sRet, sRetN, sIf, sPass, sExpr, sFor, sPar, sPar3, sParO, sParO3, eFnX, lendM, lends, lendD, lendR, atomD, keepO, slotOf, sOwn2, eFrz, tvT, truD, sortedD, insertD, eOp2, eOp1, eName, eD, ixD, setS_nw, setS_own, nwAt, noOwn_nw, peek_pl, gSb, gNm, gTp, gCs, gNl, getP, putP, addD, subD, mulD, modD, fdivD, powD, ltD, leD, gtD, geD, isD, isnotD, D.isN, negD, tvB, tvNot, tvAnd, tvOr, evT, evAnd, evOr, evNot, evIf, evChain, eCall, aCons, aNil, peeks, dats, lenD, intD, listD, tupleD, eTup, eLst, eSl, oNone, oSome, slD, revD, eLr1, eLr2, iSeq, iR1_eq, iR1f, iR2_eq, iR2f, iR3_eq, iR3f, iEnu, iZp, tYesM, eMeth, appendD, extendD, popD, reverseD, dropS, eFn, toArgs, backE, aft, finF, backs, eIsi, stp, lim], rfl, rfl, rfl⟩, fun _ => ⟨rfl, rfl, rfl⟩⟩
    · unfold crs
      rw [List.length_map]
      refine Nat.le_trans (List.length_filter_le _ _) ?_
      rw [rg_length]; omega) (by simp [lim]; omega)
  have hs : smI (m : Int) = true := smI_nat (by omega) (by omega)
  rw [List.nil_append, show mi [] = ([] : List D) from rfl] at hc
  unfold f_crossings
  rw [runF_eq (by rfl) (by rfl)]
  simp [m_crossings, eComp2, sSeq, sSet, sOwn, sAli, sAsg, sRet, sRetN, sIf, sPass, sExpr, sFor, sPar, sPar3, sParO, sParO3, eFnX, lendM, lends, lendD, lendR, atomD, keepO, slotOf, sOwn2, eFrz, tvT, truD, sortedD, insertD, eOp2, eOp1, eName, eD, ixD, setS_nw, setS_own, nwAt, noOwn_nw, peek_pl, gSb, gNm, gTp, gCs, gNl, getP, putP, addD, subD, mulD, modD, fdivD, powD, ltD, leD, gtD, geD, isD, isnotD, D.isN, negD, tvB, tvNot, tvAnd, tvOr, evT, evAnd, evOr, evNot, evIf, evChain, eCall, aCons, aNil, peeks, dats, lenD, intD, listD, tupleD, eTup, eLst, eSl, oNone, oSome, slD, revD, eLr1, eLr2, iSeq, iR1_eq, iR1f, iR2_eq, iR2f, iR3_eq, iR3f, iEnu, iZp, tYesM, eMeth, appendD, extendD, popD, reverseD, dropS, eFn, toArgs, backE, aft, finF, backs, eIsi, stp, lim, tab_length, hs, hc, sumD, crs_sum]
/-! the law's own -/
theorem whole_int (i : Int) : f__law_whole [.dat (.int i)] = .ok (.dat (.bl true)) [] := by
  unfold f__law_whole
  rw [runF_eq (by rfl) (by rfl)]
  simp [m__law_whole, sSeq, sSet, sOwn, sAli, sAsg, sRet, sRetN, sIf, sPass, sExpr, sFor, sPar, sPar3, sParO, sParO3, eFnX, lendM, lends, lendD, lendR, atomD, keepO, slotOf, sOwn2, eFrz, tvT, truD, sortedD, insertD, eOp2, eOp1, eName, eD, ixD, setS_nw, setS_own, nwAt, noOwn_nw, peek_pl, gSb, gNm, gTp, gCs, gNl, getP, putP, addD, subD, mulD, modD, fdivD, powD, ltD, leD, gtD, geD, isD, isnotD, D.isN, negD, tvB, tvNot, tvAnd, tvOr, evT, evAnd, evOr, evNot, evIf, evChain, eCall, aCons, aNil, peeks, dats, lenD, intD, listD, tupleD, eTup, eLst, eSl, oNone, oSome, slD, revD, eLr1, eLr2, iSeq, iR1_eq, iR1f, iR2_eq, iR2f, iR3_eq, iR3f, iEnu, iZp, tYesM, eMeth, appendD, extendD, popD, reverseD, dropS, eFn, toArgs, backE, aft, finF, backs, eIsi, stp, lim]
theorem law_crossings_ok {m : Nat} (s : Sq) (h8 : m ≤ 8) : f__law_crossings [.dat (.lst (mi (tab m s)))] = .ok (.dat (.int (inv s m))) [] := by
  obtain ⟨⟨a, k⟩, e, ha, hk⟩ := forL_rg (gm := gNm 2) (body := b__law_crossings_3) (m := m) (fun (x : S × Nat) => [.dat (.lst (mi (tab m s))), .dat (.int (inv s x.2)), x.1, .un])
    (fun i x => Pl x.1 = true ∧ x.2 = i) (fun q ⟨a, k⟩ hq ⟨ha, hk⟩ => by
      simp only at ha hk
      subst hk
      refine ⟨(.dat (.int k), k + 1), .inl ?_, rfl, rfl⟩
      have hs : smI (k : Int) = true := smI_nat (by omega) (by omega)
      have hc : compL [3] (gNm 3) t__law_crossings_1 c__law_crossings_2 (mi (rg 0 k)) [.dat (.lst (mi (tab m s))), .dat (.int (inv s k)), .dat (.int k), .un] [] = .ok (.new (.lst (mi ((rg 0 k).filter fun p => decide (s k < s p.toNat))))) [.dat (.lst (mi (tab m s))), .dat (.int (inv s k)), .dat (.int k), .un] := by
        refine comp_flt _ rfl (by simp [lim]; omega) fun i hi => ?_
        obtain ⟨p, rfl, hp⟩ := rg0 hi
        have a1 : L2.atI (tab m s) (p : Int) = some (s p) := tab_at rfl (by omega)
        have a2 : L2.atI (tab m s) (k : Int) = some (s k) := tab_at rfl hq
        exact ⟨[.dat (.lst (mi (tab m s))), .dat (.int (inv s k)), .dat (.int k), .dat (.int p)], by simp [gNm, wipeV, sSeq, sSet, sOwn, sAli, sAsg, sRet, sRetN, sIf, sPass, sExpr, sFor, sPar, sPar3, sParO, sParO3, eFnX, lendM, lends, lendD, lendR, atomD, keepO, slotOf, sOwn2, eFrz, tvT, truD, sortedD, insertD, eOp2, eOp1, eName, eD, ixD, setS_nw, setS_own, nwAt, noOwn_nw, peek_pl, gSb, gNm, gTp, gCs, gNl, getP, putP, addD, subD, mulD, modD, fdivD, powD, ltD, leD, gtD, geD, isD, isnotD, D.isN, negD, tvB, tvNot, tvAnd, tvOr, evT, evAnd, evOr, evNot, evIf, evChain, eCall, aCons, aNil, peeks, dats, lenD, intD, listD, tupleD, eTup, eLst, eSl, oNone, oSome, slD, revD, eLr1, eLr2, iSeq, iR1_eq, iR1f, iR2_eq, iR2f, iR3_eq, iR3f, iEnu, iZp, tYesM, eMeth, appendD, extendD, popD, reverseD, dropS, eFn, toArgs, backE, aft, finF, backs, eIsi, stp, lim], by simp [t__law_crossings_1, sSeq, sSet, sOwn, sAli, sAsg, sRet, sRetN, sIf, sPass, sExpr, sFor, sPar, sPar3, sParO, sParO3, eFnX, lendM, lends, lendD, lendR, atomD, keepO, slotOf, sOwn2, eFrz, tvT, truD, sortedD, insertD, eOp2, eOp1, eName, eD, ixD, setS_nw, setS_own, nwAt, noOwn_nw, peek_pl, gSb, gNm, gTp, gCs, gNl, getP, putP, addD, subD, mulD, modD, fdivD, powD, ltD, leD, gtD, geD, isD, isnotD, D.isN, negD, tvB, tvNot, tvAnd, tvOr, evT, evAnd, evOr, evNot, evIf, evChain, eCall, aCons, aNil, peeks, dats, lenD, intD, listD, tupleD, eTup, eLst, eSl, oNone, oSome, slD, revD, eLr1, eLr2, iSeq, iR1_eq, iR1f, iR2_eq, iR2f, iR3_eq, iR3f, iEnu, iZp, tYesM, eMeth, appendD, extendD, popD, reverseD, dropS, eFn, toArgs, backE, aft, finF, backs, eIsi, stp, lim, a1, a2], by simp [c__law_crossings_2, sSeq, sSet, sOwn, sAli, sAsg, sRet, sRetN, sIf, sPass, sExpr, sFor, sPar, sPar3, sParO, sParO3, eFnX, lendM, lends, lendD, lendR, atomD, keepO, slotOf, sOwn2, eFrz, tvT, truD, sortedD, insertD, eOp2, eOp1, eName, eD, ixD, setS_nw, setS_own, nwAt, noOwn_nw, peek_pl, gSb, gNm, gTp, gCs, gNl, getP, putP, addD, subD, mulD, modD, fdivD, powD, ltD, leD, gtD, geD, isD, isnotD, D.isN, negD, tvB, tvNot, tvAnd, tvOr, evT, evAnd, evOr, evNot, evIf, evChain, eCall, aCons, aNil, peeks, dats, lenD, intD, listD, tupleD, eTup, eLst, eSl, oNone, oSome, slD, revD, eLr1, eLr2, iSeq, iR1_eq, iR1f, iR2_eq, iR2f, iR3_eq, iR3f, iEnu, iZp, tYesM, eMeth, appendD, extendD, popD, reverseD, dropS, eFn, toArgs, backE, aft, finF, backs, eIsi, stp, lim], rfl, rfl, rfl⟩
      have hl := flt_cnt (fun p => decide (s k < s p)) k
      have hi : inv s (k + 1) = inv s k + cnt (fun p => decide (s k < s p)) k := rfl
      simp [b__law_crossings_3, eComp, sSeq, sSet, sOwn, sAli, sAsg, sRet, sRetN, sIf, sPass, sExpr, sFor, sPar, sPar3, sParO, sParO3, eFnX, lendM, lends, lendD, lendR, atomD, keepO, slotOf, sOwn2, eFrz, tvT, truD, sortedD, insertD, eOp2, eOp1, eName, eD, ixD, setS_nw, setS_own, nwAt, noOwn_nw, peek_pl, gSb, gNm, gTp, gCs, gNl, getP, putP, addD, subD, mulD, modD, fdivD, powD, ltD, leD, gtD, geD, isD, isnotD, D.isN, negD, tvB, tvNot, tvAnd, tvOr, evT, evAnd, evOr, evNot, evIf, evChain, eCall, aCons, aNil, peeks, dats, lenD, intD, listD, tupleD, eTup, eLst, eSl, oNone, oSome, slD, revD, eLr1, eLr2, iSeq, iR1_eq, iR1f, iR2_eq, iR2f, iR3_eq, iR3f, iEnu, iZp, tYesM, eMeth, appendD, extendD, popD, reverseD, dropS, eFn, toArgs, backE, aft, finF, backs, eIsi, stp, lim, ha, hs, hc, hl, hi]) (j := m) (i := 0) (a := (.un, 0)) (by omega) ⟨rfl, rfl⟩
  simp only at e ha hk
  subst hk
  have hs : smI (k : Int) = true := smI_nat (by omega) (by omega)
  have e0 : inv s 0 = 0 := rfl
  simp only [e0, Int.ofNat_zero] at e
  unfold f__law_crossings
  rw [runF_eq (by rfl) (by rfl)]
  simp [m__law_crossings, sSeq, sSet, sOwn, sAli, sAsg, sRet, sRetN, sIf, sPass, sExpr, sFor, sPar, sPar3, sParO, sParO3, eFnX, lendM, lends, lendD, lendR, atomD, keepO, slotOf, sOwn2, eFrz, tvT, truD, sortedD, insertD, eOp2, eOp1, eName, eD, ixD, setS_nw, setS_own, nwAt, noOwn_nw, peek_pl, gSb, gNm, gTp, gCs, gNl, getP, putP, addD, subD, mulD, modD, fdivD, powD, ltD, leD, gtD, geD, isD, isnotD, D.isN, negD, tvB, tvNot, tvAnd, tvOr, evT, evAnd, evOr, evNot, evIf, evChain, eCall, aCons, aNil, peeks, dats, lenD, intD, listD, tupleD, eTup, eLst, eSl, oNone, oSome, slD, revD, eLr1, eLr2, iSeq, iR1_eq, iR1f, iR2_eq, iR2f, iR3_eq, iR3f, iEnu, iZp, tYesM, eMeth, appendD, extendD, popD, reverseD, dropS, eFn, toArgs, backE, aft, finF, backs, eIsi, stp, lim, tab_length, hs, e]
theorem law_backward_ok {m : Nat} {s : Sq} (h8 : m ≤ 8) (P : Prm m s) : f__law_backward [.dat (.lst (mi (tab m s)))] = .ok (.new (.lst (mi (tab m (bk s m))))) [] := by
  obtain ⟨⟨a, k⟩, e, ha, hk⟩ := forL_rg (gm := gNm 2) (body := b__law_backward_1) (m := m) (fun (x : S × Nat) => [.dat (.lst (mi (tab m s))), .own (.lst (mi (tab m (bk s x.2)))), x.1])
    (fun i x => Pl x.1 = true ∧ x.2 = i) (fun q ⟨a, k⟩ hq ⟨ha, hk⟩ => by
      simp only at ha hk
      subst hk
      refine ⟨(.dat (.int k), k + 1), .inl ?_, rfl, rfl⟩
      have hs := P.lo k hq
      have a2 : L2.atI (tab m s) (k : Int) = some (s k) := tab_at rfl hq
      have i1 : L2.ixN m (s k) = some (s k).toNat := by simpa [tab_length] using tab_ix (s := s) (m := m) (i := s k) (p := (s k).toNat) (by omega) (by omega)
      simp [b__law_backward_1, sSeq, sSet, sOwn, sAli, sAsg, sRet, sRetN, sIf, sPass, sExpr, sFor, sPar, sPar3, sParO, sParO3, eFnX, lendM, lends, lendD, lendR, atomD, keepO, slotOf, sOwn2, eFrz, tvT, truD, sortedD, insertD, eOp2, eOp1, eName, eD, ixD, setS_nw, setS_own, nwAt, noOwn_nw, peek_pl, gSb, gNm, gTp, gCs, gNl, getP, putP, addD, subD, mulD, modD, fdivD, powD, ltD, leD, gtD, geD, isD, isnotD, D.isN, negD, tvB, tvNot, tvAnd, tvOr, evT, evAnd, evOr, evNot, evIf, evChain, eCall, aCons, aNil, peeks, dats, lenD, intD, listD, tupleD, eTup, eLst, eSl, oNone, oSome, slD, revD, eLr1, eLr2, iSeq, iR1_eq, iR1f, iR2_eq, iR2f, iR3_eq, iR3f, iEnu, iZp, tYesM, eMeth, appendD, extendD, popD, reverseD, dropS, eFn, toArgs, backE, aft, finF, backs, eIsi, stp, lim, ha, a2, tab_length, i1, tab_set, bk]) (j := m) (i := 0) (a := (.un, 0)) (by omega) ⟨rfl, rfl⟩
  simp only at e ha hk
  subst hk
  have hs : smI (k : Int) = true := smI_nat (by omega) (by omega)
  have z : mi (List.replicate k (0 : Int)) = mi (tab k (bk s 0)) := by rw [zeros_tab]; rfl
  have z1 : -(9223372036854775808 : Int) ≤ k := by omega
  have z2 : (k : Int) < 9223372036854775808 := by omega
  have z3 : k ≤ 16777216 := by omega
  simp only [Int.ofNat_zero] at e
  unfold f__law_backward
  rw [runF_eq (by rfl) (by rfl)]
  simp [m__law_backward, sSeq, sSet, sOwn, sAli, sAsg, sRet, sRetN, sIf, sPass, sExpr, sFor, sPar, sPar3, sParO, sParO3, eFnX, lendM, lends, lendD, lendR, atomD, keepO, slotOf, sOwn2, eFrz, tvT, truD, sortedD, insertD, eOp2, eOp1, eName, eD, ixD, setS_nw, setS_own, nwAt, noOwn_nw, peek_pl, gSb, gNm, gTp, gCs, gNl, getP, putP, addD, subD, mulD, modD, fdivD, powD, ltD, leD, gtD, geD, isD, isnotD, D.isN, negD, tvB, tvNot, tvAnd, tvOr, evT, evAnd, evOr, evNot, evIf, evChain, eCall, aCons, aNil, peeks, dats, lenD, intD, listD, tupleD, eTup, eLst, eSl, oNone, oSome, slD, revD, eLr1, eLr2, iSeq, iR1_eq, iR1f, iR2_eq, iR2f, iR3_eq, iR3f, iEnu, iZp, tYesM, eMeth, appendD, extendD, popD, reverseD, dropS, eFn, toArgs, backE, aft, finF, backs, eIsi, stp, lim, tab_length, hs, z, z1, z2, z3, e]

theorem Pl_forms {s : S} (h : Pl s = true) : s = .un ∨ ∃ d, s = .dat d := by
  cases s with
  | un => exact .inl rfl
  | dat d => exact .inr ⟨d, rfl⟩
  | _ => cases h
/-! a word of a simple braid, by the law -/
theorem sword_letters {m : Nat} (s : Sq) (f : List Int) (a b c : S) (h1 : 1 ≤ m) (h8 : m ≤ 8) :
    compL [4] (gNm 4) t__law_simple_word_1 c__law_simple_word_2 (mi (rg 1 (m - 1))) [.own (.lst (mi (tab m s))), .own (.lst (mi f)), a, b, .un, c] [] = .ok (.new (.lst (mi (fl m s)))) [.own (.lst (mi (tab m s))), .own (.lst (mi f)), a, b, .un, c] := by
  rw [← flt_fl]
  refine comp_flt _ rfl (by simp [lim]; omega) fun i hi => ?_
  obtain ⟨p, rfl, hp⟩ := rg1 hi
  have a1 : L2.atI (tab m s) ((p : Int) + 1 - 1) = some (s p) := tab_at (by omega) (by omega)
  have a2 : L2.atI (tab m s) ((p : Int) + 1) = some (s (p + 1)) := tab_at (by omega) (by omega)
  have e1 : ((p : Int) + 1).toNat = p + 1 := by omega
  refine ⟨[.own (.lst (mi (tab m s))), .own (.lst (mi f)), a, b, .dat (.int ((p : Int) + 1)), c], by simp [gNm, wipeV, sSeq, sSet, sOwn, sAli, sAsg, sRet, sRetN, sIf, sPass, sExpr, sFor, sPar, sPar3, sParO, sParO3, eFnX, lendM, lends, lendD, lendR, atomD, keepO, slotOf, sOwn2, eFrz, tvT, truD, sortedD, insertD, eOp2, eOp1, eName, eD, ixD, setS_nw, setS_own, nwAt, noOwn_nw, peek_pl, gSb, gNm, gTp, gCs, gNl, getP, putP, addD, subD, mulD, modD, fdivD, powD, ltD, leD, gtD, geD, isD, isnotD, D.isN, negD, tvB, tvNot, tvAnd, tvOr, evT, evAnd, evOr, evNot, evIf, evChain, eCall, aCons, aNil, peeks, dats, lenD, intD, listD, tupleD, eTup, eLst, eSl, oNone, oSome, slD, revD, eLr1, eLr2, iSeq, iR1_eq, iR1f, iR2_eq, iR2f, iR3_eq, iR3f, iEnu, iZp, tYesM, eMeth, appendD, extendD, popD, reverseD, dropS, eFn, toArgs, backE, aft, finF, backs, eIsi, stp, lim], ?_, by simp [c__law_simple_word_2, sSeq, sSet, sOwn, sAli, sAsg, sRet, sRetN, sIf, sPass, sExpr, sFor, sPar, sPar3, sParO, sParO3, eFnX, lendM, lends, lendD, lendR, atomD, keepO, slotOf, sOwn2, eFrz, tvT, truD, sortedD, insertD, eOp2, eOp1, eName, eD, ixD, setS_nw, setS_own, nwAt, noOwn_nw, peek_pl, gSb, gNm, gTp, gCs, gNl, getP, putP, addD, subD, mulD, modD, fdivD, powD, ltD, leD, gtD, geD, isD, isnotD, D.isN, negD, tvB, tvNot, tvAnd, tvOr, evT, evAnd, evOr, evNot, evIf, evChain, eCall, aCons, aNil, peeks, dats, lenD, intD, listD, tupleD, eTup, eLst, eSl, oNone, oSome, slD, revD, eLr1, eLr2, iSeq, iR1_eq, iR1f, iR2_eq, iR2f, iR3_eq, iR3f, iEnu, iZp, tYesM, eMeth, appendD, extendD, popD, reverseD, dropS, eFn, toArgs, backE, aft, finF, backs, eIsi, stp, lim], rfl, rfl, rfl⟩
  simp only [Int.add_sub_cancel] at a1
  simp [t__law_simple_word_1, sSeq, sSet, sOwn, sAli, sAsg, sRet, sRetN, sIf, sPass, sExpr, sFor, sPar, sPar3, sParO, sParO3, eFnX, lendM, lends, lendD, lendR, atomD, keepO, slotOf, sOwn2, eFrz, tvT, truD, sortedD, insertD, eOp2, eOp1, eName, eD, ixD, setS_nw, setS_own, nwAt, noOwn_nw, peek_pl, gSb, gNm, gTp, gCs, gNl, getP, putP, addD, subD, mulD, modD, fdivD, powD, ltD, leD, gtD, geD, isD, isnotD, D.isN, negD, tvB, tvNot, tvAnd, tvOr, evT, evAnd, evOr, evNot, evIf, evChain, eCall, aCons, aNil, peeks, dats, lenD, intD, listD, tupleD, eTup, eLst, eSl, oNone, oSome, slD, revD, eLr1, eLr2, iSeq, iR1_eq, iR1f, iR2_eq, iR2f, iR3_eq, iR3f, iEnu, iZp, tYesM, eMeth, appendD, extendD, popD, reverseD, dropS, eFn, toArgs, backE, aft, finF, backs, eIsi, stp, lim, a1, a2, e1]
theorem sword_lettersD {m : Nat} (s : Sq) (f : List Int) (a b c : S) (d : D) (h1 : 1 ≤ m) (h8 : m ≤ 8) :
    compL [4] (gNm 4) t__law_simple_word_1 c__law_simple_word_2 (mi (rg 1 (m - 1))) [.own (.lst (mi (tab m s))), .own (.lst (mi f)), a, b, .dat d, c] [] = .ok (.new (.lst (mi (fl m s)))) [.own (.lst (mi (tab m s))), .own (.lst (mi f)), a, b, .dat d, c] := by
  rw [← flt_fl]
  refine comp_flt _ rfl (by simp [lim]; omega) fun i hi => ?_
  obtain ⟨p, rfl, hp⟩ := rg1 hi
  have a1 : L2.atI (tab m s) ((p : Int) + 1 - 1) = some (s p) := tab_at (by omega) (by omega)
  have a2 : L2.atI (tab m s) ((p : Int) + 1) = some (s (p + 1)) := tab_at (by omega) (by omega)
  have e1 : ((p : Int) + 1).toNat = p + 1 := by omega
  refine ⟨[.own (.lst (mi (tab m s))), .own (.lst (mi f)), a, b, .dat (.int ((p : Int) + 1)), c], by simp [gNm, wipeV, sSeq, sSet, sOwn, sAli, sAsg, sRet, sRetN, sIf, sPass, sExpr, sFor, sPar, sPar3, sParO, sParO3, eFnX, lendM, lends, lendD, lendR, atomD, keepO, slotOf, sOwn2, eFrz, tvT, truD, sortedD, insertD, eOp2, eOp1, eName, eD, ixD, setS_nw, setS_own, nwAt, noOwn_nw, peek_pl, gSb, gNm, gTp, gCs, gNl, getP, putP, addD, subD, mulD, modD, fdivD, powD, ltD, leD, gtD, geD, isD, isnotD, D.isN, negD, tvB, tvNot, tvAnd, tvOr, evT, evAnd, evOr, evNot, evIf, evChain, eCall, aCons, aNil, peeks, dats, lenD, intD, listD, tupleD, eTup, eLst, eSl, oNone, oSome, slD, revD, eLr1, eLr2, iSeq, iR1_eq, iR1f, iR2_eq, iR2f, iR3_eq, iR3f, iEnu, iZp, tYesM, eMeth, appendD, extendD, popD, reverseD, dropS, eFn, toArgs, backE, aft, finF, backs, eIsi, stp, lim], ?_, by simp [c__law_simple_word_2, sSeq, sSet, sOwn, sAli, sAsg, sRet, sRetN, sIf, sPass, sExpr, sFor, sPar, sPar3, sParO, sParO3, eFnX, lendM, lends, lendD, lendR, atomD, keepO, slotOf, sOwn2, eFrz, tvT, truD, sortedD, insertD, eOp2, eOp1, eName, eD, ixD, setS_nw, setS_own, nwAt, noOwn_nw, peek_pl, gSb, gNm, gTp, gCs, gNl, getP, putP, addD, subD, mulD, modD, fdivD, powD, ltD, leD, gtD, geD, isD, isnotD, D.isN, negD, tvB, tvNot, tvAnd, tvOr, evT, evAnd, evOr, evNot, evIf, evChain, eCall, aCons, aNil, peeks, dats, lenD, intD, listD, tupleD, eTup, eLst, eSl, oNone, oSome, slD, revD, eLr1, eLr2, iSeq, iR1_eq, iR1f, iR2_eq, iR2f, iR3_eq, iR3f, iEnu, iZp, tYesM, eMeth, appendD, extendD, popD, reverseD, dropS, eFn, toArgs, backE, aft, finF, backs, eIsi, stp, lim], rfl, rfl, rfl⟩
  simp only [Int.add_sub_cancel] at a1
  simp [t__law_simple_word_1, sSeq, sSet, sOwn, sAli, sAsg, sRet, sRetN, sIf, sPass, sExpr, sFor, sPar, sPar3, sParO, sParO3, eFnX, lendM, lends, lendD, lendR, atomD, keepO, slotOf, sOwn2, eFrz, tvT, truD, sortedD, insertD, eOp2, eOp1, eName, eD, ixD, setS_nw, setS_own, nwAt, noOwn_nw, peek_pl, gSb, gNm, gTp, gCs, gNl, getP, putP, addD, subD, mulD, modD, fdivD, powD, ltD, leD, gtD, geD, isD, isnotD, D.isN, negD, tvB, tvNot, tvAnd, tvOr, evT, evAnd, evOr, evNot, evIf, evChain, eCall, aCons, aNil, peeks, dats, lenD, intD, listD, tupleD, eTup, eLst, eSl, oNone, oSome, slD, revD, eLr1, eLr2, iSeq, iR1_eq, iR1f, iR2_eq, iR2f, iR3_eq, iR3f, iEnu, iZp, tYesM, eMeth, appendD, extendD, popD, reverseD, dropS, eFn, toArgs, backE, aft, finF, backs, eIsi, stp, lim, a1, a2, e1]
theorem sword_comp {m : Nat} (s : Sq) (f : List Int) {a b x c : S} (ha : Pl a = true) (hb : Pl b = true) (hx : Pl x = true) (hc : Pl c = true) (h1 : 1 ≤ m) (h8 : m ≤ 8) :
    (eComp [4] (iR2 (aCons true (eD (.int 1)) (aCons true (eCall lenD (aCons true (eName 0) aNil)) aNil))) (gNm 4) t__law_simple_word_1 c__law_simple_word_2) [.own (.lst (mi (tab m s))), .own (.lst (mi f)), a, b, x, c] = .ok (.new (.lst (mi (fl m s)))) [.own (.lst (mi (tab m s))), .own (.lst (mi f)), a, b, x, c] := by
  have hs : smI (m : Int) = true := smI_nat (by omega) (by omega)
  have e : ((m : Int) - 1).toNat = m - 1 := by omega
  rcases Pl_forms hx with rfl | ⟨d, rfl⟩
  · simp [eComp, sSeq, sSet, sOwn, sAli, sAsg, sRet, sRetN, sIf, sPass, sExpr, sFor, sPar, sPar3, sParO, sParO3, eFnX, lendM, lends, lendD, lendR, atomD, keepO, slotOf, sOwn2, eFrz, tvT, truD, sortedD, insertD, eOp2, eOp1, eName, eD, ixD, setS_nw, setS_own, nwAt, noOwn_nw, peek_pl, gSb, gNm, gTp, gCs, gNl, getP, putP, addD, subD, mulD, modD, fdivD, powD, ltD, leD, gtD, geD, isD, isnotD, D.isN, negD, tvB, tvNot, tvAnd, tvOr, evT, evAnd, evOr, evNot, evIf, evChain, eCall, aCons, aNil, peeks, dats, lenD, intD, listD, tupleD, eTup, eLst, eSl, oNone, oSome, slD, revD, eLr1, eLr2, iSeq, iR1_eq, iR1f, iR2_eq, iR2f, iR3_eq, iR3f, iEnu, iZp, tYesM, eMeth, appendD, extendD, popD, reverseD, dropS, eFn, toArgs, backE, aft, finF, backs, eIsi, stp, lim, tab_length, hs, e, sword_letters s f a b c h1 h8]
  · simp [eComp, sSeq, sSet, sOwn, sAli, sAsg, sRet, sRetN, sIf, sPass, sExpr, sFor, sPar, sPar3, sParO, sParO3, eFnX, lendM, lends, lendD, lendR, atomD, keepO, slotOf, sOwn2, eFrz, tvT, truD, sortedD, insertD, eOp2, eOp1, eName, eD, ixD, setS_nw, setS_own, nwAt, noOwn_nw, peek_pl, gSb, gNm, gTp, gCs, gNl, getP, putP, addD, subD, mulD, modD, fdivD, powD, ltD, leD, gtD, geD, isD, isnotD, D.isN, negD, tvB, tvNot, tvAnd, tvOr, evT, evAnd, evOr, evNot, evIf, evChain, eCall, aCons, aNil, peeks, dats, lenD, intD, listD, tupleD, eTup, eLst, eSl, oNone, oSome, slD, revD, eLr1, eLr2, iSeq, iR1_eq, iR1f, iR2_eq, iR2f, iR3_eq, iR3f, iEnu, iZp, tYesM, eMeth, appendD, extendD, popD, reverseD, dropS, eFn, toArgs, backE, aft, finF, backs, eIsi, stp, lim, tab_length, hs, e, sword_lettersD s f a b c d h1 h8]
theorem sword_step {m p : Nat} {s : Sq} {r : List Nat} (h1 : 1 ≤ m) (h8 : m ≤ 8) (c : dsc m s = p :: r) (f : List Int) {a b x y : S} (ha : Pl a = true) (hb : Pl b = true) (hx : Pl x = true) (hy : Pl y = true) (hf : f.length < 16777216) (k : Int) :
    ∃ b' x', stp (gNm 2) b__law_simple_word_3 (.int k) [.own (.lst (mi (tab m s))), .own (.lst (mi f)), a, b, x, y] = .nx [.own (.lst (mi (tab m (sw p s)))), .own (.lst (mi (f ++ [(p : Int) + 1]))), .dat (.int k), b', x', y] ∧ Pl b' = true ∧ Pl x' = true := by
  obtain ⟨r', e⟩ := fl_cons c
  obtain ⟨hp, _⟩ := dsc_cons c
  have hc := sword_comp s f (a := .dat (.int k)) (b := b) (x := x) (c := y) rfl hb hx hy h1 h8
  rw [e] at hc
  have a1 : L2.atI (tab m s) ((p : Int) + 1 - 1) = some (s p) := tab_at (by omega) (by omega)
  have a2 : L2.atI (tab m s) ((p : Int) + 1) = some (s (p + 1)) := tab_at (by omega) (by omega)
  have i1 : L2.ixN m ((p : Int) + 1 - 1) = some p := by simpa [tab_length] using tab_ix (s := s) (m := m) (i := (p : Int) + 1 - 1) (p := p) (by omega) (by omega)
  have i2 : L2.ixN m ((p : Int) + 1) = some (p + 1) := by simpa [tab_length] using tab_ix (s := s) (m := m) (i := (p : Int) + 1) (p := p + 1) (by omega) (by omega)
  simp only [Int.add_sub_cancel] at a1 i1
  refine ⟨.dat (.lst (mi (((p : Int) + 1) :: r'))), .dat (.int ((p : Int) + 1)), ?_, rfl, rfl⟩
  unfold stp
  have g : gNm 2 (.int k) [.own (.lst (mi (tab m s))), .own (.lst (mi f)), a, b, x, y] = some [.own (.lst (mi (tab m s))), .own (.lst (mi f)), .dat (.int k), b, x, y] := by simp [sSeq, sSet, sOwn, sAli, sAsg, sRet, sRetN, sIf, sPass, sExpr, sFor, sPar, sPar3, sParO, sParO3, eFnX, lendM, lends, lendD, lendR, atomD, keepO, slotOf, sOwn2, eFrz, tvT, truD, sortedD, insertD, eOp2, eOp1, eName, eD, ixD, setS_nw, setS_own, nwAt, noOwn_nw, peek_pl, gSb, gNm, gTp, gCs, gNl, getP, putP, addD, subD, mulD, modD, fdivD, powD, ltD, leD, gtD, geD, isD, isnotD, D.isN, negD, tvB, tvNot, tvAnd, tvOr, evT, evAnd, evOr, evNot, evIf, evChain, eCall, aCons, aNil, peeks, dats, lenD, intD, listD, tupleD, eTup, eLst, eSl, oNone, oSome, slD, revD, eLr1, eLr2, iSeq, iR1_eq, iR1f, iR2_eq, iR2f, iR3_eq, iR3f, iEnu, iZp, tYesM, eMeth, appendD, extendD, popD, reverseD, dropS, eFn, toArgs, backE, aft, finF, backs, eIsi, stp, lim, ha]
  rw [g]
  simp only []
  unfold b__law_simple_word_3
  refine (sSeq_nx [.own (.lst (mi (tab m s))), .own (.lst (mi f)), .dat (.int k), .dat (.lst (mi (((p : Int) + 1) :: r'))), x, y] ?_).trans ?_
  · unfold sSet
    rw [hc]
    simp [sSeq, sSet, sOwn, sAli, sAsg, sRet, sRetN, sIf, sPass, sExpr, sFor, sPar, sPar3, sParO, sParO3, eFnX, lendM, lends, lendD, lendR, atomD, keepO, slotOf, sOwn2, eFrz, tvT, truD, sortedD, insertD, eOp2, eOp1, eName, eD, ixD, setS_nw, setS_own, nwAt, noOwn_nw, peek_pl, gSb, gNm, gTp, gCs, gNl, getP, putP, addD, subD, mulD, modD, fdivD, powD, ltD, leD, gtD, geD, isD, isnotD, D.isN, negD, tvB, tvNot, tvAnd, tvOr, evT, evAnd, evOr, evNot, evIf, evChain, eCall, aCons, aNil, peeks, dats, lenD, intD, listD, tupleD, eTup, eLst, eSl, oNone, oSome, slD, revD, eLr1, eLr2, iSeq, iR1_eq, iR1f, iR2_eq, iR2f, iR3_eq, iR3f, iEnu, iZp, tYesM, eMeth, appendD, extendD, popD, reverseD, dropS, eFn, toArgs, backE, aft, finF, backs, eIsi, stp, lim, hb]
  · simp [sSeq, sSet, sOwn, sAli, sAsg, sRet, sRetN, sIf, sPass, sExpr, sFor, sPar, sPar3, sParO, sParO3, eFnX, lendM, lends, lendD, lendR, atomD, keepO, slotOf, sOwn2, eFrz, tvT, truD, sortedD, insertD, eOp2, eOp1, eName, eD, ixD, setS_nw, setS_own, nwAt, noOwn_nw, peek_pl, gSb, gNm, gTp, gCs, gNl, getP, putP, addD, subD, mulD, modD, fdivD, powD, ltD, leD, gtD, geD, isD, isnotD, D.isN, negD, tvB, tvNot, tvAnd, tvOr, evT, evAnd, evOr, evNot, evIf, evChain, eCall, aCons, aNil, peeks, dats, lenD, intD, listD, tupleD, eTup, eLst, eSl, oNone, oSome, slD, revD, eLr1, eLr2, iSeq, iR1_eq, iR1f, iR2_eq, iR2f, iR3_eq, iR3f, iEnu, iZp, tYesM, eMeth, appendD, extendD, popD, reverseD, dropS, eFn, toArgs, backE, aft, finF, backs, eIsi, stp, lim, hx, atI_zero, tab_length, a1, a2, i1, i2, tab_set, sw_upd, hf]
theorem sword_end {m : Nat} {s : Sq} (h1 : 1 ≤ m) (h8 : m ≤ 8) (c : dsc m s = []) (f : List Int) {a b x y : S} (ha : Pl a = true) (hb : Pl b = true) (hx : Pl x = true) (hy : Pl y = true) (k : Int) :
    stp (gNm 2) b__law_simple_word_3 (.int k) [.own (.lst (mi (tab m s))), .own (.lst (mi f)), a, b, x, y] = .rt (.new (.lst (mi f))) [.own (.lst (mi (tab m s))), .un, .dat (.int k), .dat (.lst (mi [])), x, y] := by
  have hc := sword_comp s f (a := .dat (.int k)) (b := b) (x := x) (c := y) rfl hb hx hy h1 h8
  rw [fl_nil c] at hc
  unfold stp
  have g : gNm 2 (.int k) [.own (.lst (mi (tab m s))), .own (.lst (mi f)), a, b, x, y] = some [.own (.lst (mi (tab m s))), .own (.lst (mi f)), .dat (.int k), b, x, y] := by simp [sSeq, sSet, sOwn, sAli, sAsg, sRet, sRetN, sIf, sPass, sExpr, sFor, sPar, sPar3, sParO, sParO3, eFnX, lendM, lends, lendD, lendR, atomD, keepO, slotOf, sOwn2, eFrz, tvT, truD, sortedD, insertD, eOp2, eOp1, eName, eD, ixD, setS_nw, setS_own, nwAt, noOwn_nw, peek_pl, gSb, gNm, gTp, gCs, gNl, getP, putP, addD, subD, mulD, modD, fdivD, powD, ltD, leD, gtD, geD, isD, isnotD, D.isN, negD, tvB, tvNot, tvAnd, tvOr, evT, evAnd, evOr, evNot, evIf, evChain, eCall, aCons, aNil, peeks, dats, lenD, intD, listD, tupleD, eTup, eLst, eSl, oNone, oSome, slD, revD, eLr1, eLr2, iSeq, iR1_eq, iR1f, iR2_eq, iR2f, iR3_eq, iR3f, iEnu, iZp, tYesM, eMeth, appendD, extendD, popD, reverseD, dropS, eFn, toArgs, backE, aft, finF, backs, eIsi, stp, lim, ha]
  rw [g]
  simp only []
  unfold b__law_simple_word_3
  refine (sSeq_nx [.own (.lst (mi (tab m s))), .own (.lst (mi f)), .dat (.int k), .dat (.lst (mi [])), x, y] ?_).trans ?_
  · unfold sSet
    rw [hc]
    simp [sSeq, sSet, sOwn, sAli, sAsg, sRet, sRetN, sIf, sPass, sExpr, sFor, sPar, sPar3, sParO, sParO3, eFnX, lendM, lends, lendD, lendR, atomD, keepO, slotOf, sOwn2, eFrz, tvT, truD, sortedD, insertD, eOp2, eOp1, eName, eD, ixD, setS_nw, setS_own, nwAt, noOwn_nw, peek_pl, gSb, gNm, gTp, gCs, gNl, getP, putP, addD, subD, mulD, modD, fdivD, powD, ltD, leD, gtD, geD, isD, isnotD, D.isN, negD, tvB, tvNot, tvAnd, tvOr, evT, evAnd, evOr, evNot, evIf, evChain, eCall, aCons, aNil, peeks, dats, lenD, intD, listD, tupleD, eTup, eLst, eSl, oNone, oSome, slD, revD, eLr1, eLr2, iSeq, iR1_eq, iR1f, iR2_eq, iR2f, iR3_eq, iR3f, iEnu, iZp, tYesM, eMeth, appendD, extendD, popD, reverseD, dropS, eFn, toArgs, backE, aft, finF, backs, eIsi, stp, lim, hb]
  · simp [sSeq, sSet, sOwn, sAli, sAsg, sRet, sRetN, sIf, sPass, sExpr, sFor, sPar, sPar3, sParO, sParO3, eFnX, lendM, lends, lendD, lendR, atomD, keepO, slotOf, sOwn2, eFrz, tvT, truD, sortedD, insertD, eOp2, eOp1, eName, eD, ixD, setS_nw, setS_own, nwAt, noOwn_nw, peek_pl, gSb, gNm, gTp, gCs, gNl, getP, putP, addD, subD, mulD, modD, fdivD, powD, ltD, leD, gtD, geD, isD, isnotD, D.isN, negD, tvB, tvNot, tvAnd, tvOr, evT, evAnd, evOr, evNot, evIf, evChain, eCall, aCons, aNil, peeks, dats, lenD, intD, listD, tupleD, eTup, eLst, eSl, oNone, oSome, slD, revD, eLr1, eLr2, iSeq, iR1_eq, iR1f, iR2_eq, iR2f, iR3_eq, iR3f, iEnu, iZp, tYesM, eMeth, appendD, extendD, popD, reverseD, dropS, eFn, toArgs, backE, aft, finF, backs, eIsi, stp, lim, hx, hy]
theorem sword_loop {m : Nat} (h1 : 1 ≤ m) (h8 : m ≤ 8) : ∀ {w : List Int} {s : Sq} {f : List Int} {a b x y : S}, Pl a = true → Pl b = true → Pl x = true → Pl y = true → inv s m < w.length → f.length + inv s m ≤ 10000 →
    ∃ e, forL (gNm 2) b__law_simple_word_3 (mi w) [.own (.lst (mi (tab m s))), .own (.lst (mi f)), a, b, x, y] = .rt (.new (.lst (mi (f ++ W m s)))) e ∧ ∃ s' a' b' c', e = [.own (.lst (mi (tab m s'))), .un, a', b', c', y]
  | [], s, f, a, b, x, y, _, _, _, _, h, _ => by simp at h
  | k :: w, s, f, a, b, x, y, ha, hb, hx, hy, h, hf => by
    show ∃ e, forL (gNm 2) b__law_simple_word_3 (D.int k :: mi w) _ = _ ∧ _
    rcases dsc_cases m s with c | ⟨p, r, c⟩
    · refine ⟨[.own (.lst (mi (tab m s))), .un, .dat (.int k), .dat (.lst (mi [])), x, y], ?_, ?_⟩
      · rw [forL_stp, sword_end h1 h8 c f ha hb hx hy k, W_nil c, List.append_nil]
      · exact ⟨s, _, _, _, rfl⟩
    · obtain ⟨a1, a2, _⟩ := dsc_cons c
      have hi := inv_sw a2 a1
      simp only [List.length_cons] at h
      obtain ⟨b', x', e1, hb', hx'⟩ := sword_step h1 h8 c f ha hb hx hy (by omega) k
      obtain ⟨e, e2, e3⟩ := sword_loop h1 h8 (w := w) (s := sw p s) (f := f ++ [(p : Int) + 1]) (a := .dat (.int k)) (b := b') (x := x') (y := y) rfl hb' hx' hy (by omega) (by simp only [List.length_append, List.length_singleton]; omega)
      refine ⟨e, ?_, e3⟩
      rw [forL_stp, e1]
      simp only
      rw [e2, W_cons c, List.append_assoc]
      rfl
theorem simple_word_ok {m : Nat} (s : Sq) (h1 : 1 ≤ m) (h8 : m ≤ 8) : f__law_simple_word [.dat (.lst (mi (tab m s)))] = .ok (.new (.lst (mi (W m s)))) [] := by
  have h64 := inv_64 h8 s
  have hlt : inv s m < m * m := by
    have h := inv_le (s := s) (m - 1)
    obtain ⟨q, rfl⟩ : ∃ q, m = q + 1 := ⟨m - 1, by omega⟩
    have h2 := inv_le (s := s) q
    have h3 := cnt_le (f := fun p => decide (s q < s p)) q
    have e : (q + 1) * (q + 1) = q * q + 2 * q + 1 := by rw [Nat.add_mul, Nat.mul_add]; omega
    rw [inv.eq_2]
    omega
  have hmm : m * m ≤ 8 * 8 := Nat.mul_le_mul h8 h8
  obtain ⟨e, e1, s', a', b', c', rfl⟩ := sword_loop h1 h8 (w := rg 0 (m * m)) (s := s) (f := []) (a := .un) (b := .un) (x := .un) (y := .un) rfl rfl rfl rfl (by rw [rg_length]; exact hlt) (by simp; omega)
  have hcp : compL [5] (gNm 5) tYesM c__law_simple_word_4 (mi (tab m s)) [.dat (.lst (mi (tab m s))), .un, .un, .un, .un, .un] [] = .ok (.new (.lst (mi ((tab m s).map fun x => x)))) [.dat (.lst (mi (tab m s))), .un, .un, .un, .un, .un] := by
    refine comp_map (fun x => x) rfl (by rw [tab_length]; simp only [lim]; omega) fun i hi => ⟨[.dat (.lst (mi (tab m s))), .un, .un, .un, .un, .dat (.int i)], by simp [gNm, wipeV, sSeq, sSet, sOwn, sAli, sAsg, sRet, sRetN, sIf, sPass, sExpr, sFor, sPar, sPar3, sParO, sParO3, eFnX, lendM, lends, lendD, lendR, atomD, keepO, slotOf, sOwn2, eFrz, tvT, truD, sortedD, insertD, eOp2, eOp1, eName, eD, ixD, setS_nw, setS_own, nwAt, noOwn_nw, peek_pl, gSb, gNm, gTp, gCs, gNl, getP, putP, addD, subD, mulD, modD, fdivD, powD, ltD, leD, gtD, geD, isD, isnotD, D.isN, negD, tvB, tvNot, tvAnd, tvOr, evT, evAnd, evOr, evNot, evIf, evChain, eCall, aCons, aNil, peeks, dats, lenD, intD, listD, tupleD, eTup, eLst, eSl, oNone, oSome, slD, revD, eLr1, eLr2, iSeq, iR1_eq, iR1f, iR2_eq, iR2f, iR3_eq, iR3f, iEnu, iZp, tYesM, eMeth, appendD, extendD, popD, reverseD, dropS, eFn, toArgs, backE, aft, finF, backs, eIsi, stp, lim], [.dat (.lst (mi (tab m s))), .un, .un, .un, .un, .dat (.int i)], by simp [c__law_simple_word_4, sSeq, sSet, sOwn, sAli, sAsg, sRet, sRetN, sIf, sPass, sExpr, sFor, sPar, sPar3, sParO, sParO3, eFnX, lendM, lends, lendD, lendR, atomD, keepO, slotOf, sOwn2, eFrz, tvT, truD, sortedD, insertD, eOp2, eOp1, eName, eD, ixD, setS_nw, setS_own, nwAt, noOwn_nw, peek_pl, gSb, gNm, gTp, gCs, gNl, getP, putP, addD, subD, mulD, modD, fdivD, powD, ltD, leD, gtD, geD, isD, isnotD, D.isN, negD, tvB, tvNot, tvAnd, tvOr, evT, evAnd, evOr, evNot, evIf, evChain, eCall, aCons, aNil, peeks, dats, lenD, intD, listD, tupleD, eTup, eLst, eSl, oNone, oSome, slD, revD, eLr1, eLr2, iSeq, iR1_eq, iR1f, iR2_eq, iR2f, iR3_eq, iR3f, iEnu, iZp, tYesM, eMeth, appendD, extendD, popD, reverseD, dropS, eFn, toArgs, backE, aft, finF, backs, eIsi, stp, lim], rfl, rfl, rfl⟩
  rw [List.map_id'' (fun _ => rfl)] at hcp
  have hm2 : ((m : Int) * m) = ((m * m : Nat) : Int) := (Int.natCast_mul m m).symm
  have hs : smI ((m : Int) * m) = true := by rw [hm2]; exact smI_nat (by omega) (by omega)
  have ht : ((m : Int) * m).toNat = m * m := by rw [← Int.natCast_mul]; omega
  have hb : -(18446744073709551616 : Int) < m ∧ (m : Int) < 18446744073709551616 := by omega
  rw [List.nil_append] at e1
  unfold f__law_simple_word
  rw [runF_eq (by rfl) (by rfl)]
  simp [m__law_simple_word, eComp, eCompN, sSeq, sSet, sOwn, sAli, sAsg, sRet, sRetN, sIf, sPass, sExpr, sFor, sPar, sPar3, sParO, sParO3, eFnX, lendM, lends, lendD, lendR, atomD, keepO, slotOf, sOwn2, eFrz, tvT, truD, sortedD, insertD, eOp2, eOp1, eName, eD, ixD, setS_nw, setS_own, nwAt, noOwn_nw, peek_pl, gSb, gNm, gTp, gCs, gNl, getP, putP, addD, subD, mulD, modD, fdivD, powD, ltD, leD, gtD, geD, isD, isnotD, D.isN, negD, tvB, tvNot, tvAnd, tvOr, evT, evAnd, evOr, evNot, evIf, evChain, eCall, aCons, aNil, peeks, dats, lenD, intD, listD, tupleD, eTup, eLst, eSl, oNone, oSome, slD, revD, eLr1, eLr2, iSeq, iR1_eq, iR1f, iR2_eq, iR2f, iR3_eq, iR3f, iEnu, iZp, tYesM, eMeth, appendD, extendD, popD, reverseD, dropS, eFn, toArgs, backE, aft, finF, backs, eIsi, stp, lim, hcp, tab_length, hs, ht, hb, e1]

theorem fl_len {m : Nat} (s : Sq) : (fl m s).length ≤ m := by
  unfold fl dsc
  rw [List.length_map]
  refine Nat.le_trans (List.length_filter_le _ _) ?_
  rw [List.length_range]; omega
theorem strands_ok (q : Pool) : ∃ m : Nat, 1 ≤ m ∧ m ≤ 8 ∧ f__law_strands [.own (.lst q.1)] = .ok (.dat (.int m)) [.lst (pR q 12).1] := by
  have hv := pV_rg q (m := 12) (by omega)
  have ha : ∃ m : Nat, 1 ≤ m ∧ m ≤ 8 ∧ L2.atI [(D.int 1), .int 2, .int 2, .int 3, .int 3, .int 3, .int 4, .int 4, .int 5, .int 6, .int 7, .int 8] (pV q 12) = some (.int m) := by
    generalize pV q 12 = v at hv
    have : v = 0 ∨ v = 1 ∨ v = 2 ∨ v = 3 ∨ v = 4 ∨ v = 5 ∨ v = 6 ∨ v = 7 ∨ v = 8 ∨ v = 9 ∨ v = 10 ∨ v = 11 := by omega
    rcases this with rfl | rfl | rfl | rfl | rfl | rfl | rfl | rfl | rfl | rfl | rfl | rfl
    · exact ⟨1, by omega, by omega, rfl⟩
    · exact ⟨2, by omega, by omega, rfl⟩
    · exact ⟨2, by omega, by omega, rfl⟩
    · exact ⟨3, by omega, by omega, rfl⟩
    · exact ⟨3, by omega, by omega, rfl⟩
    · exact ⟨3, by omega, by omega, rfl⟩
    · exact ⟨4, by omega, by omega, rfl⟩
    · exact ⟨4, by omega, by omega, rfl⟩
    · exact ⟨5, by omega, by omega, rfl⟩
    · exact ⟨6, by omega, by omega, rfl⟩
    · exact ⟨7, by omega, by omega, rfl⟩
    · exact ⟨8, by omega, by omega, rfl⟩
  obtain ⟨m, h1, h8, ha⟩ := ha
  refine ⟨m, h1, h8, ?_⟩
  unfold f__law_strands
  rw [runF_eq (by rfl) (by rfl)]
  simp [m__law_strands, sSeq, sSet, sOwn, sAli, sAsg, sRet, sRetN, sIf, sPass, sExpr, sFor, sPar, sPar3, sParO, sParO3, eFnX, lendM, lends, lendD, lendR, atomD, keepO, slotOf, sOwn2, eFrz, tvT, truD, sortedD, insertD, eOp2, eOp1, eName, eD, ixD, setS_nw, setS_own, nwAt, noOwn_nw, peek_pl, gSb, gNm, gTp, gCs, gNl, getP, putP, addD, subD, mulD, modD, fdivD, powD, ltD, leD, gtD, geD, isD, isnotD, D.isN, negD, tvB, tvNot, tvAnd, tvOr, evT, evAnd, evOr, evNot, evIf, evChain, eCall, aCons, aNil, peeks, dats, lenD, intD, listD, tupleD, eTup, eLst, eSl, oNone, oSome, slD, revD, eLr1, eLr2, iSeq, iR1_eq, iR1f, iR2_eq, iR2f, iR3_eq, iR3f, iEnu, iZp, tYesM, eMeth, appendD, extendD, popD, reverseD, dropS, eFn, toArgs, backE, aft, finF, backs, eIsi, stp, lim, pick_eq, ha, O.toD]
theorem shuffled_ok (q : Pool) {m : Nat} (h8 : m ≤ 8) : ∃ (s : Sq) (q' : Pool), f__law_shuffled [.own (.lst q.1), .dat (.int m)] = .ok (.new (.lst (mi (tab m s)))) [.lst q'.1] ∧ Prm m s := by
  obtain ⟨⟨q', xs, a⟩, e, hp, ha⟩ := forL_rg (gm := gNm 3) (body := b__law_shuffled_1) (m := m) (fun (x : Pool × List Int × S) => [.own (.lst x.1.1), .dat (.int m), .own (.lst (mi x.2.1)), x.2.2])
    (fun i x => x.2.1.Perm (rg 0 i) ∧ Pl x.2.2 = true) (fun i ⟨q, xs, a⟩ hi ⟨hp, ha⟩ => by
      simp only at hp ha
      have hv := pV_rg q (m := (i : Int) + 1) (by omega)
      have hl : xs.length = i := by rw [hp.length_eq, rg_length]
      refine ⟨(pR q ((i : Int) + 1), xs.take (pV q ((i : Int) + 1)).toNat ++ [(i : Int)] ++ xs.drop (pV q ((i : Int) + 1)).toNat, .dat (.int i)), .inl ?_, ?_, rfl⟩
      · have pk := pick_eq q (m := (i : Int) + 1) (by omega)
        have b1 : xs.length < 16777216 := by omega
        have b2 : pV q ((i : Int) + 1) < 9223372036854775808 := by omega
        simp [b__law_shuffled_1, sSeq, sSet, sOwn, sAli, sAsg, sRet, sRetN, sIf, sPass, sExpr, sFor, sPar, sPar3, sParO, sParO3, eFnX, lendM, lends, lendD, lendR, atomD, keepO, slotOf, sOwn2, eFrz, tvT, truD, sortedD, insertD, eOp2, eOp1, eName, eD, ixD, setS_nw, setS_own, nwAt, noOwn_nw, peek_pl, gSb, gNm, gTp, gCs, gNl, getP, putP, addD, subD, mulD, modD, fdivD, powD, ltD, leD, gtD, geD, isD, isnotD, D.isN, negD, tvB, tvNot, tvAnd, tvOr, evT, evAnd, evOr, evNot, evIf, evChain, eCall, aCons, aNil, peeks, dats, lenD, intD, listD, tupleD, eTup, eLst, eSl, oNone, oSome, slD, revD, eLr1, eLr2, iSeq, iR1_eq, iR1f, iR2_eq, iR2f, iR3_eq, iR3f, iEnu, iZp, tYesM, eMeth, appendD, extendD, popD, reverseD, dropS, eFn, toArgs, backE, aft, finF, backs, eIsi, stp, lim, ha, pk, b1, b2, hv.1, ← mi_eq]
        simp [mi]
      · simp only
        rw [rg_succ]
        refine List.Perm.trans ?_ (hp.append_right _)
        generalize (pV q ((i : Int) + 1)).toNat = k
        rw [List.append_assoc]
        refine List.Perm.trans (List.perm_append_comm.append_left _) ?_
        rw [← List.append_assoc, List.take_append_drop]) (j := m) (i := 0) (a := (q, [], .un)) (by omega) ⟨.refl _, rfl⟩
  obtain ⟨s, hs, P⟩ := perm_tab hp
  simp only at e hs
  subst hs
  have hs : smI (m : Int) = true := smI_nat (by omega) (by omega)
  simp only [Int.ofNat_zero] at e
  refine ⟨s, q', ?_, P⟩
  unfold f__law_shuffled
  rw [runF_eq (by rfl) (by rfl)]
  simp [m__law_shuffled, sSeq, sSet, sOwn, sAli, sAsg, sRet, sRetN, sIf, sPass, sExpr, sFor, sPar, sPar3, sParO, sParO3, eFnX, lendM, lends, lendD, lendR, atomD, keepO, slotOf, sOwn2, eFrz, tvT, truD, sortedD, insertD, eOp2, eOp1, eName, eD, ixD, setS_nw, setS_own, nwAt, noOwn_nw, peek_pl, gSb, gNm, gTp, gCs, gNl, getP, putP, addD, subD, mulD, modD, fdivD, powD, ltD, leD, gtD, geD, isD, isnotD, D.isN, negD, tvB, tvNot, tvAnd, tvOr, evT, evAnd, evOr, evNot, evIf, evChain, eCall, aCons, aNil, peeks, dats, lenD, intD, listD, tupleD, eTup, eLst, eSl, oNone, oSome, slD, revD, eLr1, eLr2, iSeq, iR1_eq, iR1f, iR2_eq, iR2f, iR3_eq, iR3f, iEnu, iZp, tYesM, eMeth, appendD, extendD, popD, reverseD, dropS, eFn, toArgs, backE, aft, finF, backs, eIsi, stp, lim, hs, e]

theorem prm_id (m : Nat) : Prm m (fun k => (k : Int)) := ⟨fun k hk => by omega, fun j k hj hk e => by omega⟩
theorem prm_rev (m : Nat) : Prm m (fun k => ((m - 1 - k : Nat) : Int)) := ⟨fun k hk => by omega, fun j k hj hk e => by omega⟩
theorem rev_tab (m : Nat) : (rg 0 m).reverse = tab m (fun k => ((m - 1 - k : Nat) : Int)) := by
  refine List.ext_getElem? fun k => ?_
  by_cases hk : k < m
  · rw [tab_get hk, List.getElem?_reverse (by rw [rg_length]; exact hk), rg_length]
    unfold rg
    rw [List.getElem?_map, List.getElem?_range (by omega)]
    simp
  · rw [List.getElem?_eq_none (by rw [List.length_reverse, rg_length]; omega), List.getElem?_eq_none (by rw [tab_length]; omega)]
theorem simple_loop {m : Nat} (h2 : 2 ≤ m) (h8 : m ≤ 8) (sh : D) : ∀ {w : List Int} {q : Pool} {s : Sq} {a b : S}, Prm m s → Pl a = true → Pl b = true →
    ∃ (q' : Pool) (s' : Sq) (a' b' : S), forL (gNm 4) b__law_simple_1 (mi w) [.own (.lst q.1), .dat (.int m), .dat sh, .own (.lst (mi (tab m s))), a, b] = .nx [.own (.lst q'.1), .dat (.int m), .dat sh, .own (.lst (mi (tab m s'))), a', b'] ∧ Prm m s'
  | [], q, s, a, b, P, ha, hb => ⟨q, s, a, b, rfl, P⟩
  | k :: w, q, s, a, b, P, ha, hb => by
    have hv := pV_rg q (m := 60) (by omega)
    have hr : 0 ≤ pV q 60 % ((m : Int) - 1) ∧ pV q 60 % ((m : Int) - 1) < (m : Int) - 1 := ⟨Int.emod_nonneg _ (by omega), Int.emod_lt_of_pos _ (by omega)⟩
    obtain ⟨p, hp⟩ : ∃ p : Nat, pV q 60 % ((m : Int) - 1) = p := ⟨(pV q 60 % ((m : Int) - 1)).toNat, by omega⟩
    have hpm : p + 1 < m := by omega
    have hm1 : 0 < (m : Int) - 1 := by omega
    have hm2 : (1 : Int) < m := by omega
    have a1 : L2.atI (tab m s) (p : Int) = some (s p) := tab_at rfl (by omega)
    have a2 : L2.atI (tab m s) (1 + (p : Int)) = some (s (p + 1)) := tab_at (by omega) (by omega)
    have i1 : L2.ixN m (p : Int) = some p := by simpa [tab_length] using tab_ix (s := s) (m := m) (i := (p : Int)) (p := p) rfl (by omega)
    have i2 : L2.ixN m (1 + (p : Int)) = some (p + 1) := by simpa [tab_length] using tab_ix (s := s) (m := m) (i := 1 + (p : Int)) (p := p + 1) (by omega) (by omega)
    have e1 : 1 + (p : Int) - 1 = p := by omega
    have st : stp (gNm 4) b__law_simple_1 (.int k) [.own (.lst q.1), .dat (.int m), .dat sh, .own (.lst (mi (tab m s))), a, b] = .nx [.own (.lst (pR q 60).1), .dat (.int m), .dat sh, .own (.lst (mi (tab m (sw p s)))), .dat (.int k), .dat (.int (1 + (p : Int)))] := by
      simp [b__law_simple_1, sSeq, sSet, sOwn, sAli, sAsg, sRet, sRetN, sIf, sPass, sExpr, sFor, sPar, sPar3, sParO, sParO3, eFnX, lendM, lends, lendD, lendR, atomD, keepO, slotOf, sOwn2, eFrz, tvT, truD, sortedD, insertD, eOp2, eOp1, eName, eD, ixD, setS_nw, setS_own, nwAt, noOwn_nw, peek_pl, gSb, gNm, gTp, gCs, gNl, getP, putP, addD, subD, mulD, modD, fdivD, powD, ltD, leD, gtD, geD, isD, isnotD, D.isN, negD, tvB, tvNot, tvAnd, tvOr, evT, evAnd, evOr, evNot, evIf, evChain, eCall, aCons, aNil, peeks, dats, lenD, intD, listD, tupleD, eTup, eLst, eSl, oNone, oSome, slD, revD, eLr1, eLr2, iSeq, iR1_eq, iR1f, iR2_eq, iR2f, iR3_eq, iR3f, iEnu, iZp, tYesM, eMeth, appendD, extendD, popD, reverseD, dropS, eFn, toArgs, backE, aft, finF, backs, eIsi, stp, lim, ha, hb, pick_eq, hm1, hm2, hp, a1, a2, i1, i2, e1, tab_length, tab_set, sw_upd]
    obtain ⟨q', s', a', b', e, P'⟩ := simple_loop h2 h8 sh (w := w) (q := pR q 60) (s := sw p s) (a := .dat (.int k)) (b := .dat (.int (1 + (p : Int)))) (P.sw hpm) rfl rfl
    refine ⟨q', s', a', b', ?_, P'⟩
    show forL (gNm 4) b__law_simple_1 (D.int k :: mi w) _ = _
    rw [forL_stp, st]
    exact e
theorem simple_ok (q : Pool) {m : Nat} (h1 : 1 ≤ m) (h8 : m ≤ 8) : ∃ (s : Sq) (q' : Pool), f__law_simple [.own (.lst q.1), .dat (.int m)] = .ok (.new (.lst (mi (tab m s)))) [.lst q'.1] ∧ Prm m s := by
  have hv := pV_rg q (m := 6) (by omega)
  have z4 : (m : Int) ≤ 16777216 := by omega
  have z5 : -(4611686018427387904 : Int) ≤ m := by omega
  have hr : mi (rg 0 m) = mi (tab m fun k => (k : Int)) := by rw [rg_eq_tab]
  have hrv : mi (tab m fun k => (k : Int)).reverse = mi (tab m fun k => ((m - 1 - k : Nat) : Int)) := by rw [← rg_eq_tab, rev_tab]
  unfold f__law_simple
  rw [runF_eq (by rfl) (by rfl)]
  by_cases c : pV q 6 < 3
  · obtain ⟨s, q', e, P⟩ := shuffled_ok (pR q 6) h8
    refine ⟨s, q', ?_, P⟩
    simp [m__law_simple, sSeq, sSet, sOwn, sAli, sAsg, sRet, sRetN, sIf, sPass, sExpr, sFor, sPar, sPar3, sParO, sParO3, eFnX, lendM, lends, lendD, lendR, atomD, keepO, slotOf, sOwn2, eFrz, tvT, truD, sortedD, insertD, eOp2, eOp1, eName, eD, ixD, setS_nw, setS_own, nwAt, noOwn_nw, peek_pl, gSb, gNm, gTp, gCs, gNl, getP, putP, addD, subD, mulD, modD, fdivD, powD, ltD, leD, gtD, geD, isD, isnotD, D.isN, negD, tvB, tvNot, tvAnd, tvOr, evT, evAnd, evOr, evNot, evIf, evChain, eCall, aCons, aNil, peeks, dats, lenD, intD, listD, tupleD, eTup, eLst, eSl, oNone, oSome, slD, revD, eLr1, eLr2, iSeq, iR1_eq, iR1f, iR2_eq, iR2f, iR3_eq, iR3f, iEnu, iZp, tYesM, eMeth, appendD, extendD, popD, reverseD, dropS, eFn, toArgs, backE, aft, finF, backs, eIsi, stp, lim, pick_eq, z4, z5, c, e]
  · have c' : ¬ pV q 6 < 3 := c
    have eC : ∃ s0, Prm m s0 ∧ sIf (tvB (eOp2 true eqD (eName 2) (eD (.int 5)))) (sOwn 3 (eOp1 revD (eName 3))) sPass [.own (.lst (pR q 6).1), .dat (.int m), .dat (.int (pV q 6)), .own (.lst (mi (tab m fun k => (k : Int)))), .un, .un] = .nx [.own (.lst (pR q 6).1), .dat (.int m), .dat (.int (pV q 6)), .own (.lst (mi (tab m s0))), .un, .un] := by
      by_cases c5 : pV q 6 = 5
      · exact ⟨_, prm_rev m, by simp [sSeq, sSet, sOwn, sAli, sAsg, sRet, sRetN, sIf, sPass, sExpr, sFor, sPar, sPar3, sParO, sParO3, eFnX, lendM, lends, lendD, lendR, atomD, keepO, slotOf, sOwn2, eFrz, tvT, truD, sortedD, insertD, eOp2, eOp1, eName, eD, ixD, setS_nw, setS_own, nwAt, noOwn_nw, peek_pl, gSb, gNm, gTp, gCs, gNl, getP, putP, addD, subD, mulD, modD, fdivD, powD, ltD, leD, gtD, geD, isD, isnotD, D.isN, negD, tvB, tvNot, tvAnd, tvOr, evT, evAnd, evOr, evNot, evIf, evChain, eCall, aCons, aNil, peeks, dats, lenD, intD, listD, tupleD, eTup, eLst, eSl, oNone, oSome, slD, revD, eLr1, eLr2, iSeq, iR1_eq, iR1f, iR2_eq, iR2f, iR3_eq, iR3f, iEnu, iZp, tYesM, eMeth, appendD, extendD, popD, reverseD, dropS, eFn, toArgs, backE, aft, finF, backs, eIsi, stp, lim, eq_true c5, hrv]⟩
      · exact ⟨_, prm_id m, by simp [sSeq, sSet, sOwn, sAli, sAsg, sRet, sRetN, sIf, sPass, sExpr, sFor, sPar, sPar3, sParO, sParO3, eFnX, lendM, lends, lendD, lendR, atomD, keepO, slotOf, sOwn2, eFrz, tvT, truD, sortedD, insertD, eOp2, eOp1, eName, eD, ixD, setS_nw, setS_own, nwAt, noOwn_nw, peek_pl, gSb, gNm, gTp, gCs, gNl, getP, putP, addD, subD, mulD, modD, fdivD, powD, ltD, leD, gtD, geD, isD, isnotD, D.isN, negD, tvB, tvNot, tvAnd, tvOr, evT, evAnd, evOr, evNot, evIf, evChain, eCall, aCons, aNil, peeks, dats, lenD, intD, listD, tupleD, eTup, eLst, eSl, oNone, oSome, slD, revD, eLr1, eLr2, iSeq, iR1_eq, iR1f, iR2_eq, iR2f, iR3_eq, iR3f, iEnu, iZp, tYesM, eMeth, appendD, extendD, popD, reverseD, dropS, eFn, toArgs, backE, aft, finF, backs, eIsi, stp, lim, c5]⟩
    obtain ⟨s0, P0, eC⟩ := eC
    have hv5 := pV_rg (pR q 6) (m := 5) (by omega)
    have hsm : smI (pV (pR q 6) 5) = true := smI_nat (by omega) (by omega)
    have hbb : -18446744073709551616 < pV (pR q 6) 5 ∧ pV (pR q 6) 5 < 18446744073709551616 := by omega
    have eF : ∃ (s : Sq) (q' : Pool) (a b : S), Prm m s ∧ sFor (iR1 (aCons true (eOp2 true mulD (eFn 2 f__law_pick (aCons true (eName 0) (aCons true (eD (.int 5)) aNil))) (eCall intD (aCons true (eOp2 true gtD (eName 1) (eD (.int 1))) aNil))) aNil)) (gNm 4) b__law_simple_1 [.own (.lst (pR q 6).1), .dat (.int m), .dat (.int (pV q 6)), .own (.lst (mi (tab m s0))), .un, .un] = .nx [.own (.lst q'.1), .dat (.int m), .dat (.int (pV q 6)), .own (.lst (mi (tab m s))), a, b] := by
      by_cases h2 : 2 ≤ m
      · obtain ⟨q', s', a', b', e, P'⟩ := simple_loop h2 h8 (.int (pV q 6)) (w := rg 0 (pV (pR q 6) 5).toNat) (q := pR (pR q 6) 5) (s := s0) (a := .un) (b := .un) P0 rfl rfl
        refine ⟨s', q', a', b', P', ?_⟩
        have hm2 : (1 : Int) < m := by omega
        simp [sSeq, sSet, sOwn, sAli, sAsg, sRet, sRetN, sIf, sPass, sExpr, sFor, sPar, sPar3, sParO, sParO3, eFnX, lendM, lends, lendD, lendR, atomD, keepO, slotOf, sOwn2, eFrz, tvT, truD, sortedD, insertD, eOp2, eOp1, eName, eD, ixD, setS_nw, setS_own, nwAt, noOwn_nw, peek_pl, gSb, gNm, gTp, gCs, gNl, getP, putP, addD, subD, mulD, modD, fdivD, powD, ltD, leD, gtD, geD, isD, isnotD, D.isN, negD, tvB, tvNot, tvAnd, tvOr, evT, evAnd, evOr, evNot, evIf, evChain, eCall, aCons, aNil, peeks, dats, lenD, intD, listD, tupleD, eTup, eLst, eSl, oNone, oSome, slD, revD, eLr1, eLr2, iSeq, iR1_eq, iR1f, iR2_eq, iR2f, iR3_eq, iR3f, iEnu, iZp, tYesM, eMeth, appendD, extendD, popD, reverseD, dropS, eFn, toArgs, backE, aft, finF, backs, eIsi, stp, lim, pick_eq, hm2, hbb, hsm, e]
      · have : m = 1 := by omega
        have hm2 : ¬ ((1 : Int) < m) := by omega
        refine ⟨s0, pR (pR q 6) 5, .un, .un, P0, ?_⟩
        simp [sSeq, sSet, sOwn, sAli, sAsg, sRet, sRetN, sIf, sPass, sExpr, sFor, sPar, sPar3, sParO, sParO3, eFnX, lendM, lends, lendD, lendR, atomD, keepO, slotOf, sOwn2, eFrz, tvT, truD, sortedD, insertD, eOp2, eOp1, eName, eD, ixD, setS_nw, setS_own, nwAt, noOwn_nw, peek_pl, gSb, gNm, gTp, gCs, gNl, getP, putP, addD, subD, mulD, modD, fdivD, powD, ltD, leD, gtD, geD, isD, isnotD, D.isN, negD, tvB, tvNot, tvAnd, tvOr, evT, evAnd, evOr, evNot, evIf, evChain, eCall, aCons, aNil, peeks, dats, lenD, intD, listD, tupleD, eTup, eLst, eSl, oNone, oSome, slD, revD, eLr1, eLr2, iSeq, iR1_eq, iR1f, iR2_eq, iR2f, iR3_eq, iR3f, iEnu, iZp, tYesM, eMeth, appendD, extendD, popD, reverseD, dropS, eFn, toArgs, backE, aft, finF, backs, eIsi, stp, lim, pick_eq, hm2]
        rfl
    obtain ⟨s, q', a, b, P, eF⟩ := eF
    refine ⟨s, q', ?_, P⟩
    have r : m__law_simple [.own (.lst q.1), .dat (.int m), .un, .un, .un, .un] = .rt (.new (.lst (mi (tab m s)))) (dropS 3 [.own (.lst q'.1), .dat (.int m), .dat (.int (pV q 6)), .own (.lst (mi (tab m s))), a, b]) := by
      unfold m__law_simple
      refine (sSeq_nx [.own (.lst (pR q 6).1), .dat (.int m), .dat (.int (pV q 6)), .own (.lst (mi (tab m fun k => (k : Int)))), .un, .un] ?_).trans ?_
      · simp [sSeq, sSet, sOwn, sAli, sAsg, sRet, sRetN, sIf, sPass, sExpr, sFor, sPar, sPar3, sParO, sParO3, eFnX, lendM, lends, lendD, lendR, atomD, keepO, slotOf, sOwn2, eFrz, tvT, truD, sortedD, insertD, eOp2, eOp1, eName, eD, ixD, setS_nw, setS_own, nwAt, noOwn_nw, peek_pl, gSb, gNm, gTp, gCs, gNl, getP, putP, addD, subD, mulD, modD, fdivD, powD, ltD, leD, gtD, geD, isD, isnotD, D.isN, negD, tvB, tvNot, tvAnd, tvOr, evT, evAnd, evOr, evNot, evIf, evChain, eCall, aCons, aNil, peeks, dats, lenD, intD, listD, tupleD, eTup, eLst, eSl, oNone, oSome, slD, revD, eLr1, eLr2, iSeq, iR1_eq, iR1f, iR2_eq, iR2f, iR3_eq, iR3f, iEnu, iZp, tYesM, eMeth, appendD, extendD, popD, reverseD, dropS, eFn, toArgs, backE, aft, finF, backs, eIsi, stp, lim, pick_eq, z4, z5, hr]
      refine (sSeq_nx [.own (.lst (pR q 6).1), .dat (.int m), .dat (.int (pV q 6)), .own (.lst (mi (tab m fun k => (k : Int)))), .un, .un] ?_).trans ?_
      · simp [sSeq, sSet, sOwn, sAli, sAsg, sRet, sRetN, sIf, sPass, sExpr, sFor, sPar, sPar3, sParO, sParO3, eFnX, lendM, lends, lendD, lendR, atomD, keepO, slotOf, sOwn2, eFrz, tvT, truD, sortedD, insertD, eOp2, eOp1, eName, eD, ixD, setS_nw, setS_own, nwAt, noOwn_nw, peek_pl, gSb, gNm, gTp, gCs, gNl, getP, putP, addD, subD, mulD, modD, fdivD, powD, ltD, leD, gtD, geD, isD, isnotD, D.isN, negD, tvB, tvNot, tvAnd, tvOr, evT, evAnd, evOr, evNot, evIf, evChain, eCall, aCons, aNil, peeks, dats, lenD, intD, listD, tupleD, eTup, eLst, eSl, oNone, oSome, slD, revD, eLr1, eLr2, iSeq, iR1_eq, iR1f, iR2_eq, iR2f, iR3_eq, iR3f, iEnu, iZp, tYesM, eMeth, appendD, extendD, popD, reverseD, dropS, eFn, toArgs, backE, aft, finF, backs, eIsi, stp, lim, c]
      refine (sSeq_nx _ eC).trans ?_
      refine (sSeq_nx _ eF).trans ?_
      simp [sSeq, sSet, sOwn, sAli, sAsg, sRet, sRetN, sIf, sPass, sExpr, sFor, sPar, sPar3, sParO, sParO3, eFnX, lendM, lends, lendD, lendR, atomD, keepO, slotOf, sOwn2, eFrz, tvT, truD, sortedD, insertD, eOp2, eOp1, eName, eD, ixD, setS_nw, setS_own, nwAt, noOwn_nw, peek_pl, gSb, gNm, gTp, gCs, gNl, getP, putP, addD, subD, mulD, modD, fdivD, powD, ltD, leD, gtD, geD, isD, isnotD, D.isN, negD, tvB, tvNot, tvAnd, tvOr, evT, evAnd, evOr, evNot, evIf, evChain, eCall, aCons, aNil, peeks, dats, lenD, intD, listD, tupleD, eTup, eLst, eSl, oNone, oSome, slD, revD, eLr1, eLr2, iSeq, iR1_eq, iR1f, iR2_eq, iR2f, iR3_eq, iR3f, iEnu, iZp, tYesM, eMeth, appendD, extendD, popD, reverseD, dropS, eFn, toArgs, backE, aft, finF, backs, eIsi, stp, lim]
    show (match m__law_simple [.own (.lst q.1), .dat (.int m), .un, .un, .un, .un] with | .nx e => _ | .rt r e => _ | .ex x e => _ | _ => _) = _
    rw [r]
    simp [sSeq, sSet, sOwn, sAli, sAsg, sRet, sRetN, sIf, sPass, sExpr, sFor, sPar, sPar3, sParO, sParO3, eFnX, lendM, lends, lendD, lendR, atomD, keepO, slotOf, sOwn2, eFrz, tvT, truD, sortedD, insertD, eOp2, eOp1, eName, eD, ixD, setS_nw, setS_own, nwAt, noOwn_nw, peek_pl, gSb, gNm, gTp, gCs, gNl, getP, putP, addD, subD, mulD, modD, fdivD, powD, ltD, leD, gtD, geD, isD, isnotD, D.isN, negD, tvB, tvNot, tvAnd, tvOr, evT, evAnd, evOr, evNot, evIf, evChain, eCall, aCons, aNil, peeks, dats, lenD, intD, listD, tupleD, eTup, eLst, eSl, oNone, oSome, slD, revD, eLr1, eLr2, iSeq, iR1_eq, iR1f, iR2_eq, iR2f, iR3_eq, iR3f, iEnu, iZp, tYesM, eMeth, appendD, extendD, popD, reverseD, dropS, eFn, toArgs, backE, aft, finF, backs, eIsi, stp, lim]
/-! the law -/
structure Row where
  m : Nat
  s : Sq
  h1 : 1 ≤ m
  h8 : m ≤ 8
  P : Prm m s
def Row.d (r : Row) : D := .tup [.int r.m, .lst (mi (tab r.m r.s))]
end Law
namespace Law
open PySem DL Bm
/-! products, backs and rests of turnings -/
def tri : Nat → Nat
  | 0 => 0
  | m + 1 => tri m + m
theorem cnt_not (f : Nat → Bool) : ∀ k, cnt f k + cnt (fun j => !f j) k = k
  | 0 => rfl
  | k + 1 => by
    have := cnt_not f k
    simp only [cnt]
    by_cases c : f k = true
    · simp [c]; omega
    · simp [c]; omega
def opp (m : Nat) (s : Sq) : Sq := fun k => (m : Int) - 1 - s k
theorem prm_opp {m : Nat} {s : Sq} (P : Prm m s) : Prm m (opp m s) := ⟨fun k hk => by have := P.lo k hk; unfold opp; omega, fun j k hj hk e => P.inj j k hj hk (by unfold opp at e; omega)⟩
theorem inv_opp {m : Nat} {s : Sq} (M : Nat) : ∀ {k : Nat}, k ≤ m → Prm m s → inv (opp M s) k + inv s k = tri k
  | 0, _, _ => rfl
  | k + 1, hk, P => by
    have ih := inv_opp M (k := k) (by omega) P
    have e : cnt (fun p => decide (opp M s k < opp M s p)) k = cnt (fun j => !decide (s k < s j)) k := cnt_congr fun j hj => by
      have h1 := P.inj j k (by omega) (by omega)
      unfold opp
      by_cases c : s k < s j
      · simp [c]; omega
      · simp [c]
        by_cases c2 : s j = s k
        · have := h1 c2; omega
        · omega
    have := cnt_not (fun j => decide (s k < s j)) k
    simp only [inv, tri]
    rw [e]
    omega
theorem tri_le : ∀ {m : Nat}, m ≤ 8 → tri m ≤ 28 := by decide
theorem inv_le_tri {m : Nat} {s : Sq} (P : Prm m s) : inv s m ≤ tri m := by have := inv_opp m (Nat.le_refl m) P; omega
/-- the turning back of a turning with two neighbours exchanged -/
theorem bk_uniq {m : Nat} {s : Sq} (P : Prm m s) {b : Sq} (h : ∀ i, i < m → b (s i).toNat = i) : ∀ k, k < m → bk s m k = b k := fun k hk => by
  obtain ⟨_, h2⟩ := prm_bk P
  obtain ⟨PB, _⟩ := prm_bk P
  have h3 := h2 k hk
  have h4 := PB.lo k hk
  have h5 := h (bk s m k).toNat (by omega)
  rw [h3] at h5
  have t : ((k : Nat) : Int).toNat = k := by omega
  rw [t] at h5
  rw [h5]; omega
theorem bk_sw {m p : Nat} {s : Sq} (P : Prm m s) (hp : p + 1 < m) : ∀ k, k < m → bk (sw p s) m k = vs p (bk s m) k := by
  refine bk_uniq (P.sw hp) fun i hi => ?_
  obtain ⟨j, hj, e, c⟩ := sw_at s hp hi
  rw [e]
  have := bk_at P (k := m) (Nat.le_refl _) j hj
  unfold vs
  rw [this]
  rcases c with ⟨c1, c2⟩ | ⟨c1, c2⟩ | ⟨c1, c2, c3⟩
  · rw [if_neg (by omega), if_pos (by omega)]; omega
  · rw [if_pos (by omega)]; omega
  · rw [if_neg (by omega), if_neg (by omega)]; omega
theorem bk_pos {m : Nat} {s : Sq} (P : Prm m s) {a b : Nat} (ha : a < m) (h : bk s m a = (b : Int)) : s b = a := by
  obtain ⟨_, h2⟩ := prm_bk P
  have := h2 a ha
  rw [h] at this
  simpa using this
theorem inv_bk {m : Nat} : ∀ {k : Nat} {s : Sq}, Prm m s → inv s m = k → inv (bk s m) m = k := by
  intro k
  induction k with
  | zero =>
    intro s P h
    rcases dsc_cases m s with c | ⟨p, r, c⟩
    · have id := asc_id P (dsc_nil c)
      have : ∀ k, k < m → bk s m k = ((k : Nat) : Int) := bk_uniq P fun i hi => by rw [id i hi]; simp
      rw [inv_congr this]
      exact inv_zero fun p hp => by omega
    · obtain ⟨h1, h2, _⟩ := dsc_cons c
      have := inv_sw h2 h1
      omega
  | succ k ih =>
    intro s P h
    rcases dsc_cases m s with c | ⟨p, r, c⟩
    · rw [inv_zero (dsc_nil c)] at h; omega
    · obtain ⟨h1, h2, _⟩ := dsc_cons c
      have hi := inv_sw h2 h1
      have ih' := ih (P.sw h1) (by omega)
      rw [inv_congr (bk_sw P h1)] at ih'
      obtain ⟨PB, _⟩ := prm_bk P
      have he := (ends_ok PB (v := (p : Int)) (by omega) (by omega) fun a b ha hb ea eb => by
        have e1 := bk_pos P ha ea
        have e2 := bk_pos P (b := p + 1) hb (by rw [eb]; omega)
        omega).2
      rw [List.length_append, List.length_singleton, W_length rfl] at he
      omega
def rev (m : Nat) (s : Sq) : Sq := fun k => s (m - 1 - k)
theorem prm_rev' {m : Nat} {s : Sq} (P : Prm m s) : Prm m (rev m s) := ⟨fun k hk => P.lo _ (by omega), fun j k hj hk e => by have := P.inj _ _ (by omega) (by omega) e; omega⟩
theorem bk_rev {m : Nat} {s : Sq} (P : Prm m s) : ∀ k, k < m → bk (rev m s) m k = opp m (bk s m) k := by
  refine bk_uniq (prm_rev' P) fun i hi => ?_
  unfold rev opp
  have := bk_at P (k := m) (Nat.le_refl _) (m - 1 - i) (by omega)
  rw [this]; omega
theorem inv_rev {m : Nat} {s : Sq} (P : Prm m s) : inv (rev m s) m + inv s m = tri m := by
  obtain ⟨PB, _⟩ := prm_bk P
  have h1 := inv_bk (prm_rev' P) rfl
  rw [inv_congr (bk_rev P)] at h1
  have h2 := inv_opp m (Nat.le_refl m) PB
  have h3 := inv_bk P rfl
  omega
/-- one, then another one -/
def cmps (s t : Sq) : Sq := fun k => t (s k).toNat
theorem prm_cmps {m : Nat} {s t : Sq} (P : Prm m s) (R : Prm m t) : Prm m (cmps s t) := ⟨fun k hk => R.lo _ (by have := P.lo k hk; omega), fun j k hj hk e => by
  have h1 := P.lo j hj
  have h2 := P.lo k hk
  have := R.inj _ _ (by omega) (by omega) e
  exact P.inj j k hj hk (by omega)⟩
def idT : Sq := fun k => (k : Int)
theorem prm_idT (m : Nat) : Prm m idT := ⟨fun k hk => by unfold idT; omega, fun j k hj hk e => by unfold idT at e; omega⟩
theorem inv_idT (m : Nat) : inv idT m = 0 := inv_zero fun p hp => by unfold idT; omega
def half (m : Nat) : Sq := opp m idT
theorem inv_half (m : Nat) : inv (half m) m = tri m := by have := inv_opp m (Nat.le_refl m) (prm_idT m); rw [inv_idT] at this; exact this
theorem inv_letter {m p : Nat} (hp : p + 1 < m) : inv (sw p idT) m = 1 := by
  have h := inv_sw (s := sw p idT) (p := p) (by rw [sw_p, sw_q]; unfold idT; omega) hp
  rw [sw_sw, inv_idT] at h
  exact h.symm
theorem cmps_letter {m p : Nat} {s : Sq} (P : Prm m s) (hp : p + 1 < m) : ∀ k, k < m → cmps s (sw p idT) k = vs p s k := fun k hk => by
  have := P.lo k hk
  unfold cmps sw vs idT
  by_cases c1 : s k = (p : Int)
  · rw [if_pos (by omega), if_pos c1]; omega
  · by_cases c2 : s k = (p : Int) + 1
    · rw [if_neg (by omega), if_pos (by omega), if_neg c1, if_pos c2]
    · rw [if_neg (by omega), if_neg (by omega), if_neg c1, if_neg c2]; omega
theorem inv_fall {m p : Nat} {s : Sq} (P : Prm m s) (hp : p + 1 < m) (h : bk s m (p + 1) < bk s m p) : inv (vs p s) m + 1 = inv s m := by
  have he := (ends_ok P (v := (p : Int)) (by omega) (by omega) fun a b ha hb ea eb => by
    have k1 := bk_at P (k := m) (Nat.le_refl _) a ha
    have k2 := bk_at P (k := m) (Nat.le_refl _) b hb
    rw [ea] at k1
    rw [eb] at k2
    have t1 : ((p : Nat) : Int).toNat = p := by omega
    have t2 : ((p : Nat) + 1 : Int).toNat = p + 1 := by omega
    rw [t1] at k1
    rw [t2] at k2
    omega).2
  rw [List.length_append, List.length_singleton, W_length rfl] at he
  exact he
theorem vs_vs (v : Int) (s : Sq) : vs v (vs v s) = s := by
  funext k
  simp only [vs]
  repeat' split
  all_goals omega
theorem bk_vs {m p : Nat} {s : Sq} (P : Prm m s) (hp : p + 1 < m) : ∀ k, k < m → bk (vs p s) m k = sw p (bk s m) k := by
  refine bk_uniq (P.vs (by omega) (by omega)) fun i hi => ?_
  have h1 := P.lo i hi
  have h2 := bk_at P (k := m) (Nat.le_refl _) i hi
  unfold vs
  by_cases c1 : s i = (p : Int)
  · rw [if_pos c1]
    have t : ((p : Int) + 1).toNat = p + 1 := by omega
    rw [t, sw_q, ← h2, c1]; simp
  · by_cases c2 : s i = (p : Int) + 1
    · rw [if_neg c1, if_pos c2]
      have t : ((p : Int)).toNat = p := by omega
      have t2 : ((p : Int) + 1).toNat = p + 1 := by omega
      rw [t, sw_p, ← h2, c2, t2]
    · rw [if_neg c1, if_neg c2, sw_o _ (by omega) (by omega), h2]
theorem inv_rise {m p : Nat} {s : Sq} (P : Prm m s) (hp : p + 1 < m) (h : bk s m p < bk s m (p + 1)) : inv (vs p s) m = inv s m + 1 := by
  have := inv_fall (P.vs (v := (p : Int)) (by omega) (by omega)) hp (by
    rw [bk_vs P hp _ hp, bk_vs P hp p (by omega), sw_p, sw_q]; exact h)
  rw [vs_vs] at this
  exact this.symm
/-- what falls everywhere is the half turn -/
theorem no_rise {m : Nat} {s : Sq} (P : Prm m s) (h : ∀ p, p + 1 < m → ¬ bk s m p < bk s m (p + 1)) : ∀ k, k < m → s k = half m k := by
  obtain ⟨PB, hb⟩ := prm_bk P
  have id := asc_id (prm_opp PB) fun p hp => by have := h p hp; unfold opp; omega
  intro k hk
  have e := id (m - 1 - k) (by omega)
  unfold opp at e
  have e2 : bk s m (m - 1 - k) = (k : Int) := by omega
  have := bk_pos P (by omega) e2
  rw [this]
  unfold half opp idT
  omega
theorem rest_half {m : Nat} {s : Sq} (P : Prm m s) : (∀ k, k < m → cmps s (opp m (bk s m)) k = half m k) ∧ inv (cmps s (opp m (bk s m))) m = inv s m + inv (opp m (bk s m)) m := by
  have e : ∀ k, k < m → cmps s (opp m (bk s m)) k = half m k := fun k hk => by
    have := bk_at P (k := m) (Nat.le_refl _) k hk
    unfold cmps opp half opp idT
    rw [this]
  refine ⟨e, ?_⟩
  rw [inv_congr e, inv_half]
  obtain ⟨PB, _⟩ := prm_bk P
  have h1 := inv_opp m (Nat.le_refl m) PB
  have h2 := inv_bk P rfl
  omega
theorem fore_half {m : Nat} {s : Sq} (P : Prm m s) : (∀ k, k < m → cmps (rev m (bk s m)) s k = half m k) ∧ inv (cmps (rev m (bk s m)) s) m = inv (rev m (bk s m)) m + inv s m := by
  obtain ⟨PB, hb⟩ := prm_bk P
  have e : ∀ k, k < m → cmps (rev m (bk s m)) s k = half m k := fun k hk => by
    have := hb (m - 1 - k) (by omega)
    unfold cmps rev half opp idT
    rw [this]; omega
  refine ⟨e, ?_⟩
  rw [inv_congr e, inv_half]
  have h1 := inv_rev PB
  have h2 := inv_bk P rfl
  omega
def abt (m : Nat) (s : Sq) : Sq := opp m (rev m s)
theorem half_about {m : Nat} {s : Sq} (P : Prm m s) : ∀ k, k < m → cmps s (half m) k = cmps (half m) (abt m s) k := fun k hk => by
  have := P.lo k hk
  unfold cmps half abt opp rev idT
  have e : m - 1 - ((m : Int) - 1 - (k : Int)).toNat = k := by omega
  rw [e]; omega
theorem abt_abt {m : Nat} {s : Sq} : ∀ k, k < m → abt m (abt m s) k = s k := fun k hk => by
  have e : m - 1 - (m - 1 - k) = k := by omega
  show (m : Int) - 1 - ((m : Int) - 1 - s (m - 1 - (m - 1 - k))) = s k
  rw [e]; omega
theorem rest_fore {m : Nat} {s : Sq} (P : Prm m s) : ∀ k, k < m → rev m (bk (opp m (bk s m)) m) k = s k := fun k hk => by
  obtain ⟨PB, hb⟩ := prm_bk P
  unfold rev
  have q := bk_uniq (prm_opp PB) (b := fun j => s (m - 1 - j)) (fun i hi => by
    have h1 := PB.lo i hi
    show s (m - 1 - (opp m (bk s m) i).toNat) = i
    unfold opp
    have e : m - 1 - ((m : Int) - 1 - bk s m i).toNat = (bk s m i).toNat := by omega
    rw [e, hb i hi]) (m - 1 - k) (by omega)
  rw [q]
  have e : m - 1 - (m - 1 - k) = k := by omega
  simp only [e]
theorem fore_rest' {m : Nat} {s : Sq} (P : Prm m s) : ∀ k, k < m → opp m (bk (rev m (bk s m)) m) k = s k := fun k hk => by
  obtain ⟨PB, hb⟩ := prm_bk P
  have h1 := bk_rev PB k hk
  unfold opp
  rw [h1]
  have h2 := bk_uniq PB (b := s) (fun i hi => hb i hi) k hk
  unfold opp
  rw [h2]; omega
theorem rest_rest {m : Nat} {s : Sq} (P : Prm m s) : ∀ k, k < m → opp m (bk (opp m (bk s m)) m) k = abt m s k := fun k hk => by
  have := rest_fore P (m - 1 - k) (by omega)
  unfold rev at this
  have e : m - 1 - (m - 1 - k) = k := by omega
  rw [e] at this
  unfold opp abt opp rev
  unfold opp at this
  rw [this]
end Law
namespace Law
open PySem DL Mir Bm
theorem turning_loop {m : Nat} (h8 : m ≤ 8) (w0 : List Int) : ∀ {w : List Int} {t : Sq} {a b : S}, Lw m w → Pl a = true → Pl b = true →
    ∃ a' b', forL (gNm 4) b__law_turning_2 (mi w) [.dat (.int m), .dat (.lst (mi w0)), .own (.lst (mi (tab m t))), .own (.lst (mi (tab m fun _ => 0))), a, b] =
      .nx [.dat (.int m), .dat (.lst (mi w0)), .own (.lst (mi (tab m (sws w t)))), .own (.lst (mi (tab m fun _ => 0))), a', b'] ∧ Pl a' = true ∧ Pl b' = true
  | [], t, a, b, _, ha, hb => ⟨a, b, rfl, ha, hb⟩
  | l :: w, t, a, b, hw, ha, hb => by
    have hlt := hw l List.mem_cons_self
    unfold Ltr at hlt
    obtain ⟨p, hp⟩ : ∃ p : Nat, l.natAbs = p + 1 := ⟨l.natAbs - 1, by omega⟩
    have hpm : p + 1 < m := by omega
    have hp' : ((l.natAbs : Nat) : Int) = (p : Int) + 1 := by omega
    have a1 : L2.atI (tab m t) ((p : Int) + 1 - 1) = some (t p) := tab_at (by omega) (by omega)
    have a2 : L2.atI (tab m t) ((p : Int) + 1) = some (t (p + 1)) := tab_at (by omega) (by omega)
    have i1 : L2.ixN m ((p : Int) + 1 - 1) = some p := by simpa [tab_length] using tab_ix (s := t) (m := m) (i := (p : Int) + 1 - 1) (p := p) (by omega) (by omega)
    have i2 : L2.ixN m ((p : Int) + 1) = some (p + 1) := by simpa [tab_length] using tab_ix (s := t) (m := m) (i := (p : Int) + 1) (p := p + 1) (by omega) (by omega)
    simp only [Int.add_sub_cancel] at a1 i1
    have st : stp (gNm 4) b__law_turning_2 (.int l) [.dat (.int m), .dat (.lst (mi w0)), .own (.lst (mi (tab m t))), .own (.lst (mi (tab m fun _ => 0))), a, b] = .nx [.dat (.int m), .dat (.lst (mi w0)), .own (.lst (mi (tab m (sw p t)))), .own (.lst (mi (tab m fun _ => 0))), .dat (.int l), .dat (.int ((p : Int) + 1))] := by
      simp [b__law_turning_2, sSeq, sSet, sOwn, sAli, sAsg, sRet, sRetN, sIf, sPass, sExpr, sFor, sPar, sPar3, sParO, sParO3, eFnX, lendM, lends, lendD, lendR, atomD, keepO, slotOf, sOwn2, eFrz, tvT, truD, sortedD, insertD, eOp2, eOp1, eName, eD, ixD, setS_nw, setS_own, nwAt, noOwn_nw, peek_pl, gSb, gNm, gTp, gCs, gNl, getP, putP, addD, subD, mulD, modD, fdivD, powD, ltD, leD, gtD, geD, isD, isnotD, D.isN, negD, tvB, tvNot, tvAnd, tvOr, evT, evAnd, evOr, evNot, evIf, evChain, eCall, aCons, aNil, peeks, dats, lenD, intD, listD, tupleD, eTup, eLst, eSl, oNone, oSome, slD, revD, eLr1, eLr2, iSeq, iR1_eq, iR1f, iR2_eq, iR2f, iR3_eq, iR3f, iEnu, iZp, tYesM, eMeth, appendD, extendD, popD, reverseD, dropS, eFn, toArgs, backE, aft, finF, backs, eIsi, stp, lim, ha, hb, hp', a1, a2, i1, i2, tab_length, tab_set, sw_upd]
    obtain ⟨a', b', e, ha', hb'⟩ := turning_loop h8 w0 (w := w) (t := sw p t) (a := .dat (.int l)) (b := .dat (.int ((p : Int) + 1))) (fun x hx => hw x (List.mem_cons_of_mem _ hx)) rfl rfl
    refine ⟨a', b', ?_, ha', hb'⟩
    show forL (gNm 4) b__law_turning_2 (D.int l :: mi w) _ = _
    rw [forL_stp, st]
    simp only
    rw [e]
    have : sws (l :: w) t = sws w (sw p t) := by
      show sws w (sw (l.natAbs - 1) t) = _
      rw [hp]; rfl
    rw [this]
theorem prm_sws {m : Nat} : ∀ {w : List Int} {t : Sq}, Lw m w → Prm m t → Prm m (sws w t)
  | [], _, _, P => P
  | l :: w, t, hw, P => by
    have hlt := hw l List.mem_cons_self
    unfold Ltr at hlt
    exact prm_sws (w := w) (fun x hx => hw x (List.mem_cons_of_mem _ hx)) (P.sw (p := l.natAbs - 1) (by omega))
/-- the turning of a word -/
def trnT (m : Nat) (w : List Int) : Sq := bk (sws w idT) m
theorem prm_trnT {m : Nat} {w : List Int} (hw : Lw m w) : Prm m (trnT m w) := (prm_bk (prm_sws hw (prm_idT m))).1
theorem turning_ok {m : Nat} {w : List Int} (h8 : m ≤ 8) (hw : Lw m w) : f__law_turning [.dat (.int m), .dat (.lst (mi w))] = .ok (.new (.lst (mi (tab m (trnT m w))))) [] := by
  have P := prm_sws hw (prm_idT m)
  obtain ⟨a, b, e, ha, hb⟩ := turning_loop h8 w (t := idT) (a := .un) (b := .un) hw rfl rfl
  unfold trnT
  generalize hT : sws w idT = T at *
  obtain ⟨⟨b2, k⟩, e2, hb2, hk⟩ := forL_rg (gm := gNm 5) (body := b__law_turning_1) (m := m) (fun (x : S × Nat) => [.dat (.int m), .dat (.lst (mi w)), .own (.lst (mi (tab m T))), .own (.lst (mi (tab m (bk T x.2)))), a, x.1])
    (fun i x => Pl x.1 = true ∧ x.2 = i) (fun q ⟨b, k⟩ hq ⟨hb, hk⟩ => by
      simp only at hb hk
      subst hk
      refine ⟨(.dat (.int k), k + 1), .inl ?_, rfl, rfl⟩
      have hs := P.lo k hq
      have a2 : L2.atI (tab m T) (k : Int) = some (T k) := tab_at rfl hq
      have i1 : L2.ixN m (T k) = some (T k).toNat := by simpa [tab_length] using tab_ix (s := T) (m := m) (i := T k) (p := (T k).toNat) (by omega) (by omega)
      simp [b__law_turning_1, sSeq, sSet, sOwn, sAli, sAsg, sRet, sRetN, sIf, sPass, sExpr, sFor, sPar, sPar3, sParO, sParO3, eFnX, lendM, lends, lendD, lendR, atomD, keepO, slotOf, sOwn2, eFrz, tvT, truD, sortedD, insertD, eOp2, eOp1, eName, eD, ixD, setS_nw, setS_own, nwAt, noOwn_nw, peek_pl, gSb, gNm, gTp, gCs, gNl, getP, putP, addD, subD, mulD, modD, fdivD, powD, ltD, leD, gtD, geD, isD, isnotD, D.isN, negD, tvB, tvNot, tvAnd, tvOr, evT, evAnd, evOr, evNot, evIf, evChain, eCall, aCons, aNil, peeks, dats, lenD, intD, listD, tupleD, eTup, eLst, eSl, oNone, oSome, slD, revD, eLr1, eLr2, iSeq, iR1_eq, iR1f, iR2_eq, iR2f, iR3_eq, iR3f, iEnu, iZp, tYesM, eMeth, appendD, extendD, popD, reverseD, dropS, eFn, toArgs, backE, aft, finF, backs, eIsi, stp, lim, hb, a2, tab_length, i1, tab_set, bk]) (j := m) (i := 0) (a := (b, 0)) (by omega) ⟨hb, rfl⟩
  simp only at e2 hb2 hk
  subst hk
  have hs : smI (k : Int) = true := smI_nat (by omega) (by omega)
  have z : mi (List.replicate k (0 : Int)) = mi (tab k fun _ => 0) := by rw [zeros_tab]
  have z1 : -(9223372036854775808 : Int) ≤ k := by omega
  have z2 : (k : Int) < 9223372036854775808 := by omega
  have z3 : k ≤ 16777216 := by omega
  have z4 : (k : Int) ≤ 16777216 := by omega
  have z5 : -(4611686018427387904 : Int) ≤ k := by omega
  have hr : mi (rg 0 k) = mi (tab k idT) := by rw [rg_eq_tab]; rfl
  have hb0 : bk T 0 = fun _ => 0 := rfl
  rw [hb0] at e2
  simp only [Int.ofNat_zero] at e2
  unfold f__law_turning
  refine (runF_rt (by rfl) (by rfl) (r := .new (.lst (mi (tab k (bk T k))))) (e := dropS 3 [.dat (.int k), .dat (.lst (mi w)), .own (.lst (mi (tab k T))), .own (.lst (mi (tab k (bk T k)))), a, b2]) ?_).trans (by simp [sSeq, sSet, sOwn, sAli, sAsg, sRet, sRetN, sIf, sPass, sExpr, sFor, sPar, sPar3, sParO, sParO3, eFnX, lendM, lends, lendD, lendR, atomD, keepO, slotOf, sOwn2, eFrz, tvT, truD, sortedD, insertD, eOp2, eOp1, eName, eD, ixD, setS_nw, setS_own, nwAt, noOwn_nw, peek_pl, gSb, gNm, gTp, gCs, gNl, getP, putP, addD, subD, mulD, modD, fdivD, powD, ltD, leD, gtD, geD, isD, isnotD, D.isN, negD, tvB, tvNot, tvAnd, tvOr, evT, evAnd, evOr, evNot, evIf, evChain, eCall, aCons, aNil, peeks, dats, lenD, intD, listD, tupleD, eTup, eLst, eSl, oNone, oSome, slD, revD, eLr1, eLr2, iSeq, iR1_eq, iR1f, iR2_eq, iR2f, iR3_eq, iR3f, iEnu, iZp, tYesM, eMeth, appendD, extendD, popD, reverseD, dropS, eFn, toArgs, backE, aft, finF, backs, eIsi, stp, lim])
  show m__law_turning [.dat (.int k), .dat (.lst (mi w)), .un, .un, .un, .un] = _
  unfold m__law_turning
  refine (sSeq_nx [.dat (.int k), .dat (.lst (mi w)), .own (.lst (mi (tab k idT))), .own (.lst (mi (tab k fun _ => 0))), .un, .un] ?_).trans ?_
  · simp [sSeq, sSet, sOwn, sAli, sAsg, sRet, sRetN, sIf, sPass, sExpr, sFor, sPar, sPar3, sParO, sParO3, eFnX, lendM, lends, lendD, lendR, atomD, keepO, slotOf, sOwn2, eFrz, tvT, truD, sortedD, insertD, eOp2, eOp1, eName, eD, ixD, setS_nw, setS_own, nwAt, noOwn_nw, peek_pl, gSb, gNm, gTp, gCs, gNl, getP, putP, addD, subD, mulD, modD, fdivD, powD, ltD, leD, gtD, geD, isD, isnotD, D.isN, negD, tvB, tvNot, tvAnd, tvOr, evT, evAnd, evOr, evNot, evIf, evChain, eCall, aCons, aNil, peeks, dats, lenD, intD, listD, tupleD, eTup, eLst, eSl, oNone, oSome, slD, revD, eLr1, eLr2, iSeq, iR1_eq, iR1f, iR2_eq, iR2f, iR3_eq, iR3f, iEnu, iZp, tYesM, eMeth, appendD, extendD, popD, reverseD, dropS, eFn, toArgs, backE, aft, finF, backs, eIsi, stp, lim, z1, z2, z3, z4, z5, z, hr]
  refine (sSeq_nx [.dat (.int k), .dat (.lst (mi w)), .own (.lst (mi (tab k T))), .own (.lst (mi (tab k fun _ => 0))), a, b] ?_).trans ?_
  · simp [sSeq, sSet, sOwn, sAli, sAsg, sRet, sRetN, sIf, sPass, sExpr, sFor, sPar, sPar3, sParO, sParO3, eFnX, lendM, lends, lendD, lendR, atomD, keepO, slotOf, sOwn2, eFrz, tvT, truD, sortedD, insertD, eOp2, eOp1, eName, eD, ixD, setS_nw, setS_own, nwAt, noOwn_nw, peek_pl, gSb, gNm, gTp, gCs, gNl, getP, putP, addD, subD, mulD, modD, fdivD, powD, ltD, leD, gtD, geD, isD, isnotD, D.isN, negD, tvB, tvNot, tvAnd, tvOr, evT, evAnd, evOr, evNot, evIf, evChain, eCall, aCons, aNil, peeks, dats, lenD, intD, listD, tupleD, eTup, eLst, eSl, oNone, oSome, slD, revD, eLr1, eLr2, iSeq, iR1_eq, iR1f, iR2_eq, iR2f, iR3_eq, iR3f, iEnu, iZp, tYesM, eMeth, appendD, extendD, popD, reverseD, dropS, eFn, toArgs, backE, aft, finF, backs, eIsi, stp, lim, e]
  refine (sSeq_nx [.dat (.int k), .dat (.lst (mi w)), .own (.lst (mi (tab k T))), .own (.lst (mi (tab k (bk T k)))), a, b2] ?_).trans ?_
  · simp [sSeq, sSet, sOwn, sAli, sAsg, sRet, sRetN, sIf, sPass, sExpr, sFor, sPar, sPar3, sParO, sParO3, eFnX, lendM, lends, lendD, lendR, atomD, keepO, slotOf, sOwn2, eFrz, tvT, truD, sortedD, insertD, eOp2, eOp1, eName, eD, ixD, setS_nw, setS_own, nwAt, noOwn_nw, peek_pl, gSb, gNm, gTp, gCs, gNl, getP, putP, addD, subD, mulD, modD, fdivD, powD, ltD, leD, gtD, geD, isD, isnotD, D.isN, negD, tvB, tvNot, tvAnd, tvOr, evT, evAnd, evOr, evNot, evIf, evChain, eCall, aCons, aNil, peeks, dats, lenD, intD, listD, tupleD, eTup, eLst, eSl, oNone, oSome, slD, revD, eLr1, eLr2, iSeq, iR1_eq, iR1f, iR2_eq, iR2f, iR3_eq, iR3f, iEnu, iZp, tYesM, eMeth, appendD, extendD, popD, reverseD, dropS, eFn, toArgs, backE, aft, finF, backs, eIsi, stp, lim, hs, e2]
  · simp [sSeq, sSet, sOwn, sAli, sAsg, sRet, sRetN, sIf, sPass, sExpr, sFor, sPar, sPar3, sParO, sParO3, eFnX, lendM, lends, lendD, lendR, atomD, keepO, slotOf, sOwn2, eFrz, tvT, truD, sortedD, insertD, eOp2, eOp1, eName, eD, ixD, setS_nw, setS_own, nwAt, noOwn_nw, peek_pl, gSb, gNm, gTp, gCs, gNl, getP, putP, addD, subD, mulD, modD, fdivD, powD, ltD, leD, gtD, geD, isD, isnotD, D.isN, negD, tvB, tvNot, tvAnd, tvOr, evT, evAnd, evOr, evNot, evIf, evChain, eCall, aCons, aNil, peeks, dats, lenD, intD, listD, tupleD, eTup, eLst, eSl, oNone, oSome, slD, revD, eLr1, eLr2, iSeq, iR1_eq, iR1f, iR2_eq, iR2f, iR3_eq, iR3f, iEnu, iZp, tYesM, eMeth, appendD, extendD, popD, reverseD, dropS, eFn, toArgs, backE, aft, finF, backs, eIsi, stp, lim]
end Law
namespace Law
open PySem DL Bm
/-! cuts -/
theorem cut_lo (w : List Int) {k : Int} (h : 0 ≤ k) : cut w none (some k) = w.take k.toNat := by
  unfold cut
  have : HT.sIx w.length w.length (some k) = min k.toNat w.length := by unfold HT.sIx; simp only; rw [if_neg (by omega)]
  simp only [HT.sIx_none, List.drop_zero, Nat.sub_zero, this]
  by_cases c : k.toNat ≤ w.length
  · rw [Nat.min_eq_left c]
  · rw [Nat.min_eq_right (by omega), List.take_of_length_le (by omega), List.take_of_length_le (by omega)]
theorem cut_hi (w : List Int) {k : Int} (h : 0 ≤ k) : cut w (some k) none = w.drop k.toNat := by
  unfold cut
  have : HT.sIx w.length 0 (some k) = min k.toNat w.length := by unfold HT.sIx; simp only; rw [if_neg (by omega)]
  simp only [HT.sIx_none, this]
  by_cases c : k.toNat ≤ w.length
  · rw [Nat.min_eq_left c, List.take_of_length_le (by simp)]
  · rw [Nat.min_eq_right (by omega), List.drop_eq_nil_of_le (Nat.le_refl _), List.drop_eq_nil_of_le (by omega)]; simp
theorem cut_mid (w : List Int) {k m : Int} (h : 0 ≤ k) (h2 : 0 ≤ m) : cut w (some k) (some m) = (w.drop k.toNat).take (m.toNat - k.toNat) := by
  unfold cut
  have e1 : HT.sIx w.length 0 (some k) = min k.toNat w.length := by unfold HT.sIx; simp only; rw [if_neg (by omega)]
  have e2 : HT.sIx w.length w.length (some m) = min m.toNat w.length := by unfold HT.sIx; simp only; rw [if_neg (by omega)]
  rw [e1, e2]
  by_cases c : k.toNat ≤ w.length
  · rw [Nat.min_eq_left c]
    by_cases c2 : m.toNat ≤ w.length
    · rw [Nat.min_eq_left c2]
    · rw [Nat.min_eq_right (by omega), List.take_of_length_le (by simp), List.take_of_length_le (by simp; omega)]
  · rw [Nat.min_eq_right (a := k.toNat) (by omega), List.drop_eq_nil_of_le (Nat.le_refl _), List.drop_eq_nil_of_le (by omega)]; simp
end Law
namespace Law
open PySem DL Mir Bm
theorem map_tab (f : Int → Int) (m : Nat) (s : Sq) : (tab m s).map f = tab m (fun k => f (s k)) := by unfold tab; rw [List.map_map]; rfl
theorem tab_mem {m : Nat} {s : Sq} (P : Prm m s) {i : Int} (h : i ∈ tab m s) : 0 ≤ i ∧ i < m := rg_mem'.mp ((tab_perm P).mem_iff.mp h)
theorem law_composed_ok {m : Nat} {s : Sq} (t : Sq) (h8 : m ≤ 8) (P : Prm m s) : f__law_composed [.dat (.lst (mi (tab m s))), .dat (.lst (mi (tab m t)))] = .ok (.new (.lst (mi (tab m (cmps s t))))) [] := by
  have hc : compL [2] (gNm 2) tYesM c__law_composed_1 (mi (tab m s)) [.dat (.lst (mi (tab m s))), .dat (.lst (mi (tab m t))), .un] [] = .ok (.new (.lst (mi ((tab m s).map fun v => t v.toNat)))) [.dat (.lst (mi (tab m s))), .dat (.lst (mi (tab m t))), .un] := by
    refine comp_map (fun v => t v.toNat) rfl (by rw [tab_length]; simp only [lim]; omega) fun i hi => ?_
    have hr := tab_mem P hi
    have a1 : L2.atI (tab m t) i = some (t i.toNat) := tab_at (by omega) (by omega)
    exact ⟨[.dat (.lst (mi (tab m s))), .dat (.lst (mi (tab m t))), .dat (.int i)], by simp [gNm, wipeV, sSeq, sSet, sOwn, sAli, sAsg, sRet, sRetN, sIf, sPass, sExpr, sFor, sPar, sPar3, sParO, sParO3, eFnX, lendM, lends, lendD, lendR, atomD, keepO, slotOf, sOwn2, eFrz, tvT, truD, sortedD, insertD, eOp2, eOp1, eName, eD, ixD, setS_nw, setS_own, nwAt, noOwn_nw, peek_pl, gSb, gNm, gTp, gCs, gNl, getP, putP, addD, subD, mulD, modD, fdivD, powD, ltD, leD, gtD, geD, isD, isnotD, D.isN, negD, tvB, tvNot, tvAnd, tvOr, evT, evAnd, evOr, evNot, evIf, evChain, eCall, aCons, aNil, peeks, dats, lenD, intD, listD, tupleD, eTup, eLst, eSl, oNone, oSome, slD, revD, eLr1, eLr2, iSeq, iR1_eq, iR1f, iR2_eq, iR2f, iR3_eq, iR3f, iEnu, iZp, tYesM, eMeth, appendD, extendD, popD, reverseD, dropS, eFn, toArgs, backE, aft, finF, backs, eIsi, stp, lim], [.dat (.lst (mi (tab m s))), .dat (.lst (mi (tab m t))), .dat (.int i)], by simp [c__law_composed_1, sSeq, sSet, sOwn, sAli, sAsg, sRet, sRetN, sIf, sPass, sExpr, sFor, sPar, sPar3, sParO, sParO3, eFnX, lendM, lends, lendD, lendR, atomD, keepO, slotOf, sOwn2, eFrz, tvT, truD, sortedD, insertD, eOp2, eOp1, eName, eD, ixD, setS_nw, setS_own, nwAt, noOwn_nw, peek_pl, gSb, gNm, gTp, gCs, gNl, getP, putP, addD, subD, mulD, modD, fdivD, powD, ltD, leD, gtD, geD, isD, isnotD, D.isN, negD, tvB, tvNot, tvAnd, tvOr, evT, evAnd, evOr, evNot, evIf, evChain, eCall, aCons, aNil, peeks, dats, lenD, intD, listD, tupleD, eTup, eLst, eSl, oNone, oSome, slD, revD, eLr1, eLr2, iSeq, iR1_eq, iR1f, iR2_eq, iR2f, iR3_eq, iR3f, iEnu, iZp, tYesM, eMeth, appendD, extendD, popD, reverseD, dropS, eFn, toArgs, backE, aft, finF, backs, eIsi, stp, lim, a1], rfl, rfl, rfl⟩
  rw [map_tab] at hc
  unfold f__law_composed
  rw [runF_eq (by rfl) (by rfl)]
  simp [m__law_composed, eComp, sSeq, sSet, sOwn, sAli, sAsg, sRet, sRetN, sIf, sPass, sExpr, sFor, sPar, sPar3, sParO, sParO3, eFnX, lendM, lends, lendD, lendR, atomD, keepO, slotOf, sOwn2, eFrz, tvT, truD, sortedD, insertD, eOp2, eOp1, eName, eD, ixD, setS_nw, setS_own, nwAt, noOwn_nw, peek_pl, gSb, gNm, gTp, gCs, gNl, getP, putP, addD, subD, mulD, modD, fdivD, powD, ltD, leD, gtD, geD, isD, isnotD, D.isN, negD, tvB, tvNot, tvAnd, tvOr, evT, evAnd, evOr, evNot, evIf, evChain, eCall, aCons, aNil, peeks, dats, lenD, intD, listD, tupleD, eTup, eLst, eSl, oNone, oSome, slD, revD, eLr1, eLr2, iSeq, iR1_eq, iR1f, iR2_eq, iR2f, iR3_eq, iR3f, iEnu, iZp, tYesM, eMeth, appendD, extendD, popD, reverseD, dropS, eFn, toArgs, backE, aft, finF, backs, eIsi, stp, lim, hc]
  rfl
theorem composed_ok {m : Nat} {s : Sq} (t : Sq) (h8 : m ≤ 8) (P : Prm m s) : f_composed [.dat (.lst (mi (tab m s))), .dat (.lst (mi (tab m t)))] = .ok (.new (.lst (mi (tab m (cmps s t))))) [] := by
  have hc : compL [2] (gNm 2) tYesM c_composed_1 (mi (tab m s)) [.dat (.lst (mi (tab m s))), .dat (.lst (mi (tab m t))), .un] [] = .ok (.new (.lst (mi ((tab m s).map fun v => t v.toNat)))) [.dat (.lst (mi (tab m s))), .dat (.lst (mi (tab m t))), .un] := by
    refine comp_map (fun v => t v.toNat) rfl (by rw [tab_length]; simp only [lim]; omega) fun i hi => ?_
    have hr := tab_mem P hi
    have a1 : L2.atI (tab m t) i = some (t i.toNat) := tab_at (by omega) (by omega)
    exact ⟨[.dat (.lst (mi (tab m s))), .dat (.lst (mi (tab m t))), .dat (.int i)], by simp [gNm, wipeV, sSeq, sSet, sOwn, sAli, sAsg, sRet, sRetN, sIf, sPass, sExpr, sFor, sPar, sPar3, sParO, sParO3, eFnX, lendM, lends, lendD, lendR, atomD, keepO, slotOf, sOwn2, eFrz, tvT, truD, sortedD, insertD, eOp2, eOp1, eName, eD, ixD, setS_nw, setS_own, nwAt, noOwn_nw, peek_pl, gSb, gNm, gTp, gCs, gNl, getP, putP, addD, subD, mulD, modD, fdivD, powD, ltD, leD, gtD, geD, isD, isnotD, D.isN, negD, tvB, tvNot, tvAnd, tvOr, evT, evAnd, evOr, evNot, evIf, evChain, eCall, aCons, aNil, peeks, dats, lenD, intD, listD, tupleD, eTup, eLst, eSl, oNone, oSome, slD, revD, eLr1, eLr2, iSeq, iR1_eq, iR1f, iR2_eq, iR2f, iR3_eq, iR3f, iEnu, iZp, tYesM, eMeth, appendD, extendD, popD, reverseD, dropS, eFn, toArgs, backE, aft, finF, backs, eIsi, stp, lim], [.dat (.lst (mi (tab m s))), .dat (.lst (mi (tab m t))), .dat (.int i)], by simp [c_composed_1, sSeq, sSet, sOwn, sAli, sAsg, sRet, sRetN, sIf, sPass, sExpr, sFor, sPar, sPar3, sParO, sParO3, eFnX, lendM, lends, lendD, lendR, atomD, keepO, slotOf, sOwn2, eFrz, tvT, truD, sortedD, insertD, eOp2, eOp1, eName, eD, ixD, setS_nw, setS_own, nwAt, noOwn_nw, peek_pl, gSb, gNm, gTp, gCs, gNl, getP, putP, addD, subD, mulD, modD, fdivD, powD, ltD, leD, gtD, geD, isD, isnotD, D.isN, negD, tvB, tvNot, tvAnd, tvOr, evT, evAnd, evOr, evNot, evIf, evChain, eCall, aCons, aNil, peeks, dats, lenD, intD, listD, tupleD, eTup, eLst, eSl, oNone, oSome, slD, revD, eLr1, eLr2, iSeq, iR1_eq, iR1f, iR2_eq, iR2f, iR3_eq, iR3f, iEnu, iZp, tYesM, eMeth, appendD, extendD, popD, reverseD, dropS, eFn, toArgs, backE, aft, finF, backs, eIsi, stp, lim, a1], rfl, rfl, rfl⟩
  rw [map_tab] at hc
  unfold f_composed
  rw [runF_eq (by rfl) (by rfl)]
  simp [m_composed, eComp, sSeq, sSet, sOwn, sAli, sAsg, sRet, sRetN, sIf, sPass, sExpr, sFor, sPar, sPar3, sParO, sParO3, eFnX, lendM, lends, lendD, lendR, atomD, keepO, slotOf, sOwn2, eFrz, tvT, truD, sortedD, insertD, eOp2, eOp1, eName, eD, ixD, setS_nw, setS_own, nwAt, noOwn_nw, peek_pl, gSb, gNm, gTp, gCs, gNl, getP, putP, addD, subD, mulD, modD, fdivD, powD, ltD, leD, gtD, geD, isD, isnotD, D.isN, negD, tvB, tvNot, tvAnd, tvOr, evT, evAnd, evOr, evNot, evIf, evChain, eCall, aCons, aNil, peeks, dats, lenD, intD, listD, tupleD, eTup, eLst, eSl, oNone, oSome, slD, revD, eLr1, eLr2, iSeq, iR1_eq, iR1f, iR2_eq, iR2f, iR3_eq, iR3f, iEnu, iZp, tYesM, eMeth, appendD, extendD, popD, reverseD, dropS, eFn, toArgs, backE, aft, finF, backs, eIsi, stp, lim, hc]
  rfl
theorem opposite_ok {m : Nat} (s : Sq) (h8 : m ≤ 8) : f_opposite [.dat (.lst (mi (tab m s)))] = .ok (.new (.lst (mi (tab m (opp m s))))) [] := by
  have hc : compL [1] (gNm 1) tYesM c_opposite_1 (mi (tab m s)) [.dat (.lst (mi (tab m s))), .un] [] = .ok (.new (.lst (mi ((tab m s).map fun v => (m : Int) - 1 - v)))) [.dat (.lst (mi (tab m s))), .un] := by
    refine comp_map (fun v => (m : Int) - 1 - v) rfl (by rw [tab_length]; simp only [lim]; omega) fun i hi => ?_
    exact ⟨[.dat (.lst (mi (tab m s))), .dat (.int i)], by simp [gNm, wipeV, sSeq, sSet, sOwn, sAli, sAsg, sRet, sRetN, sIf, sPass, sExpr, sFor, sPar, sPar3, sParO, sParO3, eFnX, lendM, lends, lendD, lendR, atomD, keepO, slotOf, sOwn2, eFrz, tvT, truD, sortedD, insertD, eOp2, eOp1, eName, eD, ixD, setS_nw, setS_own, nwAt, noOwn_nw, peek_pl, gSb, gNm, gTp, gCs, gNl, getP, putP, addD, subD, mulD, modD, fdivD, powD, ltD, leD, gtD, geD, isD, isnotD, D.isN, negD, tvB, tvNot, tvAnd, tvOr, evT, evAnd, evOr, evNot, evIf, evChain, eCall, aCons, aNil, peeks, dats, lenD, intD, listD, tupleD, eTup, eLst, eSl, oNone, oSome, slD, revD, eLr1, eLr2, iSeq, iR1_eq, iR1f, iR2_eq, iR2f, iR3_eq, iR3f, iEnu, iZp, tYesM, eMeth, appendD, extendD, popD, reverseD, dropS, eFn, toArgs, backE, aft, finF, backs, eIsi, stp, lim], [.dat (.lst (mi (tab m s))), .dat (.int i)], by simp [c_opposite_1, sSeq, sSet, sOwn, sAli, sAsg, sRet, sRetN, sIf, sPass, sExpr, sFor, sPar, sPar3, sParO, sParO3, eFnX, lendM, lends, lendD, lendR, atomD, keepO, slotOf, sOwn2, eFrz, tvT, truD, sortedD, insertD, eOp2, eOp1, eName, eD, ixD, setS_nw, setS_own, nwAt, noOwn_nw, peek_pl, gSb, gNm, gTp, gCs, gNl, getP, putP, addD, subD, mulD, modD, fdivD, powD, ltD, leD, gtD, geD, isD, isnotD, D.isN, negD, tvB, tvNot, tvAnd, tvOr, evT, evAnd, evOr, evNot, evIf, evChain, eCall, aCons, aNil, peeks, dats, lenD, intD, listD, tupleD, eTup, eLst, eSl, oNone, oSome, slD, revD, eLr1, eLr2, iSeq, iR1_eq, iR1f, iR2_eq, iR2f, iR3_eq, iR3f, iEnu, iZp, tYesM, eMeth, appendD, extendD, popD, reverseD, dropS, eFn, toArgs, backE, aft, finF, backs, eIsi, stp, lim, tab_length], rfl, rfl, rfl⟩
  rw [map_tab] at hc
  unfold f_opposite
  rw [runF_eq (by rfl) (by rfl)]
  simp [m_opposite, eComp, sSeq, sSet, sOwn, sAli, sAsg, sRet, sRetN, sIf, sPass, sExpr, sFor, sPar, sPar3, sParO, sParO3, eFnX, lendM, lends, lendD, lendR, atomD, keepO, slotOf, sOwn2, eFrz, tvT, truD, sortedD, insertD, eOp2, eOp1, eName, eD, ixD, setS_nw, setS_own, nwAt, noOwn_nw, peek_pl, gSb, gNm, gTp, gCs, gNl, getP, putP, addD, subD, mulD, modD, fdivD, powD, ltD, leD, gtD, geD, isD, isnotD, D.isN, negD, tvB, tvNot, tvAnd, tvOr, evT, evAnd, evOr, evNot, evIf, evChain, eCall, aCons, aNil, peeks, dats, lenD, intD, listD, tupleD, eTup, eLst, eSl, oNone, oSome, slD, revD, eLr1, eLr2, iSeq, iR1_eq, iR1f, iR2_eq, iR2f, iR3_eq, iR3f, iEnu, iZp, tYesM, eMeth, appendD, extendD, popD, reverseD, dropS, eFn, toArgs, backE, aft, finF, backs, eIsi, stp, lim, hc]
  rfl
theorem rev_tab' (m : Nat) (s : Sq) : (tab m s).reverse = tab m (rev m s) := by
  refine List.ext_getElem? fun k => ?_
  by_cases hk : k < m
  · rw [tab_get hk, List.getElem?_reverse (by rw [tab_length]; exact hk), tab_length, tab_get (by omega)]
    rfl
  · rw [List.getElem?_eq_none (by rw [List.length_reverse, tab_length]; omega), List.getElem?_eq_none (by rw [tab_length]; omega)]
theorem rest_ok {m : Nat} {s : Sq} (h8 : m ≤ 8) (P : Prm m s) : f_rest [.dat (.lst (mi (tab m s)))] = .ok (.new (.lst (mi (tab m (opp m (bk s m)))))) [] := by
  unfold f_rest
  rw [runF_eq (by rfl) (by rfl)]
  simp [m_rest, sSeq, sSet, sOwn, sAli, sAsg, sRet, sRetN, sIf, sPass, sExpr, sFor, sPar, sPar3, sParO, sParO3, eFnX, lendM, lends, lendD, lendR, atomD, keepO, slotOf, sOwn2, eFrz, tvT, truD, sortedD, insertD, eOp2, eOp1, eName, eD, ixD, setS_nw, setS_own, nwAt, noOwn_nw, peek_pl, gSb, gNm, gTp, gCs, gNl, getP, putP, addD, subD, mulD, modD, fdivD, powD, ltD, leD, gtD, geD, isD, isnotD, D.isN, negD, tvB, tvNot, tvAnd, tvOr, evT, evAnd, evOr, evNot, evIf, evChain, eCall, aCons, aNil, peeks, dats, lenD, intD, listD, tupleD, eTup, eLst, eSl, oNone, oSome, slD, revD, eLr1, eLr2, iSeq, iR1_eq, iR1f, iR2_eq, iR2f, iR3_eq, iR3f, iEnu, iZp, tYesM, eMeth, appendD, extendD, popD, reverseD, dropS, eFn, toArgs, backE, aft, finF, backs, eIsi, stp, lim, backward_ok h8 P, opposite_ok _ h8, O.toD]
theorem rest_of_ok {m : Nat} {s : Sq} (h1 : 1 ≤ m) (h8 : m ≤ 8) (P : Prm m s) : f_rest_of [.dat (.int m), .dat (.lst (mi (tab m s)))] = .ok (.new (.lst (mi (tab m (opp m (bk s m)))))) [] := by
  unfold f_rest_of
  rw [runF_eq (by rfl) (by rfl)]
  simp [m_rest_of, sSeq, sSet, sOwn, sAli, sAsg, sRet, sRetN, sIf, sPass, sExpr, sFor, sPar, sPar3, sParO, sParO3, eFnX, lendM, lends, lendD, lendR, atomD, keepO, slotOf, sOwn2, eFrz, tvT, truD, sortedD, insertD, eOp2, eOp1, eName, eD, ixD, setS_nw, setS_own, nwAt, noOwn_nw, peek_pl, gSb, gNm, gTp, gCs, gNl, getP, putP, addD, subD, mulD, modD, fdivD, powD, ltD, leD, gtD, geD, isD, isnotD, D.isN, negD, tvB, tvNot, tvAnd, tvOr, evT, evAnd, evOr, evNot, evIf, evChain, eCall, aCons, aNil, peeks, dats, lenD, intD, listD, tupleD, eTup, eLst, eSl, oNone, oSome, slD, revD, eLr1, eLr2, iSeq, iR1_eq, iR1f, iR2_eq, iR2f, iR3_eq, iR3f, iEnu, iZp, tYesM, eMeth, appendD, extendD, popD, reverseD, dropS, eFn, toArgs, backE, aft, finF, backs, eIsi, stp, lim, check_simples_ok1 h1 h8 P, rest_ok h8 P, O.toD]
theorem fore_rest_ok {m : Nat} {s : Sq} (h1 : 1 ≤ m) (h8 : m ≤ 8) (P : Prm m s) : f_fore_rest [.dat (.int m), .dat (.lst (mi (tab m s)))] = .ok (.new (.lst (mi (tab m (rev m (bk s m)))))) [] := by
  have hr : f_rest_ahead [.dat (.lst (mi (tab m s)))] = .ok (.new (.lst (mi (tab m (rev m (bk s m)))))) [] := by
    unfold f_rest_ahead
    rw [runF_eq (by rfl) (by rfl)]
    simp [m_rest_ahead, sSeq, sSet, sOwn, sAli, sAsg, sRet, sRetN, sIf, sPass, sExpr, sFor, sPar, sPar3, sParO, sParO3, eFnX, lendM, lends, lendD, lendR, atomD, keepO, slotOf, sOwn2, eFrz, tvT, truD, sortedD, insertD, eOp2, eOp1, eName, eD, ixD, setS_nw, setS_own, nwAt, noOwn_nw, peek_pl, gSb, gNm, gTp, gCs, gNl, getP, putP, addD, subD, mulD, modD, fdivD, powD, ltD, leD, gtD, geD, isD, isnotD, D.isN, negD, tvB, tvNot, tvAnd, tvOr, evT, evAnd, evOr, evNot, evIf, evChain, eCall, aCons, aNil, peeks, dats, lenD, intD, listD, tupleD, eTup, eLst, eSl, oNone, oSome, slD, revD, eLr1, eLr2, iSeq, iR1_eq, iR1f, iR2_eq, iR2f, iR3_eq, iR3f, iEnu, iZp, tYesM, eMeth, appendD, extendD, popD, reverseD, dropS, eFn, toArgs, backE, aft, finF, backs, eIsi, stp, lim, backward_ok h8 P, O.toD, rev_tab']
  unfold f_fore_rest
  rw [runF_eq (by rfl) (by rfl)]
  simp [m_fore_rest, sSeq, sSet, sOwn, sAli, sAsg, sRet, sRetN, sIf, sPass, sExpr, sFor, sPar, sPar3, sParO, sParO3, eFnX, lendM, lends, lendD, lendR, atomD, keepO, slotOf, sOwn2, eFrz, tvT, truD, sortedD, insertD, eOp2, eOp1, eName, eD, ixD, setS_nw, setS_own, nwAt, noOwn_nw, peek_pl, gSb, gNm, gTp, gCs, gNl, getP, putP, addD, subD, mulD, modD, fdivD, powD, ltD, leD, gtD, geD, isD, isnotD, D.isN, negD, tvB, tvNot, tvAnd, tvOr, evT, evAnd, evOr, evNot, evIf, evChain, eCall, aCons, aNil, peeks, dats, lenD, intD, listD, tupleD, eTup, eLst, eSl, oNone, oSome, slD, revD, eLr1, eLr2, iSeq, iR1_eq, iR1f, iR2_eq, iR2f, iR3_eq, iR3f, iEnu, iZp, tYesM, eMeth, appendD, extendD, popD, reverseD, dropS, eFn, toArgs, backE, aft, finF, backs, eIsi, stp, lim, check_simples_ok1 h1 h8 P, hr, O.toD]
theorem turned_ok {m : Nat} {s : Sq} (h1 : 1 ≤ m) (h8 : m ≤ 8) (P : Prm m s) : f_turned_simple [.dat (.int m), .dat (.lst (mi (tab m s)))] = .ok (.new (.lst (mi (tab m (abt m s))))) [] := by
  have hr : f_about [.dat (.lst (mi (tab m s)))] = .ok (.new (.lst (mi (tab m (abt m s))))) [] := by
    unfold f_about
    rw [runF_eq (by rfl) (by rfl)]
    simp [m_about, sSeq, sSet, sOwn, sAli, sAsg, sRet, sRetN, sIf, sPass, sExpr, sFor, sPar, sPar3, sParO, sParO3, eFnX, lendM, lends, lendD, lendR, atomD, keepO, slotOf, sOwn2, eFrz, tvT, truD, sortedD, insertD, eOp2, eOp1, eName, eD, ixD, setS_nw, setS_own, nwAt, noOwn_nw, peek_pl, gSb, gNm, gTp, gCs, gNl, getP, putP, addD, subD, mulD, modD, fdivD, powD, ltD, leD, gtD, geD, isD, isnotD, D.isN, negD, tvB, tvNot, tvAnd, tvOr, evT, evAnd, evOr, evNot, evIf, evChain, eCall, aCons, aNil, peeks, dats, lenD, intD, listD, tupleD, eTup, eLst, eSl, oNone, oSome, slD, revD, eLr1, eLr2, iSeq, iR1_eq, iR1f, iR2_eq, iR2f, iR3_eq, iR3f, iEnu, iZp, tYesM, eMeth, appendD, extendD, popD, reverseD, dropS, eFn, toArgs, backE, aft, finF, backs, eIsi, stp, lim, O.toD, rev_tab', opposite_ok _ h8]
    rfl
  unfold f_turned_simple
  rw [runF_eq (by rfl) (by rfl)]
  simp [m_turned_simple, sSeq, sSet, sOwn, sAli, sAsg, sRet, sRetN, sIf, sPass, sExpr, sFor, sPar, sPar3, sParO, sParO3, eFnX, lendM, lends, lendD, lendR, atomD, keepO, slotOf, sOwn2, eFrz, tvT, truD, sortedD, insertD, eOp2, eOp1, eName, eD, ixD, setS_nw, setS_own, nwAt, noOwn_nw, peek_pl, gSb, gNm, gTp, gCs, gNl, getP, putP, addD, subD, mulD, modD, fdivD, powD, ltD, leD, gtD, geD, isD, isnotD, D.isN, negD, tvB, tvNot, tvAnd, tvOr, evT, evAnd, evOr, evNot, evIf, evChain, eCall, aCons, aNil, peeks, dats, lenD, intD, listD, tupleD, eTup, eLst, eSl, oNone, oSome, slD, revD, eLr1, eLr2, iSeq, iR1_eq, iR1f, iR2_eq, iR2f, iR3_eq, iR3f, iEnu, iZp, tYesM, eMeth, appendD, extendD, popD, reverseD, dropS, eFn, toArgs, backE, aft, finF, backs, eIsi, stp, lim, check_simples_ok1 h1 h8 P, hr, O.toD]
/-- one, then another one, if no two strands cross twice -/
theorem then_yes {m : Nat} {s t : Sq} (h1 : 1 ≤ m) (h8 : m ≤ 8) (P : Prm m s) (R : Prm m t) (c : inv (cmps s t) m = inv s m + inv t m) : f_then_simple [.dat (.int m), .dat (.lst (mi (tab m s))), .dat (.lst (mi (tab m t)))] = .ok (.new (.lst (mi (tab m (cmps s t))))) [] := by
  have c' : ((inv (cmps s t) m : Nat) : Int) = (inv s m : Int) + (inv t m : Int) := by omega
  unfold f_then_simple
  rw [runF_eq (by rfl) (by rfl)]
  simp [m_then_simple, sSeq, sSet, sOwn, sAli, sAsg, sRet, sRetN, sIf, sPass, sExpr, sFor, sPar, sPar3, sParO, sParO3, eFnX, lendM, lends, lendD, lendR, atomD, keepO, slotOf, sOwn2, eFrz, tvT, truD, sortedD, insertD, eOp2, eOp1, eName, eD, ixD, setS_nw, setS_own, nwAt, noOwn_nw, peek_pl, gSb, gNm, gTp, gCs, gNl, getP, putP, addD, subD, mulD, modD, fdivD, powD, ltD, leD, gtD, geD, isD, isnotD, D.isN, negD, tvB, tvNot, tvAnd, tvOr, evT, evAnd, evOr, evNot, evIf, evChain, eCall, aCons, aNil, peeks, dats, lenD, intD, listD, tupleD, eTup, eLst, eSl, oNone, oSome, slD, revD, eLr1, eLr2, iSeq, iR1_eq, iR1f, iR2_eq, iR2f, iR3_eq, iR3f, iEnu, iZp, tYesM, eMeth, appendD, extendD, popD, reverseD, dropS, eFn, toArgs, backE, aft, finF, backs, eIsi, stp, lim, check_simples_ok2 h1 h8 P R, composed_ok t h8 P, crossings_ok _ h8, O.toD, c']
theorem then_no {m : Nat} {s t : Sq} (h1 : 1 ≤ m) (h8 : m ≤ 8) (P : Prm m s) (R : Prm m t) (c : inv (cmps s t) m ≠ inv s m + inv t m) : f_then_simple [.dat (.int m), .dat (.lst (mi (tab m s))), .dat (.lst (mi (tab m t)))] = .ok (.dat .non) [] := by
  have c' : ¬ ((inv (cmps s t) m : Nat) : Int) = (inv s m : Int) + (inv t m : Int) := by omega
  unfold f_then_simple
  rw [runF_eq (by rfl) (by rfl)]
  simp [m_then_simple, sSeq, sSet, sOwn, sAli, sAsg, sRet, sRetN, sIf, sPass, sExpr, sFor, sPar, sPar3, sParO, sParO3, eFnX, lendM, lends, lendD, lendR, atomD, keepO, slotOf, sOwn2, eFrz, tvT, truD, sortedD, insertD, eOp2, eOp1, eName, eD, ixD, setS_nw, setS_own, nwAt, noOwn_nw, peek_pl, gSb, gNm, gTp, gCs, gNl, getP, putP, addD, subD, mulD, modD, fdivD, powD, ltD, leD, gtD, geD, isD, isnotD, D.isN, negD, tvB, tvNot, tvAnd, tvOr, evT, evAnd, evOr, evNot, evIf, evChain, eCall, aCons, aNil, peeks, dats, lenD, intD, listD, tupleD, eTup, eLst, eSl, oNone, oSome, slD, revD, eLr1, eLr2, iSeq, iR1_eq, iR1f, iR2_eq, iR2f, iR3_eq, iR3f, iEnu, iZp, tYesM, eMeth, appendD, extendD, popD, reverseD, dropS, eFn, toArgs, backE, aft, finF, backs, eIsi, stp, lim, check_simples_ok2 h1 h8 P R, composed_ok t h8 P, crossings_ok _ h8, O.toD, c']
theorem letter_ok {m p : Nat} (h8 : m ≤ 8) (hp : p + 1 < m) : f__law_letter [.dat (.int m), .dat (.int ((p : Int) + 1))] = .ok (.new (.lst (mi (tab m (sw p idT))))) [] := by
  have z4 : (m : Int) ≤ 16777216 := by omega
  have z5 : -(4611686018427387904 : Int) ≤ m := by omega
  have hr : mi (rg 0 m) = mi (tab m idT) := by rw [rg_eq_tab]; rfl
  have i1 : L2.ixN m ((p : Int) + 1 - 1) = some p := by simpa [tab_length] using tab_ix (s := idT) (m := m) (i := (p : Int) + 1 - 1) (p := p) (by omega) (by omega)
  have i2 : L2.ixN m ((p : Int) + 1) = some (p + 1) := by simpa [tab_length] using tab_ix (s := idT) (m := m) (i := (p : Int) + 1) (p := p + 1) (by omega) (by omega)
  simp only [Int.add_sub_cancel] at i1
  have e : upd (upd idT p ((p : Int) + 1)) (p + 1) (p : Int) = sw p idT := by rw [← sw_upd]; unfold idT; rfl
  unfold f__law_letter
  rw [runF_eq (by rfl) (by rfl)]
  simp [m__law_letter, sSeq, sSet, sOwn, sAli, sAsg, sRet, sRetN, sIf, sPass, sExpr, sFor, sPar, sPar3, sParO, sParO3, eFnX, lendM, lends, lendD, lendR, atomD, keepO, slotOf, sOwn2, eFrz, tvT, truD, sortedD, insertD, eOp2, eOp1, eName, eD, ixD, setS_nw, setS_own, nwAt, noOwn_nw, peek_pl, gSb, gNm, gTp, gCs, gNl, getP, putP, addD, subD, mulD, modD, fdivD, powD, ltD, leD, gtD, geD, isD, isnotD, D.isN, negD, tvB, tvNot, tvAnd, tvOr, evT, evAnd, evOr, evNot, evIf, evChain, eCall, aCons, aNil, peeks, dats, lenD, intD, listD, tupleD, eTup, eLst, eSl, oNone, oSome, slD, revD, eLr1, eLr2, iSeq, iR1_eq, iR1f, iR2_eq, iR2f, iR3_eq, iR3f, iEnu, iZp, tYesM, eMeth, appendD, extendD, popD, reverseD, dropS, eFn, toArgs, backE, aft, finF, backs, eIsi, stp, lim, z4, z5, hr, tab_length, i1, i2, tab_set, e]
/-! the same, in kind, too -/
theorem same_int {d : Nat} (i j : Int) : fr__law_same (d + 1) [.dat (.int i), .dat (.int j)] = .ok (.dat (.bl (decide (i = j)))) [] := by
  show runF 3 2 [0, 1] (m__law_same (fr__law_same d)) _ = _
  rw [runF_eq (by rfl) (by rfl)]
  simp [m__law_same, sSeq, sSet, sOwn, sAli, sAsg, sRet, sRetN, sIf, sPass, sExpr, sFor, sPar, sPar3, sParO, sParO3, eFnX, lendM, lends, lendD, lendR, atomD, keepO, slotOf, sOwn2, eFrz, tvT, truD, sortedD, insertD, eOp2, eOp1, eName, eD, ixD, setS_nw, setS_own, nwAt, noOwn_nw, peek_pl, gSb, gNm, gTp, gCs, gNl, getP, putP, addD, subD, mulD, modD, fdivD, powD, ltD, leD, gtD, geD, isD, isnotD, D.isN, negD, tvB, tvNot, tvAnd, tvOr, evT, evAnd, evOr, evNot, evIf, evChain, eCall, aCons, aNil, peeks, dats, lenD, intD, listD, tupleD, eTup, eLst, eSl, oNone, oSome, slD, revD, eLr1, eLr2, iSeq, iR1_eq, iR1f, iR2_eq, iR2f, iR3_eq, iR3f, iEnu, iZp, tYesM, eMeth, appendD, extendD, popD, reverseD, dropS, eFn, toArgs, backE, aft, finF, backs, eIsi, stp, lim]
theorem all_mb (w : List Bool) : (boolsOf (mb w)).map (fun ns => Ev.dat (D.bl (ns.all id))) = some (.dat (.bl (w.all id))) := by rw [boolsOf_mb]; rfl
theorem same_self {d : Nat} {a : List Int} (ha : a.length ≤ 10000) : fr__law_same (d + 2) [.dat (.lst (mi a)), .dat (.lst (mi a))] = .ok (.dat (.bl true)) [] := by
  show runF 3 2 [0, 1] (m__law_same (fr__law_same (d + 1))) _ = _
  rw [runF_eq (by rfl) (by rfl)]
  have hc := comp_gen (own := [2]) (gm := gNm 2) (em := c__law_same_1 (fr__law_same (d + 1))) (env := [.dat (.lst (mi a)), .dat (.lst (mi a)), .un]) (fun _ => .bl true) rfl (w := mi (rg 0 a.length)) (acc := []) (by simp [lim]; omega) fun i hi => by
    obtain ⟨k, hk, rfl⟩ := List.mem_map.1 hi
    have hr := rg_mem hk
    obtain ⟨x, hx⟩ : ∃ x, a[k.toNat]? = some x := ⟨a[k.toNat]'(by omega), List.getElem?_eq_getElem (by omega)⟩
    have h1 : L2.atI a k = some x := by rw [atI_pos hr.1]; exact hx
    exact ⟨[.dat (.lst (mi a)), .dat (.lst (mi a)), .dat (.int k)], by simp [gNm, wipeV, sSeq, sSet, sOwn, sAli, sAsg, sRet, sRetN, sIf, sPass, sExpr, sFor, sPar, sPar3, sParO, sParO3, eFnX, lendM, lends, lendD, lendR, atomD, keepO, slotOf, sOwn2, eFrz, tvT, truD, sortedD, insertD, eOp2, eOp1, eName, eD, ixD, setS_nw, setS_own, nwAt, noOwn_nw, peek_pl, gSb, gNm, gTp, gCs, gNl, getP, putP, addD, subD, mulD, modD, fdivD, powD, ltD, leD, gtD, geD, isD, isnotD, D.isN, negD, tvB, tvNot, tvAnd, tvOr, evT, evAnd, evOr, evNot, evIf, evChain, eCall, aCons, aNil, peeks, dats, lenD, intD, listD, tupleD, eTup, eLst, eSl, oNone, oSome, slD, revD, eLr1, eLr2, iSeq, iR1_eq, iR1f, iR2_eq, iR2f, iR3_eq, iR3f, iEnu, iZp, tYesM, eMeth, appendD, extendD, popD, reverseD, dropS, eFn, toArgs, backE, aft, finF, backs, eIsi, stp, lim], [.dat (.lst (mi a)), .dat (.lst (mi a)), .dat (.int k)], by simp [c__law_same_1, sSeq, sSet, sOwn, sAli, sAsg, sRet, sRetN, sIf, sPass, sExpr, sFor, sPar, sPar3, sParO, sParO3, eFnX, lendM, lends, lendD, lendR, atomD, keepO, slotOf, sOwn2, eFrz, tvT, truD, sortedD, insertD, eOp2, eOp1, eName, eD, ixD, setS_nw, setS_own, nwAt, noOwn_nw, peek_pl, gSb, gNm, gTp, gCs, gNl, getP, putP, addD, subD, mulD, modD, fdivD, powD, ltD, leD, gtD, geD, isD, isnotD, D.isN, negD, tvB, tvNot, tvAnd, tvOr, evT, evAnd, evOr, evNot, evIf, evChain, eCall, aCons, aNil, peeks, dats, lenD, intD, listD, tupleD, eTup, eLst, eSl, oNone, oSome, slD, revD, eLr1, eLr2, iSeq, iR1_eq, iR1f, iR2_eq, iR2f, iR3_eq, iR3f, iEnu, iZp, tYesM, eMeth, appendD, extendD, popD, reverseD, dropS, eFn, toArgs, backE, aft, finF, backs, eIsi, stp, lim, same_int, h1], rfl, rfl, rfl⟩
  rw [List.nil_append, map_bl, mi_length, rg_length] at hc
  have hs : smI ((a.length : Int)) = true := smI_nat (by omega) (by omega)
  simp [m__law_same, eComp, sSeq, sSet, sOwn, sAli, sAsg, sRet, sRetN, sIf, sPass, sExpr, sFor, sPar, sPar3, sParO, sParO3, eFnX, lendM, lends, lendD, lendR, atomD, keepO, slotOf, sOwn2, eFrz, tvT, truD, sortedD, insertD, eOp2, eOp1, eName, eD, ixD, setS_nw, setS_own, nwAt, noOwn_nw, peek_pl, gSb, gNm, gTp, gCs, gNl, getP, putP, addD, subD, mulD, modD, fdivD, powD, ltD, leD, gtD, geD, isD, isnotD, D.isN, negD, tvB, tvNot, tvAnd, tvOr, evT, evAnd, evOr, evNot, evIf, evChain, eCall, aCons, aNil, peeks, dats, lenD, intD, listD, tupleD, eTup, eLst, eSl, oNone, oSome, slD, revD, eLr1, eLr2, iSeq, iR1_eq, iR1f, iR2_eq, iR2f, iR3_eq, iR3f, iEnu, iZp, tYesM, eMeth, appendD, extendD, popD, reverseD, dropS, eFn, toArgs, backE, aft, finF, backs, eIsi, stp, lim, hs, hc, allD]
theorem same_tab {m : Nat} (s : Sq) (h8 : m ≤ 8) : f__law_same [.dat (.lst (mi (tab m s))), .dat (.lst (mi (tab m s)))] = .ok (.dat (.bl true)) [] := same_self (d := 4) (by rw [tab_length]; omega)
theorem same_nonD {d : Nat} : fr__law_same (d + 1) [.dat .non, .dat .non] = .ok (.dat (.bl true)) [] := by
  show runF 3 2 [0, 1] (m__law_same (fr__law_same d)) _ = _
  rw [runF_eq (by rfl) (by rfl)]
  simp [m__law_same, sSeq, sSet, sOwn, sAli, sAsg, sRet, sRetN, sIf, sPass, sExpr, sFor, sPar, sPar3, sParO, sParO3, eFnX, lendM, lends, lendD, lendR, atomD, keepO, slotOf, sOwn2, eFrz, tvT, truD, sortedD, insertD, eOp2, eOp1, eName, eD, ixD, setS_nw, setS_own, nwAt, noOwn_nw, peek_pl, gSb, gNm, gTp, gCs, gNl, getP, putP, addD, subD, mulD, modD, fdivD, powD, ltD, leD, gtD, geD, isD, isnotD, D.isN, negD, tvB, tvNot, tvAnd, tvOr, evT, evAnd, evOr, evNot, evIf, evChain, eCall, aCons, aNil, peeks, dats, lenD, intD, listD, tupleD, eTup, eLst, eSl, oNone, oSome, slD, revD, eLr1, eLr2, iSeq, iR1_eq, iR1f, iR2_eq, iR2f, iR3_eq, iR3f, iEnu, iZp, tYesM, eMeth, appendD, extendD, popD, reverseD, dropS, eFn, toArgs, backE, aft, finF, backs, eIsi, stp, lim]
theorem same_non : f__law_same [.dat .non, .dat .non] = .ok (.dat (.bl true)) [] := same_nonD (d := 5)
theorem is_turning_ok {m : Nat} {s : Sq} (h8 : m ≤ 8) (P : Prm m s) : f__law_is_turning [.dat (.int m), .dat (.lst (mi (tab m s)))] = .ok (.dat (.bl true)) [] := by
  have hc := comp_gen (own := [2]) (gm := gNm 2) (em := c__law_is_turning_1) (env := [.dat (.int m), .dat (.lst (mi (tab m s))), .un]) (fun _ => .bl true) rfl (w := mi (tab m s)) (acc := []) (by simp [tab_length, lim]; omega) fun i hi => by
    obtain ⟨k, hk, rfl⟩ := List.mem_map.1 hi
    exact ⟨[.dat (.int m), .dat (.lst (mi (tab m s))), .dat (.int k)], by simp [gNm, wipeV, sSeq, sSet, sOwn, sAli, sAsg, sRet, sRetN, sIf, sPass, sExpr, sFor, sPar, sPar3, sParO, sParO3, eFnX, lendM, lends, lendD, lendR, atomD, keepO, slotOf, sOwn2, eFrz, tvT, truD, sortedD, insertD, eOp2, eOp1, eName, eD, ixD, setS_nw, setS_own, nwAt, noOwn_nw, peek_pl, gSb, gNm, gTp, gCs, gNl, getP, putP, addD, subD, mulD, modD, fdivD, powD, ltD, leD, gtD, geD, isD, isnotD, D.isN, negD, tvB, tvNot, tvAnd, tvOr, evT, evAnd, evOr, evNot, evIf, evChain, eCall, aCons, aNil, peeks, dats, lenD, intD, listD, tupleD, eTup, eLst, eSl, oNone, oSome, slD, revD, eLr1, eLr2, iSeq, iR1_eq, iR1f, iR2_eq, iR2f, iR3_eq, iR3f, iEnu, iZp, tYesM, eMeth, appendD, extendD, popD, reverseD, dropS, eFn, toArgs, backE, aft, finF, backs, eIsi, stp, lim], [.dat (.int m), .dat (.lst (mi (tab m s))), .dat (.int k)], by simp [c__law_is_turning_1, sSeq, sSet, sOwn, sAli, sAsg, sRet, sRetN, sIf, sPass, sExpr, sFor, sPar, sPar3, sParO, sParO3, eFnX, lendM, lends, lendD, lendR, atomD, keepO, slotOf, sOwn2, eFrz, tvT, truD, sortedD, insertD, eOp2, eOp1, eName, eD, ixD, setS_nw, setS_own, nwAt, noOwn_nw, peek_pl, gSb, gNm, gTp, gCs, gNl, getP, putP, addD, subD, mulD, modD, fdivD, powD, ltD, leD, gtD, geD, isD, isnotD, D.isN, negD, tvB, tvNot, tvAnd, tvOr, evT, evAnd, evOr, evNot, evIf, evChain, eCall, aCons, aNil, peeks, dats, lenD, intD, listD, tupleD, eTup, eLst, eSl, oNone, oSome, slD, revD, eLr1, eLr2, iSeq, iR1_eq, iR1f, iR2_eq, iR2f, iR3_eq, iR3f, iEnu, iZp, tYesM, eMeth, appendD, extendD, popD, reverseD, dropS, eFn, toArgs, backE, aft, finF, backs, eIsi, stp, lim, whole_int], rfl, rfl, rfl⟩
  rw [List.nil_append, map_bl, mi_length, tab_length] at hc
  have hr : srtI (tab m s) = rg 0 m := srt_tab P
  have z4 : (m : Int) ≤ 16777216 := by omega
  have z5 : -(4611686018427387904 : Int) ≤ m := by omega
  unfold f__law_is_turning
  rw [runF_eq (by rfl) (by rfl)]
  simp [m__law_is_turning, eComp, eCompN, sSeq, sSet, sOwn, sAli, sAsg, sRet, sRetN, sIf, sPass, sExpr, sFor, sPar, sPar3, sParO, sParO3, eFnX, lendM, lends, lendD, lendR, atomD, keepO, slotOf, sOwn2, eFrz, tvT, truD, sortedD, insertD, eOp2, eOp1, eName, eD, ixD, setS_nw, setS_own, nwAt, noOwn_nw, peek_pl, gSb, gNm, gTp, gCs, gNl, getP, putP, addD, subD, mulD, modD, fdivD, powD, ltD, leD, gtD, geD, isD, isnotD, D.isN, negD, tvB, tvNot, tvAnd, tvOr, evT, evAnd, evOr, evNot, evIf, evChain, eCall, aCons, aNil, peeks, dats, lenD, intD, listD, tupleD, eTup, eLst, eSl, oNone, oSome, slD, revD, eLr1, eLr2, iSeq, iR1_eq, iR1f, iR2_eq, iR2f, iR3_eq, iR3f, iEnu, iZp, tYesM, eMeth, appendD, extendD, popD, reverseD, dropS, eFn, toArgs, backE, aft, finF, backs, eIsi, stp, lim, hc, tab_length, allD, hr, z4, z5, ← mi_eq]
end Law
namespace Law
open PySem DL Mir Bm
theorem half_tab (m : Nat) : (rg 0 m).reverse = tab m (half m) := by
  rw [rg_eq_tab, rev_tab']
  refine tab_eq.mpr fun k hk => ?_
  show ((m - 1 - k : Nat) : Int) = (m : Int) - 1 - (k : Int)
  omega
theorem partner_ok (q : Pool) {m : Nat} {s : Sq} (h1 : 1 ≤ m) (h8 : m ≤ 8) (P : Prm m s) : ∃ (t : Sq) (q' : Pool), Prm m t ∧
    (f__law_partner [.own (.lst q.1), .dat (.lst (mi (tab m s)))] = .ok (.new (.lst (mi (tab m t)))) [.lst q'.1] ∨ f__law_partner [.own (.lst q.1), .dat (.lst (mi (tab m s)))] = .ok (.dat (.lst (mi (tab m t)))) [.lst q'.1]) := by
  have hv := pV_rg q (m := 3) (by omega)
  obtain ⟨PB, _⟩ := prm_bk P
  have PO := prm_opp PB
  have hs1 : (sAsg (eTup (aCons false (eCall lenD (aCons true (eName 1) aNil)) (aCons true (eFn 2 f__law_pick (aCons true (eName 0) (aCons true (eD (.int 3)) aNil))) aNil))) (gTp 2 (gCs (gNm 2) (gCs (gNm 3) gNl)))) [.own (.lst q.1), .dat (.lst (mi (tab m s))), .un, .un, .un, .un, .un, .un] = .nx [.own (.lst (pR q 3).1), .dat (.lst (mi (tab m s))), .dat (.int m), .dat (.int (pV q 3)), .un, .un, .un, .un] := by
    simp [sSeq, sSet, sOwn, sAli, sAsg, sRet, sRetN, sIf, sPass, sExpr, sFor, sPar, sPar3, sParO, sParO3, eFnX, lendM, lends, lendD, lendR, atomD, keepO, slotOf, sOwn2, eFrz, tvT, truD, sortedD, insertD, eOp2, eOp1, eName, eD, ixD, setS_nw, setS_own, nwAt, noOwn_nw, peek_pl, gSb, gNm, gTp, gCs, gNl, getP, putP, addD, subD, mulD, modD, fdivD, powD, ltD, leD, gtD, geD, isD, isnotD, D.isN, negD, tvB, tvNot, tvAnd, tvOr, evT, evAnd, evOr, evNot, evIf, evChain, eCall, aCons, aNil, peeks, dats, lenD, intD, listD, tupleD, eTup, eLst, eSl, oNone, oSome, slD, revD, eLr1, eLr2, iSeq, iR1_eq, iR1f, iR2_eq, iR2f, iR3_eq, iR3f, iEnu, iZp, tYesM, eMeth, appendD, extendD, popD, reverseD, dropS, eFn, toArgs, backE, aft, finF, backs, eIsi, stp, lim, tab_length, pick_eq]
  by_cases c : pV q 3 = 0 ∨ m = 1
  · obtain ⟨t, q', e, R⟩ := simple_ok (pR q 3) h1 h8
    refine ⟨t, q', R, .inl ?_⟩
    unfold f__law_partner
    refine (runF_rt (by rfl) (by rfl) (r := .new (.lst (mi (tab m t)))) (e := [.own (.lst q'.1), .dat (.lst (mi (tab m s))), .dat (.int m), .dat (.int (pV q 3)), .un, .un, .un, .un]) ?_).trans (by simp [sSeq, sSet, sOwn, sAli, sAsg, sRet, sRetN, sIf, sPass, sExpr, sFor, sPar, sPar3, sParO, sParO3, eFnX, lendM, lends, lendD, lendR, atomD, keepO, slotOf, sOwn2, eFrz, tvT, truD, sortedD, insertD, eOp2, eOp1, eName, eD, ixD, setS_nw, setS_own, nwAt, noOwn_nw, peek_pl, gSb, gNm, gTp, gCs, gNl, getP, putP, addD, subD, mulD, modD, fdivD, powD, ltD, leD, gtD, geD, isD, isnotD, D.isN, negD, tvB, tvNot, tvAnd, tvOr, evT, evAnd, evOr, evNot, evIf, evChain, eCall, aCons, aNil, peeks, dats, lenD, intD, listD, tupleD, eTup, eLst, eSl, oNone, oSome, slD, revD, eLr1, eLr2, iSeq, iR1_eq, iR1f, iR2_eq, iR2f, iR3_eq, iR3f, iEnu, iZp, tYesM, eMeth, appendD, extendD, popD, reverseD, dropS, eFn, toArgs, backE, aft, finF, backs, eIsi, stp, lim])
    show m__law_partner [.own (.lst q.1), .dat (.lst (mi (tab m s))), .un, .un, .un, .un, .un, .un] = _
    unfold m__law_partner
    refine (sSeq_nx _ hs1).trans (sSeq_rt ?_)
    by_cases c0 : pV q 3 = 0
    · simp [sSeq, sSet, sOwn, sAli, sAsg, sRet, sRetN, sIf, sPass, sExpr, sFor, sPar, sPar3, sParO, sParO3, eFnX, lendM, lends, lendD, lendR, atomD, keepO, slotOf, sOwn2, eFrz, tvT, truD, sortedD, insertD, eOp2, eOp1, eName, eD, ixD, setS_nw, setS_own, nwAt, noOwn_nw, peek_pl, gSb, gNm, gTp, gCs, gNl, getP, putP, addD, subD, mulD, modD, fdivD, powD, ltD, leD, gtD, geD, isD, isnotD, D.isN, negD, tvB, tvNot, tvAnd, tvOr, evT, evAnd, evOr, evNot, evIf, evChain, eCall, aCons, aNil, peeks, dats, lenD, intD, listD, tupleD, eTup, eLst, eSl, oNone, oSome, slD, revD, eLr1, eLr2, iSeq, iR1_eq, iR1f, iR2_eq, iR2f, iR3_eq, iR3f, iEnu, iZp, tYesM, eMeth, appendD, extendD, popD, reverseD, dropS, eFn, toArgs, backE, aft, finF, backs, eIsi, stp, lim, eq_true c0, e]
    · have cm : (m : Int) = 1 := by omega
      simp [sSeq, sSet, sOwn, sAli, sAsg, sRet, sRetN, sIf, sPass, sExpr, sFor, sPar, sPar3, sParO, sParO3, eFnX, lendM, lends, lendD, lendR, atomD, keepO, slotOf, sOwn2, eFrz, tvT, truD, sortedD, insertD, eOp2, eOp1, eName, eD, ixD, setS_nw, setS_own, nwAt, noOwn_nw, peek_pl, gSb, gNm, gTp, gCs, gNl, getP, putP, addD, subD, mulD, modD, fdivD, powD, ltD, leD, gtD, geD, isD, isnotD, D.isN, negD, tvB, tvNot, tvAnd, tvOr, evT, evAnd, evOr, evNot, evIf, evChain, eCall, aCons, aNil, peeks, dats, lenD, intD, listD, tupleD, eTup, eLst, eSl, oNone, oSome, slD, revD, eLr1, eLr2, iSeq, iR1_eq, iR1f, iR2_eq, iR2f, iR3_eq, iR3f, iEnu, iZp, tYesM, eMeth, appendD, extendD, popD, reverseD, dropS, eFn, toArgs, backE, aft, finF, backs, eIsi, stp, lim, c0, eq_true cm, e]
  · have c0 : ¬ pV q 3 = 0 := fun h => c (.inl h)
    have cm : ¬ (m : Int) = 1 := by omega
    have hc : compL [7] (gNm 7) tYesM c__law_partner_1 (mi (tab m (bk s m))) [.own (.lst (pR q 3).1), .dat (.lst (mi (tab m s))), .dat (.int m), .dat (.int (pV q 3)), .un, .un, .un, .un] [] = .ok (.new (.lst (mi ((tab m (bk s m)).map fun v => (m : Int) - 1 - v)))) [.own (.lst (pR q 3).1), .dat (.lst (mi (tab m s))), .dat (.int m), .dat (.int (pV q 3)), .un, .un, .un, .un] := by
      refine comp_map (fun v => (m : Int) - 1 - v) rfl (by rw [tab_length]; simp only [lim]; omega) fun i hi => ?_
      exact ⟨[.own (.lst (pR q 3).1), .dat (.lst (mi (tab m s))), .dat (.int m), .dat (.int (pV q 3)), .un, .un, .un, .dat (.int i)], by simp [gNm, wipeV, sSeq, sSet, sOwn, sAli, sAsg, sRet, sRetN, sIf, sPass, sExpr, sFor, sPar, sPar3, sParO, sParO3, eFnX, lendM, lends, lendD, lendR, atomD, keepO, slotOf, sOwn2, eFrz, tvT, truD, sortedD, insertD, eOp2, eOp1, eName, eD, ixD, setS_nw, setS_own, nwAt, noOwn_nw, peek_pl, gSb, gNm, gTp, gCs, gNl, getP, putP, addD, subD, mulD, modD, fdivD, powD, ltD, leD, gtD, geD, isD, isnotD, D.isN, negD, tvB, tvNot, tvAnd, tvOr, evT, evAnd, evOr, evNot, evIf, evChain, eCall, aCons, aNil, peeks, dats, lenD, intD, listD, tupleD, eTup, eLst, eSl, oNone, oSome, slD, revD, eLr1, eLr2, iSeq, iR1_eq, iR1f, iR2_eq, iR2f, iR3_eq, iR3f, iEnu, iZp, tYesM, eMeth, appendD, extendD, popD, reverseD, dropS, eFn, toArgs, backE, aft, finF, backs, eIsi, stp, lim], [.own (.lst (pR q 3).1), .dat (.lst (mi (tab m s))), .dat (.int m), .dat (.int (pV q 3)), .un, .un, .un, .dat (.int i)], by simp [c__law_partner_1, sSeq, sSet, sOwn, sAli, sAsg, sRet, sRetN, sIf, sPass, sExpr, sFor, sPar, sPar3, sParO, sParO3, eFnX, lendM, lends, lendD, lendR, atomD, keepO, slotOf, sOwn2, eFrz, tvT, truD, sortedD, insertD, eOp2, eOp1, eName, eD, ixD, setS_nw, setS_own, nwAt, noOwn_nw, peek_pl, gSb, gNm, gTp, gCs, gNl, getP, putP, addD, subD, mulD, modD, fdivD, powD, ltD, leD, gtD, geD, isD, isnotD, D.isN, negD, tvB, tvNot, tvAnd, tvOr, evT, evAnd, evOr, evNot, evIf, evChain, eCall, aCons, aNil, peeks, dats, lenD, intD, listD, tupleD, eTup, eLst, eSl, oNone, oSome, slD, revD, eLr1, eLr2, iSeq, iR1_eq, iR1f, iR2_eq, iR2f, iR3_eq, iR3f, iEnu, iZp, tYesM, eMeth, appendD, extendD, popD, reverseD, dropS, eFn, toArgs, backE, aft, finF, backs, eIsi, stp, lim], rfl, rfl, rfl⟩
    rw [map_tab] at hc
    have ho : (fun k => (m : Int) - 1 - bk s m k) = opp m (bk s m) := rfl
    rw [ho] at hc
    generalize hw : W m (opp m (bk s m)) = w0
    have hlw : Lw m w0 := hw ▸ W_Lw m _
    have hwl : w0.length ≤ 64 := by rw [← hw, W_length rfl]; exact inv_64 h8 _
    have hk := pV_rg (pR q 3) (m := (w0.length : Int) + 1) (by omega)
    generalize hv2 : pV (pR q 3) ((w0.length : Int) + 1) = k at hk
    have hpk : 0 < (w0.length : Int) + 1 := by omega
    have hlt : Lw m (w0.take k.toNat) := fun l hl => hlw l (List.mem_of_mem_take hl)
    have R := prm_trnT hlt
    generalize hq2 : pR (pR q 3) ((w0.length : Int) + 1) = q2
    have step : ∀ (t : Sq) (e : Ve) (q' : Pool), Prm m t → (sSeq (sIf (tvB (eOp2 true eqD (eName 3) (eD (.int 2)))) (sSeq (sSet 6 (eOp2 false addD (eD (.int 1)) (eOp2 true modD (eCall intD (aCons true (eFn 2 f__law_pick (aCons true (eName 0) (aCons true (eD (.int 60)) aNil))) aNil)) (eOp2 true subD (eName 2) (eD (.int 1))))))
        (sSet 5 (eFn 2 f__law_composed (aCons false (eName 5) (aCons true (eFn 2 f__law_letter (aCons true (eName 2) (aCons true (eName 6) aNil))) aNil))))) sPass)
        (sRet (eName 5))) [.own (.lst q2.1), .dat (.lst (mi (tab m s))), .dat (.int m), .dat (.int (pV q 3)), .dat (.lst (mi (w0.take k.toNat))), .dat (.lst (mi (tab m (trnT m (w0.take k.toNat))))), .un, .un] = .rt (.dat (.lst (mi (tab m t)))) (.own (.lst q'.1) :: .dat (.lst (mi (tab m s))) :: e) →
        f__law_partner [.own (.lst q.1), .dat (.lst (mi (tab m s)))] = .ok (.dat (.lst (mi (tab m t)))) [.lst q'.1] := fun t e q' Pt hh => by
      unfold f__law_partner
      refine (runF_rt (by rfl) (by rfl) (r := .dat (.lst (mi (tab m t)))) (e := .own (.lst q'.1) :: .dat (.lst (mi (tab m s))) :: e) ?_).trans (by simp [sSeq, sSet, sOwn, sAli, sAsg, sRet, sRetN, sIf, sPass, sExpr, sFor, sPar, sPar3, sParO, sParO3, eFnX, lendM, lends, lendD, lendR, atomD, keepO, slotOf, sOwn2, eFrz, tvT, truD, sortedD, insertD, eOp2, eOp1, eName, eD, ixD, setS_nw, setS_own, nwAt, noOwn_nw, peek_pl, gSb, gNm, gTp, gCs, gNl, getP, putP, addD, subD, mulD, modD, fdivD, powD, ltD, leD, gtD, geD, isD, isnotD, D.isN, negD, tvB, tvNot, tvAnd, tvOr, evT, evAnd, evOr, evNot, evIf, evChain, eCall, aCons, aNil, peeks, dats, lenD, intD, listD, tupleD, eTup, eLst, eSl, oNone, oSome, slD, revD, eLr1, eLr2, iSeq, iR1_eq, iR1f, iR2_eq, iR2f, iR3_eq, iR3f, iEnu, iZp, tYesM, eMeth, appendD, extendD, popD, reverseD, dropS, eFn, toArgs, backE, aft, finF, backs, eIsi, stp, lim])
      show m__law_partner [.own (.lst q.1), .dat (.lst (mi (tab m s))), .un, .un, .un, .un, .un, .un] = _
      unfold m__law_partner
      refine (sSeq_nx _ hs1).trans ?_
      refine (sSeq_nx [.own (.lst (pR q 3).1), .dat (.lst (mi (tab m s))), .dat (.int m), .dat (.int (pV q 3)), .un, .un, .un, .un] ?_).trans ?_
      · simp [sSeq, sSet, sOwn, sAli, sAsg, sRet, sRetN, sIf, sPass, sExpr, sFor, sPar, sPar3, sParO, sParO3, eFnX, lendM, lends, lendD, lendR, atomD, keepO, slotOf, sOwn2, eFrz, tvT, truD, sortedD, insertD, eOp2, eOp1, eName, eD, ixD, setS_nw, setS_own, nwAt, noOwn_nw, peek_pl, gSb, gNm, gTp, gCs, gNl, getP, putP, addD, subD, mulD, modD, fdivD, powD, ltD, leD, gtD, geD, isD, isnotD, D.isN, negD, tvB, tvNot, tvAnd, tvOr, evT, evAnd, evOr, evNot, evIf, evChain, eCall, aCons, aNil, peeks, dats, lenD, intD, listD, tupleD, eTup, eLst, eSl, oNone, oSome, slD, revD, eLr1, eLr2, iSeq, iR1_eq, iR1f, iR2_eq, iR2f, iR3_eq, iR3f, iEnu, iZp, tYesM, eMeth, appendD, extendD, popD, reverseD, dropS, eFn, toArgs, backE, aft, finF, backs, eIsi, stp, lim, c0, cm]
      refine (sSeq_nx [.own (.lst (pR q 3).1), .dat (.lst (mi (tab m s))), .dat (.int m), .dat (.int (pV q 3)), .dat (.lst (mi w0)), .un, .un, .un] ?_).trans ?_
      · simp [eComp, sSeq, sSet, sOwn, sAli, sAsg, sRet, sRetN, sIf, sPass, sExpr, sFor, sPar, sPar3, sParO, sParO3, eFnX, lendM, lends, lendD, lendR, atomD, keepO, slotOf, sOwn2, eFrz, tvT, truD, sortedD, insertD, eOp2, eOp1, eName, eD, ixD, setS_nw, setS_own, nwAt, noOwn_nw, peek_pl, gSb, gNm, gTp, gCs, gNl, getP, putP, addD, subD, mulD, modD, fdivD, powD, ltD, leD, gtD, geD, isD, isnotD, D.isN, negD, tvB, tvNot, tvAnd, tvOr, evT, evAnd, evOr, evNot, evIf, evChain, eCall, aCons, aNil, peeks, dats, lenD, intD, listD, tupleD, eTup, eLst, eSl, oNone, oSome, slD, revD, eLr1, eLr2, iSeq, iR1_eq, iR1f, iR2_eq, iR2f, iR3_eq, iR3f, iEnu, iZp, tYesM, eMeth, appendD, extendD, popD, reverseD, dropS, eFn, toArgs, backE, aft, finF, backs, eIsi, stp, lim, law_backward_ok h8 P, hc, simple_word_ok _ h1 h8, hw, O.toD]
      refine (sSeq_nx [.own (.lst q2.1), .dat (.lst (mi (tab m s))), .dat (.int m), .dat (.int (pV q 3)), .dat (.lst (mi (w0.take k.toNat))), .un, .un, .un] ?_).trans ?_
      · simp [sSeq, sSet, sOwn, sAli, sAsg, sRet, sRetN, sIf, sPass, sExpr, sFor, sPar, sPar3, sParO, sParO3, eFnX, lendM, lends, lendD, lendR, atomD, keepO, slotOf, sOwn2, eFrz, tvT, truD, sortedD, insertD, eOp2, eOp1, eName, eD, ixD, setS_nw, setS_own, nwAt, noOwn_nw, peek_pl, gSb, gNm, gTp, gCs, gNl, getP, putP, addD, subD, mulD, modD, fdivD, powD, ltD, leD, gtD, geD, isD, isnotD, D.isN, negD, tvB, tvNot, tvAnd, tvOr, evT, evAnd, evOr, evNot, evIf, evChain, eCall, aCons, aNil, peeks, dats, lenD, intD, listD, tupleD, eTup, eLst, eSl, oNone, oSome, slD, revD, eLr1, eLr2, iSeq, iR1_eq, iR1f, iR2_eq, iR2f, iR3_eq, iR3f, iEnu, iZp, tYesM, eMeth, appendD, extendD, popD, reverseD, dropS, eFn, toArgs, backE, aft, finF, backs, eIsi, stp, lim, pick_eq, hpk, hv2, hq2, cut_lo _ hk.1, O.toD]
      refine (sSeq_nx [.own (.lst q2.1), .dat (.lst (mi (tab m s))), .dat (.int m), .dat (.int (pV q 3)), .dat (.lst (mi (w0.take k.toNat))), .dat (.lst (mi (tab m (trnT m (w0.take k.toNat))))), .un, .un] ?_).trans hh
      simp [sSeq, sSet, sOwn, sAli, sAsg, sRet, sRetN, sIf, sPass, sExpr, sFor, sPar, sPar3, sParO, sParO3, eFnX, lendM, lends, lendD, lendR, atomD, keepO, slotOf, sOwn2, eFrz, tvT, truD, sortedD, insertD, eOp2, eOp1, eName, eD, ixD, setS_nw, setS_own, nwAt, noOwn_nw, peek_pl, gSb, gNm, gTp, gCs, gNl, getP, putP, addD, subD, mulD, modD, fdivD, powD, ltD, leD, gtD, geD, isD, isnotD, D.isN, negD, tvB, tvNot, tvAnd, tvOr, evT, evAnd, evOr, evNot, evIf, evChain, eCall, aCons, aNil, peeks, dats, lenD, intD, listD, tupleD, eTup, eLst, eSl, oNone, oSome, slD, revD, eLr1, eLr2, iSeq, iR1_eq, iR1f, iR2_eq, iR2f, iR3_eq, iR3f, iEnu, iZp, tYesM, eMeth, appendD, extendD, popD, reverseD, dropS, eFn, toArgs, backE, aft, finF, backs, eIsi, stp, lim, turning_ok h8 hlt, O.toD]
    by_cases c2 : pV q 3 = 2
    · have hv6 := pV_rg q2 (m := 60) (by omega)
      have hr : 0 ≤ pV q2 60 % ((m : Int) - 1) ∧ pV q2 60 % ((m : Int) - 1) < (m : Int) - 1 := ⟨Int.emod_nonneg _ (by omega), Int.emod_lt_of_pos _ (by omega)⟩
      obtain ⟨p, hp⟩ : ∃ p : Nat, pV q2 60 % ((m : Int) - 1) = p := ⟨(pV q2 60 % ((m : Int) - 1)).toNat, by omega⟩
      have hpm : p + 1 < m := by omega
      have hm1 : 0 < (m : Int) - 1 := by omega
      have hm2 : (1 : Int) < m := by omega
      have hl := letter_ok h8 hpm
      have e1 : 1 + (p : Int) = (p : Int) + 1 := by omega
      refine ⟨cmps (trnT m (w0.take k.toNat)) (sw p idT), pR q2 60, prm_cmps R ((prm_idT m).sw hpm), .inr (step _ [.dat (.int m), .dat (.int (pV q 3)), .dat (.lst (mi (w0.take k.toNat))), .dat (.lst (mi (tab m (cmps (trnT m (w0.take k.toNat)) (sw p idT))))), .dat (.int ((p : Int) + 1)), .un] _ (prm_cmps R ((prm_idT m).sw hpm)) ?_)⟩
      simp [sSeq, sSet, sOwn, sAli, sAsg, sRet, sRetN, sIf, sPass, sExpr, sFor, sPar, sPar3, sParO, sParO3, eFnX, lendM, lends, lendD, lendR, atomD, keepO, slotOf, sOwn2, eFrz, tvT, truD, sortedD, insertD, eOp2, eOp1, eName, eD, ixD, setS_nw, setS_own, nwAt, noOwn_nw, peek_pl, gSb, gNm, gTp, gCs, gNl, getP, putP, addD, subD, mulD, modD, fdivD, powD, ltD, leD, gtD, geD, isD, isnotD, D.isN, negD, tvB, tvNot, tvAnd, tvOr, evT, evAnd, evOr, evNot, evIf, evChain, eCall, aCons, aNil, peeks, dats, lenD, intD, listD, tupleD, eTup, eLst, eSl, oNone, oSome, slD, revD, eLr1, eLr2, iSeq, iR1_eq, iR1f, iR2_eq, iR2f, iR3_eq, iR3f, iEnu, iZp, tYesM, eMeth, appendD, extendD, popD, reverseD, dropS, eFn, toArgs, backE, aft, finF, backs, eIsi, stp, lim, eq_true c2, pick_eq, hm1, hm2, hp, e1, hl, law_composed_ok _ h8 R, O.toD]
    · refine ⟨trnT m (w0.take k.toNat), q2, R, .inr (step _ [.dat (.int m), .dat (.int (pV q 3)), .dat (.lst (mi (w0.take k.toNat))), .dat (.lst (mi (tab m (trnT m (w0.take k.toNat))))), .un, .un] _ R ?_)⟩
      simp [sSeq, sSet, sOwn, sAli, sAsg, sRet, sRetN, sIf, sPass, sExpr, sFor, sPar, sPar3, sParO, sParO3, eFnX, lendM, lends, lendD, lendR, atomD, keepO, slotOf, sOwn2, eFrz, tvT, truD, sortedD, insertD, eOp2, eOp1, eName, eD, ixD, setS_nw, setS_own, nwAt, noOwn_nw, peek_pl, gSb, gNm, gTp, gCs, gNl, getP, putP, addD, subD, mulD, modD, fdivD, powD, ltD, leD, gtD, geD, isD, isnotD, D.isN, negD, tvB, tvNot, tvAnd, tvOr, evT, evAnd, evOr, evNot, evIf, evChain, eCall, aCons, aNil, peeks, dats, lenD, intD, listD, tupleD, eTup, eLst, eSl, oNone, oSome, slD, revD, eLr1, eLr2, iSeq, iR1_eq, iR1f, iR2_eq, iR2f, iR3_eq, iR3f, iEnu, iZp, tYesM, eMeth, appendD, extendD, popD, reverseD, dropS, eFn, toArgs, backE, aft, finF, backs, eIsi, stp, lim, c2]
/-! products -/
theorem nos_mi : ∀ w : List Int, D.nos.go (mi w) = true := by
  intro w
  induction w with
  | nil => rfl
  | cons i w ih => exact ih
theorem lay_mi : ∀ w : List Int, PyData.canLayAll0 (D.py.pys (mi w)) = true := by
  intro w
  induction w with
  | nil => simp [mi, D.py.pys, PyData.canLayAll0]
  | cons i w ih => simpa [mi, D.py.pys, PyData.canLayAll0, D.py, PyData.canLay0] using ih
theorem dep_mi : ∀ w : List Int, PyData.depthAll (D.py.pys (mi w)) = 0 := by
  intro w
  induction w with
  | nil => simp [mi, D.py.pys, PyData.depthAll]
  | cons i w ih => simpa [mi, D.py.pys, PyData.depthAll, D.py, PyData.depth] using ih
theorem eqOk_pair (a b : List Int) : eqOk (.lst [.lst (mi a), .lst (mi b)]) = true := by
  simp [eqOk, D.nos, D.nos.go, SeqAt.shaped, D.py, D.py.pys, PyData.canLay0, PyData.canLayAll0, PyData.depth, PyData.depthAll, nos_mi, lay_mi, dep_mi]
theorem eqB_pair (a b : List Int) : eqB (.lst [.lst (mi a), .lst (mi b)]) (.lst [.lst (mi a), .lst (mi b)]) = true := by
  simp [eqB, D.py, D.py.pys, PyData.eqv, PyData.eqvAll, eqvAll_mi]
theorem eqD_pair (a b : List Int) : eqD (.lst [.lst (mi a), .lst (mi b)]) (.lst [.lst (mi a), .lst (mi b)]) = some (.dat (.bl true)) := by unfold eqD; rw [eqOk_pair, eqB_pair]; rfl
theorem neD_pair (a b : List Int) : neD (.lst [.lst (mi a), .lst (mi b)]) (.lst [.lst (mi a), .lst (mi b)]) = some (.dat (.bl false)) := by unfold neD; rw [eqOk_pair, eqB_pair]; rfl
theorem product_right_ok {m : Nat} {s t : Sq} (h1 : 1 ≤ m) (h8 : m ≤ 8) (P : Prm m s) (R : Prm m t) : f__law_product_right [.dat (.int m), .dat (.lst (mi (tab m s))), .dat (.lst (mi (tab m t)))] = .ok (.dat (.bl true)) [] := by
  have hcs : ∀ x : S, Pl x = true → compL [7] (gNm 7) tYesM c__law_product_right_2 (mi (tab m s)) [.dat (.int m), .dat (.lst (mi (tab m s))), .dat (.lst (mi (tab m t))), .un, .un, .un, .un, .un] [] = .ok (.new (.lst (mi ((tab m s).map fun x => x)))) [.dat (.int m), .dat (.lst (mi (tab m s))), .dat (.lst (mi (tab m t))), .un, .un, .un, .un, .un] := fun x hx => by
    refine comp_map (fun x => x) rfl (by rw [tab_length]; simp only [lim]; omega) fun i hi => ⟨[.dat (.int m), .dat (.lst (mi (tab m s))), .dat (.lst (mi (tab m t))), .un, .un, .un, .un, .dat (.int i)], by simp [gNm, wipeV, sSeq, sSet, sOwn, sAli, sAsg, sRet, sRetN, sIf, sPass, sExpr, sFor, sPar, sPar3, sParO, sParO3, eFnX, lendM, lends, lendD, lendR, atomD, keepO, slotOf, sOwn2, eFrz, tvT, truD, sortedD, insertD, eOp2, eOp1, eName, eD, ixD, setS_nw, setS_own, nwAt, noOwn_nw, peek_pl, gSb, gNm, gTp, gCs, gNl, getP, putP, addD, subD, mulD, modD, fdivD, powD, ltD, leD, gtD, geD, isD, isnotD, D.isN, negD, tvB, tvNot, tvAnd, tvOr, evT, evAnd, evOr, evNot, evIf, evChain, eCall, aCons, aNil, peeks, dats, lenD, intD, listD, tupleD, eTup, eLst, eSl, oNone, oSome, slD, revD, eLr1, eLr2, iSeq, iR1_eq, iR1f, iR2_eq, iR2f, iR3_eq, iR3f, iEnu, iZp, tYesM, eMeth, appendD, extendD, popD, reverseD, dropS, eFn, toArgs, backE, aft, finF, backs, eIsi, stp, lim], [.dat (.int m), .dat (.lst (mi (tab m s))), .dat (.lst (mi (tab m t))), .un, .un, .un, .un, .dat (.int i)], by simp [c__law_product_right_2, sSeq, sSet, sOwn, sAli, sAsg, sRet, sRetN, sIf, sPass, sExpr, sFor, sPar, sPar3, sParO, sParO3, eFnX, lendM, lends, lendD, lendR, atomD, keepO, slotOf, sOwn2, eFrz, tvT, truD, sortedD, insertD, eOp2, eOp1, eName, eD, ixD, setS_nw, setS_own, nwAt, noOwn_nw, peek_pl, gSb, gNm, gTp, gCs, gNl, getP, putP, addD, subD, mulD, modD, fdivD, powD, ltD, leD, gtD, geD, isD, isnotD, D.isN, negD, tvB, tvNot, tvAnd, tvOr, evT, evAnd, evOr, evNot, evIf, evChain, eCall, aCons, aNil, peeks, dats, lenD, intD, listD, tupleD, eTup, eLst, eSl, oNone, oSome, slD, revD, eLr1, eLr2, iSeq, iR1_eq, iR1f, iR2_eq, iR2f, iR3_eq, iR3f, iEnu, iZp, tYesM, eMeth, appendD, extendD, popD, reverseD, dropS, eFn, toArgs, backE, aft, finF, backs, eIsi, stp, lim], rfl, rfl, rfl⟩
  have hct : compL [7] (gNm 7) tYesM c__law_product_right_1 (mi (tab m t)) [.dat (.int m), .dat (.lst (mi (tab m s))), .dat (.lst (mi (tab m t))), .un, .un, .un, .un, .un] [] = .ok (.new (.lst (mi ((tab m t).map fun x => x)))) [.dat (.int m), .dat (.lst (mi (tab m s))), .dat (.lst (mi (tab m t))), .un, .un, .un, .un, .un] := by
    refine comp_map (fun x => x) rfl (by rw [tab_length]; simp only [lim]; omega) fun i hi => ⟨[.dat (.int m), .dat (.lst (mi (tab m s))), .dat (.lst (mi (tab m t))), .un, .un, .un, .un, .dat (.int i)], by simp [gNm, wipeV, sSeq, sSet, sOwn, sAli, sAsg, sRet, sRetN, sIf, sPass, sExpr, sFor, sPar, sPar3, sParO, sParO3, eFnX, lendM, lends, lendD, lendR, atomD, keepO, slotOf, sOwn2, eFrz, tvT, truD, sortedD, insertD, eOp2, eOp1, eName, eD, ixD, setS_nw, setS_own, nwAt, noOwn_nw, peek_pl, gSb, gNm, gTp, gCs, gNl, getP, putP, addD, subD, mulD, modD, fdivD, powD, ltD, leD, gtD, geD, isD, isnotD, D.isN, negD, tvB, tvNot, tvAnd, tvOr, evT, evAnd, evOr, evNot, evIf, evChain, eCall, aCons, aNil, peeks, dats, lenD, intD, listD, tupleD, eTup, eLst, eSl, oNone, oSome, slD, revD, eLr1, eLr2, iSeq, iR1_eq, iR1f, iR2_eq, iR2f, iR3_eq, iR3f, iEnu, iZp, tYesM, eMeth, appendD, extendD, popD, reverseD, dropS, eFn, toArgs, backE, aft, finF, backs, eIsi, stp, lim], [.dat (.int m), .dat (.lst (mi (tab m s))), .dat (.lst (mi (tab m t))), .un, .un, .un, .un, .dat (.int i)], by simp [c__law_product_right_1, sSeq, sSet, sOwn, sAli, sAsg, sRet, sRetN, sIf, sPass, sExpr, sFor, sPar, sPar3, sParO, sParO3, eFnX, lendM, lends, lendD, lendR, atomD, keepO, slotOf, sOwn2, eFrz, tvT, truD, sortedD, insertD, eOp2, eOp1, eName, eD, ixD, setS_nw, setS_own, nwAt, noOwn_nw, peek_pl, gSb, gNm, gTp, gCs, gNl, getP, putP, addD, subD, mulD, modD, fdivD, powD, ltD, leD, gtD, geD, isD, isnotD, D.isN, negD, tvB, tvNot, tvAnd, tvOr, evT, evAnd, evOr, evNot, evIf, evChain, eCall, aCons, aNil, peeks, dats, lenD, intD, listD, tupleD, eTup, eLst, eSl, oNone, oSome, slD, revD, eLr1, eLr2, iSeq, iR1_eq, iR1f, iR2_eq, iR2f, iR3_eq, iR3f, iEnu, iZp, tYesM, eMeth, appendD, extendD, popD, reverseD, dropS, eFn, toArgs, backE, aft, finF, backs, eIsi, stp, lim], rfl, rfl, rfl⟩
  have hcs := hcs .un rfl
  rw [List.map_id'' (fun _ => rfl)] at hcs hct
  have g0 : ∀ (u v : D), L2.atI [u, v] 0 = some u := fun u v => rfl
  have g1 : ∀ (u v : D), L2.atI [u, v] 1 = some v := fun u v => rfl
  let hd : D := .lst [.lst (mi (tab m s)), .lst (mi (tab m t))]
  let E : S → S → S → Ve := fun a b c => [.dat (.int m), .dat (.lst (mi (tab m s))), .dat (.lst (mi (tab m t))), a, .dat hd, b, c, .un]
  have e1 : (sPar 3 4 (aCons false (eFn 2 f__law_composed (aCons true (eName 1) (aCons true (eName 2) aNil))) (aCons true (eLst (aCons false (eComp [7] (iSeq (eName 1)) (gNm 7) tYesM c__law_product_right_2) (aCons true (eComp [7] (iSeq (eName 2)) (gNm 7) tYesM c__law_product_right_1) aNil))) aNil))) [.dat (.int m), .dat (.lst (mi (tab m s))), .dat (.lst (mi (tab m t))), .un, .un, .un, .un, .un] = .nx (E (.dat (.lst (mi (tab m (cmps s t))))) .un .un) := by
    simp [E, hd, eComp, sSeq, sSet, sOwn, sAli, sAsg, sRet, sRetN, sIf, sPass, sExpr, sFor, sPar, sPar3, sParO, sParO3, eFnX, lendM, lends, lendD, lendR, atomD, keepO, slotOf, sOwn2, eFrz, tvT, truD, sortedD, insertD, eOp2, eOp1, eName, eD, ixD, setS_nw, setS_own, nwAt, noOwn_nw, peek_pl, gSb, gNm, gTp, gCs, gNl, getP, putP, addD, subD, mulD, modD, fdivD, powD, ltD, leD, gtD, geD, isD, isnotD, D.isN, negD, tvB, tvNot, tvAnd, tvOr, evT, evAnd, evOr, evNot, evIf, evChain, eCall, aCons, aNil, peeks, dats, lenD, intD, listD, tupleD, eTup, eLst, eSl, oNone, oSome, slD, revD, eLr1, eLr2, iSeq, iR1_eq, iR1f, iR2_eq, iR2f, iR3_eq, iR3f, iEnu, iZp, tYesM, eMeth, appendD, extendD, popD, reverseD, dropS, eFn, toArgs, backE, aft, finF, backs, eIsi, stp, lim, law_composed_ok t h8 P, hcs, hct, O.toD]
  by_cases c : inv (cmps s t) m = inv s m + inv t m
  · have c' : ((inv (cmps s t) m : Nat) : Int) = (inv s m : Int) + (inv t m : Int) := by omega
    have hy := then_yes h1 h8 P R c
    have hsm := same_tab (m := m) (cmps s t) h8
    have i0 : 0 < m := by omega
    have i1 : L2.ixN m 0 = some 0 := by have := ixN_pos (n := m) (i := 0) (by omega) (by omega); simpa using this
    have hl : m < 16777216 := by omega
    unfold f__law_product_right
    refine (runF_rt (by rfl) (by rfl) (r := .dat (.bl true)) (e := E (.dat (.lst (mi (tab m (cmps s t))))) (.own (.lst (mi ((tab m (cmps s t)).set 0 (m : Int) ++ [0])))) (.dat (.lst (mi (tab m (cmps s t)))))) ?_).trans (by simp [E, sSeq, sSet, sOwn, sAli, sAsg, sRet, sRetN, sIf, sPass, sExpr, sFor, sPar, sPar3, sParO, sParO3, eFnX, lendM, lends, lendD, lendR, atomD, keepO, slotOf, sOwn2, eFrz, tvT, truD, sortedD, insertD, eOp2, eOp1, eName, eD, ixD, setS_nw, setS_own, nwAt, noOwn_nw, peek_pl, gSb, gNm, gTp, gCs, gNl, getP, putP, addD, subD, mulD, modD, fdivD, powD, ltD, leD, gtD, geD, isD, isnotD, D.isN, negD, tvB, tvNot, tvAnd, tvOr, evT, evAnd, evOr, evNot, evIf, evChain, eCall, aCons, aNil, peeks, dats, lenD, intD, listD, tupleD, eTup, eLst, eSl, oNone, oSome, slD, revD, eLr1, eLr2, iSeq, iR1_eq, iR1f, iR2_eq, iR2f, iR3_eq, iR3f, iEnu, iZp, tYesM, eMeth, appendD, extendD, popD, reverseD, dropS, eFn, toArgs, backE, aft, finF, backs, eIsi, stp, lim])
    show m__law_product_right [.dat (.int m), .dat (.lst (mi (tab m s))), .dat (.lst (mi (tab m t))), .un, .un, .un, .un, .un] = _
    unfold m__law_product_right
    refine (sSeq_nx _ e1).trans ?_
    refine (sSeq_nx (E (.dat (.lst (mi (tab m (cmps s t))))) .un .un) ?_).trans ?_
    · simp [E, hd, sSeq, sSet, sOwn, sAli, sAsg, sRet, sRetN, sIf, sPass, sExpr, sFor, sPar, sPar3, sParO, sParO3, eFnX, lendM, lends, lendD, lendR, atomD, keepO, slotOf, sOwn2, eFrz, tvT, truD, sortedD, insertD, eOp2, eOp1, eName, eD, ixD, setS_nw, setS_own, nwAt, noOwn_nw, peek_pl, gSb, gNm, gTp, gCs, gNl, getP, putP, addD, subD, mulD, modD, fdivD, powD, ltD, leD, gtD, geD, isD, isnotD, D.isN, negD, tvB, tvNot, tvAnd, tvOr, evT, evAnd, evOr, evNot, evIf, evChain, eCall, aCons, aNil, peeks, dats, lenD, intD, listD, tupleD, eTup, eLst, eSl, oNone, oSome, slD, revD, eLr1, eLr2, iSeq, iR1_eq, iR1f, iR2_eq, iR2f, iR3_eq, iR3f, iEnu, iZp, tYesM, eMeth, appendD, extendD, popD, reverseD, dropS, eFn, toArgs, backE, aft, finF, backs, eIsi, stp, lim, law_crossings_ok _ h8, c']
    refine (sSeq_nx (E (.dat (.lst (mi (tab m (cmps s t))))) (.own (.lst (mi (tab m (cmps s t))))) .un) ?_).trans ?_
    · simp [E, hd, sSeq, sSet, sOwn, sAli, sAsg, sRet, sRetN, sIf, sPass, sExpr, sFor, sPar, sPar3, sParO, sParO3, eFnX, lendM, lends, lendD, lendR, atomD, keepO, slotOf, sOwn2, eFrz, tvT, truD, sortedD, insertD, eOp2, eOp1, eName, eD, ixD, setS_nw, setS_own, nwAt, noOwn_nw, peek_pl, gSb, gNm, gTp, gCs, gNl, getP, putP, addD, subD, mulD, modD, fdivD, powD, ltD, leD, gtD, geD, isD, isnotD, D.isN, negD, tvB, tvNot, tvAnd, tvOr, evT, evAnd, evOr, evNot, evIf, evChain, eCall, aCons, aNil, peeks, dats, lenD, intD, listD, tupleD, eTup, eLst, eSl, oNone, oSome, slD, revD, eLr1, eLr2, iSeq, iR1_eq, iR1f, iR2_eq, iR2f, iR3_eq, iR3f, iEnu, iZp, tYesM, eMeth, appendD, extendD, popD, reverseD, dropS, eFn, toArgs, backE, aft, finF, backs, eIsi, stp, lim, g0, g1, hy]
    refine (sSeq_nx (E (.dat (.lst (mi (tab m (cmps s t))))) (.own (.lst (mi (tab m (cmps s t))))) .un) ?_).trans ?_
    · simp [E, hd, sSeq, sSet, sOwn, sAli, sAsg, sRet, sRetN, sIf, sPass, sExpr, sFor, sPar, sPar3, sParO, sParO3, eFnX, lendM, lends, lendD, lendR, atomD, keepO, slotOf, sOwn2, eFrz, tvT, truD, sortedD, insertD, eOp2, eOp1, eName, eD, ixD, setS_nw, setS_own, nwAt, noOwn_nw, peek_pl, gSb, gNm, gTp, gCs, gNl, getP, putP, addD, subD, mulD, modD, fdivD, powD, ltD, leD, gtD, geD, isD, isnotD, D.isN, negD, tvB, tvNot, tvAnd, tvOr, evT, evAnd, evOr, evNot, evIf, evChain, eCall, aCons, aNil, peeks, dats, lenD, intD, listD, tupleD, eTup, eLst, eSl, oNone, oSome, slD, revD, eLr1, eLr2, iSeq, iR1_eq, iR1f, iR2_eq, iR2f, iR3_eq, iR3f, iEnu, iZp, tYesM, eMeth, appendD, extendD, popD, reverseD, dropS, eFn, toArgs, backE, aft, finF, backs, eIsi, stp, lim, hsm, O.toD, neD_pair]
    refine (sSeq_nx (E (.dat (.lst (mi (tab m (cmps s t))))) (.own (.lst (mi ((tab m (cmps s t)).set 0 (m : Int) ++ [0])))) .un) ?_).trans ?_
    · simp [E, hd, sSeq, sSet, sOwn, sAli, sAsg, sRet, sRetN, sIf, sPass, sExpr, sFor, sPar, sPar3, sParO, sParO3, eFnX, lendM, lends, lendD, lendR, atomD, keepO, slotOf, sOwn2, eFrz, tvT, truD, sortedD, insertD, eOp2, eOp1, eName, eD, ixD, setS_nw, setS_own, nwAt, noOwn_nw, peek_pl, gSb, gNm, gTp, gCs, gNl, getP, putP, addD, subD, mulD, modD, fdivD, powD, ltD, leD, gtD, geD, isD, isnotD, D.isN, negD, tvB, tvNot, tvAnd, tvOr, evT, evAnd, evOr, evNot, evIf, evChain, eCall, aCons, aNil, peeks, dats, lenD, intD, listD, tupleD, eTup, eLst, eSl, oNone, oSome, slD, revD, eLr1, eLr2, iSeq, iR1_eq, iR1f, iR2_eq, iR2f, iR3_eq, iR3f, iEnu, iZp, tYesM, eMeth, appendD, extendD, popD, reverseD, dropS, eFn, toArgs, backE, aft, finF, backs, eIsi, stp, lim, tab_length, i1, hl]
    refine (sSeq_nx (E (.dat (.lst (mi (tab m (cmps s t))))) (.own (.lst (mi ((tab m (cmps s t)).set 0 (m : Int) ++ [0])))) (.dat (.lst (mi (tab m (cmps s t)))))) ?_).trans ?_
    · simp [E, hd, sSeq, sSet, sOwn, sAli, sAsg, sRet, sRetN, sIf, sPass, sExpr, sFor, sPar, sPar3, sParO, sParO3, eFnX, lendM, lends, lendD, lendR, atomD, keepO, slotOf, sOwn2, eFrz, tvT, truD, sortedD, insertD, eOp2, eOp1, eName, eD, ixD, setS_nw, setS_own, nwAt, noOwn_nw, peek_pl, gSb, gNm, gTp, gCs, gNl, getP, putP, addD, subD, mulD, modD, fdivD, powD, ltD, leD, gtD, geD, isD, isnotD, D.isN, negD, tvB, tvNot, tvAnd, tvOr, evT, evAnd, evOr, evNot, evIf, evChain, eCall, aCons, aNil, peeks, dats, lenD, intD, listD, tupleD, eTup, eLst, eSl, oNone, oSome, slD, revD, eLr1, eLr2, iSeq, iR1_eq, iR1f, iR2_eq, iR2f, iR3_eq, iR3f, iEnu, iZp, tYesM, eMeth, appendD, extendD, popD, reverseD, dropS, eFn, toArgs, backE, aft, finF, backs, eIsi, stp, lim, g0, g1, hy, O.toD]
    simp [E, hd, sSeq, sSet, sOwn, sAli, sAsg, sRet, sRetN, sIf, sPass, sExpr, sFor, sPar, sPar3, sParO, sParO3, eFnX, lendM, lends, lendD, lendR, atomD, keepO, slotOf, sOwn2, eFrz, tvT, truD, sortedD, insertD, eOp2, eOp1, eName, eD, ixD, setS_nw, setS_own, nwAt, noOwn_nw, peek_pl, gSb, gNm, gTp, gCs, gNl, getP, putP, addD, subD, mulD, modD, fdivD, powD, ltD, leD, gtD, geD, isD, isnotD, D.isN, negD, tvB, tvNot, tvAnd, tvOr, evT, evAnd, evOr, evNot, evIf, evChain, eCall, aCons, aNil, peeks, dats, lenD, intD, listD, tupleD, eTup, eLst, eSl, oNone, oSome, slD, revD, eLr1, eLr2, iSeq, iR1_eq, iR1f, iR2_eq, iR2f, iR3_eq, iR3f, iEnu, iZp, tYesM, eMeth, appendD, extendD, popD, reverseD, dropS, eFn, toArgs, backE, aft, finF, backs, eIsi, stp, lim, hsm, O.toD, eqD_pair]
  · have c' : ¬ ((inv (cmps s t) m : Nat) : Int) = (inv s m : Int) + (inv t m : Int) := by omega
    have hy := then_no h1 h8 P R c
    unfold f__law_product_right
    refine (runF_rt (by rfl) (by rfl) (r := .dat (.bl true)) (e := E (.dat .non) (.dat .non) (.dat .non)) ?_).trans (by simp [E, sSeq, sSet, sOwn, sAli, sAsg, sRet, sRetN, sIf, sPass, sExpr, sFor, sPar, sPar3, sParO, sParO3, eFnX, lendM, lends, lendD, lendR, atomD, keepO, slotOf, sOwn2, eFrz, tvT, truD, sortedD, insertD, eOp2, eOp1, eName, eD, ixD, setS_nw, setS_own, nwAt, noOwn_nw, peek_pl, gSb, gNm, gTp, gCs, gNl, getP, putP, addD, subD, mulD, modD, fdivD, powD, ltD, leD, gtD, geD, isD, isnotD, D.isN, negD, tvB, tvNot, tvAnd, tvOr, evT, evAnd, evOr, evNot, evIf, evChain, eCall, aCons, aNil, peeks, dats, lenD, intD, listD, tupleD, eTup, eLst, eSl, oNone, oSome, slD, revD, eLr1, eLr2, iSeq, iR1_eq, iR1f, iR2_eq, iR2f, iR3_eq, iR3f, iEnu, iZp, tYesM, eMeth, appendD, extendD, popD, reverseD, dropS, eFn, toArgs, backE, aft, finF, backs, eIsi, stp, lim])
    show m__law_product_right [.dat (.int m), .dat (.lst (mi (tab m s))), .dat (.lst (mi (tab m t))), .un, .un, .un, .un, .un] = _
    unfold m__law_product_right
    refine (sSeq_nx _ e1).trans ?_
    refine (sSeq_nx (E (.dat .non) .un .un) ?_).trans ?_
    · simp [E, hd, sSeq, sSet, sOwn, sAli, sAsg, sRet, sRetN, sIf, sPass, sExpr, sFor, sPar, sPar3, sParO, sParO3, eFnX, lendM, lends, lendD, lendR, atomD, keepO, slotOf, sOwn2, eFrz, tvT, truD, sortedD, insertD, eOp2, eOp1, eName, eD, ixD, setS_nw, setS_own, nwAt, noOwn_nw, peek_pl, gSb, gNm, gTp, gCs, gNl, getP, putP, addD, subD, mulD, modD, fdivD, powD, ltD, leD, gtD, geD, isD, isnotD, D.isN, negD, tvB, tvNot, tvAnd, tvOr, evT, evAnd, evOr, evNot, evIf, evChain, eCall, aCons, aNil, peeks, dats, lenD, intD, listD, tupleD, eTup, eLst, eSl, oNone, oSome, slD, revD, eLr1, eLr2, iSeq, iR1_eq, iR1f, iR2_eq, iR2f, iR3_eq, iR3f, iEnu, iZp, tYesM, eMeth, appendD, extendD, popD, reverseD, dropS, eFn, toArgs, backE, aft, finF, backs, eIsi, stp, lim, law_crossings_ok _ h8, c']
    refine (sSeq_nx (E (.dat .non) (.dat .non) .un) ?_).trans ?_
    · simp [E, hd, sSeq, sSet, sOwn, sAli, sAsg, sRet, sRetN, sIf, sPass, sExpr, sFor, sPar, sPar3, sParO, sParO3, eFnX, lendM, lends, lendD, lendR, atomD, keepO, slotOf, sOwn2, eFrz, tvT, truD, sortedD, insertD, eOp2, eOp1, eName, eD, ixD, setS_nw, setS_own, nwAt, noOwn_nw, peek_pl, gSb, gNm, gTp, gCs, gNl, getP, putP, addD, subD, mulD, modD, fdivD, powD, ltD, leD, gtD, geD, isD, isnotD, D.isN, negD, tvB, tvNot, tvAnd, tvOr, evT, evAnd, evOr, evNot, evIf, evChain, eCall, aCons, aNil, peeks, dats, lenD, intD, listD, tupleD, eTup, eLst, eSl, oNone, oSome, slD, revD, eLr1, eLr2, iSeq, iR1_eq, iR1f, iR2_eq, iR2f, iR3_eq, iR3f, iEnu, iZp, tYesM, eMeth, appendD, extendD, popD, reverseD, dropS, eFn, toArgs, backE, aft, finF, backs, eIsi, stp, lim, g0, g1, hy]
    refine (sSeq_nx (E (.dat .non) (.dat .non) .un) ?_).trans ?_
    · simp [E, hd, sSeq, sSet, sOwn, sAli, sAsg, sRet, sRetN, sIf, sPass, sExpr, sFor, sPar, sPar3, sParO, sParO3, eFnX, lendM, lends, lendD, lendR, atomD, keepO, slotOf, sOwn2, eFrz, tvT, truD, sortedD, insertD, eOp2, eOp1, eName, eD, ixD, setS_nw, setS_own, nwAt, noOwn_nw, peek_pl, gSb, gNm, gTp, gCs, gNl, getP, putP, addD, subD, mulD, modD, fdivD, powD, ltD, leD, gtD, geD, isD, isnotD, D.isN, negD, tvB, tvNot, tvAnd, tvOr, evT, evAnd, evOr, evNot, evIf, evChain, eCall, aCons, aNil, peeks, dats, lenD, intD, listD, tupleD, eTup, eLst, eSl, oNone, oSome, slD, revD, eLr1, eLr2, iSeq, iR1_eq, iR1f, iR2_eq, iR2f, iR3_eq, iR3f, iEnu, iZp, tYesM, eMeth, appendD, extendD, popD, reverseD, dropS, eFn, toArgs, backE, aft, finF, backs, eIsi, stp, lim, same_non, O.toD, neD_pair]
    refine (sSeq_nx (E (.dat .non) (.dat .non) .un) ?_).trans ?_
    · simp [E, hd, sSeq, sSet, sOwn, sAli, sAsg, sRet, sRetN, sIf, sPass, sExpr, sFor, sPar, sPar3, sParO, sParO3, eFnX, lendM, lends, lendD, lendR, atomD, keepO, slotOf, sOwn2, eFrz, tvT, truD, sortedD, insertD, eOp2, eOp1, eName, eD, ixD, setS_nw, setS_own, nwAt, noOwn_nw, peek_pl, gSb, gNm, gTp, gCs, gNl, getP, putP, addD, subD, mulD, modD, fdivD, powD, ltD, leD, gtD, geD, isD, isnotD, D.isN, negD, tvB, tvNot, tvAnd, tvOr, evT, evAnd, evOr, evNot, evIf, evChain, eCall, aCons, aNil, peeks, dats, lenD, intD, listD, tupleD, eTup, eLst, eSl, oNone, oSome, slD, revD, eLr1, eLr2, iSeq, iR1_eq, iR1f, iR2_eq, iR2f, iR3_eq, iR3f, iEnu, iZp, tYesM, eMeth, appendD, extendD, popD, reverseD, dropS, eFn, toArgs, backE, aft, finF, backs, eIsi, stp, lim]
    refine (sSeq_nx (E (.dat .non) (.dat .non) (.dat .non)) ?_).trans ?_
    · simp [E, hd, sSeq, sSet, sOwn, sAli, sAsg, sRet, sRetN, sIf, sPass, sExpr, sFor, sPar, sPar3, sParO, sParO3, eFnX, lendM, lends, lendD, lendR, atomD, keepO, slotOf, sOwn2, eFrz, tvT, truD, sortedD, insertD, eOp2, eOp1, eName, eD, ixD, setS_nw, setS_own, nwAt, noOwn_nw, peek_pl, gSb, gNm, gTp, gCs, gNl, getP, putP, addD, subD, mulD, modD, fdivD, powD, ltD, leD, gtD, geD, isD, isnotD, D.isN, negD, tvB, tvNot, tvAnd, tvOr, evT, evAnd, evOr, evNot, evIf, evChain, eCall, aCons, aNil, peeks, dats, lenD, intD, listD, tupleD, eTup, eLst, eSl, oNone, oSome, slD, revD, eLr1, eLr2, iSeq, iR1_eq, iR1f, iR2_eq, iR2f, iR3_eq, iR3f, iEnu, iZp, tYesM, eMeth, appendD, extendD, popD, reverseD, dropS, eFn, toArgs, backE, aft, finF, backs, eIsi, stp, lim, g0, g1, hy, O.toD]
    simp [E, hd, sSeq, sSet, sOwn, sAli, sAsg, sRet, sRetN, sIf, sPass, sExpr, sFor, sPar, sPar3, sParO, sParO3, eFnX, lendM, lends, lendD, lendR, atomD, keepO, slotOf, sOwn2, eFrz, tvT, truD, sortedD, insertD, eOp2, eOp1, eName, eD, ixD, setS_nw, setS_own, nwAt, noOwn_nw, peek_pl, gSb, gNm, gTp, gCs, gNl, getP, putP, addD, subD, mulD, modD, fdivD, powD, ltD, leD, gtD, geD, isD, isnotD, D.isN, negD, tvB, tvNot, tvAnd, tvOr, evT, evAnd, evOr, evNot, evIf, evChain, eCall, aCons, aNil, peeks, dats, lenD, intD, listD, tupleD, eTup, eLst, eSl, oNone, oSome, slD, revD, eLr1, eLr2, iSeq, iR1_eq, iR1f, iR2_eq, iR2f, iR3_eq, iR3f, iEnu, iZp, tYesM, eMeth, appendD, extendD, popD, reverseD, dropS, eFn, toArgs, backE, aft, finF, backs, eIsi, stp, lim, same_non, O.toD, eqD_pair]
end Law
namespace Law
open PySem DL Mir Bm
theorem tabs {m : Nat} {s t : Sq} (h : ∀ k, k < m → s k = t k) : tab m s = tab m t := tab_eq.mpr h
theorem prm_congr {m : Nat} {s t : Sq} (P : Prm m s) (h : ∀ k, k < m → s k = t k) : Prm m t := ⟨fun k hk => by rw [← h k hk]; exact P.lo k hk, fun j k hj hk e => P.inj j k hj hk (by rw [h j hj, h k hk]; exact e)⟩
theorem prm_half (m : Nat) : Prm m (half m) := prm_opp (prm_idT m)
theorem rests_right_ok {m : Nat} {s : Sq} (h1 : 1 ≤ m) (h8 : m ≤ 8) (P : Prm m s) : f__law_rests_right [.dat (.int m), .dat (.lst (mi (tab m s)))] = .ok (.dat (.bl true)) [] := by
  obtain ⟨PB, _⟩ := prm_bk P
  let R : Sq := opp m (bk s m)
  let F : Sq := rev m (bk s m)
  let A : Sq := abt m s
  have PR : Prm m R := prm_opp PB
  have PF : Prm m F := prm_rev' PB
  have PA : Prm m A := prm_opp (prm_rev' P)
  have PH := prm_half m
  -- what the calls return
  have c1 : f_rest_of [.dat (.int m), .dat (.lst (mi (tab m s)))] = .ok (.new (.lst (mi (tab m R)))) [] := rest_of_ok h1 h8 P
  have c2 : f_fore_rest [.dat (.int m), .dat (.lst (mi (tab m s)))] = .ok (.new (.lst (mi (tab m F)))) [] := fore_rest_ok h1 h8 P
  have c3 : f_turned_simple [.dat (.int m), .dat (.lst (mi (tab m s)))] = .ok (.new (.lst (mi (tab m A)))) [] := turned_ok h1 h8 P
  have t1 := is_turning_ok h8 PR
  have t2 := is_turning_ok h8 PF
  have t3 := is_turning_ok h8 PA
  have k1 : f__law_composed [.dat (.lst (mi (tab m s))), .dat (.lst (mi (tab m R)))] = .ok (.new (.lst (mi (tab m (half m))))) [] := by
    rw [law_composed_ok R h8 P, tabs (rest_half P).1]
  have k2 : f__law_composed [.dat (.lst (mi (tab m F))), .dat (.lst (mi (tab m s)))] = .ok (.new (.lst (mi (tab m (half m))))) [] := by
    rw [law_composed_ok s h8 PF, tabs (fore_half P).1]
  have k3 : f__law_composed [.dat (.lst (mi (tab m s))), .dat (.lst (mi (tab m (half m))))] = .ok (.new (.lst (mi (tab m (cmps s (half m)))))) [] := law_composed_ok _ h8 P
  have k4 : f__law_composed [.dat (.lst (mi (tab m (half m)))), .dat (.lst (mi (tab m A)))] = .ok (.new (.lst (mi (tab m (cmps s (half m)))))) [] := by
    rw [law_composed_ok A h8 PH, tabs fun k hk => (half_about P k hk).symm]
  have d1 : f_then_simple [.dat (.int m), .dat (.lst (mi (tab m s))), .dat (.lst (mi (tab m R)))] = .ok (.new (.lst (mi (tab m (half m))))) [] := by
    rw [then_yes h1 h8 P PR (rest_half P).2, tabs (rest_half P).1]
  have d2 : f_then_simple [.dat (.int m), .dat (.lst (mi (tab m F))), .dat (.lst (mi (tab m s)))] = .ok (.new (.lst (mi (tab m (half m))))) [] := by
    rw [then_yes h1 h8 PF P (fore_half P).2, tabs (fore_half P).1]
  have r1 : f_fore_rest [.dat (.int m), .dat (.lst (mi (tab m R)))] = .ok (.new (.lst (mi (tab m s)))) [] := by
    rw [fore_rest_ok h1 h8 PR, tabs (rest_fore P)]
  have r2 : f_rest_of [.dat (.int m), .dat (.lst (mi (tab m F)))] = .ok (.new (.lst (mi (tab m s)))) [] := by
    rw [rest_of_ok h1 h8 PF, tabs (fore_rest' P)]
  have r3 : f_turned_simple [.dat (.int m), .dat (.lst (mi (tab m A)))] = .ok (.new (.lst (mi (tab m s)))) [] := by
    rw [turned_ok h1 h8 PA, tabs abt_abt]
  have r4 : f_rest_of [.dat (.int m), .dat (.lst (mi (tab m R)))] = .ok (.new (.lst (mi (tab m A)))) [] := by
    rw [rest_of_ok h1 h8 PR, tabs (rest_rest P)]
  have m1 := same_tab (m := m) (half m) h8
  have m2 := same_tab (m := m) s h8
  have m3 := same_tab (m := m) A h8
  have m4 := same_tab (m := m) R h8
  have z4 : (m : Int) ≤ 16777216 := by omega
  have z5 : -(4611686018427387904 : Int) ≤ m := by omega
  have hh : mi (rg 0 m).reverse = mi (tab m (half m)) := by rw [half_tab]
  have hcs : compL [8] (gNm 8) tYesM c__law_rests_right_2 (mi (tab m s)) [.dat (.int m), .dat (.lst (mi (tab m s))), .un, .un, .un, .un, .un, .un, .un] [] = .ok (.new (.lst (mi ((tab m s).map fun x => x)))) [.dat (.int m), .dat (.lst (mi (tab m s))), .un, .un, .un, .un, .un, .un, .un] := by
    refine comp_map (fun x => x) rfl (by rw [tab_length]; simp only [lim]; omega) fun i hi => ⟨[.dat (.int m), .dat (.lst (mi (tab m s))), .un, .un, .un, .un, .un, .un, .dat (.int i)], by simp [gNm, wipeV, sSeq, sSet, sOwn, sAli, sAsg, sRet, sRetN, sIf, sPass, sExpr, sFor, sPar, sPar3, sParO, sParO3, eFnX, lendM, lends, lendD, lendR, atomD, keepO, slotOf, sOwn2, eFrz, tvT, truD, sortedD, insertD, eOp2, eOp1, eName, eD, ixD, setS_nw, setS_own, nwAt, noOwn_nw, peek_pl, gSb, gNm, gTp, gCs, gNl, getP, putP, addD, subD, mulD, modD, fdivD, powD, ltD, leD, gtD, geD, isD, isnotD, D.isN, negD, tvB, tvNot, tvAnd, tvOr, evT, evAnd, evOr, evNot, evIf, evChain, eCall, aCons, aNil, peeks, dats, lenD, intD, listD, tupleD, eTup, eLst, eSl, oNone, oSome, slD, revD, eLr1, eLr2, iSeq, iR1_eq, iR1f, iR2_eq, iR2f, iR3_eq, iR3f, iEnu, iZp, tYesM, eMeth, appendD, extendD, popD, reverseD, dropS, eFn, toArgs, backE, aft, finF, backs, eIsi, stp, lim], [.dat (.int m), .dat (.lst (mi (tab m s))), .un, .un, .un, .un, .un, .un, .dat (.int i)], by simp [c__law_rests_right_2, sSeq, sSet, sOwn, sAli, sAsg, sRet, sRetN, sIf, sPass, sExpr, sFor, sPar, sPar3, sParO, sParO3, eFnX, lendM, lends, lendD, lendR, atomD, keepO, slotOf, sOwn2, eFrz, tvT, truD, sortedD, insertD, eOp2, eOp1, eName, eD, ixD, setS_nw, setS_own, nwAt, noOwn_nw, peek_pl, gSb, gNm, gTp, gCs, gNl, getP, putP, addD, subD, mulD, modD, fdivD, powD, ltD, leD, gtD, geD, isD, isnotD, D.isN, negD, tvB, tvNot, tvAnd, tvOr, evT, evAnd, evOr, evNot, evIf, evChain, eCall, aCons, aNil, peeks, dats, lenD, intD, listD, tupleD, eTup, eLst, eSl, oNone, oSome, slD, revD, eLr1, eLr2, iSeq, iR1_eq, iR1f, iR2_eq, iR2f, iR3_eq, iR3f, iEnu, iZp, tYesM, eMeth, appendD, extendD, popD, reverseD, dropS, eFn, toArgs, backE, aft, finF, backs, eIsi, stp, lim], rfl, rfl, rfl⟩
  let E : List Int → List Int → List Int → S → Ve := fun a b c x => [.dat (.int m), .dat (.lst (mi (tab m s))), .dat (.lst (mi (tab m (half m)))), .dat (.lst (mi (tab m s))), .own (.lst (mi a)), .own (.lst (mi b)), .own (.lst (mi c)), x, .un]
  have hcp : compL [8] (gNm 8) tYesM c__law_rests_right_1 (mi (tab m R)) (E (tab m R) (tab m F) (tab m A) .un) [] = .ok (.new (.lst (mi ((tab m R).map fun x => x)))) (E (tab m R) (tab m F) (tab m A) .un) := by
    refine comp_map (fun x => x) rfl (by rw [tab_length]; simp only [lim]; omega) fun i hi => ⟨[.dat (.int m), .dat (.lst (mi (tab m s))), .dat (.lst (mi (tab m (half m)))), .dat (.lst (mi (tab m s))), .own (.lst (mi (tab m R))), .own (.lst (mi (tab m F))), .own (.lst (mi (tab m A))), .un, .dat (.int i)], by simp [E, gNm, wipeV, sSeq, sSet, sOwn, sAli, sAsg, sRet, sRetN, sIf, sPass, sExpr, sFor, sPar, sPar3, sParO, sParO3, eFnX, lendM, lends, lendD, lendR, atomD, keepO, slotOf, sOwn2, eFrz, tvT, truD, sortedD, insertD, eOp2, eOp1, eName, eD, ixD, setS_nw, setS_own, nwAt, noOwn_nw, peek_pl, gSb, gNm, gTp, gCs, gNl, getP, putP, addD, subD, mulD, modD, fdivD, powD, ltD, leD, gtD, geD, isD, isnotD, D.isN, negD, tvB, tvNot, tvAnd, tvOr, evT, evAnd, evOr, evNot, evIf, evChain, eCall, aCons, aNil, peeks, dats, lenD, intD, listD, tupleD, eTup, eLst, eSl, oNone, oSome, slD, revD, eLr1, eLr2, iSeq, iR1_eq, iR1f, iR2_eq, iR2f, iR3_eq, iR3f, iEnu, iZp, tYesM, eMeth, appendD, extendD, popD, reverseD, dropS, eFn, toArgs, backE, aft, finF, backs, eIsi, stp, lim], [.dat (.int m), .dat (.lst (mi (tab m s))), .dat (.lst (mi (tab m (half m)))), .dat (.lst (mi (tab m s))), .own (.lst (mi (tab m R))), .own (.lst (mi (tab m F))), .own (.lst (mi (tab m A))), .un, .dat (.int i)], by simp [c__law_rests_right_1, sSeq, sSet, sOwn, sAli, sAsg, sRet, sRetN, sIf, sPass, sExpr, sFor, sPar, sPar3, sParO, sParO3, eFnX, lendM, lends, lendD, lendR, atomD, keepO, slotOf, sOwn2, eFrz, tvT, truD, sortedD, insertD, eOp2, eOp1, eName, eD, ixD, setS_nw, setS_own, nwAt, noOwn_nw, peek_pl, gSb, gNm, gTp, gCs, gNl, getP, putP, addD, subD, mulD, modD, fdivD, powD, ltD, leD, gtD, geD, isD, isnotD, D.isN, negD, tvB, tvNot, tvAnd, tvOr, evT, evAnd, evOr, evNot, evIf, evChain, eCall, aCons, aNil, peeks, dats, lenD, intD, listD, tupleD, eTup, eLst, eSl, oNone, oSome, slD, revD, eLr1, eLr2, iSeq, iR1_eq, iR1f, iR2_eq, iR2f, iR3_eq, iR3f, iEnu, iZp, tYesM, eMeth, appendD, extendD, popD, reverseD, dropS, eFn, toArgs, backE, aft, finF, backs, eIsi, stp, lim], rfl, rfl, rfl⟩
  rw [List.map_id'' (fun _ => rfl)] at hcs hcp
  have hcN : eCompN [8] 4 (gNm 8) tYesM c__law_rests_right_1 (E (tab m R) (tab m F) (tab m A) .un) = .ok (.new (.lst (mi (tab m R)))) (E (tab m R) (tab m F) (tab m A) .un) := by
    rw [eCompN_own (xs := mi (tab m R)) rfl, hcp]
    intro x hx e2 e3 b q1 q2
    obtain ⟨k, hk, rfl⟩ := List.mem_map.1 hx
    have g : gNm 8 (D.int k) (wipeV [8] (E (tab m R) (tab m F) (tab m A) .un)) = some [.dat (.int m), .dat (.lst (mi (tab m s))), .dat (.lst (mi (tab m (half m)))), .dat (.lst (mi (tab m s))), .own (.lst (mi (tab m R))), .own (.lst (mi (tab m F))), .own (.lst (mi (tab m A))), .un, .dat (.int k)] := by simp [E, gNm, wipeV, sSeq, sSet, sOwn, sAli, sAsg, sRet, sRetN, sIf, sPass, sExpr, sFor, sPar, sPar3, sParO, sParO3, eFnX, lendM, lends, lendD, lendR, atomD, keepO, slotOf, sOwn2, eFrz, tvT, truD, sortedD, insertD, eOp2, eOp1, eName, eD, ixD, setS_nw, setS_own, nwAt, noOwn_nw, peek_pl, gSb, gNm, gTp, gCs, gNl, getP, putP, addD, subD, mulD, modD, fdivD, powD, ltD, leD, gtD, geD, isD, isnotD, D.isN, negD, tvB, tvNot, tvAnd, tvOr, evT, evAnd, evOr, evNot, evIf, evChain, eCall, aCons, aNil, peeks, dats, lenD, intD, listD, tupleD, eTup, eLst, eSl, oNone, oSome, slD, revD, eLr1, eLr2, iSeq, iR1_eq, iR1f, iR2_eq, iR2f, iR3_eq, iR3f, iEnu, iZp, tYesM, eMeth, appendD, extendD, popD, reverseD, dropS, eFn, toArgs, backE, aft, finF, backs, eIsi, stp, lim]
    rw [g] at q1
    cases q1
    cases q2
    have hv : hold true (c__law_rests_right_1 [.dat (.int m), .dat (.lst (mi (tab m s))), .dat (.lst (mi (tab m (half m)))), .dat (.lst (mi (tab m s))), .own (.lst (mi (tab m R))), .own (.lst (mi (tab m F))), .own (.lst (mi (tab m A))), .un, .dat (.int k)]) = .ok (.dat (.int k)) [.dat (.int m), .dat (.lst (mi (tab m s))), .dat (.lst (mi (tab m (half m)))), .dat (.lst (mi (tab m s))), .own (.lst (mi (tab m R))), .own (.lst (mi (tab m F))), .own (.lst (mi (tab m A))), .un, .dat (.int k)] := by simp [c__law_rests_right_1, sSeq, sSet, sOwn, sAli, sAsg, sRet, sRetN, sIf, sPass, sExpr, sFor, sPar, sPar3, sParO, sParO3, eFnX, lendM, lends, lendD, lendR, atomD, keepO, slotOf, sOwn2, eFrz, tvT, truD, sortedD, insertD, eOp2, eOp1, eName, eD, ixD, setS_nw, setS_own, nwAt, noOwn_nw, peek_pl, gSb, gNm, gTp, gCs, gNl, getP, putP, addD, subD, mulD, modD, fdivD, powD, ltD, leD, gtD, geD, isD, isnotD, D.isN, negD, tvB, tvNot, tvAnd, tvOr, evT, evAnd, evOr, evNot, evIf, evChain, eCall, aCons, aNil, peeks, dats, lenD, intD, listD, tupleD, eTup, eLst, eSl, oNone, oSome, slD, revD, eLr1, eLr2, iSeq, iR1_eq, iR1f, iR2_eq, iR2f, iR3_eq, iR3f, iEnu, iZp, tYesM, eMeth, appendD, extendD, popD, reverseD, dropS, eFn, toArgs, backE, aft, finF, backs, eIsi, stp, lim]
    refine ⟨(fun h => nomatch h), fun _ x e4 he => ?_⟩
    rw [hv] at he
    cases he
    rfl
  have hl : m < 16777216 := by omega
  have i1 : L2.ixN m 0 = some 0 := by have := ixN_pos (n := m) (i := 0) (by omega) (by omega); simpa using this
  unfold f__law_rests_right
  refine (runF_rt (by rfl) (by rfl) (r := .dat (.bl true)) (e := E (tab m R ++ [0]) ((tab m F).set 0 (m : Int)) (tab m A ++ [(m : Int)]) (.dat (.lst (mi (tab m R))))) ?_).trans (by simp [E, sSeq, sSet, sOwn, sAli, sAsg, sRet, sRetN, sIf, sPass, sExpr, sFor, sPar, sPar3, sParO, sParO3, eFnX, lendM, lends, lendD, lendR, atomD, keepO, slotOf, sOwn2, eFrz, tvT, truD, sortedD, insertD, eOp2, eOp1, eName, eD, ixD, setS_nw, setS_own, nwAt, noOwn_nw, peek_pl, gSb, gNm, gTp, gCs, gNl, getP, putP, addD, subD, mulD, modD, fdivD, powD, ltD, leD, gtD, geD, isD, isnotD, D.isN, negD, tvB, tvNot, tvAnd, tvOr, evT, evAnd, evOr, evNot, evIf, evChain, eCall, aCons, aNil, peeks, dats, lenD, intD, listD, tupleD, eTup, eLst, eSl, oNone, oSome, slD, revD, eLr1, eLr2, iSeq, iR1_eq, iR1f, iR2_eq, iR2f, iR3_eq, iR3f, iEnu, iZp, tYesM, eMeth, appendD, extendD, popD, reverseD, dropS, eFn, toArgs, backE, aft, finF, backs, eIsi, stp, lim])
  show m__law_rests_right [.dat (.int m), .dat (.lst (mi (tab m s))), .un, .un, .un, .un, .un, .un, .un] = _
  unfold m__law_rests_right
  refine (sSeq_nx [.dat (.int m), .dat (.lst (mi (tab m s))), .dat (.lst (mi (tab m (half m)))), .dat (.lst (mi (tab m s))), .un, .un, .un, .un, .un] ?_).trans ?_
  · simp [eComp, sSeq, sSet, sOwn, sAli, sAsg, sRet, sRetN, sIf, sPass, sExpr, sFor, sPar, sPar3, sParO, sParO3, eFnX, lendM, lends, lendD, lendR, atomD, keepO, slotOf, sOwn2, eFrz, tvT, truD, sortedD, insertD, eOp2, eOp1, eName, eD, ixD, setS_nw, setS_own, nwAt, noOwn_nw, peek_pl, gSb, gNm, gTp, gCs, gNl, getP, putP, addD, subD, mulD, modD, fdivD, powD, ltD, leD, gtD, geD, isD, isnotD, D.isN, negD, tvB, tvNot, tvAnd, tvOr, evT, evAnd, evOr, evNot, evIf, evChain, eCall, aCons, aNil, peeks, dats, lenD, intD, listD, tupleD, eTup, eLst, eSl, oNone, oSome, slD, revD, eLr1, eLr2, iSeq, iR1_eq, iR1f, iR2_eq, iR2f, iR3_eq, iR3f, iEnu, iZp, tYesM, eMeth, appendD, extendD, popD, reverseD, dropS, eFn, toArgs, backE, aft, finF, backs, eIsi, stp, lim, z4, z5, hh, hcs, O.toD]
  refine (sSeq_nx (E (tab m R) (tab m F) (tab m A) .un) ?_).trans ?_
  · simp [E, sSeq, sSet, sOwn, sAli, sAsg, sRet, sRetN, sIf, sPass, sExpr, sFor, sPar, sPar3, sParO, sParO3, eFnX, lendM, lends, lendD, lendR, atomD, keepO, slotOf, sOwn2, eFrz, tvT, truD, sortedD, insertD, eOp2, eOp1, eName, eD, ixD, setS_nw, setS_own, nwAt, noOwn_nw, peek_pl, gSb, gNm, gTp, gCs, gNl, getP, putP, addD, subD, mulD, modD, fdivD, powD, ltD, leD, gtD, geD, isD, isnotD, D.isN, negD, tvB, tvNot, tvAnd, tvOr, evT, evAnd, evOr, evNot, evIf, evChain, eCall, aCons, aNil, peeks, dats, lenD, intD, listD, tupleD, eTup, eLst, eSl, oNone, oSome, slD, revD, eLr1, eLr2, iSeq, iR1_eq, iR1f, iR2_eq, iR2f, iR3_eq, iR3f, iEnu, iZp, tYesM, eMeth, appendD, extendD, popD, reverseD, dropS, eFn, toArgs, backE, aft, finF, backs, eIsi, stp, lim, c1, c2, c3]
  refine (sSeq_nx (E (tab m R) (tab m F) (tab m A) .un) ?_).trans ?_
  · simp [E, sSeq, sSet, sOwn, sAli, sAsg, sRet, sRetN, sIf, sPass, sExpr, sFor, sPar, sPar3, sParO, sParO3, eFnX, lendM, lends, lendD, lendR, atomD, keepO, slotOf, sOwn2, eFrz, tvT, truD, sortedD, insertD, eOp2, eOp1, eName, eD, ixD, setS_nw, setS_own, nwAt, noOwn_nw, peek_pl, gSb, gNm, gTp, gCs, gNl, getP, putP, addD, subD, mulD, modD, fdivD, powD, ltD, leD, gtD, geD, isD, isnotD, D.isN, negD, tvB, tvNot, tvAnd, tvOr, evT, evAnd, evOr, evNot, evIf, evChain, eCall, aCons, aNil, peeks, dats, lenD, intD, listD, tupleD, eTup, eLst, eSl, oNone, oSome, slD, revD, eLr1, eLr2, iSeq, iR1_eq, iR1f, iR2_eq, iR2f, iR3_eq, iR3f, iEnu, iZp, tYesM, eMeth, appendD, extendD, popD, reverseD, dropS, eFn, toArgs, backE, aft, finF, backs, eIsi, stp, lim, t1, t2, t3, O.toD]
  refine (sSeq_nx (E (tab m R) (tab m F) (tab m A) .un) ?_).trans ?_
  · simp [E, sSeq, sSet, sOwn, sAli, sAsg, sRet, sRetN, sIf, sPass, sExpr, sFor, sPar, sPar3, sParO, sParO3, eFnX, lendM, lends, lendD, lendR, atomD, keepO, slotOf, sOwn2, eFrz, tvT, truD, sortedD, insertD, eOp2, eOp1, eName, eD, ixD, setS_nw, setS_own, nwAt, noOwn_nw, peek_pl, gSb, gNm, gTp, gCs, gNl, getP, putP, addD, subD, mulD, modD, fdivD, powD, ltD, leD, gtD, geD, isD, isnotD, D.isN, negD, tvB, tvNot, tvAnd, tvOr, evT, evAnd, evOr, evNot, evIf, evChain, eCall, aCons, aNil, peeks, dats, lenD, intD, listD, tupleD, eTup, eLst, eSl, oNone, oSome, slD, revD, eLr1, eLr2, iSeq, iR1_eq, iR1f, iR2_eq, iR2f, iR3_eq, iR3f, iEnu, iZp, tYesM, eMeth, appendD, extendD, popD, reverseD, dropS, eFn, toArgs, backE, aft, finF, backs, eIsi, stp, lim, k1, k2, O.toD]
  refine (sSeq_nx (E (tab m R) (tab m F) (tab m A) .un) ?_).trans ?_
  · simp [E, sSeq, sSet, sOwn, sAli, sAsg, sRet, sRetN, sIf, sPass, sExpr, sFor, sPar, sPar3, sParO, sParO3, eFnX, lendM, lends, lendD, lendR, atomD, keepO, slotOf, sOwn2, eFrz, tvT, truD, sortedD, insertD, eOp2, eOp1, eName, eD, ixD, setS_nw, setS_own, nwAt, noOwn_nw, peek_pl, gSb, gNm, gTp, gCs, gNl, getP, putP, addD, subD, mulD, modD, fdivD, powD, ltD, leD, gtD, geD, isD, isnotD, D.isN, negD, tvB, tvNot, tvAnd, tvOr, evT, evAnd, evOr, evNot, evIf, evChain, eCall, aCons, aNil, peeks, dats, lenD, intD, listD, tupleD, eTup, eLst, eSl, oNone, oSome, slD, revD, eLr1, eLr2, iSeq, iR1_eq, iR1f, iR2_eq, iR2f, iR3_eq, iR3f, iEnu, iZp, tYesM, eMeth, appendD, extendD, popD, reverseD, dropS, eFn, toArgs, backE, aft, finF, backs, eIsi, stp, lim, k3, k4, O.toD]
  refine (sSeq_nx (E (tab m R) (tab m F) (tab m A) .un) ?_).trans ?_
  · simp [E, sSeq, sSet, sOwn, sAli, sAsg, sRet, sRetN, sIf, sPass, sExpr, sFor, sPar, sPar3, sParO, sParO3, eFnX, lendM, lends, lendD, lendR, atomD, keepO, slotOf, sOwn2, eFrz, tvT, truD, sortedD, insertD, eOp2, eOp1, eName, eD, ixD, setS_nw, setS_own, nwAt, noOwn_nw, peek_pl, gSb, gNm, gTp, gCs, gNl, getP, putP, addD, subD, mulD, modD, fdivD, powD, ltD, leD, gtD, geD, isD, isnotD, D.isN, negD, tvB, tvNot, tvAnd, tvOr, evT, evAnd, evOr, evNot, evIf, evChain, eCall, aCons, aNil, peeks, dats, lenD, intD, listD, tupleD, eTup, eLst, eSl, oNone, oSome, slD, revD, eLr1, eLr2, iSeq, iR1_eq, iR1f, iR2_eq, iR2f, iR3_eq, iR3f, iEnu, iZp, tYesM, eMeth, appendD, extendD, popD, reverseD, dropS, eFn, toArgs, backE, aft, finF, backs, eIsi, stp, lim, d1, d2, m1, O.toD]
  refine (sSeq_nx (E (tab m R) (tab m F) (tab m A) .un) ?_).trans ?_
  · simp [E, sSeq, sSet, sOwn, sAli, sAsg, sRet, sRetN, sIf, sPass, sExpr, sFor, sPar, sPar3, sParO, sParO3, eFnX, lendM, lends, lendD, lendR, atomD, keepO, slotOf, sOwn2, eFrz, tvT, truD, sortedD, insertD, eOp2, eOp1, eName, eD, ixD, setS_nw, setS_own, nwAt, noOwn_nw, peek_pl, gSb, gNm, gTp, gCs, gNl, getP, putP, addD, subD, mulD, modD, fdivD, powD, ltD, leD, gtD, geD, isD, isnotD, D.isN, negD, tvB, tvNot, tvAnd, tvOr, evT, evAnd, evOr, evNot, evIf, evChain, eCall, aCons, aNil, peeks, dats, lenD, intD, listD, tupleD, eTup, eLst, eSl, oNone, oSome, slD, revD, eLr1, eLr2, iSeq, iR1_eq, iR1f, iR2_eq, iR2f, iR3_eq, iR3f, iEnu, iZp, tYesM, eMeth, appendD, extendD, popD, reverseD, dropS, eFn, toArgs, backE, aft, finF, backs, eIsi, stp, lim, r1, r2, m2, O.toD]
  refine (sSeq_nx (E (tab m R) (tab m F) (tab m A) .un) ?_).trans ?_
  · simp [E, sSeq, sSet, sOwn, sAli, sAsg, sRet, sRetN, sIf, sPass, sExpr, sFor, sPar, sPar3, sParO, sParO3, eFnX, lendM, lends, lendD, lendR, atomD, keepO, slotOf, sOwn2, eFrz, tvT, truD, sortedD, insertD, eOp2, eOp1, eName, eD, ixD, setS_nw, setS_own, nwAt, noOwn_nw, peek_pl, gSb, gNm, gTp, gCs, gNl, getP, putP, addD, subD, mulD, modD, fdivD, powD, ltD, leD, gtD, geD, isD, isnotD, D.isN, negD, tvB, tvNot, tvAnd, tvOr, evT, evAnd, evOr, evNot, evIf, evChain, eCall, aCons, aNil, peeks, dats, lenD, intD, listD, tupleD, eTup, eLst, eSl, oNone, oSome, slD, revD, eLr1, eLr2, iSeq, iR1_eq, iR1f, iR2_eq, iR2f, iR3_eq, iR3f, iEnu, iZp, tYesM, eMeth, appendD, extendD, popD, reverseD, dropS, eFn, toArgs, backE, aft, finF, backs, eIsi, stp, lim, r3, r4, m2, m3, O.toD]
  refine (sSeq_nx (E (tab m R) (tab m F) (tab m A) (.dat (.lst (mi (tab m R))))) ?_).trans ?_
  · unfold sSet
    rw [hcN]
    simp [E, sSeq, sSet, sOwn, sAli, sAsg, sRet, sRetN, sIf, sPass, sExpr, sFor, sPar, sPar3, sParO, sParO3, eFnX, lendM, lends, lendD, lendR, atomD, keepO, slotOf, sOwn2, eFrz, tvT, truD, sortedD, insertD, eOp2, eOp1, eName, eD, ixD, setS_nw, setS_own, nwAt, noOwn_nw, peek_pl, gSb, gNm, gTp, gCs, gNl, getP, putP, addD, subD, mulD, modD, fdivD, powD, ltD, leD, gtD, geD, isD, isnotD, D.isN, negD, tvB, tvNot, tvAnd, tvOr, evT, evAnd, evOr, evNot, evIf, evChain, eCall, aCons, aNil, peeks, dats, lenD, intD, listD, tupleD, eTup, eLst, eSl, oNone, oSome, slD, revD, eLr1, eLr2, iSeq, iR1_eq, iR1f, iR2_eq, iR2f, iR3_eq, iR3f, iEnu, iZp, tYesM, eMeth, appendD, extendD, popD, reverseD, dropS, eFn, toArgs, backE, aft, finF, backs, eIsi, stp, lim, O.toD]
  simp [E, sSeq, sSet, sOwn, sAli, sAsg, sRet, sRetN, sIf, sPass, sExpr, sFor, sPar, sPar3, sParO, sParO3, eFnX, lendM, lends, lendD, lendR, atomD, keepO, slotOf, sOwn2, eFrz, tvT, truD, sortedD, insertD, eOp2, eOp1, eName, eD, ixD, setS_nw, setS_own, nwAt, noOwn_nw, peek_pl, gSb, gNm, gTp, gCs, gNl, getP, putP, addD, subD, mulD, modD, fdivD, powD, ltD, leD, gtD, geD, isD, isnotD, D.isN, negD, tvB, tvNot, tvAnd, tvOr, evT, evAnd, evOr, evNot, evIf, evChain, eCall, aCons, aNil, peeks, dats, lenD, intD, listD, tupleD, eTup, eLst, eSl, oNone, oSome, slD, revD, eLr1, eLr2, iSeq, iR1_eq, iR1f, iR2_eq, iR2f, iR3_eq, iR3f, iEnu, iZp, tYesM, eMeth, appendD, extendD, popD, reverseD, dropS, eFn, toArgs, backE, aft, finF, backs, eIsi, stp, lim, tab_length, hl, i1, c1, m4, O.toD]
end Law
namespace Law
open PySem DL Mir Bm
/-- the letters that rise -/
def rs (m : Nat) (b : Sq) : List Int := (rg 1 (m - 1)).filter fun i => decide (b (i.toNat - 1) < b i.toNat)
theorem rs_mem {m : Nat} {b : Sq} {i : Int} (h : i ∈ rs m b) : ∃ p : Nat, i = (p : Int) + 1 ∧ p + 1 < m ∧ b p < b (p + 1) := by
  unfold rs at h
  obtain ⟨h1, h2⟩ := List.mem_filter.mp h
  obtain ⟨p, rfl, hp⟩ := rg1 h1
  have e : ((p : Int) + 1).toNat = p + 1 := by omega
  rw [e] at h2
  exact ⟨p, rfl, hp, by simpa using h2⟩
theorem rs_nil {m : Nat} {b : Sq} (h : rs m b = []) : ∀ p, p + 1 < m → ¬ b p < b (p + 1) := fun p hp c => by
  have : ((p : Int) + 1) ∈ rs m b := by
    unfold rs
    refine List.mem_filter.mpr ⟨?_, ?_⟩
    · unfold rg
      exact List.mem_map.mpr ⟨p, List.mem_range.mpr (by omega), by omega⟩
    · have e : ((p : Int) + 1).toNat = p + 1 := by omega
      rw [e]; simpa using c
  rw [h] at this; cases this
theorem fl_mem {m : Nat} {b : Sq} {i : Int} (h : i ∈ fl m b) : ∃ p : Nat, i = (p : Int) + 1 ∧ p + 1 < m ∧ b (p + 1) < b p := by
  unfold fl at h
  obtain ⟨p, hp, rfl⟩ := List.mem_map.1 h
  exact ⟨p, rfl, dsc_mem.mp hp⟩
theorem pick_mem (q : Pool) {w : List Int} (h : w ≠ []) : ∃ x, L2.atI w (pV q (w.length : Int)) = some x ∧ x ∈ w ∧ 0 < (w.length : Int) := by
  have hl : 0 < w.length := List.length_pos_iff.mpr h
  have hv := pV_rg q (m := (w.length : Int)) (by omega)
  obtain ⟨x, hx⟩ : ∃ x, w[(pV q (w.length : Int)).toNat]? = some x := ⟨w[(pV q (w.length : Int)).toNat]'(by omega), List.getElem?_eq_getElem (by omega)⟩
  exact ⟨x, by rw [atI_pos hv.1]; exact hx, List.mem_of_getElem? hx, by omega⟩
theorem iR2_ok {m : Nat} (h1 : 1 ≤ m) (h8 : m ≤ 8) {e : Ve} (h : e[1]? = some (.dat (.int m))) : iR2 (aCons true (eD (.int 1)) (aCons true (eName 1) aNil)) e = .ok (mi (rg 1 (m - 1))) e := by
  have hs : smI (m : Int) = true := smI_nat (by omega) (by omega)
  have e1 : ((m : Int) - 1).toNat = m - 1 := by omega
  simp [iR2_eq, iR2f, aCons, eD, eName, aNil, h, hold, hs, e1]
theorem climb_step {m : Nat} {s h : Sq} {q : Pool} (h1 : 1 ≤ m) (h8 : m ≤ 8) (P : Prm m h) {a b c d t u : S} (ha : Pl a = true) (hb : Pl b = true) (hc : Pl c = true) (hd : Pl d = true) (ht : Pl t = true) (hu : Pl u = true) (k : Int) :
    (∃ q' e, stp (gNm 4) b__law_climb_right_7 (.int k) [.own (.lst (Subtype.val q)), .dat (.int m), .dat (.lst (mi (tab m s))), .dat (.lst (mi (tab m h))), a, b, c, d, t, u, .un, .un] = .rt (.dat (.bl true)) (.own (.lst (Subtype.val (q' : Pool))) :: .dat (.int m) :: .dat (.lst (mi (tab m s))) :: e)) ∨
    (∃ q' h' a' b' c' d' t' u', stp (gNm 4) b__law_climb_right_7 (.int k) [.own (.lst (Subtype.val q)), .dat (.int m), .dat (.lst (mi (tab m s))), .dat (.lst (mi (tab m h))), a, b, c, d, t, u, .un, .un] =
      .nx [.own (.lst (Subtype.val (q' : Pool))), .dat (.int m), .dat (.lst (mi (tab m s))), .dat (.lst (mi (tab m h'))), a', b', c', d', t', u', .un, .un] ∧ Prm m h' ∧ inv h' m = inv h m + 1 ∧ Pl a' = true ∧ Pl b' = true ∧ Pl c' = true ∧ Pl d' = true ∧ Pl t' = true ∧ Pl u' = true) := by
  obtain ⟨PB, _⟩ := prm_bk P
  let E : Pool → S → S → S → S → S → S → Ve := fun q x b c d t u => [.own (.lst q.1), .dat (.int m), .dat (.lst (mi (tab m s))), .dat (.lst (mi (tab m h))), x, b, c, d, t, u, .un, .un]
  let K : S := .dat (.int k)
  let B : S := .dat (.lst (mi (tab m (bk h m))))
  let RI : S := .dat (.lst (mi (rs m (bk h m))))
  let FA : S := .dat (.lst (mi (fl m (bk h m))))
  have g : gNm 4 (.int k) (E q a b c d t u) = some (E q K b c d t u) := by simp [E, K, sSeq, sSet, sOwn, sAli, sAsg, sRet, sRetN, sIf, sPass, sExpr, sFor, sPar, sPar3, sParO, sParO3, eFnX, lendM, lends, lendD, lendR, atomD, keepO, slotOf, sOwn2, eFrz, tvT, truD, sortedD, insertD, eOp2, eOp1, eName, eD, ixD, setS_nw, setS_own, nwAt, noOwn_nw, peek_pl, gSb, gNm, gTp, gCs, gNl, getP, putP, addD, subD, mulD, modD, fdivD, powD, ltD, leD, gtD, geD, isD, isnotD, D.isN, negD, tvB, tvNot, tvAnd, tvOr, evT, evAnd, evOr, evNot, evIf, evChain, eCall, aCons, aNil, peeks, dats, lenD, intD, listD, tupleD, eTup, eLst, eSl, oNone, oSome, slD, revD, eLr1, eLr2, iSeq, iR1_eq, iR1f, iR2_eq, iR2f, iR3_eq, iR3f, iEnu, iZp, tYesM, eMeth, appendD, extendD, popD, reverseD, dropS, eFn, toArgs, backE, aft, finF, backs, eIsi, stp, lim, ha]
  -- the copy of the braid
  have cp1 : ∀ (q : Pool) (t u : S), compL [10] (gNm 10) tYesM c__law_climb_right_2 (mi (tab m h)) (E q K B RI FA t u) [] = .ok (.new (.lst (mi (tab m h)))) (E q K B RI FA t u) := fun q t u => by
    have := comp_map (own := [10]) (gm := gNm 10) (em := c__law_climb_right_2) (env := E q K B RI FA t u) (fun x => x) (w := tab m h) rfl (by rw [tab_length]; simp only [lim]; omega) fun i hi => ⟨[.own (.lst q.1), .dat (.int m), .dat (.lst (mi (tab m s))), .dat (.lst (mi (tab m h))), K, B, RI, FA, t, u, .dat (.int i), .un], by simp [E, gNm, wipeV, sSeq, sSet, sOwn, sAli, sAsg, sRet, sRetN, sIf, sPass, sExpr, sFor, sPar, sPar3, sParO, sParO3, eFnX, lendM, lends, lendD, lendR, atomD, keepO, slotOf, sOwn2, eFrz, tvT, truD, sortedD, insertD, eOp2, eOp1, eName, eD, ixD, setS_nw, setS_own, nwAt, noOwn_nw, peek_pl, gSb, gNm, gTp, gCs, gNl, getP, putP, addD, subD, mulD, modD, fdivD, powD, ltD, leD, gtD, geD, isD, isnotD, D.isN, negD, tvB, tvNot, tvAnd, tvOr, evT, evAnd, evOr, evNot, evIf, evChain, eCall, aCons, aNil, peeks, dats, lenD, intD, listD, tupleD, eTup, eLst, eSl, oNone, oSome, slD, revD, eLr1, eLr2, iSeq, iR1_eq, iR1f, iR2_eq, iR2f, iR3_eq, iR3f, iEnu, iZp, tYesM, eMeth, appendD, extendD, popD, reverseD, dropS, eFn, toArgs, backE, aft, finF, backs, eIsi, stp, lim], [.own (.lst q.1), .dat (.int m), .dat (.lst (mi (tab m s))), .dat (.lst (mi (tab m h))), K, B, RI, FA, t, u, .dat (.int i), .un], by simp [c__law_climb_right_2, sSeq, sSet, sOwn, sAli, sAsg, sRet, sRetN, sIf, sPass, sExpr, sFor, sPar, sPar3, sParO, sParO3, eFnX, lendM, lends, lendD, lendR, atomD, keepO, slotOf, sOwn2, eFrz, tvT, truD, sortedD, insertD, eOp2, eOp1, eName, eD, ixD, setS_nw, setS_own, nwAt, noOwn_nw, peek_pl, gSb, gNm, gTp, gCs, gNl, getP, putP, addD, subD, mulD, modD, fdivD, powD, ltD, leD, gtD, geD, isD, isnotD, D.isN, negD, tvB, tvNot, tvAnd, tvOr, evT, evAnd, evOr, evNot, evIf, evChain, eCall, aCons, aNil, peeks, dats, lenD, intD, listD, tupleD, eTup, eLst, eSl, oNone, oSome, slD, revD, eLr1, eLr2, iSeq, iR1_eq, iR1f, iR2_eq, iR2f, iR3_eq, iR3f, iEnu, iZp, tYesM, eMeth, appendD, extendD, popD, reverseD, dropS, eFn, toArgs, backE, aft, finF, backs, eIsi, stp, lim], rfl, rfl, rfl⟩
    rw [List.map_id'' (fun _ => rfl)] at this
    exact this
  have cp2 : ∀ (q : Pool) (t u : S), compL [10] (gNm 10) tYesM c__law_climb_right_1 (mi (tab m h)) (E q K B RI FA t u) [] = .ok (.new (.lst (mi (tab m h)))) (E q K B RI FA t u) := fun q t u => by
    have := comp_map (own := [10]) (gm := gNm 10) (em := c__law_climb_right_1) (env := E q K B RI FA t u) (fun x => x) (w := tab m h) rfl (by rw [tab_length]; simp only [lim]; omega) fun i hi => ⟨[.own (.lst q.1), .dat (.int m), .dat (.lst (mi (tab m s))), .dat (.lst (mi (tab m h))), K, B, RI, FA, t, u, .dat (.int i), .un], by simp [E, gNm, wipeV, sSeq, sSet, sOwn, sAli, sAsg, sRet, sRetN, sIf, sPass, sExpr, sFor, sPar, sPar3, sParO, sParO3, eFnX, lendM, lends, lendD, lendR, atomD, keepO, slotOf, sOwn2, eFrz, tvT, truD, sortedD, insertD, eOp2, eOp1, eName, eD, ixD, setS_nw, setS_own, nwAt, noOwn_nw, peek_pl, gSb, gNm, gTp, gCs, gNl, getP, putP, addD, subD, mulD, modD, fdivD, powD, ltD, leD, gtD, geD, isD, isnotD, D.isN, negD, tvB, tvNot, tvAnd, tvOr, evT, evAnd, evOr, evNot, evIf, evChain, eCall, aCons, aNil, peeks, dats, lenD, intD, listD, tupleD, eTup, eLst, eSl, oNone, oSome, slD, revD, eLr1, eLr2, iSeq, iR1_eq, iR1f, iR2_eq, iR2f, iR3_eq, iR3f, iEnu, iZp, tYesM, eMeth, appendD, extendD, popD, reverseD, dropS, eFn, toArgs, backE, aft, finF, backs, eIsi, stp, lim], [.own (.lst q.1), .dat (.int m), .dat (.lst (mi (tab m s))), .dat (.lst (mi (tab m h))), K, B, RI, FA, t, u, .dat (.int i), .un], by simp [c__law_climb_right_1, sSeq, sSet, sOwn, sAli, sAsg, sRet, sRetN, sIf, sPass, sExpr, sFor, sPar, sPar3, sParO, sParO3, eFnX, lendM, lends, lendD, lendR, atomD, keepO, slotOf, sOwn2, eFrz, tvT, truD, sortedD, insertD, eOp2, eOp1, eName, eD, ixD, setS_nw, setS_own, nwAt, noOwn_nw, peek_pl, gSb, gNm, gTp, gCs, gNl, getP, putP, addD, subD, mulD, modD, fdivD, powD, ltD, leD, gtD, geD, isD, isnotD, D.isN, negD, tvB, tvNot, tvAnd, tvOr, evT, evAnd, evOr, evNot, evIf, evChain, eCall, aCons, aNil, peeks, dats, lenD, intD, listD, tupleD, eTup, eLst, eSl, oNone, oSome, slD, revD, eLr1, eLr2, iSeq, iR1_eq, iR1f, iR2_eq, iR2f, iR3_eq, iR3f, iEnu, iZp, tYesM, eMeth, appendD, extendD, popD, reverseD, dropS, eFn, toArgs, backE, aft, finF, backs, eIsi, stp, lim], rfl, rfl, rfl⟩
    rw [List.map_id'' (fun _ => rfl)] at this
    exact this
  have at1 : ∀ p : Nat, p + 1 < m → L2.atI (tab m (bk h m)) (p : Int) = some (bk h m p) := fun p hp => tab_at rfl (by omega)
  have at2 : ∀ p : Nat, p + 1 < m → L2.atI (tab m (bk h m)) ((p : Int) + 1) = some (bk h m (p + 1)) := fun p hp => tab_at (by omega) hp
  have cR : compL [11] (gNm 11) t__law_climb_right_5 c__law_climb_right_6 (mi (rg 1 (m - 1))) (E q K B c d t u) [] = .ok (.new (.lst (mi (rs m (bk h m))))) (E q K B c d t u) := by
    refine comp_flt (own := [11]) (gm := gNm 11) (tm := t__law_climb_right_5) (em := c__law_climb_right_6) (env := E q K B c d t u) _ rfl (by rw [rg_length]; simp only [lim]; omega) fun i hi => ?_
    obtain ⟨p, rfl, hp⟩ := rg1 hi
    have e1 : ((p : Int) + 1).toNat = p + 1 := by omega
    exact ⟨[.own (.lst q.1), .dat (.int m), .dat (.lst (mi (tab m s))), .dat (.lst (mi (tab m h))), K, B, c, d, t, u, .un, .dat (.int ((p : Int) + 1))], by simp [E, gNm, wipeV, sSeq, sSet, sOwn, sAli, sAsg, sRet, sRetN, sIf, sPass, sExpr, sFor, sPar, sPar3, sParO, sParO3, eFnX, lendM, lends, lendD, lendR, atomD, keepO, slotOf, sOwn2, eFrz, tvT, truD, sortedD, insertD, eOp2, eOp1, eName, eD, ixD, setS_nw, setS_own, nwAt, noOwn_nw, peek_pl, gSb, gNm, gTp, gCs, gNl, getP, putP, addD, subD, mulD, modD, fdivD, powD, ltD, leD, gtD, geD, isD, isnotD, D.isN, negD, tvB, tvNot, tvAnd, tvOr, evT, evAnd, evOr, evNot, evIf, evChain, eCall, aCons, aNil, peeks, dats, lenD, intD, listD, tupleD, eTup, eLst, eSl, oNone, oSome, slD, revD, eLr1, eLr2, iSeq, iR1_eq, iR1f, iR2_eq, iR2f, iR3_eq, iR3f, iEnu, iZp, tYesM, eMeth, appendD, extendD, popD, reverseD, dropS, eFn, toArgs, backE, aft, finF, backs, eIsi, stp, lim], by simp [t__law_climb_right_5, B, sSeq, sSet, sOwn, sAli, sAsg, sRet, sRetN, sIf, sPass, sExpr, sFor, sPar, sPar3, sParO, sParO3, eFnX, lendM, lends, lendD, lendR, atomD, keepO, slotOf, sOwn2, eFrz, tvT, truD, sortedD, insertD, eOp2, eOp1, eName, eD, ixD, setS_nw, setS_own, nwAt, noOwn_nw, peek_pl, gSb, gNm, gTp, gCs, gNl, getP, putP, addD, subD, mulD, modD, fdivD, powD, ltD, leD, gtD, geD, isD, isnotD, D.isN, negD, tvB, tvNot, tvAnd, tvOr, evT, evAnd, evOr, evNot, evIf, evChain, eCall, aCons, aNil, peeks, dats, lenD, intD, listD, tupleD, eTup, eLst, eSl, oNone, oSome, slD, revD, eLr1, eLr2, iSeq, iR1_eq, iR1f, iR2_eq, iR2f, iR3_eq, iR3f, iEnu, iZp, tYesM, eMeth, appendD, extendD, popD, reverseD, dropS, eFn, toArgs, backE, aft, finF, backs, eIsi, stp, lim, at1 p hp, at2 p hp, e1], by simp [c__law_climb_right_6, sSeq, sSet, sOwn, sAli, sAsg, sRet, sRetN, sIf, sPass, sExpr, sFor, sPar, sPar3, sParO, sParO3, eFnX, lendM, lends, lendD, lendR, atomD, keepO, slotOf, sOwn2, eFrz, tvT, truD, sortedD, insertD, eOp2, eOp1, eName, eD, ixD, setS_nw, setS_own, nwAt, noOwn_nw, peek_pl, gSb, gNm, gTp, gCs, gNl, getP, putP, addD, subD, mulD, modD, fdivD, powD, ltD, leD, gtD, geD, isD, isnotD, D.isN, negD, tvB, tvNot, tvAnd, tvOr, evT, evAnd, evOr, evNot, evIf, evChain, eCall, aCons, aNil, peeks, dats, lenD, intD, listD, tupleD, eTup, eLst, eSl, oNone, oSome, slD, revD, eLr1, eLr2, iSeq, iR1_eq, iR1f, iR2_eq, iR2f, iR3_eq, iR3f, iEnu, iZp, tYesM, eMeth, appendD, extendD, popD, reverseD, dropS, eFn, toArgs, backE, aft, finF, backs, eIsi, stp, lim], rfl, rfl, rfl⟩
  have cF : compL [11] (gNm 11) t__law_climb_right_3 c__law_climb_right_4 (mi (rg 1 (m - 1))) (E q K B RI d t u) [] = .ok (.new (.lst (mi (fl m (bk h m))))) (E q K B RI d t u) := by
    rw [← flt_fl]
    refine comp_flt (own := [11]) (gm := gNm 11) (tm := t__law_climb_right_3) (em := c__law_climb_right_4) (env := E q K B RI d t u) _ rfl (by rw [rg_length]; simp only [lim]; omega) fun i hi => ?_
    obtain ⟨p, rfl, hp⟩ := rg1 hi
    have e1 : ((p : Int) + 1).toNat = p + 1 := by omega
    exact ⟨[.own (.lst q.1), .dat (.int m), .dat (.lst (mi (tab m s))), .dat (.lst (mi (tab m h))), K, B, RI, d, t, u, .un, .dat (.int ((p : Int) + 1))], by simp [E, gNm, wipeV, sSeq, sSet, sOwn, sAli, sAsg, sRet, sRetN, sIf, sPass, sExpr, sFor, sPar, sPar3, sParO, sParO3, eFnX, lendM, lends, lendD, lendR, atomD, keepO, slotOf, sOwn2, eFrz, tvT, truD, sortedD, insertD, eOp2, eOp1, eName, eD, ixD, setS_nw, setS_own, nwAt, noOwn_nw, peek_pl, gSb, gNm, gTp, gCs, gNl, getP, putP, addD, subD, mulD, modD, fdivD, powD, ltD, leD, gtD, geD, isD, isnotD, D.isN, negD, tvB, tvNot, tvAnd, tvOr, evT, evAnd, evOr, evNot, evIf, evChain, eCall, aCons, aNil, peeks, dats, lenD, intD, listD, tupleD, eTup, eLst, eSl, oNone, oSome, slD, revD, eLr1, eLr2, iSeq, iR1_eq, iR1f, iR2_eq, iR2f, iR3_eq, iR3f, iEnu, iZp, tYesM, eMeth, appendD, extendD, popD, reverseD, dropS, eFn, toArgs, backE, aft, finF, backs, eIsi, stp, lim], by simp [t__law_climb_right_3, B, sSeq, sSet, sOwn, sAli, sAsg, sRet, sRetN, sIf, sPass, sExpr, sFor, sPar, sPar3, sParO, sParO3, eFnX, lendM, lends, lendD, lendR, atomD, keepO, slotOf, sOwn2, eFrz, tvT, truD, sortedD, insertD, eOp2, eOp1, eName, eD, ixD, setS_nw, setS_own, nwAt, noOwn_nw, peek_pl, gSb, gNm, gTp, gCs, gNl, getP, putP, addD, subD, mulD, modD, fdivD, powD, ltD, leD, gtD, geD, isD, isnotD, D.isN, negD, tvB, tvNot, tvAnd, tvOr, evT, evAnd, evOr, evNot, evIf, evChain, eCall, aCons, aNil, peeks, dats, lenD, intD, listD, tupleD, eTup, eLst, eSl, oNone, oSome, slD, revD, eLr1, eLr2, iSeq, iR1_eq, iR1f, iR2_eq, iR2f, iR3_eq, iR3f, iEnu, iZp, tYesM, eMeth, appendD, extendD, popD, reverseD, dropS, eFn, toArgs, backE, aft, finF, backs, eIsi, stp, lim, at1 p hp, at2 p hp, e1], by simp [c__law_climb_right_4, sSeq, sSet, sOwn, sAli, sAsg, sRet, sRetN, sIf, sPass, sExpr, sFor, sPar, sPar3, sParO, sParO3, eFnX, lendM, lends, lendD, lendR, atomD, keepO, slotOf, sOwn2, eFrz, tvT, truD, sortedD, insertD, eOp2, eOp1, eName, eD, ixD, setS_nw, setS_own, nwAt, noOwn_nw, peek_pl, gSb, gNm, gTp, gCs, gNl, getP, putP, addD, subD, mulD, modD, fdivD, powD, ltD, leD, gtD, geD, isD, isnotD, D.isN, negD, tvB, tvNot, tvAnd, tvOr, evT, evAnd, evOr, evNot, evIf, evChain, eCall, aCons, aNil, peeks, dats, lenD, intD, listD, tupleD, eTup, eLst, eSl, oNone, oSome, slD, revD, eLr1, eLr2, iSeq, iR1_eq, iR1f, iR2_eq, iR2f, iR3_eq, iR3f, iEnu, iZp, tYesM, eMeth, appendD, extendD, popD, reverseD, dropS, eFn, toArgs, backE, aft, finF, backs, eIsi, stp, lim], rfl, rfl, rfl⟩
  -- what falls is let never
  have falls : ∃ (q2 : Pool) (t2 : S), Pl t2 = true ∧ (sIf (tvB (eOp2 true neD (eName 7) (eLst aNil))) (sSeq (sSet 8 (eFn 2 f__law_letter (aCons false (eName 1) (aCons true (eOp2 false ixD (eName 7) (eFn 2 f__law_pick (aCons true (eName 0) (aCons true (eCall lenD (aCons true (eName 7) aNil)) aNil)))) aNil))))
      (sIf (tvB (eOp2 true isnotD (eFn 3 f_then_simple (aCons false (eName 1) (aCons true (eComp [10] (iSeq (eName 3)) (gNm 10) tYesM c__law_climb_right_2) (aCons true (eName 8) aNil)))) (eD .non))) (sRet (eD (.bl false))) sPass)) sPass) (E q K B RI FA t u) = .nx (E q2 K B RI FA t2 u) := by
    by_cases c0 : fl m (bk h m) = []
    · refine ⟨q, t, ht, ?_⟩
      simp [E, FA, sSeq, sSet, sOwn, sAli, sAsg, sRet, sRetN, sIf, sPass, sExpr, sFor, sPar, sPar3, sParO, sParO3, eFnX, lendM, lends, lendD, lendR, atomD, keepO, slotOf, sOwn2, eFrz, tvT, truD, sortedD, insertD, eOp2, eOp1, eName, eD, ixD, setS_nw, setS_own, nwAt, noOwn_nw, peek_pl, gSb, gNm, gTp, gCs, gNl, getP, putP, addD, subD, mulD, modD, fdivD, powD, ltD, leD, gtD, geD, isD, isnotD, D.isN, negD, tvB, tvNot, tvAnd, tvOr, evT, evAnd, evOr, evNot, evIf, evChain, eCall, aCons, aNil, peeks, dats, lenD, intD, listD, tupleD, eTup, eLst, eSl, oNone, oSome, slD, revD, eLr1, eLr2, iSeq, iR1_eq, iR1f, iR2_eq, iR2f, iR3_eq, iR3f, iEnu, iZp, tYesM, eMeth, appendD, extendD, popD, reverseD, dropS, eFn, toArgs, backE, aft, finF, backs, eIsi, stp, lim, c0]
    · obtain ⟨x, hx, hm, hl⟩ := pick_mem q c0
      obtain ⟨p, rfl, hp, hlt⟩ := fl_mem hm
      have hlen : inv (cmps h (sw p idT)) m ≠ inv h m + inv (sw p idT) m := by
        rw [inv_congr (cmps_letter P hp), inv_letter hp]
        have := inv_fall P hp hlt
        omega
      have hno := then_no h1 h8 P ((prm_idT m).sw hp) hlen
      refine ⟨pR q ((fl m (bk h m)).length : Int), .dat (.lst (mi (tab m (sw p idT)))), rfl, ?_⟩
      have z : ((fl m (bk h m)).length : Int) ≠ 0 := by omega
      have hcc := cp1 (pR q ((fl m (bk h m)).length : Int)) (.dat (.lst (mi (tab m (sw p idT))))) u
      simp only [E, K, B, RI, FA] at hcc ⊢
      simp [eComp, sSeq, sSet, sOwn, sAli, sAsg, sRet, sRetN, sIf, sPass, sExpr, sFor, sPar, sPar3, sParO, sParO3, eFnX, lendM, lends, lendD, lendR, atomD, keepO, slotOf, sOwn2, eFrz, tvT, truD, sortedD, insertD, eOp2, eOp1, eName, eD, ixD, setS_nw, setS_own, nwAt, noOwn_nw, peek_pl, gSb, gNm, gTp, gCs, gNl, getP, putP, addD, subD, mulD, modD, fdivD, powD, ltD, leD, gtD, geD, isD, isnotD, D.isN, negD, tvB, tvNot, tvAnd, tvOr, evT, evAnd, evOr, evNot, evIf, evChain, eCall, aCons, aNil, peeks, dats, lenD, intD, listD, tupleD, eTup, eLst, eSl, oNone, oSome, slD, revD, eLr1, eLr2, iSeq, iR1_eq, iR1f, iR2_eq, iR2f, iR3_eq, iR3f, iEnu, iZp, tYesM, eMeth, appendD, extendD, popD, reverseD, dropS, eFn, toArgs, backE, aft, finF, backs, eIsi, stp, lim, c0, pick_eq q hl, hx, letter_ok h8 hp, ht, hu, hcc, hno, O.toD]
  obtain ⟨q2, t2, ht2, eF⟩ := falls
  have start : ∀ (r : Out), (sSeq (sIf (tvB (eOp2 true eqD (eName 6) (eLst aNil))) (sRet (eOp2 true eqD (eName 3) (eOp1 revD (eLr1 (eName 1))))) sPass)
      (sSeq (sSet 8 (eFn 2 f__law_letter (aCons false (eName 1) (aCons true (eOp2 false ixD (eName 6) (eFn 2 f__law_pick (aCons true (eName 0) (aCons true (eCall lenD (aCons true (eName 6) aNil)) aNil)))) aNil))))
      (sSeq (sSet 9 (eFn 2 f__law_composed (aCons true (eName 3) (aCons true (eName 8) aNil))))
      (sSeq (sIf (tvNot (tvB (eFn 2 f__law_same (aCons true (eFn 3 f_then_simple (aCons false (eName 1) (aCons true (eComp [10] (iSeq (eName 3)) (gNm 10) tYesM c__law_climb_right_1) (aCons true (eName 8) aNil)))) (aCons true (eName 9) aNil))))) (sRet (eD (.bl false))) sPass)
      (sSet 3 (eName 9)))))) (E q2 K B RI FA t2 u) = r → stp (gNm 4) b__law_climb_right_7 (.int k) (E q a b c d t u) = r := fun r hr => by
    unfold stp
    rw [g]
    simp only
    unfold b__law_climb_right_7
    refine (sSeq_nx (E q K B c d t u) ?_).trans ?_
    · simp [E, K, B, sSeq, sSet, sOwn, sAli, sAsg, sRet, sRetN, sIf, sPass, sExpr, sFor, sPar, sPar3, sParO, sParO3, eFnX, lendM, lends, lendD, lendR, atomD, keepO, slotOf, sOwn2, eFrz, tvT, truD, sortedD, insertD, eOp2, eOp1, eName, eD, ixD, setS_nw, setS_own, nwAt, noOwn_nw, peek_pl, gSb, gNm, gTp, gCs, gNl, getP, putP, addD, subD, mulD, modD, fdivD, powD, ltD, leD, gtD, geD, isD, isnotD, D.isN, negD, tvB, tvNot, tvAnd, tvOr, evT, evAnd, evOr, evNot, evIf, evChain, eCall, aCons, aNil, peeks, dats, lenD, intD, listD, tupleD, eTup, eLst, eSl, oNone, oSome, slD, revD, eLr1, eLr2, iSeq, iR1_eq, iR1f, iR2_eq, iR2f, iR3_eq, iR3f, iEnu, iZp, tYesM, eMeth, appendD, extendD, popD, reverseD, dropS, eFn, toArgs, backE, aft, finF, backs, eIsi, stp, lim, law_backward_ok h8 P, hb, O.toD]
    refine (sSeq_nx (E q K B RI d t u) ?_).trans ?_
    · unfold sSet eComp
      rw [iR2_ok h1 h8 rfl, Res.bind_ok, cR]
      simp [E, RI, sSeq, sSet, sOwn, sAli, sAsg, sRet, sRetN, sIf, sPass, sExpr, sFor, sPar, sPar3, sParO, sParO3, eFnX, lendM, lends, lendD, lendR, atomD, keepO, slotOf, sOwn2, eFrz, tvT, truD, sortedD, insertD, eOp2, eOp1, eName, eD, ixD, setS_nw, setS_own, nwAt, noOwn_nw, peek_pl, gSb, gNm, gTp, gCs, gNl, getP, putP, addD, subD, mulD, modD, fdivD, powD, ltD, leD, gtD, geD, isD, isnotD, D.isN, negD, tvB, tvNot, tvAnd, tvOr, evT, evAnd, evOr, evNot, evIf, evChain, eCall, aCons, aNil, peeks, dats, lenD, intD, listD, tupleD, eTup, eLst, eSl, oNone, oSome, slD, revD, eLr1, eLr2, iSeq, iR1_eq, iR1f, iR2_eq, iR2f, iR3_eq, iR3f, iEnu, iZp, tYesM, eMeth, appendD, extendD, popD, reverseD, dropS, eFn, toArgs, backE, aft, finF, backs, eIsi, stp, lim, hc, O.toD]
    refine (sSeq_nx (E q K B RI FA t u) ?_).trans ?_
    · unfold sSet eComp
      rw [iR2_ok h1 h8 rfl, Res.bind_ok, cF]
      simp [E, FA, sSeq, sSet, sOwn, sAli, sAsg, sRet, sRetN, sIf, sPass, sExpr, sFor, sPar, sPar3, sParO, sParO3, eFnX, lendM, lends, lendD, lendR, atomD, keepO, slotOf, sOwn2, eFrz, tvT, truD, sortedD, insertD, eOp2, eOp1, eName, eD, ixD, setS_nw, setS_own, nwAt, noOwn_nw, peek_pl, gSb, gNm, gTp, gCs, gNl, getP, putP, addD, subD, mulD, modD, fdivD, powD, ltD, leD, gtD, geD, isD, isnotD, D.isN, negD, tvB, tvNot, tvAnd, tvOr, evT, evAnd, evOr, evNot, evIf, evChain, eCall, aCons, aNil, peeks, dats, lenD, intD, listD, tupleD, eTup, eLst, eSl, oNone, oSome, slD, revD, eLr1, eLr2, iSeq, iR1_eq, iR1f, iR2_eq, iR2f, iR3_eq, iR3f, iEnu, iZp, tYesM, eMeth, appendD, extendD, popD, reverseD, dropS, eFn, toArgs, backE, aft, finF, backs, eIsi, stp, lim, hd, O.toD]
    exact (sSeq_nx _ eF).trans hr
  by_cases c0 : rs m (bk h m) = []
  · -- the half turn
    refine .inl ⟨q2, [.dat (.lst (mi (tab m h))), K, B, RI, FA, t2, u, .un, .un], start _ ?_⟩
    have hh : tab m h = tab m (half m) := tab_eq.mpr (no_rise P (rs_nil c0))
    have z4 : (m : Int) ≤ 16777216 := by omega
    have z5 : -(4611686018427387904 : Int) ≤ m := by omega
    have hr : mi (rg 0 m).reverse = mi (tab m h) := by rw [half_tab, hh]
    refine sSeq_rt ?_
    simp [E, RI, sSeq, sSet, sOwn, sAli, sAsg, sRet, sRetN, sIf, sPass, sExpr, sFor, sPar, sPar3, sParO, sParO3, eFnX, lendM, lends, lendD, lendR, atomD, keepO, slotOf, sOwn2, eFrz, tvT, truD, sortedD, insertD, eOp2, eOp1, eName, eD, ixD, setS_nw, setS_own, nwAt, noOwn_nw, peek_pl, gSb, gNm, gTp, gCs, gNl, getP, putP, addD, subD, mulD, modD, fdivD, powD, ltD, leD, gtD, geD, isD, isnotD, D.isN, negD, tvB, tvNot, tvAnd, tvOr, evT, evAnd, evOr, evNot, evIf, evChain, eCall, aCons, aNil, peeks, dats, lenD, intD, listD, tupleD, eTup, eLst, eSl, oNone, oSome, slD, revD, eLr1, eLr2, iSeq, iR1_eq, iR1f, iR2_eq, iR2f, iR3_eq, iR3f, iEnu, iZp, tYesM, eMeth, appendD, extendD, popD, reverseD, dropS, eFn, toArgs, backE, aft, finF, backs, eIsi, stp, lim, c0, z4, z5, hr, O.toD]
  · obtain ⟨x, hx, hm, hl⟩ := pick_mem q2 c0
    obtain ⟨p, rfl, hp, hlt⟩ := rs_mem hm
    have eqv := cmps_letter P hp
    have hinv : inv (cmps h (sw p idT)) m = inv h m + 1 := by rw [inv_congr eqv, inv_rise P hp hlt]
    have Pd := prm_cmps P ((prm_idT m).sw hp)
    have hyes := then_yes h1 h8 P ((prm_idT m).sw hp) (by rw [hinv, inv_letter hp])
    have hsm := same_tab (m := m) (cmps h (sw p idT)) h8
    let T : S := .dat (.lst (mi (tab m (sw p idT))))
    let U : S := .dat (.lst (mi (tab m (cmps h (sw p idT)))))
    refine .inr ⟨pR q2 ((rs m (bk h m)).length : Int), cmps h (sw p idT), K, B, RI, FA, T, U, start _ ?_, Pd, hinv, rfl, rfl, rfl, rfl, rfl, rfl⟩
    refine (sSeq_nx (E q2 K B RI FA t2 u) ?_).trans ?_
    · simp [E, RI, sSeq, sSet, sOwn, sAli, sAsg, sRet, sRetN, sIf, sPass, sExpr, sFor, sPar, sPar3, sParO, sParO3, eFnX, lendM, lends, lendD, lendR, atomD, keepO, slotOf, sOwn2, eFrz, tvT, truD, sortedD, insertD, eOp2, eOp1, eName, eD, ixD, setS_nw, setS_own, nwAt, noOwn_nw, peek_pl, gSb, gNm, gTp, gCs, gNl, getP, putP, addD, subD, mulD, modD, fdivD, powD, ltD, leD, gtD, geD, isD, isnotD, D.isN, negD, tvB, tvNot, tvAnd, tvOr, evT, evAnd, evOr, evNot, evIf, evChain, eCall, aCons, aNil, peeks, dats, lenD, intD, listD, tupleD, eTup, eLst, eSl, oNone, oSome, slD, revD, eLr1, eLr2, iSeq, iR1_eq, iR1f, iR2_eq, iR2f, iR3_eq, iR3f, iEnu, iZp, tYesM, eMeth, appendD, extendD, popD, reverseD, dropS, eFn, toArgs, backE, aft, finF, backs, eIsi, stp, lim, c0]
    refine (sSeq_nx (E (pR q2 ((rs m (bk h m)).length : Int)) K B RI FA T u) ?_).trans ?_
    · simp [E, RI, T, K, B, FA, sSeq, sSet, sOwn, sAli, sAsg, sRet, sRetN, sIf, sPass, sExpr, sFor, sPar, sPar3, sParO, sParO3, eFnX, lendM, lends, lendD, lendR, atomD, keepO, slotOf, sOwn2, eFrz, tvT, truD, sortedD, insertD, eOp2, eOp1, eName, eD, ixD, setS_nw, setS_own, nwAt, noOwn_nw, peek_pl, gSb, gNm, gTp, gCs, gNl, getP, putP, addD, subD, mulD, modD, fdivD, powD, ltD, leD, gtD, geD, isD, isnotD, D.isN, negD, tvB, tvNot, tvAnd, tvOr, evT, evAnd, evOr, evNot, evIf, evChain, eCall, aCons, aNil, peeks, dats, lenD, intD, listD, tupleD, eTup, eLst, eSl, oNone, oSome, slD, revD, eLr1, eLr2, iSeq, iR1_eq, iR1f, iR2_eq, iR2f, iR3_eq, iR3f, iEnu, iZp, tYesM, eMeth, appendD, extendD, popD, reverseD, dropS, eFn, toArgs, backE, aft, finF, backs, eIsi, stp, lim, pick_eq q2 hl, hx, letter_ok h8 hp, ht2, hu, O.toD]
    refine (sSeq_nx (E (pR q2 ((rs m (bk h m)).length : Int)) K B RI FA T U) ?_).trans ?_
    · simp [E, T, U, sSeq, sSet, sOwn, sAli, sAsg, sRet, sRetN, sIf, sPass, sExpr, sFor, sPar, sPar3, sParO, sParO3, eFnX, lendM, lends, lendD, lendR, atomD, keepO, slotOf, sOwn2, eFrz, tvT, truD, sortedD, insertD, eOp2, eOp1, eName, eD, ixD, setS_nw, setS_own, nwAt, noOwn_nw, peek_pl, gSb, gNm, gTp, gCs, gNl, getP, putP, addD, subD, mulD, modD, fdivD, powD, ltD, leD, gtD, geD, isD, isnotD, D.isN, negD, tvB, tvNot, tvAnd, tvOr, evT, evAnd, evOr, evNot, evIf, evChain, eCall, aCons, aNil, peeks, dats, lenD, intD, listD, tupleD, eTup, eLst, eSl, oNone, oSome, slD, revD, eLr1, eLr2, iSeq, iR1_eq, iR1f, iR2_eq, iR2f, iR3_eq, iR3f, iEnu, iZp, tYesM, eMeth, appendD, extendD, popD, reverseD, dropS, eFn, toArgs, backE, aft, finF, backs, eIsi, stp, lim, law_composed_ok _ h8 P, hu, O.toD]
    refine (sSeq_nx (E (pR q2 ((rs m (bk h m)).length : Int)) K B RI FA T U) ?_).trans ?_
    · have hcc := cp2 (pR q2 ((rs m (bk h m)).length : Int)) T U
      simp only [E, K, B, RI, FA, T, U] at hcc ⊢
      simp [eComp, sSeq, sSet, sOwn, sAli, sAsg, sRet, sRetN, sIf, sPass, sExpr, sFor, sPar, sPar3, sParO, sParO3, eFnX, lendM, lends, lendD, lendR, atomD, keepO, slotOf, sOwn2, eFrz, tvT, truD, sortedD, insertD, eOp2, eOp1, eName, eD, ixD, setS_nw, setS_own, nwAt, noOwn_nw, peek_pl, gSb, gNm, gTp, gCs, gNl, getP, putP, addD, subD, mulD, modD, fdivD, powD, ltD, leD, gtD, geD, isD, isnotD, D.isN, negD, tvB, tvNot, tvAnd, tvOr, evT, evAnd, evOr, evNot, evIf, evChain, eCall, aCons, aNil, peeks, dats, lenD, intD, listD, tupleD, eTup, eLst, eSl, oNone, oSome, slD, revD, eLr1, eLr2, iSeq, iR1_eq, iR1f, iR2_eq, iR2f, iR3_eq, iR3f, iEnu, iZp, tYesM, eMeth, appendD, extendD, popD, reverseD, dropS, eFn, toArgs, backE, aft, finF, backs, eIsi, stp, lim, hcc, hyes, hsm, O.toD]
    · simp [E, U, sSeq, sSet, sOwn, sAli, sAsg, sRet, sRetN, sIf, sPass, sExpr, sFor, sPar, sPar3, sParO, sParO3, eFnX, lendM, lends, lendD, lendR, atomD, keepO, slotOf, sOwn2, eFrz, tvT, truD, sortedD, insertD, eOp2, eOp1, eName, eD, ixD, setS_nw, setS_own, nwAt, noOwn_nw, peek_pl, gSb, gNm, gTp, gCs, gNl, getP, putP, addD, subD, mulD, modD, fdivD, powD, ltD, leD, gtD, geD, isD, isnotD, D.isN, negD, tvB, tvNot, tvAnd, tvOr, evT, evAnd, evOr, evNot, evIf, evChain, eCall, aCons, aNil, peeks, dats, lenD, intD, listD, tupleD, eTup, eLst, eSl, oNone, oSome, slD, revD, eLr1, eLr2, iSeq, iR1_eq, iR1f, iR2_eq, iR2f, iR3_eq, iR3f, iEnu, iZp, tYesM, eMeth, appendD, extendD, popD, reverseD, dropS, eFn, toArgs, backE, aft, finF, backs, eIsi, stp, lim]
end Law
namespace Law
open PySem DL Mir Bm
theorem climb_loop {m : Nat} {s : Sq} (h1 : 1 ≤ m) (h8 : m ≤ 8) : ∀ {w : List Int} {h : Sq} {q : Pool} {a b c d t u : S}, Prm m h → tri m < inv h m + w.length → Pl a = true → Pl b = true → Pl c = true → Pl d = true → Pl t = true → Pl u = true →
    ∃ (q' : Pool) (e : Ve), forL (gNm 4) b__law_climb_right_7 (mi w) [.own (.lst q.1), .dat (.int m), .dat (.lst (mi (tab m s))), .dat (.lst (mi (tab m h))), a, b, c, d, t, u, .un, .un] = .rt (.dat (.bl true)) (.own (.lst q'.1) :: .dat (.int m) :: .dat (.lst (mi (tab m s))) :: e)
  | [], h, q, a, b, c, d, t, u, P, hl, _, _, _, _, _, _ => by
    have := inv_le_tri P
    simp at hl
    omega
  | k :: w, h, q, a, b, c, d, t, u, P, hl, ha, hb, hc, hd, ht, hu => by
    show ∃ q' e, forL (gNm 4) b__law_climb_right_7 (D.int k :: mi w) _ = _
    rcases climb_step (s := s) (q := q) h1 h8 P ha hb hc hd ht hu k with ⟨q', e, st⟩ | ⟨q', h', a', b', c', d', t', u', st, P', hi, k1, k2, k3, k4, k5, k6⟩
    · exact ⟨q', e, by rw [forL_stp, st]⟩
    · simp only [List.length_cons] at hl
      obtain ⟨q2, e, e2⟩ := climb_loop h1 h8 (w := w) (q := q') P' (by omega) k1 k2 k3 k4 k5 k6
      exact ⟨q2, e, by rw [forL_stp, st]; exact e2⟩
theorem climb_right_ok (q : Pool) {m : Nat} {s : Sq} (h1 : 1 ≤ m) (h8 : m ≤ 8) (P : Prm m s) : ∃ q' : Pool, f__law_climb_right [.own (.lst q.1), .dat (.int m), .dat (.lst (mi (tab m s)))] = .ok (.dat (.bl true)) [.lst q'.1] := by
  have ht := tri_le h8
  obtain ⟨q', e, e1⟩ := climb_loop (s := s) h1 h8 (w := rg 0 29) (q := q) (a := .un) (b := .un) (c := .un) (d := .un) (t := .un) (u := .un) P (by rw [rg_length]; omega) rfl rfl rfl rfl rfl rfl
  have hcp : compL [10] (gNm 10) tYesM c__law_climb_right_8 (mi (tab m s)) [.own (.lst q.1), .dat (.int m), .dat (.lst (mi (tab m s))), .un, .un, .un, .un, .un, .un, .un, .un, .un] [] = .ok (.new (.lst (mi ((tab m s).map fun x => x)))) [.own (.lst q.1), .dat (.int m), .dat (.lst (mi (tab m s))), .un, .un, .un, .un, .un, .un, .un, .un, .un] := by
    refine comp_map (fun x => x) rfl (by rw [tab_length]; simp only [lim]; omega) fun i hi => ⟨[.own (.lst q.1), .dat (.int m), .dat (.lst (mi (tab m s))), .un, .un, .un, .un, .un, .un, .un, .dat (.int i), .un], by simp [gNm, wipeV, sSeq, sSet, sOwn, sAli, sAsg, sRet, sRetN, sIf, sPass, sExpr, sFor, sPar, sPar3, sParO, sParO3, eFnX, lendM, lends, lendD, lendR, atomD, keepO, slotOf, sOwn2, eFrz, tvT, truD, sortedD, insertD, eOp2, eOp1, eName, eD, ixD, setS_nw, setS_own, nwAt, noOwn_nw, peek_pl, gSb, gNm, gTp, gCs, gNl, getP, putP, addD, subD, mulD, modD, fdivD, powD, ltD, leD, gtD, geD, isD, isnotD, D.isN, negD, tvB, tvNot, tvAnd, tvOr, evT, evAnd, evOr, evNot, evIf, evChain, eCall, aCons, aNil, peeks, dats, lenD, intD, listD, tupleD, eTup, eLst, eSl, oNone, oSome, slD, revD, eLr1, eLr2, iSeq, iR1_eq, iR1f, iR2_eq, iR2f, iR3_eq, iR3f, iEnu, iZp, tYesM, eMeth, appendD, extendD, popD, reverseD, dropS, eFn, toArgs, backE, aft, finF, backs, eIsi, stp, lim], [.own (.lst q.1), .dat (.int m), .dat (.lst (mi (tab m s))), .un, .un, .un, .un, .un, .un, .un, .dat (.int i), .un], by simp [c__law_climb_right_8, sSeq, sSet, sOwn, sAli, sAsg, sRet, sRetN, sIf, sPass, sExpr, sFor, sPar, sPar3, sParO, sParO3, eFnX, lendM, lends, lendD, lendR, atomD, keepO, slotOf, sOwn2, eFrz, tvT, truD, sortedD, insertD, eOp2, eOp1, eName, eD, ixD, setS_nw, setS_own, nwAt, noOwn_nw, peek_pl, gSb, gNm, gTp, gCs, gNl, getP, putP, addD, subD, mulD, modD, fdivD, powD, ltD, leD, gtD, geD, isD, isnotD, D.isN, negD, tvB, tvNot, tvAnd, tvOr, evT, evAnd, evOr, evNot, evIf, evChain, eCall, aCons, aNil, peeks, dats, lenD, intD, listD, tupleD, eTup, eLst, eSl, oNone, oSome, slD, revD, eLr1, eLr2, iSeq, iR1_eq, iR1f, iR2_eq, iR2f, iR3_eq, iR3f, iEnu, iZp, tYesM, eMeth, appendD, extendD, popD, reverseD, dropS, eFn, toArgs, backE, aft, finF, backs, eIsi, stp, lim], rfl, rfl, rfl⟩
  rw [List.map_id'' (fun _ => rfl)] at hcp
  refine ⟨q', ?_⟩
  unfold f__law_climb_right
  refine (runF_rt (by rfl) (by rfl) (r := .dat (.bl true)) (e := .own (.lst q'.1) :: .dat (.int m) :: .dat (.lst (mi (tab m s))) :: e) ?_).trans (by simp [sSeq, sSet, sOwn, sAli, sAsg, sRet, sRetN, sIf, sPass, sExpr, sFor, sPar, sPar3, sParO, sParO3, eFnX, lendM, lends, lendD, lendR, atomD, keepO, slotOf, sOwn2, eFrz, tvT, truD, sortedD, insertD, eOp2, eOp1, eName, eD, ixD, setS_nw, setS_own, nwAt, noOwn_nw, peek_pl, gSb, gNm, gTp, gCs, gNl, getP, putP, addD, subD, mulD, modD, fdivD, powD, ltD, leD, gtD, geD, isD, isnotD, D.isN, negD, tvB, tvNot, tvAnd, tvOr, evT, evAnd, evOr, evNot, evIf, evChain, eCall, aCons, aNil, peeks, dats, lenD, intD, listD, tupleD, eTup, eLst, eSl, oNone, oSome, slD, revD, eLr1, eLr2, iSeq, iR1_eq, iR1f, iR2_eq, iR2f, iR3_eq, iR3f, iEnu, iZp, tYesM, eMeth, appendD, extendD, popD, reverseD, dropS, eFn, toArgs, backE, aft, finF, backs, eIsi, stp, lim])
  show m__law_climb_right [.own (.lst q.1), .dat (.int m), .dat (.lst (mi (tab m s))), .un, .un, .un, .un, .un, .un, .un, .un, .un] = _
  unfold m__law_climb_right
  refine (sSeq_nx [.own (.lst q.1), .dat (.int m), .dat (.lst (mi (tab m s))), .dat (.lst (mi (tab m s))), .un, .un, .un, .un, .un, .un, .un, .un] ?_).trans (sSeq_rt ?_)
  · simp [eComp, sSeq, sSet, sOwn, sAli, sAsg, sRet, sRetN, sIf, sPass, sExpr, sFor, sPar, sPar3, sParO, sParO3, eFnX, lendM, lends, lendD, lendR, atomD, keepO, slotOf, sOwn2, eFrz, tvT, truD, sortedD, insertD, eOp2, eOp1, eName, eD, ixD, setS_nw, setS_own, nwAt, noOwn_nw, peek_pl, gSb, gNm, gTp, gCs, gNl, getP, putP, addD, subD, mulD, modD, fdivD, powD, ltD, leD, gtD, geD, isD, isnotD, D.isN, negD, tvB, tvNot, tvAnd, tvOr, evT, evAnd, evOr, evNot, evIf, evChain, eCall, aCons, aNil, peeks, dats, lenD, intD, listD, tupleD, eTup, eLst, eSl, oNone, oSome, slD, revD, eLr1, eLr2, iSeq, iR1_eq, iR1f, iR2_eq, iR2f, iR3_eq, iR3f, iEnu, iZp, tYesM, eMeth, appendD, extendD, popD, reverseD, dropS, eFn, toArgs, backE, aft, finF, backs, eIsi, stp, lim, hcp, O.toD]
  · unfold sFor
    have hi : iR1 (aCons true (eD (.int 29)) aNil) [.own (.lst q.1), .dat (.int m), .dat (.lst (mi (tab m s))), .dat (.lst (mi (tab m s))), .un, .un, .un, .un, .un, .un, .un, .un] = .ok (mi (rg 0 29)) [.own (.lst q.1), .dat (.int m), .dat (.lst (mi (tab m s))), .dat (.lst (mi (tab m s))), .un, .un, .un, .un, .un, .un, .un, .un] := by simp [sSeq, sSet, sOwn, sAli, sAsg, sRet, sRetN, sIf, sPass, sExpr, sFor, sPar, sPar3, sParO, sParO3, eFnX, lendM, lends, lendD, lendR, atomD, keepO, slotOf, sOwn2, eFrz, tvT, truD, sortedD, insertD, eOp2, eOp1, eName, eD, ixD, setS_nw, setS_own, nwAt, noOwn_nw, peek_pl, gSb, gNm, gTp, gCs, gNl, getP, putP, addD, subD, mulD, modD, fdivD, powD, ltD, leD, gtD, geD, isD, isnotD, D.isN, negD, tvB, tvNot, tvAnd, tvOr, evT, evAnd, evOr, evNot, evIf, evChain, eCall, aCons, aNil, peeks, dats, lenD, intD, listD, tupleD, eTup, eLst, eSl, oNone, oSome, slD, revD, eLr1, eLr2, iSeq, iR1_eq, iR1f, iR2_eq, iR2f, iR3_eq, iR3f, iEnu, iZp, tYesM, eMeth, appendD, extendD, popD, reverseD, dropS, eFn, toArgs, backE, aft, finF, backs, eIsi, stp, lim]
    rw [hi]
    exact e1
theorem law_turn {q : Pool} {sc a b c d e : S} (hsc : Pl sc = true) (ha : Pl a = true) (hb : Pl b = true) (hc : Pl c = true) (hd : Pl d = true) (he : Pl e = true) (k : Int) :
    ∃ (q' : Pool) (a' b' c' d' e' : S), stp (gNm 2) b_law_1 (.int k) [sc, .own (.lst q.1), a, b, c, d, e] = .nx [sc, .own (.lst q'.1), a', b', c', d', e'] ∧ Pl a' = true ∧ Pl b' = true ∧ Pl c' = true ∧ Pl d' = true ∧ Pl e' = true := by
  obtain ⟨m, h1, h8, e1⟩ := strands_ok q
  obtain ⟨s, q2, e2, P⟩ := simple_ok (pR q 12) h1 h8
  obtain ⟨t, q3, R, e3⟩ := partner_ok q2 h1 h8 P
  obtain ⟨u, q4, U, e4⟩ := partner_ok q3 h1 h8 R
  obtain ⟨q5, e5⟩ := climb_right_ok q4 h1 h8 P
  have p1 := product_right_ok h1 h8 P R
  have p2 := product_right_ok h1 h8 R U
  have p3 := product_right_ok h1 h8 P P
  have r1 := rests_right_ok h1 h8 P
  have r2 := rests_right_ok h1 h8 R
  let E : Pool → S → S → S → S → Ve := fun q b c d e => [sc, .own (.lst q.1), .dat (.int k), b, c, d, e]
  let B : S := .dat (.int m)
  let C : S := .dat (.lst (mi (tab m s)))
  let D' : S := .dat (.lst (mi (tab m t)))
  let E' : S := .dat (.lst (mi (tab m u)))
  refine ⟨q5, .dat (.int k), B, C, D', E', ?_, rfl, rfl, rfl, rfl, rfl⟩
  unfold stp
  have g : gNm 2 (.int k) [sc, .own (.lst q.1), a, b, c, d, e] = some (E q b c d e) := by simp [E, sSeq, sSet, sOwn, sAli, sAsg, sRet, sRetN, sIf, sPass, sExpr, sFor, sPar, sPar3, sParO, sParO3, eFnX, lendM, lends, lendD, lendR, atomD, keepO, slotOf, sOwn2, eFrz, tvT, truD, sortedD, insertD, eOp2, eOp1, eName, eD, ixD, setS_nw, setS_own, nwAt, noOwn_nw, peek_pl, gSb, gNm, gTp, gCs, gNl, getP, putP, addD, subD, mulD, modD, fdivD, powD, ltD, leD, gtD, geD, isD, isnotD, D.isN, negD, tvB, tvNot, tvAnd, tvOr, evT, evAnd, evOr, evNot, evIf, evChain, eCall, aCons, aNil, peeks, dats, lenD, intD, listD, tupleD, eTup, eLst, eSl, oNone, oSome, slD, revD, eLr1, eLr2, iSeq, iR1_eq, iR1f, iR2_eq, iR2f, iR3_eq, iR3f, iEnu, iZp, tYesM, eMeth, appendD, extendD, popD, reverseD, dropS, eFn, toArgs, backE, aft, finF, backs, eIsi, stp, lim, ha]
  rw [g]
  simp only
  unfold b_law_1
  refine (sSeq_nx (E (pR q 12) B c d e) ?_).trans ?_
  · simp [E, B, sSeq, sSet, sOwn, sAli, sAsg, sRet, sRetN, sIf, sPass, sExpr, sFor, sPar, sPar3, sParO, sParO3, eFnX, lendM, lends, lendD, lendR, atomD, keepO, slotOf, sOwn2, eFrz, tvT, truD, sortedD, insertD, eOp2, eOp1, eName, eD, ixD, setS_nw, setS_own, nwAt, noOwn_nw, peek_pl, gSb, gNm, gTp, gCs, gNl, getP, putP, addD, subD, mulD, modD, fdivD, powD, ltD, leD, gtD, geD, isD, isnotD, D.isN, negD, tvB, tvNot, tvAnd, tvOr, evT, evAnd, evOr, evNot, evIf, evChain, eCall, aCons, aNil, peeks, dats, lenD, intD, listD, tupleD, eTup, eLst, eSl, oNone, oSome, slD, revD, eLr1, eLr2, iSeq, iR1_eq, iR1f, iR2_eq, iR2f, iR3_eq, iR3f, iEnu, iZp, tYesM, eMeth, appendD, extendD, popD, reverseD, dropS, eFn, toArgs, backE, aft, finF, backs, eIsi, stp, lim, e1, hsc, hb, hc, hd, he]
  refine (sSeq_nx (E q2 B C d e) ?_).trans ?_
  · simp [E, B, C, sSeq, sSet, sOwn, sAli, sAsg, sRet, sRetN, sIf, sPass, sExpr, sFor, sPar, sPar3, sParO, sParO3, eFnX, lendM, lends, lendD, lendR, atomD, keepO, slotOf, sOwn2, eFrz, tvT, truD, sortedD, insertD, eOp2, eOp1, eName, eD, ixD, setS_nw, setS_own, nwAt, noOwn_nw, peek_pl, gSb, gNm, gTp, gCs, gNl, getP, putP, addD, subD, mulD, modD, fdivD, powD, ltD, leD, gtD, geD, isD, isnotD, D.isN, negD, tvB, tvNot, tvAnd, tvOr, evT, evAnd, evOr, evNot, evIf, evChain, eCall, aCons, aNil, peeks, dats, lenD, intD, listD, tupleD, eTup, eLst, eSl, oNone, oSome, slD, revD, eLr1, eLr2, iSeq, iR1_eq, iR1f, iR2_eq, iR2f, iR3_eq, iR3f, iEnu, iZp, tYesM, eMeth, appendD, extendD, popD, reverseD, dropS, eFn, toArgs, backE, aft, finF, backs, eIsi, stp, lim, e2, hsc, hc, hd, he, O.toD]
  refine (sSeq_nx (E q3 B C D' e) ?_).trans ?_
  · rcases e3 with e3 | e3
    · simp [E, B, C, D', sSeq, sSet, sOwn, sAli, sAsg, sRet, sRetN, sIf, sPass, sExpr, sFor, sPar, sPar3, sParO, sParO3, eFnX, lendM, lends, lendD, lendR, atomD, keepO, slotOf, sOwn2, eFrz, tvT, truD, sortedD, insertD, eOp2, eOp1, eName, eD, ixD, setS_nw, setS_own, nwAt, noOwn_nw, peek_pl, gSb, gNm, gTp, gCs, gNl, getP, putP, addD, subD, mulD, modD, fdivD, powD, ltD, leD, gtD, geD, isD, isnotD, D.isN, negD, tvB, tvNot, tvAnd, tvOr, evT, evAnd, evOr, evNot, evIf, evChain, eCall, aCons, aNil, peeks, dats, lenD, intD, listD, tupleD, eTup, eLst, eSl, oNone, oSome, slD, revD, eLr1, eLr2, iSeq, iR1_eq, iR1f, iR2_eq, iR2f, iR3_eq, iR3f, iEnu, iZp, tYesM, eMeth, appendD, extendD, popD, reverseD, dropS, eFn, toArgs, backE, aft, finF, backs, eIsi, stp, lim, e3, hsc, hd, he, O.toD]
    · simp [E, B, C, D', sSeq, sSet, sOwn, sAli, sAsg, sRet, sRetN, sIf, sPass, sExpr, sFor, sPar, sPar3, sParO, sParO3, eFnX, lendM, lends, lendD, lendR, atomD, keepO, slotOf, sOwn2, eFrz, tvT, truD, sortedD, insertD, eOp2, eOp1, eName, eD, ixD, setS_nw, setS_own, nwAt, noOwn_nw, peek_pl, gSb, gNm, gTp, gCs, gNl, getP, putP, addD, subD, mulD, modD, fdivD, powD, ltD, leD, gtD, geD, isD, isnotD, D.isN, negD, tvB, tvNot, tvAnd, tvOr, evT, evAnd, evOr, evNot, evIf, evChain, eCall, aCons, aNil, peeks, dats, lenD, intD, listD, tupleD, eTup, eLst, eSl, oNone, oSome, slD, revD, eLr1, eLr2, iSeq, iR1_eq, iR1f, iR2_eq, iR2f, iR3_eq, iR3f, iEnu, iZp, tYesM, eMeth, appendD, extendD, popD, reverseD, dropS, eFn, toArgs, backE, aft, finF, backs, eIsi, stp, lim, e3, hsc, hd, he, O.toD]
  refine (sSeq_nx (E q4 B C D' E') ?_).trans ?_
  · rcases e4 with e4 | e4
    · simp [E, B, C, D', E', sSeq, sSet, sOwn, sAli, sAsg, sRet, sRetN, sIf, sPass, sExpr, sFor, sPar, sPar3, sParO, sParO3, eFnX, lendM, lends, lendD, lendR, atomD, keepO, slotOf, sOwn2, eFrz, tvT, truD, sortedD, insertD, eOp2, eOp1, eName, eD, ixD, setS_nw, setS_own, nwAt, noOwn_nw, peek_pl, gSb, gNm, gTp, gCs, gNl, getP, putP, addD, subD, mulD, modD, fdivD, powD, ltD, leD, gtD, geD, isD, isnotD, D.isN, negD, tvB, tvNot, tvAnd, tvOr, evT, evAnd, evOr, evNot, evIf, evChain, eCall, aCons, aNil, peeks, dats, lenD, intD, listD, tupleD, eTup, eLst, eSl, oNone, oSome, slD, revD, eLr1, eLr2, iSeq, iR1_eq, iR1f, iR2_eq, iR2f, iR3_eq, iR3f, iEnu, iZp, tYesM, eMeth, appendD, extendD, popD, reverseD, dropS, eFn, toArgs, backE, aft, finF, backs, eIsi, stp, lim, e4, hsc, he, O.toD]
    · simp [E, B, C, D', E', sSeq, sSet, sOwn, sAli, sAsg, sRet, sRetN, sIf, sPass, sExpr, sFor, sPar, sPar3, sParO, sParO3, eFnX, lendM, lends, lendD, lendR, atomD, keepO, slotOf, sOwn2, eFrz, tvT, truD, sortedD, insertD, eOp2, eOp1, eName, eD, ixD, setS_nw, setS_own, nwAt, noOwn_nw, peek_pl, gSb, gNm, gTp, gCs, gNl, getP, putP, addD, subD, mulD, modD, fdivD, powD, ltD, leD, gtD, geD, isD, isnotD, D.isN, negD, tvB, tvNot, tvAnd, tvOr, evT, evAnd, evOr, evNot, evIf, evChain, eCall, aCons, aNil, peeks, dats, lenD, intD, listD, tupleD, eTup, eLst, eSl, oNone, oSome, slD, revD, eLr1, eLr2, iSeq, iR1_eq, iR1f, iR2_eq, iR2f, iR3_eq, iR3f, iEnu, iZp, tYesM, eMeth, appendD, extendD, popD, reverseD, dropS, eFn, toArgs, backE, aft, finF, backs, eIsi, stp, lim, e4, hsc, he, O.toD]
  refine (sSeq_nx (E q4 B C D' E') ?_).trans ?_
  · simp [E, B, C, D', E', sSeq, sSet, sOwn, sAli, sAsg, sRet, sRetN, sIf, sPass, sExpr, sFor, sPar, sPar3, sParO, sParO3, eFnX, lendM, lends, lendD, lendR, atomD, keepO, slotOf, sOwn2, eFrz, tvT, truD, sortedD, insertD, eOp2, eOp1, eName, eD, ixD, setS_nw, setS_own, nwAt, noOwn_nw, peek_pl, gSb, gNm, gTp, gCs, gNl, getP, putP, addD, subD, mulD, modD, fdivD, powD, ltD, leD, gtD, geD, isD, isnotD, D.isN, negD, tvB, tvNot, tvAnd, tvOr, evT, evAnd, evOr, evNot, evIf, evChain, eCall, aCons, aNil, peeks, dats, lenD, intD, listD, tupleD, eTup, eLst, eSl, oNone, oSome, slD, revD, eLr1, eLr2, iSeq, iR1_eq, iR1f, iR2_eq, iR2f, iR3_eq, iR3f, iEnu, iZp, tYesM, eMeth, appendD, extendD, popD, reverseD, dropS, eFn, toArgs, backE, aft, finF, backs, eIsi, stp, lim, p1, p2]
  refine (sSeq_nx (E q4 B C D' E') ?_).trans ?_
  · simp [E, B, C, D', E', sSeq, sSet, sOwn, sAli, sAsg, sRet, sRetN, sIf, sPass, sExpr, sFor, sPar, sPar3, sParO, sParO3, eFnX, lendM, lends, lendD, lendR, atomD, keepO, slotOf, sOwn2, eFrz, tvT, truD, sortedD, insertD, eOp2, eOp1, eName, eD, ixD, setS_nw, setS_own, nwAt, noOwn_nw, peek_pl, gSb, gNm, gTp, gCs, gNl, getP, putP, addD, subD, mulD, modD, fdivD, powD, ltD, leD, gtD, geD, isD, isnotD, D.isN, negD, tvB, tvNot, tvAnd, tvOr, evT, evAnd, evOr, evNot, evIf, evChain, eCall, aCons, aNil, peeks, dats, lenD, intD, listD, tupleD, eTup, eLst, eSl, oNone, oSome, slD, revD, eLr1, eLr2, iSeq, iR1_eq, iR1f, iR2_eq, iR2f, iR3_eq, iR3f, iEnu, iZp, tYesM, eMeth, appendD, extendD, popD, reverseD, dropS, eFn, toArgs, backE, aft, finF, backs, eIsi, stp, lim, p3, r1, r2]
  · simp [E, B, C, D', E', sSeq, sSet, sOwn, sAli, sAsg, sRet, sRetN, sIf, sPass, sExpr, sFor, sPar, sPar3, sParO, sParO3, eFnX, lendM, lends, lendD, lendR, atomD, keepO, slotOf, sOwn2, eFrz, tvT, truD, sortedD, insertD, eOp2, eOp1, eName, eD, ixD, setS_nw, setS_own, nwAt, noOwn_nw, peek_pl, gSb, gNm, gTp, gCs, gNl, getP, putP, addD, subD, mulD, modD, fdivD, powD, ltD, leD, gtD, geD, isD, isnotD, D.isN, negD, tvB, tvNot, tvAnd, tvOr, evT, evAnd, evOr, evNot, evIf, evChain, eCall, aCons, aNil, peeks, dats, lenD, intD, listD, tupleD, eTup, eLst, eSl, oNone, oSome, slD, revD, eLr1, eLr2, iSeq, iR1_eq, iR1f, iR2_eq, iR2f, iR3_eq, iR3f, iEnu, iZp, tYesM, eMeth, appendD, extendD, popD, reverseD, dropS, eFn, toArgs, backE, aft, finF, backs, eIsi, stp, lim, e5, hsc]
theorem law_loop : ∀ {w : List Int} {q : Pool} {sc a b c d e : S}, Pl sc = true → Pl a = true → Pl b = true → Pl c = true → Pl d = true → Pl e = true →
    ∃ (q' : Pool) (a' b' c' d' e' : S), forL (gNm 2) b_law_1 (mi w) [sc, .own (.lst q.1), a, b, c, d, e] = .nx [sc, .own (.lst q'.1), a', b', c', d', e']
  | [], q, sc, a, b, c, d, e, _, _, _, _, _, _ => ⟨q, a, b, c, d, e, rfl⟩
  | k :: w, q, sc, a, b, c, d, e, hsc, ha, hb, hc, hd, he => by
    obtain ⟨q1, a1, b1, c1, d1, e1, st, k1, k2, k3, k4, k5⟩ := law_turn (q := q) hsc ha hb hc hd he k
    obtain ⟨q2, a2, b2, c2, d2, e2, st2⟩ := law_loop (w := w) (q := q1) hsc k1 k2 k3 k4 k5
    refine ⟨q2, a2, b2, c2, d2, e2, ?_⟩
    show forL (gNm 2) b_law_1 (D.int k :: mi w) _ = _
    rw [forL_stp, st]
    exact st2
theorem law_true (ns : List Int) (h : ns.length ≤ 63) : f_law [.dat (.scr ns)] = .ok (.dat (.bl true)) [] := by
  obtain ⟨q0, e0⟩ := stream_ok ns h
  obtain ⟨q, a, b, c, d, e, e1⟩ := law_loop (w := rg 0 3) (q := q0) (sc := .dat (.scr ns)) (a := .un) (b := .un) (c := .un) (d := .un) (e := .un) rfl rfl rfl rfl rfl rfl
  unfold f_law
  refine (runF_rt (by rfl) (by rfl) (r := .dat (.bl true)) (e := [.dat (.scr ns), .own (.lst q.1), a, b, c, d, e]) ?_).trans (by simp [sSeq, sSet, sOwn, sAli, sAsg, sRet, sRetN, sIf, sPass, sExpr, sFor, sPar, sPar3, sParO, sParO3, eFnX, lendM, lends, lendD, lendR, atomD, keepO, slotOf, sOwn2, eFrz, tvT, truD, sortedD, insertD, eOp2, eOp1, eName, eD, ixD, setS_nw, setS_own, nwAt, noOwn_nw, peek_pl, gSb, gNm, gTp, gCs, gNl, getP, putP, addD, subD, mulD, modD, fdivD, powD, ltD, leD, gtD, geD, isD, isnotD, D.isN, negD, tvB, tvNot, tvAnd, tvOr, evT, evAnd, evOr, evNot, evIf, evChain, eCall, aCons, aNil, peeks, dats, lenD, intD, listD, tupleD, eTup, eLst, eSl, oNone, oSome, slD, revD, eLr1, eLr2, iSeq, iR1_eq, iR1f, iR2_eq, iR2f, iR3_eq, iR3f, iEnu, iZp, tYesM, eMeth, appendD, extendD, popD, reverseD, dropS, eFn, toArgs, backE, aft, finF, backs, eIsi, stp, lim])
  show m_law [.dat (.scr ns), .un, .un, .un, .un, .un, .un] = _
  unfold m_law
  refine (sSeq_nx [.dat (.scr ns), .own (.lst q0.1), .un, .un, .un, .un, .un] ?_).trans ?_
  · simp [sSeq, sSet, sOwn, sAli, sAsg, sRet, sRetN, sIf, sPass, sExpr, sFor, sPar, sPar3, sParO, sParO3, eFnX, lendM, lends, lendD, lendR, atomD, keepO, slotOf, sOwn2, eFrz, tvT, truD, sortedD, insertD, eOp2, eOp1, eName, eD, ixD, setS_nw, setS_own, nwAt, noOwn_nw, peek_pl, gSb, gNm, gTp, gCs, gNl, getP, putP, addD, subD, mulD, modD, fdivD, powD, ltD, leD, gtD, geD, isD, isnotD, D.isN, negD, tvB, tvNot, tvAnd, tvOr, evT, evAnd, evOr, evNot, evIf, evChain, eCall, aCons, aNil, peeks, dats, lenD, intD, listD, tupleD, eTup, eLst, eSl, oNone, oSome, slD, revD, eLr1, eLr2, iSeq, iR1_eq, iR1f, iR2_eq, iR2f, iR3_eq, iR3f, iEnu, iZp, tYesM, eMeth, appendD, extendD, popD, reverseD, dropS, eFn, toArgs, backE, aft, finF, backs, eIsi, stp, lim, e0]
  refine (sSeq_nx [.dat (.scr ns), .own (.lst q.1), a, b, c, d, e] ?_).trans ?_
  · unfold sFor
    have hi : iR1 (aCons true (eD (.int 3)) aNil) [.dat (.scr ns), .own (.lst q0.1), .un, .un, .un, .un, .un] = .ok (mi (rg 0 3)) [.dat (.scr ns), .own (.lst q0.1), .un, .un, .un, .un, .un] := by simp [sSeq, sSet, sOwn, sAli, sAsg, sRet, sRetN, sIf, sPass, sExpr, sFor, sPar, sPar3, sParO, sParO3, eFnX, lendM, lends, lendD, lendR, atomD, keepO, slotOf, sOwn2, eFrz, tvT, truD, sortedD, insertD, eOp2, eOp1, eName, eD, ixD, setS_nw, setS_own, nwAt, noOwn_nw, peek_pl, gSb, gNm, gTp, gCs, gNl, getP, putP, addD, subD, mulD, modD, fdivD, powD, ltD, leD, gtD, geD, isD, isnotD, D.isN, negD, tvB, tvNot, tvAnd, tvOr, evT, evAnd, evOr, evNot, evIf, evChain, eCall, aCons, aNil, peeks, dats, lenD, intD, listD, tupleD, eTup, eLst, eSl, oNone, oSome, slD, revD, eLr1, eLr2, iSeq, iR1_eq, iR1f, iR2_eq, iR2f, iR3_eq, iR3f, iEnu, iZp, tYesM, eMeth, appendD, extendD, popD, reverseD, dropS, eFn, toArgs, backE, aft, finF, backs, eIsi, stp, lim]
    rw [hi]
    exact e1
  rfl
end Law
/-! the walk, printed by wip/gen.py -/
namespace Wlk
open PySem PySem.Spec PyProof.Rows L2 DL Mir
def top (i : Nat) : Stmt := PySem.Challenge.pw_braidyard_k14_whole_products_and_rests.main.body.getD i (.Pass ⟨0, 0, 0, 0⟩)
abbrev s__law_pool : Stmt := top 24
abbrev s__law_stream : Stmt := top 25
abbrev s__law_pick : Stmt := top 26
abbrev s__law_strands : Stmt := top 31
abbrev s__law_shuffled : Stmt := top 32
abbrev s__law_simple : Stmt := top 33
abbrev s__law_simple_word : Stmt := top 28
abbrev s__law_turning : Stmt := top 27
abbrev s__law_composed : Stmt := top 35
abbrev s__law_letter : Stmt := top 37
abbrev s__law_backward : Stmt := top 34
abbrev s__law_partner : Stmt := top 39
abbrev s__law_same : Stmt := top 30
abbrev s_is_number : Stmt := top 6
abbrev s_check_strands : Stmt := top 7
abbrev s_is_place : Stmt := top 8
abbrev s_check_turning : Stmt := top 10
abbrev s_check_simples : Stmt := top 11
abbrev s_composed : Stmt := top 13
abbrev s_crossings : Stmt := top 14
abbrev s_then_simple : Stmt := top 19
abbrev s__law_climb_right : Stmt := top 42
abbrev s__law_crossings : Stmt := top 36
abbrev s__law_product_right : Stmt := top 40
abbrev s_opposite : Stmt := top 15
abbrev s_backward : Stmt := top 12
abbrev s_rest : Stmt := top 16
abbrev s_rest_of : Stmt := top 20
abbrev s_rest_ahead : Stmt := top 17
abbrev s_fore_rest : Stmt := top 21
abbrev s_about : Stmt := top 18
abbrev s_turned_simple : Stmt := top 22
abbrev s__law_whole : Stmt := top 29
abbrev s__law_is_turning : Stmt := top 38
abbrev s__law_rests_right : Stmt := top 41
abbrev s_law : Stmt := top 43
structure Glb (mg : Str → Option Value) : Prop where
  n_abs : mg "abs" = none
  n_all : mg "all" = none
  n_bool : mg "bool" = none
  n_enumerate : mg "enumerate" = none
  n_int : mg "int" = none
  n_isinstance : mg "isinstance" = none
  n_len : mg "len" = none
  n_list : mg "list" = none
  n_range : mg "range" = none
  n_sorted : mg "sorted" = none
  n_str : mg "str" = none
  n_sum : mg "sum" = none
  n_tuple : mg "tuple" = none
  c_MOST_STRANDS : ∃ t, mg "MOST_STRANDS" = some (.int (8) t)
section
variable {P : Program} {w : World} {K : PySem.W.Frag} {mg : Str → Option Value} {base : Heap}
theorem sc__law_pool : FnScope ["script", "pool", "cell", "state", "k", "rest_v"] ["script"] (defScope s__law_pool) := ⟨rfl, rfl, rfl, by decide +kernel, rfl, by decide +kernel, by decide +kernel⟩
theorem ok__law_pool (D : DefAt K mg "_law_pool" ["script"] s__law_pool) (G : Glb mg)  : FnAt P w K mg base 1 "_law_pool" ["script"] 1 f__law_pool := by
  refine fn_at (fixed := [0]) D sc__law_pool (by decide) (by decide) fun f cdv A outer s H n E hr => ?_
  have hu := hr.units
  have hu5 := units65 hr
  have hp := passes_of (X := cxOf (L2.CX P w) P w K mg base ["script", "pool", "cell", "state", "k", "rest_v"] "_law_pool" (defScope s__law_pool) f cdv A outer s H E) rfl
  have tk := takes_of (X := cxOf (L2.CX P w) P w K mg base ["script", "pool", "cell", "state", "k", "rest_v"] "_law_pool" (defScope s__law_pool) f cdv A outer s H E) (E := E) rfl rfl rfl rfl
  exact (dss_cons (dx_own (asg_of (i := 1) (de_lst da_nil) sc__law_pool.nd (by rfl) (Or.inl (by rfl))))
    (dss_cons (ds_for hp (by rfl) (di_seq (de_name 0)) (dx_name sc__law_pool.nd (by rfl) (Or.inl (by rfl))) (dss_cons (dx_set (asg_of (i := 5) (de_callTy ok_int (by rfl) G.n_int bt_int (da_cons (de_name 2) da_nil)) sc__law_pool.nd (by rfl) (Or.inl (by rfl))))
    (dss_one (ds_if (dt_cmp ok_ge (de_name 5) (de_bin ok_pow de_int de_int)) (dss_one (ds_for hp (by rfl) (di_r1 (by rfl) G.n_range (da_cons de_int da_nil)) (dx_name sc__law_pool.nd (by rfl) (Or.inl (by rfl))) (dss_cons (ds_expr (de_meth PySem.F.plainAttrs_list PySem.F.slot_list_append PySem.F.type_list_append ok_append (de_name 1) (da_cons (de_bin ok_mod (de_callTy ok_int (by rfl) G.n_int bt_int (da_cons (de_name 5) da_nil)) de_int) da_nil)))
    (dss_cons (dx_set (asg_of (i := 5) (de_callTy ok_int (by rfl) G.n_int bt_int (da_cons (de_bin ok_fdiv (de_name 5) de_int) da_nil)) sc__law_pool.nd (by rfl) (Or.inl (by rfl))))
    (dss_one (ds_if (dt_cmp (ok_eq hu) (de_name 5) de_int) (dss_one ds_break) dss_nil)))))) (dss_one (dx_own (asg_of (i := 1) (de_bin ok_add (de_name 1) (de_lst (da_cons (de_bin ok_mod (de_callTy ok_int (by rfl) G.n_int bt_int (da_cons (de_name 5) da_nil)) de_int) (da_cons (de_bin ok_mod (de_callTy ok_int (by rfl) G.n_int bt_int (da_cons (de_bin ok_fdiv (de_name 5) de_int) da_nil)) de_int) da_nil)))) sc__law_pool.nd (by rfl) (Or.inl (by rfl)))))))))
    (dss_cons (dx_set (asg_of (i := 3) de_int sc__law_pool.nd (by rfl) (Or.inl (by rfl))))
    (dss_cons (ds_for hp (by rfl) (di_seq (de_name 0)) (dx_name sc__law_pool.nd (by rfl) (Or.inl (by rfl))) (dss_one (dx_set (asg_of (i := 3) (de_bin ok_mod (de_bin ok_add (de_bin ok_mul (de_name 3) de_int) (de_callTy ok_int (by rfl) G.n_int bt_int (da_cons (de_name 2) da_nil))) de_int) sc__law_pool.nd (by rfl) (Or.inl (by rfl))))))
    (dss_cons (ds_for hp (by rfl) (di_r1 (by rfl) G.n_range (da_cons de_int da_nil)) (dx_name sc__law_pool.nd (by rfl) (Or.inl (by rfl))) (dss_cons (dx_set (asg_of (i := 3) (de_bin ok_mod (de_bin ok_add (de_bin ok_mul (de_name 3) de_int) de_int) de_int) sc__law_pool.nd (by rfl) (Or.inl (by rfl))))
    (dss_one (ds_expr (de_meth PySem.F.plainAttrs_list PySem.F.slot_list_append PySem.F.type_list_append ok_append (de_name 1) (da_cons (de_bin ok_mod (de_callTy ok_int (by rfl) G.n_int bt_int (da_cons (de_bin ok_fdiv (de_name 3) de_int) da_nil)) de_int) da_nil))))))
    (dss_one (ds_ret (de_name 1))))))))
theorem sc__law_stream : FnScope ["script"] ["script"] (defScope s__law_stream) := ⟨rfl, rfl, rfl, by decide +kernel, rfl, by decide +kernel, by decide +kernel⟩
theorem ok__law_stream (D : DefAt K mg "_law_stream" ["script"] s__law_stream) (G : Glb mg) (F__law_pool : FnAt P w K mg base 1 "_law_pool" ["script"] 1 f__law_pool) : FnAt P w K mg base 2 "_law_stream" ["script"] 1 f__law_stream := by
  refine fn_at (fixed := [0]) D sc__law_stream (by decide) (by decide) fun f cdv A outer s H n E hr => ?_
  have hu := hr.units
  have hu5 := units65 hr
  have hp := passes_of (X := cxOf (L2.CX P w) P w K mg base ["script"] "_law_stream" (defScope s__law_stream) f cdv A outer s H E) rfl
  have tk := takes_of (X := cxOf (L2.CX P w) P w K mg base ["script"] "_law_stream" (defScope s__law_stream) f cdv A outer s H E) (E := E) rfl rfl rfl rfl
  exact (dss_one (ds_ret (de_bin ok_add (de_lst (da_cons de_int da_nil)) (de_fn F__law_pool hr (by decide) (by rfl) (by rfl) tk (da_cons (de_name 0) da_nil)))))
theorem sc__law_pick : FnScope ["pool", "many", "place"] ["pool", "many"] (defScope s__law_pick) := ⟨rfl, rfl, rfl, by decide +kernel, rfl, by decide +kernel, by decide +kernel⟩
theorem ok__law_pick (D : DefAt K mg "_law_pick" ["pool", "many"] s__law_pick) (G : Glb mg)  : FnAt P w K mg base 1 "_law_pick" ["pool", "many"] 2 f__law_pick := by
  refine fn_at (fixed := [0, 1]) D sc__law_pick (by decide) (by decide) fun f cdv A outer s H n E hr => ?_
  have hu := hr.units
  have hu5 := units65 hr
  have hp := passes_of (X := cxOf (L2.CX P w) P w K mg base ["pool", "many", "place"] "_law_pick" (defScope s__law_pick) f cdv A outer s H E) rfl
  have tk := takes_of (X := cxOf (L2.CX P w) P w K mg base ["pool", "many", "place"] "_law_pick" (defScope s__law_pick) f cdv A outer s H E) (E := E) rfl rfl rfl rfl
  exact (dss_cons (dx_set (asg_of (i := 2) (de_ix (de_name 0) de_int) sc__law_pick.nd (by rfl) (Or.inl (by rfl))))
    (dss_cons (ds_asg (de_bin ok_add (de_name 2) de_int) (dg_sub (de_name 0) de_int))
    (dss_cons (ds_if (dt_cmp (ok_eq hu) (de_ix (de_name 0) de_int) (de_callB ok_len (by rfl) G.n_len bt_len (da_cons (de_name 0) da_nil))) (dss_one (ds_asg de_int (dg_sub (de_name 0) de_int))) dss_nil)
    (dss_one (ds_ret (de_bin ok_mod (de_callTy ok_int (by rfl) G.n_int bt_int (da_cons (de_ix (de_name 0) (de_name 2)) da_nil)) (de_name 1)))))))
theorem sc__law_strands : FnScope ["pool"] ["pool"] (defScope s__law_strands) := ⟨rfl, rfl, rfl, by decide +kernel, rfl, by decide +kernel, by decide +kernel⟩
theorem ok__law_strands (D : DefAt K mg "_law_strands" ["pool"] s__law_strands) (G : Glb mg) (F__law_pick : FnAt P w K mg base 1 "_law_pick" ["pool", "many"] 2 f__law_pick) : FnAt P w K mg base 2 "_law_strands" ["pool"] 1 f__law_strands := by
  refine fn_at (fixed := [0]) D sc__law_strands (by decide) (by decide) fun f cdv A outer s H n E hr => ?_
  have hu := hr.units
  have hu5 := units65 hr
  have hp := passes_of (X := cxOf (L2.CX P w) P w K mg base ["pool"] "_law_strands" (defScope s__law_strands) f cdv A outer s H E) rfl
  have tk := takes_of (X := cxOf (L2.CX P w) P w K mg base ["pool"] "_law_strands" (defScope s__law_strands) f cdv A outer s H E) (E := E) rfl rfl rfl rfl
  exact (dss_one (ds_ret (de_ix (de_lst (da_cons de_int (da_cons de_int (da_cons de_int (da_cons de_int (da_cons de_int (da_cons de_int (da_cons de_int (da_cons de_int (da_cons de_int (da_cons de_int (da_cons de_int (da_cons de_int da_nil))))))))))))) (de_fn F__law_pick hr (by decide) (by rfl) (by rfl) tk (da_cons (de_name 0) (da_cons de_int da_nil))))))
theorem sc__law_shuffled : FnScope ["pool", "n", "found", "p"] ["pool", "n"] (defScope s__law_shuffled) := ⟨rfl, rfl, rfl, by decide +kernel, rfl, by decide +kernel, by decide +kernel⟩
theorem ok__law_shuffled (D : DefAt K mg "_law_shuffled" ["pool", "n"] s__law_shuffled) (G : Glb mg) (F__law_pick : FnAt P w K mg base 1 "_law_pick" ["pool", "many"] 2 f__law_pick) : FnAt P w K mg base 2 "_law_shuffled" ["pool", "n"] 2 f__law_shuffled := by
  refine fn_at (fixed := [0, 1]) D sc__law_shuffled (by decide) (by decide) fun f cdv A outer s H n E hr => ?_
  have hu := hr.units
  have hu5 := units65 hr
  have hp := passes_of (X := cxOf (L2.CX P w) P w K mg base ["pool", "n", "found", "p"] "_law_shuffled" (defScope s__law_shuffled) f cdv A outer s H E) rfl
  have tk := takes_of (X := cxOf (L2.CX P w) P w K mg base ["pool", "n", "found", "p"] "_law_shuffled" (defScope s__law_shuffled) f cdv A outer s H E) (E := E) rfl rfl rfl rfl
  exact (dss_cons (dx_own (asg_of (i := 2) (de_lst da_nil) sc__law_shuffled.nd (by rfl) (Or.inl (by rfl))))
    (dss_cons (ds_for hp (by rfl) (di_r1 (by rfl) G.n_range (da_cons (de_name 1) da_nil)) (dx_name sc__law_shuffled.nd (by rfl) (Or.inl (by rfl))) (dss_one (ds_expr (de_meth PySem.F.plainAttrs_list PySem.F.slot_list_insert PySem.F.type_list_insert ok_insert (de_name 2) (da_cons (de_fn F__law_pick hr (by decide) (by rfl) (by rfl) tk (da_cons (de_name 0) (da_cons (de_bin ok_add (de_name 3) de_int) da_nil))) (da_cons (de_name 3) da_nil))))))
    (dss_one (ds_ret (de_name 2)))))
theorem sc__law_simple : FnScope ["pool", "n", "shape", "s", "turn", "i"] ["pool", "n"] (defScope s__law_simple) := ⟨rfl, rfl, rfl, by decide +kernel, rfl, by decide +kernel, by decide +kernel⟩
theorem ok__law_simple (D : DefAt K mg "_law_simple" ["pool", "n"] s__law_simple) (G : Glb mg) (F__law_pick : FnAt P w K mg base 1 "_law_pick" ["pool", "many"] 2 f__law_pick) (F__law_shuffled : FnAt P w K mg base 2 "_law_shuffled" ["pool", "n"] 2 f__law_shuffled) : FnAt P w K mg base 3 "_law_simple" ["pool", "n"] 2 f__law_simple := by
  refine fn_at (fixed := [0, 1]) D sc__law_simple (by decide) (by decide) fun f cdv A outer s H n E hr => ?_
  have hu := hr.units
  have hu5 := units65 hr
  have hp := passes_of (X := cxOf (L2.CX P w) P w K mg base ["pool", "n", "shape", "s", "turn", "i"] "_law_simple" (defScope s__law_simple) f cdv A outer s H E) rfl
  have tk := takes_of (X := cxOf (L2.CX P w) P w K mg base ["pool", "n", "shape", "s", "turn", "i"] "_law_simple" (defScope s__law_simple) f cdv A outer s H E) (E := E) rfl rfl rfl rfl
  exact (dss_cons (dx_parO (i := 2) (j := 3) (by rfl) sc__law_simple.nd (by rfl) (by rfl) (by decide) (by rfl) (by rfl) (de_fn F__law_pick hr (by decide) (by rfl) (by rfl) tk (da_cons (de_name 0) (da_cons de_int da_nil))) (fun _ => (de_lr1 (by rfl) (by rfl) G.n_list (by rfl) G.n_range (de_name 1))) (by rfl))
    (dss_cons (ds_if (dt_cmp ok_lt (de_name 2) de_int) (dss_one (ds_ret (de_fn F__law_shuffled hr (by decide) (by rfl) (by rfl) tk (da_cons (de_name 0) (da_cons (de_name 1) da_nil))))) dss_nil)
    (dss_cons (ds_if (dt_cmp (ok_eq hu) (de_name 2) de_int) (dss_one (dx_own (asg_of (i := 3) (de_rev (de_name 3)) sc__law_simple.nd (by rfl) (Or.inl (by rfl))))) dss_nil)
    (dss_cons (ds_for hp (by rfl) (di_r1 (by rfl) G.n_range (da_cons (de_bin ok_mul (de_fn F__law_pick hr (by decide) (by rfl) (by rfl) tk (da_cons (de_name 0) (da_cons de_int da_nil))) (de_callTy ok_int (by rfl) G.n_int bt_int (da_cons (de_cmp ok_gt (de_name 1) de_int) da_nil))) da_nil)) (dx_name sc__law_simple.nd (by rfl) (Or.inl (by rfl))) (dss_cons (dx_set (asg_of (i := 5) (de_bin ok_add de_int (de_bin ok_mod (de_callTy ok_int (by rfl) G.n_int bt_int (da_cons (de_fn F__law_pick hr (by decide) (by rfl) (by rfl) tk (da_cons (de_name 0) (da_cons de_int da_nil))) da_nil)) (de_bin ok_sub (de_name 1) de_int))) sc__law_simple.nd (by rfl) (Or.inl (by rfl))))
    (dss_one (ds_asg (de_tup (da_cons (de_ix (de_name 3) (de_name 5)) (da_cons (de_ix (de_name 3) (de_bin ok_sub (de_name 5) de_int)) da_nil))) (dg_tup (by rfl) (dgs_cons (dg_sub (de_name 3) (de_bin ok_sub (de_name 5) de_int)) (dgs_cons (dg_sub (de_name 3) (de_name 5)) dgs_nil)))))))
    (dss_one (ds_ret (de_name 3)))))))
theorem sc__law_simple_word : FnScope ["s", "found", "turn", "held", "i", "p"] ["s"] (defScope s__law_simple_word) := ⟨rfl, rfl, rfl, by decide +kernel, rfl, by decide +kernel, by decide +kernel⟩
theorem ok__law_simple_word (D : DefAt K mg "_law_simple_word" ["s"] s__law_simple_word) (G : Glb mg)  : FnAt P w K mg base 1 "_law_simple_word" ["s"] 1 f__law_simple_word := by
  refine fn_at (fixed := []) D sc__law_simple_word (by decide) (by decide) fun f cdv A outer s H n E hr => ?_
  have hu := hr.units
  have hu5 := units65 hr
  have hp := passes_of (X := cxOf (L2.CX P w) P w K mg base ["s", "found", "turn", "held", "i", "p"] "_law_simple_word" (defScope s__law_simple_word) f cdv A outer s H E) rfl
  have tk := takes_of (X := cxOf (L2.CX P w) P w K mg base ["s", "found", "turn", "held", "i", "p"] "_law_simple_word" (defScope s__law_simple_word) f cdv A outer s H E) (E := E) rfl rfl rfl rfl
  exact (dss_cons (dx_parC (i := 0) (j := 1) (by rfl) sc__law_simple_word.nd (by rfl) (by rfl) (by decide) (Or.inr (by rfl)) (by first | exact .inl rfl | exact .inr rfl) (Or.inl (by rfl)) (by first | exact .inl rfl | exact .inr rfl) (dx_compN (own := [("p", 5)]) (by rfl) sc__law_simple_word.nd (de_name 0) (blkOk_by (by kernel_rfl)) (fun _ _ _ _ _ _ => (dx_name sc__law_simple_word.nd (by rfl) (Or.inl (by rfl)))) (fun _ _ _ _ _ _ => dts_nil) (fun _ _ _ _ _ _ => (de_name 5))) (fun _ => (de_lst da_nil)))
    (dss_cons (ds_for hp (by rfl) (di_r1 (by rfl) G.n_range (da_cons (de_bin ok_mul (de_callB ok_len (by rfl) G.n_len bt_len (da_cons (de_name 0) da_nil)) (de_callB ok_len (by rfl) G.n_len bt_len (da_cons (de_name 0) da_nil))) da_nil)) (dx_name sc__law_simple_word.nd (by rfl) (Or.inl (by rfl))) (dss_cons (dx_set (ax_comp (i := 3) (own := [("i", 4)]) (by rfl) sc__law_simple_word.nd (by rfl) (by rfl) (sw_true (by rfl) (by rfl) (by rfl) (by decide +kernel)) (di_r2 (by rfl) G.n_range (da_cons de_int (da_cons (de_callB ok_len (by rfl) G.n_len bt_len (da_cons (de_name 0) da_nil)) da_nil))) (blkOk_by (by kernel_rfl)) (fun _ _ _ _ _ _ => (dx_name sc__law_simple_word.nd (by rfl) (Or.inl (by rfl)))) (fun _ _ _ _ _ _ => (dts_one (dt_cmp ok_gt (de_ix (de_name 0) (de_bin ok_sub (de_name 4) de_int)) (de_ix (de_name 0) (de_name 4))))) (fun _ _ _ _ _ _ => (de_name 4))))
    (dss_cons (ds_if (dt_cmp (ok_eq hu) (de_name 3) (de_lst da_nil)) (dss_one (ds_ret (de_name 1))) dss_nil)
    (dss_cons (dx_set (asg_of (i := 4) (de_ix (de_name 3) de_int) sc__law_simple_word.nd (by rfl) (Or.inl (by rfl))))
    (dss_cons (ds_asg (de_tup (da_cons (de_ix (de_name 0) (de_name 4)) (da_cons (de_ix (de_name 0) (de_bin ok_sub (de_name 4) de_int)) da_nil))) (dg_tup (by rfl) (dgs_cons (dg_sub (de_name 0) (de_bin ok_sub (de_name 4) de_int)) (dgs_cons (dg_sub (de_name 0) (de_name 4)) dgs_nil))))
    (dss_one (ds_expr (de_meth PySem.F.plainAttrs_list PySem.F.slot_list_append PySem.F.type_list_append ok_append (de_name 1) (da_cons (de_name 4) da_nil)))))))))
    (dss_one (ds_ret (de_name 1)))))
theorem sc__law_turning : FnScope ["n", "word", "standing", "found", "letter", "place"] ["n", "word"] (defScope s__law_turning) := ⟨rfl, rfl, rfl, by decide +kernel, rfl, by decide +kernel, by decide +kernel⟩
theorem ok__law_turning (D : DefAt K mg "_law_turning" ["n", "word"] s__law_turning) (G : Glb mg)  : FnAt P w K mg base 1 "_law_turning" ["n", "word"] 2 f__law_turning := by
  refine fn_at (fixed := [0, 1]) D sc__law_turning (by decide) (by decide) fun f cdv A outer s H n E hr => ?_
  have hu := hr.units
  have hu5 := units65 hr
  have hp := passes_of (X := cxOf (L2.CX P w) P w K mg base ["n", "word", "standing", "found", "letter", "place"] "_law_turning" (defScope s__law_turning) f cdv A outer s H E) rfl
  have tk := takes_of (X := cxOf (L2.CX P w) P w K mg base ["n", "word", "standing", "found", "letter", "place"] "_law_turning" (defScope s__law_turning) f cdv A outer s H E) (E := E) rfl rfl rfl rfl
  exact (dss_cons (dx_parO (i := 2) (j := 3) (by rfl) sc__law_turning.nd (by rfl) (by rfl) (by decide) (by rfl) (by rfl) (de_lr1 (by rfl) (by rfl) G.n_list (by rfl) G.n_range (de_name 0)) (fun _ => (de_bin ok_mul (de_lst (da_cons de_int da_nil)) (de_name 0))) (by rfl))
    (dss_cons (ds_for hp (by rfl) (di_seq (de_name 1)) (dx_name sc__law_turning.nd (by rfl) (Or.inl (by rfl))) (dss_cons (dx_set (asg_of (i := 5) (de_callB ok_abs (by rfl) G.n_abs bt_abs (da_cons (de_name 4) da_nil)) sc__law_turning.nd (by rfl) (Or.inl (by rfl))))
    (dss_one (ds_asg (de_tup (da_cons (de_ix (de_name 2) (de_name 5)) (da_cons (de_ix (de_name 2) (de_bin ok_sub (de_name 5) de_int)) da_nil))) (dg_tup (by rfl) (dgs_cons (dg_sub (de_name 2) (de_bin ok_sub (de_name 5) de_int)) (dgs_cons (dg_sub (de_name 2) (de_name 5)) dgs_nil)))))))
    (dss_cons (ds_for hp (by rfl) (di_r1 (by rfl) G.n_range (da_cons (de_name 0) da_nil)) (dx_name sc__law_turning.nd (by rfl) (Or.inl (by rfl))) (dss_one (ds_asg (de_name 5) (dg_sub (de_name 3) (de_ix (de_name 2) (de_name 5))))))
    (dss_one (ds_ret (de_name 3))))))
theorem sc__law_composed : FnScope ["s", "t", "p"] ["s", "t"] (defScope s__law_composed) := ⟨rfl, rfl, rfl, by decide +kernel, rfl, by decide +kernel, by decide +kernel⟩
theorem ok__law_composed (D : DefAt K mg "_law_composed" ["s", "t"] s__law_composed) (G : Glb mg)  : FnAt P w K mg base 1 "_law_composed" ["s", "t"] 2 f__law_composed := by
  refine fn_at (fixed := [0, 1]) D sc__law_composed (by decide) (by decide) fun f cdv A outer s H n E hr => ?_
  have hu := hr.units
  have hu5 := units65 hr
  have hp := passes_of (X := cxOf (L2.CX P w) P w K mg base ["s", "t", "p"] "_law_composed" (defScope s__law_composed) f cdv A outer s H E) rfl
  have tk := takes_of (X := cxOf (L2.CX P w) P w K mg base ["s", "t", "p"] "_law_composed" (defScope s__law_composed) f cdv A outer s H E) (E := E) rfl rfl rfl rfl
  exact (dss_one (ds_ret (dx_comp (own := [("p", 2)]) (by rfl) sc__law_composed.nd (di_seq (de_name 0)) (blkOk_by (by kernel_rfl)) (fun _ _ _ _ _ _ => (dx_name sc__law_composed.nd (by rfl) (Or.inl (by rfl)))) (fun _ _ _ _ _ _ => dts_nil) (fun _ _ _ _ _ _ => (de_ix (de_name 1) (de_name 2))))))
theorem sc__law_letter : FnScope ["n", "i", "s"] ["n", "i"] (defScope s__law_letter) := ⟨rfl, rfl, rfl, by decide +kernel, rfl, by decide +kernel, by decide +kernel⟩
theorem ok__law_letter (D : DefAt K mg "_law_letter" ["n", "i"] s__law_letter) (G : Glb mg)  : FnAt P w K mg base 1 "_law_letter" ["n", "i"] 2 f__law_letter := by
  refine fn_at (fixed := [0, 1]) D sc__law_letter (by decide) (by decide) fun f cdv A outer s H n E hr => ?_
  have hu := hr.units
  have hu5 := units65 hr
  have hp := passes_of (X := cxOf (L2.CX P w) P w K mg base ["n", "i", "s"] "_law_letter" (defScope s__law_letter) f cdv A outer s H E) rfl
  have tk := takes_of (X := cxOf (L2.CX P w) P w K mg base ["n", "i", "s"] "_law_letter" (defScope s__law_letter) f cdv A outer s H E) (E := E) rfl rfl rfl rfl
  exact (dss_cons (dx_own (asg_of (i := 2) (de_lr1 (by rfl) (by rfl) G.n_list (by rfl) G.n_range (de_name 0)) sc__law_letter.nd (by rfl) (Or.inl (by rfl))))
    (dss_cons (ds_asg (de_tup (da_cons (de_name 1) (da_cons (de_bin ok_sub (de_name 1) de_int) da_nil))) (dg_tup (by rfl) (dgs_cons (dg_sub (de_name 2) (de_bin ok_sub (de_name 1) de_int)) (dgs_cons (dg_sub (de_name 2) (de_name 1)) dgs_nil))))
    (dss_one (ds_ret (de_name 2)))))
theorem sc__law_backward : FnScope ["s", "found", "p"] ["s"] (defScope s__law_backward) := ⟨rfl, rfl, rfl, by decide +kernel, rfl, by decide +kernel, by decide +kernel⟩
theorem ok__law_backward (D : DefAt K mg "_law_backward" ["s"] s__law_backward) (G : Glb mg)  : FnAt P w K mg base 1 "_law_backward" ["s"] 1 f__law_backward := by
  refine fn_at (fixed := [0]) D sc__law_backward (by decide) (by decide) fun f cdv A outer s H n E hr => ?_
  have hu := hr.units
  have hu5 := units65 hr
  have hp := passes_of (X := cxOf (L2.CX P w) P w K mg base ["s", "found", "p"] "_law_backward" (defScope s__law_backward) f cdv A outer s H E) rfl
  have tk := takes_of (X := cxOf (L2.CX P w) P w K mg base ["s", "found", "p"] "_law_backward" (defScope s__law_backward) f cdv A outer s H E) (E := E) rfl rfl rfl rfl
  exact (dss_cons (dx_own (asg_of (i := 1) (de_bin ok_mul (de_lst (da_cons de_int da_nil)) (de_callB ok_len (by rfl) G.n_len bt_len (da_cons (de_name 0) da_nil))) sc__law_backward.nd (by rfl) (Or.inl (by rfl))))
    (dss_cons (ds_for hp (by rfl) (di_r1 (by rfl) G.n_range (da_cons (de_callB ok_len (by rfl) G.n_len bt_len (da_cons (de_name 0) da_nil)) da_nil)) (dx_name sc__law_backward.nd (by rfl) (Or.inl (by rfl))) (dss_one (ds_asg (de_name 2) (dg_sub (de_name 1) (de_ix (de_name 0) (de_name 2))))))
    (dss_one (ds_ret (de_name 1)))))
theorem sc__law_partner : FnScope ["pool", "s", "n", "shape", "word", "t", "i", "p"] ["pool", "s"] (defScope s__law_partner) := ⟨rfl, rfl, rfl, by decide +kernel, rfl, by decide +kernel, by decide +kernel⟩
theorem ok__law_partner (D : DefAt K mg "_law_partner" ["pool", "s"] s__law_partner) (G : Glb mg) (F__law_backward : FnAt P w K mg base 1 "_law_backward" ["s"] 1 f__law_backward) (F__law_composed : FnAt P w K mg base 1 "_law_composed" ["s", "t"] 2 f__law_composed) (F__law_letter : FnAt P w K mg base 1 "_law_letter" ["n", "i"] 2 f__law_letter) (F__law_pick : FnAt P w K mg base 1 "_law_pick" ["pool", "many"] 2 f__law_pick) (F__law_simple : FnAt P w K mg base 3 "_law_simple" ["pool", "n"] 2 f__law_simple) (F__law_simple_word : FnAt P w K mg base 1 "_law_simple_word" ["s"] 1 f__law_simple_word) (F__law_turning : FnAt P w K mg base 1 "_law_turning" ["n", "word"] 2 f__law_turning) : FnAt P w K mg base 4 "_law_partner" ["pool", "s"] 2 f__law_partner := by
  refine fn_at (fixed := [0, 1]) D sc__law_partner (by decide) (by decide) fun f cdv A outer s H n E hr => ?_
  have hu := hr.units
  have hu5 := units65 hr
  have hp := passes_of (X := cxOf (L2.CX P w) P w K mg base ["pool", "s", "n", "shape", "word", "t", "i", "p"] "_law_partner" (defScope s__law_partner) f cdv A outer s H E) rfl
  have tk := takes_of (X := cxOf (L2.CX P w) P w K mg base ["pool", "s", "n", "shape", "word", "t", "i", "p"] "_law_partner" (defScope s__law_partner) f cdv A outer s H E) (E := E) rfl rfl rfl rfl
  exact (dss_cons (ds_asg (de_tup (da_cons (de_callB ok_len (by rfl) G.n_len bt_len (da_cons (de_name 1) da_nil)) (da_cons (de_fn F__law_pick hr (by decide) (by rfl) (by rfl) tk (da_cons (de_name 0) (da_cons de_int da_nil))) da_nil))) (dg_tup (by rfl) (dgs_cons (dx_name sc__law_partner.nd (by rfl) (Or.inr (by rfl))) (dgs_cons (dx_name sc__law_partner.nd (by rfl) (Or.inl (by rfl))) dgs_nil))))
    (dss_cons (ds_if (dt_w (dw_or (dt_cmp (ok_eq hu) (de_name 3) de_int) (dw_or1 (dt_cmp (ok_eq hu) (de_name 2) de_int)))) (dss_one (ds_ret (de_fn F__law_simple hr (by decide) (by rfl) (by rfl) tk (da_cons (de_name 0) (da_cons (de_name 2) da_nil))))) dss_nil)
    (dss_cons (dx_set (asg_of (i := 4) (de_fn F__law_simple_word hr (by decide) (by rfl) (by rfl) tk (da_cons (dx_comp (own := [("p", 7)]) (by rfl) sc__law_partner.nd (di_seq (de_fn F__law_backward hr (by decide) (by rfl) (by rfl) tk (da_cons (de_name 1) da_nil))) (blkOk_by (by kernel_rfl)) (fun _ _ _ _ _ _ => (dx_name sc__law_partner.nd (by rfl) (Or.inl (by rfl)))) (fun _ _ _ _ _ _ => dts_nil) (fun _ _ _ _ _ _ => (de_bin ok_sub (de_bin ok_sub (de_name 2) de_int) (de_name 7)))) da_nil)) sc__law_partner.nd (by rfl) (Or.inl (by rfl))))
    (dss_cons (dx_set (asg_of (i := 4) (de_sl (de_name 4) do_none (do_some (de_fn F__law_pick hr (by decide) (by rfl) (by rfl) tk (da_cons (de_name 0) (da_cons (de_bin ok_add (de_callB ok_len (by rfl) G.n_len bt_len (da_cons (de_name 4) da_nil)) de_int) da_nil))))) sc__law_partner.nd (by rfl) (Or.inl (by rfl))))
    (dss_cons (dx_set (asg_of (i := 5) (de_fn F__law_turning hr (by decide) (by rfl) (by rfl) tk (da_cons (de_name 2) (da_cons (de_name 4) da_nil))) sc__law_partner.nd (by rfl) (Or.inl (by rfl))))
    (dss_cons (ds_if (dt_cmp (ok_eq hu) (de_name 3) de_int) (dss_cons (dx_set (asg_of (i := 6) (de_bin ok_add de_int (de_bin ok_mod (de_callTy ok_int (by rfl) G.n_int bt_int (da_cons (de_fn F__law_pick hr (by decide) (by rfl) (by rfl) tk (da_cons (de_name 0) (da_cons de_int da_nil))) da_nil)) (de_bin ok_sub (de_name 2) de_int))) sc__law_partner.nd (by rfl) (Or.inl (by rfl))))
    (dss_one (dx_set (asg_of (i := 5) (de_fn F__law_composed hr (by decide) (by rfl) (by rfl) tk (da_cons (de_name 5) (da_cons (de_fn F__law_letter hr (by decide) (by rfl) (by rfl) tk (da_cons (de_name 2) (da_cons (de_name 6) da_nil))) da_nil))) sc__law_partner.nd (by rfl) (Or.inl (by rfl)))))) dss_nil)
    (dss_one (ds_ret (de_name 5)))))))))
theorem sc__law_same : FnScope ["value", "due", "k"] ["value", "due"] (defScope s__law_same) := ⟨rfl, rfl, rfl, by decide +kernel, rfl, by decide +kernel, by decide +kernel⟩
theorem okr__law_same (D : DefAt K mg "_law_same" ["value", "due"] s__law_same) (G : Glb mg)  : ∀ n, FnAt P w K mg base (0 + n) "_law_same" ["value", "due"] 2 (fr__law_same n)
  | 0 => fnat_zero D
  | nn + 1 => by
    have F_self := okr__law_same D G  nn
    refine fn_at (k := 0 + nn) (fixed := [0, 1]) D sc__law_same (by decide) (by decide) fun f cdv A outer s H n E hr => ?_
    have hu := hr.units
    have hu5 := units65 hr
    have hp := passes_of (X := cxOf (L2.CX P w) P w K mg base ["value", "due", "k"] "_law_same" (defScope s__law_same) f cdv A outer s H E) rfl
    have tk := takes_of (X := cxOf (L2.CX P w) P w K mg base ["value", "due", "k"] "_law_same" (defScope s__law_same) f cdv A outer s H E) (E := E) rfl rfl rfl rfl
    exact (dss_cons (ds_if (dt_cmp ok_is (de_name 1) de_non) (dss_one (ds_ret (de_cmp ok_is (de_name 0) de_non))) dss_nil)
    (dss_cons (ds_if (dt_val (de_isi (by rfl) G.n_isinstance bt_isinstance (de_name 1) (by rfl) G.n_bool bt_bool)) (dss_one (ds_ret (de_and (de_isi (by rfl) G.n_isinstance bt_isinstance (de_name 0) (by rfl) G.n_bool bt_bool) (de_one (de_cmp (ok_eq hu) (de_name 0) (de_name 1)))))) dss_nil)
    (dss_cons (ds_if (dt_val (de_isi (by rfl) G.n_isinstance bt_isinstance (de_name 1) (by rfl) G.n_int bt_int)) (dss_one (ds_ret (de_and (de_isi (by rfl) G.n_isinstance bt_isinstance (de_name 0) (by rfl) G.n_int bt_int) (de_and (de_not (de_isi (by rfl) G.n_isinstance bt_isinstance (de_name 0) (by rfl) G.n_bool bt_bool)) (de_one (de_cmp (ok_eq hu) (de_name 0) (de_name 1))))))) dss_nil)
    (dss_cons (ds_if (dt_val (de_isi (by rfl) G.n_isinstance bt_isinstance (de_name 1) (by rfl) G.n_str bt_str)) (dss_one (ds_ret (de_and (de_isi (by rfl) G.n_isinstance bt_isinstance (de_name 0) (by rfl) G.n_str bt_str) (de_one (de_cmp (ok_eq hu) (de_name 0) (de_name 1)))))) dss_nil)
    (dss_cons (ds_if (dt_w (dw_or (dt_w (dw_and (dt_val (de_isi (by rfl) G.n_isinstance bt_isinstance (de_name 1) (by rfl) G.n_list bt_list)) (dw_and1 (dt_not (dt_val (de_isi (by rfl) G.n_isinstance bt_isinstance (de_name 0) (by rfl) G.n_list bt_list)))))) (dw_or1 (dt_w (dw_and (dt_val (de_isi (by rfl) G.n_isinstance bt_isinstance (de_name 1) (by rfl) G.n_tuple bt_tuple)) (dw_and1 (dt_not (dt_val (de_isi (by rfl) G.n_isinstance bt_isinstance (de_name 0) (by rfl) G.n_tuple bt_tuple))))))))) (dss_one (ds_ret de_bl)) dss_nil)
    (dss_one (ds_ret (de_and (de_cmp (ok_eq hu) (de_callB ok_len (by rfl) G.n_len bt_len (da_cons (de_name 0) da_nil)) (de_callB ok_len (by rfl) G.n_len bt_len (da_cons (de_name 1) da_nil))) (de_one (de_callB (ok_all (by rfl)) (by rfl) G.n_all bt_all (da_cons (dx_comp (own := [("k", 2)]) (by rfl) sc__law_same.nd (di_r1 (by rfl) G.n_range (da_cons (de_callB ok_len (by rfl) G.n_len bt_len (da_cons (de_name 1) da_nil)) da_nil)) (blkOk_by (by kernel_rfl)) (fun _ _ _ _ _ _ => (dx_name sc__law_same.nd (by rfl) (Or.inl (by rfl)))) (fun _ _ _ _ _ _ => dts_nil) (fun _ _ _ _ _ _ => (de_fn F_self hr (by omega) (by rfl) (by rfl) takes0 (da_cons (de_ix (de_name 0) (de_name 2)) (da_cons (de_ix (de_name 1) (de_name 2)) da_nil))))) da_nil)))))))))))
theorem ok__law_same (D : DefAt K mg "_law_same" ["value", "due"] s__law_same) (G : Glb mg)  : FnAt P w K mg base 6 "_law_same" ["value", "due"] 2 f__law_same := okr__law_same D G  6
theorem sc_is_number : FnScope ["value"] ["value"] (defScope s_is_number) := ⟨rfl, rfl, rfl, by decide +kernel, rfl, by decide +kernel, by decide +kernel⟩
theorem ok_is_number (D : DefAt K mg "is_number" ["value"] s_is_number) (G : Glb mg)  : FnAt P w K mg base 1 "is_number" ["value"] 1 f_is_number := by
  refine fn_at (fixed := [0]) D sc_is_number (by decide) (by decide) fun f cdv A outer s H n E hr => ?_
  have hu := hr.units
  have hu5 := units65 hr
  have hp := passes_of (X := cxOf (L2.CX P w) P w K mg base ["value"] "is_number" (defScope s_is_number) f cdv A outer s H E) rfl
  have tk := takes_of (X := cxOf (L2.CX P w) P w K mg base ["value"] "is_number" (defScope s_is_number) f cdv A outer s H E) (E := E) rfl rfl rfl rfl
  exact (dss_one (ds_ret (de_and (de_isi (by rfl) G.n_isinstance bt_isinstance (de_name 0) (by rfl) G.n_int bt_int) (de_one (de_not (de_isi (by rfl) G.n_isinstance bt_isinstance (de_name 0) (by rfl) G.n_bool bt_bool))))))
theorem sc_check_strands : FnScope ["n"] ["n"] (defScope s_check_strands) := ⟨rfl, rfl, rfl, by decide +kernel, rfl, by decide +kernel, by decide +kernel⟩
theorem ok_check_strands (D : DefAt K mg "check_strands" ["n"] s_check_strands) (G : Glb mg) (F_is_number : FnAt P w K mg base 1 "is_number" ["value"] 1 f_is_number) : FnAt P w K mg base 2 "check_strands" ["n"] 1 f_check_strands := by
  refine fn_at (fixed := [0]) D sc_check_strands (by decide) (by decide) fun f cdv A outer s H n E hr => ?_
  have hu := hr.units
  have hu5 := units65 hr
  have hp := passes_of (X := cxOf (L2.CX P w) P w K mg base ["n"] "check_strands" (defScope s_check_strands) f cdv A outer s H E) rfl
  have tk := takes_of (X := cxOf (L2.CX P w) P w K mg base ["n"] "check_strands" (defScope s_check_strands) f cdv A outer s H E) (E := E) rfl rfl rfl rfl
  exact (dss_one (ds_if (dt_w (dw_or (dt_not (dt_val (de_fn F_is_number hr (by decide) (by rfl) (by rfl) tk (da_cons (de_name 0) da_nil)))) (dw_or1 (dt_not (dt_chain ok_le ok_le de_int (de_name 0) (de_glob (by rfl) G.c_MOST_STRANDS)))))) (dss_one ds_no) dss_nil))
theorem sc_is_place : FnScope ["n", "value"] ["n", "value"] (defScope s_is_place) := ⟨rfl, rfl, rfl, by decide +kernel, rfl, by decide +kernel, by decide +kernel⟩
theorem ok_is_place (D : DefAt K mg "is_place" ["n", "value"] s_is_place) (G : Glb mg) (F_is_number : FnAt P w K mg base 1 "is_number" ["value"] 1 f_is_number) : FnAt P w K mg base 2 "is_place" ["n", "value"] 2 f_is_place := by
  refine fn_at (fixed := [0, 1]) D sc_is_place (by decide) (by decide) fun f cdv A outer s H n E hr => ?_
  have hu := hr.units
  have hu5 := units65 hr
  have hp := passes_of (X := cxOf (L2.CX P w) P w K mg base ["n", "value"] "is_place" (defScope s_is_place) f cdv A outer s H E) rfl
  have tk := takes_of (X := cxOf (L2.CX P w) P w K mg base ["n", "value"] "is_place" (defScope s_is_place) f cdv A outer s H E) (E := E) rfl rfl rfl rfl
  exact (dss_one (ds_ret (de_and (de_fn F_is_number hr (by decide) (by rfl) (by rfl) tk (da_cons (de_name 1) da_nil)) (de_one (de_chain ok_le ok_lt de_int (de_name 1) (de_name 0))))))
theorem sc_check_turning : FnScope ["n", "s", "p"] ["n", "s"] (defScope s_check_turning) := ⟨rfl, rfl, rfl, by decide +kernel, rfl, by decide +kernel, by decide +kernel⟩
theorem ok_check_turning (D : DefAt K mg "check_turning" ["n", "s"] s_check_turning) (G : Glb mg) (F_is_place : FnAt P w K mg base 2 "is_place" ["n", "value"] 2 f_is_place) : FnAt P w K mg base 3 "check_turning" ["n", "s"] 2 f_check_turning := by
  refine fn_at (fixed := [0, 1]) D sc_check_turning (by decide) (by decide) fun f cdv A outer s H n E hr => ?_
  have hu := hr.units
  have hu5 := units65 hr
  have hp := passes_of (X := cxOf (L2.CX P w) P w K mg base ["n", "s", "p"] "check_turning" (defScope s_check_turning) f cdv A outer s H E) rfl
  have tk := takes_of (X := cxOf (L2.CX P w) P w K mg base ["n", "s", "p"] "check_turning" (defScope s_check_turning) f cdv A outer s H E) (E := E) rfl rfl rfl rfl
  exact (dss_one (ds_if (dt_w (dw_or (dt_not (dt_val (de_isi (by rfl) G.n_isinstance bt_isinstance (de_name 1) (by rfl) G.n_list bt_list))) (dw_or (dt_cmp (ok_ne hu) (de_callB ok_len (by rfl) G.n_len bt_len (da_cons (de_name 1) da_nil)) (de_name 0)) (dw_or (dt_not (dt_val (de_callB (ok_all (by rfl)) (by rfl) G.n_all bt_all (da_cons (dx_comp (own := [("p", 2)]) (by rfl) sc_check_turning.nd (di_seq (de_name 1)) (blkOk_by (by kernel_rfl)) (fun _ _ _ _ _ _ => (dx_name sc_check_turning.nd (by rfl) (Or.inl (by rfl)))) (fun _ _ _ _ _ _ => dts_nil) (fun _ _ _ _ _ _ => (de_fn F_is_place hr (by decide) (by rfl) (by rfl) takes0 (da_cons (de_name 0) (da_cons (de_name 2) da_nil))))) da_nil)))) (dw_or1 (dt_cmp (ok_ne hu) (de_callB ok_sorted (by rfl) G.n_sorted bt_sorted (da_cons (de_name 1) da_nil)) (de_lr1 (by rfl) (by rfl) G.n_list (by rfl) G.n_range (de_name 0)))))))) (dss_one ds_no) dss_nil))
theorem sc_check_simples : FnScope ["n", "simples", "s"] ["n", "simples"] (defScope s_check_simples) := ⟨rfl, rfl, rfl, by decide +kernel, rfl, by decide +kernel, by decide +kernel⟩
theorem ok_check_simples (D : DefAt K mg "check_simples" ["n", "simples"] s_check_simples) (G : Glb mg) (F_check_strands : FnAt P w K mg base 2 "check_strands" ["n"] 1 f_check_strands) (F_check_turning : FnAt P w K mg base 3 "check_turning" ["n", "s"] 2 f_check_turning) : FnAt P w K mg base 4 "check_simples" ["n", "simples"] 2 f_check_simples := by
  refine fn_at (fixed := [0, 1]) D sc_check_simples (by decide) (by decide) fun f cdv A outer s H n E hr => ?_
  have hu := hr.units
  have hu5 := units65 hr
  have hp := passes_of (X := cxOf (L2.CX P w) P w K mg base ["n", "simples", "s"] "check_simples" (defScope s_check_simples) f cdv A outer s H E) rfl
  have tk := takes_of (X := cxOf (L2.CX P w) P w K mg base ["n", "simples", "s"] "check_simples" (defScope s_check_simples) f cdv A outer s H E) (E := E) rfl rfl rfl rfl
  exact (dss_cons (ds_expr (de_fn F_check_strands hr (by decide) (by rfl) (by rfl) tk (da_cons (de_name 0) da_nil)))
    (dss_one (ds_for hp (by rfl) (di_seq (de_name 1)) (dx_name sc_check_simples.nd (by rfl) (Or.inl (by rfl))) (dss_one (ds_expr (de_fn F_check_turning hr (by decide) (by rfl) (by rfl) tk (da_cons (de_name 0) (da_cons (de_name 2) da_nil))))))))
theorem sc_composed : FnScope ["s", "t", "p"] ["s", "t"] (defScope s_composed) := ⟨rfl, rfl, rfl, by decide +kernel, rfl, by decide +kernel, by decide +kernel⟩
theorem ok_composed (D : DefAt K mg "composed" ["s", "t"] s_composed) (G : Glb mg)  : FnAt P w K mg base 1 "composed" ["s", "t"] 2 f_composed := by
  refine fn_at (fixed := [0, 1]) D sc_composed (by decide) (by decide) fun f cdv A outer s H n E hr => ?_
  have hu := hr.units
  have hu5 := units65 hr
  have hp := passes_of (X := cxOf (L2.CX P w) P w K mg base ["s", "t", "p"] "composed" (defScope s_composed) f cdv A outer s H E) rfl
  have tk := takes_of (X := cxOf (L2.CX P w) P w K mg base ["s", "t", "p"] "composed" (defScope s_composed) f cdv A outer s H E) (E := E) rfl rfl rfl rfl
  exact (dss_one (ds_ret (dx_comp (own := [("p", 2)]) (by rfl) sc_composed.nd (di_seq (de_name 0)) (blkOk_by (by kernel_rfl)) (fun _ _ _ _ _ _ => (dx_name sc_composed.nd (by rfl) (Or.inl (by rfl)))) (fun _ _ _ _ _ _ => dts_nil) (fun _ _ _ _ _ _ => (de_ix (de_name 1) (de_name 2))))))
theorem sc_crossings : FnScope ["s", "q", "p"] ["s"] (defScope s_crossings) := ⟨rfl, rfl, rfl, by decide +kernel, rfl, by decide +kernel, by decide +kernel⟩
theorem ok_crossings (D : DefAt K mg "crossings" ["s"] s_crossings) (G : Glb mg)  : FnAt P w K mg base 1 "crossings" ["s"] 1 f_crossings := by
  refine fn_at (fixed := [0]) D sc_crossings (by decide) (by decide) fun f cdv A outer s H n E hr => ?_
  have hu := hr.units
  have hu5 := units65 hr
  have hp := passes_of (X := cxOf (L2.CX P w) P w K mg base ["s", "q", "p"] "crossings" (defScope s_crossings) f cdv A outer s H E) rfl
  have tk := takes_of (X := cxOf (L2.CX P w) P w K mg base ["s", "q", "p"] "crossings" (defScope s_crossings) f cdv A outer s H E) (E := E) rfl rfl rfl rfl
  exact (dss_one (ds_ret (de_callB (ok_sum (by rfl)) (by rfl) G.n_sum bt_sum (da_cons (dx_comp2 (own := [("q", 1), ("p", 2)]) (by rfl) sc_crossings.nd (vs1 := [2]) (di_r1 (by rfl) G.n_range (da_cons (de_callB ok_len (by rfl) G.n_len bt_len (da_cons (de_name 0) da_nil)) da_nil)) (blkOk_by (by kernel_rfl)) (fun _ _ _ _ _ _ => (dx_name sc_crossings.nd (by rfl) (Or.inl (by rfl)))) (fun _ _ _ _ _ _ => dts_nil) (fun _ _ _ _ _ _ => (di_r1 (by rfl) G.n_range (da_cons (de_name 1) da_nil))) (fun _ _ _ _ _ _ => (dx_name sc_crossings.nd (by rfl) (Or.inl (by rfl)))) (fun _ _ _ _ _ _ => (dts_one (dt_cmp ok_gt (de_ix (de_name 0) (de_name 2)) (de_ix (de_name 0) (de_name 1))))) (fun _ _ _ _ _ _ => de_int)) da_nil))))
theorem sc_then_simple : FnScope ["n", "s", "t", "found"] ["n", "s", "t"] (defScope s_then_simple) := ⟨rfl, rfl, rfl, by decide +kernel, rfl, by decide +kernel, by decide +kernel⟩
theorem ok_then_simple (D : DefAt K mg "then_simple" ["n", "s", "t"] s_then_simple) (G : Glb mg) (F_check_simples : FnAt P w K mg base 4 "check_simples" ["n", "simples"] 2 f_check_simples) (F_composed : FnAt P w K mg base 1 "composed" ["s", "t"] 2 f_composed) (F_crossings : FnAt P w K mg base 1 "crossings" ["s"] 1 f_crossings) : FnAt P w K mg base 5 "then_simple" ["n", "s", "t"] 3 f_then_simple := by
  refine fn_at (fixed := [0, 1, 2]) D sc_then_simple (by decide) (by decide) fun f cdv A outer s H n E hr => ?_
  have hu := hr.units
  have hu5 := units65 hr
  have hp := passes_of (X := cxOf (L2.CX P w) P w K mg base ["n", "s", "t", "found"] "then_simple" (defScope s_then_simple) f cdv A outer s H E) rfl
  have tk := takes_of (X := cxOf (L2.CX P w) P w K mg base ["n", "s", "t", "found"] "then_simple" (defScope s_then_simple) f cdv A outer s H E) (E := E) rfl rfl rfl rfl
  exact (dss_cons (ds_expr (de_fn F_check_simples hr (by decide) (by rfl) (by rfl) tk (da_cons (de_name 0) (da_cons (de_lst (da_cons (de_name 1) (da_cons (de_name 2) da_nil))) da_nil))))
    (dss_cons (dx_own (asg_of (i := 3) (de_fn F_composed hr (by decide) (by rfl) (by rfl) tk (da_cons (de_name 1) (da_cons (de_name 2) da_nil))) sc_then_simple.nd (by rfl) (Or.inl (by rfl))))
    (dss_one (ds_ret (de_if (dt_cmp (ok_eq hu) (de_fnX F_crossings hr (by decide) (by rfl) (by rfl) tk (da_cons (de_name 3) da_nil)) (de_bin ok_add (de_fn F_crossings hr (by decide) (by rfl) (by rfl) tk (da_cons (de_name 1) da_nil)) (de_fn F_crossings hr (by decide) (by rfl) (by rfl) tk (da_cons (de_name 2) da_nil)))) (de_name 3) de_non)))))
theorem sc__law_climb_right : FnScope ["pool", "n", "s", "held", "turn", "ends", "rising", "falling", "t", "due", "p", "i"] ["pool", "n", "s"] (defScope s__law_climb_right) := ⟨rfl, rfl, rfl, by decide +kernel, rfl, by decide +kernel, by decide +kernel⟩
theorem ok__law_climb_right (D : DefAt K mg "_law_climb_right" ["pool", "n", "s"] s__law_climb_right) (G : Glb mg) (F__law_backward : FnAt P w K mg base 1 "_law_backward" ["s"] 1 f__law_backward) (F__law_composed : FnAt P w K mg base 1 "_law_composed" ["s", "t"] 2 f__law_composed) (F__law_letter : FnAt P w K mg base 1 "_law_letter" ["n", "i"] 2 f__law_letter) (F__law_pick : FnAt P w K mg base 1 "_law_pick" ["pool", "many"] 2 f__law_pick) (F__law_same : FnAt P w K mg base 6 "_law_same" ["value", "due"] 2 f__law_same) (F_then_simple : FnAt P w K mg base 5 "then_simple" ["n", "s", "t"] 3 f_then_simple) : FnAt P w K mg base 7 "_law_climb_right" ["pool", "n", "s"] 3 f__law_climb_right := by
  refine fn_at (fixed := [0, 1, 2]) D sc__law_climb_right (by decide) (by decide) fun f cdv A outer s H n E hr => ?_
  have hu := hr.units
  have hu5 := units65 hr
  have hp := passes_of (X := cxOf (L2.CX P w) P w K mg base ["pool", "n", "s", "held", "turn", "ends", "rising", "falling", "t", "due", "p", "i"] "_law_climb_right" (defScope s__law_climb_right) f cdv A outer s H E) rfl
  have tk := takes_of (X := cxOf (L2.CX P w) P w K mg base ["pool", "n", "s", "held", "turn", "ends", "rising", "falling", "t", "due", "p", "i"] "_law_climb_right" (defScope s__law_climb_right) f cdv A outer s H E) (E := E) rfl rfl rfl rfl
  exact (dss_cons (dx_set (ax_comp (i := 3) (own := [("p", 10)]) (by rfl) sc__law_climb_right.nd (by rfl) (by rfl) (sw_true (by rfl) (by rfl) (by rfl) (by decide +kernel)) (di_seq (de_name 2)) (blkOk_by (by kernel_rfl)) (fun _ _ _ _ _ _ => (dx_name sc__law_climb_right.nd (by rfl) (Or.inl (by rfl)))) (fun _ _ _ _ _ _ => dts_nil) (fun _ _ _ _ _ _ => (de_name 10))))
    (dss_cons (ds_for hp (by rfl) (di_r1 (by rfl) G.n_range (da_cons de_int da_nil)) (dx_name sc__law_climb_right.nd (by rfl) (Or.inl (by rfl))) (dss_cons (dx_set (asg_of (i := 5) (de_fn F__law_backward hr (by decide) (by rfl) (by rfl) tk (da_cons (de_name 3) da_nil)) sc__law_climb_right.nd (by rfl) (Or.inr (by rfl))))
    (dss_cons (dx_set (ax_comp (i := 6) (own := [("i", 11)]) (by rfl) sc__law_climb_right.nd (by rfl) (by rfl) (sw_true (by rfl) (by rfl) (by rfl) (by decide +kernel)) (di_r2 (by rfl) G.n_range (da_cons de_int (da_cons (de_name 1) da_nil))) (blkOk_by (by kernel_rfl)) (fun _ _ _ _ _ _ => (dx_name sc__law_climb_right.nd (by rfl) (Or.inl (by rfl)))) (fun _ _ _ _ _ _ => (dts_one (dt_cmp ok_lt (de_ix (de_name 5) (de_bin ok_sub (de_name 11) de_int)) (de_ix (de_name 5) (de_name 11))))) (fun _ _ _ _ _ _ => (de_name 11))))
    (dss_cons (dx_set (ax_comp (i := 7) (own := [("i", 11)]) (by rfl) sc__law_climb_right.nd (by rfl) (by rfl) (sw_true (by rfl) (by rfl) (by rfl) (by decide +kernel)) (di_r2 (by rfl) G.n_range (da_cons de_int (da_cons (de_name 1) da_nil))) (blkOk_by (by kernel_rfl)) (fun _ _ _ _ _ _ => (dx_name sc__law_climb_right.nd (by rfl) (Or.inl (by rfl)))) (fun _ _ _ _ _ _ => (dts_one (dt_cmp ok_gt (de_ix (de_name 5) (de_bin ok_sub (de_name 11) de_int)) (de_ix (de_name 5) (de_name 11))))) (fun _ _ _ _ _ _ => (de_name 11))))
    (dss_cons (ds_if (dt_cmp (ok_ne hu) (de_name 7) (de_lst da_nil)) (dss_cons (dx_set (asg_of (i := 8) (de_fn F__law_letter hr (by decide) (by rfl) (by rfl) tk (da_cons (de_name 1) (da_cons (de_ix (de_name 7) (de_fn F__law_pick hr (by decide) (by rfl) (by rfl) tk (da_cons (de_name 0) (da_cons (de_callB ok_len (by rfl) G.n_len bt_len (da_cons (de_name 7) da_nil)) da_nil)))) da_nil))) sc__law_climb_right.nd (by rfl) (Or.inl (by rfl))))
    (dss_one (ds_if (dt_cmp ok_isnot (de_fn F_then_simple hr (by decide) (by rfl) (by rfl) tk (da_cons (de_name 1) (da_cons (dx_comp (own := [("p", 10)]) (by rfl) sc__law_climb_right.nd (di_seq (de_name 3)) (blkOk_by (by kernel_rfl)) (fun _ _ _ _ _ _ => (dx_name sc__law_climb_right.nd (by rfl) (Or.inl (by rfl)))) (fun _ _ _ _ _ _ => dts_nil) (fun _ _ _ _ _ _ => (de_name 10))) (da_cons (de_name 8) da_nil)))) de_non) (dss_one (ds_ret de_bl)) dss_nil))) dss_nil)
    (dss_cons (ds_if (dt_cmp (ok_eq hu) (de_name 6) (de_lst da_nil)) (dss_one (ds_ret (de_cmp (ok_eq hu) (de_name 3) (de_rev (de_lr1 (by rfl) (by rfl) G.n_list (by rfl) G.n_range (de_name 1)))))) dss_nil)
    (dss_cons (dx_set (asg_of (i := 8) (de_fn F__law_letter hr (by decide) (by rfl) (by rfl) tk (da_cons (de_name 1) (da_cons (de_ix (de_name 6) (de_fn F__law_pick hr (by decide) (by rfl) (by rfl) tk (da_cons (de_name 0) (da_cons (de_callB ok_len (by rfl) G.n_len bt_len (da_cons (de_name 6) da_nil)) da_nil)))) da_nil))) sc__law_climb_right.nd (by rfl) (Or.inl (by rfl))))
    (dss_cons (dx_set (asg_of (i := 9) (de_fn F__law_composed hr (by decide) (by rfl) (by rfl) tk (da_cons (de_name 3) (da_cons (de_name 8) da_nil))) sc__law_climb_right.nd (by rfl) (Or.inl (by rfl))))
    (dss_cons (ds_if (dt_not (dt_val (de_fn F__law_same hr (by decide) (by rfl) (by rfl) tk (da_cons (de_fn F_then_simple hr (by decide) (by rfl) (by rfl) tk (da_cons (de_name 1) (da_cons (dx_comp (own := [("p", 10)]) (by rfl) sc__law_climb_right.nd (di_seq (de_name 3)) (blkOk_by (by kernel_rfl)) (fun _ _ _ _ _ _ => (dx_name sc__law_climb_right.nd (by rfl) (Or.inl (by rfl)))) (fun _ _ _ _ _ _ => dts_nil) (fun _ _ _ _ _ _ => (de_name 10))) (da_cons (de_name 8) da_nil)))) (da_cons (de_name 9) da_nil))))) (dss_one (ds_ret de_bl)) dss_nil)
    (dss_one (dx_set (asg_of (i := 3) (de_name 9) sc__law_climb_right.nd (by rfl) (Or.inl (by rfl))))))))))))))
    (dss_one (ds_ret de_bl))))
theorem sc__law_crossings : FnScope ["s", "many", "q", "p"] ["s"] (defScope s__law_crossings) := ⟨rfl, rfl, rfl, by decide +kernel, rfl, by decide +kernel, by decide +kernel⟩
theorem ok__law_crossings (D : DefAt K mg "_law_crossings" ["s"] s__law_crossings) (G : Glb mg)  : FnAt P w K mg base 1 "_law_crossings" ["s"] 1 f__law_crossings := by
  refine fn_at (fixed := [0]) D sc__law_crossings (by decide) (by decide) fun f cdv A outer s H n E hr => ?_
  have hu := hr.units
  have hu5 := units65 hr
  have hp := passes_of (X := cxOf (L2.CX P w) P w K mg base ["s", "many", "q", "p"] "_law_crossings" (defScope s__law_crossings) f cdv A outer s H E) rfl
  have tk := takes_of (X := cxOf (L2.CX P w) P w K mg base ["s", "many", "q", "p"] "_law_crossings" (defScope s__law_crossings) f cdv A outer s H E) (E := E) rfl rfl rfl rfl
  exact (dss_cons (dx_set (asg_of (i := 1) de_int sc__law_crossings.nd (by rfl) (Or.inl (by rfl))))
    (dss_cons (ds_for hp (by rfl) (di_r1 (by rfl) G.n_range (da_cons (de_callB ok_len (by rfl) G.n_len bt_len (da_cons (de_name 0) da_nil)) da_nil)) (dx_name sc__law_crossings.nd (by rfl) (Or.inr (by rfl))) (dss_one (dx_set (asg_of (i := 1) (de_bin ok_add (de_name 1) (de_callB ok_len (by rfl) G.n_len bt_len (da_cons (dx_comp (own := [("p", 3)]) (by rfl) sc__law_crossings.nd (di_r1 (by rfl) G.n_range (da_cons (de_name 2) da_nil)) (blkOk_by (by kernel_rfl)) (fun _ _ _ _ _ _ => (dx_name sc__law_crossings.nd (by rfl) (Or.inl (by rfl)))) (fun _ _ _ _ _ _ => (dts_one (dt_cmp ok_gt (de_ix (de_name 0) (de_name 3)) (de_ix (de_name 0) (de_name 2))))) (fun _ _ _ _ _ _ => (de_name 3))) da_nil))) sc__law_crossings.nd (by rfl) (Or.inl (by rfl))))))
    (dss_one (ds_ret (de_name 1)))))
theorem sc__law_product_right : FnScope ["n", "s", "t", "due", "handed", "told", "again", "p"] ["n", "s", "t"] (defScope s__law_product_right) := ⟨rfl, rfl, rfl, by decide +kernel, rfl, by decide +kernel, by decide +kernel⟩
theorem ok__law_product_right (D : DefAt K mg "_law_product_right" ["n", "s", "t"] s__law_product_right) (G : Glb mg) (F__law_composed : FnAt P w K mg base 1 "_law_composed" ["s", "t"] 2 f__law_composed) (F__law_crossings : FnAt P w K mg base 1 "_law_crossings" ["s"] 1 f__law_crossings) (F__law_same : FnAt P w K mg base 6 "_law_same" ["value", "due"] 2 f__law_same) (F_then_simple : FnAt P w K mg base 5 "then_simple" ["n", "s", "t"] 3 f_then_simple) : FnAt P w K mg base 7 "_law_product_right" ["n", "s", "t"] 3 f__law_product_right := by
  refine fn_at (fixed := [0, 1, 2]) D sc__law_product_right (by decide) (by decide) fun f cdv A outer s H n E hr => ?_
  have hu := hr.units
  have hu5 := units65 hr
  have hp := passes_of (X := cxOf (L2.CX P w) P w K mg base ["n", "s", "t", "due", "handed", "told", "again", "p"] "_law_product_right" (defScope s__law_product_right) f cdv A outer s H E) rfl
  have tk := takes_of (X := cxOf (L2.CX P w) P w K mg base ["n", "s", "t", "due", "handed", "told", "again", "p"] "_law_product_right" (defScope s__law_product_right) f cdv A outer s H E) (E := E) rfl rfl rfl rfl
  exact (dss_cons (dx_par (i := 3) (j := 4) (by rfl) sc__law_product_right.nd (by rfl) (by rfl) (by decide) (by rfl) (by rfl) (da_cons (de_fn F__law_composed hr (by decide) (by rfl) (by rfl) tk (da_cons (de_name 1) (da_cons (de_name 2) da_nil))) (da_cons (de_lst (da_cons (dx_comp (own := [("p", 7)]) (by rfl) sc__law_product_right.nd (di_seq (de_name 1)) (blkOk_by (by kernel_rfl)) (fun _ _ _ _ _ _ => (dx_name sc__law_product_right.nd (by rfl) (Or.inl (by rfl)))) (fun _ _ _ _ _ _ => dts_nil) (fun _ _ _ _ _ _ => (de_name 7))) (da_cons (dx_comp (own := [("p", 7)]) (by rfl) sc__law_product_right.nd (di_seq (de_name 2)) (blkOk_by (by kernel_rfl)) (fun _ _ _ _ _ _ => (dx_name sc__law_product_right.nd (by rfl) (Or.inl (by rfl)))) (fun _ _ _ _ _ _ => dts_nil) (fun _ _ _ _ _ _ => (de_name 7))) da_nil))) da_nil)) (by rfl))
    (dss_cons (ds_if (dt_cmp (ok_ne hu) (de_fn F__law_crossings hr (by decide) (by rfl) (by rfl) tk (da_cons (de_name 3) da_nil)) (de_bin ok_add (de_fn F__law_crossings hr (by decide) (by rfl) (by rfl) tk (da_cons (de_name 1) da_nil)) (de_fn F__law_crossings hr (by decide) (by rfl) (by rfl) tk (da_cons (de_name 2) da_nil)))) (dss_one (dx_set (asg_of (i := 3) de_non sc__law_product_right.nd (by rfl) (Or.inl (by rfl))))) dss_nil)
    (dss_cons (dx_own2 (asg_of (i := 5) (de_fn F_then_simple hr (by decide) (by rfl) (by rfl) tk (da_cons (de_name 0) (da_cons (de_ix (de_name 4) de_int) (da_cons (de_ix (de_name 4) de_int) da_nil)))) sc__law_product_right.nd (by rfl) (Or.inl (by rfl))))
    (dss_cons (ds_if (dt_w (dw_or (dt_not (dt_val (de_fnX F__law_same hr (by decide) (by rfl) (by rfl) tk (da_cons (de_name 5) (da_cons (de_name 3) da_nil))))) (dw_or1 (dt_cmp (ok_ne hu) (de_name 4) (de_lst (da_cons (de_name 1) (da_cons (de_name 2) da_nil))))))) (dss_one (ds_ret de_bl)) dss_nil)
    (dss_cons (ds_if (dt_cmp ok_isnot (de_name 5) de_non) (dss_cons (ds_asg (de_name 0) (dg_sub (de_name 5) de_int))
    (dss_one (ds_expr (de_meth PySem.F.plainAttrs_list PySem.F.slot_list_append PySem.F.type_list_append ok_append (de_name 5) (da_cons de_int da_nil))))) dss_nil)
    (dss_cons (dx_set (asg_of (i := 6) (de_fn F_then_simple hr (by decide) (by rfl) (by rfl) tk (da_cons (de_name 0) (da_cons (de_ix (de_name 4) de_int) (da_cons (de_ix (de_name 4) de_int) da_nil)))) sc__law_product_right.nd (by rfl) (Or.inl (by rfl))))
    (dss_one (ds_ret (de_and (de_fn F__law_same hr (by decide) (by rfl) (by rfl) tk (da_cons (de_name 6) (da_cons (de_name 3) da_nil))) (de_one (de_cmp (ok_eq hu) (de_name 4) (de_lst (da_cons (de_name 1) (da_cons (de_name 2) da_nil))))))))))))))
theorem sc_opposite : FnScope ["s", "q"] ["s"] (defScope s_opposite) := ⟨rfl, rfl, rfl, by decide +kernel, rfl, by decide +kernel, by decide +kernel⟩
theorem ok_opposite (D : DefAt K mg "opposite" ["s"] s_opposite) (G : Glb mg)  : FnAt P w K mg base 1 "opposite" ["s"] 1 f_opposite := by
  refine fn_at (fixed := [0]) D sc_opposite (by decide) (by decide) fun f cdv A outer s H n E hr => ?_
  have hu := hr.units
  have hu5 := units65 hr
  have hp := passes_of (X := cxOf (L2.CX P w) P w K mg base ["s", "q"] "opposite" (defScope s_opposite) f cdv A outer s H E) rfl
  have tk := takes_of (X := cxOf (L2.CX P w) P w K mg base ["s", "q"] "opposite" (defScope s_opposite) f cdv A outer s H E) (E := E) rfl rfl rfl rfl
  exact (dss_one (ds_ret (dx_comp (own := [("q", 1)]) (by rfl) sc_opposite.nd (di_seq (de_name 0)) (blkOk_by (by kernel_rfl)) (fun _ _ _ _ _ _ => (dx_name sc_opposite.nd (by rfl) (Or.inl (by rfl)))) (fun _ _ _ _ _ _ => dts_nil) (fun _ _ _ _ _ _ => (de_bin ok_sub (de_bin ok_sub (de_callB ok_len (by rfl) G.n_len bt_len (da_cons (de_name 0) da_nil)) de_int) (de_name 1))))))
theorem sc_backward : FnScope ["s", "found", "p", "q"] ["s"] (defScope s_backward) := ⟨rfl, rfl, rfl, by decide +kernel, rfl, by decide +kernel, by decide +kernel⟩
theorem ok_backward (D : DefAt K mg "backward" ["s"] s_backward) (G : Glb mg)  : FnAt P w K mg base 1 "backward" ["s"] 1 f_backward := by
  refine fn_at (fixed := [0]) D sc_backward (by decide) (by decide) fun f cdv A outer s H n E hr => ?_
  have hu := hr.units
  have hu5 := units65 hr
  have hp := passes_of (X := cxOf (L2.CX P w) P w K mg base ["s", "found", "p", "q"] "backward" (defScope s_backward) f cdv A outer s H E) rfl
  have tk := takes_of (X := cxOf (L2.CX P w) P w K mg base ["s", "found", "p", "q"] "backward" (defScope s_backward) f cdv A outer s H E) (E := E) rfl rfl rfl rfl
  exact (dss_cons (dx_own (asg_of (i := 1) (de_bin ok_mul (de_lst (da_cons de_int da_nil)) (de_callB ok_len (by rfl) G.n_len bt_len (da_cons (de_name 0) da_nil))) sc_backward.nd (by rfl) (Or.inl (by rfl))))
    (dss_cons (ds_for hp (by rfl) (di_enum (by rfl) G.n_enumerate (da_cons (de_name 0) da_nil)) (dg_tup (by rfl) (dgs_cons (dx_name sc_backward.nd (by rfl) (Or.inl (by rfl))) (dgs_cons (dx_name sc_backward.nd (by rfl) (Or.inl (by rfl))) dgs_nil))) (dss_one (ds_asg (de_name 2) (dg_sub (de_name 1) (de_name 3)))))
    (dss_one (ds_ret (de_name 1)))))
theorem sc_rest : FnScope ["s"] ["s"] (defScope s_rest) := ⟨rfl, rfl, rfl, by decide +kernel, rfl, by decide +kernel, by decide +kernel⟩
theorem ok_rest (D : DefAt K mg "rest" ["s"] s_rest) (G : Glb mg) (F_backward : FnAt P w K mg base 1 "backward" ["s"] 1 f_backward) (F_opposite : FnAt P w K mg base 1 "opposite" ["s"] 1 f_opposite) : FnAt P w K mg base 2 "rest" ["s"] 1 f_rest := by
  refine fn_at (fixed := [0]) D sc_rest (by decide) (by decide) fun f cdv A outer s H n E hr => ?_
  have hu := hr.units
  have hu5 := units65 hr
  have hp := passes_of (X := cxOf (L2.CX P w) P w K mg base ["s"] "rest" (defScope s_rest) f cdv A outer s H E) rfl
  have tk := takes_of (X := cxOf (L2.CX P w) P w K mg base ["s"] "rest" (defScope s_rest) f cdv A outer s H E) (E := E) rfl rfl rfl rfl
  exact (dss_one (ds_ret (de_fn F_opposite hr (by decide) (by rfl) (by rfl) tk (da_cons (de_fn F_backward hr (by decide) (by rfl) (by rfl) tk (da_cons (de_name 0) da_nil)) da_nil))))
theorem sc_rest_of : FnScope ["n", "s"] ["n", "s"] (defScope s_rest_of) := ⟨rfl, rfl, rfl, by decide +kernel, rfl, by decide +kernel, by decide +kernel⟩
theorem ok_rest_of (D : DefAt K mg "rest_of" ["n", "s"] s_rest_of) (G : Glb mg) (F_check_simples : FnAt P w K mg base 4 "check_simples" ["n", "simples"] 2 f_check_simples) (F_rest : FnAt P w K mg base 2 "rest" ["s"] 1 f_rest) : FnAt P w K mg base 5 "rest_of" ["n", "s"] 2 f_rest_of := by
  refine fn_at (fixed := [0, 1]) D sc_rest_of (by decide) (by decide) fun f cdv A outer s H n E hr => ?_
  have hu := hr.units
  have hu5 := units65 hr
  have hp := passes_of (X := cxOf (L2.CX P w) P w K mg base ["n", "s"] "rest_of" (defScope s_rest_of) f cdv A outer s H E) rfl
  have tk := takes_of (X := cxOf (L2.CX P w) P w K mg base ["n", "s"] "rest_of" (defScope s_rest_of) f cdv A outer s H E) (E := E) rfl rfl rfl rfl
  exact (dss_cons (ds_expr (de_fn F_check_simples hr (by decide) (by rfl) (by rfl) tk (da_cons (de_name 0) (da_cons (de_lst (da_cons (de_name 1) da_nil)) da_nil))))
    (dss_one (ds_ret (de_fn F_rest hr (by decide) (by rfl) (by rfl) tk (da_cons (de_name 1) da_nil)))))
theorem sc_rest_ahead : FnScope ["s"] ["s"] (defScope s_rest_ahead) := ⟨rfl, rfl, rfl, by decide +kernel, rfl, by decide +kernel, by decide +kernel⟩
theorem ok_rest_ahead (D : DefAt K mg "rest_ahead" ["s"] s_rest_ahead) (G : Glb mg) (F_backward : FnAt P w K mg base 1 "backward" ["s"] 1 f_backward) : FnAt P w K mg base 2 "rest_ahead" ["s"] 1 f_rest_ahead := by
  refine fn_at (fixed := [0]) D sc_rest_ahead (by decide) (by decide) fun f cdv A outer s H n E hr => ?_
  have hu := hr.units
  have hu5 := units65 hr
  have hp := passes_of (X := cxOf (L2.CX P w) P w K mg base ["s"] "rest_ahead" (defScope s_rest_ahead) f cdv A outer s H E) rfl
  have tk := takes_of (X := cxOf (L2.CX P w) P w K mg base ["s"] "rest_ahead" (defScope s_rest_ahead) f cdv A outer s H E) (E := E) rfl rfl rfl rfl
  exact (dss_one (ds_ret (de_rev (de_fn F_backward hr (by decide) (by rfl) (by rfl) tk (da_cons (de_name 0) da_nil)))))
theorem sc_fore_rest : FnScope ["n", "s"] ["n", "s"] (defScope s_fore_rest) := ⟨rfl, rfl, rfl, by decide +kernel, rfl, by decide +kernel, by decide +kernel⟩
theorem ok_fore_rest (D : DefAt K mg "fore_rest" ["n", "s"] s_fore_rest) (G : Glb mg) (F_check_simples : FnAt P w K mg base 4 "check_simples" ["n", "simples"] 2 f_check_simples) (F_rest_ahead : FnAt P w K mg base 2 "rest_ahead" ["s"] 1 f_rest_ahead) : FnAt P w K mg base 5 "fore_rest" ["n", "s"] 2 f_fore_rest := by
  refine fn_at (fixed := [0, 1]) D sc_fore_rest (by decide) (by decide) fun f cdv A outer s H n E hr => ?_
  have hu := hr.units
  have hu5 := units65 hr
  have hp := passes_of (X := cxOf (L2.CX P w) P w K mg base ["n", "s"] "fore_rest" (defScope s_fore_rest) f cdv A outer s H E) rfl
  have tk := takes_of (X := cxOf (L2.CX P w) P w K mg base ["n", "s"] "fore_rest" (defScope s_fore_rest) f cdv A outer s H E) (E := E) rfl rfl rfl rfl
  exact (dss_cons (ds_expr (de_fn F_check_simples hr (by decide) (by rfl) (by rfl) tk (da_cons (de_name 0) (da_cons (de_lst (da_cons (de_name 1) da_nil)) da_nil))))
    (dss_one (ds_ret (de_fn F_rest_ahead hr (by decide) (by rfl) (by rfl) tk (da_cons (de_name 1) da_nil)))))
theorem sc_about : FnScope ["s"] ["s"] (defScope s_about) := ⟨rfl, rfl, rfl, by decide +kernel, rfl, by decide +kernel, by decide +kernel⟩
theorem ok_about (D : DefAt K mg "about" ["s"] s_about) (G : Glb mg) (F_opposite : FnAt P w K mg base 1 "opposite" ["s"] 1 f_opposite) : FnAt P w K mg base 2 "about" ["s"] 1 f_about := by
  refine fn_at (fixed := [0]) D sc_about (by decide) (by decide) fun f cdv A outer s H n E hr => ?_
  have hu := hr.units
  have hu5 := units65 hr
  have hp := passes_of (X := cxOf (L2.CX P w) P w K mg base ["s"] "about" (defScope s_about) f cdv A outer s H E) rfl
  have tk := takes_of (X := cxOf (L2.CX P w) P w K mg base ["s"] "about" (defScope s_about) f cdv A outer s H E) (E := E) rfl rfl rfl rfl
  exact (dss_one (ds_ret (de_fn F_opposite hr (by decide) (by rfl) (by rfl) tk (da_cons (de_rev (de_name 0)) da_nil))))
theorem sc_turned_simple : FnScope ["n", "s"] ["n", "s"] (defScope s_turned_simple) := ⟨rfl, rfl, rfl, by decide +kernel, rfl, by decide +kernel, by decide +kernel⟩
theorem ok_turned_simple (D : DefAt K mg "turned_simple" ["n", "s"] s_turned_simple) (G : Glb mg) (F_about : FnAt P w K mg base 2 "about" ["s"] 1 f_about) (F_check_simples : FnAt P w K mg base 4 "check_simples" ["n", "simples"] 2 f_check_simples) : FnAt P w K mg base 5 "turned_simple" ["n", "s"] 2 f_turned_simple := by
  refine fn_at (fixed := [0, 1]) D sc_turned_simple (by decide) (by decide) fun f cdv A outer s H n E hr => ?_
  have hu := hr.units
  have hu5 := units65 hr
  have hp := passes_of (X := cxOf (L2.CX P w) P w K mg base ["n", "s"] "turned_simple" (defScope s_turned_simple) f cdv A outer s H E) rfl
  have tk := takes_of (X := cxOf (L2.CX P w) P w K mg base ["n", "s"] "turned_simple" (defScope s_turned_simple) f cdv A outer s H E) (E := E) rfl rfl rfl rfl
  exact (dss_cons (ds_expr (de_fn F_check_simples hr (by decide) (by rfl) (by rfl) tk (da_cons (de_name 0) (da_cons (de_lst (da_cons (de_name 1) da_nil)) da_nil))))
    (dss_one (ds_ret (de_fn F_about hr (by decide) (by rfl) (by rfl) tk (da_cons (de_name 1) da_nil)))))
theorem sc__law_whole : FnScope ["value"] ["value"] (defScope s__law_whole) := ⟨rfl, rfl, rfl, by decide +kernel, rfl, by decide +kernel, by decide +kernel⟩
theorem ok__law_whole (D : DefAt K mg "_law_whole" ["value"] s__law_whole) (G : Glb mg)  : FnAt P w K mg base 1 "_law_whole" ["value"] 1 f__law_whole := by
  refine fn_at (fixed := [0]) D sc__law_whole (by decide) (by decide) fun f cdv A outer s H n E hr => ?_
  have hu := hr.units
  have hu5 := units65 hr
  have hp := passes_of (X := cxOf (L2.CX P w) P w K mg base ["value"] "_law_whole" (defScope s__law_whole) f cdv A outer s H E) rfl
  have tk := takes_of (X := cxOf (L2.CX P w) P w K mg base ["value"] "_law_whole" (defScope s__law_whole) f cdv A outer s H E) (E := E) rfl rfl rfl rfl
  exact (dss_one (ds_ret (de_and (de_isi (by rfl) G.n_isinstance bt_isinstance (de_name 0) (by rfl) G.n_int bt_int) (de_one (de_not (de_isi (by rfl) G.n_isinstance bt_isinstance (de_name 0) (by rfl) G.n_bool bt_bool))))))
theorem sc__law_is_turning : FnScope ["n", "value", "p"] ["n", "value"] (defScope s__law_is_turning) := ⟨rfl, rfl, rfl, by decide +kernel, rfl, by decide +kernel, by decide +kernel⟩
theorem ok__law_is_turning (D : DefAt K mg "_law_is_turning" ["n", "value"] s__law_is_turning) (G : Glb mg) (F__law_whole : FnAt P w K mg base 1 "_law_whole" ["value"] 1 f__law_whole) : FnAt P w K mg base 2 "_law_is_turning" ["n", "value"] 2 f__law_is_turning := by
  refine fn_at (fixed := [0, 1]) D sc__law_is_turning (by decide) (by decide) fun f cdv A outer s H n E hr => ?_
  have hu := hr.units
  have hu5 := units65 hr
  have hp := passes_of (X := cxOf (L2.CX P w) P w K mg base ["n", "value", "p"] "_law_is_turning" (defScope s__law_is_turning) f cdv A outer s H E) rfl
  have tk := takes_of (X := cxOf (L2.CX P w) P w K mg base ["n", "value", "p"] "_law_is_turning" (defScope s__law_is_turning) f cdv A outer s H E) (E := E) rfl rfl rfl rfl
  exact (dss_cons (ds_if (dt_w (dw_or (dt_not (dt_val (de_isi (by rfl) G.n_isinstance bt_isinstance (de_name 1) (by rfl) G.n_list bt_list))) (dw_or (dt_cmp (ok_ne hu) (de_callB ok_len (by rfl) G.n_len bt_len (da_cons (de_name 1) da_nil)) (de_name 0)) (dw_or1 (dt_not (dt_val (de_callB (ok_all (by rfl)) (by rfl) G.n_all bt_all (da_cons (dx_comp (own := [("p", 2)]) (by rfl) sc__law_is_turning.nd (di_seq (de_name 1)) (blkOk_by (by kernel_rfl)) (fun _ _ _ _ _ _ => (dx_name sc__law_is_turning.nd (by rfl) (Or.inl (by rfl)))) (fun _ _ _ _ _ _ => dts_nil) (fun _ _ _ _ _ _ => (de_fn F__law_whole hr (by decide) (by rfl) (by rfl) takes0 (da_cons (de_name 2) da_nil)))) da_nil)))))))) (dss_one (ds_ret de_bl)) dss_nil)
    (dss_one (ds_ret (de_cmp (ok_eq hu) (de_callB ok_sorted (by rfl) G.n_sorted bt_sorted (da_cons (de_name 1) da_nil)) (de_lr1 (by rfl) (by rfl) G.n_list (by rfl) G.n_range (de_name 0))))))
theorem sc__law_rests_right : FnScope ["n", "s", "half", "handed", "rest_v", "fore", "about_v", "kept", "p"] ["n", "s"] (defScope s__law_rests_right) := ⟨rfl, rfl, rfl, by decide +kernel, rfl, by decide +kernel, by decide +kernel⟩
theorem ok__law_rests_right (D : DefAt K mg "_law_rests_right" ["n", "s"] s__law_rests_right) (G : Glb mg) (F__law_composed : FnAt P w K mg base 1 "_law_composed" ["s", "t"] 2 f__law_composed) (F__law_is_turning : FnAt P w K mg base 2 "_law_is_turning" ["n", "value"] 2 f__law_is_turning) (F__law_same : FnAt P w K mg base 6 "_law_same" ["value", "due"] 2 f__law_same) (F_fore_rest : FnAt P w K mg base 5 "fore_rest" ["n", "s"] 2 f_fore_rest) (F_rest_of : FnAt P w K mg base 5 "rest_of" ["n", "s"] 2 f_rest_of) (F_then_simple : FnAt P w K mg base 5 "then_simple" ["n", "s", "t"] 3 f_then_simple) (F_turned_simple : FnAt P w K mg base 5 "turned_simple" ["n", "s"] 2 f_turned_simple) : FnAt P w K mg base 7 "_law_rests_right" ["n", "s"] 2 f__law_rests_right := by
  refine fn_at (fixed := [0, 1]) D sc__law_rests_right (by decide) (by decide) fun f cdv A outer s H n E hr => ?_
  have hu := hr.units
  have hu5 := units65 hr
  have hp := passes_of (X := cxOf (L2.CX P w) P w K mg base ["n", "s", "half", "handed", "rest_v", "fore", "about_v", "kept", "p"] "_law_rests_right" (defScope s__law_rests_right) f cdv A outer s H E) rfl
  have tk := takes_of (X := cxOf (L2.CX P w) P w K mg base ["n", "s", "half", "handed", "rest_v", "fore", "about_v", "kept", "p"] "_law_rests_right" (defScope s__law_rests_right) f cdv A outer s H E) (E := E) rfl rfl rfl rfl
  exact (dss_cons (dx_par (i := 2) (j := 3) (by rfl) sc__law_rests_right.nd (by rfl) (by rfl) (by decide) (by rfl) (by rfl) (da_cons (de_rev (de_lr1 (by rfl) (by rfl) G.n_list (by rfl) G.n_range (de_name 0))) (da_cons (dx_comp (own := [("p", 8)]) (by rfl) sc__law_rests_right.nd (di_seq (de_name 1)) (blkOk_by (by kernel_rfl)) (fun _ _ _ _ _ _ => (dx_name sc__law_rests_right.nd (by rfl) (Or.inl (by rfl)))) (fun _ _ _ _ _ _ => dts_nil) (fun _ _ _ _ _ _ => (de_name 8))) da_nil)) (by rfl))
    (dss_cons (dx_parO3 (i := 4) (j := 5) (l := 6) (by rfl) sc__law_rests_right.nd (by rfl) (by rfl) (by rfl) (by decide) (by decide) (by decide) (by rfl) (by rfl) (by rfl) (de_fn F_rest_of hr (by decide) (by rfl) (by rfl) tk (da_cons (de_name 0) (da_cons (de_name 3) da_nil))) (fun _ => (de_fn F_fore_rest hr (by decide) (by rfl) (by rfl) tk (da_cons (de_name 0) (da_cons (de_name 3) da_nil)))) (fun _ => (de_fn F_turned_simple hr (by decide) (by rfl) (by rfl) tk (da_cons (de_name 0) (da_cons (de_name 3) da_nil)))) (by rfl))
    (dss_cons (ds_if (dt_w (dw_or (dt_not (dt_val (de_fnX F__law_is_turning hr (by decide) (by rfl) (by rfl) tk (da_cons (de_name 0) (da_cons (de_name 4) da_nil))))) (dw_or (dt_not (dt_val (de_fnX F__law_is_turning hr (by decide) (by rfl) (by rfl) tk (da_cons (de_name 0) (da_cons (de_name 5) da_nil))))) (dw_or1 (dt_not (dt_val (de_fnX F__law_is_turning hr (by decide) (by rfl) (by rfl) tk (da_cons (de_name 0) (da_cons (de_name 6) da_nil))))))))) (dss_one (ds_ret de_bl)) dss_nil)
    (dss_cons (ds_if (dt_w (dw_or (dt_cmp (ok_ne hu) (de_fnX F__law_composed hr (by decide) (by rfl) (by rfl) tk (da_cons (de_name 1) (da_cons (de_name 4) da_nil))) (de_name 2)) (dw_or1 (dt_cmp (ok_ne hu) (de_fnX F__law_composed hr (by decide) (by rfl) (by rfl) tk (da_cons (de_name 5) (da_cons (de_name 1) da_nil))) (de_name 2))))) (dss_one (ds_ret de_bl)) dss_nil)
    (dss_cons (ds_if (dt_w (dw_or (dt_cmp (ok_ne hu) (de_fn F__law_composed hr (by decide) (by rfl) (by rfl) tk (da_cons (de_name 1) (da_cons (de_name 2) da_nil))) (de_fnX F__law_composed hr (by decide) (by rfl) (by rfl) tk (da_cons (de_name 2) (da_cons (de_name 6) da_nil)))) (dw_or1 (dt_cmp (ok_ne hu) (de_name 3) (de_name 1))))) (dss_one (ds_ret de_bl)) dss_nil)
    (dss_cons (ds_if (dt_w (dw_or (dt_not (dt_val (de_fn F__law_same hr (by decide) (by rfl) (by rfl) tk (da_cons (de_fnX F_then_simple hr (by decide) (by rfl) (by rfl) tk (da_cons (de_name 0) (da_cons (de_name 3) (da_cons (de_name 4) da_nil)))) (da_cons (de_name 2) da_nil))))) (dw_or1 (dt_not (dt_val (de_fn F__law_same hr (by decide) (by rfl) (by rfl) tk (da_cons (de_fnX F_then_simple hr (by decide) (by rfl) (by rfl) tk (da_cons (de_name 0) (da_cons (de_name 5) (da_cons (de_name 3) da_nil)))) (da_cons (de_name 2) da_nil)))))))) (dss_one (ds_ret de_bl)) dss_nil)
    (dss_cons (ds_if (dt_w (dw_or (dt_not (dt_val (de_fn F__law_same hr (by decide) (by rfl) (by rfl) tk (da_cons (de_fnX F_fore_rest hr (by decide) (by rfl) (by rfl) tk (da_cons (de_name 0) (da_cons (de_name 4) da_nil))) (da_cons (de_name 1) da_nil))))) (dw_or1 (dt_not (dt_val (de_fn F__law_same hr (by decide) (by rfl) (by rfl) tk (da_cons (de_fnX F_rest_of hr (by decide) (by rfl) (by rfl) tk (da_cons (de_name 0) (da_cons (de_name 5) da_nil))) (da_cons (de_name 1) da_nil)))))))) (dss_one (ds_ret de_bl)) dss_nil)
    (dss_cons (ds_if (dt_w (dw_or (dt_not (dt_val (de_fn F__law_same hr (by decide) (by rfl) (by rfl) tk (da_cons (de_fnX F_turned_simple hr (by decide) (by rfl) (by rfl) tk (da_cons (de_name 0) (da_cons (de_name 6) da_nil))) (da_cons (de_name 1) da_nil))))) (dw_or1 (dt_not (dt_val (de_fnX F__law_same hr (by decide) (by rfl) (by rfl) tk (da_cons (de_fnX F_rest_of hr (by decide) (by rfl) (by rfl) tk (da_cons (de_name 0) (da_cons (de_name 4) da_nil))) (da_cons (de_name 6) da_nil)))))))) (dss_one (ds_ret de_bl)) dss_nil)
    (dss_cons (dx_set (ax_compN (i := 7) (own := [("p", 8)]) (by rfl) sc__law_rests_right.nd (by rfl) (by rfl) (sw_true (by rfl) (by rfl) (by rfl) (by decide +kernel)) (de_name 4) (blkOk_by (by kernel_rfl)) (fun _ _ _ _ _ _ => (dx_name sc__law_rests_right.nd (by rfl) (Or.inl (by rfl)))) (fun _ _ _ _ _ _ => dts_nil) (fun _ _ _ _ _ _ => (de_name 8))))
    (dss_cons (ds_expr (de_meth PySem.F.plainAttrs_list PySem.F.slot_list_append PySem.F.type_list_append ok_append (de_name 4) (da_cons de_int da_nil)))
    (dss_cons (ds_asg (de_name 0) (dg_sub (de_name 5) de_int))
    (dss_cons (ds_expr (de_meth PySem.F.plainAttrs_list PySem.F.slot_list_append PySem.F.type_list_append ok_append (de_name 6) (da_cons (de_name 0) da_nil)))
    (dss_one (ds_ret (de_and (de_cmp (ok_eq hu) (de_name 3) (de_name 1)) (de_one (de_fn F__law_same hr (by decide) (by rfl) (by rfl) tk (da_cons (de_fn F_rest_of hr (by decide) (by rfl) (by rfl) tk (da_cons (de_name 0) (da_cons (de_name 3) da_nil))) (da_cons (de_name 7) da_nil)))))))))))))))))))
theorem sc_law : FnScope ["script", "pool", "turn", "n", "s", "t", "u"] ["script"] (defScope s_law) := ⟨rfl, rfl, rfl, by decide +kernel, rfl, by decide +kernel, by decide +kernel⟩
theorem ok_law {f : Addr} {fd : FuncData} (D : FunD K "law" "law" (defArgs s_law) (defBody s_law) (defScope s_law) [] [] f fd) (G : Glb mg) (F__law_climb_right : FnAt P w K mg base 7 "_law_climb_right" ["pool", "n", "s"] 3 f__law_climb_right) (F__law_partner : FnAt P w K mg base 4 "_law_partner" ["pool", "s"] 2 f__law_partner) (F__law_product_right : FnAt P w K mg base 7 "_law_product_right" ["n", "s", "t"] 3 f__law_product_right) (F__law_rests_right : FnAt P w K mg base 7 "_law_rests_right" ["n", "s"] 2 f__law_rests_right) (F__law_simple : FnAt P w K mg base 3 "_law_simple" ["pool", "n"] 2 f__law_simple) (F__law_strands : FnAt P w K mg base 2 "_law_strands" ["pool"] 1 f__law_strands) (F__law_stream : FnAt P w K mg base 2 "_law_stream" ["script"] 1 f__law_stream) : FnOk P w K mg base (L2.CX P w) 8 f fd ["script"] (spF mg 1 f_law) := by
  refine fn_mirror (fixed := [0]) D sc_law (by decide) (by decide) fun cdv A outer s H n E hr => ?_
  have hu := hr.units
  have hu5 := units65 hr
  have hp := passes_of (X := cxOf (L2.CX P w) P w K mg base ["script", "pool", "turn", "n", "s", "t", "u"] "law" (defScope s_law) f cdv A outer s H E) rfl
  have tk := takes_of (X := cxOf (L2.CX P w) P w K mg base ["script", "pool", "turn", "n", "s", "t", "u"] "law" (defScope s_law) f cdv A outer s H E) (E := E) rfl rfl rfl rfl
  exact (dss_cons (dx_own (asg_of (i := 1) (de_fn F__law_stream hr (by decide) (by rfl) (by rfl) tk (da_cons (de_name 0) da_nil)) sc_law.nd (by rfl) (Or.inl (by rfl))))
    (dss_cons (ds_for hp (by rfl) (di_r1 (by rfl) G.n_range (da_cons de_int da_nil)) (dx_name sc_law.nd (by rfl) (Or.inl (by rfl))) (dss_cons (dx_set (asg_of (i := 3) (de_fn F__law_strands hr (by decide) (by rfl) (by rfl) tk (da_cons (de_name 1) da_nil)) sc_law.nd (by rfl) (Or.inl (by rfl))))
    (dss_cons (dx_set (asg_of (i := 4) (de_fn F__law_simple hr (by decide) (by rfl) (by rfl) tk (da_cons (de_name 1) (da_cons (de_name 3) da_nil))) sc_law.nd (by rfl) (Or.inl (by rfl))))
    (dss_cons (dx_set (asg_of (i := 5) (de_fn F__law_partner hr (by decide) (by rfl) (by rfl) tk (da_cons (de_name 1) (da_cons (de_name 4) da_nil))) sc_law.nd (by rfl) (Or.inl (by rfl))))
    (dss_cons (dx_set (asg_of (i := 6) (de_fn F__law_partner hr (by decide) (by rfl) (by rfl) tk (da_cons (de_name 1) (da_cons (de_name 5) da_nil))) sc_law.nd (by rfl) (Or.inl (by rfl))))
    (dss_cons (ds_if (dt_w (dw_or (dt_not (dt_val (de_fn F__law_product_right hr (by decide) (by rfl) (by rfl) tk (da_cons (de_name 3) (da_cons (de_name 4) (da_cons (de_name 5) da_nil)))))) (dw_or (dt_not (dt_val (de_fn F__law_product_right hr (by decide) (by rfl) (by rfl) tk (da_cons (de_name 3) (da_cons (de_name 5) (da_cons (de_name 6) da_nil)))))) (dw_or1 (dt_not (dt_val (de_fn F__law_product_right hr (by decide) (by rfl) (by rfl) tk (da_cons (de_name 3) (da_cons (de_name 4) (da_cons (de_name 5) da_nil)))))))))) (dss_one (ds_ret de_bl)) dss_nil)
    (dss_cons (ds_if (dt_w (dw_or (dt_not (dt_val (de_fn F__law_product_right hr (by decide) (by rfl) (by rfl) tk (da_cons (de_name 3) (da_cons (de_name 4) (da_cons (de_name 4) da_nil)))))) (dw_or (dt_not (dt_val (de_fn F__law_rests_right hr (by decide) (by rfl) (by rfl) tk (da_cons (de_name 3) (da_cons (de_name 4) da_nil))))) (dw_or1 (dt_not (dt_val (de_fn F__law_rests_right hr (by decide) (by rfl) (by rfl) tk (da_cons (de_name 3) (da_cons (de_name 5) da_nil))))))))) (dss_one (ds_ret de_bl)) dss_nil)
    (dss_one (ds_if (dt_not (dt_val (de_fn F__law_climb_right hr (by decide) (by rfl) (by rfl) tk (da_cons (de_name 1) (da_cons (de_name 3) (da_cons (de_name 4) da_nil)))))) (dss_one (ds_ret de_bl)) dss_nil)))))))))
    (dss_one (ds_ret de_bl))))
end
def fn : List He.DefD := [mkD "_law_pool" s__law_pool, mkD "_law_stream" s__law_stream, mkD "_law_pick" s__law_pick, mkD "_law_strands" s__law_strands, mkD "_law_shuffled" s__law_shuffled, mkD "_law_simple" s__law_simple, mkD "_law_simple_word" s__law_simple_word, mkD "_law_turning" s__law_turning, mkD "_law_composed" s__law_composed, mkD "_law_letter" s__law_letter, mkD "_law_backward" s__law_backward, mkD "_law_partner" s__law_partner, mkD "_law_same" s__law_same, mkD "is_number" s_is_number, mkD "check_strands" s_check_strands, mkD "is_place" s_is_place, mkD "check_turning" s_check_turning, mkD "check_simples" s_check_simples, mkD "composed" s_composed, mkD "crossings" s_crossings, mkD "then_simple" s_then_simple, mkD "_law_climb_right" s__law_climb_right, mkD "_law_crossings" s__law_crossings, mkD "_law_product_right" s__law_product_right, mkD "opposite" s_opposite, mkD "backward" s_backward, mkD "rest" s_rest, mkD "rest_of" s_rest_of, mkD "rest_ahead" s_rest_ahead, mkD "fore_rest" s_fore_rest, mkD "about" s_about, mkD "turned_simple" s_turned_simple, mkD "_law_whole" s__law_whole, mkD "_law_is_turning" s__law_is_turning, mkD "_law_rests_right" s__law_rests_right, mkD "law" s_law]
def fa : List He.Fa := ([.glo "_law_pool", .glo "_law_stream", .glo "_law_pick", .glo "_law_strands", .glo "_law_shuffled", .glo "_law_simple", .glo "_law_simple_word", .glo "_law_turning", .glo "_law_composed", .glo "_law_letter", .glo "_law_backward", .glo "_law_partner", .glo "_law_same", .glo "is_number", .glo "check_strands", .glo "is_place", .glo "check_turning", .glo "check_simples", .glo "composed", .glo "crossings", .glo "then_simple", .glo "_law_climb_right", .glo "_law_crossings", .glo "_law_product_right", .glo "opposite", .glo "backward", .glo "rest", .glo "rest_of", .glo "rest_ahead", .glo "fore_rest"] : List He.Fa) ++ ([.glo "about", .glo "turned_simple", .glo "_law_whole", .glo "_law_is_turning", .glo "_law_rests_right", .glo "law", .free "abs", .free "all", .free "bool", .free "enumerate", .free "int", .free "isinstance", .free "len", .free "list", .free "range", .free "sorted", .free "str", .free "sum", .free "tuple", .int "MOST_STRANDS" (8)] : List He.Fa)
theorem facts {P : Program} {w : World} {K : PySem.W.Frag} {h : Heap} {mg : Str → Option Value} (KX : K.In h) (NS : h.Ns mainGlobals mg) (c : He.SaysD fa fn K) : ∃ f fd, mg "law" = some (.ref f) ∧ (∀ (s : Shared) (v : Value), BindsTo s fd ⟨[v], []⟩ [("script", v)]) ∧
    ∀ base : Heap, K.In base → base.Ns mainGlobals mg → FnOk P w K mg base (L2.CX P w) 8 f fd ["script"] (spF mg 1 f_law) := by
  have G : Glb mg := ⟨He.free_ok KX NS (c.fact 36 rfl), He.free_ok KX NS (c.fact 37 rfl), He.free_ok KX NS (c.fact 38 rfl), He.free_ok KX NS (c.fact 39 rfl), He.free_ok KX NS (c.fact 40 rfl), He.free_ok KX NS (c.fact 41 rfl), He.free_ok KX NS (c.fact 42 rfl), He.free_ok KX NS (c.fact 43 rfl), He.free_ok KX NS (c.fact 44 rfl), He.free_ok KX NS (c.fact 45 rfl), He.free_ok KX NS (c.fact 46 rfl), He.free_ok KX NS (c.fact 47 rfl), He.free_ok KX NS (c.fact 48 rfl), He.int_ok KX NS (c.fact 49 rfl)⟩
  have D__law_pool : DefAt K mg "_law_pool" ["script"] s__law_pool := def_at KX NS c 0 rfl 0 rfl (fun _ _ _ _ _ _ us hl => match us, hl with | [_], _ => rfl)
  have D__law_stream : DefAt K mg "_law_stream" ["script"] s__law_stream := def_at KX NS c 1 rfl 1 rfl (fun _ _ _ _ _ _ us hl => match us, hl with | [_], _ => rfl)
  have D__law_pick : DefAt K mg "_law_pick" ["pool", "many"] s__law_pick := def_at KX NS c 2 rfl 2 rfl (fun _ _ _ _ _ _ us hl => match us, hl with | [_, _], _ => rfl)
  have D__law_strands : DefAt K mg "_law_strands" ["pool"] s__law_strands := def_at KX NS c 3 rfl 3 rfl (fun _ _ _ _ _ _ us hl => match us, hl with | [_], _ => rfl)
  have D__law_shuffled : DefAt K mg "_law_shuffled" ["pool", "n"] s__law_shuffled := def_at KX NS c 4 rfl 4 rfl (fun _ _ _ _ _ _ us hl => match us, hl with | [_, _], _ => rfl)
  have D__law_simple : DefAt K mg "_law_simple" ["pool", "n"] s__law_simple := def_at KX NS c 5 rfl 5 rfl (fun _ _ _ _ _ _ us hl => match us, hl with | [_, _], _ => rfl)
  have D__law_simple_word : DefAt K mg "_law_simple_word" ["s"] s__law_simple_word := def_at KX NS c 6 rfl 6 rfl (fun _ _ _ _ _ _ us hl => match us, hl with | [_], _ => rfl)
  have D__law_turning : DefAt K mg "_law_turning" ["n", "word"] s__law_turning := def_at KX NS c 7 rfl 7 rfl (fun _ _ _ _ _ _ us hl => match us, hl with | [_, _], _ => rfl)
  have D__law_composed : DefAt K mg "_law_composed" ["s", "t"] s__law_composed := def_at KX NS c 8 rfl 8 rfl (fun _ _ _ _ _ _ us hl => match us, hl with | [_, _], _ => rfl)
  have D__law_letter : DefAt K mg "_law_letter" ["n", "i"] s__law_letter := def_at KX NS c 9 rfl 9 rfl (fun _ _ _ _ _ _ us hl => match us, hl with | [_, _], _ => rfl)
  have D__law_backward : DefAt K mg "_law_backward" ["s"] s__law_backward := def_at KX NS c 10 rfl 10 rfl (fun _ _ _ _ _ _ us hl => match us, hl with | [_], _ => rfl)
  have D__law_partner : DefAt K mg "_law_partner" ["pool", "s"] s__law_partner := def_at KX NS c 11 rfl 11 rfl (fun _ _ _ _ _ _ us hl => match us, hl with | [_, _], _ => rfl)
  have D__law_same : DefAt K mg "_law_same" ["value", "due"] s__law_same := def_at KX NS c 12 rfl 12 rfl (fun _ _ _ _ _ _ us hl => match us, hl with | [_, _], _ => rfl)
  have D_is_number : DefAt K mg "is_number" ["value"] s_is_number := def_at KX NS c 13 rfl 13 rfl (fun _ _ _ _ _ _ us hl => match us, hl with | [_], _ => rfl)
  have D_check_strands : DefAt K mg "check_strands" ["n"] s_check_strands := def_at KX NS c 14 rfl 14 rfl (fun _ _ _ _ _ _ us hl => match us, hl with | [_], _ => rfl)
  have D_is_place : DefAt K mg "is_place" ["n", "value"] s_is_place := def_at KX NS c 15 rfl 15 rfl (fun _ _ _ _ _ _ us hl => match us, hl with | [_, _], _ => rfl)
  have D_check_turning : DefAt K mg "check_turning" ["n", "s"] s_check_turning := def_at KX NS c 16 rfl 16 rfl (fun _ _ _ _ _ _ us hl => match us, hl with | [_, _], _ => rfl)
  have D_check_simples : DefAt K mg "check_simples" ["n", "simples"] s_check_simples := def_at KX NS c 17 rfl 17 rfl (fun _ _ _ _ _ _ us hl => match us, hl with | [_, _], _ => rfl)
  have D_composed : DefAt K mg "composed" ["s", "t"] s_composed := def_at KX NS c 18 rfl 18 rfl (fun _ _ _ _ _ _ us hl => match us, hl with | [_, _], _ => rfl)
  have D_crossings : DefAt K mg "crossings" ["s"] s_crossings := def_at KX NS c 19 rfl 19 rfl (fun _ _ _ _ _ _ us hl => match us, hl with | [_], _ => rfl)
  have D_then_simple : DefAt K mg "then_simple" ["n", "s", "t"] s_then_simple := def_at KX NS c 20 rfl 20 rfl (fun _ _ _ _ _ _ us hl => match us, hl with | [_, _, _], _ => rfl)
  have D__law_climb_right : DefAt K mg "_law_climb_right" ["pool", "n", "s"] s__law_climb_right := def_at KX NS c 21 rfl 21 rfl (fun _ _ _ _ _ _ us hl => match us, hl with | [_, _, _], _ => rfl)
  have D__law_crossings : DefAt K mg "_law_crossings" ["s"] s__law_crossings := def_at KX NS c 22 rfl 22 rfl (fun _ _ _ _ _ _ us hl => match us, hl with | [_], _ => rfl)
  have D__law_product_right : DefAt K mg "_law_product_right" ["n", "s", "t"] s__law_product_right := def_at KX NS c 23 rfl 23 rfl (fun _ _ _ _ _ _ us hl => match us, hl with | [_, _, _], _ => rfl)
  have D_opposite : DefAt K mg "opposite" ["s"] s_opposite := def_at KX NS c 24 rfl 24 rfl (fun _ _ _ _ _ _ us hl => match us, hl with | [_], _ => rfl)
  have D_backward : DefAt K mg "backward" ["s"] s_backward := def_at KX NS c 25 rfl 25 rfl (fun _ _ _ _ _ _ us hl => match us, hl with | [_], _ => rfl)
  have D_rest : DefAt K mg "rest" ["s"] s_rest := def_at KX NS c 26 rfl 26 rfl (fun _ _ _ _ _ _ us hl => match us, hl with | [_], _ => rfl)
  have D_rest_of : DefAt K mg "rest_of" ["n", "s"] s_rest_of := def_at KX NS c 27 rfl 27 rfl (fun _ _ _ _ _ _ us hl => match us, hl with | [_, _], _ => rfl)
  have D_rest_ahead : DefAt K mg "rest_ahead" ["s"] s_rest_ahead := def_at KX NS c 28 rfl 28 rfl (fun _ _ _ _ _ _ us hl => match us, hl with | [_], _ => rfl)
  have D_fore_rest : DefAt K mg "fore_rest" ["n", "s"] s_fore_rest := def_at KX NS c 29 rfl 29 rfl (fun _ _ _ _ _ _ us hl => match us, hl with | [_, _], _ => rfl)
  have D_about : DefAt K mg "about" ["s"] s_about := def_at KX NS c 30 rfl 30 rfl (fun _ _ _ _ _ _ us hl => match us, hl with | [_], _ => rfl)
  have D_turned_simple : DefAt K mg "turned_simple" ["n", "s"] s_turned_simple := def_at KX NS c 31 rfl 31 rfl (fun _ _ _ _ _ _ us hl => match us, hl with | [_, _], _ => rfl)
  have D__law_whole : DefAt K mg "_law_whole" ["value"] s__law_whole := def_at KX NS c 32 rfl 32 rfl (fun _ _ _ _ _ _ us hl => match us, hl with | [_], _ => rfl)
  have D__law_is_turning : DefAt K mg "_law_is_turning" ["n", "value"] s__law_is_turning := def_at KX NS c 33 rfl 33 rfl (fun _ _ _ _ _ _ us hl => match us, hl with | [_, _], _ => rfl)
  have D__law_rests_right : DefAt K mg "_law_rests_right" ["n", "s"] s__law_rests_right := def_at KX NS c 34 rfl 34 rfl (fun _ _ _ _ _ _ us hl => match us, hl with | [_, _], _ => rfl)
  obtain ⟨f, fd, F, hf, hbind⟩ := law_at (ps := ["script"]) (st := s_law) (x := "law") KX NS c 35 rfl 35 rfl (fun _ _ _ _ _ _ us hl => match us, hl with | [_], _ => rfl)
  refine ⟨f, fd, hf, fun s v => hbind s [v] rfl, fun base _ _ => ?_⟩
  have F__law_pool : FnAt P w K mg base 1 "_law_pool" ["script"] 1 f__law_pool := ok__law_pool D__law_pool G 
  have F__law_stream : FnAt P w K mg base 2 "_law_stream" ["script"] 1 f__law_stream := ok__law_stream D__law_stream G F__law_pool
  have F__law_pick : FnAt P w K mg base 1 "_law_pick" ["pool", "many"] 2 f__law_pick := ok__law_pick D__law_pick G 
  have F__law_strands : FnAt P w K mg base 2 "_law_strands" ["pool"] 1 f__law_strands := ok__law_strands D__law_strands G F__law_pick
  have F__law_shuffled : FnAt P w K mg base 2 "_law_shuffled" ["pool", "n"] 2 f__law_shuffled := ok__law_shuffled D__law_shuffled G F__law_pick
  have F__law_simple : FnAt P w K mg base 3 "_law_simple" ["pool", "n"] 2 f__law_simple := ok__law_simple D__law_simple G F__law_pick F__law_shuffled
  have F__law_simple_word : FnAt P w K mg base 1 "_law_simple_word" ["s"] 1 f__law_simple_word := ok__law_simple_word D__law_simple_word G 
  have F__law_turning : FnAt P w K mg base 1 "_law_turning" ["n", "word"] 2 f__law_turning := ok__law_turning D__law_turning G 
  have F__law_composed : FnAt P w K mg base 1 "_law_composed" ["s", "t"] 2 f__law_composed := ok__law_composed D__law_composed G 
  have F__law_letter : FnAt P w K mg base 1 "_law_letter" ["n", "i"] 2 f__law_letter := ok__law_letter D__law_letter G 
  have F__law_backward : FnAt P w K mg base 1 "_law_backward" ["s"] 1 f__law_backward := ok__law_backward D__law_backward G 
  have F__law_partner : FnAt P w K mg base 4 "_law_partner" ["pool", "s"] 2 f__law_partner := ok__law_partner D__law_partner G F__law_backward F__law_composed F__law_letter F__law_pick F__law_simple F__law_simple_word F__law_turning
  have F__law_same : FnAt P w K mg base 6 "_law_same" ["value", "due"] 2 f__law_same := ok__law_same D__law_same G 
  have F_is_number : FnAt P w K mg base 1 "is_number" ["value"] 1 f_is_number := ok_is_number D_is_number G 
  have F_check_strands : FnAt P w K mg base 2 "check_strands" ["n"] 1 f_check_strands := ok_check_strands D_check_strands G F_is_number
  have F_is_place : FnAt P w K mg base 2 "is_place" ["n", "value"] 2 f_is_place := ok_is_place D_is_place G F_is_number
  have F_check_turning : FnAt P w K mg base 3 "check_turning" ["n", "s"] 2 f_check_turning := ok_check_turning D_check_turning G F_is_place
  have F_check_simples : FnAt P w K mg base 4 "check_simples" ["n", "simples"] 2 f_check_simples := ok_check_simples D_check_simples G F_check_strands F_check_turning
  have F_composed : FnAt P w K mg base 1 "composed" ["s", "t"] 2 f_composed := ok_composed D_composed G 
  have F_crossings : FnAt P w K mg base 1 "crossings" ["s"] 1 f_crossings := ok_crossings D_crossings G 
  have F_then_simple : FnAt P w K mg base 5 "then_simple" ["n", "s", "t"] 3 f_then_simple := ok_then_simple D_then_simple G F_check_simples F_composed F_crossings
  have F__law_climb_right : FnAt P w K mg base 7 "_law_climb_right" ["pool", "n", "s"] 3 f__law_climb_right := ok__law_climb_right D__law_climb_right G F__law_backward F__law_composed F__law_letter F__law_pick F__law_same F_then_simple
  have F__law_crossings : FnAt P w K mg base 1 "_law_crossings" ["s"] 1 f__law_crossings := ok__law_crossings D__law_crossings G 
  have F__law_product_right : FnAt P w K mg base 7 "_law_product_right" ["n", "s", "t"] 3 f__law_product_right := ok__law_product_right D__law_product_right G F__law_composed F__law_crossings F__law_same F_then_simple
  have F_opposite : FnAt P w K mg base 1 "opposite" ["s"] 1 f_opposite := ok_opposite D_opposite G 
  have F_backward : FnAt P w K mg base 1 "backward" ["s"] 1 f_backward := ok_backward D_backward G 
  have F_rest : FnAt P w K mg base 2 "rest" ["s"] 1 f_rest := ok_rest D_rest G F_backward F_opposite
  have F_rest_of : FnAt P w K mg base 5 "rest_of" ["n", "s"] 2 f_rest_of := ok_rest_of D_rest_of G F_check_simples F_rest
  have F_rest_ahead : FnAt P w K mg base 2 "rest_ahead" ["s"] 1 f_rest_ahead := ok_rest_ahead D_rest_ahead G F_backward
  have F_fore_rest : FnAt P w K mg base 5 "fore_rest" ["n", "s"] 2 f_fore_rest := ok_fore_rest D_fore_rest G F_check_simples F_rest_ahead
  have F_about : FnAt P w K mg base 2 "about" ["s"] 1 f_about := ok_about D_about G F_opposite
  have F_turned_simple : FnAt P w K mg base 5 "turned_simple" ["n", "s"] 2 f_turned_simple := ok_turned_simple D_turned_simple G F_about F_check_simples
  have F__law_whole : FnAt P w K mg base 1 "_law_whole" ["value"] 1 f__law_whole := ok__law_whole D__law_whole G 
  have F__law_is_turning : FnAt P w K mg base 2 "_law_is_turning" ["n", "value"] 2 f__law_is_turning := ok__law_is_turning D__law_is_turning G F__law_whole
  have F__law_rests_right : FnAt P w K mg base 7 "_law_rests_right" ["n", "s"] 2 f__law_rests_right := ok__law_rests_right D__law_rests_right G F__law_composed F__law_is_turning F__law_same F_fore_rest F_rest_of F_then_simple F_turned_simple
  exact ok_law F G F__law_climb_right F__law_partner F__law_product_right F__law_rests_right F__law_simple F__law_strands F__law_stream
abbrev RR : PySem.W.OpenRow := PySem.W.OpenLaw.row PySem.Challenge.rw_braidyard_k14_whole_products_and_rests
abbrev hk : PySem.W.Hook := hookE 5 fa fn
def ob (s : PySem.W.SharedT) : He.AlD := obsEG 5 fa fn (HandSHeadRun.getT s)
theorem ob_eq (s : PySem.W.SharedT) : ob s = hk.obs s.abs := obsEG_eq (HandSHeadRun.getT_eq s)
def loose : List PySem.Str := (["BraidError", "BadStrands", "BadTurning", "MOST_STRANDS", "is_number", "check_strands", "is_place", "check_turning", "check_simples", "backward", "composed", "crossings", "opposite", "rest", "rest_ahead", "about", "then_simple", "rest_of", "fore_rest", "turned_simple", "_law_pool", "_law_stream", "_law_pick", "_law_turning", "_law_simple_word", "_law_whole", "_law_same", "_law_strands", "_law_shuffled", "_law_simple"] : List PySem.Str) ++ (["_law_backward", "_law_composed", "_law_crossings", "_law_letter", "_law_is_turning", "_law_partner", "_law_product_right", "_law_rests_right", "_law_climb_right"] : List PySem.Str)
theorem run (w : World) : HandSHeadRun.RunEq RR (PySem.W.view RR.prog [43]) hk ob 6000 loose w := by
  intro os
  kernel_rfl
end Wlk
open PySem PySem.W PySem.Calls PyProof.Rows
set_option maxRecDepth 100000 in
set_option maxHeartbeats 0 in
theorem PySem.Challenge.cw_braidyard_k14_whole_products_and_rests_holds : PySem.Challenge.rw_braidyard_k14_whole_products_and_rests.Holds := by
  w_on; o_law
  refine HandSHeadRun.head_any (r := OpenLaw.row PySem.Challenge.rw_braidyard_k14_whole_products_and_rests) (q := view (OpenLaw.row PySem.Challenge.rw_braidyard_k14_whole_products_and_rests).prog [43]) (H := Wlk.hk) (ob := Wlk.ob) (M := 6000) (loose := Wlk.loose) (d := HandSHeadRun.topDef (OpenLaw.row PySem.Challenge.rw_braidyard_k14_whole_products_and_rests).prog 43) (kwd := []) Wlk.ob_eq
    (by kernel_rfl) (fun s => by kernel_rfl) Wlk.run (by kernel_rfl) (by kernel_rfl) (by kernel_rfl) (by rfl) (by first | assumption | decide +kernel) (by decide +kernel) ⟨rfl, rfl, rfl, rfl, rfl, by decide +kernel⟩ ?hw ?hc
  case hw => w_witness2
  case hc => exact DL.law_end (l := PySem.Challenge.rw_braidyard_k14_whole_products_and_rests) (k := 8) rfl (by kernel_rfl) ⟨rfl, by decide, by decide⟩ (by kernel_rfl) (fun w K mg h KX NS c => Wlk.facts KX NS c) Law.law_true
