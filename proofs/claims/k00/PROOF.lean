import PyProof.Rows.All
import Wide.All
import OpenK.AllK
import Wide.FinOn
import HandS.ForMost
import HandS.ForExc
import HandS.Deep
import HandS.Flow
import HandS.TryMany
import HandS.CallSlots
import HandS.TupAny
import HandS.TupMul
import HandS.Style
import HandS.Wide
import HandS.ExcSuper
import KE.KExcInit
import KE.KExcSuper
import HandS.ExcField
import HandS.Head0
import HandS.Head1
import HandS.Head2
import HandS.HeadEnd
import HandS.HeadHook1
import HandS.HeadHook2
import HandS.EndBits
import PySem.Challenge.RW_foldsall_k00_whole_errors_and_what_they
set_option Elab.async false
set_option linter.all false
set_option maxRecDepth 100000
set_option maxHeartbeats 0
/-! F1: data trees over the abstract heap, the state of a def (names that hold data, lists of its own, the box), readings that are total functions. -/
namespace Fs
open L2 PyProof.Rows PySem.Spec PySem

abbrev D := PyData
abbrev Own := Addr → Prop

/-! ### data at a value -/
def WrT (K : PySem.W.Frag) (a : Addr) (xs : List V) : Prop := SqT K (fun _ => none) a xs
theorem WrT.sq {K : PySem.W.Frag} {a : Addr} {xs : List V} (h : WrT K a xs) (H : Hp) : SqT K H a xs := by
  rcases h with (h | ⟨_, h⟩) | h
  · cases h
  · cases h
  · exact .inr h
/-- a list that is nobody's own -/
def TL (K : PySem.W.Frag) (O : Own) (H : Hp) (a : Addr) (xs : List V) : Prop := Rd H a (.lst xs) ∧ ¬ O a
def TU (K : PySem.W.Frag) (O : Own) (H : Hp) (a : Addr) (xs : List V) : Prop := (Rd H a (.tup xs) ∧ ¬ O a) ∨ WrT K a xs
theorem TL.sq {K : PySem.W.Frag} {O : Own} {H : Hp} {a : Addr} {xs : List V} (h : TL K O H a xs) : SqL K H a xs := .inl h.1
theorem TU.sq {K : PySem.W.Frag} {O : Own} {H : Hp} {a : Addr} {xs : List V} (h : TU K O H a xs) : SqT K H a xs := by
  rcases h with h | h
  · exact .inl h.1
  · exact h.sq H
mutual
inductive RD (K : PySem.W.Frag) (O : Own) (H : Hp) : D → V → Prop
  | non : RD K O H .none .non
  | bl (b : Bool) : RD K O H (.bool b) (.bl b)
  | int (i : Int) : RD K O H (.int i) (.int i)
  | str (x : Str) : RD K O H (.str x) (.str x)
  | lst {a : Addr} {xs : List V} {ds : List D} : TL K O H a xs → RDs K O H ds xs → RD K O H (.list ds) (.ref a)
  | tup {a : Addr} {xs : List V} {ds : List D} : TU K O H a xs → RDs K O H ds xs → RD K O H (.tuple ds) (.ref a)
inductive RDs (K : PySem.W.Frag) (O : Own) (H : Hp) : List D → List V → Prop
  | nil : RDs K O H [] []
  | cons {d : D} {v : V} {ds : List D} {vs : List V} : RD K O H d v → RDs K O H ds vs → RDs K O H (d :: ds) (v :: vs)
end
/-- what O does not own is kept -/
def Keep (O : Own) (H H' : Hp) : Prop := ∀ a u, H a = some u → ¬ O a → H' a = some u
abbrev nobody : Own := fun _ => False
theorem Keep.refl (O : Own) (H : Hp) : Keep O H H := fun _ _ h _ => h
theorem Keep.trans {O : Own} {H H1 H2 : Hp} (a : Keep O H H1) (b : Keep O H1 H2) : Keep O H H2 := fun c u h n => b c u (a c u h n) n
theorem Keep.mono {O O' : Own} {H H' : Hp} (a : Keep O H H') (h : ∀ a, O a → O' a) : Keep O' H H' := fun c u e n => a c u e fun z => n (h c z)
theorem Keep.of0 {O : Own} {H H' : Hp} (a : Keep nobody H H') : Keep O H H' := a.mono fun _ z => z.elim
theorem Keep.upd {O : Own} {H : Hp} {p : Addr} {o : HO} (h : H p = none) : Keep O H (upd H p o) := fun a u e _ => by
  rw [upd_ne (ne_of_none e h)]
  exact e
theorem Rd.keep {O : Own} {H H' : Hp} {a : Addr} {u : HO} (h : Rd H a u) (n : ¬ O a) (k : Keep O H H') : Rd H' a u := by
  rcases h with h | ⟨o, h⟩
  · exact .inl (k _ _ h n)
  · exact .inr ⟨o, k _ _ h n⟩
theorem rd_some {H : Hp} {a : Addr} {u : HO} (h : Rd H a u) : ∃ o, H a = some o := by
  rcases h with h | ⟨o, h⟩
  · exact ⟨_, h⟩
  · exact ⟨_, h⟩
section
variable {K : PySem.W.Frag} {O O' : Own} {H H' : Hp}
theorem TL.keep {a : Addr} {xs : List V} (h : TL K O H a xs) (k : Keep O H H') : TL K O H' a xs := ⟨Rd.keep h.1 h.2 k, h.2⟩
theorem TU.keep {a : Addr} {xs : List V} (h : TU K O H a xs) (k : Keep O H H') : TU K O H' a xs := by
  rcases h with ⟨h, n⟩ | h
  · exact .inl ⟨Rd.keep h n k, n⟩
  · exact .inr h
theorem TL.own {a : Addr} {xs : List V} (h : TL K O H a xs) (k : ∀ a u, H a = some u → O' a → O a) : TL K O' H a xs := by
  obtain ⟨o, e⟩ := rd_some h.1
  exact ⟨h.1, fun z => h.2 (k a o e z)⟩
theorem TU.own {a : Addr} {xs : List V} (h : TU K O H a xs) (k : ∀ a u, H a = some u → O' a → O a) : TU K O' H a xs := by
  rcases h with ⟨h, n⟩ | h
  · obtain ⟨o, e⟩ := rd_some h
    exact .inl ⟨h, fun z => n (k a o e z)⟩
  · exact .inr h
mutual
theorem RD.keep (k : Keep O H H') : ∀ (d : D) (v : V), RD K O H d v → RD K O H' d v
  | .none, _, h => by cases h; exact .non
  | .bool b, _, h => by cases h; exact .bl b
  | .int i, _, h => by cases h; exact .int i
  | .str x, _, h => by cases h; exact .str x
  | .list ds, _, h => by
    cases h with
    | lst a b => exact .lst (a.keep k) (RDs.keep k ds _ b)
  | .tuple ds, _, h => by
    cases h with
    | tup a b => exact .tup (a.keep k) (RDs.keep k ds _ b)
  | .dict _, _, h => by cases h
theorem RDs.keep (k : Keep O H H') : ∀ (ds : List D) (vs : List V), RDs K O H ds vs → RDs K O H' ds vs
  | [], _, h => by cases h; exact .nil
  | d :: ds, _, h => by
    cases h with
    | cons a b => exact .cons (RD.keep k d _ a) (RDs.keep k ds _ b)
end
mutual
theorem RD.own (k : ∀ a u, H a = some u → O' a → O a) : ∀ (d : D) (v : V), RD K O H d v → RD K O' H d v
  | .none, _, h => by cases h; exact .non
  | .bool b, _, h => by cases h; exact .bl b
  | .int i, _, h => by cases h; exact .int i
  | .str x, _, h => by cases h; exact .str x
  | .list ds, _, h => by
    cases h with
    | lst a b => exact .lst (a.own k) (RDs.own k ds _ b)
  | .tuple ds, _, h => by
    cases h with
    | tup a b => exact .tup (a.own k) (RDs.own k ds _ b)
  | .dict _, _, h => by cases h
theorem RDs.own (k : ∀ a u, H a = some u → O' a → O a) : ∀ (ds : List D) (vs : List V), RDs K O H ds vs → RDs K O' H ds vs
  | [], _, h => by cases h; exact .nil
  | d :: ds, _, h => by
    cases h with
    | cons a b => exact .cons (RD.own k d _ a) (RDs.own k ds _ b)
end
mutual
theorem RD.dp : ∀ (d : D) (v : V), RD K O H d v → Dp K H v d
  | .none, _, h => by cases h; exact .non
  | .bool b, _, h => by cases h; exact .bl b
  | .int i, _, h => by cases h; exact .int i
  | .str x, _, h => by cases h; exact .str x
  | .list ds, _, h => by
    cases h with
    | lst a b => exact .lst a.sq (RDs.dp ds _ b)
  | .tuple ds, _, h => by
    cases h with
    | tup a b => exact .tup a.sq (RDs.dp ds _ b)
  | .dict _, _, h => by cases h
theorem RDs.dp : ∀ (ds : List D) (vs : List V), RDs K O H ds vs → DpAll K H vs ds
  | [], _, h => by cases h; exact .nil
  | d :: ds, _, h => by
    cases h with
    | cons a b => exact .cons (RD.dp d _ a) (RDs.dp ds _ b)
end
/- no list within -/
mutual
def noL : D → Bool
  | .list _ => false
  | .tuple ds => noLs ds
  | _ => true
def noLs : List D → Bool
  | [] => true
  | d :: ds => noL d && noLs ds
end
mutual
theorem RD.noL (k : ∀ a, O' a → O a ∨ ∃ xs, Rd H a (.lst xs)) : ∀ (d : D) (v : V), noL d = true → RD K O H d v → RD K O' H d v
  | .none, _, _, h => by cases h; exact .non
  | .bool b, _, _, h => by cases h; exact .bl b
  | .int i, _, _, h => by cases h; exact .int i
  | .str x, _, _, h => by cases h; exact .str x
  | .list ds, _, n, _ => by cases n
  | .tuple ds, _, n, h => by
    cases h with
    | tup a b =>
      refine .tup ?_ (RDs.noL k ds _ n b)
      rcases a with ⟨a, na⟩ | a
      · refine .inl ⟨a, fun z => ?_⟩
        rcases k _ z with z | ⟨xs, z⟩
        · exact na z
        · rcases a with a | ⟨o, a⟩ <;> rcases z with z | ⟨o', z⟩ <;> (rw [a] at z; cases z)
      · exact .inr a
  | .dict _, _, _, h => by cases h
theorem RDs.noL (k : ∀ a, O' a → O a ∨ ∃ xs, Rd H a (.lst xs)) : ∀ (ds : List D) (vs : List V), noLs ds = true → RDs K O H ds vs → RDs K O' H ds vs
  | [], _, _, h => by cases h; exact .nil
  | d :: ds, _, n, h => by
    cases h with
    | cons a b =>
      have n' : Fs.noL d = true ∧ noLs ds = true := by simpa [noLs] using n
      exact .cons (RD.noL k d _ n'.1 a) (RDs.noL k ds _ n'.2 b)
end
theorem RDs.length : ∀ {ds : List D} {vs : List V}, RDs K O H ds vs → ds.length = vs.length
  | [], _, h => by cases h; rfl
  | _ :: _, _, h => by
    cases h with
    | cons _ b => simp [RDs.length b]
theorem RDs.get : ∀ {ds : List D} {vs : List V} {i : Nat} {d : D}, RDs K O H ds vs → ds[i]? = some d → ∃ v, vs[i]? = some v ∧ RD K O H d v
  | [], _, _, _, h, e => by simp at e
  | _ :: _, _, 0, _, h, e => by
    cases h with
    | cons a b => simp at e; subst e; exact ⟨_, rfl, a⟩
  | _ :: _, _, i + 1, _, h, e => by
    cases h with
    | cons a b =>
      obtain ⟨v, h1, h2⟩ := RDs.get (i := i) b (by simpa using e)
      exact ⟨v, by simpa using h1, h2⟩
theorem RDs.append : ∀ {ds es : List D} {vs ws : List V}, RDs K O H ds vs → RDs K O H es ws → RDs K O H (ds ++ es) (vs ++ ws)
  | [], _, _, _, h, g => by cases h; exact g
  | _ :: _, _, _, _, h, g => by
    cases h with
    | cons a b => exact .cons a (RDs.append b g)
theorem RDs.take : ∀ {ds : List D} {vs : List V} (n : Nat), RDs K O H ds vs → RDs K O H (ds.take n) (vs.take n)
  | _, _, 0, _ => by simp only [List.take_zero]; exact .nil
  | [], _, _ + 1, h => by cases h; exact .nil
  | _ :: _, _, n + 1, h => by
    cases h with
    | cons a b => exact .cons a (RDs.take n b)
theorem RDs.drop : ∀ {ds : List D} {vs : List V} (n : Nat), RDs K O H ds vs → RDs K O H (ds.drop n) (vs.drop n)
  | _, _, 0, h => h
  | [], _, _ + 1, h => by cases h; exact .nil
  | _ :: _, _, n + 1, h => by
    cases h with
    | cons a b => exact RDs.drop n b
theorem RDs.set : ∀ {ds : List D} {vs : List V} {d : D} {v : V} (n : Nat), RDs K O H ds vs → RD K O H d v → RDs K O H (ds.set n d) (vs.set n v)
  | [], _, _, _, _, h, _ => by cases h; exact .nil
  | _ :: _, _, _, _, 0, h, r => by
    cases h with
    | cons a b => exact .cons r b
  | _ :: _, _, _, _, n + 1, h, r => by
    cases h with
    | cons a b => exact .cons a (RDs.set n b r)
theorem RDs.reverse : ∀ {ds : List D} {vs : List V}, RDs K O H ds vs → RDs K O H ds.reverse vs.reverse
  | [], _, h => by cases h; exact .nil
  | d :: ds, _, h => by
    cases h with
    | cons a b =>
      rw [List.reverse_cons, List.reverse_cons]
      exact RDs.append (RDs.reverse b) (.cons a .nil)
theorem RDs.ints : ∀ {ns : List Int} {vs : List V}, RDs K O H (ns.map PyData.int) vs → vs = ns.map V.int
  | [], _, h => by cases h; rfl
  | n :: ns, _, h => by
    cases h with
    | cons a b => cases a; rw [RDs.ints b]; rfl
theorem RDs.bls : ∀ {ns : List Bool} {vs : List V}, RDs K O H (ns.map PyData.bool) vs → vs = ns.map V.bl
  | [], _, h => by cases h; rfl
  | n :: ns, _, h => by
    cases h with
    | cons a b => cases a; rw [RDs.bls b]; rfl
theorem RDs.of_ints : ∀ (ns : List Int), RDs K O H (ns.map PyData.int) (ns.map V.int)
  | [] => .nil
  | n :: ns => .cons (.int n) (RDs.of_ints ns)
/-- data, or a list that is somebody's own (not B's), whose items are data -/
def RW (K : PySem.W.Frag) (O B : Own) (H : Hp) (d : D) (v : V) : Prop :=
  RD K O H d v ∨ ∃ (ds : List D) (vs : List V) (a : Addr), d = .list ds ∧ v = .ref a ∧ TL K B H a vs ∧ RDs K O H ds vs
variable {B : Own}
theorem RW.rl {ds : List D} {v : V} (h : RW K O B H (.list ds) v) : ∃ a vs, v = .ref a ∧ Rd H a (.lst vs) ∧ RDs K O H ds vs := by
  rcases h with h | ⟨ds', vs, a, e, e2, h1, h2⟩
  · cases h with
    | lst a b => exact ⟨_, _, rfl, a.1, b⟩
  · cases e
    exact ⟨a, vs, e2, h1.1, h2⟩
theorem RW.lst {ds : List D} {v : V} (h : RW K O B H (.list ds) v) : ∃ a vs, v = .ref a ∧ SqL K H a vs ∧ RDs K O H ds vs := by
  obtain ⟨a, vs, e, r, q⟩ := h.rl
  exact ⟨a, vs, e, .inl r, q⟩
theorem RW.rd {d : D} {v : V} (h : RW K O B H d v) (n : ∀ ds, d ≠ .list ds) : RD K O H d v := by
  rcases h with h | ⟨ds', vs, a, e, e2, h1, h2⟩
  · exact h
  · exact absurd e (n ds')
theorem RW.tup {ds : List D} {v : V} (h : RW K O B H (.tuple ds) v) : ∃ a vs, v = .ref a ∧ SqT K H a vs ∧ RDs K O H ds vs := by
  cases h.rd (fun _ e => by cases e) with
  | tup a b => exact ⟨_, _, rfl, a.sq, b⟩
theorem RW.dp {d : D} {v : V} (h : RW K O B H d v) : Dp K H v d := by
  rcases h with h | ⟨ds, vs, a, e, e2, h1, h2⟩
  · exact h.dp
  · subst e e2
    exact .lst h1.sq h2.dp
theorem RW.int {i : Int} {v : V} (h : RW K O B H (.int i) v) : v = .int i := by
  cases h.rd (fun _ e => by cases e); rfl
theorem RW.bl {i : Bool} {v : V} (h : RW K O B H (.bool i) v) : v = .bl i := by
  cases h.rd (fun _ e => by cases e); rfl
theorem RW.str {i : Str} {v : V} (h : RW K O B H (.str i) v) : v = .str i := by
  cases h.rd (fun _ e => by cases e); rfl
theorem RW.non {v : V} (h : RW K O B H .none v) : v = .non := by
  cases h.rd (fun _ e => by cases e); rfl
theorem RW.keep {d : D} {v : V} (h : RW K O B H d v) (s : ∀ a, B a → O a) (k : Keep B H H') : RW K O B H' d v := by
  rcases h with h | ⟨ds, vs, a, e, e2, h1, h2⟩
  · exact .inl (h.keep (k.mono s))
  · exact .inr ⟨ds, vs, a, e, e2, h1.keep k, h2.keep (k.mono s)⟩
/-- what is owned is a list that stands; B is among it -/
structure Gd (O B : Own) (H : Hp) : Prop where
  sub : ∀ a, B a → O a
  lst : ∀ a, O a → ∃ xs, Rd H a (.lst xs)
theorem Gd.free (G : Gd O B H) {p : Addr} (h : H p = none) : ¬ O p := fun z => by
  obtain ⟨xs, e⟩ := G.lst p z
  obtain ⟨o, e⟩ := rd_some e
  rw [h] at e; cases e
theorem RD.newT (G : Gd O B H) {p : Addr} {ds : List D} {vs : List V} (h : H p = none) (r : RDs K O H ds vs) : RD K O (upd H p (.tup vs)) (.tuple ds) (.ref p) :=
  .tup (.inl ⟨.inl upd_same, G.free h⟩) (r.keep (Keep.upd h))
theorem RD.newL (G : Gd O B H) {p : Addr} {ds : List D} {vs : List V} (h : H p = none) (r : RDs K O H ds vs) : RD K O (upd H p (.lst vs)) (.list ds) (.ref p) :=
  .lst ⟨.inl upd_same, G.free h⟩ (r.keep (Keep.upd h))
inductive RWs (K : PySem.W.Frag) (O B : Own) (H : Hp) : List D → List V → Prop
  | nil : RWs K O B H [] []
  | cons {d : D} {v : V} {ds : List D} {vs : List V} : RW K O B H d v → RWs K O B H ds vs → RWs K O B H (d :: ds) (v :: vs)
theorem RWs.keep (s : ∀ a, B a → O a) (k : Keep B H H') : ∀ {ds : List D} {vs : List V}, RWs K O B H ds vs → RWs K O B H' ds vs
  | _, _, .nil => .nil
  | _, _, .cons a b => .cons (a.keep s k) (RWs.keep s k b)
theorem RWs.one {d : D} {vs : List V} (h : RWs K O B H [d] vs) : ∃ v, vs = [v] ∧ RW K O B H d v := by
  cases h with
  | cons a b => cases b; exact ⟨_, rfl, a⟩
theorem RWs.two {d e : D} {vs : List V} (h : RWs K O B H [d, e] vs) : ∃ v w, vs = [v, w] ∧ RW K O B H d v ∧ RW K O B H e w := by
  cases h with
  | cons a b =>
    obtain ⟨w, rfl, q⟩ := b.one
    exact ⟨_, w, rfl, a, q⟩
theorem RWs.length : ∀ {ds : List D} {vs : List V}, RWs K O B H ds vs → ds.length = vs.length
  | _, _, .nil => rfl
  | _, _, .cons _ b => by simp [RWs.length b]
end
end Fs

/-! F2: the state of a def by names; readings as total functions. -/
namespace Fs
open L2 PyProof.Rows PySem.Spec PySem

/-- the box of draws: none, the caller's, one's own -/
inductive Bx where
  | no
  | fo (x y z : Int)
  | ow (x y z : Int)
/-- an error of the package: its class, its field, what it keeps -/
structure Exn where
  cls : Str
  fld : Str
  arg : Option D
inductive R (α : Type) where
  | ok (a : α) (b : Bx)
  | ex (e : Exn) (b : Bx)
  | bad
/-- what a name holds -/
inductive Sl where
  | no
  | v (d : D)
  | own (xs : List D)
  | lk (xs : List D)
  | bx
abbrev En := List Sl
abbrev ME (α : Type) := En → Bx → R α
inductive SR where
  | nx (ρ : En) (b : Bx)
  | rt (d : D) (b : Bx)
  | bk (ρ : En) (b : Bx)
  | ct (ρ : En) (b : Bx)
  | ex (e : Exn) (ρ : En) (b : Bx)
  | bad
abbrev MS := En → Bx → SR
def R.bind {α γ : Type} (r : R α) (f : α → Bx → R γ) : R γ := match r with
  | .ok a b => f a b
  | .ex e b => .ex e b
  | .bad => .bad
def bindM {α γ : Type} (m : ME α) (f : α → ME γ) : ME γ := fun ρ b => (m ρ b).bind fun a b' => f a ρ b'
/-- of a total answer -/
def liftO {α : Type} (o : Option α) : ME α := fun _ b => match o with
  | some a => .ok a b
  | none => .bad

/-- the ground: what stood at the entry, what the callers own, the callers' box -/
structure Gh where
  H0 : Hp
  Of : Own
  fo : Option Addr
  la : Nat → Addr := fun _ => 0
/-- the module -/
structure Zx where
  K : PySem.W.Frag
  mg : Str → Option Value
def OW (g : Gh) (ρ : En) (α : Nat → Addr) (β : Option Addr) : Own := fun a => g.Of a ∨ β = some a ∨ ∃ i xs, ρ[i]? = some (.own xs) ∧ α i = a
def BxV (x y z : Int) : HO := .lst [.int x, .int y, .int z]
def BxR (g : Gh) (H : Hp) (b : Bx) (β : Option Addr) : Prop := match b with
  | .no => β = none ∧ g.fo = none
  | .fo x y z => ∃ a, β = some a ∧ g.fo = some a ∧ H a = some (BxV x y z)
  | .ow x y z => ∃ a, β = some a ∧ g.fo = none ∧ g.H0 a = none ∧ H a = some (BxV x y z)
structure RE (K : PySem.W.Frag) (g : Gh) (H : Hp) (ρ : En) (b : Bx) (σ : L2.St) (α : Nat → Addr) (β : Option Addr) : Prop where
  len : ρ.length = σ.length
  evo : Keep (fun a => g.fo = some a) g.H0 H
  oft : ∀ a, g.Of a → ∃ xs, Rd g.H0 a (.lst xs)
  ofo : ∀ a, g.fo = some a → ¬ g.Of a ∧ ∃ xs, g.H0 a = some (.lst xs)
  val : ∀ (i : Nat) (d : D), ρ[i]? = some (.v d) → ∃ v, σ[i]? = some (some v) ∧ RD K (OW g ρ α β) H d v
  own : ∀ (i : Nat) (xs : List D), ρ[i]? = some (.own xs) → ∃ vs, σ[i]? = some (some (V.ref (α i))) ∧ H (α i) = some (.lst vs) ∧ RDs K (OW g ρ α β) H xs vs ∧ g.H0 (α i) = none ∧ β ≠ some (α i)
  inj : ∀ (i j : Nat) (xs ys : List D), ρ[i]? = some (.own xs) → ρ[j]? = some (.own ys) → α i = α j → i = j
  lck : ∀ (i : Nat) (xs : List D), ρ[i]? = some (.lk xs) → ∃ vs, σ[i]? = some (some (V.ref (g.la i))) ∧ g.Of (g.la i) ∧ Rd g.H0 (g.la i) (.lst vs) ∧ RDs K (OW g ρ α β) H xs vs
  bxs : ∀ (i : Nat), ρ[i]? = some .bx → ∃ a, β = some a ∧ σ[i]? = some (some (V.ref a))
  box : BxR g H b β

section
variable {K : PySem.W.Frag} {g : Gh} {H H' : Hp} {ρ : En} {b b' : Bx} {σ : L2.St} {α : Nat → Addr} {β : Option Addr}
/-- what is owned is a list -/
theorem RE.ownL (r : RE K g H ρ b σ α β) : ∀ a, OW g ρ α β a → ∃ xs, Rd H a (.lst xs) := fun a h => by
  rcases h with h | h | ⟨i, xs, e, h⟩
  · obtain ⟨xs, e⟩ := r.oft a h
    exact ⟨xs, Rd.keep e (fun z => (r.ofo a z).1 h) r.evo⟩
  · have q := r.box
    cases b with
    | no => rw [q.1] at h; cases h
    | fo x y z =>
      obtain ⟨a', e1, _, e3⟩ := q
      rw [h] at e1; cases e1
      exact ⟨_, .inl e3⟩
    | ow x y z =>
      obtain ⟨a', e1, _, _, e3⟩ := q
      rw [h] at e1; cases e1
      exact ⟨_, .inl e3⟩
  · obtain ⟨vs, _, e2, _⟩ := r.own i xs e
    exact ⟨vs, by rw [← h]; exact .inl e2⟩
/-- the box's address is the callers', or new -/
theorem RE.bxNew (r : RE K g H ρ b σ α β) : ∀ a, β = some a → g.fo = some a ∨ (g.fo = none ∧ g.H0 a = none) := fun a h => by
  have q := r.box
  cases b with
  | no => rw [q.1] at h; cases h
  | fo x y z =>
    obtain ⟨a', e1, e2, _⟩ := q
    rw [h] at e1; cases e1
    exact .inl e2
  | ow x y z =>
    obtain ⟨a', e1, e0, e2, _⟩ := q
    rw [h] at e1; cases e1
    exact .inr ⟨e0, e2⟩
theorem RE.foB' (r : RE K g H ρ b σ α β) {a : Addr} (h : g.fo = some a) : β = some a := by
  have q := r.box
  cases b with
  | no => rw [q.2] at h; cases h
  | fo x y z =>
    obtain ⟨a', e1, e2, _⟩ := q
    rw [h] at e2; cases e2
    exact e1
  | ow x y z =>
    obtain ⟨a', _, e2, _⟩ := q
    rw [h] at e2; cases e2
/-- what the ground's owners own is not the box -/
theorem RE.ofB (r : RE K g H ρ b σ α β) {a : Addr} (h : g.Of a) : β ≠ some a := fun z => by
  rcases r.bxNew a z with z | ⟨_, z⟩
  · exact (r.ofo a z).1 h
  · obtain ⟨xs, e⟩ := r.oft a h
    obtain ⟨o, e⟩ := rd_some e
    rw [z] at e; cases e
/-- an expression has run: all but the box is kept -/
theorem RE.step (r : RE K g H ρ b σ α β) (k : Keep (fun a => β = some a) H H') (q : BxR g H' b' β) : RE K g H' ρ b' σ α β := by
  have kO : Keep (OW g ρ α β) H H' := k.mono fun a h => .inr (.inl h)
  refine ⟨r.len, fun a u e n => k a u (r.evo a u e n) fun z => ?_, r.oft, r.ofo, fun i d e => ?_, fun i xs e => ?_, r.inj, fun i xs e => ?_, r.bxs, q⟩
  · rcases r.bxNew a z with z | ⟨_, z⟩
    · exact n z
    · rw [z] at e; cases e
  · obtain ⟨v, e1, e2⟩ := r.val i d e
    exact ⟨v, e1, e2.keep kO⟩
  · obtain ⟨vs, e1, e2, e3, e4, e5⟩ := r.own i xs e
    exact ⟨vs, e1, k _ _ e2 e5, e3.keep kO, e4, e5⟩
  · obtain ⟨vs, e1, e2, e3, e4⟩ := r.lck i xs e
    exact ⟨vs, e1, e2, e3, e4.keep kO⟩
/-- a locked list, as it stands -/
theorem RE.lkd (r : RE K g H ρ b σ α β) {i : Nat} {xs : List D} (e : ρ[i]? = some (.lk xs)) : ∃ vs a, σ[i]? = some (some (V.ref a)) ∧ TL K (fun a => β = some a) H a vs ∧ RDs K (OW g ρ α β) H xs vs := by
  obtain ⟨vs, e1, e2, e3, e4⟩ := r.lck i xs e
  exact ⟨vs, g.la i, e1, ⟨Rd.keep e3 (fun z => (r.ofo _ z).1 e2) r.evo, r.ofB e2⟩, e4⟩
end
end Fs

/-! F3: readings; the rules of expressions. -/
namespace Fs
open L2 PyProof.Rows PySem.Spec PySem

/-- what is raised, by its class's name -/
def ExR (Z : Zx) (O : Own) (H : Hp) (e : Exn) (cls : Value) (dd : Option Addr) : Prop :=
  ∃ C : Addr, Z.mg e.cls = some (.ref C) ∧ cls = .ref C ∧ match e.arg with
    | none => dd = none
    | some d => ∃ p v, dd = some p ∧ H p = some (.xd [(e.fld, v)]) ∧ RD Z.K O H d v
abbrev Rl (τ υ : Type) := Own → Own → Hp → τ → υ → Prop
abbrev Bs (β : Option Addr) : Own := fun a => β = some a
def PostR {τ υ : Type} (Z : Zx) (L : Rl τ υ) (W : WX) (O : Own) (g : Gh) (β : Option Addr) (σ : L2.St) (H : Hp) (Q : υ → Hp → Prop) : R τ → Prop
  | .ok a b' => ∀ x H', L O (Bs β) H' a x → Keep (Bs β) H H' → BxR g H' b' β → Q x H'
  | .ex e b' => ∀ cls dd H', ExR Z O H' e cls dd → Keep (Bs β) H H' → BxR g H' b' β → W cls dd σ H'
  | .bad => False
def tR {τ υ : Type} (Z : Zx) (L : Rl τ υ) (W : WX) (m : ME τ) : L2.St → Hp → (υ → Hp → Prop) → Prop := fun σ H Q =>
  ∃ g ρ b α β, RE Z.K g H ρ b σ α β ∧ PostR Z L W (OW g ρ α β) g β σ H Q (m ρ b)
abbrev lD (K : PySem.W.Frag) : Rl D V := fun O _ H d v => RD K O H d v
abbrev lW (K : PySem.W.Frag) : Rl D V := fun O B H d v => RW K O B H d v
abbrev lDs (K : PySem.W.Frag) : Rl (List D) (List V) := fun O _ H d v => RDs K O H d v
abbrev lWs (K : PySem.W.Frag) : Rl (List D) (List V) := fun O B H d v => RWs K O B H d v
abbrev lB : Rl Bool Bool := fun _ _ _ a b => a = b
/-- it stays when the heap goes on -/
def Pers {τ υ : Type} (L : Rl τ υ) : Prop := ∀ O B H H' a x, (∀ a, B a → O a) → Keep B H H' → L O B H a x → L O B H' a x
theorem pers_D {K : PySem.W.Frag} : Pers (lD K) := fun O B H H' a x s k h => RD.keep (k.mono s) _ _ h
theorem pers_W {K : PySem.W.Frag} : Pers (lW K) := fun O B H H' a x s k h => RW.keep h s k
theorem pers_Ds {K : PySem.W.Frag} : Pers (lDs K) := fun O B H H' a x s k h => RDs.keep (k.mono s) _ _ h
theorem pers_Ws {K : PySem.W.Frag} : Pers (lWs K) := fun O B H H' a x s k h => RWs.keep s k h
theorem pers_B : Pers lB := fun O B H H' a x s k h => h
section
variable {K : PySem.W.Frag} {g : Gh} {H H' : Hp} {ρ : En} {b b' : Bx} {σ : L2.St} {α : Nat → Addr} {β : Option Addr}
theorem RE.gd (r : RE K g H ρ b σ α β) : Gd (OW g ρ α β) (Bs β) H := ⟨fun _ h => .inr (.inl h), r.ownL⟩
end
section
variable {Z : Zx} {τ τ2 τ3 υ υ2 υ3 : Type} {L : Rl τ υ} {L2' : Rl τ2 υ2} {L3 : Rl τ3 υ3} {W : WX} {σ : L2.St} {H H1 : Hp}
theorem PostR.at {O : Own} {g : Gh} {β : Option Addr} {Q : υ → Hp → Prop} {r : R τ} (h : PostR Z L W O g β σ H Q r) (k : Keep (Bs β) H H1) : PostR Z L W O g β σ H1 Q r := by
  cases r with
  | ok a b => exact fun x H' l k' q => h x H' l (k.trans k') q
  | ex e b => exact fun c d H' l k' q => h c d H' l (k.trans k') q
  | bad => exact h
/-- one ahead of the rest -/
theorem post_bind {O : Own} {g : Gh} {β : Option Addr} {ρ : En} {b : Bx} {Q : υ2 → Hp → Prop} {Q1 : υ → Hp → Prop} {ma : ME τ} {f : τ → ME τ2} (h : PostR Z L2' W O g β σ H Q (bindM ma f ρ b))
    (k : ∀ a b' x H1, L O (Bs β) H1 a x → Keep (Bs β) H H1 → BxR g H1 b' β → PostR Z L2' W O g β σ H1 Q (f a ρ b') → Q1 x H1) : PostR Z L W O g β σ H Q1 (ma ρ b) := by
  unfold bindM at h
  cases e : ma ρ b with
  | ok a b' =>
    rw [e] at h
    exact fun x H1 l k1 q => k a b' x H1 l k1 q (PostR.at h k1)
  | ex x b' =>
    rw [e] at h
    exact h
  | bad =>
    rw [e] at h
    exact h
theorem tR_bind {Q : υ2 → Hp → Prop} {Q1 : υ → Hp → Prop} {ma : ME τ} {f : τ → ME τ2} (h : tR Z L2' W (bindM ma f) σ H Q)
    (k : ∀ g ρ b α β a x H1, RE Z.K g H1 ρ b σ α β → L (OW g ρ α β) (Bs β) H1 a x → PostR Z L2' W (OW g ρ α β) g β σ H1 Q (f a ρ b) → Q1 x H1) : tR Z L W ma σ H Q1 := by
  obtain ⟨g, ρ, b, α, β, r, p⟩ := h
  exact ⟨g, ρ, b, α, β, r, post_bind p fun a b' x H1 l k1 q p1 => k g ρ b' α β a x H1 (r.step k1 q) l p1⟩
/-- two ahead of the rest -/
theorem tR_bind2 {Q : υ3 → Hp → Prop} {Q1 : υ → υ2 → Hp → Prop} {ma : ME τ} {mb : ME τ2} {f : τ → τ2 → ME τ3} (P : Pers L) (h : tR Z L3 W (bindM ma fun x => bindM mb fun y => f x y) σ H Q)
    (k : ∀ g ρ b α β a c x y H1, RE Z.K g H1 ρ b σ α β → L (OW g ρ α β) (Bs β) H1 a x → L2' (OW g ρ α β) (Bs β) H1 c y → PostR Z L3 W (OW g ρ α β) g β σ H1 Q (f a c ρ b) → Q1 x y H1) :
    tR Z L W ma σ H fun x H1 => tR Z L2' W mb σ H1 fun y H2 => Q1 x y H2 := by
  refine tR_bind (L := L) h fun g ρ b α β a x H1 r l p => ?_
  refine ⟨g, ρ, b, α, β, r, post_bind p fun c b' y H2 l2 k2 q p2 => ?_⟩
  exact k g ρ b' α β a c x y H2 (r.step k2 q) (P _ _ _ _ _ _ (fun _ h => .inr (.inl h)) k2 l) l2 p2
theorem post_lift {O : Own} {g : Gh} {β : Option Addr} {ρ : En} {b : Bx} {Q : υ → Hp → Prop} {o : Option τ} (h : PostR Z L W O g β σ H Q (liftO o ρ b)) : ∃ a, o = some a ∧ ∀ x H', L O (Bs β) H' a x → Keep (Bs β) H H' → BxR g H' b β → Q x H' := by
  cases o with
  | none => exact h.elim
  | some a => exact ⟨a, rfl, h⟩
theorem BxR.keep0 {g : Gh} {b : Bx} {β : Option Addr} (q : BxR g H b β) (k : Keep nobody H H1) : BxR g H1 b β := by
  cases b with
  | no => exact q
  | fo x y z =>
    obtain ⟨a, e1, e2, e3⟩ := q
    exact ⟨a, e1, e2, k _ _ e3 id⟩
  | ow x y z =>
    obtain ⟨a, e1, e2, e3, e4⟩ := q
    exact ⟨a, e1, e2, e3, k _ _ e4 id⟩
end

/-! ### what an expression's rule says -/
abbrev Cx.z (X : Cx) : Zx := ⟨X.K, X.mg⟩
def SE (X : Cx) (W : WX) (e : Expr) (m : ME D) : Prop := PE X e (tR (Cx.z X) (lD X.K) W m)
/-- .. whose answer is read at once -/
def SW (X : Cx) (W : WX) (e : Expr) (m : ME D) : Prop := PE X e (tR (Cx.z X) (lW X.K) W m)
def ST (X : Cx) (W : WX) (e : Expr) (m : ME Bool) : Prop := PT X e (tR (Cx.z X) lB W m)
def SWh (X : Cx) (W : WX) (e : Expr) (m : ME Bool) : Prop := PW X e (tR (Cx.z X) lB W m)
def SA (X : Cx) (W : WX) (es : List Expr) (m : ME (List D)) : Prop := PA X es (tR (Cx.z X) (lDs X.K) W m)
def SAW (X : Cx) (W : WX) (es : List Expr) (m : ME (List D)) : Prop := PA X es (tR (Cx.z X) (lWs X.K) W m)
theorem PE.imp {X : Cx} {e : Expr} {t t' : TE} (h : PE X e t) (i : ∀ σ H Q, t' σ H Q → t σ H Q) : PE X e t' := ⟨fun pins s σ H Q I q => h.run pins s σ H Q I (i σ H Q q)⟩
theorem PT.imp {X : Cx} {e : Expr} {t t' : TT} (h : PT X e t) (i : ∀ σ H Q, t' σ H Q → t σ H Q) : PT X e t' := ⟨fun pins s σ H Q I q => h.run pins s σ H Q I (i σ H Q q)⟩
theorem PW.imp {X : Cx} {e : Expr} {t t' : TT} (h : PW X e t) (i : ∀ σ H Q, t' σ H Q → t σ H Q) : PW X e t' := ⟨fun w pins s σ H Q I q => h.run w pins s σ H Q I (i σ H Q q)⟩
theorem PA.imp {X : Cx} {e : List Expr} {t t' : TA} (h : PA X e t) (i : ∀ σ H Q, t' σ H Q → t σ H Q) : PA X e t' := ⟨fun pos pins s σ H Q I q => h.run pos pins s σ H Q I (i σ H Q q)⟩
section
variable {X : Cx} {W : WX} {e a b : Expr} {es : List Expr} {ma mb mc : ME D} {ms : ME (List D)} {pos : Pos}
theorem SE.w (h : SE X W e ma) : SW X W e ma := PE.imp h fun σ H Q ⟨g, ρ, b, α, β, r, p⟩ => by
  refine ⟨g, ρ, b, α, β, r, ?_⟩
  cases e : ma ρ b with
  | ok a b' =>
    rw [e] at p
    exact fun x H' l k q => p x H' (.inl l) k q
  | ex x b' => rw [e] at p; exact p
  | bad => rw [e] at p; exact p
theorem SA.w (h : SA X W es ms) : SAW X W es ms := PA.imp h fun σ H Q ⟨g, ρ, b, α, β, r, p⟩ => by
  refine ⟨g, ρ, b, α, β, r, ?_⟩
  cases e : ms ρ b with
  | ok a b' =>
    rw [e] at p
    refine fun x H' l k q => p x H' ?_ k q
    have : ∀ {ds : List D} {vs : List V}, RDs X.K (OW g ρ α β) H' ds vs → RWs X.K (OW g ρ α β) (Bs β) H' ds vs := by
      intro ds
      induction ds with
      | nil => intro vs h; cases h; exact .nil
      | cons d ds ih =>
        intro vs h
        cases h with
        | cons a b => exact .cons (.inl a) (ih b)
    exact this l
  | ex x b' => rw [e] at p; exact p
  | bad => rw [e] at p; exact p

/-! ### names, constants -/
def varM (i : Nat) : ME D := fun ρ b => match ρ[i]? with
  | some (.v d) => .ok d b
  | _ => .bad
/-- a name that may hold a list of one's own, read at once -/
def varB (i : Nat) : ME D := fun ρ b => match ρ[i]? with
  | some (.v d) => .ok d b
  | some (.own xs) => .ok (.list xs) b
  | some (.lk xs) => .ok (.list xs) b
  | _ => .bad
theorem se_var {i : Nat} {x : Str} (hN : X.N[i]? = some x) (hv : Vis X.env.scope x) (hd : (x == ("__debug__" : Str)) = false := by decide) (hcd : (x == ("__classdict__" : Str)) = false := by decide) : SE X W (.Name x pos) (varM i) :=
  PE.imp (pe_var hN hv hd hcd) fun σ H Q ⟨g, ρ, b, α, β, r, p⟩ => by
    unfold varM at p
    split at p
    · rename_i d e
      obtain ⟨v, e1, e2⟩ := r.val i d e
      exact ⟨v, e1, p v H e2 (Keep.refl _ _) r.box⟩
    · exact p.elim
theorem sw_var {i : Nat} {x : Str} (hN : X.N[i]? = some x) (hv : Vis X.env.scope x) (hd : (x == ("__debug__" : Str)) = false := by decide) (hcd : (x == ("__classdict__" : Str)) = false := by decide) : SW X W (.Name x pos) (varB i) :=
  PE.imp (pe_var hN hv hd hcd) fun σ H Q ⟨g, ρ, b, α, β, r, p⟩ => by
    unfold varB at p
    split at p
    · rename_i d e
      obtain ⟨v, e1, e2⟩ := r.val i d e
      exact ⟨v, e1, p v H (.inl e2) (Keep.refl _ _) r.box⟩
    · rename_i xs e
      obtain ⟨vs, e1, e2, e3, e4, e5⟩ := r.own i xs e
      exact ⟨_, e1, p _ H (.inr ⟨xs, vs, α i, rfl, rfl, ⟨.inl e2, e5⟩, e3⟩) (Keep.refl _ _) r.box⟩
    · rename_i xs e
      obtain ⟨vs, a, e1, e2, e4⟩ := r.lkd e
      exact ⟨_, e1, p _ H (.inr ⟨xs, vs, a, rfl, rfl, e2, e4⟩) (Keep.refl _ _) r.box⟩
    · exact p.elim
def cM (d : D) : ME D := fun _ b => .ok d b
theorem se_int {i j} : SE X W (.Constant (.int i) j pos) (cM (.int i)) := PE.imp pe_int fun σ H Q ⟨g, ρ, b, α, β, r, p⟩ => p _ H (.int i) (Keep.refl _ _) r.box
theorem se_bl {i j} : SE X W (.Constant (.bool i) j pos) (cM (.bool i)) := PE.imp pe_bl fun σ H Q ⟨g, ρ, b, α, β, r, p⟩ => p _ H (.bl i) (Keep.refl _ _) r.box
theorem se_non {j} : SE X W (.Constant .none j pos) (cM .none) := PE.imp pe_non fun σ H Q ⟨g, ρ, b, α, β, r, p⟩ => p _ H .non (Keep.refl _ _) r.box
theorem se_str {i j} : SE X W (.Constant (.str i) j pos) (cM (.str i)) := PE.imp pe_str fun σ H Q ⟨g, ρ, b, α, β, r, p⟩ => p _ H (.str i) (Keep.refl _ _) r.box

/-! ### operators -/
/-- an operator by data: op is the total function -/
def rD (K : PySem.W.Frag) (op : D → D → Option D) : R2 := fun x y H Q => ∃ O B d e z, Gd O B H ∧ RW K O B H d x ∧ RW K O B H e y ∧ op d e = some z ∧ ∀ v H', RD K O H' z v → Keep nobody H H' → Q v H'
def opM (op : D → D → Option D) (ma mb : ME D) : ME D := bindM ma fun x => bindM mb fun y => liftO (op x y)
theorem op_read {op : D → D → Option D} {σ : L2.St} {H : Hp} {Q : VK} (h : tR (Cx.z X) (lD X.K) W (opM op ma mb) σ H Q) :
    tOp (rD X.K op) (tR (Cx.z X) (lW X.K) W ma) (tR (Cx.z X) (lW X.K) W mb) σ H Q := by
  refine tR_bind2 pers_W h fun g ρ b α β d e x y H1 r l1 l2 p => ?_
  obtain ⟨z, ez, q⟩ := post_lift p
  exact ⟨_, _, d, e, z, r.gd, l1, l2, ez, fun v H' rv k => q v H' rv k.of0 (r.box.keep0 k)⟩
theorem se_op {o : Operator} {op : D → D → Option D} (ho : OpR X (binaryOp o) (rD X.K op)) (ha : SW X W a ma) (hb : SW X W b mb) : SE X W (.BinOp a o b pos) (opM op ma mb) :=
  PE.imp (pe_op ho ha hb) fun _ _ _ h => op_read h
theorem se_cmp {o : CmpOp} {op : D → D → Option D} (ho : OpR X (compareOp o) (rD X.K op)) (ha : SW X W a ma) (hb : SW X W b mb) (hm : behindInMarks o b = false) : SE X W (.Compare a [o] [b] pos) (opM op ma mb) :=
  PE.imp (pe_cmpR ho ha hb hm) fun _ _ _ h => op_read h
def toB : D → Option Bool
  | .bool b => some b
  | _ => none
def tstM (m : ME D) : ME Bool := bindM m fun d => liftO (toB d)
theorem tst_read {σ : L2.St} {H : Hp} {Q : Bool → Hp → Prop} (h : tR (Cx.z X) lB W (tstM ma) σ H Q) : tR (Cx.z X) (lW X.K) W ma σ H fun x H' => ∃ k, x = .bl k ∧ Q k H' := by
  refine tR_bind h fun g ρ b α β d x H1 r l p => ?_
  obtain ⟨k, ek, q⟩ := post_lift p
  cases d <;> first | cases ek | skip
  exact ⟨_, RW.bl l, q _ H1 rfl (Keep.refl _ _) r.box⟩
theorem st_cmp {o : CmpOp} {op : D → D → Option D} (ho : OpR X (compareOp o) (rD X.K op)) (ha : SW X W a ma) (hb : SW X W b mb) (hm : behindInMarks o b = false) : ST X W (.Compare a [o] [b] pos) (tstM (opM op ma mb)) :=
  PT.imp (pt_cmpR ho ha hb hm) fun σ H Q h => by
    obtain ⟨g, ρ, b', α, β, r, p⟩ := tst_read h
    refine op_read ⟨g, ρ, b', α, β, r, ?_⟩
    cases e : opM op ma mb ρ b' with
    | ok d b1 => rw [e] at p; exact fun x H' l k q => p x H' (.inl l) k q
    | ex x b1 => rw [e] at p; exact p
    | bad => rw [e] at p; exact p
theorem st_val {e : Expr} (h : SW X W e ma) (he : ∀ whole, isTrue e X.env whole = (do let v ← whole; standAt e.pos; holding [v] (truthy v)) := by intro _; rfl) : ST X W e (tstM ma) :=
  PT.imp (pt_val h he) fun σ H Q q => tst_read q
end
end Fs

/-! F4: operators by data. -/
namespace Fs
open L2 PyProof.Rows PySem.Spec PySem
section
variable {X : Cx} {K : PySem.W.Frag} {O B : Own} {H H' : Hp}

def addD : D → D → Option D
  | .int i, .int j => some (.int (i + j))
  | .int i, .bool k => some (.int (i + b2i k))
  | .str x, .str y => if x.length + y.length ≤ sizeLine then some (.str (x ++ y)) else none
  | .tuple xs, .tuple ys => if xs.length + ys.length ≤ sizeLine then some (.tuple (xs ++ ys)) else none
  | .list xs, .list ys => if xs.length + ys.length ≤ sizeLine then some (.list (xs ++ ys)) else none
  | _, _ => none
theorem lstM_rd {pins : List (Addr × Obj)} {σ : L2.St} {s : Shared} {l : Addr} {xs : List V} (I : Inv X pins σ H s) (hH : Rd H l (.lst xs)) : xs.length ≤ sizeLine ∧ ∃ (its : List Value) (n : Nat), Vals xs its ∧ xs.length = its.length ∧
    s.heap.get? l = some { cls := .type "list", data := .seq its.toArray n } := by
  obtain ⟨z, its, n, r, e⟩ := hH.ok I.hok
  exact ⟨z, its, n, r, r.length, e⟩
/-- list + list -/
theorem cat_rd {pins : List (Addr × Obj)} {s : Shared} {σ : L2.St} {a b : Addr} {xs zs : List V} {Q : VK} (I : Inv X pins σ H s) (hH : Rd H a (.lst xs)) (hB : Rd H b (.lst zs)) (hz : xs.length + zs.length ≤ sizeLine)
    (q : ∀ p, H p = none → Q (.ref p) (upd H p (.lst (xs ++ zs)))) : wpAny (model X.prog X.w) X.A (binaryOp .Add (.ref a) (.ref b)) (EP X pins σ Q) X.xe s := by
  obtain ⟨z, its, n, r, hl, e⟩ := lstM_rd I hH
  obtain ⟨z2, its2, n2, r2, hl2, e2⟩ := lstM_rd I hB
  refine PySem.P.add_list e e2 ?_ (by simp only [List.size_toArray]; omega)
  rw [show its.toArray ++ its2.toArray = (its ++ its2).toArray by simp]
  have made := I.lnew (t' := s.toks) (r.append r2) (by rw [List.length_append]; omega)
  exact ⟨.ref _, _, made, rfl, q _ I.fresh⟩
theorem o_add : OpR X (binaryOp .Add) (rD X.K addD) := by
  intro pins s σ H x y v u Q I rx ry ⟨O, B, d, e, z, G, l1, l2, ez, q⟩
  unfold addD at ez
  split at ez
  · rename_i i j
    cases ez
    rw [l1.int] at rx
    rw [l2.int] at ry
    exact op_add pins s σ H _ _ v u Q I rx ry ⟨i, j, rfl, rfl, q _ H (.int _) (Keep.refl _ _)⟩
  · rename_i i k
    cases ez
    rw [l1.int] at rx
    rw [l2.bl] at ry
    exact op_add_ib pins s σ H _ _ v u Q I rx ry ⟨i, k, rfl, rfl, q _ H (.int _) (Keep.refl _ _)⟩
  · rename_i i j
    split at ez
    · rename_i hz
      cases ez
      rw [l1.str] at rx
      rw [l2.str] at ry
      exact op_add_str pins s σ H _ _ v u Q I rx ry ⟨i, j, rfl, rfl, hz, q _ H (.str _) (Keep.refl _ _)⟩
    · cases ez
  · rename_i xs ys
    split at ez
    · rename_i hz
      cases ez
      obtain ⟨a, vs, rfl, h1, r1⟩ := l1.tup
      obtain ⟨b, ws, rfl, h2, r2⟩ := l2.tup
      have e1 := r1.length
      have e2 := r2.length
      refine op_catA pins s σ H _ _ v u Q I rx ry ⟨a, b, vs, ws, rfl, rfl, h1, h2, by omega, fun e => ?_, fun _ e => ?_, fun _ _ p hp => ?_⟩
      · subst e
        have : xs = [] := List.eq_nil_of_length_eq_zero (by simpa using e1)
        subst this
        exact q _ H (l2.rd (fun _ z => by cases z)) (Keep.refl _ _)
      · subst e
        have : ys = [] := List.eq_nil_of_length_eq_zero (by simpa using e2)
        subst this
        rw [List.append_nil] at q
        exact q _ H (l1.rd (fun _ z => by cases z)) (Keep.refl _ _)
      · exact q _ _ (RD.newT G hp (r1.append r2)) (Keep.upd hp)
    · cases ez
  · rename_i xs ys
    split at ez
    · rename_i hz
      cases ez
      obtain ⟨a, vs, rfl, h1, r1⟩ := l1.rl
      obtain ⟨b, ws, rfl, h2, r2⟩ := l2.rl
      have e1 := r1.length
      have e2 := r2.length
      cases rx
      cases ry
      exact cat_rd I h1 h2 (by omega) fun p hp => q _ _ (RD.newL G hp (r1.append r2)) (Keep.upd hp)
    · cases ez
  · cases ez
/-- on two ints -/
def iiD (C : Int → Int → Bool) (f : Int → Int → D) : D → D → Option D
  | .int i, .int j => if C i j then some (f i j) else none
  | _, _ => none
theorem o_ii {F : Value → Value → Sem Value} {C : Int → Int → Bool} {f : Int → Int → D} (h : ∀ (i j : Int) pins s σ H v u Q, C i j = true → Inv X pins σ H s → RelV (.int i) v → RelV (.int j) u → (∀ v, RD X.K nobody H (f i j) v → Q v H) → wpAny (model X.prog X.w) X.A (F v u) (EP X pins σ Q) X.xe s)
    (hs : ∀ i j O H v, RD X.K nobody H (f i j) v → RD X.K O H (f i j) v) : OpR X F (rD X.K (iiD C f)) := by
  intro pins s σ H x y v u Q I rx ry ⟨O, B, d, e, z, G, l1, l2, ez, q⟩
  unfold iiD at ez
  split at ez
  · rename_i i j
    split at ez
    · rename_i hC
      cases ez
      rw [l1.int] at rx
      rw [l2.int] at ry
      exact h i j pins s σ H v u Q hC I rx ry fun v rv => q v H (hs i j O H v rv) (Keep.refl _ _)
    · cases ez
  · cases ez
theorem rd_int {O O' : Own} {H : Hp} {i : Int} {v : V} (h : RD K O H (.int i) v) : RD K O' H (.int i) v := by cases h; exact .int i
theorem rd_bl {O O' : Own} {H : Hp} {i : Bool} {v : V} (h : RD K O H (.bool i) v) : RD K O' H (.bool i) v := by cases h; exact .bl i
abbrev yes2 : Int → Int → Bool := fun _ _ => true
def subD := iiD yes2 fun i j => .int (i - j)
theorem o_sub : OpR X (binaryOp .Sub) (rD X.K subD) := o_ii (fun i j pins s σ H v u Q _ I rx ry q => op_sub pins s σ H _ _ v u Q I rx ry ⟨i, j, rfl, rfl, q _ (.int _)⟩) fun _ _ _ _ _ h => rd_int h
def mulD : D → D → Option D
  | .int i, .int j => if decide ((-(2 ^ 64) < i ∧ i < 2 ^ 64) ∨ (-(2 ^ 64) < j ∧ j < 2 ^ 64)) then some (.int (i * j)) else none
  | .tuple xs, .int k => if xs.length = 1 ∧ 2 ≤ k ∧ k ≤ 1000 then some (.tuple (List.replicate k.toNat xs).flatten) else none
  | _, _ => none
def modD := iiD (fun _ j => decide (0 < j)) fun i j => .int (i % j)
theorem o_mod : OpR X (binaryOp .Mod) (rD X.K modD) := o_ii (fun i j pins s σ H v u Q hC I rx ry q => op_mod pins s σ H _ _ v u Q I rx ry ⟨i, j, rfl, rfl, of_decide_eq_true hC, q _ (.int _)⟩) fun _ _ _ _ _ h => rd_int h
def fdivD := iiD (fun _ j => decide (0 < j ∧ j < 1073741824)) fun i j => .int (i / j)
theorem o_fdiv : OpR X (binaryOp .FloorDiv) (rD X.K fdivD) := o_ii (fun i j pins s σ H v u Q hC I rx ry q => have h2 := of_decide_eq_true hC; op_fdiv pins s σ H _ _ v u Q I rx ry ⟨i, j, rfl, rfl, h2, q _ (.int _)⟩) fun _ _ _ _ _ h => rd_int h
def powD := iiD (fun i j => decide (0 ≤ j ∧ j ≤ 1000000 ∧ i.natAbs < 2 ^ 64)) fun i j => .int (i ^ j.toNat)
theorem o_pow : OpR X (binaryOp .Pow) (rD X.K powD) := o_ii (fun i j pins s σ H v u Q hC I rx ry q => have h2 := of_decide_eq_true hC; op_pow pins s σ H _ _ v u Q I rx ry ⟨i, j, rfl, rfl, h2, q _ (.int _)⟩) fun _ _ _ _ _ h => rd_int h
def ltD := iiD yes2 fun i j => .bool (decide (i < j))
theorem o_lt : OpR X (compareOp .Lt) (rD X.K ltD) := o_ii (fun i j pins s σ H v u Q _ I rx ry q => op_lt pins s σ H _ _ v u Q I rx ry ⟨i, j, rfl, rfl, q _ (.bl _)⟩) fun _ _ _ _ _ h => rd_bl h
def leD := iiD yes2 fun i j => .bool (decide (i ≤ j))
theorem o_le : OpR X (compareOp .LtE) (rD X.K leD) := o_ii (fun i j pins s σ H v u Q _ I rx ry q => op_le pins s σ H _ _ v u Q I rx ry ⟨i, j, rfl, rfl, q _ (.bl _)⟩) fun _ _ _ _ _ h => rd_bl h
def gtD := iiD yes2 fun i j => .bool (decide (j < i))
theorem o_gt : OpR X (compareOp .Gt) (rD X.K gtD) := o_ii (fun i j pins s σ H v u Q _ I rx ry q => op_gt pins s σ H _ _ v u Q I rx ry ⟨i, j, rfl, rfl, q _ (.bl _)⟩) fun _ _ _ _ _ h => rd_bl h
def geD := iiD yes2 fun i j => .bool (decide (j ≤ i))
theorem o_ge : OpR X (compareOp .GtE) (rD X.K geD) := o_ii (fun i j pins s σ H v u Q _ I rx ry q => op_ge pins s σ H _ _ v u Q I rx ry ⟨i, j, rfl, rfl, q _ (.bl _)⟩) fun _ _ _ _ _ h => rd_bl h
def bandD := iiD yes2 fun i j => .int (Builtin.bitAnd i j)
theorem o_band : OpR X (binaryOp .BitAnd) (rD X.K bandD) := o_ii (fun i j pins s σ H v u Q _ I rx ry q => op_and pins s σ H _ _ v u Q I rx ry ⟨i, j, rfl, rfl, q _ (.int _)⟩) fun _ _ _ _ _ h => rd_int h
theorem o_mul : OpR X (binaryOp .Mult) (rD X.K mulD) := by
  intro pins s σ H x y v u Q I rx ry ⟨O, B, d, e, z, G, l1, l2, ez, q⟩
  unfold mulD at ez
  split at ez
  · rename_i i j
    split at ez
    · rename_i hC
      cases ez
      rw [l1.int] at rx
      rw [l2.int] at ry
      have h2 := of_decide_eq_true hC
      exact op_mul pins s σ H _ _ v u Q I rx ry ⟨i, j, rfl, rfl, h2, q _ H (.int _) (Keep.refl _ _)⟩
    · cases ez
  · rename_i xs k
    split at ez
    · rename_i hC
      cases ez
      obtain ⟨a, vs, rfl, h1, r1⟩ := l1.tup
      rw [l2.int] at ry
      have e1 := r1.length
      refine op_repT pins s σ H _ _ v u Q I rx ry ⟨a, k, vs, rfl, rfl, h1, fun z => ?_, hC.2.1, hC.2.2, by omega, fun p hp => q _ _ (RD.newT G hp ?_) (Keep.upd hp)⟩
      · subst z
        have := hC.1
        simp at e1
        subst e1
        simp at this
      · generalize k.toNat = n
        induction n with
        | zero => exact .nil
        | succ n ih =>
          rw [List.replicate_succ, List.replicate_succ, List.flatten_cons, List.flatten_cons]
          exact r1.append ih
    · cases ez
  · cases ez
/-! ### equality, membership -/
def shp (d : D) : Bool := SeqAt.shaped d
def eqD (d e : D) : Option D := if shp d && shp e then some (.bool (PyData.eqv d e)) else none
def neD (d e : D) : Option D := if shp d && shp e then some (.bool (!PyData.eqv d e)) else none
theorem o_eq (hu : X.A.units + 64 < cLine) : OpR X (compareOp .Eq) (rD X.K eqD) := by
  intro pins s σ H x y v u Q I rx ry ⟨O, B, d, e, z, G, l1, l2, ez, q⟩
  unfold eqD at ez
  split at ez
  · rename_i h
    rw [Bool.and_eq_true] at h
    cases ez
    exact op_eqD hu pins s σ H _ _ v u Q I rx ry ⟨d, e, l1.dp, l2.dp, h.1, h.2, q _ H (.bl _) (Keep.refl _ _)⟩
  · cases ez
theorem o_ne (hu : X.A.units + 64 < cLine) : OpR X (compareOp .NotEq) (rD X.K neD) := by
  intro pins s σ H x y v u Q I rx ry ⟨O, B, d, e, z, G, l1, l2, ez, q⟩
  unfold neD at ez
  split at ez
  · rename_i h
    rw [Bool.and_eq_true] at h
    cases ez
    exact op_neD hu pins s σ H _ _ v u Q I rx ry ⟨d, e, l1.dp, l2.dp, h.1, h.2, q _ H (.bl _) (Keep.refl _ _)⟩
  · cases ez
def isN : D → Bool
  | .none => true
  | _ => false
def isNoD (d e : D) : Option D := if isN e then some (.bool (isN d)) else none
def notNoD (d e : D) : Option D := if isN e then some (.bool (!isN d)) else none
theorem RD.isN {d : D} {v : V} (h : RD K O H d v) : Fs.isN d = decide (v = .non) := by
  cases h <;> simp [Fs.isN]
theorem RW.isN {d : D} {v : V} (h : RW K O B H d v) : Fs.isN d = decide (v = .non) := by
  rcases h with h | ⟨_, _, _, e, e2, _, _⟩
  · exact RD.isN h
  · subst e e2
    simp [Fs.isN]
theorem o_isN : OpR X (compareOp .Is) (rD X.K isNoD) := by
  intro pins s σ H x y v u Q I rx ry ⟨O, B, d, e, z, G, l1, l2, ez, q⟩
  unfold isNoD at ez
  split at ez
  · rename_i h
    cases ez
    rw [RW.isN l2] at h
    rw [RW.isN l1] at q
    exact op_isN pins s σ H _ _ v u Q I rx ry ⟨of_decide_eq_true h, q _ H (.bl _) (Keep.refl _ _)⟩
  · cases ez
theorem o_notN : OpR X (compareOp .IsNot) (rD X.K notNoD) := by
  intro pins s σ H x y v u Q I rx ry ⟨O, B, d, e, z, G, l1, l2, ez, q⟩
  unfold notNoD at ez
  split at ez
  · rename_i h
    cases ez
    rw [RW.isN l2] at h
    rw [RW.isN l1] at q
    exact op_notN pins s σ H _ _ v u Q I rx ry ⟨of_decide_eq_true h, q _ H (.bl _) (Keep.refl _ _)⟩
  · cases ez
def memD (neg : Bool) : D → D → Option D
  | d, .list ds => if shp d && shp (.list ds) then some (.bool (if neg then !ds.any (fun z => PyData.eqv z d) else ds.any fun z => PyData.eqv z d)) else none
  | d, .tuple ds => if shp d && shp (.tuple ds) then some (.bool (if neg then !ds.any (fun z => PyData.eqv z d) else ds.any fun z => PyData.eqv z d)) else none
  | _, _ => none
theorem shp_room {ds : List D} {d : D} {u : Nat} (sd : SeqAt.shaped d = true) (hu : u + 65 < cLine) : u + 1 + min (PyData.depthAll ds) d.depth < cLine := by
  have h1 := SeqAt.depth_of_shaped sd
  have h2 : min (PyData.depthAll ds) d.depth ≤ d.depth := Nat.min_le_right _ _
  omega
theorem shp_tup {ds : List D} (h : SeqAt.shaped (.tuple ds) = true) : PyData.canLayAll0 ds = true := by
  have := SeqAt.canLay_of_shaped h
  simpa only [PyData.canLay0] using this
theorem o_in (hu : X.A.units + 65 < cLine) : OpR X (compareOp .In) (rD X.K (memD false)) := by
  intro pins s σ H x y v u Q I rx ry ⟨O, B, d, e, z, G, l1, l2, ez, q⟩
  unfold memD at ez
  split at ez
  · rename_i ds
    split at ez
    · rename_i h
      rw [Bool.and_eq_true] at h
      cases ez
      exact op_inD hu pins s σ H _ _ v u Q I rx ry ⟨d, ds, l1.dp, l2.dp, h.1, h.2, q _ H (.bl _) (Keep.refl _ _)⟩
    · cases ez
  · rename_i ds
    split at ez
    · rename_i h
      rw [Bool.and_eq_true] at h
      cases ez
      obtain ⟨as, r1⟩ := Dp.reads I d x v l1.dp rx
      obtain ⟨bs, r2⟩ := Dp.reads I (.tuple ds) y u l2.dp ry
      exact SeqAt.in_tuple_reads r2 r1 (shp_tup h.2) (SeqAt.canLay_of_shaped h.1) (shp_room h.1 hu) ⟨.bl _, H, I, rfl, q _ H (.bl _) (Keep.refl _ _)⟩
    · cases ez
  · cases ez
theorem o_nin (hu : X.A.units + 65 < cLine) : OpR X (compareOp .NotIn) (rD X.K (memD true)) := by
  intro pins s σ H x y v u Q I rx ry ⟨O, B, d, e, z, G, l1, l2, ez, q⟩
  unfold memD at ez
  split at ez
  · rename_i ds
    split at ez
    · rename_i h
      rw [Bool.and_eq_true] at h
      cases ez
      exact op_notInD hu pins s σ H _ _ v u Q I rx ry ⟨d, ds, l1.dp, l2.dp, h.1, h.2, q _ H (.bl _) (Keep.refl _ _)⟩
    · cases ez
  · rename_i ds
    split at ez
    · rename_i h
      rw [Bool.and_eq_true] at h
      cases ez
      obtain ⟨as, r1⟩ := Dp.reads I d x v l1.dp rx
      obtain ⟨bs, r2⟩ := Dp.reads I (.tuple ds) y u l2.dp ry
      exact SeqAt.notIn_tuple_reads r2 r1 (shp_tup h.2) (SeqAt.canLay_of_shaped h.1) (shp_room h.1 hu) ⟨.bl _, H, I, rfl, q _ H (.bl _) (Keep.refl _ _)⟩
    · cases ez
  · cases ez
/-! ### a subscript, a slice -/
def atD : D → D → Option D
  | .list xs, .int i => atI xs i
  | .tuple xs, .int i => atI xs i
  | .str z, .int i => if z.length ≤ sizeLine then (atI z.cps.toList i).map fun c => .str ⟨#[c]⟩ else none
  | _, _ => none
theorem atI_rds {ds : List D} {vs : List V} {i : Int} {d : D} (r : RDs K O H ds vs) (h : atI ds i = some d) : ∃ v, atI vs i = some v ∧ RD K O H d v := by
  unfold atI at h ⊢
  rw [← r.length]
  cases e : ixN ds.length i with
  | none => rw [e] at h; cases h
  | some j =>
    rw [e] at h
    obtain ⟨v, e1, e2⟩ := r.get h
    exact ⟨v, e1, e2⟩
theorem o_at : IxR X (rD X.K atD) := by
  intro value slice pins s σ H x y v u Q I rx ry ⟨O, B, d, e, z, G, l1, l2, ez, q⟩ hs
  unfold atD at ez
  split at ez
  · obtain ⟨a, vs, rfl, h1, r1⟩ := l1.lst
    obtain ⟨w, e1, e2⟩ := atI_rds r1 ez
    rw [l2.int] at ry
    exact ix_list value slice pins s σ H _ _ v u Q I rx ry ⟨a, vs, _, w, rfl, rfl, h1, e1, q w H e2 (Keep.refl _ _)⟩ hs
  · obtain ⟨a, vs, rfl, h1, r1⟩ := l1.tup
    obtain ⟨w, e1, e2⟩ := atI_rds r1 ez
    rw [l2.int] at ry
    exact ix_tup value slice pins s σ H _ _ v u Q I rx ry ⟨a, vs, _, w, rfl, rfl, h1, e1, q w H e2 (Keep.refl _ _)⟩ hs
  · rename_i t i
    split at ez
    · rename_i hz
      obtain ⟨c, hc, rfl⟩ := Option.map_eq_some_iff.mp ez
      rw [l1.str] at rx
      rw [l2.int] at ry
      exact ix_str value slice pins s σ H _ _ v u Q I rx ry ⟨t, i, c, rfl, rfl, hz, hc, q _ H (.str _) (Keep.refl _ _)⟩ hs
    · cases ez
  · cases ez
end
end Fs

/-! F5: tests, conditional expressions, displays, slices, calls of built-ins and of defs. -/
namespace Fs
open L2 PyProof.Rows PySem.Spec PySem
section
variable {X : Cx} {W : WX} {e a b c : Expr} {es rest : List Expr} {ma mb : ME D} {mt mu : ME Bool} {ms : ME (List D)} {pos : Pos}
/-! ### tests -/
def iteM {τ : Type} (mt : ME Bool) (ma mb : ME τ) : ME τ := bindM mt fun t => if t = true then ma else mb
theorem ite_read {τ υ : Type} {L : Rl τ υ} {n1 n2 : ME τ} {σ : L2.St} {H : Hp} {Q : υ → Hp → Prop} (h : tR (Cx.z X) L W (iteM mt n1 n2) σ H Q) :
    tR (Cx.z X) lB W mt σ H fun c H1 => if c = true then tR (Cx.z X) L W n1 σ H1 Q else tR (Cx.z X) L W n2 σ H1 Q := by
  refine tR_bind h fun g ρ b α β a x H1 r l p => ?_
  have l : a = x := l
  subst l
  cases a with
  | true => exact ⟨g, ρ, b, α, β, r, p⟩
  | false => exact ⟨g, ρ, b, α, β, r, p⟩
def bM (k : Bool) : ME Bool := fun _ b => .ok k b
theorem tR_end {τ υ : Type} {L : Rl τ υ} {g : Gh} {ρ : En} {b : Bx} {α : Nat → Addr} {β : Option Addr} {σ : L2.St} {H : Hp} {Q : υ → Hp → Prop} {a : τ} {x : υ} (r : RE X.K g H ρ b σ α β) (p : PostR (Cx.z X) L W (OW g ρ α β) g β σ H Q (.ok a b)) (l : L (OW g ρ α β) (Bs β) H a x) : Q x H :=
  p x H l (Keep.refl _ _) r.box
def andM (mt mu : ME Bool) : ME Bool := iteM mt mu (bM false)
def orM (mt mu : ME Bool) : ME Bool := iteM mt (bM true) mu
def notM (mt : ME Bool) : ME Bool := bindM mt fun t => bM (!t)
theorem sh_and1 (ha : ST X W a mt) : SWh X W (.BoolOp .And [a] pos) mt := pw_and1 ha
theorem sh_or1 (ha : ST X W a mt) : SWh X W (.BoolOp .Or [a] pos) mt := pw_or1 ha
theorem sh_and (ha : ST X W a mt) (hb : SWh X W (.BoolOp .And (b :: rest) pos) mu) : SWh X W (.BoolOp .And (a :: b :: rest) pos) (andM mt mu) :=
  PW.imp (pw_and ha hb) fun σ H Q h => by
    obtain ⟨g, ρ, b, α, β, r, p⟩ := ite_read h
    refine ⟨g, ρ, b, α, β, r, ?_⟩
    cases e : mt ρ b with
    | ok k b' =>
      rw [e] at p
      intro x H' l kk q
      have z := p x H' l kk q
      cases x with
      | true => exact z
      | false =>
        obtain ⟨g2, ρ2, b2, α2, β2, r2, p2⟩ := z
        exact tR_end r2 p2 rfl
    | ex x b' => rw [e] at p; exact p
    | bad => rw [e] at p; exact p
theorem sh_or (ha : ST X W a mt) (hb : SWh X W (.BoolOp .Or (b :: rest) pos) mu) : SWh X W (.BoolOp .Or (a :: b :: rest) pos) (orM mt mu) :=
  PW.imp (pw_or ha hb) fun σ H Q h => by
    obtain ⟨g, ρ, b, α, β, r, p⟩ := ite_read h
    refine ⟨g, ρ, b, α, β, r, ?_⟩
    cases e : mt ρ b with
    | ok k b' =>
      rw [e] at p
      intro x H' l kk q
      have z := p x H' l kk q
      cases x with
      | false => exact z
      | true =>
        obtain ⟨g2, ρ2, b2, α2, β2, r2, p2⟩ := z
        exact tR_end r2 p2 rfl
    | ex x b' => rw [e] at p; exact p
    | bad => rw [e] at p; exact p
theorem SWh.t (h : SWh X W a mt) : ST X W a mt := PW.pt h
theorem st_not (ha : ST X W a mt) : ST X W (.UnaryOp .Not a pos) (notM mt) :=
  PT.imp (pt_not ha) fun σ H Q h => by
    refine tR_bind (L := lB) h fun g ρ b α β k x H1 r l p => ?_
    have l : k = x := l
    subst l
    exact p _ H1 rfl (Keep.refl _ _) r.box
/-- as values -/
def b2M (mt : ME Bool) : ME D := bindM mt fun k => cM (.bool k)
def andV (ma mb : ME D) : ME D := bindM (tstM ma) fun k => if k = true then mb else cM (.bool false)
def orV (ma mb : ME D) : ME D := bindM (tstM ma) fun k => if k = true then cM (.bool true) else mb
def notV (ma : ME D) : ME D := bindM (tstM ma) fun k => cM (.bool (!k))
theorem tst_bind {τ υ : Type} {L : Rl τ υ} {f : Bool → ME τ} {σ : L2.St} {H : Hp} {Q : υ → Hp → Prop} {Q1 : Bool → Hp → Prop} (h : tR (Cx.z X) L W (bindM (tstM ma) f) σ H Q)
    (k : ∀ g ρ b α β c H1, RE X.K g H1 ρ b σ α β → PostR (Cx.z X) L W (OW g ρ α β) g β σ H1 Q (f c ρ b) → Q1 c H1) : tR (Cx.z X) (lW X.K) W ma σ H fun x H' => ∃ c, x = .bl c ∧ Q1 c H' := by
  refine tst_read (tR_bind (L := lB) (Q1 := Q1) h fun g ρ b α β c x H1 r l p => ?_)
  have l : c = x := l
  subst l
  exact k g ρ b α β c H1 r p
theorem se_one {op} (h : SE X W a ma) : SE X W (.BoolOp op [a] pos) ma := pe_one h
theorem se_and (ha : SW X W a ma) (hb : SE X W (.BoolOp .And (b :: rest) pos) mb) : SE X W (.BoolOp .And (a :: b :: rest) pos) (andV ma mb) :=
  PE.imp (pe_and ha hb) fun σ H Q h => tst_bind h fun g ρ b α β c H1 r p => by
    cases c with
    | true => exact ⟨g, ρ, b, α, β, r, p⟩
    | false => exact p _ H1 (.bl _) (Keep.refl _ _) r.box
theorem se_or (ha : SW X W a ma) (hb : SE X W (.BoolOp .Or (b :: rest) pos) mb) : SE X W (.BoolOp .Or (a :: b :: rest) pos) (orV ma mb) :=
  PE.imp (pe_or ha hb) fun σ H Q h => tst_bind h fun g ρ b α β c H1 r p => by
    cases c with
    | false => exact ⟨g, ρ, b, α, β, r, p⟩
    | true => exact p _ H1 (.bl _) (Keep.refl _ _) r.box
theorem se_not (ha : SW X W a ma) : SE X W (.UnaryOp .Not a pos) (notV ma) :=
  PE.imp (pe_not ha) fun σ H Q h => tst_bind h fun g ρ b α β c H1 r p => p _ H1 (.bl _) (Keep.refl _ _) r.box
theorem se_if (hc : ST X W c mt) (ha : SE X W a ma) (hb : SE X W b mb) : SE X W (.IfExp c a b pos) (iteM mt ma mb) :=
  PE.imp (pe_ifExp hc ha hb) fun σ H Q h => ite_read h
theorem sw_if (hc : ST X W c mt) (ha : SW X W a ma) (hb : SW X W b mb) : SW X W (.IfExp c a b pos) (iteM mt ma mb) :=
  PE.imp (pe_ifExp hc ha hb) fun σ H Q h => ite_read h
/-- truth of a number, a text, a sequence -/
def truD : D → Option Bool
  | .none => some false
  | .bool b => some b
  | .int i => some (i != 0)
  | .str z => if z.length ≤ sizeLine then some ((z.length : Int) != 0) else none
  | .list ds => some (!ds.isEmpty)
  | .tuple ds => some (!ds.isEmpty)
  | .dict _ => none
def truM (m : ME D) : ME Bool := bindM m fun d => liftO (truD d)
theorem isE_of {K : PySem.W.Frag} {O : Own} {H : Hp} {ds : List D} {vs : List V} (r : RDs K O H ds vs) : ds.isEmpty = vs.isEmpty := by
  have := r.length
  cases ds <;> cases vs <;> simp_all
theorem st_truth (ha : SW X W a ma) (he : ∀ whole, isTrue a X.env whole = (do let v ← whole; standAt a.pos; holding [v] (truthy v)) := by intro _; rfl) : ST X W a (truM ma) :=
  PT.imp (pt_truth ha he) fun σ H Q h => by
    refine tR_bind h fun g ρ b α β d x H1 r l p => ?_
    obtain ⟨k, ek, q⟩ := post_lift p
    have fin := q k H1 rfl (Keep.refl _ _) r.box
    cases d with
    | none => rw [l.non]; cases ek; exact ⟨_, rfl, fin⟩
    | bool b => rw [l.bl]; cases ek; exact ⟨_, rfl, fin⟩
    | int i => rw [l.int]; cases ek; exact ⟨_, rfl, fin⟩
    | str z =>
      rw [l.str]
      simp only [truD] at ek
      split at ek
      · rename_i hz
        cases ek
        exact ⟨_, ⟨hz, rfl⟩, fin⟩
      · cases ek
    | list ds =>
      obtain ⟨a, vs, rfl, h1, h2⟩ := l.lst
      cases ek
      rw [isE_of h2] at fin
      exact ⟨_, .inl ⟨vs, h1, rfl⟩, fin⟩
    | tuple ds =>
      obtain ⟨a, vs, rfl, h1, h2⟩ := l.tup
      cases ek
      rw [isE_of h2] at fin
      exact ⟨_, .inr (.inl ⟨vs, h1, rfl⟩), fin⟩
    | dict _ => cases ek

/-! ### lists of expressions -/
def nilM : ME (List D) := fun _ b => .ok [] b
def consM (ma : ME D) (ms : ME (List D)) : ME (List D) := bindM ma fun d => bindM ms fun ds => fun _ b => .ok (d :: ds) b
theorem sa_nil : SA X W [] nilM := PA.imp pa_nil fun σ H Q ⟨g, ρ, b, α, β, r, p⟩ => p [] H .nil (Keep.refl _ _) r.box
theorem sa_cons (ha : SE X W e ma) (hr : SA X W es ms) (hs : starEach (e :: es) X.env = (false, eval e X.env) :: starEach es X.env := by rfl) : SA X W (e :: es) (consM ma ms) :=
  PA.imp (pa_cons ha hr hs) fun σ H Q h => tR_bind2 pers_D h fun g ρ b α β a c x y H1 r l1 l2 p => p (x :: y) H1 (.cons l1 l2) (Keep.refl _ _) r.box
theorem saw_nil : SAW X W [] nilM := PA.imp pa_nil fun σ H Q ⟨g, ρ, b, α, β, r, p⟩ => p [] H .nil (Keep.refl _ _) r.box
theorem saw_cons (ha : SW X W e ma) (hr : SAW X W es ms) (hs : starEach (e :: es) X.env = (false, eval e X.env) :: starEach es X.env := by rfl) : SAW X W (e :: es) (consM ma ms) :=
  PA.imp (pa_cons ha hr hs) fun σ H Q h => tR_bind2 pers_W h fun g ρ b α β a c x y H1 r l1 l2 p => p (x :: y) H1 (.cons l1 l2) (Keep.refl _ _) r.box
def tupM (ms : ME (List D)) : ME D := bindM ms fun ds => liftO (if ds.length ≤ sizeLine then some (.tuple ds) else none)
def lstM (ms : ME (List D)) : ME D := bindM ms fun ds => liftO (if ds.length ≤ sizeLine then some (.list ds) else none)
theorem se_tup {k} (h : SA X W es ms) : SE X W (.Tuple es k pos) (tupM ms) := PE.imp (pe_tup h) fun σ H Q h => by
  refine tR_bind h fun g ρ b α β ds xs H1 r l p => ?_
  obtain ⟨d, ed, q⟩ := post_lift p
  split at ed
  · rename_i hz
    cases ed
    exact ⟨by rw [← l.length]; exact hz, fun p hp => q _ _ (RD.newT r.gd hp l) (Keep.upd hp).of0 (r.box.keep0 (Keep.upd hp))⟩
  · cases ed
theorem se_lst (h : SA X W es ms) : SE X W (.List es pos) (lstM ms) := PE.imp (pe_lst h) fun σ H Q h => by
  refine tR_bind h fun g ρ b α β ds xs H1 r l p => ?_
  obtain ⟨d, ed, q⟩ := post_lift p
  split at ed
  · rename_i hz
    cases ed
    exact ⟨by rw [← l.length]; exact hz, fun p hp => q _ _ (RD.newL r.gd hp l) (Keep.upd hp).of0 (r.box.keep0 (Keep.upd hp))⟩
  · cases ed
theorem se_at (ha : SW X W a ma) (hb : SW X W b mb) (hs : PlainIx b := by exact fun _ _ => rfl) : SE X W (.Subscript a b pos) (opM atD ma mb) := PE.imp (pe_ix o_at ha hb hs) fun σ H Q h => op_read h
/-- a slice's part -/
def SO (X : Cx) (W : WX) (e : Option Expr) (m : ME (Option Int)) : Prop := PO X e (tR (Cx.z X) (fun _ _ _ a b => a = b) W m)
def noM : ME (Option Int) := fun _ b => .ok none b
def toI : D → Option Int
  | .int i => some i
  | _ => none
def soM (m : ME D) : ME (Option Int) := bindM m fun d => liftO ((toI d).map some)
theorem so_none : SO X W none noM := ⟨fun pins s σ H Q I ⟨g, ρ, b, α, β, r, p⟩ => po_none.run pins s σ H Q I (p none H rfl (Keep.refl _ _) r.box)⟩
theorem so_some (h : SW X W e ma) : SO X W (some e) (soM ma) := ⟨fun pins s σ H Q I h' => (po_some h).run pins s σ H Q I (by
  refine tR_bind h' fun g ρ b α β d x H1 r l p => ?_
  obtain ⟨k, ek, q⟩ := post_lift p
  obtain ⟨i, ei, rfl⟩ := Option.map_eq_some_iff.mp ek
  cases d <;> first | cases ei | skip
  exact ⟨_, l.int, q _ H1 rfl (Keep.refl _ _) r.box⟩)⟩
def cutD (xs : List D) (lo hi : Option Int) : List D := (xs.drop (HT.sIx xs.length 0 lo)).take (HT.sIx xs.length xs.length hi - HT.sIx xs.length 0 lo)
def slD (lo hi : Option Int) : D → Option D
  | .list xs => some (.list (cutD xs lo hi))
  | .tuple xs => some (.tuple (cutD xs lo hi))
  | _ => none
def slM (ma : ME D) (ml mh : ME (Option Int)) : ME D := bindM ma fun d => bindM ml fun lo => bindM mh fun hi => liftO (slD lo hi d)
theorem cut_rds {K : PySem.W.Frag} {O : Own} {H : Hp} {ds : List D} {vs : List V} (r : RDs K O H ds vs) (lo hi : Option Int) : RDs K O H (cutD ds lo hi) (cutV vs lo hi) := by
  unfold cutD cutV
  rw [← r.length]
  exact (r.drop _).take _
theorem se_sl {lo hi : Option Expr} {ml mh : ME (Option Int)} {p2 : Pos} (ha : SW X W a ma) (hl : SO X W lo ml) (hh : SO X W hi mh) : SE X W (.Subscript a (.Slice lo hi none p2) pos) (slM ma ml mh) :=
  PE.imp (pe_slice (sl_list.or sl_tupA) ha hl hh) fun σ H Q h => by
    refine tR_bind2 pers_W h fun g ρ b α β d lo' x lo H1 r l1 l2 p => ?_
    have l2 : lo' = lo := l2
    subst l2
    refine ⟨g, ρ, b, α, β, r, post_bind p fun hi' b' hi H2 l3 k q p2 => ?_⟩
    have l3 : hi' = hi := l3
    subst l3
    have r2 := r.step k q
    have l1 := pers_W _ _ _ _ _ _ r.gd.sub k l1
    obtain ⟨z, ez, q3⟩ := post_lift p2
    cases d <;> first | cases ez | skip
    · obtain ⟨a, vs, rfl, h1, h2⟩ := l1.lst
      exact .inl ⟨a, vs, rfl, h1, fun p hp => q3 _ _ (RD.newL r2.gd hp (cut_rds h2 _ _)) (Keep.upd hp).of0 (r2.box.keep0 (Keep.upd hp))⟩
    · rename_i ds _
      obtain ⟨a, vs, rfl, h1, h2⟩ := l1.tup
      refine .inr ⟨a, vs, rfl, h1, fun hw => ?_, fun _ p hp => q3 _ _ (RD.newT r2.gd hp (cut_rds h2 _ _)) (Keep.upd hp).of0 (r2.box.keep0 (Keep.upd hp))⟩
      have e : cutD ds lo' hi' = ds := by
        unfold cutD
        rw [h2.length, hw.1, hw.2, ← h2.length]
        simp
      rw [e] at q3
      exact q3 _ H2 (l1.rd (fun _ z => by cases z)) (Keep.refl _ _) r2.box

/-! ### built-ins -/
def rF (K : PySem.W.Frag) (f : List D → Option D) : List V → Hp → VK → Prop := fun xs H Q => ∃ O B ds z, Gd O B H ∧ RWs K O B H ds xs ∧ f ds = some z ∧ ∀ v H', RD K O H' z v → Keep nobody H H' → Q v H'
def cbM (f : List D → Option D) (ms : ME (List D)) : ME D := bindM ms fun ds => liftO (f ds)
theorem cb_read {f : List D → Option D} {σ : L2.St} {H : Hp} {Q : VK} (h : tR (Cx.z X) (lD X.K) W (cbM f ms) σ H Q) : tCB (rF X.K f) (tR (Cx.z X) (lWs X.K) W ms) σ H Q := by
  refine tR_bind h fun g ρ b α β ds xs H1 r l p => ?_
  obtain ⟨z, ez, q⟩ := post_lift p
  exact ⟨_, _, ds, z, r.gd, l, ez, fun v H' rv k => q v H' rv k.of0 (r.box.keep0 k)⟩
theorem se_cb {x : Str} {id : String} {p : Pos} {f : List D → Option D} (hf : CallR X (.builtin id) (rF X.K f)) (hg : Gl X x) (hm : X.mg x = none) (hv : bootBuiltins x = some (.builtin id)) (ha : SAW X W (e :: es) ms)
    (hn : x ≠ "__name__" := by decide) (hdb : (x == ("__debug__" : Str)) = false := by decide)
    (he : starEach (e :: es) X.env = (false, eval e X.env) :: starEach es X.env := by rfl) (hpl : (backTo pos (starEach es X.env)).any (·.1) = false := by rfl) : SE X W (.Call (.Name x p) (e :: es) [] pos) (cbM f ms) :=
  PE.imp (pe_callB hf hg hm hv ha hn hdb he hpl) fun σ H Q h => cb_read h
theorem se_ct {x : Str} {T : String} {p : Pos} {f : List D → Option D} (hf : CallR X (.type T) (rF X.K f)) (hg : Gl X x) (hm : X.mg x = none) (hv : bootBuiltins x = some (.type T)) (ha : SAW X W (e :: es) ms)
    (hn : x ≠ "__name__" := by decide) (hdb : (x == ("__debug__" : Str)) = false := by decide)
    (he : starEach (e :: es) X.env = (false, eval e X.env) :: starEach es X.env := by rfl) (hpl : (backTo pos (starEach es X.env)).any (·.1) = false := by rfl) : SE X W (.Call (.Name x p) (e :: es) [] pos) (cbM f ms) :=
  PE.imp (pe_callTy hf hg hm hv ha hn hdb he hpl) fun σ H Q h => cb_read h
def lenF : List D → Option D
  | [.list xs] => some (.int xs.length)
  | [.tuple xs] => some (.int xs.length)
  | [.str z] => if z.length ≤ sizeLine then some (.int z.length) else none
  | _ => none
theorem f_len : CallR X (.builtin "len") (rF X.K lenF) := by
  intro pins s σ H xs us Q I r ⟨O, B, ds, z, G, l, ez, q⟩
  unfold lenF at ez
  split at ez
  · cases ez
    obtain ⟨v, rfl, w1⟩ := l.one
    obtain ⟨a, vs, rfl, h1, h2⟩ := w1.lst
    rw [h2.length] at q
    exact call_len_seq pins s σ H _ us Q I r ⟨a, vs, rfl, .inl h1, q _ H (.int _) (Keep.refl _ _)⟩
  · cases ez
    obtain ⟨v, rfl, w1⟩ := l.one
    obtain ⟨a, vs, rfl, h1, h2⟩ := w1.tup
    rw [h2.length] at q
    exact call_len_seq pins s σ H _ us Q I r ⟨a, vs, rfl, .inr h1, q _ H (.int _) (Keep.refl _ _)⟩
  · split at ez
    · rename_i hz
      cases ez
      obtain ⟨v, rfl, w1⟩ := l.one
      rw [w1.str] at r
      exact call_len_str pins s σ H _ us Q I r ⟨_, rfl, hz, q _ H (.int _) (Keep.refl _ _)⟩
    · cases ez
  · cases ez
def absF : List D → Option D
  | [.int i] => some (.int (if i < 0 then -i else i))
  | _ => none
theorem f_abs : CallR X (.builtin "abs") (rF X.K absF) := by
  intro pins s σ H xs us Q I r ⟨O, B, ds, z, G, l, ez, q⟩
  unfold absF at ez
  split at ez
  · cases ez
    obtain ⟨v, rfl, w1⟩ := l.one
    rw [w1.int] at r
    exact call_abs pins s σ H _ us Q I r ⟨_, rfl, q _ H (.int _) (Keep.refl _ _)⟩
  · cases ez
def intF : List D → Option D
  | [.int i] => some (.int i)
  | [.bool k] => some (.int (if k then 1 else 0))
  | _ => none
theorem f_int : CallR X (.type "int") (rF X.K intF) := by
  intro pins s σ H xs us Q I r ⟨O, B, ds, z, G, l, ez, q⟩
  unfold intF at ez
  split at ez
  · cases ez
    obtain ⟨v, rfl, w1⟩ := l.one
    rw [w1.int] at r
    exact call_int1 pins s σ H _ us Q I r (.inl ⟨_, rfl, q _ H (.int _) (Keep.refl _ _)⟩)
  · cases ez
    obtain ⟨v, rfl, w1⟩ := l.one
    rw [w1.bl] at r
    exact call_int1 pins s σ H _ us Q I r (.inr ⟨_, rfl, q _ H (.int _) (Keep.refl _ _)⟩)
  · cases ez
def tupleF : List D → Option D
  | [.list xs] => some (.tuple xs)
  | [.tuple xs] => some (.tuple xs)
  | _ => none
theorem f_tuple : CallR X (.type "tuple") (rF X.K tupleF) := by
  intro pins s σ H xs us Q I r ⟨O, B, ds, z, G, l, ez, q⟩
  unfold tupleF at ez
  split at ez
  · cases ez
    obtain ⟨v, rfl, w1⟩ := l.one
    obtain ⟨a, vs, rfl, h1, h2⟩ := w1.lst
    exact call_tuple_of pins s σ H _ us Q I r ⟨a, vs, rfl, .inl ⟨h1, fun p hp => q _ _ (RD.newT G hp h2) (Keep.upd hp)⟩⟩
  · cases ez
    obtain ⟨v, rfl, w1⟩ := l.one
    have l' := w1
    obtain ⟨a, vs, rfl, h1, h2⟩ := w1.tup
    exact call_tuple_of pins s σ H _ us Q I r ⟨a, vs, rfl, .inr ⟨h1, q _ H (l'.rd (fun _ z => by cases z)) (Keep.refl _ _)⟩⟩
  · cases ez
def listF : List D → Option D
  | [.list xs] => some (.list xs)
  | [.tuple xs] => some (.list xs)
  | _ => none
theorem f_list : CallR X (.type "list") (rF X.K listF) := by
  intro pins s σ H xs us Q I r ⟨O, B, ds, z, G, l, ez, q⟩
  unfold listF at ez
  split at ez
  · cases ez
    obtain ⟨v, rfl, w1⟩ := l.one
    obtain ⟨a, vs, rfl, h1, h2⟩ := w1.lst
    exact call_list_of pins s σ H _ us Q I r ⟨a, vs, rfl, .inl h1, fun p hp => q _ _ (RD.newL G hp h2) (Keep.upd hp)⟩
  · cases ez
    obtain ⟨v, rfl, w1⟩ := l.one
    obtain ⟨a, vs, rfl, h1, h2⟩ := w1.tup
    exact call_list_of pins s σ H _ us Q I r ⟨a, vs, rfl, .inr h1, fun p hp => q _ _ (RD.newL G hp h2) (Keep.upd hp)⟩
  · cases ez
end
end Fs

/-! F6: statements, defs, calls of defs. -/
namespace Fs
open L2 PyProof.Rows PySem.Spec PySem

/-- behind a return -/
def RetOk (Z : Zx) (g : Gh) (H' : Hp) (d : D) (v : V) (b' : Bx) : Prop :=
  RD Z.K (fun a => g.Of a ∨ g.fo = some a) H' d v ∧ Keep (fun a => g.fo = some a) g.H0 H' ∧ ∀ x y z, b' = .fo x y z → ∃ a, g.fo = some a ∧ H' a = some (BxV x y z)
def PostS (Z : Zx) (W : WX) (g : Gh) (D : Ends) : SR → Prop
  | .nx ρ b => ∀ σ H α β, RE Z.K g H ρ b σ α β → D.nx σ H
  | .rt d b => ∀ v H, RetOk Z g H d v b → D.rt v H
  | .bk ρ b => ∀ σ H α β, RE Z.K g H ρ b σ α β → D.bk σ H
  | .ct ρ b => ∀ σ H α β, RE Z.K g H ρ b σ α β → D.ct σ H
  | .ex e ρ b => ∀ cls dd σ H α β, RE Z.K g H ρ b σ α β → ExR Z (OW g ρ α β) H e cls dd → W cls dd σ H
  | .bad => False
def tS (Z : Zx) (W : WX) (m : MS) : TS := fun D σ H => ∃ g ρ b α β, RE Z.K g H ρ b σ α β ∧ PostS Z W g D (m ρ b)
def SS (X : Cx) (W : WX) (st : Stmt) (m : MS) : Prop := PS X st (tS (Cx.z X) W m)
def SB (X : Cx) (W : WX) (sts : List Stmt) (m : MS) : Prop := PSs X sts (tS (Cx.z X) W m)
theorem PS.imp {X : Cx} {st : Stmt} {t t' : TS} (h : PS X st t) (i : ∀ D σ H, t' D σ H → t D σ H) : PS X st t' := ⟨fun pins s σ H D I q => h.run pins s σ H D I (i D σ H q)⟩
theorem PSs.imp {X : Cx} {st : List Stmt} {t t' : TS} (h : PSs X st t) (i : ∀ D σ H, t' D σ H → t D σ H) : PSs X st t' := ⟨fun pins s σ H D I q => h.run pins s σ H D I (i D σ H q)⟩

def skipM : MS := fun ρ b => .nx ρ b
def seqM (m n : MS) : MS := fun ρ b => match m ρ b with
  | .nx ρ' b' => n ρ' b'
  | r => r
/-- an expression, then -/
def exprM {τ : Type} (m : ME τ) (k : τ → MS) : MS := fun ρ b => match m ρ b with
  | .ok a b' => k a ρ b'
  | .ex e b' => .ex e ρ b'
  | .bad => .bad
section
variable {X : Cx} {W : WX} {e a c : Expr} {es : List Expr} {st : Stmt} {rest sa sb : List Stmt} {ma : ME D} {mt : ME Bool} {ms : ME (List D)} {m n : MS} {pos : Pos}
theorem sb_nil : SB X W [] skipM := PSs.imp pss_nil fun D σ H ⟨g, ρ, b, α, β, r, p⟩ => p σ H α β r
theorem post_seq {g : Gh} {D : Ends} {ρ : En} {b : Bx} (h : PostS (Cx.z X) W g D (seqM m n ρ b)) : PostS (Cx.z X) W g { D with nx := tS (Cx.z X) W n D } (m ρ b) := by
  unfold seqM at h
  split at h
  · rename_i ρ' b' e
    rw [e]
    exact fun σ H α β r => ⟨g, ρ', b', α, β, r, h⟩
  · rename_i r hr
    cases q : m ρ b with
    | nx ρ' b' => exact absurd q (hr ρ' b')
    | rt d b' => rw [q] at h; exact h
    | bk _ _ => rw [q] at h; exact h
    | ct _ _ => rw [q] at h; exact h
    | ex _ _ _ => rw [q] at h; exact h
    | bad => rw [q] at h; exact h
theorem sb_cons (h1 : SS X W st m) (h2 : SB X W rest n) : SB X W (st :: rest) (seqM m n) := PSs.imp (pss_cons h1 h2) fun D σ H ⟨g, ρ, b, α, β, r, p⟩ => ⟨g, ρ, b, α, β, r, post_seq p⟩
theorem sb_one (h : SS X W st m) : SB X W [st] m := pss_one h
/-- the expression's reading out of a statement's -/
theorem expr_read {τ υ : Type} {L : Rl τ υ} {me : ME τ} {k : τ → MS} {D : Ends} {σ : L2.St} {H : Hp} {Q : υ → Hp → Prop} (h : tS (Cx.z X) W (exprM me k) D σ H)
    (q : ∀ g ρ b α β a x H1, RE X.K g H1 ρ b σ α β → Keep (Bs β) H H1 → L (OW g ρ α β) (Bs β) H1 a x → PostS (Cx.z X) W g D (k a ρ b) → Q x H1) : tR (Cx.z X) L W me σ H Q := by
  obtain ⟨g, ρ, b, α, β, r, p⟩ := h
  refine ⟨g, ρ, b, α, β, r, ?_⟩
  unfold exprM at p
  cases e : me ρ b with
  | ok a b' =>
    rw [e] at p
    exact fun x H1 l kk qq => q g ρ b' α β a x H1 (r.step kk qq) kk l p
  | ex x b' =>
    rw [e] at p
    exact fun cls dd H1 l kk qq => p cls dd σ H1 α β (r.step kk qq) l
  | bad => rw [e] at p; exact p.elim
theorem ss_pass : SS X W (.Pass pos) skipM := PS.imp ps_pass fun D σ H ⟨g, ρ, b, α, β, r, p⟩ => p σ H α β r
def breakM : MS := fun ρ b => .bk ρ b
def contM : MS := fun ρ b => .ct ρ b
theorem ss_break : SS X W (.Break pos) breakM := PS.imp ps_break fun D σ H ⟨g, ρ, b, α, β, r, p⟩ => p σ H α β r
theorem ss_cont : SS X W (.Continue pos) contM := PS.imp ps_continue fun D σ H ⟨g, ρ, b, α, β, r, p⟩ => p σ H α β r
/-- an expression alone -/
def dropM (ma : ME D) : MS := exprM ma fun _ ρ b => .nx ρ b
theorem ss_expr (h : SW X W e ma) (hs : swapsWith e none pos.line X.env = pure false := by rfl) : SS X W (.Expr e pos) (dropM ma) :=
  PS.imp (ps_expr h hs) fun D σ H h => expr_read h fun g ρ b α β a x H1 r _ l p => p σ H1 α β r
/-! ### return -/
theorem RE.ret {g : Gh} {H : Hp} {ρ : En} {b : Bx} {σ : L2.St} {α : Nat → Addr} {β : Option Addr} (r : RE X.K g H ρ b σ α β) {d : D} {v : V} (h : RD X.K (fun a => g.Of a ∨ g.fo = some a) H d v) : RetOk (Cx.z X) g H d v b :=
  ⟨h, r.evo, fun x y z e => by
    have q := r.box
    subst e
    obtain ⟨a, _, e2, e3⟩ := q
    exact ⟨a, e2, e3⟩⟩
theorem RE.foB {g : Gh} {H : Hp} {ρ : En} {b : Bx} {σ : L2.St} {α : Nat → Addr} {β : Option Addr} (r : RE X.K g H ρ b σ α β) {a : Addr} (h : g.fo = some a) : β = some a := by
  have q := r.box
  cases b with
  | no => rw [q.2] at h; cases h
  | fo x y z =>
    obtain ⟨a', e1, e2, _⟩ := q
    rw [h] at e2; cases e2
    exact e1
  | ow x y z =>
    obtain ⟨a', _, e2, _⟩ := q
    rw [h] at e2; cases e2
def retM (ma : ME D) : MS := exprM ma fun d _ b => .rt d b
theorem ss_ret (h : SE X W e ma) : SS X W (.Return (some e) pos) (retM ma) :=
  PS.imp (ps_ret h) fun D σ H h => expr_read h fun g ρ b α β a x H1 r _ l p => p x H1 (r.ret (l.own fun a u _ z => by
    rcases z with z | z
    · exact .inl z
    · exact .inr (.inl (r.foB z))))
/-- return of a list of one's own -/
def retOwnM (i : Nat) : MS := fun ρ b => match ρ[i]? with
  | some (.own xs) => .rt (.list xs) b
  | _ => .bad
theorem ss_retOwn {i : Nat} {x : Str} {p1 : Pos} (hN : X.N[i]? = some x) (hv : Vis X.env.scope x) (hd : (x == ("__debug__" : Str)) = false := by decide) (hcd : (x == ("__classdict__" : Str)) = false := by decide) : SS X W (.Return (some (.Name x p1)) pos) (retOwnM i) :=
  PS.imp (ps_ret (pe_var hN hv hd hcd)) fun D σ H ⟨g, ρ, b, α, β, r, p⟩ => by
    unfold retOwnM at p
    split at p
    · rename_i xs e
      obtain ⟨vs, e1, e2, e3, e4, e5⟩ := r.own i xs e
      refine ⟨_, e1, p _ H (r.ret (.lst ⟨.inl e2, fun z => ?_⟩ (e3.own fun a u _ z => ?_)))⟩
      · rcases z with z | z
        · obtain ⟨ys, e⟩ := r.oft _ z
          obtain ⟨o, e⟩ := rd_some e
          rw [e4] at e; cases e
        · exact e5 (r.foB z)
      · rcases z with z | z
        · exact .inl z
        · exact .inr (.inl (r.foB z))
    · exact p.elim
def retNM : MS := fun _ b => .rt .none b
theorem ss_retN : SS X W (.Return none pos) retNM := PS.imp ps_retN fun D σ H ⟨g, ρ, b, α, β, r, p⟩ => p _ H (r.ret .non)
/-! ### if -/
def ifM (mt : ME Bool) (m n : MS) : MS := exprM mt fun t => if t = true then m else n
theorem ss_if (hc : ST X W c mt) (ha : SB X W sa m) (hb : SB X W sb n) : SS X W (.If c sa sb pos) (ifM mt m n) :=
  PS.imp (ps_if hc ha hb) fun D σ H h => expr_read (L := lB) h fun g ρ b α β a x H1 r _ l p => by
    have l : a = x := l
    subst l
    cases a with
    | true => exact ⟨g, ρ, b, α, β, r, p⟩
    | false => exact ⟨g, ρ, b, α, β, r, p⟩
/-! ### a name is given -/
theorem set_at {ρ : En} {i : Nat} {sl : Sl} (h : i < ρ.length) : (ρ.set i sl)[i]? = some sl := by simp [h]
theorem set_ne {ρ : En} {i j : Nat} {sl : Sl} (h : i ≠ j) : (ρ.set i sl)[j]? = ρ[j]? := by simp [h]
theorem own_set {g : Gh} {ρ : En} {α : Nat → Addr} {β : Option Addr} {i : Nat} {sl : Sl} (hs : ∀ xs, sl ≠ .own xs) : ∀ a, OW g (ρ.set i sl) α β a → OW g ρ α β a := fun a h => by
  rcases h with h | h | ⟨j, xs, e, h⟩
  · exact .inl h
  · exact .inr (.inl h)
  · by_cases hij : i = j
    · subst hij
      by_cases hl : i < ρ.length
      · rw [set_at hl] at e
        exact absurd (Option.some.inj e) (hs xs)
      · rw [List.getElem?_eq_none (by simp; omega)] at e; cases e
    · rw [set_ne hij] at e
      exact .inr (.inr ⟨j, xs, e, h⟩)
/-- slot i is given what is no list of one's own -/
theorem RE.set {K : PySem.W.Frag} {g : Gh} {H : Hp} {ρ : En} {b : Bx} {σ : L2.St} {α : Nat → Addr} {β : Option Addr} (r : RE K g H ρ b σ α β) {i : Nat} {sl : Sl} {ov : Option V} (hi : i < σ.length) (hs : ∀ xs, sl ≠ .own xs)
    (hv : ∀ d, sl = .v d → ∃ v, ov = some v ∧ RD K (OW g ρ α β) H d v) (hl : ∀ xs, sl ≠ .lk xs) (hb : sl = .bx → ∃ a, β = some a ∧ ov = some (.ref a)) : RE K g H (ρ.set i sl) b (σ.set i ov) α β := by
  have hr : i < ρ.length := by rw [r.len]; exact hi
  have mono : ∀ a (u : HO), H a = some u → OW g (ρ.set i sl) α β a → OW g ρ α β a := fun a _ _ h => own_set hs a h
  refine ⟨by simp [r.len], r.evo, r.oft, r.ofo, fun j d e => ?_, fun j xs e => ?_, fun j k xs ys e1 e2 => ?_, fun j xs e => ?_, fun j e => ?_, r.box⟩
  · by_cases hij : i = j
    · subst hij
      rw [set_at hr] at e
      obtain ⟨v, e1, e2⟩ := hv d (Option.some.inj e)
      exact ⟨v, by simp [hi, e1], e2.own mono⟩
    · rw [set_ne hij] at e
      obtain ⟨v, e1, e2⟩ := r.val j d e
      exact ⟨v, by simp [hij, e1], e2.own mono⟩
  · by_cases hij : i = j
    · subst hij
      rw [set_at hr] at e
      exact absurd (Option.some.inj e) (hs xs)
    · rw [set_ne hij] at e
      obtain ⟨vs, e1, e2, e3, e4, e5⟩ := r.own j xs e
      exact ⟨vs, by simp [hij, e1], e2, e3.own mono, e4, e5⟩
  · have : i ≠ j := fun z => by
      subst z
      rw [set_at hr] at e1
      exact absurd (Option.some.inj e1) (hs xs)
    have : i ≠ k := fun z => by
      subst z
      rw [set_at hr] at e2
      exact absurd (Option.some.inj e2) (hs ys)
    rw [set_ne (by assumption)] at e1 e2
    exact r.inj j k xs ys e1 e2
  · by_cases hij : i = j
    · subst hij
      rw [set_at hr] at e
      exact absurd (Option.some.inj e) (hl xs)
    · rw [set_ne hij] at e
      obtain ⟨vs, e1, e2, e3, e4⟩ := r.lck j xs e
      exact ⟨vs, by simp [hij, e1], e2, e3, e4.own mono⟩
  · by_cases hij : i = j
    · subst hij
      rw [set_at hr] at e
      obtain ⟨a, e1, e2⟩ := hb (Option.some.inj e)
      exact ⟨a, e1, by simp [hi, e2]⟩
    · rw [set_ne hij] at e
      obtain ⟨a, e1, e2⟩ := r.bxs j e
      exact ⟨a, e1, by simp [hij, e2]⟩
theorem RE.setV {K : PySem.W.Frag} {g : Gh} {H : Hp} {ρ : En} {b : Bx} {σ : L2.St} {α : Nat → Addr} {β : Option Addr} (r : RE K g H ρ b σ α β) {i : Nat} {d : D} {v : V} (hi : i < σ.length) (hv : RD K (OW g ρ α β) H d v) : RE K g H (ρ.set i (.v d)) b (σ.set i (some v)) α β :=
  r.set hi (fun _ z => by cases z) (fun _ e => by cases e; exact ⟨v, rfl, hv⟩) (fun _ z => by cases z) (fun z => by cases z)
/-- name = e -/
def setM (i : Nat) (ma : ME D) : MS := exprM ma fun d ρ b => if i < ρ.length then .nx (ρ.set i (.v d)) b else .bad
theorem setM_post {g : Gh} {D : Ends} {i : Nat} {ρ : En} {d : PyData} {b : Bx} {σ : L2.St} {H : Hp} {α : Nat → Addr} {β : Option Addr} {v : V} (r : RE X.K g H ρ b σ α β) (l : RD X.K (OW g ρ α β) H d v)
    (p : PostS (Cx.z X) W g D (if i < ρ.length then .nx (ρ.set i (.v d)) b else .bad)) : D.nx (σ.set i (some v)) H := by
  split at p
  · rename_i hi
    exact p _ H α β (r.setV (by rw [← r.len]; exact hi) l)
  · exact p.elim
theorem ss_set {i : Nat} {x : Str} {pos' : Pos} (hN : X.N.Nodup) (hi : X.N[i]? = some x) (hx : Loc X.env.scope x) (he : SE X W e ma) (hs : swapsWith e (some (.Name x pos')) pos.line X.env = pure false := by rfl)
    (hf : X.fn x = true ∨ X.env.scope.names.lookup x = some .local := by first | exact .inl rfl | exact .inr rfl | assumption) : SS X W (.Assign [.Name x pos'] e pos) (setM i ma) :=
  PS.imp (ps_set hN hi hx he hs hf) fun D σ H h => expr_read h fun g ρ b α β d v H1 r _ l p => setM_post r l p
end
end Fs

/-! F7: defs by their bodies, calls; lists of one's own; loops. -/
namespace Fs
open L2 PyProof.Rows PySem.Spec PySem

/-! ### a def as a total function of data -/
inductive PR where
  | ok (d : D)
  | ex (e : Exn)
  | bad
abbrev FN := List D → PR
def spF (Z : Zx) (n : Nat) (fm : FN) : Sp := fun vs H Q E => vs.length = n ∧ ∃ (O : Own) (ds : List D), (∀ a, O a → ∃ xs, Rd H a (.lst xs)) ∧ RDs Z.K O H ds vs ∧ match fm ds with
  | .ok d => ∀ v H', RD Z.K O H' d v → Keep nobody H H' → Q v H'
  | .ex e => ∀ cls dd H', ExR Z O H' e cls dd → Keep nobody H H' → E cls dd H'
  | .bad => False
def fnM (n : Nat) (body : MS) : FN := fun ds => match body (ds.map .v ++ List.replicate (n - ds.length) .no) .no with
  | .nx _ _ => .ok .none
  | .rt d _ => .ok d
  | .ex e _ _ => .ex e
  | _ => .bad
def callM (n : Nat) (fm : FN) (ms : ME (List D)) : ME D := bindM ms fun ds _ b => if ds.length = n then (match fm ds with
  | .ok d => .ok d b
  | .ex e => .ex e b
  | .bad => .bad) else .bad
def noLx (e : Exn) : Bool := match e.arg with
  | some d => noL d
  | none => true
/-- a def that reads lists of one's own: what comes back holds no list -/
def callB (n : Nat) (fm : FN) (ms : ME (List D)) : ME D := bindM ms fun ds _ b => if ds.length = n then (match fm ds with
  | .ok d => if noL d then .ok d b else .bad
  | .ex e => if noLx e then .ex e b else .bad
  | .bad => .bad) else .bad

theorem start_re {K : PySem.W.Frag} {O : Own} {H : Hp} {N : List Str} {ds : List D} {vs : List V} (hO : ∀ a, O a → ∃ xs, Rd H a (.lst xs)) (r : RDs K O H ds vs) :
    RE K ⟨H, O, none, fun _ => 0⟩ H (ds.map Sl.v ++ List.replicate (N.length - ds.length) .no) .no (L2.start N vs) (fun _ => 0) none := by
  have hl := r.length
  have at_ : ∀ (i : Nat) (sl : Sl), (ds.map Sl.v ++ List.replicate (N.length - ds.length) .no)[i]? = some sl → (∃ d, ds[i]? = some d ∧ sl = .v d) ∨ sl = .no := fun i sl e => by
    by_cases hi : i < ds.length
    · rw [List.getElem?_append_left (by simpa using hi), List.getElem?_map] at e
      obtain ⟨d, h1, h2⟩ := Option.map_eq_some_iff.mp e
      exact .inl ⟨d, h1, h2.symm⟩
    · rw [List.getElem?_append_right (by simpa using hi)] at e
      rw [List.getElem?_replicate] at e
      split at e
      · exact .inr (Option.some.inj e).symm
      · cases e
  refine ⟨?_, Keep.refl _ _, hO, fun a h => (by cases h), fun i d e => ?_, fun i xs e => ?_, fun i j xs ys e => ?_, fun i xs e => ?_, fun i e => ?_, rfl, rfl⟩
  · unfold L2.start
    simp [hl]
  · rcases at_ i _ e with ⟨d', h1, h2⟩ | h
    · cases h2
      obtain ⟨v, e1, e2⟩ := r.get h1
      refine ⟨v, ?_, e2.own fun a u _ z => ?_⟩
      · unfold L2.start
        have : i < vs.length := (List.getElem?_eq_some_iff.mp e1).1
        rw [List.getElem?_append_left (by simpa using this), List.getElem?_map, e1]
        rfl
      · rcases z with z | z | ⟨j, xs, z, _⟩
        · exact z
        · cases z
        · rcases at_ j _ z with ⟨_, _, z⟩ | z <;> cases z
    · cases h
  all_goals (rcases at_ i _ e with ⟨_, _, z⟩ | z <;> cases z)

section
variable {P : Program} {w : World} {K : PySem.W.Frag} {mg : Str → Option Value} {base : Heap}
/-- a def keeps the promise of its body's function -/
theorem fn_sim {x qual : Str} {st : Stmt} {f : Addr} {fd : FuncData} {N ps : List Str} {k : Nat} {m : MS} (F : Fun K x qual st f fd) (S : FnScope N ps (defScope st))
    (hb : ∀ (cdv : Value) (A : Around) (outer : List Env) (s : Shared) (H : Hp) (E : XK), Room k (A.deeper (envOfC qual (defScope st) s.heap.objs.size f cdv)) →
      SB (cxOf (L2.CX P w) P w K mg base N qual (defScope st) f cdv A outer s H E) (fun cls d _ H => E cls d H) (defBody st) m) :
    FnOk P w K mg base (L2.CX P w) (k + 1) f fd ps (spF ⟨K, mg⟩ ps.length (fnM N.length m)) := by
  refine F.okX S (fun vs H Q E h => h.1) (fun cdv A outer s H vs Q E hr h => ⟨_, hb cdv A outer s H E hr, ?_⟩)
  obtain ⟨hl, O, ds, hO, r, h⟩ := h
  refine ⟨⟨H, O, none, fun _ => 0⟩, _, .no, fun _ => 0, none, start_re (N := N) hO r, ?_⟩
  have sub : ∀ {H' : Hp} {d : PyData} {v : V} {b : Bx}, RetOk ⟨K, mg⟩ ⟨H, O, none, fun _ => 0⟩ H' d v b → RD K O H' d v ∧ Keep nobody H H' := fun {H' d v b} q =>
    ⟨q.1.own fun a _ _ z => .inl z, q.2.1.mono fun a z => by cases z⟩
  unfold fnM at h
  cases e : m (List.map Sl.v ds ++ List.replicate (N.length - ds.length) Sl.no) .no with
  | nx ρ b =>
    rw [e] at h
    exact fun σ H' α β q => h .non H' .non (q.evo.mono fun a z => by cases z)
  | rt d b =>
    rw [e] at h
    exact fun v H' q => h v H' (sub q).1 (sub q).2
  | bk _ _ => rw [e] at h; exact h.elim
  | ct _ _ => rw [e] at h; exact h.elim
  | ex x ρ b =>
    rw [e] at h
    refine fun cls dd σ H' α β q ⟨C, h1, h2, h3⟩ => h cls dd H' ⟨C, h1, h2, ?_⟩ (q.evo.mono fun a z => by cases z)
    cases ea : x.arg with
    | none => rw [ea] at h3; exact h3
    | some d =>
      rw [ea] at h3
      obtain ⟨p, v, e1, e2, e3⟩ := h3
      exact ⟨p, v, e1, e2, e3.own fun a _ _ z => .inl z⟩
  | bad => rw [e] at h; exact h.elim
end

section
variable {X : Cx} {W : WX} {e a c : Expr} {es : List Expr} {ma : ME D} {ms : ME (List D)} {m n : MS} {pos p : Pos} {x : Str} {k n' : Nat} {f : Addr} {fd : FuncData} {ps : List Str} {fm : FN}
theorem call_read {n : Nat} {σ : L2.St} {H : Hp} {Q : VK} (h : tR (Cx.z X) (lD X.K) W (callM n fm ms) σ H Q) : tCallS (spF (Cx.z X) n fm) (WE W) (tR (Cx.z X) (lDs X.K) W ms) σ H Q := by
  obtain ⟨g, ρ, b, α, β, r, p⟩ := h
  refine ⟨g, ρ, b, α, β, r, ?_⟩
  unfold callM bindM at p
  cases e : ms ρ b with
  | ok ds b' =>
    rw [e] at p
    simp only [R.bind] at p
    split at p
    · rename_i hl
      refine fun vs H1 l kk q => ⟨by rw [← l.length, hl], OW g ρ α β, ds, (r.step kk q).ownL, l, ?_⟩
      cases ef : fm ds with
      | ok d =>
        rw [ef] at p
        exact fun v H2 l2 k2 => p v H2 l2 (kk.trans k2.of0) (q.keep0 k2)
      | ex x =>
        rw [ef] at p
        exact fun cls dd H2 l2 k2 => p cls dd H2 l2 (kk.trans k2.of0) (q.keep0 k2)
      | bad => rw [ef] at p; exact p
    · exact p.elim
  | ex x b' => rw [e] at p; exact p
  | bad => rw [e] at p; exact p
/-- f(e, ..) -/
theorem se_call (F : FnOk X.prog X.w X.K X.mg X.base (L2.CX X.prog X.w) k f fd ps (spF (Cx.z X) ps.length fm)) (hr : Room k X.A) (hg : Gl X x) (hm : X.mg x = some (.ref f)) (hk : PySem.W.keepIn X.K (.ref f) = true) (hb : Binds X.K fd ps []) (tk : Takes X W)
    (ha : SA X W (e :: es) ms) (hdb : (x == ("__debug__" : Str)) = false := by decide) (he : starEach (e :: es) X.env = (false, eval e X.env) :: starEach es X.env := by rfl) (hpl : (backTo pos (starEach es X.env)).any (·.1) = false := by rfl) :
    SE X W (.Call (.Name x p) (e :: es) [] pos) (callM ps.length fm ms) :=
  PE.imp (pe_callS F hr hg hm hk hb (fun σ => passAt tk σ) ha hdb he hpl) fun σ H Q h => call_read h
/-- what is borrowed: the addresses among the arguments -/
theorem borrow {K : PySem.W.Frag} {O B : Own} {H : Hp} (G : Gd O B H) {ds : List D} {vs : List V} (l : RWs K O B H ds vs) : RDs K (fun a => O a ∧ V.ref a ∉ vs) H ds vs := by
  have key : ∀ {es : List D} {ws : List V}, RWs K O B H es ws → (∀ v ∈ ws, v ∈ vs) → RDs K (fun a => O a ∧ V.ref a ∉ vs) H es ws := by
    intro es ws h
    induction h with
    | nil => intro _; exact .nil
    | cons a b ih =>
      intro hs
      refine .cons ?_ (ih fun v hv => hs v (List.mem_cons_of_mem _ hv))
      rcases a with a | ⟨xs, us, q, e1, e2, t, rs⟩
      · exact a.own fun _ _ _ z => z.1
      · subst e1 e2
        exact .lst ⟨t.1, fun z => z.2 (hs _ List.mem_cons_self)⟩ (rs.own fun _ _ _ z => z.1)
  exact key l fun _ h => h
theorem unborrow {K : PySem.W.Frag} {O B : Own} {H : Hp} (G : Gd O B H) {vs : List V} {d : D} {v : V} (n : noL d = true) (h : RD K (fun a => O a ∧ V.ref a ∉ vs) H d v) : RD K O H d v :=
  h.noL (fun a ha => .inr (G.lst a ha)) _ _ n
theorem callB_read {n : Nat} {σ : L2.St} {H : Hp} {Q : VK} (h : tR (Cx.z X) (lD X.K) W (callB n fm ms) σ H Q) : tCallS (spF (Cx.z X) n fm) (WE W) (tR (Cx.z X) (lWs X.K) W ms) σ H Q := by
  obtain ⟨g, ρ, b, α, β, r, p⟩ := h
  refine ⟨g, ρ, b, α, β, r, ?_⟩
  unfold callB bindM at p
  cases e : ms ρ b with
  | ok ds b' =>
    rw [e] at p
    simp only [R.bind] at p
    split at p
    · rename_i hl
      refine fun vs H1 l kk q => ?_
      have r1 := r.step kk q
      refine ⟨by rw [← l.length, hl], (fun a => OW g ρ α β a ∧ V.ref a ∉ vs), ds, fun a z => r1.ownL a z.1, borrow r1.gd l, ?_⟩
      cases ef : fm ds with
      | ok d =>
        rw [ef] at p
        refine fun v H2 l2 k2 => ?_
        have p' : PostR (Cx.z X) (lD X.K) W (OW g ρ α β) g β σ H Q (if noL d = true then .ok d b' else .bad) := p
        by_cases hn : noL d = true
        · rw [if_pos hn] at p'
          have r2 := r1.step k2.of0 (q.keep0 k2)
          exact p' v H2 (unborrow r2.gd hn l2) (kk.trans k2.of0) (q.keep0 k2)
        · rw [if_neg hn] at p'
          exact p'.elim
      | ex x =>
        rw [ef] at p
        refine fun cls dd H2 ⟨C, h1, h2, h3⟩ k2 => ?_
        have p' : PostR (Cx.z X) (lD X.K) W (OW g ρ α β) g β σ H Q (if noLx x = true then .ex x b' else .bad) := p
        by_cases hn : noLx x = true
        · rw [if_pos hn] at p'
          have r2 := r1.step k2.of0 (q.keep0 k2)
          refine p' cls dd H2 ⟨C, h1, h2, ?_⟩ (kk.trans k2.of0) (q.keep0 k2)
          unfold noLx at hn
          cases ea : x.arg with
          | none => rw [ea] at h3; exact h3
          | some d =>
            rw [ea] at h3 hn
            obtain ⟨p', v, e1, e2, e3⟩ := h3
            exact ⟨p', v, e1, e2, unborrow r2.gd hn e3⟩
        · rw [if_neg hn] at p'
          exact p'.elim
      | bad => rw [ef] at p; exact p
    · exact p.elim
  | ex x b' => rw [e] at p; exact p
  | bad => rw [e] at p; exact p
theorem se_callB (F : FnOk X.prog X.w X.K X.mg X.base (L2.CX X.prog X.w) k f fd ps (spF (Cx.z X) ps.length fm)) (hr : Room k X.A) (hg : Gl X x) (hm : X.mg x = some (.ref f)) (hk : PySem.W.keepIn X.K (.ref f) = true) (hb : Binds X.K fd ps []) (tk : Takes X W)
    (ha : SAW X W (e :: es) ms) (hdb : (x == ("__debug__" : Str)) = false := by decide) (he : starEach (e :: es) X.env = (false, eval e X.env) :: starEach es X.env := by rfl) (hpl : (backTo pos (starEach es X.env)).any (·.1) = false := by rfl) :
    SE X W (.Call (.Name x p) (e :: es) [] pos) (callB ps.length fm ms) :=
  PE.imp (pe_callS F hr hg hm hk hb (fun σ => passAt tk σ) ha hdb he hpl) fun σ H Q h => callB_read h
end
end Fs

/-! F8: lists of one's own: made, changed; loops. -/
namespace Fs
open L2 PyProof.Rows PySem.Spec PySem

/-! ### new lists -/
def PostN (Z : Zx) (W : WX) (O : Own) (g : Gh) (β : Option Addr) (σ : L2.St) (H : Hp) (Q : VK) : R (List D) → Prop
  | .ok ds b' => ∀ a vs H', H a = none → H' a = some (.lst vs) → RDs Z.K (fun x => O x ∨ x = a) H' ds vs → Keep (Bs β) H H' → BxR g H' b' β → Q (.ref a) H'
  | .ex e b' => ∀ cls dd H', ExR Z O H' e cls dd → Keep (Bs β) H H' → BxR g H' b' β → W cls dd σ H'
  | .bad => False
def tN (Z : Zx) (W : WX) (m : ME (List D)) : TE := fun σ H Q => ∃ g ρ b α β, RE Z.K g H ρ b σ α β ∧ PostN Z W (OW g ρ α β) g β σ H Q (m ρ b)
/-- an expression that makes a new list -/
def SN (X : Cx) (W : WX) (e : Expr) (m : ME (List D)) : Prop := PE X e (tN (Cx.z X) W m)
section
variable {X : Cx} {W : WX} {e a c : Expr} {es : List Expr} {ma : ME D} {ms : ME (List D)} {m n : MS} {pos p : Pos} {x : Str}
theorem free_back {g : Gh} {H H1 : Hp} {b : Bx} {β : Option Addr} (k : Keep (Bs β) H H1) (q : BxR g H1 b β) {p : Addr} (h : H1 p = none) : H p = none := by
  cases e : H p with
  | none => rfl
  | some u =>
    by_cases hb : β = some p
    · cases b with
      | no => rw [q.1] at hb; cases hb
      | fo x y z =>
        obtain ⟨a, e1, _, e3⟩ := q
        rw [hb] at e1; cases e1
        rw [h] at e3; cases e3
      | ow x y z =>
        obtain ⟨a, e1, _, _, e3⟩ := q
        rw [hb] at e1; cases e1
        rw [h] at e3; cases e3
    · have := k p u e hb
      rw [h] at this; cases this
def lsM (ms : ME (List D)) : ME D := bindM ms fun ds => cM (.list ds)
theorem SN.se (h : SN X W e ms) : SE X W e (lsM ms) := PE.imp h fun σ H Q ⟨g, ρ, b, α, β, r, p⟩ => by
  refine ⟨g, ρ, b, α, β, r, ?_⟩
  unfold lsM bindM at p
  cases e : ms ρ b with
  | ok ds b' =>
    rw [e] at p
    exact fun a vs H' hn ha l k q => p (.ref a) H' (.lst ⟨.inl ha, fun z => by
      obtain ⟨xs, e⟩ := r.ownL a z
      obtain ⟨o, e⟩ := rd_some e
      rw [hn] at e; cases e⟩ (l.own fun a _ _ z => .inl z)) k q
  | ex x b' => rw [e] at p; exact p
  | bad => rw [e] at p; exact p
def limM (ms : ME (List D)) : ME (List D) := bindM ms fun ds => liftO (if ds.length ≤ sizeLine then some ds else none)
theorem sn_lst (h : SA X W es ms) : SN X W (.List es pos) (limM ms) := PE.imp (pe_lst h) fun σ H Q ⟨g, ρ, b, α, β, r, p⟩ => by
  refine ⟨g, ρ, b, α, β, r, ?_⟩
  unfold limM bindM at p
  cases e : ms ρ b with
  | ok ds b' =>
    rw [e] at p
    simp only [R.bind, liftO] at p
    split at p
    · rename_i a b1 ea
      split at ea
      · rename_i hz
        cases ea
        refine fun xs H1 l k q => ⟨by rw [← l.length]; exact hz, fun p' hp => ?_⟩
        have r1 := r.step k q
        refine p p' xs _ (free_back k q hp) upd_same ?_ (k.trans (Keep.upd hp).of0) (q.keep0 (Keep.upd hp))
        exact RDs.keep (Keep.upd hp) _ _ (RDs.own (fun a u e z => by
          rcases z with z | z
          · exact z
          · rw [z, hp] at e; cases e) _ _ l)
      · cases ea
    · exact p.elim
  | ex x b' => rw [e] at p; exact p
  | bad => rw [e] at p; exact p
/-- list(e) -/
def newF (d : D) : Option (List D) := match d with
  | .list xs => some xs
  | .tuple xs => some xs
  | _ => none
def newM (ma : ME D) : ME (List D) := bindM ma fun d => liftO (newF d)
theorem sn_list {lp : Pos} (hg : Gl X "list") (hm : X.mg "list" = none) (ha : SW X W e ma) (he : starEach [e] X.env = [(false, eval e X.env)] := by rfl) : SN X W (.Call (.Name "list" lp) [e] [] pos) (newM ma) :=
  PE.imp (pe_callTy (X := X) (T := "list") call_list_of hg hm (by decide +kernel) (pa_cons ha pa_nil he) (by decide) (by decide) he rfl) fun σ H Q ⟨g, ρ, b, α, β, r, p⟩ => by
    refine ⟨g, ρ, b, α, β, r, ?_⟩
    unfold newM bindM at p
    cases e : ma ρ b with
    | ok d b' =>
      rw [e] at p
      simp only [R.bind, liftO] at p
      refine fun v H1 l k q => ?_
      have fin : ∀ {xs : List D} {vs : List V}, newF d = some xs → RDs X.K (OW g ρ α β) H1 xs vs → ∀ p', H1 p' = none → Q (.ref p') (upd H1 p' (.lst vs)) := fun {xs vs} ef rs p' hp => by
        rw [ef] at p
        exact p p' vs _ (free_back k q hp) upd_same (RDs.keep (Keep.upd hp) _ _ (RDs.own (fun a u e z => by
          rcases z with z | z
          · exact z
          · rw [z, hp] at e; cases e) _ _ rs)) (k.trans (Keep.upd hp).of0) (q.keep0 (Keep.upd hp))
      cases d with
      | list xs =>
        obtain ⟨a, vs, rfl, h1, h2⟩ := l.lst
        exact ⟨a, vs, rfl, .inl h1, fin rfl h2⟩
      | tuple xs =>
        obtain ⟨a, vs, rfl, h1, h2⟩ := l.tup
        exact ⟨a, vs, rfl, .inr h1, fin rfl h2⟩
      | none => exact p.elim
      | bool _ => exact p.elim
      | int _ => exact p.elim
      | str _ => exact p.elim
      | dict _ => exact p.elim
    | ex x b' => rw [e] at p; exact p
    | bad => rw [e] at p; exact p
/-! ### a name is given a new list -/
/-- the list at a, new, becomes slot i's own -/
theorem RE.setOwn {K : PySem.W.Frag} {g : Gh} {H H' : Hp} {ρ : En} {b b' : Bx} {σ : L2.St} {α : Nat → Addr} {β : Option Addr} (r0 : RE K g H ρ b σ α β) (k : Keep (Bs β) H H') (q : BxR g H' b' β) {i : Nat} {ds : List D} {vs : List V} {a : Addr} (hi : i < ρ.length)
    (hn : H a = none) (ha : H' a = some (.lst vs)) (l : RDs K (fun x => OW g ρ α β x ∨ x = a) H' ds vs) : RE K g H' (ρ.set i (.own ds)) b' (σ.set i (some (.ref a))) (fun j => if j = i then a else α j) β := by
  have r := r0.step k q
  have hσ : i < σ.length := by rw [← r.len]; exact hi
  have neB : β ≠ some a := fun z => by
    cases b with
    | no => have := r0.box; rw [this.1] at z; cases z
    | fo x y w =>
      obtain ⟨a', e1, _, e3⟩ := r0.box
      rw [z] at e1; cases e1
      rw [hn] at e3; cases e3
    | ow x y w =>
      obtain ⟨a', e1, _, _, e3⟩ := r0.box
      rw [z] at e1; cases e1
      rw [hn] at e3; cases e3
  have nOf : ¬ g.Of a := fun z => by
    obtain ⟨xs, e⟩ := r0.ownL a (.inl z)
    obtain ⟨o, e⟩ := rd_some e
    rw [hn] at e; cases e
  have nown : ∀ j xs, ρ[j]? = some (.own xs) → α j ≠ a := fun j xs e z => by
    obtain ⟨_, _, e2, _⟩ := r0.own j xs e
    rw [z, hn] at e2; cases e2
  have sub : ∀ x, OW g (ρ.set i (.own ds)) (fun j => if j = i then a else α j) β x → OW g ρ α β x ∨ x = a := fun x h => by
    rcases h with h | h | ⟨j, xs, e, h⟩
    · exact .inl (.inl h)
    · exact .inl (.inr (.inl h))
    · have h : (if j = i then a else α j) = x := h
      by_cases hj : j = i
      · rw [if_pos hj] at h
        exact .inr h.symm
      · rw [if_neg hj] at h
        rw [set_ne (Ne.symm hj)] at e
        exact .inl (.inr (.inr ⟨j, xs, e, h⟩))
  have mono : ∀ x (u : HO), H x = some u → OW g (ρ.set i (.own ds)) (fun j => if j = i then a else α j) β x → OW g ρ α β x := fun x u e h => by
    rcases sub x h with z | z
    · exact z
    · rw [z, hn] at e; cases e
  have kO : Keep (OW g (ρ.set i (.own ds)) (fun j => if j = i then a else α j) β) H H' := k.mono fun x h => .inr (.inl h)
  refine ⟨by simp [r.len], r.evo, r.oft, r.ofo, fun j d e => ?_, fun j xs e => ?_, fun j1 j2 xs ys e1 e2 => ?_, fun j xs e => ?_, fun j e => ?_, q⟩
  · by_cases hij : i = j
    · subst hij
      rw [set_at hi] at e
      cases e
    · rw [set_ne hij] at e
      obtain ⟨v, e1, e2⟩ := r0.val j d e
      exact ⟨v, by simp [hij, e1], (e2.own mono).keep kO⟩
  · by_cases hij : i = j
    · subst hij
      rw [set_at hi] at e
      cases e
      refine ⟨vs, by simp [hσ], by simp [ha], l.own fun x u _ z => sub x z, ?_, by simpa using neB⟩
      simp only [if_true]
      cases e0 : g.H0 a with
      | none => rfl
      | some u =>
        by_cases hf : g.fo = some a
        · exact absurd (r0.foB' hf) neB
        · have := r0.evo a u e0 hf
          rw [hn] at this; cases this
    · rw [set_ne hij] at e
      obtain ⟨vs', e1, e2, e3, e4, e5⟩ := r0.own j xs e
      rw [if_neg (Ne.symm hij)]
      exact ⟨vs', by simp [hij, e1], k _ _ e2 e5, (e3.own mono).keep kO, e4, e5⟩
  · by_cases h1 : i = j1
    · by_cases h2 : i = j2
      · intro _; omega
      · rw [if_pos h1.symm, if_neg (Ne.symm h2)]
        intro z
        rw [set_ne h2] at e2
        exact absurd z.symm (nown j2 ys e2)
    · rw [set_ne h1] at e1
      rw [if_neg (Ne.symm h1)]
      by_cases h2 : i = j2
      · rw [if_pos h2.symm]
        intro z
        exact absurd z (nown j1 xs e1)
      · rw [if_neg (Ne.symm h2)]
        rw [set_ne h2] at e2
        exact r0.inj j1 j2 xs ys e1 e2
  · by_cases hij : i = j
    · subst hij
      rw [set_at hi] at e
      cases e
    · rw [set_ne hij] at e
      obtain ⟨vs', e1, e2, e3, e4⟩ := r0.lck j xs e
      exact ⟨vs', by simp [hij, e1], e2, e3, (e4.own mono).keep kO⟩
  · by_cases hij : i = j
    · subst hij
      rw [set_at hi] at e
      cases e
    · rw [set_ne hij] at e
      obtain ⟨a', e1, e2⟩ := r0.bxs j e
      exact ⟨a', e1, by simp [hij, e2]⟩
def ownM (i : Nat) (ms : ME (List D)) : MS := exprM ms fun ds ρ b => if i < ρ.length then .nx (ρ.set i (.own ds)) b else .bad
/-- the reading of a new list out of a statement's -/
theorem new_read {k : List D → MS} {D : Ends} {σ : L2.St} {H : Hp} {Q : VK} (h : tS (Cx.z X) W (exprM ms k) D σ H)
    (q : ∀ g ρ b α β b' ds a vs H', RE X.K g H ρ b σ α β → Keep (Bs β) H H' → BxR g H' b' β → H a = none → H' a = some (.lst vs) → RDs X.K (fun x => OW g ρ α β x ∨ x = a) H' ds vs → PostS (Cx.z X) W g D (k ds ρ b') → Q (.ref a) H') : tN (Cx.z X) W ms σ H Q := by
  obtain ⟨g, ρ, b, α, β, r, p⟩ := h
  refine ⟨g, ρ, b, α, β, r, ?_⟩
  unfold exprM at p
  cases e : ms ρ b with
  | ok ds b' =>
    rw [e] at p
    exact fun a vs H' hn ha l kk qq => q g ρ b α β b' ds a vs H' r kk qq hn ha l p
  | ex x b' =>
    rw [e] at p
    exact fun cls dd H1 l kk qq => p cls dd σ H1 α β (r.step kk qq) l
  | bad => rw [e] at p; exact p.elim
theorem own_post {D : Ends} {σ : L2.St} {H : Hp} {i : Nat} (h : tS (Cx.z X) W (ownM i ms) D σ H) : tN (Cx.z X) W ms σ H fun x H1 => gName i x σ H1 D.nx :=
  new_read h fun g ρ b α β b' ds a vs H' r kk qq hn ha l p => by
    have p : PostS (Cx.z X) W g D (if i < ρ.length then .nx (ρ.set i (.own ds)) b' else .bad) := p
    split at p
    · rename_i hi
      exact p _ H' _ β (r.setOwn kk qq hi hn ha l)
    · exact p.elim
theorem ss_own {i : Nat} {pos' : Pos} (hN : X.N.Nodup) (hi : X.N[i]? = some x) (hx : Loc X.env.scope x) (he : SN X W e ms) (hs : swapsWith e (some (.Name x pos')) pos.line X.env = pure false := by rfl)
    (hf : X.fn x = true ∨ X.env.scope.names.lookup x = some .local := by first | exact .inl rfl | exact .inr rfl | assumption) : SS X W (.Assign [.Name x pos'] e pos) (ownM i ms) :=
  PS.imp (ps_set hN hi hx he hs hf) fun D σ H h => own_post h
/-! ### a list of one's own is changed -/
theorem RE.mut {K : PySem.W.Frag} {g : Gh} {H : Hp} {ρ : En} {b : Bx} {σ : L2.St} {α : Nat → Addr} {β : Option Addr} (r : RE K g H ρ b σ α β) {i : Nat} {xs ys : List D} {ws : List V} (e : ρ[i]? = some (.own xs)) (l : RDs K (OW g ρ α β) H ys ws) :
    RE K g (upd H (α i) (.lst ws)) (ρ.set i (.own ys)) b σ α β := by
  obtain ⟨vs, e1, e2, e3, e4, e5⟩ := r.own i xs e
  have hi : i < ρ.length := (List.getElem?_eq_some_iff.mp e).1
  have kO : Keep (OW g ρ α β) H (upd H (α i) (.lst ws)) := fun a u h n => by
    by_cases ha : a = α i
    · exact absurd (.inr (.inr ⟨i, xs, e, ha.symm⟩)) n
    · rw [upd_ne ha]; exact h
  have sub : ∀ x, OW g (ρ.set i (.own ys)) α β x → OW g ρ α β x := fun x h => by
    rcases h with h | h | ⟨j, zs, e', h⟩
    · exact .inl h
    · exact .inr (.inl h)
    · by_cases hij : i = j
      · subst hij
        exact .inr (.inr ⟨i, xs, e, h⟩)
      · rw [set_ne hij] at e'
        exact .inr (.inr ⟨j, zs, e', h⟩)
  have at_ : ∀ a, a ≠ α i → (upd H (α i) (.lst ws)) a = H a := fun a h => upd_ne h
  have nOf : ¬ g.Of (α i) := fun z => by
    obtain ⟨zs, q⟩ := r.oft _ z
    obtain ⟨o, q⟩ := rd_some q
    rw [e4] at q; cases q
  refine ⟨by simp [r.len], fun a u h n => ?_, r.oft, r.ofo, fun j d e' => ?_, fun j zs e' => ?_, fun j1 j2 zs zs' e1' e2' => ?_, fun j zs e' => ?_, fun j e' => ?_, ?_⟩
  · rw [at_ a (fun z => by rw [z, e4] at h; cases h)]
    exact r.evo a u h n
  · by_cases hij : i = j
    · subst hij
      rw [set_at hi] at e'; cases e'
    · rw [set_ne hij] at e'
      obtain ⟨v, q1, q2⟩ := r.val j d e'
      exact ⟨v, q1, (q2.keep kO).own fun a u _ z => sub a z⟩
  · by_cases hij : i = j
    · subst hij
      rw [set_at hi] at e'; cases e'
      exact ⟨ws, e1, upd_same, (l.keep kO).own fun a u _ z => sub a z, e4, e5⟩
    · rw [set_ne hij] at e'
      obtain ⟨us, q1, q2, q3, q4, q5⟩ := r.own j zs e'
      refine ⟨us, q1, ?_, (q3.keep kO).own fun a u _ z => sub a z, q4, q5⟩
      rw [at_ _ fun z => hij (r.inj i j _ _ e e' z.symm)]
      exact q2
  · have f : ∀ {j : Nat} {zs : List D}, (ρ.set i (.own ys))[j]? = some (.own zs) → ∃ us, ρ[j]? = some (.own us) := fun {j zs} q => by
      by_cases hij : i = j
      · subst hij; exact ⟨xs, e⟩
      · rw [set_ne hij] at q; exact ⟨zs, q⟩
    obtain ⟨_, q1⟩ := f e1'
    obtain ⟨_, q2⟩ := f e2'
    exact r.inj j1 j2 _ _ q1 q2
  · by_cases hij : i = j
    · subst hij
      rw [set_at hi] at e'; cases e'
    · rw [set_ne hij] at e'
      obtain ⟨us, q1, q2, q3, q4⟩ := r.lck j zs e'
      exact ⟨us, q1, q2, q3, (q4.keep kO).own fun a u _ z => sub a z⟩
  · by_cases hij : i = j
    · subst hij
      rw [set_at hi] at e'; cases e'
    · rw [set_ne hij] at e'
      exact r.bxs j e'
  · have q := r.box
    cases b with
    | no => exact q
    | fo x y z =>
      obtain ⟨a, q1, q2, q3⟩ := q
      exact ⟨a, q1, q2, by rw [at_ a fun z => e5 (by rw [q1, z])]; exact q3⟩
    | ow x y z =>
      obtain ⟨a, q1, q2, q3, q4⟩ := q
      exact ⟨a, q1, q2, q3, by rw [at_ a fun z => e5 (by rw [q1, z])]; exact q4⟩
/-- on slot i's own list -/
def ownCase (i : Nat) (k : List D → MS) : MS := fun ρ b => match ρ[i]? with
  | some (.own xs) => k xs ρ b
  | _ => .bad
theorem ownCase_post {i : Nat} {k : List D → MS} {D : Ends} {σ : L2.St} {H : Hp} (h : tS (Cx.z X) W (ownCase i k) D σ H) : ∃ g ρ b α β xs, ρ[i]? = some (.own xs) ∧ RE X.K g H ρ b σ α β ∧ PostS (Cx.z X) W g D (k xs ρ b) := by
  obtain ⟨g, ρ, b, α, β, r, p⟩ := h
  unfold ownCase at p
  split at p
  · rename_i xs e
    exact ⟨g, ρ, b, α, β, xs, e, r, p⟩
  · exact p.elim
/-- the expression's reading, the ghosts fixed -/
theorem expr_at {τ υ : Type} {L : Rl τ υ} {me : ME τ} {k : τ → MS} {D : Ends} {σ : L2.St} {H : Hp} {Q : υ → Hp → Prop} {g : Gh} {ρ : En} {b : Bx} {α : Nat → Addr} {β : Option Addr} (r : RE X.K g H ρ b σ α β) (p : PostS (Cx.z X) W g D (exprM me k ρ b))
    (q : ∀ b' a x H1, RE X.K g H1 ρ b' σ α β → Keep (Bs β) H H1 → L (OW g ρ α β) (Bs β) H1 a x → PostS (Cx.z X) W g D (k a ρ b') → Q x H1) : tR (Cx.z X) L W me σ H Q := by
  refine ⟨g, ρ, b, α, β, r, ?_⟩
  unfold exprM at p
  cases e : me ρ b with
  | ok a b' =>
    rw [e] at p
    exact fun x H1 l kk qq => q b' a x H1 (r.step kk qq) kk l p
  | ex x b' =>
    rw [e] at p
    exact fun cls dd H1 l kk qq => p cls dd σ H1 α β (r.step kk qq) l
  | bad => rw [e] at p; exact p.elim
theorem new_at {k : List D → MS} {D : Ends} {σ : L2.St} {H : Hp} {Q : VK} {g : Gh} {ρ : En} {b : Bx} {α : Nat → Addr} {β : Option Addr} (r : RE X.K g H ρ b σ α β) (p : PostS (Cx.z X) W g D (exprM ms k ρ b))
    (q : ∀ b' ds a vs H', Keep (Bs β) H H' → BxR g H' b' β → H a = none → H' a = some (.lst vs) → RDs X.K (fun x => OW g ρ α β x ∨ x = a) H' ds vs → PostS (Cx.z X) W g D (k ds ρ b') → Q (.ref a) H') : tN (Cx.z X) W ms σ H Q := by
  refine ⟨g, ρ, b, α, β, r, ?_⟩
  unfold exprM at p
  cases e : ms ρ b with
  | ok ds b' =>
    rw [e] at p
    exact fun a vs H' hn ha l kk qq => q b' ds a vs H' kk qq hn ha l p
  | ex x b' =>
    rw [e] at p
    exact fun cls dd H1 l kk qq => p cls dd σ H1 α β (r.step kk qq) l
  | bad => rw [e] at p; exact p.elim
/-- x.append(e) -/
def appM (i : Nat) (ma : ME D) : MS := ownCase i fun xs => exprM ma fun d ρ b => if xs.length < sizeLine then .nx (ρ.set i (.own (xs ++ [d]))) b else .bad
theorem ss_app {i : Nat} {p1 p2 : Pos} (hN : X.N[i]? = some x) (hv : Vis X.env.scope x) (he : SE X W e ma) (hd : (x == ("__debug__" : Str)) = false := by decide) (hcd : (x == ("__classdict__" : Str)) = false := by decide)
    (hst : starEach [e] X.env = [(false, eval e X.env)] := by rfl)
    (hbase : attributeBase (.Name x p1) "append" X.env (eval (.Name x p1) X.env) = eval (.Name x p1) X.env := by rfl)
    (hfew : ((backTo p (starEach [e] X.env)).all (fun x => !x.1) && (backToKw p (keywordEach [] X.env)).all (fun x => x.1.isSome)
      && decide (([e] : List Expr).length + ([] : List Keyword).length + (if ([] : List Keyword).isEmpty then 0 else 1) < 30)) = true := by rfl)
    (hline : (p2.endLine == p.line) = true := by rfl) (hs : swapsWith (.Call (.Attribute (.Name x p1) "append" p2) [e] [] p) none pos.line X.env = pure false := by rfl) :
    SS X W (.Expr (.Call (.Attribute (.Name x p1) "append" p2) [e] [] p) pos) (appM i ma) :=
  PS.imp (ps_expr (pe_bm (X := X) PySem.F.plainAttrs_list PySem.F.slot_list_append PySem.F.type_list_append mt_append (pe_var hN hv hd hcd) (pa_cons he pa_nil hst) hbase hfew hline hst rfl) hs) fun D σ H h => by
    obtain ⟨g, ρ, b, α, β, xs, e, r, p⟩ := ownCase_post h
    obtain ⟨vs, e1, e2, e3, e4, e5⟩ := r.own i xs e
    refine ⟨_, e1, .inl ⟨rfl, vs, .inl (.inl e2)⟩, ?_⟩
    show tCons _ tNil σ H _
    refine expr_at (L := lD X.K) r p fun b' d v H1 r1 kk l p1 => ?_
    split at p1
    · rename_i hz
      obtain ⟨vs', e1', e2', e3', _⟩ := r1.own i xs e
      have ev : vs' = vs := by
        have := kk _ _ e2 e5
        rw [e2'] at this; cases this; rfl
      subst ev
      exact ⟨_, vs', v, rfl, rfl, e2', by rw [← e3'.length]; exact hz, p1 σ _ α β (r1.mut e (e3'.append (.cons l .nil)))⟩
    · exact p1.elim
/-- x.extend(e), e a new list -/
def extM (i : Nat) (ms : ME (List D)) : MS := ownCase i fun xs => exprM ms fun ds ρ b => if xs.length + ds.length ≤ sizeLine then .nx (ρ.set i (.own (xs ++ ds))) b else .bad
theorem ss_ext {i : Nat} {p1 p2 : Pos} (hN : X.N[i]? = some x) (hv : Vis X.env.scope x) (he : SN X W e ms) (hd : (x == ("__debug__" : Str)) = false := by decide) (hcd : (x == ("__classdict__" : Str)) = false := by decide)
    (hst : starEach [e] X.env = [(false, eval e X.env)] := by rfl)
    (hbase : attributeBase (.Name x p1) "extend" X.env (eval (.Name x p1) X.env) = eval (.Name x p1) X.env := by rfl)
    (hfew : ((backTo p (starEach [e] X.env)).all (fun x => !x.1) && (backToKw p (keywordEach [] X.env)).all (fun x => x.1.isSome)
      && decide (([e] : List Expr).length + ([] : List Keyword).length + (if ([] : List Keyword).isEmpty then 0 else 1) < 30)) = true := by rfl)
    (hline : (p2.endLine == p.line) = true := by rfl) (hs : swapsWith (.Call (.Attribute (.Name x p1) "extend" p2) [e] [] p) none pos.line X.env = pure false := by rfl) :
    SS X W (.Expr (.Call (.Attribute (.Name x p1) "extend" p2) [e] [] p) pos) (extM i ms) :=
  PS.imp (ps_expr (pe_bm (X := X) PySem.F.plainAttrs_list PySem.F.slot_list_extend PySem.F.type_list_extend mt_extend (pe_var hN hv hd hcd) (pa_cons he pa_nil hst) hbase hfew hline hst rfl) hs) fun D σ H h => by
    obtain ⟨g, ρ, b, α, β, xs, e, r, p⟩ := ownCase_post h
    obtain ⟨vs, e1, e2, e3, e4, e5⟩ := r.own i xs e
    refine ⟨_, e1, .inl ⟨rfl, vs, .inl (.inl e2)⟩, ?_⟩
    show tCons _ tNil σ H _
    refine new_at r p fun b' ds a ws H1 kk qq hn ha l p1 => ?_
    have r1 := r.step kk qq
    split at p1
    · rename_i hz
      obtain ⟨vs', e1', e2', e3', _⟩ := r1.own i xs e
      have ev : vs' = vs := by
        have := kk _ _ e2 e5
        rw [e2'] at this; cases this; rfl
      subst ev
      exact ⟨_, a, vs', ws, rfl, rfl, e2', ha, by rw [← e3'.length, ← l.length]; exact hz, p1 σ _ α β (r1.mut e (e3'.append (l.own fun a _ _ z => .inl z)))⟩
    · exact p1.elim
/-- x[k] = e -/
def putM (i : Nat) (mk ma : ME D) : MS := exprM ma fun d => ownCase i fun xs => exprM mk fun k ρ b => match (toI k).bind (ixN xs.length) with
  | some j => .nx (ρ.set i (.own (xs.set j d))) b
  | none => .bad
theorem ss_put {i : Nat} {p1 p2 : Pos} {mk : ME D} (hN : X.N[i]? = some x) (hv : Vis X.env.scope x) (hk : SE X W c mk) (he : SE X W e ma) (hd : (x == ("__debug__" : Str)) = false := by decide) (hcd : (x == ("__classdict__" : Str)) = false := by decide)
    (ha : ∀ v, assign (.Subscript (.Name x p1) c p2) X.env v = (do
      let ov ← holding [v] (eval (.Name x p1) X.env)
      let iv ← holding [v, ov] (eval c X.env)
      standAt p2
      holding [v, ov, iv] (setItem ov iv v)
      release [v, ov, iv] []) := by intro _; rfl)
    (hs : swapsWithSole [.Subscript (.Name x p1) c p2] e pos.line X.env = pure false := by rfl) (hw : swappedStores [.Subscript (.Name x p1) c p2] e X.env = pure none := by rfl)
    (h1 : (assignEach [.Subscript (.Name x p1) c p2] X.env).map (·.2) = [assign (.Subscript (.Name x p1) c p2) X.env] := by rfl) :
    SS X W (.Assign [.Subscript (.Name x p1) c p2] e pos) (putM i mk ma) :=
  PS.imp (ps_asg he (pg_sub (pe_var hN hv hd hcd) hk set_list ha) hs hw h1) fun D σ H h => by
    refine expr_read (L := lD X.K) h fun g ρ b α β d v H1 r kk l p => ?_
    have h2 : tS (Cx.z X) W (ownCase i fun xs => exprM mk fun k ρ b => match (toI k).bind (ixN xs.length) with | some j => .nx (ρ.set i (.own (xs.set j d))) b | none => .bad) D σ H1 := ⟨g, ρ, b, α, β, r, p⟩
    unfold ownCase at p
    split at p
    · rename_i xs e
      obtain ⟨vs, e1, e2, e3, e4, e5⟩ := r.own i xs e
      refine ⟨_, e1, ?_⟩
      refine expr_at (L := lD X.K) r p fun b' dk u H2 r2 kk2 l2 p2 => ?_
      split at p2
      · rename_i j ej
        cases dk <;> simp only [toI, Option.bind_none, Option.bind_some, reduceCtorEq] at ej
        cases l2
        rename_i ik
        obtain ⟨vs', e1', e2', e3', _⟩ := r2.own i xs e
        have ev : vs' = vs := by
          have := kk2 _ _ e2 e5
          rw [e2'] at this; cases this; rfl
        subst ev
        have l3 := pers_D _ _ _ _ _ _ r.gd.sub kk2 l
        exact ⟨_, vs', ik, j, rfl, rfl, e2', by rw [← e3'.length]; exact ej, p2 σ _ α β (r2.mut e (e3'.set j l3))⟩
      · exact p2.elim
    · exact p.elim
end
end Fs

/-! F9: loops. -/
namespace Fs
open L2 PyProof.Rows PySem.Spec PySem

/-! ### the ground is laid anew -/
open Classical in
noncomputable def rb (g : Gh) (M : Own) (H : Hp) (F : Own) (la : Nat → Addr) : Gh := ⟨fun a => if M a then g.H0 a else H a, F, g.fo, la⟩
/-- what a state may change: the box, its own lists -/
def MW (ρ : En) (α : Nat → Addr) (β : Option Addr) : Own := fun a => β = some a ∨ ∃ i xs, ρ[i]? = some (.own xs) ∧ α i = a
section
variable {K : PySem.W.Frag} {g : Gh} {H H' : Hp} {ρ ρ' : En} {b b' : Bx} {σ σ' : L2.St} {α α' : Nat → Addr} {β β' : Option Addr}
theorem rb_m {M : Own} {F : Own} {la : Nat → Addr} {a : Addr} (h : M a) : (rb g M H F la).H0 a = g.H0 a := by simp only [rb]; rw [if_pos h]
theorem rb_n {M : Own} {F : Own} {la : Nat → Addr} {a : Addr} (h : ¬ M a) : (rb g M H F la).H0 a = H a := by simp only [rb]; rw [if_neg h]
theorem RE.mw0 (r : RE K g H ρ b σ α β) {a : Addr} (h : MW ρ α β a) (hf : g.fo ≠ some a) : g.H0 a = none := by
  rcases h with h | ⟨i, xs, e, h⟩
  · rcases r.bxNew a h with z | z
    · exact absurd z hf
    · exact z.2
  · obtain ⟨_, _, _, _, e4, _⟩ := r.own i xs e
    rw [← h]; exact e4
theorem RE.ofM (r : RE K g H ρ b σ α β) {a : Addr} (h : g.Of a) : ¬ MW ρ α β a := fun z => by
  rcases z with z | ⟨i, xs, e, z⟩
  · exact r.ofB h z
  · obtain ⟨_, _, _, _, e4, _⟩ := r.own i xs e
    obtain ⟨ys, q⟩ := r.oft a h
    obtain ⟨o, q⟩ := rd_some q
    rw [← z, e4] at q; cases q
theorem RE.foM (r : RE K g H ρ b σ α β) {a : Addr} (h : g.fo = some a) : MW ρ α β a := .inl (r.foB' h)
/-- at a loop's start: all that stands is the ground, but what may change -/
theorem RE.base (r : RE K g H ρ b σ α β) : RE K (rb g (MW ρ α β) H g.Of g.la) H ρ b σ α β := by
  refine ⟨r.len, fun a u e n => ?_, fun a h => ?_, fun a h => ⟨(r.ofo a h).1, ?_⟩, r.val, fun i xs e => ?_, r.inj, fun i xs e => ?_, r.bxs, ?_⟩
  · by_cases h : MW ρ α β a
    · rw [rb_m h] at e
      exact r.evo a u e n
    · rw [rb_n h] at e
      exact e
  · obtain ⟨xs, e⟩ := r.ownL a (.inl h)
    have hn := r.ofM h
    refine ⟨xs, ?_⟩
    rcases e with e | ⟨o, e⟩
    · exact .inl (by rw [rb_n hn]; exact e)
    · exact .inr ⟨o, by rw [rb_n hn]; exact e⟩
  · obtain ⟨xs, e⟩ := (r.ofo a h).2
    exact ⟨xs, by rw [rb_m (r.foM h)]; exact e⟩
  · obtain ⟨vs, e1, e2, e3, e4, e5⟩ := r.own i xs e
    exact ⟨vs, e1, e2, e3, by rw [rb_m (.inr ⟨i, xs, e, rfl⟩)]; exact e4, e5⟩
  · obtain ⟨vs, e1, e2, e3, e4⟩ := r.lck i xs e
    have hn := r.ofM e2
    have q : Rd H (g.la i) (.lst vs) := Rd.keep e3 (fun z => (r.ofo _ z).1 e2) r.evo
    refine ⟨vs, e1, e2, ?_, e4⟩
    rcases q with q | ⟨o, q⟩
    · exact .inl ((rb_n hn).trans q)
    · exact .inr ⟨o, (rb_n hn).trans q⟩
  · have q := r.box
    cases b with
    | no => exact q
    | fo x y z => exact q
    | ow x y z =>
      obtain ⟨a, q1, q2, q3, q4⟩ := q
      exact ⟨a, q1, q2, by rw [rb_m (.inl q1)]; exact q3, q4⟩
/-- .. and back -/
theorem RE.back0 (r : RE K g H ρ b σ α β) {F : Own} {la : Nat → Addr} {M : Own} (hM : ∀ a, M a → MW ρ α β a) {H' : Hp} (k : Keep (fun a => g.fo = some a) (rb g M H F la).H0 H') : Keep (fun a => g.fo = some a) g.H0 H' := fun a u e n => by
  by_cases h : M a
  · have := r.mw0 (hM a h) n
    rw [e] at this; cases this
  · exact k a u (by rw [rb_n h]; exact r.evo a u e n) n
theorem RE.new0 (r : RE K g H ρ b σ α β) {F : Own} {la : Nat → Addr} {M : Own} {a : Addr} (hf : g.fo ≠ some a) (h : (rb g M H F la).H0 a = none) : g.H0 a = none := by
  by_cases hm : M a
  · rw [rb_m hm] at h; exact h
  · rw [rb_n hm] at h
    cases e : g.H0 a with
    | none => rfl
    | some u =>
      have := r.evo a u e hf
      rw [h] at this; cases this
theorem RE.unbase (r : RE K g H ρ b σ α β) (r' : RE K (rb g (MW ρ α β) H g.Of g.la) H' ρ' b' σ' α' β') : RE K g H' ρ' b' σ' α' β' := by
  refine ⟨r'.len, r.back0 (fun _ h => h) r'.evo, r.oft, r.ofo, r'.val, fun i xs e => ?_, r'.inj, fun i xs e => ?_, r'.bxs, ?_⟩
  · obtain ⟨vs, e1, e2, e3, e4, e5⟩ := r'.own i xs e
    exact ⟨vs, e1, e2, e3, r.new0 (fun z => e5 (r'.foB' z)) e4, e5⟩
  · obtain ⟨vs, e1, e2, e3, e4⟩ := r'.lck i xs e
    have e2' : g.Of (g.la i) := e2
    obtain ⟨us, q⟩ := r.oft _ e2'
    have q2 : Rd H (g.la i) (.lst us) := Rd.keep q (fun z => (r.ofo _ z).1 e2') r.evo
    have e3' : Rd H (g.la i) (.lst vs) := by
      have hn := r.ofM e2'
      have e3 : Rd (rb g (MW ρ α β) H g.Of g.la).H0 (g.la i) (.lst vs) := e3
      rcases e3 with e3 | ⟨o, e3⟩
      · exact .inl (by rw [rb_n hn] at e3; exact e3)
      · exact .inr ⟨o, by rw [rb_n hn] at e3; exact e3⟩
    have ev : us = vs := by
      rcases q2 with q2 | ⟨o, q2⟩ <;> rcases e3' with e3' | ⟨o', e3'⟩ <;> (rw [q2] at e3'; cases e3'; try rfl)
    subst ev
    exact ⟨us, e1, e2', q, e4⟩
  · have q := r'.box
    cases b' with
    | no => exact q
    | fo x y z => exact q
    | ow x y z =>
      obtain ⟨a, q1, q2, q3, q4⟩ := q
      exact ⟨a, q1, q2, r.new0 (fun z => by rw [show g.fo = none from q2] at z; cases z) q3, q4⟩
end

/-! ### targets -/
abbrev TF := D → En → Option En
/-- but at the slots ts nothing is changed -/
def Sm {τ : Type} (ts : List Nat) (s s' : List τ) : Prop := s'.length = s.length ∧ ∀ i : Nat, i ∉ ts → s'[i]? = s[i]?
theorem Sm.refl {τ : Type} (ts : List Nat) (s : List τ) : Sm ts s s := ⟨rfl, fun _ _ => rfl⟩
theorem Sm.set {τ : Type} (s : List τ) (i : Nat) (v : τ) : Sm [i] s (s.set i v) := ⟨by simp, fun j h => by
  have : i ≠ j := fun z => h (by simp [z])
  simp [this]⟩
theorem Sm.cat {τ : Type} {ts us : List Nat} {s s1 s2 : List τ} (a : Sm ts s s1) (b : Sm us s1 s2) : Sm (ts ++ us) s s2 := ⟨b.1.trans a.1, fun i h => by
  rw [List.mem_append, not_or] at h
  exact (b.2 i h.2).trans (a.2 i h.1)⟩
def tGt (Z : Zx) (ts : List Nat) (tf : TF) : TG := fun v σ H Q => ∃ g ρ b α β d ρ', RE Z.K g H ρ b σ α β ∧ RD Z.K (OW g ρ α β) H d v ∧ tf d ρ = some ρ' ∧ ∀ σ', RE Z.K g H ρ' b σ' α β → (∀ a, OW g ρ' α β a → OW g ρ α β a) → Sm ts σ σ' → Sm ts ρ ρ' → Q σ' H
def SG (X : Cx) (tg : Expr) (ts : List Nat) (tf : TF) : Prop := PG X tg (tGt (Cx.z X) ts tf)
theorem PG.imp {X : Cx} {e : Expr} {t t' : TG} (h : PG X e t) (i : ∀ v σ H Q, t' v σ H Q → t v σ H Q) : PG X e t' := ⟨fun pins s σ H v u Q I r q => h.run pins s σ H v u Q I r (i v σ H Q q)⟩
theorem PGs.imp {X : Cx} {e : List Expr} {t t' : TGs} (h : PGs X e t) (i : ∀ v σ H Q, t' v σ H Q → t v σ H Q) : PGs X e t' := ⟨fun pins s σ H v u Q I r q => h.run pins s σ H v u Q I r (i v σ H Q q)⟩
def nameT (i : Nat) : TF := fun d ρ => if i < ρ.length then some (ρ.set i (.v d)) else none
abbrev TFs := List D → En → Option En
def nilT : TFs := fun ds ρ => match ds with
  | [] => some ρ
  | _ => none
def consT (t : TF) (u : TFs) : TFs := fun ds ρ => match ds with
  | d :: r => (t d ρ).bind (u r)
  | [] => none
def tupT (n : Nat) (u : TFs) : TF := fun d ρ => match d with
  | .tuple ds => if ds.length = n then u ds ρ else none
  | _ => none
def tGts (Z : Zx) (ts : List Nat) (tf : TFs) : TGs := fun vs σ H Q => ∃ g ρ b α β ds ρ', RE Z.K g H ρ b σ α β ∧ RDs Z.K (OW g ρ α β) H ds vs ∧ tf ds ρ = some ρ' ∧ ∀ σ', RE Z.K g H ρ' b σ' α β → (∀ a, OW g ρ' α β a → OW g ρ α β a) → Sm ts σ σ' → Sm ts ρ ρ' → Q σ' H
def SGs (X : Cx) (tg : List Expr) (ts : List Nat) (tf : TFs) : Prop := PGs X tg (tGts (Cx.z X) ts tf)
section
variable {X : Cx} {W : WX} {e a c tg iter : Expr} {es : List Expr} {ma : ME D} {ms : ME (List D)} {m n : MS} {pos p : Pos} {x : Str} {tf : TF} {tfs : TFs} {ts us : List Nat}
theorem sg_name {i : Nat} (hN : X.N.Nodup) (hi : X.N[i]? = some x) (hx : Loc X.env.scope x) (hf : X.fn x = true ∨ X.env.scope.names.lookup x = some .local := by first | exact .inl rfl | exact .inr rfl | assumption) : SG X (.Name x pos) [i] (nameT i) :=
  PG.imp (pg_name hN hi hx hf) fun v σ H Q ⟨g, ρ, b, α, β, d, ρ', r, l, et, q⟩ => by
    unfold nameT at et
    split at et
    · rename_i hi
      cases et
      exact q _ (r.setV (by rw [← r.len]; exact hi) l) (fun a h => own_set (fun _ z => by cases z) a h) (Sm.set _ _ _) (Sm.set _ _ _)
    · cases et
theorem sgs_nil : SGs X [] [] nilT := PGs.imp pgs_nil fun v σ H Q ⟨g, ρ, b, α, β, ds, ρ', r, l, et, q⟩ => by
  cases ds with
  | nil =>
    cases l
    cases et
    exact ⟨rfl, q σ r (fun _ h => h) (Sm.refl _ _) (Sm.refl _ _)⟩
  | cons _ _ => cases et
theorem sgs_cons (h1 : SG X e ts tf) (h2 : SGs X es us tfs) (hs : (assignEach (e :: es) X.env).map (·.2) = assign e X.env :: (assignEach es X.env).map (·.2) := by rfl) : SGs X (e :: es) (ts ++ us) (consT tf tfs) :=
  PGs.imp (pgs_cons h1 h2 hs) fun v σ H Q ⟨g, ρ, b, α, β, ds, ρ', r, l, et, q⟩ => by
    cases ds with
    | nil => cases et
    | cons d ds =>
      cases l with
      | cons l1 l2 =>
        obtain ⟨ρ1, e1, e2⟩ := Option.bind_eq_some_iff.mp et
        exact ⟨_, _, rfl, g, ρ, b, α, β, d, ρ1, r, l1, e1, fun σ1 r1 sub s1 s2 => ⟨g, ρ1, b, α, β, ds, ρ', r1, l2.own fun a u _ z => sub a z, e2, fun σ2 r2 sub2 s3 s4 => q σ2 r2 (fun a z => sub a (sub2 a z)) (s1.cat s3) (s2.cat s4)⟩⟩
theorem sg_tup {k n : Nat} (hc : X.calm = true) (h : SGs X es ts tfs) (hn : (assignEach es X.env).length = n := by rfl) (hst : (assignEach es X.env).findIdx? (·.1) = none := by rfl) : SG X (.Tuple es k pos) ts (tupT n tfs) :=
  PG.imp (pg_tup hc h hn hst) fun v σ H Q ⟨g, ρ, b, α, β, d, ρ', r, l, et, q⟩ => by
    unfold tupT at et
    split at et
    · rename_i ds
      split at et
      · rename_i hl
        cases l with
        | tup a l => exact ⟨_, _, rfl, a.sq, by rw [← l.length]; exact hl, g, ρ, b, α, β, ds, ρ', r, l, et, q⟩
      · cases et
    · cases et
/-- a, b = e -/
def unpM (tf : TF) (ma : ME D) : MS := exprM ma fun d ρ b => match tf d ρ with
  | some ρ' => .nx ρ' b
  | none => .bad
theorem ss_unp (he : SE X W e ma) (hg : SG X tg ts tf) (hs : swapsWithSole [tg] e pos.line X.env = pure false := by rfl) (hw : swappedStores [tg] e X.env = pure none := by rfl)
    (h1 : (assignEach [tg] X.env).map (·.2) = [assign tg X.env] := by rfl) : SS X W (.Assign [tg] e pos) (unpM tf ma) :=
  PS.imp (ps_asg he hg hs hw h1) fun D σ H h => expr_read (L := lD X.K) h fun g ρ b α β d v H1 r _ l p => by
    split at p
    · rename_i ρ' et
      exact ⟨g, ρ, b, α, β, d, ρ', r, l, et, fun σ' r' _ _ _ => p σ' H1 α β r'⟩
    · exact p.elim

/-! ### for -/
def forL (tf : TF) (body : MS) : List D → MS
  | [], ρ, b => .nx ρ b
  | d :: ds, ρ, b => match tf d ρ with
    | none => .bad
    | some ρ1 => match body ρ1 b with
      | .nx ρ2 b2 => forL tf body ds ρ2 b2
      | .ct ρ2 b2 => forL tf body ds ρ2 b2
      | .bk ρ2 b2 => .nx ρ2 b2
      | r => r
theorem for_core {g : Gh} {J : It} {ds : List D} {D : Ends} {σ : L2.St} {H : Hp} {ρ : En} {b : Bx} {α : Nat → Addr} {β : Option Addr} (r : RE X.K g H ρ b σ α β)
    (hJ : ∀ H' ρ b σ α β, RE X.K g H' ρ b σ α β → J.stop ds.length H' ∧ ∀ i d, ds[i]? = some d → J.go i H' ∧ ∀ x H3, J.yld i H' x H3 → Keep nobody H' H3 ∧ RD X.K (OW g ρ α β) H3 d x)
    (p : PostS (Cx.z X) W g D (forL tf m ds ρ b)) :
    ∃ W' : Nat → Nat → L2.St → Hp → Prop, (∃ m, W' 0 m σ H) ∧ ∀ i k σ H, W' i k σ H → (J.stop i H ∧ D.nx σ H) ∨ (J.go i H ∧ ∃ N : L2.St → Hp → Prop, (∀ σ' H', N σ' H' → ∃ m', m' < k ∧ W' (i + 1) m' σ' H') ∧
      ∀ x H', J.yld i H x H' → tGt (Cx.z X) ts tf x σ H' fun σ2 H2 => tS (Cx.z X) W m { D with nx := N, ct := N, bk := D.nx } σ2 H2) := by
  refine ⟨fun i k σ H => k = ds.length - i ∧ i ≤ ds.length ∧ ∃ ρ b α β, RE X.K g H ρ b σ α β ∧ PostS (Cx.z X) W g D (forL tf m (ds.drop i) ρ b), ⟨ds.length, rfl, Nat.zero_le _, ρ, b, α, β, r, p⟩, ?_⟩
  rintro i k σ H ⟨rfl, hi, ρ, b, α, β, r, p⟩
  obtain ⟨hstop, hgo⟩ := hJ H ρ b σ α β r
  by_cases hlt : i < ds.length
  · obtain ⟨g1, y⟩ := hgo i ds[i] (List.getElem?_eq_getElem hlt)
    rw [List.drop_eq_getElem_cons hlt] at p
    refine .inr ⟨g1, fun σ2 H2 => ∃ ρ2 b2 α2 β2, RE X.K g H2 ρ2 b2 σ2 α2 β2 ∧ PostS (Cx.z X) W g D (forL tf m (ds.drop (i + 1)) ρ2 b2), fun σ' H' h => ⟨ds.length - (i + 1), by omega, rfl, hlt, h⟩, fun x H3 hy => ?_⟩
    obtain ⟨k0, l⟩ := y x H3 hy
    have r3 : RE X.K g H3 ρ b σ α β := r.step k0.of0 (r.box.keep0 k0)
    unfold forL at p
    cases et : tf ds[i] ρ with
    | none => rw [et] at p; exact p.elim
    | some ρ1 =>
      rw [et] at p
      refine ⟨g, ρ, b, α, β, ds[i], ρ1, r3, l, et, fun σ2 r2 _ _ _ => ⟨g, ρ1, b, α, β, r2, ?_⟩⟩
      simp only at p
      cases eb : m ρ1 b with
      | nx ρ2 b2 => rw [eb] at p; exact fun σ H α β q => ⟨ρ2, b2, α, β, q, p⟩
      | ct ρ2 b2 => rw [eb] at p; exact fun σ H α β q => ⟨ρ2, b2, α, β, q, p⟩
      | bk ρ2 b2 => rw [eb] at p; exact p
      | rt d b2 => rw [eb] at p; exact p
      | ex e ρ2 b2 => rw [eb] at p; exact p
      | bad => rw [eb] at p; exact p
  · have e : i = ds.length := by omega
    subst e
    rw [List.drop_length] at p
    exact .inl ⟨hstop, p σ H α β r⟩
/-! ### what a loop walks -/
/-- J's items are ds; what M may change does not disturb it -/
def ItR (K : PySem.W.Frag) (O M : Own) (ds : List D) (J : It) (H : Hp) : Prop := ∀ H', Keep M H H' → J.stop ds.length H' ∧ ∀ i d, ds[i]? = some d → J.go i H' ∧ ∀ x H3, J.yld i H' x H3 → Keep nobody H' H3 ∧
  ∀ Ot : Own, (∀ a, Ot a → ∃ o, H' a = some o) → (∀ c y, RD K O H c y → RD K Ot H3 c y) → RD K Ot H3 d x
abbrev lIs (K : PySem.W.Frag) : Rl (List D) It := fun O _ H ds J => ItR K O O ds J H ∧ ds.length ≤ sizeLine
abbrev lIw (K : PySem.W.Frag) : Rl (List D) It := fun O B H ds J => ItR K O B ds J H ∧ ds.length ≤ sizeLine
/-- lists and tuples are no longer than the line -/
def HLen (K : PySem.W.Frag) (H : Hp) : Prop := ∀ a xs, (SqL K H a xs → xs.length ≤ sizeLine) ∧ (SqT K H a xs → xs.length ≤ sizeLine)
theorem PE.len {X : Cx} {e : Expr} {t : TE} (h : PE X e t) : PE X e (fun σ H Q => t σ H fun v H' => HLen X.K H' → Q v H') := ⟨fun pins s σ H Q I q =>
  wpAny_mono (h.run pins s σ H _ I q) (fun u s' ⟨v, H', I', r, q'⟩ => ⟨v, H', I', r, q' fun a xs => ⟨fun z => by obtain ⟨_, _, _, h⟩ := I'.list z; exact h, fun z => by obtain ⟨_, _, _, h⟩ := I'.tuple z; exact h⟩⟩) fun _ _ z => z⟩
/-- a source that the body may not disturb; one that is read at once -/
def SIs (X : Cx) (W : WX) (tg iter : Expr) (m : ME (List D)) : Prop := PI X tg iter (tR (Cx.z X) (lIs X.K) W m)
def SIw (X : Cx) (W : WX) (tg iter : Expr) (m : ME (List D)) : Prop := PI X tg iter (tR (Cx.z X) (lIw X.K) W m)
theorem ItR.w {K : PySem.W.Frag} {O B : Own} {ds : List D} {J : It} {H : Hp} (h : ItR K O O ds J H) (s : ∀ a, B a → O a) : ItR K O B ds J H := fun H' k => h H' (k.mono s)
theorem PI.imp {X : Cx} {tg e : Expr} {t t' : TI} (h : PI X tg e t) (i : ∀ σ H Q, t' σ H Q → t σ H Q) : PI X tg e t' := ⟨fun pins s σ H R I q => h.run pins s σ H R I (i σ H R q)⟩
theorem SIs.w (h : SIs X W tg iter ms) : SIw X W tg iter ms := PI.imp h fun σ H Q ⟨g, ρ, b, α, β, r, p⟩ => by
  refine ⟨g, ρ, b, α, β, r, ?_⟩
  cases e : ms ρ b with
  | ok a b' =>
    rw [e] at p
    exact fun x H' l k q => p x H' ⟨l.1.w fun _ h => .inr (.inl h), l.2⟩ k q
  | ex x b' => rw [e] at p; exact p
  | bad => rw [e] at p; exact p
theorem itr_list {K : PySem.W.Frag} {O M : Own} {H : Hp} {ds : List D} {vs : List V} {a : Addr} (h : TL K M H a vs) (l : RDs K O H ds vs) : ItR K O M ds (Itl K a) H := fun H' k => by
  have q : SqL K H' a vs := (h.keep k).sq
  refine ⟨⟨vs, q, by rw [l.length]; exact Nat.le_refl _⟩, fun i d e => ?_⟩
  obtain ⟨v, e1, e2⟩ := l.get e
  refine ⟨⟨vs, v, q, e1⟩, fun x H3 ⟨e3, y⟩ => ?_⟩
  subst e3
  have := y vs q
  rw [e1] at this; cases this
  exact ⟨Keep.refl _ _, fun Ot _ tr => tr d v e2⟩
theorem itr_tup {K : PySem.W.Frag} {O M : Own} {H : Hp} {ds : List D} {vs : List V} {a : Addr} (h : TU K M H a vs) (l : RDs K O H ds vs) : ItR K O M ds (Itt K a) H := fun H' k => by
  have q : SqT K H' a vs := (h.keep k).sq
  refine ⟨⟨vs, q, by rw [l.length]; exact Nat.le_refl _⟩, fun i d e => ?_⟩
  obtain ⟨v, e1, e2⟩ := l.get e
  refine ⟨⟨vs, v, q, e1⟩, fun x H3 ⟨e3, y⟩ => ?_⟩
  subst e3
  have := y vs q
  rw [e1] at this; cases this
  exact ⟨Keep.refl _ _, fun Ot _ tr => tr d v e2⟩
def itsD : D → Option (List D)
  | .list xs => some xs
  | .tuple xs => some xs
  | _ => none
def itM (ma : ME D) : ME (List D) := bindM ma fun d => liftO (itsD d)
/-- a list or a tuple -/
theorem si_seq (h : SE X W iter ma) : SIs X W tg iter (itM ma) := ⟨fun pins s σ H R I ⟨g, ρ, b, α, β, r, p⟩ => by
  unfold itM bindM at p
  cases e : ma ρ b with
  | ok d b' =>
    rw [e] at p
    simp only [Fs.R.bind, liftO] at p
    cases d with
    | list xs =>
      refine (pi_list (PE.len h)).run pins s σ H R I ⟨g, ρ, b, α, β, r, ?_⟩
      rw [e]
      refine fun x H' l k q hz => ?_
      cases l with
      | lst a l => exact ⟨_, rfl, ⟨_, a.sq⟩, p (Itl X.K _) H' ⟨itr_list a l, by rw [l.length]; exact (hz _ _).1 a.sq⟩ k q⟩
    | tuple xs =>
      refine (pi_tup (PE.len h)).run pins s σ H R I ⟨g, ρ, b, α, β, r, ?_⟩
      rw [e]
      refine fun x H' l k q hz => ?_
      cases l with
      | tup a l => exact ⟨_, rfl, ⟨_, a.sq⟩, p (Itt X.K _) H' ⟨itr_tup a l, by rw [l.length]; exact (hz _ _).2 a.sq⟩ k q⟩
    | none => exact p.elim
    | bool _ => exact p.elim
    | int _ => exact p.elim
    | str _ => exact p.elim
    | dict _ => exact p.elim
  | ex x b' =>
    refine (pi_list (PE.len h)).run pins s σ H R I ⟨g, ρ, b, α, β, r, ?_⟩
    rw [e] at p ⊢
    exact p
  | bad => rw [e] at p; exact p.elim⟩
theorem si_seqW (h : SW X W iter ma) : SIw X W tg iter (itM ma) := ⟨fun pins s σ H R I ⟨g, ρ, b, α, β, r, p⟩ => by
  unfold itM bindM at p
  cases e : ma ρ b with
  | ok d b' =>
    rw [e] at p
    simp only [Fs.R.bind, liftO] at p
    cases d with
    | list xs =>
      refine (pi_list (PE.len h)).run pins s σ H R I ⟨g, ρ, b, α, β, r, ?_⟩
      rw [e]
      refine fun x H' l k q hz => ?_
      have fin : ∀ a vs, TL X.K (Bs β) H' a vs → RDs X.K (OW g ρ α β) H' xs vs → x = .ref a → iList X.K (fun _ H Q => Q x H) σ H' R := fun a vs t w1 ex =>
        ⟨a, ex, ⟨_, t.sq⟩, p (Itl X.K a) H' ⟨itr_list t w1, by rw [w1.length]; exact (hz _ _).1 t.sq⟩ k q⟩
      rcases l with l | ⟨ds, vs, a, e1, e2, t, w1⟩
      · cases l with
        | lst a w1 => exact fin _ _ ⟨a.1, fun z => a.2 (.inr (.inl z))⟩ w1 rfl
      · cases e1
        exact fin a vs t w1 e2
    | tuple xs =>
      refine (pi_tup (PE.len h)).run pins s σ H R I ⟨g, ρ, b, α, β, r, ?_⟩
      rw [e]
      refine fun x H' l k q hz => ?_
      cases l.rd (fun _ z => by cases z) with
      | tup a w1 =>
        refine ⟨_, rfl, ⟨_, a.sq⟩, p (Itt X.K _) H' ⟨itr_tup ?_ w1, by rw [w1.length]; exact (hz _ _).2 a.sq⟩ k q⟩
        rcases a with ⟨a, n⟩ | a
        · exact .inl ⟨a, fun z => n (.inr (.inl z))⟩
        · exact .inr a
    | none => exact p.elim
    | bool _ => exact p.elim
    | int _ => exact p.elim
    | str _ => exact p.elim
    | dict _ => exact p.elim
  | ex x b' =>
    refine (pi_list (PE.len h)).run pins s σ H R I ⟨g, ρ, b, α, β, r, ?_⟩
    rw [e] at p ⊢
    exact p
  | bad => rw [e] at p; exact p.elim⟩
def rngL (lo : Int) (n : Nat) : List D := (List.range n).map fun (i : Nat) => .int (lo + (i : Int))
theorem itr_rng {K : PySem.W.Frag} {O M : Own} {H : Hp} {lo : Int} {n : Nat} : ItR K O M (rngL lo n) (Itr lo n) H := fun H' k => by
  have hl : (rngL lo n).length = n := by simp [rngL]
  refine ⟨by rw [hl]; exact Nat.le_refl n, fun i d e => ?_⟩
  have hi : i < n := by rw [← hl]; exact (List.getElem?_eq_some_iff.mp e).1
  refine ⟨hi, fun x H3 ⟨e3, y⟩ => ?_⟩
  subst e3 y
  have : d = .int (lo + (i : Int)) := by
    unfold rngL at e
    rw [List.getElem?_map, List.getElem?_range hi] at e
    exact (Option.some.inj e).symm
  subst this
  exact ⟨Keep.refl _ _, fun _ _ _ => .int _⟩
theorem rng_len {lo : Int} {n : Nat} (h : n ≤ 16777216) : (rngL lo n).length ≤ sizeLine := by
  rw [sizeLine_eq]
  simpa [rngL] using h
def rng1F (d : D) : Option (List D) := match d with
  | .int j => if -(2 ^ 62) ≤ j ∧ j ≤ 16777216 then some (rngL 0 j.toNat) else none
  | _ => none
def rng1M (ma : ME D) : ME (List D) := bindM ma fun d => liftO (rng1F d)
theorem si_rng1 {p : Pos} (hg : Gl X "range") (hm : X.mg "range" = none) (ha : SW X W a ma) (hs : starEach [a] X.env = [(false, eval a X.env)] := by rfl) : SIs X W tg (.Call (.Name "range" p) [a] [] pos) (rng1M ma) :=
  PI.imp (pi_range1 hg hm (saw_cons ha saw_nil hs) hs) fun σ H R ⟨g, ρ, b, α, β, r, p⟩ => by
    refine ⟨g, ρ, b, α, β, r, ?_⟩
    unfold rng1M bindM at p
    unfold consM bindM nilM
    cases e : ma ρ b with
    | ok d b' =>
      rw [e] at p
      simp only [Fs.R.bind, liftO] at p ⊢
      refine fun x H' l k q => ?_
      obtain ⟨v, rfl, w1⟩ := l.one
      cases d with
      | int j =>
        simp only [rng1F] at p
        by_cases hb : -(2 ^ 62) ≤ j ∧ j ≤ 16777216
        · rw [if_pos hb] at p
          exact ⟨j, by rw [w1.int], hb.1, by omega, p _ H' ⟨itr_rng, rng_len (by omega)⟩ k q⟩
        · rw [if_neg hb] at p
          exact p.elim
      | none => exact p.elim
      | bool _ => exact p.elim
      | list _ => exact p.elim
      | str _ => exact p.elim
      | tuple _ => exact p.elim
      | dict _ => exact p.elim
    | ex x b' => rw [e] at p; exact p
    | bad => rw [e] at p; exact p
def rng2F (d e : D) : Option (List D) := match d, e with
  | .int i, .int j => if -(2 ^ 62) ≤ i ∧ i < 2 ^ 62 ∧ -(2 ^ 62) ≤ j ∧ j < 2 ^ 62 ∧ j - i ≤ 16777216 then some (rngL i (j - i).toNat) else none
  | _, _ => none
def rng2M (ma mb : ME D) : ME (List D) := bindM ma fun d => bindM mb fun e => liftO (rng2F d e)
theorem si_rng2 {p : Pos} {mb : ME D} (hg : Gl X "range") (hm : X.mg "range" = none) (ha : SW X W a ma) (hb : SW X W c mb) (hs : starEach [a, c] X.env = [(false, eval a X.env), (false, eval c X.env)] := by rfl) (hs2 : starEach [c] X.env = [(false, eval c X.env)] := by rfl) :
    SIs X W tg (.Call (.Name "range" p) [a, c] [] pos) (rng2M ma mb) :=
  PI.imp (pi_range2 hg hm (pa_cons ha (pa_cons hb pa_nil hs2) (by rw [hs, hs2])) hs hs2) fun σ H R h => by
    show tCons _ (tCons _ tNil) σ H _
    refine tR_bind2 (L := lW X.K) (L2' := lW X.K) pers_W h fun g ρ b α β d e x y H1 r l1 l2 p => ?_
    obtain ⟨ds, eds, q⟩ := post_lift p
    unfold rng2F at eds
    split at eds
    · split at eds
      · rename_i hb
        cases eds
        exact ⟨_, _, by rw [l1.int, l2.int], ⟨hb.1, hb.2.1, hb.2.2.1, hb.2.2.2.1⟩, q _ H1 ⟨itr_rng, rng_len (by omega)⟩ (Keep.refl _ _) r.box⟩
      · cases eds
    · cases eds
/-! ### the loop -/
theorem RetOk.back {Z : Zx} {g : Gh} {H H' : Hp} {d : D} {v : V} {b b' : Bx} {ρ : En} {σ : L2.St} {α : Nat → Addr} {β : Option Addr} (r : RE Z.K g H ρ b σ α β) (h : RetOk Z (rb g (MW ρ α β) H g.Of g.la) H' d v b') : RetOk Z g H' d v b' :=
  ⟨h.1, r.back0 (fun _ h => h) h.2.1, h.2.2⟩
theorem PostS.base {Z : Zx} {g : Gh} {D : Ends} {H : Hp} {b : Bx} {ρ : En} {σ : L2.St} {α : Nat → Addr} {β : Option Addr} (r : RE Z.K g H ρ b σ α β) {t : SR} (h : PostS Z W g D t) : PostS Z W (rb g (MW ρ α β) H g.Of g.la) D t := by
  cases t with
  | nx ρ b => exact fun σ H α β q => h σ H α β (r.unbase q)
  | bk ρ b => exact fun σ H α β q => h σ H α β (r.unbase q)
  | ct ρ b => exact fun σ H α β q => h σ H α β (r.unbase q)
  | rt d b => exact fun v H q => h v H (q.back r)
  | ex e ρ b => exact fun cls dd σ H α β q x => h cls dd σ H α β (r.unbase q) x
  | bad => exact h
/-- data of the start is data at each turn -/
theorem RD.turn {K : PySem.W.Frag} {g : Gh} {H H' : Hp} {b b' : Bx} {ρ ρ' : En} {σ σ' : L2.St} {α α' : Nat → Addr} {β β' : Option Addr} (r : RE K g H ρ b σ α β) (r' : RE K (rb g (MW ρ α β) H g.Of g.la) H' ρ' b' σ' α' β') {c : D} {y : V}
    (h : RD K (OW g ρ α β) H c y) : RD K (OW (rb g (MW ρ α β) H g.Of g.la) ρ' α' β') H' c y := by
  have h1 : RD K (fun a => OW g ρ α β a ∨ OW (rb g (MW ρ α β) H g.Of g.la) ρ' α' β' a) H c y := h.own fun a u e z => by
    rcases z with z | z
    · exact z
    · by_cases hm : MW ρ α β a
      · rcases hm with hm | hm
        · exact .inr (.inl hm)
        · exact .inr (.inr hm)
      · have hH : (rb g (MW ρ α β) H g.Of g.la).H0 a = some u := (rb_n hm).trans e
        rcases z with z | z | ⟨i, xs, ez, z⟩
        · exact .inl z
        · rcases r'.bxNew a z with q | ⟨_, q⟩
          · exact absurd (r.foM q) hm
          · rw [q] at hH; cases hH
        · obtain ⟨_, _, _, _, q, _⟩ := r'.own i xs ez
          rw [z] at q
          rw [q] at hH; cases hH
  have k : Keep (fun a => OW g ρ α β a ∨ OW (rb g (MW ρ α β) H g.Of g.la) ρ' α' β' a) H H' := fun a u e n => by
    have hm : ¬ MW ρ α β a := fun z => by
      rcases z with z | z
      · exact n (.inl (.inr (.inl z)))
      · exact n (.inl (.inr (.inr z)))
    exact r'.evo a u ((rb_n hm).trans e) fun z => hm (r.foM z)
  exact (h1.keep k).own fun a u _ z => .inr z
def forM (mi : ME (List D)) (tf : TF) (body : MS) : MS := exprM mi fun ds => forL tf body ds
theorem ss_for {body : List Stmt} {mi : ME (List D)} (hp : PassesOwn (model X.prog X.w) X.A X.env X.xe) (hc : X.calm = true) (hi : SIs X W tg iter mi) (hg : SG X tg ts tf) (hb : SB X W body m)
    (hs : ∀ x, foldedSetIterable iter X.env x = pure x := by intro _; rfl) : SS X W (.For tg iter body [] pos) (forM mi tf m) :=
  PS.imp (ps_for hp hc hi hg hb hs) fun D σ H h => expr_read (L := lIs X.K) h fun g ρ b α β ds J H1 r _ l p =>
    for_core r.base (fun H' ρ' b' σ' α' β' r' => by
      have kk : Keep (OW g ρ α β) H1 H' := fun a u e n => by
        have hm : ¬ MW ρ α β a := fun z => by
          rcases z with z | z
          · exact n (.inr (.inl z))
          · exact n (.inr (.inr z))
        exact r'.evo a u ((rb_n hm).trans e) fun z => hm (r.foM z)
      obtain ⟨h1, h2⟩ := l.1 H' kk
      refine ⟨h1, fun i d e => ?_⟩
      obtain ⟨h3, h4⟩ := h2 i d e
      refine ⟨h3, fun x H3 y => ?_⟩
      obtain ⟨h5, h6⟩ := h4 x H3 y
      refine ⟨h5, h6 _ (fun a z => ?_) fun c y hc => (RD.turn r r' hc).keep h5.of0⟩
      obtain ⟨xs, q⟩ := r'.ownL a z
      exact rd_some q) (PostS.base r p)
end
end Fs

/-! F10: list comprehensions. -/
namespace Fs
open L2 PyProof.Rows PySem.Spec PySem
/-! ### the block's own names forgotten -/
def wipeE (ρ : En) : List Nat → En
  | [] => ρ
  | v :: vs => (wipeE ρ vs).set v .no
def noOwn (ρ : En) (vs : List Nat) : Bool := vs.all fun i => match ρ[i]? with
  | some (.own _) => false
  | _ => true
theorem wipeE_len (ρ : En) : ∀ vs : List Nat, (wipeE ρ vs).length = ρ.length
  | [] => rfl
  | v :: vs => by unfold wipeE; rw [List.length_set, wipeE_len ρ vs]
theorem wipeE_at {ρ : En} {i : Nat} : ∀ {vs : List Nat}, i ∉ vs → (wipeE ρ vs)[i]? = ρ[i]?
  | [], _ => rfl
  | v :: vs, h => by
    simp only [List.mem_cons, not_or] at h
    unfold wipeE
    rw [set_ne (Ne.symm h.1), wipeE_at h.2]
theorem wipeE_in {ρ : En} {i : Nat} {sl : Sl} : ∀ {vs : List Nat}, i ∈ vs → (wipeE ρ vs)[i]? = some sl → sl = .no
  | v :: vs, h, e => by
    unfold wipeE at e
    by_cases hv : v = i
    · subst hv
      by_cases hl : v < (wipeE ρ vs).length
      · rw [set_at hl] at e; cases e; rfl
      · rw [List.getElem?_eq_none (by simpa using hl)] at e; cases e
    · rw [set_ne hv] at e
      have : i ∈ vs := by
        rcases List.mem_cons.mp h with z | z
        · exact absurd z.symm hv
        · exact z
      exact wipeE_in this e
theorem wipe_at' {σ : L2.St} {i : Nat} : ∀ {vs : List Nat}, i ∉ vs → (wipe σ vs)[i]? = σ[i]?
  | [], _ => rfl
  | v :: vs, h => by
    simp only [List.mem_cons, not_or] at h
    unfold wipe
    rw [List.getElem?_set_ne (Ne.symm h.1), wipe_at' h.2]
theorem wipe_idem {σ σ2 : L2.St} {vs ts : List Nat} (hs : ∀ i ∈ ts, i ∈ vs) (h : Sm ts (wipe σ vs) σ2) : wipe σ2 vs = wipe σ vs := by
  apply List.ext_getElem?
  intro i
  have hl : σ2.length = σ.length := by rw [h.1, wipe_length]
  by_cases hi : i ∈ vs
  · have key : ∀ {τ : L2.St} {us : List Nat}, i ∈ us → (wipe τ us)[i]? = if i < τ.length then some none else none := by
      intro τ us
      induction us with
      | nil => intro h; cases h
      | cons v us ih =>
        intro h
        unfold wipe
        by_cases hv : v = i
        · subst hv
          by_cases hl : v < τ.length
          · rw [if_pos hl, List.getElem?_set_self (by rw [wipe_length]; exact hl)]
          · rw [if_neg hl, List.getElem?_eq_none (by rw [List.length_set, wipe_length]; omega)]
        · rw [List.getElem?_set_ne hv]
          exact ih (by
            rcases List.mem_cons.mp h with z | z
            · exact absurd z.symm hv
            · exact z)
    rw [key hi, key hi, hl]
  · rw [wipe_at' hi]
    exact h.2 i fun z => hi (hs i z)
section
variable {K : PySem.W.Frag} {g : Gh} {H H' : Hp} {ρ : En} {b b' : Bx} {σ : L2.St} {α : Nat → Addr} {β : Option Addr}
theorem ow_wipe {vs : List Nat} (hn : noOwn ρ vs = true) : ∀ a, OW g ρ α β a ↔ OW g (wipeE ρ vs) α β a := fun a => by
  constructor
  · intro h
    rcases h with h | h | ⟨i, xs, e, h⟩
    · exact .inl h
    · exact .inr (.inl h)
    · have hi : i ∉ vs := fun z => by
        have := List.all_eq_true.mp hn i z
        rw [e] at this; cases this
      exact .inr (.inr ⟨i, xs, by rw [wipeE_at hi]; exact e, h⟩)
  · intro h
    rcases h with h | h | ⟨i, xs, e, h⟩
    · exact .inl h
    · exact .inr (.inl h)
    · by_cases hi : i ∈ vs
      · cases wipeE_in hi e
      · rw [wipeE_at hi] at e
        exact .inr (.inr ⟨i, xs, e, h⟩)
theorem ow_sm {ts vs : List Nat} {ρ1 : En} (hs : ∀ i ∈ ts, i ∈ vs) (h : Sm ts (wipeE ρ vs) ρ1) : ∀ a, OW g (wipeE ρ vs) α β a → OW g ρ1 α β a := fun a z => by
  rcases z with z | z | ⟨i, xs, e, z⟩
  · exact .inl z
  · exact .inr (.inl z)
  · have hi : i ∉ vs := fun w => by cases wipeE_in w e
    exact .inr (.inr ⟨i, xs, by rw [h.2 i fun w => hi (hs i w)]; exact e, z⟩)
theorem RE.wipe (r : RE K g H ρ b σ α β) {vs : List Nat} (hn : noOwn ρ vs = true) : RE K g H (wipeE ρ vs) b (L2.wipe σ vs) α β := by
  have ow := ow_wipe (g := g) (α := α) (β := β) hn
  have sub : ∀ a (u : HO), H a = some u → OW g (wipeE ρ vs) α β a → OW g ρ α β a := fun a _ _ z => (ow a).mpr z
  have out : ∀ {i : Nat} {sl : Sl}, (wipeE ρ vs)[i]? = some sl → sl ≠ .no → i ∉ vs ∧ ρ[i]? = some sl := fun {i sl} e n => by
    by_cases hi : i ∈ vs
    · exact absurd (wipeE_in hi e) n
    · exact ⟨hi, by rw [← wipeE_at hi]; exact e⟩
  refine ⟨by rw [wipeE_len, wipe_length, r.len], r.evo, r.oft, r.ofo, fun i d e => ?_, fun i xs e => ?_, fun i j xs ys e1 e2 => ?_, fun i xs e => ?_, fun i e => ?_, r.box⟩
  · obtain ⟨hi, e⟩ := out e (fun z => by cases z)
    obtain ⟨v, e1, e2⟩ := r.val i d e
    exact ⟨v, by rw [wipe_at' hi]; exact e1, e2.own sub⟩
  · obtain ⟨hi, e⟩ := out e (fun z => by cases z)
    obtain ⟨vs', e1, e2, e3, e4, e5⟩ := r.own i xs e
    exact ⟨vs', by rw [wipe_at' hi]; exact e1, e2, e3.own sub, e4, e5⟩
  · exact r.inj i j xs ys (out e1 (fun z => by cases z)).2 (out e2 (fun z => by cases z)).2
  · obtain ⟨hi, e⟩ := out e (fun z => by cases z)
    obtain ⟨vs', e1, e2, e3, e4⟩ := r.lck i xs e
    exact ⟨vs', by rw [wipe_at' hi]; exact e1, e2, e3, e4.own sub⟩
  · obtain ⟨hi, e⟩ := out e (fun z => by cases z)
    obtain ⟨a, e1, e2⟩ := r.bxs i e
    exact ⟨a, e1, by rw [wipe_at' hi]; exact e2⟩
/-! ### the list that is being made -/
def gD (g : Gh) (L : Addr) (ws : List V) : Gh := ⟨upd g.H0 L (.lst ws), fun a => g.Of a ∨ a = L, g.fo, g.la⟩
theorem RE.addD (r : RE K g H ρ b σ α β) {L : Addr} (hn : H L = none) : RE K (gD g L []) (upd H L (.lst [])) ρ b σ α β := by
  have neB : ∀ a, β = some a → a ≠ L := fun a h z => by
    obtain ⟨xs, e⟩ := r.ownL a (.inr (.inl h))
    obtain ⟨o, e⟩ := rd_some e
    rw [z, hn] at e; cases e
  have neO : ∀ a, g.Of a → a ≠ L := fun a h z => by
    obtain ⟨xs, e⟩ := r.ownL a (.inl h)
    obtain ⟨o, e⟩ := rd_some e
    rw [z, hn] at e; cases e
  have g0 : g.H0 L = none := by
    cases e : g.H0 L with
    | none => rfl
    | some u =>
      by_cases hf : g.fo = some L
      · exact absurd rfl (neB L (r.foB' hf))
      · have := r.evo L u e hf
        rw [hn] at this; cases this
  have mono : ∀ a (u : HO), H a = some u → OW (gD g L []) ρ α β a → OW g ρ α β a := fun a u e z => by
    rcases z with (z | z) | z
    · exact .inl z
    · rw [z, hn] at e; cases e
    · exact .inr z
  have kp : ∀ O : Own, Keep O H (upd H L (.lst [])) := fun O => (Keep.upd hn).of0
  refine ⟨r.len, fun a u e n => ?_, fun a h => ?_, fun a h => ?_, fun i d e => ?_, fun i xs e => ?_, r.inj, fun i xs e => ?_, r.bxs, ?_⟩
  · by_cases ha : a = L
    · subst ha
      have e : upd g.H0 a (.lst []) a = some u := e
      rw [upd_same] at e ⊢; exact e
    · have e : upd g.H0 L (.lst []) a = some u := e
      rw [upd_ne ha] at e ⊢
      exact r.evo a u e n
  · by_cases ha : a = L
    · subst ha
      exact ⟨[], .inl upd_same⟩
    · rcases h with h | h
      · obtain ⟨xs, e⟩ := r.oft a h
        exact ⟨xs, Rd.keep (O := nobody) e id (Keep.upd g0)⟩
      · exact absurd h ha
  · have h' : g.fo = some a := h
    obtain ⟨n, xs, e⟩ := r.ofo a h'
    refine ⟨fun z => ?_, xs, ?_⟩
    · rcases z with z | z
      · exact n z
      · exact neB a (r.foB' h') z
    · show upd g.H0 L (.lst []) a = _
      rw [upd_ne (neB a (r.foB' h'))]; exact e
  · obtain ⟨v, e1, e2⟩ := r.val i d e
    exact ⟨v, e1, (e2.own mono).keep (kp _)⟩
  · obtain ⟨vs, e1, e2, e3, e4, e5⟩ := r.own i xs e
    refine ⟨vs, e1, kp nobody _ _ e2 id, (e3.own mono).keep (kp _), ?_, e5⟩
    show upd g.H0 L (.lst []) (α i) = none
    rw [upd_ne fun z => by rw [z, hn] at e2; cases e2]
    exact e4
  · obtain ⟨vs, e1, e2, e3, e4⟩ := r.lck i xs e
    exact ⟨vs, e1, .inl e2, Rd.keep (O := nobody) e3 id (Keep.upd g0), (e4.own mono).keep (kp _)⟩
  · have q := r.box
    cases b with
    | no => exact q
    | fo x y z =>
      obtain ⟨a, q1, q2, q3⟩ := q
      exact ⟨a, q1, q2, by rw [upd_ne (neB a q1)]; exact q3⟩
    | ow x y z =>
      obtain ⟨a, q1, q2, q3, q4⟩ := q
      refine ⟨a, q1, q2, ?_, by rw [upd_ne (neB a q1)]; exact q4⟩
      show upd g.H0 L (.lst []) a = none
      rw [upd_ne (neB a q1)]; exact q3
theorem RE.chD {L : Addr} {ws us : List V} (r : RE K (gD g L ws) H ρ b σ α β) (hL : ∀ i xs, ρ[i]? = some (.lk xs) → g.la i ≠ L) : RE K (gD g L us) (upd H L (.lst us)) ρ b σ α β := by
  have neB : ∀ a, β = some a → a ≠ L := fun a h z => r.ofB (show (gD g L ws).Of a from .inr z) h
  have kp : Keep (OW (gD g L ws) ρ α β) H (upd H L (.lst us)) := fun a u e n => by
    rw [upd_ne fun z => n (.inl (.inr z))]; exact e
  have same : ∀ a, a ≠ L → (gD g L us).H0 a = (gD g L ws).H0 a := fun a h => by
    show upd g.H0 L (.lst us) a = upd g.H0 L (.lst ws) a
    rw [upd_ne h, upd_ne h]
  have neI : ∀ i xs, ρ[i]? = some (.own xs) → α i ≠ L := fun i xs e z => by
    obtain ⟨_, _, _, _, e4, _⟩ := r.own i xs e
    rw [z] at e4
    have e4 : upd g.H0 L (.lst ws) L = none := e4
    rw [upd_same] at e4; cases e4
  refine ⟨r.len, fun a u e n => ?_, fun a h => ?_, fun a h => ?_, fun i d e => ?_, fun i xs e => ?_, r.inj, fun i xs e => ?_, r.bxs, ?_⟩
  · by_cases ha : a = L
    · subst ha
      have e : upd g.H0 a (.lst us) a = some u := e
      rw [upd_same] at e ⊢; exact e
    · rw [same a ha] at e
      rw [upd_ne ha]
      exact r.evo a u e n
  · by_cases ha : a = L
    · subst ha
      exact ⟨us, .inl upd_same⟩
    · obtain ⟨xs, e⟩ := r.oft a h
      refine ⟨xs, ?_⟩
      rcases e with e | ⟨o, e⟩
      · exact .inl ((same a ha).trans e)
      · exact .inr ⟨o, (same a ha).trans e⟩
  · obtain ⟨n, xs, e⟩ := r.ofo a h
    exact ⟨n, xs, by rw [same a (neB a (r.foB' h))]; exact e⟩
  · obtain ⟨v, e1, e2⟩ := r.val i d e
    exact ⟨v, e1, e2.keep kp⟩
  · obtain ⟨vs, e1, e2, e3, e4, e5⟩ := r.own i xs e
    exact ⟨vs, e1, by rw [upd_ne (neI i xs e)]; exact e2, e3.keep kp, by rw [same _ (neI i xs e)]; exact e4, e5⟩
  · obtain ⟨vs, e1, e2, e3, e4⟩ := r.lck i xs e
    have ha : (gD g L ws).la i ≠ L := hL i xs e
    refine ⟨vs, e1, e2, ?_, e4.keep kp⟩
    rcases e3 with e3 | ⟨o, e3⟩
    · exact .inl ((same _ ha).trans e3)
    · exact .inr ⟨o, (same _ ha).trans e3⟩
  · have q := r.box
    cases b with
    | no => exact q
    | fo x y z =>
      obtain ⟨a, q1, q2, q3⟩ := q
      exact ⟨a, q1, q2, by rw [upd_ne (neB a q1)]; exact q3⟩
    | ow x y z =>
      obtain ⟨a, q1, q2, q3, q4⟩ := q
      exact ⟨a, q1, q2, by rw [same a (neB a q1)]; exact q3, by rw [upd_ne (neB a q1)]; exact q4⟩
theorem RE.lkL (r : RE K g H ρ b σ α β) {L : Addr} (hn : H L = none) : ∀ i xs, ρ[i]? = some (.lk xs) → g.la i ≠ L := fun i xs e z => by
  obtain ⟨vs, _, e2, e3, _⟩ := r.lck i xs e
  have q : Rd H (g.la i) (.lst vs) := Rd.keep e3 (fun z => (r.ofo _ z).1 e2) r.evo
  obtain ⟨o, q⟩ := rd_some q
  rw [z, hn] at q; cases q
theorem RE.boxD {L : Addr} {ws : List V} (r : RE K (gD g L ws) H ρ b σ α β) : BxR g H b β := by
  have q := r.box
  cases b with
  | no => exact q
  | fo x y z => exact q
  | ow x y z =>
    obtain ⟨a, q1, q2, q3, q4⟩ := q
    refine ⟨a, q1, q2, ?_, q4⟩
    have q3 : upd g.H0 L (.lst ws) a = none := q3
    have ha : a ≠ L := fun z => by rw [z, upd_same] at q3; cases q3
    rw [upd_ne ha] at q3
    exact q3
end

/-! ### the comprehension -/
def compL (tf : TF) (mt : ME Bool) (me : ME D) (ρ0 : En) : List D → Bx → R (List D)
  | [], b => .ok [] b
  | d :: ds, b => match tf d ρ0 with
    | none => .bad
    | some ρ1 => match mt ρ1 b with
      | .ok true b1 => match me ρ1 b1 with
        | .ok y b2 => match compL tf mt me ρ0 ds b2 with
          | .ok ys b3 => .ok (y :: ys) b3
          | _ => .bad
        | _ => .bad
      | .ok false b1 => compL tf mt me ρ0 ds b1
      | _ => .bad
def compM (mi : ME (List D)) (vs : List Nat) (tf : TF) (mt : ME Bool) (me : ME D) : ME (List D) := bindM mi fun ds ρ b => if noOwn ρ vs then compL tf mt me (wipeE ρ vs) ds b else .bad
theorem compL_ex {tf : TF} {mt : ME Bool} {me : ME D} {ρ0 : En} {x : Exn} {b' : Bx} : ∀ (ds : List D) (b : Bx), compL tf mt me ρ0 ds b ≠ .ex x b'
  | [], b => fun h => by cases h
  | d :: ds, b => fun h => by
    unfold compL at h
    split at h
    · cases h
    · split at h
      · split at h
        · split at h <;> cases h
        · cases h
      · exact compL_ex ds _ h
      · cases h
abbrev wNo : WX := fun _ _ _ _ => False
section
variable {X : Cx} {W : WX} {mi : ME (List D)} {vs ts : List Nat} {tf : TF} {mt : ME Bool} {me : ME D} {σ : L2.St} {H : Hp} {Q : VK}
/-- at a turn: the list at L holds acc, the rest is to come -/
structure CSt (X : Cx) (W : WX) (tf : TF) (mt : ME Bool) (me : ME D) (vs : List Nat) (g : Gh) (ρ : En) (σ : L2.St) (α : Nat → Addr) (β : Option Addr) (H H1 : Hp) (Q : VK) (L : Addr) (ds : List D) (i : Nat) (b : Bx) (acc : List D) (ws : List V) (H' : Hp) : Prop where
  re : RE X.K (gD g L ws) H' ρ b σ α β
  kp : Keep (Bs β) H1 H'
  le : acc.length ≤ i
  rd : RDs X.K (OW (gD g L ws) ρ α β) H' acc ws
  fin : match compL tf mt me (wipeE ρ vs) (ds.drop i) b with
    | .ok ys b3 => PostN (Cx.z X) W (OW g ρ α β) g β σ H Q (.ok (acc ++ ys) b3)
    | _ => False
theorem CSt.at (c : CSt X W tf mt me vs g ρ σ α β H H1 Q L ds i b acc ws H') : H' L = some (.lst ws) := c.re.evo L _ upd_same fun z => c.re.ofB (show (gD g L ws).Of L from .inr rfl) (c.re.foB' z)
theorem lc_read (hs : ∀ i ∈ ts, i ∈ vs) (h : tN (Cx.z X) W (compM mi vs tf mt me) σ H Q) : tLc (tR (Cx.z X) (lIw X.K) W mi) (tGt (Cx.z X) ts tf) (tR (Cx.z X) lB wNo mt) (tR (Cx.z X) (lD X.K) wNo me) vs σ H Q := by
  obtain ⟨g, ρ, b, α, β, r, p⟩ := h
  refine ⟨g, ρ, b, α, β, r, ?_⟩
  unfold compM bindM at p
  cases e : mi ρ b with
  | ex x b' => rw [e] at p; exact p
  | bad => rw [e] at p; exact p
  | ok ds b1 =>
    rw [e] at p
    simp only [Fs.R.bind] at p
    refine fun J H1 l k q => ?_
    have r1 := r.step k q
    by_cases hn : noOwn ρ vs = true
    case neg =>
      rw [if_neg hn] at p
      exact p.elim
    rw [if_pos hn] at p
    refine fun L hL => ⟨fun i k H' => k = ds.length - i ∧ i ≤ ds.length ∧ ∃ b acc ws, CSt X W tf mt me vs g ρ σ α β H H1 Q L ds i b acc ws H', ⟨ds.length, rfl, Nat.zero_le _, b1, [], [], ?_⟩, ?_⟩
    · refine ⟨r1.addD hL, (Keep.upd hL).of0, Nat.le_refl _, .nil, ?_⟩
      rw [List.drop_zero]
      cases ec : compL tf mt me (wipeE ρ vs) ds b1 with
      | ok ys b3 => rw [ec] at p; exact p
      | ex x b3 => exact absurd ec (compL_ex _ _)
      | bad => rw [ec] at p; exact p
    · rintro i k' H' ⟨rfl, hi, b2, acc, ws, c⟩
      obtain ⟨hstop, hgo⟩ := l.1 H' c.kp
      by_cases hlt : i < ds.length
      · obtain ⟨g1, y⟩ := hgo i ds[i] (List.getElem?_eq_getElem hlt)
        refine .inr ⟨g1, fun H' => ∃ b acc ws, CSt X W tf mt me vs g ρ σ α β H H1 Q L ds (i + 1) b acc ws H', fun H' h => ⟨ds.length - (i + 1), by omega, rfl, hlt, h⟩, fun x H3 hy => ?_⟩
        obtain ⟨k0, tr⟩ := y x H3 hy
        have r3 : RE X.K (gD g L ws) H3 ρ b2 σ α β := c.re.step k0.of0 (c.re.box.keep0 k0)
        have fin := c.fin
        rw [List.drop_eq_getElem_cons hlt] at fin
        unfold compL at fin
        cases et : tf ds[i] (wipeE ρ vs) with
        | none => rw [et] at fin; exact fin.elim
        | some ρ1 =>
          rw [et] at fin
          simp only at fin
          have ow := ow_wipe (g := gD g L ws) (α := α) (β := β) hn
          have lx : RD X.K (OW (gD g L ws) (wipeE ρ vs) α β) H3 ds[i] x := tr _ (fun a z => by
              obtain ⟨xs, q⟩ := c.re.ownL a ((ow a).mpr z)
              exact rd_some q) fun cc yy hc => by
            refine RD.keep (O := OW (gD g L ws) (wipeE ρ vs) α β) k0.of0 _ _ ?_
            refine RD.keep (c.kp.mono fun a z => .inr (.inl z)) _ _ ?_
            refine hc.own fun a u eu z => ?_
            have z := (ow a).mpr z
            rcases z with (z | z) | z
            · exact .inl z
            · rw [z, hL] at eu; cases eu
            · exact .inr z
          refine ⟨gD g L ws, wipeE ρ vs, b2, α, β, ds[i], ρ1, r3.wipe hn, lx, et, fun σ2 r2 sub s1 s2 => ⟨wipe_idem hs s1, ?_⟩⟩
          refine ⟨gD g L ws, ρ1, b2, α, β, r2, ?_⟩
          cases em : mt ρ1 b2 with
          | ex x b' => rw [em] at fin; exact fin.elim
          | bad => rw [em] at fin; exact fin.elim
          | ok t b3 =>
            rw [em] at fin
            refine fun t' H4 lt k4 q4 => ?_
            have lt : t = t' := lt
            subst lt
            have r4 := r2.step k4 q4
            have o4 := r3.step k4 q4
            cases t with
            | false =>
              simp only at fin
              exact ⟨b3, acc, ws, o4, c.kp.trans (k0.of0.trans k4), by have := c.le; omega, (c.rd.keep k0.of0).keep (k4.mono fun a z => .inr (.inl z)), fin⟩
            | true =>
              simp only at fin
              show tR (Cx.z X) (lD X.K) wNo me σ2 H4 _
              refine ⟨gD g L ws, ρ1, b3, α, β, r4, ?_⟩
              cases en : me ρ1 b3 with
              | ex x b' => rw [en] at fin; exact fin.elim
              | bad => rw [en] at fin; exact fin.elim
              | ok y b4 =>
                rw [en] at fin
                simp only at fin
                refine fun v H5 l5 k5 q5 => ?_
                have o5 := o4.step k5 q5
                have at5 : H5 L = some (.lst ws) := o5.evo L _ upd_same fun z => o5.ofB (show (gD g L ws).Of L from .inr rfl) (o5.foB' z)
                have rd5 := ((c.rd.keep k0.of0).keep (k4.mono fun a z => .inr (.inl z))).keep (k5.mono fun a z => .inr (.inl z))
                have ly : RD X.K (OW (gD g L ws) ρ α β) H5 y v := l5.own fun a u _ z => ow_sm hs s2 a ((ow a).mp z)
                have kl : Keep (OW (gD g L ws) ρ α β) H5 (upd H5 L (.lst (ws ++ [v]))) := fun a u e n => by
                  rw [upd_ne fun z => n (.inl (.inr z))]; exact e
                have hle := c.le
                have hwl := rd5.length
                refine ⟨ws, at5, by have := l.2; omega, b4, acc ++ [y], ws ++ [v], o5.chD (r1.lkL hL), fun a u ea na => ?_, by simp; omega, (rd5.append (.cons ly .nil)).keep kl, ?_⟩
                · have := (c.kp.trans (k0.of0.trans (k4.trans k5))) a u ea na
                  rw [upd_ne fun z => by rw [z, hL] at ea; cases ea]
                  exact this
                · cases ec : compL tf mt me (wipeE ρ vs) (ds.drop (i + 1)) b4 with
                  | ok ys b5 =>
                    rw [ec] at fin
                    simp only [List.append_assoc, List.singleton_append]
                    exact fin
                  | ex _ _ => rw [ec] at fin; exact fin.elim
                  | bad => rw [ec] at fin; exact fin.elim
      · have e : i = ds.length := by omega
        subst e
        refine .inl ⟨hstop, ?_⟩
        have fin := c.fin
        rw [List.drop_length] at fin
        unfold compL at fin
        have fin : PostN (Cx.z X) W (OW g ρ α β) g β σ H Q (.ok (acc ++ []) b2) := fin
        rw [List.append_nil] at fin
        exact fin L ws H' (free_back k q hL) c.at (c.rd.own fun a u _ z => by
          rcases z with z | z
          · rcases z with z | z
            · exact .inl (.inl z)
            · exact .inr z
          · exact .inl (.inr z)) (k.trans c.kp) c.re.boxD
/-! ### the rules -/
variable {tg iter elt : Expr} {ifs : List Expr} {scope : Scope} {own : List (Str × Nat)} {pos spos py : Pos}
/-- a comprehension's context -/
abbrev InBlk (X : Cx) (scope : Scope) (Pr : Cx → Prop) : Prop := ∀ (s : Shared) (H : Hp) (C : Addr) (cl : List (Str × Addr)) (fp : List Addr), Pr (X.blk s H scope (compEnvC scope cl C X.env) fp)
theorem sn_lc (hc : X.calm = true) (hN : X.N.Nodup) (hi : SIw X W tg iter mi) (ok : BlkOk X.N X.env.scope scope own) (hg : InBlk X scope fun Y => SG Y tg ts tf) (ht : InBlk X scope fun Y => PTs Y ifs (tR (Cx.z Y) lB wNo mt)) (he : InBlk X scope fun Y => SE Y wNo elt me)
    (hv : ∀ i ∈ ts, i ∈ own.map (·.2)) (hs : ∀ x, foldedSetIterable iter X.env x = pure x := by intro _; rfl) : SN X W (.ListComp elt [⟨tg, iter, ifs, 0⟩] scope pos) (compM mi (own.map (·.2)) tf mt me) :=
  PE.imp (pe_lc (g := tGt (Cx.z X) ts tf) (tt := tR (Cx.z X) lB wNo mt) (te := tR (Cx.z X) (lD X.K) wNo me) hc hN hi ok (fun s H C cl fp => hg s H C cl fp) (fun s H C cl fp => ht s H C cl fp) (fun s H C cl fp => he s H C cl fp) hs) fun σ H Q h => lc_read hv h
theorem pts_yes {Y : Cx} : PTs Y [] (tR (Cx.z Y) lB wNo (bM true)) := ⟨fun pins s σ H Q I ⟨g, ρ, b, α, β, r, p⟩ => pts_nil.run pins s σ H Q I (p true H rfl (Keep.refl _ _) r.box)⟩
theorem pts_if {Y : Cx} {c : Expr} {mt : ME Bool} (h : ST Y wNo c mt) : PTs Y [c] (tR (Cx.z Y) lB wNo mt) := pts_one h
/-- x = [..] on one line, x a local: a list of one's own; data -/
theorem ss_ownLc {i : Nat} {y : Str} (hc : X.calm = true) (hN : X.N.Nodup) (hy : X.N[i]? = some y) (hyl : X.env.scope.names.lookup y = some .local)
    (hsw : swapsWith (.ListComp elt [⟨tg, iter, ifs, 0⟩] scope pos) (some (.Name y py)) spos.line X.env = pure true) (hi : SIw X W tg iter mi) (ok : BlkOk X.N X.env.scope scope own) (hg : InBlk X scope fun Y => SG Y tg ts tf) (ht : InBlk X scope fun Y => PTs Y ifs (tR (Cx.z Y) lB wNo mt)) (he : InBlk X scope fun Y => SE Y wNo elt me)
    (hv : ∀ i ∈ ts, i ∈ own.map (·.2)) (hs : ∀ x, foldedSetIterable iter X.env x = pure x := by intro _; rfl) : SS X W (.Assign [.Name y py] (.ListComp elt [⟨tg, iter, ifs, 0⟩] scope pos) spos) (ownM i (compM mi (own.map (·.2)) tf mt me)) :=
  PS.imp (ps_setLc (g := tGt (Cx.z X) ts tf) (tt := tR (Cx.z X) lB wNo mt) (te := tR (Cx.z X) (lD X.K) wNo me) hc hN hy hyl hsw hi ok (fun s H C cl fp => hg s H C cl fp) (fun s H C cl fp => ht s H C cl fp) (fun s H C cl fp => he s H C cl fp) hs) fun D σ H h => lc_read hv (own_post h)
theorem tN_of {ms : ME (List D)} (h : tR (Cx.z X) (lD X.K) W (lsM ms) σ H Q) : tN (Cx.z X) W ms σ H Q := by
  obtain ⟨g, ρ, b, α, β, r, p⟩ := h
  refine ⟨g, ρ, b, α, β, r, ?_⟩
  unfold lsM bindM at p
  cases e : ms ρ b with
  | ok ds b' =>
    rw [e] at p
    exact fun a vs H' hn ha l k q => p (.ref a) H' (.lst ⟨.inl ha, fun z => by
      obtain ⟨xs, e⟩ := r.ownL a z
      obtain ⟨o, e⟩ := rd_some e
      rw [hn] at e; cases e⟩ (l.own fun a _ _ z => .inl z)) k q
  | ex x b' => rw [e] at p; exact p
  | bad => rw [e] at p; exact p
theorem ss_setLc {i : Nat} {y : Str} (hc : X.calm = true) (hN : X.N.Nodup) (hy : X.N[i]? = some y) (hyl : X.env.scope.names.lookup y = some .local)
    (hsw : swapsWith (.ListComp elt [⟨tg, iter, ifs, 0⟩] scope pos) (some (.Name y py)) spos.line X.env = pure true) (hi : SIw X W tg iter mi) (ok : BlkOk X.N X.env.scope scope own) (hg : InBlk X scope fun Y => SG Y tg ts tf) (ht : InBlk X scope fun Y => PTs Y ifs (tR (Cx.z Y) lB wNo mt)) (he : InBlk X scope fun Y => SE Y wNo elt me)
    (hv : ∀ i ∈ ts, i ∈ own.map (·.2)) (hs : ∀ x, foldedSetIterable iter X.env x = pure x := by intro _; rfl) : SS X W (.Assign [.Name y py] (.ListComp elt [⟨tg, iter, ifs, 0⟩] scope pos) spos) (setM i (lsM (compM mi (own.map (·.2)) tf mt me))) :=
  PS.imp (ps_setLc (g := tGt (Cx.z X) ts tf) (tt := tR (Cx.z X) lB wNo mt) (te := tR (Cx.z X) (lD X.K) wNo me) hc hN hy hyl hsw hi ok (fun s H C cl fp => hg s H C cl fp) (fun s H C cl fp => ht s H C cl fp) (fun s H C cl fp => he s H C cl fp) hs) fun D σ H h => lc_read hv (tN_of (expr_read h fun g ρ b α β d v H1 r _ l p => setM_post r l p))
end
end Fs

/-! E1: the package's own errors: their __init__ (super().__init__(..), one field or none), their making. -/
namespace Fs
open PySem.Calls PySem.W PyProof.Rows PySem.Spec PySem
abbrev excBm : List Value := [.type "Exception", .type "BaseException", .type "object"]
/-- super() in __init__ -/
theorem super_at {prog : Program} {w : World} {A : Around} {E : Value → Shared → Prop} {s : Shared} {K : Frag} {mg mb : Str → Option Value} {body : List Stmt} {q : Str} {scope : Scope} {p0 p1 : Pos} {attr : Str} {whole : Sem Value} {L x C D fI cda cc : Addr}
    {fd : FuncData} {ar : Arg} {vs : Array Value} {file : Str} {tf : Tok} {oI ocd ox : Obj} {cdD : ClassData} {m : Str → Option Value} {Q : Value → Shared → Prop} (X : K.In s.heap) (hns : s.heap.Ns L m) (hg : s.heap.Ns mainGlobals mg) (hb : s.heap.Ns builtinsNs mb) (hmb : mb "super" = some (.type "super"))
    (hmg : mg "super" = none) (hf : s.heap.get? fI = some oI) (hfd : oI.data = .func fd) (hp : (fd.params.posonlyargs ++ fd.params.args).head? = some ar) (hv : m ar.arg = some (.ref x)) (hcd : s.heap.get? cda = some ocd) (hcv : ocd.data = .fields vs)
    (hvs : vs[2]? = some (.str file tf)) (hfile : ((prog.main.file : Str) == file) = true) (hcc : s.heap.IsCell cc (some (.ref D))) (hD : clsIn K D = some cdD) (hx : s.heap.get? x = some ox) (hxc : ox.cls = .ref C) (hxd : ∀ c, ox.data ≠ .cls c)
    (hsub : mroIn K C (.ref D) = some true) (hat : (attr == ("__class__" : Str)) = false) (hks : scope.names.lookup ("super" : Str) = some .globalImplicit) (hkc : scope.names.lookup ("__class__" : Str) = some .free) (hka : scope.names.lookup ar.arg = some .local) (hk : scope.kind = .function)
    (htop : (prog.main.scope.names.lookup ("super" : Str)).isSome = false)
    (hq : ∀ h', h'.get? s.heap.objs.size = some { cls := .type "super", data := .fields #[.ref D, .ref x, .ref C] } → (∀ y o, s.heap.get? y = some o → h'.get? y = some o) → Q (.ref s.heap.objs.size) { s with heap := h' }) :
    PySem.wpAt (model prog w) A (.func body (envX q scope L fI (.ref cda) [("__class__", cc)])) (attributeBase (.Call (.Name "super" p0) [] [] p1) attr (envX q scope L fI (.ref cda) [("__class__", cc)]) whole) Q E s := by
  have hDo : ∃ oD, s.heap.get? D = some oD ∧ oD.data = .cls cdD := by
    unfold clsIn at hD
    split at hD
    · rename_i ho
      cases hD
      exact ⟨_, X _ _ ho, rfl⟩
    · cases hD
  obtain ⟨oD, hD1, hD2⟩ := hDo
  refine ks_wpAt_super_base (env := envX q scope L fI (.ref cda) [("__class__", cc)]) hks hkc hat rfl hf hfd hp rfl hcd hcv hvs hfile htop ?_
  refine ks_loadName_global hk hks (loadGlobal_builtin (env := envX q scope L fI (.ref cda) [("__class__", cc)]) hg hmg hb hmb ⟨rfl, ?_⟩)
  refine wpAny_loadName_free hk hkc rfl hcc (wpAny_loadName_local hk hka hns hv ?_)
  obtain ⟨hh, gg, dd, tt, os⟩ := s
  exact ks_wpAny_isType_cls hD1 hD2 ⟨rfl, ks_wpAny_call_super hD1 hD2 hx hxc hxd (looks_mroIn X hsub) fun h' e k => hq h' e k⟩

section
variable {prog : Program} {w : World} {A : Around} {R : Result → Shared → Prop} {hp : Heap} {g : Array GenState} {d : Drawn} {t : Nat} {os : OsState} {K : Frag} {mg : Str → Option Value} {C fI e t0 : Addr} {qual : Str} {params : Arguments} {rest : List Stmt} {scope : Scope}
  {p0 p1 p2 p3 p4 p5 q1 q2 q3 q4 : Pos} {msg : Str} {k3 : Nat}
theorem mcall_eq {o : Expr} {name : Str} {x : Expr} {env : Env} (hl : (p2.endLine == p4.line) = true) (hx : starEach [x] env = [(false, eval x env)] := by rfl) : eval (.Call (.Attribute o name p2) [x] [] p4) env = (do
      let ov ← attributeBase o name env (eval o env)
      standAt p2.atName
      let (f, first) ← holding [ov] (getMethod ov name (do return (← importBound o env).getD true))
      callWith p4 f first (backTo p4 (starEach [x] env)) []) := by
  show (do
    let ov ← attributeBase o name env (eval o env)
    standAt p2.atName
    methodCall o name p2 p4 env ov 1 (backTo p4 (starEach [x] env)) (backToKw p4 (keywordEach [] env))) = _
  have ha : (backTo p4 (starEach [x] env)).all (!·.1) = true := by rw [hx]; rfl
  have hf : methodCallForm 1 (backTo p4 (starEach [x] env)) (backToKw p4 (keywordEach [] env)) = true := by
    unfold methodCallForm
    rw [ha]
    rfl
  have hp : methodCallPos true o env p2 p4 = pure p4 := by
    unfold methodCallPos
    rw [hl]
    rfl
  unfold methodCall
  rw [hf, hp]
  rfl
/-- super().__init__("..") alone, in the frame at L -/
theorem super_init {body : List Stmt} {L : Addr} {m : Str → Option Value} {mb : Str → Option Value} {cda cc : Addr} {fd : FuncData} {oI : Obj} {ar : Arg} {Q : Flow → Shared → Prop} {E : Value → Shared → Prop} {vs : Array Value} {tf : Tok} {ocd : Obj} (hln : (p2.endLine == p4.line) = true) (hcls : excInitIn K C excBm "Exception.__new__" = true) (hmro : mroIn K C (.ref C) = some true)
    (hsup : ks_superIn K C C "__init__" = some (some (.builtin "Exception.__init__"))) (hexc : subIn K (.ref C) (.type "Exception") = some true) (hopq : nsIn K cStatics "thirdparty.any" = some none) (hmg : mg "super" = none)
    (X : K.In hp) (hns : hp.Ns L m) (hg : hp.Ns mainGlobals mg) (hb : hp.Ns builtinsNs mb) (hmb : mb "super" = some (.type "super")) (hf : hp.get? fI = some oI) (hfd : oI.data = .func fd) (hpar : (fd.params.posonlyargs ++ fd.params.args).head? = some ar) (hv : m ar.arg = some (.ref e))
    (hcd : hp.get? cda = some ocd) (hcv : ocd.data = .fields vs) (hvs : vs[2]? = some (.str prog.main.file tf)) (hcc : hp.IsCell cc (some (.ref C))) (he : hp.get? e = some (HandSPX.excO C t0))
    (hks : scope.names.lookup ("super" : Str) = some .globalImplicit) (hkc : scope.names.lookup ("__class__" : Str) = some .free) (hka : scope.names.lookup ar.arg = some .local) (hk : scope.kind = .function) (htop : (prog.main.scope.names.lookup ("super" : Str)).isSome = false)
    (hq : ∀ h' t1 tk, (∀ b o, b ≠ e → hp.get? b = some o → h'.get? b = some o) → h'.get? e = some (HandSPX.excO C t1) → Q .next ⟨h', g, d, tk, os⟩) :
    PySem.wpAt (model prog w) A (.func body (envX qual scope L fI (.ref cda) [("__class__", cc)])) (exec (.Expr (.Call (.Attribute (.Call (.Name "super" p0) [] [] p1) "__init__" p2) [.Constant (.str msg) k3 p3] [] p4) p5) (envX qual scope L fI (.ref cda) [("__class__", cc)])) Q E ⟨hp, g, d, t, os⟩ := by
  obtain ⟨nm, N, qn, bs, bm, hdct, sn, sub, ab, col, dd, k0, k1, k2, k3', k5, hC, hT⟩ := excInit_of X hcls
  have hcl : ∃ cd, clsIn K C = some cd := by
    unfold mroIn at hmro
    cases hc : clsIn K C with
    | none => rw [hc] at hmro; cases hmro
    | some cd => exact ⟨cd, rfl⟩
  obtain ⟨cd, hcl⟩ := hcl
  have hxd : ∀ c, (HandSPX.excO C t0).data ≠ .cls c := fun c => by intro z; cases z
  refine ks_wpAt_Expr_any ?_ (by unfold interactive; rw [show (envX qual scope L fI (.ref cda) [("__class__", cc)]).scope.kind = .function from hk]; rfl)
  refine ks_wpAt_MethodCall ?_ (mcall_eq hln)
  refine super_at X hns hg hb hmb hmg hf hfd hpar hv hcd hcv hvs (by simp) hcc hcl he rfl hxd hmro (by decide) hks hkc hka hk htop fun h' e1 k1 => ?_
  have X1 : K.In h' := X.keeps k1
  have I1 : PySem.W.InstAt h' e (HandSPX.excO C t0) C none := ⟨k1 _ _ he, rfl, rfl, trivial⟩
  have hI : Looks (model prog w) h' (isInstance (.ref e) (.type "Exception")) true := I1.type.andThen (looks_subIn X1 hexc)
  have hsup' : alongIn K "__init__" ((cd.mro.dropWhile (· != .ref C)).drop 1) = some (some (.builtin "Exception.__init__")) := by
    unfold ks_superIn at hsup
    rw [hcl] at hsup
    exact hsup
  refine kxs_getMethod kxs_Exception e1 (looks_opaque X1 hopq) (l₀ := cd.mro) (fun A Q E s k q => wpAny_bind ((looks_clsIn X1 hcl) A _ E s k (wpAny_pure q))) rfl X1 hsup' hI (ks_ne X1 I1 hcl) (by decide) ?_
  refine ESX.callWith_bound (x := e) ?_
  refine Calls.spliced_cons (Calls.Constant_str (k := k3) (pos := p3) (Calls.spliced_nil ?_))
  have k2 : ∀ b o, hp.get? b = some o → (h'.push (kxs_mw "Exception.__init__" e)).get? b = some o := fun b o z => Heap.get?_push_of_some _ (k1 b o z)
  refine ⟨Heap.get?_push_at rfl rfl, ?_⟩
  refine ESX.call_bw (k2 _ _ hC) (k2 _ _ he) (Heap.get?_push_at rfl rfl) (by rw [sizeLine_eq]; exact (by decide : (1:Nat) ≤ 16777216)) fun h2 t1 k3 e3 => ?_
  exact hq h2 t1 _ (fun b o hb z => k3 b o hb (k2 b o z)) e3
/-! ### the texts of __init__ -/
def eA1 (a : Str) (p1 p2 : Pos) : Arguments := { posonlyargs := [], args := [{ arg := "self", annotation := none, pos := p1 }, { arg := a, annotation := none, pos := p2 }], vararg := none, kwonlyargs := [], kw_defaults := [], kwarg := none, defaults := [] }
def eA0 (p1 : Pos) : Arguments := { posonlyargs := [], args := [{ arg := "self", annotation := none, pos := p1 }], vararg := none, kwonlyargs := [], kw_defaults := [], kwarg := none, defaults := [] }
def eI (msg : Str) (p0 p1 p2 p3 p4 p5 : Pos) : Stmt := .Expr (.Call (.Attribute (.Call (.Name "super" p0) [] [] p1) "__init__" p2) [.Constant (.str msg) 0 p3] [] p4) p5
def eB1 (a msg : Str) (p0 p1 p2 p3 p4 p5 q1 q2 q3 q4 : Pos) : List Stmt := [eI msg p0 p1 p2 p3 p4 p5, .Assign [.Attribute (.Name "self" q1) a q2] (.Name a q3) q4]
def eB0 (msg : Str) (p0 p1 p2 p3 p4 p5 : Pos) : List Stmt := [eI msg p0 p1 p2 p3 p4 p5]
def eS1 (a : Str) : Scope := { kind := .function, names := [("self", .local), (a, .local), ("__class__", .free), ("super", .globalImplicit)], isGenerator := false, isCoroutine := false, more := [] }
def eS0 : Scope := { kind := .function, names := [("self", .local), ("__class__", .free), ("super", .globalImplicit)], isGenerator := false, isCoroutine := false, more := [] }
/-- what the written part says of an error class C whose __init__ is at fI -/
structure ErB (K : Frag) (mg : Str → Option Value) (prog : Program) (x : Str) (C fI : Addr) : Prop where
  gC : mg x = some (.ref C)
  cls : excInitIn K C excBm "Exception.__new__" = true
  ini : findIn K (.ref C) "__init__" = some (some (.ref fI))
  mro : mroIn K C (.ref C) = some true
  sup : ks_superIn K C C "__init__" = some (some (.builtin "Exception.__init__"))
  exc : subIn K (.ref C) (.type "Exception") = some true
  opq : nsIn K cStatics "thirdparty.any" = some none
  gsu : mg "super" = none
  bse : subIn K (.ref C) (.type "BaseException") = some true
  typ : typeIn K (.ref C) = some (.type "type")
  kp : keepIn K (.ref C) = true
  tI : typeIn K (.ref fI) = some (.type "function")
  top : (prog.main.scope.names.lookup ("super" : Str)).isSome = false
/-- .. that keeps one thing, as a -/
structure Er1 (K : Frag) (mg : Str → Option Value) (prog : Program) (x a : Str) (C fI : Addr) : Prop extends ErB K mg prog x C fI where
  fn : ∃ (oc : Value) (od : Option Addr) (kV doc pm : Value) (an : Option Addr) (cda : Addr) (ct : Value) (osl : Array (Option Value)) (cc : Addr) (ccl : Value) (cdd : Option Addr) (vs : Array Value) (ccs : Array (Option Value)) (tf : Tok) (cl : Value) (cld : Option Addr) (csl : Array (Option Value))
    (qual msg : Str) (a1 a2 p0 p1 p2 p3 p4 p5 q1 q2 q3 q4 : Pos),
    K.lookup fI = some ⟨oc, od, .func (fnX "__init__" qual (eA1 a a1 a2) (eB1 a msg p0 p1 p2 p3 p4 p5 q1 q2 q3 q4) (eS1 a) [("__class__", cc)] .none kV doc pm an (.ref cda) ct), osl⟩ ∧ codeIn K (.ref cda) qual = true ∧ (p2.endLine == p4.line) = true ∧
      K.lookup cda = some ⟨ccl, cdd, .fields vs, ccs⟩ ∧ vs[2]? = some (.str prog.main.file tf) ∧ K.lookup cc = some ⟨cl, cld, .cell (some (.ref C)), csl⟩
  sa : findIn K (.ref C) "__setattr__" = some (some (.builtin "object.__setattr__"))
  ga : findIn K (.ref C) "__getattribute__" = some (some (.builtin "BaseException.__getattribute__"))
  gg : findIn K (.ref C) "__getattr__" = some none
  noN : findIn K (.ref C) a = some none
  ovr : excOver K C excBm = true
  dct : hasDictIn K C = true
  ne : a ≠ "self"
  nc : a ≠ "__class__"
  ns : a ≠ "super"
  nd : (a == ("__debug__" : Str)) = false
  bnd : ∀ (qual : Str) (a1 a2 : Pos) (b : List Stmt) (cl : List (Str × Addr)) (kV doc pm : Value) (an : Option Addr) (cd ct u v : Value), bindArgs (fnX "__init__" qual (eA1 a a1 a2) b (eS1 a) cl .none kV doc pm an cd ct) ⟨[u, v], []⟩ = pure [(("self" : Str), u), (a, v)]
/-- .. that keeps nothing -/
structure Er0 (K : Frag) (mg : Str → Option Value) (prog : Program) (x : Str) (C fI : Addr) : Prop extends ErB K mg prog x C fI where
  fn : ∃ (oc : Value) (od : Option Addr) (kV doc pm : Value) (an : Option Addr) (cda : Addr) (ct : Value) (osl : Array (Option Value)) (cc : Addr) (ccl : Value) (cdd : Option Addr) (vs : Array Value) (ccs : Array (Option Value)) (tf : Tok) (cl : Value) (cld : Option Addr) (csl : Array (Option Value))
    (qual msg : Str) (a1 p0 p1 p2 p3 p4 p5 : Pos),
    K.lookup fI = some ⟨oc, od, .func (fnX "__init__" qual (eA0 a1) (eB0 msg p0 p1 p2 p3 p4 p5) eS0 [("__class__", cc)] .none kV doc pm an (.ref cda) ct), osl⟩ ∧ codeIn K (.ref cda) qual = true ∧ (p2.endLine == p4.line) = true ∧
      K.lookup cda = some ⟨ccl, cdd, .fields vs, ccs⟩ ∧ vs[2]? = some (.str prog.main.file tf) ∧ K.lookup cc = some ⟨cl, cld, .cell (some (.ref C)), csl⟩
/-- the first store into an error: its dict is made -/
theorem err_osa {fld : Str} {tk : Tok} {u : Value} {ax ta : Addr} (X : K.In hp) (hx : hp.get? ax = some (HandSPX.excO C ta)) (ho : excOver K C excBm = true) (hd : hasDictIn K C = true) (hn : findIn K (.ref C) fld = some none)
    (hq : ∀ h2 tk2 dx, (∀ b o, b ≠ ax → hp.get? b = some o → h2.get? b = some o) → hp.objs.size ≤ dx → dx ≠ ax → h2.get? ax = some { HandSPX.excO C ta with dict := some dx } →
      h2.Ns1 dx (fun y => if y = fld then some u else none) → R (.ok (.ret .none)) ⟨h2, g, d, tk2, os⟩) :
    codeAny (model prog w) A (.call (.builtin "object.__setattr__") ⟨[.ref ax, .str fld tk, u], []⟩) R ⟨hp, g, d, t, os⟩ := by
  have lt : ax < hp.objs.size := Heap.lt_size hx
  obtain ⟨cd, hc, hh⟩ := any_some hd
  refine osa_openX (r := none) (od := none) F.store_Exception X ⟨hx, rfl, rfl, trivial⟩ ho (by unfold takerIn; rw [hn]; rfl) fun b => ?_
  refine wpAny_bind (wpAny_pure (wpAny_bind (instanceDict_exc (x := ax) (t := ta) (c2 := .none) hx (looks_clsIn X hc) hh ?_)))
  refine HandSPX.store_in_new ⟨dictOf [] 0, #[], 0, (Heap.get?_update_ne _ _ _ _ (by first | exact Nat.ne_of_lt lt | exact Nat.ne_of_gt lt)).trans (Heap.get?_push_at rfl rfl), rfl, nofun, fun _ => rfl⟩ fun h2 tk2 n2 sb => ?_
  refine hq h2 _ _ (fun b o hb e => ?_) (Nat.le_refl _) (Nat.ne_of_gt lt) ?_ n2
  · rw [sb.2 b (Nat.ne_of_lt (Heap.lt_size e)), Heap.get?_update_ne _ _ _ _ hb]
    exact Heap.get?_push_of_some _ e
  · rw [sb.2 ax (Nat.ne_of_lt lt)]
    exact Heap.get?_update_self _ (Heap.get?_push_of_some _ hx) rfl
/-! ### the call of an error's class -/
/-- a made error that keeps v as a -/
structure Mk1 (h h' : Heap) (e C d : Addr) (a : Str) (v : Value) : Prop where
  keep : ∀ b o, h.get? b = some o → h'.get? b = some o
  new : h.objs.size ≤ e
  obj : ∃ t1, h'.get? e = some { cls := .ref C, dict := some d, data := .fields #[.ref t1, .none, .none, .none, .bool false, .none] }
  dbig : h.objs.size ≤ d
  dne : d ≠ e
  ns : h'.Ns1 d (fun y => if y = a then some v else none)
structure Mk0 (h h' : Heap) (e C : Addr) : Prop where
  keep : ∀ b o, h.get? b = some o → h'.get? b = some o
  new : h.objs.size ≤ e
  obj : ∃ t1, h'.get? e = some (HandSPX.excO C t1)
theorem ns_but {h h' : Heap} {L x : Addr} {m : Str → Option Value} (hns : h.Ns L m) (hne : L ≠ x) (k : ∀ b o, b ≠ x → h.get? b = some o → h'.get? b = some o) : h'.Ns L m := hns.at fun o q => k L o hne q
variable {prog : Program} {w : World} {A : Around} {R : Result → Shared → Prop} {hp : Heap} {g : Array GenState} {d : Drawn} {t : Nat} {os : OsState} {K : Frag} {mg mb : Str → Option Value} {C fI : Addr} {x a : Str}
/-- __init__ on the fresh object, its arguments bound by hbd -/
theorem err_init1 {v : Value} {l : List Value} {args : Args} (T : Er1 K mg prog x a C fI) (X : K.In hp) (hlim : hp.NoLimit) (hg : hp.Ns mainGlobals mg) (hb : hp.Ns builtinsNs mb) (hmb : mb "super" = some (.type "super")) (hroom : A.depth < recursionLimit)
    (hbd : ∀ (qual : Str) (a1 a2 : Pos) (b : List Stmt) (cl : List (Str × Addr)) (kV doc pm : Value) (an : Option Addr) (cd ct : Value), bindArgs (fnX "__init__" qual (eA1 a a1 a2) b (eS1 a) cl .none kV doc pm an cd ct) args = pure [(("self" : Str), .ref (hp.objs.size + 1)), (a, v)])
    (hq : ∀ h' tk e d1, Mk1 hp h' e C d1 a v → R (.ok (.ret (.ref e))) ⟨h', g, d, tk, os⟩) :
    codeAny (model prog w) A (.call (.ref fI) args) (InitBack (hp.objs.size + 1) R) ⟨(hp.push (kdv_tup l)).push (HandSPX.excO C hp.objs.size), g, d, t, os⟩ := by
  obtain ⟨nm, N, qn, bs, bm, hdct, sn, sub, ab, col, dd, k0, k1, k2, k3, k5, hC, hT⟩ := excInit_of X T.cls
  obtain ⟨oc, od, kV, doc, pm, an, cda, ct, osl, cc, ccl, cdd, vs, ccs, tf, cl, cld, csl, qual, msg, a1, a2, p0, p1, p2, p3, p4, p5, q1, q2, q3, q4, ho, hcd, hln, hca, hvs, hce⟩ := T.fn
  have n1 := T.ne
  have n2 := T.nc
  have n3 := T.ns
  have kk : ∀ b o, hp.get? b = some o → ((hp.push (kdv_tup l)).push (HandSPX.excO C hp.objs.size)).get? b = some o := fun b o e => Heap.get?_push_of_some _ (Heap.get?_push_of_some _ e)
  have hget : ((hp.push (kdv_tup l)).push (HandSPX.excO C hp.objs.size)).get? (hp.objs.size + 1) = some (HandSPX.excO C hp.objs.size) := by heap_get
  have X1 := X.keeps kk
  have L1 : List.lookup ("self" : Str) (eS1 a).names = some .local := rfl
  have L2 : List.lookup a (eS1 a).names = some .local := by
    have : (a == ("self" : Str)) = false := by simpa using n1
    show List.lookup a [(("self" : Str), NameKind.local), (a, .local), ("__class__", .free), ("super", .globalImplicit)] = _
    simp [List.lookup, this]
  have L3 : List.lookup ("__class__" : Str) (eS1 a).names = some .free := by
    have : (("__class__" : Str) == a) = false := by simpa using (Ne.symm n2)
    show List.lookup ("__class__" : Str) [(("self" : Str), NameKind.local), (a, .local), ("__class__", .free), ("super", .globalImplicit)] = _
    have q : (("__class__" : Str) == ("self" : Str)) = false := by decide
    simp [List.lookup, this, q]
  have L4 : List.lookup ("super" : Str) (eS1 a).names = some .globalImplicit := by
    have : (("super" : Str) == a) = false := by simpa using (Ne.symm n3)
    show List.lookup ("super" : Str) [(("self" : Str), NameKind.local), (a, .local), ("__class__", .free), ("super", .globalImplicit)] = _
    have q : (("super" : Str) == ("self" : Str)) = false := by decide
    have q2 : (("super" : Str) == ("__class__" : Str)) = false := by decide
    simp [List.lookup, this, q, q2]
  refine ks_codeAny_call_defAt (binds := [("self", .ref (hp.objs.size + 1)), (a, v)]) hroom (X1 _ _ ho) rfl (hlim.keeps kk) (codeRec_of X1 hcd) rfl ?_ ?_ ?_ (fun h₀ hns k1 => ?_) rfl rfl rfl
  · exact BindsTo.of_eq (hbd _ _ _ _ _ _ _ _ _ _ _)
  · intro y hy
    have hy : y ∈ [(("self" : Str), NameKind.local), (a, .local), ("__class__", .free), ("super", .globalImplicit)] := hy
    simp only [List.mem_cons, List.not_mem_nil, or_false] at hy
    rcases hy with rfl | rfl | rfl | rfl <;> (intro z; cases z)
  · intro y hy
    simp only [List.mem_cons, List.not_mem_nil, or_false] at hy
    rcases hy with rfl | rfl
    · exact L1
    · exact L2
  · have k2 : ∀ b o, hp.get? b = some o → h₀.get? b = some o := fun b o e => k1 b o (kk b o e)
    have X2 : K.In h₀ := X.keeps k2
    have he := k1 _ _ hget
    have hv1 : (fun x => List.lookup x ([(("self" : Str), Value.ref (hp.objs.size + 1)), (a, v)] : List (Str × Value)).reverse) "self" = some (.ref (hp.objs.size + 1)) := by
      have : (("self" : Str) == a) = false := by simpa using (Ne.symm n1)
      simp [List.lookup, this]
    have hv2 : (fun x => List.lookup x ([(("self" : Str), Value.ref (hp.objs.size + 1)), (a, v)] : List (Str × Value)).reverse) a = some v := by
      simp [List.lookup]
    show PySem.wpAt (model prog w) _ (.func _ (envX qual (eS1 a) _ fI (.ref cda) [("__class__", cc)])) (execs (eI msg p0 p1 p2 p3 p4 p5 :: _) (envX qual (eS1 a) _ fI (.ref cda) [("__class__", cc)])) _ _ _
    refine ks_wpAt_execs_cons (super_init (fI := fI) (C := C) (e := hp.objs.size + 1) (ar := { arg := "self", annotation := none, pos := a1 }) hln T.cls T.mro T.sup T.exc T.opq T.gsu X2 hns (hg.at fun o q => k2 _ o q) (hb.at fun o q => k2 _ o q) hmb (X2 _ _ ho) rfl rfl hv1 (X2 _ _ hca) rfl hvs
      ⟨_, X2 _ _ hce, rfl⟩ he L4 L3 L1 rfl T.top fun h3 t1 tk k3 e3 => ?_)
    have hLe : ((hp.push (kdv_tup l)).push (HandSPX.excO C hp.objs.size)).objs.size ≠ hp.objs.size + 1 := by simp
    have hnx : ∀ b o, hp.get? b = some o → b ≠ hp.objs.size + 1 := fun b o e => Nat.ne_of_lt (Nat.lt_succ_of_lt (Heap.lt_size e))
    have k4 : ∀ b o, hp.get? b = some o → h3.get? b = some o := fun b o e => k3 b o (hnx b o e) (k2 b o e)
    have X3 : K.In h3 := X.keeps k4
    have hns3 := ns_but hns hLe k3
    refine wpAt_of_wpAny ?_
    refine wpAny_execs_cons (plainObj_wpAny_Assign_Attribute (Q := _) (ESX.ldL hns3 hv2 (ESX.ldL hns3 hv1 ?_ rfl L1 (by decide)) rfl L2 ?_))
    · refine set_plain X3 (ox := HandSPX.excO C t1) (od := none) ⟨e3, rfl, rfl, trivial⟩ T.sa ?_
      refine err_osa X3 e3 T.ovr T.dct T.noN fun h5 tk5 dx k5 dn dne e5 ns5 => ?_
      refine wpAny_execs_nil ⟨rfl, ?_⟩
      refine hq _ _ _ dx ⟨fun b o q => k5 b o (hnx b o q) (k4 b o q), Nat.le_succ _, ⟨_, e5⟩, ?_, dne, ns5⟩
      obtain ⟨_, _, _, z, _⟩ := hns3
      have z1 : hp.objs.size + 1 + 1 < h3.objs.size := by
        have z1 := Heap.lt_size z
        first | exact z1 | (rw [Heap.size_push, Heap.size_push] at z1; exact z1) | simpa using z1
      exact Nat.le_of_lt (Nat.lt_of_lt_of_le (Nat.lt_of_lt_of_le (by omega) (Nat.le_of_lt z1)) dn)
    · exact T.nd
theorem err_made1 {v : Value} (T : Er1 K mg prog x a C fI) (X : K.In hp) (hlim : hp.NoLimit) (hg : hp.Ns mainGlobals mg) (hb : hp.Ns builtinsNs mb) (hmb : mb "super" = some (.type "super")) (hroom : A.depth + 1 < recursionLimit)
    (hq : ∀ h' tk e d1, Mk1 hp h' e C d1 a v → R (.ok (.ret (.ref e))) ⟨h', g, d, tk, os⟩) : codeAny (model prog w) A (.call (.ref C) ⟨[v], []⟩) R ⟨hp, g, d, t, os⟩ := by
  obtain ⟨nm, N, qn, bs, bm, hdct, sn, sub, ab, col, dd, k0, k1, k2, k3, k5, hC, hT⟩ := excInit_of X T.cls
  exact HandSPX.call_own F.excBase_Exception hT hC (looks_findIn X T.ini) (fun self => bind_fn X self T.tI) (by rw [sizeLine_eq]; exact (by decide : (1:Nat) ≤ 16777216)) (err_init1 T X hlim hg hb hmb hroom (fun _ _ _ _ _ _ _ _ _ _ _ => T.bnd _ _ _ _ _ _ _ _ _ _ _ _ _) hq)
theorem err_made0 (T : Er0 K mg prog x C fI) (X : K.In hp) (hlim : hp.NoLimit) (hg : hp.Ns mainGlobals mg) (hb : hp.Ns builtinsNs mb) (hmb : mb "super" = some (.type "super")) (hroom : A.depth + 1 < recursionLimit)
    (hq : ∀ h' tk e, Mk0 hp h' e C → R (.ok (.ret (.ref e))) ⟨h', g, d, tk, os⟩) :
    codeAny (model prog w) A (.call (.ref C) ⟨[], []⟩) R ⟨hp, g, d, t, os⟩ := by
  obtain ⟨nm, N, qn, bs, bm, hdct, sn, sub, ab, col, dd, k0, k1, k2, k3, k5, hC, hT⟩ := excInit_of X T.cls
  obtain ⟨oc, od, kV, doc, pm, an, cda, ct, osl, cc, ccl, cdd, vs, ccs, tf, cl, cld, csl, qual, msg, a1, p0, p1, p2, p3, p4, p5, ho, hcd, hln, hca, hvs, hce⟩ := T.fn
  have kk : ∀ b o, hp.get? b = some o → ((hp.push (kdv_tup [])).push (HandSPX.excO C hp.objs.size)).get? b = some o := fun b o e => Heap.get?_push_of_some _ (Heap.get?_push_of_some _ e)
  have hget : ((hp.push (kdv_tup [])).push (HandSPX.excO C hp.objs.size)).get? (hp.objs.size + 1) = some (HandSPX.excO C hp.objs.size) := by heap_get
  refine HandSPX.call_own F.excBase_Exception hT hC (looks_findIn X T.ini) (fun self => bind_fn X self T.tI) (by rw [sizeLine_eq]; exact (by decide : (0:Nat) ≤ 16777216)) ?_
  have X1 := X.keeps kk
  refine ks_codeAny_call_defAt (binds := [("self", .ref (hp.objs.size + 1))]) hroom (X1 _ _ ho) rfl (hlim.keeps kk) (codeRec_of X1 hcd) rfl (BindsTo.of_eq rfl) ?_ ?_ (fun h₀ hns k1 => ?_) rfl rfl rfl
  · intro y hy
    have hy : y ∈ [(("self" : Str), NameKind.local), ("__class__", .free), ("super", .globalImplicit)] := hy
    simp only [List.mem_cons, List.not_mem_nil, or_false] at hy
    rcases hy with rfl | rfl | rfl <;> (intro z; cases z)
  · intro y hy
    simp only [List.mem_cons, List.not_mem_nil, or_false] at hy
    rcases hy with rfl
    rfl
  · have k2 : ∀ b o, hp.get? b = some o → h₀.get? b = some o := fun b o e => k1 b o (kk b o e)
    have X2 : K.In h₀ := X.keeps k2
    have he := k1 _ _ hget
    have hv1 : (fun x => List.lookup x ([(("self" : Str), Value.ref (hp.objs.size + 1))] : List (Str × Value)).reverse) "self" = some (.ref (hp.objs.size + 1)) := by
      simp [List.lookup]
    show PySem.wpAt (model prog w) _ (.func _ (envX qual eS0 _ fI (.ref cda) [("__class__", cc)])) (execs (eI msg p0 p1 p2 p3 p4 p5 :: _) (envX qual eS0 _ fI (.ref cda) [("__class__", cc)])) _ _ _
    refine ks_wpAt_execs_cons (super_init (fI := fI) (C := C) (e := hp.objs.size + 1) (ar := { arg := "self", annotation := none, pos := a1 }) hln T.cls T.mro T.sup T.exc T.opq T.gsu X2 hns (hg.at fun o q => k2 _ o q) (hb.at fun o q => k2 _ o q) hmb (X2 _ _ ho) rfl rfl hv1 (X2 _ _ hca) rfl hvs
      ⟨_, X2 _ _ hce, rfl⟩ he rfl rfl rfl rfl T.top fun h3 t1 tk k3 e3 => ?_)
    have hnx : ∀ b o, hp.get? b = some o → b ≠ hp.objs.size + 1 := fun b o e => Nat.ne_of_lt (Nat.lt_succ_of_lt (Heap.lt_size e))
    have k4 : ∀ b o, hp.get? b = some o → h3.get? b = some o := fun b o e => k3 b o (hnx b o e) (k2 b o e)
    refine wpAt_of_wpAny ?_
    refine wpAny_execs_nil ⟨rfl, ?_⟩
    exact hq _ _ _ ⟨k4, Nat.le_succ _, ⟨_, e3⟩⟩
end
end Fs

/-! E2: try with several except clauses, each with or without a name. -/
namespace Fs
open L2 PyProof.Rows PySem.Spec PySem
abbrev Ts3 := Addr → Value → Option Addr → TS
/-- an error has landed in the frame that catches -/
structure Ct (X : Cx) (pins : List (Addr × Obj)) (a : Addr) (cls : Value) (d : Option Addr) (σ : L2.St) (H : Hp) (B : Heap) (sI s : Shared) : Prop where
  st : X.stack = X.env :: X.outer
  fr : X.env.frame = some X.env.locals
  J : Inv X pins σ H sI
  nb : ∀ b o, sI.heap.get? b = some o → b ∉ frs X.stack → B.get? b = some o
  up : sI.heap.UpToSlots s.heap
  fl : HandSPX.FlyingZ B (X.env :: X.outer) a (Zc cls d) s.heap
  na : H a = none
  os : s.os = sI.os
  ag : AllBare s.gens
section
variable {X : Cx} {pins : List (Addr × Obj)} {a : Addr} {cls : Value} {d : Option Addr} {σ : L2.St} {H : Hp} {B : Heap} {sI s : Shared}
theorem Ct.inv (c : Ct X pins a cls d σ H B sI s) : Inv X pins σ H s := c.J.landed c.nb c.fl.1 c.up c.os c.ag
theorem Ct.again (c : Ct X pins a cls d σ H B sI s) {h : Heap} (f : HandSPX.FlyingZ B (X.env :: X.outer) a (Zc cls d) h) (u : s.heap.UpToSlots h) : Ct X pins a cls d σ H B sI { s with heap := h } :=
  ⟨c.st, c.fr, c.J, c.nb, c.up.trans u, f, c.na, c.os, c.ag⟩
/-- the error is no frame's -/
theorem Ct.noFrame (c : Ct X pins a cls d σ H B sI s) : a ∉ frs (X.env :: X.outer) := fun m => by
  obtain ⟨oe, vs, he, _, hd⟩ := c.fl.there
  obtain ⟨_, o, e, n⟩ := c.fl.2.2.1.mem m
  rw [he] at e
  cases e
  exact n _ hd
theorem Ct.pinned (c : Ct X pins a cls d σ H B sI s) : ∃ oe, Zc cls d oe ∧ (∃ vs, oe.data = .fields vs) ∧ s.heap.get? a = some oe ∧ Inv (X.suite a ((a, oe) :: (X.pn ++ pins))) [] σ H s := by
  obtain ⟨oe, vs, he, hz, hd⟩ := c.fl.there
  refine ⟨oe, hz, ⟨vs, hd⟩, he, c.inv.suite he hd c.na (fun z => c.noFrame ?_) fun m => c.noFrame ?_⟩
  · exact List.mem_filterMap.mpr ⟨X.env, .head _, by rw [c.fr, z]⟩
  · obtain ⟨e, he, q⟩ := List.mem_filterMap.mp m
    exact List.mem_filterMap.mpr ⟨e, .tail _ he, q⟩
/-- none catches it: on it flies -/
theorem Ct.pass (c : Ct X pins a cls d σ H B sI s) {W : WX} (tk : Takes X W) (w : W cls d σ H) {Q : Flow → Shared → Prop} : wpAny (model X.prog X.w) X.A (passOn "try.no-clause-matches" (.ref a) X.env) Q X.xe s := by
  obtain ⟨_, _, _, oe, vs, T, _, _, he, _, hd, h1, _⟩ := id c.fl
  have go : wpAny (model X.prog X.w) X.A (setFlight (.ref a) X.env.frame) (fun _ s4 => wpAny (model X.prog X.w) X.A (throw (.ref a) : Sem Flow) Q X.xe s4) X.xe s := by
    rw [c.fr]
    exact HandSPX.setFlight_upZ c.fl fun h hh u => wpAny_throw (tk _ _ ⟨a, B, sI, pins, σ, H, cls, d, rfl, c.J, c.nb, c.up.trans u, .inr (.inr (by rw [c.st]; exact hh)), c.na, c.os, c.ag, w⟩)
  unfold PySem.passOn
  refine wpAny_bind (wpAny_field he hd h1 ?_)
  have nz : ¬ ((Value.ref T == Value.none) = true) := by simp
  rw [if_neg nz]
  first | exact wpAny_bind (wpAny_pure (wpAny_bind go)) | exact wpAny_bind go
end
/-- a clause's end where the clause has a name (slot i) -/
def offE (i : Nat) (D : Ends) : Ends := { nx := fun σ H => D.nx (σ.set i none) H, rt := D.rt, bk := fun σ H => D.bk (σ.set i none) H, ct := fun σ H => D.ct (σ.set i none) H }
def asT (i : Nat) (ts : Ts3) : Ts3 := fun a cls d D σ H => ts a cls d (offE i D) (σ.set i (some (.ref a))) H
def SuiteOk (X : Cx) (b : List Stmt) (ts : Ts3) : Prop := ∀ (a : Addr) (oe : Obj) (cls : Value) (d : Option Addr) (pn : List (Addr × Obj)), Zc cls d oe → (∃ vs, oe.data = .fields vs) → PSs (X.suite a ((a, oe) :: pn)) b (ts a cls d)
/-- the clauses, each with the class that it names and its suite's reading -/
inductive Hs (X : Cx) : List ExceptHandler → List (Value × Ts3) → Prop
  | nil : Hs X [] []
  | plain {x : Str} {c : Value} {ts : Ts3} {b₀ : Stmt} {bs : List Stmt} {p q : Pos} {hds : List ExceptHandler} {l : List (Value × Ts3)} : Names X x c → SuiteOk X (b₀ :: bs) ts → Hs X hds l → Hs X (.ExceptHandler (some (.Name x p)) none (b₀ :: bs) q :: hds) ((c, ts) :: l)
  | named {x n : Str} {i : Nat} {c : Value} {ts : Ts3} {b₀ : Stmt} {bs : List Stmt} {p q : Pos} {hds : List ExceptHandler} {l : List (Value × Ts3)} : Names X x c → X.N.Nodup → X.N[i]? = some n → X.env.kindOf n = some .local → SuiteOk X (b₀ :: bs) ts → Hs X hds l →
      Hs X (.ExceptHandler (some (.Name x p)) (some n) (b₀ :: bs) q :: hds) ((c, asT i ts) :: l)
section
variable {X : Cx} {pins : List (Addr × Obj)} {a : Addr} {cls : Value} {d : Option Addr} {σ : L2.St} {H : Hp} {B : Heap} {sI s : Shared} {D : Ends} {Wout : WX}
/-- the class that a clause names, asked -/
theorem Ct.names (c : Ct X pins a cls d σ H B sI s) {x : Str} {v : Value} {b : Bool} {p : Pos} (hc : Names X x v) (hm : PySem.W.exmOne X.K cls v = some b) {Q : Bool → Shared → Prop} {E E2 : Value → Shared → Prop} (q : Q b s) :
    wpAny (model X.prog X.w) (X.A.mark (some (.ref a))) (eval (.Name x p) X.env) (fun u s1 => wpAny (model X.prog X.w) (X.A.mark (some (.ref a))) (excMatches (.ref a) u) Q E2 s1) E s := by
  obtain ⟨oe, hz, hf, he, S⟩ := c.pinned
  have L : PySem.W.Looks (model X.prog X.w) s.heap (typeOf (.ref a)) cls := fun _ _ _ _ k r => wpAny_typeOf_ref (k _ _ he) (by rw [hz.1]; exact r)
  have go := (PySem.W.exm_one (M := model X.prog X.w) c.inv.kIn L hm).here (A := X.A.mark (some (.ref a))) (E := E2) (s := s) q
  obtain ⟨g, nd, h | ⟨h, h2, h3⟩⟩ := hc
  · exact ld_glob S g h go nd
  · exact ld_blt S g h h2 go h3 nd
theorem hs_run {hds : List ExceptHandler} {l : List (Value × Ts3)} (hh : Hs X hds l) (tk : Takes X Wout) (c : Ct X pins a cls d σ H B sI s) (w : wMany X.K Wout D l cls d σ H) :
    wpAny (model X.prog X.w) X.A (handleBy (.ref a) X.env hds) (SP X pins D) X.xe s := by
  induction hh with
  | nil => exact wpAny_handleBy_nil (c.pass tk w)
  | @plain x v ts b₀ bs p q hds l hn hs _ ih =>
    obtain ⟨b, hm, y, n⟩ := w
    refine wpAny_handleBy_cons (codeAny_handlers_test (c.names hn hm ?_)) nofun
    cases b with
    | false => exact ih (n rfl)
    | true =>
      refine codeAny_handlers_suite (HandSPX.lands_againZ c.fl fun h4 f4 u4 => ?_)
      obtain ⟨oe, hz, hf, he, S⟩ := (c.again f4 u4).pinned
      refine wpAny_mono ((hs a oe cls d _ hz hf).run [] _ _ H _ S (y rfl a c.na)) (fun f s6 z => ?_) fun _ _ z => z.elim
      cases f with
      | ret u => obtain ⟨v6, σ6, H6, S6, r6, q6⟩ := z; exact ⟨v6, σ6, H6, S6.unsuite c.J.ok, r6, q6⟩
      | _ => obtain ⟨σ6, H6, S6, q6⟩ := z; exact ⟨σ6, H6, S6.unsuite c.J.ok, q6⟩
  | @named x nm i v ts b₀ bs p q hds l hn hN hi hl hs _ ih =>
    obtain ⟨b, hm, y, n⟩ := w
    refine wpAny_handleBy_cons (codeAny_handlers_test (c.names hn hm ?_)) nofun
    cases b with
    | false => exact ih (n rfl)
    | true =>
      refine codeAny_handlers_suite_as (HandSPX.lands_againZ c.fl fun h4 f4 u4 => ?_)
      obtain ⟨oe, hz, hf, he, S⟩ := (c.again f4 u4).pinned
      refine store_ok (X := X.suite a ((a, oe) :: (X.pn ++ pins))) (v := .ref a) S hN hi (.inl hl) rfl (fun s5 S5 => ?_) (.inr hl)
      refine wpAny_mono ((hs a oe cls d _ hz hf).run [] s5 _ H _ S5 (y rfl a c.na)) (fun f s6 z => ?_) fun _ _ z => z.elim
      cases f with
      | ret u => obtain ⟨v6, σ6, H6, S6, r6, q6⟩ := z; exact gone_ok (S6.unsuite c.J.ok) hN hi hl fun s7 J7 => ⟨v6, _, H6, J7, r6, q6⟩
      | _ => obtain ⟨σ6, H6, S6, q6⟩ := z; exact gone_ok (S6.unsuite c.J.ok) hN hi hl fun s7 J7 => ⟨_, H6, J7, q6⟩
theorem ps_try_all {body : List Stmt} {h₀ : ExceptHandler} {hds : List ExceptHandler} {l : List (Value × Ts3)} {pos : Pos} {tb : WX → TS} (hs : X.stack = X.env :: X.outer) (hf : X.env.frame = some X.env.locals) (tk : Takes X Wout)
    (hb : ∀ (W : WX) (pn : List (Addr × Obj)) (xe : Value → Shared → Prop), Takes (X.tr pn xe) W → PassesOwn (model X.prog X.w) X.A X.env xe → PSs (X.tr pn xe) body (tb W)) (hh : Hs X (h₀ :: hds) l) :
    PS X (.Try body (h₀ :: hds) [] [] pos) (fun D σ H => tb (wMany X.K Wout D l) D σ H) := by
  refine ⟨fun pins s σ H D I h => wpAny_Try_except ?_⟩
  have J := (hb (wMany X.K Wout D l) (X.pn ++ pins) (fun e s₁ => wpAny (model X.prog X.w) X.A (noteFrame e X.env) (fun _ s₂ => wpAny (model X.prog X.w) X.A (setFlight e none) (fun _ s₃ => wpAny (model X.prog X.w) X.A (handleBy e X.env (h₀ :: hds)) (SP X pins D) X.xe s₃) X.xe s₂) X.xe s₁) ?_ PassesOwn.looking).run [] s σ H D (I.toTry _) h
  · refine wpAny_mono J (fun f s1 z => ?_) fun e s1 z => z
    cases f with
    | next => obtain ⟨σ1, H1, J1, q1⟩ := z; exact wpAny_execs_nil ⟨σ1, H1, J1.ofTry I.ok, q1⟩
    | ret u => obtain ⟨v1, σ1, H1, J1, r1, q1⟩ := z; exact ⟨v1, σ1, H1, J1.ofTry I.ok, r1, q1⟩
    | _ => obtain ⟨σ1, H1, J1, q1⟩ := z; exact ⟨σ1, H1, J1.ofTry I.ok, q1⟩
  · rintro u s1 ⟨a, B, sI, pins1, σ1, H1, cls, d, rfl, J1, nb, up, sky, na, os, ag, w⟩
    refine Sky.land (env := X.env) (outer := X.outer) Zc.steady (by rw [I.ok.frames, hs]) hf (by rw [← hs]; exact sky) fun h3 f3 u3 => ?_
    exact hs_run hh tk (c := ⟨hs, hf, J1.ofTry I.ok, nb, up.trans u3, f3, na, os, ag⟩) w
end
end Fs

/-! E3: raise of the package's errors; try. -/
namespace Fs
open L2 PyProof.Rows PySem.Spec PySem
theorem relO_one {v : V} {u : Value} (r : RelV v u) (a f : Str) : RelO (List.lookup f [(a, v)]) (if f = a then some u else none) := by
  by_cases h : f = a
  · subst h
    have e : List.lookup f [(f, v)] = some v := by simp [List.lookup]
    rw [e, if_pos rfl]
    exact r
  · have n : (f == a) = false := by simpa using h
    have e : List.lookup f [(a, v)] = none := by simp [List.lookup, n]
    rw [e, if_neg h]
    trivial
section
variable {X : Cx} {W : WX} {e : Expr} {x a : Str} {C fI : Addr} {k : Nat} {ta : TA} {p pos pos2 : Pos} {ma : ME D}
theorem super_boot : bootBuiltins "super" = some (.type "super") := by kernel_rfl
/-- the made error is let go of by the tracked heap: its dict stays -/
theorem mk_one {pins : List (Addr × Obj)} {σ : L2.St} {H1 : Hp} {Q : XK} {hp h2 : Heap} {g : Array GenState} {dr : Drawn} {t t2 : Nat} {os : OsState} {ex d : Addr} {v : V} {u : Value} (T : Raises X (.ref C)) (I1 : Inv X pins σ H1 ⟨hp, g, dr, t, os⟩) (rv : RelV v u) (M : Mk1 hp h2 ex C d a u)
    (q : H1 d = none → Q (.ref C) (some d) (upd H1 d (.xd [(a, v)]))) : MkP X pins σ Q (.ref ex) ⟨h2, g, dr, t2, os⟩ := by
  obtain ⟨t1, ho⟩ := M.obj
  obtain ⟨G, on, off⟩ := restrict h2 fun y => decide (y ≠ ex)
  have same : ∀ y, y ≠ ex → G.get? y = h2.get? y := fun y hy => on y (decide_eq_true hy)
  have gone : G.get? ex = none := off ex (by simp)
  have ob : ObjOk X.prog X.w (upd H1 d (.xd [(a, v)])) G d (.xd [(a, v)]) := ⟨_, M.ns.at fun o z => (same d M.dne).trans z, fun f => relO_one rv a f⟩
  have J : Inv X pins σ (upd H1 d (.xd [(a, v)])) ⟨G, g, dr, t2, os⟩ :=
    I1.laid (t' := t2) (fun y o z => (same y (Nat.ne_of_lt (Nat.lt_of_lt_of_le (Heap.lt_size z) M.new))).trans (M.keep y o z)) M.dbig ob
  refine ⟨ex, _, _, ⟨G, g, dr, t2, os⟩, _, .ref C, some d, rfl, J, fun y o z => ?_, gone, ho, ⟨rfl, rfl⟩, rfl, rfl, ?_, rfl, I1.bare, T, q (I1.hok.fresh M.dbig)⟩
  · have ny : y ≠ ex := fun w => by
      have z : G.get? y = some o := z
      rw [w, gone] at z
      cases z
    exact (same y ny).symm.trans z
  · rw [upd_ne (Ne.symm M.dne)]
    exact I1.hok.fresh M.new
theorem pmk1 (T : Er1 X.K X.mg X.prog x a C fI) (hr : Room k X.A) (hg : Gl X x) (ha : PA X [e] ta) (hdb : (x == ("__debug__" : Str)) = false := by decide)
    (he : starEach (e :: []) X.env = (false, eval e X.env) :: starEach [] X.env := by rfl) (hpl : (backTo pos (starEach [] X.env)).any (·.1) = false := by rfl) :
    PMk X (.Call (.Name x p) [e] [] pos) (fun σ H Q => ta σ H fun vs H1 => ∃ v, vs = [v] ∧ ∀ d, H1 d = none → Q (.ref C) (some d) (upd H1 d (.xd [(a, v)]))) := fun pins s σ H Q I h => by
  refine wpAny_Call_Name_kw (ld_glob I hg T.gC ?_ hdb)
  refine PySem.W.callWith_K (h₀ := X.base) I.ok.mod.kin T.kp (thn (ha.run pos pins s σ H _ I h) fun us s1 ⟨vs, H1, I1, r1, v, ev, q1⟩ => ⟨I1.kIn, ?_⟩) he hpl
  subst ev
  cases r1 with
  | @cons _ u _ _ rv rn =>
    cases rn
    obtain ⟨mb, b1, b2⟩ := I.mod.blt
    have hb := b1.keeps I1.bk
    have hg1 := I.mod.glob.keeps I1.bk
    have hl := I1.nolimit
    have hk := I1.kIn
    obtain ⟨hp, g, dr, tk, os⟩ := s1
    show wpAny _ _ (call (.ref C) [u]) _ _ _
    exact wpAny_call (err_made1 T hk hl hg1 hb ((b2 "super" (by decide)).trans super_boot) (by have := hr.dp; omega) fun h2 tk2 ex d M => mk_one (raises_own T.bse T.typ) I1 rv M (q1 d))
theorem pmk0 (T : Er0 X.K X.mg X.prog x C fI) (hr : Room k X.A) (hg : Gl X x) (hdb : (x == ("__debug__" : Str)) = false := by decide) :
    PMk X (.Call (.Name x p) [] [] pos) (fun _ H Q => Q (.ref C) none H) := fun pins s σ H Q I h => by
  refine wpAny_Call_Name_kw (ld_glob I hg T.gC ?_ hdb)
  refine PySem.W.callWith_K0 I.kIn T.kp ?_
  obtain ⟨mb, b1, b2⟩ := I.mod.blt
  have hb := b1.keeps I.bk
  have hg1 := I.mod.glob.keeps I.bk
  have hl := I.nolimit
  have hk := I.kIn
  obtain ⟨hp, g, dr, tk, os⟩ := s
  refine wpAny_call (err_made0 T hk hl hg1 hb ((b2 "super" (by decide)).trans super_boot) (by have := hr.dp; omega) fun h2 tk2 ex M => ?_)
  obtain ⟨t1, ho⟩ := M.obj
  obtain ⟨G, on, off⟩ := restrict h2 fun y => decide (y ≠ ex)
  have same : ∀ y, y ≠ ex → G.get? y = h2.get? y := fun y hy => on y (decide_eq_true hy)
  have gone : G.get? ex = none := off ex (by simp)
  have old : ∀ y o, hp.get? y = some o → G.get? y = some o := fun y o z => (same y (Nat.ne_of_lt (Nat.lt_of_lt_of_le (Heap.lt_size z) M.new))).trans (M.keep y o z)
  refine ⟨ex, _, _, ⟨G, g, dr, tk2, os⟩, H, .ref C, none, rfl, I.kept old, fun y o z => ?_, gone, ho, ⟨rfl, rfl⟩, rfl, rfl, I.hok.fresh M.new, rfl, I.bare, raises_own T.bse T.typ, h⟩
  have ny : y ≠ ex := fun w => by
    have z : G.get? y = some o := z
    rw [w, gone] at z
    cases z
  exact (same y ny).symm.trans z
/-! ### the statements -/
def raise1M (x a : Str) (ma : ME D) : MS := exprM ma fun d ρ b => .ex ⟨x, a, some d⟩ ρ b
def raise0M (x : Str) : MS := fun ρ b => .ex ⟨x, "", none⟩ ρ b
theorem ss_raise1 {p3 : Pos} (hc : X.calm = true) (tk : Takes X W) (T : Er1 X.K X.mg X.prog x a C fI) (hr : Room k X.A) (hg : Gl X x) (hv : SE X W e ma) (hdb : (x == ("__debug__" : Str)) = false := by decide)
    (he : starEach (e :: []) X.env = (false, eval e X.env) :: starEach [] X.env := by rfl) (hpl : (backTo pos (starEach [] X.env)).any (·.1) = false := by rfl) :
    SS X W (.Raise (some (.Call (.Name x p) [e] [] pos)) none p3) (raise1M x a ma) :=
  PS.imp (ps_raise hc tk (pmk1 T hr hg (pa_cons hv pa_nil he) hdb he hpl)) fun D σ H h => expr_read h fun g ρ b α β d v H1 r _ l q => by
    refine ⟨v, rfl, fun dx hn => ?_⟩
    have k0 : Keep nobody H1 (upd H1 dx (.xd [(a, v)])) := Keep.upd hn
    refine q _ _ σ _ α β (r.step k0.of0 (r.box.keep0 k0)) ⟨C, T.gC, rfl, dx, v, rfl, upd_same, l.keep k0.of0⟩
theorem ss_raise0 {p3 : Pos} (hc : X.calm = true) (tk : Takes X W) (T : Er0 X.K X.mg X.prog x C fI) (hr : Room k X.A) (hg : Gl X x) (hdb : (x == ("__debug__" : Str)) = false := by decide) :
    SS X W (.Raise (some (.Call (.Name x p) [] [] pos)) none p3) (raise0M x) :=
  PS.imp (ps_raise hc tk (pmk0 T hr hg hdb)) fun D σ H ⟨g, ρ, b, α, β, r, q⟩ => q _ _ σ H α β r ⟨C, T.gC, rfl, rfl⟩
end
end Fs

/-! E4: try, by total functions. -/
namespace Fs
open L2 PyProof.Rows PySem.Spec PySem
structure HdM where
  cls : Str → Option Bool
  run : Exn → MS
def noX : SR → SR
  | .ex _ _ _ => .bad
  | r => r
def pickM : List HdM → Exn → MS
  | [], e => fun ρ b => .ex e ρ b
  | h :: t, e => fun ρ b => match h.cls e.cls with
    | some true => noX (h.run e ρ b)
    | some false => pickM t e ρ b
    | none => .bad
def tryM (m : MS) (hs : List HdM) : MS := fun ρ b => match m ρ b with
  | .ex e ρ' b' => pickM hs e ρ' b'
  | r => r
abbrev Wno : WX := fun _ _ _ _ => False
/-- which errors a clause names, and what its suite does -/
structure HOk1 (X : Cx) (c : Value) (ts : Ts3) (h : HdM) : Prop where
  cls : ∀ (x : Str) (b : Bool) (C : Addr), h.cls x = some b → X.mg x = some (.ref C) → PySem.W.exmOne X.K (.ref C) c = some b
  run : ∀ (a : Addr) (e : Exn) (cls : Value) (dd : Option Addr) (D : Ends) (σ : L2.St) (H : Hp) (g : Gh) (ρ : En) (b : Bx) (α : Nat → Addr) (β : Option Addr), RE X.K g H ρ b σ α β → ExR (Cx.z X) (OW g ρ α β) H e cls dd → H a = none → h.cls e.cls = some true →
    PostS (Cx.z X) Wno g D (h.run e ρ b) → ts a cls dd D σ H
inductive HMs (X : Cx) : List (Value × Ts3) → List HdM → Prop
  | nil : HMs X [] []
  | cons {c : Value} {ts : Ts3} {h : HdM} {l : List (Value × Ts3)} {hs : List HdM} : HOk1 X c ts h → HMs X l hs → HMs X ((c, ts) :: l) (h :: hs)
section
variable {X : Cx} {W : WX} {l : List (Value × Ts3)} {hs : List HdM} {m : MS} {x F : Str} {C fI : Addr} {c : PyData} {i j : Nat} {n : Str} {pos p q : Pos}
theorem post_noX {g : Gh} {D : Ends} {r : SR} (h : PostS (Cx.z X) W g D (noX r)) : PostS (Cx.z X) Wno g D r := by
  cases r with
  | ex e ρ b => exact h.elim
  | nx ρ b => exact h
  | rt d b => exact h
  | bk ρ b => exact h
  | ct ρ b => exact h
  | bad => exact h
theorem many_ok (hm : HMs X l hs) {e : Exn} {cls : Value} {dd : Option Addr} {D : Ends} {σ : L2.St} {H : Hp} {g : Gh} {ρ : En} {b : Bx} {α : Nat → Addr} {β : Option Addr} (r : RE X.K g H ρ b σ α β) (x : ExR (Cx.z X) (OW g ρ α β) H e cls dd) (h : PostS (Cx.z X) W g D (pickM hs e ρ b)) :
    wMany X.K W D l cls dd σ H := by
  induction hm with
  | nil => exact h cls dd σ H α β r x
  | @cons c ts k l hs hk _ ih =>
    unfold pickM at h
    obtain ⟨C, h1, h2, h3⟩ := id x
    cases hc : k.cls e.cls with
    | none => rw [hc] at h; exact h.elim
    | some t =>
      rw [hc] at h
      refine ⟨t, by rw [h2]; exact hk.cls _ _ _ hc h1, fun ht a na => ?_, fun hf => ?_⟩
      · subst ht
        exact hk.run a e cls dd D σ H g ρ b α β r x na hc (post_noX h)
      · subst hf
        exact ih h
theorem ss_try {body : List Stmt} {h₀ : ExceptHandler} {hds : List ExceptHandler} (hst : X.stack = X.env :: X.outer) (hf : X.env.frame = some X.env.locals) (tk : Takes X W)
    (hb : ∀ (W' : WX) (pn : List (Addr × Obj)) (xe : Value → Shared → Prop), Takes (X.tr pn xe) W' → SB (X.tr pn xe) W' body m) (hh : Hs X (h₀ :: hds) l) (hm : HMs X l hs) : SS X W (.Try body (h₀ :: hds) [] [] pos) (tryM m hs) :=
  PS.imp (ps_try_all (tb := fun W' => tS (Cx.z X) W' m) hst hf tk (fun W' pn xe t _ => hb W' pn xe t) hh) fun D σ H ⟨g, ρ, b, α, β, r, h⟩ => by
    refine ⟨g, ρ, b, α, β, r, ?_⟩
    unfold tryM at h
    cases e : m ρ b with
    | ex x ρ' b' =>
      rw [e] at h
      exact fun cls dd σ' H' α' β' r' x' => many_ok hm r' x' h
    | nx _ _ => rw [e] at h; exact h
    | rt _ _ => rw [e] at h; exact h
    | bk _ _ => rw [e] at h; exact h
    | ct _ _ => rw [e] at h; exact h
    | bad => rw [e] at h; exact h
/-! ### a clause without a name -/
def tsM (X : Cx) (m : MS) : Ts3 := fun _ _ _ => tS (Cx.z X) Wno m
theorem suite_plain {sb : List Stmt} (h : ∀ (a : Addr) (oe : Obj) (pn : List (Addr × Obj)), SB (X.suite a ((a, oe) :: pn)) Wno sb m) : SuiteOk X sb (tsM X m) := fun a oe _ _ pn _ _ => h a oe pn
theorem hm_plain {v : Value} {k : Str → Option Bool} (hk : ∀ (x : Str) (b : Bool) (C : Addr), k x = some b → X.mg x = some (.ref C) → PySem.W.exmOne X.K (.ref C) v = some b) : HOk1 X v (tsM X m) ⟨k, fun _ => m⟩ :=
  ⟨hk, fun a e cls dd D σ H g ρ b α β r _ _ _ h => ⟨g, ρ, b, α, β, r, h⟩⟩
/-! ### a clause with a name: (c, e.F) -/
/-- e.F, made with c into a pair -/
def tHv (X : Cx) (F : Str) (C : Addr) (i : Nat) (c : PyData) (a : Addr) (cls : Value) (d : Option Addr) : TE := tTup (tCons (tR (Cx.z X) (lD X.K) Wno (cM c)) (tCons (tXf a cls d C F (tVar i)) tNil))
theorem pe_hv (T : Er1 X.K X.mg X.prog x F C fI) {a : Addr} {oe : Obj} {cls : Value} {d : Option Addr} {pn : List (Addr × Obj)} {ce : Expr} {kk} {p1 p2 : Pos} (hz : Zc cls d oe) (hf : ∃ vs, oe.data = .fields vs) (hN : X.N[i]? = some n) (hv : Vis X.env.scope n)
    (hc : SE (X.suite a ((a, oe) :: pn)) Wno ce (cM c)) (hd : (n == ("__debug__" : Str)) = false := by decide) (hcd : (n == ("__classdict__" : Str)) = false := by decide)
    (h1 : starEach [ce, .Attribute (.Name n p1) F p2] X.env = (false, eval ce X.env) :: starEach [.Attribute (.Name n p1) F p2] X.env := by rfl) (h2 : starEach [.Attribute (.Name n p1) F p2] X.env = (false, eval (.Attribute (.Name n p1) F p2) X.env) :: starEach [] X.env := by rfl) :
    PE (X.suite a ((a, oe) :: pn)) (.Tuple [ce, .Attribute (.Name n p1) F p2] kk p) (tHv X F C i c a cls d) :=
  pe_tup (pa_cons hc (pa_cons (pe_xf ⟨T.ga, T.gg, T.bse, T.dct⟩ T.noN hz hf (pe_var hN hv hd hcd)) pa_nil h2) h1)
/-- it answers the pair -/
theorem hv_read (T : Er1 X.K X.mg X.prog x F C fI) {g : Gh} {ρ : En} {b : Bx} {σ : L2.St} {α : Nat → Addr} {β : Option Addr} {H : Hp} {a : Addr} {e : Exn} {cls : Value} {dd : Option Addr} {d : PyData} {Q : VK} (r : RE X.K g H ρ b σ α β) (xr : ExR (Cx.z X) (OW g ρ α β) H e cls dd)
    (he : e.cls = x) (hf : e.fld = F) (ha : e.arg = some d) (hi : i < σ.length) (q : ∀ v H2, RE X.K g H2 (ρ.set i .no) b (σ.set i (some (.ref a))) α β → RD X.K (OW g (ρ.set i .no) α β) H2 (.tuple [c, d]) v → Q v H2) :
    tHv X F C i c a cls dd (σ.set i (some (.ref a))) H Q := by
  have r0 : RE X.K g H (ρ.set i .no) b (σ.set i (some (.ref a))) α β := r.set hi (fun _ z => by cases z) (fun _ z => by cases z) (fun _ z => by cases z) (fun z => by cases z)
  obtain ⟨C', h1, h2, h3⟩ := xr
  rw [ha] at h3
  obtain ⟨p0, v0, e1, e2, e3⟩ := h3
  have eC : C' = C := by
    have z := T.gC
    rw [← he] at z
    have z2 : X.mg e.cls = some (.ref C') := h1
    rw [z] at z2
    cases z2
    rfl
  subst eC h2 e1
  refine ⟨g, ρ.set i .no, b, α, β, r0, fun y H1 l1 k1 q1 => ?_⟩
  have r1 := r0.step k1 q1
  refine ⟨.ref a, List.getElem?_set_self hi, rfl, rfl, p0, [(e.fld, v0)], v0, rfl, k1 _ _ e2 fun z => ?_, by rw [hf]; simp [List.lookup], ?_, fun pn hn => ?_⟩
  · obtain ⟨xs, w⟩ := r.ownL p0 (.inr (.inl z))
    rcases w with w | ⟨o, w⟩ <;> (rw [e2] at w; cases w)
  · rw [sizeLine_eq]
    exact (by decide : (2 : Nat) ≤ 16777216)
  · have k2 : Keep nobody H1 (upd H1 pn (.tup [y, v0])) := Keep.upd hn
    have l2 : RD X.K (OW g (ρ.set i .no) α β) H1 d v0 := (e3.own fun a u _ z => own_set (fun _ z => by cases z) a z).keep (k1.mono fun _ z => .inr (.inl z))
    exact q _ _ (r1.step k2.of0 (r1.box.keep0 k2)) (RD.newT r1.gd hn (.cons l1 (.cons l2 .nil)))
def hvR (x F : Str) (c : PyData) (i : Nat) (k : PyData → MS) : Exn → MS := fun e ρ b => if e.cls = x ∧ e.fld = F ∧ i < ρ.length then (match e.arg with
  | some d => k (.tuple [c, d]) ρ b
  | none => .bad) else .bad
def retV : PyData → MS := fun d _ b => .rt d b
theorem hvR_cases {k : PyData → MS} {e : Exn} {ρ : En} {b : Bx} {g : Gh} {D : Ends} (h : PostS (Cx.z X) W g D (hvR x F c i k e ρ b)) : e.cls = x ∧ e.fld = F ∧ i < ρ.length ∧ ∃ d, e.arg = some d ∧ PostS (Cx.z X) W g D (k (.tuple [c, d]) ρ b) := by
  unfold hvR at h
  split at h
  · rename_i hh
    cases ha : e.arg with
    | none => rw [ha] at h; exact h.elim
    | some d => rw [ha] at h; exact ⟨hh.1, hh.2.1, hh.2.2, d, rfl, h⟩
  · exact h.elim
/-- return (c, e.F) -/
def tsRet (X : Cx) (F : Str) (C : Addr) (i : Nat) (c : PyData) : Ts3 := fun a cls d => tRet (tHv X F C i c a cls d)
theorem hm_ret {v : Value} {kc : Str → Option Bool} (T : Er1 X.K X.mg X.prog x F C fI) (hi : X.N[i]? = some n) (hN : X.N.Nodup) (hk : ∀ (y : Str) (b : Bool) (C : Addr), kc y = some b → X.mg y = some (.ref C) → PySem.W.exmOne X.K (.ref C) v = some b) :
    HOk1 X v (asT i (tsRet X F C i c)) ⟨kc, hvR x F c i retV⟩ :=
  ⟨hk, fun a e cls dd D σ H g ρ b α β r xr na _ h => by
    obtain ⟨h1, h2, hl, d, h3, h4⟩ := hvR_cases h
    exact hv_read T r xr h1 h2 h3 (by rw [← r.len]; exact hl) fun w H2 r2 l2 => h4 w H2 (r2.ret (l2.own fun a u _ z => by
        rcases z with z | z
        · exact .inl z
        · exact .inr (.inl (r2.foB z))))⟩
theorem suite_ret (T : Er1 X.K X.mg X.prog x F C fI) {ce : Expr} {kk} {p1 p2 p3 : Pos} (hN : X.N[i]? = some n) (hv : Vis X.env.scope n) (hc : ∀ (a : Addr) (oe : Obj) (pn : List (Addr × Obj)), SE (X.suite a ((a, oe) :: pn)) Wno ce (cM c)) (hd : (n == ("__debug__" : Str)) = false := by decide)
    (hcd : (n == ("__classdict__" : Str)) = false := by decide) (h1 : starEach [ce, .Attribute (.Name n p1) F p2] X.env = (false, eval ce X.env) :: starEach [.Attribute (.Name n p1) F p2] X.env := by rfl) :
    SuiteOk X [.Return (some (.Tuple [ce, .Attribute (.Name n p1) F p2] kk p)) p3] (tsRet X F C i c) := fun a oe cls d pn hz hf => pss_one (ps_ret (pe_hv T hz hf hN hv (hc a oe pn) hd hcd h1))
/-- y = (c, e.F) -/
def setV (i j : Nat) : PyData → MS := fun d ρ b => if j < ρ.length then .nx (((ρ.set i .no).set j (.v d)).set i .no) b else .bad
def tsSet (X : Cx) (F : Str) (C : Addr) (i j : Nat) (c : PyData) : Ts3 := fun a cls d => tAsg (tHv X F C i c a cls d) (gName j)
theorem hm_set {v : Value} {kc : Str → Option Bool} (T : Er1 X.K X.mg X.prog x F C fI) (hk : ∀ (y : Str) (b : Bool) (C : Addr), kc y = some b → X.mg y = some (.ref C) → PySem.W.exmOne X.K (.ref C) v = some b) :
    HOk1 X v (asT i (tsSet X F C i j c)) ⟨kc, hvR x F c i (setV i j)⟩ :=
  ⟨hk, fun a e cls dd D σ H g ρ b α β r xr na _ h => by
    obtain ⟨h1, h2, hl, d, h3, h4⟩ := hvR_cases h
    show tHv X F C i c a cls dd (σ.set i (some (.ref a))) H fun w H2 => (offE i D).nx ((σ.set i (some (.ref a))).set j (some w)) H2
    refine hv_read T r xr h1 h2 h3 (by rw [← r.len]; exact hl) fun w H2 r2 l2 => ?_
    unfold setV at h4
    split at h4
    · rename_i hj
      have r3 := r2.setV (i := j) (by rw [← r2.len]; simpa using hj) l2
      exact h4 _ H2 α β (r3.set (i := i) (sl := .no) (ov := none) (by rw [← r3.len]; simpa using hl) (fun _ z => by cases z) (fun _ z => by cases z) (fun _ z => by cases z) (fun z => by cases z))
    · exact h4.elim⟩
theorem suite_set (T : Er1 X.K X.mg X.prog x F C fI) {ce : Expr} {kk} {y : Str} {p1 p2 p3 p4 : Pos} (hN : X.N[i]? = some n) (hv : Vis X.env.scope n) (hc : ∀ (a : Addr) (oe : Obj) (pn : List (Addr × Obj)), SE (X.suite a ((a, oe) :: pn)) Wno ce (cM c)) (hnd : X.N.Nodup) (hj : X.N[j]? = some y) (hy : Loc X.env.scope y) (hd : (n == ("__debug__" : Str)) = false := by decide)
    (hcd : (n == ("__classdict__" : Str)) = false := by decide) (h1 : starEach [ce, .Attribute (.Name n p1) F p2] X.env = (false, eval ce X.env) :: starEach [.Attribute (.Name n p1) F p2] X.env := by rfl)
    (hf : X.fn y = true ∨ X.env.scope.names.lookup y = some .local := by first | exact .inl rfl | exact .inr rfl | assumption) :
    SuiteOk X [.Assign [.Name y p4] (.Tuple [ce, .Attribute (.Name n p1) F p2] kk p) p3] (tsSet X F C i j c) := fun a oe cls d pn hz hf' => pss_one (ps_set (X := X.suite a ((a, oe) :: pn)) hnd hj hy (pe_hv T hz hf' hN hv (hc a oe pn) hd hcd h1) (by rfl) hf)
end
end Fs

/-! B1: the box of draws: read, written, handed on; defs that take a box; defs that answer a new list. -/
namespace Fs
open L2 PyProof.Rows PySem.Spec PySem
def bxGet : Bx → Option (Int × Int × Int)
  | .no => none
  | .fo x y z => some (x, y, z)
  | .ow x y z => some (x, y, z)
def bxPut : Bx → Int × Int × Int → Bx
  | .no, _ => .no
  | .fo _ _ _, (x, y, z) => .fo x y z
  | .ow _ _ _, (x, y, z) => .ow x y z
def tri (t : Int × Int × Int) (c : Int) : Option Int := if c = 0 then some t.1 else if c = 1 then some t.2.1 else if c = 2 then some t.2.2 else none
def triPut (t : Int × Int × Int) (c v : Int) : Option (Int × Int × Int) := if c = 0 then some (v, t.2.1, t.2.2) else if c = 1 then some (t.1, v, t.2.2) else if c = 2 then some (t.1, t.2.1, v) else none
def TV (t : Int × Int × Int) : HO := BxV t.1 t.2.1 t.2.2
section
variable {K : PySem.W.Frag} {g : Gh} {H H' : Hp} {ρ : En} {b b' : Bx} {σ : L2.St} {α : Nat → Addr} {β : Option Addr} {t u : Int × Int × Int}
theorem BxR.at (q : BxR g H b β) (h : bxGet b = some t) : ∃ a, β = some a ∧ H a = some (TV t) := by
  cases b with
  | no => cases h
  | fo x y z => cases h; obtain ⟨a, e1, _, e3⟩ := q; exact ⟨a, e1, e3⟩
  | ow x y z => cases h; obtain ⟨a, e1, _, _, e3⟩ := q; exact ⟨a, e1, e3⟩
theorem BxR.put (q : BxR g H b β) (h : bxGet b = some t) {a : Addr} (ha : β = some a) (e : H' a = some (TV u)) : BxR g H' (bxPut b u) β := by
  cases b with
  | no => cases h
  | fo x y z => obtain ⟨a', e1, e2, _⟩ := q; rw [ha] at e1; cases e1; exact ⟨a, ha, e2, e⟩
  | ow x y z => obtain ⟨a', e1, e2, e3, _⟩ := q; rw [ha] at e1; cases e1; exact ⟨a, ha, e2, e3, e⟩
theorem BxR.has (q : BxR g H b β) {a : Addr} (h : β = some a) : ∃ t, bxGet b = some t ∧ H a = some (TV t) := by
  cases b with
  | no => rw [q.1] at h; cases h
  | fo x y z => obtain ⟨a', e1, _, e3⟩ := q; rw [h] at e1; cases e1; exact ⟨_, rfl, e3⟩
  | ow x y z => obtain ⟨a', e1, _, _, e3⟩ := q; rw [h] at e1; cases e1; exact ⟨_, rfl, e3⟩
theorem bxPut_get (h : bxGet b = some t) : bxGet (bxPut b u) = some u := by
  cases b with
  | no => cases h
  | fo x y z => rfl
  | ow x y z => rfl
end
section
variable {X : Cx} {W : WX} {e : Expr} {ma : ME D} {ms : ME (List D)} {m : MS} {i : Nat} {x : Str} {pos p : Pos}
/-- box[c] -/
def boxAtM (i : Nat) (c : Int) : ME D := fun ρ b => match ρ[i]?, (bxGet b).bind fun t => tri t c with
  | some .bx, some v => .ok (.int v) b
  | _, _ => .bad
theorem tri_at {t : Int × Int × Int} {c v : Int} (h : tri t c = some v) : atI [V.int t.1, .int t.2.1, .int t.2.2] c = some (.int v) := by
  unfold tri at h
  by_cases h0 : c = 0
  · subst h0; cases h; rfl
  · rw [if_neg h0] at h
    by_cases h1 : c = 1
    · subst h1; cases h; rfl
    · rw [if_neg h1] at h
      by_cases h2 : c = 2
      · subst h2; cases h; rfl
      · rw [if_neg h2] at h; cases h
theorem se_boxAt {c : Int} {j} {p1 p2 : Pos} (hN : X.N[i]? = some x) (hv : Vis X.env.scope x) (hd : (x == ("__debug__" : Str)) = false := by decide) (hcd : (x == ("__classdict__" : Str)) = false := by decide)
    (hs : PlainIx (.Constant (.int c) j p2) := by exact fun _ _ => rfl) : SE X W (.Subscript (.Name x p1) (.Constant (.int c) j p2) pos) (boxAtM i c) :=
  PE.imp (pe_ix ix_list (pe_var hN hv hd hcd) pe_int hs) fun σ H Q ⟨g, ρ, b, α, β, r, q⟩ => by
    unfold boxAtM at q
    split at q
    · rename_i v e1 e2
      obtain ⟨t, et, ev⟩ := Option.bind_eq_some_iff.mp e2
      obtain ⟨a, ha, hs⟩ := r.bxs i e1
      obtain ⟨a', ha', hH⟩ := r.box.at et
      rw [ha] at ha'; cases ha'
      exact ⟨_, hs, a, _, c, _, rfl, rfl, .inl (.inl hH), tri_at ev, q _ H (.int v) (Keep.refl _ _) r.box⟩
    · exact q.elim
/-- box[c] = e -/
def boxPutM (i : Nat) (c : Int) (ma : ME D) : MS := exprM ma fun d ρ b => match ρ[i]?, d, bxGet b with
  | some .bx, .int v, some t => (match triPut t c v with
    | some u => .nx ρ (bxPut b u)
    | none => .bad)
  | _, _, _ => .bad
theorem triPut_at {t u : Int × Int × Int} {c v : Int} (h : triPut t c v = some u) : ∃ k, ixN 3 c = some k ∧ BxV t.1 t.2.1 t.2.2 = TV t ∧ HO.lst ([V.int t.1, .int t.2.1, .int t.2.2].set k (.int v)) = TV u := by
  unfold triPut at h
  by_cases h0 : c = 0
  · subst h0; cases h; exact ⟨0, rfl, rfl, rfl⟩
  · rw [if_neg h0] at h
    by_cases h1 : c = 1
    · subst h1; cases h; exact ⟨1, rfl, rfl, rfl⟩
    · rw [if_neg h1] at h
      by_cases h2 : c = 2
      · subst h2; cases h; exact ⟨2, rfl, rfl, rfl⟩
      · rw [if_neg h2] at h; cases h
theorem ss_boxPut {c : Int} {j} {p1 p2 p3 : Pos} (hN : X.N[i]? = some x) (hv : Vis X.env.scope x) (he : SE X W e ma) (hd : (x == ("__debug__" : Str)) = false := by decide) (hcd : (x == ("__classdict__" : Str)) = false := by decide)
    (ha : ∀ v, assign (.Subscript (.Name x p1) (.Constant (.int c) j p3) p2) X.env v = (do
      let ov ← holding [v] (eval (.Name x p1) X.env)
      let iv ← holding [v, ov] (eval (.Constant (.int c) j p3) X.env)
      standAt p2
      holding [v, ov, iv] (setItem ov iv v)
      release [v, ov, iv] []) := by intro _; rfl)
    (hs : swapsWithSole [.Subscript (.Name x p1) (.Constant (.int c) j p3) p2] e pos.line X.env = pure false := by rfl) (hw : swappedStores [.Subscript (.Name x p1) (.Constant (.int c) j p3) p2] e X.env = pure none := by rfl)
    (h1 : (assignEach [.Subscript (.Name x p1) (.Constant (.int c) j p3) p2] X.env).map (·.2) = [assign (.Subscript (.Name x p1) (.Constant (.int c) j p3) p2) X.env] := by rfl) :
    SS X W (.Assign [.Subscript (.Name x p1) (.Constant (.int c) j p3) p2] e pos) (boxPutM i c ma) :=
  PS.imp (ps_asg he (pg_sub (pe_var hN hv hd hcd) pe_int set_list ha) hs hw h1) fun D σ H h => by
    refine expr_read (L := lD X.K) h fun g ρ b α β d v H1 r kk l q => ?_
    split at q
    · rename_i vi t e1 et
      split at q
      · rename_i u eu
        obtain ⟨a, ha, hs⟩ := r.bxs i e1
        obtain ⟨a', ha', hH⟩ := r.box.at et
        rw [ha] at ha'; cases ha'
        cases l
        obtain ⟨k, ek, _, eq⟩ := triPut_at eu
        refine ⟨_, hs, a, _, c, k, rfl, rfl, hH, ek, ?_⟩
        rw [eq]
        have kb : Keep (Bs β) H1 (upd H1 a (TV u)) := fun y o e n => by rw [upd_ne (fun z => n (by rw [z]; exact ha))]; exact e
        exact q σ _ α β (r.step kb (r.box.put et ha upd_same))
      · exact q.elim
    · exact q.elim
end
/-! ### a def whose first parameter is the box -/
inductive PB where
  | ok (d : D) (t : Int × Int × Int)
  | ex (e : Exn) (t : Int × Int × Int)
  | bad
abbrev FB := Int × Int × Int → List D → PB
def spB (Z : Zx) (n : Nat) (fm : FB) : Sp := fun vs H Q E => vs.length = n + 1 ∧ ∃ (O : Own) (ds : List D) (a : Addr) (ws : List V) (t : Int × Int × Int), vs = .ref a :: ws ∧ (∀ a, O a → ∃ xs, Rd H a (.lst xs)) ∧ O a ∧ H a = some (TV t) ∧ RDs Z.K O H ds ws ∧ match fm t ds with
  | .ok d t' => ∀ v H', RD Z.K O H' d v → Keep (fun b => b = a) H H' → H' a = some (TV t') → Q v H'
  | .ex e t' => ∀ cls dd H', ExR Z O H' e cls dd → Keep (fun b => b = a) H H' → H' a = some (TV t') → E cls dd H'
  | .bad => False
def fnBM (n : Nat) (body : MS) : FB := fun t ds => match body (.bx :: (ds.map .v ++ List.replicate (n - 1 - ds.length) .no)) (.fo t.1 t.2.1 t.2.2) with
  | .nx _ (.fo x y z) => .ok .none (x, y, z)
  | .rt d (.fo x y z) => .ok d (x, y, z)
  | .ex e _ (.fo x y z) => .ex e (x, y, z)
  | _ => .bad
theorem start_reB {K : PySem.W.Frag} {O : Own} {H : Hp} {N : List Str} {ds : List D} {vs : List V} {a : Addr} {t : Int × Int × Int} (hO : ∀ a, O a → ∃ xs, Rd H a (.lst xs)) (ha : O a) (hH : H a = some (TV t)) (r : RDs K O H ds vs) (hn : ds.length + 1 ≤ N.length) :
    RE K ⟨H, fun b => O b ∧ b ≠ a, some a, fun _ => 0⟩ H (.bx :: (ds.map Sl.v ++ List.replicate (N.length - 1 - ds.length) .no)) (.fo t.1 t.2.1 t.2.2) (L2.start N (.ref a :: vs)) (fun _ => 0) (some a) := by
  have hl := r.length
  have at_ : ∀ (i : Nat) (sl : Sl), (.bx :: (ds.map Sl.v ++ List.replicate (N.length - 1 - ds.length) .no) : En)[i]? = some sl → (i = 0 ∧ sl = .bx) ∨ (∃ j d, i = j + 1 ∧ ds[j]? = some d ∧ sl = .v d) ∨ sl = .no := fun i sl e => by
    cases i with
    | zero => exact .inl ⟨rfl, (Option.some.inj e).symm⟩
    | succ j =>
      rw [List.getElem?_cons_succ] at e
      by_cases hi : j < ds.length
      · rw [List.getElem?_append_left (by simpa using hi), List.getElem?_map] at e
        obtain ⟨d, h1, h2⟩ := Option.map_eq_some_iff.mp e
        exact .inr (.inl ⟨j, d, rfl, h1, h2.symm⟩)
      · rw [List.getElem?_append_right (by simpa using hi), List.getElem?_replicate] at e
        split at e
        · exact .inr (.inr (Option.some.inj e).symm)
        · cases e
  refine ⟨?_, Keep.refl _ _, fun b h => hO b h.1, fun b h => ?_, fun i d e => ?_, fun i xs e => ?_, fun i j xs ys e => ?_, fun i xs e => ?_, fun i e => ?_, ⟨a, rfl, rfl, hH⟩⟩
  · unfold L2.start
    simp only [List.length_cons, List.length_append, List.length_map, List.length_replicate, ← hl]
    omega
  · cases h
    exact ⟨fun z => z.2 rfl, _, hH⟩
  · rcases at_ i _ e with ⟨_, z⟩ | ⟨j, d', rfl, h1, h2⟩ | z
    · cases z
    · cases h2
      obtain ⟨v, e1, e2⟩ := r.get h1
      refine ⟨v, ?_, e2.own fun b u _ z => ?_⟩
      · unfold L2.start
        have : j < vs.length := (List.getElem?_eq_some_iff.mp e1).1
        rw [List.getElem?_append_left (by simpa using this), List.getElem?_map, List.getElem?_cons_succ, e1]
        rfl
      · rcases z with z | z | ⟨j, xs, z, _⟩
        · exact z.1
        · cases z; exact ha
        · rcases at_ j _ z with ⟨_, z⟩ | ⟨_, _, _, _, z⟩ | z <;> cases z
    · cases z
  · rcases at_ i _ e with ⟨_, z⟩ | ⟨_, _, _, _, z⟩ | z <;> cases z
  · rcases at_ i _ e with ⟨_, z⟩ | ⟨_, _, _, _, z⟩ | z <;> cases z
  · rcases at_ i _ e with ⟨_, z⟩ | ⟨_, _, _, _, z⟩ | z <;> cases z
  · rcases at_ i _ e with ⟨rfl, _⟩ | ⟨_, _, _, _, z⟩ | z
    · exact ⟨a, rfl, rfl⟩
    · cases z
    · cases z
section
variable {P : Program} {w : World} {K : PySem.W.Frag} {mg : Str → Option Value} {base : Heap}
theorem fn_simB {x qual : Str} {st : Stmt} {f : Addr} {fd : FuncData} {N ps : List Str} {n k : Nat} {m : MS} (F : Fun K x qual st f fd) (S : FnScope N ps (defScope st)) (hp : ps.length = n + 1) (hn : ps.length ≤ N.length)
    (hb : ∀ (cdv : Value) (A : Around) (outer : List Env) (s : Shared) (H : Hp) (E : XK), Room k (A.deeper (envOfC qual (defScope st) s.heap.objs.size f cdv)) →
      SB (cxOf (L2.CX P w) P w K mg base N qual (defScope st) f cdv A outer s H E) (fun cls d _ H => E cls d H) (defBody st) m) :
    FnOk P w K mg base (L2.CX P w) (k + 1) f fd ps (spB ⟨K, mg⟩ n (fnBM N.length m)) := by
  refine F.okX S (fun vs H Q E h => by rw [hp]; exact h.1) (fun cdv A outer s H vs Q E hr h => ⟨_, hb cdv A outer s H E hr, ?_⟩)
  obtain ⟨hl, O, ds, a, ws, t, rfl, hO, ha, hH, r, h⟩ := h
  have hds : ds.length = n := by rw [r.length]; simpa using hl
  refine ⟨_, _, _, _, _, start_reB (N := N) hO ha hH r (by omega), ?_⟩
  have ownO : ∀ (H' : Hp) (b : Addr) (u : HO), H' b = some u → O b → (O b ∧ b ≠ a) ∨ some a = some b := fun _ b _ _ z => by
    by_cases hba : b = a
    · exact .inr (by rw [hba])
    · exact .inl ⟨z, hba⟩
  have kp : ∀ {H' : Hp}, Keep (fun b => some a = some b) H H' → Keep (fun b => b = a) H H' := fun k => k.mono fun b z => by cases z; rfl
  unfold fnBM at h
  cases e : m (.bx :: (List.map Sl.v ds ++ List.replicate (N.length - 1 - ds.length) Sl.no)) (.fo t.1 t.2.1 t.2.2) with
  | nx ρ b =>
    rw [e] at h
    cases b with
    | no => exact h.elim
    | ow _ _ _ => exact h.elim
    | fo x y z =>
      intro σ H' α β q
      obtain ⟨a', _, h2, h3⟩ := q.box
      cases h2
      exact h .non H' .non (kp q.evo) h3
  | rt d b =>
    rw [e] at h
    cases b with
    | no => exact h.elim
    | ow _ _ _ => exact h.elim
    | fo x y z =>
      intro v H' q
      obtain ⟨a', h2, h3⟩ := q.2.2 x y z rfl
      cases h2
      exact h v H' (q.1.own (ownO H')) (kp q.2.1) h3
  | bk _ _ => rw [e] at h; exact h.elim
  | ct _ _ => rw [e] at h; exact h.elim
  | ex xx ρ b =>
    rw [e] at h
    cases b with
    | no => exact h.elim
    | ow _ _ _ => exact h.elim
    | fo x y z =>
      refine fun cls dd σ H' α β q ⟨C, h1, h2, h3⟩ => ?_
      obtain ⟨a', _, b2, b3⟩ := q.box
      cases b2
      refine h cls dd H' ⟨C, h1, h2, ?_⟩ (kp q.evo) b3
      cases ea : xx.arg with
      | none => rw [ea] at h3; exact h3
      | some d =>
        rw [ea] at h3
        obtain ⟨p, v, e1, e2, e3⟩ := h3
        refine ⟨p, v, e1, e2, e3.own fun b u _ z => ?_⟩
        rcases ownO H' b u (by assumption) z with z | z
        · exact .inl z
        · exact .inr (.inl (q.foB' z))
  | bad => rw [e] at h; exact h.elim
end
/-! ### calls that hand the box on -/
/-- what stands nowhere now stood nowhere at the entry -/
theorem free_back0 {K : PySem.W.Frag} {g : Gh} {H : Hp} {ρ : En} {b : Bx} {σ : L2.St} {α : Nat → Addr} {β : Option Addr} (r : RE K g H ρ b σ α β) {a : Addr} (h : H a = none) : g.H0 a = none := by
  cases e : g.H0 a with
  | none => rfl
  | some u =>
    by_cases hf : g.fo = some a
    · obtain ⟨xs, hx⟩ := r.ownL a (.inr (.inl (r.foB' hf)))
      obtain ⟨o, z⟩ := rd_some hx
      rw [h] at z
      cases z
    · have z := r.evo a u e hf
      rw [h] at z
      cases z
def boxed (n : Nat) (fm : FB) (g : PB → Bool) (ds : List D) : ME D := fun _ b => match bxGet b with
  | some t => if ds.length = n ∧ g (fm t ds) = true then (match fm t ds with
    | .ok d t' => .ok d (bxPut b t')
    | .ex e t' => .ex e (bxPut b t')
    | .bad => .bad) else .bad
  | none => .bad
def callX (i n : Nat) (fm : FB) (ms : ME (List D)) : ME D := fun ρ b => match ρ[i]? with
  | some .bx => bindM ms (boxed n fm fun _ => true) ρ b
  | _ => .bad
def noLp : PB → Bool
  | .ok d _ => noL d
  | .ex e _ => noLx e
  | .bad => true
/-- .. where what is read may be one's own: what comes back holds no list -/
def callXB (i n : Nat) (fm : FB) (ms : ME (List D)) : ME D := fun ρ b => match ρ[i]? with
  | some .bx => bindM ms (boxed n fm noLp) ρ b
  | _ => .bad
section
variable {X : Cx} {W : WX} {e : Expr} {es : List Expr} {ma : ME D} {ms : ME (List D)} {m : MS} {i n k : Nat} {x y : Str} {pos p p1 : Pos} {f : Addr} {fd : FuncData} {ps : List Str} {fm : FB}
theorem keep_at {H H' : Hp} {a : Addr} {β : Option Addr} (h : β = some a) (k : Keep (fun b => b = a) H H') : Keep (Bs β) H H' := k.mono fun b z => by
  subst z
  exact h
theorem borrowX {K : PySem.W.Frag} {O B : Own} {H : Hp} {ds : List D} {vs : List V} (l : RWs K O B H ds vs) : RDs K (fun y => O y ∧ (B y ∨ V.ref y ∉ vs)) H ds vs := by
  have key : ∀ {es : List D} {ws : List V}, RWs K O B H es ws → (∀ v ∈ ws, v ∈ vs) → RDs K (fun y => O y ∧ (B y ∨ V.ref y ∉ vs)) H es ws := by
    intro es ws h
    induction h with
    | nil => exact fun _ => .nil
    | cons a b ih =>
      refine fun hs => .cons ?_ (ih fun v hv => hs v (.tail _ hv))
      rcases a with a | ⟨xs, us, q, e1, e2, t, rs⟩
      · exact a.own fun _ _ _ z => z.1
      · subst e1 e2
        exact .lst ⟨t.1, fun z => z.2.elim t.2 fun n => n (hs _ (.head _))⟩ (rs.own fun _ _ _ z => z.1)
  exact key l fun _ h => h
/-- behind the arguments: the call itself -/
theorem boxed_post {g : Gh} {ρ : En} {b : Bx} {α : Nat → Addr} {β : Option Addr} {σ : L2.St} {H : Hp} {Q : VK} {G : PB → Bool} {ds : List D} {vs : List V} {O' : Own} {a : Addr} (r : RE X.K g H ρ b σ α β) (ha : β = some a) (l : RDs X.K O' H ds vs)
    (hO' : ∀ y, O' y → OW g ρ α β y) (hOa : O' a) (back : ∀ (H2 : Hp) (b2 : Bx) (d : PyData) (v : V), RE X.K g H2 ρ b2 σ α β → noL d = true ∨ (∀ q, G q = true) ∧ True → RD X.K O' H2 d v → RD X.K (OW g ρ α β) H2 d v)
    (hG : ∀ t d t', fm t ds = .ok d t' → G (.ok d t') = true → noL d = true ∨ (∀ q, G q = true) ∧ True) (hE : ∀ t x t', fm t ds = .ex x t' → G (.ex x t') = true → noLx x = true ∨ (∀ q, G q = true) ∧ True)
    (q : PostR (Cx.z X) (lD X.K) W (OW g ρ α β) g β σ H Q (boxed n fm G ds ρ b)) : spB (Cx.z X) n fm (.ref a :: vs) H Q (WE W σ) := by
  unfold boxed at q
  obtain ⟨t, et, hH⟩ := r.box.has ha
  rw [et] at q
  simp only at q
  split at q
  · rename_i hh
    obtain ⟨hl, hg⟩ := hh
    refine ⟨by rw [List.length_cons, ← l.length, hl], O', ds, a, vs, t, rfl, fun y z => r.ownL y (hO' y z), hOa, hH, l, ?_⟩
    cases ef : fm t ds with
    | ok d t' =>
      rw [ef] at q hg
      intro v H2 l2 k2 h2
      have q2 := r.box.put et ha h2
      exact q v H2 (back H2 _ d v (r.step (keep_at ha k2) q2) (hG t d t' ef hg) l2) (keep_at ha k2) q2
    | ex xx t' =>
      rw [ef] at q hg
      intro cls dd H2 ⟨C, h1, hc, h3⟩ k2 h2
      have q2 := r.box.put et ha h2
      refine q cls dd H2 ⟨C, h1, hc, ?_⟩ (keep_at ha k2) q2
      cases ea : xx.arg with
      | none => rw [ea] at h3; exact h3
      | some d =>
        rw [ea] at h3
        obtain ⟨p', v, e1, e2, e3⟩ := h3
        refine ⟨p', v, e1, e2, back H2 _ d v (r.step (keep_at ha k2) q2) ?_ e3⟩
        rcases hE t xx t' ef hg with z | z
        · unfold noLx at z
          rw [ea] at z
          exact .inl z
        · exact .inr z
    | bad => rw [ef] at q; exact q
  · exact q.elim
theorem se_callX (F : FnOk X.prog X.w X.K X.mg X.base (L2.CX X.prog X.w) k f fd ps (spB (Cx.z X) n fm)) (hr : Room k X.A) (hg : Gl X x) (hm : X.mg x = some (.ref f)) (hk : PySem.W.keepIn X.K (.ref f) = true) (hb : Binds X.K fd ps []) (tk : Takes X W) (hN : X.N[i]? = some y) (hv : Vis X.env.scope y)
    (ha : SA X W es ms) (hd : (y == ("__debug__" : Str)) = false := by decide) (hcd : (y == ("__classdict__" : Str)) = false := by decide) (hdb : (x == ("__debug__" : Str)) = false := by decide)
    (he : starEach (.Name y p1 :: es) X.env = (false, eval (.Name y p1) X.env) :: starEach es X.env := by rfl) (hpl : (backTo pos (starEach es X.env)).any (·.1) = false := by rfl) :
    SE X W (.Call (.Name x p) (.Name y p1 :: es) [] pos) (callX i n fm ms) :=
  PE.imp (pe_callS F hr hg hm hk hb (fun σ => passAt tk σ) (pa_cons (pe_var hN hv hd hcd) ha he) hdb he hpl) fun σ H Q ⟨g, ρ, b, α, β, r, q⟩ => by
    unfold callX at q
    split at q
    · rename_i e1
      obtain ⟨a, ea, hs⟩ := r.bxs i e1
      refine ⟨_, hs, ?_⟩
      exact ⟨g, ρ, b, α, β, r, post_bind (L := lDs X.K) q fun ds b' vs H1 l kk qq p1 =>
        boxed_post (r.step kk qq) ea l (fun _ z => z) (.inr (.inl ea)) (fun _ _ _ _ _ _ z => z) (fun _ _ _ _ _ => .inr ⟨fun _ => rfl, trivial⟩) (fun _ _ _ _ _ => .inr ⟨fun _ => rfl, trivial⟩) p1⟩
    · exact q.elim
theorem se_callXB (F : FnOk X.prog X.w X.K X.mg X.base (L2.CX X.prog X.w) k f fd ps (spB (Cx.z X) n fm)) (hr : Room k X.A) (hg : Gl X x) (hm : X.mg x = some (.ref f)) (hk : PySem.W.keepIn X.K (.ref f) = true) (hb : Binds X.K fd ps []) (tk : Takes X W) (hN : X.N[i]? = some y) (hv : Vis X.env.scope y)
    (ha : SAW X W es ms) (hd : (y == ("__debug__" : Str)) = false := by decide) (hcd : (y == ("__classdict__" : Str)) = false := by decide) (hdb : (x == ("__debug__" : Str)) = false := by decide)
    (he : starEach (.Name y p1 :: es) X.env = (false, eval (.Name y p1) X.env) :: starEach es X.env := by rfl) (hpl : (backTo pos (starEach es X.env)).any (·.1) = false := by rfl) :
    SE X W (.Call (.Name x p) (.Name y p1 :: es) [] pos) (callXB i n fm ms) :=
  PE.imp (pe_callS F hr hg hm hk hb (fun σ => passAt tk σ) (pa_cons (pe_var hN hv hd hcd) ha he) hdb he hpl) fun σ H Q ⟨g, ρ, b, α, β, r, q⟩ => by
    unfold callXB at q
    split at q
    · rename_i e1
      obtain ⟨a, ea, hs⟩ := r.bxs i e1
      refine ⟨_, hs, ?_⟩
      refine ⟨g, ρ, b, α, β, r, post_bind (L := lWs X.K) q fun ds b' vs H1 l kk qq p1 => ?_⟩
      refine boxed_post (r.step kk qq) ea (borrowX l) (fun _ z => z.1) ⟨.inr (.inl ea), .inl ea⟩ (fun H2 b2 d v r2 n h => ?_) (fun t d t' ef z => .inl z) (fun t d t' ef z => .inl z) p1
      rcases n with n | n
      · exact h.noL (fun a ha => .inr (r2.ownL a ha)) _ _ n
      · have z := n.1 (.ok (.list []) (0, 0, 0))
        cases z
    · exact q.elim
end
/-! ### a def that answers a new list of its own, shown at its end -/
abbrev FL := List D → Option (List D)
def spN (Z : Zx) (n : Nat) (fm : FL) : Sp := fun vs H Q _ => vs.length = n ∧ ∃ (O : Own) (ds : List D), (∀ a, O a → ∃ xs, Rd H a (.lst xs)) ∧ RDs Z.K O H ds vs ∧ match fm ds with
  | some xs => ∀ a us H', H a = none → H' a = some (.lst us) → RDs Z.K O H' xs us → Keep nobody H H' → Q (.ref a) H'
  | none => False
abbrev MN := En → Bx → Option (List D)
def PostN0 (Z : Zx) (g : Gh) (D : Ends) : Option (List PyData) → Prop
  | some xs => ∀ a us H, g.H0 a = none → H a = some (.lst us) → RDs Z.K (fun y => g.Of y ∨ g.fo = some y) H xs us → Keep (fun a => g.fo = some a) g.H0 H → D.rt (.ref a) H
  | none => False
def tSN (Z : Zx) (m : MN) : TS := fun D σ H => ∃ g ρ b α β, RE Z.K g H ρ b σ α β ∧ PostN0 Z g D (m ρ b)
def SBN (X : Cx) (sts : List Stmt) (m : MN) : Prop := PSs X sts (tSN (Cx.z X) m)
def seqN (m : MS) (n : MN) : MN := fun ρ b => match m ρ b with
  | .nx ρ' b' => n ρ' b'
  | _ => none
def retNewM (ms : ME (List D)) : MN := fun ρ b => match ms ρ b with
  | .ok xs _ => if xs.length ≤ sizeLine then some xs else none
  | _ => none
section
variable {X : Cx} {W : WX} {st : Stmt} {rest : List Stmt} {es : List Expr} {ms : ME (List D)} {m : MS} {n : MN} {pos p : Pos}
theorem sbn_cons (h1 : SS X W st m) (h2 : SBN X rest n) : SBN X (st :: rest) (seqN m n) := PSs.imp (pss_cons h1 h2) fun D σ H ⟨g, ρ, b, α, β, r, q⟩ => by
  refine ⟨g, ρ, b, α, β, r, ?_⟩
  unfold seqN at q
  cases e : m ρ b with
  | nx ρ' b' => rw [e] at q; exact fun σ H α β r => ⟨g, ρ', b', α, β, r, q⟩
  | rt _ _ => rw [e] at q; exact q.elim
  | bk _ _ => rw [e] at q; exact q.elim
  | ct _ _ => rw [e] at q; exact q.elim
  | ex _ _ _ => rw [e] at q; exact q.elim
  | bad => rw [e] at q; exact q.elim
theorem sbn_ret (h : SA X W es ms) : SBN X [.Return (some (.List es p)) pos] (retNewM ms) := PSs.imp (pss_one (ps_ret (pe_lst h))) fun D σ H ⟨g, ρ, b, α, β, r, q⟩ => by
  refine ⟨g, ρ, b, α, β, r, ?_⟩
  unfold retNewM at q
  cases e : ms ρ b with
  | ok xs b' =>
    rw [e] at q
    simp only at q
    split at q
    · rename_i hz
      intro vs H1 l kk qq
      have r1 := r.step kk qq
      refine ⟨by rw [← l.length]; exact hz, fun a hn => ?_⟩
      have k2 : Keep nobody H1 (upd H1 a (.lst vs)) := Keep.upd hn
      have r2 := r1.step k2.of0 (qq.keep0 k2)
      refine q a vs _ (free_back0 r1 hn) upd_same ((l.keep k2.of0).own fun y u _ z => ?_) r2.evo
      rcases z with z | z
      · exact .inl z
      · exact .inr (.inl (r2.foB z))
    · exact q.elim
  | ex _ _ => rw [e] at q; exact q.elim
  | bad => rw [e] at q; exact q.elim
end
def fnNM (n : Nat) (body : MN) : FL := fun ds => body (ds.map .v ++ List.replicate (n - ds.length) .no) .no
section
variable {P : Program} {w : World} {K : PySem.W.Frag} {mg : Str → Option Value} {base : Heap}
theorem fn_simN {x qual : Str} {st : Stmt} {f : Addr} {fd : FuncData} {N ps : List Str} {k : Nat} {m : MN} (F : Fun K x qual st f fd) (S : FnScope N ps (defScope st))
    (hb : ∀ (cdv : Value) (A : Around) (outer : List Env) (s : Shared) (H : Hp) (E : XK), Room k (A.deeper (envOfC qual (defScope st) s.heap.objs.size f cdv)) → SBN (cxOf (L2.CX P w) P w K mg base N qual (defScope st) f cdv A outer s H E) (defBody st) m) :
    FnOk P w K mg base (L2.CX P w) (k + 1) f fd ps (spN ⟨K, mg⟩ ps.length (fnNM N.length m)) := by
  refine F.okX S (fun vs H Q E h => h.1) (fun cdv A outer s H vs Q E hr h => ⟨_, hb cdv A outer s H E hr, ?_⟩)
  obtain ⟨hl, O, ds, hO, r, h⟩ := h
  refine ⟨⟨H, O, none, fun _ => 0⟩, _, .no, fun _ => 0, none, start_re (N := N) hO r, ?_⟩
  unfold fnNM at h
  cases e : m (List.map Sl.v ds ++ List.replicate (N.length - ds.length) Sl.no) .no with
  | some xs =>
    rw [e] at h
    exact fun a us H' n ha l kk => h a us H' n ha (l.own fun _ _ _ z => .inl z) (kk.mono fun _ z => by cases z)
  | none => rw [e] at h; exact h.elim
end
/-! ### box = f(..), a new box -/
def dropBx (ρ : En) : En := ρ.map fun s => match s with
  | .bx => .no
  | s => s
theorem dropBx_at {ρ : En} {i : Nat} {s : Sl} (h : (dropBx ρ)[i]? = some s) : ρ[i]? = some s ∨ s = .no := by
  unfold dropBx at h
  rw [List.getElem?_map] at h
  obtain ⟨u, h1, h2⟩ := Option.map_eq_some_iff.mp h
  cases u with
  | bx => exact .inr h2.symm
  | no => exact .inr h2.symm
  | v d => exact .inl (h1.trans (by rw [← h2]))
  | own d => exact .inl (h1.trans (by rw [← h2]))
  | lk d => exact .inl (h1.trans (by rw [← h2]))
theorem dropBx_bx {ρ : En} {i : Nat} : (dropBx ρ)[i]? ≠ some .bx := fun h => by
  unfold dropBx at h
  rw [List.getElem?_map] at h
  obtain ⟨u, _, h2⟩ := Option.map_eq_some_iff.mp h
  cases u <;> cases h2
def freeBx : Bx → Bool
  | .fo _ _ _ => false
  | _ => true
theorem RE.newBx {K : PySem.W.Frag} {g : Gh} {H H2 : Hp} {ρ : En} {b : Bx} {σ : L2.St} {α : Nat → Addr} {β : Option Addr} (r : RE K g H ρ b σ α β) (hb : freeBx b = true) {i : Nat} (hi : i < ρ.length) {a : Addr} {x y z : Int} (hn : H a = none) (ha : H2 a = some (BxV x y z)) (k : Keep nobody H H2) :
    RE K g H2 ((dropBx ρ).set i .bx) (.ow x y z) (σ.set i (some (.ref a))) α (some a) := by
  have hl : (dropBx ρ).length = ρ.length := by unfold dropBx; simp
  have hσ : i < σ.length := by rw [← r.len]; exact hi
  have fo0 : g.fo = none := by
    have q := r.box
    cases b with
    | no => exact q.2
    | ow x y z => obtain ⟨_, _, q, _⟩ := q; exact q
    | fo x y z => cases hb
  have back : ∀ {j : Nat} {s : Sl}, ((dropBx ρ).set i .bx)[j]? = some s → s ≠ .no → s ≠ .bx → j ≠ i ∧ ρ[j]? = some s := fun {j s} h n1 n2 => by
    by_cases hj : j = i
    · subst hj
      rw [set_at (by rw [hl]; exact hi)] at h
      exact absurd (Option.some.inj h).symm n2
    · rw [set_ne (Ne.symm hj)] at h
      rcases dropBx_at h with h | h
      · exact ⟨hj, h⟩
      · exact absurd h n1
  have own : ∀ (c : Addr) (u : HO), H c = some u → OW g ((dropBx ρ).set i .bx) α (some a) c → OW g ρ α β c := fun c u hc h => by
    rcases h with h | h | ⟨j, xs, e, h⟩
    · exact .inl h
    · cases h
      rw [hn] at hc
      cases hc
    · obtain ⟨_, e2⟩ := back e nofun nofun
      exact .inr (.inr ⟨j, xs, e2, h⟩)
  refine ⟨by simp [hl, r.len], fun c u e n => k c u (r.evo c u e n) id, r.oft, r.ofo, fun j d e => ?_, fun j xs e => ?_, fun j l xs ys e1 e2 h => ?_, fun j xs e => ?_, fun j e => ?_, ⟨a, rfl, fo0, ?_, ha⟩⟩
  · obtain ⟨hj, e⟩ := back e nofun nofun
    obtain ⟨v, e1, e2⟩ := r.val j d e
    exact ⟨v, by rw [List.getElem?_set_ne (Ne.symm hj)]; exact e1, (e2.own own).keep k.of0⟩
  · obtain ⟨hj, e⟩ := back e nofun nofun
    obtain ⟨vs, e1, e2, e3, e4, e5⟩ := r.own j xs e
    exact ⟨vs, by rw [List.getElem?_set_ne (Ne.symm hj)]; exact e1, k _ _ e2 id, (e3.own own).keep k.of0, e4, fun z => by cases z; rw [hn] at e2; cases e2⟩
  · exact r.inj j l xs ys (back e1 nofun nofun).2 (back e2 nofun nofun).2 h
  · obtain ⟨hj, e⟩ := back e nofun nofun
    obtain ⟨vs, e1, e2, e3, e4⟩ := r.lck j xs e
    exact ⟨vs, by rw [List.getElem?_set_ne (Ne.symm hj)]; exact e1, e2, e3, (e4.own own).keep k.of0⟩
  · by_cases hj : j = i
    · subst hj
      exact ⟨a, rfl, List.getElem?_set_self hσ⟩
    · rw [set_ne (Ne.symm hj)] at e
      exact absurd e dropBx_bx
  · exact free_back0 r hn
def boxNewM (i n : Nat) (fm : FL) (ms : ME (List D)) : MS := exprM ms fun ds ρ b => match fm ds with
  | some [.int x, .int y, .int z] => if i < ρ.length ∧ freeBx b = true ∧ ds.length = n then .nx ((dropBx ρ).set i .bx) (.ow x y z) else .bad
  | _ => .bad
section
variable {X : Cx} {W : WX} {e : Expr} {es : List Expr} {ms : ME (List D)} {i k : Nat} {x y : Str} {pos p p1 : Pos} {f : Addr} {fd : FuncData} {ps : List Str} {fm : FL}
theorem ss_box {pos2 : Pos} (F : FnOk X.prog X.w X.K X.mg X.base (L2.CX X.prog X.w) k f fd ps (spN (Cx.z X) ps.length fm)) (hr : Room k X.A) (hg : Gl X x) (hm : X.mg x = some (.ref f)) (hk : PySem.W.keepIn X.K (.ref f) = true) (hb : Binds X.K fd ps []) (tk : Takes X W)
    (hN : X.N.Nodup) (hi : X.N[i]? = some y) (hx : Loc X.env.scope y) (ha : SA X W (e :: es) ms) (hdb : (x == ("__debug__" : Str)) = false := by decide) (he : starEach (e :: es) X.env = (false, eval e X.env) :: starEach es X.env := by rfl)
    (hpl : (backTo pos (starEach es X.env)).any (·.1) = false := by rfl) (hs : swapsWith (.Call (.Name x p) (e :: es) [] pos) (some (.Name y p1)) pos2.line X.env = pure false := by rfl)
    (hf : X.fn y = true ∨ X.env.scope.names.lookup y = some .local := by first | exact .inl rfl | exact .inr rfl | assumption) :
    SS X W (.Assign [.Name y p1] (.Call (.Name x p) (e :: es) [] pos) pos2) (boxNewM i ps.length fm ms) :=
  PS.imp (ps_set hN hi hx (pe_callS F hr hg hm hk hb (fun σ => passAt tk σ) ha hdb he hpl) hs hf) fun D σ H h => by
    refine expr_read (L := lDs X.K) h fun g ρ b α β ds vs H1 r kk l q => ?_
    cases ef : fm ds with
    | none => rw [ef] at q; exact q.elim
    | some xs =>
      rw [ef] at q
      split at q
      · rename_i a b' c exs
        cases exs
        split at q
        · rename_i hc
          refine ⟨by rw [← l.length, hc.2.2], OW g ρ α β, ds, r.ownL, l, ?_⟩
          rw [ef]
          intro p us H2 hp h2 l2 k2
          cases l2 with
          | cons l3 l2 =>
            cases l2 with
            | cons l4 l2 =>
              cases l2 with
              | cons l5 l2 =>
                cases l2
                cases l3
                cases l4
                cases l5
                exact q _ H2 α (some p) (r.newBx hc.2.1 hc.1 hp h2 k2)
        · exact q.elim
      · exact q.elim
end
end Fs

/-! H1: the head's facts: defs, names, and the package's errors. -/
namespace Fs
open He PySem.W L2 PyProof.Rows PySem.Spec PySem
/-- an error class: its name, the text of its __init__, the field that it keeps -/
structure ErD where
  x : Str
  qual : Str
  st : Stmt
  fld : Option Str
def ErD.C (K : Frag) (d : ErD) : Addr := ga K d.x
def ErD.fI (K : Frag) (d : ErD) : Addr := ma K (ga K d.x) "__init__"
abbrev EV : Type := Option (Str × Str × Arguments × FuncBody × Scope × Addr × List Str × Value × Addr)
def erObs (K : Frag) (d : ErD) : EV := match K.lookup (d.fI K) with
  | some ⟨_, _, .func fd, _⟩ => some (fd.name, fd.qualname, fd.params, fd.body, fd.scope, fd.globals, fd.closure.map (·.1), fd.defaults, fd.builtins)
  | _ => none
def ErD.val (d : ErD) : EV := some ("__init__", d.qual, defArgs d.st, .stmts (defBody d.st), defScope d.st, mainGlobals, ["__class__"], .none, builtinsNs)
def codeB (file : Str) (K : Frag) (C fI : Addr) (q : Str) : Bool := match K.lookup fI with
  | some ⟨_, _, .func fd, _⟩ => (match fd.code, fd.closure with
    | .ref cda, [(_, cc)] => codeIn K (.ref cda) q && (match K.lookup cda, K.lookup cc with
      | some ⟨_, _, .fields vs, _⟩, some ⟨_, _, .cell (some (.ref D)), _⟩ => decide (D = C) && (match (vs[2]? : Option Value) with
        | some (Value.str f _) => decide (f = file)
        | _ => false)
      | _, _ => false)
    | _, _ => false)
  | _ => false
def fldB (K : Frag) (C : Addr) (a : Str) : Bool := eqO (findIn K (.ref C) "__setattr__") (some (some (.builtin "object.__setattr__"))) && (eqO (findIn K (.ref C) "__getattribute__") (some (some (.builtin "BaseException.__getattribute__"))) &&
  (eqO (findIn K (.ref C) "__getattr__") (some none) && (eqO (findIn K (.ref C) a) (some none) && (excOver K C excBm && hasDictIn K C))))
def erB (file : Str) (K : Frag) (d : ErD) : Bool := eqO (nsIn K mainGlobals d.x) (some (some (.ref (d.C K)))) && (excInitIn K (d.C K) excBm "Exception.__new__" && (eqO (findIn K (.ref (d.C K)) "__init__") (some (some (.ref (d.fI K)))) &&
  (decide (mroIn K (d.C K) (.ref (d.C K)) = some true) && (eqO (ks_superIn K (d.C K) (d.C K) "__init__") (some (some (.builtin "Exception.__init__"))) && (decide (subIn K (.ref (d.C K)) (.type "Exception") = some true) &&
  (decide (subIn K (.ref (d.C K)) (.type "BaseException") = some true) && (decide (typeIn K (.ref (d.C K)) = some (.type "type")) && (keepIn K (.ref (d.C K)) && (decide (typeIn K (.ref (d.fI K)) = some (.type "function")) &&
  (codeB file K (d.C K) (d.fI K) d.qual && (match d.fld with
    | some a => fldB K (d.C K) a
    | none => true)))))))))))
theorem codeB_ok {file : Str} {K : Frag} {d : ErD} (h : codeB file K (d.C K) (d.fI K) d.qual = true) (e : erObs K d = d.val) :
    ∃ (oc : Value) (od : Option Addr) (kV doc pm : Value) (an : Option Addr) (cda : Addr) (ct : Value) (osl : Array (Option Value)) (cc : Addr) (ccl : Value) (cdd : Option Addr) (vs : Array Value) (ccs : Array (Option Value)) (tf : Tok) (cl : Value) (cld : Option Addr) (csl : Array (Option Value)),
      K.lookup (d.fI K) = some ⟨oc, od, .func (fnX "__init__" d.qual (defArgs d.st) (defBody d.st) (defScope d.st) [("__class__", cc)] .none kV doc pm an (.ref cda) ct), osl⟩ ∧ codeIn K (.ref cda) d.qual = true ∧
        K.lookup cda = some ⟨ccl, cdd, .fields vs, ccs⟩ ∧ vs[2]? = some (.str file tf) ∧ K.lookup cc = some ⟨cl, cld, .cell (some (.ref (d.C K))), csl⟩ := by
  unfold codeB at h
  unfold erObs at e
  split at h
  · rename_i oc od fd osl q
    rw [q] at e
    split at h
    · rename_i cda nm cc hc hcl
      obtain ⟨h1, h2⟩ := ba h
      split at h2
      · rename_i ccl cdd vs ccs cl cld D csl hv hcell
        obtain ⟨h3, h4⟩ := ba h2
        split at h4
        · rename_i f tf hvs
          have ef := of_decide_eq_true h4
          have eD := of_decide_eq_true h3
          subst ef eD
          rcases fd with ⟨n1, n2, n3, n4, n5, n6, n7, n8, n9, n10, n11, n12, n13, n14, n15⟩
          have e2 : (some (n1, n2, n3, n4, n5, n6, n7.map (·.1), n8, n15) : EV) = some (("__init__" : Str), d.qual, defArgs d.st, FuncBody.stmts (defBody d.st), defScope d.st, mainGlobals, [("__class__" : Str)], Value.none, builtinsNs) := e
          rw [Option.some.injEq] at e2
          simp only [Prod.mk.injEq] at e2
          obtain ⟨r1, r2, r3, r4, r5, r6, r7, r8, r9⟩ := e2
          have hcl : n7 = [(nm, cc)] := hcl
          have hc : n13 = .ref cda := hc
          subst hcl hc
          have rn : nm = "__class__" := by simpa using r7
          subst rn r1 r2 r3 r4 r5 r6 r8 r9
          exact ⟨oc, od, n9, n10, n11, n12, cda, n14, osl, cc, ccl, cdd, vs, ccs, tf, cl, cld, csl, q, h1, hv, hvs, hcell⟩
        · cases h4
      · cases h2
    · cases h
  · cases h
/-- its text keeps one thing, as a -/
def Txt1 (d : ErD) (a : Str) : Prop := ∃ (msg : Str) (a1 a2 p0 p1 p2 p3 p4 p5 q1 q2 q3 q4 : Pos), defArgs d.st = eA1 a a1 a2 ∧ defBody d.st = eB1 a msg p0 p1 p2 p3 p4 p5 q1 q2 q3 q4 ∧ defScope d.st = eS1 a ∧ (p2.endLine == p4.line) = true
def Txt0 (d : ErD) : Prop := ∃ (msg : Str) (a1 p0 p1 p2 p3 p4 p5 : Pos), defArgs d.st = eA0 a1 ∧ defBody d.st = eB0 msg p0 p1 p2 p3 p4 p5 ∧ defScope d.st = eS0 ∧ (p2.endLine == p4.line) = true
/-- what a name of a field must be -/
structure FldOk (a : Str) : Prop where
  ne : a ≠ "self"
  nc : a ≠ "__class__"
  ns : a ≠ "super"
  nd : (a == ("__debug__" : Str)) = false
  bnd : ∀ (qual : Str) (a1 a2 : Pos) (b : List Stmt) (cl : List (Str × Addr)) (kV doc pm : Value) (an : Option Addr) (cd ct u v : Value), bindArgs (fnX "__init__" qual (eA1 a a1 a2) b (eS1 a) cl .none kV doc pm an cd ct) ⟨[u, v], []⟩ = pure [(("self" : Str), u), (a, v)]
theorem fld_at : FldOk "at" := ⟨by decide, by decide, by decide, by decide, fun _ _ _ _ _ _ _ _ _ _ _ _ _ => rfl⟩
theorem fld_word : FldOk "word" := ⟨by decide, by decide, by decide, by decide, fun _ _ _ _ _ _ _ _ _ _ _ _ _ => rfl⟩
section
variable {K : Frag} {h : Heap} {mg : Str → Option Value} {prog : Program} {d : ErD} {a : Str}
theorem erB_ok (X : K.In h) (G : h.Ns mainGlobals mg) (b : erB prog.main.file K d = true) (opq : nsIn K cStatics "thirdparty.any" = some none) (gsu : mg "super" = none) (top : (prog.main.scope.names.lookup ("super" : Str)).isSome = false) : ErB K mg prog d.x (d.C K) (d.fI K) := by
  obtain ⟨b1, b⟩ := ba b
  obtain ⟨b2, b⟩ := ba b
  obtain ⟨b3, b⟩ := ba b
  obtain ⟨b4, b⟩ := ba b
  obtain ⟨b5, b⟩ := ba b
  obtain ⟨b6, b⟩ := ba b
  obtain ⟨b7, b⟩ := ba b
  obtain ⟨b8, b⟩ := ba b
  obtain ⟨b9, b⟩ := ba b
  obtain ⟨b10, _⟩ := ba b
  exact ⟨mg_of X G (eqO_ok b1), b2, eqO_ok b3, of_decide_eq_true b4, eqO_ok b5, of_decide_eq_true b6, opq, gsu, of_decide_eq_true b7, of_decide_eq_true b8, b9, of_decide_eq_true b10, top⟩
theorem erB_code (b : erB prog.main.file K d = true) : codeB prog.main.file K (d.C K) (d.fI K) d.qual = true ∧ (match d.fld with
    | some a => fldB K (d.C K) a
    | none => true) = true := by
  obtain ⟨_, b⟩ := ba b
  obtain ⟨_, b⟩ := ba b
  obtain ⟨_, b⟩ := ba b
  obtain ⟨_, b⟩ := ba b
  obtain ⟨_, b⟩ := ba b
  obtain ⟨_, b⟩ := ba b
  obtain ⟨_, b⟩ := ba b
  obtain ⟨_, b⟩ := ba b
  obtain ⟨_, b⟩ := ba b
  obtain ⟨_, b⟩ := ba b
  exact ba b
theorem er1_ok (X : K.In h) (G : h.Ns mainGlobals mg) (b : erB prog.main.file K d = true) (e : erObs K d = d.val) (ht : Txt1 d a) (hf : d.fld = some a) (fo : FldOk a) (opq : nsIn K cStatics "thirdparty.any" = some none) (gsu : mg "super" = none)
    (top : (prog.main.scope.names.lookup ("super" : Str)).isSome = false) : Er1 K mg prog d.x a (d.C K) (d.fI K) := by
  have B := erB_ok X G b opq gsu top
  obtain ⟨c1, c2⟩ := erB_code b
  rw [hf] at c2
  obtain ⟨f1, c2⟩ := ba (show fldB K (d.C K) a = true from c2)
  obtain ⟨f2, c2⟩ := ba c2
  obtain ⟨f3, c2⟩ := ba c2
  obtain ⟨f4, c2⟩ := ba c2
  obtain ⟨f5, f6⟩ := ba c2
  obtain ⟨oc, od, kV, doc, pm, an, cda, ct, osl, cc, ccl, cdd, vs, ccs, tf, cl, cld, csl, g1, g2, g3, g4, g5⟩ := codeB_ok c1 e
  obtain ⟨msg, a1, a2, p0, p1, p2, p3, p4, p5, q1, q2, q3, q4, t1, t2, t3, t4⟩ := ht
  rw [t1, t2, t3] at g1
  exact { toErB := B, fn := ⟨oc, od, kV, doc, pm, an, cda, ct, osl, cc, ccl, cdd, vs, ccs, tf, cl, cld, csl, d.qual, msg, a1, a2, p0, p1, p2, p3, p4, p5, q1, q2, q3, q4, g1, g2, t4, g3, g4, g5⟩,
          sa := eqO_ok f1, ga := eqO_ok f2, gg := eqO_ok f3, noN := eqO_ok f4, ovr := f5, dct := f6, ne := fo.ne, nc := fo.nc, ns := fo.ns, nd := fo.nd, bnd := fo.bnd }
theorem er0_ok (X : K.In h) (G : h.Ns mainGlobals mg) (b : erB prog.main.file K d = true) (e : erObs K d = d.val) (ht : Txt0 d) (opq : nsIn K cStatics "thirdparty.any" = some none) (gsu : mg "super" = none)
    (top : (prog.main.scope.names.lookup ("super" : Str)).isSome = false) : Er0 K mg prog d.x (d.C K) (d.fI K) := by
  have B := erB_ok X G b opq gsu top
  obtain ⟨c1, _⟩ := erB_code b
  obtain ⟨oc, od, kV, doc, pm, an, cda, ct, osl, cc, ccl, cdd, vs, ccs, tf, cl, cld, csl, g1, g2, g3, g4, g5⟩ := codeB_ok c1 e
  obtain ⟨msg, a1, p0, p1, p2, p3, p4, p5, t1, t2, t3, t4⟩ := ht
  rw [t1, t2, t3] at g1
  exact { toErB := B, fn := ⟨oc, od, kV, doc, pm, an, cda, ct, osl, cc, ccl, cdd, vs, ccs, tf, cl, cld, csl, d.qual, msg, a1, p0, p1, p2, p3, p4, p5, g1, g2, t4, g3, g4, g5⟩ }
end
/-! ### the Hook -/
def asX (g : Addr → Option Obj) : Nat → List Addr
  | 0 => [mainGlobals, cStatics]
  | n + 1 => growD g (asX g n)
/-- which errors are caught by which clause: one's own, the base's -/
def exmAll (base : Str) (K : Frag) (xs : List Str) : Bool := xs.all fun x => (base :: xs).all fun y => decide (exmOne K (.ref (ga K x)) (.ref (ga K y)) = some (x == y || y == base))
/-- no list is written -/
def noLst (K : Frag) : Bool := K.all fun p => match p.2.cls with
  | .type c => !(c == "list")
  | _ => true
theorem noLst_ok {K : Frag} (h : noLst K = true) {a : Addr} {o : Obj} (e : K.lookup a = some o) : o.cls ≠ .type "list" := fun z => by
  have m : (a, o) ∈ K := by
    clear h
    induction K with
    | nil => cases e
    | cons p r ih =>
      obtain ⟨b, u⟩ := p
      rw [List.lookup_cons] at e
      split at e
      · rename_i q
        cases e
        rw [beq_iff_eq.mp q]
        exact .head _
      · exact .tail _ (ih e)
  have q := List.all_eq_true.mp h _ m
  simp only [z] at q
  cases q
abbrev AlX : Type := AlD × List EV × Bool
structure Hd where
  fa : List Fa
  fn : List DefD
  er : List ErD
  base : Str
  file : Str
def Hd.obs (D : Hd) (K : Frag) : AlX := (obsD D.fa D.fn K, D.er.map (erObs K), (D.er.all fun d => erB D.file K d) && (eqO (nsIn K cStatics "thirdparty.any") (some none) && (eqO (nsIn K mainGlobals "super") (some none) && (eqO (nsIn K mainGlobals D.base) (some (some (.ref (ga K D.base)))) && (exmAll D.base K (D.er.map (·.x)) && noLst K)))))
def Hd.val (D : Hd) : AlX := (valD D.fn, D.er.map ErD.val, true)
def Hd.says (D : Hd) (K : Frag) : Prop := D.obs K = D.val
def Hd.obsG (D : Hd) (n : Nat) (g : Addr → Option Obj) : AlX := D.obs (frG g (asX g n))
def Hd.hook (D : Hd) (n : Nat) : Hook where
  α := AlX
  obs := fun s => D.obsG n s.heap.get?
  val := fun _ => D.val
  says := fun _ h => ∃ K : Frag, K.In h ∧ D.says K
  of := fun _ h eq => ⟨frG h.heap.get? (asX h.heap.get? n), frG_in, eq⟩
  keeps := fun _ _ _ ⟨K, inK, said⟩ kept => ⟨K, PySem.W.Frag.In.keeps inK kept, said⟩
theorem Hd.obsG_eq {D : Hd} {n : Nat} {g : Addr → Option Obj} {s : Shared} (h : ∀ a, g a = s.heap.get? a) : D.obsG n g = (D.hook n).obs s := by
  have same : g = s.heap.get? := funext h
  rw [same] <;> rfl
section
variable {D : Hd} {K : Frag} {h : Heap} {mg : Str → Option Value} {prog : Program}
theorem Hd.says.d (c : D.says K) : SaysD D.fa D.fn K := congrArg (fun z : AlX => z.1) c
theorem Hd.says.e (c : D.says K) : D.er.map (erObs K) = D.er.map ErD.val := congrArg (fun z : AlX => z.2.1) c
theorem Hd.says.b (c : D.says K) : ((D.er.all fun d => erB D.file K d) && (eqO (nsIn K cStatics "thirdparty.any") (some none) && (eqO (nsIn K mainGlobals "super") (some none) && (eqO (nsIn K mainGlobals D.base) (some (some (.ref (ga K D.base)))) && (exmAll D.base K (D.er.map (·.x)) && noLst K))))) = true := congrArg (fun z : AlX => z.2.2) c
theorem Hd.says.opq (c : D.says K) : nsIn K cStatics "thirdparty.any" = some none := eqO_ok (ba (ba c.b).2).1
theorem Hd.says.gsu (c : D.says K) (X : K.In h) (G : h.Ns mainGlobals mg) : mg "super" = none := mg_none_of X G (eqO_ok (ba (ba (ba c.b).2).2).1)
theorem Hd.says.gba (c : D.says K) (X : K.In h) (G : h.Ns mainGlobals mg) : mg D.base = some (.ref (ga K D.base)) := mg_of X G (eqO_ok (ba (ba (ba (ba c.b).2).2).2).1)
theorem Hd.says.at (c : D.says K) (i : Nat) {d : ErD} (hi : D.er[i]? = some d) : erB D.file K d = true ∧ erObs K d = d.val := by
  refine ⟨List.all_eq_true.mp (ba c.b).1 d (List.mem_of_getElem? hi), ?_⟩
  have e2 : (D.er.map (erObs K))[i]? = (D.er.map ErD.val)[i]? := by rw [c.e]
  rw [List.getElem?_map, List.getElem?_map, hi] at e2
  exact Option.some.inj e2
theorem Hd.says.er1 (c : D.says K) (X : K.In h) (G : h.Ns mainGlobals mg) (i : Nat) {d : ErD} {a : Str} (hi : D.er[i]? = some d) (hfile : D.file = prog.main.file) (ht : Txt1 d a) (hf : d.fld = some a) (fo : FldOk a) (top : (prog.main.scope.names.lookup ("super" : Str)).isSome = false) :
    Er1 K mg prog d.x a (d.C K) (d.fI K) := er1_ok X G (by rw [← hfile]; exact (c.at i hi).1) (c.at i hi).2 ht hf fo c.opq (c.gsu X G) top
theorem Hd.says.er0 (c : D.says K) (X : K.In h) (G : h.Ns mainGlobals mg) (i : Nat) {d : ErD} (hi : D.er[i]? = some d) (hfile : D.file = prog.main.file) (ht : Txt0 d) (top : (prog.main.scope.names.lookup ("super" : Str)).isSome = false) :
    Er0 K mg prog d.x (d.C K) (d.fI K) := er0_ok X G (by rw [← hfile]; exact (c.at i hi).1) (c.at i hi).2 ht c.opq (c.gsu X G) top
/-- an error by its class's name, asked by a clause -/
theorem Hd.says.exm (c : D.says K) {x y : Str} (hx : x ∈ D.er.map (·.x)) (hy : y ∈ D.base :: D.er.map (·.x)) : exmOne K (.ref (ga K x)) (.ref (ga K y)) = some (x == y || y == D.base) :=
  of_decide_eq_true (List.all_eq_true.mp (List.all_eq_true.mp (ba (ba (ba (ba (ba c.b).2).2).2).2).1 x hx) y hy)
theorem Hd.says.nol (c : D.says K) : noLst K = true := (ba (ba (ba (ba (ba c.b).2).2).2).2).2
/-- .. as HOk1 asks it -/
def kcD (base : Str) (xs : List Str) (y : Str) : Str → Option Bool := fun x => if x ∈ xs then some (x == y || y == base) else none
theorem Hd.says.kc (c : D.says K) (X : K.In h) (G : h.Ns mainGlobals mg) {y : Str} (hy : y ∈ D.base :: D.er.map (·.x)) : ∀ (x : Str) (b : Bool) (C : Addr), kcD D.base (D.er.map (·.x)) y x = some b → mg x = some (.ref C) → exmOne K (.ref C) (.ref (ga K y)) = some b := fun x b C e m => by
  unfold kcD at e
  split at e
  · rename_i hx
    cases e
    obtain ⟨d, hd, rfl⟩ := List.mem_map.mp hx
    have g := mg_of X G (eqO_ok (ba (List.all_eq_true.mp (ba c.b).1 d hd)).1)
    rw [g] at m
    cases m
    exact c.exm hx hy
  · cases e
end
/-! ### the law's end -/
theorem sql_rd {K : Frag} (n : noLst K = true) {H : Hp} {a : Addr} {xs : List V} (h : SqL K H a xs) : Rd H a (.lst xs) := by
  rcases h with h | ⟨o, _, _, e, c, _⟩
  · exact h
  · exact absurd c (noLst_ok n e)
theorem rds_ints {K : Frag} {O : Own} {H : Hp} : ∀ ns : List Int, RDs K O H (ns.map PyData.int) (ns.map V.int)
  | [] => .nil
  | n :: ns => .cons (.int n) (rds_ints ns)
/-- the law's function answers True to each list of ints -/
def LawOk (m : Nat) (fm : FN) : Prop := ∀ ns : List Int, ns.length ≤ m → fm [.list (ns.map .int)] = .ok (.bool true)
theorem walk_ofX {l : PySem.W.OpenLaw} {n k : Nat} {q : Program} {loose : List Str} {XP : (Str → Option Value) → Heap → Prop} {YP : World → Heap → Prop} {d : DefRec} {x : Str} {fm : FN} (hn : l.most = some n) (hn2 : n ≤ sizeLine) (hdf : d.params.defaults = []) (hr : Room k callerA) (hl : LawOk n fm)
    (told : ∀ (w : World) (mg : Str → Option Value) (at_ : Addr) (h : Heap), YP w h → h.Ns mainGlobals mg → mg d.name = some (.ref at_) →
      ∃ (K : PySem.W.Frag) (fd : FuncData), K.In h ∧ noLst K = true ∧ (∀ (s : Shared) (u : Value), BindsTo s fd ⟨[u], []⟩ [(x, u)]) ∧ ∀ base : Heap, K.In base → base.Ns mainGlobals mg → FnOk l.prog w K mg base (L2.CX l.prog w) k at_ fd [x] (spF ⟨K, mg⟩ 1 fm)) :
    PySem.W.WalkO q loose XP YP l.row.toRowW d [] fun f vs => PySem.call f vs := by
  refine Att.attach_call hn hdf fun w _ s₁ mg mb at_ o pm cd doc a vs ns G said ho hd hcd named hobj hints hlen hg => ?_
  obtain ⟨K, fd, KX, nl, hb, hF⟩ := told w mg at_ _ said G.T.g named
  refine law_call KX G.T.g G.T.b G.T.builtins G.T.nolimit hg hobj hints (Nat.le_trans hlen hn2) hr hF hb (fun H hO hS => ?_) fun H e s' z => ?_
  · refine ⟨rfl, fun _ => False, [.list (ns.map .int)], fun _ z => z.elim, .cons (.lst ⟨sql_rd nl hS, id⟩ (rds_ints ns)) .nil, ?_⟩
    rw [hl ns hlen]
    intro v H' r _
    cases r
    rfl
  · obtain ⟨_, _, _, _, _, _, _, _, _, _, _, _, z⟩ := z
    exact z
end Fs

/-! G1: what the printed derivations lean on. -/
namespace Fs
open He PySem.W L2 PyProof.Rows PySem.Spec PySem
theorem u64 {k : Nat} {A : Around} (h : Room k A) : A.units + 64 < cLine := by
  have := h.un
  omega
theorem u65 {k : Nat} {A : Around} (h : Room k A) : A.units + 65 < cLine := by
  have := h.un
  omega
/-! ### defs by the Hook -/
def mkD (x : Str) (st : Stmt) : DefD := ⟨(x, none), x, x, defArgs st, defBody st, defScope st, [], []⟩
def fdAt (K : Frag) (a : Addr) : FuncData := match K.lookup a with
  | some ⟨_, _, .func fd, _⟩ => fd
  | _ => default
theorem fdAt_eq {K : Frag} {a : Addr} {oc : Value} {od : Option Addr} {fd : FuncData} {osl : Array (Option Value)} (h : K.lookup a = some ⟨oc, od, .func fd, osl⟩) : fdAt K a = fd := by
  unfold fdAt
  rw [h]
/-- a def of the module under its name -/
structure DefF (K : Frag) (mg : Str → Option Value) (x : Str) (st : Stmt) : Prop where
  g : mg x = some (.ref (ga K x))
  f : Fun K x x st (ga K x) (fdAt K (ga K x))
theorem fun_of {K : Frag} {x : Str} {st : Stmt} {f : Addr} {fd : FuncData} (F : FunD K x x (defArgs st) (defBody st) (defScope st) [] [] f fd) : Fun K x x st f (fdAt K f) := by
  obtain ⟨⟨oc, od, dV, kV, doc, pm, an, cdv, ct, osl, h1, h2, h3, h4, h5⟩, kp⟩ := F
  have hd : dV = .none := by
    rcases h4 with h4 | h4
    · exact h4.2
    · exact absurd rfl h4.1
  subst hd
  rw [fdAt_eq h2]
  exact ⟨⟨oc, od, kV, doc, pm, an, cdv, ct, osl, h1, h2, h3⟩, kp⟩
section
variable {D : Hd} {K : Frag} {h : Heap} {mg : Str → Option Value}
theorem Hd.says.def_ (c : D.says K) (X : K.In h) (G : h.Ns mainGlobals mg) (i j : Nat) {x : Str} {st : Stmt} (hi : D.fn[i]? = some (mkD x st)) (hj : D.fa[j]? = some (.glo x)) : DefF K mg x st := by
  obtain ⟨fd, F⟩ := c.d.def_ i hi
  exact ⟨glo_ok X G (c.d.fact j hj), fun_of F⟩
theorem Hd.says.fr (c : D.says K) (X : K.In h) (G : h.Ns mainGlobals mg) (j : Nat) {x : Str} (hj : D.fa[j]? = some (.free x)) : mg x = none := free_ok X G (c.d.fact j hj)
end
/-! ### names of the language -/
theorem bt_len : bootBuiltins "len" = some (.builtin "len") := by kernel_rfl
theorem bt_abs : bootBuiltins "abs" = some (.builtin "abs") := by kernel_rfl
theorem bt_int : bootBuiltins "int" = some (.type "int") := by kernel_rfl
theorem bt_tuple : bootBuiltins "tuple" = some (.type "tuple") := by kernel_rfl
theorem bt_list : bootBuiltins "list" = some (.type "list") := by kernel_rfl
/-! ### further expressions -/
section
variable {X : Cx} {W : WX} {e : Expr} {ma : ME D} {pos : Pos}
def negF : D → Option D
  | .int i => some (.int (-i))
  | _ => none
def negM (ma : ME D) : ME D := bindM ma fun d => liftO (negF d)
theorem se_neg (h : SW X W e ma) : SE X W (.UnaryOp .USub e pos) (negM ma) := PE.imp (pe_un un_neg h) fun σ H Q q => by
  refine tR_bind q fun g ρ b α β d x H1 r l p => ?_
  obtain ⟨z, ez, q⟩ := post_lift p
  unfold negF at ez
  split at ez
  · cases ez
    rw [l.int]
    exact ⟨_, rfl, q _ H1 (.int _) (Keep.refl _ _) r.box⟩
  · cases ez
/-- a number of the module -/
theorem se_gint {x : Str} {i : Int} (hg : Gl X x) (hm : ∃ t, X.mg x = some (.int i t)) (hd : (x == ("__debug__" : Str)) = false := by decide) : SE X W (.Name x pos) (cM (.int i)) := by
  obtain ⟨t, hm⟩ := hm
  exact PE.imp (pe_glob (v := .int i) hg hm ⟨t, rfl⟩ hd) fun σ H Q ⟨g, ρ, b, α, β, r, p⟩ => p _ H (.int i) (Keep.refl _ _) r.box
end
end Fs

/-! E5: an error made by keyword, and what it keeps read at once. -/
namespace Fs
open L2 PySem.Calls PySem.W PyProof.Rows PySem.Spec PySem
section
variable {prog : Program} {w : World} {M : Model} {A : Around} {R : Result → Shared → Prop} {E : Value → Shared → Prop} {hp : Heap} {g : Array GenState} {d : Drawn} {t : Nat} {os : OsState}
variable {nm q : Str} {C N : Addr} {bs bm : List Value} {hdct : Bool} {sn : List Str} {sub : List Value} {ab : Bool} {col : Option Bool} {dd : Option Addr} {k0 k1 k2 k3 k5 : Option Value} {kw : List (Str × Value)}
abbrev ClsAt (hp : Heap) (nm q : Str) (C N : Addr) (bs bm : List Value) (hdct : Bool) (sn : List Str) (sub : List Value) (ab : Bool) (col : Option Bool) (dd : Option Addr) (k0 k1 k2 k3 k5 : Option Value) : Prop :=
  hp.get? C = some (excClassObj nm q C N bs bm hdct sn sub ab col dd k0 k1 k2 k3 k5 "Exception.__new__")
theorem kw_check (hT : ∀ X : String, bm.contains (.type X) = excBm.contains (.type X)) {Q : Unit → Shared → Prop} (hC : ClsAt hp nm q C N bs bm hdct sn sub ab col dd k0 k1 k2 k3 k5) (hq : Q () ⟨hp, g, d, t, os⟩) :
    wpAny M A (checkBuiltinCall "Exception.__new__" ⟨[.ref C], kw⟩) Q E ⟨hp, g, d, t, os⟩ := by
  have FB := F.excBase_Exception
  have has : (Value.ref C :: bm).contains (.type "Exception") = true := by
    rw [List.contains_cons, hT, FB.hasB, Bool.or_true]
  have hs := FB.noStar
  simp only [checkBuiltinCall, FB.newKind, FB.newSplit, FB.newRow]
  repeat' first
    | refine wpAny_loadPart_at hC ?_
    | (refine wpAny_isSubtype_exc hC ?_
       rw [has])
    | refine wpAny_staticBase_exc hC ?_
    | refine wpAny_madeBy_exc hC ?_
    | simp only [bne_self_eq_false, Bool.false_eq_true, if_false]
    | wp_step
  all_goals first | exact hq | skip
abbrev kwH (hp : Heap) (C : Addr) : Heap := (hp.push (kdv_tup [])).push (HandSPX.excO C hp.objs.size)
theorem kw_new (hT : ∀ X : String, bm.contains (.type X) = excBm.contains (.type X)) (hC : ClsAt hp nm q C N bs bm hdct sn sub ab col dd k0 k1 k2 k3 k5)
    (hq : R (.ok (.ret (.ref (hp.objs.size + 1)))) ⟨kwH hp C, g, d, t, os⟩) : codeAny (model prog w) A (.builtin "Exception.__new__" ⟨[.ref C], kw⟩) R ⟨hp, g, d, t, os⟩ := by
  have FB := F.excBase_Exception
  have en := FB.ends
  have b1 : (Value.ref C :: bm).contains (.type "Exception") = true := by rw [List.contains_cons, hT, FB.hasB, Bool.or_true]
  have b2 : (Value.ref C :: bm).contains (.type "AttributeError") = false := by
    rw [List.contains_cons, hT, FB.noAttr]
    rfl
  have b3 : (Value.ref C :: bm).contains (.type "NameError") = false := by
    rw [List.contains_cons, hT, FB.noName]
    rfl
  refine codeAny_builtinAt FB.entry ?_
  unfold Builtin.«BaseException.__new__»
  refine PySem.wpAt_bind ?_
  show PySem.wpAt _ _ _ (stack >>= _) _ _ _
  refine PySem.wpAt_bind (PySem.wpAt_stack fun p below => PySem.wpAt_of_wpAny ?_)
  wp_walk
  refine PySem.wpAt_of_wpAny ?_
  rw [FB.owner]
  repeat (first | with_reducible refine wpAny_madeHere_exc FB.canon hC ?_ | with_reducible refine wpAny_loadPart_at hC ?_ | (with_reducible refine wpAny_isSubtype_exc hC ?_; first | rw [b1] | rw [b2] | rw [b3]) | wp_step)
  all_goals first | (show R _ _; rw [Heap.size_push]; exact hq) | skip
theorem kw_type (hT : ∀ X : String, bm.contains (.type X) = excBm.contains (.type X)) {fI : Addr} {Q : Fin → Shared → Prop} (hC : ClsAt hp nm q C N bs bm hdct sn sub ab col dd k0 k1 k2 k3 k5)
    (hi : Looks (model prog w) hp (typeLookup (.ref C) "__init__") (some (.ref fI))) (hb : ∀ self, Looks (model prog w) hp (bindSpecial (.ref fI) self) (.ref fI, [self]))
    (hq : codeAny (model prog w) A (.call (.ref fI) ⟨[.ref (hp.objs.size + 1)], kw⟩)
      (fun r s' => match r with | .ok (.ret v) => v = .none ∧ Q (.done (.ret (.ref (hp.objs.size + 1)))) s' | .ok _ => False | .error e => E e s') ⟨kwH hp C, g, d, t, os⟩) :
    wpAny (model prog w) A (Builtin.«type.__call__» ⟨[.ref C], kw⟩) Q E ⟨hp, g, d, t, os⟩ := by
  repeat (first | with_reducible refine wpAny_madeBy_exc hC ?_ | with_reducible refine wpAny_loadPart_at hC ?_ | wp_step)
  refine codeAny_call_builtin_code (Code.quiet_builtin _ F.excBase_Exception.quiet) (kw_check hT hC ?_)
  refine kw_new hT hC ?_
  show wpAny _ _ _ _ _ _
  have k : ∀ b o, hp.get? b = some o → (kwH hp C).get? b = some o := fun b o e => Heap.get?_push_of_some _ (Heap.get?_push_of_some _ e)
  have hget : (kwH hp C).get? (hp.objs.size + 1) = some (HandSPX.excO C hp.objs.size) := by heap_get
  have own : (Value.ref C :: bm).contains (.ref C) = true := by simp
  have b1 := (hb (.ref (hp.objs.size + 1))).keeps k
  unfold isInstance
  repeat (first | with_reducible refine wpAny_loadPart_at hget ?_ | (with_reducible refine wpAny_isSubtype_exc (k _ _ hC) ?_; rw [own]) | wp_step)
  refine (hi.keeps k).at (wpAny_holding (wpAny_bind (b1.at (wpAny_bind (wpAny_call (codeAny_mono hq fun r s' z => ?_))))))
  rcases r with er | (u | _ | _ | _) <;> first | exact z | exact z.elim | skip
  obtain ⟨rfl, z⟩ := z
  first | exact wpAny_pure (wpAny_pure z) | (wp_walk; exact z)
theorem kw_chk {Q : Unit → Shared → Prop} (hC : ClsAt hp nm q C N bs bm hdct sn sub ab col dd k0 k1 k2 k3 k5) (hq : Q () ⟨hp, g, d, t, os⟩) : wpAny M A (checkBuiltinCall "type.__call__" ⟨[.ref C], kw⟩) Q E ⟨hp, g, d, t, os⟩ := by
  have sb := tc_sub
  have ty : (⟨hp, g, d, t, os⟩ : Shared).TypeIs (.ref C) "type" := ⟨_, hC, rfl⟩
  unfold checkBuiltinCall
  simp only [tc_split, tc_kind]
  repeat' (first | exact hq | assumption | with_reducible refine wpAny_loadPart_at hC ?_ | with_reducible refine wpAny_onRaise ?_ | with_reducible refine wpAny_map ?_ | wp_step)
theorem kw_call (hT : ∀ X : String, bm.contains (.type X) = excBm.contains (.type X)) {fI : Addr} (hC : ClsAt hp nm q C N bs bm hdct sn sub ab col dd k0 k1 k2 k3 k5)
    (hi : Looks (model prog w) hp (typeLookup (.ref C) "__init__") (some (.ref fI))) (hb : ∀ self, Looks (model prog w) hp (bindSpecial (.ref fI) self) (.ref fI, [self]))
    (hq : codeAny (model prog w) (A.under (.builtin "type.__call__" ⟨[.ref C], kw⟩)) (.call (.ref fI) ⟨[.ref (hp.objs.size + 1)], kw⟩) (InitBack (hp.objs.size + 1) R) ⟨kwH hp C, g, d, t, os⟩) :
    codeAny (model prog w) A (.call (.ref C) ⟨[], kw⟩) R ⟨hp, g, d, t, os⟩ := by
  have l1 := tc_lookup
  have l2 := tc_bind (.ref C)
  have ty : (⟨hp, g, d, t, os⟩ : Shared).TypeIs (.ref C) "type" := ⟨_, hC, rfl⟩
  refine codeAny_of_tree (show wpAny _ _ (callAny (.ref C) _) _ _ _ from ?_)
  repeat any_goals (first | with_reducible refine wpAny_loadPart_at hC ?_ | assumption | wp_step)
  refine ⟨rfl, codeAny_call_builtin_at (Code.quiet_builtin _ (by decide +kernel)) entry_typeCall (kw_chk hC (kw_type hT hC hi hb (codeAny_mono hq fun r s' z => ?_)))⟩
  rcases r with er | (u | _ | _ | _) <;> exact z
end
section
variable {prog : Program} {w : World} {A : Around} {R : Result → Shared → Prop} {hp : Heap} {g : Array GenState} {d : Drawn} {t : Nat} {os : OsState} {K : Frag} {mg mb : Str → Option Value} {C fI : Addr} {x a : Str}
/-- how __init__ binds its field by keyword -/
def KwOk (a : Str) : Prop := ∀ (u v : Value) (qual : Str) (a1 a2 : Pos) (b : List Stmt) (cl : List (Str × Addr)) (kV doc pm : Value) (an : Option Addr) (cd ct : Value), bindArgs (fnX "__init__" qual (eA1 a a1 a2) b (eS1 a) cl .none kV doc pm an cd ct) ⟨[u], [(a, v)]⟩ = pure [(("self" : Str), u), (a, v)]
theorem kw_at : KwOk "at" := fun _ _ _ _ _ _ _ _ _ _ _ _ _ => rfl
theorem kw_word : KwOk "word" := fun _ _ _ _ _ _ _ _ _ _ _ _ _ => rfl
theorem err_madeK {v : Value} (T : Er1 K mg prog x a C fI) (kk : KwOk a) (X : K.In hp) (hlim : hp.NoLimit) (hg : hp.Ns mainGlobals mg) (hb : hp.Ns builtinsNs mb) (hmb : mb "super" = some (.type "super")) (hroom : A.depth + 1 < recursionLimit)
    (hq : ∀ h' tk e d1, Mk1 hp h' e C d1 a v → R (.ok (.ret (.ref e))) ⟨h', g, d, tk, os⟩) : codeAny (model prog w) A (.call (.ref C) ⟨[], [(a, v)]⟩) R ⟨hp, g, d, t, os⟩ := by
  obtain ⟨nm, N, qn, bs, bm, hdct, sn, sub, ab, col, dd, k0, k1, k2, k3, k5, hC, hT⟩ := excInit_of X T.cls
  exact kw_call hT hC (looks_findIn X T.ini) (fun self => bind_fn X self T.tI) (err_init1 T X hlim hg hb hmb hroom (fun _ _ _ _ _ _ _ _ _ _ _ => kk _ _ _ _ _ _ _ _ _ _ _ _ _) hq)
end
section
variable {X : Cx} {W : WX} {e : Expr} {x a : Str} {C fI : Addr} {k : Nat} {p p2 pos pos2 : Pos} {ma : ME D}
/-- C(a=e).a -/
theorem se_exAt (T : Er1 X.K X.mg X.prog x a C fI) (kk : KwOk a) (hr : Room k X.A) (hg : Gl X x) (he : SE X W e ma) (hdb : (x == ("__debug__" : Str)) = false := by decide)
    (hb : attributeBase (.Call (.Name x p) [] [⟨some a, e, p2⟩] pos) a X.env (eval (.Call (.Name x p) [] [⟨some a, e, p2⟩] pos) X.env) = eval (.Call (.Name x p) [] [⟨some a, e, p2⟩] pos) X.env := by rfl) :
    SE X W (.Attribute (.Call (.Name x p) [] [⟨some a, e, p2⟩] pos) a pos2) ma := by
  refine ⟨fun pins s σ H Q I h => attr_of hb (wpAny_Call_Name_kw (ld_glob I hg T.gC ?_ hdb))⟩
  refine PySem.W.callWith_KW0 I.kIn T.kp rfl (PyProof.Rows.kwAll_cons (thn (he.run pins s σ H _ I h) fun u s1 ⟨v, H1, I1, rv, q⟩ => PyProof.Rows.kwAll_nil ⟨I1.kIn, ?_⟩)) rfl
  obtain ⟨mb, b1, b2⟩ := I.mod.blt
  have hb := b1.keeps I1.bk
  have hg1 := I.mod.glob.keeps I1.bk
  have hl := I1.nolimit
  have hk := I1.kIn
  obtain ⟨hp, g, dr, tk, os⟩ := s1
  show wpAny _ _ (call (.ref C) [] [(a, u)]) _ _ _
  refine wpAny_call (err_madeK T kk hk hl hg1 hb ((b2 "super" (by decide)).trans super_boot) (by have := hr.dp; omega) fun h2 tk2 ex dx M => ?_)
  obtain ⟨t1, ho⟩ := M.obj
  obtain ⟨od, hod, hlk⟩ := lookIn_ns M.ns
  have J : Inv X pins σ H1 ⟨h2, g, dr, tk2, os⟩ := I1.kept (t' := tk2) M.keep
  have A : PySem.W.InstAt h2 ex { cls := .ref C, dict := some dx, data := .fields #[.ref t1, .none, .none, .none, .bool false, .none] } C (some od) := ⟨ho, rfl, rfl, hod⟩
  refine HandSPX.exc_get J.kIn A T.ga T.gg T.bse (PySem.W.findObj_own (v := u) T.dct T.noN rfl ?_) (handed_of rv) ⟨v, H1, J.tok _, rv, q⟩
  rw [hlk a, if_pos rfl]
end
end Fs

namespace Fs
open He PySem.W L2 PyProof.Rows PySem.Spec PySem
abbrev prg : Program := PySem.Challenge.pw_foldsall_k00_whole_errors_and_what_they
def top (i : Nat) : Stmt := prg.main.body.getD i (.Pass ⟨0, 0, 0, 0⟩)
abbrev s__law_box : Stmt := top 28
abbrev s__law_take : Stmt := top 29
abbrev s__law_pick : Stmt := top 30
abbrev s__law_raise_a : Stmt := top 31
abbrev s__law_raise_b : Stmt := top 32
abbrev s__law_raise_c : Stmt := top 33
abbrev s__law_raise : Stmt := top 34
abbrev s__law_caught_a : Stmt := top 35
abbrev s__law_caught_b : Stmt := top 36
abbrev s__law_caught_c : Stmt := top 37
abbrev s__law_is_base : Stmt := top 38
abbrev s_law : Stmt := top 39
def eb : Str := "FoldError"
def exs : List Str := ["InvalidText", "InvalidBook", "InvalidOperation", "InvalidTable", "InvalidKey", "InvalidTree", "InvalidProgram", "InvalidValues", "InvalidChoices", "InvalidList", "InvalidRuns", "InvalidArrows", "InvalidPasses", "InvalidIndex", "InvalidPrices", "InvalidLot", "InvalidCut", "InvalidCode", "InvalidRest", "InvalidSorted", "InvalidShape", "Refused", "InvalidSize", "InvalidKind", "InvalidCommand"]
def inSt (i : Nat) : Stmt := match top i with
  | .ClassDef _ _ _ (b :: _) _ _ _ _ _ _ _ => b
  | _ => .Pass ⟨0, 0, 0, 0⟩
def hd : Hd := ⟨[.glo "_law_box", .glo "_law_take", .glo "_law_pick", .glo "_law_raise_a", .glo "_law_raise_b", .glo "_law_raise_c", .glo "_law_raise", .glo "_law_caught_a", .glo "_law_caught_b", .glo "_law_caught_c", .glo "_law_is_base", .glo "law", .free "len", .free "abs", .free "int", .free "range"], [mkD "_law_box" s__law_box, mkD "_law_take" s__law_take, mkD "_law_pick" s__law_pick, mkD "_law_raise_a" s__law_raise_a, mkD "_law_raise_b" s__law_raise_b, mkD "_law_raise_c" s__law_raise_c, mkD "_law_raise" s__law_raise, mkD "_law_caught_a" s__law_caught_a, mkD "_law_caught_b" s__law_caught_b, mkD "_law_caught_c" s__law_caught_c, mkD "_law_is_base" s__law_is_base, mkD "law" s_law], [⟨"InvalidText", "InvalidText.__init__", inSt 2, some "at"⟩, ⟨"InvalidBook", "InvalidBook.__init__", inSt 3, some "at"⟩, ⟨"InvalidOperation", "InvalidOperation.__init__", inSt 4, some "at"⟩, ⟨"InvalidTable", "InvalidTable.__init__", inSt 5, some "at"⟩, ⟨"InvalidKey", "InvalidKey.__init__", inSt 6, some "at"⟩, ⟨"InvalidTree", "InvalidTree.__init__", inSt 7, some "at"⟩, ⟨"InvalidProgram", "InvalidProgram.__init__", inSt 8, some "at"⟩, ⟨"InvalidValues", "InvalidValues.__init__", inSt 9, some "at"⟩, ⟨"InvalidChoices", "InvalidChoices.__init__", inSt 10, some "at"⟩, ⟨"InvalidList", "InvalidList.__init__", inSt 11, some "at"⟩, ⟨"InvalidRuns", "InvalidRuns.__init__", inSt 12, some "at"⟩, ⟨"InvalidArrows", "InvalidArrows.__init__", inSt 13, some "at"⟩, ⟨"InvalidPasses", "InvalidPasses.__init__", inSt 14, some "at"⟩, ⟨"InvalidIndex", "InvalidIndex.__init__", inSt 15, some "at"⟩, ⟨"InvalidPrices", "InvalidPrices.__init__", inSt 16, some "at"⟩, ⟨"InvalidLot", "InvalidLot.__init__", inSt 17, some "at"⟩, ⟨"InvalidCut", "InvalidCut.__init__", inSt 18, some "at"⟩, ⟨"InvalidCode", "InvalidCode.__init__", inSt 19, some "at"⟩, ⟨"InvalidRest", "InvalidRest.__init__", inSt 20, some "at"⟩, ⟨"InvalidSorted", "InvalidSorted.__init__", inSt 21, some "at"⟩, ⟨"InvalidShape", "InvalidShape.__init__", inSt 22, some "at"⟩, ⟨"Refused", "Refused.__init__", inSt 23, some "at"⟩, ⟨"InvalidSize", "InvalidSize.__init__", inSt 24, some "word"⟩, ⟨"InvalidKind", "InvalidKind.__init__", inSt 25, none⟩, ⟨"InvalidCommand", "InvalidCommand.__init__", inSt 26, none⟩], eb, prg.main.file⟩
structure Mo (P : Program) (K : Frag) (mg : Str → Option Value) : Prop where
  d__law_box : DefF K mg "_law_box" s__law_box
  d__law_take : DefF K mg "_law_take" s__law_take
  d__law_pick : DefF K mg "_law_pick" s__law_pick
  d__law_raise_a : DefF K mg "_law_raise_a" s__law_raise_a
  d__law_raise_b : DefF K mg "_law_raise_b" s__law_raise_b
  d__law_raise_c : DefF K mg "_law_raise_c" s__law_raise_c
  d__law_raise : DefF K mg "_law_raise" s__law_raise
  d__law_caught_a : DefF K mg "_law_caught_a" s__law_caught_a
  d__law_caught_b : DefF K mg "_law_caught_b" s__law_caught_b
  d__law_caught_c : DefF K mg "_law_caught_c" s__law_caught_c
  d__law_is_base : DefF K mg "_law_is_base" s__law_is_base
  d_law : DefF K mg "law" s_law
  f_len : mg "len" = none
  f_abs : mg "abs" = none
  f_int : mg "int" = none
  f_range : mg "range" = none
  e_InvalidText : Er1 K mg P "InvalidText" "at" (ga K "InvalidText") (ma K (ga K "InvalidText") "__init__")
  e_InvalidBook : Er1 K mg P "InvalidBook" "at" (ga K "InvalidBook") (ma K (ga K "InvalidBook") "__init__")
  e_InvalidOperation : Er1 K mg P "InvalidOperation" "at" (ga K "InvalidOperation") (ma K (ga K "InvalidOperation") "__init__")
  e_InvalidTable : Er1 K mg P "InvalidTable" "at" (ga K "InvalidTable") (ma K (ga K "InvalidTable") "__init__")
  e_InvalidKey : Er1 K mg P "InvalidKey" "at" (ga K "InvalidKey") (ma K (ga K "InvalidKey") "__init__")
  e_InvalidTree : Er1 K mg P "InvalidTree" "at" (ga K "InvalidTree") (ma K (ga K "InvalidTree") "__init__")
  e_InvalidProgram : Er1 K mg P "InvalidProgram" "at" (ga K "InvalidProgram") (ma K (ga K "InvalidProgram") "__init__")
  e_InvalidValues : Er1 K mg P "InvalidValues" "at" (ga K "InvalidValues") (ma K (ga K "InvalidValues") "__init__")
  e_InvalidChoices : Er1 K mg P "InvalidChoices" "at" (ga K "InvalidChoices") (ma K (ga K "InvalidChoices") "__init__")
  e_InvalidList : Er1 K mg P "InvalidList" "at" (ga K "InvalidList") (ma K (ga K "InvalidList") "__init__")
  e_InvalidRuns : Er1 K mg P "InvalidRuns" "at" (ga K "InvalidRuns") (ma K (ga K "InvalidRuns") "__init__")
  e_InvalidArrows : Er1 K mg P "InvalidArrows" "at" (ga K "InvalidArrows") (ma K (ga K "InvalidArrows") "__init__")
  e_InvalidPasses : Er1 K mg P "InvalidPasses" "at" (ga K "InvalidPasses") (ma K (ga K "InvalidPasses") "__init__")
  e_InvalidIndex : Er1 K mg P "InvalidIndex" "at" (ga K "InvalidIndex") (ma K (ga K "InvalidIndex") "__init__")
  e_InvalidPrices : Er1 K mg P "InvalidPrices" "at" (ga K "InvalidPrices") (ma K (ga K "InvalidPrices") "__init__")
  e_InvalidLot : Er1 K mg P "InvalidLot" "at" (ga K "InvalidLot") (ma K (ga K "InvalidLot") "__init__")
  e_InvalidCut : Er1 K mg P "InvalidCut" "at" (ga K "InvalidCut") (ma K (ga K "InvalidCut") "__init__")
  e_InvalidCode : Er1 K mg P "InvalidCode" "at" (ga K "InvalidCode") (ma K (ga K "InvalidCode") "__init__")
  e_InvalidRest : Er1 K mg P "InvalidRest" "at" (ga K "InvalidRest") (ma K (ga K "InvalidRest") "__init__")
  e_InvalidSorted : Er1 K mg P "InvalidSorted" "at" (ga K "InvalidSorted") (ma K (ga K "InvalidSorted") "__init__")
  e_InvalidShape : Er1 K mg P "InvalidShape" "at" (ga K "InvalidShape") (ma K (ga K "InvalidShape") "__init__")
  e_Refused : Er1 K mg P "Refused" "at" (ga K "Refused") (ma K (ga K "Refused") "__init__")
  e_InvalidSize : Er1 K mg P "InvalidSize" "word" (ga K "InvalidSize") (ma K (ga K "InvalidSize") "__init__")
  e_InvalidKind : Er0 K mg P "InvalidKind" (ga K "InvalidKind") (ma K (ga K "InvalidKind") "__init__")
  e_InvalidCommand : Er0 K mg P "InvalidCommand" (ga K "InvalidCommand") (ma K (ga K "InvalidCommand") "__init__")
  gb : mg "FoldError" = some (.ref (ga K "FoldError"))
  kc : ∀ {y : Str}, y ∈ eb :: exs → ∀ (x : Str) (b : Bool) (C : Addr), kcD eb exs y x = some b → mg x = some (.ref C) → exmOne K (.ref C) (.ref (ga K y)) = some b
theorem mo_of {K : Frag} {h : Heap} {mg : Str → Option Value} (X : K.In h) (G : h.Ns mainGlobals mg) (c : hd.says K) : Mo prg K mg := { 
    d__law_box := c.def_ X G 0 0 rfl rfl,
    d__law_take := c.def_ X G 1 1 rfl rfl,
    d__law_pick := c.def_ X G 2 2 rfl rfl,
    d__law_raise_a := c.def_ X G 3 3 rfl rfl,
    d__law_raise_b := c.def_ X G 4 4 rfl rfl,
    d__law_raise_c := c.def_ X G 5 5 rfl rfl,
    d__law_raise := c.def_ X G 6 6 rfl rfl,
    d__law_caught_a := c.def_ X G 7 7 rfl rfl,
    d__law_caught_b := c.def_ X G 8 8 rfl rfl,
    d__law_caught_c := c.def_ X G 9 9 rfl rfl,
    d__law_is_base := c.def_ X G 10 10 rfl rfl,
    d_law := c.def_ X G 11 11 rfl rfl,
    f_len := c.fr X G 12 rfl,
    f_abs := c.fr X G 13 rfl,
    f_int := c.fr X G 14 rfl,
    f_range := c.fr X G 15 rfl,
    e_InvalidText := c.er1 X G 0 rfl rfl ⟨_, _, _, _, _, _, _, _, _, _, _, _, _, rfl, rfl, rfl, rfl⟩ rfl fld_at rfl,
    e_InvalidBook := c.er1 X G 1 rfl rfl ⟨_, _, _, _, _, _, _, _, _, _, _, _, _, rfl, rfl, rfl, rfl⟩ rfl fld_at rfl,
    e_InvalidOperation := c.er1 X G 2 rfl rfl ⟨_, _, _, _, _, _, _, _, _, _, _, _, _, rfl, rfl, rfl, rfl⟩ rfl fld_at rfl,
    e_InvalidTable := c.er1 X G 3 rfl rfl ⟨_, _, _, _, _, _, _, _, _, _, _, _, _, rfl, rfl, rfl, rfl⟩ rfl fld_at rfl,
    e_InvalidKey := c.er1 X G 4 rfl rfl ⟨_, _, _, _, _, _, _, _, _, _, _, _, _, rfl, rfl, rfl, rfl⟩ rfl fld_at rfl,
    e_InvalidTree := c.er1 X G 5 rfl rfl ⟨_, _, _, _, _, _, _, _, _, _, _, _, _, rfl, rfl, rfl, rfl⟩ rfl fld_at rfl,
    e_InvalidProgram := c.er1 X G 6 rfl rfl ⟨_, _, _, _, _, _, _, _, _, _, _, _, _, rfl, rfl, rfl, rfl⟩ rfl fld_at rfl,
    e_InvalidValues := c.er1 X G 7 rfl rfl ⟨_, _, _, _, _, _, _, _, _, _, _, _, _, rfl, rfl, rfl, rfl⟩ rfl fld_at rfl,
    e_InvalidChoices := c.er1 X G 8 rfl rfl ⟨_, _, _, _, _, _, _, _, _, _, _, _, _, rfl, rfl, rfl, rfl⟩ rfl fld_at rfl,
    e_InvalidList := c.er1 X G 9 rfl rfl ⟨_, _, _, _, _, _, _, _, _, _, _, _, _, rfl, rfl, rfl, rfl⟩ rfl fld_at rfl,
    e_InvalidRuns := c.er1 X G 10 rfl rfl ⟨_, _, _, _, _, _, _, _, _, _, _, _, _, rfl, rfl, rfl, rfl⟩ rfl fld_at rfl,
    e_InvalidArrows := c.er1 X G 11 rfl rfl ⟨_, _, _, _, _, _, _, _, _, _, _, _, _, rfl, rfl, rfl, rfl⟩ rfl fld_at rfl,
    e_InvalidPasses := c.er1 X G 12 rfl rfl ⟨_, _, _, _, _, _, _, _, _, _, _, _, _, rfl, rfl, rfl, rfl⟩ rfl fld_at rfl,
    e_InvalidIndex := c.er1 X G 13 rfl rfl ⟨_, _, _, _, _, _, _, _, _, _, _, _, _, rfl, rfl, rfl, rfl⟩ rfl fld_at rfl,
    e_InvalidPrices := c.er1 X G 14 rfl rfl ⟨_, _, _, _, _, _, _, _, _, _, _, _, _, rfl, rfl, rfl, rfl⟩ rfl fld_at rfl,
    e_InvalidLot := c.er1 X G 15 rfl rfl ⟨_, _, _, _, _, _, _, _, _, _, _, _, _, rfl, rfl, rfl, rfl⟩ rfl fld_at rfl,
    e_InvalidCut := c.er1 X G 16 rfl rfl ⟨_, _, _, _, _, _, _, _, _, _, _, _, _, rfl, rfl, rfl, rfl⟩ rfl fld_at rfl,
    e_InvalidCode := c.er1 X G 17 rfl rfl ⟨_, _, _, _, _, _, _, _, _, _, _, _, _, rfl, rfl, rfl, rfl⟩ rfl fld_at rfl,
    e_InvalidRest := c.er1 X G 18 rfl rfl ⟨_, _, _, _, _, _, _, _, _, _, _, _, _, rfl, rfl, rfl, rfl⟩ rfl fld_at rfl,
    e_InvalidSorted := c.er1 X G 19 rfl rfl ⟨_, _, _, _, _, _, _, _, _, _, _, _, _, rfl, rfl, rfl, rfl⟩ rfl fld_at rfl,
    e_InvalidShape := c.er1 X G 20 rfl rfl ⟨_, _, _, _, _, _, _, _, _, _, _, _, _, rfl, rfl, rfl, rfl⟩ rfl fld_at rfl,
    e_Refused := c.er1 X G 21 rfl rfl ⟨_, _, _, _, _, _, _, _, _, _, _, _, _, rfl, rfl, rfl, rfl⟩ rfl fld_at rfl,
    e_InvalidSize := c.er1 X G 22 rfl rfl ⟨_, _, _, _, _, _, _, _, _, _, _, _, _, rfl, rfl, rfl, rfl⟩ rfl fld_word rfl,
    e_InvalidKind := c.er0 X G 23 rfl rfl ⟨_, _, _, _, _, _, _, _, rfl, rfl, rfl, rfl⟩ rfl,
    e_InvalidCommand := c.er0 X G 24 rfl rfl ⟨_, _, _, _, _, _, _, _, rfl, rfl, rfl, rfl⟩ rfl,
    gb := c.gba X G,
    kc := fun hy => c.kc X G hy }
theorem sc__law_box : FnScope ["_law_script", "_law_k", "_law_cell"] ["_law_script", "_law_k"] (defScope s__law_box) := ⟨rfl, rfl, rfl, by decide +kernel, rfl, by decide +kernel, by decide +kernel⟩
def m__law_box : MN := seqN (setM 2 (opM addD (opM mulD (cM (.int 2207)) (varM 1)) (cM (.int 83))))
  (seqN (ifM (tstM (opM ltD (varM 1) (cbM lenF (consM (varM 0) nilM)))) (setM 2 (cbM absF (consM (opM atD (varM 0) (varM 1)) nilM))) (ifM (tstM (opM gtD (cbM lenF (consM (varM 0) nilM)) (cM (.int 0)))) (setM 2 (opM addD (varM 2) (opM mulD (opM modD (cbM intF (consM (cbM absF (consM (opM atD (varM 0) (opM modD (cbM intF (consM (varM 1) nilM)) (cbM lenF (consM (varM 0) nilM)))) nilM)) nilM)) (cM (.int 2147483629))) (cM (.int 70009))))) skipM))
  (retNewM (consM (opM atD (lstM (consM (cM (.int 0)) (consM (varM 2) nilM))) (cbM intF (consM (opM geD (varM 2) (opM powD (cM (.int 10)) (cM (.int 18)))) nilM))) (consM (opM addD (opM modD (cbM intF (consM (opM addD (opM mulD (opM modD (cbM intF (consM (varM 2) nilM)) (cM (.int 2147483629))) (cM (.int 44017))) (opM mulD (cM (.int 53089)) (varM 1))) nilM)) (cM (.int 2147483629))) (cM (.int 1))) (consM (cM (.int 0)) nilM)))))
def fm__law_box : FL := fnNM 3 m__law_box

theorem sc__law_take : FnScope ["_law_box_here", "_law_many", "_law_digit", "_law_raw"] ["_law_box_here", "_law_many"] (defScope s__law_take) := ⟨rfl, rfl, rfl, by decide +kernel, rfl, by decide +kernel, by decide +kernel⟩
def m__law_take : MS := seqM (ifM (tstM (opM gtD (boxAtM 0 0) (cM (.int 0)))) (seqM (setM 2 (opM modD (cbM intF (consM (boxAtM 0 0) nilM)) (varM 1)))
  (seqM (boxPutM 0 0 (opM fdivD (boxAtM 0 0) (varM 1)))
  (retM (varM 2)))) skipM)
  (seqM (boxPutM 0 2 (opM addD (boxAtM 0 2) (cM (.int 1))))
  (seqM (setM 3 (opM modD (cbM intF (consM (opM addD (opM mulD (opM addD (boxAtM 0 1) (opM mulD (cM (.int 70001)) (boxAtM 0 2))) (cM (.int 61211))) (cM (.int 37))) nilM)) (cM (.int 2147483563))))
  (seqM (boxPutM 0 1 (opM addD (opM modD (cbM intF (consM (opM addD (opM mulD (varM 3) (cM (.int 38011))) (cM (.int 23057))) nilM)) (cM (.int 2147483629))) (cM (.int 1))))
  (retM (opM modD (cbM intF (consM (opM fdivD (opM addD (opM mulD (varM 3) (cM (.int 2147483647))) (boxAtM 0 1)) (cM (.int 8191))) nilM)) (varM 1))))))
def fm__law_take : FB := fnBM 4 m__law_take

theorem sc__law_pick : FnScope ["_law_box_here", "_law_some"] ["_law_box_here", "_law_some"] (defScope s__law_pick) := ⟨rfl, rfl, rfl, by decide +kernel, rfl, by decide +kernel, by decide +kernel⟩
def m__law_pick : MS := retM (opM atD (varM 1) (callX 0 1 fm__law_take (consM (cbM lenF (consM (varM 1) nilM)) nilM)))
def fm__law_pick : FB := fnBM 2 m__law_pick

theorem sc__law_raise_a : FnScope ["_law_number", "_law_thing"] ["_law_number", "_law_thing"] (defScope s__law_raise_a) := ⟨rfl, rfl, rfl, by decide +kernel, rfl, by decide +kernel, by decide +kernel⟩
def m__law_raise_a : MS := ifM (tstM (opM eqD (varM 0) (cM (.int 0)))) (raise1M "InvalidText" "at" (varM 1)) (ifM (tstM (opM eqD (varM 0) (cM (.int 1)))) (raise1M "InvalidBook" "at" (varM 1)) (ifM (tstM (opM eqD (varM 0) (cM (.int 2)))) (raise1M "InvalidOperation" "at" (varM 1)) (ifM (tstM (opM eqD (varM 0) (cM (.int 3)))) (raise1M "InvalidTable" "at" (varM 1)) (ifM (tstM (opM eqD (varM 0) (cM (.int 4)))) (raise1M "InvalidKey" "at" (varM 1)) (ifM (tstM (opM eqD (varM 0) (cM (.int 5)))) (raise1M "InvalidTree" "at" (varM 1)) (ifM (tstM (opM eqD (varM 0) (cM (.int 6)))) (raise1M "InvalidProgram" "at" (varM 1)) (ifM (tstM (opM eqD (varM 0) (cM (.int 7)))) (raise1M "InvalidValues" "at" (varM 1)) (ifM (tstM (opM eqD (varM 0) (cM (.int 8)))) (raise1M "InvalidChoices" "at" (varM 1)) skipM))))))))
def fm__law_raise_a : FN := fnM 2 m__law_raise_a

theorem sc__law_raise_b : FnScope ["_law_number", "_law_thing"] ["_law_number", "_law_thing"] (defScope s__law_raise_b) := ⟨rfl, rfl, rfl, by decide +kernel, rfl, by decide +kernel, by decide +kernel⟩
def m__law_raise_b : MS := ifM (tstM (opM eqD (varM 0) (cM (.int 9)))) (raise1M "InvalidList" "at" (varM 1)) (ifM (tstM (opM eqD (varM 0) (cM (.int 10)))) (raise1M "InvalidRuns" "at" (varM 1)) (ifM (tstM (opM eqD (varM 0) (cM (.int 11)))) (raise1M "InvalidArrows" "at" (varM 1)) (ifM (tstM (opM eqD (varM 0) (cM (.int 12)))) (raise1M "InvalidPasses" "at" (varM 1)) (ifM (tstM (opM eqD (varM 0) (cM (.int 13)))) (raise1M "InvalidIndex" "at" (varM 1)) (ifM (tstM (opM eqD (varM 0) (cM (.int 14)))) (raise1M "InvalidPrices" "at" (varM 1)) (ifM (tstM (opM eqD (varM 0) (cM (.int 15)))) (raise1M "InvalidLot" "at" (varM 1)) (ifM (tstM (opM eqD (varM 0) (cM (.int 16)))) (raise1M "InvalidCut" "at" (varM 1)) (ifM (tstM (opM eqD (varM 0) (cM (.int 17)))) (raise1M "InvalidCode" "at" (varM 1)) skipM))))))))
def fm__law_raise_b : FN := fnM 2 m__law_raise_b

theorem sc__law_raise_c : FnScope ["_law_number", "_law_thing"] ["_law_number", "_law_thing"] (defScope s__law_raise_c) := ⟨rfl, rfl, rfl, by decide +kernel, rfl, by decide +kernel, by decide +kernel⟩
def m__law_raise_c : MS := ifM (tstM (opM eqD (varM 0) (cM (.int 18)))) (raise1M "InvalidRest" "at" (varM 1)) (ifM (tstM (opM eqD (varM 0) (cM (.int 19)))) (raise1M "InvalidSorted" "at" (varM 1)) (ifM (tstM (opM eqD (varM 0) (cM (.int 20)))) (raise1M "InvalidShape" "at" (varM 1)) (ifM (tstM (opM eqD (varM 0) (cM (.int 21)))) (raise1M "Refused" "at" (varM 1)) (ifM (tstM (opM eqD (varM 0) (cM (.int 22)))) (raise1M "InvalidSize" "word" (varM 1)) (ifM (tstM (opM eqD (varM 0) (cM (.int 23)))) (raise0M "InvalidKind") (ifM (tstM (opM eqD (varM 0) (cM (.int 24)))) (raise0M "InvalidCommand") skipM))))))
def fm__law_raise_c : FN := fnM 2 m__law_raise_c

theorem sc__law_raise : FnScope ["_law_number", "_law_thing"] ["_law_number", "_law_thing"] (defScope s__law_raise) := ⟨rfl, rfl, rfl, by decide +kernel, rfl, by decide +kernel, by decide +kernel⟩
def m__law_raise : MS := ifM (tstM (opM ltD (varM 0) (cM (.int 9)))) (dropM (callM 2 fm__law_raise_a (consM (varM 0) (consM (varM 1) nilM)))) (ifM (tstM (opM ltD (varM 0) (cM (.int 18)))) (dropM (callM 2 fm__law_raise_b (consM (varM 0) (consM (varM 1) nilM)))) (dropM (callM 2 fm__law_raise_c (consM (varM 0) (consM (varM 1) nilM)))))
def fm__law_raise : FN := fnM 2 m__law_raise

theorem sc__law_caught_a : FnScope ["_law_number", "_law_thing", "e"] ["_law_number", "_law_thing"] (defScope s__law_caught_a) := ⟨rfl, rfl, rfl, by decide +kernel, rfl, by decide +kernel, by decide +kernel⟩
def m__law_caught_a : MS := seqM (tryM (dropM (callM 2 fm__law_raise (consM (varM 0) (consM (varM 1) nilM)))) [⟨(kcD eb exs "InvalidText"), hvR "InvalidText" "at" (.int 0) 2 retV⟩, ⟨(kcD eb exs "InvalidBook"), hvR "InvalidBook" "at" (.int 1) 2 retV⟩, ⟨(kcD eb exs "InvalidOperation"), hvR "InvalidOperation" "at" (.int 2) 2 retV⟩, ⟨(kcD eb exs "InvalidTable"), hvR "InvalidTable" "at" (.int 3) 2 retV⟩, ⟨(kcD eb exs "InvalidKey"), hvR "InvalidKey" "at" (.int 4) 2 retV⟩, ⟨(kcD eb exs "InvalidTree"), hvR "InvalidTree" "at" (.int 5) 2 retV⟩, ⟨(kcD eb exs "InvalidProgram"), hvR "InvalidProgram" "at" (.int 6) 2 retV⟩, ⟨(kcD eb exs "InvalidValues"), hvR "InvalidValues" "at" (.int 7) 2 retV⟩, ⟨(kcD eb exs "InvalidChoices"), hvR "InvalidChoices" "at" (.int 8) 2 retV⟩])
  (retM (cM .none))
def fm__law_caught_a : FN := fnM 3 m__law_caught_a

theorem sc__law_caught_b : FnScope ["_law_number", "_law_thing", "e"] ["_law_number", "_law_thing"] (defScope s__law_caught_b) := ⟨rfl, rfl, rfl, by decide +kernel, rfl, by decide +kernel, by decide +kernel⟩
def m__law_caught_b : MS := seqM (tryM (retM (callM 2 fm__law_caught_a (consM (varM 0) (consM (varM 1) nilM)))) [⟨(kcD eb exs "InvalidList"), hvR "InvalidList" "at" (.int 9) 2 retV⟩, ⟨(kcD eb exs "InvalidRuns"), hvR "InvalidRuns" "at" (.int 10) 2 retV⟩, ⟨(kcD eb exs "InvalidArrows"), hvR "InvalidArrows" "at" (.int 11) 2 retV⟩, ⟨(kcD eb exs "InvalidPasses"), hvR "InvalidPasses" "at" (.int 12) 2 retV⟩, ⟨(kcD eb exs "InvalidIndex"), hvR "InvalidIndex" "at" (.int 13) 2 retV⟩, ⟨(kcD eb exs "InvalidPrices"), hvR "InvalidPrices" "at" (.int 14) 2 retV⟩, ⟨(kcD eb exs "InvalidLot"), hvR "InvalidLot" "at" (.int 15) 2 retV⟩, ⟨(kcD eb exs "InvalidCut"), hvR "InvalidCut" "at" (.int 16) 2 retV⟩, ⟨(kcD eb exs "InvalidCode"), hvR "InvalidCode" "at" (.int 17) 2 retV⟩])
  (retM (cM .none))
def fm__law_caught_b : FN := fnM 3 m__law_caught_b

theorem sc__law_caught_c : FnScope ["_law_number", "_law_thing", "e"] ["_law_number", "_law_thing"] (defScope s__law_caught_c) := ⟨rfl, rfl, rfl, by decide +kernel, rfl, by decide +kernel, by decide +kernel⟩
def m__law_caught_c : MS := seqM (tryM (retM (callM 2 fm__law_caught_b (consM (varM 0) (consM (varM 1) nilM)))) [⟨(kcD eb exs "InvalidRest"), hvR "InvalidRest" "at" (.int 18) 2 retV⟩, ⟨(kcD eb exs "InvalidSorted"), hvR "InvalidSorted" "at" (.int 19) 2 retV⟩, ⟨(kcD eb exs "InvalidShape"), hvR "InvalidShape" "at" (.int 20) 2 retV⟩, ⟨(kcD eb exs "Refused"), hvR "Refused" "at" (.int 21) 2 retV⟩, ⟨(kcD eb exs "InvalidSize"), hvR "InvalidSize" "word" (.int 22) 2 retV⟩, ⟨(kcD eb exs "InvalidKind"), fun _ => retM (tupM (consM (cM (.int 23)) (consM (varM 1) nilM)))⟩, ⟨(kcD eb exs "InvalidCommand"), fun _ => retM (tupM (consM (cM (.int 24)) (consM (varM 1) nilM)))⟩])
  (retM (cM .none))
def fm__law_caught_c : FN := fnM 3 m__law_caught_c

theorem sc__law_is_base : FnScope ["_law_number", "_law_thing"] ["_law_number", "_law_thing"] (defScope s__law_is_base) := ⟨rfl, rfl, rfl, by decide +kernel, rfl, by decide +kernel, by decide +kernel⟩
def m__law_is_base : MS := seqM (tryM (dropM (callM 2 fm__law_raise (consM (varM 0) (consM (varM 1) nilM)))) [⟨(kcD eb exs "FoldError"), fun _ => retM (cM (.bool true))⟩])
  (retM (cM (.bool false)))
def fm__law_is_base : FN := fnM 2 m__law_is_base

theorem sc_law : FnScope ["_law_script", "_law_box_here", "_law_number", "_law_thing", "_law_kept"] ["_law_script"] (defScope s_law) := ⟨rfl, rfl, rfl, by decide +kernel, rfl, by decide +kernel, by decide +kernel⟩
def m_law : MS := seqM (boxNewM 1 2 fm__law_box (consM (varM 0) (consM (cM (.int 0)) nilM)))
  (seqM (forM (rng1M (cM (.int 25))) (nameT 2) (seqM (setM 3 (callX 1 1 fm__law_pick (consM (lstM (consM (cM (.int 0)) (consM (negM (cM (.int 1))) (consM (cM .none) (consM (cM (.str "words")) (consM (tupM (consM (cM (.int 1)) (consM (cM (.int 2)) nilM))) (consM (lstM (consM (cM (.int 3)) nilM)) (consM (cM (.bool true)) (consM (cM (.int 7)) nilM))))))))) nilM)))
  (ifM (orM (tstM (opM neD (callM 2 fm__law_caught_c (consM (varM 2) (consM (varM 3) nilM))) (tupM (consM (varM 2) (consM (varM 3) nilM))))) (notM (tstM (callM 2 fm__law_is_base (consM (varM 2) (consM (varM 3) nilM)))))) (retM (cM (.bool false))) skipM)))
  (seqM (setM 4 (tupM (consM (negM (cM (.int 1))) (consM (cM (.int 3)) (consM (cM (.str "x")) (consM (cM (.str "straight")) nilM))))))
  (retM (opM eqD (varM 4) (tupM (consM (negM (cM (.int 1))) (consM (cM (.int 3)) (consM (cM (.str "x")) (consM (cM (.str "straight")) nilM)))))))))
def fm_law : FN := fnM 5 m_law
section
variable {P : Program} {w : World} {K : Frag} {mg : Str → Option Value} {base : Heap}
theorem b__law_box (M : Mo P K mg) : Binds K (fdAt K (ga K "_law_box")) ["_law_script", "_law_k"] [] := M.d__law_box.f.binds fun _ _ _ _ _ _ us hl => match us, hl with | [_, _], _ => rfl
theorem ok__law_box (M : Mo P K mg) : FnOk P w K mg base (L2.CX P w) 1 (ga K "_law_box") (fdAt K (ga K "_law_box")) ["_law_script", "_law_k"] (spN ⟨K, mg⟩ (["_law_script", "_law_k"] : List Str).length fm__law_box) := fn_simN (M.d__law_box.f) sc__law_box fun cdv A outer s H E hr => by
  exact sbn_cons (W := Wno) (ss_set (i := 2) sc__law_box.nd rfl (Or.inl rfl) (se_op o_add (SE.w (se_op o_mul (SE.w se_int) (SE.w (se_var (i := 1) rfl (Or.inl rfl))))) (SE.w se_int)))
      (sbn_cons (W := Wno) (ss_if (st_cmp o_lt (SE.w (se_var (i := 1) rfl (Or.inl rfl))) (SE.w (se_cb f_len rfl M.f_len bt_len (saw_cons (SE.w (se_var (i := 0) rfl (Or.inl rfl))) saw_nil))) (nomark _)) (sb_one (ss_set (i := 2) sc__law_box.nd rfl (Or.inl rfl) (se_cb f_abs rfl M.f_abs bt_abs (saw_cons (SE.w (se_at (SE.w (se_var (i := 0) rfl (Or.inl rfl))) (SE.w (se_var (i := 1) rfl (Or.inl rfl))))) saw_nil)))) (sb_one (ss_if (st_cmp o_gt (SE.w (se_cb f_len rfl M.f_len bt_len (saw_cons (SE.w (se_var (i := 0) rfl (Or.inl rfl))) saw_nil))) (SE.w se_int) (nomark _)) (sb_one (ss_set (i := 2) sc__law_box.nd rfl (Or.inl rfl) (se_op o_add (SE.w (se_var (i := 2) rfl (Or.inl rfl))) (SE.w (se_op o_mul (SE.w (se_op o_mod (SE.w (se_ct f_int rfl M.f_int bt_int (saw_cons (SE.w (se_cb f_abs rfl M.f_abs bt_abs (saw_cons (SE.w (se_at (SE.w (se_var (i := 0) rfl (Or.inl rfl))) (SE.w (se_op o_mod (SE.w (se_ct f_int rfl M.f_int bt_int (saw_cons (SE.w (se_var (i := 1) rfl (Or.inl rfl))) saw_nil))) (SE.w (se_cb f_len rfl M.f_len bt_len (saw_cons (SE.w (se_var (i := 0) rfl (Or.inl rfl))) saw_nil))))))) saw_nil))) saw_nil))) (SE.w se_int))) (SE.w se_int)))))) sb_nil)))
      (sbn_ret (W := Wno) (sa_cons (se_at (SE.w (se_lst (sa_cons se_int (sa_cons (se_var (i := 2) rfl (Or.inl rfl)) sa_nil)))) (SE.w (se_ct f_int rfl M.f_int bt_int (saw_cons (SE.w (se_cmp o_ge (SE.w (se_var (i := 2) rfl (Or.inl rfl))) (SE.w (se_op o_pow (SE.w se_int) (SE.w se_int))) (nomark _))) saw_nil)))) (sa_cons (se_op o_add (SE.w (se_op o_mod (SE.w (se_ct f_int rfl M.f_int bt_int (saw_cons (SE.w (se_op o_add (SE.w (se_op o_mul (SE.w (se_op o_mod (SE.w (se_ct f_int rfl M.f_int bt_int (saw_cons (SE.w (se_var (i := 2) rfl (Or.inl rfl))) saw_nil))) (SE.w se_int))) (SE.w se_int))) (SE.w (se_op o_mul (SE.w se_int) (SE.w (se_var (i := 1) rfl (Or.inl rfl))))))) saw_nil))) (SE.w se_int))) (SE.w se_int)) (sa_cons se_int sa_nil)))))

theorem b__law_take (M : Mo P K mg) : Binds K (fdAt K (ga K "_law_take")) ["_law_box_here", "_law_many"] [] := M.d__law_take.f.binds fun _ _ _ _ _ _ us hl => match us, hl with | [_, _], _ => rfl
theorem ok__law_take (M : Mo P K mg) : FnOk P w K mg base (L2.CX P w) 1 (ga K "_law_take") (fdAt K (ga K "_law_take")) ["_law_box_here", "_law_many"] (spB ⟨K, mg⟩ 1 fm__law_take) := fn_simB (M.d__law_take.f) sc__law_take rfl (by decide) fun cdv A outer s H E hr => by
  exact sb_cons (ss_if (st_cmp o_gt (SE.w (se_boxAt (i := 0) rfl (Or.inl rfl))) (SE.w se_int) (nomark _)) (sb_cons (ss_set (i := 2) sc__law_take.nd rfl (Or.inl rfl) (se_op o_mod (SE.w (se_ct f_int rfl M.f_int bt_int (saw_cons (SE.w (se_boxAt (i := 0) rfl (Or.inl rfl))) saw_nil))) (SE.w (se_var (i := 1) rfl (Or.inl rfl)))))
      (sb_cons (ss_boxPut (i := 0) rfl (Or.inl rfl) (se_op o_fdiv (SE.w (se_boxAt (i := 0) rfl (Or.inl rfl))) (SE.w (se_var (i := 1) rfl (Or.inl rfl)))))
      (sb_one (ss_ret (se_var (i := 2) rfl (Or.inl rfl)))))) sb_nil)
      (sb_cons (ss_boxPut (i := 0) rfl (Or.inl rfl) (se_op o_add (SE.w (se_boxAt (i := 0) rfl (Or.inl rfl))) (SE.w se_int)))
      (sb_cons (ss_set (i := 3) sc__law_take.nd rfl (Or.inl rfl) (se_op o_mod (SE.w (se_ct f_int rfl M.f_int bt_int (saw_cons (SE.w (se_op o_add (SE.w (se_op o_mul (SE.w (se_op o_add (SE.w (se_boxAt (i := 0) rfl (Or.inl rfl))) (SE.w (se_op o_mul (SE.w se_int) (SE.w (se_boxAt (i := 0) rfl (Or.inl rfl))))))) (SE.w se_int))) (SE.w se_int))) saw_nil))) (SE.w se_int)))
      (sb_cons (ss_boxPut (i := 0) rfl (Or.inl rfl) (se_op o_add (SE.w (se_op o_mod (SE.w (se_ct f_int rfl M.f_int bt_int (saw_cons (SE.w (se_op o_add (SE.w (se_op o_mul (SE.w (se_var (i := 3) rfl (Or.inl rfl))) (SE.w se_int))) (SE.w se_int))) saw_nil))) (SE.w se_int))) (SE.w se_int)))
      (sb_one (ss_ret (se_op o_mod (SE.w (se_ct f_int rfl M.f_int bt_int (saw_cons (SE.w (se_op o_fdiv (SE.w (se_op o_add (SE.w (se_op o_mul (SE.w (se_var (i := 3) rfl (Or.inl rfl))) (SE.w se_int))) (SE.w (se_boxAt (i := 0) rfl (Or.inl rfl))))) (SE.w se_int))) saw_nil))) (SE.w (se_var (i := 1) rfl (Or.inl rfl)))))))))

theorem b__law_pick (M : Mo P K mg) : Binds K (fdAt K (ga K "_law_pick")) ["_law_box_here", "_law_some"] [] := M.d__law_pick.f.binds fun _ _ _ _ _ _ us hl => match us, hl with | [_, _], _ => rfl
theorem ok__law_pick (M : Mo P K mg) : FnOk P w K mg base (L2.CX P w) 2 (ga K "_law_pick") (fdAt K (ga K "_law_pick")) ["_law_box_here", "_law_some"] (spB ⟨K, mg⟩ 1 fm__law_pick) := fn_simB (M.d__law_pick.f) sc__law_pick rfl (by decide) fun cdv A outer s H E hr => by
  exact sb_one (ss_ret (se_at (SE.w (se_var (i := 1) rfl (Or.inl rfl))) (SE.w (se_callX (i := 0) (ok__law_take M) (hr.mono (by decide)) rfl M.d__law_take.g M.d__law_take.f.kp (b__law_take M) (takes_of rfl rfl rfl rfl) rfl (Or.inl rfl) (sa_cons (se_cb f_len rfl M.f_len bt_len (saw_cons (SE.w (se_var (i := 1) rfl (Or.inl rfl))) saw_nil)) sa_nil)))))

theorem b__law_raise_a (M : Mo P K mg) : Binds K (fdAt K (ga K "_law_raise_a")) ["_law_number", "_law_thing"] [] := M.d__law_raise_a.f.binds fun _ _ _ _ _ _ us hl => match us, hl with | [_, _], _ => rfl
theorem ok__law_raise_a (M : Mo P K mg) : FnOk P w K mg base (L2.CX P w) 2 (ga K "_law_raise_a") (fdAt K (ga K "_law_raise_a")) ["_law_number", "_law_thing"] (spF ⟨K, mg⟩ (["_law_number", "_law_thing"] : List Str).length fm__law_raise_a) := fn_sim (M.d__law_raise_a.f) sc__law_raise_a fun cdv A outer s H E hr => by
  exact sb_one (ss_if (st_cmp (o_eq (u64 hr)) (SE.w (se_var (i := 0) rfl (Or.inl rfl))) (SE.w se_int) (nomark _)) (sb_one (ss_raise1 (k := 1) rfl (takes_of rfl rfl rfl rfl) M.e_InvalidText (hr.mono (by decide)) rfl (se_var (i := 1) rfl (Or.inl rfl)))) (sb_one (ss_if (st_cmp (o_eq (u64 hr)) (SE.w (se_var (i := 0) rfl (Or.inl rfl))) (SE.w se_int) (nomark _)) (sb_one (ss_raise1 (k := 1) rfl (takes_of rfl rfl rfl rfl) M.e_InvalidBook (hr.mono (by decide)) rfl (se_var (i := 1) rfl (Or.inl rfl)))) (sb_one (ss_if (st_cmp (o_eq (u64 hr)) (SE.w (se_var (i := 0) rfl (Or.inl rfl))) (SE.w se_int) (nomark _)) (sb_one (ss_raise1 (k := 1) rfl (takes_of rfl rfl rfl rfl) M.e_InvalidOperation (hr.mono (by decide)) rfl (se_var (i := 1) rfl (Or.inl rfl)))) (sb_one (ss_if (st_cmp (o_eq (u64 hr)) (SE.w (se_var (i := 0) rfl (Or.inl rfl))) (SE.w se_int) (nomark _)) (sb_one (ss_raise1 (k := 1) rfl (takes_of rfl rfl rfl rfl) M.e_InvalidTable (hr.mono (by decide)) rfl (se_var (i := 1) rfl (Or.inl rfl)))) (sb_one (ss_if (st_cmp (o_eq (u64 hr)) (SE.w (se_var (i := 0) rfl (Or.inl rfl))) (SE.w se_int) (nomark _)) (sb_one (ss_raise1 (k := 1) rfl (takes_of rfl rfl rfl rfl) M.e_InvalidKey (hr.mono (by decide)) rfl (se_var (i := 1) rfl (Or.inl rfl)))) (sb_one (ss_if (st_cmp (o_eq (u64 hr)) (SE.w (se_var (i := 0) rfl (Or.inl rfl))) (SE.w se_int) (nomark _)) (sb_one (ss_raise1 (k := 1) rfl (takes_of rfl rfl rfl rfl) M.e_InvalidTree (hr.mono (by decide)) rfl (se_var (i := 1) rfl (Or.inl rfl)))) (sb_one (ss_if (st_cmp (o_eq (u64 hr)) (SE.w (se_var (i := 0) rfl (Or.inl rfl))) (SE.w se_int) (nomark _)) (sb_one (ss_raise1 (k := 1) rfl (takes_of rfl rfl rfl rfl) M.e_InvalidProgram (hr.mono (by decide)) rfl (se_var (i := 1) rfl (Or.inl rfl)))) (sb_one (ss_if (st_cmp (o_eq (u64 hr)) (SE.w (se_var (i := 0) rfl (Or.inl rfl))) (SE.w se_int) (nomark _)) (sb_one (ss_raise1 (k := 1) rfl (takes_of rfl rfl rfl rfl) M.e_InvalidValues (hr.mono (by decide)) rfl (se_var (i := 1) rfl (Or.inl rfl)))) (sb_one (ss_if (st_cmp (o_eq (u64 hr)) (SE.w (se_var (i := 0) rfl (Or.inl rfl))) (SE.w se_int) (nomark _)) (sb_one (ss_raise1 (k := 1) rfl (takes_of rfl rfl rfl rfl) M.e_InvalidChoices (hr.mono (by decide)) rfl (se_var (i := 1) rfl (Or.inl rfl)))) sb_nil)))))))))))))))))

theorem b__law_raise_b (M : Mo P K mg) : Binds K (fdAt K (ga K "_law_raise_b")) ["_law_number", "_law_thing"] [] := M.d__law_raise_b.f.binds fun _ _ _ _ _ _ us hl => match us, hl with | [_, _], _ => rfl
theorem ok__law_raise_b (M : Mo P K mg) : FnOk P w K mg base (L2.CX P w) 2 (ga K "_law_raise_b") (fdAt K (ga K "_law_raise_b")) ["_law_number", "_law_thing"] (spF ⟨K, mg⟩ (["_law_number", "_law_thing"] : List Str).length fm__law_raise_b) := fn_sim (M.d__law_raise_b.f) sc__law_raise_b fun cdv A outer s H E hr => by
  exact sb_one (ss_if (st_cmp (o_eq (u64 hr)) (SE.w (se_var (i := 0) rfl (Or.inl rfl))) (SE.w se_int) (nomark _)) (sb_one (ss_raise1 (k := 1) rfl (takes_of rfl rfl rfl rfl) M.e_InvalidList (hr.mono (by decide)) rfl (se_var (i := 1) rfl (Or.inl rfl)))) (sb_one (ss_if (st_cmp (o_eq (u64 hr)) (SE.w (se_var (i := 0) rfl (Or.inl rfl))) (SE.w se_int) (nomark _)) (sb_one (ss_raise1 (k := 1) rfl (takes_of rfl rfl rfl rfl) M.e_InvalidRuns (hr.mono (by decide)) rfl (se_var (i := 1) rfl (Or.inl rfl)))) (sb_one (ss_if (st_cmp (o_eq (u64 hr)) (SE.w (se_var (i := 0) rfl (Or.inl rfl))) (SE.w se_int) (nomark _)) (sb_one (ss_raise1 (k := 1) rfl (takes_of rfl rfl rfl rfl) M.e_InvalidArrows (hr.mono (by decide)) rfl (se_var (i := 1) rfl (Or.inl rfl)))) (sb_one (ss_if (st_cmp (o_eq (u64 hr)) (SE.w (se_var (i := 0) rfl (Or.inl rfl))) (SE.w se_int) (nomark _)) (sb_one (ss_raise1 (k := 1) rfl (takes_of rfl rfl rfl rfl) M.e_InvalidPasses (hr.mono (by decide)) rfl (se_var (i := 1) rfl (Or.inl rfl)))) (sb_one (ss_if (st_cmp (o_eq (u64 hr)) (SE.w (se_var (i := 0) rfl (Or.inl rfl))) (SE.w se_int) (nomark _)) (sb_one (ss_raise1 (k := 1) rfl (takes_of rfl rfl rfl rfl) M.e_InvalidIndex (hr.mono (by decide)) rfl (se_var (i := 1) rfl (Or.inl rfl)))) (sb_one (ss_if (st_cmp (o_eq (u64 hr)) (SE.w (se_var (i := 0) rfl (Or.inl rfl))) (SE.w se_int) (nomark _)) (sb_one (ss_raise1 (k := 1) rfl (takes_of rfl rfl rfl rfl) M.e_InvalidPrices (hr.mono (by decide)) rfl (se_var (i := 1) rfl (Or.inl rfl)))) (sb_one (ss_if (st_cmp (o_eq (u64 hr)) (SE.w (se_var (i := 0) rfl (Or.inl rfl))) (SE.w se_int) (nomark _)) (sb_one (ss_raise1 (k := 1) rfl (takes_of rfl rfl rfl rfl) M.e_InvalidLot (hr.mono (by decide)) rfl (se_var (i := 1) rfl (Or.inl rfl)))) (sb_one (ss_if (st_cmp (o_eq (u64 hr)) (SE.w (se_var (i := 0) rfl (Or.inl rfl))) (SE.w se_int) (nomark _)) (sb_one (ss_raise1 (k := 1) rfl (takes_of rfl rfl rfl rfl) M.e_InvalidCut (hr.mono (by decide)) rfl (se_var (i := 1) rfl (Or.inl rfl)))) (sb_one (ss_if (st_cmp (o_eq (u64 hr)) (SE.w (se_var (i := 0) rfl (Or.inl rfl))) (SE.w se_int) (nomark _)) (sb_one (ss_raise1 (k := 1) rfl (takes_of rfl rfl rfl rfl) M.e_InvalidCode (hr.mono (by decide)) rfl (se_var (i := 1) rfl (Or.inl rfl)))) sb_nil)))))))))))))))))

theorem b__law_raise_c (M : Mo P K mg) : Binds K (fdAt K (ga K "_law_raise_c")) ["_law_number", "_law_thing"] [] := M.d__law_raise_c.f.binds fun _ _ _ _ _ _ us hl => match us, hl with | [_, _], _ => rfl
theorem ok__law_raise_c (M : Mo P K mg) : FnOk P w K mg base (L2.CX P w) 2 (ga K "_law_raise_c") (fdAt K (ga K "_law_raise_c")) ["_law_number", "_law_thing"] (spF ⟨K, mg⟩ (["_law_number", "_law_thing"] : List Str).length fm__law_raise_c) := fn_sim (M.d__law_raise_c.f) sc__law_raise_c fun cdv A outer s H E hr => by
  exact sb_one (ss_if (st_cmp (o_eq (u64 hr)) (SE.w (se_var (i := 0) rfl (Or.inl rfl))) (SE.w se_int) (nomark _)) (sb_one (ss_raise1 (k := 1) rfl (takes_of rfl rfl rfl rfl) M.e_InvalidRest (hr.mono (by decide)) rfl (se_var (i := 1) rfl (Or.inl rfl)))) (sb_one (ss_if (st_cmp (o_eq (u64 hr)) (SE.w (se_var (i := 0) rfl (Or.inl rfl))) (SE.w se_int) (nomark _)) (sb_one (ss_raise1 (k := 1) rfl (takes_of rfl rfl rfl rfl) M.e_InvalidSorted (hr.mono (by decide)) rfl (se_var (i := 1) rfl (Or.inl rfl)))) (sb_one (ss_if (st_cmp (o_eq (u64 hr)) (SE.w (se_var (i := 0) rfl (Or.inl rfl))) (SE.w se_int) (nomark _)) (sb_one (ss_raise1 (k := 1) rfl (takes_of rfl rfl rfl rfl) M.e_InvalidShape (hr.mono (by decide)) rfl (se_var (i := 1) rfl (Or.inl rfl)))) (sb_one (ss_if (st_cmp (o_eq (u64 hr)) (SE.w (se_var (i := 0) rfl (Or.inl rfl))) (SE.w se_int) (nomark _)) (sb_one (ss_raise1 (k := 1) rfl (takes_of rfl rfl rfl rfl) M.e_Refused (hr.mono (by decide)) rfl (se_var (i := 1) rfl (Or.inl rfl)))) (sb_one (ss_if (st_cmp (o_eq (u64 hr)) (SE.w (se_var (i := 0) rfl (Or.inl rfl))) (SE.w se_int) (nomark _)) (sb_one (ss_raise1 (k := 1) rfl (takes_of rfl rfl rfl rfl) M.e_InvalidSize (hr.mono (by decide)) rfl (se_var (i := 1) rfl (Or.inl rfl)))) (sb_one (ss_if (st_cmp (o_eq (u64 hr)) (SE.w (se_var (i := 0) rfl (Or.inl rfl))) (SE.w se_int) (nomark _)) (sb_one (ss_raise0 (k := 1) rfl (takes_of rfl rfl rfl rfl) M.e_InvalidKind (hr.mono (by decide)) rfl)) (sb_one (ss_if (st_cmp (o_eq (u64 hr)) (SE.w (se_var (i := 0) rfl (Or.inl rfl))) (SE.w se_int) (nomark _)) (sb_one (ss_raise0 (k := 1) rfl (takes_of rfl rfl rfl rfl) M.e_InvalidCommand (hr.mono (by decide)) rfl)) sb_nil)))))))))))))

theorem b__law_raise (M : Mo P K mg) : Binds K (fdAt K (ga K "_law_raise")) ["_law_number", "_law_thing"] [] := M.d__law_raise.f.binds fun _ _ _ _ _ _ us hl => match us, hl with | [_, _], _ => rfl
theorem ok__law_raise (M : Mo P K mg) : FnOk P w K mg base (L2.CX P w) 3 (ga K "_law_raise") (fdAt K (ga K "_law_raise")) ["_law_number", "_law_thing"] (spF ⟨K, mg⟩ (["_law_number", "_law_thing"] : List Str).length fm__law_raise) := fn_sim (M.d__law_raise.f) sc__law_raise fun cdv A outer s H E hr => by
  exact sb_one (ss_if (st_cmp o_lt (SE.w (se_var (i := 0) rfl (Or.inl rfl))) (SE.w se_int) (nomark _)) (sb_one (ss_expr (SE.w (se_call (ok__law_raise_a M) (hr.mono (by decide)) rfl M.d__law_raise_a.g M.d__law_raise_a.f.kp (b__law_raise_a M) (takes_of rfl rfl rfl rfl) (sa_cons (se_var (i := 0) rfl (Or.inl rfl)) (sa_cons (se_var (i := 1) rfl (Or.inl rfl)) sa_nil)))))) (sb_one (ss_if (st_cmp o_lt (SE.w (se_var (i := 0) rfl (Or.inl rfl))) (SE.w se_int) (nomark _)) (sb_one (ss_expr (SE.w (se_call (ok__law_raise_b M) (hr.mono (by decide)) rfl M.d__law_raise_b.g M.d__law_raise_b.f.kp (b__law_raise_b M) (takes_of rfl rfl rfl rfl) (sa_cons (se_var (i := 0) rfl (Or.inl rfl)) (sa_cons (se_var (i := 1) rfl (Or.inl rfl)) sa_nil)))))) (sb_one (ss_expr (SE.w (se_call (ok__law_raise_c M) (hr.mono (by decide)) rfl M.d__law_raise_c.g M.d__law_raise_c.f.kp (b__law_raise_c M) (takes_of rfl rfl rfl rfl) (sa_cons (se_var (i := 0) rfl (Or.inl rfl)) (sa_cons (se_var (i := 1) rfl (Or.inl rfl)) sa_nil)))))))))

theorem b__law_caught_a (M : Mo P K mg) : Binds K (fdAt K (ga K "_law_caught_a")) ["_law_number", "_law_thing"] [] := M.d__law_caught_a.f.binds fun _ _ _ _ _ _ us hl => match us, hl with | [_, _], _ => rfl
theorem ok__law_caught_a (M : Mo P K mg) : FnOk P w K mg base (L2.CX P w) 4 (ga K "_law_caught_a") (fdAt K (ga K "_law_caught_a")) ["_law_number", "_law_thing"] (spF ⟨K, mg⟩ (["_law_number", "_law_thing"] : List Str).length fm__law_caught_a) := fn_sim (M.d__law_caught_a.f) sc__law_caught_a fun cdv A outer s H E hr => by
  exact sb_cons (ss_try rfl rfl (takes_of rfl rfl rfl rfl) (fun W pn xe tk => sb_one (ss_expr (SE.w (se_call (ok__law_raise M) (hr.mono (by decide)) rfl M.d__law_raise.g M.d__law_raise.f.kp (b__law_raise M) tk (sa_cons (se_var (i := 0) rfl (Or.inl rfl)) (sa_cons (se_var (i := 1) rfl (Or.inl rfl)) sa_nil)))))) (Hs.named (i := 2) ⟨rfl, by decide, .inl M.e_InvalidText.gC⟩ sc__law_caught_a.nd rfl rfl (suite_ret M.e_InvalidText (c := (.int 0)) (i := 2) rfl (Or.inl rfl) fun a oe pn => se_int) (Hs.named (i := 2) ⟨rfl, by decide, .inl M.e_InvalidBook.gC⟩ sc__law_caught_a.nd rfl rfl (suite_ret M.e_InvalidBook (c := (.int 1)) (i := 2) rfl (Or.inl rfl) fun a oe pn => se_int) (Hs.named (i := 2) ⟨rfl, by decide, .inl M.e_InvalidOperation.gC⟩ sc__law_caught_a.nd rfl rfl (suite_ret M.e_InvalidOperation (c := (.int 2)) (i := 2) rfl (Or.inl rfl) fun a oe pn => se_int) (Hs.named (i := 2) ⟨rfl, by decide, .inl M.e_InvalidTable.gC⟩ sc__law_caught_a.nd rfl rfl (suite_ret M.e_InvalidTable (c := (.int 3)) (i := 2) rfl (Or.inl rfl) fun a oe pn => se_int) (Hs.named (i := 2) ⟨rfl, by decide, .inl M.e_InvalidKey.gC⟩ sc__law_caught_a.nd rfl rfl (suite_ret M.e_InvalidKey (c := (.int 4)) (i := 2) rfl (Or.inl rfl) fun a oe pn => se_int) (Hs.named (i := 2) ⟨rfl, by decide, .inl M.e_InvalidTree.gC⟩ sc__law_caught_a.nd rfl rfl (suite_ret M.e_InvalidTree (c := (.int 5)) (i := 2) rfl (Or.inl rfl) fun a oe pn => se_int) (Hs.named (i := 2) ⟨rfl, by decide, .inl M.e_InvalidProgram.gC⟩ sc__law_caught_a.nd rfl rfl (suite_ret M.e_InvalidProgram (c := (.int 6)) (i := 2) rfl (Or.inl rfl) fun a oe pn => se_int) (Hs.named (i := 2) ⟨rfl, by decide, .inl M.e_InvalidValues.gC⟩ sc__law_caught_a.nd rfl rfl (suite_ret M.e_InvalidValues (c := (.int 7)) (i := 2) rfl (Or.inl rfl) fun a oe pn => se_int) (Hs.named (i := 2) ⟨rfl, by decide, .inl M.e_InvalidChoices.gC⟩ sc__law_caught_a.nd rfl rfl (suite_ret M.e_InvalidChoices (c := (.int 8)) (i := 2) rfl (Or.inl rfl) fun a oe pn => se_int) Hs.nil))))))))) (.cons (hm_ret M.e_InvalidText rfl sc__law_caught_a.nd (M.kc (y := "InvalidText") (by decide))) (.cons (hm_ret M.e_InvalidBook rfl sc__law_caught_a.nd (M.kc (y := "InvalidBook") (by decide))) (.cons (hm_ret M.e_InvalidOperation rfl sc__law_caught_a.nd (M.kc (y := "InvalidOperation") (by decide))) (.cons (hm_ret M.e_InvalidTable rfl sc__law_caught_a.nd (M.kc (y := "InvalidTable") (by decide))) (.cons (hm_ret M.e_InvalidKey rfl sc__law_caught_a.nd (M.kc (y := "InvalidKey") (by decide))) (.cons (hm_ret M.e_InvalidTree rfl sc__law_caught_a.nd (M.kc (y := "InvalidTree") (by decide))) (.cons (hm_ret M.e_InvalidProgram rfl sc__law_caught_a.nd (M.kc (y := "InvalidProgram") (by decide))) (.cons (hm_ret M.e_InvalidValues rfl sc__law_caught_a.nd (M.kc (y := "InvalidValues") (by decide))) (.cons (hm_ret M.e_InvalidChoices rfl sc__law_caught_a.nd (M.kc (y := "InvalidChoices") (by decide))) HMs.nil))))))))))
      (sb_one (ss_ret se_non))

theorem b__law_caught_b (M : Mo P K mg) : Binds K (fdAt K (ga K "_law_caught_b")) ["_law_number", "_law_thing"] [] := M.d__law_caught_b.f.binds fun _ _ _ _ _ _ us hl => match us, hl with | [_, _], _ => rfl
theorem ok__law_caught_b (M : Mo P K mg) : FnOk P w K mg base (L2.CX P w) 5 (ga K "_law_caught_b") (fdAt K (ga K "_law_caught_b")) ["_law_number", "_law_thing"] (spF ⟨K, mg⟩ (["_law_number", "_law_thing"] : List Str).length fm__law_caught_b) := fn_sim (M.d__law_caught_b.f) sc__law_caught_b fun cdv A outer s H E hr => by
  exact sb_cons (ss_try rfl rfl (takes_of rfl rfl rfl rfl) (fun W pn xe tk => sb_one (ss_ret (se_call (ok__law_caught_a M) (hr.mono (by decide)) rfl M.d__law_caught_a.g M.d__law_caught_a.f.kp (b__law_caught_a M) tk (sa_cons (se_var (i := 0) rfl (Or.inl rfl)) (sa_cons (se_var (i := 1) rfl (Or.inl rfl)) sa_nil))))) (Hs.named (i := 2) ⟨rfl, by decide, .inl M.e_InvalidList.gC⟩ sc__law_caught_b.nd rfl rfl (suite_ret M.e_InvalidList (c := (.int 9)) (i := 2) rfl (Or.inl rfl) fun a oe pn => se_int) (Hs.named (i := 2) ⟨rfl, by decide, .inl M.e_InvalidRuns.gC⟩ sc__law_caught_b.nd rfl rfl (suite_ret M.e_InvalidRuns (c := (.int 10)) (i := 2) rfl (Or.inl rfl) fun a oe pn => se_int) (Hs.named (i := 2) ⟨rfl, by decide, .inl M.e_InvalidArrows.gC⟩ sc__law_caught_b.nd rfl rfl (suite_ret M.e_InvalidArrows (c := (.int 11)) (i := 2) rfl (Or.inl rfl) fun a oe pn => se_int) (Hs.named (i := 2) ⟨rfl, by decide, .inl M.e_InvalidPasses.gC⟩ sc__law_caught_b.nd rfl rfl (suite_ret M.e_InvalidPasses (c := (.int 12)) (i := 2) rfl (Or.inl rfl) fun a oe pn => se_int) (Hs.named (i := 2) ⟨rfl, by decide, .inl M.e_InvalidIndex.gC⟩ sc__law_caught_b.nd rfl rfl (suite_ret M.e_InvalidIndex (c := (.int 13)) (i := 2) rfl (Or.inl rfl) fun a oe pn => se_int) (Hs.named (i := 2) ⟨rfl, by decide, .inl M.e_InvalidPrices.gC⟩ sc__law_caught_b.nd rfl rfl (suite_ret M.e_InvalidPrices (c := (.int 14)) (i := 2) rfl (Or.inl rfl) fun a oe pn => se_int) (Hs.named (i := 2) ⟨rfl, by decide, .inl M.e_InvalidLot.gC⟩ sc__law_caught_b.nd rfl rfl (suite_ret M.e_InvalidLot (c := (.int 15)) (i := 2) rfl (Or.inl rfl) fun a oe pn => se_int) (Hs.named (i := 2) ⟨rfl, by decide, .inl M.e_InvalidCut.gC⟩ sc__law_caught_b.nd rfl rfl (suite_ret M.e_InvalidCut (c := (.int 16)) (i := 2) rfl (Or.inl rfl) fun a oe pn => se_int) (Hs.named (i := 2) ⟨rfl, by decide, .inl M.e_InvalidCode.gC⟩ sc__law_caught_b.nd rfl rfl (suite_ret M.e_InvalidCode (c := (.int 17)) (i := 2) rfl (Or.inl rfl) fun a oe pn => se_int) Hs.nil))))))))) (.cons (hm_ret M.e_InvalidList rfl sc__law_caught_b.nd (M.kc (y := "InvalidList") (by decide))) (.cons (hm_ret M.e_InvalidRuns rfl sc__law_caught_b.nd (M.kc (y := "InvalidRuns") (by decide))) (.cons (hm_ret M.e_InvalidArrows rfl sc__law_caught_b.nd (M.kc (y := "InvalidArrows") (by decide))) (.cons (hm_ret M.e_InvalidPasses rfl sc__law_caught_b.nd (M.kc (y := "InvalidPasses") (by decide))) (.cons (hm_ret M.e_InvalidIndex rfl sc__law_caught_b.nd (M.kc (y := "InvalidIndex") (by decide))) (.cons (hm_ret M.e_InvalidPrices rfl sc__law_caught_b.nd (M.kc (y := "InvalidPrices") (by decide))) (.cons (hm_ret M.e_InvalidLot rfl sc__law_caught_b.nd (M.kc (y := "InvalidLot") (by decide))) (.cons (hm_ret M.e_InvalidCut rfl sc__law_caught_b.nd (M.kc (y := "InvalidCut") (by decide))) (.cons (hm_ret M.e_InvalidCode rfl sc__law_caught_b.nd (M.kc (y := "InvalidCode") (by decide))) HMs.nil))))))))))
      (sb_one (ss_ret se_non))

theorem b__law_caught_c (M : Mo P K mg) : Binds K (fdAt K (ga K "_law_caught_c")) ["_law_number", "_law_thing"] [] := M.d__law_caught_c.f.binds fun _ _ _ _ _ _ us hl => match us, hl with | [_, _], _ => rfl
theorem ok__law_caught_c (M : Mo P K mg) : FnOk P w K mg base (L2.CX P w) 6 (ga K "_law_caught_c") (fdAt K (ga K "_law_caught_c")) ["_law_number", "_law_thing"] (spF ⟨K, mg⟩ (["_law_number", "_law_thing"] : List Str).length fm__law_caught_c) := fn_sim (M.d__law_caught_c.f) sc__law_caught_c fun cdv A outer s H E hr => by
  exact sb_cons (ss_try rfl rfl (takes_of rfl rfl rfl rfl) (fun W pn xe tk => sb_one (ss_ret (se_call (ok__law_caught_b M) (hr.mono (by decide)) rfl M.d__law_caught_b.g M.d__law_caught_b.f.kp (b__law_caught_b M) tk (sa_cons (se_var (i := 0) rfl (Or.inl rfl)) (sa_cons (se_var (i := 1) rfl (Or.inl rfl)) sa_nil))))) (Hs.named (i := 2) ⟨rfl, by decide, .inl M.e_InvalidRest.gC⟩ sc__law_caught_c.nd rfl rfl (suite_ret M.e_InvalidRest (c := (.int 18)) (i := 2) rfl (Or.inl rfl) fun a oe pn => se_int) (Hs.named (i := 2) ⟨rfl, by decide, .inl M.e_InvalidSorted.gC⟩ sc__law_caught_c.nd rfl rfl (suite_ret M.e_InvalidSorted (c := (.int 19)) (i := 2) rfl (Or.inl rfl) fun a oe pn => se_int) (Hs.named (i := 2) ⟨rfl, by decide, .inl M.e_InvalidShape.gC⟩ sc__law_caught_c.nd rfl rfl (suite_ret M.e_InvalidShape (c := (.int 20)) (i := 2) rfl (Or.inl rfl) fun a oe pn => se_int) (Hs.named (i := 2) ⟨rfl, by decide, .inl M.e_Refused.gC⟩ sc__law_caught_c.nd rfl rfl (suite_ret M.e_Refused (c := (.int 21)) (i := 2) rfl (Or.inl rfl) fun a oe pn => se_int) (Hs.named (i := 2) ⟨rfl, by decide, .inl M.e_InvalidSize.gC⟩ sc__law_caught_c.nd rfl rfl (suite_ret M.e_InvalidSize (c := (.int 22)) (i := 2) rfl (Or.inl rfl) fun a oe pn => se_int) (Hs.plain ⟨rfl, by decide, .inl M.e_InvalidKind.gC⟩ (suite_plain (m := (retM (tupM (consM (cM (.int 23)) (consM (varM 1) nilM))))) fun a oe pn => sb_one (ss_ret (se_tup (sa_cons se_int (sa_cons (se_var (i := 1) rfl (Or.inl rfl)) sa_nil))))) (Hs.plain ⟨rfl, by decide, .inl M.e_InvalidCommand.gC⟩ (suite_plain (m := (retM (tupM (consM (cM (.int 24)) (consM (varM 1) nilM))))) fun a oe pn => sb_one (ss_ret (se_tup (sa_cons se_int (sa_cons (se_var (i := 1) rfl (Or.inl rfl)) sa_nil))))) Hs.nil))))))) (.cons (hm_ret M.e_InvalidRest rfl sc__law_caught_c.nd (M.kc (y := "InvalidRest") (by decide))) (.cons (hm_ret M.e_InvalidSorted rfl sc__law_caught_c.nd (M.kc (y := "InvalidSorted") (by decide))) (.cons (hm_ret M.e_InvalidShape rfl sc__law_caught_c.nd (M.kc (y := "InvalidShape") (by decide))) (.cons (hm_ret M.e_Refused rfl sc__law_caught_c.nd (M.kc (y := "Refused") (by decide))) (.cons (hm_ret M.e_InvalidSize rfl sc__law_caught_c.nd (M.kc (y := "InvalidSize") (by decide))) (.cons (hm_plain (M.kc (y := "InvalidKind") (by decide))) (.cons (hm_plain (M.kc (y := "InvalidCommand") (by decide))) HMs.nil))))))))
      (sb_one (ss_ret se_non))

theorem b__law_is_base (M : Mo P K mg) : Binds K (fdAt K (ga K "_law_is_base")) ["_law_number", "_law_thing"] [] := M.d__law_is_base.f.binds fun _ _ _ _ _ _ us hl => match us, hl with | [_, _], _ => rfl
theorem ok__law_is_base (M : Mo P K mg) : FnOk P w K mg base (L2.CX P w) 4 (ga K "_law_is_base") (fdAt K (ga K "_law_is_base")) ["_law_number", "_law_thing"] (spF ⟨K, mg⟩ (["_law_number", "_law_thing"] : List Str).length fm__law_is_base) := fn_sim (M.d__law_is_base.f) sc__law_is_base fun cdv A outer s H E hr => by
  exact sb_cons (ss_try rfl rfl (takes_of rfl rfl rfl rfl) (fun W pn xe tk => sb_one (ss_expr (SE.w (se_call (ok__law_raise M) (hr.mono (by decide)) rfl M.d__law_raise.g M.d__law_raise.f.kp (b__law_raise M) tk (sa_cons (se_var (i := 0) rfl (Or.inl rfl)) (sa_cons (se_var (i := 1) rfl (Or.inl rfl)) sa_nil)))))) (Hs.plain ⟨rfl, by decide, .inl M.gb⟩ (suite_plain (m := (retM (cM (.bool true)))) fun a oe pn => sb_one (ss_ret se_bl)) Hs.nil) (.cons (hm_plain (M.kc (y := "FoldError") (by decide))) HMs.nil))
      (sb_one (ss_ret se_bl))

theorem b_law (M : Mo P K mg) : Binds K (fdAt K (ga K "law")) ["_law_script"] [] := M.d_law.f.binds fun _ _ _ _ _ _ us hl => match us, hl with | [_], _ => rfl
theorem ok_law (M : Mo P K mg) : FnOk P w K mg base (L2.CX P w) 7 (ga K "law") (fdAt K (ga K "law")) ["_law_script"] (spF ⟨K, mg⟩ (["_law_script"] : List Str).length fm_law) := fn_sim (M.d_law.f) sc_law fun cdv A outer s H E hr => by
  exact sb_cons (ss_box (i := 1) (ok__law_box M) (hr.mono (by decide)) rfl M.d__law_box.g M.d__law_box.f.kp (b__law_box M) (takes_of rfl rfl rfl rfl) sc_law.nd rfl (Or.inl rfl) (sa_cons (se_var (i := 0) rfl (Or.inl rfl)) (sa_cons se_int sa_nil)))
      (sb_cons (ss_for (passes_of rfl) rfl (si_rng1 rfl M.f_range (SE.w se_int)) (sg_name (i := 2) sc_law.nd rfl (Or.inl rfl)) (sb_cons (ss_set (i := 3) sc_law.nd rfl (Or.inl rfl) (se_callX (i := 1) (ok__law_pick M) (hr.mono (by decide)) rfl M.d__law_pick.g M.d__law_pick.f.kp (b__law_pick M) (takes_of rfl rfl rfl rfl) rfl (Or.inl rfl) (sa_cons (se_lst (sa_cons se_int (sa_cons (se_neg (SE.w se_int)) (sa_cons se_non (sa_cons se_str (sa_cons (se_tup (sa_cons se_int (sa_cons se_int sa_nil))) (sa_cons (se_lst (sa_cons se_int sa_nil)) (sa_cons se_bl (sa_cons se_int sa_nil))))))))) sa_nil)))
      (sb_one (ss_if (SWh.t (sh_or (st_cmp (o_ne (u64 hr)) (SE.w (se_call (ok__law_caught_c M) (hr.mono (by decide)) rfl M.d__law_caught_c.g M.d__law_caught_c.f.kp (b__law_caught_c M) (takes_of rfl rfl rfl rfl) (sa_cons (se_var (i := 2) rfl (Or.inl rfl)) (sa_cons (se_var (i := 3) rfl (Or.inl rfl)) sa_nil)))) (SE.w (se_tup (sa_cons (se_var (i := 2) rfl (Or.inl rfl)) (sa_cons (se_var (i := 3) rfl (Or.inl rfl)) sa_nil)))) (nomark _)) (sh_or1 (st_not (st_val (SE.w (se_call (ok__law_is_base M) (hr.mono (by decide)) rfl M.d__law_is_base.g M.d__law_is_base.f.kp (b__law_is_base M) (takes_of rfl rfl rfl rfl) (sa_cons (se_var (i := 2) rfl (Or.inl rfl)) (sa_cons (se_var (i := 3) rfl (Or.inl rfl)) sa_nil))))))))) (sb_one (ss_ret se_bl)) sb_nil))))
      (sb_cons (ss_set (i := 4) sc_law.nd rfl (Or.inl rfl) (se_tup (sa_cons (se_exAt (k := 1) M.e_InvalidText kw_at (hr.mono (by decide)) rfl (se_neg (SE.w se_int))) (sa_cons (se_exAt (k := 1) M.e_InvalidShape kw_at (hr.mono (by decide)) rfl se_int) (sa_cons (se_exAt (k := 1) M.e_InvalidSize kw_word (hr.mono (by decide)) rfl se_str) (sa_cons (se_exAt (k := 1) M.e_Refused kw_at (hr.mono (by decide)) rfl se_str) sa_nil))))))
      (sb_one (ss_ret (se_cmp (o_eq (u64 hr)) (SE.w (se_var (i := 4) rfl (Or.inl rfl))) (SE.w (se_tup (sa_cons (se_neg (SE.w se_int)) (sa_cons se_int (sa_cons se_str (sa_cons se_str sa_nil)))))) (nomark _))))))
end
end Fs


namespace Fs
open He PySem.W L2 PyProof.Rows PySem.Spec PySem
theorem take_ok (t : Int × Int × Int) {m : Int} (h0 : 0 < m) (h1 : m < 1073741824) : ∃ r t', fm__law_take t [.int m] = .ok (.int r) t' ∧ 0 ≤ r ∧ r < m := by
  obtain ⟨x, y, z⟩ := t
  have e0 : ∀ k : Int, 0 ≤ k % m ∧ k % m < m := fun k => ⟨Int.emod_nonneg _ (by omega), Int.emod_lt_of_pos _ h0⟩
  by_cases hx : 0 < x
  · simp [fm__law_take, fnBM, m__law_take, seqM, ifM, exprM, tstM, opM, bindM, R.bind, boxAtM, bxGet, tri, liftO, gtD, iiD, toB, setM, modD, cbM, consM, nilM, intF, varM, boxPutM, triPut, bxPut, retM, fdivD, skipM, cM, yes2, hx, h0, h1, e0]
  · simp [fm__law_take, fnBM, m__law_take, seqM, ifM, exprM, tstM, opM, bindM, R.bind, boxAtM, bxGet, tri, liftO, gtD, iiD, toB, setM, modD, cbM, consM, nilM, intF, varM, boxPutM, triPut, bxPut, retM, fdivD, skipM, cM, yes2, addD, mulD, hx, h0, h1, e0]
theorem atI_mem {α : Type} {xs : List α} {i : Int} (h0 : 0 ≤ i) (h1 : i < xs.length) : ∃ d, atI xs i = some d ∧ d ∈ xs := by
  have hl : i.toNat < xs.length := by omega
  refine ⟨xs[i.toNat], ?_, List.getElem_mem hl⟩
  unfold atI ixN
  rw [if_pos h0, if_pos h1]
  exact List.getElem?_eq_getElem hl
theorem pick_ok (t : Int × Int × Int) {xs : List PyData} (h0 : 0 < xs.length) (h1 : xs.length < 1000) : ∃ d t', fm__law_pick t [.list xs] = .ok d t' ∧ d ∈ xs := by
  obtain ⟨r, t', e, r0, r1⟩ := take_ok t (m := xs.length) (by omega) (by omega)
  obtain ⟨d, ed, hd⟩ := atI_mem r0 r1
  refine ⟨d, t', ?_, hd⟩
  obtain ⟨x, y, z⟩ := t
  obtain ⟨x', y', z'⟩ := t'
  simp [fm__law_pick, fnBM, m__law_pick, retM, exprM, opM, bindM, R.bind, varM, callX, consM, nilM, cbM, lenF, liftO, boxed, bxGet, bxPut, atD, e, ed]
theorem atI_zero {α : Type} {a : α} {xs : List α} : atI (a :: xs) 0 = some a := by
  have h : (0 : Int) < (((a :: xs).length : Nat) : Int) := by simp
  unfold atI ixN
  rw [if_pos (by decide), if_pos h]
  rfl
theorem atI_one {α : Type} {a b : α} {xs : List α} : atI (a :: b :: xs) 1 = some b := by
  have h : (1 : Int) < (((a :: b :: xs).length : Nat) : Int) := by simp; omega
  unfold atI ixN
  rw [if_pos (by decide), if_pos h]
  rfl
theorem box_ok (ns : List Int) : ∃ x y, fm__law_box [.list (ns.map .int), .int 0] = some [.int x, .int y, .int 0] := by
  have sz : (2 : Nat) ≤ sizeLine ∧ (3 : Nat) ≤ sizeLine := by rw [sizeLine_eq]; decide
  cases ns with
  | nil => exact ⟨_, _, rfl⟩
  | cons n ns =>
    have hp : (0 : Int) < (ns.length : Int) + 1 := by omega
    by_cases hn : (1000000000000000000 : Int) ≤ (if n < 0 then -n else n)
    · simp [fm__law_box, fnNM, m__law_box, seqN, setM, exprM, ifM, tstM, opM, bindM, R.bind, cM, varM, liftO, mulD, addD, ltD, iiD, yes2, cbM, consM, nilM, lenF, absF, atD, toB, retNewM, lstM, geD, powD, intF, modD, atI_zero, atI_one, sz, hn, hp]
    · simp [fm__law_box, fnNM, m__law_box, seqN, setM, exprM, ifM, tstM, opM, bindM, R.bind, cM, varM, liftO, mulD, addD, ltD, iiD, yes2, cbM, consM, nilM, lenF, absF, atD, toB, retNewM, lstM, geD, powD, intF, modD, atI_zero, atI_one, sz, hn, hp]
/-! ### the errors, one by one -/
def things : List PyData := [.int 0, .int (-1), .none, .str "words", .tuple [.int 1, .int 2], .list [.int 3], .bool true, .int 7]
theorem caught_all : ((List.range 25).map fun (i : Nat) => things.map fun d => fm__law_caught_c [.int i, d]) = (List.range 25).map fun (i : Nat) => things.map fun d => PR.ok (.tuple [.int i, d]) := by kernel_rfl
theorem base_all : ((List.range 25).map fun (i : Nat) => things.map fun d => fm__law_is_base [.int i, d]) = (List.range 25).map fun (i : Nat) => things.map fun d => PR.ok (.bool true) := by kernel_rfl
theorem caught_ok (i : Nat) (hi : i < 25) (d : PyData) (hd : d ∈ things) : fm__law_caught_c [.int i, d] = .ok (.tuple [.int i, d]) :=
  List.map_inj_left.mp (List.map_inj_left.mp caught_all i (List.mem_range.mpr hi)) d hd
theorem base_ok (i : Nat) (hi : i < 25) (d : PyData) (hd : d ∈ things) : fm__law_is_base [.int i, d] = .ok (.bool true) :=
  List.map_inj_left.mp (List.map_inj_left.mp base_all i (List.mem_range.mpr hi)) d hd
theorem same_all : ((List.range 25).map fun (i : Nat) => things.map fun d => neD (.tuple [.int i, d]) (.tuple [.int i, d])) = (List.range 25).map fun (i : Nat) => things.map fun d => some (.bool false) := by kernel_rfl
theorem same_ok (i : Nat) (hi : i < 25) (d : PyData) (hd : d ∈ things) : neD (.tuple [.int i, d]) (.tuple [.int i, d]) = some (.bool false) :=
  List.map_inj_left.mp (List.map_inj_left.mp same_all i (List.mem_range.mpr hi)) d hd
/-! ### the law -/
def bodyM : MS := (seqM (setM 3 (callX 1 1 fm__law_pick (consM (lstM (consM (cM (.int 0)) (consM (negM (cM (.int 1))) (consM (cM .none) (consM (cM (.str "words")) (consM (tupM (consM (cM (.int 1)) (consM (cM (.int 2)) nilM))) (consM (lstM (consM (cM (.int 3)) nilM)) (consM (cM (.bool true)) (consM (cM (.int 7)) nilM))))))))) nilM)))
  (ifM (orM (tstM (opM neD (callM 2 fm__law_caught_c (consM (varM 2) (consM (varM 3) nilM))) (tupM (consM (varM 2) (consM (varM 3) nilM))))) (notM (tstM (callM 2 fm__law_is_base (consM (varM 2) (consM (varM 3) nilM)))))) (retM (cM (.bool false))) skipM))
/-- the state ahead of a turn -/
def Good (ρ : En) (b : Bx) : Prop := ∃ (d : PyData) (s2 s3 : Sl) (x y z : Int), ρ = [.v d, .bx, s2, s3, .no] ∧ b = .ow x y z
theorem turn_ok {ρ : En} {b : Bx} (h : Good ρ b) {i : Nat} (hi : i < 25) : ∃ ρ' b', bodyM (ρ.set 2 (.v (.int i))) b = .nx ρ' b' ∧ Good ρ' b' := by
  obtain ⟨d0, s2, s3, x, y, z, rfl, rfl⟩ := h
  obtain ⟨d, t', ep, hd⟩ := pick_ok (x, y, z) (xs := things) (by decide) (by decide)
  have e1 := caught_ok i hi d hd
  have e2 := base_ok i hi d hd
  have e3 := same_ok i hi d hd
  have sz : (2 : Nat) ≤ sizeLine ∧ (8 : Nat) ≤ sizeLine ∧ (1 : Nat) ≤ sizeLine := by rw [sizeLine_eq]; decide
  obtain ⟨x', y', z'⟩ := t'
  refine ⟨[.v d0, .bx, .v (.int i), .v d, .no], .ow x' y' z', ?_, d0, _, _, x', y', z', rfl, rfl⟩
  have ep2 : fm__law_pick (x, y, z) [PyData.list [.int 0, .int (-1), .none, .str "words", .tuple [.int 1, .int 2], .list [.int 3], .bool true, .int 7]] = .ok d (x', y', z') := ep
  simp [bodyM, seqM, setM, exprM, callX, consM, nilM, bindM, R.bind, lstM, tupM, cM, negM, negF, liftO, boxed, bxGet, bxPut, ep2, sz, ifM, orM, iteM, tstM, opM, callM, varM, e1, e2, e3, toB, notM, bM, skipM]
theorem loop_ok (n : Nat) : ∀ (k : Nat) (ρ : En) (b : Bx), Good ρ b → k + n ≤ 25 → ∃ ρ' b', forL (nameT 2) bodyM ((List.range' k n).map fun (i : Nat) => PyData.int i) ρ b = .nx ρ' b' ∧ Good ρ' b' := by
  induction n with
  | zero => exact fun k ρ b h _ => ⟨ρ, b, rfl, h⟩
  | succ n ih =>
    intro k ρ b h hk
    obtain ⟨ρ1, b1, e1, g1⟩ := turn_ok h (i := k) (by omega)
    obtain ⟨ρ2, b2, e2, g2⟩ := ih (k + 1) ρ1 b1 g1 (by omega)
    have hl : 2 < ρ.length := by
      obtain ⟨_, _, _, _, _, _, rfl, _⟩ := h
      exact (by decide : 2 < 5)
    refine ⟨ρ2, b2, ?_, g2⟩
    rw [List.range'_succ, List.map_cons]
    unfold forL
    have e0 : nameT 2 (PyData.int (k : Int)) ρ = some (ρ.set 2 (.v (.int k))) := if_pos hl
    rw [e0]
    simp only
    rw [e1]
    exact e2
theorem rng_eq : rngL 0 25 = (List.range' 0 25).map fun (i : Nat) => PyData.int i := by kernel_rfl
theorem law_ok : LawOk 63 fm_law := fun ns hns => by
  obtain ⟨x, y, eb⟩ := box_ok ns
  have g0 : Good [.v (.list (ns.map .int)), .bx, .no, .no, .no] (.ow x y 0) := ⟨_, _, _, _, _, _, rfl, rfl⟩
  obtain ⟨ρ1, b1, e1, d, s2, s3, x1, y1, z1, rfl, rfl⟩ := loop_ok 25 0 _ _ g0 (by omega)
  rw [← rng_eq] at e1
  have sz : (4 : Nat) ≤ sizeLine := by rw [sizeLine_eq]; decide
  have eq : eqD (.tuple [.int (-1), .int 3, .str "x", .str "straight"]) (.tuple [.int (-1), .int 3, .str "x", .str "straight"]) = some (.bool true) := by kernel_rfl
  have em : m_law = seqM (boxNewM 1 2 fm__law_box (consM (varM 0) (consM (cM (.int 0)) nilM))) (seqM (forM (rng1M (cM (.int 25))) (nameT 2) bodyM)
    (seqM (setM 4 (tupM (consM (negM (cM (.int 1))) (consM (cM (.int 3)) (consM (cM (.str "x")) (consM (cM (.str "straight")) nilM))))))
    (retM (opM eqD (varM 4) (tupM (consM (negM (cM (.int 1))) (consM (cM (.int 3)) (consM (cM (.str "x")) (consM (cM (.str "straight")) nilM))))))))) := rfl
  unfold fm_law fnM
  rw [em]
  simp [seqM, boxNewM, exprM, consM, nilM, bindM, R.bind, varM, cM, eb, freeBx, dropBx, forM, rng1M, rng1F, liftO, e1, setM, tupM, negM, negF, sz, retM, opM, eq]
end Fs

namespace Fs
open He PySem.W L2 PyProof.Rows PySem.Spec PySem
abbrev RW0 : PySem.W.OpenRow := PySem.W.OpenLaw.row PySem.Challenge.rw_foldsall_k00_whole_errors_and_what_they
abbrev hk : PySem.W.Hook := hd.hook 4
def ob (s : PySem.W.SharedT) : AlX := hd.obsG 4 (HandSHeadRun.getT s)
theorem ob_eq (s : PySem.W.SharedT) : ob s = hk.obs s.abs := Hd.obsG_eq (HandSHeadRun.getT_eq s)
def lo : List PySem.Str := eb :: exs ++ (hd.fn.map (·.name)).dropLast
theorem run (w : World) : HandSHeadRun.RunEq RW0 (PySem.W.view RW0.prog [39]) hk ob 8000 lo w := by
  intro os
  kernel_rfl
theorem facts {w : World} {K : PySem.W.Frag} {h : Heap} {mg : Str → Option Value} {f : Addr} (X : K.In h) (G : h.Ns mainGlobals mg) (hfa : mg ("law" : Str) = some (.ref f)) (c : hd.says K) :
    ∃ fd : FuncData, (∀ (s : Shared) (v : Value), BindsTo s fd ⟨[v], []⟩ [("_law_script", v)]) ∧ ∀ base : Heap, K.In base → base.Ns mainGlobals mg → FnOk prg w K mg base (L2.CX prg w) 7 f fd ["_law_script"] (spF ⟨K, mg⟩ 1 fm_law) := by
  have M := mo_of X G c
  have e := hfa.symm.trans M.d_law.g
  cases e
  obtain ⟨oc, od, kV, doc, pm, an, cdv, ct, osl, e1, _, _⟩ := M.d_law.f.ex
  exact ⟨fdAt K (ga K "law"), fun s v => by rw [e1]; exact .of_eq rfl, fun base _ _ => ok_law M⟩
end Fs
open PyProof.Rows PySem.Calls PySem.W PySem
theorem PySem.Challenge.cw_foldsall_k00_whole_errors_and_what_they_holds : PySem.Challenge.rw_foldsall_k00_whole_errors_and_what_they.Holds := by
  w_on; o_law
  refine HandSHeadRun.head_any (r := Fs.RW0) (q := view Fs.RW0.prog [39]) (H := Fs.hk) (ob := Fs.ob) (M := 8000) (loose := Fs.lo) (d := HandSHeadRun.topDef Fs.RW0.prog 39) (kwd := []) Fs.ob_eq (by kernel_rfl) (fun s => by kernel_rfl) Fs.run
    (by kernel_rfl) (by kernel_rfl) (by kernel_rfl) (by rfl) (by first | assumption | decide +kernel) (by decide +kernel) ⟨rfl, rfl, rfl, rfl, rfl, by decide +kernel⟩ ?hw ?hc
  case hw => w_witness2
  case hc =>
    refine Fs.walk_ofX (l := PySem.Challenge.rw_foldsall_k00_whole_errors_and_what_they) (n := 63) (k := 7) (x := "_law_script") (fm := Fs.fm_law) rfl (by decide) (by kernel_rfl) ⟨rfl, by decide, by decide⟩ Fs.law_ok ?_
    intro w mg fa h Y G hmg0
    obtain ⟨K, KX, c⟩ := Y
    have hmg : mg ("law" : PySem.Str) = some (.ref fa) := by
      have e : (HandSHeadRun.topDef Fs.RW0.prog 39).name = ("law" : PySem.Str) := by kernel_rfl
      rw [← e]
      exact hmg0
    obtain ⟨fd, hb, hF⟩ := Fs.facts (w := w) KX G hmg c
    exact ⟨K, fd, KX, Fs.Hd.says.nol c, hb, hF⟩

