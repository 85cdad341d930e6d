import PyProof.Rows.All
import Wide.All
import OpenK.AllK
import Wide.FinOn
import HandS.ForMost
import HandS.ForExc
import HandS.Deep
import HandS.Flow
import HandS.TryMany
import HandS.CallSlots
import HandS.Lambda
import HandS.TupAny
import HandS.TupMul
import HandS.Style
import HandS.Wide
import HandS.ExcSuper
import KE.KExcInit
import KE.KExcSuper
import HandS.ExcField
import HandS.Head0
import HandS.Head1
import HandS.Head2
import HandS.HeadEnd
import HandS.HeadHook1
import HandS.HeadHook2
import HandS.EndBits
import HandS.HeadHook4
import HandS.NestedK
import HandS.EndTab
import HandS.IsInst
import KE.SortLaws
import KE.SortData
import KE.DataMinMax
import KE.DataFind
import KE.KTupSum
import KE.GoesMore
import HandS.Zip
import HandS.SetFor
import HandS.RaiseMore
import HandS.Conv
import HandS.DictComp
import HandS.TupLe
import KE.KEqSeq
import PySem.Challenge.RW_foldsall_k40_whole_how_many_answers_are
set_option Elab.async false
set_option linter.all false
set_option maxRecDepth 100000
set_option maxHeartbeats 0
/-! F1: data trees over the abstract heap, the state of a def (names that hold data, lists of its own, the box), readings that are total functions. -/
namespace Fs
open L2 PyProof.Rows PySem.Spec PySem

abbrev D := PyData
abbrev Own := Addr → Prop

/-! ### data at a value -/
def WrT (K : PySem.W.Frag) (a : Addr) (xs : List V) : Prop := SqT K (fun _ => none) a xs
theorem WrT.sq {K : PySem.W.Frag} {a : Addr} {xs : List V} (h : WrT K a xs) (H : Hp) : SqT K H a xs := by
  rcases h with (h | ⟨_, h⟩) | h
  · cases h
  · cases h
  · exact .inr h
/-- a list that is nobody's own -/
def TL (K : PySem.W.Frag) (O : Own) (H : Hp) (a : Addr) (xs : List V) : Prop := Rd H a (.lst xs) ∧ ¬ O a
def TU (K : PySem.W.Frag) (O : Own) (H : Hp) (a : Addr) (xs : List V) : Prop := (Rd H a (.tup xs) ∧ ¬ O a) ∨ WrT K a xs
theorem TL.sq {K : PySem.W.Frag} {O : Own} {H : Hp} {a : Addr} {xs : List V} (h : TL K O H a xs) : SqL K H a xs := .inl h.1
theorem TU.sq {K : PySem.W.Frag} {O : Own} {H : Hp} {a : Addr} {xs : List V} (h : TU K O H a xs) : SqT K H a xs := by
  rcases h with h | h
  · exact .inl h.1
  · exact h.sq H
/-- a dict that is nobody's own -/
def TK (O : Own) (H : Hp) (a : Addr) (kws : List (Key × V)) : Prop := Rd H a (.dK kws) ∧ ¬ O a
/-- a key as data -/
def keyD : Key → D
  | .inl i => .int i
  | .inr x => .str x
mutual
inductive RD (K : PySem.W.Frag) (O : Own) (H : Hp) : D → V → Prop
  | non : RD K O H .none .non
  | bl (b : Bool) : RD K O H (.bool b) (.bl b)
  | int (i : Int) : RD K O H (.int i) (.int i)
  | str (x : Str) : RD K O H (.str x) (.str x)
  | lst {a : Addr} {xs : List V} {ds : List D} : TL K O H a xs → RDs K O H ds xs → RD K O H (.list ds) (.ref a)
  | tup {a : Addr} {xs : List V} {ds : List D} : TU K O H a xs → RDs K O H ds xs → RD K O H (.tuple ds) (.ref a)
  | dct {a : Addr} {kws : List (Key × V)} {kvs : List (D × D)} : TK O H a kws → RDk K O H kvs kws → RD K O H (.dict kvs) (.ref a)
inductive RDs (K : PySem.W.Frag) (O : Own) (H : Hp) : List D → List V → Prop
  | nil : RDs K O H [] []
  | cons {d : D} {v : V} {ds : List D} {vs : List V} : RD K O H d v → RDs K O H ds vs → RDs K O H (d :: ds) (v :: vs)
inductive RDk (K : PySem.W.Frag) (O : Own) (H : Hp) : List (D × D) → List (Key × V) → Prop
  | nil : RDk K O H [] []
  | cons {key : Key} {d : D} {v : V} {kvs : List (D × D)} {kws : List (Key × V)} : RD K O H d v → RDk K O H kvs kws → RDk K O H ((keyD key, d) :: kvs) ((key, v) :: kws)
end
/-- a thing stands on; a table of code objects may grow -/
def KV (o : Option HO) : HO → Prop
  | .tbl _ => ∃ ps, o = some (.tbl ps)
  | u => o = some u
theorem KV.self {u : HO} : KV (some u) u := by cases u <;> first | rfl | exact ⟨_, rfl⟩
theorem KV.at {o : Option HO} {u : HO} (h : KV o u) (n : ∀ ps, u ≠ .tbl ps) : o = some u := by
  cases u with
  | tbl ps => exact absurd rfl (n ps)
  | _ => exact h
theorem KV.some {o : Option HO} {u : HO} (h : KV o u) : ∃ v, o = some v := by cases u <;> first | exact ⟨_, h⟩ | (obtain ⟨ps, h⟩ := h; exact ⟨_, h⟩)
/-- all stands on -/
def KeepS (H H' : Hp) : Prop := ∀ a u, H a = some u → H' a = some u
theorem KeepS.refl (H : Hp) : KeepS H H := fun _ _ h => h
theorem KeepS.trans {H H1 H2 : Hp} (a : KeepS H H1) (b : KeepS H1 H2) : KeepS H H2 := fun c u h => b c u (a c u h)
theorem KeepS.upd {H : Hp} {p : Addr} {o : HO} (h : H p = none) : KeepS H (upd H p o) := fun a u e => by
  rw [upd_ne (ne_of_none e h)]
  exact e
/-- what O does not own is kept -/
def Keep (O : Own) (H H' : Hp) : Prop := ∀ a u, H a = some u → ¬ O a → KV (H' a) u
abbrev nobody : Own := fun _ => False
theorem KeepS.of0 {O : Own} {H H' : Hp} (k : KeepS H H') : Keep O H H' := fun a u h _ => by
  rw [k a u h]
  exact .self
theorem Keep.refl (O : Own) (H : Hp) : Keep O H H := (KeepS.refl H).of0
theorem Keep.trans {O : Own} {H H1 H2 : Hp} (a : Keep O H H1) (b : Keep O H1 H2) : Keep O H H2 := fun c u h n => by
  have x := a c u h n
  cases u with
  | tbl ps => obtain ⟨ps1, x⟩ := x; exact b c (.tbl ps1) x n
  | _ => exact b c _ x n
theorem Keep.mono {O O' : Own} {H H' : Hp} (a : Keep O H H') (h : ∀ a, O a → O' a) : Keep O' H H' := fun c u e n => a c u e fun z => n (h c z)
theorem Keep.of0 {O : Own} {H H' : Hp} (a : Keep nobody H H') : Keep O H H' := a.mono fun _ z => z.elim
theorem Keep.upd {O : Own} {H : Hp} {p : Addr} {o : HO} (h : H p = none) : Keep O H (upd H p o) := (KeepS.upd h).of0
/-- what stands nowhere behind it stood nowhere ahead -/
theorem Keep.free {O : Own} {H H' : Hp} {a : Addr} (k : Keep O H H') (n : ¬ O a) (h : H' a = none) : H a = none := by
  cases e : H a with
  | none => rfl
  | some u =>
    obtain ⟨v, z⟩ := (k a u e n).some
    rw [h] at z
    cases z
theorem Rd.keep {O : Own} {H H' : Hp} {a : Addr} {u : HO} (h : Rd H a u) (n : ¬ O a) (k : Keep O H H') (nt : ∀ ps, u ≠ .tbl ps := by intro _ z; cases z) : Rd H' a u := by
  rcases h with h | ⟨o, h⟩
  · exact .inl ((k _ _ h n).at nt)
  · exact .inr ⟨o, k _ _ h n⟩
theorem rd_some {H : Hp} {a : Addr} {u : HO} (h : Rd H a u) : ∃ o, H a = some o := by
  rcases h with h | ⟨o, h⟩
  · exact ⟨_, h⟩
  · exact ⟨_, h⟩
section
variable {K : PySem.W.Frag} {O O' : Own} {H H' : Hp}
theorem TL.keep {a : Addr} {xs : List V} (h : TL K O H a xs) (k : Keep O H H') : TL K O H' a xs := ⟨Rd.keep h.1 h.2 k, h.2⟩
theorem TU.keep {a : Addr} {xs : List V} (h : TU K O H a xs) (k : Keep O H H') : TU K O H' a xs := by
  rcases h with ⟨h, n⟩ | h
  · exact .inl ⟨Rd.keep h n k, n⟩
  · exact .inr h
theorem TL.own {a : Addr} {xs : List V} (h : TL K O H a xs) (k : ∀ a u, H a = some u → O' a → O a) : TL K O' H a xs := by
  obtain ⟨o, e⟩ := rd_some h.1
  exact ⟨h.1, fun z => h.2 (k a o e z)⟩
theorem TU.own {a : Addr} {xs : List V} (h : TU K O H a xs) (k : ∀ a u, H a = some u → O' a → O a) : TU K O' H a xs := by
  rcases h with ⟨h, n⟩ | h
  · obtain ⟨o, e⟩ := rd_some h
    exact .inl ⟨h, fun z => n (k a o e z)⟩
  · exact .inr h
theorem TK.keep {a : Addr} {xs : List (Key × V)} (h : TK O H a xs) (k : Keep O H H') : TK O H' a xs := ⟨Rd.keep h.1 h.2 k, h.2⟩
theorem TK.own {a : Addr} {xs : List (Key × V)} (h : TK O H a xs) (k : ∀ a u, H a = some u → O' a → O a) : TK O' H a xs := by
  obtain ⟨o, e⟩ := rd_some h.1
  exact ⟨h.1, fun z => h.2 (k a o e z)⟩
mutual
theorem RD.keep (k : Keep O H H') : ∀ (d : D) (v : V), RD K O H d v → RD K O H' d v
  | .none, _, h => by cases h; exact .non
  | .bool b, _, h => by cases h; exact .bl b
  | .int i, _, h => by cases h; exact .int i
  | .str x, _, h => by cases h; exact .str x
  | .list ds, _, h => by
    cases h with
    | lst a b => exact .lst (a.keep k) (RDs.keep k ds _ b)
  | .tuple ds, _, h => by
    cases h with
    | tup a b => exact .tup (a.keep k) (RDs.keep k ds _ b)
  | .dict kvs, _, h => by
    cases h with
    | dct a b => exact .dct (a.keep k) (RDk.keep k kvs _ b)
theorem RDs.keep (k : Keep O H H') : ∀ (ds : List D) (vs : List V), RDs K O H ds vs → RDs K O H' ds vs
  | [], _, h => by cases h; exact .nil
  | d :: ds, _, h => by
    cases h with
    | cons a b => exact .cons (RD.keep k d _ a) (RDs.keep k ds _ b)
theorem RDk.keep (k : Keep O H H') : ∀ (kvs : List (D × D)) (kws : List (Key × V)), RDk K O H kvs kws → RDk K O H' kvs kws
  | [], _, h => by cases h; exact .nil
  | (_, d) :: kvs, _, h => by
    cases h with
    | cons a b => exact .cons (RD.keep k d _ a) (RDk.keep k kvs _ b)
end
mutual
theorem RD.own (k : ∀ a u, H a = some u → O' a → O a) : ∀ (d : D) (v : V), RD K O H d v → RD K O' H d v
  | .none, _, h => by cases h; exact .non
  | .bool b, _, h => by cases h; exact .bl b
  | .int i, _, h => by cases h; exact .int i
  | .str x, _, h => by cases h; exact .str x
  | .list ds, _, h => by
    cases h with
    | lst a b => exact .lst (a.own k) (RDs.own k ds _ b)
  | .tuple ds, _, h => by
    cases h with
    | tup a b => exact .tup (a.own k) (RDs.own k ds _ b)
  | .dict kvs, _, h => by
    cases h with
    | dct a b => exact .dct (a.own k) (RDk.own k kvs _ b)
theorem RDs.own (k : ∀ a u, H a = some u → O' a → O a) : ∀ (ds : List D) (vs : List V), RDs K O H ds vs → RDs K O' H ds vs
  | [], _, h => by cases h; exact .nil
  | d :: ds, _, h => by
    cases h with
    | cons a b => exact .cons (RD.own k d _ a) (RDs.own k ds _ b)
theorem RDk.own (k : ∀ a u, H a = some u → O' a → O a) : ∀ (kvs : List (D × D)) (kws : List (Key × V)), RDk K O H kvs kws → RDk K O' H kvs kws
  | [], _, h => by cases h; exact .nil
  | (_, d) :: kvs, _, h => by
    cases h with
    | cons a b => exact .cons (RD.own k d _ a) (RDk.own k kvs _ b)
end
mutual
theorem RD.dp : ∀ (d : D) (v : V), d.canLay0 = true → RD K O H d v → Dp K H v d
  | .none, _, _, h => by cases h; exact .non
  | .bool b, _, _, h => by cases h; exact .bl b
  | .int i, _, _, h => by cases h; exact .int i
  | .str x, _, _, h => by cases h; exact .str x
  | .list ds, _, n, h => by
    cases h with
    | lst a b => exact .lst a.sq (RDs.dp ds _ (by simpa [PyData.canLay0] using n) b)
  | .tuple ds, _, n, h => by
    cases h with
    | tup a b => exact .tup a.sq (RDs.dp ds _ (by simpa [PyData.canLay0] using n) b)
  | .dict _, _, n, _ => by simp [PyData.canLay0] at n
theorem RDs.dp : ∀ (ds : List D) (vs : List V), PyData.canLayAll0 ds = true → RDs K O H ds vs → DpAll K H vs ds
  | [], _, _, h => by cases h; exact .nil
  | d :: ds, _, n, h => by
    cases h with
    | cons a b =>
      have n' : d.canLay0 = true ∧ PyData.canLayAll0 ds = true := by simpa [PyData.canLayAll0] using n
      exact .cons (RD.dp d _ n'.1 a) (RDs.dp ds _ n'.2 b)
end
/- no list within -/
mutual
def noL : D → Bool
  | .list _ => false
  | .dict _ => false
  | .tuple ds => noLs ds
  | _ => true
def noLs : List D → Bool
  | [] => true
  | d :: ds => noL d && noLs ds
end
mutual
theorem RD.noL (k : ∀ a, O' a → O a ∨ ∃ xs, Rd H a (.lst xs)) : ∀ (d : D) (v : V), noL d = true → RD K O H d v → RD K O' H d v
  | .none, _, _, h => by cases h; exact .non
  | .bool b, _, _, h => by cases h; exact .bl b
  | .int i, _, _, h => by cases h; exact .int i
  | .str x, _, _, h => by cases h; exact .str x
  | .list ds, _, n, _ => by cases n
  | .tuple ds, _, n, h => by
    cases h with
    | tup a b =>
      refine .tup ?_ (RDs.noL k ds _ n b)
      rcases a with ⟨a, na⟩ | a
      · refine .inl ⟨a, fun z => ?_⟩
        rcases k _ z with z | ⟨xs, z⟩
        · exact na z
        · rcases a with a | ⟨o, a⟩ <;> rcases z with z | ⟨o', z⟩ <;> (rw [a] at z; cases z)
      · exact .inr a
  | .dict _, _, n, _ => by cases n
theorem RDs.noL (k : ∀ a, O' a → O a ∨ ∃ xs, Rd H a (.lst xs)) : ∀ (ds : List D) (vs : List V), noLs ds = true → RDs K O H ds vs → RDs K O' H ds vs
  | [], _, _, h => by cases h; exact .nil
  | d :: ds, _, n, h => by
    cases h with
    | cons a b =>
      have n' : Fs.noL d = true ∧ noLs ds = true := by simpa [noLs] using n
      exact .cons (RD.noL k d _ n'.1 a) (RDs.noL k ds _ n'.2 b)
end
theorem RDs.length : ∀ {ds : List D} {vs : List V}, RDs K O H ds vs → ds.length = vs.length
  | [], _, h => by cases h; rfl
  | _ :: _, _, h => by
    cases h with
    | cons _ b => simp [RDs.length b]
theorem RDs.get : ∀ {ds : List D} {vs : List V} {i : Nat} {d : D}, RDs K O H ds vs → ds[i]? = some d → ∃ v, vs[i]? = some v ∧ RD K O H d v
  | [], _, _, _, h, e => by simp at e
  | _ :: _, _, 0, _, h, e => by
    cases h with
    | cons a b => simp at e; subst e; exact ⟨_, rfl, a⟩
  | _ :: _, _, i + 1, _, h, e => by
    cases h with
    | cons a b =>
      obtain ⟨v, h1, h2⟩ := RDs.get (i := i) b (by simpa using e)
      exact ⟨v, by simpa using h1, h2⟩
theorem RDs.append : ∀ {ds es : List D} {vs ws : List V}, RDs K O H ds vs → RDs K O H es ws → RDs K O H (ds ++ es) (vs ++ ws)
  | [], _, _, _, h, g => by cases h; exact g
  | _ :: _, _, _, _, h, g => by
    cases h with
    | cons a b => exact .cons a (RDs.append b g)
theorem RDs.take : ∀ {ds : List D} {vs : List V} (n : Nat), RDs K O H ds vs → RDs K O H (ds.take n) (vs.take n)
  | _, _, 0, _ => by simp only [List.take_zero]; exact .nil
  | [], _, _ + 1, h => by cases h; exact .nil
  | _ :: _, _, n + 1, h => by
    cases h with
    | cons a b => exact .cons a (RDs.take n b)
theorem RDs.drop : ∀ {ds : List D} {vs : List V} (n : Nat), RDs K O H ds vs → RDs K O H (ds.drop n) (vs.drop n)
  | _, _, 0, h => h
  | [], _, _ + 1, h => by cases h; exact .nil
  | _ :: _, _, n + 1, h => by
    cases h with
    | cons a b => exact RDs.drop n b
theorem RDs.set : ∀ {ds : List D} {vs : List V} {d : D} {v : V} (n : Nat), RDs K O H ds vs → RD K O H d v → RDs K O H (ds.set n d) (vs.set n v)
  | [], _, _, _, _, h, _ => by cases h; exact .nil
  | _ :: _, _, _, _, 0, h, r => by
    cases h with
    | cons a b => exact .cons r b
  | _ :: _, _, _, _, n + 1, h, r => by
    cases h with
    | cons a b => exact .cons a (RDs.set n b r)
theorem RDs.reverse : ∀ {ds : List D} {vs : List V}, RDs K O H ds vs → RDs K O H ds.reverse vs.reverse
  | [], _, h => by cases h; exact .nil
  | d :: ds, _, h => by
    cases h with
    | cons a b =>
      rw [List.reverse_cons, List.reverse_cons]
      exact RDs.append (RDs.reverse b) (.cons a .nil)
theorem RDs.ints : ∀ {ns : List Int} {vs : List V}, RDs K O H (ns.map PyData.int) vs → vs = ns.map V.int
  | [], _, h => by cases h; rfl
  | n :: ns, _, h => by
    cases h with
    | cons a b => cases a; rw [RDs.ints b]; rfl
theorem RDs.bls : ∀ {ns : List Bool} {vs : List V}, RDs K O H (ns.map PyData.bool) vs → vs = ns.map V.bl
  | [], _, h => by cases h; rfl
  | n :: ns, _, h => by
    cases h with
    | cons a b => cases a; rw [RDs.bls b]; rfl
theorem RDs.of_ints : ∀ (ns : List Int), RDs K O H (ns.map PyData.int) (ns.map V.int)
  | [] => .nil
  | n :: ns => .cons (.int n) (RDs.of_ints ns)
/-- data, or a list that is somebody's own (not B's), whose items are data -/
def RW (K : PySem.W.Frag) (O B : Own) (H : Hp) (d : D) (v : V) : Prop :=
  RD K O H d v ∨ ∃ (ds : List D) (vs : List V) (a : Addr), d = .list ds ∧ v = .ref a ∧ TL K B H a vs ∧ RDs K O H ds vs
variable {B : Own}
theorem RW.rl {ds : List D} {v : V} (h : RW K O B H (.list ds) v) : ∃ a vs, v = .ref a ∧ Rd H a (.lst vs) ∧ RDs K O H ds vs := by
  rcases h with h | ⟨ds', vs, a, e, e2, h1, h2⟩
  · cases h with
    | lst a b => exact ⟨_, _, rfl, a.1, b⟩
  · cases e
    exact ⟨a, vs, e2, h1.1, h2⟩
theorem RW.lst {ds : List D} {v : V} (h : RW K O B H (.list ds) v) : ∃ a vs, v = .ref a ∧ SqL K H a vs ∧ RDs K O H ds vs := by
  obtain ⟨a, vs, e, r, q⟩ := h.rl
  exact ⟨a, vs, e, .inl r, q⟩
theorem RW.rd {d : D} {v : V} (h : RW K O B H d v) (n : ∀ ds, d ≠ .list ds) : RD K O H d v := by
  rcases h with h | ⟨ds', vs, a, e, e2, h1, h2⟩
  · exact h
  · exact absurd e (n ds')
theorem RW.tup {ds : List D} {v : V} (h : RW K O B H (.tuple ds) v) : ∃ a vs, v = .ref a ∧ SqT K H a vs ∧ RDs K O H ds vs := by
  cases h.rd (fun _ e => by cases e) with
  | tup a b => exact ⟨_, _, rfl, a.sq, b⟩
theorem RW.dp {d : D} {v : V} (h : RW K O B H d v) (n : d.canLay0 = true) : Dp K H v d := by
  rcases h with h | ⟨ds, vs, a, e, e2, h1, h2⟩
  · exact RD.dp _ _ n h
  · subst e e2
    exact .lst h1.sq (RDs.dp _ _ (by simpa [PyData.canLay0] using n) h2)
theorem RW.int {i : Int} {v : V} (h : RW K O B H (.int i) v) : v = .int i := by
  cases h.rd (fun _ e => by cases e); rfl
theorem RW.bl {i : Bool} {v : V} (h : RW K O B H (.bool i) v) : v = .bl i := by
  cases h.rd (fun _ e => by cases e); rfl
theorem RW.str {i : Str} {v : V} (h : RW K O B H (.str i) v) : v = .str i := by
  cases h.rd (fun _ e => by cases e); rfl
theorem RW.non {v : V} (h : RW K O B H .none v) : v = .non := by
  cases h.rd (fun _ e => by cases e); rfl
theorem RW.keep {d : D} {v : V} (h : RW K O B H d v) (s : ∀ a, B a → O a) (k : Keep B H H') : RW K O B H' d v := by
  rcases h with h | ⟨ds, vs, a, e, e2, h1, h2⟩
  · exact .inl (h.keep (k.mono s))
  · exact .inr ⟨ds, vs, a, e, e2, h1.keep k, h2.keep (k.mono s)⟩
/-- what is owned is a list that stands; B is among it -/
structure Gd (O B : Own) (H : Hp) : Prop where
  sub : ∀ a, B a → O a
  lst : ∀ a, O a → ∃ xs, Rd H a (.lst xs)
theorem Gd.free (G : Gd O B H) {p : Addr} (h : H p = none) : ¬ O p := fun z => by
  obtain ⟨xs, e⟩ := G.lst p z
  obtain ⟨o, e⟩ := rd_some e
  rw [h] at e; cases e
theorem RD.newT (G : Gd O B H) {p : Addr} {ds : List D} {vs : List V} (h : H p = none) (r : RDs K O H ds vs) : RD K O (upd H p (.tup vs)) (.tuple ds) (.ref p) :=
  .tup (.inl ⟨.inl upd_same, G.free h⟩) (r.keep (Keep.upd h))
theorem RD.newL (G : Gd O B H) {p : Addr} {ds : List D} {vs : List V} (h : H p = none) (r : RDs K O H ds vs) : RD K O (upd H p (.lst vs)) (.list ds) (.ref p) :=
  .lst ⟨.inl upd_same, G.free h⟩ (r.keep (Keep.upd h))
inductive RWs (K : PySem.W.Frag) (O B : Own) (H : Hp) : List D → List V → Prop
  | nil : RWs K O B H [] []
  | cons {d : D} {v : V} {ds : List D} {vs : List V} : RW K O B H d v → RWs K O B H ds vs → RWs K O B H (d :: ds) (v :: vs)
theorem RWs.keep (s : ∀ a, B a → O a) (k : Keep B H H') : ∀ {ds : List D} {vs : List V}, RWs K O B H ds vs → RWs K O B H' ds vs
  | _, _, .nil => .nil
  | _, _, .cons a b => .cons (a.keep s k) (RWs.keep s k b)
theorem RWs.one {d : D} {vs : List V} (h : RWs K O B H [d] vs) : ∃ v, vs = [v] ∧ RW K O B H d v := by
  cases h with
  | cons a b => cases b; exact ⟨_, rfl, a⟩
theorem RWs.two {d e : D} {vs : List V} (h : RWs K O B H [d, e] vs) : ∃ v w, vs = [v, w] ∧ RW K O B H d v ∧ RW K O B H e w := by
  cases h with
  | cons a b =>
    obtain ⟨w, rfl, q⟩ := b.one
    exact ⟨_, w, rfl, a, q⟩
theorem RWs.length : ∀ {ds : List D} {vs : List V}, RWs K O B H ds vs → ds.length = vs.length
  | _, _, .nil => rfl
  | _, _, .cons _ b => by simp [RWs.length b]
end
end Fs

/-! F2: the state of a def by names; readings as total functions. -/
namespace Fs
open L2 PyProof.Rows PySem.Spec PySem

/-- the box of draws: none, the caller's, one's own -/
inductive Bx where
  | no
  | fo (x y z : Int)
  | ow (x y z : Int)
/-- an error of the package: its class, its field, what it keeps -/
structure Exn where
  cls : Str
  fld : Str
  arg : Option D
inductive R (α : Type) where
  | ok (a : α) (b : Bx)
  | ex (e : Exn) (b : Bx)
  | bad
/-- what a name holds -/
inductive Sl where
  | no
  | v (d : D)
  | own (xs : List D)
  | lk (xs : List D)
  | bx
  | fn (j : Nat)
abbrev En := List Sl
abbrev ME (α : Type) := En → Bx → R α
inductive SR where
  | nx (ρ : En) (b : Bx)
  | rt (d : D) (b : Bx)
  | bk (ρ : En) (b : Bx)
  | ct (ρ : En) (b : Bx)
  | ex (e : Exn) (ρ : En) (b : Bx)
  | bad
abbrev MS := En → Bx → SR
def R.bind {α γ : Type} (r : R α) (f : α → Bx → R γ) : R γ := match r with
  | .ok a b => f a b
  | .ex e b => .ex e b
  | .bad => .bad
def bindM {α γ : Type} (m : ME α) (f : α → ME γ) : ME γ := fun ρ b => (m ρ b).bind fun a b' => f a ρ b'
/-- of a total answer -/
def liftO {α : Type} (o : Option α) : ME α := fun _ b => match o with
  | some a => .ok a b
  | none => .bad

/-- the tables of code objects that the program's defs write lambdas into -/
class LT where
  tabs : PySem.W.Frag → List (Addr × Str)
/-- the ground: what stood at the entry, what the callers own, the callers' box -/
structure Gh where
  H0 : Hp
  Of : Own
  fo : Option Addr
  la : Nat → Addr := fun _ => 0
  T : List (Addr × Str) := []
  fa : Nat → Addr := fun _ => 0
/-- the module -/
structure Zx where
  K : PySem.W.Frag
  mg : Str → Option Value
def OW (g : Gh) (ρ : En) (α : Nat → Addr) (β : Option Addr) : Own := fun a => g.Of a ∨ β = some a ∨ ∃ i xs, ρ[i]? = some (.own xs) ∧ α i = a
def BxV (x y z : Int) : HO := .lst [.int x, .int y, .int z]
def BxR0 (g : Gh) (H : Hp) (b : Bx) (β : Option Addr) : Prop := match b with
  | .no => β = none ∧ g.fo = none
  | .fo x y z => ∃ a, β = some a ∧ g.fo = some a ∧ H a = some (BxV x y z)
  | .ow x y z => ∃ a, β = some a ∧ g.fo = none ∧ g.H0 a = none ∧ H a = some (BxV x y z)
/-- the box, the tables -/
def BxR (g : Gh) (H : Hp) (b : Bx) (β : Option Addr) : Prop := BxR0 g H b β ∧ LamX.Tabs g.T H
structure RE [LT] (K : PySem.W.Frag) (g : Gh) (H : Hp) (ρ : En) (b : Bx) (σ : L2.St) (α : Nat → Addr) (β : Option Addr) : Prop where
  len : ρ.length = σ.length
  evo : Keep (fun a => g.fo = some a) g.H0 H
  oft : ∀ a, g.Of a → ∃ xs, Rd g.H0 a (.lst xs)
  ofo : ∀ a, g.fo = some a → ¬ g.Of a ∧ ∃ xs, g.H0 a = some (.lst xs)
  val : ∀ (i : Nat) (d : D), ρ[i]? = some (.v d) → ∃ v, σ[i]? = some (some v) ∧ RD K (OW g ρ α β) H d v
  own : ∀ (i : Nat) (xs : List D), ρ[i]? = some (.own xs) → ∃ vs, σ[i]? = some (some (V.ref (α i))) ∧ H (α i) = some (.lst vs) ∧ RDs K (OW g ρ α β) H xs vs ∧ g.H0 (α i) = none ∧ β ≠ some (α i)
  inj : ∀ (i j : Nat) (xs ys : List D), ρ[i]? = some (.own xs) → ρ[j]? = some (.own ys) → α i = α j → i = j
  lck : ∀ (i : Nat) (xs : List D), ρ[i]? = some (.lk xs) → ∃ vs, σ[i]? = some (some (V.ref (g.la i))) ∧ g.Of (g.la i) ∧ Rd g.H0 (g.la i) (.lst vs) ∧ RDs K (OW g ρ α β) H xs vs
  bxs : ∀ (i : Nat), ρ[i]? = some .bx → ∃ a, β = some a ∧ σ[i]? = some (some (V.ref a))
  box : BxR g H b β
  tt : g.T = LT.tabs K
  fns : ∀ (i j : Nat), ρ[i]? = some (.fn j) → σ[i]? = some (some (V.ref (g.fa j)))

section
variable [LT] {K : PySem.W.Frag} {g : Gh} {H H' : Hp} {ρ : En} {b b' : Bx} {σ : L2.St} {α : Nat → Addr} {β : Option Addr}
/-- what is owned is a list -/
theorem RE.ownL (r : RE K g H ρ b σ α β) : ∀ a, OW g ρ α β a → ∃ xs, Rd H a (.lst xs) := fun a h => by
  rcases h with h | h | ⟨i, xs, e, h⟩
  · obtain ⟨xs, e⟩ := r.oft a h
    exact ⟨xs, Rd.keep e (fun z => (r.ofo a z).1 h) r.evo⟩
  · have q := r.box.1
    cases b with
    | no => rw [q.1] at h; cases h
    | fo x y z =>
      obtain ⟨a', e1, _, e3⟩ := q
      rw [h] at e1; cases e1
      exact ⟨_, .inl e3⟩
    | ow x y z =>
      obtain ⟨a', e1, _, _, e3⟩ := q
      rw [h] at e1; cases e1
      exact ⟨_, .inl e3⟩
  · obtain ⟨vs, _, e2, _⟩ := r.own i xs e
    exact ⟨vs, by rw [← h]; exact .inl e2⟩
/-- the box's address is the callers', or new -/
theorem RE.bxNew (r : RE K g H ρ b σ α β) : ∀ a, β = some a → g.fo = some a ∨ (g.fo = none ∧ g.H0 a = none) := fun a h => by
  have q := r.box.1
  cases b with
  | no => rw [q.1] at h; cases h
  | fo x y z =>
    obtain ⟨a', e1, e2, _⟩ := q
    rw [h] at e1; cases e1
    exact .inl e2
  | ow x y z =>
    obtain ⟨a', e1, e0, e2, _⟩ := q
    rw [h] at e1; cases e1
    exact .inr ⟨e0, e2⟩
theorem RE.foB' (r : RE K g H ρ b σ α β) {a : Addr} (h : g.fo = some a) : β = some a := by
  have q := r.box.1
  cases b with
  | no => rw [q.2] at h; cases h
  | fo x y z =>
    obtain ⟨a', e1, e2, _⟩ := q
    rw [h] at e2; cases e2
    exact e1
  | ow x y z =>
    obtain ⟨a', _, e2, _⟩ := q
    rw [h] at e2; cases e2
/-- what the ground's owners own is not the box -/
theorem RE.ofB (r : RE K g H ρ b σ α β) {a : Addr} (h : g.Of a) : β ≠ some a := fun z => by
  rcases r.bxNew a z with z | ⟨_, z⟩
  · exact (r.ofo a z).1 h
  · obtain ⟨xs, e⟩ := r.oft a h
    obtain ⟨o, e⟩ := rd_some e
    rw [z] at e; cases e
/-- an expression has run: all but the box is kept -/
theorem RE.step (r : RE K g H ρ b σ α β) (k : Keep (fun a => β = some a) H H') (q : BxR g H' b' β) : RE K g H' ρ b' σ α β := by
  have kO : Keep (OW g ρ α β) H H' := k.mono fun a h => .inr (.inl h)
  have ev : Keep (fun a => g.fo = some a) g.H0 H' := fun a u e n => by
    refine ((r.evo.mono fun a h => Or.inl h).trans (k.mono fun a h => Or.inr h) : Keep (fun a => g.fo = some a ∨ β = some a) g.H0 H') a u e fun z => ?_
    rcases z with z | z
    · exact n z
    · rcases r.bxNew a z with z | ⟨_, z⟩
      · exact n z
      · rw [z] at e; cases e
  refine ⟨r.len, ev, r.oft, r.ofo, fun i d e => ?_, fun i xs e => ?_, r.inj, fun i xs e => ?_, r.bxs, q, r.tt, r.fns⟩
  · obtain ⟨v, e1, e2⟩ := r.val i d e
    exact ⟨v, e1, e2.keep kO⟩
  · obtain ⟨vs, e1, e2, e3, e4, e5⟩ := r.own i xs e
    exact ⟨vs, e1, k _ _ e2 e5, e3.keep kO, e4, e5⟩
  · obtain ⟨vs, e1, e2, e3, e4⟩ := r.lck i xs e
    exact ⟨vs, e1, e2, e3, e4.keep kO⟩
/-- a locked list, as it stands -/
theorem RE.lkd (r : RE K g H ρ b σ α β) {i : Nat} {xs : List D} (e : ρ[i]? = some (.lk xs)) : ∃ vs a, σ[i]? = some (some (V.ref a)) ∧ TL K (fun a => β = some a) H a vs ∧ RDs K (OW g ρ α β) H xs vs := by
  obtain ⟨vs, e1, e2, e3, e4⟩ := r.lck i xs e
  exact ⟨vs, g.la i, e1, ⟨Rd.keep e3 (fun z => (r.ofo _ z).1 e2) r.evo, r.ofB e2⟩, e4⟩
end
end Fs

/-! F3: readings; the rules of expressions. -/
namespace Fs
open L2 PyProof.Rows PySem.Spec PySem
variable [LT]

/-- what is raised, by its class's name -/
def ExR (Z : Zx) (O : Own) (H : Hp) (e : Exn) (cls : Value) (dd : Option Addr) : Prop :=
  ∃ C : Addr, Z.mg e.cls = some (.ref C) ∧ cls = .ref C ∧ match e.arg with
    | none => dd = none
    | some d => ∃ p v, dd = some p ∧ H p = some (.xd [(e.fld, v)]) ∧ RD Z.K O H d v
abbrev Rl (τ υ : Type) := Own → Own → Hp → τ → υ → Prop
abbrev Bs (β : Option Addr) : Own := fun a => β = some a
def PostR {τ υ : Type} (Z : Zx) (L : Rl τ υ) (W : WX) (O : Own) (g : Gh) (β : Option Addr) (σ : L2.St) (H : Hp) (Q : υ → Hp → Prop) : R τ → Prop
  | .ok a b' => ∀ x H', L O (Bs β) H' a x → Keep (Bs β) H H' → BxR g H' b' β → Q x H'
  | .ex e b' => ∀ cls dd H', ExR Z O H' e cls dd → Keep (Bs β) H H' → BxR g H' b' β → W cls dd σ H'
  | .bad => False
def tR {τ υ : Type} (Z : Zx) (L : Rl τ υ) (W : WX) (m : ME τ) : L2.St → Hp → (υ → Hp → Prop) → Prop := fun σ H Q =>
  ∃ g ρ b α β, RE Z.K g H ρ b σ α β ∧ PostR Z L W (OW g ρ α β) g β σ H Q (m ρ b)
abbrev lD (K : PySem.W.Frag) : Rl D V := fun O _ H d v => RD K O H d v
abbrev lW (K : PySem.W.Frag) : Rl D V := fun O B H d v => RW K O B H d v
abbrev lDs (K : PySem.W.Frag) : Rl (List D) (List V) := fun O _ H d v => RDs K O H d v
abbrev lWs (K : PySem.W.Frag) : Rl (List D) (List V) := fun O B H d v => RWs K O B H d v
abbrev lB : Rl Bool Bool := fun _ _ _ a b => a = b
/-- it stays when the heap goes on -/
def Pers {τ υ : Type} (L : Rl τ υ) : Prop := ∀ O B H H' a x, (∀ a, B a → O a) → Keep B H H' → L O B H a x → L O B H' a x
theorem pers_D {K : PySem.W.Frag} : Pers (lD K) := fun O B H H' a x s k h => RD.keep (k.mono s) _ _ h
theorem pers_W {K : PySem.W.Frag} : Pers (lW K) := fun O B H H' a x s k h => RW.keep h s k
theorem pers_Ds {K : PySem.W.Frag} : Pers (lDs K) := fun O B H H' a x s k h => RDs.keep (k.mono s) _ _ h
theorem pers_Ws {K : PySem.W.Frag} : Pers (lWs K) := fun O B H H' a x s k h => RWs.keep s k h
theorem pers_B : Pers lB := fun O B H H' a x s k h => h
section
variable {K : PySem.W.Frag} {g : Gh} {H H' : Hp} {ρ : En} {b b' : Bx} {σ : L2.St} {α : Nat → Addr} {β : Option Addr}
theorem RE.gd (r : RE K g H ρ b σ α β) : Gd (OW g ρ α β) (Bs β) H := ⟨fun _ h => .inr (.inl h), r.ownL⟩
end
section
variable {Z : Zx} {τ τ2 τ3 υ υ2 υ3 : Type} {L : Rl τ υ} {L2' : Rl τ2 υ2} {L3 : Rl τ3 υ3} {W : WX} {σ : L2.St} {H H1 : Hp}
theorem PostR.at {O : Own} {g : Gh} {β : Option Addr} {Q : υ → Hp → Prop} {r : R τ} (h : PostR Z L W O g β σ H Q r) (k : Keep (Bs β) H H1) : PostR Z L W O g β σ H1 Q r := by
  cases r with
  | ok a b => exact fun x H' l k' q => h x H' l (k.trans k') q
  | ex e b => exact fun c d H' l k' q => h c d H' l (k.trans k') q
  | bad => exact h
/-- one ahead of the rest -/
theorem post_bind {O : Own} {g : Gh} {β : Option Addr} {ρ : En} {b : Bx} {Q : υ2 → Hp → Prop} {Q1 : υ → Hp → Prop} {ma : ME τ} {f : τ → ME τ2} (h : PostR Z L2' W O g β σ H Q (bindM ma f ρ b))
    (k : ∀ a b' x H1, L O (Bs β) H1 a x → Keep (Bs β) H H1 → BxR g H1 b' β → PostR Z L2' W O g β σ H1 Q (f a ρ b') → Q1 x H1) : PostR Z L W O g β σ H Q1 (ma ρ b) := by
  unfold bindM at h
  cases e : ma ρ b with
  | ok a b' =>
    rw [e] at h
    exact fun x H1 l k1 q => k a b' x H1 l k1 q (PostR.at h k1)
  | ex x b' =>
    rw [e] at h
    exact h
  | bad =>
    rw [e] at h
    exact h
theorem tR_bind {Q : υ2 → Hp → Prop} {Q1 : υ → Hp → Prop} {ma : ME τ} {f : τ → ME τ2} (h : tR Z L2' W (bindM ma f) σ H Q)
    (k : ∀ g ρ b α β a x H1, RE Z.K g H1 ρ b σ α β → L (OW g ρ α β) (Bs β) H1 a x → PostR Z L2' W (OW g ρ α β) g β σ H1 Q (f a ρ b) → Q1 x H1) : tR Z L W ma σ H Q1 := by
  obtain ⟨g, ρ, b, α, β, r, p⟩ := h
  exact ⟨g, ρ, b, α, β, r, post_bind p fun a b' x H1 l k1 q p1 => k g ρ b' α β a x H1 (r.step k1 q) l p1⟩
/-- two ahead of the rest -/
theorem tR_bind2 {Q : υ3 → Hp → Prop} {Q1 : υ → υ2 → Hp → Prop} {ma : ME τ} {mb : ME τ2} {f : τ → τ2 → ME τ3} (P : Pers L) (h : tR Z L3 W (bindM ma fun x => bindM mb fun y => f x y) σ H Q)
    (k : ∀ g ρ b α β a c x y H1, RE Z.K g H1 ρ b σ α β → L (OW g ρ α β) (Bs β) H1 a x → L2' (OW g ρ α β) (Bs β) H1 c y → PostR Z L3 W (OW g ρ α β) g β σ H1 Q (f a c ρ b) → Q1 x y H1) :
    tR Z L W ma σ H fun x H1 => tR Z L2' W mb σ H1 fun y H2 => Q1 x y H2 := by
  refine tR_bind (L := L) h fun g ρ b α β a x H1 r l p => ?_
  refine ⟨g, ρ, b, α, β, r, post_bind p fun c b' y H2 l2 k2 q p2 => ?_⟩
  exact k g ρ b' α β a c x y H2 (r.step k2 q) (P _ _ _ _ _ _ (fun _ h => .inr (.inl h)) k2 l) l2 p2
theorem post_lift {O : Own} {g : Gh} {β : Option Addr} {ρ : En} {b : Bx} {Q : υ → Hp → Prop} {o : Option τ} (h : PostR Z L W O g β σ H Q (liftO o ρ b)) : ∃ a, o = some a ∧ ∀ x H', L O (Bs β) H' a x → Keep (Bs β) H H' → BxR g H' b β → Q x H' := by
  cases o with
  | none => exact h.elim
  | some a => exact ⟨a, rfl, h⟩
theorem RE.tab {K : PySem.W.Frag} {g : Gh} {H : Hp} {ρ : En} {b : Bx} {σ : L2.St} {α : Nat → Addr} {β : Option Addr} (r : RE K g H ρ b σ α β) : LamX.Tabs (LT.tabs K) H := by
  have z := r.box.2
  rw [r.tt] at z
  exact z
theorem tabs_but {T : List (Addr × Str)} (hT : LamX.Tabs T H) (k : ∀ b o, H b = some o → (∀ xs, o ≠ .lst xs) → H1 b = some o) : LamX.Tabs T H1 := fun p hp => by
  obtain ⟨ps, h1, h2, h3⟩ := hT p hp
  refine ⟨ps, k _ _ h1 nofun, h2, fun pos cv hc => ?_⟩
  obtain ⟨c, e1, e2⟩ := h3 pos cv hc
  exact ⟨c, e1, k _ _ e2 (by unfold LamX.CodeO; nofun)⟩
/-- a list is written -/
theorem tabs_lst {T : List (Addr × Str)} (hT : LamX.Tabs T H) {a : Addr} {vs ws : List V} (ha : H a = some (.lst vs)) : LamX.Tabs T (upd H a (.lst ws)) := tabs_but hT fun b o e n => by
  by_cases hb : b = a
  · subst hb
    rw [ha] at e
    cases e
    exact absurd rfl (n vs)
  · rw [upd_ne hb]
    exact e
theorem BxR.keepT {g : Gh} {b : Bx} {β : Option Addr} (q : BxR g H b β) (k : Keep nobody H H1) (hT : LamX.Tabs g.T H1) : BxR g H1 b β := by
  refine ⟨?_, hT⟩
  have q := q.1
  cases b with
  | no => exact q
  | fo x y z =>
    obtain ⟨a, e1, e2, e3⟩ := q
    exact ⟨a, e1, e2, k _ _ e3 id⟩
  | ow x y z =>
    obtain ⟨a, e1, e2, e3, e4⟩ := q
    exact ⟨a, e1, e2, e3, k _ _ e4 id⟩
theorem BxR.keep0 {g : Gh} {b : Bx} {β : Option Addr} (q : BxR g H b β) (k : KeepS H H1) : BxR g H1 b β := by
  refine ⟨?_, q.2.ext k⟩
  have q := q.1
  cases b with
  | no => exact q
  | fo x y z =>
    obtain ⟨a, e1, e2, e3⟩ := q
    exact ⟨a, e1, e2, k _ _ e3⟩
  | ow x y z =>
    obtain ⟨a, e1, e2, e3, e4⟩ := q
    exact ⟨a, e1, e2, e3, k _ _ e4⟩
end

/-! ### what an expression's rule says -/
abbrev Cx.z (X : Cx) : Zx := ⟨X.K, X.mg⟩
def SE (X : Cx) (W : WX) (e : Expr) (m : ME D) : Prop := PE X e (tR (Cx.z X) (lD X.K) W m)
/-- .. whose answer is read at once -/
def SW (X : Cx) (W : WX) (e : Expr) (m : ME D) : Prop := PE X e (tR (Cx.z X) (lW X.K) W m)
def ST (X : Cx) (W : WX) (e : Expr) (m : ME Bool) : Prop := PT X e (tR (Cx.z X) lB W m)
def SWh (X : Cx) (W : WX) (e : Expr) (m : ME Bool) : Prop := PW X e (tR (Cx.z X) lB W m)
def SA (X : Cx) (W : WX) (es : List Expr) (m : ME (List D)) : Prop := PA X es (tR (Cx.z X) (lDs X.K) W m)
def SAW (X : Cx) (W : WX) (es : List Expr) (m : ME (List D)) : Prop := PA X es (tR (Cx.z X) (lWs X.K) W m)
theorem PE.imp {X : Cx} {e : Expr} {t t' : TE} (h : PE X e t) (i : ∀ σ H Q, t' σ H Q → t σ H Q) : PE X e t' := ⟨fun pins s σ H Q I q => h.run pins s σ H Q I (i σ H Q q)⟩
theorem PT.imp {X : Cx} {e : Expr} {t t' : TT} (h : PT X e t) (i : ∀ σ H Q, t' σ H Q → t σ H Q) : PT X e t' := ⟨fun pins s σ H Q I q => h.run pins s σ H Q I (i σ H Q q)⟩
theorem PW.imp {X : Cx} {e : Expr} {t t' : TT} (h : PW X e t) (i : ∀ σ H Q, t' σ H Q → t σ H Q) : PW X e t' := ⟨fun w pins s σ H Q I q => h.run w pins s σ H Q I (i σ H Q q)⟩
theorem PA.imp {X : Cx} {e : List Expr} {t t' : TA} (h : PA X e t) (i : ∀ σ H Q, t' σ H Q → t σ H Q) : PA X e t' := ⟨fun pos pins s σ H Q I q => h.run pos pins s σ H Q I (i σ H Q q)⟩
section
variable {X : Cx} {W : WX} {e a b : Expr} {es : List Expr} {ma mb mc : ME D} {ms : ME (List D)} {pos : Pos}
theorem SE.w (h : SE X W e ma) : SW X W e ma := PE.imp h fun σ H Q ⟨g, ρ, b, α, β, r, p⟩ => by
  refine ⟨g, ρ, b, α, β, r, ?_⟩
  cases e : ma ρ b with
  | ok a b' =>
    rw [e] at p
    exact fun x H' l k q => p x H' (.inl l) k q
  | ex x b' => rw [e] at p; exact p
  | bad => rw [e] at p; exact p
theorem SA.w (h : SA X W es ms) : SAW X W es ms := PA.imp h fun σ H Q ⟨g, ρ, b, α, β, r, p⟩ => by
  refine ⟨g, ρ, b, α, β, r, ?_⟩
  cases e : ms ρ b with
  | ok a b' =>
    rw [e] at p
    refine fun x H' l k q => p x H' ?_ k q
    have : ∀ {ds : List D} {vs : List V}, RDs X.K (OW g ρ α β) H' ds vs → RWs X.K (OW g ρ α β) (Bs β) H' ds vs := by
      intro ds
      induction ds with
      | nil => intro vs h; cases h; exact .nil
      | cons d ds ih =>
        intro vs h
        cases h with
        | cons a b => exact .cons (.inl a) (ih b)
    exact this l
  | ex x b' => rw [e] at p; exact p
  | bad => rw [e] at p; exact p

/-! ### names, constants -/
def varM (i : Nat) : ME D := fun ρ b => match ρ[i]? with
  | some (.v d) => .ok d b
  | _ => .bad
/-- a name that may hold a list of one's own, read at once -/
def varB (i : Nat) : ME D := fun ρ b => match ρ[i]? with
  | some (.v d) => .ok d b
  | some (.own xs) => .ok (.list xs) b
  | some (.lk xs) => .ok (.list xs) b
  | _ => .bad
theorem se_var {i : Nat} {x : Str} (hN : X.N[i]? = some x) (hv : Vis X.env.scope x) (hd : (x == ("__debug__" : Str)) = false := by decide) (hcd : (x == ("__classdict__" : Str)) = false := by decide) : SE X W (.Name x pos) (varM i) :=
  PE.imp (pe_var hN hv hd hcd) fun σ H Q ⟨g, ρ, b, α, β, r, p⟩ => by
    unfold varM at p
    split at p
    · rename_i d e
      obtain ⟨v, e1, e2⟩ := r.val i d e
      exact ⟨v, e1, p v H e2 (Keep.refl _ _) r.box⟩
    · exact p.elim
theorem sw_var {i : Nat} {x : Str} (hN : X.N[i]? = some x) (hv : Vis X.env.scope x) (hd : (x == ("__debug__" : Str)) = false := by decide) (hcd : (x == ("__classdict__" : Str)) = false := by decide) : SW X W (.Name x pos) (varB i) :=
  PE.imp (pe_var hN hv hd hcd) fun σ H Q ⟨g, ρ, b, α, β, r, p⟩ => by
    unfold varB at p
    split at p
    · rename_i d e
      obtain ⟨v, e1, e2⟩ := r.val i d e
      exact ⟨v, e1, p v H (.inl e2) (Keep.refl _ _) r.box⟩
    · rename_i xs e
      obtain ⟨vs, e1, e2, e3, e4, e5⟩ := r.own i xs e
      exact ⟨_, e1, p _ H (.inr ⟨xs, vs, α i, rfl, rfl, ⟨.inl e2, e5⟩, e3⟩) (Keep.refl _ _) r.box⟩
    · rename_i xs e
      obtain ⟨vs, a, e1, e2, e4⟩ := r.lkd e
      exact ⟨_, e1, p _ H (.inr ⟨xs, vs, a, rfl, rfl, e2, e4⟩) (Keep.refl _ _) r.box⟩
    · exact p.elim
def cM (d : D) : ME D := fun _ b => .ok d b
theorem se_int {i j} : SE X W (.Constant (.int i) j pos) (cM (.int i)) := PE.imp pe_int fun σ H Q ⟨g, ρ, b, α, β, r, p⟩ => p _ H (.int i) (Keep.refl _ _) r.box
theorem se_bl {i j} : SE X W (.Constant (.bool i) j pos) (cM (.bool i)) := PE.imp pe_bl fun σ H Q ⟨g, ρ, b, α, β, r, p⟩ => p _ H (.bl i) (Keep.refl _ _) r.box
theorem se_non {j} : SE X W (.Constant .none j pos) (cM .none) := PE.imp pe_non fun σ H Q ⟨g, ρ, b, α, β, r, p⟩ => p _ H .non (Keep.refl _ _) r.box
theorem se_str {i j} : SE X W (.Constant (.str i) j pos) (cM (.str i)) := PE.imp pe_str fun σ H Q ⟨g, ρ, b, α, β, r, p⟩ => p _ H (.str i) (Keep.refl _ _) r.box

/-! ### operators -/
/-- an operator by data: op is the total function -/
def rD (K : PySem.W.Frag) (op : D → D → Option D) : R2 := fun x y H Q => ∃ O B d e z, Gd O B H ∧ RW K O B H d x ∧ RW K O B H e y ∧ op d e = some z ∧ ∀ v H', RD K O H' z v → KeepS H H' → Q v H'
def opM (op : D → D → Option D) (ma mb : ME D) : ME D := bindM ma fun x => bindM mb fun y => liftO (op x y)
theorem op_read {op : D → D → Option D} {σ : L2.St} {H : Hp} {Q : VK} (h : tR (Cx.z X) (lD X.K) W (opM op ma mb) σ H Q) :
    tOp (rD X.K op) (tR (Cx.z X) (lW X.K) W ma) (tR (Cx.z X) (lW X.K) W mb) σ H Q := by
  refine tR_bind2 pers_W h fun g ρ b α β d e x y H1 r l1 l2 p => ?_
  obtain ⟨z, ez, q⟩ := post_lift p
  exact ⟨_, _, d, e, z, r.gd, l1, l2, ez, fun v H' rv k => q v H' rv k.of0 (r.box.keep0 k)⟩
theorem se_op {o : Operator} {op : D → D → Option D} (ho : OpR X (binaryOp o) (rD X.K op)) (ha : SW X W a ma) (hb : SW X W b mb) : SE X W (.BinOp a o b pos) (opM op ma mb) :=
  PE.imp (pe_op ho ha hb) fun _ _ _ h => op_read h
theorem se_cmp {o : CmpOp} {op : D → D → Option D} (ho : OpR X (compareOp o) (rD X.K op)) (ha : SW X W a ma) (hb : SW X W b mb) (hm : behindInMarks o b = false) : SE X W (.Compare a [o] [b] pos) (opM op ma mb) :=
  PE.imp (pe_cmpR ho ha hb hm) fun _ _ _ h => op_read h
def toB : D → Option Bool
  | .bool b => some b
  | _ => none
def tstM (m : ME D) : ME Bool := bindM m fun d => liftO (toB d)
theorem tst_read {σ : L2.St} {H : Hp} {Q : Bool → Hp → Prop} (h : tR (Cx.z X) lB W (tstM ma) σ H Q) : tR (Cx.z X) (lW X.K) W ma σ H fun x H' => ∃ k, x = .bl k ∧ Q k H' := by
  refine tR_bind h fun g ρ b α β d x H1 r l p => ?_
  obtain ⟨k, ek, q⟩ := post_lift p
  cases d <;> first | cases ek | skip
  exact ⟨_, RW.bl l, q _ H1 rfl (Keep.refl _ _) r.box⟩
theorem st_cmp {o : CmpOp} {op : D → D → Option D} (ho : OpR X (compareOp o) (rD X.K op)) (ha : SW X W a ma) (hb : SW X W b mb) (hm : behindInMarks o b = false) : ST X W (.Compare a [o] [b] pos) (tstM (opM op ma mb)) :=
  PT.imp (pt_cmpR ho ha hb hm) fun σ H Q h => by
    obtain ⟨g, ρ, b', α, β, r, p⟩ := tst_read h
    refine op_read ⟨g, ρ, b', α, β, r, ?_⟩
    cases e : opM op ma mb ρ b' with
    | ok d b1 => rw [e] at p; exact fun x H' l k q => p x H' (.inl l) k q
    | ex x b1 => rw [e] at p; exact p
    | bad => rw [e] at p; exact p
theorem st_val {e : Expr} (h : SW X W e ma) (he : ∀ whole, isTrue e X.env whole = (do let v ← whole; standAt e.pos; holding [v] (truthy v)) := by intro _; rfl) : ST X W e (tstM ma) :=
  PT.imp (pt_val h he) fun σ H Q q => tst_read q
end
end Fs

/-! F4: operators by data. -/
namespace Fs
open L2 PyProof.Rows PySem.Spec PySem
variable [LT]
section
variable {X : Cx} {K : PySem.W.Frag} {O B : Own} {H H' : Hp}

def addD : D → D → Option D
  | .int i, .int j => some (.int (i + j))
  | .int i, .bool k => some (.int (i + b2i k))
  | .str x, .str y => if x.length + y.length ≤ sizeLine then some (.str (x ++ y)) else none
  | .tuple xs, .tuple ys => if xs.length + ys.length ≤ sizeLine then some (.tuple (xs ++ ys)) else none
  | .list xs, .list ys => if xs.length + ys.length ≤ sizeLine then some (.list (xs ++ ys)) else none
  | _, _ => none
theorem lstM_rd {pins : List (Addr × Obj)} {σ : L2.St} {s : Shared} {l : Addr} {xs : List V} (I : Inv X pins σ H s) (hH : Rd H l (.lst xs)) : xs.length ≤ sizeLine ∧ ∃ (its : List Value) (n : Nat), Vals xs its ∧ xs.length = its.length ∧
    s.heap.get? l = some { cls := .type "list", data := .seq its.toArray n } := by
  obtain ⟨z, its, n, r, e⟩ := hH.ok I.hok
  exact ⟨z, its, n, r, r.length, e⟩
/-- list + list -/
theorem cat_rd {pins : List (Addr × Obj)} {s : Shared} {σ : L2.St} {a b : Addr} {xs zs : List V} {Q : VK} (I : Inv X pins σ H s) (hH : Rd H a (.lst xs)) (hB : Rd H b (.lst zs)) (hz : xs.length + zs.length ≤ sizeLine)
    (q : ∀ p, H p = none → Q (.ref p) (upd H p (.lst (xs ++ zs)))) : wpAny (model X.prog X.w) X.A (binaryOp .Add (.ref a) (.ref b)) (EP X pins σ Q) X.xe s := by
  obtain ⟨z, its, n, r, hl, e⟩ := lstM_rd I hH
  obtain ⟨z2, its2, n2, r2, hl2, e2⟩ := lstM_rd I hB
  refine PySem.P.add_list e e2 ?_ (by simp only [List.size_toArray]; omega)
  rw [show its.toArray ++ its2.toArray = (its ++ its2).toArray by simp]
  have made := I.lnew (t' := s.toks) (r.append r2) (by rw [List.length_append]; omega)
  exact ⟨.ref _, _, made, rfl, q _ I.fresh⟩
theorem o_add : OpR X (binaryOp .Add) (rD X.K addD) := by
  intro pins s σ H x y v u Q I rx ry ⟨O, B, d, e, z, G, l1, l2, ez, q⟩
  unfold addD at ez
  split at ez
  · rename_i i j
    cases ez
    rw [l1.int] at rx
    rw [l2.int] at ry
    exact op_add pins s σ H _ _ v u Q I rx ry ⟨i, j, rfl, rfl, q _ H (.int _) (KeepS.refl _)⟩
  · rename_i i k
    cases ez
    rw [l1.int] at rx
    rw [l2.bl] at ry
    exact op_add_ib pins s σ H _ _ v u Q I rx ry ⟨i, k, rfl, rfl, q _ H (.int _) (KeepS.refl _)⟩
  · rename_i i j
    split at ez
    · rename_i hz
      cases ez
      rw [l1.str] at rx
      rw [l2.str] at ry
      exact op_add_str pins s σ H _ _ v u Q I rx ry ⟨i, j, rfl, rfl, hz, q _ H (.str _) (KeepS.refl _)⟩
    · cases ez
  · rename_i xs ys
    split at ez
    · rename_i hz
      cases ez
      obtain ⟨a, vs, rfl, h1, r1⟩ := l1.tup
      obtain ⟨b, ws, rfl, h2, r2⟩ := l2.tup
      have e1 := r1.length
      have e2 := r2.length
      refine op_catA pins s σ H _ _ v u Q I rx ry ⟨a, b, vs, ws, rfl, rfl, h1, h2, by omega, fun e => ?_, fun _ e => ?_, fun _ _ p hp => ?_⟩
      · subst e
        have : xs = [] := List.eq_nil_of_length_eq_zero (by simpa using e1)
        subst this
        exact q _ H (l2.rd (fun _ z => by cases z)) (KeepS.refl _)
      · subst e
        have : ys = [] := List.eq_nil_of_length_eq_zero (by simpa using e2)
        subst this
        rw [List.append_nil] at q
        exact q _ H (l1.rd (fun _ z => by cases z)) (KeepS.refl _)
      · exact q _ _ (RD.newT G hp (r1.append r2)) (KeepS.upd hp)
    · cases ez
  · rename_i xs ys
    split at ez
    · rename_i hz
      cases ez
      obtain ⟨a, vs, rfl, h1, r1⟩ := l1.rl
      obtain ⟨b, ws, rfl, h2, r2⟩ := l2.rl
      have e1 := r1.length
      have e2 := r2.length
      cases rx
      cases ry
      exact cat_rd I h1 h2 (by omega) fun p hp => q _ _ (RD.newL G hp (r1.append r2)) (KeepS.upd hp)
    · cases ez
  · cases ez
/-- on two ints -/
def iiD (C : Int → Int → Bool) (f : Int → Int → D) : D → D → Option D
  | .int i, .int j => if C i j then some (f i j) else none
  | _, _ => none
theorem o_ii {F : Value → Value → Sem Value} {C : Int → Int → Bool} {f : Int → Int → D} (h : ∀ (i j : Int) pins s σ H v u Q, C i j = true → Inv X pins σ H s → RelV (.int i) v → RelV (.int j) u → (∀ v, RD X.K nobody H (f i j) v → Q v H) → wpAny (model X.prog X.w) X.A (F v u) (EP X pins σ Q) X.xe s)
    (hs : ∀ i j O H v, RD X.K nobody H (f i j) v → RD X.K O H (f i j) v) : OpR X F (rD X.K (iiD C f)) := by
  intro pins s σ H x y v u Q I rx ry ⟨O, B, d, e, z, G, l1, l2, ez, q⟩
  unfold iiD at ez
  split at ez
  · rename_i i j
    split at ez
    · rename_i hC
      cases ez
      rw [l1.int] at rx
      rw [l2.int] at ry
      exact h i j pins s σ H v u Q hC I rx ry fun v rv => q v H (hs i j O H v rv) (KeepS.refl _)
    · cases ez
  · cases ez
theorem rd_int {O O' : Own} {H : Hp} {i : Int} {v : V} (h : RD K O H (.int i) v) : RD K O' H (.int i) v := by cases h; exact .int i
theorem rd_bl {O O' : Own} {H : Hp} {i : Bool} {v : V} (h : RD K O H (.bool i) v) : RD K O' H (.bool i) v := by cases h; exact .bl i
abbrev yes2 : Int → Int → Bool := fun _ _ => true
def subD := iiD yes2 fun i j => .int (i - j)
theorem o_sub : OpR X (binaryOp .Sub) (rD X.K subD) := o_ii (fun i j pins s σ H v u Q _ I rx ry q => op_sub pins s σ H _ _ v u Q I rx ry ⟨i, j, rfl, rfl, q _ (.int _)⟩) fun _ _ _ _ _ h => rd_int h
def mulD : D → D → Option D
  | .int i, .int j => if decide ((-(2 ^ 64) < i ∧ i < 2 ^ 64) ∨ (-(2 ^ 64) < j ∧ j < 2 ^ 64)) then some (.int (i * j)) else none
  | .tuple xs, .int k => if xs.length = 1 ∧ 2 ≤ k ∧ k ≤ 1000 then some (.tuple (List.replicate k.toNat xs).flatten) else none
  | _, _ => none
def modD := iiD (fun _ j => decide (0 < j)) fun i j => .int (i % j)
theorem o_mod : OpR X (binaryOp .Mod) (rD X.K modD) := o_ii (fun i j pins s σ H v u Q hC I rx ry q => op_mod pins s σ H _ _ v u Q I rx ry ⟨i, j, rfl, rfl, of_decide_eq_true hC, q _ (.int _)⟩) fun _ _ _ _ _ h => rd_int h
def fdivD := iiD (fun _ j => decide (0 < j ∧ j < 1073741824)) fun i j => .int (i / j)
theorem o_fdiv : OpR X (binaryOp .FloorDiv) (rD X.K fdivD) := o_ii (fun i j pins s σ H v u Q hC I rx ry q => have h2 := of_decide_eq_true hC; op_fdiv pins s σ H _ _ v u Q I rx ry ⟨i, j, rfl, rfl, h2, q _ (.int _)⟩) fun _ _ _ _ _ h => rd_int h
def powD := iiD (fun i j => decide (0 ≤ j ∧ j ≤ 1000000 ∧ i.natAbs < 2 ^ 64)) fun i j => .int (i ^ j.toNat)
theorem o_pow : OpR X (binaryOp .Pow) (rD X.K powD) := o_ii (fun i j pins s σ H v u Q hC I rx ry q => have h2 := of_decide_eq_true hC; op_pow pins s σ H _ _ v u Q I rx ry ⟨i, j, rfl, rfl, h2, q _ (.int _)⟩) fun _ _ _ _ _ h => rd_int h
def ltD := iiD yes2 fun i j => .bool (decide (i < j))
theorem o_lt : OpR X (compareOp .Lt) (rD X.K ltD) := o_ii (fun i j pins s σ H v u Q _ I rx ry q => op_lt pins s σ H _ _ v u Q I rx ry ⟨i, j, rfl, rfl, q _ (.bl _)⟩) fun _ _ _ _ _ h => rd_bl h
def leD := iiD yes2 fun i j => .bool (decide (i ≤ j))
theorem o_le : OpR X (compareOp .LtE) (rD X.K leD) := o_ii (fun i j pins s σ H v u Q _ I rx ry q => op_le pins s σ H _ _ v u Q I rx ry ⟨i, j, rfl, rfl, q _ (.bl _)⟩) fun _ _ _ _ _ h => rd_bl h
def gtD := iiD yes2 fun i j => .bool (decide (j < i))
theorem o_gt : OpR X (compareOp .Gt) (rD X.K gtD) := o_ii (fun i j pins s σ H v u Q _ I rx ry q => op_gt pins s σ H _ _ v u Q I rx ry ⟨i, j, rfl, rfl, q _ (.bl _)⟩) fun _ _ _ _ _ h => rd_bl h
def geD := iiD yes2 fun i j => .bool (decide (j ≤ i))
theorem o_ge : OpR X (compareOp .GtE) (rD X.K geD) := o_ii (fun i j pins s σ H v u Q _ I rx ry q => op_ge pins s σ H _ _ v u Q I rx ry ⟨i, j, rfl, rfl, q _ (.bl _)⟩) fun _ _ _ _ _ h => rd_bl h
def bandD := iiD yes2 fun i j => .int (Builtin.bitAnd i j)
theorem o_band : OpR X (binaryOp .BitAnd) (rD X.K bandD) := o_ii (fun i j pins s σ H v u Q _ I rx ry q => op_and pins s σ H _ _ v u Q I rx ry ⟨i, j, rfl, rfl, q _ (.int _)⟩) fun _ _ _ _ _ h => rd_int h
theorem o_mul : OpR X (binaryOp .Mult) (rD X.K mulD) := by
  intro pins s σ H x y v u Q I rx ry ⟨O, B, d, e, z, G, l1, l2, ez, q⟩
  unfold mulD at ez
  split at ez
  · rename_i i j
    split at ez
    · rename_i hC
      cases ez
      rw [l1.int] at rx
      rw [l2.int] at ry
      have h2 := of_decide_eq_true hC
      exact op_mul pins s σ H _ _ v u Q I rx ry ⟨i, j, rfl, rfl, h2, q _ H (.int _) (KeepS.refl _)⟩
    · cases ez
  · rename_i xs k
    split at ez
    · rename_i hC
      cases ez
      obtain ⟨a, vs, rfl, h1, r1⟩ := l1.tup
      rw [l2.int] at ry
      have e1 := r1.length
      refine op_repT pins s σ H _ _ v u Q I rx ry ⟨a, k, vs, rfl, rfl, h1, fun z => ?_, hC.2.1, hC.2.2, by omega, fun p hp => q _ _ (RD.newT G hp ?_) (KeepS.upd hp)⟩
      · subst z
        have := hC.1
        simp at e1
        subst e1
        simp at this
      · generalize k.toNat = n
        induction n with
        | zero => exact .nil
        | succ n ih =>
          rw [List.replicate_succ, List.replicate_succ, List.flatten_cons, List.flatten_cons]
          exact r1.append ih
    · cases ez
  · cases ez
/-! ### equality, membership -/
def shp (d : D) : Bool := SeqAt.shaped d
def eqD0 (d e : D) : Option D := if shp d && shp e then some (.bool (PyData.eqv d e)) else none
def neD0 (d e : D) : Option D := if shp d && shp e then some (.bool (!PyData.eqv d e)) else none
/-- whole numbers are looked at quickly -/
def eqD (d e : D) : Option D := match d, e with
  | .int i, .int j => some (.bool (i == j))
  | d, e => eqD0 d e
def neD (d e : D) : Option D := match d, e with
  | .int i, .int j => some (.bool (!(i == j)))
  | d, e => neD0 d e
theorem eqD_0 (d e : D) : eqD d e = eqD0 d e := by
  unfold eqD
  split
  · rename_i i j
    kernel_rfl
  · rfl
theorem neD_0 (d e : D) : neD d e = neD0 d e := by
  unfold neD
  split
  · rename_i i j
    kernel_rfl
  · rfl
theorem o_eq (hu : X.A.units + 64 < cLine) : OpR X (compareOp .Eq) (rD X.K eqD) := by
  intro pins s σ H x y v u Q I rx ry ⟨O, B, d, e, z, G, l1, l2, ez, q⟩
  rw [eqD_0] at ez
  unfold eqD0 at ez
  split at ez
  · rename_i h
    rw [Bool.and_eq_true] at h
    cases ez
    exact op_eqD hu pins s σ H _ _ v u Q I rx ry ⟨d, e, l1.dp (SeqAt.canLay_of_shaped h.1), l2.dp (SeqAt.canLay_of_shaped h.2), h.1, h.2, q _ H (.bl _) (KeepS.refl _)⟩
  · cases ez
theorem o_ne (hu : X.A.units + 64 < cLine) : OpR X (compareOp .NotEq) (rD X.K neD) := by
  intro pins s σ H x y v u Q I rx ry ⟨O, B, d, e, z, G, l1, l2, ez, q⟩
  rw [neD_0] at ez
  unfold neD0 at ez
  split at ez
  · rename_i h
    rw [Bool.and_eq_true] at h
    cases ez
    exact op_neD hu pins s σ H _ _ v u Q I rx ry ⟨d, e, l1.dp (SeqAt.canLay_of_shaped h.1), l2.dp (SeqAt.canLay_of_shaped h.2), h.1, h.2, q _ H (.bl _) (KeepS.refl _)⟩
  · cases ez
def isN : D → Bool
  | .none => true
  | _ => false
def isNoD (d e : D) : Option D := if isN e then some (.bool (isN d)) else none
def notNoD (d e : D) : Option D := if isN e then some (.bool (!isN d)) else none
theorem RD.isN {d : D} {v : V} (h : RD K O H d v) : Fs.isN d = decide (v = .non) := by
  cases h <;> simp [Fs.isN]
theorem RW.isN {d : D} {v : V} (h : RW K O B H d v) : Fs.isN d = decide (v = .non) := by
  rcases h with h | ⟨_, _, _, e, e2, _, _⟩
  · exact RD.isN h
  · subst e e2
    simp [Fs.isN]
theorem o_isN : OpR X (compareOp .Is) (rD X.K isNoD) := by
  intro pins s σ H x y v u Q I rx ry ⟨O, B, d, e, z, G, l1, l2, ez, q⟩
  unfold isNoD at ez
  split at ez
  · rename_i h
    cases ez
    rw [RW.isN l2] at h
    rw [RW.isN l1] at q
    exact op_isN pins s σ H _ _ v u Q I rx ry ⟨of_decide_eq_true h, q _ H (.bl _) (KeepS.refl _)⟩
  · cases ez
theorem o_notN : OpR X (compareOp .IsNot) (rD X.K notNoD) := by
  intro pins s σ H x y v u Q I rx ry ⟨O, B, d, e, z, G, l1, l2, ez, q⟩
  unfold notNoD at ez
  split at ez
  · rename_i h
    cases ez
    rw [RW.isN l2] at h
    rw [RW.isN l1] at q
    exact op_notN pins s σ H _ _ v u Q I rx ry ⟨of_decide_eq_true h, q _ H (.bl _) (KeepS.refl _)⟩
  · cases ez
def memD (neg : Bool) : D → D → Option D
  | d, .list ds => if shp d && shp (.list ds) then some (.bool (if neg then !ds.any (fun z => PyData.eqv z d) else ds.any fun z => PyData.eqv z d)) else none
  | d, .tuple ds => if shp d && shp (.tuple ds) then some (.bool (if neg then !ds.any (fun z => PyData.eqv z d) else ds.any fun z => PyData.eqv z d)) else none
  | _, _ => none
theorem shp_room {ds : List D} {d : D} {u : Nat} (sd : SeqAt.shaped d = true) (hu : u + 65 < cLine) : u + 1 + min (PyData.depthAll ds) d.depth < cLine := by
  have h1 := SeqAt.depth_of_shaped sd
  have h2 : min (PyData.depthAll ds) d.depth ≤ d.depth := Nat.min_le_right _ _
  omega
theorem shp_tup {ds : List D} (h : SeqAt.shaped (.tuple ds) = true) : PyData.canLayAll0 ds = true := by
  have := SeqAt.canLay_of_shaped h
  simpa only [PyData.canLay0] using this
theorem o_in (hu : X.A.units + 65 < cLine) : OpR X (compareOp .In) (rD X.K (memD false)) := by
  intro pins s σ H x y v u Q I rx ry ⟨O, B, d, e, z, G, l1, l2, ez, q⟩
  unfold memD at ez
  split at ez
  · rename_i ds
    split at ez
    · rename_i h
      rw [Bool.and_eq_true] at h
      cases ez
      exact op_inD hu pins s σ H _ _ v u Q I rx ry ⟨d, ds, l1.dp (SeqAt.canLay_of_shaped h.1), l2.dp (SeqAt.canLay_of_shaped h.2), h.1, h.2, q _ H (.bl _) (KeepS.refl _)⟩
    · cases ez
  · rename_i ds
    split at ez
    · rename_i h
      rw [Bool.and_eq_true] at h
      cases ez
      obtain ⟨as, r1⟩ := Dp.reads I d x v (l1.dp (SeqAt.canLay_of_shaped h.1)) rx
      obtain ⟨bs, r2⟩ := Dp.reads I (.tuple ds) y u (l2.dp (SeqAt.canLay_of_shaped h.2)) ry
      exact SeqAt.in_tuple_reads r2 r1 (shp_tup h.2) (SeqAt.canLay_of_shaped h.1) (shp_room h.1 hu) ⟨.bl _, H, I, rfl, q _ H (.bl _) (KeepS.refl _)⟩
    · cases ez
  · cases ez
theorem o_nin (hu : X.A.units + 65 < cLine) : OpR X (compareOp .NotIn) (rD X.K (memD true)) := by
  intro pins s σ H x y v u Q I rx ry ⟨O, B, d, e, z, G, l1, l2, ez, q⟩
  unfold memD at ez
  split at ez
  · rename_i ds
    split at ez
    · rename_i h
      rw [Bool.and_eq_true] at h
      cases ez
      exact op_notInD hu pins s σ H _ _ v u Q I rx ry ⟨d, ds, l1.dp (SeqAt.canLay_of_shaped h.1), l2.dp (SeqAt.canLay_of_shaped h.2), h.1, h.2, q _ H (.bl _) (KeepS.refl _)⟩
    · cases ez
  · rename_i ds
    split at ez
    · rename_i h
      rw [Bool.and_eq_true] at h
      cases ez
      obtain ⟨as, r1⟩ := Dp.reads I d x v (l1.dp (SeqAt.canLay_of_shaped h.1)) rx
      obtain ⟨bs, r2⟩ := Dp.reads I (.tuple ds) y u (l2.dp (SeqAt.canLay_of_shaped h.2)) ry
      exact SeqAt.notIn_tuple_reads r2 r1 (shp_tup h.2) (SeqAt.canLay_of_shaped h.1) (shp_room h.1 hu) ⟨.bl _, H, I, rfl, q _ H (.bl _) (KeepS.refl _)⟩
    · cases ez
  · cases ez
/-! ### a subscript, a slice -/
def atD : D → D → Option D
  | .list xs, .int i => atI xs i
  | .tuple xs, .int i => atI xs i
  | .str z, .int i => if z.length ≤ sizeLine then (atI z.cps.toList i).map fun c => .str ⟨#[c]⟩ else none
  | _, _ => none
theorem atI_rds {ds : List D} {vs : List V} {i : Int} {d : D} (r : RDs K O H ds vs) (h : atI ds i = some d) : ∃ v, atI vs i = some v ∧ RD K O H d v := by
  unfold atI at h ⊢
  rw [← r.length]
  cases e : ixN ds.length i with
  | none => rw [e] at h; cases h
  | some j =>
    rw [e] at h
    obtain ⟨v, e1, e2⟩ := r.get h
    exact ⟨v, e1, e2⟩
theorem o_at : IxR X (rD X.K atD) := by
  intro value slice pins s σ H x y v u Q I rx ry ⟨O, B, d, e, z, G, l1, l2, ez, q⟩ hs
  unfold atD at ez
  split at ez
  · obtain ⟨a, vs, rfl, h1, r1⟩ := l1.lst
    obtain ⟨w, e1, e2⟩ := atI_rds r1 ez
    rw [l2.int] at ry
    exact ix_list value slice pins s σ H _ _ v u Q I rx ry ⟨a, vs, _, w, rfl, rfl, h1, e1, q w H e2 (KeepS.refl _)⟩ hs
  · obtain ⟨a, vs, rfl, h1, r1⟩ := l1.tup
    obtain ⟨w, e1, e2⟩ := atI_rds r1 ez
    rw [l2.int] at ry
    exact ix_tup value slice pins s σ H _ _ v u Q I rx ry ⟨a, vs, _, w, rfl, rfl, h1, e1, q w H e2 (KeepS.refl _)⟩ hs
  · rename_i t i
    split at ez
    · rename_i hz
      obtain ⟨c, hc, rfl⟩ := Option.map_eq_some_iff.mp ez
      rw [l1.str] at rx
      rw [l2.int] at ry
      exact ix_str value slice pins s σ H _ _ v u Q I rx ry ⟨t, i, c, rfl, rfl, hz, hc, q _ H (.str _) (KeepS.refl _)⟩ hs
    · cases ez
  · cases ez
end
end Fs

/-! F5: tests, conditional expressions, displays, slices, calls of built-ins and of defs. -/
namespace Fs
open L2 PyProof.Rows PySem.Spec PySem
variable [LT]
section
variable {X : Cx} {W : WX} {e a b c : Expr} {es rest : List Expr} {ma mb : ME D} {mt mu : ME Bool} {ms : ME (List D)} {pos : Pos}
/-! ### tests -/
def iteM {τ : Type} (mt : ME Bool) (ma mb : ME τ) : ME τ := bindM mt fun t => if t = true then ma else mb
theorem ite_read {τ υ : Type} {L : Rl τ υ} {n1 n2 : ME τ} {σ : L2.St} {H : Hp} {Q : υ → Hp → Prop} (h : tR (Cx.z X) L W (iteM mt n1 n2) σ H Q) :
    tR (Cx.z X) lB W mt σ H fun c H1 => if c = true then tR (Cx.z X) L W n1 σ H1 Q else tR (Cx.z X) L W n2 σ H1 Q := by
  refine tR_bind h fun g ρ b α β a x H1 r l p => ?_
  have l : a = x := l
  subst l
  cases a with
  | true => exact ⟨g, ρ, b, α, β, r, p⟩
  | false => exact ⟨g, ρ, b, α, β, r, p⟩
def bM (k : Bool) : ME Bool := fun _ b => .ok k b
theorem tR_end {τ υ : Type} {L : Rl τ υ} {g : Gh} {ρ : En} {b : Bx} {α : Nat → Addr} {β : Option Addr} {σ : L2.St} {H : Hp} {Q : υ → Hp → Prop} {a : τ} {x : υ} (r : RE X.K g H ρ b σ α β) (p : PostR (Cx.z X) L W (OW g ρ α β) g β σ H Q (.ok a b)) (l : L (OW g ρ α β) (Bs β) H a x) : Q x H :=
  p x H l (Keep.refl _ _) r.box
def andM (mt mu : ME Bool) : ME Bool := iteM mt mu (bM false)
def orM (mt mu : ME Bool) : ME Bool := iteM mt (bM true) mu
def notM (mt : ME Bool) : ME Bool := bindM mt fun t => bM (!t)
theorem sh_and1 (ha : ST X W a mt) : SWh X W (.BoolOp .And [a] pos) mt := pw_and1 ha
theorem sh_or1 (ha : ST X W a mt) : SWh X W (.BoolOp .Or [a] pos) mt := pw_or1 ha
theorem sh_and (ha : ST X W a mt) (hb : SWh X W (.BoolOp .And (b :: rest) pos) mu) : SWh X W (.BoolOp .And (a :: b :: rest) pos) (andM mt mu) :=
  PW.imp (pw_and ha hb) fun σ H Q h => by
    obtain ⟨g, ρ, b, α, β, r, p⟩ := ite_read h
    refine ⟨g, ρ, b, α, β, r, ?_⟩
    cases e : mt ρ b with
    | ok k b' =>
      rw [e] at p
      intro x H' l kk q
      have z := p x H' l kk q
      cases x with
      | true => exact z
      | false =>
        obtain ⟨g2, ρ2, b2, α2, β2, r2, p2⟩ := z
        exact tR_end r2 p2 rfl
    | ex x b' => rw [e] at p; exact p
    | bad => rw [e] at p; exact p
theorem sh_or (ha : ST X W a mt) (hb : SWh X W (.BoolOp .Or (b :: rest) pos) mu) : SWh X W (.BoolOp .Or (a :: b :: rest) pos) (orM mt mu) :=
  PW.imp (pw_or ha hb) fun σ H Q h => by
    obtain ⟨g, ρ, b, α, β, r, p⟩ := ite_read h
    refine ⟨g, ρ, b, α, β, r, ?_⟩
    cases e : mt ρ b with
    | ok k b' =>
      rw [e] at p
      intro x H' l kk q
      have z := p x H' l kk q
      cases x with
      | false => exact z
      | true =>
        obtain ⟨g2, ρ2, b2, α2, β2, r2, p2⟩ := z
        exact tR_end r2 p2 rfl
    | ex x b' => rw [e] at p; exact p
    | bad => rw [e] at p; exact p
theorem SWh.t (h : SWh X W a mt) : ST X W a mt := PW.pt h
theorem st_not (ha : ST X W a mt) : ST X W (.UnaryOp .Not a pos) (notM mt) :=
  PT.imp (pt_not ha) fun σ H Q h => by
    refine tR_bind (L := lB) h fun g ρ b α β k x H1 r l p => ?_
    have l : k = x := l
    subst l
    exact p _ H1 rfl (Keep.refl _ _) r.box
/-- as values -/
def b2M (mt : ME Bool) : ME D := bindM mt fun k => cM (.bool k)
def andV (ma mb : ME D) : ME D := bindM (tstM ma) fun k => if k = true then mb else cM (.bool false)
def orV (ma mb : ME D) : ME D := bindM (tstM ma) fun k => if k = true then cM (.bool true) else mb
def notV (ma : ME D) : ME D := bindM (tstM ma) fun k => cM (.bool (!k))
theorem tst_bind {τ υ : Type} {L : Rl τ υ} {f : Bool → ME τ} {σ : L2.St} {H : Hp} {Q : υ → Hp → Prop} {Q1 : Bool → Hp → Prop} (h : tR (Cx.z X) L W (bindM (tstM ma) f) σ H Q)
    (k : ∀ g ρ b α β c H1, RE X.K g H1 ρ b σ α β → PostR (Cx.z X) L W (OW g ρ α β) g β σ H1 Q (f c ρ b) → Q1 c H1) : tR (Cx.z X) (lW X.K) W ma σ H fun x H' => ∃ c, x = .bl c ∧ Q1 c H' := by
  refine tst_read (tR_bind (L := lB) (Q1 := Q1) h fun g ρ b α β c x H1 r l p => ?_)
  have l : c = x := l
  subst l
  exact k g ρ b α β c H1 r p
theorem se_one {op} (h : SE X W a ma) : SE X W (.BoolOp op [a] pos) ma := pe_one h
theorem se_and (ha : SW X W a ma) (hb : SE X W (.BoolOp .And (b :: rest) pos) mb) : SE X W (.BoolOp .And (a :: b :: rest) pos) (andV ma mb) :=
  PE.imp (pe_and ha hb) fun σ H Q h => tst_bind h fun g ρ b α β c H1 r p => by
    cases c with
    | true => exact ⟨g, ρ, b, α, β, r, p⟩
    | false => exact p _ H1 (.bl _) (Keep.refl _ _) r.box
theorem se_or (ha : SW X W a ma) (hb : SE X W (.BoolOp .Or (b :: rest) pos) mb) : SE X W (.BoolOp .Or (a :: b :: rest) pos) (orV ma mb) :=
  PE.imp (pe_or ha hb) fun σ H Q h => tst_bind h fun g ρ b α β c H1 r p => by
    cases c with
    | false => exact ⟨g, ρ, b, α, β, r, p⟩
    | true => exact p _ H1 (.bl _) (Keep.refl _ _) r.box
theorem se_not (ha : SW X W a ma) : SE X W (.UnaryOp .Not a pos) (notV ma) :=
  PE.imp (pe_not ha) fun σ H Q h => tst_bind h fun g ρ b α β c H1 r p => p _ H1 (.bl _) (Keep.refl _ _) r.box
theorem se_if (hc : ST X W c mt) (ha : SE X W a ma) (hb : SE X W b mb) : SE X W (.IfExp c a b pos) (iteM mt ma mb) :=
  PE.imp (pe_ifExp hc ha hb) fun σ H Q h => ite_read h
theorem sw_if (hc : ST X W c mt) (ha : SW X W a ma) (hb : SW X W b mb) : SW X W (.IfExp c a b pos) (iteM mt ma mb) :=
  PE.imp (pe_ifExp hc ha hb) fun σ H Q h => ite_read h
/-- truth of a number, a text, a sequence -/
def truD : D → Option Bool
  | .none => some false
  | .bool b => some b
  | .int i => some (i != 0)
  | .str z => if z.length ≤ sizeLine then some ((z.length : Int) != 0) else none
  | .list ds => some (!ds.isEmpty)
  | .tuple ds => some (!ds.isEmpty)
  | .dict _ => none
def truM (m : ME D) : ME Bool := bindM m fun d => liftO (truD d)
theorem isE_of {K : PySem.W.Frag} {O : Own} {H : Hp} {ds : List D} {vs : List V} (r : RDs K O H ds vs) : ds.isEmpty = vs.isEmpty := by
  have := r.length
  cases ds <;> cases vs <;> simp_all
theorem st_truth (ha : SW X W a ma) (he : ∀ whole, isTrue a X.env whole = (do let v ← whole; standAt a.pos; holding [v] (truthy v)) := by intro _; rfl) : ST X W a (truM ma) :=
  PT.imp (pt_truth ha he) fun σ H Q h => by
    refine tR_bind h fun g ρ b α β d x H1 r l p => ?_
    obtain ⟨k, ek, q⟩ := post_lift p
    have fin := q k H1 rfl (Keep.refl _ _) r.box
    cases d with
    | none => rw [l.non]; cases ek; exact ⟨_, rfl, fin⟩
    | bool b => rw [l.bl]; cases ek; exact ⟨_, rfl, fin⟩
    | int i => rw [l.int]; cases ek; exact ⟨_, rfl, fin⟩
    | str z =>
      rw [l.str]
      simp only [truD] at ek
      split at ek
      · rename_i hz
        cases ek
        exact ⟨_, ⟨hz, rfl⟩, fin⟩
      · cases ek
    | list ds =>
      obtain ⟨a, vs, rfl, h1, h2⟩ := l.lst
      cases ek
      rw [isE_of h2] at fin
      exact ⟨_, .inl ⟨vs, h1, rfl⟩, fin⟩
    | tuple ds =>
      obtain ⟨a, vs, rfl, h1, h2⟩ := l.tup
      cases ek
      rw [isE_of h2] at fin
      exact ⟨_, .inr (.inl ⟨vs, h1, rfl⟩), fin⟩
    | dict _ => cases ek

/-! ### lists of expressions -/
def nilM : ME (List D) := fun _ b => .ok [] b
def consM (ma : ME D) (ms : ME (List D)) : ME (List D) := bindM ma fun d => bindM ms fun ds => fun _ b => .ok (d :: ds) b
theorem sa_nil : SA X W [] nilM := PA.imp pa_nil fun σ H Q ⟨g, ρ, b, α, β, r, p⟩ => p [] H .nil (Keep.refl _ _) r.box
theorem sa_cons (ha : SE X W e ma) (hr : SA X W es ms) (hs : starEach (e :: es) X.env = (false, eval e X.env) :: starEach es X.env := by rfl) : SA X W (e :: es) (consM ma ms) :=
  PA.imp (pa_cons ha hr hs) fun σ H Q h => tR_bind2 pers_D h fun g ρ b α β a c x y H1 r l1 l2 p => p (x :: y) H1 (.cons l1 l2) (Keep.refl _ _) r.box
theorem saw_nil : SAW X W [] nilM := PA.imp pa_nil fun σ H Q ⟨g, ρ, b, α, β, r, p⟩ => p [] H .nil (Keep.refl _ _) r.box
theorem saw_cons (ha : SW X W e ma) (hr : SAW X W es ms) (hs : starEach (e :: es) X.env = (false, eval e X.env) :: starEach es X.env := by rfl) : SAW X W (e :: es) (consM ma ms) :=
  PA.imp (pa_cons ha hr hs) fun σ H Q h => tR_bind2 pers_W h fun g ρ b α β a c x y H1 r l1 l2 p => p (x :: y) H1 (.cons l1 l2) (Keep.refl _ _) r.box
def tupM (ms : ME (List D)) : ME D := bindM ms fun ds => liftO (if ds.length ≤ sizeLine then some (.tuple ds) else none)
def lstM (ms : ME (List D)) : ME D := bindM ms fun ds => liftO (if ds.length ≤ sizeLine then some (.list ds) else none)
theorem se_tup {k} (h : SA X W es ms) : SE X W (.Tuple es k pos) (tupM ms) := PE.imp (pe_tup h) fun σ H Q h => by
  refine tR_bind h fun g ρ b α β ds xs H1 r l p => ?_
  obtain ⟨d, ed, q⟩ := post_lift p
  split at ed
  · rename_i hz
    cases ed
    exact ⟨by rw [← l.length]; exact hz, fun p hp => q _ _ (RD.newT r.gd hp l) (Keep.upd hp).of0 (r.box.keep0 (KeepS.upd hp))⟩
  · cases ed
theorem se_lst (h : SA X W es ms) : SE X W (.List es pos) (lstM ms) := PE.imp (pe_lst h) fun σ H Q h => by
  refine tR_bind h fun g ρ b α β ds xs H1 r l p => ?_
  obtain ⟨d, ed, q⟩ := post_lift p
  split at ed
  · rename_i hz
    cases ed
    exact ⟨by rw [← l.length]; exact hz, fun p hp => q _ _ (RD.newL r.gd hp l) (Keep.upd hp).of0 (r.box.keep0 (KeepS.upd hp))⟩
  · cases ed
theorem se_at (ha : SW X W a ma) (hb : SW X W b mb) (hs : PlainIx b := by exact fun _ _ => rfl) : SE X W (.Subscript a b pos) (opM atD ma mb) := PE.imp (pe_ix o_at ha hb hs) fun σ H Q h => op_read h
/-- a slice's part -/
def SO (X : Cx) (W : WX) (e : Option Expr) (m : ME (Option Int)) : Prop := PO X e (tR (Cx.z X) (fun _ _ _ a b => a = b) W m)
def noM : ME (Option Int) := fun _ b => .ok none b
def toI : D → Option Int
  | .int i => some i
  | _ => none
def soM (m : ME D) : ME (Option Int) := bindM m fun d => liftO ((toI d).map some)
theorem so_none : SO X W none noM := ⟨fun pins s σ H Q I ⟨g, ρ, b, α, β, r, p⟩ => po_none.run pins s σ H Q I (p none H rfl (Keep.refl _ _) r.box)⟩
theorem so_some (h : SW X W e ma) : SO X W (some e) (soM ma) := ⟨fun pins s σ H Q I h' => (po_some h).run pins s σ H Q I (by
  refine tR_bind h' fun g ρ b α β d x H1 r l p => ?_
  obtain ⟨k, ek, q⟩ := post_lift p
  obtain ⟨i, ei, rfl⟩ := Option.map_eq_some_iff.mp ek
  cases d <;> first | cases ei | skip
  exact ⟨_, l.int, q _ H1 rfl (Keep.refl _ _) r.box⟩)⟩
def cutD (xs : List D) (lo hi : Option Int) : List D := (xs.drop (HT.sIx xs.length 0 lo)).take (HT.sIx xs.length xs.length hi - HT.sIx xs.length 0 lo)
def slD (lo hi : Option Int) : D → Option D
  | .list xs => some (.list (cutD xs lo hi))
  | .tuple xs => some (.tuple (cutD xs lo hi))
  | _ => none
def slM (ma : ME D) (ml mh : ME (Option Int)) : ME D := bindM ma fun d => bindM ml fun lo => bindM mh fun hi => liftO (slD lo hi d)
theorem cut_rds {K : PySem.W.Frag} {O : Own} {H : Hp} {ds : List D} {vs : List V} (r : RDs K O H ds vs) (lo hi : Option Int) : RDs K O H (cutD ds lo hi) (cutV vs lo hi) := by
  unfold cutD cutV
  rw [← r.length]
  exact (r.drop _).take _
theorem se_sl {lo hi : Option Expr} {ml mh : ME (Option Int)} {p2 : Pos} (ha : SW X W a ma) (hl : SO X W lo ml) (hh : SO X W hi mh) : SE X W (.Subscript a (.Slice lo hi none p2) pos) (slM ma ml mh) :=
  PE.imp (pe_slice (sl_list.or sl_tupA) ha hl hh) fun σ H Q h => by
    refine tR_bind2 pers_W h fun g ρ b α β d lo' x lo H1 r l1 l2 p => ?_
    have l2 : lo' = lo := l2
    subst l2
    refine ⟨g, ρ, b, α, β, r, post_bind p fun hi' b' hi H2 l3 k q p2 => ?_⟩
    have l3 : hi' = hi := l3
    subst l3
    have r2 := r.step k q
    have l1 := pers_W _ _ _ _ _ _ r.gd.sub k l1
    obtain ⟨z, ez, q3⟩ := post_lift p2
    cases d <;> first | cases ez | skip
    · obtain ⟨a, vs, rfl, h1, h2⟩ := l1.lst
      exact .inl ⟨a, vs, rfl, h1, fun p hp => q3 _ _ (RD.newL r2.gd hp (cut_rds h2 _ _)) (Keep.upd hp).of0 (r2.box.keep0 (KeepS.upd hp))⟩
    · rename_i ds _
      obtain ⟨a, vs, rfl, h1, h2⟩ := l1.tup
      refine .inr ⟨a, vs, rfl, h1, fun hw => ?_, fun _ p hp => q3 _ _ (RD.newT r2.gd hp (cut_rds h2 _ _)) (Keep.upd hp).of0 (r2.box.keep0 (KeepS.upd hp))⟩
      have e : cutD ds lo' hi' = ds := by
        unfold cutD
        rw [h2.length, hw.1, hw.2, ← h2.length]
        simp
      rw [e] at q3
      exact q3 _ H2 (l1.rd (fun _ z => by cases z)) (Keep.refl _ _) r2.box

/-! ### built-ins -/
def rF (K : PySem.W.Frag) (f : List D → Option D) : List V → Hp → VK → Prop := fun xs H Q => ∃ O B ds z, Gd O B H ∧ RWs K O B H ds xs ∧ f ds = some z ∧ ∀ v H', RD K O H' z v → KeepS H H' → Q v H'
def cbM (f : List D → Option D) (ms : ME (List D)) : ME D := bindM ms fun ds => liftO (f ds)
theorem cb_read {f : List D → Option D} {σ : L2.St} {H : Hp} {Q : VK} (h : tR (Cx.z X) (lD X.K) W (cbM f ms) σ H Q) : tCB (rF X.K f) (tR (Cx.z X) (lWs X.K) W ms) σ H Q := by
  refine tR_bind h fun g ρ b α β ds xs H1 r l p => ?_
  obtain ⟨z, ez, q⟩ := post_lift p
  exact ⟨_, _, ds, z, r.gd, l, ez, fun v H' rv k => q v H' rv k.of0 (r.box.keep0 k)⟩
theorem se_cb {x : Str} {id : String} {p : Pos} {f : List D → Option D} (hf : CallR X (.builtin id) (rF X.K f)) (hg : Gl X x) (hm : X.mg x = none) (hv : bootBuiltins x = some (.builtin id)) (ha : SAW X W (e :: es) ms)
    (hn : x ≠ "__name__" := by decide) (hdb : (x == ("__debug__" : Str)) = false := by decide)
    (he : starEach (e :: es) X.env = (false, eval e X.env) :: starEach es X.env := by rfl) (hpl : (backTo pos (starEach es X.env)).any (·.1) = false := by rfl) : SE X W (.Call (.Name x p) (e :: es) [] pos) (cbM f ms) :=
  PE.imp (pe_callB hf hg hm hv ha hn hdb he hpl) fun σ H Q h => cb_read h
theorem se_ct {x : Str} {T : String} {p : Pos} {f : List D → Option D} (hf : CallR X (.type T) (rF X.K f)) (hg : Gl X x) (hm : X.mg x = none) (hv : bootBuiltins x = some (.type T)) (ha : SAW X W (e :: es) ms)
    (hn : x ≠ "__name__" := by decide) (hdb : (x == ("__debug__" : Str)) = false := by decide)
    (he : starEach (e :: es) X.env = (false, eval e X.env) :: starEach es X.env := by rfl) (hpl : (backTo pos (starEach es X.env)).any (·.1) = false := by rfl) : SE X W (.Call (.Name x p) (e :: es) [] pos) (cbM f ms) :=
  PE.imp (pe_callTy hf hg hm hv ha hn hdb he hpl) fun σ H Q h => cb_read h
def lenF : List D → Option D
  | [.list xs] => some (.int xs.length)
  | [.tuple xs] => some (.int xs.length)
  | [.str z] => if z.length ≤ sizeLine then some (.int z.length) else none
  | _ => none
theorem f_len : CallR X (.builtin "len") (rF X.K lenF) := by
  intro pins s σ H xs us Q I r ⟨O, B, ds, z, G, l, ez, q⟩
  unfold lenF at ez
  split at ez
  · cases ez
    obtain ⟨v, rfl, w1⟩ := l.one
    obtain ⟨a, vs, rfl, h1, h2⟩ := w1.lst
    rw [h2.length] at q
    exact call_len_seq pins s σ H _ us Q I r ⟨a, vs, rfl, .inl h1, q _ H (.int _) (KeepS.refl _)⟩
  · cases ez
    obtain ⟨v, rfl, w1⟩ := l.one
    obtain ⟨a, vs, rfl, h1, h2⟩ := w1.tup
    rw [h2.length] at q
    exact call_len_seq pins s σ H _ us Q I r ⟨a, vs, rfl, .inr h1, q _ H (.int _) (KeepS.refl _)⟩
  · split at ez
    · rename_i hz
      cases ez
      obtain ⟨v, rfl, w1⟩ := l.one
      rw [w1.str] at r
      exact call_len_str pins s σ H _ us Q I r ⟨_, rfl, hz, q _ H (.int _) (KeepS.refl _)⟩
    · cases ez
  · cases ez
def absF : List D → Option D
  | [.int i] => some (.int (if i < 0 then -i else i))
  | _ => none
theorem f_abs : CallR X (.builtin "abs") (rF X.K absF) := by
  intro pins s σ H xs us Q I r ⟨O, B, ds, z, G, l, ez, q⟩
  unfold absF at ez
  split at ez
  · cases ez
    obtain ⟨v, rfl, w1⟩ := l.one
    rw [w1.int] at r
    exact call_abs pins s σ H _ us Q I r ⟨_, rfl, q _ H (.int _) (KeepS.refl _)⟩
  · cases ez
def intF : List D → Option D
  | [.int i] => some (.int i)
  | [.bool k] => some (.int (if k then 1 else 0))
  | _ => none
theorem f_int : CallR X (.type "int") (rF X.K intF) := by
  intro pins s σ H xs us Q I r ⟨O, B, ds, z, G, l, ez, q⟩
  unfold intF at ez
  split at ez
  · cases ez
    obtain ⟨v, rfl, w1⟩ := l.one
    rw [w1.int] at r
    exact call_int1 pins s σ H _ us Q I r (.inl ⟨_, rfl, q _ H (.int _) (KeepS.refl _)⟩)
  · cases ez
    obtain ⟨v, rfl, w1⟩ := l.one
    rw [w1.bl] at r
    exact call_int1 pins s σ H _ us Q I r (.inr ⟨_, rfl, q _ H (.int _) (KeepS.refl _)⟩)
  · cases ez
def tupleF : List D → Option D
  | [.list xs] => some (.tuple xs)
  | [.tuple xs] => some (.tuple xs)
  | _ => none
theorem f_tuple : CallR X (.type "tuple") (rF X.K tupleF) := by
  intro pins s σ H xs us Q I r ⟨O, B, ds, z, G, l, ez, q⟩
  unfold tupleF at ez
  split at ez
  · cases ez
    obtain ⟨v, rfl, w1⟩ := l.one
    obtain ⟨a, vs, rfl, h1, h2⟩ := w1.lst
    exact call_tuple_of pins s σ H _ us Q I r ⟨a, vs, rfl, .inl ⟨h1, fun p hp => q _ _ (RD.newT G hp h2) (KeepS.upd hp)⟩⟩
  · cases ez
    obtain ⟨v, rfl, w1⟩ := l.one
    have l' := w1
    obtain ⟨a, vs, rfl, h1, h2⟩ := w1.tup
    exact call_tuple_of pins s σ H _ us Q I r ⟨a, vs, rfl, .inr ⟨h1, q _ H (l'.rd (fun _ z => by cases z)) (KeepS.refl _)⟩⟩
  · cases ez
def listF : List D → Option D
  | [.list xs] => some (.list xs)
  | [.tuple xs] => some (.list xs)
  | _ => none
theorem f_list : CallR X (.type "list") (rF X.K listF) := by
  intro pins s σ H xs us Q I r ⟨O, B, ds, z, G, l, ez, q⟩
  unfold listF at ez
  split at ez
  · cases ez
    obtain ⟨v, rfl, w1⟩ := l.one
    obtain ⟨a, vs, rfl, h1, h2⟩ := w1.lst
    exact call_list_of pins s σ H _ us Q I r ⟨a, vs, rfl, .inl h1, fun p hp => q _ _ (RD.newL G hp h2) (KeepS.upd hp)⟩
  · cases ez
    obtain ⟨v, rfl, w1⟩ := l.one
    obtain ⟨a, vs, rfl, h1, h2⟩ := w1.tup
    exact call_list_of pins s σ H _ us Q I r ⟨a, vs, rfl, .inr h1, fun p hp => q _ _ (RD.newL G hp h2) (KeepS.upd hp)⟩
  · cases ez
end
end Fs

/-! F6: statements, defs, calls of defs. -/
namespace Fs
open L2 PyProof.Rows PySem.Spec PySem
variable [LT]

/-- behind a return -/
def RetOk (Z : Zx) (g : Gh) (H' : Hp) (d : D) (v : V) (b' : Bx) : Prop :=
  RD Z.K (fun a => g.Of a ∨ g.fo = some a) H' d v ∧ Keep (fun a => g.fo = some a) g.H0 H' ∧ (∀ x y z, b' = .fo x y z → (∃ a, g.fo = some a ∧ H' a = some (BxV x y z))) ∧ LamX.Tabs g.T H'
def PostS (Z : Zx) (W : WX) (g : Gh) (D : Ends) : SR → Prop
  | .nx ρ b => ∀ σ H α β, RE Z.K g H ρ b σ α β → D.nx σ H
  | .rt d b => ∀ v H, RetOk Z g H d v b → D.rt v H
  | .bk ρ b => ∀ σ H α β, RE Z.K g H ρ b σ α β → D.bk σ H
  | .ct ρ b => ∀ σ H α β, RE Z.K g H ρ b σ α β → D.ct σ H
  | .ex e ρ b => ∀ cls dd σ H α β, RE Z.K g H ρ b σ α β → ExR Z (OW g ρ α β) H e cls dd → W cls dd σ H
  | .bad => False
def tS (Z : Zx) (W : WX) (m : MS) : TS := fun D σ H => ∃ g ρ b α β, RE Z.K g H ρ b σ α β ∧ PostS Z W g D (m ρ b)
def SS (X : Cx) (W : WX) (st : Stmt) (m : MS) : Prop := PS X st (tS (Cx.z X) W m)
def SB (X : Cx) (W : WX) (sts : List Stmt) (m : MS) : Prop := PSs X sts (tS (Cx.z X) W m)
theorem PS.imp {X : Cx} {st : Stmt} {t t' : TS} (h : PS X st t) (i : ∀ D σ H, t' D σ H → t D σ H) : PS X st t' := ⟨fun pins s σ H D I q => h.run pins s σ H D I (i D σ H q)⟩
theorem PSs.imp {X : Cx} {st : List Stmt} {t t' : TS} (h : PSs X st t) (i : ∀ D σ H, t' D σ H → t D σ H) : PSs X st t' := ⟨fun pins s σ H D I q => h.run pins s σ H D I (i D σ H q)⟩

def skipM : MS := fun ρ b => .nx ρ b
def seqM (m n : MS) : MS := fun ρ b => match m ρ b with
  | .nx ρ' b' => n ρ' b'
  | r => r
/-- an expression, then -/
def exprM {τ : Type} (m : ME τ) (k : τ → MS) : MS := fun ρ b => match m ρ b with
  | .ok a b' => k a ρ b'
  | .ex e b' => .ex e ρ b'
  | .bad => .bad
section
variable {X : Cx} {W : WX} {e a c : Expr} {es : List Expr} {st : Stmt} {rest sa sb : List Stmt} {ma : ME D} {mt : ME Bool} {ms : ME (List D)} {m n : MS} {pos : Pos}
theorem sb_nil : SB X W [] skipM := PSs.imp pss_nil fun D σ H ⟨g, ρ, b, α, β, r, p⟩ => p σ H α β r
theorem post_seq {g : Gh} {D : Ends} {ρ : En} {b : Bx} (h : PostS (Cx.z X) W g D (seqM m n ρ b)) : PostS (Cx.z X) W g { D with nx := tS (Cx.z X) W n D } (m ρ b) := by
  unfold seqM at h
  split at h
  · rename_i ρ' b' e
    rw [e]
    exact fun σ H α β r => ⟨g, ρ', b', α, β, r, h⟩
  · rename_i r hr
    cases q : m ρ b with
    | nx ρ' b' => exact absurd q (hr ρ' b')
    | rt d b' => rw [q] at h; exact h
    | bk _ _ => rw [q] at h; exact h
    | ct _ _ => rw [q] at h; exact h
    | ex _ _ _ => rw [q] at h; exact h
    | bad => rw [q] at h; exact h
theorem sb_cons (h1 : SS X W st m) (h2 : SB X W rest n) : SB X W (st :: rest) (seqM m n) := PSs.imp (pss_cons h1 h2) fun D σ H ⟨g, ρ, b, α, β, r, p⟩ => ⟨g, ρ, b, α, β, r, post_seq p⟩
theorem sb_one (h : SS X W st m) : SB X W [st] m := pss_one h
/-- the expression's reading out of a statement's -/
theorem expr_read {τ υ : Type} {L : Rl τ υ} {me : ME τ} {k : τ → MS} {D : Ends} {σ : L2.St} {H : Hp} {Q : υ → Hp → Prop} (h : tS (Cx.z X) W (exprM me k) D σ H)
    (q : ∀ g ρ b α β a x H1, RE X.K g H1 ρ b σ α β → Keep (Bs β) H H1 → L (OW g ρ α β) (Bs β) H1 a x → PostS (Cx.z X) W g D (k a ρ b) → Q x H1) : tR (Cx.z X) L W me σ H Q := by
  obtain ⟨g, ρ, b, α, β, r, p⟩ := h
  refine ⟨g, ρ, b, α, β, r, ?_⟩
  unfold exprM at p
  cases e : me ρ b with
  | ok a b' =>
    rw [e] at p
    exact fun x H1 l kk qq => q g ρ b' α β a x H1 (r.step kk qq) kk l p
  | ex x b' =>
    rw [e] at p
    exact fun cls dd H1 l kk qq => p cls dd σ H1 α β (r.step kk qq) l
  | bad => rw [e] at p; exact p.elim
theorem ss_pass : SS X W (.Pass pos) skipM := PS.imp ps_pass fun D σ H ⟨g, ρ, b, α, β, r, p⟩ => p σ H α β r
def breakM : MS := fun ρ b => .bk ρ b
def contM : MS := fun ρ b => .ct ρ b
theorem ss_break : SS X W (.Break pos) breakM := PS.imp ps_break fun D σ H ⟨g, ρ, b, α, β, r, p⟩ => p σ H α β r
theorem ss_cont : SS X W (.Continue pos) contM := PS.imp ps_continue fun D σ H ⟨g, ρ, b, α, β, r, p⟩ => p σ H α β r
/-- an expression alone -/
def dropM (ma : ME D) : MS := exprM ma fun _ ρ b => .nx ρ b
theorem ss_expr (h : SW X W e ma) (hs : swapsWith e none pos.line X.env = pure false := by rfl) : SS X W (.Expr e pos) (dropM ma) :=
  PS.imp (ps_expr h hs) fun D σ H h => expr_read h fun g ρ b α β a x H1 r _ l p => p σ H1 α β r
/-! ### return -/
theorem RE.ret {g : Gh} {H : Hp} {ρ : En} {b : Bx} {σ : L2.St} {α : Nat → Addr} {β : Option Addr} (r : RE X.K g H ρ b σ α β) {d : D} {v : V} (h : RD X.K (fun a => g.Of a ∨ g.fo = some a) H d v) : RetOk (Cx.z X) g H d v b :=
  ⟨h, r.evo, fun x y z e => by
    have q := r.box.1
    subst e
    obtain ⟨a, _, e2, e3⟩ := q
    exact ⟨a, e2, e3⟩, r.box.2⟩
theorem RE.foB {g : Gh} {H : Hp} {ρ : En} {b : Bx} {σ : L2.St} {α : Nat → Addr} {β : Option Addr} (r : RE X.K g H ρ b σ α β) {a : Addr} (h : g.fo = some a) : β = some a := by
  have q := r.box.1
  cases b with
  | no => rw [q.2] at h; cases h
  | fo x y z =>
    obtain ⟨a', e1, e2, _⟩ := q
    rw [h] at e2; cases e2
    exact e1
  | ow x y z =>
    obtain ⟨a', _, e2, _⟩ := q
    rw [h] at e2; cases e2
def retM (ma : ME D) : MS := exprM ma fun d _ b => .rt d b
theorem ss_ret (h : SE X W e ma) : SS X W (.Return (some e) pos) (retM ma) :=
  PS.imp (ps_ret h) fun D σ H h => expr_read h fun g ρ b α β a x H1 r _ l p => p x H1 (r.ret (l.own fun a u _ z => by
    rcases z with z | z
    · exact .inl z
    · exact .inr (.inl (r.foB z))))
/-- return of a list of one's own -/
def retOwnM (i : Nat) : MS := fun ρ b => match ρ[i]? with
  | some (.own xs) => .rt (.list xs) b
  | _ => .bad
theorem ss_retOwn {i : Nat} {x : Str} {p1 : Pos} (hN : X.N[i]? = some x) (hv : Vis X.env.scope x) (hd : (x == ("__debug__" : Str)) = false := by decide) (hcd : (x == ("__classdict__" : Str)) = false := by decide) : SS X W (.Return (some (.Name x p1)) pos) (retOwnM i) :=
  PS.imp (ps_ret (pe_var hN hv hd hcd)) fun D σ H ⟨g, ρ, b, α, β, r, p⟩ => by
    unfold retOwnM at p
    split at p
    · rename_i xs e
      obtain ⟨vs, e1, e2, e3, e4, e5⟩ := r.own i xs e
      refine ⟨_, e1, p _ H (r.ret (.lst ⟨.inl e2, fun z => ?_⟩ (e3.own fun a u _ z => ?_)))⟩
      · rcases z with z | z
        · obtain ⟨ys, e⟩ := r.oft _ z
          obtain ⟨o, e⟩ := rd_some e
          rw [e4] at e; cases e
        · exact e5 (r.foB z)
      · rcases z with z | z
        · exact .inl z
        · exact .inr (.inl (r.foB z))
    · exact p.elim
def retNM : MS := fun _ b => .rt .none b
theorem ss_retN : SS X W (.Return none pos) retNM := PS.imp ps_retN fun D σ H ⟨g, ρ, b, α, β, r, p⟩ => p _ H (r.ret .non)
/-! ### if -/
def ifM (mt : ME Bool) (m n : MS) : MS := exprM mt fun t => if t = true then m else n
theorem ss_if (hc : ST X W c mt) (ha : SB X W sa m) (hb : SB X W sb n) : SS X W (.If c sa sb pos) (ifM mt m n) :=
  PS.imp (ps_if hc ha hb) fun D σ H h => expr_read (L := lB) h fun g ρ b α β a x H1 r _ l p => by
    have l : a = x := l
    subst l
    cases a with
    | true => exact ⟨g, ρ, b, α, β, r, p⟩
    | false => exact ⟨g, ρ, b, α, β, r, p⟩
/-! ### a name is given -/
theorem set_at {ρ : En} {i : Nat} {sl : Sl} (h : i < ρ.length) : (ρ.set i sl)[i]? = some sl := by simp [h]
theorem set_ne {ρ : En} {i j : Nat} {sl : Sl} (h : i ≠ j) : (ρ.set i sl)[j]? = ρ[j]? := by simp [h]
theorem own_set {g : Gh} {ρ : En} {α : Nat → Addr} {β : Option Addr} {i : Nat} {sl : Sl} (hs : ∀ xs, sl ≠ .own xs) : ∀ a, OW g (ρ.set i sl) α β a → OW g ρ α β a := fun a h => by
  rcases h with h | h | ⟨j, xs, e, h⟩
  · exact .inl h
  · exact .inr (.inl h)
  · by_cases hij : i = j
    · subst hij
      by_cases hl : i < ρ.length
      · rw [set_at hl] at e
        exact absurd (Option.some.inj e) (hs xs)
      · rw [List.getElem?_eq_none (by simp; omega)] at e; cases e
    · rw [set_ne hij] at e
      exact .inr (.inr ⟨j, xs, e, h⟩)
/-- slot i is given what is no list of one's own -/
theorem RE.set {K : PySem.W.Frag} {g : Gh} {H : Hp} {ρ : En} {b : Bx} {σ : L2.St} {α : Nat → Addr} {β : Option Addr} (r : RE K g H ρ b σ α β) {i : Nat} {sl : Sl} {ov : Option V} (hi : i < σ.length) (hs : ∀ xs, sl ≠ .own xs)
    (hv : ∀ d, sl = .v d → ∃ v, ov = some v ∧ RD K (OW g ρ α β) H d v) (hl : ∀ xs, sl ≠ .lk xs) (hb : sl = .bx → ∃ a, β = some a ∧ ov = some (.ref a)) (hfn : ∀ j, sl = .fn j → ov = some (.ref (g.fa j)) := by intro _ z; cases z) : RE K g H (ρ.set i sl) b (σ.set i ov) α β := by
  have hr : i < ρ.length := by rw [r.len]; exact hi
  have mono : ∀ a (u : HO), H a = some u → OW g (ρ.set i sl) α β a → OW g ρ α β a := fun a _ _ h => own_set hs a h
  refine ⟨by simp [r.len], r.evo, r.oft, r.ofo, fun j d e => ?_, fun j xs e => ?_, fun j k xs ys e1 e2 => ?_, fun j xs e => ?_, fun j e => ?_, r.box, r.tt, fun j k e => ?_⟩
  · by_cases hij : i = j
    · subst hij
      rw [set_at hr] at e
      obtain ⟨v, e1, e2⟩ := hv d (Option.some.inj e)
      exact ⟨v, by simp [hi, e1], e2.own mono⟩
    · rw [set_ne hij] at e
      obtain ⟨v, e1, e2⟩ := r.val j d e
      exact ⟨v, by simp [hij, e1], e2.own mono⟩
  · by_cases hij : i = j
    · subst hij
      rw [set_at hr] at e
      exact absurd (Option.some.inj e) (hs xs)
    · rw [set_ne hij] at e
      obtain ⟨vs, e1, e2, e3, e4, e5⟩ := r.own j xs e
      exact ⟨vs, by simp [hij, e1], e2, e3.own mono, e4, e5⟩
  · have : i ≠ j := fun z => by
      subst z
      rw [set_at hr] at e1
      exact absurd (Option.some.inj e1) (hs xs)
    have : i ≠ k := fun z => by
      subst z
      rw [set_at hr] at e2
      exact absurd (Option.some.inj e2) (hs ys)
    rw [set_ne (by assumption)] at e1 e2
    exact r.inj j k xs ys e1 e2
  · by_cases hij : i = j
    · subst hij
      rw [set_at hr] at e
      exact absurd (Option.some.inj e) (hl xs)
    · rw [set_ne hij] at e
      obtain ⟨vs, e1, e2, e3, e4⟩ := r.lck j xs e
      exact ⟨vs, by simp [hij, e1], e2, e3, e4.own mono⟩
  · by_cases hij : i = j
    · subst hij
      rw [set_at hr] at e
      obtain ⟨a, e1, e2⟩ := hb (Option.some.inj e)
      exact ⟨a, e1, by simp [hi, e2]⟩
    · rw [set_ne hij] at e
      obtain ⟨a, e1, e2⟩ := r.bxs j e
      exact ⟨a, e1, by simp [hij, e2]⟩
  · by_cases hij : i = j
    · subst hij
      rw [set_at hr] at e
      have e2 := hfn k (Option.some.inj e)
      simp [hi, e2]
    · rw [set_ne hij] at e
      have e2 := r.fns j k e
      simp [hij, e2]
theorem RE.setV {K : PySem.W.Frag} {g : Gh} {H : Hp} {ρ : En} {b : Bx} {σ : L2.St} {α : Nat → Addr} {β : Option Addr} (r : RE K g H ρ b σ α β) {i : Nat} {d : D} {v : V} (hi : i < σ.length) (hv : RD K (OW g ρ α β) H d v) : RE K g H (ρ.set i (.v d)) b (σ.set i (some v)) α β :=
  r.set hi (fun _ z => by cases z) (fun _ e => by cases e; exact ⟨v, rfl, hv⟩) (fun _ z => by cases z) (fun z => by cases z)
/-- name = e -/
def setM (i : Nat) (ma : ME D) : MS := exprM ma fun d ρ b => if i < ρ.length then .nx (ρ.set i (.v d)) b else .bad
theorem setM_post {g : Gh} {D : Ends} {i : Nat} {ρ : En} {d : PyData} {b : Bx} {σ : L2.St} {H : Hp} {α : Nat → Addr} {β : Option Addr} {v : V} (r : RE X.K g H ρ b σ α β) (l : RD X.K (OW g ρ α β) H d v)
    (p : PostS (Cx.z X) W g D (if i < ρ.length then .nx (ρ.set i (.v d)) b else .bad)) : D.nx (σ.set i (some v)) H := by
  split at p
  · rename_i hi
    exact p _ H α β (r.setV (by rw [← r.len]; exact hi) l)
  · exact p.elim
theorem ss_set {i : Nat} {x : Str} {pos' : Pos} (hN : X.N.Nodup) (hi : X.N[i]? = some x) (hx : Loc X.env.scope x) (he : SE X W e ma) (hs : swapsWith e (some (.Name x pos')) pos.line X.env = pure false := by rfl)
    (hf : X.fn x = true ∨ X.env.scope.names.lookup x = some .local := by first | exact .inl rfl | exact .inr rfl | assumption) : SS X W (.Assign [.Name x pos'] e pos) (setM i ma) :=
  PS.imp (ps_set hN hi hx he hs hf) fun D σ H h => expr_read h fun g ρ b α β d v H1 r _ l p => setM_post r l p
end
end Fs

/-! F7: defs by their bodies, calls; lists of one's own; loops. -/
namespace Fs
open L2 PyProof.Rows PySem.Spec PySem
variable [LT]

/-! ### a def as a total function of data -/
inductive PR where
  | ok (d : D)
  | ex (e : Exn)
  | bad
abbrev FN := List D → PR
def spF (Z : Zx) (n : Nat) (fm : FN) : Sp := fun vs H Q E => vs.length = n ∧ ∃ (O : Own) (ds : List D), (∀ a, O a → ∃ xs, Rd H a (.lst xs)) ∧ LamX.Tabs (LT.tabs Z.K) H ∧ RDs Z.K O H ds vs ∧ match fm ds with
  | .ok d => ∀ v H', RD Z.K O H' d v → Keep nobody H H' → LamX.Tabs (LT.tabs Z.K) H' → Q v H'
  | .ex e => ∀ cls dd H', ExR Z O H' e cls dd → Keep nobody H H' → LamX.Tabs (LT.tabs Z.K) H' → E cls dd H'
  | .bad => False
def fnM (n : Nat) (body : MS) : FN := fun ds => match body (ds.map .v ++ List.replicate (n - ds.length) .no) .no with
  | .nx _ _ => .ok .none
  | .rt d _ => .ok d
  | .ex e _ _ => .ex e
  | _ => .bad
def callM (n : Nat) (fm : FN) (ms : ME (List D)) : ME D := bindM ms fun ds _ b => if ds.length = n then (match fm ds with
  | .ok d => .ok d b
  | .ex e => .ex e b
  | .bad => .bad) else .bad
def noLx (e : Exn) : Bool := match e.arg with
  | some d => noL d
  | none => true
/-- a def that reads lists of one's own: what comes back holds no list -/
def callB (n : Nat) (fm : FN) (ms : ME (List D)) : ME D := bindM ms fun ds _ b => if ds.length = n then (match fm ds with
  | .ok d => if noL d then .ok d b else .bad
  | .ex e => if noLx e then .ex e b else .bad
  | .bad => .bad) else .bad

theorem start_re {K : PySem.W.Frag} {O : Own} {H : Hp} {N : List Str} {ds : List D} {vs : List V} (hO : ∀ a, O a → ∃ xs, Rd H a (.lst xs)) (hT : LamX.Tabs (LT.tabs K) H) (r : RDs K O H ds vs) :
    RE K ⟨H, O, none, fun _ => 0, LT.tabs K, fun _ => 0⟩ H (ds.map Sl.v ++ List.replicate (N.length - ds.length) .no) .no (L2.start N vs) (fun _ => 0) none := by
  have hl := r.length
  have at_ : ∀ (i : Nat) (sl : Sl), (ds.map Sl.v ++ List.replicate (N.length - ds.length) .no)[i]? = some sl → (∃ d, ds[i]? = some d ∧ sl = .v d) ∨ sl = .no := fun i sl e => by
    by_cases hi : i < ds.length
    · rw [List.getElem?_append_left (by simpa using hi), List.getElem?_map] at e
      obtain ⟨d, h1, h2⟩ := Option.map_eq_some_iff.mp e
      exact .inl ⟨d, h1, h2.symm⟩
    · rw [List.getElem?_append_right (by simpa using hi)] at e
      rw [List.getElem?_replicate] at e
      split at e
      · exact .inr (Option.some.inj e).symm
      · cases e
  refine ⟨?_, Keep.refl _ _, hO, fun a h => (by cases h), fun i d e => ?_, fun i xs e => ?_, fun i j xs ys e => ?_, fun i xs e => ?_, fun i e => ?_, ⟨⟨rfl, rfl⟩, hT⟩, rfl, fun i k e => ?_⟩
  · unfold L2.start
    simp [hl]
  · rcases at_ i _ e with ⟨d', h1, h2⟩ | h
    · cases h2
      obtain ⟨v, e1, e2⟩ := r.get h1
      refine ⟨v, ?_, e2.own fun a u _ z => ?_⟩
      · unfold L2.start
        have : i < vs.length := (List.getElem?_eq_some_iff.mp e1).1
        rw [List.getElem?_append_left (by simpa using this), List.getElem?_map, e1]
        rfl
      · rcases z with z | z | ⟨j, xs, z, _⟩
        · exact z
        · cases z
        · rcases at_ j _ z with ⟨_, _, z⟩ | z <;> cases z
    · cases h
  all_goals (rcases at_ i _ e with ⟨_, _, z⟩ | z <;> cases z)

section
variable {P : Program} {w : World} {K : PySem.W.Frag} {mg : Str → Option Value} {base : Heap}
/-- a def by its body, at its own code object -/
theorem okC {x qual : Str} {st : Stmt} {f : Addr} {fd : FuncData} {N ps : List Str} {k : Nat} {sp : Sp} (F : Fun K x qual st f fd) (S : FnScope N ps (defScope st)) (len : ∀ vs H Q E, sp vs H Q E → vs.length = ps.length)
    (hbody : ∀ (A : Around) (outer : List Env) (s : Shared) (H : Hp) (vs : List V) (Q : VK) (E : XK), Room k (A.deeper (envOfC qual (defScope st) s.heap.objs.size f fd.code)) → sp vs H Q E →
      ∃ t, PSs (cxOf (L2.CX P w) P w K mg base N qual (defScope st) f fd.code A outer s H E) (defBody st) t ∧ t { nx := fun _ H' => Q .non H', rt := Q } (L2.start N vs) H) : FnOk P w K mg base (L2.CX P w) (k + 1) f fd ps sp := by
  obtain ⟨_, _, _, _, _, _, _, _, _, rfl, lk, hc⟩ := F.ex
  exact fn_of lk hc S len hbody
/-- a def keeps the promise of its body's function -/
theorem fn_sim {x qual : Str} {st : Stmt} {f : Addr} {fd : FuncData} {N ps : List Str} {k : Nat} {m : MS} (F : Fun K x qual st f fd) (S : FnScope N ps (defScope st))
    (hb : ∀ (A : Around) (outer : List Env) (s : Shared) (H : Hp) (E : XK), Room k (A.deeper (envOfC qual (defScope st) s.heap.objs.size f fd.code)) →
      SB (cxOf (L2.CX P w) P w K mg base N qual (defScope st) f fd.code A outer s H E) (fun cls d _ H => E cls d H) (defBody st) m) :
    FnOk P w K mg base (L2.CX P w) (k + 1) f fd ps (spF ⟨K, mg⟩ ps.length (fnM N.length m)) := by
  refine okC F S (fun vs H Q E h => h.1) (fun A outer s H vs Q E hr h => ⟨_, hb A outer s H E hr, ?_⟩)
  obtain ⟨hl, O, ds, hO, hT, r, h⟩ := h
  refine ⟨⟨H, O, none, fun _ => 0, LT.tabs K, fun _ => 0⟩, _, .no, fun _ => 0, none, start_re (N := N) hO hT r, ?_⟩
  have sub : ∀ {H' : Hp} {d : PyData} {v : V} {b : Bx}, RetOk ⟨K, mg⟩ ⟨H, O, none, fun _ => 0, LT.tabs K, fun _ => 0⟩ H' d v b → RD K O H' d v ∧ Keep nobody H H' ∧ LamX.Tabs (LT.tabs K) H' := fun {H' d v b} q =>
    ⟨q.1.own fun a _ _ z => .inl z, q.2.1.mono (fun a z => by cases z), q.2.2.2⟩
  unfold fnM at h
  cases e : m (List.map Sl.v ds ++ List.replicate (N.length - ds.length) Sl.no) .no with
  | nx ρ b =>
    rw [e] at h
    exact fun σ H' α β q => h .non H' .non (q.evo.mono fun a z => by cases z) q.box.2
  | rt d b =>
    rw [e] at h
    exact fun v H' q => h v H' (sub q).1 (sub q).2.1 (sub q).2.2
  | bk _ _ => rw [e] at h; exact h.elim
  | ct _ _ => rw [e] at h; exact h.elim
  | ex x ρ b =>
    rw [e] at h
    refine fun cls dd σ H' α β q ⟨C, h1, h2, h3⟩ => h cls dd H' ⟨C, h1, h2, ?_⟩ (q.evo.mono fun a z => by cases z) q.box.2
    cases ea : x.arg with
    | none => rw [ea] at h3; exact h3
    | some d =>
      rw [ea] at h3
      obtain ⟨p, v, e1, e2, e3⟩ := h3
      exact ⟨p, v, e1, e2, e3.own fun a _ _ z => .inl z⟩
  | bad => rw [e] at h; exact h.elim
end

section
variable {X : Cx} {W : WX} {e a c : Expr} {es : List Expr} {ma : ME D} {ms : ME (List D)} {m n : MS} {pos p : Pos} {x : Str} {k n' : Nat} {f : Addr} {fd : FuncData} {ps : List Str} {fm : FN}
theorem call_read {n : Nat} {σ : L2.St} {H : Hp} {Q : VK} (h : tR (Cx.z X) (lD X.K) W (callM n fm ms) σ H Q) : tCallS (spF (Cx.z X) n fm) (WE W) (tR (Cx.z X) (lDs X.K) W ms) σ H Q := by
  obtain ⟨g, ρ, b, α, β, r, p⟩ := h
  refine ⟨g, ρ, b, α, β, r, ?_⟩
  unfold callM bindM at p
  cases e : ms ρ b with
  | ok ds b' =>
    rw [e] at p
    simp only [R.bind] at p
    split at p
    · rename_i hl
      refine fun vs H1 l kk q => ⟨by rw [← l.length, hl], OW g ρ α β, ds, (r.step kk q).ownL, (r.step kk q).tab, l, ?_⟩
      cases ef : fm ds with
      | ok d =>
        rw [ef] at p
        exact fun v H2 l2 k2 t2 => p v H2 l2 (kk.trans k2.of0) (q.keepT k2 (by rw [r.tt]; exact t2))
      | ex x =>
        rw [ef] at p
        exact fun cls dd H2 l2 k2 t2 => p cls dd H2 l2 (kk.trans k2.of0) (q.keepT k2 (by rw [r.tt]; exact t2))
      | bad => rw [ef] at p; exact p
    · exact p.elim
  | ex x b' => rw [e] at p; exact p
  | bad => rw [e] at p; exact p
/-- f(e, ..) -/
theorem se_call (F : FnOk X.prog X.w X.K X.mg X.base (L2.CX X.prog X.w) k f fd ps (spF (Cx.z X) ps.length fm)) (hr : Room k X.A) (hg : Gl X x) (hm : X.mg x = some (.ref f)) (hk : PySem.W.keepIn X.K (.ref f) = true) (hb : Binds X.K fd ps []) (tk : Takes X W)
    (ha : SA X W (e :: es) ms) (hdb : (x == ("__debug__" : Str)) = false := by decide) (he : starEach (e :: es) X.env = (false, eval e X.env) :: starEach es X.env := by rfl) (hpl : (backTo pos (starEach es X.env)).any (·.1) = false := by rfl) :
    SE X W (.Call (.Name x p) (e :: es) [] pos) (callM ps.length fm ms) :=
  PE.imp (pe_callS F hr hg hm hk hb (fun σ => passAt tk σ) ha hdb he hpl) fun σ H Q h => call_read h
/-- what is borrowed: the addresses among the arguments -/
theorem borrow {K : PySem.W.Frag} {O B : Own} {H : Hp} (G : Gd O B H) {ds : List D} {vs : List V} (l : RWs K O B H ds vs) : RDs K (fun a => O a ∧ V.ref a ∉ vs) H ds vs := by
  have key : ∀ {es : List D} {ws : List V}, RWs K O B H es ws → (∀ v ∈ ws, v ∈ vs) → RDs K (fun a => O a ∧ V.ref a ∉ vs) H es ws := by
    intro es ws h
    induction h with
    | nil => intro _; exact .nil
    | cons a b ih =>
      intro hs
      refine .cons ?_ (ih fun v hv => hs v (List.mem_cons_of_mem _ hv))
      rcases a with a | ⟨xs, us, q, e1, e2, t, rs⟩
      · exact a.own fun _ _ _ z => z.1
      · subst e1 e2
        exact .lst ⟨t.1, fun z => z.2 (hs _ List.mem_cons_self)⟩ (rs.own fun _ _ _ z => z.1)
  exact key l fun _ h => h
theorem unborrow {K : PySem.W.Frag} {O B : Own} {H : Hp} (G : Gd O B H) {vs : List V} {d : D} {v : V} (n : noL d = true) (h : RD K (fun a => O a ∧ V.ref a ∉ vs) H d v) : RD K O H d v :=
  h.noL (fun a ha => .inr (G.lst a ha)) _ _ n
theorem callB_read {n : Nat} {σ : L2.St} {H : Hp} {Q : VK} (h : tR (Cx.z X) (lD X.K) W (callB n fm ms) σ H Q) : tCallS (spF (Cx.z X) n fm) (WE W) (tR (Cx.z X) (lWs X.K) W ms) σ H Q := by
  obtain ⟨g, ρ, b, α, β, r, p⟩ := h
  refine ⟨g, ρ, b, α, β, r, ?_⟩
  unfold callB bindM at p
  cases e : ms ρ b with
  | ok ds b' =>
    rw [e] at p
    simp only [R.bind] at p
    split at p
    · rename_i hl
      refine fun vs H1 l kk q => ?_
      have r1 := r.step kk q
      refine ⟨by rw [← l.length, hl], (fun a => OW g ρ α β a ∧ V.ref a ∉ vs), ds, fun a z => r1.ownL a z.1, r1.tab, borrow r1.gd l, ?_⟩
      cases ef : fm ds with
      | ok d =>
        rw [ef] at p
        refine fun v H2 l2 k2 t2 => ?_
        have q2 := q.keepT k2 (by rw [r.tt]; exact t2)
        have p' : PostR (Cx.z X) (lD X.K) W (OW g ρ α β) g β σ H Q (if noL d = true then .ok d b' else .bad) := p
        by_cases hn : noL d = true
        · rw [if_pos hn] at p'
          have r2 := r1.step k2.of0 q2
          exact p' v H2 (unborrow r2.gd hn l2) (kk.trans k2.of0) q2
        · rw [if_neg hn] at p'
          exact p'.elim
      | ex x =>
        rw [ef] at p
        refine fun cls dd H2 ⟨C, h1, h2, h3⟩ k2 t2 => ?_
        have q2 := q.keepT k2 (by rw [r.tt]; exact t2)
        have p' : PostR (Cx.z X) (lD X.K) W (OW g ρ α β) g β σ H Q (if noLx x = true then .ex x b' else .bad) := p
        by_cases hn : noLx x = true
        · rw [if_pos hn] at p'
          have r2 := r1.step k2.of0 q2
          refine p' cls dd H2 ⟨C, h1, h2, ?_⟩ (kk.trans k2.of0) q2
          unfold noLx at hn
          cases ea : x.arg with
          | none => rw [ea] at h3; exact h3
          | some d =>
            rw [ea] at h3 hn
            obtain ⟨p', v, e1, e2, e3⟩ := h3
            exact ⟨p', v, e1, e2, unborrow r2.gd hn e3⟩
        · rw [if_neg hn] at p'
          exact p'.elim
      | bad => rw [ef] at p; exact p
    · exact p.elim
  | ex x b' => rw [e] at p; exact p
  | bad => rw [e] at p; exact p
theorem se_callB (F : FnOk X.prog X.w X.K X.mg X.base (L2.CX X.prog X.w) k f fd ps (spF (Cx.z X) ps.length fm)) (hr : Room k X.A) (hg : Gl X x) (hm : X.mg x = some (.ref f)) (hk : PySem.W.keepIn X.K (.ref f) = true) (hb : Binds X.K fd ps []) (tk : Takes X W)
    (ha : SAW X W (e :: es) ms) (hdb : (x == ("__debug__" : Str)) = false := by decide) (he : starEach (e :: es) X.env = (false, eval e X.env) :: starEach es X.env := by rfl) (hpl : (backTo pos (starEach es X.env)).any (·.1) = false := by rfl) :
    SE X W (.Call (.Name x p) (e :: es) [] pos) (callB ps.length fm ms) :=
  PE.imp (pe_callS F hr hg hm hk hb (fun σ => passAt tk σ) ha hdb he hpl) fun σ H Q h => callB_read h
end
end Fs

/-! F8: lists of one's own: made, changed; loops. -/
namespace Fs
open L2 PyProof.Rows PySem.Spec PySem
variable [LT]

/-! ### new lists -/
def PostN (Z : Zx) (W : WX) (O : Own) (g : Gh) (β : Option Addr) (σ : L2.St) (H : Hp) (Q : VK) : R (List D) → Prop
  | .ok ds b' => ∀ a vs H', H a = none → H' a = some (.lst vs) → RDs Z.K (fun x => O x ∨ x = a) H' ds vs → Keep (Bs β) H H' → BxR g H' b' β → Q (.ref a) H'
  | .ex e b' => ∀ cls dd H', ExR Z O H' e cls dd → Keep (Bs β) H H' → BxR g H' b' β → W cls dd σ H'
  | .bad => False
def tN (Z : Zx) (W : WX) (m : ME (List D)) : TE := fun σ H Q => ∃ g ρ b α β, RE Z.K g H ρ b σ α β ∧ PostN Z W (OW g ρ α β) g β σ H Q (m ρ b)
/-- an expression that makes a new list -/
def SN (X : Cx) (W : WX) (e : Expr) (m : ME (List D)) : Prop := PE X e (tN (Cx.z X) W m)
section
variable {X : Cx} {W : WX} {e a c : Expr} {es : List Expr} {ma : ME D} {ms : ME (List D)} {m n : MS} {pos p : Pos} {x : Str}
theorem free_back {g : Gh} {H H1 : Hp} {b : Bx} {β : Option Addr} (k : Keep (Bs β) H H1) (q : BxR g H1 b β) {p : Addr} (h : H1 p = none) : H p = none := by
  have q := q.1
  cases e : H p with
  | none => rfl
  | some u =>
    by_cases hb : β = some p
    · cases b with
      | no => rw [q.1] at hb; cases hb
      | fo x y z =>
        obtain ⟨a, e1, _, e3⟩ := q
        rw [hb] at e1; cases e1
        rw [h] at e3; cases e3
      | ow x y z =>
        obtain ⟨a, e1, _, _, e3⟩ := q
        rw [hb] at e1; cases e1
        rw [h] at e3; cases e3
    · obtain ⟨v, z⟩ := (k p u e hb).some
      rw [h] at z; cases z
def lsM (ms : ME (List D)) : ME D := bindM ms fun ds => cM (.list ds)
theorem SN.se (h : SN X W e ms) : SE X W e (lsM ms) := PE.imp h fun σ H Q ⟨g, ρ, b, α, β, r, p⟩ => by
  refine ⟨g, ρ, b, α, β, r, ?_⟩
  unfold lsM bindM at p
  cases e : ms ρ b with
  | ok ds b' =>
    rw [e] at p
    exact fun a vs H' hn ha l k q => p (.ref a) H' (.lst ⟨.inl ha, fun z => by
      obtain ⟨xs, e⟩ := r.ownL a z
      obtain ⟨o, e⟩ := rd_some e
      rw [hn] at e; cases e⟩ (l.own fun a _ _ z => .inl z)) k q
  | ex x b' => rw [e] at p; exact p
  | bad => rw [e] at p; exact p
def limM (ms : ME (List D)) : ME (List D) := bindM ms fun ds => liftO (if ds.length ≤ sizeLine then some ds else none)
theorem sn_lst (h : SA X W es ms) : SN X W (.List es pos) (limM ms) := PE.imp (pe_lst h) fun σ H Q ⟨g, ρ, b, α, β, r, p⟩ => by
  refine ⟨g, ρ, b, α, β, r, ?_⟩
  unfold limM bindM at p
  cases e : ms ρ b with
  | ok ds b' =>
    rw [e] at p
    simp only [R.bind, liftO] at p
    split at p
    · rename_i a b1 ea
      split at ea
      · rename_i hz
        cases ea
        refine fun xs H1 l k q => ⟨by rw [← l.length]; exact hz, fun p' hp => ?_⟩
        have r1 := r.step k q
        refine p p' xs _ (free_back k q hp) upd_same ?_ (k.trans (Keep.upd hp).of0) (q.keep0 (KeepS.upd hp))
        exact RDs.keep (Keep.upd hp) _ _ (RDs.own (fun a u e z => by
          rcases z with z | z
          · exact z
          · rw [z, hp] at e; cases e) _ _ l)
      · cases ea
    · exact p.elim
  | ex x b' => rw [e] at p; exact p
  | bad => rw [e] at p; exact p
/-- list(e) -/
def newF (d : D) : Option (List D) := match d with
  | .list xs => some xs
  | .tuple xs => some xs
  | _ => none
def newM (ma : ME D) : ME (List D) := bindM ma fun d => liftO (newF d)
theorem sn_list {lp : Pos} (hg : Gl X "list") (hm : X.mg "list" = none) (ha : SW X W e ma) (he : starEach [e] X.env = [(false, eval e X.env)] := by rfl) : SN X W (.Call (.Name "list" lp) [e] [] pos) (newM ma) :=
  PE.imp (pe_callTy (X := X) (T := "list") call_list_of hg hm (by decide +kernel) (pa_cons ha pa_nil he) (by decide) (by decide) he rfl) fun σ H Q ⟨g, ρ, b, α, β, r, p⟩ => by
    refine ⟨g, ρ, b, α, β, r, ?_⟩
    unfold newM bindM at p
    cases e : ma ρ b with
    | ok d b' =>
      rw [e] at p
      simp only [R.bind, liftO] at p
      refine fun v H1 l k q => ?_
      have fin : ∀ {xs : List D} {vs : List V}, newF d = some xs → RDs X.K (OW g ρ α β) H1 xs vs → ∀ p', H1 p' = none → Q (.ref p') (upd H1 p' (.lst vs)) := fun {xs vs} ef rs p' hp => by
        rw [ef] at p
        exact p p' vs _ (free_back k q hp) upd_same (RDs.keep (Keep.upd hp) _ _ (RDs.own (fun a u e z => by
          rcases z with z | z
          · exact z
          · rw [z, hp] at e; cases e) _ _ rs)) (k.trans (Keep.upd hp).of0) (q.keep0 (KeepS.upd hp))
      cases d with
      | list xs =>
        obtain ⟨a, vs, rfl, h1, h2⟩ := l.lst
        exact ⟨a, vs, rfl, .inl h1, fin rfl h2⟩
      | tuple xs =>
        obtain ⟨a, vs, rfl, h1, h2⟩ := l.tup
        exact ⟨a, vs, rfl, .inr h1, fin rfl h2⟩
      | none => exact p.elim
      | bool _ => exact p.elim
      | int _ => exact p.elim
      | str _ => exact p.elim
      | dict _ => exact p.elim
    | ex x b' => rw [e] at p; exact p
    | bad => rw [e] at p; exact p
/-! ### a name is given a new list -/
/-- the list at a, new, becomes slot i's own -/
theorem RE.setOwn {K : PySem.W.Frag} {g : Gh} {H H' : Hp} {ρ : En} {b b' : Bx} {σ : L2.St} {α : Nat → Addr} {β : Option Addr} (r0 : RE K g H ρ b σ α β) (k : Keep (Bs β) H H') (q : BxR g H' b' β) {i : Nat} {ds : List D} {vs : List V} {a : Addr} (hi : i < ρ.length)
    (hn : H a = none) (ha : H' a = some (.lst vs)) (l : RDs K (fun x => OW g ρ α β x ∨ x = a) H' ds vs) : RE K g H' (ρ.set i (.own ds)) b' (σ.set i (some (.ref a))) (fun j => if j = i then a else α j) β := by
  have r := r0.step k q
  have hσ : i < σ.length := by rw [← r.len]; exact hi
  have neB : β ≠ some a := fun z => by
    cases b with
    | no => have := r0.box.1; rw [this.1] at z; cases z
    | fo x y w =>
      obtain ⟨a', e1, _, e3⟩ := r0.box.1
      rw [z] at e1; cases e1
      rw [hn] at e3; cases e3
    | ow x y w =>
      obtain ⟨a', e1, _, _, e3⟩ := r0.box.1
      rw [z] at e1; cases e1
      rw [hn] at e3; cases e3
  have nOf : ¬ g.Of a := fun z => by
    obtain ⟨xs, e⟩ := r0.ownL a (.inl z)
    obtain ⟨o, e⟩ := rd_some e
    rw [hn] at e; cases e
  have nown : ∀ j xs, ρ[j]? = some (.own xs) → α j ≠ a := fun j xs e z => by
    obtain ⟨_, _, e2, _⟩ := r0.own j xs e
    rw [z, hn] at e2; cases e2
  have sub : ∀ x, OW g (ρ.set i (.own ds)) (fun j => if j = i then a else α j) β x → OW g ρ α β x ∨ x = a := fun x h => by
    rcases h with h | h | ⟨j, xs, e, h⟩
    · exact .inl (.inl h)
    · exact .inl (.inr (.inl h))
    · have h : (if j = i then a else α j) = x := h
      by_cases hj : j = i
      · rw [if_pos hj] at h
        exact .inr h.symm
      · rw [if_neg hj] at h
        rw [set_ne (Ne.symm hj)] at e
        exact .inl (.inr (.inr ⟨j, xs, e, h⟩))
  have mono : ∀ x (u : HO), H x = some u → OW g (ρ.set i (.own ds)) (fun j => if j = i then a else α j) β x → OW g ρ α β x := fun x u e h => by
    rcases sub x h with z | z
    · exact z
    · rw [z, hn] at e; cases e
  have kO : Keep (OW g (ρ.set i (.own ds)) (fun j => if j = i then a else α j) β) H H' := k.mono fun x h => .inr (.inl h)
  refine ⟨by simp [r.len], r.evo, r.oft, r.ofo, fun j d e => ?_, fun j xs e => ?_, fun j1 j2 xs ys e1 e2 => ?_, fun j xs e => ?_, fun j e => ?_, q, r.tt, fun j k e => ?_⟩
  · by_cases hij : i = j
    · subst hij
      rw [set_at hi] at e
      cases e
    · rw [set_ne hij] at e
      obtain ⟨v, e1, e2⟩ := r0.val j d e
      exact ⟨v, by simp [hij, e1], (e2.own mono).keep kO⟩
  · by_cases hij : i = j
    · subst hij
      rw [set_at hi] at e
      cases e
      refine ⟨vs, by simp [hσ], by simp [ha], l.own fun x u _ z => sub x z, ?_, by simpa using neB⟩
      simp only [if_true]
      cases e0 : g.H0 a with
      | none => rfl
      | some u =>
        by_cases hf : g.fo = some a
        · exact absurd (r0.foB' hf) neB
        · obtain ⟨v, z⟩ := (r0.evo a u e0 hf).some
          rw [hn] at z; cases z
    · rw [set_ne hij] at e
      obtain ⟨vs', e1, e2, e3, e4, e5⟩ := r0.own j xs e
      rw [if_neg (Ne.symm hij)]
      exact ⟨vs', by simp [hij, e1], k _ _ e2 e5, (e3.own mono).keep kO, e4, e5⟩
  · by_cases h1 : i = j1
    · by_cases h2 : i = j2
      · intro _; omega
      · rw [if_pos h1.symm, if_neg (Ne.symm h2)]
        intro z
        rw [set_ne h2] at e2
        exact absurd z.symm (nown j2 ys e2)
    · rw [set_ne h1] at e1
      rw [if_neg (Ne.symm h1)]
      by_cases h2 : i = j2
      · rw [if_pos h2.symm]
        intro z
        exact absurd z (nown j1 xs e1)
      · rw [if_neg (Ne.symm h2)]
        rw [set_ne h2] at e2
        exact r0.inj j1 j2 xs ys e1 e2
  · by_cases hij : i = j
    · subst hij
      rw [set_at hi] at e
      cases e
    · rw [set_ne hij] at e
      obtain ⟨vs', e1, e2, e3, e4⟩ := r0.lck j xs e
      exact ⟨vs', by simp [hij, e1], e2, e3, (e4.own mono).keep kO⟩
  · by_cases hij : i = j
    · subst hij
      rw [set_at hi] at e
      cases e
    · rw [set_ne hij] at e
      obtain ⟨a', e1, e2⟩ := r0.bxs j e
      exact ⟨a', e1, by simp [hij, e2]⟩
  · by_cases hij : i = j
    · subst hij
      rw [set_at hi] at e
      cases e
    · rw [set_ne hij] at e
      have e2 := r0.fns j k e
      simp [hij, e2]
def ownM (i : Nat) (ms : ME (List D)) : MS := exprM ms fun ds ρ b => if i < ρ.length then .nx (ρ.set i (.own ds)) b else .bad
/-- the reading of a new list out of a statement's -/
theorem new_read {k : List D → MS} {D : Ends} {σ : L2.St} {H : Hp} {Q : VK} (h : tS (Cx.z X) W (exprM ms k) D σ H)
    (q : ∀ g ρ b α β b' ds a vs H', RE X.K g H ρ b σ α β → Keep (Bs β) H H' → BxR g H' b' β → H a = none → H' a = some (.lst vs) → RDs X.K (fun x => OW g ρ α β x ∨ x = a) H' ds vs → PostS (Cx.z X) W g D (k ds ρ b') → Q (.ref a) H') : tN (Cx.z X) W ms σ H Q := by
  obtain ⟨g, ρ, b, α, β, r, p⟩ := h
  refine ⟨g, ρ, b, α, β, r, ?_⟩
  unfold exprM at p
  cases e : ms ρ b with
  | ok ds b' =>
    rw [e] at p
    exact fun a vs H' hn ha l kk qq => q g ρ b α β b' ds a vs H' r kk qq hn ha l p
  | ex x b' =>
    rw [e] at p
    exact fun cls dd H1 l kk qq => p cls dd σ H1 α β (r.step kk qq) l
  | bad => rw [e] at p; exact p.elim
theorem own_post {D : Ends} {σ : L2.St} {H : Hp} {i : Nat} (h : tS (Cx.z X) W (ownM i ms) D σ H) : tN (Cx.z X) W ms σ H fun x H1 => gName i x σ H1 D.nx :=
  new_read h fun g ρ b α β b' ds a vs H' r kk qq hn ha l p => by
    have p : PostS (Cx.z X) W g D (if i < ρ.length then .nx (ρ.set i (.own ds)) b' else .bad) := p
    split at p
    · rename_i hi
      exact p _ H' _ β (r.setOwn kk qq hi hn ha l)
    · exact p.elim
theorem ss_own {i : Nat} {pos' : Pos} (hN : X.N.Nodup) (hi : X.N[i]? = some x) (hx : Loc X.env.scope x) (he : SN X W e ms) (hs : swapsWith e (some (.Name x pos')) pos.line X.env = pure false := by rfl)
    (hf : X.fn x = true ∨ X.env.scope.names.lookup x = some .local := by first | exact .inl rfl | exact .inr rfl | assumption) : SS X W (.Assign [.Name x pos'] e pos) (ownM i ms) :=
  PS.imp (ps_set hN hi hx he hs hf) fun D σ H h => own_post h
/-! ### a list of one's own is changed -/
theorem RE.mut {K : PySem.W.Frag} {g : Gh} {H : Hp} {ρ : En} {b : Bx} {σ : L2.St} {α : Nat → Addr} {β : Option Addr} (r : RE K g H ρ b σ α β) {i : Nat} {xs ys : List D} {ws : List V} (e : ρ[i]? = some (.own xs)) (l : RDs K (OW g ρ α β) H ys ws) :
    RE K g (upd H (α i) (.lst ws)) (ρ.set i (.own ys)) b σ α β := by
  obtain ⟨vs, e1, e2, e3, e4, e5⟩ := r.own i xs e
  have hi : i < ρ.length := (List.getElem?_eq_some_iff.mp e).1
  have kO : Keep (OW g ρ α β) H (upd H (α i) (.lst ws)) := fun a u h n => by
    by_cases ha : a = α i
    · exact absurd (.inr (.inr ⟨i, xs, e, ha.symm⟩)) n
    · rw [upd_ne ha, h]; exact .self
  have sub : ∀ x, OW g (ρ.set i (.own ys)) α β x → OW g ρ α β x := fun x h => by
    rcases h with h | h | ⟨j, zs, e', h⟩
    · exact .inl h
    · exact .inr (.inl h)
    · by_cases hij : i = j
      · subst hij
        exact .inr (.inr ⟨i, xs, e, h⟩)
      · rw [set_ne hij] at e'
        exact .inr (.inr ⟨j, zs, e', h⟩)
  have at_ : ∀ a, a ≠ α i → (upd H (α i) (.lst ws)) a = H a := fun a h => upd_ne h
  have nOf : ¬ g.Of (α i) := fun z => by
    obtain ⟨zs, q⟩ := r.oft _ z
    obtain ⟨o, q⟩ := rd_some q
    rw [e4] at q; cases q
  refine ⟨by simp [r.len], fun a u h n => ?_, r.oft, r.ofo, fun j d e' => ?_, fun j zs e' => ?_, fun j1 j2 zs zs' e1' e2' => ?_, fun j zs e' => ?_, fun j e' => ?_, ⟨?_, tabs_lst r.box.2 e2⟩, r.tt, fun j k e' => ?_⟩
  · rw [at_ a (fun z => by rw [z, e4] at h; cases h)]
    exact r.evo a u h n
  · by_cases hij : i = j
    · subst hij
      rw [set_at hi] at e'; cases e'
    · rw [set_ne hij] at e'
      obtain ⟨v, q1, q2⟩ := r.val j d e'
      exact ⟨v, q1, (q2.keep kO).own fun a u _ z => sub a z⟩
  · by_cases hij : i = j
    · subst hij
      rw [set_at hi] at e'; cases e'
      exact ⟨ws, e1, upd_same, (l.keep kO).own fun a u _ z => sub a z, e4, e5⟩
    · rw [set_ne hij] at e'
      obtain ⟨us, q1, q2, q3, q4, q5⟩ := r.own j zs e'
      refine ⟨us, q1, ?_, (q3.keep kO).own fun a u _ z => sub a z, q4, q5⟩
      rw [at_ _ fun z => hij (r.inj i j _ _ e e' z.symm)]
      exact q2
  · have f : ∀ {j : Nat} {zs : List D}, (ρ.set i (.own ys))[j]? = some (.own zs) → ∃ us, ρ[j]? = some (.own us) := fun {j zs} q => by
      by_cases hij : i = j
      · subst hij; exact ⟨xs, e⟩
      · rw [set_ne hij] at q; exact ⟨zs, q⟩
    obtain ⟨_, q1⟩ := f e1'
    obtain ⟨_, q2⟩ := f e2'
    exact r.inj j1 j2 _ _ q1 q2
  · by_cases hij : i = j
    · subst hij
      rw [set_at hi] at e'; cases e'
    · rw [set_ne hij] at e'
      obtain ⟨us, q1, q2, q3, q4⟩ := r.lck j zs e'
      exact ⟨us, q1, q2, q3, (q4.keep kO).own fun a u _ z => sub a z⟩
  · by_cases hij : i = j
    · subst hij
      rw [set_at hi] at e'; cases e'
    · rw [set_ne hij] at e'
      exact r.bxs j e'
  · have q := r.box.1
    cases b with
    | no => exact q
    | fo x y z =>
      obtain ⟨a, q1, q2, q3⟩ := q
      exact ⟨a, q1, q2, by rw [at_ a fun z => e5 (by rw [q1, z])]; exact q3⟩
    | ow x y z =>
      obtain ⟨a, q1, q2, q3, q4⟩ := q
      exact ⟨a, q1, q2, q3, by rw [at_ a fun z => e5 (by rw [q1, z])]; exact q4⟩
  · by_cases hij : i = j
    · subst hij
      rw [set_at hi] at e'; cases e'
    · rw [set_ne hij] at e'
      exact r.fns j k e'
/-- on slot i's own list -/
def ownCase (i : Nat) (k : List D → MS) : MS := fun ρ b => match ρ[i]? with
  | some (.own xs) => k xs ρ b
  | _ => .bad
theorem ownCase_post {i : Nat} {k : List D → MS} {D : Ends} {σ : L2.St} {H : Hp} (h : tS (Cx.z X) W (ownCase i k) D σ H) : ∃ g ρ b α β xs, ρ[i]? = some (.own xs) ∧ RE X.K g H ρ b σ α β ∧ PostS (Cx.z X) W g D (k xs ρ b) := by
  obtain ⟨g, ρ, b, α, β, r, p⟩ := h
  unfold ownCase at p
  split at p
  · rename_i xs e
    exact ⟨g, ρ, b, α, β, xs, e, r, p⟩
  · exact p.elim
/-- the expression's reading, the ghosts fixed -/
theorem expr_at {τ υ : Type} {L : Rl τ υ} {me : ME τ} {k : τ → MS} {D : Ends} {σ : L2.St} {H : Hp} {Q : υ → Hp → Prop} {g : Gh} {ρ : En} {b : Bx} {α : Nat → Addr} {β : Option Addr} (r : RE X.K g H ρ b σ α β) (p : PostS (Cx.z X) W g D (exprM me k ρ b))
    (q : ∀ b' a x H1, RE X.K g H1 ρ b' σ α β → Keep (Bs β) H H1 → L (OW g ρ α β) (Bs β) H1 a x → PostS (Cx.z X) W g D (k a ρ b') → Q x H1) : tR (Cx.z X) L W me σ H Q := by
  refine ⟨g, ρ, b, α, β, r, ?_⟩
  unfold exprM at p
  cases e : me ρ b with
  | ok a b' =>
    rw [e] at p
    exact fun x H1 l kk qq => q b' a x H1 (r.step kk qq) kk l p
  | ex x b' =>
    rw [e] at p
    exact fun cls dd H1 l kk qq => p cls dd σ H1 α β (r.step kk qq) l
  | bad => rw [e] at p; exact p.elim
theorem new_at {k : List D → MS} {D : Ends} {σ : L2.St} {H : Hp} {Q : VK} {g : Gh} {ρ : En} {b : Bx} {α : Nat → Addr} {β : Option Addr} (r : RE X.K g H ρ b σ α β) (p : PostS (Cx.z X) W g D (exprM ms k ρ b))
    (q : ∀ b' ds a vs H', Keep (Bs β) H H' → BxR g H' b' β → H a = none → H' a = some (.lst vs) → RDs X.K (fun x => OW g ρ α β x ∨ x = a) H' ds vs → PostS (Cx.z X) W g D (k ds ρ b') → Q (.ref a) H') : tN (Cx.z X) W ms σ H Q := by
  refine ⟨g, ρ, b, α, β, r, ?_⟩
  unfold exprM at p
  cases e : ms ρ b with
  | ok ds b' =>
    rw [e] at p
    exact fun a vs H' hn ha l kk qq => q b' ds a vs H' kk qq hn ha l p
  | ex x b' =>
    rw [e] at p
    exact fun cls dd H1 l kk qq => p cls dd σ H1 α β (r.step kk qq) l
  | bad => rw [e] at p; exact p.elim
/-- x.append(e) -/
def appM (i : Nat) (ma : ME D) : MS := ownCase i fun xs => exprM ma fun d ρ b => if xs.length < sizeLine then .nx (ρ.set i (.own (xs ++ [d]))) b else .bad
theorem ss_app {i : Nat} {p1 p2 : Pos} (hN : X.N[i]? = some x) (hv : Vis X.env.scope x) (he : SE X W e ma) (hd : (x == ("__debug__" : Str)) = false := by decide) (hcd : (x == ("__classdict__" : Str)) = false := by decide)
    (hst : starEach [e] X.env = [(false, eval e X.env)] := by rfl)
    (hbase : attributeBase (.Name x p1) "append" X.env (eval (.Name x p1) X.env) = eval (.Name x p1) X.env := by rfl)
    (hfew : ((backTo p (starEach [e] X.env)).all (fun x => !x.1) && (backToKw p (keywordEach [] X.env)).all (fun x => x.1.isSome)
      && decide (([e] : List Expr).length + ([] : List Keyword).length + (if ([] : List Keyword).isEmpty then 0 else 1) < 30)) = true := by rfl)
    (hline : (p2.endLine == p.line) = true := by rfl) (hs : swapsWith (.Call (.Attribute (.Name x p1) "append" p2) [e] [] p) none pos.line X.env = pure false := by rfl) :
    SS X W (.Expr (.Call (.Attribute (.Name x p1) "append" p2) [e] [] p) pos) (appM i ma) :=
  PS.imp (ps_expr (pe_bm (X := X) PySem.F.plainAttrs_list PySem.F.slot_list_append PySem.F.type_list_append mt_append (pe_var hN hv hd hcd) (pa_cons he pa_nil hst) hbase hfew hline hst rfl) hs) fun D σ H h => by
    obtain ⟨g, ρ, b, α, β, xs, e, r, p⟩ := ownCase_post h
    obtain ⟨vs, e1, e2, e3, e4, e5⟩ := r.own i xs e
    refine ⟨_, e1, .inl ⟨rfl, vs, .inl (.inl e2)⟩, ?_⟩
    show tCons _ tNil σ H _
    refine expr_at (L := lD X.K) r p fun b' d v H1 r1 kk l p1 => ?_
    split at p1
    · rename_i hz
      obtain ⟨vs', e1', e2', e3', _⟩ := r1.own i xs e
      have ev : vs' = vs := by
        have := kk _ _ e2 e5
        rw [e2'] at this; cases this; rfl
      subst ev
      exact ⟨_, vs', v, rfl, rfl, e2', by rw [← e3'.length]; exact hz, p1 σ _ α β (r1.mut e (e3'.append (.cons l .nil)))⟩
    · exact p1.elim
/-- x.extend(e), e a new list -/
def extM (i : Nat) (ms : ME (List D)) : MS := ownCase i fun xs => exprM ms fun ds ρ b => if xs.length + ds.length ≤ sizeLine then .nx (ρ.set i (.own (xs ++ ds))) b else .bad
theorem ss_ext {i : Nat} {p1 p2 : Pos} (hN : X.N[i]? = some x) (hv : Vis X.env.scope x) (he : SN X W e ms) (hd : (x == ("__debug__" : Str)) = false := by decide) (hcd : (x == ("__classdict__" : Str)) = false := by decide)
    (hst : starEach [e] X.env = [(false, eval e X.env)] := by rfl)
    (hbase : attributeBase (.Name x p1) "extend" X.env (eval (.Name x p1) X.env) = eval (.Name x p1) X.env := by rfl)
    (hfew : ((backTo p (starEach [e] X.env)).all (fun x => !x.1) && (backToKw p (keywordEach [] X.env)).all (fun x => x.1.isSome)
      && decide (([e] : List Expr).length + ([] : List Keyword).length + (if ([] : List Keyword).isEmpty then 0 else 1) < 30)) = true := by rfl)
    (hline : (p2.endLine == p.line) = true := by rfl) (hs : swapsWith (.Call (.Attribute (.Name x p1) "extend" p2) [e] [] p) none pos.line X.env = pure false := by rfl) :
    SS X W (.Expr (.Call (.Attribute (.Name x p1) "extend" p2) [e] [] p) pos) (extM i ms) :=
  PS.imp (ps_expr (pe_bm (X := X) PySem.F.plainAttrs_list PySem.F.slot_list_extend PySem.F.type_list_extend mt_extend (pe_var hN hv hd hcd) (pa_cons he pa_nil hst) hbase hfew hline hst rfl) hs) fun D σ H h => by
    obtain ⟨g, ρ, b, α, β, xs, e, r, p⟩ := ownCase_post h
    obtain ⟨vs, e1, e2, e3, e4, e5⟩ := r.own i xs e
    refine ⟨_, e1, .inl ⟨rfl, vs, .inl (.inl e2)⟩, ?_⟩
    show tCons _ tNil σ H _
    refine new_at r p fun b' ds a ws H1 kk qq hn ha l p1 => ?_
    have r1 := r.step kk qq
    split at p1
    · rename_i hz
      obtain ⟨vs', e1', e2', e3', _⟩ := r1.own i xs e
      have ev : vs' = vs := by
        have := kk _ _ e2 e5
        rw [e2'] at this; cases this; rfl
      subst ev
      exact ⟨_, a, vs', ws, rfl, rfl, e2', ha, by rw [← e3'.length, ← l.length]; exact hz, p1 σ _ α β (r1.mut e (e3'.append (l.own fun a _ _ z => .inl z)))⟩
    · exact p1.elim
/-- x[k] = e -/
def putM (i : Nat) (mk ma : ME D) : MS := exprM ma fun d => ownCase i fun xs => exprM mk fun k ρ b => match (toI k).bind (ixN xs.length) with
  | some j => .nx (ρ.set i (.own (xs.set j d))) b
  | none => .bad
theorem ss_put {i : Nat} {p1 p2 : Pos} {mk : ME D} (hN : X.N[i]? = some x) (hv : Vis X.env.scope x) (hk : SE X W c mk) (he : SE X W e ma) (hd : (x == ("__debug__" : Str)) = false := by decide) (hcd : (x == ("__classdict__" : Str)) = false := by decide)
    (ha : ∀ v, assign (.Subscript (.Name x p1) c p2) X.env v = (do
      let ov ← holding [v] (eval (.Name x p1) X.env)
      let iv ← holding [v, ov] (eval c X.env)
      standAt p2
      holding [v, ov, iv] (setItem ov iv v)
      release [v, ov, iv] []) := by intro _; rfl)
    (hs : swapsWithSole [.Subscript (.Name x p1) c p2] e pos.line X.env = pure false := by rfl) (hw : swappedStores [.Subscript (.Name x p1) c p2] e X.env = pure none := by rfl)
    (h1 : (assignEach [.Subscript (.Name x p1) c p2] X.env).map (·.2) = [assign (.Subscript (.Name x p1) c p2) X.env] := by rfl) :
    SS X W (.Assign [.Subscript (.Name x p1) c p2] e pos) (putM i mk ma) :=
  PS.imp (ps_asg he (pg_sub (pe_var hN hv hd hcd) hk set_list ha) hs hw h1) fun D σ H h => by
    refine expr_read (L := lD X.K) h fun g ρ b α β d v H1 r kk l p => ?_
    have h2 : tS (Cx.z X) W (ownCase i fun xs => exprM mk fun k ρ b => match (toI k).bind (ixN xs.length) with | some j => .nx (ρ.set i (.own (xs.set j d))) b | none => .bad) D σ H1 := ⟨g, ρ, b, α, β, r, p⟩
    unfold ownCase at p
    split at p
    · rename_i xs e
      obtain ⟨vs, e1, e2, e3, e4, e5⟩ := r.own i xs e
      refine ⟨_, e1, ?_⟩
      refine expr_at (L := lD X.K) r p fun b' dk u H2 r2 kk2 l2 p2 => ?_
      split at p2
      · rename_i j ej
        cases dk <;> simp only [toI, Option.bind_none, Option.bind_some, reduceCtorEq] at ej
        cases l2
        rename_i ik
        obtain ⟨vs', e1', e2', e3', _⟩ := r2.own i xs e
        have ev : vs' = vs := by
          have := kk2 _ _ e2 e5
          rw [e2'] at this; cases this; rfl
        subst ev
        have l3 := pers_D _ _ _ _ _ _ r.gd.sub kk2 l
        exact ⟨_, vs', ik, j, rfl, rfl, e2', by rw [← e3'.length]; exact ej, p2 σ _ α β (r2.mut e (e3'.set j l3))⟩
      · exact p2.elim
    · exact p.elim
end
end Fs

/-! F9: loops. -/
namespace Fs
open L2 PyProof.Rows PySem.Spec PySem
variable [LT]

/-! ### the ground is laid anew -/
open Classical in
noncomputable def rb (g : Gh) (M : Own) (H : Hp) (F : Own) (la : Nat → Addr) : Gh := ⟨fun a => if M a then g.H0 a else H a, F, g.fo, la, g.T, g.fa⟩
/-- what a state may change: the box, its own lists -/
def MW (ρ : En) (α : Nat → Addr) (β : Option Addr) : Own := fun a => β = some a ∨ ∃ i xs, ρ[i]? = some (.own xs) ∧ α i = a
section
variable {K : PySem.W.Frag} {g : Gh} {H H' : Hp} {ρ ρ' : En} {b b' : Bx} {σ σ' : L2.St} {α α' : Nat → Addr} {β β' : Option Addr}
theorem rb_m {M : Own} {F : Own} {la : Nat → Addr} {a : Addr} (h : M a) : (rb g M H F la).H0 a = g.H0 a := by simp only [rb]; rw [if_pos h]
theorem rb_n {M : Own} {F : Own} {la : Nat → Addr} {a : Addr} (h : ¬ M a) : (rb g M H F la).H0 a = H a := by simp only [rb]; rw [if_neg h]
theorem RE.mw0 (r : RE K g H ρ b σ α β) {a : Addr} (h : MW ρ α β a) (hf : g.fo ≠ some a) : g.H0 a = none := by
  rcases h with h | ⟨i, xs, e, h⟩
  · rcases r.bxNew a h with z | z
    · exact absurd z hf
    · exact z.2
  · obtain ⟨_, _, _, _, e4, _⟩ := r.own i xs e
    rw [← h]; exact e4
theorem RE.ofM (r : RE K g H ρ b σ α β) {a : Addr} (h : g.Of a) : ¬ MW ρ α β a := fun z => by
  rcases z with z | ⟨i, xs, e, z⟩
  · exact r.ofB h z
  · obtain ⟨_, _, _, _, e4, _⟩ := r.own i xs e
    obtain ⟨ys, q⟩ := r.oft a h
    obtain ⟨o, q⟩ := rd_some q
    rw [← z, e4] at q; cases q
theorem RE.foM (r : RE K g H ρ b σ α β) {a : Addr} (h : g.fo = some a) : MW ρ α β a := .inl (r.foB' h)
/-- at a loop's start: all that stands is the ground, but what may change -/
theorem RE.base (r : RE K g H ρ b σ α β) : RE K (rb g (MW ρ α β) H g.Of g.la) H ρ b σ α β := by
  refine ⟨r.len, fun a u e n => ?_, fun a h => ?_, fun a h => ⟨(r.ofo a h).1, ?_⟩, r.val, fun i xs e => ?_, r.inj, fun i xs e => ?_, r.bxs, ⟨?_, r.box.2⟩, r.tt, r.fns⟩
  · by_cases h : MW ρ α β a
    · rw [rb_m h] at e
      exact r.evo a u e n
    · rw [rb_n h] at e
      rw [e]
      exact .self
  · obtain ⟨xs, e⟩ := r.ownL a (.inl h)
    have hn := r.ofM h
    refine ⟨xs, ?_⟩
    rcases e with e | ⟨o, e⟩
    · exact .inl (by rw [rb_n hn]; exact e)
    · exact .inr ⟨o, by rw [rb_n hn]; exact e⟩
  · obtain ⟨xs, e⟩ := (r.ofo a h).2
    exact ⟨xs, by rw [rb_m (r.foM h)]; exact e⟩
  · obtain ⟨vs, e1, e2, e3, e4, e5⟩ := r.own i xs e
    exact ⟨vs, e1, e2, e3, by rw [rb_m (.inr ⟨i, xs, e, rfl⟩)]; exact e4, e5⟩
  · obtain ⟨vs, e1, e2, e3, e4⟩ := r.lck i xs e
    have hn := r.ofM e2
    have q : Rd H (g.la i) (.lst vs) := Rd.keep e3 (fun z => (r.ofo _ z).1 e2) r.evo
    refine ⟨vs, e1, e2, ?_, e4⟩
    rcases q with q | ⟨o, q⟩
    · exact .inl ((rb_n hn).trans q)
    · exact .inr ⟨o, (rb_n hn).trans q⟩
  · have q := r.box.1
    cases b with
    | no => exact q
    | fo x y z => exact q
    | ow x y z =>
      obtain ⟨a, q1, q2, q3, q4⟩ := q
      exact ⟨a, q1, q2, by rw [rb_m (.inl q1)]; exact q3, q4⟩
/-- .. and back -/
theorem RE.back0 (r : RE K g H ρ b σ α β) {F : Own} {la : Nat → Addr} {M : Own} (hM : ∀ a, M a → MW ρ α β a) {H' : Hp} (k : Keep (fun a => g.fo = some a) (rb g M H F la).H0 H') : Keep (fun a => g.fo = some a) g.H0 H' := fun a u e n => by
  by_cases h : M a
  · have := r.mw0 (hM a h) n
    rw [e] at this; cases this
  · have x := r.evo a u e n
    cases u with
    | tbl ps => obtain ⟨p1, x⟩ := x; exact k a (.tbl p1) ((rb_n h).trans x) n
    | _ => exact k a _ ((rb_n h).trans x) n
theorem RE.new0 (r : RE K g H ρ b σ α β) {F : Own} {la : Nat → Addr} {M : Own} {a : Addr} (hf : g.fo ≠ some a) (h : (rb g M H F la).H0 a = none) : g.H0 a = none := by
  by_cases hm : M a
  · rw [rb_m hm] at h; exact h
  · rw [rb_n hm] at h
    cases e : g.H0 a with
    | none => rfl
    | some u =>
      obtain ⟨v, z⟩ := (r.evo a u e hf).some
      rw [h] at z; cases z
theorem RE.unbase (r : RE K g H ρ b σ α β) (r' : RE K (rb g (MW ρ α β) H g.Of g.la) H' ρ' b' σ' α' β') : RE K g H' ρ' b' σ' α' β' := by
  refine ⟨r'.len, r.back0 (fun _ h => h) r'.evo, r.oft, r.ofo, r'.val, fun i xs e => ?_, r'.inj, fun i xs e => ?_, r'.bxs, ⟨?_, r'.box.2⟩, r'.tt, r'.fns⟩
  · obtain ⟨vs, e1, e2, e3, e4, e5⟩ := r'.own i xs e
    exact ⟨vs, e1, e2, e3, r.new0 (fun z => e5 (r'.foB' z)) e4, e5⟩
  · obtain ⟨vs, e1, e2, e3, e4⟩ := r'.lck i xs e
    have e2' : g.Of (g.la i) := e2
    obtain ⟨us, q⟩ := r.oft _ e2'
    have q2 : Rd H (g.la i) (.lst us) := Rd.keep q (fun z => (r.ofo _ z).1 e2') r.evo
    have e3' : Rd H (g.la i) (.lst vs) := by
      have hn := r.ofM e2'
      have e3 : Rd (rb g (MW ρ α β) H g.Of g.la).H0 (g.la i) (.lst vs) := e3
      rcases e3 with e3 | ⟨o, e3⟩
      · exact .inl (by rw [rb_n hn] at e3; exact e3)
      · exact .inr ⟨o, by rw [rb_n hn] at e3; exact e3⟩
    have ev : us = vs := by
      rcases q2 with q2 | ⟨o, q2⟩ <;> rcases e3' with e3' | ⟨o', e3'⟩ <;> (rw [q2] at e3'; cases e3'; try rfl)
    subst ev
    exact ⟨us, e1, e2', q, e4⟩
  · have q := r'.box.1
    cases b' with
    | no => exact q
    | fo x y z => exact q
    | ow x y z =>
      obtain ⟨a, q1, q2, q3, q4⟩ := q
      exact ⟨a, q1, q2, r.new0 (fun z => by rw [show g.fo = none from q2] at z; cases z) q3, q4⟩
end

/-! ### targets -/
abbrev TF := D → En → Option En
/-- but at the slots ts nothing is changed -/
def Sm {τ : Type} (ts : List Nat) (s s' : List τ) : Prop := s'.length = s.length ∧ ∀ i : Nat, i ∉ ts → s'[i]? = s[i]?
theorem Sm.refl {τ : Type} (ts : List Nat) (s : List τ) : Sm ts s s := ⟨rfl, fun _ _ => rfl⟩
theorem Sm.set {τ : Type} (s : List τ) (i : Nat) (v : τ) : Sm [i] s (s.set i v) := ⟨by simp, fun j h => by
  have : i ≠ j := fun z => h (by simp [z])
  simp [this]⟩
theorem Sm.cat {τ : Type} {ts us : List Nat} {s s1 s2 : List τ} (a : Sm ts s s1) (b : Sm us s1 s2) : Sm (ts ++ us) s s2 := ⟨b.1.trans a.1, fun i h => by
  rw [List.mem_append, not_or] at h
  exact (b.2 i h.2).trans (a.2 i h.1)⟩
def tGt (Z : Zx) (ts : List Nat) (tf : TF) : TG := fun v σ H Q => ∃ g ρ b α β d ρ', RE Z.K g H ρ b σ α β ∧ RD Z.K (OW g ρ α β) H d v ∧ tf d ρ = some ρ' ∧ ∀ σ', RE Z.K g H ρ' b σ' α β → (∀ a, OW g ρ' α β a → OW g ρ α β a) → Sm ts σ σ' → Sm ts ρ ρ' → Q σ' H
def SG (X : Cx) (tg : Expr) (ts : List Nat) (tf : TF) : Prop := PG X tg (tGt (Cx.z X) ts tf)
theorem PG.imp {X : Cx} {e : Expr} {t t' : TG} (h : PG X e t) (i : ∀ v σ H Q, t' v σ H Q → t v σ H Q) : PG X e t' := ⟨fun pins s σ H v u Q I r q => h.run pins s σ H v u Q I r (i v σ H Q q)⟩
theorem PGs.imp {X : Cx} {e : List Expr} {t t' : TGs} (h : PGs X e t) (i : ∀ v σ H Q, t' v σ H Q → t v σ H Q) : PGs X e t' := ⟨fun pins s σ H v u Q I r q => h.run pins s σ H v u Q I r (i v σ H Q q)⟩
def nameT (i : Nat) : TF := fun d ρ => if i < ρ.length then some (ρ.set i (.v d)) else none
abbrev TFs := List D → En → Option En
def nilT : TFs := fun ds ρ => match ds with
  | [] => some ρ
  | _ => none
def consT (t : TF) (u : TFs) : TFs := fun ds ρ => match ds with
  | d :: r => (t d ρ).bind (u r)
  | [] => none
def tupT (n : Nat) (u : TFs) : TF := fun d ρ => match d with
  | .tuple ds => if ds.length = n then u ds ρ else none
  | _ => none
def tGts (Z : Zx) (ts : List Nat) (tf : TFs) : TGs := fun vs σ H Q => ∃ g ρ b α β ds ρ', RE Z.K g H ρ b σ α β ∧ RDs Z.K (OW g ρ α β) H ds vs ∧ tf ds ρ = some ρ' ∧ ∀ σ', RE Z.K g H ρ' b σ' α β → (∀ a, OW g ρ' α β a → OW g ρ α β a) → Sm ts σ σ' → Sm ts ρ ρ' → Q σ' H
def SGs (X : Cx) (tg : List Expr) (ts : List Nat) (tf : TFs) : Prop := PGs X tg (tGts (Cx.z X) ts tf)
section
variable {X : Cx} {W : WX} {e a c tg iter : Expr} {es : List Expr} {ma : ME D} {ms : ME (List D)} {m n : MS} {pos p : Pos} {x : Str} {tf : TF} {tfs : TFs} {ts us : List Nat}
theorem sg_name {i : Nat} (hN : X.N.Nodup) (hi : X.N[i]? = some x) (hx : Loc X.env.scope x) (hf : X.fn x = true ∨ X.env.scope.names.lookup x = some .local := by first | exact .inl rfl | exact .inr rfl | assumption) : SG X (.Name x pos) [i] (nameT i) :=
  PG.imp (pg_name hN hi hx hf) fun v σ H Q ⟨g, ρ, b, α, β, d, ρ', r, l, et, q⟩ => by
    unfold nameT at et
    split at et
    · rename_i hi
      cases et
      exact q _ (r.setV (by rw [← r.len]; exact hi) l) (fun a h => own_set (fun _ z => by cases z) a h) (Sm.set _ _ _) (Sm.set _ _ _)
    · cases et
theorem sgs_nil : SGs X [] [] nilT := PGs.imp pgs_nil fun v σ H Q ⟨g, ρ, b, α, β, ds, ρ', r, l, et, q⟩ => by
  cases ds with
  | nil =>
    cases l
    cases et
    exact ⟨rfl, q σ r (fun _ h => h) (Sm.refl _ _) (Sm.refl _ _)⟩
  | cons _ _ => cases et
theorem sgs_cons (h1 : SG X e ts tf) (h2 : SGs X es us tfs) (hs : (assignEach (e :: es) X.env).map (·.2) = assign e X.env :: (assignEach es X.env).map (·.2) := by rfl) : SGs X (e :: es) (ts ++ us) (consT tf tfs) :=
  PGs.imp (pgs_cons h1 h2 hs) fun v σ H Q ⟨g, ρ, b, α, β, ds, ρ', r, l, et, q⟩ => by
    cases ds with
    | nil => cases et
    | cons d ds =>
      cases l with
      | cons l1 l2 =>
        obtain ⟨ρ1, e1, e2⟩ := Option.bind_eq_some_iff.mp et
        exact ⟨_, _, rfl, g, ρ, b, α, β, d, ρ1, r, l1, e1, fun σ1 r1 sub s1 s2 => ⟨g, ρ1, b, α, β, ds, ρ', r1, l2.own fun a u _ z => sub a z, e2, fun σ2 r2 sub2 s3 s4 => q σ2 r2 (fun a z => sub a (sub2 a z)) (s1.cat s3) (s2.cat s4)⟩⟩
theorem sg_tup {k n : Nat} (hc : X.calm = true) (h : SGs X es ts tfs) (hn : (assignEach es X.env).length = n := by rfl) (hst : (assignEach es X.env).findIdx? (·.1) = none := by rfl) : SG X (.Tuple es k pos) ts (tupT n tfs) :=
  PG.imp (pg_tup hc h hn hst) fun v σ H Q ⟨g, ρ, b, α, β, d, ρ', r, l, et, q⟩ => by
    unfold tupT at et
    split at et
    · rename_i ds
      split at et
      · rename_i hl
        cases l with
        | tup a l => exact ⟨_, _, rfl, a.sq, by rw [← l.length]; exact hl, g, ρ, b, α, β, ds, ρ', r, l, et, q⟩
      · cases et
    · cases et
/-- a, b = e -/
def unpM (tf : TF) (ma : ME D) : MS := exprM ma fun d ρ b => match tf d ρ with
  | some ρ' => .nx ρ' b
  | none => .bad
theorem ss_unp (he : SE X W e ma) (hg : SG X tg ts tf) (hs : swapsWithSole [tg] e pos.line X.env = pure false := by rfl) (hw : swappedStores [tg] e X.env = pure none := by rfl)
    (h1 : (assignEach [tg] X.env).map (·.2) = [assign tg X.env] := by rfl) : SS X W (.Assign [tg] e pos) (unpM tf ma) :=
  PS.imp (ps_asg he hg hs hw h1) fun D σ H h => expr_read (L := lD X.K) h fun g ρ b α β d v H1 r _ l p => by
    split at p
    · rename_i ρ' et
      exact ⟨g, ρ, b, α, β, d, ρ', r, l, et, fun σ' r' _ _ _ => p σ' H1 α β r'⟩
    · exact p.elim

/-! ### for -/
def forL (tf : TF) (body : MS) : List D → MS
  | [], ρ, b => .nx ρ b
  | d :: ds, ρ, b => match tf d ρ with
    | none => .bad
    | some ρ1 => match body ρ1 b with
      | .nx ρ2 b2 => forL tf body ds ρ2 b2
      | .ct ρ2 b2 => forL tf body ds ρ2 b2
      | .bk ρ2 b2 => .nx ρ2 b2
      | r => r
theorem for_core {g : Gh} {J : It} {ds : List D} {D : Ends} {σ : L2.St} {H : Hp} {ρ : En} {b : Bx} {α : Nat → Addr} {β : Option Addr} (r : RE X.K g H ρ b σ α β)
    (hJ : ∀ H' ρ b σ α β, RE X.K g H' ρ b σ α β → J.stop ds.length H' ∧ ∀ i d, ds[i]? = some d → J.go i H' ∧ ∀ x H3, J.yld i H' x H3 → KeepS H' H3 ∧ RD X.K (OW g ρ α β) H3 d x)
    (p : PostS (Cx.z X) W g D (forL tf m ds ρ b)) :
    ∃ W' : Nat → Nat → L2.St → Hp → Prop, (∃ m, W' 0 m σ H) ∧ ∀ i k σ H, W' i k σ H → (J.stop i H ∧ D.nx σ H) ∨ (J.go i H ∧ ∃ N : L2.St → Hp → Prop, (∀ σ' H', N σ' H' → ∃ m', m' < k ∧ W' (i + 1) m' σ' H') ∧
      ∀ x H', J.yld i H x H' → tGt (Cx.z X) ts tf x σ H' fun σ2 H2 => tS (Cx.z X) W m { D with nx := N, ct := N, bk := D.nx } σ2 H2) := by
  refine ⟨fun i k σ H => k = ds.length - i ∧ i ≤ ds.length ∧ ∃ ρ b α β, RE X.K g H ρ b σ α β ∧ PostS (Cx.z X) W g D (forL tf m (ds.drop i) ρ b), ⟨ds.length, rfl, Nat.zero_le _, ρ, b, α, β, r, p⟩, ?_⟩
  rintro i k σ H ⟨rfl, hi, ρ, b, α, β, r, p⟩
  obtain ⟨hstop, hgo⟩ := hJ H ρ b σ α β r
  by_cases hlt : i < ds.length
  · obtain ⟨g1, y⟩ := hgo i ds[i] (List.getElem?_eq_getElem hlt)
    rw [List.drop_eq_getElem_cons hlt] at p
    refine .inr ⟨g1, fun σ2 H2 => ∃ ρ2 b2 α2 β2, RE X.K g H2 ρ2 b2 σ2 α2 β2 ∧ PostS (Cx.z X) W g D (forL tf m (ds.drop (i + 1)) ρ2 b2), fun σ' H' h => ⟨ds.length - (i + 1), by omega, rfl, hlt, h⟩, fun x H3 hy => ?_⟩
    obtain ⟨k0, l⟩ := y x H3 hy
    have r3 : RE X.K g H3 ρ b σ α β := r.step k0.of0 (r.box.keep0 k0)
    unfold forL at p
    cases et : tf ds[i] ρ with
    | none => rw [et] at p; exact p.elim
    | some ρ1 =>
      rw [et] at p
      refine ⟨g, ρ, b, α, β, ds[i], ρ1, r3, l, et, fun σ2 r2 _ _ _ => ⟨g, ρ1, b, α, β, r2, ?_⟩⟩
      simp only at p
      cases eb : m ρ1 b with
      | nx ρ2 b2 => rw [eb] at p; exact fun σ H α β q => ⟨ρ2, b2, α, β, q, p⟩
      | ct ρ2 b2 => rw [eb] at p; exact fun σ H α β q => ⟨ρ2, b2, α, β, q, p⟩
      | bk ρ2 b2 => rw [eb] at p; exact p
      | rt d b2 => rw [eb] at p; exact p
      | ex e ρ2 b2 => rw [eb] at p; exact p
      | bad => rw [eb] at p; exact p
  · have e : i = ds.length := by omega
    subst e
    rw [List.drop_length] at p
    exact .inl ⟨hstop, p σ H α β r⟩
/-! ### what a loop walks -/
/-- J's items are ds; what M may change does not disturb it -/
def ItR (K : PySem.W.Frag) (O M : Own) (ds : List D) (J : It) (H : Hp) : Prop := ∀ H', Keep M H H' → J.stop ds.length H' ∧ ∀ i d, ds[i]? = some d → J.go i H' ∧ ∀ x H3, J.yld i H' x H3 → KeepS H' H3 ∧
  ∀ Ot : Own, (∀ a, Ot a → ∃ o, H' a = some o) → (∀ c y, RD K O H c y → RD K Ot H3 c y) → RD K Ot H3 d x
abbrev lIs (K : PySem.W.Frag) : Rl (List D) It := fun O _ H ds J => ItR K O O ds J H ∧ ds.length ≤ sizeLine
abbrev lIw (K : PySem.W.Frag) : Rl (List D) It := fun O B H ds J => ItR K O B ds J H ∧ ds.length ≤ sizeLine
/-- lists and tuples are no longer than the line -/
def HLen (K : PySem.W.Frag) (H : Hp) : Prop := ∀ a xs, (SqL K H a xs → xs.length ≤ sizeLine) ∧ (SqT K H a xs → xs.length ≤ sizeLine)
theorem PE.len {X : Cx} {e : Expr} {t : TE} (h : PE X e t) : PE X e (fun σ H Q => t σ H fun v H' => HLen X.K H' → Q v H') := ⟨fun pins s σ H Q I q =>
  wpAny_mono (h.run pins s σ H _ I q) (fun u s' ⟨v, H', I', r, q'⟩ => ⟨v, H', I', r, q' fun a xs => ⟨fun z => by obtain ⟨_, _, _, h⟩ := I'.list z; exact h, fun z => by obtain ⟨_, _, _, h⟩ := I'.tuple z; exact h⟩⟩) fun _ _ z => z⟩
/-- a source that the body may not disturb; one that is read at once -/
def SIs (X : Cx) (W : WX) (tg iter : Expr) (m : ME (List D)) : Prop := PI X tg iter (tR (Cx.z X) (lIs X.K) W m)
def SIw (X : Cx) (W : WX) (tg iter : Expr) (m : ME (List D)) : Prop := PI X tg iter (tR (Cx.z X) (lIw X.K) W m)
theorem ItR.w {K : PySem.W.Frag} {O B : Own} {ds : List D} {J : It} {H : Hp} (h : ItR K O O ds J H) (s : ∀ a, B a → O a) : ItR K O B ds J H := fun H' k => h H' (k.mono s)
theorem PI.imp {X : Cx} {tg e : Expr} {t t' : TI} (h : PI X tg e t) (i : ∀ σ H Q, t' σ H Q → t σ H Q) : PI X tg e t' := ⟨fun pins s σ H R I q => h.run pins s σ H R I (i σ H R q)⟩
theorem SIs.w (h : SIs X W tg iter ms) : SIw X W tg iter ms := PI.imp h fun σ H Q ⟨g, ρ, b, α, β, r, p⟩ => by
  refine ⟨g, ρ, b, α, β, r, ?_⟩
  cases e : ms ρ b with
  | ok a b' =>
    rw [e] at p
    exact fun x H' l k q => p x H' ⟨l.1.w fun _ h => .inr (.inl h), l.2⟩ k q
  | ex x b' => rw [e] at p; exact p
  | bad => rw [e] at p; exact p
theorem itr_list {K : PySem.W.Frag} {O M : Own} {H : Hp} {ds : List D} {vs : List V} {a : Addr} (h : TL K M H a vs) (l : RDs K O H ds vs) : ItR K O M ds (Itl K a) H := fun H' k => by
  have q : SqL K H' a vs := (h.keep k).sq
  refine ⟨⟨vs, q, by rw [l.length]; exact Nat.le_refl _⟩, fun i d e => ?_⟩
  obtain ⟨v, e1, e2⟩ := l.get e
  refine ⟨⟨vs, v, q, e1⟩, fun x H3 ⟨e3, y⟩ => ?_⟩
  subst e3
  have := y vs q
  rw [e1] at this; cases this
  exact ⟨KeepS.refl _, fun Ot _ tr => tr d v e2⟩
theorem itr_tup {K : PySem.W.Frag} {O M : Own} {H : Hp} {ds : List D} {vs : List V} {a : Addr} (h : TU K M H a vs) (l : RDs K O H ds vs) : ItR K O M ds (Itt K a) H := fun H' k => by
  have q : SqT K H' a vs := (h.keep k).sq
  refine ⟨⟨vs, q, by rw [l.length]; exact Nat.le_refl _⟩, fun i d e => ?_⟩
  obtain ⟨v, e1, e2⟩ := l.get e
  refine ⟨⟨vs, v, q, e1⟩, fun x H3 ⟨e3, y⟩ => ?_⟩
  subst e3
  have := y vs q
  rw [e1] at this; cases this
  exact ⟨KeepS.refl _, fun Ot _ tr => tr d v e2⟩
def itsD : D → Option (List D)
  | .list xs => some xs
  | .tuple xs => some xs
  | _ => none
def itM (ma : ME D) : ME (List D) := bindM ma fun d => liftO (itsD d)
/-- a list or a tuple -/
theorem si_seq (h : SE X W iter ma) : SIs X W tg iter (itM ma) := ⟨fun pins s σ H R I ⟨g, ρ, b, α, β, r, p⟩ => by
  unfold itM bindM at p
  cases e : ma ρ b with
  | ok d b' =>
    rw [e] at p
    simp only [Fs.R.bind, liftO] at p
    cases d with
    | list xs =>
      refine (pi_list (PE.len h)).run pins s σ H R I ⟨g, ρ, b, α, β, r, ?_⟩
      rw [e]
      refine fun x H' l k q hz => ?_
      cases l with
      | lst a l => exact ⟨_, rfl, ⟨_, a.sq⟩, p (Itl X.K _) H' ⟨itr_list a l, by rw [l.length]; exact (hz _ _).1 a.sq⟩ k q⟩
    | tuple xs =>
      refine (pi_tup (PE.len h)).run pins s σ H R I ⟨g, ρ, b, α, β, r, ?_⟩
      rw [e]
      refine fun x H' l k q hz => ?_
      cases l with
      | tup a l => exact ⟨_, rfl, ⟨_, a.sq⟩, p (Itt X.K _) H' ⟨itr_tup a l, by rw [l.length]; exact (hz _ _).2 a.sq⟩ k q⟩
    | none => exact p.elim
    | bool _ => exact p.elim
    | int _ => exact p.elim
    | str _ => exact p.elim
    | dict _ => exact p.elim
  | ex x b' =>
    refine (pi_list (PE.len h)).run pins s σ H R I ⟨g, ρ, b, α, β, r, ?_⟩
    rw [e] at p ⊢
    exact p
  | bad => rw [e] at p; exact p.elim⟩
theorem si_seqW (h : SW X W iter ma) : SIw X W tg iter (itM ma) := ⟨fun pins s σ H R I ⟨g, ρ, b, α, β, r, p⟩ => by
  unfold itM bindM at p
  cases e : ma ρ b with
  | ok d b' =>
    rw [e] at p
    simp only [Fs.R.bind, liftO] at p
    cases d with
    | list xs =>
      refine (pi_list (PE.len h)).run pins s σ H R I ⟨g, ρ, b, α, β, r, ?_⟩
      rw [e]
      refine fun x H' l k q hz => ?_
      have fin : ∀ a vs, TL X.K (Bs β) H' a vs → RDs X.K (OW g ρ α β) H' xs vs → x = .ref a → iList X.K (fun _ H Q => Q x H) σ H' R := fun a vs t w1 ex =>
        ⟨a, ex, ⟨_, t.sq⟩, p (Itl X.K a) H' ⟨itr_list t w1, by rw [w1.length]; exact (hz _ _).1 t.sq⟩ k q⟩
      rcases l with l | ⟨ds, vs, a, e1, e2, t, w1⟩
      · cases l with
        | lst a w1 => exact fin _ _ ⟨a.1, fun z => a.2 (.inr (.inl z))⟩ w1 rfl
      · cases e1
        exact fin a vs t w1 e2
    | tuple xs =>
      refine (pi_tup (PE.len h)).run pins s σ H R I ⟨g, ρ, b, α, β, r, ?_⟩
      rw [e]
      refine fun x H' l k q hz => ?_
      cases l.rd (fun _ z => by cases z) with
      | tup a w1 =>
        refine ⟨_, rfl, ⟨_, a.sq⟩, p (Itt X.K _) H' ⟨itr_tup ?_ w1, by rw [w1.length]; exact (hz _ _).2 a.sq⟩ k q⟩
        rcases a with ⟨a, n⟩ | a
        · exact .inl ⟨a, fun z => n (.inr (.inl z))⟩
        · exact .inr a
    | none => exact p.elim
    | bool _ => exact p.elim
    | int _ => exact p.elim
    | str _ => exact p.elim
    | dict _ => exact p.elim
  | ex x b' =>
    refine (pi_list (PE.len h)).run pins s σ H R I ⟨g, ρ, b, α, β, r, ?_⟩
    rw [e] at p ⊢
    exact p
  | bad => rw [e] at p; exact p.elim⟩
def rngL (lo : Int) (n : Nat) : List D := (List.range n).map fun (i : Nat) => .int (lo + (i : Int))
theorem itr_rng {K : PySem.W.Frag} {O M : Own} {H : Hp} {lo : Int} {n : Nat} : ItR K O M (rngL lo n) (Itr lo n) H := fun H' k => by
  have hl : (rngL lo n).length = n := by simp [rngL]
  refine ⟨by rw [hl]; exact Nat.le_refl n, fun i d e => ?_⟩
  have hi : i < n := by rw [← hl]; exact (List.getElem?_eq_some_iff.mp e).1
  refine ⟨hi, fun x H3 ⟨e3, y⟩ => ?_⟩
  subst e3 y
  have : d = .int (lo + (i : Int)) := by
    unfold rngL at e
    rw [List.getElem?_map, List.getElem?_range hi] at e
    exact (Option.some.inj e).symm
  subst this
  exact ⟨KeepS.refl _, fun _ _ _ => .int _⟩
theorem rng_len {lo : Int} {n : Nat} (h : n ≤ 16777216) : (rngL lo n).length ≤ sizeLine := by
  rw [sizeLine_eq]
  simpa [rngL] using h
def rng1F (d : D) : Option (List D) := match d with
  | .int j => if -(2 ^ 62) ≤ j ∧ j ≤ 16777216 then some (rngL 0 j.toNat) else none
  | _ => none
def rng1M (ma : ME D) : ME (List D) := bindM ma fun d => liftO (rng1F d)
theorem si_rng1 {p : Pos} (hg : Gl X "range") (hm : X.mg "range" = none) (ha : SW X W a ma) (hs : starEach [a] X.env = [(false, eval a X.env)] := by rfl) : SIs X W tg (.Call (.Name "range" p) [a] [] pos) (rng1M ma) :=
  PI.imp (pi_range1 hg hm (saw_cons ha saw_nil hs) hs) fun σ H R ⟨g, ρ, b, α, β, r, p⟩ => by
    refine ⟨g, ρ, b, α, β, r, ?_⟩
    unfold rng1M bindM at p
    unfold consM bindM nilM
    cases e : ma ρ b with
    | ok d b' =>
      rw [e] at p
      simp only [Fs.R.bind, liftO] at p ⊢
      refine fun x H' l k q => ?_
      obtain ⟨v, rfl, w1⟩ := l.one
      cases d with
      | int j =>
        simp only [rng1F] at p
        by_cases hb : -(2 ^ 62) ≤ j ∧ j ≤ 16777216
        · rw [if_pos hb] at p
          exact ⟨j, by rw [w1.int], hb.1, by omega, p _ H' ⟨itr_rng, rng_len (by omega)⟩ k q⟩
        · rw [if_neg hb] at p
          exact p.elim
      | none => exact p.elim
      | bool _ => exact p.elim
      | list _ => exact p.elim
      | str _ => exact p.elim
      | tuple _ => exact p.elim
      | dict _ => exact p.elim
    | ex x b' => rw [e] at p; exact p
    | bad => rw [e] at p; exact p
def rng2F (d e : D) : Option (List D) := match d, e with
  | .int i, .int j => if -(2 ^ 62) ≤ i ∧ i < 2 ^ 62 ∧ -(2 ^ 62) ≤ j ∧ j < 2 ^ 62 ∧ j - i ≤ 16777216 then some (rngL i (j - i).toNat) else none
  | _, _ => none
def rng2M (ma mb : ME D) : ME (List D) := bindM ma fun d => bindM mb fun e => liftO (rng2F d e)
theorem si_rng2 {p : Pos} {mb : ME D} (hg : Gl X "range") (hm : X.mg "range" = none) (ha : SW X W a ma) (hb : SW X W c mb) (hs : starEach [a, c] X.env = [(false, eval a X.env), (false, eval c X.env)] := by rfl) (hs2 : starEach [c] X.env = [(false, eval c X.env)] := by rfl) :
    SIs X W tg (.Call (.Name "range" p) [a, c] [] pos) (rng2M ma mb) :=
  PI.imp (pi_range2 hg hm (pa_cons ha (pa_cons hb pa_nil hs2) (by rw [hs, hs2])) hs hs2) fun σ H R h => by
    show tCons _ (tCons _ tNil) σ H _
    refine tR_bind2 (L := lW X.K) (L2' := lW X.K) pers_W h fun g ρ b α β d e x y H1 r l1 l2 p => ?_
    obtain ⟨ds, eds, q⟩ := post_lift p
    unfold rng2F at eds
    split at eds
    · split at eds
      · rename_i hb
        cases eds
        exact ⟨_, _, by rw [l1.int, l2.int], ⟨hb.1, hb.2.1, hb.2.2.1, hb.2.2.2.1⟩, q _ H1 ⟨itr_rng, rng_len (by omega)⟩ (Keep.refl _ _) r.box⟩
      · cases eds
    · cases eds
/-! ### the loop -/
theorem RetOk.back {Z : Zx} {g : Gh} {H H' : Hp} {d : D} {v : V} {b b' : Bx} {ρ : En} {σ : L2.St} {α : Nat → Addr} {β : Option Addr} (r : RE Z.K g H ρ b σ α β) (h : RetOk Z (rb g (MW ρ α β) H g.Of g.la) H' d v b') : RetOk Z g H' d v b' :=
  ⟨h.1, r.back0 (fun _ h => h) h.2.1, h.2.2⟩
theorem PostS.base {Z : Zx} {g : Gh} {D : Ends} {H : Hp} {b : Bx} {ρ : En} {σ : L2.St} {α : Nat → Addr} {β : Option Addr} (r : RE Z.K g H ρ b σ α β) {t : SR} (h : PostS Z W g D t) : PostS Z W (rb g (MW ρ α β) H g.Of g.la) D t := by
  cases t with
  | nx ρ b => exact fun σ H α β q => h σ H α β (r.unbase q)
  | bk ρ b => exact fun σ H α β q => h σ H α β (r.unbase q)
  | ct ρ b => exact fun σ H α β q => h σ H α β (r.unbase q)
  | rt d b => exact fun v H q => h v H (q.back r)
  | ex e ρ b => exact fun cls dd σ H α β q x => h cls dd σ H α β (r.unbase q) x
  | bad => exact h
/-- data of the start is data at each turn -/
theorem RD.turn {K : PySem.W.Frag} {g : Gh} {H H' : Hp} {b b' : Bx} {ρ ρ' : En} {σ σ' : L2.St} {α α' : Nat → Addr} {β β' : Option Addr} (r : RE K g H ρ b σ α β) (r' : RE K (rb g (MW ρ α β) H g.Of g.la) H' ρ' b' σ' α' β') {c : D} {y : V}
    (h : RD K (OW g ρ α β) H c y) : RD K (OW (rb g (MW ρ α β) H g.Of g.la) ρ' α' β') H' c y := by
  have h1 : RD K (fun a => OW g ρ α β a ∨ OW (rb g (MW ρ α β) H g.Of g.la) ρ' α' β' a) H c y := h.own fun a u e z => by
    rcases z with z | z
    · exact z
    · by_cases hm : MW ρ α β a
      · rcases hm with hm | hm
        · exact .inr (.inl hm)
        · exact .inr (.inr hm)
      · have hH : (rb g (MW ρ α β) H g.Of g.la).H0 a = some u := (rb_n hm).trans e
        rcases z with z | z | ⟨i, xs, ez, z⟩
        · exact .inl z
        · rcases r'.bxNew a z with q | ⟨_, q⟩
          · exact absurd (r.foM q) hm
          · rw [q] at hH; cases hH
        · obtain ⟨_, _, _, _, q, _⟩ := r'.own i xs ez
          rw [z] at q
          rw [q] at hH; cases hH
  have k : Keep (fun a => OW g ρ α β a ∨ OW (rb g (MW ρ α β) H g.Of g.la) ρ' α' β' a) H H' := fun a u e n => by
    have hm : ¬ MW ρ α β a := fun z => by
      rcases z with z | z
      · exact n (.inl (.inr (.inl z)))
      · exact n (.inl (.inr (.inr z)))
    exact r'.evo a u ((rb_n hm).trans e) fun z => hm (r.foM z)
  exact (h1.keep k).own fun a u _ z => .inr z
def forM (mi : ME (List D)) (tf : TF) (body : MS) : MS := exprM mi fun ds => forL tf body ds
theorem ss_for {body : List Stmt} {mi : ME (List D)} (hp : PassesOwn (model X.prog X.w) X.A X.env X.xe) (hc : X.calm = true) (hi : SIs X W tg iter mi) (hg : SG X tg ts tf) (hb : SB X W body m)
    (hs : ∀ x, foldedSetIterable iter X.env x = pure x := by intro _; rfl) : SS X W (.For tg iter body [] pos) (forM mi tf m) :=
  PS.imp (ps_for hp hc hi hg hb hs) fun D σ H h => expr_read (L := lIs X.K) h fun g ρ b α β ds J H1 r _ l p =>
    for_core r.base (fun H' ρ' b' σ' α' β' r' => by
      have kk : Keep (OW g ρ α β) H1 H' := fun a u e n => by
        have hm : ¬ MW ρ α β a := fun z => by
          rcases z with z | z
          · exact n (.inr (.inl z))
          · exact n (.inr (.inr z))
        exact r'.evo a u ((rb_n hm).trans e) fun z => hm (r.foM z)
      obtain ⟨h1, h2⟩ := l.1 H' kk
      refine ⟨h1, fun i d e => ?_⟩
      obtain ⟨h3, h4⟩ := h2 i d e
      refine ⟨h3, fun x H3 y => ?_⟩
      obtain ⟨h5, h6⟩ := h4 x H3 y
      refine ⟨h5, h6 _ (fun a z => ?_) fun c y hc => (RD.turn r r' hc).keep h5.of0⟩
      obtain ⟨xs, q⟩ := r'.ownL a z
      exact rd_some q) (PostS.base r p)
end
end Fs

/-! F10: list comprehensions. -/
namespace Fs
open L2 PyProof.Rows PySem.Spec PySem
variable [LT]
/-! ### the block's own names forgotten -/
def wipeE (ρ : En) : List Nat → En
  | [] => ρ
  | v :: vs => (wipeE ρ vs).set v .no
def noOwn (ρ : En) (vs : List Nat) : Bool := vs.all fun i => match ρ[i]? with
  | some (.own _) => false
  | _ => true
theorem wipeE_len (ρ : En) : ∀ vs : List Nat, (wipeE ρ vs).length = ρ.length
  | [] => rfl
  | v :: vs => by unfold wipeE; rw [List.length_set, wipeE_len ρ vs]
theorem wipeE_at {ρ : En} {i : Nat} : ∀ {vs : List Nat}, i ∉ vs → (wipeE ρ vs)[i]? = ρ[i]?
  | [], _ => rfl
  | v :: vs, h => by
    simp only [List.mem_cons, not_or] at h
    unfold wipeE
    rw [set_ne (Ne.symm h.1), wipeE_at h.2]
theorem wipeE_in {ρ : En} {i : Nat} {sl : Sl} : ∀ {vs : List Nat}, i ∈ vs → (wipeE ρ vs)[i]? = some sl → sl = .no
  | v :: vs, h, e => by
    unfold wipeE at e
    by_cases hv : v = i
    · subst hv
      by_cases hl : v < (wipeE ρ vs).length
      · rw [set_at hl] at e; cases e; rfl
      · rw [List.getElem?_eq_none (by simpa using hl)] at e; cases e
    · rw [set_ne hv] at e
      have : i ∈ vs := by
        rcases List.mem_cons.mp h with z | z
        · exact absurd z.symm hv
        · exact z
      exact wipeE_in this e
theorem wipe_at' {σ : L2.St} {i : Nat} : ∀ {vs : List Nat}, i ∉ vs → (wipe σ vs)[i]? = σ[i]?
  | [], _ => rfl
  | v :: vs, h => by
    simp only [List.mem_cons, not_or] at h
    unfold wipe
    rw [List.getElem?_set_ne (Ne.symm h.1), wipe_at' h.2]
theorem wipe_idem {σ σ2 : L2.St} {vs ts : List Nat} (hs : ∀ i ∈ ts, i ∈ vs) (h : Sm ts (wipe σ vs) σ2) : wipe σ2 vs = wipe σ vs := by
  apply List.ext_getElem?
  intro i
  have hl : σ2.length = σ.length := by rw [h.1, wipe_length]
  by_cases hi : i ∈ vs
  · have key : ∀ {τ : L2.St} {us : List Nat}, i ∈ us → (wipe τ us)[i]? = if i < τ.length then some none else none := by
      intro τ us
      induction us with
      | nil => intro h; cases h
      | cons v us ih =>
        intro h
        unfold wipe
        by_cases hv : v = i
        · subst hv
          by_cases hl : v < τ.length
          · rw [if_pos hl, List.getElem?_set_self (by rw [wipe_length]; exact hl)]
          · rw [if_neg hl, List.getElem?_eq_none (by rw [List.length_set, wipe_length]; omega)]
        · rw [List.getElem?_set_ne hv]
          exact ih (by
            rcases List.mem_cons.mp h with z | z
            · exact absurd z.symm hv
            · exact z)
    rw [key hi, key hi, hl]
  · rw [wipe_at' hi]
    exact h.2 i fun z => hi (hs i z)
section
variable {K : PySem.W.Frag} {g : Gh} {H H' : Hp} {ρ : En} {b b' : Bx} {σ : L2.St} {α : Nat → Addr} {β : Option Addr}
theorem ow_wipe {vs : List Nat} (hn : noOwn ρ vs = true) : ∀ a, OW g ρ α β a ↔ OW g (wipeE ρ vs) α β a := fun a => by
  constructor
  · intro h
    rcases h with h | h | ⟨i, xs, e, h⟩
    · exact .inl h
    · exact .inr (.inl h)
    · have hi : i ∉ vs := fun z => by
        have := List.all_eq_true.mp hn i z
        rw [e] at this; cases this
      exact .inr (.inr ⟨i, xs, by rw [wipeE_at hi]; exact e, h⟩)
  · intro h
    rcases h with h | h | ⟨i, xs, e, h⟩
    · exact .inl h
    · exact .inr (.inl h)
    · by_cases hi : i ∈ vs
      · cases wipeE_in hi e
      · rw [wipeE_at hi] at e
        exact .inr (.inr ⟨i, xs, e, h⟩)
theorem ow_sm {ts vs : List Nat} {ρ1 : En} (hs : ∀ i ∈ ts, i ∈ vs) (h : Sm ts (wipeE ρ vs) ρ1) : ∀ a, OW g (wipeE ρ vs) α β a → OW g ρ1 α β a := fun a z => by
  rcases z with z | z | ⟨i, xs, e, z⟩
  · exact .inl z
  · exact .inr (.inl z)
  · have hi : i ∉ vs := fun w => by cases wipeE_in w e
    exact .inr (.inr ⟨i, xs, by rw [h.2 i fun w => hi (hs i w)]; exact e, z⟩)
theorem RE.wipe (r : RE K g H ρ b σ α β) {vs : List Nat} (hn : noOwn ρ vs = true) : RE K g H (wipeE ρ vs) b (L2.wipe σ vs) α β := by
  have ow := ow_wipe (g := g) (α := α) (β := β) hn
  have sub : ∀ a (u : HO), H a = some u → OW g (wipeE ρ vs) α β a → OW g ρ α β a := fun a _ _ z => (ow a).mpr z
  have out : ∀ {i : Nat} {sl : Sl}, (wipeE ρ vs)[i]? = some sl → sl ≠ .no → i ∉ vs ∧ ρ[i]? = some sl := fun {i sl} e n => by
    by_cases hi : i ∈ vs
    · exact absurd (wipeE_in hi e) n
    · exact ⟨hi, by rw [← wipeE_at hi]; exact e⟩
  refine ⟨by rw [wipeE_len, wipe_length, r.len], r.evo, r.oft, r.ofo, fun i d e => ?_, fun i xs e => ?_, fun i j xs ys e1 e2 => ?_, fun i xs e => ?_, fun i e => ?_, r.box, r.tt, fun i k e => ?_⟩
  · obtain ⟨hi, e⟩ := out e (fun z => by cases z)
    obtain ⟨v, e1, e2⟩ := r.val i d e
    exact ⟨v, by rw [wipe_at' hi]; exact e1, e2.own sub⟩
  · obtain ⟨hi, e⟩ := out e (fun z => by cases z)
    obtain ⟨vs', e1, e2, e3, e4, e5⟩ := r.own i xs e
    exact ⟨vs', by rw [wipe_at' hi]; exact e1, e2, e3.own sub, e4, e5⟩
  · exact r.inj i j xs ys (out e1 (fun z => by cases z)).2 (out e2 (fun z => by cases z)).2
  · obtain ⟨hi, e⟩ := out e (fun z => by cases z)
    obtain ⟨vs', e1, e2, e3, e4⟩ := r.lck i xs e
    exact ⟨vs', by rw [wipe_at' hi]; exact e1, e2, e3, e4.own sub⟩
  · obtain ⟨hi, e⟩ := out e (fun z => by cases z)
    obtain ⟨a, e1, e2⟩ := r.bxs i e
    exact ⟨a, e1, by rw [wipe_at' hi]; exact e2⟩
  · obtain ⟨hi, e⟩ := out e (fun z => by cases z)
    rw [wipe_at' hi]
    exact r.fns i k e
/-! ### the list that is being made -/
def gD (g : Gh) (L : Addr) (ws : List V) : Gh := ⟨upd g.H0 L (.lst ws), fun a => g.Of a ∨ a = L, g.fo, g.la, g.T, g.fa⟩
theorem RE.addD (r : RE K g H ρ b σ α β) {L : Addr} (hn : H L = none) : RE K (gD g L []) (upd H L (.lst [])) ρ b σ α β := by
  have neB : ∀ a, β = some a → a ≠ L := fun a h z => by
    obtain ⟨xs, e⟩ := r.ownL a (.inr (.inl h))
    obtain ⟨o, e⟩ := rd_some e
    rw [z, hn] at e; cases e
  have neO : ∀ a, g.Of a → a ≠ L := fun a h z => by
    obtain ⟨xs, e⟩ := r.ownL a (.inl h)
    obtain ⟨o, e⟩ := rd_some e
    rw [z, hn] at e; cases e
  have g0 : g.H0 L = none := by
    cases e : g.H0 L with
    | none => rfl
    | some u =>
      by_cases hf : g.fo = some L
      · exact absurd rfl (neB L (r.foB' hf))
      · obtain ⟨v, z⟩ := (r.evo L u e hf).some
        rw [hn] at z; cases z
  have mono : ∀ a (u : HO), H a = some u → OW (gD g L []) ρ α β a → OW g ρ α β a := fun a u e z => by
    rcases z with (z | z) | z
    · exact .inl z
    · rw [z, hn] at e; cases e
    · exact .inr z
  have kp : ∀ O : Own, Keep O H (upd H L (.lst [])) := fun O => (Keep.upd hn).of0
  refine ⟨r.len, fun a u e n => ?_, fun a h => ?_, fun a h => ?_, fun i d e => ?_, fun i xs e => ?_, r.inj, fun i xs e => ?_, r.bxs, ⟨?_, r.box.2.ext (KeepS.upd hn)⟩, r.tt, r.fns⟩
  · by_cases ha : a = L
    · subst ha
      have e : upd g.H0 a (.lst []) a = some u := e
      rw [upd_same] at e ⊢
      rw [e]
      exact .self
    · have e : upd g.H0 L (.lst []) a = some u := e
      rw [upd_ne ha] at e ⊢
      exact r.evo a u e n
  · by_cases ha : a = L
    · subst ha
      exact ⟨[], .inl upd_same⟩
    · rcases h with h | h
      · obtain ⟨xs, e⟩ := r.oft a h
        exact ⟨xs, Rd.keep (O := nobody) e id (Keep.upd g0)⟩
      · exact absurd h ha
  · have h' : g.fo = some a := h
    obtain ⟨n, xs, e⟩ := r.ofo a h'
    refine ⟨fun z => ?_, xs, ?_⟩
    · rcases z with z | z
      · exact n z
      · exact neB a (r.foB' h') z
    · show upd g.H0 L (.lst []) a = _
      rw [upd_ne (neB a (r.foB' h'))]; exact e
  · obtain ⟨v, e1, e2⟩ := r.val i d e
    exact ⟨v, e1, (e2.own mono).keep (kp _)⟩
  · obtain ⟨vs, e1, e2, e3, e4, e5⟩ := r.own i xs e
    refine ⟨vs, e1, kp nobody _ _ e2 id, (e3.own mono).keep (kp _), ?_, e5⟩
    show upd g.H0 L (.lst []) (α i) = none
    rw [upd_ne fun z => by rw [z, hn] at e2; cases e2]
    exact e4
  · obtain ⟨vs, e1, e2, e3, e4⟩ := r.lck i xs e
    exact ⟨vs, e1, .inl e2, Rd.keep (O := nobody) e3 id (Keep.upd g0), (e4.own mono).keep (kp _)⟩
  · have q := r.box.1
    cases b with
    | no => exact q
    | fo x y z =>
      obtain ⟨a, q1, q2, q3⟩ := q
      exact ⟨a, q1, q2, by rw [upd_ne (neB a q1)]; exact q3⟩
    | ow x y z =>
      obtain ⟨a, q1, q2, q3, q4⟩ := q
      refine ⟨a, q1, q2, ?_, by rw [upd_ne (neB a q1)]; exact q4⟩
      show upd g.H0 L (.lst []) a = none
      rw [upd_ne (neB a q1)]; exact q3
theorem RE.chD {L : Addr} {ws us : List V} (r : RE K (gD g L ws) H ρ b σ α β) (hL : ∀ i xs, ρ[i]? = some (.lk xs) → g.la i ≠ L) : RE K (gD g L us) (upd H L (.lst us)) ρ b σ α β := by
  have neB : ∀ a, β = some a → a ≠ L := fun a h z => r.ofB (show (gD g L ws).Of a from .inr z) h
  have kp : Keep (OW (gD g L ws) ρ α β) H (upd H L (.lst us)) := fun a u e n => by
    rw [upd_ne fun z => n (.inl (.inr z)), e]; exact .self
  have same : ∀ a, a ≠ L → (gD g L us).H0 a = (gD g L ws).H0 a := fun a h => by
    show upd g.H0 L (.lst us) a = upd g.H0 L (.lst ws) a
    rw [upd_ne h, upd_ne h]
  have neI : ∀ i xs, ρ[i]? = some (.own xs) → α i ≠ L := fun i xs e z => by
    obtain ⟨_, _, _, _, e4, _⟩ := r.own i xs e
    rw [z] at e4
    have e4 : upd g.H0 L (.lst ws) L = none := e4
    rw [upd_same] at e4; cases e4
  refine ⟨r.len, fun a u e n => ?_, fun a h => ?_, fun a h => ?_, fun i d e => ?_, fun i xs e => ?_, r.inj, fun i xs e => ?_, r.bxs, ⟨?_, tabs_lst r.box.2 (show H L = some (.lst ws) from r.evo L _ upd_same fun z => neB L (r.foB' z) rfl)⟩, r.tt, r.fns⟩
  · by_cases ha : a = L
    · subst ha
      have e : upd g.H0 a (.lst us) a = some u := e
      rw [upd_same] at e ⊢
      rw [e]
      exact .self
    · rw [same a ha] at e
      rw [upd_ne ha]
      exact r.evo a u e n
  · by_cases ha : a = L
    · subst ha
      exact ⟨us, .inl upd_same⟩
    · obtain ⟨xs, e⟩ := r.oft a h
      refine ⟨xs, ?_⟩
      rcases e with e | ⟨o, e⟩
      · exact .inl ((same a ha).trans e)
      · exact .inr ⟨o, (same a ha).trans e⟩
  · obtain ⟨n, xs, e⟩ := r.ofo a h
    exact ⟨n, xs, by rw [same a (neB a (r.foB' h))]; exact e⟩
  · obtain ⟨v, e1, e2⟩ := r.val i d e
    exact ⟨v, e1, e2.keep kp⟩
  · obtain ⟨vs, e1, e2, e3, e4, e5⟩ := r.own i xs e
    exact ⟨vs, e1, by rw [upd_ne (neI i xs e)]; exact e2, e3.keep kp, by rw [same _ (neI i xs e)]; exact e4, e5⟩
  · obtain ⟨vs, e1, e2, e3, e4⟩ := r.lck i xs e
    have ha : (gD g L ws).la i ≠ L := hL i xs e
    refine ⟨vs, e1, e2, ?_, e4.keep kp⟩
    rcases e3 with e3 | ⟨o, e3⟩
    · exact .inl ((same _ ha).trans e3)
    · exact .inr ⟨o, (same _ ha).trans e3⟩
  · have q := r.box.1
    cases b with
    | no => exact q
    | fo x y z =>
      obtain ⟨a, q1, q2, q3⟩ := q
      exact ⟨a, q1, q2, by rw [upd_ne (neB a q1)]; exact q3⟩
    | ow x y z =>
      obtain ⟨a, q1, q2, q3, q4⟩ := q
      exact ⟨a, q1, q2, by rw [same a (neB a q1)]; exact q3, by rw [upd_ne (neB a q1)]; exact q4⟩
theorem RE.lkL (r : RE K g H ρ b σ α β) {L : Addr} (hn : H L = none) : ∀ i xs, ρ[i]? = some (.lk xs) → g.la i ≠ L := fun i xs e z => by
  obtain ⟨vs, _, e2, e3, _⟩ := r.lck i xs e
  have q : Rd H (g.la i) (.lst vs) := Rd.keep e3 (fun z => (r.ofo _ z).1 e2) r.evo
  obtain ⟨o, q⟩ := rd_some q
  rw [z, hn] at q; cases q
theorem RE.boxD {L : Addr} {ws : List V} (r : RE K (gD g L ws) H ρ b σ α β) : BxR g H b β := by
  refine ⟨?_, r.box.2⟩
  have q := r.box.1
  cases b with
  | no => exact q
  | fo x y z => exact q
  | ow x y z =>
    obtain ⟨a, q1, q2, q3, q4⟩ := q
    refine ⟨a, q1, q2, ?_, q4⟩
    have q3 : upd g.H0 L (.lst ws) a = none := q3
    have ha : a ≠ L := fun z => by rw [z, upd_same] at q3; cases q3
    rw [upd_ne ha] at q3
    exact q3
end

/-! ### the comprehension -/
def compL (tf : TF) (mt : ME Bool) (me : ME D) (ρ0 : En) : List D → Bx → R (List D)
  | [], b => .ok [] b
  | d :: ds, b => match tf d ρ0 with
    | none => .bad
    | some ρ1 => match mt ρ1 b with
      | .ok true b1 => match me ρ1 b1 with
        | .ok y b2 => match compL tf mt me ρ0 ds b2 with
          | .ok ys b3 => .ok (y :: ys) b3
          | _ => .bad
        | _ => .bad
      | .ok false b1 => compL tf mt me ρ0 ds b1
      | _ => .bad
def compM (mi : ME (List D)) (vs : List Nat) (tf : TF) (mt : ME Bool) (me : ME D) : ME (List D) := bindM mi fun ds ρ b => if noOwn ρ vs then compL tf mt me (wipeE ρ vs) ds b else .bad
theorem compL_ex {tf : TF} {mt : ME Bool} {me : ME D} {ρ0 : En} {x : Exn} {b' : Bx} : ∀ (ds : List D) (b : Bx), compL tf mt me ρ0 ds b ≠ .ex x b'
  | [], b => fun h => by cases h
  | d :: ds, b => fun h => by
    unfold compL at h
    split at h
    · cases h
    · split at h
      · split at h
        · split at h <;> cases h
        · cases h
      · exact compL_ex ds _ h
      · cases h
abbrev wNo : WX := fun _ _ _ _ => False
section
variable {X : Cx} {W : WX} {mi : ME (List D)} {vs ts : List Nat} {tf : TF} {mt : ME Bool} {me : ME D} {σ : L2.St} {H : Hp} {Q : VK}
/-- at a turn: the list at L holds acc, the rest is to come -/
structure CSt (X : Cx) (W : WX) (tf : TF) (mt : ME Bool) (me : ME D) (vs : List Nat) (g : Gh) (ρ : En) (σ : L2.St) (α : Nat → Addr) (β : Option Addr) (H H1 : Hp) (Q : VK) (L : Addr) (ds : List D) (i : Nat) (b : Bx) (acc : List D) (ws : List V) (H' : Hp) : Prop where
  re : RE X.K (gD g L ws) H' ρ b σ α β
  kp : Keep (Bs β) H1 H'
  le : acc.length ≤ i
  rd : RDs X.K (OW (gD g L ws) ρ α β) H' acc ws
  fin : match compL tf mt me (wipeE ρ vs) (ds.drop i) b with
    | .ok ys b3 => PostN (Cx.z X) W (OW g ρ α β) g β σ H Q (.ok (acc ++ ys) b3)
    | _ => False
theorem CSt.at (c : CSt X W tf mt me vs g ρ σ α β H H1 Q L ds i b acc ws H') : H' L = some (.lst ws) := c.re.evo L _ upd_same fun z => c.re.ofB (show (gD g L ws).Of L from .inr rfl) (c.re.foB' z)
theorem lc_read (hs : ∀ i ∈ ts, i ∈ vs) (h : tN (Cx.z X) W (compM mi vs tf mt me) σ H Q) : tLc (tR (Cx.z X) (lIw X.K) W mi) (tGt (Cx.z X) ts tf) (tR (Cx.z X) lB wNo mt) (tR (Cx.z X) (lD X.K) wNo me) vs σ H Q := by
  obtain ⟨g, ρ, b, α, β, r, p⟩ := h
  refine ⟨g, ρ, b, α, β, r, ?_⟩
  unfold compM bindM at p
  cases e : mi ρ b with
  | ex x b' => rw [e] at p; exact p
  | bad => rw [e] at p; exact p
  | ok ds b1 =>
    rw [e] at p
    simp only [Fs.R.bind] at p
    refine fun J H1 l k q => ?_
    have r1 := r.step k q
    by_cases hn : noOwn ρ vs = true
    case neg =>
      rw [if_neg hn] at p
      exact p.elim
    rw [if_pos hn] at p
    refine fun L hL => ⟨fun i k H' => k = ds.length - i ∧ i ≤ ds.length ∧ ∃ b acc ws, CSt X W tf mt me vs g ρ σ α β H H1 Q L ds i b acc ws H', ⟨ds.length, rfl, Nat.zero_le _, b1, [], [], ?_⟩, ?_⟩
    · refine ⟨r1.addD hL, (Keep.upd hL).of0, Nat.le_refl _, .nil, ?_⟩
      rw [List.drop_zero]
      cases ec : compL tf mt me (wipeE ρ vs) ds b1 with
      | ok ys b3 => rw [ec] at p; exact p
      | ex x b3 => exact absurd ec (compL_ex _ _)
      | bad => rw [ec] at p; exact p
    · rintro i k' H' ⟨rfl, hi, b2, acc, ws, c⟩
      obtain ⟨hstop, hgo⟩ := l.1 H' c.kp
      by_cases hlt : i < ds.length
      · obtain ⟨g1, y⟩ := hgo i ds[i] (List.getElem?_eq_getElem hlt)
        refine .inr ⟨g1, fun H' => ∃ b acc ws, CSt X W tf mt me vs g ρ σ α β H H1 Q L ds (i + 1) b acc ws H', fun H' h => ⟨ds.length - (i + 1), by omega, rfl, hlt, h⟩, fun x H3 hy => ?_⟩
        obtain ⟨k0, tr⟩ := y x H3 hy
        have r3 : RE X.K (gD g L ws) H3 ρ b2 σ α β := c.re.step k0.of0 (c.re.box.keep0 k0)
        have fin := c.fin
        rw [List.drop_eq_getElem_cons hlt] at fin
        unfold compL at fin
        cases et : tf ds[i] (wipeE ρ vs) with
        | none => rw [et] at fin; exact fin.elim
        | some ρ1 =>
          rw [et] at fin
          simp only at fin
          have ow := ow_wipe (g := gD g L ws) (α := α) (β := β) hn
          have lx : RD X.K (OW (gD g L ws) (wipeE ρ vs) α β) H3 ds[i] x := tr _ (fun a z => by
              obtain ⟨xs, q⟩ := c.re.ownL a ((ow a).mpr z)
              exact rd_some q) fun cc yy hc => by
            refine RD.keep (O := OW (gD g L ws) (wipeE ρ vs) α β) k0.of0 _ _ ?_
            refine RD.keep (c.kp.mono fun a z => .inr (.inl z)) _ _ ?_
            refine hc.own fun a u eu z => ?_
            have z := (ow a).mpr z
            rcases z with (z | z) | z
            · exact .inl z
            · rw [z, hL] at eu; cases eu
            · exact .inr z
          refine ⟨gD g L ws, wipeE ρ vs, b2, α, β, ds[i], ρ1, r3.wipe hn, lx, et, fun σ2 r2 sub s1 s2 => ⟨wipe_idem hs s1, ?_⟩⟩
          refine ⟨gD g L ws, ρ1, b2, α, β, r2, ?_⟩
          cases em : mt ρ1 b2 with
          | ex x b' => rw [em] at fin; exact fin.elim
          | bad => rw [em] at fin; exact fin.elim
          | ok t b3 =>
            rw [em] at fin
            refine fun t' H4 lt k4 q4 => ?_
            have lt : t = t' := lt
            subst lt
            have r4 := r2.step k4 q4
            have o4 := r3.step k4 q4
            cases t with
            | false =>
              simp only at fin
              exact ⟨b3, acc, ws, o4, c.kp.trans (k0.of0.trans k4), by have := c.le; omega, (c.rd.keep k0.of0).keep (k4.mono fun a z => .inr (.inl z)), fin⟩
            | true =>
              simp only at fin
              show tR (Cx.z X) (lD X.K) wNo me σ2 H4 _
              refine ⟨gD g L ws, ρ1, b3, α, β, r4, ?_⟩
              cases en : me ρ1 b3 with
              | ex x b' => rw [en] at fin; exact fin.elim
              | bad => rw [en] at fin; exact fin.elim
              | ok y b4 =>
                rw [en] at fin
                simp only at fin
                refine fun v H5 l5 k5 q5 => ?_
                have o5 := o4.step k5 q5
                have at5 : H5 L = some (.lst ws) := o5.evo L _ upd_same fun z => o5.ofB (show (gD g L ws).Of L from .inr rfl) (o5.foB' z)
                have rd5 := ((c.rd.keep k0.of0).keep (k4.mono fun a z => .inr (.inl z))).keep (k5.mono fun a z => .inr (.inl z))
                have ly : RD X.K (OW (gD g L ws) ρ α β) H5 y v := l5.own fun a u _ z => ow_sm hs s2 a ((ow a).mp z)
                have kl : Keep (OW (gD g L ws) ρ α β) H5 (upd H5 L (.lst (ws ++ [v]))) := fun a u e n => by
                  rw [upd_ne fun z => n (.inl (.inr z)), e]; exact .self
                have hle := c.le
                have hwl := rd5.length
                refine ⟨ws, at5, by have := l.2; omega, b4, acc ++ [y], ws ++ [v], o5.chD (r1.lkL hL), fun a u ea na => ?_, by simp; omega, (rd5.append (.cons ly .nil)).keep kl, ?_⟩
                · have := (c.kp.trans (k0.of0.trans (k4.trans k5))) a u ea na
                  rw [upd_ne fun z => by rw [z, hL] at ea; cases ea]
                  exact this
                · cases ec : compL tf mt me (wipeE ρ vs) (ds.drop (i + 1)) b4 with
                  | ok ys b5 =>
                    rw [ec] at fin
                    simp only [List.append_assoc, List.singleton_append]
                    exact fin
                  | ex _ _ => rw [ec] at fin; exact fin.elim
                  | bad => rw [ec] at fin; exact fin.elim
      · have e : i = ds.length := by omega
        subst e
        refine .inl ⟨hstop, ?_⟩
        have fin := c.fin
        rw [List.drop_length] at fin
        unfold compL at fin
        have fin : PostN (Cx.z X) W (OW g ρ α β) g β σ H Q (.ok (acc ++ []) b2) := fin
        rw [List.append_nil] at fin
        exact fin L ws H' (free_back k q hL) c.at (c.rd.own fun a u _ z => by
          rcases z with z | z
          · rcases z with z | z
            · exact .inl (.inl z)
            · exact .inr z
          · exact .inl (.inr z)) (k.trans c.kp) c.re.boxD
/-! ### the rules -/
variable {tg iter elt : Expr} {ifs : List Expr} {scope : Scope} {own : List (Str × Nat)} {pos spos py : Pos}
/-- a comprehension's context -/
abbrev InBlk (X : Cx) (scope : Scope) (Pr : Cx → Prop) : Prop := ∀ (s : Shared) (H : Hp) (C : Addr) (cl : List (Str × Addr)) (fp : List Addr), Pr (X.blk s H scope (compEnvC scope cl C X.env) fp)
theorem sn_lc (hc : X.calm = true) (hN : X.N.Nodup) (hi : SIw X W tg iter mi) (ok : BlkOk X.N X.env.scope scope own) (hg : InBlk X scope fun Y => SG Y tg ts tf) (ht : InBlk X scope fun Y => PTs Y ifs (tR (Cx.z Y) lB wNo mt)) (he : InBlk X scope fun Y => SE Y wNo elt me)
    (hv : ∀ i ∈ ts, i ∈ own.map (·.2)) (hs : ∀ x, foldedSetIterable iter X.env x = pure x := by intro _; rfl) : SN X W (.ListComp elt [⟨tg, iter, ifs, 0⟩] scope pos) (compM mi (own.map (·.2)) tf mt me) :=
  PE.imp (pe_lc (g := tGt (Cx.z X) ts tf) (tt := tR (Cx.z X) lB wNo mt) (te := tR (Cx.z X) (lD X.K) wNo me) hc hN hi ok (fun s H C cl fp => hg s H C cl fp) (fun s H C cl fp => ht s H C cl fp) (fun s H C cl fp => he s H C cl fp) hs) fun σ H Q h => lc_read hv h
theorem pts_yes {Y : Cx} : PTs Y [] (tR (Cx.z Y) lB wNo (bM true)) := ⟨fun pins s σ H Q I ⟨g, ρ, b, α, β, r, p⟩ => pts_nil.run pins s σ H Q I (p true H rfl (Keep.refl _ _) r.box)⟩
theorem pts_if {Y : Cx} {c : Expr} {mt : ME Bool} (h : ST Y wNo c mt) : PTs Y [c] (tR (Cx.z Y) lB wNo mt) := pts_one h
/-- x = [..] on one line, x a local: a list of one's own; data -/
theorem ss_ownLc {i : Nat} {y : Str} (hc : X.calm = true) (hN : X.N.Nodup) (hy : X.N[i]? = some y) (hyl : X.env.scope.names.lookup y = some .local)
    (hsw : swapsWith (.ListComp elt [⟨tg, iter, ifs, 0⟩] scope pos) (some (.Name y py)) spos.line X.env = pure true) (hi : SIw X W tg iter mi) (ok : BlkOk X.N X.env.scope scope own) (hg : InBlk X scope fun Y => SG Y tg ts tf) (ht : InBlk X scope fun Y => PTs Y ifs (tR (Cx.z Y) lB wNo mt)) (he : InBlk X scope fun Y => SE Y wNo elt me)
    (hv : ∀ i ∈ ts, i ∈ own.map (·.2)) (hs : ∀ x, foldedSetIterable iter X.env x = pure x := by intro _; rfl) : SS X W (.Assign [.Name y py] (.ListComp elt [⟨tg, iter, ifs, 0⟩] scope pos) spos) (ownM i (compM mi (own.map (·.2)) tf mt me)) :=
  PS.imp (ps_setLc (g := tGt (Cx.z X) ts tf) (tt := tR (Cx.z X) lB wNo mt) (te := tR (Cx.z X) (lD X.K) wNo me) hc hN hy hyl hsw hi ok (fun s H C cl fp => hg s H C cl fp) (fun s H C cl fp => ht s H C cl fp) (fun s H C cl fp => he s H C cl fp) hs) fun D σ H h => lc_read hv (own_post h)
theorem tN_of {ms : ME (List D)} (h : tR (Cx.z X) (lD X.K) W (lsM ms) σ H Q) : tN (Cx.z X) W ms σ H Q := by
  obtain ⟨g, ρ, b, α, β, r, p⟩ := h
  refine ⟨g, ρ, b, α, β, r, ?_⟩
  unfold lsM bindM at p
  cases e : ms ρ b with
  | ok ds b' =>
    rw [e] at p
    exact fun a vs H' hn ha l k q => p (.ref a) H' (.lst ⟨.inl ha, fun z => by
      obtain ⟨xs, e⟩ := r.ownL a z
      obtain ⟨o, e⟩ := rd_some e
      rw [hn] at e; cases e⟩ (l.own fun a _ _ z => .inl z)) k q
  | ex x b' => rw [e] at p; exact p
  | bad => rw [e] at p; exact p
theorem ss_setLc {i : Nat} {y : Str} (hc : X.calm = true) (hN : X.N.Nodup) (hy : X.N[i]? = some y) (hyl : X.env.scope.names.lookup y = some .local)
    (hsw : swapsWith (.ListComp elt [⟨tg, iter, ifs, 0⟩] scope pos) (some (.Name y py)) spos.line X.env = pure true) (hi : SIw X W tg iter mi) (ok : BlkOk X.N X.env.scope scope own) (hg : InBlk X scope fun Y => SG Y tg ts tf) (ht : InBlk X scope fun Y => PTs Y ifs (tR (Cx.z Y) lB wNo mt)) (he : InBlk X scope fun Y => SE Y wNo elt me)
    (hv : ∀ i ∈ ts, i ∈ own.map (·.2)) (hs : ∀ x, foldedSetIterable iter X.env x = pure x := by intro _; rfl) : SS X W (.Assign [.Name y py] (.ListComp elt [⟨tg, iter, ifs, 0⟩] scope pos) spos) (setM i (lsM (compM mi (own.map (·.2)) tf mt me))) :=
  PS.imp (ps_setLc (g := tGt (Cx.z X) ts tf) (tt := tR (Cx.z X) lB wNo mt) (te := tR (Cx.z X) (lD X.K) wNo me) hc hN hy hyl hsw hi ok (fun s H C cl fp => hg s H C cl fp) (fun s H C cl fp => ht s H C cl fp) (fun s H C cl fp => he s H C cl fp) hs) fun D σ H h => lc_read hv (tN_of (expr_read h fun g ρ b α β d v H1 r _ l p => setM_post r l p))
end
end Fs

/-! E1: the package's own errors: their __init__ (super().__init__(..), one field or none), their making. -/
namespace Fs
open PySem.Calls PySem.W PyProof.Rows PySem.Spec PySem
abbrev excBm : List Value := [.type "Exception", .type "BaseException", .type "object"]
/-- super() in __init__ -/
theorem super_at {prog : Program} {w : World} {A : Around} {E : Value → Shared → Prop} {s : Shared} {K : Frag} {mg mb : Str → Option Value} {body : List Stmt} {q : Str} {scope : Scope} {p0 p1 : Pos} {attr : Str} {whole : Sem Value} {L x C D fI cda cc : Addr}
    {fd : FuncData} {ar : Arg} {vs : Array Value} {file : Str} {tf : Tok} {oI ocd ox : Obj} {cdD : ClassData} {m : Str → Option Value} {Q : Value → Shared → Prop} (X : K.In s.heap) (hns : s.heap.Ns L m) (hg : s.heap.Ns mainGlobals mg) (hb : s.heap.Ns builtinsNs mb) (hmb : mb "super" = some (.type "super"))
    (hmg : mg "super" = none) (hf : s.heap.get? fI = some oI) (hfd : oI.data = .func fd) (hp : (fd.params.posonlyargs ++ fd.params.args).head? = some ar) (hv : m ar.arg = some (.ref x)) (hcd : s.heap.get? cda = some ocd) (hcv : ocd.data = .fields vs)
    (hvs : vs[2]? = some (.str file tf)) (hfile : ((prog.main.file : Str) == file) = true) (hcc : s.heap.IsCell cc (some (.ref D))) (hD : clsIn K D = some cdD) (hx : s.heap.get? x = some ox) (hxc : ox.cls = .ref C) (hxd : ∀ c, ox.data ≠ .cls c)
    (hsub : mroIn K C (.ref D) = some true) (hat : (attr == ("__class__" : Str)) = false) (hks : scope.names.lookup ("super" : Str) = some .globalImplicit) (hkc : scope.names.lookup ("__class__" : Str) = some .free) (hka : scope.names.lookup ar.arg = some .local) (hk : scope.kind = .function)
    (htop : (prog.main.scope.names.lookup ("super" : Str)).isSome = false)
    (hq : ∀ h', h'.get? s.heap.objs.size = some { cls := .type "super", data := .fields #[.ref D, .ref x, .ref C] } → (∀ y o, s.heap.get? y = some o → h'.get? y = some o) → Q (.ref s.heap.objs.size) { s with heap := h' }) :
    PySem.wpAt (model prog w) A (.func body (envX q scope L fI (.ref cda) [("__class__", cc)])) (attributeBase (.Call (.Name "super" p0) [] [] p1) attr (envX q scope L fI (.ref cda) [("__class__", cc)]) whole) Q E s := by
  have hDo : ∃ oD, s.heap.get? D = some oD ∧ oD.data = .cls cdD := by
    unfold clsIn at hD
    split at hD
    · rename_i ho
      cases hD
      exact ⟨_, X _ _ ho, rfl⟩
    · cases hD
  obtain ⟨oD, hD1, hD2⟩ := hDo
  refine ks_wpAt_super_base (env := envX q scope L fI (.ref cda) [("__class__", cc)]) hks hkc hat rfl hf hfd hp rfl hcd hcv hvs hfile htop ?_
  refine ks_loadName_global hk hks (loadGlobal_builtin (env := envX q scope L fI (.ref cda) [("__class__", cc)]) hg hmg hb hmb ⟨rfl, ?_⟩)
  refine wpAny_loadName_free hk hkc rfl hcc (wpAny_loadName_local hk hka hns hv ?_)
  obtain ⟨hh, gg, dd, tt, os⟩ := s
  exact ks_wpAny_isType_cls hD1 hD2 ⟨rfl, ks_wpAny_call_super hD1 hD2 hx hxc hxd (looks_mroIn X hsub) fun h' e k => hq h' e k⟩

section
variable {prog : Program} {w : World} {A : Around} {R : Result → Shared → Prop} {hp : Heap} {g : Array GenState} {d : Drawn} {t : Nat} {os : OsState} {K : Frag} {mg : Str → Option Value} {C fI e t0 : Addr} {qual : Str} {params : Arguments} {rest : List Stmt} {scope : Scope}
  {p0 p1 p2 p3 p4 p5 q1 q2 q3 q4 : Pos} {msg : Str} {k3 : Nat}
theorem mcall_eq {o : Expr} {name : Str} {x : Expr} {env : Env} (hl : (p2.endLine == p4.line) = true) (hx : starEach [x] env = [(false, eval x env)] := by rfl) : eval (.Call (.Attribute o name p2) [x] [] p4) env = (do
      let ov ← attributeBase o name env (eval o env)
      standAt p2.atName
      let (f, first) ← holding [ov] (getMethod ov name (do return (← importBound o env).getD true))
      callWith p4 f first (backTo p4 (starEach [x] env)) []) := by
  show (do
    let ov ← attributeBase o name env (eval o env)
    standAt p2.atName
    methodCall o name p2 p4 env ov 1 (backTo p4 (starEach [x] env)) (backToKw p4 (keywordEach [] env))) = _
  have ha : (backTo p4 (starEach [x] env)).all (!·.1) = true := by rw [hx]; rfl
  have hf : methodCallForm 1 (backTo p4 (starEach [x] env)) (backToKw p4 (keywordEach [] env)) = true := by
    unfold methodCallForm
    rw [ha]
    rfl
  have hp : methodCallPos true o env p2 p4 = pure p4 := by
    unfold methodCallPos
    rw [hl]
    rfl
  unfold methodCall
  rw [hf, hp]
  rfl
/-- super().__init__("..") alone, in the frame at L -/
theorem super_init {body : List Stmt} {L : Addr} {m : Str → Option Value} {mb : Str → Option Value} {cda cc : Addr} {fd : FuncData} {oI : Obj} {ar : Arg} {Q : Flow → Shared → Prop} {E : Value → Shared → Prop} {vs : Array Value} {tf : Tok} {ocd : Obj} (hln : (p2.endLine == p4.line) = true) (hcls : excInitIn K C excBm "Exception.__new__" = true) (hmro : mroIn K C (.ref C) = some true)
    (hsup : ks_superIn K C C "__init__" = some (some (.builtin "Exception.__init__"))) (hexc : subIn K (.ref C) (.type "Exception") = some true) (hopq : nsIn K cStatics "thirdparty.any" = some none) (hmg : mg "super" = none)
    (X : K.In hp) (hns : hp.Ns L m) (hg : hp.Ns mainGlobals mg) (hb : hp.Ns builtinsNs mb) (hmb : mb "super" = some (.type "super")) (hf : hp.get? fI = some oI) (hfd : oI.data = .func fd) (hpar : (fd.params.posonlyargs ++ fd.params.args).head? = some ar) (hv : m ar.arg = some (.ref e))
    (hcd : hp.get? cda = some ocd) (hcv : ocd.data = .fields vs) (hvs : vs[2]? = some (.str prog.main.file tf)) (hcc : hp.IsCell cc (some (.ref C))) (he : hp.get? e = some (HandSPX.excO C t0))
    (hks : scope.names.lookup ("super" : Str) = some .globalImplicit) (hkc : scope.names.lookup ("__class__" : Str) = some .free) (hka : scope.names.lookup ar.arg = some .local) (hk : scope.kind = .function) (htop : (prog.main.scope.names.lookup ("super" : Str)).isSome = false)
    (hq : ∀ h' t1 tk, (∀ b o, b ≠ e → hp.get? b = some o → h'.get? b = some o) → h'.get? e = some (HandSPX.excO C t1) → Q .next ⟨h', g, d, tk, os⟩) :
    PySem.wpAt (model prog w) A (.func body (envX qual scope L fI (.ref cda) [("__class__", cc)])) (exec (.Expr (.Call (.Attribute (.Call (.Name "super" p0) [] [] p1) "__init__" p2) [.Constant (.str msg) k3 p3] [] p4) p5) (envX qual scope L fI (.ref cda) [("__class__", cc)])) Q E ⟨hp, g, d, t, os⟩ := by
  obtain ⟨nm, N, qn, bs, bm, hdct, sn, sub, ab, col, dd, k0, k1, k2, k3', k5, hC, hT⟩ := excInit_of X hcls
  have hcl : ∃ cd, clsIn K C = some cd := by
    unfold mroIn at hmro
    cases hc : clsIn K C with
    | none => rw [hc] at hmro; cases hmro
    | some cd => exact ⟨cd, rfl⟩
  obtain ⟨cd, hcl⟩ := hcl
  have hxd : ∀ c, (HandSPX.excO C t0).data ≠ .cls c := fun c => by intro z; cases z
  refine ks_wpAt_Expr_any ?_ (by unfold interactive; rw [show (envX qual scope L fI (.ref cda) [("__class__", cc)]).scope.kind = .function from hk]; rfl)
  refine ks_wpAt_MethodCall ?_ (mcall_eq hln)
  refine super_at X hns hg hb hmb hmg hf hfd hpar hv hcd hcv hvs (by simp) hcc hcl he rfl hxd hmro (by decide) hks hkc hka hk htop fun h' e1 k1 => ?_
  have X1 : K.In h' := X.keeps k1
  have I1 : PySem.W.InstAt h' e (HandSPX.excO C t0) C none := ⟨k1 _ _ he, rfl, rfl, trivial⟩
  have hI : Looks (model prog w) h' (isInstance (.ref e) (.type "Exception")) true := I1.type.andThen (looks_subIn X1 hexc)
  have hsup' : alongIn K "__init__" ((cd.mro.dropWhile (· != .ref C)).drop 1) = some (some (.builtin "Exception.__init__")) := by
    unfold ks_superIn at hsup
    rw [hcl] at hsup
    exact hsup
  refine kxs_getMethod kxs_Exception e1 (looks_opaque X1 hopq) (l₀ := cd.mro) (fun A Q E s k q => wpAny_bind ((looks_clsIn X1 hcl) A _ E s k (wpAny_pure q))) rfl X1 hsup' hI (ks_ne X1 I1 hcl) (by decide) ?_
  refine ESX.callWith_bound (x := e) ?_
  refine Calls.spliced_cons (Calls.Constant_str (k := k3) (pos := p3) (Calls.spliced_nil ?_))
  have k2 : ∀ b o, hp.get? b = some o → (h'.push (kxs_mw "Exception.__init__" e)).get? b = some o := fun b o z => Heap.get?_push_of_some _ (k1 b o z)
  refine ⟨Heap.get?_push_at rfl rfl, ?_⟩
  refine ESX.call_bw (k2 _ _ hC) (k2 _ _ he) (Heap.get?_push_at rfl rfl) (by rw [sizeLine_eq]; exact (by decide : (1:Nat) ≤ 16777216)) fun h2 t1 k3 e3 => ?_
  exact hq h2 t1 _ (fun b o hb z => k3 b o hb (k2 b o z)) e3
/-! ### the texts of __init__ -/
def eA1 (a : Str) (p1 p2 : Pos) : Arguments := { posonlyargs := [], args := [{ arg := "self", annotation := none, pos := p1 }, { arg := a, annotation := none, pos := p2 }], vararg := none, kwonlyargs := [], kw_defaults := [], kwarg := none, defaults := [] }
def eA0 (p1 : Pos) : Arguments := { posonlyargs := [], args := [{ arg := "self", annotation := none, pos := p1 }], vararg := none, kwonlyargs := [], kw_defaults := [], kwarg := none, defaults := [] }
def eI (msg : Str) (p0 p1 p2 p3 p4 p5 : Pos) : Stmt := .Expr (.Call (.Attribute (.Call (.Name "super" p0) [] [] p1) "__init__" p2) [.Constant (.str msg) 0 p3] [] p4) p5
def eB1 (a msg : Str) (p0 p1 p2 p3 p4 p5 q1 q2 q3 q4 : Pos) : List Stmt := [eI msg p0 p1 p2 p3 p4 p5, .Assign [.Attribute (.Name "self" q1) a q2] (.Name a q3) q4]
def eB0 (msg : Str) (p0 p1 p2 p3 p4 p5 : Pos) : List Stmt := [eI msg p0 p1 p2 p3 p4 p5]
def eS1 (a : Str) : Scope := { kind := .function, names := [("self", .local), (a, .local), ("__class__", .free), ("super", .globalImplicit)], isGenerator := false, isCoroutine := false, more := [] }
def eS0 : Scope := { kind := .function, names := [("self", .local), ("__class__", .free), ("super", .globalImplicit)], isGenerator := false, isCoroutine := false, more := [] }
/-- what the written part says of an error class C whose __init__ is at fI -/
structure ErB (K : Frag) (mg : Str → Option Value) (prog : Program) (x : Str) (C fI : Addr) : Prop where
  gC : mg x = some (.ref C)
  cls : excInitIn K C excBm "Exception.__new__" = true
  ini : findIn K (.ref C) "__init__" = some (some (.ref fI))
  mro : mroIn K C (.ref C) = some true
  sup : ks_superIn K C C "__init__" = some (some (.builtin "Exception.__init__"))
  exc : subIn K (.ref C) (.type "Exception") = some true
  opq : nsIn K cStatics "thirdparty.any" = some none
  gsu : mg "super" = none
  bse : subIn K (.ref C) (.type "BaseException") = some true
  typ : typeIn K (.ref C) = some (.type "type")
  kp : keepIn K (.ref C) = true
  tI : typeIn K (.ref fI) = some (.type "function")
  top : (prog.main.scope.names.lookup ("super" : Str)).isSome = false
/-- .. that keeps one thing, as a -/
structure Er1 (K : Frag) (mg : Str → Option Value) (prog : Program) (x a : Str) (C fI : Addr) : Prop extends ErB K mg prog x C fI where
  fn : ∃ (oc : Value) (od : Option Addr) (kV doc pm : Value) (an : Option Addr) (cda : Addr) (ct : Value) (osl : Array (Option Value)) (cc : Addr) (ccl : Value) (cdd : Option Addr) (vs : Array Value) (ccs : Array (Option Value)) (tf : Tok) (cl : Value) (cld : Option Addr) (csl : Array (Option Value))
    (qual msg : Str) (a1 a2 p0 p1 p2 p3 p4 p5 q1 q2 q3 q4 : Pos),
    K.lookup fI = some ⟨oc, od, .func (fnX "__init__" qual (eA1 a a1 a2) (eB1 a msg p0 p1 p2 p3 p4 p5 q1 q2 q3 q4) (eS1 a) [("__class__", cc)] .none kV doc pm an (.ref cda) ct), osl⟩ ∧ codeIn K (.ref cda) qual = true ∧ (p2.endLine == p4.line) = true ∧
      K.lookup cda = some ⟨ccl, cdd, .fields vs, ccs⟩ ∧ vs[2]? = some (.str prog.main.file tf) ∧ K.lookup cc = some ⟨cl, cld, .cell (some (.ref C)), csl⟩
  sa : findIn K (.ref C) "__setattr__" = some (some (.builtin "object.__setattr__"))
  ga : findIn K (.ref C) "__getattribute__" = some (some (.builtin "BaseException.__getattribute__"))
  gg : findIn K (.ref C) "__getattr__" = some none
  noN : findIn K (.ref C) a = some none
  ovr : excOver K C excBm = true
  dct : hasDictIn K C = true
  ne : a ≠ "self"
  nc : a ≠ "__class__"
  ns : a ≠ "super"
  nd : (a == ("__debug__" : Str)) = false
  bnd : ∀ (qual : Str) (a1 a2 : Pos) (b : List Stmt) (cl : List (Str × Addr)) (kV doc pm : Value) (an : Option Addr) (cd ct u v : Value), bindArgs (fnX "__init__" qual (eA1 a a1 a2) b (eS1 a) cl .none kV doc pm an cd ct) ⟨[u, v], []⟩ = pure [(("self" : Str), u), (a, v)]
/-- .. that keeps nothing -/
structure Er0 (K : Frag) (mg : Str → Option Value) (prog : Program) (x : Str) (C fI : Addr) : Prop extends ErB K mg prog x C fI where
  fn : ∃ (oc : Value) (od : Option Addr) (kV doc pm : Value) (an : Option Addr) (cda : Addr) (ct : Value) (osl : Array (Option Value)) (cc : Addr) (ccl : Value) (cdd : Option Addr) (vs : Array Value) (ccs : Array (Option Value)) (tf : Tok) (cl : Value) (cld : Option Addr) (csl : Array (Option Value))
    (qual msg : Str) (a1 p0 p1 p2 p3 p4 p5 : Pos),
    K.lookup fI = some ⟨oc, od, .func (fnX "__init__" qual (eA0 a1) (eB0 msg p0 p1 p2 p3 p4 p5) eS0 [("__class__", cc)] .none kV doc pm an (.ref cda) ct), osl⟩ ∧ codeIn K (.ref cda) qual = true ∧ (p2.endLine == p4.line) = true ∧
      K.lookup cda = some ⟨ccl, cdd, .fields vs, ccs⟩ ∧ vs[2]? = some (.str prog.main.file tf) ∧ K.lookup cc = some ⟨cl, cld, .cell (some (.ref C)), csl⟩
/-- the first store into an error: its dict is made -/
theorem err_osa {fld : Str} {tk : Tok} {u : Value} {ax ta : Addr} (X : K.In hp) (hx : hp.get? ax = some (HandSPX.excO C ta)) (ho : excOver K C excBm = true) (hd : hasDictIn K C = true) (hn : findIn K (.ref C) fld = some none)
    (hq : ∀ h2 tk2 dx, (∀ b o, b ≠ ax → hp.get? b = some o → h2.get? b = some o) → hp.objs.size ≤ dx → dx ≠ ax → h2.get? ax = some { HandSPX.excO C ta with dict := some dx } →
      h2.Ns1 dx (fun y => if y = fld then some u else none) → R (.ok (.ret .none)) ⟨h2, g, d, tk2, os⟩) :
    codeAny (model prog w) A (.call (.builtin "object.__setattr__") ⟨[.ref ax, .str fld tk, u], []⟩) R ⟨hp, g, d, t, os⟩ := by
  have lt : ax < hp.objs.size := Heap.lt_size hx
  obtain ⟨cd, hc, hh⟩ := any_some hd
  refine osa_openX (r := none) (od := none) F.store_Exception X ⟨hx, rfl, rfl, trivial⟩ ho (by unfold takerIn; rw [hn]; rfl) fun b => ?_
  refine wpAny_bind (wpAny_pure (wpAny_bind (instanceDict_exc (x := ax) (t := ta) (c2 := .none) hx (looks_clsIn X hc) hh ?_)))
  refine HandSPX.store_in_new ⟨dictOf [] 0, #[], 0, (Heap.get?_update_ne _ _ _ _ (by first | exact Nat.ne_of_lt lt | exact Nat.ne_of_gt lt)).trans (Heap.get?_push_at rfl rfl), rfl, nofun, fun _ => rfl⟩ fun h2 tk2 n2 sb => ?_
  refine hq h2 _ _ (fun b o hb e => ?_) (Nat.le_refl _) (Nat.ne_of_gt lt) ?_ n2
  · rw [sb.2 b (Nat.ne_of_lt (Heap.lt_size e)), Heap.get?_update_ne _ _ _ _ hb]
    exact Heap.get?_push_of_some _ e
  · rw [sb.2 ax (Nat.ne_of_lt lt)]
    exact Heap.get?_update_self _ (Heap.get?_push_of_some _ hx) rfl
/-! ### the call of an error's class -/
/-- a made error that keeps v as a -/
structure Mk1 (h h' : Heap) (e C d : Addr) (a : Str) (v : Value) : Prop where
  keep : ∀ b o, h.get? b = some o → h'.get? b = some o
  new : h.objs.size ≤ e
  obj : ∃ t1, h'.get? e = some { cls := .ref C, dict := some d, data := .fields #[.ref t1, .none, .none, .none, .bool false, .none] }
  dbig : h.objs.size ≤ d
  dne : d ≠ e
  ns : h'.Ns1 d (fun y => if y = a then some v else none)
structure Mk0 (h h' : Heap) (e C : Addr) : Prop where
  keep : ∀ b o, h.get? b = some o → h'.get? b = some o
  new : h.objs.size ≤ e
  obj : ∃ t1, h'.get? e = some (HandSPX.excO C t1)
theorem ns_but {h h' : Heap} {L x : Addr} {m : Str → Option Value} (hns : h.Ns L m) (hne : L ≠ x) (k : ∀ b o, b ≠ x → h.get? b = some o → h'.get? b = some o) : h'.Ns L m := hns.at fun o q => k L o hne q
variable {prog : Program} {w : World} {A : Around} {R : Result → Shared → Prop} {hp : Heap} {g : Array GenState} {d : Drawn} {t : Nat} {os : OsState} {K : Frag} {mg mb : Str → Option Value} {C fI : Addr} {x a : Str}
/-- __init__ on the fresh object, its arguments bound by hbd -/
theorem err_init1 {v : Value} {l : List Value} {args : Args} (T : Er1 K mg prog x a C fI) (X : K.In hp) (hlim : hp.NoLimit) (hg : hp.Ns mainGlobals mg) (hb : hp.Ns builtinsNs mb) (hmb : mb "super" = some (.type "super")) (hroom : A.depth < recursionLimit)
    (hbd : ∀ (qual : Str) (a1 a2 : Pos) (b : List Stmt) (cl : List (Str × Addr)) (kV doc pm : Value) (an : Option Addr) (cd ct : Value), bindArgs (fnX "__init__" qual (eA1 a a1 a2) b (eS1 a) cl .none kV doc pm an cd ct) args = pure [(("self" : Str), .ref (hp.objs.size + 1)), (a, v)])
    (hq : ∀ h' tk e d1, Mk1 hp h' e C d1 a v → R (.ok (.ret (.ref e))) ⟨h', g, d, tk, os⟩) :
    codeAny (model prog w) A (.call (.ref fI) args) (InitBack (hp.objs.size + 1) R) ⟨(hp.push (kdv_tup l)).push (HandSPX.excO C hp.objs.size), g, d, t, os⟩ := by
  obtain ⟨nm, N, qn, bs, bm, hdct, sn, sub, ab, col, dd, k0, k1, k2, k3, k5, hC, hT⟩ := excInit_of X T.cls
  obtain ⟨oc, od, kV, doc, pm, an, cda, ct, osl, cc, ccl, cdd, vs, ccs, tf, cl, cld, csl, qual, msg, a1, a2, p0, p1, p2, p3, p4, p5, q1, q2, q3, q4, ho, hcd, hln, hca, hvs, hce⟩ := T.fn
  have n1 := T.ne
  have n2 := T.nc
  have n3 := T.ns
  have kk : ∀ b o, hp.get? b = some o → ((hp.push (kdv_tup l)).push (HandSPX.excO C hp.objs.size)).get? b = some o := fun b o e => Heap.get?_push_of_some _ (Heap.get?_push_of_some _ e)
  have hget : ((hp.push (kdv_tup l)).push (HandSPX.excO C hp.objs.size)).get? (hp.objs.size + 1) = some (HandSPX.excO C hp.objs.size) := by heap_get
  have X1 := X.keeps kk
  have L1 : List.lookup ("self" : Str) (eS1 a).names = some .local := rfl
  have L2 : List.lookup a (eS1 a).names = some .local := by
    have : (a == ("self" : Str)) = false := by simpa using n1
    show List.lookup a [(("self" : Str), NameKind.local), (a, .local), ("__class__", .free), ("super", .globalImplicit)] = _
    simp [List.lookup, this]
  have L3 : List.lookup ("__class__" : Str) (eS1 a).names = some .free := by
    have : (("__class__" : Str) == a) = false := by simpa using (Ne.symm n2)
    show List.lookup ("__class__" : Str) [(("self" : Str), NameKind.local), (a, .local), ("__class__", .free), ("super", .globalImplicit)] = _
    have q : (("__class__" : Str) == ("self" : Str)) = false := by decide
    simp [List.lookup, this, q]
  have L4 : List.lookup ("super" : Str) (eS1 a).names = some .globalImplicit := by
    have : (("super" : Str) == a) = false := by simpa using (Ne.symm n3)
    show List.lookup ("super" : Str) [(("self" : Str), NameKind.local), (a, .local), ("__class__", .free), ("super", .globalImplicit)] = _
    have q : (("super" : Str) == ("self" : Str)) = false := by decide
    have q2 : (("super" : Str) == ("__class__" : Str)) = false := by decide
    simp [List.lookup, this, q, q2]
  refine ks_codeAny_call_defAt (binds := [("self", .ref (hp.objs.size + 1)), (a, v)]) hroom (X1 _ _ ho) rfl (hlim.keeps kk) (codeRec_of X1 hcd) rfl ?_ ?_ ?_ (fun h₀ hns k1 => ?_) rfl rfl rfl
  · exact BindsTo.of_eq (hbd _ _ _ _ _ _ _ _ _ _ _)
  · intro y hy
    have hy : y ∈ [(("self" : Str), NameKind.local), (a, .local), ("__class__", .free), ("super", .globalImplicit)] := hy
    simp only [List.mem_cons, List.not_mem_nil, or_false] at hy
    rcases hy with rfl | rfl | rfl | rfl <;> (intro z; cases z)
  · intro y hy
    simp only [List.mem_cons, List.not_mem_nil, or_false] at hy
    rcases hy with rfl | rfl
    · exact L1
    · exact L2
  · have k2 : ∀ b o, hp.get? b = some o → h₀.get? b = some o := fun b o e => k1 b o (kk b o e)
    have X2 : K.In h₀ := X.keeps k2
    have he := k1 _ _ hget
    have hv1 : (fun x => List.lookup x ([(("self" : Str), Value.ref (hp.objs.size + 1)), (a, v)] : List (Str × Value)).reverse) "self" = some (.ref (hp.objs.size + 1)) := by
      have : (("self" : Str) == a) = false := by simpa using (Ne.symm n1)
      simp [List.lookup, this]
    have hv2 : (fun x => List.lookup x ([(("self" : Str), Value.ref (hp.objs.size + 1)), (a, v)] : List (Str × Value)).reverse) a = some v := by
      simp [List.lookup]
    show PySem.wpAt (model prog w) _ (.func _ (envX qual (eS1 a) _ fI (.ref cda) [("__class__", cc)])) (execs (eI msg p0 p1 p2 p3 p4 p5 :: _) (envX qual (eS1 a) _ fI (.ref cda) [("__class__", cc)])) _ _ _
    refine ks_wpAt_execs_cons (super_init (fI := fI) (C := C) (e := hp.objs.size + 1) (ar := { arg := "self", annotation := none, pos := a1 }) hln T.cls T.mro T.sup T.exc T.opq T.gsu X2 hns (hg.at fun o q => k2 _ o q) (hb.at fun o q => k2 _ o q) hmb (X2 _ _ ho) rfl rfl hv1 (X2 _ _ hca) rfl hvs
      ⟨_, X2 _ _ hce, rfl⟩ he L4 L3 L1 rfl T.top fun h3 t1 tk k3 e3 => ?_)
    have hLe : ((hp.push (kdv_tup l)).push (HandSPX.excO C hp.objs.size)).objs.size ≠ hp.objs.size + 1 := by simp
    have hnx : ∀ b o, hp.get? b = some o → b ≠ hp.objs.size + 1 := fun b o e => Nat.ne_of_lt (Nat.lt_succ_of_lt (Heap.lt_size e))
    have k4 : ∀ b o, hp.get? b = some o → h3.get? b = some o := fun b o e => k3 b o (hnx b o e) (k2 b o e)
    have X3 : K.In h3 := X.keeps k4
    have hns3 := ns_but hns hLe k3
    refine wpAt_of_wpAny ?_
    refine wpAny_execs_cons (plainObj_wpAny_Assign_Attribute (Q := _) (ESX.ldL hns3 hv2 (ESX.ldL hns3 hv1 ?_ rfl L1 (by decide)) rfl L2 ?_))
    · refine set_plain X3 (ox := HandSPX.excO C t1) (od := none) ⟨e3, rfl, rfl, trivial⟩ T.sa ?_
      refine err_osa X3 e3 T.ovr T.dct T.noN fun h5 tk5 dx k5 dn dne e5 ns5 => ?_
      refine wpAny_execs_nil ⟨rfl, ?_⟩
      refine hq _ _ _ dx ⟨fun b o q => k5 b o (hnx b o q) (k4 b o q), Nat.le_succ _, ⟨_, e5⟩, ?_, dne, ns5⟩
      obtain ⟨_, _, _, z, _⟩ := hns3
      have z1 : hp.objs.size + 1 + 1 < h3.objs.size := by
        have z1 := Heap.lt_size z
        first | exact z1 | (rw [Heap.size_push, Heap.size_push] at z1; exact z1) | simpa using z1
      exact Nat.le_of_lt (Nat.lt_of_lt_of_le (Nat.lt_of_lt_of_le (by omega) (Nat.le_of_lt z1)) dn)
    · exact T.nd
theorem err_made1 {v : Value} (T : Er1 K mg prog x a C fI) (X : K.In hp) (hlim : hp.NoLimit) (hg : hp.Ns mainGlobals mg) (hb : hp.Ns builtinsNs mb) (hmb : mb "super" = some (.type "super")) (hroom : A.depth + 1 < recursionLimit)
    (hq : ∀ h' tk e d1, Mk1 hp h' e C d1 a v → R (.ok (.ret (.ref e))) ⟨h', g, d, tk, os⟩) : codeAny (model prog w) A (.call (.ref C) ⟨[v], []⟩) R ⟨hp, g, d, t, os⟩ := by
  obtain ⟨nm, N, qn, bs, bm, hdct, sn, sub, ab, col, dd, k0, k1, k2, k3, k5, hC, hT⟩ := excInit_of X T.cls
  exact HandSPX.call_own F.excBase_Exception hT hC (looks_findIn X T.ini) (fun self => bind_fn X self T.tI) (by rw [sizeLine_eq]; exact (by decide : (1:Nat) ≤ 16777216)) (err_init1 T X hlim hg hb hmb hroom (fun _ _ _ _ _ _ _ _ _ _ _ => T.bnd _ _ _ _ _ _ _ _ _ _ _ _ _) hq)
theorem err_made0 (T : Er0 K mg prog x C fI) (X : K.In hp) (hlim : hp.NoLimit) (hg : hp.Ns mainGlobals mg) (hb : hp.Ns builtinsNs mb) (hmb : mb "super" = some (.type "super")) (hroom : A.depth + 1 < recursionLimit)
    (hq : ∀ h' tk e, Mk0 hp h' e C → R (.ok (.ret (.ref e))) ⟨h', g, d, tk, os⟩) :
    codeAny (model prog w) A (.call (.ref C) ⟨[], []⟩) R ⟨hp, g, d, t, os⟩ := by
  obtain ⟨nm, N, qn, bs, bm, hdct, sn, sub, ab, col, dd, k0, k1, k2, k3, k5, hC, hT⟩ := excInit_of X T.cls
  obtain ⟨oc, od, kV, doc, pm, an, cda, ct, osl, cc, ccl, cdd, vs, ccs, tf, cl, cld, csl, qual, msg, a1, p0, p1, p2, p3, p4, p5, ho, hcd, hln, hca, hvs, hce⟩ := T.fn
  have kk : ∀ b o, hp.get? b = some o → ((hp.push (kdv_tup [])).push (HandSPX.excO C hp.objs.size)).get? b = some o := fun b o e => Heap.get?_push_of_some _ (Heap.get?_push_of_some _ e)
  have hget : ((hp.push (kdv_tup [])).push (HandSPX.excO C hp.objs.size)).get? (hp.objs.size + 1) = some (HandSPX.excO C hp.objs.size) := by heap_get
  refine HandSPX.call_own F.excBase_Exception hT hC (looks_findIn X T.ini) (fun self => bind_fn X self T.tI) (by rw [sizeLine_eq]; exact (by decide : (0:Nat) ≤ 16777216)) ?_
  have X1 := X.keeps kk
  refine ks_codeAny_call_defAt (binds := [("self", .ref (hp.objs.size + 1))]) hroom (X1 _ _ ho) rfl (hlim.keeps kk) (codeRec_of X1 hcd) rfl (BindsTo.of_eq rfl) ?_ ?_ (fun h₀ hns k1 => ?_) rfl rfl rfl
  · intro y hy
    have hy : y ∈ [(("self" : Str), NameKind.local), ("__class__", .free), ("super", .globalImplicit)] := hy
    simp only [List.mem_cons, List.not_mem_nil, or_false] at hy
    rcases hy with rfl | rfl | rfl <;> (intro z; cases z)
  · intro y hy
    simp only [List.mem_cons, List.not_mem_nil, or_false] at hy
    rcases hy with rfl
    rfl
  · have k2 : ∀ b o, hp.get? b = some o → h₀.get? b = some o := fun b o e => k1 b o (kk b o e)
    have X2 : K.In h₀ := X.keeps k2
    have he := k1 _ _ hget
    have hv1 : (fun x => List.lookup x ([(("self" : Str), Value.ref (hp.objs.size + 1))] : List (Str × Value)).reverse) "self" = some (.ref (hp.objs.size + 1)) := by
      simp [List.lookup]
    show PySem.wpAt (model prog w) _ (.func _ (envX qual eS0 _ fI (.ref cda) [("__class__", cc)])) (execs (eI msg p0 p1 p2 p3 p4 p5 :: _) (envX qual eS0 _ fI (.ref cda) [("__class__", cc)])) _ _ _
    refine ks_wpAt_execs_cons (super_init (fI := fI) (C := C) (e := hp.objs.size + 1) (ar := { arg := "self", annotation := none, pos := a1 }) hln T.cls T.mro T.sup T.exc T.opq T.gsu X2 hns (hg.at fun o q => k2 _ o q) (hb.at fun o q => k2 _ o q) hmb (X2 _ _ ho) rfl rfl hv1 (X2 _ _ hca) rfl hvs
      ⟨_, X2 _ _ hce, rfl⟩ he rfl rfl rfl rfl T.top fun h3 t1 tk k3 e3 => ?_)
    have hnx : ∀ b o, hp.get? b = some o → b ≠ hp.objs.size + 1 := fun b o e => Nat.ne_of_lt (Nat.lt_succ_of_lt (Heap.lt_size e))
    have k4 : ∀ b o, hp.get? b = some o → h3.get? b = some o := fun b o e => k3 b o (hnx b o e) (k2 b o e)
    refine wpAt_of_wpAny ?_
    refine wpAny_execs_nil ⟨rfl, ?_⟩
    exact hq _ _ _ ⟨k4, Nat.le_succ _, ⟨_, e3⟩⟩
end
end Fs

/-! E2: try with several except clauses, each with or without a name. -/
namespace Fs
open L2 PyProof.Rows PySem.Spec PySem
variable [LT]
abbrev Ts3 := Addr → Value → Option Addr → TS
/-- an error has landed in the frame that catches -/
structure Ct (X : Cx) (pins : List (Addr × Obj)) (a : Addr) (cls : Value) (d : Option Addr) (σ : L2.St) (H : Hp) (B : Heap) (sI s : Shared) : Prop where
  st : X.stack = X.env :: X.outer
  fr : X.env.frame = some X.env.locals
  J : Inv X pins σ H sI
  nb : ∀ b o, sI.heap.get? b = some o → b ∉ frs X.stack → B.get? b = some o
  up : sI.heap.UpToSlots s.heap
  fl : HandSPX.FlyingZ B (X.env :: X.outer) a (Zc cls d) s.heap
  na : H a = none
  os : s.os = sI.os
  ag : AllBare s.gens
section
variable {X : Cx} {pins : List (Addr × Obj)} {a : Addr} {cls : Value} {d : Option Addr} {σ : L2.St} {H : Hp} {B : Heap} {sI s : Shared}
theorem Ct.inv (c : Ct X pins a cls d σ H B sI s) : Inv X pins σ H s := c.J.landed c.nb c.fl.1 c.up c.os c.ag
theorem Ct.again (c : Ct X pins a cls d σ H B sI s) {h : Heap} (f : HandSPX.FlyingZ B (X.env :: X.outer) a (Zc cls d) h) (u : s.heap.UpToSlots h) : Ct X pins a cls d σ H B sI { s with heap := h } :=
  ⟨c.st, c.fr, c.J, c.nb, c.up.trans u, f, c.na, c.os, c.ag⟩
/-- the error is no frame's -/
theorem Ct.noFrame (c : Ct X pins a cls d σ H B sI s) : a ∉ frs (X.env :: X.outer) := fun m => by
  obtain ⟨oe, vs, he, _, hd⟩ := c.fl.there
  obtain ⟨_, o, e, n⟩ := c.fl.2.2.1.mem m
  rw [he] at e
  cases e
  exact n _ hd
theorem Ct.pinned (c : Ct X pins a cls d σ H B sI s) : ∃ oe, Zc cls d oe ∧ (∃ vs, oe.data = .fields vs) ∧ s.heap.get? a = some oe ∧ Inv (X.suite a ((a, oe) :: (X.pn ++ pins))) [] σ H s := by
  obtain ⟨oe, vs, he, hz, hd⟩ := c.fl.there
  refine ⟨oe, hz, ⟨vs, hd⟩, he, c.inv.suite he hd c.na (fun z => c.noFrame ?_) fun m => c.noFrame ?_⟩
  · exact List.mem_filterMap.mpr ⟨X.env, .head _, by rw [c.fr, z]⟩
  · obtain ⟨e, he, q⟩ := List.mem_filterMap.mp m
    exact List.mem_filterMap.mpr ⟨e, .tail _ he, q⟩
/-- none catches it: on it flies -/
theorem Ct.pass (c : Ct X pins a cls d σ H B sI s) {W : WX} (tk : Takes X W) (w : W cls d σ H) {Q : Flow → Shared → Prop} : wpAny (model X.prog X.w) X.A (passOn "try.no-clause-matches" (.ref a) X.env) Q X.xe s := by
  obtain ⟨_, _, _, oe, vs, T, _, _, he, _, hd, h1, _⟩ := id c.fl
  have go : wpAny (model X.prog X.w) X.A (setFlight (.ref a) X.env.frame) (fun _ s4 => wpAny (model X.prog X.w) X.A (throw (.ref a) : Sem Flow) Q X.xe s4) X.xe s := by
    rw [c.fr]
    exact HandSPX.setFlight_upZ c.fl fun h hh u => wpAny_throw (tk _ _ ⟨a, B, sI, pins, σ, H, cls, d, rfl, c.J, c.nb, c.up.trans u, .inr (.inr (by rw [c.st]; exact hh)), c.na, c.os, c.ag, w⟩)
  unfold PySem.passOn
  refine wpAny_bind (wpAny_field he hd h1 ?_)
  have nz : ¬ ((Value.ref T == Value.none) = true) := by simp
  rw [if_neg nz]
  first | exact wpAny_bind (wpAny_pure (wpAny_bind go)) | exact wpAny_bind go
end
/-- a clause's end where the clause has a name (slot i) -/
def offE (i : Nat) (D : Ends) : Ends := { nx := fun σ H => D.nx (σ.set i none) H, rt := D.rt, bk := fun σ H => D.bk (σ.set i none) H, ct := fun σ H => D.ct (σ.set i none) H }
def asT (i : Nat) (ts : Ts3) : Ts3 := fun a cls d D σ H => ts a cls d (offE i D) (σ.set i (some (.ref a))) H
def SuiteOk (X : Cx) (b : List Stmt) (ts : Ts3) : Prop := ∀ (a : Addr) (oe : Obj) (cls : Value) (d : Option Addr) (pn : List (Addr × Obj)), Zc cls d oe → (∃ vs, oe.data = .fields vs) → PSs (X.suite a ((a, oe) :: pn)) b (ts a cls d)
/-- the clauses, each with the class that it names and its suite's reading -/
inductive Hs (X : Cx) : List ExceptHandler → List (Value × Ts3) → Prop
  | nil : Hs X [] []
  | plain {x : Str} {c : Value} {ts : Ts3} {b₀ : Stmt} {bs : List Stmt} {p q : Pos} {hds : List ExceptHandler} {l : List (Value × Ts3)} : Names X x c → SuiteOk X (b₀ :: bs) ts → Hs X hds l → Hs X (.ExceptHandler (some (.Name x p)) none (b₀ :: bs) q :: hds) ((c, ts) :: l)
  | named {x n : Str} {i : Nat} {c : Value} {ts : Ts3} {b₀ : Stmt} {bs : List Stmt} {p q : Pos} {hds : List ExceptHandler} {l : List (Value × Ts3)} : Names X x c → X.N.Nodup → X.N[i]? = some n → X.env.kindOf n = some .local → SuiteOk X (b₀ :: bs) ts → Hs X hds l →
      Hs X (.ExceptHandler (some (.Name x p)) (some n) (b₀ :: bs) q :: hds) ((c, asT i ts) :: l)
section
variable {X : Cx} {pins : List (Addr × Obj)} {a : Addr} {cls : Value} {d : Option Addr} {σ : L2.St} {H : Hp} {B : Heap} {sI s : Shared} {D : Ends} {Wout : WX}
/-- the class that a clause names, asked -/
theorem Ct.names (c : Ct X pins a cls d σ H B sI s) {x : Str} {v : Value} {b : Bool} {p : Pos} (hc : Names X x v) (hm : PySem.W.exmOne X.K cls v = some b) {Q : Bool → Shared → Prop} {E E2 : Value → Shared → Prop} (q : Q b s) :
    wpAny (model X.prog X.w) (X.A.mark (some (.ref a))) (eval (.Name x p) X.env) (fun u s1 => wpAny (model X.prog X.w) (X.A.mark (some (.ref a))) (excMatches (.ref a) u) Q E2 s1) E s := by
  obtain ⟨oe, hz, hf, he, S⟩ := c.pinned
  have L : PySem.W.Looks (model X.prog X.w) s.heap (typeOf (.ref a)) cls := fun _ _ _ _ k r => wpAny_typeOf_ref (k _ _ he) (by rw [hz.1]; exact r)
  have go := (PySem.W.exm_one (M := model X.prog X.w) c.inv.kIn L hm).here (A := X.A.mark (some (.ref a))) (E := E2) (s := s) q
  obtain ⟨g, nd, h | ⟨h, h2, h3⟩⟩ := hc
  · exact ld_glob S g h go nd
  · exact ld_blt S g h h2 go h3 nd
theorem hs_run {hds : List ExceptHandler} {l : List (Value × Ts3)} (hh : Hs X hds l) (tk : Takes X Wout) (c : Ct X pins a cls d σ H B sI s) (w : wMany X.K Wout D l cls d σ H) :
    wpAny (model X.prog X.w) X.A (handleBy (.ref a) X.env hds) (SP X pins D) X.xe s := by
  induction hh with
  | nil => exact wpAny_handleBy_nil (c.pass tk w)
  | @plain x v ts b₀ bs p q hds l hn hs _ ih =>
    obtain ⟨b, hm, y, n⟩ := w
    refine wpAny_handleBy_cons (codeAny_handlers_test (c.names hn hm ?_)) nofun
    cases b with
    | false => exact ih (n rfl)
    | true =>
      refine codeAny_handlers_suite (HandSPX.lands_againZ c.fl fun h4 f4 u4 => ?_)
      obtain ⟨oe, hz, hf, he, S⟩ := (c.again f4 u4).pinned
      refine wpAny_mono ((hs a oe cls d _ hz hf).run [] _ _ H _ S (y rfl a c.na)) (fun f s6 z => ?_) fun _ _ z => z.elim
      cases f with
      | ret u => obtain ⟨v6, σ6, H6, S6, r6, q6⟩ := z; exact ⟨v6, σ6, H6, S6.unsuite c.J.ok, r6, q6⟩
      | _ => obtain ⟨σ6, H6, S6, q6⟩ := z; exact ⟨σ6, H6, S6.unsuite c.J.ok, q6⟩
  | @named x nm i v ts b₀ bs p q hds l hn hN hi hl hs _ ih =>
    obtain ⟨b, hm, y, n⟩ := w
    refine wpAny_handleBy_cons (codeAny_handlers_test (c.names hn hm ?_)) nofun
    cases b with
    | false => exact ih (n rfl)
    | true =>
      refine codeAny_handlers_suite_as (HandSPX.lands_againZ c.fl fun h4 f4 u4 => ?_)
      obtain ⟨oe, hz, hf, he, S⟩ := (c.again f4 u4).pinned
      refine store_ok (X := X.suite a ((a, oe) :: (X.pn ++ pins))) (v := .ref a) S hN hi (.inl hl) rfl (fun s5 S5 => ?_) (.inr hl)
      refine wpAny_mono ((hs a oe cls d _ hz hf).run [] s5 _ H _ S5 (y rfl a c.na)) (fun f s6 z => ?_) fun _ _ z => z.elim
      cases f with
      | ret u => obtain ⟨v6, σ6, H6, S6, r6, q6⟩ := z; exact gone_ok (S6.unsuite c.J.ok) hN hi hl fun s7 J7 => ⟨v6, _, H6, J7, r6, q6⟩
      | _ => obtain ⟨σ6, H6, S6, q6⟩ := z; exact gone_ok (S6.unsuite c.J.ok) hN hi hl fun s7 J7 => ⟨_, H6, J7, q6⟩
theorem ps_try_all {body : List Stmt} {h₀ : ExceptHandler} {hds : List ExceptHandler} {l : List (Value × Ts3)} {pos : Pos} {tb : WX → TS} (hs : X.stack = X.env :: X.outer) (hf : X.env.frame = some X.env.locals) (tk : Takes X Wout)
    (hb : ∀ (W : WX) (pn : List (Addr × Obj)) (xe : Value → Shared → Prop), Takes (X.tr pn xe) W → PassesOwn (model X.prog X.w) X.A X.env xe → PSs (X.tr pn xe) body (tb W)) (hh : Hs X (h₀ :: hds) l) :
    PS X (.Try body (h₀ :: hds) [] [] pos) (fun D σ H => tb (wMany X.K Wout D l) D σ H) := by
  refine ⟨fun pins s σ H D I h => wpAny_Try_except ?_⟩
  have J := (hb (wMany X.K Wout D l) (X.pn ++ pins) (fun e s₁ => wpAny (model X.prog X.w) X.A (noteFrame e X.env) (fun _ s₂ => wpAny (model X.prog X.w) X.A (setFlight e none) (fun _ s₃ => wpAny (model X.prog X.w) X.A (handleBy e X.env (h₀ :: hds)) (SP X pins D) X.xe s₃) X.xe s₂) X.xe s₁) ?_ PassesOwn.looking).run [] s σ H D (I.toTry _) h
  · refine wpAny_mono J (fun f s1 z => ?_) fun e s1 z => z
    cases f with
    | next => obtain ⟨σ1, H1, J1, q1⟩ := z; exact wpAny_execs_nil ⟨σ1, H1, J1.ofTry I.ok, q1⟩
    | ret u => obtain ⟨v1, σ1, H1, J1, r1, q1⟩ := z; exact ⟨v1, σ1, H1, J1.ofTry I.ok, r1, q1⟩
    | _ => obtain ⟨σ1, H1, J1, q1⟩ := z; exact ⟨σ1, H1, J1.ofTry I.ok, q1⟩
  · rintro u s1 ⟨a, B, sI, pins1, σ1, H1, cls, d, rfl, J1, nb, up, sky, na, os, ag, w⟩
    refine Sky.land (env := X.env) (outer := X.outer) Zc.steady (by rw [I.ok.frames, hs]) hf (by rw [← hs]; exact sky) fun h3 f3 u3 => ?_
    exact hs_run hh tk (c := ⟨hs, hf, J1.ofTry I.ok, nb, up.trans u3, f3, na, os, ag⟩) w
end
end Fs

/-! E3: raise of the package's errors; try. -/
namespace Fs
open L2 PyProof.Rows PySem.Spec PySem
variable [LT]
theorem relO_one {v : V} {u : Value} (r : RelV v u) (a f : Str) : RelO (List.lookup f [(a, v)]) (if f = a then some u else none) := by
  by_cases h : f = a
  · subst h
    have e : List.lookup f [(f, v)] = some v := by simp [List.lookup]
    rw [e, if_pos rfl]
    exact r
  · have n : (f == a) = false := by simpa using h
    have e : List.lookup f [(a, v)] = none := by simp [List.lookup, n]
    rw [e, if_neg h]
    trivial
section
variable {X : Cx} {W : WX} {e : Expr} {x a : Str} {C fI : Addr} {k : Nat} {ta : TA} {p pos pos2 : Pos} {ma : ME D}
theorem super_boot : bootBuiltins "super" = some (.type "super") := by kernel_rfl
/-- the made error is let go of by the tracked heap: its dict stays -/
theorem mk_one {pins : List (Addr × Obj)} {σ : L2.St} {H1 : Hp} {Q : XK} {hp h2 : Heap} {g : Array GenState} {dr : Drawn} {t t2 : Nat} {os : OsState} {ex d : Addr} {v : V} {u : Value} (T : Raises X (.ref C)) (I1 : Inv X pins σ H1 ⟨hp, g, dr, t, os⟩) (rv : RelV v u) (M : Mk1 hp h2 ex C d a u)
    (q : H1 d = none → Q (.ref C) (some d) (upd H1 d (.xd [(a, v)]))) : MkP X pins σ Q (.ref ex) ⟨h2, g, dr, t2, os⟩ := by
  obtain ⟨t1, ho⟩ := M.obj
  obtain ⟨G, on, off⟩ := restrict h2 fun y => decide (y ≠ ex)
  have same : ∀ y, y ≠ ex → G.get? y = h2.get? y := fun y hy => on y (decide_eq_true hy)
  have gone : G.get? ex = none := off ex (by simp)
  have ob : ObjOk X.prog X.w (upd H1 d (.xd [(a, v)])) G d (.xd [(a, v)]) := ⟨_, M.ns.at fun o z => (same d M.dne).trans z, fun f => relO_one rv a f⟩
  have J : Inv X pins σ (upd H1 d (.xd [(a, v)])) ⟨G, g, dr, t2, os⟩ :=
    I1.laid (t' := t2) (fun y o z => (same y (Nat.ne_of_lt (Nat.lt_of_lt_of_le (Heap.lt_size z) M.new))).trans (M.keep y o z)) M.dbig ob
  refine ⟨ex, _, _, ⟨G, g, dr, t2, os⟩, _, .ref C, some d, rfl, J, fun y o z => ?_, gone, ho, ⟨rfl, rfl⟩, rfl, rfl, ?_, rfl, I1.bare, T, q (I1.hok.fresh M.dbig)⟩
  · have ny : y ≠ ex := fun w => by
      have z : G.get? y = some o := z
      rw [w, gone] at z
      cases z
    exact (same y ny).symm.trans z
  · rw [upd_ne (Ne.symm M.dne)]
    exact I1.hok.fresh M.new
theorem pmk1 (T : Er1 X.K X.mg X.prog x a C fI) (hr : Room k X.A) (hg : Gl X x) (ha : PA X [e] ta) (hdb : (x == ("__debug__" : Str)) = false := by decide)
    (he : starEach (e :: []) X.env = (false, eval e X.env) :: starEach [] X.env := by rfl) (hpl : (backTo pos (starEach [] X.env)).any (·.1) = false := by rfl) :
    PMk X (.Call (.Name x p) [e] [] pos) (fun σ H Q => ta σ H fun vs H1 => ∃ v, vs = [v] ∧ ∀ d, H1 d = none → Q (.ref C) (some d) (upd H1 d (.xd [(a, v)]))) := fun pins s σ H Q I h => by
  refine wpAny_Call_Name_kw (ld_glob I hg T.gC ?_ hdb)
  refine PySem.W.callWith_K (h₀ := X.base) I.ok.mod.kin T.kp (thn (ha.run pos pins s σ H _ I h) fun us s1 ⟨vs, H1, I1, r1, v, ev, q1⟩ => ⟨I1.kIn, ?_⟩) he hpl
  subst ev
  cases r1 with
  | @cons _ u _ _ rv rn =>
    cases rn
    obtain ⟨mb, b1, b2⟩ := I.mod.blt
    have hb := b1.keeps I1.bk
    have hg1 := I.mod.glob.keeps I1.bk
    have hl := I1.nolimit
    have hk := I1.kIn
    obtain ⟨hp, g, dr, tk, os⟩ := s1
    show wpAny _ _ (call (.ref C) [u]) _ _ _
    exact wpAny_call (err_made1 T hk hl hg1 hb ((b2 "super" (by decide)).trans super_boot) (by have := hr.dp; omega) fun h2 tk2 ex d M => mk_one (raises_own T.bse T.typ) I1 rv M (q1 d))
theorem pmk0 (T : Er0 X.K X.mg X.prog x C fI) (hr : Room k X.A) (hg : Gl X x) (hdb : (x == ("__debug__" : Str)) = false := by decide) :
    PMk X (.Call (.Name x p) [] [] pos) (fun _ H Q => Q (.ref C) none H) := fun pins s σ H Q I h => by
  refine wpAny_Call_Name_kw (ld_glob I hg T.gC ?_ hdb)
  refine PySem.W.callWith_K0 I.kIn T.kp ?_
  obtain ⟨mb, b1, b2⟩ := I.mod.blt
  have hb := b1.keeps I.bk
  have hg1 := I.mod.glob.keeps I.bk
  have hl := I.nolimit
  have hk := I.kIn
  obtain ⟨hp, g, dr, tk, os⟩ := s
  refine wpAny_call (err_made0 T hk hl hg1 hb ((b2 "super" (by decide)).trans super_boot) (by have := hr.dp; omega) fun h2 tk2 ex M => ?_)
  obtain ⟨t1, ho⟩ := M.obj
  obtain ⟨G, on, off⟩ := restrict h2 fun y => decide (y ≠ ex)
  have same : ∀ y, y ≠ ex → G.get? y = h2.get? y := fun y hy => on y (decide_eq_true hy)
  have gone : G.get? ex = none := off ex (by simp)
  have old : ∀ y o, hp.get? y = some o → G.get? y = some o := fun y o z => (same y (Nat.ne_of_lt (Nat.lt_of_lt_of_le (Heap.lt_size z) M.new))).trans (M.keep y o z)
  refine ⟨ex, _, _, ⟨G, g, dr, tk2, os⟩, H, .ref C, none, rfl, I.kept old, fun y o z => ?_, gone, ho, ⟨rfl, rfl⟩, rfl, rfl, I.hok.fresh M.new, rfl, I.bare, raises_own T.bse T.typ, h⟩
  have ny : y ≠ ex := fun w => by
    have z : G.get? y = some o := z
    rw [w, gone] at z
    cases z
  exact (same y ny).symm.trans z
/-! ### the statements -/
def raise1M (x a : Str) (ma : ME D) : MS := exprM ma fun d ρ b => .ex ⟨x, a, some d⟩ ρ b
def raise0M (x : Str) : MS := fun ρ b => .ex ⟨x, "", none⟩ ρ b
theorem ss_raise1 {p3 : Pos} (hc : X.calm = true) (tk : Takes X W) (T : Er1 X.K X.mg X.prog x a C fI) (hr : Room k X.A) (hg : Gl X x) (hv : SE X W e ma) (hdb : (x == ("__debug__" : Str)) = false := by decide)
    (he : starEach (e :: []) X.env = (false, eval e X.env) :: starEach [] X.env := by rfl) (hpl : (backTo pos (starEach [] X.env)).any (·.1) = false := by rfl) :
    SS X W (.Raise (some (.Call (.Name x p) [e] [] pos)) none p3) (raise1M x a ma) :=
  PS.imp (ps_raise hc tk (pmk1 T hr hg (pa_cons hv pa_nil he) hdb he hpl)) fun D σ H h => expr_read h fun g ρ b α β d v H1 r _ l q => by
    refine ⟨v, rfl, fun dx hn => ?_⟩
    have k0 : KeepS H1 (upd H1 dx (.xd [(a, v)])) := KeepS.upd hn
    refine q _ _ σ _ α β (r.step k0.of0 (r.box.keep0 k0)) ⟨C, T.gC, rfl, dx, v, rfl, upd_same, l.keep k0.of0⟩
theorem ss_raise0 {p3 : Pos} (hc : X.calm = true) (tk : Takes X W) (T : Er0 X.K X.mg X.prog x C fI) (hr : Room k X.A) (hg : Gl X x) (hdb : (x == ("__debug__" : Str)) = false := by decide) :
    SS X W (.Raise (some (.Call (.Name x p) [] [] pos)) none p3) (raise0M x) :=
  PS.imp (ps_raise hc tk (pmk0 T hr hg hdb)) fun D σ H ⟨g, ρ, b, α, β, r, q⟩ => q _ _ σ H α β r ⟨C, T.gC, rfl, rfl⟩
end
end Fs

/-! E4: try, by total functions. -/
namespace Fs
open L2 PyProof.Rows PySem.Spec PySem
variable [LT]
structure HdM where
  cls : Str → Option Bool
  run : Exn → MS
def noX : SR → SR
  | .ex _ _ _ => .bad
  | r => r
def pickM : List HdM → Exn → MS
  | [], e => fun ρ b => .ex e ρ b
  | h :: t, e => fun ρ b => match h.cls e.cls with
    | some true => noX (h.run e ρ b)
    | some false => pickM t e ρ b
    | none => .bad
def tryM (m : MS) (hs : List HdM) : MS := fun ρ b => match m ρ b with
  | .ex e ρ' b' => pickM hs e ρ' b'
  | r => r
abbrev Wno : WX := fun _ _ _ _ => False
/-- which errors a clause names, and what its suite does -/
structure HOk1 (X : Cx) (c : Value) (ts : Ts3) (h : HdM) : Prop where
  cls : ∀ (x : Str) (b : Bool) (C : Addr), h.cls x = some b → X.mg x = some (.ref C) → PySem.W.exmOne X.K (.ref C) c = some b
  run : ∀ (a : Addr) (e : Exn) (cls : Value) (dd : Option Addr) (D : Ends) (σ : L2.St) (H : Hp) (g : Gh) (ρ : En) (b : Bx) (α : Nat → Addr) (β : Option Addr), RE X.K g H ρ b σ α β → ExR (Cx.z X) (OW g ρ α β) H e cls dd → H a = none → h.cls e.cls = some true →
    PostS (Cx.z X) Wno g D (h.run e ρ b) → ts a cls dd D σ H
inductive HMs (X : Cx) : List (Value × Ts3) → List HdM → Prop
  | nil : HMs X [] []
  | cons {c : Value} {ts : Ts3} {h : HdM} {l : List (Value × Ts3)} {hs : List HdM} : HOk1 X c ts h → HMs X l hs → HMs X ((c, ts) :: l) (h :: hs)
section
variable {X : Cx} {W : WX} {l : List (Value × Ts3)} {hs : List HdM} {m : MS} {x F : Str} {C fI : Addr} {c : PyData} {i j : Nat} {n : Str} {pos p q : Pos}
theorem post_noX {g : Gh} {D : Ends} {r : SR} (h : PostS (Cx.z X) W g D (noX r)) : PostS (Cx.z X) Wno g D r := by
  cases r with
  | ex e ρ b => exact h.elim
  | nx ρ b => exact h
  | rt d b => exact h
  | bk ρ b => exact h
  | ct ρ b => exact h
  | bad => exact h
theorem many_ok (hm : HMs X l hs) {e : Exn} {cls : Value} {dd : Option Addr} {D : Ends} {σ : L2.St} {H : Hp} {g : Gh} {ρ : En} {b : Bx} {α : Nat → Addr} {β : Option Addr} (r : RE X.K g H ρ b σ α β) (x : ExR (Cx.z X) (OW g ρ α β) H e cls dd) (h : PostS (Cx.z X) W g D (pickM hs e ρ b)) :
    wMany X.K W D l cls dd σ H := by
  induction hm with
  | nil => exact h cls dd σ H α β r x
  | @cons c ts k l hs hk _ ih =>
    unfold pickM at h
    obtain ⟨C, h1, h2, h3⟩ := id x
    cases hc : k.cls e.cls with
    | none => rw [hc] at h; exact h.elim
    | some t =>
      rw [hc] at h
      refine ⟨t, by rw [h2]; exact hk.cls _ _ _ hc h1, fun ht a na => ?_, fun hf => ?_⟩
      · subst ht
        exact hk.run a e cls dd D σ H g ρ b α β r x na hc (post_noX h)
      · subst hf
        exact ih h
theorem ss_try {body : List Stmt} {h₀ : ExceptHandler} {hds : List ExceptHandler} (hst : X.stack = X.env :: X.outer) (hf : X.env.frame = some X.env.locals) (tk : Takes X W)
    (hb : ∀ (W' : WX) (pn : List (Addr × Obj)) (xe : Value → Shared → Prop), Takes (X.tr pn xe) W' → SB (X.tr pn xe) W' body m) (hh : Hs X (h₀ :: hds) l) (hm : HMs X l hs) : SS X W (.Try body (h₀ :: hds) [] [] pos) (tryM m hs) :=
  PS.imp (ps_try_all (tb := fun W' => tS (Cx.z X) W' m) hst hf tk (fun W' pn xe t _ => hb W' pn xe t) hh) fun D σ H ⟨g, ρ, b, α, β, r, h⟩ => by
    refine ⟨g, ρ, b, α, β, r, ?_⟩
    unfold tryM at h
    cases e : m ρ b with
    | ex x ρ' b' =>
      rw [e] at h
      exact fun cls dd σ' H' α' β' r' x' => many_ok hm r' x' h
    | nx _ _ => rw [e] at h; exact h
    | rt _ _ => rw [e] at h; exact h
    | bk _ _ => rw [e] at h; exact h
    | ct _ _ => rw [e] at h; exact h
    | bad => rw [e] at h; exact h
/-! ### a clause without a name -/
def tsM (X : Cx) (m : MS) : Ts3 := fun _ _ _ => tS (Cx.z X) Wno m
theorem suite_plain {sb : List Stmt} (h : ∀ (a : Addr) (oe : Obj) (pn : List (Addr × Obj)), SB (X.suite a ((a, oe) :: pn)) Wno sb m) : SuiteOk X sb (tsM X m) := fun a oe _ _ pn _ _ => h a oe pn
theorem hm_plain {v : Value} {k : Str → Option Bool} (hk : ∀ (x : Str) (b : Bool) (C : Addr), k x = some b → X.mg x = some (.ref C) → PySem.W.exmOne X.K (.ref C) v = some b) : HOk1 X v (tsM X m) ⟨k, fun _ => m⟩ :=
  ⟨hk, fun a e cls dd D σ H g ρ b α β r _ _ _ h => ⟨g, ρ, b, α, β, r, h⟩⟩
/-! ### a clause with a name: (c, e.F) -/
/-- e.F, made with c into a pair -/
def tHv (X : Cx) (F : Str) (C : Addr) (i : Nat) (c : PyData) (a : Addr) (cls : Value) (d : Option Addr) : TE := tTup (tCons (tR (Cx.z X) (lD X.K) Wno (cM c)) (tCons (tXf a cls d C F (tVar i)) tNil))
theorem pe_hv (T : Er1 X.K X.mg X.prog x F C fI) {a : Addr} {oe : Obj} {cls : Value} {d : Option Addr} {pn : List (Addr × Obj)} {ce : Expr} {kk} {p1 p2 : Pos} (hz : Zc cls d oe) (hf : ∃ vs, oe.data = .fields vs) (hN : X.N[i]? = some n) (hv : Vis X.env.scope n)
    (hc : SE (X.suite a ((a, oe) :: pn)) Wno ce (cM c)) (hd : (n == ("__debug__" : Str)) = false := by decide) (hcd : (n == ("__classdict__" : Str)) = false := by decide)
    (h1 : starEach [ce, .Attribute (.Name n p1) F p2] X.env = (false, eval ce X.env) :: starEach [.Attribute (.Name n p1) F p2] X.env := by rfl) (h2 : starEach [.Attribute (.Name n p1) F p2] X.env = (false, eval (.Attribute (.Name n p1) F p2) X.env) :: starEach [] X.env := by rfl) :
    PE (X.suite a ((a, oe) :: pn)) (.Tuple [ce, .Attribute (.Name n p1) F p2] kk p) (tHv X F C i c a cls d) :=
  pe_tup (pa_cons hc (pa_cons (pe_xf ⟨T.ga, T.gg, T.bse, T.dct⟩ T.noN hz hf (pe_var hN hv hd hcd)) pa_nil h2) h1)
/-- it answers the pair -/
theorem hv_read (T : Er1 X.K X.mg X.prog x F C fI) {g : Gh} {ρ : En} {b : Bx} {σ : L2.St} {α : Nat → Addr} {β : Option Addr} {H : Hp} {a : Addr} {e : Exn} {cls : Value} {dd : Option Addr} {d : PyData} {Q : VK} (r : RE X.K g H ρ b σ α β) (xr : ExR (Cx.z X) (OW g ρ α β) H e cls dd)
    (he : e.cls = x) (hf : e.fld = F) (ha : e.arg = some d) (hi : i < σ.length) (q : ∀ v H2, RE X.K g H2 (ρ.set i .no) b (σ.set i (some (.ref a))) α β → RD X.K (OW g (ρ.set i .no) α β) H2 (.tuple [c, d]) v → Q v H2) :
    tHv X F C i c a cls dd (σ.set i (some (.ref a))) H Q := by
  have r0 : RE X.K g H (ρ.set i .no) b (σ.set i (some (.ref a))) α β := r.set hi (fun _ z => by cases z) (fun _ z => by cases z) (fun _ z => by cases z) (fun z => by cases z)
  obtain ⟨C', h1, h2, h3⟩ := xr
  rw [ha] at h3
  obtain ⟨p0, v0, e1, e2, e3⟩ := h3
  have eC : C' = C := by
    have z := T.gC
    rw [← he] at z
    have z2 : X.mg e.cls = some (.ref C') := h1
    rw [z] at z2
    cases z2
    rfl
  subst eC h2 e1
  refine ⟨g, ρ.set i .no, b, α, β, r0, fun y H1 l1 k1 q1 => ?_⟩
  have r1 := r0.step k1 q1
  refine ⟨.ref a, List.getElem?_set_self hi, rfl, rfl, p0, [(e.fld, v0)], v0, rfl, k1 _ _ e2 fun z => ?_, by rw [hf]; simp [List.lookup], ?_, fun pn hn => ?_⟩
  · obtain ⟨xs, w⟩ := r.ownL p0 (.inr (.inl z))
    rcases w with w | ⟨o, w⟩ <;> (rw [e2] at w; cases w)
  · rw [sizeLine_eq]
    exact (by decide : (2 : Nat) ≤ 16777216)
  · have k2 : KeepS H1 (upd H1 pn (.tup [y, v0])) := KeepS.upd hn
    have l2 : RD X.K (OW g (ρ.set i .no) α β) H1 d v0 := (e3.own fun a u _ z => own_set (fun _ z => by cases z) a z).keep (k1.mono fun _ z => .inr (.inl z))
    exact q _ _ (r1.step k2.of0 (r1.box.keep0 k2)) (RD.newT r1.gd hn (.cons l1 (.cons l2 .nil)))
def hvR (x F : Str) (c : PyData) (i : Nat) (k : PyData → MS) : Exn → MS := fun e ρ b => if e.cls = x ∧ e.fld = F ∧ i < ρ.length then (match e.arg with
  | some d => k (.tuple [c, d]) ρ b
  | none => .bad) else .bad
def retV : PyData → MS := fun d _ b => .rt d b
theorem hvR_cases {k : PyData → MS} {e : Exn} {ρ : En} {b : Bx} {g : Gh} {D : Ends} (h : PostS (Cx.z X) W g D (hvR x F c i k e ρ b)) : e.cls = x ∧ e.fld = F ∧ i < ρ.length ∧ ∃ d, e.arg = some d ∧ PostS (Cx.z X) W g D (k (.tuple [c, d]) ρ b) := by
  unfold hvR at h
  split at h
  · rename_i hh
    cases ha : e.arg with
    | none => rw [ha] at h; exact h.elim
    | some d => rw [ha] at h; exact ⟨hh.1, hh.2.1, hh.2.2, d, rfl, h⟩
  · exact h.elim
/-- return (c, e.F) -/
def tsRet (X : Cx) (F : Str) (C : Addr) (i : Nat) (c : PyData) : Ts3 := fun a cls d => tRet (tHv X F C i c a cls d)
theorem hm_ret {v : Value} {kc : Str → Option Bool} (T : Er1 X.K X.mg X.prog x F C fI) (hi : X.N[i]? = some n) (hN : X.N.Nodup) (hk : ∀ (y : Str) (b : Bool) (C : Addr), kc y = some b → X.mg y = some (.ref C) → PySem.W.exmOne X.K (.ref C) v = some b) :
    HOk1 X v (asT i (tsRet X F C i c)) ⟨kc, hvR x F c i retV⟩ :=
  ⟨hk, fun a e cls dd D σ H g ρ b α β r xr na _ h => by
    obtain ⟨h1, h2, hl, d, h3, h4⟩ := hvR_cases h
    exact hv_read T r xr h1 h2 h3 (by rw [← r.len]; exact hl) fun w H2 r2 l2 => h4 w H2 (r2.ret (l2.own fun a u _ z => by
        rcases z with z | z
        · exact .inl z
        · exact .inr (.inl (r2.foB z))))⟩
theorem suite_ret (T : Er1 X.K X.mg X.prog x F C fI) {ce : Expr} {kk} {p1 p2 p3 : Pos} (hN : X.N[i]? = some n) (hv : Vis X.env.scope n) (hc : ∀ (a : Addr) (oe : Obj) (pn : List (Addr × Obj)), SE (X.suite a ((a, oe) :: pn)) Wno ce (cM c)) (hd : (n == ("__debug__" : Str)) = false := by decide)
    (hcd : (n == ("__classdict__" : Str)) = false := by decide) (h1 : starEach [ce, .Attribute (.Name n p1) F p2] X.env = (false, eval ce X.env) :: starEach [.Attribute (.Name n p1) F p2] X.env := by rfl) :
    SuiteOk X [.Return (some (.Tuple [ce, .Attribute (.Name n p1) F p2] kk p)) p3] (tsRet X F C i c) := fun a oe cls d pn hz hf => pss_one (ps_ret (pe_hv T hz hf hN hv (hc a oe pn) hd hcd h1))
/-- y = (c, e.F) -/
def setV (i j : Nat) : PyData → MS := fun d ρ b => if j < ρ.length then .nx (((ρ.set i .no).set j (.v d)).set i .no) b else .bad
def tsSet (X : Cx) (F : Str) (C : Addr) (i j : Nat) (c : PyData) : Ts3 := fun a cls d => tAsg (tHv X F C i c a cls d) (gName j)
theorem hm_set {v : Value} {kc : Str → Option Bool} (T : Er1 X.K X.mg X.prog x F C fI) (hk : ∀ (y : Str) (b : Bool) (C : Addr), kc y = some b → X.mg y = some (.ref C) → PySem.W.exmOne X.K (.ref C) v = some b) :
    HOk1 X v (asT i (tsSet X F C i j c)) ⟨kc, hvR x F c i (setV i j)⟩ :=
  ⟨hk, fun a e cls dd D σ H g ρ b α β r xr na _ h => by
    obtain ⟨h1, h2, hl, d, h3, h4⟩ := hvR_cases h
    show tHv X F C i c a cls dd (σ.set i (some (.ref a))) H fun w H2 => (offE i D).nx ((σ.set i (some (.ref a))).set j (some w)) H2
    refine hv_read T r xr h1 h2 h3 (by rw [← r.len]; exact hl) fun w H2 r2 l2 => ?_
    unfold setV at h4
    split at h4
    · rename_i hj
      have r3 := r2.setV (i := j) (by rw [← r2.len]; simpa using hj) l2
      exact h4 _ H2 α β (r3.set (i := i) (sl := .no) (ov := none) (by rw [← r3.len]; simpa using hl) (fun _ z => by cases z) (fun _ z => by cases z) (fun _ z => by cases z) (fun z => by cases z))
    · exact h4.elim⟩
theorem suite_set (T : Er1 X.K X.mg X.prog x F C fI) {ce : Expr} {kk} {y : Str} {p1 p2 p3 p4 : Pos} (hN : X.N[i]? = some n) (hv : Vis X.env.scope n) (hc : ∀ (a : Addr) (oe : Obj) (pn : List (Addr × Obj)), SE (X.suite a ((a, oe) :: pn)) Wno ce (cM c)) (hnd : X.N.Nodup) (hj : X.N[j]? = some y) (hy : Loc X.env.scope y) (hd : (n == ("__debug__" : Str)) = false := by decide)
    (hcd : (n == ("__classdict__" : Str)) = false := by decide) (h1 : starEach [ce, .Attribute (.Name n p1) F p2] X.env = (false, eval ce X.env) :: starEach [.Attribute (.Name n p1) F p2] X.env := by rfl)
    (hf : X.fn y = true ∨ X.env.scope.names.lookup y = some .local := by first | exact .inl rfl | exact .inr rfl | assumption) :
    SuiteOk X [.Assign [.Name y p4] (.Tuple [ce, .Attribute (.Name n p1) F p2] kk p) p3] (tsSet X F C i j c) := fun a oe cls d pn hz hf' => pss_one (ps_set (X := X.suite a ((a, oe) :: pn)) hnd hj hy (pe_hv T hz hf' hN hv (hc a oe pn) hd hcd h1) (by rfl) hf)
end
end Fs

/-! B1: the box of draws: read, written, handed on; defs that take a box; defs that answer a new list. -/
namespace Fs
open L2 PyProof.Rows PySem.Spec PySem
variable [LT]
def bxGet : Bx → Option (Int × Int × Int)
  | .no => none
  | .fo x y z => some (x, y, z)
  | .ow x y z => some (x, y, z)
def bxPut : Bx → Int × Int × Int → Bx
  | .no, _ => .no
  | .fo _ _ _, (x, y, z) => .fo x y z
  | .ow _ _ _, (x, y, z) => .ow x y z
def tri (t : Int × Int × Int) (c : Int) : Option Int := if c = 0 then some t.1 else if c = 1 then some t.2.1 else if c = 2 then some t.2.2 else none
def triPut (t : Int × Int × Int) (c v : Int) : Option (Int × Int × Int) := if c = 0 then some (v, t.2.1, t.2.2) else if c = 1 then some (t.1, v, t.2.2) else if c = 2 then some (t.1, t.2.1, v) else none
def TV (t : Int × Int × Int) : HO := BxV t.1 t.2.1 t.2.2
section
variable {K : PySem.W.Frag} {g : Gh} {H H' : Hp} {ρ : En} {b b' : Bx} {σ : L2.St} {α : Nat → Addr} {β : Option Addr} {t u : Int × Int × Int}
theorem BxR.at (q0 : BxR g H b β) (h : bxGet b = some t) : ∃ a, β = some a ∧ H a = some (TV t) := by
  have q := q0.1
  cases b with
  | no => cases h
  | fo x y z => cases h; obtain ⟨a, e1, _, e3⟩ := q; exact ⟨a, e1, e3⟩
  | ow x y z => cases h; obtain ⟨a, e1, _, _, e3⟩ := q; exact ⟨a, e1, e3⟩
theorem BxR.put (q0 : BxR g H b β) (h : bxGet b = some t) {a : Addr} (ha : β = some a) (e : H' a = some (TV u)) (hT : LamX.Tabs g.T H') : BxR g H' (bxPut b u) β := by
  refine ⟨?_, hT⟩
  have q := q0.1
  cases b with
  | no => cases h
  | fo x y z => obtain ⟨a', e1, e2, _⟩ := q; rw [ha] at e1; cases e1; exact ⟨a, ha, e2, e⟩
  | ow x y z => obtain ⟨a', e1, e2, e3, _⟩ := q; rw [ha] at e1; cases e1; exact ⟨a, ha, e2, e3, e⟩
theorem BxR.has (q0 : BxR g H b β) {a : Addr} (h : β = some a) : ∃ t, bxGet b = some t ∧ H a = some (TV t) := by
  have q := q0.1
  cases b with
  | no => rw [q.1] at h; cases h
  | fo x y z => obtain ⟨a', e1, _, e3⟩ := q; rw [h] at e1; cases e1; exact ⟨_, rfl, e3⟩
  | ow x y z => obtain ⟨a', e1, _, _, e3⟩ := q; rw [h] at e1; cases e1; exact ⟨_, rfl, e3⟩
theorem bxPut_get (h : bxGet b = some t) : bxGet (bxPut b u) = some u := by
  cases b with
  | no => cases h
  | fo x y z => rfl
  | ow x y z => rfl
end
section
variable {X : Cx} {W : WX} {e : Expr} {ma : ME D} {ms : ME (List D)} {m : MS} {i : Nat} {x : Str} {pos p : Pos}
/-- box[c] -/
def boxAtM (i : Nat) (c : Int) : ME D := fun ρ b => match ρ[i]?, (bxGet b).bind fun t => tri t c with
  | some .bx, some v => .ok (.int v) b
  | _, _ => .bad
theorem tri_at {t : Int × Int × Int} {c v : Int} (h : tri t c = some v) : atI [V.int t.1, .int t.2.1, .int t.2.2] c = some (.int v) := by
  unfold tri at h
  by_cases h0 : c = 0
  · subst h0; cases h; rfl
  · rw [if_neg h0] at h
    by_cases h1 : c = 1
    · subst h1; cases h; rfl
    · rw [if_neg h1] at h
      by_cases h2 : c = 2
      · subst h2; cases h; rfl
      · rw [if_neg h2] at h; cases h
theorem se_boxAt {c : Int} {j} {p1 p2 : Pos} (hN : X.N[i]? = some x) (hv : Vis X.env.scope x) (hd : (x == ("__debug__" : Str)) = false := by decide) (hcd : (x == ("__classdict__" : Str)) = false := by decide)
    (hs : PlainIx (.Constant (.int c) j p2) := by exact fun _ _ => rfl) : SE X W (.Subscript (.Name x p1) (.Constant (.int c) j p2) pos) (boxAtM i c) :=
  PE.imp (pe_ix ix_list (pe_var hN hv hd hcd) pe_int hs) fun σ H Q ⟨g, ρ, b, α, β, r, q⟩ => by
    unfold boxAtM at q
    split at q
    · rename_i v e1 e2
      obtain ⟨t, et, ev⟩ := Option.bind_eq_some_iff.mp e2
      obtain ⟨a, ha, hs⟩ := r.bxs i e1
      obtain ⟨a', ha', hH⟩ := r.box.at et
      rw [ha] at ha'; cases ha'
      exact ⟨_, hs, a, _, c, _, rfl, rfl, .inl (.inl hH), tri_at ev, q _ H (.int v) (Keep.refl _ _) r.box⟩
    · exact q.elim
/-- box[c] = e -/
def boxPutM (i : Nat) (c : Int) (ma : ME D) : MS := exprM ma fun d ρ b => match ρ[i]?, d, bxGet b with
  | some .bx, .int v, some t => (match triPut t c v with
    | some u => .nx ρ (bxPut b u)
    | none => .bad)
  | _, _, _ => .bad
theorem triPut_at {t u : Int × Int × Int} {c v : Int} (h : triPut t c v = some u) : ∃ k, ixN 3 c = some k ∧ BxV t.1 t.2.1 t.2.2 = TV t ∧ HO.lst ([V.int t.1, .int t.2.1, .int t.2.2].set k (.int v)) = TV u := by
  unfold triPut at h
  by_cases h0 : c = 0
  · subst h0; cases h; exact ⟨0, rfl, rfl, rfl⟩
  · rw [if_neg h0] at h
    by_cases h1 : c = 1
    · subst h1; cases h; exact ⟨1, rfl, rfl, rfl⟩
    · rw [if_neg h1] at h
      by_cases h2 : c = 2
      · subst h2; cases h; exact ⟨2, rfl, rfl, rfl⟩
      · rw [if_neg h2] at h; cases h
theorem ss_boxPut {c : Int} {j} {p1 p2 p3 : Pos} (hN : X.N[i]? = some x) (hv : Vis X.env.scope x) (he : SE X W e ma) (hd : (x == ("__debug__" : Str)) = false := by decide) (hcd : (x == ("__classdict__" : Str)) = false := by decide)
    (ha : ∀ v, assign (.Subscript (.Name x p1) (.Constant (.int c) j p3) p2) X.env v = (do
      let ov ← holding [v] (eval (.Name x p1) X.env)
      let iv ← holding [v, ov] (eval (.Constant (.int c) j p3) X.env)
      standAt p2
      holding [v, ov, iv] (setItem ov iv v)
      release [v, ov, iv] []) := by intro _; rfl)
    (hs : swapsWithSole [.Subscript (.Name x p1) (.Constant (.int c) j p3) p2] e pos.line X.env = pure false := by rfl) (hw : swappedStores [.Subscript (.Name x p1) (.Constant (.int c) j p3) p2] e X.env = pure none := by rfl)
    (h1 : (assignEach [.Subscript (.Name x p1) (.Constant (.int c) j p3) p2] X.env).map (·.2) = [assign (.Subscript (.Name x p1) (.Constant (.int c) j p3) p2) X.env] := by rfl) :
    SS X W (.Assign [.Subscript (.Name x p1) (.Constant (.int c) j p3) p2] e pos) (boxPutM i c ma) :=
  PS.imp (ps_asg he (pg_sub (pe_var hN hv hd hcd) pe_int set_list ha) hs hw h1) fun D σ H h => by
    refine expr_read (L := lD X.K) h fun g ρ b α β d v H1 r kk l q => ?_
    split at q
    · rename_i vi t e1 et
      split at q
      · rename_i u eu
        obtain ⟨a, ha, hs⟩ := r.bxs i e1
        obtain ⟨a', ha', hH⟩ := r.box.at et
        rw [ha] at ha'; cases ha'
        cases l
        obtain ⟨k, ek, _, eq⟩ := triPut_at eu
        refine ⟨_, hs, a, _, c, k, rfl, rfl, hH, ek, ?_⟩
        rw [eq]
        have kb : Keep (Bs β) H1 (upd H1 a (TV u)) := fun y o e n => by
          rw [upd_ne (fun z => n (by rw [z]; exact ha)), e]
          exact .self
        exact q σ _ α β (r.step kb (r.box.put et ha upd_same (tabs_lst r.box.2 hH)))
      · exact q.elim
    · exact q.elim
end
/-! ### a def whose first parameter is the box -/
inductive PB where
  | ok (d : D) (t : Int × Int × Int)
  | ex (e : Exn) (t : Int × Int × Int)
  | bad
abbrev FB := Int × Int × Int → List D → PB
def spB (Z : Zx) (n : Nat) (fm : FB) : Sp := fun vs H Q E => vs.length = n + 1 ∧ ∃ (O : Own) (ds : List D) (a : Addr) (ws : List V) (t : Int × Int × Int), vs = .ref a :: ws ∧ (∀ a, O a → ∃ xs, Rd H a (.lst xs)) ∧ O a ∧ H a = some (TV t) ∧ LamX.Tabs (LT.tabs Z.K) H ∧ RDs Z.K O H ds ws ∧ match fm t ds with
  | .ok d t' => ∀ v H', RD Z.K O H' d v → Keep (fun b => b = a) H H' → H' a = some (TV t') → LamX.Tabs (LT.tabs Z.K) H' → Q v H'
  | .ex e t' => ∀ cls dd H', ExR Z O H' e cls dd → Keep (fun b => b = a) H H' → H' a = some (TV t') → LamX.Tabs (LT.tabs Z.K) H' → E cls dd H'
  | .bad => False
def fnBM (n : Nat) (body : MS) : FB := fun t ds => match body (.bx :: (ds.map .v ++ List.replicate (n - 1 - ds.length) .no)) (.fo t.1 t.2.1 t.2.2) with
  | .nx _ (.fo x y z) => .ok .none (x, y, z)
  | .rt d (.fo x y z) => .ok d (x, y, z)
  | .ex e _ (.fo x y z) => .ex e (x, y, z)
  | _ => .bad
theorem start_reB {K : PySem.W.Frag} {O : Own} {H : Hp} {N : List Str} {ds : List D} {vs : List V} {a : Addr} {t : Int × Int × Int} (hO : ∀ a, O a → ∃ xs, Rd H a (.lst xs)) (ha : O a) (hH : H a = some (TV t)) (hT : LamX.Tabs (LT.tabs K) H) (r : RDs K O H ds vs) (hn : ds.length + 1 ≤ N.length) :
    RE K ⟨H, fun b => O b ∧ b ≠ a, some a, fun _ => 0, LT.tabs K, fun _ => 0⟩ H (.bx :: (ds.map Sl.v ++ List.replicate (N.length - 1 - ds.length) .no)) (.fo t.1 t.2.1 t.2.2) (L2.start N (.ref a :: vs)) (fun _ => 0) (some a) := by
  have hl := r.length
  have at_ : ∀ (i : Nat) (sl : Sl), (.bx :: (ds.map Sl.v ++ List.replicate (N.length - 1 - ds.length) .no) : En)[i]? = some sl → (i = 0 ∧ sl = .bx) ∨ (∃ j d, i = j + 1 ∧ ds[j]? = some d ∧ sl = .v d) ∨ sl = .no := fun i sl e => by
    cases i with
    | zero => exact .inl ⟨rfl, (Option.some.inj e).symm⟩
    | succ j =>
      rw [List.getElem?_cons_succ] at e
      by_cases hi : j < ds.length
      · rw [List.getElem?_append_left (by simpa using hi), List.getElem?_map] at e
        obtain ⟨d, h1, h2⟩ := Option.map_eq_some_iff.mp e
        exact .inr (.inl ⟨j, d, rfl, h1, h2.symm⟩)
      · rw [List.getElem?_append_right (by simpa using hi), List.getElem?_replicate] at e
        split at e
        · exact .inr (.inr (Option.some.inj e).symm)
        · cases e
  refine ⟨?_, Keep.refl _ _, fun b h => hO b h.1, fun b h => ?_, fun i d e => ?_, fun i xs e => ?_, fun i j xs ys e => ?_, fun i xs e => ?_, fun i e => ?_, ⟨⟨a, rfl, rfl, hH⟩, hT⟩, rfl, fun i k e => ?_⟩
  · unfold L2.start
    simp only [List.length_cons, List.length_append, List.length_map, List.length_replicate, ← hl]
    omega
  · cases h
    exact ⟨fun z => z.2 rfl, _, hH⟩
  · rcases at_ i _ e with ⟨_, z⟩ | ⟨j, d', rfl, h1, h2⟩ | z
    · cases z
    · cases h2
      obtain ⟨v, e1, e2⟩ := r.get h1
      refine ⟨v, ?_, e2.own fun b u _ z => ?_⟩
      · unfold L2.start
        have : j < vs.length := (List.getElem?_eq_some_iff.mp e1).1
        rw [List.getElem?_append_left (by simpa using this), List.getElem?_map, List.getElem?_cons_succ, e1]
        rfl
      · rcases z with z | z | ⟨j, xs, z, _⟩
        · exact z.1
        · cases z; exact ha
        · rcases at_ j _ z with ⟨_, z⟩ | ⟨_, _, _, _, z⟩ | z <;> cases z
    · cases z
  · rcases at_ i _ e with ⟨_, z⟩ | ⟨_, _, _, _, z⟩ | z <;> cases z
  · rcases at_ i _ e with ⟨_, z⟩ | ⟨_, _, _, _, z⟩ | z <;> cases z
  · rcases at_ i _ e with ⟨_, z⟩ | ⟨_, _, _, _, z⟩ | z <;> cases z
  · rcases at_ i _ e with ⟨rfl, _⟩ | ⟨_, _, _, _, z⟩ | z
    · exact ⟨a, rfl, rfl⟩
    · cases z
    · cases z
  · rcases at_ i _ e with ⟨_, z⟩ | ⟨_, _, _, _, z⟩ | z <;> cases z
section
variable {P : Program} {w : World} {K : PySem.W.Frag} {mg : Str → Option Value} {base : Heap}
theorem fn_simB {x qual : Str} {st : Stmt} {f : Addr} {fd : FuncData} {N ps : List Str} {n k : Nat} {m : MS} (F : Fun K x qual st f fd) (S : FnScope N ps (defScope st)) (hp : ps.length = n + 1) (hn : ps.length ≤ N.length)
    (hb : ∀ (A : Around) (outer : List Env) (s : Shared) (H : Hp) (E : XK), Room k (A.deeper (envOfC qual (defScope st) s.heap.objs.size f fd.code)) →
      SB (cxOf (L2.CX P w) P w K mg base N qual (defScope st) f fd.code A outer s H E) (fun cls d _ H => E cls d H) (defBody st) m) :
    FnOk P w K mg base (L2.CX P w) (k + 1) f fd ps (spB ⟨K, mg⟩ n (fnBM N.length m)) := by
  refine okC F S (fun vs H Q E h => by rw [hp]; exact h.1) (fun A outer s H vs Q E hr h => ⟨_, hb A outer s H E hr, ?_⟩)
  obtain ⟨hl, O, ds, a, ws, t, rfl, hO, ha, hH, hT, r, h⟩ := h
  have hds : ds.length = n := by rw [r.length]; simpa using hl
  refine ⟨_, _, _, _, _, start_reB (N := N) hO ha hH hT r (by omega), ?_⟩
  have ownO : ∀ (H' : Hp) (b : Addr) (u : HO), H' b = some u → O b → (O b ∧ b ≠ a) ∨ some a = some b := fun _ b _ _ z => by
    by_cases hba : b = a
    · exact .inr (by rw [hba])
    · exact .inl ⟨z, hba⟩
  have kp : ∀ {H' : Hp}, Keep (fun b => some a = some b) H H' → Keep (fun b => b = a) H H' := fun k => k.mono fun b z => by cases z; rfl
  unfold fnBM at h
  cases e : m (.bx :: (List.map Sl.v ds ++ List.replicate (N.length - 1 - ds.length) Sl.no)) (.fo t.1 t.2.1 t.2.2) with
  | nx ρ b =>
    rw [e] at h
    cases b with
    | no => exact h.elim
    | ow _ _ _ => exact h.elim
    | fo x y z =>
      intro σ H' α β q
      obtain ⟨a', _, h2, h3⟩ := q.box.1
      cases h2
      exact h .non H' .non (kp q.evo) h3 q.box.2
  | rt d b =>
    rw [e] at h
    cases b with
    | no => exact h.elim
    | ow _ _ _ => exact h.elim
    | fo x y z =>
      intro v H' q
      obtain ⟨a', h2, h3⟩ := q.2.2.1 x y z rfl
      cases h2
      exact h v H' (q.1.own (ownO H')) (kp q.2.1) h3 q.2.2.2
  | bk _ _ => rw [e] at h; exact h.elim
  | ct _ _ => rw [e] at h; exact h.elim
  | ex xx ρ b =>
    rw [e] at h
    cases b with
    | no => exact h.elim
    | ow _ _ _ => exact h.elim
    | fo x y z =>
      refine fun cls dd σ H' α β q ⟨C, h1, h2, h3⟩ => ?_
      obtain ⟨a', _, b2, b3⟩ := q.box.1
      cases b2
      refine h cls dd H' ⟨C, h1, h2, ?_⟩ (kp q.evo) b3 q.box.2
      cases ea : xx.arg with
      | none => rw [ea] at h3; exact h3
      | some d =>
        rw [ea] at h3
        obtain ⟨p, v, e1, e2, e3⟩ := h3
        refine ⟨p, v, e1, e2, e3.own fun b u _ z => ?_⟩
        rcases ownO H' b u (by assumption) z with z | z
        · exact .inl z
        · exact .inr (.inl (q.foB' z))
  | bad => rw [e] at h; exact h.elim
end
/-! ### calls that hand the box on -/
/-- what stands nowhere now stood nowhere at the entry -/
theorem free_back0 {K : PySem.W.Frag} {g : Gh} {H : Hp} {ρ : En} {b : Bx} {σ : L2.St} {α : Nat → Addr} {β : Option Addr} (r : RE K g H ρ b σ α β) {a : Addr} (h : H a = none) : g.H0 a = none := by
  cases e : g.H0 a with
  | none => rfl
  | some u =>
    by_cases hf : g.fo = some a
    · obtain ⟨xs, hx⟩ := r.ownL a (.inr (.inl (r.foB' hf)))
      obtain ⟨o, z⟩ := rd_some hx
      rw [h] at z
      cases z
    · obtain ⟨v, z⟩ := (r.evo a u e hf).some
      rw [h] at z
      cases z
def boxed (n : Nat) (fm : FB) (g : PB → Bool) (ds : List D) : ME D := fun _ b => match bxGet b with
  | some t => if ds.length = n ∧ g (fm t ds) = true then (match fm t ds with
    | .ok d t' => .ok d (bxPut b t')
    | .ex e t' => .ex e (bxPut b t')
    | .bad => .bad) else .bad
  | none => .bad
def callX (i n : Nat) (fm : FB) (ms : ME (List D)) : ME D := fun ρ b => match ρ[i]? with
  | some .bx => bindM ms (boxed n fm fun _ => true) ρ b
  | _ => .bad
def noLp : PB → Bool
  | .ok d _ => noL d
  | .ex e _ => noLx e
  | .bad => true
/-- .. where what is read may be one's own: what comes back holds no list -/
def callXB (i n : Nat) (fm : FB) (ms : ME (List D)) : ME D := fun ρ b => match ρ[i]? with
  | some .bx => bindM ms (boxed n fm noLp) ρ b
  | _ => .bad
section
variable {X : Cx} {W : WX} {e : Expr} {es : List Expr} {ma : ME D} {ms : ME (List D)} {m : MS} {i n k : Nat} {x y : Str} {pos p p1 : Pos} {f : Addr} {fd : FuncData} {ps : List Str} {fm : FB}
theorem keep_at {H H' : Hp} {a : Addr} {β : Option Addr} (h : β = some a) (k : Keep (fun b => b = a) H H') : Keep (Bs β) H H' := k.mono fun b z => by
  subst z
  exact h
theorem borrowX {K : PySem.W.Frag} {O B : Own} {H : Hp} {ds : List D} {vs : List V} (l : RWs K O B H ds vs) : RDs K (fun y => O y ∧ (B y ∨ V.ref y ∉ vs)) H ds vs := by
  have key : ∀ {es : List D} {ws : List V}, RWs K O B H es ws → (∀ v ∈ ws, v ∈ vs) → RDs K (fun y => O y ∧ (B y ∨ V.ref y ∉ vs)) H es ws := by
    intro es ws h
    induction h with
    | nil => exact fun _ => .nil
    | cons a b ih =>
      refine fun hs => .cons ?_ (ih fun v hv => hs v (.tail _ hv))
      rcases a with a | ⟨xs, us, q, e1, e2, t, rs⟩
      · exact a.own fun _ _ _ z => z.1
      · subst e1 e2
        exact .lst ⟨t.1, fun z => z.2.elim t.2 fun n => n (hs _ (.head _))⟩ (rs.own fun _ _ _ z => z.1)
  exact key l fun _ h => h
/-- behind the arguments: the call itself -/
theorem boxed_post {g : Gh} {ρ : En} {b : Bx} {α : Nat → Addr} {β : Option Addr} {σ : L2.St} {H : Hp} {Q : VK} {G : PB → Bool} {ds : List D} {vs : List V} {O' : Own} {a : Addr} (r : RE X.K g H ρ b σ α β) (ha : β = some a) (l : RDs X.K O' H ds vs)
    (hO' : ∀ y, O' y → OW g ρ α β y) (hOa : O' a) (back : ∀ (H2 : Hp) (b2 : Bx) (d : PyData) (v : V), RE X.K g H2 ρ b2 σ α β → noL d = true ∨ (∀ q, G q = true) ∧ True → RD X.K O' H2 d v → RD X.K (OW g ρ α β) H2 d v)
    (hG : ∀ t d t', fm t ds = .ok d t' → G (.ok d t') = true → noL d = true ∨ (∀ q, G q = true) ∧ True) (hE : ∀ t x t', fm t ds = .ex x t' → G (.ex x t') = true → noLx x = true ∨ (∀ q, G q = true) ∧ True)
    (q : PostR (Cx.z X) (lD X.K) W (OW g ρ α β) g β σ H Q (boxed n fm G ds ρ b)) : spB (Cx.z X) n fm (.ref a :: vs) H Q (WE W σ) := by
  unfold boxed at q
  obtain ⟨t, et, hH⟩ := r.box.has ha
  rw [et] at q
  simp only at q
  split at q
  · rename_i hh
    obtain ⟨hl, hg⟩ := hh
    refine ⟨by rw [List.length_cons, ← l.length, hl], O', ds, a, vs, t, rfl, fun y z => r.ownL y (hO' y z), hOa, hH, r.tab, l, ?_⟩
    cases ef : fm t ds with
    | ok d t' =>
      rw [ef] at q hg
      intro v H2 l2 k2 h2 t2
      have q2 := r.box.put et ha h2 (by rw [r.tt]; exact t2)
      exact q v H2 (back H2 _ d v (r.step (keep_at ha k2) q2) (hG t d t' ef hg) l2) (keep_at ha k2) q2
    | ex xx t' =>
      rw [ef] at q hg
      intro cls dd H2 ⟨C, h1, hc, h3⟩ k2 h2 t2
      have q2 := r.box.put et ha h2 (by rw [r.tt]; exact t2)
      refine q cls dd H2 ⟨C, h1, hc, ?_⟩ (keep_at ha k2) q2
      cases ea : xx.arg with
      | none => rw [ea] at h3; exact h3
      | some d =>
        rw [ea] at h3
        obtain ⟨p', v, e1, e2, e3⟩ := h3
        refine ⟨p', v, e1, e2, back H2 _ d v (r.step (keep_at ha k2) q2) ?_ e3⟩
        rcases hE t xx t' ef hg with z | z
        · unfold noLx at z
          rw [ea] at z
          exact .inl z
        · exact .inr z
    | bad => rw [ef] at q; exact q
  · exact q.elim
theorem se_callX (F : FnOk X.prog X.w X.K X.mg X.base (L2.CX X.prog X.w) k f fd ps (spB (Cx.z X) n fm)) (hr : Room k X.A) (hg : Gl X x) (hm : X.mg x = some (.ref f)) (hk : PySem.W.keepIn X.K (.ref f) = true) (hb : Binds X.K fd ps []) (tk : Takes X W) (hN : X.N[i]? = some y) (hv : Vis X.env.scope y)
    (ha : SA X W es ms) (hd : (y == ("__debug__" : Str)) = false := by decide) (hcd : (y == ("__classdict__" : Str)) = false := by decide) (hdb : (x == ("__debug__" : Str)) = false := by decide)
    (he : starEach (.Name y p1 :: es) X.env = (false, eval (.Name y p1) X.env) :: starEach es X.env := by rfl) (hpl : (backTo pos (starEach es X.env)).any (·.1) = false := by rfl) :
    SE X W (.Call (.Name x p) (.Name y p1 :: es) [] pos) (callX i n fm ms) :=
  PE.imp (pe_callS F hr hg hm hk hb (fun σ => passAt tk σ) (pa_cons (pe_var hN hv hd hcd) ha he) hdb he hpl) fun σ H Q ⟨g, ρ, b, α, β, r, q⟩ => by
    unfold callX at q
    split at q
    · rename_i e1
      obtain ⟨a, ea, hs⟩ := r.bxs i e1
      refine ⟨_, hs, ?_⟩
      exact ⟨g, ρ, b, α, β, r, post_bind (L := lDs X.K) q fun ds b' vs H1 l kk qq p1 =>
        boxed_post (r.step kk qq) ea l (fun _ z => z) (.inr (.inl ea)) (fun _ _ _ _ _ _ z => z) (fun _ _ _ _ _ => .inr ⟨fun _ => rfl, trivial⟩) (fun _ _ _ _ _ => .inr ⟨fun _ => rfl, trivial⟩) p1⟩
    · exact q.elim
theorem se_callXB (F : FnOk X.prog X.w X.K X.mg X.base (L2.CX X.prog X.w) k f fd ps (spB (Cx.z X) n fm)) (hr : Room k X.A) (hg : Gl X x) (hm : X.mg x = some (.ref f)) (hk : PySem.W.keepIn X.K (.ref f) = true) (hb : Binds X.K fd ps []) (tk : Takes X W) (hN : X.N[i]? = some y) (hv : Vis X.env.scope y)
    (ha : SAW X W es ms) (hd : (y == ("__debug__" : Str)) = false := by decide) (hcd : (y == ("__classdict__" : Str)) = false := by decide) (hdb : (x == ("__debug__" : Str)) = false := by decide)
    (he : starEach (.Name y p1 :: es) X.env = (false, eval (.Name y p1) X.env) :: starEach es X.env := by rfl) (hpl : (backTo pos (starEach es X.env)).any (·.1) = false := by rfl) :
    SE X W (.Call (.Name x p) (.Name y p1 :: es) [] pos) (callXB i n fm ms) :=
  PE.imp (pe_callS F hr hg hm hk hb (fun σ => passAt tk σ) (pa_cons (pe_var hN hv hd hcd) ha he) hdb he hpl) fun σ H Q ⟨g, ρ, b, α, β, r, q⟩ => by
    unfold callXB at q
    split at q
    · rename_i e1
      obtain ⟨a, ea, hs⟩ := r.bxs i e1
      refine ⟨_, hs, ?_⟩
      refine ⟨g, ρ, b, α, β, r, post_bind (L := lWs X.K) q fun ds b' vs H1 l kk qq p1 => ?_⟩
      refine boxed_post (r.step kk qq) ea (borrowX l) (fun _ z => z.1) ⟨.inr (.inl ea), .inl ea⟩ (fun H2 b2 d v r2 n h => ?_) (fun t d t' ef z => .inl z) (fun t d t' ef z => .inl z) p1
      rcases n with n | n
      · exact h.noL (fun a ha => .inr (r2.ownL a ha)) _ _ n
      · have z := n.1 (.ok (.list []) (0, 0, 0))
        cases z
    · exact q.elim
end
/-! ### a def that answers a new list of its own, shown at its end -/
abbrev FL := List D → Option (List D)
def spN (Z : Zx) (n : Nat) (fm : FL) : Sp := fun vs H Q _ => vs.length = n ∧ ∃ (O : Own) (ds : List D), (∀ a, O a → ∃ xs, Rd H a (.lst xs)) ∧ LamX.Tabs (LT.tabs Z.K) H ∧ RDs Z.K O H ds vs ∧ match fm ds with
  | some xs => ∀ a us H', H a = none → H' a = some (.lst us) → RDs Z.K O H' xs us → Keep nobody H H' → LamX.Tabs (LT.tabs Z.K) H' → Q (.ref a) H'
  | none => False
abbrev MN := En → Bx → Option (List D)
def PostN0 (Z : Zx) (g : Gh) (D : Ends) : Option (List PyData) → Prop
  | some xs => ∀ a us H, g.H0 a = none → H a = some (.lst us) → RDs Z.K (fun y => g.Of y ∨ g.fo = some y) H xs us → Keep (fun a => g.fo = some a) g.H0 H → LamX.Tabs g.T H → D.rt (.ref a) H
  | none => False
def tSN (Z : Zx) (m : MN) : TS := fun D σ H => ∃ g ρ b α β, RE Z.K g H ρ b σ α β ∧ PostN0 Z g D (m ρ b)
def SBN (X : Cx) (sts : List Stmt) (m : MN) : Prop := PSs X sts (tSN (Cx.z X) m)
def seqN (m : MS) (n : MN) : MN := fun ρ b => match m ρ b with
  | .nx ρ' b' => n ρ' b'
  | _ => none
def retNewM (ms : ME (List D)) : MN := fun ρ b => match ms ρ b with
  | .ok xs _ => if xs.length ≤ sizeLine then some xs else none
  | _ => none
section
variable {X : Cx} {W : WX} {st : Stmt} {rest : List Stmt} {es : List Expr} {ms : ME (List D)} {m : MS} {n : MN} {pos p : Pos}
theorem sbn_cons (h1 : SS X W st m) (h2 : SBN X rest n) : SBN X (st :: rest) (seqN m n) := PSs.imp (pss_cons h1 h2) fun D σ H ⟨g, ρ, b, α, β, r, q⟩ => by
  refine ⟨g, ρ, b, α, β, r, ?_⟩
  unfold seqN at q
  cases e : m ρ b with
  | nx ρ' b' => rw [e] at q; exact fun σ H α β r => ⟨g, ρ', b', α, β, r, q⟩
  | rt _ _ => rw [e] at q; exact q.elim
  | bk _ _ => rw [e] at q; exact q.elim
  | ct _ _ => rw [e] at q; exact q.elim
  | ex _ _ _ => rw [e] at q; exact q.elim
  | bad => rw [e] at q; exact q.elim
theorem sbn_ret (h : SA X W es ms) : SBN X [.Return (some (.List es p)) pos] (retNewM ms) := PSs.imp (pss_one (ps_ret (pe_lst h))) fun D σ H ⟨g, ρ, b, α, β, r, q⟩ => by
  refine ⟨g, ρ, b, α, β, r, ?_⟩
  unfold retNewM at q
  cases e : ms ρ b with
  | ok xs b' =>
    rw [e] at q
    simp only at q
    split at q
    · rename_i hz
      intro vs H1 l kk qq
      have r1 := r.step kk qq
      refine ⟨by rw [← l.length]; exact hz, fun a hn => ?_⟩
      have k2 : KeepS H1 (upd H1 a (.lst vs)) := KeepS.upd hn
      have r2 := r1.step k2.of0 (qq.keep0 k2)
      refine q a vs _ (free_back0 r1 hn) upd_same ((l.keep k2.of0).own fun y u _ z => ?_) r2.evo r2.box.2
      rcases z with z | z
      · exact .inl z
      · exact .inr (.inl (r2.foB z))
    · exact q.elim
  | ex _ _ => rw [e] at q; exact q.elim
  | bad => rw [e] at q; exact q.elim
end
def fnNM (n : Nat) (body : MN) : FL := fun ds => body (ds.map .v ++ List.replicate (n - ds.length) .no) .no
section
variable {P : Program} {w : World} {K : PySem.W.Frag} {mg : Str → Option Value} {base : Heap}
theorem fn_simN {x qual : Str} {st : Stmt} {f : Addr} {fd : FuncData} {N ps : List Str} {k : Nat} {m : MN} (F : Fun K x qual st f fd) (S : FnScope N ps (defScope st))
    (hb : ∀ (A : Around) (outer : List Env) (s : Shared) (H : Hp) (E : XK), Room k (A.deeper (envOfC qual (defScope st) s.heap.objs.size f fd.code)) → SBN (cxOf (L2.CX P w) P w K mg base N qual (defScope st) f fd.code A outer s H E) (defBody st) m) :
    FnOk P w K mg base (L2.CX P w) (k + 1) f fd ps (spN ⟨K, mg⟩ ps.length (fnNM N.length m)) := by
  refine okC F S (fun vs H Q E h => h.1) (fun A outer s H vs Q E hr h => ⟨_, hb A outer s H E hr, ?_⟩)
  obtain ⟨hl, O, ds, hO, hT, r, h⟩ := h
  refine ⟨⟨H, O, none, fun _ => 0, LT.tabs K, fun _ => 0⟩, _, .no, fun _ => 0, none, start_re (N := N) hO hT r, ?_⟩
  unfold fnNM at h
  cases e : m (List.map Sl.v ds ++ List.replicate (N.length - ds.length) Sl.no) .no with
  | some xs =>
    rw [e] at h
    exact fun a us H' n ha l kk tt => h a us H' n ha (l.own fun _ _ _ z => .inl z) (kk.mono fun _ z => by cases z) tt
  | none => rw [e] at h; exact h.elim
end
/-! ### box = f(..), a new box -/
def dropBx (ρ : En) : En := ρ.map fun s => match s with
  | .bx => .no
  | s => s
theorem dropBx_at {ρ : En} {i : Nat} {s : Sl} (h : (dropBx ρ)[i]? = some s) : ρ[i]? = some s ∨ s = .no := by
  unfold dropBx at h
  rw [List.getElem?_map] at h
  obtain ⟨u, h1, h2⟩ := Option.map_eq_some_iff.mp h
  cases u with
  | bx => exact .inr h2.symm
  | no => exact .inr h2.symm
  | v d => exact .inl (h1.trans (by rw [← h2]))
  | own d => exact .inl (h1.trans (by rw [← h2]))
  | lk d => exact .inl (h1.trans (by rw [← h2]))
  | fn d => exact .inl (h1.trans (by rw [← h2]))
theorem dropBx_bx {ρ : En} {i : Nat} : (dropBx ρ)[i]? ≠ some .bx := fun h => by
  unfold dropBx at h
  rw [List.getElem?_map] at h
  obtain ⟨u, _, h2⟩ := Option.map_eq_some_iff.mp h
  cases u <;> cases h2
def freeBx : Bx → Bool
  | .fo _ _ _ => false
  | _ => true
theorem RE.newBx {K : PySem.W.Frag} {g : Gh} {H H2 : Hp} {ρ : En} {b : Bx} {σ : L2.St} {α : Nat → Addr} {β : Option Addr} (r : RE K g H ρ b σ α β) (hb : freeBx b = true) {i : Nat} (hi : i < ρ.length) {a : Addr} {x y z : Int} (hn : H a = none) (ha : H2 a = some (BxV x y z)) (k : Keep nobody H H2) (hT : LamX.Tabs (LT.tabs K) H2) :
    RE K g H2 ((dropBx ρ).set i .bx) (.ow x y z) (σ.set i (some (.ref a))) α (some a) := by
  have hl : (dropBx ρ).length = ρ.length := by unfold dropBx; simp
  have hσ : i < σ.length := by rw [← r.len]; exact hi
  have fo0 : g.fo = none := by
    have q := r.box.1
    cases b with
    | no => exact q.2
    | ow x y z => obtain ⟨_, _, q, _⟩ := q; exact q
    | fo x y z => cases hb
  have back : ∀ {j : Nat} {s : Sl}, ((dropBx ρ).set i .bx)[j]? = some s → s ≠ .no → s ≠ .bx → j ≠ i ∧ ρ[j]? = some s := fun {j s} h n1 n2 => by
    by_cases hj : j = i
    · subst hj
      rw [set_at (by rw [hl]; exact hi)] at h
      exact absurd (Option.some.inj h).symm n2
    · rw [set_ne (Ne.symm hj)] at h
      rcases dropBx_at h with h | h
      · exact ⟨hj, h⟩
      · exact absurd h n1
  have own : ∀ (c : Addr) (u : HO), H c = some u → OW g ((dropBx ρ).set i .bx) α (some a) c → OW g ρ α β c := fun c u hc h => by
    rcases h with h | h | ⟨j, xs, e, h⟩
    · exact .inl h
    · cases h
      rw [hn] at hc
      cases hc
    · obtain ⟨_, e2⟩ := back e nofun nofun
      exact .inr (.inr ⟨j, xs, e2, h⟩)
  refine ⟨by simp [hl, r.len], (r.evo.trans k.of0), r.oft, r.ofo, fun j d e => ?_, fun j xs e => ?_, fun j l xs ys e1 e2 h => ?_, fun j xs e => ?_, fun j e => ?_, ⟨⟨a, rfl, fo0, ?_, ha⟩, by rw [r.tt]; exact hT⟩, r.tt, fun j k e => ?_⟩
  · obtain ⟨hj, e⟩ := back e nofun nofun
    obtain ⟨v, e1, e2⟩ := r.val j d e
    exact ⟨v, by rw [List.getElem?_set_ne (Ne.symm hj)]; exact e1, (e2.own own).keep k.of0⟩
  · obtain ⟨hj, e⟩ := back e nofun nofun
    obtain ⟨vs, e1, e2, e3, e4, e5⟩ := r.own j xs e
    exact ⟨vs, by rw [List.getElem?_set_ne (Ne.symm hj)]; exact e1, k _ _ e2 id, (e3.own own).keep k.of0, e4, fun z => by cases z; rw [hn] at e2; cases e2⟩
  · exact r.inj j l xs ys (back e1 nofun nofun).2 (back e2 nofun nofun).2 h
  · obtain ⟨hj, e⟩ := back e nofun nofun
    obtain ⟨vs, e1, e2, e3, e4⟩ := r.lck j xs e
    exact ⟨vs, by rw [List.getElem?_set_ne (Ne.symm hj)]; exact e1, e2, e3, (e4.own own).keep k.of0⟩
  · by_cases hj : j = i
    · subst hj
      exact ⟨a, rfl, List.getElem?_set_self hσ⟩
    · rw [set_ne (Ne.symm hj)] at e
      exact absurd e dropBx_bx
  · exact free_back0 r hn
  · obtain ⟨hj, e⟩ := back e nofun nofun
    rw [List.getElem?_set_ne (Ne.symm hj)]
    exact r.fns j k e
def boxNewM (i n : Nat) (fm : FL) (ms : ME (List D)) : MS := exprM ms fun ds ρ b => match fm ds with
  | some [.int x, .int y, .int z] => if i < ρ.length ∧ freeBx b = true ∧ ds.length = n then .nx ((dropBx ρ).set i .bx) (.ow x y z) else .bad
  | _ => .bad
section
variable {X : Cx} {W : WX} {e : Expr} {es : List Expr} {ms : ME (List D)} {i k : Nat} {x y : Str} {pos p p1 : Pos} {f : Addr} {fd : FuncData} {ps : List Str} {fm : FL}
theorem ss_box {pos2 : Pos} (F : FnOk X.prog X.w X.K X.mg X.base (L2.CX X.prog X.w) k f fd ps (spN (Cx.z X) ps.length fm)) (hr : Room k X.A) (hg : Gl X x) (hm : X.mg x = some (.ref f)) (hk : PySem.W.keepIn X.K (.ref f) = true) (hb : Binds X.K fd ps []) (tk : Takes X W)
    (hN : X.N.Nodup) (hi : X.N[i]? = some y) (hx : Loc X.env.scope y) (ha : SA X W (e :: es) ms) (hdb : (x == ("__debug__" : Str)) = false := by decide) (he : starEach (e :: es) X.env = (false, eval e X.env) :: starEach es X.env := by rfl)
    (hpl : (backTo pos (starEach es X.env)).any (·.1) = false := by rfl) (hs : swapsWith (.Call (.Name x p) (e :: es) [] pos) (some (.Name y p1)) pos2.line X.env = pure false := by rfl)
    (hf : X.fn y = true ∨ X.env.scope.names.lookup y = some .local := by first | exact .inl rfl | exact .inr rfl | assumption) :
    SS X W (.Assign [.Name y p1] (.Call (.Name x p) (e :: es) [] pos) pos2) (boxNewM i ps.length fm ms) :=
  PS.imp (ps_set hN hi hx (pe_callS F hr hg hm hk hb (fun σ => passAt tk σ) ha hdb he hpl) hs hf) fun D σ H h => by
    refine expr_read (L := lDs X.K) h fun g ρ b α β ds vs H1 r kk l q => ?_
    cases ef : fm ds with
    | none => rw [ef] at q; exact q.elim
    | some xs =>
      rw [ef] at q
      split at q
      · rename_i a b' c exs
        cases exs
        split at q
        · rename_i hc
          refine ⟨by rw [← l.length, hc.2.2], OW g ρ α β, ds, r.ownL, r.tab, l, ?_⟩
          rw [ef]
          intro p us H2 hp h2 l2 k2 t2
          cases l2 with
          | cons l3 l2 =>
            cases l2 with
            | cons l4 l2 =>
              cases l2 with
              | cons l5 l2 =>
                cases l2
                cases l3
                cases l4
                cases l5
                exact q _ H2 α (some p) (r.newBx hc.2.1 hc.1 hp h2 k2 t2)
        · exact q.elim
      · exact q.elim
end
end Fs

/-! H1: the head's facts: defs, names, and the package's errors. -/
namespace Fs
open He PySem.W L2 PyProof.Rows PySem.Spec PySem
variable [LT]
/-- an error class: its name, the text of its __init__, the field that it keeps -/
structure ErD where
  x : Str
  qual : Str
  st : Stmt
  fld : Option Str
def ErD.C (K : Frag) (d : ErD) : Addr := ga K d.x
def ErD.fI (K : Frag) (d : ErD) : Addr := ma K (ga K d.x) "__init__"
abbrev EV : Type := Option (Str × Str × Arguments × FuncBody × Scope × Addr × List Str × Value × Addr)
def erObs (K : Frag) (d : ErD) : EV := match K.lookup (d.fI K) with
  | some ⟨_, _, .func fd, _⟩ => some (fd.name, fd.qualname, fd.params, fd.body, fd.scope, fd.globals, fd.closure.map (·.1), fd.defaults, fd.builtins)
  | _ => none
def ErD.val (d : ErD) : EV := some ("__init__", d.qual, defArgs d.st, .stmts (defBody d.st), defScope d.st, mainGlobals, ["__class__"], .none, builtinsNs)
def codeB (file : Str) (K : Frag) (C fI : Addr) (q : Str) : Bool := match K.lookup fI with
  | some ⟨_, _, .func fd, _⟩ => (match fd.code, fd.closure with
    | .ref cda, [(_, cc)] => codeIn K (.ref cda) q && (match K.lookup cda, K.lookup cc with
      | some ⟨_, _, .fields vs, _⟩, some ⟨_, _, .cell (some (.ref D)), _⟩ => decide (D = C) && (match (vs[2]? : Option Value) with
        | some (Value.str f _) => decide (f = file)
        | _ => false)
      | _, _ => false)
    | _, _ => false)
  | _ => false
def fldB (K : Frag) (C : Addr) (a : Str) : Bool := eqO (findIn K (.ref C) "__setattr__") (some (some (.builtin "object.__setattr__"))) && (eqO (findIn K (.ref C) "__getattribute__") (some (some (.builtin "BaseException.__getattribute__"))) &&
  (eqO (findIn K (.ref C) "__getattr__") (some none) && (eqO (findIn K (.ref C) a) (some none) && (excOver K C excBm && hasDictIn K C))))
def erB (file : Str) (K : Frag) (d : ErD) : Bool := eqO (nsIn K mainGlobals d.x) (some (some (.ref (d.C K)))) && (excInitIn K (d.C K) excBm "Exception.__new__" && (eqO (findIn K (.ref (d.C K)) "__init__") (some (some (.ref (d.fI K)))) &&
  (decide (mroIn K (d.C K) (.ref (d.C K)) = some true) && (eqO (ks_superIn K (d.C K) (d.C K) "__init__") (some (some (.builtin "Exception.__init__"))) && (decide (subIn K (.ref (d.C K)) (.type "Exception") = some true) &&
  (decide (subIn K (.ref (d.C K)) (.type "BaseException") = some true) && (decide (typeIn K (.ref (d.C K)) = some (.type "type")) && (keepIn K (.ref (d.C K)) && (decide (typeIn K (.ref (d.fI K)) = some (.type "function")) &&
  (codeB file K (d.C K) (d.fI K) d.qual && (match d.fld with
    | some a => fldB K (d.C K) a
    | none => true)))))))))))
theorem codeB_ok {file : Str} {K : Frag} {d : ErD} (h : codeB file K (d.C K) (d.fI K) d.qual = true) (e : erObs K d = d.val) :
    ∃ (oc : Value) (od : Option Addr) (kV doc pm : Value) (an : Option Addr) (cda : Addr) (ct : Value) (osl : Array (Option Value)) (cc : Addr) (ccl : Value) (cdd : Option Addr) (vs : Array Value) (ccs : Array (Option Value)) (tf : Tok) (cl : Value) (cld : Option Addr) (csl : Array (Option Value)),
      K.lookup (d.fI K) = some ⟨oc, od, .func (fnX "__init__" d.qual (defArgs d.st) (defBody d.st) (defScope d.st) [("__class__", cc)] .none kV doc pm an (.ref cda) ct), osl⟩ ∧ codeIn K (.ref cda) d.qual = true ∧
        K.lookup cda = some ⟨ccl, cdd, .fields vs, ccs⟩ ∧ vs[2]? = some (.str file tf) ∧ K.lookup cc = some ⟨cl, cld, .cell (some (.ref (d.C K))), csl⟩ := by
  unfold codeB at h
  unfold erObs at e
  split at h
  · rename_i oc od fd osl q
    rw [q] at e
    split at h
    · rename_i cda nm cc hc hcl
      obtain ⟨h1, h2⟩ := ba h
      split at h2
      · rename_i ccl cdd vs ccs cl cld D csl hv hcell
        obtain ⟨h3, h4⟩ := ba h2
        split at h4
        · rename_i f tf hvs
          have ef := of_decide_eq_true h4
          have eD := of_decide_eq_true h3
          subst ef eD
          rcases fd with ⟨n1, n2, n3, n4, n5, n6, n7, n8, n9, n10, n11, n12, n13, n14, n15⟩
          have e2 : (some (n1, n2, n3, n4, n5, n6, n7.map (·.1), n8, n15) : EV) = some (("__init__" : Str), d.qual, defArgs d.st, FuncBody.stmts (defBody d.st), defScope d.st, mainGlobals, [("__class__" : Str)], Value.none, builtinsNs) := e
          rw [Option.some.injEq] at e2
          simp only [Prod.mk.injEq] at e2
          obtain ⟨r1, r2, r3, r4, r5, r6, r7, r8, r9⟩ := e2
          have hcl : n7 = [(nm, cc)] := hcl
          have hc : n13 = .ref cda := hc
          subst hcl hc
          have rn : nm = "__class__" := by simpa using r7
          subst rn r1 r2 r3 r4 r5 r6 r8 r9
          exact ⟨oc, od, n9, n10, n11, n12, cda, n14, osl, cc, ccl, cdd, vs, ccs, tf, cl, cld, csl, q, h1, hv, hvs, hcell⟩
        · cases h4
      · cases h2
    · cases h
  · cases h
/-- its text keeps one thing, as a -/
def Txt1 (d : ErD) (a : Str) : Prop := ∃ (msg : Str) (a1 a2 p0 p1 p2 p3 p4 p5 q1 q2 q3 q4 : Pos), defArgs d.st = eA1 a a1 a2 ∧ defBody d.st = eB1 a msg p0 p1 p2 p3 p4 p5 q1 q2 q3 q4 ∧ defScope d.st = eS1 a ∧ (p2.endLine == p4.line) = true
def Txt0 (d : ErD) : Prop := ∃ (msg : Str) (a1 p0 p1 p2 p3 p4 p5 : Pos), defArgs d.st = eA0 a1 ∧ defBody d.st = eB0 msg p0 p1 p2 p3 p4 p5 ∧ defScope d.st = eS0 ∧ (p2.endLine == p4.line) = true
/-- what a name of a field must be -/
structure FldOk (a : Str) : Prop where
  ne : a ≠ "self"
  nc : a ≠ "__class__"
  ns : a ≠ "super"
  nd : (a == ("__debug__" : Str)) = false
  bnd : ∀ (qual : Str) (a1 a2 : Pos) (b : List Stmt) (cl : List (Str × Addr)) (kV doc pm : Value) (an : Option Addr) (cd ct u v : Value), bindArgs (fnX "__init__" qual (eA1 a a1 a2) b (eS1 a) cl .none kV doc pm an cd ct) ⟨[u, v], []⟩ = pure [(("self" : Str), u), (a, v)]
theorem fld_at : FldOk "at" := ⟨by decide, by decide, by decide, by decide, fun _ _ _ _ _ _ _ _ _ _ _ _ _ => rfl⟩
theorem fld_word : FldOk "word" := ⟨by decide, by decide, by decide, by decide, fun _ _ _ _ _ _ _ _ _ _ _ _ _ => rfl⟩
section
variable {K : Frag} {h : Heap} {mg : Str → Option Value} {prog : Program} {d : ErD} {a : Str}
theorem erB_ok (X : K.In h) (G : h.Ns mainGlobals mg) (b : erB prog.main.file K d = true) (opq : nsIn K cStatics "thirdparty.any" = some none) (gsu : mg "super" = none) (top : (prog.main.scope.names.lookup ("super" : Str)).isSome = false) : ErB K mg prog d.x (d.C K) (d.fI K) := by
  obtain ⟨b1, b⟩ := ba b
  obtain ⟨b2, b⟩ := ba b
  obtain ⟨b3, b⟩ := ba b
  obtain ⟨b4, b⟩ := ba b
  obtain ⟨b5, b⟩ := ba b
  obtain ⟨b6, b⟩ := ba b
  obtain ⟨b7, b⟩ := ba b
  obtain ⟨b8, b⟩ := ba b
  obtain ⟨b9, b⟩ := ba b
  obtain ⟨b10, _⟩ := ba b
  exact ⟨mg_of X G (eqO_ok b1), b2, eqO_ok b3, of_decide_eq_true b4, eqO_ok b5, of_decide_eq_true b6, opq, gsu, of_decide_eq_true b7, of_decide_eq_true b8, b9, of_decide_eq_true b10, top⟩
theorem erB_code (b : erB prog.main.file K d = true) : codeB prog.main.file K (d.C K) (d.fI K) d.qual = true ∧ (match d.fld with
    | some a => fldB K (d.C K) a
    | none => true) = true := by
  obtain ⟨_, b⟩ := ba b
  obtain ⟨_, b⟩ := ba b
  obtain ⟨_, b⟩ := ba b
  obtain ⟨_, b⟩ := ba b
  obtain ⟨_, b⟩ := ba b
  obtain ⟨_, b⟩ := ba b
  obtain ⟨_, b⟩ := ba b
  obtain ⟨_, b⟩ := ba b
  obtain ⟨_, b⟩ := ba b
  obtain ⟨_, b⟩ := ba b
  exact ba b
theorem er1_ok (X : K.In h) (G : h.Ns mainGlobals mg) (b : erB prog.main.file K d = true) (e : erObs K d = d.val) (ht : Txt1 d a) (hf : d.fld = some a) (fo : FldOk a) (opq : nsIn K cStatics "thirdparty.any" = some none) (gsu : mg "super" = none)
    (top : (prog.main.scope.names.lookup ("super" : Str)).isSome = false) : Er1 K mg prog d.x a (d.C K) (d.fI K) := by
  have B := erB_ok X G b opq gsu top
  obtain ⟨c1, c2⟩ := erB_code b
  rw [hf] at c2
  obtain ⟨f1, c2⟩ := ba (show fldB K (d.C K) a = true from c2)
  obtain ⟨f2, c2⟩ := ba c2
  obtain ⟨f3, c2⟩ := ba c2
  obtain ⟨f4, c2⟩ := ba c2
  obtain ⟨f5, f6⟩ := ba c2
  obtain ⟨oc, od, kV, doc, pm, an, cda, ct, osl, cc, ccl, cdd, vs, ccs, tf, cl, cld, csl, g1, g2, g3, g4, g5⟩ := codeB_ok c1 e
  obtain ⟨msg, a1, a2, p0, p1, p2, p3, p4, p5, q1, q2, q3, q4, t1, t2, t3, t4⟩ := ht
  rw [t1, t2, t3] at g1
  exact { toErB := B, fn := ⟨oc, od, kV, doc, pm, an, cda, ct, osl, cc, ccl, cdd, vs, ccs, tf, cl, cld, csl, d.qual, msg, a1, a2, p0, p1, p2, p3, p4, p5, q1, q2, q3, q4, g1, g2, t4, g3, g4, g5⟩,
          sa := eqO_ok f1, ga := eqO_ok f2, gg := eqO_ok f3, noN := eqO_ok f4, ovr := f5, dct := f6, ne := fo.ne, nc := fo.nc, ns := fo.ns, nd := fo.nd, bnd := fo.bnd }
theorem er0_ok (X : K.In h) (G : h.Ns mainGlobals mg) (b : erB prog.main.file K d = true) (e : erObs K d = d.val) (ht : Txt0 d) (opq : nsIn K cStatics "thirdparty.any" = some none) (gsu : mg "super" = none)
    (top : (prog.main.scope.names.lookup ("super" : Str)).isSome = false) : Er0 K mg prog d.x (d.C K) (d.fI K) := by
  have B := erB_ok X G b opq gsu top
  obtain ⟨c1, _⟩ := erB_code b
  obtain ⟨oc, od, kV, doc, pm, an, cda, ct, osl, cc, ccl, cdd, vs, ccs, tf, cl, cld, csl, g1, g2, g3, g4, g5⟩ := codeB_ok c1 e
  obtain ⟨msg, a1, p0, p1, p2, p3, p4, p5, t1, t2, t3, t4⟩ := ht
  rw [t1, t2, t3] at g1
  exact { toErB := B, fn := ⟨oc, od, kV, doc, pm, an, cda, ct, osl, cc, ccl, cdd, vs, ccs, tf, cl, cld, csl, d.qual, msg, a1, p0, p1, p2, p3, p4, p5, g1, g2, t4, g3, g4, g5⟩ }
end
/-! ### the Hook -/
def asX (g : Addr → Option Obj) : Nat → List Addr
  | 0 => [mainGlobals, cStatics]
  | n + 1 => growD g (asX g n)
/-- which errors are caught by which clause: one's own, the base's -/
def exmAll (base : Str) (K : Frag) (xs : List Str) : Bool := xs.all fun x => (base :: xs).all fun y => decide (exmOne K (.ref (ga K x)) (.ref (ga K y)) = some (x == y || y == base))
/-- no list is written -/
def noLst (K : Frag) : Bool := K.all fun p => match p.2.cls with
  | .type c => !(c == "list")
  | _ => true
theorem noLst_ok {K : Frag} (h : noLst K = true) {a : Addr} {o : Obj} (e : K.lookup a = some o) : o.cls ≠ .type "list" := fun z => by
  have m : (a, o) ∈ K := by
    clear h
    induction K with
    | nil => cases e
    | cons p r ih =>
      obtain ⟨b, u⟩ := p
      rw [List.lookup_cons] at e
      split at e
      · rename_i q
        cases e
        rw [beq_iff_eq.mp q]
        exact .head _
      · exact .tail _ (ih e)
  have q := List.all_eq_true.mp h _ m
  simp only [z] at q
  cases q
/-- the code object of a def -/
def codeAt (K : Frag) (x : Str) : Value := match K.lookup (ga K x) with
  | some ⟨_, _, .func fd, _⟩ => fd.code
  | _ => .none
abbrev AlX : Type := AlD × List EV × Bool
/-! ### data of the module: written tuples -/
mutual
def datB (K : Frag) : PyData → Value → Bool
  | .none, .none => true
  | .bool b, .bool c => b == c
  | .int i, .int j _ => decide (i = j)
  | .str x, .str y _ => decide (x = y)
  | .tuple ds, .ref a => (match K.lookup a with
    | some ⟨cls, _, .seq its _, _⟩ => decide (cls = .type "tuple") && (decide (its.size ≤ 1000) && datsB K ds its.toList)
    | _ => false)
  | _, _ => false
def datsB (K : Frag) : List PyData → List Value → Bool
  | [], [] => true
  | d :: ds, u :: us => datB K d u && datsB K ds us
  | _, _ => false
end
/-- what a name of the module holds, as data -/
def DatOk (K : Frag) (d : PyData) (u : Value) : Prop := ∃ v : V, RelV v u ∧ ∀ (O : Own) (H : Hp), RD K O H d v
mutual
theorem datB_ok {K : Frag} : ∀ (d : PyData) (u : Value), datB K d u = true → DatOk K d u
  | .none, u, h => by
    cases u <;> first | exact ⟨.non, rfl, fun _ _ => .non⟩ | simp [datB] at h
  | .bool b, u, h => by
    cases u <;> first | (simp [datB] at h; subst h; exact ⟨.bl _, rfl, fun _ _ => .bl _⟩) | simp [datB] at h
  | .int i, u, h => by
    cases u <;> first | (simp [datB] at h; subst h; exact ⟨.int _, ⟨_, rfl⟩, fun _ _ => .int _⟩) | simp [datB] at h
  | .str x, u, h => by
    cases u <;> first | (simp [datB] at h; subst h; exact ⟨.str _, ⟨_, rfl⟩, fun _ _ => .str _⟩) | simp [datB] at h
  | .tuple ds, u, h => by
    cases u with
    | ref a =>
      unfold datB at h
      split at h
      · rename_i cls dd its n sl hk
        obtain ⟨h1, h⟩ := ba h
        obtain ⟨h2, h3⟩ := ba h
        obtain ⟨vs, hv, hr⟩ := datsB_ok ds its.toList h3
        have h1 := of_decide_eq_true h1
        have h2 := of_decide_eq_true h2
        exact ⟨.ref a, rfl, fun O H => .tup (.inr (.inr ⟨_, its, n, hk, h1, rfl, Nat.le_trans h2 (by rw [sizeLine_eq]; decide), hv⟩)) (hr O H)⟩
      · cases h
    | _ => simp [datB] at h
  | .list _, u, h => by cases u <;> simp [datB] at h
  | .dict _, u, h => by cases u <;> simp [datB] at h
theorem datsB_ok {K : Frag} : ∀ (ds : List PyData) (us : List Value), datsB K ds us = true → ∃ vs : List V, Vals vs us ∧ ∀ (O : Own) (H : Hp), RDs K O H ds vs
  | [], [], _ => ⟨[], .nil, fun _ _ => .nil⟩
  | [], _ :: _, h => by simp [datsB] at h
  | _ :: _, [], h => by simp [datsB] at h
  | d :: ds, u :: us, h => by
    unfold datsB at h
    obtain ⟨h1, h2⟩ := ba h
    obtain ⟨v, r, hd⟩ := datB_ok d u h1
    obtain ⟨vs, rs, hds⟩ := datsB_ok ds us h2
    exact ⟨v :: vs, .cons r rs, fun O H => .cons (hd O H) (hds O H)⟩
end
def dcB (K : Frag) (p : Str × PyData) : Bool := match PySem.W.nsIn K mainGlobals p.1 with
  | some (some u) => datB K p.2 u
  | _ => false
structure Hd where
  fa : List Fa
  fn : List DefD
  er : List ErD
  base : Str
  file : Str
  tf : List Str := []
  dc : List (Str × PyData) := []
def Hd.obs (D : Hd) (K : Frag) : AlX := (obsD D.fa D.fn K, D.er.map (erObs K), (D.er.all fun d => erB D.file K d) && (eqO (nsIn K cStatics "thirdparty.any") (some none) && (eqO (nsIn K mainGlobals "super") (some none) && (eqO (nsIn K mainGlobals D.base) (some (some (.ref (ga K D.base)))) && (exmAll D.base K (D.er.map (·.x)) && (noLst K && D.dc.all (dcB K)))))))
def Hd.val (D : Hd) : AlX := (valD D.fn, D.er.map ErD.val, true)
def Hd.says (D : Hd) (K : Frag) : Prop := D.obs K = D.val
/-- the defs that write lambdas: their code objects, their tables -/
def Hd.td (D : Hd) : List Defn := D.tf.map fun x => (x, none)
def Hd.tabs (D : Hd) (K : Frag) : List (Addr × Str) := D.tf.map fun x => ((cT K (x, none)).2, x ++ ".<locals>." ++ "<lambda>")
structure Hd.Tb (D : Hd) (h : Heap) (K : Frag) : Prop where
  hd : ∀ x ∈ D.tf, codeHdIn K (cT K (x, none)).1 (cT K (x, none)).2 = true
  out : ∀ x ∈ D.tf, K.lookup (cT K (x, none)).2 = none
  empty : ∀ x ∈ D.tf, h.get? (cT K (x, none)).2 = some { cls := .none, data := .fields #[] }
  own : ∀ x ∈ D.tf, codeAt K x = .ref (cT K (x, none)).1
  apart : (D.tf.map fun x => (cT K (x, none)).2).Nodup
def Hd.tbB (D : Hd) (g : Addr → Option Obj) (K : Frag) : Bool := tabsB g D.td K && (D.tf.all (fun x => decide (codeAt K x = .ref (cT K (x, none)).1)) && decide (D.tf.map fun x => (cT K (x, none)).2).Nodup)
def Hd.obsG (D : Hd) (n : Nat) (g : Addr → Option Obj) : AlX × Bool := (D.obs (frT g (asX g n)), D.tbB g (frT g (asX g n)))
theorem Hd.tb_of {D : Hd} {n : Nat} {h : Heap} (e : D.tbB h.get? (frT h.get? (asX h.get? n)) = true) : D.Tb h (frT h.get? (asX h.get? n)) := by
  obtain ⟨e1, e2⟩ := ba e
  obtain ⟨e3, e4⟩ := ba e2
  have key : ∀ x ∈ D.tf, codeHdIn (frT h.get? (asX h.get? n)) (cT (frT h.get? (asX h.get? n)) (x, none)).1 (cT (frT h.get? (asX h.get? n)) (x, none)).2 = true ∧ ∃ o, h.get? (cT (frT h.get? (asX h.get? n)) (x, none)).2 = some o ∧ emptyTab o = true := fun x hx => by
    obtain ⟨q1, q2⟩ := ba (List.all_eq_true.mp e1 (x, none) (List.mem_map.mpr ⟨x, hx, rfl⟩))
    refine ⟨q1, ?_⟩
    split at q2
    · rename_i o ho
      exact ⟨o, ho, q2⟩
    · cases q2
  refine ⟨fun x hx => (key x hx).1, fun x hx => ?_, fun x hx => ?_, fun x hx => of_decide_eq_true (List.all_eq_true.mp e3 x hx), of_decide_eq_true e4⟩
  · obtain ⟨_, o, q, z⟩ := key x hx
    exact frT_none q z
  · obtain ⟨_, o, q, z⟩ := key x hx
    rw [q, emptyTab_eq z]
def Hd.hook (D : Hd) (n : Nat) : Hook where
  α := AlX × Bool
  obs := fun s => D.obsG n s.heap.get?
  val := fun _ => (D.val, true)
  says := fun _ h => ∃ K : Frag, K.In h ∧ D.says K ∧ D.Tb h K
  of := fun _ h eq => ⟨frT h.heap.get? (asX h.heap.get? n), frT_in, congrArg Prod.fst eq, Hd.tb_of (congrArg Prod.snd eq)⟩
  keeps := fun _ _ _ ⟨K, inK, said, tb⟩ kept => ⟨K, PySem.W.Frag.In.keeps inK kept, said, ⟨tb.hd, tb.out, fun x hx => kept _ _ (tb.empty x hx), tb.own, tb.apart⟩⟩
theorem Hd.obsG_eq {D : Hd} {n : Nat} {g : Addr → Option Obj} {s : Shared} (h : ∀ a, g a = s.heap.get? a) : D.obsG n g = (D.hook n).obs s := by
  have same : g = s.heap.get? := funext h
  rw [same] <;> rfl
section
variable {D : Hd} {K : Frag} {h : Heap} {mg : Str → Option Value} {prog : Program}
theorem Hd.says.d (c : D.says K) : SaysD D.fa D.fn K := congrArg (fun z : AlX => z.1) c
theorem Hd.says.e (c : D.says K) : D.er.map (erObs K) = D.er.map ErD.val := congrArg (fun z : AlX => z.2.1) c
theorem Hd.says.b (c : D.says K) : ((D.er.all fun d => erB D.file K d) && (eqO (nsIn K cStatics "thirdparty.any") (some none) && (eqO (nsIn K mainGlobals "super") (some none) && (eqO (nsIn K mainGlobals D.base) (some (some (.ref (ga K D.base)))) && (exmAll D.base K (D.er.map (·.x)) && (noLst K && D.dc.all (dcB K))))))) = true := congrArg (fun z : AlX => z.2.2) c
theorem Hd.says.opq (c : D.says K) : nsIn K cStatics "thirdparty.any" = some none := eqO_ok (ba (ba c.b).2).1
theorem Hd.says.gsu (c : D.says K) (X : K.In h) (G : h.Ns mainGlobals mg) : mg "super" = none := mg_none_of X G (eqO_ok (ba (ba (ba c.b).2).2).1)
theorem Hd.says.gba (c : D.says K) (X : K.In h) (G : h.Ns mainGlobals mg) : mg D.base = some (.ref (ga K D.base)) := mg_of X G (eqO_ok (ba (ba (ba (ba c.b).2).2).2).1)
theorem Hd.says.at (c : D.says K) (i : Nat) {d : ErD} (hi : D.er[i]? = some d) : erB D.file K d = true ∧ erObs K d = d.val := by
  refine ⟨List.all_eq_true.mp (ba c.b).1 d (List.mem_of_getElem? hi), ?_⟩
  have e2 : (D.er.map (erObs K))[i]? = (D.er.map ErD.val)[i]? := by rw [c.e]
  rw [List.getElem?_map, List.getElem?_map, hi] at e2
  exact Option.some.inj e2
theorem Hd.says.er1 (c : D.says K) (X : K.In h) (G : h.Ns mainGlobals mg) (i : Nat) {d : ErD} {a : Str} (hi : D.er[i]? = some d) (hfile : D.file = prog.main.file) (ht : Txt1 d a) (hf : d.fld = some a) (fo : FldOk a) (top : (prog.main.scope.names.lookup ("super" : Str)).isSome = false) :
    Er1 K mg prog d.x a (d.C K) (d.fI K) := er1_ok X G (by rw [← hfile]; exact (c.at i hi).1) (c.at i hi).2 ht hf fo c.opq (c.gsu X G) top
theorem Hd.says.er0 (c : D.says K) (X : K.In h) (G : h.Ns mainGlobals mg) (i : Nat) {d : ErD} (hi : D.er[i]? = some d) (hfile : D.file = prog.main.file) (ht : Txt0 d) (top : (prog.main.scope.names.lookup ("super" : Str)).isSome = false) :
    Er0 K mg prog d.x (d.C K) (d.fI K) := er0_ok X G (by rw [← hfile]; exact (c.at i hi).1) (c.at i hi).2 ht c.opq (c.gsu X G) top
/-- an error by its class's name, asked by a clause -/
theorem Hd.says.exm (c : D.says K) {x y : Str} (hx : x ∈ D.er.map (·.x)) (hy : y ∈ D.base :: D.er.map (·.x)) : exmOne K (.ref (ga K x)) (.ref (ga K y)) = some (x == y || y == D.base) :=
  of_decide_eq_true (List.all_eq_true.mp (List.all_eq_true.mp (ba (ba (ba (ba (ba c.b).2).2).2).2).1 x hx) y hy)
theorem Hd.says.nol (c : D.says K) : noLst K = true := (ba (ba (ba (ba (ba (ba c.b).2).2).2).2).2).1
theorem Hd.says.dat (c : D.says K) (X : K.In h) (G : h.Ns mainGlobals mg) (i : Nat) {x : Str} {d : PyData} (hi : D.dc[i]? = some (x, d)) : ∃ u, mg x = some u ∧ DatOk K d u := by
  have q := List.all_eq_true.mp (ba (ba (ba (ba (ba (ba c.b).2).2).2).2).2).2 (x, d) (List.mem_of_getElem? hi)
  unfold dcB at q
  split at q
  · rename_i u e
    exact ⟨u, mg_of X G e, datB_ok d u q⟩
  · cases q
/-- .. as HOk1 asks it -/
def kcD (base : Str) (xs : List Str) (y : Str) : Str → Option Bool := fun x => if x ∈ xs then some (x == y || y == base) else none
theorem Hd.says.kc (c : D.says K) (X : K.In h) (G : h.Ns mainGlobals mg) {y : Str} (hy : y ∈ D.base :: D.er.map (·.x)) : ∀ (x : Str) (b : Bool) (C : Addr), kcD D.base (D.er.map (·.x)) y x = some b → mg x = some (.ref C) → exmOne K (.ref C) (.ref (ga K y)) = some b := fun x b C e m => by
  unfold kcD at e
  split at e
  · rename_i hx
    cases e
    obtain ⟨d, hd, rfl⟩ := List.mem_map.mp hx
    have g := mg_of X G (eqO_ok (ba (List.all_eq_true.mp (ba c.b).1 d hd)).1)
    rw [g] at m
    cases m
    exact c.exm hx hy
  · cases e
end
/-! ### the law's end -/
theorem sql_rd {K : Frag} (n : noLst K = true) {H : Hp} {a : Addr} {xs : List V} (h : SqL K H a xs) : Rd H a (.lst xs) := by
  rcases h with h | ⟨o, _, _, e, c, _⟩
  · exact h
  · exact absurd c (noLst_ok n e)
theorem rds_ints {K : Frag} {O : Own} {H : Hp} : ∀ ns : List Int, RDs K O H (ns.map PyData.int) (ns.map V.int)
  | [] => .nil
  | n :: ns => .cons (.int n) (rds_ints ns)
/-- the law's function answers True to each list of ints -/
def LawOk (m : Nat) (fm : FN) : Prop := ∀ ns : List Int, ns.length ≤ m → fm [.list (ns.map .int)] = .ok (.bool true)
theorem walk_ofX {l : PySem.W.OpenLaw} {n k : Nat} {q : Program} {loose : List Str} {XP : (Str → Option Value) → Heap → Prop} {YP : World → Heap → Prop} {d : DefRec} {x : Str} {fm : FN} {D : Hd} (hn : l.most = some n) (hn2 : n ≤ sizeLine) (hdf : d.params.defaults = []) (hr : Room k callerA) (hl : LawOk n fm) (hT : ∀ K, LT.tabs K = D.tabs K)
    (told : ∀ (w : World) (mg : Str → Option Value) (at_ : Addr) (h : Heap), YP w h → h.Ns mainGlobals mg → mg d.name = some (.ref at_) →
      ∃ (K : PySem.W.Frag) (fd : FuncData), K.In h ∧ noLst K = true ∧ D.Tb h K ∧ (∀ (s : Shared) (u : Value), BindsTo s fd ⟨[u], []⟩ [(x, u)]) ∧
        ∀ base : Heap, K.In base → base.Ns mainGlobals mg → (∀ y ∈ D.tf, LamX.TabB base mg (cT K (y, none)).1 (cT K (y, none)).2) → FnOk l.prog w K mg base (L2.CX l.prog w) k at_ fd [x] (spF ⟨K, mg⟩ 1 fm)) :
    PySem.W.WalkO q loose XP YP l.row.toRowW d [] fun f vs => PySem.call f vs := by
  refine Att.attach_call hn hdf fun w _ s₁ mg mb at_ o pm cd doc a vs ns G said ho hd hcd named hobj hints hlen hg => ?_
  obtain ⟨K, fd, KX, nl, tb, hb, hF⟩ := told w mg at_ _ said G.T.g named
  have hcs : ∀ p ∈ D.tf.map (fun y => cT K (y, none)), ∃ y ∈ D.tf, p = cT K (y, none) := fun p hp => by
    obtain ⟨y, hy, e⟩ := List.mem_map.mp hp
    exact ⟨y, hy, e.symm⟩
  refine LamX.law_callTs (cs := D.tf.map fun y => cT K (y, none)) KX G.T.g G.T.b G.T.builtins G.T.nolimit hg (fun p hp => ?_) (fun p hp => ?_) (fun p hp => ?_) G.T.bmain hobj hints (Nat.le_trans hlen hn2) hr (fun base kb nb tbs => hF base kb nb fun y hy => tbs _ (List.mem_map.mpr ⟨y, hy, rfl⟩)) hb (fun H hH hS => ?_) fun H e s' z => ?_
  · obtain ⟨y, hy, rfl⟩ := hcs p hp
    exact tb.empty y hy
  · obtain ⟨y, hy, rfl⟩ := hcs p hp
    exact tb.out y hy
  · obtain ⟨y, hy, rfl⟩ := hcs p hp
    exact codeHd_of_K KX (tb.hd y hy)
  · refine ⟨rfl, fun _ => False, [.list (ns.map .int)], fun _ z => z.elim, fun p hp => ?_, .cons (.lst ⟨sql_rd nl hS, id⟩ (rds_ints ns)) .nil, ?_⟩
    · rw [show LT.tabs (Zx.K ⟨K, mg⟩) = D.tabs K from hT K] at hp
      obtain ⟨y, hy, rfl⟩ := List.mem_map.mp hp
      exact LamX.TabS.nil (hH _ (List.mem_map.mpr ⟨y, hy, rfl⟩))
    · rw [hl ns hlen]
      intro v H' r _ _
      cases r
      rfl
  · obtain ⟨_, _, _, _, _, _, _, _, _, _, _, _, z⟩ := z
    exact z
end Fs

/-! G1: what the printed derivations lean on. -/
namespace Fs
open He PySem.W L2 PyProof.Rows PySem.Spec PySem
variable [LT]
theorem u64 {k : Nat} {A : Around} (h : Room k A) : A.units + 64 < cLine := by
  have := h.un
  omega
theorem u65 {k : Nat} {A : Around} (h : Room k A) : A.units + 65 < cLine := by
  have := h.un
  omega
/-! ### defs by the Hook -/
def mkD (x : Str) (st : Stmt) : DefD := ⟨(x, none), x, x, defArgs st, defBody st, defScope st, [], []⟩
def fdAt (K : Frag) (a : Addr) : FuncData := match K.lookup a with
  | some ⟨_, _, .func fd, _⟩ => fd
  | _ => default
theorem fdAt_eq {K : Frag} {a : Addr} {oc : Value} {od : Option Addr} {fd : FuncData} {osl : Array (Option Value)} (h : K.lookup a = some ⟨oc, od, .func fd, osl⟩) : fdAt K a = fd := by
  unfold fdAt
  rw [h]
/-- a def of the module under its name -/
structure DefF (K : Frag) (mg : Str → Option Value) (x : Str) (st : Stmt) : Prop where
  g : mg x = some (.ref (ga K x))
  f : Fun K x x st (ga K x) (fdAt K (ga K x))
theorem fun_of {K : Frag} {x : Str} {st : Stmt} {f : Addr} {fd : FuncData} (F : FunD K x x (defArgs st) (defBody st) (defScope st) [] [] f fd) : Fun K x x st f (fdAt K f) := by
  obtain ⟨⟨oc, od, dV, kV, doc, pm, an, cdv, ct, osl, h1, h2, h3, h4, h5⟩, kp⟩ := F
  have hd : dV = .none := by
    rcases h4 with h4 | h4
    · exact h4.2
    · exact absurd rfl h4.1
  subst hd
  rw [fdAt_eq h2]
  exact ⟨⟨oc, od, kV, doc, pm, an, cdv, ct, osl, h1, h2, h3⟩, kp⟩
section
variable {D : Hd} {K : Frag} {h : Heap} {mg : Str → Option Value}
theorem Hd.says.def_ (c : D.says K) (X : K.In h) (G : h.Ns mainGlobals mg) (i j : Nat) {x : Str} {st : Stmt} (hi : D.fn[i]? = some (mkD x st)) (hj : D.fa[j]? = some (.glo x)) : DefF K mg x st := by
  obtain ⟨fd, F⟩ := c.d.def_ i hi
  exact ⟨glo_ok X G (c.d.fact j hj), fun_of F⟩
theorem Hd.says.fr (c : D.says K) (X : K.In h) (G : h.Ns mainGlobals mg) (j : Nat) {x : Str} (hj : D.fa[j]? = some (.free x)) : mg x = none := free_ok X G (c.d.fact j hj)
end
/-! ### names of the language -/
theorem bt_len : bootBuiltins "len" = some (.builtin "len") := by kernel_rfl
theorem bt_abs : bootBuiltins "abs" = some (.builtin "abs") := by kernel_rfl
theorem bt_int : bootBuiltins "int" = some (.type "int") := by kernel_rfl
theorem bt_tuple : bootBuiltins "tuple" = some (.type "tuple") := by kernel_rfl
theorem bt_list : bootBuiltins "list" = some (.type "list") := by kernel_rfl
theorem bt_bool : bootBuiltins "bool" = some (.type "bool") := by kernel_rfl
theorem bt_str : bootBuiltins "str" = some (.type "str") := by kernel_rfl
/-! ### further expressions -/
section
variable {X : Cx} {W : WX} {e : Expr} {ma : ME D} {pos : Pos}
def negF : D → Option D
  | .int i => some (.int (-i))
  | _ => none
def negM (ma : ME D) : ME D := bindM ma fun d => liftO (negF d)
theorem se_neg (h : SW X W e ma) : SE X W (.UnaryOp .USub e pos) (negM ma) := PE.imp (pe_un un_neg h) fun σ H Q q => by
  refine tR_bind q fun g ρ b α β d x H1 r l p => ?_
  obtain ⟨z, ez, q⟩ := post_lift p
  unfold negF at ez
  split at ez
  · cases ez
    rw [l.int]
    exact ⟨_, rfl, q _ H1 (.int _) (Keep.refl _ _) r.box⟩
  · cases ez
/-- a number of the module -/
theorem se_gint {x : Str} {i : Int} (hg : Gl X x) (hm : ∃ t, X.mg x = some (.int i t)) (hd : (x == ("__debug__" : Str)) = false := by decide) : SE X W (.Name x pos) (cM (.int i)) := by
  obtain ⟨t, hm⟩ := hm
  exact PE.imp (pe_glob (v := .int i) hg hm ⟨t, rfl⟩ hd) fun σ H Q ⟨g, ρ, b, α, β, r, p⟩ => p _ H (.int i) (Keep.refl _ _) r.box
/-- data of the module -/
theorem se_gdat {x : Str} {d : PyData} (hg : Gl X x) (hm : ∃ u, X.mg x = some u ∧ DatOk X.K d u) (hd : (x == ("__debug__" : Str)) = false := by decide) : SE X W (.Name x pos) (cM d) := by
  obtain ⟨u, hm, v, hr, hv⟩ := hm
  exact PE.imp (pe_glob (v := v) hg hm hr hd) fun σ H Q ⟨g, ρ, b, α, β, r, p⟩ => p _ H (hv _ H) (Keep.refl _ _) r.box
end
end Fs

/-! E5: an error made by keyword, and what it keeps read at once. -/
namespace Fs
open L2 PySem.Calls PySem.W PyProof.Rows PySem.Spec PySem
variable [LT]
section
variable {prog : Program} {w : World} {M : Model} {A : Around} {R : Result → Shared → Prop} {E : Value → Shared → Prop} {hp : Heap} {g : Array GenState} {d : Drawn} {t : Nat} {os : OsState}
variable {nm q : Str} {C N : Addr} {bs bm : List Value} {hdct : Bool} {sn : List Str} {sub : List Value} {ab : Bool} {col : Option Bool} {dd : Option Addr} {k0 k1 k2 k3 k5 : Option Value} {kw : List (Str × Value)}
abbrev ClsAt (hp : Heap) (nm q : Str) (C N : Addr) (bs bm : List Value) (hdct : Bool) (sn : List Str) (sub : List Value) (ab : Bool) (col : Option Bool) (dd : Option Addr) (k0 k1 k2 k3 k5 : Option Value) : Prop :=
  hp.get? C = some (excClassObj nm q C N bs bm hdct sn sub ab col dd k0 k1 k2 k3 k5 "Exception.__new__")
theorem kw_check (hT : ∀ X : String, bm.contains (.type X) = excBm.contains (.type X)) {Q : Unit → Shared → Prop} (hC : ClsAt hp nm q C N bs bm hdct sn sub ab col dd k0 k1 k2 k3 k5) (hq : Q () ⟨hp, g, d, t, os⟩) :
    wpAny M A (checkBuiltinCall "Exception.__new__" ⟨[.ref C], kw⟩) Q E ⟨hp, g, d, t, os⟩ := by
  have FB := F.excBase_Exception
  have has : (Value.ref C :: bm).contains (.type "Exception") = true := by
    rw [List.contains_cons, hT, FB.hasB, Bool.or_true]
  have hs := FB.noStar
  simp only [checkBuiltinCall, FB.newKind, FB.newSplit, FB.newRow]
  repeat' first
    | refine wpAny_loadPart_at hC ?_
    | (refine wpAny_isSubtype_exc hC ?_
       rw [has])
    | refine wpAny_staticBase_exc hC ?_
    | refine wpAny_madeBy_exc hC ?_
    | simp only [bne_self_eq_false, Bool.false_eq_true, if_false]
    | wp_step
  all_goals first | exact hq | skip
abbrev kwH (hp : Heap) (C : Addr) : Heap := (hp.push (kdv_tup [])).push (HandSPX.excO C hp.objs.size)
theorem kw_new (hT : ∀ X : String, bm.contains (.type X) = excBm.contains (.type X)) (hC : ClsAt hp nm q C N bs bm hdct sn sub ab col dd k0 k1 k2 k3 k5)
    (hq : R (.ok (.ret (.ref (hp.objs.size + 1)))) ⟨kwH hp C, g, d, t, os⟩) : codeAny (model prog w) A (.builtin "Exception.__new__" ⟨[.ref C], kw⟩) R ⟨hp, g, d, t, os⟩ := by
  have FB := F.excBase_Exception
  have en := FB.ends
  have b1 : (Value.ref C :: bm).contains (.type "Exception") = true := by rw [List.contains_cons, hT, FB.hasB, Bool.or_true]
  have b2 : (Value.ref C :: bm).contains (.type "AttributeError") = false := by
    rw [List.contains_cons, hT, FB.noAttr]
    rfl
  have b3 : (Value.ref C :: bm).contains (.type "NameError") = false := by
    rw [List.contains_cons, hT, FB.noName]
    rfl
  refine codeAny_builtinAt FB.entry ?_
  unfold Builtin.«BaseException.__new__»
  refine PySem.wpAt_bind ?_
  show PySem.wpAt _ _ _ (stack >>= _) _ _ _
  refine PySem.wpAt_bind (PySem.wpAt_stack fun p below => PySem.wpAt_of_wpAny ?_)
  wp_walk
  refine PySem.wpAt_of_wpAny ?_
  rw [FB.owner]
  repeat (first | with_reducible refine wpAny_madeHere_exc FB.canon hC ?_ | with_reducible refine wpAny_loadPart_at hC ?_ | (with_reducible refine wpAny_isSubtype_exc hC ?_; first | rw [b1] | rw [b2] | rw [b3]) | wp_step)
  all_goals first | (show R _ _; rw [Heap.size_push]; exact hq) | skip
theorem kw_type (hT : ∀ X : String, bm.contains (.type X) = excBm.contains (.type X)) {fI : Addr} {Q : Fin → Shared → Prop} (hC : ClsAt hp nm q C N bs bm hdct sn sub ab col dd k0 k1 k2 k3 k5)
    (hi : Looks (model prog w) hp (typeLookup (.ref C) "__init__") (some (.ref fI))) (hb : ∀ self, Looks (model prog w) hp (bindSpecial (.ref fI) self) (.ref fI, [self]))
    (hq : codeAny (model prog w) A (.call (.ref fI) ⟨[.ref (hp.objs.size + 1)], kw⟩)
      (fun r s' => match r with | .ok (.ret v) => v = .none ∧ Q (.done (.ret (.ref (hp.objs.size + 1)))) s' | .ok _ => False | .error e => E e s') ⟨kwH hp C, g, d, t, os⟩) :
    wpAny (model prog w) A (Builtin.«type.__call__» ⟨[.ref C], kw⟩) Q E ⟨hp, g, d, t, os⟩ := by
  repeat (first | with_reducible refine wpAny_madeBy_exc hC ?_ | with_reducible refine wpAny_loadPart_at hC ?_ | wp_step)
  refine codeAny_call_builtin_code (Code.quiet_builtin _ F.excBase_Exception.quiet) (kw_check hT hC ?_)
  refine kw_new hT hC ?_
  show wpAny _ _ _ _ _ _
  have k : ∀ b o, hp.get? b = some o → (kwH hp C).get? b = some o := fun b o e => Heap.get?_push_of_some _ (Heap.get?_push_of_some _ e)
  have hget : (kwH hp C).get? (hp.objs.size + 1) = some (HandSPX.excO C hp.objs.size) := by heap_get
  have own : (Value.ref C :: bm).contains (.ref C) = true := by simp
  have b1 := (hb (.ref (hp.objs.size + 1))).keeps k
  unfold isInstance
  repeat (first | with_reducible refine wpAny_loadPart_at hget ?_ | (with_reducible refine wpAny_isSubtype_exc (k _ _ hC) ?_; rw [own]) | wp_step)
  refine (hi.keeps k).at (wpAny_holding (wpAny_bind (b1.at (wpAny_bind (wpAny_call (codeAny_mono hq fun r s' z => ?_))))))
  rcases r with er | (u | _ | _ | _) <;> first | exact z | exact z.elim | skip
  obtain ⟨rfl, z⟩ := z
  first | exact wpAny_pure (wpAny_pure z) | (wp_walk; exact z)
theorem kw_chk {Q : Unit → Shared → Prop} (hC : ClsAt hp nm q C N bs bm hdct sn sub ab col dd k0 k1 k2 k3 k5) (hq : Q () ⟨hp, g, d, t, os⟩) : wpAny M A (checkBuiltinCall "type.__call__" ⟨[.ref C], kw⟩) Q E ⟨hp, g, d, t, os⟩ := by
  have sb := tc_sub
  have ty : (⟨hp, g, d, t, os⟩ : Shared).TypeIs (.ref C) "type" := ⟨_, hC, rfl⟩
  unfold checkBuiltinCall
  simp only [tc_split, tc_kind]
  repeat' (first | exact hq | assumption | with_reducible refine wpAny_loadPart_at hC ?_ | with_reducible refine wpAny_onRaise ?_ | with_reducible refine wpAny_map ?_ | wp_step)
theorem kw_call (hT : ∀ X : String, bm.contains (.type X) = excBm.contains (.type X)) {fI : Addr} (hC : ClsAt hp nm q C N bs bm hdct sn sub ab col dd k0 k1 k2 k3 k5)
    (hi : Looks (model prog w) hp (typeLookup (.ref C) "__init__") (some (.ref fI))) (hb : ∀ self, Looks (model prog w) hp (bindSpecial (.ref fI) self) (.ref fI, [self]))
    (hq : codeAny (model prog w) (A.under (.builtin "type.__call__" ⟨[.ref C], kw⟩)) (.call (.ref fI) ⟨[.ref (hp.objs.size + 1)], kw⟩) (InitBack (hp.objs.size + 1) R) ⟨kwH hp C, g, d, t, os⟩) :
    codeAny (model prog w) A (.call (.ref C) ⟨[], kw⟩) R ⟨hp, g, d, t, os⟩ := by
  have l1 := tc_lookup
  have l2 := tc_bind (.ref C)
  have ty : (⟨hp, g, d, t, os⟩ : Shared).TypeIs (.ref C) "type" := ⟨_, hC, rfl⟩
  refine codeAny_of_tree (show wpAny _ _ (callAny (.ref C) _) _ _ _ from ?_)
  repeat any_goals (first | with_reducible refine wpAny_loadPart_at hC ?_ | assumption | wp_step)
  refine ⟨rfl, codeAny_call_builtin_at (Code.quiet_builtin _ (by decide +kernel)) entry_typeCall (kw_chk hC (kw_type hT hC hi hb (codeAny_mono hq fun r s' z => ?_)))⟩
  rcases r with er | (u | _ | _ | _) <;> exact z
end
section
variable {prog : Program} {w : World} {A : Around} {R : Result → Shared → Prop} {hp : Heap} {g : Array GenState} {d : Drawn} {t : Nat} {os : OsState} {K : Frag} {mg mb : Str → Option Value} {C fI : Addr} {x a : Str}
/-- how __init__ binds its field by keyword -/
def KwOk (a : Str) : Prop := ∀ (u v : Value) (qual : Str) (a1 a2 : Pos) (b : List Stmt) (cl : List (Str × Addr)) (kV doc pm : Value) (an : Option Addr) (cd ct : Value), bindArgs (fnX "__init__" qual (eA1 a a1 a2) b (eS1 a) cl .none kV doc pm an cd ct) ⟨[u], [(a, v)]⟩ = pure [(("self" : Str), u), (a, v)]
theorem kw_at : KwOk "at" := fun _ _ _ _ _ _ _ _ _ _ _ _ _ => rfl
theorem kw_word : KwOk "word" := fun _ _ _ _ _ _ _ _ _ _ _ _ _ => rfl
theorem err_madeK {v : Value} (T : Er1 K mg prog x a C fI) (kk : KwOk a) (X : K.In hp) (hlim : hp.NoLimit) (hg : hp.Ns mainGlobals mg) (hb : hp.Ns builtinsNs mb) (hmb : mb "super" = some (.type "super")) (hroom : A.depth + 1 < recursionLimit)
    (hq : ∀ h' tk e d1, Mk1 hp h' e C d1 a v → R (.ok (.ret (.ref e))) ⟨h', g, d, tk, os⟩) : codeAny (model prog w) A (.call (.ref C) ⟨[], [(a, v)]⟩) R ⟨hp, g, d, t, os⟩ := by
  obtain ⟨nm, N, qn, bs, bm, hdct, sn, sub, ab, col, dd, k0, k1, k2, k3, k5, hC, hT⟩ := excInit_of X T.cls
  exact kw_call hT hC (looks_findIn X T.ini) (fun self => bind_fn X self T.tI) (err_init1 T X hlim hg hb hmb hroom (fun _ _ _ _ _ _ _ _ _ _ _ => kk _ _ _ _ _ _ _ _ _ _ _ _ _) hq)
end
section
variable {X : Cx} {W : WX} {e : Expr} {x a : Str} {C fI : Addr} {k : Nat} {p p2 pos pos2 : Pos} {ma : ME D}
/-- C(a=e).a -/
theorem se_exAt (T : Er1 X.K X.mg X.prog x a C fI) (kk : KwOk a) (hr : Room k X.A) (hg : Gl X x) (he : SE X W e ma) (hdb : (x == ("__debug__" : Str)) = false := by decide)
    (hb : attributeBase (.Call (.Name x p) [] [⟨some a, e, p2⟩] pos) a X.env (eval (.Call (.Name x p) [] [⟨some a, e, p2⟩] pos) X.env) = eval (.Call (.Name x p) [] [⟨some a, e, p2⟩] pos) X.env := by rfl) :
    SE X W (.Attribute (.Call (.Name x p) [] [⟨some a, e, p2⟩] pos) a pos2) ma := by
  refine ⟨fun pins s σ H Q I h => attr_of hb (wpAny_Call_Name_kw (ld_glob I hg T.gC ?_ hdb))⟩
  refine PySem.W.callWith_KW0 I.kIn T.kp rfl (PyProof.Rows.kwAll_cons (thn (he.run pins s σ H _ I h) fun u s1 ⟨v, H1, I1, rv, q⟩ => PyProof.Rows.kwAll_nil ⟨I1.kIn, ?_⟩)) rfl
  obtain ⟨mb, b1, b2⟩ := I.mod.blt
  have hb := b1.keeps I1.bk
  have hg1 := I.mod.glob.keeps I1.bk
  have hl := I1.nolimit
  have hk := I1.kIn
  obtain ⟨hp, g, dr, tk, os⟩ := s1
  show wpAny _ _ (call (.ref C) [] [(a, u)]) _ _ _
  refine wpAny_call (err_madeK T kk hk hl hg1 hb ((b2 "super" (by decide)).trans super_boot) (by have := hr.dp; omega) fun h2 tk2 ex dx M => ?_)
  obtain ⟨t1, ho⟩ := M.obj
  obtain ⟨od, hod, hlk⟩ := lookIn_ns M.ns
  have J : Inv X pins σ H1 ⟨h2, g, dr, tk2, os⟩ := I1.kept (t' := tk2) M.keep
  have A : PySem.W.InstAt h2 ex { cls := .ref C, dict := some dx, data := .fields #[.ref t1, .none, .none, .none, .bool false, .none] } C (some od) := ⟨ho, rfl, rfl, hod⟩
  refine HandSPX.exc_get J.kIn A T.ga T.gg T.bse (PySem.W.findObj_own (v := u) T.dct T.noN rfl ?_) (handed_of rv) ⟨v, H1, J.tok _, rv, q⟩
  rw [hlk a, if_pos rfl]
end
end Fs

/-! L1: a lambda handed to a def that calls it. -/
namespace Fs
open L2 PyProof.Rows PySem.Spec PySem
variable [LT]
section
variable {X : Cx} {pins : List (Addr × Obj)} {σ : L2.St} {H : Hp} {s : Shared}
/-- the function object of a lambda of X -/
abbrev lamO (X : Cx) (params : Arguments) (body : Expr) (scope : Scope) (pm : Value) (c : Addr) (ct : Value) : Obj := PySem.W.kla_obj "<lambda>" (X.env.qual ++ "<lambda>") params body scope (cloFrom X.env.cells scope.names []) pm c ct
/-- a lambda is made: the maker's table may grow, all else stands on -/
theorem lam_make3 {T : List (Addr × Str)} {c P : Addr} {params : Arguments} {body : Expr} {scope : Scope} {pos : Pos} {E : Value → Shared → Prop} {Q : Value → Shared → Prop} (I : Inv X pins σ H s) (tb : LamX.TabB X.base X.mg c P) (hcode : X.env.code = .ref c) (inT : (P, X.env.qual ++ "<lambda>") ∈ T)
    (one : ∀ p ∈ T, p.1 = P → p.2 = X.env.qual ++ "<lambda>") (hT : LamX.Tabs T H) (nodef : defaultsOf params X.env = ([], [])) (caps : ∀ y ∈ scope.names, y.2 = .free → ∃ c, X.env.cells.lookup y.1 = some c)
    (done : ∀ (f k : Addr) (pm ct : Value) (H1 : Hp) (s1 : Shared), Inv X pins σ H1 s1 → Keep nobody H H1 → LamX.Tabs T H1 → s1.heap.get? f = some (lamO X params body scope pm k ct) → H1 f = none → f ∉ frs X.stack → H1 k = some (LamX.CodeO k (X.env.qual ++ "<lambda>")) → Q (.ref f) s1) :
    wpAny (model X.prog X.w) X.A (eval (.Lambda params body scope pos) X.env) Q E s := by
  obtain ⟨ps, hP, tr, told⟩ := hT _ inT
  have atP : s.heap.get? P = some { cls := .none, data := .fields ps } := I.hok P _ hP
  have noFrame : ∀ f, s.heap.objs.size ≤ f → f ∉ frs X.stack := fun f hf z => by
    rcases List.mem_cons.mp (I.stkSub _ z) with q | q
    · have l := I.lt
      rw [← q] at l
      exact absurd l (Nat.not_lt.mpr hf)
    · exact I.nofs hf q
  refine PySem.W.kla_eval nodef ?_
  have bi : s.heap.BuiltinsAt X.mg P := tb.bm.keeps I.bk
  cases found : codeAmong pos ps.toList with
  | some cv =>
    obtain ⟨k, rfl, hk⟩ := told pos cv found
    refine PySem.W.kla_makeFunctionHit (mg := X.mg) (c := c) (P := P) (ps := ps) (closure_ok caps) I.ok.glob (I.mod.glob.keeps I.bk) hcode (tb.code.keeps I.bk) atP tr found bi fun ct h2 tk old big => ?_
    exact done h2.objs.size k _ ct H _ (I.kept (t' := tk) fun b o e => Heap.get?_push_of_some _ (old b o e)) (Keep.refl _ _) hT (Heap.get?_push_size _ rfl) (I.hok.fresh big) (noFrame _ big) hk
  | none =>
    refine PySem.W.kla_makeFunction (mg := X.mg) (c := c) (P := P) (ps := ps) (closure_ok caps) I.ok.glob (I.mod.glob.keeps I.bk) hcode (tb.code.keeps I.bk) atP tr found tb.gP bi fun k ct h2 tk old big lt rec_ grown => ?_
    obtain ⟨k2, oc, vs, t, ek, hoc, hd, hv⟩ := rec_
    cases ek
    have fk : H k = none := I.hok.fresh big
    have nPk : P ≠ k := ne_of_none hP fk
    have sz : s.heap.objs.size ≤ h2.objs.size := Nat.le_trans big (Nat.le_of_lt lt)
    have J := LamX.inv_table (t' := tk) (more := #[rawInt pos.line, rawInt pos.col, .ref k]) (q := X.env.qual ++ "<lambda>") I hP (h' := h2.push (lamO X params body scope ((X.mg "__name__").getD .none) k ct)) (fun b o hb e => Heap.get?_push_of_some _ (old b o hb e))
      (Heap.get?_push_of_some _ grown) big ⟨oc, vs, t, Heap.get?_push_of_some _ hoc, hd, hv⟩
    have kp : ∀ b o, H b = some o → (∀ q, o ≠ .tbl q) → upd (upd H P (.tbl (ps ++ #[rawInt pos.line, rawInt pos.col, .ref k]))) k (LamX.CodeO k (X.env.qual ++ "<lambda>")) b = some o := fun b o e n => by
      rw [upd_ne (ne_of_none e fk), upd_ne (fun z => n ps (Option.some.inj (e.symm.trans (by rw [z]; exact hP))))]
      exact e
    have K : Keep nobody H (upd (upd H P (.tbl (ps ++ #[rawInt pos.line, rawInt pos.col, .ref k]))) k (LamX.CodeO k (X.env.qual ++ "<lambda>"))) := fun b o e _ => by
      by_cases hb : b = P
      · rw [hb, hP] at e
        cases e
        exact ⟨_, by rw [hb, upd_ne nPk, upd_same]⟩
      · rw [upd_ne (ne_of_none e fk), upd_ne hb, e]
        exact .self
    refine done h2.objs.size k _ ct _ _ J K (fun p hp => ?_) (Heap.get?_push_size _ rfl) ?_ (noFrame _ sz) upd_same
    · have el : (ps ++ #[rawInt pos.line, rawInt pos.col, .ref k]).toList = ps.toList ++ [rawInt pos.line, rawInt pos.col, .ref k] := by simp
      by_cases hb : p.1 = P
      · rw [one p hp hb, hb]
        refine ⟨_, by rw [upd_ne nPk, upd_same], by rw [el]; exact PySem.TriplesOk_snoc _ _ _ _ tr, fun p2 cv hc => ?_⟩
        rw [el] at hc
        rcases LamX.among_app _ tr hc with z | z
        · obtain ⟨c0, e1, e2⟩ := told p2 cv z
          exact ⟨c0, e1, kp _ _ e2 LamX.codeO_ne⟩
        · exact ⟨k, z, upd_same⟩
      · obtain ⟨qs, a1, a2, a3⟩ := hT p hp
        refine ⟨qs, by rw [upd_ne (ne_of_none a1 fk), upd_ne hb]; exact a1, a2, fun p2 cv hc => ?_⟩
        obtain ⟨c0, e1, e2⟩ := a3 p2 cv hc
        exact ⟨c0, e1, kp _ _ e2 LamX.codeO_ne⟩
    · rw [upd_ne (Nat.ne_of_gt lt), upd_ne (Nat.ne_of_gt (Nat.lt_of_lt_of_le (Heap.lt_size atP) sz))]
      exact I.hok.fresh sz
/-- the context of the def that got the lambda f, within its try -/
abbrev actCx (X : Cx) (Ng : List Str) (qg : Str) (sg : Scope) (gf : Addr) (cdg : Value) (s : Shared) (H : Hp) (pn : List (Addr × Obj)) (xe : Value → Shared → Prop) : Cx := (cxOf C8.CX0 X.prog X.w X.K X.mg X.base Ng qg sg gf cdg X.A X.stack s H C8.E0).tr pn xe
/-- a() there: the lambda's body runs in its maker's names -/
theorem pe_act2 {Ng : List Str} {qg a : Str} {sg scope : Scope} {gf f c : Addr} {cdg pm ct : Value} {params : Arguments} {body : Expr} {k i : Nat} {pn : List (Addr × Obj)} {xe : Value → Shared → Prop} {W : WX} {tb : XK → TE} {p1 p2 : Pos} (I : Inv X pins σ H s) (L : LamX.LamS X.env.scope scope)
    (of_ : s.heap.get? f = some (lamO X params body scope pm c ct)) (nf : H f = none) (nfr : f ∉ frs X.stack) (nobind : bindArgs (PySem.W.kla_fn "<lambda>" (X.env.qual ++ "<lambda>") params body scope (cloFrom X.env.cells scope.names []) pm (.ref c) ct) ⟨[], []⟩ = pure [])
    (tk : Takes (actCx X Ng qg sg gf cdg s H pn xe) W) (room : Room (k + 1) (X.A.deeper (envOfC qg sg s.heap.objs.size gf cdg)))
    (runs : ∀ (A : Around) (outer : List Env) (s : Shared) (H : Hp) (E : XK), Room k (A.deeper (LamX.lamEnv X scope s.heap.objs.size f c)) → PE (LamX.lamCx X A outer s H E scope f c) body (tb E))
    (hN : Ng[i]? = some a) (hv : Vis sg a) (hd : (a == ("__debug__" : Str)) = false := by decide) (hcd : (a == ("__classdict__" : Str)) = false := by decide) :
    PE (actCx X Ng qg sg gf cdg s H pn xe) (.Call (.Name a p1) [] [] p2) (fun σZ HZ Q => σZ[i]? = some (some (.ref f)) ∧ HZ c = some (LamX.CodeO c (X.env.qual ++ "<lambda>")) ∧ tb (WE W σZ) σ HZ Q) := by
  refine ⟨fun pinsZ sZ σZ HZ Q IZ ⟨hs, hc, ht⟩ => wpAny_Call_Name_kw (thn ((pe_var (pos := p1) (i := i) hN hv hd hcd).run pinsZ sZ σZ HZ (fun v H1 => v = .ref f ∧ H1 = HZ) IZ ⟨.ref f, hs, rfl, rfl⟩) fun u s1 ⟨v, H1, I1, r1, ev, eH⟩ => ?_)⟩
  subst ev eH
  obtain rfl : u = Value.ref f := r1
  have of1 : s1.heap.get? f = some (lamO X params body scope pm c ct) := I1.base.keep f _ of_ nf nfr (by intro z; cases z)
  refine PySem.W.callWith_F0 ⟨_, _, _, _, of1⟩ ?_
  obtain ⟨⟨oc, vs, t, hoc, hdc, hvc⟩, _, _⟩ := I1.hok c _ hc
  have goes : codeAny (model X.prog X.w) (X.A.deeper (envOfC qg sg s.heap.objs.size gf cdg)) (.call (.ref f) ⟨[], []⟩) (CR (L2.CX X.prog X.w) (envOfC qg sg s.heap.objs.size gf cdg :: X.stack) X.prog X.w H1 s1 Q (WE W σZ)) s1 := by
    refine PySem.W.kla_callFunE room.depth of1 rfl L.co L.gen rfl ⟨c, oc, vs, t, rfl, hoc, hdc, hvc⟩ ?_
    rw [nobind]
    refine wpAny_pure (wpAny_newFunctionEnv (fun y hy => (L.own y hy).2) (fun y hy => absurd hy (by simp)) (fun h1 ns sb => ⟨I1.nolimit.fresh _ sb, ?_⟩) L.kind)
    show codeAny _ _ (.expr body (LamX.lamEnv X scope s1.heap.objs.size f c)) _ _
    have J : Inv (LamX.lamCx X (X.A.deeper (envOfC qg sg s.heap.objs.size gf cdg)) (envOfC qg sg s.heap.objs.size gf cdg :: X.stack) s1 H1 (WE W σZ) scope f c) [] σ H1 { s1 with heap := h1, toks := s1.toks + ([] : List (Str × Value)).length } :=
      LamX.lam_start2 I L I1.env0 room.hd I1.base ns fun b o e => sb.extBut b o (Nat.ne_of_lt (Heap.lt_size e)) (Heap.get?_push_of_some _ e)
    exact PySem.W.kla_codeExpr (wpAny_mono ((runs _ _ s1 H1 (WE W σZ) (room.deeper _)).run [] _ _ H1 Q J ht) (fun v s2 ⟨w2, H2, J2, rv, q⟩ => ⟨w2, H2, J2.os, J2.bare, J2.base, J2.hok, rv, q⟩) fun e s2 z => z)
  refine wpAny_call (codeAny_mono goes fun r s2 z => ?_)
  cases r with
  | error e => exact passAt tk σZ pinsZ H1 s1 e s2 I1 z
  | ok fl =>
    cases fl with
    | ret u => exact I1.after z
    | next => exact z.elim
    | brk => exact z.elim
    | cont => exact z.elim
end
end Fs

/-! L2x: judgements at a fixed ground; the call f(lambda: ..). -/
namespace Fs
open L2 PyProof.Rows PySem.Spec PySem
variable [LT]
def tRg (g : Gh) {τ υ : Type} (Z : Zx) (L : Rl τ υ) (W : WX) (m : ME τ) : L2.St → Hp → (υ → Hp → Prop) → Prop := fun σ H Q => ∃ ρ b α β, RE Z.K g H ρ b σ α β ∧ PostR Z L W (OW g ρ α β) g β σ H Q (m ρ b)
def tSg (g : Gh) (Z : Zx) (W : WX) (m : MS) : TS := fun D σ H => ∃ ρ b α β, RE Z.K g H ρ b σ α β ∧ PostS Z W g D (m ρ b)
def SEg (g : Gh) (X : Cx) (W : WX) (e : Expr) (m : ME D) : Prop := PE X e (tRg g (Cx.z X) (lD X.K) W m)
def SSg (g : Gh) (X : Cx) (W : WX) (st : Stmt) (m : MS) : Prop := PS X st (tSg g (Cx.z X) W m)
def SBg (g : Gh) (X : Cx) (W : WX) (sts : List Stmt) (m : MS) : Prop := PSs X sts (tSg g (Cx.z X) W m)
section
variable {X : Cx} {W : WX} {g : Gh} {st : Stmt} {rest sts : List Stmt} {e : Expr} {ma : ME D} {m n : MS} {l : List (Value × Ts3)} {hs : List HdM} {pos p : Pos}
theorem SB.fixed (h : SB X W sts m) : SBg g X W sts m := PSs.imp h fun D σ H ⟨ρ, b, α, β, r, q⟩ => ⟨g, ρ, b, α, β, r, q⟩
theorem sbg_cons (h1 : SS X W st m) (h2 : SBg g X W rest n) : SBg g X W (st :: rest) (seqM m n) := PSs.imp (pss_cons h1 h2) fun D σ H ⟨ρ, b, α, β, r, q⟩ => by
  refine ⟨g, ρ, b, α, β, r, ?_⟩
  unfold seqM at q
  cases e : m ρ b with
  | nx ρ' b' => rw [e] at q; exact fun σ H α β r => ⟨ρ', b', α, β, r, q⟩
  | rt _ _ => rw [e] at q; exact q
  | bk _ _ => rw [e] at q; exact q
  | ct _ _ => rw [e] at q; exact q
  | ex _ _ _ => rw [e] at q; exact q
  | bad => rw [e] at q; exact q
theorem sbg_consg (h1 : SSg g X W st m) (h2 : SBg g X W rest n) : SBg g X W (st :: rest) (seqM m n) := PSs.imp (pss_cons h1 h2) fun D σ H ⟨ρ, b, α, β, r, q⟩ => by
  refine ⟨ρ, b, α, β, r, ?_⟩
  unfold seqM at q
  cases e : m ρ b with
  | nx ρ' b' => rw [e] at q; exact fun σ H α β r => ⟨ρ', b', α, β, r, q⟩
  | rt _ _ => rw [e] at q; exact q
  | bk _ _ => rw [e] at q; exact q
  | ct _ _ => rw [e] at q; exact q
  | ex _ _ _ => rw [e] at q; exact q
  | bad => rw [e] at q; exact q
theorem sbg_one (h : SSg g X W st m) : SBg g X W [st] m := pss_one h
theorem exprg_read {τ υ : Type} {L : Rl τ υ} {me : ME τ} {k : τ → MS} {D : Ends} {σ : L2.St} {H : Hp} {Q : υ → Hp → Prop} (h : tSg g (Cx.z X) W (exprM me k) D σ H)
    (q : ∀ ρ b α β a x H1, RE X.K g H1 ρ b σ α β → L (OW g ρ α β) (Bs β) H1 a x → PostS (Cx.z X) W g D (k a ρ b) → Q x H1) : tRg g (Cx.z X) L W me σ H Q := by
  obtain ⟨ρ, b, α, β, r, p⟩ := h
  refine ⟨ρ, b, α, β, r, ?_⟩
  unfold exprM at p
  cases e : me ρ b with
  | ok a b' => rw [e] at p; exact fun x H1 l kk qq => q ρ b' α β a x H1 (r.step kk qq) l p
  | ex x b' => rw [e] at p; exact fun cls dd H1 l kk qq => p cls dd σ H1 α β (r.step kk qq) l
  | bad => rw [e] at p; exact p.elim
theorem ssg_expr (h : SEg g X W e ma) (hs : swapsWith e none pos.line X.env = pure false := by rfl) : SSg g X W (.Expr e pos) (dropM ma) :=
  PS.imp (ps_expr h hs) fun D σ H h => exprg_read h fun ρ b α β a x H1 r l p => p σ H1 α β r
/-- return (c, e), e at the fixed ground -/
def pairM (c : PyData) (ma : ME D) : MS := exprM ma fun d _ b => .rt (.tuple [c, d]) b
theorem ssg_pair {ce : Expr} {c : PyData} {kk} {p1 : Pos} (hc : SE X W ce (cM c)) (h : SEg g X W e ma) (h1 : starEach [ce, e] X.env = (false, eval ce X.env) :: starEach [e] X.env := by rfl) (h2 : starEach [e] X.env = (false, eval e X.env) :: starEach [] X.env := by rfl) :
    SSg g X W (.Return (some (.Tuple [ce, e] kk p1)) pos) (pairM c ma) :=
  PS.imp (ps_ret (pe_tup (pa_cons hc (pa_cons h pa_nil h2) h1))) fun D σ H ⟨ρ, b, α, β, r, q⟩ => by
    refine ⟨g, ρ, b, α, β, r, fun y H1 ly k1 q1 => ?_⟩
    have r1 := r.step k1 q1
    have q' : PostS (Cx.z X) W g D (pairM c ma ρ b) := q
    unfold pairM exprM at q'
    refine ⟨ρ, b, α, β, r1, ?_⟩
    cases em : ma ρ b with
    | ok d b2 =>
      rw [em] at q'
      intro x H2 lx k2 q2
      refine ⟨by rw [sizeLine_eq]; exact (by decide : (2 : Nat) ≤ 16777216), fun pn hn => ?_⟩
      have k3 : KeepS H2 (upd H2 pn (.tup [y, x])) := KeepS.upd hn
      have r2 := r1.step k2 q2
      have r3 := r2.step k3.of0 (q2.keep0 k3)
      exact q' _ _ (r3.ret ((RD.newT r2.gd hn (.cons (pers_D _ _ _ _ _ _ r1.gd.sub k2 ly) (.cons lx .nil))).own fun a _ _ z => by
        rcases z with z | z
        · exact .inl z
        · exact .inr (.inl (r3.foB z))))
    | ex x b2 => rw [em] at q'; exact fun cls dd H2 l k q => q' cls dd σ H2 α β (r1.step k q) l
    | bad => rw [em] at q'; exact q'
theorem ssg_try {body : List Stmt} {h₀ : ExceptHandler} {hds : List ExceptHandler} (hst : X.stack = X.env :: X.outer) (hf : X.env.frame = some X.env.locals) (tk : Takes X W)
    (hb : ∀ (W' : WX) (pn : List (Addr × Obj)) (xe : Value → Shared → Prop), Takes (X.tr pn xe) W' → SBg g (X.tr pn xe) W' body m) (hh : Hs X (h₀ :: hds) l) (hm : HMs X l hs) : SSg g X W (.Try body (h₀ :: hds) [] [] pos) (tryM m hs) :=
  PS.imp (ps_try_all (tb := fun W' => tSg g (Cx.z X) W' m) hst hf tk (fun W' pn xe t _ => hb W' pn xe t) hh) fun D σ H ⟨ρ, b, α, β, r, h⟩ => by
    refine ⟨ρ, b, α, β, r, ?_⟩
    unfold tryM at h
    cases e : m ρ b with
    | ex x ρ' b' =>
      rw [e] at h
      exact fun cls dd σ' H' α' β' r' x' => many_ok hm r' x' h
    | nx _ _ => rw [e] at h; exact h
    | rt _ _ => rw [e] at h; exact h
    | bk _ _ => rw [e] at h; exact h
    | ct _ _ => rw [e] at h; exact h
    | bad => rw [e] at h; exact h
end
end Fs

/-! L3: f(lambda: ..). -/
namespace Fs
open L2 PyProof.Rows PySem.Spec PySem
variable [LT]
/-- another's box, told as one's own kind -/
def bxOf (b b2 : Bx) : Bx := match bxGet b2 with
  | some t => bxPut b t
  | none => b
def asFo (b : Bx) : Bx := match bxGet b with
  | some t => .fo t.1 t.2.1 t.2.2
  | none => .no
def okB : Bx → Bx → Bool
  | .no, .no => true
  | .fo _ _ _, .fo _ _ _ => true
  | .ow _ _ _, .fo _ _ _ => true
  | _, _ => false
def quietE (ρ : En) : Bool := ρ.all fun s => match s with
  | .own _ => false
  | _ => true
theorem quietE_at {ρ : En} (h : quietE ρ = true) {i : Nat} {xs : List D} : ρ[i]? ≠ some (.own xs) := fun e => by
  have := List.all_eq_true.mp h _ (List.mem_of_getElem? e)
  cases this
/-- what a() does in the def that got it: the maker's names ρ, the maker's box b -/
def actM (mb : ME D) (ρ : En) (b : Bx) : ME D := fun ρ2 b2 => match ρ2[0]? with
  | some (Sl.fn 0) => if quietE ρ2 = true ∧ okB b b2 = true then (match mb ρ (bxOf b b2) with
    | .ok d b3 => .ok d (bxOf b2 b3)
    | .ex e b3 => .ex e (bxOf b2 b3)
    | .bad => .bad) else .bad
  | _ => .bad
def lamM (n : Nat) (k : ME D → MS) (mb : ME D) : ME D := fun ρ b => match k (actM mb ρ b) (Sl.fn 0 :: List.replicate (n - 1) Sl.no) (asFo b) with
  | .rt d b2 => if okB b b2 = true then .ok d (bxOf b b2) else .bad
  | .nx _ b2 => if okB b b2 = true then .ok .none (bxOf b b2) else .bad
  | _ => .bad
/-- the ground of the def that gets the lambda at f -/
def gF (g : Gh) (ρ : En) (α : Nat → Addr) (β : Option Addr) (K : PySem.W.Frag) (H : Hp) (f : Addr) : Gh := ⟨H, fun a => OW g ρ α β a ∧ β ≠ some a, β, fun _ => 0, LT.tabs K, fun _ => f⟩
section
variable {K : PySem.W.Frag} {g : Gh} {H HZ : Hp} {ρ ρ2 : En} {b b2 b3 : Bx} {σ σ2 : L2.St} {α α2 : Nat → Addr} {β β2 : Option Addr} {f : Addr}
theorem RE.startF (r : RE K g H ρ b σ α β) {N : List Str} (hN : 0 < N.length) : RE K (gF g ρ α β K H f) H (.fn 0 :: List.replicate (N.length - 1) .no) (asFo b) (L2.start N [.ref f]) (fun _ => 0) β := by
  have at_ : ∀ (i : Nat) (s : Sl), (.fn 0 :: List.replicate (N.length - 1) .no : En)[i]? = some s → (i = 0 ∧ s = .fn 0) ∨ s = .no := fun i s e => by
    cases i with
    | zero => exact .inl ⟨rfl, (Option.some.inj e).symm⟩
    | succ j =>
      rw [List.getElem?_cons_succ, List.getElem?_replicate] at e
      split at e
      · exact .inr (Option.some.inj e).symm
      · cases e
  refine ⟨?_, Keep.refl _ _, fun a h => r.ownL a h.1, fun a h => ⟨fun z => z.2 h, ?_⟩, fun i d e => ?_, fun i xs e => ?_, fun i j xs ys e => ?_, fun i xs e => ?_, fun i e => ?_, ⟨?_, r.tab⟩, rfl, fun i j e => ?_⟩
  · unfold L2.start
    simp
    try omega
  · obtain ⟨t, _, h2⟩ := r.box.has h
    exact ⟨_, h2⟩
  · rcases at_ i _ e with ⟨_, z⟩ | z <;> cases z
  · rcases at_ i _ e with ⟨_, z⟩ | z <;> cases z
  · rcases at_ i _ e with ⟨_, z⟩ | z <;> cases z
  · rcases at_ i _ e with ⟨_, z⟩ | z <;> cases z
  · rcases at_ i _ e with ⟨_, z⟩ | z <;> cases z
  · unfold asFo
    cases hb : bxGet b with
    | none =>
      cases b with
      | no => exact ⟨r.box.1.1, r.box.1.1⟩
      | fo x y z => cases hb
      | ow x y z => cases hb
    | some t =>
      obtain ⟨a, h1, h2⟩ := r.box.at hb
      exact ⟨a, h1, h1, h2⟩
  · rcases at_ i _ e with ⟨rfl, z⟩ | z
    · cases z
      unfold L2.start
      rfl
    · cases z
/-- the same address bears the box -/
theorem same_box (r : RE K g H ρ b σ α β) (r2 : RE K (gF g ρ α β K H f) HZ ρ2 b2 σ2 α2 β2) (h : okB b b2 = true) : β2 = β := by
  cases b2 with
  | no =>
    have q := r2.box.1
    have z : β = none := q.2
    rw [q.1, z]
  | fo x y z =>
    obtain ⟨a, h1, h2, _⟩ := r2.box.1
    have h2 : β = some a := h2
    rw [h1, h2]
  | ow x y z => cases b <;> cases h
/-- the maker's state, at what the def has made of the heap -/
theorem RE.back (r : RE K g H ρ b σ α β) (r2 : RE K (gF g ρ α β K H f) HZ ρ2 b2 σ2 α2 β2) (h : okB b b2 = true) : RE K g HZ ρ (bxOf b b2) σ α β := by
  have hT : LamX.Tabs g.T HZ := by
    rw [r.tt]
    exact r2.tab
  refine r.step r2.evo ?_
  unfold bxOf
  cases b2 with
  | no =>
    refine ⟨?_, hT⟩
    cases b with
    | no => exact r.box.1
    | fo x y z => cases h
    | ow x y z => cases h
  | fo x y z =>
    obtain ⟨a, _, h2, h3⟩ := r2.box.1
    have h2 : β = some a := h2
    obtain ⟨t, ht, _⟩ := r.box.has h2
    exact r.box.put ht h2 h3 hT
  | ow x y z => cases b <;> cases h
theorem own_gF (q : quietE ρ2 = true) (e : β2 = β) : ∀ a, OW (gF g ρ α β K H f) ρ2 α2 β2 a → OW g ρ α β a := fun a h => by
  rcases h with h | h | ⟨i, xs, z, _⟩
  · exact h.1
  · exact .inr (.inl (by rw [← e]; exact h))
  · exact absurd z (quietE_at q)
/-- the maker's box, told back -/
theorem box_gF (r2 : RE K (gF g ρ α β K H f) HZ ρ2 b2 σ2 α2 β2) (h : okB b b2 = true) {H3 : Hp} (tt : g.T = LT.tabs K) (q : BxR g H3 b3 β) (e : β2 = β) : BxR (gF g ρ α β K H f) H3 (bxOf b2 b3) β2 := by
  have hT : LamX.Tabs (LT.tabs K) H3 := by
    have z := q.2
    rw [tt] at z
    exact z
  refine ⟨?_, hT⟩
  subst e
  unfold bxOf
  cases b2 with
  | no =>
    have z : β2 = none := r2.box.1.1
    cases hb : bxGet b3 with
    | none => exact ⟨z, z⟩
    | some t => obtain ⟨a, h1, _⟩ := q.at hb; rw [z] at h1; cases h1
  | fo x y z =>
    obtain ⟨a, h1, h2, _⟩ := r2.box.1
    obtain ⟨t, ht, h4⟩ := q.has h1
    rw [ht]
    exact ⟨a, h1, h2, h4⟩
  | ow x y z => cases b <;> cases h
end
section
variable {X : Cx} {W : WX} {Ng : List Str} {qg a : Str} {sg : Scope} {gf f c : Addr} {cdg : Value} {s : Shared} {H : Hp} {pn : List (Addr × Obj)} {xe : Value → Shared → Prop} {mb : ME D} {g : Gh} {ρ : En} {b : Bx} {α : Nat → Addr} {β : Option Addr} {σ : L2.St} {p1 p2 : Pos}
/-- a(), by total functions -/
theorem seg_act (r : RE X.K g H ρ b σ α β) (hc : H c = some (LamX.CodeO c (X.env.qual ++ "<lambda>")))
    (h : PE (actCx X Ng qg sg gf cdg s H pn xe) (.Call (.Name a p1) [] [] p2) (fun σZ HZ Q => σZ[0]? = some (some (.ref f)) ∧ HZ c = some (LamX.CodeO c (X.env.qual ++ "<lambda>")) ∧ tR (Cx.z X) (lD X.K) (fun cls d _ H => WE W σZ cls d H) mb σ HZ Q)) :
    SEg (gF g ρ α β X.K H f) (actCx X Ng qg sg gf cdg s H pn xe) W (.Call (.Name a p1) [] [] p2) (actM mb ρ b) := PE.imp h fun σZ HZ Q ⟨ρ2, b2, α2, β2, r2, q⟩ => by
  unfold actM at q
  split at q
  · rename_i e0
    split at q
    · rename_i hh
      obtain ⟨hq, hk⟩ := hh
      have eb := same_box r r2 hk
      refine ⟨r2.fns 0 0 e0, (r2.evo c _ hc fun z => ?_).at LamX.codeO_ne, g, ρ, bxOf b b2, α, β, r.back r2 hk, ?_⟩
      · obtain ⟨xs, w⟩ := r.ownL c (.inr (.inl z))
        unfold LamX.CodeO at hc
        rcases w with w | ⟨o, w⟩ <;> (rw [hc] at w; cases w)
      · cases em : mb ρ (bxOf b b2) with
        | ok d b3 =>
          rw [em] at q
          exact fun x H3 l k q3 => q x H3 (l.own fun y _ _ z => own_gF hq eb y z) (by rw [eb]; exact k) (box_gF r2 hk r.tt q3 eb)
        | ex e b3 =>
          rw [em] at q
          refine fun cls dd H3 ⟨C, h1, h2, h3⟩ k q3 => q cls dd H3 ⟨C, h1, h2, ?_⟩ (by rw [eb]; exact k) (box_gF r2 hk r.tt q3 eb)
          cases ea : e.arg with
          | none => rw [ea] at h3; exact h3
          | some d =>
            rw [ea] at h3
            obtain ⟨p, v, e1, e2, e3⟩ := h3
            exact ⟨p, v, e1, e2, e3.own fun y _ _ z => own_gF hq eb y z⟩
        | bad => rw [em] at q; exact q
    · exact q.elim
  · exact q.elim
end
/-- a def that takes an action and calls it: its body, whatever the action does -/
def Gives (X : Cx) (Ng : List Str) (x : Str) (stg : Stmt) (gf : Addr) (a : Str) (k : ME D → MS) : Prop := ∀ (g : Gh) (cdg : Value) (s : Shared) (H : Hp) (act : ME D),
  (∀ (W : WX) (pn : List (Addr × Obj)) (xe : Value → Shared → Prop) (p1 p2 : Pos), Takes (actCx X Ng x (defScope stg) gf cdg s H pn xe) W → SEg g (actCx X Ng x (defScope stg) gf cdg s H pn xe) W (.Call (.Name a p1) [] [] p2) act) →
  SBg g (cxOf C8.CX0 X.prog X.w X.K X.mg X.base Ng x (defScope stg) gf cdg X.A X.stack s H C8.E0).nox Wno (defBody stg) (k act)
section
variable {X : Cx} {W : WX} {Ng : List Str} {x a : Str} {stg : Stmt} {scope : Scope} {gf c P : Addr} {fdg : FuncData} {params : Arguments} {body : Expr} {n k : Nat} {kM : ME D → MS} {mb : ME D} {p lpos pos : Pos}
theorem se_lamcall (hg : Gl X x) (hm : X.mg x = some (.ref gf)) (F : Fun X.K x x stg gf fdg) (hb : L2.Binds X.K fdg [a] []) (S : FnScope Ng [a] (defScope stg)) (hn : n = Ng.length) (hNg : Ng[0]? = some a) (hva : Vis (defScope stg) a) (gives : Gives X Ng x stg gf a kM) (tb : LamX.TabB X.base X.mg c P) (hcode : X.env.code = .ref c)
    (inT : (P, X.env.qual ++ "<lambda>") ∈ LT.tabs X.K) (one : ∀ p ∈ LT.tabs X.K, p.1 = P → p.2 = X.env.qual ++ "<lambda>") (room : Room (k + 2) X.A) (L : LamX.LamS X.env.scope scope) (nodef : defaultsOf params X.env = ([], []))
    (nobind : ∀ (q : Str) (cl : List (Str × Addr)) (pm cv ctv : Value), bindArgs (PySem.W.kla_fn "<lambda>" q params body scope cl pm cv ctv) ⟨[], []⟩ = pure [])
    (runs : ∀ (A : Around) (outer : List Env) (s : Shared) (H : Hp) (E : XK) (f k' : Addr), Room k (A.deeper (LamX.lamEnv X scope s.heap.objs.size f k')) → SE (LamX.lamCx X A outer s H E scope f k') (fun cls d _ H => E cls d H) body mb)
    (hdb : (x == ("__debug__" : Str)) = false := by decide) (hd : (a == ("__debug__" : Str)) = false := by decide) (hcd : (a == ("__classdict__" : Str)) = false := by decide) :
    SE X W (.Call (.Name x p) [.Lambda params body scope lpos] [] pos) (lamM n kM mb) := by
  subst hn
  refine ⟨fun pins s σ H Q I ⟨g, ρ, b, α, β, r, q⟩ => wpAny_Call_Name_kw (ld_glob I hg hm ?_ hdb)⟩
  refine PySem.W.callWith_K (h₀ := X.base) I.ok.mod.kin F.kp ?_ (by rfl) (by rfl)
  show wpAny _ _ (spliced ((false, eval (.Lambda params body scope lpos) X.env) :: backTo pos (starEach [] X.env))) _ _ s
  refine Calls.spliced_cons (lam_make3 I tb hcode inT one r.tab nodef (L.has I.ok) fun f kc pm ct H1 s1 I1 kp T1 hf nf nfr hco => Calls.spliced_nil ⟨I1.kIn, ?_⟩)
  have r1 : RE X.K g H1 ρ b σ α β := r.step kp.of0 (r.box.keepT kp (by rw [r.tt]; exact T1))
  have hN : 0 < Ng.length := (List.getElem?_eq_some_iff.mp hNg).1
  obtain ⟨oc, od, kV, doc, pm2, an, cdv, ct2, osl, efd, lk, hcg⟩ := F.ex
  have goes : codeAny (model X.prog X.w) X.A (.call (.ref gf) ⟨[.ref f], []⟩) (CR C8.CX0 X.stack X.prog X.w H1 s1 Q C8.E0) s1 := by
    rw [efd] at lk
    refine LamX.run_ofS (N := Ng) (ps := [a]) (us := [.ref f]) (vs := [.ref f]) lk hcg S room I1.env0 (by rw [← efd]; exact hb s1 [.ref f] I1.kIn rfl) (.cons rfl .nil) rfl fun room2 => ?_
    have act : ∀ (W : WX) (pn : List (Addr × Obj)) (xe : Value → Shared → Prop) (p1 p2 : Pos), Takes (actCx X Ng x (defScope stg) gf cdv s1 H1 pn xe) W → SEg (gF g ρ α β X.K H1 f) (actCx X Ng x (defScope stg) gf cdv s1 H1 pn xe) W (.Call (.Name a p1) [] [] p2) (actM mb ρ b) :=
      fun W pn xe p1 p2 tk => seg_act r1 hco (pe_act2 (i := 0) (tb := fun E => tR (Cx.z X) (lD X.K) (fun cls d _ H => E cls d H) mb) I1 L hf nf nfr (nobind _ _ _ _ _) tk room2 (fun A outer s H E r => runs A outer s H E f kc r) hNg hva hd hcd)
    refine ⟨_, (gives _ cdv s1 H1 _ act).nox, _, _, _, _, r1.startF hN, ?_⟩
    have q2 : PostR (Cx.z X) (lD X.K) W (OW g ρ α β) g β σ H Q (lamM Ng.length kM mb ρ b) := q
    unfold lamM at q2
    have fin : ∀ {d : PyData} {v : V} {H2 : Hp} {b2 : Bx}, okB b b2 = true → RetOk ⟨X.K, X.mg⟩ (gF g ρ α β X.K H1 f) H2 d v b2 → RD X.K (OW g ρ α β) H2 d v ∧ Keep (Bs β) H H2 ∧ BxR g H2 (bxOf b b2) β := fun {d v H2 b2} hk ⟨h1, h2, h3, h4⟩ => by
      have hT : LamX.Tabs g.T H2 := by
        rw [r.tt]
        exact h4
      refine ⟨h1.own fun y u hy z => ?_, kp.of0.trans h2, ?_⟩
      · by_cases hb : β = some y
        · exact .inr hb
        · exact .inl ⟨z, hb⟩
      · unfold bxOf
        cases b2 with
        | no =>
          refine ⟨?_, hT⟩
          cases b with
          | no => exact r.box.1
          | fo x y z => cases hk
          | ow x y z => cases hk
        | fo x y z =>
          obtain ⟨y', e1, e2⟩ := h3 x y z rfl
          have e1 : β = some y' := e1
          obtain ⟨t, ht, _⟩ := r.box.has e1
          exact r.box.put ht e1 e2 hT
        | ow x y z => cases b <;> cases hk
    cases ek : kM (actM mb ρ b) (Sl.fn 0 :: List.replicate (Ng.length - 1) Sl.no) (asFo b) with
    | rt d b2 =>
      rw [ek] at q2
      simp only at q2
      split at q2
      · rename_i hk
        intro v H2 z
        obtain ⟨z1, z2, z3⟩ := fin hk z
        exact q2 v H2 z1 z2 z3
      · exact q2.elim
    | nx ρ2 b2 =>
      rw [ek] at q2
      simp only at q2
      split at q2
      · rename_i hk
        intro σ2 H2 α2 β2 r2
        obtain ⟨z1, z2, z3⟩ := fin hk (RE.ret (X := { X with }) r2 (d := .none) (v := .non) .non)
        exact q2 .non H2 z1 z2 z3
      · exact q2.elim
    | bk _ _ => rw [ek] at q2; exact q2.elim
    | ct _ _ => rw [ek] at q2; exact q2.elim
    | ex _ _ _ => rw [ek] at q2; exact q2.elim
    | bad => rw [ek] at q2; exact q2.elim
  refine wpAny_call (codeAny_mono goes fun z s2 hq => ?_)
  cases z with
  | error e => exact (show False from hq).elim
  | ok fl =>
    cases fl with
    | ret u => exact I1.after hq
    | next => exact hq.elim
    | brk => exact hq.elim
    | cont => exact hq.elim
end
end Fs

/-! L4: the printed derivations' helps for lambdas. -/
namespace Fs
open He PySem.W L2 PyProof.Rows PySem.Spec PySem
theorem tabs_in (D : Hd) (K : Frag) {x : Str} (hx : x ∈ D.tf) : ((cT K (x, none)).2, x ++ ".<locals>." ++ "<lambda>") ∈ D.tabs K := List.mem_map.mpr ⟨x, hx, rfl⟩
theorem nodup_at {α β : Type} {f : α → β} : ∀ {l : List α}, (l.map f).Nodup → ∀ {a b : α}, a ∈ l → b ∈ l → f a = f b → a = b
  | [], _, _, _, h, _, _ => nomatch h
  | c :: r, nd, a, b, ha, hb, e => by
    rw [List.map_cons, List.nodup_cons] at nd
    rcases List.mem_cons.mp ha with ha | ha
    · rcases List.mem_cons.mp hb with hb | hb
      · rw [ha, hb]
      · exact absurd (by rw [← ha, e]; exact List.mem_map.mpr ⟨b, hb, rfl⟩) nd.1
    · rcases List.mem_cons.mp hb with hb | hb
      · exact absurd (by rw [← hb, ← e]; exact List.mem_map.mpr ⟨a, ha, rfl⟩) nd.1
      · exact nodup_at nd.2 ha hb e
theorem Hd.Tb.one {D : Hd} {h : Heap} {K : Frag} (t : D.Tb h K) {x : Str} (hx : x ∈ D.tf) : ∀ p ∈ D.tabs K, p.1 = (cT K (x, none)).2 → p.2 = x ++ ".<locals>." ++ "<lambda>" := fun p hp e => by
  obtain ⟨y, hy, rfl⟩ := List.mem_map.mp hp
  rw [nodup_at t.apart hy hx e]
theorem code_at {K : Frag} {mg : Str → Option Value} {x : Str} {st : Stmt} (d : DefF K mg x st) : (fdAt K (ga K x)).code = codeAt K x := by
  obtain ⟨_, _, _, _, _, _, _, _, _, _, lk, _⟩ := d.f.ex
  unfold codeAt
  rw [lk]
theorem Hd.Tb.code {D : Hd} {h : Heap} {K : Frag} (t : D.Tb h K) {mg : Str → Option Value} {x : Str} {st : Stmt} (d : DefF K mg x st) (hx : x ∈ D.tf) : (fdAt K (ga K x)).code = .ref (cT K (x, none)).1 := (code_at d).trans (t.own x hx)
end Fs

/-! G2: isinstance, chains of comparisons, x += e. -/
namespace Fs
open L2 PyProof.Rows PySem.Spec PySem
variable [LT]
/-! ### isinstance -/
def tyD : D → Option String
  | .none => some "NoneType"
  | .bool _ => some "bool"
  | .int _ => some "int"
  | .str _ => some "str"
  | .list _ => some "list"
  | .tuple _ => some "tuple"
  | .dict _ => none
theorem tyx_of {K : PySem.W.Frag} {O B : Own} {H : Hp} {d : D} {v : V} {t : String} (h : RW K O B H d v) (e : tyD d = some t) : TyX K H v (.type t) := by
  cases d with
  | none => cases e; rw [h.non]; exact .base .non
  | bool b => cases e; rw [h.bl]; exact .base (.bl _)
  | int i => cases e; rw [h.int]; exact .base (.int _)
  | str x => cases e; rw [h.str]; exact .base (.str _)
  | list xs =>
    cases e
    obtain ⟨a, vs, rfl, q, _⟩ := h.lst
    rcases q with (q | ⟨o, q⟩) | ⟨o, its, n, q, c, _⟩
    · exact .base (.lst q)
    · exact .base (.frz q)
    · exact .kList q c
  | tuple xs =>
    cases e
    obtain ⟨a, vs, rfl, q, _⟩ := h.tup
    rcases q with (q | ⟨o, q⟩) | ⟨o, its, n, q, c, _⟩
    · exact .base (.tup q)
    · exact .fTuple q
    · exact .kTuple q c
  | dict _ => cases e
def isiD (c : String) (d : D) : Option D := (tyD d).bind fun t => (kitB t c).map PyData.bool
def isi2D (c e : String) (d : D) : Option D := (tyD d).bind fun t => match kitB t c, kitB t e with
  | some true, some _ => some (.bool true)
  | some false, some b => some (.bool b)
  | _, _ => none
def isiM (c : String) (ma : ME D) : ME D := bindM ma fun d => liftO (isiD c d)
def isi2M (c e : String) (ma : ME D) : ME D := bindM ma fun d => liftO (isi2D c e d)
section
variable {X : Cx} {W : WX} {a b c : Expr} {ma mb mc : ME D} {pos p p1 p2 p3 : Pos} {x y : Str}
theorem bt_isinstance : bootBuiltins "isinstance" = some (.builtin "isinstance") := by kernel_rfl
/-- isinstance(e, T) -/
theorem se_isi {T : String} (hg : Gl X "isinstance") (hm : X.mg "isinstance" = none) (hgT : Gl X x) (hmT : X.mg x = none) (hvT : bootBuiltins x = some (.type T)) (ha : SW X W a ma) (hnT : x ≠ "__name__" := by decide) (hdT : (x == ("__debug__" : Str)) = false := by decide)
    (h1 : starEach [a, .Name x p1] X.env = (false, eval a X.env) :: starEach [.Name x p1] X.env := by rfl) (h2 : starEach [.Name x p1] X.env = (false, eval (.Name x p1) X.env) :: starEach [] X.env := by rfl)
    (hpl : (backTo pos (starEach [.Name x p1] X.env)).any (·.1) = false := by rfl) : SE X W (.Call (.Name "isinstance" p) [a, .Name x p1] [] pos) (isiM T ma) :=
  PE.imp (pe_callB call_isi hg hm bt_isinstance (pa_cons ha (pa_cons (pe_bltn (v := .ty T) hgT hmT hvT rfl hnT hdT) pa_nil h2) h1) (by decide) (by decide) h1 hpl) fun σ H Q h => by
    refine tR_bind (L := lW X.K) h fun g ρ b α β d v H1 r l q => ?_
    obtain ⟨z, ez, q⟩ := post_lift q
    obtain ⟨t, et, ez⟩ := Option.bind_eq_some_iff.mp ez
    obtain ⟨k, ek, rfl⟩ := Option.map_eq_some_iff.mp ez
    exact ⟨v, .ty T, .type t, .type T, k, rfl, .ty T, tyx_of l et, kit_ty ek, q _ H1 (.bl k) (Keep.refl _ _) r.box⟩
/-- isinstance(e, (T, U)) -/
theorem se_isi2 {T U : String} {kk} (hg : Gl X "isinstance") (hm : X.mg "isinstance" = none) (hgT : Gl X x) (hmT : X.mg x = none) (hvT : bootBuiltins x = some (.type T)) (hgU : Gl X y) (hmU : X.mg y = none) (hvU : bootBuiltins y = some (.type U)) (ha : SW X W a ma)
    (hnT : x ≠ "__name__" := by decide) (hdT : (x == ("__debug__" : Str)) = false := by decide) (hnU : y ≠ "__name__" := by decide) (hdU : (y == ("__debug__" : Str)) = false := by decide)
    (h0 : starEach [.Name x p1, .Name y p2] X.env = (false, eval (.Name x p1) X.env) :: starEach [.Name y p2] X.env := by rfl) (h3 : starEach [.Name y p2] X.env = (false, eval (.Name y p2) X.env) :: starEach [] X.env := by rfl)
    (h1 : starEach [a, .Tuple [.Name x p1, .Name y p2] kk p3] X.env = (false, eval a X.env) :: starEach [.Tuple [.Name x p1, .Name y p2] kk p3] X.env := by rfl) (h2 : starEach [.Tuple [.Name x p1, .Name y p2] kk p3] X.env = (false, eval (.Tuple [.Name x p1, .Name y p2] kk p3) X.env) :: starEach [] X.env := by rfl)
    (hpl : (backTo pos (starEach [.Tuple [.Name x p1, .Name y p2] kk p3] X.env)).any (·.1) = false := by rfl) : SE X W (.Call (.Name "isinstance" p) [a, .Tuple [.Name x p1, .Name y p2] kk p3] [] pos) (isi2M T U ma) :=
  PE.imp (pe_callB call_isiT hg hm bt_isinstance (pa_cons ha (pa_cons (pe_tup (pa_cons (pe_bltn (v := .ty T) hgT hmT hvT rfl hnT hdT) (pa_cons (pe_bltn (v := .ty U) hgU hmU hvU rfl hnU hdU) pa_nil h3) h0)) pa_nil h2) h1) (by decide) (by decide) h1 hpl) fun σ H Q h => by
    refine tR_bind (L := lW X.K) h fun g ρ b α β d v H1 r l q => ?_
    obtain ⟨z, ez, q⟩ := post_lift q
    obtain ⟨t, et, ez⟩ := Option.bind_eq_some_iff.mp ez
    refine ⟨by rw [sizeLine_eq]; exact (by decide : (2 : Nat) ≤ 16777216), fun pn hn => ?_⟩
    have k3 : KeepS H1 (upd H1 pn (.tup [.ty T, .ty U])) := KeepS.upd hn
    have fin : ∀ k, z = .bool k → Q (.bl k) (upd H1 pn (.tup [.ty T, .ty U])) := fun k e => by
      subst e
      exact q _ _ (.bl k) k3.of0 (r.box.keep0 k3)
    have ty : TyX X.K (upd H1 pn (.tup [.ty T, .ty U])) v (.type t) := tyx_of (pers_W _ _ _ _ _ _ r.gd.sub k3.of0 l) et
    cases e1 : kitB t T with
    | none => rw [e1] at ez; cases ez
    | some k1 =>
      cases e2 : kitB t U with
      | none => rw [e1, e2] at ez; cases k1 <;> cases ez
      | some k2 =>
        rw [e1, e2] at ez
        cases k1 with
        | true =>
          cases ez
          exact ⟨v, pn, [.ty T, .ty U], .type t, [.type T, .type U], true, rfl, upd_same, .cons (.ty T) (.cons (.ty U) .nil), ty, kitAny_cons (kit_ty e1) (fun z => by cases z) (fun _ => rfl), fin true rfl⟩
        | false =>
          cases ez
          exact ⟨v, pn, [.ty T, .ty U], .type t, [.type T, .type U], k2, rfl, upd_same, .cons (.ty T) (.cons (.ty U) .nil), ty,
            kitAny_cons (kit_ty e1) (fun _ => kitAny_cons (kit_ty e2) (fun z => by rw [z]; exact kitAny_nil) (fun z => z)) (fun z => by cases z), fin k2 rfl⟩
/-! ### a op b op c -/
def chainM (o1 o2 : D → D → Option D) (ma mb mc : ME D) : ME D := bindM ma fun x => bindM mb fun y => fun ρ b => match o1 x y with
  | some (.bool true) => (bindM mc fun z => liftO (o2 y z)) ρ b
  | some (.bool false) => .ok (.bool false) b
  | _ => .bad
theorem chain_read {o1 o2 : D → D → Option D} {σ : L2.St} {H : Hp} {Q : VK} (h : tR (Cx.z X) (lD X.K) W (chainM o1 o2 ma mb mc) σ H Q) :
    tChain (rD X.K o1) (rD X.K o2) (tR (Cx.z X) (lW X.K) W ma) (tR (Cx.z X) (lW X.K) W mb) (tR (Cx.z X) (lW X.K) W mc) σ H Q := by
  refine tR_bind2 pers_W h fun g ρ b α β d e x y H1 r l1 l2 q => ?_
  have q : PostR (Cx.z X) (lD X.K) W (OW g ρ α β) g β σ H1 Q (match o1 d e with
    | some (.bool true) => (bindM mc fun z => liftO (o2 e z)) ρ b
    | some (.bool false) => .ok (.bool false) b
    | _ => .bad) := q
  split at q
  · rename_i e1
    refine ⟨_, _, d, e, _, r.gd, l1, l2, e1, fun v H2 lv k2 => ?_⟩
    cases lv
    have r2 := r.step k2.of0 (r.box.keep0 k2)
    refine ⟨true, rfl, ?_⟩
    rw [if_pos rfl]
    refine ⟨g, ρ, b, α, β, r2, post_bind (L := lW X.K) (PostR.at q k2.of0) fun z b3 w H3 l3 k3 q3 q => ?_⟩
    obtain ⟨u, eu, q⟩ := post_lift q
    have r3 := r2.step k3 q3
    exact ⟨_, _, e, z, u, r3.gd, pers_W _ _ _ _ _ _ r2.gd.sub k3 (pers_W _ _ _ _ _ _ r.gd.sub k2.of0 l2), l3, eu, fun v H4 lv k4 => q v H4 lv k4.of0 (q3.keep0 k4)⟩
  · rename_i e1
    refine ⟨_, _, d, e, _, r.gd, l1, l2, e1, fun v H2 lv k2 => ?_⟩
    cases lv
    refine ⟨false, rfl, ?_⟩
    rw [if_neg Bool.false_ne_true]
    exact q _ H2 (.bl false) k2.of0 (r.box.keep0 k2)
  · exact q.elim
theorem se_chain {o o' : CmpOp} {o1 o2 : D → D → Option D} (h1 : OpR X (compareOp o) (rD X.K o1)) (h2 : OpR X (compareOp o') (rD X.K o2)) (ha : SW X W a ma) (hb : SW X W b mb) (hc : SW X W c mc) (hm : lastMarks [o, o'] [b, c] = false := by with_unfolding_all rfl) :
    SE X W (.Compare a [o, o'] [b, c] pos) (chainM o1 o2 ma mb mc) := PE.imp (pe_chain h1 h2 ha hb hc hm) fun _ _ _ h => chain_read h
theorem st_chain {o o' : CmpOp} {o1 o2 : D → D → Option D} (h1 : OpR X (compareOp o) (rD X.K o1)) (h2 : OpR X (compareOp o') (rD X.K o2)) (ha : SW X W a ma) (hb : SW X W b mb) (hc : SW X W c mc) (hm : lastMarks [o, o'] [b, c] = false := by with_unfolding_all rfl) :
    ST X W (.Compare a [o, o'] [b, c] pos) (tstM (chainM o1 o2 ma mb mc)) := PT.imp (pt_chain h1 h2 ha hb hc hm) fun σ H Q h => by
  obtain ⟨g, ρ, b', α, β, r, p⟩ := tst_read h
  refine chain_read ⟨g, ρ, b', α, β, r, ?_⟩
  cases e : chainM o1 o2 ma mb mc ρ b' with
  | ok d b1 => rw [e] at p; exact fun x H' l k q => p x H' (.inl l) k q
  | ex x b1 => rw [e] at p; exact p
  | bad => rw [e] at p; exact p
/-! ### x op= e, on ints -/
def addI (i j : Int) : Option Int := some (i + j)
def subI (i j : Int) : Option Int := some (i - j)
def mulI (i j : Int) : Option Int := if decide ((-(2 ^ 64) < i ∧ i < 2 ^ 64) ∨ (-(2 ^ 64) < j ∧ j < 2 ^ 64)) then some (i * j) else none
def ipO (f : Int → Int → Option Int) : TIp := fun x y H Q => ∃ i j k, x = .int i ∧ y = .int j ∧ f i j = some k ∧ Q (.int k) H
theorem ip_addI : PIp X .Add (ipO addI) := fun pins s σ H x y v u Q I r1 r2 ⟨i, j, k, e1, e2, ek, q⟩ => ip_add pins s σ H x y v u Q I r1 r2 ⟨i, j, e1, e2, by cases ek; exact q⟩
theorem ip_subI : PIp X .Sub (ipO subI) := fun pins s σ H x y v u Q I r1 r2 ⟨i, j, k, e1, e2, ek, q⟩ => ip_sub pins s σ H x y v u Q I r1 r2 ⟨i, j, e1, e2, by cases ek; exact q⟩
theorem ip_mulI : PIp X .Mult (ipO mulI) := fun pins s σ H x y v u Q I r1 r2 ⟨i, j, k, e1, e2, ek, q⟩ => by
  subst e1 e2
  obtain ⟨t, rfl⟩ := r1
  obtain ⟨t', rfl⟩ := r2
  unfold mulI at ek
  split at ek
  · rename_i hc
    cases ek
    have h2 := of_decide_eq_true hc
    have hm : CMul i j := h2
    exact imul_int ⟨.int _, H, I.tok _, ⟨_, rfl⟩, q⟩ hm.ok
  · cases ek
def augM (i : Nat) (f : Int → Int → Option Int) (ma : ME D) : MS := fun ρ b => match ρ[i]? with
  | some (.v (.int x)) => exprM ma (fun d ρ b => match d with
    | .int y => (match f x y with
      | some z => if i < ρ.length then .nx (ρ.set i (.v (.int z))) b else .bad
      | none => .bad)
    | _ => .bad) ρ b
  | _ => .bad
theorem ss_aug {i : Nat} {op : Operator} {f : Int → Int → Option Int} (ho : PIp X op (ipO f)) (hN : X.N.Nodup) (hi : X.N[i]? = some x) (hx : Loc X.env.scope x) (he : SE X W a ma) (hf : X.fn x = true ∨ X.env.scope.names.lookup x = some .local := by first | exact .inl rfl | exact .inr rfl | assumption) :
    SS X W (.AugAssign (.Name x p) op a pos) (augM i f ma) := PS.imp (ps_aug hN hi hx he ho hf) fun D σ H ⟨g, ρ, b, α, β, r, q⟩ => by
  unfold augM at q
  split at q
  · rename_i n e
    obtain ⟨v, e1, e2⟩ := r.val i _ e
    cases e2
    refine ⟨_, e1, expr_read (L := lD X.K) ⟨g, ρ, b, α, β, r, q⟩ fun g ρ b α β d y H1 r1 _ l q => ?_⟩
    split at q
    · rename_i m
      cases l
      split at q
      · rename_i z ez
        exact ⟨n, m, z, rfl, rfl, ez, setM_post (d := .int z) r1 (.int z) q⟩
      · exact q.elim
    · exact q.elim
  · exact q.elim
end
end Fs

/-! S0: sorting that the kernel can evaluate. -/
namespace Fs
open PySem PySem.W
def putIn {α : Type} (le : α → α → Bool) (x : α) : List α → List α
  | [] => [x]
  | y :: ys => if le x y = true then x :: y :: ys else y :: putIn le x ys
def sortI {α : Type} (le : α → α → Bool) : List α → List α
  | [] => []
  | x :: xs => putIn le x (sortI le xs)
section
variable {α : Type} {le : α → α → Bool}
theorem putIn_mem {x : α} : ∀ {ys : List α} {z : α}, z ∈ putIn le x ys → z = x ∨ z ∈ ys
  | [], z, h => .inl (by simpa [putIn] using h)
  | y :: ys, z, h => by
    unfold putIn at h
    split at h
    · rcases List.mem_cons.mp h with e | e
      · exact .inl e
      · exact .inr e
    · rcases List.mem_cons.mp h with e | e
      · exact .inr (by rw [e]; exact List.mem_cons_self ..)
      · rcases putIn_mem e with e | e
        · exact .inl e
        · exact .inr (List.mem_cons_of_mem _ e)
theorem putIn_pw (h : TotalLe le) {x : α} : ∀ {ys : List α}, ys.Pairwise (fun a b => le a b = true) → (putIn le x ys).Pairwise (fun a b => le a b = true)
  | [], _ => List.pairwise_cons.mpr ⟨nofun, List.Pairwise.nil⟩
  | y :: ys, hp => by
    obtain ⟨h1, h2⟩ := List.pairwise_cons.mp hp
    unfold putIn
    split
    · rename_i hx
      refine List.pairwise_cons.mpr ⟨fun z hz => ?_, hp⟩
      rcases List.mem_cons.mp hz with e | e
      · rw [e]; exact hx
      · exact h.trans _ _ _ hx (h1 z e)
    · rename_i hx
      refine List.pairwise_cons.mpr ⟨fun z hz => ?_, putIn_pw h h2⟩
      rcases putIn_mem hz with e | e
      · rw [e]
        exact (h.total x y).resolve_left hx
      · exact h1 z e
theorem sortI_pw (h : TotalLe le) : ∀ l : List α, (sortI le l).Pairwise (fun a b => le a b = true)
  | [] => List.Pairwise.nil
  | x :: xs => putIn_pw h (sortI_pw h xs)
theorem putIn_st (h : TotalLe le) {x c : α} : ∀ {ys : List α}, (putIn le x ys).filter (sameRank le c) = (x :: ys).filter (sameRank le c)
  | [] => rfl
  | y :: ys => by
    unfold putIn
    split
    · rfl
    · rename_i hx
      have ih := putIn_st h (x := x) (c := c) (ys := ys)
      by_cases hcx : sameRank le c x = true
      · have hcy : ¬ sameRank le c y = true := fun w => hx (by
          unfold sameRank at hcx w
          rw [Bool.and_eq_true] at hcx w
          exact h.trans _ _ _ hcx.2 w.1)
        rw [List.filter_cons_of_neg hcy, ih, List.filter_cons_of_pos hcx, List.filter_cons_of_pos hcx, List.filter_cons_of_neg hcy]
      · rw [List.filter_cons_of_neg hcx] at ih ⊢
        by_cases hcy : sameRank le c y = true
        · rw [List.filter_cons_of_pos hcy, List.filter_cons_of_pos hcy, ih]
        · rw [List.filter_cons_of_neg hcy, List.filter_cons_of_neg hcy, ih]
theorem sortI_st (h : TotalLe le) (c : α) : ∀ l : List α, (sortI le l).filter (sameRank le c) = l.filter (sameRank le c)
  | [] => rfl
  | x :: xs => by
    show (putIn le x (sortI le xs)).filter _ = _
    rw [putIn_st h, List.filter_cons, List.filter_cons, sortI_st h c xs]
theorem sortI_eq (h : TotalLe le) (l : List α) : sortI le l = l.mergeSort le := sort_unique h (sortI_pw h l) fun c => sortI_st h c l
end
end Fs

/-! M1: built-ins over data trees. -/
namespace Fs
open L2 PyProof.Rows PySem.Spec PySem
variable [LT]
def boolsF : List D → Option (List Bool)
  | [] => some []
  | .bool b :: ds => (boolsF ds).map (b :: ·)
  | _ :: _ => none
theorem boolsF_eq : ∀ {ds : List D} {bs : List Bool}, boolsF ds = some bs → ds = bs.map .bool
  | [], _, h => by cases h; rfl
  | d :: ds, bs, h => by
    cases d <;> simp only [boolsF, Option.map_eq_some_iff, reduceCtorEq] at h
    obtain ⟨cs, h1, rfl⟩ := h
    rw [boolsF_eq h1]; rfl
theorem boolsF_map : ∀ bs : List Bool, boolsF (bs.map .bool) = some bs
  | [] => rfl
  | b :: bs => by simp [boolsF, boolsF_map bs]
def intsF : List D → Option (List Int)
  | [] => some []
  | .int b :: ds => (intsF ds).map (b :: ·)
  | _ :: _ => none
theorem intsF_eq : ∀ {ds : List D} {bs : List Int}, intsF ds = some bs → ds = bs.map .int
  | [], _, h => by cases h; rfl
  | d :: ds, bs, h => by
    cases d <;> simp only [intsF, Option.map_eq_some_iff, reduceCtorEq] at h
    obtain ⟨cs, h1, rfl⟩ := h
    rw [intsF_eq h1]; rfl
theorem intsF_map : ∀ bs : List Int, intsF (bs.map .int) = some bs
  | [] => rfl
  | b :: bs => by simp [intsF, intsF_map bs]
section
variable {X : Cx}
def allF : List D → Option D
  | [.list ds] => (boolsF ds).map fun bs => .bool (bs.all id)
  | _ => none
def anyF : List D → Option D
  | [.list ds] => (boolsF ds).map fun bs => .bool (bs.any id)
  | _ => none
theorem f_all (hc : X.calm = true) : CallR X (.builtin "all") (rF X.K allF) := by
  intro pins s σ H vs us Q I r ⟨O, B, ds, z, G, l, ez, q⟩
  unfold allF at ez
  split at ez
  · rename_i ds
    obtain ⟨bs, eb, rfl⟩ := Option.map_eq_some_iff.mp ez
    obtain ⟨v, rfl, w⟩ := l.one
    rw [boolsF_eq eb] at w
    obtain ⟨a, ws, rfl, h1, h2⟩ := w.lst
    rw [h2.bls] at h1
    exact cr_all hc pins s σ H _ us Q I r ⟨a, bs, rfl, h1, q _ H (.bl _) (KeepS.refl _)⟩
  · cases ez
theorem f_any (hc : X.calm = true) : CallR X (.builtin "any") (rF X.K anyF) := by
  intro pins s σ H vs us Q I r ⟨O, B, ds, z, G, l, ez, q⟩
  unfold anyF at ez
  split at ez
  · rename_i ds
    obtain ⟨bs, eb, rfl⟩ := Option.map_eq_some_iff.mp ez
    obtain ⟨v, rfl, w⟩ := l.one
    rw [boolsF_eq eb] at w
    obtain ⟨a, ws, rfl, h1, h2⟩ := w.lst
    rw [h2.bls] at h1
    exact cr_any hc pins s σ H _ us Q I r ⟨a, bs, rfl, h1, q _ H (.bl _) (KeepS.refl _)⟩
  · cases ez
/-! ### sum, max, min -/
def sumF : List D → Option D
  | [.list ds] => (intsF ds).map fun ns => .int ns.sum
  | [.tuple ds] => (intsF ds).map fun ns => .int ns.sum
  | _ => none
theorem sum_tupV {a : Addr} {ns : List Int} {pins : List (Addr × Obj)} {s : Shared} {σ : L2.St} {H : Hp} {Q : VK} (hc : X.calm = true) (I : Inv X pins σ H s) (h : SqT X.K H a (ns.map V.int)) (q : Q (.int ns.sum) H) :
    wpAny (model X.prog X.w) X.A (call (.builtin "sum") [.ref a]) (EP X pins σ Q) X.xe s := by
  obtain ⟨its, rv, p, _⟩ := I.tuple h
  obtain ⟨o, ho, hcl, n, hd⟩ := p
  obtain ⟨xs, e⟩ := rv.ints.allInts.items
  have hn : numsOf (intItems xs).toList = ns := by rw [← e]; exact rv.ints.numsOf
  rw [nums_intItems] at hn
  rw [e] at hd
  refine PySem.W.ktm_sumG (I.ok.hd hc) ⟨o, ho, hcl, n, hd⟩ fun h' tk t' hk => ?_
  refine ⟨.int ns.sum, H, I.kept hk, ⟨t', ?_⟩, q⟩
  rw [preSum_eq, List.take_of_length_le (by simp), hn]
theorem f_sum (hc : X.calm = true) : CallR X (.builtin "sum") (rF X.K sumF) := by
  intro pins s σ H vs us Q I r ⟨O, B, ds, z, G, l, ez, q⟩
  unfold sumF at ez
  split at ez
  · rename_i ds
    obtain ⟨bs, eb, rfl⟩ := Option.map_eq_some_iff.mp ez
    obtain ⟨v, rfl, w⟩ := l.one
    rw [intsF_eq eb] at w
    obtain ⟨a, ws, rfl, h1, h2⟩ := w.lst
    rw [h2.ints] at h1
    exact cr_sum hc pins s σ H _ us Q I r ⟨a, bs, rfl, h1, q _ H (.int _) (KeepS.refl _)⟩
  · rename_i ds
    obtain ⟨bs, eb, rfl⟩ := Option.map_eq_some_iff.mp ez
    obtain ⟨v, rfl, w⟩ := l.one
    rw [intsF_eq eb] at w
    obtain ⟨a, ws, rfl, h1, h2⟩ := w.tup
    rw [h2.ints] at h1
    rw [Vals.ref1 r]
    exact sum_tupV hc I h1 (q _ H (.int _) (KeepS.refl _))
  · cases ez
def maxL : Int → List Int → Int
  | m, [] => m
  | m, n :: ns => maxL (if m < n then n else m) ns
def minL : Int → List Int → Int
  | m, [] => m
  | m, n :: ns => minL (if n < m then n else m) ns
theorem maxL_spec : ∀ (ns : List Int) (m : Int), (maxL m ns = m ∨ maxL m ns ∈ ns) ∧ m ≤ maxL m ns ∧ ∀ y ∈ ns, y ≤ maxL m ns
  | [], m => ⟨.inl rfl, Int.le_refl _, fun y h => by cases h⟩
  | n :: ns, m => by
    obtain ⟨h1, h2, h3⟩ := maxL_spec ns (if m < n then n else m)
    unfold maxL
    refine ⟨?_, ?_, fun y hy => ?_⟩
    · rcases h1 with h1 | h1
      · rw [h1]; split <;> simp
      · exact .inr (List.mem_cons_of_mem _ h1)
    · by_cases c : m < n <;> simp only [c, if_true, if_false] at h2 ⊢ <;> omega
    · rcases List.mem_cons.mp hy with rfl | hy
      · by_cases c : m < y <;> simp only [c, if_true, if_false] at h2 ⊢ <;> omega
      · exact h3 y hy
theorem minL_spec : ∀ (ns : List Int) (m : Int), (minL m ns = m ∨ minL m ns ∈ ns) ∧ minL m ns ≤ m ∧ ∀ y ∈ ns, minL m ns ≤ y
  | [], m => ⟨.inl rfl, Int.le_refl _, fun y h => by cases h⟩
  | n :: ns, m => by
    obtain ⟨h1, h2, h3⟩ := minL_spec ns (if n < m then n else m)
    unfold minL
    refine ⟨?_, ?_, fun y hy => ?_⟩
    · rcases h1 with h1 | h1
      · rw [h1]; split <;> simp
      · exact .inr (List.mem_cons_of_mem _ h1)
    · by_cases c : n < m <;> simp only [c, if_true, if_false] at h2 ⊢ <;> omega
    · rcases List.mem_cons.mp hy with rfl | hy
      · by_cases c : y < m <;> simp only [c, if_true, if_false] at h2 ⊢ <;> omega
      · exact h3 y hy
def maxF : List D → Option D
  | [.list ds] => match intsF ds with | some (n :: ns) => some (.int (maxL n ns)) | _ => none
  | [.tuple ds] => match intsF ds with | some (n :: ns) => some (.int (maxL n ns)) | _ => none
  | [.int i, .int j] => some (.int (if j > i then j else i))
  | _ => none
def minF : List D → Option D
  | [.list ds] => match intsF ds with | some (n :: ns) => some (.int (minL n ns)) | _ => none
  | [.tuple ds] => match intsF ds with | some (n :: ns) => some (.int (minL n ns)) | _ => none
  | [.int i, .int j] => some (.int (if j < i then j else i))
  | _ => none
theorem depth_ints : ∀ ns : List Int, PyData.depthAll (ns.map PyData.int) = 0
  | [] => rfl
  | n :: ns => by simp [PyData.depthAll, PyData.depth, depth_ints ns]
theorem alike_ints (ns : List Int) : PySem.W.AlikeAll (ns.map PyData.int) := ⟨fun x hx y hy => by
  obtain ⟨i, _, rfl⟩ := List.mem_map.mp hx
  obtain ⟨j, _, rfl⟩ := List.mem_map.mp hy
  rfl, fun x hx e => by
  obtain ⟨i, _, rfl⟩ := List.mem_map.mp hx
  cases e⟩
theorem maxD_ints : ∀ (ns : List Int) (m : Int), PySem.W.maxD (.int m) (ns.map PyData.int) = .int (maxL m ns)
  | [], m => rfl
  | n :: ns, m => by
    have := maxD_ints ns (if m < n then n else m)
    unfold PySem.W.maxD at this ⊢
    rw [List.map_cons, List.foldl_cons, PySem.W.dataLt_int]
    unfold maxL
    rw [← this]
    by_cases h : m < n <;> simp [h]
theorem minD_ints : ∀ (ns : List Int) (m : Int), PySem.W.minD (.int m) (ns.map PyData.int) = .int (minL m ns)
  | [], m => rfl
  | n :: ns, m => by
    have := minD_ints ns (if n < m then n else m)
    unfold PySem.W.minD at this ⊢
    rw [List.map_cons, List.foldl_cons, PySem.W.dataLt_int]
    unfold minL
    rw [← this]
    by_cases h : n < m <;> simp [h]
theorem reads_ints {h : Heap} : ∀ {ns : List Int} {its : List Value}, Vals (ns.map V.int) its → ReadsAll h its (ns.map PyData.int) []
  | [], _, r => by cases r; exact .nil
  | n :: ns, _, r => by
    cases r with
    | cons a b =>
      obtain ⟨t, rfl⟩ := a
      exact .cons (.int n t) (reads_ints b)
theorem isTup_of {h : Heap} {a : Addr} {its : Array Value} (p : IsTup h a its) : h.IsTuple a its := by
  obtain ⟨o, ho, hcl, n, hd⟩ := p
  exact ⟨o, ho, hcl, n, hd⟩
theorem f_max (hc : X.calm = true) (hu : X.A.units + 64 < cLine) : CallR X (.builtin "max") (rF X.K maxF) := by
  intro pins s σ H vs us Q I r ⟨O, B, ds, z, G, l, ez, q⟩
  unfold maxF at ez
  split at ez
  · rename_i ds
    split at ez
    · rename_i n ns eb
      cases ez
      obtain ⟨v, rfl, w⟩ := l.one
      rw [intsF_eq eb] at w
      obtain ⟨a, ws, rfl, h1, h2⟩ := w.lst
      rw [h2.ints] at h1
      refine cr_max hc pins s σ H _ us Q I r ⟨a, n :: ns, rfl, h1, by simp, fun m hm hle => ?_⟩
      obtain ⟨s1, s2, s3⟩ := maxL_spec ns n
      have e : m = maxL n ns := by
        have a1 : maxL n ns ≤ m := by
          rcases s1 with s1 | s1
          · rw [s1]; exact hle n List.mem_cons_self
          · exact hle _ (List.mem_cons_of_mem _ s1)
        have a2 : m ≤ maxL n ns := by
          rcases List.mem_cons.mp hm with rfl | hm
          · exact s2
          · exact s3 m hm
        omega
      rw [e]
      exact q _ H (.int _) (KeepS.refl _)
    · cases ez
  · rename_i ds
    split at ez
    · rename_i n ns eb
      cases ez
      obtain ⟨v, rfl, w⟩ := l.one
      rw [intsF_eq eb] at w
      obtain ⟨a, ws, rfl, h1, h2⟩ := w.tup
      rw [h2.ints] at h1
      rw [Vals.ref1 r]
      obtain ⟨its, rv, p, _⟩ := I.tuple h1
      refine PySem.W.max_tuple_data (x := .int n) (xs := ns.map .int) (as := []) (I.ok.hd hc) (isTup_of p) (reads_ints (ns := n :: ns) rv) (alike_ints (n :: ns)) ?_ fun i v h' tk bs hv rd hk => ?_
      · have := depth_ints (n :: ns)
        rw [List.map_cons] at this
        rw [this]; omega
      · rw [maxD_ints] at rd
        cases rd with
        | int i t => exact ⟨.int _, H, I.kept hk, ⟨t, rfl⟩, q _ H (.int _) (KeepS.refl _)⟩
    · cases ez
  · cases ez
    obtain ⟨v, w, rfl, w1, w2⟩ := l.two
    rw [w1.int, w2.int] at r
    exact call_max2 hc pins s σ H _ us Q I r ⟨_, _, rfl, q _ H (.int _) (KeepS.refl _)⟩
  · cases ez
theorem f_min (hc : X.calm = true) (hu : X.A.units + 64 < cLine) : CallR X (.builtin "min") (rF X.K minF) := by
  intro pins s σ H vs us Q I r ⟨O, B, ds, z, G, l, ez, q⟩
  unfold minF at ez
  split at ez
  · rename_i ds
    split at ez
    · rename_i n ns eb
      cases ez
      obtain ⟨v, rfl, w⟩ := l.one
      rw [intsF_eq eb] at w
      obtain ⟨a, ws, rfl, h1, h2⟩ := w.lst
      rw [h2.ints] at h1
      refine cr_min hc pins s σ H _ us Q I r ⟨a, n :: ns, rfl, h1, by simp, fun m hm hle => ?_⟩
      obtain ⟨s1, s2, s3⟩ := minL_spec ns n
      have e : m = minL n ns := by
        have a1 : m ≤ minL n ns := by
          rcases s1 with s1 | s1
          · rw [s1]; exact hle n List.mem_cons_self
          · exact hle _ (List.mem_cons_of_mem _ s1)
        have a2 : minL n ns ≤ m := by
          rcases List.mem_cons.mp hm with rfl | hm
          · exact s2
          · exact s3 m hm
        omega
      rw [e]
      exact q _ H (.int _) (KeepS.refl _)
    · cases ez
  · rename_i ds
    split at ez
    · rename_i n ns eb
      cases ez
      obtain ⟨v, rfl, w⟩ := l.one
      rw [intsF_eq eb] at w
      obtain ⟨a, ws, rfl, h1, h2⟩ := w.tup
      rw [h2.ints] at h1
      rw [Vals.ref1 r]
      obtain ⟨its, rv, p, _⟩ := I.tuple h1
      refine PySem.W.min_tuple_data (x := .int n) (xs := ns.map .int) (as := []) (I.ok.hd hc) (isTup_of p) (reads_ints (ns := n :: ns) rv) (alike_ints (n :: ns)) ?_ fun i v h' tk bs hv rd hk => ?_
      · have := depth_ints (n :: ns)
        rw [List.map_cons] at this
        rw [this]; omega
      · rw [minD_ints] at rd
        cases rd with
        | int i t => exact ⟨.int _, H, I.kept hk, ⟨t, rfl⟩, q _ H (.int _) (KeepS.refl _)⟩
    · cases ez
  · cases ez
    obtain ⟨v, w, rfl, w1, w2⟩ := l.two
    rw [w1.int, w2.int] at r
    exact call_min2 hc pins s σ H _ us Q I r ⟨_, _, rfl, q _ H (.int _) (KeepS.refl _)⟩
  · cases ez
/-! ### sorted -/
def alikeB (ds : List D) : Bool := ds.all fun x => ds.all fun y => PySem.W.alike x y
def sortB (ds : List D) : Bool := (ds.all fun d => match d with | .tuple (_ :: _) => true | _ => false) || (ds.all fun d => match d with | .none => false | .tuple _ => false | _ => true)
def lowB (ds : List D) : Bool := ds.all fun d => decide (d.depth ≤ 8)
def leD' : D → D → Bool := PySem.W.dataLe false id
theorem sortD_eq (l : List PyData) : sortI leD' l = l.mergeSort leD' := sortI_eq (le := leD') (show PySem.W.TotalLe leD' from PySem.W.sortLe_total (PyProof.Rows.listOrd PyProof.Rows.itemOrd) false fun b : PyData => PySem.W.keyToks (id b)) l
/-- rows of whole numbers: the first that differs -/
def ltQ : List D → List D → Option Bool
  | [], [] => some false
  | [], .int _ :: _ => some true
  | .int _ :: _, [] => some false
  | .int i :: xs, .int j :: ys => if i = j then ltQ xs ys else some (decide (i < j))
  | _, _ => none
def leQ (a b : D) : Bool := match a, b with
  | .int i, .int j => !decide (j < i)
  | .tuple xs, .tuple ys => (match ltQ ys xs with
    | some k => !k
    | none => leD' (.tuple xs) (.tuple ys))
  | a, b => leD' a b
theorem ltQ_ok : ∀ {xs ys : List D} {k : Bool}, ltQ xs ys = some k → PyProof.Rows.lexLt PyProof.Rows.itemOrd (PySem.W.keyToksAll xs) (PySem.W.keyToksAll ys) = k := by
  intro xs
  induction xs with
  | nil =>
    intro ys k h
    cases ys with
    | nil => cases h; rfl
    | cons y ys => cases y <;> first | (cases h; rfl) | cases h
  | cons x xs ih =>
    intro ys k h
    cases x with
    | int i =>
      cases ys with
      | nil => cases h; rfl
      | cons y ys =>
        cases y with
        | int j =>
          unfold ltQ at h
          by_cases e : i = j
          · subst e
            rw [if_pos rfl] at h
            have := ih h
            show PyProof.Rows.lexLt PyProof.Rows.itemOrd (.inl 1 :: .inl i :: PySem.W.keyToksAll xs) (.inl 1 :: .inl i :: PySem.W.keyToksAll ys) = k
            rw [show (Sum.inl 1 :: Sum.inl i :: PySem.W.keyToksAll xs : List (Int ⊕ List Nat)) = [.inl 1, .inl i] ++ PySem.W.keyToksAll xs from rfl, show (Sum.inl 1 :: Sum.inl i :: PySem.W.keyToksAll ys : List (Int ⊕ List Nat)) = [.inl 1, .inl i] ++ PySem.W.keyToksAll ys from rfl, PySem.W.lex_pre]
            exact this
          · rw [if_neg e] at h
            cases h
            show PyProof.Rows.lexLt PyProof.Rows.itemOrd (.inl 1 :: .inl i :: PySem.W.keyToksAll xs) (.inl 1 :: .inl j :: PySem.W.keyToksAll ys) = _
            rw [show (Sum.inl 1 :: Sum.inl i :: PySem.W.keyToksAll xs : List (Int ⊕ List Nat)) = [.inl 1] ++ (.inl i :: PySem.W.keyToksAll xs) from rfl, show (Sum.inl 1 :: Sum.inl j :: PySem.W.keyToksAll ys : List (Int ⊕ List Nat)) = [.inl 1] ++ (.inl j :: PySem.W.keyToksAll ys) from rfl, PySem.W.lex_pre, PySem.W.lex_atom (fun z => e (Sum.inl.inj z))]
            by_cases hl : i < j
            · have : PyProof.Rows.itemLt (.inl i) (.inl j) = true := decide_eq_true hl
              rw [decide_eq_true hl]
              exact PyProof.Rows.lex_true.mpr (.inl this)
            · have h1 : PyProof.Rows.itemLt (.inl i) (.inl j) = false := decide_eq_false hl
              have h2 : PyProof.Rows.itemLt (.inl j) (.inl i) = true := decide_eq_true (show j < i by omega)
              rw [decide_eq_false hl]
              exact PyProof.Rows.lex_false.mpr ⟨h1, .inl h2⟩
        | _ => cases h
    | _ => cases h
theorem leQ_eq : leQ = leD' := by
  funext a b
  unfold leQ
  split
  · rename_i i j
    have e : ∀ i j : Int, PyProof.Rows.lexLt PyProof.Rows.itemOrd [.inl i] [.inl j] = decide (i < j) := fun i j => by
      by_cases hl : i < j
      · rw [decide_eq_true hl]
        exact PyProof.Rows.lex_true.mpr (.inl (show PyProof.Rows.itemLt (.inl i) (.inl j) = true from decide_eq_true hl))
      · rw [decide_eq_false hl]
        by_cases h2 : j < i
        · exact PyProof.Rows.lex_false.mpr ⟨show PyProof.Rows.itemLt (.inl i) (.inl j) = false from decide_eq_false hl, .inl (show PyProof.Rows.itemLt (.inl j) (.inl i) = true from decide_eq_true h2)⟩
        · exact PyProof.Rows.lex_false.mpr ⟨show PyProof.Rows.itemLt (.inl i) (.inl j) = false from decide_eq_false hl, .inr rfl⟩
    show _ = !PyProof.Rows.lexLt PyProof.Rows.itemOrd [.inl j] [.inl i]
    rw [e]
  · rename_i xs ys
    split
    · rename_i k hk
      show _ = !PyProof.Rows.lexLt PyProof.Rows.itemOrd (PySem.W.keyToksAll ys) (PySem.W.keyToksAll xs)
      rw [ltQ_ok hk]
    · rfl
  · rfl
def sortedF : List D → Option D
  | [.list ds] => if alikeB ds && sortB ds && lowB ds && decide (ds.length ≤ sizeLine) && PyData.canLayAll0 ds then some (.list (sortI leQ ds)) else none
  | _ => none
theorem RDs.zipMem {K : PySem.W.Frag} {O : Own} {H : Hp} : ∀ {ds : List D} {vs : List V}, RDs K O H ds vs → ∀ p ∈ ds.zip vs, RD K O H p.1 p.2
  | [], _, h, p, hp => by cases h; cases hp
  | d :: ds, _, h, p, hp => by
    cases h with
    | cons a b =>
      rcases List.mem_cons.mp hp with rfl | hp
      · exact a
      · exact b.zipMem p hp
theorem RDs.ofMem {K : PySem.W.Frag} {O : Own} {H : Hp} : ∀ {ps : List (D × V)}, (∀ p ∈ ps, RD K O H p.1 p.2) → RDs K O H (ps.map Prod.fst) (ps.map Prod.snd)
  | [], _ => .nil
  | p :: ps, h => .cons (h p List.mem_cons_self) (RDs.ofMem fun q hq => h q (List.mem_cons_of_mem _ hq))
theorem each_vals {ds : List D} : ∀ {vs : List V} {us : List Value}, ds.length = vs.length → Vals vs us → PySem.W.EachIs (fun u (p : D × V) => RelV p.2 u) us (ds.zip vs) := by
  induction ds with
  | nil =>
    intro vs us hl r
    cases vs with
    | nil => cases r; exact .nil
    | cons _ _ => cases hl
  | cons d ds ih =>
    intro vs us hl r
    cases vs with
    | nil => cases hl
    | cons v vs =>
      cases r with
      | cons a b => exact .cons a (ih (by simpa using hl) b)
theorem each_back : ∀ {out : List Value} {ps : List (D × V)}, PySem.W.EachIs (fun u (p : D × V) => RelV p.2 u) out ps → Vals (ps.map Prod.snd) out
  | _, _, .nil => .nil
  | _, _, .cons a b => .cons a (each_back b)
theorem f_sorted (hu : X.A.units + 64 < cLine) : CallR X (.builtin "sorted") (rF X.K sortedF) := by
  intro pins s σ H vs us Q I r ⟨O, B, ds, z, G, l, ez, q⟩
  unfold sortedF at ez
  simp only [leQ_eq, sortD_eq] at ez
  split at ez
  · rename_i ds
    split at ez
    · rename_i hh
      simp only [Bool.and_eq_true, decide_eq_true_eq] at hh
      obtain ⟨⟨⟨⟨h1, h2⟩, h3⟩, h4⟩, h5⟩ := hh
      cases ez
      obtain ⟨v, rfl, w⟩ := l.one
      have dp := w.dp (by simpa [PyData.canLay0] using h5)
      obtain ⟨a, ws, rfl, hs, rd⟩ := w.rl
      rw [Vals.ref1 r]
      obtain ⟨its, rv, hl, hz⟩ := I.list (.inl hs)
      obtain ⟨as, ra⟩ := Dp.readsAll I ds ws its (RDs.dp _ _ h5 rd) rv
      have hlen : ds.length = ws.length := rd.length
      have efst : (ds.zip ws).map Prod.fst = ds := List.map_fst_zip (by omega)
      have er : PySem.W.EachIs (fun v (b : D × V) => ∃ as, Reads s.heap v b.1 as) its (ds.zip ws) := PySem.W.readsAll_each (h := s.heap) (fun p : D × V => p.1) (by rw [efst]; exact ra)
      have key : ((ds.zip ws).mergeSort (PySem.W.dataLe false fun p : D × V => p.1)).map Prod.fst = ds.mergeSort leD' := by
        rw [List.map_mergeSort (s := leD') (by intro a _ b _; rfl), efst]
      have pm := List.mergeSort_perm (ds.zip ws) (PySem.W.dataLe false fun p : D × V => p.1)
      refine PySem.W.sorted_data (β := D × V) (enc := fun p => p.1) hl.isList (each_vals hlen rv) er ?_ ?_ (by rw [List.length_zip]; omega) ?_ fun out ho eo => ?_
      · rw [show (ds.zip ws).map (fun p => p.1) = ds from efst]
        intro d hd d' hd'
        have := List.all_eq_true.mp h1 d hd
        exact List.all_eq_true.mp this d' hd'
      · rw [show (ds.zip ws).map (fun p => p.1) = ds from efst]
        rcases Bool.or_eq_true_iff.mp h2 with h2 | h2
        · refine .inl fun d hd => ?_
          have := List.all_eq_true.mp h2 d hd
          split at this
          · exact ⟨_, _, rfl⟩
          · cases this
        · refine .inr fun d hd => ?_
          have := List.all_eq_true.mp h2 d hd
          split at this
          · cases this
          · cases this
          · rename_i n1 n2
            exact ⟨n1, n2⟩
      · intro p hp
        have hm : p.1 ∈ ds := by
          rw [← efst]; exact List.mem_map_of_mem hp
        have h5 := List.all_eq_true.mp h3 p.1 hm
        have h6 := of_decide_eq_true h5
        show _ + 2 + p.1.depth < _
        omega
      · obtain ⟨ep, he⟩ := PyProof.Rows.sortedAll_at s.heap its out.toArray
        have vb := each_back eo
        have hl2 : (((ds.zip ws).mergeSort (PySem.W.dataLe false fun p : D × V => p.1)).map Prod.snd).length ≤ sizeLine := by
          rw [List.length_map, pm.length_eq, List.length_zip]
          omega
        have hfree := I.hok.fresh (a := s.heap.objs.size + 1) (Nat.le_succ _)
        refine ⟨.ref _, upd H (s.heap.objs.size + 1) (.lst _), I.laid (t' := s.toks) (fun _ _ => PyProof.Rows.sortedAll_old) (Nat.le_succ _) ⟨hl2, out, ep, vb, he⟩, rfl, q _ _ ?_ (KeepS.upd hfree)⟩
        rw [← key]
        exact RD.newL G hfree (RDs.ofMem fun p hp => rd.zipMem p (pm.mem_iff.mp hp))
    · cases ez
  · cases ez
end
end Fs

/-! M2: a list of one's own becomes data; several names given at once. -/
namespace Fs
open L2 PyProof.Rows PySem.Spec PySem
variable [LT]
section
variable {K : PySem.W.Frag} {g : Gh} {H H' : Hp} {ρ : En} {b b' : Bx} {σ : L2.St} {α : Nat → Addr} {β : Option Addr}
theorem RE.freeze (r : RE K g H ρ b σ α β) {i : Nat} {xs : List D} (e : ρ[i]? = some (.own xs)) : RE K g H (ρ.set i (.v (.list xs))) b σ α β := by
  have hi : i < ρ.length := (List.getElem?_eq_some_iff.mp e).1
  have mono : ∀ a, OW g (ρ.set i (.v (.list xs))) α β a → OW g ρ α β a := own_set (fun _ z => by cases z)
  obtain ⟨vs, e1, e2, e3, e4, e5⟩ := r.own i xs e
  have e0 : ∀ (s : Sl), (ρ.set i (.v (.list xs)))[i]? = some s → s = .v (.list xs) := fun s z => by
    rw [set_at hi] at z; exact (Option.some.inj z).symm
  refine ⟨by simp [r.len], r.evo, r.oft, r.ofo, fun j d q => ?_, fun j ys q => ?_, fun j k ys zs q1 q2 => ?_, fun j ys q => ?_, fun j q => ?_, r.box, r.tt, fun j k q => ?_⟩
  · by_cases hij : i = j
    · subst hij
      cases e0 _ q
      refine ⟨_, e1, .lst ⟨.inl e2, fun z => ?_⟩ (e3.own fun a u _ z => mono a z)⟩
      rcases z with z | z | ⟨j, ys, z, ej⟩
      · obtain ⟨ys, w⟩ := r.oft _ z
        obtain ⟨o, w⟩ := rd_some w
        rw [e4] at w; cases w
      · exact e5 z
      · by_cases hij : i = j
        · subst hij
          cases e0 _ z
        · rw [set_ne hij] at z
          exact hij (r.inj i j _ _ e z ej.symm)
    · rw [set_ne hij] at q
      obtain ⟨v, q1, q2⟩ := r.val j d q
      exact ⟨v, q1, q2.own fun a u _ z => mono a z⟩
  · by_cases hij : i = j
    · subst hij; cases e0 _ q
    · rw [set_ne hij] at q
      obtain ⟨us, q1, q2, q3, q4, q5⟩ := r.own j ys q
      exact ⟨us, q1, q2, q3.own fun a u _ z => mono a z, q4, q5⟩
  · by_cases h1 : i = j
    · subst h1; cases e0 _ q1
    · by_cases h2 : i = k
      · subst h2; cases e0 _ q2
      · rw [set_ne h1] at q1
        rw [set_ne h2] at q2
        exact r.inj j k ys zs q1 q2
  · by_cases hij : i = j
    · subst hij; cases e0 _ q
    · rw [set_ne hij] at q
      obtain ⟨us, q1, q2, q3, q4⟩ := r.lck j ys q
      exact ⟨us, q1, q2, q3, q4.own fun a u _ z => mono a z⟩
  · by_cases hij : i = j
    · subst hij; cases e0 _ q
    · rw [set_ne hij] at q
      exact r.bxs j q
  · by_cases hij : i = j
    · subst hij; cases e0 _ q
    · rw [set_ne hij] at q
      exact r.fns j k q
end
/-- slot i's own list is data from here on -/
def frzM (i : Nat) : MS := fun ρ b => match ρ[i]? with
  | some (.own xs) => .nx (ρ.set i (.v (.list xs))) b
  | _ => .nx ρ b
section
variable {X : Cx} {W : WX} {st : Stmt} {sts : List Stmt} {m n : MS}
theorem sb_frz (i : Nat) (h : SB X W sts n) : SB X W sts (seqM (frzM i) n) := PSs.imp h fun D σ H ⟨g, ρ, b, α, β, r, p⟩ => by
  unfold seqM frzM at p
  split at p
  · rename_i ρ' b' e
    split at e
    · rename_i xs ex
      cases e
      exact ⟨g, _, b, α, β, r.freeze ex, p⟩
    · cases e
      exact ⟨g, ρ, b, α, β, r, p⟩
  · rename_i hn
    split at p
    · rename_i xs ex
      exact (hn (ρ.set i (.v (.list xs))) b (by rw [ex])).elim
    · rename_i hx
      refine (hn ρ b ?_).elim
      split
      · rename_i xs ex
        exact (hx xs ex).elim
      · rfl
end
/-! ### new lists, one by one -/
/-- L is no longer said to be another's -/
def gM (g : Gh) (L : Addr) : Gh := ⟨fun a => if a = L then none else g.H0 a, fun a => g.Of a ∧ a ≠ L, g.fo, g.la, g.T, g.fa⟩
section
variable {K : PySem.W.Frag} {g : Gh} {H H' : Hp} {ρ : En} {b b' : Bx} {σ : L2.St} {α : Nat → Addr} {β : Option Addr}
theorem RE.takeL (r : RE K g H ρ b σ α β) {i : Nat} {L : Addr} {ds : List D} {ws : List V} (hi : i < ρ.length) (hL : g.Of L) (h0 : H L = some (.lst ws)) (hla : ∀ j xs, ρ[j]? = some (.lk xs) → g.la j ≠ L) (l : RDs K (OW g ρ α β) H ds ws) :
    RE K (gM g L) H (ρ.set i (.own ds)) b (σ.set i (some (.ref L))) (fun j => if j = i then L else α j) β ∧ ∀ a, OW (gM g L) (ρ.set i (.own ds)) (fun j => if j = i then L else α j) β a → OW g ρ α β a := by
  have hσ : i < σ.length := by rw [← r.len]; exact hi
  have sub : ∀ a, OW (gM g L) (ρ.set i (.own ds)) (fun j => if j = i then L else α j) β a → OW g ρ α β a := fun a z => by
    rcases z with z | z | ⟨j, xs, e, z⟩
    · exact .inl z.1
    · exact .inr (.inl z)
    · have z : (if j = i then L else α j) = a := z
      by_cases hj : j = i
      · rw [if_pos hj] at z
        exact .inl (z ▸ hL)
      · rw [if_neg hj] at z
        rw [set_ne (Ne.symm hj)] at e
        exact .inr (.inr ⟨j, xs, e, z⟩)
  have nown : ∀ j xs, ρ[j]? = some (.own xs) → α j ≠ L := fun j xs e z => by
    obtain ⟨_, _, _, _, e4, _⟩ := r.own j xs e
    obtain ⟨ys, w⟩ := r.oft _ hL
    obtain ⟨o, w⟩ := rd_some w
    rw [← z, e4] at w; cases w
  have hH0 : ∀ a, a ≠ L → (gM g L).H0 a = g.H0 a := fun a h => if_neg h
  refine ⟨⟨by simp [r.len], fun a u e n => ?_, fun a h => ?_, fun a h => ?_, fun j d e => ?_, fun j xs e => ?_, fun j1 j2 xs ys e1 e2 => ?_, fun j xs e => ?_, fun j e => ?_, ⟨?_, r.box.2⟩, r.tt, fun j k e => ?_⟩, sub⟩
  · by_cases ha : a = L
    · subst ha
      have e : (if a = a then none else g.H0 a) = some u := e
      rw [if_pos rfl] at e; cases e
    · rw [hH0 a ha] at e
      exact r.evo a u e n
  · obtain ⟨xs, w⟩ := r.oft a h.1
    refine ⟨xs, ?_⟩
    rcases w with w | ⟨o, w⟩
    · exact .inl ((hH0 a h.2).trans w)
    · exact .inr ⟨o, (hH0 a h.2).trans w⟩
  · obtain ⟨n, xs, w⟩ := r.ofo a h
    exact ⟨fun z => n z.1, xs, (hH0 a fun z => n (z ▸ hL)).trans w⟩
  · by_cases hij : i = j
    · subst hij
      rw [set_at hi] at e; cases e
    · rw [set_ne hij] at e
      obtain ⟨v, q1, q2⟩ := r.val j d e
      exact ⟨v, by simp [hij, q1], q2.own fun a u _ z => sub a z⟩
  · by_cases hij : i = j
    · subst hij
      rw [set_at hi] at e; cases e
      exact ⟨ws, by simp [hσ], by simpa using h0, l.own fun a u _ z => sub a z, by simp [gM], by simpa using r.ofB hL⟩
    · rw [set_ne hij] at e
      obtain ⟨vs', q1, q2, q3, q4, q5⟩ := r.own j xs e
      rw [if_neg (Ne.symm hij)]
      exact ⟨vs', by simp [hij, q1], q2, q3.own fun a u _ z => sub a z, (hH0 _ (nown j xs e)).trans q4, q5⟩
  · by_cases h1 : i = j1
    · by_cases h2 : i = j2
      · intro _; omega
      · rw [if_pos h1.symm, if_neg (Ne.symm h2)]
        intro z
        rw [set_ne h2] at e2
        exact absurd z.symm (nown j2 ys e2)
    · rw [set_ne h1] at e1
      rw [if_neg (Ne.symm h1)]
      by_cases h2 : i = j2
      · rw [if_pos h2.symm]
        intro z
        exact absurd z (nown j1 xs e1)
      · rw [if_neg (Ne.symm h2)]
        rw [set_ne h2] at e2
        exact r.inj j1 j2 xs ys e1 e2
  · by_cases hij : i = j
    · subst hij
      rw [set_at hi] at e; cases e
    · rw [set_ne hij] at e
      obtain ⟨vs', q1, q2, q3, q4⟩ := r.lck j xs e
      have hj := hla j xs e
      refine ⟨vs', by rw [List.getElem?_set_ne hij]; exact q1, ⟨q2, hj⟩, ?_, q4.own fun a u _ z => sub a z⟩
      rcases q3 with q3 | ⟨o, q3⟩
      · exact .inl ((hH0 _ hj).trans q3)
      · exact .inr ⟨o, (hH0 _ hj).trans q3⟩
  · by_cases hij : i = j
    · subst hij
      rw [set_at hi] at e; cases e
    · rw [set_ne hij] at e
      obtain ⟨a', q1, q2⟩ := r.bxs j e
      exact ⟨a', q1, by simp [hij, q2]⟩
  · have q := r.box.1
    cases b with
    | no => exact q
    | fo x y z => exact q
    | ow x y z =>
      obtain ⟨a, q1, q2, q3, q4⟩ := q
      refine ⟨a, q1, q2, ?_, q4⟩
      show (if a = L then none else g.H0 a) = none
      split
      · rfl
      · exact q3
  · by_cases hij : i = j
    · subst hij
      rw [set_at hi] at e; cases e
    · rw [set_ne hij] at e
      have q := r.fns j k e
      rw [List.getElem?_set_ne hij]
      exact q
/-- the ground with new lists -/
def gS (g : Gh) : List Addr → Gh
  | [] => g
  | L :: S => gS (gD g L []) S
def gMs (g : Gh) : List Addr → Gh
  | [] => g
  | L :: S => gMs (gM g L) S
theorem gS_f : ∀ (S : List Addr) (g : Gh), (gS g S).fo = g.fo ∧ (gS g S).la = g.la ∧ (gS g S).T = g.T ∧ (gS g S).fa = g.fa
  | [], _ => ⟨rfl, rfl, rfl, rfl⟩
  | L :: S, g => by
    obtain ⟨a, b, c, d⟩ := gS_f S (gD g L [])
    exact ⟨a, b, c, d⟩
theorem gMs_f : ∀ (S : List Addr) (g : Gh), (gMs g S).fo = g.fo ∧ (gMs g S).la = g.la ∧ (gMs g S).T = g.T ∧ (gMs g S).fa = g.fa
  | [], _ => ⟨rfl, rfl, rfl, rfl⟩
  | L :: S, g => by
    obtain ⟨a, b, c, d⟩ := gMs_f S (gM g L)
    exact ⟨a, b, c, d⟩
theorem gS_Of : ∀ (S : List Addr) (g : Gh) (a : Addr), (gS g S).Of a ↔ g.Of a ∨ a ∈ S
  | [], g, a => by simp [gS]
  | L :: S, g, a => by
    unfold gS
    rw [gS_Of S]
    simp only [gD, List.mem_cons]
    constructor
    · rintro ((h | h) | h)
      · exact .inl h
      · exact .inr (.inl h)
      · exact .inr (.inr h)
    · rintro (h | h | h)
      · exact .inl (.inl h)
      · exact .inl (.inr h)
      · exact .inr h
theorem gS_H0 : ∀ (S : List Addr) (g : Gh) (a : Addr), a ∉ S → (gS g S).H0 a = g.H0 a
  | [], g, a, _ => rfl
  | L :: S, g, a, h => by
    simp only [List.mem_cons, not_or] at h
    unfold gS
    rw [gS_H0 S _ a h.2]
    exact upd_ne h.1
theorem gMs_Of : ∀ (S : List Addr) (g : Gh) (a : Addr), (gMs g S).Of a ↔ g.Of a ∧ a ∉ S
  | [], g, a => by simp [gMs]
  | L :: S, g, a => by
    unfold gMs
    rw [gMs_Of S]
    simp only [gM, List.mem_cons, not_or, and_assoc]
theorem gMs_H0 : ∀ (S : List Addr) (g : Gh) (a : Addr), (gMs g S).H0 a = if a ∈ S then none else g.H0 a
  | [], g, a => by simp [gMs]
  | L :: S, g, a => by
    unfold gMs
    rw [gMs_H0 S]
    simp only [gM, List.mem_cons]
    by_cases h1 : a ∈ S <;> by_cases h2 : a = L <;> simp [h1, h2]
theorem gMs_gS {S : List Addr} (h : ∀ L ∈ S, g.H0 L = none ∧ ¬ g.Of L) : gMs (gS g S) S = g := by
  obtain ⟨a1, a2, a3, a4⟩ := gMs_f S (gS g S)
  obtain ⟨c1, c2, c3, c4⟩ := gS_f S g
  have e1 : (gMs (gS g S) S).H0 = g.H0 := funext fun a => by
    rw [gMs_H0]
    by_cases ha : a ∈ S
    · rw [if_pos ha, (h a ha).1]
    · rw [if_neg ha, gS_H0 S g a ha]
  have e2 : (gMs (gS g S) S).Of = g.Of := funext fun a => propext (by
    rw [gMs_Of, gS_Of]
    constructor
    · rintro ⟨z | z, n⟩
      · exact z
      · exact absurd z n
    · exact fun z => ⟨.inl z, fun q => (h a q).2 z⟩)
  cases hg : gMs (gS g S) S with
  | mk H0 Of fo la T fa =>
    rw [hg] at e1 e2 a1 a2 a3 a4
    cases g
    simp only at *
    subst e1 e2
    simp_all
end
/-! ### several expressions, some of them new empty lists -/
def parE : List (Option (ME D)) → ME (List (Option D))
  | [] => fun _ b => .ok [] b
  | none :: ks => bindM (parE ks) fun ds _ b => .ok (none :: ds) b
  | some m :: ks => bindM m fun d => bindM (parE ks) fun ds _ b => .ok (some d :: ds) b
inductive RelM (K : PySem.W.Frag) (O : Own) (H : Hp) : List (Option D) → List V → List Addr → Prop
  | nil : RelM K O H [] [] []
  | new {L : Addr} {ds : List (Option D)} {vs : List V} {S : List Addr} : RelM K O H ds vs S → RelM K O H (none :: ds) (.ref L :: vs) (L :: S)
  | dat {d : D} {v : V} {ds : List (Option D)} {vs : List V} {S : List Addr} : RD K O H d v → RelM K O H ds vs S → RelM K O H (some d :: ds) (v :: vs) S
theorem RelM.own {K : PySem.W.Frag} {O O' : Own} {H : Hp} (h : ∀ a, O' a → O a) : ∀ {ds : List (Option D)} {vs : List V} {S : List Addr}, RelM K O H ds vs S → RelM K O' H ds vs S
  | _, _, _, .nil => .nil
  | _, _, _, .new q => .new (q.own h)
  | _, _, _, .dat a q => .dat (a.own fun _ _ _ z => h _ z) (q.own h)
theorem RelM.keep {K : PySem.W.Frag} {O : Own} {H H' : Hp} (h : Keep O H H') : ∀ {ds : List (Option D)} {vs : List V} {S : List Addr}, RelM K O H ds vs S → RelM K O H' ds vs S
  | _, _, _, .nil => .nil
  | _, _, _, .new q => .new (q.keep h)
  | _, _, _, .dat a q => .dat (a.keep h) (q.keep h)
theorem RelM.len {K : PySem.W.Frag} {O : Own} {H : Hp} : ∀ {ds : List (Option D)} {vs : List V} {S : List Addr}, RelM K O H ds vs S → ds.length = vs.length
  | _, _, _, .nil => rfl
  | _, _, _, .new q => by simp [q.len]
  | _, _, _, .dat _ q => by simp [q.len]
def PostM (Z : Zx) (W : WX) (g : Gh) (ρ : En) (α : Nat → Addr) (β : Option Addr) (σ : L2.St) (H : Hp) (Q : List V → Hp → Prop) : R (List (Option D)) → Prop
  | .ok ds b' => ∀ vs S H', RE Z.K (gS g S) H' ρ b' σ α β → RelM Z.K (OW (gS g S) ρ α β) H' ds vs S → Keep (Bs β) H H' → (∀ L ∈ S, H L = none ∧ H' L = some (.lst [])) → S.Nodup → Q vs H'
  | .ex e b' => ∀ cls dd H', ExR Z (OW g ρ α β) H' e cls dd → Keep (Bs β) H H' → BxR g H' b' β → W cls dd σ H'
  | .bad => False
def tM (Z : Zx) (W : WX) (ks : List (Option (ME D))) : TA := fun σ H Q => ∃ g ρ b α β, RE Z.K g H ρ b σ α β ∧ PostM Z W g ρ α β σ H Q (parE ks ρ b)
def SM (X : Cx) (W : WX) (es : List Expr) (ks : List (Option (ME D))) : Prop := PA X es (tM (Cx.z X) W ks)
theorem boxD' {g : Gh} {H : Hp} {b : Bx} {β : Option Addr} {L : Addr} {ws : List V} (q : BxR (gD g L ws) H b β) : BxR g H b β := by
  refine ⟨?_, q.2⟩
  have q := q.1
  cases b with
  | no => exact q
  | fo x y z => exact q
  | ow x y z =>
    obtain ⟨a, q1, q2, q3, q4⟩ := q
    refine ⟨a, q1, q2, ?_, q4⟩
    have q3 : upd g.H0 L (.lst ws) a = none := q3
    have ha : a ≠ L := fun z => by rw [z, upd_same] at q3; cases q3
    rw [upd_ne ha] at q3
    exact q3
section
variable {X : Cx} {W : WX} {e : Expr} {es : List Expr} {ks : List (Option (ME D))} {m : ME D} {pos : Pos}
theorem sm_nil : SM X W [] [] := PA.imp pa_nil fun σ H Q ⟨g, ρ, b, α, β, r, p⟩ => p [] [] H r .nil (Keep.refl _ _) (fun _ h => by cases h) .nil
theorem sm_new (hr : SM X W es ks) (hs : starEach (.List [] pos :: es) X.env = (false, eval (.List [] pos) X.env) :: starEach es X.env := by rfl) : SM X W (.List [] pos :: es) (none :: ks) :=
  PA.imp (pa_cons (pe_lst pa_nil) hr hs) fun σ H Q ⟨g, ρ, b, α, β, r, p⟩ => by
    refine ⟨Nat.zero_le _, fun L hL => ?_⟩
    have r1 := r.addD hL
    refine ⟨gD g L [], ρ, b, α, β, r1, ?_⟩
    unfold parE bindM at p
    cases ek : parE ks ρ b with
    | ok ds b' =>
      rw [ek] at p
      have p : PostM (Cx.z X) W g ρ α β σ H Q (.ok (none :: ds) b') := p
      intro vs S H' r2 rel k hS nd
      have at' : H' L = some (.lst []) := by
        have h1 : (upd H L (.lst [])) L = some (.lst []) := upd_same
        exact (k L _ h1 (fun z => r1.ofB (show (gD g L []).Of L from .inr rfl) z))
      have hk : Keep (Bs β) H H' := (Keep.upd hL).trans k
      refine p (.ref L :: vs) (L :: S) H' r2 (.new rel) hk (fun M hM => ?_) (List.nodup_cons.mpr ⟨fun z => ?_, nd⟩)
      · rcases List.mem_cons.mp hM with rfl | hM
        · exact ⟨hL, at'⟩
        · refine ⟨?_, (hS M hM).2⟩
          have := (hS M hM).1
          by_cases hh : M = L
          · rw [hh, upd_same] at this; cases this
          · rw [upd_ne hh] at this; exact this
      · have := (hS L z).1
        rw [upd_same] at this; cases this
    | ex x b' =>
      rw [ek] at p
      have p : PostM (Cx.z X) W g ρ α β σ H Q (.ex x b') := p
      intro cls dd H' hx k q
      refine p cls dd H' ?_ ((Keep.upd hL).trans k) (boxD' q)
      obtain ⟨C, h1, h2, h3⟩ := hx
      refine ⟨C, h1, h2, ?_⟩
      cases ea : x.arg with
      | none => rw [ea] at h3; exact h3
      | some d =>
        rw [ea] at h3
        obtain ⟨p', v, q1, q2, q3⟩ := h3
        refine ⟨p', v, q1, q2, q3.own fun a u _ z => ?_⟩
        rcases z with z | z
        · exact .inl (.inl z)
        · exact .inr z
    | bad => rw [ek] at p; exact p.elim
theorem sm_cons (ha : SE X W e m) (hr : SM X W es ks) (hs : starEach (e :: es) X.env = (false, eval e X.env) :: starEach es X.env := by rfl) : SM X W (e :: es) (some m :: ks) :=
  PA.imp (pa_cons ha hr hs) fun σ H Q ⟨g, ρ, b, α, β, r, p⟩ => by
    refine ⟨g, ρ, b, α, β, r, ?_⟩
    unfold parE bindM at p
    cases em : m ρ b with
    | ex x b' => rw [em] at p; exact p
    | bad => rw [em] at p; exact p
    | ok d b1 =>
      rw [em] at p
      refine fun v H1 l k1 q1 => ?_
      have r1 := r.step k1 q1
      refine ⟨g, ρ, b1, α, β, r1, ?_⟩
      have p : PostM (Cx.z X) W g ρ α β σ H Q (bindM (parE ks) (fun ds _ b => .ok (some d :: ds) b) ρ b1) := p
      unfold bindM at p
      cases ek : parE ks ρ b1 with
      | ok ds b' =>
        rw [ek] at p
        have p : PostM (Cx.z X) W g ρ α β σ H Q (.ok (some d :: ds) b') := p
        intro vs S H' r2 rel k2 hS nd
        refine p (v :: vs) S H' r2 (.dat ?_ rel) (k1.trans k2) (fun L hL => ⟨?_, (hS L hL).2⟩) nd
        · have l1 : RD X.K (OW (gS g S) ρ α β) H1 d v := l.own fun a u eu z => by
            rcases z with z | z
            · rcases (gS_Of S g a).mp z with z | z
              · exact .inl z
              · have := (hS a z).1
                rw [eu] at this; cases this
            · exact .inr z
          exact l1.keep (k2.mono fun a z => .inr (.inl z))
        · have hL' := (hS L hL).1
          refine Keep.free k1 (fun z => ?_) hL'
          obtain ⟨xs, w⟩ := r1.ownL L (.inr (.inl z))
          obtain ⟨o, w⟩ := rd_some w
          rw [hL'] at w; cases w
      | ex x b' =>
        rw [ek] at p
        have p : PostM (Cx.z X) W g ρ α β σ H Q (.ex x b') := p
        exact fun cls dd H' hx k2 q2 => p cls dd H' hx (k1.trans k2) q2
      | bad => rw [ek] at p; exact p.elim
end
/-! ### the names are given -/
def setAll : En → List Nat → List (Option D) → Option En
  | ρ, [], [] => some ρ
  | ρ, i :: is, none :: ds => if i < ρ.length then setAll (ρ.set i (.own [])) is ds else none
  | ρ, i :: is, some d :: ds => if i < ρ.length then setAll (ρ.set i (.v d)) is ds else none
  | _, _, _ => none
def setVs : L2.St → List Nat → List V → L2.St
  | σ, i :: is, v :: vs => setVs (σ.set i (some v)) is vs
  | σ, _, _ => σ
def parM (is : List Nat) (ks : List (Option (ME D))) : MS := exprM (parE ks) fun ds ρ b => match setAll ρ is ds with
  | some ρ' => .nx ρ' b
  | none => .bad
theorem setAll_re {K : PySem.W.Frag} {H : Hp} {b : Bx} {β : Option Addr} : ∀ (ds : List (Option D)) (is : List Nat) (vs : List V) (S : List Addr) (g : Gh) (ρ ρ' : En) (σ : L2.St) (α : Nat → Addr), RE K g H ρ b σ α β → RelM K (OW g ρ α β) H ds vs S →
    (∀ L ∈ S, g.Of L ∧ H L = some (.lst []) ∧ ∀ j xs, ρ[j]? = some (.lk xs) → g.la j ≠ L) → S.Nodup → setAll ρ is ds = some ρ' → ∃ α', RE K (gMs g S) H ρ' b (setVs σ is vs) α' β
  | [], is, vs, S, g, ρ, ρ', σ, α, r, rel, hS, nd, e => by
    cases rel
    cases is with
    | nil => cases e; exact ⟨α, r⟩
    | cons _ _ => cases e
  | none :: ds, is, vs, S, g, ρ, ρ', σ, α, r, rel, hS, nd, e => by
    cases rel with
    | new rel =>
      rename_i L vs S
      cases is with
      | nil => cases e
      | cons i is =>
        unfold setAll at e
        split at e
        · rename_i hi
          obtain ⟨h1, h2, h3⟩ := hS L List.mem_cons_self
          obtain ⟨r1, sub⟩ := r.takeL hi h1 h2 h3 (ds := []) .nil
          refine setAll_re ds is vs S (gM g L) _ ρ' _ _ r1 (rel.own sub) (fun M hM => ?_) (List.nodup_cons.mp nd).2 e
          obtain ⟨m1, m2, m3⟩ := hS M (List.mem_cons_of_mem _ hM)
          refine ⟨⟨m1, fun z => (List.nodup_cons.mp nd).1 (z ▸ hM)⟩, m2, fun j xs ej => ?_⟩
          by_cases hij : i = j
          · subst hij
            rw [set_at hi] at ej; cases ej
          · rw [set_ne hij] at ej
            exact m3 j xs ej
        · cases e
  | some d :: ds, is, vs, S, g, ρ, ρ', σ, α, r, rel, hS, nd, e => by
    cases rel with
    | dat l rel =>
      rename_i v vs
      cases is with
      | nil => cases e
      | cons i is =>
        unfold setAll at e
        split at e
        · rename_i hi
          refine setAll_re ds is vs S g _ ρ' _ α (r.setV (by rw [← r.len]; exact hi) l) (rel.own fun a z => own_set (fun _ z => by cases z) a z) (fun M hM => ?_) nd e
          obtain ⟨m1, m2, m3⟩ := hS M hM
          refine ⟨m1, m2, fun j xs ej => ?_⟩
          by_cases hij : i = j
          · subst hij
            rw [set_at hi] at ej; cases ej
          · rw [set_ne hij] at ej
            exact m3 j xs ej
        · cases e
section
variable {X : Cx} {W : WX} {es : List Expr} {ks : List (Option (ME D))} {is : List Nat}
theorem par_read {D : Ends} {σ : L2.St} {H : Hp} (h : tS (Cx.z X) W (parM is ks) D σ H) : tM (Cx.z X) W ks σ H fun vs H' => vs.length = is.length ∧ D.nx (setVs σ is vs) H' ∧ ∀ p, H' p = none → D.nx (setVs σ is vs) (upd H' p (.tup vs)) := by
  obtain ⟨g, ρ, b, α, β, r, p⟩ := h
  refine ⟨g, ρ, b, α, β, r, ?_⟩
  unfold parM exprM at p
  cases ek : parE ks ρ b with
  | ex x b' =>
    rw [ek] at p
    exact fun cls dd H' hx k q => p cls dd σ H' α β (r.step k q) hx
  | bad => rw [ek] at p; exact p.elim
  | ok ds b' =>
    rw [ek] at p
    intro vs S H' r2 rel k hS nd
    simp only at p
    cases es : setAll ρ is ds with
    | none => rw [es] at p; exact p.elim
    | some ρ' =>
      rw [es] at p
      have hlen : ∀ (ds : List (Option PyData)) (is : List Nat) (ρ ρ' : En), setAll ρ is ds = some ρ' → is.length = ds.length := by
        intro ds
        induction ds with
        | nil =>
          intro is ρ ρ' h
          cases is with
          | nil => rfl
          | cons _ _ => cases h
        | cons o ds ih =>
          intro is ρ ρ' h
          cases is with
          | nil => cases o <;> cases h
          | cons i is =>
            cases o with
            | none =>
              unfold setAll at h
              split at h
              · simp [ih _ _ _ h]
              · cases h
            | some d =>
              unfold setAll at h
              split at h
              · simp [ih _ _ _ h]
              · cases h
      have hl := hlen ds is ρ ρ' es
      have g0 : ∀ L ∈ S, g.H0 L = none ∧ ¬ g.Of L := fun L hL => ⟨free_back0 r (hS L hL).1, fun z => by
        obtain ⟨xs, w⟩ := r.ownL L (.inl z)
        obtain ⟨o, w⟩ := rd_some w
        rw [(hS L hL).1] at w; cases w⟩
      have hla : ∀ L ∈ S, ∀ j xs, ρ[j]? = some (.lk xs) → (gS g S).la j ≠ L := fun L hL j xs e => by
        rw [(gS_f S g).2.1]
        exact r.lkL (hS L hL).1 j xs e
      have fin : ∀ H2, RE X.K (gS g S) H2 ρ b' σ α β → RelM X.K (OW (gS g S) ρ α β) H2 ds vs S → (∀ L ∈ S, H2 L = some (.lst [])) → D.nx (setVs σ is vs) H2 := fun H2 r3 rel3 h3 => by
        obtain ⟨α', r4⟩ := setAll_re ds is vs S (gS g S) ρ ρ' σ α r3 rel3 (fun L hL => ⟨(gS_Of S g L).mpr (.inr hL), h3 L hL, hla L hL⟩) nd es
        rw [gMs_gS g0] at r4
        exact p _ H2 α' β r4
      refine ⟨by rw [hl, rel.len], fin H' r2 rel fun L hL => (hS L hL).2, fun q hq => ?_⟩
      have ks : KeepS H' (upd H' q (.tup vs)) := KeepS.upd hq
      exact fin _ (r2.step ks.of0 (r2.box.keep0 ks)) (rel.keep ks.of0) fun L hL => ks _ _ (hS L hL).2
theorem setVs2 {σ : L2.St} {i j : Nat} {v w : V} : setVs σ [i, j] [v, w] = (σ.set i (some v)).set j (some w) := rfl
variable {a b c : Expr} {x y z : Str} {px py pz pt pos : Pos} {i j l : Nat}
theorem ss_par2 {kt k2 pt2} (hc : X.calm = true) (hN : X.N.Nodup) (hi : X.N[i]? = some x) (hj : X.N[j]? = some y) (hij : i ≠ j)
    (hx : X.env.scope.names.lookup x = some .local) (hy : X.env.scope.names.lookup y = some .local) (ha : SM X W [a, b] ks)
    (hw : swappedStores [.Tuple [.Name x px, .Name y py] kt pt] (.Tuple [a, b] k2 pt2) X.env = pure (some [x, y]))
    (hs : swapsWithSole [.Tuple [.Name x px, .Name y py] kt pt] (.Tuple [a, b] k2 pt2) pos.line X.env = pure false := by rfl) :
    SS X W (.Assign [.Tuple [.Name x px, .Name y py] kt pt] (.Tuple [a, b] k2 pt2) pos) (parM [i, j] ks) :=
  PS.imp (ps_par hc hN hi hj hij hx hy ha hw hs) fun D σ H h => by
    obtain ⟨g, ρ, b, α, β, r, p⟩ := par_read h
    refine ⟨g, ρ, b, α, β, r, ?_⟩
    cases ek : parE ks ρ b with
    | ok ds b' =>
      rw [ek] at p
      intro vs S H' r2 rel k hS nd
      obtain ⟨h1, h2, _⟩ := p vs S H' r2 rel k hS nd
      match vs, h1, h2 with
      | [v, w], _, h2 => exact ⟨v, w, rfl, h2⟩
    | ex x b' => rw [ek] at p; exact p
    | bad => rw [ek] at p; exact p
theorem ss_par3 {kt k2 pt2} (hc : X.calm = true) (hN : X.N.Nodup) (hi : X.N[i]? = some x) (hj : X.N[j]? = some y) (hl : X.N[l]? = some z) (hij : i ≠ j) (hil : i ≠ l) (hjl : j ≠ l)
    (hx : X.env.scope.names.lookup x = some .local) (hy : X.env.scope.names.lookup y = some .local) (hz : X.env.scope.names.lookup z = some .local) (ha : SM X W [a, b, c] ks)
    (hw : swappedStores [.Tuple [.Name x px, .Name y py, .Name z pz] kt pt] (.Tuple [a, b, c] k2 pt2) X.env = pure (some [x, y, z]))
    (hs : swapsWithSole [.Tuple [.Name x px, .Name y py, .Name z pz] kt pt] (.Tuple [a, b, c] k2 pt2) pos.line X.env = pure false := by rfl) :
    SS X W (.Assign [.Tuple [.Name x px, .Name y py, .Name z pz] kt pt] (.Tuple [a, b, c] k2 pt2) pos) (parM [i, j, l] ks) :=
  PS.imp (ps_par3 hc hN hi hj hl hij hil hjl hx hy hz ha hw hs) fun D σ H h => by
    obtain ⟨g, ρ, b, α, β, r, p⟩ := par_read h
    refine ⟨g, ρ, b, α, β, r, ?_⟩
    cases ek : parE ks ρ b with
    | ok ds b' =>
      rw [ek] at p
      intro vs S H' r2 rel k hS nd
      obtain ⟨h1, h2, _⟩ := p vs S H' r2 rel k hS nd
      match vs, h1, h2 with
      | [u, v, w], _, h2 => exact ⟨u, v, w, rfl, h2⟩
    | ex x b' => rw [ek] at p; exact p
    | bad => rw [ek] at p; exact p
/-- names, one by one -/
def gNames : List Nat → TGs
  | [] => gNil
  | i :: is => gCons (gName i) (gNames is)
theorem gNames_at : ∀ {is : List Nat} {vs : List V} {σ : L2.St} {H : Hp} {Q : L2.St → Hp → Prop}, vs.length = is.length → Q (setVs σ is vs) H → gNames is vs σ H Q
  | [], [], _, _, _, _, q => ⟨rfl, q⟩
  | [], _ :: _, _, _, _, h, _ => by cases h
  | _ :: _, [], _, _, _, h, _ => by cases h
  | i :: is, v :: vs, _, _, _, h, q => ⟨v, vs, rfl, gNames_at (by simpa using h) q⟩
theorem ss_parN {tgs : List Expr} {kt k2 : Nat} {pt pt2 pos : Pos} (hc : X.calm = true) (hg : PGs X tgs (gNames is)) (hlen : (assignEach tgs X.env).length = is.length) (hz : is.length ≤ sizeLine) (hst : (assignEach tgs X.env).findIdx? (·.1) = none) (ha : SM X W es ks)
    (hs : swapsWithSole [.Tuple tgs kt pt] (.Tuple es k2 pt2) pos.line X.env = pure false) (hw : swappedStores [.Tuple tgs kt pt] (.Tuple es k2 pt2) X.env = pure none)
    (h1 : (assignEach [.Tuple tgs kt pt] X.env).map (·.2) = [assign (.Tuple tgs kt pt) X.env] := by rfl) :
    SS X W (.Assign [.Tuple tgs kt pt] (.Tuple es k2 pt2) pos) (parM is ks) :=
  PS.imp (ps_asg (pe_tup ha) (pg_tup hc hg hlen hst) hs hw h1) fun D σ H h => by
    obtain ⟨g, ρ, b, α, β, r, p⟩ := par_read h
    refine ⟨g, ρ, b, α, β, r, ?_⟩
    cases ek : parE ks ρ b with
    | ok ds b' =>
      rw [ek] at p
      intro vs S H' r2 rel k hS nd
      obtain ⟨h1, _, h3⟩ := p vs S H' r2 rel k hS nd
      refine ⟨by rw [h1]; exact hz, fun q hq => ⟨q, vs, rfl, .inl (.inl upd_same), h1, gNames_at h1 (h3 q hq)⟩⟩
    | ex x b' => rw [ek] at p; exact p
    | bad => rw [ek] at p; exact p
end
end Fs

/-! M3: enumerate, zip. -/
namespace Fs
open L2 PyProof.Rows PySem.Spec PySem
variable [LT]
/-! ### enumerate of a tuple -/
theorem enum_new1 {v : Value} {ob : Obj} {J : Heap → Prop} (B : Begins v ob J) :
    Meets (Builtin.«enumerate.__new__» ⟨[.type "enumerate", v], []⟩) (fun _ R s => J s.heap ∧ R (.ok (.ret (.ref (s.heap.push ob).objs.size)))
      { s with heap := (s.heap.push ob).push { cls := .type "enumerate", data := .fields #[.none, .bool false, .ref s.heap.objs.size, rawInt 0, .none, .none] } }) :=
  .of_wp fun prog w A R st hst => by
    obtain ⟨hp, gg, dd, tk, os⟩ := st
    obtain ⟨hj, hst⟩ := hst
    have e0 := sub_enumerate
    have go1 : ∀ {A1 : Around} {E1 : Value → Shared → Prop} {Q1 : Value → Shared → Prop}, Q1 (.ref hp.objs.size) ⟨hp.push ob, gg, dd, tk, os⟩ → wpAny (model prog w) A1 (pyIter v) Q1 E1 ⟨hp, gg, dd, tk, os⟩ := fun q => B.iter prog w _ _ _ _ hj q
    wp_walk using go1
    refine wpAny_stack_any fun stk => wpAny_pure ?_
    split
    · rename_i cc _ _ _ _ _
      cases (cc == Value.type "enumerate") <;> (wp_walk using go1) <;> exact ⟨_, rfl, hst⟩
    · wp_walk using go1
      exact ⟨_, rfl, hst⟩
section
variable {prog : Program} {w : World} {A : Around} {E : Value → Shared → Prop} {s : Shared}
theorem enum_call1 {v : Value} {ob : Obj} {J : Heap → Prop} {Q : Value → Shared → Prop} (B : Begins v ob J) (hj : J s.heap)
    (h : ∀ h', IsEnum h' (s.heap.objs.size + 1) s.heap.objs.size 0 .none → h'.get? s.heap.objs.size = some ob → h'.objs.size = s.heap.objs.size + 2 → (∀ b o, s.heap.get? b = some o → h'.get? b = some o) → Q (.ref (s.heap.objs.size + 1)) { s with heap := h' }) :
    wpAny (model prog w) A (call (.type "enumerate") [v]) Q E s := by
  refine callType_new F.called_enumerate (by decide) (F.typeCall_enumerate_1 _) (F.newCall_enumerate_1 _) (fun obj => F.args_object_init_2 obj _) F.entry_enumerate_new (enum_new1 B) ⟨hj, ?_⟩
  have sz1 : (s.heap.push ob).objs.size = s.heap.objs.size + 1 := Heap.size_push ..
  show _ ∧ _
  rw [sz1]
  generalize hh : (s.heap.push ob).push { cls := .type "enumerate", data := .fields #[.none, .bool false, .ref s.heap.objs.size, rawInt 0, .none, .none] } = h2
  have at1 : IsEnum h2 (s.heap.objs.size + 1) s.heap.objs.size 0 .none := by
    rw [← hh, ← sz1]
    exact Heap.get?_push_size _ rfl
  refine ⟨⟨_, at1, rfl⟩, h h2 at1 ?_ ?_ fun b o x => ?_⟩
  · rw [← hh]
    exact Heap.get?_push_of_some _ (Heap.get?_push_size _ B.free)
  · rw [← hh, Heap.size_push, sz1]
  · rw [← hh]
    exact Heap.get?_push_of_some _ (Heap.get?_push_of_some _ x)
end
/-- the tuple at a, each item in a new pair -/
def Iten (K : PySem.W.Frag) (a : Addr) : It :=
  ⟨fun i H => ∃ (xs : List V) (x : V), SqT K H a xs ∧ xs[i]? = some x, fun i H v H' => ∃ T x, v = .ref T ∧ H T = none ∧ H' = upd H T (.tup [.int (i : Nat), x]) ∧ ∀ xs, SqT K H a xs → xs[i]? = some x, fun i H => ∃ xs : List V, SqT K H a xs ∧ xs.length ≤ i⟩
theorem turn_enT {P : Program} {w : World} {K : PySem.W.Frag} {elts : List Expr} {kk : Nat} {tpos : Pos} (a e it : Addr) :
    Turn P w K (.Tuple elts kk tpos) (Iten K a) [e, it] e (fun i h => (∃ old, IsEnum h e it ((i : Nat) : Int) old) ∧ h.IsTupleIter it a i ∧ e ≠ it ∧ a ≠ it ∧ e ≠ a) where
  mem := by simp
  obj := fun i h st b hb => by
    obtain ⟨⟨old, he⟩, ⟨o, ho, hcl, hd⟩, _⟩ := st
    rcases List.mem_cons.mp hb with z | z
    · rw [z]; exact ⟨_, he, fun v q => nomatch q⟩
    · rw [List.mem_singleton.mp z]; exact ⟨o, ho, fun v q => by rw [hd] at q; cases q⟩
  keep := fun i h h' st k => by
    obtain ⟨⟨old, he⟩, hi, hne⟩ := st
    exact ⟨⟨old, k e (by simp) _ he⟩, hi.at fun o q => k it (by simp) o q, hne⟩
  item := by
    intro X hP hw hK hc i pins s σ H E I hf st hg
    subst hP hw hK
    obtain ⟨⟨old, he⟩, hit, hne, hai, hea⟩ := st
    obtain ⟨xs, x, hq, hx⟩ := hg
    obtain ⟨its, rv, p, hz⟩ := I.tuple hq
    obtain ⟨u, hu, ru⟩ := rv.get hx
    have hi : i < its.toArray.size := by
      have := (List.getElem?_eq_some_iff.mp hu).1
      simpa using this
    have hel : e < s.heap.objs.size := Heap.lt_size he
    have hil : it < s.heap.objs.size := by obtain ⟨_, q, _⟩ := hit; exact Heap.lt_size q
    refine wpAny_pyNext_enum_itemD (Draws.tuple (A := X.A.in1) (I.ok.hd hc) it a hai its.toArray) he ⟨hit, isTup_of p⟩ hi hne (by simp [hne, hea]) fun y h' tk hy ho hs' hT hsz hk => ?_
    have ey : y = u := by
      have e1 : its.toArray[i]? = some y := hy
      rw [List.getElem?_toArray, hu] at e1
      exact (Option.some.inj e1).symm
    subst ey
    refine ⟨_, rfl, wpAny_letOwnedTupleGo_enum (s := { s with heap := h', toks := tk + 1 }) ho fun h'' he' sb => ?_⟩
    have hT2 : h''.get? s.heap.objs.size = some { cls := .type "tuple", data := .seq #[.int i tk, y] } := (sb.2 _ (Nat.ne_of_gt hel)).trans hT
    have new : ObjOk X.prog X.w (upd H s.heap.objs.size (.tup [.int (i : Nat), x])) h'' s.heap.objs.size (.tup [.int (i : Nat), x]) :=
      ⟨by rw [sizeLine_eq]; simp, [.int i tk, y], .cons ⟨_, rfl⟩ (.cons ru .nil), ⟨_, hT2, rfl, _, rfl⟩⟩
    have I1 : Inv X pins σ (upd H s.heap.objs.size (.tup [.int (i : Nat), x])) { s with heap := h'', toks := tk + 1 } :=
      I.turnedNew (ch := [e, it]) (fun b ob hb q => (sb.2 b (fun z => hb (by simp [z]))).trans (hk b ob (fun z => hb (by simp [z])) (fun z => hb (by simp [z])) q)) hf (Nat.le_refl _) new
    refine ⟨.ref s.heap.objs.size, _, I1, rfl, ⟨_, x, rfl, I.hok.fresh (Nat.le_refl _), rfl, fun ys hy => by rw [I.tuple_inj hy hq]; exact hx⟩, ⟨⟨y, ?_⟩, hs'.1.at fun o q => (sb.2 it (Ne.symm hne)).trans q, hne, hai, hea⟩, fun b hb => ?_⟩
    · rw [show ((i + 1 : Nat) : Int) = (i : Int) + 1 by omega]; exact he'
    · have hb' : b < s.heap.objs.size := by
        rcases List.mem_cons.mp hb with z | z
        · rw [z]; exact hel
        · rw [List.mem_singleton.mp z]; exact hil
      rw [upd_ne (Nat.ne_of_lt hb')]
      exact (hf b hb).1
  done := by
    intro X hP hw hK hc i pins s σ H E I hf st hg
    subst hP hw hK
    obtain ⟨⟨old, he⟩, hit, hne, hai, hea⟩ := st
    obtain ⟨xs, hq, hx⟩ := hg
    obtain ⟨its, rv, p, hz⟩ := I.tuple hq
    obtain ⟨f0, f1, f2, f3, f4, f5⟩ := hf it (by simp)
    have hl := rv.length
    have nn : its.toArray[i]? = none := by
      rw [List.getElem?_toArray, List.getElem?_eq_none]
      omega
    have hT : s.TypeIs (.ref e) "enumerate" := ⟨_, he, rfl⟩
    unfold pyNext
    refine wpAny_bind (wpAny_attempt (wpAny_callSpecial?_slot (name := Str.ofString "__next__") hT F.slot_enumerate_next (wpAny_call_entry F.slot_enumerate_next hT F.entry_enumerate_next ?_ (F.args_enumerate_next_1 _))))
    show wpAny _ _ (field (.ref e) 2 >>= _) _ _ _
    refine wpAny_bind (wpAny_field he rfl (x := .ref it) rfl ?_)
    refine wpAny_bind (wpAny_nextOf_tuple_end (A := X.A.in1) (I.ok.hd hc) hit (isTup_of p) nn fun h' x he' hx' => ?_)
    obtain ⟨o, ho, hcl⟩ := hx'
    refine wpAny_bind (wpAny_isInstance (T := "StopIteration") (b := true) ⟨o, ho, hcl⟩ isSubtype_stop ?_)
    exact wpAny_pure ⟨rfl, I.turned (t' := s.toks) (fun b o hb q => he' b o hb q) f0 f1 f3 f4 f5⟩
  self := fun A i s Q E st h => by
    obtain ⟨⟨_, he⟩, _⟩ := st
    exact wpAny_pyIter_enum he h
def iEnT (K : PySem.W.Frag) (ta : TA) : TI := fun σ H R => ta σ H fun vs H1 => ∃ a xs, vs = [.ref a] ∧ SqT K H1 a xs ∧ R (Iten K a) H1
theorem pi_enT {X : Cx} {e : Expr} {ta : TA} {p pos tpos : Pos} {elts : List Expr} {kk : Nat} (hg : Gl X "enumerate") (hm : X.mg "enumerate" = none) (ha : PA X [e] ta) (hs : starEach [e] X.env = [(false, eval e X.env)] := by rfl) :
    PI X (.Tuple elts kk tpos) (.Call (.Name "enumerate" p) [e] [] pos) (iEnT X.K ta) := by
  refine ⟨fun pins s σ H R I h => ?_⟩
  refine Call_ (ld_blt I hg hm boot_enumerate (PyProof.Rows.callWith_type1 (thn (ha.run pos pins s σ H _ I h) fun us s1 ⟨vs, H1, I1, r1, q1⟩ => ?_) hs rfl))
  obtain ⟨a, xs, ex, hq, q⟩ := q1
  subst ex
  obtain rfl := Vals.ref1 r1
  obtain ⟨its, rv, p', hz⟩ := I1.tuple hq
  have hal : a < s1.heap.objs.size := by
    obtain ⟨o, ho, _⟩ := p'
    exact Heap.lt_size ho
  refine enum_call1 (begins_tuple a its.toArray) (isTup_of p') fun h' he hit hsz hk => wpAny_pyIter_enum he ?_
  have I2 : Inv X pins σ H1 { s1 with heap := h' } := I1.kept (t' := s1.toks) hk
  refine ⟨s1.heap.objs.size + 1, [s1.heap.objs.size + 1, s1.heap.objs.size], _, _, H1, rfl, I2, turn_enT a (s1.heap.objs.size + 1) s1.heap.objs.size, ⟨⟨.none, he⟩, ⟨_, hit, rfl, rfl⟩, Nat.succ_ne_self _, Nat.ne_of_lt hal, Nat.ne_of_gt (Nat.lt_succ_of_lt hal)⟩, fun b hb => ?_, q⟩
  have hle : s1.heap.objs.size ≤ b := by
    rcases List.mem_cons.mp hb with z | z
    · rw [z]; exact Nat.le_succ _
    · rw [List.mem_singleton.mp z]; exact Nat.le_refl _
  exact I1.fpOk hle (I1.hok.fresh hle)
/-! ### by data -/
def enL : Nat → List D → List D
  | _, [] => []
  | i, d :: ds => .tuple [.int (i : Nat), d] :: enL (i + 1) ds
theorem enL_len : ∀ (ds : List D) (k : Nat), (enL k ds).length = ds.length
  | [], _ => rfl
  | _ :: ds, k => by simp [enL, enL_len ds (k + 1)]
theorem enL_at : ∀ (ds : List D) (k i : Nat) (d : D), (enL k ds)[i]? = some d → ∃ d', ds[i]? = some d' ∧ d = .tuple [.int ((k + i : Nat) : Int), d']
  | [], _, _, _, h => by simp [enL] at h
  | x :: ds, k, 0, d, h => by
    simp only [enL, List.getElem?_cons_zero, Option.some.injEq] at h
    exact ⟨x, rfl, h.symm⟩
  | x :: ds, k, i + 1, d, h => by
    simp only [enL, List.getElem?_cons_succ] at h
    obtain ⟨d', h1, h2⟩ := enL_at ds (k + 1) i d h
    exact ⟨d', by simpa using h1, by rw [h2]; congr 3; omega⟩
theorem itr_pair {K : PySem.W.Frag} {O M : Own} {H : Hp} {ds es : List D} {vs : List V} {J : It} (f : Nat → V → V × V → Prop) (hl : es.length = ds.length) (l : RDs K O H ds vs)
    (hs : ∀ H', Keep M H H' → J.stop vs.length H') (hg : ∀ H' i v, Keep M H H' → vs[i]? = some v → J.go i H') (he : ∀ (i : Nat) (d : D), es[i]? = some d → ∃ d', ds[i]? = some d' ∧ d = .tuple [.int (i : Nat), d'])
    (hy : ∀ H' i x H3 v, Keep M H H' → vs[i]? = some v → J.yld i H' x H3 → ∃ T, x = .ref T ∧ H' T = none ∧ H3 = upd H' T (.tup [.int (i : Nat), v])) : ItR K O M es J H := fun H' k => by
  refine ⟨by rw [hl, l.length]; exact hs H' k, fun i d e => ?_⟩
  obtain ⟨d', e1, rfl⟩ := he i d e
  obtain ⟨v, e2, e3⟩ := l.get e1
  refine ⟨hg H' i v k e2, fun x H3 y => ?_⟩
  obtain ⟨T, rfl, hT, rfl⟩ := hy H' i x H3 v k e2 y
  refine ⟨KeepS.upd hT, fun Ot hOt tr => .tup (.inl ⟨.inl upd_same, fun z => ?_⟩) (.cons (.int _) (.cons (tr d' v e3) .nil))⟩
  obtain ⟨o, z⟩ := hOt T z
  rw [hT] at z; cases z
theorem enL_at0 {ds : List D} (i : Nat) (d : D) (h : (enL 0 ds)[i]? = some d) : ∃ d', ds[i]? = some d' ∧ d = .tuple [.int (i : Nat), d'] := by
  obtain ⟨d', h1, h2⟩ := enL_at ds 0 i d h
  exact ⟨d', h1, by rw [h2]; congr 3; omega⟩
theorem itr_enL {K : PySem.W.Frag} {O M : Own} {H : Hp} {ds : List D} {vs : List V} {a : Addr} (h : TL K M H a vs) (l : RDs K O H ds vs) : ItR K O M (enL 0 ds) (Ite K a) H :=
  itr_pair (fun _ _ _ => True) (enL_len ds 0) l (fun H' k => ⟨vs, (h.keep k).sq, Nat.le_refl _⟩) (fun H' i v k e => ⟨vs, v, (h.keep k).sq, e⟩) enL_at0 fun H' i x H3 v k e ⟨T, y, h1, h2, h3, h4⟩ => by
    have := h4 vs (h.keep k).sq
    rw [e] at this; cases this
    exact ⟨T, h1, h2, h3⟩
theorem itr_enT {K : PySem.W.Frag} {O M : Own} {H : Hp} {ds : List D} {vs : List V} {a : Addr} (h : TU K M H a vs) (l : RDs K O H ds vs) : ItR K O M (enL 0 ds) (Iten K a) H :=
  itr_pair (fun _ _ _ => True) (enL_len ds 0) l (fun H' k => ⟨vs, (h.keep k).sq, Nat.le_refl _⟩) (fun H' i v k e => ⟨vs, v, (h.keep k).sq, e⟩) enL_at0 fun H' i x H3 v k e ⟨T, y, h1, h2, h3, h4⟩ => by
    have := h4 vs (h.keep k).sq
    rw [e] at this; cases this
    exact ⟨T, h1, h2, h3⟩
def enD : D → Option (List D)
  | .list xs => some (enL 0 xs)
  | .tuple xs => some (enL 0 xs)
  | _ => none
def enM (ma : ME D) : ME (List D) := bindM ma fun d => liftO (enD d)
section
variable {X : Cx} {W : WX} {iter e : Expr} {ma mb : ME D} {pos p tpos : Pos} {elts : List Expr} {kk : Nat}
theorem PA.len {es : List Expr} {t : TA} (h : PA X es t) : PA X es (fun σ H Q => t σ H fun v H' => HLen X.K H' → Q v H') := ⟨fun pos pins s σ H Q I q =>
  wpAny_mono (h.run pos pins s σ H _ I q) (fun u s' ⟨v, H', I', r, q'⟩ => ⟨v, H', I', r, q' fun a xs => ⟨fun z => by obtain ⟨_, _, _, h⟩ := I'.list z; exact h, fun z => by obtain ⟨_, _, _, h⟩ := I'.tuple z; exact h⟩⟩) fun _ _ z => z⟩
theorem si_enum (hg : Gl X "enumerate") (hm : X.mg "enumerate" = none) (h : SE X W e ma) (hs : starEach [e] X.env = [(false, eval e X.env)] := by rfl) : SIs X W (.Tuple elts kk tpos) (.Call (.Name "enumerate" p) [e] [] pos) (enM ma) := ⟨fun pins s σ H R I ⟨g, ρ, b, α, β, r, p⟩ => by
  have hs1 : starEach [e] X.env = (false, eval e X.env) :: starEach [] X.env := hs
  unfold enM bindM at p
  cases em : ma ρ b with
  | ok d b' =>
    rw [em] at p
    simp only [Fs.R.bind, liftO] at p
    cases d with
    | list xs =>
      refine (pi_enum hg hm (PA.len (pa_cons h pa_nil hs1)) hs).run pins s σ H R I ⟨g, ρ, b, α, β, r, ?_⟩
      rw [em]
      refine fun x H' l k q hz => ?_
      cases l with
      | lst a l => exact ⟨_, _, rfl, a.sq, p (Ite X.K _) H' ⟨itr_enL a l, by rw [enL_len, l.length]; exact (hz _ _).1 a.sq⟩ k q⟩
    | tuple xs =>
      refine (pi_enT hg hm (PA.len (pa_cons h pa_nil hs1)) hs).run pins s σ H R I ⟨g, ρ, b, α, β, r, ?_⟩
      rw [em]
      refine fun x H' l k q hz => ?_
      cases l with
      | tup a l => exact ⟨_, _, rfl, a.sq, p (Iten X.K _) H' ⟨itr_enT a l, by rw [enL_len, l.length]; exact (hz _ _).2 a.sq⟩ k q⟩
    | none => exact p.elim
    | bool _ => exact p.elim
    | int _ => exact p.elim
    | str _ => exact p.elim
    | dict _ => exact p.elim
  | ex x b' =>
    refine (pi_enum hg hm (PA.len (pa_cons h pa_nil hs1)) hs).run pins s σ H R I ⟨g, ρ, b, α, β, r, ?_⟩
    rw [em] at p ⊢
    exact p
  | bad => rw [em] at p; exact p.elim⟩
theorem si_enumW (hg : Gl X "enumerate") (hm : X.mg "enumerate" = none) (h : SW X W e ma) (hs : starEach [e] X.env = [(false, eval e X.env)] := by rfl) : SIw X W (.Tuple elts kk tpos) (.Call (.Name "enumerate" p) [e] [] pos) (enM ma) := ⟨fun pins s σ H R I ⟨g, ρ, b, α, β, r, p⟩ => by
  have hs1 : starEach [e] X.env = (false, eval e X.env) :: starEach [] X.env := hs
  unfold enM bindM at p
  cases em : ma ρ b with
  | ok d b' =>
    rw [em] at p
    simp only [Fs.R.bind, liftO] at p
    cases d with
    | list xs =>
      refine (pi_enum hg hm (PA.len (pa_cons h pa_nil hs1)) hs).run pins s σ H R I ⟨g, ρ, b, α, β, r, ?_⟩
      rw [em]
      refine fun x H' l k q hz => ?_
      have fin : ∀ a vs, TL X.K (Bs β) H' a vs → RDs X.K (OW g ρ α β) H' xs vs → x = .ref a → ∃ a xs, [x] = [V.ref a] ∧ SqL X.K H' a xs ∧ R (Ite X.K a) H' := fun a vs t w1 ex =>
        ⟨a, vs, by rw [ex], t.sq, p (Ite X.K a) H' ⟨itr_enL t w1, by rw [enL_len, w1.length]; exact (hz _ _).1 t.sq⟩ k q⟩
      rcases l with l | ⟨ds, vs, a, e1, e2, t, w1⟩
      · cases l with
        | lst a w1 => exact fin _ _ ⟨a.1, fun z => a.2 (.inr (.inl z))⟩ w1 rfl
      · cases e1
        exact fin a vs t w1 e2
    | tuple xs =>
      refine (pi_enT hg hm (PA.len (pa_cons h pa_nil hs1)) hs).run pins s σ H R I ⟨g, ρ, b, α, β, r, ?_⟩
      rw [em]
      refine fun x H' l k q hz => ?_
      cases l.rd (fun _ z => by cases z) with
      | tup a w1 =>
        refine ⟨_, _, rfl, a.sq, p (Iten X.K _) H' ⟨itr_enT (M := Bs β) ?_ w1, by rw [enL_len, w1.length]; exact (hz _ _).2 a.sq⟩ k q⟩
        rcases a with ⟨a, n⟩ | a
        · exact .inl ⟨a, fun z => n (.inr (.inl z))⟩
        · exact .inr a
    | none => exact p.elim
    | bool _ => exact p.elim
    | int _ => exact p.elim
    | str _ => exact p.elim
    | dict _ => exact p.elim
  | ex x b' =>
    refine (pi_enum hg hm (PA.len (pa_cons h pa_nil hs1)) hs).run pins s σ H R I ⟨g, ρ, b, α, β, r, ?_⟩
    rw [em] at p ⊢
    exact p
  | bad => rw [em] at p; exact p.elim⟩
end
end Fs
namespace Fs
open L2 PyProof.Rows PySem.Spec PySem
variable [LT]
/-! ### zip -/
def zipL : List D → List D → List D
  | x :: xs, y :: ys => .tuple [x, y] :: zipL xs ys
  | _, _ => []
theorem zipL_len : ∀ (xs ys : List D), (zipL xs ys).length = min xs.length ys.length
  | [], _ => by simp [zipL]
  | _ :: _, [] => by simp [zipL]
  | _ :: xs, _ :: ys => by simp only [zipL, List.length_cons, zipL_len xs ys]; omega
theorem zipL_at : ∀ (xs ys : List D) (i : Nat) (d : D), (zipL xs ys)[i]? = some d → ∃ x y, xs[i]? = some x ∧ ys[i]? = some y ∧ d = .tuple [x, y]
  | [], _, _, _, h => by simp [zipL] at h
  | _ :: _, [], _, _, h => by simp [zipL] at h
  | x :: xs, y :: ys, 0, d, h => by
    simp only [zipL, List.getElem?_cons_zero, Option.some.injEq] at h
    exact ⟨x, y, rfl, rfl, h.symm⟩
  | x :: xs, y :: ys, i + 1, d, h => by
    simp only [zipL, List.getElem?_cons_succ] at h
    obtain ⟨x', y', h1, h2, h3⟩ := zipL_at xs ys i d h
    exact ⟨x', y', by simpa using h1, by simpa using h2, h3⟩
theorem itr_zip {K : PySem.W.Frag} {O M : Own} {H : Hp} {ds es : List D} {vs ws : List V} {J : It} (l : RDs K O H ds vs) (l2 : RDs K O H es ws)
    (hs : ∀ H', Keep M H H' → J.stop (min vs.length ws.length) H') (hg : ∀ H' i v u, Keep M H H' → vs[i]? = some v → ws[i]? = some u → J.go i H')
    (hy : ∀ H' i x H3 v u, Keep M H H' → vs[i]? = some v → ws[i]? = some u → J.yld i H' x H3 → ∃ T, x = .ref T ∧ H' T = none ∧ H3 = upd H' T (.tup [v, u])) : ItR K O M (zipL ds es) J H := fun H' k => by
  refine ⟨by rw [zipL_len, l.length, l2.length]; exact hs H' k, fun i d e => ?_⟩
  obtain ⟨d', e', e1, f1, rfl⟩ := zipL_at ds es i d e
  obtain ⟨v, e2, e3⟩ := l.get e1
  obtain ⟨u, f2, f3⟩ := l2.get f1
  refine ⟨hg H' i v u k e2 f2, fun x H3 y => ?_⟩
  obtain ⟨T, rfl, hT, rfl⟩ := hy H' i x H3 v u k e2 f2 y
  refine ⟨KeepS.upd hT, fun Ot hOt tr => .tup (.inl ⟨.inl upd_same, fun z => ?_⟩) (.cons (tr d' v e3) (.cons (tr e' u f3) .nil))⟩
  obtain ⟨o, z⟩ := hOt T z
  rw [hT] at z; cases z
theorem itr_zipL {K : PySem.W.Frag} {O M : Own} {H : Hp} {ds es : List D} {vs ws : List V} {a c : Addr} (h : TL K M H a vs) (h2 : TL K M H c ws) (l : RDs K O H ds vs) (l2 : RDs K O H es ws) : ItR K O M (zipL ds es) (Itz K a c) H :=
  itr_zip l l2 (fun H' k => ⟨vs, ws, (h.keep k).sq, (h2.keep k).sq, by omega⟩) (fun H' i v u k e f => ⟨vs, ws, v, u, (h.keep k).sq, (h2.keep k).sq, e, f⟩) fun H' i x H3 v u k e f ⟨T, y, z, h1, h2', h3, h4, h5⟩ => by
    have q1 := h4 vs (h.keep k).sq
    have q2 := h5 ws (h2.keep k).sq
    rw [e] at q1; cases q1
    rw [f] at q2; cases q2
    exact ⟨T, h1, h2', h3⟩
theorem itr_zipT {K : PySem.W.Frag} {O M : Own} {H : Hp} {ds es : List D} {vs ws : List V} {a c : Addr} (h : TU K M H a vs) (h2 : TU K M H c ws) (l : RDs K O H ds vs) (l2 : RDs K O H es ws) : ItR K O M (zipL ds es) (RZ.ItzT K a c) H :=
  itr_zip l l2 (fun H' k => ⟨vs, ws, (h.keep k).sq, (h2.keep k).sq, by omega⟩) (fun H' i v u k e f => ⟨vs, ws, v, u, (h.keep k).sq, (h2.keep k).sq, e, f⟩) fun H' i x H3 v u k e f ⟨T, y, z, h1, h2', h3, h4, h5⟩ => by
    have q1 := h4 vs (h.keep k).sq
    have q2 := h5 ws (h2.keep k).sq
    rw [e] at q1; cases q1
    rw [f] at q2; cases q2
    exact ⟨T, h1, h2', h3⟩
def zipD : D → D → Option (List D)
  | .list xs, .list ys => some (zipL xs ys)
  | .tuple xs, .tuple ys => some (zipL xs ys)
  | _, _ => none
def zipM (ma mb : ME D) : ME (List D) := bindM ma fun d => bindM mb fun e => liftO (zipD d e)
section
variable {X : Cx} {W : WX} {e e2 : Expr} {ma mb : ME D} {pos p tpos : Pos} {elts : List Expr} {kk : Nat}
theorem si_zip (hg : Gl X "zip") (hm : X.mg "zip" = none) (ha : SE X W e ma) (hb : SE X W e2 mb) (h1 : starEach [e, e2] X.env = (false, eval e X.env) :: starEach [e2] X.env := by rfl) (h2 : starEach [e2] X.env = (false, eval e2 X.env) :: starEach [] X.env := by rfl) (hpl : (backTo pos (starEach [e2] X.env)).any (·.1) = false := by rfl) : SIs X W (.Tuple elts kk tpos) (.Call (.Name "zip" p) [e, e2] [] pos) (zipM ma mb) :=
  PI.imp (RZ.pi_zipA hg hm (PA.len (pa_cons ha (pa_cons hb pa_nil h2) h1)) h1 hpl) fun σ H R h => by
    refine tR_bind2 (L := lD X.K) (L2' := lD X.K) pers_D h fun g ρ b α β d c x y H1 r l1 l2 p => ?_
    obtain ⟨ds, eds, q⟩ := post_lift p
    intro hz
    cases d <;> first | (cases eds; done) | skip
    all_goals cases c <;> first | (cases eds; done) | skip
    · cases eds
      cases l1 with
      | lst a1 w1 =>
        cases l2 with
        | lst a2 w2 =>
          refine ⟨_, _, _, _, rfl, .inl ⟨a1.sq, a2.sq, q _ H1 ⟨itr_zipL a1 a2 w1 w2, ?_⟩ (Keep.refl _ _) r.box⟩⟩
          rw [zipL_len, w1.length]
          have := (hz _ _).1 a1.sq
          omega
    · cases eds
      cases l1 with
      | tup a1 w1 =>
        cases l2 with
        | tup a2 w2 =>
          refine ⟨_, _, _, _, rfl, .inr ⟨a1.sq, a2.sq, q _ H1 ⟨itr_zipT a1 a2 w1 w2, ?_⟩ (Keep.refl _ _) r.box⟩⟩
          rw [zipL_len, w1.length]
          have := (hz _ _).2 a1.sq
          omega
end
end Fs

/-! M4: comprehensions of two clauses. -/
namespace Fs
open L2 PyProof.Rows PySem.Spec PySem
variable [LT]
def noLk (ρ : En) (ts : List Nat) : Bool := ts.all fun i => match ρ[i]? with
  | some (.lk _) => false
  | _ => true
def comp2L (ts vs1 : List Nat) (tf : TF) (mt : ME Bool) (mi1 : ME (List D)) (tf1 : TF) (mt1 : ME Bool) (me : ME D) (ρ0 : En) : List D → Bx → R (List D)
  | [], b => .ok [] b
  | d :: ds, b => match tf d ρ0 with
    | none => .bad
    | some ρ1 => match mt ρ1 b with
      | .ok true b1 => match mi1 ρ1 b1 with
        | .ok es b2 => if noLk ρ1 ts && noOwn ρ1 vs1 then (match compL tf1 mt1 me (wipeE ρ1 vs1) es b2 with
          | .ok ys b3 => match comp2L ts vs1 tf mt mi1 tf1 mt1 me ρ0 ds b3 with
            | .ok zs b4 => .ok (ys ++ zs) b4
            | _ => .bad
          | _ => .bad) else .bad
        | _ => .bad
      | .ok false b1 => comp2L ts vs1 tf mt mi1 tf1 mt1 me ρ0 ds b1
      | _ => .bad
def comp2M (mi : ME (List D)) (vs ts vs1 : List Nat) (tf : TF) (mt : ME Bool) (mi1 : ME (List D)) (tf1 : TF) (mt1 : ME Bool) (me : ME D) : ME (List D) := bindM mi fun ds ρ b => if noOwn ρ vs then (match comp2L ts vs1 tf mt mi1 tf1 mt1 me (wipeE ρ vs) ds b with
  | .ok ys b' => if ys.length ≤ sizeLine then .ok ys b' else .bad
  | _ => .bad) else .bad
section
variable {X : Cx} {W : WX} {mi mi1 : ME (List D)} {vs ts vs1 ts1 : List Nat} {tf tf1 : TF} {mt mt1 : ME Bool} {me : ME D} {σ : L2.St} {H : Hp} {Q : VK}
/-- what stands at a turn -/
structure DSt (X : Cx) (g : Gh) (ρ : En) (σ : L2.St) (α : Nat → Addr) (β : Option Addr) (H1 : Hp) (L : Addr) (b : Bx) (acc : List D) (ws : List V) (H' : Hp) : Prop where
  re : RE X.K (gD g L ws) H' ρ b σ α β
  kp : Keep (Bs β) H1 H'
  rd : RDs X.K (OW (gD g L ws) ρ α β) H' acc ws
theorem DSt.at {g : Gh} {ρ : En} {α : Nat → Addr} {β : Option Addr} {H1 H' : Hp} {L : Addr} {b : Bx} {acc : List D} {ws : List V} (c : DSt X g ρ σ α β H1 L b acc ws H') : H' L = some (.lst ws) := c.re.evo L _ upd_same fun z => c.re.ofB (show (gD g L ws).Of L from .inr rfl) (c.re.foB' z)
theorem DSt.step {g : Gh} {ρ : En} {α : Nat → Addr} {β : Option Addr} {H1 H' H3 : Hp} {L : Addr} {b b3 : Bx} {acc : List D} {ws : List V} (c : DSt X g ρ σ α β H1 L b acc ws H') (k : Keep (Bs β) H' H3) (q : BxR (gD g L ws) H3 b3 β) : DSt X g ρ σ α β H1 L b3 acc ws H3 :=
  ⟨c.re.step k q, c.kp.trans k, c.rd.keep (k.mono fun a z => .inr (.inl z))⟩
/-- an item is put behind -/
theorem DSt.app {g : Gh} {ρ : En} {α : Nat → Addr} {β : Option Addr} {H1 H' : Hp} {L : Addr} {b : Bx} {acc : List D} {ws : List V} {y : PyData} {v : V} (c : DSt X g ρ σ α β H1 L b acc ws H') (hL : H1 L = none) (hk : ∀ i xs, ρ[i]? = some (.lk xs) → g.la i ≠ L) (l : RD X.K (OW (gD g L ws) ρ α β) H' y v) :
    DSt X g ρ σ α β H1 L b (acc ++ [y]) (ws ++ [v]) (upd H' L (.lst (ws ++ [v]))) := by
  have kl : Keep (OW (gD g L ws) ρ α β) H' (upd H' L (.lst (ws ++ [v]))) := fun a u e n => by
    rw [upd_ne fun z => n (.inl (.inr z)), e]; exact .self
  refine ⟨c.re.chD hk, fun a u ea na => ?_, (c.rd.append (.cons l .nil)).keep kl⟩
  have := c.kp a u ea na
  rw [upd_ne fun z => by rw [z, hL] at ea; cases ea]
  exact this
theorem lc2_read (hs : ∀ i ∈ ts, i ∈ vs) (hs1 : ∀ i ∈ ts1, i ∈ vs1) (h : tN (Cx.z X) W (comp2M mi vs ts vs1 tf mt mi1 tf1 mt1 me) σ H Q) :
    tLc2 (tR (Cx.z X) (lIw X.K) W mi) (tGt (Cx.z X) ts tf) (tR (Cx.z X) lB wNo mt) (tR (Cx.z X) (lIs X.K) wNo mi1) (tGt (Cx.z X) ts1 tf1) (tR (Cx.z X) lB wNo mt1) (tR (Cx.z X) (lD X.K) wNo me) vs vs1 σ H Q := by
  obtain ⟨g, ρ, b, α, β, r, p⟩ := h
  refine ⟨g, ρ, b, α, β, r, ?_⟩
  unfold comp2M bindM at p
  cases e : mi ρ b with
  | ex x b' => rw [e] at p; exact p
  | bad => rw [e] at p; exact p
  | ok ds b1 =>
    rw [e] at p
    simp only [Fs.R.bind] at p
    refine fun J H1 l k q => ?_
    have r1 := r.step k q
    by_cases hn : noOwn ρ vs = true
    case neg =>
      rw [if_neg hn] at p
      exact p.elim
    rw [if_pos hn] at p
    refine fun L hL => ?_
    have lkρ := r1.lkL hL
    -- what is left to show behind a list acc and the items ys to come
    let Fin : List D → R (List D) → Prop := fun acc o => match o with
      | .ok ys b3 => (acc ++ ys).length ≤ sizeLine ∧ PostN (Cx.z X) W (OW g ρ α β) g β σ H Q (.ok (acc ++ ys) b3)
      | _ => False
    have fin0 : Fin [] (comp2L ts vs1 tf mt mi1 tf1 mt1 me (wipeE ρ vs) ds b1) := by
      cases ec : comp2L ts vs1 tf mt mi1 tf1 mt1 me (wipeE ρ vs) ds b1 with
      | ok ys b3 =>
        rw [ec] at p
        simp only at p
        split at p
        · rename_i hz
          exact ⟨by simpa using hz, p⟩
        · exact p.elim
      | ex x b3 => rw [ec] at p; exact p.elim
      | bad => rw [ec] at p; exact p.elim
    refine ⟨fun i k H' => k = ds.length - i ∧ i ≤ ds.length ∧ ∃ b acc ws, DSt X g ρ σ α β H1 L b acc ws H' ∧ Fin acc (comp2L ts vs1 tf mt mi1 tf1 mt1 me (wipeE ρ vs) (ds.drop i) b), ⟨ds.length, rfl, Nat.zero_le _, b1, [], [], ⟨r1.addD hL, (Keep.upd hL).of0, .nil⟩, fin0⟩, ?_⟩
    rintro i k' H' ⟨rfl, hi, b2, acc, ws, c, fin⟩
    obtain ⟨hstop, hgo⟩ := l.1 H' c.kp
    by_cases hlt : i < ds.length
    · obtain ⟨g1, y⟩ := hgo i ds[i] (List.getElem?_eq_getElem hlt)
      refine .inr ⟨g1, fun H' => ∃ b acc ws, DSt X g ρ σ α β H1 L b acc ws H' ∧ Fin acc (comp2L ts vs1 tf mt mi1 tf1 mt1 me (wipeE ρ vs) (ds.drop (i + 1)) b), fun H' h => ⟨ds.length - (i + 1), by omega, rfl, hlt, h⟩, fun x H3 hy => ?_⟩
      obtain ⟨k0, tr⟩ := y x H3 hy
      have c3 := c.step k0.of0 (c.re.box.keep0 k0)
      rw [List.drop_eq_getElem_cons hlt] at fin
      unfold comp2L at fin
      cases et : tf ds[i] (wipeE ρ vs) with
      | none => rw [et] at fin; exact fin.elim
      | some ρ1 =>
        rw [et] at fin
        simp only at fin
        have ow := ow_wipe (g := gD g L ws) (α := α) (β := β) hn
        have lx : RD X.K (OW (gD g L ws) (wipeE ρ vs) α β) H3 ds[i] x := tr _ (fun a z => by
            obtain ⟨xs, q⟩ := c.re.ownL a ((ow a).mpr z)
            exact rd_some q) fun cc yy hc => by
          refine RD.keep (O := OW (gD g L ws) (wipeE ρ vs) α β) k0.of0 _ _ ?_
          refine RD.keep (c.kp.mono fun a z => .inr (.inl z)) _ _ ?_
          refine hc.own fun a u eu z => ?_
          have z := (ow a).mpr z
          rcases z with (z | z) | z
          · exact .inl z
          · rw [z, hL] at eu; cases eu
          · exact .inr z
        refine ⟨gD g L ws, wipeE ρ vs, b2, α, β, ds[i], ρ1, c3.re.wipe hn, lx, et, fun σ2 r2 sub s1 s2 => ⟨wipe_idem hs s1, ?_⟩⟩
        refine ⟨gD g L ws, ρ1, b2, α, β, r2, ?_⟩
        cases em : mt ρ1 b2 with
        | ex x b' => rw [em] at fin; exact fin.elim
        | bad => rw [em] at fin; exact fin.elim
        | ok t b3 =>
          rw [em] at fin
          refine fun t' H4 lt k4 q4 => ?_
          have lt : t = t' := lt
          subst lt
          have r4 := r2.step k4 q4
          have c4 := c3.step k4 q4
          cases t with
          | false =>
            simp only at fin
            exact ⟨b3, acc, ws, c4, fin⟩
          | true =>
            simp only at fin
            show tR (Cx.z X) (lIs X.K) wNo mi1 σ2 H4 _
            refine ⟨gD g L ws, ρ1, b3, α, β, r4, ?_⟩
            cases ei : mi1 ρ1 b3 with
            | ex x b' => rw [ei] at fin; exact fin.elim
            | bad => rw [ei] at fin; exact fin.elim
            | ok es b4 =>
              rw [ei] at fin
              simp only at fin
              by_cases hn1 : (noLk ρ1 ts && noOwn ρ1 vs1) = true
              case neg =>
                rw [if_neg hn1] at fin
                exact fin.elim
              rw [if_pos hn1] at fin
              obtain ⟨hk1, hn1⟩ := Bool.and_eq_true_iff.mp hn1
              have lkρ1 : ∀ j xs, ρ1[j]? = some (.lk xs) → g.la j ≠ L := fun j xs ej => by
                by_cases hj : j ∈ ts
                · have := List.all_eq_true.mp hk1 j hj
                  rw [ej] at this; cases this
                · rw [s2.2 j hj] at ej
                  have hj2 : j ∉ vs := fun w => by cases wipeE_in w ej
                  rw [wipeE_at hj2] at ej
                  exact lkρ j xs ej
              have sub1 : ∀ ws a, OW (gD g L ws) ρ α β a → OW (gD g L ws) ρ1 α β a := fun ws a z => by
                have ow := ow_wipe (g := gD g L ws) (α := α) (β := β) hn
                exact ow_sm hs s2 a ((ow a).mp z)
              intro J1 H5 l5 k5 q5
              have r5 := r4.step k5 q5
              have c5 := c4.step k5 q5
              let Fin1 : List D → R (List D) → Prop := fun acc o => match o with
                | .ok ys b3 => Fin (acc ++ ys) (comp2L ts vs1 tf mt mi1 tf1 mt1 me (wipeE ρ vs) (ds.drop (i + 1)) b3)
                | _ => False
              have fin1 : Fin1 acc (compL tf1 mt1 me (wipeE ρ1 vs1) es b4) := by
                cases ec : compL tf1 mt1 me (wipeE ρ1 vs1) es b4 with
                | ok ys b3 =>
                  rw [ec] at fin
                  simp only at fin
                  show Fin (acc ++ ys) _
                  cases ed : comp2L ts vs1 tf mt mi1 tf1 mt1 me (wipeE ρ vs) (ds.drop (i + 1)) b3 with
                  | ok zs b6 =>
                    rw [ed] at fin
                    show (acc ++ ys ++ zs).length ≤ sizeLine ∧ _
                    rw [List.append_assoc]
                    exact fin
                  | ex _ _ => rw [ed] at fin; exact fin.elim
                  | bad => rw [ed] at fin; exact fin.elim
                | ex _ _ => rw [ec] at fin; exact fin.elim
                | bad => rw [ec] at fin; exact fin.elim
              refine ⟨fun j k H' => k = es.length - j ∧ j ≤ es.length ∧ ∃ b acc ws, DSt X g ρ σ α β H1 L b acc ws H' ∧ (RE X.K (gD g L ws) H' ρ1 b σ2 α β ∧ Keep (OW (gD g L []) ρ1 α β) H5 H') ∧ Fin1 acc (compL tf1 mt1 me (wipeE ρ1 vs1) (es.drop j) b), ⟨es.length, rfl, Nat.zero_le _, b4, acc, ws, c5, ⟨r5, Keep.refl _ _⟩, fin1⟩, ?_⟩
              rintro j kk H6 ⟨rfl, hj, b6, acc6, ws6, d6, ⟨e6, e6k⟩, fin6⟩
              obtain ⟨hstop1, hgo1⟩ := l5.1 H6 e6k
              by_cases hlt1 : j < es.length
              · obtain ⟨g2, y2⟩ := hgo1 j es[j] (List.getElem?_eq_getElem hlt1)
                refine .inr ⟨g2, fun H' => ∃ b acc ws, DSt X g ρ σ α β H1 L b acc ws H' ∧ (RE X.K (gD g L ws) H' ρ1 b σ2 α β ∧ Keep (OW (gD g L []) ρ1 α β) H5 H') ∧ Fin1 acc (compL tf1 mt1 me (wipeE ρ1 vs1) (es.drop (j + 1)) b), fun H' h => ⟨es.length - (j + 1), by omega, rfl, hlt1, h⟩, fun x2 H7 hy2 => ?_⟩
                obtain ⟨k7, tr2⟩ := y2 x2 H7 hy2
                have d7 := d6.step k7.of0 (d6.re.box.keep0 k7)
                have e7 : RE X.K (gD g L ws6) H7 ρ1 b6 σ2 α β := e6.step k7.of0 (e6.box.keep0 k7)
                have e7k : Keep (OW (gD g L []) ρ1 α β) H5 H7 := e6k.trans k7.of0
                rw [List.drop_eq_getElem_cons hlt1] at fin6
                unfold compL at fin6
                cases et1 : tf1 es[j] (wipeE ρ1 vs1) with
                | none => rw [et1] at fin6; exact fin6.elim
                | some ρ2 =>
                  rw [et1] at fin6
                  simp only at fin6
                  have ow1 := ow_wipe (g := gD g L ws6) (α := α) (β := β) hn1
                  have lx2 : RD X.K (OW (gD g L ws6) (wipeE ρ1 vs1) α β) H7 es[j] x2 := tr2 _ (fun a z => by
                      obtain ⟨xs, q⟩ := e6.ownL a ((ow1 a).mpr z)
                      exact rd_some q) fun cc yy hc => by
                    have hc1 : RD X.K (OW (gD g L []) ρ1 α β) H7 cc yy := RD.keep e7k _ _ hc
                    exact hc1.own fun a u eu z => (ow1 a).mpr z
                  refine ⟨gD g L ws6, wipeE ρ1 vs1, b6, α, β, es[j], ρ2, e7.wipe hn1, lx2, et1, fun σ3 r8 sub8 t1 t2 => ⟨wipe_idem hs1 t1, ?_⟩⟩
                  refine ⟨gD g L ws6, ρ2, b6, α, β, r8, ?_⟩
                  cases em1 : mt1 ρ2 b6 with
                  | ex x b' => rw [em1] at fin6; exact fin6.elim
                  | bad => rw [em1] at fin6; exact fin6.elim
                  | ok t2' b8 =>
                    rw [em1] at fin6
                    refine fun t3 H8 lt8 k8 q8 => ?_
                    have lt8 : t2' = t3 := lt8
                    subst lt8
                    have r9 := r8.step k8 q8
                    have d8 := d7.step k8 q8
                    have e8 := e7.step k8 q8
                    have e8k : Keep (OW (gD g L []) ρ1 α β) H5 H8 := e7k.trans (k8.mono fun a z => .inr (.inl z))
                    cases t2' with
                    | false =>
                      simp only at fin6
                      exact ⟨b8, acc6, ws6, d8, ⟨e8, e8k⟩, fin6⟩
                    | true =>
                      simp only at fin6
                      show tR (Cx.z X) (lD X.K) wNo me σ3 H8 _
                      refine ⟨gD g L ws6, ρ2, b8, α, β, r9, ?_⟩
                      cases en : me ρ2 b8 with
                      | ex x b' => rw [en] at fin6; exact fin6.elim
                      | bad => rw [en] at fin6; exact fin6.elim
                      | ok yv b9 =>
                        rw [en] at fin6
                        simp only at fin6
                        refine fun v H9 l9 k9 q9 => ?_
                        have d9 := d8.step k9 q9
                        have e9 := e8.step k9 q9
                        have e9k : Keep (OW (gD g L []) ρ1 α β) H5 H9 := e8k.trans (k9.mono fun a z => .inr (.inl z))
                        have lb : RD X.K (OW (gD g L ws6) ρ1 α β) H9 yv v := l9.own fun a u _ z => ow_sm hs1 t2 a ((ow1 a).mp z)
                        have la : RD X.K (OW (gD g L ws6) ρ α β) H9 yv v := lb.own fun a u _ z => sub1 ws6 a z
                        cases ec : compL tf1 mt1 me (wipeE ρ1 vs1) (es.drop (j + 1)) b9 with
                        | ex _ _ => rw [ec] at fin6; exact fin6.elim
                        | bad => rw [ec] at fin6; exact fin6.elim
                        | ok ys b10 =>
                          rw [ec] at fin6
                          have fin6 : Fin (acc6 ++ yv :: ys) (comp2L ts vs1 tf mt mi1 tf1 mt1 me (wipeE ρ vs) (ds.drop (i + 1)) b10) := fin6
                          have hlen : acc6.length < sizeLine := by
                            cases ed : comp2L ts vs1 tf mt mi1 tf1 mt1 me (wipeE ρ vs) (ds.drop (i + 1)) b10 with
                            | ok zs b11 =>
                              rw [ed] at fin6
                              have := fin6.1
                              simp only [List.length_append, List.length_cons] at this
                              omega
                            | ex _ _ => rw [ed] at fin6; exact fin6.elim
                            | bad => rw [ed] at fin6; exact fin6.elim
                          refine ⟨ws6, d9.at, by rw [← d9.rd.length]; exact hlen, b9, acc6 ++ [yv], ws6 ++ [v], d9.app hL lkρ la, ?_, ?_⟩
                          · refine ⟨e9.chD (us := ws6 ++ [v]) lkρ1, e9k.trans fun a u e n => ?_⟩
                            rw [upd_ne fun z => n (.inl (.inr z)), e]
                            exact .self
                          · show Fin1 (acc6 ++ [yv]) _
                            rw [ec]
                            show Fin ((acc6 ++ [yv]) ++ ys) _
                            rw [List.append_assoc]
                            exact fin6
              · have ej : j = es.length := by omega
                subst ej
                refine .inl ⟨hstop1, b6, acc6, ws6, d6, ?_⟩
                rw [List.drop_length] at fin6
                unfold compL at fin6
                have fin6 : Fin (acc6 ++ []) (comp2L ts vs1 tf mt mi1 tf1 mt1 me (wipeE ρ vs) (ds.drop (i + 1)) b6) := fin6
                rw [List.append_nil] at fin6
                exact fin6
    · have e : i = ds.length := by omega
      subst e
      refine .inl ⟨hstop, ?_⟩
      rw [List.drop_length] at fin
      unfold comp2L at fin
      have fin : (acc ++ []).length ≤ sizeLine ∧ PostN (Cx.z X) W (OW g ρ α β) g β σ H Q (.ok (acc ++ []) b2) := fin
      rw [List.append_nil] at fin
      exact fin.2 L ws H' (free_back k q hL) c.at (c.rd.own fun a u _ z => by
        rcases z with z | z
        · rcases z with z | z
          · exact .inl (.inl z)
          · exact .inr z
        · exact .inl (.inr z)) (k.trans c.kp) c.re.boxD
/-! ### the rules -/
variable {tg iter tg1 iter1 elt : Expr} {ifs ifs1 : List Expr} {scope : Scope} {own : List (Str × Nat)} {pos spos py : Pos}
theorem sn_lc2 (hc : X.calm = true) (hN : X.N.Nodup) (hi : SIw X W tg iter mi) (ok : BlkOk X.N X.env.scope scope own) (hv1 : ∀ i ∈ vs1, i ∈ own.map (·.2)) (hg : InBlk X scope fun Y => SG Y tg ts tf) (ht : InBlk X scope fun Y => PTs Y ifs (tR (Cx.z Y) lB wNo mt))
    (hi1 : InBlk X scope fun Y => SIs Y wNo tg1 iter1 mi1) (hg1 : InBlk X scope fun Y => SG Y tg1 ts1 tf1) (ht1 : InBlk X scope fun Y => PTs Y ifs1 (tR (Cx.z Y) lB wNo mt1)) (he : InBlk X scope fun Y => SE Y wNo elt me)
    (hv : ∀ i ∈ ts, i ∈ own.map (·.2)) (hv2 : ∀ i ∈ ts1, i ∈ vs1) (hs : ∀ x, foldedSetIterable iter X.env x = pure x := by intro _; rfl) (hs1 : ∀ env x, foldedSetIterable iter1 env x = pure x := by intro _ _; rfl) :
    SN X W (.ListComp elt [⟨tg, iter, ifs, 0⟩, ⟨tg1, iter1, ifs1, 0⟩] scope pos) (comp2M mi (own.map (·.2)) ts vs1 tf mt mi1 tf1 mt1 me) :=
  PE.imp (pe_lc2 (g := tGt (Cx.z X) ts tf) (tt := tR (Cx.z X) lB wNo mt) (wi1 := tR (Cx.z X) (lIs X.K) wNo mi1) (g1 := tGt (Cx.z X) ts1 tf1) (tt1 := tR (Cx.z X) lB wNo mt1) (te := tR (Cx.z X) (lD X.K) wNo me) hc hN hi ok hv1 (fun s H C cl fp => hg s H C cl fp) (fun s H C cl fp => ht s H C cl fp) (fun s H C cl fp => hi1 s H C cl fp) (fun s H C cl fp => hg1 s H C cl fp) (fun s H C cl fp => ht1 s H C cl fp) (fun s H C cl fp => he s H C cl fp) hs hs1) fun σ H Q h => lc2_read hv hv2 h
theorem ps_lc2 {i : Nat} {y : Str} (hc : X.calm = true) (hN : X.N.Nodup) (hy : X.N[i]? = some y) (hyl : X.env.scope.names.lookup y = some .local)
    (hsw : swapsWith (.ListComp elt [⟨tg, iter, ifs, 0⟩, ⟨tg1, iter1, ifs1, 0⟩] scope pos) (some (.Name y py)) spos.line X.env = pure true) (hi : SIw X W tg iter mi) (ok : BlkOk X.N X.env.scope scope own) (hv1 : ∀ i ∈ vs1, i ∈ own.map (·.2)) (hg : InBlk X scope fun Y => SG Y tg ts tf) (ht : InBlk X scope fun Y => PTs Y ifs (tR (Cx.z Y) lB wNo mt))
    (hi1 : InBlk X scope fun Y => SIs Y wNo tg1 iter1 mi1) (hg1 : InBlk X scope fun Y => SG Y tg1 ts1 tf1) (ht1 : InBlk X scope fun Y => PTs Y ifs1 (tR (Cx.z Y) lB wNo mt1)) (he : InBlk X scope fun Y => SE Y wNo elt me)
    (hv : ∀ i ∈ ts, i ∈ own.map (·.2)) (hv2 : ∀ i ∈ ts1, i ∈ vs1) (hs : ∀ x, foldedSetIterable iter X.env x = pure x) (hs1 : ∀ env x, foldedSetIterable iter1 env x = pure x) :
    PS X (.Assign [.Name y py] (.ListComp elt [⟨tg, iter, ifs, 0⟩, ⟨tg1, iter1, ifs1, 0⟩] scope pos) spos) (tAsg (tN (Cx.z X) W (comp2M mi (own.map (·.2)) ts vs1 tf mt mi1 tf1 mt1 me)) (gName i)) :=
  PS.imp (ps_setLc2 (g := tGt (Cx.z X) ts tf) (tt := tR (Cx.z X) lB wNo mt) (wi1 := tR (Cx.z X) (lIs X.K) wNo mi1) (g1 := tGt (Cx.z X) ts1 tf1) (tt1 := tR (Cx.z X) lB wNo mt1) (te := tR (Cx.z X) (lD X.K) wNo me) hc hN hy hyl hsw hi ok hv1 (fun s H C cl fp => hg s H C cl fp) (fun s H C cl fp => ht s H C cl fp) (fun s H C cl fp => hi1 s H C cl fp) (fun s H C cl fp => hg1 s H C cl fp) (fun s H C cl fp => ht1 s H C cl fp) (fun s H C cl fp => he s H C cl fp) hs hs1) fun D σ H h => lc2_read hv hv2 h
/-- x = [.. for .. for ..] on one line: data; a list of one's own -/
theorem ss_setLc2 {i : Nat} {y : Str} (hc : X.calm = true) (hN : X.N.Nodup) (hy : X.N[i]? = some y) (hyl : X.env.scope.names.lookup y = some .local)
    (hsw : swapsWith (.ListComp elt [⟨tg, iter, ifs, 0⟩, ⟨tg1, iter1, ifs1, 0⟩] scope pos) (some (.Name y py)) spos.line X.env = pure true) (hi : SIw X W tg iter mi) (ok : BlkOk X.N X.env.scope scope own) (hv1 : ∀ i ∈ vs1, i ∈ own.map (·.2)) (hg : InBlk X scope fun Y => SG Y tg ts tf) (ht : InBlk X scope fun Y => PTs Y ifs (tR (Cx.z Y) lB wNo mt))
    (hi1 : InBlk X scope fun Y => SIs Y wNo tg1 iter1 mi1) (hg1 : InBlk X scope fun Y => SG Y tg1 ts1 tf1) (ht1 : InBlk X scope fun Y => PTs Y ifs1 (tR (Cx.z Y) lB wNo mt1)) (he : InBlk X scope fun Y => SE Y wNo elt me)
    (hv : ∀ i ∈ ts, i ∈ own.map (·.2)) (hv2 : ∀ i ∈ ts1, i ∈ vs1) (hs : ∀ x, foldedSetIterable iter X.env x = pure x := by intro _; rfl) (hs1 : ∀ env x, foldedSetIterable iter1 env x = pure x := by intro _ _; rfl) :
    SS X W (.Assign [.Name y py] (.ListComp elt [⟨tg, iter, ifs, 0⟩, ⟨tg1, iter1, ifs1, 0⟩] scope pos) spos) (setM i (lsM (comp2M mi (own.map (·.2)) ts vs1 tf mt mi1 tf1 mt1 me))) :=
  PS.imp (ps_lc2 hc hN hy hyl hsw hi ok hv1 hg ht hi1 hg1 ht1 he hv hv2 hs hs1) fun D σ H h => tN_of (expr_read h fun g ρ b α β d v H1 r _ l p => setM_post r l p)
theorem ss_ownLc2 {i : Nat} {y : Str} (hc : X.calm = true) (hN : X.N.Nodup) (hy : X.N[i]? = some y) (hyl : X.env.scope.names.lookup y = some .local)
    (hsw : swapsWith (.ListComp elt [⟨tg, iter, ifs, 0⟩, ⟨tg1, iter1, ifs1, 0⟩] scope pos) (some (.Name y py)) spos.line X.env = pure true) (hi : SIw X W tg iter mi) (ok : BlkOk X.N X.env.scope scope own) (hv1 : ∀ i ∈ vs1, i ∈ own.map (·.2)) (hg : InBlk X scope fun Y => SG Y tg ts tf) (ht : InBlk X scope fun Y => PTs Y ifs (tR (Cx.z Y) lB wNo mt))
    (hi1 : InBlk X scope fun Y => SIs Y wNo tg1 iter1 mi1) (hg1 : InBlk X scope fun Y => SG Y tg1 ts1 tf1) (ht1 : InBlk X scope fun Y => PTs Y ifs1 (tR (Cx.z Y) lB wNo mt1)) (he : InBlk X scope fun Y => SE Y wNo elt me)
    (hv : ∀ i ∈ ts, i ∈ own.map (·.2)) (hv2 : ∀ i ∈ ts1, i ∈ vs1) (hs : ∀ x, foldedSetIterable iter X.env x = pure x := by intro _; rfl) (hs1 : ∀ env x, foldedSetIterable iter1 env x = pure x := by intro _ _; rfl) :
    SS X W (.Assign [.Name y py] (.ListComp elt [⟨tg, iter, ifs, 0⟩, ⟨tg1, iter1, ifs1, 0⟩] scope pos) spos) (ownM i (comp2M mi (own.map (·.2)) ts vs1 tf mt mi1 tf1 mt1 me)) :=
  PS.imp (ps_lc2 hc hN hy hyl hsw hi ok hv1 hg ht hi1 hg1 ht1 he hv hv2 hs hs1) fun D σ H h => own_post h
end
end Fs

/-! M5: what is never reached, keywords, [::-1], repr, len(set(..)). -/
namespace Fs
open L2 PyProof.Rows PySem.Spec PySem
variable [LT]
/-! ### what is never reached -/
def badM {τ : Type} : ME τ := fun _ _ => .bad
def badS : MS := fun _ _ => .bad
section
variable {X : Cx} {W : WX} {e a : Expr} {es : List Expr} {st : Stmt} {sts : List Stmt} {ma : ME D} {pos : Pos}
theorem se_bad : SE X W e badM := ⟨fun pins s σ H Q I ⟨g, ρ, b, α, β, r, p⟩ => p.elim⟩
theorem sw_bad : SW X W e badM := ⟨fun pins s σ H Q I ⟨g, ρ, b, α, β, r, p⟩ => p.elim⟩
theorem sn_bad : SN X W e badM := ⟨fun pins s σ H Q I ⟨g, ρ, b, α, β, r, p⟩ => p.elim⟩
theorem st_bad : ST X W e badM := ⟨fun pins s σ H Q I ⟨g, ρ, b, α, β, r, p⟩ => p.elim⟩
theorem si_bad {tg : Expr} : SIs X W tg e badM := ⟨fun pins s σ H Q I ⟨g, ρ, b, α, β, r, p⟩ => p.elim⟩
theorem ss_bad : SS X W st badS := ⟨fun pins s σ H D I ⟨g, ρ, b, α, β, r, p⟩ => p.elim⟩
theorem sb_bad : SB X W sts badS := ⟨fun pins s σ H D I ⟨g, ρ, b, α, β, r, p⟩ => p.elim⟩
/-! ### x op= e -/
def fdivI (i j : Int) : Option Int := if 0 < j ∧ j < 1073741824 then some (i / j) else none
theorem ip_fdivI : PIp X .FloorDiv (ipO fdivI) := fun pins s σ H x y v u Q I r1 r2 ⟨i, j, k, e1, e2, ek, q⟩ => by
  subst e1 e2
  unfold fdivI at ek
  split at ek
  · rename_i hc
    cases ek
    obtain ⟨t, rfl⟩ := r1
    obtain ⟨t', rfl⟩ := r2
    have e0 : i / j = i.fdiv j := (Int.fdiv_eq_ediv_of_nonneg i (by omega)).symm
    rw [e0] at q
    exact ifloordiv_int (by omega) ⟨.int _, H, I.tok _, ⟨_, rfl⟩, q⟩ (.inl (PyProof.noPylong_small (by omega)))
  · cases ek
/-! ### a list or a tuple, turned about -/
def revD : D → Option D
  | .list xs => some (.list xs.reverse)
  | .tuple xs => some (.tuple xs.reverse)
  | _ => none
def revM (ma : ME D) : ME D := bindM ma fun d => liftO (revD d)
end
section
variable {prog : Program} {w : World} {A : Around} {E : Value → Shared → Prop} {s : Shared}
theorem adjust_rev (n : Nat) : Builtin.Slice.sliceAdjust none none (-1) (n : Int) = ((n : Int) - 1, -1) := rfl
theorem places_rev (n : Nat) : Builtin.Slice.slicePlaces ((n : Int) - 1) (-1) (-1) = n := by
  unfold Builtin.Slice.slicePlaces
  rw [if_neg (by decide)]
  by_cases h : (n : Int) - 1 > -1
  · rw [if_pos h, show (-(-1) : Int) = 1 from rfl, Int.ediv_one]
    omega
  · rw [if_neg h]
    show 0 = n
    omega
theorem pick_rev (xs : Array Value) : ((List.range xs.size).filterMap fun (m : Nat) => xs[(((xs.size : Nat) : Int) - 1 + (m : Int) * (-1)).toNat]?).toArray = xs.toList.reverse.toArray := by
  have e : (List.range xs.size).filterMap (fun (m : Nat) => xs[(((xs.size : Nat) : Int) - 1 + (m : Int) * (-1)).toNat]?) = ((List.range xs.size).map fun k => xs.size - 1 - k).filterMap (xs[·]?) := by
    have e1 : (List.range xs.size).map (fun k => xs.size - 1 - k) = (List.range xs.size).map (fun (m : Nat) => (((xs.size : Nat) : Int) - 1 + (m : Int) * (-1)).toNat) := List.map_congr_left fun m hm => by
      have := List.mem_range.mp hm
      omega
    rw [e1, List.filterMap_map]
    rfl
  rw [e, PySem.W.krv_range, List.filterMap_reverse, PySem.W.krv_all]
theorem tuple_rev {t sl : Addr} {items : Array Value} {vk : Value} {Q : Value → Shared → Prop} (ht : IsTup s.heap t items) (hs : s.heap.IsSliceOf sl .none .none vk) (pk : IsPart vk (some (-1)))
    (h : Q (.ref s.heap.objs.size) { s with heap := s.heap.push { cls := .type "tuple", data := .seq items.toList.reverse.toArray } }) (hsz : items.size ≤ sizeLine) : wpAny (model prog w) A (getItem (.ref t) (.ref sl)) Q E s := by
  have hok : sizeOk (.seq items.toList.reverse.toArray) := by
    show items.toList.reverse.toArray.size ≤ sizeLine
    rw [List.size_toArray, List.length_reverse, Array.length_toList]
    exact hsz
  obtain ⟨os, hos, hcs, hds⟩ := id hs
  have hTs : s.TypeIs (.ref sl) "slice" := ⟨os, hos, hcs⟩
  unfold getItem
  try with_reducible refine wpAny_holding ?_
  first | refine wpAny_bind (wpAny_pure ?_) | skip
  refine wpAny_bind (wpAny_sequenceKey ht.typeIs (by decide) ?_)
  refine wpAny_bind (wpAny_callSpecial?_slot (name := Str.ofString "__getitem__") ht.typeIs PyProof.Rows.slot_tuple_getitem (wpAny_call_entry PyProof.Rows.slot_tuple_getitem ht.typeIs entry_tuple_getitem ?_ (args_tuple_getitem _ _)))
  show wpAny _ _ (Builtin.Tuple.tupleItemsOf (.ref t) >>= _) _ _ s
  refine wpAny_bind (tupleItemsOf_ ht ?_)
  refine wpAny_bind (wpAny_typeOf hTs ?_)
  rw [if_pos (by decide)]
  have ap : ∀ {Q2 : Int × Int × Nat → Shared → Prop} {A' : Around} {E' : Value → Shared → Prop}, Q2 (((items.size : Nat) : Int) - 1, -1, items.size) s → wpAny (model prog w) A' (Builtin.Slice.sliceApplied (.ref sl) (pure (items.size : Int))) Q2 E' s := fun {Q2 A' E'} q => by
    unfold Builtin.Slice.sliceApplied Builtin.Slice.sliceFields
    refine wpAny_bind (wpAny_bind (wpAny_field hos hds (x := .none) rfl (wpAny_bind (wpAny_field hos hds (x := .none) rfl (wpAny_bind (wpAny_field hos hds (x := vk) rfl (wpAny_pure ?_)))))))
    refine wpAny_bind (HT.slicePart_ pk ?_)
    show wpAny _ _ (if ((-1 : Int) == 0) = true then _ else _) _ _ s
    rw [if_neg (by decide)]
    refine wpAny_bind (HT.slicePart_ .none (wpAny_bind (HT.slicePart_ .none (wpAny_bind (wpAny_pure ?_)))))
    show wpAny _ _ (match Builtin.Slice.sliceAdjust none none (-1) (items.size : Int) with | (lo, hi) => pure (lo, (-1 : Int), Builtin.Slice.slicePlaces lo hi (-1))) _ _ s
    rw [adjust_rev]
    show wpAny _ _ (pure (((items.size : Nat) : Int) - 1, (-1 : Int), Builtin.Slice.slicePlaces (((items.size : Nat) : Int) - 1) (-1) (-1))) _ _ s
    rw [places_rev]
    exact wpAny_pure q
  refine wpAny_bind (ap ?_)
  have hno : ¬ (((((items.size : Nat) : Int) - 1) == 0 && (-1 : Int) == 1 && items.size == items.size) = true) := by
    intro q
    rw [Bool.and_eq_true, Bool.and_eq_true] at q
    exact absurd (eq_of_beq q.1.2) (by decide)
  show wpAny _ _ (if (((((items.size : Nat) : Int) - 1) == 0 && (-1 : Int) == 1 && items.size == items.size) = true) then _ else _) _ _ s
  rw [if_neg hno, pick_rev]
  first
    | exact wpAny_bind (m := Builtin.Tuple.tupleExact _) (wpAny_newObj_type (wpAny_pure ⟨_, rfl, wpAny_pure h⟩) hok)
    | exact wpAny_bind (m := Builtin.Tuple.tupleExact _) (wpAny_newObj_type (wpAny_bind (wpAny_pure (wpAny_pure ⟨_, rfl, wpAny_pure h⟩))) hok)
    | exact wpAny_bind (wpAny_bind (m := Builtin.Tuple.tupleExact _) (wpAny_newObj_type (wpAny_pure (wpAny_pure ⟨_, rfl, wpAny_pure h⟩)) hok))
    | exact wpAny_bind (wpAny_bind (m := Builtin.Tuple.tupleExact _) (wpAny_newObj_type (wpAny_pure ⟨_, rfl, wpAny_pure h⟩) hok))
end
section
variable {X : Cx} {W : WX} {e a : Expr} {ma : ME D} {pos : Pos}
def tRevA (K : PySem.W.Frag) (te : TE) : TE := fun σ H Q => te σ H fun x H1 => (∃ a xs, x = .ref a ∧ SqL K H1 a xs ∧ ∀ p, H1 p = none → Q (.ref p) (upd H1 p (.lst xs.reverse))) ∨ (∃ a xs, x = .ref a ∧ SqT K H1 a xs ∧ ∀ p, H1 p = none → Q (.ref p) (upd H1 p (.tup xs.reverse)))
theorem pe_revA {te : TE} {k : Nat} {p1 p2 p3 : Pos} (he : PE X e te) : PE X (.Subscript e (.Slice none none (some (.UnaryOp .USub (.Constant (.int 1) k p1) p2)) p3) pos) (tRevA X.K te) := by
  refine ⟨fun pins s σ H Q I h => ?_⟩
  refine Subscript_ (thn (he.run pins s σ H _ I h) fun v s1 ⟨x, H1, I1, r1, q1⟩ => ?_)
  have ex : ∃ a, x = .ref a := by
    rcases q1 with ⟨a, _, z, _⟩ | ⟨a, _, z, _⟩ <;> exact ⟨a, z⟩
  obtain ⟨a, ex⟩ := ex
  subst ex
  cases r1
  have hst : PO X (some (.UnaryOp .USub (.Constant (.int 1) k p1) p2)) (tPart (tUn (rU fun i => .int (-i)) (tC (.int 1)))) := po_some (pe_un un_neg pe_int)
  refine wpAny_Slice (thn (po_none.run pins s1 σ H1 (fun o H2 => o = none ∧ H2 = H1) I1 ⟨rfl, rfl⟩) fun vl s2 ⟨l, H2, I2, pl, el, e2⟩ => ?_)
  subst el e2
  refine thn (po_none.run pins s2 σ H2 (fun o H3 => o = none ∧ H3 = H2) I2 ⟨rfl, rfl⟩) fun vu s3 ⟨u, H3, I3, pu, eu, e3⟩ => ?_
  subst eu e3
  refine thn (hst.run pins s3 σ H3 (fun o H4 => o = some (-1) ∧ H4 = H3) I3 ⟨1, rfl, -1, rfl, rfl, rfl⟩) fun vs s4 ⟨o, H4, I4, ps, eo, e4⟩ => ?_
  subst eo e4
  have I5 : Inv X pins σ H4 { s4 with heap := s4.heap.push { cls := .type "slice", data := .fields #[vl, vu, vs] } } := I4.kept (t' := s4.toks) fun b ob q => Heap.get?_push_of_some _ q
  show wpAny (model X.prog X.w) X.A (subscriptTail e (.Slice none none (some (.UnaryOp .USub (.Constant (.int 1) k p1) p2)) p3) (.ref a) (.ref s4.heap.objs.size)) (EP X pins σ Q) X.xe { s4 with heap := s4.heap.push { cls := .type "slice", data := .fields #[vl, vu, vs] } }
  rcases q1 with ⟨a', xs, ez, hx, q⟩ | ⟨a', xs, ez, hx, q⟩ <;> cases ez
  · obtain ⟨its, r, ht, hz⟩ := I5.list hx
    have hlen := r.length
    refine tail_any (ops := [.ref a, .ref s4.heap.objs.size]) ht.isList.typeIs (PySem.slot_list_getitem.lookup) ?_ (by with_unfolding_all rfl)
    refine wpAny_getItem_list_slice ht.isList (Heap.IsSliceOf.new _ vl vu vs) pl pu ps (by decide) ?_ (by rw [List.size_toArray]; omega)
    rw [PySem.W.krv_pick]
    refine ⟨.ref _, _, I5.laid (t' := s4.toks) (o := .lst xs.reverse) (fun b ob q => Heap.get?_push_of_some _ q) (Nat.le_refl _) ?_, rfl, q _ (I5.hok.fresh (Nat.le_refl _))⟩
    exact ⟨by rw [List.length_reverse]; exact hz, _, 0, r.reverse, Heap.get?_push_size _ rfl⟩
  · obtain ⟨its, r, ht, hz⟩ := I5.tuple hx
    have hlen := r.length
    cases pl
    cases pu
    refine tail_any (ops := [.ref a, .ref s4.heap.objs.size]) ht.typeIs (PyProof.Rows.slot_tuple_getitem.lookup) ?_ (by with_unfolding_all rfl)
    refine tuple_rev ht (Heap.IsSliceOf.new _ .none .none vs) ps ?_ (by rw [List.size_toArray]; omega)
    refine ⟨.ref _, _, I5.laid (t' := s4.toks) (o := .tup xs.reverse) (fun b ob q => Heap.get?_push_of_some _ q) (Nat.le_refl _) ?_, rfl, q _ (I5.hok.fresh (Nat.le_refl _))⟩
    exact ⟨by rw [List.length_reverse]; exact hz, _, r.reverse, IsTup.new _ _⟩
theorem se_rev {k : Nat} {p1 p2 p3 : Pos} (he : SW X W e ma) : SE X W (.Subscript e (.Slice none none (some (.UnaryOp .USub (.Constant (.int 1) k p1) p2)) p3) pos) (revM ma) :=
  PE.imp (pe_revA he) fun σ H Q h => by
    refine tR_bind h fun g ρ b α β d x H1 r l p => ?_
    obtain ⟨z, ez, q⟩ := post_lift p
    cases d <;> first | (cases ez; done) | skip
    · cases ez
      obtain ⟨a, vs, rfl, h1, h2⟩ := l.lst
      exact .inl ⟨a, vs, rfl, h1, fun p hp => q _ _ (RD.newL r.gd hp h2.reverse) (Keep.upd hp).of0 (r.box.keep0 (KeepS.upd hp))⟩
    · cases ez
      obtain ⟨a, vs, rfl, h1, h2⟩ := l.tup
      exact .inr ⟨a, vs, rfl, h1, fun p hp => q _ _ (RD.newT r.gd hp h2.reverse) (Keep.upd hp).of0 (r.box.keep0 (KeepS.upd hp))⟩
/-! ### repr -/
def reprF : List D → Option D
  | [.int i] => if i.natAbs.log2 < 1920 then some (.str (toString i)) else none
  | [.none] => some (.str "None")
  | [.bool b] => some (.str (if b then "True" else "False"))
  | _ => none
theorem f_repr : CallR X (.builtin "repr") (rF X.K reprF) := by
  intro pins s σ H vs us Q I r ⟨O, B, ds, z, G, l, ez, q⟩
  unfold reprF at ez
  split at ez
  · split at ez
    · rename_i hz
      cases ez
      obtain ⟨v, rfl, w⟩ := l.one
      rw [w.int] at r
      exact SkE.call_repr_int pins s σ H _ us Q I r ⟨_, rfl, hz, q _ H (.str _) (KeepS.refl _)⟩
    · cases ez
  · cases ez
    obtain ⟨v, rfl, w⟩ := l.one
    rw [w.non] at r
    cases r with
    | cons a b =>
      cases b
      cases a
      exact PySem.P.repr_of_none ⟨.str _, H, I.tok _, ⟨_, rfl⟩, q _ H (.str _) (KeepS.refl _)⟩
  · cases ez
    obtain ⟨v, rfl, w⟩ := l.one
    rw [w.bl] at r
    cases r with
    | cons a b =>
      cases b
      cases a
      exact PySem.P.repr_of_bool ⟨.str _, H, I.tok _, ⟨_, rfl⟩, q _ H (.str _) (KeepS.refl _)⟩
  · cases ez
/-! ### keywords -/
def SK (X : Cx) (W : WX) (kws : List Keyword) (m : ME (List D)) : Prop := PK X kws (tR (Cx.z X) (lDs X.K) W m)
theorem PK.imp {kws : List Keyword} {t t' : TA} (h : PK X kws t) (i : ∀ σ H Q, t' σ H Q → t σ H Q) : PK X kws t' := ⟨fun pos pins s σ H Q I q => h.run pos pins s σ H Q I (i σ H Q q)⟩
theorem sk_nil : SK X W [] nilM := PK.imp pk_nil fun σ H Q ⟨g, ρ, b, α, β, r, p⟩ => p [] H .nil (Keep.refl _ _) r.box
theorem sk_cons {nm : Option Str} {kpos : Pos} {kws : List Keyword} {ms : ME (List D)} (ha : SE X W e ma) (hr : SK X W kws ms) : SK X W (⟨nm, e, kpos⟩ :: kws) (consM ma ms) :=
  PK.imp (pk_cons ha hr) fun σ H Q h => tR_bind2 (L := lD X.K) (L2' := lDs X.K) pers_D h fun g ρ b α β a c x y H1 r l1 l2 p => p (x :: y) H1 (.cons l1 l2) (Keep.refl _ _) r.box
/-- the things at these places -/
def pickL {α : Type} : List Nat → List α → List α
  | [], _ => []
  | i :: is, xs => match xs[i]? with
    | some x => x :: pickL is xs
    | none => pickL is xs
theorem pickL_vals {xs : List V} {us : List Value} (r : Vals xs us) : ∀ is : List Nat, Vals (pickL is xs) (pickL is us)
  | [] => .nil
  | i :: is => by
    unfold pickL
    cases e : xs[i]? with
    | none =>
      rw [r.none_of e]
      exact pickL_vals r is
    | some x =>
      obtain ⟨u, h1, h2⟩ := r.get e
      rw [h1]
      exact .cons h2 (pickL_vals r is)
theorem pickL_rds {K : PySem.W.Frag} {O : Own} {H : Hp} {ds : List D} {vs : List V} (r : RDs K O H ds vs) : ∀ is : List Nat, RDs K O H (pickL is ds) (pickL is vs)
  | [] => .nil
  | i :: is => by
    unfold pickL
    cases e : ds[i]? with
    | none =>
      have : vs[i]? = none := by
        rw [List.getElem?_eq_none_iff] at e ⊢
        rw [← r.length]; exact e
      rw [this]
      exact pickL_rds r is
    | some x =>
      obtain ⟨u, h1, h2⟩ := r.get e
      rw [h1]
      exact .cons h2 (pickL_rds r is)
def gK {α : Type} (np nk : Nat) (is : List Nat) (us ws : List α) : List α := if us.length = np ∧ ws.length = nk then pickL is (us ++ ws) else []
/-- how f(e, .., k = v, ..) binds -/
theorem kb_of {K : PySem.W.Frag} {fd : FuncData} {ps ks : List Str} {np nk : Nat} {is : List Nat} (hp : 0 < ps.length)
    (h : ∀ (s : Shared) (us ws : List Value), K.In s.heap → us.length = np → ws.length = nk → BindsTo s fd ⟨us, ks.zip ws⟩ (ps.zip (pickL is (us ++ ws)))) : KBinds K fd ps ks (gK np nk is) (gK np nk is) := ⟨fun s us ws kin hl => by
  unfold gK at hl ⊢
  by_cases hh : us.length = np ∧ ws.length = nk
  · rw [if_pos hh]
    exact h s us ws kin hh.1 hh.2
  · rw [if_neg hh] at hl
    exact absurd hl (Nat.ne_of_lt hp), fun {vs us zs ws} r1 r2 => by
  unfold gK
  rw [r1.length, r2.length]
  split
  · exact pickL_vals (r1.append r2) is
  · exact .nil⟩
def callK (np nk : Nat) (is : List Nat) (n : Nat) (fm : FN) (ms mk : ME (List D)) : ME D := bindM ms fun ds => bindM mk fun es => callM n fm fun _ b => .ok (gK np nk is ds es) b
def tCallKS (sp : Sp) (gV : List V → List V → List V) (E : L2.St → XK) (t tk : TA) : TE := fun σ H Q => t σ H fun vs H1 => tk σ H1 fun zs H2 => sp (gV vs zs) H2 Q (E σ)
variable {k : Nat} {f : Addr} {fd : FuncData} {ps ks : List Str} {x : Str} {p : Pos} {es : List Expr} {kws : List Keyword} {np nk : Nat} {is : List Nat} {fm : FN} {ms mk : ME (List D)}
theorem pe_callKS {CX : CXT} {sp : Sp} {E : L2.St → XK} {t tk : TA} {g : List Value → List Value → List Value} {gV : List V → List V → List V} (F : FnOk X.prog X.w X.K X.mg X.base CX k f fd ps sp) (hr : Room k X.A) (hg : Gl X x) (hm : X.mg x = some (.ref f)) (hk : PySem.W.keepIn X.K (.ref f) = true) (hb : KBinds X.K fd ps ks g gV) (hx : ∀ σ, PassesAt CX X σ (E σ))
    (ha : PA X (e :: es) t) (hkw : PK X kws tk) (hall : (backToKw pos (keywordEach kws X.env)).all (·.1.isSome) = true) (hks : (backToKw pos (keywordEach kws X.env)).filterMap (·.1) = ks)
    (hdb : (x == ("__debug__" : Str)) = false) (he : starEach (e :: es) X.env = (false, eval e X.env) :: starEach es X.env) (hpl : ((backTo pos (starEach (e :: es) X.env)).any (·.1) || (backToKw pos (keywordEach kws X.env)).any (·.1.isNone)) = false) :
    PE X (.Call (.Name x p) (e :: es) kws pos) (tCallKS sp gV E t tk) := by
  refine ⟨fun pins s σ H Q I h => wpAny_Call_Name_kw (ld_glob I hg hm ?_ hdb)⟩
  refine PySem.W.callWith_KW (h₀ := X.base) I.ok.mod.kin hk hall (thn (ha.run pos pins s σ H _ I h) fun us s1 ⟨vs, H1, I1, r, q⟩ => ?_) hpl he
  refine thn (hkw.run pos pins s1 σ H1 _ I1 q) fun ws s2 ⟨zs, H2, I2, rz, q2⟩ => ⟨I2.kIn, ?_⟩
  rw [hks]
  have r2 := hb.rel r rz
  have hl : (g us ws).length = ps.length := by rw [← r2.length]; exact F.len _ _ _ _ q2
  refine wpAny_call (codeAny_mono (F.run X.A X.stack s2 H2 ⟨us, ks.zip ws⟩ (g us ws) (gV vs zs) Q (E σ) hr I2.env0 (hb.to s2 us ws I2.kIn hl) r2 q2) fun r s' hq => ?_)
  cases r with
  | error e => exact hx σ pins H2 s2 e s' I2 hq
  | ok fl =>
    cases fl with
    | ret u => exact I2.after hq
    | next => exact False.elim hq
    | brk => exact False.elim hq
    | cont => exact False.elim hq
theorem pe_callKS0 {CX : CXT} {sp : Sp} {E : L2.St → XK} {tk : TA} {g : List Value → List Value → List Value} {gV : List V → List V → List V} (F : FnOk X.prog X.w X.K X.mg X.base CX k f fd ps sp) (hr : Room k X.A) (hg : Gl X x) (hm : X.mg x = some (.ref f)) (hk : PySem.W.keepIn X.K (.ref f) = true) (hb : KBinds X.K fd ps ks g gV) (hx : ∀ σ, PassesAt CX X σ (E σ))
    (hkw : PK X kws tk) (hall : (backToKw pos (keywordEach kws X.env)).all (·.1.isSome) = true) (hks : (backToKw pos (keywordEach kws X.env)).filterMap (·.1) = ks)
    (hdb : (x == ("__debug__" : Str)) = false) (hpl : ((backTo pos (starEach [] X.env)).any (·.1) || (backToKw pos (keywordEach kws X.env)).any (·.1.isNone)) = false) :
    PE X (.Call (.Name x p) [] kws pos) (tCallKS sp gV E tNil tk) := by
  refine ⟨fun pins s σ H Q I h => wpAny_Call_Name_kw (ld_glob I hg hm ?_ hdb)⟩
  refine PySem.W.callWith_KW0 (h₀ := X.base) I.ok.mod.kin hk hall (thn (hkw.run pos pins s σ H _ I h) fun ws s2 ⟨zs, H2, I2, rz, q2⟩ => ⟨I2.kIn, ?_⟩) hpl
  rw [hks]
  have r2 := hb.rel (us := []) .nil rz
  have hl : (g [] ws).length = ps.length := by rw [← r2.length]; exact F.len _ _ _ _ q2
  refine wpAny_call (codeAny_mono (F.run X.A X.stack s2 H2 ⟨[], ks.zip ws⟩ (g [] ws) (gV [] zs) Q (E σ) hr I2.env0 (hb.to s2 [] ws I2.kIn hl) r2 q2) fun r s' hq => ?_)
  cases r with
  | error e => exact hx σ pins H2 s2 e s' I2 hq
  | ok fl =>
    cases fl with
    | ret u => exact I2.after hq
    | next => exact False.elim hq
    | brk => exact False.elim hq
    | cont => exact False.elim hq
theorem gK_rds {K : PySem.W.Frag} {O : Own} {H : Hp} {ds es : List D} {vs zs : List V} (r : RDs K O H ds vs) (r2 : RDs K O H es zs) : RDs K O H (gK np nk is ds es) (gK np nk is vs zs) := by
  unfold gK
  rw [r.length, r2.length]
  split
  · exact pickL_rds (r.append r2) is
  · exact .nil
/-- the call, its arguments known -/
theorem call_at {n : Nat} {σ : L2.St} {H : Hp} {Q : VK} {g : Gh} {ρ : En} {b : Bx} {α : Nat → Addr} {β : Option Addr} {ds : List D} {vs : List V} (r : RE X.K g H ρ b σ α β) (l : RDs X.K (OW g ρ α β) H ds vs)
    (p : PostR (Cx.z X) (lD X.K) W (OW g ρ α β) g β σ H Q (callM n fm (fun _ b => .ok ds b) ρ b)) : spF (Cx.z X) n fm vs H Q (WE W σ) := by
  unfold callM bindM at p
  simp only [Fs.R.bind] at p
  split at p
  · rename_i hl
    refine ⟨by rw [← l.length, hl], OW g ρ α β, ds, r.ownL, r.tab, l, ?_⟩
    cases ef : fm ds with
    | ok d =>
      rw [ef] at p
      exact fun v H2 l2 k2 t2 => p v H2 l2 k2.of0 (r.box.keepT k2 (by rw [r.tt]; exact t2))
    | ex x =>
      rw [ef] at p
      exact fun cls dd H2 l2 k2 t2 => p cls dd H2 l2 k2.of0 (r.box.keepT k2 (by rw [r.tt]; exact t2))
    | bad => rw [ef] at p; exact p
  · exact p.elim
theorem se_callK (F : FnOk X.prog X.w X.K X.mg X.base (L2.CX X.prog X.w) k f fd ps (spF (Cx.z X) ps.length fm)) (hr : Room k X.A) (hg : Gl X x) (hm : X.mg x = some (.ref f)) (hk : PySem.W.keepIn X.K (.ref f) = true) (hb : KBinds X.K fd ps ks (gK np nk is) (gK np nk is)) (tk : Takes X W)
    (ha : SA X W (e :: es) ms) (hkw : SK X W kws mk) (hall : (backToKw pos (keywordEach kws X.env)).all (·.1.isSome) = true := by rfl) (hks : (backToKw pos (keywordEach kws X.env)).filterMap (·.1) = ks := by rfl)
    (hdb : (x == ("__debug__" : Str)) = false := by decide) (he : starEach (e :: es) X.env = (false, eval e X.env) :: starEach es X.env := by rfl) (hpl : ((backTo pos (starEach (e :: es) X.env)).any (·.1) || (backToKw pos (keywordEach kws X.env)).any (·.1.isNone)) = false := by rfl) :
    SE X W (.Call (.Name x p) (e :: es) kws pos) (callK np nk is ps.length fm ms mk) :=
  PE.imp (pe_callKS F hr hg hm hk hb (fun σ => passAt tk σ) ha hkw hall hks hdb he hpl) fun σ H Q h => tR_bind2 (L := lDs X.K) (L2' := lDs X.K) pers_Ds h fun g ρ b α β a c x y H1 r l1 l2 p => call_at r (gK_rds l1 l2) p
theorem se_callK0 (F : FnOk X.prog X.w X.K X.mg X.base (L2.CX X.prog X.w) k f fd ps (spF (Cx.z X) ps.length fm)) (hr : Room k X.A) (hg : Gl X x) (hm : X.mg x = some (.ref f)) (hk : PySem.W.keepIn X.K (.ref f) = true) (hb : KBinds X.K fd ps ks (gK 0 nk is) (gK 0 nk is)) (tk : Takes X W)
    (hkw : SK X W kws mk) (hall : (backToKw pos (keywordEach kws X.env)).all (·.1.isSome) = true := by rfl) (hks : (backToKw pos (keywordEach kws X.env)).filterMap (·.1) = ks := by rfl)
    (hdb : (x == ("__debug__" : Str)) = false := by decide) (hpl : ((backTo pos (starEach [] X.env)).any (·.1) || (backToKw pos (keywordEach kws X.env)).any (·.1.isNone)) = false := by rfl) :
    SE X W (.Call (.Name x p) [] kws pos) (callK 0 nk is ps.length fm nilM mk) :=
  PE.imp (pe_callKS0 F hr hg hm hk hb (fun σ => passAt tk σ) hkw hall hks hdb hpl) fun σ H Q ⟨g, ρ, b, α, β, r, p⟩ => by
    show tR (Cx.z X) (lDs X.K) W mk σ H _
    have p : PostR (Cx.z X) (lD X.K) W (OW g ρ α β) g β σ H Q (bindM mk (fun es => callM ps.length fm fun _ b => .ok (gK 0 nk is [] es) b) ρ b) := p
    exact tR_bind (L := lDs X.K) ⟨g, ρ, b, α, β, r, p⟩ fun g ρ b α β c y H1 r l2 p => call_at r (gK_rds .nil l2) p
end
end Fs
namespace Fs
open L2 PyProof.Rows PySem.Spec PySem
variable [LT]
theorem Fun.kb {K : PySem.W.Frag} {x qual : Str} {st : Stmt} {f : Addr} {fd : FuncData} {ps ks : List Str} {np nk : Nat} {is : List Nat} (F : Fun K x qual st f fd) (hp : 0 < ps.length)
    (h : ∀ (kV doc pm : Value) (an : Option Addr) (cdv ct : Value) (us ws : List Value), us.length = np → ws.length = nk → bindArgs (PySem.W.fnOf x qual (defArgs st) (defBody st) (defScope st) .none kV doc pm an cdv ct) ⟨us, ks.zip ws⟩ = pure (ps.zip (pickL is (us ++ ws)))) :
    KBinds K fd ps ks (gK np nk is) (gK np nk is) := by
  obtain ⟨oc, od, kV, doc, pm, an, cdv, ct, osl, rfl, lk, hcd⟩ := F.ex
  exact kb_of hp fun s us ws _ h1 h2 => .of_eq (h kV doc pm an cdv ct us ws h1 h2)
theorem bt_all : bootBuiltins "all" = some (.builtin "all") := by kernel_rfl
theorem bt_any : bootBuiltins "any" = some (.builtin "any") := by kernel_rfl
theorem bt_sum : bootBuiltins "sum" = some (.builtin "sum") := by kernel_rfl
theorem bt_max : bootBuiltins "max" = some (.builtin "max") := by kernel_rfl
theorem bt_min : bootBuiltins "min" = some (.builtin "min") := by kernel_rfl
theorem bt_sorted : bootBuiltins "sorted" = some (.builtin "sorted") := by kernel_rfl
theorem bt_repr : bootBuiltins "repr" = some (.builtin "repr") := by kernel_rfl
end Fs

/-! M6: len(set(ints)), list(range(n)). -/
namespace Fs
open L2 PyProof.Rows PySem.Spec PySem
variable [LT]
section
variable {X : Cx} {W : WX} {e a : Expr} {ma : ME D} {pos p p2 q : Pos}
/-! ### list(range(n)), tuple(range(n)) -/
def rgD (d : D) : Option (List D) := match d with
  | .int j => if -(2 ^ 62) ≤ j ∧ j ≤ 16777216 then some (rngL 0 j.toNat) else none
  | _ => none
theorem rgV_rds {K : PySem.W.Frag} {O : Own} {H : Hp} (j : Int) : RDs K O H (rngL 0 j.toNat) (rgV 0 j) := by
  have e1 : rngL 0 j.toNat = ((List.range j.toNat).map fun (i : Nat) => (0 + (i : Int))).map .int := by
    rw [List.map_map]; rfl
  have e2 : rgV 0 j = ((List.range j.toNat).map fun (i : Nat) => (0 + (i : Int))).map .int := by
    rw [List.map_map]
    unfold rgV
    rw [show j - 0 = j by omega]
    rfl
  rw [e1, e2]
  exact RDs.of_ints _
def listRngM (ma : ME D) : ME D := bindM ma fun d => liftO ((rgD d).map .list)
def tupleRngM (ma : ME D) : ME D := bindM ma fun d => liftO ((rgD d).map .tuple)
theorem rng_ok {j : Int} (h : -(2 ^ 62) ≤ j ∧ j ≤ 16777216) : RgOk 0 j := ⟨by omega, by omega, by omega, by omega, by omega⟩
theorem se_listRng (hc : X.calm = true) (hg : Gl X "list") (hm : X.mg "list" = none) (hg2 : Gl X "range") (hm2 : X.mg "range" = none) (ha : SW X W a ma) (na : starEach [a] X.env = (false, eval a X.env) :: starEach [] X.env := by rfl)
    (nb : starEach [.Call (.Name "range" p2) [a] [] q] X.env = (false, eval (.Call (.Name "range" p2) [a] [] q) X.env) :: starEach [] X.env := by rfl) :
    SE X W (.Call (.Name "list" p) [.Call (.Name "range" p2) [a] [] q] [] pos) (listRngM ma) :=
  PE.imp (pe_listRg hc hg hm (prg_1 hg2 hm2 ha na) nb) fun σ H Q h => by
    refine tR_bind h fun g ρ b α β d x H1 r l pp => ?_
    obtain ⟨z, ez, qq⟩ := post_lift pp
    obtain ⟨xs, ex, rfl⟩ := Option.map_eq_some_iff.mp ez
    unfold rgD at ex
    split at ex
    · split at ex
      · rename_i hb
        cases ex
        exact ⟨_, l.int, rng_ok hb, fun pn hn => qq _ _ (RD.newL r.gd hn (rgV_rds _)) (Keep.upd hn).of0 (r.box.keep0 (KeepS.upd hn))⟩
      · cases ex
    · cases ex
theorem se_tupleRng (hc : X.calm = true) (hg : Gl X "tuple") (hm : X.mg "tuple" = none) (hg2 : Gl X "range") (hm2 : X.mg "range" = none) (ha : SW X W a ma) (na : starEach [a] X.env = (false, eval a X.env) :: starEach [] X.env := by rfl)
    (nb : starEach [.Call (.Name "range" p2) [a] [] q] X.env = (false, eval (.Call (.Name "range" p2) [a] [] q) X.env) :: starEach [] X.env := by rfl) :
    SE X W (.Call (.Name "tuple" p) [.Call (.Name "range" p2) [a] [] q] [] pos) (tupleRngM ma) :=
  PE.imp (pe_tupRg hc hg hm (prg_1 hg2 hm2 ha na) nb) fun σ H Q h => by
    refine tR_bind h fun g ρ b α β d x H1 r l pp => ?_
    obtain ⟨z, ez, qq⟩ := post_lift pp
    obtain ⟨xs, ex, rfl⟩ := Option.map_eq_some_iff.mp ez
    unfold rgD at ex
    split at ex
    · split at ex
      · rename_i hb
        cases ex
        exact ⟨_, l.int, rng_ok hb, fun pn hn => qq _ _ (RD.newT r.gd hn (rgV_rds _)) (Keep.upd hn).of0 (r.box.keep0 (KeepS.upd hn))⟩
      · cases ex
    · cases ex
/-! ### len(set(ints)) -/
def dedI : List Int → List Int
  | [] => []
  | n :: ns => if n ∈ ns then dedI ns else n :: dedI ns
theorem dedI_mem : ∀ {ns : List Int} {k : Int}, k ∈ dedI ns ↔ k ∈ ns
  | [], k => by simp [dedI]
  | n :: ns, k => by
    unfold dedI
    split
    · rename_i h
      rw [dedI_mem, List.mem_cons]
      exact ⟨.inr, fun z => z.elim (fun e => e ▸ h) id⟩
    · rw [List.mem_cons, List.mem_cons, dedI_mem]
theorem dedI_nodup : ∀ (ns : List Int), (dedI ns).Nodup
  | [] => List.nodup_nil
  | n :: ns => by
    unfold dedI
    split
    · exact dedI_nodup ns
    · rename_i h
      exact List.nodup_cons.mpr ⟨fun z => h (dedI_mem.mp z), dedI_nodup ns⟩
theorem same_len {as bs : List Int} (ha : as.Nodup) (hb : bs.Nodup) (h : ∀ k, k ∈ as ↔ k ∈ bs) : as.length = bs.length :=
  ((List.perm_ext_iff_of_nodup ha hb).mpr h).length_eq
def lenSetF (d : D) : Option D := match d with
  | .tuple ds => (intsF ds).bind fun ns => if ns.length ≤ 4000 then some (.int ((dedI ns).length : Nat)) else none
  | .list ds => (intsF ds).bind fun ns => if ns.length ≤ 4000 then some (.int ((dedI ns).length : Nat)) else none
  | _ => none
def lenSetM (ma : ME D) : ME D := bindM ma fun d => liftO (lenSetF d)
theorem ded_mem (k : Int) : ∀ (l acc : List Int), k ∈ l.foldl PyProof.Rows.step_dedup acc ↔ k ∈ acc ∨ k ∈ l
  | [], acc => by simp
  | x :: l, acc => by
    rw [List.foldl_cons, ded_mem k l]
    unfold PyProof.Rows.step_dedup
    by_cases h : acc.any (· == x) = true
    · rw [if_pos h]
      have hx : x ∈ acc := by
        obtain ⟨y, hy, e⟩ := List.any_eq_true.mp h
        rw [← eq_of_beq e]; exact hy
      rw [List.mem_cons]
      constructor
      · rintro (z | z)
        · exact .inl z
        · exact .inr (.inr z)
      · rintro (z | z | z)
        · exact .inl z
        · exact .inl (z ▸ hx)
        · exact .inr z
    · rw [if_neg h, List.mem_append, List.mem_singleton, List.mem_cons, or_assoc]
theorem ded_nodup : ∀ (l acc : List Int), acc.Nodup → (l.foldl PyProof.Rows.step_dedup acc).Nodup
  | [], acc, h => h
  | x :: l, acc, h => by
    rw [List.foldl_cons]
    refine ded_nodup l _ ?_
    unfold PyProof.Rows.step_dedup
    by_cases hx : acc.any (· == x) = true
    · rw [if_pos hx]; exact h
    · rw [if_neg hx]
      refine List.nodup_append.mpr ⟨h, List.nodup_cons.mpr ⟨nofun, List.nodup_nil⟩, fun a ha c hc e => hx ?_⟩
      rw [List.mem_singleton] at hc
      exact List.any_eq_true.mpr ⟨a, ha, by rw [e, hc]; exact beq_self_eq_true x⟩
theorem first_len (ns : List Int) : (PyProof.Rows.firstMet (fun i => ns.getD i 0) ns.length).length = (dedI ns).length := by
  have e : PyProof.Rows.firstMet (fun i => ns.getD i 0) ns.length = ns.foldl PyProof.Rows.step_dedup [] := by
    unfold PyProof.Rows.firstMet
    congr 1
    refine List.ext_getElem (by simp) fun i h1 h2 => ?_
    simp [h2]
  rw [e]
  exact same_len (ded_nodup ns [] List.nodup_nil) (dedI_nodup ns) fun k => by rw [ded_mem, dedI_mem]; simp
def tLenSetA (K : PySem.W.Frag) (ta : TE) : TE := fun σ H Q => ta σ H fun x H1 => ∃ (l : Addr) (ns : List Int), x = .ref l ∧ (SqL K H1 l (ns.map V.int) ∨ SqT K H1 l (ns.map V.int)) ∧ ns.length ≤ 4000 ∧ Q (.int ((dedI ns).length : Nat)) H1
theorem pe_lenSetA {ta : TE} (hc : X.calm = true) (hg : Gl X "len") (hm : X.mg "len" = none) (hg2 : Gl X "set") (hm2 : X.mg "set" = none) (ha : PE X a ta) (na : starEach [a] X.env = (false, eval a X.env) :: starEach [] X.env) :
    PE X (.Call (.Name "len" p) [.Call (.Name "set" p2) [a] [] q] [] pos) (tLenSetA X.K ta) := by
  refine ⟨fun pins s σ H Q I h => Call_ (ld_blt I hg hm boot_len ?_)⟩
  refine PyProof.Rows.callWith_builtin1 (PyProof.Rows.args_cons ?_ rfl) rfl rfl
  refine Call_ (ld_blt I hg2 hm2 boot_set ?_)
  refine PyProof.Rows.callWith_type1 (PyProof.Rows.args_cons (thn (ha.run pins s σ H _ I h) fun v s1 ⟨x, H1, I1, r1, q1⟩ => PyProof.Rows.args_nil ?_) na) na rfl
  obtain ⟨l, ns, rfl, hq, hl, q1⟩ := q1
  cases r1
  rcases hq with hq | hq
  · obtain ⟨its, r, pl, hz⟩ := I1.list hq
    have hlen : its.toArray.size = ns.length := by rw [List.size_toArray, ← r.length, List.length_map]
    refine call_set_list (I1.ok.hd hc) pl.isList (by simpa using r.ints) (by rw [hlen]; unfold scanBound; omega) fun h' tk hS hk => PyProof.Rows.args_nil ?_
    rw [hlen, first_len] at hS
    obtain ⟨o, es, ep, t, ho, hex, hd, _, _, _, hf, hn⟩ := hS
    have I2 : Inv X pins σ H1 { s1 with heap := h', toks := tk } := I1.kept fun b o e => hk b o (Heap.lt_size e) e
    have hle : (dedI ns).length ≤ 4000 := by
      have : (dedI ns).length ≤ ns.length := by
        rw [← first_len]; exact PyProof.Rows.firstMet_length_le _ _
      omega
    exact call_len_set ho hex hd hf (by rw [hn]; omega) ⟨.int ((dedI ns).length : Nat), H1, I2.tok _, ⟨_, by rw [hn]⟩, q1⟩
  · obtain ⟨its, r, pl, hz⟩ := I1.tuple hq
    refine call_set_tupI ns (I1.ok.hd hc) (isTup_of pl) (by simpa using r.ints) (by unfold scanBound; omega) fun h' tk c hS hcn hk => PyProof.Rows.args_nil ?_
    obtain ⟨o, es, ep, t, ho, hex, hd, hgood, hnd, hmem, _, hf, hn, _⟩ := hS
    have I2 : Inv X pins σ H1 { s1 with heap := h', toks := tk } := I1.kept hk
    have hc2 : c = (dedI ns).length := by
      have := same_len hnd (dedI_nodup ns) fun k => by rw [← hmem k, dedI_mem]; simp
      rw [List.length_map, Array.length_toList, hn] at this
      exact this
    exact call_len_set ho hex hd hf (by rw [hn]; omega) ⟨.int ((dedI ns).length : Nat), H1, I2.tok _, ⟨_, by rw [hn, hc2]⟩, q1⟩
theorem se_lenSet (hc : X.calm = true) (hg : Gl X "len") (hm : X.mg "len" = none) (hg2 : Gl X "set") (hm2 : X.mg "set" = none) (ha : SW X W a ma) (na : starEach [a] X.env = (false, eval a X.env) :: starEach [] X.env := by rfl) :
    SE X W (.Call (.Name "len" p) [.Call (.Name "set" p2) [a] [] q] [] pos) (lenSetM ma) :=
  PE.imp (pe_lenSetA hc hg hm hg2 hm2 ha na) fun σ H Q h => by
    refine tR_bind h fun g ρ b α β d x H1 r l pp => ?_
    obtain ⟨z, ez, qq⟩ := post_lift pp
    unfold lenSetF at ez
    split at ez
    · obtain ⟨ns, e1, e2⟩ := Option.bind_eq_some_iff.mp ez
      split at e2
      · rename_i hz
        cases e2
        rw [intsF_eq e1] at l
        obtain ⟨a, vs, rfl, h1, h2⟩ := l.tup
        rw [h2.ints] at h1
        exact ⟨a, ns, rfl, .inr h1, hz, qq _ H1 (.int _) (Keep.refl _ _) r.box⟩
      · cases e2
    · obtain ⟨ns, e1, e2⟩ := Option.bind_eq_some_iff.mp ez
      split at e2
      · rename_i hz
        cases e2
        rw [intsF_eq e1] at l
        obtain ⟨a, vs, rfl, h1, h2⟩ := l.lst
        rw [h2.ints] at h1
        exact ⟨a, ns, rfl, .inl h1, hz, qq _ H1 (.int _) (Keep.refl _ _) r.box⟩
      · cases e2
    · cases ez
def borD := iiD yes2 fun i j => .int (Builtin.bitOr i j)
theorem o_bor : OpR X (binaryOp .BitOr) (rD X.K borD) := o_ii (fun i j pins s σ H v u Q _ I rx ry q => op_or pins s σ H _ _ v u Q I rx ry ⟨i, j, rfl, rfl, q _ (.int _)⟩) fun _ _ _ _ _ h => rd_int h
end
end Fs

/-! M7: lambdas kept in a list. -/
namespace Fs
open L2 PyProof.Rows PySem.Spec PySem
variable [LT]
/-- a function object that is known -/
def FnO (f : Addr) (o : Obj) : HO := .ext fun h => h.get? f = some o
theorem fnO_at {P : Program} {w : World} {H : Hp} {h : Heap} {f : Addr} {o : Obj} (x : HOk P w H h) (e : H f = some (FnO f o)) : h.get? f = some o := (x f _ e).1
theorem fnO_new {P : Program} {w : World} {H : Hp} {h : Heap} {f : Addr} {o : Obj} (e : h.get? f = some o) : ObjOk P w H h f (FnO f o) := ⟨e, ⟨o, e⟩, fun h1 h2 p st => st _ p⟩
theorem fnO_tbl {f : Addr} {o : Obj} (ps : Array Value) : FnO f o ≠ .tbl ps := fun z => by unfold FnO at z; cases z
section
variable {X : Cx} {pins : List (Addr × Obj)} {σ : L2.St} {H : Hp} {s : Shared}
theorem lam_make4 {T : List (Addr × Str)} {c P : Addr} {params : Arguments} {body : Expr} {scope : Scope} {pos : Pos} {E : Value → Shared → Prop} {Q : Value → Shared → Prop} (I : Inv X pins σ H s) (tb : LamX.TabB X.base X.mg c P) (hcode : X.env.code = .ref c) (inT : (P, X.env.qual ++ "<lambda>") ∈ T)
    (one : ∀ p ∈ T, p.1 = P → p.2 = X.env.qual ++ "<lambda>") (hT : LamX.Tabs T H) (nodef : defaultsOf params X.env = ([], [])) (caps : ∀ y ∈ scope.names, y.2 = .free → ∃ c, X.env.cells.lookup y.1 = some c)
    (done : ∀ (f k : Addr) (pm ct : Value) (H1 : Hp) (s1 : Shared), Inv X pins σ H1 s1 → Keep nobody H H1 → LamX.Tabs T H1 → H1 f = some (FnO f (lamO X params body scope pm k ct)) → H f = none → H1 k = some (LamX.CodeO k (X.env.qual ++ "<lambda>")) → Q (.ref f) s1) :
    wpAny (model X.prog X.w) X.A (eval (.Lambda params body scope pos) X.env) Q E s := by
  obtain ⟨ps, hP, tr, told⟩ := hT _ inT
  have atP : s.heap.get? P = some { cls := .none, data := .fields ps } := I.hok P _ hP
  refine PySem.W.kla_eval nodef ?_
  have bi : s.heap.BuiltinsAt X.mg P := tb.bm.keeps I.bk
  -- the function object, new at f
  have put : ∀ {H1 : Hp} {h2 : Heap} {tk : Nat} {k : Addr} {pm ct : Value}, Inv X pins σ H1 { s with heap := h2, toks := tk } → LamX.Tabs T H1 → Keep nobody H H1 → s.heap.objs.size ≤ h2.objs.size → H1 k = some (LamX.CodeO k (X.env.qual ++ "<lambda>")) →
      Q (.ref h2.objs.size) { s with heap := h2.push (lamO X params body scope pm k ct), toks := tk } := fun {H1 h2 tk k pm ct} J jT kp big hk => by
    have fr : H1 h2.objs.size = none := J.hok.fresh (Nat.le_refl _)
    have K1 : KeepS H1 (upd H1 h2.objs.size (FnO h2.objs.size (lamO X params body scope pm k ct))) := KeepS.upd fr
    refine done h2.objs.size k pm ct _ _ (J.laid (t' := tk) (fun b o e => Heap.get?_push_of_some _ e) (Nat.le_refl _) (fnO_new (Heap.get?_push_size _ rfl))) (kp.trans K1.of0) (jT.ext K1) upd_same (I.hok.fresh big) (K1 _ _ hk)
  cases found : codeAmong pos ps.toList with
  | some cv =>
    obtain ⟨k, rfl, hk⟩ := told pos cv found
    refine PySem.W.kla_makeFunctionHit (mg := X.mg) (c := c) (P := P) (ps := ps) (closure_ok caps) I.ok.glob (I.mod.glob.keeps I.bk) hcode (tb.code.keeps I.bk) atP tr found bi fun ct h2 tk old big => ?_
    exact put (I.kept (t' := tk) fun b o e => old b o e) hT (Keep.refl _ _) big hk
  | none =>
    refine PySem.W.kla_makeFunction (mg := X.mg) (c := c) (P := P) (ps := ps) (closure_ok caps) I.ok.glob (I.mod.glob.keeps I.bk) hcode (tb.code.keeps I.bk) atP tr found tb.gP bi fun k ct h2 tk old big lt rec_ grown => ?_
    obtain ⟨k2, oc, vs, t, ek, hoc, hd, hv⟩ := rec_
    cases ek
    have fk : H k = none := I.hok.fresh big
    have nPk : P ≠ k := ne_of_none hP fk
    have sz : s.heap.objs.size ≤ h2.objs.size := Nat.le_trans big (Nat.le_of_lt lt)
    have J := LamX.inv_table (t' := tk) (more := #[rawInt pos.line, rawInt pos.col, .ref k]) (q := X.env.qual ++ "<lambda>") I hP (h' := h2) (fun b o hb e => old b o hb e) grown big ⟨oc, vs, t, hoc, hd, hv⟩
    have kp : ∀ b o, H b = some o → (∀ q, o ≠ .tbl q) → upd (upd H P (.tbl (ps ++ #[rawInt pos.line, rawInt pos.col, .ref k]))) k (LamX.CodeO k (X.env.qual ++ "<lambda>")) b = some o := fun b o e n => by
      rw [upd_ne (ne_of_none e fk), upd_ne (fun z => n ps (Option.some.inj (e.symm.trans (by rw [z]; exact hP))))]
      exact e
    have K : Keep nobody H (upd (upd H P (.tbl (ps ++ #[rawInt pos.line, rawInt pos.col, .ref k]))) k (LamX.CodeO k (X.env.qual ++ "<lambda>"))) := fun b o e _ => by
      by_cases hb : b = P
      · rw [hb, hP] at e
        cases e
        exact ⟨_, by rw [hb, upd_ne nPk, upd_same]⟩
      · rw [upd_ne (ne_of_none e fk), upd_ne hb, e]
        exact .self
    refine put J (fun p hp => ?_) K sz upd_same
    have el : (ps ++ #[rawInt pos.line, rawInt pos.col, .ref k]).toList = ps.toList ++ [rawInt pos.line, rawInt pos.col, .ref k] := by simp
    by_cases hb : p.1 = P
    · rw [one p hp hb, hb]
      refine ⟨_, by rw [upd_ne nPk, upd_same], by rw [el]; exact PySem.TriplesOk_snoc _ _ _ _ tr, fun p2 cv hc => ?_⟩
      rw [el] at hc
      rcases LamX.among_app _ tr hc with z | z
      · obtain ⟨c0, e1, e2⟩ := told p2 cv z
        exact ⟨c0, e1, kp _ _ e2 LamX.codeO_ne⟩
      · exact ⟨k, z, upd_same⟩
    · obtain ⟨qs, a1, a2, a3⟩ := hT p hp
      refine ⟨qs, by rw [upd_ne (ne_of_none a1 fk), upd_ne hb]; exact a1, a2, fun p2 cv hc => ?_⟩
      obtain ⟨c0, e1, e2⟩ := a3 p2 cv hc
      exact ⟨c0, e1, kp _ _ e2 LamX.codeO_ne⟩
/-- a() in the def that got it, the function object known -/
theorem pe_act3 {Ng : List Str} {qg a : Str} {sg scope : Scope} {gf f c : Addr} {cdg pm ct : Value} {params : Arguments} {body : Expr} {k i : Nat} {pn : List (Addr × Obj)} {xe : Value → Shared → Prop} {W : WX} {tb : XK → TE} {p1 p2 : Pos} (I : Inv X pins σ H s) (L : LamX.LamS X.env.scope scope)
    (nobind : bindArgs (PySem.W.kla_fn "<lambda>" (X.env.qual ++ "<lambda>") params body scope (cloFrom X.env.cells scope.names []) pm (.ref c) ct) ⟨[], []⟩ = pure [])
    (tk : Takes (actCx X Ng qg sg gf cdg s H pn xe) W) (room : Room (k + 1) (X.A.deeper (envOfC qg sg s.heap.objs.size gf cdg)))
    (runs : ∀ (A : Around) (outer : List Env) (s : Shared) (H : Hp) (E : XK), Room k (A.deeper (LamX.lamEnv X scope s.heap.objs.size f c)) → PE (LamX.lamCx X A outer s H E scope f c) body (tb E))
    (hN : Ng[i]? = some a) (hv : Vis sg a) (hd : (a == ("__debug__" : Str)) = false) (hcd : (a == ("__classdict__" : Str)) = false) :
    PE (actCx X Ng qg sg gf cdg s H pn xe) (.Call (.Name a p1) [] [] p2) (fun σZ HZ Q => σZ[i]? = some (some (.ref f)) ∧ HZ f = some (FnO f (lamO X params body scope pm c ct)) ∧ HZ c = some (LamX.CodeO c (X.env.qual ++ "<lambda>")) ∧ tb (WE W σZ) σ HZ Q) := by
  refine ⟨fun pinsZ sZ σZ HZ Q IZ ⟨hs, hf, hc, ht⟩ => wpAny_Call_Name_kw (thn ((pe_var (pos := p1) (i := i) hN hv hd hcd).run pinsZ sZ σZ HZ (fun v H1 => v = .ref f ∧ H1 = HZ) IZ ⟨.ref f, hs, rfl, rfl⟩) fun u s1 ⟨v, H1, I1, r1, ev, eH⟩ => ?_)⟩
  subst ev eH
  obtain rfl : u = Value.ref f := r1
  have of1 : s1.heap.get? f = some (lamO X params body scope pm c ct) := fnO_at I1.hok hf
  refine PySem.W.callWith_F0 ⟨_, _, _, _, of1⟩ ?_
  obtain ⟨⟨oc, vs, t, hoc, hdc, hvc⟩, _, _⟩ := I1.hok c _ hc
  have goes : codeAny (model X.prog X.w) (X.A.deeper (envOfC qg sg s.heap.objs.size gf cdg)) (.call (.ref f) ⟨[], []⟩) (CR (L2.CX X.prog X.w) (envOfC qg sg s.heap.objs.size gf cdg :: X.stack) X.prog X.w H1 s1 Q (WE W σZ)) s1 := by
    refine PySem.W.kla_callFunE room.depth of1 rfl L.co L.gen rfl ⟨c, oc, vs, t, rfl, hoc, hdc, hvc⟩ ?_
    rw [nobind]
    refine wpAny_pure (wpAny_newFunctionEnv (fun y hy => (L.own y hy).2) (fun y hy => absurd hy (by simp)) (fun h1 ns sb => ⟨I1.nolimit.fresh _ sb, ?_⟩) L.kind)
    show codeAny _ _ (.expr body (LamX.lamEnv X scope s1.heap.objs.size f c)) _ _
    have J : Inv (LamX.lamCx X (X.A.deeper (envOfC qg sg s.heap.objs.size gf cdg)) (envOfC qg sg s.heap.objs.size gf cdg :: X.stack) s1 H1 (WE W σZ) scope f c) [] σ H1 { s1 with heap := h1, toks := s1.toks + ([] : List (Str × Value)).length } :=
      LamX.lam_start2 I L I1.env0 room.hd I1.base ns fun b o e => sb.extBut b o (Nat.ne_of_lt (Heap.lt_size e)) (Heap.get?_push_of_some _ e)
    exact PySem.W.kla_codeExpr (wpAny_mono ((runs _ _ s1 H1 (WE W σZ) (room.deeper _)).run [] _ _ H1 Q J ht) (fun v s2 ⟨w2, H2, J2, rv, q⟩ => ⟨w2, H2, J2.os, J2.bare, J2.base, J2.hok, rv, q⟩) fun e s2 z => z)
  refine wpAny_call (codeAny_mono goes fun r s2 z => ?_)
  cases r with
  | error e => exact passAt tk σZ pinsZ H1 s1 e s2 I1 z
  | ok fl =>
    cases fl with
    | ret u => exact I1.after z
    | next => exact z.elim
    | brk => exact z.elim
    | cont => exact z.elim
end
/-- a(), by total functions, the function object known -/
theorem seg_act3 {X : Cx} {W : WX} {Ng : List Str} {qg a : Str} {sg : Scope} {gf f c : Addr} {cdg : Value} {s : Shared} {H : Hp} {pn : List (Addr × Obj)} {xe : Value → Shared → Prop} {mb : ME D} {g : Gh} {ρ : En} {b : Bx} {α : Nat → Addr} {β : Option Addr} {σ : L2.St} {p1 p2 : Pos} {o : Obj}
    (r : RE X.K g H ρ b σ α β) (hf : H f = some (FnO f o)) (hc : H c = some (LamX.CodeO c (X.env.qual ++ "<lambda>")))
    (h : PE (actCx X Ng qg sg gf cdg s H pn xe) (.Call (.Name a p1) [] [] p2) (fun σZ HZ Q => σZ[0]? = some (some (.ref f)) ∧ HZ f = some (FnO f o) ∧ HZ c = some (LamX.CodeO c (X.env.qual ++ "<lambda>")) ∧ tR (Cx.z X) (lD X.K) (fun cls d _ H => WE W σZ cls d H) mb σ HZ Q)) :
    SEg (gF g ρ α β X.K H f) (actCx X Ng qg sg gf cdg s H pn xe) W (.Call (.Name a p1) [] [] p2) (actM mb ρ b) := PE.imp h fun σZ HZ Q ⟨ρ2, b2, α2, β2, r2, q⟩ => by
  unfold actM at q
  split at q
  · rename_i e0
    split at q
    · rename_i hh
      obtain ⟨hq, hk⟩ := hh
      have eb := same_box r r2 hk
      refine ⟨r2.fns 0 0 e0, (r2.evo f _ hf fun z => ?_).at fnO_tbl, (r2.evo c _ hc fun z => ?_).at LamX.codeO_ne, g, ρ, bxOf b b2, α, β, r.back r2 hk, ?_⟩
      · obtain ⟨xs, w⟩ := r.ownL f (.inr (.inl z))
        unfold FnO at hf
        rcases w with w | ⟨o, w⟩ <;> (rw [hf] at w; cases w)
      · obtain ⟨xs, w⟩ := r.ownL c (.inr (.inl z))
        unfold LamX.CodeO at hc
        rcases w with w | ⟨o, w⟩ <;> (rw [hc] at w; cases w)
      · cases em : mb ρ (bxOf b b2) with
        | ok d b3 =>
          rw [em] at q
          exact fun x H3 l k q3 => q x H3 (l.own fun y _ _ z => own_gF hq eb y z) (by rw [eb]; exact k) (box_gF r2 hk r.tt q3 eb)
        | ex e b3 =>
          rw [em] at q
          refine fun cls dd H3 ⟨C, h1, h2, h3⟩ k q3 => q cls dd H3 ⟨C, h1, h2, ?_⟩ (by rw [eb]; exact k) (box_gF r2 hk r.tt q3 eb)
          cases ea : e.arg with
          | none => rw [ea] at h3; exact h3
          | some d =>
            rw [ea] at h3
            obtain ⟨p, v, e1, e2, e3⟩ := h3
            exact ⟨p, v, e1, e2, e3.own fun y _ _ z => own_gF hq eb y z⟩
        | bad => rw [em] at q; exact q
    · exact q.elim
  · exact q.elim
/-! ### a lambda of the maker's, told -/
/-- one lambda of the def: its text, what its body does -/
structure LamI where
  params : Arguments
  body : Expr
  scope : Scope
  mb : ME D
/-- the function object at f is the lambda i of X -/
def LamAt (X : Cx) (i : LamI) (H : Hp) (f : Addr) : Prop := ∃ (c : Addr) (pm ct : Value), H f = some (FnO f (lamO X i.params i.body i.scope pm c ct)) ∧ H c = some (LamX.CodeO c (X.env.qual ++ "<lambda>"))
theorem LamAt.keep {X : Cx} {i : LamI} {H H' : Hp} {f : Addr} {O : Own} (h : LamAt X i H f) (hO : ∀ a, O a → ∃ xs, Rd H a (.lst xs)) (k : Keep O H H') : LamAt X i H' f := by
  obtain ⟨c, pm, ct, h1, h2⟩ := h
  have no : ∀ {a : Addr} {u : HO}, H a = some u → (∀ xs, u ≠ .lst xs) → (∀ o v, u ≠ .frz o v) → ¬ O a := fun {a u} e n1 n2 z => by
    obtain ⟨xs, w⟩ := hO a z
    rcases w with w | ⟨o, w⟩
    · rw [e] at w; exact n1 _ (Option.some.inj w)
    · rw [e] at w; exact n2 _ _ (Option.some.inj w)
  refine ⟨c, pm, ct, (k f _ h1 (no h1 (fun _ z => by unfold FnO at z; cases z) (fun _ _ z => by unfold FnO at z; cases z))).at fnO_tbl, (k c _ h2 (no h2 (fun _ z => by unfold LamX.CodeO at z; cases z) (fun _ _ z => by unfold LamX.CodeO at z; cases z))).at LamX.codeO_ne⟩
/-- what is known of the lambda's text and body -/
structure LamOk (X : Cx) (k : Nat) (i : LamI) : Prop where
  sc : LamX.LamS X.env.scope i.scope
  nb : ∀ (q : Str) (cl : List (Str × Addr)) (pm cv ctv : Value), bindArgs (PySem.W.kla_fn "<lambda>" q i.params i.body i.scope cl pm cv ctv) ⟨[], []⟩ = pure []
  nd : defaultsOf i.params X.env = ([], [])
  run : ∀ (A : Around) (outer : List Env) (s : Shared) (H : Hp) (E : XK) (f k' : Addr), Room k (A.deeper (LamX.lamEnv X i.scope s.heap.objs.size f k')) → SE (LamX.lamCx X A outer s H E i.scope f k') (fun cls d _ H => E cls d H) i.body i.mb
section
variable {X : Cx} {W : WX} {Ng : List Str} {x a : Str} {stg : Stmt} {gf : Addr} {fdg : FuncData} {n k : Nat} {kM : ME D → MS} {p pos : Pos} {pins : List (Addr × Obj)} {σ : L2.St} {H : Hp} {s : Shared} {g : Gh} {ρ : En} {b : Bx} {α : Nat → Addr} {β : Option Addr}
/-- the def at gf called with the lambda i of X, from wherever X's frames are the stack -/
theorem lam_run {i : LamI} {f : Addr} {Q : VK} (I : Inv X pins σ H s) (F : Fun X.K x x stg gf fdg) (hb : L2.Binds X.K fdg [a] []) (S : FnScope Ng [a] (defScope stg)) (hNg : Ng[0]? = some a) (hva : Vis (defScope stg) a) (gives : Gives X Ng x stg gf a kM) (room : Room (k + 2) X.A) (L : LamOk X k i) (hf : LamAt X i H f)
    (r : RE X.K g H ρ b σ α β) (q : match lamM Ng.length kM i.mb ρ b with
      | .ok d b' => ∀ v H2, RD X.K (OW g ρ α β) H2 d v → Keep (Bs β) H H2 → BxR g H2 b' β → Q v H2
      | _ => False) (hd : (a == ("__debug__" : Str)) = false) (hcd : (a == ("__classdict__" : Str)) = false) :
    codeAny (model X.prog X.w) X.A (.call (.ref gf) ⟨[.ref f], []⟩) (CR C8.CX0 X.stack X.prog X.w H s Q C8.E0) s := by
  have hN : 0 < Ng.length := (List.getElem?_eq_some_iff.mp hNg).1
  obtain ⟨oc, od, kV, doc, pm2, an, cdv, ct2, osl, efd, lk, hcg⟩ := F.ex
  obtain ⟨c, pm, ct, hf1, hf2⟩ := hf
  rw [efd] at lk
  refine LamX.run_ofS (N := Ng) (ps := [a]) (us := [.ref f]) (vs := [.ref f]) lk hcg S room I.env0 (by rw [← efd]; exact hb s [.ref f] I.kIn rfl) (.cons rfl .nil) rfl fun room2 => ?_
  have act : ∀ (W : WX) (pn : List (Addr × Obj)) (xe : Value → Shared → Prop) (p1 p2 : Pos), Takes (actCx X Ng x (defScope stg) gf cdv s H pn xe) W → SEg (gF g ρ α β X.K H f) (actCx X Ng x (defScope stg) gf cdv s H pn xe) W (.Call (.Name a p1) [] [] p2) (actM i.mb ρ b) :=
    fun W pn xe p1 p2 tk => by
      have base := pe_act3 (i := 0) (tb := fun E => tR (Cx.z X) (lD X.K) (fun cls d _ H => E cls d H) i.mb) (W := W) (p1 := p1) (p2 := p2) I L.sc (L.nb _ _ pm _ ct) tk room2 (fun A outer s H E r => L.run A outer s H E f c r) hNg hva hd hcd
      exact seg_act3 r hf1 hf2 base
  refine ⟨_, (gives _ cdv s H _ act).nox, _, _, _, _, r.startF hN, ?_⟩
  have fin : ∀ {d : PyData} {v : V} {H2 : Hp} {b2 : Bx}, okB b b2 = true → RetOk ⟨X.K, X.mg⟩ (gF g ρ α β X.K H f) H2 d v b2 → RD X.K (OW g ρ α β) H2 d v ∧ Keep (Bs β) H H2 ∧ BxR g H2 (bxOf b b2) β := fun {d v H2 b2} hk ⟨h1, h2, h3, h4⟩ => by
    have hT : LamX.Tabs g.T H2 := by
      rw [r.tt]
      exact h4
    refine ⟨h1.own fun y u hy z => ?_, h2, ?_⟩
    · by_cases hb : β = some y
      · exact .inr hb
      · exact .inl ⟨z, hb⟩
    · unfold bxOf
      cases b2 with
      | no =>
        refine ⟨?_, hT⟩
        cases b with
        | no => exact r.box.1
        | fo x y z => cases hk
        | ow x y z => cases hk
      | fo x y z =>
        obtain ⟨y', e1, e2⟩ := h3 x y z rfl
        have e1 : β = some y' := e1
        obtain ⟨t, ht, _⟩ := r.box.has e1
        exact r.box.put ht e1 e2 hT
      | ow x y z => cases b <;> cases hk
  unfold lamM at q
  cases ek : kM (actM i.mb ρ b) (Sl.fn 0 :: List.replicate (Ng.length - 1) Sl.no) (asFo b) with
  | rt d b2 =>
    rw [ek] at q
    simp only at q
    by_cases hk : okB b b2 = true
    · rw [if_pos hk] at q
      intro v H2 z
      obtain ⟨z1, z2, z3⟩ := fin hk z
      exact q v H2 z1 z2 z3
    · rw [if_neg hk] at q
      exact q.elim
  | nx ρ2 b2 =>
    rw [ek] at q
    simp only at q
    by_cases hk : okB b b2 = true
    · rw [if_pos hk] at q
      intro σ2 H2 α2 β2 r2
      obtain ⟨z1, z2, z3⟩ := fin hk (RE.ret (X := { X with }) r2 (d := .none) (v := .non) .non)
      exact q .non H2 z1 z2 z3
    · rw [if_neg hk] at q
      exact q.elim
  | bk _ _ => rw [ek] at q; exact q.elim
  | ct _ _ => rw [ek] at q; exact q.elim
  | ex _ _ _ => rw [ek] at q; exact q.elim
  | bad => rw [ek] at q; exact q.elim
end
end Fs

/-! M8: a comprehension whose test leans on the state of the def around; the list of works. -/
namespace Fs
open L2 PyProof.Rows PySem.Spec PySem
section
variable {X : Cx} {pins : List (Addr × Obj)} {σ : L2.St} {H : Hp} {s : Shared}
/-- the block's context at the state t -/
abbrev blkAt (X : Cx) (scope : Scope) (fq : List Addr) (t : Shared) (G : Hp) : Cx := X.blk t G scope (compEnvC scope (cellsFrom (t.heap.objs.size + 1) scope.names (cloFrom X.env.cells scope.names [])) t.heap.objs.size X.env) fq
/-- the def's state, seen from its block -/
theorem Inv.outOf {scope : Scope} {fq : List Addr} {t : Shared} {G : Hp} {ps : List (Addr × Obj)} {τ : L2.St} {G' : Hp} {t' : Shared} (I : Inv X pins σ G t) (hq : ∀ b ∈ fq, FpOk X pins G b) (J : Inv (blkAt X scope fq t G) ps τ G' t') : Inv X pins σ G' t' :=
  I.call' (ch := fq) J.os J.base J.hok J.bare fun b hb => ⟨(hq b hb).2.2.2.1, (hq b hb).2.1, (hq b hb).2.2.2.2.1, (hq b hb).2.2.2.2.2⟩
theorem forIn1 {M : Model} {A : Around} {E : Value → Shared → Prop} {c : Expr} {env : Env} {s : Shared} {Q : Bool → Shared → Prop} (h : wpAny M A (isTrue c env (eval c env)) Q E s) :
    wpAny M A (forIn [c] true fun c r => if r = true then do let ok ← isTrue c env (eval c env); pure (ForInStep.yield ok) else pure (ForInStep.yield r)) Q E s := by
  rw [List.forIn_cons]
  refine wpAny_bind ?_
  rw [if_pos rfl]
  refine wpAny_bind (thn h fun bb v z => wpAny_pure ?_)
  simp only [List.forIn_nil]
  exact wpAny_pure z
/-- [elt for tg in iter if c] -/
theorem pe_lcIn {elt tg iter c : Expr} {scope : Scope} {own : List (Str × Nat)} {pos : Pos} {wi : TI} {g : TG} {tt : L2.St → TT} {te : TE} (calm : X.calm = true) (nd : X.N.Nodup) (walks : PI X tg iter wi) (ok : BlkOk X.N X.env.scope scope own)
    (hg : ∀ fq t G, PG (blkAt X scope fq t G) tg g) (hc : ∀ (pins : List (Addr × Obj)) (σ : L2.St) (fq : List Addr) (t : Shared) (G : Hp) (ps : List (Addr × Obj)) (τ : L2.St) (G' : Hp) (t' : Shared) (Q : Bool → Hp → Prop), (∀ ps τ G' t', Inv (blkAt X scope fq t G) ps τ G' t' → Inv X pins σ G' t') → Inv (blkAt X scope fq t G) ps τ G' t' → tt σ τ G' Q →
      wpAny (model X.prog X.w) X.A (isTrue c (blkAt X scope fq t G).env (eval c (blkAt X scope fq t G).env)) (TP (blkAt X scope fq t G) ps τ Q) (fun _ _ => False) t')
    (he : ∀ fq t G, PE (blkAt X scope fq t G) elt te) (plain : ∀ x, foldedSetIterable iter X.env x = pure x) : PE X (.ListComp elt [⟨tg, iter, [c], 0⟩] scope pos) (fun σ H Q => tLc wi g (tt σ) te (own.map (·.2)) σ H Q) := by
  refine ⟨fun pins s σ H Q I reading => ?_⟩
  rw [eval_ListComp]
  have caps : ∀ y ∈ scope.names, y.2 = .free → ∃ a, X.env.cells.lookup y.1 = some a := fun y hy e => (ok.free y hy e).elim (fun k => I.ok.has _ (.inl k)) fun k => I.ok.has _ (.inr k)
  refine wpAny_comprehension_free (use := none) rfl plain (closure_ok caps) ok.kind (fun y hy e => by rw [ok.uniq y hy, e]) (thn (walks.run pins s σ H _ I reading) fun src sa made => thn made fun itv sb got => ?_)
  obtain ⟨it, fq, at_, Jt, Hb, rfl, Ib, Tn, stb, okb, turns⟩ := got
  -- the list that is made stands at L
  refine wpAny_newObj_type (newEnv_comp ?_) (Nat.zero_le sizeLine)
  have freeL : Hb sb.heap.objs.size = none := Ib.hok.fresh (Nat.le_refl _)
  obtain ⟨Wz, ⟨k0, start⟩, turn⟩ := turns _ freeL
  have below : ∀ b ∈ fq, b < sb.heap.objs.size := fun b hb => by
    obtain ⟨o, e, _⟩ := Tn.obj _ _ stb b hb
    exact Heap.lt_size e
  generalize eL : sb.heap.objs.size = L at freeL start turn below
  generalize et : ({ sb with heap := sb.heap.push { cls := .type "list", data := .seq ([] : List Value).toArray } } : Shared) = t
  generalize eG : upd Hb L (.lst []) = G at start
  have ht : t.heap = sb.heap.push { cls := .type "list", data := .seq ([] : List Value).toArray } := by rw [← et]
  have It : Inv X pins σ G t := by
    subst et eG eL
    exact Ib.laid (t' := sb.toks) (fun b o e => Heap.get?_push_of_some _ e) (Nat.le_refl _) ⟨Nat.zero_le _, [], 0, .nil, Heap.get?_push_size _ rfl⟩
  have okt : ∀ b ∈ fq, FpOk X pins G b ∧ b < t.heap.objs.size := fun b hb => by
    have lt := below b hb
    refine ⟨⟨by rw [← eG, upd_ne (Nat.ne_of_lt lt)]; exact (okb b hb).1, (okb b hb).2⟩, ?_⟩
    rw [ht, Heap.size_push, eL]
    exact Nat.lt_succ_of_lt lt
  have I0 := block_start It ok nd okt
  have Ok0 : ∀ {τ : L2.St} {G' : Hp} {t' : Shared}, Inv (blkAt X scope fq t G) [] τ G' t' → (∀ b ∈ fq, G' b = none) → ∀ b ∈ fq, FpOk (blkAt X scope fq t G) [] G' b := fun {τ G' t'} J n b hb =>
    ⟨n b hb, (J.ok.exf b hb).1, J.ok.exfs b hb, .inl hb, fun x a e => (J.ok.exf b hb).2 x a e, fun p hp => by simp at hp⟩
  have stt : at_ 0 t.heap := Tn.keep _ _ _ stb fun b _ o e => by rw [ht]; exact Heap.get?_push_of_some _ e
  show codeAny _ _ (.compStart (.ListComp elt [⟨tg, iter, [c], 0⟩] scope pos) 0 (.ref it) (.ref L) (blkAt X scope fq t G).env) (compPost (model X.prog X.w) X.A X.xe none _ (.ref L) t.heap.objs.size) { t with heap := pushCells (t.heap.push { cls := .type "dict", data := .dict #[] }) scope.names }
  generalize e0 : ({ t with heap := pushCells (t.heap.push { cls := .type "dict", data := .dict #[] }) scope.names } : Shared) = t0 at I0 ⊢
  have st0 : at_ 0 t0.heap := Tn.keep _ _ _ stt fun b _ o e => by rw [← e0]; exact pushCells_keeps _ _ _ _ (Heap.get?_push_of_some _ e)
  refine codeAny_compStart_list ?goes (Tn.self X.A 0 _ _ _ st0 ?goes)
  refine compLoop_any (fun n u => ∃ i G', Inv (blkAt X scope fq t G) [] (wipe σ (own.map (·.2))) G' u ∧ at_ i u.heap ∧ (∀ b ∈ fq, G' b = none) ∧ Wz i n G') ?_ k0 ⟨0, G, I0, st0, fun b hb => (okt b hb).1.1, start⟩
  rintro n u ⟨i, Gu, Iu, stu, nu, wu⟩
  rcases turn i n Gu wu with ⟨stop, fin⟩ | ⟨go, Nz, less, onward⟩
  · refine thnF (Tn.done (blkAt X scope fq t G) rfl rfl rfl calm i [] u _ Gu (fun _ _ => False) Iu (Ok0 Iu nu) stu stop) fun r v ⟨hr, Iv⟩ => ?_
    subst hr
    have Iv' := Inv.outOf It (fun b hb => (okt b hb).1) Iv
    obtain ⟨m, hn, _⟩ := Iv.loc
    refine ⟨m, hn, fun h'' same => ?_⟩
    have noC : Gu t.heap.objs.size = none := Iv.free
    obtain ⟨f0, f1, f2, f3, f4, f5⟩ := It.fpOk (H' := Gu) (Nat.le_refl _) noC
    exact ⟨.ref L, Gu, Iv'.turned (t' := v.toks) (fun b o hb e => (same.2 b hb).trans e) f0 f1 f3 f4 f5, rfl, fin⟩
  · refine thnF (Tn.item (blkAt X scope fq t G) rfl rfl rfl calm i [] u _ Gu (fun _ _ => False) Iu (Ok0 Iu nu) stu go) fun r v ⟨y, hr, took⟩ => ?_
    subst hr
    refine thnF took fun _ v2 ⟨x, G2, I2, rx, yl, st2, n2⟩ => ?_
    have I2' := I2.pinned (Ok0 I2 n2) (Tn.obj _ _ st2)
    refine thnF ((hg fq t G).run _ v2 _ G2 x y _ I2' rx (onward x G2 yl)) fun _ v3 ⟨τ, G3, I3, same, q3⟩ => ?_
    -- behind the turn
    have back : ∀ {v' : Shared} {G' : Hp}, Inv (blkAt X scope fq t G) ([] ++ pinsAt fq v2.heap) τ G' v' → Nz G' → ∃ m, m < n ∧ ∃ i G', Inv (blkAt X scope fq t G) [] (wipe σ (own.map (·.2))) G' v' ∧ at_ i v'.heap ∧ (∀ b ∈ fq, G' b = none) ∧ Wz i m G' := fun {v' G'} I' nz => by
      obtain ⟨m', lt, w'⟩ := less G' nz
      have kept : ∀ b ∈ fq, ∀ o, v2.heap.get? b = some o → v'.heap.get? b = some o ∧ G' b = none := fun b hb o e => by
        have z := I'.pin (b, o) (List.mem_append_right _ (List.mem_append_right _ (mem_pinsAt hb e)))
        exact ⟨z.1, z.2.1⟩
      refine ⟨m', lt, i + 1, G', (I'.unpinned (pins := [])).weak (by rw [← same, wipe_length]) (fun j z e => ?_), Tn.keep _ _ _ st2 fun b hb o e => (kept b hb o e).1, fun b hb => ?_, w'⟩
      · rw [← same] at e
        exact (wipe_some e).1
      · obtain ⟨o, e, _⟩ := Tn.obj _ _ st2 b hb
        exact (kept b hb o e).2
    refine thnF (forIn1 (hc pins σ fq t G _ τ G3 v3 _ (fun _ _ _ _ J => Inv.outOf It (fun b hb => (okt b hb).1) J) I3 q3)) fun bb v4 ⟨G4, I4, q4⟩ => ?_
    cases bb with
    | false => exact back I4 q4
    | true => exact thnF ((he fq t G).run _ v4 τ G4 _ I4 q4) fun z v5 ⟨yw, G5, I5, rz, acc, atL, room, nz⟩ => app_ok (X := blkAt X scope fq t G) I5 atL room rz fun v6 I6 => back I6 nz
end
end Fs

/-! M9: a list of works: pairs of a lambda and what it is to answer. -/
namespace Fs
open L2 PyProof.Rows PySem.Spec PySem
variable [LT]
/-! ### the list goes out of sight -/
theorem RE.dropD {K : PySem.W.Frag} {g : Gh} {H : Hp} {ρ : En} {b : Bx} {σ : L2.St} {α : Nat → Addr} {β : Option Addr} {L : Addr} {ws : List V} (r : RE K (gD g L ws) H ρ b σ α β) (g0 : g.H0 L = none) (nof : ¬ g.Of L) (lk : ∀ i xs, ρ[i]? = some (.lk xs) → g.la i ≠ L) : RE K g H ρ b σ α β := by
  have mono : ∀ a (u : HO), H a = some u → OW g ρ α β a → OW (gD g L ws) ρ α β a := fun a u _ z => by
    rcases z with z | z
    · exact .inl (.inl z)
    · exact .inr z
  have up : ∀ a, a ≠ L → (gD g L ws).H0 a = g.H0 a := fun a h => by
    show upd g.H0 L (.lst ws) a = _
    rw [upd_ne h]
  refine ⟨r.len, fun a u e n => ?_, fun a h => ?_, fun a h => ?_, fun i d e => ?_, fun i xs e => ?_, r.inj, fun i xs e => ?_, r.bxs, r.boxD, r.tt, r.fns⟩
  · have ha : a ≠ L := fun z => by rw [z, g0] at e; cases e
    exact r.evo a u ((up a ha).trans e) n
  · have ha : a ≠ L := fun z => nof (z ▸ h)
    obtain ⟨xs, e⟩ := r.oft a (.inl h)
    refine ⟨xs, ?_⟩
    rcases e with e | ⟨o, e⟩
    · exact .inl ((up a ha).symm.trans e)
    · exact .inr ⟨o, (up a ha).symm.trans e⟩
  · obtain ⟨n, xs, e⟩ := r.ofo a h
    have ha : a ≠ L := fun z => n (.inr z)
    exact ⟨fun z => n (.inl z), xs, (up a ha).symm.trans e⟩
  · obtain ⟨v, e1, e2⟩ := r.val i d e
    exact ⟨v, e1, e2.own mono⟩
  · obtain ⟨vs, e1, e2, e3, e4, e5⟩ := r.own i xs e
    have ha : α i ≠ L := fun z => by
      rw [z] at e4
      have e4 : upd g.H0 L (.lst ws) L = none := e4
      rw [upd_same] at e4; cases e4
    exact ⟨vs, e1, e2, e3.own mono, (up _ ha).symm.trans e4, e5⟩
  · obtain ⟨vs, e1, e2, e3, e4⟩ := r.lck i xs e
    have ha : g.la i ≠ L := lk i xs e
    refine ⟨vs, e1, ?_, ?_, e4.own mono⟩
    · rcases e2 with e2 | e2
      · exact e2
      · exact absurd e2 ha
    · rcases e3 with e3 | ⟨o, e3⟩
      · exact .inl ((up _ ha).symm.trans e3)
      · exact .inr ⟨o, (up _ ha).symm.trans e3⟩
/-! ### a lambda is made -/
section
variable {X : Cx} {W : WX}
/-- a lambda of X, tracked -/
def tLam (X : Cx) (i : LamI) : TE := fun σ H Q => LamX.Tabs (LT.tabs X.K) H ∧ ∀ f H1, Keep nobody H H1 → LamX.Tabs (LT.tabs X.K) H1 → LamAt X i H1 f → Q (.ref f) H1
/-- a lambda's text, and what is known of it -/
structure PLam (X : Cx) (k : Nat) (e : Expr) (i : LamI) : Prop where
  pe : PE X e (tLam X i)
  ok : LamOk X k i
theorem pe_lamT {params : Arguments} {body : Expr} {scope : Scope} {mb : ME D} {k : Nat} {c P : Addr} {pos : Pos} (tb : LamX.TabB X.base X.mg c P) (hcode : X.env.code = .ref c) (inT : (P, X.env.qual ++ "<lambda>") ∈ LT.tabs X.K)
    (one : ∀ p ∈ LT.tabs X.K, p.1 = P → p.2 = X.env.qual ++ "<lambda>") (L : LamOk X k ⟨params, body, scope, mb⟩) : PLam X k (.Lambda params body scope pos) ⟨params, body, scope, mb⟩ :=
  ⟨⟨fun pins s σ H Q I ⟨hT, q⟩ => lam_make4 (params := params) (body := body) (scope := scope) I tb hcode inT one hT L.nd (L.sc.has I.ok) fun f kc pm ct H1 s1 I1 kp T1 hf _ hco => ⟨.ref f, H1, I1, rfl, q f H1 kp T1 ⟨kc, pm, ct, hf, hco⟩⟩⟩, L⟩
end
/-! ### the list of works -/
inductive WkL (X : Cx) (O : Own) (H : Hp) : List LamI → List D → List Addr → Prop
  | nil : WkL X O H [] [] []
  | cons {i : LamI} {is : List LamI} {d : D} {ds : List D} {T : Addr} {Ts : List Addr} {f : Addr} {v : V} : LamAt X i H f → H T = some (.tup [.ref f, v]) → RD X.K O H d v → WkL X O H is ds Ts → WkL X O H (i :: is) (d :: ds) (T :: Ts)
section
variable {X : Cx} {O : Own} {H H' : Hp} {is : List LamI} {ds : List D} {Ts : List Addr}
theorem tup_keep {B : Own} {T : Addr} {xs : List V} (e : H T = some (.tup xs)) (hB : ∀ a, B a → ∃ xs, Rd H a (.lst xs)) (k : Keep B H H') : H' T = some (.tup xs) := (k T _ e fun z => by
    obtain ⟨ys, w⟩ := hB T z
    rcases w with w | ⟨o, w⟩ <;> (rw [e] at w; cases w)).at fun _ z => by cases z
theorem WkL.keep (h : WkL X O H is ds Ts) {B : Own} (hB : ∀ a, B a → ∃ xs, Rd H a (.lst xs)) (s : ∀ a, B a → O a) (k : Keep B H H') : WkL X O H' is ds Ts := by
  induction h with
  | nil => exact .nil
  | cons h1 h2 h3 h4 ih => exact .cons (h1.keep hB k) (tup_keep h2 hB k) (RD.keep (k.mono s) _ _ h3) ih
theorem WkL.own {O' : Own} (h : WkL X O H is ds Ts) (s : ∀ a u, H a = some u → O' a → O a) : WkL X O' H is ds Ts := by
  induction h with
  | nil => exact .nil
  | cons h1 h2 h3 h4 ih => exact .cons h1 h2 (h3.own s) ih
theorem WkL.snoc {i : LamI} {d : D} {T f : Addr} {v : V} (h : WkL X O H is ds Ts) (h1 : LamAt X i H f) (h2 : H T = some (.tup [.ref f, v])) (h3 : RD X.K O H d v) : WkL X O H (is ++ [i]) (ds ++ [d]) (Ts ++ [T]) := by
  induction h with
  | nil => exact .cons h1 h2 h3 .nil
  | cons a1 a2 a3 a4 ih => exact .cons a1 a2 a3 ih
theorem WkL.len (h : WkL X O H is ds Ts) : Ts.length = is.length := by
  induction h with
  | nil => rfl
  | cons _ _ _ _ ih => simp [ih]
/-- the works from the k-th on -/
theorem WkL.from (h : WkL X O H is ds Ts) (k : Nat) : WkL X O H (is.drop k) (ds.drop k) (Ts.drop k) := by
  induction h generalizing k with
  | nil => simp only [List.drop_nil]; exact .nil
  | cons a1 a2 a3 a4 ih =>
    cases k with
    | zero => exact .cons a1 a2 a3 a4
    | succ k => exact ih k
end
/-- all works answer as told: the box behind them -/
def checkL (n : Nat) (kM : ME D → MS) : List LamI → List D → En → Bx → Option Bx
  | [], [], _, b => some b
  | i :: is, d :: ds, ρ, b => match lamM n kM i.mb ρ b with
    | .ok r b' => match neD r d with
      | some (.bool false) => checkL n kM is ds ρ b'
      | _ => none
    | _ => none
  | _, _, _, _ => none
/-- .., by the bodies alone -/
def checkB (n : Nat) (kM : ME D → MS) : List (ME D) → List D → En → Bx → Option Bx
  | [], [], _, b => some b
  | mb :: is, d :: ds, ρ, b => match lamM n kM mb ρ b with
    | .ok r b' => match neD r d with
      | some (.bool false) => checkB n kM is ds ρ b'
      | _ => none
    | _ => none
  | _, _, _, _ => none
theorem check_eq {n : Nat} {kM : ME D → MS} {ρ : En} : ∀ {is : List LamI} {ds : List D} {b : Bx}, checkB n kM (is.map (·.mb)) ds ρ b = checkL n kM is ds ρ b
  | [], [], _ => rfl
  | [], _ :: _, _ => rfl
  | _ :: _, [], _ => rfl
  | i :: is, d :: ds, b => by
    simp only [List.map_cons]
    unfold checkB checkL
    split
    · split
      · exact check_eq
      · rfl
    · rfl
/-- the frame with its list of works at L, under slot iw -/
structure Wk (X : Cx) (k : Nat) (g : Gh) (iw : Nat) (is : List LamI) (ds : List D) (ρ : En) (b : Bx) (σ : L2.St) (α : Nat → Addr) (β : Option Addr) (L : Addr) (Ts : List Addr) (H : Hp) : Prop where
  re : RE X.K (gD g L (Ts.map .ref)) H ρ b σ α β
  g0 : g.H0 L = none
  nof : ¬ g.Of L
  lk : ∀ i xs, ρ[i]? = some (.lk xs) → g.la i ≠ L
  at_ : σ[iw]? = some (some (.ref L))
  ws : WkL X (OW (gD g L (Ts.map .ref)) ρ α β) H is ds Ts
  ok : ∀ i ∈ is, LamOk X k i
def tWk (X : Cx) (W : WX) (k iw : Nat) (is : List LamI) (m : List D → MS) : TS := fun D σ H => ∃ g ρ b α β L Ts ds, Wk X k g iw is ds ρ b σ α β L Ts H ∧ PostS (Cx.z X) W g D (m ds ρ b)
def SBw (X : Cx) (W : WX) (k iw : Nat) (is : List LamI) (sts : List Stmt) (m : List D → MS) : Prop := PSs X sts (tWk X W k iw is m)
def wkM (mt : ME D) (m : D → MS) : MS := fun ρ b => match mt ρ b with
  | .ok d b' => m d ρ b'
  | _ => .bad
def wkStartM (iw : Nat) (mt : ME D) (m : List D → MS) : MS := wkM mt fun d ρ b => if iw < ρ.length then m [d] (ρ.set iw .no) b else .bad
def wkAppM (mt : ME D) (m : List D → MS) : List D → MS := fun ds => wkM mt fun d => m (ds ++ [d])
section
variable {X : Cx} {W : WX} {k iw : Nat} {is : List LamI} {m : List D → MS} {rest : List Stmt} {x : Str} {pos p1 p2 p3 p4 p5 : Pos} {g : Gh} {ρ : En} {b b' : Bx} {σ : L2.St} {α : Nat → Addr} {β : Option Addr} {L : Addr} {Ts : List Addr} {ds : List D} {H H' : Hp}
theorem Wk.bsL (w : Wk X k g iw is ds ρ b σ α β L Ts H) : ∀ a, Bs β a → ∃ xs, Rd H a (.lst xs) := fun a z => w.re.ownL a (.inr (.inl z))
theorem Wk.list (w : Wk X k g iw is ds ρ b σ α β L Ts H) : H L = some (.lst (Ts.map .ref)) := w.re.evo L _ upd_same fun z => w.re.ofB (show (gD g L (Ts.map .ref)).Of L from .inr rfl) (w.re.foB' z)
theorem Wk.step (w : Wk X k g iw is ds ρ b σ α β L Ts H) (kk : Keep (Bs β) H H') (q : BxR (gD g L (Ts.map .ref)) H' b' β) : Wk X k g iw is ds ρ b' σ α β L Ts H' :=
  ⟨w.re.step kk q, w.g0, w.nof, w.lk, w.at_, w.ws.keep w.bsL (fun _ z => .inr (.inl z)) kk, w.ok⟩
theorem Wk.app {d : D} {i : LamI} {f T : Addr} {v : V} (hi : LamOk X k i) (w : Wk X k g iw is ds ρ b σ α β L Ts H) (h1 : LamAt X i H f) (h2 : H T = some (.tup [.ref f, v])) (h3 : RD X.K (OW (gD g L (Ts.map .ref)) ρ α β) H d v) :
    Wk X k g iw (is ++ [i]) (ds ++ [d]) ρ b σ α β L (Ts ++ [T]) (upd H L (.lst ((Ts ++ [T]).map .ref))) := by
  have kL : Keep (OW (gD g L (Ts.map .ref)) ρ α β) H (upd H L (.lst ((Ts ++ [T]).map .ref))) := fun a u e n => by
    rw [upd_ne fun z => n (.inl (.inr z)), e]; exact .self
  refine ⟨w.re.chD w.lk, w.g0, w.nof, w.lk, w.at_, ?_, fun j hj => by
    rcases List.mem_append.mp hj with z | z
    · exact w.ok j z
    · rw [List.mem_singleton.mp z]; exact hi⟩
  exact (w.ws.snoc h1 h2 h3).keep w.re.ownL (fun _ z => z) kL
theorem Wk.drop (w : Wk X k g iw is ds ρ b σ α β L Ts H) : RE X.K g H ρ b σ α β := w.re.dropD w.g0 w.nof w.lk
/-- (lambda, told), in a frame that stands -/
theorem pair_read {i : LamI} {mt : ME D} {kf : D → MS} {D : Ends} {Q : VK} (r : RE X.K g H ρ b σ α β) {g' : Gh} (p : PostS (Cx.z X) W g' D (wkM mt kf ρ b))
    (q : ∀ d b1 f T v H1, RE X.K g H1 ρ b1 σ α β → Keep (Bs β) H H1 → LamAt X i H1 f → H1 T = some (.tup [.ref f, v]) → RD X.K (OW g ρ α β) H1 d v → PostS (Cx.z X) W g' D (kf d ρ b1) → Q (.ref T) H1) :
    tTup (tCons (tLam X i) (tCons (tR (Cx.z X) (lD X.K) W mt) tNil)) σ H Q := by
  refine ⟨by rw [← r.tt]; exact r.box.2, fun f H1 k1 T1 hf => ?_⟩
  have r1 : RE X.K g H1 ρ b σ α β := r.step k1.of0 (r.box.keepT k1 (by rw [r.tt]; exact T1))
  refine ⟨g, ρ, b, α, β, r1, ?_⟩
  unfold wkM at p
  cases e : mt ρ b with
  | ok d b1 =>
    rw [e] at p
    refine fun v H2 l k2 q2 => ⟨by rw [sizeLine_eq]; show 2 ≤ 16777216; decide, fun T hT => ?_⟩
    have r2 := r1.step k2 q2
    have bs : ∀ {G : Hp} {b : Bx}, RE X.K g G ρ b σ α β → ∀ a, Bs β a → ∃ xs, Rd G a (.lst xs) := fun r a z => r.ownL a (.inr (.inl z))
    have kT := KeepS.upd (o := .tup [.ref f, v]) hT
    exact q d b1 f T v _ (r2.step kT.of0 (r2.box.keep0 kT)) (k1.of0.trans (k2.trans kT.of0)) ((hf.keep (bs r1) k2).keep (O := Bs β) (bs r2) kT.of0) upd_same (RD.keep kT.of0 _ _ l) p
  | ex x b1 => rw [e] at p; exact p.elim
  | bad => rw [e] at p; exact p.elim
theorem tCons_eq {ta : TE} {tr : TA} {σ : L2.St} {H : Hp} {Q : List V → Hp → Prop} : tCons ta tr σ H Q = ta σ H fun x H1 => tr σ H1 fun xs H2 => Q (x :: xs) H2 := rfl
theorem wk_start {i : LamI} {mt : ME D} {le te : Expr} {k1 : Nat} (hN : X.N.Nodup) (hi : X.N[iw]? = some x) (hx : Loc X.env.scope x) (hl : PLam X k le i) (ht : SE X W te mt) (hr : SBw X W k iw [i] rest m)
    (s1 : starEach [.Tuple [le, te] k1 p3] X.env = (false, eval (.Tuple [le, te] k1 p3) X.env) :: starEach [] X.env := by rfl)
    (s2 : starEach [le, te] X.env = (false, eval le X.env) :: starEach [te] X.env := by rfl) (s3 : starEach [te] X.env = (false, eval te X.env) :: starEach [] X.env := by rfl)
    (hs : swapsWith (.List [.Tuple [le, te] k1 p3] p2) (some (.Name x p1)) pos.line X.env = pure false := by rfl)
    (hf : X.fn x = true ∨ X.env.scope.names.lookup x = some .local := by first | exact .inl rfl | exact .inr rfl | assumption) :
    SB X W (.Assign [.Name x p1] (.List [.Tuple [le, te] k1 p3] p2) pos :: rest) (wkStartM iw mt m) :=
  PSs.imp (pss_cons (ps_set hN hi hx (pe_lst (pa_cons (pe_tup (pa_cons hl.pe (pa_cons ht pa_nil s3) s2)) pa_nil s1)) hs hf) hr) fun D σ H ⟨g, ρ, b, α, β, r, p⟩ => by
    delta tSeq tAsg tLst
    rw [tCons_eq]
    refine pair_read r p fun d b1 f T v H1 r1 k1 h1 h2 h3 p1 => ⟨by rw [sizeLine_eq]; show 1 ≤ 16777216; decide, fun L hL => ?_⟩
    split at p1
    case isFalse => exact p1.elim
    rename_i hz
    have g0 : g.H0 L = none := by
      cases e : g.H0 L with
      | none => rfl
      | some u =>
        by_cases hf : g.fo = some L
        · obtain ⟨xs, e⟩ := r1.ownL L (.inr (.inl (r1.foB' hf)))
          obtain ⟨o, e⟩ := rd_some e
          rw [hL] at e; cases e
        · obtain ⟨v, z⟩ := (r1.evo L u e hf).some
          rw [hL] at z; cases z
    have nof : ¬ g.Of L := fun z => by
      obtain ⟨xs, e⟩ := r1.oft L z
      obtain ⟨o, e⟩ := rd_some e
      rw [g0] at e; cases e
    have r2 : RE X.K (gD g L [V.ref T]) (upd (upd H1 L (.lst [])) L (.lst [V.ref T])) ρ b1 σ α β := (r1.addD hL).chD (r1.lkL hL)
    rw [upd_upd] at r2
    have hlz : iw < σ.length := by rw [← r1.len]; exact hz
    have kL : Keep (Bs β) H1 (upd H1 L (.lst [V.ref T])) := (KeepS.upd hL).of0
    have bs : ∀ a, Bs β a → ∃ xs, Rd H1 a (.lst xs) := fun a z => r1.ownL a (.inr (.inl z))
    refine ⟨g, ρ.set iw .no, b1, α, β, L, [T], [d], ⟨r2.set hlz (fun _ z => by cases z) (fun _ z => by cases z) (fun _ z => by cases z) (fun z => by cases z), g0, nof, fun j xs e => ?_, by simp [hlz], ?_, fun j hj => by rw [List.mem_singleton.mp hj]; exact hl.ok⟩, p1⟩
    · by_cases hij : iw = j
      · subst hij
        rw [set_at hz] at e; cases e
      · rw [set_ne hij] at e
        exact r1.lkL hL j xs e
    · refine .cons (h1.keep bs kL) (tup_keep h2 bs kL) ?_ .nil
      refine RD.keep (O := OW (gD g L [V.ref T]) (ρ.set iw .no) α β) (KeepS.upd hL).of0 _ _ (h3.own fun a u eu z => ?_)
      rcases z with (z | z) | z | ⟨j, xs, e, z⟩
      · exact .inl z
      · rw [z, hL] at eu; cases eu
      · exact .inr (.inl z)
      · by_cases hij : iw = j
        · subst hij
          rw [set_at hz] at e; cases e
        · rw [set_ne hij] at e
          exact .inr (.inr ⟨j, xs, e, z⟩)
theorem wk_app {i : LamI} {mt : ME D} {le te : Expr} {k1 : Nat} (hi : X.N[iw]? = some x) (hv : Vis X.env.scope x) (hl : PLam X k le i) (ht : SE X W te mt) (hr : SBw X W k iw (is ++ [i]) rest m) {n0 : Nat} (hlen : is.length = n0 := by rfl) (hn0 : n0 < 1000 := by decide)
    (hd : (x == ("__debug__" : Str)) = false := by decide) (hcd : (x == ("__classdict__" : Str)) = false := by decide)
    (hst : starEach [.Tuple [le, te] k1 p3] X.env = [(false, eval (.Tuple [le, te] k1 p3) X.env)] := by rfl)
    (s2 : starEach [le, te] X.env = (false, eval le X.env) :: starEach [te] X.env := by rfl) (s3 : starEach [te] X.env = (false, eval te X.env) :: starEach [] X.env := by rfl)
    (hbase : attributeBase (.Name x p1) "append" X.env (eval (.Name x p1) X.env) = eval (.Name x p1) X.env := by rfl)
    (hfew : ((backTo p4 (starEach [.Tuple [le, te] k1 p3] X.env)).all (fun x => !x.1) && (backToKw p4 (keywordEach [] X.env)).all (fun x => x.1.isSome)
      && decide (([.Tuple [le, te] k1 p3] : List Expr).length + ([] : List Keyword).length + (if ([] : List Keyword).isEmpty then 0 else 1) < 30)) = true := by rfl)
    (hline : (p2.endLine == p4.line) = true := by rfl) (hs : swapsWith (.Call (.Attribute (.Name x p1) "append" p2) [.Tuple [le, te] k1 p3] [] p4) none pos.line X.env = pure false := by rfl) :
    SBw X W k iw is (.Expr (.Call (.Attribute (.Name x p1) "append" p2) [.Tuple [le, te] k1 p3] [] p4) pos :: rest) (wkAppM mt m) :=
  PSs.imp (pss_cons (ps_expr (pe_bm (X := X) PySem.F.plainAttrs_list PySem.F.slot_list_append PySem.F.type_list_append mt_append (pe_var hi hv hd hcd) (pa_cons (pe_tup (pa_cons hl.pe (pa_cons ht pa_nil s3) s2)) pa_nil hst) hbase hfew hline hst rfl) hs) hr)
    fun D σ H ⟨g, ρ, b, α, β, L, Ts, ds, w, p⟩ => by
      refine ⟨_, w.at_, .inl ⟨rfl, _, .inl (.inl w.list)⟩, ?_⟩
      rw [tCons_eq]
      refine pair_read w.re p fun d b1 f T v H1 r1 k1 h1 h2 h3 p1 => ?_
      have w1 := w.step k1 r1.box
      refine ⟨L, _, _, rfl, rfl, w1.list, by rw [List.length_map, w.ws.len, hlen]; exact Nat.lt_of_lt_of_le hn0 (by rw [sizeLine_eq]; decide), ?_⟩
      have w2 := w1.app hl.ok h1 h2 h3
      rw [List.map_append] at w2
      exact ⟨g, ρ, b1, α, β, L, Ts ++ [T], ds ++ [d], by simpa using w2, p1⟩
end
end Fs

/-! M10: the list of works asked. -/
namespace Fs
open L2 PyProof.Rows PySem.Spec PySem
variable [LT]
section
variable {X : Cx}
def tWt (X : Cx) (k n : Nat) (kM : ME D → MS) (j1 j2 : Nat) (σ : L2.St) : TT := fun τ H Q => ∃ g ρ b α β i d f v r b', RE X.K g H ρ b σ α β ∧ LamOk X k i ∧ LamAt X i H f ∧ RD X.K (OW g ρ α β) H d v ∧ τ[j1]? = some (some (.ref f)) ∧ τ[j2]? = some (some v) ∧
  lamM n kM i.mb ρ b = .ok r b' ∧ neD r d = some (.bool false) ∧ ∀ H2, Keep (Bs β) H H2 → BxR g H2 b' β → Q false H2
variable {Ng : List Str} {x a w tl : Str} {stg : Stmt} {gf : Addr} {fdg : FuncData} {n k j1 j2 : Nat} {kM : ME D → MS} {scope : Scope} {fq : List Addr} {t t' : Shared} {G G' : Hp} {pins ps : List (Addr × Obj)} {σ τ : L2.St} {Q : Bool → Hp → Prop} {p1 p2 p3 p4 p5 : Pos}
theorem wk_test (hm : X.mg x = some (.ref gf)) (F : Fun X.K x x stg gf fdg) (hb : L2.Binds X.K fdg [a] []) (S : FnScope Ng [a] (defScope stg)) (hn : n = Ng.length) (hNg : Ng[0]? = some a) (hva : Vis (defScope stg) a) (gives : Gives X Ng x stg gf a kM) (room : Room (k + 2) X.A)     (hu : X.A.units + 64 < cLine) (hg : InBlk X scope fun Y => Gl Y x) (h1 : X.N[j1]? = some w) (v1 : InBlk X scope fun Y => Vis Y.env.scope w) (h2 : X.N[j2]? = some tl) (v2 : InBlk X scope fun Y => Vis Y.env.scope tl)
    (hd : (a == ("__debug__" : Str)) = false) (hcd : (a == ("__classdict__" : Str)) = false) (hdb : (x == ("__debug__" : Str)) = false) (hd1 : (w == ("__debug__" : Str)) = false) (hcd1 : (w == ("__classdict__" : Str)) = false) (hd2 : (tl == ("__debug__" : Str)) = false) (hcd2 : (tl == ("__classdict__" : Str)) = false)
    (out : ∀ ps τ G' t', Inv (blkAt X scope fq t G) ps τ G' t' → Inv X pins σ G' t') (J : Inv (blkAt X scope fq t G) ps τ G' t') (q : tWt X k n kM j1 j2 σ τ G' Q) :
    wpAny (model X.prog X.w) X.A (isTrue (.Compare (.Call (.Name x p1) [.Name w p2] [] p3) [.NotEq] [.Name tl p4] p5) (blkAt X scope fq t G).env (eval (.Compare (.Call (.Name x p1) [.Name w p2] [] p3) [.NotEq] [.Name tl p4] p5) (blkAt X scope fq t G).env)) (TP (blkAt X scope fq t G) ps τ Q) (fun _ _ => False) t' := by
  subst hn
  obtain ⟨g, ρ, b, α, β, i, d, f, v, r, b', re, hi, hf, hv, e1, e2, ea, en, fin⟩ := q
  -- the call
  have call : wpAny (model X.prog X.w) X.A (eval (.Call (.Name x p1) [.Name w p2] [] p3) (blkAt X scope fq t G).env) (EP (blkAt X scope fq t G) ps τ fun u H2 => RD X.K (OW g ρ α β) H2 r u ∧ Keep (Bs β) G' H2 ∧ BxR g H2 b' β) (fun _ _ => False) t' := by
    refine wpAny_Call_Name_kw (ld_glob J (hg _ _ _ _ _) hm ?_ hdb)
    refine PySem.W.callWith_K (h₀ := X.base) J.ok.mod.kin F.kp ?_ (by rfl) (by rfl)
    show wpAny _ _ (spliced ((false, eval (.Name w p2) (blkAt X scope fq t G).env) :: backTo p3 (starEach [] (blkAt X scope fq t G).env))) _ _ t'
    refine Calls.spliced_cons (thn ((pe_var (X := blkAt X scope fq t G) (pos := p2) (i := j1) h1 (v1 _ _ _ _ _) hd1 hcd1).run ps t' τ G' (fun u H1 => u = .ref f ∧ H1 = G') J ⟨.ref f, e1, rfl, rfl⟩) fun u s1 ⟨v', H1, J1, rv, ev, eH⟩ => ?_)
    subst ev eH
    cases rv
    refine Calls.spliced_nil ⟨J1.kIn, wpAny_call (codeAny_mono (lam_run (Q := fun u H2 => RD X.K (OW g ρ α β) H2 r u ∧ Keep (Bs β) H1 H2 ∧ BxR g H2 b' β) (out _ _ _ _ J1) F hb S hNg hva gives room hi hf re ?_ hd hcd) fun z s2 hq => ?_)⟩
    · rw [ea]
      exact fun v H2 z1 z2 z3 => ⟨z1, z2, z3⟩
    · cases z with
      | error e => exact (show False from hq).elim
      | ok fl =>
        cases fl with
        | ret u => exact J1.after hq
        | next => exact hq.elim
        | brk => exact hq.elim
        | cont => exact hq.elim
  refine wpAny_isTrue_Compare1 (thn call fun u s1 ⟨y, H1, J1, ry, z1, z2, z3⟩ => ?_) (nomark _)
  refine thn ((pe_var (X := blkAt X scope fq t G) (pos := p4) (i := j2) h2 (v2 _ _ _ _ _) hd2 hcd2).run ps s1 τ H1 (fun u H2 => u = v ∧ H2 = H1) J1 ⟨v, e2, rfl, rfl⟩) fun u2 s2 ⟨y2, H2, J2, ry2, ev, eH⟩ => ?_
  subst ev eH
  have re1 := re.step z2 z3
  refine thn (o_ne (X := blkAt X scope fq t G) hu ps s2 τ H2 y y2 u u2 (fun c H3 => c = .bl false ∧ KeepS H2 H3) J2 ry ry2 ⟨_, _, r, d, .bool false, re1.gd, .inl z1, .inl (RD.keep (z2.mono fun _ z => .inr (.inl z)) _ _ hv), en, fun c H3 rc k => ⟨by cases rc; rfl, k⟩⟩) fun c s3 ⟨z, H3, J3, r3, ez, k3⟩ => ?_
  subst ez
  cases r3
  exact wpAny_truthy_bool ⟨H3, J3, fin H3 (z2.trans k3.of0) (z3.keep0 k3)⟩
end
section
variable {X : Cx} {W : WX}
/-- the asked list of works: the box behind, and a new list with nothing in it -/
def tWkE (X : Cx) (k iw n : Nat) (kM : ME D → MS) (is : List LamI) : TE := fun σ H Q => ∃ g ρ b α β L Ts ds b', Wk X k g iw is ds ρ b σ α β L Ts H ∧ checkL n kM is ds ρ b = some b' ∧ ∀ a H', H a = none → H' a = some (.lst []) → Keep (Bs β) H H' → BxR (gD g L (Ts.map .ref)) H' b' β → Q (.ref a) H'
theorem sm_set2 {σ : L2.St} {j1 j2 : Nat} {u v : Option V} : Sm [j1, j2] σ ((σ.set j1 u).set j2 v) := (Sm.set σ j1 u).cat (Sm.set _ j2 v)
theorem wk_read {k iw n j1 j2 : Nat} {kM : ME D → MS} {is : List LamI} {te : TE} {vs : List Nat} {σ : L2.St} {H : Hp} {Q : VK} (hs : ∀ i ∈ [j1, j2], i ∈ vs) (hj : j1 ≠ j2) (hN1 : j1 < X.N.length) (hN2 : j2 < X.N.length) (hl : σ.length = X.N.length) (h : tWkE X k iw n kM is σ H Q) :
    tLc (iList X.K (tVar iw)) (gTup X.K 2 (gCons (gName j1) (gCons (gName j2) gNil))) (tWt X k n kM j1 j2 σ) te vs σ H Q := by
  obtain ⟨g, ρ, b, α, β, L, Ts, ds, b', w, ec, fin⟩ := h
  refine ⟨_, w.at_, L, rfl, ⟨_, .inl (.inl w.list)⟩, fun C hC => ?_⟩
  have w0 := w.step (H' := upd H C (.lst [])) (KeepS.upd hC).of0 (w.re.box.keep0 (KeepS.upd hC))
  refine ⟨fun kk m H' => m = is.length - kk ∧ kk ≤ is.length ∧ ∃ b, Wk X k g iw is ds ρ b σ α β L Ts H' ∧ Keep (Bs β) (upd H C (.lst [])) H' ∧ checkL n kM (is.drop kk) (ds.drop kk) ρ b = some b', ⟨is.length, rfl, Nat.zero_le _, b, w0, Keep.refl _ _, ec⟩, ?_⟩
  rintro kk m H' ⟨rfl, hk, b1, w1, k1, ec1⟩
  have hlen := w1.ws.len
  by_cases hlt : kk < is.length
  · refine .inr ⟨⟨_, .ref (Ts[kk]'(by omega)), .inl (.inl w1.list), by simp [show kk < Ts.length by omega]⟩, fun H' => ∃ b, Wk X k g iw is ds ρ b σ α β L Ts H' ∧ Keep (Bs β) (upd H C (.lst [])) H' ∧ checkL n kM (is.drop (kk + 1)) (ds.drop (kk + 1)) ρ b = some b', fun H' h => ⟨is.length - (kk + 1), by omega, rfl, hlt, h⟩, ?_⟩
    rintro x H2 ⟨rfl, hx⟩
    have hx := hx _ (.inl (.inl w1.list))
    have fr := w1.ws.from kk
    rw [List.drop_eq_getElem_cons hlt] at ec1 fr
    rw [List.drop_eq_getElem_cons (show kk < Ts.length by omega)] at fr
    have ex : x = .ref (Ts[kk]'(by omega)) := by
      rw [List.getElem?_map, List.getElem?_eq_getElem (show kk < Ts.length by omega)] at hx
      exact (Option.some.inj hx).symm
    subst ex
    generalize eds : ds.drop kk = dk at ec1 fr
    cases fr with
    | @cons _ _ d dk' _ _ f v h1 h2 h3 h4 =>
      have edk : ds.drop (kk + 1) = dk' := by
        rw [← List.drop_drop, eds]
        rfl
      unfold checkL at ec1
      split at ec1
      · rename_i r b2 er
        split at ec1
        · rename_i en
          refine ⟨_, _, rfl, .inl (.inl h2), rfl, ?_⟩
          refine ⟨_, _, rfl, _, _, rfl, rfl, ?_⟩
          refine ⟨wipe_idem hs sm_set2, ?_⟩
          have l1 : j1 < (wipe σ vs).length := by rw [wipe_length, hl]; exact hN1
          have l2 : j2 < (wipe σ vs).length := by rw [wipe_length, hl]; exact hN2
          refine ⟨_, ρ, b1, α, β, is[kk], d, f, v, r, b2, w1.re, w1.ok _ (List.getElem_mem _), h1, h3, ?_, ?_, er, en, fun H3 k3 q3 => ?_⟩
          · rw [List.getElem?_set_ne (Ne.symm hj), List.getElem?_set_self l1]
          · rw [List.getElem?_set_self (by rw [List.length_set]; exact l2)]
          · show ite _ _ _
            rw [if_neg (by decide)]
            exact ⟨b2, w1.step k3 q3, k1.trans k3, by rw [edk]; exact ec1⟩
        · cases ec1
      · cases ec1
  · have ek : kk = is.length := by omega
    subst ek
    refine .inl ⟨⟨_, .inl (.inl w1.list), by rw [List.length_map]; omega⟩, ?_⟩
    have fr := w1.ws.from is.length
    rw [List.drop_length] at ec1 fr
    generalize eds : ds.drop is.length = dk at ec1 fr
    generalize Ts.drop is.length = tk at fr
    cases fr
    unfold checkL at ec1
    cases ec1
    have atC : H' C = some (.lst []) := (k1 C _ upd_same fun z => by
      obtain ⟨xs, e⟩ := w.re.ownL C (.inr (.inl z))
      obtain ⟨o, e⟩ := rd_some e
      rw [hC] at e; cases e).at fun _ z => by cases z
    exact fin C H' hC atC (fun a u e n => by
      have := k1 a u (by rw [upd_ne fun z => by rw [z, hC] at e; cases e]; exact e) n
      exact this) w1.re.box
variable {Ng : List Str} {x a w tl wn : Str} {stg : Stmt} {gf : Addr} {fdg : FuncData} {n k iw j1 j2 : Nat} {kM : ME D → MS} {is : List LamI} {scope : Scope} {own : List (Str × Nat)} {elt : Expr} {kt : Nat} {p0 p1 p2 p3 p4 p5 p6 p7 p8 p9 p10 p11 pos spos : Pos} {op : CmpOp} {rest body : List Stmt}
theorem pe_wkLc (calm : X.calm = true) (nd : X.N.Nodup) (ok : BlkOk X.N X.env.scope scope own) (hwn : X.N[iw]? = some wn) (vwn : Vis X.env.scope wn) (hm : X.mg x = some (.ref gf)) (F : Fun X.K x x stg gf fdg) (hb : L2.Binds X.K fdg [a] []) (S : FnScope Ng [a] (defScope stg)) (hn : n = Ng.length) (hNg : Ng[0]? = some a) (hva : Vis (defScope stg) a)
    (gives : Gives X Ng x stg gf a kM) (room : Room (k + 2) X.A) (hu : X.A.units + 64 < cLine) (hg : InBlk X scope fun Y => Gl Y x) (h1 : X.N[j1]? = some w) (v1 : InBlk X scope fun Y => Vis Y.env.scope w) (h2 : X.N[j2]? = some tl) (v2 : InBlk X scope fun Y => Vis Y.env.scope tl)
    (l1 : InBlk X scope fun Y => Loc Y.env.scope w ∧ (Y.fn w = true ∨ Y.env.scope.names.lookup w = some .local)) (l2 : InBlk X scope fun Y => Loc Y.env.scope tl ∧ (Y.fn tl = true ∨ Y.env.scope.names.lookup tl = some .local))
    (hv : ∀ i ∈ [j1, j2], i ∈ own.map (·.2)) (hj : j1 ≠ j2)
    (hd : (a == ("__debug__" : Str)) = false := by decide) (hcd : (a == ("__classdict__" : Str)) = false := by decide) (hdb : (x == ("__debug__" : Str)) = false := by decide) (hd1 : (w == ("__debug__" : Str)) = false := by decide) (hcd1 : (w == ("__classdict__" : Str)) = false := by decide) (hd2 : (tl == ("__debug__" : Str)) = false := by decide) (hcd2 : (tl == ("__classdict__" : Str)) = false := by decide) (hd3 : (wn == ("__debug__" : Str)) = false := by decide) (hcd3 : (wn == ("__classdict__" : Str)) = false := by decide)
    (hs : ∀ x, foldedSetIterable (.Name wn p9) X.env x = pure x := by intro _; rfl) :
    PE X (.ListComp (.Name w p6) [⟨.Tuple [.Name w p7, .Name tl p8] kt p10, .Name wn p9, [.Compare (.Call (.Name x p1) [.Name w p2] [] p3) [.NotEq] [.Name tl p4] p5], 0⟩] scope pos) (tWkE X k iw n kM is) :=
  ⟨fun pins s σ H Q I h => (pe_lcIn (tt := tWt X k n kM j1 j2) (te := tVar j1) calm nd (pi_list (pe_var hwn vwn hd3 hcd3)) ok (fun fq t G => pg_tup (X := blkAt X scope fq t G) calm (pgs_cons (pg_name nd h1 (l1 _ _ _ _ _).1 (l1 _ _ _ _ _).2) (pgs_cons (pg_name nd h2 (l2 _ _ _ _ _).1 (l2 _ _ _ _ _).2) pgs_nil)))
    (fun pins σ fq t G ps τ G' t' Q out J q => wk_test hm F hb S hn hNg hva gives room hu hg h1 v1 h2 v2 hd hcd hdb hd1 hcd1 hd2 hcd2 out J q) (fun fq t G => pe_var (X := blkAt X scope fq t G) h1 (v1 _ _ _ _ _) hd1 hcd1) hs).run pins s σ H Q I (wk_read hv hj (List.getElem?_eq_some_iff.mp h1).1 (List.getElem?_eq_some_iff.mp h2).1 I.len h)⟩
/-- [..] == [], [..] != [] -/
def tWkC (X : Cx) (k iw n : Nat) (kM : ME D → MS) (is : List LamI) (c : Bool) : TE := fun σ H Q => ∃ g ρ b α β L Ts ds b', Wk X k g iw is ds ρ b σ α β L Ts H ∧ checkL n kM is ds ρ b = some b' ∧ ∀ H', Keep (Bs β) H H' → BxR (gD g L (Ts.map .ref)) H' b' β → Q (.bl c) H'
theorem wkc_read {opD : D → D → Option D} {c : Bool} {σ : L2.St} {H : Hp} {Q : VK} (ho : opD (.list []) (.list []) = some (.bool c)) (h : tWkC X k iw n kM is c σ H Q) : tOp (rD X.K opD) (tWkE X k iw n kM is) (tR (Cx.z X) (lW X.K) W (lstM nilM)) σ H Q := by
  obtain ⟨g, ρ, b, α, β, L, Ts, ds, b', w, ec, fin⟩ := h
  refine ⟨g, ρ, b, α, β, L, Ts, ds, b', w, ec, fun a H1 ha hl k1 q1 => ?_⟩
  have w1 := w.step k1 q1
  refine ⟨_, ρ, b', α, β, w1.re, ?_⟩
  have el : lstM nilM ρ b' = .ok (.list []) b' := by
    unfold lstM nilM bindM
    simp only [Fs.R.bind, liftO]
    rw [if_pos (show ([] : List D).length ≤ sizeLine by rw [sizeLine_eq]; decide)]
  rw [el]
  refine fun y H2 ly k2 q2 => ⟨_, _, .list [], .list [], .bool c, (w1.re.step k2 q2).gd, .inl ?_, ly, ho, fun v H3 rv k3 => ?_⟩
  · exact RD.keep (k2.mono fun _ z => .inr (.inl z)) _ _ (.lst ⟨.inl hl, fun z => by
      obtain ⟨xs, e⟩ := w.re.ownL a z
      obtain ⟨o, e⟩ := rd_some e
      rw [ha] at e; cases e⟩ .nil)
  · cases rv
    exact fin H3 (k1.trans (k2.trans k3.of0)) (q2.keep0 k3)
def wkRetM (n : Nat) (kM : ME D → MS) (is : List (ME D)) : List D → MS := fun ds ρ b => match checkB n kM is ds ρ b with
  | some b' => .rt (.bool true) b'
  | none => .bad
def wkIfM (n : Nat) (kM : ME D → MS) (is : List (ME D)) (m : MS) : List D → MS := fun ds ρ b => match checkB n kM is ds ρ b with
  | some b' => m ρ b'
  | none => .bad
/-- return [..] == [] -/
theorem wk_ret {lc : Expr} (hl : PE X lc (tWkE X k iw n kM is)) (hu : X.A.units + 64 < cLine) {mbs : List (ME D)} (hmb : is.map (·.mb) = mbs := by rfl) : SBw X W k iw is [.Return (some (.Compare lc [.Eq] [.List [] p1] pos)) spos] (wkRetM n kM mbs) :=
  PSs.imp (pss_one (ps_ret (pe_cmpR (o_eq hu) hl (SE.w (W := W) (se_lst sa_nil)) (nomark _)))) fun D σ H ⟨g, ρ, b, α, β, L, Ts, ds, w, p⟩ => by
    refine wkc_read (c := true) (by kernel_rfl) ?_
    unfold wkRetM at p
    split at p
    · rename_i b' ec
      rw [← hmb, check_eq] at ec
      exact ⟨g, ρ, b, α, β, L, Ts, ds, b', w, ec, fun H' k1 q => p _ H' ((w.step k1 q).drop.ret (.bl true))⟩
    · exact p.elim
/-- if [..] != []: .. -/
theorem wk_if {lc : Expr} {mB m : MS} (hl : PE X lc (tWkE X k iw n kM is)) (hu : X.A.units + 64 < cLine) (hB : SB X W body mB) (hr : SB X W rest m) {mbs : List (ME D)} (hmb : is.map (·.mb) = mbs := by rfl) : SBw X W k iw is (.If (.Compare lc [.NotEq] [.List [] p1] pos) body [] spos :: rest) (wkIfM n kM mbs m) :=
  PSs.imp (pss_cons (ps_if (pt_cmpR (o_ne hu) hl (SE.w (W := W) (se_lst sa_nil)) (nomark _)) hB (sb_nil (W := W))) hr) fun D σ H ⟨g, ρ, b, α, β, L, Ts, ds, w, p⟩ => by
    unfold wkIfM at p
    split at p
    · rename_i b' ec
      rw [← hmb, check_eq] at ec
      refine wkc_read (c := false) (by kernel_rfl) ⟨g, ρ, b, α, β, L, Ts, ds, b', w, ec, fun H' k1 q => ⟨false, rfl, ?_⟩⟩
      show tS (Cx.z X) W skipM _ σ H'
      exact ⟨g, ρ, b', α, β, (w.step k1 q).drop, fun σ H α β r => ⟨g, ρ, b', α, β, r, p⟩⟩
    · exact p.elim
end
end Fs

/-! M11: [..] * k. -/
namespace Fs
open L2 PyProof.Rows PySem.Spec PySem
variable [LT]
def repF (ds : List D) : D → Option (List D)
  | .int k => if (-(2 ^ 63) ≤ k ∧ k < 2 ^ 63) ∧ ds.length * k.toNat ≤ sizeLine then some (List.replicate k.toNat ds).flatten else none
  | _ => none
def repM (ms : ME (List D)) (mk : ME D) : ME (List D) := bindM ms fun ds => if ds.length ≤ sizeLine then bindM mk fun k => liftO (repF ds k) else fun _ _ => .bad
section
variable {X : Cx} {W : WX} {es : List Expr} {c : Expr} {ms : ME (List D)} {mk : ME D} {p pos : Pos}
theorem rds_rep {K : PySem.W.Frag} {O : Own} {H : Hp} {ds : List D} {vs : List V} (r : RDs K O H ds vs) : ∀ n : Nat, RDs K O H (List.replicate n ds).flatten (List.replicate n vs).flatten
  | 0 => .nil
  | n + 1 => by
    rw [List.replicate_succ, List.replicate_succ, List.flatten_cons, List.flatten_cons]
    exact r.append (rds_rep r n)
theorem sn_repL (h : SA X W es ms) (hk : SW X W c mk) : SN X W (.BinOp (.List es p) .Mult c pos) (repM ms mk) := PE.imp (pe_op op_rep (pe_lst h) hk) fun σ H Q ⟨g, ρ, b, α, β, r, p⟩ => by
  refine ⟨g, ρ, b, α, β, r, ?_⟩
  unfold repM bindM at p
  cases e : ms ρ b with
  | ex x b' => rw [e] at p; exact p
  | bad => rw [e] at p; exact p
  | ok ds b' =>
    rw [e] at p
    simp only [R.bind] at p
    by_cases z1 : ds.length ≤ sizeLine
    case neg =>
      rw [if_neg z1] at p
      exact p.elim
    rw [if_pos z1] at p
    cases e2 : mk ρ b' with
    | bad => rw [e2] at p; exact p.elim
    | ex x b2 =>
      rw [e2] at p
      refine fun xs H1 l k q => ⟨by rw [← l.length]; exact z1, fun p' hp => ?_⟩
      have r1 := r.step k q
      refine ⟨g, ρ, b', α, β, r1.step (KeepS.upd hp).of0 (r1.box.keep0 (KeepS.upd hp)), ?_⟩
      rw [e2]
      exact fun cls dd H2 l2 k2 q2 => p cls dd H2 l2 (k.trans ((KeepS.upd hp).of0.trans k2)) q2
    | ok d b2 =>
      rw [e2] at p
      simp only [R.bind, liftO] at p
      cases ez : repF ds d with
      | none => rw [ez] at p; exact p.elim
      | some ys =>
        rw [ez] at p
        cases d with
        | int k =>
          simp only [repF] at ez
          split at ez
          · rename_i hz
            cases ez
            obtain ⟨z2, z3⟩ := hz
            refine fun xs H1 l k1 q1 => ⟨by rw [← l.length]; exact z1, fun p' hp => ?_⟩
            have r1 := r.step k1 q1
            have kp := KeepS.upd (o := .lst xs) hp
            refine ⟨g, ρ, b', α, β, r1.step kp.of0 (r1.box.keep0 kp), ?_⟩
            rw [e2]
            refine fun y H2 ly k2 q2 => ⟨p', k, xs, rfl, ly.int, ?_, z2.1, z2.2, by rw [← l.length]; exact z3, fun a ha => ?_⟩
            · exact (k2 p' _ upd_same fun z => by
                obtain ⟨ws, e⟩ := r1.ownL p' (.inr (.inl z))
                obtain ⟨o, e⟩ := rd_some e
                rw [hp] at e; cases e).at fun _ z => by cases z
            · have k3 : Keep (Bs β) H H2 := k1.trans (kp.of0.trans k2)
              have l2 : RDs X.K (OW g ρ α β) H2 ds xs := RDs.keep (k2.mono fun _ z => .inr (.inl z)) _ _ (RDs.keep kp.of0 _ _ l)
              refine p a _ _ (free_back k3 q2 ha) upd_same ?_ (k3.trans (KeepS.upd ha).of0) (q2.keep0 (KeepS.upd ha))
              refine RDs.keep (KeepS.upd ha).of0 _ _ (RDs.own (fun x u e z => ?_) _ _ (rds_rep l2 k.toNat))
              rcases z with z | z
              · exact z
              · rw [z, ha] at e; cases e
          · cases ez
        | _ => cases ez
end
end Fs

/-! M12: [x.pop(e) for .. in ..], x a list of one's own. -/
namespace Fs
open L2 PyProof.Rows PySem.Spec PySem
variable [LT]
def popL (i : Nat) (vs : List Nat) (tf : TF) (mE : ME D) (ρ : En) : List D → List D → Bx → Option (List D × List D × Bx)
  | [], xs, b => some ([], xs, b)
  | d :: ds, xs, b => match tf d (wipeE (ρ.set i (.own xs)) vs) with
    | none => none
    | some ρ1 => match mE ρ1 b with
      | .ok (.int k) b1 => if 0 ≤ k ∧ k < xs.length then (match xs[k.toNat]? with
        | some y => (match popL i vs tf mE ρ ds (xs.eraseIdx k.toNat) b1 with
          | some (ys, zs, b2) => some (y :: ys, zs, b2)
          | none => none)
        | none => none) else none
      | _ => none
def popM (j i : Nat) (mi : ME (List D)) (vs : List Nat) (tf : TF) (mE : ME D) : MS := fun ρ b => match ρ[i]? with
  | some (.own xs) => (match mi ρ b with
    | .ok ds b1 => if (vs.all fun v => match ρ[v]? with | some (.own _) => false | _ => true) = true ∧ vs.all (fun v => v != i) = true ∧ xs.length ≤ sizeLine then (match popL i vs tf mE ρ ds xs b1 with
      | some (ys, zs, b2) => if j < ρ.length then .nx ((ρ.set i (.own zs)).set j (.v (.list ys))) b2 else .bad
      | none => .bad) else .bad
    | _ => .bad)
  | _ => .bad
section
variable {X : Cx} {W : WX} {mi : ME (List D)} {vs ts : List Nat} {tf : TF} {mE : ME D} {σ : L2.St} {H : Hp} {Q : VK} {i : Nat}
structure CPt (X : Cx) (i : Nat) (vs : List Nat) (tf : TF) (mE : ME D) (g : Gh) (ρ : En) (σ : L2.St) (α : Nat → Addr) (β : Option Addr) (H1 : Hp) (L : Addr) (ds : List D) (Fin : List D → List D → Bx → Prop) (k : Nat) (b : Bx) (xs acc : List D) (ws : List V) (H' : Hp) : Prop where
  re : RE X.K (gD g L ws) H' (ρ.set i (.own xs)) b σ α β
  kp : Keep (OW g ρ α β) H1 H'
  le : acc.length ≤ k
  rd : RDs X.K (OW (gD g L ws) ρ α β) H' acc ws
  sz : xs.length ≤ sizeLine
  fin : match popL i vs tf mE ρ (ds.drop k) xs b with
    | some (ys, zs, b3) => Fin (acc ++ ys) zs b3
    | none => False
theorem ow_own {g : Gh} {ρ : En} {α : Nat → Addr} {β : Option Addr} {xs0 xs : List D} (h : ρ[i]? = some (.own xs0)) : ∀ a, OW g (ρ.set i (.own xs)) α β a ↔ OW g ρ α β a := fun a => by
  have hi : i < ρ.length := (List.getElem?_eq_some_iff.mp h).1
  constructor
  · intro z
    rcases z with z | z | ⟨j, ys, e, z⟩
    · exact .inl z
    · exact .inr (.inl z)
    · by_cases hij : i = j
      · subst hij
        exact .inr (.inr ⟨i, xs0, h, z⟩)
      · rw [set_ne hij] at e
        exact .inr (.inr ⟨j, ys, e, z⟩)
  · intro z
    rcases z with z | z | ⟨j, ys, e, z⟩
    · exact .inl z
    · exact .inr (.inl z)
    · by_cases hij : i = j
      · subst hij
        exact .inr (.inr ⟨i, xs, set_at hi, z⟩)
      · exact .inr (.inr ⟨j, ys, by rw [set_ne hij]; exact e, z⟩)
theorem RDs.erase {K : PySem.W.Frag} {O : Own} {H : Hp} : ∀ {ds : List D} {vs : List V}, RDs K O H ds vs → ∀ n : Nat, RDs K O H (ds.eraseIdx n) (vs.eraseIdx n)
  | _, _, .nil, _ => .nil
  | _, _, .cons h t, 0 => t
  | _, _, .cons h t, n + 1 => .cons h (RDs.erase t n)
theorem pop_read {j : Nat} {D : Ends} {g : Gh} {ρ : En} {b : Bx} {α : Nat → Addr} {β : Option Addr} (hs : ∀ v ∈ ts, v ∈ vs) (r : RE X.K g H ρ b σ α β) (p : PostS (Cx.z X) W g D (popM j i mi vs tf mE ρ b)) :
    tLc (tR (Cx.z X) (lIs X.K) W mi) (tGt (Cx.z X) ts tf) (tR (Cx.z X) lB wNo (bM true)) (tBM X.K "list" rPopAt (tVar i) (tCons (tR (Cx.z X) (lD X.K) wNo mE) tNil)) vs σ H (fun x H1 => gName j x σ H1 D.nx) := by
  unfold popM at p
  split at p
  case h_2 => exact p.elim
  rename_i xs0 ei
  refine ⟨g, ρ, b, α, β, r, ?_⟩
  split at p
  case h_2 => exact p.elim
  rename_i ds b1 em
  rw [em]
  refine fun J H1 l k q => ?_
  have r1 := r.step k q
  split at p
  case isFalse => exact p.elim
  rename_i hn0
  obtain ⟨hn0, hvi, hz0⟩ := hn0
  have hvi : i ∉ vs := fun z => by
    have := List.all_eq_true.mp hvi i z
    simp at this
  have hi : i < ρ.length := (List.getElem?_eq_some_iff.mp ei).1
  have hset : ρ.set i (.own xs0) = ρ := by
    apply List.ext_getElem?
    intro n
    by_cases hni : i = n
    · subst hni; rw [set_at hi, ei]
    · rw [set_ne hni]
  refine fun L hL => ?_
  have g0 : g.H0 L = none := by
    cases e : g.H0 L with
    | none => rfl
    | some u =>
      by_cases hf : g.fo = some L
      · obtain ⟨xs, e⟩ := r1.ownL L (.inr (.inl (r1.foB' hf)))
        obtain ⟨o, e⟩ := rd_some e
        rw [hL] at e; cases e
      · obtain ⟨v, z⟩ := (r1.evo L u e hf).some
        rw [hL] at z; cases z
  have nof : ¬ g.Of L := fun z => by
    obtain ⟨xs, e⟩ := r1.oft L z
    obtain ⟨o, e⟩ := rd_some e
    rw [g0] at e; cases e
  have nOW : ¬ OW g ρ α β L := fun z => by
    obtain ⟨xs, e⟩ := r1.ownL L z
    obtain ⟨o, e⟩ := rd_some e
    rw [hL] at e; cases e
  generalize hF : (fun (ys zs : List PyData) (b3 : Bx) => ∀ H' ws, RE X.K (gD g L ws) H' (ρ.set i (.own zs)) b3 σ α β → RDs X.K (OW (gD g L ws) ρ α β) H' ys ws → gName j (.ref L) σ H' D.nx) = Fin
  refine ⟨fun kk n H' => n = ds.length - kk ∧ kk ≤ ds.length ∧ ∃ b xs acc ws, CPt X i vs tf mE g ρ σ α β H1 L ds Fin kk b xs acc ws H', ⟨ds.length, rfl, Nat.zero_le _, b1, xs0, [], [], ?_⟩, ?_⟩
  · refine ⟨by rw [hset]; exact r1.addD hL, (Keep.upd hL).of0, Nat.le_refl _, .nil, hz0, ?_⟩
    rw [List.drop_zero]
    cases ep : popL i vs tf mE ρ ds xs0 b1 with
    | none => rw [ep] at p; exact p.elim
    | some t =>
      obtain ⟨ys, zs, b2⟩ := t
      rw [ep] at p
      simp only at p
      rw [← hF]
      intro H' ws re rd
      split at p
      case isFalse => exact p.elim
      rename_i hj
      have lk : ∀ n xs, (ρ.set i (.own zs))[n]? = some (.lk xs) → g.la n ≠ L := fun n xs e => by
        by_cases hin : i = n
        · subst hin; rw [set_at hi] at e; cases e
        · rw [set_ne hin] at e
          exact r1.lkL hL n xs e
      have re2 : RE X.K g H' (ρ.set i (.own zs)) b2 σ α β := re.dropD g0 nof lk
      have atL : H' L = some (.lst ws) := re.evo L _ upd_same fun z => re.ofB (show (gD g L ws).Of L from .inr rfl) (re.foB' z)
      refine p _ H' α β (re2.setV (by rw [← re2.len, List.length_set]; exact hj) (.lst ⟨.inl atL, fun z => nOW ((ow_own ei L).mp z)⟩ (rd.own fun a u _ z => ?_)))
      rcases (ow_own ei a).mp z with z | z
      · exact .inl (.inl z)
      · exact .inr z
  · rintro kk n H' ⟨rfl, hkk, b2, xs, acc, ws, c⟩
    obtain ⟨hstop, hgo⟩ := l.1 H' c.kp
    have ei' : (ρ.set i (.own xs))[i]? = some (.own xs) := set_at hi
    have atL : H' L = some (.lst ws) := c.re.evo L _ upd_same fun z => c.re.ofB (show (gD g L ws).Of L from .inr rfl) (c.re.foB' z)
    by_cases hlt : kk < ds.length
    · obtain ⟨g1, y⟩ := hgo kk ds[kk] (List.getElem?_eq_getElem hlt)
      refine .inr ⟨g1, fun H' => ∃ b xs acc ws, CPt X i vs tf mE g ρ σ α β H1 L ds Fin (kk + 1) b xs acc ws H', fun H' h => ⟨ds.length - (kk + 1), by omega, rfl, hlt, h⟩, fun x H3 hy => ?_⟩
      obtain ⟨k0, tr⟩ := y x H3 hy
      have r3 : RE X.K (gD g L ws) H3 (ρ.set i (.own xs)) b2 σ α β := c.re.step k0.of0 (c.re.box.keep0 k0)
      have fin := c.fin
      have cre := c.re
      rw [List.drop_eq_getElem_cons hlt] at fin
      unfold popL at fin
      generalize eρ : ρ.set i (.own xs) = ρx at *
      cases et : tf ds[kk] (wipeE ρx vs) with
      | none => rw [et] at fin; exact fin.elim
      | some ρ1 =>
        rw [et] at fin
        simp only at fin
        have hn : noOwn ρx vs = true := by
          refine List.all_eq_true.mpr fun v hv => ?_
          have h0 := List.all_eq_true.mp hn0 v hv
          have : ρx[v]? = ρ[v]? := by rw [← eρ, set_ne fun z => hvi (by rw [z]; exact hv)]
          rw [this]
          exact h0
        have ow := ow_wipe (g := gD g L ws) (α := α) (β := β) hn
        have owx : ∀ a, OW (gD g L ws) ρx α β a ↔ OW (gD g L ws) ρ α β a := fun a => by rw [← eρ]; exact ow_own ei a
        have lx : RD X.K (OW (gD g L ws) (wipeE ρx vs) α β) H3 ds[kk] x := tr _ (fun a z => by
            obtain ⟨xs, q⟩ := cre.ownL a ((ow a).mpr z)
            exact rd_some q) fun cc yy hc => by
          refine RD.keep (O := OW (gD g L ws) (wipeE ρx vs) α β) k0.of0 _ _ ?_
          have h1 : RD X.K (OW (gD g L ws) (wipeE ρx vs) α β) H1 cc yy := hc.own fun a u eu z => by
            have z := (owx a).mp ((ow a).mpr z)
            rcases z with (z | z) | z
            · exact .inl z
            · rw [z, hL] at eu; cases eu
            · exact .inr z
          exact RD.keep (c.kp.mono fun a z => (ow a).mp ((owx a).mpr (by
            rcases z with z | z
            · exact .inl (.inl z)
            · exact .inr z))) _ _ h1
        refine ⟨gD g L ws, wipeE ρx vs, b2, α, β, ds[kk], ρ1, r3.wipe hn, lx, et, fun σ2 r2 sub s1 s2 => ⟨wipe_idem hs s1, ?_⟩⟩
        refine ⟨gD g L ws, ρ1, b2, α, β, r2, ?_⟩
        refine fun t' H4 lt k4 q4 => ?_
        have lt : true = t' := lt
        subst lt
        have r4 := r2.step k4 q4
        have o4 := r3.step k4 q4
        show ite _ _ _
        rw [if_pos rfl]
        have hi1 : ρ1[i]? = some (.own xs) := by
          rw [s2.2 i fun z => hvi (hs i z), wipeE_at hvi]
          exact ei'
        obtain ⟨us, e1, e2, e3, e4, e5⟩ := r4.own i xs hi1
        refine ⟨_, e1, .inl ⟨rfl, us, .inl (.inl e2)⟩, ?_⟩
        rw [tCons_eq]
        refine ⟨gD g L ws, ρ1, b2, α, β, r4, ?_⟩
        cases en : mE ρ1 b2 with
        | ex x b' => rw [en] at fin; exact fin.elim
        | bad => rw [en] at fin; exact fin.elim
        | ok y b4 =>
          rw [en] at fin
          cases y with
          | int kq =>
            simp only at fin
            by_cases hk : 0 ≤ kq ∧ kq < xs.length
            case neg => rw [if_neg hk] at fin; exact fin.elim
            rw [if_pos hk] at fin
            cases ey : xs[kq.toNat]? with
            | none => rw [ey] at fin; exact fin.elim
            | some y =>
              rw [ey] at fin
              simp only at fin
              refine fun v H5 l5 k5 q5 => ?_
              have o5 := o4.step k5 q5
              obtain ⟨us5, f1, f2, f3, f4, f5⟩ := o5.own i xs ei'
              have hus : xs.length = us5.length := f3.length
              have ev : us5 = us := by
                have := (k5 _ _ e2 e5).at fun _ z => by cases z
                rw [f2] at this; cases this; rfl
              subst ev
              have sk : seqIndex? kq us5.length = some kq.toNat := seqIndex_of hk.1 (by rw [← hus]; exact hk.2)
              have gy : ∃ vy, us5[kq.toNat]? = some vy ∧ RD X.K (OW (gD g L ws) ρx α β) H5 y vy := f3.get ey
              obtain ⟨vy, ey2, ry⟩ := gy
              have hb1 : kq < 2 ^ 63 := by
                have h1 := c.sz
                rw [sizeLine_eq] at h1
                have h2 : kq < 16777217 := by omega
                exact Int.lt_of_lt_of_le h2 (by decide)
              have ev5 : v = .int kq := by
                have l6 : RD X.K (OW (gD g L ws) ρ1 α β) H5 (.int kq) v := l5
                cases l6
                rfl
              refine ⟨_, us5, kq, kq.toNat, vy, rfl, by rw [ev5], f2, Int.le_trans (by decide) hk.1, hb1, sk, ey2, ?_⟩
              -- the list without it, the element at the end
              have m6 : RE X.K (gD g L ws) (upd H5 (α i) (.lst (us5.eraseIdx kq.toNat))) (ρx.set i (.own (xs.eraseIdx kq.toNat))) b4 σ α β := o5.mut ei' (f3.erase _)
              have hxx : ρx.set i (.own (xs.eraseIdx kq.toNat)) = ρ.set i (.own (xs.eraseIdx kq.toNat)) := by rw [← eρ, List.set_set]
              rw [hxx] at m6
              have at6 : upd H5 (α i) (.lst (us5.eraseIdx kq.toNat)) L = some (.lst ws) := m6.evo L _ upd_same fun z => m6.ofB (show (gD g L ws).Of L from .inr rfl) (m6.foB' z)
              have kM : Keep (OW (gD g L ws) ρx α β) H5 (upd H5 (α i) (.lst (us5.eraseIdx kq.toNat))) := fun a u e n => by
                rw [upd_ne fun z => n (.inr (.inr ⟨i, xs, ei', z.symm⟩)), e]; exact .self
              have bso : ∀ a, Bs β a → OW (gD g L ws) ρ α β a := fun a z => .inr (.inl z)
              have rd5 : RDs X.K (OW (gD g L ws) ρ α β) H5 acc ws := ((c.rd.keep k0.of0).keep (k4.mono bso)).keep (k5.mono bso)
              have kM' : Keep (OW (gD g L ws) ρ α β) H5 (upd H5 (α i) (.lst (us5.eraseIdx kq.toNat))) := kM.mono fun a z => (owx a).mp z
              have rd6 := rd5.keep kM'
              have ly : RD X.K (OW (gD g L ws) ρ α β) (upd H5 (α i) (.lst (us5.eraseIdx kq.toNat))) y vy := RD.keep kM' _ _ (ry.own fun a _ _ z => (owx a).mpr z)
              have kl : Keep (OW (gD g L ws) ρ α β) (upd H5 (α i) (.lst (us5.eraseIdx kq.toNat))) (upd (upd H5 (α i) (.lst (us5.eraseIdx kq.toNat))) L (.lst (ws ++ [vy]))) := fun a u e n => by
                rw [upd_ne fun z => n (.inl (.inr z)), e]; exact .self
              have hle := c.le
              have hwl := rd5.length
              have lk6 : ∀ n ys, (ρ.set i (.own (xs.eraseIdx kq.toNat)))[n]? = some (.lk ys) → g.la n ≠ L := fun n ys e => by
                by_cases hin : i = n
                · subst hin; rw [set_at hi] at e; cases e
                · rw [set_ne hin] at e
                  exact r1.lkL hL n ys e
              refine ⟨ws, at6, by have := l.2; omega, b4, xs.eraseIdx kq.toNat, acc ++ [y], ws ++ [vy], m6.chD lk6, fun a u ea na => ?_, by simp; omega, (rd6.append (.cons ly .nil)).keep kl, Nat.le_trans (List.length_eraseIdx_le ..) c.sz, ?_⟩
              · have nL : a ≠ L := fun z => by rw [z, hL] at ea; cases ea
                have nA : a ≠ α i := fun z => na (.inr (.inr ⟨i, xs0, ei, z.symm⟩))
                rw [upd_ne nL, upd_ne nA]
                have bs2 : ∀ a, Bs β a → OW g ρ α β a := fun a z => .inr (.inl z)
                exact (c.kp.trans (k0.of0.trans ((k4.mono bs2).trans (k5.mono bs2)))) a u ea na
              · cases ec : popL i vs tf mE ρ (ds.drop (kk + 1)) (xs.eraseIdx kq.toNat) b4 with
                | none => rw [ec] at fin; exact fin.elim
                | some t =>
                  obtain ⟨ys, zs, b5⟩ := t
                  rw [ec] at fin
                  simp only [List.append_assoc, List.singleton_append] at fin ⊢
                  exact fin
          | _ => exact fin.elim
    · have e : kk = ds.length := by omega
      subst e
      refine .inl ⟨hstop, ?_⟩
      have fin := c.fin
      rw [List.drop_length] at fin
      unfold popL at fin
      have fin : Fin (acc ++ []) xs b2 := fin
      rw [List.append_nil, ← hF] at fin
      exact fin H' ws c.re c.rd
/-! ### the rules -/
variable {tg iter e : Expr} {scope : Scope} {own : List (Str × Nat)} {pos spos py p1 p2 p3 : Pos} {j : Nat} {x y : Str}
theorem pe_pop {Y : Cx} (hN : Y.N[i]? = some x) (hv : Vis Y.env.scope x) (he : SE Y wNo e mE) (hd : (x == ("__debug__" : Str)) = false := by decide) (hcd : (x == ("__classdict__" : Str)) = false := by decide)
    (hst : starEach [e] Y.env = [(false, eval e Y.env)] := by rfl)
    (hbase : attributeBase (.Name x p1) "pop" Y.env (eval (.Name x p1) Y.env) = eval (.Name x p1) Y.env := by rfl)
    (hfew : ((backTo p3 (starEach [e] Y.env)).all (fun x => !x.1) && (backToKw p3 (keywordEach [] Y.env)).all (fun x => x.1.isSome)
      && decide (([e] : List Expr).length + ([] : List Keyword).length + (if ([] : List Keyword).isEmpty then 0 else 1) < 30)) = true := by rfl)
    (hline : (p2.endLine == p3.line) = true := by rfl) : PE Y (.Call (.Attribute (.Name x p1) "pop" p2) [e] [] p3) (tBM Y.K "list" rPopAt (tVar i) (tCons (tR (Cx.z Y) (lD Y.K) wNo mE) tNil)) :=
  pe_bm (X := Y) PySem.F.plainAttrs_list PySem.F.slot_list_pop PySem.F.type_list_pop mt_popAt (pe_var hN hv hd hcd) (pa_cons he pa_nil hst) hbase hfew hline hst rfl
/-- y = [x.pop(e) for ..], y a cell, or on more lines -/
theorem ss_setPop (hc : X.calm = true) (hN : X.N.Nodup) (hy : X.N[j]? = some y) (hyl : Loc X.env.scope y) (hi : SIs X W tg iter mi) (ok : BlkOk X.N X.env.scope scope own) (hg : InBlk X scope fun Y => SG Y tg ts tf)
    (he : InBlk X scope fun Y => PE Y (.Call (.Attribute (.Name x p1) "pop" p2) [e] [] p3) (tBM Y.K "list" rPopAt (tVar i) (tCons (tR (Cx.z Y) (lD Y.K) wNo mE) tNil)))
    (hv : ∀ i ∈ ts, i ∈ own.map (·.2)) (hsw : swapsWith (.ListComp (.Call (.Attribute (.Name x p1) "pop" p2) [e] [] p3) [⟨tg, iter, [], 0⟩] scope pos) (some (.Name y py)) spos.line X.env = pure false := by rfl) (hs : ∀ x, foldedSetIterable iter X.env x = pure x := by intro _; rfl)
    (hf : X.fn y = true ∨ X.env.scope.names.lookup y = some .local := by first | exact .inl rfl | exact .inr rfl | assumption) :
    SS X W (.Assign [.Name y py] (.ListComp (.Call (.Attribute (.Name x p1) "pop" p2) [e] [] p3) [⟨tg, iter, [], 0⟩] scope pos) spos) (popM j i mi (own.map (·.2)) tf mE) :=
  PS.imp (ps_set hN hy hyl (pe_lc (g := tGt (Cx.z X) ts tf) (tt := tR (Cx.z X) lB wNo (bM true)) (te := tBM X.K "list" rPopAt (tVar i) (tCons (tR (Cx.z X) (lD X.K) wNo mE) tNil)) hc hN hi ok (fun s H C cl fp => hg s H C cl fp) (fun s H C cl fp => pts_yes) (fun s H C cl fp => he s H C cl fp) hs) hsw hf) fun D σ H ⟨g, ρ, b, α, β, r, p⟩ => pop_read hv r p
theorem ss_setPopLc (hc : X.calm = true) (hN : X.N.Nodup) (hy : X.N[j]? = some y) (hyl : X.env.scope.names.lookup y = some .local) (hsw : swapsWith (.ListComp (.Call (.Attribute (.Name x p1) "pop" p2) [e] [] p3) [⟨tg, iter, [], 0⟩] scope pos) (some (.Name y py)) spos.line X.env = pure true)
    (hi : SIs X W tg iter mi) (ok : BlkOk X.N X.env.scope scope own) (hg : InBlk X scope fun Y => SG Y tg ts tf)
    (he : InBlk X scope fun Y => PE Y (.Call (.Attribute (.Name x p1) "pop" p2) [e] [] p3) (tBM Y.K "list" rPopAt (tVar i) (tCons (tR (Cx.z Y) (lD Y.K) wNo mE) tNil)))
    (hv : ∀ i ∈ ts, i ∈ own.map (·.2)) (hs : ∀ x, foldedSetIterable iter X.env x = pure x := by intro _; rfl) :
    SS X W (.Assign [.Name y py] (.ListComp (.Call (.Attribute (.Name x p1) "pop" p2) [e] [] p3) [⟨tg, iter, [], 0⟩] scope pos) spos) (popM j i mi (own.map (·.2)) tf mE) :=
  PS.imp (ps_setLc (g := tGt (Cx.z X) ts tf) (tt := tR (Cx.z X) lB wNo (bM true)) (te := tBM X.K "list" rPopAt (tVar i) (tCons (tR (Cx.z X) (lD X.K) wNo mE) tNil)) hc hN hy hyl hsw hi ok (fun s H C cl fp => hg s H C cl fp) (fun s H C cl fp => pts_yes) (fun s H C cl fp => he s H C cl fp) hs) fun D σ H ⟨g, ρ, b, α, β, r, p⟩ => pop_read hv r p
end
end Fs

/-! M13: len({x: True for x in e}), list(range(n)) as a new list, t.count(v). -/
namespace Fs
open L2 PyProof.Rows PySem.Spec PySem
variable [LT]
/-! ### list(range(n)), a new list -/
section
variable {X : Cx} {W : WX} {e a : Expr} {ma : ME D} {pos p p2 q : Pos}
def newRngM (ma : ME D) : ME (List D) := bindM ma fun d => liftO (rgD d)
theorem sn_listRng (hc : X.calm = true) (hg : Gl X "list") (hm : X.mg "list" = none) (hg2 : Gl X "range") (hm2 : X.mg "range" = none) (ha : SW X W a ma) (na : starEach [a] X.env = (false, eval a X.env) :: starEach [] X.env := by rfl)
    (nb : starEach [.Call (.Name "range" p2) [a] [] q] X.env = (false, eval (.Call (.Name "range" p2) [a] [] q) X.env) :: starEach [] X.env := by rfl) :
    SN X W (.Call (.Name "list" p) [.Call (.Name "range" p2) [a] [] q] [] pos) (newRngM ma) :=
  PE.imp (pe_listRg hc hg hm (prg_1 hg2 hm2 ha na) nb) fun σ H Q ⟨g, ρ, b, α, β, r, pp⟩ => by
    refine ⟨g, ρ, b, α, β, r, ?_⟩
    unfold newRngM bindM at pp
    cases em : ma ρ b with
    | ex x b' => rw [em] at pp; exact pp
    | bad => rw [em] at pp; exact pp
    | ok d b' =>
      rw [em] at pp
      simp only [R.bind, liftO] at pp
      cases ez : rgD d with
      | none => rw [ez] at pp; exact pp.elim
      | some ys =>
        rw [ez] at pp
        intro x H1 l k q1
        unfold rgD at ez
        split at ez
        · split at ez
          · rename_i hb
            cases ez
            refine ⟨_, l.int, rng_ok hb, fun pn hn => ?_⟩
            refine pp pn _ _ (free_back k q1 hn) upd_same (rgV_rds _) (k.trans (Keep.upd hn).of0) (q1.keep0 (KeepS.upd hn))
          · cases ez
        · cases ez
end
/-! ### len({x: True for x in e}) -/
section
variable {X : Cx} {W : WX} {e : Expr} {ma : ME D} {pos p p1 p2 p3 p4 q : Pos} {x : Str} {j : Nat} {scope : Scope} {kt : Nat}
theorem putK_in {kvs : List (Key × V)} {k : Key} {v : V} (h : k ∈ kvs.map (·.1)) : (putK kvs k v).map (·.1) = kvs.map (·.1) := by
  unfold putK
  have h1 : (kvs.any fun kv => decide (kv.1 = k)) = true := by
    obtain ⟨kv, hkv, e⟩ := List.mem_map.mp h
    exact List.any_eq_true.mpr ⟨kv, hkv, decide_eq_true e⟩
  rw [if_pos h1, List.map_map]
  apply List.map_congr_left
  intro kv _
  simp only [Function.comp]
  split <;> rfl
theorem putK_out {kvs : List (Key × V)} {k : Key} {v : V} (h : ¬ k ∈ kvs.map (·.1)) : (putK kvs k v).map (·.1) = kvs.map (·.1) ++ [k] := by
  unfold putK
  have h1 : ¬ (kvs.any fun kv => decide (kv.1 = k)) = true := fun z => by
    obtain ⟨kv, hkv, e⟩ := List.any_eq_true.mp z
    exact h (List.mem_map.mpr ⟨kv, hkv, of_decide_eq_true e⟩)
  rw [if_neg h1, List.map_append]
  rfl
structure DctS (H1 : Hp) (C : Addr) (ns : List Int) (k : Nat) (H' : Hp) : Prop where
  kp : KeepS H1 H'
  ex : ∃ kvs : List (Key × V), H' C = some (.dK kvs) ∧ (kvs.map (·.1)).Nodup ∧ (∀ q, q ∈ kvs.map (·.1) ↔ q ∈ (ns.take k).map Sum.inl) ∧ kvs.length ≤ k
theorem DctS.put {H1 H' : Hp} {C : Addr} {ns : List Int} {k : Nat} (c : DctS H1 C ns k H') {n : Int} (hn : ns[k]? = some n) {z : V} (hC : H1 C = none) : ∃ kvs, H' C = some (.dK kvs) ∧ kvs.length ≤ k ∧ DctS H1 C ns (k + 1) (upd H' C (.dK (putK kvs (.inl n) z))) := by
  obtain ⟨kvs, h1, h2, h3, h4⟩ := c.ex
  refine ⟨kvs, h1, h4, fun a u e => ?_, putK kvs (.inl n) z, upd_same, ?_, fun q => ?_, ?_⟩
  · rw [upd_ne fun w => by rw [w, hC] at e; cases e]
    exact c.kp a u e
  · by_cases hno : (Sum.inl n : Key) ∈ kvs.map (·.1)
    · rw [putK_in hno]; exact h2
    · rw [putK_out hno]
      refine List.nodup_append.mpr ⟨h2, List.nodup_cons.mpr ⟨nofun, List.nodup_nil⟩, fun a ha b hb e => ?_⟩
      rw [List.mem_singleton] at hb
      exact hno (by rw [← hb, ← e]; exact ha)
  · have et : ns.take (k + 1) = ns.take k ++ [n] := by
      rw [List.take_add_one, hn]
      rfl
    rw [et, List.map_append]
    by_cases hin : (Sum.inl n : Key) ∈ kvs.map (·.1)
    · rw [putK_in hin, h3, List.mem_append]
      constructor
      · exact .inl
      · rintro (w | w)
        · exact w
        · rw [List.map_cons, List.map_nil, List.mem_singleton] at w
          rw [w]
          exact (h3 _).mp hin
    · rw [putK_out hin, List.mem_append, List.mem_append, h3]
      rfl
  · have := length_putK kvs (.inl n) z
    omega
theorem se_lenDict (hc : X.calm = true) (nd : X.N.Nodup) (hg : Gl X "len") (hm : X.mg "len" = none) (he : SW X W e ma) (ok : BlkOk X.N X.env.scope scope [(x, j)]) (hx : X.N[j]? = some x) (hl : InBlk X scope fun Y => Loc Y.env.scope x ∧ (Y.fn x = true ∨ Y.env.scope.names.lookup x = some .local)) (hv : InBlk X scope fun Y => Vis Y.env.scope x)
    (hd : (x == ("__debug__" : Str)) = false := by decide) (hcd : (x == ("__classdict__" : Str)) = false := by decide) (hs : ∀ y, foldedSetIterable e X.env y = pure y := by intro _; rfl) :
    SE X W (.Call (.Name "len" p) [.DictComp (.Name x p1) (.Constant (.bool true) kt p2) [⟨.Name x p3, e, [], 0⟩] scope p4] [] pos) (lenSetM ma) := by
  refine ⟨fun pins s σ H Q I ⟨g, ρ, b, α, β, r, pp⟩ => Call_ (ld_blt I hg hm boot_len ?_)⟩
  have hj : j < σ.length := by rw [I.len]; exact (List.getElem?_eq_some_iff.mp hx).1
  have main : PE X (.DictComp (.Name x p1) (.Constant (.bool true) kt p2) [⟨.Name x p3, e, [], 0⟩] scope p4) (tDc (tR (Cx.z X) (lIw X.K) W (itM ma)) (gName j) tYes (tVar j) (tC (.bl true)) [j]) :=
    pe_dc (own := [(x, j)]) hc nd (si_seqW he) ok (fun s H C cl fp => pg_name nd hx (hl s H C cl fp).1 (hl s H C cl fp).2) (fun s H C cl fp => pts_nil) (fun s H C cl fp => pe_var hx (hv s H C cl fp) hd hcd) (fun s H C cl fp => pe_bl) hs
  refine PyProof.Rows.callWith_builtin1 (PyProof.Rows.args_cons (thn (main.run pins s σ H (fun y H2 => ∃ C kvs, y = .ref C ∧ H2 C = some (.dK kvs) ∧ Q (.int (kvs.length : Nat)) H2) I ?_) fun v s1 ⟨y, H1, I1, r1, C, kvs, ey, hC, q1⟩ => PyProof.Rows.args_nil ?_) rfl) rfl rfl
  · refine ⟨g, ρ, b, α, β, r, ?_⟩
    unfold lenSetM bindM at pp
    unfold itM bindM
    cases em : ma ρ b with
    | ex z b' => rw [em] at pp; exact pp
    | bad => rw [em] at pp; exact pp.elim
    | ok d b' =>
      rw [em] at pp
      simp only [Fs.R.bind, liftO] at pp ⊢
      have key : ∃ ds ns, itsD d = some ds ∧ ds = ns.map PyData.int ∧ ns.length ≤ 4000 ∧ PostR (Cx.z X) (lD X.K) W (OW g ρ α β) g β σ H Q (.ok (.int ((dedI ns).length : Nat)) b') := by
        cases ez : lenSetF d with
        | none => rw [ez] at pp; exact pp.elim
        | some z =>
          rw [ez] at pp
          unfold lenSetF at ez
          split at ez
          · obtain ⟨ns, e1, e2⟩ := Option.bind_eq_some_iff.mp ez
            split at e2
            · rename_i h4
              cases e2
              exact ⟨_, ns, rfl, intsF_eq e1, h4, pp⟩
            · cases e2
          · obtain ⟨ns, e1, e2⟩ := Option.bind_eq_some_iff.mp ez
            split at e2
            · rename_i h4
              cases e2
              exact ⟨_, ns, rfl, intsF_eq e1, h4, pp⟩
            · cases e2
          · cases ez
      obtain ⟨ds, ns, e1, rfl, h4, fin⟩ := key
      rw [e1]
      refine fun J H1 l k q => fun C hC => ⟨fun kk n H' => n = ns.length - kk ∧ kk ≤ ns.length ∧ DctS H1 C ns kk H', ⟨ns.length, rfl, Nat.zero_le _, fun a u e => by rw [upd_ne fun w => by rw [w, hC] at e; cases e]; exact e, [], upd_same, List.nodup_nil, fun q => by simp, Nat.le_refl _⟩, ?_⟩
      have r1 := r.step k q
      rintro kk n H' ⟨rfl, hkk, c⟩
      obtain ⟨hstop, hgo⟩ := l.1 H' c.kp.of0
      rw [List.length_map] at hstop
      by_cases hlt : kk < ns.length
      · obtain ⟨g1, y⟩ := hgo kk (.int ns[kk]) (by rw [List.getElem?_map, List.getElem?_eq_getElem hlt]; rfl)
        refine .inr ⟨g1, fun H' => DctS H1 C ns (kk + 1) H', fun H' h => ⟨ns.length - (kk + 1), by omega, rfl, hlt, h⟩, fun z H3 hy => ?_⟩
        obtain ⟨k0, tr⟩ := y z H3 hy
        have lz : RD X.K nobody H3 (.int ns[kk]) z := tr nobody (fun a w => w.elim) fun cc yy hcy => RD.keep (k0.of0) _ _ (RD.keep c.kp.of0 _ _ (hcy.own fun a _ _ w => w.elim))
        have ez : z = .int ns[kk] := by cases lz; rfl
        subst ez
        have c3 : DctS H1 C ns kk H3 := ⟨fun a u e => k0 a u (c.kp a u e), by
          obtain ⟨kvs, h1, h2⟩ := c.ex
          exact ⟨kvs, k0 C _ h1, h2⟩⟩
        obtain ⟨kvs, f1, f2, f3⟩ := c3.put (z := .bl true) (List.getElem?_eq_getElem hlt) hC
        refine ⟨?_, ?_⟩
        · simp [wipe]
        · simp only [tYes, if_true]
          refine ⟨.int ns[kk], by rw [List.getElem?_set_self (by rw [wipe_length]; exact hj)], kvs, .inl ns[kk], rfl, f1, ?_, f3⟩
          exact Nat.lt_of_le_of_lt f2 (Nat.lt_of_lt_of_le hlt (Nat.le_trans h4 (by rw [sizeLine_eq]; decide)))
      · have ek : kk = ns.length := by omega
        subst ek
        obtain ⟨kvs, f1, f2, f3, f4⟩ := c.ex
        refine .inl ⟨hstop, C, kvs, rfl, f1, ?_⟩
        have el : kvs.length = (dedI ns).length := by
          rw [List.take_length] at f3
          have h1 : (kvs.map (·.1)).length = ((dedI ns).map (Sum.inl : Int → Key)).length := by
            refine ((List.perm_ext_iff_of_nodup f2 ?_).mpr fun w => ?_).length_eq
            · exact List.Pairwise.map _ (fun a b hab z => hab (Sum.inl.inj z)) (dedI_nodup ns)
            · rw [f3, List.mem_map, List.mem_map]
              constructor
              · rintro ⟨m, hm, rfl⟩; exact ⟨m, dedI_mem.mpr hm, rfl⟩
              · rintro ⟨m, hm, rfl⟩; exact ⟨m, dedI_mem.mp hm, rfl⟩
          simpa using h1
        rw [el]
        exact fin _ H' (.int _) (k.trans c.kp.of0) (q.keep0 c.kp)
  · subst ey
    cases r1
    exact d_len I1 (.inl hC) fun t s' I2 => ⟨.int (kvs.length : Nat), H1, I2, ⟨t, rfl⟩, q1⟩
end
end Fs

/-! M14: while. -/
namespace Fs
open L2 PyProof.Rows PySem.Spec PySem
variable [LT]
/-- so many turns at most, else .bad -/
def whileL (mt : ME Bool) (m : MS) : Nat → MS
  | 0 => fun _ _ => .bad
  | n + 1 => fun ρ b => match mt ρ b with
    | .ok true b1 => (match m ρ b1 with
      | .nx ρ2 b2 => whileL mt m n ρ2 b2
      | .ct ρ2 b2 => whileL mt m n ρ2 b2
      | .bk ρ2 b2 => .nx ρ2 b2
      | r => r)
    | .ok false b1 => .nx ρ b1
    | .ex e b1 => .ex e ρ b1
    | .bad => .bad
section
variable {X : Cx} {W : WX} {c : Expr} {body : List Stmt} {mt : ME Bool} {m : MS} {pos : Pos}
theorem ss_while (n : Nat) (hp : PassesOwn (model X.prog X.w) X.A X.env X.xe) (hc : ST X W c mt) (hb : SB X W body m) : SS X W (.While c body [] pos) (whileL mt m n) :=
  PS.imp (ps_while hp hc hb) fun D σ H ⟨g, ρ, b, α, β, r, p⟩ => by
    refine ⟨fun k σ H => ∃ ρ b α β, RE X.K g H ρ b σ α β ∧ PostS (Cx.z X) W g D (whileL mt m k ρ b), ⟨n, ρ, b, α, β, r, p⟩, ?_⟩
    rintro k σ H ⟨ρ, b, α, β, r, p⟩
    cases k with
    | zero => exact p.elim
    | succ k =>
      refine ⟨g, ρ, b, α, β, r, ?_⟩
      unfold whileL at p
      cases e : mt ρ b with
      | bad => rw [e] at p; exact p.elim
      | ex x b1 =>
        rw [e] at p
        exact fun cls dd H1 l kk qq => p cls dd σ H1 α β (r.step kk qq) l
      | ok t b1 =>
        rw [e] at p
        refine fun t' H1 l kk qq => ?_
        have l : t = t' := l
        subst l
        have r1 := r.step kk qq
        cases t with
        | false => exact p σ H1 α β r1
        | true =>
          refine ⟨fun σ' H' => ∃ ρ b α β, RE X.K g H' ρ b σ' α β ∧ PostS (Cx.z X) W g D (whileL mt m k ρ b), fun σ' H' h => ⟨k, Nat.lt_succ_self k, h⟩, g, ρ, b1, α, β, r1, ?_⟩
          simp only at p
          cases em : m ρ b1 with
          | nx ρ2 b2 =>
            rw [em] at p
            exact fun σ2 H2 α2 β2 r2 => ⟨ρ2, b2, α2, β2, r2, p⟩
          | ct ρ2 b2 =>
            rw [em] at p
            exact fun σ2 H2 α2 β2 r2 => ⟨ρ2, b2, α2, β2, r2, p⟩
          | bk ρ2 b2 =>
            rw [em] at p
            exact fun σ2 H2 α2 β2 r2 => p σ2 H2 α2 β2 r2
          | rt d b2 => rw [em] at p; exact p
          | ex x ρ2 b2 => rw [em] at p; exact p
          | bad => rw [em] at p; exact p.elim
end
end Fs

/-! M15: list(range(a, b)), tuple(range(a, b)); xs.index(v). -/
namespace Fs
open L2 PyProof.Rows PySem.Spec PySem
variable [LT]
section
variable {X : Cx} {W : WX} {e a c : Expr} {ma mb : ME D} {pos p p2 q : Pos}
def rg2D : D → D → Option (List D)
  | .int i, .int j => if (-(2 ^ 62) ≤ i ∧ i < 2 ^ 62) ∧ (-(2 ^ 62) ≤ j ∧ j < 2 ^ 62) ∧ (j - i).toNat ≤ 16777216 then some (rngL i (j - i).toNat) else none
  | _, _ => none
theorem rgV_rds2 {K : PySem.W.Frag} {O : Own} {H : Hp} (i j : Int) : RDs K O H (rngL i (j - i).toNat) (rgV i j) := by
  have e1 : rngL i (j - i).toNat = ((List.range (j - i).toNat).map fun (n : Nat) => (i + (n : Int))).map .int := by
    rw [List.map_map]; rfl
  have e2 : rgV i j = ((List.range (j - i).toNat).map fun (n : Nat) => (i + (n : Int))).map .int := by
    rw [List.map_map]; rfl
  rw [e1, e2]
  exact RDs.of_ints _
theorem rg2_ok {i j : Int} (h : (-(2 ^ 62) ≤ i ∧ i < 2 ^ 62) ∧ (-(2 ^ 62) ≤ j ∧ j < 2 ^ 62) ∧ (j - i).toNat ≤ 16777216) : RgOk i j := ⟨h.1.1, h.1.2, h.2.1.1, h.2.1.2, h.2.2⟩
def listRng2M (ma mb : ME D) : ME D := bindM ma fun d => bindM mb fun e => liftO ((rg2D d e).map .list)
def tupleRng2M (ma mb : ME D) : ME D := bindM ma fun d => bindM mb fun e => liftO ((rg2D d e).map .tuple)
theorem rg2_some {d e : D} {xs : List D} (h : rg2D d e = some xs) : ∃ i j, d = .int i ∧ e = .int j ∧ ((-(2 ^ 62) ≤ i ∧ i < 2 ^ 62) ∧ (-(2 ^ 62) ≤ j ∧ j < 2 ^ 62) ∧ (j - i).toNat ≤ 16777216) ∧ xs = rngL i (j - i).toNat := by
  unfold rg2D at h
  split at h
  · split at h
    · rename_i hb
      cases h
      exact ⟨_, _, rfl, rfl, hb, rfl⟩
    · cases h
  · cases h
theorem se_listRng2 (hc : X.calm = true) (hg : Gl X "list") (hm : X.mg "list" = none) (hg2 : Gl X "range") (hm2 : X.mg "range" = none) (ha : SW X W a ma) (hb : SW X W c mb) (na : starEach [a, c] X.env = (false, eval a X.env) :: starEach [c] X.env := by rfl) (nb : starEach [c] X.env = (false, eval c X.env) :: starEach [] X.env := by rfl)
    (hp : (backTo q (starEach [c] X.env)).any (·.1) = false := by rfl) (nc : starEach [.Call (.Name "range" p2) [a, c] [] q] X.env = (false, eval (.Call (.Name "range" p2) [a, c] [] q) X.env) :: starEach [] X.env := by rfl) :
    SE X W (.Call (.Name "list" p) [.Call (.Name "range" p2) [a, c] [] q] [] pos) (listRng2M ma mb) :=
  PE.imp (pe_listRg hc hg hm (prg_2 hg2 hm2 ha hb na nb hp) nc) fun σ H Q h => by
    refine tR_bind2 (L := lW X.K) (L2' := lW X.K) pers_W h fun g ρ b α β d e x y H1 r l1 l2 pp => ?_
    obtain ⟨z, ez, qq⟩ := post_lift pp
    obtain ⟨xs, ex, rfl⟩ := Option.map_eq_some_iff.mp ez
    obtain ⟨i, j, rfl, rfl, hb, rfl⟩ := rg2_some ex
    exact ⟨i, j, l1.int, l2.int, rg2_ok hb, fun pn hn => qq _ _ (RD.newL r.gd hn (rgV_rds2 _ _)) (Keep.upd hn).of0 (r.box.keep0 (KeepS.upd hn))⟩
theorem se_tupleRng2 (hc : X.calm = true) (hg : Gl X "tuple") (hm : X.mg "tuple" = none) (hg2 : Gl X "range") (hm2 : X.mg "range" = none) (ha : SW X W a ma) (hb : SW X W c mb) (na : starEach [a, c] X.env = (false, eval a X.env) :: starEach [c] X.env := by rfl) (nb : starEach [c] X.env = (false, eval c X.env) :: starEach [] X.env := by rfl)
    (hp : (backTo q (starEach [c] X.env)).any (·.1) = false := by rfl) (nc : starEach [.Call (.Name "range" p2) [a, c] [] q] X.env = (false, eval (.Call (.Name "range" p2) [a, c] [] q) X.env) :: starEach [] X.env := by rfl) :
    SE X W (.Call (.Name "tuple" p) [.Call (.Name "range" p2) [a, c] [] q] [] pos) (tupleRng2M ma mb) :=
  PE.imp (pe_tupRg hc hg hm (prg_2 hg2 hm2 ha hb na nb hp) nc) fun σ H Q h => by
    refine tR_bind2 (L := lW X.K) (L2' := lW X.K) pers_W h fun g ρ b α β d e x y H1 r l1 l2 pp => ?_
    obtain ⟨z, ez, qq⟩ := post_lift pp
    obtain ⟨xs, ex, rfl⟩ := Option.map_eq_some_iff.mp ez
    obtain ⟨i, j, rfl, rfl, hb, rfl⟩ := rg2_some ex
    exact ⟨i, j, l1.int, l2.int, rg2_ok hb, fun pn hn => qq _ _ (RD.newT r.gd hn (rgV_rds2 _ _)) (Keep.upd hn).of0 (r.box.keep0 (KeepS.upd hn))⟩
/-! ### xs.index(v), xs a list -/
/-- the first equal one -/
def findD (d : D) : List D → Option Nat
  | [] => none
  | x :: xs => if PyData.eqv x d = true then some 0 else (findD d xs).map (· + 1)
theorem findD_ok {d : D} : ∀ {xs : List D} {j : Nat}, findD d xs = some j → ∃ z, xs[j]? = some z ∧ PyData.eqv z d = true ∧ ∀ (m : Nat) (z' : D), m < j → xs[m]? = some z' → PyData.eqv z' d = false
  | [], _, h => by cases h
  | x :: xs, j, h => by
    unfold findD at h
    split at h
    · rename_i hx
      cases h
      exact ⟨x, rfl, hx, fun m z' hm => absurd hm (Nat.not_lt_zero m)⟩
    · rename_i hx
      obtain ⟨k, hk, rfl⟩ := Option.map_eq_some_iff.mp h
      obtain ⟨z, h1, h2, h3⟩ := findD_ok hk
      refine ⟨z, by simpa using h1, h2, fun m z' hm e => ?_⟩
      cases m with
      | zero =>
        have e : x = z' := by simpa using e
        rw [← e]
        exact eq_false_of_ne_true hx
      | succ m => exact h3 m z' (by omega) (by simpa using e)
def indexD (d e : D) : Option D := match d with
  | .list xs => if shp d && shp e then (findD e xs).map fun (j : Nat) => .int (j : Int) else none
  | _ => none
/-- o.index(v): what o is is asked first -/
def indexM (mo mv : ME D) : ME D := bindM mo fun d => match d with
  | .list _ => bindM mv fun e => liftO (indexD d e)
  | _ => fun _ _ => .bad
theorem se_index (hu : X.A.units + 65 < cLine) (ho : SW X W a ma) (hv : SW X W e mb) (hst : starEach [e] X.env = [(false, eval e X.env)] := by rfl)
    (hbase : attributeBase a "index" X.env (eval a X.env) = eval a X.env := by rfl)
    (hfew : ((backTo p2 (starEach [e] X.env)).all (fun x => !x.1) && (backToKw p2 (keywordEach [] X.env)).all (fun x => x.1.isSome)
      && decide (([e] : List Expr).length + ([] : List Keyword).length + (if ([] : List Keyword).isEmpty then 0 else 1) < 30)) = true := by rfl)
    (hline : (p.endLine == p2.line) = true := by rfl) : SE X W (.Call (.Attribute a "index" p) [e] [] p2) (indexM ma mb) :=
  PE.imp (pe_bm (X := X) PySem.F.plainAttrs_list PySem.F.slot_list_index PySem.F.type_list_index (mt_indexD hu) ho (pa_cons hv pa_nil hst) hbase hfew hline hst rfl) fun σ H Q ⟨g, ρ, b, α, β, r, pp⟩ => by
    refine ⟨g, ρ, b, α, β, r, ?_⟩
    unfold indexM bindM at pp
    cases em : ma ρ b with
    | ex x b' => rw [em] at pp; exact pp
    | bad => rw [em] at pp; exact pp
    | ok d b1 =>
      rw [em] at pp
      simp only [R.bind] at pp
      cases d with
      | list xs =>
        simp only at pp
        refine fun x H1 l k q => ?_
        have r1 := r.step k q
        have sq : ∃ a ys, x = .ref a ∧ SqL X.K H1 a ys := by
          obtain ⟨a, vs, rfl, h1, _⟩ := l.lst
          exact ⟨a, vs, rfl, h1⟩
        obtain ⟨a1, ys, rfl, hsq⟩ := sq
        refine ⟨.inl ⟨rfl, ys, hsq⟩, ?_⟩
        show tCons _ tNil σ H1 _
        rw [tCons_eq]
        refine ⟨g, ρ, b1, α, β, r1, ?_⟩
        cases em2 : mb ρ b1 with
        | bad => rw [em2] at pp; exact pp.elim
        | ex z b2 =>
          rw [em2] at pp
          exact fun cls dd H2 l2 k2 q2 => pp cls dd H2 l2 (k.trans k2) q2
        | ok v b2 =>
          rw [em2] at pp
          simp only [R.bind, liftO] at pp
          cases ez : indexD (.list xs) v with
          | none => rw [ez] at pp; exact pp.elim
          | some z =>
            rw [ez] at pp
            unfold indexD at ez
            simp only at ez
            split at ez
            case isFalse => cases ez
            rename_i hsh
            rw [Bool.and_eq_true] at hsh
            obtain ⟨j, hj, rfl⟩ := Option.map_eq_some_iff.mp ez
            obtain ⟨w, f1, f2, f3⟩ := findD_ok hj
            intro y H2 l2 k2 q2
            have l' := pers_W (K := X.K) _ _ _ _ _ _ r1.gd.sub k2 l
            exact ⟨a1, y, v, xs, j, w, rfl, rfl, l'.dp (SeqAt.canLay_of_shaped hsh.1), l2.dp (SeqAt.canLay_of_shaped hsh.2), hsh.1, hsh.2, f1, f2, f3, pp _ H2 (.int _) (k.trans k2) q2⟩
      | _ => exact pp.elim
end
end Fs

/-! M16: dicts that are data: d[k], len(d). -/
namespace Fs
open L2 PyProof.Rows PySem.Spec PySem
variable [LT]
def keyOf : D → Option Key
  | .int i => some (.inl i)
  | .str x => some (.inr x)
  | _ => none
def keyEq (k : Key) : D → Bool
  | .int i => decide (k = .inl i)
  | .str x => decide (k = .inr x)
  | _ => false
theorem keyEq_D (k q : Key) : keyEq k (keyD q) = decide (q = k) := by
  cases q <;> simp only [keyD, keyEq] <;> exact decide_eq_decide.mpr ⟨fun h => h.symm, fun h => h.symm⟩
/-- what stands under a key -/
def dlook (k : Key) (kvs : List (D × D)) : Option D := (kvs.find? fun p => keyEq k p.1).map (·.2)
section
variable {K : PySem.W.Frag} {O : Own} {H : Hp}
theorem RDk.look {k : Key} : ∀ {kvs : List (D × D)} {kws : List (Key × V)} {d : D}, RDk K O H kvs kws → dlook k kvs = some d → ∃ v, valV kws k = some v ∧ RD K O H d v
  | [], _, _, h, e => by cases e
  | (q, c) :: kvs, _, d, h, e => by
    cases h with
    | @cons key _ v _ kws a b =>
      unfold dlook at e
      rw [List.find?_cons, keyEq_D] at e
      by_cases hk : key = k
      · rw [decide_eq_true hk] at e
        simp only [Option.map_some, Option.some.injEq] at e
        subst e
        exact ⟨v, valV_pos hk, a⟩
      · rw [decide_eq_false hk] at e
        obtain ⟨w, h1, h2⟩ := RDk.look (k := k) (d := d) b e
        refine ⟨w, ?_, h2⟩
        unfold valV at h1 ⊢
        rw [List.find?_cons, decide_eq_false hk]
        exact h1
theorem RDk.length : ∀ {kvs : List (D × D)} {kws : List (Key × V)}, RDk K O H kvs kws → kvs.length = kws.length
  | [], _, h => by cases h; rfl
  | (_, _) :: _, _, h => by
    cases h with
    | cons _ b => simp [RDk.length b]
theorem rd_key {d : D} {v : V} {k : Key} (h : RD K O H d v) (e : keyOf d = some k) : v = kV k := by
  unfold keyOf at e
  split at e <;> cases e <;> cases h <;> rfl
end
def dgetD (d e : D) : Option D := match d with
  | .dict kvs => (keyOf e).bind fun k => dlook k kvs
  | _ => none
section
variable {X : Cx} {W : WX} {a c : Expr} {ma mb : ME D} {pos : Pos}
theorem se_dget (hu : X.A.units + 1 < cLine) (ha : SW X W a ma) (hb : SW X W c mb) (hs : NoSl c := by exact fun _ _ => rfl) : SE X W (.Subscript a c pos) (opM dgetD ma mb) := PE.imp (pe_dget hu ha hb hs) fun σ H Q h => by
  refine tR_bind2 (L := lW X.K) (L2' := lW X.K) pers_W h fun g ρ b α β d e x y H1 r l1 l2 p => ?_
  obtain ⟨z, ez, q⟩ := post_lift p
  unfold dgetD at ez
  split at ez
  · rename_i kvs
    obtain ⟨k, ek, el⟩ := Option.bind_eq_some_iff.mp ez
    have l1 : RD X.K (OW g ρ α β) H1 (.dict kvs) x := l1.rd fun _ w => by cases w
    have l2' : RD X.K (OW g ρ α β) H1 e y := l2.rd fun ds w => by rw [w] at ek; cases ek
    cases l1 with
    | dct t rk =>
      obtain ⟨v, h1, h2⟩ := rk.look el
      exact ⟨_, v, rfl, .inl ⟨_, k, t.1, rd_key l2' ek, h1.symm⟩, q v H1 h2 (Keep.refl _ _) r.box⟩
  · cases ez
end
end Fs

/-! M17: {k: v for .. in .. if ..}, v no list, tuple or dict. -/
namespace Fs
open L2 PyProof.Rows PySem.Spec PySem
variable [LT]
def flatV : D → Option V
  | .none => some .non
  | .bool b => some (.bl b)
  | .int i => some (.int i)
  | .str x => some (.str x)
  | _ => none
def vF (d : D) : V := (flatV d).getD .non
theorem flat_rd {K : PySem.W.Frag} {O : Own} {H : Hp} {d : D} (h : (flatV d).isSome = true) : RD K O H d (vF d) := by
  cases d with
  | none => exact .non
  | bool b => exact .bl b
  | int i => exact .int i
  | str x => exact .str x
  | _ => cases h
theorem rd_flat {K : PySem.W.Frag} {O : Own} {H : Hp} {d : D} {w : V} (h : (flatV d).isSome = true) (l : RD K O H d w) : w = vF d := by
  cases d with
  | none => cases l; rfl
  | bool b => cases l; rfl
  | int i => cases l; rfl
  | str x => cases l; rfl
  | _ => cases h
def putD (kvs : List (Key × D)) (k : Key) (v : D) : List (Key × D) := if (kvs.any fun kv => decide (kv.1 = k)) = true then kvs.map (fun kv => if kv.1 = k then (kv.1, v) else kv) else kvs ++ [(k, v)]
theorem length_putD (kvs : List (Key × D)) (k : Key) (v : D) : (putD kvs k v).length ≤ kvs.length + 1 := by
  unfold putD
  split
  · rw [List.length_map]; omega
  · rw [List.length_append]; exact Nat.le_refl _
abbrev kf (p : Key × D) : Key × V := (p.1, vF p.2)
abbrev kd (p : Key × D) : D × D := (keyD p.1, p.2)
theorem putK_kf {acc : List (Key × D)} {k : Key} {y : D} : putK (acc.map kf) k (vF y) = (putD acc k y).map kf := by
  unfold putK putD
  have e : ((acc.map kf).any fun kv => decide (kv.1 = k)) = acc.any fun kv => decide (kv.1 = k) := by
    rw [List.any_map]
    rfl
  rw [e]
  split
  · rw [List.map_map, List.map_map]
    apply List.map_congr_left
    intro p _
    simp only [Function.comp, kf]
    split <;> rfl
  · rw [List.map_append]
    rfl
theorem putK_flat {acc : List (Key × D)} {k : Key} {y : D} (h : ∀ p ∈ acc, (flatV p.2).isSome = true) (hy : (flatV y).isSome = true) : ∀ p ∈ putD acc k y, (flatV p.2).isSome = true := fun p hp => by
  unfold putD at hp
  split at hp
  · obtain ⟨q, hq, rfl⟩ := List.mem_map.mp hp
    split
    · exact hy
    · exact h q hq
  · rcases List.mem_append.mp hp with z | z
    · exact h p z
    · rw [List.mem_singleton.mp z]; exact hy
theorem rdk_flat {K : PySem.W.Frag} {O : Own} {H : Hp} : ∀ {acc : List (Key × D)}, (∀ p ∈ acc, (flatV p.2).isSome = true) → RDk K O H (acc.map kd) (acc.map kf)
  | [], _ => .nil
  | p :: acc, h => .cons (flat_rd (h p (List.mem_cons_self ..))) (rdk_flat fun q hq => h q (List.mem_cons_of_mem _ hq))
/-- the heap without C -/
def er (H : Hp) (C : Addr) : Hp := fun a => if a = C then none else H a
theorem er_ne {H : Hp} {C a : Addr} (h : a ≠ C) : er H C a = H a := if_neg h
theorem er_at {H : Hp} {C : Addr} : er H C C = none := if_pos rfl
theorem er_up {H : Hp} {C : Addr} : KeepS (er H C) H := fun a u e => by
  by_cases h : a = C
  · rw [h, er_at] at e; cases e
  · rw [er_ne h] at e; exact e
theorem er_keep {O : Own} {H H' : Hp} {C : Addr} (k : Keep O H H') : Keep O (er H C) (er H' C) := fun a u e n => by
  by_cases h : a = C
  · rw [h, er_at] at e; cases e
  · rw [er_ne h] at e ⊢
    exact k a u e n
theorem er_upd {H : Hp} {C : Addr} {u : HO} : er (upd H C u) C = er H C := by
  funext a
  by_cases h : a = C
  · rw [h, er_at, er_at]
  · rw [er_ne h, er_ne h, upd_ne h]
theorem er_box {g : Gh} {H : Hp} {b : Bx} {β : Option Addr} {C : Addr} {kws : List (Key × V)} (q : BxR g H b β) (hC : H C = some (.dK kws)) : BxR g (er H C) b β := by
  refine ⟨?_, fun p hp => ?_⟩
  · have q1 := q.1
    cases b with
    | no => exact q1
    | fo x y z =>
      obtain ⟨a, e1, e2, e3⟩ := q1
      exact ⟨a, e1, e2, by rw [er_ne fun w => by rw [w, hC] at e3; cases e3]; exact e3⟩
    | ow x y z =>
      obtain ⟨a, e1, e2, e3, e4⟩ := q1
      exact ⟨a, e1, e2, e3, by rw [er_ne fun w => by rw [w, hC] at e4; cases e4]; exact e4⟩
  · obtain ⟨ps, h1, h2, h3⟩ := q.2 p hp
    refine ⟨ps, by rw [er_ne fun w => by rw [w, hC] at h1; cases h1]; exact h1, h2, fun pos cv hc => ?_⟩
    obtain ⟨c0, e1, e2⟩ := h3 pos cv hc
    exact ⟨c0, e1, by rw [er_ne fun w => by rw [w, hC] at e2; unfold LamX.CodeO at e2; cases e2]; exact e2⟩
def dcL (tf : TF) (mt : ME Bool) (mk mv : ME D) (ρ0 : En) : List D → List (Key × D) → Bx → Option (List (Key × D) × Bx)
  | [], acc, b => some (acc, b)
  | d :: ds, acc, b => match tf d ρ0 with
    | none => none
    | some ρ1 => match mt ρ1 b with
      | .ok true b1 => (match mk ρ1 b1 with
        | .ok q b2 => (match keyOf q with
          | some k => (match mv ρ1 b2 with
            | .ok y b3 => if (flatV y).isSome = true then dcL tf mt mk mv ρ0 ds (putD acc k y) b3 else none
            | _ => none)
          | none => none)
        | _ => none)
      | .ok false b1 => dcL tf mt mk mv ρ0 ds acc b1
      | _ => none
def dcM (mi : ME (List D)) (vs : List Nat) (tf : TF) (mt : ME Bool) (mk mv : ME D) : ME D := bindM mi fun ds ρ b => if noOwn ρ vs = true then (match dcL tf mt mk mv (wipeE ρ vs) ds [] b with
  | some (kvs, b') => .ok (.dict (kvs.map kd)) b'
  | none => .bad) else .bad
section
variable {X : Cx} {W : WX} {mi : ME (List D)} {vs ts : List Nat} {tf : TF} {mt : ME Bool} {mk mv : ME D} {σ : L2.St} {H : Hp} {Q : VK}
structure DcS (X : Cx) (g : Gh) (ρ : En) (σ : L2.St) (α : Nat → Addr) (β : Option Addr) (H1 : Hp) (C : Addr) (kk : Nat) (b : Bx) (acc : List (Key × D)) (H' : Hp) : Prop where
  re : RE X.K g (er H' C) ρ b σ α β
  kp : Keep (Bs β) H1 H'
  at_ : H' C = some (.dK (acc.map kf))
  fl : ∀ p ∈ acc, (flatV p.2).isSome = true
  le : acc.length ≤ kk
theorem dc_read (hs : ∀ i ∈ ts, i ∈ vs) (h : tR (Cx.z X) (lD X.K) W (dcM mi vs tf mt mk mv) σ H Q) : tDc (tR (Cx.z X) (lIw X.K) W mi) (tGt (Cx.z X) ts tf) (tR (Cx.z X) lB wNo mt) (tR (Cx.z X) (lD X.K) wNo mk) (tR (Cx.z X) (lD X.K) wNo mv) vs σ H Q := by
  obtain ⟨g, ρ, b, α, β, r, p⟩ := h
  refine ⟨g, ρ, b, α, β, r, ?_⟩
  unfold dcM bindM at p
  cases e : mi ρ b with
  | ex x b' => rw [e] at p; exact p
  | bad => rw [e] at p; exact p
  | ok ds b1 =>
    rw [e] at p
    simp only [Fs.R.bind] at p
    refine fun J H1 l k q => ?_
    have r1 := r.step k q
    by_cases hn : noOwn ρ vs = true
    case neg =>
      rw [if_neg hn] at p
      exact p.elim
    rw [if_pos hn] at p
    refine fun C hC => ?_
    have nC : ¬ Bs β C := fun z => by
      obtain ⟨xs, w⟩ := r1.ownL C (.inr (.inl z))
      obtain ⟨o, w⟩ := rd_some w
      rw [hC] at w; cases w
    generalize hF : (fun (kvs : List (Key × PyData)) (b3 : Bx) => PostR (Cx.z X) (lD X.K) W (OW g ρ α β) g β σ H Q (.ok (.dict (kvs.map kd)) b3)) = Fin
    have fin0 : match dcL tf mt mk mv (wipeE ρ vs) ds [] b1 with | some (kvs, b3) => Fin kvs b3 | none => False := by
      rw [← hF]
      cases ec : dcL tf mt mk mv (wipeE ρ vs) ds [] b1 with
      | none => rw [ec] at p; exact p
      | some t => rw [ec] at p; exact p
    refine ⟨fun kk n H' => n = ds.length - kk ∧ kk ≤ ds.length ∧ ∃ b acc, DcS X g ρ σ α β H1 C kk b acc H' ∧ match dcL tf mt mk mv (wipeE ρ vs) (ds.drop kk) acc b with | some (kvs, b3) => Fin kvs b3 | none => False, ⟨ds.length, rfl, Nat.zero_le _, b1, [], ⟨?_, (Keep.upd hC).of0, upd_same, (fun p hp => by cases hp), Nat.le_refl _⟩, by rw [List.drop_zero]; exact fin0⟩, ?_⟩
    · have hH : er (upd H1 C (.dK ([] : List (Key × V)))) C = er H1 C := er_upd
      rw [hH]
      have he : er H1 C = H1 := by
        funext a
        by_cases w : a = C
        · rw [w, er_at, hC]
        · exact er_ne w
      rw [he]
      exact r1
    · rintro kk n H' ⟨rfl, hkk, b2, acc, c, fin⟩
      obtain ⟨hstop, hgo⟩ := l.1 H' c.kp
      by_cases hlt : kk < ds.length
      · obtain ⟨g1, y⟩ := hgo kk ds[kk] (List.getElem?_eq_getElem hlt)
        refine .inr ⟨g1, fun H' => ∃ b acc, DcS X g ρ σ α β H1 C (kk + 1) b acc H' ∧ match dcL tf mt mk mv (wipeE ρ vs) (ds.drop (kk + 1)) acc b with | some (kvs, b3) => Fin kvs b3 | none => False, fun H' h => ⟨ds.length - (kk + 1), by omega, rfl, hlt, h⟩, fun x H3 hy => ?_⟩
        obtain ⟨k0, tr⟩ := y x H3 hy
        have r' : RE X.K g H' ρ b2 σ α β := c.re.step er_up.of0 (c.re.box.keep0 er_up)
        have r3 : RE X.K g H3 ρ b2 σ α β := r'.step k0.of0 (r'.box.keep0 k0)
        rw [List.drop_eq_getElem_cons hlt] at fin
        unfold dcL at fin
        cases et : tf ds[kk] (wipeE ρ vs) with
        | none => rw [et] at fin; exact fin.elim
        | some ρ1 =>
          rw [et] at fin
          simp only at fin
          have ow := ow_wipe (g := g) (α := α) (β := β) hn
          have bso : ∀ a, Bs β a → OW g ρ α β a := fun a z => .inr (.inl z)
          have lx : RD X.K (OW g (wipeE ρ vs) α β) H3 ds[kk] x := tr _ (fun a z => by
              obtain ⟨xs, q⟩ := r'.ownL a ((ow a).mpr z)
              exact rd_some q) fun cc yy hc => by
            have h1 : RD X.K (OW g ρ α β) H' cc yy := RD.keep (c.kp.mono bso) _ _ hc
            have h2 : RD X.K (OW g ρ α β) H3 cc yy := RD.keep k0.of0 _ _ h1
            exact h2.own fun a u _ z => (ow a).mpr z
          refine ⟨g, wipeE ρ vs, b2, α, β, ds[kk], ρ1, r3.wipe hn, lx, et, fun σ2 r2 sub s1 s2 => ⟨wipe_idem hs s1, ?_⟩⟩
          refine ⟨g, ρ1, b2, α, β, r2, ?_⟩
          cases em : mt ρ1 b2 with
          | ex x b' => rw [em] at fin; exact fin.elim
          | bad => rw [em] at fin; exact fin.elim
          | ok t b3 =>
            rw [em] at fin
            refine fun t' H4 lt k4 q4 => ?_
            have lt : t = t' := lt
            subst lt
            have r4 := r2.step k4 q4
            have at4 : H4 C = some (.dK (acc.map kf)) := (k4 C _ (k0 C _ c.at_) nC).at fun _ z => by cases z
            have k34 : Keep (Bs β) H' H4 := k0.of0.trans k4
            have e4 : RE X.K g (er H4 C) ρ b3 σ α β := c.re.step (er_keep k34) (er_box q4 at4)
            cases t with
            | false =>
              simp only at fin
              exact ⟨b3, acc, ⟨e4, c.kp.trans k34, at4, c.fl, Nat.le_succ_of_le c.le⟩, fin⟩
            | true =>
              simp only at fin
              show tR (Cx.z X) (lD X.K) wNo mk σ2 H4 _
              refine ⟨g, ρ1, b3, α, β, r4, ?_⟩
              cases en : mk ρ1 b3 with
              | ex x b' => rw [en] at fin; exact fin.elim
              | bad => rw [en] at fin; exact fin.elim
              | ok kq b4 =>
                rw [en] at fin
                simp only at fin
                cases ek : keyOf kq with
                | none => rw [ek] at fin; exact fin.elim
                | some key =>
                  rw [ek] at fin
                  simp only at fin
                  refine fun vk H5 l5 k5 q5 => ?_
                  have r5 := r4.step k5 q5
                  refine ⟨g, ρ1, b4, α, β, r5, ?_⟩
                  cases ev : mv ρ1 b4 with
                  | ex x b' => rw [ev] at fin; exact fin.elim
                  | bad => rw [ev] at fin; exact fin.elim
                  | ok yv b5 =>
                    rw [ev] at fin
                    simp only at fin
                    by_cases hfl : (flatV yv).isSome = true
                    case neg => rw [if_neg hfl] at fin; exact fin.elim
                    rw [if_pos hfl] at fin
                    refine fun z H6 l6 k6 q6 => ?_
                    have at5 : H5 C = some (.dK (acc.map kf)) := (k5 C _ at4 nC).at fun _ z => by cases z
                    have at6 : H6 C = some (.dK (acc.map kf)) := (k6 C _ at5 nC).at fun _ z => by cases z
                    have k36 : Keep (Bs β) H' H6 := k34.trans (k5.trans k6)
                    have e6 : RE X.K g (er H6 C) ρ b5 σ α β := c.re.step (er_keep k36) (er_box q6 at6)
                    have ez : z = vF yv := rd_flat hfl l6
                    subst ez
                    have hle := c.le
                    refine ⟨acc.map kf, key, rd_key l5 ek, at6, by rw [List.length_map]; have := l.2; omega, b5, putD acc key yv, ⟨by rw [er_upd]; exact e6, fun a u ea na => ?_, by rw [upd_same, putK_kf], putK_flat c.fl hfl, ?_⟩, fin⟩
                    · rw [upd_ne fun w => by rw [w, hC] at ea; cases ea]
                      exact (c.kp.trans k36) a u ea na
                    · have := length_putD acc key yv
                      omega
      · have ek : kk = ds.length := by omega
        subst ek
        refine .inl ⟨hstop, ?_⟩
        rw [List.drop_length] at fin
        unfold dcL at fin
        have fin : Fin acc b2 := fin
        rw [← hF] at fin
        have nOW : ¬ OW g ρ α β C := fun z => by
          obtain ⟨xs, w⟩ := c.re.ownL C z
          obtain ⟨o, w⟩ := rd_some w
          rw [er_at] at w; cases w
        exact fin (.ref C) H' (.dct ⟨.inl c.at_, nOW⟩ (rdk_flat c.fl)) (k.trans c.kp) (c.re.box.keep0 er_up)
variable {tg iter kx vx : Expr} {ifs : List Expr} {scope : Scope} {own : List (Str × Nat)} {pos : Pos}
theorem se_dc (hc : X.calm = true) (hN : X.N.Nodup) (hi : SIw X W tg iter mi) (ok : BlkOk X.N X.env.scope scope own) (hg : InBlk X scope fun Y => SG Y tg ts tf) (ht : InBlk X scope fun Y => PTs Y ifs (tR (Cx.z Y) lB wNo mt)) (hk : InBlk X scope fun Y => SE Y wNo kx mk) (he : InBlk X scope fun Y => SE Y wNo vx mv)
    (hv : ∀ i ∈ ts, i ∈ own.map (·.2)) (hs : ∀ x, foldedSetIterable iter X.env x = pure x := by intro _; rfl) : SE X W (.DictComp kx vx [⟨tg, iter, ifs, 0⟩] scope pos) (dcM mi (own.map (·.2)) tf mt mk mv) :=
  PE.imp (pe_dc (g := tGt (Cx.z X) ts tf) (tt := tR (Cx.z X) lB wNo mt) (tk := tR (Cx.z X) (lD X.K) wNo mk) (tv := tR (Cx.z X) (lD X.K) wNo mv) hc hN hi ok (fun s H C cl fp => hg s H C cl fp) (fun s H C cl fp => ht s H C cl fp) (fun s H C cl fp => hk s H C cl fp) (fun s H C cl fp => he s H C cl fp) hs) fun σ H Q h => dc_read hv h
end
theorem u01 {k : Nat} {A : Around} (h : Room k A) : A.units + 1 < cLine := by
  have := h.un
  omega
end Fs

/-! M18: a call without arguments; is, is not of truth values. -/
namespace Fs
open L2 PyProof.Rows PySem.Spec PySem
variable [LT]
section
variable {X : Cx} {W : WX} {pos p : Pos} {x : Str} {f : Addr} {fd : FuncData} {ps : List Str} {fm : FN} {k : Nat}
theorem se_call0 (F : FnOk X.prog X.w X.K X.mg X.base (L2.CX X.prog X.w) k f fd ps (spF (Cx.z X) ps.length fm)) (hr : Room k X.A) (hg : Gl X x) (hm : X.mg x = some (.ref f)) (hk : PySem.W.keepIn X.K (.ref f) = true) (hb : Binds X.K fd ps []) (tk : Takes X W) (hdb : (x == ("__debug__" : Str)) = false := by decide) :
    SE X W (.Call (.Name x p) [] [] pos) (callM ps.length fm nilM) := by
  have base : PE X (.Call (.Name x p) [] [] pos) (tCallS (spF (Cx.z X) ps.length fm) (WE W) tNil) := by
    refine ⟨fun pins s σ H Q I h => ?_⟩
    refine wpAny_Call_Name_kw (ld_glob I hg hm ?_ hdb)
    exact PySem.W.callWith_K0 I.kIn hk (run_fnS (us := []) F hr hb (passAt tk σ) I .nil h)
  exact PE.imp base fun σ H Q h => by
    have z : tCallS (spF (Cx.z X) ps.length fm) (WE W) (tR (Cx.z X) (lDs X.K) W nilM) σ H Q := call_read h
    obtain ⟨g, ρ, b, α, β, r, q⟩ := z
    exact q [] H .nil (Keep.refl _ _) r.box
end
section
variable {X : Cx}
def isBD (neg : Bool) (d e : D) : Option D := match d, e with
  | .bool a, .bool b => some (.bool (if neg then !decide (a = b) else decide (a = b)))
  | _, _ => none
theorem o_isB : OpR X (compareOp .Is) (rD X.K (isBD false)) := by
  intro pins s σ H x y v u Q I rx ry ⟨O, B, d, e, z, G, l1, l2, ez, q⟩
  unfold isBD at ez
  split at ez
  · cases ez
    rw [l1.bl] at rx
    rw [l2.bl] at ry
    exact op_is_bl pins s σ H _ _ v u Q I rx ry ⟨_, _, rfl, rfl, q _ H (.bl _) (KeepS.refl _)⟩
  · cases ez
theorem o_isntB : OpR X (compareOp .IsNot) (rD X.K (isBD true)) := by
  intro pins s σ H x y v u Q I rx ry ⟨O, B, d, e, z, G, l1, l2, ez, q⟩
  unfold isBD at ez
  split at ez
  · cases ez
    rw [l1.bl] at rx
    rw [l2.bl] at ry
    exact op_isnot_bl pins s σ H _ _ v u Q I rx ry ⟨_, _, rfl, rfl, q _ H (.bl _) (KeepS.refl _)⟩
  · cases ez
end
end Fs

namespace Fs
open He PySem.W L2 PyProof.Rows PySem.Spec PySem
def eb : Str := "FoldError"
def exs : List Str := ["InvalidTable", "InvalidSize", "InvalidKind"]
def m_is_integer : MS := retM (andV (isiM "int" (varM 0)) (notV (isiM "bool" (varM 0))))
def fm_is_integer : FN := fnM 1 m_is_integer

def m_is_number : MS := retM (andV (callM 1 fm_is_integer (consM (varM 0) nilM)) (opM geD (varM 0) (cM (.int 0))))
def fm_is_number : FN := fnM 1 m_is_number

def m_is_below : MS := retM (andV (callM 1 fm_is_number (consM (varM 0) nilM)) (opM ltD (varM 0) (varM 1)))
def fm_is_below : FN := fnM 2 m_is_below

def m_is_string : MS := retM (isiM "str" (varM 0))
def fm_is_string : FN := fnM 1 m_is_string

def m_power_of : MS := seqM (setM 2 (cM (.int 1)))
  (seqM (forM (rng1M (varM 1)) (nameT 3) (augM 2 mulI (varM 0)))
  (retM (varM 2)))
def fm_power_of : FN := fnM 4 m_power_of

def m_row_number : MS := seqM (setM 2 (cM (.int 0)))
  (seqM (forM (itM (varM 1)) (nameT 3) (setM 2 (opM addD (opM mulD (varM 2) (varM 0)) (varM 3))))
  (retM (varM 2)))
def fm_row_number : FN := fnM 4 m_row_number

def m_all_rows : MS := seqM (setM 2 (lstM (consM (tupM nilM) nilM)))
  (seqM (forM (rng1M (varM 1)) (nameT 3) (setM 2 (lsM (comp2M (itM (varM 2)) [4, 5] [4] [5] (nameT 4) (bM true) (rng1M (varM 0)) (nameT 5) (bM true) (opM addD (varM 4) (tupM (consM (varM 5) nilM)))))))
  (retM (varM 2)))
def fm_all_rows : FN := fnM 6 m_all_rows

def m_answer_at : MS := retM (opM atD (opM atD (varM 1) (cM (.int 1))) (callM 2 fm_row_number (consM (varM 0) (consM (varM 2) nilM))))
def fm_answer_at : FN := fnM 3 m_answer_at

def m_counts_at : MS := seqM (setM 4 (lsM (compM (rng1M (varM 0)) [5] (nameT 5) (bM true) (callM 3 fm_answer_at (consM (varM 0) (consM (varM 1) (consM (opM addD (opM addD (slM (varM 3) noM (soM (varM 2))) (tupM (consM (varM 5) nilM))) (slM (varM 3) (soM (opM addD (varM 2) (cM (.int 1)))) noM)) nilM)))))))
  (retM (cbM anyF (consM (lsM (compM (itM (varM 4)) [6] (nameT 6) (bM true) (opM neD (varM 6) (opM atD (varM 4) (cM (.int 0)))))) nilM)))
def fm_counts_at : FN := fnM 7 m_counts_at

def m_hung_found : MS := seqM (setM 2 (callM 2 fm_all_rows (consM (varM 0) (consM (opM atD (varM 1) (cM (.int 0))) nilM))))
  (retM (cbM tupleF (consM (lsM (compM (rng1M (opM atD (varM 1) (cM (.int 0)))) [3] (nameT 3) (tstM (cbM anyF (consM (lsM (compM (itM (varM 2)) [4] (nameT 4) (bM true) (callM 4 fm_counts_at (consM (varM 0) (consM (varM 1) (consM (varM 3) (consM (varM 4) nilM))))))) nilM))) (varM 3))) nilM)))
def fm_hung_found : FN := fnM 5 m_hung_found

def m_need_kind : MS := seqM (ifM (orM (notM (tstM (callM 1 fm_is_string (consM (varM 0) nilM)))) (tstM (opM (memD true) (varM 0) (cM (.tuple [.str "wires", .str "nots", .str "ands", .str "ors", .str "rising", .str "sums", .str "all"]))))) (raise0M "InvalidKind") skipM)
  (retM (varM 0))
def fm_need_kind : FN := fnM 1 m_need_kind

def m_need_answers : MS := seqM (setM 1 (lsM (compM (rng2M (cM (.int 1)) (opM addD (cM (.int 4)) (cM (.int 1)))) [2] (nameT 2) (bM true) (callM 2 fm_power_of (consM (cM (.int 2)) (consM (varM 2) nilM))))))
  (seqM (ifM (orM (notM (tstM (isiM "tuple" (varM 0)))) (orM (tstM (opM (memD true) (cbM lenF (consM (varM 0) nilM)) (varM 1))) (notM (tstM (cbM allF (consM (lsM (compM (itM (varM 0)) [3] (nameT 3) (bM true) (callM 2 fm_is_below (consM (varM 3) (consM (cM (.int 2)) nilM))))) nilM)))))) (raise1M "InvalidTable" "at" (negM (cM (.int 1)))) skipM)
  (retM (varM 0)))
def fm_need_answers : FN := fnM 4 m_need_answers

def m_as_operation : MS := seqM (setM 1 (cM (.int 0)))
  (seqM (whileL (tstM (opM ltD (callM 2 fm_power_of (consM (cM (.int 2)) (consM (varM 1) nilM))) (cbM lenF (consM (varM 0) nilM)))) (augM 1 addI (cM (.int 1))) 4096)
  (retM (tupM (consM (varM 1) (consM (varM 0) nilM)))))
def fm_as_operation : FN := fnM 2 m_as_operation

def m_way_of : MS := seqM (ownM 2 (limM nilM))
  (seqM (forM (itM (callM 2 fm_all_rows (consM (cM (.int 2)) (consM (opM atD (varM 0) (cM (.int 0))) nilM)))) (nameT 3) (ifM (tstM (opM eqD (opM atD (varM 3) (varM 1)) (cM (.int 0)))) (seqM (setM 4 (opM addD (opM addD (slM (varM 3) noM (soM (varM 1))) (tupM (consM (cM (.int 1)) nilM))) (slM (varM 3) (soM (opM addD (varM 1) (cM (.int 1)))) noM)))
  (appM 2 (opM subD (callM 3 fm_answer_at (consM (cM (.int 2)) (consM (varM 0) (consM (varM 4) nilM)))) (callM 3 fm_answer_at (consM (cM (.int 2)) (consM (varM 0) (consM (varM 3) nilM))))))) skipM))
  (seqM (ifM (tstM (opM (memD false) (cM (.int 1)) (varB 2))) (retM (iteM (tstM (opM (memD false) (negM (cM (.int 1))) (varB 2))) (cM (.str "both")) (cM (.str "rises")))) skipM)
  (retM (iteM (tstM (opM (memD false) (negM (cM (.int 1))) (varB 2))) (cM (.str "falls")) (cM (.str "level"))))))
def fm_way_of : FN := fnM 5 m_way_of

def m_is_kind : MS := seqM (setM 2 (callM 2 fm_hung_found (consM (cM (.int 2)) (consM (varM 1) nilM))))
  (seqM (setM 3 (lsM (compM (itM (varM 2)) [4] (nameT 4) (bM true) (callM 2 fm_way_of (consM (varM 1) (consM (varM 4) nilM))))))
  (seqM (ifM (orM (tstM (opM eqD (varM 0) (cM (.str "all")))) (tstM (opM eqD (cbM lenF (consM (varM 2) nilM)) (cM (.int 0))))) (retM (cM (.bool true))) skipM)
  (seqM (ifM (tstM (opM (memD false) (varM 0) (tupM (consM (cM (.str "wires")) (consM (cM (.str "nots")) nilM))))) (retM (andV (opM eqD (cbM lenF (consM (varM 2) nilM)) (cM (.int 1))) (orV (opM eqD (varM 0) (cM (.str "nots"))) (opM eqD (opM atD (varM 3) (cM (.int 0))) (cM (.str "rises")))))) skipM)
  (seqM (ifM (tstM (opM eqD (varM 0) (cM (.str "rising")))) (retM (cbM allF (consM (lsM (compM (itM (varM 3)) [5] (nameT 5) (bM true) (opM eqD (varM 5) (cM (.str "rises"))))) nilM))) skipM)
  (seqM (forM (itM (callM 2 fm_all_rows (consM (cM (.int 2)) (consM (opM atD (varM 1) (cM (.int 0))) nilM)))) (nameT 6) (seqM (setM 7 (lsM (compM (itM (varM 2)) [4] (nameT 4) (bM true) (opM atD (varM 6) (varM 4)))))
  (seqM (setM 8 (opM atD badM (varM 0)))
  (ifM (tstM (opM neD (callM 3 fm_answer_at (consM (cM (.int 2)) (consM (varM 1) (consM (varM 6) nilM)))) (varM 8))) (retM (cM (.bool false))) skipM))))
  (retM (cM (.bool true))))))))
def fm_is_kind : FN := fnM 9 m_is_kind

def m_has_kind : MS := seqM (setM 0 (callM 1 fm_need_kind (consM (varM 0) nilM)))
  (retM (callM 2 fm_is_kind (consM (varM 0) (consM (callM 1 fm_as_operation (consM (callM 1 fm_need_answers (consM (varM 1) nilM)) nilM)) nilM))))
def fm_has_kind : FN := fnM 2 m_has_kind

def m_need_two_many : MS := seqM (ifM (orM (notM (tstM (callM 1 fm_is_number (consM (varM 0) nilM)))) (notM (tstM (chainM leD leD (cM (.int 1)) (varM 0) (cM (.int 4)))))) (raise1M "InvalidSize" "word" (cM (.str "many"))) skipM)
  (retM (varM 0))
def fm_need_two_many : FN := fnM 1 m_need_two_many

def m_rising_marks : MS := seqM (parM [1, 2] [some (lstM (consM (cM (.int 0)) (consM (cM (.int 1)) nilM))), some (cM (.int 1))])
  (seqM (forM (rng1M (varM 0)) (nameT 3) (seqM (setM 4 (lsM (comp2M (itM (varM 1)) [5, 6] [5] [6] (nameT 5) (bM true) (itM (varM 1)) (nameT 6) (tstM (opM eqD (opM bandD (varM 5) (varM 6)) (varM 5))) (tupM (consM (varM 5) (consM (varM 6) nilM))))))
  (seqM (setM 1 (cbM sortedF (consM (lsM (compM (itM (varM 4)) [5, 6] (tupT 2 (consT (nameT 5) (consT (nameT 6) nilT))) (bM true) (opM addD (varM 5) (opM mulD (varM 6) (callM 2 fm_power_of (consM (cM (.int 2)) (consM (varM 2) nilM))))))) nilM)))
  (augM 2 mulI (cM (.int 2))))))
  (retM (varM 1)))
def fm_rising_marks : FN := fnM 7 m_rising_marks

def m_rising_many : MS := seqM (ifM (tstM (opM ltD (varM 0) (cM (.int 2)))) (retM (opM addD (cM (.int 2)) (varM 0))) skipM)
  (seqM (setM 1 (callM 1 fm_rising_marks (consM (opM subD (varM 0) (cM (.int 2))) nilM)))
  (seqM (setM 2 (dcM (itM (varM 1)) [3] (nameT 3) (bM true) (varM 3) (cbM lenF (consM (lsM (compM (itM (varM 1)) [4] (nameT 4) (tstM (opM eqD (opM bandD (varM 3) (varM 4)) (varM 4))) (varM 4))) nilM))))
  (seqM (setM 5 (dcM (itM (varM 1)) [3] (nameT 3) (bM true) (varM 3) (cbM lenF (consM (lsM (compM (itM (varM 1)) [4] (nameT 4) (tstM (opM eqD (opM bandD (varM 3) (varM 4)) (varM 3))) (varM 4))) nilM))))
  (retM (cbM sumF (consM (lsM (comp2M (itM (varM 1)) [3, 4] [3] [4] (nameT 3) (bM true) (itM (varM 1)) (nameT 4) (bM true) (opM mulD (opM dgetD (varM 2) (opM bandD (varM 3) (varM 4))) (opM dgetD (varM 5) (opM borD (varM 3) (varM 4)))))) nilM))))))
def fm_rising_many : FN := fnM 6 m_rising_many

def m_kind_count : MS := seqM (setM 0 (callM 1 fm_need_kind (consM (varM 0) nilM)))
  (seqM (ifM (orM (notM (tstM (callM 1 fm_is_number (consM (varM 1) nilM)))) (notM (tstM (chainM leD leD (cM (.int 1)) (varM 1) (cM (.int 6)))))) (raise1M "InvalidSize" "word" (cM (.str "places"))) skipM)
  (seqM (ifM (tstM (opM (memD false) (varM 0) (tupM (consM (cM (.str "wires")) (consM (cM (.str "nots")) nilM))))) (retM (iteM (tstM (opM eqD (varM 0) (cM (.str "wires")))) (opM addD (cM (.int 2)) (varM 1)) (opM addD (cM (.int 2)) (opM mulD (cM (.int 2)) (varM 1))))) skipM)
  (seqM (ifM (tstM (opM (memD false) (varM 0) (tupM (consM (cM (.str "ands")) (consM (cM (.str "ors")) nilM))))) (retM (opM addD (callM 2 fm_power_of (consM (cM (.int 2)) (consM (varM 1) nilM))) (cM (.int 1)))) skipM)
  (seqM (ifM (tstM (opM eqD (varM 0) (cM (.str "rising")))) (retM (callM 1 fm_rising_many (consM (varM 1) nilM))) skipM)
  (retM (iteM (tstM (opM eqD (varM 0) (cM (.str "sums")))) (callM 2 fm_power_of (consM (cM (.int 2)) (consM (opM addD (varM 1) (cM (.int 1))) nilM))) (callM 2 fm_power_of (consM (cM (.int 2)) (consM (callM 2 fm_power_of (consM (cM (.int 2)) (consM (varM 1) nilM))) nilM)))))))))
def fm_kind_count : FN := fnM 2 m_kind_count

def m_rising_answers : MS := seqM (setM 0 (callM 1 fm_need_two_many (consM (varM 0) nilM)))
  (seqM (parM [1, 2] [some (callM 2 fm_power_of (consM (cM (.int 2)) (consM (varM 0) nilM))), none])
  (seqM (forM (itM (callM 1 fm_rising_marks (consM (varM 0) nilM))) (nameT 3) (seqM (parM [5, 6] [none, some (varM 3)])
  (seqM (forM (rng1M (varM 1)) (nameT 4) (seqM (appM 5 (opM modD (varM 6) (cM (.int 2))))
  (augM 6 fdivI (cM (.int 2)))))
  (appM 2 (cbM tupleF (consM (varB 5) nilM))))))
  (retM (cbM tupleF (consM (cbM sortedF (consM (varB 2) nilM)) nilM)))))
def fm_rising_answers : FN := fnM 7 m_rising_answers

def m__law_box : MN := seqN (setM 2 (opM addD (opM mulD (cM (.int 43777)) (varM 1)) (cM (.int 3336))))
  (seqN (ifM (tstM (opM ltD (varM 1) (cbM lenF (consM (varM 0) nilM)))) (setM 2 (cbM absF (consM (opM atD (varM 0) (varM 1)) nilM))) (ifM (tstM (opM gtD (cbM lenF (consM (varM 0) nilM)) (cM (.int 0)))) (setM 2 (opM addD (varM 2) (opM mulD (opM modD (cbM intF (consM (cbM absF (consM (opM atD (varM 0) (opM modD (cbM intF (consM (varM 1) nilM)) (cbM lenF (consM (varM 0) nilM)))) nilM)) nilM)) (cM (.int 2147483629))) (cM (.int 67103))))) skipM))
  (retNewM (consM (opM atD (lstM (consM (cM (.int 0)) (consM (varM 2) nilM))) (cbM intF (consM (opM geD (varM 2) (opM powD (cM (.int 10)) (cM (.int 18)))) nilM))) (consM (opM addD (opM modD (cbM intF (consM (opM addD (opM mulD (opM modD (cbM intF (consM (varM 2) nilM)) (cM (.int 2147483629))) (cM (.int 48271))) (opM mulD (cM (.int 50131)) (varM 1))) nilM)) (cM (.int 2147483629))) (cM (.int 1))) (consM (cM (.int 0)) nilM)))))
def fm__law_box : FL := fnNM 3 m__law_box

def m__law_take : MS := seqM (ifM (tstM (opM gtD (boxAtM 0 0) (cM (.int 0)))) (seqM (setM 2 (opM modD (cbM intF (consM (boxAtM 0 0) nilM)) (varM 1)))
  (seqM (boxPutM 0 0 (opM fdivD (boxAtM 0 0) (varM 1)))
  (retM (varM 2)))) skipM)
  (seqM (boxPutM 0 2 (opM addD (boxAtM 0 2) (cM (.int 1))))
  (seqM (setM 3 (opM modD (cbM intF (consM (opM addD (opM mulD (opM addD (boxAtM 0 1) (opM mulD (cM (.int 101909)) (boxAtM 0 2))) (cM (.int 67819))) (cM (.int 41))) nilM)) (cM (.int 2147483563))))
  (seqM (boxPutM 0 1 (opM addD (opM modD (cbM intF (consM (opM addD (opM mulD (varM 3) (cM (.int 39373))) (cM (.int 27901))) nilM)) (cM (.int 2147483629))) (cM (.int 1))))
  (retM (opM modD (cbM intF (consM (opM fdivD (opM addD (opM mulD (varM 3) (cM (.int 2147483647))) (boxAtM 0 1)) (cM (.int 8191))) nilM)) (varM 1))))))
def fm__law_take : FB := fnBM 4 m__law_take

def m__law_pick : MS := retM (opM atD (varM 1) (callX 0 1 fm__law_take (consM (cbM lenF (consM (varM 1) nilM)) nilM)))
def fm__law_pick : FB := fnBM 2 m__law_pick

def km__law_refusal (act : ME D) : MS := seqM (tryM (dropM act) [⟨(kcD eb exs "InvalidKind"), fun _ => retM (tupM (consM (cM (.str "kind")) (consM (cM (.int 0)) nilM)))⟩, ⟨(kcD eb exs "InvalidSize"), hvR "InvalidSize" "word" (.str "size") 1 retV⟩, ⟨(kcD eb exs "FoldError"), fun _ => retM (tupM (consM (cM (.str "other")) (consM (cM (.int 0)) nilM)))⟩]) (retM (tupM (consM (cM (.str "none")) (consM (cM (.int 0)) nilM))))

def m__law_rows : MS := seqM (setM 1 (lstM (consM (tupM nilM) nilM)))
  (seqM (forM (rng1M (varM 0)) (nameT 2) (seqM (ownM 3 (limM nilM))
  (seqM (forM (itM (varM 1)) (nameT 4) (extM 3 (limM (consM (opM addD (varM 4) (tupM (consM (cM (.int 0)) nilM))) (consM (opM addD (varM 4) (tupM (consM (cM (.int 1)) nilM))) nilM)))))
  (seqM (frzM 3) (setM 1 (varM 3))))))
  (retM (varM 1)))
def fm__law_rows : FN := fnM 5 m__law_rows

def m__law_is_below : MS := retM (opM eqD (lsM (compM (enM (varM 0)) [2, 3] (tupT 2 (consT (nameT 2) (consT (nameT 3) nilT))) (tstM (opM gtD (varM 3) (opM atD (varM 1) (varM 2)))) (varM 2))) (lstM nilM))
def fm__law_is_below : FN := fnM 4 m__law_is_below

def m__law_rising : MS := seqM (setM 1 (lstM (consM (tupM (consM (cM (.int 0)) nilM)) (consM (tupM (consM (cM (.int 1)) nilM)) nilM))))
  (seqM (forM (rng1M (varM 0)) (nameT 2) (seqM (ownM 3 (limM nilM))
  (seqM (forM (itM (varM 1)) (nameT 4) (extM 3 (compM (itM (varM 1)) [5] (nameT 5) (tstM (callM 2 fm__law_is_below (consM (varM 4) (consM (varM 5) nilM)))) (opM addD (varM 4) (varM 5)))))
  (seqM (frzM 3) (setM 1 (varM 3))))))
  (retM (cbM sortedF (consM (varM 1) nilM))))
def fm__law_rising : FN := fnM 6 m__law_rising

def m__law_mark : MS := seqM (setM 1 (cM (.int 0)))
  (seqM (forM (itM (varM 0)) (nameT 2) (setM 1 (opM addD (opM mulD (cM (.int 2)) (varM 1)) (varM 2))))
  (retM (varM 1)))
def fm__law_mark : FN := fnM 3 m__law_mark

def m__law_five : MS := seqM (setM 0 (lsM (compM (itM (callM 1 fm__law_rising (consM (cM (.int 4)) nilM))) [1] (nameT 1) (bM true) (callM 1 fm__law_mark (consM (varM 1) nilM)))))
  (seqM (setM 2 (cM (.int 0)))
  (seqM (forM (itM (varM 0)) (nameT 3) (setM 2 (opM addD (varM 2) (cbM lenF (consM (lsM (compM (itM (varM 0)) [4] (nameT 4) (tstM (opM eqD (opM bandD (varM 3) (varM 4)) (varM 3))) (varM 4))) nilM)))))
  (retM (varM 2))))
def fm__law_five : FN := fnM 5 m__law_five

def m__law_listed : MS := seqM (setM 2 (callM 1 fm__law_rows (consM (varM 1) nilM)))
  (seqM (ownM 3 (limM (consM (cM (.int 0)) (consM (callM 1 fm__law_mark (consM (lsM (compM (itM (varM 2)) [4] (nameT 4) (bM true) (cM (.int 1)))) nilM)) nilM))))
  (seqM (forM (itM (slM (varM 2) (soM (cM (.int 1))) noM)) (nameT 5) (seqM (setM 6 (lsM (compM (itM (varM 2)) [4] (nameT 4) (bM true) (lsM (compM (zipM (varM 4) (varM 5)) [7, 8] (tupT 2 (consT (nameT 7) (consT (nameT 8) nilT))) (tstM (opM eqD (varM 8) (cM (.int 1)))) (varM 7))))))
  (seqM (ifM (andM (tstM (opM (memD false) (varM 0) (tupM (consM (cM (.str "wires")) (consM (cM (.str "nots")) nilM))))) (tstM (opM eqD (cbM sumF (consM (varM 5) nilM)) (cM (.int 1))))) (seqM (appM 3 (callM 1 fm__law_mark (consM (lsM (compM (itM (varM 6)) [9] (nameT 9) (bM true) (opM atD (varM 9) (cM (.int 0))))) nilM)))
  (ifM (tstM (opM eqD (varM 0) (cM (.str "nots")))) (appM 3 (callM 1 fm__law_mark (consM (lsM (compM (itM (varM 6)) [9] (nameT 9) (bM true) (opM subD (cM (.int 1)) (opM atD (varM 9) (cM (.int 0)))))) nilM))) skipM)) skipM)
  (seqM (ifM (tstM (opM eqD (varM 0) (cM (.str "ands")))) (appM 3 (callM 1 fm__law_mark (consM (lsM (compM (itM (varM 6)) [9] (nameT 9) (bM true) (cbM minF (consM (varM 9) nilM)))) nilM))) skipM)
  (seqM (ifM (tstM (opM eqD (varM 0) (cM (.str "ors")))) (appM 3 (callM 1 fm__law_mark (consM (lsM (compM (itM (varM 6)) [9] (nameT 9) (bM true) (cbM maxF (consM (varM 9) nilM)))) nilM))) skipM)
  (ifM (tstM (opM eqD (varM 0) (cM (.str "sums")))) (seqM (appM 3 (callM 1 fm__law_mark (consM (lsM (compM (itM (varM 6)) [9] (nameT 9) (bM true) (opM modD (cbM intF (consM (cbM sumF (consM (varM 9) nilM)) nilM)) (cM (.int 2))))) nilM)))
  (appM 3 (callM 1 fm__law_mark (consM (lsM (compM (itM (varM 6)) [9] (nameT 9) (bM true) (opM modD (cbM intF (consM (opM addD (cbM sumF (consM (varM 9) nilM)) (cM (.int 1))) nilM)) (cM (.int 2))))) nilM)))) skipM))))))
  (retM (lenSetM (varB 3)))))
def fm__law_listed : FN := fnM 10 m__law_listed

def m__law_due : MS := seqM (ifM (tstM (opM eqD (varM 0) (cM (.str "all")))) (seqM (parM [3, 4] [some (cbM lenF (consM (callM 1 fm__law_rows (consM (varM 1) nilM)) nilM)), some (cM (.int 1))])
  (seqM (forM (rng1M (varM 3)) (nameT 2) (setM 4 (opM mulD (cM (.int 2)) (varM 4))))
  (retM (varM 4)))) skipM)
  (seqM (ifM (tstM (opM eqD (varM 0) (cM (.str "rising")))) (retM (iteM (tstM (opM eqD (varM 1) (cM (.int 5)))) (callM 0 fm__law_five nilM) (cbM lenF (consM (callM 1 fm__law_rising (consM (varM 1) nilM)) nilM)))) skipM)
  (retM (callM 2 fm__law_listed (consM (varM 0) (consM (varM 1) nilM)))))
def fm__law_due : FN := fnM 5 m__law_due

def m_law : MS := seqM (ifM (orM (tstM (opM neD (callK 0 2 [0, 1] 2 fm_kind_count nilM (consM (cM (.str "rising")) (consM (cM (.int 2)) nilM))) (cM (.int 6)))) (orM (tstM (opM neD (callM 2 fm_kind_count (consM (cM (.str "ors")) (consM (cM (.int 2)) nilM))) (cM (.int 5)))) (tstM (opM neD (callK 0 1 [0] 1 fm_rising_answers nilM (consM (cM (.int 1)) nilM)) (tupM (consM (tupM (consM (cM (.int 0)) (consM (cM (.int 0)) nilM))) (consM (tupM (consM (cM (.int 0)) (consM (cM (.int 1)) nilM))) (consM (tupM (consM (cM (.int 1)) (consM (cM (.int 1)) nilM))) nilM)))))))) (retM (cM (.bool false))) skipM)
  (seqM (forM (rng1M (cM (.int 3))) (nameT 1) (seqM (boxNewM 2 2 fm__law_box (consM (varM 0) (consM (varM 1) nilM)))
  (seqM (setM 3 (callX 2 1 fm__law_pick (consM (lstM (consM (cM (.str "wires")) (consM (cM (.str "nots")) (consM (cM (.str "ands")) (consM (cM (.str "ors")) (consM (cM (.str "rising")) (consM (cM (.str "sums")) (consM (cM (.str "all")) nilM)))))))) nilM)))
  (seqM (setM 4 (opM addD (cM (.int 1)) (callX 2 1 fm__law_take (consM (iteM (tstM (opM eqD (varM 3) (cM (.str "rising")))) (cM (.int 5)) (cM (.int 6))) nilM))))
  (seqM (ifM (andM (tstM (opM eqD (varM 3) (cM (.str "rising")))) (andM (tstM (opM eqD (varM 4) (cM (.int 5)))) (tstM (opM gtD (varM 1) (cM (.int 0)))))) (setM 4 (cM (.int 4))) skipM)
  (seqM (setM 5 (callK 0 2 [0, 1] 2 fm_kind_count nilM (consM (varM 3) (consM (varM 4) nilM))))
  (seqM (ifM (orM (tstM (opM neD (varM 5) (callM 2 fm__law_due (consM (varM 3) (consM (varM 4) nilM))))) (orM (notM (tstM (isiM "int" (varM 5)))) (tstM (isiM "bool" (varM 5))))) (retM (cM (.bool false))) skipM)
  (seqM (setM 6 (opM addD (cM (.int 1)) (callX 2 1 fm__law_take (consM (cM (.int 4)) nilM))))
  (seqM (setM 7 (callM 1 fm_rising_answers (consM (varM 6) nilM)))
  (seqM (ifM (orM (notM (tstM (isiM "tuple" (varM 7)))) (orM (tstM (opM neD (cbM listF (consM (varM 7) nilM)) (callM 1 fm__law_rising (consM (varM 6) nilM)))) (tstM (opM neD (cbM lenF (consM (varM 7) nilM)) (callM 2 fm_kind_count (consM (cM (.str "rising")) (consM (varM 6) nilM))))))) (retM (cM (.bool false))) skipM)
  (seqM (ifM (tstM (opM (isBD true) (callM 2 fm_has_kind (consM (cM (.str "rising")) (consM (callX 2 1 fm__law_pick (consM (varM 7) nilM)) nilM))) (cM (.bool true)))) (retM (cM (.bool false))) skipM)
  (seqM (ifM (tstM (opM neD (lamM 2 km__law_refusal (callM 2 fm_kind_count (consM (callX 2 1 fm__law_pick (consM (lstM (consM (cM .none) (consM (cM (.str "wire")) (consM (cM (.int 3)) (consM (cM (.str "")) (consM (tupM (consM (cM (.str "ands")) nilM)) nilM)))))) nilM)) (consM (cM (.int 0)) nilM)))) (tupM (consM (cM (.str "kind")) (consM (cM (.int 0)) nilM))))) (retM (cM (.bool false))) skipM)
  (seqM (ifM (tstM (opM neD (lamM 2 km__law_refusal (callM 2 fm_kind_count (consM (varM 3) (consM (callX 2 1 fm__law_pick (consM (lstM (consM (cM (.int 0)) (consM (cM (.int 7)) (consM (cM (.bool true)) (consM (cM .none) (consM (cM (.str "1")) (consM (opM subD (cM (.int 0)) (cM (.int 1))) nilM))))))) nilM)) nilM)))) (tupM (consM (cM (.str "size")) (consM (cM (.str "places")) nilM))))) (retM (cM (.bool false))) skipM)
  (ifM (tstM (opM neD (lamM 2 km__law_refusal (callM 1 fm_rising_answers (consM (callX 2 1 fm__law_pick (consM (lstM (consM (cM (.int 0)) (consM (cM (.int 5)) (consM (cM (.bool true)) (consM (cM .none) (consM (cM (.str "1")) nilM)))))) nilM)) nilM))) (tupM (consM (cM (.str "size")) (consM (cM (.str "many")) nilM))))) (retM (cM (.bool false))) skipM))))))))))))))
  (retM (cM (.bool true))))
def fm_law : FN := fnM 8 m_law
end Fs

namespace Fs
open He PySem.W L2 PyProof.Rows PySem.Spec PySem
abbrev prg : Program := PySem.Challenge.pw_foldsall_k40_whole_how_many_answers_are
def top (i : Nat) : Stmt := prg.main.body.getD i (.Pass ⟨0, 0, 0, 0⟩)
abbrev s_is_integer : Stmt := top 6
abbrev s_is_number : Stmt := top 7
abbrev s_is_below : Stmt := top 8
abbrev s_is_string : Stmt := top 9
abbrev s_power_of : Stmt := top 10
abbrev s_row_number : Stmt := top 12
abbrev s_all_rows : Stmt := top 13
abbrev s_answer_at : Stmt := top 14
abbrev s_counts_at : Stmt := top 15
abbrev s_hung_found : Stmt := top 16
abbrev s_need_kind : Stmt := top 20
abbrev s_need_answers : Stmt := top 21
abbrev s_as_operation : Stmt := top 22
abbrev s_way_of : Stmt := top 23
abbrev s_is_kind : Stmt := top 24
abbrev s_has_kind : Stmt := top 25
abbrev s_need_two_many : Stmt := top 29
abbrev s_rising_marks : Stmt := top 30
abbrev s_rising_many : Stmt := top 31
abbrev s_kind_count : Stmt := top 32
abbrev s_rising_answers : Stmt := top 33
abbrev s__law_box : Stmt := top 35
abbrev s__law_take : Stmt := top 36
abbrev s__law_pick : Stmt := top 37
abbrev s__law_refusal : Stmt := top 38
abbrev s__law_rows : Stmt := top 39
abbrev s__law_is_below : Stmt := top 41
abbrev s__law_rising : Stmt := top 40
abbrev s__law_mark : Stmt := top 43
abbrev s__law_five : Stmt := top 42
abbrev s__law_listed : Stmt := top 44
abbrev s__law_due : Stmt := top 45
abbrev s_law : Stmt := top 46
def inSt (i : Nat) : Stmt := match top i with
  | .ClassDef _ _ _ (b :: _) _ _ _ _ _ _ _ => b
  | _ => .Pass ⟨0, 0, 0, 0⟩
def hd : Hd := ⟨[.glo "is_integer", .glo "is_number", .glo "is_below", .glo "is_string", .glo "power_of", .glo "row_number", .glo "all_rows", .glo "answer_at", .glo "counts_at", .glo "hung_found", .glo "need_kind", .glo "need_answers", .glo "as_operation", .glo "way_of", .glo "is_kind", .glo "has_kind", .glo "need_two_many", .glo "rising_marks", .glo "rising_many", .glo "kind_count", .glo "rising_answers", .glo "_law_box", .glo "_law_take", .glo "_law_pick", .glo "_law_refusal", .glo "_law_rows", .glo "_law_is_below", .glo "_law_rising", .glo "_law_mark", .glo "_law_five"] ++ [.glo "_law_listed", .glo "_law_due", .glo "law", .free "len", .free "abs", .free "int", .free "tuple", .free "list", .free "range", .free "isinstance", .free "enumerate", .free "zip", .free "sorted", .free "set", .free "min", .free "max", .free "sum", .free "any", .free "all", .free "str", .free "bool", .int "MOST_ANSWER_PLACES" 4, .int "MOST_INPUTS" 4, .int "MOST_COUNTED" 6], [mkD "is_integer" s_is_integer, mkD "is_number" s_is_number, mkD "is_below" s_is_below, mkD "is_string" s_is_string, mkD "power_of" s_power_of, mkD "row_number" s_row_number, mkD "all_rows" s_all_rows, mkD "answer_at" s_answer_at, mkD "counts_at" s_counts_at, mkD "hung_found" s_hung_found, mkD "need_kind" s_need_kind, mkD "need_answers" s_need_answers, mkD "as_operation" s_as_operation, mkD "way_of" s_way_of, mkD "is_kind" s_is_kind, mkD "has_kind" s_has_kind, mkD "need_two_many" s_need_two_many, mkD "rising_marks" s_rising_marks, mkD "rising_many" s_rising_many, mkD "kind_count" s_kind_count, mkD "rising_answers" s_rising_answers, mkD "_law_box" s__law_box, mkD "_law_take" s__law_take, mkD "_law_pick" s__law_pick, mkD "_law_refusal" s__law_refusal, mkD "_law_rows" s__law_rows, mkD "_law_is_below" s__law_is_below, mkD "_law_rising" s__law_rising, mkD "_law_mark" s__law_mark, mkD "_law_five" s__law_five] ++ [mkD "_law_listed" s__law_listed, mkD "_law_due" s__law_due, mkD "law" s_law], [⟨"InvalidTable", "InvalidTable.__init__", inSt 2, some "at"⟩, ⟨"InvalidSize", "InvalidSize.__init__", inSt 3, some "word"⟩, ⟨"InvalidKind", "InvalidKind.__init__", inSt 4, none⟩], eb, prg.main.file, ["law"], [("KINDS", .tuple [.str "wires", .str "nots", .str "ands", .str "ors", .str "rising", .str "sums", .str "all"])]⟩
instance : LT := ⟨hd.tabs⟩
abbrev Bs0 (base : Heap) (mg : Str → Option Value) (K : Frag) : Prop := ∀ y ∈ hd.tf, LamX.TabB base mg (cT K (y, none)).1 (cT K (y, none)).2
structure Mo (P : Program) (K : Frag) (mg : Str → Option Value) : Prop where
  c_law : (fdAt K (ga K "law")).code = .ref (cT K ("law", none)).1
  o_law : ∀ p ∈ hd.tabs K, p.1 = (cT K ("law", none)).2 → p.2 = "law" ++ ".<locals>." ++ "<lambda>"
  d_is_integer : DefF K mg "is_integer" s_is_integer
  d_is_number : DefF K mg "is_number" s_is_number
  d_is_below : DefF K mg "is_below" s_is_below
  d_is_string : DefF K mg "is_string" s_is_string
  d_power_of : DefF K mg "power_of" s_power_of
  d_row_number : DefF K mg "row_number" s_row_number
  d_all_rows : DefF K mg "all_rows" s_all_rows
  d_answer_at : DefF K mg "answer_at" s_answer_at
  d_counts_at : DefF K mg "counts_at" s_counts_at
  d_hung_found : DefF K mg "hung_found" s_hung_found
  d_need_kind : DefF K mg "need_kind" s_need_kind
  d_need_answers : DefF K mg "need_answers" s_need_answers
  d_as_operation : DefF K mg "as_operation" s_as_operation
  d_way_of : DefF K mg "way_of" s_way_of
  d_is_kind : DefF K mg "is_kind" s_is_kind
  d_has_kind : DefF K mg "has_kind" s_has_kind
  d_need_two_many : DefF K mg "need_two_many" s_need_two_many
  d_rising_marks : DefF K mg "rising_marks" s_rising_marks
  d_rising_many : DefF K mg "rising_many" s_rising_many
  d_kind_count : DefF K mg "kind_count" s_kind_count
  d_rising_answers : DefF K mg "rising_answers" s_rising_answers
  d__law_box : DefF K mg "_law_box" s__law_box
  d__law_take : DefF K mg "_law_take" s__law_take
  d__law_pick : DefF K mg "_law_pick" s__law_pick
  d__law_refusal : DefF K mg "_law_refusal" s__law_refusal
  d__law_rows : DefF K mg "_law_rows" s__law_rows
  d__law_is_below : DefF K mg "_law_is_below" s__law_is_below
  d__law_rising : DefF K mg "_law_rising" s__law_rising
  d__law_mark : DefF K mg "_law_mark" s__law_mark
  d__law_five : DefF K mg "_law_five" s__law_five
  d__law_listed : DefF K mg "_law_listed" s__law_listed
  d__law_due : DefF K mg "_law_due" s__law_due
  d_law : DefF K mg "law" s_law
  f_len : mg "len" = none
  f_abs : mg "abs" = none
  f_int : mg "int" = none
  f_tuple : mg "tuple" = none
  f_list : mg "list" = none
  f_range : mg "range" = none
  f_isinstance : mg "isinstance" = none
  f_enumerate : mg "enumerate" = none
  f_zip : mg "zip" = none
  f_sorted : mg "sorted" = none
  f_set : mg "set" = none
  f_min : mg "min" = none
  f_max : mg "max" = none
  f_sum : mg "sum" = none
  f_any : mg "any" = none
  f_all : mg "all" = none
  f_str : mg "str" = none
  f_bool : mg "bool" = none
  k_KINDS : ∃ u, mg "KINDS" = some u ∧ DatOk K (.tuple [.str "wires", .str "nots", .str "ands", .str "ors", .str "rising", .str "sums", .str "all"]) u
  i_MOST_ANSWER_PLACES : ∃ t, mg "MOST_ANSWER_PLACES" = some (.int 4 t)
  i_MOST_INPUTS : ∃ t, mg "MOST_INPUTS" = some (.int 4 t)
  i_MOST_COUNTED : ∃ t, mg "MOST_COUNTED" = some (.int 6 t)
  e_InvalidTable : Er1 K mg P "InvalidTable" "at" (ga K "InvalidTable") (ma K (ga K "InvalidTable") "__init__")
  e_InvalidSize : Er1 K mg P "InvalidSize" "word" (ga K "InvalidSize") (ma K (ga K "InvalidSize") "__init__")
  e_InvalidKind : Er0 K mg P "InvalidKind" (ga K "InvalidKind") (ma K (ga K "InvalidKind") "__init__")
  gb : mg "FoldError" = some (.ref (ga K "FoldError"))
  kc : ∀ {y : Str}, y ∈ eb :: exs → ∀ (x : Str) (b : Bool) (C : Addr), kcD eb exs y x = some b → mg x = some (.ref C) → exmOne K (.ref C) (.ref (ga K y)) = some b
theorem mo_of {K : Frag} {h : Heap} {mg : Str → Option Value} (X : K.In h) (G : h.Ns mainGlobals mg) (c : hd.says K) (tb : hd.Tb h K) : Mo prg K mg := { 
    d_is_integer := c.def_ X G 0 0 rfl rfl,
    d_is_number := c.def_ X G 1 1 rfl rfl,
    d_is_below := c.def_ X G 2 2 rfl rfl,
    d_is_string := c.def_ X G 3 3 rfl rfl,
    d_power_of := c.def_ X G 4 4 rfl rfl,
    d_row_number := c.def_ X G 5 5 rfl rfl,
    d_all_rows := c.def_ X G 6 6 rfl rfl,
    d_answer_at := c.def_ X G 7 7 rfl rfl,
    d_counts_at := c.def_ X G 8 8 rfl rfl,
    d_hung_found := c.def_ X G 9 9 rfl rfl,
    d_need_kind := c.def_ X G 10 10 rfl rfl,
    d_need_answers := c.def_ X G 11 11 rfl rfl,
    d_as_operation := c.def_ X G 12 12 rfl rfl,
    d_way_of := c.def_ X G 13 13 rfl rfl,
    d_is_kind := c.def_ X G 14 14 rfl rfl,
    d_has_kind := c.def_ X G 15 15 rfl rfl,
    d_need_two_many := c.def_ X G 16 16 rfl rfl,
    d_rising_marks := c.def_ X G 17 17 rfl rfl,
    d_rising_many := c.def_ X G 18 18 rfl rfl,
    d_kind_count := c.def_ X G 19 19 rfl rfl,
    d_rising_answers := c.def_ X G 20 20 rfl rfl,
    d__law_box := c.def_ X G 21 21 rfl rfl,
    d__law_take := c.def_ X G 22 22 rfl rfl,
    d__law_pick := c.def_ X G 23 23 rfl rfl,
    d__law_refusal := c.def_ X G 24 24 rfl rfl,
    d__law_rows := c.def_ X G 25 25 rfl rfl,
    d__law_is_below := c.def_ X G 26 26 rfl rfl,
    d__law_rising := c.def_ X G 27 27 rfl rfl,
    d__law_mark := c.def_ X G 28 28 rfl rfl,
    d__law_five := c.def_ X G 29 29 rfl rfl,
    d__law_listed := c.def_ X G 30 30 rfl rfl,
    d__law_due := c.def_ X G 31 31 rfl rfl,
    d_law := c.def_ X G 32 32 rfl rfl,
    f_len := c.fr X G 33 rfl,
    f_abs := c.fr X G 34 rfl,
    f_int := c.fr X G 35 rfl,
    f_tuple := c.fr X G 36 rfl,
    f_list := c.fr X G 37 rfl,
    f_range := c.fr X G 38 rfl,
    f_isinstance := c.fr X G 39 rfl,
    f_enumerate := c.fr X G 40 rfl,
    f_zip := c.fr X G 41 rfl,
    f_sorted := c.fr X G 42 rfl,
    f_set := c.fr X G 43 rfl,
    f_min := c.fr X G 44 rfl,
    f_max := c.fr X G 45 rfl,
    f_sum := c.fr X G 46 rfl,
    f_any := c.fr X G 47 rfl,
    f_all := c.fr X G 48 rfl,
    f_str := c.fr X G 49 rfl,
    f_bool := c.fr X G 50 rfl,
    i_MOST_ANSWER_PLACES := int_ok X G (c.d.fact 51 rfl),
    i_MOST_INPUTS := int_ok X G (c.d.fact 52 rfl),
    i_MOST_COUNTED := int_ok X G (c.d.fact 53 rfl),
    k_KINDS := c.dat X G 0 rfl,
    e_InvalidTable := c.er1 X G 0 rfl rfl ⟨_, _, _, _, _, _, _, _, _, _, _, _, _, rfl, rfl, rfl, rfl⟩ rfl fld_at rfl,
    e_InvalidSize := c.er1 X G 1 rfl rfl ⟨_, _, _, _, _, _, _, _, _, _, _, _, _, rfl, rfl, rfl, rfl⟩ rfl fld_word rfl,
    e_InvalidKind := c.er0 X G 2 rfl rfl ⟨_, _, _, _, _, _, _, _, rfl, rfl, rfl, rfl⟩ rfl,
    c_law := tb.code (c.def_ X G 32 32 rfl rfl) (by decide),
    o_law := tb.one (by decide),
    gb := c.gba X G,
    kc := fun hy => c.kc X G hy }
theorem sc_is_integer : FnScope ["value"] ["value"] (defScope s_is_integer) := ⟨rfl, rfl, rfl, by decide +kernel, rfl, by decide +kernel, by decide +kernel⟩
theorem sc_is_number : FnScope ["value"] ["value"] (defScope s_is_number) := ⟨rfl, rfl, rfl, by decide +kernel, rfl, by decide +kernel, by decide +kernel⟩
theorem sc_is_below : FnScope ["value", "many"] ["value", "many"] (defScope s_is_below) := ⟨rfl, rfl, rfl, by decide +kernel, rfl, by decide +kernel, by decide +kernel⟩
theorem sc_is_string : FnScope ["value"] ["value"] (defScope s_is_string) := ⟨rfl, rfl, rfl, by decide +kernel, rfl, by decide +kernel, by decide +kernel⟩
theorem sc_power_of : FnScope ["base", "many", "found", "turn"] ["base", "many"] (defScope s_power_of) := ⟨rfl, rfl, rfl, by decide +kernel, rfl, by decide +kernel, by decide +kernel⟩
theorem sc_row_number : FnScope ["size", "row", "number", "value"] ["size", "row"] (defScope s_row_number) := ⟨rfl, rfl, rfl, by decide +kernel, rfl, by decide +kernel, by decide +kernel⟩
theorem sc_all_rows : FnScope ["size", "many", "rows", "turn", "row", "value"] ["size", "many"] (defScope s_all_rows) := ⟨rfl, rfl, rfl, by decide +kernel, rfl, by decide +kernel, by decide +kernel⟩
theorem sc_answer_at : FnScope ["size", "operation", "row"] ["size", "operation", "row"] (defScope s_answer_at) := ⟨rfl, rfl, rfl, by decide +kernel, rfl, by decide +kernel, by decide +kernel⟩
theorem sc_counts_at : FnScope ["size", "operation", "place", "row", "ends", "value", "end"] ["size", "operation", "place", "row"] (defScope s_counts_at) := ⟨rfl, rfl, rfl, by decide +kernel, rfl, by decide +kernel, by decide +kernel⟩
theorem sc_hung_found : FnScope ["size", "operation", "rows", "at", "row"] ["size", "operation"] (defScope s_hung_found) := ⟨rfl, rfl, rfl, by decide +kernel, rfl, by decide +kernel, by decide +kernel⟩
theorem sc_need_kind : FnScope ["value"] ["value"] (defScope s_need_kind) := ⟨rfl, rfl, rfl, by decide +kernel, rfl, by decide +kernel, by decide +kernel⟩
theorem sc_need_answers : FnScope ["value", "sizes", "many", "one"] ["value"] (defScope s_need_answers) := ⟨rfl, rfl, rfl, by decide +kernel, rfl, by decide +kernel, by decide +kernel⟩
theorem sc_as_operation : FnScope ["answers", "many"] ["answers"] (defScope s_as_operation) := ⟨rfl, rfl, rfl, by decide +kernel, rfl, by decide +kernel, by decide +kernel⟩
theorem sc_way_of : FnScope ["operation", "place", "ways", "row", "later"] ["operation", "place"] (defScope s_way_of) := ⟨rfl, rfl, rfl, by decide +kernel, rfl, by decide +kernel, by decide +kernel⟩
theorem sc_is_kind : FnScope ["kind", "operation", "places", "ways", "place", "way", "row", "told", "due"] ["kind", "operation"] (defScope s_is_kind) := ⟨rfl, rfl, rfl, by decide +kernel, rfl, by decide +kernel, by decide +kernel⟩
theorem sc_has_kind : FnScope ["kind", "answers"] ["kind", "answers"] (defScope s_has_kind) := ⟨rfl, rfl, rfl, by decide +kernel, rfl, by decide +kernel, by decide +kernel⟩
theorem sc_need_two_many : FnScope ["value"] ["value"] (defScope s_need_two_many) := ⟨rfl, rfl, rfl, by decide +kernel, rfl, by decide +kernel, by decide +kernel⟩
theorem sc_rising_marks : FnScope ["many", "found", "width", "turn", "pairs", "low", "high"] ["many"] (defScope s_rising_marks) := ⟨rfl, rfl, rfl, by decide +kernel, rfl, by decide +kernel, by decide +kernel⟩
theorem sc_rising_many : FnScope ["places", "found", "below", "one", "other", "above"] ["places"] (defScope s_rising_many) := ⟨rfl, rfl, rfl, by decide +kernel, rfl, by decide +kernel, by decide +kernel⟩
theorem sc_kind_count : FnScope ["kind", "places"] ["kind", "places"] (defScope s_kind_count) := ⟨rfl, rfl, rfl, by decide +kernel, rfl, by decide +kernel, by decide +kernel⟩
theorem sc_rising_answers : FnScope ["many", "wide", "found", "mark", "turn", "answers", "left"] ["many"] (defScope s_rising_answers) := ⟨rfl, rfl, rfl, by decide +kernel, rfl, by decide +kernel, by decide +kernel⟩
theorem sc__law_box : FnScope ["_law_script", "_law_k", "_law_cell"] ["_law_script", "_law_k"] (defScope s__law_box) := ⟨rfl, rfl, rfl, by decide +kernel, rfl, by decide +kernel, by decide +kernel⟩
theorem sc__law_take : FnScope ["_law_box_here", "_law_many", "_law_digit", "_law_raw"] ["_law_box_here", "_law_many"] (defScope s__law_take) := ⟨rfl, rfl, rfl, by decide +kernel, rfl, by decide +kernel, by decide +kernel⟩
theorem sc__law_pick : FnScope ["_law_box_here", "_law_some"] ["_law_box_here", "_law_some"] (defScope s__law_pick) := ⟨rfl, rfl, rfl, by decide +kernel, rfl, by decide +kernel, by decide +kernel⟩
theorem sc__law_refusal : FnScope ["_law_work", "e"] ["_law_work"] (defScope s__law_refusal) := ⟨rfl, rfl, rfl, by decide +kernel, rfl, by decide +kernel, by decide +kernel⟩
theorem sc__law_rows : FnScope ["_law_many", "_law_rows_here", "_law_turn", "_law_later", "_law_row"] ["_law_many"] (defScope s__law_rows) := ⟨rfl, rfl, rfl, by decide +kernel, rfl, by decide +kernel, by decide +kernel⟩
theorem sc__law_is_below : FnScope ["_law_low", "_law_high", "_law_at", "_law_value"] ["_law_low", "_law_high"] (defScope s__law_is_below) := ⟨rfl, rfl, rfl, by decide +kernel, rfl, by decide +kernel, by decide +kernel⟩
theorem sc__law_rising : FnScope ["_law_many", "_law_found", "_law_turn", "_law_later", "_law_low", "_law_high"] ["_law_many"] (defScope s__law_rising) := ⟨rfl, rfl, rfl, by decide +kernel, rfl, by decide +kernel, by decide +kernel⟩
theorem sc__law_mark : FnScope ["_law_answers", "_law_mark_here", "_law_value"] ["_law_answers"] (defScope s__law_mark) := ⟨rfl, rfl, rfl, by decide +kernel, rfl, by decide +kernel, by decide +kernel⟩
theorem sc__law_five : FnScope ["_law_marks", "_law_answers", "_law_total", "_law_low", "_law_high"] [] (defScope s__law_five) := ⟨rfl, rfl, rfl, by decide +kernel, rfl, by decide +kernel, by decide +kernel⟩
theorem sc__law_listed : FnScope ["_law_kind", "_law_many", "_law_rows_here", "_law_found", "_law_row", "_law_lot", "_law_parts", "_law_value", "_law_is_in", "_law_part"] ["_law_kind", "_law_many"] (defScope s__law_listed) := ⟨rfl, rfl, rfl, by decide +kernel, rfl, by decide +kernel, by decide +kernel⟩
theorem sc__law_due : FnScope ["_law_kind", "_law_many", "_law_turn", "_law_many_rows", "_law_due_here"] ["_law_kind", "_law_many"] (defScope s__law_due) := ⟨rfl, rfl, rfl, by decide +kernel, rfl, by decide +kernel, by decide +kernel⟩
theorem sc_law : FnScope ["_law_script", "_law_k", "_law_box_here", "_law_kind", "_law_places", "_law_told", "_law_many", "_law_rising_here"] ["_law_script"] (defScope s_law) := ⟨rfl, rfl, rfl, by decide +kernel, rfl, by decide +kernel, by decide +kernel⟩
section
variable {P : Program} {w : World} {K : Frag} {mg : Str → Option Value} {base : Heap}
theorem b_is_integer (M : Mo P K mg) : Binds K (fdAt K (ga K "is_integer")) ["value"] [] := M.d_is_integer.f.binds fun _ _ _ _ _ _ us hl => match us, hl with | [_], _ => rfl
theorem ok_is_integer (M : Mo P K mg) (B : Bs0 base mg K) : FnOk P w K mg base (L2.CX P w) 1 (ga K "is_integer") (fdAt K (ga K "is_integer")) ["value"] (spF ⟨K, mg⟩ (["value"] : List Str).length fm_is_integer) := fn_sim (M.d_is_integer.f) sc_is_integer fun A outer s H E hr => by
  exact sb_one (ss_ret (se_and (SE.w (se_isi rfl M.f_isinstance rfl M.f_int bt_int (SE.w (se_var (i := 0) rfl (Or.inl rfl))))) (se_one (se_not (SE.w (se_isi rfl M.f_isinstance rfl M.f_bool bt_bool (SE.w (se_var (i := 0) rfl (Or.inl rfl)))))))))

theorem b_is_number (M : Mo P K mg) : Binds K (fdAt K (ga K "is_number")) ["value"] [] := M.d_is_number.f.binds fun _ _ _ _ _ _ us hl => match us, hl with | [_], _ => rfl
theorem ok_is_number (M : Mo P K mg) (B : Bs0 base mg K) : FnOk P w K mg base (L2.CX P w) 2 (ga K "is_number") (fdAt K (ga K "is_number")) ["value"] (spF ⟨K, mg⟩ (["value"] : List Str).length fm_is_number) := fn_sim (M.d_is_number.f) sc_is_number fun A outer s H E hr => by
  exact sb_one (ss_ret (se_and (SE.w (se_call (ok_is_integer M B) (hr.mono (by decide)) rfl M.d_is_integer.g M.d_is_integer.f.kp (b_is_integer M) (takes_of rfl rfl rfl rfl) (sa_cons (se_var (i := 0) rfl (Or.inl rfl)) sa_nil))) (se_one (se_cmp o_ge (SE.w (se_var (i := 0) rfl (Or.inl rfl))) (SE.w se_int) (nomark _)))))

theorem b_is_below (M : Mo P K mg) : Binds K (fdAt K (ga K "is_below")) ["value", "many"] [] := M.d_is_below.f.binds fun _ _ _ _ _ _ us hl => match us, hl with | [_, _], _ => rfl
theorem ok_is_below (M : Mo P K mg) (B : Bs0 base mg K) : FnOk P w K mg base (L2.CX P w) 3 (ga K "is_below") (fdAt K (ga K "is_below")) ["value", "many"] (spF ⟨K, mg⟩ (["value", "many"] : List Str).length fm_is_below) := fn_sim (M.d_is_below.f) sc_is_below fun A outer s H E hr => by
  exact sb_one (ss_ret (se_and (SE.w (se_call (ok_is_number M B) (hr.mono (by decide)) rfl M.d_is_number.g M.d_is_number.f.kp (b_is_number M) (takes_of rfl rfl rfl rfl) (sa_cons (se_var (i := 0) rfl (Or.inl rfl)) sa_nil))) (se_one (se_cmp o_lt (SE.w (se_var (i := 0) rfl (Or.inl rfl))) (SE.w (se_var (i := 1) rfl (Or.inl rfl))) (nomark _)))))

theorem b_is_string (M : Mo P K mg) : Binds K (fdAt K (ga K "is_string")) ["value"] [] := M.d_is_string.f.binds fun _ _ _ _ _ _ us hl => match us, hl with | [_], _ => rfl
theorem ok_is_string (M : Mo P K mg) (B : Bs0 base mg K) : FnOk P w K mg base (L2.CX P w) 1 (ga K "is_string") (fdAt K (ga K "is_string")) ["value"] (spF ⟨K, mg⟩ (["value"] : List Str).length fm_is_string) := fn_sim (M.d_is_string.f) sc_is_string fun A outer s H E hr => by
  exact sb_one (ss_ret (se_isi rfl M.f_isinstance rfl M.f_str bt_str (SE.w (se_var (i := 0) rfl (Or.inl rfl)))))

theorem b_power_of (M : Mo P K mg) : Binds K (fdAt K (ga K "power_of")) ["base", "many"] [] := M.d_power_of.f.binds fun _ _ _ _ _ _ us hl => match us, hl with | [_, _], _ => rfl
theorem ok_power_of (M : Mo P K mg) (B : Bs0 base mg K) : FnOk P w K mg base (L2.CX P w) 1 (ga K "power_of") (fdAt K (ga K "power_of")) ["base", "many"] (spF ⟨K, mg⟩ (["base", "many"] : List Str).length fm_power_of) := fn_sim (M.d_power_of.f) sc_power_of fun A outer s H E hr => by
  exact sb_cons (ss_set (i := 2) sc_power_of.nd rfl (Or.inl rfl) se_int)
      (sb_cons (ss_for (passes_of rfl) rfl (si_rng1 rfl M.f_range (SE.w (se_var (i := 1) rfl (Or.inl rfl)))) (sg_name (i := 3) sc_power_of.nd rfl (Or.inl rfl)) (sb_one (ss_aug (i := 2) ip_mulI sc_power_of.nd rfl (Or.inl rfl) (se_var (i := 0) rfl (Or.inl rfl)))))
      (sb_one (ss_ret (se_var (i := 2) rfl (Or.inl rfl)))))

theorem b_row_number (M : Mo P K mg) : Binds K (fdAt K (ga K "row_number")) ["size", "row"] [] := M.d_row_number.f.binds fun _ _ _ _ _ _ us hl => match us, hl with | [_, _], _ => rfl
theorem ok_row_number (M : Mo P K mg) (B : Bs0 base mg K) : FnOk P w K mg base (L2.CX P w) 1 (ga K "row_number") (fdAt K (ga K "row_number")) ["size", "row"] (spF ⟨K, mg⟩ (["size", "row"] : List Str).length fm_row_number) := fn_sim (M.d_row_number.f) sc_row_number fun A outer s H E hr => by
  exact sb_cons (ss_set (i := 2) sc_row_number.nd rfl (Or.inl rfl) se_int)
      (sb_cons (ss_for (passes_of rfl) rfl (si_seq (se_var (i := 1) rfl (Or.inl rfl))) (sg_name (i := 3) sc_row_number.nd rfl (Or.inl rfl)) (sb_one (ss_set (i := 2) sc_row_number.nd rfl (Or.inl rfl) (se_op o_add (SE.w (se_op o_mul (SE.w (se_var (i := 2) rfl (Or.inl rfl))) (SE.w (se_var (i := 0) rfl (Or.inl rfl))))) (SE.w (se_var (i := 3) rfl (Or.inl rfl)))))))
      (sb_one (ss_ret (se_var (i := 2) rfl (Or.inl rfl)))))

theorem b_all_rows (M : Mo P K mg) : Binds K (fdAt K (ga K "all_rows")) ["size", "many"] [] := M.d_all_rows.f.binds fun _ _ _ _ _ _ us hl => match us, hl with | [_, _], _ => rfl
theorem ok_all_rows (M : Mo P K mg) (B : Bs0 base mg K) : FnOk P w K mg base (L2.CX P w) 1 (ga K "all_rows") (fdAt K (ga K "all_rows")) ["size", "many"] (spF ⟨K, mg⟩ (["size", "many"] : List Str).length fm_all_rows) := fn_sim (M.d_all_rows.f) sc_all_rows fun A outer s H E hr => by
  exact sb_cons (ss_set (i := 2) sc_all_rows.nd rfl (Or.inl rfl) (se_lst (sa_cons (se_tup sa_nil) sa_nil)))
      (sb_cons (ss_for (passes_of rfl) rfl (si_rng1 rfl M.f_range (SE.w (se_var (i := 1) rfl (Or.inl rfl)))) (sg_name (i := 3) sc_all_rows.nd rfl (Or.inl rfl)) (sb_one (ss_setLc2 (i := 2) rfl sc_all_rows.nd rfl rfl (sw_true rfl rfl rfl (by kernel_rfl)) (own := [("row", 4), ("value", 5)]) (vs1 := [5]) (si_seqW (SE.w (se_var (i := 2) rfl (Or.inl rfl)))) (blkOk_by (by kernel_rfl)) (by decide) (fun _ _ _ _ _ => sg_name (i := 4) sc_all_rows.nd rfl (Or.inl rfl)) (fun _ _ _ _ _ => pts_yes) (fun _ _ _ _ _ => si_rng1 rfl M.f_range (SE.w (se_var (i := 0) rfl (Or.inr (Or.inl rfl))))) (fun _ _ _ _ _ => sg_name (i := 5) sc_all_rows.nd rfl (Or.inl rfl)) (fun _ _ _ _ _ => pts_yes) (fun _ _ _ _ _ => se_op o_add (SE.w (se_var (i := 4) rfl (Or.inl rfl))) (SE.w (se_tup (sa_cons (se_var (i := 5) rfl (Or.inl rfl)) sa_nil)))) (by decide) (by decide))))
      (sb_one (ss_ret (se_var (i := 2) rfl (Or.inl rfl)))))

theorem b_answer_at (M : Mo P K mg) : Binds K (fdAt K (ga K "answer_at")) ["size", "operation", "row"] [] := M.d_answer_at.f.binds fun _ _ _ _ _ _ us hl => match us, hl with | [_, _, _], _ => rfl
theorem ok_answer_at (M : Mo P K mg) (B : Bs0 base mg K) : FnOk P w K mg base (L2.CX P w) 2 (ga K "answer_at") (fdAt K (ga K "answer_at")) ["size", "operation", "row"] (spF ⟨K, mg⟩ (["size", "operation", "row"] : List Str).length fm_answer_at) := fn_sim (M.d_answer_at.f) sc_answer_at fun A outer s H E hr => by
  exact sb_one (ss_ret (se_at (SE.w (se_at (SE.w (se_var (i := 1) rfl (Or.inl rfl))) (SE.w se_int))) (SE.w (se_call (ok_row_number M B) (hr.mono (by decide)) rfl M.d_row_number.g M.d_row_number.f.kp (b_row_number M) (takes_of rfl rfl rfl rfl) (sa_cons (se_var (i := 0) rfl (Or.inl rfl)) (sa_cons (se_var (i := 2) rfl (Or.inl rfl)) sa_nil))))))

theorem b_counts_at (M : Mo P K mg) : Binds K (fdAt K (ga K "counts_at")) ["size", "operation", "place", "row"] [] := M.d_counts_at.f.binds fun _ _ _ _ _ _ us hl => match us, hl with | [_, _, _, _], _ => rfl
theorem ok_counts_at (M : Mo P K mg) (B : Bs0 base mg K) : FnOk P w K mg base (L2.CX P w) 3 (ga K "counts_at") (fdAt K (ga K "counts_at")) ["size", "operation", "place", "row"] (spF ⟨K, mg⟩ (["size", "operation", "place", "row"] : List Str).length fm_counts_at) := fn_sim (M.d_counts_at.f) sc_counts_at fun A outer s H E hr => by
  exact sb_cons (ss_set (i := 4) sc_counts_at.nd rfl (Or.inr rfl) (SN.se (sn_lc rfl sc_counts_at.nd (own := [("value", 5)]) (SIs.w (si_rng1 rfl M.f_range (SE.w (se_var (i := 0) rfl (Or.inr (Or.inl rfl)))))) (blkOk_by (by kernel_rfl)) (fun _ _ _ _ _ => sg_name (i := 5) sc_counts_at.nd rfl (Or.inl rfl)) (fun _ _ _ _ _ => pts_yes) (fun _ _ _ _ _ => se_call (ok_answer_at M B) (hr.mono (by decide)) rfl M.d_answer_at.g M.d_answer_at.f.kp (b_answer_at M) LamX.takes0 (sa_cons (se_var (i := 0) rfl (Or.inr (Or.inl rfl))) (sa_cons (se_var (i := 1) rfl (Or.inr (Or.inl rfl))) (sa_cons (se_op o_add (SE.w (se_op o_add (SE.w (se_sl (SE.w (se_var (i := 3) rfl (Or.inr (Or.inl rfl)))) so_none (so_some (SE.w (se_var (i := 2) rfl (Or.inr (Or.inl rfl))))))) (SE.w (se_tup (sa_cons (se_var (i := 5) rfl (Or.inl rfl)) sa_nil))))) (SE.w (se_sl (SE.w (se_var (i := 3) rfl (Or.inr (Or.inl rfl)))) (so_some (SE.w (se_op o_add (SE.w (se_var (i := 2) rfl (Or.inr (Or.inl rfl)))) (SE.w se_int)))) so_none))) sa_nil)))) (by decide))))
      (sb_one (ss_ret (se_cb (f_any rfl) rfl M.f_any bt_any (saw_cons (SE.w (SN.se (sn_lc rfl sc_counts_at.nd (own := [("end", 6)]) (si_seqW (SE.w (se_var (i := 4) rfl (Or.inr (Or.inl rfl))))) (blkOk_by (by kernel_rfl)) (fun _ _ _ _ _ => sg_name (i := 6) sc_counts_at.nd rfl (Or.inl rfl)) (fun _ _ _ _ _ => pts_yes) (fun _ _ _ _ _ => se_cmp (o_ne (u64 hr)) (SE.w (se_var (i := 6) rfl (Or.inl rfl))) (SE.w (se_at (SE.w (se_var (i := 4) rfl (Or.inr (Or.inl rfl)))) (SE.w se_int))) (nomark _)) (by decide)))) saw_nil))))

theorem b_hung_found (M : Mo P K mg) : Binds K (fdAt K (ga K "hung_found")) ["size", "operation"] [] := M.d_hung_found.f.binds fun _ _ _ _ _ _ us hl => match us, hl with | [_, _], _ => rfl
theorem ok_hung_found (M : Mo P K mg) (B : Bs0 base mg K) : FnOk P w K mg base (L2.CX P w) 4 (ga K "hung_found") (fdAt K (ga K "hung_found")) ["size", "operation"] (spF ⟨K, mg⟩ (["size", "operation"] : List Str).length fm_hung_found) := fn_sim (M.d_hung_found.f) sc_hung_found fun A outer s H E hr => by
  exact sb_cons (ss_set (i := 2) sc_hung_found.nd rfl (Or.inr rfl) (se_call (ok_all_rows M B) (hr.mono (by decide)) rfl M.d_all_rows.g M.d_all_rows.f.kp (b_all_rows M) (takes_of rfl rfl rfl rfl) (sa_cons (se_var (i := 0) rfl (Or.inr (Or.inl rfl))) (sa_cons (se_at (SE.w (se_var (i := 1) rfl (Or.inr (Or.inl rfl)))) (SE.w se_int)) sa_nil))))
      (sb_one (ss_ret (se_ct f_tuple rfl M.f_tuple bt_tuple (saw_cons (SE.w (SN.se (sn_lc rfl sc_hung_found.nd (own := [("at", 3)]) (SIs.w (si_rng1 rfl M.f_range (SE.w (se_at (SE.w (se_var (i := 1) rfl (Or.inr (Or.inl rfl)))) (SE.w se_int))))) (blkOk_by (by kernel_rfl)) (fun _ _ _ _ _ => sg_name (i := 3) sc_hung_found.nd rfl (Or.inr rfl)) (fun _ _ _ _ _ => pts_if (st_val (SE.w (se_cb (f_any rfl) rfl M.f_any bt_any (saw_cons (SE.w (SN.se (sn_lc rfl sc_hung_found.nd (own := [("row", 4)]) (si_seqW (SE.w (se_var (i := 2) rfl (Or.inr (Or.inl rfl))))) (blkOk_by (by kernel_rfl)) (fun _ _ _ _ _ => sg_name (i := 4) sc_hung_found.nd rfl (Or.inl rfl)) (fun _ _ _ _ _ => pts_yes) (fun _ _ _ _ _ => se_call (ok_counts_at M B) (hr.mono (by decide)) rfl M.d_counts_at.g M.d_counts_at.f.kp (b_counts_at M) LamX.takes0 (sa_cons (se_var (i := 0) rfl (Or.inr (Or.inl rfl))) (sa_cons (se_var (i := 1) rfl (Or.inr (Or.inl rfl))) (sa_cons (se_var (i := 3) rfl (Or.inr (Or.inl rfl))) (sa_cons (se_var (i := 4) rfl (Or.inl rfl)) sa_nil))))) (by decide)))) saw_nil))))) (fun _ _ _ _ _ => se_var (i := 3) rfl (Or.inr (Or.inl rfl))) (by decide)))) saw_nil))))

theorem b_need_kind (M : Mo P K mg) : Binds K (fdAt K (ga K "need_kind")) ["value"] [] := M.d_need_kind.f.binds fun _ _ _ _ _ _ us hl => match us, hl with | [_], _ => rfl
theorem ok_need_kind (M : Mo P K mg) (B : Bs0 base mg K) : FnOk P w K mg base (L2.CX P w) 2 (ga K "need_kind") (fdAt K (ga K "need_kind")) ["value"] (spF ⟨K, mg⟩ (["value"] : List Str).length fm_need_kind) := fn_sim (M.d_need_kind.f) sc_need_kind fun A outer s H E hr => by
  exact sb_cons (ss_if (SWh.t (sh_or (st_not (st_val (SE.w (se_call (ok_is_string M B) (hr.mono (by decide)) rfl M.d_is_string.g M.d_is_string.f.kp (b_is_string M) (takes_of rfl rfl rfl rfl) (sa_cons (se_var (i := 0) rfl (Or.inl rfl)) sa_nil))))) (sh_or1 (st_cmp (o_nin (u65 hr)) (SE.w (se_var (i := 0) rfl (Or.inl rfl))) (SE.w (se_gdat rfl M.k_KINDS)) (by with_unfolding_all rfl))))) (sb_one (ss_raise0 (k := 1) rfl (takes_of rfl rfl rfl rfl) M.e_InvalidKind (hr.mono (by decide)) rfl)) sb_nil)
      (sb_one (ss_ret (se_var (i := 0) rfl (Or.inl rfl))))

theorem b_need_answers (M : Mo P K mg) : Binds K (fdAt K (ga K "need_answers")) ["value"] [] := M.d_need_answers.f.binds fun _ _ _ _ _ _ us hl => match us, hl with | [_], _ => rfl
theorem ok_need_answers (M : Mo P K mg) (B : Bs0 base mg K) : FnOk P w K mg base (L2.CX P w) 4 (ga K "need_answers") (fdAt K (ga K "need_answers")) ["value"] (spF ⟨K, mg⟩ (["value"] : List Str).length fm_need_answers) := fn_sim (M.d_need_answers.f) sc_need_answers fun A outer s H E hr => by
  exact sb_cons (ss_setLc (i := 1) rfl sc_need_answers.nd rfl rfl (sw_true rfl rfl rfl (by kernel_rfl)) (own := [("many", 2)]) (SIs.w (si_rng2 rfl M.f_range (SE.w se_int) (SE.w (se_op o_add (SE.w (se_gint rfl M.i_MOST_ANSWER_PLACES)) (SE.w se_int))))) (blkOk_by (by kernel_rfl)) (fun _ _ _ _ _ => sg_name (i := 2) sc_need_answers.nd rfl (Or.inl rfl)) (fun _ _ _ _ _ => pts_yes) (fun _ _ _ _ _ => se_call (ok_power_of M B) (hr.mono (by decide)) rfl M.d_power_of.g M.d_power_of.f.kp (b_power_of M) LamX.takes0 (sa_cons se_int (sa_cons (se_var (i := 2) rfl (Or.inl rfl)) sa_nil))) (by decide))
      (sb_cons (ss_if (SWh.t (sh_or (st_not (st_val (SE.w (se_isi rfl M.f_isinstance rfl M.f_tuple bt_tuple (SE.w (se_var (i := 0) rfl (Or.inl rfl))))))) (sh_or (st_cmp (o_nin (u65 hr)) (SE.w (se_cb f_len rfl M.f_len bt_len (saw_cons (SE.w (se_var (i := 0) rfl (Or.inl rfl))) saw_nil))) (SE.w (se_var (i := 1) rfl (Or.inl rfl))) (by with_unfolding_all rfl)) (sh_or1 (st_not (st_val (SE.w (se_cb (f_all rfl) rfl M.f_all bt_all (saw_cons (SE.w (SN.se (sn_lc rfl sc_need_answers.nd (own := [("one", 3)]) (si_seqW (SE.w (se_var (i := 0) rfl (Or.inl rfl)))) (blkOk_by (by kernel_rfl)) (fun _ _ _ _ _ => sg_name (i := 3) sc_need_answers.nd rfl (Or.inl rfl)) (fun _ _ _ _ _ => pts_yes) (fun _ _ _ _ _ => se_call (ok_is_below M B) (hr.mono (by decide)) rfl M.d_is_below.g M.d_is_below.f.kp (b_is_below M) LamX.takes0 (sa_cons (se_var (i := 3) rfl (Or.inl rfl)) (sa_cons se_int sa_nil))) (by decide)))) saw_nil))))))))) (sb_one (ss_raise1 (k := 1) rfl (takes_of rfl rfl rfl rfl) M.e_InvalidTable (hr.mono (by decide)) rfl (se_neg (SE.w se_int)))) sb_nil)
      (sb_one (ss_ret (se_var (i := 0) rfl (Or.inl rfl)))))

theorem b_as_operation (M : Mo P K mg) : Binds K (fdAt K (ga K "as_operation")) ["answers"] [] := M.d_as_operation.f.binds fun _ _ _ _ _ _ us hl => match us, hl with | [_], _ => rfl
theorem ok_as_operation (M : Mo P K mg) (B : Bs0 base mg K) : FnOk P w K mg base (L2.CX P w) 2 (ga K "as_operation") (fdAt K (ga K "as_operation")) ["answers"] (spF ⟨K, mg⟩ (["answers"] : List Str).length fm_as_operation) := fn_sim (M.d_as_operation.f) sc_as_operation fun A outer s H E hr => by
  exact sb_cons (ss_set (i := 1) sc_as_operation.nd rfl (Or.inl rfl) se_int)
      (sb_cons (ss_while 4096 (passes_of rfl) (st_cmp o_lt (SE.w (se_call (ok_power_of M B) (hr.mono (by decide)) rfl M.d_power_of.g M.d_power_of.f.kp (b_power_of M) (takes_of rfl rfl rfl rfl) (sa_cons se_int (sa_cons (se_var (i := 1) rfl (Or.inl rfl)) sa_nil)))) (SE.w (se_cb f_len rfl M.f_len bt_len (saw_cons (SE.w (se_var (i := 0) rfl (Or.inl rfl))) saw_nil))) (nomark _)) (sb_one (ss_aug (i := 1) ip_addI sc_as_operation.nd rfl (Or.inl rfl) se_int)))
      (sb_one (ss_ret (se_tup (sa_cons (se_var (i := 1) rfl (Or.inl rfl)) (sa_cons (se_var (i := 0) rfl (Or.inl rfl)) sa_nil))))))

theorem b_way_of (M : Mo P K mg) : Binds K (fdAt K (ga K "way_of")) ["operation", "place"] [] := M.d_way_of.f.binds fun _ _ _ _ _ _ us hl => match us, hl with | [_, _], _ => rfl
theorem ok_way_of (M : Mo P K mg) (B : Bs0 base mg K) : FnOk P w K mg base (L2.CX P w) 3 (ga K "way_of") (fdAt K (ga K "way_of")) ["operation", "place"] (spF ⟨K, mg⟩ (["operation", "place"] : List Str).length fm_way_of) := fn_sim (M.d_way_of.f) sc_way_of fun A outer s H E hr => by
  exact sb_cons (ss_own (i := 2) sc_way_of.nd rfl (Or.inl rfl) (sn_lst sa_nil))
      (sb_cons (ss_for (passes_of rfl) rfl (si_seq (se_call (ok_all_rows M B) (hr.mono (by decide)) rfl M.d_all_rows.g M.d_all_rows.f.kp (b_all_rows M) (takes_of rfl rfl rfl rfl) (sa_cons se_int (sa_cons (se_at (SE.w (se_var (i := 0) rfl (Or.inl rfl))) (SE.w se_int)) sa_nil)))) (sg_name (i := 3) sc_way_of.nd rfl (Or.inl rfl)) (sb_one (ss_if (st_cmp (o_eq (u64 hr)) (SE.w (se_at (SE.w (se_var (i := 3) rfl (Or.inl rfl))) (SE.w (se_var (i := 1) rfl (Or.inl rfl))))) (SE.w se_int) (nomark _)) (sb_cons (ss_set (i := 4) sc_way_of.nd rfl (Or.inl rfl) (se_op o_add (SE.w (se_op o_add (SE.w (se_sl (SE.w (se_var (i := 3) rfl (Or.inl rfl))) so_none (so_some (SE.w (se_var (i := 1) rfl (Or.inl rfl)))))) (SE.w (se_tup (sa_cons se_int sa_nil))))) (SE.w (se_sl (SE.w (se_var (i := 3) rfl (Or.inl rfl))) (so_some (SE.w (se_op o_add (SE.w (se_var (i := 1) rfl (Or.inl rfl))) (SE.w se_int)))) so_none))))
      (sb_one (ss_app (i := 2) rfl (Or.inl rfl) (se_op o_sub (SE.w (se_call (ok_answer_at M B) (hr.mono (by decide)) rfl M.d_answer_at.g M.d_answer_at.f.kp (b_answer_at M) (takes_of rfl rfl rfl rfl) (sa_cons se_int (sa_cons (se_var (i := 0) rfl (Or.inl rfl)) (sa_cons (se_var (i := 4) rfl (Or.inl rfl)) sa_nil))))) (SE.w (se_call (ok_answer_at M B) (hr.mono (by decide)) rfl M.d_answer_at.g M.d_answer_at.f.kp (b_answer_at M) (takes_of rfl rfl rfl rfl) (sa_cons se_int (sa_cons (se_var (i := 0) rfl (Or.inl rfl)) (sa_cons (se_var (i := 3) rfl (Or.inl rfl)) sa_nil))))))))) sb_nil)))
      (sb_cons (ss_if (st_cmp (o_in (u65 hr)) (SE.w se_int) (sw_var (i := 2) rfl (Or.inl rfl)) (by with_unfolding_all rfl)) (sb_one (ss_ret (se_if (st_cmp (o_in (u65 hr)) (SE.w (se_neg (SE.w se_int))) (sw_var (i := 2) rfl (Or.inl rfl)) (by with_unfolding_all rfl)) se_str se_str))) sb_nil)
      (sb_one (ss_ret (se_if (st_cmp (o_in (u65 hr)) (SE.w (se_neg (SE.w se_int))) (sw_var (i := 2) rfl (Or.inl rfl)) (by with_unfolding_all rfl)) se_str se_str)))))

theorem b_is_kind (M : Mo P K mg) : Binds K (fdAt K (ga K "is_kind")) ["kind", "operation"] [] := M.d_is_kind.f.binds fun _ _ _ _ _ _ us hl => match us, hl with | [_, _], _ => rfl
theorem ok_is_kind (M : Mo P K mg) (B : Bs0 base mg K) : FnOk P w K mg base (L2.CX P w) 5 (ga K "is_kind") (fdAt K (ga K "is_kind")) ["kind", "operation"] (spF ⟨K, mg⟩ (["kind", "operation"] : List Str).length fm_is_kind) := fn_sim (M.d_is_kind.f) sc_is_kind fun A outer s H E hr => by
  exact sb_cons (ss_set (i := 2) sc_is_kind.nd rfl (Or.inl rfl) (se_call (ok_hung_found M B) (hr.mono (by decide)) rfl M.d_hung_found.g M.d_hung_found.f.kp (b_hung_found M) (takes_of rfl rfl rfl rfl) (sa_cons se_int (sa_cons (se_var (i := 1) rfl (Or.inr (Or.inl rfl))) sa_nil))))
      (sb_cons (ss_setLc (i := 3) rfl sc_is_kind.nd rfl rfl (sw_true rfl rfl rfl (by kernel_rfl)) (own := [("place", 4)]) (si_seqW (SE.w (se_var (i := 2) rfl (Or.inl rfl)))) (blkOk_by (by kernel_rfl)) (fun _ _ _ _ _ => sg_name (i := 4) sc_is_kind.nd rfl (Or.inl rfl)) (fun _ _ _ _ _ => pts_yes) (fun _ _ _ _ _ => se_call (ok_way_of M B) (hr.mono (by decide)) rfl M.d_way_of.g M.d_way_of.f.kp (b_way_of M) LamX.takes0 (sa_cons (se_var (i := 1) rfl (Or.inr (Or.inl rfl))) (sa_cons (se_var (i := 4) rfl (Or.inl rfl)) sa_nil))) (by decide))
      (sb_cons (ss_if (SWh.t (sh_or (st_cmp (o_eq (u64 hr)) (SE.w (se_var (i := 0) rfl (Or.inl rfl))) (SE.w se_str) (nomark _)) (sh_or1 (st_cmp (o_eq (u64 hr)) (SE.w (se_cb f_len rfl M.f_len bt_len (saw_cons (SE.w (se_var (i := 2) rfl (Or.inl rfl))) saw_nil))) (SE.w se_int) (nomark _))))) (sb_one (ss_ret se_bl)) sb_nil)
      (sb_cons (ss_if (st_cmp (o_in (u65 hr)) (SE.w (se_var (i := 0) rfl (Or.inl rfl))) (SE.w (se_tup (sa_cons se_str (sa_cons se_str sa_nil)))) (by with_unfolding_all rfl)) (sb_one (ss_ret (se_and (SE.w (se_cmp (o_eq (u64 hr)) (SE.w (se_cb f_len rfl M.f_len bt_len (saw_cons (SE.w (se_var (i := 2) rfl (Or.inl rfl))) saw_nil))) (SE.w se_int) (nomark _))) (se_one (se_or (SE.w (se_cmp (o_eq (u64 hr)) (SE.w (se_var (i := 0) rfl (Or.inl rfl))) (SE.w se_str) (nomark _))) (se_one (se_cmp (o_eq (u64 hr)) (SE.w (se_at (SE.w (se_var (i := 3) rfl (Or.inl rfl))) (SE.w se_int))) (SE.w se_str) (nomark _)))))))) sb_nil)
      (sb_cons (ss_if (st_cmp (o_eq (u64 hr)) (SE.w (se_var (i := 0) rfl (Or.inl rfl))) (SE.w se_str) (nomark _)) (sb_one (ss_ret (se_cb (f_all rfl) rfl M.f_all bt_all (saw_cons (SE.w (SN.se (sn_lc rfl sc_is_kind.nd (own := [("way", 5)]) (si_seqW (SE.w (se_var (i := 3) rfl (Or.inl rfl)))) (blkOk_by (by kernel_rfl)) (fun _ _ _ _ _ => sg_name (i := 5) sc_is_kind.nd rfl (Or.inl rfl)) (fun _ _ _ _ _ => pts_yes) (fun _ _ _ _ _ => se_cmp (o_eq (u64 hr)) (SE.w (se_var (i := 5) rfl (Or.inl rfl))) (SE.w se_str) (nomark _)) (by decide)))) saw_nil)))) sb_nil)
      (sb_cons (ss_for (passes_of rfl) rfl (si_seq (se_call (ok_all_rows M B) (hr.mono (by decide)) rfl M.d_all_rows.g M.d_all_rows.f.kp (b_all_rows M) (takes_of rfl rfl rfl rfl) (sa_cons se_int (sa_cons (se_at (SE.w (se_var (i := 1) rfl (Or.inr (Or.inl rfl)))) (SE.w se_int)) sa_nil)))) (sg_name (i := 6) sc_is_kind.nd rfl (Or.inr rfl)) (sb_cons (ss_setLc (i := 7) rfl sc_is_kind.nd rfl rfl (sw_true rfl rfl rfl (by kernel_rfl)) (own := [("place", 4)]) (si_seqW (SE.w (se_var (i := 2) rfl (Or.inl rfl)))) (blkOk_by (by kernel_rfl)) (fun _ _ _ _ _ => sg_name (i := 4) sc_is_kind.nd rfl (Or.inl rfl)) (fun _ _ _ _ _ => pts_yes) (fun _ _ _ _ _ => se_at (SE.w (se_var (i := 6) rfl (Or.inr (Or.inl rfl)))) (SE.w (se_var (i := 4) rfl (Or.inl rfl)))) (by decide))
      (sb_cons (ss_set (i := 8) sc_is_kind.nd rfl (Or.inl rfl) (se_at sw_bad (SE.w (se_var (i := 0) rfl (Or.inl rfl)))))
      (sb_one (ss_if (st_cmp (o_ne (u64 hr)) (SE.w (se_call (ok_answer_at M B) (hr.mono (by decide)) rfl M.d_answer_at.g M.d_answer_at.f.kp (b_answer_at M) (takes_of rfl rfl rfl rfl) (sa_cons se_int (sa_cons (se_var (i := 1) rfl (Or.inr (Or.inl rfl))) (sa_cons (se_var (i := 6) rfl (Or.inr (Or.inl rfl))) sa_nil))))) (SE.w (se_var (i := 8) rfl (Or.inl rfl))) (nomark _)) (sb_one (ss_ret se_bl)) sb_nil)))))
      (sb_one (ss_ret se_bl)))))))

theorem b_has_kind (M : Mo P K mg) : Binds K (fdAt K (ga K "has_kind")) ["kind", "answers"] [] := M.d_has_kind.f.binds fun _ _ _ _ _ _ us hl => match us, hl with | [_, _], _ => rfl
theorem ok_has_kind (M : Mo P K mg) (B : Bs0 base mg K) : FnOk P w K mg base (L2.CX P w) 6 (ga K "has_kind") (fdAt K (ga K "has_kind")) ["kind", "answers"] (spF ⟨K, mg⟩ (["kind", "answers"] : List Str).length fm_has_kind) := fn_sim (M.d_has_kind.f) sc_has_kind fun A outer s H E hr => by
  exact sb_cons (ss_set (i := 0) sc_has_kind.nd rfl (Or.inl rfl) (se_call (ok_need_kind M B) (hr.mono (by decide)) rfl M.d_need_kind.g M.d_need_kind.f.kp (b_need_kind M) (takes_of rfl rfl rfl rfl) (sa_cons (se_var (i := 0) rfl (Or.inl rfl)) sa_nil)))
      (sb_one (ss_ret (se_call (ok_is_kind M B) (hr.mono (by decide)) rfl M.d_is_kind.g M.d_is_kind.f.kp (b_is_kind M) (takes_of rfl rfl rfl rfl) (sa_cons (se_var (i := 0) rfl (Or.inl rfl)) (sa_cons (se_call (ok_as_operation M B) (hr.mono (by decide)) rfl M.d_as_operation.g M.d_as_operation.f.kp (b_as_operation M) (takes_of rfl rfl rfl rfl) (sa_cons (se_call (ok_need_answers M B) (hr.mono (by decide)) rfl M.d_need_answers.g M.d_need_answers.f.kp (b_need_answers M) (takes_of rfl rfl rfl rfl) (sa_cons (se_var (i := 1) rfl (Or.inl rfl)) sa_nil)) sa_nil)) sa_nil)))))

theorem b_need_two_many (M : Mo P K mg) : Binds K (fdAt K (ga K "need_two_many")) ["value"] [] := M.d_need_two_many.f.binds fun _ _ _ _ _ _ us hl => match us, hl with | [_], _ => rfl
theorem ok_need_two_many (M : Mo P K mg) (B : Bs0 base mg K) : FnOk P w K mg base (L2.CX P w) 3 (ga K "need_two_many") (fdAt K (ga K "need_two_many")) ["value"] (spF ⟨K, mg⟩ (["value"] : List Str).length fm_need_two_many) := fn_sim (M.d_need_two_many.f) sc_need_two_many fun A outer s H E hr => by
  exact sb_cons (ss_if (SWh.t (sh_or (st_not (st_val (SE.w (se_call (ok_is_number M B) (hr.mono (by decide)) rfl M.d_is_number.g M.d_is_number.f.kp (b_is_number M) (takes_of rfl rfl rfl rfl) (sa_cons (se_var (i := 0) rfl (Or.inl rfl)) sa_nil))))) (sh_or1 (st_not (st_chain o_le o_le (SE.w se_int) (SE.w (se_var (i := 0) rfl (Or.inl rfl))) (SE.w (se_gint rfl M.i_MOST_INPUTS)) rfl))))) (sb_one (ss_raise1 (k := 1) rfl (takes_of rfl rfl rfl rfl) M.e_InvalidSize (hr.mono (by decide)) rfl se_str)) sb_nil)
      (sb_one (ss_ret (se_var (i := 0) rfl (Or.inl rfl))))

theorem b_rising_marks (M : Mo P K mg) : Binds K (fdAt K (ga K "rising_marks")) ["many"] [] := M.d_rising_marks.f.binds fun _ _ _ _ _ _ us hl => match us, hl with | [_], _ => rfl
theorem ok_rising_marks (M : Mo P K mg) (B : Bs0 base mg K) : FnOk P w K mg base (L2.CX P w) 2 (ga K "rising_marks") (fdAt K (ga K "rising_marks")) ["many"] (spF ⟨K, mg⟩ (["many"] : List Str).length fm_rising_marks) := fn_sim (M.d_rising_marks.f) sc_rising_marks fun A outer s H E hr => by
  exact sb_cons (ss_parN (is := [1, 2]) rfl (pgs_cons (pg_name (i := 1) sc_rising_marks.nd rfl (Or.inr rfl)) (pgs_cons (pg_name (i := 2) sc_rising_marks.nd rfl (Or.inr rfl)) pgs_nil)) rfl (by rw [sizeLine_eq]; decide) rfl (sm_cons (se_lst (sa_cons se_int (sa_cons se_int sa_nil))) (sm_cons se_int sm_nil)) rfl rfl)
      (sb_cons (ss_for (passes_of rfl) rfl (si_rng1 rfl M.f_range (SE.w (se_var (i := 0) rfl (Or.inl rfl)))) (sg_name (i := 3) sc_rising_marks.nd rfl (Or.inl rfl)) (sb_cons (ss_setLc2 (i := 4) rfl sc_rising_marks.nd rfl rfl (sw_true rfl rfl rfl (by kernel_rfl)) (own := [("low", 5), ("high", 6)]) (vs1 := [6]) (si_seqW (SE.w (se_var (i := 1) rfl (Or.inr (Or.inl rfl))))) (blkOk_by (by kernel_rfl)) (by decide) (fun _ _ _ _ _ => sg_name (i := 5) sc_rising_marks.nd rfl (Or.inl rfl)) (fun _ _ _ _ _ => pts_yes) (fun _ _ _ _ _ => si_seq (se_var (i := 1) rfl (Or.inr (Or.inl rfl)))) (fun _ _ _ _ _ => sg_name (i := 6) sc_rising_marks.nd rfl (Or.inl rfl)) (fun _ _ _ _ _ => pts_if (st_cmp (o_eq (u64 hr)) (SE.w (se_op o_band (SE.w (se_var (i := 5) rfl (Or.inl rfl))) (SE.w (se_var (i := 6) rfl (Or.inl rfl))))) (SE.w (se_var (i := 5) rfl (Or.inl rfl))) (nomark _))) (fun _ _ _ _ _ => se_tup (sa_cons (se_var (i := 5) rfl (Or.inl rfl)) (sa_cons (se_var (i := 6) rfl (Or.inl rfl)) sa_nil))) (by decide) (by decide))
      (sb_cons (ss_set (i := 1) sc_rising_marks.nd rfl (Or.inr rfl) (se_cb (f_sorted (u64 hr)) rfl M.f_sorted bt_sorted (saw_cons (SE.w (SN.se (sn_lc rfl sc_rising_marks.nd (own := [("low", 5), ("high", 6)]) (si_seqW (SE.w (se_var (i := 4) rfl (Or.inl rfl)))) (blkOk_by (by kernel_rfl)) (fun _ _ _ _ _ => sg_tup rfl (sgs_cons (sg_name (i := 5) sc_rising_marks.nd rfl (Or.inl rfl)) (sgs_cons (sg_name (i := 6) sc_rising_marks.nd rfl (Or.inl rfl)) sgs_nil))) (fun _ _ _ _ _ => pts_yes) (fun _ _ _ _ _ => se_op o_add (SE.w (se_var (i := 5) rfl (Or.inl rfl))) (SE.w (se_op o_mul (SE.w (se_var (i := 6) rfl (Or.inl rfl))) (SE.w (se_call (ok_power_of M B) (hr.mono (by decide)) rfl M.d_power_of.g M.d_power_of.f.kp (b_power_of M) LamX.takes0 (sa_cons se_int (sa_cons (se_var (i := 2) rfl (Or.inr (Or.inl rfl))) sa_nil))))))) (by decide)))) saw_nil)))
      (sb_one (ss_aug (i := 2) ip_mulI sc_rising_marks.nd rfl (Or.inr rfl) se_int)))))
      (sb_one (ss_ret (se_var (i := 1) rfl (Or.inr (Or.inl rfl))))))

theorem b_rising_many (M : Mo P K mg) : Binds K (fdAt K (ga K "rising_many")) ["places"] [] := M.d_rising_many.f.binds fun _ _ _ _ _ _ us hl => match us, hl with | [_], _ => rfl
theorem ok_rising_many (M : Mo P K mg) (B : Bs0 base mg K) : FnOk P w K mg base (L2.CX P w) 3 (ga K "rising_many") (fdAt K (ga K "rising_many")) ["places"] (spF ⟨K, mg⟩ (["places"] : List Str).length fm_rising_many) := fn_sim (M.d_rising_many.f) sc_rising_many fun A outer s H E hr => by
  exact sb_cons (ss_if (st_cmp o_lt (SE.w (se_var (i := 0) rfl (Or.inl rfl))) (SE.w se_int) (nomark _)) (sb_one (ss_ret (se_op o_add (SE.w se_int) (SE.w (se_var (i := 0) rfl (Or.inl rfl)))))) sb_nil)
      (sb_cons (ss_set (i := 1) sc_rising_many.nd rfl (Or.inr rfl) (se_call (ok_rising_marks M B) (hr.mono (by decide)) rfl M.d_rising_marks.g M.d_rising_marks.f.kp (b_rising_marks M) (takes_of rfl rfl rfl rfl) (sa_cons (se_op o_sub (SE.w (se_var (i := 0) rfl (Or.inl rfl))) (SE.w se_int)) sa_nil)))
      (sb_cons (ss_set (i := 2) sc_rising_many.nd rfl (Or.inr rfl) (se_dc rfl sc_rising_many.nd (own := [("one", 3)]) (si_seqW (SE.w (se_var (i := 1) rfl (Or.inr (Or.inl rfl))))) (blkOk_by (by kernel_rfl)) (fun _ _ _ _ _ => sg_name (i := 3) sc_rising_many.nd rfl (Or.inr rfl)) (fun _ _ _ _ _ => pts_yes) (fun _ _ _ _ _ => se_var (i := 3) rfl (Or.inr (Or.inl rfl))) (fun _ _ _ _ _ => se_cb f_len rfl M.f_len bt_len (saw_cons (SE.w (SN.se (sn_lc rfl sc_rising_many.nd (own := [("other", 4)]) (si_seqW (SE.w (se_var (i := 1) rfl (Or.inr (Or.inl rfl))))) (blkOk_by (by kernel_rfl)) (fun _ _ _ _ _ => sg_name (i := 4) sc_rising_many.nd rfl (Or.inl rfl)) (fun _ _ _ _ _ => pts_if (st_cmp (o_eq (u64 hr)) (SE.w (se_op o_band (SE.w (se_var (i := 3) rfl (Or.inr (Or.inl rfl)))) (SE.w (se_var (i := 4) rfl (Or.inl rfl))))) (SE.w (se_var (i := 4) rfl (Or.inl rfl))) (nomark _))) (fun _ _ _ _ _ => se_var (i := 4) rfl (Or.inl rfl)) (by decide)))) saw_nil)) (by decide)))
      (sb_cons (ss_set (i := 5) sc_rising_many.nd rfl (Or.inr rfl) (se_dc rfl sc_rising_many.nd (own := [("one", 3)]) (si_seqW (SE.w (se_var (i := 1) rfl (Or.inr (Or.inl rfl))))) (blkOk_by (by kernel_rfl)) (fun _ _ _ _ _ => sg_name (i := 3) sc_rising_many.nd rfl (Or.inr rfl)) (fun _ _ _ _ _ => pts_yes) (fun _ _ _ _ _ => se_var (i := 3) rfl (Or.inr (Or.inl rfl))) (fun _ _ _ _ _ => se_cb f_len rfl M.f_len bt_len (saw_cons (SE.w (SN.se (sn_lc rfl sc_rising_many.nd (own := [("other", 4)]) (si_seqW (SE.w (se_var (i := 1) rfl (Or.inr (Or.inl rfl))))) (blkOk_by (by kernel_rfl)) (fun _ _ _ _ _ => sg_name (i := 4) sc_rising_many.nd rfl (Or.inl rfl)) (fun _ _ _ _ _ => pts_if (st_cmp (o_eq (u64 hr)) (SE.w (se_op o_band (SE.w (se_var (i := 3) rfl (Or.inr (Or.inl rfl)))) (SE.w (se_var (i := 4) rfl (Or.inl rfl))))) (SE.w (se_var (i := 3) rfl (Or.inr (Or.inl rfl)))) (nomark _))) (fun _ _ _ _ _ => se_var (i := 4) rfl (Or.inl rfl)) (by decide)))) saw_nil)) (by decide)))
      (sb_one (ss_ret (se_cb (f_sum rfl) rfl M.f_sum bt_sum (saw_cons (SE.w (SN.se (sn_lc2 rfl sc_rising_many.nd (own := [("one", 3), ("other", 4)]) (vs1 := [4]) (si_seqW (SE.w (se_var (i := 1) rfl (Or.inr (Or.inl rfl))))) (blkOk_by (by kernel_rfl)) (by decide) (fun _ _ _ _ _ => sg_name (i := 3) sc_rising_many.nd rfl (Or.inl rfl)) (fun _ _ _ _ _ => pts_yes) (fun _ _ _ _ _ => si_seq (se_var (i := 1) rfl (Or.inr (Or.inl rfl)))) (fun _ _ _ _ _ => sg_name (i := 4) sc_rising_many.nd rfl (Or.inl rfl)) (fun _ _ _ _ _ => pts_yes) (fun _ _ _ _ _ => se_op o_mul (SE.w (se_dget (u01 hr) (SE.w (se_var (i := 2) rfl (Or.inr (Or.inl rfl)))) (SE.w (se_op o_band (SE.w (se_var (i := 3) rfl (Or.inl rfl))) (SE.w (se_var (i := 4) rfl (Or.inl rfl))))))) (SE.w (se_dget (u01 hr) (SE.w (se_var (i := 5) rfl (Or.inr (Or.inl rfl)))) (SE.w (se_op o_bor (SE.w (se_var (i := 3) rfl (Or.inl rfl))) (SE.w (se_var (i := 4) rfl (Or.inl rfl)))))))) (by decide) (by decide)))) saw_nil)))))))

theorem b_kind_count (M : Mo P K mg) : Binds K (fdAt K (ga K "kind_count")) ["kind", "places"] [] := M.d_kind_count.f.binds fun _ _ _ _ _ _ us hl => match us, hl with | [_, _], _ => rfl
theorem kb_kind_count_0 (M : Mo P K mg) : KBinds K (fdAt K (ga K "kind_count")) ["kind", "places"] ["kind", "places"] (gK 0 2 [0, 1]) (gK 0 2 [0, 1]) := Fs.Fun.kb (M.d_kind_count.f) (by decide) fun _ _ _ _ _ _ us ws h1 h2 => match us, ws, h1, h2 with | [], [_, _], _, _ => rfl
theorem ok_kind_count (M : Mo P K mg) (B : Bs0 base mg K) : FnOk P w K mg base (L2.CX P w) 4 (ga K "kind_count") (fdAt K (ga K "kind_count")) ["kind", "places"] (spF ⟨K, mg⟩ (["kind", "places"] : List Str).length fm_kind_count) := fn_sim (M.d_kind_count.f) sc_kind_count fun A outer s H E hr => by
  exact sb_cons (ss_set (i := 0) sc_kind_count.nd rfl (Or.inl rfl) (se_call (ok_need_kind M B) (hr.mono (by decide)) rfl M.d_need_kind.g M.d_need_kind.f.kp (b_need_kind M) (takes_of rfl rfl rfl rfl) (sa_cons (se_var (i := 0) rfl (Or.inl rfl)) sa_nil)))
      (sb_cons (ss_if (SWh.t (sh_or (st_not (st_val (SE.w (se_call (ok_is_number M B) (hr.mono (by decide)) rfl M.d_is_number.g M.d_is_number.f.kp (b_is_number M) (takes_of rfl rfl rfl rfl) (sa_cons (se_var (i := 1) rfl (Or.inl rfl)) sa_nil))))) (sh_or1 (st_not (st_chain o_le o_le (SE.w se_int) (SE.w (se_var (i := 1) rfl (Or.inl rfl))) (SE.w (se_gint rfl M.i_MOST_COUNTED)) rfl))))) (sb_one (ss_raise1 (k := 1) rfl (takes_of rfl rfl rfl rfl) M.e_InvalidSize (hr.mono (by decide)) rfl se_str)) sb_nil)
      (sb_cons (ss_if (st_cmp (o_in (u65 hr)) (SE.w (se_var (i := 0) rfl (Or.inl rfl))) (SE.w (se_tup (sa_cons se_str (sa_cons se_str sa_nil)))) (by with_unfolding_all rfl)) (sb_one (ss_ret (se_if (st_cmp (o_eq (u64 hr)) (SE.w (se_var (i := 0) rfl (Or.inl rfl))) (SE.w se_str) (nomark _)) (se_op o_add (SE.w se_int) (SE.w (se_var (i := 1) rfl (Or.inl rfl)))) (se_op o_add (SE.w se_int) (SE.w (se_op o_mul (SE.w se_int) (SE.w (se_var (i := 1) rfl (Or.inl rfl))))))))) sb_nil)
      (sb_cons (ss_if (st_cmp (o_in (u65 hr)) (SE.w (se_var (i := 0) rfl (Or.inl rfl))) (SE.w (se_tup (sa_cons se_str (sa_cons se_str sa_nil)))) (by with_unfolding_all rfl)) (sb_one (ss_ret (se_op o_add (SE.w (se_call (ok_power_of M B) (hr.mono (by decide)) rfl M.d_power_of.g M.d_power_of.f.kp (b_power_of M) (takes_of rfl rfl rfl rfl) (sa_cons se_int (sa_cons (se_var (i := 1) rfl (Or.inl rfl)) sa_nil)))) (SE.w se_int)))) sb_nil)
      (sb_cons (ss_if (st_cmp (o_eq (u64 hr)) (SE.w (se_var (i := 0) rfl (Or.inl rfl))) (SE.w se_str) (nomark _)) (sb_one (ss_ret (se_call (ok_rising_many M B) (hr.mono (by decide)) rfl M.d_rising_many.g M.d_rising_many.f.kp (b_rising_many M) (takes_of rfl rfl rfl rfl) (sa_cons (se_var (i := 1) rfl (Or.inl rfl)) sa_nil)))) sb_nil)
      (sb_one (ss_ret (se_if (st_cmp (o_eq (u64 hr)) (SE.w (se_var (i := 0) rfl (Or.inl rfl))) (SE.w se_str) (nomark _)) (se_call (ok_power_of M B) (hr.mono (by decide)) rfl M.d_power_of.g M.d_power_of.f.kp (b_power_of M) (takes_of rfl rfl rfl rfl) (sa_cons se_int (sa_cons (se_op o_add (SE.w (se_var (i := 1) rfl (Or.inl rfl))) (SE.w se_int)) sa_nil))) (se_call (ok_power_of M B) (hr.mono (by decide)) rfl M.d_power_of.g M.d_power_of.f.kp (b_power_of M) (takes_of rfl rfl rfl rfl) (sa_cons se_int (sa_cons (se_call (ok_power_of M B) (hr.mono (by decide)) rfl M.d_power_of.g M.d_power_of.f.kp (b_power_of M) (takes_of rfl rfl rfl rfl) (sa_cons se_int (sa_cons (se_var (i := 1) rfl (Or.inl rfl)) sa_nil))) sa_nil))))))))))

theorem b_rising_answers (M : Mo P K mg) : Binds K (fdAt K (ga K "rising_answers")) ["many"] [] := M.d_rising_answers.f.binds fun _ _ _ _ _ _ us hl => match us, hl with | [_], _ => rfl
theorem kb_rising_answers_0 (M : Mo P K mg) : KBinds K (fdAt K (ga K "rising_answers")) ["many"] ["many"] (gK 0 1 [0]) (gK 0 1 [0]) := Fs.Fun.kb (M.d_rising_answers.f) (by decide) fun _ _ _ _ _ _ us ws h1 h2 => match us, ws, h1, h2 with | [], [_], _, _ => rfl
theorem ok_rising_answers (M : Mo P K mg) (B : Bs0 base mg K) : FnOk P w K mg base (L2.CX P w) 4 (ga K "rising_answers") (fdAt K (ga K "rising_answers")) ["many"] (spF ⟨K, mg⟩ (["many"] : List Str).length fm_rising_answers) := fn_sim (M.d_rising_answers.f) sc_rising_answers fun A outer s H E hr => by
  exact sb_cons (ss_set (i := 0) sc_rising_answers.nd rfl (Or.inl rfl) (se_call (ok_need_two_many M B) (hr.mono (by decide)) rfl M.d_need_two_many.g M.d_need_two_many.f.kp (b_need_two_many M) (takes_of rfl rfl rfl rfl) (sa_cons (se_var (i := 0) rfl (Or.inl rfl)) sa_nil)))
      (sb_cons (ss_par2 (i := 1) (j := 2) rfl sc_rising_answers.nd rfl rfl (by decide) rfl rfl (sm_cons (se_call (ok_power_of M B) (hr.mono (by decide)) rfl M.d_power_of.g M.d_power_of.f.kp (b_power_of M) (takes_of rfl rfl rfl rfl) (sa_cons se_int (sa_cons (se_var (i := 0) rfl (Or.inl rfl)) sa_nil))) (sm_new sm_nil)) rfl)
      (sb_cons (ss_for (passes_of rfl) rfl (si_seq (se_call (ok_rising_marks M B) (hr.mono (by decide)) rfl M.d_rising_marks.g M.d_rising_marks.f.kp (b_rising_marks M) (takes_of rfl rfl rfl rfl) (sa_cons (se_var (i := 0) rfl (Or.inl rfl)) sa_nil))) (sg_name (i := 3) sc_rising_answers.nd rfl (Or.inl rfl)) (sb_cons (ss_par2 (i := 5) (j := 6) rfl sc_rising_answers.nd rfl rfl (by decide) rfl rfl (sm_new (sm_cons (se_var (i := 3) rfl (Or.inl rfl)) sm_nil)) rfl)
      (sb_cons (ss_for (passes_of rfl) rfl (si_rng1 rfl M.f_range (SE.w (se_var (i := 1) rfl (Or.inl rfl)))) (sg_name (i := 4) sc_rising_answers.nd rfl (Or.inl rfl)) (sb_cons (ss_app (i := 5) rfl (Or.inl rfl) (se_op o_mod (SE.w (se_var (i := 6) rfl (Or.inl rfl))) (SE.w se_int)))
      (sb_one (ss_aug (i := 6) ip_fdivI sc_rising_answers.nd rfl (Or.inl rfl) se_int))))
      (sb_one (ss_app (i := 2) rfl (Or.inl rfl) (se_ct f_tuple rfl M.f_tuple bt_tuple (saw_cons (sw_var (i := 5) rfl (Or.inl rfl)) saw_nil)))))))
      (sb_one (ss_ret (se_ct f_tuple rfl M.f_tuple bt_tuple (saw_cons (SE.w (se_cb (f_sorted (u64 hr)) rfl M.f_sorted bt_sorted (saw_cons (sw_var (i := 2) rfl (Or.inl rfl)) saw_nil))) saw_nil))))))

theorem b__law_box (M : Mo P K mg) : Binds K (fdAt K (ga K "_law_box")) ["_law_script", "_law_k"] [] := M.d__law_box.f.binds fun _ _ _ _ _ _ us hl => match us, hl with | [_, _], _ => rfl
theorem ok__law_box (M : Mo P K mg) (B : Bs0 base mg K) : FnOk P w K mg base (L2.CX P w) 1 (ga K "_law_box") (fdAt K (ga K "_law_box")) ["_law_script", "_law_k"] (spN ⟨K, mg⟩ (["_law_script", "_law_k"] : List Str).length fm__law_box) := fn_simN (M.d__law_box.f) sc__law_box fun A outer s H E hr => by
  exact sbn_cons (W := Wno) (ss_set (i := 2) sc__law_box.nd rfl (Or.inl rfl) (se_op o_add (SE.w (se_op o_mul (SE.w se_int) (SE.w (se_var (i := 1) rfl (Or.inl rfl))))) (SE.w se_int)))
      (sbn_cons (W := Wno) (ss_if (st_cmp o_lt (SE.w (se_var (i := 1) rfl (Or.inl rfl))) (SE.w (se_cb f_len rfl M.f_len bt_len (saw_cons (SE.w (se_var (i := 0) rfl (Or.inl rfl))) saw_nil))) (nomark _)) (sb_one (ss_set (i := 2) sc__law_box.nd rfl (Or.inl rfl) (se_cb f_abs rfl M.f_abs bt_abs (saw_cons (SE.w (se_at (SE.w (se_var (i := 0) rfl (Or.inl rfl))) (SE.w (se_var (i := 1) rfl (Or.inl rfl))))) saw_nil)))) (sb_one (ss_if (st_cmp o_gt (SE.w (se_cb f_len rfl M.f_len bt_len (saw_cons (SE.w (se_var (i := 0) rfl (Or.inl rfl))) saw_nil))) (SE.w se_int) (nomark _)) (sb_one (ss_set (i := 2) sc__law_box.nd rfl (Or.inl rfl) (se_op o_add (SE.w (se_var (i := 2) rfl (Or.inl rfl))) (SE.w (se_op o_mul (SE.w (se_op o_mod (SE.w (se_ct f_int rfl M.f_int bt_int (saw_cons (SE.w (se_cb f_abs rfl M.f_abs bt_abs (saw_cons (SE.w (se_at (SE.w (se_var (i := 0) rfl (Or.inl rfl))) (SE.w (se_op o_mod (SE.w (se_ct f_int rfl M.f_int bt_int (saw_cons (SE.w (se_var (i := 1) rfl (Or.inl rfl))) saw_nil))) (SE.w (se_cb f_len rfl M.f_len bt_len (saw_cons (SE.w (se_var (i := 0) rfl (Or.inl rfl))) saw_nil))))))) saw_nil))) saw_nil))) (SE.w se_int))) (SE.w se_int)))))) sb_nil)))
      (sbn_ret (W := Wno) (sa_cons (se_at (SE.w (se_lst (sa_cons se_int (sa_cons (se_var (i := 2) rfl (Or.inl rfl)) sa_nil)))) (SE.w (se_ct f_int rfl M.f_int bt_int (saw_cons (SE.w (se_cmp o_ge (SE.w (se_var (i := 2) rfl (Or.inl rfl))) (SE.w (se_op o_pow (SE.w se_int) (SE.w se_int))) (nomark _))) saw_nil)))) (sa_cons (se_op o_add (SE.w (se_op o_mod (SE.w (se_ct f_int rfl M.f_int bt_int (saw_cons (SE.w (se_op o_add (SE.w (se_op o_mul (SE.w (se_op o_mod (SE.w (se_ct f_int rfl M.f_int bt_int (saw_cons (SE.w (se_var (i := 2) rfl (Or.inl rfl))) saw_nil))) (SE.w se_int))) (SE.w se_int))) (SE.w (se_op o_mul (SE.w se_int) (SE.w (se_var (i := 1) rfl (Or.inl rfl))))))) saw_nil))) (SE.w se_int))) (SE.w se_int)) (sa_cons se_int sa_nil)))))

theorem b__law_take (M : Mo P K mg) : Binds K (fdAt K (ga K "_law_take")) ["_law_box_here", "_law_many"] [] := M.d__law_take.f.binds fun _ _ _ _ _ _ us hl => match us, hl with | [_, _], _ => rfl
theorem ok__law_take (M : Mo P K mg) (B : Bs0 base mg K) : FnOk P w K mg base (L2.CX P w) 1 (ga K "_law_take") (fdAt K (ga K "_law_take")) ["_law_box_here", "_law_many"] (spB ⟨K, mg⟩ 1 fm__law_take) := fn_simB (M.d__law_take.f) sc__law_take rfl (by decide) fun A outer s H E hr => by
  exact sb_cons (ss_if (st_cmp o_gt (SE.w (se_boxAt (i := 0) rfl (Or.inl rfl))) (SE.w se_int) (nomark _)) (sb_cons (ss_set (i := 2) sc__law_take.nd rfl (Or.inl rfl) (se_op o_mod (SE.w (se_ct f_int rfl M.f_int bt_int (saw_cons (SE.w (se_boxAt (i := 0) rfl (Or.inl rfl))) saw_nil))) (SE.w (se_var (i := 1) rfl (Or.inl rfl)))))
      (sb_cons (ss_boxPut (i := 0) rfl (Or.inl rfl) (se_op o_fdiv (SE.w (se_boxAt (i := 0) rfl (Or.inl rfl))) (SE.w (se_var (i := 1) rfl (Or.inl rfl)))))
      (sb_one (ss_ret (se_var (i := 2) rfl (Or.inl rfl)))))) sb_nil)
      (sb_cons (ss_boxPut (i := 0) rfl (Or.inl rfl) (se_op o_add (SE.w (se_boxAt (i := 0) rfl (Or.inl rfl))) (SE.w se_int)))
      (sb_cons (ss_set (i := 3) sc__law_take.nd rfl (Or.inl rfl) (se_op o_mod (SE.w (se_ct f_int rfl M.f_int bt_int (saw_cons (SE.w (se_op o_add (SE.w (se_op o_mul (SE.w (se_op o_add (SE.w (se_boxAt (i := 0) rfl (Or.inl rfl))) (SE.w (se_op o_mul (SE.w se_int) (SE.w (se_boxAt (i := 0) rfl (Or.inl rfl))))))) (SE.w se_int))) (SE.w se_int))) saw_nil))) (SE.w se_int)))
      (sb_cons (ss_boxPut (i := 0) rfl (Or.inl rfl) (se_op o_add (SE.w (se_op o_mod (SE.w (se_ct f_int rfl M.f_int bt_int (saw_cons (SE.w (se_op o_add (SE.w (se_op o_mul (SE.w (se_var (i := 3) rfl (Or.inl rfl))) (SE.w se_int))) (SE.w se_int))) saw_nil))) (SE.w se_int))) (SE.w se_int)))
      (sb_one (ss_ret (se_op o_mod (SE.w (se_ct f_int rfl M.f_int bt_int (saw_cons (SE.w (se_op o_fdiv (SE.w (se_op o_add (SE.w (se_op o_mul (SE.w (se_var (i := 3) rfl (Or.inl rfl))) (SE.w se_int))) (SE.w (se_boxAt (i := 0) rfl (Or.inl rfl))))) (SE.w se_int))) saw_nil))) (SE.w (se_var (i := 1) rfl (Or.inl rfl)))))))))

theorem b__law_pick (M : Mo P K mg) : Binds K (fdAt K (ga K "_law_pick")) ["_law_box_here", "_law_some"] [] := M.d__law_pick.f.binds fun _ _ _ _ _ _ us hl => match us, hl with | [_, _], _ => rfl
theorem ok__law_pick (M : Mo P K mg) (B : Bs0 base mg K) : FnOk P w K mg base (L2.CX P w) 2 (ga K "_law_pick") (fdAt K (ga K "_law_pick")) ["_law_box_here", "_law_some"] (spB ⟨K, mg⟩ 1 fm__law_pick) := fn_simB (M.d__law_pick.f) sc__law_pick rfl (by decide) fun A outer s H E hr => by
  exact sb_one (ss_ret (se_at (SE.w (se_var (i := 1) rfl (Or.inl rfl))) (SE.w (se_callX (i := 0) (ok__law_take M B) (hr.mono (by decide)) rfl M.d__law_take.g M.d__law_take.f.kp (b__law_take M) (takes_of rfl rfl rfl rfl) rfl (Or.inl rfl) (sa_cons (se_cb f_len rfl M.f_len bt_len (saw_cons (SE.w (se_var (i := 1) rfl (Or.inl rfl))) saw_nil)) sa_nil)))))

theorem b__law_refusal (M : Mo P K mg) : Binds K (fdAt K (ga K "_law_refusal")) ["_law_work"] [] := M.d__law_refusal.f.binds fun _ _ _ _ _ _ us hl => match us, hl with | [_], _ => rfl
theorem gives__law_refusal {X : Cx} (M : Mo X.prog X.K X.mg) : Gives X ["_law_work", "e"] "_law_refusal" s__law_refusal (ga X.K "_law_refusal") "_law_work" km__law_refusal := fun g cdg s H act ha => by
  have M : Mo (cxOf C8.CX0 X.prog X.w X.K X.mg X.base ["_law_work", "e"] "_law_refusal" (defScope s__law_refusal) (ga X.K "_law_refusal") cdg X.A X.stack s H C8.E0).nox.prog (cxOf C8.CX0 X.prog X.w X.K X.mg X.base ["_law_work", "e"] "_law_refusal" (defScope s__law_refusal) (ga X.K "_law_refusal") cdg X.A X.stack s H C8.E0).nox.K (cxOf C8.CX0 X.prog X.w X.K X.mg X.base ["_law_work", "e"] "_law_refusal" (defScope s__law_refusal) (ga X.K "_law_refusal") cdg X.A X.stack s H C8.E0).nox.mg := M
  exact sbg_consg (ssg_try rfl rfl LamX.takes0 (fun W pn xe tk => sbg_one (ssg_expr (ha W pn xe _ _ tk))) (Hs.plain ⟨rfl, by decide, .inl M.e_InvalidKind.gC⟩ (suite_plain (m := (retM (tupM (consM (cM (.str "kind")) (consM (cM (.int 0)) nilM))))) fun a oe pn => sb_one (ss_ret (se_tup (sa_cons se_str (sa_cons se_int sa_nil))))) (Hs.named (i := 1) ⟨rfl, by decide, .inl M.e_InvalidSize.gC⟩ sc__law_refusal.nd rfl rfl (suite_ret M.e_InvalidSize (c := (.str "size")) (i := 1) rfl (Or.inl rfl) fun a oe pn => se_str) (Hs.plain ⟨rfl, by decide, .inl M.gb⟩ (suite_plain (m := (retM (tupM (consM (cM (.str "other")) (consM (cM (.int 0)) nilM))))) fun a oe pn => sb_one (ss_ret (se_tup (sa_cons se_str (sa_cons se_int sa_nil))))) Hs.nil))) (.cons (hm_plain (M.kc (y := "InvalidKind") (by decide))) (.cons (hm_ret M.e_InvalidSize rfl sc__law_refusal.nd (M.kc (y := "InvalidSize") (by decide))) (.cons (hm_plain (M.kc (y := "FoldError") (by decide))) HMs.nil))))
      (SB.fixed (sb_one (ss_ret (se_tup (sa_cons se_str (sa_cons se_int sa_nil))))))

theorem b__law_rows (M : Mo P K mg) : Binds K (fdAt K (ga K "_law_rows")) ["_law_many"] [] := M.d__law_rows.f.binds fun _ _ _ _ _ _ us hl => match us, hl with | [_], _ => rfl
theorem ok__law_rows (M : Mo P K mg) (B : Bs0 base mg K) : FnOk P w K mg base (L2.CX P w) 1 (ga K "_law_rows") (fdAt K (ga K "_law_rows")) ["_law_many"] (spF ⟨K, mg⟩ (["_law_many"] : List Str).length fm__law_rows) := fn_sim (M.d__law_rows.f) sc__law_rows fun A outer s H E hr => by
  exact sb_cons (ss_set (i := 1) sc__law_rows.nd rfl (Or.inl rfl) (se_lst (sa_cons (se_tup sa_nil) sa_nil)))
      (sb_cons (ss_for (passes_of rfl) rfl (si_rng1 rfl M.f_range (SE.w (se_var (i := 0) rfl (Or.inl rfl)))) (sg_name (i := 2) sc__law_rows.nd rfl (Or.inl rfl)) (sb_cons (ss_own (i := 3) sc__law_rows.nd rfl (Or.inl rfl) (sn_lst sa_nil))
      (sb_cons (ss_for (passes_of rfl) rfl (si_seq (se_var (i := 1) rfl (Or.inl rfl))) (sg_name (i := 4) sc__law_rows.nd rfl (Or.inl rfl)) (sb_one (ss_ext (i := 3) rfl (Or.inl rfl) (sn_lst (sa_cons (se_op o_add (SE.w (se_var (i := 4) rfl (Or.inl rfl))) (SE.w (se_tup (sa_cons se_int sa_nil)))) (sa_cons (se_op o_add (SE.w (se_var (i := 4) rfl (Or.inl rfl))) (SE.w (se_tup (sa_cons se_int sa_nil)))) sa_nil))))))
      (sb_frz 3 (sb_one (ss_set (i := 1) sc__law_rows.nd rfl (Or.inl rfl) (se_var (i := 3) rfl (Or.inl rfl))))))))
      (sb_one (ss_ret (se_var (i := 1) rfl (Or.inl rfl)))))

theorem b__law_is_below (M : Mo P K mg) : Binds K (fdAt K (ga K "_law_is_below")) ["_law_low", "_law_high"] [] := M.d__law_is_below.f.binds fun _ _ _ _ _ _ us hl => match us, hl with | [_, _], _ => rfl
theorem ok__law_is_below (M : Mo P K mg) (B : Bs0 base mg K) : FnOk P w K mg base (L2.CX P w) 1 (ga K "_law_is_below") (fdAt K (ga K "_law_is_below")) ["_law_low", "_law_high"] (spF ⟨K, mg⟩ (["_law_low", "_law_high"] : List Str).length fm__law_is_below) := fn_sim (M.d__law_is_below.f) sc__law_is_below fun A outer s H E hr => by
  exact sb_one (ss_ret (se_cmp (o_eq (u64 hr)) (SE.w (SN.se (sn_lc rfl sc__law_is_below.nd (own := [("_law_at", 2), ("_law_value", 3)]) (si_enumW rfl M.f_enumerate (SE.w (se_var (i := 0) rfl (Or.inl rfl)))) (blkOk_by (by kernel_rfl)) (fun _ _ _ _ _ => sg_tup rfl (sgs_cons (sg_name (i := 2) sc__law_is_below.nd rfl (Or.inl rfl)) (sgs_cons (sg_name (i := 3) sc__law_is_below.nd rfl (Or.inl rfl)) sgs_nil))) (fun _ _ _ _ _ => pts_if (st_cmp o_gt (SE.w (se_var (i := 3) rfl (Or.inl rfl))) (SE.w (se_at (SE.w (se_var (i := 1) rfl (Or.inr (Or.inl rfl)))) (SE.w (se_var (i := 2) rfl (Or.inl rfl))))) (nomark _))) (fun _ _ _ _ _ => se_var (i := 2) rfl (Or.inl rfl)) (by decide)))) (SE.w (se_lst sa_nil)) (nomark _)))

theorem b__law_rising (M : Mo P K mg) : Binds K (fdAt K (ga K "_law_rising")) ["_law_many"] [] := M.d__law_rising.f.binds fun _ _ _ _ _ _ us hl => match us, hl with | [_], _ => rfl
theorem ok__law_rising (M : Mo P K mg) (B : Bs0 base mg K) : FnOk P w K mg base (L2.CX P w) 2 (ga K "_law_rising") (fdAt K (ga K "_law_rising")) ["_law_many"] (spF ⟨K, mg⟩ (["_law_many"] : List Str).length fm__law_rising) := fn_sim (M.d__law_rising.f) sc__law_rising fun A outer s H E hr => by
  exact sb_cons (ss_set (i := 1) sc__law_rising.nd rfl (Or.inl rfl) (se_lst (sa_cons (se_tup (sa_cons se_int sa_nil)) (sa_cons (se_tup (sa_cons se_int sa_nil)) sa_nil))))
      (sb_cons (ss_for (passes_of rfl) rfl (si_rng1 rfl M.f_range (SE.w (se_var (i := 0) rfl (Or.inl rfl)))) (sg_name (i := 2) sc__law_rising.nd rfl (Or.inl rfl)) (sb_cons (ss_own (i := 3) sc__law_rising.nd rfl (Or.inl rfl) (sn_lst sa_nil))
      (sb_cons (ss_for (passes_of rfl) rfl (si_seq (se_var (i := 1) rfl (Or.inl rfl))) (sg_name (i := 4) sc__law_rising.nd rfl (Or.inr rfl)) (sb_one (ss_ext (i := 3) rfl (Or.inl rfl) (sn_lc rfl sc__law_rising.nd (own := [("_law_high", 5)]) (si_seqW (SE.w (se_var (i := 1) rfl (Or.inl rfl)))) (blkOk_by (by kernel_rfl)) (fun _ _ _ _ _ => sg_name (i := 5) sc__law_rising.nd rfl (Or.inl rfl)) (fun _ _ _ _ _ => pts_if (st_val (SE.w (se_call (ok__law_is_below M B) (hr.mono (by decide)) rfl M.d__law_is_below.g M.d__law_is_below.f.kp (b__law_is_below M) LamX.takes0 (sa_cons (se_var (i := 4) rfl (Or.inr (Or.inl rfl))) (sa_cons (se_var (i := 5) rfl (Or.inl rfl)) sa_nil)))))) (fun _ _ _ _ _ => se_op o_add (SE.w (se_var (i := 4) rfl (Or.inr (Or.inl rfl)))) (SE.w (se_var (i := 5) rfl (Or.inl rfl)))) (by decide)))))
      (sb_frz 3 (sb_one (ss_set (i := 1) sc__law_rising.nd rfl (Or.inl rfl) (se_var (i := 3) rfl (Or.inl rfl))))))))
      (sb_one (ss_ret (se_cb (f_sorted (u64 hr)) rfl M.f_sorted bt_sorted (saw_cons (SE.w (se_var (i := 1) rfl (Or.inl rfl))) saw_nil)))))

theorem b__law_mark (M : Mo P K mg) : Binds K (fdAt K (ga K "_law_mark")) ["_law_answers"] [] := M.d__law_mark.f.binds fun _ _ _ _ _ _ us hl => match us, hl with | [_], _ => rfl
theorem ok__law_mark (M : Mo P K mg) (B : Bs0 base mg K) : FnOk P w K mg base (L2.CX P w) 1 (ga K "_law_mark") (fdAt K (ga K "_law_mark")) ["_law_answers"] (spF ⟨K, mg⟩ (["_law_answers"] : List Str).length fm__law_mark) := fn_sim (M.d__law_mark.f) sc__law_mark fun A outer s H E hr => by
  exact sb_cons (ss_set (i := 1) sc__law_mark.nd rfl (Or.inl rfl) se_int)
      (sb_cons (ss_for (passes_of rfl) rfl (si_seq (se_var (i := 0) rfl (Or.inl rfl))) (sg_name (i := 2) sc__law_mark.nd rfl (Or.inl rfl)) (sb_one (ss_set (i := 1) sc__law_mark.nd rfl (Or.inl rfl) (se_op o_add (SE.w (se_op o_mul (SE.w se_int) (SE.w (se_var (i := 1) rfl (Or.inl rfl))))) (SE.w (se_var (i := 2) rfl (Or.inl rfl)))))))
      (sb_one (ss_ret (se_var (i := 1) rfl (Or.inl rfl)))))

theorem b__law_five (M : Mo P K mg) : Binds K (fdAt K (ga K "_law_five")) [] [] := M.d__law_five.f.binds fun _ _ _ _ _ _ us hl => match us, hl with | [], _ => rfl
theorem ok__law_five (M : Mo P K mg) (B : Bs0 base mg K) : FnOk P w K mg base (L2.CX P w) 3 (ga K "_law_five") (fdAt K (ga K "_law_five")) [] (spF ⟨K, mg⟩ ([] : List Str).length fm__law_five) := fn_sim (M.d__law_five.f) sc__law_five fun A outer s H E hr => by
  exact sb_cons (ss_setLc (i := 0) rfl sc__law_five.nd rfl rfl (sw_true rfl rfl rfl (by kernel_rfl)) (own := [("_law_answers", 1)]) (si_seqW (SE.w (se_call (ok__law_rising M B) (hr.mono (by decide)) rfl M.d__law_rising.g M.d__law_rising.f.kp (b__law_rising M) (takes_of rfl rfl rfl rfl) (sa_cons se_int sa_nil)))) (blkOk_by (by kernel_rfl)) (fun _ _ _ _ _ => sg_name (i := 1) sc__law_five.nd rfl (Or.inl rfl)) (fun _ _ _ _ _ => pts_yes) (fun _ _ _ _ _ => se_call (ok__law_mark M B) (hr.mono (by decide)) rfl M.d__law_mark.g M.d__law_mark.f.kp (b__law_mark M) LamX.takes0 (sa_cons (se_var (i := 1) rfl (Or.inl rfl)) sa_nil)) (by decide))
      (sb_cons (ss_set (i := 2) sc__law_five.nd rfl (Or.inl rfl) se_int)
      (sb_cons (ss_for (passes_of rfl) rfl (si_seq (se_var (i := 0) rfl (Or.inl rfl))) (sg_name (i := 3) sc__law_five.nd rfl (Or.inr rfl)) (sb_one (ss_set (i := 2) sc__law_five.nd rfl (Or.inl rfl) (se_op o_add (SE.w (se_var (i := 2) rfl (Or.inl rfl))) (SE.w (se_cb f_len rfl M.f_len bt_len (saw_cons (SE.w (SN.se (sn_lc rfl sc__law_five.nd (own := [("_law_high", 4)]) (si_seqW (SE.w (se_var (i := 0) rfl (Or.inl rfl)))) (blkOk_by (by kernel_rfl)) (fun _ _ _ _ _ => sg_name (i := 4) sc__law_five.nd rfl (Or.inl rfl)) (fun _ _ _ _ _ => pts_if (st_cmp (o_eq (u64 hr)) (SE.w (se_op o_band (SE.w (se_var (i := 3) rfl (Or.inr (Or.inl rfl)))) (SE.w (se_var (i := 4) rfl (Or.inl rfl))))) (SE.w (se_var (i := 3) rfl (Or.inr (Or.inl rfl)))) (nomark _))) (fun _ _ _ _ _ => se_var (i := 4) rfl (Or.inl rfl)) (by decide)))) saw_nil)))))))
      (sb_one (ss_ret (se_var (i := 2) rfl (Or.inl rfl))))))

theorem b__law_listed (M : Mo P K mg) : Binds K (fdAt K (ga K "_law_listed")) ["_law_kind", "_law_many"] [] := M.d__law_listed.f.binds fun _ _ _ _ _ _ us hl => match us, hl with | [_, _], _ => rfl
theorem ok__law_listed (M : Mo P K mg) (B : Bs0 base mg K) : FnOk P w K mg base (L2.CX P w) 2 (ga K "_law_listed") (fdAt K (ga K "_law_listed")) ["_law_kind", "_law_many"] (spF ⟨K, mg⟩ (["_law_kind", "_law_many"] : List Str).length fm__law_listed) := fn_sim (M.d__law_listed.f) sc__law_listed fun A outer s H E hr => by
  exact sb_cons (ss_set (i := 2) sc__law_listed.nd rfl (Or.inl rfl) (se_call (ok__law_rows M B) (hr.mono (by decide)) rfl M.d__law_rows.g M.d__law_rows.f.kp (b__law_rows M) (takes_of rfl rfl rfl rfl) (sa_cons (se_var (i := 1) rfl (Or.inl rfl)) sa_nil)))
      (sb_cons (ss_own (i := 3) sc__law_listed.nd rfl (Or.inl rfl) (sn_lst (sa_cons se_int (sa_cons (se_call (ok__law_mark M B) (hr.mono (by decide)) rfl M.d__law_mark.g M.d__law_mark.f.kp (b__law_mark M) (takes_of rfl rfl rfl rfl) (sa_cons (SN.se (sn_lc rfl sc__law_listed.nd (own := [("_law_row", 4)]) (si_seqW (SE.w (se_var (i := 2) rfl (Or.inl rfl)))) (blkOk_by (by kernel_rfl)) (fun _ _ _ _ _ => sg_name (i := 4) sc__law_listed.nd rfl (Or.inl rfl)) (fun _ _ _ _ _ => pts_yes) (fun _ _ _ _ _ => se_int) (by decide))) sa_nil)) sa_nil))))
      (sb_cons (ss_for (passes_of rfl) rfl (si_seq (se_sl (SE.w (se_var (i := 2) rfl (Or.inl rfl))) (so_some (SE.w se_int)) so_none)) (sg_name (i := 5) sc__law_listed.nd rfl (Or.inr rfl)) (sb_cons (ss_setLc (i := 6) rfl sc__law_listed.nd rfl rfl (sw_true rfl rfl rfl (by kernel_rfl)) (own := [("_law_row", 4)]) (si_seqW (SE.w (se_var (i := 2) rfl (Or.inl rfl)))) (blkOk_by (by kernel_rfl)) (fun _ _ _ _ _ => sg_name (i := 4) sc__law_listed.nd rfl (Or.inl rfl)) (fun _ _ _ _ _ => pts_yes) (fun _ _ _ _ _ => SN.se (sn_lc rfl sc__law_listed.nd (own := [("_law_value", 7), ("_law_is_in", 8)]) (SIs.w (si_zip rfl M.f_zip (se_var (i := 4) rfl (Or.inl rfl)) (se_var (i := 5) rfl (Or.inr (Or.inl rfl))))) (blkOk_by (by kernel_rfl)) (fun _ _ _ _ _ => sg_tup rfl (sgs_cons (sg_name (i := 7) sc__law_listed.nd rfl (Or.inl rfl)) (sgs_cons (sg_name (i := 8) sc__law_listed.nd rfl (Or.inl rfl)) sgs_nil))) (fun _ _ _ _ _ => pts_if (st_cmp (o_eq (u64 hr)) (SE.w (se_var (i := 8) rfl (Or.inl rfl))) (SE.w se_int) (nomark _))) (fun _ _ _ _ _ => se_var (i := 7) rfl (Or.inl rfl)) (by decide))) (by decide))
      (sb_cons (ss_if (SWh.t (sh_and (st_cmp (o_in (u65 hr)) (SE.w (se_var (i := 0) rfl (Or.inl rfl))) (SE.w (se_tup (sa_cons se_str (sa_cons se_str sa_nil)))) (by with_unfolding_all rfl)) (sh_and1 (st_cmp (o_eq (u64 hr)) (SE.w (se_cb (f_sum rfl) rfl M.f_sum bt_sum (saw_cons (SE.w (se_var (i := 5) rfl (Or.inr (Or.inl rfl)))) saw_nil))) (SE.w se_int) (nomark _))))) (sb_cons (ss_app (i := 3) rfl (Or.inl rfl) (se_call (ok__law_mark M B) (hr.mono (by decide)) rfl M.d__law_mark.g M.d__law_mark.f.kp (b__law_mark M) (takes_of rfl rfl rfl rfl) (sa_cons (SN.se (sn_lc rfl sc__law_listed.nd (own := [("_law_part", 9)]) (si_seqW (SE.w (se_var (i := 6) rfl (Or.inl rfl)))) (blkOk_by (by kernel_rfl)) (fun _ _ _ _ _ => sg_name (i := 9) sc__law_listed.nd rfl (Or.inl rfl)) (fun _ _ _ _ _ => pts_yes) (fun _ _ _ _ _ => se_at (SE.w (se_var (i := 9) rfl (Or.inl rfl))) (SE.w se_int)) (by decide))) sa_nil)))
      (sb_one (ss_if (st_cmp (o_eq (u64 hr)) (SE.w (se_var (i := 0) rfl (Or.inl rfl))) (SE.w se_str) (nomark _)) (sb_one (ss_app (i := 3) rfl (Or.inl rfl) (se_call (ok__law_mark M B) (hr.mono (by decide)) rfl M.d__law_mark.g M.d__law_mark.f.kp (b__law_mark M) (takes_of rfl rfl rfl rfl) (sa_cons (SN.se (sn_lc rfl sc__law_listed.nd (own := [("_law_part", 9)]) (si_seqW (SE.w (se_var (i := 6) rfl (Or.inl rfl)))) (blkOk_by (by kernel_rfl)) (fun _ _ _ _ _ => sg_name (i := 9) sc__law_listed.nd rfl (Or.inl rfl)) (fun _ _ _ _ _ => pts_yes) (fun _ _ _ _ _ => se_op o_sub (SE.w se_int) (SE.w (se_at (SE.w (se_var (i := 9) rfl (Or.inl rfl))) (SE.w se_int)))) (by decide))) sa_nil)))) sb_nil))) sb_nil)
      (sb_cons (ss_if (st_cmp (o_eq (u64 hr)) (SE.w (se_var (i := 0) rfl (Or.inl rfl))) (SE.w se_str) (nomark _)) (sb_one (ss_app (i := 3) rfl (Or.inl rfl) (se_call (ok__law_mark M B) (hr.mono (by decide)) rfl M.d__law_mark.g M.d__law_mark.f.kp (b__law_mark M) (takes_of rfl rfl rfl rfl) (sa_cons (SN.se (sn_lc rfl sc__law_listed.nd (own := [("_law_part", 9)]) (si_seqW (SE.w (se_var (i := 6) rfl (Or.inl rfl)))) (blkOk_by (by kernel_rfl)) (fun _ _ _ _ _ => sg_name (i := 9) sc__law_listed.nd rfl (Or.inl rfl)) (fun _ _ _ _ _ => pts_yes) (fun _ _ _ _ _ => se_cb (f_min rfl (u64 hr)) rfl M.f_min bt_min (saw_cons (SE.w (se_var (i := 9) rfl (Or.inl rfl))) saw_nil)) (by decide))) sa_nil)))) sb_nil)
      (sb_cons (ss_if (st_cmp (o_eq (u64 hr)) (SE.w (se_var (i := 0) rfl (Or.inl rfl))) (SE.w se_str) (nomark _)) (sb_one (ss_app (i := 3) rfl (Or.inl rfl) (se_call (ok__law_mark M B) (hr.mono (by decide)) rfl M.d__law_mark.g M.d__law_mark.f.kp (b__law_mark M) (takes_of rfl rfl rfl rfl) (sa_cons (SN.se (sn_lc rfl sc__law_listed.nd (own := [("_law_part", 9)]) (si_seqW (SE.w (se_var (i := 6) rfl (Or.inl rfl)))) (blkOk_by (by kernel_rfl)) (fun _ _ _ _ _ => sg_name (i := 9) sc__law_listed.nd rfl (Or.inl rfl)) (fun _ _ _ _ _ => pts_yes) (fun _ _ _ _ _ => se_cb (f_max rfl (u64 hr)) rfl M.f_max bt_max (saw_cons (SE.w (se_var (i := 9) rfl (Or.inl rfl))) saw_nil)) (by decide))) sa_nil)))) sb_nil)
      (sb_one (ss_if (st_cmp (o_eq (u64 hr)) (SE.w (se_var (i := 0) rfl (Or.inl rfl))) (SE.w se_str) (nomark _)) (sb_cons (ss_app (i := 3) rfl (Or.inl rfl) (se_call (ok__law_mark M B) (hr.mono (by decide)) rfl M.d__law_mark.g M.d__law_mark.f.kp (b__law_mark M) (takes_of rfl rfl rfl rfl) (sa_cons (SN.se (sn_lc rfl sc__law_listed.nd (own := [("_law_part", 9)]) (si_seqW (SE.w (se_var (i := 6) rfl (Or.inl rfl)))) (blkOk_by (by kernel_rfl)) (fun _ _ _ _ _ => sg_name (i := 9) sc__law_listed.nd rfl (Or.inl rfl)) (fun _ _ _ _ _ => pts_yes) (fun _ _ _ _ _ => se_op o_mod (SE.w (se_ct f_int rfl M.f_int bt_int (saw_cons (SE.w (se_cb (f_sum rfl) rfl M.f_sum bt_sum (saw_cons (SE.w (se_var (i := 9) rfl (Or.inl rfl))) saw_nil))) saw_nil))) (SE.w se_int)) (by decide))) sa_nil)))
      (sb_one (ss_app (i := 3) rfl (Or.inl rfl) (se_call (ok__law_mark M B) (hr.mono (by decide)) rfl M.d__law_mark.g M.d__law_mark.f.kp (b__law_mark M) (takes_of rfl rfl rfl rfl) (sa_cons (SN.se (sn_lc rfl sc__law_listed.nd (own := [("_law_part", 9)]) (si_seqW (SE.w (se_var (i := 6) rfl (Or.inl rfl)))) (blkOk_by (by kernel_rfl)) (fun _ _ _ _ _ => sg_name (i := 9) sc__law_listed.nd rfl (Or.inl rfl)) (fun _ _ _ _ _ => pts_yes) (fun _ _ _ _ _ => se_op o_mod (SE.w (se_ct f_int rfl M.f_int bt_int (saw_cons (SE.w (se_op o_add (SE.w (se_cb (f_sum rfl) rfl M.f_sum bt_sum (saw_cons (SE.w (se_var (i := 9) rfl (Or.inl rfl))) saw_nil))) (SE.w se_int))) saw_nil))) (SE.w se_int)) (by decide))) sa_nil))))) sb_nil)))))))
      (sb_one (ss_ret (se_lenSet rfl rfl M.f_len rfl M.f_set (sw_var (i := 3) rfl (Or.inl rfl)))))))

theorem b__law_due (M : Mo P K mg) : Binds K (fdAt K (ga K "_law_due")) ["_law_kind", "_law_many"] [] := M.d__law_due.f.binds fun _ _ _ _ _ _ us hl => match us, hl with | [_, _], _ => rfl
theorem ok__law_due (M : Mo P K mg) (B : Bs0 base mg K) : FnOk P w K mg base (L2.CX P w) 4 (ga K "_law_due") (fdAt K (ga K "_law_due")) ["_law_kind", "_law_many"] (spF ⟨K, mg⟩ (["_law_kind", "_law_many"] : List Str).length fm__law_due) := fn_sim (M.d__law_due.f) sc__law_due fun A outer s H E hr => by
  exact sb_cons (ss_if (st_cmp (o_eq (u64 hr)) (SE.w (se_var (i := 0) rfl (Or.inl rfl))) (SE.w se_str) (nomark _)) (sb_cons (ss_par2 (i := 3) (j := 4) rfl sc__law_due.nd rfl rfl (by decide) rfl rfl (sm_cons (se_cb f_len rfl M.f_len bt_len (saw_cons (SE.w (se_call (ok__law_rows M B) (hr.mono (by decide)) rfl M.d__law_rows.g M.d__law_rows.f.kp (b__law_rows M) (takes_of rfl rfl rfl rfl) (sa_cons (se_var (i := 1) rfl (Or.inl rfl)) sa_nil))) saw_nil)) (sm_cons se_int sm_nil)) rfl)
      (sb_cons (ss_for (passes_of rfl) rfl (si_rng1 rfl M.f_range (SE.w (se_var (i := 3) rfl (Or.inl rfl)))) (sg_name (i := 2) sc__law_due.nd rfl (Or.inl rfl)) (sb_one (ss_set (i := 4) sc__law_due.nd rfl (Or.inl rfl) (se_op o_mul (SE.w se_int) (SE.w (se_var (i := 4) rfl (Or.inl rfl)))))))
      (sb_one (ss_ret (se_var (i := 4) rfl (Or.inl rfl)))))) sb_nil)
      (sb_cons (ss_if (st_cmp (o_eq (u64 hr)) (SE.w (se_var (i := 0) rfl (Or.inl rfl))) (SE.w se_str) (nomark _)) (sb_one (ss_ret (se_if (st_cmp (o_eq (u64 hr)) (SE.w (se_var (i := 1) rfl (Or.inl rfl))) (SE.w se_int) (nomark _)) (se_call0 (ok__law_five M B) (hr.mono (by decide)) rfl M.d__law_five.g M.d__law_five.f.kp (b__law_five M) (takes_of rfl rfl rfl rfl)) (se_cb f_len rfl M.f_len bt_len (saw_cons (SE.w (se_call (ok__law_rising M B) (hr.mono (by decide)) rfl M.d__law_rising.g M.d__law_rising.f.kp (b__law_rising M) (takes_of rfl rfl rfl rfl) (sa_cons (se_var (i := 1) rfl (Or.inl rfl)) sa_nil))) saw_nil))))) sb_nil)
      (sb_one (ss_ret (se_call (ok__law_listed M B) (hr.mono (by decide)) rfl M.d__law_listed.g M.d__law_listed.f.kp (b__law_listed M) (takes_of rfl rfl rfl rfl) (sa_cons (se_var (i := 0) rfl (Or.inl rfl)) (sa_cons (se_var (i := 1) rfl (Or.inl rfl)) sa_nil))))))

theorem b_law (M : Mo P K mg) : Binds K (fdAt K (ga K "law")) ["_law_script"] [] := M.d_law.f.binds fun _ _ _ _ _ _ us hl => match us, hl with | [_], _ => rfl
theorem ok_law (M : Mo P K mg) (B : Bs0 base mg K) : FnOk P w K mg base (L2.CX P w) 7 (ga K "law") (fdAt K (ga K "law")) ["_law_script"] (spF ⟨K, mg⟩ (["_law_script"] : List Str).length fm_law) := fn_sim (M.d_law.f) sc_law fun A outer s H E hr => by
  exact sb_cons (ss_if (SWh.t (sh_or (st_cmp (o_ne (u64 hr)) (SE.w (se_callK0 (ok_kind_count M B) (hr.mono (by decide)) rfl M.d_kind_count.g M.d_kind_count.f.kp (kb_kind_count_0 M) (takes_of rfl rfl rfl rfl) (sk_cons se_str (sk_cons se_int sk_nil)))) (SE.w se_int) (nomark _)) (sh_or (st_cmp (o_ne (u64 hr)) (SE.w (se_call (ok_kind_count M B) (hr.mono (by decide)) rfl M.d_kind_count.g M.d_kind_count.f.kp (b_kind_count M) (takes_of rfl rfl rfl rfl) (sa_cons se_str (sa_cons se_int sa_nil)))) (SE.w se_int) (nomark _)) (sh_or1 (st_cmp (o_ne (u64 hr)) (SE.w (se_callK0 (ok_rising_answers M B) (hr.mono (by decide)) rfl M.d_rising_answers.g M.d_rising_answers.f.kp (kb_rising_answers_0 M) (takes_of rfl rfl rfl rfl) (sk_cons se_int sk_nil))) (SE.w (se_tup (sa_cons (se_tup (sa_cons se_int (sa_cons se_int sa_nil))) (sa_cons (se_tup (sa_cons se_int (sa_cons se_int sa_nil))) (sa_cons (se_tup (sa_cons se_int (sa_cons se_int sa_nil))) sa_nil))))) (nomark _)))))) (sb_one (ss_ret se_bl)) sb_nil)
      (sb_cons (ss_for (passes_of rfl) rfl (si_rng1 rfl M.f_range (SE.w se_int)) (sg_name (i := 1) sc_law.nd rfl (Or.inl rfl)) (sb_cons (ss_box (i := 2) (ok__law_box M B) (hr.mono (by decide)) rfl M.d__law_box.g M.d__law_box.f.kp (b__law_box M) (takes_of rfl rfl rfl rfl) sc_law.nd rfl (Or.inr rfl) (sa_cons (se_var (i := 0) rfl (Or.inl rfl)) (sa_cons (se_var (i := 1) rfl (Or.inl rfl)) sa_nil)))
      (sb_cons (ss_set (i := 3) sc_law.nd rfl (Or.inr rfl) (se_callX (i := 2) (ok__law_pick M B) (hr.mono (by decide)) rfl M.d__law_pick.g M.d__law_pick.f.kp (b__law_pick M) (takes_of rfl rfl rfl rfl) rfl (Or.inr (Or.inl rfl)) (sa_cons (se_lst (sa_cons se_str (sa_cons se_str (sa_cons se_str (sa_cons se_str (sa_cons se_str (sa_cons se_str (sa_cons se_str sa_nil)))))))) sa_nil)))
      (sb_cons (ss_set (i := 4) sc_law.nd rfl (Or.inl rfl) (se_op o_add (SE.w se_int) (SE.w (se_callX (i := 2) (ok__law_take M B) (hr.mono (by decide)) rfl M.d__law_take.g M.d__law_take.f.kp (b__law_take M) (takes_of rfl rfl rfl rfl) rfl (Or.inr (Or.inl rfl)) (sa_cons (se_if (st_cmp (o_eq (u64 hr)) (SE.w (se_var (i := 3) rfl (Or.inr (Or.inl rfl)))) (SE.w se_str) (nomark _)) se_int se_int) sa_nil)))))
      (sb_cons (ss_if (SWh.t (sh_and (st_cmp (o_eq (u64 hr)) (SE.w (se_var (i := 3) rfl (Or.inr (Or.inl rfl)))) (SE.w se_str) (nomark _)) (sh_and (st_cmp (o_eq (u64 hr)) (SE.w (se_var (i := 4) rfl (Or.inl rfl))) (SE.w se_int) (nomark _)) (sh_and1 (st_cmp o_gt (SE.w (se_var (i := 1) rfl (Or.inl rfl))) (SE.w se_int) (nomark _)))))) (sb_one (ss_set (i := 4) sc_law.nd rfl (Or.inl rfl) se_int)) sb_nil)
      (sb_cons (ss_set (i := 5) sc_law.nd rfl (Or.inl rfl) (se_callK0 (ok_kind_count M B) (hr.mono (by decide)) rfl M.d_kind_count.g M.d_kind_count.f.kp (kb_kind_count_0 M) (takes_of rfl rfl rfl rfl) (sk_cons (se_var (i := 3) rfl (Or.inr (Or.inl rfl))) (sk_cons (se_var (i := 4) rfl (Or.inl rfl)) sk_nil))))
      (sb_cons (ss_if (SWh.t (sh_or (st_cmp (o_ne (u64 hr)) (SE.w (se_var (i := 5) rfl (Or.inl rfl))) (SE.w (se_call (ok__law_due M B) (hr.mono (by decide)) rfl M.d__law_due.g M.d__law_due.f.kp (b__law_due M) (takes_of rfl rfl rfl rfl) (sa_cons (se_var (i := 3) rfl (Or.inr (Or.inl rfl))) (sa_cons (se_var (i := 4) rfl (Or.inl rfl)) sa_nil)))) (nomark _)) (sh_or (st_not (st_val (SE.w (se_isi rfl M.f_isinstance rfl M.f_int bt_int (SE.w (se_var (i := 5) rfl (Or.inl rfl))))))) (sh_or1 (st_val (SE.w (se_isi rfl M.f_isinstance rfl M.f_bool bt_bool (SE.w (se_var (i := 5) rfl (Or.inl rfl)))))))))) (sb_one (ss_ret se_bl)) sb_nil)
      (sb_cons (ss_set (i := 6) sc_law.nd rfl (Or.inl rfl) (se_op o_add (SE.w se_int) (SE.w (se_callX (i := 2) (ok__law_take M B) (hr.mono (by decide)) rfl M.d__law_take.g M.d__law_take.f.kp (b__law_take M) (takes_of rfl rfl rfl rfl) rfl (Or.inr (Or.inl rfl)) (sa_cons se_int sa_nil)))))
      (sb_cons (ss_set (i := 7) sc_law.nd rfl (Or.inl rfl) (se_call (ok_rising_answers M B) (hr.mono (by decide)) rfl M.d_rising_answers.g M.d_rising_answers.f.kp (b_rising_answers M) (takes_of rfl rfl rfl rfl) (sa_cons (se_var (i := 6) rfl (Or.inl rfl)) sa_nil)))
      (sb_cons (ss_if (SWh.t (sh_or (st_not (st_val (SE.w (se_isi rfl M.f_isinstance rfl M.f_tuple bt_tuple (SE.w (se_var (i := 7) rfl (Or.inl rfl))))))) (sh_or (st_cmp (o_ne (u64 hr)) (SE.w (se_ct f_list rfl M.f_list bt_list (saw_cons (SE.w (se_var (i := 7) rfl (Or.inl rfl))) saw_nil))) (SE.w (se_call (ok__law_rising M B) (hr.mono (by decide)) rfl M.d__law_rising.g M.d__law_rising.f.kp (b__law_rising M) (takes_of rfl rfl rfl rfl) (sa_cons (se_var (i := 6) rfl (Or.inl rfl)) sa_nil))) (nomark _)) (sh_or1 (st_cmp (o_ne (u64 hr)) (SE.w (se_cb f_len rfl M.f_len bt_len (saw_cons (SE.w (se_var (i := 7) rfl (Or.inl rfl))) saw_nil))) (SE.w (se_call (ok_kind_count M B) (hr.mono (by decide)) rfl M.d_kind_count.g M.d_kind_count.f.kp (b_kind_count M) (takes_of rfl rfl rfl rfl) (sa_cons se_str (sa_cons (se_var (i := 6) rfl (Or.inl rfl)) sa_nil)))) (nomark _)))))) (sb_one (ss_ret se_bl)) sb_nil)
      (sb_cons (ss_if (st_cmp o_isntB (SE.w (se_call (ok_has_kind M B) (hr.mono (by decide)) rfl M.d_has_kind.g M.d_has_kind.f.kp (b_has_kind M) (takes_of rfl rfl rfl rfl) (sa_cons se_str (sa_cons (se_callX (i := 2) (ok__law_pick M B) (hr.mono (by decide)) rfl M.d__law_pick.g M.d__law_pick.f.kp (b__law_pick M) (takes_of rfl rfl rfl rfl) rfl (Or.inr (Or.inl rfl)) (sa_cons (se_var (i := 7) rfl (Or.inl rfl)) sa_nil)) sa_nil)))) (SE.w se_bl) (nomark _)) (sb_one (ss_ret se_bl)) sb_nil)
      (sb_cons (ss_if (st_cmp (o_ne (u64 hr)) (SE.w (se_lamcall (k := 4) rfl M.d__law_refusal.g M.d__law_refusal.f (b__law_refusal M) sc__law_refusal rfl rfl (Or.inl rfl) (gives__law_refusal M) (B "law" (by decide)) M.c_law (tabs_in hd K (x := "law") (by decide)) M.o_law (hr.mono (by decide)) (LamX.lamS_by (by kernel_rfl)) rfl (fun _ _ _ _ _ => rfl) (fun A outer s H E f2 k2 hr => se_call (ok_kind_count M B) (hr.mono (by decide)) rfl M.d_kind_count.g M.d_kind_count.f.kp (b_kind_count M) (takes_of rfl rfl rfl rfl) (sa_cons (se_callX (i := 2) (ok__law_pick M B) (hr.mono (by decide)) rfl M.d__law_pick.g M.d__law_pick.f.kp (b__law_pick M) (takes_of rfl rfl rfl rfl) rfl (Or.inr (Or.inr rfl)) (sa_cons (se_lst (sa_cons se_non (sa_cons se_str (sa_cons se_int (sa_cons se_str (sa_cons (se_tup (sa_cons se_str sa_nil)) sa_nil)))))) sa_nil)) (sa_cons se_int sa_nil))))) (SE.w (se_tup (sa_cons se_str (sa_cons se_int sa_nil)))) (nomark _)) (sb_one (ss_ret se_bl)) sb_nil)
      (sb_cons (ss_if (st_cmp (o_ne (u64 hr)) (SE.w (se_lamcall (k := 4) rfl M.d__law_refusal.g M.d__law_refusal.f (b__law_refusal M) sc__law_refusal rfl rfl (Or.inl rfl) (gives__law_refusal M) (B "law" (by decide)) M.c_law (tabs_in hd K (x := "law") (by decide)) M.o_law (hr.mono (by decide)) (LamX.lamS_by (by kernel_rfl)) rfl (fun _ _ _ _ _ => rfl) (fun A outer s H E f2 k2 hr => se_call (ok_kind_count M B) (hr.mono (by decide)) rfl M.d_kind_count.g M.d_kind_count.f.kp (b_kind_count M) (takes_of rfl rfl rfl rfl) (sa_cons (se_var (i := 3) rfl (Or.inr (Or.inr rfl))) (sa_cons (se_callX (i := 2) (ok__law_pick M B) (hr.mono (by decide)) rfl M.d__law_pick.g M.d__law_pick.f.kp (b__law_pick M) (takes_of rfl rfl rfl rfl) rfl (Or.inr (Or.inr rfl)) (sa_cons (se_lst (sa_cons se_int (sa_cons se_int (sa_cons se_bl (sa_cons se_non (sa_cons se_str (sa_cons (se_op o_sub (SE.w se_int) (SE.w se_int)) sa_nil))))))) sa_nil)) sa_nil))))) (SE.w (se_tup (sa_cons se_str (sa_cons se_str sa_nil)))) (nomark _)) (sb_one (ss_ret se_bl)) sb_nil)
      (sb_one (ss_if (st_cmp (o_ne (u64 hr)) (SE.w (se_lamcall (k := 4) rfl M.d__law_refusal.g M.d__law_refusal.f (b__law_refusal M) sc__law_refusal rfl rfl (Or.inl rfl) (gives__law_refusal M) (B "law" (by decide)) M.c_law (tabs_in hd K (x := "law") (by decide)) M.o_law (hr.mono (by decide)) (LamX.lamS_by (by kernel_rfl)) rfl (fun _ _ _ _ _ => rfl) (fun A outer s H E f2 k2 hr => se_call (ok_rising_answers M B) (hr.mono (by decide)) rfl M.d_rising_answers.g M.d_rising_answers.f.kp (b_rising_answers M) (takes_of rfl rfl rfl rfl) (sa_cons (se_callX (i := 2) (ok__law_pick M B) (hr.mono (by decide)) rfl M.d__law_pick.g M.d__law_pick.f.kp (b__law_pick M) (takes_of rfl rfl rfl rfl) rfl (Or.inr (Or.inr rfl)) (sa_cons (se_lst (sa_cons se_int (sa_cons se_int (sa_cons se_bl (sa_cons se_non (sa_cons se_str sa_nil)))))) sa_nil)) sa_nil)))) (SE.w (se_tup (sa_cons se_str (sa_cons se_str sa_nil)))) (nomark _)) (sb_one (ss_ret se_bl)) sb_nil)))))))))))))))
      (sb_one (ss_ret se_bl)))
end
end Fs

/-! PL: plain laws: loops and comprehensions, equality. -/
namespace Fs
open L2 PyProof.Rows PySem.Spec PySem
/-! ### comprehensions -/
theorem compL_map {tf : TF} {mt : ME Bool} {me : ME D} {ρ0 : En} {b : Bx} (f : D → D) : ∀ {ds : List D}, (∀ d ∈ ds, ∃ ρ1, tf d ρ0 = some ρ1 ∧ mt ρ1 b = .ok true b ∧ me ρ1 b = .ok (f d) b) → compL tf mt me ρ0 ds b = .ok (ds.map f) b
  | [], _ => rfl
  | d :: ds, h => by
    obtain ⟨ρ1, e1, e2, e3⟩ := h d (List.mem_cons_self ..)
    have ih := compL_map f (ds := ds) fun d hd => h d (List.mem_cons_of_mem _ hd)
    unfold compL
    simp only [e1, e2, e3, ih, List.map_cons]
theorem compL_sel {tf : TF} {mt : ME Bool} {me : ME D} {ρ0 : En} {b : Bx} (p : D → Bool) (f : D → D) : ∀ {ds : List D}, (∀ d ∈ ds, ∃ ρ1, tf d ρ0 = some ρ1 ∧ mt ρ1 b = .ok (p d) b ∧ (p d = true → me ρ1 b = .ok (f d) b)) → compL tf mt me ρ0 ds b = .ok ((ds.filter p).map f) b
  | [], _ => rfl
  | d :: ds, h => by
    obtain ⟨ρ1, e1, e2, e3⟩ := h d (List.mem_cons_self ..)
    have ih := compL_sel p f (ds := ds) fun d hd => h d (List.mem_cons_of_mem _ hd)
    unfold compL
    cases hp : p d with
    | false =>
      rw [hp] at e2
      simp only [e1, e2, ih, List.filter_cons, hp, Bool.false_eq_true, if_false]
    | true =>
      rw [hp] at e2
      simp only [e1, e2, e3 hp, ih, List.filter_cons, hp, if_true, List.map_cons]
inductive All2 {α β : Type} (P : α → β → Prop) : List α → List β → Prop
  | nil : All2 P [] []
  | cons {a : α} {b : β} {as : List α} {bs : List β} : P a b → All2 P as bs → All2 P (a :: as) (b :: bs)
theorem All2.len {α β : Type} {P : α → β → Prop} {as : List α} {bs : List β} (h : All2 P as bs) : bs.length = as.length := by
  induction h with
  | nil => rfl
  | cons _ _ ih => simp [ih]
theorem All2.right {α β : Type} {P : α → β → Prop} {Q : β → Prop} {as : List α} {bs : List β} (h : All2 P as bs) (k : ∀ a b, P a b → Q b) : ∀ b ∈ bs, Q b := by
  induction h with
  | nil => exact fun b hb => by cases hb
  | cons p _ ih =>
    intro b hb
    rcases List.mem_cons.mp hb with z | z
    · rw [z]; exact k _ _ p
    · exact ih b z
/-- a comprehension whose elements are drawn -/
theorem compL_draw {tf : TF} {mt : ME Bool} {me : ME D} {ρ0 : En} {bx : Int × Int × Int → Bx} {P : D → D → Prop} : ∀ {ds : List D} (t : Int × Int × Int), (∀ d ∈ ds, ∀ t, ∃ ρ1 y t', tf d ρ0 = some ρ1 ∧ mt ρ1 (bx t) = .ok true (bx t) ∧ me ρ1 (bx t) = .ok y (bx t') ∧ P d y) →
    ∃ ys t', compL tf mt me ρ0 ds (bx t) = .ok ys (bx t') ∧ All2 P ds ys
  | [], t, _ => ⟨[], t, rfl, .nil⟩
  | d :: ds, t, h => by
    obtain ⟨ρ1, y, t1, e1, e2, e3, hp⟩ := h d (List.mem_cons_self ..) t
    obtain ⟨ys, t2, e4, hq⟩ := compL_draw (ds := ds) t1 fun d hd => h d (List.mem_cons_of_mem _ hd)
    refine ⟨y :: ys, t2, ?_, .cons hp hq⟩
    unfold compL
    simp only [e1, e2, e3, e4]
/-! ### loops -/
theorem forL_inv {I : Nat → En → Bx → Prop} {tf : TF} {body : MS} {all : List D} (step : ∀ i d, all[i]? = some d → ∀ ρ b, I i ρ b → ∃ ρ1 ρ2 b2, tf d ρ = some ρ1 ∧ body ρ1 b = .nx ρ2 b2 ∧ I (i + 1) ρ2 b2) : ∀ (n k : Nat), k + n = all.length → ∀ ρ b, I k ρ b → ∃ ρ' b', forL tf body (all.drop k) ρ b = .nx ρ' b' ∧ I all.length ρ' b'
  | 0, k, hk, ρ, b, h => by
    have : k = all.length := by omega
    subst this
    rw [List.drop_length]
    exact ⟨ρ, b, rfl, h⟩
  | n + 1, k, hk, ρ, b, h => by
    have hlt : k < all.length := by omega
    obtain ⟨ρ1, ρ2, b2, e1, e2, h2⟩ := step k all[k] (List.getElem?_eq_getElem hlt) ρ b h
    obtain ⟨ρ', b', e3, h3⟩ := forL_inv step n (k + 1) (by omega) ρ2 b2 h2
    refine ⟨ρ', b', ?_, h3⟩
    rw [List.drop_eq_getElem_cons hlt]
    unfold forL
    simp only [e1, e2, e3]
theorem forL_all {I : Nat → En → Bx → Prop} {tf : TF} {body : MS} {all : List D} (step : ∀ i d, all[i]? = some d → ∀ ρ b, I i ρ b → ∃ ρ1 ρ2 b2, tf d ρ = some ρ1 ∧ body ρ1 b = .nx ρ2 b2 ∧ I (i + 1) ρ2 b2) {ρ : En} {b : Bx} (h : I 0 ρ b) : ∃ ρ' b', forL tf body all ρ b = .nx ρ' b' ∧ I all.length ρ' b' :=
  forL_inv step all.length 0 (Nat.zero_add _) ρ b h
/-! ### equality -/
theorem eqD_00 (d e : D) : eqD d e = eqD0 d e := by
  unfold eqD
  split
  · kernel_rfl
  · rfl
theorem neD_00 (d e : D) : neD d e = neD0 d e := by
  unfold neD
  split
  · kernel_rfl
  · rfl
theorem ne_self {d : D} (h : shp d = true) : neD d d = some (.bool false) := by
  rw [neD_00]
  unfold neD0
  rw [h, if_pos (by rfl), SeqAt.eqv_refl d (SeqAt.canLay_of_shaped h)]
  rfl
theorem eq_self {d : D} (h : shp d = true) : eqD d d = some (.bool true) := by
  rw [eqD_00]
  unfold eqD0
  rw [h, if_pos (by rfl), SeqAt.eqv_refl d (SeqAt.canLay_of_shaped h)]
theorem ne_eq {d e : D} (h : shp d = true) (he : e = d) : neD e d = some (.bool false) := by rw [he]; exact ne_self h
/-! ### ints -/
theorem atI_get {α : Type} {xs : List α} {i : Nat} {x : α} (h : xs[i]? = some x) : atI xs (i : Int) = some x := by
  obtain ⟨hl, e⟩ := List.getElem?_eq_some_iff.mp h
  unfold atI ixN
  have h1 : ((i : Int)) < ((xs.length : Nat) : Int) := by omega
  rw [if_pos (by omega), if_pos h1]
  exact h
theorem ints_map : ∀ xs : List Int, intsF (xs.map .int) = some xs
  | [] => rfl
  | x :: xs => by simp [intsF, ints_map xs]
/-! ### applied -/
theorem rb_ok {τ υ : Type} (a : τ) (b : Bx) (f : τ → Bx → R υ) : R.bind (.ok a b) f = f a b := rfl
theorem rb_ex {τ υ : Type} (e : Exn) (b : Bx) (f : τ → Bx → R υ) : R.bind (.ex e b) f = .ex e b := rfl
theorem lo_some {τ : Type} (a : τ) (ρ : En) (b : Bx) : liftO (some a) ρ b = .ok a b := rfl
theorem ite_ap {τ : Type} (c : Prop) [Decidable c] (m n : En → Bx → τ) (ρ : En) (b : Bx) : (if c then m else n) ρ b = if c then m ρ b else n ρ b := by split <;> rfl
theorem call_ok {fm : FN} {ds : List D} {d : D} {n : Nat} {b : Bx} {ms : ME (List D)} {ρ : En} (h : ms ρ b = .ok ds b) (e : fm ds = .ok d) (hl : ds.length = n := by rfl) : callM n fm ms ρ b = .ok d b := by
  unfold callM bindM
  rw [h]
  show (if ds.length = n then _ else _) = _
  rw [if_pos hl, e]
theorem bindM_ap {τ υ : Type} (m : ME τ) (f : τ → ME υ) (ρ : En) (b : Bx) : bindM m f ρ b = R.bind (m ρ b) fun a b' => f a ρ b' := rfl
theorem cM_ap (d : D) (ρ : En) (b : Bx) : cM d ρ b = .ok d b := rfl
theorem bM_ap (k : Bool) (ρ : En) (b : Bx) : bM k ρ b = .ok k b := rfl
theorem nilM_ap  (ρ : En) (b : Bx) : nilM ρ b = .ok [] b := rfl
theorem noM_ap  (ρ : En) (b : Bx) : noM ρ b = .ok none b := rfl
theorem opM_ap (op : D → D → Option D) (ma mb : ME D) (ρ : En) (b : Bx) : opM op ma mb ρ b = bindM ma (fun x => bindM mb fun y => liftO (op x y)) ρ b := rfl
theorem tstM_ap (m : ME D) (ρ : En) (b : Bx) : tstM m ρ b = bindM m (fun d => liftO (toB d)) ρ b := rfl
theorem truM_ap (m : ME D) (ρ : En) (b : Bx) : truM m ρ b = bindM m (fun d => liftO (truD d)) ρ b := rfl
theorem consM_ap (ma : ME D) (ms : ME (List D)) (ρ : En) (b : Bx) : consM ma ms ρ b = bindM ma (fun d => bindM ms fun ds => fun _ b => .ok (d :: ds) b) ρ b := rfl
theorem tupM_ap (ms : ME (List D)) (ρ : En) (b : Bx) : tupM ms ρ b = bindM ms (fun ds => liftO (if ds.length ≤ sizeLine then some (.tuple ds) else none)) ρ b := rfl
theorem lstM_ap (ms : ME (List D)) (ρ : En) (b : Bx) : lstM ms ρ b = bindM ms (fun ds => liftO (if ds.length ≤ sizeLine then some (.list ds) else none)) ρ b := rfl
theorem limM_ap (ms : ME (List D)) (ρ : En) (b : Bx) : limM ms ρ b = bindM ms (fun ds => liftO (if ds.length ≤ sizeLine then some ds else none)) ρ b := rfl
theorem lsM_ap (ms : ME (List D)) (ρ : En) (b : Bx) : lsM ms ρ b = bindM ms (fun ds => cM (.list ds)) ρ b := rfl
theorem cbM_ap (f : List D → Option D) (ms : ME (List D)) (ρ : En) (b : Bx) : cbM f ms ρ b = bindM ms (fun ds => liftO (f ds)) ρ b := rfl
theorem iteM_ap {τ : Type} (mt : ME Bool) (ma mb : ME τ) (ρ : En) (b : Bx) : iteM mt ma mb ρ b = bindM mt (fun t => if t = true then ma else mb) ρ b := rfl
theorem andM_ap (mt mu : ME Bool) (ρ : En) (b : Bx) : andM mt mu ρ b = iteM mt mu (bM false) ρ b := rfl
theorem orM_ap (mt mu : ME Bool) (ρ : En) (b : Bx) : orM mt mu ρ b = iteM mt (bM true) mu ρ b := rfl
theorem notM_ap (mt : ME Bool) (ρ : En) (b : Bx) : notM mt ρ b = bindM mt (fun t => bM (!t)) ρ b := rfl
theorem andV_ap (ma mb : ME D) (ρ : En) (b : Bx) : andV ma mb ρ b = bindM (tstM ma) (fun k => if k = true then mb else cM (.bool false)) ρ b := rfl
theorem orV_ap (ma mb : ME D) (ρ : En) (b : Bx) : orV ma mb ρ b = bindM (tstM ma) (fun k => if k = true then cM (.bool true) else mb) ρ b := rfl
theorem notV_ap (ma : ME D) (ρ : En) (b : Bx) : notV ma ρ b = bindM (tstM ma) (fun k => cM (.bool (!k))) ρ b := rfl
theorem soM_ap (m : ME D) (ρ : En) (b : Bx) : soM m ρ b = bindM m (fun d => liftO ((toI d).map some)) ρ b := rfl
theorem slM_ap (ma : ME D) (ml mh : ME (Option Int)) (ρ : En) (b : Bx) : slM ma ml mh ρ b = bindM ma (fun d => bindM ml fun lo => bindM mh fun hi => liftO (slD lo hi d)) ρ b := rfl
theorem itM_ap (ma : ME D) (ρ : En) (b : Bx) : itM ma ρ b = bindM ma (fun d => liftO (itsD d)) ρ b := rfl
theorem rng1M_ap (ma : ME D) (ρ : En) (b : Bx) : rng1M ma ρ b = bindM ma (fun d => liftO (rng1F d)) ρ b := rfl
theorem enM_ap (ma : ME D) (ρ : En) (b : Bx) : enM ma ρ b = bindM ma (fun d => liftO (enD d)) ρ b := rfl
theorem negM_ap (ma : ME D) (ρ : En) (b : Bx) : negM ma ρ b = bindM ma (fun d => liftO (negF d)) ρ b := rfl
theorem revM_ap (ma : ME D) (ρ : En) (b : Bx) : revM ma ρ b = bindM ma (fun d => liftO (revD d)) ρ b := rfl
theorem isiM_ap (c : String) (ma : ME D) (ρ : En) (b : Bx) : isiM c ma ρ b = bindM ma (fun d => liftO (isiD c d)) ρ b := rfl
theorem isi2M_ap (c e : String) (ma : ME D) (ρ : En) (b : Bx) : isi2M c e ma ρ b = bindM ma (fun d => liftO (isi2D c e d)) ρ b := rfl
theorem lenSetM_ap (ma : ME D) (ρ : En) (b : Bx) : lenSetM ma ρ b = bindM ma (fun d => liftO (lenSetF d)) ρ b := rfl
theorem callM_ap (n : Nat) (fm : FN) (ms : ME (List D)) (ρ : En) (b : Bx) : callM n fm ms ρ b = bindM ms (fun ds _ b => if ds.length = n then (match fm ds with | .ok d => .ok d b | .ex e => .ex e b | .bad => .bad) else .bad) ρ b := rfl
theorem callK_ap (np nk : Nat) (is : List Nat) (n : Nat) (fm : FN) (ms mk : ME (List D)) (ρ : En) (b : Bx) : callK np nk is n fm ms mk ρ b = bindM ms (fun ds => bindM mk fun es => callM n fm fun _ b => .ok (gK np nk is ds es) b) ρ b := rfl
theorem boxed_ap (n : Nat) (fm : FB) (g : PB → Bool) (ds : List D) (ρ : En) (b : Bx) : boxed n fm g ds ρ b = match bxGet b with | some t => (if ds.length = n ∧ g (fm t ds) = true then (match fm t ds with | .ok d t' => .ok d (bxPut b t') | .ex e t' => .ex e (bxPut b t') | .bad => .bad) else .bad) | none => .bad := rfl
theorem callX_ap (i n : Nat) (fm : FB) (ms : ME (List D)) (ρ : En) (b : Bx) : callX i n fm ms ρ b = match ρ[i]? with | some .bx => bindM ms (boxed n fm fun _ => true) ρ b | _ => .bad := rfl
theorem compM_ap (mi : ME (List D)) (vs : List Nat) (tf : TF) (mt : ME Bool) (me : ME D) (ρ : En) (b : Bx) : compM mi vs tf mt me ρ b = bindM mi (fun ds ρ b => if noOwn ρ vs then compL tf mt me (wipeE ρ vs) ds b else .bad) ρ b := rfl
theorem varM_ap (i : Nat) (ρ : En) (b : Bx) : varM i ρ b = match ρ[i]? with | some (.v d) => .ok d b | _ => .bad := rfl
theorem varB_ap (i : Nat) (ρ : En) (b : Bx) : varB i ρ b = match ρ[i]? with | some (.v d) => .ok d b | some (.own xs) => .ok (.list xs) b | some (.lk xs) => .ok (.list xs) b | _ => .bad := rfl
theorem seqM_ap (m n : MS) (ρ : En) (b : Bx) : seqM m n ρ b = match m ρ b with | .nx ρ' b' => n ρ' b' | r => r := rfl
theorem skipM_ap  (ρ : En) (b : Bx) : skipM ρ b = .nx ρ b := rfl
theorem exprM_ap {τ : Type} (m : ME τ) (k : τ → MS) (ρ : En) (b : Bx) : exprM m k ρ b = match m ρ b with | .ok a b' => k a ρ b' | .ex e b' => .ex e ρ b' | .bad => .bad := rfl
theorem retM_ap (ma : ME D) (ρ : En) (b : Bx) : retM ma ρ b = exprM ma (fun d _ b => .rt d b) ρ b := rfl
theorem ifM_ap (mt : ME Bool) (m n : MS) (ρ : En) (b : Bx) : ifM mt m n ρ b = exprM mt (fun t => if t = true then m else n) ρ b := rfl
theorem setM_ap (i : Nat) (ma : ME D) (ρ : En) (b : Bx) : setM i ma ρ b = exprM ma (fun d ρ b => if i < ρ.length then .nx (ρ.set i (.v d)) b else .bad) ρ b := rfl
theorem ownM_ap (i : Nat) (ms : ME (List D)) (ρ : En) (b : Bx) : ownM i ms ρ b = exprM ms (fun ds ρ b => if i < ρ.length then .nx (ρ.set i (.own ds)) b else .bad) ρ b := rfl
theorem ownCase_ap (i : Nat) (k : List D → MS) (ρ : En) (b : Bx) : ownCase i k ρ b = match ρ[i]? with | some (.own xs) => k xs ρ b | _ => .bad := rfl
theorem appM_ap (i : Nat) (ma : ME D) (ρ : En) (b : Bx) : appM i ma ρ b = ownCase i (fun xs => exprM ma fun d ρ b => if xs.length < sizeLine then .nx (ρ.set i (.own (xs ++ [d]))) b else .bad) ρ b := rfl
theorem extM_ap (i : Nat) (ms : ME (List D)) (ρ : En) (b : Bx) : extM i ms ρ b = ownCase i (fun xs => exprM ms fun ds ρ b => if xs.length + ds.length ≤ sizeLine then .nx (ρ.set i (.own (xs ++ ds))) b else .bad) ρ b := rfl
theorem frzM_ap (i : Nat) (ρ : En) (b : Bx) : frzM i ρ b = match ρ[i]? with | some (.own xs) => .nx (ρ.set i (.v (.list xs))) b | _ => .nx ρ b := rfl
theorem parM_ap (is : List Nat) (ks : List (Option (ME D))) (ρ : En) (b : Bx) : parM is ks ρ b = exprM (parE ks) (fun ds ρ b => match setAll ρ is ds with | some ρ' => .nx ρ' b | none => .bad) ρ b := rfl
theorem parE0_ap  (ρ : En) (b : Bx) : parE [] ρ b = .ok [] b := rfl
theorem parEn_ap (ks : List (Option (ME D))) (ρ : En) (b : Bx) : parE (none :: ks) ρ b = bindM (parE ks) (fun ds _ b => .ok (none :: ds) b) ρ b := rfl
theorem parEs_ap (m : ME D) (ks : List (Option (ME D))) (ρ : En) (b : Bx) : parE (some m :: ks) ρ b = bindM m (fun d => bindM (parE ks) fun ds _ b => .ok (some d :: ds) b) ρ b := rfl
theorem forM_ap (mi : ME (List D)) (tf : TF) (body : MS) (ρ : En) (b : Bx) : forM mi tf body ρ b = exprM mi (fun ds => forL tf body ds) ρ b := rfl
theorem raise1M_ap (x a : Str) (ma : ME D) (ρ : En) (b : Bx) : raise1M x a ma ρ b = exprM ma (fun d ρ b => .ex ⟨x, a, some d⟩ ρ b) ρ b := rfl
theorem dropM_ap (ma : ME D) (ρ : En) (b : Bx) : dropM ma ρ b = exprM ma (fun _ ρ b => .nx ρ b) ρ b := rfl
theorem unpM_ap (tf : TF) (ma : ME D) (ρ : En) (b : Bx) : unpM tf ma ρ b = exprM ma (fun d ρ b => match tf d ρ with | some ρ' => .nx ρ' b | none => .bad) ρ b := rfl
theorem boxNewM_ap (i n : Nat) (fm : FL) (ms : ME (List D)) (ρ : En) (b : Bx) : boxNewM i n fm ms ρ b = exprM ms (fun ds ρ b => match fm ds with | some [.int x, .int y, .int z] => if i < ρ.length ∧ freeBx b = true ∧ ds.length = n then .nx ((dropBx ρ).set i .bx) (.ow x y z) else .bad | _ => .bad) ρ b := rfl
end Fs

/-! PN: plain laws: one step at a time. -/
namespace Fs
open L2 PyProof.Rows PySem.Spec PySem
theorem rng1_n {n : Nat} (h : n ≤ 16777216) : rng1F (.int n) = some (rngL 0 n) := by
  unfold rng1F
  simp only
  rw [if_pos ⟨Int.le_trans (by decide) (Int.natCast_nonneg n), by omega⟩, Int.toNat_natCast]
theorem small {n : Nat} (h : n ≤ 1000000) : -(2 ^ 64) < (n : Int) ∧ (n : Int) < 2 ^ 64 := by
  have h2 : (n : Int) ≤ 1000000 := by omega
  exact ⟨Int.lt_of_lt_of_le (by decide) (Int.natCast_nonneg n), Int.lt_of_le_of_lt h2 (by decide)⟩
theorem rngM_ok {ma : ME PyData} {ρ : En} {b b' : Bx} {n : Nat} (h : ma ρ b = .ok (.int n) b') (hn : n ≤ 16777216) : rng1M ma ρ b = .ok (rngL 0 n) b' := by
  rw [rng1M_ap, bindM_ap, h, rb_ok, rng1_n hn, lo_some]
theorem compM_ok {mi : ME (List PyData)} {vs : List Nat} {tf : TF} {mt : ME Bool} {me : ME PyData} {ρ : En} {b b' : Bx} {ds : List PyData} {r : R (List PyData)} (h : mi ρ b = .ok ds b') (hn : noOwn ρ vs = true) (e : compL tf mt me (wipeE ρ vs) ds b' = r) : compM mi vs tf mt me ρ b = r := by
  rw [compM_ap, bindM_ap, h, rb_ok, if_pos hn, e]
theorem setM_ok {i : Nat} {ma : ME PyData} {ρ : En} {b b' : Bx} {d : PyData} (h : ma ρ b = .ok d b') (hi : i < ρ.length) : setM i ma ρ b = .nx (ρ.set i (.v d)) b' := by
  rw [setM_ap, exprM_ap, h]
  simp only
  rw [if_pos hi]
theorem lsM_ok {ms : ME (List PyData)} {ρ : En} {b b' : Bx} {ds : List PyData} (h : ms ρ b = .ok ds b') : lsM ms ρ b = .ok (.list ds) b' := by
  rw [lsM_ap, bindM_ap, h, rb_ok, cM_ap]
theorem opM_ok {op : PyData → PyData → Option PyData} {ma mb : ME PyData} {ρ : En} {b b1 b2 : Bx} {x y z : PyData} (h1 : ma ρ b = .ok x b1) (h2 : mb ρ b1 = .ok y b2) (e : op x y = some z) : opM op ma mb ρ b = .ok z b2 := by
  rw [opM_ap, bindM_ap, h1, rb_ok, bindM_ap, h2, rb_ok, e, lo_some]
theorem varM_ok {i : Nat} {ρ : En} {b : Bx} {d : PyData} (h : ρ[i]? = some (.v d)) : varM i ρ b = .ok d b := by
  rw [varM_ap, h]
theorem seqM_nx {m n : MS} {ρ ρ' : En} {b b' : Bx} (h : m ρ b = .nx ρ' b') : seqM m n ρ b = n ρ' b' := by
  rw [seqM_ap, h]
theorem forM_ok {mi : ME (List PyData)} {tf : TF} {body : MS} {ρ : En} {b b' : Bx} {ds : List PyData} {r : SR} (h : mi ρ b = .ok ds b') (e : forL tf body ds ρ b' = r) : forM mi tf body ρ b = r := by
  rw [forM_ap, exprM_ap, h]
  exact e

theorem iteM_t {τ : Type} {mt : ME Bool} {ma mb : ME τ} {ρ : En} {b b1 : Bx} {r : R τ} (h : mt ρ b = .ok true b1) (e : ma ρ b1 = r) : iteM mt ma mb ρ b = r := by
  rw [iteM_ap, bindM_ap, h, rb_ok, if_pos rfl, e]
theorem iteM_f {τ : Type} {mt : ME Bool} {ma mb : ME τ} {ρ : En} {b b1 : Bx} {r : R τ} (h : mt ρ b = .ok false b1) (e : mb ρ b1 = r) : iteM mt ma mb ρ b = r := by
  rw [iteM_ap, bindM_ap, h, rb_ok, if_neg (by decide), e]
theorem tstM_ok {m : ME PyData} {ρ : En} {b b' : Bx} {k : Bool} (h : m ρ b = .ok (.bool k) b') : tstM m ρ b = .ok k b' := by
  rw [tstM_ap, bindM_ap, h, rb_ok]
  rfl
theorem notM_ok {m : ME Bool} {ρ : En} {b b' : Bx} {k : Bool} (h : m ρ b = .ok k b') : notM m ρ b = .ok (!k) b' := by
  rw [notM_ap, bindM_ap, h, rb_ok]
  rfl
theorem orM_f {mt mu : ME Bool} {ρ : En} {b b1 : Bx} {r : R Bool} (h : mt ρ b = .ok false b1) (e : mu ρ b1 = r) : orM mt mu ρ b = r := iteM_f h e
theorem orM_t {mt mu : ME Bool} {ρ : En} {b b1 : Bx} (h : mt ρ b = .ok true b1) : orM mt mu ρ b = .ok true b1 := iteM_t h rfl
theorem andM_t {mt mu : ME Bool} {ρ : En} {b b1 : Bx} {r : R Bool} (h : mt ρ b = .ok true b1) (e : mu ρ b1 = r) : andM mt mu ρ b = r := iteM_t h e
theorem andM_f {mt mu : ME Bool} {ρ : En} {b b1 : Bx} (h : mt ρ b = .ok false b1) : andM mt mu ρ b = .ok false b1 := iteM_f h rfl
theorem consM_ok {ma : ME PyData} {ms : ME (List PyData)} {ρ : En} {b b1 b2 : Bx} {d : PyData} {ds : List PyData} (h1 : ma ρ b = .ok d b1) (h2 : ms ρ b1 = .ok ds b2) : consM ma ms ρ b = .ok (d :: ds) b2 := by
  rw [consM_ap, bindM_ap, h1, rb_ok, bindM_ap, h2, rb_ok]
theorem nilM_ok {ρ : En} {b : Bx} : nilM ρ b = .ok [] b := rfl
theorem cM_ok {d : PyData} {ρ : En} {b : Bx} : cM d ρ b = .ok d b := rfl
theorem cbM_ok {f : List PyData → Option PyData} {ms : ME (List PyData)} {ρ : En} {b b1 : Bx} {ds : List PyData} {d : PyData} (h : ms ρ b = .ok ds b1) (e : f ds = some d) : cbM f ms ρ b = .ok d b1 := by
  rw [cbM_ap, bindM_ap, h, rb_ok, e, lo_some]
theorem callX_ok {i n : Nat} {fm : FB} {ms : ME (List PyData)} {ρ : En} {b b1 : Bx} {ds : List PyData} {d : PyData} {t t' : Int × Int × Int} (h0 : ρ[i]? = some .bx) (h : ms ρ b = .ok ds b1) (hb : bxGet b1 = some t) (e : fm t ds = .ok d t') (hn : ds.length = n := by rfl) : callX i n fm ms ρ b = .ok d (bxPut b1 t') := by
  rw [callX_ap, h0]
  simp only
  rw [bindM_ap, h, rb_ok, boxed_ap, hb]
  simp only
  rw [if_pos ⟨hn, trivial⟩, e]
theorem appM_ok {i : Nat} {ma : ME PyData} {ρ : En} {b b1 : Bx} {xs : List PyData} {d : PyData} (h0 : ρ[i]? = some (.own xs)) (h : ma ρ b = .ok d b1) (hn : xs.length < 16777216) : appM i ma ρ b = .nx (ρ.set i (.own (xs ++ [d]))) b1 := by
  rw [appM_ap, ownCase_ap, h0]
  simp only
  rw [exprM_ap, h]
  simp only
  rw [if_pos (by rw [sizeLine_eq]; exact hn)]
theorem retM_ok {ma : ME PyData} {ρ : En} {b b1 : Bx} {d : PyData} (h : ma ρ b = .ok d b1) : retM ma ρ b = .rt d b1 := by
  rw [retM_ap, exprM_ap, h]
theorem tupM_ok {ms : ME (List PyData)} {ρ : En} {b b1 : Bx} {ds : List PyData} (h : ms ρ b = .ok ds b1) (hn : ds.length ≤ 16777216) : tupM ms ρ b = .ok (.tuple ds) b1 := by
  rw [tupM_ap, bindM_ap, h, rb_ok, if_pos (by rw [sizeLine_eq]; exact hn), lo_some]
theorem lstM_ok {ms : ME (List PyData)} {ρ : En} {b b1 : Bx} {ds : List PyData} (h : ms ρ b = .ok ds b1) (hn : ds.length ≤ 16777216) : lstM ms ρ b = .ok (.list ds) b1 := by
  rw [lstM_ap, bindM_ap, h, rb_ok, if_pos (by rw [sizeLine_eq]; exact hn), lo_some]
theorem limM_ok {ms : ME (List PyData)} {ρ : En} {b b1 : Bx} {ds : List PyData} (h : ms ρ b = .ok ds b1) (hn : ds.length ≤ 16777216) : limM ms ρ b = .ok ds b1 := by
  rw [limM_ap, bindM_ap, h, rb_ok, if_pos (by rw [sizeLine_eq]; exact hn), lo_some]
theorem itM_ok {ma : ME PyData} {ρ : En} {b b1 : Bx} {d : PyData} {ds : List PyData} (h : ma ρ b = .ok d b1) (e : itsD d = some ds) : itM ma ρ b = .ok ds b1 := by
  rw [itM_ap, bindM_ap, h, rb_ok, e, lo_some]
theorem enM_ok {ma : ME PyData} {ρ : En} {b b1 : Bx} {d : PyData} {ds : List PyData} (h : ma ρ b = .ok d b1) (e : enD d = some ds) : enM ma ρ b = .ok ds b1 := by
  rw [enM_ap, bindM_ap, h, rb_ok, e, lo_some]
theorem ifM_t {mt : ME Bool} {m n : MS} {ρ : En} {b b1 : Bx} {r : SR} (h : mt ρ b = .ok true b1) (e : m ρ b1 = r) : ifM mt m n ρ b = r := by
  rw [ifM_ap, exprM_ap, h]
  exact e
theorem ifM_f {mt : ME Bool} {m n : MS} {ρ : En} {b b1 : Bx} {r : SR} (h : mt ρ b = .ok false b1) (e : n ρ b1 = r) : ifM mt m n ρ b = r := by
  rw [ifM_ap, exprM_ap, h]
  exact e
theorem negM_ok {ma : ME PyData} {ρ : En} {b b1 : Bx} {i : Int} (h : ma ρ b = .ok (.int i) b1) : negM ma ρ b = .ok (.int (-i)) b1 := by
  rw [negM_ap, bindM_ap, h, rb_ok]
  rfl
theorem callM_ok {n : Nat} {fm : FN} {ms : ME (List PyData)} {ρ : En} {b b1 : Bx} {ds : List PyData} {d : PyData} (h : ms ρ b = .ok ds b1) (e : fm ds = .ok d) (hn : ds.length = n := by rfl) : callM n fm ms ρ b = .ok d b1 := by
  rw [callM_ap, bindM_ap, h, rb_ok, if_pos hn, e]
theorem callM_ex {n : Nat} {fm : FN} {ms : ME (List PyData)} {ρ : En} {b b1 : Bx} {ds : List PyData} {x : Exn} (h : ms ρ b = .ok ds b1) (e : fm ds = .ex x) (hn : ds.length = n := by rfl) : callM n fm ms ρ b = .ex x b1 := by
  rw [callM_ap, bindM_ap, h, rb_ok, if_pos hn, e]
theorem callK_ok {np nk n : Nat} {is : List Nat} {fm : FN} {ms mk : ME (List PyData)} {ρ : En} {b b1 b2 : Bx} {ds es : List PyData} {d : PyData} (h : ms ρ b = .ok ds b1) (h2 : mk ρ b1 = .ok es b2) (e : fm (gK np nk is ds es) = .ok d) (hn : (gK np nk is ds es).length = n := by rfl) : callK np nk is n fm ms mk ρ b = .ok d b2 := by
  rw [callK_ap, bindM_ap, h, rb_ok, bindM_ap, h2, rb_ok]
  exact callM_ok rfl e hn
theorem slM_ok {ma : ME PyData} {ml mh : ME (Option Int)} {ρ : En} {b b1 b2 b3 : Bx} {d e : PyData} {lo hi : Option Int} (h1 : ma ρ b = .ok d b1) (h2 : ml ρ b1 = .ok lo b2) (h3 : mh ρ b2 = .ok hi b3) (he : slD lo hi d = some e) : slM ma ml mh ρ b = .ok e b3 := by
  rw [slM_ap, bindM_ap, h1, rb_ok, bindM_ap, h2, rb_ok, bindM_ap, h3, rb_ok, he, lo_some]
theorem soM_ok {m : ME PyData} {ρ : En} {b b1 : Bx} {i : Int} (h : m ρ b = .ok (.int i) b1) : soM m ρ b = .ok (some i) b1 := by
  rw [soM_ap, bindM_ap, h, rb_ok]
  rfl
theorem varB_own {i : Nat} {ρ : En} {b : Bx} {xs : List PyData} (h : ρ[i]? = some (.own xs)) : varB i ρ b = .ok (.list xs) b := by
  rw [varB_ap, h]
theorem varB_ok {i : Nat} {ρ : En} {b : Bx} {d : PyData} (h : ρ[i]? = some (.v d)) : varB i ρ b = .ok d b := by
  rw [varB_ap, h]
theorem pe_nil {ρ : En} {b : Bx} : parE [] ρ b = .ok [] b := rfl
theorem pe_non {ks : List (Option (ME PyData))} {ρ : En} {b b1 : Bx} {ds : List (Option PyData)} (h : parE ks ρ b = .ok ds b1) : parE (none :: ks) ρ b = .ok (none :: ds) b1 := by
  rw [parEn_ap, bindM_ap, h, rb_ok]
theorem pe_som {m : ME PyData} {ks : List (Option (ME PyData))} {ρ : En} {b b1 b2 : Bx} {d : PyData} {ds : List (Option PyData)} (h1 : m ρ b = .ok d b1) (h : parE ks ρ b1 = .ok ds b2) : parE (some m :: ks) ρ b = .ok (some d :: ds) b2 := by
  rw [parEs_ap, bindM_ap, h1, rb_ok, bindM_ap, h, rb_ok]
theorem parM_ok {is : List Nat} {ks : List (Option (ME PyData))} {ρ ρ' : En} {b b1 : Bx} {ds : List (Option PyData)} (h : parE ks ρ b = .ok ds b1) (e : setAll ρ is ds = some ρ') : parM is ks ρ b = .nx ρ' b1 := by
  rw [parM_ap, exprM_ap, h]
  simp only
  rw [e]
theorem ownM_ok {i : Nat} {ms : ME (List PyData)} {ρ : En} {b b' : Bx} {ds : List PyData} (h : ms ρ b = .ok ds b') (hi : i < ρ.length) : ownM i ms ρ b = .nx (ρ.set i (.own ds)) b' := by
  rw [ownM_ap, exprM_ap, h]
  simp only
  rw [if_pos hi]
end Fs

/-! PQ: plain laws: what is the same in all laws. -/
namespace Fs
open He PySem.W L2 PyProof.Rows PySem.Spec PySem
theorem at_all {α β : Type} {f g : α → β} {l : List α} (h : l.map f = l.map g) {x : α} (hx : x ∈ l) : f x = g x := List.map_inj_left.mp h x hx
theorem all_at {α : Type} {f : α → Bool} {l : List α} (h : l.all f = true) {x : α} (hx : x ∈ l) : f x = true := List.all_eq_true.mp h x hx
theorem chainM_ap (o1 o2 : PyData → PyData → Option PyData) (ma mb mc : ME PyData) (ρ : En) (b : Bx) : chainM o1 o2 ma mb mc ρ b = bindM ma (fun x => bindM mb fun y => fun ρ b => match o1 x y with
  | some (.bool true) => bindM mc (fun z => liftO (o2 y z)) ρ b
  | some (.bool false) => .ok (.bool false) b
  | _ => .bad) ρ b := rfl
def foT (t : Int × Int × Int) : Bx := .fo t.1 t.2.1 t.2.2
def owT (t : Int × Int × Int) : Bx := .ow t.1 t.2.1 t.2.2
theorem bxGet_fo (t : Int × Int × Int) : bxGet (foT t) = some t := rfl
theorem bxPut_fo (t u : Int × Int × Int) : bxPut (foT t) u = foT u := rfl
theorem bxGet_ow (t : Int × Int × Int) : bxGet (owT t) = some t := rfl
theorem bxPut_ow (t u : Int × Int × Int) : bxPut (owT t) u = owT u := rfl
theorem lt16 {n : Nat} (h : n < 16777216) : n < sizeLine := by rw [sizeLine_eq]; exact h
theorem le16 {n : Nat} (h : n ≤ 16777216) : n ≤ sizeLine := by rw [sizeLine_eq]; exact h
theorem mulD_l {i j : Int} (h : -(2 ^ 64) < i ∧ i < 2 ^ 64) : mulD (.int i) (.int j) = some (.int (i * j)) := if_pos (decide_eq_true (.inl h))
theorem mulD_r {i j : Int} (h : -(2 ^ 64) < j ∧ j < 2 ^ 64) : mulD (.int i) (.int j) = some (.int (i * j)) := if_pos (decide_eq_true (.inr h))
theorem addD_i (i j : Int) : addD (.int i) (.int j) = some (.int (i + j)) := rfl
theorem subD_i (i j : Int) : subD (.int i) (.int j) = some (.int (i - j)) := rfl
theorem modD_i {i j : Int} (h : 0 < j) : modD (.int i) (.int j) = some (.int (i % j)) := if_pos (decide_eq_true h)
theorem fdivD_i {i j : Int} (h : 0 < j ∧ j < 1073741824) : fdivD (.int i) (.int j) = some (.int (i / j)) := if_pos (decide_eq_true h)
theorem ltD_i (i j : Int) : ltD (.int i) (.int j) = some (.bool (decide (i < j))) := rfl
theorem gtD_i (i j : Int) : gtD (.int i) (.int j) = some (.bool (decide (j < i))) := rfl
theorem geD_i (i j : Int) : geD (.int i) (.int j) = some (.bool (decide (j ≤ i))) := rfl
theorem leD_i (i j : Int) : leD (.int i) (.int j) = some (.bool (decide (i ≤ j))) := rfl
theorem eqD_i (i j : Int) : eqD (.int i) (.int j) = some (.bool (i == j)) := by kernel_rfl
theorem neD_i (i j : Int) : neD (.int i) (.int j) = some (.bool (!(i == j))) := by kernel_rfl
theorem atI_mem {α : Type} {xs : List α} {i : Int} (h0 : 0 ≤ i) (h1 : i < xs.length) : ∃ d, atI xs i = some d ∧ d ∈ xs := by
  have hl : i.toNat < xs.length := by omega
  refine ⟨xs[i.toNat], ?_, List.getElem_mem hl⟩
  unfold atI ixN
  rw [if_pos h0, if_pos h1]
  exact List.getElem?_eq_getElem hl
theorem atI_zero {α : Type} {a : α} {xs : List α} : atI (a :: xs) 0 = some a := by
  have h : (0 : Int) < (((a :: xs).length : Nat) : Int) := by simp
  unfold atI ixN
  rw [if_pos (by decide), if_pos h]
  rfl
theorem atI_one {α : Type} {a b : α} {xs : List α} : atI (a :: b :: xs) 1 = some b := by
  have h : (1 : Int) < (((a :: b :: xs).length : Nat) : Int) := by simp; omega
  unfold atI ixN
  rw [if_pos (by decide), if_pos h]
  rfl
def sq (b : Bool) (xs : List PyData) : PyData := if b then .tuple xs else .list xs
theorem at_sq (b : Bool) (xs : List PyData) (i : Int) : atD (sq b xs) (.int i) = atI xs i := by cases b <;> rfl
theorem at0 (b : Bool) (d : PyData) (xs : List PyData) : atD (sq b (d :: xs)) (.int 0) = some d := by rw [at_sq, atI_zero]
theorem at1 (b : Bool) (d e : PyData) (xs : List PyData) : atD (sq b (d :: e :: xs)) (.int 1) = some e := by rw [at_sq, atI_one]
theorem len_sq (b : Bool) (xs : List PyData) : lenF [sq b xs] = some (.int xs.length) := by cases b <;> rfl
theorem its_sq (b : Bool) (xs : List PyData) : itsD (sq b xs) = some xs := by cases b <;> rfl
theorem rngL_len (n : Nat) : (rngL 0 n).length = n := by simp [rngL]
theorem rngL_at {n i : Nat} {d : PyData} (h : (rngL 0 n)[i]? = some d) : i < n ∧ d = .int (i : Nat) := by
  have hi := (List.getElem?_eq_some_iff.mp h).1
  rw [rngL_len] at hi
  refine ⟨hi, ?_⟩
  unfold rngL at h
  rw [List.getElem?_map, List.getElem?_range hi] at h
  have := Option.some.inj h
  rw [← this]
  simp
theorem bools_map : ∀ xs : List Bool, boolsF (xs.map .bool) = some xs
  | [] => rfl
  | x :: xs => by simp [boolsF, bools_map xs]
theorem absF_i (i : Int) : absF [.int i] = some (.int (if i < 0 then -i else i)) := rfl
theorem intF_i (i : Int) : intF [.int i] = some (.int i) := rfl
theorem intF_b (k : Bool) : intF [.bool k] = some (.int (if k = true then 1 else 0)) := rfl
theorem pow18 : powD (.int 10) (.int 18) = some (.int 1000000000000000000) := by kernel_rfl
/-! ### one step at a time, further -/
theorem seqM_go {m n : MS} {ρ ρ' : En} {b b' : Bx} {r : SR} (h : m ρ b = .nx ρ' b') (e : n ρ' b' = r) : seqM m n ρ b = r := by rw [seqM_ap, h]; exact e
theorem seqM_rt {m n : MS} {ρ : En} {b b' : Bx} {d : PyData} (h : m ρ b = .rt d b') : seqM m n ρ b = .rt d b' := by rw [seqM_ap, h]
theorem seqM_ex {m n : MS} {ρ ρ' : En} {b b' : Bx} {x : Exn} (h : m ρ b = .ex x ρ' b') : seqM m n ρ b = .ex x ρ' b' := by rw [seqM_ap, h]
theorem seqM_assoc (a b c : MS) : seqM (seqM a b) c = seqM a (seqM b c) := by
  funext ρ bx
  simp only [seqM_ap]
  cases a ρ bx <;> rfl
theorem skip_ok {ρ : En} {b : Bx} : skipM ρ b = .nx ρ b := rfl
theorem bM_ok {k : Bool} {ρ : En} {b : Bx} : bM k ρ b = .ok k b := rfl
theorem noM_ok {ρ : En} {b : Bx} : noM ρ b = .ok none b := rfl
theorem setM_ex {i : Nat} {ma : ME PyData} {ρ : En} {b b' : Bx} {x : Exn} (h : ma ρ b = .ex x b') : setM i ma ρ b = .ex x ρ b' := by rw [setM_ap, exprM_ap, h]
theorem retM_ex {ma : ME PyData} {ρ : En} {b b1 : Bx} {x : Exn} (h : ma ρ b = .ex x b1) : retM ma ρ b = .ex x ρ b1 := by rw [retM_ap, exprM_ap, h]
theorem dropM_ok {ma : ME PyData} {ρ : En} {b b1 : Bx} {d : PyData} (h : ma ρ b = .ok d b1) : dropM ma ρ b = .nx ρ b1 := by rw [dropM_ap, exprM_ap, h]
theorem dropM_ex {ma : ME PyData} {ρ : En} {b b1 : Bx} {x : Exn} (h : ma ρ b = .ex x b1) : dropM ma ρ b = .ex x ρ b1 := by rw [dropM_ap, exprM_ap, h]
theorem consM_ex1 {ma : ME PyData} {ms : ME (List PyData)} {ρ : En} {b b1 : Bx} {x : Exn} (h1 : ma ρ b = .ex x b1) : consM ma ms ρ b = .ex x b1 := by rw [consM_ap, bindM_ap, h1, rb_ex]
theorem consM_ex2 {ma : ME PyData} {ms : ME (List PyData)} {ρ : En} {b b1 b2 : Bx} {d : PyData} {x : Exn} (h1 : ma ρ b = .ok d b1) (h2 : ms ρ b1 = .ex x b2) : consM ma ms ρ b = .ex x b2 := by rw [consM_ap, bindM_ap, h1, rb_ok, bindM_ap, h2, rb_ex]
theorem callM_ex0 {n : Nat} {fm : FN} {ms : ME (List PyData)} {ρ : En} {b b1 : Bx} {x : Exn} (h : ms ρ b = .ex x b1) : callM n fm ms ρ b = .ex x b1 := by rw [callM_ap, bindM_ap, h, rb_ex]
theorem fnM_rt {n : Nat} {m : MS} {ds : List PyData} {d : PyData} {b : Bx} (h : m (ds.map .v ++ List.replicate (n - ds.length) .no) .no = .rt d b) : fnM n m ds = .ok d := by
  unfold fnM
  rw [h]
theorem fnM_ex {n : Nat} {m : MS} {ds : List PyData} {x : Exn} {ρ : En} {b : Bx} (h : m (ds.map .v ++ List.replicate (n - ds.length) .no) .no = .ex x ρ b) : fnM n m ds = .ex x := by
  unfold fnM
  rw [h]
theorem exprM_ex {τ : Type} {m : ME τ} {k : τ → MS} {ρ : En} {b b' : Bx} {x : Exn} (h : m ρ b = .ex x b') : exprM m k ρ b = .ex x ρ b' := by rw [exprM_ap, h]
theorem parM_ex {is : List Nat} {ks : List (Option (ME PyData))} {ρ : En} {b b1 : Bx} {x : Exn} (h : parE ks ρ b = .ex x b1) : parM is ks ρ b = .ex x ρ b1 := by rw [parM_ap, exprM_ap, h]
theorem pe_som_ex {m : ME PyData} {ks : List (Option (ME PyData))} {ρ : En} {b b1 : Bx} {x : Exn} (h1 : m ρ b = .ex x b1) : parE (some m :: ks) ρ b = .ex x b1 := by rw [parEs_ap, bindM_ap, h1, rb_ex]
theorem raise0_ok {x : PySem.Str} {ρ : En} {b : Bx} : raise0M x ρ b = .ex ⟨x, "", none⟩ ρ b := rfl
theorem raise1_ok {x a : PySem.Str} {ma : ME PyData} {ρ : En} {b b1 : Bx} {d : PyData} (h : ma ρ b = .ok d b1) : raise1M x a ma ρ b = .ex ⟨x, a, some d⟩ ρ b1 := by rw [raise1M_ap, exprM_ap, h]
theorem isiM_ok {c : String} {ma : ME PyData} {ρ : En} {b b1 : Bx} {d e : PyData} (h : ma ρ b = .ok d b1) (he : isiD c d = some e) : isiM c ma ρ b = .ok e b1 := by rw [isiM_ap, bindM_ap, h, rb_ok, he, lo_some]
theorem isi2M_ok {c c2 : String} {ma : ME PyData} {ρ : En} {b b1 : Bx} {d e : PyData} (h : ma ρ b = .ok d b1) (he : isi2D c c2 d = some e) : isi2M c c2 ma ρ b = .ok e b1 := by rw [isi2M_ap, bindM_ap, h, rb_ok, he, lo_some]
theorem andV_t {ma mb : ME PyData} {ρ : En} {b b1 : Bx} {r : R PyData} (h : ma ρ b = .ok (.bool true) b1) (e : mb ρ b1 = r) : andV ma mb ρ b = r := by rw [andV_ap, bindM_ap, tstM_ok h, rb_ok, if_pos rfl, e]
theorem andV_f {ma mb : ME PyData} {ρ : En} {b b1 : Bx} (h : ma ρ b = .ok (.bool false) b1) : andV ma mb ρ b = .ok (.bool false) b1 := by rw [andV_ap, bindM_ap, tstM_ok h, rb_ok, if_neg (by decide)]; rfl
theorem orV_t {ma mb : ME PyData} {ρ : En} {b b1 : Bx} (h : ma ρ b = .ok (.bool true) b1) : orV ma mb ρ b = .ok (.bool true) b1 := by rw [orV_ap, bindM_ap, tstM_ok h, rb_ok, if_pos rfl]; rfl
theorem orV_f {ma mb : ME PyData} {ρ : En} {b b1 : Bx} {r : R PyData} (h : ma ρ b = .ok (.bool false) b1) (e : mb ρ b1 = r) : orV ma mb ρ b = r := by rw [orV_ap, bindM_ap, tstM_ok h, rb_ok, if_neg (by decide), e]
theorem notV_ok {ma : ME PyData} {ρ : En} {b b1 : Bx} {k : Bool} (h : ma ρ b = .ok (.bool k) b1) : notV ma ρ b = .ok (.bool (!k)) b1 := by rw [notV_ap, bindM_ap, tstM_ok h, rb_ok]; rfl
theorem callK_ex {np nk n : Nat} {is : List Nat} {fm : FN} {ms mk : ME (List PyData)} {ρ : En} {b b1 b2 : Bx} {ds es : List PyData} {x : Exn} (h : ms ρ b = .ok ds b1) (h2 : mk ρ b1 = .ok es b2) (e : fm (gK np nk is ds es) = .ex x) (hn : (gK np nk is ds es).length = n := by rfl) : callK np nk is n fm ms mk ρ b = .ex x b2 := by
  rw [callK_ap, bindM_ap, h, rb_ok, bindM_ap, h2, rb_ok]
  exact callM_ex rfl e hn
theorem boxNew_ok {i n : Nat} {fm : FL} {ms : ME (List PyData)} {ρ : En} {b b1 : Bx} {ds : List PyData} {x y z : Int} (h : ms ρ b = .ok ds b1) (e : fm ds = some [.int x, .int y, .int z]) (hi : i < ρ.length) (hb : freeBx b1 = true) (hn : ds.length = n) : boxNewM i n fm ms ρ b = .nx ((dropBx ρ).set i .bx) (owT (x, y, z)) := by
  rw [boxNewM_ap, exprM_ap, h]
  simp only
  rw [e]
  simp only
  rw [if_pos ⟨hi, hb, hn⟩]
  rfl
theorem frz_own {i : Nat} {ρ : En} {b : Bx} {ys : List PyData} (h : ρ[i]? = some (.own ys)) : frzM i ρ b = .nx (ρ.set i (.v (.list ys))) b := by
  rw [frzM_ap, h]
theorem frz_v {i : Nat} {ρ : En} {b : Bx} {d : PyData} (h : ρ[i]? = some (.v d)) : frzM i ρ b = .nx ρ b := by
  rw [frzM_ap, h]
theorem lenSetM_ok {ma : ME PyData} {ρ : En} {b b1 : Bx} {d e : PyData} (h : ma ρ b = .ok d b1) (he : lenSetF d = some e) : lenSetM ma ρ b = .ok e b1 := by
  rw [lenSetM_ap, bindM_ap, h, rb_ok, he, lo_some]
/-! ### the box of draws -/
def takeB (a c e m q : Int) : MS := seqM (ifM (tstM (opM gtD (boxAtM 0 0) (cM (.int 0)))) (seqM (setM 2 (opM modD (cbM intF (consM (boxAtM 0 0) nilM)) (varM 1)))
  (seqM (boxPutM 0 0 (opM fdivD (boxAtM 0 0) (varM 1)))
  (retM (varM 2)))) skipM)
  (seqM (boxPutM 0 2 (opM addD (boxAtM 0 2) (cM (.int 1))))
  (seqM (setM 3 (opM modD (cbM intF (consM (opM addD (opM mulD (opM addD (boxAtM 0 1) (opM mulD (cM (.int a)) (boxAtM 0 2))) (cM (.int c))) (cM (.int e))) nilM)) (cM (.int 2147483563))))
  (seqM (boxPutM 0 1 (opM addD (opM modD (cbM intF (consM (opM addD (opM mulD (varM 3) (cM (.int m))) (cM (.int q))) nilM)) (cM (.int 2147483629))) (cM (.int 1))))
  (retM (opM modD (cbM intF (consM (opM fdivD (opM addD (opM mulD (varM 3) (cM (.int 2147483647))) (boxAtM 0 1)) (cM (.int 8191))) nilM)) (varM 1))))))
theorem boxAt0 {ρ : En} {b : Bx} {t : Int × Int × Int} (h0 : ρ[0]? = some .bx) (h : bxGet b = some t) : boxAtM 0 0 ρ b = .ok (.int t.1) b := by
  unfold boxAtM
  rw [h0, h]
  rfl
theorem boxAt1 {ρ : En} {b : Bx} {t : Int × Int × Int} (h0 : ρ[0]? = some .bx) (h : bxGet b = some t) : boxAtM 0 1 ρ b = .ok (.int t.2.1) b := by
  unfold boxAtM
  rw [h0, h]
  rfl
theorem boxAt2 {ρ : En} {b : Bx} {t : Int × Int × Int} (h0 : ρ[0]? = some .bx) (h : bxGet b = some t) : boxAtM 0 2 ρ b = .ok (.int t.2.2) b := by
  unfold boxAtM
  rw [h0, h]
  rfl
theorem boxPut_ok {c : Int} {ma : ME PyData} {ρ : En} {b b1 : Bx} {v : Int} {t u : Int × Int × Int} (h : ma ρ b = .ok (.int v) b1) (h0 : ρ[0]? = some .bx) (h1 : bxGet b1 = some t) (h2 : triPut t c v = some u) : boxPutM 0 c ma ρ b = .nx ρ (bxPut b1 u) := by
  unfold boxPutM
  rw [exprM_ap, h]
  simp only
  rw [h0, h1]
  simp only
  rw [h2]
theorem boxPut_fo {c : Int} {ma : ME PyData} {ρ : En} {b : Bx} {v : Int} {t u : Int × Int × Int} (h : ma ρ b = .ok (.int v) (foT t)) (h0 : ρ[0]? = some .bx) (h2 : triPut t c v = some u) : boxPutM 0 c ma ρ b = .nx ρ (foT u) := boxPut_ok h h0 rfl h2
def small5 (a c e m q : Int) : Prop := (-(2 ^ 64) < a ∧ a < 2 ^ 64) ∧ (-(2 ^ 64) < c ∧ c < 2 ^ 64) ∧ (-(2 ^ 64) < m ∧ m < 2 ^ 64)
theorem takeB_ok {a c e m q : Int} (S : small5 a c e m q) (t : Int × Int × Int) {n : Int} (h0 : 0 < n) (h1 : n < 1073741824) : ∃ r t', fnBM 4 (takeB a c e m q) t [.int n] = .ok (.int r) t' ∧ 0 ≤ r ∧ r < n := by
  obtain ⟨x, y, z⟩ := t
  have e0 : ∀ k : Int, 0 ≤ k % n ∧ k % n < n := fun k => ⟨Int.emod_nonneg _ (by omega), Int.emod_lt_of_pos _ h0⟩
  obtain ⟨Sa, Sc, Sm⟩ := S
  have out : ∀ {r : Int} {t' : Int × Int × Int}, takeB a c e m q [.bx, .v (.int n), .no, .no] (foT (x, y, z)) = .rt (.int r) (foT t') → fnBM 4 (takeB a c e m q) (x, y, z) [.int n] = .ok (.int r) t' := fun {r t'} h => by
    unfold fnBM
    have h' : takeB a c e m q (.bx :: (([PyData.int n].map Sl.v) ++ List.replicate (4 - 1 - [PyData.int n].length) .no)) (.fo (x, y, z).1 (x, y, z).2.1 (x, y, z).2.2) = .rt (.int r) (foT t') := h
    rw [h']
    rfl
  by_cases hx : 0 < x
  · refine ⟨x % n, (x / n, y, z), out ?_, e0 x⟩
    have g : tstM (opM gtD (boxAtM 0 0) (cM (.int 0))) [.bx, .v (.int n), .no, .no] (foT (x, y, z)) = .ok true (foT (x, y, z)) := tstM_ok (opM_ok (boxAt0 rfl rfl) cM_ok (by rw [gtD_i, decide_eq_true hx]))
    refine seqM_rt (ifM_t g (seqM_go (setM_ok (opM_ok (cbM_ok (consM_ok (boxAt0 rfl rfl) nilM_ok) (intF_i x)) (varM_ok rfl) (modD_i h0)) (by simp)) (seqM_go (boxPut_fo (opM_ok (boxAt0 rfl rfl) (varM_ok rfl) (fdivD_i ⟨h0, h1⟩)) rfl rfl) (retM_ok (varM_ok rfl)))))
  · have g : tstM (opM gtD (boxAtM 0 0) (cM (.int 0))) [.bx, .v (.int n), .no, .no] (foT (x, y, z)) = .ok false (foT (x, y, z)) := tstM_ok (opM_ok (boxAt0 rfl rfl) cM_ok (by rw [gtD_i, decide_eq_false hx]))
    refine ⟨_, _, out (seqM_go (ifM_f g skip_ok) (seqM_go (boxPut_fo (opM_ok (boxAt2 rfl rfl) cM_ok (addD_i _ _)) rfl rfl) (seqM_go (setM_ok (opM_ok (cbM_ok (consM_ok (opM_ok (opM_ok (opM_ok (boxAt1 rfl rfl) (opM_ok cM_ok (boxAt2 rfl rfl) (mulD_l Sa)) (addD_i _ _)) cM_ok (mulD_r Sc)) cM_ok (addD_i _ _)) nilM_ok) (intF_i _)) cM_ok (modD_i (by decide))) (by simp))
      (seqM_go (boxPut_fo (opM_ok (opM_ok (cbM_ok (consM_ok (opM_ok (opM_ok (varM_ok rfl) cM_ok (mulD_r Sm)) cM_ok (addD_i _ _)) nilM_ok) (intF_i _)) cM_ok (modD_i (by decide))) cM_ok (addD_i _ _)) rfl rfl)
        (retM_ok (opM_ok (cbM_ok (consM_ok (opM_ok (opM_ok (opM_ok (varM_ok rfl) cM_ok (mulD_r (by decide))) (boxAt1 rfl rfl) (addD_i _ _)) cM_ok (fdivD_i (by decide))) nilM_ok) (intF_i _)) (varM_ok rfl) (modD_i h0))))))), e0 _⟩
/-- a def that draws a number -/
def Takes1 (fm : FB) : Prop := ∀ (t : Int × Int × Int) {m : Nat}, 0 < m → m < 1000000 → ∃ (r : Nat) (t' : Int × Int × Int), fm t [.int m] = .ok (.int r) t' ∧ r < m
theorem takes1 {a c e m q : Int} {fm : FB} (h : fm = fnBM 4 (takeB a c e m q)) (S : small5 a c e m q) : Takes1 fm := fun t {n} h0 h1 => by
  obtain ⟨r, t', e, r0, r1⟩ := takeB_ok S t (n := n) (by omega) (by omega)
  refine ⟨r.toNat, t', ?_, by omega⟩
  rw [h, e, Int.toNat_of_nonneg r0]
def pickB (fm : FB) : MS := retM (opM atD (varM 1) (callX 0 1 fm (consM (cbM lenF (consM (varM 1) nilM)) nilM)))
def Picks1 (fm : FB) : Prop := ∀ (t : Int × Int × Int) (b : Bool) {xs : List PyData}, 0 < xs.length → xs.length < 1000 → ∃ (i : Nat) (d : PyData) (t' : Int × Int × Int), fm t [sq b xs] = .ok d t' ∧ xs[i]? = some d
theorem fnBM_rt {n : Nat} {body : MS} {t t' : Int × Int × Int} {ds : List PyData} {d : PyData} (h : body (.bx :: (ds.map .v ++ List.replicate (n - 1 - ds.length) .no)) (foT t) = .rt d (foT t')) : fnBM n body t ds = .ok d t' := by
  unfold fnBM
  have h' : body (.bx :: (ds.map .v ++ List.replicate (n - 1 - ds.length) .no)) (.fo t.1 t.2.1 t.2.2) = .rt d (foT t') := h
  rw [h']
  rfl
theorem picks1 {fm fm2 : FB} (h : fm2 = fnBM 2 (pickB fm)) (T : Takes1 fm) : Picks1 fm2 := fun t b {xs} h0 h1 => by
  obtain ⟨r, t', e, hr⟩ := T t (m := xs.length) h0 (by omega)
  refine ⟨r, xs[r], t', ?_, List.getElem?_eq_getElem hr⟩
  subst h
  refine fnBM_rt (retM_ok (opM_ok (varM_ok rfl) (callX_ok rfl (consM_ok (cbM_ok (consM_ok (varM_ok rfl) nilM_ok) (len_sq b xs)) nilM_ok) rfl e) ?_))
  rw [at_sq]
  exact atI_get (List.getElem?_eq_getElem hr)
theorem Picks1.l {fm : FB} (P : Picks1 fm) (t : Int × Int × Int) {xs : List PyData} (h0 : 0 < xs.length) (h1 : xs.length < 1000) : ∃ (i : Nat) (d : PyData) (t' : Int × Int × Int), fm t [.list xs] = .ok d t' ∧ xs[i]? = some d := P t false h0 h1
theorem Picks1.t {fm : FB} (P : Picks1 fm) (t : Int × Int × Int) {xs : List PyData} (h0 : 0 < xs.length) (h1 : xs.length < 1000) : ∃ (i : Nat) (d : PyData) (t' : Int × Int × Int), fm t [.tuple xs] = .ok d t' ∧ xs[i]? = some d := P t true h0 h1
def boxA (a c : Int) : MS := setM 2 (opM addD (opM mulD (cM (.int a)) (varM 1)) (cM (.int c)))
def boxB (e : Int) : MS := ifM (tstM (opM ltD (varM 1) (cbM lenF (consM (varM 0) nilM)))) (setM 2 (cbM absF (consM (opM atD (varM 0) (varM 1)) nilM))) (ifM (tstM (opM gtD (cbM lenF (consM (varM 0) nilM)) (cM (.int 0)))) (setM 2 (opM addD (varM 2) (opM mulD (opM modD (cbM intF (consM (cbM absF (consM (opM atD (varM 0) (opM modD (cbM intF (consM (varM 1) nilM)) (cbM lenF (consM (varM 0) nilM)))) nilM)) nilM)) (cM (.int 2147483629))) (cM (.int e))))) skipM)
def boxR (m q : Int) : MN := retNewM (consM (opM atD (lstM (consM (cM (.int 0)) (consM (varM 2) nilM))) (cbM intF (consM (opM geD (varM 2) (opM powD (cM (.int 10)) (cM (.int 18)))) nilM))) (consM (opM addD (opM modD (cbM intF (consM (opM addD (opM mulD (opM modD (cbM intF (consM (varM 2) nilM)) (cM (.int 2147483629))) (cM (.int m))) (opM mulD (cM (.int q)) (varM 1))) nilM)) (cM (.int 2147483629))) (cM (.int 1))) (consM (cM (.int 0)) nilM)))
def boxN (a c e m q : Int) : MN := seqN (boxA a c) (seqN (boxB e) (boxR m q))
theorem boxR_ok {m q : Int} (Sm : -(2 ^ 64) < m ∧ m < 2 ^ 64) (Sq : -(2 ^ 64) < q ∧ q < 2 ^ 64) (V : PyData) (k : Nat) (c : Int) : ∃ x y, boxR m q [.v V, .v (.int k), .v (.int c)] .no = some [.int x, .int y, .int 0] := by
  have key : ∃ x, opM atD (lstM (consM (cM (.int 0)) (consM (varM 2) nilM))) (cbM intF (consM (opM geD (varM 2) (opM powD (cM (.int 10)) (cM (.int 18)))) nilM)) [.v V, .v (.int k), .v (.int c)] .no = .ok (.int x) .no := by
    by_cases h : (1000000000000000000 : Int) ≤ c
    · exact ⟨c, opM_ok (lstM_ok (consM_ok cM_ok (consM_ok (varM_ok rfl) nilM_ok)) (by simp)) (cbM_ok (consM_ok (opM_ok (varM_ok rfl) (opM_ok cM_ok cM_ok pow18) (by rw [geD_i, decide_eq_true h])) nilM_ok) (intF_b true)) rfl⟩
    · exact ⟨0, opM_ok (lstM_ok (consM_ok cM_ok (consM_ok (varM_ok rfl) nilM_ok)) (by simp)) (cbM_ok (consM_ok (opM_ok (varM_ok rfl) (opM_ok cM_ok cM_ok pow18) (by rw [geD_i, decide_eq_false h])) nilM_ok) (intF_b false)) rfl⟩
  obtain ⟨x, hx⟩ := key
  refine ⟨x, (c % 2147483629 * m + q * k) % 2147483629 + 1, ?_⟩
  have e : consM (opM atD (lstM (consM (cM (.int 0)) (consM (varM 2) nilM))) (cbM intF (consM (opM geD (varM 2) (opM powD (cM (.int 10)) (cM (.int 18)))) nilM))) (consM (opM addD (opM modD (cbM intF (consM (opM addD (opM mulD (opM modD (cbM intF (consM (varM 2) nilM)) (cM (.int 2147483629))) (cM (.int m))) (opM mulD (cM (.int q)) (varM 1))) nilM)) (cM (.int 2147483629))) (cM (.int 1))) (consM (cM (.int 0)) nilM)) [.v V, .v (.int k), .v (.int c)] .no = .ok [.int x, .int ((c % 2147483629 * m + q * k) % 2147483629 + 1), .int 0] .no :=
    consM_ok hx (consM_ok (opM_ok (opM_ok (cbM_ok (consM_ok (opM_ok (opM_ok (opM_ok (cbM_ok (consM_ok (varM_ok rfl) nilM_ok) (intF_i _)) cM_ok (modD_i (by decide))) cM_ok (mulD_r Sm)) (opM_ok cM_ok (varM_ok rfl) (mulD_l Sq)) (addD_i _ _)) nilM_ok) (intF_i _)) cM_ok (modD_i (by decide))) cM_ok (addD_i _ _)) (consM_ok cM_ok nilM_ok))
  unfold boxR retNewM
  rw [e]
  exact if_pos (le16 (by simp))
theorem boxB_ok {e : Int} (Se : -(2 ^ 64) < e ∧ e < 2 ^ 64) (ns : List Int) (k : Nat) (c0 : Int) : ∃ c, boxB e [.v (.list (ns.map .int)), .v (.int k), .v (.int c0)] .no = .nx [.v (.list (ns.map .int)), .v (.int k), .v (.int c)] .no := by
  have ln : ∀ c0, cbM lenF (consM (varM 0) nilM) [.v (.list (ns.map .int)), .v (.int k), .v (.int c0)] .no = .ok (.int ns.length) .no := fun c0 => cbM_ok (consM_ok (varM_ok rfl) nilM_ok) (by show some (PyData.int ((ns.map PyData.int).length : Nat)) = _; rw [List.length_map])
  by_cases h1 : (k : Int) < ns.length
  · obtain ⟨d, ed, hd⟩ := atI_mem (xs := ns.map PyData.int) (i := k) (by omega) (by simpa using h1)
    obtain ⟨n, hn, rfl⟩ := List.mem_map.mp hd
    exact ⟨_, ifM_t (tstM_ok (opM_ok (varM_ok rfl) (ln c0) (by rw [ltD_i, decide_eq_true h1]))) (setM_ok (cbM_ok (consM_ok (opM_ok (varM_ok rfl) (varM_ok rfl) ed) nilM_ok) (absF_i n)) (by simp))⟩
  · have g := tstM_ok (opM_ok (op := ltD) (varM_ok (i := 1) (ρ := [.v (.list (ns.map .int)), .v (.int k), .v (.int c0)]) (b := .no) rfl) (ln c0) (by rw [ltD_i, decide_eq_false h1]))
    by_cases h2 : 0 < (ns.length : Int)
    · obtain ⟨d, ed, hd⟩ := atI_mem (xs := ns.map PyData.int) (i := (k : Int) % ns.length) (Int.emod_nonneg _ (by omega)) (by simpa using Int.emod_lt_of_pos _ h2)
      obtain ⟨n, hn, rfl⟩ := List.mem_map.mp hd
      exact ⟨_, ifM_f g (ifM_t (tstM_ok (opM_ok (ln c0) cM_ok (by rw [gtD_i, decide_eq_true h2]))) (setM_ok (opM_ok (varM_ok rfl) (opM_ok (opM_ok (cbM_ok (consM_ok (cbM_ok (consM_ok (opM_ok (varM_ok rfl) (opM_ok (cbM_ok (consM_ok (varM_ok rfl) nilM_ok) (intF_i _)) (ln c0) (modD_i h2)) ed) nilM_ok) (absF_i n)) nilM_ok) (intF_i _)) cM_ok (modD_i (by decide))) cM_ok (mulD_r Se)) (addD_i _ _)) (by simp)))⟩
    · exact ⟨c0, ifM_f g (ifM_f (tstM_ok (opM_ok (ln c0) cM_ok (by rw [gtD_i, decide_eq_false h2]))) skip_ok)⟩
def Boxes (fm : FL) : Prop := ∀ (ns : List Int) (k : Nat), ∃ x y, fm [.list (ns.map .int), .int k] = some [.int x, .int y, .int 0]
theorem boxes {a c e m q : Int} {fm : FL} (h : fm = fnNM 3 (boxN a c e m q)) (S : (-(2 ^ 64) < a ∧ a < 2 ^ 64) ∧ (-(2 ^ 64) < e ∧ e < 2 ^ 64) ∧ (-(2 ^ 64) < m ∧ m < 2 ^ 64) ∧ (-(2 ^ 64) < q ∧ q < 2 ^ 64)) : Boxes fm := fun ns k => by
  obtain ⟨Sa, Se, Sm, Sq⟩ := S
  have e1 : boxA a c [.v (.list (ns.map .int)), .v (.int k), .no] .no = .nx [.v (.list (ns.map .int)), .v (.int k), .v (.int (a * k + c))] .no := setM_ok (opM_ok (opM_ok cM_ok (varM_ok rfl) (mulD_l Sa)) cM_ok (addD_i _ _)) (by simp)
  obtain ⟨c1, e2⟩ := boxB_ok Se ns k (a * k + c)
  obtain ⟨x, y, e3⟩ := boxR_ok Sm Sq (.list (ns.map .int)) k c1
  refine ⟨x, y, ?_⟩
  subst h
  show boxN a c e m q [.v (.list (ns.map .int)), .v (.int k), .no] .no = _
  unfold boxN seqN
  simp only [e1, e2, e3]
/-! ### what a def that takes an action hears -/
theorem lam_ex {n : Nat} {km : ME PyData → MS} {mb : ME PyData} {ρ : En} {t t' : Int × Int × Int} {e : Exn} {r : PyData} (hm : mb ρ (owT t) = .ex e (owT t')) (hk : ∀ (act : ME PyData) (b b' : Bx), (∀ ρ2 : En, ρ2[0]? = some (.fn 0) → quietE ρ2 = true → act ρ2 b = .ex e b') → km act (Sl.fn 0 :: List.replicate (n - 1) Sl.no) b = .rt r b') : lamM n km mb ρ (owT t) = .ok r (owT t') := by
  have e1 : ∀ ρ2 : En, ρ2[0]? = some (.fn 0) → quietE ρ2 = true → actM mb ρ (owT t) ρ2 (foT t) = .ex e (foT t') := fun ρ2 h0 hq => by
    unfold actM
    rw [h0]
    simp only
    rw [if_pos ⟨hq, rfl⟩]
    show (match mb ρ (owT t) with | .ok d b3 => R.ok d (bxOf (foT t) b3) | .ex e b3 => .ex e (bxOf (foT t) b3) | .bad => .bad) = _
    rw [hm]
    rfl
  show (match km (actM mb ρ (owT t)) (Sl.fn 0 :: List.replicate (n - 1) Sl.no) (foT t) with | .rt d b2 => (if okB (owT t) b2 = true then R.ok d (bxOf (owT t) b2) else .bad) | .nx _ b2 => (if okB (owT t) b2 = true then .ok .none (bxOf (owT t) b2) else .bad) | _ => .bad) = _
  rw [hk _ _ _ e1]
  rfl
theorem lam_rt {n : Nat} {km : ME PyData → MS} {mb : ME PyData} {ρ : En} {t t' : Int × Int × Int} {d r : PyData} (hm : mb ρ (owT t) = .ok d (owT t')) (hk : ∀ (act : ME PyData) (b b' : Bx), (∀ ρ2 : En, ρ2[0]? = some (.fn 0) → quietE ρ2 = true → act ρ2 b = .ok d b') → km act (Sl.fn 0 :: List.replicate (n - 1) Sl.no) b = .rt r b') : lamM n km mb ρ (owT t) = .ok r (owT t') := by
  have e1 : ∀ ρ2 : En, ρ2[0]? = some (.fn 0) → quietE ρ2 = true → actM mb ρ (owT t) ρ2 (foT t) = .ok d (foT t') := fun ρ2 h0 hq => by
    unfold actM
    rw [h0]
    simp only
    rw [if_pos ⟨hq, rfl⟩]
    show (match mb ρ (owT t) with | .ok d b3 => R.ok d (bxOf (foT t) b3) | .ex e b3 => .ex e (bxOf (foT t) b3) | .bad => .bad) = _
    rw [hm]
    rfl
  show (match km (actM mb ρ (owT t)) (Sl.fn 0 :: List.replicate (n - 1) Sl.no) (foT t) with | .rt d b2 => (if okB (owT t) b2 = true then R.ok d (bxOf (owT t) b2) else .bad) | .nx _ b2 => (if okB (owT t) b2 = true then .ok .none (bxOf (owT t) b2) else .bad) | _ => .bad) = _
  rw [hk _ _ _ e1]
  rfl
end Fs

/-! Tn40: k40, a quick reading of its own lists. -/
namespace Fs
open He PySem.W L2 PyProof.Rows PySem.Spec PySem
/-! ### a reading below another: the same where it is not bad -/
def ELe {τ : Type} (m' m : ME τ) : Prop := ∀ ρ b, m' ρ b = .bad ∨ m ρ b = m' ρ b
def SLe (m' m : MS) : Prop := ∀ ρ b, m' ρ b = .bad ∨ m ρ b = m' ρ b
theorem ELe.refl {τ : Type} (m : ME τ) : ELe m m := fun _ _ => .inr rfl
theorem SLe.refl (m : MS) : SLe m m := fun _ _ => .inr rfl
theorem le_bind {τ υ : Type} {m' m : ME τ} {f' f : τ → ME υ} (h : ELe m' m) (k : ∀ a, ELe (f' a) (f a)) : ELe (bindM m' f') (bindM m f) := fun ρ b => by
  rw [bindM_ap, bindM_ap]
  rcases h ρ b with e | e
  · rw [e]; exact .inl rfl
  · rw [e]
    cases m' ρ b with
    | ok a b1 => exact k a ρ b1
    | ex x b1 => exact .inr rfl
    | bad => exact .inl rfl
theorem le_ls {m' m : ME (List PyData)} (h : ELe m' m) : ELe (lsM m') (lsM m) := le_bind h fun _ => .refl _
theorem le_expr {τ : Type} {m' m : ME τ} {k : τ → MS} (h : ELe m' m) : SLe (exprM m' k) (exprM m k) := fun ρ b => by
  rw [exprM_ap, exprM_ap]
  rcases h ρ b with e | e
  · rw [e]; exact .inl rfl
  · rw [e]; exact .inr rfl
theorem le_set {i : Nat} {m' m : ME PyData} (h : ELe m' m) : SLe (setM i m') (setM i m) := le_expr h
theorem le_seq {m' m n' n : MS} (h : SLe m' m) (k : SLe n' n) : SLe (seqM m' n') (seqM m n) := fun ρ b => by
  rw [seqM_ap, seqM_ap]
  rcases h ρ b with e | e
  · rw [e]; exact .inl rfl
  · rw [e]
    cases m' ρ b with
    | nx ρ1 b1 => exact k ρ1 b1
    | rt _ _ => exact .inr rfl
    | bk _ _ => exact .inr rfl
    | ct _ _ => exact .inr rfl
    | ex _ _ _ => exact .inr rfl
    | bad => exact .inl rfl
theorem le_forL {tf : TF} {m' m : MS} (h : SLe m' m) : ∀ (ds : List PyData) (ρ : En) (b : Bx), forL tf m' ds ρ b = .bad ∨ forL tf m ds ρ b = forL tf m' ds ρ b
  | [], _, _ => .inr rfl
  | d :: ds, ρ, b => by
    unfold forL
    cases tf d ρ with
    | none => exact .inl rfl
    | some ρ1 =>
      simp only
      rcases h ρ1 b with e | e
      · rw [e]; exact .inl rfl
      · rw [e]
        cases m' ρ1 b with
        | nx ρ2 b2 => exact le_forL h ds ρ2 b2
        | rt _ _ => exact .inr rfl
        | bk _ _ => exact .inr rfl
        | ct ρ2 b2 => exact le_forL h ds ρ2 b2
        | ex _ _ _ => exact .inr rfl
        | bad => exact .inl rfl
theorem le_for {mi : ME (List PyData)} {tf : TF} {m' m : MS} (h : SLe m' m) : SLe (forM mi tf m') (forM mi tf m) := fun ρ b => by
  rw [forM_ap, forM_ap, exprM_ap, exprM_ap]
  cases mi ρ b with
  | ok ds b1 => exact le_forL h ds ρ b1
  | ex _ _ => exact .inr rfl
  | bad => exact .inl rfl
theorem le_fn {n : Nat} {m' m : MS} (h : SLe m' m) {ds : List PyData} {d : PyData} (e : fnM n m' ds = .ok d) : fnM n m ds = .ok d := by
  unfold fnM at e ⊢
  rcases h (ds.map .v ++ List.replicate (n - ds.length) .no) .no with q | q
  · rw [q] at e; cases e
  · rw [q]; exact e
/-! ### comprehensions read at once -/
def mapO (f : PyData → Option PyData) : List PyData → Option (List PyData)
  | [] => some []
  | d :: ds => match f d with
    | none => none
    | some y => match mapO f ds with
      | none => none
      | some ys => some (y :: ys)
def mapN (i j : Nat) (f : En → PyData → Option PyData) : ME (List PyData) := fun ρ b => match ρ[i]? with
  | some (.v d) => match itsD d with
    | some ds => if noOwn ρ [j] = true ∧ j < ρ.length then (match mapO (f ρ) ds with
      | some ys => .ok ys b
      | none => .bad) else .bad
    | none => .bad
  | _ => .bad
theorem compL_mapO {tf : TF} {me : ME PyData} {ρ0 : En} {b : Bx} {f : PyData → Option PyData} (h : ∀ d y, f d = some y → ∃ ρ1, tf d ρ0 = some ρ1 ∧ me ρ1 b = .ok y b) : ∀ {ds ys : List PyData}, mapO f ds = some ys → compL tf (bM true) me ρ0 ds b = .ok ys b
  | [], ys, e => by cases e; rfl
  | d :: ds, ys, e => by
    unfold mapO at e
    cases ef : f d with
    | none => rw [ef] at e; cases e
    | some y =>
      rw [ef] at e
      simp only at e
      cases em : mapO f ds with
      | none => rw [em] at e; cases e
      | some zs =>
        rw [em] at e
        cases e
        obtain ⟨ρ1, e1, e2⟩ := h d y ef
        unfold compL
        rw [e1]
        simp only
        rw [bM_ok]
        simp only
        rw [e2]
        simp only
        rw [compL_mapO h em]
theorem le_mapN {i j : Nat} {f : En → PyData → Option PyData} {me : ME PyData} (h : ∀ ρ b d y, j < ρ.length → f ρ d = some y → me ((ρ.set j .no).set j (.v d)) b = .ok y b) : ELe (mapN i j f) (compM (itM (varM i)) [j] (nameT j) (bM true) me) := fun ρ b => by
  unfold mapN
  cases e1 : ρ[i]? with
  | none => exact .inl rfl
  | some s =>
    cases s with
    | v d =>
      simp only
      cases e2 : itsD d with
      | none => exact .inl rfl
      | some ds =>
        simp only
        by_cases e3 : noOwn ρ [j] = true ∧ j < ρ.length
        · rw [if_pos e3]
          cases e4 : mapO (f ρ) ds with
          | none => exact .inl rfl
          | some ys =>
            refine .inr (compM_ok (itM_ok (varM_ok e1) e2) e3.1 (compL_mapO (f := f ρ) (fun d y hy => ⟨_, if_pos (by simpa [wipeE] using e3.2), h ρ b d y e3.2 hy⟩) e4))
        · rw [if_neg e3]; exact .inl rfl
    | no => exact .inl rfl
    | own _ => exact .inl rfl
    | lk _ => exact .inl rfl
    | bx => exact .inl rfl
    | fn _ => exact .inl rfl
/-! ### the parts -/
def selI : List PyData → List PyData → Option (List PyData)
  | x :: xs, .int k :: ks => match selI xs ks with
    | some ys => some (if k = 1 then x :: ys else ys)
    | none => none
  | x :: xs, _ :: ks => none
  | _, _ => some []
def partF (ρ : En) (d : PyData) : Option PyData := match d, (ρ[5]? : Option Sl) with
  | .tuple xs, some (Sl.v (.tuple ks)) => if ρ.length = 10 ∧ noOwn ρ [7, 8] = true then (match selI xs ks with
    | some ys => some (.list ys)
    | none => none) else none
  | _, _ => none
theorem sel_comp {ρ0 : En} {b : Bx} (hl : ρ0.length = 10) : ∀ {xs ks ys : List PyData}, selI xs ks = some ys → compL (tupT 2 (consT (nameT 7) (consT (nameT 8) nilT))) (tstM (opM eqD (varM 8) (cM (.int 1)))) (varM 7) ρ0 (zipL xs ks) b = .ok ys b
  | [], ks, ys, e => by cases ks <;> (cases e; rfl)
  | x :: xs, [], ys, e => by cases e; rfl
  | x :: xs, k :: ks, ys, e => by
    cases k with
    | int k =>
      unfold selI at e
      cases em : selI xs ks with
      | none => rw [em] at e; cases e
      | some zs =>
        rw [em] at e
        have ih := sel_comp (b := b) hl em
        have t : tupT 2 (consT (nameT 7) (consT (nameT 8) nilT)) (.tuple [x, .int k]) ρ0 = some ((ρ0.set 7 (.v x)).set 8 (.v (.int k))) := by
          unfold tupT consT nameT nilT
          simp [hl]
        have g8 : ((ρ0.set 7 (.v x)).set 8 (.v (.int k)))[8]? = some (.v (.int k)) := by simp [hl]
        have g7 : ((ρ0.set 7 (.v x)).set 8 (.v (.int k)))[7]? = some (.v x) := by simp [hl]
        show compL _ _ _ ρ0 (.tuple [x, .int k] :: zipL xs ks) b = _
        unfold compL
        rw [t]
        simp only
        rw [tstM_ok (opM_ok (varM_ok g8) cM_ok (eqD_i k 1))]
        by_cases hk : k = 1
        · subst hk
          simp only [if_pos] at e
          cases e
          simp only [beq_self_eq_true]
          rw [varM_ok g7]
          simp only
          rw [ih]
        · have hk2 : (k == 1) = false := by simp [hk]
          simp only [hk, if_false] at e
          cases e
          rw [hk2]
          exact ih
    | none => cases e
    | bool _ => cases e
    | str _ => cases e
    | list _ => cases e
    | tuple _ => cases e
    | dict _ => cases e
theorem le_parts : ELe (mapN 2 4 partF) (compM (itM (varM 2)) [4] (nameT 4) (bM true) (lsM (compM (zipM (varM 4) (varM 5)) [7, 8] (tupT 2 (consT (nameT 7) (consT (nameT 8) nilT))) (tstM (opM eqD (varM 8) (cM (.int 1)))) (varM 7)))) := le_mapN fun ρ b d y hj h => by
  unfold partF at h
  split at h
  · rename_i xs ks e5
    split at h
    · rename_i hc
      obtain ⟨hl, hn⟩ := hc
      cases es : selI xs ks with
      | none => rw [es] at h; cases h
      | some ys =>
        rw [es] at h
        cases h
        have l1 : ((ρ.set 4 .no).set 4 (.v (.tuple xs))).length = 10 := by simp [hl]
        refine lsM_ok (compM_ok (ds := zipL xs ks) (b' := b) ?_ ?_ (sel_comp (by simp [wipeE, hl]) es))
        · unfold zipM
          rw [bindM_ap, varM_ok (d := .tuple xs) (by simp [hl]), rb_ok, bindM_ap, varM_ok (d := .tuple ks) (by simpa using e5), rb_ok]
          rfl
        · have n7 : ((ρ.set 4 .no).set 4 (Sl.v (.tuple xs)))[7]? = ρ[7]? := by simp
          have n8 : ((ρ.set 4 .no).set 4 (Sl.v (.tuple xs)))[8]? = ρ[8]? := by simp
          unfold noOwn at hn ⊢
          simp only [List.all_cons, List.all_nil] at hn ⊢
          rw [n7, n8]
          exact hn
    · cases h
  · cases h
end Fs

/-! PS: plain laws: rows of whole numbers sorted; rows of digits. -/
namespace Fs
open He PySem.W L2 PyProof.Rows PySem.Spec PySem
def tupI (xs : List Int) : PyData := .tuple (xs.map .int)
def lexLe : List Int → List Int → Bool
  | x :: xs, y :: ys => if x = y then lexLe xs ys else decide (x < y)
  | [], _ => true
  | _ :: _, [] => false
theorem ltQ_ints : ∀ xs ys : List Int, ltQ (ys.map PyData.int) (xs.map .int) = some (!lexLe xs ys)
  | [], [] => rfl
  | [], y :: ys => rfl
  | x :: xs, [] => rfl
  | x :: xs, y :: ys => by
    show (if y = x then ltQ (ys.map PyData.int) (xs.map .int) else some (decide (y < x))) = some (!(if x = y then lexLe xs ys else decide (x < y)))
    by_cases h : x = y
    · rw [if_pos h.symm, if_pos h, ltQ_ints xs ys]
    · rw [if_neg (fun z => h z.symm), if_neg h]
      by_cases hl : x < y
      · rw [decide_eq_true hl, decide_eq_false (by omega)]; rfl
      · rw [decide_eq_false hl, decide_eq_true (by omega)]; rfl
theorem leQ_tup (xs ys : List Int) : leQ (tupI xs) (tupI ys) = lexLe xs ys := by
  show (match ltQ (ys.map PyData.int) (xs.map .int) with | some k => !k | none => _) = _
  rw [ltQ_ints]
  simp
theorem putIn_map {α β : Type} (f : α → β) {r : α → α → Bool} {s : β → β → Bool} (h : ∀ a b, s (f a) (f b) = r a b) (x : α) : ∀ l : List α, putIn s (f x) (l.map f) = (putIn r x l).map f
  | [] => rfl
  | y :: ys => by
    rw [List.map_cons]
    unfold putIn
    rw [h]
    split
    · rfl
    · rw [putIn_map f h x ys]; rfl
theorem sortI_map {α β : Type} (f : α → β) {r : α → α → Bool} {s : β → β → Bool} (h : ∀ a b, s (f a) (f b) = r a b) : ∀ l : List α, sortI s (l.map f) = (sortI r l).map f
  | [] => rfl
  | x :: xs => by
    show putIn s (f x) (sortI s (xs.map f)) = (putIn r x (sortI r xs)).map f
    rw [sortI_map f h xs, putIn_map f h]
theorem alikeAll_ints : ∀ xs ys : List Int, PySem.W.alikeAll (xs.map PyData.int) (ys.map .int) = true
  | [], ys => by cases ys <;> rfl
  | x :: xs, [] => rfl
  | x :: xs, y :: ys => by
    show (PySem.W.alike (.int x) (.int y) && PySem.W.alikeAll (xs.map PyData.int) (ys.map .int)) = true
    rw [alikeAll_ints xs ys]; rfl
theorem lay_ints (xs : List Int) : PyData.canLayAll0 (xs.map PyData.int) = true ∧ PyData.depthAll (xs.map PyData.int) = 0 := by
  induction xs with
  | nil => exact ⟨rfl, rfl⟩
  | cons x xs ih =>
    obtain ⟨h1, h2⟩ := ih
    refine ⟨?_, ?_⟩
    · show (PyData.canLay0 (.int x) && PyData.canLayAll0 (xs.map PyData.int)) = true
      rw [h1]; rfl
    · show max (PyData.depth (.int x)) (PyData.depthAll (xs.map PyData.int)) = 0
      rw [h2]; rfl
theorem lay_tups (xss : List (List Int)) : PyData.canLayAll0 (xss.map tupI) = true ∧ PyData.depthAll (xss.map tupI) ≤ 1 := by
  induction xss with
  | nil => exact ⟨rfl, Nat.zero_le _⟩
  | cons xs xss ih =>
    obtain ⟨h1, h2⟩ := ih
    obtain ⟨h3, h4⟩ := lay_ints xs
    refine ⟨?_, ?_⟩
    · show (PyData.canLay0 (tupI xs) && PyData.canLayAll0 (xss.map tupI)) = true
      rw [h1]
      simp [tupI, PyData.canLay0, h3]
    · show max (PyData.depth (tupI xs)) (PyData.depthAll (xss.map tupI)) ≤ 1
      simp [tupI, PyData.depth, h4]
      omega
theorem shp_tups (xss : List (List Int)) : shp (.list (xss.map tupI)) = true := by
  obtain ⟨h1, h2⟩ := lay_tups xss
  unfold shp SeqAt.shaped
  simp [PyData.canLay0, PyData.depth, h1]
  omega
theorem sorted_tups {xss : List (List Int)} (hl : xss.length ≤ 16777216) (hne : ∀ xs ∈ xss, xs ≠ []) : sortedF [.list (xss.map tupI)] = some (.list ((sortI lexLe xss).map tupI)) := by
  unfold sortedF
  have c1 : alikeB (xss.map tupI) = true := by
    unfold alikeB
    refine List.all_eq_true.mpr fun d hd => List.all_eq_true.mpr fun e he => ?_
    obtain ⟨xs, _, rfl⟩ := List.mem_map.mp hd
    obtain ⟨ys, _, rfl⟩ := List.mem_map.mp he
    exact alikeAll_ints xs ys
  have c2 : sortB (xss.map tupI) = true := by
    unfold sortB
    refine Bool.or_eq_true_iff.mpr (.inl (List.all_eq_true.mpr fun d hd => ?_))
    obtain ⟨xs, hx, rfl⟩ := List.mem_map.mp hd
    cases xs with
    | nil => exact absurd rfl (hne _ hx)
    | cons x xs => rfl
  have c3 : lowB (xss.map tupI) = true := by
    unfold lowB
    refine List.all_eq_true.mpr fun d hd => ?_
    obtain ⟨xs, hx, rfl⟩ := List.mem_map.mp hd
    have := (lay_ints xs).2
    simp [tupI, PyData.depth, this]
  have c4 : decide ((xss.map tupI).length ≤ sizeLine) = true := decide_eq_true (le16 (by rw [List.length_map]; exact hl))
  show (if (alikeB (xss.map tupI) && sortB (xss.map tupI) && lowB (xss.map tupI) && decide ((xss.map tupI).length ≤ sizeLine) && PyData.canLayAll0 (xss.map tupI)) = true then some (PyData.list (sortI leQ (xss.map tupI))) else none) = _
  rw [c1, c2, c3, c4, (lay_tups xss).1, if_pos (by rfl), sortI_map tupI leQ_tup xss]
/-! ### digits -/
def bitsBE : Nat → Nat → List Int
  | 0, _ => []
  | s + 1, k => ((k / 2 ^ s % 2 : Nat) : Int) :: bitsBE s k
def keyLe (s : Nat) (a b : Nat) : Bool := decide (a % 2 ^ s ≤ b % 2 ^ s)
theorem bits_le : ∀ (s a b : Nat), lexLe (bitsBE s a) (bitsBE s b) = keyLe s a b
  | 0, a, b => by simp [bitsBE, lexLe, keyLe, Nat.mod_one]
  | s + 1, a, b => by
    have ih := bits_le s a b
    show (if ((a / 2 ^ s % 2 : Nat) : Int) = ((b / 2 ^ s % 2 : Nat) : Int) then lexLe (bitsBE s a) (bitsBE s b) else decide (((a / 2 ^ s % 2 : Nat) : Int) < ((b / 2 ^ s % 2 : Nat) : Int))) = keyLe (s + 1) a b
    unfold keyLe at ih ⊢
    rw [Nat.mod_pow_succ, Nat.mod_pow_succ, ih]
    have hm : 0 < 2 ^ s := Nat.pow_pos (by decide)
    have ra := Nat.mod_lt a hm
    have rb := Nat.mod_lt b hm
    have qa := Nat.mod_lt (a / 2 ^ s) (show 0 < 2 by decide)
    have qb := Nat.mod_lt (b / 2 ^ s) (show 0 < 2 by decide)
    generalize a / 2 ^ s % 2 = x at *
    generalize b / 2 ^ s % 2 = y at *
    generalize a % 2 ^ s = u at *
    generalize b % 2 ^ s = v at *
    generalize 2 ^ s = m at *
    have hx : x = 0 ∨ x = 1 := by omega
    have hy : y = 0 ∨ y = 1 := by omega
    rcases hx with rfl | rfl <;> rcases hy with rfl | rfl <;> simp <;> omega
theorem sort_bits (s : Nat) (ks : List Nat) : sortI lexLe (ks.map (bitsBE s)) = (sortI (keyLe s) ks).map (bitsBE s) := sortI_map (bitsBE s) (bits_le s) ks
end Fs

/-! Ta40: k40, its tables. -/
namespace Fs
open He PySem.W L2 PyProof.Rows PySem.Spec PySem
def cntK (kd : String) (p : Nat) : Int := if kd = "wires" then 2 + p else if kd = "nots" then 2 + 2 * p else if kd = "ands" ∨ kd = "ors" then 2 ^ p + 1 else if kd = "sums" then 2 ^ (p + 1) else if kd = "all" then 2 ^ (2 ^ p) else [3, 6, 20, 168, 7581].getD (p - 1) 0
def tabK (kd : String) (ps : List Nat) : Prop := (ps.map fun (p : Nat) => (fm_kind_count [.str kd, .int p], fm__law_due [.str kd, .int p])) = ps.map fun (p : Nat) => (PR.ok (.int (cntK kd p)), PR.ok (.int (cntK kd p)))
def minQ : En → PyData → Option PyData := fun _ d => minF [d]
def maxQ : En → PyData → Option PyData := fun _ d => maxF [d]
theorem at_set {ρ : En} {j : Nat} {s t : Sl} (h : j < ρ.length) : ((ρ.set j s).set j t)[j]? = some t := by simp [h]
theorem le_min : ELe (mapN 6 9 minQ) (compM (itM (varM 6)) [9] (nameT 9) (bM true) (cbM minF (consM (varM 9) nilM))) := le_mapN fun ρ b d y hj h => cbM_ok (consM_ok (varM_ok (at_set hj)) nilM_ok) h
theorem le_max : ELe (mapN 6 9 maxQ) (compM (itM (varM 6)) [9] (nameT 9) (bM true) (cbM maxF (consM (varM 9) nilM))) := le_mapN fun ρ b d y hj h => cbM_ok (consM_ok (varM_ok (at_set hj)) nilM_ok) h
def lS0 : MS := (setM 2 (callM 1 fm__law_rows (consM (varM 1) nilM)))
def lS1 : MS := (ownM 3 (limM (consM (cM (.int 0)) (consM (callM 1 fm__law_mark (consM (lsM (compM (itM (varM 2)) [4] (nameT 4) (bM true) (cM (.int 1)))) nilM)) nilM))))
def lP1 : MS := (ifM (andM (tstM (opM (memD false) (varM 0) (tupM (consM (cM (.str "wires")) (consM (cM (.str "nots")) nilM))))) (tstM (opM eqD (cbM sumF (consM (varM 5) nilM)) (cM (.int 1))))) (seqM (appM 3 (callM 1 fm__law_mark (consM (lsM (compM (itM (varM 6)) [9] (nameT 9) (bM true) (opM atD (varM 9) (cM (.int 0))))) nilM)))
  (ifM (tstM (opM eqD (varM 0) (cM (.str "nots")))) (appM 3 (callM 1 fm__law_mark (consM (lsM (compM (itM (varM 6)) [9] (nameT 9) (bM true) (opM subD (cM (.int 1)) (opM atD (varM 9) (cM (.int 0)))))) nilM))) skipM)) skipM)
def lP2 : MS := (ifM (tstM (opM eqD (varM 0) (cM (.str "ands")))) (appM 3 (callM 1 fm__law_mark (consM (lsM (compM (itM (varM 6)) [9] (nameT 9) (bM true) (cbM minF (consM (varM 9) nilM)))) nilM))) skipM)
def lP3 : MS := (ifM (tstM (opM eqD (varM 0) (cM (.str "ors")))) (appM 3 (callM 1 fm__law_mark (consM (lsM (compM (itM (varM 6)) [9] (nameT 9) (bM true) (cbM maxF (consM (varM 9) nilM)))) nilM))) skipM)
def lP4 : MS := (ifM (tstM (opM eqD (varM 0) (cM (.str "sums")))) (seqM (appM 3 (callM 1 fm__law_mark (consM (lsM (compM (itM (varM 6)) [9] (nameT 9) (bM true) (opM modD (cbM intF (consM (cbM sumF (consM (varM 9) nilM)) nilM)) (cM (.int 2))))) nilM)))
  (appM 3 (callM 1 fm__law_mark (consM (lsM (compM (itM (varM 6)) [9] (nameT 9) (bM true) (opM modD (cbM intF (consM (opM addD (cbM sumF (consM (varM 9) nilM)) (cM (.int 1))) nilM)) (cM (.int 2))))) nilM)))) skipM)
/-! ### marks read at once -/
def markI : Int → List Int → Int
  | a, [] => a
  | a, x :: xs => markI (2 * a + x) xs
def markE : MS := (setM 1 (opM addD (opM mulD (cM (.int 2)) (varM 1)) (varM 2)))
theorem mark_loop : ∀ (xs : List Int) (V z : Sl) (a : Int) (b : Bx), ∃ y, forL (nameT 2) markE (xs.map .int) [V, .v (.int a), z] b = .nx [V, .v (.int (markI a xs)), y] b
  | [], V, z, a, b => ⟨z, rfl⟩
  | x :: xs, V, z, a, b => by
    obtain ⟨y, e⟩ := mark_loop xs V (.v (.int x)) (2 * a + x) b
    refine ⟨y, ?_⟩
    rw [List.map_cons]
    unfold forL
    have t : nameT 2 (PyData.int x) [V, .v (.int a), z] = some [V, .v (.int a), .v (.int x)] := rfl
    rw [t]
    simp only
    have st : markE [V, .v (.int a), .v (.int x)] b = .nx [V, .v (.int (2 * a + x)), .v (.int x)] b := setM_ok (opM_ok (opM_ok cM_ok (varM_ok rfl) (mulD_l (by decide))) (varM_ok rfl) (addD_i _ _)) (by simp)
    rw [st]
    exact e
theorem mark_ok (xs : List Int) : fm__law_mark [.list (xs.map .int)] = .ok (.int (markI 0 xs)) := by
  obtain ⟨y, e⟩ := mark_loop xs (.v (.list (xs.map .int))) .no 0 .no
  refine fnM_rt (b := .no) ?_
  show m__law_mark [.v (.list (xs.map .int)), .no, .no] .no = _
  exact seqM_go (setM_ok cM_ok (by simp)) (seqM_go (forM_ok (itM_ok (varM_ok rfl) rfl) e) (retM_ok (varM_ok rfl)))
theorem mark_tup (xs : List Int) : fm__law_mark [.tuple (xs.map .int)] = .ok (.int (markI 0 xs)) := by
  obtain ⟨y, e⟩ := mark_loop xs (.v (.tuple (xs.map .int))) .no 0 .no
  refine fnM_rt (b := .no) ?_
  show m__law_mark [.v (.tuple (xs.map .int)), .no, .no] .no = _
  exact seqM_go (setM_ok cM_ok (by simp)) (seqM_go (forM_ok (itM_ok (varM_ok rfl) rfl) e) (retM_ok (varM_ok rfl)))
theorem intsF_eq0 : ∀ {ds : List PyData} {bs : List Int}, intsF ds = some bs → ds = bs.map .int
  | [], _, h => by cases h; rfl
  | d :: ds, bs, h => by
    cases d <;> simp only [intsF, Option.map_eq_some_iff, reduceCtorEq] at h
    obtain ⟨cs, h1, rfl⟩ := h
    rw [intsF_eq0 h1]
    rfl
def markQ (m : ME (List PyData)) : ME PyData := bindM m fun ds => liftO ((intsF ds).map fun xs => .int (markI 0 xs))
theorem le_mark {m' m : ME (List PyData)} (h : ELe m' m) : ELe (markQ m') (callM 1 fm__law_mark (consM (lsM m) nilM)) := fun ρ b => by
  unfold markQ
  rw [bindM_ap]
  rcases h ρ b with e | e
  · rw [e]; exact .inl rfl
  · cases e2 : m' ρ b with
    | bad => exact .inl rfl
    | ex x b1 =>
      rw [e2] at e
      refine .inr ?_
      have e3 : lsM m ρ b = .ex x b1 := by rw [lsM_ap, bindM_ap, e, rb_ex]
      rw [callM_ex0 (consM_ex1 e3)]
      rfl
    | ok ds b1 =>
      rw [e2] at e
      cases e4 : intsF ds with
      | none => refine .inl ?_; show liftO ((intsF ds).map _) ρ b1 = _; rw [e4]; rfl
      | some xs =>
        refine .inr ?_
        have e5 := intsF_eq0 e4
        show _ = liftO ((intsF ds).map _) ρ b1
        rw [e4]
        subst e5
        exact callM_ok (consM_ok (lsM_ok e) nilM_ok) (mark_ok xs)
theorem le_if {mt : ME Bool} {m' m n' n : MS} (h : SLe m' m) (k : SLe n' n) : SLe (ifM mt m' n') (ifM mt m n) := fun ρ b => by
  rw [ifM_ap, ifM_ap, exprM_ap, exprM_ap]
  cases mt ρ b with
  | ok t b1 => cases t <;> first | exact h ρ b1 | exact k ρ b1
  | ex _ _ => exact .inr rfl
  | bad => exact .inl rfl
theorem le_app {i : Nat} {m' m : ME PyData} (h : ELe m' m) : SLe (appM i m') (appM i m) := fun ρ b => by
  rw [appM_ap, appM_ap, ownCase_ap, ownCase_ap]
  split
  · exact le_expr h ρ b
  · exact .inl rfl
def m1Q : En → PyData → Option PyData := fun _ d => (sumF [d]).bind fun s => (intF [s]).bind fun t => modD t (.int 2)
def m2Q : En → PyData → Option PyData := fun _ d => (sumF [d]).bind fun s => (addD s (.int 1)).bind fun u => (intF [u]).bind fun t => modD t (.int 2)
theorem le_m1 : ELe (mapN 6 9 m1Q) (compM (itM (varM 6)) [9] (nameT 9) (bM true) (opM modD (cbM intF (consM (cbM sumF (consM (varM 9) nilM)) nilM)) (cM (.int 2)))) := le_mapN fun ρ b d y hj h => by
  obtain ⟨s, h1, h2⟩ := Option.bind_eq_some_iff.mp h
  obtain ⟨t, h3, h4⟩ := Option.bind_eq_some_iff.mp h2
  exact opM_ok (cbM_ok (consM_ok (cbM_ok (consM_ok (varM_ok (at_set hj)) nilM_ok) h1) nilM_ok) h3) cM_ok h4
theorem le_m2 : ELe (mapN 6 9 m2Q) (compM (itM (varM 6)) [9] (nameT 9) (bM true) (opM modD (cbM intF (consM (opM addD (cbM sumF (consM (varM 9) nilM)) (cM (.int 1))) nilM)) (cM (.int 2)))) := le_mapN fun ρ b d y hj h => by
  obtain ⟨s, h1, h2⟩ := Option.bind_eq_some_iff.mp h
  obtain ⟨u, h5, h6⟩ := Option.bind_eq_some_iff.mp h2
  obtain ⟨t, h3, h4⟩ := Option.bind_eq_some_iff.mp h6
  exact opM_ok (cbM_ok (consM_ok (opM_ok (cbM_ok (consM_ok (varM_ok (at_set hj)) nilM_ok) h1) cM_ok h5) nilM_ok) h3) cM_ok h4
def lQ2 : MS := ifM (tstM (opM eqD (varM 0) (cM (.str "ands")))) (appM 3 (markQ (mapN 6 9 minQ))) skipM
def lQ3 : MS := ifM (tstM (opM eqD (varM 0) (cM (.str "ors")))) (appM 3 (markQ (mapN 6 9 maxQ))) skipM
def lQ4 : MS := ifM (tstM (opM eqD (varM 0) (cM (.str "sums")))) (seqM (appM 3 (markQ (mapN 6 9 m1Q))) (appM 3 (markQ (mapN 6 9 m2Q)))) skipM
theorem le_2 : SLe lQ2 lP2 := le_if (le_app (le_mark le_min)) (.refl _)
theorem le_3 : SLe lQ3 lP3 := le_if (le_app (le_mark le_max)) (.refl _)
theorem le_4 : SLe lQ4 lP4 := le_if (le_seq (le_app (le_mark le_m1)) (le_app (le_mark le_m2))) (.refl _)
def m_listedQ : MS := seqM lS0 (seqM lS1 (seqM (forM (itM (slM (varM 2) (soM (cM (.int 1))) noM)) (nameT 5) (seqM (setM 6 (lsM (mapN 2 4 partF))) (seqM lP1 (seqM lQ2 (seqM lQ3 lQ4))))) (retM (lenSetM (varB 3)))))
theorem le_listed : SLe m_listedQ m__law_listed := le_seq (.refl _) (le_seq (.refl _) (le_seq (le_for (le_seq (le_set (le_ls le_parts)) (le_seq (.refl _) (le_seq le_2 (le_seq le_3 le_4))))) (.refl _)))
def tabQ (kd : String) (ps : List Nat) : Prop := (ps.map fun (p : Nat) => (fm_kind_count [.str kd, .int p], fnM 10 m_listedQ [.str kd, .int p])) = ps.map fun (p : Nat) => (PR.ok (.int (cntK kd p)), PR.ok (.int (cntK kd p)))
theorem q_wires : tabQ "wires" [1, 2, 3, 4, 5, 6] := by unfold tabQ; kernel_rfl
theorem q_nots : tabQ "nots" [1, 2, 3, 4, 5, 6] := by unfold tabQ; kernel_rfl
theorem q_ands : tabQ "ands" [1, 2, 3, 4, 5, 6] := by unfold tabQ; kernel_rfl
theorem q_ors : tabQ "ors" [1, 2, 3, 4, 5, 6] := by unfold tabQ; kernel_rfl
theorem q_sums : tabQ "sums" [1, 2, 3, 4, 5, 6] := by unfold tabQ; kernel_rfl
theorem t_all : tabK "all" [1, 2, 3, 4, 5, 6] := by unfold tabK; kernel_rfl
def kinds5 : List String := ["wires", "nots", "ands", "ors", "sums"]
theorem k5_t : (kinds5.map fun (kd : String) => (eqD (.str kd) (.str "all"), eqD (.str kd) (.str "rising"))) = kinds5.map fun (kd : String) => (some (PyData.bool false), some (PyData.bool false)) := by kernel_rfl
theorem of_quick {kd : String} {ps : List Nat} (hk : kd ∈ kinds5) (t : tabQ kd ps) : tabK kd ps := by
  have k5 := at_all k5_t hk
  have k1 : eqD (.str kd) (.str "all") = some (.bool false) := congrArg Prod.fst k5
  have k2 : eqD (.str kd) (.str "rising") = some (.bool false) := congrArg Prod.snd k5
  refine List.map_congr_left fun p hp => ?_
  have h := at_all t hp
  have h1 : fm_kind_count [.str kd, .int p] = .ok (.int (cntK kd p)) := congrArg Prod.fst h
  have h2 : fm__law_listed [.str kd, .int p] = .ok (.int (cntK kd p)) := le_fn le_listed (congrArg Prod.snd h)
  have h3 : fm__law_due [.str kd, .int p] = .ok (.int (cntK kd p)) := fnM_rt (b := .no) (seqM_go (ifM_f (tstM_ok (opM_ok (varM_ok rfl) cM_ok k1)) skip_ok) (seqM_go (ifM_f (tstM_ok (opM_ok (varM_ok rfl) cM_ok k2)) skip_ok) (retM_ok (callM_ok (consM_ok (varM_ok rfl) (consM_ok (varM_ok rfl) nilM_ok)) h2))))
  rw [h1, h3]
theorem t_wires : tabK "wires" [1, 2, 3, 4, 5, 6] := of_quick (by decide) q_wires
theorem t_nots : tabK "nots" [1, 2, 3, 4, 5, 6] := of_quick (by decide) q_nots
theorem t_ands : tabK "ands" [1, 2, 3, 4, 5, 6] := of_quick (by decide) q_ands
theorem t_ors : tabK "ors" [1, 2, 3, 4, 5, 6] := of_quick (by decide) q_ors
theorem t_sums : tabK "sums" [1, 2, 3, 4, 5, 6] := of_quick (by decide) q_sums
end Fs

/-! Tr40: k40, rising answers. -/
namespace Fs
open He PySem.W L2 PyProof.Rows PySem.Spec PySem
/-- the rising answers as numbers, upwards -/
def rk : Nat → List Nat
  | 0 => [0, 1]
  | 1 => [0, 1, 3]
  | 2 => [0, 1, 3, 5, 7, 15]
  | 3 => [0, 1, 3, 5, 7, 15, 17, 19, 21, 23, 31, 51, 55, 63, 85, 87, 95, 119, 127, 255]
  | 4 => [0, 1, 3, 5, 7, 15, 17, 19, 21, 23, 31, 51, 55, 63, 85, 87, 95, 119, 127, 255, 257, 259, 261, 263, 271, 273, 275, 277, 279, 287, 307, 311, 319, 341, 343, 351, 375, 383, 511, 771, 775, 783, 787, 791, 799, 819, 823, 831, 855, 863, 887, 895, 1023, 1285, 1287, 1295, 1301, 1303, 1311, 1335, 1343, 1365, 1367, 1375, 1399, 1407, 1535, 1799, 1807, 1815, 1823, 1847, 1855, 1879, 1887, 1911, 1919, 2047, 3855, 3871, 3903, 3935, 3967, 4095, 4369, 4371, 4373, 4375, 4383, 4403, 4407, 4415, 4437, 4439, 4447, 4471, 4479, 4607, 4883, 4887, 4895, 4915, 4919, 4927, 4951, 4959, 4983, 4991, 5119, 5397, 5399, 5407, 5431, 5439, 5461, 5463, 5471, 5495, 5503, 5631, 5911, 5919, 5943, 5951, 5975, 5983, 6007, 6015, 6143, 7967, 7999, 8031, 8063, 8191, 13107, 13111, 13119, 13175, 13183, 13311, 14135, 14143, 14199, 14207, 14335, 16191, 16255, 16383, 21845, 21847, 21855, 21879, 21887, 22015, 22359, 22367, 22391, 22399, 22527, 24415, 24447, 24575, 30583, 30591, 30719, 32639, 32767, 65535]
  | _ => []
/-- the marks, as the program makes them -/
def pk : Nat → List Nat
  | 1 => [0, 2, 3]
  | 2 => [0, 8, 10, 12, 14, 15]
  | 3 => [0, 128, 136, 160, 168, 170, 192, 200, 204, 224, 232, 234, 236, 238, 240, 248, 250, 252, 254, 255]
  | 4 => [0, 32768, 32896, 34816, 34944, 34952, 40960, 41088, 41120, 43008, 43136, 43144, 43168, 43176, 43520, 43648, 43656, 43680, 43688, 43690, 49152, 49280, 49344, 51200, 51328, 51336, 51392, 51400, 52224, 52352, 52360, 52416, 52424, 52428, 57344, 57472, 57504, 57536, 57568, 59392, 59520, 59528, 59552, 59560, 59584, 59592, 59616, 59624, 59904, 60032, 60040, 60064, 60072, 60074, 60096, 60104, 60128, 60136, 60138, 60416, 60544, 60552, 60576, 60584, 60608, 60616, 60620, 60640, 60648, 60652, 60928, 61056, 61064, 61088, 61096, 61098, 61120, 61128, 61132, 61152, 61160, 61162, 61164, 61166, 61440, 61568, 61600, 61632, 61664, 61680, 63488, 63616, 63624, 63648, 63656, 63680, 63688, 63712, 63720, 63728, 63736, 64000, 64128, 64136, 64160, 64168, 64170, 64192, 64200, 64224, 64232, 64234, 64240, 64248, 64250, 64512, 64640, 64648, 64672, 64680, 64704, 64712, 64716, 64736, 64744, 64748, 64752, 64760, 64764, 65024, 65152, 65160, 65184, 65192, 65194, 65216, 65224, 65228, 65248, 65256, 65258, 65260, 65262, 65264, 65272, 65274, 65276, 65278, 65280, 65408, 65416, 65440, 65448, 65450, 65472, 65480, 65484, 65504, 65512, 65514, 65516, 65518, 65520, 65528, 65530, 65532, 65534, 65535]
  | _ => []
/-- their digits, the first one first -/
def qk : Nat → List Nat
  | 1 => [0, 1, 3]
  | 2 => [0, 1, 5, 3, 7, 15]
  | 3 => [0, 1, 17, 5, 21, 85, 3, 19, 51, 7, 23, 87, 55, 119, 15, 31, 95, 63, 127, 255]
  | 4 => [0, 1, 257, 17, 273, 4369, 5, 261, 1285, 21, 277, 4373, 1301, 5397, 85, 341, 4437, 1365, 5461, 21845, 3, 259, 771, 19, 275, 4371, 787, 4883, 51, 307, 4403, 819, 4915, 13107, 7, 263, 1287, 775, 1799, 23, 279, 4375, 1303, 5399, 791, 4887, 1815, 5911, 87, 343, 4439, 1367, 5463, 21847, 855, 4951, 1879, 5975, 22359, 55, 311, 4407, 1335, 5431, 823, 4919, 13111, 1847, 5943, 14135, 119, 375, 4471, 1399, 5495, 21879, 887, 4983, 13175, 1911, 6007, 22391, 14199, 30583, 15, 271, 1295, 783, 1807, 3855, 31, 287, 4383, 1311, 5407, 799, 4895, 1823, 5919, 3871, 7967, 95, 351, 4447, 1375, 5471, 21855, 863, 4959, 1887, 5983, 22367, 3935, 8031, 24415, 63, 319, 4415, 1343, 5439, 831, 4927, 13119, 1855, 5951, 14143, 3903, 7999, 16191, 127, 383, 4479, 1407, 5503, 21887, 895, 4991, 13183, 1919, 6015, 22399, 14207, 30591, 3967, 8063, 24447, 16255, 32639, 255, 511, 4607, 1535, 5631, 22015, 1023, 5119, 13311, 2047, 6143, 22527, 14335, 30719, 4095, 8191, 24575, 16383, 32767, 65535]
  | _ => []
def N4 : List Nat := [1, 2, 3, 4]
def RI (n : Nat) : List (List Int) := (rk n).map (bitsBE (2 ^ n))
def RA (n : Nat) : List PyData := (RI n).map tupI
theorem bits_len : ∀ s k : Nat, (bitsBE s k).length = s
  | 0, _ => rfl
  | s + 1, k => by show (bitsBE s k).length + 1 = s + 1; rw [bits_len s k]
theorem bits_ne {n : Nat} {ks : List Nat} : ∀ xs ∈ ks.map (bitsBE (2 ^ n)), xs ≠ [] := fun xs hx e => by
  obtain ⟨k, _, rfl⟩ := List.mem_map.mp hx
  have := bits_len (2 ^ n) k
  rw [e] at this
  have h := Nat.pow_pos (n := n) (show 0 < 2 by decide)
  rw [← this] at h
  cases h
/-! ### the program's -/
def lowD : Nat → Int → List Int
  | 0, _ => []
  | k + 1, x => x % 2 :: lowD k (x / 2)
def iB : MS := seqM (appM 5 (opM modD (varM 6) (cM (.int 2)))) (augM 6 fdivI (cM (.int 2)))
theorem inner_ok {s0 s1 s2 s3 : Sl} {b : Bx} : ∀ (ds : List PyData) (z : Sl) (xs : List PyData) (x : Int), xs.length + ds.length ≤ 1000 → ∃ z' x', forL (nameT 4) iB ds [s0, s1, s2, s3, z, .own xs, .v (.int x)] b = .nx [s0, s1, s2, s3, z', .own (xs ++ (lowD ds.length x).map .int), .v (.int x')] b
  | [], z, xs, x, _ => ⟨z, x, by simp [forL, lowD]⟩
  | d :: ds, z, xs, x, h => by
    obtain ⟨z', x', e⟩ := inner_ok ds (.v d) (xs ++ [.int (x % 2)]) (x / 2) (by simp at h ⊢; omega)
    refine ⟨z', x', ?_⟩
    unfold forL
    have t : nameT 4 d [s0, s1, s2, s3, z, .own xs, .v (.int x)] = some [s0, s1, s2, s3, .v d, .own xs, .v (.int x)] := rfl
    rw [t]
    simp only
    have a1 : appM 5 (opM modD (varM 6) (cM (.int 2))) [s0, s1, s2, s3, .v d, .own xs, .v (.int x)] b = .nx [s0, s1, s2, s3, .v d, .own (xs ++ [.int (x % 2)]), .v (.int x)] b := appM_ok rfl (opM_ok (varM_ok rfl) cM_ok (modD_i (by decide))) (by simp at h; omega)
    have a2 : augM 6 fdivI (cM (.int 2)) [s0, s1, s2, s3, .v d, .own (xs ++ [.int (x % 2)]), .v (.int x)] b = .nx [s0, s1, s2, s3, .v d, .own (xs ++ [.int (x % 2)]), .v (.int (x / 2))] b := rfl
    have st : iB [s0, s1, s2, s3, .v d, .own xs, .v (.int x)] b = .nx [s0, s1, s2, s3, .v d, .own (xs ++ [.int (x % 2)]), .v (.int (x / 2))] b := seqM_go a1 a2
    rw [st]
    simp only
    rw [e]
    simp [lowD, List.append_assoc]
def oB : MS := seqM (parM [5, 6] [none, some (varM 3)]) (seqM (forM (rng1M (varM 1)) (nameT 4) iB) (appM 2 (cbM tupleF (consM (varB 5) nilM))))
theorem outer_ok {s0 : Sl} {b : Bx} {s : Nat} (hs : s ≤ 1000) : ∀ (ks : List Nat) (z3 z4 z5 z6 : Sl) (ys : List PyData), ys.length + ks.length ≤ 1000 → ∃ z3' z4' z5' z6', forL (nameT 3) oB (ks.map fun (k : Nat) => .int k) [s0, .v (.int s), .own ys, z3, z4, z5, z6] b = .nx [s0, .v (.int s), .own (ys ++ ks.map fun (k : Nat) => tupI (lowD s k)), z3', z4', z5', z6'] b
  | [], z3, z4, z5, z6, ys, _ => ⟨z3, z4, z5, z6, by simp [forL]⟩
  | k :: ks, z3, z4, z5, z6, ys, h => by
    obtain ⟨z, x', ei⟩ := inner_ok (s0 := s0) (s1 := .v (.int s)) (s2 := .own ys) (s3 := .v (.int k)) (b := b) (rngL 0 s) z4 [] k (by rw [rngL_len]; simpa using hs)
    rw [rngL_len, List.nil_append] at ei
    obtain ⟨z3', z4', z5', z6', e⟩ := outer_ok (s0 := s0) (b := b) hs ks (.v (.int k)) z (.own ((lowD s k).map .int)) (.v (.int x')) (ys ++ [tupI (lowD s k)]) (by simp at h ⊢; omega)
    refine ⟨z3', z4', z5', z6', ?_⟩
    rw [List.map_cons]
    unfold forL
    have t : nameT 3 (PyData.int (k : Int)) [s0, .v (.int s), .own ys, z3, z4, z5, z6] = some [s0, .v (.int s), .own ys, .v (.int k), z4, z5, z6] := rfl
    rw [t]
    simp only
    have a1 : parM [5, 6] [none, some (varM 3)] [s0, .v (.int s), .own ys, .v (.int k), z4, z5, z6] b = .nx [s0, .v (.int s), .own ys, .v (.int k), z4, .own [], .v (.int k)] b := rfl
    have a2 : forM (rng1M (varM 1)) (nameT 4) iB [s0, .v (.int s), .own ys, .v (.int k), z4, .own [], .v (.int k)] b = .nx [s0, .v (.int s), .own ys, .v (.int k), z, .own ((lowD s k).map .int), .v (.int x')] b := forM_ok (rngM_ok (varM_ok rfl) (by omega)) ei
    have a3 : appM 2 (cbM tupleF (consM (varB 5) nilM)) [s0, .v (.int s), .own ys, .v (.int k), z, .own ((lowD s k).map .int), .v (.int x')] b = .nx [s0, .v (.int s), .own (ys ++ [tupI (lowD s k)]), .v (.int k), z, .own ((lowD s k).map .int), .v (.int x')] b := appM_ok rfl (cbM_ok (consM_ok (varB_own rfl) nilM_ok) rfl) (by simp at h; omega)
    have st : oB [s0, .v (.int s), .own ys, .v (.int k), z4, z5, z6] b = .nx [s0, .v (.int s), .own (ys ++ [tupI (lowD s k)]), .v (.int k), z, .own ((lowD s k).map .int), .v (.int x')] b := seqM_go a1 (seqM_go a2 a3)
    rw [st]
    simp only
    rw [e]
    simp [List.append_assoc]
theorem marks_t : (N4.map fun (n : Nat) => fm_rising_marks [.int n]) = N4.map fun (n : Nat) => PR.ok (.list ((pk n).map fun (k : Nat) => .int k)) := by kernel_rfl
theorem low_t : (N4.map fun (n : Nat) => (pk n).map fun (k : Nat) => lowD (2 ^ n) k) = N4.map fun (n : Nat) => (qk n).map (bitsBE (2 ^ n)) := by kernel_rfl
theorem sort_t : (N4.map fun (n : Nat) => (sortI (keyLe (2 ^ n)) (qk n), sortI (keyLe (2 ^ n)) (rk n))) = N4.map fun (n : Nat) => (rk n, rk n) := by kernel_rfl
theorem len_t : (N4.map fun (n : Nat) => ((rk n).length, (qk n).length, (pk n).length)) = N4.map fun (n : Nat) => ([3, 6, 20, 168].getD (n - 1) 0, [3, 6, 20, 168].getD (n - 1) 0, [3, 6, 20, 168].getD (n - 1) 0) := by kernel_rfl
theorem small_t : (N4.map fun (n : Nat) => (fm_need_two_many [.int n], fm_power_of [.int 2, .int n])) = N4.map fun (n : Nat) => (PR.ok (.int n), PR.ok (.int ((2 ^ n : Nat) : Int))) := by kernel_rfl
theorem le168 {n : Nat} (h : n ∈ N4) : (rk n).length ≤ 168 ∧ (qk n).length ≤ 168 ∧ (pk n).length ≤ 168 ∧ 2 ^ n ≤ 16 := by
  simp only [N4, List.mem_cons, List.not_mem_nil, or_false] at h
  rcases h with rfl | rfl | rfl | rfl <;> decide
theorem ra_ok {n : Nat} (h : n ∈ N4) : fm_rising_answers [.int n] = .ok (.tuple (RA n)) := by
  have m := at_all marks_t h
  have l := at_all low_t h
  have s := congrArg Prod.fst (at_all sort_t h)
  have w := at_all small_t h
  have w1 : fm_need_two_many [.int n] = .ok (.int n) := congrArg Prod.fst w
  have w2 : fm_power_of [.int 2, .int n] = .ok (.int ((2 ^ n : Nat) : Int)) := congrArg Prod.snd w
  obtain ⟨b1, b2, b3, b4⟩ := le168 h
  obtain ⟨z3, z4, z5, z6, e⟩ := outer_ok (s0 := .v (.int n)) (b := .no) (s := 2 ^ n) (by omega) (pk n) .no .no .no .no [] (by simp; omega)
  rw [List.nil_append] at e
  have e2 : ((pk n).map fun (k : Nat) => tupI (lowD (2 ^ n) k)) = ((qk n).map (bitsBE (2 ^ n))).map tupI := by rw [← l, List.map_map]; rfl
  rw [e2] at e
  have so := sorted_tups (xss := (qk n).map (bitsBE (2 ^ n))) (by rw [List.length_map]; omega) bits_ne
  rw [sort_bits, show sortI (keyLe (2 ^ n)) (qk n) = rk n from s] at so
  refine fnM_rt (b := .no) ?_
  show m_rising_answers [.v (.int n), .no, .no, .no, .no, .no, .no] .no = _
  have p0 : parM [1, 2] [some (callM 2 fm_power_of (consM (cM (.int 2)) (consM (varM 0) nilM))), none] [.v (.int n), .no, .no, .no, .no, .no, .no] .no = .nx [.v (.int n), .v (.int ((2 ^ n : Nat) : Int)), .own [], .no, .no, .no, .no] .no := parM_ok (pe_som (callM_ok (consM_ok cM_ok (consM_ok (varM_ok rfl) nilM_ok)) w2) (pe_non pe_nil)) rfl
  exact seqM_go (setM_ok (callM_ok (consM_ok (varM_ok rfl) nilM_ok) w1) (by simp)) (seqM_go p0 (seqM_go (forM_ok (itM_ok (callM_ok (consM_ok (varM_ok rfl) nilM_ok) m) rfl) e) (retM_ok (cbM_ok (consM_ok (cbM_ok (consM_ok (varB_own rfl) nilM_ok) so) nilM_ok) rfl))))
/-! ### the law's own -/
def tB : MS := (seqM (ownM 3 (limM nilM))
  (seqM (forM (itM (varM 1)) (nameT 4) (extM 3 (compM (itM (varM 1)) [5] (nameT 5) (tstM (callM 2 fm__law_is_below (consM (varM 4) (consM (varM 5) nilM)))) (opM addD (varM 4) (varM 5)))))
  (seqM (frzM 3) (setM 1 (varM 3)))))
def FR (t : Nat) : PyData := .list (((rk t).map (bitsBE (2 ^ t))).map tupI)
def LR (t : Nat) : PyData := tupI (bitsBE (2 ^ t) (2 ^ (2 ^ t) - 1))
theorem turn0 (s0 z2 z3 z4 : Sl) : tB [s0, .v (FR 0), z2, z3, z4, .no] .no = .nx [s0, .v (FR 1), z2, .v (FR 1), .v (LR 0), .no] .no := by kernel_rfl
theorem turn1 (s0 z2 z3 z4 : Sl) : tB [s0, .v (FR 1), z2, z3, z4, .no] .no = .nx [s0, .v (FR 2), z2, .v (FR 2), .v (LR 1), .no] .no := by kernel_rfl
theorem turn2 (s0 z2 z3 z4 : Sl) : tB [s0, .v (FR 2), z2, z3, z4, .no] .no = .nx [s0, .v (FR 3), z2, .v (FR 3), .v (LR 2), .no] .no := by kernel_rfl
theorem turn3 (s0 z2 z3 z4 : Sl) : tB [s0, .v (FR 3), z2, z3, z4, .no] .no = .nx [s0, .v (FR 4), z2, .v (FR 4), .v (LR 3), .no] .no := by kernel_rfl
theorem turnT {t : Nat} (h : t < 4) (s0 z2 z3 z4 : Sl) : tB [s0, .v (FR t), z2, z3, z4, .no] .no = .nx [s0, .v (FR (t + 1)), z2, .v (FR (t + 1)), .v (LR t), .no] .no := by
  match t, h with
  | 0, _ => exact turn0 ..
  | 1, _ => exact turn1 ..
  | 2, _ => exact turn2 ..
  | 3, _ => exact turn3 ..
theorem turns {s0 : Sl} : ∀ (ds : List PyData) (t : Nat) (z2 z3 z4 : Sl), t + ds.length ≤ 4 → ∃ z2' z3' z4', forL (nameT 2) tB ds [s0, .v (FR t), z2, z3, z4, .no] .no = .nx [s0, .v (FR (t + ds.length)), z2', z3', z4', .no] .no
  | [], t, z2, z3, z4, _ => ⟨z2, z3, z4, rfl⟩
  | d :: ds, t, z2, z3, z4, h => by
    simp only [List.length_cons] at h
    obtain ⟨z2', z3', z4', e⟩ := turns (s0 := s0) ds (t + 1) (.v d) (.v (FR (t + 1))) (.v (LR t)) (by omega)
    refine ⟨z2', z3', z4', ?_⟩
    unfold forL
    have q : nameT 2 d [s0, .v (FR t), z2, z3, z4, .no] = some [s0, .v (FR t), .v d, z3, z4, .no] := rfl
    rw [q]
    simp only
    rw [turnT (by omega)]
    simp only
    rw [e, List.length_cons, show t + 1 + ds.length = t + (ds.length + 1) by omega]
theorem lr_ok {n : Nat} (h : n ∈ N4) : fm__law_rising [.int n] = .ok (.list (RA n)) := by
  obtain ⟨b1, b2, b3, b4⟩ := le168 h
  have hn : n ≤ 4 := by simp [N4] at h; omega
  obtain ⟨z2, z3, z4, e⟩ := turns (s0 := .v (.int n)) (rngL 0 n) 0 .no .no .no (by rw [rngL_len]; omega)
  rw [rngL_len, Nat.zero_add] at e
  have s := congrArg Prod.snd (at_all sort_t h)
  have so := sorted_tups (xss := (rk n).map (bitsBE (2 ^ n))) (by rw [List.length_map]; omega) bits_ne
  rw [sort_bits, show sortI (keyLe (2 ^ n)) (rk n) = rk n from s] at so
  refine fnM_rt (b := .no) ?_
  show m__law_rising [.v (.int n), .no, .no, .no, .no, .no] .no = _
  have p0 : setM 1 (lstM (consM (tupM (consM (cM (.int 0)) nilM)) (consM (tupM (consM (cM (.int 1)) nilM)) nilM))) [.v (.int n), .no, .no, .no, .no, .no] .no = .nx [.v (.int n), .v (FR 0), .no, .no, .no, .no] .no := by kernel_rfl
  exact seqM_go p0 (seqM_go (forM_ok (rngM_ok (varM_ok rfl) (by omega)) e) (retM_ok (cbM_ok (consM_ok (varM_ok rfl) nilM_ok) so)))
end Fs

/-! Th40: k40, each rising answer is of the kind; how many. -/
namespace Fs
open He PySem.W L2 PyProof.Rows PySem.Spec PySem
def ansN (n : Nat) (a : Nat → Int) : List PyData := (List.range (2 ^ n)).map fun i => .int (a i)
def opN (n : Nat) (a : Nat → Int) : PyData := .tuple [.int n, .tuple (ansN n a)]
def rowsN (n : Nat) : List PyData := (List.range (2 ^ n)).map fun k => tupI (bitsBE n k)
/-- a row's number with a place at 0, at 1 -/
def lo0 (n i k : Nat) : Nat := k - k / 2 ^ (n - 1 - i) % 2 * 2 ^ (n - 1 - i)
def hi1 (n i k : Nat) : Nat := lo0 n i k + 2 ^ (n - 1 - i)
def cntA (a : Nat → Int) (n i k : Nat) : Bool := [!(a (lo0 n i k) == a (lo0 n i k)), !(a (hi1 n i k) == a (lo0 n i k))].any id
theorem rows_t : (N4.map fun (n : Nat) => fm_all_rows [.int 2, .int n]) = N4.map fun (n : Nat) => PR.ok (.list (rowsN n)) := by kernel_rfl
/-! ### an answer at a row -/
def nB : MS := (setM 2 (opM addD (opM mulD (varM 2) (varM 0)) (varM 3)))
theorem num_loop : ∀ (xs : List Int) (V z : Sl) (c : Int) (b : Bx), ∃ y, forL (nameT 3) nB (xs.map .int) [.v (.int 2), V, .v (.int c), z] b = .nx [.v (.int 2), V, .v (.int (markI c xs)), y] b
  | [], V, z, c, b => ⟨z, rfl⟩
  | x :: xs, V, z, c, b => by
    obtain ⟨y, e⟩ := num_loop xs V (.v (.int x)) (2 * c + x) b
    refine ⟨y, ?_⟩
    rw [List.map_cons]
    unfold forL
    have t : nameT 3 (PyData.int x) [.v (.int 2), V, .v (.int c), z] = some [.v (.int 2), V, .v (.int c), .v (.int x)] := rfl
    rw [t]
    simp only
    have st : nB [.v (.int 2), V, .v (.int c), .v (.int x)] b = .nx [.v (.int 2), V, .v (.int (2 * c + x)), .v (.int x)] b := setM_ok (opM_ok (opM_ok (varM_ok rfl) (varM_ok rfl) (mulD_r (by decide))) (varM_ok rfl) (by rw [addD_i, Int.mul_comm])) (by simp)
    rw [st]
    exact e
theorem num_ok (xs : List Int) : fm_row_number [.int 2, tupI xs] = .ok (.int (markI 0 xs)) := by
  obtain ⟨y, e⟩ := num_loop xs (.v (tupI xs)) .no 0 .no
  refine fnM_rt (b := .no) ?_
  show m_row_number [.v (.int 2), .v (tupI xs), .no, .no] .no = _
  exact seqM_go (setM_ok cM_ok (by simp)) (seqM_go (forM_ok (itM_ok (varM_ok rfl) rfl) e) (retM_ok (varM_ok rfl)))
theorem val_t : (N4.map fun (n : Nat) => (List.range (2 ^ n)).map fun (k : Nat) => markI 0 (bitsBE n k)) = N4.map fun (n : Nat) => (List.range (2 ^ n)).map fun (k : Nat) => (k : Int) := by kernel_rfl
theorem ans_ok (a : Nat → Int) {n k : Nat} (h : n ∈ N4) (hk : k < 2 ^ n) : fm_answer_at [.int 2, opN n a, tupI (bitsBE n k)] = .ok (.int (a k)) := by
  have v := at_all (at_all val_t h) (List.mem_range.mpr hk)
  have e := num_ok (bitsBE n k)
  rw [v] at e
  refine fnM_rt (b := .no) ?_
  show m_answer_at [.v (.int 2), .v (opN n a), .v (tupI (bitsBE n k))] .no = _
  refine retM_ok (opM_ok (opM_ok (varM_ok rfl) cM_ok (at1 true _ _ [])) (callM_ok (consM_ok (varM_ok rfl) (consM_ok (varM_ok rfl) nilM_ok)) e) ?_)
  show atI (ansN n a) (k : Int) = _
  refine atI_get ?_
  unfold ansN
  rw [List.getElem?_map, List.getElem?_range hk]
  rfl
def catO (i : Nat) (d : PyData) (v : Nat) : Option PyData := (slD none (some (i : Int)) d).bind fun x => (addD x (.tuple [.int v])).bind fun y => (slD (some ((i : Int) + 1)) none d).bind fun z => addD y z
theorem cat_t : (N4.map fun (n : Nat) => (List.range n).map fun (i : Nat) => (List.range (2 ^ n)).map fun (k : Nat) => (catO i (tupI (bitsBE n k)) 0, catO i (tupI (bitsBE n k)) 1)) = N4.map fun (n : Nat) => (List.range n).map fun (i : Nat) => (List.range (2 ^ n)).map fun (k : Nat) => (some (tupI (bitsBE n (lo0 n i k))), some (tupI (bitsBE n (hi1 n i k)))) := by kernel_rfl
theorem idx_t : (N4.map fun (n : Nat) => (List.range n).map fun (i : Nat) => (List.range (2 ^ n)).map fun (k : Nat) => (decide (lo0 n i k < 2 ^ n), decide (hi1 n i k < 2 ^ n), (k / 2 ^ (n - 1 - i) % 2 == 0) == (lo0 n i k == k), atD (tupI (bitsBE n k)) (.int i))) = N4.map fun (n : Nat) => (List.range n).map fun (i : Nat) => (List.range (2 ^ n)).map fun (k : Nat) => (true, true, true, some (.int ((k / 2 ^ (n - 1 - i) % 2 : Nat) : Int))) := by kernel_rfl
theorem cat_ok {i : Nat} {d e : PyData} {v : Nat} {mp md mv : ME PyData} {ρ : En} {b : Bx} (h : catO i d v = some e) (hp : mp ρ b = .ok (.int i) b) (hd : md ρ b = .ok d b) (hv : mv ρ b = .ok (.int v) b) : opM addD (opM addD (slM md noM (soM mp)) (tupM (consM mv nilM))) (slM md (soM (opM addD mp (cM (.int 1)))) noM) ρ b = .ok e b := by
  unfold catO at h
  obtain ⟨x, h1, h⟩ := Option.bind_eq_some_iff.mp h
  obtain ⟨y, h2, h⟩ := Option.bind_eq_some_iff.mp h
  obtain ⟨z, h3, h4⟩ := Option.bind_eq_some_iff.mp h
  exact opM_ok (opM_ok (slM_ok hd rfl (soM_ok hp) h1) (tupM_ok (consM_ok hv nilM_ok) (by simp)) h2) (slM_ok hd (soM_ok (opM_ok hp cM_ok (addD_i _ _))) rfl h3) h4
/-! ### at which places it hangs -/
theorem compL_idx {tf : TF} {me : ME PyData} {ρ0 : En} {b : Bx} {g : Nat → PyData} {f : Nat → PyData} : ∀ {ks : List Nat}, (∀ k ∈ ks, ∃ ρ1, tf (g k) ρ0 = some ρ1 ∧ me ρ1 b = .ok (f k) b) → compL tf (bM true) me ρ0 (ks.map g) b = .ok (ks.map f) b
  | [], _ => rfl
  | k :: ks, h => by
    obtain ⟨ρ1, e1, e2⟩ := h k (List.mem_cons_self ..)
    have ih := compL_idx (tf := tf) (me := me) (ρ0 := ρ0) (b := b) (g := g) (f := f) (ks := ks) fun k hk => h k (List.mem_cons_of_mem _ hk)
    rw [List.map_cons]
    unfold compL
    rw [e1]
    simp only
    rw [bM_ok]
    simp only
    rw [e2]
    simp only
    rw [ih]
    rfl
theorem compL_idxS {tf : TF} {mt : ME Bool} {me : ME PyData} {ρ0 : En} {b : Bx} {g : Nat → PyData} {p : Nat → Bool} : ∀ {ks : List Nat}, (∀ k ∈ ks, ∃ ρ1, tf (g k) ρ0 = some ρ1 ∧ mt ρ1 b = .ok (p k) b ∧ me ρ1 b = .ok (g k) b) → compL tf mt me ρ0 (ks.map g) b = .ok ((ks.filter p).map g) b
  | [], _ => rfl
  | k :: ks, h => by
    obtain ⟨ρ1, e1, e2, e3⟩ := h k (List.mem_cons_self ..)
    have ih := compL_idxS (tf := tf) (mt := mt) (me := me) (ρ0 := ρ0) (b := b) (g := g) (p := p) (ks := ks) fun k hk => h k (List.mem_cons_of_mem _ hk)
    rw [List.map_cons]
    unfold compL
    rw [e1]
    simp only
    rw [e2]
    cases hp : p k with
    | false =>
      simp only
      rw [ih, List.filter_cons, hp]
      rfl
    | true =>
      simp only
      rw [e3]
      simp only
      rw [ih, List.filter_cons, hp]
      rfl
def hangs (a : Nat → Int) (n i : Nat) : Bool := ((List.range (2 ^ n)).map fun k => cntA a n i k).any id
def hungA (a : Nat → Int) (n : Nat) : List Nat := (List.range n).filter (hangs a n)
def iL (ks : List Nat) : List PyData := ks.map fun (k : Nat) => .int k
theorem rngL_iL (n : Nat) : rngL 0 n = iL (List.range n) := by
  unfold rngL iL
  refine List.map_congr_left fun k _ => ?_
  simp
theorem anyF_bools (bs : List Bool) : anyF [.list (bs.map .bool)] = some (.bool (bs.any id)) := by
  show (boolsF (bs.map .bool)).map _ = _
  rw [bools_map]
  rfl
theorem p16 {n : Nat} (h : n ∈ N4) : 2 ^ n ≤ 16 := (le168 h).2.2.2
theorem op0 (n : Nat) (a : Nat → Int) : atD (opN n a) (.int 0) = some (.int n) := at0 true _ _
theorem cnt_ok (a : Nat → Int) {n i k : Nat} (h : n ∈ N4) (hi : i < n) (hk : k < 2 ^ n) : fm_counts_at [.int 2, opN n a, .int i, tupI (bitsBE n k)] = .ok (.bool (cntA a n i k)) := by
  have c := at_all (at_all (at_all cat_t h) (List.mem_range.mpr hi)) (List.mem_range.mpr hk)
  have x := at_all (at_all (at_all idx_t h) (List.mem_range.mpr hi)) (List.mem_range.mpr hk)
  have l1 : lo0 n i k < 2 ^ n := of_decide_eq_true (congrArg Prod.fst x)
  have l2 : hi1 n i k < 2 ^ n := of_decide_eq_true (congrArg (fun z => z.2.1) x)
  have c0 : catO i (tupI (bitsBE n k)) 0 = _ := congrArg Prod.fst c
  have c1 : catO i (tupI (bitsBE n k)) 1 = _ := congrArg Prod.snd c
  refine fnM_rt (b := .no) ?_
  show m_counts_at [.v (.int 2), .v (opN n a), .v (.int i), .v (tupI (bitsBE n k)), .no, .no, .no] .no = _
  have e1 : compL (nameT 5) (bM true) (callM 3 fm_answer_at (consM (varM 0) (consM (varM 1) (consM (opM addD (opM addD (slM (varM 3) noM (soM (varM 2))) (tupM (consM (varM 5) nilM))) (slM (varM 3) (soM (opM addD (varM 2) (cM (.int 1)))) noM)) nilM)))) [.v (.int 2), .v (opN n a), .v (.int i), .v (tupI (bitsBE n k)), .no, .no, .no] (iL [0, 1]) .no = .ok ([0, 1].map fun (v : Nat) => .int (a (if v = 0 then lo0 n i k else hi1 n i k))) .no := compL_idx fun v hv => by
    simp only [List.mem_cons, List.not_mem_nil, or_false] at hv
    rcases hv with rfl | rfl
    · exact ⟨_, rfl, callM_ok (consM_ok (varM_ok rfl) (consM_ok (varM_ok rfl) (consM_ok (cat_ok c0 (varM_ok rfl) (varM_ok rfl) (varM_ok rfl)) nilM_ok))) (ans_ok a h l1)⟩
    · exact ⟨_, rfl, callM_ok (consM_ok (varM_ok rfl) (consM_ok (varM_ok rfl) (consM_ok (cat_ok c1 (varM_ok rfl) (varM_ok rfl) (varM_ok rfl)) nilM_ok))) (ans_ok a h l2)⟩
  have e2 : ∀ V : PyData, V = .list ([0, 1].map fun (v : Nat) => .int (a (if v = 0 then lo0 n i k else hi1 n i k))) → compL (nameT 6) (bM true) (opM neD (varM 6) (opM atD (varM 4) (cM (.int 0)))) [.v (.int 2), .v (opN n a), .v (.int i), .v (tupI (bitsBE n k)), .v V, .no, .no] ([0, 1].map fun (v : Nat) => .int (a (if v = 0 then lo0 n i k else hi1 n i k))) .no = .ok ([0, 1].map fun (v : Nat) => .bool (!(a (if v = 0 then lo0 n i k else hi1 n i k) == a (lo0 n i k)))) .no := fun V hV => compL_idx fun v hv => ⟨_, rfl, opM_ok (varM_ok rfl) (opM_ok (varM_ok rfl) cM_ok (by rw [hV]; exact at0 false _ _)) (neD_i _ _)⟩
  refine seqM_go (setM_ok (lsM_ok (compM_ok (rngM_ok (n := 2) (varM_ok rfl) (by decide)) rfl e1)) (by simp)) (retM_ok (cbM_ok (consM_ok (lsM_ok (compM_ok (itM_ok (varM_ok rfl) rfl) rfl (e2 _ rfl))) nilM_ok) rfl))
theorem hung_ok (a : Nat → Int) {n : Nat} (h : n ∈ N4) : fm_hung_found [.int 2, opN n a] = .ok (.tuple (iL (hungA a n))) := by
  have hn : n ≤ 4 := by simp [N4] at h; omega
  have rw0 := at_all rows_t h
  refine fnM_rt (b := .no) ?_
  show m_hung_found [.v (.int 2), .v (opN n a), .no, .no, .no] .no = _
  refine seqM_go (setM_ok (callM_ok (consM_ok (varM_ok rfl) (consM_ok (opM_ok (varM_ok rfl) cM_ok (op0 n a)) nilM_ok)) rw0) (by simp)) (retM_ok (cbM_ok (consM_ok (lsM_ok (compM_ok (rngM_ok (opM_ok (varM_ok rfl) cM_ok (op0 n a)) (by omega)) rfl ?_)) nilM_ok) (e := rfl)))
  rw [rngL_iL]
  refine compL_idxS (p := hangs a n) fun i hi => ⟨[.v (.int 2), .v (opN n a), .v (.list (rowsN n)), .v (.int i), .no], rfl, tstM_ok (cbM_ok (consM_ok (lsM_ok (compM_ok (itM_ok (varM_ok rfl) rfl) rfl (compL_idx (f := fun k => PyData.bool (cntA a n i k)) fun k hk => ⟨_, rfl, callM_ok (consM_ok (varM_ok rfl) (consM_ok (varM_ok rfl) (consM_ok (varM_ok rfl) (consM_ok (varM_ok rfl) nilM_ok)))) (cnt_ok a h (List.mem_range.mp hi) (List.mem_range.mp hk))⟩))) nilM_ok) ?_), varM_ok rfl⟩
  have e : ((List.range (2 ^ n)).map fun k => PyData.bool (cntA a n i k)) = ((List.range (2 ^ n)).map fun k => cntA a n i k).map .bool := by rw [List.map_map]; rfl
  rw [e, anyF_bools]
  rfl
/-! ### the way of a place -/
def stepsA (a : Nat → Int) (n i : Nat) : List Int := ((List.range (2 ^ n)).filter fun k => k / 2 ^ (n - 1 - i) % 2 == 0).map fun k => a (hi1 n i k) - a k
def wS0 : MS := (ownM 2 (limM nilM))
def wS1 : MS := (forM (itM (callM 2 fm_all_rows (consM (cM (.int 2)) (consM (opM atD (varM 0) (cM (.int 0))) nilM)))) (nameT 3) (ifM (tstM (opM eqD (opM atD (varM 3) (varM 1)) (cM (.int 0)))) (seqM (setM 4 (opM addD (opM addD (slM (varM 3) noM (soM (varM 1))) (tupM (consM (cM (.int 1)) nilM))) (slM (varM 3) (soM (opM addD (varM 1) (cM (.int 1)))) noM)))
  (appM 2 (opM subD (callM 3 fm_answer_at (consM (cM (.int 2)) (consM (varM 0) (consM (varM 4) nilM)))) (callM 3 fm_answer_at (consM (cM (.int 2)) (consM (varM 0) (consM (varM 3) nilM))))))) skipM))
def wB : MS := (ifM (tstM (opM eqD (opM atD (varM 3) (varM 1)) (cM (.int 0)))) (seqM (setM 4 (opM addD (opM addD (slM (varM 3) noM (soM (varM 1))) (tupM (consM (cM (.int 1)) nilM))) (slM (varM 3) (soM (opM addD (varM 1) (cM (.int 1)))) noM)))
  (appM 2 (opM subD (callM 3 fm_answer_at (consM (cM (.int 2)) (consM (varM 0) (consM (varM 4) nilM)))) (callM 3 fm_answer_at (consM (cM (.int 2)) (consM (varM 0) (consM (varM 3) nilM))))))) skipM)
theorem way_loop (a : Nat → Int) {n i : Nat} (h : n ∈ N4) (hi : i < n) : ∀ (ks : List Nat) (z3 z4 : Sl) (xs : List Int), (∀ k ∈ ks, k < 2 ^ n) → xs.length + ks.length ≤ 1000 → ∃ z3' z4', forL (nameT 3) wB (ks.map fun k => tupI (bitsBE n k)) [.v (opN n a), .v (.int i), .own (xs.map .int), z3, z4] .no = .nx [.v (opN n a), .v (.int i), .own ((xs ++ (ks.filter fun k => k / 2 ^ (n - 1 - i) % 2 == 0).map fun k => a (hi1 n i k) - a k).map .int), z3', z4'] .no
  | [], z3, z4, xs, _, _ => ⟨z3, z4, by simp [forL]⟩
  | k :: ks, z3, z4, xs, hks, hl => by
    have hk := hks k (List.mem_cons_self ..)
    have x := at_all (at_all (at_all idx_t h) (List.mem_range.mpr hi)) (List.mem_range.mpr hk)
    have l2 : hi1 n i k < 2 ^ n := of_decide_eq_true (congrArg (fun z => z.2.1) x)
    have at_ : atD (tupI (bitsBE n k)) (.int i) = some (.int ((k / 2 ^ (n - 1 - i) % 2 : Nat) : Int)) := congrArg (fun z => z.2.2.2) x
    have c1 : catO i (tupI (bitsBE n k)) 1 = _ := congrArg Prod.snd (at_all (at_all (at_all cat_t h) (List.mem_range.mpr hi)) (List.mem_range.mpr hk))
    have t : nameT 3 (tupI (bitsBE n k)) [.v (opN n a), .v (.int i), .own (xs.map .int), z3, z4] = some [.v (opN n a), .v (.int i), .own (xs.map .int), .v (tupI (bitsBE n k)), z4] := rfl
    simp only [List.length_cons] at hl
    by_cases hb : k / 2 ^ (n - 1 - i) % 2 = 0
    · obtain ⟨z3', z4', e⟩ := way_loop a h hi ks (.v (tupI (bitsBE n k))) (.v (tupI (bitsBE n (hi1 n i k)))) (xs ++ [a (hi1 n i k) - a k]) (fun k hk => hks k (List.mem_cons_of_mem _ hk)) (by simp; omega)
      refine ⟨z3', z4', ?_⟩
      rw [List.map_cons]
      unfold forL
      rw [t]
      simp only
      have st : wB [.v (opN n a), .v (.int i), .own (xs.map .int), .v (tupI (bitsBE n k)), z4] .no = .nx [.v (opN n a), .v (.int i), .own ((xs ++ [a (hi1 n i k) - a k]).map .int), .v (tupI (bitsBE n k)), .v (tupI (bitsBE n (hi1 n i k)))] .no := by
        rw [List.map_append]
        exact ifM_t (tstM_ok (opM_ok (opM_ok (varM_ok rfl) (varM_ok rfl) at_) cM_ok (by rw [eqD_i, hb]; rfl))) (seqM_go (setM_ok (cat_ok c1 (varM_ok rfl) (varM_ok rfl) cM_ok) (by simp)) (appM_ok rfl (opM_ok (callM_ok (consM_ok cM_ok (consM_ok (varM_ok rfl) (consM_ok (varM_ok rfl) nilM_ok))) (ans_ok a h l2)) (callM_ok (consM_ok cM_ok (consM_ok (varM_ok rfl) (consM_ok (varM_ok rfl) nilM_ok))) (ans_ok a h hk)) (subD_i _ _)) (by simp; omega)))
      rw [st]
      simp only
      rw [e, List.filter_cons, if_pos (by rw [hb]; rfl)]
      simp [List.append_assoc]
    · obtain ⟨z3', z4', e⟩ := way_loop a h hi ks (.v (tupI (bitsBE n k))) z4 xs (fun k hk => hks k (List.mem_cons_of_mem _ hk)) (by omega)
      refine ⟨z3', z4', ?_⟩
      rw [List.map_cons]
      unfold forL
      rw [t]
      simp only
      have st : wB [.v (opN n a), .v (.int i), .own (xs.map .int), .v (tupI (bitsBE n k)), z4] .no = .nx [.v (opN n a), .v (.int i), .own (xs.map .int), .v (tupI (bitsBE n k)), z4] .no := ifM_f (tstM_ok (opM_ok (opM_ok (varM_ok rfl) (varM_ok rfl) at_) cM_ok (by rw [eqD_i, beq_eq_false_iff_ne.mpr (by omega)]))) rfl
      rw [st]
      simp only
      rw [e, List.filter_cons, if_neg (by simpa using hb)]
theorem way_t (a : Nat → Int) {n i : Nat} (h : n ∈ N4) (hi : i < n) : ∃ z3 z4, wS1 [.v (opN n a), .v (.int i), .own [], .no, .no] .no = .nx [.v (opN n a), .v (.int i), .own ((stepsA a n i).map .int), z3, z4] .no := by
  have hp := p16 h
  obtain ⟨z3, z4, e⟩ := way_loop a h hi (List.range (2 ^ n)) .no .no [] (fun k hk => List.mem_range.mp hk) (by simp; omega)
  exact ⟨z3, z4, forM_ok (itM_ok (callM_ok (consM_ok cM_ok (consM_ok (opM_ok (varM_ok rfl) cM_ok (op0 n a)) nilM_ok)) (at_all rows_t h)) rfl) e⟩
theorem shp_ints (xs : List Int) : shp (.list (xs.map .int)) = true := by
  obtain ⟨h1, h2⟩ := lay_ints xs
  unfold shp SeqAt.shaped
  simp [PyData.canLay0, PyData.depth, h1, h2]
theorem mem_int (i : Int) (xs : List Int) : memD false (.int i) (.list (xs.map .int)) = some (.bool (xs.any (· == i))) := by
  show (if shp (.int i) && shp (.list (xs.map .int)) then some (PyData.bool (if false = true then _ else (xs.map PyData.int).any fun z => PyData.eqv z (.int i))) else none) = _
  rw [shp_ints, show shp (.int i) = true by kernel_rfl, if_pos (by rfl)]
  simp only [Bool.false_eq_true, if_false, List.any_map]
  rfl
theorem way_ok {a : Nat → Int} {n i : Nat} (h : n ∈ N4) (hi : i < n) (h1 : (stepsA a n i).any (· == 1) = true) (h2 : (stepsA a n i).any (· == -1) = false) : fm_way_of [opN n a, .int i] = .ok (.str "rises") := by
  obtain ⟨z3, z4, w⟩ := way_t a h hi
  refine fnM_rt (b := .no) ?_
  show m_way_of [.v (opN n a), .v (.int i), .no, .no, .no] .no = _
  have s0 : wS0 [.v (opN n a), .v (.int i), .no, .no, .no] .no = .nx [.v (opN n a), .v (.int i), .own [], .no, .no] .no := rfl
  refine seqM_go s0 (seqM_go w (seqM_rt (ifM_t (tstM_ok (opM_ok cM_ok (varB_own rfl) (by rw [mem_int, h1]))) (retM_ok (iteM_f (tstM_ok (opM_ok (negM_ok cM_ok) (varB_own rfl) (by rw [mem_int, h2]))) rfl)))))
/-! ### the kind -/
def okA (a : Nat → Int) (n : Nat) : Bool := (hungA a n).all fun i => (stepsA a n i).any (· == 1) && !(stepsA a n i).any (· == -1)
theorem ris_eq : eqD (.str "rises") (.str "rises") = some (.bool true) := eq_self (by kernel_rfl)
theorem allF_true : ∀ (n : Nat), allF [.list (List.replicate n (PyData.bool true))] = some (.bool true) := fun n => by
  have e : List.replicate n (PyData.bool true) = (List.replicate n true).map .bool := by simp
  rw [e]
  show (boolsF _).map _ = _
  rw [bools_map]
  simp
theorem kind_ok {a : Nat → Int} {n : Nat} (h : n ∈ N4) (ha : okA a n = true) : fm_is_kind [.str "rising", opN n a] = .ok (.bool true) := by
  have hg := hung_ok a h
  refine fnM_rt (b := .no) ?_
  show m_is_kind [.v (.str "rising"), .v (opN n a), .no, .no, .no, .no, .no, .no, .no] .no = _
  have ways : compL (nameT 4) (bM true) (callM 2 fm_way_of (consM (varM 1) (consM (varM 4) nilM))) [.v (.str "rising"), .v (opN n a), .v (.tuple (iL (hungA a n))), .no, .no, .no, .no, .no, .no] (iL (hungA a n)) .no = .ok ((hungA a n).map fun _ => .str "rises") .no := compL_idx fun i hi => by
    have hi2 := (List.mem_filter.mp hi).1
    have hw := List.all_eq_true.mp ha i hi
    rw [Bool.and_eq_true, Bool.not_eq_true'] at hw
    exact ⟨_, rfl, callM_ok (consM_ok (varM_ok rfl) (consM_ok (varM_ok rfl) nilM_ok)) (way_ok h (List.mem_range.mp hi2) hw.1 hw.2)⟩
  have q1 : eqD (.str "rising") (.str "all") = some (.bool false) := by kernel_rfl
  have q2 : memD false (.str "rising") (.tuple [.str "wires", .str "nots"]) = some (.bool false) := by kernel_rfl
  have q3 : eqD (.str "rising") (.str "rising") = some (.bool true) := by kernel_rfl
  refine seqM_go (setM_ok (callM_ok (consM_ok cM_ok (consM_ok (varM_ok rfl) nilM_ok)) hg) (by simp)) (seqM_go (setM_ok (lsM_ok (compM_ok (itM_ok (varM_ok rfl) rfl) rfl ways)) (by simp)) ?_)
  have ln : ∀ r3 : Sl, cbM lenF (consM (varM 2) nilM) [.v (.str "rising"), .v (opN n a), .v (.tuple (iL (hungA a n))), r3, .no, .no, .no, .no, .no] .no = .ok (.int (hungA a n).length) .no := fun r3 => cbM_ok (consM_ok (varM_ok rfl) nilM_ok) (by show some (PyData.int ((iL (hungA a n)).length : Nat)) = _; unfold iL; rw [List.length_map])
  by_cases h0 : (hungA a n).length = 0
  · exact seqM_rt (ifM_t (orM_f (tstM_ok (opM_ok (varM_ok rfl) cM_ok q1)) (tstM_ok (opM_ok (ln _) cM_ok (by rw [eqD_i, h0]; rfl)))) (retM_ok cM_ok))
  · refine seqM_go (ifM_f (orM_f (tstM_ok (opM_ok (varM_ok rfl) cM_ok q1)) (tstM_ok (opM_ok (ln _) cM_ok (by rw [eqD_i, beq_eq_false_iff_ne.mpr (by omega)])))) skip_ok) (seqM_go (ifM_f (tstM_ok (opM_ok (varM_ok rfl) (tupM_ok (consM_ok cM_ok (consM_ok cM_ok nilM_ok)) (by simp)) q2)) skip_ok) (seqM_rt (ifM_t (tstM_ok (opM_ok (varM_ok rfl) cM_ok q3)) (retM_ok (cbM_ok (consM_ok (lsM_ok (compM_ok (itM_ok (varM_ok rfl) rfl) rfl (compL_idx (f := fun _ => PyData.bool true) fun i hi => ⟨_, rfl, opM_ok (varM_ok rfl) cM_ok ris_eq⟩))) nilM_ok) ?_)))))
    rw [List.map_const']
    exact allF_true _
theorem asop_t (a : Nat → Int) : (N4.map fun (n : Nat) => fm_as_operation [.tuple (ansN n a)]) = N4.map fun (n : Nat) => PR.ok (opN n a) := by kernel_rfl
theorem need_t : (N4.map fun (n : Nat) => (RI n).map fun xs => fm_need_answers [tupI xs]) = N4.map fun (n : Nat) => (RI n).map fun xs => PR.ok (tupI xs) := by kernel_rfl
theorem oks_t : (N4.map fun (n : Nat) => (RI n).all fun xs => okA (fun i => xs.getD i 0) n) = N4.map fun (n : Nat) => true := by kernel_rfl
theorem kd_t : fm_need_kind [.str "rising"] = .ok (.str "rising") := by kernel_rfl
theorem ans_tup {n : Nat} {xs : List Int} (h : xs.length = 2 ^ n) : tupI xs = .tuple (ansN n fun i => xs.getD i 0) := by
  unfold tupI ansN
  congr 1
  refine List.ext_getElem? fun i => ?_
  rw [List.getElem?_map, List.getElem?_map]
  by_cases hi : i < 2 ^ n
  · rw [List.getElem?_range hi, List.getElem?_eq_getElem (by omega)]
    simp [List.getD, List.getElem?_eq_getElem (show i < xs.length by omega)]
  · rw [List.getElem?_eq_none (by rw [h]; omega), List.getElem?_eq_none (by rw [List.length_range]; omega)]
    rfl
theorem has_ok {n : Nat} (h : n ∈ N4) : ∀ d ∈ RA n, fm_has_kind [.str "rising", d] = .ok (.bool true) := fun d hd => by
  obtain ⟨xs, hx, rfl⟩ := List.mem_map.mp hd
  have hl : xs.length = 2 ^ n := by
    obtain ⟨k, _, rfl⟩ := List.mem_map.mp hx
    exact bits_len _ _
  have e1 := at_all (at_all need_t h) hx
  have e2 := at_all (asop_t fun i => xs.getD i 0) h
  rw [← ans_tup hl] at e2
  have e3 := kind_ok h (List.all_eq_true.mp (at_all oks_t h) xs hx)
  refine fnM_rt (b := .no) ?_
  show m_has_kind [.v (.str "rising"), .v (tupI xs)] .no = _
  exact seqM_go (setM_ok (callM_ok (consM_ok (varM_ok rfl) nilM_ok) kd_t) (by simp)) (retM_ok (callM_ok (consM_ok (varM_ok rfl) (consM_ok (callM_ok (consM_ok (callM_ok (consM_ok (varM_ok rfl) nilM_ok) e1) nilM_ok) e2) nilM_ok)) e3))
/-! ### five places -/
def fB : MS := (setM 2 (opM addD (varM 2) (cbM lenF (consM (lsM (compM (itM (varM 0)) [4] (nameT 4) (tstM (opM eqD (opM bandD (varM 3) (varM 4)) (varM 3))) (varM 4))) nilM))))
def cntF (k : Nat) : Nat := ((rk 4).filter fun (h : Nat) => Builtin.bitAnd (k : Int) (h : Int) == (k : Int)).length
theorem cntF_D (k : Nat) : ((iL (rk 4)).filter fun d => match d with | .int h => Builtin.bitAnd (k : Int) h == (k : Int) | _ => false).length = cntF k := by
  unfold iL cntF
  rw [List.filter_map, List.length_map]
  rfl
theorem five_loop (V0 : PyData) (hV : V0 = .list (iL (rk 4))) : ∀ (ks : List Nat) (z1 z3 : Sl) (c : Int), ∃ z3', forL (nameT 3) fB (iL ks) [.v V0, z1, .v (.int c), z3, .no] .no = .nx [.v V0, z1, .v (.int (c + ((ks.map fun k => (cntF k : Int)).sum))), z3', .no] .no
  | [], z1, z3, c => ⟨z3, by simp [forL, iL]⟩
  | k :: ks, z1, z3, c => by
    obtain ⟨z3', e⟩ := five_loop V0 hV ks z1 (.v (.int k)) (c + cntF k)
    refine ⟨z3', ?_⟩
    show forL (nameT 3) fB (.int k :: iL ks) _ _ = _
    unfold forL
    have t : nameT 3 (PyData.int (k : Int)) [.v V0, z1, .v (.int c), z3, .no] = some [.v V0, z1, .v (.int c), .v (.int k), .no] := rfl
    rw [t]
    simp only
    have cmp : compL (nameT 4) (tstM (opM eqD (opM bandD (varM 3) (varM 4)) (varM 3))) (varM 4) [.v V0, z1, .v (.int c), .v (.int k), .no] (iL (rk 4)) .no = .ok (((iL (rk 4)).filter fun d => match d with | .int h => Builtin.bitAnd (k : Int) h == (k : Int) | _ => false).map id) .no := compL_sel _ id fun d hd => by
      obtain ⟨h, _, rfl⟩ := List.mem_map.mp hd
      exact ⟨_, rfl, tstM_ok (opM_ok (opM_ok (varM_ok rfl) (varM_ok rfl) rfl) (varM_ok rfl) (eqD_i _ _)), fun _ => varM_ok rfl⟩
    have st : fB [.v V0, z1, .v (.int c), .v (.int k), .no] .no = .nx [.v V0, z1, .v (.int (c + cntF k)), .v (.int k), .no] .no := by
      refine setM_ok (opM_ok (varM_ok rfl) (cbM_ok (consM_ok (lsM_ok (compM_ok (itM_ok (varM_ok rfl) (by rw [hV]; rfl)) ?_ cmp)) nilM_ok) (d := .int (cntF k)) ?_) (addD_i _ _)) (by simp)
      · rfl
      · rw [← cntF_D, List.map_id]; rfl
    rw [st]
    simp only
    rw [e, List.map_cons, List.sum_cons, Int.add_assoc]
theorem five_t : ((rk 4).map fun k => (cntF k : Int)).sum = 7581 := by kernel_rfl
theorem val4_t : (rk 4).map (fun k => PyData.int (markI 0 (bitsBE (2 ^ 4) k))) = iL (rk 4) := by kernel_rfl
theorem five_ok : fm__law_five [] = .ok (.int 7581) := by
  refine fnM_rt (b := .no) ?_
  show m__law_five [.no, .no, .no, .no, .no] .no = _
  obtain ⟨z3, e⟩ := five_loop _ rfl (rk 4) .no .no 0
  rw [five_t] at e
  have c0 : compL (nameT 1) (bM true) (callM 1 fm__law_mark (consM (varM 1) nilM)) [.no, .no, .no, .no, .no] (RA 4) .no = .ok ((rk 4).map fun k => .int (markI 0 (bitsBE (2 ^ 4) k))) .no := by
    unfold RA RI
    rw [List.map_map]
    refine compL_idx fun k hk => ⟨_, rfl, callM_ok (consM_ok (varM_ok rfl) nilM_ok) (mark_tup _)⟩
  rw [val4_t] at c0
  exact seqM_go (setM_ok (lsM_ok (compM_ok (itM_ok (callM_ok (consM_ok cM_ok nilM_ok) (lr_ok (n := 4) (by decide))) rfl) rfl c0)) (by simp)) (seqM_go (setM_ok cM_ok (by simp)) (seqM_go (forM_ok (itM_ok (varM_ok rfl) rfl) e) (retM_ok (varM_ok rfl))))
theorem ris5_t : fm_kind_count [.str "rising", .int 5] = .ok (.int 7581) := by kernel_rfl
theorem ris4_t : (N4.map fun (n : Nat) => fm_kind_count [.str "rising", .int n]) = N4.map fun (n : Nat) => PR.ok (.int (cntK "rising" n)) := by kernel_rfl
theorem rlen_t : (N4.map fun (n : Nat) => ((rk n).length : Int)) = N4.map fun (n : Nat) => cntK "rising" n := by kernel_rfl
theorem t_ris : tabK "rising" [1, 2, 3, 4, 5] := by
  have q1 : eqD (.str "rising") (.str "all") = some (.bool false) := by kernel_rfl
  have q2 : eqD (.str "rising") (.str "rising") = some (.bool true) := by kernel_rfl
  refine List.map_congr_left fun p hp => ?_
  by_cases h5 : p = 5
  · subst h5
    have d5 : fm__law_due [.str "rising", .int (5 : Nat)] = .ok (.int 7581) := fnM_rt (b := .no) (seqM_go (ifM_f (tstM_ok (opM_ok (varM_ok rfl) cM_ok q1)) skip_ok) (seqM_rt (ifM_t (tstM_ok (opM_ok (varM_ok rfl) cM_ok q2)) (retM_ok (iteM_t (tstM_ok (opM_ok (varM_ok rfl) cM_ok (by rw [eqD_i]; rfl))) (callM_ok nilM_ok five_ok))))))
    rw [d5, show fm_kind_count [.str "rising", .int (5 : Nat)] = .ok (.int 7581) from ris5_t]
    rfl
  · have hn : p ∈ N4 := by simp at hp; simp [N4]; omega
    have dn : fm__law_due [.str "rising", .int p] = .ok (.int (cntK "rising" p)) := fnM_rt (b := .no) (seqM_go (ifM_f (tstM_ok (opM_ok (varM_ok rfl) cM_ok q1)) skip_ok) (seqM_rt (ifM_t (tstM_ok (opM_ok (varM_ok rfl) cM_ok q2)) (retM_ok (iteM_f (tstM_ok (opM_ok (varM_ok rfl) cM_ok (by rw [eqD_i, beq_eq_false_iff_ne.mpr (by omega)]))) (cbM_ok (consM_ok (callM_ok (consM_ok (varM_ok rfl) nilM_ok) (lr_ok hn)) nilM_ok) (by rw [← at_all rlen_t hn]; show some (PyData.int ((RA p).length : Nat)) = _; unfold RA RI; rw [List.length_map, List.length_map])))))))
    rw [dn, at_all ris4_t hn]
end Fs

/-! P40: k40, its law. -/
namespace Fs
open He PySem.W L2 PyProof.Rows PySem.Spec PySem
theorem takes40 : Takes1 fm__law_take := takes1 (a := 101909) (c := 67819) (e := 41) (m := 39373) (q := 27901) rfl (by unfold small5; decide)
theorem picks40 : Picks1 fm__law_pick := picks1 rfl takes40
theorem boxes40 : Boxes fm__law_box := boxes (a := 43777) (c := 3336) (e := 67103) (m := 48271) (q := 50131) rfl (by decide)
def kinds : List String := ["wires", "nots", "ands", "ors", "rising", "sums", "all"]
def kindsD : List PyData := [.str "wires", .str "nots", .str "ands", .str "ors", .str "rising", .str "sums", .str "all"]
/-! ### refusals -/
theorem ref_kind (act : ME PyData) (b b' : Bx) (h : ∀ ρ2 : En, ρ2[0]? = some (.fn 0) → quietE ρ2 = true → act ρ2 b = .ex ⟨"InvalidKind", "", none⟩ b') : km__law_refusal act (Sl.fn 0 :: List.replicate (2 - 1) Sl.no) b = .rt (.tuple [.str "kind", .int 0]) b' := by
  unfold km__law_refusal seqM tryM
  rw [dropM_ap, exprM_ap, h _ rfl rfl]
  kernel_rfl
theorem ref_size (w : PyData) (act : ME PyData) (b b' : Bx) (h : ∀ ρ2 : En, ρ2[0]? = some (.fn 0) → quietE ρ2 = true → act ρ2 b = .ex ⟨"InvalidSize", "word", some w⟩ b') : km__law_refusal act (Sl.fn 0 :: List.replicate (2 - 1) Sl.no) b = .rt (.tuple [.str "size", w]) b' := by
  unfold km__law_refusal seqM tryM
  rw [dropM_ap, exprM_ap, h _ rfl rfl]
  kernel_rfl
def bad1 : List PyData := [.none, .str "wire", .int 3, .str "", .tuple [.str "ands"]]
def bad2 : List PyData := [.int 0, .int 7, .bool true, .none, .str "1", .int (-1)]
def bad3 : List PyData := [.int 0, .int 5, .bool true, .none, .str "1"]
theorem bad1_t : (bad1.map fun d => fm_kind_count [d, .int 0]) = bad1.map fun _ => PR.ex ⟨"InvalidKind", "", none⟩ := by kernel_rfl
theorem bad2_t : (kindsD.map fun k => bad2.map fun d => fm_kind_count [k, d]) = kindsD.map fun k => bad2.map fun _ => PR.ex ⟨"InvalidSize", "word", some (.str "places")⟩ := by kernel_rfl
theorem bad3_t : (bad3.map fun d => fm_rising_answers [d]) = bad3.map fun _ => PR.ex ⟨"InvalidSize", "word", some (.str "many")⟩ := by kernel_rfl
/-! ### the parts of a turn -/
def lB0 : MS := (boxNewM 2 2 fm__law_box (consM (varM 0) (consM (varM 1) nilM)))
def lB1 : MS := (setM 3 (callX 2 1 fm__law_pick (consM (lstM (consM (cM (.str "wires")) (consM (cM (.str "nots")) (consM (cM (.str "ands")) (consM (cM (.str "ors")) (consM (cM (.str "rising")) (consM (cM (.str "sums")) (consM (cM (.str "all")) nilM)))))))) nilM)))
def lB2 : MS := (setM 4 (opM addD (cM (.int 1)) (callX 2 1 fm__law_take (consM (iteM (tstM (opM eqD (varM 3) (cM (.str "rising")))) (cM (.int 5)) (cM (.int 6))) nilM))))
def lB3 : MS := (ifM (andM (tstM (opM eqD (varM 3) (cM (.str "rising")))) (andM (tstM (opM eqD (varM 4) (cM (.int 5)))) (tstM (opM gtD (varM 1) (cM (.int 0)))))) (setM 4 (cM (.int 4))) skipM)
def lB4 : MS := (setM 5 (callK 0 2 [0, 1] 2 fm_kind_count nilM (consM (varM 3) (consM (varM 4) nilM))))
def lB5 : MS := (ifM (orM (tstM (opM neD (varM 5) (callM 2 fm__law_due (consM (varM 3) (consM (varM 4) nilM))))) (orM (notM (tstM (isiM "int" (varM 5)))) (tstM (isiM "bool" (varM 5))))) (retM (cM (.bool false))) skipM)
def lB6 : MS := (setM 6 (opM addD (cM (.int 1)) (callX 2 1 fm__law_take (consM (cM (.int 4)) nilM))))
def lB7 : MS := (setM 7 (callM 1 fm_rising_answers (consM (varM 6) nilM)))
def lB8 : MS := (ifM (orM (notM (tstM (isiM "tuple" (varM 7)))) (orM (tstM (opM neD (cbM listF (consM (varM 7) nilM)) (callM 1 fm__law_rising (consM (varM 6) nilM)))) (tstM (opM neD (cbM lenF (consM (varM 7) nilM)) (callM 2 fm_kind_count (consM (cM (.str "rising")) (consM (varM 6) nilM))))))) (retM (cM (.bool false))) skipM)
def lB9 : MS := (ifM (tstM (opM (isBD true) (callM 2 fm_has_kind (consM (cM (.str "rising")) (consM (callX 2 1 fm__law_pick (consM (varM 7) nilM)) nilM))) (cM (.bool true)))) (retM (cM (.bool false))) skipM)
def lB10 : MS := (ifM (tstM (opM neD (lamM 2 km__law_refusal (callM 2 fm_kind_count (consM (callX 2 1 fm__law_pick (consM (lstM (consM (cM .none) (consM (cM (.str "wire")) (consM (cM (.int 3)) (consM (cM (.str "")) (consM (tupM (consM (cM (.str "ands")) nilM)) nilM)))))) nilM)) (consM (cM (.int 0)) nilM)))) (tupM (consM (cM (.str "kind")) (consM (cM (.int 0)) nilM))))) (retM (cM (.bool false))) skipM)
def lB11 : MS := (ifM (tstM (opM neD (lamM 2 km__law_refusal (callM 2 fm_kind_count (consM (varM 3) (consM (callX 2 1 fm__law_pick (consM (lstM (consM (cM (.int 0)) (consM (cM (.int 7)) (consM (cM (.bool true)) (consM (cM .none) (consM (cM (.str "1")) (consM (opM subD (cM (.int 0)) (cM (.int 1))) nilM))))))) nilM)) nilM)))) (tupM (consM (cM (.str "size")) (consM (cM (.str "places")) nilM))))) (retM (cM (.bool false))) skipM)
def lB12 : MS := (ifM (tstM (opM neD (lamM 2 km__law_refusal (callM 1 fm_rising_answers (consM (callX 2 1 fm__law_pick (consM (lstM (consM (cM (.int 0)) (consM (cM (.int 5)) (consM (cM (.bool true)) (consM (cM .none) (consM (cM (.str "1")) nilM)))))) nilM)) nilM))) (tupM (consM (cM (.str "size")) (consM (cM (.str "many")) nilM))))) (retM (cM (.bool false))) skipM)
def lT0 : MS := (ifM (orM (tstM (opM neD (callK 0 2 [0, 1] 2 fm_kind_count nilM (consM (cM (.str "rising")) (consM (cM (.int 2)) nilM))) (cM (.int 6)))) (orM (tstM (opM neD (callM 2 fm_kind_count (consM (cM (.str "ors")) (consM (cM (.int 2)) nilM))) (cM (.int 5)))) (tstM (opM neD (callK 0 1 [0] 1 fm_rising_answers nilM (consM (cM (.int 1)) nilM)) (tupM (consM (tupM (consM (cM (.int 0)) (consM (cM (.int 0)) nilM))) (consM (tupM (consM (cM (.int 0)) (consM (cM (.int 1)) nilM))) (consM (tupM (consM (cM (.int 1)) (consM (cM (.int 1)) nilM))) nilM)))))))) (retM (cM (.bool false))) skipM)
def lTurn : MS := seqM lB0 (seqM lB1 (seqM lB2 (seqM lB3 (seqM lB4 (seqM lB5 (seqM lB6 (seqM lB7 (seqM lB8 (seqM lB9 (seqM lB10 (seqM lB11 lB12)))))))))))
theorem law_eq : m_law = seqM lT0 (seqM (forM (rng1M (cM (.int 3))) (nameT 1) lTurn) (retM (cM (.bool true)))) := rfl
theorem head_ok (V : PyData) : lT0 [.v V, .no, .no, .no, .no, .no, .no, .no] .no = .nx [.v V, .no, .no, .no, .no, .no, .no, .no] .no := by kernel_rfl
def db (s : Sl) : Sl := (dropBx [s]).headD .no
abbrev lE (V k : PyData) (s3 s4 s5 s6 s7 : Sl) : En := [.v V, .v k, .bx, s3, s4, s5, s6, s7]
/-- ahead of a turn -/
def LI (V : PyData) (ρ : En) (b : Bx) : Prop := freeBx b = true ∧ ∃ z1 z2 z3 z4 z5 z6 z7 : Sl, ρ = [.v V, z1, z2, z3, z4, z5, z6, z7]
theorem kd_at {i : Nat} {d : PyData} (h : kindsD[i]? = some d) : ∃ kd, kd ∈ kinds ∧ d = .str kd := by
  have hi := (List.getElem?_eq_some_iff.mp h).1
  match i, hi with
  | 0, _ => cases h; exact ⟨"wires", by decide, rfl⟩
  | 1, _ => cases h; exact ⟨"nots", by decide, rfl⟩
  | 2, _ => cases h; exact ⟨"ands", by decide, rfl⟩
  | 3, _ => cases h; exact ⟨"ors", by decide, rfl⟩
  | 4, _ => cases h; exact ⟨"rising", by decide, rfl⟩
  | 5, _ => cases h; exact ⟨"sums", by decide, rfl⟩
  | 6, _ => cases h; exact ⟨"all", by decide, rfl⟩
theorem kd_in {kd : String} (h : kd ∈ kinds) : (PyData.str kd) ∈ kindsD := by
  simp only [kinds, List.mem_cons, List.not_mem_nil, or_false] at h
  rcases h with rfl | rfl | rfl | rfl | rfl | rfl | rfl <;> simp [kindsD]
theorem ris_t : (kinds.map fun (kd : String) => eqD (.str kd) (.str "rising")) = kinds.map fun (kd : String) => some (.bool (decide (kd = "rising"))) := by kernel_rfl
theorem rpos_t : (N4.map fun (n : Nat) => decide (0 < (rk n).length)) = N4.map fun _ => true := by kernel_rfl
def mostK (kd : String) : Nat := if kd = "rising" then 5 else 6
theorem in5 {p : Nat} (h1 : 1 ≤ p) (h5 : p ≤ 5) : p ∈ [1, 2, 3, 4, 5] := by simp; omega
theorem in6 {p : Nat} (h1 : 1 ≤ p) (h5 : p ≤ 6) : p ∈ [1, 2, 3, 4, 5, 6] := by simp; omega
theorem in4 {p : Nat} (h1 : 1 ≤ p) (h5 : p ≤ 4) : p ∈ [1, 2, 3, 4] := by simp; omega
theorem tab_at {kd : String} {ps : List Nat} (t : tabK kd ps) {p : Nat} (h : p ∈ ps) : fm_kind_count [.str kd, .int p] = .ok (.int (cntK kd p)) ∧ fm__law_due [.str kd, .int p] = .ok (.int (cntK kd p)) := by
  have := at_all t h
  exact ⟨congrArg Prod.fst this, congrArg Prod.snd this⟩
theorem count_ok {kd : String} (h : kd ∈ kinds) {p : Nat} (h1 : 1 ≤ p) (hp : p ≤ mostK kd) : fm_kind_count [.str kd, .int p] = .ok (.int (cntK kd p)) ∧ fm__law_due [.str kd, .int p] = .ok (.int (cntK kd p)) := by
  simp only [kinds, List.mem_cons, List.not_mem_nil, or_false] at h
  rcases h with rfl | rfl | rfl | rfl | rfl | rfl | rfl
  · exact tab_at t_wires (in6 h1 hp)
  · exact tab_at t_nots (in6 h1 hp)
  · exact tab_at t_ands (in6 h1 hp)
  · exact tab_at t_ors (in6 h1 hp)
  · exact tab_at t_ris (in5 h1 hp)
  · exact tab_at t_sums (in6 h1 hp)
  · exact tab_at t_all (in6 h1 hp)
theorem ne_int (i : Int) : neD (.int i) (.int i) = some (.bool false) := by rw [neD_i]; simp
theorem turn_ok (ns : List Int) {k : Nat} (hk : k < 3) {ρ : En} {b : Bx} (hI : LI (.list (ns.map .int)) ρ b) : ∃ ρ2 b2, lTurn (ρ.set 1 (.v (.int k))) b = .nx ρ2 b2 ∧ LI (.list (ns.map .int)) ρ2 b2 := by
  obtain ⟨hb, z1, z2, z3, z4, z5, z6, z7, rfl⟩ := hI
  obtain ⟨x, y, ebx⟩ := boxes40 ns k
  generalize hV : PyData.list (ns.map .int) = V at ebx
  have st0 : lB0 [.v V, .v (.int k), z2, z3, z4, z5, z6, z7] b = .nx (lE V (.int k) (db z3) (db z4) (db z5) (db z6) (db z7)) (owT (x, y, 0)) :=
    boxNew_ok (ρ := [.v V, .v (.int k), z2, z3, z4, z5, z6, z7]) (consM_ok (varM_ok rfl) (consM_ok (varM_ok rfl) nilM_ok)) ebx (by simp) hb rfl
  generalize db z3 = w3, db z4 = w4, db z5 = w5, db z6 = w6, db z7 = w7 at st0
  -- the kind
  obtain ⟨i, d, t1, e1, hi⟩ := picks40.l (x, y, 0) (xs := kindsD) (by decide) (by decide)
  obtain ⟨kd, hkd, rfl⟩ := kd_at hi
  have st1 : lB1 (lE V (.int k) w3 w4 w5 w6 w7) (owT (x, y, 0)) = .nx (lE V (.int k) (.v (.str kd)) w4 w5 w6 w7) (owT t1) :=
    setM_ok (callX_ok rfl (consM_ok (lstM_ok (consM_ok cM_ok (consM_ok cM_ok (consM_ok cM_ok (consM_ok cM_ok (consM_ok cM_ok (consM_ok cM_ok (consM_ok cM_ok nilM_ok))))))) (by simp)) nilM_ok) rfl e1) (by simp)
  have ris := at_all ris_t hkd
  -- the places
  obtain ⟨r, t2, e2, hr⟩ := takes40 t1 (m := mostK kd) (by unfold mostK; split <;> decide) (by unfold mostK; split <;> decide)
  have ite : ∀ w4 w5 w6 w7 : Sl, iteM (tstM (opM eqD (varM 3) (cM (.str "rising")))) (cM (.int 5)) (cM (.int 6)) (lE V (.int k) (.v (.str kd)) w4 w5 w6 w7) (owT t1) = .ok (.int (mostK kd)) (owT t1) := fun w4 w5 w6 w7 => by
    by_cases h : kd = "rising"
    · rw [decide_eq_true h] at ris
      exact iteM_t (tstM_ok (opM_ok (varM_ok rfl) cM_ok ris)) (by unfold mostK; rw [if_pos h]; rfl)
    · rw [decide_eq_false h] at ris
      exact iteM_f (tstM_ok (opM_ok (varM_ok rfl) cM_ok ris)) (by unfold mostK; rw [if_neg h]; rfl)
  have a1 : addD (.int 1) (.int r) = some (.int ((r + 1 : Nat) : Int)) := by rw [addD_i]; simp; omega
  have st2 : lB2 (lE V (.int k) (.v (.str kd)) w4 w5 w6 w7) (owT t1) = .nx (lE V (.int k) (.v (.str kd)) (.v (.int (r + 1 : Nat))) w5 w6 w7) (owT t2) :=
    setM_ok (opM_ok cM_ok (callX_ok rfl (consM_ok (ite _ _ _ _) nilM_ok) rfl e2) a1) (by simp)
  -- five rising places but once
  obtain ⟨p, hp1, hp2, st3⟩ : ∃ p : Nat, 1 ≤ p ∧ p ≤ mostK kd ∧ lB3 (lE V (.int k) (.v (.str kd)) (.v (.int (r + 1 : Nat))) w5 w6 w7) (owT t2) = .nx (lE V (.int k) (.v (.str kd)) (.v (.int p)) w5 w6 w7) (owT t2) := by
    by_cases h : kd = "rising"
    · rw [decide_eq_true h] at ris
      by_cases h5 : r + 1 = 5
      · by_cases h0 : 0 < k
        · refine ⟨4, by decide, by unfold mostK; rw [if_pos h]; decide, ifM_t (andM_t (tstM_ok (opM_ok (varM_ok rfl) cM_ok ris)) (andM_t (tstM_ok (opM_ok (varM_ok rfl) cM_ok (by rw [eqD_i, h5]; rfl))) (tstM_ok (opM_ok (varM_ok rfl) cM_ok (by rw [gtD_i, decide_eq_true (by omega)]))))) (setM_ok cM_ok (by simp))⟩
        · refine ⟨r + 1, by omega, by omega, ifM_f (andM_t (tstM_ok (opM_ok (varM_ok rfl) cM_ok ris)) (andM_t (tstM_ok (opM_ok (varM_ok rfl) cM_ok (by rw [eqD_i, h5]; rfl))) (tstM_ok (opM_ok (varM_ok rfl) cM_ok (by rw [gtD_i, decide_eq_false (by omega)]))))) rfl⟩
      · refine ⟨r + 1, by omega, by omega, ifM_f (andM_t (tstM_ok (opM_ok (varM_ok rfl) cM_ok ris)) (andM_f (tstM_ok (opM_ok (varM_ok rfl) cM_ok (by rw [eqD_i, beq_eq_false_iff_ne.mpr (by omega)]))))) rfl⟩
    · rw [decide_eq_false h] at ris
      exact ⟨r + 1, by omega, by omega, ifM_f (andM_f (tstM_ok (opM_ok (varM_ok rfl) cM_ok ris))) rfl⟩
  obtain ⟨ec, ed⟩ := count_ok hkd hp1 hp2
  have st4 : lB4 (lE V (.int k) (.v (.str kd)) (.v (.int p)) w5 w6 w7) (owT t2) = .nx (lE V (.int k) (.v (.str kd)) (.v (.int p)) (.v (.int (cntK kd p))) w6 w7) (owT t2) :=
    setM_ok (callK_ok nilM_ok (consM_ok (varM_ok rfl) (consM_ok (varM_ok rfl) nilM_ok)) ec) (by simp)
  have st5 : lB5 (lE V (.int k) (.v (.str kd)) (.v (.int p)) (.v (.int (cntK kd p))) w6 w7) (owT t2) = .nx (lE V (.int k) (.v (.str kd)) (.v (.int p)) (.v (.int (cntK kd p))) w6 w7) (owT t2) :=
    ifM_f (orM_f (tstM_ok (opM_ok (varM_ok rfl) (callM_ok (consM_ok (varM_ok rfl) (consM_ok (varM_ok rfl) nilM_ok)) ed) (ne_int _))) (orM_f (notM_ok (tstM_ok (isiM_ok (varM_ok rfl) (e := .bool true) (by kernel_rfl)))) (tstM_ok (isiM_ok (varM_ok rfl) (e := .bool false) (by kernel_rfl))))) rfl
  -- rising answers
  obtain ⟨q, t3, e3, hq⟩ := takes40 t2 (m := 4) (by decide) (by decide)
  have e3 : fm__law_take t2 [.int 4] = _ := e3
  have a2 : addD (.int 1) (.int q) = some (.int ((q + 1 : Nat) : Int)) := by rw [addD_i]; simp; omega
  have st6 : lB6 (lE V (.int k) (.v (.str kd)) (.v (.int p)) (.v (.int (cntK kd p))) w6 w7) (owT t2) = .nx (lE V (.int k) (.v (.str kd)) (.v (.int p)) (.v (.int (cntK kd p))) (.v (.int (q + 1 : Nat))) w7) (owT t3) :=
    setM_ok (opM_ok cM_ok (callX_ok rfl (consM_ok cM_ok nilM_ok) rfl e3) a2) (by simp)
  have hm := in4 (p := q + 1) (by omega) (by omega)
  generalize q + 1 = m at st6 hm
  have hm : m ∈ N4 := hm
  have r1 := ra_ok hm
  have r2 := lr_ok hm
  have r3 : ((RA m).length : Int) = cntK "rising" m := by rw [← at_all rlen_t hm]; unfold RA RI; rw [List.length_map, List.length_map]
  have r4 : shp (.list (RA m)) = true := shp_tups (RI m)
  have r5 := has_ok hm
  have r6 : m ≤ 4 := by simp [N4] at hm; omega
  have r7 : 1 ≤ m := by simp [N4] at hm; omega
  have r8 : 0 < (RA m).length ∧ (RA m).length < 1000 := by
    have q : 0 < (rk m).length := of_decide_eq_true (at_all rpos_t hm)
    have q2 := (le168 hm).1
    unfold RA RI
    rw [List.length_map, List.length_map]
    omega
  have rc := (count_ok (kd := "rising") (by decide) r7 (by show m ≤ 5; omega)).1
  have st7 : lB7 (lE V (.int k) (.v (.str kd)) (.v (.int p)) (.v (.int (cntK kd p))) (.v (.int m)) w7) (owT t3) = .nx (lE V (.int k) (.v (.str kd)) (.v (.int p)) (.v (.int (cntK kd p))) (.v (.int m)) (.v (.tuple (RA m)))) (owT t3) :=
    setM_ok (callM_ok (consM_ok (varM_ok rfl) nilM_ok) r1) (by simp)
  have l7 : ∀ t, cbM lenF (consM (varM 7) nilM) (lE V (.int k) (.v (.str kd)) (.v (.int p)) (.v (.int (cntK kd p))) (.v (.int m)) (.v (.tuple (RA m)))) t = .ok (.int (cntK "rising" m)) t := fun t => cbM_ok (consM_ok (varM_ok rfl) nilM_ok) (by rw [← r3]; rfl)
  have st8 : lB8 (lE V (.int k) (.v (.str kd)) (.v (.int p)) (.v (.int (cntK kd p))) (.v (.int m)) (.v (.tuple (RA m)))) (owT t3) = .nx (lE V (.int k) (.v (.str kd)) (.v (.int p)) (.v (.int (cntK kd p))) (.v (.int m)) (.v (.tuple (RA m)))) (owT t3) :=
    ifM_f (orM_f (notM_ok (tstM_ok (isiM_ok (varM_ok rfl) (e := .bool true) (by kernel_rfl)))) (orM_f (tstM_ok (opM_ok (cbM_ok (consM_ok (varM_ok rfl) nilM_ok) (e := rfl)) (callM_ok (consM_ok (varM_ok rfl) nilM_ok) r2) (ne_self r4))) (tstM_ok (opM_ok (l7 _) (callM_ok (consM_ok cM_ok (consM_ok (varM_ok rfl) nilM_ok)) rc) (ne_int _))))) rfl
  obtain ⟨j, a, t4, e4, hj⟩ := picks40.t t3 (xs := RA m) r8.1 r8.2
  have hk9 : fm_has_kind [.str "rising", a] = .ok (.bool true) := r5 a (List.mem_of_getElem? hj)
  have st9 : lB9 (lE V (.int k) (.v (.str kd)) (.v (.int p)) (.v (.int (cntK kd p))) (.v (.int m)) (.v (.tuple (RA m)))) (owT t3) = .nx (lE V (.int k) (.v (.str kd)) (.v (.int p)) (.v (.int (cntK kd p))) (.v (.int m)) (.v (.tuple (RA m)))) (owT t4) :=
    ifM_f (tstM_ok (opM_ok (callM_ok (consM_ok cM_ok (consM_ok (callX_ok rfl (consM_ok (varM_ok rfl) nilM_ok) rfl e4) nilM_ok)) hk9) cM_ok (by kernel_rfl : isBD true (.bool true) (.bool true) = some (.bool false)))) rfl
  -- refusals
  have sk : shp (.tuple [.str "kind", .int 0]) = true := by kernel_rfl
  have sp : shp (.tuple [.str "size", .str "places"]) = true := by kernel_rfl
  have sm : shp (.tuple [.str "size", .str "many"]) = true := by kernel_rfl
  generalize hE : lE V (.int k) (.v (.str kd)) (.v (.int p)) (.v (.int (cntK kd p))) (.v (.int m)) (.v (.tuple (RA m))) = ρE at st7 st8 st9
  have g2 : ρE[2]? = some .bx := by rw [← hE]; rfl
  have g3 : ρE[3]? = some (.v (.str kd)) := by rw [← hE]; rfl
  obtain ⟨j1, a1', t5, e5, hj1⟩ := picks40.l t4 (xs := bad1) (by decide) (by decide)
  have x1 : fm_kind_count [a1', .int 0] = _ := at_all bad1_t (List.mem_of_getElem? hj1)
  have st10 : lB10 ρE (owT t4) = .nx ρE (owT t5) :=
    ifM_f (tstM_ok (opM_ok (lam_ex (callM_ex (consM_ok (callX_ok g2 (consM_ok (lstM_ok (consM_ok cM_ok (consM_ok cM_ok (consM_ok cM_ok (consM_ok cM_ok (consM_ok (tupM_ok (consM_ok cM_ok nilM_ok) (by simp)) nilM_ok))))) (by simp)) nilM_ok) rfl e5) (consM_ok cM_ok nilM_ok)) x1) ref_kind) (tupM_ok (consM_ok cM_ok (consM_ok cM_ok nilM_ok)) (by simp)) (ne_self sk))) rfl
  obtain ⟨j2, a2', t6, e6, hj2⟩ := picks40.l t5 (xs := bad2) (by decide) (by decide)
  have x2 : fm_kind_count [.str kd, a2'] = _ := at_all (at_all bad2_t (kd_in hkd)) (List.mem_of_getElem? hj2)
  have s0 : subD (.int 0) (.int 1) = some (.int (-1)) := by kernel_rfl
  have st11 : lB11 ρE (owT t5) = .nx ρE (owT t6) :=
    ifM_f (tstM_ok (opM_ok (lam_ex (callM_ex (consM_ok (varM_ok g3) (consM_ok (callX_ok g2 (consM_ok (lstM_ok (consM_ok cM_ok (consM_ok cM_ok (consM_ok cM_ok (consM_ok cM_ok (consM_ok cM_ok (consM_ok (opM_ok cM_ok cM_ok s0) nilM_ok)))))) (by simp)) nilM_ok) rfl e6) nilM_ok)) x2) (ref_size _)) (tupM_ok (consM_ok cM_ok (consM_ok cM_ok nilM_ok)) (by simp)) (ne_self sp))) rfl
  obtain ⟨j3, a3', t7, e7, hj3⟩ := picks40.l t6 (xs := bad3) (by decide) (by decide)
  have x3 : fm_rising_answers [a3'] = _ := at_all bad3_t (List.mem_of_getElem? hj3)
  have st12 : lB12 ρE (owT t6) = .nx ρE (owT t7) :=
    ifM_f (tstM_ok (opM_ok (lam_ex (callM_ex (consM_ok (callX_ok g2 (consM_ok (lstM_ok (consM_ok cM_ok (consM_ok cM_ok (consM_ok cM_ok (consM_ok cM_ok (consM_ok cM_ok nilM_ok))))) (by simp)) nilM_ok) rfl e7) nilM_ok) x3) (ref_size _)) (tupM_ok (consM_ok cM_ok (consM_ok cM_ok nilM_ok)) (by simp)) (ne_self sm))) rfl
  refine ⟨ρE, owT t7, ?_, rfl, _, _, _, _, _, _, _, hE.symm⟩
  show lTurn [.v V, .v (.int k), z2, z3, z4, z5, z6, z7] b = _
  unfold lTurn
  rw [seqM_nx st0, seqM_nx st1, seqM_nx st2, seqM_nx st3, seqM_nx st4, seqM_nx st5, seqM_nx st6, seqM_nx st7, seqM_nx st8, seqM_nx st9, seqM_nx st10, seqM_nx st11]
  exact st12
theorem law_ok : LawOk 63 fm_law := fun ns hns => by
  obtain ⟨ρ1, b1, e1, h1⟩ := forL_all (I := fun _ ρ b => LI (.list (ns.map .int)) ρ b) (tf := nameT 1) (body := lTurn) (all := rngL 0 3) (fun i d hd ρ b h => by
    obtain ⟨hi, rfl⟩ := rngL_at hd
    obtain ⟨ρ2, b2, e, h2⟩ := turn_ok ns hi h
    obtain ⟨hb, z1, z2, z3, z4, z5, z6, z7, rfl⟩ := h
    exact ⟨_, ρ2, b2, rfl, e, h2⟩) (ρ := [.v (.list (ns.map .int)), .no, .no, .no, .no, .no, .no, .no]) (b := .no) ⟨rfl, _, _, _, _, _, _, _, rfl⟩
  refine fnM_rt (b := b1) ?_
  show m_law [.v (.list (ns.map .int)), .no, .no, .no, .no, .no, .no, .no] .no = _
  rw [law_eq]
  exact seqM_go (head_ok _) (seqM_go (forM_ok (rngM_ok (n := 3) cM_ok (by decide)) e1) (retM_ok cM_ok))
end Fs

namespace Fs
open He PySem.W L2 PyProof.Rows PySem.Spec PySem
abbrev RW0 : PySem.W.OpenRow := PySem.W.OpenLaw.row PySem.Challenge.rw_foldsall_k40_whole_how_many_answers_are
abbrev hk : PySem.W.Hook := hd.hook 4
def ob (s : PySem.W.SharedT) : AlX × Bool := hd.obsG 4 (HandSHeadRun.getT s)
theorem ob_eq (s : PySem.W.SharedT) : ob s = hk.obs s.abs := Hd.obsG_eq (HandSHeadRun.getT_eq s)
def lo : List PySem.Str := eb :: exs ++ ((["KINDS", "MOST_ANSWER_PLACES", "MOST_INPUTS", "MOST_COUNTED"] : List PySem.Str) ++ (hd.fn.map (·.name)).dropLast)
theorem run (w : World) : HandSHeadRun.RunEq RW0 (PySem.W.view RW0.prog [46]) hk ob 8000 lo w := by
  intro os
  kernel_rfl
theorem facts {w : World} {K : PySem.W.Frag} {h : Heap} {mg : Str → Option Value} {f : Addr} (X : K.In h) (G : h.Ns mainGlobals mg) (hfa : mg ("law" : Str) = some (.ref f)) (c : hd.says K) (tb : hd.Tb h K) :
    ∃ fd : FuncData, (∀ (s : Shared) (v : Value), BindsTo s fd ⟨[v], []⟩ [("_law_script", v)]) ∧ ∀ base : Heap, K.In base → base.Ns mainGlobals mg → Bs0 base mg K → FnOk prg w K mg base (L2.CX prg w) 7 f fd ["_law_script"] (spF ⟨K, mg⟩ 1 fm_law) := by
  have M := mo_of X G c tb
  have e := hfa.symm.trans M.d_law.g
  cases e
  obtain ⟨oc, od, kV, doc, pm, an, cdv, ct, osl, e1, _, _⟩ := M.d_law.f.ex
  exact ⟨fdAt K (ga K "law"), fun s v => by rw [e1]; exact .of_eq rfl, fun base _ _ B => ok_law M B⟩
end Fs
open PyProof.Rows PySem.Calls PySem.W PySem
theorem PySem.Challenge.cw_foldsall_k40_whole_how_many_answers_are_holds : PySem.Challenge.rw_foldsall_k40_whole_how_many_answers_are.Holds := by
  w_on; o_law
  refine HandSHeadRun.head_any (r := Fs.RW0) (q := view Fs.RW0.prog [46]) (H := Fs.hk) (ob := Fs.ob) (M := 8000) (loose := Fs.lo) (d := HandSHeadRun.topDef Fs.RW0.prog 46) (kwd := []) Fs.ob_eq (by kernel_rfl) (fun s => by kernel_rfl) Fs.run
    (by kernel_rfl) (by kernel_rfl) (by kernel_rfl) (by rfl) (by first | assumption | decide +kernel) (by decide +kernel) ⟨rfl, rfl, rfl, rfl, rfl, by decide +kernel⟩ ?hw ?hc
  case hw => w_witness2
  case hc =>
    refine Fs.walk_ofX (l := PySem.Challenge.rw_foldsall_k40_whole_how_many_answers_are) (n := 63) (k := 7) (x := "_law_script") (fm := Fs.fm_law) rfl (by decide) (by kernel_rfl) ⟨rfl, by decide, by decide⟩ Fs.law_ok (D := Fs.hd) (fun _ => rfl) ?_
    intro w mg fa h Y G hmg0
    obtain ⟨K, KX, c, tb⟩ := Y
    have hmg : mg ("law" : PySem.Str) = some (.ref fa) := by
      have e : (HandSHeadRun.topDef Fs.RW0.prog 46).name = ("law" : PySem.Str) := by kernel_rfl
      rw [← e]
      exact hmg0
    obtain ⟨fd, hb, hF⟩ := Fs.facts (w := w) KX G hmg c tb
    exact ⟨K, fd, KX, Fs.Hd.says.nol c, tb, hb, hF⟩

