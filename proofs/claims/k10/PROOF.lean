import PyProof.Rows.All
import Wide.All
import OpenK.AllK
import Wide.FinOn
import HandS.ForMost
import HandS.Wide
import HandS.IsInst
import HandS.Deep
import HandS.Set
import HandS.SetFor
import HandS.Strs
import KE.GoesEnum
import KE.KDictDisplayH
import HandS.Rev
import PyProof.ListNew
import HandS.ExcIs
import HandS.WordsExc
import HandS.HotCalls
import HandS.Conv
import HandS.More
import HandS.RevRange
import HandS.Lambda
import HandS.Nested
import HandS.TryOnly
import HandS.Head0
import HandS.Head1
import HandS.Head2
import HandS.HeadEnd
import HandS.HeadHook1
import HandS.HeadHook2
import HandS.HeadHook3
import HandS.HeadHook4
import HandS.EndTab
import HandS.HeadWalk
import HandS.DictTup
import HandS.TupAny
import KE.KDictList
import HandS.SortOrd
import HandS.SortRule
import KE.KDictWalk
import PySem.Challenge.RW_lotdraw_k10_ends_and_counts
set_option Elab.async false
set_option linter.all false
set_option maxRecDepth 100000
set_option maxHeartbeats 4000000
set_option autoImplicit false
/-- the name that all code objects of a table bear -/
class PD.TN where
  nm : Nat → PySem.Str
namespace PD
open PySem PySem.Spec PyProof.Rows L2
variable [TN]

/-- no table of code objects -/
def NT (o : HO) : Prop := ∀ ps, o ≠ HO.tbl ps
/-- all that is tracked stays, but tables of code objects, which grow -/
structure Same (H H' : Hp) : Prop where
  keep : ∀ a o, H a = some o → (nt : NT o := by intro _ z; cases z) → H' a = some o
  tabs : ∀ p, LamX.TabS H p (TN.nm p) → LamX.TabS H' p (TN.nm p)
  dom : ∀ a, H' a = none → H a = none
instance {H H' : Hp} : CoeFun (Same H H') fun _ => ∀ a o, H a = some o → NT o → H' a = some o := ⟨@Same.keep _ H H'⟩
theorem Same.all {H H' : Hp} (e : ∀ a o, H a = some o → H' a = some o) : Same H H' := ⟨fun a o h _ => e a o h, fun p t => t.ext e, fun a h => by
  cases z : H a with
  | none => rfl
  | some o => rw [e a o z] at h; cases h⟩
theorem Same.refl (H : Hp) : Same H H := .all fun _ _ h => h
theorem Same.trans {H H1 H2 : Hp} (a : Same H H1) (b : Same H1 H2) : Same H H2 := ⟨fun c o h n => b.keep c o (a.keep c o h n) n, fun p t => b.tabs p (a.tabs p t), fun c h => a.dom c (b.dom c h)⟩
theorem Same.free {H H' : Hp} (e : Same H H') {l : Addr} (h : H' l = none) : H l = none := e.dom l h
theorem Same.there {H H' : Hp} (e : Same H H') {l : Addr} (h : ∃ o, H l = some o) : ∃ o, H' l = some o := by
  cases z : H' l with
  | none =>
    obtain ⟨o, ho⟩ := h
    rw [e.dom l z] at ho
    cases ho
  | some u => exact ⟨u, rfl⟩

inductive D where
  | non | bl (b : Bool) | int (i : Int) | str (x : Str) | tup (l : List D) | lst (l : List D) | fro (l : List D) | dct (ks : List (List Int)) (vs : List D) | frd (ks : List (List Int)) (vs : List D) | rf (a : Addr)

/-- a list, a tuple that stands in the written part -/
def KLst (K : PySem.W.Frag) (a : Addr) (xs : List V) : Prop :=
  ∃ (o : Obj) (its : Array Value) (n : Nat), K.lookup a = some o ∧ o.cls = .type "list" ∧ o.dict = none ∧ o.data = .seq its n ∧ its.size ≤ sizeLine ∧ Vals xs its.toList
def dkeys (ks : List (List Int)) : List (List Key) := ks.map (·.map Sum.inl)

mutual
/-- v stands for d in the heap H; no list or dict of it stands at an address of A -/
def Rp (K : PySem.W.Frag) (A : Addr → Prop) (H : Hp) : D → V → Prop
  | .non, v => v = .non
  | .bl b, v => v = .bl b
  | .int i, v => v = .int i
  | .str x, v => v = .str x
  | .rf a, v => v = .ref a
  | .tup ds, v => ∃ a xs, v = .ref a ∧ H a = some (.tup xs) ∧ RpL K A H ds xs
  | .lst ds, v => ∃ a xs, v = .ref a ∧ H a = some (.lst xs) ∧ ¬ A a ∧ RpL K A H ds xs
  | .fro ds, v => ∃ a xs, v = .ref a ∧ ((∃ o, H a = some (.frz o (.lst xs))) ∨ KLst K a xs) ∧ RpL K A H ds xs
  | .dct ks ds, v => ∃ a xs, v = .ref a ∧ H a = some (.dT ((dkeys ks).zip xs)) ∧ ks.length = ds.length ∧ ¬ A a ∧ RpL K A H ds xs
  | .frd ks ds, v => ∃ a xs, v = .ref a ∧ (∃ o, H a = some (.frz o (.dT ((dkeys ks).zip xs)))) ∧ ks.length = ds.length ∧ RpL K A H ds xs
def RpL (K : PySem.W.Frag) (A : Addr → Prop) (H : Hp) : List D → List V → Prop
  | [], xs => xs = []
  | d :: ds, xs => ∃ x r, xs = x :: r ∧ Rp K A H d x ∧ RpL K A H ds r
end

/-! ### what stays -/
def isT : HO → Prop
  | .tup _ => True
  | .frz _ _ => True
  | _ => False
structure Stp (A : Addr → Prop) (H H' : Hp) : Prop where
  keep : ∀ a o, H a = some o → (¬ A a ∨ isT o) → (nt : NT o := by intro _ z; cases z) → H' a = some o
instance {A : Addr → Prop} {H H' : Hp} : CoeFun (Stp A H H') fun _ => ∀ a o, H a = some o → (¬ A a ∨ isT o) → NT o → H' a = some o := ⟨@Stp.keep A H H'⟩
theorem Stp.of {A : Addr → Prop} {H H' : Hp} (s : Same H H') : Stp A H H' := ⟨fun a o h _ n => s.keep a o h n⟩
theorem Rd.stp {A : Addr → Prop} {H H' : Hp} {a : Addr} {u : HO} (s : Stp A H H') (h : Rd H a u) (c : ¬ A a ∨ isT u) (n : NT u := by intro _ z; cases z) : Rd H' a u := by
  rcases h with h | ⟨o, h⟩
  · exact .inl (s.keep a _ h c n)
  · exact .inr ⟨o, s a _ h (.inr trivial)⟩
theorem SqT.stp {K : PySem.W.Frag} {A : Addr → Prop} {H H' : Hp} {a : Addr} {xs : List V} (s : Stp A H H') (h : SqT K H a xs) : SqT K H' a xs := by
  rcases h with h | h
  · exact .inl (Rd.stp s h (.inr trivial))
  · exact .inr h
mutual
theorem Rp.stp {K : PySem.W.Frag} {A : Addr → Prop} {H H' : Hp} (s : Stp A H H') : ∀ {d : D} {v : V}, Rp K A H d v → Rp K A H' d v
  | .non, _, h => h
  | .bl _, _, h => h
  | .int _, _, h => h
  | .str _, _, h => h
  | .rf _, _, h => h
  | .tup _, _, h => by
    obtain ⟨a, xs, e, t, l⟩ := h
    exact ⟨a, xs, e, s a _ t (.inr trivial), RpL.stp s l⟩
  | .lst _, _, h => by
    obtain ⟨a, xs, e, t, n, l⟩ := h
    exact ⟨a, xs, e, s a _ t (.inl n), n, RpL.stp s l⟩
  | .fro _, _, h => by
    obtain ⟨a, xs, e, t, l⟩ := h
    refine ⟨a, xs, e, ?_, RpL.stp s l⟩
    rcases t with ⟨o, t⟩ | t
    · exact .inl ⟨o, s a _ t (.inr trivial)⟩
    · exact .inr t
  | .dct _ _, _, h => by
    obtain ⟨a, xs, e, t, z, n, l⟩ := h
    exact ⟨a, xs, e, s a _ t (.inl n), z, n, RpL.stp s l⟩
  | .frd _ _, _, h => by
    obtain ⟨a, xs, e, ⟨o, t⟩, z, l⟩ := h
    exact ⟨a, xs, e, ⟨o, s a _ t (.inr trivial)⟩, z, RpL.stp s l⟩
theorem RpL.stp {K : PySem.W.Frag} {A : Addr → Prop} {H H' : Hp} (s : Stp A H H') : ∀ {ds : List D} {xs : List V}, RpL K A H ds xs → RpL K A H' ds xs
  | [], _, h => h
  | _ :: _, _, h => by
    obtain ⟨x, r, e, h1, h2⟩ := h
    exact ⟨x, r, e, Rp.stp s h1, RpL.stp s h2⟩
end
mutual
theorem Rp.anti {K : PySem.W.Frag} {A A' : Addr → Prop} {H : Hp} (s : ∀ a, A' a → A a) : ∀ {d : D} {v : V}, Rp K A H d v → Rp K A' H d v
  | .non, _, h => h
  | .bl _, _, h => h
  | .int _, _, h => h
  | .str _, _, h => h
  | .rf _, _, h => h
  | .tup _, _, h => by
    obtain ⟨a, xs, e, t, l⟩ := h
    exact ⟨a, xs, e, t, RpL.anti s l⟩
  | .lst _, _, h => by
    obtain ⟨a, xs, e, t, n, l⟩ := h
    exact ⟨a, xs, e, t, fun q => n (s a q), RpL.anti s l⟩
  | .fro _, _, h => by
    obtain ⟨a, xs, e, t, l⟩ := h
    exact ⟨a, xs, e, t, RpL.anti s l⟩
  | .dct _ _, _, h => by
    obtain ⟨a, xs, e, t, z, n, l⟩ := h
    exact ⟨a, xs, e, t, z, fun q => n (s a q), RpL.anti s l⟩
  | .frd _ _, _, h => by
    obtain ⟨a, xs, e, t, z, l⟩ := h
    exact ⟨a, xs, e, t, z, RpL.anti s l⟩
theorem RpL.anti {K : PySem.W.Frag} {A A' : Addr → Prop} {H : Hp} (s : ∀ a, A' a → A a) : ∀ {ds : List D} {xs : List V}, RpL K A H ds xs → RpL K A' H ds xs
  | [], _, h => h
  | _ :: _, _, h => by
    obtain ⟨x, r, e, h1, h2⟩ := h
    exact ⟨x, r, e, Rp.anti s h1, RpL.anti s h2⟩
end
/-- what was nothing is avoided -/
theorem Rd.there {H : Hp} {a : Addr} {u : HO} (h : Rd H a u) : ∃ o, H a = some o := by
  rcases h with h | ⟨o, h⟩
  · exact ⟨_, h⟩
  · exact ⟨_, h⟩
mutual
theorem Rp.more {K : PySem.W.Frag} {A A' : Addr → Prop} {H : Hp} (s : ∀ a o, A' a → H a = some o → A a) : ∀ {d : D} {v : V}, Rp K A H d v → Rp K A' H d v
  | .non, _, h => h
  | .bl _, _, h => h
  | .int _, _, h => h
  | .str _, _, h => h
  | .rf _, _, h => h
  | .tup _, _, h => by
    obtain ⟨a, xs, e, t, l⟩ := h
    exact ⟨a, xs, e, t, RpL.more s l⟩
  | .lst _, _, h => by
    obtain ⟨a, xs, e, t, n, l⟩ := h
    exact ⟨a, xs, e, t, fun q => n (s a _ q t), RpL.more s l⟩
  | .fro _, _, h => by
    obtain ⟨a, xs, e, t, l⟩ := h
    exact ⟨a, xs, e, t, RpL.more s l⟩
  | .dct _ _, _, h => by
    obtain ⟨a, xs, e, t, z, n, l⟩ := h
    exact ⟨a, xs, e, t, z, fun q => n (s a _ q t), RpL.more s l⟩
  | .frd _ _, _, h => by
    obtain ⟨a, xs, e, t, z, l⟩ := h
    exact ⟨a, xs, e, t, z, RpL.more s l⟩
theorem RpL.more {K : PySem.W.Frag} {A A' : Addr → Prop} {H : Hp} (s : ∀ a o, A' a → H a = some o → A a) : ∀ {ds : List D} {xs : List V}, RpL K A H ds xs → RpL K A' H ds xs
  | [], _, h => h
  | _ :: _, _, h => by
    obtain ⟨x, r, e, h1, h2⟩ := h
    exact ⟨x, r, e, Rp.more s h1, RpL.more s h2⟩
end
mutual
/-- no list, no dict -/
def imm : D → Bool
  | .lst _ => false
  | .dct _ _ => false
  | .tup l => immL l
  | .fro l => immL l
  | .frd _ l => immL l
  | _ => true
def immL : List D → Bool
  | [] => true
  | d :: l => imm d && immL l
end
mutual
theorem Rp.im {K : PySem.W.Frag} {A A' : Addr → Prop} {H : Hp} : ∀ {d : D} {v : V}, imm d = true → Rp K A H d v → Rp K A' H d v
  | .non, _, _, h => h
  | .bl _, _, _, h => h
  | .int _, _, _, h => h
  | .str _, _, _, h => h
  | .rf _, _, _, h => h
  | .tup _, _, i, h => by
    obtain ⟨a, xs, e, t, l⟩ := h
    exact ⟨a, xs, e, t, RpL.im i l⟩
  | .lst _, _, i, _ => by cases i
  | .fro _, _, i, h => by
    obtain ⟨a, xs, e, t, l⟩ := h
    exact ⟨a, xs, e, t, RpL.im i l⟩
  | .dct _ _, _, i, _ => by cases i
  | .frd _ _, _, i, h => by
    obtain ⟨a, xs, e, t, z, l⟩ := h
    exact ⟨a, xs, e, t, z, RpL.im i l⟩
theorem RpL.im {K : PySem.W.Frag} {A A' : Addr → Prop} {H : Hp} : ∀ {ds : List D} {xs : List V}, immL ds = true → RpL K A H ds xs → RpL K A' H ds xs
  | [], _, _, h => h
  | d :: ds, _, i, h => by
    obtain ⟨x, r, e, h1, h2⟩ := h
    have i' : (imm d && immL ds) = true := i
    rw [Bool.and_eq_true] at i'
    exact ⟨x, r, e, Rp.im i'.1 h1, RpL.im i'.2 h2⟩
end
theorem RpL.len {K : PySem.W.Frag} {A : Addr → Prop} {H : Hp} : ∀ {ds : List D} {xs : List V}, RpL K A H ds xs → xs.length = ds.length
  | [], _, h => by cases (show _ = [] from h); rfl
  | _ :: ds, _, h => by
    obtain ⟨x, r, rfl, h1, h2⟩ := h
    rw [List.length_cons, List.length_cons, RpL.len h2]
theorem RpL.get {K : PySem.W.Frag} {A : Addr → Prop} {H : Hp} : ∀ {ds : List D} {xs : List V} {i : Nat} {d : D}, RpL K A H ds xs → ds[i]? = some d → ∃ x, xs[i]? = some x ∧ Rp K A H d x
  | [], _, _, _, _, e => by simp at e
  | _ :: _, _, 0, _, h, e => by
    obtain ⟨x, r, rfl, h1, h2⟩ := h
    simp at e; subst e
    exact ⟨x, rfl, h1⟩
  | _ :: ds, _, i + 1, d, h, e => by
    obtain ⟨x, r, rfl, h1, h2⟩ := h
    obtain ⟨y, e1, e2⟩ := RpL.get (i := i) (d := d) h2 (by simpa using e)
    exact ⟨y, by simpa using e1, e2⟩
theorem RpL.getx {K : PySem.W.Frag} {A : Addr → Prop} {H : Hp} : ∀ {ds : List D} {xs : List V} {i : Nat} {x : V}, RpL K A H ds xs → xs[i]? = some x → ∃ d, ds[i]? = some d ∧ Rp K A H d x
  | [], _, _, _, h, e => by cases (show _ = [] from h); simp at e
  | _ :: _, _, 0, _, h, e => by
    obtain ⟨x, r, rfl, h1, h2⟩ := h
    simp at e; subst e
    exact ⟨_, rfl, h1⟩
  | _ :: ds, _, i + 1, d, h, e => by
    obtain ⟨x, r, rfl, h1, h2⟩ := h
    obtain ⟨y, e1, e2⟩ := RpL.getx (i := i) h2 (by simpa using e)
    exact ⟨y, by simpa using e1, e2⟩
theorem RpL.app {K : PySem.W.Frag} {A : Addr → Prop} {H : Hp} : ∀ {ds es : List D} {xs ys : List V}, RpL K A H ds xs → RpL K A H es ys → RpL K A H (ds ++ es) (xs ++ ys)
  | [], _, _, _, h, g => by cases (show _ = [] from h); exact g
  | _ :: ds, _, _, _, h, g => by
    obtain ⟨x, r, rfl, h1, h2⟩ := h
    exact ⟨x, r ++ _, rfl, h1, RpL.app h2 g⟩
theorem RpL.one {K : PySem.W.Frag} {A : Addr → Prop} {H : Hp} {d : D} {x : V} (h : Rp K A H d x) : RpL K A H [d] [x] := ⟨x, [], rfl, h, rfl⟩
theorem RpL.take {K : PySem.W.Frag} {A : Addr → Prop} {H : Hp} : ∀ {ds : List D} {xs : List V} (n : Nat), RpL K A H ds xs → RpL K A H (ds.take n) (xs.take n)
  | [], _, n, h => by
    cases (show _ = [] from h)
    rw [List.take_nil, List.take_nil]
    exact rfl
  | _ :: _, _, 0, _ => rfl
  | _ :: ds, _, n + 1, h => by
    obtain ⟨x, r, rfl, h1, h2⟩ := h
    exact ⟨x, r.take n, rfl, h1, RpL.take n h2⟩
theorem RpL.drop {K : PySem.W.Frag} {A : Addr → Prop} {H : Hp} : ∀ {ds : List D} {xs : List V} (n : Nat), RpL K A H ds xs → RpL K A H (ds.drop n) (xs.drop n)
  | [], _, n, h => by
    cases (show _ = [] from h)
    rw [List.drop_nil, List.drop_nil]
    exact rfl
  | _ :: _, _, 0, h => h
  | _ :: ds, _, n + 1, h => by
    obtain ⟨x, r, rfl, h1, h2⟩ := h
    exact RpL.drop n h2
theorem RpL.set {K : PySem.W.Frag} {A : Addr → Prop} {H : Hp} {d : D} {x : V} (hx : Rp K A H d x) : ∀ {ds : List D} {xs : List V} (n : Nat), RpL K A H ds xs → RpL K A H (ds.set n d) (xs.set n x)
  | [], _, n, h => by
    cases (show _ = [] from h)
    exact rfl
  | _ :: _, _, 0, h => by
    obtain ⟨x', r, rfl, h1, h2⟩ := h
    exact ⟨x, r, rfl, hx, h2⟩
  | _ :: ds, _, n + 1, h => by
    obtain ⟨x, r, rfl, h1, h2⟩ := h
    exact ⟨x, r.set n _, rfl, h1, RpL.set hx n h2⟩
theorem RpL.rev {K : PySem.W.Frag} {A : Addr → Prop} {H : Hp} : ∀ {ds : List D} {xs : List V}, RpL K A H ds xs → RpL K A H ds.reverse xs.reverse
  | [], _, h => by
    cases (show _ = [] from h)
    exact rfl
  | _ :: ds, _, h => by
    obtain ⟨x, r, rfl, h1, h2⟩ := h
    rw [List.reverse_cons, List.reverse_cons]
    exact (RpL.rev h2).app (RpL.one h1)
/-- ints -/
theorem rpl_ints {K : PySem.W.Frag} {A : Addr → Prop} {H : Hp} : ∀ {ns : List Int} {xs : List V}, RpL K A H (ns.map D.int) xs ↔ xs = ns.map V.int
  | [], _ => Iff.rfl
  | n :: ns, xs => by
    constructor
    · rintro ⟨x, r, rfl, h1, h2⟩
      cases (show x = .int n from h1)
      rw [(rpl_ints (ns := ns)).mp h2]
      rfl
    · rintro rfl
      exact ⟨_, _, rfl, rfl, (rpl_ints (ns := ns)).mpr rfl⟩
theorem rpl_bls {K : PySem.W.Frag} {A : Addr → Prop} {H : Hp} : ∀ {ns : List Bool} {xs : List V}, RpL K A H (ns.map D.bl) xs ↔ xs = ns.map V.bl
  | [], _ => Iff.rfl
  | n :: ns, xs => by
    constructor
    · rintro ⟨x, r, rfl, h1, h2⟩
      cases (show x = .bl n from h1)
      rw [(rpl_bls (ns := ns)).mp h2]
      rfl
    · rintro rfl
      exact ⟨_, _, rfl, rfl, (rpl_bls (ns := ns)).mpr rfl⟩

/-! ### slots -/
inductive Sl where
  | un | va (d : D) | ow (d : D) | od (ks : List (List Int)) (ds : List D)
abbrev Ow := List (Option Addr)
def AOf (B : Addr → Prop) (as : Ow) : Addr → Prop := fun a => B a ∨ some a ∈ as
def RpO (K : PySem.W.Frag) (A : Addr → Prop) (H : Hp) (a : Addr) : D → Prop
  | .lst ds => ∃ xs, H a = some (.lst xs) ∧ RpL K A H ds xs
  | .dct ks ds => ∃ xs, H a = some (.dT ((dkeys ks).zip xs)) ∧ ks.length = ds.length ∧ RpL K A H ds xs
  | _ => False
/-- an own dict, its values at unlike places -/
def OdO (K : PySem.W.Frag) (A : Addr → Prop) (H : Hp) (a : Addr) (ks : List (List Int)) (ds : List D) : Prop := ∃ xs, H a = some (.dT ((dkeys ks).zip xs)) ∧ ks.length = ds.length ∧ RpL K A H ds xs ∧ xs.Nodup
def SlOK (K : PySem.W.Frag) (A : Addr → Prop) (H : Hp) : Sl → Option V → Option Addr → Prop
  | .un, _, w => w = none
  | .va d, o, w => w = none ∧ ∃ v, o = some v ∧ Rp K A H d v
  | .ow d, o, w => ∃ a, o = some (.ref a) ∧ w = some a ∧ RpO K A H a d
  | .od ks ds, o, w => ∃ a, o = some (.ref a) ∧ w = some a ∧ OdO K A H a ks ds
def SlsOK (K : PySem.W.Frag) (A : Addr → Prop) (H : Hp) : List Sl → L2.St → Ow → Prop
  | [], σ, ws => σ = [] ∧ ws = []
  | s :: ss, σ, ws => ∃ o os w wr, σ = o :: os ∧ ws = w :: wr ∧ SlOK K A H s o w ∧ SlsOK K A H ss os wr

theorem RpO.rp {K : PySem.W.Frag} {A B : Addr → Prop} {H : Hp} {a : Addr} {d : D} (h : RpO K A H a d) (n : ¬ B a) (s : ∀ b, B b → A b) : Rp K B H d (.ref a) := by
  cases d with
  | lst ds =>
    obtain ⟨xs, e, l⟩ := h
    exact ⟨a, xs, rfl, e, n, l.anti s⟩
  | dct ks ds =>
    obtain ⟨xs, e, z, l⟩ := h
    exact ⟨a, xs, rfl, e, z, n, l.anti s⟩
  | _ => exact h.elim
theorem RpO.there {K : PySem.W.Frag} {A : Addr → Prop} {H : Hp} {a : Addr} {d : D} (h : RpO K A H a d) : ∃ o, H a = some o ∧ ¬ isT o := by
  cases d with
  | lst ds =>
    obtain ⟨xs, e, l⟩ := h
    exact ⟨_, e, id⟩
  | dct ks ds =>
    obtain ⟨xs, e, l⟩ := h
    exact ⟨_, e, id⟩
  | _ => exact h.elim
theorem RpO.to {K : PySem.W.Frag} {A A' : Addr → Prop} {H H' : Hp} {a : Addr} {d : D} (h : RpO K A H a d) (e : ∀ o, H a = some o → NT o → H' a = some o) (r : ∀ {ds xs}, RpL K A H ds xs → RpL K A' H' ds xs) : RpO K A' H' a d := by
  cases d with
  | lst ds =>
    obtain ⟨xs, q, l⟩ := h
    exact ⟨xs, e _ q (by intro _ z; cases z), r l⟩
  | dct ks ds =>
    obtain ⟨xs, q, z, l⟩ := h
    exact ⟨xs, e _ q (by intro _ z; cases z), z, r l⟩
  | _ => exact h.elim
theorem SlOK.to {K : PySem.W.Frag} {A A' : Addr → Prop} {H H' : Hp} {s : Sl} {o : Option V} {w : Option Addr} (h : SlOK K A H s o w) (e : ∀ a u, w = some a → H a = some u → NT u → H' a = some u)
    (r : ∀ {d v}, Rp K A H d v → Rp K A' H' d v) (rl : ∀ {ds xs}, RpL K A H ds xs → RpL K A' H' ds xs) : SlOK K A' H' s o w := by
  cases s with
  | un => exact h
  | va d =>
    obtain ⟨z, v, e1, e2⟩ := h
    exact ⟨z, v, e1, r e2⟩
  | ow d =>
    obtain ⟨a, e1, e2, e3⟩ := h
    exact ⟨a, e1, e2, e3.to (fun o q => e a o e2 q) rl⟩
  | od ks ds =>
    obtain ⟨a, e1, e2, xs, q, z, l, n⟩ := h
    exact ⟨a, e1, e2, xs, e a _ e2 q (by intro _ z; cases z), z, rl l, n⟩
theorem SlsOK.to {K : PySem.W.Frag} {A A' : Addr → Prop} {H H' : Hp} (r : ∀ {d v}, Rp K A H d v → Rp K A' H' d v) (rl : ∀ {ds xs}, RpL K A H ds xs → RpL K A' H' ds xs) :
    ∀ {ss : List Sl} {σ : L2.St} {ws : Ow}, SlsOK K A H ss σ ws → (∀ a u, some a ∈ ws → H a = some u → NT u → H' a = some u) → SlsOK K A' H' ss σ ws
  | [], _, _, h, _ => h
  | _ :: _, _, _, h, e => by
    obtain ⟨o, os, w, wr, e1, e2, h1, h2⟩ := h
    subst e2
    exact ⟨o, os, w, wr, e1, rfl, h1.to (fun a u q => e a u (by rw [q]; exact List.mem_cons_self)) r rl, SlsOK.to r rl h2 fun a u q => e a u (List.mem_cons_of_mem _ q)⟩
theorem SlsOK.get {K : PySem.W.Frag} {A : Addr → Prop} {H : Hp} : ∀ {ss : List Sl} {σ : L2.St} {ws : Ow} {i : Nat} {s : Sl}, SlsOK K A H ss σ ws → ss[i]? = some s → ∃ o w, σ[i]? = some o ∧ ws[i]? = some w ∧ SlOK K A H s o w
  | [], _, _, _, _, _, e => by simp at e
  | _ :: _, _, _, 0, _, h, e => by
    obtain ⟨o, os, w, wr, rfl, rfl, h1, h2⟩ := h
    simp at e; subst e
    exact ⟨o, w, rfl, rfl, h1⟩
  | _ :: ss, _, _, i + 1, s, h, e => by
    obtain ⟨o, os, w, wr, rfl, rfl, h1, h2⟩ := h
    obtain ⟨o', w', e1, e2, e3⟩ := SlsOK.get (i := i) (s := s) h2 (by simpa using e)
    exact ⟨o', w', by simpa using e1, by simpa using e2, e3⟩
theorem SlsOK.set {K : PySem.W.Frag} {A : Addr → Prop} {H : Hp} {s : Sl} {o : Option V} {w : Option Addr} (hs : SlOK K A H s o w) : ∀ {ss : List Sl} {σ : L2.St} {ws : Ow} (i : Nat), SlsOK K A H ss σ ws → SlsOK K A H (ss.set i s) (σ.set i o) (ws.set i w)
  | [], _, _, i, h => by
    obtain ⟨rfl, rfl⟩ := h
    exact ⟨rfl, rfl⟩
  | _ :: _, _, _, 0, h => by
    obtain ⟨o', os, w', wr, rfl, rfl, h1, h2⟩ := h
    exact ⟨_, _, _, _, rfl, rfl, hs, h2⟩
  | _ :: ss, _, _, i + 1, h => by
    obtain ⟨o', os, w', wr, rfl, rfl, h1, h2⟩ := h
    exact ⟨_, _, _, _, rfl, rfl, h1, SlsOK.set hs i h2⟩
theorem SlsOK.len {K : PySem.W.Frag} {A : Addr → Prop} {H : Hp} : ∀ {ss : List Sl} {σ : L2.St} {ws : Ow}, SlsOK K A H ss σ ws → σ.length = ss.length ∧ ws.length = ss.length
  | [], _, _, h => by
    obtain ⟨rfl, rfl⟩ := h
    exact ⟨rfl, rfl⟩
  | _ :: _, _, _, h => by
    obtain ⟨o', os, w', wr, rfl, rfl, h1, h2⟩ := h
    have := h2.len
    simp [this.1, this.2]

/-- what a loop holds on to: an object that stays, values that stand for data -/
abbrev G1 := List (Addr × HO) × List D × List V
abbrev Gh := List G1
structure GhP (A : Addr → Prop) (H : Hp) (a : Addr) (u : HO) : Prop where
  one : H a = some u
  two : ¬ A a ∨ isT u
  nt : NT u := by intro _ z; cases z
def GhOK (K : PySem.W.Frag) (A : Addr → Prop) (H : Hp) (g : G1) : Prop := (∀ a u, (a, u) ∈ g.1 → GhP A H a u) ∧ RpL K A H g.2.1 g.2.2
theorem GhOK.stp {K : PySem.W.Frag} {A : Addr → Prop} {H H' : Hp} {g : G1} (s : Stp A H H') (h : GhOK K A H g) : GhOK K A H' g := ⟨fun a u e => ⟨s a u (h.1 a u e).1 (h.1 a u e).2 (h.1 a u e).nt, (h.1 a u e).2, (h.1 a u e).nt⟩, h.2.stp s⟩
theorem GhOK.anti {K : PySem.W.Frag} {A A' : Addr → Prop} {H : Hp} {g : G1} (s : ∀ a, A' a → A a) (h : GhOK K A H g) : GhOK K A' H g := ⟨fun a u e => ⟨(h.1 a u e).1, (h.1 a u e).2.imp (fun n q => n (s a q)) id, (h.1 a u e).nt⟩, h.2.anti s⟩
theorem GhOK.more {K : PySem.W.Frag} {A A' : Addr → Prop} {H : Hp} {g : G1} (s : ∀ a o, A' a → H a = some o → A a) (h : GhOK K A H g) : GhOK K A' H g := ⟨fun a u e => ⟨(h.1 a u e).1, (h.1 a u e).2.imp (fun n q => n (s a u q (h.1 a u e).1)) id, (h.1 a u e).nt⟩, h.2.more s⟩
structure SOK (K : PySem.W.Frag) (B : Addr → Prop) (H0 : Hp) (gh : Gh) (as : Ow) (sl : List Sl) (σ : L2.St) (H : Hp) : Prop where
  ex : Same H0 H
  base : ∀ a, B a → ∃ o, H0 a = some o
  own : ∀ a, some a ∈ as → H0 a = none
  inj : ∀ (i j : Nat) (a : Addr), as[i]? = some (some a) → as[j]? = some (some a) → i = j
  held : ∀ g ∈ gh, GhOK K (AOf B as) H g
  sls : SlsOK K (AOf B as) H sl σ as
section
variable {K : PySem.W.Frag} {B : Addr → Prop} {H0 H H' : Hp} {gh : Gh} {as : Ow} {sl : List Sl} {σ : L2.St}
theorem SOK.same (S : SOK K B H0 gh as sl σ H) (e : Same H H') : SOK K B H0 gh as sl σ H' :=
  ⟨S.ex.trans e, S.base, S.own, S.inj, fun p hp => (S.held p hp).stp (.of e), S.sls.to (fun h => h.stp (.of e)) (fun h => h.stp (.of e)) fun a u _ q n => e.keep a u q n⟩
theorem SlsOK.owned {A : Addr → Prop} : ∀ {ss : List Sl} {σ : L2.St} {ws : Ow} {a : Addr}, SlsOK K A H ss σ ws → some a ∈ ws → ∃ o, H a = some o ∧ ¬ isT o
  | [], _, _, _, h, m => by
    obtain ⟨rfl, rfl⟩ := h
    cases m
  | s :: ss, _, _, a, h, m => by
    obtain ⟨o', os, w', wr, rfl, rfl, h1, h2⟩ := h
    rcases List.mem_cons.mp m with e | m
    · subst e
      cases s with
      | un => cases h1
      | va d => cases h1.1
      | ow d =>
        obtain ⟨b, e1, e2, e3⟩ := h1
        cases e2
        exact e3.there
      | od ks ds =>
        obtain ⟨b, e1, e2, xs, q, _⟩ := h1
        cases e2
        exact ⟨_, q, id⟩
    · exact SlsOK.owned h2 m
theorem SOK.dom (S : SOK K B H0 gh as sl σ H) : ∀ a, AOf B as a → ∃ o, H a = some o := fun a h => by
  rcases h with h | h
  · obtain ⟨o, e⟩ := S.base a h
    cases z : H a with
    | none => rw [S.ex.dom a z] at e; cases e
    | some u => exact ⟨u, rfl⟩
  · obtain ⟨o, e, _⟩ := S.sls.owned h
    exact ⟨o, e⟩
theorem mem_set {α : Type} : ∀ {l : List α} {i : Nat} {x y : α}, y ∈ l.set i x → y = x ∨ y ∈ l
  | [], _, _, _, h => by cases h
  | a :: l, 0, x, y, h => by
    rcases List.mem_cons.mp h with e | h
    · exact .inl e
    · exact .inr (List.mem_cons_of_mem _ h)
  | a :: l, i + 1, x, y, h => by
    rcases List.mem_cons.mp h with e | h
    · exact .inr (e ▸ List.mem_cons_self)
    · rcases mem_set h with e | h
      · exact .inl e
      · exact .inr (List.mem_cons_of_mem _ h)
theorem AOf.unset {i : Nat} : ∀ a, AOf B (as.set i none) a → AOf B as a := fun a h => by
  rcases h with h | h
  · exact .inl h
  · rcases mem_set h with e | h
    · cases e
    · exact .inr h
theorem inj_unset {i : Nat} (hj : ∀ (i j : Nat) (a : Addr), as[i]? = some (some a) → as[j]? = some (some a) → i = j) : ∀ (k j : Nat) (a : Addr), (as.set i none)[k]? = some (some a) → (as.set i none)[j]? = some (some a) → k = j := fun k j a h1 h2 => by
  have g : ∀ k, (as.set i none)[k]? = some (some a) → as[k]? = some (some a) := fun k h => by
    by_cases e : i = k
    · subst e
      rw [List.getElem?_set] at h
      split at h
      · split at h
        · cases h
        · cases h
      · exact h
    · rw [List.getElem?_set_ne e] at h
      exact h
  exact hj k j a (g k h1) (g j h2)
/-- a slot is stored -/
theorem SOK.put {i : Nat} {d : D} {v : V} (S : SOK K B H0 gh as sl σ H) (h : Rp K (AOf B as) H d v) : SOK K B H0 gh (as.set i none) (sl.set i (.va d)) (σ.set i (some v)) H := by
  refine ⟨S.ex, S.base, fun a h => ?_, inj_unset S.inj, fun p hp => (S.held p hp).anti AOf.unset, ?_⟩
  · rcases mem_set h with e | h
    · cases e
    · exact S.own a h
  · refine SlsOK.set (s := .va d) (o := some v) (w := none) ⟨rfl, v, rfl, h.anti AOf.unset⟩ i (S.sls.to (fun h => h.anti AOf.unset) (fun h => h.anti AOf.unset) fun _ _ _ q _ => q)
/-- a slot is forgotten -/
theorem SOK.drop {i : Nat} {o : Option V} (S : SOK K B H0 gh as sl σ H) : SOK K B H0 gh (as.set i none) (sl.set i .un) (σ.set i o) H := by
  refine ⟨S.ex, S.base, fun a h => ?_, inj_unset S.inj, fun p hp => (S.held p hp).anti AOf.unset, ?_⟩
  · rcases mem_set h with e | h
    · cases e
    · exact S.own a h
  · exact SlsOK.set (s := .un) (o := o) (w := none) rfl i (S.sls.to (fun h => h.anti AOf.unset) (fun h => h.anti AOf.unset) fun _ _ _ q _ => q)
end
end PD

namespace PD
open PySem PySem.Spec PyProof.Rows L2
variable [TN]
/-- a list that is read: one of the program's, or a frozen one -/
inductive RdL : D → List D → Prop
  | lst (ds : List D) : RdL (.lst ds) ds
  | fro (ds : List D) : RdL (.fro ds) ds
theorem RdL.seq {K : PySem.W.Frag} {A : Addr → Prop} {H : Hp} {d : D} {ds : List D} {v : V} (r : RdL d ds) (h : Rp K A H d v) : ∃ a xs, v = .ref a ∧ SqL K H a xs ∧ RpL K A H ds xs := by
  cases r with
  | lst =>
    obtain ⟨a, xs, e, t, n, l⟩ := h
    exact ⟨a, xs, e, .inl (.inl t), l⟩
  | fro =>
    obtain ⟨a, xs, e, t, l⟩ := h
    refine ⟨a, xs, e, ?_, l⟩
    rcases t with ⟨o, t⟩ | t
    · exact .inl (.inr ⟨o, t⟩)
    · exact .inr t
end PD
namespace PD
open PySem PySem.Spec PyProof.Rows L2
variable [TN]
/-- // by a positive divisor, of ints that no library of the interpreter is asked for -/
def CDivX (i j : Int) : Prop := 0 < j ∧ Builtin.divisionGoesByPylong i j = false
theorem divK {i j : Int} (h : 0 < j) (g : j.natAbs.log2 < 9000) : CDivX i j := ⟨h, PyProof.noPylong_of_log2 g⟩
theorem divT {i j : Int} (h : 0 < j) (g : i.natAbs.log2 < 13530) : CDivX i j := by
  refine ⟨h, ?_⟩
  have key : (if i == 0 then 0 else i.natAbs.log2 / 30 + 1) ≤ 451 := by
    split <;> omega
  show (decide ((if j == 0 then 0 else j.natAbs.log2 / 30 + 1) > 300) && decide ((if i == 0 then 0 else i.natAbs.log2 / 30 + 1) > (if j == 0 then 0 else j.natAbs.log2 / 30 + 1) + 150)) = false
  generalize (if i == 0 then 0 else i.natAbs.log2 / 30 + 1) = u at *
  generalize (if j == 0 then 0 else j.natAbs.log2 / 30 + 1) = v at *
  rw [Bool.and_eq_false_iff]
  rcases Nat.lt_or_ge 300 v with q | q
  · exact .inr (decide_eq_false (by omega))
  · exact .inl (decide_eq_false (by omega))
theorem op_fdivX {X : Cx} : OpR X (binaryOp .FloorDiv) (rI CDivX fun i j => .int (i / j)) := opI fun i j _ _ _ _ _ hc q => by
  have h1 : (0 : Int) < j := hc.1
  exact floordiv_int (by omega) (by rw [Int.fdiv_eq_ediv_of_nonneg i (by omega)]; exact q) (.inl hc.2)
theorem SlsOK.mk {K : PySem.W.Frag} {A : Addr → Prop} {H : Hp} : ∀ {ss : List Sl} {σ : L2.St} {ws : Ow}, σ.length = ss.length → ws.length = ss.length →
    (∀ (j : Nat) s o w, ss[j]? = some s → σ[j]? = some o → ws[j]? = some w → SlOK K A H s o w) → SlsOK K A H ss σ ws
  | [], σ, ws, h1, h2, _ => ⟨List.length_eq_zero_iff.mp h1, List.length_eq_zero_iff.mp h2⟩
  | s :: ss, [], _, h1, _, _ => by simp at h1
  | s :: ss, _ :: _, [], _, h2, _ => by simp at h2
  | s :: ss, o :: os, w :: ws, h1, h2, h => ⟨o, os, w, ws, rfl, rfl, h 0 s o w rfl rfl rfl, SlsOK.mk (by simpa using h1) (by simpa using h2) fun j s' o' w' a b c =>
      h (j + 1) s' o' w' (by simpa using a) (by simpa using b) (by simpa using c)⟩
theorem Same.mut {H0 H : Hp} {a : Addr} {o' u0 : HO} (S : Same H0 H) (h0 : H0 a = none) (hu : H a = some u0) (n1 : NT u0) (n2 : ∀ φ, u0 ≠ .ext φ) : Same H0 (upd H a o') := ⟨fun c u hc n => by
    rw [upd_ne (ne_of_none hc h0)]
    exact S.keep c u hc n, fun p t => by
    obtain ⟨ps, h1, h2, h3⟩ := S.tabs p t
    have e1 : p ≠ a := fun z => by rw [z, hu] at h1; cases h1; exact n1 ps rfl
    refine ⟨ps, by rw [upd_ne e1]; exact h1, h2, fun pos cv hc => ?_⟩
    obtain ⟨c, e2, e3⟩ := h3 pos cv hc
    have e4 : c ≠ a := fun z => by rw [z, hu] at e3; cases e3; exact n2 _ rfl
    exact ⟨c, e2, by rw [upd_ne e4]; exact e3⟩, fun c hc => by
    by_cases z : c = a
    · rw [z]; exact h0
    · rw [upd_ne z] at hc
      exact S.dom c hc⟩
theorem RpO.kind {K : PySem.W.Frag} {A : Addr → Prop} {H : Hp} {a : Addr} {d : D} (h : RpO K A H a d) : ∃ u, H a = some u ∧ NT u ∧ (∀ φ, u ≠ .ext φ) ∧ ¬ isT u := by
  cases d with
  | lst ds =>
    obtain ⟨xs, e, l⟩ := h
    exact ⟨_, e, (by intro _ z; cases z), (by intro _ z; cases z), id⟩
  | dct ks ds =>
    obtain ⟨xs, e, l⟩ := h
    exact ⟨_, e, (by intro _ z; cases z), (by intro _ z; cases z), id⟩
  | _ => exact h.elim
section
variable {K : PySem.W.Frag} {B : Addr → Prop} {H0 H H' : Hp} {gh : Gh} {as : Ow} {sl : List Sl} {σ : L2.St}
def A1 (A : Addr → Prop) (p : Addr) : Addr → Prop := fun a => A a ∨ a = p
theorem AOf.put {i : Nat} {p : Addr} : ∀ a, AOf B (as.set i (some p)) a → A1 (AOf B as) p a := fun a h => by
  rcases h with h | h
  · exact .inl (.inl h)
  · rcases mem_set h with e | h
    · exact .inr (Option.some.inj e)
    · exact .inl (.inr h)
/-- a new list or dict is stored: the def's own -/
theorem SOK.putO {i : Nat} {p : Addr} {d : D} (S : SOK K B H0 gh as sl σ H) (hp : H p = none) (e : Same H H') (new : RpO K (A1 (AOf B as) p) H' p d) :
    SOK K B H0 gh (as.set i (some p)) (sl.set i (.ow d)) (σ.set i (some (.ref p))) H' := by
  have mr : ∀ {d v}, Rp K (AOf B as) H d v → Rp K (AOf B (as.set i (some p))) H' d v := fun h => (h.more fun a o ha ho => by
    rcases AOf.put a ha with h | h
    · exact h
    · rw [h, hp] at ho; cases ho).stp (.of e)
  have mrl : ∀ {d v}, RpL K (AOf B as) H d v → RpL K (AOf B (as.set i (some p))) H' d v := fun h => (h.more fun a o ha ho => by
    rcases AOf.put a ha with h | h
    · exact h
    · rw [h, hp] at ho; cases ho).stp (.of e)
  have mg : ∀ {g}, GhOK K (AOf B as) H g → GhOK K (AOf B (as.set i (some p))) H' g := fun h => (h.more fun a o ha ho => by
    rcases AOf.put a ha with h | h
    · exact h
    · rw [h, hp] at ho; cases ho).stp (.of e)
  have nin : some p ∉ as := fun m => by
    obtain ⟨o, ho, _⟩ := S.sls.owned m
    rw [hp] at ho; cases ho
  refine ⟨S.ex.trans e, S.base, fun a h => ?_, fun k j a h1 h2 => ?_, fun q hq => mg (S.held q hq), ?_⟩
  · rcases mem_set h with z | h
    · cases z
      exact S.ex.free hp
    · exact S.own a h
  · have g : ∀ (k : Nat), (as.set i (some p))[k]? = some (some a) → (k = i ∧ a = p) ∨ as[k]? = some (some a) := fun k h => by
      by_cases z : i = k
      · subst z
        rw [List.getElem?_set] at h
        simp only [if_true] at h
        split at h
        · exact .inl ⟨rfl, by cases h; rfl⟩
        · cases h
      · rw [List.getElem?_set_ne z] at h
        exact .inr h
    rcases g k h1 with ⟨k1, k2⟩ | g1
    · rcases g j h2 with ⟨j1, j2⟩ | g2
      · rw [k1, j1]
      · rw [k2] at g2
        exact absurd (List.mem_of_getElem? g2) nin
    · rcases g j h2 with ⟨j1, j2⟩ | g2
      · rw [j2] at g1
        exact absurd (List.mem_of_getElem? g1) nin
      · exact S.inj k j a g1 g2
  · have new' : RpO K (AOf B (as.set i (some p))) H' p d := new.to (fun o q _ => q) fun h => h.anti AOf.put
    exact SlsOK.set (s := .ow d) (o := some (.ref p)) (w := some p) ⟨p, rfl, rfl, new'⟩ i (S.sls.to mr mrl fun a u _ q n => e.keep a u q n)
/-- an own list or dict is changed -/
theorem SOK.mut {i : Nat} {a : Addr} {d d' : D} {o' : HO} (S : SOK K B H0 gh as sl σ H) (hi : sl[i]? = some (.ow d)) (ha : σ[i]? = some (some (.ref a))) (new : RpO K (AOf B as) (upd H a o') a d') :
    SOK K B H0 gh as (sl.set i (.ow d')) σ (upd H a o') := by
  obtain ⟨o, w, e1, e2, b, e3, e4, e5⟩ := S.sls.get hi
  subst e3 e4
  rw [ha] at e1
  cases e1
  have own : some a ∈ as := List.mem_of_getElem? e2
  have h0 : H0 a = none := S.own a own
  obtain ⟨u0, hu0, n1, n2, nt⟩ := e5.kind
  have st : Stp (AOf B as) H (upd H a o') := ⟨fun c u hc q _ => by
    by_cases z : c = a
    · subst z
      rw [hu0] at hc
      cases hc
      rcases q with q | q
      · exact absurd (.inr own) q
      · exact absurd q nt
    · rw [upd_ne z]
      exact hc⟩
  have sm : Same H0 (upd H a o') := S.ex.mut h0 hu0 n1 n2
  obtain ⟨l1, l2⟩ := S.sls.len
  refine ⟨sm, S.base, S.own, S.inj, fun q hq => (S.held q hq).stp st, SlsOK.mk (by rw [List.length_set]; exact l1) (by rw [List.length_set]; exact l2) fun j s o w h1 h2 h3 => ?_⟩
  by_cases z : i = j
  · subst z
    rw [e2] at h3
    cases h3
    rw [ha] at h2
    cases h2
    rw [List.getElem?_set] at h1
    simp only [if_true] at h1
    split at h1
    · cases h1
      exact ⟨a, rfl, rfl, new⟩
    · cases h1
  · rw [List.getElem?_set_ne z] at h1
    obtain ⟨o1, w1, q1, q2, q3⟩ := S.sls.get h1
    rw [q1] at h2
    cases h2
    rw [q2] at h3
    cases h3
    refine q3.to (fun c u hw hc _ => ?_) (fun h => h.stp st) (fun h => h.stp st)
    subst hw
    have nc : c ≠ a := fun z' => by
      subst z'
      exact z (S.inj i j c e2 q2)
    rw [upd_ne nc]
    exact hc
theorem SOK.at {i : Nat} {d : D} (S : SOK K B H0 gh as sl σ H) (hi : sl[i]? = some (.ow d)) : ∃ a, σ[i]? = some (some (.ref a)) ∧ some a ∈ as ∧ H0 a = none ∧ RpO K (AOf B as) H a d := by
  obtain ⟨o, w, e1, e2, b, e3, e4, e5⟩ := S.sls.get hi
  subst e3 e4
  exact ⟨b, e1, List.mem_of_getElem? e2, S.own b (List.mem_of_getElem? e2), e5⟩
theorem SOK.nB {a : Addr} (S : SOK K B H0 gh as sl σ H) (h : H0 a = none) : ¬ B a := fun q => by
  obtain ⟨o, e⟩ := S.base a q
  rw [h] at e
  cases e
/-- an own list is own no more -/
theorem SOK.fz {i : Nat} {d : D} (S : SOK K B H0 gh as sl σ H) (hi : sl[i]? = some (.ow d)) : SOK K B H0 gh (as.set i none) (sl.set i (.va d)) σ H := by
  obtain ⟨o, w, e1, e2, b, e3, e4, e5⟩ := S.sls.get hi
  subst e3 e4
  have h0 : H0 b = none := S.own b (List.mem_of_getElem? e2)
  have nb : ¬ AOf B (as.set i none) b := fun q => by
    rcases q with q | q
    · exact S.nB h0 q
    · obtain ⟨j, hj⟩ := List.getElem?_of_mem q
      by_cases z : i = j
      · subst z
        rw [List.getElem?_set] at hj
        split at hj
        · split at hj
          · cases hj
          · cases hj
        · rename_i n
          exact n rfl
      · rw [List.getElem?_set_ne z] at hj
        exact z (S.inj i j b e2 hj)
  have hv : Rp K (AOf B (as.set i none)) H d (.ref b) := e5.rp nb AOf.unset
  have h2 : σ.set i (some (.ref b)) = σ := by
    apply List.ext_getElem?
    intro j
    by_cases z : i = j
    · subst z
      rw [List.getElem?_set]
      simp only [if_true]
      rw [e1]
      split
      · rfl
      · rename_i n
        have := (List.getElem?_eq_some_iff.mp e1).1
        exact absurd this n
    · rw [List.getElem?_set_ne z]
  refine ⟨S.ex, S.base, fun a h => ?_, inj_unset S.inj, fun p hp => (S.held p hp).anti AOf.unset, ?_⟩
  · rcases mem_set h with e | h
    · cases e
    · exact S.own a h
  · rw [← h2]
    exact SlsOK.set (s := .va d) (o := some (.ref b)) (w := none) ⟨rfl, _, rfl, hv⟩ i (S.sls.to (fun h => h.anti AOf.unset) (fun h => h.anti AOf.unset) fun _ _ _ q _ => q)
theorem SOK.ghost {p : G1} (S : SOK K B H0 gh as sl σ H) (h : GhOK K (AOf B as) H p) : SOK K B H0 (p :: gh) as sl σ H :=
  ⟨S.ex, S.base, S.own, S.inj, fun q hq => by
    rcases List.mem_cons.mp hq with e | m
    · rw [e]; exact h
    · exact S.held q m, S.sls⟩
theorem SOK.unghost {p : G1} (S : SOK K B H0 (p :: gh) as sl σ H) : SOK K B H0 gh as sl σ H :=
  ⟨S.ex, S.base, S.own, S.inj, fun q hq => S.held q (List.mem_cons_of_mem _ hq), S.sls⟩
end

/-! ### the weakest readings -/
section
variable {X : Cx}
def tE (X : Cx) (e : Expr) : TE := fun σ H Q => ∀ pins s, Inv X pins σ H s → wpAny (model X.prog X.w) X.A (eval e X.env) (EP X pins σ Q) X.xe s
def tT (X : Cx) (e : Expr) : TT := fun σ H Q => ∀ pins s, Inv X pins σ H s → wpAny (model X.prog X.w) X.A (isTrue e X.env (eval e X.env)) (TP X pins σ Q) X.xe s
def tW (X : Cx) (e : Expr) : TT := fun σ H Q => ∀ whole pins s, Inv X pins σ H s → wpAny (model X.prog X.w) X.A (isTrue e X.env whole) (TP X pins σ Q) X.xe s
def tA (X : Cx) (es : List Expr) : TA := fun σ H Q => ∀ (pos : Pos) pins s, Inv X pins σ H s → wpAny (model X.prog X.w) X.A (spliced (backTo pos (starEach es X.env))) (AP X pins σ Q) X.xe s
def tS (X : Cx) (st : Stmt) : TS := fun D σ H => ∀ pins s, Inv X pins σ H s → wpAny (model X.prog X.w) X.A (exec st X.env) (SP X pins D) X.xe s
def tSs (X : Cx) (st : List Stmt) : TS := fun D σ H => ∀ pins s, Inv X pins σ H s → wpAny (model X.prog X.w) X.A (execs st X.env) (SP X pins D) X.xe s
theorem pe_w {e : Expr} : PE X e (tE X e) := ⟨fun pins s _ _ _ I h => h pins s I⟩
theorem pt_w {e : Expr} : PT X e (tT X e) := ⟨fun pins s _ _ _ I h => h pins s I⟩
theorem pw_w {e : Expr} : PW X e (tW X e) := ⟨fun whole pins s _ _ _ I h => h whole pins s I⟩
theorem pa_w {es : List Expr} : PA X es (tA X es) := ⟨fun pos pins s _ _ _ I h => h pos pins s I⟩
theorem ps_w {st : Stmt} : PS X st (tS X st) := ⟨fun pins s _ _ _ I h => h pins s I⟩
theorem pss_w {st : List Stmt} : PSs X st (tSs X st) := ⟨fun pins s _ _ _ I h => h pins s I⟩
theorem PEt {e : Expr} {t : TE} (h : PE X e t) {σ : L2.St} {H : Hp} {Q : VK} (q : t σ H Q) : tE X e σ H Q := fun pins s I => h.run pins s σ H Q I q
theorem PTt {e : Expr} {t : TT} (h : PT X e t) {σ : L2.St} {H : Hp} {Q : Bool → Hp → Prop} (q : t σ H Q) : tT X e σ H Q := fun pins s I => h.run pins s σ H Q I q
theorem PWt {e : Expr} {t : TT} (h : PW X e t) {σ : L2.St} {H : Hp} {Q : Bool → Hp → Prop} (q : t σ H Q) : tW X e σ H Q := fun whole pins s I => h.run whole pins s σ H Q I q
theorem PAt {es : List Expr} {t : TA} (h : PA X es t) {σ : L2.St} {H : Hp} {Q : List V → Hp → Prop} (q : t σ H Q) : tA X es σ H Q := fun pos pins s I => h.run pos pins s σ H Q I q
theorem PSt {st : Stmt} {t : TS} (h : PS X st t) {σ : L2.St} {H : Hp} {D : Ends} (q : t D σ H) : tS X st D σ H := fun pins s I => h.run pins s σ H D I q
theorem PSst {st : List Stmt} {t : TS} (h : PSs X st t) {σ : L2.St} {H : Hp} {D : Ends} (q : t D σ H) : tSs X st D σ H := fun pins s I => h.run pins s σ H D I q
theorem SPm {pins : List (Addr × Obj)} {D D' : Ends} {f : Flow} {s : Shared} (h : SP X pins D f s) (hn : ∀ σ H, D.nx σ H → D'.nx σ H) (hr : ∀ v H, D.rt v H → D'.rt v H) (hb : ∀ σ H, D.bk σ H → D'.bk σ H) (hc : ∀ σ H, D.ct σ H → D'.ct σ H) : SP X pins D' f s := by
  cases f with
  | next => obtain ⟨σ', H', I, q⟩ := h; exact ⟨σ', H', I, hn _ _ q⟩
  | brk => obtain ⟨σ', H', I, q⟩ := h; exact ⟨σ', H', I, hb _ _ q⟩
  | cont => obtain ⟨σ', H', I, q⟩ := h; exact ⟨σ', H', I, hc _ _ q⟩
  | ret u => obtain ⟨v, σ', H', I, r, q⟩ := h; exact ⟨v, σ', H', I, r, hr _ _ q⟩
end

/-! ### the judgements -/
def Av (B : Addr → Prop) (as : Ow) : Bool → Addr → Prop
  | true => AOf B as
  | false => B
theorem Av.sub {B : Addr → Prop} {as : Ow} {m : Bool} : ∀ a, Av B as m a → AOf B as a := fun a h => by
  cases m with
  | true => exact h
  | false => exact .inl h
theorem Av.base {B : Addr → Prop} {as : Ow} {m : Bool} : ∀ a, B a → Av B as m a := fun a h => by
  cases m with
  | true => exact .inl h
  | false => exact h
/-- e gives d -/
structure JE (X : Cx) (B : Addr → Prop) (H0 : Hp) (m : Bool) (sl : List Sl) (e : Expr) (d : D) : Prop where
  run : ∀ gh as σ H Q, SOK X.K B H0 gh as sl σ H → (∀ v H', Same H H' → Rp X.K (Av B as m) H' d v → Q v H') → tE X e σ H Q
/-- e gives a new list or dict -/
structure JF (X : Cx) (B : Addr → Prop) (H0 : Hp) (sl : List Sl) (e : Expr) (d : D) : Prop where
  run : ∀ gh as σ H Q, SOK X.K B H0 gh as sl σ H → (∀ p H', Same H H' → H p = none → RpO X.K (A1 (AOf B as) p) H' p d → Q (.ref p) H') → tE X e σ H Q
structure JT (X : Cx) (B : Addr → Prop) (H0 : Hp) (sl : List Sl) (e : Expr) (b : Bool) : Prop where
  run : ∀ gh as σ H Q, SOK X.K B H0 gh as sl σ H → (∀ H', Same H H' → Q b H') → tT X e σ H Q
structure JW (X : Cx) (B : Addr → Prop) (H0 : Hp) (sl : List Sl) (e : Expr) (b : Bool) : Prop where
  run : ∀ gh as σ H Q, SOK X.K B H0 gh as sl σ H → (∀ H', Same H H' → Q b H') → tW X e σ H Q
structure JA (X : Cx) (B : Addr → Prop) (H0 : Hp) (m : Bool) (sl : List Sl) (es : List Expr) (ds : List D) : Prop where
  run : ∀ gh as σ H Q, SOK X.K B H0 gh as sl σ H → (∀ vs H', Same H H' → RpL X.K (Av B as m) H' ds vs → Q vs H') → tA X es σ H Q
structure Po where
  nx : List Sl → Prop
  rt : D → Prop
  rf : D → Prop := fun _ => False
  bk : List Sl → Prop := fun _ => False
  ct : List Sl → Prop := fun _ => False
def stO (K : PySem.W.Frag) (B : Addr → Prop) (H0 : Hp) (gh : Gh) (P : List Sl → Prop) : L2.St → Hp → Prop := fun σ H => ∃ as sl, P sl ∧ SOK K B H0 gh as sl σ H
def eo (K : PySem.W.Frag) (B : Addr → Prop) (H0 : Hp) (gh : Gh) (P : Po) : Ends where
  nx := stO K B H0 gh P.nx
  rt v H := (∃ d, P.rt d ∧ Same H0 H ∧ Rp K B H d v) ∨ ∃ d p, P.rf d ∧ v = .ref p ∧ Same H0 H ∧ H0 p = none ∧ RpO K (A1 B p) H p d
  bk := stO K B H0 gh P.bk
  ct := stO K B H0 gh P.ct
structure JS (X : Cx) (B : Addr → Prop) (H0 : Hp) (sl : List Sl) (st : Stmt) (P : Po) : Prop where
  run : ∀ gh as σ H, SOK X.K B H0 gh as sl σ H → tS X st (eo X.K B H0 gh P) σ H
structure JSs (X : Cx) (B : Addr → Prop) (H0 : Hp) (sl : List Sl) (st : List Stmt) (P : Po) : Prop where
  run : ∀ gh as σ H, SOK X.K B H0 gh as sl σ H → tSs X st (eo X.K B H0 gh P) σ H

section
variable {X : Cx} {B : Addr → Prop} {H0 : Hp} {m m1 m2 : Bool} {sl : List Sl} {e a b : Expr} {d : D} {pos : Pos}
theorem JF.je (h : JF X B H0 sl e d) : JE X B H0 m sl e d := ⟨fun gh as σ H Q S q => h.run gh as σ H _ S fun p H' s hp r => q _ H' s (r.rp (fun z => by
  obtain ⟨o, ho⟩ := S.dom p (Av.sub p z)
  rw [hp] at ho
  cases ho) fun b hb => .inl (Av.sub b hb))⟩
theorem JE.lo (h : JE X B H0 m sl e d) : JE X B H0 false sl e d := ⟨fun gh as σ H Q S q => h.run gh as σ H _ S fun v H' s r => q v H' s (r.anti fun a ha => Av.base a ha)⟩
theorem JE.im (h : JE X B H0 m sl e d) (i : imm d = true) : JE X B H0 m1 sl e d := ⟨fun gh as σ H Q S q => h.run gh as σ H _ S fun v H' s r => q v H' s (r.im i)⟩
/-! names, constants -/
theorem je_var (i : Nat) {x : Str} (hN : X.N[i]? = some x) (hv : Vis X.env.scope x) (h : sl[i]? = some (.va d)) (hd : (x == ("__debug__" : Str)) = false := by decide) (hcd : (x == ("__classdict__" : Str)) = false := by decide) :
    JE X B H0 m sl (.Name x pos) d := ⟨fun gh as σ H Q S q => by
  obtain ⟨o, w, e1, e2, e3, v, e4, r⟩ := S.sls.get h
  subst e4
  exact PEt (pe_var hN hv hd hcd) ⟨v, e1, q v H (Same.refl H) (r.anti fun a ha => Av.sub a ha)⟩⟩
theorem je_ow (i : Nat) {x : Str} (hN : X.N[i]? = some x) (hv : Vis X.env.scope x) (h : sl[i]? = some (.ow d)) (hd : (x == ("__debug__" : Str)) = false := by decide) (hcd : (x == ("__classdict__" : Str)) = false := by decide) :
    JE X B H0 false sl (.Name x pos) d := ⟨fun gh as σ H Q S q => by
  obtain ⟨p, e1, e2, e3, r⟩ := S.at h
  exact PEt (pe_var hN hv hd hcd) ⟨_, e1, q _ H (Same.refl H) (r.rp (S.nB e3) fun b hb => .inl hb)⟩⟩
theorem je_int {i : Int} {j : Nat} : JE X B H0 m sl (.Constant (.int i) j pos) (.int i) := ⟨fun gh as σ H Q S q => PEt pe_int (q _ H (Same.refl H) rfl)⟩
theorem je_bl {i : Bool} {j : Nat} : JE X B H0 m sl (.Constant (.bool i) j pos) (.bl i) := ⟨fun gh as σ H Q S q => PEt pe_bl (q _ H (Same.refl H) rfl)⟩
theorem je_non {j : Nat} : JE X B H0 m sl (.Constant .none j pos) .non := ⟨fun gh as σ H Q S q => PEt pe_non (q _ H (Same.refl H) rfl)⟩
theorem je_str {x : Str} {j : Nat} : JE X B H0 m sl (.Constant (.str x) j pos) (.str x) := ⟨fun gh as σ H Q S q => PEt pe_str (q _ H (Same.refl H) rfl)⟩
theorem je_is {d' : D} (h : JE X B H0 m sl e d) (q : d = d') : JE X B H0 m sl e d' := q ▸ h
/-! two ints -/
theorem je_i2 {op : Operator} {C : Int → Int → Prop} {g : Int → Int → Int} {i j : Int} (ho : OpR X (binaryOp op) (rI C fun i j => .int (g i j))) (ha : JE X B H0 false sl a (.int i)) (hb : JE X B H0 false sl b (.int j)) (hc : C i j) :
    JE X B H0 m sl (.BinOp a op b pos) (.int (g i j)) := ⟨fun gh as σ H Q S q => PEt (pe_op ho pe_w pe_w) (ha.run gh as σ H _ S fun x H1 s1 r1 => hb.run gh as σ H1 _ (S.same s1) fun y H2 s2 r2 => ⟨i, j, r1, r2, hc, q _ H2 (s1.trans s2) rfl⟩)⟩
theorem je_i20 {op : Operator} {g : Int → Int → Int} {i j : Int} (ho : OpR X (binaryOp op) (rI0 fun i j => .int (g i j))) (ha : JE X B H0 false sl a (.int i)) (hb : JE X B H0 false sl b (.int j)) :
    JE X B H0 m sl (.BinOp a op b pos) (.int (g i j)) := ⟨fun gh as σ H Q S q => PEt (pe_op ho pe_w pe_w) (ha.run gh as σ H _ S fun x H1 s1 r1 => hb.run gh as σ H1 _ (S.same s1) fun y H2 s2 r2 => ⟨i, j, r1, r2, q _ H2 (s1.trans s2) rfl⟩)⟩
def MulOk (i j : Int) : Prop := CMulW i j ∨ CMul i j
theorem op_mulB : OpR X (binaryOp .Mult) (rI MulOk fun i j => .int (i * j)) := opI fun _ _ _ _ _ _ _ hc q => mul_int q (hc.elim CMulW.ok CMul.ok)
theorem je_add {i j : Int} (ha : JE X B H0 false sl a (.int i)) (hb : JE X B H0 false sl b (.int j)) : JE X B H0 m sl (.BinOp a .Add b pos) (.int (i + j)) := je_i20 op_add ha hb
theorem je_sub {i j : Int} (ha : JE X B H0 false sl a (.int i)) (hb : JE X B H0 false sl b (.int j)) : JE X B H0 m sl (.BinOp a .Sub b pos) (.int (i - j)) := je_i20 op_sub ha hb
theorem je_mul {i j : Int} (ha : JE X B H0 false sl a (.int i)) (hb : JE X B H0 false sl b (.int j)) (hc : MulOk i j) : JE X B H0 m sl (.BinOp a .Mult b pos) (.int (i * j)) := je_i2 op_mulB ha hb hc
theorem je_div {i j : Int} (ha : JE X B H0 false sl a (.int i)) (hb : JE X B H0 false sl b (.int j)) (hc : CDivX i j) : JE X B H0 m sl (.BinOp a .FloorDiv b pos) (.int (i / j)) := je_i2 op_fdivX ha hb hc
theorem je_mod {i j : Int} (ha : JE X B H0 false sl a (.int i)) (hb : JE X B H0 false sl b (.int j)) (hc : 0 < j) : JE X B H0 m sl (.BinOp a .Mod b pos) (.int (i % j)) := je_i2 op_mod ha hb hc
theorem je_modN {i j : Int} (ha : JE X B H0 false sl a (.int i)) (hb : JE X B H0 false sl b (.int j)) (hc : j ≠ 0) : JE X B H0 m sl (.BinOp a .Mod b pos) (.int (i.fmod j)) := je_i2 op_modN ha hb hc
theorem je_pow {i j : Int} (ha : JE X B H0 false sl a (.int i)) (hb : JE X B H0 false sl b (.int j)) (hc : CPow i j) : JE X B H0 m sl (.BinOp a .Pow b pos) (.int (i ^ j.toNat)) := je_i2 op_pow ha hb hc
theorem je_shr {i j : Int} (ha : JE X B H0 false sl a (.int i)) (hb : JE X B H0 false sl b (.int j)) (hc : 0 ≤ j) : JE X B H0 m sl (.BinOp a .RShift b pos) (.int (i / 2 ^ j.toNat)) := je_i2 (g := fun i j => i / 2 ^ j.toNat) op_shr ha hb hc
theorem je_and2 {i j : Int} (ha : JE X B H0 false sl a (.int i)) (hb : JE X B H0 false sl b (.int j)) : JE X B H0 m sl (.BinOp a .BitAnd b pos) (.int (Builtin.bitAnd i j)) := je_i20 op_and ha hb
theorem je_or2 {i j : Int} (ha : JE X B H0 false sl a (.int i)) (hb : JE X B H0 false sl b (.int j)) : JE X B H0 m sl (.BinOp a .BitOr b pos) (.int (Builtin.bitOr i j)) := je_i20 op_or ha hb
theorem je_neg {i : Int} (ha : JE X B H0 false sl a (.int i)) : JE X B H0 m sl (.UnaryOp .USub a pos) (.int (-i)) := ⟨fun gh as σ H Q S q => PEt (pe_un un_neg pe_w) (ha.run gh as σ H _ S fun x H1 s1 r1 => ⟨i, r1, q _ H1 s1 rfl⟩)⟩
theorem je_cat {x y : Str} (ha : JE X B H0 false sl a (.str x)) (hb : JE X B H0 false sl b (.str y)) (hl : x.length + y.length ≤ sizeLine) : JE X B H0 m sl (.BinOp a .Add b pos) (.str (x ++ y)) := ⟨fun gh as σ H Q S q =>
  PEt (pe_op op_add_str pe_w pe_w) (ha.run gh as σ H _ S fun x' H1 s1 r1 => hb.run gh as σ H1 _ (S.same s1) fun y' H2 s2 r2 => ⟨x, y, r1, r2, hl, q _ H2 (s1.trans s2) rfl⟩)⟩
/-! comparisons -/
theorem je_c2 {op : CmpOp} {g : Int → Int → Bool} {i j : Int} (ho : OpR X (compareOp op) (rI0 fun i j => .bl (g i j))) (hm : behindInMarks op b = false) (ha : JE X B H0 false sl a (.int i)) (hb : JE X B H0 false sl b (.int j)) :
    JE X B H0 m sl (.Compare a [op] [b] pos) (.bl (g i j)) := ⟨fun gh as σ H Q S q => PEt (pe_cmpR ho pe_w pe_w hm) (ha.run gh as σ H _ S fun x H1 s1 r1 => hb.run gh as σ H1 _ (S.same s1) fun y H2 s2 r2 => ⟨i, j, r1, r2, q _ H2 (s1.trans s2) rfl⟩)⟩
theorem jt_c2 {op : CmpOp} {g : Int → Int → Bool} {i j : Int} (ho : OpR X (compareOp op) (rI0 fun i j => .bl (g i j))) (hm : behindInMarks op b = false) (ha : JE X B H0 false sl a (.int i)) (hb : JE X B H0 false sl b (.int j)) :
    JT X B H0 sl (.Compare a [op] [b] pos) (g i j) := ⟨fun gh as σ H Q S q => PTt (pt_cmpR ho pe_w pe_w hm) (ha.run gh as σ H _ S fun x H1 s1 r1 => hb.run gh as σ H1 _ (S.same s1) fun y H2 s2 r2 => ⟨i, j, r1, r2, _, rfl, q H2 (s1.trans s2)⟩)⟩
theorem je_lt {i j : Int} (ha : JE X B H0 false sl a (.int i)) (hb : JE X B H0 false sl b (.int j)) : JE X B H0 m sl (.Compare a [.Lt] [b] pos) (.bl (decide (i < j))) := je_c2 op_lt (nomark _) ha hb
theorem je_le {i j : Int} (ha : JE X B H0 false sl a (.int i)) (hb : JE X B H0 false sl b (.int j)) : JE X B H0 m sl (.Compare a [.LtE] [b] pos) (.bl (decide (i ≤ j))) := je_c2 op_le (nomark _) ha hb
theorem je_gt {i j : Int} (ha : JE X B H0 false sl a (.int i)) (hb : JE X B H0 false sl b (.int j)) : JE X B H0 m sl (.Compare a [.Gt] [b] pos) (.bl (decide (j < i))) := je_c2 op_gt (nomark _) ha hb
theorem je_ge {i j : Int} (ha : JE X B H0 false sl a (.int i)) (hb : JE X B H0 false sl b (.int j)) : JE X B H0 m sl (.Compare a [.GtE] [b] pos) (.bl (decide (j ≤ i))) := je_c2 op_ge (nomark _) ha hb
theorem jt_lt {i j : Int} (ha : JE X B H0 false sl a (.int i)) (hb : JE X B H0 false sl b (.int j)) : JT X B H0 sl (.Compare a [.Lt] [b] pos) (decide (i < j)) := jt_c2 op_lt (nomark _) ha hb
theorem jt_le {i j : Int} (ha : JE X B H0 false sl a (.int i)) (hb : JE X B H0 false sl b (.int j)) : JT X B H0 sl (.Compare a [.LtE] [b] pos) (decide (i ≤ j)) := jt_c2 op_le (nomark _) ha hb
theorem jt_gt {i j : Int} (ha : JE X B H0 false sl a (.int i)) (hb : JE X B H0 false sl b (.int j)) : JT X B H0 sl (.Compare a [.Gt] [b] pos) (decide (j < i)) := jt_c2 op_gt (nomark _) ha hb
theorem jt_ge {i j : Int} (ha : JE X B H0 false sl a (.int i)) (hb : JE X B H0 false sl b (.int j)) : JT X B H0 sl (.Compare a [.GtE] [b] pos) (decide (j ≤ i)) := jt_c2 op_ge (nomark _) ha hb
/-- scalars -/
def scD : D → Option V
  | .non => some .non | .bl b => some (.bl b) | .int i => some (.int i) | .str x => some (.str x) | _ => none
theorem scD.rp {K : PySem.W.Frag} {A : Addr → Prop} {H : Hp} {d : D} {v w : V} (h : scD d = some w) (r : Rp K A H d v) : v = w := by
  cases d with
  | non => cases h; exact r
  | bl b => cases h; exact r
  | int b => cases h; exact r
  | str b => cases h; exact r
  | _ => cases h
theorem je_eqS {da db : D} {v w : V} (ha : JE X B H0 false sl a da) (hb : JE X B H0 false sl b db) (h1 : scD da = some v) (h2 : scD db = some w) (h3 : scal v w = true) : JE X B H0 m sl (.Compare a [.Eq] [b] pos) (.bl (decide (v = w))) := ⟨fun gh as σ H Q S q =>
  PEt (pe_cmpR op_eq pe_w pe_w (nomark _)) (ha.run gh as σ H _ S fun x H1 s1 r1 => hb.run gh as σ H1 _ (S.same s1) fun y H2 s2 r2 => by
    cases scD.rp h1 r1; cases scD.rp h2 r2
    exact ⟨h3, q _ H2 (s1.trans s2) rfl⟩)⟩
theorem je_neS {da db : D} {v w : V} (ha : JE X B H0 false sl a da) (hb : JE X B H0 false sl b db) (h1 : scD da = some v) (h2 : scD db = some w) (h3 : scal v w = true) : JE X B H0 m sl (.Compare a [.NotEq] [b] pos) (.bl (!decide (v = w))) := ⟨fun gh as σ H Q S q =>
  PEt (pe_cmpR op_ne pe_w pe_w (nomark _)) (ha.run gh as σ H _ S fun x H1 s1 r1 => hb.run gh as σ H1 _ (S.same s1) fun y H2 s2 r2 => by
    cases scD.rp h1 r1; cases scD.rp h2 r2
    exact ⟨h3, q _ H2 (s1.trans s2) rfl⟩)⟩
theorem jt_eqS {da db : D} {v w : V} (ha : JE X B H0 false sl a da) (hb : JE X B H0 false sl b db) (h1 : scD da = some v) (h2 : scD db = some w) (h3 : scal v w = true) : JT X B H0 sl (.Compare a [.Eq] [b] pos) (decide (v = w)) := ⟨fun gh as σ H Q S q =>
  PTt (pt_cmpR op_eq pe_w pe_w (nomark _)) (ha.run gh as σ H _ S fun x H1 s1 r1 => hb.run gh as σ H1 _ (S.same s1) fun y H2 s2 r2 => by
    cases scD.rp h1 r1; cases scD.rp h2 r2
    exact ⟨h3, _, rfl, q H2 (s1.trans s2)⟩)⟩
theorem jt_neS {da db : D} {v w : V} (ha : JE X B H0 false sl a da) (hb : JE X B H0 false sl b db) (h1 : scD da = some v) (h2 : scD db = some w) (h3 : scal v w = true) : JT X B H0 sl (.Compare a [.NotEq] [b] pos) (!decide (v = w)) := ⟨fun gh as σ H Q S q =>
  PTt (pt_cmpR op_ne pe_w pe_w (nomark _)) (ha.run gh as σ H _ S fun x H1 s1 r1 => hb.run gh as σ H1 _ (S.same s1) fun y H2 s2 r2 => by
    cases scD.rp h1 r1; cases scD.rp h2 r2
    exact ⟨h3, _, rfl, q H2 (s1.trans s2)⟩)⟩
theorem dec_vint {i j : Int} : decide (V.int i = V.int j) = decide (i = j) := by
  by_cases h : i = j
  · subst h; simp
  · rw [decide_eq_false h, decide_eq_false]; exact fun q => h (V.int.inj q)
theorem dec_vstr {i j : Str} : decide (V.str i = V.str j) = decide (i = j) := by
  by_cases h : i = j
  · subst h; simp
  · rw [decide_eq_false h, decide_eq_false]; exact fun q => h (V.str.inj q)
theorem dec_vbl {i j : Bool} : decide (V.bl i = V.bl j) = decide (i = j) := by
  by_cases h : i = j
  · subst h; simp
  · rw [decide_eq_false h, decide_eq_false]; exact fun q => h (V.bl.inj q)
theorem je_eqI {i j : Int} (ha : JE X B H0 false sl a (.int i)) (hb : JE X B H0 false sl b (.int j)) : JE X B H0 m sl (.Compare a [.Eq] [b] pos) (.bl (decide (i = j))) := by
  rw [← dec_vint]; exact je_eqS ha hb rfl rfl rfl
theorem je_neI {i j : Int} (ha : JE X B H0 false sl a (.int i)) (hb : JE X B H0 false sl b (.int j)) : JE X B H0 m sl (.Compare a [.NotEq] [b] pos) (.bl (!decide (i = j))) := by
  rw [← dec_vint]; exact je_neS ha hb rfl rfl rfl
theorem jt_eqI {i j : Int} (ha : JE X B H0 false sl a (.int i)) (hb : JE X B H0 false sl b (.int j)) : JT X B H0 sl (.Compare a [.Eq] [b] pos) (decide (i = j)) := by
  rw [← dec_vint]; exact jt_eqS ha hb rfl rfl rfl
theorem jt_neI {i j : Int} (ha : JE X B H0 false sl a (.int i)) (hb : JE X B H0 false sl b (.int j)) : JT X B H0 sl (.Compare a [.NotEq] [b] pos) (!decide (i = j)) := by
  rw [← dec_vint]; exact jt_neS ha hb rfl rfl rfl
theorem je_eqT {i j : Str} (ha : JE X B H0 false sl a (.str i)) (hb : JE X B H0 false sl b (.str j)) : JE X B H0 m sl (.Compare a [.Eq] [b] pos) (.bl (decide (i = j))) := by
  rw [← dec_vstr]; exact je_eqS ha hb rfl rfl rfl
theorem je_neT {i j : Str} (ha : JE X B H0 false sl a (.str i)) (hb : JE X B H0 false sl b (.str j)) : JE X B H0 m sl (.Compare a [.NotEq] [b] pos) (.bl (!decide (i = j))) := by
  rw [← dec_vstr]; exact je_neS ha hb rfl rfl rfl
theorem jt_eqT {i j : Str} (ha : JE X B H0 false sl a (.str i)) (hb : JE X B H0 false sl b (.str j)) : JT X B H0 sl (.Compare a [.Eq] [b] pos) (decide (i = j)) := by
  rw [← dec_vstr]; exact jt_eqS ha hb rfl rfl rfl
theorem jt_neT {i j : Str} (ha : JE X B H0 false sl a (.str i)) (hb : JE X B H0 false sl b (.str j)) : JT X B H0 sl (.Compare a [.NotEq] [b] pos) (!decide (i = j)) := by
  rw [← dec_vstr]; exact jt_neS ha hb rfl rfl rfl
theorem je_eqB {i j : Bool} (ha : JE X B H0 false sl a (.bl i)) (hb : JE X B H0 false sl b (.bl j)) : JE X B H0 m sl (.Compare a [.Eq] [b] pos) (.bl (decide (i = j))) := by
  rw [← dec_vbl]; exact je_eqS ha hb rfl rfl rfl
theorem jt_eqB {i j : Bool} (ha : JE X B H0 false sl a (.bl i)) (hb : JE X B H0 false sl b (.bl j)) : JT X B H0 sl (.Compare a [.Eq] [b] pos) (decide (i = j)) := by
  rw [← dec_vbl]; exact jt_eqS ha hb rfl rfl rfl
theorem jt_neB {i j : Bool} (ha : JE X B H0 false sl a (.bl i)) (hb : JE X B H0 false sl b (.bl j)) : JT X B H0 sl (.Compare a [.NotEq] [b] pos) (!decide (i = j)) := by
  rw [← dec_vbl]; exact jt_neS ha hb rfl rfl rfl
/-- a < b < c and its like -/
theorem jt_chI {op op' : CmpOp} {c : Expr} {g g' : Int → Int → Bool} {i j k : Int} (ho : OpR X (compareOp op) (rI0 fun i j => .bl (g i j))) (ho' : OpR X (compareOp op') (rI0 fun i j => .bl (g' i j)))
    (ha : JE X B H0 false sl a (.int i)) (hb : JE X B H0 false sl b (.int j)) (hc : JE X B H0 false sl c (.int k)) (hm : lastMarks [op, op'] [b, c] = false := by with_unfolding_all rfl) : JT X B H0 sl (.Compare a [op, op'] [b, c] pos) (g i j && g' j k) := ⟨fun gh as σ H Q S q =>
  PTt (pt_chain ho ho' pe_w pe_w pe_w (hm := hm)) (ha.run gh as σ H _ S fun x H1 s1 r1 => hb.run gh as σ H1 _ (S.same s1) fun y H2 s2 r2 => ⟨i, j, r1, r2, g i j, rfl, by
    cases h : g i j with
    | true =>
      refine hc.run gh as σ H2 _ (S.same (s1.trans s2)) fun z H3 s3 r3 => ⟨j, k, r2, r3, _, rfl, ?_⟩
      have := q H3 ((s1.trans s2).trans s3)
      rw [h] at this
      exact this
    | false =>
      have := q H2 (s1.trans s2)
      rw [h] at this
      exact ⟨false, rfl, this⟩⟩)⟩
theorem je_chI {op op' : CmpOp} {c : Expr} {g g' : Int → Int → Bool} {i j k : Int} (ho : OpR X (compareOp op) (rI0 fun i j => .bl (g i j))) (ho' : OpR X (compareOp op') (rI0 fun i j => .bl (g' i j)))
    (ha : JE X B H0 false sl a (.int i)) (hb : JE X B H0 false sl b (.int j)) (hc : JE X B H0 false sl c (.int k)) (hm : lastMarks [op, op'] [b, c] = false := by with_unfolding_all rfl) : JE X B H0 m sl (.Compare a [op, op'] [b, c] pos) (.bl (g i j && g' j k)) := ⟨fun gh as σ H Q S q =>
  PEt (pe_chain ho ho' pe_w pe_w pe_w (hm := hm)) (ha.run gh as σ H _ S fun x H1 s1 r1 => hb.run gh as σ H1 _ (S.same s1) fun y H2 s2 r2 => ⟨i, j, r1, r2, g i j, rfl, by
    cases h : g i j with
    | true =>
      refine hc.run gh as σ H2 _ (S.same (s1.trans s2)) fun z H3 s3 r3 => ⟨j, k, r2, r3, ?_⟩
      have := q (.bl (g i j && g' j k)) H3 ((s1.trans s2).trans s3) rfl
      rw [h] at this
      exact this
    | false =>
      have := q (.bl (g i j && g' j k)) H2 (s1.trans s2) rfl
      rw [h] at this
      exact this⟩)⟩
/-! tests -/
theorem JW.jt {v : Bool} (h : JW X B H0 sl e v) : JT X B H0 sl e v := ⟨fun gh as σ H Q S q => PTt (PW.pt pw_w) (h.run gh as σ H _ S q)⟩
theorem jt_val {v : Bool} (h : JE X B H0 false sl e (.bl v)) (he : ∀ whole, isTrue e X.env whole = (do let v ← whole; standAt e.pos; holding [v] (truthy v)) := by intro _; rfl) : JT X B H0 sl e v := ⟨fun gh as σ H Q S q =>
  PTt (pt_val pe_w he) (h.run gh as σ H _ S fun x H1 s1 r1 => ⟨v, r1, q H1 s1⟩)⟩
theorem jt_not {v : Bool} (h : JT X B H0 sl a v) : JT X B H0 sl (.UnaryOp .Not a pos) (!v) := ⟨fun gh as σ H Q S q => PTt (pt_not pt_w) (h.run gh as σ H _ S fun H1 s1 => q H1 s1)⟩
theorem jw_and1 {v : Bool} (h : JT X B H0 sl a v) : JW X B H0 sl (.BoolOp .And [a] pos) v := ⟨fun gh as σ H Q S q => PWt (pw_and1 pt_w) (h.run gh as σ H _ S q)⟩
theorem jw_or1 {v : Bool} (h : JT X B H0 sl a v) : JW X B H0 sl (.BoolOp .Or [a] pos) v := ⟨fun gh as σ H Q S q => PWt (pw_or1 pt_w) (h.run gh as σ H _ S q)⟩
theorem jw_and {rest : List Expr} {v w : Bool} (h : JT X B H0 sl a v) (h2 : v = true → JW X B H0 sl (.BoolOp .And (b :: rest) pos) w) : JW X B H0 sl (.BoolOp .And (a :: b :: rest) pos) (v && w) := ⟨fun gh as σ H Q S q =>
  PWt (pw_and pt_w pw_w) (h.run gh as σ H _ S fun H1 s1 => by
    cases v with
    | true => exact (h2 rfl).run gh as σ H1 _ (S.same s1) fun H2 s2 => q H2 (s1.trans s2)
    | false => exact q H1 s1)⟩
theorem jw_or {rest : List Expr} {v w : Bool} (h : JT X B H0 sl a v) (h2 : v = false → JW X B H0 sl (.BoolOp .Or (b :: rest) pos) w) : JW X B H0 sl (.BoolOp .Or (a :: b :: rest) pos) (v || w) := ⟨fun gh as σ H Q S q =>
  PWt (pw_or pt_w pw_w) (h.run gh as σ H _ S fun H1 s1 => by
    cases v with
    | false => exact (h2 rfl).run gh as σ H1 _ (S.same s1) fun H2 s2 => q H2 (s1.trans s2)
    | true => exact q H1 s1)⟩
theorem je_one {op : BoolOp} (h : JE X B H0 m sl a d) : JE X B H0 m sl (.BoolOp op [a] pos) d := ⟨fun gh as σ H Q S q => PEt (pe_one pe_w) (h.run gh as σ H _ S q)⟩
theorem je_and {rest : List Expr} {v w : Bool} (h : JE X B H0 false sl a (.bl v)) (h2 : v = true → JE X B H0 false sl (.BoolOp .And (b :: rest) pos) (.bl w)) : JE X B H0 m sl (.BoolOp .And (a :: b :: rest) pos) (.bl (v && w)) := ⟨fun gh as σ H Q S q =>
  PEt (pe_and pe_w pe_w) (h.run gh as σ H _ S fun x H1 s1 r1 => ⟨v, r1, by
    cases v with
    | true => exact (h2 rfl).run gh as σ H1 _ (S.same s1) fun y H2 s2 r2 => q y H2 (s1.trans s2) r2
    | false => exact q _ H1 s1 rfl⟩)⟩
theorem je_or {rest : List Expr} {v w : Bool} (h : JE X B H0 false sl a (.bl v)) (h2 : v = false → JE X B H0 false sl (.BoolOp .Or (b :: rest) pos) (.bl w)) : JE X B H0 m sl (.BoolOp .Or (a :: b :: rest) pos) (.bl (v || w)) := ⟨fun gh as σ H Q S q =>
  PEt (pe_or pe_w pe_w) (h.run gh as σ H _ S fun x H1 s1 r1 => ⟨v, r1, by
    cases v with
    | false => exact (h2 rfl).run gh as σ H1 _ (S.same s1) fun y H2 s2 r2 => q y H2 (s1.trans s2) r2
    | true => exact q _ H1 s1 rfl⟩)⟩
theorem je_not {v : Bool} (h : JE X B H0 false sl a (.bl v)) : JE X B H0 m sl (.UnaryOp .Not a pos) (.bl (!v)) := ⟨fun gh as σ H Q S q =>
  PEt (pe_not pe_w) (h.run gh as σ H _ S fun x H1 s1 r1 => ⟨v, r1, q _ H1 s1 rfl⟩)⟩
theorem je_ife {c : Expr} {v : Bool} (h : JT X B H0 sl c v) (h1 : v = true → JE X B H0 m sl a d) (h2 : v = false → JE X B H0 m sl b d) : JE X B H0 m sl (.IfExp c a b pos) d := ⟨fun gh as σ H Q S q =>
  PEt (pe_ifExp pt_w pe_w pe_w) (h.run gh as σ H _ S fun H1 s1 => by
    cases v with
    | true => exact (h1 rfl).run gh as σ H1 _ (S.same s1) fun y H2 s2 r2 => q y H2 (s1.trans s2) r2
    | false => exact (h2 rfl).run gh as σ H1 _ (S.same s1) fun y H2 s2 r2 => q y H2 (s1.trans s2) r2)⟩
theorem je_isN {v : Bool} (h : JE X B H0 false sl a d) (hv : (match d with | .non => true | _ => false) = v) {j : Nat} {pos' : Pos} : JE X B H0 m sl (.Compare a [.Is] [.Constant .none j pos'] pos) (.bl v) := ⟨fun gh as σ H Q S q =>
  PEt (pe_cmpR op_isN pe_w pe_non (nomark _)) (h.run gh as σ H _ S fun x H1 s1 r1 => ⟨rfl, by
    have e : decide (x = V.non) = v := by
      subst hv
      cases d with
      | non => cases (show x = .non from r1); rfl
      | bl _ => cases (show x = .bl _ from r1); rfl
      | int _ => cases (show x = .int _ from r1); rfl
      | str _ => cases (show x = .str _ from r1); rfl
      | rf _ => cases (show x = .ref _ from r1); rfl
      | tup _ => obtain ⟨_, _, rfl, _⟩ := r1; rfl
      | lst _ => obtain ⟨_, _, rfl, _⟩ := r1; rfl
      | fro _ => obtain ⟨_, _, rfl, _⟩ := r1; rfl
      | dct _ _ => obtain ⟨_, _, rfl, _⟩ := r1; rfl
      | frd _ _ => obtain ⟨_, _, rfl, _⟩ := r1; rfl
    rw [e]
    exact q _ H1 s1 rfl⟩)⟩
theorem je_notN {v : Bool} (h : JE X B H0 false sl a d) (hv : (match d with | .non => false | _ => true) = v) {j : Nat} {pos' : Pos} : JE X B H0 m sl (.Compare a [.IsNot] [.Constant .none j pos'] pos) (.bl v) := ⟨fun gh as σ H Q S q =>
  PEt (pe_cmpR op_notN pe_w pe_non (nomark _)) (h.run gh as σ H _ S fun x H1 s1 r1 => ⟨rfl, by
    have e : (!decide (x = V.non)) = v := by
      subst hv
      cases d with
      | non => cases (show x = .non from r1); rfl
      | bl _ => cases (show x = .bl _ from r1); rfl
      | int _ => cases (show x = .int _ from r1); rfl
      | str _ => cases (show x = .str _ from r1); rfl
      | rf _ => cases (show x = .ref _ from r1); rfl
      | tup _ => obtain ⟨_, _, rfl, _⟩ := r1; rfl
      | lst _ => obtain ⟨_, _, rfl, _⟩ := r1; rfl
      | fro _ => obtain ⟨_, _, rfl, _⟩ := r1; rfl
      | dct _ _ => obtain ⟨_, _, rfl, _⟩ := r1; rfl
      | frd _ _ => obtain ⟨_, _, rfl, _⟩ := r1; rfl
    rw [e]
    exact q _ H1 s1 rfl⟩)⟩
end
end PD
namespace PD
open PySem PySem.Spec PyProof.Rows L2
variable [TN]
/-! ### what a def promises -/
inductive Out where
  | ok (d : D) | fr (d : D) | er (c : Addr)
abbrev FS := List D → Out → Prop
def spF (K : PySem.W.Frag) (F : FS) : Sp := fun vs H Q E => ∃ (B : Addr → Prop) (ds : List D) (o : Out), (∀ a, B a → ∃ u, H a = some u) ∧ RpL K B H ds vs ∧ F ds o ∧
  (∀ d, o = .ok d → ∀ v H', Same H H' → Rp K B H' d v → Q v H') ∧ (∀ d, o = .fr d → ∀ p H', Same H H' → H p = none → RpO K (A1 B p) H' p d → Q (.ref p) H') ∧
  (∀ c, o = .er c → ∀ H', Same H H' → E (.ref c) none H')
theorem Same.new {H : Hp} {p : Addr} {o : HO} (h : H p = none) : Same H (upd H p o) := .all fun a u e => by
  rw [upd_ne (ne_of_none e h)]
  exact e
section
variable {X : Cx} {B : Addr → Prop} {H0 : Hp} {m m1 m2 : Bool} {sl : List Sl} {e a b : Expr} {es : List Expr} {d da db : D} {ds : List D} {pos : Pos}
/-! arguments -/
theorem ja_nil : JA X B H0 m sl [] [] := ⟨fun gh as σ H Q S q => PAt pa_nil (q [] H (Same.refl H) rfl)⟩
theorem ja_cons (ha : JE X B H0 m sl e d) (hr : JA X B H0 m sl es ds) (hs : starEach (e :: es) X.env = (false, eval e X.env) :: starEach es X.env := by rfl) : JA X B H0 m sl (e :: es) (d :: ds) := ⟨fun gh as σ H Q S q =>
  PAt (pa_cons pe_w pa_w hs) (ha.run gh as σ H _ S fun x H1 s1 r1 => hr.run gh as σ H1 _ (S.same s1) fun xs H2 s2 r2 => q _ H2 (s1.trans s2) ⟨x, xs, rfl, r1.stp (.of s2), r2⟩)⟩
/-! displays -/
theorem je_tup {x1 : Nat} (h : JA X B H0 m sl es ds) (hl : ds.length ≤ sizeLine := by exact Nat.le_of_ble_eq_true rfl) : JE X B H0 m sl (.Tuple es x1 pos) (.tup ds) := ⟨fun gh as σ H Q S q =>
  PEt (pe_tup pa_w) (h.run gh as σ H _ S fun xs H1 s1 r1 => ⟨by rw [r1.len]; exact hl, fun p hp => q _ _ (s1.trans (Same.new hp)) ⟨p, xs, rfl, upd_same, r1.stp (.of (Same.new hp))⟩⟩)⟩
theorem RpL.A1 {K : PySem.W.Frag} {A : Addr → Prop} {H : Hp} {p : Addr} {xs : List V} (r : RpL K A H ds xs) (hp : H p = none) : RpL K (PD.A1 A p) H ds xs := r.more fun a o h ho => by
  rcases h with h | h
  · exact h
  · rw [h, hp] at ho
    cases ho
theorem jf_lst (h : JA X B H0 true sl es ds) (hl : ds.length ≤ sizeLine := by exact Nat.le_of_ble_eq_true rfl) : JF X B H0 sl (.List es pos) (.lst ds) := ⟨fun gh as σ H Q S q =>
  PEt (pe_lst pa_w) (h.run gh as σ H _ S fun xs H1 s1 r1 => ⟨by rw [r1.len]; exact hl, fun p hp => q p _ (s1.trans (Same.new hp)) (s1.free hp) ⟨xs, upd_same, (RpL.A1 r1 hp).stp (.of (Same.new hp))⟩⟩)⟩
/-! subscripts -/
theorem rpl_at {K : PySem.W.Frag} {A : Addr → Prop} {H : Hp} {xs : List V} {i : Int} (r : RpL K A H ds xs) (h : atI ds i = some d) : ∃ x, atI xs i = some x ∧ Rp K A H d x := by
  unfold atI at h ⊢
  rw [r.len]
  cases hj : ixN ds.length i with
  | none => rw [hj] at h; cases h
  | some j =>
    rw [hj] at h
    exact r.get h
theorem je_ixL {i : Int} (ha : JE X B H0 m sl a da) (hb : JE X B H0 false sl b (.int i)) (hr : RdL da ds) (h : atI ds i = some d) (hp : PlainIx b := by exact fun _ _ => rfl) : JE X B H0 m sl (.Subscript a b pos) d := ⟨fun gh as σ H Q S q =>
  PEt (pe_ix ix_list pe_w pe_w hp) (ha.run gh as σ H _ S fun x H1 s1 r1 => hb.run gh as σ H1 _ (S.same s1) fun y H2 s2 r2 => by
    obtain ⟨p, xs, rfl, hs, hl⟩ := hr.seq (r1.stp (.of s2))
    obtain ⟨z, e1, e2⟩ := rpl_at hl h
    exact ⟨p, xs, i, z, rfl, r2, hs, e1, q _ H2 (s1.trans s2) e2⟩)⟩
theorem je_ixT {i : Int} (ha : JE X B H0 m sl a (.tup ds)) (hb : JE X B H0 false sl b (.int i)) (h : atI ds i = some d) (hp : PlainIx b := by exact fun _ _ => rfl) : JE X B H0 m sl (.Subscript a b pos) d := ⟨fun gh as σ H Q S q =>
  PEt (pe_ix ix_tup pe_w pe_w hp) (ha.run gh as σ H _ S fun x H1 s1 r1 => hb.run gh as σ H1 _ (S.same s1) fun y H2 s2 r2 => by
    obtain ⟨p, xs, rfl, hs, hl⟩ := r1.stp (.of s2)
    obtain ⟨z, e1, e2⟩ := rpl_at hl h
    exact ⟨p, xs, i, z, rfl, r2, .inl (.inl hs), e1, q _ H2 (s1.trans s2) e2⟩)⟩
theorem je_ixS {i : Int} {z : Str} {c : Nat} (ha : JE X B H0 false sl a (.str z)) (hb : JE X B H0 false sl b (.int i)) (hl : z.length ≤ sizeLine) (h : atI z.cps.toList i = some c) (hp : PlainIx b := by exact fun _ _ => rfl) : JE X B H0 m sl (.Subscript a b pos) (.str ⟨#[c]⟩) := ⟨fun gh as σ H Q S q =>
  PEt (pe_ix ix_str pe_w pe_w hp) (ha.run gh as σ H _ S fun x H1 s1 r1 => hb.run gh as σ H1 _ (S.same s1) fun y H2 s2 r2 => ⟨z, i, c, r1, r2, hl, h, q _ H2 (s1.trans s2) rfl⟩)⟩
/-! built-ins -/
theorem je_cb {f x : Str} {id : String} {r : List V → Hp → VK → Prop} {p : Pos} (hc : CallR X (.builtin id) r) (hg : Gl X x) (hm : X.mg x = none) (hv : bootBuiltins x = some (.builtin id)) (ha : JA X B H0 m1 sl (e :: es) ds)
    (hr : ∀ as vs H Q, RpL X.K (Av B as m1) H ds vs → (∀ v H', Same H H' → Rp X.K (Av B as m) H' d v → Q v H') → r vs H Q) (hn : x ≠ "__name__" := by decide) (hdb : (x == ("__debug__" : Str)) = false := by decide)
    (he : starEach (e :: es) X.env = (false, eval e X.env) :: starEach es X.env := by rfl) (hpl : (backTo pos (starEach es X.env)).any (·.1) = false := by rfl) : JE X B H0 m sl (.Call (.Name x p) (e :: es) [] pos) d := ⟨fun gh as σ H Q S q =>
  PEt (pe_callB hc hg hm hv pa_w hn hdb he hpl) (ha.run gh as σ H _ S fun vs H1 s1 r1 => hr as vs H1 _ r1 fun v H2 s2 r2 => q v H2 (s1.trans s2) r2)⟩
theorem je_cty {x : Str} {T : String} {r : List V → Hp → VK → Prop} {p : Pos} (hc : CallR X (.type T) r) (hg : Gl X x) (hm : X.mg x = none) (hv : bootBuiltins x = some (.type T)) (ha : JA X B H0 m1 sl (e :: es) ds)
    (hr : ∀ as vs H Q, RpL X.K (Av B as m1) H ds vs → (∀ v H', Same H H' → Rp X.K (Av B as m) H' d v → Q v H') → r vs H Q) (hn : x ≠ "__name__" := by decide) (hdb : (x == ("__debug__" : Str)) = false := by decide)
    (he : starEach (e :: es) X.env = (false, eval e X.env) :: starEach es X.env := by rfl) (hpl : (backTo pos (starEach es X.env)).any (·.1) = false := by rfl) : JE X B H0 m sl (.Call (.Name x p) (e :: es) [] pos) d := ⟨fun gh as σ H Q S q =>
  PEt (pe_callTy hc hg hm hv pa_w hn hdb he hpl) (ha.run gh as σ H _ S fun vs H1 s1 r1 => hr as vs H1 _ r1 fun v H2 s2 r2 => q v H2 (s1.trans s2) r2)⟩
end
end PD
namespace PD
open PySem PySem.Spec PyProof.Rows L2
variable [TN]
section
variable {X : Cx} {B : Addr → Prop} {H0 : Hp} {m m1 m2 : Bool} {sl : List Sl} {e a b : Expr} {es : List Expr} {d da db : D} {ds : List D} {pos p p2 : Pos}
theorem jf_cb {x : Str} {id : String} {r : List V → Hp → VK → Prop} (hc : CallR X (.builtin id) r) (hg : Gl X x) (hm : X.mg x = none) (hv : bootBuiltins x = some (.builtin id)) (ha : JA X B H0 m sl (e :: es) ds)
    (hr : ∀ as vs H Q, RpL X.K (Av B as m) H ds vs → (∀ p H', H p = none → Same H H' → RpO X.K (A1 (AOf B as) p) H' p d → Q (.ref p) H') → r vs H Q) (hn : x ≠ "__name__" := by decide) (hdb : (x == ("__debug__" : Str)) = false := by decide)
    (he : starEach (e :: es) X.env = (false, eval e X.env) :: starEach es X.env := by rfl) (hpl : (backTo pos (starEach es X.env)).any (·.1) = false := by rfl) : JF X B H0 sl (.Call (.Name x p) (e :: es) [] pos) d := ⟨fun gh as σ H Q S q =>
  PEt (pe_callB hc hg hm hv pa_w hn hdb he hpl) (ha.run gh as σ H _ S fun vs H1 s1 r1 => hr as vs H1 _ r1 fun v H2 hp s2 r2 => q v H2 (s1.trans s2) (s1.free hp) r2)⟩
theorem jf_cty {x : Str} {T : String} {r : List V → Hp → VK → Prop} (hc : CallR X (.type T) r) (hg : Gl X x) (hm : X.mg x = none) (hv : bootBuiltins x = some (.type T)) (ha : JA X B H0 m sl (e :: es) ds)
    (hr : ∀ as vs H Q, RpL X.K (Av B as m) H ds vs → (∀ p H', H p = none → Same H H' → RpO X.K (A1 (AOf B as) p) H' p d → Q (.ref p) H') → r vs H Q) (hn : x ≠ "__name__" := by decide) (hdb : (x == ("__debug__" : Str)) = false := by decide)
    (he : starEach (e :: es) X.env = (false, eval e X.env) :: starEach es X.env := by rfl) (hpl : (backTo pos (starEach es X.env)).any (·.1) = false := by rfl) : JF X B H0 sl (.Call (.Name x p) (e :: es) [] pos) d := ⟨fun gh as σ H Q S q =>
  PEt (pe_callTy hc hg hm hv pa_w hn hdb he hpl) (ha.run gh as σ H _ S fun vs H1 s1 r1 => hr as vs H1 _ r1 fun v H2 hp s2 r2 => q v H2 (s1.trans s2) (s1.free hp) r2)⟩
theorem je_abs {i : Int} (hg : Gl X "abs") (hm : X.mg "abs" = none) (ha : JA X B H0 false sl [a] [.int i]) (he : starEach [a] X.env = (false, eval a X.env) :: starEach [] X.env := by rfl) (hpl : (backTo pos (starEach [] X.env)).any (·.1) = false := by rfl) : JE X B H0 m sl (.Call (.Name "abs" p) [a] [] pos) (.int (if i < 0 then -i else i)) :=
  je_cb (f := "abs") call_abs hg hm boot_abs ha (he := he) (hpl := hpl) fun as vs H Q r q => by
    obtain ⟨x, r', rfl, h1, h2⟩ := r
    cases (show x = .int i from h1); cases (show r' = [] from h2)
    exact ⟨i, rfl, q _ H (Same.refl H) rfl⟩
theorem je_max2 {i j : Int} (hc : X.calm = true) (hg : Gl X "max") (hm : X.mg "max" = none) (ha : JA X B H0 false sl [a, b] [.int i, .int j]) (he : starEach [a, b] X.env = (false, eval a X.env) :: starEach [b] X.env := by rfl) (hpl : (backTo pos (starEach [b] X.env)).any (·.1) = false := by rfl) : JE X B H0 m sl (.Call (.Name "max" p) [a, b] [] pos) (.int (if j > i then j else i)) :=
  je_cb (f := "max") (call_max2 hc) hg hm boot_max ha (he := he) (hpl := hpl) fun as vs H Q r q => by
    obtain ⟨x, r', rfl, h1, y, r2, rfl, h2, h3⟩ := r
    cases (show x = .int i from h1); cases (show y = .int j from h2); cases (show r2 = [] from h3)
    exact ⟨i, j, rfl, q _ H (Same.refl H) rfl⟩
theorem je_min2 {i j : Int} (hc : X.calm = true) (hg : Gl X "min") (hm : X.mg "min" = none) (ha : JA X B H0 false sl [a, b] [.int i, .int j]) (he : starEach [a, b] X.env = (false, eval a X.env) :: starEach [b] X.env := by rfl) (hpl : (backTo pos (starEach [b] X.env)).any (·.1) = false := by rfl) : JE X B H0 m sl (.Call (.Name "min" p) [a, b] [] pos) (.int (if j < i then j else i)) :=
  je_cb (f := "min") (call_min2 hc) hg hm boot_min ha (he := he) (hpl := hpl) fun as vs H Q r q => by
    obtain ⟨x, r', rfl, h1, y, r2, rfl, h2, h3⟩ := r
    cases (show x = .int i from h1); cases (show y = .int j from h2); cases (show r2 = [] from h3)
    exact ⟨i, j, rfl, q _ H (Same.refl H) rfl⟩
theorem je_intB {k : Bool} (hg : Gl X "int") (hm : X.mg "int" = none) (ha : JA X B H0 false sl [a] [.bl k]) (he : starEach [a] X.env = (false, eval a X.env) :: starEach [] X.env := by rfl) (hpl : (backTo pos (starEach [] X.env)).any (·.1) = false := by rfl) : JE X B H0 m sl (.Call (.Name "int" p) [a] [] pos) (.int (if k then 1 else 0)) :=
  je_cty call_int1 hg hm boot_int ha (he := he) (hpl := hpl) fun as vs H Q r q => by
    obtain ⟨x, r', rfl, h1, h2⟩ := r
    cases (show x = .bl k from h1); cases (show r' = [] from h2)
    exact .inr ⟨k, rfl, q _ H (Same.refl H) rfl⟩
theorem je_strI {i : Int} (hg : Gl X "str") (hm : X.mg "str" = none) (ha : JA X B H0 false sl [a] [.int i]) (hl : i.natAbs.log2 < 1920) (he : starEach [a] X.env = (false, eval a X.env) :: starEach [] X.env := by rfl) (hpl : (backTo pos (starEach [] X.env)).any (·.1) = false := by rfl) : JE X B H0 m sl (.Call (.Name "str" p) [a] [] pos) (.str (toString i)) :=
  je_cty call_str_int hg hm boot_str ha (he := he) (hpl := hpl) fun as vs H Q r q => by
    obtain ⟨x, r', rfl, h1, h2⟩ := r
    cases (show x = .int i from h1); cases (show r' = [] from h2)
    exact ⟨i, rfl, hl, q _ H (Same.refl H) rfl⟩
theorem je_lenL (hg : Gl X "len") (hm : X.mg "len" = none) (ha : JA X B H0 false sl [a] [da]) (hr : RdL da ds) (he : starEach [a] X.env = (false, eval a X.env) :: starEach [] X.env := by rfl) (hpl : (backTo pos (starEach [] X.env)).any (·.1) = false := by rfl) : JE X B H0 m sl (.Call (.Name "len" p) [a] [] pos) (.int ds.length) :=
  je_cb (f := "len") call_len_seq hg hm PySem.boot_len ha (he := he) (hpl := hpl) fun as vs H Q r q => by
    obtain ⟨x, r', rfl, h1, h2⟩ := r
    cases (show r' = [] from h2)
    obtain ⟨p, xs, rfl, hs, hl⟩ := hr.seq h1
    exact ⟨p, xs, rfl, .inl hs, by rw [hl.len]; exact q _ H (Same.refl H) rfl⟩
theorem je_lenT (hg : Gl X "len") (hm : X.mg "len" = none) (ha : JA X B H0 false sl [a] [.tup ds]) (he : starEach [a] X.env = (false, eval a X.env) :: starEach [] X.env := by rfl) (hpl : (backTo pos (starEach [] X.env)).any (·.1) = false := by rfl) : JE X B H0 m sl (.Call (.Name "len" p) [a] [] pos) (.int ds.length) :=
  je_cb (f := "len") call_len_seq hg hm PySem.boot_len ha (he := he) (hpl := hpl) fun as vs H Q r q => by
    obtain ⟨x, r', rfl, h1, h2⟩ := r
    cases (show r' = [] from h2)
    obtain ⟨p, xs, rfl, hs, hl⟩ := h1
    exact ⟨p, xs, rfl, .inr (.inl (.inl hs)), by rw [hl.len]; exact q _ H (Same.refl H) rfl⟩
theorem je_lenS {z : Str} (hg : Gl X "len") (hm : X.mg "len" = none) (ha : JA X B H0 false sl [a] [.str z]) (hz : z.length ≤ sizeLine) (he : starEach [a] X.env = (false, eval a X.env) :: starEach [] X.env := by rfl) (hpl : (backTo pos (starEach [] X.env)).any (·.1) = false := by rfl) : JE X B H0 m sl (.Call (.Name "len" p) [a] [] pos) (.int z.length) :=
  je_cb (f := "len") call_len_str hg hm PySem.boot_len ha (he := he) (hpl := hpl) fun as vs H Q r q => by
    obtain ⟨x, r', rfl, h1, h2⟩ := r
    cases (show x = .str z from h1); cases (show r' = [] from h2)
    exact ⟨z, rfl, hz, q _ H (Same.refl H) rfl⟩
/-! isinstance -/
def tyD : D → String
  | .non => "NoneType" | .bl _ => "bool" | .int _ => "int" | .str _ => "str" | .tup _ => "tuple" | .lst _ => "list" | .fro _ => "list" | .dct _ _ => "dict" | .frd _ _ => "dict" | .rf _ => "function"
def noRf : D → Bool
  | .rf _ => false
  | .frd _ _ => false
  | _ => true
theorem tyD.ok {K : PySem.W.Frag} {A : Addr → Prop} {H : Hp} {v : V} (h : Rp K A H d v) (hr : noRf d = true) : TyX K H v (.type (tyD d)) := by
  cases d with
  | rf _ => cases hr
  | non => cases (show v = .non from h); exact .base .non
  | bl b => cases (show v = .bl b from h); exact .base (.bl b)
  | int b => cases (show v = .int b from h); exact .base (.int b)
  | str b => cases (show v = .str b from h); exact .base (.str b)
  | tup ds =>
    obtain ⟨a, xs, rfl, t, l⟩ := h
    exact .base (.tup t)
  | lst ds =>
    obtain ⟨a, xs, rfl, t, l⟩ := h
    exact .base (.lst t)
  | fro ds =>
    obtain ⟨a, xs, rfl, t, l⟩ := h
    rcases t with ⟨o, t⟩ | ⟨o, its, n, t, c, _⟩
    · exact .base (.frz t)
    · exact .kList t c
  | dct ks ds =>
    obtain ⟨a, xs, rfl, t, l⟩ := h
    exact .base (.dT t)
  | frd _ _ => cases hr
/-- a builtin's class as an argument -/
theorem je_isi {c : Str} {n : String} {r : Bool} (hg : Gl X "isinstance") (hm : X.mg "isinstance" = none) (hg2 : Gl X c) (hm2 : X.mg c = none) (hv2 : bootBuiltins c = some (.type n)) (ha : JE X B H0 false sl a d) (hk : kitB (tyD d) n = some r)
    (hr : noRf d = true := by rfl) (hn : c ≠ "__name__" := by decide) (hdb : (c == ("__debug__" : Str)) = false := by decide)
    (he : starEach [a, .Name c p2] X.env = (false, eval a X.env) :: starEach [.Name c p2] X.env := by rfl) (he2 : starEach [.Name c p2] X.env = (false, eval (.Name c p2) X.env) :: starEach [] X.env := by rfl) (hpl : (backTo pos (starEach [.Name c p2] X.env)).any (·.1) = false := by rfl) :
    JE X B H0 m sl (.Call (.Name "isinstance" p) [a, .Name c p2] [] pos) (.bl r) := ⟨fun gh as σ H Q S q =>
  PEt (pe_callB call_isi hg hm boot_isinstance (pa_cons pe_w (pa_cons (pe_bltn (v := .ty n) hg2 hm2 hv2 rfl hn hdb) pa_nil he2) he) (by decide) (by decide) he hpl) (ha.run gh as σ H _ S fun x H1 s1 r1 =>
    ⟨x, .ty n, _, _, r, rfl, .ty n, tyD.ok r1 hr, kit_ty hk, q _ H1 s1 rfl⟩)⟩
end
end PD
namespace PD
open PySem PySem.Spec PyProof.Rows L2
variable [TN]
section
variable {X : Cx} {B : Addr → Prop} {H0 : Hp} {m m1 m2 : Bool} {sl sl' : List Sl} {e a b c : Expr} {es : List Expr} {d da db : D} {ds : List D} {pos p p2 px : Pos} {P : Po} {st : Stmt} {rest body : List Stmt} {x y : Str}
/-! ### targets -/
def tG (X : Cx) (tg : Expr) : TG := fun v σ H Q => ∀ pins s u, Inv X pins σ H s → RelV v u → wpAny (model X.prog X.w) X.A (assign tg X.env u) (fun _ s' => ∃ σ' H', Inv X pins σ' H' s' ∧ Q σ' H') X.xe s
theorem pg_w {tg : Expr} : PG X tg (tG X tg) := ⟨fun pins s _ _ _ u _ I r h => h pins s u I r⟩
theorem PGt {tg : Expr} {t : TG} (h : PG X tg t) {v : V} {σ : L2.St} {H : Hp} {Q : L2.St → Hp → Prop} (q : t v σ H Q) : tG X tg v σ H Q := fun pins s u I r => h.run pins s σ H v u Q I r q
/-- only the slots vs are written -/
def Fra (vs : List Nat) (σ σ' : L2.St) : Prop := σ'.length = σ.length ∧ ∀ (j : Nat), j ∉ vs → σ'[j]? = σ[j]?
/-- the target takes d: the slots behind; only the slots vs are written -/
structure JG (X : Cx) (B : Addr → Prop) (H0 : Hp) (vs : List Nat) (tg : Expr) (d : D) (sl sl' : List Sl) : Prop where
  run : ∀ gh as σ H v Q, SOK X.K B H0 gh as sl σ H → Rp X.K (AOf B as) H d v → (∀ as' σ', SOK X.K B H0 gh as' sl' σ' H → Fra vs σ σ' → (∀ a, AOf B as' a → AOf B as a) → Q σ' H) → tG X tg v σ H Q
theorem jg_name (i : Nat) {vs : List Nat} (hN : X.N.Nodup) (hi : X.N[i]? = some x) (hx : Loc X.env.scope x) (hv : i ∈ vs := by simp) (hf : X.fn x = true ∨ X.env.scope.names.lookup x = some .local := by first | exact .inl rfl | exact .inr rfl) : JG X B H0 vs (.Name x pos) d sl (sl.set i (.va d)) := ⟨fun gh as σ H v Q S r q =>
  PGt (pg_name hN hi hx hf) (q _ _ (S.put r) ⟨by rw [List.length_set], fun j hj => by rw [List.getElem?_set_ne (fun z : i = j => hj (by rw [← z]; exact hv))]⟩ fun a => AOf.unset a)⟩
/-- several names -/
structure JGs (X : Cx) (B : Addr → Prop) (H0 : Hp) (vs : List Nat) (tgs : List Expr) (ds : List D) (sl sl' : List Sl) : Prop where
  run : ∀ gh as σ H xs (us : List Value) pins s (Q : L2.St → Hp → Prop), SOK X.K B H0 gh as sl σ H → RpL X.K (AOf B as) H ds xs → (∀ as' σ', SOK X.K B H0 gh as' sl' σ' H → Fra vs σ σ' → (∀ a, AOf B as' a → AOf B as a) → Q σ' H) → Inv X pins σ H s → Vals xs us →
    wpAny (model X.prog X.w) X.A (assignInOrder ((assignEach tgs X.env).map (·.2)) us) (fun _ s' => ∃ σ' H', Inv X pins σ' H' s' ∧ Q σ' H') X.xe s
theorem jgs_nil {vs : List Nat} : JGs X B H0 vs [] [] sl sl := ⟨fun gh as σ H xs us pins s Q S r q I hv => by
  cases (show xs = [] from r)
  exact (pgs_nil (X := X)).run pins s σ H [] us Q I hv ⟨rfl, q as σ S ⟨rfl, fun _ _ => rfl⟩ fun _ h => h⟩⟩
def tGs (X : Cx) (tgs : List Expr) : TGs := fun xs σ H Q => ∀ pins s us, Inv X pins σ H s → Vals xs us → wpAny (model X.prog X.w) X.A (assignInOrder ((assignEach tgs X.env).map (·.2)) us) (fun _ s' => ∃ σ' H', Inv X pins σ' H' s' ∧ Q σ' H') X.xe s
theorem pgs_w {tgs : List Expr} : PGs X tgs (tGs X tgs) := ⟨fun pins s _ _ _ us _ I r h => h pins s us I r⟩
theorem jgs_cons {vs : List Nat} {tg : Expr} {tgs : List Expr} {sl1 : List Sl} (h1 : JG X B H0 vs tg d sl sl1) (h2 : JGs X B H0 vs tgs ds sl1 sl')
    (hs : (assignEach (tg :: tgs) X.env).map (·.2) = assign tg X.env :: (assignEach tgs X.env).map (·.2) := by rfl) : JGs X B H0 vs (tg :: tgs) (d :: ds) sl sl' := ⟨fun gh as σ H xs us pins s Q S r q I hv => by
  obtain ⟨z, zs, rfl, r1, r2⟩ := r
  refine (pgs_cons pg_w pgs_w hs).run pins s σ H (z :: zs) us Q I hv ⟨z, zs, rfl, ?_⟩
  refine h1.run gh as σ H z _ S r1 fun as' σ' S' k sb => ?_
  intro pins' s' us' I' hv'
  exact h2.run gh as' σ' H zs us' pins' s' Q S' (r2.anti sb) (fun as2 σ2 S2 k2 sb2 => q as2 σ2 S2 ⟨k2.1.trans k.1, fun j hj => (k2.2 j hj).trans (k.2 j hj)⟩ fun a h => sb a (sb2 a h)) I' hv'⟩
theorem jg_tup {vs : List Nat} {n k : Nat} (hc : X.calm = true) (h : JGs X B H0 vs es ds sl sl') (hl : ds.length = n) (hn : (assignEach es X.env).length = n := by rfl) (hst : (assignEach es X.env).findIdx? (·.1) = none := by rfl) : JG X B H0 vs (.Tuple es k pos) (.tup ds) sl sl' := ⟨fun gh as σ H v Q S r q => by
  obtain ⟨t, xs, rfl, ht, hx⟩ := r
  refine PGt (pg_tup hc pgs_w hn hst) ⟨t, xs, rfl, .inl (.inl ht), by rw [hx.len]; exact hl, fun pins s us I hv => ?_⟩
  exact h.run gh as σ H xs us pins s Q S hx q I hv⟩
/-! ### statements -/
theorem JS.to {P' : Po} (h : JS X B H0 sl st P) (hn : ∀ s, P.nx s → P'.nx s) (hr : ∀ d, P.rt d → P'.rt d) (hf : ∀ d, P.rf d → P'.rf d) (hb : ∀ s, P.bk s → P'.bk s) (hc : ∀ s, P.ct s → P'.ct s) : JS X B H0 sl st P' := ⟨fun gh as σ H S pins s I =>
  thn (h.run gh as σ H S pins s I) fun f s' q => SPm q (fun _ _ ⟨as, sl, p, S⟩ => ⟨as, sl, hn _ p, S⟩) (fun _ _ z => z.imp (fun ⟨d, p, q⟩ => ⟨d, hr _ p, q⟩) fun ⟨d, a, p, q⟩ => ⟨d, a, hf _ p, q⟩) (fun _ _ ⟨as, sl, p, S⟩ => ⟨as, sl, hb _ p, S⟩) (fun _ _ ⟨as, sl, p, S⟩ => ⟨as, sl, hc _ p, S⟩)⟩
theorem jss_nil (h : P.nx sl) : JSs X B H0 sl [] P := ⟨fun gh as σ H S => PSst pss_nil ⟨as, sl, h, S⟩⟩
theorem jss_cons (M : List Sl → Prop) (h : JS X B H0 sl st { P with nx := M }) (k : ∀ s, M s → JSs X B H0 s rest P) : JSs X B H0 sl (st :: rest) P := ⟨fun gh as σ H S => PSst (pss_cons ps_w pss_w) (fun pins s I =>
  thn (h.run gh as σ H S pins s I) fun f s' q => SPm q (fun σ' H' ⟨as', sl', p, S'⟩ => (k sl' p).run gh as' σ' H' S') (fun _ _ z => z) (fun _ _ z => z) (fun _ _ z => z))⟩
theorem jss_one (h : JS X B H0 sl st P) : JSs X B H0 sl [st] P := jss_cons P.nx h fun _ p => jss_nil p
theorem js_pass (h : P.nx sl) : JS X B H0 sl (.Pass pos) P := ⟨fun gh as σ H S => PSt ps_pass ⟨as, sl, h, S⟩⟩
theorem js_break (h : P.bk sl) : JS X B H0 sl (.Break pos) P := ⟨fun gh as σ H S => PSt ps_break ⟨as, sl, h, S⟩⟩
theorem js_cont (h : P.ct sl) : JS X B H0 sl (.Continue pos) P := ⟨fun gh as σ H S => PSt ps_continue ⟨as, sl, h, S⟩⟩
theorem js_ret (he : JE X B H0 m sl e d) (h : P.rt d) : JS X B H0 sl (.Return (some e) pos) P := ⟨fun gh as σ H S => PSt (ps_ret pe_w) (he.lo.run gh as σ H _ S fun v H1 s1 r1 => .inl ⟨d, h, S.ex.trans s1, r1⟩)⟩
theorem js_retN (h : P.rt .non) : JS X B H0 sl (.Return none pos) P := ⟨fun gh as σ H S => PSt ps_retN (.inl ⟨.non, h, S.ex, rfl⟩)⟩
theorem RpO.lo {K : PySem.W.Frag} {A A' : Addr → Prop} {H : Hp} {p : Addr} (h : RpO K A H p d) (s : ∀ a, A' a → A a) : RpO K A' H p d := h.to (fun _ q _ => q) fun r => r.anti s
theorem js_retF (he : JF X B H0 sl e d) (h : P.rf d) : JS X B H0 sl (.Return (some e) pos) P := ⟨fun gh as σ H S => PSt (ps_ret pe_w) (he.run gh as σ H _ S fun p H1 s1 hp r1 => .inr ⟨d, p, h, rfl, S.ex.trans s1, S.ex.free hp, r1.lo fun a ha => ha.imp .inl id⟩)⟩
/-- return of an own list -/
theorem js_retO (i : Nat) (hN : X.N[i]? = some x) (hv : Vis X.env.scope x) (hs : sl[i]? = some (.ow d)) (h : P.rf d) (hd : (x == ("__debug__" : Str)) = false := by decide) (hcd : (x == ("__classdict__" : Str)) = false := by decide) : JS X B H0 sl (.Return (some (.Name x p)) pos) P := ⟨fun gh as σ H S => by
  obtain ⟨q, e1, e2, e3, r⟩ := S.at hs
  exact PSt (ps_ret (pe_var hN hv hd hcd)) ⟨_, e1, .inr ⟨d, q, h, rfl, S.ex, e3, r.lo fun a ha => ha.elim .inl fun z => z ▸ .inr e2⟩⟩⟩
theorem js_if {v : Bool} (hc : JT X B H0 sl c v) (h1 : v = true → JSs X B H0 sl body P) (h2 : v = false → JSs X B H0 sl rest P) : JS X B H0 sl (.If c body rest pos) P := ⟨fun gh as σ H S => PSt (ps_if pt_w pss_w pss_w) (hc.run gh as σ H _ S fun H1 s1 => by
  cases v with
  | true => exact (h1 rfl).run gh as σ H1 (S.same s1)
  | false => exact (h2 rfl).run gh as σ H1 (S.same s1))⟩
theorem js_set (i : Nat) (hN : X.N.Nodup) (hi : X.N[i]? = some x) (hx : Loc X.env.scope x) (he : JE X B H0 true sl e d) (h : P.nx (sl.set i (.va d))) (hs : swapsWith e (some (.Name x px)) pos.line X.env = pure false := by rfl)
    (hf : X.fn x = true ∨ X.env.scope.names.lookup x = some .local := by first | exact .inl rfl | exact .inr rfl) : JS X B H0 sl (.Assign [.Name x px] e pos) P := ⟨fun gh as σ H S => PSt (ps_set hN hi hx pe_w hs hf) (he.run gh as σ H _ S fun v H1 s1 r1 => ⟨_, _, h, (S.same s1).put r1⟩)⟩
theorem js_setF (i : Nat) (hN : X.N.Nodup) (hi : X.N[i]? = some x) (hx : Loc X.env.scope x) (he : JF X B H0 sl e d) (h : P.nx (sl.set i (.ow d))) (hs : swapsWith e (some (.Name x px)) pos.line X.env = pure false := by rfl)
    (hf : X.fn x = true ∨ X.env.scope.names.lookup x = some .local := by first | exact .inl rfl | exact .inr rfl) : JS X B H0 sl (.Assign [.Name x px] e pos) P := ⟨fun gh as σ H S => PSt (ps_set hN hi hx pe_w hs hf) (he.run gh as σ H _ S fun q H1 s1 hq r1 => ⟨_, _, h, S.putO hq s1 r1⟩)⟩
/-- a, b = x, y -/
theorem js_par (i j : Nat) {pt pt2 py : Pos} {kt k2 : Nat} (hc : X.calm = true) (hN : X.N.Nodup) (hi : X.N[i]? = some x) (hj : X.N[j]? = some y) (hij : i ≠ j) (hx : X.env.scope.names.lookup x = some .local) (hy : X.env.scope.names.lookup y = some .local)
    (ha : JA X B H0 true sl [a, b] [da, db]) (h : P.nx ((sl.set i (.va da)).set j (.va db))) (hw : swappedStores [.Tuple [.Name x px, .Name y py] kt pt] (.Tuple [a, b] k2 pt2) X.env = pure (some [x, y]))
    (hs : swapsWithSole [.Tuple [.Name x px, .Name y py] kt pt] (.Tuple [a, b] k2 pt2) pos.line X.env = pure false := by rfl) : JS X B H0 sl (.Assign [.Tuple [.Name x px, .Name y py] kt pt] (.Tuple [a, b] k2 pt2) pos) P := ⟨fun gh as σ H S =>
  PSt (ps_par hc hN hi hj hij hx hy pa_w hw hs) (ha.run gh as σ H _ S fun vs H1 s1 r1 => by
    obtain ⟨z, r', rfl, r2, w, r3, rfl, r4, r5⟩ := r1
    cases (show r3 = [] from r5)
    exact ⟨z, w, rfl, _, _, h, ((S.same s1).put r2).put (r4.anti AOf.unset)⟩)⟩
/-- target = value -/
theorem js_asg {vs : List Nat} {tg : Expr} (he : JE X B H0 true sl e d) (hg : JG X B H0 vs tg d sl sl') (h : P.nx sl') (hs : swapsWithSole [tg] e pos.line X.env = pure false := by rfl) (hw : swappedStores [tg] e X.env = pure none := by rfl)
    (h1 : (assignEach [tg] X.env).map (·.2) = [assign tg X.env] := by rfl) : JS X B H0 sl (.Assign [tg] e pos) P := ⟨fun gh as σ H S => PSt (ps_asg pe_w pg_w hs hw h1) (he.run gh as σ H _ S fun v H1 s1 r1 => hg.run gh as σ H1 v _ (S.same s1) r1 fun as' σ' S' _ _ => ⟨as', _, h, S'⟩)⟩
/-- name += e on ints -/
theorem js_augI (i : Nat) {op : Operator} {f : Int → Int → Int} {n k : Int} (hN : X.N.Nodup) (hi : X.N[i]? = some x) (hx : Loc X.env.scope x) (ho : PIp X op (ipI f)) (hv : sl[i]? = some (.va (.int n))) (he : JE X B H0 false sl e (.int k)) (h : P.nx (sl.set i (.va (.int (f n k)))))
    (hf : X.fn x = true ∨ X.env.scope.names.lookup x = some .local := by first | exact .inl rfl | exact .inr rfl) : JS X B H0 sl (.AugAssign (.Name x px) op e pos) P := ⟨fun gh as σ H S => by
  obtain ⟨o, w, e1, e2, e3, v, e4, r⟩ := S.sls.get hv
  subst e4
  cases (show v = .int n from r)
  exact PSt (ps_aug hN hi hx pe_w ho hf) ⟨_, e1, he.run gh as σ H _ S fun z H1 s1 r1 => ⟨n, k, rfl, r1, _, _, h, (S.same s1).put rfl⟩⟩⟩
/-- a value is dropped -/
theorem js_drop (he : JE X B H0 m sl e d) (h : P.nx sl) (hs : swapsWith e none pos.line X.env = pure false := by rfl) : JS X B H0 sl (.Expr e pos) P := ⟨fun gh as σ H S => PSt (ps_expr pe_w hs) (he.run gh as σ H _ S fun v H1 s1 _ => ⟨as, sl, h, S.same s1⟩)⟩
/-- an own list is own no more -/
theorem jss_fz (i : Nat) {sts : List Stmt} (hs : sl[i]? = some (.ow d)) (h : JSs X B H0 (sl.set i (.va d)) sts P) : JSs X B H0 sl sts P := ⟨fun gh as σ H S => h.run gh _ σ H (S.fz hs)⟩
theorem jss_un (i : Nat) {sts : List Stmt} (h : JSs X B H0 (sl.set i .un) sts P) : JSs X B H0 sl sts P := ⟨fun gh as σ H S => h.run gh _ σ H (by
  have := S.drop (i := i) (o := σ[i]?.getD none)
  have e : σ.set i (σ[i]?.getD none) = σ := by
    apply List.ext_getElem?
    intro j
    by_cases z : i = j
    · subst z
      rw [List.getElem?_set]
      simp only [if_true]
      split
      · rename_i hl
        rw [List.getElem?_eq_getElem hl]
        rfl
      · rename_i hl
        rw [List.getElem?_eq_none_iff.mpr (by omega)]
    · rw [List.getElem?_set_ne z]
  rw [e] at this
  exact this)⟩
theorem jss_eq {sts : List Stmt} (q : sl = sl') (h : JSs X B H0 sl' sts P) : JSs X B H0 sl sts P := q ▸ h
/-! while -/
theorem js_while (W : Nat → List Sl → Prop) (m0 : Nat) (w0 : W m0 sl) (hp : PassesOwn (model X.prog X.w) X.A X.env X.xe)
    (step : ∀ n s, W n s → ∃ v, JT X B H0 s c v ∧ (v = true → JSs X B H0 s body { P with nx := fun s' => ∃ n', n' < n ∧ W n' s', ct := fun s' => ∃ n', n' < n ∧ W n' s', bk := P.nx }) ∧ (v = false → P.nx s)) : JS X B H0 sl (.While c body [] pos) P := ⟨fun gh as σ H S =>
  PSt (ps_while hp pt_w pss_w) ⟨fun n => stO X.K B H0 gh (W n), ⟨m0, as, sl, w0, S⟩, fun n σ' H' ⟨as', s, w, S'⟩ => by
    obtain ⟨v, h1, h2, h3⟩ := step n s w
    refine h1.run gh as' σ' H' _ S' fun H1 s1 => ?_
    cases v with
    | true =>
      show ∃ N : L2.St → Hp → Prop, _
      refine ⟨fun σ2 H2 => ∃ n', n' < n ∧ stO X.K B H0 gh (W n') σ2 H2, fun _ _ z => z, fun pins s I => ?_⟩
      refine thn ((h2 rfl).run gh as' σ' H1 (S'.same s1) pins s I) fun f s' q => SPm q (fun _ _ ⟨as, sl, ⟨n', l, p⟩, S⟩ => ⟨n', l, as, sl, p, S⟩) (fun _ _ z => z) (fun _ _ z => z) (fun _ _ ⟨as, sl, ⟨n', l, p⟩, S⟩ => ⟨n', l, as, sl, p, S⟩)
    | false => exact ⟨as', s, h3 rfl, S'.same s1⟩⟩⟩
/-! what is walked -/
def tI (X : Cx) (tg iter : Expr) : TI := fun σ H R => ∀ pins s, Inv X pins σ H s → wpAny (model X.prog X.w) X.A (eval iter X.env) (fun v s1 => wpAny (model X.prog X.w) X.A (pyIter v) (PIE X pins σ tg R) X.xe s1) X.xe s
theorem pi_w {tg iter : Expr} : PI X tg iter (tI X tg iter) := ⟨fun pins s _ _ _ I h => h pins s I⟩
theorem PIt {tg iter : Expr} {t : TI} (h : PI X tg iter t) {σ : L2.St} {H : Hp} {R : It → Hp → Prop} (q : t σ H R) : tI X tg iter σ H R := fun pins s I => h.run pins s σ H R I q
/-- J yields ds, as long as g is held -/
structure ItOk (K : PySem.W.Frag) (ds : List D) (g : G1) (J : It) : Prop where
  go : ∀ A k H, GhOK K A H g → k < ds.length → J.go k H ∧ ∀ x H', J.yld k H x H' → Same H H' ∧ ∃ d, ds[k]? = some d ∧ Rp K A H' d x
  stop : ∀ A H, GhOK K A H g → J.stop ds.length H
structure JI (X : Cx) (B : Addr → Prop) (H0 : Hp) (sl : List Sl) (tg iter : Expr) (ds : List D) : Prop where
  run : ∀ gh as σ H R, SOK X.K B H0 gh as sl σ H → (∀ J H1 g, Same H H1 → GhOK X.K (AOf B as) H1 g → ItOk X.K ds g J → R J H1) → tI X tg iter σ H R
end
end PD
namespace PD
open PySem PySem.Spec PyProof.Rows L2
variable [TN]
section
variable {X : Cx} {B : Addr → Prop} {H0 : Hp} {m m1 m2 : Bool} {sl sl' : List Sl} {e a b c tg iter : Expr} {es : List Expr} {d da db : D} {ds : List D} {pos p p2 px : Pos} {P : Po} {st : Stmt} {rest body : List Stmt} {x y : Str}
theorem js_for {vs : List Nat} (hp : PassesOwn (model X.prog X.w) X.A X.env X.xe) (hc : X.calm = true) (hi : JI X B H0 sl tg iter ds) (inv : Nat → List Sl → Prop) (h0 : inv 0 sl)
    (hs : ∀ (k : Nat) d s, ds[k]? = some d → inv k s → ∃ s', JG X B H0 vs tg d s s' ∧ JSs X B H0 s' body { P with nx := inv (k + 1), ct := inv (k + 1), bk := P.nx })
    (hd : ∀ s, inv ds.length s → P.nx s) (hfs : ∀ x, foldedSetIterable iter X.env x = pure x := by intro _; rfl) : JS X B H0 sl (.For tg iter body [] pos) P := ⟨fun gh as σ H S =>
  PSt (ps_for hp hc pi_w pg_w pss_w hfs) (hi.run gh as σ H _ S fun J H1 g s1 hg ok => ⟨fun i m σ' H' => m = ds.length - i ∧ i ≤ ds.length ∧ stO X.K B H0 (g :: gh) (inv i) σ' H', ⟨_, rfl, Nat.zero_le _, as, sl, h0, (S.same s1).ghost hg⟩, by
    rintro i m σ' H' ⟨rfl, hi, as', s, p, S'⟩
    have hG := S'.held g List.mem_cons_self
    by_cases hlt : i < ds.length
    · obtain ⟨go, yl⟩ := ok.go _ i H' hG hlt
      refine .inr ⟨go, fun σ2 H2 => i + 1 ≤ ds.length ∧ stO X.K B H0 (g :: gh) (inv (i + 1)) σ2 H2, fun σ2 H2 ⟨l, z⟩ => ⟨ds.length - (i + 1), by omega, rfl, l, z⟩, fun x H2 hy => ?_⟩
      obtain ⟨s2, d, hd, r⟩ := yl x H2 hy
      obtain ⟨s', hg', hb⟩ := hs i d s hd p
      refine hg'.run (g :: gh) as' σ' H2 x _ (S'.same s2) r fun as2 σ2 S2 _ _ => ?_
      intro pins sh I
      exact thn (hb.run (g :: gh) as2 σ2 H2 S2 pins sh I) fun f s' q => SPm q (fun _ _ z => ⟨hlt, z⟩) (fun _ _ z => z) (fun _ _ ⟨as, sl, p, S⟩ => ⟨as, sl, p, S.unghost⟩) (fun _ _ z => ⟨hlt, z⟩)
    · have e : i = ds.length := by omega
      subst e
      exact .inl ⟨ok.stop _ H' hG, as', s, hd s p, S'.unghost⟩⟩)⟩
theorem itok_l {K : PySem.W.Frag} {q : Addr} {xs : List V} {g : G1} (hs : ∀ A H, GhOK K A H g → SqL K H q xs) (hg : g.2 = (ds, xs)) : ItOk K ds g (Itl K q) where
  go A k H G hk := by
    have r := G.2
    rw [hg] at r
    have hl := r.len
    obtain ⟨x, hx, rx⟩ := r.get (i := k) (d := ds[k]) (by rw [List.getElem?_eq_getElem hk])
    refine ⟨⟨xs, x, hs A H G, hx⟩, fun y H' ⟨e, f⟩ => ?_⟩
    subst e
    have := f xs (hs A _ G)
    have hxy : y = x := Option.some.inj (this.symm.trans hx)
    subst hxy
    exact ⟨Same.refl _, ds[k], by rw [List.getElem?_eq_getElem hk], rx⟩
  stop A H G := by
    have r := G.2
    rw [hg] at r
    exact ⟨xs, hs A H G, by rw [r.len]; exact Nat.le_refl _⟩
theorem itok_t {K : PySem.W.Frag} {q : Addr} {xs : List V} {g : G1} (hs : ∀ A H, GhOK K A H g → SqT K H q xs) (hg : g.2 = (ds, xs)) : ItOk K ds g (Itt K q) where
  go A k H G hk := by
    have r := G.2
    rw [hg] at r
    have hl := r.len
    obtain ⟨x, hx, rx⟩ := r.get (i := k) (d := ds[k]) (by rw [List.getElem?_eq_getElem hk])
    refine ⟨⟨xs, x, hs A H G, hx⟩, fun y H' ⟨e, f⟩ => ?_⟩
    subst e
    have := f xs (hs A _ G)
    have hxy : y = x := Option.some.inj (this.symm.trans hx)
    subst hxy
    exact ⟨Same.refl _, ds[k], by rw [List.getElem?_eq_getElem hk], rx⟩
  stop A H G := by
    have r := G.2
    rw [hg] at r
    exact ⟨xs, hs A H G, by rw [r.len]; exact Nat.le_refl _⟩
theorem ji_list (he : JE X B H0 true sl e da) (hr : RdL da ds) : JI X B H0 sl tg e ds := ⟨fun gh as σ H R S q => PIt (pi_list pe_w) (he.run gh as σ H _ S fun v H1 s1 r => by
  cases hr with
  | lst =>
    obtain ⟨a, xs, rfl, t, n, l⟩ := r
    exact ⟨a, rfl, ⟨xs, .inl (.inl t)⟩, q _ H1 ([(a, .lst xs)], ds, xs) s1 ⟨fun b u e => by cases List.mem_singleton.mp e; exact ⟨t, .inl n, by intro _ z; cases z⟩, l⟩ (itok_l (fun A H G => .inl (.inl (G.1 a _ List.mem_cons_self).1)) rfl)⟩
  | fro =>
    obtain ⟨a, xs, rfl, t, l⟩ := r
    rcases t with ⟨o, t⟩ | t
    · exact ⟨a, rfl, ⟨xs, .inl (.inr ⟨o, t⟩)⟩, q _ H1 ([(a, .frz o (.lst xs))], ds, xs) s1 ⟨fun b u e => by cases List.mem_singleton.mp e; exact ⟨t, .inr trivial, by intro _ z; cases z⟩, l⟩ (itok_l (fun A H G => .inl (.inr ⟨o, (G.1 a _ List.mem_cons_self).1⟩)) rfl)⟩
    · exact ⟨a, rfl, ⟨xs, .inr t⟩, q _ H1 ([], ds, xs) s1 ⟨fun b u e => (by cases e), l⟩ (itok_l (fun A H G => .inr t) rfl)⟩)⟩
theorem ji_tup (he : JE X B H0 true sl e (.tup ds)) : JI X B H0 sl tg e ds := ⟨fun gh as σ H R S q => PIt (pi_tup pe_w) (he.run gh as σ H _ S fun v H1 s1 r => by
  obtain ⟨a, xs, rfl, t, l⟩ := r
  exact ⟨a, rfl, ⟨xs, .inl (.inl t)⟩, q _ H1 ([(a, .tup xs)], ds, xs) s1 ⟨fun b u e => by cases List.mem_singleton.mp e; exact ⟨t, .inr trivial, by intro _ z; cases z⟩, l⟩ (itok_t (fun A H G => .inl (.inl (G.1 a _ List.mem_cons_self).1)) rfl)⟩)⟩
def rngD (lo : Int) (n : Nat) : List D := (List.range n).map fun (k : Nat) => D.int (lo + (k : Int))
theorem rngD_len {lo : Int} {n : Nat} : (rngD lo n).length = n := by unfold rngD; rw [List.length_map, List.length_range]
theorem rngD_get {lo : Int} {n k : Nat} {d : D} (h : (rngD lo n)[k]? = some d) : k < n ∧ d = .int (lo + (k : Int)) := by
  have hk : k < n := by
    have := (List.getElem?_eq_some_iff.mp h).1
    rw [rngD_len] at this
    exact this
  refine ⟨hk, ?_⟩
  unfold rngD at h
  rw [List.getElem?_map, List.getElem?_range hk] at h
  exact (Option.some.inj h).symm
theorem itok_r {K : PySem.W.Frag} {lo : Int} {n : Nat} {g : G1} : ItOk K (rngD lo n) g (L2.Itr lo n) where
  go A k H G hk := by
    rw [rngD_len] at hk
    refine ⟨hk, fun x H' ⟨e, f⟩ => ?_⟩
    subst e f
    exact ⟨Same.refl _, .int (lo + k), by unfold rngD; rw [List.getElem?_map, List.getElem?_range hk]; rfl, rfl⟩
  stop A H G := by
    show n ≤ (rngD lo n).length
    rw [rngD_len]
    exact Nat.le_refl _
theorem ji_rng1 {n : Int} (hg : Gl X "range") (hm : X.mg "range" = none) (ha : JA X B H0 false sl [a] [.int n]) (h1 : -(2 ^ 62) ≤ n) (h2 : n < 2 ^ 62) (hs : starEach [a] X.env = [(false, eval a X.env)] := by rfl) : JI X B H0 sl tg (.Call (.Name "range" p) [a] [] pos) (rngD 0 n.toNat) := ⟨fun gh as σ H R S q =>
  PIt (pi_range1 hg hm pa_w hs) (ha.run gh as σ H _ S fun vs H1 s1 r => by
    obtain ⟨x, r', rfl, e1, e2⟩ := r
    cases (show x = .int n from e1); cases (show r' = [] from e2)
    exact ⟨n, rfl, h1, h2, q _ H1 ([], [], []) s1 ⟨fun b u e => (by cases e), rfl⟩ itok_r⟩)⟩
theorem ji_rng2 {i n : Int} (hg : Gl X "range") (hm : X.mg "range" = none) (ha : JA X B H0 false sl [a, b] [.int i, .int n]) (h0 : -(2 ^ 62) ≤ i ∧ i < 2 ^ 62) (h1 : -(2 ^ 62) ≤ n ∧ n < 2 ^ 62) (hs : starEach [a, b] X.env = [(false, eval a X.env), (false, eval b X.env)] := by rfl) (hs2 : starEach [b] X.env = [(false, eval b X.env)] := by rfl) :
    JI X B H0 sl tg (.Call (.Name "range" p) [a, b] [] pos) (rngD i (n - i).toNat) := ⟨fun gh as σ H R S q =>
  PIt (pi_range2 hg hm pa_w hs hs2) (ha.run gh as σ H _ S fun vs H1 s1 r => by
    obtain ⟨x, r', rfl, e1, y, r2, rfl, e2, e3⟩ := r
    cases (show x = .int i from e1); cases (show y = .int n from e2); cases (show r2 = [] from e3)
    exact ⟨i, n, rfl, ⟨h0.1, h0.2, h1.1, h1.2⟩, q _ H1 ([], [], []) s1 ⟨fun b u e => (by cases e), rfl⟩ itok_r⟩)⟩
/-! ### calls of the program's own defs -/
variable {CX : CXT} {k : Nat} {f : Addr} {fd : FuncData} {ps : List Str} {F : FS} {E : XK}
theorem je_call (G : FnOk X.prog X.w X.K X.mg X.base CX k f fd ps (spF X.K F)) (hr : Room k X.A) (hg : Gl X x) (hm : X.mg x = some (.ref f)) (hk : PySem.W.keepIn X.K (.ref f) = true) (hb : Binds X.K fd ps []) (hx : Passes CX X E) (ha : JA X B H0 m sl (e :: es) ds) (h : F ds (.ok d))
    (hdb : (x == ("__debug__" : Str)) = false := by decide) (he : starEach (e :: es) X.env = (false, eval e X.env) :: starEach es X.env := by rfl) (hpl : (backTo pos (starEach es X.env)).any (·.1) = false := by rfl) : JE X B H0 m sl (.Call (.Name x p) (e :: es) [] pos) d := ⟨fun gh as σ H Q S q =>
  PEt (pe_call G hr hg hm hk hb .nil hx pa_w hdb he hpl) (ha.run gh as σ H _ S fun vs H1 s1 r => by
    show spF X.K F (vs ++ []) H1 Q E
    rw [List.append_nil]
    refine ⟨Av B as m, ds, .ok d, fun a h => (S.same s1).dom a (Av.sub a h), r, h, fun d' e' v H2 s2 r2 => ?_, fun d' e' => (by cases e'), fun c e' => (by cases e')⟩
    cases e'
    exact q v H2 (s1.trans s2) r2)⟩
theorem jf_call (G : FnOk X.prog X.w X.K X.mg X.base CX k f fd ps (spF X.K F)) (hr : Room k X.A) (hg : Gl X x) (hm : X.mg x = some (.ref f)) (hk : PySem.W.keepIn X.K (.ref f) = true) (hb : Binds X.K fd ps []) (hx : Passes CX X E) (ha : JA X B H0 true sl (e :: es) ds) (h : F ds (.fr d))
    (hdb : (x == ("__debug__" : Str)) = false := by decide) (he : starEach (e :: es) X.env = (false, eval e X.env) :: starEach es X.env := by rfl) (hpl : (backTo pos (starEach es X.env)).any (·.1) = false := by rfl) : JF X B H0 sl (.Call (.Name x p) (e :: es) [] pos) d := ⟨fun gh as σ H Q S q =>
  PEt (pe_call G hr hg hm hk hb .nil hx pa_w hdb he hpl) (ha.run gh as σ H _ S fun vs H1 s1 r => by
    show spF X.K F (vs ++ []) H1 Q E
    rw [List.append_nil]
    refine ⟨AOf B as, ds, .fr d, fun a h => (S.same s1).dom a h, r, h, fun d' e' => (by cases e'), fun d' e' p' H2 s2 hp r2 => ?_, fun c e' => (by cases e')⟩
    cases e'
    exact q p' H2 (s1.trans s2) (s1.free hp) r2)⟩
end
/-! ### a def's body keeps its promise -/
theorem starts_ok {K : PySem.W.Frag} {B : Addr → Prop} {H : Hp} : ∀ {ds : List D} {vs : List V}, RpL K B H ds vs → ∀ n : Nat, SlsOK K B H (ds.map Sl.va ++ List.replicate n Sl.un) (vs.map some ++ List.replicate n none) (List.replicate (ds.length + n) none)
  | [], _, h, n => by
    cases (show _ = [] from h)
    induction n with
    | zero => exact ⟨rfl, rfl⟩
    | succ n ih => exact ⟨none, _, none, _, rfl, by rw [show ([] : List D).length + (n + 1) = (([] : List D).length + n) + 1 from rfl, List.replicate_succ], rfl, ih⟩
  | d :: ds, _, h, n => by
    obtain ⟨x, r, rfl, h1, h2⟩ := h
    exact ⟨some x, _, none, _, rfl, by rw [show (d :: ds).length + n = (ds.length + n) + 1 by rw [List.length_cons]; omega, List.replicate_succ], ⟨rfl, x, rfl, h1⟩, starts_ok h2 n⟩
def starts (N : List Str) (ds : List D) : List Sl := ds.map Sl.va ++ List.replicate (N.length - ds.length) .un
theorem noA {B : Addr → Prop} {n : Nat} : ∀ a, AOf B (List.replicate n none) a → B a := fun a h => by
  rcases h with h | h
  · exact h
  · cases (List.mem_replicate.mp h).2
section
variable {P : Program} {w : World} {K : PySem.W.Frag} {mg : Str → Option Value} {base : Heap} {x qual : Str} {st : Stmt} {f : Addr} {fd : FuncData} {N ps : List Str} {k : Nat} {Fs : FS}
abbrev XOf (P : Program) (w : World) (K : PySem.W.Frag) (mg : Str → Option Value) (base : Heap) (N : List Str) (qual : Str) (sc : Scope) (f : Addr) (cdv : Value) (A : Around) (outer : List Env) (s : Shared) (H : Hp) (E : XK) : Cx := (cxOf CX0 P w K mg base N qual sc f cdv A outer s H E).nox
/-- what a body is to come to -/
def PoOf (o : Out) : Po := { nx := fun _ => o = .ok .non, rt := fun d => o = .ok d, rf := fun d => o = .fr d ∨ o = .ok d }
theorem fn_ok (F : Fun K x qual st f fd) (S : FnScope N ps (defScope st)) (hl : ∀ ds o, Fs ds o → ds.length = ps.length) (hx : ∀ ds c, ¬ Fs ds (.er c))
    (body : ∀ cdv A outer s H E, Room k (A.deeper (envOfC qual (defScope st) s.heap.objs.size f cdv)) → ∀ (B : Addr → Prop) ds o, Fs ds o → JSs (XOf P w K mg base N qual (defScope st) f cdv A outer s H E) B H (starts N ds) (defBody st) (PoOf o)) :
    FnOk P w K mg base CX0 (k + 1) f fd ps (spF K Fs) := by
  refine F.ok S (fun vs H Q E h => ?_) (fun cdv A outer s H vs Q E hr h => ?_)
  · obtain ⟨B, ds, o, hd, r, hF, _⟩ := h
    rw [r.len]
    exact hl ds o hF
  · obtain ⟨B, ds, o, hd, r, hF, h1, h2, h3⟩ := h
    refine ⟨_, pss_w, fun pins sh I => ?_⟩
    have e0 : L2.start N vs = vs.map some ++ List.replicate (N.length - ds.length) none := by
      unfold L2.start
      rw [r.len]
    have S0 : SOK K B H [] (List.replicate (ds.length + (N.length - ds.length)) none) (starts N ds) (L2.start N vs) H := by
      refine ⟨Same.refl H, hd, fun a h => ?_, fun i j a h => ?_, fun g h => (by cases h), ?_⟩
      · cases (List.mem_replicate.mp h).2
      · have := List.mem_of_getElem? h
        cases (List.mem_replicate.mp this).2
      · rw [e0]
        exact (starts_ok r _).to (fun h => h.anti noA) (fun h => h.anti noA) fun _ _ _ q _ => q
    refine thn ((body cdv A outer s H E hr B ds o hF).run [] _ _ H S0 pins sh I) fun fl s' q => SPm q ?_ ?_ (fun _ _ ⟨_, _, z, _⟩ => z.elim) (fun _ _ ⟨_, _, z, _⟩ => z.elim)
    · rintro σ' H' ⟨as', sl', e, S'⟩
      exact h1 .non e .non H' S'.ex rfl
    · rintro v H' (⟨d, e, s1, r1⟩ | ⟨d, q, e, rfl, s1, hq, r1⟩)
      · exact h1 d e v H' s1 r1
      · rcases e with e | e
        · exact h2 d e q H' s1 hq r1
        · exact h1 d e _ H' s1 (r1.rp (fun z => by
            obtain ⟨u, hu⟩ := hd q z
            rw [hq] at hu
            cases hu) fun a h => .inl h)
end
end PD
namespace PD
open PySem PySem.Spec PyProof.Rows L2
variable [TN]
section
variable {X : Cx} {B : Addr → Prop} {H0 : Hp} {m m1 m2 : Bool} {sl sl' : List Sl} {e a b c tg iter : Expr} {es : List Expr} {d d1 d2 da db : D} {ds : List D} {pos p p2 px : Pos} {P : Po} {st : Stmt} {rest body : List Stmt} {x y : Str}
theorem je_glob (hg : Gl X x) (h : ∃ v u, X.mg x = some u ∧ RelV v u ∧ ∀ K A H, Rp K A H d v) (hd : (x == ("__debug__" : Str)) = false := by decide) : JE X B H0 m sl (.Name x pos) d := ⟨fun gh as σ H Q S q => by
  obtain ⟨v, u, hm, r, k⟩ := h
  exact PEt (pe_glob hg hm r hd) (q _ H (Same.refl H) (k _ _ _))⟩
theorem je_powL {i j v : Int} (ha : JE X B H0 false sl a (.int i)) (hb : JE X B H0 false sl b (.int j)) (hc : CPow i j) (hv : i ^ j.toNat = v) : JE X B H0 m sl (.BinOp a .Pow b pos) (.int v) := hv ▸ je_pow ha hb hc
theorem jss_ifr {v : Bool} (hc : JT X B H0 sl c v) (h1 : v = true → JSs X B H0 sl body { P with nx := fun _ => False }) (h2 : v = false → JSs X B H0 sl rest P) : JSs X B H0 sl (.If c body [] pos :: rest) P :=
  jss_cons (fun s => s = sl ∧ v = false) (js_if hc (fun h => ⟨fun gh as σ H S pins s I => thn ((h1 h).run gh as σ H S pins s I) fun f s' q => SPm q (fun _ _ ⟨_, _, z, _⟩ => z.elim) (fun _ _ z => z) (fun _ _ z => z) (fun _ _ z => z)⟩) (fun h => jss_nil ⟨rfl, h⟩)) fun s ⟨e, h⟩ => e ▸ h2 h
theorem jss_ifd {els : List Stmt} {v : Bool} (hc : JT X B H0 sl c v) (h1 : v = true → JSs X B H0 sl body { P with nx := fun s => JSs X B H0 s rest P }) (h2 : v = false → JSs X B H0 sl els { P with nx := fun s => JSs X B H0 s rest P }) : JSs X B H0 sl (.If c body els pos :: rest) P :=
  jss_cons (fun s => JSs X B H0 s rest P) (js_if hc h1 h2) fun _ h => h
theorem jss_ifset (i : Nat) {v : Bool} (hN : X.N.Nodup) (hi : X.N[i]? = some x) (hx : Loc X.env.scope x) (hc : JT X B H0 sl c v) (he : v = true → JE X B H0 true sl e d1) (ho : sl[i]? = some (.va d2)) (k : JSs X B H0 (sl.set i (.va (if v then d1 else d2))) rest P)
    (hs : swapsWith e (some (.Name x px)) p2.line X.env = pure false := by rfl) (hf : X.fn x = true ∨ X.env.scope.names.lookup x = some .local := by first | exact .inl rfl | exact .inr rfl) : JSs X B H0 sl (.If c [.Assign [.Name x px] e p2] [] pos :: rest) P :=
  jss_cons (fun s => s = sl.set i (.va (if v then d1 else d2))) (js_if hc (fun h => jss_one (js_set i hN hi hx (he h) (by subst h; rfl) hs hf)) (fun h => jss_nil (by
    subst h
    show sl = sl.set i (.va d2)
    apply List.ext_getElem?
    intro j
    by_cases z : i = j
    · subst z
      rw [List.getElem?_set]
      simp only [if_true]
      split
      · exact ho
      · rename_i n
        exact absurd (List.getElem?_eq_some_iff.mp ho).1 n
    · rw [List.getElem?_set_ne z]))) fun s e => e ▸ k
theorem jss_ifsetI (i : Nat) {v : Bool} {n1 n2 : Int} (hN : X.N.Nodup) (hi : X.N[i]? = some x) (hx : Loc X.env.scope x) (hc : JT X B H0 sl c v) (he : v = true → JE X B H0 true sl e (.int n1)) (ho : sl[i]? = some (.va (.int n2))) (k : JSs X B H0 (sl.set i (.va (.int (if v then n1 else n2)))) rest P)
    (hs : swapsWith e (some (.Name x px)) p2.line X.env = pure false := by rfl) (hf : X.fn x = true ∨ X.env.scope.names.lookup x = some .local := by first | exact .inl rfl | exact .inr rfl) : JSs X B H0 sl (.If c [.Assign [.Name x px] e p2] [] pos :: rest) P :=
  jss_ifset i hN hi hx hc he ho (by
    have : (if v then D.int n1 else D.int n2) = D.int (if v then n1 else n2) := by cases v <;> rfl
    rw [this]; exact k) hs hf
end
theorem isi_none_bool : kitB "NoneType" "bool" = some false := by decide +kernel
theorem isi_none_int : kitB "NoneType" "int" = some false := by decide +kernel
theorem isi_none_str : kitB "NoneType" "str" = some false := by decide +kernel
theorem isi_none_tuple : kitB "NoneType" "tuple" = some false := by decide +kernel
theorem isi_none_list : kitB "NoneType" "list" = some false := by decide +kernel
theorem isi_none_dict : kitB "NoneType" "dict" = some false := by decide +kernel
theorem isi_bool_bool : kitB "bool" "bool" = some true := by decide +kernel
theorem isi_bool_int : kitB "bool" "int" = some true := by decide +kernel
theorem isi_bool_str : kitB "bool" "str" = some false := by decide +kernel
theorem isi_bool_tuple : kitB "bool" "tuple" = some false := by decide +kernel
theorem isi_bool_list : kitB "bool" "list" = some false := by decide +kernel
theorem isi_bool_dict : kitB "bool" "dict" = some false := by decide +kernel
theorem isi_int_bool : kitB "int" "bool" = some false := by decide +kernel
theorem isi_int_int : kitB "int" "int" = some true := by decide +kernel
theorem isi_int_str : kitB "int" "str" = some false := by decide +kernel
theorem isi_int_tuple : kitB "int" "tuple" = some false := by decide +kernel
theorem isi_int_list : kitB "int" "list" = some false := by decide +kernel
theorem isi_int_dict : kitB "int" "dict" = some false := by decide +kernel
theorem isi_str_bool : kitB "str" "bool" = some false := by decide +kernel
theorem isi_str_int : kitB "str" "int" = some false := by decide +kernel
theorem isi_str_str : kitB "str" "str" = some true := by decide +kernel
theorem isi_str_tuple : kitB "str" "tuple" = some false := by decide +kernel
theorem isi_str_list : kitB "str" "list" = some false := by decide +kernel
theorem isi_str_dict : kitB "str" "dict" = some false := by decide +kernel
theorem isi_tuple_bool : kitB "tuple" "bool" = some false := by decide +kernel
theorem isi_tuple_int : kitB "tuple" "int" = some false := by decide +kernel
theorem isi_tuple_str : kitB "tuple" "str" = some false := by decide +kernel
theorem isi_tuple_tuple : kitB "tuple" "tuple" = some true := by decide +kernel
theorem isi_tuple_list : kitB "tuple" "list" = some false := by decide +kernel
theorem isi_tuple_dict : kitB "tuple" "dict" = some false := by decide +kernel
theorem isi_list_bool : kitB "list" "bool" = some false := by decide +kernel
theorem isi_list_int : kitB "list" "int" = some false := by decide +kernel
theorem isi_list_str : kitB "list" "str" = some false := by decide +kernel
theorem isi_list_tuple : kitB "list" "tuple" = some false := by decide +kernel
theorem isi_list_list : kitB "list" "list" = some true := by decide +kernel
theorem isi_list_dict : kitB "list" "dict" = some false := by decide +kernel
theorem isi_dict_bool : kitB "dict" "bool" = some false := by decide +kernel
theorem isi_dict_int : kitB "dict" "int" = some false := by decide +kernel
theorem isi_dict_str : kitB "dict" "str" = some false := by decide +kernel
theorem isi_dict_tuple : kitB "dict" "tuple" = some false := by decide +kernel
theorem isi_dict_list : kitB "dict" "list" = some false := by decide +kernel
theorem isi_dict_dict : kitB "dict" "dict" = some true := by decide +kernel
/-! ### the law's end -/
theorem law_end {Fs : FS} (h : ∀ ns : List Int, ns.length ≤ 63 → Fs [.fro (ns.map .int)] (.ok (.bl true))) :
    ∀ (K : PySem.W.Frag) (H : Hp) (a : Addr) (ns : List Int), ns.length ≤ 63 → Only H → SqL K H a (ns.map V.int) → spF K Fs [.ref a] H (fun v _ => v = .bl true) fun _ _ _ => False := fun K H a ns hl hO hS => by
  refine ⟨fun _ => False, [.fro (ns.map .int)], .ok (.bl true), fun _ h => h.elim, ⟨.ref a, [], rfl, ⟨a, ns.map V.int, rfl, ?_, rpl_ints.mpr rfl⟩, rfl⟩, h ns hl, fun d e v H' s r => ?_, fun d e => (by cases e), fun c e => (by cases e)⟩
  · rcases hS with (h | ⟨o, h⟩) | h
    · rcases hO a with z | ⟨o, xs, z⟩
      · rw [z] at h; cases h
      · rw [z] at h; cases h
    · exact .inl ⟨o, h⟩
    · exact .inr h
  · cases e
    exact r
end PD
namespace PD
open PySem PySem.Spec PyProof.Rows L2
variable [TN]
/-! ### comprehensions -/
/-- the slots within a comprehension: its own names' are any, own lists are not to be read -/
def shut1 : Sl → Sl
  | .ow _ => .un
  | .od _ _ => .un
  | s => s
def shut : List Sl → List Sl
  | [] => []
  | s :: r => shut1 s :: shut r
def wipeS (sl : List Sl) : List Nat → List Sl
  | [] => shut sl
  | v :: vs => (wipeS sl vs).set v .un
theorem wipe_at (σ : L2.St) (j : Nat) : ∀ vs : List Nat, (wipe σ vs)[j]? = if j ∈ vs then (if j < σ.length then some none else none) else σ[j]?
  | [] => by simp [wipe]
  | v :: vs => by
    show ((wipe σ vs).set v none)[j]? = _
    rw [List.getElem?_set, wipe_length]
    by_cases e : v = j
    · subst e
      simp
    · rw [if_neg e, wipe_at σ j vs]
      have e' : j ≠ v := fun z => e z.symm
      simp [e']
theorem wipe_eq {σ σ' : L2.St} {vs : List Nat} (h : Fra vs (wipe σ vs) σ') : wipe σ' vs = wipe σ vs := by
  apply List.ext_getElem?
  intro j
  have hl : σ'.length = σ.length := by rw [h.1, wipe_length]
  rw [wipe_at, wipe_at, hl]
  by_cases e : j ∈ vs
  · rw [if_pos e, if_pos e]
  · rw [if_neg e, if_neg e, h.2 j e, wipe_at, if_neg e]
theorem shut_ok {K : PySem.W.Frag} {A A' : Addr → Prop} {H H' : Hp} (r : ∀ {d v}, Rp K A H d v → Rp K A' H' d v) : ∀ {ss : List Sl} {σ : L2.St} {ws : Ow}, SlsOK K A H ss σ ws → SlsOK K A' H' (shut ss) σ (List.replicate ss.length none)
  | [], _, _, h => ⟨h.1, rfl⟩
  | s :: ss, _, _, h => by
    obtain ⟨o, os, w, wr, rfl, rfl, h1, h2⟩ := h
    cases s with
    | un => exact ⟨o, os, none, _, rfl, rfl, rfl, shut_ok r h2⟩
    | va d =>
      obtain ⟨z, v, e1, e2⟩ := h1
      exact ⟨o, os, none, _, rfl, rfl, ⟨rfl, v, e1, r e2⟩, shut_ok r h2⟩
    | ow d => exact ⟨o, os, none, _, rfl, rfl, rfl, shut_ok r h2⟩
    | od ks ds => exact ⟨o, os, none, _, rfl, rfl, rfl, shut_ok r h2⟩
theorem rep_set {n v : Nat} : (List.replicate n (none : Option Addr)).set v none = List.replicate n none := by
  apply List.ext_getElem?
  intro j
  rw [List.getElem?_set]
  by_cases e : v = j
  · subst e
    simp only [if_true]
    by_cases h : v < n
    · simp [h]
    · simp [h]
  · rw [if_neg e]
theorem wipeS_ok {K : PySem.W.Frag} {A A' : Addr → Prop} {H H' : Hp} (r : ∀ {d v}, Rp K A H d v → Rp K A' H' d v) {ss : List Sl} {σ : L2.St} {ws : Ow} (h : SlsOK K A H ss σ ws) : ∀ vs : List Nat, SlsOK K A' H' (wipeS ss vs) (wipe σ vs) (List.replicate ss.length none)
  | [] => shut_ok r h
  | v :: vs => by
    have := SlsOK.set (s := .un) (o := none) (w := none) (show SlOK K A' H' .un none none from rfl) v (wipeS_ok r h vs)
    rw [rep_set] at this
    exact this
section
variable {X : Cx} {B : Addr → Prop} {H0 : Hp} {m m1 m2 : Bool} {sl sl' : List Sl} {e a b c tg iter elt : Expr} {es ifs : List Expr} {d d1 d2 da db : D} {ds : List D} {pos p p2 px : Pos} {P : Po} {st : Stmt} {rest body : List Stmt} {x y : Str} {scope : Scope} {own : List (Str × Nat)}
structure JTs (X : Cx) (B : Addr → Prop) (H0 : Hp) (sl : List Sl) (ifs : List Expr) (b : Bool) : Prop where
  run : ∀ gh as σ H pins s (Q : Bool → Hp → Prop), SOK X.K B H0 gh as sl σ H → (∀ H', Same H H' → Q b H') → Inv X pins σ H s → ∀ {R : Prop}, (∀ {t : TT}, PTs X ifs t → t σ H Q → R) → R
theorem jts_nil : JTs X B H0 sl [] true := ⟨fun gh as σ H pins s Q S q I R k => k pts_nil (q H (Same.refl H))⟩
theorem jts_one {v : Bool} (h : JT X B H0 sl c v) : JTs X B H0 sl [c] v := ⟨fun gh as σ H pins s Q S q I R k => k (pts_one pt_w) (h.run gh as σ H Q S q)⟩
abbrev blkX (X : Cx) (scope : Scope) (s : Shared) (H : Hp) (C : Addr) (cl : List (Str × Addr)) (fp : List Addr) : Cx := X.blk s H scope (compEnvC scope cl C X.env) fp
def tGB (X : Cx) (scope : Scope) (tg : Expr) : TG := fun v σ H Q => ∀ s H' C cl fp, tG (blkX X scope s H' C cl fp) tg v σ H Q
def tEB (X : Cx) (scope : Scope) (e : Expr) : TE := fun σ H Q => ∀ s H' C cl fp, tE (blkX X scope s H' C cl fp) e σ H Q
/-- tests: none or one -/
def tTB (X : Cx) (scope : Scope) (ifs : List Expr) : TT := match ifs with
  | [] => tYes
  | c :: _ => fun σ H Q => ∀ s H' C cl fp, tT (blkX X scope s H' C cl fp) c σ H Q
theorem pg_b {s : Shared} {H : Hp} {C : Addr} {cl : List (Str × Addr)} {fp : List Addr} : PG (blkX X scope s H C cl fp) tg (tGB X scope tg) := ⟨fun pins s' _ _ _ u _ I r h => h _ _ _ _ _ pins s' u I r⟩
theorem pe_b {s : Shared} {H : Hp} {C : Addr} {cl : List (Str × Addr)} {fp : List Addr} : PE (blkX X scope s H C cl fp) e (tEB X scope e) := ⟨fun pins s' _ _ _ I h => h _ _ _ _ _ pins s' I⟩
theorem pts_b {s : Shared} {H : Hp} {C : Addr} {cl : List (Str × Addr)} {fp : List Addr} (h : ifs.length ≤ 1) : PTs (blkX X scope s H C cl fp) ifs (tTB X scope ifs) := by
  match ifs, h with
  | [], _ => exact pts_nil
  | [c], _ => exact pts_one ⟨fun pins s' _ _ _ I h => h _ _ _ _ _ pins s' I⟩
/-- the test's answer -/
inductive JTB (X : Cx) (scope : Scope) (sl : List Sl) : List Expr → Bool → Prop
  | nil : JTB X scope sl [] true
  | one {c : Expr} {v : Bool} (h : ∀ s H C cl fp B H0, JT (blkX X scope s H C cl fp) B H0 sl c v) : JTB X scope sl [c] v
theorem JTB.run {v : Bool} (h : JTB X scope sl ifs v) {gh : Gh} {as : Ow} {σ : L2.St} {H : Hp} {Q : Bool → Hp → Prop} (S : SOK X.K B H0 gh as sl σ H) (q : ∀ H', Same H H' → Q v H') : tTB X scope ifs σ H Q := by
  cases h with
  | nil => exact q H (Same.refl H)
  | one h => exact fun s H' C cl fp => (h s H' C cl fp B H0).run gh as σ H Q S q
/-- what the block does with each item -/
def LcB (X : Cx) (scope : Scope) (vs : List Nat) (sl : List Sl) (tg elt : Expr) (ifs : List Expr) {α : Type} (xs : List α) (g f : α → D) (t : α → Bool) : Prop :=
  ∀ x ∈ xs, ∃ sl', (∀ s H C cl fp B H0, JG (blkX X scope s H C cl fp) B H0 vs tg (g x) (wipeS sl vs) sl') ∧ JTB X scope sl' ifs (t x) ∧ (t x = true → ∀ s H C cl fp B H0, JE (blkX X scope s H C cl fp) B H0 true sl' elt (f x))
theorem lc_read {α : Type} {xs : List α} {g f : α → D} {t : α → Bool} {vs : List Nat} (hi : JI X B H0 sl tg iter (xs.map g)) (hb : LcB X scope vs sl tg elt ifs xs g f t) (hz : xs.length ≤ sizeLine)
    {gh : Gh} {as : Ow} {σ : L2.St} {H : Hp} {Q : VK} (S : SOK X.K B H0 gh as sl σ H) (q : ∀ p H', Same H H' → H p = none → RpO X.K (A1 (AOf B as) p) H' p (.lst ((xs.filter t).map f)) → Q (.ref p) H') :
    tLc (tI X tg iter) (tGB X scope tg) (tTB X scope ifs) (tEB X scope elt) vs σ H Q := by
  refine hi.run gh as σ H _ S fun J H1 g1 s1 hg ok D hD => ?_
  refine ⟨fun i m H' => m = xs.length - i ∧ i ≤ xs.length ∧ Same H1 H' ∧ ∃ acc, H' D = some (.lst acc) ∧ acc.length ≤ i ∧ RpL X.K (A1 (AOf B as) D) H' (((xs.take i).filter t).map f) acc, ⟨_, rfl, Nat.zero_le _, Same.new hD, [], upd_same, Nat.le_refl _, rfl⟩, ?_⟩
  rintro i m H' ⟨rfl, hil, sm, acc, eD, hl, hr⟩
  have S1 := S.same s1
  have hG : GhOK X.K (AOf B as) H' g1 := hg.stp (.of sm)
  have mr : ∀ {d v}, Rp X.K (AOf B as) H d v → Rp X.K (A1 (AOf B as) D) H' d v := fun h => (((h.stp (.of s1)).more fun a o ha ho => by
    rcases ha with ha | ha
    · exact ha
    · rw [ha, hD] at ho; cases ho).stp (.of sm))
  by_cases hlt : i < xs.length
  · obtain ⟨go, yl⟩ := ok.go _ i H' hG (by rw [List.length_map]; exact hlt)
    refine .inr ⟨go, fun H2 => i + 1 ≤ xs.length ∧ Same H1 H2 ∧ ∃ acc, H2 D = some (.lst acc) ∧ acc.length ≤ i + 1 ∧ RpL X.K (A1 (AOf B as) D) H2 (((xs.take (i + 1)).filter t).map f) acc, fun H2 ⟨l, z⟩ => ⟨xs.length - (i + 1), by omega, rfl, l, z⟩, fun v H2 hy => ?_⟩
    obtain ⟨s2, d, hd, r⟩ := yl v H2 hy
    rw [List.getElem?_map, List.getElem?_eq_getElem hlt] at hd
    have hd' : g xs[i] = d := Option.some.inj hd
    subst hd'
    obtain ⟨sl', hJ, hT, hE⟩ := hb xs[i] (List.getElem_mem hlt)
    have take1 : xs.take (i + 1) = xs.take i ++ [xs[i]] := by rw [List.take_add_one, List.getElem?_eq_getElem hlt]; rfl
    have SB : SOK X.K (A1 (AOf B as) D) H2 [] (List.replicate sl.length none) (wipeS sl vs) (wipe σ vs) H2 := by
      refine ⟨Same.refl _, fun a ha => ?_, fun a ha => ?_, fun k j a ha => ?_, fun g hg => (by cases hg), ?_⟩
      · rcases ha with ha | ha
        · exact (s1.trans (sm.trans s2)).there (S.dom a ha)
        · rw [ha]
          exact ⟨_, s2 _ _ eD⟩
      · cases (List.mem_replicate.mp ha).2
      · cases (List.mem_replicate.mp (List.mem_of_getElem? ha)).2
      · exact (wipeS_ok (fun h => ((mr h).stp (.of s2)).anti noA) S.sls vs)
    have rD : Rp X.K (A1 (AOf B as) D) H2 (g xs[i]) v := by
      have hGD : GhOK X.K (A1 (AOf B as) D) H' g1 := (hg.more fun a o ha ho => by
        rcases ha with ha | ha
        · exact ha
        · rw [ha, hD] at ho; cases ho).stp (.of sm)
      obtain ⟨_, yl2⟩ := ok.go _ i H' hGD (by rw [List.length_map]; exact hlt)
      obtain ⟨_, d2, hd2, r2⟩ := yl2 v H2 hy
      rw [List.getElem?_map, List.getElem?_eq_getElem hlt] at hd2
      cases hd2
      exact r2
    intro s0 Hx C cl fp
    refine (hJ s0 Hx C cl fp (A1 (AOf B as) D) H2).run [] _ (wipe σ vs) H2 v _ SB (rD.anti noA) fun as' σ' S' fr _ => ?_
    refine ⟨wipe_eq fr, hT.run S' fun H3 s3 => ?_⟩
    have acc3 : RpL X.K (A1 (AOf B as) D) H3 (((xs.take i).filter t).map f) acc := (hr.stp (.of s2)).stp (.of s3)
    have eD3 : H3 D = some (.lst acc) := s3 _ _ (s2 _ _ eD)
    cases ht : t xs[i] with
    | false =>
      show _ ∧ _
      refine ⟨hlt, sm.trans (s2.trans s3), acc, eD3, by omega, ?_⟩
      rw [take1, List.filter_append, List.filter_cons, ht]
      simp only [Bool.false_eq_true, if_false, List.filter_nil, List.append_nil]
      exact acc3
    | true =>
      show tEB X scope elt σ' H3 _
      intro s4 Hx4 C4 cl4 fp4
      refine (hE ht s4 Hx4 C4 cl4 fp4 (A1 (AOf B as) D) H2).run [] as' σ' H3 _ (S'.same s3) fun y H4 s4' r4 => ?_
      have e4 : H4 D = some (.lst acc) := s4' _ _ eD3
      refine ⟨acc, e4, by omega, hlt, (sm.trans (s2.trans (s3.trans s4'))).mut hD e4 (by intro _ z; cases z) (by intro _ z; cases z), acc ++ [y], upd_same, by rw [List.length_append, List.length_singleton]; omega, ?_⟩
      · have st : Stp (A1 (AOf B as) D) H4 (upd H4 D (.lst (acc ++ [y]))) := ⟨fun b o hb c _ => by
          by_cases z : b = D
          · subst z
            rw [e4] at hb
            cases hb
            rcases c with c | c
            · exact absurd (.inr rfl) c
            · exact c.elim
          · rw [upd_ne z]
            exact hb⟩
        rw [take1, List.filter_append, List.filter_cons, ht]
        simp only [if_true, List.filter_nil, List.map_append, List.map_cons, List.map_nil]
        exact (acc3.stp (.of s4')).stp st |>.app (RpL.one ((r4.anti fun a ha => .inl ha).stp st))
  · have e : i = xs.length := by omega
    subst e
    refine .inl ⟨?_, q D H' (s1.trans sm) (s1.free hD) ⟨acc, eD, ?_⟩⟩
    · have := ok.stop _ H' hG
      rw [List.length_map] at this
      exact this
    · rw [List.take_length] at hr
      exact hr
theorem jf_lc {α : Type} {xs : List α} {g f : α → D} {t : α → Bool} (hc : X.calm = true) (hN : X.N.Nodup) (ok : BlkOk X.N X.env.scope scope own) (hi : JI X B H0 sl tg iter (xs.map g)) (h1 : ifs.length ≤ 1) (hb : LcB X scope (own.map (·.2)) sl tg elt ifs xs g f t) (hz : xs.length ≤ sizeLine)
    (hs : ∀ x, foldedSetIterable iter X.env x = pure x := by intro _; rfl) : JF X B H0 sl (.ListComp elt [⟨tg, iter, ifs, 0⟩] scope pos) (.lst ((xs.filter t).map f)) := ⟨fun gh as σ H Q S q =>
  PEt (pe_lc hc hN pi_w ok (fun _ _ _ _ _ => pg_b) (fun _ _ _ _ _ => pts_b h1) (fun _ _ _ _ _ => pe_b) hs) (lc_read hi hb hz S q)⟩
/-- name = [..] on one line -/
theorem js_setLc {α : Type} {xs : List α} {g f : α → D} {t : α → Bool} {py : Pos} {spos : Pos} (ow : Bool) (i : Nat) (hc : X.calm = true) (hN : X.N.Nodup) (hy : X.N[i]? = some y) (hyl : X.env.scope.names.lookup y = some .local) (hsw : swapsWith (.ListComp elt [⟨tg, iter, ifs, 0⟩] scope pos) (some (.Name y py)) spos.line X.env = pure true)
    (ok : BlkOk X.N X.env.scope scope own) (hi : JI X B H0 sl tg iter (xs.map g)) (h1 : ifs.length ≤ 1) (hb : LcB X scope (own.map (·.2)) sl tg elt ifs xs g f t) (hz : xs.length ≤ sizeLine)
    (h : P.nx (sl.set i (if ow then .ow (.lst ((xs.filter t).map f)) else .va (.lst ((xs.filter t).map f))))) (hs : ∀ x, foldedSetIterable iter X.env x = pure x := by intro _; rfl) : JS X B H0 sl (.Assign [.Name y py] (.ListComp elt [⟨tg, iter, ifs, 0⟩] scope pos) spos) P := ⟨fun gh as σ H S =>
  PSt (ps_setLc hc hN hy hyl hsw pi_w ok (fun _ _ _ _ _ => pg_b) (fun _ _ _ _ _ => pts_b h1) (fun _ _ _ _ _ => pe_b) hs) (lc_read hi hb hz S fun q H1 s1 hq r1 => by
    cases ow with
    | true => exact ⟨_, _, h, S.putO hq s1 r1⟩
    | false =>
      refine ⟨_, _, h, (S.same s1).put (r1.rp (fun z => ?_) fun b hb => .inl hb)⟩
      obtain ⟨o, ho⟩ := S.dom q z
      rw [hq] at ho
      cases ho)⟩
end
end PD
namespace PD
open PySem PySem.Spec PyProof.Rows L2
variable [TN]
section
variable {X : Cx} {B : Addr → Prop} {H0 : Hp} {m m1 m2 : Bool} {sl sl' : List Sl} {e a b c tg iter elt : Expr} {es ifs : List Expr} {d d1 d2 da db : D} {ds dt : List D} {pos p p2 px : Pos} {P : Po} {st : Stmt} {rest body : List Stmt} {x y : Str} {scope : Scope} {own : List (Str × Nat)}
/-! ### slices -/
structure JO (X : Cx) (B : Addr → Prop) (H0 : Hp) (sl : List Sl) (e : Option Expr) (o : Option Int) : Prop where
  run : ∀ gh as σ H pins s (Q : Option Int → Hp → Prop), SOK X.K B H0 gh as sl σ H → (∀ H', Same H H' → Q o H') → Inv X pins σ H s → ∀ {R : Prop}, (∀ {t : TO}, PO X e t → t σ H Q → R) → R
def tO (X : Cx) (e : Option Expr) : TO := match e with
  | none => tNoPart
  | some e => tPart (tE X e)
theorem po_w {e : Option Expr} : PO X e (tO X e) := match e with
  | none => po_none
  | some _ => po_some pe_w
/-- a bound of a slice -/
inductive JP (X : Cx) (B : Addr → Prop) (H0 : Hp) (sl : List Sl) : Option Expr → Option Int → Prop
  | none : JP X B H0 sl none none
  | some {e : Expr} {i : Int} (h : JE X B H0 false sl e (.int i)) : JP X B H0 sl (some e) (some i)
theorem jo_none : JP X B H0 sl none none := .none
theorem jo_some {i : Int} (h : JE X B H0 false sl e (.int i)) : JP X B H0 sl (some e) (some i) := .some h
theorem JP.run {oe : Option Expr} {o : Option Int} (h : JP X B H0 sl oe o) {gh : Gh} {as : Ow} {σ : L2.St} {H : Hp} {Q : Option Int → Hp → Prop} (S : SOK X.K B H0 gh as sl σ H) (q : ∀ H', Same H H' → Q o H') : tO X oe σ H Q := by
  cases h with
  | none => exact q H (Same.refl H)
  | some h => exact h.run gh as σ H _ S fun x H1 s1 r1 => ⟨_, r1, q H1 s1⟩
/-- xs[lo:hi] on data -/
def cutD (xs : List D) (lo hi : Option Int) : List D := (xs.drop (HT.sIx xs.length 0 lo)).take (HT.sIx xs.length xs.length hi - HT.sIx xs.length 0 lo)
theorem cut_rpl {K : PySem.W.Frag} {A : Addr → Prop} {H : Hp} {xs : List V} {lo hi : Option Int} (r : RpL K A H ds xs) : RpL K A H (cutD ds lo hi) (cutV xs lo hi) := by
  unfold cutD cutV
  rw [r.len]
  exact (r.drop _).take _
theorem jf_sl {lo hi : Option Expr} {l h : Option Int} (he : JE X B H0 true sl e da) (hl : JP X B H0 sl lo l) (hh : JP X B H0 sl hi h) (hr : RdL da ds) : JF X B H0 sl (.Subscript e (.Slice lo hi none p2) pos) (.lst (cutD ds l h)) := ⟨fun gh as σ H Q S q =>
  PEt (pe_slice sl_list pe_w po_w po_w) (he.run gh as σ H _ S fun v H1 s1 r1 => hl.run (S.same s1) fun H2 s2 => hh.run (S.same (s1.trans s2)) fun H3 s3 => by
    obtain ⟨t, xs, rfl, hs, hx⟩ := hr.seq (r1.stp (.of (s2.trans s3)))
    refine ⟨t, xs, rfl, hs, fun w hw => q w _ ((s1.trans (s2.trans s3)).trans (Same.new hw)) ((s1.trans (s2.trans s3)).free hw) ⟨_, upd_same, ?_⟩⟩
    exact (RpL.A1 (cut_rpl hx) hw).stp (.of (Same.new hw)))⟩
theorem je_slS {lo hi : Option Expr} {l h : Option Int} {z : Str} (he : JE X B H0 false sl e (.str z)) (hl : JP X B H0 sl lo l) (hh : JP X B H0 sl hi h) (hz : z.length ≤ sizeLine) : JE X B H0 m sl (.Subscript e (.Slice lo hi none p2) pos) (.str (cutS z l h)) := ⟨fun gh as σ H Q S q =>
  PEt (pe_slice sl_str pe_w po_w po_w) (he.run gh as σ H _ S fun v H1 s1 r1 => hl.run (S.same s1) fun H2 s2 => hh.run (S.same (s1.trans s2)) fun H3 s3 => ⟨z, r1, hz, q _ H3 (s1.trans (s2.trans s3)) rfl⟩)⟩
/-! ### lists put together -/
theorem jf_catL (ha : JE X B H0 true sl a (.lst ds)) (hb : JE X B H0 true sl b (.lst dt)) (hl : ds.length + dt.length ≤ sizeLine) : JF X B H0 sl (.BinOp a .Add b pos) (.lst (ds ++ dt)) := ⟨fun gh as σ H Q S q =>
  PEt (pe_op op_cat pe_w pe_w) (ha.run gh as σ H _ S fun v H1 s1 r1 => hb.run gh as σ H1 _ (S.same s1) fun u H2 s2 r2 => by
    obtain ⟨t, xs, rfl, h1, n1, x1⟩ := r1.stp (.of s2)
    obtain ⟨t', ys, rfl, h2, n2, x2⟩ := r2
    refine ⟨t, t', xs, ys, rfl, rfl, h1, h2, by rw [x1.len, x2.len]; exact hl, fun w hw => q w _ ((s1.trans s2).trans (Same.new hw)) ((s1.trans s2).free hw) ⟨_, upd_same, ?_⟩⟩
    exact (RpL.A1 (x1.app x2) hw).stp (.of (Same.new hw)))⟩
theorem RpL.rep {K : PySem.W.Frag} {A : Addr → Prop} {H : Hp} {xs : List V} (r : RpL K A H ds xs) : ∀ k : Nat, RpL K A H (List.replicate k ds).flatten (List.replicate k xs).flatten
  | 0 => rfl
  | k + 1 => by
    rw [List.replicate_succ, List.replicate_succ, List.flatten_cons, List.flatten_cons]
    exact r.app (RpL.rep r k)
theorem jf_rep {k : Int} (ha : JE X B H0 true sl a (.lst ds)) (hb : JE X B H0 false sl b (.int k)) (h : -(2 ^ 63) ≤ k ∧ k < 2 ^ 63 ∧ ds.length * k.toNat ≤ sizeLine) : JF X B H0 sl (.BinOp a .Mult b pos) (.lst (List.replicate k.toNat ds).flatten) := ⟨fun gh as σ H Q S q =>
  PEt (pe_op op_rep pe_w pe_w) (ha.run gh as σ H _ S fun v H1 s1 r1 => hb.run gh as σ H1 _ (S.same s1) fun u H2 s2 r2 => by
    obtain ⟨t, xs, rfl, h1, n1, x1⟩ := r1.stp (.of s2)
    refine ⟨t, k, xs, rfl, r2, h1, h.1, h.2.1, by rw [x1.len]; exact h.2.2, fun w hw => q w _ ((s1.trans s2).trans (Same.new hw)) ((s1.trans s2).free hw) ⟨_, upd_same, ?_⟩⟩
    exact (RpL.A1 (x1.rep _) hw).stp (.of (Same.new hw)))⟩
/-! ### list(..), tuple(..) -/
theorem jf_listL (hg : Gl X "list") (hm : X.mg "list" = none) (ha : JA X B H0 true sl [a] [da]) (hr : RdL da ds) (he : starEach [a] X.env = (false, eval a X.env) :: starEach [] X.env := by rfl) (hpl : (backTo pos (starEach [] X.env)).any (·.1) = false := by rfl) : JF X B H0 sl (.Call (.Name "list" p) [a] [] pos) (.lst ds) :=
  jf_cty call_list_of hg hm boot_list ha (he := he) (hpl := hpl) fun as vs H Q r q => by
    obtain ⟨z, r', rfl, h1, h2⟩ := r
    cases (show r' = [] from h2)
    obtain ⟨t, xs, rfl, hs, hl⟩ := hr.seq h1
    exact ⟨t, xs, rfl, .inl hs, fun w hw => q w _ hw (Same.new hw) ⟨_, upd_same, (RpL.A1 hl hw).stp (.of (Same.new hw))⟩⟩
theorem jf_listU (hg : Gl X "list") (hm : X.mg "list" = none) (ha : JA X B H0 true sl [a] [.tup ds]) (he : starEach [a] X.env = (false, eval a X.env) :: starEach [] X.env := by rfl) (hpl : (backTo pos (starEach [] X.env)).any (·.1) = false := by rfl) : JF X B H0 sl (.Call (.Name "list" p) [a] [] pos) (.lst ds) :=
  jf_cty call_list_of hg hm boot_list ha (he := he) (hpl := hpl) fun as vs H Q r q => by
    obtain ⟨z, r', rfl, h1, h2⟩ := r
    cases (show r' = [] from h2)
    obtain ⟨t, xs, rfl, hs, hl⟩ := h1
    exact ⟨t, xs, rfl, .inr (.inl (.inl hs)), fun w hw => q w _ hw (Same.new hw) ⟨_, upd_same, (RpL.A1 hl hw).stp (.of (Same.new hw))⟩⟩
theorem je_tupL (hg : Gl X "tuple") (hm : X.mg "tuple" = none) (ha : JA X B H0 m sl [a] [da]) (hr : RdL da ds) (he : starEach [a] X.env = (false, eval a X.env) :: starEach [] X.env := by rfl) (hpl : (backTo pos (starEach [] X.env)).any (·.1) = false := by rfl) : JE X B H0 m sl (.Call (.Name "tuple" p) [a] [] pos) (.tup ds) :=
  je_cty call_tuple_of hg hm boot_tuple ha (he := he) (hpl := hpl) fun as vs H Q r q => by
    obtain ⟨z, r', rfl, h1, h2⟩ := r
    cases (show r' = [] from h2)
    obtain ⟨t, xs, rfl, hs, hl⟩ := hr.seq h1
    exact ⟨t, xs, rfl, .inl ⟨hs, fun w hw => q _ _ (Same.new hw) ⟨w, xs, rfl, upd_same, hl.stp (.of (Same.new hw))⟩⟩⟩
theorem je_tupU (hg : Gl X "tuple") (hm : X.mg "tuple" = none) (ha : JA X B H0 m sl [a] [.tup ds]) (he : starEach [a] X.env = (false, eval a X.env) :: starEach [] X.env := by rfl) (hpl : (backTo pos (starEach [] X.env)).any (·.1) = false := by rfl) : JE X B H0 m sl (.Call (.Name "tuple" p) [a] [] pos) (.tup ds) :=
  je_cty call_tuple_of hg hm boot_tuple ha (he := he) (hpl := hpl) fun as vs H Q r q => by
    obtain ⟨z, r', rfl, h1, h2⟩ := r
    cases (show r' = [] from h2)
    obtain ⟨t, xs, rfl, hs, hl⟩ := h1
    exact ⟨t, xs, rfl, .inr ⟨.inl (.inl hs), q _ H (Same.refl H) ⟨t, xs, rfl, hs, hl⟩⟩⟩
/-! ### sums, all -/
theorem je_all {bs : List Bool} (hc : X.calm = true) (hg : Gl X "all") (hm : X.mg "all" = none) (ha : JA X B H0 false sl [a] [.lst (bs.map .bl)]) (he : starEach [a] X.env = (false, eval a X.env) :: starEach [] X.env := by rfl) (hpl : (backTo pos (starEach [] X.env)).any (·.1) = false := by rfl) : JE X B H0 m sl (.Call (.Name "all" p) [a] [] pos) (.bl (bs.all id)) :=
  je_cb (f := "all") (cr_all hc) hg hm boot_all ha (he := he) (hpl := hpl) fun as vs H Q r q => by
    obtain ⟨z, r', rfl, h1, h2⟩ := r
    cases (show r' = [] from h2)
    obtain ⟨t, xs, rfl, hs, hn, hl⟩ := h1
    rw [rpl_bls] at hl
    subst hl
    exact ⟨t, bs, rfl, .inl (.inl hs), q _ H (Same.refl H) rfl⟩
theorem je_sum {ns : List Int} (hc : X.calm = true) (hg : Gl X "sum") (hm : X.mg "sum" = none) (ha : JA X B H0 false sl [a] [.lst (ns.map .int)]) (he : starEach [a] X.env = (false, eval a X.env) :: starEach [] X.env := by rfl) (hpl : (backTo pos (starEach [] X.env)).any (·.1) = false := by rfl) : JE X B H0 m sl (.Call (.Name "sum" p) [a] [] pos) (.int ns.sum) :=
  je_cb (f := "sum") (cr_sum hc) hg hm boot_sum ha (he := he) (hpl := hpl) fun as vs H Q r q => by
    obtain ⟨z, r', rfl, h1, h2⟩ := r
    cases (show r' = [] from h2)
    obtain ⟨t, xs, rfl, hs, hn, hl⟩ := h1
    rw [rpl_ints] at hl
    subst hl
    exact ⟨t, ns, rfl, .inl (.inl hs), q _ H (Same.refl H) rfl⟩
/-! ### own lists changed by their methods -/
theorem SOK.stpU {K : PySem.W.Frag} {gh : Gh} {as : Ow} {σ : L2.St} {H : Hp} {q : Addr} {o u : HO} (S : SOK K B H0 gh as sl σ H) (ha : some q ∈ as) (hq : H q = some u) (hu : ¬ isT u) : Stp (AOf B as) H (upd H q o) := ⟨fun b v hb c _ => by
  by_cases z : b = q
  · subst z
    rw [hq] at hb
    cases hb
    rcases c with c | c
    · exact absurd (.inr ha) c
    · exact absurd c hu
  · rw [upd_ne z]
    exact hb⟩
abbrev oName (x : Str) (p : Pos) : Expr := .Name x p
/-- what an own list's method leaves: v is handed back, the list holds zs -/
def MutV (K : PySem.W.Frag) (A : Addr → Prop) (H : Hp) (q : Addr) (xs : List V) (r : V → List V → Hp → VK → Prop) (vs : List V) (d' dv : D) : Prop :=
  ∀ Q : VK, (∀ v zs, (∀ H', (∀ b o, b ≠ q → H b = some o → H' b = some o) → Stp A H H' → H' q = some (.lst zs) → RpO K A H' q d' ∧ Rp K A H' dv v) → Q v (upd H q (.lst zs))) → r (.ref q) vs H Q
theorem js_meth {r : V → List V → Hp → VK → Prop} {nm : Str} {id : String} {ap cp : Pos} {d' dv : D} (i : Nat) (slt : Slot "list" nm id) (hty : typeOf (.builtin id) = pure (.type "method_descriptor")) (hm : MtR X id r) (hN : X.N[i]? = some x) (hv : Vis X.env.scope x) (ho : sl[i]? = some (.ow (.lst ds)))
    (ha : JA X B H0 true sl (e :: es) dt) (k : ∀ A H q xs vs, H q = some (.lst xs) → RpL X.K A H ds xs → RpL X.K A H dt vs → MutV X.K A H q xs r vs d' dv)
    (h : P.nx (sl.set i (.ow d'))) (hs : swapsWith (.Call (.Attribute (.Name x p) nm ap) (e :: es) [] cp) none pos.line X.env = pure false := by rfl) (hd : (x == ("__debug__" : Str)) = false := by decide) (hcd : (x == ("__classdict__" : Str)) = false := by decide)
    (hbase : attributeBase (.Name x p) nm X.env (eval (.Name x p) X.env) = eval (.Name x p) X.env := by rfl)
    (hfew : ((backTo cp (starEach (e :: es) X.env)).all (fun x => !x.1) && (backToKw cp (keywordEach [] X.env)).all (fun x => x.1.isSome) && decide ((e :: es).length + ([] : List Keyword).length + (if ([] : List Keyword).isEmpty then 0 else 1) < 30)) = true := by rfl)
    (hline : (ap.endLine == cp.line) = true := by rfl) (hst : starEach (e :: es) X.env = (false, eval e X.env) :: starEach es X.env := by rfl) (hpl : (backTo cp (starEach es X.env)).any (·.1) = false := by rfl) : JS X B H0 sl (.Expr (.Call (.Attribute (.Name x p) nm ap) (e :: es) [] cp) pos) P := ⟨fun gh as σ H S => by
  obtain ⟨q, e1, e2, e3, xs, e4, e5⟩ := S.at ho
  refine PSt (ps_expr (pe_bm PySem.F.plainAttrs_list slt hty hm (pe_var hN hv hd hcd) pa_w hbase hfew hline hst hpl) hs) ⟨.ref q, e1, Or.inl ⟨rfl, xs, .inl (.inl e4)⟩, ha.run gh as σ H _ S fun vs H2 s2 r2 => ?_⟩
  refine k (AOf B as) H2 q xs vs (s2 _ _ e4) (e5.stp (.of s2)) r2 _ fun v zs g => ?_
  have st : Stp (AOf B as) H2 (upd H2 q (.lst zs)) := (S.same s2).stpU e2 (s2 _ _ e4) (fun z => z)
  exact ⟨as, _, h, (S.same s2).mut ho e1 (g _ (fun b o hb hq => by rw [upd_ne hb]; exact hq) st upd_same).1⟩⟩
theorem js_meth0 {r : V → List V → Hp → VK → Prop} {nm : Str} {id : String} {ap cp : Pos} {d' dv : D} (i : Nat) (slt : Slot "list" nm id) (hty : typeOf (.builtin id) = pure (.type "method_descriptor")) (hm : MtR X id r) (hN : X.N[i]? = some x) (hv : Vis X.env.scope x) (ho : sl[i]? = some (.ow (.lst ds)))
    (k : ∀ A H q xs, H q = some (.lst xs) → RpL X.K A H ds xs → MutV X.K A H q xs r [] d' dv)
    (h : P.nx (sl.set i (.ow d'))) (hs : swapsWith (.Call (.Attribute (.Name x p) nm ap) [] [] cp) none pos.line X.env = pure false := by rfl) (hd : (x == ("__debug__" : Str)) = false := by decide) (hcd : (x == ("__classdict__" : Str)) = false := by decide)
    (hbase : attributeBase (.Name x p) nm X.env (eval (.Name x p) X.env) = eval (.Name x p) X.env := by rfl) (hline : (ap.endLine == cp.line) = true := by rfl) : JS X B H0 sl (.Expr (.Call (.Attribute (.Name x p) nm ap) [] [] cp) pos) P := ⟨fun gh as σ H S => by
  obtain ⟨q, e1, e2, e3, xs, e4, e5⟩ := S.at ho
  refine PSt (ps_expr (pe_bm0 PySem.F.plainAttrs_list slt hty hm (pe_var hN hv hd hcd) hbase hline) hs) ⟨.ref q, e1, Or.inl ⟨rfl, xs, .inl (.inl e4)⟩, ?_⟩
  refine k (AOf B as) H q xs e4 e5 _ fun v zs g => ?_
  have st : Stp (AOf B as) H (upd H q (.lst zs)) := S.stpU e2 e4 (fun z => z)
  exact ⟨as, _, h, S.mut ho e1 (g _ (fun b o hb hq => by rw [upd_ne hb]; exact hq) st upd_same).1⟩⟩
/-- y = x.m(..) -/
theorem js_methS {r : V → List V → Hp → VK → Prop} {nm : Str} {id : String} {ap cp : Pos} {d' dv : D} (i j : Nat) (slt : Slot "list" nm id) (hty : typeOf (.builtin id) = pure (.type "method_descriptor")) (hm : MtR X id r) (hN : X.N[i]? = some x) (hv : Vis X.env.scope x) (ho : sl[i]? = some (.ow (.lst ds)))
    (ha : JA X B H0 true sl (e :: es) dt) (k : ∀ A H q xs vs, H q = some (.lst xs) → RpL X.K A H ds xs → RpL X.K A H dt vs → MutV X.K A H q xs r vs d' dv)
    (hnd : X.N.Nodup) (hj : X.N[j]? = some y) (hy : Loc X.env.scope y) (h : P.nx ((sl.set i (.ow d')).set j (.va dv))) (hs : swapsWith (.Call (.Attribute (.Name x p) nm ap) (e :: es) [] cp) (some (.Name y px)) pos.line X.env = pure false := by rfl) (hf : X.fn y = true ∨ X.env.scope.names.lookup y = some .local := by first | exact .inl rfl | exact .inr rfl) (hd : (x == ("__debug__" : Str)) = false := by decide) (hcd : (x == ("__classdict__" : Str)) = false := by decide)
    (hbase : attributeBase (.Name x p) nm X.env (eval (.Name x p) X.env) = eval (.Name x p) X.env := by rfl)
    (hfew : ((backTo cp (starEach (e :: es) X.env)).all (fun x => !x.1) && (backToKw cp (keywordEach [] X.env)).all (fun x => x.1.isSome) && decide ((e :: es).length + ([] : List Keyword).length + (if ([] : List Keyword).isEmpty then 0 else 1) < 30)) = true := by rfl)
    (hline : (ap.endLine == cp.line) = true := by rfl) (hst : starEach (e :: es) X.env = (false, eval e X.env) :: starEach es X.env := by rfl) (hpl : (backTo cp (starEach es X.env)).any (·.1) = false := by rfl) : JS X B H0 sl (.Assign [.Name y px] (.Call (.Attribute (.Name x p) nm ap) (e :: es) [] cp) pos) P := ⟨fun gh as σ H S => by
  obtain ⟨q, e1, e2, e3, xs, e4, e5⟩ := S.at ho
  refine PSt (ps_set hnd hj hy (pe_bm PySem.F.plainAttrs_list slt hty hm (pe_var hN hv hd hcd) pa_w hbase hfew hline hst hpl) hs hf) ⟨.ref q, e1, Or.inl ⟨rfl, xs, .inl (.inl e4)⟩, ha.run gh as σ H _ S fun vs H2 s2 r2 => ?_⟩
  refine k (AOf B as) H2 q xs vs (s2 _ _ e4) (e5.stp (.of s2)) r2 _ fun v zs g => ?_
  have st : Stp (AOf B as) H2 (upd H2 q (.lst zs)) := (S.same s2).stpU e2 (s2 _ _ e4) (fun z => z)
  obtain ⟨g1, g2⟩ := g _ (fun b o hb hq => by rw [upd_ne hb]; exact hq) st upd_same
  exact ⟨_, _, h, ((S.same s2).mut ho e1 g1).put g2⟩⟩
theorem js_methS0 {r : V → List V → Hp → VK → Prop} {nm : Str} {id : String} {ap cp : Pos} {d' dv : D} (i j : Nat) (slt : Slot "list" nm id) (hty : typeOf (.builtin id) = pure (.type "method_descriptor")) (hm : MtR X id r) (hN : X.N[i]? = some x) (hv : Vis X.env.scope x) (ho : sl[i]? = some (.ow (.lst ds)))
    (k : ∀ A H q xs, H q = some (.lst xs) → RpL X.K A H ds xs → MutV X.K A H q xs r [] d' dv)
    (hnd : X.N.Nodup) (hj : X.N[j]? = some y) (hy : Loc X.env.scope y) (h : P.nx ((sl.set i (.ow d')).set j (.va dv))) (hs : swapsWith (.Call (.Attribute (.Name x p) nm ap) [] [] cp) (some (.Name y px)) pos.line X.env = pure false := by rfl) (hf : X.fn y = true ∨ X.env.scope.names.lookup y = some .local := by first | exact .inl rfl | exact .inr rfl) (hd : (x == ("__debug__" : Str)) = false := by decide) (hcd : (x == ("__classdict__" : Str)) = false := by decide)
    (hbase : attributeBase (.Name x p) nm X.env (eval (.Name x p) X.env) = eval (.Name x p) X.env := by rfl) (hline : (ap.endLine == cp.line) = true := by rfl) : JS X B H0 sl (.Assign [.Name y px] (.Call (.Attribute (.Name x p) nm ap) [] [] cp) pos) P := ⟨fun gh as σ H S => by
  obtain ⟨q, e1, e2, e3, xs, e4, e5⟩ := S.at ho
  refine PSt (ps_set hnd hj hy (pe_bm0 PySem.F.plainAttrs_list slt hty hm (pe_var hN hv hd hcd) hbase hline) hs hf) ⟨.ref q, e1, Or.inl ⟨rfl, xs, .inl (.inl e4)⟩, ?_⟩
  refine k (AOf B as) H q xs e4 e5 _ fun v zs g => ?_
  have st : Stp (AOf B as) H (upd H q (.lst zs)) := S.stpU e2 e4 (fun z => z)
  obtain ⟨g1, g2⟩ := g _ (fun b o hb hq => by rw [upd_ne hb]; exact hq) st upd_same
  exact ⟨_, _, h, (S.mut ho e1 g1).put g2⟩⟩
theorem mu_app (hl : ds.length < sizeLine) : ∀ A H q xs vs, H q = some (.lst xs) → RpL X.K A H ds xs → RpL X.K A H [d] vs → MutV X.K A H q xs rAppend vs (.lst (ds ++ [d])) .non := fun A H q xs vs hq hx hv Q g => by
  obtain ⟨v, r', rfl, h1, h2⟩ := hv
  cases (show r' = [] from h2)
  exact ⟨q, xs, v, rfl, rfl, hq, by rw [hx.len]; exact hl, g _ _ fun H' k st e => ⟨⟨_, e, (hx.stp st).app (RpL.one (h1.stp st))⟩, rfl⟩⟩
theorem mu_ext (hl : ds.length + dt.length ≤ sizeLine) : ∀ A H q xs vs, H q = some (.lst xs) → RpL X.K A H ds xs → RpL X.K A H [.lst dt] vs → MutV X.K A H q xs rExtend vs (.lst (ds ++ dt)) .non := fun A H q xs vs hq hx hv Q g => by
  obtain ⟨v, r', rfl, ⟨t, ys, rfl, ht, nt, hy⟩, h2⟩ := hv
  cases (show r' = [] from h2)
  exact ⟨q, t, xs, ys, rfl, rfl, hq, ht, by rw [hx.len, hy.len]; exact hl, g _ _ fun H' k st e => ⟨⟨_, e, (hx.stp st).app (hy.stp st)⟩, rfl⟩⟩
theorem mu_clr : ∀ A H q xs, H q = some (.lst xs) → RpL X.K A H ds xs → MutV X.K A H q xs rClear [] (.lst []) .non := fun A H q xs hq hx Q g => ⟨q, xs, rfl, rfl, hq, g _ _ fun H' k st e => ⟨⟨_, e, rfl⟩, rfl⟩⟩
theorem mu_rev : ∀ A H q xs, H q = some (.lst xs) → RpL X.K A H ds xs → MutV X.K A H q xs rReverse [] (.lst ds.reverse) .non := fun A H q xs hq hx Q g => ⟨q, xs, rfl, rfl, hq, g _ _ fun H' k st e => ⟨⟨_, e, (hx.stp st).rev⟩, rfl⟩⟩
theorem rpl_dl {K : PySem.W.Frag} {A : Addr → Prop} {H : Hp} {xs : List V} (h : RpL K A H ds xs) : RpL K A H ds.dropLast xs.dropLast := by
  rw [List.dropLast_eq_take, List.dropLast_eq_take, h.len]
  exact h.take _
theorem mu_pop (hl : ds[ds.length - 1]? = some d) : ∀ A H q xs, H q = some (.lst xs) → RpL X.K A H ds xs → MutV X.K A H q xs rPop [] (.lst ds.dropLast) d := fun A H q xs hq hx Q g => by
  obtain ⟨z, hz, rz⟩ := hx.get hl
  exact ⟨q, xs, z, rfl, rfl, hq, by rw [hx.len]; exact hz, g _ _ fun H' k st e => ⟨⟨_, e, (rpl_dl hx).stp st⟩, rz.stp st⟩⟩
theorem mu_pop0 {d : D} {ds : List D} : ∀ A H q xs vs, H q = some (.lst xs) → RpL X.K A H (d :: ds) xs → RpL X.K A H [.int 0] vs → MutV X.K A H q xs rPopAt vs (.lst ds) d := fun A H q xs vs hq hx hv Q g => by
  obtain ⟨v, r', rfl, h1, h2⟩ := hv
  cases (show r' = [] from h2); cases (show v = .int 0 from h1)
  obtain ⟨z, zs, rfl, rz, rzs⟩ := hx
  exact ⟨q, _, 0, 0, z, rfl, rfl, hq, by decide, by decide, by unfold seqIndex?; simp, rfl, g _ _ fun H' k st e => ⟨⟨_, e, rzs.stp st⟩, rz.stp st⟩⟩
/-- xs[i] = v -/
theorem js_setI (i : Nat) {j : Int} {n : Nat} {ix : Expr} {sp : Pos} (hN : X.N[i]? = some x) (hv : Vis X.env.scope x) (ho : sl[i]? = some (.ow (.lst ds))) (he : JE X B H0 true sl e d) (hi : JE X B H0 false sl ix (.int j)) (hj : ixN ds.length j = some n) (h : P.nx (sl.set i (.ow (.lst (ds.set n d)))))
    (hs : swapsWithSole [.Subscript (.Name x p) ix sp] e pos.line X.env = pure false := by rfl) (hw : swappedStores [.Subscript (.Name x p) ix sp] e X.env = pure none := by rfl) (h1 : (assignEach [.Subscript (.Name x p) ix sp] X.env).map (·.2) = [assign (.Subscript (.Name x p) ix sp) X.env] := by rfl)
    (ha : ∀ v, assign (.Subscript (.Name x p) ix sp) X.env v = (do
      let ov ← holding [v] (eval (.Name x p) X.env)
      let iv ← holding [v, ov] (eval ix X.env)
      standAt sp
      holding [v, ov, iv] (setItem ov iv v)
      release [v, ov, iv] []) := by intro _; rfl) (hd : (x == ("__debug__" : Str)) = false := by decide) (hcd : (x == ("__classdict__" : Str)) = false := by decide) : JS X B H0 sl (.Assign [.Subscript (.Name x p) ix sp] e pos) P := ⟨fun gh as σ H S => by
  obtain ⟨q, e1, e2, e3, xs, e4, e5⟩ := S.at ho
  refine PSt (ps_asg pe_w (pg_sub (pe_var hN hv hd hcd) pe_w set_list ha) hs hw h1) (he.run gh as σ H _ S fun v H1 s1 r1 => ⟨.ref q, e1, hi.run gh as σ H1 _ (S.same s1) fun w H2 s2 r2 => ?_⟩)
  cases (show w = .int j from r2)
  have s := s1.trans s2
  refine ⟨q, xs, j, n, rfl, rfl, s _ _ e4, by rw [e5.len]; exact hj, as, _, h, ?_⟩
  have st : Stp (AOf B as) H2 (upd H2 q (.lst (xs.set n v))) := (S.same s).stpU e2 (s _ _ e4) (fun z => z)
  exact (S.same s).mut ho e1 ⟨_, upd_same, RpL.set ((r1.stp (.of s2)).stp st) n ((e5.stp (.of s)).stp st)⟩⟩
end
/-! ### zip, enumerate, reversed -/
section
variable {X : Cx} {B : Addr → Prop} {H0 : Hp} {sl : List Sl} {e a b tg : Expr} {elts : List Expr} {kk : Nat} {da db : D} {ds dt : List D} {pos p tp : Pos}
/-- one ghost for two lists -/
theorem seq_at {K : PySem.W.Frag} {A : Addr → Prop} {H : Hp} {d : D} {ds : List D} {v : V} (r : RdL d ds) (h : Rp K A H d v) : ∃ q xs g0, v = .ref q ∧ GhOK K A H (g0, ds, xs) ∧ ∀ A' H', GhOK K A' H' (g0, ds, xs) → SqL K H' q xs := by
  cases r with
  | lst =>
    obtain ⟨q, xs, rfl, t, n, l⟩ := h
    exact ⟨q, xs, [(q, .lst xs)], rfl, ⟨fun b u e => by cases List.mem_singleton.mp e; exact ⟨t, .inl n, by intro _ z; cases z⟩, l⟩, fun A' H' G => .inl (.inl (G.1 q _ List.mem_cons_self).1)⟩
  | fro =>
    obtain ⟨q, xs, rfl, t, l⟩ := h
    rcases t with ⟨o, t⟩ | t
    · exact ⟨q, xs, [(q, .frz o (.lst xs))], rfl, ⟨fun b u e => by cases List.mem_singleton.mp e; exact ⟨t, .inr trivial, by intro _ z; cases z⟩, l⟩, fun A' H' G => .inl (.inr ⟨o, (G.1 q _ List.mem_cons_self).1⟩)⟩
    · exact ⟨q, xs, [], rfl, ⟨fun b u e => (by cases e), l⟩, fun A' H' G => .inr t⟩
def enumD (ds : List D) : List D := (List.range ds.length).zipWith (fun (k : Nat) d => D.tup [.int (k : Int), d]) ds
theorem enumD_get {k : Nat} (h : k < ds.length) : (enumD ds)[k]? = some (.tup [.int (k : Int), ds[k]]) := by
  unfold enumD
  rw [List.getElem?_zipWith, List.getElem?_range h, List.getElem?_eq_getElem h]
theorem enumD_len : (enumD ds).length = ds.length := by
  unfold enumD
  rw [List.length_zipWith, List.length_range, Nat.min_self]
theorem ji_enumL (hg : Gl X "enumerate") (hm : X.mg "enumerate" = none) (ha : JA X B H0 true sl [a] [da]) (hr : RdL da ds) (hs : starEach [a] X.env = [(false, eval a X.env)] := by rfl) : JI X B H0 sl (.Tuple elts kk tp) (.Call (.Name "enumerate" p) [a] [] pos) (enumD ds) := ⟨fun gh as σ H R S q =>
  PIt (pi_enum hg hm pa_w hs) (ha.run gh as σ H _ S fun vs H1 s1 r => by
    obtain ⟨v, r', rfl, h1, h2⟩ := r
    cases (show r' = [] from h2)
    obtain ⟨t, xs, g0, rfl, G, k⟩ := seq_at hr h1
    refine ⟨t, xs, rfl, k _ _ G, q _ H1 (g0, ds, xs) s1 G ⟨fun A i H' G' hi => ?_, fun A H' G' => ⟨xs, k _ _ G', by rw [enumD_len, G'.2.len]; exact Nat.le_refl _⟩⟩⟩
    rw [enumD_len] at hi
    obtain ⟨x, hx, rx⟩ := G'.2.get (i := i) (d := ds[i]) (by rw [List.getElem?_eq_getElem hi])
    refine ⟨⟨xs, x, k _ _ G', hx⟩, fun w H'' ⟨T, x', e1, e2, e3, f⟩ => ?_⟩
    have : x' = x := Option.some.inj ((f xs (k _ _ G')).symm.trans hx)
    subst this
    subst e3
    exact ⟨Same.new e2, _, enumD_get hi, T, _, e1, upd_same, _, _, rfl, rfl, _, _, rfl, rx.stp (.of (Same.new e2)), rfl⟩)⟩
def zipD (ds dt : List D) : List D := List.zipWith (fun x y => D.tup [x, y]) ds dt
theorem zipD_get {k : Nat} (h : k < ds.length) (h2 : k < dt.length) : (zipD ds dt)[k]? = some (.tup [ds[k], dt[k]]) := by
  unfold zipD
  rw [List.getElem?_zipWith, List.getElem?_eq_getElem h, List.getElem?_eq_getElem h2]
theorem rpl_split {K : PySem.W.Frag} {A : Addr → Prop} {H : Hp} {xs ys : List V} (hl : xs.length = ds.length) (h : RpL K A H (ds ++ dt) (xs ++ ys)) : RpL K A H ds xs ∧ RpL K A H dt ys := by
  have h1 := h.take ds.length
  have h2 := h.drop ds.length
  rw [List.take_left] at h1
  rw [List.drop_left] at h2
  rw [← hl, List.take_left] at h1
  rw [← hl, List.drop_left] at h2
  exact ⟨h1, h2⟩
theorem ji_zipLL (hg : Gl X "zip") (hm : X.mg "zip" = none) (ha : JA X B H0 true sl [a, b] [da, db]) (hr : RdL da ds) (hr2 : RdL db dt) (hs : starEach [a, b] X.env = (false, eval a X.env) :: starEach [b] X.env := by rfl) (hpl : (backTo pos (starEach [b] X.env)).any (·.1) = false := by rfl) : JI X B H0 sl (.Tuple elts kk tp) (.Call (.Name "zip" p) [a, b] [] pos) (zipD ds dt) := ⟨fun gh as σ H R S q =>
  PIt (pi_zip hg hm pa_w hs hpl) (ha.run gh as σ H _ S fun vs H1 s1 r => by
    obtain ⟨v, r', rfl, h1, w, r2, rfl, h2, h3⟩ := r
    cases (show r2 = [] from h3)
    obtain ⟨t, xs, g0, rfl, G, k⟩ := seq_at hr h1
    obtain ⟨t2, ys, g1, rfl, G2, k2⟩ := seq_at hr2 h2
    have lx : xs.length = ds.length := G.2.len
    have ly : ys.length = dt.length := G2.2.len
    have part : ∀ A H, GhOK X.K A H (g0 ++ g1, ds ++ dt, xs ++ ys) → GhOK X.K A H (g0, ds, xs) ∧ GhOK X.K A H (g1, dt, ys) := fun A H G => by
      obtain ⟨p1, p2⟩ := rpl_split lx G.2
      exact ⟨⟨fun b u e => G.1 b u (List.mem_append_left _ e), p1⟩, fun b u e => G.1 b u (List.mem_append_right _ e), p2⟩
    refine ⟨t, t2, xs, ys, rfl, k _ _ G, k2 _ _ G2, q _ H1 (g0 ++ g1, ds ++ dt, xs ++ ys) s1 ⟨fun b u e => (List.mem_append.mp e).elim (G.1 b u) (G2.1 b u), G.2.app G2.2⟩ ⟨fun A i H' G' hi => ?_, fun A H' G' => ?_⟩⟩
    · obtain ⟨P1, P2⟩ := part A H' G'
      unfold zipD at hi
      rw [List.length_zipWith] at hi
      obtain ⟨x, hx, rx⟩ := P1.2.get (i := i) (d := ds[i]'(by omega)) (by rw [List.getElem?_eq_getElem])
      obtain ⟨y, hy, ry⟩ := P2.2.get (i := i) (d := dt[i]'(by omega)) (by rw [List.getElem?_eq_getElem])
      refine ⟨⟨xs, ys, x, y, k _ _ P1, k2 _ _ P2, hx, hy⟩, fun w H'' ⟨T, x', y', e1, e2, e3, f, f2⟩ => ?_⟩
      have z1 : x' = x := Option.some.inj ((f xs (k _ _ P1)).symm.trans hx)
      have z2 : y' = y := Option.some.inj ((f2 ys (k2 _ _ P2)).symm.trans hy)
      subst z1 z2 e3
      exact ⟨Same.new e2, _, zipD_get (by omega) (by omega), T, _, e1, upd_same, _, _, rfl, rx.stp (.of (Same.new e2)), _, _, rfl, ry.stp (.of (Same.new e2)), rfl⟩
    · obtain ⟨P1, P2⟩ := part A H' G'
      refine ⟨xs, ys, k _ _ P1, k2 _ _ P2, ?_⟩
      unfold zipD
      rw [List.length_zipWith]
      omega)⟩
theorem ji_revL (hg : Gl X "reversed") (hm : X.mg "reversed" = none) (ha : JA X B H0 true sl [a] [da]) (hr : RdL da ds) (hs : starEach [a] X.env = [(false, eval a X.env)] := by rfl) : JI X B H0 sl tg (.Call (.Name "reversed" p) [a] [] pos) ds.reverse := ⟨fun gh as σ H R S q =>
  PIt (pi_reversed hg hm pa_w hs) (ha.run gh as σ H _ S fun vs H1 s1 r => by
    obtain ⟨v, r', rfl, h1, h2⟩ := r
    cases (show r' = [] from h2)
    obtain ⟨t, xs, g0, rfl, G, k⟩ := seq_at hr h1
    refine ⟨t, xs, rfl, k _ _ G, q _ H1 (g0, ds, xs) s1 G ⟨fun A i H' G' hi => ?_, fun A H' G' => ?_⟩⟩
    · rw [List.length_reverse] at hi
      have hl : xs.length = ds.length := G'.2.len
      obtain ⟨x, hx, rx⟩ := G'.2.get (i := xs.length - 1 - i) (d := ds[ds.length - 1 - i]) (by show ds[xs.length - 1 - i]? = _; rw [hl, List.getElem?_eq_getElem (by omega)])
      refine ⟨⟨by omega, xs, x, k _ _ G', hx⟩, fun w H'' ⟨e1, f⟩ => ?_⟩
      subst e1
      have : w = x := Option.some.inj ((f xs (k _ _ G')).symm.trans hx)
      subst this
      exact ⟨Same.refl _, _, by rw [List.getElem?_reverse hi, List.getElem?_eq_getElem (by omega)], rx⟩
    · show xs.length ≤ ds.reverse.length
      rw [List.length_reverse, G'.2.len]
      exact Nat.le_refl _)⟩
end
end PD
namespace PD
open PySem PySem.Spec PyProof.Rows L2
variable [TN]
/-! ### == of data -/
mutual
def toPy : D → PyData
  | .non => .none
  | .bl b => .bool b
  | .int i => .int i
  | .str x => .str x
  | .tup l => .tuple (toPyL l)
  | .lst l => .list (toPyL l)
  | .fro l => .list (toPyL l)
  | .dct _ _ => .none
  | .frd _ _ => .none
  | .rf _ => .none
def toPyL : List D → List PyData
  | [] => []
  | d :: l => toPy d :: toPyL l
end
mutual
/-- no dict in it, its texts of true signs, not deep -/
def pyOk : Nat → D → Bool
  | _, .non => true
  | _, .bl _ => true
  | _, .int _ => true
  | _, .str x => x.cps.all (· < 0x110000)
  | n, .tup l => decide (0 < n) && pyOkL (n - 1) l
  | n, .lst l => decide (0 < n) && pyOkL (n - 1) l
  | n, .fro l => decide (0 < n) && pyOkL (n - 1) l
  | _, .dct _ _ => false
  | _, .frd _ _ => false
  | _, .rf _ => false
def pyOkL : Nat → List D → Bool
  | _, [] => true
  | n, d :: l => pyOk n d && pyOkL n l
end
mutual
theorem toPy_rp {K : PySem.W.Frag} {A : Addr → Prop} {H : Hp} : ∀ {d : D} {v : V} {n : Nat}, pyOk n d = true → Rp K A H d v → Dp K H v (toPy d)
  | .non, v, _, _, h => by cases (show v = .non from h); exact .non
  | .bl _, v, _, _, h => by cases (show v = .bl _ from h); exact .bl _
  | .int _, v, _, _, h => by cases (show v = .int _ from h); exact .int _
  | .str _, v, _, _, h => by cases (show v = .str _ from h); exact .str _
  | .tup l, v, n, i, h => by
    obtain ⟨a, xs, rfl, t, r⟩ := h
    have i' : (decide (0 < n) && pyOkL (n - 1) l) = true := i
    rw [Bool.and_eq_true] at i'
    exact .tup (.inl (.inl t)) (toPyL_rp i'.2 r)
  | .lst l, v, n, i, h => by
    obtain ⟨a, xs, rfl, t, _, r⟩ := h
    have i' : (decide (0 < n) && pyOkL (n - 1) l) = true := i
    rw [Bool.and_eq_true] at i'
    exact .lst (.inl (.inl t)) (toPyL_rp i'.2 r)
  | .fro l, v, n, i, h => by
    obtain ⟨a, xs, rfl, t, r⟩ := h
    have i' : (decide (0 < n) && pyOkL (n - 1) l) = true := i
    rw [Bool.and_eq_true] at i'
    exact .lst (t.elim (fun ⟨o, t⟩ => .inl (.inr ⟨o, t⟩)) .inr) (toPyL_rp i'.2 r)
  | .dct _ _, v, n, i, _ => by cases (show false = true from i)
  | .frd _ _, v, n, i, _ => by cases (show false = true from i)
  | .rf _, v, n, i, _ => by cases (show false = true from i)
theorem toPyL_rp {K : PySem.W.Frag} {A : Addr → Prop} {H : Hp} : ∀ {ds : List D} {xs : List V} {n : Nat}, pyOkL n ds = true → RpL K A H ds xs → DpAll K H xs (toPyL ds)
  | [], _, _, _, h => by cases (show _ = [] from h); exact .nil
  | d :: ds, _, n, i, h => by
    obtain ⟨x, r, rfl, h1, h2⟩ := h
    have i' : (pyOk n d && pyOkL n ds) = true := i
    rw [Bool.and_eq_true] at i'
    exact .cons (toPy_rp i'.1 h1) (toPyL_rp i'.2 h2)
end
mutual
theorem shaped1 : ∀ {d : D} {n : Nat}, pyOk n d = true → (toPy d).canLay0 = true ∧ (toPy d).depth ≤ n
  | .non, _, _ => ⟨rfl, Nat.zero_le _⟩
  | .bl _, _, _ => ⟨rfl, Nat.zero_le _⟩
  | .int _, _, _ => ⟨rfl, Nat.zero_le _⟩
  | .str _, _, h => ⟨h, Nat.zero_le _⟩
  | .tup l, n, i => by
    have i' : (decide (0 < n) && pyOkL (n - 1) l) = true := i
    rw [Bool.and_eq_true] at i'
    have h := shapedL i'.2
    have h0 := of_decide_eq_true i'.1
    exact ⟨h.1, by show PyData.depthAll _ + 1 ≤ n; omega⟩
  | .lst l, n, i => by
    have i' : (decide (0 < n) && pyOkL (n - 1) l) = true := i
    rw [Bool.and_eq_true] at i'
    have h := shapedL i'.2
    have h0 := of_decide_eq_true i'.1
    exact ⟨h.1, by show PyData.depthAll _ + 1 ≤ n; omega⟩
  | .fro l, n, i => by
    have i' : (decide (0 < n) && pyOkL (n - 1) l) = true := i
    rw [Bool.and_eq_true] at i'
    have h := shapedL i'.2
    have h0 := of_decide_eq_true i'.1
    exact ⟨h.1, by show PyData.depthAll _ + 1 ≤ n; omega⟩
  | .dct _ _, _, i => by cases (show false = true from i)
  | .frd _ _, _, i => by cases (show false = true from i)
  | .rf _, _, i => by cases (show false = true from i)
theorem shapedL : ∀ {l : List D} {n : Nat}, pyOkL n l = true → PyData.canLayAll0 (toPyL l) = true ∧ PyData.depthAll (toPyL l) ≤ n
  | [], _, _ => ⟨rfl, Nat.zero_le _⟩
  | d :: l, n, i => by
    have i' : (pyOk n d && pyOkL n l) = true := i
    rw [Bool.and_eq_true] at i'
    have h1 := shaped1 i'.1
    have h2 := shapedL i'.2
    refine ⟨?_, ?_⟩
    · show ((toPy d).canLay0 && PyData.canLayAll0 (toPyL l)) = true
      rw [h1.1, h2.1] <;> rfl
    · show max (toPy d).depth (PyData.depthAll (toPyL l)) ≤ n
      omega
end
theorem shaped_of {d : D} {n : Nat} (h : pyOk n d = true) (hn : n ≤ 64) : SeqAt.shaped (toPy d) = true := by
  have h1 := shaped1 h
  unfold SeqAt.shaped
  rw [h1.1, decide_eq_true (by omega)] <;> rfl
/-- what == answers -/
def deq (d e : D) : Bool := PyData.eqv (toPy d) (toPy e)
def deqL (d e : List D) : Bool := PyData.eqvAll (toPyL d) (toPyL e)
theorem deq_int {i j : Int} : deq (.int i) (.int j) = decide (i = j) := by
  show (i == j) = _
  exact Bool.beq_eq_decide_eq i j
theorem deq_str {i j : Str} : deq (.str i) (.str j) = decide (i = j) := by
  show (i == j) = _
  exact Bool.beq_eq_decide_eq i j
theorem deq_bl {i j : Bool} : deq (.bl i) (.bl j) = decide (i = j) := by
  show (i == j) = _
  exact Bool.beq_eq_decide_eq i j
theorem deq_tup {l m : List D} : deq (.tup l) (.tup m) = deqL l m := rfl
theorem deq_lst {l m : List D} : deq (.lst l) (.lst m) = deqL l m := rfl
theorem deqL_nil : deqL [] [] = true := rfl
theorem deqL_cons {d e : D} {l m : List D} : deqL (d :: l) (e :: m) = (deq d e && deqL l m) := rfl
theorem deqL_nc {e : D} {m : List D} : deqL [] (e :: m) = false := rfl
theorem deqL_cn {e : D} {m : List D} : deqL (e :: m) [] = false := rfl
/-- data told apart by == as in Lean -/
def Inj {α : Type} (f : α → D) : Prop := ∀ x y, (deq (f x) (f y) = true ↔ x = y)
theorem deqL_map {α : Type} {f : α → D} (h : Inj f) : ∀ {xs ys : List α}, deqL (xs.map f) (ys.map f) = true ↔ xs = ys
  | [], [] => by simp [deqL_nil]
  | [], y :: ys => by simp [deqL_nc]
  | x :: xs, [] => by simp [deqL_cn]
  | x :: xs, y :: ys => by
    rw [List.map_cons, List.map_cons, deqL_cons, Bool.and_eq_true, h x y, deqL_map h]
    simp
theorem inj_int : Inj D.int := fun x y => by rw [deq_int]; simp
theorem inj_str : Inj D.str := fun x y => by rw [deq_str]; simp
theorem inj_bl : Inj D.bl := fun x y => by rw [deq_bl]; simp
theorem inj_lst {α : Type} {f : α → D} (h : Inj f) : Inj (fun xs : List α => D.lst (xs.map f)) := fun x y => by rw [deq_lst, deqL_map h]
theorem inj_tup {α : Type} {f : α → D} (h : Inj f) : Inj (fun xs : List α => D.tup (xs.map f)) := fun x y => by rw [deq_tup, deqL_map h]
theorem inj_pair {α β : Type} {f : α → D} {g : β → D} (h : Inj f) (k : Inj g) : Inj (fun q : α × β => D.tup [f q.1, g q.2]) := fun x y => by
  rw [deq_tup, deqL_cons, deqL_cons, deqL_nil, Bool.and_true, Bool.and_eq_true, h, k]
  exact ⟨fun z => Prod.ext z.1 z.2, fun z => ⟨congrArg Prod.fst z, congrArg Prod.snd z⟩⟩
theorem Inj.eq {α : Type} [DecidableEq α] {f : α → D} (h : Inj f) (x y : α) : deq (f x) (f y) = decide (x = y) := by
  rw [Bool.eq_iff_iff, h x y, decide_eq_true_iff]
theorem pyOkL_map {α : Type} {f : α → D} {n : Nat} (h : ∀ x, pyOk n (f x) = true) : ∀ xs : List α, pyOkL n (xs.map f) = true
  | [] => rfl
  | x :: xs => by
    show (pyOk n (f x) && pyOkL n (xs.map f)) = true
    rw [h x, pyOkL_map h xs] <;> rfl
section
variable {X : Cx} {B : Addr → Prop} {H0 : Hp} {m : Bool} {sl : List Sl} {e a b : Expr} {da db : D} {ds : List D} {pos p : Pos} {k : Nat}
theorem je_eqD (hr : Room k X.A) (ha : JE X B H0 false sl a da) (hb : JE X B H0 false sl b db) (h1 : pyOk 60 da = true) (h2 : pyOk 60 db = true) : JE X B H0 m sl (.Compare a [.Eq] [b] pos) (.bl (deq da db)) := ⟨fun gh as σ H Q S q =>
  PEt (pe_cmpR (op_eqD hr.units) pe_w pe_w (nomark _)) (ha.run gh as σ H _ S fun x H1 s1 r1 => hb.run gh as σ H1 _ (S.same s1) fun y H2 s2 r2 => ⟨toPy da, toPy db, toPy_rp h1 (r1.stp (.of s2)), toPy_rp h2 r2, shaped_of h1 (by decide), shaped_of h2 (by decide), q _ H2 (s1.trans s2) rfl⟩)⟩
theorem je_neD (hr : Room k X.A) (ha : JE X B H0 false sl a da) (hb : JE X B H0 false sl b db) (h1 : pyOk 60 da = true) (h2 : pyOk 60 db = true) : JE X B H0 m sl (.Compare a [.NotEq] [b] pos) (.bl (!deq da db)) := ⟨fun gh as σ H Q S q =>
  PEt (pe_cmpR (op_neD hr.units) pe_w pe_w (nomark _)) (ha.run gh as σ H _ S fun x H1 s1 r1 => hb.run gh as σ H1 _ (S.same s1) fun y H2 s2 r2 => ⟨toPy da, toPy db, toPy_rp h1 (r1.stp (.of s2)), toPy_rp h2 r2, shaped_of h1 (by decide), shaped_of h2 (by decide), q _ H2 (s1.trans s2) rfl⟩)⟩
theorem jt_eqD (hr : Room k X.A) (ha : JE X B H0 false sl a da) (hb : JE X B H0 false sl b db) (h1 : pyOk 60 da = true) (h2 : pyOk 60 db = true) : JT X B H0 sl (.Compare a [.Eq] [b] pos) (deq da db) := ⟨fun gh as σ H Q S q =>
  PTt (pt_cmpR (op_eqD hr.units) pe_w pe_w (nomark _)) (ha.run gh as σ H _ S fun x H1 s1 r1 => hb.run gh as σ H1 _ (S.same s1) fun y H2 s2 r2 => ⟨toPy da, toPy db, toPy_rp h1 (r1.stp (.of s2)), toPy_rp h2 r2, shaped_of h1 (by decide), shaped_of h2 (by decide), _, rfl, q H2 (s1.trans s2)⟩)⟩
theorem jt_neD (hr : Room k X.A) (ha : JE X B H0 false sl a da) (hb : JE X B H0 false sl b db) (h1 : pyOk 60 da = true) (h2 : pyOk 60 db = true) : JT X B H0 sl (.Compare a [.NotEq] [b] pos) (!deq da db) := ⟨fun gh as σ H Q S q =>
  PTt (pt_cmpR (op_neD hr.units) pe_w pe_w (nomark _)) (ha.run gh as σ H _ S fun x H1 s1 r1 => hb.run gh as σ H1 _ (S.same s1) fun y H2 s2 r2 => ⟨toPy da, toPy db, toPy_rp h1 (r1.stp (.of s2)), toPy_rp h2 r2, shaped_of h1 (by decide), shaped_of h2 (by decide), _, rfl, q H2 (s1.trans s2)⟩)⟩
/-! ### in -/
def dIn (d : D) (ds : List D) : Bool := ds.any fun z => deq z d
theorem any_py (d : D) : ∀ ds : List D, ((toPyL ds).any fun z => PyData.eqv z (toPy d)) = dIn d ds
  | [] => rfl
  | z :: ds => by
    show (PyData.eqv (toPy z) (toPy d) || (toPyL ds).any fun z => PyData.eqv z (toPy d)) = (deq z d || dIn d ds)
    rw [any_py d ds] <;> rfl
theorem toPy_rd {d : D} {ds : List D} (r : RdL d ds) : toPy d = .list (toPyL ds) := by cases r <;> rfl
theorem je_inDL (hr : Room k X.A) (ha : JE X B H0 false sl a da) (hb : JE X B H0 false sl b db) (rd : RdL db ds) (h1 : pyOk 60 da = true) (h2 : pyOk 60 db = true) (hm : behindInMarks .In b = false := by rfl) : JE X B H0 m sl (.Compare a [.In] [b] pos) (.bl (dIn da ds)) := ⟨fun gh as σ H Q S q =>
  PEt (pe_cmpR (op_inD (by have := hr.un; omega)) pe_w pe_w hm) (ha.run gh as σ H _ S fun x H1 s1 r1 => hb.run gh as σ H1 _ (S.same s1) fun y H2 s2 r2 => ⟨toPy da, toPyL ds, toPy_rp h1 (r1.stp (.of s2)), toPy_rd rd ▸ toPy_rp h2 r2, shaped_of h1 (by decide), toPy_rd rd ▸ shaped_of h2 (by decide), by
    rw [any_py]; exact q _ H2 (s1.trans s2) rfl⟩)⟩
theorem je_ninDL (hr : Room k X.A) (ha : JE X B H0 false sl a da) (hb : JE X B H0 false sl b db) (rd : RdL db ds) (h1 : pyOk 60 da = true) (h2 : pyOk 60 db = true) (hm : behindInMarks .NotIn b = false := by rfl) : JE X B H0 m sl (.Compare a [.NotIn] [b] pos) (.bl (!dIn da ds)) := ⟨fun gh as σ H Q S q =>
  PEt (pe_cmpR (op_notInD (by have := hr.un; omega)) pe_w pe_w hm) (ha.run gh as σ H _ S fun x H1 s1 r1 => hb.run gh as σ H1 _ (S.same s1) fun y H2 s2 r2 => ⟨toPy da, toPyL ds, toPy_rp h1 (r1.stp (.of s2)), toPy_rd rd ▸ toPy_rp h2 r2, shaped_of h1 (by decide), toPy_rd rd ▸ shaped_of h2 (by decide), by
    rw [any_py]; exact q _ H2 (s1.trans s2) rfl⟩)⟩
theorem jt_cmpv {op : CmpOp} {v : Bool} (h : JE X B H0 false sl (.Compare a [op] [b] pos) (.bl v)) (he : ∀ whole, isTrue (.Compare a [op] [b] pos) X.env whole = (do let v ← whole; standAt (Expr.Compare a [op] [b] pos).pos; holding [v] (truthy v)) := by intro _; rfl) : JT X B H0 sl (.Compare a [op] [b] pos) v := jt_val h he
theorem dIn_map {α : Type} [DecidableEq α] {f : α → D} (h : Inj f) (x : α) (xs : List α) : dIn (f x) (xs.map f) = decide (x ∈ xs) := by
  rw [Bool.eq_iff_iff, decide_eq_true_iff]
  unfold dIn
  rw [List.any_map, List.any_eq_true]
  constructor
  · rintro ⟨y, hy, e⟩
    have := (h y x).mp e
    rw [← this]; exact hy
  · intro hx
    exact ⟨x, hx, (h x x).mpr rfl⟩
end
end PD
namespace PD
open PySem PySem.Spec PyProof.Rows L2
variable [TN]
abbrev Q := Int × Int
abbrev fr (q : Q) : D := .tup [.int q.1, .int q.2]
theorem inj_fr : Inj fr := inj_pair inj_int inj_int
theorem ok_fr (q : Q) : pyOk 60 (fr q) = true := rfl
section
variable {X : Cx} {B : Addr → Prop} {H0 : Hp} {m m1 m2 : Bool} {sl sl' : List Sl} {e a b c tg iter elt : Expr} {es ifs : List Expr} {d d1 d2 da db : D} {ds dt : List D} {pos p p2 px : Pos} {P : Po} {st : Stmt} {rest body : List Stmt} {x y : Str} {scope : Scope} {own : List (Str × Nat)} {α β : Type} {f : α → D}
theorem je_pr {x1 : Nat} {i j : Int} (h : JA X B H0 m sl es [.int i, .int j]) : JE X B H0 m sl (.Tuple es x1 pos) (fr (i, j)) := je_tup h
theorem jaM_nil : JA X B H0 m sl [] (([] : List α).map f) := ja_nil
theorem jaM_cons {z : α} {zs : List α} (h : JE X B H0 m sl e (f z)) (hr : JA X B H0 m sl es (zs.map f)) (hs : starEach (e :: es) X.env = (false, eval e X.env) :: starEach es X.env := by rfl) : JA X B H0 m sl (e :: es) ((z :: zs).map f) := ja_cons h hr hs
theorem jf_lstM {xs : List α} (h : JA X B H0 true sl es (xs.map f)) (hl : xs.length ≤ sizeLine := by exact Nat.le_of_ble_eq_true rfl) : JF X B H0 sl (.List es pos) (.lst (xs.map f)) := jf_lst h (by rw [List.length_map]; exact hl)
theorem jf_catM {xs ys : List α} (ha : JE X B H0 true sl a (.lst (xs.map f))) (hb : JE X B H0 true sl b (.lst (ys.map f))) (hl : xs.length + ys.length ≤ sizeLine) : JF X B H0 sl (.BinOp a .Add b pos) (.lst ((xs ++ ys).map f)) := by
  rw [List.map_append]
  exact jf_catL ha hb (by rw [List.length_map, List.length_map]; exact hl)
theorem jf_repM {xs : List α} {k : Int} (ha : JE X B H0 true sl a (.lst (xs.map f))) (hb : JE X B H0 false sl b (.int k)) (h : -(2 ^ 63) ≤ k ∧ k < 2 ^ 63 ∧ xs.length * k.toNat ≤ sizeLine) : JF X B H0 sl (.BinOp a .Mult b pos) (.lst ((List.replicate k.toNat xs).flatten.map f)) := by
  have e : (List.replicate k.toNat xs).flatten.map f = (List.replicate k.toNat (xs.map f)).flatten := by rw [List.map_flatten, List.map_replicate]
  rw [e]
  exact jf_rep ha hb ⟨h.1, h.2.1, by rw [List.length_map]; exact h.2.2⟩
theorem ji_is (h : JI X B H0 sl tg iter ds) (e : ds = dt) : JI X B H0 sl tg iter dt := e ▸ h
theorem zipD_map {g : β → D} (xs : List α) (ys : List β) : zipD (xs.map f) (ys.map g) = (xs.zip ys).map fun q => .tup [f q.1, g q.2] := by
  unfold zipD
  rw [List.zipWith_map, List.zip, List.map_zipWith]
def enumT (xs : List α) : List (Int × α) := (List.range xs.length).zipWith (fun (k : Nat) x => ((k : Int), x)) xs
theorem enumD_map (xs : List α) : enumD (xs.map f) = (enumT xs).map fun q => .tup [.int q.1, f q.2] := by
  unfold enumD enumT
  rw [List.map_zipWith, List.length_map, List.zipWith_map_right]
def rngT (lo : Int) (n : Nat) : List Int := (List.range n).map fun (k : Nat) => lo + (k : Int)
theorem rngD_map (lo : Int) (n : Nat) : rngD lo n = (rngT lo n).map .int := by
  unfold rngD rngT
  rw [List.map_map]
  rfl
theorem mem_rngT {lo : Int} {n : Nat} {k : Int} : k ∈ rngT lo n ↔ lo ≤ k ∧ k < lo + n := by
  unfold rngT
  rw [List.mem_map]
  constructor
  · rintro ⟨i, hi, rfl⟩
    rw [List.mem_range] at hi
    omega
  · intro h
    exact ⟨(k - lo).toNat, by rw [List.mem_range]; omega, by omega⟩
theorem rngT_len {lo : Int} {n : Nat} : (rngT lo n).length = n := by unfold rngT; rw [List.length_map, List.length_range]
theorem filter_tt {xs : List α} : xs.filter (fun _ => true) = xs := by
  induction xs with
  | nil => rfl
  | cons x xs ih => rw [List.filter_cons, if_pos rfl, ih]
/-- [elt for tg in iter] -/
theorem jf_lc0 {xs : List α} {g : α → D} {en : β → D} {h : α → β} (hc : X.calm = true) (hN : X.N.Nodup) (ok : BlkOk X.N X.env.scope scope own) (hi : JI X B H0 sl tg iter (xs.map g))
    (hb : ∀ x ∈ xs, ∃ sl', (∀ s H C cl fp B H0, JG (blkX X scope s H C cl fp) B H0 (own.map (·.2)) tg (g x) (wipeS sl (own.map (·.2))) sl') ∧ (∀ s H C cl fp B H0, JE (blkX X scope s H C cl fp) B H0 true sl' elt (en (h x)))) (hz : xs.length ≤ sizeLine)
    (hs : ∀ x, foldedSetIterable iter X.env x = pure x := by intro _; rfl) : JF X B H0 sl (.ListComp elt [⟨tg, iter, [], 0⟩] scope pos) (.lst ((xs.map h).map en)) := by
  have := jf_lc (pos := pos) (X := X) (B := B) (H0 := H0) (sl := sl) (elt := elt) (ifs := []) (f := fun x => en (h x)) (t := fun _ => true) hc hN ok hi (by decide) (fun x hx => by
    obtain ⟨s', h1, h2⟩ := hb x hx
    exact ⟨s', h1, .nil, fun _ => h2⟩) hz hs
  rw [filter_tt] at this
  rw [List.map_map]
  exact this
/-- [elt for tg in iter if test] -/
theorem jf_lc1 {xs : List α} {g : α → D} {en : β → D} {h : α → β} {t : α → Bool} (hc : X.calm = true) (hN : X.N.Nodup) (ok : BlkOk X.N X.env.scope scope own) (hi : JI X B H0 sl tg iter (xs.map g))
    (hb : ∀ x ∈ xs, ∃ sl', (∀ s H C cl fp B H0, JG (blkX X scope s H C cl fp) B H0 (own.map (·.2)) tg (g x) (wipeS sl (own.map (·.2))) sl') ∧ (∀ s H C cl fp B H0, JT (blkX X scope s H C cl fp) B H0 sl' c (t x)) ∧ (t x = true → ∀ s H C cl fp B H0, JE (blkX X scope s H C cl fp) B H0 true sl' elt (en (h x)))) (hz : xs.length ≤ sizeLine)
    (hs : ∀ x, foldedSetIterable iter X.env x = pure x := by intro _; rfl) : JF X B H0 sl (.ListComp elt [⟨tg, iter, [c], 0⟩] scope pos) (.lst (((xs.filter t).map h).map en)) := by
  have := jf_lc (pos := pos) (X := X) (B := B) (H0 := H0) (sl := sl) (elt := elt) (ifs := [c]) (f := fun x => en (h x)) (t := t) hc hN ok hi (Nat.le_refl _) (fun x hx => by
    obtain ⟨s', h1, h2, h3⟩ := hb x hx
    exact ⟨s', h1, .one h2, h3⟩) hz hs
  rw [List.map_map]
  exact this
theorem js_lc0 {xs : List α} {g : α → D} {en : β → D} {h : α → β} {py spos : Pos} (ow : Bool) (i : Nat) (hc : X.calm = true) (hN : X.N.Nodup) (hy : X.N[i]? = some y) (hyl : X.env.scope.names.lookup y = some .local) (hsw : swapsWith (.ListComp elt [⟨tg, iter, [], 0⟩] scope pos) (some (.Name y py)) spos.line X.env = pure true) (ok : BlkOk X.N X.env.scope scope own) (hi : JI X B H0 sl tg iter (xs.map g))
    (hb : ∀ x ∈ xs, ∃ sl', (∀ s H C cl fp B H0, JG (blkX X scope s H C cl fp) B H0 (own.map (·.2)) tg (g x) (wipeS sl (own.map (·.2))) sl') ∧ (∀ s H C cl fp B H0, JE (blkX X scope s H C cl fp) B H0 true sl' elt (en (h x)))) (hz : xs.length ≤ sizeLine)
    (k : P.nx (sl.set i (if ow then .ow (.lst ((xs.map h).map en)) else .va (.lst ((xs.map h).map en))))) (hs : ∀ x, foldedSetIterable iter X.env x = pure x := by intro _; rfl) : JS X B H0 sl (.Assign [.Name y py] (.ListComp elt [⟨tg, iter, [], 0⟩] scope pos) spos) P := by
  refine js_setLc (f := fun x => en (h x)) (t := fun _ => true) ow i hc hN hy hyl hsw ok hi (by decide) (fun x hx => by
    obtain ⟨s', h1, h2⟩ := hb x hx
    exact ⟨s', h1, .nil, fun _ => h2⟩) hz ?_ hs
  rw [filter_tt]
  rw [List.map_map] at k
  exact k
theorem js_lc1 {xs : List α} {g : α → D} {en : β → D} {h : α → β} {t : α → Bool} {py spos : Pos} (ow : Bool) (i : Nat) (hc : X.calm = true) (hN : X.N.Nodup) (hy : X.N[i]? = some y) (hyl : X.env.scope.names.lookup y = some .local) (hsw : swapsWith (.ListComp elt [⟨tg, iter, [c], 0⟩] scope pos) (some (.Name y py)) spos.line X.env = pure true) (ok : BlkOk X.N X.env.scope scope own) (hi : JI X B H0 sl tg iter (xs.map g))
    (hb : ∀ x ∈ xs, ∃ sl', (∀ s H C cl fp B H0, JG (blkX X scope s H C cl fp) B H0 (own.map (·.2)) tg (g x) (wipeS sl (own.map (·.2))) sl') ∧ (∀ s H C cl fp B H0, JT (blkX X scope s H C cl fp) B H0 sl' c (t x)) ∧ (t x = true → ∀ s H C cl fp B H0, JE (blkX X scope s H C cl fp) B H0 true sl' elt (en (h x)))) (hz : xs.length ≤ sizeLine)
    (k : P.nx (sl.set i (if ow then .ow (.lst (((xs.filter t).map h).map en)) else .va (.lst (((xs.filter t).map h).map en))))) (hs : ∀ x, foldedSetIterable iter X.env x = pure x := by intro _; rfl) : JS X B H0 sl (.Assign [.Name y py] (.ListComp elt [⟨tg, iter, [c], 0⟩] scope pos) spos) P := by
  refine js_setLc (f := fun x => en (h x)) (t := t) ow i hc hN hy hyl hsw ok hi (Nat.le_refl _) (fun x hx => by
    obtain ⟨s', h1, h2, h3⟩ := hb x hx
    exact ⟨s', h1, .one h2, h3⟩) hz ?_ hs
  rw [List.map_map] at k
  exact k
/-! slices by numbers from 0 on -/
theorem sIx_pos {n d : Nat} {i : Int} (h : 0 ≤ i) : HT.sIx n d (some i) = min i.toNat n := by
  have e : i = ((i.toNat : Nat) : Int) := by omega
  rw [e, HT.sIx_nat]
  rfl
theorem cut_to {xs : List α} {i : Int} (h : 0 ≤ i) : cutD (xs.map f) none (some i) = (xs.take i.toNat).map f := by
  unfold cutD
  rw [HT.sIx_none, sIx_pos h, List.length_map, List.drop_zero, Nat.sub_zero, ← List.map_take, List.take_eq_take_iff.mpr]
  omega
theorem cut_from {xs : List α} {i : Int} (h : 0 ≤ i) : cutD (xs.map f) (some i) none = (xs.drop i.toNat).map f := by
  unfold cutD
  rw [HT.sIx_none, sIx_pos h, List.length_map, ← List.map_drop, ← List.map_take]
  congr 1
  by_cases q : i.toNat ≤ xs.length
  · rw [Nat.min_eq_left q, List.take_of_length_le (by rw [List.length_drop]; omega)]
  · rw [Nat.min_eq_right (by omega), List.drop_of_length_le (Nat.le_refl _), List.drop_of_length_le (by omega), List.take_nil]
theorem cut_both {xs : List α} {i j : Int} (h : 0 ≤ i) (h2 : 0 ≤ j) : cutD (xs.map f) (some i) (some j) = ((xs.take j.toNat).drop i.toNat).map f := by
  unfold cutD
  rw [sIx_pos h, sIx_pos h2, List.length_map, ← List.map_drop, ← List.map_take]
  congr 1
  rw [List.drop_take]
  by_cases q : i.toNat ≤ xs.length
  · rw [Nat.min_eq_left q, List.take_eq_take_iff, List.length_drop]
    omega
  · rw [Nat.min_eq_right (show xs.length ≤ i.toNat by omega), List.drop_of_length_le (Nat.le_refl _), List.drop_of_length_le (show xs.length ≤ i.toNat by omega), List.take_nil, List.take_nil]
theorem jf_slTo {xs : List α} {i : Int} {hi : Expr} (he : JE X B H0 true sl e da) (hh : JE X B H0 false sl hi (.int i)) (hr : RdL da (xs.map f)) (h : 0 ≤ i) : JF X B H0 sl (.Subscript e (.Slice none (some hi) none p2) pos) (.lst ((xs.take i.toNat).map f)) := by
  rw [← cut_to h]; exact jf_sl he jo_none (jo_some hh) hr
theorem jf_slFrom {xs : List α} {i : Int} {lo : Expr} (he : JE X B H0 true sl e da) (hh : JE X B H0 false sl lo (.int i)) (hr : RdL da (xs.map f)) (h : 0 ≤ i) : JF X B H0 sl (.Subscript e (.Slice (some lo) none none p2) pos) (.lst ((xs.drop i.toNat).map f)) := by
  rw [← cut_from h]; exact jf_sl he (jo_some hh) jo_none hr
theorem jf_slBoth {xs : List α} {i j : Int} {lo hi : Expr} (he : JE X B H0 true sl e da) (hl : JE X B H0 false sl lo (.int i)) (hh : JE X B H0 false sl hi (.int j)) (hr : RdL da (xs.map f)) (h : 0 ≤ i) (h2 : 0 ≤ j) : JF X B H0 sl (.Subscript e (.Slice (some lo) (some hi) none p2) pos) (.lst (((xs.take j.toNat).drop i.toNat).map f)) := by
  rw [← cut_both h h2]; exact jf_sl he (jo_some hl) (jo_some hh) hr
/-! typed items -/
theorem atI_pos {xs : List α} {i : Int} {v : α} (h0 : 0 ≤ i) (h : xs[i.toNat]? = some v) : atI xs i = some v := by
  have e : i = ((i.toNat : Nat) : Int) := by omega
  rw [e]
  exact atI_nat h
theorem atI_map (f : α → D) (xs : List α) {i : Int} (h0 : 0 ≤ i) (h1 : i < xs.length) (d : α) : atI (xs.map f) i = some (f (xs.getD i.toNat d)) := by
  apply atI_pos h0
  have h2 : i.toNat < xs.length := by omega
  rw [List.getElem?_map, List.getElem?_eq_getElem h2, List.getD_eq_getElem?_getD, List.getElem?_eq_getElem h2]
  rfl
theorem je_ixM {xs : List α} {i : Int} (d0 : α) (ha : JE X B H0 m sl a da) (hb : JE X B H0 false sl b (.int i)) (hr : RdL da (xs.map f)) (h0 : 0 ≤ i) (h1 : i < xs.length) (hp : PlainIx b := by exact fun _ _ => rfl) : JE X B H0 m sl (.Subscript a b pos) (f (xs.getD i.toNat d0)) := je_ixL ha hb hr (atI_map f xs h0 h1 d0) hp
theorem je_ixMT {xs : List α} {i : Int} (d0 : α) (ha : JE X B H0 m sl a (.tup (xs.map f))) (hb : JE X B H0 false sl b (.int i)) (h0 : 0 ≤ i) (h1 : i < xs.length) (hp : PlainIx b := by exact fun _ _ => rfl) : JE X B H0 m sl (.Subscript a b pos) (f (xs.getD i.toNat d0)) := je_ixT ha hb (atI_map f xs h0 h1 d0) hp
theorem atI_end {xs : List α} (h : 0 < xs.length) (d : α) : atI (xs.map f) (-1) = some (f (xs.getLastD d)) := by
  obtain ⟨ys, z, rfl⟩ : ∃ ys z, xs = ys ++ [z] := by
    have hne : xs ≠ [] := fun z => by rw [z] at h; exact absurd h (Nat.lt_irrefl _)
    exact ⟨xs.dropLast, xs.getLast hne, (List.dropLast_concat_getLast hne).symm⟩
  rw [List.map_append, List.getLastD_concat]
  exact atI_last _ _
theorem mu_popM {xs : List α} (h : 0 < xs.length) (d : α) : ∀ A H q vs, H q = some (.lst vs) → RpL X.K A H (xs.map f) vs → MutV X.K A H q vs rPop [] (.lst (xs.dropLast.map f)) (f (xs.getLastD d)) := by
  rw [List.map_dropLast]
  refine mu_pop ?_
  obtain ⟨ys, z, rfl⟩ : ∃ ys z, xs = ys ++ [z] := by
    have hne : xs ≠ [] := fun z => by rw [z] at h; exact absurd h (Nat.lt_irrefl _)
    exact ⟨xs.dropLast, xs.getLast hne, (List.dropLast_concat_getLast hne).symm⟩
  rw [List.getLastD_concat, List.length_map, List.length_append, List.length_singleton, Nat.add_sub_cancel, List.map_append, List.getElem?_append_right (by rw [List.length_map]; exact Nat.le_refl _)]
  rw [List.length_map, Nat.sub_self]
  rfl
theorem mu_appM {xs : List α} {z : α} (hl : xs.length < sizeLine) : ∀ A H q vs ws, H q = some (.lst vs) → RpL X.K A H (xs.map f) vs → RpL X.K A H [f z] ws → MutV X.K A H q vs rAppend ws (.lst ((xs ++ [z]).map f)) .non := by
  rw [List.map_append]
  exact mu_app (by rw [List.length_map]; exact hl)
theorem mu_extM {xs ys : List α} (hl : xs.length + ys.length ≤ sizeLine) : ∀ A H q vs ws, H q = some (.lst vs) → RpL X.K A H (xs.map f) vs → RpL X.K A H [.lst (ys.map f)] ws → MutV X.K A H q vs rExtend ws (.lst ((xs ++ ys).map f)) .non := by
  rw [List.map_append]
  exact mu_ext (by rw [List.length_map, List.length_map]; exact hl)
end
end PD
namespace PD
open PySem PySem.Spec PyProof.Rows L2
variable [TN]
theorem small_len {n : Nat} (h : n ≤ 1000000) : n ≤ sizeLine := Nat.le_trans h (by decide)
theorem small_lt {n : Nat} (h : n < 1000000) : n < sizeLine := Nat.lt_of_lt_of_le h (by decide)
theorem map_get {α : Type} {f : α → D} {xs : List α} {k : Nat} {d : D} (h : (xs.map f)[k]? = some d) : ∃ x, xs[k]? = some x ∧ d = f x := by
  rw [List.getElem?_map] at h
  cases hx : xs[k]? with
  | none => rw [hx] at h; cases h
  | some x => rw [hx] at h; exact ⟨x, rfl, (Option.some.inj h).symm⟩
theorem pyOk_lst {α : Type} {f : α → D} {n : Nat} (h : ∀ x, pyOk n (f x) = true) (xs : List α) : pyOk (n + 1) (.lst (xs.map f)) = true := by
  show (decide (0 < n + 1) && pyOkL n (xs.map f)) = true
  rw [pyOkL_map h, decide_eq_true (Nat.succ_pos n)] <;> rfl
theorem pyOk_fro {α : Type} {f : α → D} {n : Nat} (h : ∀ x, pyOk n (f x) = true) (xs : List α) : pyOk (n + 1) (.fro (xs.map f)) = true := by
  show (decide (0 < n + 1) && pyOkL n (xs.map f)) = true
  rw [pyOkL_map h, decide_eq_true (Nat.succ_pos n)] <;> rfl
theorem pyOk_tup {α : Type} {f : α → D} {n : Nat} (h : ∀ x, pyOk n (f x) = true) (xs : List α) : pyOk (n + 1) (.tup (xs.map f)) = true := by
  show (decide (0 < n + 1) && pyOkL n (xs.map f)) = true
  rw [pyOkL_map h, decide_eq_true (Nat.succ_pos n)] <;> rfl
theorem pyOk_pair {d e : D} {n : Nat} (h : pyOk n d = true) (g : pyOk n e = true) : pyOk (n + 1) (.tup [d, e]) = true := by
  show (decide (0 < n + 1) && (pyOk n d && (pyOk n e && true))) = true
  rw [h, g, decide_eq_true (Nat.succ_pos n)] <;> rfl
section
variable {X : Cx} {B : Addr → Prop} {H0 : Hp} {m m1 m2 : Bool} {sl sl' : List Sl} {e a b c tg iter elt : Expr} {es ifs : List Expr} {d d1 d2 da db : D} {ds dt : List D} {pos p p2 px : Pos} {P : Po} {st : Stmt} {rest body : List Stmt} {x y : Str} {α β : Type} {f : α → D} {k : Nat}
theorem je_eqM [DecidableEq α] {u v : α} (h : Inj f) (hr : Room k X.A) (ha : JE X B H0 false sl a (f u)) (hb : JE X B H0 false sl b (f v)) (h1 : ∀ u, pyOk 60 (f u) = true) : JE X B H0 m sl (.Compare a [.Eq] [b] pos) (.bl (decide (u = v))) := by
  rw [← h.eq u v]; exact je_eqD hr ha hb (h1 u) (h1 v)
theorem je_neM [DecidableEq α] {u v : α} (h : Inj f) (hr : Room k X.A) (ha : JE X B H0 false sl a (f u)) (hb : JE X B H0 false sl b (f v)) (h1 : ∀ u, pyOk 60 (f u) = true) : JE X B H0 m sl (.Compare a [.NotEq] [b] pos) (.bl (!decide (u = v))) := by
  rw [← h.eq u v]; exact je_neD hr ha hb (h1 u) (h1 v)
theorem jt_eqM [DecidableEq α] {u v : α} (h : Inj f) (hr : Room k X.A) (ha : JE X B H0 false sl a (f u)) (hb : JE X B H0 false sl b (f v)) (h1 : ∀ u, pyOk 60 (f u) = true) : JT X B H0 sl (.Compare a [.Eq] [b] pos) (decide (u = v)) := by
  rw [← h.eq u v]; exact jt_eqD hr ha hb (h1 u) (h1 v)
theorem jt_neM [DecidableEq α] {u v : α} (h : Inj f) (hr : Room k X.A) (ha : JE X B H0 false sl a (f u)) (hb : JE X B H0 false sl b (f v)) (h1 : ∀ u, pyOk 60 (f u) = true) : JT X B H0 sl (.Compare a [.NotEq] [b] pos) (!decide (u = v)) := by
  rw [← h.eq u v]; exact jt_neD hr ha hb (h1 u) (h1 v)
theorem jt_inDL (hr : Room k X.A) (ha : JE X B H0 false sl a da) (hb : JE X B H0 false sl b db) (rd : RdL db ds) (h1 : pyOk 60 da = true) (h2 : pyOk 60 db = true) (hm : behindInMarks .In b = false := by rfl) : JT X B H0 sl (.Compare a [.In] [b] pos) (dIn da ds) := ⟨fun gh as σ H Q S q =>
  PTt (pt_cmpR (op_inD (by have := hr.un; omega)) pe_w pe_w hm) (ha.run gh as σ H _ S fun x H1 s1 r1 => hb.run gh as σ H1 _ (S.same s1) fun y H2 s2 r2 => ⟨toPy da, toPyL ds, toPy_rp h1 (r1.stp (.of s2)), toPy_rd rd ▸ toPy_rp h2 r2, shaped_of h1 (by decide), toPy_rd rd ▸ shaped_of h2 (by decide), by
    rw [any_py]; exact ⟨_, rfl, q H2 (s1.trans s2)⟩⟩)⟩
theorem jt_ninDL (hr : Room k X.A) (ha : JE X B H0 false sl a da) (hb : JE X B H0 false sl b db) (rd : RdL db ds) (h1 : pyOk 60 da = true) (h2 : pyOk 60 db = true) (hm : behindInMarks .NotIn b = false := by rfl) : JT X B H0 sl (.Compare a [.NotIn] [b] pos) (!dIn da ds) := ⟨fun gh as σ H Q S q =>
  PTt (pt_cmpR (op_notInD (by have := hr.un; omega)) pe_w pe_w hm) (ha.run gh as σ H _ S fun x H1 s1 r1 => hb.run gh as σ H1 _ (S.same s1) fun y H2 s2 r2 => ⟨toPy da, toPyL ds, toPy_rp h1 (r1.stp (.of s2)), toPy_rd rd ▸ toPy_rp h2 r2, shaped_of h1 (by decide), toPy_rd rd ▸ shaped_of h2 (by decide), by
    rw [any_py]; exact ⟨_, rfl, q H2 (s1.trans s2)⟩⟩)⟩
theorem je_inM [DecidableEq α] {u : α} {xs : List α} (h : Inj f) (hr : Room k X.A) (ha : JE X B H0 false sl a (f u)) (hb : JE X B H0 false sl b db) (rd : RdL db (xs.map f)) (h1 : ∀ u, pyOk 59 (f u) = true) (h0 : ∀ u, pyOk 60 (f u) = true) (hm : behindInMarks .In b = false := by rfl) : JE X B H0 m sl (.Compare a [.In] [b] pos) (.bl (decide (u ∈ xs))) := by
  rw [← dIn_map h u xs]; exact je_inDL hr ha hb rd (h0 u) (by cases rd with | lst => exact pyOk_lst h1 xs | fro => exact pyOk_fro h1 xs) hm
theorem je_ninM [DecidableEq α] {u : α} {xs : List α} (h : Inj f) (hr : Room k X.A) (ha : JE X B H0 false sl a (f u)) (hb : JE X B H0 false sl b db) (rd : RdL db (xs.map f)) (h1 : ∀ u, pyOk 59 (f u) = true) (h0 : ∀ u, pyOk 60 (f u) = true) (hm : behindInMarks .NotIn b = false := by rfl) : JE X B H0 m sl (.Compare a [.NotIn] [b] pos) (.bl (!decide (u ∈ xs))) := by
  rw [← dIn_map h u xs]; exact je_ninDL hr ha hb rd (h0 u) (by cases rd with | lst => exact pyOk_lst h1 xs | fro => exact pyOk_fro h1 xs) hm
theorem jt_inM [DecidableEq α] {u : α} {xs : List α} (h : Inj f) (hr : Room k X.A) (ha : JE X B H0 false sl a (f u)) (hb : JE X B H0 false sl b db) (rd : RdL db (xs.map f)) (h1 : ∀ u, pyOk 59 (f u) = true) (h0 : ∀ u, pyOk 60 (f u) = true) (hm : behindInMarks .In b = false := by rfl) : JT X B H0 sl (.Compare a [.In] [b] pos) (decide (u ∈ xs)) := by
  rw [← dIn_map h u xs]; exact jt_inDL hr ha hb rd (h0 u) (by cases rd with | lst => exact pyOk_lst h1 xs | fro => exact pyOk_fro h1 xs) hm
theorem jt_ninM [DecidableEq α] {u : α} {xs : List α} (h : Inj f) (hr : Room k X.A) (ha : JE X B H0 false sl a (f u)) (hb : JE X B H0 false sl b db) (rd : RdL db (xs.map f)) (h1 : ∀ u, pyOk 59 (f u) = true) (h0 : ∀ u, pyOk 60 (f u) = true) (hm : behindInMarks .NotIn b = false := by rfl) : JT X B H0 sl (.Compare a [.NotIn] [b] pos) (!decide (u ∈ xs)) := by
  rw [← dIn_map h u xs]; exact jt_ninDL hr ha hb rd (h0 u) (by cases rd with | lst => exact pyOk_lst h1 xs | fro => exact pyOk_fro h1 xs) hm
/-- ints in a tuple of ints -/
theorem flat_ints : ∀ ns : List Int, (ns.map V.int).all flatV = true
  | [] => rfl
  | n :: ns => by
    rw [List.map_cons, List.all_cons, flat_ints ns]
    rfl
theorem inV_ints (n : Int) : ∀ ns : List Int, inV (.int n) (ns.map V.int) = decide (n ∈ ns)
  | [] => rfl
  | k :: ns => by
    have ih := inV_ints n ns
    unfold inV at ih ⊢
    rw [List.map_cons, List.any_cons, ih]
    have e : eqV (.int k) (.int n) = decide (k = n) := by
      show (k == n) = _
      exact Bool.beq_eq_decide_eq k n
    rw [e]
    by_cases h : k = n
    · subst h; simp
    · have h' : ¬ n = k := fun z => h z.symm
      simp [h, h']
theorem jt_inUI {n : Int} {ns : List Int} (hm : behindInMarks .In b = false) (ha : JE X B H0 false sl a (.int n)) (hb : JE X B H0 false sl b (.tup (ns.map .int))) : JT X B H0 sl (.Compare a [.In] [b] pos) (decide (n ∈ ns)) := ⟨fun gh as σ H Q S q =>
  PTt (pt_cmpR op_in_seq pe_w pe_w hm) (ha.run gh as σ H _ S fun x H1 s1 r1 => hb.run gh as σ H1 _ (S.same s1) fun y H2 s2 r2 => by
    cases (show x = .int n from r1)
    obtain ⟨t, xs, rfl, ht, hx⟩ := r2
    rw [rpl_ints] at hx
    subst hx
    refine ⟨t, _, rfl, .inr (.inl (.inl ht)), rfl, flat_ints ns, _, rfl, ?_⟩
    show Q (inV (.int n) (ns.map V.int)) H2
    rw [inV_ints]
    exact q H2 (s1.trans s2))⟩
theorem je_inUI {n : Int} {ns : List Int} (hm : behindInMarks .In b = false) (ha : JE X B H0 false sl a (.int n)) (hb : JE X B H0 false sl b (.tup (ns.map .int))) : JE X B H0 m sl (.Compare a [.In] [b] pos) (.bl (decide (n ∈ ns))) := ⟨fun gh as σ H Q S q =>
  PEt (pe_cmpR op_in_seq pe_w pe_w hm) (ha.run gh as σ H _ S fun x H1 s1 r1 => hb.run gh as σ H1 _ (S.same s1) fun y H2 s2 r2 => by
    cases (show x = .int n from r1)
    obtain ⟨t, xs, rfl, ht, hx⟩ := r2
    rw [rpl_ints] at hx
    subst hx
    refine ⟨t, _, rfl, .inr (.inl (.inl ht)), rfl, flat_ints ns, ?_⟩
    show Q (.bl (inV (.int n) (ns.map V.int))) H2
    rw [inV_ints]
    exact q _ H2 (s1.trans s2) rfl)⟩
/-- the last item -/
theorem je_ixE {xs : List α} (d0 : α) (ha : JE X B H0 m sl a da) (hb : JE X B H0 false sl b (.int (-1))) (hr : RdL da (xs.map f)) (h : 0 < xs.length) (hp : PlainIx b := by exact fun _ _ => rfl) : JE X B H0 m sl (.Subscript a b pos) (f (xs.getLastD d0)) := je_ixL ha hb hr (atI_end h d0) hp
theorem je_ixET {xs : List α} (d0 : α) (ha : JE X B H0 m sl a (.tup (xs.map f))) (hb : JE X B H0 false sl b (.int (-1))) (h : 0 < xs.length) (hp : PlainIx b := by exact fun _ _ => rfl) : JE X B H0 m sl (.Subscript a b pos) (f (xs.getLastD d0)) := je_ixT ha hb (atI_end h d0) hp
/-- xs[i] = v, i from 0 on -/
theorem js_setM (i : Nat) {xs : List α} {j : Int} {z : α} {ix : Expr} {sp : Pos} (hN : X.N[i]? = some x) (hv : Vis X.env.scope x) (ho : sl[i]? = some (.ow (.lst (xs.map f)))) (he : JE X B H0 true sl e (f z)) (hi : JE X B H0 false sl ix (.int j)) (h0 : 0 ≤ j) (h1 : j < xs.length) (h : P.nx (sl.set i (.ow (.lst ((xs.set j.toNat z).map f)))))
    (hs : swapsWithSole [.Subscript (.Name x p) ix sp] e pos.line X.env = pure false := by rfl) (hw : swappedStores [.Subscript (.Name x p) ix sp] e X.env = pure none := by rfl) (hh : (assignEach [.Subscript (.Name x p) ix sp] X.env).map (·.2) = [assign (.Subscript (.Name x p) ix sp) X.env] := by rfl)
    (ha : ∀ v, assign (.Subscript (.Name x p) ix sp) X.env v = (do
      let ov ← holding [v] (eval (.Name x p) X.env)
      let iv ← holding [v, ov] (eval ix X.env)
      standAt sp
      holding [v, ov, iv] (setItem ov iv v)
      release [v, ov, iv] []) := by intro _; rfl) (hd : (x == ("__debug__" : Str)) = false := by decide) (hcd : (x == ("__classdict__" : Str)) = false := by decide) : JS X B H0 sl (.Assign [.Subscript (.Name x p) ix sp] e pos) P := by
  refine js_setI (n := j.toNat) i hN hv ho he hi ?_ (by rw [← List.map_set]; exact h) hs hw hh ha hd hcd
  unfold ixN
  rw [if_pos h0, if_pos (by rw [List.length_map]; omega)]
/-- lists -/
theorem ji_rev {xs : List α} (h : JI X B H0 sl tg iter ((xs.map f).reverse)) : JI X B H0 sl tg iter (xs.reverse.map f) := by
  rw [List.map_reverse]; exact h
theorem ji_rngT {lo : Int} {n : Nat} (h : JI X B H0 sl tg iter (rngD lo n)) : JI X B H0 sl tg iter ((rngT lo n).map .int) := rngD_map lo n ▸ h
theorem ji_enumT {xs : List α} (h : JI X B H0 sl tg iter (enumD (xs.map f))) : JI X B H0 sl tg iter ((enumT xs).map fun q => .tup [.int q.1, f q.2]) := enumD_map xs ▸ h
theorem ji_zipT {g : β → D} {xs : List α} {ys : List β} (h : JI X B H0 sl tg iter (zipD (xs.map f) (ys.map g))) : JI X B H0 sl tg iter ((xs.zip ys).map fun q => .tup [f q.1, g q.2]) := zipD_map xs ys ▸ h
end
theorem enumT_mem {α : Type} {xs : List α} {q : Int × α} (h : q ∈ enumT xs) : 0 ≤ q.1 ∧ q.1 < xs.length ∧ xs[q.1.toNat]? = some q.2 := by
  unfold enumT at h
  obtain ⟨k, hk⟩ := List.getElem?_of_mem h
  rw [List.getElem?_zipWith] at hk
  by_cases hl : k < xs.length
  · rw [List.getElem?_range hl, List.getElem?_eq_getElem hl] at hk
    cases hk
    exact ⟨by show (0:Int) ≤ (k : Int); omega, by show (k : Int) < _; omega, by show xs[((k : Int)).toNat]? = _; rw [Int.toNat_natCast, List.getElem?_eq_getElem hl]⟩
  · rw [List.getElem?_eq_none_iff.mpr (show xs.length ≤ k by omega)] at hk
    rw [List.getElem?_eq_none_iff.mpr (show (List.range xs.length).length ≤ k by rw [List.length_range]; omega)] at hk
    cases hk
theorem enumT_get {α : Type} {xs : List α} {k : Nat} {q : Int × α} (h : (enumT xs)[k]? = some q) : xs[k]? = some q.2 ∧ q.1 = k ∧ k < xs.length := by
  unfold enumT at h
  rw [List.getElem?_zipWith] at h
  by_cases hl : k < xs.length
  · rw [List.getElem?_range hl, List.getElem?_eq_getElem hl] at h
    cases h
    exact ⟨by rw [List.getElem?_eq_getElem hl], rfl, hl⟩
  · rw [List.getElem?_eq_none_iff.mpr (show xs.length ≤ k by omega)] at h
    rw [List.getElem?_eq_none_iff.mpr (show (List.range xs.length).length ≤ k by rw [List.length_range]; omega)] at h
    cases h
theorem enumT_len {α : Type} {xs : List α} : (enumT xs).length = xs.length := by
  unfold enumT
  rw [List.length_zipWith, List.length_range, Nat.min_self]
theorem rngT_get {lo : Int} {n k : Nat} {z : Int} (h : (rngT lo n)[k]? = some z) : z = lo + k ∧ k < n := by
  unfold rngT at h
  rw [List.getElem?_map] at h
  by_cases hk : k < n
  · rw [List.getElem?_range hk] at h
    exact ⟨(Option.some.inj h).symm, hk⟩
  · rw [List.getElem?_eq_none_iff.mpr (by rw [List.length_range]; omega)] at h
    cases h
end PD
namespace PD
variable [TN]
theorem rngT_get0 {n k : Nat} {z : Int} (h : (rngT 0 n)[k]? = some z) : z = (k : Int) ∧ k < n := by
  have := rngT_get h
  rw [Int.zero_add] at this
  exact this
end PD
namespace PD
open PySem PySem.Spec PyProof.Rows L2
variable [TN]
/-! ### for k, x in enumerate(a tuple) -/
section
variable {A : Around} {E : Value → Shared → Prop} {s : Shared}
def nEnum (n : Addr) : Obj := { cls := .type "enumerate", data := .fields #[.none, .bool false, .ref n, rawInt 0, .none, .none] }
theorem new_enum1 {v : Value} {o : Obj} {Hh : Heap → Prop} (B : Begins v o Hh) :
    Meets (Builtin.«enumerate.__new__» ⟨[.type "enumerate", v], []⟩) (fun _ R s => Hh s.heap ∧ R (.ok (.ret (.ref (s.heap.push o).objs.size))) { s with heap := (s.heap.push o).push (nEnum s.heap.objs.size) }) :=
  .of_wp fun prog w A R s h => by
    obtain ⟨hp, g, d, tk, os⟩ := s
    obtain ⟨hB, h⟩ := h
    have sub := sub_enumerate
    have it : ∀ {A' : Around} {E' : Value → Shared → Prop} {Q' : Value → Shared → Prop}, Q' (.ref hp.objs.size) ⟨hp.push o, g, d, tk, os⟩ → wpAny (model prog w) A' (pyIter v) Q' E' ⟨hp, g, d, tk, os⟩ := fun q => B.iter prog w _ _ ⟨hp, g, d, tk, os⟩ _ hB q
    wp_walk using it
    refine wpAny_stack_any fun st => wpAny_pure ?_
    split
    · rename_i c _ _ _ _ _
      cases (c == Value.type "enumerate") <;> (wp_walk using it; exact ⟨_, rfl, h⟩)
    · wp_walk using it; exact ⟨_, rfl, h⟩
theorem call_enum1 {prog : Program} {w : World} {v : Value} {o : Obj} {Hh : Heap → Prop} {Q : Value → Shared → Prop} (B : Begins v o Hh) (hB : Hh s.heap)
    (h : ∀ h', IsEnum h' (s.heap.objs.size + 1) s.heap.objs.size 0 .none → h'.get? s.heap.objs.size = some o → (∀ b u, s.heap.get? b = some u → h'.get? b = some u) → Q (.ref (s.heap.objs.size + 1)) { s with heap := h' }) :
    wpAny (model prog w) A (call (.type "enumerate") [v]) Q E s := by
  refine callType_new F.called_enumerate (by decide) (F.typeCall_enumerate_1 _) (F.newCall_enumerate_1 _) (fun obj => F.args_object_init_2 obj _) F.entry_enumerate_new (new_enum1 B) ⟨hB, ?_⟩
  have hz : (s.heap.push o).objs.size = s.heap.objs.size + 1 := Heap.size_push ..
  show _ ∧ _
  rw [hz]
  have he : IsEnum ((s.heap.push o).push (nEnum s.heap.objs.size)) (s.heap.objs.size + 1) s.heap.objs.size 0 .none := by
    have q := Heap.get?_push_size (s.heap.push o) (o := nEnum s.heap.objs.size) rfl
    rw [hz] at q
    exact q
  exact ⟨⟨_, he, rfl⟩, h _ he (Heap.get?_push_of_some _ (Heap.get?_push_size _ B.free)) fun b u e => Heap.get?_push_of_some _ (Heap.get?_push_of_some _ e)⟩
end
/-- the tuple at a, each item in a new pair -/
def IteT (K : PySem.W.Frag) (a : Addr) : It :=
  ⟨fun i H => ∃ (xs : List V) (x : V), SqT K H a xs ∧ xs[i]? = some x, fun i H v H' => ∃ T x, v = .ref T ∧ H T = none ∧ H' = upd H T (.tup [.int (i : Nat), x]) ∧ ∀ xs, SqT K H a xs → xs[i]? = some x, fun i H => ∃ xs : List V, SqT K H a xs ∧ xs.length ≤ i⟩
theorem turn_enumT {P : Program} {w : World} {K : PySem.W.Frag} {elts : List Expr} {kk : Nat} {tpos : Pos} (a e it : Addr) :
    Turn P w K (.Tuple elts kk tpos) (IteT K a) [e, it] e (fun i h => (∃ old, IsEnum h e it ((i : Nat) : Int) old) ∧ h.IsTupleIter it a i ∧ e ≠ it ∧ a ≠ it ∧ a ≠ e) where
  mem := by simp
  obj := fun i h st b hb => by
    obtain ⟨⟨old, he⟩, ⟨o, ho, hc, hd⟩, _⟩ := st
    rcases (show b = e ∨ b = it by simpa using hb) with rfl | rfl
    · exact ⟨_, he, fun v q => nomatch q⟩
    · exact ⟨o, ho, fun v q => by rw [hd] at q; cases q⟩
  keep := fun i h h' st k => by
    obtain ⟨⟨old, he⟩, hi, r⟩ := st
    exact ⟨⟨old, k e (by simp) _ he⟩, hi.at fun o q => k it (by simp) o q, r⟩
  item := by
    intro X hP hw hK hc i pins s σ H E I hf st hg
    subst hP hw hK
    obtain ⟨⟨old, he⟩, hit, hne, hai, hae⟩ := st
    obtain ⟨xs, x, hq, hx⟩ := hg
    obtain ⟨its, rv, p, hz⟩ := I.tuple hq
    obtain ⟨u, hu, ru⟩ := rv.get hx
    have hu' : its.toArray[i]? = some u := by simpa using hu
    have lt : i < its.toArray.size := (Array.getElem?_eq_some_iff.mp hu').1
    have hel : e < s.heap.objs.size := Heap.lt_size he
    have hil : it < s.heap.objs.size := by obtain ⟨_, q, _⟩ := hit; exact Heap.lt_size q
    have D := Draws.tuple (prog := X.prog) (w := X.w) (A := X.A.in1) (I.ok.hd hc) it a hai its.toArray
    refine wpAny_pyNext_enum_itemD D he ⟨hit, p⟩ lt hne (by simp only [List.mem_cons, List.not_mem_nil, or_false, not_or]; exact ⟨hne, Ne.symm hae⟩) fun y h' tk hy ho st' hT hsz hk => ?_
    have : y = u := Option.some.inj (hy.symm.trans hu')
    subst this
    refine ⟨_, rfl, wpAny_letOwnedTupleGo_enum (s := { s with heap := h', toks := tk + 1 }) ho fun h'' he' sb => ?_⟩
    have hT2 := (sb.2 _ (Nat.ne_of_gt hel)).trans hT
    have new : ObjOk X.prog X.w (upd H s.heap.objs.size (.tup [.int (i : Nat), x])) h'' s.heap.objs.size (.tup [.int (i : Nat), x]) :=
      ⟨by show 2 ≤ sizeLine; decide, [.int i tk, y], .cons ⟨_, rfl⟩ (.cons ru .nil), ⟨_, hT2, rfl, _, rfl⟩⟩
    have I1 : Inv X pins σ (upd H s.heap.objs.size (.tup [.int (i : Nat), x])) { s with heap := h'', toks := tk + 1 } :=
      I.turnedNew (ch := [e, it]) (fun b ob hb q => by
        have n1 : b ≠ e := fun z => hb (by simp [z])
        have n2 : b ≠ it := fun z => hb (by simp [z])
        exact (sb.2 b n1).trans (hk b ob n1 n2 q)) hf (Nat.le_refl _) new
    refine ⟨.ref s.heap.objs.size, _, I1, rfl, ⟨_, x, rfl, I.hok.fresh (Nat.le_refl _), rfl, fun ys hy => by rw [I.tuple_inj hy hq]; exact hx⟩, ⟨⟨y, ?_⟩, st'.1.at fun o q => (sb.2 it (Ne.symm hne)).trans q, hne, hai, hae⟩, fun b hb => ?_⟩
    · rw [show ((i + 1 : Nat) : Int) = (i : Int) + 1 by omega]; exact he'
    · have hb' : b < s.heap.objs.size := by
        rcases (show b = e ∨ b = it by simpa using hb) with rfl | rfl <;> assumption
      rw [upd_ne (Nat.ne_of_lt hb')]
      exact (hf b hb).1
  done := by
    intro X hP hw hK hc i pins s σ H E I hf st hg
    subst hP hw hK
    obtain ⟨⟨old, he⟩, hit, hne, hai, hae⟩ := st
    obtain ⟨xs, hq, hx⟩ := hg
    obtain ⟨its, rv, p, hz⟩ := I.tuple hq
    obtain ⟨f0, f1, f2, f3, f4, f5⟩ := hf it (by simp)
    have hl := rv.length
    have hh : X.A.in1.in1.handled = none := I.ok.hd hc
    have hT : s.TypeIs (.ref e) "enumerate" := ⟨_, he, rfl⟩
    unfold pyNext
    refine wpAny_bind (wpAny_attempt (wpAny_callSpecial?_slot (name := Str.ofString "__next__") hT F.slot_enumerate_next (wpAny_call_entry F.slot_enumerate_next hT F.entry_enumerate_next ?_ (F.args_enumerate_next_1 _))))
    show wpAny _ _ (field (.ref e) 2 >>= _) _ _ _
    refine wpAny_bind (wpAny_field he rfl (x := .ref it) rfl ?_)
    refine wpAny_bind (wpAny_nextOf_tuple_end hh hit p (by simp; omega) fun h' x he' hx' => ?_)
    obtain ⟨o, ho, hc⟩ := hx'
    refine wpAny_bind (wpAny_isInstance (T := "StopIteration") (b := true) ⟨o, ho, hc⟩ isSubtype_stop ?_)
    exact wpAny_pure ⟨rfl, I.turned (t' := s.toks) (fun b o hb q => he' b o hb q) f0 f1 f3 f4 f5⟩
  self := fun A i s Q E st h => by
    obtain ⟨⟨_, he⟩, _⟩ := st
    exact wpAny_pyIter_enum he h
def iEnumT (K : PySem.W.Frag) (ta : TA) : TI := fun σ H R => ta σ H fun vs H1 => ∃ a xs, vs = [.ref a] ∧ SqT K H1 a xs ∧ R (IteT K a) H1
theorem pi_enumT {X : Cx} {e : Expr} {ta : TA} {p pos tpos : Pos} {elts : List Expr} {kk : Nat} (hg : Gl X "enumerate") (hm : X.mg "enumerate" = none) (ha : PA X [e] ta) (hs : starEach [e] X.env = [(false, eval e X.env)] := by rfl) : PI X (.Tuple elts kk tpos) (.Call (.Name "enumerate" p) [e] [] pos) (iEnumT X.K ta) := by
  refine ⟨fun pins s σ H R I h => Call_ (ld_blt I hg hm boot_enumerate (PyProof.Rows.callWith_type1 (thn (ha.run pos pins s σ H _ I h) fun us s1 ⟨vs, H1, I1, r1, q1⟩ => ?_) hs rfl))⟩
  obtain ⟨a, xs, ex, hq, q⟩ := q1
  subst ex
  cases r1 with
  | cons r rr =>
    cases rr
    cases r
    obtain ⟨its, rv, p', hz⟩ := I1.tuple hq
    obtain ⟨ot, hot, _⟩ := id p'
    have alt : a < s1.heap.objs.size := Heap.lt_size hot
    refine call_enum1 (begins_tuple a its.toArray) p' fun h' he hit hk => wpAny_pyIter_enum he ?_
    have I2 : Inv X pins σ H1 { s1 with heap := h' } := I1.kept (t' := s1.toks) hk
    refine ⟨s1.heap.objs.size + 1, [s1.heap.objs.size + 1, s1.heap.objs.size], _, _, H1, rfl, I2, turn_enumT a (s1.heap.objs.size + 1) s1.heap.objs.size, ⟨⟨.none, he⟩, ⟨_, hit, rfl, rfl⟩, Nat.succ_ne_self _, Nat.ne_of_lt alt, Nat.ne_of_lt (Nat.lt_succ_of_lt alt)⟩, fun b hb => ?_, q⟩
    have hle : s1.heap.objs.size ≤ b := by
      rcases (show b = s1.heap.objs.size + 1 ∨ b = s1.heap.objs.size by simpa using hb) with z | z <;> rw [z] <;> omega
    exact I1.fpOk hle (I1.hok.fresh hle)
section
variable {X : Cx} {B : Addr → Prop} {H0 : Hp} {sl : List Sl} {e a b tg : Expr} {elts : List Expr} {kk : Nat} {da db : D} {ds dt : List D} {pos p tp : Pos}
theorem ji_enumU (hg : Gl X "enumerate") (hm : X.mg "enumerate" = none) (ha : JA X B H0 true sl [a] [.tup ds]) (hs : starEach [a] X.env = [(false, eval a X.env)] := by rfl) : JI X B H0 sl (.Tuple elts kk tp) (.Call (.Name "enumerate" p) [a] [] pos) (enumD ds) := ⟨fun gh as σ H R S q =>
  PIt (pi_enumT hg hm pa_w hs) (ha.run gh as σ H _ S fun vs H1 s1 r => by
    obtain ⟨v, r', rfl, h1, h2⟩ := r
    cases (show r' = [] from h2)
    obtain ⟨t, xs, rfl, tt, n⟩ := h1
    have G : GhOK X.K (AOf B as) H1 ([(t, .tup xs)], ds, xs) := ⟨fun b u e => by cases List.mem_singleton.mp e; exact ⟨tt, .inr trivial, by intro _ z; cases z⟩, n⟩
    have k : ∀ A H, GhOK X.K A H ([(t, .tup xs)], ds, xs) → SqT X.K H t xs := fun A H G => .inl (.inl (G.1 t _ List.mem_cons_self).1)
    refine ⟨t, xs, rfl, k _ _ G, q _ H1 ([(t, .tup xs)], ds, xs) s1 G ⟨fun A i H' G' hi => ?_, fun A H' G' => ⟨xs, k _ _ G', by rw [enumD_len, G'.2.len]; exact Nat.le_refl _⟩⟩⟩
    rw [enumD_len] at hi
    obtain ⟨x, hx, rx⟩ := G'.2.get (i := i) (d := ds[i]) (by rw [List.getElem?_eq_getElem hi])
    refine ⟨⟨xs, x, k _ _ G', hx⟩, fun w H'' ⟨T, x', e1, e2, e3, f⟩ => ?_⟩
    have : x' = x := Option.some.inj ((f xs (k _ _ G')).symm.trans hx)
    subst this
    subst e3
    exact ⟨Same.new e2, _, enumD_get hi, T, _, e1, upd_same, _, _, rfl, rfl, _, _, rfl, rx.stp (.of (Same.new e2)), rfl⟩)⟩
end
end PD
namespace PD
open PySem PySem.Spec PyProof.Rows L2
variable [TN]
/-! ### sorted(set(a list of whole numbers)) -/
def eSet (w : World) : Obj := { cls := .type "set", dict := none, data := .set #[] 0 (.fresh 0 0 (!w.params.followText "set-order")) }
section
variable {P : Program} {w : World} {A : Around} {E : Value → Shared → Prop} {s : Shared}
/-- the filling of the new set out of a list -/
theorem set_init_list {l : Addr} {items : Array Value} {ns : List Int} {Q : Value → Shared → Prop} (hh : A.handled = none) (hl : s.heap.IsList l items) (hit : IntsAre items.toList ns) (hb : ns.length + 1 < scanBound)
    (h : ∀ (h' : Heap) (tk c : Nat), SetR w h' s.heap.objs.size (fun j => decide (j ∈ ns)) c → c ≤ ns.length → (∀ b o, s.heap.get? b = some o → h'.get? b = some o) → Q .none { s with heap := h', toks := tk }) :
    wpAny (model P w) A (Builtin.«set.__init__» ⟨[.ref s.heap.objs.size, .ref l], []⟩) (fun fin s' => ∃ v, fin = .done (.ret v) ∧ Q v s') E { s with heap := s.heap.push (eSet w) } := by
  have hS : (s.heap.push (eSet w)).get? s.heap.objs.size = some (eSet w) := Heap.get?_push_size _ rfl
  have hsz : items.size = ns.length := by
    have q := IntsAre.length hit
    rw [Array.length_toList] at q
    exact q
  obtain ⟨⟨c0, d0, u0, f0⟩, ho, hc0, n0, hu0⟩ := hl
  cases hc0
  cases hu0
  have ho' : (s.heap.push (eSet w)).get? l = some { cls := .type "list", dict := d0, data := .seq items n0, slots := f0 } := Heap.get?_push_of_some _ ho
  have k1 := F.sub_list_set
  have k2 := F.sub_list_frozenset
  have k3 : (Value.type "list" == Value.type "dict") = false := by decide
  have hl1 : (s.heap.push (eSet w)).IsList l items := ⟨_, ho', rfl, n0, rfl⟩
  unfold eSet at hS ho' hl1 ⊢
  unfold Builtin.«set.__init__» noKeywords Builtin.Frozenset.updateFrom
  generalize hPI : pyIter = PI
  wp_walk
  subst hPI
  refine wpAny_pyIter_list hl1 (wpAny_bind (wpAny_runValue ?_))
  have lt : l < s.heap.objs.size := Heap.lt_size ho
  have h3 : A.in1.handled = none := by simp [hh]
  generalize hN : s.heap.objs.size = N at *
  have hz : (s.heap.push { cls := .type "set", dict := none, data := .set #[] 0 (.fresh 0 0 (!w.params.followText "set-order")) }).objs.size = N + 1 := by rw [Heap.size_push, hN]
  rw [hz]
  have ne1 : l ≠ N + 1 := Nat.ne_of_lt (Nat.lt_succ_of_lt lt)
  have nf : N ∉ [N + 1, l] := by
    simp only [List.mem_cons, List.not_mem_nil, or_false, not_or]
    exact ⟨Nat.ne_of_lt (Nat.lt_succ_self _), Nat.ne_of_gt lt⟩
  have at_ : ∀ (i : Nat) (v : Value), items[i]? = some v → ∃ k t, ns[i]? = some k ∧ v = .int k t := fun i v hv => by
    have hi : i < ns.length := hsz ▸ (Array.getElem?_eq_some_iff.mp hv).1
    obtain ⟨t, e⟩ := PyProof.Rows.IntsAre.int_at hit i v (by rw [Array.getElem?_toList]; exact hv)
    exact ⟨ns[i], t, List.getElem?_eq_getElem hi, by rw [e, List.getD_eq_getElem?_getD, List.getElem?_eq_getElem hi]; rfl⟩
  refine set_update_ints ((Walks.list h3 _ l ne1 items).toS) N nf ns hsz hb at_ (items.size - 0) 0 _ (by omega) (Nat.zero_le _) ⟨⟨_, by rw [← hz]; exact Heap.get?_push_size _ rfl, rfl, rfl⟩, hl1.push _⟩ ⟨0, Nat.le_refl 0, setR_new_at (Heap.get?_push_of_some _ hS)⟩ fun s' c' mv hc' hS' => ?_
  obtain ⟨h', g2, d', tk', os'⟩ := s'
  cases mv.gens
  cases mv.drawn
  cases mv.os
  show wpAny _ _ (pure ()) _ _ _
  refine wpAny_pure ?_
  show wpAny _ _ (ret .none) _ _ _
  refine wpAny_pure ⟨_, rfl, h h' tk' c' hS' (hsz ▸ hc') fun b o e => ?_⟩
  have b0 : b < N := hN ▸ Heap.lt_size e
  refine mv.heap b o ?_ (Heap.get?_push_of_some _ (Heap.get?_push_of_some _ e))
  simp only [List.mem_cons, List.not_mem_nil, or_false, not_or]
  exact ⟨Nat.ne_of_lt b0, Nat.ne_of_lt (Nat.lt_succ_of_lt b0)⟩
theorem call_set_list {l : Addr} {items : Array Value} {ns : List Int} {Q : Value → Shared → Prop} (hh : A.handled = none) (hl : s.heap.IsList l items) (hit : IntsAre items.toList ns) (hb : ns.length + 1 < scanBound)
    (h : ∀ (h' : Heap) (tk c : Nat), SetR w h' s.heap.objs.size (fun j => decide (j ∈ ns)) c → c ≤ ns.length → (∀ b o, s.heap.get? b = some o → h'.get? b = some o) → Q (.ref s.heap.objs.size) { s with heap := h', toks := tk }) :
    wpAny (model P w) A (call (.type "set") [.ref l]) Q E s := by
  obtain ⟨c, tl, hmro⟩ := F.called_set.mro
  have f1 := F.called_set.notType
  have f2 := F.called_set.canCreate
  have f3 := F.called_set.made
  have f4 := F.called_set.sub
  have f5 := F.typeCall_set_1 (.ref l)
  refine wpAny_call (codeAny_of_tree ?_)
  show wpAny _ _ (callAny (.type "set") _) _ _ _
  refine wpAny_pure ⟨Code.quiet_builtin _ (by decide +kernel), codeAny_builtin F.entry_type_call ?_⟩
  rw [Around.under_plain (weight_type_call_type "set" [.ref l] []) rfl]
  repeat (any_goals (first | assumption | wp_step))
  refine codeAny_mono (code_set_led1 (.ref l) (E := E) (Q₁ := fun obj s₁ => obj = .ref s.heap.objs.size ∧ s₁ = { s with heap := s.heap.push (eSet w) }) ⟨rfl, rfl⟩) fun r s₁ hr => ?_
  rcases r with e | (_ | obj | _ | _)
  all_goals first | exact hr | exact hr.elim | skip
  obtain ⟨rfl, rfl⟩ := hr
  have hS : (s.heap.push (eSet w)).get? s.heap.objs.size = some (eSet w) := Heap.get?_push_size _ rfl
  have hT : Shared.TypeIs { s with heap := s.heap.push (eSet w) } (.ref s.heap.objs.size) "set" := ⟨_, hS, rfl⟩
  have g1 := F.called_set.init.lookup
  have g2 := F.called_set.init.bind (.ref s.heap.objs.size)
  repeat (any_goals (first | assumption | wp_step))
  refine codeAny_mono (codeAny_call_builtin (R := wants (fun r s₂ => r = .none ∧ ∃ h' tk c, s₂ = { s with heap := h', toks := tk } ∧ SetR w h' s.heap.objs.size (fun j => decide (j ∈ ns)) c ∧ c ≤ ns.length ∧ ∀ b o, s.heap.get? b = some o → h'.get? b = some o) E)
    F.called_set.init.plain F.entry_set_init (check_set_init_1 hT ?_)) fun r₂ s₂ hr₂ => ?_
  · have hh' : A.in1.in1.handled = none := by simp [hh]
    refine wpAny_mono (set_init_list (P := P) (E := E) (Q := fun r s₂ => r = .none ∧ ∃ h' tk c, s₂ = { s with heap := h', toks := tk } ∧ SetR w h' s.heap.objs.size (fun j => decide (j ∈ ns)) c ∧ c ≤ ns.length ∧ ∀ b o, s.heap.get? b = some o → h'.get? b = some o) hh' hl hit hb fun h' tk c a1 a2 a3 => ⟨rfl, h', tk, c, rfl, a1, a2, a3⟩) (fun fin s' => ?_) fun e s' q => q
    rintro ⟨v, rfl, q⟩
    exact q
  · rcases r₂ with e | (_ | r | _ | _)
    all_goals first | exact hr₂ | exact hr₂.elim | skip
    obtain ⟨rfl, h', tk, c', rfl, a1, a2, a3⟩ := hr₂
    repeat (any_goals (first | assumption | wp_step))
    exact h _ _ _ a1 a2 a3
end
/-- set(a list of ints) -/
def rSetL (w : World) (K : PySem.W.Frag) : List V → Hp → VK → Prop := fun vs H Q => ∃ (a : Addr) (ns : List Int), vs = [V.ref a] ∧ SqL K H a (ns.map V.int) ∧ ns.length ≤ 63 ∧
  ∀ (p : Addr) (c : Nat), c ≤ ns.length → H p = none → Q (.ref p) (upd H p (SetO w p (fun j => decide (j ∈ ns)) c))
theorem cr_setL {X : Cx} (hc : X.calm = true) : CallR X (.type "set") (rSetL X.w X.K) := by
  intro pins s σ H vs us Q I r h
  obtain ⟨a, ns, rfl, hq, hl, q⟩ := h
  rw [Vals.ref1 r]
  obtain ⟨its, rv, p', hz⟩ := I.list hq
  have hi : IntsAre its.toArray.toList ns := ints_of_vals rv
  refine call_set_list (I.ok.hd hc) p'.isList hi (by unfold scanBound; omega) fun h' tk c R hcn k => ?_
  have hn : H s.heap.objs.size = none := I.hok.fresh (Nat.le_refl _)
  exact ⟨.ref _, upd H s.heap.objs.size (SetO X.w s.heap.objs.size (fun j => decide (j ∈ ns)) c), I.laid (t' := tk) k (Nat.le_refl _) (setO_new R), rfl, q _ c hcn hn⟩
/-- rising, each once -/
def insU (k : Int) : List Int → List Int
  | [] => [k]
  | j :: js => if k < j then k :: j :: js else if k = j then j :: js else j :: insU k js
def sortU : List Int → List Int
  | [] => []
  | k :: ks => insU k (sortU ks)
theorem insU_mem {k x : Int} : ∀ {l : List Int}, x ∈ insU k l ↔ x = k ∨ x ∈ l
  | [] => by simp [insU]
  | j :: js => by
    unfold insU
    split
    · simp
    · split
      · rename_i h
        subst h
        simp
      · simp only [List.mem_cons, insU_mem (l := js)]
        constructor
        · rintro (h | h | h) <;> simp [h]
        · rintro (h | h | h) <;> simp [h]
theorem insU_ris {k : Int} : ∀ {l : List Int}, l.Pairwise (· < ·) → (insU k l).Pairwise (· < ·)
  | [], _ => by simp [insU]
  | j :: js, h => by
    obtain ⟨h1, h2⟩ := List.pairwise_cons.mp h
    unfold insU
    split
    · rename_i g
      refine List.pairwise_cons.mpr ⟨fun x hx => ?_, h⟩
      rcases List.mem_cons.mp hx with rfl | hx
      · exact g
      · have := h1 x hx
        omega
    · split
      · exact h
      · refine List.pairwise_cons.mpr ⟨fun x hx => ?_, insU_ris h2⟩
        rcases insU_mem.mp hx with rfl | hx
        · omega
        · exact h1 x hx
theorem sortU_mem {x : Int} : ∀ {l : List Int}, x ∈ sortU l ↔ x ∈ l
  | [] => Iff.rfl
  | k :: ks => by
    unfold sortU
    rw [insU_mem, sortU_mem, List.mem_cons]
theorem sortU_ris : ∀ l : List Int, (sortU l).Pairwise (· < ·)
  | [] => List.Pairwise.nil
  | k :: ks => insU_ris (sortU_ris ks)
theorem ris_unique : ∀ {l m : List Int}, l.Pairwise (· < ·) → m.Pairwise (· < ·) → (∀ x, x ∈ l ↔ x ∈ m) → l = m
  | [], [], _, _, _ => rfl
  | [], y :: m, _, _, e => by have := (e y).mpr List.mem_cons_self; cases this
  | x :: l, [], _, _, e => by have := (e x).mp List.mem_cons_self; cases this
  | x :: l, y :: m, h, g, e => by
    obtain ⟨h1, h2⟩ := List.pairwise_cons.mp h
    obtain ⟨g1, g2⟩ := List.pairwise_cons.mp g
    have xy : x = y := by
      rcases List.mem_cons.mp ((e x).mp List.mem_cons_self) with q | q
      · exact q
      · rcases List.mem_cons.mp ((e y).mpr List.mem_cons_self) with r | r
        · exact r.symm
        · have a := g1 x q
          have b := h1 y r
          omega
    subst xy
    rw [ris_unique h2 g2 fun z => ?_]
    constructor
    · intro hz
      rcases List.mem_cons.mp ((e z).mp (List.mem_cons_of_mem _ hz)) with q | q
      · have := h1 z hz
        omega
      · exact q
    · intro hz
      rcases List.mem_cons.mp ((e z).mpr (List.mem_cons_of_mem _ hz)) with q | q
      · have := g1 z hz
        omega
      · exact q
theorem sortU_len : ∀ l : List Int, (sortU l).length ≤ l.length
  | [] => Nat.le_refl _
  | k :: ks => by
    have := sortU_len ks
    have h : ∀ m : List Int, (insU k m).length ≤ m.length + 1 := by
      intro m
      induction m with
      | nil => exact Nat.le_refl _
      | cons j js ih =>
        unfold insU
        split
        · exact Nat.le_refl _
        · split
          · exact Nat.le_succ _
          · simp only [List.length_cons]
            omega
    exact Nat.le_trans (h _) (Nat.succ_le_succ this)
section
variable {X : Cx} {B : Addr → Prop} {H0 : Hp} {m : Bool} {sl : List Sl} {e a b : Expr} {da db : D} {pos p p2 pos2 : Pos} {ns : List Int}
theorem jf_sortset (hc : X.calm = true) (hg : Gl X "sorted") (hm : X.mg "sorted" = none) (hg2 : Gl X "set") (hm2 : X.mg "set" = none) (ha : JA X B H0 true sl [a] [da]) (hr : RdL da (ns.map .int)) (hl : ns.length ≤ 63)
    (he : starEach [a] X.env = (false, eval a X.env) :: starEach [] X.env := by rfl) (hpl : (backTo pos2 (starEach [] X.env)).any (·.1) = false := by rfl)
    (he2 : starEach [.Call (.Name "set" p2) [a] [] pos2] X.env = (false, eval (.Call (.Name "set" p2) [a] [] pos2) X.env) :: starEach [] X.env := by rfl) (hpl2 : (backTo pos (starEach [] X.env)).any (·.1) = false := by rfl) :
    JF X B H0 sl (.Call (.Name "sorted" p) [.Call (.Name "set" p2) [a] [] pos2] [] pos) (.lst ((sortU ns).map .int)) := ⟨fun gh as σ H Q S q =>
  PEt (pe_callB (cr_sortedSet hc) hg hm boot_sorted (pa_cons (pe_callTy (cr_setL hc) hg2 hm2 boot_set pa_w (by decide) (by decide) he hpl) pa_nil he2) (by decide) (by decide) he2 hpl2) (ha.run gh as σ H _ S fun vs H1 s1 r1 => by
    obtain ⟨z, r', rfl, h1, h2⟩ := r1
    cases (show r' = [] from h2)
    obtain ⟨t, xs, rfl, hs, hx⟩ := hr.seq h1
    rw [rpl_ints] at hx
    subst hx
    refine ⟨t, ns, rfl, hs, hl, fun p1 c hc1 hp1 => ⟨p1, _, c, rfl, upd_same, by omega, fun ms q1 h3 h4 h5 hq1 => ?_⟩⟩
    have e1 : ms = sortU ns := ris_unique h3 (sortU_ris ns) fun x => by rw [h4, sortU_mem, decide_eq_true_eq]
    subst e1
    have s2 : Same H1 (upd (upd H1 p1 (SetO X.w p1 (fun j => decide (j ∈ ns)) c)) q1 (.lst ((sortU ns).map V.int))) := (Same.new hp1).trans (Same.new hq1)
    refine q q1 _ (s1.trans s2) (s1.free ((Same.new hp1).free hq1)) ⟨_, upd_same, ?_⟩
    rw [rpl_ints])⟩
end
end PD
namespace PD
open PySem PySem.Spec PyProof.Rows L2
variable [TN]
/-! ### dicts with pairs of whole numbers for keys -/
section
variable {α : Type}
def dget (kvs : List (Q × α)) (k : Q) : Option α := (kvs.find? fun p => decide (p.1 = k)).map (·.2)
def dput (kvs : List (Q × α)) (k : Q) (v : α) : List (Q × α) := if (kvs.any fun p => decide (p.1 = k)) = true then kvs.map (fun p => if p.1 = k then (p.1, v) else p) else kvs ++ [(k, v)]
theorem dget_nil {k : Q} : dget ([] : List (Q × α)) k = none := rfl
theorem dget_cons {p : Q × α} {kvs : List (Q × α)} {k : Q} : dget (p :: kvs) k = if p.1 = k then some p.2 else dget kvs k := by
  unfold dget
  rw [List.find?_cons]
  by_cases h : p.1 = k
  · rw [if_pos h, decide_eq_true h]; rfl
  · rw [if_neg h, decide_eq_false h]
theorem any_dget {k : Q} : ∀ kvs : List (Q × α), (kvs.any fun p => decide (p.1 = k)) = (dget kvs k).isSome
  | [] => rfl
  | p :: kvs => by
    rw [List.any_cons, any_dget kvs, dget_cons]
    by_cases h : p.1 = k
    · rw [if_pos h, decide_eq_true h]; rfl
    · rw [if_neg h, decide_eq_false h]; rfl
theorem dget_app {k j : Q} {v : α} : ∀ kvs : List (Q × α), dget (kvs ++ [(k, v)]) j = ((dget kvs j).or (if k = j then some v else none))
  | [] => by rw [List.nil_append, dget_cons, dget_nil, Option.none_or]
  | p :: kvs => by
    rw [List.cons_append, dget_cons, dget_cons, dget_app kvs]
    by_cases h : p.1 = j
    · rw [if_pos h, if_pos h, Option.some_or]
    · rw [if_neg h, if_neg h]
theorem dget_map {k j : Q} {v : α} : ∀ kvs : List (Q × α), dget (kvs.map fun p => if p.1 = k then (p.1, v) else p) j = if j = k then (dget kvs j).map fun _ => v else dget kvs j
  | [] => by rw [List.map_nil, dget_nil]; split <;> rfl
  | p :: kvs => by
    rw [List.map_cons, dget_cons, dget_cons, dget_map kvs]
    by_cases h : p.1 = k
    · subst h
      rw [if_pos rfl]
      by_cases g : p.1 = j
      · subst g
        simp
      · rw [if_neg g, if_neg g]
    · rw [if_neg h]
      by_cases g : p.1 = j
      · subst g
        rw [if_pos rfl, if_neg h]
        simp
      · rw [if_neg g, if_neg g]
theorem dget_put (kvs : List (Q × α)) (k j : Q) (v : α) : dget (dput kvs k v) j = if j = k then some v else dget kvs j := by
  unfold dput
  rw [any_dget]
  by_cases h : (dget kvs k).isSome = true
  · rw [if_pos h, dget_map]
    by_cases g : j = k
    · subst g
      rw [if_pos rfl, if_pos rfl]
      cases e : dget kvs j with
      | none => rw [e] at h; cases h
      | some z => rfl
    · rw [if_neg g, if_neg g]
  · rw [if_neg h, dget_app]
    by_cases g : j = k
    · subst g
      rw [if_pos rfl, if_pos rfl]
      cases e : dget kvs j with
      | none => rfl
      | some z => rw [e] at h; exact absurd rfl h
    · rw [if_neg g, if_neg (fun z => g z.symm), Option.or_none]
theorem dput_len (kvs : List (Q × α)) (k : Q) (v : α) : (dput kvs k v).length ≤ kvs.length + 1 := by
  unfold dput
  split
  · rw [List.length_map]; exact Nat.le_succ _
  · rw [List.length_append]; exact Nat.le_refl _
end
abbrev kk (q : Q) : List L2.Key := [.inl q.1, .inl q.2]
theorem kk_inj {a b : Q} : kk a = kk b ↔ a = b := by
  constructor
  · intro h
    injection h with h1 h2
    injection h2 with h2 _
    exact Prod.ext (Sum.inl.inj h1) (Sum.inl.inj h2)
  · rintro rfl; rfl
section
variable {α : Type} {f : α → D}
abbrev dQ (f : α → D) (kvs : List (Q × α)) : D := .dct (kvs.map fun p => [p.1.1, p.1.2]) (kvs.map fun p => f p.2)
abbrev zk (kvs : List (Q × α)) (xs : List V) : List (List L2.Key × V) := (dkeys (kvs.map fun p => [p.1.1, p.1.2])).zip xs
theorem zk_get {K : PySem.W.Frag} {A : Addr → Prop} {H : Hp} {k : Q} : ∀ {kvs : List (Q × α)} {xs : List V}, RpL K A H (kvs.map fun p => f p.2) xs →
    (dget kvs k = none → valV (zk kvs xs) (kk k) = none) ∧ ∀ v, dget kvs k = some v → ∃ x, valV (zk kvs xs) (kk k) = some x ∧ Rp K A H (f v) x
  | [], xs, _ => ⟨fun _ => rfl, fun v e => by cases e⟩
  | p :: kvs, _, h => by
    obtain ⟨x, r, rfl, h1, h2⟩ := h
    obtain ⟨i1, i2⟩ := zk_get (k := k) h2
    have e : zk (p :: kvs) (x :: r) = (kk p.1, x) :: zk kvs r := rfl
    rw [e, dget_cons]
    by_cases g : p.1 = k
    · rw [if_pos g, valV_pos (p := (kk p.1, x)) (kk_inj.mpr g)]
      exact ⟨(fun z => by cases z), fun v z => ⟨x, rfl, by cases z; exact h1⟩⟩
    · rw [if_neg g, valV_neg (p := (kk p.1, x)) (fun z => g (kk_inj.mp z))]
      exact ⟨i1, i2⟩
theorem zk_any {k : Q} : ∀ {kvs : List (Q × α)} {xs : List V}, xs.length = kvs.length → ((zk kvs xs).any fun kv => decide (kv.1 = kk k)) = kvs.any fun p => decide (p.1 = k)
  | [], xs, _ => rfl
  | p :: kvs, [], h => by cases h
  | p :: kvs, x :: xs, h => by
    have e : zk (p :: kvs) (x :: xs) = (kk p.1, x) :: zk kvs xs := rfl
    rw [e, List.any_cons, List.any_cons, zk_any (by simpa using h)]
    congr 1
    exact decide_eq_decide.mpr kk_inj
theorem zk_map {k : Q} {v : α} {K : PySem.W.Frag} {A : Addr → Prop} {H : Hp} {y : V} (hy : Rp K A H (f v) y) : ∀ {kvs : List (Q × α)} {xs : List V}, RpL K A H (kvs.map fun p => f p.2) xs →
    ∃ ys, (zk kvs xs).map (fun kv => if kv.1 = kk k then (kv.1, y) else kv) = zk (kvs.map fun p => if p.1 = k then (p.1, v) else p) ys ∧ RpL K A H ((kvs.map fun p => if p.1 = k then (p.1, v) else p).map fun p => f p.2) ys
  | [], xs, h => ⟨[], rfl, rfl⟩
  | p :: kvs, _, h => by
    obtain ⟨x, r, rfl, h1, h2⟩ := h
    obtain ⟨ys, i1, i2⟩ := zk_map hy h2
    have e : zk (p :: kvs) (x :: r) = (kk p.1, x) :: zk kvs r := rfl
    rw [e, List.map_cons, List.map_cons, i1]
    by_cases g : p.1 = k
    · rw [if_pos (kk_inj.mpr g), if_pos g]
      exact ⟨y :: ys, rfl, y, ys, rfl, hy, i2⟩
    · rw [if_neg (fun z => g (kk_inj.mp z)), if_neg g]
      exact ⟨x :: ys, rfl, x, ys, rfl, h1, i2⟩
theorem zk_app {k : Q} {v : α} {y : V} : ∀ {kvs : List (Q × α)} {xs : List V}, xs.length = kvs.length → zk kvs xs ++ [(kk k, y)] = zk (kvs ++ [(k, v)]) (xs ++ [y])
  | [], [], _ => rfl
  | [], x :: xs, h => by cases h
  | p :: kvs, [], h => by cases h
  | p :: kvs, x :: xs, h => by
    have e : zk (p :: kvs) (x :: xs) = (kk p.1, x) :: zk kvs xs := rfl
    rw [e, List.cons_append, zk_app (v := v) (by simpa using h)]
    rfl
theorem zk_len {kvs : List (Q × α)} {xs : List V} (h : xs.length = kvs.length) : (zk kvs xs).length = kvs.length := by
  unfold zk dkeys
  rw [List.length_zip, List.length_map, List.length_map, h, Nat.min_self]
theorem zk_put {k : Q} {v : α} {K : PySem.W.Frag} {A : Addr → Prop} {H : Hp} {y : V} (hy : Rp K A H (f v) y) {kvs : List (Q × α)} {xs : List V} (h : RpL K A H (kvs.map fun p => f p.2) xs) :
    ∃ ys, putK (zk kvs xs) (kk k) y = zk (dput kvs k v) ys ∧ RpL K A H ((dput kvs k v).map fun p => f p.2) ys := by
  have hl := h.len
  rw [List.length_map] at hl
  unfold putK dput
  rw [zk_any hl]
  by_cases g : (kvs.any fun p => decide (p.1 = k)) = true
  · rw [if_pos g, if_pos g]
    exact zk_map hy h
  · rw [if_neg g, if_neg g]
    refine ⟨xs ++ [y], zk_app hl, ?_⟩
    rw [List.map_append]
    exact h.app (.one hy)
end
theorem key_at {K : PySem.W.Frag} {A : Addr → Prop} {H : Hp} {q : Q} {v : V} (h : Rp K A H (fr q) v) : ∃ b, v = .ref b ∧ H b = some (.tup ((kk q).map kV)) := by
  obtain ⟨b, xs, rfl, hb, hl⟩ := h
  obtain ⟨x, r, rfl, h1, h2⟩ := hl
  obtain ⟨y, r2, rfl, h3, h4⟩ := h2
  cases (show x = .int q.1 from h1)
  cases (show y = .int q.2 from h3)
  cases (show r2 = [] from h4)
  exact ⟨b, rfl, hb⟩
section
variable {α : Type} {f : α → D} {X : Cx} {B : Addr → Prop} {H0 : Hp} {m : Bool} {sl : List Sl} {e a b ex : Expr} {d da db : D} {pos p p2 spos : Pos} {k : Nat} {kvs : List (Q × α)} {kq : Q} {v : α} {x : Str} {P : Po}
theorem Rp.dq {K : PySem.W.Frag} {A : Addr → Prop} {H : Hp} {v : V} (h : Rp K A H (dQ f kvs) v) : ∃ a xs, v = .ref a ∧ H a = some (.dT (zk kvs xs)) ∧ RpL K A H (kvs.map fun p => f p.2) xs := by
  obtain ⟨a, xs, e1, e2, _, _, e3⟩ := h
  exact ⟨a, xs, e1, e2, e3⟩
theorem je_inQ (hr : Room k X.A) (ha : JE X B H0 false sl a (fr kq)) (hb : JE X B H0 false sl b (dQ f kvs)) (hm : behindInMarks .In b = false := by rfl) : JE X B H0 m sl (.Compare a [.In] [b] pos) (.bl (dget kvs kq).isSome) := ⟨fun gh as σ H Q S q =>
  PEt (pe_cmp (pc_din (by have := hr.un; omega) pe_w pe_w) hm) (ha.run gh as σ H _ S fun y H1 s1 r1 => hb.run gh as σ H1 _ (S.same s1) fun z H2 s2 r2 => by
    obtain ⟨c, rfl, hc⟩ := key_at (r1.stp (.of s2))
    obtain ⟨a', xs, rfl, ht, hl⟩ := r2.dq
    obtain ⟨g1, g2⟩ := zk_get (k := kq) hl
    refine ⟨a', valV (zk kvs xs) (kk kq), rfl, .t ht hc, ?_⟩
    have e : (valV (zk kvs xs) (kk kq)).isSome = (dget kvs kq).isSome := by
      cases h : dget kvs kq with
      | none => rw [g1 h]; rfl
      | some v =>
        obtain ⟨x, h1, _⟩ := g2 v h
        rw [h1]
        rfl
    rw [e]
    exact q _ H2 (s1.trans s2) rfl)⟩
theorem je_ninQ (hr : Room k X.A) (ha : JE X B H0 false sl a (fr kq)) (hb : JE X B H0 false sl b (dQ f kvs)) (hm : behindInMarks .NotIn b = false := by rfl) : JE X B H0 m sl (.Compare a [.NotIn] [b] pos) (.bl (!(dget kvs kq).isSome)) := ⟨fun gh as σ H Q S q =>
  PEt (pe_cmp (pc_dnotin (by have := hr.un; omega) pe_w pe_w) hm) (ha.run gh as σ H _ S fun y H1 s1 r1 => hb.run gh as σ H1 _ (S.same s1) fun z H2 s2 r2 => by
    obtain ⟨c, rfl, hc⟩ := key_at (r1.stp (.of s2))
    obtain ⟨a', xs, rfl, ht, hl⟩ := r2.dq
    obtain ⟨g1, g2⟩ := zk_get (k := kq) hl
    refine ⟨a', valV (zk kvs xs) (kk kq), rfl, .t ht hc, ?_⟩
    have e : (valV (zk kvs xs) (kk kq)).isSome = (dget kvs kq).isSome := by
      cases h : dget kvs kq with
      | none => rw [g1 h]; rfl
      | some v =>
        obtain ⟨x, h1, _⟩ := g2 v h
        rw [h1]
        rfl
    rw [e]
    exact q _ H2 (s1.trans s2) rfl)⟩
theorem jt_inQ (hr : Room k X.A) (ha : JE X B H0 false sl a (fr kq)) (hb : JE X B H0 false sl b (dQ f kvs)) (hm : behindInMarks .In b = false := by rfl) : JT X B H0 sl (.Compare a [.In] [b] pos) (dget kvs kq).isSome := ⟨fun gh as σ H Q S q =>
  PTt (pt_cmp (pc_din (by have := hr.un; omega) pe_w pe_w) hm) (ha.run gh as σ H _ S fun y H1 s1 r1 => hb.run gh as σ H1 _ (S.same s1) fun z H2 s2 r2 => by
    obtain ⟨c, rfl, hc⟩ := key_at (r1.stp (.of s2))
    obtain ⟨a', xs, rfl, ht, hl⟩ := r2.dq
    obtain ⟨g1, g2⟩ := zk_get (k := kq) hl
    refine ⟨a', valV (zk kvs xs) (kk kq), rfl, .t ht hc, ?_⟩
    have e : (valV (zk kvs xs) (kk kq)).isSome = (dget kvs kq).isSome := by
      cases h : dget kvs kq with
      | none => rw [g1 h]; rfl
      | some v =>
        obtain ⟨x, h1, _⟩ := g2 v h
        rw [h1]
        rfl
    rw [e]
    exact ⟨_, rfl, q H2 (s1.trans s2)⟩)⟩
theorem jt_ninQ (hr : Room k X.A) (ha : JE X B H0 false sl a (fr kq)) (hb : JE X B H0 false sl b (dQ f kvs)) (hm : behindInMarks .NotIn b = false := by rfl) : JT X B H0 sl (.Compare a [.NotIn] [b] pos) (!(dget kvs kq).isSome) := ⟨fun gh as σ H Q S q =>
  PTt (pt_cmp (pc_dnotin (by have := hr.un; omega) pe_w pe_w) hm) (ha.run gh as σ H _ S fun y H1 s1 r1 => hb.run gh as σ H1 _ (S.same s1) fun z H2 s2 r2 => by
    obtain ⟨c, rfl, hc⟩ := key_at (r1.stp (.of s2))
    obtain ⟨a', xs, rfl, ht, hl⟩ := r2.dq
    obtain ⟨g1, g2⟩ := zk_get (k := kq) hl
    refine ⟨a', valV (zk kvs xs) (kk kq), rfl, .t ht hc, ?_⟩
    have e : (valV (zk kvs xs) (kk kq)).isSome = (dget kvs kq).isSome := by
      cases h : dget kvs kq with
      | none => rw [g1 h]; rfl
      | some v =>
        obtain ⟨x, h1, _⟩ := g2 v h
        rw [h1]
        rfl
    rw [e]
    exact ⟨_, rfl, q H2 (s1.trans s2)⟩)⟩
/-- d[k] -/
theorem je_ixQ (hr : Room k X.A) (ha : JE X B H0 false sl a (dQ f kvs)) (hb : JE X B H0 false sl b (fr kq)) (hg : dget kvs kq = some v) (hi : imm (f v) = true) (hs : NoSl b := by intro _ _; rfl) : JE X B H0 m sl (.Subscript a b pos) (f v) := ⟨fun gh as σ H Q S q =>
  PEt (pe_dget (by have := hr.un; omega) pe_w pe_w hs) (ha.run gh as σ H _ S fun y H1 s1 r1 => hb.run gh as σ H1 _ (S.same s1) fun z H2 s2 r2 => by
    obtain ⟨c, rfl, hc⟩ := key_at r2
    obtain ⟨a', xs, rfl, ht, hl⟩ := (r1.stp (.of s2)).dq
    obtain ⟨w, h1, h2⟩ := (zk_get (k := kq) hl).2 v hg
    exact ⟨a', w, rfl, by rw [← h1]; exact .t ht hc, q _ H2 (s1.trans s2) (h2.im hi)⟩)⟩
/-- d.get(k, other) -/
theorem je_getQ {ap cp : Pos} {v0 : α} (hr : Room k X.A) (ha : JE X B H0 false sl a (dQ f kvs)) (hb : JE X B H0 false sl b (fr kq)) (he : JE X B H0 false sl e (f v0)) (hi : ∀ v, imm (f v) = true) (hm : M2 X a "get" ap b e cp := by exact ⟨by rfl, by rfl, by rfl, by rfl⟩) : JE X B H0 m sl (.Call (.Attribute a "get" ap) [b, e] [] cp) (f ((dget kvs kq).getD v0)) := ⟨fun gh as σ H Q S q =>
  PEt (pe_dget2 (by have := hr.un; omega) pe_w pe_w pe_w hm) (ha.run gh as σ H _ S fun y H1 s1 r1 => by
    obtain ⟨a', xs, rfl, ht, hl⟩ := r1.dq
    refine ⟨a', rfl, .inr ⟨_, .inl ht⟩, hb.run gh as σ H1 _ (S.same s1) fun z H2 s2 r2 => he.run gh as σ H2 _ (S.same (s1.trans s2)) fun w H3 s3 r3 => ?_⟩
    obtain ⟨c, rfl, hc⟩ := key_at (r2.stp (.of s3))
    obtain ⟨g1, g2⟩ := zk_get (k := kq) (hl.stp (.of (s2.trans s3)))
    refine ⟨valV (zk kvs xs) (kk kq), .t (s2.trans s3 _ _ ht) hc, ?_⟩
    cases h : dget kvs kq with
    | none =>
      rw [h] at q
      rw [g1 h]
      exact q _ H3 ((s1.trans s2).trans s3) (r3.im (hi _))
    | some v =>
      obtain ⟨x, h1, h2⟩ := g2 v h
      rw [h] at q
      rw [h1]
      exact q _ H3 ((s1.trans s2).trans s3) (h2.im (hi _)))⟩
/-- {} -/
theorem jf_dnew : JF X B H0 sl (.Dict [] [] pos) (dQ f []) := ⟨fun gh as σ H Q S q =>
  PEt pe_dnewT fun w hw => q w _ (Same.new hw) hw ⟨[], upd_same, rfl, rfl⟩⟩
/-- d[k] = v, an own dict -/
theorem js_putQ (i : Nat) {ix : Expr} {sp : Pos} (hr : Room k X.A) (hN : X.N[i]? = some x) (hv : Vis X.env.scope x) (ho : sl[i]? = some (.ow (dQ f kvs))) (he : JE X B H0 true sl e (f v)) (hi : JE X B H0 false sl ix (fr kq)) (hl : kvs.length < sizeLine) (h : P.nx (sl.set i (.ow (dQ f (dput kvs kq v)))))
    (hs : swapsWith e (some (.Subscript (.Name x p) ix sp)) pos.line X.env = pure false := by rfl) (hd : (x == ("__debug__" : Str)) = false := by decide) (hcd : (x == ("__classdict__" : Str)) = false := by decide) : JS X B H0 sl (.Assign [.Subscript (.Name x p) ix sp] e pos) P := ⟨fun gh as σ H S => by
  obtain ⟨q, e1, e2, e3, xs, e4, e6, e5⟩ := S.at ho
  refine PSt (ps_dput (by have := hr.un; omega) (pe_var hN hv hd hcd) pe_w pe_w hs) (he.run gh as σ H _ S fun w H1 s1 r1 => ⟨.ref q, e1, hi.run gh as σ H1 _ (S.same s1) fun z H2 s2 r2 => ?_⟩)
  obtain ⟨c, rfl, hc⟩ := key_at r2
  have s := s1.trans s2
  have hx := e5.len
  rw [List.length_map] at hx
  obtain ⟨ys, g1, g2⟩ := zk_put (k := kq) (r1.stp (.of s2)) (e5.stp (.of s))
  have g1' : putK ((dkeys (kvs.map fun p => [p.1.1, p.1.2])).zip xs) (kk kq) w = (dkeys ((dput kvs kq v).map fun p => [p.1.1, p.1.2])).zip ys := g1
  refine ⟨q, _, rfl, .t (s _ _ e4) hc (by rw [zk_len hx]; exact hl), as, _, h, ?_⟩
  rw [g1']
  have st : Stp (AOf B as) H2 (upd H2 q (.dT ((dkeys ((dput kvs kq v).map fun p => [p.1.1, p.1.2])).zip ys))) := (S.same s).stpU e2 (s _ _ e4) (fun z => z)
  exact (S.same s).mut ho e1 ⟨ys, upd_same, by rw [List.length_map, List.length_map], g2.stp st⟩⟩
end
section
variable {X : Cx} {B : Addr → Prop} {H0 : Hp} {m : Bool} {sl : List Sl} {e a b ex : Expr} {pos p p2 spos : Pos} {k : Nat} {kvs : List (Q × Int)} {kq : Q} {n j : Int} {x : Str} {P : Po}
/-- d[k] += n, an own dict of whole numbers -/
theorem js_augQ (i : Nat) {ix : Expr} {sp : Pos} (hr : Room k X.A) (hN : X.N[i]? = some x) (hv : Vis X.env.scope x) (ho : sl[i]? = some (.ow (dQ D.int kvs))) (he : JE X B H0 false sl e (.int j)) (hi : JE X B H0 false sl ix (fr kq)) (hg : dget kvs kq = some n) (hl : kvs.length < sizeLine) (h : P.nx (sl.set i (.ow (dQ D.int (dput kvs kq (n + j))))))
    (ha : ∀ ov iv new, augStore ix ov iv new = (do holding [new, ov, iv] (setItem ov iv new); release [new, ov, iv] []; pure .next) := by intro _ _ _; rfl) (hd : (x == ("__debug__" : Str)) = false := by decide) (hcd : (x == ("__classdict__" : Str)) = false := by decide) : JS X B H0 sl (.AugAssign (.Subscript (.Name x p) ix sp) .Add e pos) P := ⟨fun gh as σ H S => by
  obtain ⟨q, e1, e2, e3, xs, e4, e6, e5⟩ := S.at ho
  refine PSt (ps_daug (by have := hr.un; omega) (pe_var hN hv hd hcd) pe_w pe_w in_add ha) ⟨.ref q, e1, hi.run gh as σ H _ S fun z H1 s1 r1 => ?_⟩
  obtain ⟨c, rfl, hc⟩ := key_at r1
  obtain ⟨w, h1, h2⟩ := (zk_get (k := kq) (e5.stp (.of s1))).2 n hg
  cases (show w = .int n from h2)
  refine ⟨q, .int n, rfl, by rw [← h1]; exact .t (s1 _ _ e4) hc, he.run gh as σ H1 _ (S.same s1) fun y H2 s2 r2 => ?_⟩
  cases (show y = .int j from r2)
  have s := s1.trans s2
  have hx := e5.len
  rw [List.length_map] at hx
  obtain ⟨ys, g1, g2⟩ := zk_put (f := D.int) (v := n + j) (k := kq) (y := .int (n + j)) (K := X.K) (A := AOf B as) (H := H2) rfl (e5.stp (.of s))
  have g1' : putK ((dkeys (kvs.map fun p => [p.1.1, p.1.2])).zip xs) (kk kq) (.int (n + j)) = (dkeys ((dput kvs kq (n + j)).map fun p => [p.1.1, p.1.2])).zip ys := g1
  refine ⟨n, j, rfl, rfl, _, .t (s _ _ e4) (s2 _ _ hc) (by rw [zk_len hx]; exact hl), as, _, h, ?_⟩
  rw [g1']
  have st : Stp (AOf B as) H2 (upd H2 q (.dT ((dkeys ((dput kvs kq (n + j)).map fun p => [p.1.1, p.1.2])).zip ys))) := (S.same s).stpU e2 (s _ _ e4) (fun z => z)
  exact (S.same s).mut ho e1 ⟨ys, upd_same, by rw [List.length_map, List.length_map], g2.stp st⟩⟩
end
end PD
namespace PD
open PySem PySem.Spec PyProof.Rows L2
variable [TN]
/-! ### {k: v}, k a pair of whole numbers -/
def tDisp1 (tk tv : TE) : TE := fun σ H R => ∀ p, H p = none → tk σ (upd H p (.dT [])) fun x H1 => tv σ H1 fun y H2 => H2 p = some (.dT []) ∧ ∃ (ks : List L2.Key) (b : Addr), x = .ref b ∧ H2 b = some (.tup (ks.map kV)) ∧ R (.ref p) (upd H2 p (.dT [(ks, y)]))
theorem pe_disp1 {X : Cx} {pos : Pos} {ke ve : Expr} {tk tv : TE} (hu : X.A.units + 1 < cLine) (hk : PE X ke tk) (hv : PE X ve tv) : PE X (.Dict [some ke] [ve] pos) (tDisp1 tk tv) := by
  refine ⟨fun pins s σ H R I q => ?_⟩
  have hn := I.hok.fresh (Nat.le_refl s.heap.objs.size)
  have I1 := I.laid (a := s.heap.objs.size) (o := .dT []) (h' := s.heap.push { cls := .type "dict", data := .dict #[] }) (t' := s.toks) (fun _ _ q => Heap.get?_push_of_some _ q) (Nat.le_refl _) (dt_empty s.heap I.big)
  have hp := pps_cons (pos := pos) hk hv pps_nil
  rw [arm_eval_Dict, zip_pairTrees [some ke] [ve] X.env pos rfl rfl, dictDisplay_pairs (pairTrees [some ke] [ve] X.env pos) (by intro z; cases z) (show (1 : Nat) < 17 by decide)]
  have q1 := hp.run pins _ σ _ (fun ps H2 => match ps with
    | [(x, y)] => H2 s.heap.objs.size = some (.dT []) ∧ ∃ (ks : List L2.Key) (b : Addr), x = .ref b ∧ H2 b = some (.tup (ks.map kV)) ∧ R (.ref s.heap.objs.size) (upd H2 s.heap.objs.size (.dT [(ks, y)]))
    | _ => False) I1 (q _ hn)
  refine wpAny_bind (wpAny_standAt (wpAny_bind (wpAny_subDictH (knd := tupleKind (mixKind X.prog X.w)) (show X.A.units < cLine by omega) (show (1 : Nat) ≤ 15 by decide) (thn q1 fun ws s2 ⟨ps, H2, I2, rel, q2⟩ => ?_))))
  cases rel with
  | nil => exact q2.elim
  | @cons u z us zs r1 r2 =>
    cases r2 with
    | cons => exact q2.elim
    | nil =>
      obtain ⟨x, y⟩ := u
      obtain ⟨xv, yv⟩ := z
      obtain ⟨e, ks, b, rfl, hb, fin⟩ := q2
      obtain ⟨z, hd, xs, rel, dd⟩ := dt_of I2.hok e
      cases rel
      cases (show xv = .ref b from r1.1)
      refine ⟨[(ks, b, yv)], ⟨rfl, rfl, key_of I2.hok hb, trivial⟩, dd, fun h' tk dd' sb => wpAny_pure ⟨.ref s.heap.objs.size, _, ?_, rfl, fin⟩⟩
      obtain ⟨o, es, ep, hq, h2, h3, h4, _, h5⟩ := dd'
      refine d_write I2 (by rw [e]; exact True.intro) sb ⟨o, hq⟩ ⟨(show (1 : Nat) ≤ sizeLine by decide), hd, _, .cons ⟨rfl, ?_, r1.2⟩ .nil, o, es, ep, hq, h2, h3, h4, h5⟩
      rw [upd_ne (ne_of hb e (fun z => nomatch z))]
      exact hb
section
variable {α : Type} {f : α → D} {X : Cx} {B : Addr → Prop} {H0 : Hp} {sl : List Sl} {a e : Expr} {pos : Pos} {k : Nat} {kq : Q} {v : α}
theorem jf_dict1 (hr : Room k X.A) (ha : JE X B H0 true sl a (fr kq)) (he : JE X B H0 true sl e (f v)) (hi : imm (f v) = true) : JF X B H0 sl (.Dict [some a] [e] pos) (dQ f [(kq, v)]) := ⟨fun gh as σ H Q S q =>
  PEt (pe_disp1 (by have := hr.un; omega) pe_w pe_w) fun p hp => by
    have s0 : Same H (upd H p (.dT [])) := Same.new hp
    refine ha.run gh as σ _ _ (S.same s0) fun x H1 s1 r1 => he.run gh as σ H1 _ (S.same (s0.trans s1)) fun y H2 s2 r2 => ?_
    obtain ⟨c, rfl, hc⟩ := key_at (r1.stp (.of s2))
    have hp2 : H2 p = some (.dT []) := (s1.trans s2) _ _ upd_same
    refine ⟨hp2, kk kq, c, rfl, hc, q p _ ?_ hp ⟨[y], upd_same, rfl, y, [], rfl, ?_, rfl⟩⟩
    · exact (s0.trans (s1.trans s2)).mut hp hp2 (by intro _ z; cases z) (by intro _ z; cases z)
    · refine Rp.im hi (Rp.stp (A := fun a => a = p) (H := H2) ⟨fun b o hb c _ => ?_⟩ (r2.im hi))
      have nb : b ≠ p := fun z => by
        subst z
        rw [hp2] at hb
        cases hb
        rcases c with c | c
        · exact c rfl
        · exact c
      rw [upd_ne nb]
      exact hb⟩
end
theorem immL_map {α : Type} {f : α → D} (h : ∀ x, imm (f x) = true) : ∀ xs : List α, immL (xs.map f) = true
  | [] => rfl
  | x :: xs => by
    show (imm (f x) && immL (xs.map f)) = true
    rw [h x, immL_map h xs]
    rfl
theorem imm_tup {α : Type} {f : α → D} (h : ∀ x, imm (f x) = true) (xs : List α) : imm (.tup (xs.map f)) = true := immL_map h xs
theorem imm_pair {d e : D} (h : imm d = true) (g : imm e = true) : imm (.tup [d, e]) = true := by
  show (imm d && (imm e && true)) = true
  rw [h, g]
  rfl
section
variable {α : Type} {f : α → D} {X : Cx} {B : Addr → Prop} {H0 : Hp} {m : Bool} {sl : List Sl} {es : List Expr} {pos : Pos}
theorem je_tupM {x1 : Nat} {xs : List α} (h : JA X B H0 m sl es (xs.map f)) (hl : xs.length ≤ sizeLine := by exact Nat.le_of_ble_eq_true rfl) : JE X B H0 m sl (.Tuple es x1 pos) (.tup (xs.map f)) := je_tup h (by rw [List.length_map]; exact hl)
end
section
variable {α : Type} {g : α → D} {X : Cx} {B : Addr → Prop} {H0 : Hp} {sl : List Sl} {c e : Expr} {P : Po} {x : Str} {px p2 pos : Pos} {rest : List Stmt}
theorem jss_ifsetG (i : Nat) {v : Bool} {n1 n2 : α} (hN : X.N.Nodup) (hi : X.N[i]? = some x) (hx : Loc X.env.scope x) (hc : JT X B H0 sl c v) (he : v = true → JE X B H0 true sl e (g n1)) (ho : sl[i]? = some (.va (g n2))) (k : JSs X B H0 (sl.set i (.va (g (if v then n1 else n2)))) rest P)
    (hs : swapsWith e (some (.Name x px)) p2.line X.env = pure false := by rfl) (hf : X.fn x = true ∨ X.env.scope.names.lookup x = some .local := by first | exact .inl rfl | exact .inr rfl) : JSs X B H0 sl (.If c [.Assign [.Name x px] e p2] [] pos :: rest) P :=
  jss_ifset i hN hi hx hc he ho (by
    have : (if v then g n1 else g n2) = g (if v then n1 else n2) := by cases v <;> rfl
    rw [this]; exact k) hs hf
end
section
variable {α : Type} {f : α → D} {X : Cx} {B : Addr → Prop} {H0 : Hp} {m : Bool} {sl : List Sl} {a : Expr} {p pos : Pos} {da : D}
theorem je_lenM {xs : List α} (hg : Gl X "len") (hm : X.mg "len" = none) (ha : JA X B H0 false sl [a] [da]) (hr : RdL da (xs.map f)) (he : starEach [a] X.env = (false, eval a X.env) :: starEach [] X.env := by rfl) (hpl : (backTo pos (starEach [] X.env)).any (·.1) = false := by rfl) : JE X B H0 m sl (.Call (.Name "len" p) [a] [] pos) (.int xs.length) := by
  have := je_lenL (m := m) (p := p) hg hm ha hr he hpl
  rw [List.length_map] at this
  exact this
theorem je_lenTM {xs : List α} (hg : Gl X "len") (hm : X.mg "len" = none) (ha : JA X B H0 false sl [a] [.tup (xs.map f)]) (he : starEach [a] X.env = (false, eval a X.env) :: starEach [] X.env := by rfl) (hpl : (backTo pos (starEach [] X.env)).any (·.1) = false := by rfl) : JE X B H0 m sl (.Call (.Name "len" p) [a] [] pos) (.int xs.length) := by
  have := je_lenT (m := m) (p := p) hg hm ha he hpl
  rw [List.length_map] at this
  exact this
end
section
variable {X : Cx} {B : Addr → Prop} {H0 : Hp} {m : Bool} {sl : List Sl} {a b : Expr} {pos : Pos}
theorem jt_ninUI {n : Int} {ns : List Int} (hm : behindInMarks .NotIn b = false) (ha : JE X B H0 false sl a (.int n)) (hb : JE X B H0 false sl b (.tup (ns.map .int))) : JT X B H0 sl (.Compare a [.NotIn] [b] pos) (!decide (n ∈ ns)) := ⟨fun gh as σ H Q S q =>
  PTt (pt_cmpR op_notIn_seq pe_w pe_w hm) (ha.run gh as σ H _ S fun x H1 s1 r1 => hb.run gh as σ H1 _ (S.same s1) fun y H2 s2 r2 => by
    cases (show x = .int n from r1)
    obtain ⟨t, xs, rfl, ht, hx⟩ := r2
    rw [rpl_ints] at hx
    subst hx
    refine ⟨t, _, rfl, .inr (.inl (.inl ht)), rfl, flat_ints ns, _, rfl, ?_⟩
    show Q (!inV (.int n) (ns.map V.int)) H2
    rw [inV_ints]
    exact q H2 (s1.trans s2))⟩
theorem je_ninUI {n : Int} {ns : List Int} (hm : behindInMarks .NotIn b = false) (ha : JE X B H0 false sl a (.int n)) (hb : JE X B H0 false sl b (.tup (ns.map .int))) : JE X B H0 m sl (.Compare a [.NotIn] [b] pos) (.bl (!decide (n ∈ ns))) := ⟨fun gh as σ H Q S q =>
  PEt (pe_cmpR op_notIn_seq pe_w pe_w hm) (ha.run gh as σ H _ S fun x H1 s1 r1 => hb.run gh as σ H1 _ (S.same s1) fun y H2 s2 r2 => by
    cases (show x = .int n from r1)
    obtain ⟨t, xs, rfl, ht, hx⟩ := r2
    rw [rpl_ints] at hx
    subst hx
    refine ⟨t, _, rfl, .inr (.inl (.inl ht)), rfl, flat_ints ns, ?_⟩
    show Q (.bl (!inV (.int n) (ns.map V.int))) H2
    rw [inV_ints]
    exact q _ H2 (s1.trans s2) rfl)⟩
end
theorem map_same {α : Type} (l : List α) : (l.map fun x => x) = l := List.map_id' l
/-- whether a thing is in a list -/
def isIn {α : Type} [DecidableEq α] (x : α) (xs : List α) : Bool := decide (x ∈ xs)
theorem isIn_iff {α : Type} [DecidableEq α] {x : α} {xs : List α} : isIn x xs = true ↔ x ∈ xs := by
  unfold isIn
  rw [decide_eq_true_eq]
theorem isIn_no {α : Type} [DecidableEq α] {x : α} {xs : List α} : isIn x xs = false ↔ x ∉ xs := by
  unfold isIn
  rw [decide_eq_false_iff_not]
section
variable {α : Type} {f : α → D} {X : Cx} {B : Addr → Prop} {H0 : Hp} {m : Bool} {sl : List Sl} {a b : Expr} {da db : D} {pos : Pos} {k : Nat}
theorem je_inI [DecidableEq α] {u : α} {xs : List α} (h : Inj f) (hr : Room k X.A) (ha : JE X B H0 false sl a (f u)) (hb : JE X B H0 false sl b db) (rd : RdL db (xs.map f)) (h1 : ∀ u, pyOk 59 (f u) = true) (h0 : ∀ u, pyOk 60 (f u) = true) (hm : behindInMarks .In b = false := by rfl) : JE X B H0 m sl (.Compare a [.In] [b] pos) (.bl (isIn u xs)) := je_inM h hr ha hb rd h1 h0 hm
theorem je_ninI [DecidableEq α] {u : α} {xs : List α} (h : Inj f) (hr : Room k X.A) (ha : JE X B H0 false sl a (f u)) (hb : JE X B H0 false sl b db) (rd : RdL db (xs.map f)) (h1 : ∀ u, pyOk 59 (f u) = true) (h0 : ∀ u, pyOk 60 (f u) = true) (hm : behindInMarks .NotIn b = false := by rfl) : JE X B H0 m sl (.Compare a [.NotIn] [b] pos) (.bl (!isIn u xs)) := je_ninM h hr ha hb rd h1 h0 hm
theorem jt_inI [DecidableEq α] {u : α} {xs : List α} (h : Inj f) (hr : Room k X.A) (ha : JE X B H0 false sl a (f u)) (hb : JE X B H0 false sl b db) (rd : RdL db (xs.map f)) (h1 : ∀ u, pyOk 59 (f u) = true) (h0 : ∀ u, pyOk 60 (f u) = true) (hm : behindInMarks .In b = false := by rfl) : JT X B H0 sl (.Compare a [.In] [b] pos) (isIn u xs) := jt_inM h hr ha hb rd h1 h0 hm
theorem jt_ninI [DecidableEq α] {u : α} {xs : List α} (h : Inj f) (hr : Room k X.A) (ha : JE X B H0 false sl a (f u)) (hb : JE X B H0 false sl b db) (rd : RdL db (xs.map f)) (h1 : ∀ u, pyOk 59 (f u) = true) (h0 : ∀ u, pyOk 60 (f u) = true) (hm : behindInMarks .NotIn b = false := by rfl) : JT X B H0 sl (.Compare a [.NotIn] [b] pos) (!isIn u xs) := jt_ninM h hr ha hb rd h1 h0 hm
end
end PD
namespace PD
open PySem PySem.Spec PyProof.Rows L2
variable [TN]
/-! ### list(reversed(a list)) -/
abbrev eLst : Obj := { cls := .type "list", data := .seq #[] }
section
variable {prog : Program} {w : World} {A : Around} {E : Value → Shared → Prop} {s : Shared}
theorem list_init_rev {it l S : Addr} {items : Array Value} {R : Result → Shared → Prop} (hh : A.handled = none) (hit : s.heap.IsRevIter it l ((items.size : Int) - 1)) (hl : s.heap.IsList l items) (hne : l ≠ it) (hn : items.size ≤ sizeLine) (hSi : S ≠ it) (hSl : S ≠ l) (hS : s.heap.get? S = some eLst)
    (hR : ∀ s' acc c, Moved (S :: [it]) (fun a b => b = a) s s' → s'.heap.get? S = some { cls := .type "list", dict := none, data := .seq acc c, slots := #[] } → ItemsOf (fun i v => items[items.size - 1 - i]? = some v) acc items.size → R (.ok (.ret .none)) s') :
    wpAny (model prog w) A.in1 (Builtin.«list.__init__» ⟨[.ref S, .ref it], []⟩) (fun fin s' => match fin with | .done f => R (.ok f) s' | .again c' => c'.quiet = true ∧ codeAny (model prog w) A c' R s') (fun e s' => R (.error e) s') s := by
  have WR := (Walks.listRev (prog := prog) (w := w) (A := A.in1) hh it l hne items).toS
  have nf : S ∉ [it, l] := by
    simp only [List.mem_cons, List.not_mem_nil, or_false, not_or]
    exact ⟨hSi, hSl⟩
  show wpAny _ A.in1 (do
    let old ← Builtin.List.listItems (.ref S)
    Builtin.List.listUpdate (.ref S) (fun _ => #[])
    letGo old.toList.reverse
    Builtin.List.listExtendWith (.ref S) (.ref it) .none) _ _ s
  refine wpAny_bind ?_
  unfold Builtin.List.listItems
  refine wpAny_bind (wpAny_seqItems hS rfl (wpAny_pure ?_))
  show wpAny _ A.in1 (updateSeq S (fun _ => #[]) >>= fun _ => letGo (#[] : Array Value).toList.reverse >>= fun _ =>
    Builtin.List.listExtendWith (.ref S) (.ref it) .none) _ _ s
  refine wpAny_bind (wpAny_updateSeq hS rfl ?_)
  have hS2 := Heap.get?_update_self (Obj.mapSeq (fun _ => (#[] : Array Value))) hS rfl
  have ot : ∀ b o, b ≠ S → s.heap.get? b = some o → (s.heap.update S (Obj.mapSeq (fun _ => (#[] : Array Value)))).get? b = some o := fun b o hb e => (Heap.get?_update_other _ _ (Ne.symm hb)).trans e
  generalize s.heap.update S (Obj.mapSeq (fun _ => (#[] : Array Value))) = g at *
  refine wpAny_bind (wpAny_letGo ?_)
  have hit1 : g.IsRevIter it l ((items.size : Int) - 1) := hit.at fun o e => ot _ o (Ne.symm hSi) e
  have hl1 : g.IsList l items := hl.at fun o e => ot _ o (Ne.symm hSl) e
  have hT : ({ s with heap := g } : Shared).TypeIs (.ref it) "list_reverseiterator" := Heap.IsRevIter.typeIs (s := { s with heap := g }) hit1
  have sr : Builtin.List.listSameRef (.ref S) (.ref it) = false := by simp [Builtin.List.listSameRef, hSi]
  unfold Builtin.List.listExtendWith
  refine wpAny_bind (wpAny_typeOf hT ?_)
  rw [if_neg (by rw [sr]; decide)]
  refine wpAny_bind (wpAny_pyIter_revIter (s := { s with heap := g }) hit1 (wpAny_bind (wpAny_holding ?_)))
  unfold Builtin.List.listLengthHint
  refine wpAny_bind (wpAny_specialOf hT RT.nolen_lri ?_)
  show wpAny _ A.in1 (specialOf (Value.ref it) (Str.ofString "__length_hint__") >>= _) _ _ _
  refine wpAny_bind (wpAny_specialOf hT RT.hint_lri ?_)
  generalize hid : ("list_reverseiterator.__length_hint__" : String) = iz
  wp_delta
  rw [show splitId iz = some ("list_reverseiterator", "__length_hint__") from by subst hid; decide +kernel]
  subst hid
  refine wpAny_bind (wpAny_isInstance (b := true) hT (by rw [isSubtype_type]; kernel_rfl) (wpAny_pure ?_))
  rw [if_neg (by decide)]
  have z0 : ((items.size : Nat) : Int) - 1 - ((0 : Nat) : Int) = (items.size : Int) - 1 := by omega
  refine wpAny_pure ⟨plainId_quiet F.plain_extend_loop _, codeAny_extend_loopS WR hn _ nf _ items.size 0 _ _ _ rfl (Nat.zero_le _) ⟨Nat.zero_le _, by rw [z0]; exact hit1, hl1⟩ hS2 (ItemsOf.nil _) fun s' acc' c' mv hS' hacc => ?_⟩
  have m0 : Moved [S, it] (fun a b => b = a) s { s with heap := g } := ⟨fun b o hb e => ot b o (fun z => hb (by rw [z]; exact List.mem_cons_self)) e, rfl, rfl, rfl, Nat.le_refl _⟩
  exact hR s' acc' c' (Moved.trans WR.gtrans m0 mv) hS' hacc
theorem call_list_rev {it l : Addr} {items : Array Value} {Q : Value → Shared → Prop} (hh : A.handled = none) (hit : s.heap.IsRevIter it l ((items.size : Int) - 1)) (hl : s.heap.IsList l items) (hne : l ≠ it) (hn : items.size ≤ sizeLine)
    (hQ : ∀ (h' : Heap) (tk : Nat) (acc : Array Value) (c : Nat), (∀ b o, b ≠ it → s.heap.get? b = some o → h'.get? b = some o) → h'.get? s.heap.objs.size = some { cls := .type "list", dict := none, data := .seq acc c, slots := #[] } → ItemsOf (fun i v => items[items.size - 1 - i]? = some v) acc items.size → Q (.ref s.heap.objs.size) { s with heap := h', toks := tk }) :
    wpAny (model prog w) A (call (.type "list") [.ref it]) Q E s := by
  obtain ⟨oi, hoi, _⟩ := id hit
  obtain ⟨ol, hol, _⟩ := id hl
  have lti := Heap.lt_size hoi
  have ltl := Heap.lt_size hol
  refine callType_codes (Q₁ := fun obj s₁ => obj = .ref s.heap.objs.size ∧ s₁ = { s with heap := s.heap.push eLst }) F.called_list (F.typeCall_list_1 _) F.entry_list_init (code_list_new _ ⟨rfl, rfl⟩) fun obj s₁ h₁ => ?_
  obtain ⟨rfl, rfl⟩ := h₁
  have hS : (s.heap.push eLst).get? s.heap.objs.size = some eLst := Heap.get?_push_size _ rfl
  refine ⟨⟨_, hS, rfl⟩, F.args_list_init_2 _ _, list_init_rev (s := { s with heap := s.heap.push eLst }) (by simp [hh]) (hit.at fun o e => Heap.get?_push_of_some _ e) (hl.push _) hne hn (Nat.ne_of_gt lti) (Nat.ne_of_gt ltl) hS fun s' acc c mv hS' hacc => ?_⟩
  refine ⟨rfl, ?_⟩
  rw [Moved.eq_with mv]
  refine hQ s'.heap s'.toks acc c (fun b o hb e => mv.heap b o (fun hm => ?_) (Heap.get?_push_of_some _ e)) hS' hacc
  rcases List.mem_cons.mp hm with z | hm
  · exact absurd (Heap.lt_size e) (by rw [z]; exact Nat.lt_irrefl _)
  · exact hb (List.mem_singleton.mp hm)
end
section
variable {X : Cx}
def tListRev (K : PySem.W.Frag) (te : TE) : TE := fun σ H Q => te σ H fun v H1 => ∃ (a : Addr) (xs : List V), v = .ref a ∧ SqL K H1 a xs ∧ ∀ q, H1 q = none → Q (.ref q) (upd H1 q (.lst xs.reverse))
theorem pe_listRev {e : Expr} {te : TE} {p p2 pos pos2 : Pos} (hc : X.calm = true) (hg : Gl X "list") (hm : X.mg "list" = none) (hg2 : Gl X "reversed") (hm2 : X.mg "reversed" = none) (he : PE X e te)
    (hs : starEach [e] X.env = (false, eval e X.env) :: starEach [] X.env := by rfl) (hs2 : starEach [.Call (.Name "reversed" p2) [e] [] pos2] X.env = (false, eval (.Call (.Name "reversed" p2) [e] [] pos2) X.env) :: starEach [] X.env := by rfl) : PE X (.Call (.Name "list" p) [.Call (.Name "reversed" p2) [e] [] pos2] [] pos) (tListRev X.K te) := by
  refine ⟨fun pins s σ H Q I h => Call_ (ld_blt I hg hm boot_list (PyProof.Rows.callWith_type1 (args_cons (Call_ (ld_blt I hg2 hm2 PyProof.Rows.boot_reversed (PyProof.Rows.callWith_type1 (args_cons (thn (he.run pins s σ H _ I h) fun u s1 ⟨v, H1, I1, r1, q1⟩ => args_nil ?_) hs) hs rfl))) hs2) hs2 rfl))⟩
  obtain ⟨a, xs, rfl, hq, q⟩ := q1
  cases (show u = Value.ref a from r1)
  obtain ⟨its, rv, pl, hz⟩ := I1.list hq
  have pl2 := pl.isList
  obtain ⟨ol, hol, _⟩ := id pl2
  refine call_reversed_list pl2 (args_nil ?_)
  generalize hO : revObj a ((its.toArray.size : Int) - 1) = O
  have I2 : Inv X pins σ H1 { s1 with heap := s1.heap.push O } := I1.kept (t' := s1.toks) fun b o e => Heap.get?_push_of_some _ e
  obtain ⟨f0, f1, f2, f3, f4, f5⟩ := I1.fpOk (H' := H1) (b := s1.heap.objs.size) (Nat.le_refl _) (I1.hok.fresh (Nat.le_refl _))
  have ne : a ≠ s1.heap.objs.size := Nat.ne_of_lt (Heap.lt_size hol)
  have hn : its.toArray.size ≤ sizeLine := by rw [List.size_toArray, ← rv.length]; exact hz
  have hO2 : (s1.heap.push O).get? s1.heap.objs.size = some O := Heap.get?_push_size _ (by rw [← hO]; rfl)
  refine call_list_rev (s := { s1 with heap := s1.heap.push O }) (I1.ok.hd hc) ⟨_, hO2, by rw [← hO]; rfl, by rw [← hO]; rfl⟩ (pl2.push _) ne hn fun h' tk acc c hk hS hi => ?_
  have new : ObjOk X.prog X.w (upd H1 (s1.heap.push O).objs.size (.lst xs.reverse)) h' (s1.heap.push O).objs.size (.lst xs.reverse) := ⟨by rw [List.length_reverse]; exact hz, acc.toList, c, RT.vals_rev rv hi, by rw [Array.toArray_toList]; exact hS⟩
  have hfree := I2.hok.fresh (Nat.le_refl (s1.heap.push O).objs.size)
  have I3 : Inv X pins σ (upd H1 (s1.heap.push O).objs.size (.lst xs.reverse)) { s1 with heap := h', toks := tk } := I2.turnedNew (ch := [s1.heap.objs.size]) (fun b ob hb e => hk b ob (fun z => hb (by rw [z]; exact List.mem_singleton.mpr rfl)) e) (fun b hb => by cases List.mem_singleton.mp hb; exact ⟨f0, f1, f2, f3, f4, f5⟩) (Nat.le_refl _) new
  exact ⟨.ref _, _, I3, rfl, q _ hfree⟩
end
section
variable {X : Cx} {B : Addr → Prop} {H0 : Hp} {sl : List Sl} {a : Expr} {da : D} {pos p p2 pos2 : Pos} {α : Type} {f : α → D}
theorem jf_listRev {xs : List α} (hc : X.calm = true) (hg : Gl X "list") (hm : X.mg "list" = none) (hg2 : Gl X "reversed") (hm2 : X.mg "reversed" = none) (ha : JE X B H0 true sl a da) (hr : RdL da (xs.map f))
    (hs : starEach [a] X.env = (false, eval a X.env) :: starEach [] X.env := by rfl) (hs2 : starEach [.Call (.Name "reversed" p2) [a] [] pos2] X.env = (false, eval (.Call (.Name "reversed" p2) [a] [] pos2) X.env) :: starEach [] X.env := by rfl) : JF X B H0 sl (.Call (.Name "list" p) [.Call (.Name "reversed" p2) [a] [] pos2] [] pos) (.lst (xs.reverse.map f)) := ⟨fun gh as σ H Q S q =>
  PEt (pe_listRev hc hg hm hg2 hm2 pe_w hs hs2) (ha.run gh as σ H _ S fun v H1 s1 r1 => by
    obtain ⟨t, ys, rfl, hsq, hl⟩ := hr.seq r1
    refine ⟨t, ys, rfl, hsq, fun w hw => q w _ (s1.trans (Same.new hw)) (s1.free hw) ⟨_, upd_same, ?_⟩⟩
    rw [List.map_reverse]
    exact (RpL.A1 hl.rev hw).stp (.of (Same.new hw)))⟩
end
/-- of a list, a dict: whether its items are neither -/
def immD : D → Bool
  | .lst l => immL l
  | .dct _ l => immL l
  | _ => false
theorem RpO.im {K : PySem.W.Frag} {A A' : Addr → Prop} {H : Hp} {a : Addr} {d : D} (i : immD d = true) (h : RpO K A H a d) : RpO K A' H a d := by
  cases d with
  | lst ds =>
    obtain ⟨xs, e, l⟩ := h
    exact ⟨xs, e, l.im i⟩
  | dct ks ds =>
    obtain ⟨xs, e, z, l⟩ := h
    exact ⟨xs, e, z, l.im i⟩
  | _ => exact h.elim
section
variable {X : Cx} {B : Addr → Prop} {H0 : Hp} {m : Bool} {sl : List Sl} {e : Expr} {es : List Expr} {ds : List D} {d : D} {pos p : Pos} {x : Str} {f : Addr} {fd : FuncData} {ps : List Str} {F : FS} {k : Nat} {CX : CXT} {E : XK}
theorem jf_callI (G : FnOk X.prog X.w X.K X.mg X.base CX k f fd ps (spF X.K F)) (hr : Room k X.A) (hg : Gl X x) (hm : X.mg x = some (.ref f)) (hk : PySem.W.keepIn X.K (.ref f) = true) (hb : Binds X.K fd ps []) (hx : Passes CX X E) (ha : JA X B H0 m sl (e :: es) ds) (h : F ds (.fr d)) (hi : immD d = true)
    (hdb : (x == ("__debug__" : Str)) = false := by decide) (he : starEach (e :: es) X.env = (false, eval e X.env) :: starEach es X.env := by rfl) (hpl : (backTo pos (starEach es X.env)).any (·.1) = false := by rfl) : JF X B H0 sl (.Call (.Name x p) (e :: es) [] pos) d := ⟨fun gh as σ H Q S q =>
  PEt (L2.pe_call G hr hg hm hk hb .nil hx pa_w hdb he hpl) (ha.run gh as σ H _ S fun vs H1 s1 r => by
    show spF X.K F (vs ++ []) H1 Q E
    rw [List.append_nil]
    refine ⟨Av B as m, ds, .fr d, fun a h => (S.same s1).dom a (Av.sub a h), r, h, fun d' e' => (by cases e'), fun d' e' p' H2 s2 hp r2 => ?_, fun c e' => (by cases e')⟩
    cases e'
    exact q p' H2 (s1.trans s2) (s1.free hp) (r2.im hi))⟩
end
theorem imm_dQ {α : Type} {f : α → D} (h : ∀ v, imm (f v) = true) (kvs : List (Q × α)) : immD (dQ f kvs) = true := immL_map (f := fun p : Q × α => f p.2) (fun p => h p.2) kvs
end PD
namespace PD
open PySem PySem.Spec PyProof.Rows L2
variable [TN]
/-! ### pairs and triples of plain data, by their parts -/
abbrev pr2 {α β : Type} (f : α → D) (g : β → D) (q : α × β) : D := .tup [f q.1, g q.2]
abbrev pr3 {α β γ : Type} (f : α → D) (g : β → D) (h : γ → D) (q : α × β × γ) : D := .tup [f q.1, g q.2.1, h q.2.2]
section
variable {X : Cx} {B : Addr → Prop} {H0 : Hp} {sl : List Sl} {es : List Expr} {pos : Pos} {m : Bool} {α β γ : Type} {f : α → D} {g : β → D} {h : γ → D}
theorem je_pr2 {x1 : Nat} {a : α} {b : β} (k : JA X B H0 m sl es [f a, g b]) : JE X B H0 m sl (.Tuple es x1 pos) (pr2 f g (a, b)) := je_tup k
theorem je_pr3 {x1 : Nat} {a : α} {b : β} {c : γ} (k : JA X B H0 m sl es [f a, g b, h c]) : JE X B H0 m sl (.Tuple es x1 pos) (pr3 f g h (a, b, c)) := je_tup k
theorem inj_pr3 (h1 : Inj f) (h2 : Inj g) (h3 : Inj h) : Inj (pr3 f g h) := fun x y => by
  rw [deq_tup, deqL_cons, deqL_cons, deqL_cons, deqL_nil, Bool.and_true, Bool.and_eq_true, Bool.and_eq_true, h1, h2, h3]
  exact ⟨fun z => Prod.ext z.1 (Prod.ext z.2.1 z.2.2), fun z => ⟨congrArg Prod.fst z, congrArg (fun q => q.2.1) z, congrArg (fun q => q.2.2) z⟩⟩
theorem pyOk_tri {d e c : D} {n : Nat} (h : pyOk n d = true) (g : pyOk n e = true) (k : pyOk n c = true) : pyOk (n + 1) (.tup [d, e, c]) = true := by
  show (decide (0 < n + 1) && (pyOk n d && (pyOk n e && (pyOk n c && true)))) = true
  rw [h, g, k, decide_eq_true (Nat.succ_pos n)] <;> rfl
theorem imm_tri {d e c : D} (h : imm d = true) (g : imm e = true) (k : imm c = true) : imm (.tup [d, e, c]) = true := by
  show (imm d && (imm e && (imm c && true))) = true
  rw [h, g, k]
  rfl
theorem jt_isN {a : Expr} {d : D} {v : Bool} (h : JE X B H0 false sl a d) (hv : (match d with | .non => true | _ => false) = v) {j : Nat} {pos' : Pos} : JT X B H0 sl (.Compare a [.Is] [.Constant .none j pos'] pos) v := ⟨fun gh as σ H Q S q =>
  PTt (pt_cmpR op_isN pe_w pe_non (nomark _)) (h.run gh as σ H _ S fun x H1 s1 r1 => ⟨rfl, by
    have e : decide (x = V.non) = v := by
      subst hv
      cases d with
      | non => cases (show x = .non from r1); rfl
      | bl _ => cases (show x = .bl _ from r1); rfl
      | int _ => cases (show x = .int _ from r1); rfl
      | str _ => cases (show x = .str _ from r1); rfl
      | rf _ => cases (show x = .ref _ from r1); rfl
      | tup _ => obtain ⟨_, _, rfl, _⟩ := r1; rfl
      | lst _ => obtain ⟨_, _, rfl, _⟩ := r1; rfl
      | fro _ => obtain ⟨_, _, rfl, _⟩ := r1; rfl
      | dct _ _ => obtain ⟨_, _, rfl, _⟩ := r1; rfl
      | frd _ _ => obtain ⟨_, _, rfl, _⟩ := r1; rfl
    rw [e]
    exact ⟨_, rfl, q H1 s1⟩⟩)⟩
theorem jt_notN {a : Expr} {d : D} {v : Bool} (h : JE X B H0 false sl a d) (hv : (match d with | .non => false | _ => true) = v) {j : Nat} {pos' : Pos} : JT X B H0 sl (.Compare a [.IsNot] [.Constant .none j pos'] pos) v := ⟨fun gh as σ H Q S q =>
  PTt (pt_cmpR op_notN pe_w pe_non (nomark _)) (h.run gh as σ H _ S fun x H1 s1 r1 => ⟨rfl, by
    have e : (!decide (x = V.non)) = v := by
      subst hv
      cases d with
      | non => cases (show x = .non from r1); rfl
      | bl _ => cases (show x = .bl _ from r1); rfl
      | int _ => cases (show x = .int _ from r1); rfl
      | str _ => cases (show x = .str _ from r1); rfl
      | rf _ => cases (show x = .ref _ from r1); rfl
      | tup _ => obtain ⟨_, _, rfl, _⟩ := r1; rfl
      | lst _ => obtain ⟨_, _, rfl, _⟩ := r1; rfl
      | fro _ => obtain ⟨_, _, rfl, _⟩ := r1; rfl
      | dct _ _ => obtain ⟨_, _, rfl, _⟩ := r1; rfl
      | frd _ _ => obtain ⟨_, _, rfl, _⟩ := r1; rfl
    rw [e]
    exact ⟨_, rfl, q H1 s1⟩⟩)⟩
theorem ji_pr {q : Q} {e tg : Expr} (he : JE X B H0 true sl e (fr q)) : JI X B H0 sl tg e ([q.1, q.2].map D.int) := ji_tup he
theorem je_no {e : Expr} {P : Prop} (h : P) (n : ¬ P) : JE X B H0 m sl e (.bl false) := absurd h n
theorem jt_no {e : Expr} {P : Prop} (h : P) (n : ¬ P) : JT X B H0 sl e false := absurd h n
end
end PD
namespace PD
open PySem PySem.Spec PyProof.Rows L2
variable [TN]
/-! ### defs that raise -/
/-- from any state with these slots X lets an exception of the class at c out -/
def Lets (X : Cx) (B : Addr → Prop) (H0 : Hp) (sl : List Sl) (c : Addr) : Prop := ∃ W : WX, L2N.Takes X W ∧ ∀ gh as σ H, SOK X.K B H0 gh as sl σ H → W (.ref c) none σ H
/-- an own class of errors, under ValueError, with no makers of its own -/
structure ClsX (K : PySem.W.Frag) (mg : Str → Option Value) (x : Str) (C : Addr) : Prop where
  g : mg x = some (.ref C)
  q : PySem.W.excIn K C [.type "ValueError", .type "Exception", .type "BaseException", .type "object"] "ValueError.__new__" = true
  k : PySem.W.keepIn K (.ref C) = true
  s : PySem.W.subIn K (.ref C) (.type "BaseException") = some true
  t : PySem.W.typeIn K (.ref C) = some (.type "type")
theorem passN {X : Cx} : Passes (L2N.CX X.prog X.w) X E0 := fun _ _ _ _ _ _ _ h => by
  obtain ⟨_, _, _, _, _, _, _, _, _, _, _, _, z⟩ := h
  exact z.elim
theorem takesN0 {X : Cx} : L2N.Takes X (fun _ _ _ _ => False) := fun _ _ x => by
  obtain ⟨_, _, _, _, _, _, _, _, _, _, _, _, _, _, _, _, z⟩ := x
  exact z.elim
theorem tSs_mono {X : Cx} {st : List Stmt} {D D' : Ends} {σ : L2.St} {H : Hp} (h : tSs X st D σ H) (hn : ∀ σ H, D.nx σ H → D'.nx σ H) (hr : ∀ v H, D.rt v H → D'.rt v H) (hb : ∀ σ H, D.bk σ H → D'.bk σ H) (hc : ∀ σ H, D.ct σ H → D'.ct σ H) : tSs X st D' σ H :=
  fun pins s I => thn (h pins s I) fun f s' q => SPm q hn hr hb hc
/-- what never is reached -/
def Po0 : Po := { nx := fun _ => False, rt := fun _ => False }
section
variable {X : Cx} {B : Addr → Prop} {H0 : Hp} {m : Bool} {sl : List Sl} {e a : Expr} {es : List Expr} {d : D} {ds : List D} {pos p p2 pos2 px : Pos} {P : Po} {st : Stmt} {rest body : List Stmt} {x y n : Str} {C c c0 : Addr}
theorem js_raise {j : Nat} {msg : Str} (hc : X.calm = true) (T : ClsX X.K X.mg x C) (hg : Gl X x) (L : Lets X B H0 sl C) (hdb : (x == ("__debug__" : Str)) = false := by decide) : JS X B H0 sl (.Raise (some (.Call (.Name x p) [.Constant (.str msg) j p2] [] pos)) none pos2) P := ⟨fun gh as σ H S => by
  obtain ⟨W, tk, hW⟩ := L
  exact PSt (L2N.ps_raise hc tk (L2N.pmk_own PySem.F.excBase_ValueError T.q T.g T.k (raises_own T.s T.t) hg hdb)) (hW gh as σ H S)⟩
/-- e raises -/
structure JX (X : Cx) (B : Addr → Prop) (H0 : Hp) (sl : List Sl) (e : Expr) : Prop where
  run : ∀ gh as σ H Q, SOK X.K B H0 gh as sl σ H → tE X e σ H Q
theorem JX.je (h : JX X B H0 sl e) : JE X B H0 m sl e d := ⟨fun gh as σ H Q S _ => h.run gh as σ H Q S⟩
theorem js_retX (h : JX X B H0 sl e) : JS X B H0 sl (.Return (some e) pos) P := ⟨fun gh as σ H S => PSt (ps_ret pe_w) (h.run gh as σ H _ S)⟩
theorem js_setX (i : Nat) (hN : X.N.Nodup) (hi : X.N[i]? = some x) (hx : Loc X.env.scope x) (h : JX X B H0 sl e) (hs : swapsWith e (some (.Name x px)) pos.line X.env = pure false := by rfl)
    (hf : X.fn x = true ∨ X.env.scope.names.lookup x = some .local := by first | exact .inl rfl | exact .inr rfl) : JS X B H0 sl (.Assign [.Name x px] e pos) P := ⟨fun gh as σ H S => PSt (ps_set hN hi hx pe_w hs hf) (h.run gh as σ H _ S)⟩
theorem js_dropX (h : JX X B H0 sl e) (hs : swapsWith e none pos.line X.env = pure false := by rfl) : JS X B H0 sl (.Expr e pos) P := ⟨fun gh as σ H S => PSt (ps_expr pe_w hs) (h.run gh as σ H _ S)⟩
theorem jss_x (h : JS X B H0 sl st Po0) : JSs X B H0 sl (st :: rest) P := jss_cons (fun _ => False) ⟨fun gh as σ H S pins s I => thn (h.run gh as σ H S pins s I) fun f s' q => SPm q (fun _ _ ⟨_, _, z, _⟩ => z.elim) (fun _ _ z => by
    rcases z with ⟨_, z, _⟩ | ⟨_, _, z, _⟩ <;> exact z.elim) (fun _ _ ⟨_, _, z, _⟩ => z.elim) (fun _ _ ⟨_, _, z, _⟩ => z.elim)⟩ fun _ z => z.elim
section
variable {k : Nat} {f : Addr} {fd : FuncData} {ps : List Str} {F : FS}
theorem jx_call (G : FnOk X.prog X.w X.K X.mg X.base (L2N.CX X.prog X.w) k f fd ps (spF X.K F)) (hr : Room k X.A) (hg : Gl X x) (hm : X.mg x = some (.ref f)) (hk : PySem.W.keepIn X.K (.ref f) = true) (hb : Binds X.K fd ps []) (L : Lets X B H0 sl c) (ha : JA X B H0 m sl (e :: es) ds) (h : F ds (.er c))
    (hdb : (x == ("__debug__" : Str)) = false := by decide) (he : starEach (e :: es) X.env = (false, eval e X.env) :: starEach es X.env := by rfl) (hpl : (backTo pos (starEach es X.env)).any (·.1) = false := by rfl) : JX X B H0 sl (.Call (.Name x p) (e :: es) [] pos) := ⟨fun gh as σ H Q S => by
  obtain ⟨W, tk, hW⟩ := L
  exact PEt (pe_callS (E := WE W) G hr hg hm hk hb (fun σ => L2N.passAt tk σ) pa_w hdb he hpl) (ha.run gh as σ H _ S fun vs H1 s1 r => by
    show spF X.K F vs H1 Q (WE W σ)
    refine ⟨Av B as m, ds, .er c, fun a h => (S.same s1).dom a (Av.sub a h), r, h, fun d' e' => (by cases e'), fun d' e' => (by cases e'), fun c' e' H2 s2 => ?_⟩
    cases e'
    exact hW gh as σ H2 ((S.same s1).same s2))⟩
end
/-- a def that raises keeps its promise -/
theorem lets_fn {P : Program} {w : World} {K : PySem.W.Frag} {mg : Str → Option Value} {base : Heap} {N : List Str} {qual : Str} {sc : Scope} {f : Addr} {cdv : Value} {A : Around} {outer : List Env} {s : Shared} {H : Hp} {E : XK} (h : ∀ H', Same H H' → E (.ref c) none H') :
    Lets (cxOf (L2N.CX P w) P w K mg base N qual sc f cdv A outer s H E) B H sl c := ⟨fun cls d _ H' => E cls d H', L2N.takes_of rfl rfl rfl rfl, fun _ _ _ H' S => h H' S.ex⟩
/-! try -/
abbrev tryX (X : Cx) (pn : List (Addr × Obj)) (xe : Value → Shared → Prop) : Cx := X.tr pn xe
theorem js_try {b₀ : Stmt} {suite : List Stmt} {np pos' : Pos} (i : Nat) (hs : X.stack = X.env :: X.outer) (hf : X.env.frame = some X.env.locals) (hN : X.N.Nodup) (hi : X.N[i]? = some n) (hln : X.env.kindOf n = some .local) (hc : Names X x (.ref c0))
    (hb : ∀ pn xe, PassesOwn (model X.prog X.w) X.A X.env xe → JSs (tryX X pn xe) B H0 sl body P) : JS X B H0 sl (.Try body [.ExceptHandler (some (.Name x np)) (some n) (b₀ :: suite) pos'] [] [] pos) P := ⟨fun gh as σ H S =>
  PSt (L2N.ps_try_as hs hf hN hi hln hc takesN0 (tb := fun W D σ H => ∀ pn xe, L2N.Takes (X.tr pn xe) W → PassesOwn (model X.prog X.w) X.A X.env xe → tSs (X.tr pn xe) body D σ H) (ts := fun a cls d D σ H => ∀ oe pn, L2N.Zn cls d oe → (∃ vs, oe.data = .fields vs) → tSs (X.suite a ((a, oe) :: pn)) (b₀ :: suite) D σ H)
    (fun W pn xe tk hp => ⟨fun pins s σ H D I h => h pn xe tk hp pins s I⟩) (fun a oe cls d pn hz hd => ⟨fun pins s σ H D I h => h oe pn hz hd pins s I⟩)) fun pn xe _ hp => (hb pn xe hp).run gh as σ H S⟩
theorem js_tryX {b₀ : Stmt} {suite : List Stmt} {np pos' : Pos} (i : Nat) (c : Addr) (hs : X.stack = X.env :: X.outer) (hf : X.env.frame = some X.env.locals) (hN : X.N.Nodup) (hi : X.N[i]? = some n) (hln : X.env.kindOf n = some .local) (hc : Names X x (.ref c0)) (hm : PySem.W.exmOne X.K (.ref c) (.ref c0) = some true)
    (hb : ∀ pn xe, PassesOwn (model X.prog X.w) X.A X.env xe → Lets (tryX X pn xe) B H0 sl c → JSs (tryX X pn xe) B H0 sl body Po0)
    (hsu : ∀ a oe pn, L2N.Zn (.ref c) none oe → (∃ vs, oe.data = .fields vs) → JSs (X.suite a ((a, oe) :: pn)) B H0 (sl.set i (.va (.rf a))) (b₀ :: suite) { nx := fun _ => False, rt := P.rt, rf := P.rf }) :
    JS X B H0 sl (.Try body [.ExceptHandler (some (.Name x np)) (some n) (b₀ :: suite) pos'] [] [] pos) P := ⟨fun gh as σ H S =>
  PSt (L2N.ps_try_as hs hf hN hi hln hc takesN0 (tb := fun W D σ H => ∀ pn xe, L2N.Takes (X.tr pn xe) W → PassesOwn (model X.prog X.w) X.A X.env xe → tSs (X.tr pn xe) body D σ H) (ts := fun a cls d D σ H => ∀ oe pn, L2N.Zn cls d oe → (∃ vs, oe.data = .fields vs) → tSs (X.suite a ((a, oe) :: pn)) (b₀ :: suite) D σ H)
    (fun W pn xe tk hp => ⟨fun pins s σ H D I h => h pn xe tk hp pins s I⟩) (fun a oe cls d pn hz hd => ⟨fun pins s σ H D I h => h oe pn hz hd pins s I⟩)) fun pn xe tk hp => by
  refine tSs_mono ((hb pn xe hp ⟨_, tk, fun gh' as' σ' H' S' => ⟨true, hm, fun _ a na oe pn' hz hd => ?_, fun z => Bool.noConfusion z⟩⟩).run gh as σ H S) (fun _ _ ⟨_, _, z, _⟩ => z.elim) (fun _ _ z => by
    rcases z with ⟨_, z, _⟩ | ⟨_, _, z, _⟩ <;> exact z.elim) (fun _ _ ⟨_, _, z, _⟩ => z.elim) (fun _ _ ⟨_, _, z, _⟩ => z.elim)
  exact tSs_mono ((hsu a oe pn' hz hd).run gh' _ _ H' (S'.put (d := .rf a) (v := .ref a) rfl)) (fun _ _ ⟨_, _, z, _⟩ => z.elim) (fun _ _ z => z) (fun _ _ ⟨_, _, z, _⟩ => z.elim) (fun _ _ ⟨_, _, z, _⟩ => z.elim)⟩
/-! isinstance of the exception that a suite holds -/
structure HasE (X : Cx) (r C : Addr) : Prop where
  ex : ∃ oe, (r, oe) ∈ X.pn ∧ Zc (.ref C) none oe ∧ ∃ vs, oe.data = .fields vs
theorem hasE_suite {a : Addr} {oe : Obj} {pn : List (Addr × Obj)} (hz : L2N.Zn (.ref c) none oe) (hd : ∃ vs, oe.data = .fields vs) : HasE (X.suite a ((a, oe) :: pn)) a c := ⟨oe, List.mem_cons_self, hz.zc, hd⟩
theorem inst_of {r : Addr} {pins : List (Addr × Obj)} {σ : L2.St} {H : Hp} {s : Shared} (h : HasE X r C) (I : Inv X pins σ H s) : ∃ oe, PySem.W.InstAt s.heap r oe C none := by
  obtain ⟨oe, hm, hz, vs, hv⟩ := h.ex
  obtain ⟨hget, _⟩ := I.pin (r, oe) (List.mem_append_left _ hm)
  obtain ⟨oc, od, oda, osl⟩ := oe
  obtain ⟨h1, h2⟩ := hz
  dsimp only at h1 h2 hv
  subst h1 h2 hv
  exact ⟨_, hget, rfl, rfl, trivial⟩
theorem call_isE' {r : Addr} (E : ExcC X.K C) (h : HasE X r C) : CallR X (.builtin "isinstance") (rIsE X.K C r) := by
  intro pins s σ H xs us Q I rr q
  obtain ⟨c, cv, b, rfl, hcv, e, q⟩ := q
  obtain ⟨u1, u2, rfl, r1, r2⟩ := vals2 rr
  cases (show u1 = Value.ref r from r1)
  have ec := hcv _ r2
  subst ec
  obtain ⟨oe, J⟩ := inst_of h I
  exact PySem.W.kia_one (PySem.W.handS_kitx_exc E.hg E.hk E.hs E.hd E.ha E.hn E.ht E.hm) I.kIn J e (fun z => nomatch z) fun tk => ⟨.bl b, H, I.tok tk, rfl, q⟩
def rIsET (K : PySem.W.Frag) (D a : Addr) : List V → Hp → VK → Prop := fun xs H Q => ∃ (tp : Addr) (cs : List Addr) (b : Bool), xs = [.ref a, .ref tp] ∧ H tp = some (.tup (cs.map V.ref)) ∧ PySem.W.kitAny K (.ref D) (cs.map Value.ref) = some b ∧ Q (.bl b) H
theorem refs_eq : ∀ {cs : List Addr} {us : List Value}, Vals (cs.map V.ref) us → us = cs.map Value.ref
  | [], _, h => by cases h; rfl
  | c :: cs, _, h => by
    cases h with
    | cons h1 h2 =>
      rw [refs_eq h2, show _ = Value.ref c from h1]
      rfl
theorem call_isET {r : Addr} (E : ExcC X.K C) (h : HasE X r C) : CallR X (.builtin "isinstance") (rIsET X.K C r) := by
  intro pins s σ H xs us Q I rr q
  obtain ⟨tp, cs, b, rfl, hT, e, q⟩ := q
  obtain ⟨u1, u2, rfl, r1, r2⟩ := vals2 rr
  cases (show u1 = Value.ref r from r1)
  cases (show u2 = Value.ref tp from r2)
  obtain ⟨oe, J⟩ := inst_of h I
  obtain ⟨_, its, rv, o, h1, h2, n, h3⟩ := (show ObjOk X.prog X.w H s.heap tp (.tup (cs.map V.ref)) from I.hok tp _ hT)
  have e3 := refs_eq rv
  subst e3
  obtain ⟨oc, od, dt, sl⟩ := o
  simp only at h2 h3
  subst h2 h3
  exact PySem.W.kia_tup (PySem.W.handS_kitx_exc E.hg E.hk E.hs E.hd E.ha E.hn E.ht E.hm) I.kIn J h1 e (fun z => nomatch z) fun tk => ⟨.bl b, H, I.tok tk, rfl, q⟩
theorem je_ref (hg : Gl X x) (hm : X.mg x = some (.ref C)) (hd : (x == ("__debug__" : Str)) = false := by decide) : JE X B H0 m sl (.Name x pos) (.rf C) := je_glob hg ⟨.ref C, _, hm, rfl, fun _ _ _ => rfl⟩ hd
theorem je_isE {r : Addr} {v : Bool} (E : ExcC X.K C) (h : HasE X r C) (hg : Gl X "isinstance") (hm : X.mg "isinstance" = none) (ha : JE X B H0 false sl a (.rf r)) (hx : JE X B H0 false sl e (.rf c)) (hk : PySem.W.kitOne X.K (.ref C) (.ref c) = some v)
    (he : starEach [a, e] X.env = (false, eval a X.env) :: starEach [e] X.env := by rfl) (he2 : starEach [e] X.env = (false, eval e X.env) :: starEach [] X.env := by rfl) (hpl : (backTo pos (starEach [e] X.env)).any (·.1) = false := by rfl) :
    JE X B H0 m sl (.Call (.Name "isinstance" p) [a, e] [] pos) (.bl v) := ⟨fun gh as σ H Q S q =>
  PEt (pe_callB (call_isE' E h) hg hm boot_isinstance (pa_cons pe_w (pa_cons pe_w pa_nil he2) he) (by decide) (by decide) he hpl) (ha.run gh as σ H _ S fun x H1 s1 r1 => hx.run gh as σ H1 _ (S.same s1) fun y H2 s2 r2 => by
    cases (show x = .ref r from r1)
    cases (show y = .ref c from r2)
    exact ⟨.ref c, .ref c, v, rfl, fun u hu => hu, hk, q _ H2 (s1.trans s2) rfl⟩)⟩
theorem je_isEB {r : Addr} {v : Bool} {tn : String} (E : ExcC X.K C) (h : HasE X r C) (hg : Gl X "isinstance") (hm : X.mg "isinstance" = none) (hg2 : Gl X n) (hm2 : X.mg n = none) (hv2 : bootBuiltins n = some (.type tn)) (ha : JE X B H0 false sl a (.rf r)) (hk : PySem.W.kitOne X.K (.ref C) (.type tn) = some v)
    (hn : n ≠ "__name__" := by decide) (hdb : (n == ("__debug__" : Str)) = false := by decide)
    (he : starEach [a, .Name n p2] X.env = (false, eval a X.env) :: starEach [.Name n p2] X.env := by rfl) (he2 : starEach [.Name n p2] X.env = (false, eval (.Name n p2) X.env) :: starEach [] X.env := by rfl) (hpl : (backTo pos (starEach [.Name n p2] X.env)).any (·.1) = false := by rfl) :
    JE X B H0 m sl (.Call (.Name "isinstance" p) [a, .Name n p2] [] pos) (.bl v) := ⟨fun gh as σ H Q S q =>
  PEt (pe_callB (call_isE' E h) hg hm boot_isinstance (pa_cons pe_w (pa_cons (pe_bltn (v := .ty tn) hg2 hm2 hv2 rfl hn hdb) pa_nil he2) he) (by decide) (by decide) he hpl) (ha.run gh as σ H _ S fun x H1 s1 r1 => by
    cases (show x = .ref r from r1)
    exact ⟨.ty tn, .type tn, v, rfl, fun u hu => hu, hk, q _ H1 s1 rfl⟩)⟩
theorem rpl_rfs {A : Addr → Prop} {H : Hp} : ∀ {cs : List Addr} {xs : List V}, RpL X.K A H (cs.map D.rf) xs → xs = cs.map V.ref
  | [], _, h => h
  | c :: cs, _, h => by
    obtain ⟨x, r, rfl, h1, h2⟩ := h
    rw [rpl_rfs h2, show x = .ref c from h1]
    rfl
theorem je_isET {r : Addr} {v : Bool} {cs : List Addr} (E : ExcC X.K C) (h : HasE X r C) (hg : Gl X "isinstance") (hm : X.mg "isinstance" = none) (ha : JE X B H0 false sl a (.rf r)) (hx : JE X B H0 false sl e (.tup (cs.map .rf))) (hk : PySem.W.kitAny X.K (.ref C) (cs.map Value.ref) = some v)
    (he : starEach [a, e] X.env = (false, eval a X.env) :: starEach [e] X.env := by rfl) (he2 : starEach [e] X.env = (false, eval e X.env) :: starEach [] X.env := by rfl) (hpl : (backTo pos (starEach [e] X.env)).any (·.1) = false := by rfl) :
    JE X B H0 m sl (.Call (.Name "isinstance" p) [a, e] [] pos) (.bl v) := ⟨fun gh as σ H Q S q =>
  PEt (pe_callB (call_isET E h) hg hm boot_isinstance (pa_cons pe_w (pa_cons pe_w pa_nil he2) he) (by decide) (by decide) he hpl) (ha.run gh as σ H _ S fun x H1 s1 r1 => hx.run gh as σ H1 _ (S.same s1) fun y H2 s2 r2 => by
    cases (show x = .ref r from r1)
    obtain ⟨tp, xs, rfl, hT, hl⟩ := r2
    rw [rpl_rfs hl] at hT
    exact ⟨tp, cs, v, rfl, hT, hk, q _ H2 (s1.trans s2) rfl⟩)⟩
end
/-! a def that may raise keeps its promise -/
section
variable {P : Program} {w : World} {K : PySem.W.Frag} {mg : Str → Option Value} {base : Heap} {x qual : Str} {st : Stmt} {f : Addr} {fd : FuncData} {N ps : List Str} {k : Nat} {Fs : FS}
abbrev XR (P : Program) (w : World) (K : PySem.W.Frag) (mg : Str → Option Value) (base : Heap) (N : List Str) (qual : Str) (sc : Scope) (f : Addr) (cdv : Value) (A : Around) (outer : List Env) (s : Shared) (H : Hp) (E : XK) : Cx := cxOf (L2N.CX P w) P w K mg base N qual sc f cdv A outer s H E
theorem passXR {qual : Str} {sc : Scope} {cdv : Value} {A : Around} {outer : List Env} {s : Shared} {H : Hp} {E : XK} : PassesOwn (model P w) (XR P w K mg base N qual sc f cdv A outer s H E).A (XR P w K mg base N qual sc f cdv A outer s H E).env (XR P w K mg base N qual sc f cdv A outer s H E).xe := PassesOwn.leaving
theorem fn_okR (F : Fun K x qual st f fd) (S : FnScope N ps (defScope st)) (hl : ∀ ds o, Fs ds o → ds.length = ps.length)
    (body : ∀ cdv A outer s H E, Room k (A.deeper (envOfC qual (defScope st) s.heap.objs.size f cdv)) → ∀ (B : Addr → Prop) ds o, Fs ds o → (∀ c sl, o = .er c → Lets (XR P w K mg base N qual (defScope st) f cdv A outer s H E) B H sl c) → JSs (XR P w K mg base N qual (defScope st) f cdv A outer s H E) B H (starts N ds) (defBody st) (PoOf o)) :
    FnOk P w K mg base (L2N.CX P w) (k + 1) f fd ps (spF K Fs) := by
  obtain ⟨oc, od, kV, doc, pm, an, cdv, ct, osl, rfl, lk, hcd⟩ := F.ex
  refine fn_of lk hcd S (fun vs H Q E h => ?_) fun A outer s H vs Q E hr h => ?_
  · obtain ⟨B, ds, o, hd, r, hF, _⟩ := h
    rw [r.len]
    exact hl ds o hF
  · obtain ⟨B, ds, o, hd, r, hF, h1, h2, h3⟩ := h
    refine ⟨_, pss_w, fun pins sh I => ?_⟩
    have e0 : L2.start N vs = vs.map some ++ List.replicate (N.length - ds.length) none := by
      unfold L2.start
      rw [r.len]
    have S0 : SOK K B H [] (List.replicate (ds.length + (N.length - ds.length)) none) (starts N ds) (L2.start N vs) H := by
      refine ⟨Same.refl H, hd, fun a h => ?_, fun i j a h => ?_, fun g h => (by cases h), ?_⟩
      · cases (List.mem_replicate.mp h).2
      · have := List.mem_of_getElem? h
        cases (List.mem_replicate.mp this).2
      · rw [e0]
        exact (starts_ok r _).to (fun h => h.anti noA) (fun h => h.anti noA) fun _ _ _ q _ => q
    refine thn ((body cdv A outer s H E hr B ds o hF (fun c sl e => lets_fn fun H' s' => h3 c e H' s')).run [] _ _ H S0 pins sh I) fun fl s' q => SPm q ?_ ?_ (fun _ _ ⟨_, _, z, _⟩ => z.elim) (fun _ _ ⟨_, _, z, _⟩ => z.elim)
    · rintro σ' H' ⟨as', sl', e, S'⟩
      exact h1 .non e .non H' S'.ex rfl
    · rintro v H' (⟨d, e, s1, r1⟩ | ⟨d, q, e, rfl, s1, hq, r1⟩)
      · exact h1 d e v H' s1 r1
      · rcases e with e | e
        · exact h2 d e q H' s1 hq r1
        · exact h1 d e _ H' s1 (r1.rp (fun z => by
            obtain ⟨u, hu⟩ := hd q z
            rw [hq] at hu
            cases hu) fun a h => .inl h)
end
end PD
namespace PD
open PySem PySem.Spec PyProof.Rows L2 L2H
variable [TN]
/-! ### what runs within an except suite: the exception is at p, of the class at C -/
/-- a def's promise there -/
structure FnE (P : Program) (w : World) (K : PySem.W.Frag) (mg : Str → Option Value) (base : Heap) (k : Nat) (f : Addr) (fd : FuncData) (ps : List Str) (C : Addr) (sp : Addr → Sp) : Prop where
  len : ∀ r vs H Q E, sp r vs H Q E → vs.length = ps.length
  run : ∀ (A : Around) (outer : List Env) (s : Shared) (H : Hp) (args : Args) (us : List Value) (vs : List V) (Q : VK) (p : Addr × Obj), RoomH k A → Hot1 A p → L2N.Zn (.ref C) none p.2 → PinOk outer H s p → Env0 P w K mg base A outer s H → BindsTo s fd args (ps.zip us) → Vals vs us → sp p.1 vs H Q E0 →
    codeAny (model P w) A (.call (.ref f) args) (CR CX0 outer P w H s Q E0) s
abbrev XH (P : Program) (w : World) (K : PySem.W.Frag) (mg : Str → Option Value) (base : Heap) (N : List Str) (qual : Str) (scope : Scope) (f : Addr) (cd : Value) (A : Around) (outer : List Env) (s : Shared) (H : Hp) (p : Addr × Obj) : Cx := cxH CX0 P w K mg base N qual scope f cd A outer s H E0 p
section
variable {P : Program} {w : World} {K : PySem.W.Frag} {mg : Str → Option Value} {base : Heap} {x qual : Str} {st : Stmt} {f C : Addr} {fd : FuncData} {N ps : List Str} {k : Nat} {Fs : Addr → FS}
theorem hotXH {sc : Scope} {cdv : Value} {A : Around} {outer : List Env} {s : Shared} {H : Hp} {p : Addr × Obj} (h : Hot1 A p) : HotC (XH P w K mg base N qual sc f cdv A outer s H p) := ⟨p, h, List.mem_cons_self⟩
theorem fn_okE (F : Fun K x qual st f fd) (S : FnScope N ps (defScope st)) (hl : ∀ r ds o, Fs r ds o → ds.length = ps.length) (hx : ∀ r ds c, ¬ Fs r ds (.er c))
    (body : ∀ cdv A outer s H p, RoomH k (A.deeper (envOfC qual (defScope st) s.heap.objs.size f cdv)) → ∀ (B : Addr → Prop) ds o, HotC (XH P w K mg base N qual (defScope st) f cdv A outer s H p) → HasE (XH P w K mg base N qual (defScope st) f cdv A outer s H p) p.1 C → Fs p.1 ds o → JSs (XH P w K mg base N qual (defScope st) f cdv A outer s H p) B H (starts N ds) (defBody st) (PoOf o)) :
    FnE P w K mg base (k + 1) f fd ps C (fun r => spF K (Fs r)) := by
  obtain ⟨oc, od, kV, doc, pm, an, cdv, ct, osl, rfl, lk, hcd⟩ := F.ex
  refine ⟨fun r vs H Q E h => ?_, fun A outer s H args us vs Q p hr hot hz hpin e0 hb r hsp => ?_⟩
  · obtain ⟨B, ds, o, hd, r, hF, _⟩ := h
    rw [r.len]
    exact hl _ ds o hF
  have hlen : vs.length = ps.length := by
    obtain ⟨B, ds, o, hd, r, hF, _⟩ := hsp
    rw [r.len]
    exact hl _ ds o hF
  have KX : K.In s.heap := e0.mod.kin.keeps fun b o e => (e0.bs b o e).1
  have lim : s.heap.NoLimit := e0.mod.nolimit.keeps fun b o e => (e0.bs b o e).1
  have hkind : ∀ y ∈ ps.zip us, (defScope st).names.lookup y.1 = some .local ∨ ((defScope st).names.lookup y.1 = some .cell ∧ ((cellsFrom (s.heap.objs.size + 1) (defScope st).names []).lookup y.1).isSome = true) := fun ⟨n, v⟩ hy => by
    rcases S.par n (List.of_mem_zip hy).1 with q | q
    · exact .inl q
    · exact .inr ⟨q, PySem.W.cellsFrom_some _ _ _ (.inl q)⟩
  refine codeAny_call_function hr.depth (KX _ _ lk) rfl S.co S.gen rfl (PySem.W.codeRec_of KX hcd) (hb _ _ _ _ ?_)
  refine wpAny_newFunctionEnv_cells S.kind hkind fun env he s1 x => ?_
  subst he
  refine ⟨lim.keeps x.toInCall.keep, codeAny_func ?_⟩
  have I : Inv (XH P w K mg base N qual (defScope st) f cdv A outer s H p) [] (L2.start N vs) H s1 := inv_startH S hpin e0 hlen r x
  obtain ⟨B, ds, o, hd, rr, hF, h1, h2, h3⟩ := hsp
  have e0' : L2.start N vs = vs.map some ++ List.replicate (N.length - ds.length) none := by
    unfold L2.start
    rw [rr.len]
  have S0 : SOK K B H [] (List.replicate (ds.length + (N.length - ds.length)) none) (starts N ds) (L2.start N vs) H := by
    refine ⟨Same.refl H, hd, fun a h => ?_, fun i j a h => ?_, fun g h => (by cases h), ?_⟩
    · cases (List.mem_replicate.mp h).2
    · have := List.mem_of_getElem? h
      cases (List.mem_replicate.mp this).2
    · rw [e0']
      exact (starts_ok rr _).to (fun h => h.anti noA) (fun h => h.anti noA) fun _ _ _ q _ => q
  have hasE : HasE (XH P w K mg base N qual (defScope st) f cdv A outer s H p) p.1 C := ⟨p.2, List.mem_cons_self, hz.zc, by
    obtain ⟨_, vs1, e1, _⟩ := hot
    exact ⟨vs1, e1⟩⟩
  have hs0 := (body cdv A outer s H p (hr.deeper _) B ds o (hotXH hot) hasE hF).run [] _ _ H S0 [] s1 I
  refine wpAny_mono hs0 (fun fl s' hs => ?_) fun e s' hs => hs
  have fin : ∀ {σ' : L2.St} {H' : Hp} {v : V} {u : Value}, Inv (XH P w K mg base N qual (defScope st) f cdv A outer s H p) [] σ' H' s' → RelV v u → Q v H' → CE outer P w H s Q u s' :=
    fun {σ' H' v u} J rv q => ⟨v, H', J.os, J.bare, J.base, J.hok, rv, q⟩
  cases fl with
  | ret u =>
    obtain ⟨v, σ', H', J, rv, q⟩ := hs
    refine fin J rv ?_
    rcases q with ⟨d, e, s1, r1⟩ | ⟨d, q, e, rfl, s1, hq, r1⟩
    · exact h1 d e v H' s1 r1
    · rcases e with e | e
      · exact h2 d e q H' s1 hq r1
      · exact h1 d e _ H' s1 (r1.rp (fun z => by
          obtain ⟨u, hu⟩ := hd q z
          rw [hq] at hu
          cases hu) fun a h => .inl h)
  | next =>
    obtain ⟨σ', H', J, as', sl', e, S'⟩ := hs
    exact fin (v := V.non) (u := Value.none) J rfl (h1 .non e .non H' S'.ex rfl)
  | brk =>
    obtain ⟨_, _, _, _, _, z, _⟩ := hs
    exact z.elim
  | cont =>
    obtain ⟨_, _, _, _, _, z, _⟩ := hs
    exact z.elim
end
/-- X bears the exception at r, of the class at C -/
def HotE (X : Cx) (r C : Addr) : Prop := ∃ p : Addr × Obj, p.1 = r ∧ Hot1 X.A p ∧ p ∈ X.pn ∧ L2N.Zn (.ref C) none p.2
theorem HotE.hot {X : Cx} {r C : Addr} (h : HotE X r C) : HotC X := by
  obtain ⟨p, _, h1, h2, _⟩ := h
  exact ⟨p, h1, h2⟩
theorem HotE.has {X : Cx} {r C : Addr} (h : HotE X r C) : HasE X r C := by
  obtain ⟨p, rfl, h1, h2, h3⟩ := h
  obtain ⟨_, vs1, e1, _⟩ := h1
  exact ⟨p.2, h2, h3.zc, vs1, e1⟩
theorem hotE_suite {X : Cx} {a C : Addr} {oe : Obj} {pn : List (Addr × Obj)} (hz : L2N.Zn (.ref C) none oe) (hd : ∃ vs, oe.data = .fields vs) : HotE (X.suite a ((a, oe) :: pn)) a C := by
  obtain ⟨vs, hv⟩ := hd
  exact ⟨(a, oe), rfl, ⟨rfl, vs, hv, hz.2.2 vs hv⟩, List.mem_cons_self, hz⟩
section
variable {X : Cx} {B : Addr → Prop} {H0 : Hp} {m : Bool} {sl : List Sl} {e a : Expr} {es : List Expr} {d : D} {ds : List D} {pos p : Pos} {x : Str} {C r f : Addr} {fd : FuncData} {ps : List Str} {k : Nat} {F : Addr → FS}
theorem je_callE (G : FnE X.prog X.w X.K X.mg X.base k f fd ps C (fun r => spF X.K (F r))) (hr : RoomH k X.A) (hot : HotE X r C) (hg : Gl X x) (hm : X.mg x = some (.ref f)) (hk : PySem.W.keepIn X.K (.ref f) = true) (hb : Binds X.K fd ps []) (ha : JA X B H0 m sl (e :: es) ds) (h : F r ds (.ok d))
    (hdb : (x == ("__debug__" : Str)) = false := by decide) (he : starEach (e :: es) X.env = (false, eval e X.env) :: starEach es X.env := by rfl) (hpl : (backTo pos (starEach es X.env)).any (·.1) = false := by rfl) : JE X B H0 m sl (.Call (.Name x p) (e :: es) [] pos) d := ⟨fun gh as σ H Q S q => by
  refine fun pins s I => wpAny_Call_Name_kw (ld_glob I hg hm ?_ hdb)
  refine PySem.W.callWith_K (h₀ := X.base) I.ok.mod.kin hk (thn (ha.run gh as σ H (fun vs H1 => Same H H1 ∧ RpL X.K (Av B as m) H1 ds vs) S (fun vs H1 s1 r1 => ⟨s1, r1⟩) pos pins s I) fun us s1 ⟨vs, H1, I1, r1, sm, rp⟩ => ⟨I1.kIn, ?_⟩) he hpl
  obtain ⟨p, rfl, hot1, hp, hz⟩ := hot
  have sp : spF X.K (F p.1) vs H1 Q E0 := by
    refine ⟨Av B as m, ds, .ok d, fun a h => (S.same sm).dom a (Av.sub a h), rp, h, fun d' e' v H2 s2 r2 => ?_, fun d' e' => (by cases e'), fun c e' => (by cases e')⟩
    cases e'
    exact q v H2 (sm.trans s2) r2
  have hl : us.length = ps.length := by rw [← r1.length]; exact G.len _ _ _ _ _ sp
  have b := hb s1 us I1.kIn (by rw [List.append_nil]; exact hl)
  rw [List.append_nil] at b
  have P1 := I1.pin p (List.mem_append_left _ hp)
  have hpin : PinOk X.stack H1 s1 p := ⟨P1.1, P1.2.1, fun hm => (List.mem_cons.mp (I1.stkSub p.1 hm)).elim P1.2.2.1 P1.2.2.2.1, P1.2.2.2.2⟩
  refine wpAny_call (codeAny_mono (G.run X.A X.stack s1 H1 ⟨us, []⟩ us vs Q p hr hot1 hz hpin I1.env0 b r1 sp) fun r s' hq => ?_)
  cases r with
  | error e => exact hq.elim
  | ok fl =>
    cases fl with
    | ret u => exact I1.after hq
    | next => exact False.elim hq
    | brk => exact False.elim hq
    | cont => exact False.elim hq⟩
end
end PD
namespace L2
open PySem PySem.Spec PyProof.Rows L2H
section
variable {X : Cx}
theorem lc_coreH {pins : List (Addr × Obj)} {s : Shared} {σ : St} {H : Hp} {Q : VK} {elt tg iter : Expr} {ifs : List Expr} {scope : Scope} {own : List (Str × Nat)} {pos pos' : Pos} {wi : TI} {g : TG} {tt : TT} {te : TE} {use : Option (Value → Sem Unit)} {Qf : Value → Shared → Prop}
    (hot : HotC X) (hN : X.N.Nodup) (I : Inv X pins σ H s) (hi : PIH X tg iter wi) (ok : BlkOk X.N X.env.scope scope own)
    (hg : ∀ (s : Shared) (H : Hp) (C : Addr) (cl : List (Str × Addr)) (fp : List Addr), PG (X.blk s H scope (compEnvC scope cl C X.env) fp) tg g) (ht : ∀ (s : Shared) (H : Hp) (C : Addr) (cl : List (Str × Addr)) (fp : List Addr), PTs (X.blk s H scope (compEnvC scope cl C X.env) fp) ifs tt)
    (he : ∀ (s : Shared) (H : Hp) (C : Addr) (cl : List (Str × Addr)) (fp : List Addr), PE (X.blk s H scope (compEnvC scope cl C X.env) fp) elt te) (hs : ∀ x, foldedSetIterable iter X.env x = pure x)
    (h : tLc wi g tt te (own.map (·.2)) σ H Q)
    (hRR : ∀ D C s' m H', Inv X pins σ H' s' → Q (.ref D) H' → s'.heap.Ns C m → FpOk X pins H' C → compPost (model X.prog X.w) X.A X.xe use Qf (.ref D) C (.ok .next) s') :
    wpAny (model X.prog X.w) X.A (comprehension (.ListComp elt [⟨tg, iter, ifs, 0⟩] scope pos) scope X.env pos' (newList []) false (eval iter X.env) use) Qf X.xe s := by
  have hfree : ∀ y ∈ scope.names, y.2 = .free → ∃ c, X.env.cells.lookup y.1 = some c := fun y hy e => by
    rcases ok.free y hy e with k | k
    · exact I.ok.has _ (.inl k)
    · exact I.ok.has _ (.inr k)
  refine wpAny_comprehension_free (use := use) rfl hs (closure_ok hfree) ok.kind (fun y hy e => by rw [ok.uniq y hy, e])
    (thn (hi.run pins s σ H _ I h) fun xv s1 hx => thn hx fun itv s2 h2 => ?_)
  obtain ⟨it, fp, tn, J, H2, e, I2, T, st2, f2, q⟩ := h2
  subst e
  refine wpAny_newObj_type (newEnv_comp ?_) (by show 0 ≤ sizeLine; decide)
  generalize hD : s2.heap.objs.size = D
  have hDn : H2 D = none := I2.hok.fresh (Nat.le_of_eq hD)
  obtain ⟨W, ⟨m0, w0⟩, turn⟩ := q D hDn
  generalize hs3 : ({ s2 with heap := s2.heap.push { cls := .type "list", data := .seq ([] : List Value).toArray } } : Shared) = s3
  have I3 : Inv X pins σ (upd H2 D (.lst [])) s3 := by
    rw [← hs3]
    refine I2.laid (t' := s2.toks) (fun b o e => Heap.get?_push_of_some _ e) (Nat.le_of_eq hD) ⟨Nat.zero_le _, [], 0, .nil, ?_⟩
    rw [← hD]
    exact Heap.get?_push_size _ rfl
  have h3 : s3.heap = s2.heap.push { cls := .type "list", data := .seq ([] : List Value).toArray } := by rw [← hs3]
  have sz : ∀ b ∈ fp, b < s2.heap.objs.size := fun b hb => by
    obtain ⟨o, e, _⟩ := T.obj _ _ st2 b hb
    exact Heap.lt_size e
  have f3 : ∀ b ∈ fp, FpOk X pins (upd H2 D (.lst [])) b ∧ b < s3.heap.objs.size := fun b hb => by
    have hlt := sz b hb
    refine ⟨⟨?_, (f2 b hb).2⟩, by rw [h3, Heap.size_push]; exact Nat.lt_succ_of_lt hlt⟩
    rw [upd_ne (by rw [← hD]; exact Nat.ne_of_lt hlt)]
    exact (f2 b hb).1
  have st3 : tn 0 s3.heap := T.keep _ _ _ st2 fun b _ o e => by rw [h3]; exact Heap.get?_push_of_some _ e
  have I4 := block_start I3 ok hN f3
  have pg := hg s3 (upd H2 D (.lst [])) s3.heap.objs.size (cellsFrom (s3.heap.objs.size + 1) scope.names (cloFrom X.env.cells scope.names [])) fp
  have pt := ht s3 (upd H2 D (.lst [])) s3.heap.objs.size (cellsFrom (s3.heap.objs.size + 1) scope.names (cloFrom X.env.cells scope.names [])) fp
  have pe := he s3 (upd H2 D (.lst [])) s3.heap.objs.size (cellsFrom (s3.heap.objs.size + 1) scope.names (cloFrom X.env.cells scope.names [])) fp
  show codeAny _ _ (.compStart (.ListComp elt [⟨tg, iter, ifs, 0⟩] scope pos) 0 (.ref it) (.ref D) (compEnvC scope (cellsFrom (s3.heap.objs.size + 1) scope.names (cloFrom X.env.cells scope.names [])) s3.heap.objs.size X.env)) (compPost (model X.prog X.w) X.A X.xe use Qf (.ref D) s3.heap.objs.size) { s3 with heap := pushCells (s3.heap.push { cls := .type "dict", data := .dict #[] }) scope.names }
  have nfp : ∀ b ∈ fp, (upd H2 D (.lst [])) b = none := fun b hb => (f3 b hb).1.1
  obtain ⟨p, hp1, hpm⟩ := hot
  have pin3 := I3.pin p (List.mem_append_left _ hpm)
  have pst : p.1 ∉ frs X.stack := fun hm => (List.mem_cons.mp (I3.stkSub p.1 hm)).elim pin3.2.2.1 pin3.2.2.2.1
  have pfp : p.1 ∉ fp := fun hm => (f3 p.1 hm).1.2.2.2.2.2 p (List.mem_append_left _ hpm) rfl
  have psz : p.1 ≠ s3.heap.objs.size := Nat.ne_of_lt (Heap.lt_size pin3.1)
  generalize hce : compEnvC scope (cellsFrom (s3.heap.objs.size + 1) scope.names (cloFrom X.env.cells scope.names [])) s3.heap.objs.size X.env = ce at I4 pg pt pe ⊢
  have cL : ce.locals = s3.heap.objs.size := by subst hce; rfl
  generalize hH3 : upd H2 D (.lst []) = H3 at I3 I4 pg pt pe w0 nfp f3 pin3
  generalize hs4 : ({ s3 with heap := pushCells (s3.heap.push { cls := .type "dict", data := .dict #[] }) scope.names } : Shared) = s4 at I4 ⊢
  have st4 : tn 0 s4.heap := T.keep _ _ _ st3 fun b _ o e => by rw [← hs4]; exact pushCells_keeps _ _ _ _ (Heap.get?_push_of_some _ e)
  have toH : ∀ {σ' : St} {H' : Hp} {s' : Shared}, Inv (X.blk s3 H3 scope ce fp) [] σ' H' s' → Inv { X.blk s3 H3 scope ce fp with pn := [p] } [] σ' H' s' := fun {σ' H' s'} I' => by
    obtain ⟨k1, k2, k3, k4, k5, k6, k7, k8, k9, k10, k11⟩ := I'
    refine ⟨⟨k1.mod, k1.kind, k1.glob, k1.blt, k1.above, k1.inj, k1.has, k1.cab, k1.hd, k1.frames, k1.stk, k1.exf, k1.bs, k1.bsz, k1.noex, k1.exfs, k1.funs, k1.frf⟩, k2, k3, k4, k5, k6, k7, k8, fun q hq => ?_, k10, k11⟩
    have e : q = p := by simpa using (show q ∈ [p] ++ ([] : List (Addr × Obj)) from hq)
    subst e
    exact ⟨k4.keep q.1 q.2 pin3.1 pin3.2.1 pst pfp, k4.free q.1 q.2 pin3.1 pin3.2.1 pfp, fun z => psz (z.trans cL), pst, pin3.2.2.2.2⟩
  have ofH : ∀ {σ' : St} {H' : Hp} {s' : Shared}, Inv { X.blk s3 H3 scope ce fp with pn := [p] } [] σ' H' s' → Inv (X.blk s3 H3 scope ce fp) [] σ' H' s' := fun {σ' H' s'} I' => by
    obtain ⟨k1, k2, k3, k4, k5, k6, k7, k8, k9, k10, k11⟩ := I'
    exact ⟨⟨k1.mod, k1.kind, k1.glob, k1.blt, k1.above, k1.inj, k1.has, k1.cab, k1.hd, k1.frames, k1.stk, k1.exf, k1.bs, k1.bsz, k1.noex, k1.exfs, k1.funs, k1.frf⟩, k2, k3, k4, k5, k6, k7, k8, fun q hq => absurd (show q ∈ ([] : List (Addr × Obj)) ++ [] from hq) (by simp), k10, k11⟩
  have hotB : HotC { X.blk s3 H3 scope ce fp with pn := [p] } := ⟨p, hp1, List.mem_cons_self⟩
  have stat : ∀ {σ' : St} {H' : Hp} {s' : Shared}, Inv (X.blk s3 H3 scope ce fp) [] σ' H' s' → (∀ b ∈ fp, H' b = none) → ∀ b ∈ fp, FpOk (X.blk s3 H3 scope ce fp) [] H' b := fun {σ' H' s'} I' hn b hb =>
    ⟨hn b hb, (I'.ok.exf b hb).1, I'.ok.exfs b hb, .inl hb, fun x c e => (I'.ok.exf b hb).2 x c e, fun p hp => absurd (show p ∈ ([] : List (Addr × Obj)) ++ [] from hp) (by simp)⟩
  have statH : ∀ {σ' : St} {H' : Hp} {s' : Shared}, Inv (X.blk s3 H3 scope ce fp) [] σ' H' s' → (∀ b ∈ fp, H' b = none) → ∀ b ∈ fp, FpOk { X.blk s3 H3 scope ce fp with pn := [p] } [] H' b := fun {σ' H' s'} I' hn b hb =>
    ⟨hn b hb, (I'.ok.exf b hb).1, I'.ok.exfs b hb, .inl hb, fun x c e => (I'.ok.exf b hb).2 x c e, fun q hq z => by
      have e : q = p := by simpa using (show q ∈ [p] ++ ([] : List (Addr × Obj)) from hq)
      subst e
      exact pfp (z ▸ hb)⟩
  have loop : codeAny (model X.prog X.w) X.A (.compLoop (.ListComp elt [⟨tg, iter, ifs, 0⟩] scope pos) 0 (.ref it) (.ref D) ce) (compPost (model X.prog X.w) X.A X.xe use Qf (.ref D) s3.heap.objs.size) s4 := by
    refine compLoop_any (fun n s' => ∃ i H', Inv (X.blk s3 H3 scope ce fp) [] (wipe σ (own.map (·.2))) H' s' ∧ tn i s'.heap ∧ (∀ b ∈ fp, H' b = none) ∧ W i n H') ?_ m0 ⟨0, H3, I4, st4, nfp, w0⟩
    rintro n s5 ⟨i, H5, I5, st5, n5, w5⟩
    rcases turn i n H5 w5 with ⟨stop, qq⟩ | ⟨go, Nx, hNx, step⟩
    · have td := T.done { X.blk s3 H3 scope ce fp with pn := [p] } rfl rfl rfl hotB i [] s5 _ H5 (fun _ _ => False) (toH I5) (statH I5 n5) st5 stop
      refine thnF td fun r s6 ⟨hr, I6'⟩ => ?_
      have I6 := ofH I6'
      subst hr
      have I7 : Inv X pins σ H5 s6 := I3.call' (ch := fp) I6.os I6.base I6.hok I6.bare fun b hb => ⟨(f3 b hb).1.2.2.2.1, (f3 b hb).1.2.1, (f3 b hb).1.2.2.2.2.1, (f3 b hb).1.2.2.2.2.2⟩
      have nC : H5 s3.heap.objs.size = none := by
        have z : H5 ce.locals = none := I6.free
        rw [cL] at z
        exact z
      obtain ⟨m, hn, _⟩ := I6.loc
      have hn : s6.heap.Ns ce.locals m := hn
      rw [cL] at hn
      exact hRR D s3.heap.objs.size s6 m H5 I7 qq hn (I3.fpOk (Nat.le_refl _) nC)
    · have ti := T.item { X.blk s3 H3 scope ce fp with pn := [p] } rfl rfl rfl hotB i [] s5 _ H5 (fun _ _ => False) (toH I5) (statH I5 n5) st5 go
      refine thnF ti fun r s6 ⟨u, hr, h6⟩ => ?_
      subst hr
      refine thnF h6 fun _ s7 ⟨x, H7, I7h, r7, y7, st7, n7⟩ => ?_
      have I7 := ofH I7h
      have I7' := I7.pinned (stat I7 n7) (T.obj _ _ st7)
      refine thnF (pg.run _ s7 _ H7 x u _ I7' r7 (step x H7 y7)) fun _ s8 ⟨σ8, H8, I8, hw8, q8⟩ => ?_
      refine thnF (pt.run _ s8 σ8 H8 _ I8 q8) fun b s9 ⟨H9, I9, q9⟩ => ?_
      have fin : ∀ {s' : Shared} {H' : Hp}, Inv (X.blk s3 H3 scope ce fp) ([] ++ pinsAt fp s7.heap) σ8 H' s' → Nx H' → ∃ m, m < n ∧ ∃ i H', Inv (X.blk s3 H3 scope ce fp) [] (wipe σ (own.map (·.2))) H' s' ∧ tn i s'.heap ∧ (∀ b ∈ fp, H' b = none) ∧ W i m H' := fun {s' H'} I' nx => by
        obtain ⟨m', hm, w'⟩ := hNx H' nx
        have pin' : ∀ b ∈ fp, ∀ o, s7.heap.get? b = some o → s'.heap.get? b = some o ∧ H' b = none := fun b hb o e =>
          let z := I'.pin (b, o) (List.mem_append_right _ (List.mem_append_right _ (mem_pinsAt hb e)))
          ⟨z.1, z.2.1⟩
        have hl : (wipe σ (own.map (·.2))).length = σ8.length := by rw [← hw8, wipe_length]
        refine ⟨m', hm, i + 1, H', (I'.unpinned (pins := [])).weak hl (fun j v e => ?_), T.keep _ _ _ st7 fun b hb o e => (pin' b hb o e).1, fun b hb => ?_, w'⟩
        · rw [← hw8] at e
          exact (wipe_some e).1
        · obtain ⟨o, e, _⟩ := T.obj _ _ st7 b hb
          exact (pin' b hb o e).2
      cases b with
      | false =>
        simp only [Bool.false_eq_true, if_false] at q9 ⊢
        exact fin I9 q9
      | true =>
        simp only [if_true] at q9 ⊢
        refine thnF (pe.run _ s9 σ8 H9 _ I9 q9) fun z s10 ⟨yv, H10, I10, r10, acc, hD10, hz10, nx⟩ => ?_
        exact app_ok (X := X.blk s3 H3 scope ce fp) I10 hD10 hz10 r10 fun s11 I11 => fin I11 nx
  exact codeAny_compStart_list loop (T.self X.A 0 _ _ _ st4 loop)
theorem pe_lcH {elt tg iter : Expr} {ifs : List Expr} {scope : Scope} {own : List (Str × Nat)} {pos : Pos} {wi : TI} {g : TG} {tt : TT} {te : TE} (hot : HotC X) (hN : X.N.Nodup) (hi : PIH X tg iter wi) (ok : BlkOk X.N X.env.scope scope own)
    (hg : ∀ (s : Shared) (H : Hp) (C : Addr) (cl : List (Str × Addr)) (fp : List Addr), PG (X.blk s H scope (compEnvC scope cl C X.env) fp) tg g) (ht : ∀ (s : Shared) (H : Hp) (C : Addr) (cl : List (Str × Addr)) (fp : List Addr), PTs (X.blk s H scope (compEnvC scope cl C X.env) fp) ifs tt)
    (he : ∀ (s : Shared) (H : Hp) (C : Addr) (cl : List (Str × Addr)) (fp : List Addr), PE (X.blk s H scope (compEnvC scope cl C X.env) fp) elt te) (hs : ∀ x, foldedSetIterable iter X.env x = pure x := by intro _; rfl) :
    PE X (.ListComp elt [⟨tg, iter, ifs, 0⟩] scope pos) (tLc wi g tt te (own.map (·.2))) := by
  refine ⟨fun pins s σ H Q I h => ?_⟩
  rw [eval_ListComp]
  refine lc_coreH hot hN I hi ok hg ht he hs h fun D C s' m H' I' q hn f => ⟨m, hn, fun h'' sb => ?_⟩
  obtain ⟨f0, f1, f2, f3, f4, f5⟩ := f
  exact ⟨.ref D, H', I'.turned (t' := s'.toks) (fun b o hb e => (sb.2 b hb).trans e) f0 f1 f3 f4 f5, rfl, q⟩
end
end L2
namespace PD
open PySem PySem.Spec PyProof.Rows L2 L2H
variable [TN]
def tIH (X : Cx) (tg iter : Expr) : TI := fun σ H R => ∀ pins s, Inv X pins σ H s → wpAny (model X.prog X.w) X.A (eval iter X.env) (fun v s1 => wpAny (model X.prog X.w) X.A (pyIter v) (PIEH X pins σ tg R) X.xe s1) X.xe s
theorem pih_w {X : Cx} {tg iter : Expr} : PIH X tg iter (tIH X tg iter) := ⟨fun pins s _ _ _ I h => h pins s I⟩
theorem PIHt {X : Cx} {tg iter : Expr} {t : TI} (h : PIH X tg iter t) {σ : L2.St} {H : Hp} {R : It → Hp → Prop} (q : t σ H R) : tIH X tg iter σ H R := fun pins s I => h.run pins s σ H R I q
section
variable {X : Cx} {B : Addr → Prop} {H0 : Hp} {sl : List Sl} {tg iter elt a : Expr} {ifs : List Expr} {ds : List D} {pos p : Pos} {scope : Scope} {own : List (Str × Nat)}
structure JIH (X : Cx) (B : Addr → Prop) (H0 : Hp) (sl : List Sl) (tg iter : Expr) (ds : List D) : Prop where
  run : ∀ gh as σ H R, SOK X.K B H0 gh as sl σ H → (∀ J H1 g, Same H H1 → GhOK X.K (AOf B as) H1 g → ItOk X.K ds g J → R J H1) → tIH X tg iter σ H R
theorem jih_rng1 {n : Int} (hg : Gl X "range") (hm : X.mg "range" = none) (ha : JA X B H0 false sl [a] [.int n]) (h1 : -(2 ^ 62) ≤ n) (h2 : n < 2 ^ 62) (hs : starEach [a] X.env = [(false, eval a X.env)] := by rfl) : JIH X B H0 sl tg (.Call (.Name "range" p) [a] [] pos) (rngD 0 n.toNat) := ⟨fun gh as σ H R S q =>
  PIHt (pi_range1H hg hm pa_w hs) (ha.run gh as σ H _ S fun vs H1 s1 r => by
    obtain ⟨x, r', rfl, e1, e2⟩ := r
    cases (show x = .int n from e1); cases (show r' = [] from e2)
    exact ⟨n, rfl, h1, h2, q _ H1 ([], [], []) s1 ⟨fun b u e => (by cases e), rfl⟩ itok_r⟩)⟩
theorem jih_rngT {lo : Int} {n : Nat} (h : JIH X B H0 sl tg iter (rngD lo n)) : JIH X B H0 sl tg iter ((rngT lo n).map .int) := rngD_map lo n ▸ h
theorem lc_readH {α : Type} {xs : List α} {g f : α → D} {t : α → Bool} {vs : List Nat} (hi : JIH X B H0 sl tg iter (xs.map g)) (hb : LcB X scope vs sl tg elt ifs xs g f t) (hz : xs.length ≤ sizeLine)
    {gh : Gh} {as : Ow} {σ : L2.St} {H : Hp} {Q : VK} (S : SOK X.K B H0 gh as sl σ H) (q : ∀ p H', Same H H' → H p = none → RpO X.K (A1 (AOf B as) p) H' p (.lst ((xs.filter t).map f)) → Q (.ref p) H') :
    tLc (tIH X tg iter) (tGB X scope tg) (tTB X scope ifs) (tEB X scope elt) vs σ H Q := by
  refine hi.run gh as σ H _ S fun J H1 g1 s1 hg ok D hD => ?_
  refine ⟨fun i m H' => m = xs.length - i ∧ i ≤ xs.length ∧ Same H1 H' ∧ ∃ acc, H' D = some (.lst acc) ∧ acc.length ≤ i ∧ RpL X.K (A1 (AOf B as) D) H' (((xs.take i).filter t).map f) acc, ⟨_, rfl, Nat.zero_le _, Same.new hD, [], upd_same, Nat.le_refl _, rfl⟩, ?_⟩
  rintro i m H' ⟨rfl, hil, sm, acc, eD, hl, hr⟩
  have S1 := S.same s1
  have hG : GhOK X.K (AOf B as) H' g1 := hg.stp (.of sm)
  have mr : ∀ {d v}, Rp X.K (AOf B as) H d v → Rp X.K (A1 (AOf B as) D) H' d v := fun h => (((h.stp (.of s1)).more fun a o ha ho => by
    rcases ha with ha | ha
    · exact ha
    · rw [ha, hD] at ho; cases ho).stp (.of sm))
  by_cases hlt : i < xs.length
  · obtain ⟨go, yl⟩ := ok.go _ i H' hG (by rw [List.length_map]; exact hlt)
    refine .inr ⟨go, fun H2 => i + 1 ≤ xs.length ∧ Same H1 H2 ∧ ∃ acc, H2 D = some (.lst acc) ∧ acc.length ≤ i + 1 ∧ RpL X.K (A1 (AOf B as) D) H2 (((xs.take (i + 1)).filter t).map f) acc, fun H2 ⟨l, z⟩ => ⟨xs.length - (i + 1), by omega, rfl, l, z⟩, fun v H2 hy => ?_⟩
    obtain ⟨s2, d, hd, r⟩ := yl v H2 hy
    rw [List.getElem?_map, List.getElem?_eq_getElem hlt] at hd
    have hd' : g xs[i] = d := Option.some.inj hd
    subst hd'
    obtain ⟨sl', hJ, hT, hE⟩ := hb xs[i] (List.getElem_mem hlt)
    have take1 : xs.take (i + 1) = xs.take i ++ [xs[i]] := by rw [List.take_add_one, List.getElem?_eq_getElem hlt]; rfl
    have SB : SOK X.K (A1 (AOf B as) D) H2 [] (List.replicate sl.length none) (wipeS sl vs) (wipe σ vs) H2 := by
      refine ⟨Same.refl _, fun a ha => ?_, fun a ha => ?_, fun k j a ha => ?_, fun g hg => (by cases hg), ?_⟩
      · rcases ha with ha | ha
        · exact (s1.trans (sm.trans s2)).there (S.dom a ha)
        · rw [ha]
          exact ⟨_, s2 _ _ eD⟩
      · cases (List.mem_replicate.mp ha).2
      · cases (List.mem_replicate.mp (List.mem_of_getElem? ha)).2
      · exact (wipeS_ok (fun h => ((mr h).stp (.of s2)).anti noA) S.sls vs)
    have rD : Rp X.K (A1 (AOf B as) D) H2 (g xs[i]) v := by
      have hGD : GhOK X.K (A1 (AOf B as) D) H' g1 := (hg.more fun a o ha ho => by
        rcases ha with ha | ha
        · exact ha
        · rw [ha, hD] at ho; cases ho).stp (.of sm)
      obtain ⟨_, yl2⟩ := ok.go _ i H' hGD (by rw [List.length_map]; exact hlt)
      obtain ⟨_, d2, hd2, r2⟩ := yl2 v H2 hy
      rw [List.getElem?_map, List.getElem?_eq_getElem hlt] at hd2
      cases hd2
      exact r2
    intro s0 Hx C cl fp
    refine (hJ s0 Hx C cl fp (A1 (AOf B as) D) H2).run [] _ (wipe σ vs) H2 v _ SB (rD.anti noA) fun as' σ' S' fr _ => ?_
    refine ⟨wipe_eq fr, hT.run S' fun H3 s3 => ?_⟩
    have acc3 : RpL X.K (A1 (AOf B as) D) H3 (((xs.take i).filter t).map f) acc := (hr.stp (.of s2)).stp (.of s3)
    have eD3 : H3 D = some (.lst acc) := s3 _ _ (s2 _ _ eD)
    cases ht : t xs[i] with
    | false =>
      show _ ∧ _
      refine ⟨hlt, sm.trans (s2.trans s3), acc, eD3, by omega, ?_⟩
      rw [take1, List.filter_append, List.filter_cons, ht]
      simp only [Bool.false_eq_true, if_false, List.filter_nil, List.append_nil]
      exact acc3
    | true =>
      show tEB X scope elt σ' H3 _
      intro s4 Hx4 C4 cl4 fp4
      refine (hE ht s4 Hx4 C4 cl4 fp4 (A1 (AOf B as) D) H2).run [] as' σ' H3 _ (S'.same s3) fun y H4 s4' r4 => ?_
      have e4 : H4 D = some (.lst acc) := s4' _ _ eD3
      refine ⟨acc, e4, by omega, hlt, (sm.trans (s2.trans (s3.trans s4'))).mut hD e4 (by intro _ z; cases z) (by intro _ z; cases z), acc ++ [y], upd_same, by rw [List.length_append, List.length_singleton]; omega, ?_⟩
      · have st : Stp (A1 (AOf B as) D) H4 (upd H4 D (.lst (acc ++ [y]))) := ⟨fun b o hb c _ => by
          by_cases z : b = D
          · subst z
            rw [e4] at hb
            cases hb
            rcases c with c | c
            · exact absurd (.inr rfl) c
            · exact c.elim
          · rw [upd_ne z]
            exact hb⟩
        rw [take1, List.filter_append, List.filter_cons, ht]
        simp only [if_true, List.filter_nil, List.map_append, List.map_cons, List.map_nil]
        exact (acc3.stp (.of s4')).stp st |>.app (RpL.one ((r4.anti fun a ha => .inl ha).stp st))
  · have e : i = xs.length := by omega
    subst e
    refine .inl ⟨?_, q D H' (s1.trans sm) (s1.free hD) ⟨acc, eD, ?_⟩⟩
    · have := ok.stop _ H' hG
      rw [List.length_map] at this
      exact this
    · rw [List.take_length] at hr
      exact hr
theorem jf_lcH {α : Type} {xs : List α} {g f : α → D} {t : α → Bool} (hot : HotC X) (hN : X.N.Nodup) (ok : BlkOk X.N X.env.scope scope own) (hi : JIH X B H0 sl tg iter (xs.map g)) (h1 : ifs.length ≤ 1) (hb : LcB X scope (own.map (·.2)) sl tg elt ifs xs g f t) (hz : xs.length ≤ sizeLine)
    (hs : ∀ x, foldedSetIterable iter X.env x = pure x := by intro _; rfl) : JF X B H0 sl (.ListComp elt [⟨tg, iter, ifs, 0⟩] scope pos) (.lst ((xs.filter t).map f)) := ⟨fun gh as σ H Q S q =>
  PEt (pe_lcH hot hN pih_w ok (fun _ _ _ _ _ => pg_b) (fun _ _ _ _ _ => pts_b h1) (fun _ _ _ _ _ => pe_b) hs) (lc_readH hi hb hz S q)⟩
end
end PD
namespace L2
open PySem PySem.Spec PyProof.Rows L2H
section
variable {X : Cx}
theorem ps_setLcH {i : Nat} {y : Str} {py : Pos} {elt tg iter : Expr} {ifs : List Expr} {scope : Scope} {own : List (Str × Nat)} {pos spos : Pos} {wi : TI} {g : TG} {tt : TT} {te : TE} (hot : HotC X) (hN : X.N.Nodup) (hy : X.N[i]? = some y) (hyl : X.env.scope.names.lookup y = some .local)
    (hsw : swapsWith (.ListComp elt [⟨tg, iter, ifs, 0⟩] scope pos) (some (.Name y py)) spos.line X.env = pure true) (hi : PIH X tg iter wi) (ok : BlkOk X.N X.env.scope scope own)
    (hg : ∀ (s : Shared) (H : Hp) (C : Addr) (cl : List (Str × Addr)) (fp : List Addr), PG (X.blk s H scope (compEnvC scope cl C X.env) fp) tg g) (ht : ∀ (s : Shared) (H : Hp) (C : Addr) (cl : List (Str × Addr)) (fp : List Addr), PTs (X.blk s H scope (compEnvC scope cl C X.env) fp) ifs tt)
    (he : ∀ (s : Shared) (H : Hp) (C : Addr) (cl : List (Str × Addr)) (fp : List Addr), PE (X.blk s H scope (compEnvC scope cl C X.env) fp) elt te) (hs : ∀ x, foldedSetIterable iter X.env x = pure x := by intro _; rfl) :
    PS X (.Assign [.Name y py] (.ListComp elt [⟨tg, iter, ifs, 0⟩] scope pos) spos) (tAsg (tLc wi g tt te (own.map (·.2))) (gName i)) := by
  refine ⟨fun pins s σ H D I h => ?_⟩
  rw [exec_Assign_Name_used _ _ _ _ hsw]
  refine wpAny_bind (wpAny_standAt (wpAny_bind ?_))
  show wpAny _ X.A (do let _ ← comprehension (.ListComp elt [⟨tg, iter, ifs, 0⟩] scope pos) scope X.env (firstIterPos [⟨tg, iter, ifs, 0⟩] pos) (newList []) false (eval iter X.env) (some (assign (.Name y py) X.env))) _ _ s
  have h : tLc wi g tt te (own.map (·.2)) σ H (fun x H1 => gName i x σ H1 D.nx) := h
  refine wpAny_bind (thn (lc_coreH (Qf := fun _ s' => SP X pins D .next s') hot hN I hi ok hg ht he hs h fun L C s' m H' I' q hn f => ?_) fun _ s' hq => wpAny_pure (wpAny_pure hq))
  show wpAny _ _ (assign (.Name y py) X.env (.ref L)) _ _ _
  refine wpAny_assign_Name (store_ok2 (v := V.ref L) I' hN hy (.inl hyl) rfl (fun s2 I2 ⟨a, sb, ha⟩ => ?_) (.inr hyl))
  obtain ⟨f0, f1, f2, f3, f4, f5⟩ := f
  have haC : C ≠ a := by
    rcases ha with z | z
    · rw [z]; exact f1
    · exact fun e => f4 y a z e.symm
  refine ⟨m, hn.sameBut sb haC, fun h3 sb3 => ?_⟩
  exact ⟨_, H', I2.turned (t' := s2.toks) (fun b o hb e => (sb3.2 b hb).trans e) f0 f1 f3 f4 f5, q⟩
end
end L2
namespace PD
open PySem PySem.Spec PyProof.Rows L2 L2H
variable [TN]
section
variable {X : Cx} {B : Addr → Prop} {H0 : Hp} {m m1 m2 : Bool} {sl sl' : List Sl} {e a b c tg iter elt : Expr} {es ifs : List Expr} {d d1 d2 da db : D} {ds : List D} {pos p p2 px : Pos} {P : Po} {st : Stmt} {rest body : List Stmt} {x y : Str} {scope : Scope} {own : List (Str × Nat)}
theorem js_setLcH {α : Type} {xs : List α} {g f : α → D} {t : α → Bool} {py : Pos} {spos : Pos} (ow : Bool) (i : Nat) (hot : HotC X) (hN : X.N.Nodup) (hy : X.N[i]? = some y) (hyl : X.env.scope.names.lookup y = some .local) (hsw : swapsWith (.ListComp elt [⟨tg, iter, ifs, 0⟩] scope pos) (some (.Name y py)) spos.line X.env = pure true)
    (ok : BlkOk X.N X.env.scope scope own) (hi : JIH X B H0 sl tg iter (xs.map g)) (h1 : ifs.length ≤ 1) (hb : LcB X scope (own.map (·.2)) sl tg elt ifs xs g f t) (hz : xs.length ≤ sizeLine)
    (h : P.nx (sl.set i (if ow then .ow (.lst ((xs.filter t).map f)) else .va (.lst ((xs.filter t).map f))))) (hs : ∀ x, foldedSetIterable iter X.env x = pure x := by intro _; rfl) : JS X B H0 sl (.Assign [.Name y py] (.ListComp elt [⟨tg, iter, ifs, 0⟩] scope pos) spos) P := ⟨fun gh as σ H S =>
  PSt (ps_setLcH hot hN hy hyl hsw pih_w ok (fun _ _ _ _ _ => pg_b) (fun _ _ _ _ _ => pts_b h1) (fun _ _ _ _ _ => pe_b) hs) (lc_readH hi hb hz S fun q H1 s1 hq r1 => by
    cases ow with
    | true => exact ⟨_, _, h, S.putO hq s1 r1⟩
    | false =>
      refine ⟨_, _, h, (S.same s1).put (r1.rp (fun z => ?_) fun b hb => .inl hb)⟩
      obtain ⟨o, ho⟩ := S.dom q z
      rw [hq] at ho
      cases ho)⟩

end
section
variable {X : Cx} {B : Addr → Prop} {H0 : Hp} {m m1 m2 : Bool} {sl sl' : List Sl} {e a b c tg iter elt : Expr} {es ifs : List Expr} {d d1 d2 da db : D} {ds dt : List D} {pos p p2 px : Pos} {P : Po} {st : Stmt} {rest body : List Stmt} {x y : Str} {scope : Scope} {own : List (Str × Nat)} {α β : Type} {f : α → D}
theorem jf_lc0H {xs : List α} {g : α → D} {en : β → D} {h : α → β} (hot : HotC X) (hN : X.N.Nodup) (ok : BlkOk X.N X.env.scope scope own) (hi : JIH X B H0 sl tg iter (xs.map g))
    (hb : ∀ x ∈ xs, ∃ sl', (∀ s H C cl fp B H0, JG (blkX X scope s H C cl fp) B H0 (own.map (·.2)) tg (g x) (wipeS sl (own.map (·.2))) sl') ∧ (∀ s H C cl fp B H0, JE (blkX X scope s H C cl fp) B H0 true sl' elt (en (h x)))) (hz : xs.length ≤ sizeLine)
    (hs : ∀ x, foldedSetIterable iter X.env x = pure x := by intro _; rfl) : JF X B H0 sl (.ListComp elt [⟨tg, iter, [], 0⟩] scope pos) (.lst ((xs.map h).map en)) := by
  have := jf_lcH (pos := pos) (X := X) (B := B) (H0 := H0) (sl := sl) (elt := elt) (ifs := []) (f := fun x => en (h x)) (t := fun _ => true) hot hN ok hi (by decide) (fun x hx => by
    obtain ⟨s', h1, h2⟩ := hb x hx
    exact ⟨s', h1, .nil, fun _ => h2⟩) hz hs
  rw [filter_tt] at this
  rw [List.map_map]
  exact this
theorem jf_lc1H {xs : List α} {g : α → D} {en : β → D} {h : α → β} {t : α → Bool} (hot : HotC X) (hN : X.N.Nodup) (ok : BlkOk X.N X.env.scope scope own) (hi : JIH X B H0 sl tg iter (xs.map g))
    (hb : ∀ x ∈ xs, ∃ sl', (∀ s H C cl fp B H0, JG (blkX X scope s H C cl fp) B H0 (own.map (·.2)) tg (g x) (wipeS sl (own.map (·.2))) sl') ∧ (∀ s H C cl fp B H0, JT (blkX X scope s H C cl fp) B H0 sl' c (t x)) ∧ (t x = true → ∀ s H C cl fp B H0, JE (blkX X scope s H C cl fp) B H0 true sl' elt (en (h x)))) (hz : xs.length ≤ sizeLine)
    (hs : ∀ x, foldedSetIterable iter X.env x = pure x := by intro _; rfl) : JF X B H0 sl (.ListComp elt [⟨tg, iter, [c], 0⟩] scope pos) (.lst (((xs.filter t).map h).map en)) := by
  have := jf_lcH (pos := pos) (X := X) (B := B) (H0 := H0) (sl := sl) (elt := elt) (ifs := [c]) (f := fun x => en (h x)) (t := t) hot hN ok hi (Nat.le_refl _) (fun x hx => by
    obtain ⟨s', h1, h2, h3⟩ := hb x hx
    exact ⟨s', h1, .one h2, h3⟩) hz hs
  rw [List.map_map]
  exact this
theorem js_lc0H {xs : List α} {g : α → D} {en : β → D} {h : α → β} {py spos : Pos} (ow : Bool) (i : Nat) (hot : HotC X) (hN : X.N.Nodup) (hy : X.N[i]? = some y) (hyl : X.env.scope.names.lookup y = some .local) (hsw : swapsWith (.ListComp elt [⟨tg, iter, [], 0⟩] scope pos) (some (.Name y py)) spos.line X.env = pure true) (ok : BlkOk X.N X.env.scope scope own) (hi : JIH X B H0 sl tg iter (xs.map g))
    (hb : ∀ x ∈ xs, ∃ sl', (∀ s H C cl fp B H0, JG (blkX X scope s H C cl fp) B H0 (own.map (·.2)) tg (g x) (wipeS sl (own.map (·.2))) sl') ∧ (∀ s H C cl fp B H0, JE (blkX X scope s H C cl fp) B H0 true sl' elt (en (h x)))) (hz : xs.length ≤ sizeLine)
    (k : P.nx (sl.set i (if ow then .ow (.lst ((xs.map h).map en)) else .va (.lst ((xs.map h).map en))))) (hs : ∀ x, foldedSetIterable iter X.env x = pure x := by intro _; rfl) : JS X B H0 sl (.Assign [.Name y py] (.ListComp elt [⟨tg, iter, [], 0⟩] scope pos) spos) P := by
  refine js_setLcH (f := fun x => en (h x)) (t := fun _ => true) ow i hot hN hy hyl hsw ok hi (by decide) (fun x hx => by
    obtain ⟨s', h1, h2⟩ := hb x hx
    exact ⟨s', h1, .nil, fun _ => h2⟩) hz ?_ hs
  rw [filter_tt]
  rw [List.map_map] at k
  exact k
theorem js_lc1H {xs : List α} {g : α → D} {en : β → D} {h : α → β} {t : α → Bool} {py spos : Pos} (ow : Bool) (i : Nat) (hot : HotC X) (hN : X.N.Nodup) (hy : X.N[i]? = some y) (hyl : X.env.scope.names.lookup y = some .local) (hsw : swapsWith (.ListComp elt [⟨tg, iter, [c], 0⟩] scope pos) (some (.Name y py)) spos.line X.env = pure true) (ok : BlkOk X.N X.env.scope scope own) (hi : JIH X B H0 sl tg iter (xs.map g))
    (hb : ∀ x ∈ xs, ∃ sl', (∀ s H C cl fp B H0, JG (blkX X scope s H C cl fp) B H0 (own.map (·.2)) tg (g x) (wipeS sl (own.map (·.2))) sl') ∧ (∀ s H C cl fp B H0, JT (blkX X scope s H C cl fp) B H0 sl' c (t x)) ∧ (t x = true → ∀ s H C cl fp B H0, JE (blkX X scope s H C cl fp) B H0 true sl' elt (en (h x)))) (hz : xs.length ≤ sizeLine)
    (k : P.nx (sl.set i (if ow then .ow (.lst (((xs.filter t).map h).map en)) else .va (.lst (((xs.filter t).map h).map en))))) (hs : ∀ x, foldedSetIterable iter X.env x = pure x := by intro _; rfl) : JS X B H0 sl (.Assign [.Name y py] (.ListComp elt [⟨tg, iter, [c], 0⟩] scope pos) spos) P := by
  refine js_setLcH (f := fun x => en (h x)) (t := t) ow i hot hN hy hyl hsw ok hi (Nat.le_refl _) (fun x hx => by
    obtain ⟨s', h1, h2, h3⟩ := hb x hx
    exact ⟨s', h1, .one h2, h3⟩) hz ?_ hs
  rw [List.map_map] at k
  exact k
end
section
variable {X : Cx} {B : Addr → Prop} {H0 : Hp} {m : Bool} {sl : List Sl} {o e : Expr} {apos pos : Pos}
theorem rpl_strs {K : PySem.W.Frag} {A : Addr → Prop} {H : Hp} : ∀ {ys : List Str} {xs : List V}, RpL K A H (ys.map D.str) xs → xs = ys.map V.str
  | [], _, h => h
  | c :: cs, _, h => by
    obtain ⟨x, r, rfl, h1, h2⟩ := h
    rw [rpl_strs h2, show x = .str c from h1]
    rfl
/-- sep.join(a list of texts) -/
theorem je_join {s : Str} {ys : List Str} (ho : JE X B H0 false sl o (.str s)) (he : JE X B H0 false sl e (.lst (ys.map .str))) (hz : (ys.map (·.length)).sum + ys.length * s.length ≤ 16777216)
    (hs : starEach [e] X.env = [(false, eval e X.env)] := by rfl) (hbase : attributeBase o "join" X.env (eval o X.env) = eval o X.env := by rfl) (hline : (apos.endLine == pos.line) = true := by rfl) :
    JE X B H0 m sl (.Call (.Attribute o "join" apos) [e] [] pos) (.str (Txt.join s ys)) := ⟨fun gh as σ H Q S q =>
  PEt (pe_join pe_w pe_w hs hbase hline) (ho.run gh as σ H _ S fun x H1 s1 r1 => ⟨⟨s, r1⟩, he.run gh as σ H1 _ (S.same s1) fun y H2 s2 r2 => by
    obtain ⟨p, xs, rfl, hT, _, hl⟩ := r2
    rw [rpl_strs hl] at hT
    cases (show x = .str s from r1)
    exact ⟨s, p, ys, rfl, rfl, .inl (.inl (.inl hT)), hz, q _ H2 (s1.trans s2) rfl⟩⟩)⟩
end
end PD
namespace PD
open PySem PySem.Spec PyProof.Rows L2
variable [TN]
theorem kor_nil {K : PySem.W.Frag} {t : Value} : PySem.W.kitAny K t (([] : List Addr).map Value.ref) = some false := rfl
theorem kor_cons {K : PySem.W.Frag} {t : Value} {c : Addr} {cs : List Addr} {b r : Bool} (h : PySem.W.kitOne K t (.ref c) = some b) (hr : PySem.W.kitAny K t (cs.map Value.ref) = some r) : PySem.W.kitAny K t ((c :: cs).map Value.ref) = some (b || r) := by
  show PySem.W.kitAny K t (.ref c :: cs.map Value.ref) = _
  unfold PySem.W.kitAny
  rw [h]
  cases b with
  | true => rfl
  | false => exact hr
end PD
namespace PD
open PySem PySem.Spec PyProof.Rows L2 L2H
variable [TN]
theorem roomE {j k : Nat} {A : Around} {h : Option Value} (r : Room k A) (l : j ≤ k) : RoomH j (A.mark h) := ⟨(r.mono l).dp, (r.mono l).un⟩
end PD
namespace PD
open PySem PySem.Spec PyProof.Rows L2
variable [TN]
section
variable {X : Cx} {B : Addr → Prop} {H0 : Hp} {m : Bool} {sl : List Sl} {o e : Expr} {ap cp : Pos} {α : Type} {f : α → D} {k : Nat}
theorem toPyL_get : ∀ {ds : List D} {j : Nat} {d : D}, ds[j]? = some d → (toPyL ds)[j]? = some (toPy d)
  | [], j, d, h => by simp at h
  | _ :: _, 0, d, h => by cases (Option.some.inj (show some _ = some d from h)); rfl
  | _ :: ds, j + 1, d, h => toPyL_get (ds := ds) (j := j) (d := d) (by simpa using h)
theorem toPyL_getx : ∀ {ds : List D} {j : Nat} {z : PyData}, (toPyL ds)[j]? = some z → ∃ d, ds[j]? = some d ∧ z = toPy d
  | [], j, z, h => by
    have : (toPyL [])[j]? = none := rfl
    rw [this] at h
    cases h
  | d :: _, 0, z, h => ⟨d, rfl, (Option.some.inj (show some (toPy d) = some z from h)).symm⟩
  | _ :: ds, j + 1, z, h => toPyL_getx (ds := ds) (j := j) (z := z) h
/-- l.index(e): the first place of an equal one -/
theorem je_indexM [DecidableEq α] {u : α} {xs : List α} {j : Nat} (hi : Inj f) (hr : Room k X.A) (ho : JE X B H0 false sl o (.lst (xs.map f))) (ha : JE X B H0 false sl e (f u)) (hu : xs[j]? = some u) (hno : ∀ i, i < j → xs[i]? ≠ some u) (h1 : ∀ u, pyOk 59 (f u) = true) (h0 : ∀ u, pyOk 60 (f u) = true)
    (hbase : attributeBase o "index" X.env (eval o X.env) = eval o X.env := by rfl)
    (hfew : ((backTo cp (starEach [e] X.env)).all (fun x => !x.1) && (backToKw cp (keywordEach [] X.env)).all (fun x => x.1.isSome) && decide ([e].length + ([] : List Keyword).length + (if ([] : List Keyword).isEmpty then 0 else 1) < 30)) = true := by rfl)
    (hline : (ap.endLine == cp.line) = true := by rfl) (hst : starEach [e] X.env = (false, eval e X.env) :: starEach [] X.env := by rfl) (hpl : (backTo cp (starEach [] X.env)).any (·.1) = false := by rfl) : JE X B H0 m sl (.Call (.Attribute o "index" ap) [e] [] cp) (.int (j : Int)) := ⟨fun gh as σ H Q S q =>
  PEt (pe_bm PySem.F.plainAttrs_list PySem.F.slot_list_index PySem.F.type_list_index (mt_indexD (by have := hr.un; omega)) pe_w (pa_cons pe_w pa_nil hst) hbase hfew hline hst hpl) (ho.run gh as σ H _ S fun x H1 s1 r1 => by
    obtain ⟨p, vs, rfl, hT, nA, hl⟩ := id r1
    refine ⟨Or.inl ⟨rfl, vs, .inl (.inl hT)⟩, ha.run gh as σ H1 _ (S.same s1) fun y H2 s2 r2 => ?_⟩
    have g1 : pyOk 60 (.lst (xs.map f)) = true := pyOk_lst h1 xs
    refine ⟨p, y, toPy (f u), toPyL (xs.map f), j, toPy (f u), rfl, rfl, toPy_rp (d := .lst (xs.map f)) g1 (r1.stp (.of s2)), toPy_rp (h0 u) r2, shaped_of (d := .lst (xs.map f)) g1 (by decide), shaped_of (h0 u) (by decide), toPyL_get (by rw [List.getElem?_map, hu]; rfl), (hi u u).mpr rfl, fun i z' hij hz => ?_, q _ H2 (s1.trans s2) rfl⟩
    obtain ⟨d', hd', rfl⟩ := toPyL_getx hz
    rw [List.getElem?_map] at hd'
    cases hx : xs[i]? with
    | none => rw [hx] at hd'; cases hd'
    | some v =>
      rw [hx] at hd'
      cases hd'
      refine Bool.eq_false_iff.mpr fun z => hno i hij ?_
      rw [hx, (hi v u).mp z])⟩
def idxI {α : Type} [DecidableEq α] (u : α) : List α → Nat
  | [] => 0
  | x :: xs => if x = u then 0 else idxI u xs + 1
theorem idx_ok [DecidableEq α] {u : α} : ∀ {xs : List α}, u ∈ xs → xs[idxI u xs]? = some u ∧ ∀ i, i < idxI u xs → xs[i]? ≠ some u
  | [], h => by cases h
  | x :: xs, h => by
    unfold idxI
    split
    · rename_i e
      subst e
      exact ⟨rfl, fun i hi => absurd hi (Nat.not_lt_zero i)⟩
    · rename_i e
      have h' : u ∈ xs := by
        rcases List.mem_cons.mp h with z | z
        · exact absurd z.symm e
        · exact z
      obtain ⟨a, b⟩ := idx_ok h'
      refine ⟨by simpa using a, fun i hi => ?_⟩
      cases i with
      | zero => simpa using e
      | succ i => simpa using b i (by omega)
theorem je_index [DecidableEq α] {u : α} {xs : List α} (hi : Inj f) (hr : Room k X.A) (ho : JE X B H0 false sl o (.lst (xs.map f))) (ha : JE X B H0 false sl e (f u)) (hu : u ∈ xs) (h1 : ∀ u, pyOk 59 (f u) = true) (h0 : ∀ u, pyOk 60 (f u) = true)
    (hbase : attributeBase o "index" X.env (eval o X.env) = eval o X.env := by rfl)
    (hfew : ((backTo cp (starEach [e] X.env)).all (fun x => !x.1) && (backToKw cp (keywordEach [] X.env)).all (fun x => x.1.isSome) && decide ([e].length + ([] : List Keyword).length + (if ([] : List Keyword).isEmpty then 0 else 1) < 30)) = true := by rfl)
    (hline : (ap.endLine == cp.line) = true := by rfl) (hst : starEach [e] X.env = (false, eval e X.env) :: starEach [] X.env := by rfl) (hpl : (backTo cp (starEach [] X.env)).any (·.1) = false := by rfl) : JE X B H0 m sl (.Call (.Attribute o "index" ap) [e] [] cp) (.int ((idxI u xs : Nat) : Int)) :=
  je_indexM hi hr ho ha (idx_ok hu).1 (idx_ok hu).2 h1 h0 hbase hfew hline hst hpl
theorem jf_listLI {a : Expr} {p pos : Pos} {da : D} {ds : List D} (hg : Gl X "list") (hm : X.mg "list" = none) (ha : JA X B H0 m sl [a] [da]) (hr : RdL da ds) (hi : immL ds = true) (he : starEach [a] X.env = (false, eval a X.env) :: starEach [] X.env := by rfl) (hpl : (backTo pos (starEach [] X.env)).any (·.1) = false := by rfl) : JF X B H0 sl (.Call (.Name "list" p) [a] [] pos) (.lst ds) :=
  jf_cty call_list_of hg hm boot_list ha (he := he) (hpl := hpl) fun as vs H Q r q => by
    obtain ⟨z, r', rfl, h1, h2⟩ := r
    cases (show r' = [] from h2)
    obtain ⟨t, xs, rfl, hs, hl⟩ := hr.seq h1
    exact ⟨t, xs, rfl, .inl hs, fun w hw => q w _ hw (Same.new hw) ⟨_, upd_same, (RpL.A1 (A := AOf B as) (hl.im hi) hw).stp (.of (Same.new hw))⟩⟩
theorem mu_revM {xs : List α} : ∀ A H q vs, H q = some (.lst vs) → RpL X.K A H (xs.map f) vs → MutV X.K A H q vs rReverse [] (.lst (xs.reverse.map f)) .non := by
  rw [List.map_reverse]
  exact mu_rev
theorem set_last {α : Type} {xs : List α} {z : α} (h : 0 < xs.length) : xs.set (xs.length - 1) z = xs.dropLast ++ [z] := by
  obtain ⟨ys, w, rfl⟩ : ∃ ys w, xs = ys ++ [w] := by
    have hne : xs ≠ [] := fun z => by rw [z] at h; exact absurd h (Nat.lt_irrefl _)
    exact ⟨xs.dropLast, xs.getLast hne, (List.dropLast_concat_getLast hne).symm⟩
  rw [List.dropLast_concat, List.length_append, List.length_singleton, Nat.add_sub_cancel, List.set_append_right _ _ (Nat.le_refl _), Nat.sub_self]
  rfl
/-- l[-1] = e -/
theorem js_setE {P : Po} {x : Str} {p pos sp : Pos} {ix : Expr} (i : Nat) {xs : List α} {z : α} (hN : X.N[i]? = some x) (hv : Vis X.env.scope x) (ho : sl[i]? = some (.ow (.lst (xs.map f)))) (he : JE X B H0 false sl e (f z)) (hm : imm (f z) = true) (hi : JE X B H0 false sl ix (.int (-1))) (h0 : 0 < xs.length) (h : P.nx (sl.set i (.ow (.lst ((xs.dropLast ++ [z]).map f)))))
    (hs : swapsWithSole [.Subscript (.Name x p) ix sp] e pos.line X.env = pure false := by rfl) (hw : swappedStores [.Subscript (.Name x p) ix sp] e X.env = pure none := by rfl) (hh : (assignEach [.Subscript (.Name x p) ix sp] X.env).map (·.2) = [assign (.Subscript (.Name x p) ix sp) X.env] := by rfl)
    (ha : ∀ v, assign (.Subscript (.Name x p) ix sp) X.env v = (do
      let ov ← holding [v] (eval (.Name x p) X.env)
      let iv ← holding [v, ov] (eval ix X.env)
      standAt sp
      holding [v, ov, iv] (setItem ov iv v)
      release [v, ov, iv] []) := by intro _; rfl) (hd : (x == ("__debug__" : Str)) = false := by decide) (hcd : (x == ("__classdict__" : Str)) = false := by decide) : JS X B H0 sl (.Assign [.Subscript (.Name x p) ix sp] e pos) P := by
  refine js_setI (n := xs.length - 1) i hN hv ho (he.im hm) hi ?_ (by rw [← List.map_set, set_last h0]; exact h) hs hw hh ha hd hcd
  unfold ixN
  rw [List.length_map, if_neg (by decide), if_pos (by omega)]
  congr 1
  omega
/-- a == b == c -/
theorem je_chD [DecidableEq α] {a b c : Expr} {x y z : α} {pos : Pos} (h : Inj f) (hr : Room k X.A) (ha : JE X B H0 false sl a (f x)) (hb : JE X B H0 false sl b (f y)) (hc : JE X B H0 false sl c (f z)) (h1 : ∀ u, pyOk 60 (f u) = true) (hm : lastMarks [.Eq, .Eq] [b, c] = false := by with_unfolding_all rfl) :
    JE X B H0 m sl (.Compare a [.Eq, .Eq] [b, c] pos) (.bl (decide (x = y) && decide (y = z))) := ⟨fun gh as σ H Q S q =>
  PEt (pe_chain (op_eqD hr.units) (op_eqD hr.units) pe_w pe_w pe_w (hm := hm)) (ha.run gh as σ H _ S fun v1 H1 s1 r1 => hb.run gh as σ H1 _ (S.same s1) fun v2 H2 s2 r2 =>
    ⟨toPy (f x), toPy (f y), toPy_rp (h1 x) (r1.stp (.of s2)), toPy_rp (h1 y) r2, shaped_of (h1 x) (by decide), shaped_of (h1 y) (by decide), deq (f x) (f y), rfl, by
      rw [h.eq x y]
      cases g : decide (x = y) with
      | true =>
        refine hc.run gh as σ H2 _ (S.same (s1.trans s2)) fun v3 H3 s3 r3 => ⟨toPy (f y), toPy (f z), toPy_rp (h1 y) (r2.stp (.of s3)), toPy_rp (h1 z) r3, shaped_of (h1 y) (by decide), shaped_of (h1 z) (by decide), ?_⟩
        have := q (.bl (decide (x = y) && decide (y = z))) H3 ((s1.trans s2).trans s3) rfl
        rw [g, ← h.eq y z] at this
        exact this
      | false =>
        have := q (.bl (decide (x = y) && decide (y = z))) H2 (s1.trans s2) rfl
        rw [g] at this
        exact this⟩)⟩
end
end PD
/-! texts: for over a text, str.count, in a tuple of texts -/
namespace PD
open PySem PySem.Spec PyProof.Rows L2
variable [TN]
def sgn (c : Nat) : Str := ⟨#[c]⟩
def chars (z : Str) : List Str := z.cps.toList.map sgn
section
variable {X : Cx} {B : Addr → Prop} {H0 : Hp} {m : Bool} {sl : List Sl} {o e tg a b : Expr} {apos pos : Pos} {k : Nat}
theorem ji_str {z : Str} (he : JE X B H0 false sl e (.str z)) : JI X B H0 sl tg e ((chars z).map D.str) := ⟨fun gh as σ H R S q => PIt (pi_str pe_w) (he.run gh as σ H _ S fun v H1 s1 r => by
  refine ⟨z, r, q _ H1 ([], [], []) s1 ⟨fun b u e => (by cases e), rfl⟩ ⟨fun A i H G hi => ?_, fun A H G => ?_⟩⟩
  · unfold chars at hi ⊢
    rw [List.length_map, List.length_map, Array.length_toList] at hi
    refine ⟨hi, fun x H' ⟨e, c, hc, hx⟩ => ?_⟩
    subst e
    refine ⟨Same.refl _, .str (sgn c), ?_, hx⟩
    rw [List.getElem?_map, List.getElem?_map, Array.getElem?_toList, hc]
    rfl
  · show z.cps.size ≤ _
    unfold chars
    rw [List.length_map, List.length_map, Array.length_toList]
    exact Nat.le_refl _)⟩
theorem chars_len (z : Str) : (chars z).length = z.length := by
  unfold chars
  rw [List.length_map, Array.length_toList]
  rfl
theorem je_count {z y : Str} (ho : JE X B H0 false sl o (.str z)) (he : JE X B H0 false sl e (.str y))
    (hs : starEach [e] X.env = [(false, eval e X.env)] := by rfl) (hbase : attributeBase o "count" X.env (eval o X.env) = eval o X.env := by rfl) (hline : (apos.endLine == pos.line) = true := by rfl) :
    JE X B H0 m sl (.Call (.Attribute o "count" apos) [e] [] pos) (.int (Txt.count z y)) := ⟨fun gh as σ H Q S q =>
  PEt (pe_m1 PySem.F.slot_str_count rfl mt_count pe_w pe_w hs hbase hline) (ho.run gh as σ H _ S fun x H1 s1 r1 => ⟨⟨z, r1⟩, he.run gh as σ H1 _ (S.same s1) fun y H2 s2 r2 => ⟨z, _, r1, by rw [r2], q _ H2 (s1.trans s2) rfl⟩⟩)⟩
theorem flat_strs : ∀ ns : List Str, (ns.map V.str).all flatV = true
  | [] => rfl
  | n :: ns => by
    rw [List.map_cons, List.all_cons, flat_strs ns]
    rfl
theorem rpl_strs2 {K : PySem.W.Frag} {A : Addr → Prop} {H : Hp} : ∀ {ns : List Str} {xs : List V}, RpL K A H (ns.map D.str) xs → xs = ns.map V.str := rpl_strs
theorem inV_strs (n : Str) : ∀ ns : List Str, inV (.str n) (ns.map V.str) = decide (n ∈ ns)
  | [] => rfl
  | k :: ns => by
    have ih := inV_strs n ns
    unfold inV at ih ⊢
    rw [List.map_cons, List.any_cons, ih]
    have e : eqV (.str k) (.str n) = decide (k = n) := by
      show (k == n) = _
      exact Bool.beq_eq_decide_eq k n
    rw [e]
    by_cases h : k = n
    · subst h; simp
    · have h' : ¬ n = k := fun z => h z.symm
      simp [h, h']
theorem je_inUS {n : Str} {ns : List Str} (hm : behindInMarks .In b = false) (ha : JE X B H0 false sl a (.str n)) (hb : JE X B H0 false sl b (.tup (ns.map .str))) : JE X B H0 m sl (.Compare a [.In] [b] pos) (.bl (decide (n ∈ ns))) := ⟨fun gh as σ H Q S q =>
  PEt (pe_cmpR op_in_seq pe_w pe_w hm) (ha.run gh as σ H _ S fun x H1 s1 r1 => hb.run gh as σ H1 _ (S.same s1) fun y H2 s2 r2 => by
    cases (show x = .str n from r1)
    obtain ⟨t, xs, rfl, ht, hx⟩ := r2
    rw [rpl_strs hx] at ht
    refine ⟨t, _, rfl, .inr (.inl (.inl ht)), rfl, flat_strs ns, ?_⟩
    show Q (.bl (inV (.str n) (ns.map V.str))) H2
    rw [inV_strs]
    exact q _ H2 (s1.trans s2) rfl)⟩
theorem je_ninUS {n : Str} {ns : List Str} (hm : behindInMarks .NotIn b = false) (ha : JE X B H0 false sl a (.str n)) (hb : JE X B H0 false sl b (.tup (ns.map .str))) : JE X B H0 m sl (.Compare a [.NotIn] [b] pos) (.bl (!decide (n ∈ ns))) := ⟨fun gh as σ H Q S q =>
  PEt (pe_cmpR op_notIn_seq pe_w pe_w hm) (ha.run gh as σ H _ S fun x H1 s1 r1 => hb.run gh as σ H1 _ (S.same s1) fun y H2 s2 r2 => by
    cases (show x = .str n from r1)
    obtain ⟨t, xs, rfl, ht, hx⟩ := r2
    rw [rpl_strs hx] at ht
    refine ⟨t, _, rfl, .inr (.inl (.inl ht)), rfl, flat_strs ns, ?_⟩
    show Q (.bl (!inV (.str n) (ns.map V.str))) H2
    rw [inV_strs]
    exact q _ H2 (s1.trans s2) rfl)⟩
theorem jt_inUS {n : Str} {ns : List Str} (hm : behindInMarks .In b = false) (ha : JE X B H0 false sl a (.str n)) (hb : JE X B H0 false sl b (.tup (ns.map .str))) : JT X B H0 sl (.Compare a [.In] [b] pos) (decide (n ∈ ns)) := ⟨fun gh as σ H Q S q =>
  PTt (pt_cmpR op_in_seq pe_w pe_w hm) (ha.run gh as σ H _ S fun x H1 s1 r1 => hb.run gh as σ H1 _ (S.same s1) fun y H2 s2 r2 => by
    cases (show x = .str n from r1)
    obtain ⟨t, xs, rfl, ht, hx⟩ := r2
    rw [rpl_strs hx] at ht
    refine ⟨t, _, rfl, .inr (.inl (.inl ht)), rfl, flat_strs ns, _, rfl, ?_⟩
    show Q (inV (.str n) (ns.map V.str)) H2
    rw [inV_strs]
    exact q H2 (s1.trans s2))⟩
theorem jt_ninUS {n : Str} {ns : List Str} (hm : behindInMarks .NotIn b = false) (ha : JE X B H0 false sl a (.str n)) (hb : JE X B H0 false sl b (.tup (ns.map .str))) : JT X B H0 sl (.Compare a [.NotIn] [b] pos) (!decide (n ∈ ns)) := ⟨fun gh as σ H Q S q =>
  PTt (pt_cmpR op_notIn_seq pe_w pe_w hm) (ha.run gh as σ H _ S fun x H1 s1 r1 => hb.run gh as σ H1 _ (S.same s1) fun y H2 s2 r2 => by
    cases (show x = .str n from r1)
    obtain ⟨t, xs, rfl, ht, hx⟩ := r2
    rw [rpl_strs hx] at ht
    refine ⟨t, _, rfl, .inr (.inl (.inl ht)), rfl, flat_strs ns, _, rfl, ?_⟩
    show Q (!inV (.str n) (ns.map V.str)) H2
    rw [inV_strs]
    exact q H2 (s1.trans s2))⟩
theorem je_geS {i j : Str} (ha : JE X B H0 false sl a (.str i)) (hb : JE X B H0 false sl b (.str j)) (hm : behindInMarks .GtE b = false := by rfl) : JE X B H0 m sl (.Compare a [.GtE] [b] pos) (.bl (!decide (i.cps.toList < j.cps.toList))) := ⟨fun gh as σ H Q S q =>
  PEt (pe_cmpR op_ge_str pe_w pe_w hm) (ha.run gh as σ H _ S fun x H1 s1 r1 => hb.run gh as σ H1 _ (S.same s1) fun y H2 s2 r2 => ⟨i, j, r1, r2, q _ H2 (s1.trans s2) rfl⟩)⟩
theorem jt_geS {i j : Str} (ha : JE X B H0 false sl a (.str i)) (hb : JE X B H0 false sl b (.str j)) (hm : behindInMarks .GtE b = false := by rfl) : JT X B H0 sl (.Compare a [.GtE] [b] pos) (!decide (i.cps.toList < j.cps.toList)) := ⟨fun gh as σ H Q S q =>
  PTt (pt_cmpR op_ge_str pe_w pe_w hm) (ha.run gh as σ H _ S fun x H1 s1 r1 => hb.run gh as σ H1 _ (S.same s1) fun y H2 s2 r2 => ⟨i, j, r1, r2, _, rfl, q H2 (s1.trans s2)⟩)⟩
theorem je_starts {z y : Str} (ho : JE X B H0 false sl o (.str z)) (he : JE X B H0 false sl e (.str y))
    (hs : starEach [e] X.env = [(false, eval e X.env)] := by rfl) (hbase : attributeBase o "startswith" X.env (eval o X.env) = eval o X.env := by rfl) (hline : (apos.endLine == pos.line) = true := by rfl) :
    JE X B H0 m sl (.Call (.Attribute o "startswith" apos) [e] [] pos) (.bl (Txt.startswith z y)) := ⟨fun gh as σ H Q S q =>
  PEt (pe_m1 PySem.F.slot_str_startswith rfl mt_startswith pe_w pe_w hs hbase hline) (ho.run gh as σ H _ S fun x H1 s1 r1 => ⟨⟨z, r1⟩, he.run gh as σ H1 _ (S.same s1) fun y H2 s2 r2 => ⟨z, _, r1, by rw [r2], q _ H2 (s1.trans s2) rfl⟩⟩)⟩
/-- a, b = l.pop(): an own list's method, its value unpacked -/
theorem js_methT0 {P : Po} {x : Str} {p : Pos} {ds : List D} {sl' : List Sl} {r : V → List V → Hp → VK → Prop} {nm : Str} {id : String} {ap cp : Pos} {d' dv : D} {vs : List Nat} (i : Nat) (slt : Slot "list" nm id) (hty : typeOf (.builtin id) = pure (.type "method_descriptor")) (hm : MtR X id r) (hN : X.N[i]? = some x) (hv : Vis X.env.scope x) (ho : sl[i]? = some (.ow (.lst ds)))
    (k : ∀ A H q xs, H q = some (.lst xs) → RpL X.K A H ds xs → MutV X.K A H q xs r [] d' dv) (hg : JG X B H0 vs tg dv (sl.set i (.ow d')) sl') (h : P.nx sl')
    (hs : swapsWithSole [tg] (.Call (.Attribute (.Name x p) nm ap) [] [] cp) pos.line X.env = pure false := by rfl) (hw : swappedStores [tg] (.Call (.Attribute (.Name x p) nm ap) [] [] cp) X.env = pure none := by rfl) (h1 : (assignEach [tg] X.env).map (·.2) = [assign tg X.env] := by rfl)
    (hd : (x == ("__debug__" : Str)) = false := by decide) (hcd : (x == ("__classdict__" : Str)) = false := by decide)
    (hbase : attributeBase (.Name x p) nm X.env (eval (.Name x p) X.env) = eval (.Name x p) X.env := by rfl) (hline : (ap.endLine == cp.line) = true := by rfl) : JS X B H0 sl (.Assign [tg] (.Call (.Attribute (.Name x p) nm ap) [] [] cp) pos) P := ⟨fun gh as σ H S => by
  obtain ⟨q, e1, e2, e3, xs, e4, e5⟩ := S.at ho
  refine PSt (ps_asg (pe_bm0 PySem.F.plainAttrs_list slt hty hm (pe_var hN hv hd hcd) hbase hline) pg_w hs hw h1) ⟨.ref q, e1, Or.inl ⟨rfl, xs, .inl (.inl e4)⟩, ?_⟩
  refine k (AOf B as) H q xs e4 e5 _ fun v zs g => ?_
  have st : Stp (AOf B as) H (upd H q (.lst zs)) := S.stpU e2 e4 (fun z => z)
  obtain ⟨g1, g2⟩ := g _ (fun b o hb hq => by rw [upd_ne hb]; exact hq) st upd_same
  exact hg.run gh as σ _ v _ (S.mut ho e1 g1) g2 fun as' σ' S' _ _ => ⟨as', _, h, S'⟩⟩
/-- an own list read as one that is own no more, within an expression -/
theorem je_fzE {d d' : D} {m1 : Bool} (i : Nat) (hs : sl[i]? = some (.ow d)) (h : JE X B H0 m1 (sl.set i (.va d)) e d') (hi : imm d' = true) : JE X B H0 m sl e d' := ⟨fun gh as σ H Q S q => h.run gh _ σ H Q (S.fz hs) fun v H' s r => q v H' s (r.im hi)⟩
theorem jt_fzE {d : D} {v : Bool} (i : Nat) (hs : sl[i]? = some (.ow d)) (h : JT X B H0 (sl.set i (.va d)) e v) : JT X B H0 sl e v := ⟨fun gh as σ H Q S q => h.run gh _ σ H Q (S.fz hs) q⟩
theorem str_len (z : Str) : z.length = z.cps.toList.length := by
  rw [Array.length_toList]; rfl
theorem atI_nat {l : List Nat} {k : Nat} {c : Nat} (h : l[k]? = some c) : atI l (k : Int) = some c := by
  have hk : k < l.length := (List.getElem?_eq_some_iff.mp h).1
  unfold atI ixN
  rw [if_pos (by omega), if_pos (by omega)]
  simpa using h
theorem str_app (x y : Str) : (x ++ y).cps.toList = x.cps.toList ++ y.cps.toList := by
  show (x.cps ++ y.cps).toList = _
  exact Array.toList_append
theorem str_app_len (x y : Str) : (x ++ y).length = x.length + y.length := by
  rw [str_len, str_len, str_len, str_app, List.length_append]
theorem cutS_len (z : Str) (lo hi : Option Int) : (cutS z lo hi).length ≤ z.length := by
  rw [str_len, str_len]
  unfold cutS
  simp only [List.length_take, List.length_drop]
  omega
end
end PD
/-! a list that stands within a list or a tuple is changed, by a def that was handed nothing that can be changed -/
namespace PD
open PySem PySem.Spec PyProof.Rows L2
variable [TN]
theorem execs_app (env : Env) (b : List Stmt) : ∀ a : List Stmt, execs (a ++ b) env = (execs a env >>= fun f => match f with | .next => execs b env | f => pure f)
  | [] => rfl
  | s :: a => by
    rw [List.cons_append, execs_cons, execs_cons, bind_assoc]
    congr 1
    funext f
    cases f <;> first | exact execs_app env b a | rfl
theorem wpAny_execs_app {M : Model} {A : Around} {E : Value → Shared → Prop} {s : Shared} {env : Env} {a b : List Stmt} {Q : Flow → Shared → Prop}
    (h : wpAny M A (execs a env) (fun f s' => match f with | .next => wpAny M A (execs b env) Q E s' | f => Q f s') E s) : wpAny M A (execs (a ++ b) env) Q E s := fun Γ p hΓ => by
  rw [execs_app, Sem.wp_bind']
  refine Sem.wp_mono M Γ _ (fun f p' s' h' => ?_) (fun _ _ _ h' => h') _ _ (h Γ p hΓ)
  cases f <;> first | exact h' Γ p' hΓ | exact h'
/-- statements behind which no iterator is held -/
structure JSs0 (X : Cx) (B : Addr → Prop) (H0 : Hp) (sl : List Sl) (st : List Stmt) (P : Po) : Prop where
  run : ∀ as σ H, SOK X.K B H0 [] as sl σ H → tSs X st (eo X.K B H0 [] P) σ H
section
variable {X : Cx} {B : Addr → Prop} {H0 : Hp} {sl sl' : List Sl} {P : Po} {sts rest : List Stmt} {st : Stmt} {d : D}
theorem jss0_of (h : JSs X B H0 sl sts P) : JSs0 X B H0 sl sts P := ⟨fun as σ H S => h.run [] as σ H S⟩
theorem jss0_take (n : Nat) (R : List Sl → Prop) (h1 : JSs X B H0 sl (sts.take n) { P with nx := R }) (h2 : ∀ s, R s → JSs0 X B H0 s (sts.drop n) P) : JSs0 X B H0 sl sts P := ⟨fun as σ H S pins s I => by
  have e : sts = sts.take n ++ sts.drop n := (List.take_append_drop n sts).symm
  rw [e]
  refine wpAny_execs_app (thn (h1.run [] as σ H S pins s I) fun f s' q => ?_)
  cases f with
  | next =>
    obtain ⟨σ', H', I', as', sl', p, S'⟩ := q
    exact (h2 sl' p).run as' σ' H' S' pins s' I'
  | ret v => exact q
  | brk => exact q
  | cont => exact q⟩
/-- nothing in the slots can be changed but what is the def's own -/
def staysB : List Sl → Bool
  | [] => true
  | .un :: l => staysB l
  | .va d :: l => imm d && staysB l
  | .ow (.lst ds) :: l => immL ds && staysB l
  | .ow (.dct _ ds) :: l => immL ds && staysB l
  | _ :: _ => false
structure Stays (sl : List Sl) : Prop where
  h : staysB sl = true
theorem stays_to {K : PySem.W.Frag} {A : Addr → Prop} {H H' : Hp} {q : Addr} (hq : ¬ A q) (e : ∀ b o, b ≠ q → H b = some o → H' b = some o) (ht : ∀ o, H q = some o → ¬ isT o) :
    ∀ {ss : List Sl} {σ : L2.St} {ws : Ow}, staysB ss = true → (∀ a, some a ∈ ws → A a) → SlsOK K A H ss σ ws → SlsOK K A H' ss σ ws := by
  have st : Stp (fun a => a = q) H H' := ⟨fun a o h c _ => by
    by_cases z : a = q
    · rcases c with c | c
      · exact absurd z c
      · subst z; exact absurd c (ht o h)
    · exact e a o z h⟩
  have r : ∀ {d v}, imm d = true → Rp K A H d v → Rp K A H' d v := fun {d v} i h => ((h.im (A' := fun a => a = q) i).stp st).im i
  have rl : ∀ {ds xs}, immL ds = true → RpL K A H ds xs → RpL K A H' ds xs := fun {ds xs} i h => ((h.im (A' := fun a => a = q) i).stp st).im i
  intro ss
  induction ss with
  | nil => exact fun _ _ h => h
  | cons s ss ih =>
    intro σ ws hs ha h
    obtain ⟨o, os, w, wr, e1, e2, h1, h2⟩ := h
    subst e2
    have hw := fun (hss : staysB ss = true) => ih hss (fun a m => ha a (List.mem_cons_of_mem _ m)) h2
    cases s with
    | un => exact ⟨o, os, w, wr, e1, rfl, h1, hw hs⟩
    | va d =>
      have hs' : (imm d && staysB ss) = true := hs
      rw [Bool.and_eq_true] at hs'
      obtain ⟨z, v, e3, e4⟩ := h1
      exact ⟨o, os, w, wr, e1, rfl, ⟨z, v, e3, r hs'.1 e4⟩, hw hs'.2⟩
    | ow d =>
      obtain ⟨a, e3, e4, e5⟩ := h1
      have na : a ≠ q := fun z => hq (z ▸ ha a (by rw [e4]; exact List.mem_cons_self))
      cases d with
      | lst ds =>
        have hs' : (immL ds && staysB ss) = true := hs
        rw [Bool.and_eq_true] at hs'
        obtain ⟨xs, g1, g2⟩ := e5
        exact ⟨o, os, w, wr, e1, rfl, ⟨a, e3, e4, xs, e _ _ na g1, rl hs'.1 g2⟩, hw hs'.2⟩
      | dct ks ds =>
        have hs' : (immL ds && staysB ss) = true := hs
        rw [Bool.and_eq_true] at hs'
        obtain ⟨xs, g1, g2, g3⟩ := e5
        exact ⟨o, os, w, wr, e1, rfl, ⟨a, e3, e4, xs, e _ _ na g1, g2, rl hs'.1 g3⟩, hw hs'.2⟩
      | _ => exact e5.elim
    | od ks ds => exact absurd hs (by intro z; cases z)
theorem SOK.mutV {K : PySem.W.Frag} {as : Ow} {σ : L2.St} {H : Hp} {q : Addr} {xs ys : List V} (S : SOK K B H0 [] as sl σ H) (hB : ∀ a o, H0 a = some o → B a) (hs : Stays sl) (hq : H q = some (.lst xs)) (nq : ¬ AOf B as q) : SOK K B H0 [] as sl σ (upd H q (.lst ys)) := by
  have h0 : H0 q = none := by
    cases h : H0 q with
    | none => rfl
    | some o => exact absurd (.inl (hB q o h)) nq
  refine ⟨S.ex.mut h0 hq (by intro _ z; cases z) (by intro _ z; cases z), S.base, S.own, S.inj, fun g hg => (by cases hg), stays_to nq (fun b o hb h => by rw [upd_ne hb]; exact h) (fun o h z => ?_) hs.h (fun a m => .inr m) S.sls⟩
  · rw [hq] at h
    cases h
    exact z
theorem SOK.un1 {K : PySem.W.Frag} {gh : Gh} {as : Ow} {σ : L2.St} {H : Hp} (S : SOK K B H0 gh as sl σ H) (i : Nat) : SOK K B H0 gh (as.set i none) (sl.set i .un) σ H := by
  have := S.drop (i := i) (o := σ[i]?.getD none)
  have e : σ.set i (σ[i]?.getD none) = σ := by
    apply List.ext_getElem?
    intro j
    by_cases z : i = j
    · subst z
      rw [List.getElem?_set]
      simp only [if_true]
      split
      · rename_i hl
        rw [List.getElem?_eq_getElem hl]
        rfl
      · rename_i hl
        rw [List.getElem?_eq_none_iff.mpr (by omega)]
    · rw [List.getElem?_set_ne z]
  rw [e] at this
  exact this
theorem set_va {as : Ow} {i : Nat} (h : as[i]? = some none) : as.set i none = as := by
  apply List.ext_getElem?
  intro j
  by_cases z : i = j
  · subst z
    rw [List.getElem?_set]
    simp only [if_true]
    split
    · exact h.symm
    · rename_i hl
      rw [List.getElem?_eq_none_iff.mpr (by omega)]
  · rw [List.getElem?_set_ne z]
end
section
variable {X : Cx} {B : Addr → Prop} {H0 : Hp} {sl : List Sl} {P : Po} {rest : List Stmt} {x : Str} {e o : Expr} {d : D} {ds : List D}
/-- o.append(e), o a list that stands in the slot i's value; that slot is not read again -/
theorem jss0_app {ap cp pos : Pos} (i : Nat) (hB : ∀ a o, H0 a = some o → B a) (ho : JE X B H0 true sl o (.lst ds)) (he : JE X B H0 false sl e d) (hl : ds.length < sizeLine) (hi : ∃ d0, sl[i]? = some (.va d0)) (hst : Stays (sl.set i .un)) (k : JSs X B H0 (sl.set i .un) rest P)
    (hs : swapsWith (.Call (.Attribute o "append" ap) [e] [] cp) none pos.line X.env = pure false := by rfl)
    (hbase : attributeBase o "append" X.env (eval o X.env) = eval o X.env := by rfl)
    (hfew : ((backTo cp (starEach [e] X.env)).all (fun x => !x.1) && (backToKw cp (keywordEach [] X.env)).all (fun x => x.1.isSome) && decide ([e].length + ([] : List Keyword).length + (if ([] : List Keyword).isEmpty then 0 else 1) < 30)) = true := by rfl)
    (hline : (ap.endLine == cp.line) = true := by rfl) (hst2 : starEach [e] X.env = (false, eval e X.env) :: starEach [] X.env := by rfl) (hpl : (backTo cp (starEach [] X.env)).any (·.1) = false := by rfl) :
    JSs0 X B H0 sl (.Expr (.Call (.Attribute o "append" ap) [e] [] cp) pos :: rest) P := ⟨fun as σ H S => by
  obtain ⟨d0, hi⟩ := hi
  have hw : as[i]? = some none := by
    obtain ⟨o, w, e1, e2, e3, _⟩ := S.sls.get hi
    rw [e3] at e2
    exact e2
  refine PSst (pss_cons (ps_expr (pe_bm PySem.F.plainAttrs_list PySem.F.slot_list_append PySem.F.type_list_append mt_append pe_w (pa_cons pe_w pa_nil hst2) hbase hfew hline hst2 hpl) hs) pss_w) ?_
  refine ho.run [] as σ H _ S fun v H1 s1 r1 => ?_
  obtain ⟨q, xs, rfl, hq, nq, hx⟩ := r1
  refine ⟨Or.inl ⟨rfl, xs, .inl (.inl hq)⟩, he.run [] as σ H1 _ (S.same s1) fun y H2 s2 r2 => ?_⟩
  refine ⟨q, xs, y, rfl, rfl, s2 _ _ hq, by rw [hx.len]; exact hl, ?_⟩
  have S2 := ((S.same s1).same s2).un1 i
  rw [set_va hw] at S2
  exact k.run [] as σ _ (S2.mutV hB hst (s2 _ _ hq) nq)⟩
/-- x[0].append(e), x[1].clear(), x a list of two lists of pairs; it is not read again -/
theorem jss0_app_clr {L0 L1 : List Q} {px px2 p0 p1 ap cp pos ap2 cp2 pos2 c0 c1 : Pos} {k0 k1 : Nat} (i : Nat) (hN : X.N[i]? = some x) (hv : Vis X.env.scope x) (hB : ∀ a o, H0 a = some o → B a) (hi : sl[i]? = some (.va (.lst [.lst (L0.map fr), .lst (L1.map fr)]))) (he : JE X B H0 false sl e d) (hl : L0.length < sizeLine) (hst : Stays (sl.set i .un)) (k : JSs X B H0 (sl.set i .un) rest P)
    (hd : (x == ("__debug__" : Str)) = false := by decide) (hcd : (x == ("__classdict__" : Str)) = false := by decide)
    (hs : swapsWith (.Call (.Attribute (.Subscript (.Name x px) (.Constant (.int 0) k0 c0) p0) "append" ap) [e] [] cp) none pos.line X.env = pure false := by rfl)
    (hbase : attributeBase (.Subscript (.Name x px) (.Constant (.int 0) k0 c0) p0) "append" X.env (eval (.Subscript (.Name x px) (.Constant (.int 0) k0 c0) p0) X.env) = eval (.Subscript (.Name x px) (.Constant (.int 0) k0 c0) p0) X.env := by rfl)
    (hfew : ((backTo cp (starEach [e] X.env)).all (fun x => !x.1) && (backToKw cp (keywordEach [] X.env)).all (fun x => x.1.isSome) && decide ([e].length + ([] : List Keyword).length + (if ([] : List Keyword).isEmpty then 0 else 1) < 30)) = true := by rfl)
    (hline : (ap.endLine == cp.line) = true := by rfl) (hst2 : starEach [e] X.env = (false, eval e X.env) :: starEach [] X.env := by rfl) (hpl : (backTo cp (starEach [] X.env)).any (·.1) = false := by rfl)
    (hs2 : swapsWith (.Call (.Attribute (.Subscript (.Name x px2) (.Constant (.int 1) k1 c1) p1) "clear" ap2) [] [] cp2) none pos2.line X.env = pure false := by rfl)
    (hbase2 : attributeBase (.Subscript (.Name x px2) (.Constant (.int 1) k1 c1) p1) "clear" X.env (eval (.Subscript (.Name x px2) (.Constant (.int 1) k1 c1) p1) X.env) = eval (.Subscript (.Name x px2) (.Constant (.int 1) k1 c1) p1) X.env := by rfl)
    (hline2 : (ap2.endLine == cp2.line) = true := by rfl) :
    JSs0 X B H0 sl (.Expr (.Call (.Attribute (.Subscript (.Name x px) (.Constant (.int 0) k0 c0) p0) "append" ap) [e] [] cp) pos :: .Expr (.Call (.Attribute (.Subscript (.Name x px2) (.Constant (.int 1) k1 c1) p1) "clear" ap2) [] [] cp2) pos2 :: rest) P := ⟨fun as σ H S => by
  obtain ⟨o, w, w1, w2, w3, v, w4, a, vs, rfl, ha, na, hvs⟩ := S.sls.get hi
  subst w4
  have hw : as[i]? = some none := by rw [w3] at w2; exact w2
  obtain ⟨v0, r0, rfl, ⟨q0, xs0, rfl, h0, n0, x0⟩, v1, r1, rfl, ⟨q1, xs1, rfl, h1, n1, x1⟩, rfl⟩ := hvs
  have ne : a ≠ q0 := fun z => by
    subst z
    rw [ha] at h0
    cases h0
    cases L0 with
    | nil => cases (show _ = [] from x0)
    | cons y L =>
      obtain ⟨z, r, e1, ⟨t, ys, e2, e3, _⟩, _⟩ := x0
      cases e1
      cases e2
      rw [ha] at e3
      cases e3
  refine PSst (pss_cons (ps_expr (pe_bm PySem.F.plainAttrs_list PySem.F.slot_list_append PySem.F.type_list_append mt_append (pe_ix ix_list (pe_var hN hv hd hcd) pe_int (fun _ _ => rfl)) (pa_cons pe_w pa_nil hst2) hbase hfew hline hst2 hpl) hs) pss_w) ?_
  refine ⟨.ref a, w1, a, _, 0, .ref q0, rfl, rfl, .inl (.inl ha), rfl, Or.inl ⟨rfl, xs0, .inl (.inl h0)⟩, he.run [] as σ H _ S fun y H2 s2 r2 => ?_⟩
  refine ⟨q0, xs0, y, rfl, rfl, s2 _ _ h0, by rw [x0.len, List.length_map]; exact hl, ?_⟩
  have S2 := (S.same s2).un1 i
  rw [set_va hw] at S2
  have S3 := S2.mutV (ys := xs0 ++ [y]) hB hst (s2 _ _ h0) n0
  have a3 : upd H2 q0 (.lst (xs0 ++ [y])) a = some (.lst [.ref q0, .ref q1]) := by rw [upd_ne ne]; exact s2 _ _ ha
  obtain ⟨zs, b3⟩ : ∃ zs, upd H2 q0 (.lst (xs0 ++ [y])) q1 = some (.lst zs) := by
    by_cases z : q1 = q0
    · rw [z]; exact ⟨_, upd_same⟩
    · rw [upd_ne z]; exact ⟨_, s2 _ _ h1⟩
  generalize upd H2 q0 (.lst (xs0 ++ [y])) = H3 at *
  show tSs X _ _ _ _
  refine PSst (pss_cons (ps_expr (pe_bm0 PySem.F.plainAttrs_list PySem.F.slot_list_clear PySem.F.type_list_clear mt_clear (pe_ix ix_list (pe_var hN hv hd hcd) pe_int (fun _ _ => rfl)) hbase2 hline2) hs2) pss_w) ?_
  refine ⟨.ref a, w1, a, _, 1, .ref q1, rfl, rfl, .inl (.inl a3), rfl, Or.inl ⟨rfl, zs, .inl (.inl b3)⟩, q1, zs, rfl, rfl, b3, ?_⟩
  exact k.run [] as σ _ (S3.mutV hB hst b3 n1)⟩
end
section
variable {P : Program} {w : World} {K : PySem.W.Frag} {mg : Str → Option Value} {base : Heap} {N ps : List Str} {qual x : Str} {st : Stmt} {f : Addr} {fd : FuncData} {k : Nat} {Fs : List D → Out → Prop}
/-- fn_ok of a def that is handed nothing that can be changed: all that stood at its begin is out of its reach -/
theorem fn_okN (F : Fun K x qual st f fd) (S : FnScope N ps (defScope st)) (hl : ∀ ds o, Fs ds o → ds.length = ps.length) (hx : ∀ ds c, ¬ Fs ds (.er c)) (hi : ∀ ds o, Fs ds o → immL ds = true)
    (body : ∀ cdv A outer s H E, Room k (A.deeper (envOfC qual (defScope st) s.heap.objs.size f cdv)) → ∀ (B : Addr → Prop), (∀ a o, H a = some o → B a) → ∀ ds o, Fs ds o → JSs0 (XOf P w K mg base N qual (defScope st) f cdv A outer s H E) B H (starts N ds) (defBody st) (PoOf o)) :
    FnOk P w K mg base CX0 (k + 1) f fd ps (spF K Fs) := by
  refine F.ok S (fun vs H Q E h => ?_) (fun cdv A outer s H vs Q E hr h => ?_)
  · obtain ⟨B, ds, o, hd, r, hF, _⟩ := h
    rw [r.len]
    exact hl ds o hF
  · obtain ⟨B, ds, o, hd, r0, hF, h1, h2, h3⟩ := h
    have r : RpL K (fun a => B a ∨ ∃ o, H a = some o) H ds vs := r0.im (hi ds o hF)
    have e0 : L2.start N vs = vs.map some ++ List.replicate (N.length - ds.length) none := by
      unfold L2.start
      rw [r.len]
    have S0 : SOK K (fun a => B a ∨ ∃ o, H a = some o) H [] (List.replicate (ds.length + (N.length - ds.length)) none) (starts N ds) (L2.start N vs) H := by
      refine ⟨Same.refl H, fun a h => h.elim (hd a) id, fun a h => ?_, fun i j a h => ?_, fun g h => (by cases h), ?_⟩
      · cases (List.mem_replicate.mp h).2
      · have := List.mem_of_getElem? h
        cases (List.mem_replicate.mp this).2
      · rw [e0]
        exact (starts_ok r _).to (fun h => h.anti noA) (fun h => h.anti noA) fun _ _ _ q _ => q
    refine ⟨_, pss_w, fun pins sh I => ?_⟩
    refine thn ((body cdv A outer s H E hr _ (fun a o h => .inr ⟨o, h⟩) ds o hF).run _ _ H S0 pins sh I) fun fl s' q => SPm q ?_ ?_ (fun _ _ ⟨_, _, z, _⟩ => z.elim) (fun _ _ ⟨_, _, z, _⟩ => z.elim)
    · rintro σ' H' ⟨as', sl', e, S'⟩
      exact h1 .non e .non H' S'.ex rfl
    · rintro v H' (⟨d, e, s1, r1⟩ | ⟨d, q, e, rfl, s1, hq, r1⟩)
      · exact h1 d e v H' s1 (r1.anti fun a h => .inl h)
      · have r2 : RpO K (A1 B q) H' q d := r1.to (fun _ z _ => z) fun h => h.anti fun a z => z.elim (fun y => .inl (.inl y)) .inr
        rcases e with e | e
        · exact h2 d e q H' s1 hq r2
        · exact h1 d e _ H' s1 (r2.rp (fun z => by
            obtain ⟨o, ho⟩ := hd q z
            rw [hq] at ho
            cases ho) fun b hb => .inl hb)
end
section
variable {X : Cx} {B : Addr → Prop} {H0 : Hp} {sl : List Sl} {e : Expr} {d : D} {ds : List D}
/-- a new list made of an own one, read as one that is own no more -/
theorem jf_fzE (i : Nat) (hs : sl[i]? = some (.ow d)) (h : JF X B H0 (sl.set i (.va d)) e (.lst ds)) (hi : immL ds = true) : JF X B H0 sl e (.lst ds) := ⟨fun gh as σ H Q S q => h.run gh _ σ H Q (S.fz hs) fun p H' s hp r => by
  obtain ⟨xs, e1, e2⟩ := r
  exact q p H' s hp ⟨xs, e1, e2.im hi⟩⟩
theorem stays_un {l : List Sl} (h : Stays l) : Stays (.un :: l) := ⟨h.h⟩
theorem stays_va {l : List Sl} {d : D} (h1 : imm d = true) (h : Stays l) : Stays (.va d :: l) := ⟨by
  show (imm d && staysB l) = true
  rw [h1, h.h]; rfl⟩
theorem stays_lst {l : List Sl} {ds : List D} (h1 : immL ds = true) (h : Stays l) : Stays (.ow (.lst ds) :: l) := ⟨by
  show (immL ds && staysB l) = true
  rw [h1, h.h]; rfl⟩
theorem stays_nil : Stays [] := ⟨rfl⟩
theorem and_t {a b : Bool} (h1 : a = true) (h2 : b = true) : (a && b) = true := by rw [h1, h2]; rfl
end
end PD
/-! texts, further: split, int of a text, a sign in a text; tuple(range(..)) -/
namespace PD
open PySem PySem.Spec PyProof.Rows L2
variable [TN]
section
variable {X : Cx} {B : Addr → Prop} {H0 : Hp} {m : Bool} {sl : List Sl} {o e tg a b : Expr} {apos pos p p2 q : Pos} {k : Nat}
theorem rpl_of_strs {K : PySem.W.Frag} {A : Addr → Prop} {H : Hp} : ∀ ns : List Str, RpL K A H (ns.map D.str) (ns.map V.str)
  | [] => rfl
  | n :: ns => ⟨_, _, rfl, rfl, rpl_of_strs ns⟩
theorem jf_split {z y : Str} (ho : JE X B H0 false sl o (.str z)) (he : JE X B H0 false sl e (.str y)) (hy : (y.length == 0) = false) (hz : z.length + 2 ≤ sizeLine)
    (hs : starEach [e] X.env = [(false, eval e X.env)] := by rfl) (hbase : attributeBase o "split" X.env (eval o X.env) = eval o X.env := by rfl) (hline : (apos.endLine == pos.line) = true := by rfl) :
    JF X B H0 sl (.Call (.Attribute o "split" apos) [e] [] pos) (.lst ((Txt.split z y).map D.str)) := ⟨fun gh as σ H Q S q =>
  PEt (pe_split pe_w pe_w hs hbase hline) (ho.run gh as σ H _ S fun x H1 s1 r1 => ⟨⟨z, r1⟩, he.run gh as σ H1 _ (S.same s1) fun y H2 s2 r2 => ⟨z, _, r1, by rw [r2], hy, hz, fun w hw => q w _ ((s1.trans s2).trans (Same.new hw)) ((s1.trans s2).free hw) ⟨_, upd_same, rpl_of_strs _⟩⟩⟩)⟩
theorem je_intT {z : Str} {n : Int} (hg : Gl X "int") (hm : X.mg "int" = none) (ha : JA X B H0 false sl [a] [.str z]) (hn : PySem.intText? z = some n) (hl : z.length ≤ 640) (he : starEach [a] X.env = (false, eval a X.env) :: starEach [] X.env := by rfl) (hpl : (backTo pos (starEach [] X.env)).any (·.1) = false := by rfl) : JE X B H0 m sl (.Call (.Name "int" p) [a] [] pos) (.int n) :=
  je_cty call_int_str hg hm boot_int ha (he := he) (hpl := hpl) fun as vs H Q r q => by
    obtain ⟨x, r', rfl, h1, h2⟩ := r
    cases (show x = .str z from h1); cases (show r' = [] from h2)
    exact ⟨z, n, rfl, hn, hl, q _ H (Same.refl H) rfl⟩
theorem je_inSc {c : Nat} {z : Str} (ha : JE X B H0 false sl a (.str (sgn c))) (hb : JE X B H0 false sl b (.str z)) (hm : behindInMarks .In b = false := by rfl) : JE X B H0 m sl (.Compare a [.In] [b] pos) (.bl (decide (c ∈ z.cps.toList))) := ⟨fun gh as σ H Q S q =>
  PEt (pe_cmpR op_in_sign pe_w pe_w hm) (ha.run gh as σ H _ S fun x H1 s1 r1 => hb.run gh as σ H1 _ (S.same s1) fun y H2 s2 r2 => ⟨c, z, r1, r2, q _ H2 (s1.trans s2) rfl⟩)⟩
theorem jt_ninSc {c : Nat} {z : Str} (ha : JE X B H0 false sl a (.str (sgn c))) (hb : JE X B H0 false sl b (.str z)) (hm : behindInMarks .NotIn b = false := by rfl) : JT X B H0 sl (.Compare a [.NotIn] [b] pos) (!decide (c ∈ z.cps.toList)) := ⟨fun gh as σ H Q S q =>
  PTt (pt_cmpR op_notIn_sign pe_w pe_w hm) (ha.run gh as σ H _ S fun x H1 s1 r1 => hb.run gh as σ H1 _ (S.same s1) fun y H2 s2 r2 => ⟨c, z, r1, r2, _, rfl, q H2 (s1.trans s2)⟩)⟩
theorem je_ninSc {c : Nat} {z : Str} (ha : JE X B H0 false sl a (.str (sgn c))) (hb : JE X B H0 false sl b (.str z)) (hm : behindInMarks .NotIn b = false := by rfl) : JE X B H0 m sl (.Compare a [.NotIn] [b] pos) (.bl (!decide (c ∈ z.cps.toList))) := ⟨fun gh as σ H Q S q =>
  PEt (pe_cmpR op_notIn_sign pe_w pe_w hm) (ha.run gh as σ H _ S fun x H1 s1 r1 => hb.run gh as σ H1 _ (S.same s1) fun y H2 s2 r2 => ⟨c, z, r1, r2, q _ H2 (s1.trans s2) rfl⟩)⟩
theorem rpl_rg {K : PySem.W.Frag} {A : Addr → Prop} {H : Hp} (n : Nat) : RpL K A H ((rngT 0 n).map D.int) (rgV 0 (n : Int)) := by
  rw [rpl_ints]
  unfold rgV rngT
  rw [List.map_map, show ((n : Int) - 0).toNat = n by omega]
  exact List.map_congr_left fun k _ => by first | rfl | (show V.int _ = V.int _; congr 1; omega)
/-- tuple(range(n)) -/
theorem je_tupRg {i : Int} (hc : X.calm = true) (hg : Gl X "tuple") (hm : X.mg "tuple" = none) (hg2 : Gl X "range") (hm2 : X.mg "range" = none) (ha : JE X B H0 false sl a (.int i)) (h0 : 0 ≤ i) (h1 : i ≤ 1000000)
    (na2 : starEach [a] X.env = (false, eval a X.env) :: starEach [] X.env := by rfl) (na : starEach [.Call (.Name "range" p2) [a] [] q] X.env = (false, eval (.Call (.Name "range" p2) [a] [] q) X.env) :: starEach [] X.env := by rfl) :
    JE X B H0 m sl (.Call (.Name "tuple" p) [.Call (.Name "range" p2) [a] [] q] [] pos) (.tup ((rngT 0 i.toNat).map D.int)) := ⟨fun gh as σ H Q S w =>
  PEt (pe_tupRg hc hg hm (prg_1 hg2 hm2 pe_w na2) na) (ha.run gh as σ H _ S fun v H1 s1 r1 => ⟨i, r1, RgOk.of_le (by decide) (by omega) (by decide) h0, fun t ht => w _ _ (s1.trans (Same.new ht)) ⟨t, _, rfl, upd_same, (by
    have := rpl_rg (K := X.K) (A := Av B as m) (H := upd H1 t (.tup (rgV 0 i))) i.toNat
    rw [show ((i.toNat : Nat) : Int) = i from by omega] at this
    exact this)⟩⟩)⟩
end
end PD
/-! list.insert; dicts told place by place -/
namespace PD
open PySem PySem.Spec PyProof.Rows L2
variable [TN]
section
variable {X : Cx} {α : Type} {f : α → D}
theorem mu_insM {xs : List α} {i : Int} {z : α} (h0 : 0 ≤ i) (h1 : i < 2 ^ 63) (hl : xs.length < sizeLine) : ∀ A H q us vs, H q = some (.lst us) → RpL X.K A H (xs.map f) us → RpL X.K A H [.int i, f z] vs →
    MutV X.K A H q us (fun x vs H Q => ∃ (l : Addr) (xs : List V) (i : Int) (y : V), x = .ref l ∧ vs = [.int i, y] ∧ H l = some (.lst xs) ∧ xs.length < sizeLine ∧ 0 ≤ i ∧ i < 2 ^ 63 ∧ Q .non (upd H l (.lst (xs.take i.toNat ++ [y] ++ xs.drop i.toNat)))) vs (.lst ((xs.take i.toNat ++ z :: xs.drop i.toNat).map f)) .non := fun A H q us vs hq hx hv Q g => by
  obtain ⟨a, r, rfl, ha, y, r2, rfl, hy, hr⟩ := hv
  cases (show r2 = [] from hr)
  cases (show a = .int i from ha)
  refine ⟨q, us, i, y, rfl, rfl, hq, by rw [hx.len, List.length_map]; exact hl, h0, h1, g _ _ fun H' k st e => ⟨⟨_, e, ?_⟩, rfl⟩⟩
  rw [List.map_append, List.map_cons, List.map_take, List.map_drop, List.append_assoc]
  exact ((hx.stp st).take _).app ⟨y, _, rfl, hy.stp st, (hx.stp st).drop _⟩
/-- a dict with a value for each of some keys -/
def tabD (g : Q → α) (l : List Q) : List (Q × α) := l.foldl (fun D e => dput D e (g e)) []
theorem tabD_snoc (g : Q → α) (l : List Q) (e : Q) : tabD g (l ++ [e]) = dput (tabD g l) e (g e) := by
  unfold tabD
  rw [List.foldl_append]
  rfl
theorem tabD_get {g : Q → α} : ∀ {l : List Q} {e : Q}, dget (tabD g l) e = if e ∈ l then some (g e) else none := by
  have key : ∀ (l : List Q) (D : List (Q × α)) (e : Q), dget (l.foldl (fun D e => dput D e (g e)) D) e = if e ∈ l then some (g e) else dget D e := by
    intro l
    induction l with
    | nil => intro D e; simp
    | cons x l ih =>
      intro D e
      rw [List.foldl_cons, ih, dget_put]
      by_cases h1 : e ∈ l
      · rw [if_pos h1, if_pos (List.mem_cons_of_mem _ h1)]
      · rw [if_neg h1]
        by_cases h2 : e = x
        · rw [if_pos h2, h2, if_pos List.mem_cons_self]
        · rw [if_neg h2, if_neg (fun z => (List.mem_cons.mp z).elim h2 h1)]
  intro l e
  exact key l [] e
theorem tabD_in {g : Q → α} {l : List Q} {e : Q} (h : e ∈ l) : dget (tabD g l) e = some (g e) := by rw [tabD_get, if_pos h]
theorem tabD_len (g : Q → α) : ∀ l : List Q, (tabD g l).length ≤ l.length := by
  have key : ∀ (l : List Q) (D : List (Q × α)), (l.foldl (fun D e => dput D e (g e)) D).length ≤ D.length + l.length := by
    intro l
    induction l with
    | nil => intro D; exact Nat.le_refl _
    | cons x l ih =>
      intro D
      have h1 := ih (dput D x (g x))
      have h2 := dput_len D x (g x)
      rw [List.foldl_cons, List.length_cons]
      omega
  intro l
  have := key l []
  rw [List.length_nil, Nat.zero_add] at this
  exact this
end
end PD
/-! three comparisons in a row -/
namespace PD
open PySem PySem.Spec PyProof.Rows L2
variable [TN]
section
variable {X : Cx} {B : Addr → Prop} {H0 : Hp} {m : Bool} {sl : List Sl} {a b c d : Expr} {pos : Pos} {ta tb tc td : TE}
def tChain3 (r r' r2 : R2) (ta tb tc td : TE) : TE := fun σ H Q => ta σ H fun x H1 => tb σ H1 fun y H2 => r x y H2 fun z H3 => ∃ k, z = .bl k ∧
  (if k = true then tc σ H3 fun w H4 => r' y w H4 fun z2 H5 => ∃ k2, z2 = .bl k2 ∧ (if k2 = true then td σ H5 fun w3 H6 => r2 w w3 H6 Q else Q (.bl false) H5) else Q (.bl false) H3)
theorem pt_chain3 {op op' op2 : CmpOp} {r r' r2 : R2} (ho : OpR X (compareOp op) r) (ho' : OpR X (compareOp op') r') (ho2 : OpR X (compareOp op2) r2) (ha : PE X a ta) (hb : PE X b tb) (hc : PE X c tc) (hd : PE X d td)
    (hm : lastMarks [op, op', op2] [b, c, d] = false := by with_unfolding_all rfl) : PT X (.Compare a [op, op', op2] [b, c, d] pos) (tTest (tChain3 r r' r2 ta tb tc td)) := by
  refine ⟨fun pins s σ H Q I h => ?_⟩
  refine isTrue_chain (thn (ha.run pins s σ H _ I h) fun v s1 ⟨x, H1, I1, r1, q1⟩ => test_link (thn (hb.run pins s1 σ H1 _ I1 q1) fun u s2 ⟨y, H2, I2, r2, q2⟩ =>
    thn (ho pins s2 σ H2 x y v u _ I2 r1 r2 q2) fun d s3 ⟨z, H3, I3, r3, k, e, q3⟩ => ?_)) hm
  subst e
  cases r3
  refine wpAny_truthy_bool ?_
  cases k with
  | false =>
    obtain ⟨k', e', q'⟩ := q3
    cases e'
    exact ite_ff ⟨H3, I3, q'⟩
  | true =>
    refine ite_tt (test_link (thn (hc.run pins s3 σ H3 _ I3 q3) fun w' s4 ⟨z', H4, I4, r4, q4⟩ => thn (ho' pins s4 σ H4 y z' u w' _ I4 r2 r4 q4) fun d' s5 ⟨z2, H5, I5, r5, k2, e2, q5⟩ => ?_))
    subst e2
    cases r5
    refine wpAny_truthy_bool ?_
    cases k2 with
    | false =>
      obtain ⟨k', e', q'⟩ := q5
      cases e'
      exact ite_ff ⟨H5, I5, q'⟩
    | true =>
      refine ite_tt (test_last (thn (hd.run pins s5 σ H5 _ I5 q5) fun w3 s6 ⟨z3, H6, I6, r6, q6⟩ => thn (ho2 pins s6 σ H6 z' z3 w' w3 _ I6 r4 r6 q6) fun d3 s7 ⟨z4, H7, I7, r7, k3, e3, q7⟩ => ?_))
      subst e3
      cases r7
      exact wpAny_truthy_bool ⟨H7, I7, q7⟩
theorem pe_chain3 {op op' op2 : CmpOp} {r r' r2 : R2} (ho : OpR X (compareOp op) r) (ho' : OpR X (compareOp op') r') (ho2 : OpR X (compareOp op2) r2) (ha : PE X a ta) (hb : PE X b tb) (hc : PE X c tc) (hd : PE X d td)
    (hm : lastMarks [op, op', op2] [b, c, d] = false := by with_unfolding_all rfl) : PE X (.Compare a [op, op', op2] [b, c, d] pos) (tChain3 r r' r2 ta tb tc td) := by
  refine ⟨fun pins s σ H Q I h => ?_⟩
  refine Compare_chain (thn (ha.run pins s σ H _ I h) fun v s1 ⟨x, H1, I1, r1, q1⟩ => chain_link (thn (hb.run pins s1 σ H1 _ I1 q1) fun u s2 ⟨y, H2, I2, r2, q2⟩ =>
    thn (ho pins s2 σ H2 x y v u _ I2 r1 r2 q2) fun d s3 ⟨z, H3, I3, r3, k, e, q3⟩ => ?_)) hm
  subst e
  cases r3
  refine wpAny_truthy_bool ?_
  cases k with
  | false => exact ite_ff ⟨.bl false, H3, I3, rfl, q3⟩
  | true =>
    refine ite_tt (chain_link (thn (hc.run pins s3 σ H3 _ I3 q3) fun w' s4 ⟨z', H4, I4, r4, q4⟩ => thn (ho' pins s4 σ H4 y z' u w' _ I4 r2 r4 q4) fun d' s5 ⟨z2, H5, I5, r5, k2, e2, q5⟩ => ?_))
    subst e2
    cases r5
    refine wpAny_truthy_bool ?_
    cases k2 with
    | false => exact ite_ff ⟨.bl false, H5, I5, rfl, q5⟩
    | true => exact ite_tt (chain_last (thn (hd.run pins s5 σ H5 _ I5 q5) fun w3 s6 ⟨z3, H6, I6, r6, q6⟩ => ho2 pins s6 σ H6 z' z3 w' w3 Q I6 r4 r6 q6))
theorem jt_ch3 {op op' op2 : CmpOp} {g g' g2 : Int → Int → Bool} {i j k l : Int} (ho : OpR X (compareOp op) (rI0 fun i j => .bl (g i j))) (ho' : OpR X (compareOp op') (rI0 fun i j => .bl (g' i j))) (ho2 : OpR X (compareOp op2) (rI0 fun i j => .bl (g2 i j)))
    (ha : JE X B H0 false sl a (.int i)) (hb : JE X B H0 false sl b (.int j)) (hc : JE X B H0 false sl c (.int k)) (hd : JE X B H0 false sl d (.int l)) (hm : lastMarks [op, op', op2] [b, c, d] = false := by with_unfolding_all rfl) : JT X B H0 sl (.Compare a [op, op', op2] [b, c, d] pos) (g i j && (g' j k && g2 k l)) := ⟨fun gh as σ H Q S q =>
  PTt (pt_chain3 ho ho' ho2 pe_w pe_w pe_w pe_w (hm := hm)) (ha.run gh as σ H _ S fun x H1 s1 r1 => hb.run gh as σ H1 _ (S.same s1) fun y H2 s2 r2 => ⟨i, j, r1, r2, g i j, rfl, by
    cases h : g i j with
    | true =>
      refine hc.run gh as σ H2 _ (S.same (s1.trans s2)) fun z H3 s3 r3 => ⟨j, k, r2, r3, g' j k, rfl, ?_⟩
      cases h2 : g' j k with
      | true =>
        refine hd.run gh as σ H3 _ (S.same ((s1.trans s2).trans s3)) fun z2 H4 s4 r4 => ⟨k, l, r3, r4, _, rfl, ?_⟩
        have := q H4 (((s1.trans s2).trans s3).trans s4)
        rw [h, h2] at this
        exact this
      | false =>
        have := q H3 ((s1.trans s2).trans s3)
        rw [h, h2] at this
        exact ⟨false, rfl, this⟩
    | false =>
      have := q H2 (s1.trans s2)
      rw [h] at this
      exact ⟨false, rfl, this⟩⟩)⟩
theorem je_ch3 {op op' op2 : CmpOp} {g g' g2 : Int → Int → Bool} {i j k l : Int} (ho : OpR X (compareOp op) (rI0 fun i j => .bl (g i j))) (ho' : OpR X (compareOp op') (rI0 fun i j => .bl (g' i j))) (ho2 : OpR X (compareOp op2) (rI0 fun i j => .bl (g2 i j)))
    (ha : JE X B H0 false sl a (.int i)) (hb : JE X B H0 false sl b (.int j)) (hc : JE X B H0 false sl c (.int k)) (hd : JE X B H0 false sl d (.int l)) (hm : lastMarks [op, op', op2] [b, c, d] = false := by with_unfolding_all rfl) : JE X B H0 m sl (.Compare a [op, op', op2] [b, c, d] pos) (.bl (g i j && (g' j k && g2 k l))) := ⟨fun gh as σ H Q S q =>
  PEt (pe_chain3 ho ho' ho2 pe_w pe_w pe_w pe_w (hm := hm)) (ha.run gh as σ H _ S fun x H1 s1 r1 => hb.run gh as σ H1 _ (S.same s1) fun y H2 s2 r2 => ⟨i, j, r1, r2, g i j, rfl, by
    cases h : g i j with
    | true =>
      refine hc.run gh as σ H2 _ (S.same (s1.trans s2)) fun z H3 s3 r3 => ⟨j, k, r2, r3, g' j k, rfl, ?_⟩
      cases h2 : g' j k with
      | true =>
        refine hd.run gh as σ H3 _ (S.same ((s1.trans s2).trans s3)) fun z2 H4 s4 r4 => ⟨k, l, r3, r4, ?_⟩
        have := q (.bl (g i j && (g' j k && g2 k l))) H4 (((s1.trans s2).trans s3).trans s4) rfl
        rw [h, h2] at this
        exact this
      | false =>
        have := q (.bl (g i j && (g' j k && g2 k l))) H3 ((s1.trans s2).trans s3) rfl
        rw [h, h2] at this
        exact this
    | false =>
      have := q (.bl (g i j && (g' j k && g2 k l))) H2 (s1.trans s2) rfl
      rw [h] at this
      exact this⟩)⟩
end
end PD
/-! a for over a call that raises -/
namespace PD
open PySem PySem.Spec PyProof.Rows L2
variable [TN]
section
variable {X : Cx} {B : Addr → Prop} {H0 : Hp} {sl : List Sl} {tg iter : Expr} {body : List Stmt} {pos : Pos} {P : Po}
theorem js_forX (hp : PassesOwn (model X.prog X.w) X.A X.env X.xe) (hc : X.calm = true) (h : JX X B H0 sl iter) (hfs : ∀ x, foldedSetIterable iter X.env x = pure x := by intro _; rfl) : JS X B H0 sl (.For tg iter body [] pos) P :=
  ⟨fun gh as σ H S => PSt (ps_for hp hc (pi_list pe_w) pg_w pss_w hfs) (h.run gh as σ H _ S)⟩
end
end PD
/-! sorted(set(a tuple)), reversed(range(..)) -/
namespace PD
open PySem PySem.Spec PyProof.Rows L2
variable [TN]
section
variable {P : Program} {w : World} {A : Around} {E : Value → Shared → Prop} {s : Shared}
/-- the filling of the new set out of a tuple -/
theorem set_init_tupI {l : Addr} {items : Array Value} {ns : List Int} {Q : Value → Shared → Prop} (hh : A.handled = none) (hl : s.heap.IsTuple l items) (hit : IntsAre items.toList ns) (hb : ns.length + 1 < scanBound)
    (h : ∀ (h' : Heap) (tk c : Nat), SetR w h' s.heap.objs.size (fun j => decide (j ∈ ns)) c → c ≤ ns.length → (∀ b o, s.heap.get? b = some o → h'.get? b = some o) → Q .none { s with heap := h', toks := tk }) :
    wpAny (model P w) A (Builtin.«set.__init__» ⟨[.ref s.heap.objs.size, .ref l], []⟩) (fun fin s' => ∃ v, fin = .done (.ret v) ∧ Q v s') E { s with heap := s.heap.push (eSet w) } := by
  have hS : (s.heap.push (eSet w)).get? s.heap.objs.size = some (eSet w) := Heap.get?_push_size _ rfl
  have hsz : items.size = ns.length := by
    have q := IntsAre.length hit
    rw [Array.length_toList] at q
    exact q
  obtain ⟨⟨c0, d0, u0, f0⟩, ho, hc0, n0, hu0⟩ := hl
  cases hc0
  cases hu0
  have ho' : (s.heap.push (eSet w)).get? l = some { cls := .type "tuple", dict := d0, data := .seq items n0, slots := f0 } := Heap.get?_push_of_some _ ho
  have k1 := F.sub_tuple_set
  have k2 := F.sub_tuple_frozenset
  have k3 : (Value.type "tuple" == Value.type "dict") = false := by decide
  have hl1 : (s.heap.push (eSet w)).IsTuple l items := ⟨_, ho', rfl, n0, rfl⟩
  unfold eSet at hS ho' hl1 ⊢
  unfold Builtin.«set.__init__» noKeywords Builtin.Frozenset.updateFrom
  generalize hPI : pyIter = PI
  wp_walk
  subst hPI
  refine wpAny_pyIter_tuple hl1 (wpAny_bind (wpAny_runValue ?_))
  have lt : l < s.heap.objs.size := Heap.lt_size ho
  have h3 : A.in1.handled = none := by simp [hh]
  generalize hN : s.heap.objs.size = N at *
  have hz : (s.heap.push { cls := .type "set", dict := none, data := .set #[] 0 (.fresh 0 0 (!w.params.followText "set-order")) }).objs.size = N + 1 := by rw [Heap.size_push, hN]
  rw [hz]
  have ne1 : l ≠ N + 1 := Nat.ne_of_lt (Nat.lt_succ_of_lt lt)
  have nf : N ∉ [N + 1, l] := by
    simp only [List.mem_cons, List.not_mem_nil, or_false, not_or]
    exact ⟨Nat.ne_of_lt (Nat.lt_succ_self _), Nat.ne_of_gt lt⟩
  have at_ : ∀ (i : Nat) (v : Value), items[i]? = some v → ∃ k t, ns[i]? = some k ∧ v = .int k t := fun i v hv => by
    have hi : i < ns.length := hsz ▸ (Array.getElem?_eq_some_iff.mp hv).1
    obtain ⟨t, e⟩ := PyProof.Rows.IntsAre.int_at hit i v (by rw [Array.getElem?_toList]; exact hv)
    exact ⟨ns[i], t, List.getElem?_eq_getElem hi, by rw [e, List.getD_eq_getElem?_getD, List.getElem?_eq_getElem hi]; rfl⟩
  refine set_update_ints ((Walks.tuple h3 _ l ne1 items).toS) N nf ns hsz hb at_ (items.size - 0) 0 _ (by omega) (Nat.zero_le _) ⟨⟨_, by rw [← hz]; exact Heap.get?_push_size _ rfl, rfl, rfl⟩, hl1.push _⟩ ⟨0, Nat.le_refl 0, setR_new_at (Heap.get?_push_of_some _ hS)⟩ fun s' c' mv hc' hS' => ?_
  obtain ⟨h', g2, d', tk', os'⟩ := s'
  cases mv.gens
  cases mv.drawn
  cases mv.os
  show wpAny _ _ (pure ()) _ _ _
  refine wpAny_pure ?_
  show wpAny _ _ (ret .none) _ _ _
  refine wpAny_pure ⟨_, rfl, h h' tk' c' hS' (hsz ▸ hc') fun b o e => ?_⟩
  have b0 : b < N := hN ▸ Heap.lt_size e
  refine mv.heap b o ?_ (Heap.get?_push_of_some _ (Heap.get?_push_of_some _ e))
  simp only [List.mem_cons, List.not_mem_nil, or_false, not_or]
  exact ⟨Nat.ne_of_lt b0, Nat.ne_of_lt (Nat.lt_succ_of_lt b0)⟩
theorem call_set_tupI {l : Addr} {items : Array Value} {ns : List Int} {Q : Value → Shared → Prop} (hh : A.handled = none) (hl : s.heap.IsTuple l items) (hit : IntsAre items.toList ns) (hb : ns.length + 1 < scanBound)
    (h : ∀ (h' : Heap) (tk c : Nat), SetR w h' s.heap.objs.size (fun j => decide (j ∈ ns)) c → c ≤ ns.length → (∀ b o, s.heap.get? b = some o → h'.get? b = some o) → Q (.ref s.heap.objs.size) { s with heap := h', toks := tk }) :
    wpAny (model P w) A (call (.type "set") [.ref l]) Q E s := by
  obtain ⟨c, tl, hmro⟩ := F.called_set.mro
  have f1 := F.called_set.notType
  have f2 := F.called_set.canCreate
  have f3 := F.called_set.made
  have f4 := F.called_set.sub
  have f5 := F.typeCall_set_1 (.ref l)
  refine wpAny_call (codeAny_of_tree ?_)
  show wpAny _ _ (callAny (.type "set") _) _ _ _
  refine wpAny_pure ⟨Code.quiet_builtin _ (by decide +kernel), codeAny_builtin F.entry_type_call ?_⟩
  rw [Around.under_plain (weight_type_call_type "set" [.ref l] []) rfl]
  repeat (any_goals (first | assumption | wp_step))
  refine codeAny_mono (code_set_led1 (.ref l) (E := E) (Q₁ := fun obj s₁ => obj = .ref s.heap.objs.size ∧ s₁ = { s with heap := s.heap.push (eSet w) }) ⟨rfl, rfl⟩) fun r s₁ hr => ?_
  rcases r with e | (_ | obj | _ | _)
  all_goals first | exact hr | exact hr.elim | skip
  obtain ⟨rfl, rfl⟩ := hr
  have hS : (s.heap.push (eSet w)).get? s.heap.objs.size = some (eSet w) := Heap.get?_push_size _ rfl
  have hT : Shared.TypeIs { s with heap := s.heap.push (eSet w) } (.ref s.heap.objs.size) "set" := ⟨_, hS, rfl⟩
  have g1 := F.called_set.init.lookup
  have g2 := F.called_set.init.bind (.ref s.heap.objs.size)
  repeat (any_goals (first | assumption | wp_step))
  refine codeAny_mono (codeAny_call_builtin (R := wants (fun r s₂ => r = .none ∧ ∃ h' tk c, s₂ = { s with heap := h', toks := tk } ∧ SetR w h' s.heap.objs.size (fun j => decide (j ∈ ns)) c ∧ c ≤ ns.length ∧ ∀ b o, s.heap.get? b = some o → h'.get? b = some o) E)
    F.called_set.init.plain F.entry_set_init (check_set_init_1 hT ?_)) fun r₂ s₂ hr₂ => ?_
  · have hh' : A.in1.in1.handled = none := by simp [hh]
    refine wpAny_mono (set_init_tupI (P := P) (E := E) (Q := fun r s₂ => r = .none ∧ ∃ h' tk c, s₂ = { s with heap := h', toks := tk } ∧ SetR w h' s.heap.objs.size (fun j => decide (j ∈ ns)) c ∧ c ≤ ns.length ∧ ∀ b o, s.heap.get? b = some o → h'.get? b = some o) hh' hl hit hb fun h' tk c a1 a2 a3 => ⟨rfl, h', tk, c, rfl, a1, a2, a3⟩) (fun fin s' => ?_) fun e s' q => q
    rintro ⟨v, rfl, q⟩
    exact q
  · rcases r₂ with e | (_ | r | _ | _)
    all_goals first | exact hr₂ | exact hr₂.elim | skip
    obtain ⟨rfl, h', tk, c', rfl, a1, a2, a3⟩ := hr₂
    repeat (any_goals (first | assumption | wp_step))
    exact h _ _ _ a1 a2 a3
end
/-- set(a tuple of ints) -/
def rSetU (w : World) (K : PySem.W.Frag) : List V → Hp → VK → Prop := fun vs H Q => ∃ (a : Addr) (ns : List Int), vs = [V.ref a] ∧ SqT K H a (ns.map V.int) ∧ ns.length ≤ 63 ∧
  ∀ (p : Addr) (c : Nat), c ≤ ns.length → H p = none → Q (.ref p) (upd H p (SetO w p (fun j => decide (j ∈ ns)) c))
theorem cr_setU {X : Cx} (hc : X.calm = true) : CallR X (.type "set") (rSetU X.w X.K) := by
  intro pins s σ H vs us Q I r h
  obtain ⟨a, ns, rfl, hq, hl, q⟩ := h
  rw [Vals.ref1 r]
  obtain ⟨its, rv, p', hz⟩ := I.tuple hq
  have hi : IntsAre its.toArray.toList ns := ints_of_vals rv
  refine call_set_tupI (I.ok.hd hc) p' hi (by unfold scanBound; omega) fun h' tk c R hcn k => ?_
  have hn : H s.heap.objs.size = none := I.hok.fresh (Nat.le_refl _)
  exact ⟨.ref _, upd H s.heap.objs.size (SetO X.w s.heap.objs.size (fun j => decide (j ∈ ns)) c), I.laid (t' := tk) k (Nat.le_refl _) (setO_new R), rfl, q _ c hcn hn⟩
section
variable {X : Cx} {B : Addr → Prop} {H0 : Hp} {m : Bool} {sl : List Sl} {e a b tg : Expr} {da db : D} {pos p p2 pos2 : Pos} {ns : List Int}
theorem jf_sortsetU (hc : X.calm = true) (hg : Gl X "sorted") (hm : X.mg "sorted" = none) (hg2 : Gl X "set") (hm2 : X.mg "set" = none) (ha : JA X B H0 true sl [a] [.tup (ns.map .int)]) (hl : ns.length ≤ 63)
    (he : starEach [a] X.env = (false, eval a X.env) :: starEach [] X.env := by rfl) (hpl : (backTo pos2 (starEach [] X.env)).any (·.1) = false := by rfl)
    (he2 : starEach [.Call (.Name "set" p2) [a] [] pos2] X.env = (false, eval (.Call (.Name "set" p2) [a] [] pos2) X.env) :: starEach [] X.env := by rfl) (hpl2 : (backTo pos (starEach [] X.env)).any (·.1) = false := by rfl) :
    JF X B H0 sl (.Call (.Name "sorted" p) [.Call (.Name "set" p2) [a] [] pos2] [] pos) (.lst ((sortU ns).map .int)) := ⟨fun gh as σ H Q S q =>
  PEt (pe_callB (cr_sortedSet hc) hg hm boot_sorted (pa_cons (pe_callTy (cr_setU hc) hg2 hm2 boot_set pa_w (by decide) (by decide) he hpl) pa_nil he2) (by decide) (by decide) he2 hpl2) (ha.run gh as σ H _ S fun vs H1 s1 r1 => by
    obtain ⟨z, r', rfl, h1, h2⟩ := r1
    cases (show r' = [] from h2)
    obtain ⟨t, xs, rfl, hs0, hx⟩ := h1
    have hs : SqT X.K H1 t xs := .inl (.inl hs0)
    rw [rpl_ints] at hx
    subst hx
    refine ⟨t, ns, rfl, hs, hl, fun p1 c hc1 hp1 => ⟨p1, _, c, rfl, upd_same, by omega, fun ms q1 h3 h4 h5 hq1 => ?_⟩⟩
    have e1 : ms = sortU ns := ris_unique h3 (sortU_ris ns) fun x => by rw [h4, sortU_mem, decide_eq_true_eq]
    subst e1
    have s2 : Same H1 (upd (upd H1 p1 (SetO X.w p1 (fun j => decide (j ∈ ns)) c)) q1 (.lst ((sortU ns).map V.int))) := (Same.new hp1).trans (Same.new hq1)
    refine q q1 _ (s1.trans s2) (s1.free ((Same.new hp1).free hq1)) ⟨_, upd_same, ?_⟩
    rw [rpl_ints])⟩
def revT (n : Nat) : List Int := (List.range n).reverse.map fun (k : Nat) => (k : Int)
theorem revT_len (n : Nat) : (revT n).length = n := by unfold revT; rw [List.length_map, List.length_reverse, List.length_range]
theorem revT_get {n k : Nat} {x : Int} (h : (revT n)[k]? = some x) : k < n ∧ x = ((n - 1 - k : Nat) : Int) := by
  have hk : k < n := by
    have := (List.getElem?_eq_some_iff.mp h).1
    rw [revT_len] at this
    exact this
  refine ⟨hk, ?_⟩
  unfold revT at h
  rw [List.getElem?_map, List.getElem?_reverse (by simpa using hk), List.length_range, List.getElem?_range (by omega)] at h
  exact (Option.some.inj h).symm
theorem itok_rev {K : PySem.W.Frag} {n : Nat} {lo : Int} {g : G1} (hlo : lo = (n : Int) - 1) : ItOk K ((revT n).map .int) g (L2.Itc lo (-1) n) where
  go A k H G hk := by
    rw [List.length_map, revT_len] at hk
    refine ⟨hk, fun x H' ⟨e, f⟩ => ?_⟩
    subst e f
    refine ⟨Same.refl _, .int (lo + (k : Int) * (-1)), ?_, rfl⟩
    unfold revT
    rw [List.getElem?_map, List.getElem?_map, List.getElem?_reverse (by simpa using hk), List.length_range, List.getElem?_range (by omega)]
    show some (D.int ((n - 1 - k : Nat) : Int)) = _
    rw [show ((n - 1 - k : Nat) : Int) = lo + (k : Int) * (-1) by omega]
  stop A H G := by
    show n ≤ ((revT n).map D.int).length
    rw [List.length_map, revT_len]
    exact Nat.le_refl _
theorem ji_revRg {n : Int} (hgr : Gl X "reversed") (hmr : X.mg "reversed" = none) (hg : Gl X "range") (hm : X.mg "range" = none) (ha : JE X B H0 false sl a (.int n)) (h1 : 0 ≤ n) (h2 : n < 2 ^ 62) (hs : starEach [a] X.env = (false, eval a X.env) :: starEach [] X.env := by rfl)
    (hs2 : starEach [.Call (.Name "range" p2) [a] [] pos2] X.env = (false, eval (.Call (.Name "range" p2) [a] [] pos2) X.env) :: starEach [] X.env := by rfl) :
    JI X B H0 sl tg (.Call (.Name "reversed" p) [.Call (.Name "range" p2) [a] [] pos2] [] pos) ((revT n.toNat).map .int) := ⟨fun gh as σ H R S q =>
  PIt (pi_revR hgr hmr (prg_1 hg hm pe_w hs) hs2) (ha.run gh as σ H _ S fun x H1 s1 r1 => by
    cases (show x = .int n from r1)
    refine ⟨n, rfl, by decide, by decide, by omega, h2, ?_⟩
    have e : (n - 0).toNat = n.toNat := by rw [Int.sub_zero]
    rw [e]
    exact q _ H1 ([], [], []) s1 ⟨fun b u e => (by cases e), rfl⟩ (itok_rev (by omega)))⟩
theorem rev_get {n k : Nat} {d : D} (h : ((revT n).map D.int)[k]? = some d) : k < n ∧ d = .int ((n - 1 - k : Nat) : Int) := by
  rw [List.getElem?_map] at h
  cases q : (revT n)[k]? with
  | none => rw [q] at h; cases h
  | some x =>
    rw [q] at h
    obtain ⟨h1, h2⟩ := revT_get q
    cases h
    exact ⟨h1, by rw [h2]⟩
end
end PD
/-! a def that tells a tuple of a value and of a new list -/
namespace PD
open PySem PySem.Spec PyProof.Rows L2
variable [TN]
def TF (K : PySem.W.Frag) (H : Hp) (d1 : D) (ds2 : List D) (v : V) (H' : Hp) : Prop :=
  ∃ t v1 p xs, v = .ref t ∧ H' t = some (.tup [v1, .ref p]) ∧ Rp K (fun _ => False) H' d1 v1 ∧ H p = none ∧ H' p = some (.lst xs) ∧ RpL K (fun _ => False) H' ds2 xs
abbrev FT := List D → D → List D → Prop
def spT (K : PySem.W.Frag) (F : FT) : Sp := fun vs H Q E => ∃ (B : Addr → Prop) (ds : List D) (d1 : D) (ds2 : List D), (∀ a, B a → ∃ u, H a = some u) ∧ RpL K B H ds vs ∧ F ds d1 ds2 ∧ ∀ v H', Same H H' → TF K H d1 ds2 v H' → Q v H'
/-- e gives a tuple of a value and of a new list -/
structure JV (X : Cx) (B : Addr → Prop) (H0 : Hp) (sl : List Sl) (e : Expr) (d1 : D) (ds2 : List D) : Prop where
  run : ∀ gh as σ H Q, SOK X.K B H0 gh as sl σ H → (∀ v H', Same H H' → TF X.K H d1 ds2 v H' → Q v H') → tE X e σ H Q
theorem TF.weak {K : PySem.W.Frag} {H H1 H' : Hp} {d1 : D} {ds2 : List D} {v : V} (s : Same H H1) (h : TF K H1 d1 ds2 v H') : TF K H d1 ds2 v H' := by
  obtain ⟨t, v1, p, xs, e, ht, r1, hp, hl, r2⟩ := h
  exact ⟨t, v1, p, xs, e, ht, r1, s.free hp, hl, r2⟩
section
variable {X : Cx} {B : Addr → Prop} {H0 : Hp} {m m1 : Bool} {sl : List Sl} {e a b : Expr} {es : List Expr} {d1 : D} {ds ds2 : List D} {pos p p2 px py pt : Pos} {P : Po} {x y : Str} {k kt : Nat}
theorem jv_tup {x1 : Nat} (ha : JE X B H0 true sl a d1) (hb : JF X B H0 sl b (.lst ds2)) (i1 : imm d1 = true) (i2 : immL ds2 = true) (hs : starEach [a, b] X.env = (false, eval a X.env) :: starEach [b] X.env := by rfl) (hs2 : starEach [b] X.env = (false, eval b X.env) :: starEach [] X.env := by rfl) : JV X B H0 sl (.Tuple [a, b] x1 pos) d1 ds2 := ⟨fun gh as σ H Q S q =>
  PEt (pe_tup (pa_cons pe_w (pa_cons pe_w pa_nil hs2) hs)) (ha.run gh as σ H _ S fun v1 H1 s1 r1 => hb.run gh as σ H1 _ (S.same s1) fun p H2 s2 hp r2 => ⟨Nat.le_of_ble_eq_true rfl, fun t ht => by
    obtain ⟨xs, hl, r3⟩ := r2
    have st : Same H2 (upd H2 t (.tup [v1, .ref p])) := Same.new ht
    exact q _ _ ((s1.trans s2).trans st) ⟨t, v1, p, xs, rfl, upd_same, ((r1.im i1).stp (.of s2)).stp (.of st), s1.free hp, st _ _ hl, (r3.im i2).stp (.of st)⟩⟩)⟩
variable {CX : CXT} {f : Addr} {fd : FuncData} {ps : List Str} {F : FT} {E : XK}
theorem jv_call (G : FnOk X.prog X.w X.K X.mg X.base CX k f fd ps (spT X.K F)) (hr : Room k X.A) (hg : Gl X x) (hm : X.mg x = some (.ref f)) (hk : PySem.W.keepIn X.K (.ref f) = true) (hb : Binds X.K fd ps []) (hx : Passes CX X E) (ha : JA X B H0 m sl (e :: es) ds) (h : F ds d1 ds2)
    (hdb : (x == ("__debug__" : Str)) = false := by decide) (he : starEach (e :: es) X.env = (false, eval e X.env) :: starEach es X.env := by rfl) (hpl : (backTo pos (starEach es X.env)).any (·.1) = false := by rfl) : JV X B H0 sl (.Call (.Name x p) (e :: es) [] pos) d1 ds2 := ⟨fun gh as σ H Q S q =>
  PEt (pe_call G hr hg hm hk hb .nil hx pa_w hdb he hpl) (ha.run gh as σ H _ S fun vs H1 s1 r => by
    show spT X.K F (vs ++ []) H1 Q E
    rw [List.append_nil]
    exact ⟨Av B as m, ds, d1, ds2, fun a h => (S.same s1).dom a (Av.sub a h), r, h, fun v H2 s2 z => q v H2 (s1.trans s2) (z.weak s1)⟩)⟩
/-- read as a value -/
theorem je_ofV (h : JV X B H0 sl e d1 ds2) (i1 : imm d1 = true) (i2 : immL ds2 = true) : JE X B H0 m sl e (.tup [d1, .lst ds2]) := ⟨fun gh as σ H Q S q => h.run gh as σ H _ S fun v H' s z => by
  obtain ⟨t, v1, p, xs, rfl, ht, r1, hp, hl, r2⟩ := z
  refine q _ _ s ⟨t, _, rfl, ht, v1, _, rfl, r1.im i1, .ref p, [], rfl, ⟨p, xs, rfl, hl, fun w => ?_, r2.im i2⟩, rfl⟩
  obtain ⟨o, ho⟩ := S.dom p (Av.sub p w)
  rw [hp] at ho
  cases ho⟩
/-- x, y = e: the list is the def's own -/
theorem js_asgV (i j : Nat) (hc : X.calm = true) (hN : X.N.Nodup) (hi : X.N[i]? = some x) (hj : X.N[j]? = some y) (hij : i ≠ j) (hx : Loc X.env.scope x) (hy : Loc X.env.scope y) (h : JV X B H0 sl e d1 ds2) (i1 : imm d1 = true) (i2 : immL ds2 = true) (hnx : P.nx ((sl.set j (.ow (.lst ds2))).set i (.va d1)))
    (hf1 : X.fn x = true ∨ X.env.scope.names.lookup x = some .local := by first | exact .inl rfl | exact .inr rfl) (hf2 : X.fn y = true ∨ X.env.scope.names.lookup y = some .local := by first | exact .inl rfl | exact .inr rfl)
    (hs : swapsWithSole [.Tuple [.Name x px, .Name y py] kt pt] e pos.line X.env = pure false := by rfl) (hw : swappedStores [.Tuple [.Name x px, .Name y py] kt pt] e X.env = pure none := by rfl)
    (h1 : (assignEach [.Tuple [.Name x px, .Name y py] kt pt] X.env).map (·.2) = [assign (.Tuple [.Name x px, .Name y py] kt pt) X.env] := by rfl) (hn : (assignEach [.Name x px, .Name y py] X.env).length = 2 := by rfl) (hst : (assignEach [.Name x px, .Name y py] X.env).findIdx? (·.1) = none := by rfl)
    (ha1 : (assignEach [.Name x px, .Name y py] X.env).map (·.2) = assign (.Name x px) X.env :: (assignEach [.Name y py] X.env).map (·.2) := by rfl) (ha2 : (assignEach [.Name y py] X.env).map (·.2) = assign (.Name y py) X.env :: (assignEach [] X.env).map (·.2) := by rfl) :
    JS X B H0 sl (.Assign [.Tuple [.Name x px, .Name y py] kt pt] e pos) P := ⟨fun gh as σ H S => PSt (ps_asg pe_w pg_w hs hw h1) (h.run gh as σ H _ S fun v H1 s1 z => by
  obtain ⟨t, v1, q, xs, rfl, ht, r1, hq, hl, r2⟩ := z
  refine PGt (pg_tup hc pgs_w hn hst) ⟨t, [v1, .ref q], rfl, .inl (.inl ht), rfl, fun pins s us I hv => ?_⟩
  refine (pgs_cons (pg_name hN hi hx hf1) (pgs_cons (pg_name hN hj hy hf2) pgs_nil ha2) ha1).run pins s σ H1 _ us _ I hv ⟨v1, [.ref q], rfl, ⟨.ref q, [], rfl, ⟨rfl, ?_⟩⟩⟩
  have S1 := S.putO (i := j) hq s1 (d := .lst ds2) ⟨xs, hl, r2.im i2⟩
  have S2 := S1.put (i := i) (d := d1) (v := v1) (r1.im i1)
  have es : (List.set σ j (some (V.ref q))).set i (some v1) = (List.set σ i (some v1)).set j (some (V.ref q)) := List.set_comm _ _ (Ne.symm hij)
  rw [es] at S2
  exact ⟨_, _, hnx, S2⟩)⟩
end
section
variable {P : Program} {w : World} {K : PySem.W.Frag} {mg : Str → Option Value} {base : Heap} {N ps : List Str} {qual x : Str} {st : Stmt} {f : Addr} {fd : FuncData} {k : Nat} {Fs : FT}
theorem fn_okT (n : Nat) {e : Expr} {pos : Pos} (hdrop : (defBody st).drop n = [.Return (some e) pos]) (F : Fun K x qual st f fd) (S : FnScope N ps (defScope st)) (hl : ∀ ds d1 ds2, Fs ds d1 ds2 → ds.length = ps.length)
    (body : ∀ cdv A outer s H E, Room k (A.deeper (envOfC qual (defScope st) s.heap.objs.size f cdv)) → ∀ (B : Addr → Prop) ds d1 ds2, Fs ds d1 ds2 → ∃ R : List Sl → Prop, JSs (XOf P w K mg base N qual (defScope st) f cdv A outer s H E) B H (starts N ds) ((defBody st).take n) { nx := R, rt := fun _ => False }
      ∧ ∀ s', R s' → JV (XOf P w K mg base N qual (defScope st) f cdv A outer s H E) B H s' e d1 ds2) :
    FnOk P w K mg base CX0 (k + 1) f fd ps (spT K Fs) := by
  refine F.ok S (fun vs H Q E h => ?_) (fun cdv A outer s H vs Q E hr h => ?_)
  · obtain ⟨B, ds, d1, ds2, hd, r, hF, _⟩ := h
    rw [r.len]
    exact hl ds d1 ds2 hF
  · obtain ⟨B, ds, d1, ds2, hd, r, hF, h1⟩ := h
    refine ⟨_, pss_w, fun pins sh I => ?_⟩
    have e0 : L2.start N vs = vs.map some ++ List.replicate (N.length - ds.length) none := by
      unfold L2.start
      rw [r.len]
    have S0 : SOK K B H [] (List.replicate (ds.length + (N.length - ds.length)) none) (starts N ds) (L2.start N vs) H := by
      refine ⟨Same.refl H, hd, fun a h => ?_, fun i j a h => ?_, fun g h => (by cases h), ?_⟩
      · cases (List.mem_replicate.mp h).2
      · have := List.mem_of_getElem? h
        cases (List.mem_replicate.mp this).2
      · rw [e0]
        exact (starts_ok r _).to (fun h => h.anti noA) (fun h => h.anti noA) fun _ _ _ q _ => q
    obtain ⟨R, b1, b2⟩ := body cdv A outer s H E hr B ds d1 ds2 hF
    have e1 : defBody st = (defBody st).take n ++ [.Return (some e) pos] := by rw [← hdrop]; exact (List.take_append_drop n _).symm
    rw [e1]
    refine wpAny_execs_app (thn (b1.run [] _ _ H S0 pins sh I) fun fl s' q => ?_)
    cases fl with
    | next =>
      obtain ⟨σ', H', I', as', sl', hR, S'⟩ := q
      refine PSst (pss_cons (ps_ret pe_w) pss_w) ?_ pins s' I'
      refine (b2 sl' hR).run [] as' σ' H' _ S' fun v H2 s2 z => ?_
      exact h1 v H2 (S'.ex.trans s2) (z.weak S'.ex)
    | ret v =>
      obtain ⟨_, _, _, _, _, z⟩ := q
      rcases z with ⟨_, z, _⟩ | ⟨_, _, z, _⟩
      · exact z.elim
      · exact z.elim
    | brk => obtain ⟨_, _, _, _, _, z, _⟩ := q; exact z.elim
    | cont => obtain ⟨_, _, _, _, _, z, _⟩ := q; exact z.elim
end
end PD
/-! an own dict of lists is read -/
namespace PD
open PySem PySem.Spec PyProof.Rows L2
variable [TN]
section
variable {α : Type} {f : α → D} {kvs : List (Q × α)} {kq : Q} {v : α} {X : Cx} {B : Addr → Prop} {H0 : Hp} {m : Bool} {sl : List Sl} {a b e : Expr} {d : D} {pos p : Pos} {k : Nat} {x : Str}
theorem jf_is {d' : D} (h : JF X B H0 sl e d) (q : d = d') : JF X B H0 sl e d' := q ▸ h
theorem je_ixQo (i : Nat) (hN : X.N[i]? = some x) (hv : Vis X.env.scope x) (hsl : sl[i]? = some (.ow (dQ f kvs))) (hr : Room k X.A) (hb : JE X B H0 false sl b (fr kq)) (hg : dget kvs kq = some v) (hs : NoSl b := by intro _ _; rfl)
    (hd : (x == ("__debug__" : Str)) = false := by decide) (hcd : (x == ("__classdict__" : Str)) = false := by decide) : JE X B H0 m sl (.Subscript (.Name x p) b pos) (f v) := ⟨fun gh as σ H Q S q => by
  obtain ⟨t, e1, e2, e3, r⟩ := S.at hsl
  obtain ⟨xs, ht, hlen, hl⟩ := r
  refine PEt (pe_dget (by have := hr.un; omega) (pe_var hN hv hd hcd) pe_w hs) ⟨_, e1, hb.run gh as σ H _ S fun z H2 s2 r2 => ?_⟩
  obtain ⟨c, rfl, hc⟩ := key_at r2
  obtain ⟨w, h1, h2⟩ := (zk_get (k := kq) (hl.stp (.of s2))).2 v hg
  exact ⟨t, w, rfl, by rw [← h1]; exact .t (s2 _ _ ht) hc, q _ H2 s2 (h2.anti fun a ha => Av.sub a ha)⟩⟩
end
end PD
/-! lambdas, handed to a def that calls them -/
namespace PD
open PySem PySem.Spec PyProof.Rows L2 LamX NdefX
variable [TN]
/-- the object at f is the lambda F with the body e -/
def LamO (f : Addr) (F : NF) (e : Expr) : HO := .ext fun h => ∃ (pm ctv : Value), h.get? f = some (PySem.W.kla_obj "<lambda>" F.qual F.params e F.scope F.cl pm F.c ctv)
theorem lamO_nt {f : Addr} {F : NF} {e : Expr} : NT (LamO f F e) := fun _ z => by
  unfold LamO at z
  cases z
theorem codeO_nt {f : Addr} {q : Str} : NT (CodeO f q) := fun _ z => by
  unfold CodeO at z
  cases z
theorem lamO_at {P : Program} {w : World} {H : Hp} {h : Heap} {f : Addr} {F : NF} {e : Expr} (hok : HOk P w H h) (z : H f = some (LamO f F e)) : ∃ (pm ctv : Value), h.get? f = some (PySem.W.kla_obj "<lambda>" F.qual F.params e F.scope F.cl pm F.c ctv) := by
  obtain ⟨q, _, _⟩ := hok f _ z
  exact q
theorem codeR_at {P : Program} {w : World} {H : Hp} {h : Heap} {c : Addr} {q : Str} (hok : HOk P w H h) (e : H c = some (CodeO c q)) : h.CodeRec (.ref c) q := by
  obtain ⟨⟨oc, vs, t, h1, h2, h3⟩, _, _⟩ := hok c _ e
  exact ⟨c, oc, vs, t, rfl, h1, h2, h3⟩
section
variable {X : Cx} {pins : List (Addr × Obj)} {σ : L2.St} {H : Hp} {s : Shared}
theorem inv_lam {F : NF} {e : Expr} {o : Obj} {t' : Nat} {pm ctv : Value} (I : Inv X pins σ H s) (ho : o = PySem.W.kla_obj "<lambda>" F.qual F.params e F.scope F.cl pm F.c ctv) :
    Inv X pins σ (upd H s.heap.objs.size (LamO s.heap.objs.size F e)) { s with heap := s.heap.push o, toks := t' } := by
  subst ho
  refine I.laid (a := s.heap.objs.size) (fun b u z => Heap.get?_push_of_some _ z) (Nat.le_refl _) ?_
  have z : (s.heap.push (PySem.W.kla_obj "<lambda>" F.qual F.params e F.scope F.cl pm F.c ctv)).get? s.heap.objs.size = some (PySem.W.kla_obj "<lambda>" F.qual F.params e F.scope F.cl pm F.c ctv) := Heap.get?_push_size _ rfl
  exact ⟨⟨pm, ctv, z⟩, ⟨_, z⟩, fun h1 h2 ⟨p, t, z⟩ st => ⟨p, t, st _ z⟩⟩
/-- the table grown by a code object of its name -/
theorem same_table {P c' : Addr} {ps more : Array Value} (hP : H P = some (.tbl ps)) (nC : H c' = none) (hT : TabS H P (TN.nm P)) (hm : ∃ a b, more = #[a, b, .ref c'] ∧ TriplesOk (ps ++ more).toList ∧ ∀ p' cv, codeAmong p' (ps ++ more).toList = some cv → codeAmong p' ps.toList = some cv ∨ cv = .ref c') :
    Same H (upd (upd H P (.tbl (ps ++ more))) c' (CodeO c' (TN.nm P))) := by
  have hE : ∀ b o, H b = some o → NT o → upd (upd H P (.tbl (ps ++ more))) c' (CodeO c' (TN.nm P)) b = some o := fun b o e n => by
    rw [upd_ne (ne_of_none e nC), upd_ne (fun z => n ps (Option.some.inj (e.symm.trans (by rw [z]; exact hP))))]
    exact e
  refine ⟨hE, fun p hp => ?_, fun a ha => ?_⟩
  · obtain ⟨a, b, e1, e2, e3⟩ := hm
    by_cases hb : p = P
    · subst hb
      obtain ⟨ps', a1, a2, a3⟩ := hT
      rw [hP] at a1
      cases a1
      refine ⟨_, by rw [upd_ne (ne_of_none hP nC), upd_same], e2, fun p' cv hcv => ?_⟩
      rcases e3 p' cv hcv with z | z
      · obtain ⟨c0, q1, q2⟩ := a3 p' cv z
        exact ⟨c0, q1, hE _ _ q2 codeO_nt⟩
      · exact ⟨c', z, upd_same⟩
    · obtain ⟨ps', a1, a2, a3⟩ := hp
      refine ⟨ps', by rw [upd_ne (ne_of_none a1 nC), upd_ne hb]; exact a1, a2, fun p' cv hcv => ?_⟩
      obtain ⟨c0, q1, q2⟩ := a3 p' cv hcv
      exact ⟨c0, q1, hE _ _ q2 codeO_nt⟩
  · by_cases h1 : a = c'
    · rw [h1]; exact nC
    · rw [upd_ne h1] at ha
      by_cases h2 : a = P
      · rw [h2, upd_same] at ha
        cases ha
      · rw [upd_ne h2] at ha
        exact ha
/-- the lambda is made -/
theorem lam_make3 {c P : Addr} {params : Arguments} {body : Expr} {scope : Scope} {pos : Pos} {E : Value → Shared → Prop} {Q : Value → Shared → Prop} (I : Inv X pins σ H s) (TB : TabB X.base X.mg c P) (hcode : X.env.code = .ref c) (hq : TN.nm P = X.env.qual ++ "<lambda>") (hT : TabS H P (TN.nm P))
    (hdef : defaultsOf params X.env = ([], [])) (hfree : ∀ y ∈ scope.names, y.2 = .free → ∃ c, X.env.cells.lookup y.1 = some c)
    (h : ∀ (f c' : Addr) (H1 : Hp) (s' : Shared), Inv X pins σ H1 s' → Same H H1 → H f = none → H1 f = some (LamO f ⟨"<lambda>", X.env.qual ++ "<lambda>", params, [], scope, cloFrom X.env.cells scope.names [], c'⟩ body) → H1 c' = some (CodeO c' (X.env.qual ++ "<lambda>")) → Q (.ref f) s') :
    wpAny (model X.prog X.w) X.A (eval (.Lambda params body scope pos) X.env) Q E s := by
  have hT0 := hT
  obtain ⟨ps, hP, ht, ha⟩ := hT
  refine PySem.W.kla_eval hdef ?_
  have bP : s.heap.BuiltinsAt X.mg P := TB.bm.keeps I.bk
  have hP' : s.heap.get? P = some { cls := .none, data := .fields ps } := I.hok P _ hP
  cases hc : codeAmong pos ps.toList with
  | none =>
    refine PySem.W.kla_makeFunction (mg := X.mg) (c := c) (P := P) (ps := ps) (closure_ok hfree) I.ok.glob (I.mod.glob.keeps I.bk) hcode (TB.code.keeps I.bk) hP' ht hc TB.gP bP fun c' ctv h' tk hx hge hlt hrec htb => ?_
    obtain ⟨c2, oc, vs, t, e2, hoc, hd, hv⟩ := hrec
    cases e2
    have nC : H c' = none := I.hok.fresh hge
    have I1 := inv_table (t' := tk) (more := #[rawInt pos.line, rawInt pos.col, .ref c']) (h' := h') I hP (fun b o hb e => hx b o hb e) htb hge ⟨oc, vs, t, hoc, hd, hv⟩
    have eL : (ps ++ #[rawInt pos.line, rawInt pos.col, .ref c']).toList = ps.toList ++ [rawInt pos.line, rawInt pos.col, .ref c'] := by simp
    have S1 := same_table (c' := c') (more := #[rawInt pos.line, rawInt pos.col, .ref c']) hP nC hT0 ⟨_, _, rfl, by rw [eL]; exact PySem.TriplesOk_snoc _ _ _ _ ht, fun p' cv z => by
      rw [eL] at z
      exact among_app _ ht z⟩
    rw [hq] at S1
    have nF := I1.hok.fresh (Nat.le_refl _)
    have I2 := inv_lam (F := ⟨"<lambda>", X.env.qual ++ "<lambda>", params, [], scope, cloFrom X.env.cells scope.names [], c'⟩) (e := body) (t' := tk) (pm := (X.mg "__name__").getD .none) (ctv := ctv) I1 rfl
    refine h h'.objs.size c' _ _ I2 (S1.trans (Same.new nF)) (S1.free nF) upd_same ?_
    exact (Same.new nF) _ _ upd_same codeO_nt
  | some cv =>
    obtain ⟨c', e, hco⟩ := ha pos cv hc
    subst e
    rw [hq] at hco
    refine PySem.W.kla_makeFunctionHit (mg := X.mg) (c := c) (P := P) (ps := ps) (closure_ok hfree) I.ok.glob (I.mod.glob.keeps I.bk) hcode (TB.code.keeps I.bk) hP' ht hc bP fun ctv h' tk hx hsz => ?_
    have I1 : Inv X pins σ H { s with heap := h', toks := tk } := I.kept hx
    have nF : H h'.objs.size = none := I1.hok.fresh (Nat.le_refl _)
    have I2 := inv_lam (F := ⟨"<lambda>", X.env.qual ++ "<lambda>", params, [], scope, cloFrom X.env.cells scope.names [], c'⟩) (e := body) (t' := tk) (pm := (X.mg "__name__").getD .none) (ctv := ctv) I1 rfl
    refine h h'.objs.size c' _ _ I2 (Same.new nF) nF upd_same ?_
    exact (Same.new nF) _ _ hco codeO_nt
/-- what the captured cells held when the running frame began they hold still -/
theorem cells_stay {cl : List (Str × Addr)} {fr : List Str} {ws : List (Option V)} (C : CellsAt cl fr ws X.s_0.heap X.H_0) (hx : X.ex = []) (I : Inv X pins σ H s) : CellsAt cl fr ws s.heap H := by
  have nx : ∀ b, b ∉ X.ex := fun b => by rw [hx]; exact List.not_mem_nil
  have kp : ∀ y c, cl.lookup y = some c → ∀ v, X.s_0.heap.IsCell c v → s.heap.IsCell c v := fun y c e v ⟨o, ho, hd⟩ => by
    obtain ⟨sl, q⟩ := I.base.any ho (C.all y c e).1 (nx c)
    exact ⟨_, q, hd⟩
  refine ⟨C.len, fun y c e => ?_, C.inj, fun i y e => ?_⟩
  · obtain ⟨n, v, z⟩ := C.all y c e
    refine ⟨?_, v, kp y c e v z⟩
    obtain ⟨o, ho, _⟩ := z
    exact I.base.free c o ho n (nx c)
  · obtain ⟨c, hc, hv⟩ := C.has i y e
    refine ⟨c, hc, fun v ev => ?_⟩
    obtain ⟨u, r, z⟩ := hv v ev
    exact ⟨u, r, kp y c hc _ z⟩
end
section
variable {CX : CXT} {P : Program} {w : World} {K : PySem.W.Frag} {mg : Str → Option Value} {base : Heap} {N ps fr : List Str} {F : NF} {f : Addr} {k : Nat}
theorem lam_run {e : Expr} {A : Around} {outer : List Env} {s : Shared} {H : Hp} {us : List Value} {vs : List V} {ws : List (Option V)} {Q : VK} {E : XK} (S : NScope N ps fr F.scope) (hf : H f = some (LamO f F e)) (hc : H F.c = some (CodeO F.c F.qual)) (C : CellsAt F.cl fr ws s.heap H)
    (hb : ∀ (pm ctv : Value) (us : List Value), us.length = ps.length → bindArgs (PySem.W.kla_fn "<lambda>" F.qual F.params e F.scope F.cl pm (.ref F.c) ctv) ⟨us, []⟩ = pure (ps.zip us)) (hr : Room (k + 1) A) (e0 : Env0 P w K mg base A outer s H) (r : Vals vs us) (hl : vs.length = ps.length)
    (hbody : Room k (A.deeper (envF F f s.heap.objs.size)) → ∃ t, PE (ncx CX P w K mg base N F f A outer s H E) e t ∧ t (startF N vs ws) H Q) : codeAny (model P w) A (.call (.ref f) ⟨us, []⟩) (CR CX outer P w H s Q E) s := by
  have lim : s.heap.NoLimit := e0.mod.nolimit.keeps fun b o e => (e0.bs b o e).1
  obtain ⟨pm, ctv, ho⟩ := lamO_at e0.hok hf
  refine PySem.W.kla_callFunE hr.depth ho rfl S.co S.gen rfl (codeR_at e0.hok hc) ?_
  rw [hb pm ctv us (by rw [← r.length]; exact hl)]
  refine wpAny_pure (wpAny_newFunctionEnv S.nocell (fun ⟨n, _⟩ hy => S.par n (List.of_mem_zip hy).1) (fun h₁ hns hsb => ⟨lim.fresh _ hsb, ?_⟩) S.kind)
  show codeAny _ _ (.expr e (envF F f s.heap.objs.size)) _ _
  have kp : ∀ b o, s.heap.get? b = some o → h₁.get? b = some o := fun b o e => hsb.extBut b o (Nat.ne_of_lt (Heap.lt_size e)) (Heap.get?_push_of_some _ e)
  obtain ⟨t, ht, hq⟩ := hbody (hr.deeper _)
  have I : Inv (ncx CX P w K mg base N F f A outer s H E) [] (startF N vs ws) H { s with heap := h₁, toks := s.toks + (ps.zip us).length } := inv_startN S hr.hd e0 hl r C hns kp
  refine PySem.W.kla_codeExpr (wpAny_mono (ht.run [] _ (startF N vs ws) H Q I hq) (fun u s' hs => ?_) fun e s' hs => hs)
  obtain ⟨v, H', J, rv, q⟩ := hs
  exact ⟨v, H', J.os, J.bare, J.base, J.hok, rv, q⟩
end
end PD
/-! a def that gets a lambda, and calls it -/
namespace PD
open PySem PySem.Spec PyProof.Rows L2 LamX NdefX
variable [TN]
/-- at the running def's begin f was the lambda F with the body e, ws what its captured names hold -/
structure LamAt (X : Cx) (f : Addr) (F : NF) (e : Expr) (fr : List Str) (ws : List V) : Prop where
  fn : X.H_0 f = some (LamO f F e)
  cd : X.H_0 F.c = some (CodeO F.c F.qual)
  cells : CellsAt F.cl fr (ws.map some) X.s_0.heap X.H_0
  ex : X.ex = []
theorem rpl_imm {K : PySem.W.Frag} {A A' : Addr → Prop} {H : Hp} {ds : List D} {xs : List V} (i : immL ds = true) (h : RpL K A H ds xs) : RpL K A' H ds xs := h.im i
theorem start_ok {K : PySem.W.Frag} {H : Hp} {N : List Str} {ds : List D} {vs : List V} (r : RpL K (fun _ => False) H ds vs) : SOK K (fun _ => False) H [] (List.replicate (ds.length + (N.length - ds.length)) none) (starts N ds) (L2.start N vs) H := by
  have e0 : L2.start N vs = vs.map some ++ List.replicate (N.length - ds.length) none := by
    unfold L2.start
    rw [r.len]
  refine ⟨Same.refl H, fun a h => h.elim, fun a h => ?_, fun i j a h => ?_, fun g h => (by cases h), ?_⟩
  · cases (List.mem_replicate.mp h).2
  · have := List.mem_of_getElem? h
    cases (List.mem_replicate.mp this).2
  · rw [e0]
    exact (starts_ok r _).to (fun h => h.anti noA) (fun h => h.anti noA) fun _ _ _ q _ => q
theorem startF_eq {N : List Str} {vs ws : List V} : startF N vs (ws.map some) = L2.start N (vs ++ ws) := by
  unfold startF L2.start
  rw [List.map_append, List.append_assoc, List.length_append, List.length_map, Nat.sub_sub]
section
variable {X : Cx} {B : Addr → Prop} {m : Bool} {sl : List Sl} {e a b : Expr} {es : List Expr} {ds : List D} {d : D} {pos p : Pos} {x : Str} {f : Addr} {F : NF} {fr ps N : List Str} {caps : List Int} {k : Nat} {E0 : XK}
/-- f(..), f a name that holds the lambda -/
theorem je_act (i : Nat) (L : LamAt X f F e fr (caps.map V.int)) (Sc : NScope N ps fr F.scope) (hb : ∀ (pm ctv : Value) (us : List Value), us.length = ps.length → bindArgs (PySem.W.kla_fn "<lambda>" F.qual F.params e F.scope F.cl pm (.ref F.c) ctv) ⟨us, []⟩ = pure (ps.zip us))
    (hr : Room (k + 1) X.A) (hx : Passes CX0 X E0) (hN : X.N[i]? = some x) (hv : Vis X.env.scope x) (hsl : sl[i]? = some (.va (.rf f))) (ha : JA X B X.H_0 false sl (a :: es) ds) (hds : immL ds = true) (hl : ds.length = ps.length) (hd : imm d = true)
    (hbody : ∀ A outer s H E, Room k (A.deeper (envF F f s.heap.objs.size)) → JE (ncx CX0 X.prog X.w X.K X.mg X.base N F f A outer s H E) (fun _ => False) H true (starts N (ds ++ caps.map .int)) e d)
    (hdb : (x == ("__debug__" : Str)) = false := by decide) (hcd : (x == ("__classdict__" : Str)) = false := by decide)
    (he : starEach (a :: es) X.env = (false, eval a X.env) :: starEach es X.env := by rfl) (hpl : (backTo pos (starEach es X.env)).any (·.1) = false := by rfl) :
    JE X B X.H_0 m sl (.Call (.Name x p) (a :: es) [] pos) d := ⟨fun gh as σ H Q S q pins s I => by
  obtain ⟨o, w, e1, e2, e3, v, e4, r⟩ := S.sls.get hsl
  subst e4
  obtain rfl : v = .ref f := r
  have kf : ∀ {H'}, Same H H' → H' f = some (LamO f F e) := fun s1 => (S.ex.trans s1).keep _ _ L.fn lamO_nt
  have kc : ∀ {H'}, Same H H' → H' F.c = some (CodeO F.c F.qual) := fun s1 => (S.ex.trans s1).keep _ _ L.cd codeO_nt
  have fnA : ∀ {H' : Hp} {σ' : L2.St} {s' : Shared} {pins : List (Addr × Obj)}, Inv X pins σ' H' s' → H' f = some (LamO f F e) → PySem.W.FnAt f s'.heap := fun I' h' => by
    obtain ⟨pm, ctv, ho⟩ := lamO_at I'.hok h'
    exact ⟨_, _, _, _, ho⟩
  refine wpAny_Call_Name_kw (thn ((pe_var (pos := p) hN hv hdb hcd).run pins s σ H (fun v H1 => v = .ref f ∧ H1 = H) I ⟨.ref f, e1, rfl, rfl⟩) fun u s1 ⟨v, H1, I1, r1, q1⟩ => ?_)
  obtain ⟨ev, eH⟩ := q1
  subst ev
  rw [eH] at I1
  obtain rfl : u = Value.ref f := r1
  refine PySem.W.callWith_F (first := []) (fnA I1 (kf (Same.refl H))) (thn (ha.run gh as σ H (fun vs H' => Same H H' ∧ RpL X.K (Av B as false) H' ds vs) S (fun vs H' s' r' => ⟨s', r'⟩) pos pins s1 I1) fun us s2 ⟨vs, H2, I2, r, sm, rv⟩ => ⟨fnA I2 (kf sm), ?_⟩) he hpl
  show wpAny _ _ (call (.ref f) us) _ _ _
  have C := cells_stay L.cells L.ex I2
  have hlv : vs.length = ps.length := by rw [rv.len]; exact hl
  refine wpAny_call (codeAny_mono (lam_run (CX := CX0) (N := N) (vs := vs) (Q := fun v H' => Same H2 H' ∧ Rp X.K (fun _ => False) H' d v) (E := E0) Sc (kf sm) (kc sm) C hb hr I2.env0 r hlv fun hr' => ?_) fun r s' hq => ?_)
  · refine ⟨_, pe_w, ?_⟩
    rw [startF_eq]
    have rA : RpL X.K (fun _ => False) H2 (ds ++ caps.map .int) (vs ++ caps.map V.int) := (rpl_imm hds rv).app (rpl_ints.mpr rfl)
    exact (hbody X.A X.stack s2 H2 E0 hr').run [] _ _ H2 _ (start_ok rA) fun v H' s' r' => ⟨s', r'.im hd⟩
  · cases r with
    | error e => exact hx pins σ H2 s2 e s' I2 hq
    | ok fl =>
      cases fl with
      | ret u =>
        obtain ⟨v, H', I', rv', q1, q2⟩ := I2.after hq
        exact ⟨v, H', I', rv', q v _ (sm.trans q1) (q2.im hd)⟩
      | next => exact False.elim hq
      | brk => exact False.elim hq
      | cont => exact False.elim hq⟩
end
end PD
/-! a call that hands a lambda on; defs that need their tables -/
namespace PD
open PySem PySem.Spec PyProof.Rows L2 LamX NdefX
variable [TN]
section
variable {X : Cx} {c P : Addr} {params : Arguments} {body : Expr} {scope : Scope} {pos : Pos}
def tLamA (X : Cx) (P : Addr) (params : Arguments) (body : Expr) (scope : Scope) : TE := fun σ H Q => TabS H P (TN.nm P) ∧ ∀ (f c' : Addr) (H1 : Hp), Same H H1 → H f = none → H1 f = some (LamO f ⟨"<lambda>", X.env.qual ++ "<lambda>", params, [], scope, cloFrom X.env.cells scope.names [], c'⟩ body) → H1 c' = some (CodeO c' (X.env.qual ++ "<lambda>")) → Q (.ref f) H1
theorem pe_lam (TB : TabB X.base X.mg c P) (hcode : X.env.code = .ref c) (hq : TN.nm P = X.env.qual ++ "<lambda>") (hdef : defaultsOf params X.env = ([], [])) (hfree : ∀ y ∈ scope.names, y.2 = .free → X.env.scope.names.lookup y.1 = some .cell ∨ X.env.scope.names.lookup y.1 = some .free) :
    PE X (.Lambda params body scope pos) (tLamA X P params body scope) := ⟨fun pins s σ H Q I h =>
  lam_make3 I TB hcode hq h.1 hdef (fun y hy e => (hfree y hy e).elim (fun z => I.ok.has _ (.inl z)) fun z => I.ok.has _ (.inr z)) fun f c' H1 s' I1 sm hf h1 h2 => ⟨.ref f, H1, I1, rfl, h.2 f c' H1 sm hf h1 h2⟩⟩
end
section
variable {X : Cx} {B : Addr → Prop} {H0 : Hp} {sl : List Sl} {e1 body : Expr} {d1 : D} {ds : List D} {pos p lpos : Pos} {x : Str} {c P g : Addr} {fdg : FuncData} {stg : Stmt} {qg nx_ : Str} {Ng psg N2 ps fr : List Str} {params : Arguments} {scope : Scope} {js : List Nat} {caps : List Int} {k : Nat}
theorem slotAt_caps {K : PySem.W.Frag} {A : Addr → Prop} {H : Hp} {σ : L2.St} {as : Ow} (S : SlsOK K A H sl σ as) : ∀ {js : List Nat} {caps : List Int}, js.map (fun j => sl[j]?) = caps.map (fun c => some (Sl.va (.int c))) → js.map (slotAt σ) = (caps.map V.int).map some
  | [], [], _ => rfl
  | [], _ :: _, h => by cases h
  | _ :: _, [], h => by cases h
  | j :: js, c :: caps, h => by
    rw [List.map_cons, List.map_cons] at h
    obtain ⟨h1, h2⟩ := List.cons.inj h
    obtain ⟨o, w, q1, q2, q3, v, q4, r⟩ := S.get h1
    subst q4
    cases (show v = .int c from r)
    rw [List.map_cons, List.map_cons, List.map_cons, slotAt_of q1, slotAt_caps S h2]
/-- x(e1, lambda ..: ..) -/
theorem jf_lamcall (Fg : Fun X.K nx_ qg stg g fdg) (Sg : FnScope Ng psg (defScope stg)) (hg : Gl X x) (hm : X.mg x = some (.ref g)) (bg : Binds X.K fdg psg []) (hpl : psg.length = 2)
    (TB : TabB X.base X.mg c P) (hcode : X.env.code = .ref c) (hq : TN.nm P = X.env.qual ++ "<lambda>") (hT : TabS H0 P (TN.nm P)) (hdef : defaultsOf params X.env = ([], []))
    (hfree : ∀ y ∈ scope.names, y.2 = .free → X.env.scope.names.lookup y.1 = some .cell ∨ X.env.scope.names.lookup y.1 = some .free) (hfr : ∀ y ∈ fr, (y, NameKind.free) ∈ scope.names) (hjs : js.map (fun j => X.N[j]?) = fr.map some)
    (hcaps : js.map (fun j => sl[j]?) = caps.map fun c => some (Sl.va (.int c))) (he : JE X B H0 false sl e1 d1) (hi1 : imm d1 = true) (hr : Room (k + 1) X.A) (hx : Passes CX0 X (fun _ _ _ => False)) (hi : immL ds = true)
    (hbody : ∀ cdg A outer s H E f c', Room k (A.deeper (envOfC qg (defScope stg) s.heap.objs.size g cdg)) → LamAt (XOf X.prog X.w X.K X.mg X.base Ng qg (defScope stg) g cdg A outer s H E) f ⟨"<lambda>", X.env.qual ++ "<lambda>", params, [], scope, cloFrom X.env.cells scope.names [], c'⟩ body fr (caps.map V.int) →
      JSs (XOf X.prog X.w X.K X.mg X.base Ng qg (defScope stg) g cdg A outer s H E) (fun _ => False) H (starts Ng [d1, .rf f]) (defBody stg) (PoOf (.fr (.lst ds))))
    (hdb : (x == ("__debug__" : Str)) = false := by decide) (hs1 : starEach [e1, .Lambda params body scope lpos] X.env = (false, eval e1 X.env) :: starEach [.Lambda params body scope lpos] X.env := by rfl) (hs2 : starEach [.Lambda params body scope lpos] X.env = (false, eval (.Lambda params body scope lpos) X.env) :: starEach [] X.env := by rfl)
    (hplain : (backTo pos (starEach [.Lambda params body scope lpos] X.env)).any (·.1) = false := by rfl) :
    JF X B H0 sl (.Call (.Name x p) [e1, .Lambda params body scope lpos] [] pos) (.lst ds) := ⟨fun gh as σ H Q S q pins s I => by
  refine wpAny_Call_Name_kw (ld_glob I hg hm ?_ hdb)
  refine PySem.W.callWith_K (h₀ := X.base) I.ok.mod.kin Fg.kp (thn ((pa_cons pe_w (pa_cons (pe_lam TB hcode hq hdef hfree) pa_nil hs2) hs1).run pos pins s σ H (fun vs H' => ∃ f c' v1, vs = [v1, .ref f] ∧ Same H H' ∧ Rp X.K (fun _ => False) H' d1 v1 ∧ H' f = some (LamO f ⟨"<lambda>", X.env.qual ++ "<lambda>", params, [], scope, cloFrom X.env.cells scope.names [], c'⟩ body) ∧ H' c' = some (CodeO c' (X.env.qual ++ "<lambda>"))) I
    (he.run gh as σ H _ S fun v1 H1 s1 r1 => ⟨(S.ex.trans s1).tabs P hT, fun f c' H2 s2 hf h1 h2 => ⟨f, c', v1, rfl, s1.trans s2, (r1.im hi1).stp (.of s2), h1, h2⟩⟩)) fun us s1 ⟨vs, H1, I1, r, f, c', v1, ev, sm, r1, h1, h2⟩ => ⟨I1.kIn, ?_⟩) hs1 hplain
  subst ev
  show wpAny _ _ (call (.ref g) us) _ _ _
  obtain ⟨oc, od, kV, doc, pm, an, cdv, ct, osl, rfl, lk, hcd⟩ := Fg.ex
  have hl : us.length = psg.length := by rw [← r.length, hpl]; rfl
  have C := cells_of I1 (Caps.made I1.ok hfree hfr hjs)
  rw [slotAt_caps (S.same sm).sls hcaps] at C
  have hb2 : BindsTo s1 (PySem.W.fnOf nx_ qg (defArgs stg) (defBody stg) (defScope stg) .none kV doc pm an cdv ct) ⟨us, []⟩ (psg.zip us) := by
    have := bg s1 us I1.kIn (by rw [List.append_nil]; exact hl)
    rwa [List.append_nil] at this
  refine wpAny_call (codeAny_mono (run_ofS (CX := CX0) (N := Ng) (ps := psg) (us := us) (vs := [v1, .ref f]) (Q := fun v H' => Same H1 H' ∧ ∃ p, v = .ref p ∧ H1 p = none ∧ RpO X.K (A1 (fun _ => False) p) H' p (.lst ds)) (E := fun _ _ _ => False) lk hcd Sg hr I1.env0 hb2 r (by rw [hpl]; rfl) fun hr' => ?_) fun r s' hq => ?_)
  · refine ⟨_, (pss_w (X := XOf X.prog X.w X.K X.mg X.base Ng qg (defScope stg) g cdv X.A X.stack s1 H1 (fun _ _ _ => False))).nox, ?_⟩
    have L : LamAt (XOf X.prog X.w X.K X.mg X.base Ng qg (defScope stg) g cdv X.A X.stack s1 H1 (fun _ _ _ => False)) f ⟨"<lambda>", X.env.qual ++ "<lambda>", params, [], scope, cloFrom X.env.cells scope.names [], c'⟩ body fr (caps.map V.int) := ⟨h1, h2, C, rfl⟩
    have rA : RpL X.K (fun _ => False) H1 [d1, .rf f] [v1, .ref f] := ⟨v1, _, rfl, r1, .ref f, [], rfl, rfl, rfl⟩
    have S0 := start_ok (N := Ng) rA
    intro pins0 sh I0
    refine thn ((hbody cdv X.A X.stack s1 H1 _ f c' hr' L).run [] _ _ H1 S0 pins0 sh I0) fun fl s' q => SPm q ?_ ?_ (fun _ _ ⟨_, _, z, _⟩ => z.elim) (fun _ _ ⟨_, _, z, _⟩ => z.elim)
    · rintro σ' H' ⟨as', sl', e, S'⟩
      cases e
    · rintro v H' (⟨d, e, s1, r1⟩ | ⟨d, q, e, rfl, s1, hq, r1⟩)
      · cases e
      · rcases e with e | e
        · cases e
          exact ⟨s1, q, rfl, hq, r1⟩
        · cases e
  · cases r with
    | error e => exact hx pins σ H1 s1 e s' I1 hq
    | ok fl =>
      cases fl with
      | ret u =>
        obtain ⟨v, H', I', rv', q1, pp, rfl, hpn, q2⟩ := I1.after hq
        refine ⟨_, H', I', rv', q pp _ (sm.trans q1) (sm.free hpn) ?_⟩
        obtain ⟨xs, z1, z2⟩ := q2
        exact ⟨xs, z1, z2.im hi⟩
      | next => exact False.elim hq
      | brk => exact False.elim hq
      | cont => exact False.elim hq⟩
end
/-! ### defs that need their tables -/
def spTab (K : PySem.W.Frag) (Ps : List Addr) (F : FS) : Sp := fun vs H Q E => (∀ P ∈ Ps, TabS H P (TN.nm P)) ∧ spF K F vs H Q E
section
variable {P : Program} {w : World} {K : PySem.W.Frag} {mg : Str → Option Value} {base : Heap} {N ps : List Str} {qual x : Str} {st : Stmt} {f : Addr} {fd : FuncData} {k : Nat} {Fs : List D → Out → Prop} {Ps : List Addr}
theorem fn_okTab {c : Addr} (hcd : fd.code = .ref c) (F : Fun K x qual st f fd) (S : FnScope N ps (defScope st)) (hl : ∀ ds o, Fs ds o → ds.length = ps.length) (hx : ∀ ds c, ¬ Fs ds (.er c))
    (body : ∀ A outer s H E, Room k (A.deeper (envOfC qual (defScope st) s.heap.objs.size f (.ref c))) → ∀ (B : Addr → Prop) ds o, (∀ P ∈ Ps, TabS H P (TN.nm P)) → Fs ds o → JSs (XOf P w K mg base N qual (defScope st) f (.ref c) A outer s H E) B H (starts N ds) (defBody st) (PoOf o)) :
    FnOk P w K mg base CX0 (k + 1) f fd ps (spTab K Ps Fs) := by
  obtain ⟨oc, od, kV, doc, pm, an, cdv, ct, osl, rfl, lk, hcode⟩ := F.ex
  obtain rfl : cdv = .ref c := hcd
  refine fn_of lk hcode S (fun vs H Q E h => ?_) (fun A outer s H vs Q E hr h => ?_)
  · obtain ⟨_, B, ds, o, hd, r, hF, _⟩ := h
    rw [r.len]
    exact hl ds o hF
  · obtain ⟨hT, B, ds, o, hd, r, hF, h1, h2, h3⟩ := h
    refine ⟨_, (pss_w (X := XOf P w K mg base N qual (defScope st) f (.ref c) A outer s H E)).nox, fun pins sh I => ?_⟩
    have e0 : L2.start N vs = vs.map some ++ List.replicate (N.length - ds.length) none := by
      unfold L2.start
      rw [r.len]
    have S0 : SOK K B H [] (List.replicate (ds.length + (N.length - ds.length)) none) (starts N ds) (L2.start N vs) H := by
      refine ⟨Same.refl H, hd, fun a h => ?_, fun i j a h => ?_, fun g h => (by cases h), ?_⟩
      · cases (List.mem_replicate.mp h).2
      · have := List.mem_of_getElem? h
        cases (List.mem_replicate.mp this).2
      · rw [e0]
        exact (starts_ok r _).to (fun h => h.anti noA) (fun h => h.anti noA) fun _ _ _ q _ => q
    refine thn ((body A outer s H E hr B ds o hT hF).run [] _ _ H S0 pins sh I) fun fl s' q => SPm q ?_ ?_ (fun _ _ ⟨_, _, z, _⟩ => z.elim) (fun _ _ ⟨_, _, z, _⟩ => z.elim)
    · rintro σ' H' ⟨as', sl', e, S'⟩
      exact h1 .non e .non H' S'.ex rfl
    · rintro v H' (⟨d, e, s1, r1⟩ | ⟨d, q, e, rfl, s1, hq, r1⟩)
      · exact h1 d e v H' s1 r1
      · rcases e with e | e
        · exact h2 d e q H' s1 hq r1
        · exact h1 d e _ H' s1 (r1.rp (fun z => by
            obtain ⟨u, hu⟩ := hd q z
            rw [hq] at hu
            cases hu) fun a h => .inl h)
end
section
variable {X : Cx} {B : Addr → Prop} {H0 : Hp} {m : Bool} {sl : List Sl} {e : Expr} {es : List Expr} {d : D} {ds : List D} {pos p : Pos} {x : Str} {CX : CXT} {k : Nat} {f : Addr} {fd : FuncData} {ps : List Str} {F : FS} {E : XK} {Ps : List Addr}
/-- a call of a def that needs tables -/
theorem je_callT (hT : ∀ P ∈ Ps, TabS H0 P (TN.nm P)) (G : FnOk X.prog X.w X.K X.mg X.base CX k f fd ps (spTab X.K Ps F)) (hr : Room k X.A) (hg : Gl X x) (hm : X.mg x = some (.ref f)) (hk : PySem.W.keepIn X.K (.ref f) = true) (hb : Binds X.K fd ps []) (hx : Passes CX X E) (ha : JA X B H0 m sl (e :: es) ds) (h : F ds (.ok d))
    (hdb : (x == ("__debug__" : Str)) = false := by decide) (he : starEach (e :: es) X.env = (false, eval e X.env) :: starEach es X.env := by rfl) (hpl : (backTo pos (starEach es X.env)).any (·.1) = false := by rfl) : JE X B H0 m sl (.Call (.Name x p) (e :: es) [] pos) d := ⟨fun gh as σ H Q S q =>
  PEt (pe_call G hr hg hm hk hb .nil hx pa_w hdb he hpl) (ha.run gh as σ H _ S fun vs H1 s1 r => by
    show spTab X.K Ps F (vs ++ []) H1 Q E
    rw [List.append_nil]
    refine ⟨fun P hP => (S.ex.trans s1).tabs P (hT P hP), Av B as m, ds, .ok d, fun a h => (S.same s1).dom a (Av.sub a h), r, h, fun d' e v H' s2 r2 => ?_, fun d' e => (by cases e), fun c e => (by cases e)⟩
    cases e
    exact q v H' (s1.trans s2) r2)⟩
end
end PD
/-! a, b = a list -/
namespace PD
open PySem PySem.Spec PyProof.Rows L2
variable [TN]
section
variable {X : Cx} {B : Addr → Prop} {H0 : Hp} {sl sl' : List Sl} {es : List Expr} {da : D} {ds : List D} {pos : Pos}
theorem jg_lst {vs : List Nat} {n k : Nat} (hc : X.calm = true) (h : JGs X B H0 vs es ds sl sl') (hl : ds.length = n) (hn : (assignEach es X.env).length = n := by rfl) (hst : (assignEach es X.env).findIdx? (·.1) = none := by rfl) : JG X B H0 vs (.Tuple es k pos) (.lst ds) sl sl' := ⟨fun gh as σ H v Q S r q => by
  obtain ⟨t, xs, rfl, ht, _, hx⟩ := r
  refine PGt (pg_lst hc pgs_w hn hst) ⟨t, xs, rfl, .inl (.inl ht), by rw [hx.len]; exact hl, fun pins s us I hv => ?_⟩
  exact h.run gh as σ H xs us pins s Q S hx q I hv⟩
theorem list2 {l : List Int} (h : l.length = 2) : l = [l.getD 0 0, l.getD 1 0] := by
  match l, h with
  | [a, b], _ => rfl
theorem list6 {l : List Int} (h : l.length = 6) : l = [l.getD 0 0, l.getD 1 0, l.getD 2 0, l.getD 3 0, l.getD 4 0, l.getD 5 0] := by
  match l, h with
  | [a, b, c, d, e, f], _ => rfl
end
end PD
/-! the end of a law whose defs make lambdas -/
namespace PD
open PySem PySem.Spec PyProof.Rows L2 LamX
theorem fnOk_or {CX : CXT} {P : Program} {w : World} {K : PySem.W.Frag} {mg : Str → Option Value} {base : Heap} {k : Nat} {f : Addr} {fd : FuncData} {ps : List Str} {sp1 sp2 : Sp} (a : FnOk P w K mg base CX k f fd ps sp1) (b : FnOk P w K mg base CX k f fd ps sp2) :
    FnOk P w K mg base CX k f fd ps (fun vs H Q E => sp1 vs H Q E ∨ sp2 vs H Q E) :=
  ⟨fun vs H Q E h => h.elim (a.len vs H Q E) (b.len vs H Q E), fun A outer s H args us vs Q E hr e0 hb r h => h.elim (a.run A outer s H args us vs Q E hr e0 hb r) (b.run A outer s H args us vs Q E hr e0 hb r)⟩
theorem funD_fun {K : PySem.W.Frag} {x qual : Str} {st : Stmt} {f : Addr} {fd : FuncData} (F : FunD K x qual (defArgs st) (defBody st) (defScope st) [] [] f fd) : Fun K x qual st f fd ∧ ∃ c, fd.code = .ref c ∧ ∀ p, He.fAd K p = f → He.codeOf K p = c := by
  obtain ⟨oc, od, dV, kV, doc, pm, an, cdv, ct, osl, rfl, lk, hc, hd, _⟩ := F.ex
  have e : dV = .none := by
    rcases hd with ⟨_, e⟩ | ⟨z, _⟩
    · exact e
    · exact absurd rfl z
  subst e
  obtain ⟨c, rfl⟩ := He.codeIn_ref hc
  exact ⟨⟨⟨oc, od, kV, doc, pm, an, _, ct, osl, rfl, lk, hc⟩, F.kp⟩, c, rfl, fun p hp => He.codeOf_eq (oc := oc) (od := od) (osl := osl) (by rw [hp]; exact lk) rfl⟩
variable [TN]
/-- the script stands as a list that is tracked, or locked, or written -/
theorem law_endT {Ps : List Addr} {F1 F2 : FS} {K : PySem.W.Frag} (h1 : ∀ ns : List Int, ns.length ≤ 63 → F1 [.fro (ns.map .int)] (.ok (.bl true))) (h2 : ∀ ns : List Int, ns.length ≤ 63 → F2 [.lst (ns.map .int)] (.ok (.bl true)))
    {H : Hp} {a : Addr} {ns : List Int} (hl : ns.length ≤ 63) (hT : ∀ p ∈ Ps, H p = some (.tbl #[])) (hS : SqL K H a (ns.map V.int)) : spTab K Ps F1 [.ref a] H (fun v _ => v = .bl true) (fun _ _ _ => False) ∨ spTab K Ps F2 [.ref a] H (fun v _ => v = .bl true) (fun _ _ _ => False) := by
  have tb : ∀ p ∈ Ps, TabS H p (TN.nm p) := fun p hp => .nil (hT p hp)
  have fin1 : ((∃ o, H a = some (.frz o (.lst (ns.map V.int)))) ∨ KLst K a (ns.map V.int)) → spTab K Ps F1 [.ref a] H (fun v _ => v = .bl true) (fun _ _ _ => False) := fun z => by
    refine ⟨tb, fun _ => False, [.fro (ns.map .int)], .ok (.bl true), fun _ h => h.elim, ⟨.ref a, [], rfl, ⟨a, ns.map V.int, rfl, z, rpl_ints.mpr rfl⟩, rfl⟩, h1 ns hl, fun d e v H' s r => ?_, fun d e => (by cases e), fun c e => (by cases e)⟩
    cases e
    exact r
  rcases hS with (h | h) | h
  · refine .inr ⟨tb, fun _ => False, [.lst (ns.map .int)], .ok (.bl true), fun _ h => h.elim, ⟨.ref a, [], rfl, ⟨a, ns.map V.int, rfl, h, id, rpl_ints.mpr rfl⟩, rfl⟩, h2 ns hl, fun d e v H' s r => ?_, fun d e => (by cases e), fun c e => (by cases e)⟩
    cases e
    exact r
  · exact .inl (fin1 (.inl h))
  · exact .inl (fin1 (.inr h))
end PD
/-! a def within a def, handed on -/
namespace PD
open PySem PySem.Spec PyProof.Rows L2 LamX NdefX
variable [TN]
theorem fnO_nt {f : Addr} {F : NF} : NT (FnO f F) := fun _ z => by
  unfold FnO at z
  cases z
section
variable {X : Cx} {pins : List (Addr × Obj)} {σ : L2.St} {H : Hp} {s : Shared}
theorem ndef_make3 {c P : Addr} {name : Str} {params : Arguments} {body : List Stmt} {scope : Scope} {pos : Pos} {E : Value → Shared → Prop} {Q : Value → Shared → Prop} (I : Inv X pins σ H s) (TB : TabB X.base X.mg c P) (hcode : X.env.code = .ref c) (hq : TN.nm P = X.env.qual ++ name) (hT : TabS H P (TN.nm P))
    (hfree : ∀ y ∈ scope.names, y.2 = .free → ∃ c, X.env.cells.lookup y.1 = some c)
    (h : ∀ (f c' : Addr) (H1 : Hp) (s' : Shared), Inv X pins σ H1 s' → Same H H1 → H1 f = some (FnO f ⟨name, X.env.qual ++ name, params, body, scope, cloFrom X.env.cells scope.names [], c'⟩) → H1 c' = some (CodeO c' (X.env.qual ++ name)) → Q (.ref f) s') :
    wpAny (model X.prog X.w) X.A (makeFunction name (X.env.qual ++ name) params (.stmts body) scope X.env [] [] [] pos pos.line) Q E s := by
  have hT0 := hT
  obtain ⟨tb, hP, ht, ha⟩ := hT
  have bP : s.heap.BuiltinsAt X.mg P := TB.bm.keeps I.bk
  have gP : s.heap.get? P = some { cls := .none, data := .fields tb } := I.hok P _ hP
  cases hc : codeAmong pos tb.toList with
  | none =>
    refine PySem.W.makeFunction_K (mg := X.mg) (c := c) (P := P) (ps := tb) (closure_ok hfree) I.ok.glob (I.mod.glob.keeps I.bk) hcode (TB.code.keeps I.bk) gP ht hc TB.gP bP fun c' ctv doc h1 tk hx hge hlt hrec htb => ?_
    obtain ⟨c2, oc, vs, t, e2, hoc, hd, hv⟩ := hrec
    cases e2
    have nC : H c' = none := I.hok.fresh hge
    have I1 := inv_table (t' := tk) (more := #[rawInt pos.line, rawInt pos.col, .ref c']) (h' := h1) I hP (fun b o hb e => hx b o hb e) htb hge ⟨oc, vs, t, hoc, hd, hv⟩
    have eL : (tb ++ #[rawInt pos.line, rawInt pos.col, .ref c']).toList = tb.toList ++ [rawInt pos.line, rawInt pos.col, .ref c'] := by simp
    have S1 := same_table (c' := c') (more := #[rawInt pos.line, rawInt pos.col, .ref c']) hP nC hT0 ⟨_, _, rfl, by rw [eL]; exact PySem.TriplesOk_snoc _ _ _ _ ht, fun p' cv z => by
      rw [eL] at z
      exact among_app _ ht z⟩
    rw [hq] at S1
    have nF := I1.hok.fresh (Nat.le_refl _)
    have I2 := inv_fn (F := ⟨name, X.env.qual ++ name, params, body, scope, cloFrom X.env.cells scope.names [], c'⟩) (t' := tk) (doc := doc) (pm := (X.mg "__name__").getD .none) (ctv := ctv) I1 rfl
    exact h _ c' _ _ I2 (S1.trans (Same.new nF)) upd_same ((Same.new nF) _ _ upd_same codeO_nt)
  | some cv =>
    obtain ⟨c', e, hco⟩ := ha pos cv hc
    subst e
    rw [hq] at hco
    refine PySem.W.makeFunction_hit (mg := X.mg) (c := c) (P := P) (ps := tb) (closure_ok hfree) I.ok.glob (I.mod.glob.keeps I.bk) hcode (TB.code.keeps I.bk) gP ht hc bP fun ctv doc h1 tk hx hsz => ?_
    have I1 : Inv X pins σ H { s with heap := h1, toks := tk } := I.kept hx
    have nF : H h1.objs.size = none := I1.hok.fresh (Nat.le_refl _)
    have I2 := inv_fn (F := ⟨name, X.env.qual ++ name, params, body, scope, cloFrom X.env.cells scope.names [], c'⟩) (t' := tk) (doc := doc) (pm := (X.mg "__name__").getD .none) (ctv := ctv) I1 rfl
    exact h _ c' _ _ I2 (Same.new nF) upd_same ((Same.new nF) _ _ hco codeO_nt)
end
/-- no slot is the def's own -/
def noOw : List Sl → Bool
  | [] => true
  | .ow _ :: _ => false
  | .od _ _ :: _ => false
  | _ :: l => noOw l
theorem noOw_as {K : PySem.W.Frag} {A : Addr → Prop} {H : Hp} : ∀ {sl : List Sl} {σ : L2.St} {as : Ow}, noOw sl = true → SlsOK K A H sl σ as → ∀ a, some a ∉ as
  | [], _, _, _, h, a, m => by
    obtain ⟨rfl, rfl⟩ := h
    cases m
  | s :: sl, _, _, hn, h, a, m => by
    obtain ⟨o, os, w, wr, rfl, rfl, h1, h2⟩ := h
    cases s with
    | un =>
      rcases List.mem_cons.mp m with e | m
      · cases (show w = none from h1); cases e
      · exact noOw_as (sl := sl) hn h2 a m
    | va d =>
      rcases List.mem_cons.mp m with e | m
      · obtain ⟨z, _⟩ := h1; cases z; cases e
      · exact noOw_as (sl := sl) hn h2 a m
    | ow d => cases hn
    | od ks ds => cases hn
section
variable {X : Cx} {B : Addr → Prop} {H0 : Hp} {sl : List Sl} {P : Po} {rest : List Stmt} {c PT : Addr} {name : Str} {params : Arguments} {body : List Stmt} {scope : Scope} {pos : Pos}
/-- def name(..): .., nothing being the def's own yet: what follows starts anew -/
theorem jss_ndef (i : Nat) (TB : TabB X.base X.mg c PT) (hcode : X.env.code = .ref c) (hq : TN.nm PT = X.env.qual ++ name) (hT : TabS H0 PT (TN.nm PT)) (hfree : ∀ y ∈ scope.names, y.2 = .free → X.env.scope.names.lookup y.1 = some .cell ∨ X.env.scope.names.lookup y.1 = some .free)
    (hd0 : params.defaults = []) (hk0 : params.kw_defaults = []) (ha : annTrees params none X.env = []) (hN : X.N.Nodup) (hi : X.N[i]? = some name) (hx : Loc X.env.scope name) (hno : noOw sl = true)
    (k : ∀ f c' H1, Same H0 H1 → H1 f = some (FnO f ⟨name, X.env.qual ++ name, params, body, scope, cloFrom X.env.cells scope.names [], c'⟩) → H1 c' = some (CodeO c' (X.env.qual ++ name)) → JSs X B H1 (sl.set i (.va (.rf f))) rest P)
    (hf : X.fn name = true ∨ X.env.scope.names.lookup name = some .local := by first | exact .inl rfl | exact .inr rfl) : JSs X B H0 sl (.FunctionDef name params body [] none [] scope none name pos :: rest) P := ⟨fun gh as σ H S => by
  refine PSst (pss_cons ps_w pss_w) (fun pins s I => ?_)
  have hqn : qualnameIn X.env name name = X.env.qual ++ name := by
    have hk : X.env.kindOf name = some .local ∨ X.env.kindOf name = some .cell := hx
    unfold qualnameIn
    rcases hk with z | z <;> rw [z] <;> first | rfl | exact if_neg (by decide)
  refine PySem.W.nestDef_K hd0 hk0 ha ?_
  rw [hqn]
  refine ndef_make3 I TB hcode hq (S.ex.tabs PT hT) (fun y hy e => (hfree y hy e).elim (fun z => I.ok.has _ (.inl z)) fun z => I.ok.has _ (.inr z)) fun f c' H1 s' I1 sm h1 h2 => ?_
  refine store_ok I1 hN hi hx (v := .ref f) rfl (fun s2 J => ⟨_, H1, J, ?_⟩) hf
  have S1 := (S.same sm).put (i := i) (d := .rf f) (v := .ref f) rfl
  have na : ∀ a, some a ∉ as := noOw_as hno S.sls
  have na' : ∀ a, some a ∉ as.set i none := fun a m => by
    rcases mem_set m with e | m
    · cases e
    · exact na a m
  have S2 : SOK X.K B H1 gh (as.set i none) (sl.set i (.va (.rf f))) (σ.set i (some (.ref f))) H1 := ⟨Same.refl H1, fun a h => (S.ex.trans sm).there (S.base a h), fun a m => absurd m (na' a), S1.inj, S1.held, S1.sls⟩
  have bk : ∀ {as' sl' σ' H'}, SOK X.K B H1 gh as' sl' σ' H' → SOK X.K B H0 gh as' sl' σ' H' := fun S' => ⟨(S.ex.trans sm).trans S'.ex, S.base, fun a m => (S.ex.trans sm).free (S'.own a m), S'.inj, S'.held, S'.sls⟩
  intro pins3 s3 I3
  refine thn ((k f c' H1 (S.ex.trans sm) h1 h2).run gh _ _ H1 S2 pins3 s3 I3) fun fl s4 q => SPm q ?_ ?_ ?_ ?_
  · exact fun _ _ ⟨as', sl', p, S'⟩ => ⟨as', sl', p, bk S'⟩
  · rintro v H' (⟨d, e, q1, q2⟩ | ⟨d, p, e, rfl, q1, q2, q3⟩)
    · exact .inl ⟨d, e, (S.ex.trans sm).trans q1, q2⟩
    · exact .inr ⟨d, p, e, rfl, (S.ex.trans sm).trans q1, (S.ex.trans sm).free q2, q3⟩
  · exact fun _ _ ⟨as', sl', p, S'⟩ => ⟨as', sl', p, bk S'⟩
  · exact fun _ _ ⟨as', sl', p, S'⟩ => ⟨as', sl', p, bk S'⟩⟩
end
/-- at the running def's begin f was the nested def F, ws what its captured names hold -/
structure FnAtB (X : Cx) (f : Addr) (F : NF) (fr : List Str) (ws : List V) : Prop where
  fn : X.H_0 f = some (FnO f F)
  cd : X.H_0 F.c = some (CodeO F.c F.qual)
  cells : CellsAt F.cl fr (ws.map some) X.s_0.heap X.H_0
  ex : X.ex = []
section
variable {X : Cx} {B : Addr → Prop} {m : Bool} {sl : List Sl} {a b : Expr} {es : List Expr} {ds : List D} {d : D} {pos p : Pos} {x : Str} {f : Addr} {F : NF} {fr ps N : List Str} {caps : List Int} {k : Nat} {E0 : XK}
/-- f(..), f a name that holds the nested def -/
theorem je_actN (i : Nat) (L : FnAtB X f F fr (caps.map V.int)) (Sc : NScope N ps fr F.scope) (hb : ∀ (doc pm ctv : Value) (us : List Value), us.length = ps.length → bindArgs (F.fd doc pm ctv) ⟨us, []⟩ = pure (ps.zip us))
    (hr : Room (k + 1) X.A) (hx : Passes CX0 X E0) (hN : X.N[i]? = some x) (hv : Vis X.env.scope x) (hsl : sl[i]? = some (.va (.rf f))) (ha : JA X B X.H_0 false sl (a :: es) ds) (hds : immL ds = true) (hl : ds.length = ps.length) (hd : imm d = true)
    (hbody : ∀ A outer s H E, Room k (A.deeper (envF F f s.heap.objs.size)) → JSs (ncx CX0 X.prog X.w X.K X.mg X.base N F f A outer s H E) (fun _ => False) H (starts N (ds ++ caps.map .int)) F.body (PoOf (.ok d)))
    (hdb : (x == ("__debug__" : Str)) = false := by decide) (hcd : (x == ("__classdict__" : Str)) = false := by decide)
    (he : starEach (a :: es) X.env = (false, eval a X.env) :: starEach es X.env := by rfl) (hpl : (backTo pos (starEach es X.env)).any (·.1) = false := by rfl) :
    JE X B X.H_0 m sl (.Call (.Name x p) (a :: es) [] pos) d := ⟨fun gh as σ H Q S q pins s I => by
  obtain ⟨o, w, e1, e2, e3, v, e4, r⟩ := S.sls.get hsl
  subst e4
  obtain rfl : v = .ref f := r
  have kf : ∀ {H'}, Same H H' → H' f = some (FnO f F) := fun s1 => (S.ex.trans s1).keep _ _ L.fn fnO_nt
  have kc : ∀ {H'}, Same H H' → H' F.c = some (CodeO F.c F.qual) := fun s1 => (S.ex.trans s1).keep _ _ L.cd codeO_nt
  have hF : NOk X.prog X.w X.K X.mg X.base CX0 (k + 1) f F ps fr (fun ws vs H Q E => ws = (caps.map V.int).map some ∧ RpL X.K (fun _ => False) H ds vs ∧ ∀ v H', Same H H' → Rp X.K (fun _ => False) H' d v → Q v H') := by
    refine nok_of Sc hb (fun ws vs H Q E z => by rw [z.2.1.len]; exact hl) fun A outer s H vs ws Q E hr' _ _ _ z => ?_
    obtain ⟨rfl, rv, hQ⟩ := z
    refine ⟨_, pss_w, fun pins0 sh I0 => ?_⟩
    have rA : RpL X.K (fun _ => False) H (ds ++ caps.map .int) (vs ++ caps.map V.int) := rv.app (rpl_ints.mpr rfl)
    rw [startF_eq] at I0
    refine thn ((hbody A outer s H E hr').run [] _ _ H (start_ok rA) pins0 sh I0) fun fl s' q => SPm q ?_ ?_ (fun _ _ ⟨_, _, z, _⟩ => z.elim) (fun _ _ ⟨_, _, z, _⟩ => z.elim)
    · rintro σ' H' ⟨as', sl', e, S'⟩
      cases e
      exact hQ .non H' S'.ex rfl
    · rintro v H' (⟨d', e, s1, r1⟩ | ⟨d', q, e, rfl, s1, hq, r1⟩)
      · cases e
        exact hQ v H' s1 r1
      · rcases e with e | e
        · cases e
        · cases e
          exact hQ _ H' s1 (r1.rp (fun z => z) fun a h => h.elim)
  refine wpAny_Call_Name_kw (thn ((pe_var (pos := p) hN hv hdb hcd).run pins s σ H (fun v H1 => v = .ref f ∧ H1 = H) I ⟨.ref f, e1, rfl, rfl⟩) fun u s1 ⟨v, H1, I1, r1, q1⟩ => ?_)
  obtain ⟨ev, eH⟩ := q1
  subst ev
  rw [eH] at I1
  obtain rfl : u = Value.ref f := r1
  refine PySem.W.callWith_F (first := []) (fnAt_of I1 (kf (Same.refl H))) (thn (ha.run gh as σ H (fun vs H' => Same H H' ∧ RpL X.K (Av B as false) H' ds vs) S (fun vs H' s' r' => ⟨s', r'⟩) pos pins s1 I1) fun us s2 ⟨vs, H2, I2, r, sm, rv⟩ => ⟨fnAt_of I2 (kf sm), ?_⟩) he hpl
  show wpAny _ _ (call (.ref f) us) _ _ _
  have C := cells_stay L.cells L.ex I2
  refine wpAny_call (codeAny_mono (hF.run X.A X.stack s2 H2 us vs _ (fun v H' => Same H2 H' ∧ Rp X.K (fun _ => False) H' d v) E0 hr I2.env0 (kf sm) (kc sm) C r ⟨rfl, rpl_imm hds rv, fun v H' z1 z2 => ⟨z1, z2⟩⟩) fun r s' hq => ?_)
  cases r with
  | error e => exact hx pins σ H2 s2 e s' I2 hq
  | ok fl =>
    cases fl with
    | ret u =>
      obtain ⟨v, H', I', rv', q1, q2⟩ := I2.after hq
      exact ⟨v, H', I', rv', q v _ (sm.trans q1) (q2.im hd)⟩
    | next => exact False.elim hq
    | brk => exact False.elim hq
    | cont => exact False.elim hq⟩
end
section
variable {X : Cx} {B : Addr → Prop} {H0 : Hp} {sl : List Sl} {e1 : Expr} {d1 : D} {ds : List D} {pos p p2 : Pos} {x y : Str} {g f c' : Addr} {fdg : FuncData} {stg : Stmt} {qg nx_ name : Str} {Ng psg fr : List Str} {params : Arguments} {body : List Stmt} {scope : Scope} {js : List Nat} {caps : List Int} {k : Nat}
/-- x(e1, y), y the nested def made here -/
theorem jf_fncall (iy : Nat) (Fg : Fun X.K nx_ qg stg g fdg) (Sg : FnScope Ng psg (defScope stg)) (hg : Gl X x) (hm : X.mg x = some (.ref g)) (bg : Binds X.K fdg psg []) (hpl : psg.length = 2)
    (hf : H0 f = some (FnO f ⟨name, X.env.qual ++ name, params, body, scope, cloFrom X.env.cells scope.names [], c'⟩)) (hc : H0 c' = some (CodeO c' (X.env.qual ++ name))) (hNy : X.N[iy]? = some y) (hvy : Vis X.env.scope y) (hsy : sl[iy]? = some (.va (.rf f)))
    (hfree : ∀ y ∈ scope.names, y.2 = .free → X.env.scope.names.lookup y.1 = some .cell ∨ X.env.scope.names.lookup y.1 = some .free) (hfr : ∀ y ∈ fr, (y, NameKind.free) ∈ scope.names) (hjs : js.map (fun j => X.N[j]?) = fr.map some)
    (hcaps : js.map (fun j => sl[j]?) = caps.map fun c => some (Sl.va (.int c))) (he : JE X B H0 false sl e1 d1) (hi1 : imm d1 = true) (hr : Room (k + 1) X.A) (hx : Passes CX0 X (fun _ _ _ => False)) (hi : immL ds = true)
    (hbody : ∀ cdg A outer s H E, Room k (A.deeper (envOfC qg (defScope stg) s.heap.objs.size g cdg)) → FnAtB (XOf X.prog X.w X.K X.mg X.base Ng qg (defScope stg) g cdg A outer s H E) f ⟨name, X.env.qual ++ name, params, body, scope, cloFrom X.env.cells scope.names [], c'⟩ fr (caps.map V.int) →
      JSs (XOf X.prog X.w X.K X.mg X.base Ng qg (defScope stg) g cdg A outer s H E) (fun _ => False) H (starts Ng [d1, .rf f]) (defBody stg) (PoOf (.fr (.lst ds))))
    (hdb : (x == ("__debug__" : Str)) = false := by decide) (hdy : (y == ("__debug__" : Str)) = false := by decide) (hcdy : (y == ("__classdict__" : Str)) = false := by decide) (hs1 : starEach [e1, .Name y p2] X.env = (false, eval e1 X.env) :: starEach [.Name y p2] X.env := by rfl) (hs2 : starEach [.Name y p2] X.env = (false, eval (.Name y p2) X.env) :: starEach [] X.env := by rfl)
    (hplain : (backTo pos (starEach [.Name y p2] X.env)).any (·.1) = false := by rfl) :
    JF X B H0 sl (.Call (.Name x p) [e1, .Name y p2] [] pos) (.lst ds) := ⟨fun gh as σ H Q S q pins s I => by
  have hy : JE X B H0 false sl (.Name y p2) (.rf f) := je_var iy hNy hvy hsy hdy hcdy
  have hA : JA X B H0 false sl [e1, .Name y p2] [d1, .rf f] := ja_cons he (ja_cons hy ja_nil hs2) hs1
  refine wpAny_Call_Name_kw (ld_glob I hg hm ?_ hdb)
  refine PySem.W.callWith_K (h₀ := X.base) I.ok.mod.kin Fg.kp (thn (hA.run gh as σ H (fun vs H' => Same H H' ∧ RpL X.K (Av B as false) H' [d1, .rf f] vs) S (fun vs H' s' r' => ⟨s', r'⟩) pos pins s I) fun us s1 ⟨vs, H1, I1, r, sm, rv⟩ => ⟨I1.kIn, ?_⟩) hs1 hplain
  show wpAny _ _ (call (.ref g) us) _ _ _
  obtain ⟨oc, od, kV, doc, pm, an, cdv, ct, osl, rfl, lk, hcd⟩ := Fg.ex
  have hlv : vs.length = psg.length := by rw [rv.len, hpl]; rfl
  have hl : us.length = psg.length := by rw [← r.length]; exact hlv
  have C := cells_of I1 (Caps.made I1.ok hfree hfr hjs)
  rw [slotAt_caps (S.same sm).sls hcaps] at C
  have hb2 : BindsTo s1 (PySem.W.fnOf nx_ qg (defArgs stg) (defBody stg) (defScope stg) .none kV doc pm an cdv ct) ⟨us, []⟩ (psg.zip us) := by
    have := bg s1 us I1.kIn (by rw [List.append_nil]; exact hl)
    rwa [List.append_nil] at this
  have rA : RpL X.K (fun _ => False) H1 [d1, .rf f] vs := rpl_imm (by show (imm d1 && (true && true)) = true; rw [hi1]; rfl) rv
  refine wpAny_call (codeAny_mono (run_ofS (CX := CX0) (N := Ng) (ps := psg) (us := us) (vs := vs) (Q := fun v H' => Same H1 H' ∧ ∃ p, v = .ref p ∧ H1 p = none ∧ RpO X.K (A1 (fun _ => False) p) H' p (.lst ds)) (E := fun _ _ _ => False) lk hcd Sg hr I1.env0 hb2 r hlv fun hr' => ?_) fun r s' hq => ?_)
  · refine ⟨_, (pss_w (X := XOf X.prog X.w X.K X.mg X.base Ng qg (defScope stg) g cdv X.A X.stack s1 H1 (fun _ _ _ => False))).nox, ?_⟩
    have L : FnAtB (XOf X.prog X.w X.K X.mg X.base Ng qg (defScope stg) g cdv X.A X.stack s1 H1 (fun _ _ _ => False)) f ⟨name, X.env.qual ++ name, params, body, scope, cloFrom X.env.cells scope.names [], c'⟩ fr (caps.map V.int) := ⟨(S.ex.trans sm).keep _ _ hf fnO_nt, (S.ex.trans sm).keep _ _ hc codeO_nt, C, rfl⟩
    have S0 := start_ok (N := Ng) rA
    intro pins0 sh I0
    refine thn ((hbody cdv X.A X.stack s1 H1 _ hr' L).run [] _ _ H1 S0 pins0 sh I0) fun fl s' q => SPm q ?_ ?_ (fun _ _ ⟨_, _, z, _⟩ => z.elim) (fun _ _ ⟨_, _, z, _⟩ => z.elim)
    · rintro σ' H' ⟨as', sl', e, S'⟩
      cases e
    · rintro v H' (⟨d, e, s1, r1⟩ | ⟨d, q, e, rfl, s1, hq, r1⟩)
      · cases e
      · rcases e with e | e
        · cases e
          exact ⟨s1, q, rfl, hq, r1⟩
        · cases e
  · cases r with
    | error e => exact hx pins σ H1 s1 e s' I1 hq
    | ok fl =>
      cases fl with
      | ret u =>
        obtain ⟨v, H', I', rv', q1, pp, rfl, hpn, q2⟩ := I1.after hq
        refine ⟨_, H', I', rv', q pp _ (sm.trans q1) (sm.free hpn) ?_⟩
        obtain ⟨xs, z1, z2⟩ := q2
        exact ⟨xs, z1, z2.im hi⟩
      | next => exact False.elim hq
      | brk => exact False.elim hq
      | cont => exact False.elim hq⟩
end
end PD
/-! a dict that is locked for good: it is read and walked -/
namespace PD
open PySem PySem.Spec PyProof.Rows L2
variable [TN]
section
variable {X : Cx} {B : Addr → Prop} {H0 : Hp} {sl : List Sl} {P : Po}
theorem SOK.fzd {K : PySem.W.Frag} {gh : Gh} {as : Ow} {σ : L2.St} {H : Hp} {i : Nat} {b : Addr} {ks : List (List Int)} {ds : List D} {xs : List V} {od : Obj} (S : SOK K B H0 gh as sl σ H) (hi : sl[i]? = some (.ow (.dct ks ds))) (ha : σ[i]? = some (some (.ref b)))
    (hb : H b = some (.dT ((dkeys ks).zip xs))) (hk : ks.length = ds.length) (hl : RpL K (AOf B as) H ds xs) :
    SOK K B H0 gh (as.set i none) (sl.set i (.va (.frd ks ds))) σ (upd H b (.frz od (.dT ((dkeys ks).zip xs)))) := by
  obtain ⟨o, w, e1, e2, b', e3, e4, e5⟩ := S.sls.get hi
  subst e3 e4
  rw [ha] at e1
  cases e1
  have own : some b ∈ as := List.mem_of_getElem? e2
  have h0 : H0 b = none := S.own b own
  have st : Stp (AOf B as) H (upd H b (.frz od (.dT ((dkeys ks).zip xs)))) := ⟨fun c u hc q _ => by
    by_cases z : c = b
    · subst z
      rw [hb] at hc
      cases hc
      rcases q with q | q
      · exact absurd (.inr own) q
      · exact q.elim
    · rw [upd_ne z]
      exact hc⟩
  obtain ⟨l1, l2⟩ := S.sls.len
  refine ⟨S.ex.mut h0 hb (by intro _ z; cases z) (by intro _ z; cases z), S.base, fun a h => ?_, inj_unset S.inj, fun q hq => ((S.held q hq).stp st).anti AOf.unset, SlsOK.mk (by rw [List.length_set]; exact l1) (by rw [List.length_set, List.length_set]; exact l2) fun j s o w h1 h2 h3 => ?_⟩
  · rcases mem_set h with e | h
    · cases e
    · exact S.own a h
  by_cases z : i = j
  · subst z
    rw [ha] at h2
    cases h2
    rw [List.getElem?_set] at h1 h3
    simp only [if_true] at h1 h3
    split at h1
    · cases h1
      split at h3
      · cases h3
        exact ⟨rfl, _, rfl, b, xs, rfl, ⟨od, upd_same⟩, hk, (hl.stp st).anti AOf.unset⟩
      · cases h3
    · cases h1
  · rw [List.getElem?_set_ne z] at h1 h3
    obtain ⟨o1, w1, q1, q2, q3⟩ := S.sls.get h1
    rw [q1] at h2
    cases h2
    rw [q2] at h3
    cases h3
    refine q3.to (fun c u hw hc _ => ?_) (fun h => (h.stp st).anti AOf.unset) (fun h => (h.stp st).anti AOf.unset)
    subst hw
    have nc : c ≠ b := fun z' => by
      subst z'
      exact z (S.inj i j c e2 q2)
    rw [upd_ne nc]
    exact hc
/-- an own dict is locked for good -/
theorem jss_fzd (i : Nat) {ks : List (List Int)} {ds : List D} {sts : List Stmt} (hs : sl[i]? = some (.ow (.dct ks ds))) (h : JSs X B H0 (sl.set i (.va (.frd ks ds))) sts P) : JSs X B H0 sl sts P := ⟨fun gh as σ H S pins s I => by
  obtain ⟨b, e1, e2, e3, xs, ht, hlen, hl⟩ := S.at hs
  obtain ⟨od, I1⟩ := I.lock ht trivial
  exact h.run gh _ σ _ (S.fzd hs e1 ht hlen hl) pins s I1⟩
end
section
variable {α : Type} {f : α → D} {X : Cx} {B : Addr → Prop} {H0 : Hp} {m : Bool} {sl : List Sl} {e a b ex tg : Expr} {d da db : D} {pos p p2 spos : Pos} {k : Nat} {kvs : List (Q × α)} {kq : Q} {v : α} {x : Str} {P : Po}
abbrev fQ (f : α → D) (kvs : List (Q × α)) : D := .frd (kvs.map fun p => [p.1.1, p.1.2]) (kvs.map fun p => f p.2)
theorem imm_fQ {α : Type} {f : α → D} (h : ∀ x, imm (f x) = true) (kvs : List (Q × α)) : imm (fQ f kvs) = true := immL_map (f := fun p : Q × α => f p.2) (fun x => h x.2) kvs
theorem Rp.fq {K : PySem.W.Frag} {A : Addr → Prop} {H : Hp} {v : V} (h : Rp K A H (fQ f kvs) v) : ∃ a xs o, v = .ref a ∧ H a = some (.frz o (.dT (zk kvs xs))) ∧ RpL K A H (kvs.map fun p => f p.2) xs := by
  obtain ⟨a, xs, e1, ⟨o, e2⟩, _, e3⟩ := h
  exact ⟨a, xs, o, e1, e2, e3⟩
theorem je_inF (hr : Room k X.A) (ha : JE X B H0 false sl a (fr kq)) (hb : JE X B H0 false sl b (fQ f kvs)) (hm : behindInMarks .In b = false := by rfl) : JE X B H0 m sl (.Compare a [.In] [b] pos) (.bl (dget kvs kq).isSome) := ⟨fun gh as σ H Q S q =>
  PEt (pe_cmp (pc_din (by have := hr.un; omega) pe_w pe_w) hm) (ha.run gh as σ H _ S fun y H1 s1 r1 => hb.run gh as σ H1 _ (S.same s1) fun z H2 s2 r2 => by
    obtain ⟨c, rfl, hc⟩ := key_at (r1.stp (.of s2))
    obtain ⟨a', xs, o, rfl, ht, hl⟩ := r2.fq
    obtain ⟨g1, g2⟩ := zk_get (k := kq) hl
    refine ⟨a', valV (zk kvs xs) (kk kq), rfl, .inr ⟨zk kvs xs, kk kq, c, .inr ⟨o, ht⟩, rfl, hc, rfl⟩, ?_⟩
    have e : (valV (zk kvs xs) (kk kq)).isSome = (dget kvs kq).isSome := by
      cases h : dget kvs kq with
      | none => rw [g1 h]; rfl
      | some v =>
        obtain ⟨x, h1, _⟩ := g2 v h
        rw [h1]
        rfl
    rw [e]
    exact q _ H2 (s1.trans s2) rfl)⟩
theorem zk_at {xs : List V} {k : Nat} {key : List L2.Key} {v : V} (h : (zk kvs xs)[k]? = some (key, v)) : ∃ p, kvs[k]? = some p ∧ key = kk p.1 := by
  obtain ⟨h1, h2⟩ := List.getElem?_zip_eq_some.mp h
  unfold dkeys at h1
  rw [List.map_map, List.getElem?_map] at h1
  cases e : kvs[k]? with
  | none => rw [e] at h1; cases h1
  | some p =>
    rw [e] at h1
    exact ⟨p, rfl, (Option.some.inj h1).symm⟩
theorem itok_k {K : PySem.W.Frag} {g : G1} {a : Addr} {o : Obj} {xs : List V} (hx : xs.length = kvs.length) (hg : g.1 = [(a, .frz o (.dT (zk kvs xs)))]) : ItOk K (kvs.map fun p => fr p.1) g (Itkt a o (zk kvs xs)) where
  go A k H G hk := by
    have h0 := (G.1 a _ (by rw [hg]; exact List.mem_cons_self)).1
    rw [List.length_map] at hk
    refine ⟨⟨h0, by show k < (List.zip _ _).length; rw [List.length_zip]; unfold dkeys; rw [List.length_map, List.length_map]; omega⟩, fun x H' y => ?_⟩
    obtain ⟨rfl, key, v, q, h1, rfl, h2⟩ := y
    obtain ⟨p, hp, rfl⟩ := zk_at h1
    refine ⟨Same.refl _, fr p.1, by rw [List.getElem?_map, hp]; rfl, q, _, rfl, h2, ?_⟩
    exact ⟨_, _, rfl, rfl, _, _, rfl, rfl, rfl⟩
  stop A H G := by
    have h0 := (G.1 a _ (by rw [hg]; exact List.mem_cons_self)).1
    rw [List.length_map]
    exact ⟨h0, by show (List.zip _ _).length ≤ _; rw [List.length_zip]; unfold dkeys; rw [List.length_map, List.length_map]; omega⟩
theorem ji_keysF (he : JE X B H0 true sl e (fQ f kvs)) : JI X B H0 sl tg e (kvs.map fun p => fr p.1) := ⟨fun gh as σ H R S q => PIt (pi_keys pe_w) (he.run gh as σ H _ S fun v H1 s1 r => by
  obtain ⟨a, xs, o, rfl, t, l⟩ := r.fq
  exact ⟨a, o, rfl, .inr ⟨_, t, q _ H1 ([(a, .frz o (.dT (zk kvs xs)))], [], []) s1 ⟨fun b u e => by cases List.mem_singleton.mp e; exact ⟨t, .inr trivial, by intro _ z; cases z⟩, rfl⟩ (itok_k (by rw [l.len, List.length_map]) rfl)⟩⟩)⟩
end
end PD
/-! d.pop(k), k a pair that is there -/
namespace DT
open PySem PySem.W PySem.Calls PyProof.Rows PyProof.V PySem.Spec
section
variable {K : Type} [DecidableEq K] {prog : Program} {w : World} {knd : HeapKind prog w K}
theorem meetsPop1 {d b : Addr} {k : K} :
    MeetsIn prog w (Builtin.«dict.pop» ⟨[.ref d, .ref b], []⟩) (fun A R s => ∃ xs p, knd.room A.in1 ∧ knd.is s.heap k b ∧ s.heap.DictOfH knd d xs ∧ xs.length ≤ sizeLine ∧ atKey xs k = some p ∧
      ∀ h' tk, h'.DictOfH knd d (dropH xs k) → Heap.SameBut d s.heap h' → R (.ok (.ret p.2)) { s with heap := h', toks := tk }) :=
  .of_wp fun A R s ⟨xs, p0, hu, hkey, hm, hsz, hp0, hsome⟩ => by
    obtain ⟨o, es, ep, ho, hc, hdat, he, his, hn⟩ := id hm
    have hes : es.size = xs.length := size_of_entries he
    have hpart : (keyPart (Value.ref b)).isSome = false := rfl
    unfold Builtin.«dict.pop»
    refine wpAny_bind ?_
    unfold Builtin.Dict.keyAndDefault
    refine wpAny_bind (wpAny_notOrdered_dict hm.typeIs ?_)
    show wpAny _ _ (pure (d, Value.ref b, none)) _ _ s
    refine wpAny_pure ?_
    simp only [hpart, Bool.false_eq_true, if_false]
    refine wpAny_bind (wpAny_dictEntries ho hdat (wpAny_bind (wpAny_pure ?_)))
    cases hem : es.isEmpty with
    | true =>
      have h0 : xs = [] := by
        have z : es.size = 0 := by simpa using hem
        exact List.length_eq_zero_iff.mp (by omega)
      rw [h0] at hp0
      cases hp0
    | false =>
      simp only [Bool.false_eq_true, if_false]
      refine wpAny_bind (takeH hu hkey hm hsz (fun hno => ?_) fun p e hp hev h' hm' hs' => ?_)
      · rw [hno] at hp0
        cases hp0
      · rw [hp] at hp0
        cases hp0
        simp only [Option.isNone_some, Bool.false_eq_true, if_false]
        exact wpAny_bind (wpAny_letGo (wpAny_pure ⟨e.val, rfl, by rw [hev]; exact hsome h' _ hm' hs'⟩))
end
end DT
namespace L2.DX
open PySem PySem.W PySem.Calls PyProof.Rows PyProof.V PySem.Spec L2
section
variable {X : Cx}
def rPopT1 : V → List V → Hp → VK → Prop := fun x xs H Q => ∃ (a : Addr) (kvs : List (List L2.Key × V)) (k : List L2.Key) (b : Addr) (v : V), x = .ref a ∧ xs = [.ref b] ∧ H a = some (.dT kvs) ∧ H b = some (.tup (k.map kV)) ∧
  valV kvs k = some v ∧ Q v (upd H a (.dT (dropK kvs k)))
theorem mt_popT1 (hu : X.A.units + 1 < cLine) : MtR X "dict.pop" rPopT1 := by
  intro pins s σ H x xs v us Q I rx rxs h
  obtain ⟨a, kvs, k, b, v0, rfl, rfl, ha, hb, ev, q1⟩ := h
  cases rx
  obtain ⟨u1, us', rfl, r1, r2⟩ : ∃ u1 us', us = u1 :: us' ∧ RelV (.ref b) u1 ∧ Vals [] us' := by
    cases rxs with
    | cons r1 r2 => exact ⟨_, _, rfl, r1, r2⟩
  cases r1
  cases r2
  obtain ⟨z, hd, xs', rel, dd⟩ := dt_of I.hok ha
  have hz : xs'.length ≤ sizeLine := by rw [← Paired.length rel]; exact z
  have r := rel.val k
  rw [ev] at r
  obtain ⟨p, hp, rv⟩ : ∃ p, atKey xs' k = some p ∧ RelV v0 p.2 := by
    cases hp : atKey xs' k with
    | none =>
      rw [hp] at r
      exact (show False from r).elim
    | some p =>
      rw [hp] at r
      exact ⟨p, rfl, r⟩
  refine call_meetsIn PySem.F.slot_dict_pop dd.typeIs PySem.F.entry_dict_pop (PySem.F.args_dict_pop_2 _ _) (DT.meetsPop1 (knd := tupleKind (mixKind X.prog X.w)) (k := k))
    ⟨xs', p, tupleKind_room_in1 hu, key_of I.hok hb, dd, hz, hp, fun h' tk dd' hs => ?_⟩
  obtain ⟨o, es, ep, hq, h2, h3, h4, _, h5⟩ := dd'
  have I2 : Inv X pins σ (upd H a (.dT (dropK kvs k))) { s with heap := h', toks := tk } :=
    d_write I (by rw [ha]; exact True.intro) hs ⟨o, hq⟩ ⟨Nat.le_trans (dropK_le kvs k) z, hd, _, (KT_drop k rel).keeps (fun c ys ec => (by rw [upd_ne (ne_of ec ha (fun z => nomatch z))]; exact ec)), o, es, ep, hq, h2, h3, h4, h5⟩
  show EP X pins σ Q p.2 _
  exact ⟨v0, _, I2, rv, q1⟩
end
end L2.DX
namespace PD
open PySem PySem.Spec PyProof.Rows L2
variable [TN]
section
variable {α : Type} {f : α → D} {X : Cx} {B : Addr → Prop} {H0 : Hp} {m : Bool} {sl : List Sl} {e : Expr} {pos p ap cp : Pos} {k : Nat} {kvs : List (Q × α)} {kq : Q} {v : α} {x : Str} {P : Po}
def ddrop (kvs : List (Q × α)) (k : Q) : List (Q × α) := kvs.filter fun p => decide (p.1 ≠ k)
theorem zk_drop {kq : Q} {K : PySem.W.Frag} {A : Addr → Prop} {H : Hp} : ∀ {kvs : List (Q × α)} {xs : List V}, RpL K A H (kvs.map fun p => f p.2) xs → ∃ ys, dropK (zk kvs xs) (kk kq) = zk (ddrop kvs kq) ys ∧ RpL K A H ((ddrop kvs kq).map fun p => f p.2) ys
  | [], xs, _ => ⟨[], rfl, rfl⟩
  | p :: kvs, _, h => by
    obtain ⟨x, r, rfl, h1, h2⟩ := h
    obtain ⟨ys, i1, i2⟩ := zk_drop (kq := kq) h2
    have e : zk (p :: kvs) (x :: r) = (kk p.1, x) :: zk kvs r := rfl
    unfold dropK at i1 ⊢
    unfold ddrop at i1 i2 ⊢
    rw [e, List.filter_cons, List.filter_cons]
    by_cases g : p.1 = kq
    · rw [decide_eq_false (show ¬ kk p.1 ≠ kk kq from fun z => z (kk_inj.mpr g)), decide_eq_false (show ¬ p.1 ≠ kq from fun z => z g)]
      simp only [Bool.false_eq_true, if_false]
      exact ⟨ys, i1, i2⟩
    · rw [decide_eq_true (show kk p.1 ≠ kk kq from fun z => g (kk_inj.mp z)), decide_eq_true (show p.1 ≠ kq from g)]
      simp only [if_true]
      exact ⟨x :: ys, by rw [i1]; rfl, x, ys, rfl, h1, i2⟩
/-- d.pop(k) -/
theorem js_popQ (i : Nat) (hr : Room k X.A) (hN : X.N[i]? = some x) (hv : Vis X.env.scope x) (ho : sl[i]? = some (.ow (dQ f kvs))) (he : JA X B H0 false sl [e] [fr kq]) (hg : dget kvs kq = some v) (h : P.nx (sl.set i (.ow (dQ f (ddrop kvs kq)))))
    (hs : swapsWith (.Call (.Attribute (.Name x p) "pop" ap) [e] [] cp) none pos.line X.env = pure false := by rfl) (hd : (x == ("__debug__" : Str)) = false := by decide) (hcd : (x == ("__classdict__" : Str)) = false := by decide)
    (hbase : attributeBase (.Name x p) "pop" X.env (eval (.Name x p) X.env) = eval (.Name x p) X.env := by rfl)
    (hfew : ((backTo cp (starEach [e] X.env)).all (fun x => !x.1) && (backToKw cp (keywordEach [] X.env)).all (fun x => x.1.isSome) && decide ([e].length + ([] : List Keyword).length + (if ([] : List Keyword).isEmpty then 0 else 1) < 30)) = true := by rfl)
    (hline : (ap.endLine == cp.line) = true := by rfl) (hst : starEach [e] X.env = (false, eval e X.env) :: starEach [] X.env := by rfl) (hpl : (backTo cp (starEach [] X.env)).any (·.1) = false := by rfl) : JS X B H0 sl (.Expr (.Call (.Attribute (.Name x p) "pop" ap) [e] [] cp) pos) P := ⟨fun gh as σ H S => by
  obtain ⟨q, e1, e2, e3, xs, e4, e6, e5⟩ := S.at ho
  refine PSt (ps_expr (pe_bm PySem.F.plainAttrs_dict PySem.F.slot_dict_pop PySem.F.type_dict_pop (L2.DX.mt_popT1 (by have := hr.un; omega)) (pe_var hN hv hd hcd) pa_w hbase hfew hline hst hpl) hs) ⟨.ref q, e1, Or.inr (Or.inr (Or.inl ⟨rfl, .inr ⟨_, e4⟩⟩)), he.run gh as σ H _ S fun vs H2 s2 r2 => ?_⟩
  obtain ⟨z, r', rfl, r3, r4⟩ := r2
  cases (show r' = [] from r4)
  obtain ⟨c, rfl, hc⟩ := key_at r3
  obtain ⟨w, g1, g2⟩ := (zk_get (k := kq) (e5.stp (.of s2))).2 v hg
  obtain ⟨ys, i1, i2⟩ := zk_drop (kq := kq) (e5.stp (.of s2))
  refine ⟨q, _, kk kq, c, w, rfl, rfl, s2 _ _ e4, hc, g1, as, _, h, ?_⟩
  have i1' : dropK ((dkeys (kvs.map fun p => [p.1.1, p.1.2])).zip xs) (kk kq) = (dkeys ((ddrop kvs kq).map fun p => [p.1.1, p.1.2])).zip ys := i1
  rw [i1']
  have st : Stp (AOf B as) H2 (upd H2 q (.dT ((dkeys ((ddrop kvs kq).map fun p => [p.1.1, p.1.2])).zip ys))) := (S.same s2).stpU e2 (s2 _ _ e4) (fun z => z)
  exact (S.same s2).mut ho e1 ⟨ys, upd_same, by rw [List.length_map, List.length_map], i2.stp st⟩⟩
end
end PD
/-! is, is not of truth values -/
namespace PD
open PySem PySem.Spec PyProof.Rows L2
variable [TN]
section
variable {X : Cx} {B : Addr → Prop} {H0 : Hp} {m : Bool} {sl : List Sl} {a b : Expr} {u v : Bool} {pos : Pos}
theorem op_isB : OpR X (compareOp .Is) (fun x y H Q => ∃ a b, x = .bl a ∧ y = .bl b ∧ Q (.bl (decide (a = b))) H) := by
  intro pins s σ H x y v u Q I rx ry h
  obtain ⟨a, b, rfl, rfl, q⟩ := h
  cases rx
  cases ry
  cases a <;> cases b <;> exact wpAny_pure (fin_bl I q rfl)
theorem op_notB : OpR X (compareOp .IsNot) (fun x y H Q => ∃ a b, x = .bl a ∧ y = .bl b ∧ Q (.bl (!decide (a = b))) H) := by
  intro pins s σ H x y v u Q I rx ry h
  obtain ⟨a, b, rfl, rfl, q⟩ := h
  cases rx
  cases ry
  cases a <;> cases b <;> exact wpAny_pure (fin_bl I q rfl)
theorem je_isB (ha : JE X B H0 false sl a (.bl u)) (hb : JE X B H0 false sl b (.bl v)) (hm : behindInMarks .Is b = false := by rfl) : JE X B H0 m sl (.Compare a [.Is] [b] pos) (.bl (decide (u = v))) := ⟨fun gh as σ H Q S q =>
  PEt (pe_cmpR op_isB pe_w pe_w hm) (ha.run gh as σ H _ S fun x H1 s1 r1 => hb.run gh as σ H1 _ (S.same s1) fun y H2 s2 r2 => by
    cases (show x = .bl u from r1)
    cases (show y = .bl v from r2)
    exact ⟨u, v, rfl, rfl, q _ H2 (s1.trans s2) rfl⟩)⟩
theorem je_isnotB (ha : JE X B H0 false sl a (.bl u)) (hb : JE X B H0 false sl b (.bl v)) (hm : behindInMarks .IsNot b = false := by rfl) : JE X B H0 m sl (.Compare a [.IsNot] [b] pos) (.bl (!decide (u = v))) := ⟨fun gh as σ H Q S q =>
  PEt (pe_cmpR op_notB pe_w pe_w hm) (ha.run gh as σ H _ S fun x H1 s1 r1 => hb.run gh as σ H1 _ (S.same s1) fun y H2 s2 r2 => by
    cases (show x = .bl u from r1)
    cases (show y = .bl v from r2)
    exact ⟨u, v, rfl, rfl, q _ H2 (s1.trans s2) rfl⟩)⟩
end
end PD
namespace PD
open PySem PySem.Spec PyProof.Rows L2
section
variable [TN] {α : Type} {f : α → D} {X : Cx} {B : Addr → Prop} {H0 : Hp} {m : Bool} {sl : List Sl} {e : Expr} {ds : List D} {pos p2 : Pos}
/-- a tuple cut -/
theorem je_slU {lo hi : Option Expr} {l h : Option Int} (he : JE X B H0 true sl e (.tup ds)) (hl : JP X B H0 sl lo l) (hh : JP X B H0 sl hi h) : JE X B H0 true sl (.Subscript e (.Slice lo hi none p2) pos) (.tup (cutD ds l h)) := ⟨fun gh as σ H Q S q =>
  PEt (pe_slice sl_tupA pe_w po_w po_w) (he.run gh as σ H _ S fun v H1 s1 r1 => hl.run (S.same s1) fun H2 s2 => hh.run (S.same (s1.trans s2)) fun H3 s3 => by
    obtain ⟨t, xs, rfl, ht, hx⟩ := r1.stp (.of (s2.trans s3))
    have sm := s1.trans (s2.trans s3)
    refine ⟨t, xs, rfl, .inl (.inl ht), fun hw => q _ H3 sm ⟨t, xs, rfl, ht, ?_⟩, fun hw w hn => q _ _ (sm.trans (Same.new hn)) ⟨w, _, rfl, upd_same, (cut_rpl hx).stp (.of (Same.new hn))⟩⟩
    have e : cutD ds l h = ds := by
      unfold cutD
      rw [← hx.len, hw.1, hw.2, List.drop_zero, Nat.sub_zero, hx.len]
      exact List.take_of_length_le (Nat.le_refl _)
    rw [e]
    exact hx)⟩
theorem je_slUTo {xs : List α} {i : Int} {hi : Expr} (he : JE X B H0 true sl e (.tup (xs.map f))) (hh : JE X B H0 false sl hi (.int i)) (h : 0 ≤ i) : JE X B H0 true sl (.Subscript e (.Slice none (some hi) none p2) pos) (.tup ((xs.take i.toNat).map f)) := by
  rw [← cut_to h]; exact je_slU he jo_none (jo_some hh)
end
end PD
namespace PD
open PySem PySem.Spec PyProof.Rows L2
section
variable [TN] {α : Type} {f : α → D} {X : Cx} {B : Addr → Prop} {H0 : Hp} {m : Bool} {sl : List Sl} {a b : Expr} {u v : Bool} {pos : Pos} {k : Nat} {kvs : List (Q × α)} {kq : Q}
theorem jt_isB (ha : JE X B H0 false sl a (.bl u)) (hb : JE X B H0 false sl b (.bl v)) (hm : behindInMarks .Is b = false := by rfl) : JT X B H0 sl (.Compare a [.Is] [b] pos) (decide (u = v)) := ⟨fun gh as σ H Q S q =>
  PTt (pt_cmpR op_isB pe_w pe_w hm) (ha.run gh as σ H _ S fun x H1 s1 r1 => hb.run gh as σ H1 _ (S.same s1) fun y H2 s2 r2 => by
    cases (show x = .bl u from r1)
    cases (show y = .bl v from r2)
    exact ⟨u, v, rfl, rfl, _, rfl, q H2 (s1.trans s2)⟩)⟩
theorem jt_isnotB (ha : JE X B H0 false sl a (.bl u)) (hb : JE X B H0 false sl b (.bl v)) (hm : behindInMarks .IsNot b = false := by rfl) : JT X B H0 sl (.Compare a [.IsNot] [b] pos) (!decide (u = v)) := ⟨fun gh as σ H Q S q =>
  PTt (pt_cmpR op_notB pe_w pe_w hm) (ha.run gh as σ H _ S fun x H1 s1 r1 => hb.run gh as σ H1 _ (S.same s1) fun y H2 s2 r2 => by
    cases (show x = .bl u from r1)
    cases (show y = .bl v from r2)
    exact ⟨u, v, rfl, rfl, _, rfl, q H2 (s1.trans s2)⟩)⟩
theorem jt_inF (hr : Room k X.A) (ha : JE X B H0 false sl a (fr kq)) (hb : JE X B H0 false sl b (fQ f kvs)) (hm : behindInMarks .In b = false := by rfl) : JT X B H0 sl (.Compare a [.In] [b] pos) (dget kvs kq).isSome := ⟨fun gh as σ H Q S q =>
  PTt (pt_cmp (pc_din (by have := hr.un; omega) pe_w pe_w) hm) (ha.run gh as σ H _ S fun y H1 s1 r1 => hb.run gh as σ H1 _ (S.same s1) fun z H2 s2 r2 => by
    obtain ⟨c, rfl, hc⟩ := key_at (r1.stp (.of s2))
    obtain ⟨a', xs, o, rfl, ht, hl⟩ := r2.fq
    obtain ⟨g1, g2⟩ := zk_get (k := kq) hl
    refine ⟨a', valV (zk kvs xs) (kk kq), rfl, .inr ⟨zk kvs xs, kk kq, c, .inr ⟨o, ht⟩, rfl, hc, rfl⟩, ?_⟩
    have e : (valV (zk kvs xs) (kk kq)).isSome = (dget kvs kq).isSome := by
      cases h : dget kvs kq with
      | none => rw [g1 h]; rfl
      | some v =>
        obtain ⟨x, h1, _⟩ := g2 v h
        rw [h1]
        rfl
    rw [e]
    exact ⟨_, rfl, q H2 (s1.trans s2)⟩)⟩
end
end PD
namespace PD
open PySem PySem.Spec PyProof.Rows L2
section
variable [TN] {X : Cx} {B : Addr → Prop} {H0 : Hp} {sl : List Sl} {c tg iter elt : Expr} {ifs : List Expr} {d0 : D} {pos : Pos} {P : Po} {y : Str} {scope : Scope} {own : List (Str × Nat)} {α β : Type}
/-- name = [..], one of the own lists read within -/
theorem js_setLcF {xs : List α} {g f : α → D} {t : α → Bool} {py : Pos} {spos : Pos} (ow : Bool) (j i : Nat) (hj : sl[j]? = some (.ow d0)) (hc : X.calm = true) (hN : X.N.Nodup) (hy : X.N[i]? = some y) (hyl : X.env.scope.names.lookup y = some .local) (hsw : swapsWith (.ListComp elt [⟨tg, iter, ifs, 0⟩] scope pos) (some (.Name y py)) spos.line X.env = pure true)
    (ok : BlkOk X.N X.env.scope scope own) (hi : JI X B H0 (sl.set j (.va d0)) tg iter (xs.map g)) (h1 : ifs.length ≤ 1) (hb : LcB X scope (own.map (·.2)) (sl.set j (.va d0)) tg elt ifs xs g f t) (hz : xs.length ≤ sizeLine) (him : immL ((xs.filter t).map f) = true)
    (h : P.nx (sl.set i (if ow then .ow (.lst ((xs.filter t).map f)) else .va (.lst ((xs.filter t).map f))))) (hs : ∀ x, foldedSetIterable iter X.env x = pure x := by intro _; rfl) : JS X B H0 sl (.Assign [.Name y py] (.ListComp elt [⟨tg, iter, ifs, 0⟩] scope pos) spos) P := ⟨fun gh as σ H S =>
  PSt (ps_setLc hc hN hy hyl hsw pi_w ok (fun _ _ _ _ _ => pg_b) (fun _ _ _ _ _ => pts_b h1) (fun _ _ _ _ _ => pe_b) hs) (lc_read hi hb hz (S.fz hj) fun q H1 s1 hq r0 => by
    have r1 : RpO X.K (A1 (AOf B as) q) H1 q (.lst ((xs.filter t).map f)) := (by
      obtain ⟨ys, e1, e2⟩ := r0
      exact ⟨ys, e1, e2.im him⟩)
    cases ow with
    | true => exact ⟨_, _, h, S.putO hq s1 r1⟩
    | false =>
      refine ⟨_, _, h, (S.same s1).put (r1.rp (fun z => ?_) fun b hb => .inl hb)⟩
      obtain ⟨o, ho⟩ := S.dom q z
      rw [hq] at ho
      cases ho)⟩
theorem js_lc1F {xs : List α} {g : α → D} {en : β → D} {h : α → β} {t : α → Bool} {py spos : Pos} (ow : Bool) (j i : Nat) (hj : sl[j]? = some (.ow d0)) (hen : ∀ x, imm (en x) = true) (hc : X.calm = true) (hN : X.N.Nodup) (hy : X.N[i]? = some y) (hyl : X.env.scope.names.lookup y = some .local) (hsw : swapsWith (.ListComp elt [⟨tg, iter, [c], 0⟩] scope pos) (some (.Name y py)) spos.line X.env = pure true) (ok : BlkOk X.N X.env.scope scope own) (hi : JI X B H0 (sl.set j (.va d0)) tg iter (xs.map g))
    (hb : ∀ x ∈ xs, ∃ sl', (∀ s H C cl fp B H0, JG (blkX X scope s H C cl fp) B H0 (own.map (·.2)) tg (g x) (wipeS (sl.set j (.va d0)) (own.map (·.2))) sl') ∧ (∀ s H C cl fp B H0, JT (blkX X scope s H C cl fp) B H0 sl' c (t x)) ∧ (t x = true → ∀ s H C cl fp B H0, JE (blkX X scope s H C cl fp) B H0 true sl' elt (en (h x)))) (hz : xs.length ≤ sizeLine)
    (k : P.nx (sl.set i (if ow then .ow (.lst (((xs.filter t).map h).map en)) else .va (.lst (((xs.filter t).map h).map en))))) (hs : ∀ x, foldedSetIterable iter X.env x = pure x := by intro _; rfl) : JS X B H0 sl (.Assign [.Name y py] (.ListComp elt [⟨tg, iter, [c], 0⟩] scope pos) spos) P := by
  refine js_setLcF (f := fun x => en (h x)) (t := t) ow j i hj hc hN hy hyl hsw ok hi (Nat.le_refl _) (fun x hx => by
    obtain ⟨s', h1, h2, h3⟩ := hb x hx
    exact ⟨s', h1, .one h2, h3⟩) hz (immL_map (f := fun x => en (h x)) (fun x => hen (h x)) _) ?_ hs
  rw [List.map_map] at k
  exact k
end
end PD
/-! for k in d.keys(), d a new dict with pair keys -/
namespace DT
open PySem PySem.W PySem.Calls PyProof.Rows PyProof.V PySem.Spec
section
variable {prog : Program} {w : World} {A : Around} {E : Value → Shared → Prop} {s : Shared} {d : Addr} {es : Array DictEntry} {ep : Nat}
theorem meetsKeysR (hd : (d == sysModules) = false) :
    MeetsIn prog w (Builtin.«dict.keys» ⟨[.ref d], []⟩) (fun _ R s => Raw s.heap d es ep ∧
      R (.ok (.ret (.ref s.heap.objs.size))) { s with heap := s.heap.push { cls := .type "dict_keys", data := .fields #[.ref d] } }) :=
  .of_wp fun A R s ⟨hm, h⟩ => by
    refine wpAny_bind ?_
    unfold Builtin.Dict.noArgs
    refine wpAny_bind (wpAny_notOrdered_dict hm.typeIs ?_)
    show wpAny _ _ (pure d) _ _ s
    refine wpAny_pure ?_
    show wpAny _ _ (Builtin.Dict.showsAll d >>= _) _ _ s
    unfold Builtin.Dict.showsAll
    rw [if_neg (by rw [hd]; exact Bool.false_ne_true)]
    refine wpAny_bind (wpAny_pure ?_)
    exact wpAny_bind (wpAny_newObj_type (wpAny_pure ⟨_, rfl, h⟩))
theorem iterKeysR {v : Addr} {Q : Value → Shared → Prop} (hv : KdlKeysView s.heap v d) (hm : Raw s.heap d es ep)
    (hQ : Q (.ref s.heap.objs.size) { s with heap := s.heap.push { cls := .type "dict_keyiterator", data := .fields #[.ref d, .int 0 0, .int es.size 0, .int ep 0] } }) :
    wpAny (model prog w) A (pyIter (.ref v)) Q E s := by
  obtain ⟨ov, hov, hcv, hdv⟩ := id hv
  obtain ⟨o, ho, hc, hdat⟩ := id hm
  refine wpAny_pyIter_slot hv.typeIs kdl_slot_keys_iter (wpAny_call_entry kdl_slot_keys_iter hv.typeIs kdl_entry_keys_iter ?_ (kdl_args_keys_iter _))
  unfold Builtin.«dict_keys.__iter__»
  refine wpAny_bind (wpAny_pure ?_)
  refine wpAny_bind ?_
  unfold Builtin.Dict_items.dictOf
  refine wpAny_bind (wpAny_field hov hdv (x := .ref d) rfl (wpAny_pure ?_))
  refine wpAny_bind ?_
  unfold Builtin.Dict_items.newIterator
  refine wpAny_bind (wpAny_dictEntries ho hdat ?_)
  refine wpAny_bind (wpAny_dictEpoch ho hdat ?_)
  have hown : Builtin.Dict_items.ownsTuple "dict_keyiterator" = false := by decide
  simp only [hown, Bool.false_eq_true, if_false]
  refine wpAny_newObj_type (wpAny_pure ⟨_, rfl, "dict_keyiterator", _, ⟨_, Heap.get?_push_size _ rfl, rfl⟩, PySem.F.slot_dict_keyiterator_next.lookup, ?_⟩)
  simpa [rawInt] using hQ
end
end DT
namespace PD
open PySem PySem.Spec PyProof.Rows L2
section
variable [TN] {α : Type} {f : α → D} {X : Cx} {B : Addr → Prop} {H0 : Hp} {sl : List Sl} {e tg : Expr} {apos cpos : Pos} {kvs : List (Q × α)}
theorem ji_keysM (he : JF X B H0 sl e (dQ f kvs)) (hbase : attributeBase e "keys" X.env (eval e X.env) = eval e X.env := by rfl) (hline : (apos.endLine == cpos.line) = true := by rfl) : JI X B H0 sl tg (.Call (.Attribute e "keys" apos) [] [] cpos) (kvs.map fun p => fr p.1) := ⟨fun gh as σ H R S q pins s I => by
  refine wpAny_Call_method (T := "dict") (id := "dict.keys") hbase rfl hline F.plainAttrs_dict F.slot_dict_keys F.type_dict_keys (thn (he.run gh as σ H (fun x H1 => ∃ p xs, x = .ref p ∧ Same H H1 ∧ H p = none ∧ H1 p = some (.dT (zk kvs xs)) ∧ xs.length = kvs.length) S (fun p H' sm hp r => by
    obtain ⟨xs, h1, h2, h3⟩ := r
    exact ⟨p, xs, rfl, sm, hp, h1, by rw [h3.len, List.length_map]⟩) pins s I) fun u s1 ⟨x, H1, I1, rx, p, xs, ex, sm, hp, hd, hlen⟩ => ?_)
  subst ex
  obtain rfl : u = Value.ref p := rx
  obtain ⟨od, I2⟩ := I1.lock hd trivial
  obtain ⟨hs, hgd, hx, es, ep, hdt, hsz, ent⟩ := I2.frzT upd_same
  have raw : DT.Raw s1.heap p es ep := ⟨od, hgd, hx, hdt⟩
  refine ⟨raw.typeIs, ?_, ?_⟩
  · first
      | exact ⟨od, hgd, hx.2.1⟩
      | exact fun a z => (by cases z; exact ⟨od, hgd, hx.2.1⟩)
  have I3 : Inv X pins σ (upd H1 p (.frz od (.dT (zk kvs xs)))) { s1 with heap := s1.heap.push { cls := .type "dict_keys", data := .fields #[.ref p] } } := I2.kept (t' := s1.toks) fun b ob q => Heap.get?_push_of_some _ q
  have same : Same H (upd H1 p (.frz od (.dT (zk kvs xs)))) := sm.mut hp hd (by intro _ z; cases z) (by intro _ z; cases z)
  have qR := q (Itkt p od (zk kvs xs)) _ ([(p, .frz od (.dT (zk kvs xs)))], [], []) same ⟨fun b u e => by cases List.mem_singleton.mp e; exact ⟨upd_same, .inr trivial, by intro _ z; cases z⟩, rfl⟩ (itok_k hlen rfl)
  have fin : wpAny (model X.prog X.w) X.A (pyIter (.ref s1.heap.objs.size)) (PIE X pins σ tg R) X.xe { s1 with heap := s1.heap.push { cls := .type "dict_keys", data := .fields #[.ref p] } } := by
    refine DT.iterKeysR (d := p) ⟨_, Heap.get?_push_size _ rfl, rfl, rfl⟩ (raw.push _) (pi_one (tk := s1.toks) I3 _ (turn_keysT _ hdt) ⟨_, Heap.get?_push_size _ rfl, rfl, ?_⟩ qR)
    rw [hsz] <;> rfl
  show wpAny _ _ (callWith cpos (.builtin "dict.keys") [.ref p] [] []) _ X.xe s1
  exact method_meetsIn F.slot_dict_keys F.entry_dict_keys rfl (PySem.evalArgs_none ⟨rfl, raw.typeIs, F.args_dict_keys_1 _, _, DT.meetsKeysR (es := es) (ep := ep) hs, raw, fin⟩)⟩
end
end PD
/-! sorted of triples of ints whose third is told by the two ahead -/
namespace SrtO
open PySem PyProof.Rows Srt
section
variable {prog : Program} {w : World} {A : Around} {E : Value → Shared → Prop} {s : Shared}
def IsTrip (h : Heap) (v : Value) (x y : Int) : Prop := ∃ a o t u r n, v = .ref a ∧ h.get? a = some o ∧ o.cls = .type "tuple" ∧ o.data = .seq #[.int x t, .int y u, .int (x - y) r] n
theorem IsTrip.keeps {h h' : Heap} {v : Value} {x y : Int} (p : IsTrip h v x y) (k : ∀ b o, h.get? b = some o → o.cls = .type "tuple" → h'.get? b = some o) : IsTrip h' v x y := by
  obtain ⟨a, o, t, u, r, n, e, ho, hc, hd⟩ := p
  exact ⟨a, o, t, u, r, n, e, k _ _ ho hc, hc, hd⟩
theorem firsts3 {h : Heap} : ∀ {vs : List Value}, (∀ v ∈ vs, ∃ x y, IsTrip h v x y) → ∃ fs : List Value, PySem.W.KatTups h vs fs ∧ fs.length = vs.length ∧ ∀ f ∈ fs, ∃ x t, f = Value.int x t
  | [], _ => ⟨[], PySem.W.KatTups.nil, rfl, fun _ hm => by simp at hm⟩
  | v :: vs, hp => by
    obtain ⟨fs, h1, h2, h3⟩ := firsts3 (vs := vs) fun v' hm => hp v' (List.mem_cons_of_mem _ hm)
    obtain ⟨x, y, a, o, t, u, r, n, e, ho, hc, hd⟩ := hp v (List.mem_cons_self ..)
    subst e
    refine ⟨.int x t :: fs, PySem.W.KatTups.cons ho hc hd rfl h1, by rw [List.length_cons, List.length_cons, h2], fun f hm => ?_⟩
    rcases List.mem_cons.mp hm with rfl | hm
    · exact ⟨x, t, rfl⟩
    · exact h3 f hm
theorem trip_cmp {vs : List Value} {k : Value → Int × Int} (hp : ∀ v ∈ vs, IsTrip s.heap v (k v).1 (k v).2) : Cmp prog w A s (tuples' true) (fun p => p.1 ∈ vs) (lt2 fun v u => lexB (k v) (k u)) := by
  intro p q hm hm'
  have h1 := hp _ hm
  have h2 := hp _ hm'
  show wpAny (model prog w) A (keyLt' (tuples' true) p.1 q.1) (fun r s' => s' = s ∧ r = lexB (k p.1) (k q.1)) (fun _ _ => False) s
  unfold lexB
  generalize (k p.1).1 = x at h1 ⊢
  generalize (k p.1).2 = y at h1 ⊢
  generalize (k q.1).1 = x' at h2 ⊢
  generalize (k q.1).2 = y' at h2 ⊢
  obtain ⟨a, o, t, u, r, n, e, ho, hc, hd⟩ := h1
  obtain ⟨a', o', t', u', r', n', e', ho', hc', hd'⟩ := h2
  rw [e, e']
  refine PySem.W.kat_lt ho hd ho' hd' ?_
  show PySem.W.KatLex prog w A true (decide (3 < 3)) _ [(.int x t, .int x' t'), (.int y u, .int y' u'), (.int (x - y) r, .int (x' - y') r')] 0 s
  refine PySem.W.kat_cons (SeqAt.EqAt.int_int x t x' t' prog w _ _ ?_)
  refine PySem.W.kat_go (fun e1 => ?_) (fun e1 => ?_)
  · have ex : x = x' := by simpa using e1
    refine PySem.W.kat_yes (PySem.W.kat_cons (SeqAt.EqAt.int_int y u y' u' prog w _ _ ?_))
    refine PySem.W.kat_go (fun e2 => ?_) (fun e2 => ?_)
    · have ey : y = y' := by simpa using e2
      have e3 : (if x = x' then decide (y < y') else decide (x < x')) = false := by
        rw [if_pos ex, ey]
        exact decide_eq_false (Int.lt_irrefl _)
      refine PySem.W.kat_yes (PySem.W.kat_cons (SeqAt.EqAt.int_int (x - y) r (x' - y') r' prog w _ _ ?_))
      refine PySem.W.kat_go (fun _ => PySem.W.kat_yes (PySem.W.kat_nil ⟨rfl, e3.symm⟩)) (fun e4 => ?_)
      exact absurd (show x - y = x' - y' by rw [ex, ey]) (by simpa using e4)
    · have e3 : (if x = x' then decide (y < y') else decide (x < x')) = decide (y < y') := if_pos ex
      refine PySem.W.kat_no (PySem.W.kat_one _ _ (PyProof.Rows.lt_int ?_))
      exact (show s = s ∧ decide (y < y') = (if x = x' then decide (y < y') else decide (x < x')) from ⟨rfl, e3.symm⟩)
  · have ex : ¬ x = x' := by simpa using e1
    have e3 : (if x = x' then decide (y < y') else decide (x < x')) = decide (x < x') := if_neg ex
    exact PySem.W.kat_no (oneLt_int ⟨rfl, e3.symm⟩)
theorem trips_sortableO {a : Addr} {vs : List Value} {k : Value → Int × Int} (h0 : 0 < vs.length) (hp : ∀ v ∈ vs, IsTrip s.heap v (k v).1 (k v).2) (ha : ∀ o, s.heap.get? a = some o → o.cls ≠ .type "tuple") : SortableO prog w A s a vs fun v u => lexB (k v) (k u) := by
  intro h' keep
  have hp' : ∀ v ∈ vs, IsTrip h' v (k v).1 (k v).2 := fun v hm => (hp v hm).keeps fun b o e c => keep b o (fun z => by subst z; exact ha o e c) e
  obtain ⟨fs, h1, h2, h3⟩ := firsts3 fun v hm => ⟨_, _, hp' v hm⟩
  refine ⟨tuples' true, fun Q E hq => ?_, trip_cmp hp'⟩
  refine PySem.W.kat_kind (T := .type "int") h1 (by omega) (fun f hm => ?_) (by rfl) ?_
  · obtain ⟨x, t, rfl⟩ := h3 f hm
    exact PySem.W.Looks.now
  · have e : (Value.type "int" != Value.type "tuple") = true := by first | decide +kernel | rfl | decide
    rw [e]
    exact hq
theorem sorted_tripsO {l : Addr} {vs : List Value} {k : Value → Int × Int} {Q : Value → Shared → Prop} (hl : s.heap.IsList l vs.toArray) (hz : vs.length ≤ sizeLine) (hp : ∀ v ∈ vs, IsTrip s.heap v (k v).1 (k v).2)
    (h : ∀ (h' : Heap) (d : Addr) (out : List Value), Srtd (fun v u => lexB (k v) (k u)) out → Stb (fun v u => lexB (k v) (k u)) out vs → (∀ b o, s.heap.get? b = some o → h'.get? b = some o) → s.heap.objs.size ≤ d → (∃ n, h'.get? d = some (seqObj "list" out.toArray n)) → Q (.ref d) { s with heap := h' }) :
    wpAny (model prog w) A (call (.builtin "sorted") [.ref l]) Q E s := by
  refine sorted_ord (swo_lex k) hl hz (fun h2 h₁ a ha kk => ?_) fun out hs hb => ?_
  · refine trips_sortableO (s := { s with heap := h₁ }) (by omega) (fun v hm => (hp v hm).keeps fun b o e _ => (kk b o e).2) fun o e => ?_
    have e' : some o = some (seqObj "list" vs.toArray 0) := e.symm.trans ha
    cases e'
    intro c
    exact absurd (Value.type.inj c) (by decide)
  · exact h _ _ out hs hb (fun b o e => sortedAll_old e) (Nat.le_succ _) (sortedAll_at s.heap vs out.toArray)
end
end SrtO
/-! sorted of a list of triples, as a rule -/
namespace L2
open PySem PySem.Spec PyProof.Rows
def rSortedTO (K : PySem.W.Frag) : List V → Hp → VK → Prop := fun vs H Q => ∃ (a : Addr) (xs : List V) (k : V → Int × Int), vs = [V.ref a] ∧ SqL K H a xs ∧ (∀ x ∈ xs, ∃ t, x = V.ref t ∧ H t = some (.tup [.int (k x).1, .int (k x).2, .int ((k x).1 - (k x).2)])) ∧
  ∀ ys p, SrtO.Srtd (ltP k) ys → SrtO.Stb (ltP k) ys xs → H p = none → Q (.ref p) (upd H p (.lst ys))
section
variable {X : Cx}
theorem cr_sortedTO : CallR X (.builtin "sorted") (rSortedTO X.K) := by
  intro pins s σ H vs us Q I r h
  obtain ⟨a, xs, k, rfl, hs, hx, q⟩ := h
  obtain ⟨its, rv, hl, hz⟩ := I.list hs
  obtain ⟨u, rfl, ru⟩ := vals1 r
  obtain rfl : u = Value.ref a := ru
  obtain ⟨e1, e2⟩ := refs_back rv fun x m => by
    obtain ⟨t, e, _⟩ := hx x m
    exact ⟨t, e⟩
  refine SrtO.sorted_tripsO (k := fun u => k (backV u)) hl.isList (by rw [← rv.length]; exact hz) (fun v hv => ?_) fun h' d out h1 h2 kp hd hn => ?_
  · obtain ⟨t, rfl⟩ := e2 v hv
    have hm : V.ref t ∈ xs := by rw [e1]; exact List.mem_map.mpr ⟨_, hv, rfl⟩
    obtain ⟨t', e, ht⟩ := hx _ hm
    cases e
    obtain ⟨_, its2, r2, o, ho, hc, n, hd⟩ := I.hok _ _ ht
    cases r2 with
    | cons ri r3 =>
      obtain ⟨u1, u2, rfl, rj, rk⟩ := vals2 r3
      obtain ⟨t1, rfl⟩ := ri
      obtain ⟨t2, rfl⟩ := rj
      obtain ⟨t3, rfl⟩ := rk
      exact ⟨t, o, t1, t2, t3, n, rfl, ho, hc, hd⟩
  · have h3 : ∀ u ∈ out, ∃ a, u = Value.ref a := fun u hu => e2 u (h2.perm.mem_iff.mp hu)
    obtain ⟨n, hn⟩ := hn
    have hb : SrtO.Stb (ltP k) (out.map backV) xs := by
      rw [e1]
      exact SrtO.Stb.map (ltP_swo k) backV h2
    refine ⟨.ref d, upd H d (.lst (out.map backV)), I.laid (t' := s.toks) kp hd ⟨?_, out, n, vals_back h3, hn⟩, rfl, q _ d (SrtO.srtd_map h1) hb (I.hok.fresh hd)⟩
    rw [hb.len]
    exact hz
end
end L2
/-! sorted of a list of triples (line, bad, good) -/
namespace PD
open PySem PySem.Spec PyProof.Rows L2
theorem RpL.perm {K : PySem.W.Frag} {A : Addr → Prop} {H : Hp} {xs ys : List V} (p : ys.Perm xs) : ∀ {ds : List D}, RpL K A H ds xs → ∃ es : List D, es.Perm ds ∧ RpL K A H es ys := by
  induction p with
  | nil => exact fun h => ⟨_, .refl _, h⟩
  | cons x p ih =>
    intro ds h
    cases ds with
    | nil => cases (show _ = [] from h)
    | cons d ds =>
      obtain ⟨x', r, e, h1, h2⟩ := h
      cases e
      obtain ⟨es, q1, q2⟩ := ih h2
      exact ⟨d :: es, q1.cons d, _, _, rfl, h1, q2⟩
  | swap x y l =>
    intro ds h
    cases ds with
    | nil => cases (show _ = [] from h)
    | cons d ds =>
      obtain ⟨x', r, e, h1, h2⟩ := h
      cases e
      cases ds with
      | nil => cases (show _ = [] from h2)
      | cons d2 ds =>
        obtain ⟨x2, r2, e2, h3, h4⟩ := h2
        cases e2
        exact ⟨d2 :: d :: ds, List.Perm.swap _ _ _, _, _, rfl, h3, _, _, rfl, h1, h4⟩
  | trans p1 p2 i1 i2 =>
    intro ds h
    obtain ⟨es, q1, q2⟩ := i2 h
    obtain ⟨fs, q3, q4⟩ := i1 q2
    exact ⟨fs, q3.trans q1, q4⟩
/-- the two ints ahead of a triple -/
def keyV (H : Hp) : V → Int × Int
  | .ref t => match H t with
    | some (.tup (.int a :: .int b :: _)) => (a, b)
    | _ => (0, 0)
  | _ => (0, 0)
abbrev triD (c : Int × Int × Int) : D := .tup [.int c.1, .int c.2.1, .int c.2.2]
theorem tri_at {K : PySem.W.Frag} {A : Addr → Prop} {H : Hp} {c : Int × Int × Int} {v : V} (h : Rp K A H (triD c) v) : ∃ t, v = .ref t ∧ H t = some (.tup [.int c.1, .int c.2.1, .int c.2.2]) := by
  obtain ⟨t, xs, rfl, ht, x1, r1, rfl, h1, x2, r2, rfl, h2, x3, r3, rfl, h3, h4⟩ := h
  cases (show x1 = .int c.1 from h1)
  cases (show x2 = .int c.2.1 from h2)
  cases (show x3 = .int c.2.2 from h3)
  cases (show r3 = [] from h4)
  exact ⟨t, rfl, ht⟩
theorem key_tri {K : PySem.W.Frag} {A : Addr → Prop} {H : Hp} {c : Int × Int × Int} {v : V} (h : Rp K A H (triD c) v) : keyV H v = (c.1, c.2.1) := by
  obtain ⟨t, rfl, ht⟩ := tri_at h
  show (match H t with | some (.tup (.int a :: .int b :: _)) => (a, b) | _ => (0, 0)) = _
  rw [ht]
theorem map_perm {cs : List (Int × Int × Int)} {es : List D} (p : es.Perm (cs.map triD)) : ∃ l : List (Int × Int × Int), l.Perm cs ∧ es = l.map triD := by
  have hm : ∀ e ∈ es, ∃ c, e = triD c := fun e he => by
    obtain ⟨c, _, rfl⟩ := List.mem_map.mp (p.mem_iff.mp he)
    exact ⟨c, rfl⟩
  obtain ⟨l, rfl⟩ : ∃ l : List (Int × Int × Int), es = l.map triD := by
    clear p
    induction es with
    | nil => exact ⟨[], rfl⟩
    | cons e es ih =>
      obtain ⟨l, rfl⟩ := ih fun e he => hm e (List.mem_cons_of_mem _ he)
      obtain ⟨c, rfl⟩ := hm e List.mem_cons_self
      exact ⟨c :: l, rfl⟩
  refine ⟨l, ?_, rfl⟩
  have inv : ∀ l : List (Int × Int × Int), (l.map triD).map (fun d => match d with | .tup [.int a, .int b, .int c] => (a, b, c) | _ => (0, 0, 0)) = l := fun l => by
    rw [List.map_map]
    exact List.map_id _
  have := p.map (fun d => match d with | .tup [.int a, .int b, .int c] => (a, b, c) | _ => (0, 0, 0))
  rw [inv, inv] at this
  exact this
theorem tri_all {K : PySem.W.Frag} {A : Addr → Prop} {H : Hp} : ∀ {l : List (Int × Int × Int)} {ys : List V}, RpL K A H (l.map triD) ys → ys.map (keyV H) = l.map fun c => (c.1, c.2.1)
  | [], ys, h => by cases (show ys = [] from h); rfl
  | c :: l, _, h => by
    obtain ⟨x, r, rfl, h1, h2⟩ := h
    rw [List.map_cons, List.map_cons, key_tri h1, tri_all h2]
section
variable [TN] {X : Cx} {B : Addr → Prop} {H0 : Hp} {sl : List Sl} {a : Expr} {pos p : Pos} {cs ds : List (Int × Int × Int)}
theorem jf_sort3 (hg : Gl X "sorted") (hm : X.mg "sorted" = none) (ha : JA X B H0 true sl [a] [.lst (cs.map triD)]) (ht : ∀ c ∈ cs, c.2.2 = c.1 - c.2.1)
    (hu : ∀ l : List (Int × Int × Int), l.Perm cs → (l.map fun c => (c.1, c.2.1)).Pairwise (fun x y => SrtO.lexB y x = false) → l = ds)
    (he : starEach [a] X.env = (false, eval a X.env) :: starEach [] X.env := by rfl) (hpl : (backTo pos (starEach [] X.env)).any (·.1) = false := by rfl) : JF X B H0 sl (.Call (.Name "sorted" p) [a] [] pos) (.lst (ds.map triD)) := ⟨fun gh as σ H Q S q =>
  PEt (pe_callB cr_sortedTO hg hm boot_sorted pa_w (by decide) (by decide) he hpl) (ha.run gh as σ H _ S fun vs H1 s1 r1 => by
    obtain ⟨z, r', rfl, h1, h2⟩ := r1
    cases (show r' = [] from h2)
    obtain ⟨t, xs, rfl, hs, nA, hx⟩ := h1
    refine ⟨t, xs, keyV H1, rfl, .inl (.inl hs), fun x hxm => ?_, fun ys w h3 h4 hw => ?_⟩
    · obtain ⟨i, hi⟩ := List.getElem?_of_mem hxm
      obtain ⟨d, hd, rd⟩ := hx.getx hi
      rw [List.getElem?_map] at hd
      cases hc : cs[i]? with
      | none => rw [hc] at hd; cases hd
      | some c =>
        rw [hc] at hd
        cases hd
        obtain ⟨u, rfl, hu'⟩ := tri_at rd
        refine ⟨u, rfl, ?_⟩
        rw [key_tri rd, hu', ht c (List.mem_of_getElem? hc)]
    · obtain ⟨es, p1, p2⟩ := hx.perm h4.perm
      obtain ⟨l, q1, rfl⟩ := map_perm p1
      have hk := tri_all p2
      have hl : l = ds := hu l q1 (by rw [← hk]; exact List.pairwise_map.mpr h3)
      subst hl
      exact q w _ (s1.trans (Same.new hw)) (s1.free hw) ⟨_, upd_same, (RpL.A1 p2 hw).stp (.of (Same.new hw))⟩)⟩
end
end PD
/-! an own dict of own lists, by a def that was handed nothing that can be changed; lists that are locked for good -/
namespace PD
open PySem PySem.Spec PyProof.Rows L2
variable [TN]
theorem RpL.mk {K : PySem.W.Frag} {A : Addr → Prop} {H : Hp} : ∀ {ds : List D} {xs : List V}, xs.length = ds.length → (∀ (j : Nat) d x, ds[j]? = some d → xs[j]? = some x → Rp K A H d x) → RpL K A H ds xs
  | [], [], _, _ => rfl
  | [], _ :: _, h, _ => by simp at h
  | _ :: _, [], h, _ => by simp at h
  | d :: ds, x :: xs, h, p => ⟨x, xs, rfl, p 0 d x rfl rfl, RpL.mk (by simpa using h) fun j d' x' a b => p (j + 1) d' x' (by simpa using a) (by simpa using b)⟩
/-- what a loop holds can't be changed -/
structure GhI (g : G1) : Prop where
  objs : ∀ a u, (a, u) ∈ g.1 → isT u
  vals : immL g.2.1 = true
structure JSsI (X : Cx) (B : Addr → Prop) (H0 : Hp) (sl : List Sl) (st : List Stmt) (P : Po) : Prop where
  run : ∀ gh as σ H, (∀ g ∈ gh, GhI g) → SOK X.K B H0 gh as sl σ H → tSs X st (eo X.K B H0 gh P) σ H
structure JSI (X : Cx) (B : Addr → Prop) (H0 : Hp) (sl : List Sl) (st : Stmt) (P : Po) : Prop where
  run : ∀ gh as σ H, (∀ g ∈ gh, GhI g) → SOK X.K B H0 gh as sl σ H → tS X st (eo X.K B H0 gh P) σ H
structure JII (X : Cx) (B : Addr → Prop) (H0 : Hp) (sl : List Sl) (tg iter : Expr) (ds : List D) : Prop where
  run : ∀ gh as σ H R, SOK X.K B H0 gh as sl σ H → (∀ J H1 g, Same H H1 → GhI g → GhOK X.K (AOf B as) H1 g → ItOk X.K ds g J → R J H1) → tI X tg iter σ H R
section
variable {X : Cx} {B : Addr → Prop} {H0 : Hp} {sl sl' : List Sl} {P : Po} {sts rest body : List Stmt} {st : Stmt} {d : D} {ds : List D} {tg iter : Expr} {pos : Pos}
theorem jssI_of (h : JSs X B H0 sl sts P) : JSsI X B H0 sl sts P := ⟨fun gh as σ H _ S => h.run gh as σ H S⟩
theorem jsI_of (h : JS X B H0 sl st P) : JSI X B H0 sl st P := ⟨fun gh as σ H _ S => h.run gh as σ H S⟩
theorem jssI_cons (M : List Sl → Prop) (h : JSI X B H0 sl st { P with nx := M }) (k : ∀ s, M s → JSsI X B H0 s rest P) : JSsI X B H0 sl (st :: rest) P := ⟨fun gh as σ H g S => PSst (pss_cons ps_w pss_w) (fun pins s I =>
  thn (h.run gh as σ H g S pins s I) fun f s' q => SPm q (fun σ' H' ⟨as', sl', p, S'⟩ => (k sl' p).run gh as' σ' H' g S') (fun _ _ z => z) (fun _ _ z => z) (fun _ _ z => z))⟩
theorem jssI_one (h : JSI X B H0 sl st P) : JSsI X B H0 sl [st] P := jssI_cons P.nx h fun _ p => jssI_of (jss_nil p)
theorem jssI_take (n : Nat) (R : List Sl → Prop) (h1 : JSs X B H0 sl (sts.take n) { P with nx := R }) (h2 : ∀ s, R s → JSsI X B H0 s (sts.drop n) P) : JSsI X B H0 sl sts P := ⟨fun gh as σ H g S pins s I => by
  have e : sts = sts.take n ++ sts.drop n := (List.take_append_drop n sts).symm
  rw [e]
  refine wpAny_execs_app (thn (h1.run gh as σ H S pins s I) fun f s' q => ?_)
  cases f with
  | next =>
    obtain ⟨σ', H', I', as', sl', p, S'⟩ := q
    exact (h2 sl' p).run gh as' σ' H' g S' pins s' I'
  | ret v => exact q
  | brk => exact q
  | cont => exact q⟩
theorem js_forI {vs : List Nat} (hp : PassesOwn (model X.prog X.w) X.A X.env X.xe) (hc : X.calm = true) (hi : JII X B H0 sl tg iter ds) (inv : Nat → List Sl → Prop) (h0 : inv 0 sl)
    (hs : ∀ (k : Nat) d s, ds[k]? = some d → inv k s → ∃ s', JG X B H0 vs tg d s s' ∧ JSsI X B H0 s' body { P with nx := inv (k + 1), ct := inv (k + 1), bk := P.nx })
    (hd : ∀ s, inv ds.length s → P.nx s) (hfs : ∀ x, foldedSetIterable iter X.env x = pure x := by intro _; rfl) : JSI X B H0 sl (.For tg iter body [] pos) P := ⟨fun gh as σ H gi S =>
  PSt (ps_for hp hc pi_w pg_w pss_w hfs) (hi.run gh as σ H _ S fun J H1 g s1 gI hg ok => ⟨fun i m σ' H' => m = ds.length - i ∧ i ≤ ds.length ∧ stO X.K B H0 (g :: gh) (inv i) σ' H', ⟨_, rfl, Nat.zero_le _, as, sl, h0, (S.same s1).ghost hg⟩, by
    rintro i m σ' H' ⟨rfl, hi, as', s, p, S'⟩
    have hG := S'.held g List.mem_cons_self
    by_cases hlt : i < ds.length
    · obtain ⟨go, yl⟩ := ok.go _ i H' hG hlt
      refine .inr ⟨go, fun σ2 H2 => i + 1 ≤ ds.length ∧ stO X.K B H0 (g :: gh) (inv (i + 1)) σ2 H2, fun σ2 H2 ⟨l, z⟩ => ⟨ds.length - (i + 1), by omega, rfl, l, z⟩, fun x H2 hy => ?_⟩
      obtain ⟨s2, d, hd, r⟩ := yl x H2 hy
      obtain ⟨s', hg', hb⟩ := hs i d s hd p
      refine hg'.run (g :: gh) as' σ' H2 x _ (S'.same s2) r fun as2 σ2 S2 _ _ => ?_
      intro pins sh I
      exact thn (hb.run (g :: gh) as2 σ2 H2 (fun q hq => (List.mem_cons.mp hq).elim (fun e => e ▸ gI) (gi q)) S2 pins sh I) fun f s' q => SPm q (fun _ _ z => ⟨hlt, z⟩) (fun _ _ z => z) (fun _ _ ⟨as, sl, p, S⟩ => ⟨as, sl, p, S.unghost⟩) (fun _ _ z => ⟨hlt, z⟩)
    · have e : i = ds.length := by omega
      subst e
      exact .inl ⟨ok.stop _ H' hG, as', s, hd s p, S'.unghost⟩⟩)⟩
theorem seq_atF {K : PySem.W.Frag} {A : Addr → Prop} {H : Hp} {ds : List D} {v : V} (h : Rp K A H (.fro ds) v) : ∃ q xs g0, v = .ref q ∧ (∀ a u, (a, u) ∈ g0 → isT u) ∧ GhOK K A H (g0, ds, xs) ∧ ∀ A' H', GhOK K A' H' (g0, ds, xs) → SqL K H' q xs := by
  obtain ⟨q, xs, rfl, t, l⟩ := h
  rcases t with ⟨o, t⟩ | t
  · exact ⟨q, xs, [(q, .frz o (.lst xs))], rfl, (fun b u e => by cases List.mem_singleton.mp e; exact trivial), ⟨fun b u e => by cases List.mem_singleton.mp e; exact ⟨t, .inr trivial, by intro _ z; cases z⟩, l⟩, fun A' H' G => .inl (.inr ⟨o, (G.1 q _ List.mem_cons_self).1⟩)⟩
  · exact ⟨q, xs, [], rfl, (fun b u e => by cases e), ⟨fun b u e => (by cases e), l⟩, fun A' H' G => .inr t⟩
theorem immL_app : ∀ {a b : List D}, immL a = true → immL b = true → immL (a ++ b) = true
  | [], _, _, h => h
  | d :: a, b, h1, h2 => by
    have h1' : (imm d && immL a) = true := h1
    rw [Bool.and_eq_true] at h1'
    show (imm d && immL (a ++ b)) = true
    rw [h1'.1, immL_app h1'.2 h2]
    rfl
theorem ji_zipFF {p tp : Pos} {a b : Expr} {elts : List Expr} {kk : Nat} {dt : List D} (hg : Gl X "zip") (hm : X.mg "zip" = none) (ha : JA X B H0 true sl [a, b] [.fro ds, .fro dt]) (i1 : immL ds = true) (i2 : immL dt = true) (hs : starEach [a, b] X.env = (false, eval a X.env) :: starEach [b] X.env := by rfl) (hpl : (backTo pos (starEach [b] X.env)).any (·.1) = false := by rfl) : JII X B H0 sl (.Tuple elts kk tp) (.Call (.Name "zip" p) [a, b] [] pos) (zipD ds dt) := ⟨fun gh as σ H R S q =>
  PIt (pi_zip hg hm pa_w hs hpl) (ha.run gh as σ H _ S fun vs H1 s1 r => by
    obtain ⟨v, r', rfl, h1, w, r2, rfl, h2, h3⟩ := r
    cases (show r2 = [] from h3)
    obtain ⟨t, xs, g0, rfl, m0, G, k⟩ := seq_atF h1
    obtain ⟨t2, ys, g1, rfl, m1, G2, k2⟩ := seq_atF h2
    have lx : xs.length = ds.length := G.2.len
    have ly : ys.length = dt.length := G2.2.len
    have part : ∀ A H, GhOK X.K A H (g0 ++ g1, ds ++ dt, xs ++ ys) → GhOK X.K A H (g0, ds, xs) ∧ GhOK X.K A H (g1, dt, ys) := fun A H G => by
      obtain ⟨p1, p2⟩ := rpl_split lx G.2
      exact ⟨⟨fun b u e => G.1 b u (List.mem_append_left _ e), p1⟩, fun b u e => G.1 b u (List.mem_append_right _ e), p2⟩
    refine ⟨t, t2, xs, ys, rfl, k _ _ G, k2 _ _ G2, q _ H1 (g0 ++ g1, ds ++ dt, xs ++ ys) s1 ⟨fun a u e => (List.mem_append.mp e).elim (m0 a u) (m1 a u), immL_app i1 i2⟩ ⟨fun b u e => (List.mem_append.mp e).elim (G.1 b u) (G2.1 b u), G.2.app G2.2⟩ ⟨fun A i H' G' hi => ?_, fun A H' G' => ?_⟩⟩
    · obtain ⟨P1, P2⟩ := part A H' G'
      unfold zipD at hi
      rw [List.length_zipWith] at hi
      obtain ⟨x, hx, rx⟩ := P1.2.get (i := i) (d := ds[i]'(by omega)) (by rw [List.getElem?_eq_getElem])
      obtain ⟨y, hy, ry⟩ := P2.2.get (i := i) (d := dt[i]'(by omega)) (by rw [List.getElem?_eq_getElem])
      refine ⟨⟨xs, ys, x, y, k _ _ P1, k2 _ _ P2, hx, hy⟩, fun w H'' ⟨T, x', y', e1, e2, e3, f, f2⟩ => ?_⟩
      have z1 : x' = x := Option.some.inj ((f xs (k _ _ P1)).symm.trans hx)
      have z2 : y' = y := Option.some.inj ((f2 ys (k2 _ _ P2)).symm.trans hy)
      subst z1 z2 e3
      exact ⟨Same.new e2, _, zipD_get (by omega) (by omega), T, _, e1, upd_same, _, _, rfl, rx.stp (.of (Same.new e2)), _, _, rfl, ry.stp (.of (Same.new e2)), rfl⟩
    · obtain ⟨P1, P2⟩ := part A H' G'
      refine ⟨xs, ys, k _ _ P1, k2 _ _ P2, ?_⟩
      unfold zipD
      rw [List.length_zipWith]
      omega)⟩
end
/-! an own list is locked for good -/
section
variable {X : Cx} {B : Addr → Prop} {H0 : Hp} {sl : List Sl} {P : Po}
theorem SOK.fzl {K : PySem.W.Frag} {gh : Gh} {as : Ow} {σ : L2.St} {H : Hp} {i : Nat} {b : Addr} {ds : List D} {xs : List V} {od : Obj} (S : SOK K B H0 gh as sl σ H) (hi : sl[i]? = some (.ow (.lst ds))) (ha : σ[i]? = some (some (.ref b)))
    (hb : H b = some (.lst xs)) (hl : RpL K (AOf B as) H ds xs) :
    SOK K B H0 gh (as.set i none) (sl.set i (.va (.fro ds))) σ (upd H b (.frz od (.lst xs))) := by
  obtain ⟨o, w, e1, e2, b', e3, e4, e5⟩ := S.sls.get hi
  subst e3 e4
  rw [ha] at e1
  cases e1
  have own : some b ∈ as := List.mem_of_getElem? e2
  have h0 : H0 b = none := S.own b own
  have st : Stp (AOf B as) H (upd H b (.frz od (.lst xs))) := ⟨fun c u hc q _ => by
    by_cases z : c = b
    · subst z
      rw [hb] at hc
      cases hc
      rcases q with q | q
      · exact absurd (.inr own) q
      · exact q.elim
    · rw [upd_ne z]
      exact hc⟩
  obtain ⟨l1, l2⟩ := S.sls.len
  refine ⟨S.ex.mut h0 hb (by intro _ z; cases z) (by intro _ z; cases z), S.base, fun a h => ?_, inj_unset S.inj, fun q hq => ((S.held q hq).stp st).anti AOf.unset, SlsOK.mk (by rw [List.length_set]; exact l1) (by rw [List.length_set, List.length_set]; exact l2) fun j s o w h1 h2 h3 => ?_⟩
  · rcases mem_set h with e | h
    · cases e
    · exact S.own a h
  by_cases z : i = j
  · subst z
    rw [ha] at h2
    cases h2
    rw [List.getElem?_set] at h1 h3
    simp only [if_true] at h1 h3
    split at h1
    · cases h1
      split at h3
      · cases h3
        exact ⟨rfl, _, rfl, b, xs, rfl, .inl ⟨od, upd_same⟩, (hl.stp st).anti AOf.unset⟩
      · cases h3
    · cases h1
  · rw [List.getElem?_set_ne z] at h1 h3
    obtain ⟨o1, w1, q1, q2, q3⟩ := S.sls.get h1
    rw [q1] at h2
    cases h2
    rw [q2] at h3
    cases h3
    refine q3.to (fun c u hw hc _ => ?_) (fun h => (h.stp st).anti AOf.unset) (fun h => (h.stp st).anti AOf.unset)
    subst hw
    have nc : c ≠ b := fun z' => by
      subst z'
      exact z (S.inj i j c e2 q2)
    rw [upd_ne nc]
    exact hc
theorem jss_fzl (i : Nat) {ds : List D} {sts : List Stmt} (hs : sl[i]? = some (.ow (.lst ds))) (h : JSs X B H0 (sl.set i (.va (.fro ds))) sts P) : JSs X B H0 sl sts P := ⟨fun gh as σ H S pins s I => by
  obtain ⟨b, e1, e2, e3, xs, ht, hl⟩ := S.at hs
  obtain ⟨od, I1⟩ := I.lock ht trivial
  exact h.run gh _ σ _ (S.fzl hs e1 ht hl) pins s I1⟩
end
/-! an own dict of own lists -/
section
variable {α : Type} {f : α → D} {X : Cx} {B : Addr → Prop} {H0 : Hp} {sl : List Sl} {P : Po} {e ix : Expr} {p ap cp pos sp : Pos} {k : Nat} {kvs : List (Q × List α)} {kq : Q} {v : List α} {z : α} {x : Str} {sts : List Stmt}
abbrev odQ (f : α → D) (kvs : List (Q × List α)) : Sl := .od (kvs.map fun p => [p.1.1, p.1.2]) (kvs.map fun p => .lst (p.2.map f))
/-- slots by their places -/
theorem SOK.reslot {K : PySem.W.Frag} {gh : Gh} {as : Ow} {σ : L2.St} {H : Hp} {i : Nat} {s1 : Sl} (S : SOK K B H0 gh as sl σ H) (h : ∀ o w, σ[i]? = some o → as[i]? = some w → ∀ s, sl[i]? = some s → SlOK K (AOf B as) H s o w → SlOK K (AOf B as) H s1 o w) : SOK K B H0 gh as (sl.set i s1) σ H := by
  obtain ⟨l1, l2⟩ := S.sls.len
  refine ⟨S.ex, S.base, S.own, S.inj, S.held, SlsOK.mk (by rw [List.length_set]; exact l1) (by rw [List.length_set]; exact l2) fun j s o w h1 h2 h3 => ?_⟩
  by_cases z : i = j
  · subst z
    rw [List.getElem?_set] at h1
    simp only [if_true] at h1
    split at h1
    · rename_i hlt
      cases h1
      obtain ⟨s0, h0⟩ : ∃ s0, sl[i]? = some s0 := ⟨sl[i], List.getElem?_eq_getElem hlt⟩
      obtain ⟨o1, w1, q1, q2, q3⟩ := S.sls.get h0
      rw [q1] at h2
      cases h2
      rw [q2] at h3
      cases h3
      exact h o w q1 q2 s0 h0 q3
    · cases h1
  · rw [List.getElem?_set_ne z] at h1
    obtain ⟨o1, w1, q1, q2, q3⟩ := S.sls.get h1
    rw [q1] at h2
    cases h2
    rw [q2] at h3
    cases h3
    exact q3
theorem jss_od (i : Nat) (hs : sl[i]? = some (.ow (.dct [] []))) (h : JSs X B H0 (sl.set i (odQ f [])) sts P) : JSs X B H0 sl sts P := ⟨fun gh as σ H S => h.run gh as σ H (S.reslot fun o w _ _ s h1 h2 => by
  rw [hs] at h1
  cases h1
  obtain ⟨a, e1, e2, xs, e3, e4, e5⟩ := h2
  cases (show xs = [] from e5)
  exact ⟨a, e1, e2, [], e3, rfl, rfl, List.nodup_nil⟩)⟩
theorem jssI_unod (i : Nat) (hs : sl[i]? = some (odQ f kvs)) (h : JSsI X B H0 (sl.set i (.ow (dQ (fun l => .lst (l.map f)) kvs))) sts P) : JSsI X B H0 sl sts P := ⟨fun gh as σ H g S => h.run gh as σ H g (S.reslot fun o w _ _ s h1 h2 => by
  rw [hs] at h1
  cases h1
  obtain ⟨a, e1, e2, xs, e3, e4, e5, _⟩ := h2
  exact ⟨a, e1, e2, xs, e3, e4, e5⟩)⟩
theorem SOK.atOd {K : PySem.W.Frag} {gh : Gh} {as : Ow} {σ : L2.St} {H : Hp} {i : Nat} {ks : List (List Int)} {ds : List D} (S : SOK K B H0 gh as sl σ H) (hi : sl[i]? = some (.od ks ds)) : ∃ a, σ[i]? = some (some (.ref a)) ∧ as[i]? = some (some a) ∧ H0 a = none ∧ OdO K (AOf B as) H a ks ds := by
  obtain ⟨o, w, e1, e2, b, e3, e4, e5⟩ := S.sls.get hi
  subst e3 e4
  exact ⟨b, e1, e2, S.own b (List.mem_of_getElem? e2), e5⟩
theorem SOK.mutOd {K : PySem.W.Frag} {gh : Gh} {as : Ow} {σ : L2.St} {H : Hp} {i : Nat} {a : Addr} {ks ks' : List (List Int)} {ds ds' : List D} {o' : HO} (S : SOK K B H0 gh as sl σ H) (hi : sl[i]? = some (.od ks ds)) (ha : σ[i]? = some (some (.ref a))) (new : OdO K (AOf B as) (upd H a o') a ks' ds') :
    SOK K B H0 gh as (sl.set i (.od ks' ds')) σ (upd H a o') := by
  obtain ⟨b, e1, e2, h0, xs, hd, _⟩ := S.atOd hi
  rw [ha] at e1
  cases e1
  have own : some a ∈ as := List.mem_of_getElem? e2
  have st : Stp (AOf B as) H (upd H a o') := S.stpU own hd id
  have sm : Same H0 (upd H a o') := S.ex.mut h0 hd (by intro _ z; cases z) (by intro _ z; cases z)
  obtain ⟨l1, l2⟩ := S.sls.len
  refine ⟨sm, S.base, S.own, S.inj, fun q hq => (S.held q hq).stp st, SlsOK.mk (by rw [List.length_set]; exact l1) (by rw [List.length_set]; exact l2) fun j s o w h1 h2 h3 => ?_⟩
  by_cases z : i = j
  · subst z
    rw [e2] at h3
    cases h3
    rw [ha] at h2
    cases h2
    rw [List.getElem?_set] at h1
    simp only [if_true] at h1
    split at h1
    · cases h1
      exact ⟨a, rfl, rfl, new⟩
    · cases h1
  · rw [List.getElem?_set_ne z] at h1
    obtain ⟨o1, w1, q1, q2, q3⟩ := S.sls.get h1
    rw [q1] at h2
    cases h2
    rw [q2] at h3
    cases h3
    refine q3.to (fun c u hw hc _ => ?_) (fun h => h.stp st) (fun h => h.stp st)
    subst hw
    have nc : c ≠ a := fun z' => by
      subst z'
      exact z (S.inj i j c e2 q2)
    rw [upd_ne nc]
    exact hc
/-- d[k] = a new list, k not in d yet -/
theorem js_putOD (i : Nat) (hr : Room k X.A) (hN : X.N[i]? = some x) (hv : Vis X.env.scope x) (ho : sl[i]? = some (odQ f kvs)) (he : JF X B H0 sl e (.lst (v.map f))) (hi : JE X B H0 false sl ix (fr kq)) (hg : dget kvs kq = none) (hl : kvs.length < sizeLine) (h : P.nx (sl.set i (odQ f (kvs ++ [(kq, v)]))))
    (hs : swapsWith e (some (.Subscript (.Name x p) ix sp)) pos.line X.env = pure false := by rfl) (hd : (x == ("__debug__" : Str)) = false := by decide) (hcd : (x == ("__classdict__" : Str)) = false := by decide) : JS X B H0 sl (.Assign [.Subscript (.Name x p) ix sp] e pos) P := ⟨fun gh as σ H S => by
  obtain ⟨q, e1, e2, e3, xs, e4, e6, e5, e7⟩ := S.atOd ho
  refine PSt (ps_dput (by have := hr.un; omega) (pe_var hN hv hd hcd) pe_w pe_w hs) (he.run gh as σ H _ S fun w H1 s1 hw r1 => ⟨.ref q, e1, hi.run gh as σ H1 _ (S.same s1) fun z H2 s2 r2 => ?_⟩)
  obtain ⟨c, rfl, hc⟩ := key_at r2
  have s := s1.trans s2
  have hx := e5.len
  rw [List.length_map] at hx
  obtain ⟨ys, y1, y2⟩ := r1
  have nw : ¬ AOf B as w := fun z => by
    obtain ⟨o, ho⟩ := S.dom w z
    rw [hw] at ho
    cases ho
  have y2' : RpL X.K (AOf B as) H1 (v.map f) ys := y2.anti fun a ha => .inl ha
  have hany : (kvs.any fun p => decide (p.1 = kq)) = false := by
    cases g : (kvs.any fun p => decide (p.1 = kq)) with
    | false => rfl
    | true =>
      have := g.symm.trans (any_dget kvs)
      rw [hg] at this
      cases this
  have g1 : putK ((dkeys (kvs.map fun p => [p.1.1, p.1.2])).zip xs) (kk kq) (.ref w) = (dkeys ((kvs ++ [(kq, v)]).map fun p => [p.1.1, p.1.2])).zip (xs ++ [.ref w]) := by
    show putK (zk kvs xs) (kk kq) (.ref w) = zk (kvs ++ [(kq, v)]) (xs ++ [.ref w])
    unfold putK
    rw [zk_any hx, hany]
    exact zk_app hx
  refine ⟨q, _, rfl, .t (s _ _ e4) hc (by rw [show (dkeys (kvs.map fun p => [p.1.1, p.1.2])).zip xs = zk kvs xs from rfl, zk_len hx]; exact hl), as, _, h, ?_⟩
  rw [g1]
  have st : Stp (AOf B as) H2 (upd H2 q (.dT ((dkeys ((kvs ++ [(kq, v)]).map fun p => [p.1.1, p.1.2])).zip (xs ++ [.ref w])))) := (S.same s).stpU (List.mem_of_getElem? e2) (s _ _ e4) (fun z => z)
  have hnd : (xs ++ [V.ref w]).Nodup := by
    rw [List.nodup_append]
    refine ⟨e7, by simp, fun a ha b hb => ?_⟩
    rw [List.mem_singleton] at hb
    subst hb
    intro z
    subst z
    obtain ⟨j, hj⟩ := List.getElem?_of_mem ha
    obtain ⟨d0, hd0, hr0⟩ := e5.getx hj
    rw [List.getElem?_map] at hd0
    cases hk : kvs[j]? with
    | none => rw [hk] at hd0; cases hd0
    | some pr =>
      rw [hk] at hd0
      cases hd0
      obtain ⟨a2, xs2, z1, z2, _⟩ := hr0
      cases z1
      rw [hw] at z2
      cases z2
  refine (S.same s).mutOd ho e1 ⟨xs ++ [.ref w], upd_same, by rw [List.length_map, List.length_map], ?_, hnd⟩
  have one : Rp X.K (AOf B as) (upd H2 q (.dT ((dkeys ((kvs ++ [(kq, v)]).map fun p => [p.1.1, p.1.2])).zip (xs ++ [.ref w])))) (.lst (v.map f)) (.ref w) := ⟨w, ys, rfl, st w _ (s2 _ _ y1) (.inl nw) (by intro _ z; cases z), nw, (y2'.stp (.of s2)).stp st⟩
  rw [show (kvs ++ [(kq, v)]).map (fun p => D.lst (p.2.map f)) = kvs.map (fun p => D.lst (p.2.map f)) ++ [.lst (v.map f)] from List.map_append]
  exact ((e5.stp (.of s)).stp st).app (.one one)⟩
theorem stays_cons {a : Sl} {l : List Sl} : staysB (a :: l) = true ↔ staysB [a] = true ∧ staysB l = true := by
  cases a with
  | un => exact ⟨fun h => ⟨rfl, h⟩, fun h => h.2⟩
  | va d =>
    show (imm d && staysB l) = true ↔ (imm d && true) = true ∧ _
    rw [Bool.and_eq_true, Bool.and_true]
  | ow d =>
    cases d with
    | lst ds =>
      show (immL ds && staysB l) = true ↔ (immL ds && true) = true ∧ _
      rw [Bool.and_eq_true, Bool.and_true]
    | dct ks ds =>
      show (immL ds && staysB l) = true ↔ (immL ds && true) = true ∧ _
      rw [Bool.and_eq_true, Bool.and_true]
    | _ => exact ⟨fun h => absurd h (by intro z; cases z), fun h => absurd h.1 (by intro z; cases z)⟩
  | od ks ds => exact ⟨fun h => absurd h (by intro z; cases z), fun h => absurd h.1 (by intro z; cases z)⟩
theorem stays_get : ∀ {l : List Sl} {j : Nat} {s : Sl}, staysB l = true → l[j]? = some s → staysB [s] = true
  | [], _, _, _, e => by simp at e
  | a :: l, 0, s, h, e => by
    simp at e
    subst e
    exact (stays_cons.mp h).1
  | a :: l, j + 1, s, h, e => stays_get (stays_cons.mp h).2 (by simpa using e)
theorem stays_at {sl : List Sl} {i j : Nat} {s : Sl} (h : staysB (sl.set i .un) = true) (n : i ≠ j) (e : sl[j]? = some s) : staysB [s] = true := stays_get (j := j) h (by rw [List.getElem?_set_ne n]; exact e)
/-- one of an own dict's lists is changed -/
theorem SOK.appOd {K : PySem.W.Frag} {gh : Gh} {as : Ow} {σ : L2.St} {H : Hp} {i m : Nat} {ks : List (List Int)} {ds l : List D} {d : D} {a q : Addr} {xs ys : List V} {y : V} (S : SOK K B H0 gh as sl σ H) (hB : ∀ a o, H0 a = some o → B a) (hgh : ∀ g ∈ gh, GhI g) (hst : Stays (sl.set i .un)) (hi : sl[i]? = some (.od ks ds))
    (ha : σ[i]? = some (some (.ref a))) (hd : H a = some (.dT ((dkeys ks).zip xs))) (hk : ks.length = ds.length) (hx : RpL K (AOf B as) H ds xs) (hn : xs.Nodup) (hds : ∀ d ∈ ds, ∃ l, d = .lst l ∧ immL l = true)
    (hm : ds[m]? = some (.lst l)) (hxm : xs[m]? = some (.ref q)) (hq : H q = some (.lst ys)) (nq : ¬ AOf B as q) (hl : RpL K (AOf B as) H l ys) (hy : Rp K (AOf B as) H d y) (hdi : imm d = true) :
    SOK K B H0 gh as (sl.set i (.od ks (ds.set m (.lst (l ++ [d]))))) σ (upd H q (.lst (ys ++ [y]))) := by
  have h0 : H0 q = none := by
    cases h : H0 q with
    | none => rfl
    | some o => exact absurd (.inl (hB q o h)) nq
  have hnt : ∀ o, H q = some o → ¬ isT o := fun o h z => by
    rw [hq] at h
    cases h
    exact z
  have ek : ∀ b o, b ≠ q → H b = some o → upd H q (.lst (ys ++ [y])) b = some o := fun b o z h => by rw [upd_ne z]; exact h
  have st : Stp (fun a => a = q) H (upd H q (.lst (ys ++ [y]))) := ⟨fun a o h c _ => by
    by_cases z : a = q
    · rcases c with c | c
      · exact absurd z c
      · subst z; exact absurd c (hnt o h)
    · exact ek a o z h⟩
  have r : ∀ {d v}, imm d = true → Rp K (AOf B as) H d v → Rp K (AOf B as) (upd H q (.lst (ys ++ [y]))) d v := fun {d v} i h => ((h.im (A' := fun a => a = q) i).stp st).im i
  have rl : ∀ {ds xs}, immL ds = true → RpL K (AOf B as) H ds xs → RpL K (AOf B as) (upd H q (.lst (ys ++ [y]))) ds xs := fun {ds xs} i h => ((h.im (A' := fun a => a = q) i).stp st).im i
  obtain ⟨l1, l2⟩ := S.sls.len
  obtain ⟨b, e1, e2, _, _⟩ := S.atOd hi
  rw [ha] at e1
  cases e1
  have naq : a ≠ q := fun z => nq (z ▸ .inr (List.mem_of_getElem? e2))
  obtain ⟨l', el, il⟩ := hds _ (List.mem_of_getElem? hm)
  cases el
  refine ⟨S.ex.mut h0 hq (by intro _ z; cases z) (by intro _ z; cases z), S.base, S.own, S.inj, fun g hg => ?_, SlsOK.mk (by rw [List.length_set]; exact l1) (by rw [List.length_set]; exact l2) fun j s o w h1 h2 h3 => ?_⟩
  · have G := S.held g hg
    refine ⟨fun c u hc => ?_, rl (hgh g hg).vals G.2⟩
    have z := G.1 c u hc
    have it := (hgh g hg).objs c u hc
    exact ⟨ek c u (fun e => hnt u (by rw [← e]; exact z.1) it) z.1, .inr it, z.nt⟩
  · by_cases z : i = j
    · subst z
      rw [e2] at h3
      cases h3
      rw [ha] at h2
      cases h2
      rw [List.getElem?_set] at h1
      simp only [if_true] at h1
      split at h1
      · cases h1
        refine ⟨a, rfl, rfl, xs, ek _ _ naq hd, by rw [List.length_set]; exact hk, RpL.mk (by rw [List.length_set]; exact hx.len) fun j d' x' g1 g2 => ?_, hn⟩
        by_cases z : m = j
        · subst z
          rw [hxm] at g2
          cases g2
          rw [List.getElem?_set] at g1
          simp only [if_true] at g1
          split at g1
          · cases g1
            exact ⟨q, _, rfl, upd_same, nq, (rl il hl).app (.one (r hdi hy))⟩
          · cases g1
        · rw [List.getElem?_set_ne z] at g1
          obtain ⟨x2, g3, g4⟩ := hx.get g1
          rw [g3] at g2
          cases g2
          obtain ⟨l2, rfl, il2⟩ := hds _ (List.mem_of_getElem? g1)
          obtain ⟨q2, xs2, rfl, t2, n2, r2⟩ := g4
          have nqq : q2 ≠ q := fun e => by
            subst e
            obtain ⟨b1, b2⟩ := List.getElem?_eq_some_iff.mp hxm
            obtain ⟨c1, c2⟩ := List.getElem?_eq_some_iff.mp g3
            exact z ((List.getElem_inj hn).mp (b2.trans c2.symm))
          exact ⟨q2, xs2, rfl, ek _ _ nqq t2, n2, rl il2 r2⟩
      · cases h1
    · rw [List.getElem?_set_ne z] at h1
      obtain ⟨o1, w1, q1, q2, q3⟩ := S.sls.get h1
      rw [q1] at h2
      cases h2
      rw [q2] at h3
      cases h3
      have := stays_to (ss := [s]) (σ := [o]) (ws := [w]) nq ek hnt (stays_at hst.h z h1) (fun a m => .inr (by
        rw [List.mem_singleton] at m
        rw [m]
        exact List.mem_of_getElem? q2)) ⟨o, [], w, [], rfl, rfl, q3, rfl, rfl⟩
      obtain ⟨_, _, _, _, z1, z2, z3, _⟩ := this
      cases z1
      cases z2
      exact z3
/-- the place of a key -/
theorem dget_at : ∀ {kvs : List (Q × α)} {k : Q} {v : α}, dget kvs k = some v → ∃ m : Nat, kvs[m]? = some (k, v) ∧ ∀ xs : List V, xs.length = kvs.length → valV (zk kvs xs) (kk k) = xs[m]?
  | [], _, _, h => by cases h
  | p :: kvs, k, v, h => by
    rw [dget_cons] at h
    by_cases g : p.1 = k
    · rw [if_pos g] at h
      cases h
      refine ⟨0, by rw [← g]; rfl, fun xs hl => ?_⟩
      cases xs with
      | nil => simp at hl
      | cons x xs =>
        show valV ((kk p.1, x) :: zk kvs xs) (kk k) = _
        rw [valV_pos (p := (kk p.1, x)) (kk_inj.mpr g)]
        rfl
    · rw [if_neg g] at h
      obtain ⟨m, h1, h2⟩ := dget_at h
      refine ⟨m + 1, by simpa using h1, fun xs hl => ?_⟩
      cases xs with
      | nil => simp at hl
      | cons x xs =>
        show valV ((kk p.1, x) :: zk kvs xs) (kk k) = _
        rw [valV_neg (p := (kk p.1, x)) (fun z => g (kk_inj.mp z)), h2 xs (by simpa using hl)]
        simp
/-- d[k].append(e), d an own dict of own lists -/
theorem jsI_appOD (i : Nat) (hB : ∀ a o, H0 a = some o → B a) (hr : Room k X.A) (hN : X.N[i]? = some x) (hv : Vis X.env.scope x) (ho : sl[i]? = some (odQ f kvs)) (hst : Stays (sl.set i .un)) (hi : JE X B H0 false sl ix (fr kq)) (he : JE X B H0 false sl e (f z)) (hf : ∀ x, imm (f x) = true) (hg : dget kvs kq = some v) (hl : v.length < sizeLine)
    (h : ∀ m : Nat, kvs[m]? = some (kq, v) → P.nx (sl.set i (odQ f (kvs.set m (kq, v ++ [z])))))
    (hsl : NoSl ix := by intro _ _; rfl) (hd : (x == ("__debug__" : Str)) = false := by decide) (hcd : (x == ("__classdict__" : Str)) = false := by decide)
    (hs : swapsWith (.Call (.Attribute (.Subscript (.Name x p) ix sp) "append" ap) [e] [] cp) none pos.line X.env = pure false := by rfl)
    (hbase : attributeBase (.Subscript (.Name x p) ix sp) "append" X.env (eval (.Subscript (.Name x p) ix sp) X.env) = eval (.Subscript (.Name x p) ix sp) X.env := by rfl)
    (hfew : ((backTo cp (starEach [e] X.env)).all (fun x => !x.1) && (backToKw cp (keywordEach [] X.env)).all (fun x => x.1.isSome) && decide ([e].length + ([] : List Keyword).length + (if ([] : List Keyword).isEmpty then 0 else 1) < 30)) = true := by rfl)
    (hline : (ap.endLine == cp.line) = true := by rfl) (hst2 : starEach [e] X.env = (false, eval e X.env) :: starEach [] X.env := by rfl) (hpl : (backTo cp (starEach [] X.env)).any (·.1) = false := by rfl) :
    JSI X B H0 sl (.Expr (.Call (.Attribute (.Subscript (.Name x p) ix sp) "append" ap) [e] [] cp) pos) P := ⟨fun gh as σ H hgh S => by
  obtain ⟨t, e1, e2, e3, xs, ht, hk, hxs, hnd⟩ := S.atOd ho
  have hx := hxs.len
  rw [List.length_map] at hx
  obtain ⟨m, g1, g2⟩ := dget_at hg
  have hm : (kvs.map fun p => D.lst (p.2.map f))[m]? = some (.lst (v.map f)) := by rw [List.getElem?_map, g1]; rfl
  obtain ⟨xm, gx, q, ys, rfl, hq, nq, hys⟩ := hxs.get hm
  refine PSt (ps_expr (pe_bm PySem.F.plainAttrs_list PySem.F.slot_list_append PySem.F.type_list_append mt_append (pe_dget (by have := hr.un; omega) (pe_var hN hv hd hcd) pe_w hsl) (pa_cons pe_w pa_nil hst2) hbase hfew hline hst2 hpl) hs) ⟨_, e1, hi.run gh as σ H _ S fun y H1 s1 r1 => ?_⟩
  obtain ⟨c, rfl, hc⟩ := key_at r1
  have hval : valV ((dkeys (kvs.map fun p => [p.1.1, p.1.2])).zip xs) (kk kq) = some (.ref q) := (g2 xs hx).trans gx
  refine ⟨t, .ref q, rfl, by rw [← hval]; exact .t (s1 _ _ ht) hc, .inl ⟨rfl, ys, .inl (.inl (s1 _ _ hq))⟩, he.run gh as σ H1 _ (S.same s1) fun w H2 s2 r2 => ?_⟩
  have s := s1.trans s2
  refine ⟨q, ys, w, rfl, rfl, s _ _ hq, by rw [hys.len, List.length_map]; exact hl, ?_⟩
  have fin := (S.same s).appOd hB hgh hst ho e1 (s _ _ ht) hk (hxs.stp (.of s)) hnd (fun d hd => by
    obtain ⟨pr, _, rfl⟩ := List.mem_map.mp hd
    exact ⟨_, rfl, immL_map hf _⟩) hm gx (s _ _ hq) nq (hys.stp (.of s)) (r2.im (hf z)) (hf z)
  have ek : kvs.map (fun p => [p.1.1, p.1.2]) = (kvs.set m (kq, v ++ [z])).map fun p => [p.1.1, p.1.2] := by
    rw [List.map_set]
    apply List.ext_getElem?
    intro j
    by_cases zz : m = j
    · subst zz
      rw [List.getElem?_set]
      simp only [if_true]
      split
      · rw [List.getElem?_map, g1]; rfl
      · rename_i hn
        rw [List.getElem?_eq_none_iff.mpr (by omega)]
    · rw [List.getElem?_set_ne zz]
  have ed : (kvs.map fun p => D.lst (p.2.map f)).set m (.lst (v.map f ++ [f z])) = (kvs.set m (kq, v ++ [z])).map fun p => D.lst (p.2.map f) := by
    rw [List.map_set, List.map_append]
    rfl
  refine ⟨as, _, h m g1, ?_⟩
  show SOK X.K B H0 gh as (sl.set i (.od _ _)) σ _
  rw [← ek, ← ed]
  exact fin⟩
end
section
variable {P : Program} {w : World} {K : PySem.W.Frag} {mg : Str → Option Value} {base : Heap} {N ps : List Str} {qual x : Str} {st : Stmt} {f : Addr} {fd : FuncData} {k : Nat} {Fs : List D → Out → Prop}
/-- fn_okN, statements behind which nothing is held that can be changed -/
theorem fn_okNI (F : Fun K x qual st f fd) (S : FnScope N ps (defScope st)) (hl : ∀ ds o, Fs ds o → ds.length = ps.length) (hx : ∀ ds c, ¬ Fs ds (.er c)) (hi : ∀ ds o, Fs ds o → immL ds = true)
    (body : ∀ cdv A outer s H E, Room k (A.deeper (envOfC qual (defScope st) s.heap.objs.size f cdv)) → ∀ (B : Addr → Prop), (∀ a o, H a = some o → B a) → ∀ ds o, Fs ds o → JSsI (XOf P w K mg base N qual (defScope st) f cdv A outer s H E) B H (starts N ds) (defBody st) (PoOf o)) :
    FnOk P w K mg base CX0 (k + 1) f fd ps (spF K Fs) := fn_okN F S hl hx hi fun cdv A outer s H E hr B hB ds o hF => ⟨fun as σ H' S' => (body cdv A outer s H E hr B hB ds o hF).run [] as σ H' (fun g hg => by cases hg) S'⟩
/-- the same of a def that may raise -/
theorem fn_okRI (F : Fun K x qual st f fd) (S : FnScope N ps (defScope st)) (hl : ∀ ds o, Fs ds o → ds.length = ps.length) (hi : ∀ ds o, Fs ds o → immL ds = true)
    (body : ∀ cdv A outer s H E, Room k (A.deeper (envOfC qual (defScope st) s.heap.objs.size f cdv)) → ∀ (B : Addr → Prop), (∀ a o, H a = some o → B a) → ∀ ds o, Fs ds o → (∀ c sl, o = .er c → Lets (XR P w K mg base N qual (defScope st) f cdv A outer s H E) B H sl c) → JSsI (XR P w K mg base N qual (defScope st) f cdv A outer s H E) B H (starts N ds) (defBody st) (PoOf o)) :
    FnOk P w K mg base (L2N.CX P w) (k + 1) f fd ps (spF K Fs) := by
  obtain ⟨oc, od, kV, doc, pm, an, cdv, ct, osl, rfl, lk, hcd⟩ := F.ex
  refine fn_of lk hcd S (fun vs H Q E h => ?_) fun A outer s H vs Q E hr h => ?_
  · obtain ⟨B, ds, o, hd, r, hF, _⟩ := h
    rw [r.len]
    exact hl ds o hF
  · obtain ⟨B, ds, o, hd, r0, hF, h1, h2, h3⟩ := h
    have r : RpL K (fun a => B a ∨ ∃ o, H a = some o) H ds vs := r0.im (hi ds o hF)
    refine ⟨_, pss_w, fun pins sh I => ?_⟩
    have e0 : L2.start N vs = vs.map some ++ List.replicate (N.length - ds.length) none := by
      unfold L2.start
      rw [r.len]
    have S0 : SOK K (fun a => B a ∨ ∃ o, H a = some o) H [] (List.replicate (ds.length + (N.length - ds.length)) none) (starts N ds) (L2.start N vs) H := by
      refine ⟨Same.refl H, fun a h => h.elim (hd a) id, fun a h => ?_, fun i j a h => ?_, fun g h => (by cases h), ?_⟩
      · cases (List.mem_replicate.mp h).2
      · have := List.mem_of_getElem? h
        cases (List.mem_replicate.mp this).2
      · rw [e0]
        exact (starts_ok r _).to (fun h => h.anti noA) (fun h => h.anti noA) fun _ _ _ q _ => q
    refine thn ((body cdv A outer s H E hr _ (fun a o h => .inr ⟨o, h⟩) ds o hF (fun c sl e => lets_fn fun H' s' => h3 c e H' s')).run [] _ _ H (fun g hg => by cases hg) S0 pins sh I) fun fl s' q => SPm q ?_ ?_ (fun _ _ ⟨_, _, z, _⟩ => z.elim) (fun _ _ ⟨_, _, z, _⟩ => z.elim)
    · rintro σ' H' ⟨as', sl', e, S'⟩
      exact h1 .non e .non H' S'.ex rfl
    · rintro v H' (⟨d, e, s1, r1⟩ | ⟨d, q, e, rfl, s1, hq, r1⟩)
      · exact h1 d e v H' s1 (r1.anti fun a h => .inl h)
      · have r2 : RpO K (A1 B q) H' q d := r1.to (fun _ z _ => z) fun h => h.anti fun a z => z.elim (fun y => .inl (.inl y)) .inr
        rcases e with e | e
        · exact h2 d e q H' s1 hq r2
        · exact h1 d e _ H' s1 (r2.rp (fun z => by
            obtain ⟨u, hu⟩ := hd q z
            rw [hq] at hu
            cases hu) fun a h => .inl h)
end
end PD
/-! for v in d.values(), d a new dict with pair keys -/
namespace DT
open PySem PySem.W PySem.Calls PyProof.Rows PyProof.V PySem.Spec L2
/-- the values of the locked dict at d, in their order -/
def Itdt (d : Addr) (o : Obj) (kvs : List (List L2.Key × V)) : It :=
  ⟨fun i H => H d = some (.frz o (.dT kvs)) ∧ i < kvs.length, fun i H x H' => H' = H ∧ ∃ k, kvs[i]? = some (k, x), fun i H => H d = some (.frz o (.dT kvs)) ∧ kvs.length ≤ i⟩
section
variable {X : Cx} {pins : List (Addr × Obj)} {σ : L2.St} {H : Hp} {s : Shared} {d : Addr} {o : Obj}
theorem frzTV {kvs : List (List L2.Key × V)} (I : Inv X pins σ H s) (h : H d = some (.frz o (.dT kvs))) :
    (d == sysModules) = false ∧ s.heap.get? d = some o ∧ o.ExactDict ∧ ∃ (es : Array DictEntry) (ep : Nat), o.data = .dict es ep ∧ es.size = kvs.length ∧
      ∀ (i : Nat) (k : List L2.Key) (v : V), kvs[i]? = some (k, v) → ∃ (en : DictEntry), es[i]? = some en ∧ RelV v en.val := by
  obtain ⟨hd, z, hs, xs, pr, o', es, ep, ho, hx, hdt, he, _⟩ := I.hok d _ h
  rw [hd] at ho
  cases ho
  refine ⟨hs, hd, hx, es, ep, hdt, ?_, fun i k v e => ?_⟩
  · have l1 : es.size = xs.length := size_of_entries he
    have l2 : kvs.length = xs.length := Paired.length pr
    omega
  · obtain ⟨b, hb, e1, e2, e3⟩ := L2.paired_get pr e
    have q := entry_at he i
    rw [hb] at q
    exact ⟨_, q, e3⟩
end
section
variable {P : Program} {w : World} {K : PySem.W.Frag} {tg : Expr} {d : Addr} {o : Obj} {es : Array DictEntry} {ep : Nat}
theorem turn_valsT {kvs : List (List L2.Key × V)} (it : Addr) (hod : o.data = .dict es ep) : Turn P w K tg (Itdt d o kvs) [it] it (fun i h => h.IsValIter it d i kvs.length ep) where
  mem := by simp
  obj := fun i h st b hb => by
    have e : b = it := by simpa using hb
    subst e
    obtain ⟨oi, e, c, dd⟩ := st
    exact ⟨oi, e, fun v z => by rw [dd] at z; cases z⟩
  keep := fun i h h' st k => st.at fun oi e => k it (by simp) oi e
  item := by
    intro X hP hw hK hc i pins s σ H E I hf st hg
    subst hP hw hK
    obtain ⟨hd, hi⟩ := hg
    obtain ⟨f0, f1, f2, f3, f4, f5⟩ := hf it (by simp)
    obtain ⟨hs, hgd, hx, es', ep', hdt, hsz, ent⟩ := frzTV I hd
    obtain ⟨rfl, rfl⟩ := dict_ep hod hdt
    obtain ⟨⟨k, v⟩, hkv⟩ : ∃ p, kvs[i]? = some p := ⟨kvs[i], List.getElem?_eq_getElem hi⟩
    obtain ⟨en, hen, hrv⟩ := ent i k v hkv
    rw [← hsz] at st hi
    have hen' : es'[i]'hi = en := by
      obtain ⟨z1, z2⟩ := Array.getElem?_eq_some_iff.mp hen
      exact z2
    refine wpAny_pyNext_values_item_raw st ⟨o, hgd, hx, hdt⟩ hi fun h' st' sb => ?_
    rw [hen']
    have I1 : Inv X pins σ H { s with heap := h' } := I.turned (t' := s.toks) (fun b ob hb e => (sb.2 b hb).trans e) f0 f1 f3 f4 f5
    obtain ⟨oi, e, c, dd⟩ := id st'
    refine ⟨en.val, rfl, go_of (s := { s with heap := h' }) e c dd (by decide) ⟨v, H, I1, hrv, ⟨rfl, k, hkv⟩, ?_, fun b hb => (hf b hb).1⟩⟩
    show h'.IsValIter it d (i + 1) kvs.length _
    rw [← hsz]
    exact st'
  done := by
    intro X hP hw hK hc i pins s σ H E I hf st hg
    subst hP hw hK
    obtain ⟨hd, hi⟩ := hg
    obtain ⟨f0, f1, f2, f3, f4, f5⟩ := hf it (by simp)
    obtain ⟨hs, hgd, hx, es', ep', hdt, hsz, ent⟩ := frzTV I hd
    obtain ⟨rfl, rfl⟩ := dict_ep hod hdt
    rw [← hsz] at st hi
    exact wpAny_pyNext_values_end_raw (I.ok.hd hc) st ⟨o, hgd, hx, hdt⟩ hi fun h' eb => ⟨rfl, I.turned (t' := s.toks) (fun b ob hb e => eb b ob hb e) f0 f1 f3 f4 f5⟩
  self := fun A i s Q E st h => wpAny_pyIter_valiter st h
end
end DT
namespace PD
open PySem PySem.Spec PyProof.Rows L2
section
variable [TN] {α : Type} {f : α → D} {X : Cx} {B : Addr → Prop} {H0 : Hp} {sl : List Sl} {e tg : Expr} {apos cpos : Pos} {kvs : List (Q × α)}
theorem zk_val {xs : List V} {k : Nat} {key : List L2.Key} {v : V} (h : (zk kvs xs)[k]? = some (key, v)) : xs[k]? = some v := (List.getElem?_zip_eq_some.mp h).2
theorem itok_v {K : PySem.W.Frag} {g : G1} {a : Addr} {o : Obj} {xs : List V} {ds : List D} (hx : xs.length = kvs.length) (hg : g.1 = [(a, .frz o (.dT (zk kvs xs)))]) (hd : g.2 = (ds, xs)) : ItOk K ds g (DT.Itdt a o (zk kvs xs)) where
  go A k H G hk := by
    have h0 := (G.1 a _ (by rw [hg]; exact List.mem_cons_self)).1
    have r := G.2
    rw [hd] at r
    have hl := r.len
    dsimp only at hl
    have hz : (zk kvs xs).length = kvs.length := zk_len hx
    refine ⟨⟨h0, by rw [hz]; omega⟩, fun x H' y => ?_⟩
    obtain ⟨rfl, key, h1⟩ := y
    obtain ⟨d, h2, h3⟩ := r.getx (zk_val h1)
    exact ⟨Same.refl _, d, h2, h3⟩
  stop A H G := by
    have h0 := (G.1 a _ (by rw [hg]; exact List.mem_cons_self)).1
    have r := G.2
    rw [hd] at r
    have hl := r.len
    dsimp only at hl
    exact ⟨h0, by rw [zk_len hx]; omega⟩
theorem ji_valuesM (he : JF X B H0 sl e (dQ f kvs)) (hbase : attributeBase e "values" X.env (eval e X.env) = eval e X.env := by rfl) (hline : (apos.endLine == cpos.line) = true := by rfl) : JI X B H0 sl tg (.Call (.Attribute e "values" apos) [] [] cpos) (kvs.map fun p => f p.2) := ⟨fun gh as σ H R S q pins s I => by
  refine wpAny_Call_method (T := "dict") (id := "dict.values") hbase rfl hline F.plainAttrs_dict F.slot_dict_values F.type_dict_values (thn (he.run gh as σ H (fun x H1 => ∃ p xs, x = .ref p ∧ Same H H1 ∧ H p = none ∧ H1 p = some (.dT (zk kvs xs)) ∧ xs.length = kvs.length ∧ RpL X.K (A1 (AOf B as) p) H1 (kvs.map fun p => f p.2) xs) S (fun p H' sm hp r => by
    obtain ⟨xs, h1, h2, h3⟩ := r
    exact ⟨p, xs, rfl, sm, hp, h1, by rw [h3.len, List.length_map], h3⟩) pins s I) fun u s1 ⟨x, H1, I1, rx, p, xs, ex, sm, hp, hd, hlen, hxs⟩ => ?_)
  subst ex
  obtain rfl : u = Value.ref p := rx
  obtain ⟨od, I2⟩ := I1.lock hd trivial
  obtain ⟨hs, hgd, hx, es, ep, hdt, hsz, ent⟩ := I2.frzT upd_same
  have raw : s1.heap.DictRaw p es ep := ⟨od, hgd, hx, hdt⟩
  refine ⟨raw.typeIs, ?_, ?_⟩
  · first
      | exact ⟨od, hgd, hx.2.1⟩
      | exact fun a z => (by cases z; exact ⟨od, hgd, hx.2.1⟩)
  have I3 : Inv X pins σ (upd H1 p (.frz od (.dT (zk kvs xs)))) { s1 with heap := s1.heap.push { cls := .type "dict_values", data := .fields #[.ref p] } } := I2.kept (t' := s1.toks) fun b ob q => Heap.get?_push_of_some _ q
  have same : Same H (upd H1 p (.frz od (.dT (zk kvs xs)))) := sm.mut hp hd (by intro _ z; cases z) (by intro _ z; cases z)
  have st : Stp (A1 (AOf B as) p) H1 (upd H1 p (.frz od (.dT (zk kvs xs)))) := ⟨fun c u hc q _ => by
    by_cases z : c = p
    · subst z
      rw [hd] at hc
      cases hc
      rcases q with q | q
      · exact absurd (.inr rfl) q
      · exact q.elim
    · rw [upd_ne z]
      exact hc⟩
  have qR := q (DT.Itdt p od (zk kvs xs)) _ ([(p, .frz od (.dT (zk kvs xs)))], kvs.map fun p => f p.2, xs) same ⟨fun b u e => by cases List.mem_singleton.mp e; exact ⟨upd_same, .inr trivial, by intro _ z; cases z⟩, (hxs.stp st).anti fun a ha => .inl ha⟩ (itok_v hlen rfl rfl)
  have fin : wpAny (model X.prog X.w) X.A (pyIter (.ref s1.heap.objs.size)) (PIE X pins σ tg R) X.xe { s1 with heap := s1.heap.push { cls := .type "dict_values", data := .fields #[.ref p] } } := by
    refine wpAny_pyIter_values_raw (d := p) ⟨_, Heap.get?_push_size _ rfl, rfl, rfl⟩ (raw.push _) (pi_one (tk := s1.toks) I3 _ (DT.turn_valsT _ hdt) ⟨_, Heap.get?_push_size _ rfl, rfl, ?_⟩ qR)
    rw [hsz] <;> rfl
  show wpAny _ _ (callWith cpos (.builtin "dict.values") [.ref p] [] []) _ X.xe s1
  exact method_meetsIn F.slot_dict_values F.entry_dict_values rfl (PySem.evalArgs_none ⟨rfl, raw.typeIs, F.args_dict_values_1 _, _, meets_dict_values_raw p hs, ⟨es, ep, raw⟩, fin⟩)⟩
end
end PD
namespace PD
open PySem PySem.Spec PyProof.Rows L2
variable [TN]
/-! ### whole numbers of bounded size -/
def Bd (n : Nat) (x : Int) : Prop := x.natAbs < 2 ^ n
theorem Bd.mono {m n : Nat} {x : Int} (h : Bd m x) (l : m ≤ n) : Bd n x := Nat.lt_of_lt_of_le h (Nat.pow_le_pow_right (by decide) l)
theorem Bd.mul {m n : Nat} {x y : Int} (h : Bd m x) (g : Bd n y) : Bd (m + n) (x * y) := by
  unfold Bd at *
  rw [Int.natAbs_mul, Nat.pow_add]
  exact Nat.mul_lt_mul'' h g
theorem Bd.add {n : Nat} {x y : Int} (h : Bd n x) (g : Bd n y) : Bd (n + 1) (x + y) := by
  unfold Bd at *
  have := Int.natAbs_add_le x y
  rw [Nat.pow_succ]
  omega
theorem Bd.sub {n : Nat} {x y : Int} (h : Bd n x) (g : Bd n y) : Bd (n + 1) (x - y) := by
  unfold Bd at *
  have := Int.natAbs_sub_le x y
  rw [Nat.pow_succ]
  omega
theorem Bd.neg {n : Nat} {x : Int} (h : Bd n x) : Bd n (-x) := by
  unfold Bd at *
  rw [Int.natAbs_neg]
  exact h
theorem Bd.le {n : Nat} {x y : Int} (h : Bd n y) (l : x.natAbs ≤ y.natAbs) : Bd n x := Nat.lt_of_le_of_lt l h
theorem Bd.div {n : Nat} {x k : Int} (h : Bd n x) : Bd n (x / k) := h.le (Int.natAbs_ediv_le_natAbs x k)
theorem Bd.of {n : Nat} {x : Int} (h : -(2 ^ n) < x) (g : x < 2 ^ n) : Bd n x := by
  unfold Bd
  have e : ((2 ^ n : Nat) : Int) = (2 : Int) ^ n := by norm_cast
  omega
theorem mulOk {m n : Nat} {x y : Int} (h : Bd m x) (g : Bd n y) (l : m + n ≤ 1000000 := by decide) (h0 : 0 < m := by decide) (g0 : 0 < n := by decide) : MulOk x y := .inl (wide_mul h g h0 g0 l)
theorem Bd.log {n : Nat} {x : Int} (g : Bd n x) (h0 : 0 < n) : x.natAbs.log2 < n := PySem.Flt.log2_lt_of h0 g
theorem divOk {n : Nat} {x y : Int} (h : 0 < y) (g : Bd n x) (l : n ≤ 13530 := by decide) (g0 : 0 < n := by decide) : CDivX x y := divT h (Nat.lt_of_lt_of_le (g.log g0) l)
theorem divN {n : Nat} {x y : Int} (h : 0 < y) (g : Bd n y) (l : n ≤ 9000 := by decide) (g0 : 0 < n := by decide) : CDivX x y := divK h (Nat.lt_of_lt_of_le (g.log g0) l)

/-! ### fractions -/
/-- a bottom from 1 on, both of bounded size -/
def FB (n : Nat) (q : Q) : Prop := 0 < q.2 ∧ Bd n q.1 ∧ Bd n q.2
theorem FB.mono {m n : Nat} {q : Q} (h : FB m q) (l : m ≤ n) : FB n q := ⟨h.1, h.2.1.mono l, h.2.2.mono l⟩
def lowest (q : Q) : Prop := Int.gcd q.1 q.2 = 1
def mkP (t b : Int) : Q := (t / (Int.gcd t b : Int), b / (Int.gcd t b : Int))
def mkF (t b : Int) : Q := if b < 0 then mkP (-t) (-b) else mkP t b
theorem mkF_pos {t b : Int} (h : 0 < b) : mkF t b = mkP t b := by
  unfold mkF
  rw [if_neg (by omega)]
theorem gcd_pos {t b : Int} (h : b ≠ 0) : 0 < (Int.gcd t b : Int) := by
  have : 0 < Int.gcd t b := Int.gcd_pos_of_ne_zero_right t h
  omega
theorem gcd_le {t b : Int} (h : b ≠ 0) : (Int.gcd t b : Int).natAbs ≤ b.natAbs := by
  rw [Int.natAbs_natCast]
  exact Nat.le_of_dvd (by omega) (Int.gcd_dvd_natAbs_right t b)
theorem mkP_FB {t b : Int} {n : Nat} (h : 0 < b) (ht : Bd n t) (hb : Bd n b) : FB n (mkP t b) := by
  refine ⟨?_, ht.div, hb.div⟩
  have hg := gcd_pos (t := t) (b := b) (by omega)
  show 0 < b / (Int.gcd t b : Int)
  exact Int.ediv_pos_of_pos_of_dvd h (by omega) (Int.gcd_dvd_right t b)
theorem mkP_eq {t b : Int} (h : b ≠ 0) : (mkP t b).1 * b = t * (mkP t b).2 := by
  show t / (Int.gcd t b : Int) * b = t * (b / (Int.gcd t b : Int))
  have h1 : (Int.gcd t b : Int) * (t / (Int.gcd t b : Int)) = t := Int.mul_ediv_cancel' (Int.gcd_dvd_left t b)
  have h2 : (Int.gcd t b : Int) * (b / (Int.gcd t b : Int)) = b := Int.mul_ediv_cancel' (Int.gcd_dvd_right t b)
  generalize t / (Int.gcd t b : Int) = u at *
  generalize b / (Int.gcd t b : Int) = v at *
  generalize (Int.gcd t b : Int) = g at *
  subst h1
  rw [← h2]
  grind
theorem mkP_low {t b : Int} (h : b ≠ 0) : lowest (mkP t b) := by
  have hg : 0 < Int.gcd t b := Int.gcd_pos_of_ne_zero_right t h
  exact Int.gcd_ediv_gcd_ediv_gcd hg
theorem mkF_FB {t b : Int} {n : Nat} (h : b ≠ 0) (ht : Bd n t) (hb : Bd n b) : FB n (mkF t b) := by
  unfold mkF
  split
  · exact mkP_FB (by omega) ht.neg hb.neg
  · exact mkP_FB (by omega) ht hb
theorem mkF_low {t b : Int} (h : b ≠ 0) : lowest (mkF t b) := by
  unfold mkF
  split
  · exact mkP_low (by omega)
  · exact mkP_low h
theorem mkF_eq {t b : Int} (h : b ≠ 0) : (mkF t b).1 * b = t * (mkF t b).2 := by
  unfold mkF
  split
  · have := mkP_eq (t := -t) (b := -b) (by omega)
    grind
  · exact mkP_eq h
def qadd (a b : Q) : Q := mkF (a.1 * b.2 + b.1 * a.2) (a.2 * b.2)
def qsub (a b : Q) : Q := mkF (a.1 * b.2 - b.1 * a.2) (a.2 * b.2)
def qmul (a b : Q) : Q := mkF (a.1 * b.1) (a.2 * b.2)
def qdiv (a b : Q) : Q := mkF (a.1 * b.2) (a.2 * b.1)
def qpow (a : Q) (n : Nat) : Q := (a.1 ^ n, a.2 ^ n)
/-- found is top / bottom in lowest terms -/
def isFr (q : Q) (t b : Int) : Bool := !(decide (q.2 < 1) || !decide ((Int.gcd q.1 q.2 : Int) = 1)) && decide (q.1 * b = t * q.2)
theorem isFr_of {q : Q} {t b : Int} (h : 0 < q.2) (l : lowest q) (e : q.1 * b = t * q.2) : isFr q t b = true := by
  unfold isFr lowest at *
  rw [l, decide_eq_true e, decide_eq_false (by omega)]
  rfl
theorem isFr_mk {t b : Int} (h : b ≠ 0) (n : Nat) (ht : Bd n t) (hb : Bd n b) : isFr (mkF t b) t b = true := isFr_of (mkF_FB h ht hb).1 (mkF_low h) (mkF_eq h)
/-! ### Euclid's walks -/
theorem gcd_mod (a b : Int) : Int.gcd b (a % b) = Int.gcd a b := by
  have h : a = a % b + b * (a / b) := by have := Int.emod_add_mul_ediv a b; omega
  have := Int.gcd_add_mul_left_right b (a % b) (a / b)
  rw [← h] at this
  rw [← this, Int.gcd_comm]
theorem gcd_fmod (a b : Int) : Int.gcd b (a.fmod b) = Int.gcd a b := by
  have h : a = a.fmod b + b * (a.fdiv b) := by have := Int.fmod_add_mul_fdiv a b; omega
  have := Int.gcd_add_mul_left_right b (a.fmod b) (a.fdiv b)
  rw [← h] at this
  rw [← this, Int.gcd_comm]
theorem fmod_lt (a : Int) {b : Int} (h : b ≠ 0) : (a.fmod b).natAbs < b.natAbs := by
  rcases Int.lt_or_gt_of_ne h with g | g
  · have h1 := @Int.fmod_eq_emod a b
    have h2 := Int.emod_nonneg a h
    have h3 := Int.emod_lt_of_neg a g
    rw [h1]
    split
    · rename_i q
      rcases q with q | q
      · omega
      · have : a % b = 0 := Int.emod_eq_zero_of_dvd q
        omega
    · rename_i q
      have : a % b ≠ 0 := fun z => q (.inr (Int.dvd_of_emod_eq_zero z))
      omega
  · rw [Int.fmod_eq_emod_of_nonneg a (by omega)]
    have h2 := Int.emod_nonneg a h
    have h3 := Int.emod_lt_of_pos a g
    omega
theorem abs_eq (x : Int) : (if x < 0 then -x else x) = (x.natAbs : Int) := by
  split <;> omega
theorem gcd_abs (t b : Int) : Int.gcd (if t < 0 then -t else t) b = Int.gcd t b := by
  split
  · exact Int.neg_gcd
  · rfl
end PD
namespace PD
open PySem PySem.Spec PyProof.Rows L2
variable [TN]
/-- the numbers of a script, 0 behind its end -/
def cell (ns : List Int) (k : Int) : Int := ns.getD k.toNat 0
theorem bd_pow {n : Nat} {x : Int} (h : Bd n x) (h0 : 0 < n) : ∀ k : Nat, Bd (n * k + 1) (x ^ k)
  | 0 => by
    rw [Int.pow_zero]
    show (1 : Int).natAbs < 2 ^ (n * 0 + 1)
    simp
  | k + 1 => by
    have := (bd_pow h h0 k).mul h
    rw [Int.pow_succ]
    exact this.mono (by rw [Nat.mul_add]; omega)
theorem qpow_zero (a : Q) : qpow a 0 = (1, 1) := by
  unfold qpow
  rw [Int.pow_zero, Int.pow_zero]
theorem qpow_succ (a : Q) (k : Nat) : qpow a (k + 1) = ((qpow a k).1 * a.1, (qpow a k).2 * a.2) := by
  unfold qpow
  rw [Int.pow_succ, Int.pow_succ]
theorem isFr_pow {a : Q} {n : Nat} (h : FB n a) (l : lowest a) (k : Nat) : isFr (qpow a k) (a.1 ^ k) (a.2 ^ k) = true := by
  refine isFr_of (Int.pow_pos h.1) ?_ rfl
  show Int.gcd (a.1 ^ k) (a.2 ^ k) = 1
  have l' : Nat.Coprime a.1.natAbs a.2.natAbs := l
  rw [Int.gcd_eq_natAbs_gcd_natAbs] 
  rw [Int.natAbs_pow, Int.natAbs_pow]
  exact Nat.Coprime.pow k k l'
end PD
namespace PD
variable [TN]
/-! ### the rows of (1 - x) ^ n -/
def ch : Nat → Nat → Int
  | 0, 0 => 1
  | 0, _ + 1 => 0
  | _ + 1, 0 => 1
  | n + 1, k + 1 => ch n k + ch n (k + 1)
theorem ch_zero (n : Nat) : ch n 0 = 1 := by cases n <;> rfl
theorem ch_big : ∀ (n k : Nat), n < k → ch n k = 0
  | 0, 0, h => by omega
  | 0, k + 1, _ => rfl
  | n + 1, 0, h => by omega
  | n + 1, k + 1, h => by
    show ch n k + ch n (k + 1) = 0
    rw [ch_big n k (by omega), ch_big n (k + 1) (by omega)] <;> rfl
theorem ch_self : ∀ n : Nat, ch n n = 1
  | 0 => rfl
  | n + 1 => by
    show ch n n + ch n (n + 1) = 1
    rw [ch_self n, ch_big n (n + 1) (by omega)] <;> rfl
theorem ch_nn : ∀ (n k : Nat), 0 ≤ ch n k
  | 0, 0 => by decide
  | 0, k + 1 => Int.le_refl 0
  | n + 1, 0 => by rw [ch_zero]; decide
  | n + 1, k + 1 => by
    have h1 := ch_nn n k
    have h2 := ch_nn n (k + 1)
    show 0 ≤ ch n k + ch n (k + 1)
    omega
theorem ch_le : ∀ (n k : Nat), ch n k ≤ 2 ^ n
  | 0, 0 => by decide
  | 0, k + 1 => by show (0 : Int) ≤ 1; decide
  | n + 1, 0 => by
    rw [ch_zero]
    have : (1 : Int) ≤ 2 ^ (n + 1) := by
      have h : (0 : Int) < 2 ^ (n + 1) := Int.pow_pos (by decide)
      omega
    exact this
  | n + 1, k + 1 => by
    have h1 := ch_le n k
    have h2 := ch_le n (k + 1)
    show ch n k + ch n (k + 1) ≤ 2 ^ (n + 1)
    rw [Int.pow_succ]
    omega
def sg (k : Nat) : Int := 1 - 2 * ((k : Int) % 2)
theorem sg_succ (k : Nat) : sg (k + 1) = - sg k := by
  unfold sg
  omega
def rowC : Nat → List Int
  | 0 => [1]
  | n + 1 => ((rowC n ++ [0]).zip ([0] ++ rowC n)).map fun q : Int × Int => q.1 - q.2
theorem rowC_len : ∀ n : Nat, (rowC n).length = n + 1
  | 0 => rfl
  | n + 1 => by
    unfold rowC
    simp [rowC_len n]
theorem rowC_get : ∀ (n k : Nat), k ≤ n → (rowC n)[k]? = some (sg k * ch n k)
  | 0, 0, _ => by rfl
  | 0, k + 1, h => by omega
  | n + 1, k, h => by
    have hl := rowC_len n
    unfold rowC
    rw [List.getElem?_map, List.getElem?_zip_eq_some (z := (if k ≤ n then sg k * ch n k else 0, if 0 < k then sg (k - 1) * ch n (k - 1) else 0)).mpr (show (rowC n ++ [0])[k]? = some (if k ≤ n then sg k * ch n k else 0) ∧ ([0] ++ rowC n)[k]? = some (if 0 < k then sg (k - 1) * ch n (k - 1) else 0) from ?_)]
    · show some (_ - _) = _
      congr 1
      dsimp only
      cases k with
      | zero => simp [ch_zero]
      | succ k =>
        have e : ch (n + 1) (k + 1) = ch n k + ch n (k + 1) := rfl
        rw [e, sg_succ, if_pos (Nat.succ_pos k), Nat.add_sub_cancel]
        by_cases h2 : k + 1 ≤ n
        · rw [if_pos h2]
          grind
        · rw [if_neg h2, ch_big n (k + 1) (by omega)]
          grind
    · constructor
      · by_cases h2 : k ≤ n
        · rw [if_pos h2, List.getElem?_append_left (by omega), rowC_get n k h2]
        · rw [if_neg h2, List.getElem?_append_right (by omega), hl, show k - (n + 1) = 0 by omega]
          rfl
      · cases k with
        | zero => rfl
        | succ k =>
          rw [if_pos (Nat.succ_pos k), Nat.add_sub_cancel]
          show (rowC n)[k]? = _
          exact rowC_get n k (by omega)
end PD
namespace PD
open PySem PySem.Spec PyProof.Rows L2
variable [TN]
/-! ### fractions as rational numbers -/
def val (q : Q) : Rat := (q.1 : Rat) / (q.2 : Rat)
theorem cast_ne {b : Int} (h : b ≠ 0) : (b : Rat) ≠ 0 := by
  intro e
  exact h (by exact_mod_cast e)
theorem div_eq_iff' {a b c d : Int} (hb : b ≠ 0) (hd : d ≠ 0) : ((a : Rat) / (b : Rat) = (c : Rat) / (d : Rat)) ↔ a * d = c * b := by
  have h1 := cast_ne hb
  have h2 := cast_ne hd
  constructor
  · intro h
    have e : (a : Rat) * (d : Rat) = (c : Rat) * (b : Rat) := by grind
    exact_mod_cast e
  · intro h
    have e : (a : Rat) * (d : Rat) = (c : Rat) * (b : Rat) := by exact_mod_cast h
    grind
theorem val_of {q : Q} {t b : Int} (hq : q.2 ≠ 0) (hb : b ≠ 0) (e : q.1 * b = t * q.2) : val q = (t : Rat) / (b : Rat) := (div_eq_iff' hq hb).mpr e
theorem val_mkF {t b : Int} (h : b ≠ 0) : val (mkF t b) = (t : Rat) / (b : Rat) := by
  refine val_of ?_ h (mkF_eq h)
  unfold mkF
  split
  · intro e
    have := (mkP_FB (n := (-t).natAbs + (-b).natAbs) (t := -t) (b := -b) (by omega) (Nat.lt_of_le_of_lt (Nat.le_add_right _ _) Nat.lt_two_pow_self) (Nat.lt_of_le_of_lt (Nat.le_add_left _ _) Nat.lt_two_pow_self)).1
    omega
  · intro e
    have := (mkP_FB (n := (t).natAbs + (b).natAbs) (t := t) (b := b) (by omega) (Nat.lt_of_le_of_lt (Nat.le_add_right _ _) Nat.lt_two_pow_self) (Nat.lt_of_le_of_lt (Nat.le_add_left _ _) Nat.lt_two_pow_self)).1
    omega
theorem mkP_pos {t b : Int} (h : 0 < b) : 0 < (mkP t b).2 := (mkP_FB (n := (t).natAbs + (b).natAbs) (t := t) (b := b) h (Nat.lt_of_le_of_lt (Nat.le_add_right _ _) Nat.lt_two_pow_self) (Nat.lt_of_le_of_lt (Nat.le_add_left _ _) Nat.lt_two_pow_self)).1
theorem val_mkP {t b : Int} (h : 0 < b) : val (mkP t b) = (t : Rat) / (b : Rat) := val_of (by have := mkP_pos (t := t) h; omega) (by omega) (mkP_eq (by omega))
theorem mul_ne {a b : Int} (h : 0 < a) (g : 0 < b) : a * b ≠ 0 := Int.ne_of_gt (Int.mul_pos h g)
theorem val_add {a b : Q} (h : 0 < a.2) (g : 0 < b.2) : val (qadd a b) = val a + val b := by
  unfold qadd
  rw [val_mkF (mul_ne h g)]
  have h1 := cast_ne (Int.ne_of_gt h)
  have h2 := cast_ne (Int.ne_of_gt g)
  unfold val
  push_cast
  grind
theorem val_sub {a b : Q} (h : 0 < a.2) (g : 0 < b.2) : val (qsub a b) = val a - val b := by
  unfold qsub
  rw [val_mkF (mul_ne h g)]
  have h1 := cast_ne (Int.ne_of_gt h)
  have h2 := cast_ne (Int.ne_of_gt g)
  unfold val
  push_cast
  grind
theorem val_mul {a b : Q} (h : 0 < a.2) (g : 0 < b.2) : val (qmul a b) = val a * val b := by
  unfold qmul
  rw [val_mkF (mul_ne h g)]
  have h1 := cast_ne (Int.ne_of_gt h)
  have h2 := cast_ne (Int.ne_of_gt g)
  unfold val
  push_cast
  grind
/-- two fractions in lowest terms, their bottoms from 1 on, that stand for the same number are the same -/
theorem val_inj {a b : Q} (ha : 0 < a.2) (hb : 0 < b.2) (la : lowest a) (lb : lowest b) (e : val a = val b) : a = b := by
  have e2 : a.1 * b.2 = b.1 * a.2 := (div_eq_iff' (Int.ne_of_gt ha) (Int.ne_of_gt hb)).mp e
  have la' : Nat.Coprime a.2.natAbs a.1.natAbs := Nat.Coprime.symm la
  have lb' : Nat.Coprime b.2.natAbs b.1.natAbs := Nat.Coprime.symm lb
  have en : a.1.natAbs * b.2.natAbs = b.1.natAbs * a.2.natAbs := by rw [← Int.natAbs_mul, ← Int.natAbs_mul, e2]
  have d1 : a.2.natAbs ∣ b.2.natAbs := la'.dvd_of_dvd_mul_left ⟨b.1.natAbs, by rw [en, Nat.mul_comm]⟩
  have d2 : b.2.natAbs ∣ a.2.natAbs := lb'.dvd_of_dvd_mul_left ⟨a.1.natAbs, by rw [← en, Nat.mul_comm]⟩
  have e3 : a.2.natAbs = b.2.natAbs := Nat.dvd_antisymm d1 d2
  have e4 : a.2 = b.2 := by omega
  have e5 : a.1 = b.1 := by
    rw [e4] at e2
    exact Int.eq_of_mul_eq_mul_right (Int.ne_of_gt hb) e2
  exact Prod.ext e5 e4
theorem isFr_val {q : Q} {t b : Int} (h : 0 < q.2) (hb : b ≠ 0) (l : lowest q) (e : val q = (t : Rat) / (b : Rat)) : isFr q t b = true := isFr_of h l ((div_eq_iff' (Int.ne_of_gt h) hb).mp e)
/-- of a fraction in lowest terms: its top and bottom divide those of any other writing -/
theorem low_dvd {q : Q} {t b : Int} (l : lowest q) (e : q.1 * b = t * q.2) : q.2 ∣ b := by
  have l' : Nat.Coprime q.2.natAbs q.1.natAbs := Nat.Coprime.symm l
  have en : q.1.natAbs * b.natAbs = t.natAbs * q.2.natAbs := by rw [← Int.natAbs_mul, ← Int.natAbs_mul, e]
  exact Int.natAbs_dvd_natAbs.mp (l'.dvd_of_dvd_mul_left ⟨t.natAbs, by rw [en, Nat.mul_comm]⟩)
theorem bd_dvd {n : Nat} {x y : Int} (h : Bd n y) (d : x ∣ y) (hy : y ≠ 0) : Bd n x := h.le (Nat.le_of_dvd (by omega) (Int.natAbs_dvd_natAbs.mpr d))
theorem FB.pos {n : Nat} {q : Q} (h : FB n q) : 0 < q.2 := h.1
theorem qadd_FB {m n : Nat} {a b : Q} (ha : FB m a) (hb : FB n b) : FB (m + n + 1) (qadd a b) := by
  refine mkF_FB (mul_ne ha.1 hb.1) ?_ ((ha.2.2.mul hb.2.2).mono (by omega))
  exact ((ha.2.1.mul hb.2.2)).add ((hb.2.1.mul ha.2.2).mono (by omega))
theorem qsub_FB {m n : Nat} {a b : Q} (ha : FB m a) (hb : FB n b) : FB (m + n + 1) (qsub a b) := by
  refine mkF_FB (mul_ne ha.1 hb.1) ?_ ((ha.2.2.mul hb.2.2).mono (by omega))
  exact ((ha.2.1.mul hb.2.2)).sub ((hb.2.1.mul ha.2.2).mono (by omega))
theorem qmul_FB {m n : Nat} {a b : Q} (ha : FB m a) (hb : FB n b) : FB (m + n) (qmul a b) := mkF_FB (mul_ne ha.1 hb.1) (ha.2.1.mul hb.2.1) (ha.2.2.mul hb.2.2)
theorem qadd_low {a b : Q} (ha : 0 < a.2) (hb : 0 < b.2) : lowest (qadd a b) := mkF_low (mul_ne ha hb)
theorem qsub_low {a b : Q} (ha : 0 < a.2) (hb : 0 < b.2) : lowest (qsub a b) := mkF_low (mul_ne ha hb)
theorem qmul_low {a b : Q} (ha : 0 < a.2) (hb : 0 < b.2) : lowest (qmul a b) := mkF_low (mul_ne ha hb)
theorem val_01 : val (0, 1) = 0 := by decide +kernel
theorem val_n1 (n : Int) : val (n, 1) = (n : Rat) := by
  unfold val
  show (n : Rat) / ((1 : Int) : Rat) = _
  rw [show ((1 : Int) : Rat) = 1 from by norm_cast]
  grind
theorem low_01 : lowest (0, 1) := by unfold lowest; decide
theorem FB_01 : FB 1 (0, 1) := ⟨by decide, by unfold Bd; decide, by unfold Bd; decide⟩
theorem FB_n1 {n : Nat} {x : Int} (h : Bd n x) (h0 : 0 < n) : FB n (x, 1) := ⟨(show (0 : Int) < 1 by decide), h, (show Bd 1 1 by unfold Bd; decide).mono h0⟩
/-! ### rows of fractions without the noughts at their end -/
def trim (s : List Q) : List Q := (s.reverse.dropWhile (· = (0, 1))).reverse
theorem trim_snoc (s : List Q) (p : Q) : trim (s ++ [p]) = if p = (0, 1) then trim s else s ++ [p] := by
  unfold trim
  rw [List.reverse_append, List.reverse_singleton, List.singleton_append, List.dropWhile_cons]
  by_cases h : p = (0, 1)
  · simp [h]
  · simp [h]
theorem snoc_of {α : Type} {s : List α} (h : 0 < s.length) : ∃ t p, s = t ++ [p] := ⟨s.dropLast, s.getLast (by intro e; rw [e] at h; cases h), (List.dropLast_concat_getLast _).symm⟩
theorem trim_step {s : List Q} (h : 0 < s.length) (e : s.getLastD (0, 1) = (0, 1)) : trim s.dropLast = trim s := by
  obtain ⟨t, p, rfl⟩ := snoc_of h
  have hp : p = (0, 1) := by simpa using e
  rw [trim_snoc, if_pos hp, List.dropLast_concat]
theorem trim_done {s : List Q} (e : 0 < s.length → s.getLastD (0, 1) ≠ (0, 1)) : trim s = s := by
  rcases Nat.eq_zero_or_pos s.length with h | h
  · rw [List.eq_nil_of_length_eq_zero h]
    rfl
  · have e := e h
    obtain ⟨t, p, rfl⟩ := snoc_of h
    have hp : p ≠ (0, 1) := by simpa using e
    rw [trim_snoc, if_neg hp]
theorem trim_pre (s : List Q) : trim s <+: s := by
  unfold trim
  have h := List.dropWhile_suffix (l := s.reverse) (· = ((0 : Int), (1 : Int)))
  have := List.reverse_prefix.mpr h
  rw [List.reverse_reverse] at this
  exact this
theorem trim_len (s : List Q) : (trim s).length ≤ s.length := (trim_pre s).length_le
theorem trim_mem {s : List Q} {p : Q} (h : p ∈ trim s) : p ∈ s := (trim_pre s).subset h
/-! ### worths -/
def worthQ (x : Q) : List Q → Q
  | [] => (0, 1)
  | p :: ps => qadd (qmul (worthQ x ps) x) p
def psum (x : Rat) : List Q → Rat
  | [] => 0
  | p :: ps => val p + x * psum x ps
theorem psum_snoc (x : Rat) (s : List Q) (p : Q) : psum x (s ++ [p]) = psum x s + val p * x ^ s.length := by
  induction s with
  | nil => 
    show val p + x * 0 = 0 + val p * x ^ 0
    rw [Rat.pow_zero]
    grind
  | cons a s ih =>
    show val a + x * psum x (s ++ [p]) = val a + x * psum x s + val p * x ^ (s.length + 1)
    rw [ih, Rat.pow_succ]
    grind
theorem worthQ_ok {x : Q} (hx : FB 70 x) : ∀ {s : List Q}, (∀ p ∈ s, FB 70 p) → FB (141 * s.length + 1) (worthQ x s) ∧ lowest (worthQ x s) ∧ val (worthQ x s) = psum (val x) s
  | [], _ => ⟨FB_01.mono (by omega), low_01, val_01⟩
  | p :: s, h => by
    have hp := h p (.head _)
    obtain ⟨h1, h2, h3⟩ := worthQ_ok hx (s := s) fun q hq => h q (.tail _ hq)
    have m := qmul_FB h1 hx
    refine ⟨(qadd_FB m hp).mono (by simp only [List.length_cons]; omega), qadd_low m.1 hp.1, ?_⟩
    show val (qadd _ _) = _
    rw [val_add m.1 hp.1, val_mul h1.1 hx.1, h3]
    show _ = val p + val x * psum (val x) s
    grind
theorem psum_01 (s : List Q) (p : Q) : psum 0 (p :: s) = val p := by
  show val p + 0 * _ = _
  grind
theorem take_succ' {α : Type} {s : List α} {i : Nat} {p : α} (h : s[i]? = some p) : s.take (i + 1) = s.take i ++ [p] := by
  rw [List.take_succ, h]
  rfl
theorem rat_pow_cast (a : Int) (n : Nat) : ((a ^ n : Int) : Rat) = (a : Rat) ^ n := by
  push_cast
  rfl
theorem rat_pow_ne {b : Rat} (hb : b ≠ 0) : ∀ n : Nat, b ^ n ≠ 0
  | 0 => by
    rw [Rat.pow_zero]
    decide
  | n + 1 => by
    have h := rat_pow_ne hb n
    rw [Rat.pow_succ]
    grind
theorem rat_div_pow (a b : Rat) (hb : b ≠ 0) : ∀ n : Nat, (a / b) ^ n = a ^ n / b ^ n
  | 0 => by
    rw [Rat.pow_zero, Rat.pow_zero, Rat.pow_zero]
    grind
  | n + 1 => by
    have h := rat_pow_ne hb n
    rw [Rat.pow_succ, Rat.pow_succ, Rat.pow_succ, rat_div_pow a b hb n]
    grind
/-- one step of the law's sum over one bottom -/
theorem due_step {x : Q} {s : List Q} {i : Nat} {p : Q} (hx : FB 70 x) (hs : ∀ p ∈ s, FB 70 p) (h : s[i]? = some p) :
    mkP ((worthQ x (s.take i)).1 * p.2 * x.2 ^ i + p.1 * x.1 ^ i * (worthQ x (s.take i)).2) ((worthQ x (s.take i)).2 * p.2 * x.2 ^ i) = worthQ x (s.take (i + 1)) := by
  have hp := hs p (List.mem_of_getElem? h)
  have hi : i < s.length := by
    rw [List.getElem?_eq_some_iff] at h
    exact h.1
  have o1 := worthQ_ok hx (s := s.take i) fun q hq => hs q (List.mem_of_mem_take hq)
  have o2 := worthQ_ok hx (s := s.take (i + 1)) fun q hq => hs q (List.mem_of_mem_take hq)
  have hpos : 0 < (worthQ x (s.take i)).2 * p.2 * x.2 ^ i := Int.mul_pos (Int.mul_pos o1.1.1 hp.1) (Int.pow_pos hx.1)
  refine val_inj (mkP_pos hpos) o2.1.1 (mkP_low (Int.ne_of_gt hpos)) o2.2.1 ?_
  rw [val_mkP hpos, o2.2.2, take_succ' h, psum_snoc, ← o1.2.2, List.length_take, Nat.min_eq_left (by omega)]
  have c1 := cast_ne (Int.ne_of_gt o1.1.1)
  have c2 := cast_ne (Int.ne_of_gt hp.1)
  have hxi : 0 < x.2 ^ i := Int.pow_pos hx.1
  have c3 := cast_ne (Int.ne_of_gt hxi)
  have e : val x ^ i = ((x.1 ^ i : Int) : Rat) / ((x.2 ^ i : Int) : Rat) := by
    unfold val
    rw [rat_div_pow _ _ (cast_ne (Int.ne_of_gt hx.1)), rat_pow_cast, rat_pow_cast]
  rw [e]
  generalize x.1 ^ i = u at *
  generalize x.2 ^ i = v at *
  unfold val
  push_cast
  grind
theorem worth_drop {x : Q} {s : List Q} {i : Nat} {p : Q} (h : s.reverse[i]? = some p) : worthQ x (s.drop (s.length - (i + 1))) = qadd (qmul (worthQ x (s.drop (s.length - i))) x) p := by
  have hi : i < s.length := by
    rw [List.getElem?_eq_some_iff] at h
    obtain ⟨h, _⟩ := h
    rw [List.length_reverse] at h
    exact h
  rw [List.getElem?_reverse hi] at h
  have hj : s.length - 1 - i = s.length - (i + 1) := by omega
  rw [hj] at h
  have hk : s.length - i = s.length - (i + 1) + 1 := by omega
  rw [hk]
  rw [List.getElem?_eq_some_iff] at h
  obtain ⟨h1, h2⟩ := h
  rw [List.drop_eq_getElem_cons h1, h2]
  rfl
end PD
namespace PD
open PySem PySem.Spec PyProof.Rows L2
variable [TN]
abbrev t3 (q : Int × Int × Int) : D := .tup [.int q.1, .int q.2.1, .int q.2.2]
theorem cast_pos {b : Int} (h : 0 < b) : (0 : Rat) < (b : Rat) := by exact_mod_cast h
theorem lt_val {a b : Q} (ha : 0 < a.2) (hb : 0 < b.2) : a.1 * b.2 < b.1 * a.2 ↔ val a < val b := by
  have h1 := cast_pos ha
  have h2 := cast_pos hb
  unfold val
  have e : ((a.1 : Rat) / (a.2 : Rat) < (b.1 : Rat) / (b.2 : Rat)) ↔ (a.1 : Rat) * (b.2 : Rat) < (b.1 : Rat) * (a.2 : Rat) := by
    rw [Rat.div_lt_iff h1, Rat.div_def, Rat.mul_assoc, Rat.mul_comm (b.2 : Rat)⁻¹, ← Rat.mul_assoc, ← Rat.div_def, Rat.lt_div_iff h2]
  rw [e]
  constructor
  · intro h
    exact_mod_cast h
  · intro h
    exact_mod_cast h
theorem val_div {a b : Q} (h : 0 < a.2) (g : 0 < b.2) (n : b.1 ≠ 0) : val (qdiv a b) = val a / val b := by
  unfold qdiv
  rw [val_mkF (Int.mul_ne_zero (Int.ne_of_gt h) n)]
  have h1 := cast_ne (Int.ne_of_gt h)
  have h2 := cast_ne (Int.ne_of_gt g)
  have h3 := cast_ne n
  unfold val
  push_cast
  grind
theorem val_pow {a : Q} (h : 0 < a.2) (n : Nat) : val (qpow a n) = val a ^ n := by
  unfold val qpow
  rw [rat_div_pow _ _ (cast_ne (Int.ne_of_gt h)), rat_pow_cast, rat_pow_cast]
theorem qpow_FB {n : Nat} {a : Q} (h : FB n a) (h0 : 0 < n) (k : Nat) : FB (n * k + 1) (qpow a k) := ⟨Int.pow_pos h.1, bd_pow h.2.1 h0 k, bd_pow h.2.2 h0 k⟩
theorem qdiv_pos {a b : Q} (h : 0 < a.2) (n : b.1 ≠ 0) : 0 < (qdiv a b).2 := by
  have e := Int.mul_ne_zero (Int.ne_of_gt h) n
  unfold qdiv mkF
  split <;> exact mkP_pos (by omega)
theorem qdiv_low {a b : Q} (h : 0 < a.2) (n : b.1 ≠ 0) : lowest (qdiv a b) := mkF_low (Int.mul_ne_zero (Int.ne_of_gt h) n)
theorem qdiv_FB {m n : Nat} {a b : Q} (ha : FB m a) (hb : FB n b) (h0 : b.1 ≠ 0) : FB (m + n) (qdiv a b) := mkF_FB (Int.mul_ne_zero (Int.ne_of_gt ha.1) h0) (ha.2.1.mul hb.2.2) (ha.2.2.mul hb.2.1)
theorem val_pos {a : Q} (h : 0 < a.2) : 0 < a.1 ↔ 0 < val a := by
  have := lt_val (a := (0, 1)) (b := a) (by decide) h
  rw [val_01] at this
  simp at this
  exact this
/-! ### how often a row of draws comes -/
def weightQ (x y : Nat) (a : Q) : Q := qmul (qpow a x) (qpow (qsub (1, 1) a) y)
def ratioQ (x y : Nat) (a b : Q) : Q := qdiv (weightQ x y b) (weightQ x y a)
theorem val_11 : val (1, 1) = 1 := by decide +kernel
theorem FB_11 : FB 1 (1, 1) := ⟨by decide, by unfold Bd; decide, by unfold Bd; decide⟩
/-- a share above 0, below 1 -/
structure Sh (a : Q) : Prop where
  fb : FB 41 a
  lo : 0 < val a
  hi : val a < 1
theorem Sh.oth {a : Q} (h : Sh a) : FB 43 (qsub (1, 1) a) ∧ val (qsub (1, 1) a) = 1 - val a := ⟨qsub_FB FB_11 h.fb, by rw [val_sub (by decide) h.fb.1, val_11]⟩
theorem rat_pow_pos {a : Rat} (h : 0 < a) : ∀ n : Nat, 0 < a ^ n
  | 0 => by
    rw [Rat.pow_zero]
    decide
  | n + 1 => by
    rw [Rat.pow_succ]
    exact Rat.mul_pos (rat_pow_pos h n) h
theorem weight_ok {a : Q} (h : Sh a) {x y : Nat} (hx : x ≤ 60) (hy : y ≤ 60) : FB 5100 (weightQ x y a) ∧ val (weightQ x y a) = val a ^ x * (1 - val a) ^ y ∧ 0 < val (weightQ x y a) ∧ (weightQ x y a).1 ≠ 0 := by
  obtain ⟨o1, o2⟩ := h.oth
  have p1 := qpow_FB h.fb (by decide) x
  have p2 := qpow_FB o1 (by decide) y
  have f := (qmul_FB p1 p2).mono (show _ ≤ 5100 by omega)
  have v : val (weightQ x y a) = val a ^ x * (1 - val a) ^ y := by
    unfold weightQ
    rw [val_mul p1.1 p2.1, val_pow h.fb.1, val_pow o1.1, o2]
  have ps : 0 < val (weightQ x y a) := by
    rw [v]
    exact Rat.mul_pos (rat_pow_pos h.lo x) (rat_pow_pos (by have := h.hi; grind) y)
  exact ⟨f, v, ps, Int.ne_of_gt ((val_pos f.1).mpr ps)⟩
theorem ratio_ok {a b : Q} (ha : Sh a) (hb : Sh b) {x y : Nat} (hx : x ≤ 60) (hy : y ≤ 60) : FB 10200 (ratioQ x y a b) ∧ lowest (ratioQ x y a b) ∧ val (ratioQ x y a b) = val b ^ x * (1 - val b) ^ y / (val a ^ x * (1 - val a) ^ y) := by
  obtain ⟨f1, v1, p1, n1⟩ := weight_ok ha hx hy
  obtain ⟨f2, v2, p2, n2⟩ := weight_ok hb hx hy
  refine ⟨qdiv_FB f2 f1 n1, qdiv_low f2.1 n1, ?_⟩
  unfold ratioQ
  rw [val_div f2.1 f1.1 n1, v1, v2]
theorem pow_r {a : Rat} (n : Nat) : a ^ (n + 1) = a ^ n * a := Rat.pow_succ ..
/-- one bad more makes it greater, one good more less -/
theorem ratio_bad {a b : Q} (ha : Sh a) (hb : Sh b) (l : val a < val b) {x y : Nat} (hx : x < 60) (hy : y ≤ 60) : val (ratioQ x y a b) < val (ratioQ (x + 1) y a b) := by
  rw [(ratio_ok ha hb (by omega) hy).2.2, (ratio_ok ha hb hx hy).2.2, pow_r, pow_r]
  have p1 := rat_pow_pos ha.lo x
  have p2 := rat_pow_pos hb.lo x
  have p3 := rat_pow_pos (a := 1 - val a) (by have := ha.hi; grind) y
  have p4 := rat_pow_pos (a := 1 - val b) (by have := hb.hi; grind) y
  have p5 := ha.lo
  generalize val a ^ x = A at *
  generalize val b ^ x = B at *
  generalize (1 - val a) ^ y = C at *
  generalize (1 - val b) ^ y = D at *
  generalize val a = s at *
  generalize val b = t at *
  have q1 := Rat.mul_pos p1 p3
  have q2 := Rat.mul_pos p2 p4
  rw [Rat.div_lt_iff q1]
  have z1 := Rat.ne_of_gt (Rat.mul_pos (Rat.mul_pos p1 p5) p3)
  have z2 := Rat.ne_of_gt p5
  have z3 := Rat.ne_of_gt q1
  have e : B * t * D / (A * s * C) * (A * C) = B * D * (t / s) := by grind
  rw [e]
  have g : 1 < t / s := by
    rw [Rat.lt_div_iff p5]
    grind
  have := Rat.mul_lt_mul_of_pos_left g q2
  grind
theorem ratio_good {a b : Q} (ha : Sh a) (hb : Sh b) (l : val a < val b) {x y : Nat} (hx : x ≤ 60) (hy : y < 60) : val (ratioQ x (y + 1) a b) < val (ratioQ x y a b) := by
  rw [(ratio_ok ha hb hx (y := y + 1) (by omega)).2.2, (ratio_ok ha hb hx (y := y) (by omega)).2.2, pow_r, pow_r]
  have p1 := rat_pow_pos ha.lo x
  have p2 := rat_pow_pos hb.lo x
  have i1 : 0 < 1 - val a := by have := ha.hi; grind
  have i2 : 0 < 1 - val b := by have := hb.hi; grind
  have p3 := rat_pow_pos i1 y
  have p4 := rat_pow_pos i2 y
  generalize val a ^ x = A at *
  generalize val b ^ x = B at *
  generalize (1 - val a) ^ y = C at *
  generalize (1 - val b) ^ y = D at *
  have lt : 1 - val b < 1 - val a := by grind
  generalize 1 - val a = s at *
  generalize 1 - val b = t at *
  have q1 := Rat.mul_pos p1 (Rat.mul_pos p3 i1)
  have q2 := Rat.mul_pos p2 p4
  have q3 := Rat.mul_pos p1 p3
  rw [Rat.div_lt_iff q1]
  have z1 := Rat.ne_of_gt q1
  have z2 := Rat.ne_of_gt q3
  have e : B * D / (A * C) * (A * (C * s)) = B * D * s := by grind
  rw [e]
  have := Rat.mul_lt_mul_of_pos_left lt q2
  grind
end PD
namespace PD
open PySem PySem.Spec PyProof.Rows L2
variable [TN]
/-! ### plans -/
abbrev Pl := List (List Int)
abbrev rowD (r : List Int) : D := .tup (r.map .int)
abbrev pl (p : Pl) : D := .tup (p.map rowD)
/-- the numbers of bad that are come to with one draw more -/
def nxt (r : List Int) : List Int := sortU (r ++ r.map (· + 1))
theorem nxt_mem {r : List Int} {x : Int} : x ∈ nxt r ↔ x ∈ r ∨ x - 1 ∈ r := by
  unfold nxt
  rw [sortU_mem, List.mem_append, List.mem_map]
  constructor
  · rintro (h | ⟨y, hy, rfl⟩)
    · exact .inl h
    · exact .inr (by rw [Int.add_sub_cancel]; exact hy)
  · rintro (h | h)
    · exact .inl h
    · exact .inr ⟨x - 1, h, by omega⟩
theorem nxt_ris (r : List Int) : (nxt r).Pairwise (· < ·) := sortU_ris _
/-- the row of so many draws -/
def row (p : Pl) (k : Nat) : List Int := p.getD k []
structure PlanOK (p : Pl) : Prop where
  len : p.length ≤ 24
  pos : 0 < p.length
  first : row p 0 = [0]
  ne : ∀ k, k < p.length → row p k ≠ []
  ris : ∀ k, (row p k).Pairwise (· < ·)
  step : ∀ k x, x ∈ row p (k + 1) → x ∈ nxt (row p k)
theorem row_out {p : Pl} {k : Nat} (h : p.length ≤ k) : row p k = [] := by
  unfold row
  rw [List.getD_eq_getElem?_getD, List.getElem?_eq_none_iff.mpr h]
  rfl
theorem PlanOK.in_ {p : Pl} (h : PlanOK p) : ∀ {k : Nat} {x : Int}, x ∈ row p k → 0 ≤ x ∧ x ≤ k
  | 0, x, hx => by
    rw [h.first] at hx
    simp at hx
    omega
  | k + 1, x, hx => by
    rcases nxt_mem.mp (h.step k x hx) with g | g
    · have := h.in_ g
      omega
    · have := h.in_ g
      omega
theorem PlanOK.lt {p : Pl} {k : Nat} {x : Int} (hx : x ∈ row p k) : k < p.length := by
  rcases Nat.lt_or_ge k p.length with g | g
  · exact g
  · rw [row_out g] at hx
    cases hx
/-- not below 0 -/
def nn (c : Q) : Prop := 0 ≤ c.1 ∧ 0 ≤ c.2
/-- whether a plan draws on at a count -/
def goesOn (p : Pl) (c : Q) : Bool := decide (0 ≤ c.1 ∧ 0 ≤ c.2) && (decide (c.1 + c.2 < p.length) && decide (c.1 ∈ row p (c.1 + c.2).toNat))
theorem goesOn_iff {p : Pl} {c : Q} : goesOn p c = true ↔ nn c ∧ c.1 ∈ row p (c.1 + c.2).toNat := by
  unfold goesOn nn
  rw [Bool.and_eq_true, Bool.and_eq_true, decide_eq_true_eq, decide_eq_true_eq, decide_eq_true_eq]
  constructor
  · exact fun q => ⟨q.1, q.2.2⟩
  · intro q
    have := PlanOK.lt q.2
    exact ⟨q.1, by omega, q.2⟩
theorem goesOn_nn {p : Pl} {c : Q} (g : goesOn p c = true) : nn c ∧ c.1 + c.2 < p.length := by
  have q := goesOn_iff.mp g
  have := PlanOK.lt q.2
  have := q.1
  unfold nn at this
  exact ⟨q.1, by omega⟩
/-- what the program looks at -/
theorem goesOn_eq {p : Pl} (h : PlanOK p) {c : Q} (h0 : 0 ≤ c.1 + c.2) : (decide (c.1 + c.2 < p.length) && decide (c.1 ∈ row p (c.1 + c.2).toNat)) = goesOn p c := by
  unfold goesOn
  by_cases n : 0 ≤ c.1 ∧ 0 ≤ c.2
  · rw [decide_eq_true n, Bool.true_and]
  · rw [decide_eq_false n, Bool.false_and, Bool.and_eq_false_iff]
    refine .inr (decide_eq_false fun q => n ?_)
    have := h.in_ q
    omega
def lv (c : Q) : Int := c.1 + c.2
def kidB (c : Q) : Q := (c.1 + 1, c.2)
def kidG (c : Q) : Q := (c.1, c.2 + 1)
def parB (c : Q) : Q := (c.1 - 1, c.2)
def parG (c : Q) : Q := (c.1, c.2 - 1)
theorem kidB_par {c : Q} : kidB (parB c) = c := by unfold kidB parB; simp
theorem kidG_par {c : Q} : kidG (parG c) = c := by unfold kidG parG; simp
theorem parB_kid {c : Q} : parB (kidB c) = c := by unfold kidB parB; simp
theorem parG_kid {c : Q} : parG (kidG c) = c := by unfold kidG parG; simp
theorem lv_kidB {c : Q} : lv (kidB c) = lv c + 1 := by unfold lv kidB; dsimp only; omega
theorem lv_kidG {c : Q} : lv (kidG c) = lv c + 1 := by unfold lv kidG; dsimp only; omega
theorem lv_parB {c : Q} : lv (parB c) = lv c - 1 := by unfold lv parB; dsimp only; omega
theorem lv_parG {c : Q} : lv (parG c) = lv c - 1 := by unfold lv parG; dsimp only; omega
/-- how many ways lead to a count from another one on -/
def wyN (p : Pl) (b : Q) : Nat → Q → Int
  | 0, c => if c = b then 1 else 0
  | n + 1, c => (if c = b then 1 else 0) + (if goesOn p (parB c) then wyN p b n (parB c) else 0) + (if goesOn p (parG c) then wyN p b n (parG c) else 0)
def way (p : Pl) (b c : Q) : Int := wyN p b (lv c).toNat c
theorem way_step {p : Pl} {b c : Q} (h0 : nn c) : way p b c = (if c = b then 1 else 0) + (if goesOn p (parB c) then way p b (parB c) else 0) + (if goesOn p (parG c) then way p b (parG c) else 0) := by
  unfold way
  rcases Int.lt_or_le 0 (lv c) with g | g
  · have e : (lv c).toNat = (lv c - 1).toNat + 1 := by omega
    rw [lv_parB, lv_parG, e]
    rfl
  · have z : c = (0, 0) := by
      unfold nn at h0
      unfold lv at g
      exact Prod.ext (by show c.1 = 0; omega) (by show c.2 = 0; omega)
    subst z
    have e1 : goesOn p (parB (0, 0)) = false := rfl
    have e2 : goesOn p (parG (0, 0)) = false := rfl
    rw [e1, e2]
    show (if (0, 0) = b then (1 : Int) else 0) = _ + (if false = true then _ else 0) + (if false = true then _ else 0)
    simp
theorem way_nn (p : Pl) (b : Q) : ∀ (n : Nat) (c : Q), 0 ≤ wyN p b n c
  | 0, c => by
    unfold wyN
    split <;> decide
  | n + 1, c => by
    unfold wyN
    have h1 := way_nn p b n (parB c)
    have h2 := way_nn p b n (parG c)
    (repeat' split) <;> omega
/-! ### the program's walk from count to count -/
abbrev WS := List (Q × Int) × List Q
/-- a count that follows is found -/
def fol (c : Q) (st : WS) (f : Q) : WS :=
  let s1 : WS := if (dget st.1 f).isSome then st else (dput st.1 f 0, st.2 ++ [f])
  (dput s1.1 f ((dget s1.1 f).getD 0 + (dget s1.1 c).getD 0), s1.2)
def wStep (p : Pl) (st : WS) : WS := match st.2 with
  | [] => st
  | c :: r => if goesOn p c then fol c (fol c (st.1, r) (kidB c)) (kidG c) else (st.1, r)
def wRun (p : Pl) : Nat → WS → WS
  | 0, st => st
  | n + 1, st => wStep p (wRun p n st)
/-- a count that follows is found: what stands in the dict -/
theorem fol_get (c : Q) (st : WS) (f j : Q) : dget (fol c st f).1 j = if j = f then some ((dget st.1 f).getD 0 + (if c = f then (dget st.1 f).getD 0 else (dget st.1 c).getD 0)) else dget st.1 j := by
  unfold fol
  dsimp only
  by_cases h : (dget st.1 f).isSome = true
  · rw [if_pos h, dget_put]
    by_cases g : j = f
    · rw [if_pos g, if_pos g]
      by_cases z : c = f
      · rw [if_pos z, z]
      · rw [if_neg z]
    · rw [if_neg g, if_neg g]
  · rw [if_neg h, dget_put, dget_put, dget_put, dget_put]
    have e : dget st.1 f = none := by
      cases q : dget st.1 f with
      | none => rfl
      | some v => rw [q] at h; exact absurd rfl h
    by_cases g : j = f
    · rw [if_pos g, if_pos g, if_pos rfl, e]
      by_cases z : c = f
      · rw [if_pos z, if_pos z]; rfl
      · rw [if_neg z, if_neg z]; rfl
    · rw [if_neg g, if_neg g, if_neg g]
theorem fol_wt (c : Q) (st : WS) (f : Q) : (fol c st f).2 = if (dget st.1 f).isSome then st.2 else st.2 ++ [f] := by
  unfold fol
  dsimp only
  split <;> rfl
theorem fol_len (c : Q) (st : WS) (f : Q) : (fol c st f).1.length ≤ st.1.length + 2 := by
  unfold fol
  dsimp only
  refine Nat.le_trans (dput_len _ _ _) ?_
  split
  · omega
  · have := dput_len st.1 f (0 : Int)
    dsimp only
    omega
/-- what holds all the while; D: the counts gone through -/
structure WInv (p : Pl) (b : Q) (D : List Q) (st : WS) : Prop where
  nd : (D ++ st.2).Nodup
  ord : (D ++ st.2).Pairwise fun x y => lv x ≤ lv y
  near : ∀ c r, st.2 = c :: r → ∀ x ∈ st.2, lv x ≤ lv c + 1
  key : ∀ c, (dget st.1 c).isSome = true ↔ c ∈ D ++ st.2
  val : ∀ c v, dget st.1 c = some v → v = (if c = b then 1 else 0) + (if goesOn p (parB c) = true ∧ parB c ∈ D then way p b (parB c) else 0) + (if goesOn p (parG c) = true ∧ parG c ∈ D then way p b (parG c) else 0)
  kid : ∀ c ∈ D, goesOn p c = true → kidB c ∈ D ++ st.2 ∧ kidG c ∈ D ++ st.2
  src : ∀ c ∈ D ++ st.2, c = b ∨ (parB c ∈ D ∧ goesOn p (parB c) = true) ∨ (parG c ∈ D ∧ goesOn p (parG c) = true)
  beg : b ∈ D ++ st.2
  len : st.1.length ≤ 1 + 4 * D.length
section
variable {p : Pl} {b : Q} {D : List Q} {ws : List (Q × Int)} {c : Q} {r : List Q}
theorem par_inj {j c : Q} (h : parB j = c) : j = kidB c := by rw [← h, kidB_par]
theorem parG_inj {j c : Q} (h : parG j = c) : j = kidG c := by rw [← h, kidG_par]
theorem kids_ne (c : Q) : kidB c ≠ kidG c := by
  intro h
  have := congrArg Prod.fst h
  unfold kidB kidG at this
  dsimp only at this
  omega
theorem kidB_ne (c : Q) : c ≠ kidB c := by
  intro h
  have := congrArg Prod.fst h
  unfold kidB at this
  dsimp only at this
  omega
theorem kidG_ne (c : Q) : c ≠ kidG c := by
  intro h
  have := congrArg Prod.snd h
  unfold kidG at this
  dsimp only at this
  omega
theorem nn_kidB {c : Q} (h : nn c) : nn (kidB c) := by unfold nn kidB at *; dsimp only; omega
theorem nn_kidG {c : Q} (h : nn c) : nn (kidG c) := by unfold nn kidG at *; dsimp only; omega
theorem WInv.allnn {st : WS} (W : WInv p b D st) (hb : nn b) {x : Q} (hx : x ∈ D ++ st.2) : nn x := by
  rcases W.src x hx with rfl | ⟨_, g⟩ | ⟨_, g⟩
  · exact hb
  · have := nn_kidB (goesOn_nn g).1
    rw [kidB_par] at this
    exact this
  · have := nn_kidG (goesOn_nn g).1
    rw [kidG_par] at this
    exact this
/-- what the sum of the ways into a count is -/
theorem way_cases (h0 : nn c) (h : way p b c ≠ 0) : c = b ∨ (goesOn p (parB c) = true ∧ way p b (parB c) ≠ 0) ∨ (goesOn p (parG c) = true ∧ way p b (parG c) ≠ 0) := by
  rw [way_step h0] at h
  by_cases e : c = b
  · exact .inl e
  · rw [if_neg e] at h
    by_cases g1 : goesOn p (parB c) = true ∧ way p b (parB c) ≠ 0
    · exact .inr (.inl g1)
    · by_cases g2 : goesOn p (parG c) = true ∧ way p b (parG c) ≠ 0
      · exact .inr (.inr g2)
      · exfalso
        apply h
        have e1 : (if goesOn p (parB c) = true then way p b (parB c) else 0) = 0 := by
          split
          · rename_i q
            exact Classical.byContradiction fun z => g1 ⟨q, z⟩
          · rfl
        have e2 : (if goesOn p (parG c) = true then way p b (parG c) else 0) = 0 := by
          split
          · rename_i q
            exact Classical.byContradiction fun z => g2 ⟨q, z⟩
          · rfl
        rw [e1, e2]
        rfl
/-- all counts that are come to and lie below those that wait are gone through -/
theorem WInv.below {st : WS} (W : WInv p b D st) (L : Int) (hL : ∀ x ∈ st.2, L ≤ lv x) : ∀ (n : Nat) (q : Q), nn q → (lv q).toNat = n → way p b q ≠ 0 → lv q < L → q ∈ D
  | n, q, h0, hn, hw, hl => by
    have out : ∀ {x}, x ∈ D ++ st.2 → lv x < L → x ∈ D := fun {x} hx hlx => by
      rcases List.mem_append.mp hx with g | g
      · exact g
      · have := hL x g
        omega
    rcases way_cases h0 hw with e | ⟨g, w⟩ | ⟨g, w⟩
    · exact out (e ▸ W.beg) hl
    · have nq := (goesOn_nn g).1
      have l1 := lv_parB (c := q)
      have h2 : 0 ≤ lv (parB q) := by unfold lv; unfold PD.nn at nq; omega
      have ih := WInv.below W L hL (n - 1) (parB q) nq (by omega) w (by omega)
      have := (W.kid _ ih g).1
      rw [kidB_par] at this
      exact out this hl
    · have nq := (goesOn_nn g).1
      have l1 := lv_parG (c := q)
      have h2 : 0 ≤ lv (parG q) := by unfold lv; unfold PD.nn at nq; omega
      have ih := WInv.below W L hL (n - 1) (parG q) nq (by omega) w (by omega)
      have := (W.kid _ ih g).2
      rw [kidG_par] at this
      exact out this hl
  termination_by n => n
  decreasing_by all_goals omega
/-- what stands in the dict at a count below those that wait, or the first of those -/
theorem WInv.right {st : WS} (W : WInv p b D st) (L : Int) (hL : ∀ x ∈ st.2, L ≤ lv x) (h0 : nn c) (hc : lv c ≤ L) {v : Int} (h : dget st.1 c = some v) : v = way p b c := by
  rw [W.val c v h, way_step h0]
  have key : ∀ q : Q, lv q = lv c - 1 → (if goesOn p q = true ∧ q ∈ D then way p b q else 0) = if goesOn p q = true then way p b q else 0 := fun q hq => by
    by_cases g : goesOn p q = true
    · rw [if_pos g]
      by_cases d : q ∈ D
      · rw [if_pos ⟨g, d⟩]
      · rw [if_neg (fun z => d z.2)]
        exact (Classical.byContradiction fun z => d (W.below L hL _ q (goesOn_nn g).1 rfl (fun e => z e.symm) (by omega)))
    · rw [if_neg g, if_neg (fun z => g z.1)]
  rw [key _ lv_parB, key _ lv_parG]
theorem winv_start (hb : nn b) : WInv p b [] ([(b, 1)], [b]) where
  nd := by simp
  ord := by simp
  near := fun c r e x hx => by
    cases e
    cases List.mem_singleton.mp hx
    omega
  key := fun c => by
    rw [dget_cons, dget_nil]
    by_cases e : b = c
    · simp [e]
    · simp [e, Ne.symm e]
  val := fun c v h => by
    rw [dget_cons, dget_nil] at h
    by_cases e : b = c
    · rw [if_pos e] at h
      cases h
      rw [if_pos e.symm, if_neg (fun z => nomatch z.2), if_neg (fun z => nomatch z.2)]
      rfl
    · rw [if_neg e] at h
      cases h
  kid := fun c h => nomatch h
  src := fun c h => .inl (List.mem_singleton.mp h)
  beg := List.mem_singleton.mpr rfl
  len := by simp
theorem WInv.head (W : WInv p b D (ws, c :: r)) : ∀ x ∈ c :: r, lv c ≤ lv x := fun x hx => by
  rcases List.mem_cons.mp hx with rfl | hx
  · omega
  · have := (List.pairwise_append.mp W.ord).2.1
    exact (List.pairwise_cons.mp this).1 x hx
theorem WInv.back (W : WInv p b D (ws, c :: r)) : ∀ x ∈ D, lv x ≤ lv c := fun x hx => (List.pairwise_append.mp W.ord).2.2 x hx c List.mem_cons_self
theorem winv_skip (W : WInv p b D (ws, c :: r)) (g : goesOn p c = false) : WInv p b (D ++ [c]) (ws, r) := by
  have e : (D ++ [c]) ++ r = D ++ (c :: r) := by rw [List.append_assoc]; rfl
  have mm : ∀ {q : Q}, goesOn p q = true → (q ∈ D ++ [c] ↔ q ∈ D) := fun {q} h => by
    rw [List.mem_append, List.mem_singleton]
    constructor
    · rintro (h1 | rfl)
      · exact h1
      · rw [g] at h; cases h
    · exact .inl
  have cc : ∀ {q : Q}, (goesOn p q = true ∧ q ∈ D ++ [c]) ↔ (goesOn p q = true ∧ q ∈ D) := fun {q} => ⟨fun z => ⟨z.1, (mm z.1).mp z.2⟩, fun z => ⟨z.1, (mm z.1).mpr z.2⟩⟩
  refine ⟨e ▸ W.nd, e ▸ W.ord, fun c2 r2 er x hx => ?_, fun j => by rw [e]; exact W.key j, fun j v h => ?_, fun j hj gj => ?_, fun j hj => ?_, e ▸ W.beg, ?_⟩
  · dsimp only at er hx
    subst er
    have := W.near c _ rfl x (List.mem_cons_of_mem _ hx)
    have := W.head c2 (List.mem_cons_of_mem _ List.mem_cons_self)
    omega
  · rw [W.val j v h]
    simp only [cc]
  · rw [e]
    exact W.kid j ((mm gj).mp hj) gj
  · rw [e] at hj
    rcases W.src j hj with h | ⟨h1, h2⟩ | ⟨h1, h2⟩
    · exact .inl h
    · exact .inr (.inl ⟨List.mem_append_left _ h1, h2⟩)
    · exact .inr (.inr ⟨List.mem_append_left _ h1, h2⟩)
  · have := W.len
    rw [List.length_append]
    dsimp only at this ⊢
    simp only [List.length_singleton]
    omega
theorem winv_go (hb : nn b) (W : WInv p b D (ws, c :: r)) (g : goesOn p c = true) : WInv p b (D ++ [c]) (fol c (fol c (ws, r) (kidB c)) (kidG c)) := by
  have e : (D ++ [c]) ++ r = D ++ (c :: r) := by rw [List.append_assoc]; rfl
  have hc : c ∈ D ++ (c :: r) := List.mem_append_right _ List.mem_cons_self
  have nc := W.allnn hb hc
  have cD : c ∉ D := fun h => (List.nodup_append.mp W.nd).2.2 c h c List.mem_cons_self rfl
  obtain ⟨v, hv⟩ := Option.isSome_iff_exists.mp ((W.key c).mpr hc)
  have hw := W.right (lv c) W.head nc (by omega) hv
  subst hw
  have gB : ∀ j, dget (fol c (ws, r) (kidB c)).1 j = if j = kidB c then some ((dget ws (kidB c)).getD 0 + way p b c) else dget ws j := fun j => by
    rw [fol_get, if_neg (kidB_ne c), hv]
    rfl
  have gA : ∀ j, dget (fol c (fol c (ws, r) (kidB c)) (kidG c)).1 j = if j = kidG c then some ((dget ws (kidG c)).getD 0 + way p b c) else if j = kidB c then some ((dget ws (kidB c)).getD 0 + way p b c) else dget ws j := fun j => by
    rw [fol_get, if_neg (kidG_ne c), gB, gB, gB, if_neg (Ne.symm (kids_ne c)), if_neg (kidB_ne c), hv]
    rfl
  have wA : (fol c (fol c (ws, r) (kidB c)) (kidG c)).2 = (if (dget ws (kidB c)).isSome then r else r ++ [kidB c]) ++ (if (dget ws (kidG c)).isSome then [] else [kidG c]) := by
    rw [fol_wt, fol_wt, gB, if_neg (Ne.symm (kids_ne c))]
    dsimp only
    by_cases q : (dget ws (kidG c)).isSome = true
    · rw [if_pos q, if_pos q, List.append_nil]
    · rw [if_neg q, if_neg q]
  generalize hst : fol c (fol c (ws, r) (kidB c)) (kidG c) = st at *
  have oldr : ∀ {k : Q}, lv k = lv c + 1 → (dget ws k).isSome = true → k ∈ r := fun {k} hk h => by
    rcases List.mem_append.mp ((W.key k).mp h) with q | q
    · have := W.back k q
      omega
    · rcases List.mem_cons.mp q with rfl | q
      · omega
      · exact q
  have kids : ∀ {k : Q}, lv k = lv c + 1 → (dget ws k).isSome = false → k ∉ D ++ (c :: r) := fun {k} hk h q => by
    rw [(W.key k).mpr q] at h
    cases h
  have mem : ∀ x, x ∈ (D ++ [c]) ++ st.2 ↔ x ∈ D ++ (c :: r) ∨ x = kidB c ∨ x = kidG c := fun x => by
    rw [wA]
    simp only [List.mem_append, List.mem_cons, List.not_mem_nil, or_false]
    have m1 : x ∈ (if (dget ws (kidB c)).isSome = true then r else r ++ [kidB c]) ↔ x ∈ r ∨ x = kidB c := by
      split
      · rename_i q
        constructor
        · exact .inl
        · rintro (h | rfl)
          · exact h
          · exact oldr lv_kidB q
      · rw [List.mem_append, List.mem_singleton]
    have m2 : (x ∈ (if (dget ws (kidG c)).isSome = true then [] else [kidG c]) ∨ x ∈ r) ↔ x = kidG c ∨ x ∈ r := by
      split
      · rename_i q
        constructor
        · rintro (h | h)
          · cases h
          · exact .inr h
        · rintro (rfl | h)
          · exact .inr (oldr lv_kidG q)
          · exact .inr h
      · rw [List.mem_singleton]
    rw [m1]
    constructor
    · rintro ((h | h) | ((h | h) | h))
      · exact .inl (.inl h)
      · exact .inl (.inr (.inl h))
      · exact .inl (.inr (.inr h))
      · exact .inr (.inl h)
      · rcases m2.mp (.inl h) with q | q
        · exact .inr (.inr q)
        · exact .inl (.inr (.inr q))
    · rintro ((h | h | h) | h | h)
      · exact .inl (.inl h)
      · exact .inl (.inr h)
      · exact .inr (.inl (.inl h))
      · exact .inr (.inl (.inr h))
      · rcases m2.mpr (.inl h) with q | q
        · exact .inr (.inr q)
        · exact .inr (.inl (.inl q))
  have top : ∀ x ∈ D ++ (c :: r), lv x ≤ lv c + 1 := fun x hx => by
    rcases List.mem_append.mp hx with q | q
    · have := W.back x q
      omega
    · exact W.near c r rfl x q
  have shape : (D ++ [c]) ++ st.2 = ((D ++ (c :: r)) ++ (if (dget ws (kidB c)).isSome then [] else [kidB c])) ++ (if (dget ws (kidG c)).isSome then [] else [kidG c]) := by
    rw [wA, ← List.append_assoc, ← e]
    split
    · rw [List.append_nil]
    · simp only [List.append_assoc]
  have ordN : ((D ++ [c]) ++ st.2).Pairwise fun x y => lv x ≤ lv y := by
    rw [shape]
    refine List.pairwise_append.mpr ⟨List.pairwise_append.mpr ⟨W.ord, by split <;> simp, fun x hx y hy => ?_⟩, by split <;> simp, fun x hx y hy => ?_⟩
    · split at hy
      · cases hy
      · cases List.mem_singleton.mp hy
        rw [lv_kidB]
        exact top x hx
    · split at hy
      · cases hy
      · cases List.mem_singleton.mp hy
        rw [lv_kidG]
        rcases List.mem_append.mp hx with h | h
        · exact top x h
        · split at h
          · cases h
          · cases List.mem_singleton.mp h
            rw [lv_kidB]
            exact Int.le_refl _
  refine ⟨?_, ?_, fun c2 r2 er x hx => ?_, fun j => ?_, fun j v h => ?_, fun j hj gj => ?_, fun j hj => ?_, (mem b).mpr (.inl W.beg), ?_⟩
  · rw [shape]
    refine List.nodup_append.mpr ⟨List.nodup_append.mpr ⟨W.nd, by split <;> simp, fun x hx y hy => ?_⟩, by split <;> simp, fun x hx y hy => ?_⟩
    · split at hy
      · cases hy
      · rename_i q
        cases List.mem_singleton.mp hy
        rintro rfl
        exact kids lv_kidB (by simpa using q) hx
    · split at hy
      · cases hy
      · rename_i q
        cases List.mem_singleton.mp hy
        rintro rfl
        rcases List.mem_append.mp hx with h | h
        · exact kids lv_kidG (by simpa using q) h
        · split at h
          · cases h
          · exact kids_ne c (List.mem_singleton.mp h).symm
  · exact ordN
  · have lo : lv c ≤ lv c2 := by
      have h2 : c2 ∈ (D ++ [c]) ++ st.2 := List.mem_append_right _ (er ▸ List.mem_cons_self)
      rcases (mem c2).mp h2 with h | h | h
      · exact (List.pairwise_append.mp ordN).2.2 c (List.mem_append_right _ (List.mem_singleton.mpr rfl)) c2 (er ▸ List.mem_cons_self)
      · rw [h, lv_kidB]; omega
      · rw [h, lv_kidG]; omega
    have hx2 : x ∈ (D ++ [c]) ++ st.2 := List.mem_append_right _ hx
    have : lv x ≤ lv c + 1 := by
      rcases (mem x).mp hx2 with h | h | h
      · exact top x h
      · rw [h, lv_kidB]; omega
      · rw [h, lv_kidG]; omega
    omega
  · rw [mem, gA]
    by_cases z1 : j = kidG c
    · rw [if_pos z1]
      exact ⟨fun _ => .inr (.inr z1), fun _ => rfl⟩
    · rw [if_neg z1]
      by_cases z2 : j = kidB c
      · rw [if_pos z2]
        exact ⟨fun _ => .inr (.inl z2), fun _ => rfl⟩
      · rw [if_neg z2]
        constructor
        · exact fun q => .inl ((W.key j).mp q)
        · rintro (q | q | q)
          · exact (W.key j).mpr q
          · exact absurd q z2
          · exact absurd q z1
  · have inD : ∀ q : Q, q ≠ c → (q ∈ D ++ [c] ↔ q ∈ D) := fun q hq => by
      rw [List.mem_append, List.mem_singleton]
      exact ⟨fun z => z.resolve_right hq, .inl⟩
    have inC : c ∈ D ++ [c] := List.mem_append_right _ (List.mem_singleton.mpr rfl)
    have old : ∀ k : Q, (dget ws k).getD 0 = (if (dget ws k).isSome then (if k = b then 1 else 0) + (if goesOn p (parB k) = true ∧ parB k ∈ D then way p b (parB k) else 0) + (if goesOn p (parG k) = true ∧ parG k ∈ D then way p b (parG k) else 0) else 0) := fun k => by
      cases q : dget ws k with
      | none => rfl
      | some v =>
        simp only [Option.isSome_some, if_true]
        rw [← W.val k v q]
        rfl
    have none0 : ∀ k : Q, (dget ws k).isSome = false → (if k = b then 1 else 0) + (if goesOn p (parB k) = true ∧ parB k ∈ D then way p b (parB k) else 0) + (if goesOn p (parG k) = true ∧ parG k ∈ D then way p b (parG k) else 0) = 0 := fun k hk => by
      have nk : k ∉ D ++ (c :: r) := fun q => by rw [(W.key k).mpr q] at hk; cases hk
      rw [if_neg (fun z : k = b => nk (z ▸ W.beg)), if_neg (fun z => nk (by have := (W.kid _ z.2 z.1).1; rw [kidB_par] at this; exact this)), if_neg (fun z => nk (by have := (W.kid _ z.2 z.1).2; rw [kidG_par] at this; exact this))]
      rfl
    have old' : ∀ k : Q, (dget ws k).getD 0 = (if k = b then 1 else 0) + (if goesOn p (parB k) = true ∧ parB k ∈ D then way p b (parB k) else 0) + (if goesOn p (parG k) = true ∧ parG k ∈ D then way p b (parG k) else 0) := fun k => by
      rw [old]
      split
      · rfl
      · rename_i q
        rw [none0 k (by simpa using q)]
    rw [gA] at h
    by_cases z1 : j = kidG c
    · subst z1
      rw [if_pos rfl] at h
      cases h
      have n1 : parB (kidG c) ≠ c := fun z => kids_ne c (par_inj z).symm
      simp only [inD _ n1, parG_kid, g, inC, old', true_and, if_true]
      rw [if_neg cD]
      omega
    · rw [if_neg z1] at h
      have n1 : parG j ≠ c := fun z => z1 (parG_inj z)
      by_cases z2 : j = kidB c
      · subst z2
        rw [if_pos rfl] at h
        cases h
        simp only [inD _ n1, parB_kid, g, inC, old', true_and, if_true]
        rw [if_neg cD]
        omega
      · rw [if_neg z2] at h
        have n2 : parB j ≠ c := fun z => z2 (par_inj z)
        simp only [inD _ n1, inD _ n2]
        exact W.val j v h
  · rw [mem, mem]
    rcases List.mem_append.mp hj with h | h
    · obtain ⟨k1, k2⟩ := W.kid j h gj
      exact ⟨.inl k1, .inl k2⟩
    · cases List.mem_singleton.mp h
      exact ⟨.inr (.inl rfl), .inr (.inr rfl)⟩
  · have inC : c ∈ D ++ [c] := List.mem_append_right _ (List.mem_singleton.mpr rfl)
    rcases (mem j).mp hj with h | h | h
    · rcases W.src j h with q | ⟨q1, q2⟩ | ⟨q1, q2⟩
      · exact .inl q
      · exact .inr (.inl ⟨List.mem_append_left _ q1, q2⟩)
      · exact .inr (.inr ⟨List.mem_append_left _ q1, q2⟩)
    · subst h
      exact .inr (.inl (by rw [parB_kid]; exact ⟨inC, g⟩))
    · subst h
      exact .inr (.inr (by rw [parG_kid]; exact ⟨inC, g⟩))
  · have h1 := fol_len c (fol c (ws, r) (kidB c)) (kidG c)
    have h2 := fol_len c (ws, r) (kidB c)
    have h3 := W.len
    rw [hst] at h1
    dsimp only at h2 h3
    rw [List.length_append]
    simp only [List.length_singleton]
    omega
end
section
variable {p : Pl} {b : Q}
abbrev wInit (b : Q) : WS := ([(b, 1)], [b])
theorem wRun_inv (hb : nn b) : ∀ k : Nat, ∃ D, WInv p b D (wRun p k (wInit b)) ∧ ((wRun p k (wInit b)).2 = [] ∨ D.length = k)
  | 0 => ⟨[], winv_start hb, .inr rfl⟩
  | k + 1 => by
    obtain ⟨D, W, e⟩ := wRun_inv hb k
    show ∃ D, WInv p b D (wStep p (wRun p k (wInit b))) ∧ ((wStep p (wRun p k (wInit b))).2 = [] ∨ D.length = k + 1)
    generalize wRun p k (wInit b) = st at *
    obtain ⟨ws, wt⟩ := st
    cases wt with
    | nil => exact ⟨D, W, .inl rfl⟩
    | cons c r =>
      have hk : D.length = k := e.resolve_left (fun z => nomatch z)
      have hl : (D ++ [c]).length = k + 1 := by rw [List.length_append, hk]; rfl
      unfold wStep
      dsimp only
      cases g : goesOn p c with
      | true =>
        rw [if_pos rfl]
        exact ⟨_, winv_go hb W g, .inr hl⟩
      | false =>
        rw [if_neg Bool.false_ne_true]
        exact ⟨_, winv_skip W g, .inr hl⟩
theorem WInv.box {D : List Q} {st : WS} (W : WInv p b D st) (h : PlanOK p) (hb : nn b) (hl : lv b ≤ 1) {x : Q} (hx : x ∈ D ++ st.2) : nn x ∧ lv x ≤ 24 := by
  refine ⟨W.allnn hb hx, ?_⟩
  have h24 := h.len
  rcases W.src x hx with rfl | ⟨_, g⟩ | ⟨_, g⟩
  · omega
  · have h1 := (goesOn_nn g).2
    have h2 := lv_parB (c := x)
    unfold lv at *
    omega
  · have h1 := (goesOn_nn g).2
    have h2 := lv_parG (c := x)
    unfold lv at *
    omega
theorem WInv.count {D : List Q} {st : WS} (W : WInv p b D st) (h : PlanOK p) (hb : nn b) (hl : lv b ≤ 1) : D.length + st.2.length ≤ 676 := by
  have n1 : ((D ++ st.2).map fun x : Q => x.1.toNat * 26 + x.2.toNat).Nodup := by
    refine List.pairwise_map.mpr ((List.pairwise_iff_forall_sublist.mpr fun {x y} hs => ?_))
    have hx := hs.subset (List.mem_cons_self (a := x))
    have hy := hs.subset (List.mem_cons_of_mem x (List.mem_singleton.mpr rfl) : y ∈ [x, y])
    have ne : x ≠ y := by
      have := W.nd.sublist hs
      simp at this
      exact this
    obtain ⟨a1, a2⟩ := W.box h hb hl hx
    obtain ⟨b1, b2⟩ := W.box h hb hl hy
    unfold lv nn at *
    intro e
    exact ne (Prod.ext (by omega) (by omega))
  have n2 := n1.length_le_of_subset (l₂ := List.range 676) fun z hz => by
    obtain ⟨x, hx, rfl⟩ := List.mem_map.mp hz
    obtain ⟨a1, a2⟩ := W.box h hb hl hx
    unfold lv nn at *
    exact List.mem_range.mpr (by omega)
  rw [List.length_map, List.length_append, List.length_range] at n2
  exact n2
theorem wRun_end (h : PlanOK p) (hb : nn b) (hl : lv b ≤ 1) : (wRun p 676 (wInit b)).2 = [] := by
  obtain ⟨D, W, e⟩ := wRun_inv (p := p) hb 676
  rcases e with e | e
  · exact e
  · have := W.count h hb hl
    exact List.eq_nil_of_length_eq_zero (by omega)
theorem wRun_stop {n : Nat} : ∀ {k : Nat}, n ≤ k → (wRun p n (wInit b)).2 = [] → wRun p k (wInit b) = wRun p n (wInit b)
  | 0, h, e => by cases Nat.le_zero.mp h; rfl
  | k + 1, h, e => by
    rcases Nat.eq_or_lt_of_le h with q | q
    · rw [q]
    · have ih := wRun_stop (k := k) (by omega) e
      show wStep p (wRun p k (wInit b)) = _
      rw [ih]
      unfold wStep
      rw [e]
/-- the ways by counts, as the program tells them -/
def waysD (p : Pl) (b : Q) : List (Q × Int) := (wRun p 676 (wInit b)).1
theorem wRun_all {k : Nat} (h : PlanOK p) (hb : nn b) (hl : lv b ≤ 1) (e : (wRun p k (wInit b)).2 = []) : (wRun p k (wInit b)).1 = waysD p b := by
  unfold waysD
  rcases Nat.le_total k 676 with q | q
  · rw [wRun_stop q e]
  · rw [wRun_stop q (wRun_end h hb hl)]
theorem WInv.pos {D : List Q} {st : WS} (W : WInv p b D st) (hb : nn b) : ∀ (n : Nat) (x : Q), x ∈ D ++ st.2 → (lv x).toNat = n → 0 < way p b x
  | n, x, hx, hn => by
    have nx := W.allnn hb hx
    have s := way_step (p := p) (b := b) nx
    have w1 := way_nn p b (lv (parB x)).toNat (parB x)
    have w2 := way_nn p b (lv (parG x)).toNat (parG x)
    have d1 : way p b (parB x) = wyN p b (lv (parB x)).toNat (parB x) := rfl
    have d2 : way p b (parG x) = wyN p b (lv (parG x)).toNat (parG x) := rfl
    rcases W.src x hx with e | ⟨q, g⟩ | ⟨q, g⟩
    · rw [if_pos e] at s
      rw [s]
      split <;> split <;> omega
    · have nq := (goesOn_nn g).1
      have l1 := lv_parB (c := x)
      have h2 : 0 ≤ lv (parB x) := by unfold lv; unfold PD.nn at nq; omega
      have ih := WInv.pos W hb (n - 1) (parB x) (List.mem_append_left _ q) (by omega)
      rw [if_pos g] at s
      rw [s]
      split <;> split <;> omega
    · have nq := (goesOn_nn g).1
      have l1 := lv_parG (c := x)
      have h2 : 0 ≤ lv (parG x) := by unfold lv; unfold PD.nn at nq; omega
      have ih := WInv.pos W hb (n - 1) (parG x) (List.mem_append_left _ q) (by omega)
      rw [if_pos g] at s
      rw [s]
      split <;> split <;> omega
  termination_by n => n
  decreasing_by all_goals omega
/-- what the program's dict of ways holds -/
theorem ways_some (h : PlanOK p) (hb : nn b) (hl : lv b ≤ 1) {c : Q} (hc : nn c) : ((dget (waysD p b) c).isSome = true ↔ way p b c ≠ 0) ∧ ∀ v, dget (waysD p b) c = some v → v = way p b c := by
  obtain ⟨D, W, _⟩ := wRun_inv (p := p) hb 676
  have e := wRun_end h hb hl
  have bel := W.below (lv c + 1) (by rw [e]; exact fun x hx => nomatch hx)
  constructor
  · unfold waysD
    rw [W.key c, e, List.append_nil]
    constructor
    · intro q
      have := W.pos hb _ c (List.mem_append_left _ q) rfl
      omega
    · exact fun w => bel _ c hc rfl w (by omega)
  · exact fun v hv => W.right (lv c + 1) (by rw [e]; exact fun x hx => nomatch hx) hc (by omega) hv
theorem ways_getD (h : PlanOK p) (hb : nn b) (hl : lv b ≤ 1) {c : Q} (hc : nn c) : (dget (waysD p b) c).getD 0 = way p b c := by
  obtain ⟨h1, h2⟩ := ways_some h hb hl hc
  cases q : dget (waysD p b) c with
  | some v => exact h2 v q
  | none =>
    rw [q] at h1
    exact Classical.byContradiction fun z => nomatch h1.mpr (fun e => z e.symm)
theorem ways_is (h : PlanOK p) (hb : nn b) (hl : lv b ≤ 1) {c : Q} (hc : nn c) (w : way p b c ≠ 0) : dget (waysD p b) c = some (way p b c) := by
  obtain ⟨h1, h2⟩ := ways_some h hb hl hc
  obtain ⟨v, hv⟩ := Option.isSome_iff_exists.mp (h1.mpr w)
  rw [hv, h2 v hv]
end
theorem wstep_go {p : Pl} {ws : List (Q × Int)} {c : Q} {r : List Q} (g : goesOn p c = true) : wStep p (ws, c :: r) = fol c (fol c (ws, r) (kidB c)) (kidG c) := by
  unfold wStep
  dsimp only
  rw [g, if_pos rfl]
theorem wstep_skip {p : Pl} {ws : List (Q × Int)} {c : Q} {r : List Q} (g : goesOn p c = false) : wStep p (ws, c :: r) = (ws, r) := by
  unfold wStep
  dsimp only
  rw [g, if_neg Bool.false_ne_true]
theorem fol_new {c f : Q} {st : WS} {v : Int} (h : (dget st.1 f).isSome = false) (hv : dget (dput st.1 f 0) c = some v) : fol c st f = (dput (dput st.1 f 0) f (0 + v), st.2 ++ [f]) := by
  unfold fol
  dsimp only
  rw [h, if_neg Bool.false_ne_true]
  dsimp only
  rw [hv, dget_put, if_pos rfl]
  rfl
theorem fol_old {c f : Q} {st : WS} {v n : Int} (h : dget st.1 f = some n) (hv : dget st.1 c = some v) : fol c st f = (dput st.1 f (n + v), st.2) := by
  unfold fol
  dsimp only
  rw [h]
  simp only [Option.isSome_some, if_true]
  rw [hv, h]
  rfl
theorem put_some {α : Type} {kvs : List (Q × α)} {j : Q} (k : Q) (w : α) (h : (dget kvs j).isSome = true) : ∃ v, dget (dput kvs k w) j = some v := by
  rw [dget_put]
  split
  · exact ⟨_, rfl⟩
  · exact Option.isSome_iff_exists.mp h
theorem fold_take {α β : Type} {g : β → α → β} {a : β} {l : List α} {i : Nat} {x : α} (h : l[i]? = some x) : (l.take (i + 1)).foldl g a = g ((l.take i).foldl g a) x := by
  rw [take_succ' h, List.foldl_append]
  rfl
theorem fol_wlen (c : Q) (st : WS) (f : Q) : (fol c st f).2.length ≤ st.2.length + 1 := by
  rw [fol_wt]
  split
  · omega
  · rw [List.length_append]; exact Nat.le_refl _
theorem fold_ok (c : Q) : ∀ (l : List Q) (st : WS), (dget st.1 c).isSome = true → (dget (l.foldl (fol c) st).1 c).isSome = true ∧ (l.foldl (fol c) st).1.length ≤ st.1.length + 2 * l.length ∧ (l.foldl (fol c) st).2.length ≤ st.2.length + l.length
  | [], st, h => ⟨h, Nat.le_refl _, Nat.le_refl _⟩
  | f :: l, st, h => by
    have h1 : (dget (fol c st f).1 c).isSome = true := by
      rw [fol_get]
      split
      · rfl
      · exact h
    obtain ⟨a1, a2, a3⟩ := fold_ok c l (fol c st f) h1
    have b1 := fol_len c st f
    have b2 := fol_wlen c st f
    simp only [List.length_cons]
    exact ⟨a1, Nat.le_trans a2 (by omega), Nat.le_trans a3 (by omega)⟩
theorem len0 {l : List Q} (h : decide (0 < (l.length : Int)) = false) : l = [] := by
  have := of_decide_eq_false h
  exact List.eq_nil_of_length_eq_zero (by omega)
end PD
namespace PD
open PySem PySem.Spec PyProof.Rows L2
variable [TN]
/-! ### digits of a cell, numbers mixed of it -/
def cutD' (b c : Int) : Nat → Int
  | 0 => c
  | n + 1 => cutD' b c n / b
def digs (c b : Int) (n : Nat) : List Int := (List.range n).map fun i => cutD' b c i % b
def mixOne (c b k : Int) : Int := ((c % 1000003 * 48271 + k * k * 69621 + k * 16807) % 2147483647 * 39373 + c) % 2147483629 / 13 % b
def mixes (c b : Int) (n : Nat) : List Int := (List.range n).map fun (i : Nat) => mixOne c b (i : Int)
theorem digs_succ (c b : Int) (n : Nat) : digs c b (n + 1) = digs c b n ++ [cutD' b c n % b] := by
  unfold digs
  rw [List.range_succ, List.map_append]
  rfl
theorem mixes_succ (c b : Int) (n : Nat) : mixes c b (n + 1) = mixes c b n ++ [mixOne c b n] := by
  unfold mixes
  rw [List.range_succ, List.map_append]
  rfl
theorem digs_len (c b : Int) (n : Nat) : (digs c b n).length = n := by unfold digs; rw [List.length_map, List.length_range]
theorem mixes_len (c b : Int) (n : Nat) : (mixes c b n).length = n := by unfold mixes; rw [List.length_map, List.length_range]
theorem getD_in {l : List Int} {k : Nat} {b : Int} (h0 : 0 < b) (h : ∀ x ∈ l, 0 ≤ x ∧ x < b) : 0 ≤ l.getD k 0 ∧ l.getD k 0 < b := by
  rw [List.getD_eq_getElem?_getD]
  cases q : l[k]? with
  | none => exact ⟨Int.le_refl _, h0⟩
  | some x => exact h x (List.mem_of_getElem? q)
theorem digs_in {c b : Int} {n : Nat} (h : 0 < b) : ∀ x ∈ digs c b n, 0 ≤ x ∧ x < b := fun x hx => by
  obtain ⟨i, _, rfl⟩ := List.mem_map.mp hx
  exact ⟨Int.emod_nonneg _ (by omega), Int.emod_lt_of_pos _ h⟩
theorem mixes_in {c b : Int} {n : Nat} (h : 0 < b) : ∀ x ∈ mixes c b n, 0 ≤ x ∧ x < b := fun x hx => by
  obtain ⟨i, _, rfl⟩ := List.mem_map.mp hx
  exact ⟨Int.emod_nonneg _ (by omega), Int.emod_lt_of_pos _ h⟩
/-! ### a plan by the digits of a cell -/
def rowOf (dg : List Int) (many c : Int) (come : List Int) (at_ : Int) : List Int :=
  if decide (1 < c % 4) then (come.take (if 0 < (come.length : Int) - dg.getD ((at_ + come.length + 1) % many).toNat 0 then (come.length : Int) - dg.getD ((at_ + come.length + 1) % many).toNat 0 else 0).toNat).drop (dg.getD ((at_ + come.length) % many).toNat 0).toNat
  else ((enumT come).filter fun q => decide (0 < dg.getD ((at_ + q.1) % many).toNat 0)).map (·.2)
def planGo (dg : List Int) (many c m : Int) : Nat → Pl → List Int → Int → Pl
  | 0, rows, _, _ => rows
  | n + 1, rows, come, at_ => if decide ((rows.length : Int) < m) && decide (0 < (come.length : Int)) then
      planGo dg many c m n (if rowOf dg many c come at_ = [] then rows else rows ++ [rowOf dg many c come at_]) (nxt (rowOf dg many c come at_)) (at_ + come.length) else rows
theorem planGo_stop {dg : List Int} {many c m : Int} {n : Nat} {rows : Pl} {come : List Int} {at_ : Int} (h : (decide ((rows.length : Int) < m) && decide (0 < (come.length : Int))) = false) : planGo dg many c m n rows come at_ = rows := by
  cases n with
  | zero => rfl
  | succ n =>
    unfold planGo
    rw [h, if_neg Bool.false_ne_true]
theorem planGo_go {dg : List Int} {many c m : Int} {n : Nat} {rows : Pl} {come : List Int} {at_ : Int} (h : (decide ((rows.length : Int) < m) && decide (0 < (come.length : Int))) = true) :
    planGo dg many c m (n + 1) rows come at_ = planGo dg many c m n (if rowOf dg many c come at_ = [] then rows else rows ++ [rowOf dg many c come at_]) (nxt (rowOf dg many c come at_)) (at_ + come.length) := by
  rw [planGo, h, if_pos rfl]
theorem enumT_two {α : Type} (xs : List α) : (enumT xs).map (·.2) = xs := by
  refine List.ext_getElem? fun i => ?_
  rw [List.getElem?_map]
  cases q : (enumT xs)[i]? with
  | none =>
    rw [List.getElem?_eq_none_iff, enumT_len] at q
    rw [List.getElem?_eq_none_iff.mpr q]
    rfl
  | some z =>
    obtain ⟨h, _, _⟩ := enumT_get q
    rw [h]
    rfl
theorem rowOf_sub (dg : List Int) (many c : Int) (come : List Int) (at_ : Int) : (rowOf dg many c come at_).Sublist come := by
  unfold rowOf
  split
  · exact (List.drop_sublist _ _).trans (List.take_sublist _ _)
  · have h := (List.filter_sublist (l := enumT come) (p := fun q => decide (0 < dg.getD ((at_ + q.1) % many).toNat 0))).map (·.2)
    rw [enumT_two] at h
    exact h
theorem row_app {rows : Pl} {r : List Int} {k : Nat} (h : k < rows.length) : row (rows ++ [r]) k = row rows k := by
  unfold row
  rw [List.getD_eq_getElem?_getD, List.getD_eq_getElem?_getD, List.getElem?_append_left h]
theorem row_new {rows : Pl} {r : List Int} : row (rows ++ [r]) rows.length = r := by
  unfold row
  rw [List.getD_eq_getElem?_getD, List.getElem?_append_right (Nat.le_refl _)]
  simp
theorem row_far {rows : Pl} {r : List Int} {k : Nat} (h : rows.length < k) : row (rows ++ [r]) k = [] := row_out (by rw [List.length_append]; simp only [List.length_singleton]; omega)
/-- one row more -/
theorem PlanOK.snoc {p : Pl} {r : List Int} (h : PlanOK p) (hl : p.length < 24) (ne : r ≠ []) (hr : r.Pairwise (· < ·)) (hs : ∀ x ∈ r, x ∈ nxt (row p (p.length - 1))) : PlanOK (p ++ [r]) := by
  have hp := h.pos
  refine ⟨by rw [List.length_append]; simp only [List.length_singleton]; omega, by rw [List.length_append]; omega, ?_, fun k hk => ?_, fun k => ?_, fun k x hx => ?_⟩
  · rw [row_app hp]
    exact h.first
  · rw [List.length_append] at hk
    simp only [List.length_singleton] at hk
    rcases Nat.lt_or_ge k p.length with q | q
    · rw [row_app q]
      exact h.ne k q
    · have : k = p.length := by omega
      subst this
      rw [row_new]
      exact ne
  · rcases Nat.lt_trichotomy k p.length with q | q | q
    · rw [row_app q]
      exact h.ris k
    · subst q
      rw [row_new]
      exact hr
    · rw [row_far q]
      exact List.Pairwise.nil
  · rcases Nat.lt_trichotomy (k + 1) p.length with q | q | q
    · rw [row_app (by omega)]
      rw [row_app q] at hx
      exact h.step k x hx
    · rw [q, row_new] at hx
      rw [row_app (by omega)]
      have := hs x hx
      rw [← q] at this
      exact this
    · rw [row_far q] at hx
      cases hx
theorem plan_one : PlanOK [[0]] where
  len := by decide
  pos := by decide
  first := rfl
  ne := fun k hk => by
    cases k with
    | zero => intro z; cases z
    | succ k => simp at hk
  ris := fun k => by
    cases k with
    | zero => exact List.pairwise_singleton _ _
    | succ k => rw [row_out (by simp)]; exact List.Pairwise.nil
  step := fun k x hx => by
    rw [row_out (by simp)] at hx
    cases hx
/-- what is come to behind the last row, or nothing any more -/
structure PInv (rows : Pl) (come : List Int) : Prop where
  ok : PlanOK rows
  at_ : come = [] ∨ come = nxt (row rows (rows.length - 1))
theorem ris_nodup {l : List Int} (h : l.Pairwise (· < ·)) : l.Nodup := h.imp fun {a b} q => by omega
theorem ris_len {l : List Int} {L : Nat} (h : l.Pairwise (· < ·)) (b : ∀ x ∈ l, 0 ≤ x ∧ x < L) : l.length ≤ L := by
  have n1 : (l.map Int.toNat).Nodup := by
    refine List.pairwise_map.mpr (List.pairwise_iff_forall_sublist.mpr fun {x y} hs => ?_)
    have hx := b x (hs.subset (List.mem_cons_self (a := x)))
    have hy := b y (hs.subset (List.mem_cons_of_mem x (List.mem_singleton.mpr rfl) : y ∈ [x, y]))
    have lt := (List.pairwise_iff_forall_sublist.mp h) hs
    omega
  have n2 := n1.length_le_of_subset (l₂ := List.range L) fun z hz => by
    obtain ⟨x, hx, rfl⟩ := List.mem_map.mp hz
    have := b x hx
    exact List.mem_range.mpr (by omega)
  rw [List.length_map, List.length_range] at n2
  exact n2
theorem PlanOK.next_in {p : Pl} (h : PlanOK p) {k : Nat} {x : Int} (hx : x ∈ nxt (row p k)) : 0 ≤ x ∧ x ≤ k + 1 := by
  rcases nxt_mem.mp hx with q | q
  · have := h.in_ q
    omega
  · have := h.in_ q
    omega
theorem PlanOK.row_len {p : Pl} (h : PlanOK p) (k : Nat) : (row p k).length ≤ k + 1 := ris_len (h.ris k) fun x hx => by have := h.in_ hx; omega
theorem PlanOK.next_len {p : Pl} (h : PlanOK p) (k : Nat) : (nxt (row p k)).length ≤ k + 2 := ris_len (nxt_ris _) fun x hx => by have := h.next_in hx; omega
theorem PInv.len {rows : Pl} {come : List Int} (h : PInv rows come) : come.length ≤ 25 := by
  rcases h.at_ with rfl | rfl
  · simp
  · have := h.ok.next_len (rows.length - 1)
    have := h.ok.len
    have := h.ok.pos
    omega
theorem PInv.go {rows : Pl} {come : List Int} (h : PInv rows come) {r : List Int} (hs : r.Sublist come) (hl : r ≠ [] → rows.length < 24) : PInv (if r = [] then rows else rows ++ [r]) (nxt r) := by
  by_cases e : r = []
  · rw [if_pos e, e]
    exact ⟨h.ok, .inl rfl⟩
  · rw [if_neg e]
    rcases h.at_ with rfl | rfl
    · exact absurd (List.sublist_nil.mp hs) e
    · refine ⟨h.ok.snoc (hl e) e ((nxt_ris _).sublist hs) fun x hx => hs.subset hx, .inr ?_⟩
      rw [List.length_append]
      simp only [List.length_singleton, Nat.add_sub_cancel]
      rw [row_new]
theorem pinv_one : PInv [[0]] [0, 1] := ⟨plan_one, .inr rfl⟩
theorem planGo_ok {dg : List Int} {many c m : Int} (hm : m ≤ 24) : ∀ (n : Nat) {rows : Pl} {come : List Int} {at_ : Int}, PInv rows come → (rows.length : Int) ≤ m → PlanOK (planGo dg many c m n rows come at_) ∧ ((planGo dg many c m n rows come at_).length : Int) ≤ m
  | 0, rows, come, at_, h, hl => ⟨h.ok, hl⟩
  | n + 1, rows, come, at_, h, hl => by
    cases q : (decide ((rows.length : Int) < m) && decide (0 < (come.length : Int))) with
    | false => rw [planGo_stop q]; exact ⟨h.ok, hl⟩
    | true =>
      rw [planGo_go q]
      have hlt : (rows.length : Int) < m := by simp at q; exact q.1
      refine planGo_ok hm n (h.go (rowOf_sub _ _ _ _ _) fun _ => by omega) ?_
      split
      · exact hl
      · rw [List.length_append]
        simp only [List.length_singleton]
        omega
theorem two_len {r come : List Int} {g : Int → Int} (h : r.Sublist come) (hl : come.length ≤ 25) : (r ++ r.map g).length ≤ 63 := by
  have := h.length_le
  rw [List.length_append, List.length_map]
  omega
theorem cat_len {r come : List Int} {g : Int → Int} (h : r.Sublist come) (hl : come.length ≤ 25) : r.length + (r.map g).length ≤ sizeLine := by
  have := h.length_le
  rw [List.length_map]
  exact small_len (by omega)
/-- one turn of the drawing of a plan -/
theorem plan_turn {dg : List Int} {many c m : Int} {n : Nat} {rows rows' : Pl} {R : List Int} {a : Int} {L : Pl} (hgo : planGo dg many c m n (if R = [] then rows else rows ++ [R]) (nxt R) a = L) (hin : PInv (if R = [] then rows else rows ++ [R]) (nxt R))
    (hl : (rows.length : Int) < m) (hm : m ≤ rows.length + (n + 1)) (h : (R ≠ [] ∧ rows' = rows ++ [R]) ∨ (R = [] ∧ rows' = rows)) :
    planGo dg many c m n rows' (nxt R) a = L ∧ (nxt R = [] ∨ m ≤ rows'.length + n) ∧ PInv rows' (nxt R) ∧ (rows'.length : Int) ≤ m := by
  rcases h with ⟨h, rfl⟩ | ⟨h, rfl⟩
  · rw [if_neg h] at hgo hin
    refine ⟨hgo, .inr ?_, hin, ?_⟩ <;> rw [List.length_append] <;> simp only [List.length_singleton] <;> omega
  · rw [if_pos h] at hgo hin
    exact ⟨hgo, .inl (by rw [h]; rfl), hin, by omega⟩
theorem ne_of_len {α : Type} {l : List α} (h : 0 < (l.length : Int)) : l ≠ [] := by
  rintro rfl
  simp at h
theorem nil_of_len {α : Type} {l : List α} (h : ¬ 0 < (l.length : Int)) : l = [] := List.eq_nil_of_length_eq_zero (by omega)
theorem on_eq (p : Pl) (b g : Int) : (decide (0 ≤ b) && (decide (0 ≤ g) && (decide (b + g < (p.length : Int)) && decide (b ∈ List.getD p (b + g).toNat [])))) = goesOn p (b, g) := by
  unfold goesOn row
  dsimp only
  by_cases h1 : 0 ≤ b <;> by_cases h2 : 0 ≤ g <;> simp [h1, h2]
def manyOf (m : Int) : Int := 100 + 200 * (if decide (12 < m) then 1 else 0)
def digitsOf (c m : Int) : List Int := if decide (1000000000000000000 ≤ (if c < 0 then -c else c)) then digs (c / 4) 3 (manyOf m).toNat else mixes (c / 4) 3 (manyOf m).toNat
def lawPlan (c m : Int) : Pl := planGo (digitsOf c m) (manyOf m) c m (m.toNat + 1) [[0]] [0, 1] 0
theorem manyOf_in (m : Int) : 100 ≤ manyOf m ∧ manyOf m ≤ 300 := by
  unfold manyOf
  split <;> omega
theorem digitsOf_ok (c m : Int) : (digitsOf c m).length = (manyOf m).toNat ∧ ∀ x ∈ digitsOf c m, 0 ≤ x ∧ x < 3 := by
  unfold digitsOf
  generalize decide (1000000000000000000 ≤ (if c < 0 then -c else c)) = v
  cases v
  · exact ⟨mixes_len _ _ _, mixes_in (by decide)⟩
  · exact ⟨digs_len _ _ _, digs_in (by decide)⟩
theorem lawPlan_ok (c : Int) {m : Int} (h1 : 1 ≤ m) (h2 : m ≤ 24) : PlanOK (lawPlan c m) ∧ ((lawPlan c m).length : Int) ≤ m := planGo_ok h2 _ pinv_one (by simpa using h1)
end PD
namespace PD
open PySem PySem.Spec PyProof.Rows L2
variable [TN]
/-! ### counts come to, ends -/
def lineQ (k : Int) (l : List Int) : List Q := l.map fun b => (b, k - b)
def comeN (p : Pl) (i : Nat) : List Q := [(0, 0)] ++ ((List.range i).map fun (k : Nat) => lineQ ((k : Int) + 1) (nxt (row p k))).flatten
def comeTo (p : Pl) : List Q := comeN p p.length
def endsQ (p : Pl) : List Q := (comeTo p).filter fun c => !goesOn p c
theorem comeN_succ (p : Pl) (i : Nat) : comeN p (i + 1) = comeN p i ++ lineQ ((i : Int) + 1) (nxt (row p i)) := by
  unfold comeN
  rw [List.range_succ, List.map_append, List.flatten_append, List.append_assoc]
  simp
theorem comeN_mem {p : Pl} {i : Nat} {c : Q} : c ∈ comeN p i ↔ c = (0, 0) ∨ ∃ k, k < i ∧ c.1 ∈ nxt (row p k) ∧ c.1 + c.2 = k + 1 := by
  unfold comeN lineQ
  rw [List.mem_append, List.mem_singleton, List.mem_flatten]
  constructor
  · rintro (h | ⟨l, hl, hc⟩)
    · exact .inl h
    · obtain ⟨k, hk, rfl⟩ := List.mem_map.mp hl
      obtain ⟨b, hb, rfl⟩ := List.mem_map.mp hc
      exact .inr ⟨k, List.mem_range.mp hk, hb, by dsimp only; omega⟩
  · rintro (h | ⟨k, hk, h1, h2⟩)
    · exact .inl h
    · exact .inr ⟨_, List.mem_map.mpr ⟨k, List.mem_range.mpr hk, rfl⟩, List.mem_map.mpr ⟨c.1, h1, Prod.ext rfl (by dsimp only; omega)⟩⟩
theorem come_nn {p : Pl} (h : PlanOK p) {c : Q} (hc : c ∈ comeTo p) : nn c ∧ lv c ≤ p.length := by
  rcases comeN_mem.mp hc with rfl | ⟨k, hk, h1, h2⟩
  · exact ⟨⟨by decide, by decide⟩, by unfold lv; dsimp only; omega⟩
  · have := h.next_in h1
    unfold nn lv
    omega
theorem lineQ_len (k : Int) (l : List Int) : (lineQ k l).length = l.length := by unfold lineQ; rw [List.length_map]
theorem comeN_len {p : Pl} (h : PlanOK p) : ∀ i : Nat, (comeN p i).length ≤ 1 + 30 * i
  | 0 => by unfold comeN; simp
  | i + 1 => by
    rw [comeN_succ, List.length_append, lineQ_len]
    have := comeN_len h i
    have h2 : (nxt (row p i)).length ≤ 26 := by
      rcases Nat.lt_or_ge i p.length with q | q
      · have := h.next_len i
        have := h.len
        omega
      · rw [row_out q]
        decide
    omega
theorem goesOn_row {p : Pl} (h : PlanOK p) {b : Int} {k : Nat} (hb : 0 ≤ b) (hk : b ≤ k) : goesOn p (b, (k : Int) - b) = decide (b ∈ row p k) := by
  rw [Bool.eq_iff_iff, goesOn_iff, decide_eq_true_eq]
  have e : (b + ((k : Int) - b)).toNat = k := by omega
  dsimp only
  rw [e]
  exact ⟨fun q => q.2, fun q => ⟨⟨hb, by dsimp only; omega⟩, q⟩⟩
/-- the law's ends: line by line -/
def lendN (p : Pl) (i : Nat) : List Q := ((List.range i).map fun (k : Nat) => lineQ ((k : Int) + 1) ((nxt (row p k)).filter fun b => !decide (b ∈ row p (k + 1)))).flatten
theorem lendN_succ (p : Pl) (i : Nat) : lendN p (i + 1) = lendN p i ++ lineQ ((i : Int) + 1) ((nxt (row p i)).filter fun b => !decide (b ∈ row p (i + 1))) := by
  unfold lendN
  rw [List.range_succ, List.map_append, List.flatten_append]
  simp
theorem first_on {p : Pl} (h : PlanOK p) : goesOn p (0, 0) = true := by
  rw [goesOn_iff]
  refine ⟨⟨by decide, by decide⟩, ?_⟩
  show (0 : Int) ∈ row p 0
  rw [h.first]
  exact List.mem_singleton.mpr rfl
theorem lends_eq {p : Pl} (h : PlanOK p) : lendN p p.length = endsQ p := by
  have key : ∀ i : Nat, lendN p i = (comeN p i).filter fun c => !goesOn p c := by
    intro i
    induction i with
    | zero =>
      unfold lendN comeN
      simp [first_on h]
    | succ i ih =>
      rw [lendN_succ, comeN_succ, List.filter_append, ih]
      congr 1
      unfold lineQ
      rw [List.filter_map]
      congr 1
      refine List.filter_congr fun b hb => ?_
      have := h.next_in hb
      have e := goesOn_row h (b := b) (k := i + 1) (by omega) (by omega)
      rw [Int.natCast_add] at e
      show _ = !goesOn p (b, (i : Int) + 1 - b)
      exact congrArg _ e.symm
  exact key _
theorem lend_len {p : Pl} (h : PlanOK p) (i : Nat) : (lendN p i).length ≤ 1 + 30 * i := by
  have key : ∀ i : Nat, (lendN p i).length ≤ (comeN p i).length := by
    intro i
    induction i with
    | zero => unfold lendN comeN; simp
    | succ i ih =>
      rw [lendN_succ, comeN_succ, List.length_append, List.length_append, lineQ_len, lineQ_len]
      have := List.length_filter_le (fun b => !decide (b ∈ row p (i + 1))) (nxt (row p i))
      omega
  exact Nat.le_trans (key i) (comeN_len h i)
theorem end_nn {p : Pl} (h : PlanOK p) {c : Q} (hc : c ∈ endsQ p) : nn c ∧ lv c ≤ p.length := come_nn h (List.mem_filter.mp hc).1
/-! ### the law's ways, row by row -/
def dadd (kvs : List (Q × Int)) (f : Q) (w : Int) : List (Q × Int) := dput kvs f ((dget kvs f).getD 0 + w)
def wayStep (kvs : List (Q × Int)) (c : Q) : List (Q × Int) := dadd (dadd kvs (kidB c) ((dget kvs c).getD 0)) (kidG c) ((dget kvs c).getD 0)
def countsR (p : Pl) (k : Nat) : List Q := lineQ (k : Int) (row p k)
def countsN (p : Pl) (i : Nat) : List Q := ((List.range i).map fun (k : Nat) => countsR p k).flatten
theorem countsN_succ (p : Pl) (i : Nat) : countsN p (i + 1) = countsN p i ++ countsR p i := by
  unfold countsN
  rw [List.range_succ, List.map_append, List.flatten_append]
  simp
theorem countsN_mem {p : Pl} (h : PlanOK p) {i : Nat} {c : Q} : c ∈ countsN p i ↔ goesOn p c = true ∧ lv c < i := by
  unfold countsN countsR lineQ
  rw [List.mem_flatten]
  constructor
  · rintro ⟨l, hl, hc⟩
    obtain ⟨k, hk, rfl⟩ := List.mem_map.mp hl
    obtain ⟨b, hb, rfl⟩ := List.mem_map.mp hc
    have := h.in_ hb
    have hk' := List.mem_range.mp hk
    rw [goesOn_row h (by omega) (by omega)]
    exact ⟨decide_eq_true hb, by unfold lv; dsimp only; omega⟩
  · rintro ⟨g, hl⟩
    have n := (goesOn_nn g).1
    have q := (goesOn_iff.mp g).2
    unfold nn at n
    unfold lv at hl
    exact ⟨_, List.mem_map.mpr ⟨(c.1 + c.2).toNat, List.mem_range.mpr (by omega), rfl⟩, List.mem_map.mpr ⟨c.1, q, Prod.ext rfl (by dsimp only; omega)⟩⟩
/-- a count at which a plan draws on is the first one, or a count ahead of it is one -/
theorem on_par {p : Pl} (h : PlanOK p) {c : Q} (g : goesOn p c = true) : c = (0, 0) ∨ goesOn p (parB c) = true ∨ goesOn p (parG c) = true := by
  obtain ⟨n, q⟩ := goesOn_iff.mp g
  unfold nn at n
  rcases Int.lt_or_le 0 (c.1 + c.2) with l | l
  · have e : (c.1 + c.2).toNat = (c.1 + c.2 - 1).toNat + 1 := by omega
    rw [e] at q
    rcases nxt_mem.mp (h.step _ _ q) with z | z
    · refine .inr (.inr (goesOn_iff.mpr ⟨?_, ?_⟩))
      · have := h.in_ z
        unfold parG nn
        dsimp only
        omega
      · unfold parG
        dsimp only
        have e2 : (c.1 + (c.2 - 1)).toNat = (c.1 + c.2 - 1).toNat := by omega
        rw [e2]
        exact z
    · refine .inr (.inl (goesOn_iff.mpr ⟨?_, ?_⟩))
      · have := h.in_ z
        unfold parB nn
        dsimp only
        omega
      · unfold parB
        dsimp only
        have e2 : (c.1 - 1 + c.2).toNat = (c.1 + c.2 - 1).toNat := by omega
        rw [e2]
        exact z
  · exact .inl (Prod.ext (by show c.1 = 0; omega) (by show c.2 = 0; omega))
theorem way_ge {p : Pl} {c : Q} (n : nn c) (h : c = (0, 0) ∨ (goesOn p (parB c) = true ∧ 0 < way p (0, 0) (parB c)) ∨ (goesOn p (parG c) = true ∧ 0 < way p (0, 0) (parG c))) : 0 < way p (0, 0) c := by
  have s := way_step (p := p) (b := (0, 0)) n
  have w1 : 0 ≤ way p (0, 0) (parB c) := way_nn p (0, 0) (lv (parB c)).toNat (parB c)
  have w2 : 0 ≤ way p (0, 0) (parG c) := way_nn p (0, 0) (lv (parG c)).toNat (parG c)
  rcases h with e | ⟨g, w⟩ | ⟨g, w⟩
  · rw [if_pos e] at s
    rw [s]
    split <;> split <;> omega
  · rw [if_pos g] at s
    rw [s]
    split <;> split <;> omega
  · rw [if_pos g] at s
    rw [s]
    split <;> split <;> omega
theorem way_on {p : Pl} (h : PlanOK p) : ∀ (n : Nat) (c : Q), (lv c).toNat = n → goesOn p c = true → 0 < way p (0, 0) c
  | n, c, hn, g => by
    have nc := (goesOn_nn g).1
    refine way_ge nc ?_
    rcases on_par h g with e | q | q
    · exact .inl e
    · have nq := (goesOn_nn q).1
      have l1 := lv_parB (c := c)
      have h2 : 0 ≤ lv (parB c) := by unfold lv; unfold nn at nq; omega
      exact .inr (.inl ⟨q, way_on h (n - 1) _ (by omega) q⟩)
    · have nq := (goesOn_nn q).1
      have l1 := lv_parG (c := c)
      have h2 : 0 ≤ lv (parG c) := by unfold lv; unfold nn at nq; omega
      exact .inr (.inr ⟨q, way_on h (n - 1) _ (by omega) q⟩)
  termination_by n => n
  decreasing_by all_goals omega
theorem come_way {p : Pl} (h : PlanOK p) {c : Q} (hc : c ∈ comeTo p) : way p (0, 0) c ≠ 0 := by
  have n := (come_nn h hc).1
  have : 0 < way p (0, 0) c := by
    refine way_ge n ?_
    rcases comeN_mem.mp hc with e | ⟨k, hk, h1, h2⟩
    · exact .inl e
    · unfold nn at n
      rcases nxt_mem.mp h1 with z | z
      · have hin := h.in_ z
        have g : goesOn p (parG c) = true := by
          have e : parG c = (c.1, (k : Int) - c.1) := Prod.ext rfl (by unfold parG; dsimp only; omega)
          rw [e, goesOn_row h (by omega) (by omega)]
          exact decide_eq_true z
        exact .inr (.inr ⟨g, way_on h _ _ rfl g⟩)
      · have hin := h.in_ z
        have g : goesOn p (parB c) = true := by
          have e : parB c = (c.1 - 1, (k : Int) - (c.1 - 1)) := Prod.ext rfl (by unfold parB; dsimp only; omega)
          rw [e, goesOn_row h (by omega) (by omega)]
          exact decide_eq_true z
        exact .inr (.inl ⟨g, way_on h _ _ rfl g⟩)
  omega
structure DInv (p : Pl) (Dn : List Q) (kvs : List (Q × Int)) : Prop where
  key : ∀ c, (dget kvs c).isSome = true ↔ c = (0, 0) ∨ parB c ∈ Dn ∨ parG c ∈ Dn
  val : ∀ c v, dget kvs c = some v → v = (if c = (0, 0) then 1 else 0) + (if parB c ∈ Dn then way p (0, 0) (parB c) else 0) + (if parG c ∈ Dn then way p (0, 0) (parG c) else 0)
  len : kvs.length ≤ 1 + 2 * Dn.length
theorem dinv_start {p : Pl} : DInv p [] [((0, 0), 1)] where
  key := fun c => by
    rw [dget_cons, dget_nil]
    by_cases e : ((0, 0) : Q) = c
    · simp [e]
    · simp [e, Ne.symm e]
  val := fun c v h => by
    rw [dget_cons, dget_nil] at h
    by_cases e : ((0, 0) : Q) = c
    · rw [if_pos e] at h
      cases h
      rw [if_pos e.symm, if_neg (fun z => nomatch z), if_neg (fun z => nomatch z)]
      rfl
    · rw [if_neg e] at h
      cases h
  len := by simp
theorem dadd_get (kvs : List (Q × Int)) (f j : Q) (w : Int) : dget (dadd kvs f w) j = if j = f then some ((dget kvs f).getD 0 + w) else dget kvs j := dget_put _ _ _ _
theorem DInv.here {p : Pl} (h : PlanOK p) {Dn : List Q} {kvs : List (Q × Int)} (I : DInv p Dn kvs) {c : Q} (g : goesOn p c = true) (all : ∀ q, q ∈ Dn ↔ goesOn p q = true ∧ (lv q < lv c ∨ (lv q = lv c ∧ q ∈ Dn))) : dget kvs c = some (way p (0, 0) c) := by
  have n := (goesOn_nn g).1
  have mB : parB c ∈ Dn ↔ goesOn p (parB c) = true := by
    rw [all]
    exact ⟨fun z => z.1, fun z => ⟨z, .inl (by rw [lv_parB]; omega)⟩⟩
  have mG : parG c ∈ Dn ↔ goesOn p (parG c) = true := by
    rw [all]
    exact ⟨fun z => z.1, fun z => ⟨z, .inl (by rw [lv_parG]; omega)⟩⟩
  have hs : (dget kvs c).isSome = true := by
    rw [I.key, mB, mG]
    exact on_par h g
  obtain ⟨v, hv⟩ := Option.isSome_iff_exists.mp hs
  rw [hv, I.val c v hv, way_step n]
  simp only [mB, mG]
theorem dinv_step {p : Pl} {Dn : List Q} {kvs : List (Q × Int)} (I : DInv p Dn kvs) {c : Q} (hc : dget kvs c = some (way p (0, 0) c)) (nc : c ∉ Dn) (n0 : nn c) : DInv p (Dn ++ [c]) (wayStep kvs c) := by
  have hw : (dget kvs c).getD 0 = way p (0, 0) c := by rw [hc]; rfl
  have gA : ∀ j, dget (wayStep kvs c) j = if j = kidG c then some ((dget kvs (kidG c)).getD 0 + way p (0, 0) c) else if j = kidB c then some ((dget kvs (kidB c)).getD 0 + way p (0, 0) c) else dget kvs j := fun j => by
    unfold wayStep
    rw [hw, dadd_get, dadd_get, dadd_get, if_neg (Ne.symm (kids_ne c))]
  have inC : c ∈ Dn ++ [c] := List.mem_append_right _ (List.mem_singleton.mpr rfl)
  have inD : ∀ q : Q, q ≠ c → (q ∈ Dn ++ [c] ↔ q ∈ Dn) := fun q hq => by
    rw [List.mem_append, List.mem_singleton]
    exact ⟨fun z => z.resolve_right hq, .inl⟩
  have kb0 : kidB c ≠ (0, 0) := fun z => by
    have := congrArg Prod.fst z
    unfold kidB at this
    unfold nn at n0
    dsimp only at this
    omega
  have kg0 : kidG c ≠ (0, 0) := fun z => by
    have := congrArg Prod.snd z
    unfold kidG at this
    unfold nn at n0
    dsimp only at this
    omega
  have old : ∀ k : Q, k ≠ (0, 0) → (dget kvs k).getD 0 = (if parB k ∈ Dn then way p (0, 0) (parB k) else 0) + (if parG k ∈ Dn then way p (0, 0) (parG k) else 0) := fun k hk => by
    cases q : dget kvs k with
    | some v =>
      have := I.val k v q
      rw [if_neg hk] at this
      rw [this]
      show 0 + _ + _ = _
      omega
    | none =>
      have nk : ¬ (dget kvs k).isSome = true := by rw [q]; exact Bool.false_ne_true
      rw [I.key] at nk
      rw [if_neg (fun z => nk (.inr (.inl z))), if_neg (fun z => nk (.inr (.inr z)))]
      rfl
  refine ⟨fun j => ?_, fun j v h => ?_, ?_⟩
  · rw [gA]
    by_cases z1 : j = kidG c
    · rw [if_pos z1, z1, parG_kid]
      exact ⟨fun _ => .inr (.inr inC), fun _ => rfl⟩
    · rw [if_neg z1]
      have n1 : parG j ≠ c := fun z => z1 (parG_inj z)
      by_cases z2 : j = kidB c
      · rw [if_pos z2, z2, parB_kid]
        exact ⟨fun _ => .inr (.inl inC), fun _ => rfl⟩
      · rw [if_neg z2]
        have n2 : parB j ≠ c := fun z => z2 (par_inj z)
        rw [I.key, inD _ n1, inD _ n2]
  · rw [gA] at h
    by_cases z1 : j = kidG c
    · subst z1
      rw [if_pos rfl] at h
      cases h
      have n1 : parB (kidG c) ≠ c := fun z => kids_ne c (par_inj z).symm
      rw [old _ kg0, if_neg kg0]
      simp only [inD _ n1, parG_kid, inC, if_true]
      rw [if_neg nc]
      omega
    · rw [if_neg z1] at h
      have n1 : parG j ≠ c := fun z => z1 (parG_inj z)
      by_cases z2 : j = kidB c
      · subst z2
        rw [if_pos rfl] at h
        cases h
        rw [old _ kb0, if_neg kb0]
        simp only [inD _ n1, parB_kid, inC, if_true]
        rw [if_neg nc]
        omega
      · rw [if_neg z2] at h
        have n2 : parB j ≠ c := fun z => z2 (par_inj z)
        simp only [inD _ n1, inD _ n2]
        exact I.val j v h
  · unfold wayStep dadd
    refine Nat.le_trans (dput_len _ _ _) ?_
    have := dput_len kvs (kidB c) ((dget kvs (kidB c)).getD 0 + (dget kvs c).getD 0)
    have := I.len
    rw [List.length_append]
    simp only [List.length_singleton]
    omega
def lawWaysN (p : Pl) (i : Nat) : List (Q × Int) := (countsN p i).foldl wayStep [((0, 0), 1)]
def lawWays (p : Pl) : List (Q × Int) := lawWaysN p p.length
theorem row_facts {p : Pl} (h : PlanOK p) {i t : Nat} {c : Q} (e : (countsR p i)[t]? = some c) : goesOn p c = true ∧ lv c = i ∧ c ∉ countsN p i ++ (countsR p i).take t ∧ ∀ q, q ∈ countsN p i ++ (countsR p i).take t ↔ goesOn p q = true ∧ (lv q < lv c ∨ (lv q = lv c ∧ q ∈ countsN p i ++ (countsR p i).take t)) := by
  have hm := List.mem_of_getElem? e
  obtain ⟨b, hb, eb⟩ := List.mem_map.mp hm
  have hin := h.in_ hb
  have g : goesOn p c = true := by rw [← eb, goesOn_row h (by omega) (by omega)]; exact decide_eq_true hb
  have lvt : lv c = i := by rw [← eb]; unfold lv; dsimp only; omega
  have l : t < (countsR p i).length := (List.getElem?_eq_some_iff.mp e).1
  refine ⟨g, lvt, fun q => ?_, fun q => ?_⟩
  · rcases List.mem_append.mp q with q | q
    · have := ((countsN_mem h).mp q).2
      omega
    · have nd : (countsR p i).Nodup := by
        unfold countsR lineQ
        refine List.pairwise_map.mpr ((ris_nodup (h.ris i)).imp fun {x y} hxy z => hxy (congrArg Prod.fst z))
      obtain ⟨j, hj⟩ := List.mem_iff_getElem?.mp q
      rw [List.getElem?_take] at hj
      split at hj
      · rename_i hjt
        have e2 : (countsR p i)[j]? = (countsR p i)[t]? := by rw [hj, e]
        have := (List.getElem?_inj (by omega) nd).mp e2
        omega
      · cases hj
  · rw [lvt]
    constructor
    · intro hq
      rcases List.mem_append.mp hq with z | z
      · obtain ⟨z1, z2⟩ := (countsN_mem h).mp z
        exact ⟨z1, .inl z2⟩
      · obtain ⟨b2, hb2, eb2⟩ := List.mem_map.mp (List.mem_of_mem_take z)
        have := h.in_ hb2
        exact ⟨by rw [← eb2, goesOn_row h (by omega) (by omega)]; exact decide_eq_true hb2, .inr ⟨by rw [← eb2]; unfold lv; dsimp only; omega, hq⟩⟩
    · rintro ⟨z1, z2 | z2⟩
      · exact List.mem_append_left _ ((countsN_mem h).mpr ⟨z1, z2⟩)
      · exact z2.2
/-- within a row: some of it gone through -/
theorem dinv_row {p : Pl} (h : PlanOK p) {i : Nat} : ∀ (t : Nat) (kvs : List (Q × Int)), DInv p (countsN p i) kvs → DInv p (countsN p i ++ (countsR p i).take t) (((countsR p i).take t).foldl wayStep kvs)
  | 0, kvs, I => by
    rw [List.take_zero, List.append_nil]
    exact I
  | t + 1, kvs, I => by
    have ih := dinv_row h t kvs I
    rcases Nat.lt_or_ge t (countsR p i).length with l | l
    · have e : (countsR p i)[t]? = some (countsR p i)[t] := List.getElem?_eq_getElem l
      obtain ⟨g, lvt, nc, all⟩ := row_facts h e
      rw [take_succ' e, List.foldl_append, ← List.append_assoc]
      exact dinv_step ih (ih.here h g all) nc (goesOn_nn g).1
    · rw [List.take_of_length_le (by omega)]
      rw [List.take_of_length_le l] at ih
      exact ih
theorem dinv_rows {p : Pl} (h : PlanOK p) : ∀ i : Nat, DInv p (countsN p i) (lawWaysN p i)
  | 0 => dinv_start
  | i + 1 => by
    have := dinv_row h (i := i) (countsR p i).length _ (dinv_rows h i)
    rw [List.take_length] at this
    unfold lawWaysN
    rw [countsN_succ, List.foldl_append]
    exact this
theorem lawWays_get {p : Pl} (h : PlanOK p) {c : Q} (n : nn c) : ((dget (lawWays p) c).isSome = true ↔ way p (0, 0) c ≠ 0) ∧ ∀ v, dget (lawWays p) c = some v → v = way p (0, 0) c := by
  have I := dinv_rows h p.length
  have mm : ∀ q, q ∈ countsN p p.length ↔ goesOn p q = true := fun q => by
    rw [countsN_mem h]
    exact ⟨fun z => z.1, fun z => ⟨z, (goesOn_nn z).2⟩⟩
  constructor
  · unfold lawWays
    rw [I.key c, mm, mm]
    constructor
    · intro z
      have : 0 < way p (0, 0) c := way_ge n (by
        rcases z with z | z | z
        · exact .inl z
        · exact .inr (.inl ⟨z, way_on h _ _ rfl z⟩)
        · exact .inr (.inr ⟨z, way_on h _ _ rfl z⟩))
      omega
    · intro w
      rcases way_cases n w with e | ⟨g, _⟩ | ⟨g, _⟩
      · exact .inl e
      · exact .inr (.inl g)
      · exact .inr (.inr g)
  · intro v hv
    rw [I.val c v hv, way_step n]
    simp only [mm]
theorem lawWays_is {p : Pl} (h : PlanOK p) {c : Q} (n : nn c) (w : way p (0, 0) c ≠ 0) : dget (lawWays p) c = some (way p (0, 0) c) := by
  obtain ⟨h1, h2⟩ := lawWays_get h n
  obtain ⟨v, hv⟩ := Option.isSome_iff_exists.mp (h1.mpr w)
  rw [hv, h2 v hv]
theorem end_way {p : Pl} (h : PlanOK p) {c : Q} (hc : c ∈ endsQ p) : way p (0, 0) c ≠ 0 := come_way h (List.mem_filter.mp hc).1
theorem wyN_le (p : Pl) (b : Q) : ∀ (n : Nat) (c : Q), wyN p b n c + 1 ≤ 2 ^ (n + 1)
  | 0, c => by
    unfold wyN
    split <;> decide
  | n + 1, c => by
    unfold wyN
    have h1 := wyN_le p b n (parB c)
    have h2 := wyN_le p b n (parG c)
    have e : (2 : Int) ^ (n + 1 + 1) = 2 ^ (n + 1) * 2 := Int.pow_succ ..
    have h3 := way_nn p b n (parB c)
    have h4 := way_nn p b n (parG c)
    rw [e]
    (repeat' split) <;> omega
theorem way_bd {p : Pl} {b c : Q} (h : lv c ≤ 26) : Bd 28 (way p b c) := by
  have h1 := wyN_le p b (lv c).toNat c
  have h2 := way_nn p b (lv c).toNat c
  have h3 : (2 : Int) ^ ((lv c).toNat + 1) ≤ 2 ^ 27 := by
    have := Nat.pow_le_pow_right (n := 2) (by decide) (show (lv c).toNat + 1 ≤ 27 by omega)
    exact_mod_cast this
  unfold way
  exact .of (by omega) (by omega)
theorem countsN_len {p : Pl} (h : PlanOK p) : ∀ i : Nat, (countsN p i).length ≤ 30 * i
  | 0 => by unfold countsN; simp
  | i + 1 => by
    rw [countsN_succ, List.length_append]
    have := countsN_len h i
    have h2 : (countsR p i).length ≤ 30 := by
      unfold countsR
      rw [lineQ_len]
      rcases Nat.lt_or_ge i p.length with q | q
      · have := h.row_len i
        have := h.len
        omega
      · rw [row_out q]
        decide
    omega
/-- what stands in the law's dict when it comes to a count -/
theorem row_here {p : Pl} (h : PlanOK p) {i t : Nat} {c : Q} (hi : i < p.length) (e : (countsR p i)[t]? = some c) : dget (((countsR p i).take t).foldl wayStep (lawWaysN p i)) c = some (way p (0, 0) c) ∧ (((countsR p i).take t).foldl wayStep (lawWaysN p i)).length ≤ 2000 ∧ nn c := by
  have I := dinv_row h t _ (dinv_rows h i)
  obtain ⟨g, lvt, nc, all⟩ := row_facts h e
  refine ⟨I.here h g all, ?_, (goesOn_nn g).1⟩
  have h1 := I.len
  have h2 := countsN_len h i
  have h3 := h.len
  have h4 : ((countsR p i).take t).length ≤ 30 := by
    have h5 := h.row_len i
    unfold countsR
    rw [List.length_take, lineQ_len]
    omega
  rw [List.length_append] at h1
  omega
theorem row_at {p : Pl} {i : Nat} {r : List Int} (h : p[i]? = some r) : row p i = r ∧ i < p.length := by
  constructor
  · unfold row
    rw [List.getD_eq_getElem?_getD, h]
    rfl
  · rw [List.getElem?_eq_some_iff] at h
    exact h.1
theorem line_at {k : Int} {l : List Int} {t : Nat} {b : Int} (h : l[t]? = some b) : (lineQ k l)[t]? = some (b, k - b) := by
  unfold lineQ
  rw [List.getElem?_map, h]
  rfl
theorem lawWaysN_succ (p : Pl) (i : Nat) : lawWaysN p (i + 1) = (countsR p i).foldl wayStep (lawWaysN p i) := by
  unfold lawWaysN
  rw [countsN_succ, List.foldl_append]
/-- the two counts that follow, one by one -/
theorem fold_dadd {w : Int} : ∀ (l : List Q) (kvs : List (Q × Int)), (l.foldl (fun k f => dadd k f w) kvs).length ≤ kvs.length + l.length
  | [], kvs => Nat.le_refl _
  | f :: l, kvs => by
    have h1 := fold_dadd (w := w) l (dadd kvs f w)
    have h2 : (dadd kvs f w).length ≤ kvs.length + 1 := dput_len kvs f ((dget kvs f).getD 0 + w)
    simp only [List.foldl_cons, List.length_cons]
    omega
theorem wayStep_eq {kvs : List (Q × Int)} {c : Q} {w : Int} (h : dget kvs c = some w) : [kidB c, kidG c].foldl (fun k f => dadd k f w) kvs = wayStep kvs c := by
  unfold wayStep
  rw [h]
  rfl
end PD
namespace PD
open PySem PySem.Spec PyProof.Rows L2
variable [TN]
/-! ### lots -/
def fallN (n : Int) : Nat → Int
  | 0 => 1
  | k + 1 => fallN n k * (n - k)
theorem fallN_bd {n : Int} (h : Bd 30 n) : ∀ k : Nat, k < 2 ^ 29 → Bd (31 * k + 1) (fallN n k)
  | 0, _ => by unfold fallN Bd; decide
  | k + 1, hk => by
    have h1 := fallN_bd h k (by omega)
    have h2 : Bd 31 (n - k) := h.sub (.of (by omega) (by omega))
    exact (h1.mul h2).mono (by omega)
theorem fallN_pos {n : Int} : ∀ k : Nat, (k : Int) ≤ n → 0 < fallN n k
  | 0, _ => by unfold fallN; decide
  | k + 1, h => Int.mul_pos (fallN_pos k (by omega)) (by omega)
abbrev F_falling : FS := fun ds o => ∃ n k : Int, ds = [.int n, .int k] ∧ Bd 30 n ∧ 0 ≤ k ∧ k ≤ 100 ∧ o = .ok (.int (fallN n k.toNat))
/-- a plan, an end of it, a lot: as many pieces as the plan has draws, none, some or all of them bad -/
structure LotOK (p : Pl) (s b : Int) : Prop where
  ok : PlanOK p
  lo : (p.length : Int) ≤ s
  hi : s ≤ 200
  b0 : 0 ≤ b
  b1 : b ≤ s
def lotTop (p : Pl) (e : Q) (s b : Int) : Int := way p (0, 0) e * fallN b e.1.toNat * fallN (s - b) e.2.toNat
def lotBot (e : Q) (s : Int) : Int := fallN s (e.1 + e.2).toNat
theorem lot_bds {p : Pl} {e : Q} {s b : Int} (h : LotOK p s b) (he : e ∈ endsQ p) : nn e ∧ lv e ≤ 24 ∧ Bd 30 b ∧ Bd 30 (s - b) ∧ Bd 30 s ∧ Bd 28 (way p (0, 0) e) ∧ Bd 3101 (fallN b e.1.toNat) ∧ Bd 3101 (fallN (s - b) e.2.toNat) ∧ Bd 6300 (lotTop p e s b) ∧ Bd 3101 (lotBot e s) ∧ 0 < lotBot e s := by
  obtain ⟨n, l⟩ := end_nn h.ok he
  have h24 := h.ok.len
  have l24 : lv e ≤ 24 := by omega
  have q1 := h.lo
  have q2 := h.hi
  have q3 := h.b0
  have q4 := h.b1
  have n' := n
  unfold nn at n'
  unfold lv at l l24
  have b1 : Bd 30 b := .of (by omega) (by omega)
  have b2 : Bd 30 (s - b) := .of (by omega) (by omega)
  have b3 : Bd 30 s := .of (by omega) (by omega)
  have w := way_bd (p := p) (b := (0, 0)) (c := e) (by unfold lv; omega)
  have f1 := (fallN_bd b1 e.1.toNat (by omega)).mono (show _ ≤ 3101 by omega)
  have f2 := (fallN_bd b2 e.2.toNat (by omega)).mono (show _ ≤ 3101 by omega)
  have f3 := (fallN_bd b3 (e.1 + e.2).toNat (by omega)).mono (show _ ≤ 3101 by omega)
  exact ⟨n, l24, b1, b2, b3, w, f1, f2, ((w.mul f1).mul f2).mono (by decide), f3, fallN_pos _ (by omega)⟩
def lotQ (p : Pl) (e : Q) (s b : Int) : Q := mkF (lotTop p e s b) (lotBot e s)
end PD
namespace PD
open PySem PySem.Spec PyProof.Rows L2
variable [TN]
/-! ### without the noughts at the end -/
section
variable {α : Type} [DecidableEq α]
def trimZ (z : α) (s : List α) : List α := (s.reverse.dropWhile (· = z)).reverse
theorem trimZ_snoc (z : α) (s : List α) (p : α) : trimZ z (s ++ [p]) = if p = z then trimZ z s else s ++ [p] := by
  unfold trimZ
  rw [List.reverse_append, List.reverse_singleton, List.singleton_append, List.dropWhile_cons]
  by_cases h : p = z
  · simp [h]
  · simp [h]
theorem take_snoc' {s : List α} {m : Nat} (h : m < s.length) (d : α) : s.take (m + 1) = s.take m ++ [s.getD m d] := by
  rw [List.take_succ, List.getElem?_eq_getElem h, List.getD_eq_getElem?_getD, List.getElem?_eq_getElem h]
  rfl
theorem trimZ_step {z : α} {s : List α} {m : Nat} (h : m < s.length) (d : α) (e : s.getD m d = z) : trimZ z (s.take (m + 1)) = trimZ z (s.take m) := by
  rw [take_snoc' h d, trimZ_snoc, if_pos e]
theorem trimZ_done {z : α} {s : List α} {m : Nat} (hm : m ≤ s.length) (d : α) (e : 0 < m → s.getD (m - 1) d ≠ z) : trimZ z (s.take m) = s.take m := by
  cases m with
  | zero => rw [List.take_zero]; rfl
  | succ m =>
    have e' : s.getD m d ≠ z := e (by omega)
    rw [take_snoc' (by omega) d, trimZ_snoc, if_neg e']
theorem trimZ_pre (z : α) (s : List α) : trimZ z s <+: s := by
  unfold trimZ
  have h := List.dropWhile_suffix (l := s.reverse) (· = z)
  have := List.reverse_prefix.mpr h
  rw [List.reverse_reverse] at this
  exact this
theorem trimZ_take (z : α) (s : List α) : trimZ z s = s.take (trimZ z s).length := List.prefix_iff_eq_take.mp (trimZ_pre z s)
theorem trimZ_len (z : α) (s : List α) : (trimZ z s).length ≤ s.length := (trimZ_pre z s).length_le
theorem trimZ_nil (z : α) : trimZ z [] = [] := rfl
theorem trimZ_map {β : Type} [DecidableEq β] {f : α → β} {z : α} (hf : ∀ x, f x = f z ↔ x = z) (s : List α) : trimZ (f z) (s.map f) = (trimZ z s).map f := by
  unfold trimZ
  rw [← List.map_reverse, List.map_reverse (l := List.dropWhile _ _) (f := f)]
  congr 1
  induction s.reverse with
  | nil => rfl
  | cons x xs ih =>
    rw [List.map_cons, List.dropWhile_cons, List.dropWhile_cons]
    by_cases h : x = z
    · rw [if_pos (decide_eq_true ((hf x).mpr h)), if_pos (decide_eq_true h), ih]
    · rw [if_neg (by rw [decide_eq_true_eq]; exact fun q => h ((hf x).mp q)), if_neg (by rw [decide_eq_true_eq]; exact h), List.map_cons]
end
theorem trim_is (s : List Q) : trim s = trimZ (0, 1) s := rfl
abbrev nq (z : Int) : Q := (z, 1)
theorem trim_nq (s : List Int) : trim (s.map nq) = (trimZ 0 s).map nq := trimZ_map (f := nq) (z := 0) (fun x => ⟨fun h => congrArg Prod.fst h, fun h => by rw [h]⟩) s
theorem mkP_1 (t : Int) : mkP t 1 = (t, 1) := by
  unfold mkP
  have : Int.gcd t 1 = 1 := by simp
  rw [this]
  exact Prod.ext (by simp) (by simp)
theorem mkF_1 (t : Int) : mkF t 1 = (t, 1) := by rw [mkF_pos (by decide), mkP_1]
theorem qmul_nq (a b : Int) : qmul (a, 1) (b, 1) = (a * b, 1) := by
  unfold qmul
  show mkF (a * b) (1 * 1) = _
  rw [Int.mul_one, mkF_1]
theorem qadd_nq (a b : Int) : qadd (a, 1) (b, 1) = (a + b, 1) := by
  unfold qadd
  show mkF (a * 1 + b * 1) (1 * 1) = _
  rw [Int.mul_one, Int.mul_one, Int.mul_one, mkF_1]
theorem isFr_nq (a : Int) : isFr (a, 1) a 1 = true := by
  unfold isFr
  have : Int.gcd a 1 = 1 := by simp
  dsimp only
  rw [this]
  simp
/-! ### the odds of an end -/
def powI (b g : Nat) : List Int := List.replicate b 0 ++ rowC g
def ofCount (b g : Nat) : List Q := (List.replicate b [((0, 1) : Q)]).flatten ++ (rowC g).map fun z => (z, 1)
theorem ofCount_nq (b g : Nat) : ofCount b g = (powI b g).map nq := by
  unfold ofCount powI
  rw [List.map_append, List.map_replicate, List.flatten_replicate_singleton]
theorem rep_len (b : Nat) : ((List.replicate b [((0, 1) : Q)]).flatten).length = b := by simp
theorem powI_len (b g : Nat) : (powI b g).length = b + (g + 1) := by unfold powI; rw [List.length_append, List.length_replicate, rowC_len]
def oddsI (p : Pl) (e : Q) : List Int := (powI e.1.toNat e.2.toNat).map (way p (0, 0) e * ·)
def oddsQ (p : Pl) (e : Q) : List Q := (trimZ 0 (oddsI p e)).map nq
theorem oddsQ_eq (p : Pl) (e : Q) : trim (((powI e.1.toNat e.2.toNat).map nq).map fun q => qmul q (way p (0, 0) e, 1)) = oddsQ p e := by
  unfold oddsQ oddsI
  rw [← trim_nq, List.map_map, List.map_map]
  congr 1
  refine List.map_congr_left fun z _ => ?_
  show qmul (z, 1) (way p (0, 0) e, 1) = (way p (0, 0) e * z, 1)
  rw [qmul_nq, Int.mul_comm]
end PD
namespace PD
open PySem PySem.Spec PyProof.Rows L2
variable [TN]
/-! ### sums -/
section
variable {α β : Type}
def sumL : List α → (α → Rat) → Rat
  | [], _ => 0
  | x :: l, f => f x + sumL l f
theorem sumL_app (f : α → Rat) : ∀ l m : List α, sumL (l ++ m) f = sumL l f + sumL m f
  | [], m => by show sumL m f = 0 + sumL m f; grind
  | x :: l, m => by
    show f x + sumL (l ++ m) f = f x + sumL l f + sumL m f
    rw [sumL_app f l m]
    grind
theorem sumL_add (f g : α → Rat) : ∀ l : List α, sumL l (fun x => f x + g x) = sumL l f + sumL l g
  | [] => by show (0 : Rat) = 0 + 0; grind
  | x :: l => by
    show f x + g x + sumL l (fun x => f x + g x) = f x + sumL l f + (g x + sumL l g)
    rw [sumL_add f g l]
    grind
theorem sumL_mul (a : Rat) (f : α → Rat) : ∀ l : List α, sumL l (fun x => a * f x) = a * sumL l f
  | [] => by show (0 : Rat) = a * 0; grind
  | x :: l => by
    show a * f x + sumL l (fun x => a * f x) = a * (f x + sumL l f)
    rw [sumL_mul a f l]
    grind
theorem sumL_map (g : α → β) (f : β → Rat) : ∀ l : List α, sumL (l.map g) f = sumL l fun x => f (g x)
  | [] => rfl
  | x :: l => by
    show f (g x) + sumL (l.map g) f = f (g x) + sumL l fun x => f (g x)
    rw [sumL_map g f l]
theorem sumL_congr {f g : α → Rat} : ∀ {l : List α}, (∀ x ∈ l, f x = g x) → sumL l f = sumL l g
  | [], _ => rfl
  | x :: l, h => by
    show f x + sumL l f = g x + sumL l g
    rw [h x List.mem_cons_self, sumL_congr fun y hy => h y (List.mem_cons_of_mem _ hy)]
theorem sumL_zero {f : α → Rat} : ∀ {l : List α}, (∀ x ∈ l, f x = 0) → sumL l f = 0
  | [], _ => rfl
  | x :: l, h => by
    show f x + sumL l f = 0
    rw [h x List.mem_cons_self, sumL_zero fun y hy => h y (List.mem_cons_of_mem _ hy)]
    grind
theorem sumL_filter (P : α → Bool) (f : α → Rat) : ∀ l : List α, sumL l (fun x => if P x = true then f x else 0) = sumL (l.filter P) f
  | [] => rfl
  | x :: l => by
    show (if P x = true then f x else 0) + sumL l (fun x => if P x = true then f x else 0) = _
    rw [sumL_filter P f l, List.filter_cons]
    by_cases h : P x = true
    · rw [if_pos h, if_pos h]; rfl
    · rw [if_neg h, if_neg h]; grind
theorem sumL_parts (P : α → Bool) (f : α → Rat) : ∀ l : List α, sumL l f = sumL (l.filter P) f + sumL (l.filter fun x => !P x) f
  | [] => by show (0 : Rat) = 0 + 0; grind
  | x :: l => by
    rw [List.filter_cons, List.filter_cons]
    show f x + sumL l f = _
    rw [sumL_parts P f l]
    cases P x
    · show f x + _ = sumL (l.filter P) f + (f x + sumL (l.filter fun x => !P x) f)
      grind
    · show f x + _ = (f x + sumL (l.filter P) f) + sumL (l.filter fun x => !P x) f
      grind
end
/-! ### what flows from count to count -/
theorem filter_on {r t : List Int} (hr : r.Pairwise (· < ·)) (ht : t.Pairwise (· < ·)) (hs : ∀ x ∈ t, x ∈ r) : r.filter (fun x => decide (x ∈ t)) = t :=
  ris_unique (hr.sublist List.filter_sublist) ht fun x => by
    rw [List.mem_filter, decide_eq_true_eq]
    exact ⟨fun z => z.2, fun z => ⟨hs x z, z⟩⟩
theorem filter_next {r : List Int} (hr : r.Pairwise (· < ·)) : (nxt r).filter (fun x => decide (x - 1 ∈ r)) = r.map (· + 1) :=
  ris_unique ((nxt_ris r).sublist List.filter_sublist) (List.pairwise_map.mpr (hr.imp fun {a b} h => by omega)) fun x => by
    rw [List.mem_filter, decide_eq_true_eq, List.mem_map]
    constructor
    · exact fun z => ⟨x - 1, z.2, by omega⟩
    · rintro ⟨y, hy, rfl⟩
      rw [Int.add_sub_cancel]
      exact ⟨nxt_mem.mpr (.inr (by rw [Int.add_sub_cancel]; exact hy)), hy⟩
theorem on_B {p : Pl} (h : PlanOK p) {x : Int} {k : Nat} (h0 : 0 ≤ x) (h1 : x ≤ k + 1) : goesOn p (x - 1, (k : Int) + 1 - x) = decide (x - 1 ∈ row p k) := by
  rcases Int.lt_or_le 0 x with q | q
  · have e := goesOn_row h (b := x - 1) (k := k) (by omega) (by omega)
    rw [show (k : Int) + 1 - x = (k : Int) - (x - 1) by omega]
    exact e
  · have hx : x = 0 := by omega
    subst hx
    have e1 : goesOn p (0 - 1, (k : Int) + 1 - 0) = false := by
      rw [Bool.eq_false_iff]
      intro g
      have := (goesOn_nn g).1
      unfold nn at this
      omega
    rw [e1]
    exact (decide_eq_false fun z => by have := h.in_ z; omega).symm
theorem on_G {p : Pl} (h : PlanOK p) {x : Int} {k : Nat} (h0 : 0 ≤ x) (h1 : x ≤ k + 1) : goesOn p (x, (k : Int) + 1 - x - 1) = decide (x ∈ row p k) := by
  rcases Int.lt_or_le x (k + 1) with q | q
  · have e := goesOn_row h (b := x) (k := k) (by omega) (by omega)
    rw [show (k : Int) + 1 - x - 1 = (k : Int) - x by omega]
    exact e
  · have e1 : goesOn p (x, (k : Int) + 1 - x - 1) = false := by
      rw [Bool.eq_false_iff]
      intro g
      have := (goesOn_nn g).1
      unfold nn at this
      dsimp only at this
      omega
    rw [e1]
    exact (decide_eq_false fun z => by have := h.in_ z; omega).symm
/-- what comes to a line is what stood on the line ahead, and what begins on it -/
theorem flow_line {p : Pl} (h : PlanOK p) {b : Q} (r : Q → Rat) (hr : ∀ c, goesOn p c = true → r c = r (kidB c) + r (kidG c)) (k : Nat) :
    sumL (lineQ ((k : Int) + 1) (nxt (row p k))) (fun c => (way p b c : Rat) * r c) = sumL (lineQ ((k : Int) + 1) (nxt (row p k))) (fun c => if c = b then r c else 0) + sumL (countsR p k) (fun c => (way p b c : Rat) * r c) := by
  unfold countsR lineQ
  rw [sumL_map, sumL_map, sumL_map]
  have e1 : sumL (nxt (row p k)) (fun x => (way p b (x, (k : Int) + 1 - x) : Rat) * r (x, (k : Int) + 1 - x)) = sumL (nxt (row p k)) (fun x => ((if (x, (k : Int) + 1 - x) = b then r (x, (k : Int) + 1 - x) else 0) + (if decide (x - 1 ∈ row p k) = true then (way p b (x - 1, (k : Int) + 1 - x) : Rat) * r (x, (k : Int) + 1 - x) else 0)) + (if decide (x ∈ row p k) = true then (way p b (x, (k : Int) + 1 - x - 1) : Rat) * r (x, (k : Int) + 1 - x) else 0)) := by
    refine sumL_congr fun x hx => ?_
    have hin := h.next_in hx
    rw [way_step (c := (x, (k : Int) + 1 - x)) ⟨hin.1, by dsimp only; omega⟩]
    have eB : parB (x, (k : Int) + 1 - x) = (x - 1, (k : Int) + 1 - x) := rfl
    have eG : parG (x, (k : Int) + 1 - x) = (x, (k : Int) + 1 - x - 1) := rfl
    rw [eB, eG, on_B h hin.1 hin.2, on_G h hin.1 hin.2]
    push_cast
    (repeat' split) <;> push_cast <;> grind
  rw [e1, sumL_add, sumL_add, sumL_filter, sumL_filter, filter_next (h.ris k), filter_on (nxt_ris _) (h.ris k) (fun x hx => nxt_mem.mpr (.inl hx)), sumL_map]
  have e2 : sumL (row p k) (fun x => (way p b (x, (k : Int) - x) : Rat) * r (x, (k : Int) - x)) = sumL (row p k) (fun x => (way p b (x + 1 - 1, (k : Int) + 1 - (x + 1)) : Rat) * r (x + 1, (k : Int) + 1 - (x + 1)) + (way p b (x, (k : Int) + 1 - x - 1) : Rat) * r (x, (k : Int) + 1 - x)) := by
    refine sumL_congr fun x hx => ?_
    have hin := h.in_ hx
    have g : goesOn p (x, (k : Int) - x) = true := by rw [goesOn_row h (by omega) (by omega)]; exact decide_eq_true hx
    have a1 : (x + 1 - 1, (k : Int) + 1 - (x + 1)) = (x, (k : Int) - x) := Prod.ext (by dsimp only; omega) (by dsimp only; omega)
    have a2 : (x, (k : Int) + 1 - x - 1) = (x, (k : Int) - x) := Prod.ext rfl (by dsimp only; omega)
    have a3 : (x + 1, (k : Int) + 1 - (x + 1)) = kidB (x, (k : Int) - x) := Prod.ext rfl (by unfold kidB; dsimp only; omega)
    have a4 : (x, (k : Int) + 1 - x) = kidG (x, (k : Int) - x) := Prod.ext rfl (by unfold kidG; dsimp only; omega)
    rw [a1, a2, a3, a4, hr _ g]
    grind
  rw [e2, sumL_add]
  grind
/-- all that flows comes to the ends -/
theorem flow {p : Pl} (h : PlanOK p) {b : Q} (hb : b = (0, 0) ∨ b = (1, 0)) (r : Q → Rat) (hr : ∀ c, goesOn p c = true → r c = r (kidB c) + r (kidG c)) : sumL (endsQ p) (fun e => (way p b e : Rat) * r e) = r b := by
  have key : ∀ k : Nat, sumL (lendN p k) (fun e => (way p b e : Rat) * r e) + sumL (countsR p k) (fun e => (way p b e : Rat) * r e) = if lv b ≤ k then r b else 0 := by
    intro k
    induction k with
    | zero =>
      have e0 : lendN p 0 = [] := rfl
      have e1 : countsR p 0 = [(0, 0)] := by unfold countsR; rw [h.first]; rfl
      rw [e0, e1]
      show 0 + ((way p b (0, 0) : Rat) * r (0, 0) + 0) = _
      rcases hb with rfl | rfl
      · have w : way p (0, 0) (0, 0) = 1 := rfl
        have l : lv ((0, 0) : Q) ≤ ((0 : Nat) : Int) := by decide
        rw [w, if_pos l]
        have : ((1 : Int) : Rat) = 1 := by norm_cast
        rw [this]
        grind
      · have w : way p (1, 0) (0, 0) = 0 := rfl
        have l : ¬ lv ((1, 0) : Q) ≤ ((0 : Nat) : Int) := by decide
        rw [w, if_neg l]
        have : ((0 : Int) : Rat) = 0 := by norm_cast
        rw [this]
        grind
    | succ k ih =>
      rw [lendN_succ, sumL_app]
      have e3 : sumL (lineQ ((k : Int) + 1) ((nxt (row p k)).filter fun b => !decide (b ∈ row p (k + 1)))) (fun e => (way p b e : Rat) * r e) + sumL (countsR p (k + 1)) (fun e => (way p b e : Rat) * r e) = sumL (lineQ ((k : Int) + 1) (nxt (row p k))) (fun e => (way p b e : Rat) * r e) := by
        have e4 : countsR p (k + 1) = lineQ ((k : Int) + 1) ((nxt (row p k)).filter fun b => decide (b ∈ row p (k + 1))) := by
          unfold countsR
          rw [filter_on (nxt_ris _) (h.ris _) (fun x hx => h.step k x hx), Int.natCast_add]
          rfl
        rw [e4]
        unfold lineQ
        rw [sumL_map, sumL_map, sumL_map, sumL_parts (fun b => decide (b ∈ row p (k + 1))) _ (nxt (row p k))]
        grind
      have e5 : sumL (lineQ ((k : Int) + 1) (nxt (row p k))) (fun c => if c = b then r c else 0) = if lv b = k + 1 then r b else 0 := by
        by_cases q : lv b = k + 1
        · rw [if_pos q]
          rcases hb with rfl | rfl
          · unfold lv at q
            dsimp only at q
            omega
          · have hk : k = 0 := by
              unfold lv at q
              dsimp only at q
              omega
            subst hk
            rw [h.first]
            show (if ((0 : Int), ((0 : Nat) : Int) + 1 - 0) = (1, 0) then _ else 0) + ((if ((1 : Int), ((0 : Nat) : Int) + 1 - 1) = (1, 0) then r ((1 : Int), ((0 : Nat) : Int) + 1 - 1) else 0) + 0) = _
            rw [if_neg (by decide), if_pos (by decide)]
            show 0 + (r (1, 0) + 0) = _
            grind
        · rw [if_neg q]
          refine sumL_zero fun c hc => ?_
          unfold lineQ at hc
          obtain ⟨x, _, rfl⟩ := List.mem_map.mp hc
          rw [if_neg]
          intro z
          apply q
          rw [← z]
          unfold lv
          dsimp only
          omega
      have := flow_line h (b := b) r hr k
      rw [e5] at this
      have e6 : (if lv b ≤ ((k + 1 : Nat) : Int) then r b else 0) = (if lv b ≤ k then r b else 0) + (if lv b = k + 1 then r b else 0) := by
        by_cases q1 : lv b ≤ k
        · rw [if_pos q1, if_pos (by omega), if_neg (by omega)]; grind
        · by_cases q2 : lv b = k + 1
          · rw [if_neg q1, if_pos (by omega), if_pos q2]; grind
          · rw [if_neg q1, if_neg (by omega), if_neg q2]; grind
      rw [e6, ← ih]
      grind
  have hk := key p.length
  have e : countsR p p.length = [] := by unfold countsR; rw [row_out (Nat.le_refl _)]; rfl
  rw [e, lends_eq h] at hk
  have hp := h.pos
  have l : lv b ≤ (p.length : Int) := by
    rcases hb with rfl | rfl
    · show (0 : Int) + 0 ≤ _; omega
    · show (1 : Int) + 0 ≤ _; omega
  rw [if_pos l] at hk
  have : sumL ([] : List Q) (fun e => (way p b e : Rat) * r e) = 0 := rfl
  rw [this] at hk
  grind
end PD
namespace PD
open PySem PySem.Spec PyProof.Rows L2
variable [TN]
theorem zeros_eq (n : Nat) : (rngT 0 n).map (fun _ => (0 : Int)) = List.replicate n 0 := by
  refine List.ext_getElem? fun i => ?_
  rw [List.getElem?_map, List.getElem?_replicate]
  by_cases h : i < n
  · rw [List.getElem?_eq_getElem (by rw [rngT_len]; exact h), if_pos h]
    rfl
  · rw [List.getElem?_eq_none_iff.mpr (by rw [rngT_len]; omega), if_neg h]
    rfl
theorem all_true {α : Type} {l : List α} {f : α → Bool} (h : ∀ x ∈ l, f x = true) : (l.map f).all id = true := by
  rw [List.all_eq_true]
  intro y hy
  obtain ⟨x, hx, rfl⟩ := List.mem_map.mp hy
  exact h x hx
theorem getD_bd {n : Nat} {ts : List Int} (h : ∀ t ∈ ts, Bd n t) (k : Nat) : Bd n (ts.getD k 0) := by
  rw [List.getD_eq_getElem?_getD]
  cases q : ts[k]? with
  | none =>
    unfold Bd
    exact Nat.pow_pos (by decide)
  | some x => exact h x (List.mem_of_getElem? q)
/-! ### whole-number polynomials by their coefficients -/
def cf (a : List Int) (k : Nat) : Int := a.getD k 0
theorem cf_out {a : List Int} {k : Nat} (h : a.length ≤ k) : cf a k = 0 := by
  unfold cf
  rw [List.getD_eq_getElem?_getD, List.getElem?_eq_none_iff.mpr h]
  rfl
theorem trimZ_cf : ∀ (n : Nat) (a : List Int), a.length = n → ∀ k, cf (trimZ 0 a) k = cf a k
  | 0, a, h, k => by rw [List.eq_nil_of_length_eq_zero h]; rfl
  | n + 1, a, h, k => by
    obtain ⟨t, p, rfl⟩ := snoc_of (s := a) (by omega)
    rw [trimZ_snoc]
    by_cases e : p = 0
    · rw [if_pos e, trimZ_cf n t (by rw [List.length_append] at h; simpa using h), e]
      unfold cf
      rw [List.getD_eq_getElem?_getD, List.getD_eq_getElem?_getD]
      rcases Nat.lt_or_ge k t.length with q | q
      · rw [List.getElem?_append_left q]
      · rw [List.getElem?_append_right q, List.getElem?_eq_none_iff.mpr q]
        cases q2 : k - t.length with
        | zero => rfl
        | succ m => rfl
    · rw [if_neg e]
theorem cf_trim (a : List Int) (k : Nat) : cf (trimZ 0 a) k = cf a k := trimZ_cf _ a rfl k
theorem trimZ_last {a : List Int} {k : Nat} (h : (trimZ 0 a).length = k + 1) : cf a k ≠ 0 := by
  rw [← cf_trim]
  obtain ⟨t, p, e⟩ := snoc_of (s := trimZ 0 a) (by omega)
  have hp : p ≠ 0 := by
    rintro rfl
    have h1 : trimZ 0 (trimZ 0 a) = trimZ 0 a := by
      unfold trimZ
      rw [List.reverse_reverse]
      congr 1
      induction a.reverse with
      | nil => rfl
      | cons x xs ih =>
        rw [List.dropWhile_cons]
        by_cases q : x = 0
        · rw [if_pos (decide_eq_true q), ih]
        · rw [if_neg (by rw [decide_eq_true_eq]; exact q), List.dropWhile_cons, if_neg (by rw [decide_eq_true_eq]; exact q)]
    rw [e, trimZ_snoc, if_pos rfl] at h1
    have := trimZ_len 0 t
    rw [h1, List.length_append] at this
    simp only [List.length_singleton] at this
    omega
  rw [e] at h ⊢
  have hk : t.length = k := by
    rw [List.length_append] at h
    simpa using h
  unfold cf
  rw [List.getD_eq_getElem?_getD, List.getElem?_append_right (by omega), hk]
  simpa using hp
theorem trimZ_le {a : List Int} {n : Nat} (h : ∀ k, n ≤ k → cf a k = 0) : (trimZ 0 a).length ≤ n := by
  cases q : (trimZ 0 a).length with
  | zero => omega
  | succ k =>
    rcases Nat.lt_or_ge k n with z | z
    · omega
    · exact absurd (h k z) (trimZ_last q)
theorem list_cf {a b : List Int} (hl : a.length = b.length) (h : ∀ k, cf a k = cf b k) : a = b := by
  refine List.ext_getElem? fun k => ?_
  rcases Nat.lt_or_ge k a.length with q | q
  · have := h k
    unfold cf at this
    rw [List.getD_eq_getElem?_getD, List.getD_eq_getElem?_getD, List.getElem?_eq_getElem q, List.getElem?_eq_getElem (by omega)] at this
    rw [List.getElem?_eq_getElem q, List.getElem?_eq_getElem (by omega)]
    exact congrArg some this
  · rw [List.getElem?_eq_none_iff.mpr q, List.getElem?_eq_none_iff.mpr (by omega)]
/-- two with the same coefficients are the same without noughts at the end -/
theorem trimZ_ext {a b : List Int} (h : ∀ k, cf a k = cf b k) : trimZ 0 a = trimZ 0 b := by
  have l1 : (trimZ 0 a).length ≤ (trimZ 0 b).length := trimZ_le fun k hk => by rw [h, ← cf_trim]; exact cf_out hk
  have l2 : (trimZ 0 b).length ≤ (trimZ 0 a).length := trimZ_le fun k hk => by rw [← h, ← cf_trim]; exact cf_out hk
  exact list_cf (by omega) fun k => by rw [cf_trim, cf_trim, h]
theorem rng_cf {n : Nat} {f : Int → Int} {k : Nat} : cf ((rngT 0 n).map f) k = if k < n then f k else 0 := by
  unfold cf
  rw [List.getD_eq_getElem?_getD, List.getElem?_map]
  by_cases h : k < n
  · rw [if_pos h]
    have e : (rngT 0 n)[k]? = some (k : Int) := by
      cases q : (rngT 0 n)[k]? with
      | none => rw [List.getElem?_eq_none_iff, rngT_len] at q; omega
      | some z => rw [(rngT_get0 q).1]
    rw [e]
    rfl
  · rw [if_neg h, List.getElem?_eq_none_iff.mpr (by rw [rngT_len]; omega)]
    rfl
def mx (a b : Nat) : Nat := if b > a then b else a
def addF (a b : List Int) (f : Int) : List Int := (rngT 0 (mx a.length b.length)).map fun k => cf a k.toNat + f * cf b k.toNat
theorem addF_cf (a b : List Int) (f : Int) (k : Nat) : cf (addF a b f) k = cf a k + f * cf b k := by
  unfold addF
  rw [rng_cf]
  by_cases h : k < mx a.length b.length
  · rw [if_pos h]
    rfl
  · rw [if_neg h, cf_out, cf_out]
    · simp
    · unfold mx at h; split at h <;> omega
    · unfold mx at h; split at h <;> omega
theorem addF_len (a b : List Int) (f : Int) : (addF a b f).length = mx a.length b.length := by unfold addF; rw [List.length_map, rngT_len]
/-! sums of whole numbers over counts -/
def sumZ {α : Type} : List α → (α → Int) → Int
  | [], _ => 0
  | x :: l, f => f x + sumZ l f
theorem sumZ_cast {α : Type} (f : α → Int) : ∀ l : List α, ((sumZ l f : Int) : Rat) = sumL l fun x => (f x : Rat)
  | [] => by show ((0 : Int) : Rat) = 0; norm_cast
  | x :: l => by
    show ((f x + sumZ l f : Int) : Rat) = (f x : Rat) + sumL l fun x => (f x : Rat)
    rw [← sumZ_cast f l]
    push_cast
    rfl
theorem sumZ_snoc {α : Type} (f : α → Int) (x : α) : ∀ l : List α, sumZ (l ++ [x]) f = sumZ l f + f x
  | [] => by show f x + 0 = 0 + f x; omega
  | y :: l => by
    show f y + sumZ (l ++ [x]) f = f y + sumZ l f + f x
    rw [sumZ_snoc f x l]
    omega
theorem sumZ_parts {α : Type} (P : α → Bool) (f : α → Int) : ∀ l : List α, sumZ l f = sumZ (l.filter P) f + sumZ (l.filter fun x => !P x) f
  | [] => rfl
  | x :: l => by
    rw [List.filter_cons, List.filter_cons]
    show f x + sumZ l f = _
    rw [sumZ_parts P f l]
    cases P x
    · show f x + _ = sumZ (l.filter P) f + (f x + sumZ (l.filter fun x => !P x) f)
      omega
    · show f x + _ = (f x + sumZ (l.filter P) f) + sumZ (l.filter fun x => !P x) f
      omega
/-! the polynomial of a count -/
def pcf (c : Q) (k : Nat) : Int := cf (powI c.1.toNat c.2.toNat) k
theorem rowC_cf (g k : Nat) : cf (rowC g) k = sg k * ch g k := by
  unfold cf
  rw [List.getD_eq_getElem?_getD]
  rcases Nat.lt_or_ge g k with q | q
  · rw [List.getElem?_eq_none_iff.mpr (by rw [rowC_len]; omega), ch_big g k q]
    show (0 : Int) = _
    omega
  · rw [rowC_get g k q]
    rfl
theorem powI_lo {b g k : Nat} (h : k < b) : cf (powI b g) k = 0 := by
  unfold cf powI
  rw [List.getD_eq_getElem?_getD, List.getElem?_append_left (by rw [List.length_replicate]; exact h), List.getElem?_replicate, if_pos h]
  rfl
theorem powI_hi {b g j : Nat} : cf (powI b g) (b + j) = sg j * ch g j := by
  have e : cf (powI b g) (b + j) = cf (rowC g) j := by
    unfold cf powI
    rw [List.getD_eq_getElem?_getD, List.getD_eq_getElem?_getD, List.getElem?_append_right (by rw [List.length_replicate]; omega), List.length_replicate, Nat.add_sub_cancel_left]
  rw [e, rowC_cf]
theorem powI_add (b g k : Nat) : cf (powI b g) k = cf (powI (b + 1) g) k + cf (powI b (g + 1)) k := by
  rcases Nat.lt_or_ge k b with q | q
  · rw [powI_lo q, powI_lo q, powI_lo (by omega)]
    rfl
  · obtain ⟨j, rfl⟩ : ∃ j, k = b + j := ⟨k - b, by omega⟩
    rw [powI_hi, powI_hi]
    cases j with
    | zero =>
      rw [powI_lo (by omega), ch_zero, ch_zero]
      omega
    | succ j =>
      have e : b + (j + 1) = b + 1 + j := by omega
      rw [e, powI_hi, sg_succ]
      show _ = sg j * ch g j + -sg j * (ch g j + ch g (j + 1))
      rw [Int.mul_add]
      have := Int.neg_mul (sg j) (ch g j)
      omega
theorem pcf_add {c : Q} (n : nn c) (k : Nat) : pcf c k = pcf (kidB c) k + pcf (kidG c) k := by
  unfold nn at n
  unfold pcf kidB kidG
  dsimp only
  rw [show (c.1 + 1).toNat = c.1.toNat + 1 by omega, show (c.2 + 1).toNat = c.2.toNat + 1 by omega]
  exact powI_add _ _ _
theorem pcf_00 (k : Nat) : pcf (0, 0) k = if k = 0 then 1 else 0 := by
  unfold pcf
  show cf (powI 0 0) k = _
  cases k with
  | zero => rfl
  | succ k => rw [cf_out (by rw [powI_len]; omega)]; rfl
theorem pcf_10 (k : Nat) : pcf (1, 0) k = if k = 1 then 1 else 0 := by
  unfold pcf
  show cf (powI 1 0) k = _
  match k with
  | 0 => rfl
  | 1 => rfl
  | k + 2 => rw [cf_out (by rw [powI_len]; omega)]; rfl
/-- the polynomials of the ends, each as often as ways lead there, come to that of the count at which one begins -/
theorem flow_poly {p : Pl} (h : PlanOK p) {b : Q} (hb : b = (0, 0) ∨ b = (1, 0)) (k : Nat) : sumZ (endsQ p) (fun e => way p b e * pcf e k) = pcf b k := by
  have f := flow h hb (fun c => (pcf c k : Rat)) (fun c g => by rw [pcf_add (goesOn_nn g).1 k]; push_cast; rfl)
  have e : ((sumZ (endsQ p) fun e => way p b e * pcf e k : Int) : Rat) = ((pcf b k : Int) : Rat) := by
    rw [sumZ_cast, ← f]
    exact sumL_congr fun x _ => by push_cast; rfl
  exact_mod_cast e
theorem oddsI_cf (p : Pl) (e : Q) (k : Nat) : cf (oddsI p e) k = way p (0, 0) e * pcf e k := by
  unfold oddsI pcf cf
  rw [List.getD_eq_getElem?_getD, List.getElem?_map, List.getD_eq_getElem?_getD]
  cases (powI e.1.toNat e.2.toNat)[k]? with
  | none => simp
  | some z => rfl
end PD
namespace PD
open PySem PySem.Spec PyProof.Rows L2
variable [TN]
/-! ### sums of polynomials -/
def sumQ (xs ys : List Q) : List Q := (rngT 0 (mx xs.length ys.length)).map fun k => qadd (xs.getD k.toNat (0, 1)) (ys.getD k.toNat (0, 1))
def lessQ (xs ys : List Q) : List Q := (rngT 0 (mx xs.length ys.length)).map fun k => qsub (xs.getD k.toNat (0, 1)) (ys.getD k.toNat (0, 1))
theorem getD_FB {n : Nat} {xs : List Q} (h : ∀ q ∈ xs, FB n q) (h0 : 0 < n) (k : Nat) : FB n (xs.getD k (0, 1)) := by
  rw [List.getD_eq_getElem?_getD]
  cases q : xs[k]? with
  | none => exact FB_01.mono h0
  | some x => exact h x (List.mem_of_getElem? q)
theorem getD_nq (a : List Int) (k : Nat) : (a.map nq).getD k (0, 1) = (cf a k, 1) := by
  unfold cf
  rw [List.getD_eq_getElem?_getD, List.getElem?_map, List.getD_eq_getElem?_getD]
  cases a[k]? <;> rfl
theorem sumQ_nq (a b : List Int) : sumQ (a.map nq) (b.map nq) = (addF a b 1).map nq := by
  unfold sumQ addF
  rw [List.length_map, List.length_map, List.map_map]
  refine List.map_congr_left fun k _ => ?_
  show qadd _ _ = (_, 1)
  rw [getD_nq, getD_nq, qadd_nq]
  show _ = (cf a k.toNat + 1 * cf b k.toNat, (1 : Int))
  rw [Int.one_mul]
theorem trimZ_idem (a : List Int) : trimZ 0 (trimZ 0 a) = trimZ 0 a := trimZ_ext fun k => cf_trim a k
theorem mem_cf {a : List Int} {t : Int} (h : t ∈ a) : ∃ k, k < a.length ∧ t = cf a k := by
  obtain ⟨k, hk⟩ := List.mem_iff_getElem?.mp h
  refine ⟨k, (List.getElem?_eq_some_iff.mp hk).1, ?_⟩
  unfold cf
  rw [List.getD_eq_getElem?_getD, hk]
  rfl
theorem sumZ_bd {α : Type} {n m : Nat} {f : α → Int} : ∀ {l : List α}, (∀ x ∈ l, Bd n (f x)) → l.length ≤ 2 ^ m → Bd (n + m) (sumZ l f) := by
  have key : ∀ l : List α, (∀ x ∈ l, Bd n (f x)) → (sumZ l f).natAbs ≤ l.length * (2 ^ n - 1) := by
    intro l
    induction l with
    | nil => intro _; show (0 : Int).natAbs ≤ _; simp
    | cons x l ih =>
      intro h
      have h1 := h x List.mem_cons_self
      have h2 := ih fun y hy => h y (List.mem_cons_of_mem _ hy)
      have h3 := Int.natAbs_add_le (f x) (sumZ l f)
      show (f x + sumZ l f).natAbs ≤ (l.length + 1) * (2 ^ n - 1)
      unfold Bd at h1
      rw [Nat.add_mul, Nat.one_mul]
      omega
  intro l h hl
  have h1 := key l h
  unfold Bd
  have h2 : l.length * (2 ^ n - 1) ≤ 2 ^ m * (2 ^ n - 1) := Nat.mul_le_mul_right _ hl
  have h3 : 0 < 2 ^ n := Nat.pow_pos (by decide)
  have h4 : 0 < 2 ^ m := Nat.pow_pos (by decide)
  have h5 : 2 ^ m * (2 ^ n - 1) = 2 ^ (n + m) - 2 ^ m := by rw [Nat.mul_sub, Nat.mul_one, ← Nat.pow_add, Nat.add_comm]
  have h6 : 2 ^ m ≤ 2 ^ (n + m) := Nat.pow_le_pow_right (by decide) (by omega)
  omega
theorem pcf_out {c : Q} (n : nn c) {k : Nat} (h : lv c < k) : pcf c k = 0 := by
  unfold pcf
  refine cf_out ?_
  rw [powI_len]
  unfold nn at n
  unfold lv at h
  omega
theorem pcf_bd {c : Q} (n : nn c) (h : lv c ≤ 100) (k : Nat) : Bd 101 (pcf c k) := by
  unfold nn at n
  unfold lv at h
  unfold pcf
  rcases Nat.lt_or_ge k c.1.toNat with q | q
  · rw [powI_lo q]
    unfold Bd
    decide +kernel
  · obtain ⟨j, rfl⟩ : ∃ j, k = c.1.toNat + j := ⟨k - c.1.toNat, by omega⟩
    rw [powI_hi]
    have c1 := ch_nn c.2.toNat j
    have c2 := ch_le c.2.toNat j
    have c3 : (2 : Int) ^ c.2.toNat ≤ 2 ^ 100 := by
      have := Nat.pow_le_pow_right (n := 2) (by decide) (show c.2.toNat ≤ 100 by omega)
      exact_mod_cast this
    have hs : sg j = 1 ∨ sg j = -1 := by unfold sg; omega
    rcases hs with hs | hs <;> rw [hs] <;> exact .of (by omega) (by omega)
/-! ### the odds of some ends, put together -/
def refN (p : Pl) (l : List Q) : List Int := l.foldl (fun m e => trimZ 0 (addF m (trimZ 0 (oddsI p e)) 1)) []
theorem refN_snoc (p : Pl) (l : List Q) (e : Q) : refN p (l ++ [e]) = trimZ 0 (addF (refN p l) (trimZ 0 (oddsI p e)) 1) := by
  unfold refN
  rw [List.foldl_append]
  rfl
theorem refN_cf (p : Pl) (l : List Q) (k : Nat) : cf (refN p l) k = sumZ l fun e => way p (0, 0) e * pcf e k := by
  have key : ∀ (l : List Q) (m : List Int), cf (l.foldl (fun m e => trimZ 0 (addF m (trimZ 0 (oddsI p e)) 1)) m) k = cf m k + sumZ l fun e => way p (0, 0) e * pcf e k := by
    intro l
    induction l with
    | nil => intro m; show cf m k = cf m k + 0; omega
    | cons e l ih =>
      intro m
      rw [List.foldl_cons, ih, cf_trim, addF_cf, cf_trim, oddsI_cf, Int.one_mul]
      show _ = cf m k + (way p (0, 0) e * pcf e k + sumZ l fun e => way p (0, 0) e * pcf e k)
      omega
  have := key l []
  have z : cf ([] : List Int) k = 0 := rfl
  rw [z] at this
  unfold refN
  omega
theorem refN_trim (p : Pl) (l : List Q) : trimZ 0 (refN p l) = refN p l := by
  rcases List.eq_nil_or_concat l with rfl | ⟨t, e, rfl⟩
  · rfl
  · rw [List.concat_eq_append, refN_snoc, trimZ_idem]
/-- of ends of a plan -/
structure EndsIn (p : Pl) (l : List Q) : Prop where
  ok : PlanOK p
  le : l.length ≤ 1024
  at_ : ∀ e ∈ l, e ∈ endsQ p
theorem EndsIn.term {p : Pl} {l : List Q} (h : EndsIn p l) {e : Q} (he : e ∈ l) (k : Nat) : Bd 129 (way p (0, 0) e * pcf e k) := by
  obtain ⟨n, q⟩ := end_nn h.ok (h.at_ e he)
  have h24 := h.ok.len
  exact (way_bd (by omega)).mul (pcf_bd n (by omega) k)
theorem EndsIn.cfb {p : Pl} {l : List Q} (h : EndsIn p l) (k : Nat) : Bd 139 (sumZ l fun e => way p (0, 0) e * pcf e k) := sumZ_bd (n := 129) (m := 10) (fun e he => h.term he k) h.le
theorem EndsIn.len {p : Pl} {l : List Q} (h : EndsIn p l) : (refN p l).length ≤ 25 := by
  rw [← refN_trim]
  refine trimZ_le fun k hk => ?_
  rw [refN_cf]
  have key : ∀ m : List Q, (∀ e ∈ m, e ∈ endsQ p) → (sumZ m fun e => way p (0, 0) e * pcf e k) = 0 := by
    intro m
    induction m with
    | nil => intro _; rfl
    | cons e m ih =>
      intro hm
      obtain ⟨n, q⟩ := end_nn h.ok (hm e List.mem_cons_self)
      have h24 := h.ok.len
      show way p (0, 0) e * pcf e k + sumZ m (fun e => way p (0, 0) e * pcf e k) = 0
      rw [ih fun y hy => hm y (List.mem_cons_of_mem _ hy), pcf_out n (by omega)]
      omega
  exact key l h.at_
theorem EndsIn.fb {p : Pl} {l : List Q} (h : EndsIn p l) : ∀ q ∈ (refN p l).map nq, FB 139 q := fun q hq => by
  obtain ⟨z, hz, rfl⟩ := List.mem_map.mp hq
  obtain ⟨k, _, rfl⟩ := mem_cf hz
  rw [refN_cf]
  exact FB_n1 (h.cfb k) (by decide)
theorem EndsIn.pre {p : Pl} {l m : List Q} (h : EndsIn p (l ++ m)) : EndsIn p l := ⟨h.ok, by have := h.le; rw [List.length_append] at this; omega, fun e he => h.at_ e (List.mem_append_left _ he)⟩
theorem EndsIn.sub {p : Pl} {l m : List Q} (h : EndsIn p l) (s : m.Sublist l) : EndsIn p m := ⟨h.ok, Nat.le_trans s.length_le h.le, fun e he => h.at_ e (s.subset he)⟩
theorem endsIn {p : Pl} (h : PlanOK p) : EndsIn p (endsQ p) := ⟨h, by
  have h1 := comeN_len h p.length
  have h2 := h.len
  have h3 := List.length_filter_le (fun c => !goesOn p c) (comeN p p.length)
  show ((comeN p p.length).filter fun c => !goesOn p c).length ≤ 1024
  omega, fun e he => he⟩
theorem oddsQ_fb {p : Pl} {e : Q} (h : PlanOK p) (he : e ∈ endsQ p) : (oddsQ p e).length ≤ 200 ∧ ∀ q ∈ oddsQ p e, FB 139 q := by
  obtain ⟨n, q⟩ := end_nn h he
  have h24 := h.len
  constructor
  · unfold oddsQ
    rw [List.length_map]
    refine Nat.le_trans (trimZ_len _ _) ?_
    unfold oddsI
    rw [List.length_map, powI_len]
    unfold nn at n
    unfold lv at q
    omega
  · intro y hy
    unfold oddsQ at hy
    obtain ⟨z, hz, rfl⟩ := List.mem_map.mp hy
    obtain ⟨k, _, rfl⟩ := mem_cf hz
    rw [cf_trim, oddsI_cf]
    exact FB_n1 (((way_bd (by omega)).mul (pcf_bd n (by omega) k)).mono (by decide)) (by decide)
/-- a polynomial of whole numbers told right -/
theorem poly_right {a b : List Int} (h : ∀ k, cf a k = cf b k) (ha : trimZ 0 a = a) (hb : ∀ k, Bd 300000 (cf b k)) : (a.map nq).length = (trimZ 0 b).length ∧ (∀ k : Nat, k < (a.map nq).length → isFr ((a.map nq).getD k (0, 1)) (b.getD k 0) 1 = true ∧ FB 300000 ((a.map nq).getD k (0, 1))) ∧ (∀ t ∈ b, Bd 300000 t) := by
  refine ⟨by rw [List.length_map, ← trimZ_ext h, ha], fun k _ => ?_, fun t ht => ?_⟩
  · rw [getD_nq, show b.getD k 0 = cf b k from rfl, h k]
    exact ⟨isFr_nq _, FB_n1 (hb k) (by decide)⟩
  · obtain ⟨k, _, rfl⟩ := mem_cf ht
    exact hb k
end PD
namespace PD
open PySem PySem.Spec PyProof.Rows L2
variable [TN]
/-! ### polynomials of fractions by their coefficients -/
def cv (xs : List Q) (k : Nat) : Rat := val (xs.getD k (0, 1))
def PQ (xs : List Q) : Prop := ∀ q ∈ xs, lowest q ∧ 0 < q.2
theorem PQ.at_ {xs : List Q} (h : PQ xs) (k : Nat) : lowest (xs.getD k (0, 1)) ∧ 0 < (xs.getD k (0, 1)).2 := by
  rw [List.getD_eq_getElem?_getD]
  cases q : xs[k]? with
  | none => exact ⟨low_01, by decide⟩
  | some x => exact h x (List.mem_of_getElem? q)
theorem cv_out {xs : List Q} {k : Nat} (h : xs.length ≤ k) : cv xs k = 0 := by
  unfold cv
  rw [List.getD_eq_getElem?_getD, List.getElem?_eq_none_iff.mpr h]
  exact val_01
theorem rng_get {α : Type} {n k : Nat} {f : Int → α} {d : α} : ((rngT 0 n).map f).getD k d = if k < n then f k else d := by
  rw [List.getD_eq_getElem?_getD, List.getElem?_map]
  by_cases h : k < n
  · rw [if_pos h]
    have e : (rngT 0 n)[k]? = some (k : Int) := by
      cases q : (rngT 0 n)[k]? with
      | none => rw [List.getElem?_eq_none_iff, rngT_len] at q; omega
      | some z => rw [(rngT_get0 q).1]
    rw [e]
    rfl
  · rw [if_neg h, List.getElem?_eq_none_iff.mpr (by rw [rngT_len]; omega)]
    rfl
theorem cv_sum {xs ys : List Q} (hx : PQ xs) (hy : PQ ys) : PQ (sumQ xs ys) ∧ ∀ k, cv (sumQ xs ys) k = cv xs k + cv ys k := by
  constructor
  · intro q hq
    unfold sumQ at hq
    obtain ⟨k, _, rfl⟩ := List.mem_map.mp hq
    have h1 := (hx.at_ k.toNat).2
    have h2 := (hy.at_ k.toNat).2
    refine ⟨qadd_low h1 h2, ?_⟩
    unfold qadd
    rw [mkF_pos (Int.mul_pos h1 h2)]
    exact mkP_pos (Int.mul_pos h1 h2)
  · intro k
    have e : cv (sumQ xs ys) k = if k < mx xs.length ys.length then val (qadd (xs.getD k (0, 1)) (ys.getD k (0, 1))) else 0 := by
      unfold cv sumQ
      rw [rng_get]
      split
      · rfl
      · exact val_01
    rw [e]
    by_cases h : k < mx xs.length ys.length
    · rw [if_pos h, val_add (hx.at_ k).2 (hy.at_ k).2]
      rfl
    · rw [if_neg h, cv_out, cv_out]
      · grind
      · unfold mx at h; split at h <;> omega
      · unfold mx at h; split at h <;> omega
theorem cv_less {xs ys : List Q} (hx : PQ xs) (hy : PQ ys) : PQ (lessQ xs ys) ∧ ∀ k, cv (lessQ xs ys) k = cv xs k - cv ys k := by
  constructor
  · intro q hq
    unfold lessQ at hq
    obtain ⟨k, _, rfl⟩ := List.mem_map.mp hq
    have h1 := (hx.at_ k.toNat).2
    have h2 := (hy.at_ k.toNat).2
    refine ⟨qsub_low h1 h2, ?_⟩
    unfold qsub
    rw [mkF_pos (Int.mul_pos h1 h2)]
    exact mkP_pos (Int.mul_pos h1 h2)
  · intro k
    have e : cv (lessQ xs ys) k = if k < mx xs.length ys.length then val (qsub (xs.getD k (0, 1)) (ys.getD k (0, 1))) else 0 := by
      unfold cv lessQ
      rw [rng_get]
      split
      · rfl
      · exact val_01
    rw [e]
    by_cases h : k < mx xs.length ys.length
    · rw [if_pos h, val_sub (hx.at_ k).2 (hy.at_ k).2]
      rfl
    · rw [if_neg h, cv_out, cv_out]
      · grind
      · unfold mx at h; split at h <;> omega
      · unfold mx at h; split at h <;> omega
theorem cv_scale {xs : List Q} {w : Q} (hx : PQ xs) (hw : 0 < w.2) : PQ (xs.map fun q => qmul q w) ∧ ∀ k, cv (xs.map fun q => qmul q w) k = cv xs k * val w := by
  constructor
  · intro q hq
    obtain ⟨x, hm, rfl⟩ := List.mem_map.mp hq
    have h1 := (hx x hm).2
    refine ⟨qmul_low h1 hw, ?_⟩
    unfold qmul
    rw [mkF_pos (Int.mul_pos h1 hw)]
    exact mkP_pos (Int.mul_pos h1 hw)
  · intro k
    unfold cv
    rw [List.getD_eq_getElem?_getD, List.getElem?_map, List.getD_eq_getElem?_getD]
    cases q : xs[k]? with
    | none =>
      show val (0, 1) = val (0, 1) * val w
      rw [val_01]
      grind
    | some x => exact val_mul (hx x (List.mem_of_getElem? q)).2 hw
theorem trim_cvN : ∀ (n : Nat) (xs : List Q), xs.length = n → ∀ k, cv (trim xs) k = cv xs k
  | 0, xs, h, k => by rw [List.eq_nil_of_length_eq_zero h]; rfl
  | n + 1, xs, h, k => by
    obtain ⟨t, p, rfl⟩ := snoc_of (s := xs) (by omega)
    rw [trim_snoc]
    by_cases e : p = (0, 1)
    · rw [if_pos e, trim_cvN n t (by rw [List.length_append] at h; simpa using h), e]
      unfold cv
      rw [List.getD_eq_getElem?_getD, List.getD_eq_getElem?_getD]
      rcases Nat.lt_or_ge k t.length with q | q
      · rw [List.getElem?_append_left q]
      · rw [List.getElem?_append_right q, List.getElem?_eq_none_iff.mpr q]
        cases q2 : k - t.length with
        | zero => rfl
        | succ m => rfl
    · rw [if_neg e]
theorem cv_trim (xs : List Q) (k : Nat) : cv (trim xs) k = cv xs k := trim_cvN _ xs rfl k
theorem PQ.trim {xs : List Q} (h : PQ xs) : PQ (PD.trim xs) := fun q hq => h q (trim_mem hq)
theorem trim_idem (xs : List Q) : PD.trim (PD.trim xs) = PD.trim xs := by
  unfold PD.trim
  rw [List.reverse_reverse]
  congr 1
  induction xs.reverse with
  | nil => rfl
  | cons x l ih =>
    rw [List.dropWhile_cons]
    by_cases q : x = (0, 1)
    · rw [if_pos (decide_eq_true q), ih]
    · rw [if_neg (by rw [decide_eq_true_eq]; exact q), List.dropWhile_cons, if_neg (by rw [decide_eq_true_eq]; exact q)]
theorem trim_last {xs : List Q} (hp : PQ xs) (ht : PD.trim xs = xs) {k : Nat} (h : xs.length = k + 1) : cv xs k ≠ 0 := by
  obtain ⟨t, p, rfl⟩ := snoc_of (s := xs) (by omega)
  have ne : p ≠ (0, 1) := by
    rintro rfl
    rw [trim_snoc, if_pos rfl] at ht
    have := trim_len t
    rw [ht, List.length_append] at this
    simp only [List.length_singleton] at this
    omega
  have hk : t.length = k := by
    rw [List.length_append] at h
    simpa using h
  have e : cv (t ++ [p]) k = val p := by
    unfold cv
    rw [List.getD_eq_getElem?_getD, List.getElem?_append_right (by omega), hk]
    simp
  rw [e]
  intro z
  have hpp := hp p (List.mem_append_right _ (List.mem_singleton.mpr rfl))
  exact ne (val_inj hpp.2 (by decide) hpp.1 low_01 (by rw [z, val_01]))
theorem trimZ_last' {a : List Int} {k : Nat} (h : (trimZ 0 a).length = k + 1) : cf a k ≠ 0 := trimZ_last h
/-- a polynomial told right: lowest fractions, no nought at the end, its coefficients those over one bottom -/
theorem poly_rightQ {xs : List Q} {b : List Int} {B : Int} (hp : PQ xs) (ht : PD.trim xs = xs) (hB : 0 < B) (h : ∀ k, cv xs k = (cf b k : Rat) / (B : Rat)) : xs.length = (trimZ 0 b).length ∧ ∀ k : Nat, isFr (xs.getD k (0, 1)) (b.getD k 0) B = true := by
  have hB' := cast_ne (Int.ne_of_gt hB)
  have zero : ∀ k, cv xs k = 0 ↔ cf b k = 0 := fun k => by
    rw [h]
    constructor
    · intro z
      have : (cf b k : Rat) = 0 := by
        have e : (cf b k : Rat) = (cf b k : Rat) / (B : Rat) * (B : Rat) := by grind
        rw [e, z]
        grind
      exact_mod_cast this
    · intro z
      rw [z]
      have : ((0 : Int) : Rat) = 0 := by norm_cast
      rw [this]
      grind
  constructor
  · have l1 : (trimZ 0 b).length ≤ xs.length := trimZ_le fun k hk => (zero k).mp (cv_out hk)
    have l2 : xs.length ≤ (trimZ 0 b).length := by
      cases q : xs.length with
      | zero => omega
      | succ k =>
        rcases Nat.lt_or_ge k (trimZ 0 b).length with z | z
        · omega
        · have n := trim_last hp ht q
          exact absurd ((zero k).mpr (by rw [← cf_trim]; exact cf_out z)) n
    omega
  · intro k
    exact isFr_val (hp.at_ k).2 (Int.ne_of_gt hB) (hp.at_ k).1 (h k)
/-- of lowest fractions whose values lie over one bottom: their sizes -/
theorem fb_over {n : Nat} {q : Q} {t B : Int} (l : lowest q) (h : 0 < q.2) (hB : 0 < B) (bt : Bd n t) (bB : Bd n B) (e : val q = (t : Rat) / (B : Rat)) : FB n q := by
  have e2 : q.1 * B = t * q.2 := (div_eq_iff' (Int.ne_of_gt h) (Int.ne_of_gt hB)).mp e
  have d := low_dvd l e2
  have hb := bd_dvd bB d (Int.ne_of_gt hB)
  refine ⟨h, bt.le ?_, hb⟩
  obtain ⟨c, rfl⟩ := d
  have hc : 0 < c := by
    rcases Int.lt_or_le 0 c with z | z
    · exact z
    · have : q.2 * c ≤ 0 := Int.mul_nonpos_of_nonneg_of_nonpos (Int.le_of_lt h) z
      omega
  have e3 : q.1 * c = t := by
    have : q.2 * (q.1 * c) = q.2 * t := by rw [← Int.mul_assoc, Int.mul_comm q.2 q.1, Int.mul_assoc, e2, Int.mul_comm]
    exact Int.eq_of_mul_eq_mul_left (Int.ne_of_gt h) this
  rw [← e3, Int.natAbs_mul]
  exact Nat.le_mul_of_pos_right _ (by omega)
theorem fb_all {n : Nat} {xs : List Q} {c : Nat → Int} {B : Int} (hp : PQ xs) (hB : 0 < B) (bB : Bd n B) (bc : ∀ k, Bd n (c k)) (h : ∀ k, cv xs k = (c k : Rat) / (B : Rat)) : ∀ q ∈ xs, FB n q := fun q hq => by
  obtain ⟨k, hk⟩ := List.mem_iff_getElem?.mp hq
  have hv : cv xs k = val q := by
    unfold cv
    rw [List.getD_eq_getElem?_getD, hk]
    rfl
  exact fb_over (hp q hq).1 (hp q hq).2 hB (bc k) bB (by rw [← hv, h])
theorem oddsQ_pq (p : Pl) (e : Q) : PQ (oddsQ p e) ∧ ∀ k, cv (oddsQ p e) k = ((way p (0, 0) e * pcf e k : Int) : Rat) := by
  constructor
  · intro q hq
    unfold oddsQ at hq
    obtain ⟨z, _, rfl⟩ := List.mem_map.mp hq
    refine ⟨?_, (show (0 : Int) < 1 by decide)⟩
    unfold lowest
    simp
  · intro k
    unfold cv oddsQ
    rw [getD_nq, cf_trim, oddsI_cf]
    exact val_n1 _
/-! ### the mean of numbers told at the ends -/
def meanN (p : Pl) (l : List (Q × Q)) : List Q := l.foldl (fun m z => PD.trim (sumQ m (PD.trim ((oddsQ p z.1).map fun q => qmul q z.2)))) []
theorem meanN_snoc (p : Pl) (l : List (Q × Q)) (z : Q × Q) : meanN p (l ++ [z]) = PD.trim (sumQ (meanN p l) (PD.trim ((oddsQ p z.1).map fun q => qmul q z.2))) := by
  unfold meanN
  rw [List.foldl_append]
  rfl
theorem meanN_trim (p : Pl) (l : List (Q × Q)) : PD.trim (meanN p l) = meanN p l := by
  rcases List.eq_nil_or_concat l with rfl | ⟨t, e, rfl⟩
  · rfl
  · rw [List.concat_eq_append, meanN_snoc, trim_idem]
theorem meanN_ok (p : Pl) {l : List (Q × Q)} (h : ∀ z ∈ l, 0 < z.2.2) : PQ (meanN p l) ∧ ∀ k, cv (meanN p l) k = sumL l fun z => ((way p (0, 0) z.1 * pcf z.1 k : Int) : Rat) * val z.2 := by
  have key : ∀ (l : List (Q × Q)) (m : List Q), (∀ z ∈ l, 0 < z.2.2) → PQ m → PQ (l.foldl (fun m z => PD.trim (sumQ m (PD.trim ((oddsQ p z.1).map fun q => qmul q z.2)))) m) ∧ ∀ k, cv (l.foldl (fun m z => PD.trim (sumQ m (PD.trim ((oddsQ p z.1).map fun q => qmul q z.2)))) m) k = cv m k + sumL l fun z => ((way p (0, 0) z.1 * pcf z.1 k : Int) : Rat) * val z.2 := by
    intro l
    induction l with
    | nil =>
      intro m _ hm
      exact ⟨hm, fun k => by show cv m k = cv m k + 0; grind⟩
    | cons z l ih =>
      intro m hl hm
      obtain ⟨o1, o2⟩ := oddsQ_pq p z.1
      obtain ⟨s1, s2⟩ := cv_scale o1 (hl z List.mem_cons_self)
      obtain ⟨t1, t2⟩ := cv_sum hm s1.trim
      obtain ⟨r1, r2⟩ := ih _ (fun y hy => hl y (List.mem_cons_of_mem _ hy)) t1.trim
      rw [List.foldl_cons]
      refine ⟨r1, fun k => ?_⟩
      rw [r2, cv_trim, t2, cv_trim, s2, o2]
      show _ = cv m k + (((way p (0, 0) z.1 * pcf z.1 k : Int) : Rat) * val z.2 + sumL l fun z => ((way p (0, 0) z.1 * pcf z.1 k : Int) : Rat) * val z.2)
      grind
  obtain ⟨r1, r2⟩ := key l [] h (fun q hq => nomatch hq)
  refine ⟨r1, fun k => ?_⟩
  have := r2 k
  have z : cv ([] : List Q) k = 0 := val_01
  rw [z] at this
  unfold meanN
  rw [this]
  grind
theorem trim_le {xs : List Q} (hp : PQ xs) (ht : PD.trim xs = xs) {n : Nat} (h : ∀ k, n ≤ k → cv xs k = 0) : xs.length ≤ n := by
  cases q : xs.length with
  | zero => omega
  | succ k =>
    rcases Nat.lt_or_ge k n with z | z
    · omega
    · exact absurd (h k z) (trim_last hp ht q)
/-- numbers told at the ends: times the ways their values lie over one bottom -/
structure Nums (p : Pl) (ns : List Q) (un : Q × Q → Int) (B : Int) : Prop where
  ok : PlanOK p
  len : ns.length = (endsQ p).length
  pos : 0 < B
  bd : Bd 100 B
  at_ : ∀ z ∈ (endsQ p).zip ns, lowest z.2 ∧ FB 100 z.2 ∧ (way p (0, 0) z.1 : Rat) * val z.2 = (un z : Rat) / (B : Rat) ∧ Bd 130 (un z)
abbrev zipE (p : Pl) (ns : List Q) : List (Q × Q) := (endsQ p).zip ns
theorem Nums.cv_ {p : Pl} {ns : List Q} {un : Q × Q → Int} {B : Int} (h : Nums p ns un B) {l : List (Q × Q)} (hl : ∀ z ∈ l, z ∈ zipE p ns) (k : Nat) : cv (meanN p l) k = ((sumZ l fun z => un z * pcf z.1 k : Int) : Rat) / (B : Rat) := by
  rw [(meanN_ok p fun z hz => (h.at_ z (hl z hz)).2.1.1).2 k, sumZ_cast]
  have hB := cast_ne (Int.ne_of_gt h.pos)
  have e : sumL l (fun z => ((way p (0, 0) z.1 * pcf z.1 k : Int) : Rat) * val z.2) = sumL l fun z => (1 / (B : Rat)) * ((un z * pcf z.1 k : Int) : Rat) := by
    refine sumL_congr fun z hz => ?_
    have e1 := (h.at_ z (hl z hz)).2.2.1
    push_cast
    have e2 : (way p (0, 0) z.1 : Rat) * (pcf z.1 k : Rat) * val z.2 = ((way p (0, 0) z.1 : Rat) * val z.2) * (pcf z.1 k : Rat) := by grind
    rw [e2, e1]
    grind
  rw [e, sumL_mul]
  grind
theorem Nums.fb {p : Pl} {ns : List Q} {un : Q × Q → Int} {B : Int} (h : Nums p ns un B) {l : List (Q × Q)} (hl : ∀ z ∈ l, z ∈ zipE p ns) (hn : l.length ≤ 1024) : PQ (meanN p l) ∧ (meanN p l).length ≤ 25 ∧ ∀ q ∈ meanN p l, FB 250 q := by
  have h24 := h.ok.len
  have hp := (meanN_ok p fun z hz => (h.at_ z (hl z hz)).2.1.1).1
  refine ⟨hp, trim_le hp (meanN_trim p l) fun k hk => ?_, fb_all (c := fun k => sumZ l fun z => un z * pcf z.1 k) hp h.pos (h.bd.mono (by decide)) (fun k => ?_) (h.cv_ hl)⟩
  · rw [(meanN_ok p fun z hz => (h.at_ z (hl z hz)).2.1.1).2 k]
    refine sumL_zero fun z hz => ?_
    obtain ⟨n, q⟩ := end_nn h.ok ((List.of_mem_zip (hl z hz)).1)
    rw [pcf_out n (by omega), Int.mul_zero]
    have : ((0 : Int) : Rat) = 0 := by norm_cast
    rw [this]
    grind
  · refine (sumZ_bd (n := 240) (m := 10) (fun z hz => ?_) hn)
    obtain ⟨n, q⟩ := end_nn h.ok ((List.of_mem_zip (hl z hz)).1)
    exact ((h.at_ z (hl z hz)).2.2.2.mul (pcf_bd n (by omega) k)).mono (by decide)
theorem sumZ_zip {α β : Type} (f : α → Int) : ∀ (xs : List α) (ys : List β), ys.length = xs.length → sumZ (xs.zip ys) (fun z => f z.1) = sumZ xs f
  | [], _, _ => rfl
  | x :: xs, [], h => by cases h
  | x :: xs, y :: ys, h => by
    show f x + sumZ (xs.zip ys) (fun z => f z.1) = f x + sumZ xs f
    rw [sumZ_zip f xs ys (by simpa using h)]
theorem sumZ_congr {α : Type} {f g : α → Int} : ∀ {l : List α}, (∀ x ∈ l, f x = g x) → sumZ l f = sumZ l g
  | [], _ => rfl
  | x :: l, h => by
    show f x + sumZ l f = g x + sumZ l g
    rw [h x List.mem_cons_self, sumZ_congr fun y hy => h y (List.mem_cons_of_mem _ hy)]
theorem zcat_cf (a : List Int) (n : Nat) (k : Nat) : (a ++ (rngT 0 n).map fun _ => (0 : Int)).getD k 0 = cf a k := by
  unfold cf
  rw [List.getD_eq_getElem?_getD, List.getD_eq_getElem?_getD]
  rcases Nat.lt_or_ge k a.length with q | q
  · rw [List.getElem?_append_left q]
  · rw [List.getElem?_append_right q, zeros_eq, List.getElem?_replicate, List.getElem?_eq_none_iff.mpr q]
    split <;> rfl
theorem whole_ok {w : List Int} (h : ∀ k, cf w k = if k = 0 then 1 else 0) : 0 < w.length ∧ w.getD 0 0 = 1 ∧ w.drop 1 = (List.replicate ((w.length : Int) - 1).toNat [(0 : Int)]).flatten := by
  have h0 : 0 < w.length := by
    rcases Nat.eq_zero_or_pos w.length with q | q
    · have := h 0
      rw [cf_out (by omega)] at this
      cases this
    · exact q
  refine ⟨h0, h 0, ?_⟩
  rw [List.flatten_replicate_singleton]
  refine list_cf (by rw [List.length_drop, List.length_replicate]; omega) fun k => ?_
  have e1 : cf (w.drop 1) k = cf w (k + 1) := by
    unfold cf
    rw [List.getD_eq_getElem?_getD, List.getD_eq_getElem?_getD, List.getElem?_drop, Nat.add_comm]
  rw [e1, h, if_neg (by omega)]
  unfold cf
  rw [List.getD_eq_getElem?_getD, List.getElem?_replicate]
  split <;> rfl
theorem map_get' {α β : Type} {xs : List α} {g : α → β} {k : Nat} {x : β} (h : (xs.map g)[k]? = some x) : ∃ r, xs[k]? = some r ∧ x = g r := by
  rw [List.getElem?_map] at h
  cases q : xs[k]? with
  | none => rw [q] at h; cases h
  | some r => rw [q] at h; exact ⟨r, rfl, (Option.some.inj h).symm⟩
/-- a polynomial of fractions that is a whole one -/
theorem poly_eq {xs : List Q} {b : List Int} (hp : PQ xs) (ht : PD.trim xs = xs) (hb : trimZ 0 b = b) (h : ∀ k, cv xs k = (cf b k : Rat)) : xs = b.map nq := by
  have r := poly_rightQ (b := b) hp ht (by decide : (0 : Int) < 1) fun k => by rw [h k, show ((1 : Int) : Rat) = 1 from by norm_cast]; grind
  rw [hb] at r
  refine List.ext_getElem? fun k => ?_
  rw [List.getElem?_map]
  rcases Nat.lt_or_ge k xs.length with q | q
  · have q2 : k < b.length := by omega
    have a1 : xs[k]? = some (xs.getD k (0, 1)) := by
      rw [List.getD_eq_getElem?_getD, List.getElem?_eq_getElem q]; rfl
    have a2 : b[k]? = some (cf b k) := by
      unfold cf
      rw [List.getD_eq_getElem?_getD, List.getElem?_eq_getElem q2]; rfl
    rw [a1, a2]
    refine congrArg some (val_inj (hp.at_ k).2 (show (0 : Int) < 1 by decide) (hp.at_ k).1 (by unfold lowest nq; simp) ?_)
    show cv xs k = val (cf b k, 1)
    rw [h k, val_n1]
  · rw [List.getElem?_eq_none_iff.mpr q, List.getElem?_eq_none_iff.mpr (by omega)]
    rfl
end PD
namespace PD
open PySem PySem.Spec PyProof.Rows L2
variable [TN]
/-! ### the share told at each end -/
def shareQ (p : Pl) (e : Q) : Q := mkF ((dget (waysD p (1, 0)) e).getD 0) (way p (0, 0) e)
def sharesQ (p : Pl) : List Q := (endsQ p).map (shareQ p)
theorem way10 {p : Pl} {e : Q} (h : PlanOK p) (he : e ∈ endsQ p) : (dget (waysD p (1, 0)) e).getD 0 = way p (1, 0) e := ways_getD h ⟨by decide, by decide⟩ (by decide) (end_nn h he).1
theorem way_pos {p : Pl} {e : Q} (h : PlanOK p) (he : e ∈ endsQ p) : 0 < way p (0, 0) e := by
  have h1 := end_way h he
  have h2 := way_nn p (0, 0) (lv e).toNat e
  unfold way at *
  omega
theorem share_ok {p : Pl} {e : Q} (h : PlanOK p) (he : e ∈ endsQ p) : lowest (shareQ p e) ∧ FB 28 (shareQ p e) ∧ val (shareQ p e) = (way p (1, 0) e : Rat) / (way p (0, 0) e : Rat) ∧ (way p (0, 0) e : Rat) * val (shareQ p e) = (way p (1, 0) e : Rat) := by
  have hw := way_pos h he
  have hn := end_nn h he
  have h24 := h.len
  have hne : way p (0, 0) e ≠ 0 := by omega
  have b1 : Bd 28 (way p (0, 0) e) := way_bd (by omega)
  have b2 : Bd 28 (way p (1, 0) e) := way_bd (by omega)
  unfold shareQ
  rw [way10 h he]
  have v := val_mkF (t := way p (1, 0) e) hne
  refine ⟨mkF_low hne, mkF_FB hne b2 b1, v, ?_⟩
  rw [v]
  have := cast_ne hne
  grind
/-- the ways times a share's top, over its bottom, are those that begin with a bad one -/
theorem share_int {p : Pl} {e : Q} (h : PlanOK p) (he : e ∈ endsQ p) : way p (0, 0) e * (shareQ p e).1 = way p (1, 0) e * (shareQ p e).2 := by
  have hw := way_pos h he
  unfold shareQ
  rw [way10 h he]
  have := mkF_eq (t := way p (1, 0) e) (b := way p (0, 0) e) (by omega)
  rw [Int.mul_comm]
  exact this
theorem share_div {p : Pl} {e : Q} (h : PlanOK p) (he : e ∈ endsQ p) : way p (0, 0) e * (shareQ p e).1 % (shareQ p e).2 = 0 ∧ way p (0, 0) e * (shareQ p e).1 / (shareQ p e).2 = way p (1, 0) e := by
  have hp := (share_ok h he).2.1.1
  rw [share_int h he]
  exact ⟨Int.mul_emod_left _ _, Int.mul_ediv_cancel _ (by omega)⟩
theorem zip_map {α β : Type} (g : α → β) : ∀ xs : List α, ∀ z ∈ xs.zip (xs.map g), z.2 = g z.1 ∧ z.1 ∈ xs
  | [], z, h => nomatch h
  | x :: xs, z, h => by
    rcases List.mem_cons.mp h with q | q
    · subst q
      exact ⟨rfl, List.mem_cons_self⟩
    · have := zip_map g xs z q
      exact ⟨this.1, List.mem_cons_of_mem _ this.2⟩
theorem shares_nums {p : Pl} (h : PlanOK p) : Nums p (sharesQ p) (fun z => way p (1, 0) z.1) 1 := by
  refine ⟨h, by unfold sharesQ; rw [List.length_map], by decide, by unfold Bd; decide +kernel, fun z hz => ?_⟩
  obtain ⟨q1, q2⟩ := zip_map (shareQ p) (endsQ p) z hz
  obtain ⟨s1, s2, s3, s4⟩ := share_ok h q2
  have hn := end_nn h q2
  have h24 := h.len
  rw [q1]
  refine ⟨s1, s2.mono (by decide), ?_, (way_bd (by omega)).mono (by decide)⟩
  rw [s4, show ((1 : Int) : Rat) = 1 from by norm_cast]
  grind
/-- the mean of the share told is x -/
theorem share_mean {p : Pl} (h : PlanOK p) : meanN p (zipE p (sharesQ p)) = [(0, 1), (1, 1)] := by
  have hN := shares_nums h
  refine poly_eq (b := [0, 1]) (hN.fb (fun z hz => hz) ?_).1 (meanN_trim p _) rfl fun k => ?_
  · unfold zipE
    rw [List.length_zip, hN.len]
    exact Nat.le_trans (Nat.min_le_left _ _) (Nat.le_trans (endsIn h).le (by decide))
  · rw [hN.cv_ (fun z hz => hz) k]
    have e : sumZ (zipE p (sharesQ p)) (fun z => way p (1, 0) z.1 * pcf z.1 k) = cf [0, 1] k := by
      unfold zipE
      rw [sumZ_zip (fun e => way p (1, 0) e * pcf e k) _ _ hN.len, flow_poly h (.inr rfl) k, pcf_10]
      match k with
      | 0 => rfl
      | 1 => rfl
      | k + 2 => rfl
    rw [e, show ((1 : Int) : Rat) = 1 from by norm_cast]
    grind
end PD
namespace PD
open PySem PySem.Spec PyProof.Rows L2
variable [TN]
/-! ### lots: falling products flow -/
def lotR (s b : Int) (c : Q) : Rat := ((fallN b c.1.toNat * fallN (s - b) c.2.toNat : Int) : Rat) / ((fallN s (c.1 + c.2).toNat : Int) : Rat)
theorem fallN_succ (n : Int) (k : Nat) : fallN n (k + 1) = fallN n k * (n - k) := rfl
theorem lotR_add {p : Pl} {s b : Int} (h : LotOK p s b) {c : Q} (g : goesOn p c = true) : lotR s b c = lotR s b (kidB c) + lotR s b (kidG c) := by
  obtain ⟨n, l⟩ := goesOn_nn g
  have hl := h.lo
  unfold nn at n
  obtain ⟨x, y⟩ := c
  dsimp only at n l
  obtain ⟨x, rfl⟩ := Int.eq_ofNat_of_zero_le n.1
  obtain ⟨y, rfl⟩ := Int.eq_ofNat_of_zero_le n.2
  have e0 : ((x : Int) + y).toNat = x + y := by omega
  have e1 : ((x : Int) + 1).toNat = x + 1 := by omega
  have e2 : ((y : Int) + 1).toNat = y + 1 := by omega
  have e3 : ((x : Int) + 1 + y).toNat = x + y + 1 := by omega
  have e4 : ((x : Int) + (y + 1)).toNat = x + y + 1 := by omega
  have p0 : 0 < fallN s (x + y) := fallN_pos _ (by omega)
  have p1 : (0 : Int) < s - ((x + y : Nat) : Int) := by omega
  unfold lotR kidB kidG
  dsimp only
  rw [e0, e1, e2, e3, e4]
  rw [show ((x : Int)).toNat = x from rfl, show ((y : Int)).toNat = y from rfl]
  rw [fallN_succ, fallN_succ, fallN_succ]
  have q0 := cast_ne (Int.ne_of_gt p0)
  have q1 := cast_ne (Int.ne_of_gt p1)
  generalize fallN s (x + y) = F at *
  generalize fallN b x = A
  generalize fallN (s - b) y = C
  push_cast at *
  have q2 : ((s : Rat) - ((x : Rat) + (y : Rat))) ≠ 0 := by
    intro z
    apply q1
    push_cast
    exact z
  have : (F : Rat) * ((s : Rat) - ((x : Rat) + (y : Rat))) ≠ 0 := by
    intro z
    rcases Rat.mul_eq_zero.mp z with z | z
    · exact q0 z
    · exact q2 z
  grind
theorem lotR_00 (s b : Int) : lotR s b (0, 0) = 1 := by
  show ((1 * 1 : Int) : Rat) / ((1 : Int) : Rat) = 1
  decide +kernel
theorem lotR_10 {s b : Int} : lotR s b (1, 0) = (b : Rat) / (s : Rat) := by
  unfold lotR
  show ((1 * (b - (0 : Nat)) * 1 : Int) : Rat) / ((1 * (s - (0 : Nat)) : Int) : Rat) = _
  push_cast
  grind
theorem lot_flow {p : Pl} {s b : Int} (h : LotOK p s b) : sumL (endsQ p) (fun e => (way p (0, 0) e : Rat) * lotR s b e) = 1 ∧ sumL (endsQ p) (fun e => (way p (1, 0) e : Rat) * lotR s b e) = (b : Rat) / (s : Rat) := by
  refine ⟨?_, ?_⟩
  · rw [flow h.ok (.inl rfl) (lotR s b) fun c g => lotR_add h g, lotR_00]
  · rw [flow h.ok (.inr rfl) (lotR s b) fun c g => lotR_add h g, lotR_10]
theorem fallN_app (n : Int) (i j : Nat) : fallN n (i + j) = fallN n i * fallN (n - i) j := by
  induction j with
  | zero => show fallN n i = fallN n i * 1; omega
  | succ j ih =>
    show fallN n (i + j) * (n - (i + j : Nat)) = fallN n i * (fallN (n - i) j * (n - i - j))
    rw [ih, Int.mul_assoc]
    congr 2
    omega
/-- an end's part in a lot, over the one bottom of all -/
def lotU (p : Pl) (s b : Int) (c : Q) : Int := fallN b c.1.toNat * fallN (s - b) c.2.toNat * fallN (s - (c.1 + c.2)) (p.length - (c.1 + c.2).toNat)
theorem lotR_over {p : Pl} {s b : Int} (h : LotOK p s b) {e : Q} (he : e ∈ endsQ p) : lotR s b e = (lotU p s b e : Rat) / (fallN s p.length : Rat) ∧ 0 < fallN s p.length ∧ Bd 745 (fallN s p.length) ∧ Bd 2235 (lotU p s b e) := by
  obtain ⟨n, l⟩ := end_nn h.ok he
  have h24 := h.ok.len
  have q1 := h.lo
  have q2 := h.hi
  have q3 := h.b0
  have q4 := h.b1
  unfold nn at n
  unfold lv at l
  have b1 : Bd 30 b := .of (by omega) (by omega)
  have b2 : Bd 30 (s - b) := .of (by omega) (by omega)
  have b3 : Bd 30 s := .of (by omega) (by omega)
  have b4 : Bd 30 (s - (e.1 + e.2)) := .of (by omega) (by omega)
  have hN : 0 < fallN s p.length := fallN_pos _ (by omega)
  have hn : 0 < fallN s (e.1 + e.2).toNat := fallN_pos _ (by omega)
  refine ⟨?_, hN, (fallN_bd b3 _ (by omega)).mono (by omega), ?_⟩
  · have e1 : fallN s p.length = fallN s (e.1 + e.2).toNat * fallN (s - (e.1 + e.2)) (p.length - (e.1 + e.2).toNat) := by
      have := fallN_app s (e.1 + e.2).toNat (p.length - (e.1 + e.2).toNat)
      rw [show (e.1 + e.2).toNat + (p.length - (e.1 + e.2).toNat) = p.length from by omega, show (((e.1 + e.2).toNat : Nat) : Int) = e.1 + e.2 from by omega] at this
      exact this
    unfold lotR lotU
    refine (div_eq_iff' (Int.ne_of_gt hn) (Int.ne_of_gt hN)).mpr ?_
    rw [e1]
    grind
  · unfold lotU
    have f1 := (fallN_bd b1 e.1.toNat (by omega)).mono (show _ ≤ 745 by omega)
    have f2 := (fallN_bd b2 e.2.toNat (by omega)).mono (show _ ≤ 745 by omega)
    have f3 := (fallN_bd b4 (p.length - (e.1 + e.2).toNat) (by omega)).mono (show _ ≤ 745 by omega)
    exact ((f1.mul f2).mul f3).mono (by decide)
theorem lotQ_ok {p : Pl} {s b : Int} (h : LotOK p s b) {e : Q} (he : e ∈ endsQ p) : lowest (lotQ p e s b) ∧ FB 6300 (lotQ p e s b) ∧ val (lotQ p e s b) = (way p (0, 0) e : Rat) * lotR s b e := by
  obtain ⟨_, _, _, _, _, _, _, _, t, bb, pos⟩ := lot_bds h he
  have ne := Int.ne_of_gt pos
  unfold lotQ
  refine ⟨mkF_low ne, mkF_FB ne t (bb.mono (by decide)), ?_⟩
  rw [val_mkF ne]
  unfold lotTop lotBot lotR
  push_cast
  grind
/-! ### the mean of numbers told at the ends, in a lot -/
def lotMean (p : Pl) (s b : Int) (l : List (Q × Q)) : Q := l.foldl (fun m z => qadd m (qmul (lotQ p z.1 s b) z.2)) (0, 1)
theorem lotMean_snoc (p : Pl) (s b : Int) (l : List (Q × Q)) (z : Q × Q) : lotMean p s b (l ++ [z]) = qadd (lotMean p s b l) (qmul (lotQ p z.1 s b) z.2) := by
  unfold lotMean
  rw [List.foldl_append]
  rfl
/-- numbers told at the ends: times the ways their values lie over one bottom -/
structure LNums (p : Pl) (s b : Int) (ns : List Q) (un : Q × Q → Int) (B : Int) : Prop where
  ok : LotOK p s b
  len : ns.length = (endsQ p).length
  pos : 0 < B
  bd : Bd 200 B
  at_ : ∀ z ∈ (endsQ p).zip ns, FB 100 z.2 ∧ (way p (0, 0) z.1 : Rat) * val z.2 = (un z : Rat) / (B : Rat) ∧ Bd 230 (un z)
theorem LNums.val_ {p : Pl} {s b : Int} {ns : List Q} {un : Q × Q → Int} {B : Int} (h : LNums p s b ns un B) : ∀ {l : List (Q × Q)}, (∀ z ∈ l, z ∈ zipE p ns) → 0 < (lotMean p s b l).2 ∧ lowest (lotMean p s b l) ∧ val (lotMean p s b l) = sumL l fun z => (un z : Rat) / (B : Rat) * lotR s b z.1 := by
  have key : ∀ (l : List (Q × Q)) (m : Q), (∀ z ∈ l, z ∈ zipE p ns) → 0 < m.2 → lowest m → 0 < (l.foldl (fun m z => qadd m (qmul (lotQ p z.1 s b) z.2)) m).2 ∧ lowest (l.foldl (fun m z => qadd m (qmul (lotQ p z.1 s b) z.2)) m) ∧ val (l.foldl (fun m z => qadd m (qmul (lotQ p z.1 s b) z.2)) m) = val m + sumL l fun z => (un z : Rat) / (B : Rat) * lotR s b z.1 := by
    intro l
    induction l with
    | nil => intro m _ h0 h1; exact ⟨h0, h1, by show val m = val m + 0; grind⟩
    | cons z l ih =>
      intro m hl h0 h1
      have hz := hl z List.mem_cons_self
      have he := (List.of_mem_zip hz).1
      obtain ⟨a1, a2, a3⟩ := h.at_ z hz
      obtain ⟨o1, o2, o3⟩ := lotQ_ok h.ok he
      have hq : 0 < (qmul (lotQ p z.1 s b) z.2).2 := (qmul_FB o2 a1).1
      have hs : 0 < (qadd m (qmul (lotQ p z.1 s b) z.2)).2 := by
        unfold qadd
        rw [mkF_pos (Int.mul_pos h0 hq)]
        exact mkP_pos (Int.mul_pos h0 hq)
      obtain ⟨r1, r2, r3⟩ := ih (qadd m (qmul (lotQ p z.1 s b) z.2)) (fun y hy => hl y (List.mem_cons_of_mem _ hy)) hs (qadd_low h0 hq)
      rw [List.foldl_cons]
      refine ⟨r1, r2, ?_⟩
      rw [r3, val_add h0 hq, val_mul o2.1 a1.1, o3]
      show _ = val m + ((un z : Rat) / (B : Rat) * lotR s b z.1 + sumL l fun z => (un z : Rat) / (B : Rat) * lotR s b z.1)
      rw [← a2]
      grind
  intro l hl
  obtain ⟨r1, r2, r3⟩ := key l (0, 1) hl (by decide) low_01
  refine ⟨r1, r2, ?_⟩
  unfold lotMean
  rw [r3, val_01]
  grind
theorem LNums.fb {p : Pl} {s b : Int} {ns : List Q} {un : Q × Q → Int} {B : Int} (h : LNums p s b ns un B) {l : List (Q × Q)} (hl : ∀ z ∈ l, z ∈ zipE p ns) (hn : l.length ≤ 1024) : FB 3000 (lotMean p s b l) := by
  obtain ⟨r1, r2, r3⟩ := h.val_ hl
  have hF : 0 < fallN s p.length ∧ Bd 745 (fallN s p.length) := by
    have h24 := h.ok.ok.len
    have q1 := h.ok.lo
    have q2 := h.ok.hi
    exact ⟨fallN_pos _ (by omega), (fallN_bd (.of (by omega) (by omega)) _ (by omega)).mono (by omega)⟩
  refine fb_over (t := sumZ l fun z => un z * lotU p s b z.1) r2 r1 (Int.mul_pos h.pos hF.1) ?_ ((h.bd.mul hF.2).mono (by decide)) ?_
  · refine (sumZ_bd (n := 2465) (m := 10) (fun z hz => ?_) hn).mono (by decide)
    have he := (List.of_mem_zip (hl z hz)).1
    exact ((h.at_ z (hl z hz)).2.2.mul (lotR_over h.ok he).2.2.2).mono (by decide)
  · rw [r3, sumZ_cast]
    have hB := cast_ne (Int.ne_of_gt h.pos)
    have hF2 := cast_ne (Int.ne_of_gt hF.1)
    have e : sumL l (fun z => (un z : Rat) / (B : Rat) * lotR s b z.1) = sumL l fun z => (1 / ((B : Rat) * (fallN s p.length : Rat))) * ((un z * lotU p s b z.1 : Int) : Rat) := by
      refine sumL_congr fun z hz => ?_
      have he := (List.of_mem_zip (hl z hz)).1
      rw [(lotR_over h.ok he).1]
      push_cast
      grind
    rw [e, sumL_mul]
    push_cast
    grind
theorem sumL_zip {α β : Type} (f : α → Rat) : ∀ (xs : List α) (ys : List β), ys.length = xs.length → sumL (xs.zip ys) (fun z => f z.1) = sumL xs f
  | [], _, _ => rfl
  | x :: xs, [], h => by cases h
  | x :: xs, y :: ys, h => by
    show f x + sumL (xs.zip ys) (fun z => f z.1) = f x + sumL xs f
    rw [sumL_zip f xs ys (by simpa using h)]
theorem shares_lnums {p : Pl} {s b : Int} (h : LotOK p s b) : LNums p s b (sharesQ p) (fun z => way p (1, 0) z.1) 1 := by
  have hN := shares_nums h.ok
  exact ⟨h, hN.len, by decide, by unfold Bd; decide +kernel, fun z hz => ⟨(hN.at_ z hz).2.1, (hN.at_ z hz).2.2.1, (hN.at_ z hz).2.2.2.mono (by decide)⟩⟩
theorem share_lot {p : Pl} {s b : Int} (h : LotOK p s b) (h0 : 0 < s) : lotMean p s b (zipE p (sharesQ p)) = mkP b s := by
  have hN := shares_lnums h
  obtain ⟨r1, r2, r3⟩ := hN.val_ fun z hz => hz
  refine val_inj r1 (mkP_pos h0) r2 (mkP_low (by omega)) ?_
  rw [r3, val_mkP h0, ← (lot_flow h).2]
  have e : sumL (zipE p (sharesQ p)) (fun z => (way p (1, 0) z.1 : Rat) / ((1 : Int) : Rat) * lotR s b z.1) = sumL (zipE p (sharesQ p)) fun z => (fun e => (way p (1, 0) e : Rat) * lotR s b e) z.1 := by
    refine sumL_congr fun z _ => ?_
    rw [show ((1 : Int) : Rat) = 1 from by norm_cast]
    grind
  rw [e]
  exact sumL_zip (fun e => (way p (1, 0) e : Rat) * lotR s b e) _ _ hN.len
end PD
namespace PD
open PySem PySem.Spec PyProof.Rows L2
variable [TN]
/-! ### what flows, with springs on the way -/
/-- what comes to a line is what stood on the line ahead, and what begins on it -/
theorem flowG_line {p : Pl} (h : PlanOK p) {b : Q} (r g : Q → Rat) (hr : ∀ c, goesOn p c = true → r c + g c = r (kidB c) + r (kidG c)) (k : Nat) :
    sumL (lineQ ((k : Int) + 1) (nxt (row p k))) (fun c => (way p b c : Rat) * r c) = sumL (lineQ ((k : Int) + 1) (nxt (row p k))) (fun c => if c = b then r c else 0) + sumL (countsR p k) (fun c => (way p b c : Rat) * (r c + g c)) := by
  unfold countsR lineQ
  rw [sumL_map, sumL_map, sumL_map]
  have e1 : sumL (nxt (row p k)) (fun x => (way p b (x, (k : Int) + 1 - x) : Rat) * r (x, (k : Int) + 1 - x)) = sumL (nxt (row p k)) (fun x => ((if (x, (k : Int) + 1 - x) = b then r (x, (k : Int) + 1 - x) else 0) + (if decide (x - 1 ∈ row p k) = true then (way p b (x - 1, (k : Int) + 1 - x) : Rat) * r (x, (k : Int) + 1 - x) else 0)) + (if decide (x ∈ row p k) = true then (way p b (x, (k : Int) + 1 - x - 1) : Rat) * r (x, (k : Int) + 1 - x) else 0)) := by
    refine sumL_congr fun x hx => ?_
    have hin := h.next_in hx
    rw [way_step (c := (x, (k : Int) + 1 - x)) ⟨hin.1, by dsimp only; omega⟩]
    have eB : parB (x, (k : Int) + 1 - x) = (x - 1, (k : Int) + 1 - x) := rfl
    have eG : parG (x, (k : Int) + 1 - x) = (x, (k : Int) + 1 - x - 1) := rfl
    rw [eB, eG, on_B h hin.1 hin.2, on_G h hin.1 hin.2]
    push_cast
    (repeat' split) <;> push_cast <;> grind
  rw [e1, sumL_add, sumL_add, sumL_filter, sumL_filter, filter_next (h.ris k), filter_on (nxt_ris _) (h.ris k) (fun x hx => nxt_mem.mpr (.inl hx)), sumL_map]
  have e2 : sumL (row p k) (fun x => (way p b (x, (k : Int) - x) : Rat) * (r (x, (k : Int) - x) + g (x, (k : Int) - x))) = sumL (row p k) (fun x => (way p b (x + 1 - 1, (k : Int) + 1 - (x + 1)) : Rat) * r (x + 1, (k : Int) + 1 - (x + 1)) + (way p b (x, (k : Int) + 1 - x - 1) : Rat) * r (x, (k : Int) + 1 - x)) := by
    refine sumL_congr fun x hx => ?_
    have hin := h.in_ hx
    have gg : goesOn p (x, (k : Int) - x) = true := by rw [goesOn_row h (by omega) (by omega)]; exact decide_eq_true hx
    have a1 : (x + 1 - 1, (k : Int) + 1 - (x + 1)) = (x, (k : Int) - x) := Prod.ext (by dsimp only; omega) (by dsimp only; omega)
    have a2 : (x, (k : Int) + 1 - x - 1) = (x, (k : Int) - x) := Prod.ext rfl (by dsimp only; omega)
    have a3 : (x + 1, (k : Int) + 1 - (x + 1)) = kidB (x, (k : Int) - x) := Prod.ext rfl (by unfold kidB; dsimp only; omega)
    have a4 : (x, (k : Int) + 1 - x) = kidG (x, (k : Int) - x) := Prod.ext rfl (by unfold kidG; dsimp only; omega)
    rw [a1, a2, a3, a4, hr _ gg]
    grind
  rw [e2, sumL_add]
  grind
/-- all that flows comes to the ends -/
theorem flowG {p : Pl} (h : PlanOK p) {b : Q} (hb : b = (0, 0) ∨ b = (1, 0)) (r g : Q → Rat) (hr : ∀ c, goesOn p c = true → r c + g c = r (kidB c) + r (kidG c)) : sumL (endsQ p) (fun e => (way p b e : Rat) * r e) = r b + sumL (countsN p p.length) (fun c => (way p b c : Rat) * g c) := by
  have key : ∀ k : Nat, sumL (lendN p k) (fun e => (way p b e : Rat) * r e) + sumL (countsR p k) (fun e => (way p b e : Rat) * r e) = (if lv b ≤ k then r b else 0) + sumL (countsN p k) (fun c => (way p b c : Rat) * g c) := by
    intro k
    induction k with
    | zero =>
      have e0 : lendN p 0 = [] := rfl
      have e1 : countsR p 0 = [(0, 0)] := by unfold countsR; rw [h.first]; rfl
      have e2 : countsN p 0 = [] := rfl
      rw [e0, e1, e2]
      show 0 + ((way p b (0, 0) : Rat) * r (0, 0) + 0) = _ + 0
      rcases hb with rfl | rfl
      · have w : way p (0, 0) (0, 0) = 1 := rfl
        have l : lv ((0, 0) : Q) ≤ ((0 : Nat) : Int) := by decide
        rw [w, if_pos l]
        have : ((1 : Int) : Rat) = 1 := by norm_cast
        rw [this]
        grind
      · have w : way p (1, 0) (0, 0) = 0 := rfl
        have l : ¬ lv ((1, 0) : Q) ≤ ((0 : Nat) : Int) := by decide
        rw [w, if_neg l]
        have : ((0 : Int) : Rat) = 0 := by norm_cast
        rw [this]
        grind
    | succ k ih =>
      rw [lendN_succ, sumL_app]
      have e3 : sumL (lineQ ((k : Int) + 1) ((nxt (row p k)).filter fun b => !decide (b ∈ row p (k + 1)))) (fun e => (way p b e : Rat) * r e) + sumL (countsR p (k + 1)) (fun e => (way p b e : Rat) * r e) = sumL (lineQ ((k : Int) + 1) (nxt (row p k))) (fun e => (way p b e : Rat) * r e) := by
        have e4 : countsR p (k + 1) = lineQ ((k : Int) + 1) ((nxt (row p k)).filter fun b => decide (b ∈ row p (k + 1))) := by
          unfold countsR
          rw [filter_on (nxt_ris _) (h.ris _) (fun x hx => h.step k x hx), Int.natCast_add]
          rfl
        rw [e4]
        unfold lineQ
        rw [sumL_map, sumL_map, sumL_map, sumL_parts (fun b => decide (b ∈ row p (k + 1))) _ (nxt (row p k))]
        grind
      have e5 : sumL (lineQ ((k : Int) + 1) (nxt (row p k))) (fun c => if c = b then r c else 0) = if lv b = k + 1 then r b else 0 := by
        by_cases q : lv b = k + 1
        · rw [if_pos q]
          rcases hb with rfl | rfl
          · unfold lv at q
            dsimp only at q
            omega
          · have hk : k = 0 := by
              unfold lv at q
              dsimp only at q
              omega
            subst hk
            rw [h.first]
            show (if ((0 : Int), ((0 : Nat) : Int) + 1 - 0) = (1, 0) then _ else 0) + ((if ((1 : Int), ((0 : Nat) : Int) + 1 - 1) = (1, 0) then r ((1 : Int), ((0 : Nat) : Int) + 1 - 1) else 0) + 0) = _
            rw [if_neg (by decide), if_pos (by decide)]
            show 0 + (r (1, 0) + 0) = _
            grind
        · rw [if_neg q]
          refine sumL_zero fun c hc => ?_
          unfold lineQ at hc
          obtain ⟨x, _, rfl⟩ := List.mem_map.mp hc
          rw [if_neg]
          intro z
          apply q
          rw [← z]
          unfold lv
          dsimp only
          omega
      have := flowG_line h (b := b) r g hr k
      rw [e5] at this
      have e6 : (if lv b ≤ ((k + 1 : Nat) : Int) then r b else 0) = (if lv b ≤ k then r b else 0) + (if lv b = k + 1 then r b else 0) := by
        by_cases q1 : lv b ≤ k
        · rw [if_pos q1, if_pos (by omega), if_neg (by omega)]; grind
        · by_cases q2 : lv b = k + 1
          · rw [if_neg q1, if_pos (by omega), if_pos q2]; grind
          · rw [if_neg q1, if_neg (by omega), if_neg q2]; grind
      have e7 : sumL (countsR p k) (fun c => (way p b c : Rat) * (r c + g c)) = sumL (countsR p k) (fun c => (way p b c : Rat) * r c) + sumL (countsR p k) (fun c => (way p b c : Rat) * g c) := by
        rw [← sumL_add]
        refine sumL_congr fun c _ => ?_
        grind
      rw [e6, countsN_succ, sumL_app]
      rw [e7] at this
      grind
  have hk := key p.length
  have e : countsR p p.length = [] := by unfold countsR; rw [row_out (Nat.le_refl _)]; rfl
  rw [e, lends_eq h] at hk
  have hp := h.pos
  have l : lv b ≤ (p.length : Int) := by
    rcases hb with rfl | rfl
    · show (0 : Int) + 0 ≤ _; omega
    · show (1 : Int) + 0 ≤ _; omega
  rw [if_pos l] at hk
  have : sumL ([] : List Q) (fun e => (way p b e : Rat) * r e) = 0 := rfl
  rw [this] at hk
  grind
end PD
namespace PD
open PySem PySem.Spec PyProof.Rows L2
variable [TN]
/-! ### a law's own sum of shares times numbers -/
def lsStep (m : Q) (z : Q × Q) : Q := mkP (m.1 * z.1.2 * z.2.2 + z.1.1 * z.2.1 * m.2) (m.2 * z.1.2 * z.2.2)
def lawSum (l : List (Q × Q)) : Q := l.foldl lsStep (0, 1)
theorem lawSum_snoc (l : List (Q × Q)) (z : Q × Q) : lawSum (l ++ [z]) = lsStep (lawSum l) z := by
  unfold lawSum
  rw [List.foldl_append]
  rfl
theorem lawSum_ok {l : List (Q × Q)} (h : ∀ z ∈ l, 0 < z.1.2 ∧ 0 < z.2.2) : 0 < (lawSum l).2 ∧ lowest (lawSum l) ∧ val (lawSum l) = sumL l fun z => val z.1 * val z.2 := by
  have key : ∀ (l : List (Q × Q)) (m : Q), (∀ z ∈ l, 0 < z.1.2 ∧ 0 < z.2.2) → 0 < m.2 → lowest m → 0 < (l.foldl lsStep m).2 ∧ lowest (l.foldl lsStep m) ∧ val (l.foldl lsStep m) = val m + sumL l fun z => val z.1 * val z.2 := by
    intro l
    induction l with
    | nil => intro m _ h0 h1; exact ⟨h0, h1, by show val m = val m + 0; grind⟩
    | cons z l ih =>
      intro m hl h0 h1
      obtain ⟨a1, a2⟩ := hl z List.mem_cons_self
      have hb : 0 < m.2 * z.1.2 * z.2.2 := Int.mul_pos (Int.mul_pos h0 a1) a2
      obtain ⟨r1, r2, r3⟩ := ih (lsStep m z) (fun y hy => hl y (List.mem_cons_of_mem _ hy)) (mkP_pos hb) (mkP_low (Int.ne_of_gt hb))
      rw [List.foldl_cons]
      refine ⟨r1, r2, ?_⟩
      rw [r3]
      unfold lsStep
      rw [val_mkP hb]
      show _ = val m + (val z.1 * val z.2 + sumL l fun z => val z.1 * val z.2)
      have c0 := cast_ne (Int.ne_of_gt h0)
      have c1 := cast_ne (Int.ne_of_gt a1)
      have c2 := cast_ne (Int.ne_of_gt a2)
      unfold val
      push_cast
      have cc : (m.2 : Rat) * (z.1.2 : Rat) * (z.2.2 : Rat) ≠ 0 := by
        intro q
        rcases Rat.mul_eq_zero.mp q with q | q
        · rcases Rat.mul_eq_zero.mp q with q | q
          · exact c0 q
          · exact c1 q
        · exact c2 q
      grind
  obtain ⟨r1, r2, r3⟩ := key l (0, 1) h (by decide) low_01
  refine ⟨r1, r2, ?_⟩
  unfold lawSum
  rw [r3, val_01]
  grind
/-- of parts whose products lie over one bottom: the sizes of the sum -/
theorem lawSum_fb {l : List (Q × Q)} {u : Q × Q → Int} {W : Int} (h : ∀ z ∈ l, 0 < z.1.2 ∧ 0 < z.2.2) (hW : 0 < W) (bW : Bd 3000 W) (hu : ∀ z ∈ l, val z.1 * val z.2 = (u z : Rat) / (W : Rat) ∧ Bd 2900 (u z)) (hn : l.length ≤ 1024) : FB 3000 (lawSum l) := by
  obtain ⟨r1, r2, r3⟩ := lawSum_ok h
  refine fb_over (t := sumZ l u) r2 r1 hW ((sumZ_bd (n := 2900) (m := 10) (fun z hz => (hu z hz).2) hn).mono (by decide)) bW ?_
  rw [r3, sumZ_cast]
  have hB := cast_ne (Int.ne_of_gt hW)
  have e : sumL l (fun z => val z.1 * val z.2) = sumL l fun z => (1 / (W : Rat)) * (u z : Rat) := by
    refine sumL_congr fun z hz => ?_
    rw [(hu z hz).1]
    grind
  rw [e, sumL_mul]
  grind
/-- shares and numbers of which a law's sum keeps its sizes -/
structure LSum (l : List (Q × Q)) : Prop where
  len : l.length ≤ 1024
  sh : ∀ z ∈ l, FB 3500 z.1
  nu : ∀ z ∈ l, FB 100 z.2
  ex : ∃ (u : Q × Q → Int) (W : Int), 0 < W ∧ Bd 3000 W ∧ ∀ z ∈ l, val z.1 * val z.2 = (u z : Rat) / (W : Rat) ∧ Bd 2900 (u z)
theorem LSum.fb {l : List (Q × Q)} (h : LSum l) (i : Nat) : FB 3000 (lawSum (l.take i)) := by
  obtain ⟨u, W, h1, h2, h3⟩ := h.ex
  exact lawSum_fb (fun z hz => ⟨(h.sh z (List.mem_of_mem_take hz)).1, (h.nu z (List.mem_of_mem_take hz)).1⟩) h1 h2 (fun z hz => h3 z (List.mem_of_mem_take hz)) (by rw [List.length_take]; have := h.len; omega)
theorem LSum.ok {l : List (Q × Q)} (h : LSum l) : 0 < (lawSum l).2 ∧ lowest (lawSum l) ∧ val (lawSum l) = sumL l fun z => val z.1 * val z.2 := lawSum_ok fun z hz => ⟨(h.sh z hz).1, (h.nu z hz).1⟩
/-! the odds of all ends in a lot, by numbers -/
def lotOddsL (p : Pl) (s b : Int) : List Q := (endsQ p).map fun e => lotQ p e s b
theorem zip_maps {α β γ : Type} (f : α → β) (xs : List α) (ys : List γ) (d : α → γ → Prop) (h : ∀ z ∈ xs.zip ys, d z.1 z.2) : ∀ z ∈ (xs.map f).zip ys, ∃ x, x ∈ xs ∧ z.1 = f x ∧ d x z.2 := by
  intro z hz
  rw [List.zip_map_left] at hz
  obtain ⟨y, hy, rfl⟩ := List.mem_map.mp hz
  exact ⟨y.1, (List.of_mem_zip hy).1, rfl, h y hy⟩
theorem lotQ_fb {p : Pl} {s b : Int} (h : LotOK p s b) {e : Q} (he : e ∈ endsQ p) : FB 2300 (lotQ p e s b) := by
  obtain ⟨o1, o2, o3⟩ := lotQ_ok h he
  obtain ⟨r1, r2, r3, r4⟩ := lotR_over h he
  have n := end_nn h.ok he
  have h24 := h.ok.len
  refine fb_over (t := way p (0, 0) e * lotU p s b e) o1 o2.1 r2 (((way_bd (by omega)).mul r4).mono (by decide)) (r3.mono (by decide)) ?_
  rw [o3, r1]
  push_cast
  grind
theorem LNums.lsum {p : Pl} {s b : Int} {ns : List Q} {un : Q × Q → Int} {B : Int} (h : LNums p s b ns un B) : LSum ((lotOddsL p s b).zip ns) ∧ lawSum ((lotOddsL p s b).zip ns) = lotMean p s b (zipE p ns) := by
  have hF : 0 < fallN s p.length ∧ Bd 745 (fallN s p.length) := by
    have h24 := h.ok.ok.len
    have q1 := h.ok.lo
    have q2 := h.ok.hi
    exact ⟨fallN_pos _ (by omega), (fallN_bd (.of (by omega) (by omega)) _ (by omega)).mono (by omega)⟩
  have hle := (endsIn h.ok.ok).le
  have at2 : ∀ z ∈ (endsQ p).zip ns, FB 100 z.2 ∧ val (lotQ p z.1 s b) * val z.2 = ((un z * lotU p s b z.1 : Int) : Rat) / ((B * fallN s p.length : Int) : Rat) ∧ Bd 2900 (un z * lotU p s b z.1) := by
    intro z hz
    have he := (List.of_mem_zip hz).1
    obtain ⟨a1, a2, a3⟩ := h.at_ z hz
    obtain ⟨r1, r2, r3, r4⟩ := lotR_over h.ok he
    refine ⟨a1, ?_, (a3.mul r4).mono (by decide)⟩
    rw [(lotQ_ok h.ok he).2.2, r1]
    have e : (way p (0, 0) z.1 : Rat) * ((lotU p s b z.1 : Rat) / (fallN s p.length : Rat)) * val z.2 = ((way p (0, 0) z.1 : Rat) * val z.2) * ((lotU p s b z.1 : Rat) / (fallN s p.length : Rat)) := by grind
    rw [e, a2]
    have c1 := cast_ne (Int.ne_of_gt h.pos)
    have c2 := cast_ne (Int.ne_of_gt hF.1)
    push_cast
    grind
  have hz : (lotOddsL p s b).zip ns = (zipE p ns).map fun z => (lotQ p z.1 s b, z.2) := by
    unfold lotOddsL zipE
    rw [List.zip_map_left]
    rfl
  have hs : LSum ((lotOddsL p s b).zip ns) := by
    refine ⟨?_, fun z h1 => ?_, fun z h1 => ?_, ?_⟩
    · rw [List.length_zip]
      unfold lotOddsL
      rw [List.length_map]
      omega
    · rw [hz] at h1
      obtain ⟨y, hy, rfl⟩ := List.mem_map.mp h1
      exact (lotQ_fb h.ok (List.of_mem_zip hy).1).mono (by decide)
    · rw [hz] at h1
      obtain ⟨y, hy, rfl⟩ := List.mem_map.mp h1
      exact (at2 y hy).1
    · refine ⟨fun z => (val z.1 * val z.2 * ((B * fallN s p.length : Int) : Rat)).num, B * fallN s p.length, Int.mul_pos h.pos hF.1, (h.bd.mul hF.2).mono (by decide), fun z h1 => ?_⟩
      rw [hz] at h1
      obtain ⟨y, hy, rfl⟩ := List.mem_map.mp h1
      obtain ⟨_, a2, a3⟩ := at2 y hy
      dsimp only
      have c : ((B * fallN s p.length : Int) : Rat) ≠ 0 := cast_ne (Int.ne_of_gt (Int.mul_pos h.pos hF.1))
      have e : val (lotQ p y.1 s b) * val y.2 * ((B * fallN s p.length : Int) : Rat) = ((un y * lotU p s b y.1 : Int) : Rat) := by
        rw [a2]
        grind
      rw [e, Rat.num_intCast]
      exact ⟨a2, a3⟩
  refine ⟨hs, ?_⟩
  obtain ⟨l1, l2, l3⟩ := hs.ok
  obtain ⟨m1, m2, m3⟩ := h.val_ fun z hz => hz
  refine val_inj l1 m1 l2 m2 ?_
  rw [l3, m3, hz, sumL_map]
  refine sumL_congr fun z hz2 => ?_
  have he := (List.of_mem_zip hz2).1
  obtain ⟨a1, a2, a3⟩ := h.at_ z hz2
  dsimp only
  rw [(lotQ_ok h.ok he).2.2, ← a2]
  grind
/-! the counts at which one draws on, in a lot -/
def comeQ (p : Pl) (s b : Int) (c : Q) : Q × Q := ((way p (0, 0) c * fallN b c.1.toNat * fallN (s - b) c.2.toNat, fallN s (c.1 + c.2).toNat), (b - c.1, s - (c.1 + c.2)))
theorem lotR_kidB {p : Pl} {s b : Int} (h : LotOK p s b) {c : Q} (g : goesOn p c = true) : lotR s b (kidB c) = lotR s b c * (((b - c.1 : Int) : Rat) / ((s - (c.1 + c.2) : Int) : Rat)) := by
  obtain ⟨n, l⟩ := goesOn_nn g
  have hl := h.lo
  unfold nn at n
  obtain ⟨x, y⟩ := c
  dsimp only at n l
  obtain ⟨x, rfl⟩ := Int.eq_ofNat_of_zero_le n.1
  obtain ⟨y, rfl⟩ := Int.eq_ofNat_of_zero_le n.2
  have e0 : ((x : Int) + y).toNat = x + y := by omega
  have e1 : ((x : Int) + 1).toNat = x + 1 := by omega
  have e3 : ((x : Int) + 1 + y).toNat = x + y + 1 := by omega
  have p0 : 0 < fallN s (x + y) := fallN_pos _ (by omega)
  have p1 : (0 : Int) < s - ((x : Int) + (y : Int)) := by omega
  unfold lotR kidB
  dsimp only
  rw [e0, e1, e3]
  rw [show ((x : Int)).toNat = x from rfl, show ((y : Int)).toNat = y from rfl]
  rw [fallN_succ, fallN_succ]
  have q0 := cast_ne (Int.ne_of_gt p0)
  have q1 := cast_ne (Int.ne_of_gt p1)
  generalize fallN s (x + y) = F at *
  generalize fallN b x = A
  generalize fallN (s - b) y = C
  push_cast at *
  have : (F : Rat) * ((s : Rat) - ((x : Rat) + (y : Rat))) ≠ 0 := by
    intro z
    rcases Rat.mul_eq_zero.mp z with z | z
    · exact q0 z
    · exact q1 z
  grind
theorem come_ok {p : Pl} {s b : Int} (h : LotOK p s b) {c : Q} (g : goesOn p c = true) : FB 3000 (comeQ p s b c).1 ∧ FB 30 (comeQ p s b c).2 ∧ val (comeQ p s b c).1 = (way p (0, 0) c : Rat) * lotR s b c ∧ val (comeQ p s b c).2 = ((b - c.1 : Int) : Rat) / ((s - (c.1 + c.2) : Int) : Rat) := by
  obtain ⟨n, l⟩ := goesOn_nn g
  have h24 := h.ok.len
  have q1 := h.lo
  have q2 := h.hi
  have q3 := h.b0
  have q4 := h.b1
  have n' := n
  unfold nn at n'
  have b1 : Bd 30 b := .of (by omega) (by omega)
  have b2 : Bd 30 (s - b) := .of (by omega) (by omega)
  have b3 : Bd 30 s := .of (by omega) (by omega)
  have w := way_bd (p := p) (b := (0, 0)) (c := c) (by unfold lv; omega)
  have f1 := (fallN_bd b1 c.1.toNat (by omega)).mono (show _ ≤ 745 by omega)
  have f2 := (fallN_bd b2 c.2.toNat (by omega)).mono (show _ ≤ 745 by omega)
  have f3 := (fallN_bd b3 (c.1 + c.2).toNat (by omega)).mono (show _ ≤ 745 by omega)
  refine ⟨⟨fallN_pos _ (by omega), ((w.mul f1).mul f2).mono (by decide), f3.mono (by decide)⟩, ⟨(show (0 : Int) < s - (c.1 + c.2) by omega), .of (by show _ < b - c.1; omega) (by show b - c.1 < _; omega), .of (by show _ < s - (c.1 + c.2); omega) (by show s - (c.1 + c.2) < _; omega)⟩, ?_, rfl⟩
  unfold comeQ lotR val
  dsimp only
  push_cast
  grind
/-- an on-count's two children lie within the plan's draws: their part over the one bottom -/
theorem lotR_over2 {p : Pl} {s b : Int} (h : LotOK p s b) {c : Q} (n : nn c) (l : c.1 + c.2 ≤ p.length) : lotR s b c = (lotU p s b c : Rat) / (fallN s p.length : Rat) ∧ 0 < fallN s p.length ∧ Bd 745 (fallN s p.length) ∧ Bd 2235 (lotU p s b c) := by
  have h24 := h.ok.len
  have q1 := h.lo
  have q2 := h.hi
  have q3 := h.b0
  have q4 := h.b1
  unfold nn at n
  have b1 : Bd 30 b := .of (by omega) (by omega)
  have b2 : Bd 30 (s - b) := .of (by omega) (by omega)
  have b3 : Bd 30 s := .of (by omega) (by omega)
  have b4 : Bd 30 (s - (c.1 + c.2)) := .of (by omega) (by omega)
  have hN : 0 < fallN s p.length := fallN_pos _ (by omega)
  have hn : 0 < fallN s (c.1 + c.2).toNat := fallN_pos _ (by omega)
  refine ⟨?_, hN, (fallN_bd b3 _ (by omega)).mono (by omega), ?_⟩
  · have e1 : fallN s p.length = fallN s (c.1 + c.2).toNat * fallN (s - (c.1 + c.2)) (p.length - (c.1 + c.2).toNat) := by
      have := fallN_app s (c.1 + c.2).toNat (p.length - (c.1 + c.2).toNat)
      rw [show (c.1 + c.2).toNat + (p.length - (c.1 + c.2).toNat) = p.length from by omega, show (((c.1 + c.2).toNat : Nat) : Int) = c.1 + c.2 from by omega] at this
      exact this
    unfold lotR lotU
    refine (div_eq_iff' (Int.ne_of_gt hn) (Int.ne_of_gt hN)).mpr ?_
    rw [e1]
    grind
  · unfold lotU
    have f1 := (fallN_bd b1 c.1.toNat (by omega)).mono (show _ ≤ 745 by omega)
    have f2 := (fallN_bd b2 c.2.toNat (by omega)).mono (show _ ≤ 745 by omega)
    have f3 := (fallN_bd b4 (p.length - (c.1 + c.2).toNat) (by omega)).mono (show _ ≤ 745 by omega)
    exact ((f1.mul f2).mul f3).mono (by decide)
theorem counts_len {p : Pl} (h : PlanOK p) : ∀ i : Nat, (countsN p i).length ≤ 25 * i
  | 0 => Nat.zero_le _
  | i + 1 => by
    rw [countsN_succ, List.length_append]
    have := counts_len h i
    have h2 : (countsR p i).length ≤ 25 := by
      unfold countsR lineQ
      rw [List.length_map]
      rcases Nat.lt_or_ge i p.length with q | q
      · have h24 := h.len
        have h3 := ris_len (L := i + 1) (h.ris i) fun x hx => by have := h.in_ hx; omega
        omega
      · rw [row_out q]
        exact Nat.zero_le _
    omega
theorem LSum.of_map {α : Type} {xs : List α} {f : α → Q × Q} {u : α → Int} {W : Int} (hl : xs.length ≤ 1024) (h1 : ∀ x ∈ xs, FB 3500 (f x).1 ∧ FB 100 (f x).2) (hW : 0 < W) (bW : Bd 3000 W) (hu : ∀ x ∈ xs, val (f x).1 * val (f x).2 = (u x : Rat) / (W : Rat) ∧ Bd 2900 (u x)) : LSum (xs.map f) := by
  refine ⟨by rw [List.length_map]; exact hl, fun z h => ?_, fun z h => ?_, ?_⟩
  · obtain ⟨y, hy, rfl⟩ := List.mem_map.mp h
    exact (h1 y hy).1
  · obtain ⟨y, hy, rfl⟩ := List.mem_map.mp h
    exact (h1 y hy).2
  · refine ⟨fun z => (val z.1 * val z.2 * (W : Rat)).num, W, hW, bW, fun z h => ?_⟩
    obtain ⟨y, hy, rfl⟩ := List.mem_map.mp h
    obtain ⟨a2, a3⟩ := hu y hy
    have c := cast_ne (Int.ne_of_gt hW)
    have e : val (f y).1 * val (f y).2 * (W : Rat) = (u y : Rat) := by
      rw [a2]
      grind
    dsimp only
    rw [e, Rat.num_intCast]
    exact ⟨a2, a3⟩
def comingL (p : Pl) (s b : Int) : List (Q × Q) := (countsN p p.length).map (comeQ p s b)
theorem coming_one {p : Pl} {s b : Int} (h : LotOK p s b) : LSum ((comingL p s b).map fun q => (q.1, ((1, 1) : Q))) ∧ val (lawSum ((comingL p s b).map fun q => (q.1, ((1, 1) : Q)))) = sumL (countsN p p.length) (fun c => (way p (0, 0) c : Rat) * lotR s b c) := by
  have h24 := h.ok.len
  have hl := counts_len h.ok p.length
  have e : (comingL p s b).map (fun q => (q.1, ((1, 1) : Q))) = (countsN p p.length).map fun c => ((comeQ p s b c).1, ((1, 1) : Q)) := by
    unfold comingL
    rw [List.map_map]
    rfl
  have hF : 0 < fallN s p.length ∧ Bd 745 (fallN s p.length) := by
    have q1 := h.lo
    have q2 := h.hi
    exact ⟨fallN_pos _ (by omega), (fallN_bd (.of (by omega) (by omega)) _ (by omega)).mono (by omega)⟩
  rw [e]
  have hs : LSum ((countsN p p.length).map fun c => ((comeQ p s b c).1, ((1, 1) : Q))) := by
    refine LSum.of_map (u := fun c => way p (0, 0) c * lotU p s b c) (W := fallN s p.length) (by omega) (fun c hc => ?_) hF.1 (hF.2.mono (by decide)) fun c hc => ?_
    · exact ⟨(come_ok h ((countsN_mem h.ok).mp hc).1).1.mono (by decide), FB_11.mono (by decide)⟩
    · have g := ((countsN_mem h.ok).mp hc).1
      obtain ⟨n, l⟩ := goesOn_nn g
      obtain ⟨r1, r2, r3, r4⟩ := lotR_over2 h n (by omega)
      refine ⟨?_, ((way_bd (by unfold lv; omega)).mul r4).mono (by decide)⟩
      dsimp only
      rw [(come_ok h g).2.2.1, val_11, r1]
      push_cast
      grind
  refine ⟨hs, ?_⟩
  rw [hs.ok.2.2, sumL_map]
  refine sumL_congr fun c hc => ?_
  dsimp only
  rw [(come_ok h ((countsN_mem h.ok).mp hc).1).2.2.1, val_11]
  grind
theorem coming_bad {p : Pl} {s b : Int} (h : LotOK p s b) : LSum (comingL p s b) ∧ val (lawSum (comingL p s b)) = sumL (countsN p p.length) (fun c => (way p (0, 0) c : Rat) * lotR s b (kidB c)) := by
  have h24 := h.ok.len
  have hl := counts_len h.ok p.length
  have hF : 0 < fallN s p.length ∧ Bd 745 (fallN s p.length) := by
    have q1 := h.lo
    have q2 := h.hi
    exact ⟨fallN_pos _ (by omega), (fallN_bd (.of (by omega) (by omega)) _ (by omega)).mono (by omega)⟩
  have hv : ∀ c ∈ countsN p p.length, val (comeQ p s b c).1 * val (comeQ p s b c).2 = (way p (0, 0) c : Rat) * lotR s b (kidB c) := fun c hc => by
    have g := ((countsN_mem h.ok).mp hc).1
    rw [(come_ok h g).2.2.1, (come_ok h g).2.2.2, lotR_kidB h g]
    grind
  have hs : LSum (comingL p s b) := by
    unfold comingL
    refine LSum.of_map (u := fun c => way p (0, 0) c * lotU p s b (kidB c)) (W := fallN s p.length) (by omega) (fun c hc => ?_) hF.1 (hF.2.mono (by decide)) fun c hc => ?_
    · have := come_ok h ((countsN_mem h.ok).mp hc).1
      exact ⟨this.1.mono (by decide), this.2.1.mono (by decide)⟩
    · have g := ((countsN_mem h.ok).mp hc).1
      obtain ⟨n, l⟩ := goesOn_nn g
      obtain ⟨r1, r2, r3, r4⟩ := lotR_over2 h (nn_kidB n) (by unfold kidB; dsimp only; omega)
      refine ⟨?_, ((way_bd (by unfold lv; omega)).mul r4).mono (by decide)⟩
      rw [hv c hc, r1]
      push_cast
      grind
  refine ⟨hs, ?_⟩
  rw [hs.ok.2.2]
  unfold comingL
  rw [sumL_map]
  exact sumL_congr hv
/-- numbers made of the ends, with the bottom 1 -/
theorem lnums_int {p : Pl} {s b : Int} (h : LotOK p s b) (f : Q → Int) (hf : ∀ e ∈ endsQ p, Bd 90 (f e)) : LNums p s b ((endsQ p).map fun e => (f e, (1 : Int))) (fun z => way p (0, 0) z.1 * z.2.1) 1 := by
  refine ⟨h, by rw [List.length_map], by decide, by unfold Bd; decide +kernel, fun z hz => ?_⟩
  obtain ⟨q1, q2⟩ := zip_map (fun e => (f e, (1 : Int))) (endsQ p) z hz
  have hn := end_nn h.ok q2
  have h24 := h.ok.len
  rw [q1]
  refine ⟨FB_n1 ((hf _ q2).mono (by decide)) (by decide), ?_, ((way_bd (by omega)).mul (hf _ q2)).mono (by decide)⟩
  rw [val_n1, show ((1 : Int) : Rat) = 1 from by norm_cast]
  push_cast
  grind
theorem lmean_int {p : Pl} {s b : Int} (h : LotOK p s b) (f : Q → Int) (hf : ∀ e ∈ endsQ p, Bd 90 (f e)) : val (lotMean p s b (zipE p ((endsQ p).map fun e => (f e, (1 : Int))))) = sumL (endsQ p) fun e => (way p (0, 0) e : Rat) * ((f e : Rat) * lotR s b e) := by
  have hN := lnums_int h f hf
  rw [(hN.val_ fun z hz => hz).2.2]
  have e : sumL (zipE p ((endsQ p).map fun e => (f e, (1 : Int)))) (fun z => ((way p (0, 0) z.1 * z.2.1 : Int) : Rat) / ((1 : Int) : Rat) * lotR s b z.1) = sumL (zipE p ((endsQ p).map fun e => (f e, (1 : Int)))) fun z => (fun e => (way p (0, 0) e : Rat) * ((f e : Rat) * lotR s b e)) z.1 := by
    refine sumL_congr fun z hz => ?_
    obtain ⟨q1, q2⟩ := zip_map (fun e => (f e, (1 : Int))) (endsQ p) z hz
    rw [q1, show ((1 : Int) : Rat) = 1 from by norm_cast]
    push_cast
    grind
  rw [e]
  exact sumL_zip (fun e => (way p (0, 0) e : Rat) * ((f e : Rat) * lotR s b e)) _ _ hN.len
theorem draws_val {p : Pl} {s b : Int} (h : LotOK p s b) (hf : ∀ e ∈ endsQ p, Bd 90 (e.1 + e.2)) : val (lotMean p s b (zipE p ((endsQ p).map fun e => (e.1 + e.2, (1 : Int))))) = val (lawSum ((comingL p s b).map fun q => (q.1, ((1, 1) : Q)))) := by
  rw [lmean_int h (fun e => e.1 + e.2) hf, (coming_one h).2, flowG h.ok (.inl rfl) (fun c => ((c.1 + c.2 : Int) : Rat) * lotR s b c) (lotR s b) fun c g => ?_]
  · show ((0 + 0 : Int) : Rat) * _ + _ = _
    rw [show ((0 + 0 : Int) : Rat) = 0 from by norm_cast]
    grind
  · have e1 : (kidB c).1 + (kidB c).2 = c.1 + c.2 + 1 := by unfold kidB; dsimp only; omega
    have e2 : (kidG c).1 + (kidG c).2 = c.1 + c.2 + 1 := by unfold kidG; dsimp only; omega
    rw [e1, e2, lotR_add h g]
    push_cast
    grind
theorem bad_val {p : Pl} {s b : Int} (h : LotOK p s b) (hf : ∀ e ∈ endsQ p, Bd 90 e.1) : val (lotMean p s b (zipE p ((endsQ p).map fun e => (e.1, (1 : Int))))) = val (lawSum (comingL p s b)) := by
  rw [lmean_int h (fun e => e.1) hf, (coming_bad h).2, flowG h.ok (.inl rfl) (fun c => ((c.1 : Int) : Rat) * lotR s b c) (fun c => lotR s b (kidB c)) fun c g => ?_]
  · show ((0 : Int) : Rat) * _ + _ = _
    rw [show ((0 : Int) : Rat) = 0 from by norm_cast]
    grind
  · have e1 : (kidB c).1 = c.1 + 1 := rfl
    have e2 : (kidG c).1 = c.1 := rfl
    rw [e1, e2, lotR_add h g]
    push_cast
    grind
end PD
namespace PD
open PySem PySem.Spec PyProof.Rows L2
variable [TN]
/-! ### sums over choices -/
def sN : Nat → (Nat → Int) → Int
  | 0, _ => 0
  | n + 1, f => sN n f + f n
theorem sN_congr {f g : Nat → Int} : ∀ {n : Nat}, (∀ k, k < n → f k = g k) → sN n f = sN n g
  | 0, _ => rfl
  | n + 1, h => by
    show sN n f + f n = sN n g + g n
    rw [sN_congr fun k hk => h k (by omega), h n (by omega)]
theorem sN_shift (f : Nat → Int) : ∀ n : Nat, sN (n + 1) f = f 0 + sN n fun k => f (k + 1)
  | 0 => by show (0 : Int) + f 0 = f 0 + 0; omega
  | n + 1 => by
    show sN (n + 1) f + f (n + 1) = f 0 + (sN n (fun k => f (k + 1)) + f (n + 1))
    rw [sN_shift f n]
    omega
theorem sN_mul (a : Int) (f : Nat → Int) : ∀ n : Nat, sN n (fun k => a * f k) = a * sN n f
  | 0 => by show (0 : Int) = a * 0; omega
  | n + 1 => by
    show sN n (fun k => a * f k) + a * f n = a * (sN n f + f n)
    rw [sN_mul a f n, Int.mul_add]
theorem ch_spread (m : Nat) (f : Nat → Int) : sN (m + 2) (fun j => ch (m + 1) j * f j) = sN (m + 1) fun j => ch m j * (f j + f (j + 1)) := by
  have key : ∀ t : Nat, sN (t + 1) (fun j => ch (m + 1) j * f j) = sN t (fun j => ch m j * (f j + f (j + 1))) + ch m t * f t := by
    intro t
    induction t with
    | zero =>
      show (0 : Int) + ch (m + 1) 0 * f 0 = 0 + ch m 0 * f 0
      rw [ch_zero, ch_zero]
    | succ t ih =>
      show sN (t + 1) (fun j => ch (m + 1) j * f j) + ch (m + 1) (t + 1) * f (t + 1) = sN t (fun j => ch m j * (f j + f (j + 1))) + ch m t * (f t + f (t + 1)) + ch m (t + 1) * f (t + 1)
      rw [ih]
      show _ + (ch m t + ch m (t + 1)) * f (t + 1) = _
      grind
  rw [key (m + 1), ch_big m (m + 1) (by omega)]
  omega
/-- a count's polynomial is that of all counts with so many draws more -/
theorem powI_spread (k : Nat) : ∀ (m b g : Nat), sN (m + 1) (fun j => ch m j * cf (powI (b + j) (g + m - j)) k) = cf (powI b g) k
  | 0, b, g => by
    show (0 : Int) + 1 * cf (powI (b + 0) (g + 0 - 0)) k = _
    rw [Int.zero_add, Int.one_mul]
    rfl
  | m + 1, b, g => by
    rw [ch_spread m fun j => cf (powI (b + j) (g + (m + 1) - j)) k, ← powI_spread k m b g]
    refine sN_congr fun j hj => ?_
    have e := powI_add (b + j) (g + m - j) k
    rw [e, show g + (m + 1) - j = g + m - j + 1 from by omega, show g + (m + 1) - (j + 1) = g + m - j from by omega, show b + (j + 1) = b + j + 1 from by omega]
    grind
theorem ch_absorb : ∀ s b : Nat, ((b : Int) + 1) * ch (s + 1) (b + 1) = ((s : Int) + 1) * ch s b
  | 0, 0 => by decide
  | 0, b + 1 => by
    rw [ch_big 1 (b + 1 + 1) (by omega), ch_big 0 (b + 1) (by omega)]
    omega
  | s + 1, 0 => by
    have h := ch_absorb s 0
    rw [ch_zero] at h
    rw [ch_zero]
    show ((0 : Nat) + 1 : Int) * (ch (s + 1) 0 + ch (s + 1) 1) = _
    rw [ch_zero]
    have : (0 : Nat) + 1 = 1 := rfl
    push_cast at *
    omega
  | s + 1, b + 1 => by
    have h1 := ch_absorb s b
    have h2 := ch_absorb s (b + 1)
    show (((b + 1 : Nat) : Int) + 1) * (ch (s + 1) (b + 1) + ch (s + 1) (b + 1 + 1)) = (((s + 1 : Nat) : Int) + 1) * ch (s + 1) (b + 1)
    have e : ch (s + 1) (b + 1) = ch s b + ch s (b + 1) := rfl
    push_cast at *
    generalize ch (s + 1) (b + 1 + 1) = C at *
    generalize hA : ch (s + 1) (b + 1) = A at *
    generalize ch s b = x at *
    generalize ch s (b + 1) = y at *
    grind
theorem ch_absorb2 (s : Nat) : ∀ b : Nat, ((s : Int) + 1 - b) * ch (s + 1) b = ((s : Int) + 1) * ch s b
  | 0 => by
    rw [ch_zero, ch_zero]
    omega
  | b + 1 => by
    have h1 := ch_absorb s b
    have e : ch (s + 1) (b + 1) = ch s b + ch s (b + 1) := rfl
    push_cast at *
    generalize hA : ch (s + 1) (b + 1) = A at *
    generalize ch s b = x at *
    generalize ch s (b + 1) = y at *
    grind
theorem fallN_front (n : Int) (k : Nat) : fallN n (k + 1) = n * fallN (n - 1) k := by
  rw [show k + 1 = 1 + k from by omega, fallN_app]
  show 1 * (n - (0 : Nat)) * fallN (n - (1 : Nat)) k = _
  rw [Int.one_mul]
  congr 1
  omega
/-- the choices times falling products are fewer choices -/
theorem mixed : ∀ (x y s : Nat) (f : Nat → Int), x + y ≤ s → sN (s + 1) (fun b => ch s b * (fallN b x * fallN ((s : Int) - b) y) * f b) = fallN s (x + y) * sN (s - (x + y) + 1) fun j => ch (s - (x + y)) j * f (x + j)
  | 0, 0, s, f, _ => by
    have e : sN (s + 1) (fun b => ch s b * (fallN b 0 * fallN ((s : Int) - b) 0) * f b) = sN (s + 1) fun j => ch s j * f (0 + j) := sN_congr fun j _ => by
      rw [Nat.zero_add]
      show ch s j * (1 * 1) * f j = _
      grind
    rw [e]
    show _ = 1 * sN (s - 0 + 1) fun j => ch (s - 0) j * f (0 + j)
    rw [Int.one_mul]
    rfl
  | 0, y + 1, 0, f, h => by omega
  | 0, y + 1, s + 1, f, h => by
    have e : ∀ b, b < s + 2 → ch (s + 1) b * (fallN b 0 * fallN (((s + 1 : Nat) : Int) - b) (y + 1)) * f b = ((s : Int) + 1) * (ch s b * (fallN b 0 * fallN ((s : Int) - b) y) * f b) := fun b _ => by
      rw [fallN_front, show (((s + 1 : Nat) : Int) - b - 1) = (s : Int) - b from by omega]
      have := ch_absorb2 s b
      push_cast
      grind
    rw [sN_congr e, sN_mul]
    show _ * (sN (s + 1) (fun b => ch s b * (fallN b 0 * fallN ((s : Int) - b) y) * f b) + ch s (s + 1) * _ * _) = _
    rw [ch_big s (s + 1) (by omega), mixed 0 y s f (by omega), show 0 + (y + 1) = (0 + y) + 1 from by omega, fallN_front, show s + 1 - (0 + y + 1) = s - (0 + y) from by omega, show (((s + 1 : Nat) : Int) - 1) = (s : Int) from by omega]
    push_cast
    grind
  | x + 1, y, 0, f, h => by omega
  | x + 1, y, s + 1, f, h => by
    rw [sN_shift]
    have z : ch (s + 1) 0 * (fallN ((0 : Nat) : Int) (x + 1) * fallN (((s + 1 : Nat) : Int) - (0 : Nat)) y) * f 0 = 0 := by
      rw [fallN_front]
      have : ((0 : Nat) : Int) = 0 := rfl
      rw [this]
      grind
    rw [z, Int.zero_add]
    have e : ∀ b, b < s + 1 → ch (s + 1) (b + 1) * (fallN ((b + 1 : Nat) : Int) (x + 1) * fallN (((s + 1 : Nat) : Int) - ((b + 1 : Nat) : Int)) y) * f (b + 1) = ((s : Int) + 1) * (ch s b * (fallN b x * fallN ((s : Int) - b) y) * (fun b => f (b + 1)) b) := fun b _ => by
      rw [fallN_front, show (((b + 1 : Nat) : Int) - 1) = (b : Int) from by omega, show (((s + 1 : Nat) : Int) - ((b + 1 : Nat) : Int)) = (s : Int) - b from by omega]
      have := ch_absorb s b
      push_cast
      grind
    rw [sN_congr e, sN_mul, mixed x y s (fun b => f (b + 1)) (by omega), show x + 1 + y = (x + y) + 1 from by omega, fallN_front, show s + 1 - (x + y + 1) = s - (x + y) from by omega, show (((s + 1 : Nat) : Int) - 1) = (s : Int) from by omega]
    have e2 : ∀ j, j < s - (x + y) + 1 → ch (s - (x + y)) j * f (x + j + 1) = ch (s - (x + y)) j * f (x + 1 + j) := fun j _ => by rw [show x + j + 1 = x + 1 + j from by omega]
    rw [sN_congr e2]
    push_cast
    grind
/-- lots mixed by the choices are the odds -/
theorem lots_mixed {x y s : Nat} (h : x + y ≤ s) (w : Int) (k : Nat) : sN (s + 1) (fun b => ch s b * (w * fallN b x * fallN ((s : Int) - b) y) * cf (powI b (s - b)) k) = fallN s (x + y) * (w * cf (powI x y) k) := by
  have e : ∀ b, b < s + 1 → ch s b * (w * fallN b x * fallN ((s : Int) - b) y) * cf (powI b (s - b)) k = w * (ch s b * (fallN b x * fallN ((s : Int) - b) y) * (fun b => cf (powI b (s - b)) k) b) := fun b _ => by
    dsimp only
    grind
  rw [sN_congr e, sN_mul, mixed x y s (fun b => cf (powI b (s - b)) k) h]
  have e2 := powI_spread k (s - (x + y)) x y
  have e3 : sN (s - (x + y) + 1) (fun j => ch (s - (x + y)) j * cf (powI (x + j) (s - (x + j))) k) = cf (powI x y) k := by
    rw [← e2]
    refine sN_congr fun j hj => ?_
    rw [show y + (s - (x + y)) - j = s - (x + j) from by omega]
  rw [e3]
  grind
/-! the rows of choices -/
def rowB : Nat → List Int
  | 0 => [1]
  | n + 1 => ((rowB n ++ [0]).zip ([0] ++ rowB n)).map fun q : Int × Int => q.1 + q.2
theorem rowB_len : ∀ n : Nat, (rowB n).length = n + 1
  | 0 => rfl
  | n + 1 => by
    unfold rowB
    simp [rowB_len n]
theorem rowB_get : ∀ (n k : Nat), k ≤ n → (rowB n)[k]? = some (ch n k)
  | 0, 0, _ => by rfl
  | 0, k + 1, h => by omega
  | n + 1, k, h => by
    have hl := rowB_len n
    unfold rowB
    rw [List.getElem?_map, List.getElem?_zip_eq_some (z := (if k ≤ n then ch n k else 0, if 0 < k then ch n (k - 1) else 0)).mpr (show (rowB n ++ [0])[k]? = some (if k ≤ n then ch n k else 0) ∧ ([0] ++ rowB n)[k]? = some (if 0 < k then ch n (k - 1) else 0) from ?_)]
    · show some (_ + _) = _
      congr 1
      dsimp only
      cases k with
      | zero => simp [ch_zero]
      | succ k =>
        have e : ch (n + 1) (k + 1) = ch n k + ch n (k + 1) := rfl
        rw [e, if_pos (Nat.succ_pos k), Nat.add_sub_cancel]
        by_cases h2 : k + 1 ≤ n
        · rw [if_pos h2]
          omega
        · rw [if_neg h2, ch_big n (k + 1) (by omega)]
          omega
    · constructor
      · by_cases h2 : k ≤ n
        · rw [if_pos h2, List.getElem?_append_left (by omega), rowB_get n k h2]
        · rw [if_neg h2, List.getElem?_append_right (by omega), hl, show k - (n + 1) = 0 by omega]
          rfl
      · cases k with
        | zero => rfl
        | succ k =>
          rw [if_pos (Nat.succ_pos k), Nat.add_sub_cancel]
          show (rowB n)[k]? = _
          exact rowB_get n k (by omega)
/-! a fraction's top over a multiple of its bottom -/
theorem mkP_over {t b : Int} (h : 0 < b) : b % (mkP t b).2 = 0 ∧ (mkP t b).1 * (b / (mkP t b).2) = t := by
  have hg := gcd_pos (t := t) (b := b) (by omega)
  have d1 : ((Int.gcd t b : Nat) : Int) ∣ t := Int.gcd_dvd_left ..
  have d2 : ((Int.gcd t b : Nat) : Int) ∣ b := Int.gcd_dvd_right ..
  unfold mkP
  dsimp only
  generalize ((Int.gcd t b : Nat) : Int) = g at *
  obtain ⟨u, rfl⟩ := d1
  obtain ⟨v, rfl⟩ := d2
  have g0 : g ≠ 0 := by omega
  rw [Int.mul_ediv_cancel_left _ g0, Int.mul_ediv_cancel_left _ g0]
  have hv : 0 < v := by
    rcases Int.lt_or_le 0 v with q | q
    · exact q
    · have := Int.mul_nonpos_of_nonneg_of_nonpos (Int.le_of_lt hg) q
      omega
  exact ⟨Int.mul_emod_left _ _, by rw [Int.mul_ediv_cancel _ (by omega), Int.mul_comm]⟩
end PD
namespace PD
open PySem PySem.Spec PyProof.Rows L2
variable [TN]
/-! ### for each number of bad in so many draws, the part that falls to it -/
def partsP (q : Q) : Nat → List Int
  | 0 => [1]
  | n + 1 => ((partsP q n ++ [0]).zip ([0] ++ partsP q n)).map fun z : Int × Int => z.1 * (q.2 - q.1) + z.2 * q.1
theorem partsP_len (q : Q) : ∀ n : Nat, (partsP q n).length = n + 1
  | 0 => rfl
  | n + 1 => by
    unfold partsP
    simp [partsP_len q n]
theorem partsP_bd {q : Q} (h1 : Bd 70 q.1) (h2 : Bd 70 q.2) : ∀ (n : Nat), ∀ x ∈ partsP q n, Bd (72 * n + 1) x
  | 0, x, h => by
    cases List.mem_singleton.mp h
    unfold Bd
    decide
  | n + 1, x, h => by
    unfold partsP at h
    obtain ⟨⟨a, b⟩, hz, rfl⟩ := List.mem_map.mp h
    have hm := List.of_mem_zip hz
    have b0 : Bd (72 * n + 1) 0 := Nat.pow_pos (by decide)
    have ha : Bd (72 * n + 1) a := by
      rcases List.mem_append.mp hm.1 with q | q
      · exact partsP_bd h1 h2 n _ q
      · rw [List.mem_singleton.mp q]; exact b0
    have hb : Bd (72 * n + 1) b := by
      rcases List.mem_append.mp hm.2 with q | q
      · rw [List.mem_singleton.mp q]; exact b0
      · exact partsP_bd h1 h2 n _ q
    have h21 : Bd 71 (q.2 - q.1) := h2.sub h1
    have e1 : Bd (72 * n + 72) (a * (q.2 - q.1)) := (ha.mul h21).mono (by omega)
    have e2 : Bd (72 * n + 72) (b * q.1) := (hb.mul h1).mono (by omega)
    exact (e1.add e2).mono (by omega)
theorem falls_eq (q : Q) (n : Nat) : ((rngT 0 (((partsP q n).length : Int) + 1).toNat).map fun k => ([0] ++ (partsP q n).map fun x => x * q.1).getD k.toNat 0 + (((partsP q n).map fun x => x * (q.2 - q.1)) ++ [0]).getD k.toNat 0) = partsP q (n + 1) := by
  show _ = ((partsP q n ++ [0]).zip ([0] ++ partsP q n)).map fun z : Int × Int => z.1 * (q.2 - q.1) + z.2 * q.1
  generalize partsP q n = l
  rw [show ((l.length : Int) + 1).toNat = l.length + 1 from by omega]
  refine List.ext_getElem? fun i => ?_
  rcases Nat.lt_or_ge i (l.length + 1) with h | h
  · have e1 : (l ++ [0])[i]? = some ((l ++ [0]).getD i 0) := by
      rw [List.getD_eq_getElem?_getD, List.getElem?_eq_getElem (by simpa using h)]
      rfl
    have e2 : ([0] ++ l)[i]? = some (([0] ++ l).getD i 0) := by
      rw [List.getD_eq_getElem?_getD, List.getElem?_eq_getElem (by simp; omega)]
      rfl
    have hr : (rngT 0 (l.length + 1))[i]? = some (i : Int) := by
      have hh : i < (rngT 0 (l.length + 1)).length := by rw [rngT_len]; exact h
      have e := List.getElem?_eq_getElem hh
      rw [e, (rngT_get0 e).1]
    rw [List.getElem?_map, List.getElem?_map, hr, List.getElem?_zip_eq_some (z := ((l ++ [0]).getD i 0, ([0] ++ l).getD i 0)).mpr ⟨e1, e2⟩]
    show some (_ + _) = some (_ + _)
    congr 1
    rw [Int.add_comm]
    congr 1
    · show (l.map (fun x => x * (q.2 - q.1)) ++ [0]).getD i 0 = (l ++ [0]).getD i 0 * (q.2 - q.1)
      have hm : l.map (fun x => x * (q.2 - q.1)) ++ [0] = (l ++ [0]).map fun x => x * (q.2 - q.1) := by
        rw [List.map_append]
        congr 1
        show [(0 : Int)] = [0 * _]
        rw [Int.zero_mul]
      rw [hm, List.getD_eq_getElem?_getD, List.getElem?_map, e1]
      rfl
    · show ([0] ++ l.map fun x => x * q.1).getD i 0 = ([0] ++ l).getD i 0 * q.1
      have hm : ([0] ++ l.map fun x => x * q.1) = ([0] ++ l).map fun x => x * q.1 := by
        rw [List.map_append]
        congr 1
        show [(0 : Int)] = [0 * _]
        rw [Int.zero_mul]
      rw [hm, List.getD_eq_getElem?_getD, List.getElem?_map, e2]
      rfl
  · rw [List.getElem?_eq_none (by rw [List.length_map, rngT_len]; exact h), List.getElem?_eq_none (by simp; omega)]
/-! sums of parts -/
theorem sum_bd {l : List Int} {n m : Nat} (h : ∀ x ∈ l, Bd n x) (hl : l.length ≤ 2 ^ m) : Bd (n + m) l.sum := by
  have e : l.sum = sumZ l fun x => x := by
    clear h hl
    induction l with
    | nil => rfl
    | cons x l ih =>
      rw [List.sum_cons, ih]
      rfl
  rw [e]
  exact sumZ_bd h hl
theorem sum_split (l : List Int) (i : Nat) : (l.drop i).sum = l.sum - (l.take i).sum := by
  have e := congrArg List.sum (List.take_append_drop i l)
  rw [List.sum_append] at e
  omega
theorem take_sum {l : List Int} {i : Nat} (h : i < l.length) : (l.take (i + 1)).sum = (l.take i).sum + l.getD i 0 := by
  have e : l[i]? = some (l.getD i 0) := by
    rw [List.getD_eq_getElem?_getD, List.getElem?_eq_getElem h]
    rfl
  rw [take_succ' e, List.sum_append, List.sum_singleton]
/-! the first that is good -/
theorem find_none {α : Type} {p : α → Bool} {l : List α} (h : ∀ y ∈ l, p y = false) : l.find? p = none :=
  List.find?_eq_none.mpr fun y hy => by rw [h y hy]; exact Bool.false_ne_true
theorem find_first {α : Type} {p : α → Bool} {l : List α} {i : Nat} {x : α} (h : l[i]? = some x) (hp : p x = true) (hn : ∀ y ∈ l.take i, p y = false) : l.find? p = some x := by
  obtain ⟨hi, hx⟩ := List.getElem?_eq_some_iff.mp h
  have e : l = l.take i ++ x :: l.drop (i + 1) := by
    rw [← hx, ← List.drop_eq_getElem_cons hi, List.take_append_drop]
  rw [e, List.find?_append, find_none hn, List.find?_cons, hp]
  rfl
theorem filter_find {α : Type} (p : α → Bool) (l : List α) : (l.filter p).head? = l.find? p := by
  induction l with
  | nil => rfl
  | cons x l ih =>
    rw [List.filter_cons, List.find?_cons]
    cases p x
    · exact ih
    · rfl
/-! two risks, the plan that keeps both -/
structure Risk where
  lo : Q
  lm : Q
  hi : Q
  hm : Q
structure RiskOK (r : Risk) : Prop where
  l1 : 0 < r.lo.1
  l2 : r.lo.1 < r.lo.2
  h1 : 0 < r.hi.1
  h2 : r.hi.1 < r.hi.2
  lt : r.lo.1 * r.hi.2 < r.hi.1 * r.lo.2
  m1 : 0 ≤ r.lm.1
  m2 : r.lm.1 ≤ r.lm.2
  n1 : 0 ≤ r.hm.1
  n2 : r.hm.1 ≤ r.hm.2
  b1 : Bd 70 r.lo.2
  b2 : Bd 70 r.hi.2
  b3 : Bd 70 r.lm.2
  b4 : Bd 70 r.hm.2
def wrongR (r : Risk) (n : Nat) : List Int := partsP r.lo n
def missR (r : Risk) (n : Nat) : List Int := partsP r.hi n
def keepsB (x : Int) (row : List Int) (m : Q) : Bool := decide (x * m.2 ≤ m.1 * row.sum)
def goodB (r : Risk) (n : Nat) (k : Int) : Bool := keepsB ((wrongR r n).drop (k + 1).toNat).sum (wrongR r n) r.lm && keepsB ((missR r n).take (k + 1).toNat).sum (missR r n) r.hm
def firstB (r : Risk) (n : Nat) : Option Int := (rngT 0 (n + 1)).find? (goodB r n)
def leastR (r : Risk) : Nat → Option (Int × Int)
  | 0 => none
  | n + 1 => match leastR r n with
    | some q => some q
    | none => (firstB r (n + 1)).map fun k => (((n + 1 : Nat) : Int), k)
def optD : Option (Int × Int) → D
  | none => .non
  | some q => fr q
theorem leastR_at (r : Risk) {n : Nat} {k : Int} (h : leastR r n = none) (f : firstB r (n + 1) = some k) : leastR r (n + 1) = some (((n + 1 : Nat) : Int), k) := by
  rw [leastR, h, f]
  rfl
theorem leastR_no (r : Risk) {n : Nat} (h : leastR r n = none) (f : firstB r (n + 1) = none) : leastR r (n + 1) = none := by
  rw [leastR, h, f]
  rfl
theorem leastR_mono (r : Risk) {n : Nat} {x : Int × Int} (h : leastR r n = some x) : ∀ k : Nat, leastR r (n + k) = some x
  | 0 => h
  | k + 1 => by
    show leastR r (n + k + 1) = _
    rw [leastR, leastR_mono r h k]
end PD
namespace PD
open PySem PySem.Spec PyProof.Rows L2
variable [TN]
/-! ### the law's own ways of rows of draws whose first is bad -/
def stepF (k : Nat) (D : List (Q × Int)) (c : Q) : List (Q × Int) := if 0 < k then wayStep D c else D
def firstN (p : Pl) : Nat → List (Q × Int)
  | 0 => if goesOn p (1, 0) = true then [((1, 0), 1)] else []
  | i + 1 => (countsR p i).foldl (stepF i) (firstN p i)
def lawFirst (p : Pl) : List (Q × Int) := dput (firstN p p.length) (1, 0) 1
/-- the counts gone through, but (0, 0) -/
def cN1 (p : Pl) : Nat → List Q
  | 0 => []
  | i + 1 => if i = 0 then [] else cN1 p i ++ countsR p i
theorem cN1_mem {p : Pl} (h : PlanOK p) : ∀ {i : Nat} {c : Q}, c ∈ cN1 p i ↔ goesOn p c = true ∧ 0 < lv c ∧ lv c < i
  | 0, c => by
    show c ∈ [] ↔ _
    constructor
    · intro z; cases z
    · intro z; have := z.2; exfalso; omega
  | i + 1, c => by
    have hr : c ∈ countsR p i ↔ goesOn p c = true ∧ lv c = i := by
      have a := countsN_mem h (i := i + 1) (c := c)
      have b := countsN_mem h (i := i) (c := c)
      rw [countsN_succ, List.mem_append] at a
      constructor
      · intro z
        have l : lv c = i := by
          obtain ⟨x, hx, rfl⟩ := List.mem_map.mp z
          unfold lv; dsimp only; omega
        exact ⟨(a.mp (.inr z)).1, l⟩
      · rintro ⟨g, l⟩
        rcases a.mpr ⟨g, by omega⟩ with z | z
        · have := (b.mp z).2; omega
        · exact z
    unfold cN1
    split
    · rename_i z
      subst z
      constructor
      · intro q; cases q
      · intro q; have := q.2; exfalso; omega
    · rename_i z
      rw [List.mem_append, cN1_mem h, hr]
      constructor
      · rintro (⟨g, q⟩ | ⟨g, q⟩)
        · exact ⟨g, by omega⟩
        · exact ⟨g, by omega⟩
      · rintro ⟨g, q1, q2⟩
        by_cases e : lv c = i
        · exact .inr ⟨g, e⟩
        · exact .inl ⟨g, by omega⟩
structure VInv (p : Pl) (S : List Q) (D : List (Q × Int)) : Prop where
  val : ∀ c, (dget D c).getD 0 = (if c = (1, 0) ∧ goesOn p (1, 0) = true then 1 else 0) + (if parB c ∈ S then way p (1, 0) (parB c) else 0) + (if parG c ∈ S then way p (1, 0) (parG c) else 0)
  len : D.length ≤ 1 + 2 * S.length
theorem vinv_start (p : Pl) : VInv p [] (firstN p 0) := by
  have nB : ∀ c : Q, ¬ parB c ∈ ([] : List Q) := fun c z => by cases z
  have nG : ∀ c : Q, ¬ parG c ∈ ([] : List Q) := fun c z => by cases z
  unfold firstN
  split
  · rename_i g
    refine ⟨fun c => ?_, by simp⟩
    rw [if_neg (nB c), if_neg (nG c), dget_cons, dget_nil]
    by_cases e : ((1, 0) : Q) = c
    · rw [if_pos e, if_pos ⟨e.symm, g⟩]; rfl
    · rw [if_neg e, if_neg (fun z => e z.1.symm)]; rfl
  · rename_i g
    refine ⟨fun c => ?_, by simp⟩
    rw [if_neg (nB c), if_neg (nG c), if_neg (show ¬ (c = (1, 0) ∧ goesOn p (1, 0) = true) from fun z => g z.2), dget_nil]
    rfl
theorem vinv_step {p : Pl} {S : List Q} {D : List (Q × Int)} (I : VInv p S D) {c : Q} (hc : (dget D c).getD 0 = way p (1, 0) c) (nc : c ∉ S) (l : 0 < lv c) (n0 : nn c) : VInv p (S ++ [c]) (wayStep D c) := by
  have gA : ∀ j, dget (wayStep D c) j = if j = kidG c then some ((dget D (kidG c)).getD 0 + way p (1, 0) c) else if j = kidB c then some ((dget D (kidB c)).getD 0 + way p (1, 0) c) else dget D j := fun j => by
    unfold wayStep
    rw [hc, dadd_get, dadd_get, dadd_get, if_neg (Ne.symm (kids_ne c))]
  have inC : c ∈ S ++ [c] := List.mem_append_right _ (List.mem_singleton.mpr rfl)
  have inD : ∀ q : Q, q ≠ c → (q ∈ S ++ [c] ↔ q ∈ S) := fun q hq => by
    rw [List.mem_append, List.mem_singleton]
    exact ⟨fun z => z.resolve_right hq, .inl⟩
  refine ⟨fun j => ?_, ?_⟩
  · rw [gA]
    by_cases z1 : j = kidG c
    · subst z1
      rw [if_pos rfl]
      have n1 : parB (kidG c) ≠ c := fun z => kids_ne c (par_inj z).symm
      show (dget D (kidG c)).getD 0 + _ = _
      rw [I.val (kidG c)]
      simp only [inD _ n1, parG_kid, inC, if_true]
      rw [if_neg nc]
      omega
    · rw [if_neg z1]
      have n1 : parG j ≠ c := fun z => z1 (parG_inj z)
      by_cases z2 : j = kidB c
      · subst z2
        rw [if_pos rfl]
        show (dget D (kidB c)).getD 0 + _ = _
        rw [I.val (kidB c)]
        simp only [inD _ n1, parB_kid, inC, if_true]
        rw [if_neg nc]
        omega
      · rw [if_neg z2]
        have n2 : parB j ≠ c := fun z => z2 (par_inj z)
        rw [I.val j]
        simp only [inD _ n1, inD _ n2]
  · unfold wayStep dadd
    refine Nat.le_trans (dput_len _ _ _) ?_
    have := dput_len D (kidB c) ((dget D (kidB c)).getD 0 + (dget D c).getD 0)
    have := I.len
    rw [List.length_append]
    simp only [List.length_singleton]
    omega
theorem way00 (p : Pl) : way p (1, 0) (0, 0) = 0 := rfl
theorem par_val {p : Pl} {S : List Q} {q : Q} (h : q ∈ S ↔ goesOn p q = true ∧ 0 < lv q) : (if q ∈ S then way p (1, 0) q else 0) = if goesOn p q = true then way p (1, 0) q else 0 := by
  by_cases g : goesOn p q = true
  · rw [if_pos g]
    have n := (goesOn_nn g).1
    by_cases l : 0 < lv q
    · rw [if_pos (h.mpr ⟨g, l⟩)]
    · have e : q = (0, 0) := by
        unfold nn at n
        unfold lv at l
        exact Prod.ext (by show q.1 = 0; omega) (by show q.2 = 0; omega)
      rw [e, way00]
      split <;> rfl
  · rw [if_neg g, if_neg (fun z => g (h.mp z).1)]
theorem vinv_here {p : Pl} {S : List Q} {D : List (Q × Int)} (I : VInv p S D) {c : Q} (n : nn c) (h1 : c = (1, 0) → goesOn p (1, 0) = true) (hB : parB c ∈ S ↔ goesOn p (parB c) = true ∧ 0 < lv (parB c)) (hG : parG c ∈ S ↔ goesOn p (parG c) = true ∧ 0 < lv (parG c)) : (dget D c).getD 0 = way p (1, 0) c := by
  rw [I.val c, way_step n, par_val hB, par_val hG]
  congr 2
  by_cases e : c = (1, 0)
  · rw [if_pos e, if_pos ⟨e, h1 e⟩]
  · rw [if_neg e, if_neg (fun z => e z.1)]
theorem vinv_row {p : Pl} (h : PlanOK p) {i : Nat} (hi : 0 < i) : ∀ (t : Nat) (D : List (Q × Int)), VInv p (cN1 p i) D → VInv p (cN1 p i ++ (countsR p i).take t) (((countsR p i).take t).foldl (stepF i) D)
  | 0, D, I => by
    rw [List.take_zero, List.append_nil]
    exact I
  | t + 1, D, I => by
    have ih := vinv_row h hi t D I
    rcases Nat.lt_or_ge t (countsR p i).length with l | l
    · have e : (countsR p i)[t]? = some (countsR p i)[t] := List.getElem?_eq_getElem l
      obtain ⟨g, lvt, nc, all⟩ := row_facts h e
      have inT : ∀ q, q ∈ (countsR p i).take t → lv q = i := fun q hq => by
        obtain ⟨x, hx, rfl⟩ := List.mem_map.mp (List.mem_of_mem_take hq)
        unfold lv; dsimp only; omega
      have sub : ∀ q, q ∈ cN1 p i ++ (countsR p i).take t → q ∈ countsN p i ++ (countsR p i).take t := fun q hq => by
        rcases List.mem_append.mp hq with z | z
        · have := (cN1_mem h).mp z
          exact List.mem_append_left _ ((countsN_mem h).mpr ⟨this.1, this.2.2⟩)
        · exact List.mem_append_right _ z
      have par : ∀ q, lv q = i - 1 → (q ∈ cN1 p i ++ (countsR p i).take t ↔ goesOn p q = true ∧ 0 < lv q) := fun q hq => by
        rw [List.mem_append, cN1_mem h]
        constructor
        · rintro (z | z)
          · exact ⟨z.1, z.2.1⟩
          · have := inT q z; omega
        · rintro ⟨z1, z2⟩
          exact .inl ⟨z1, z2, by omega⟩
      rw [take_succ' e, List.foldl_append, ← List.append_assoc]
      have st : ∀ D', [(countsR p i)[t]].foldl (stepF i) D' = wayStep D' (countsR p i)[t] := fun D' => by
        show stepF i D' _ = _
        unfold stepF
        rw [if_pos hi]
      rw [st]
      exact vinv_step ih (vinv_here ih (goesOn_nn g).1 (fun z => by rw [← z]; exact g) (par _ (by rw [lv_parB]; omega)) (par _ (by rw [lv_parG]; omega))) (fun z => nc (sub _ z)) (by omega) (goesOn_nn g).1
    · rw [List.take_of_length_le (by omega)]
      rw [List.take_of_length_le l] at ih
      exact ih
theorem stepF_zero (D : List (Q × Int)) : ∀ l : List Q, l.foldl (stepF 0) D = D
  | [] => rfl
  | c :: l => by
    rw [List.foldl_cons]
    exact stepF_zero D l
theorem vinv_rows {p : Pl} (h : PlanOK p) : ∀ i : Nat, VInv p (cN1 p i) (firstN p i)
  | 0 => vinv_start p
  | i + 1 => by
    have ih := vinv_rows h i
    by_cases z : i = 0
    · subst z
      show VInv p [] ((countsR p 0).foldl (stepF 0) (firstN p 0))
      rw [stepF_zero]
      exact ih
    · have := vinv_row h (i := i) (by omega) (countsR p i).length _ ih
      rw [List.take_length] at this
      unfold cN1
      rw [if_neg z]
      exact this
theorem lawFirst_get {p : Pl} (h : PlanOK p) {c : Q} (n : nn c) : (dget (lawFirst p) c).getD 0 = way p (1, 0) c := by
  unfold lawFirst
  rw [dget_put]
  by_cases e : c = (1, 0)
  · rw [if_pos e, e, way_step (show nn (1, 0) from ⟨by decide, by decide⟩)]
    have e1 : parB (1, 0) = (0, 0) := rfl
    have e2 : ¬ goesOn p (parG (1, 0)) = true := fun z => by
      have := (goesOn_nn z).1.2
      exact absurd this (by decide)
    rw [if_pos rfl, if_neg e2, e1, way00]
    split <;> rfl
  · rw [if_neg e]
    have I := vinv_rows h p.length
    have mm : ∀ q, q ∈ cN1 p p.length ↔ goesOn p q = true ∧ 0 < lv q := fun q => by
      rw [cN1_mem h]
      exact ⟨fun z => ⟨z.1, z.2.1⟩, fun z => ⟨z.1, z.2, (goesOn_nn z.1).2⟩⟩
    exact vinv_here I n (fun z => absurd z e) (mm _) (mm _)
theorem stepF_len (k : Nat) : ∀ (l : List Q) (D : List (Q × Int)), (l.foldl (stepF k) D).length ≤ D.length + 2 * l.length
  | [], D => Nat.le_refl _
  | c :: l, D => by
    have h1 := stepF_len k l (stepF k D c)
    have h2 : (stepF k D c).length ≤ D.length + 2 := by
      unfold stepF
      split
      · unfold wayStep dadd
        refine Nat.le_trans (dput_len _ _ _) ?_
        have := dput_len D (kidB c) ((dget D (kidB c)).getD 0 + (dget D c).getD 0)
        omega
      · omega
    rw [List.foldl_cons, List.length_cons]
    omega
theorem firstN_len {p : Pl} (h : PlanOK p) : ∀ i : Nat, i ≤ 24 → (firstN p i).length ≤ 1 + 60 * i
  | 0, _ => by
    unfold firstN
    split <;> simp
  | i + 1, hi => by
    have ih := firstN_len h i (by omega)
    have h1 := stepF_len i (countsR p i) (firstN p i)
    have h2 : (countsR p i).length ≤ 30 := by
      unfold countsR
      rw [lineQ_len]
      have := h.row_len i
      omega
    show ((countsR p i).foldl (stepF i) (firstN p i)).length ≤ _
    omega
end PD
namespace PD
open PySem PySem.Spec PyProof.Rows L2
variable [TN]
/-! ### the plan made of counts -/
def comeK (kn : Q → Bool) : Nat → List Int
  | 0 => [0]
  | n + 1 => nxt ((comeK kn n).filter fun b => kn (b, (n : Int) - b))
def rowK (kn : Q → Bool) (n : Nat) : List Int := (comeK kn n).filter fun b => kn (b, (n : Int) - b)
theorem comeK_succ (kn : Q → Bool) (n : Nat) : comeK kn (n + 1) = nxt (rowK kn n) := rfl
theorem nxt_nil : nxt [] = [] := rfl
theorem rowK_next {kn : Q → Bool} {n : Nat} (h : rowK kn n = []) : comeK kn (n + 1) = [] ∧ rowK kn (n + 1) = [] := by
  have e : comeK kn (n + 1) = [] := by rw [comeK_succ, h, nxt_nil]
  exact ⟨e, by unfold rowK; rw [e]; rfl⟩
theorem rowK_nil {kn : Q → Bool} {n : Nat} (h : rowK kn n = []) : ∀ k : Nat, rowK kn (n + k) = []
  | 0 => h
  | k + 1 => (rowK_next (rowK_nil h k)).2
theorem comeK_in (kn : Q → Bool) : ∀ {n : Nat} {x : Int}, x ∈ comeK kn n → 0 ≤ x ∧ x ≤ n
  | 0, x, h => by
    rw [List.mem_singleton.mp h]
    exact ⟨by decide, by decide⟩
  | n + 1, x, h => by
    rcases nxt_mem.mp h with z | z
    · have := comeK_in kn ((List.mem_filter.mp z).1); omega
    · have := comeK_in kn ((List.mem_filter.mp z).1); omega
theorem comeK_ris (kn : Q → Bool) : ∀ n : Nat, (comeK kn n).Pairwise (· < ·)
  | 0 => List.pairwise_singleton _ _
  | n + 1 => nxt_ris _
theorem rowK_ris (kn : Q → Bool) (n : Nat) : (rowK kn n).Pairwise (· < ·) := (comeK_ris kn n).sublist List.filter_sublist
theorem ris_len2 : ∀ {l : List Int} {lo hi : Int}, l.Pairwise (· < ·) → (∀ x ∈ l, lo ≤ x ∧ x ≤ hi) → (l.length : Int) ≤ max 0 (hi - lo + 1)
  | [], lo, hi, _, _ => by simp; omega
  | x :: l, lo, hi, hp, hm => by
    have h1 := hm x List.mem_cons_self
    have h2 := ris_len2 (l := l) (lo := x + 1) (hi := hi) (List.pairwise_cons.mp hp).2 fun y hy => ⟨by have := (List.pairwise_cons.mp hp).1 y hy; omega, (hm y (List.mem_cons_of_mem _ hy)).2⟩
    rw [List.length_cons]
    omega
theorem comeK_len (kn : Q → Bool) (n : Nat) : (comeK kn n).length ≤ n + 1 := by
  have := ris_len2 (comeK_ris kn n) (lo := 0) (hi := n) fun x hx => comeK_in kn hx
  omega
theorem rowK_len (kn : Q → Bool) (n : Nat) : (rowK kn n).length ≤ n + 1 := Nat.le_trans (List.length_filter_le _ _) (comeK_len kn n)
def planK (kn : Q → Bool) : Pl := ((List.range 25).map (rowK kn)).takeWhile fun r => !r.isEmpty
theorem takeW {α : Type} {p : α → Bool} {l t : List α} {x : α} (h : ∀ a ∈ l, p a = true) (hx : p x = false) : (l ++ x :: t).takeWhile p = l := by
  rw [List.takeWhile_append_of_pos h, List.takeWhile_cons_of_neg (by rw [hx]; exact Bool.false_ne_true), List.append_nil]
theorem ne_emp {l : List Int} (h : l ≠ []) : (!l.isEmpty) = true := by cases l <;> simp at *
theorem planK_eq {kn : Q → Bool} {L : Nat} (hL : L ≤ 24) (h0 : rowK kn L = []) (hn : ∀ j, j < L → rowK kn j ≠ []) : planK kn = (List.range L).map (rowK kn) := by
  unfold planK
  rw [show 25 = L + (24 - L + 1) from by omega, List.range_add, List.map_append, List.range_succ_eq_map, List.map_cons, List.map_cons]
  refine takeW (fun a ha => ?_) ?_
  · obtain ⟨j, hj, rfl⟩ := List.mem_map.mp ha
    exact ne_emp (hn j (List.mem_range.mp hj))
  · rw [Nat.add_zero, h0]
    rfl
theorem firstNil {kn : Q → Bool} : ∀ n : Nat, rowK kn n = [] → ∃ L, L ≤ n ∧ rowK kn L = [] ∧ ∀ j, j < L → rowK kn j ≠ []
  | 0, h => ⟨0, Nat.le_refl _, h, fun j hj => absurd hj (Nat.not_lt_zero j)⟩
  | n + 1, h => by
    by_cases q : rowK kn n = []
    · obtain ⟨L, h1, h2, h3⟩ := firstNil n q
      exact ⟨L, by omega, h2, h3⟩
    · refine ⟨n + 1, Nat.le_refl _, h, fun j hj e => q ?_⟩
      have := rowK_nil e (n - j)
      rwa [show j + (n - j) = n from by omega] at this
theorem row_range {kn : Q → Bool} {L k : Nat} : row ((List.range L).map (rowK kn)) k = if k < L then rowK kn k else [] := by
  unfold row
  rw [List.getD_eq_getElem?_getD, List.getElem?_map]
  split
  · rename_i h
    rw [List.getElem?_range h]
    rfl
  · rename_i h
    rw [List.getElem?_eq_none (by rw [List.length_range]; omega)]
    rfl
theorem rowK_zero {kn : Q → Bool} (h : kn (0, 0) = true) : rowK kn 0 = [0] := by
  unfold rowK comeK
  rw [List.filter_cons, if_pos (show kn (0, ((0 : Nat) : Int) - 0) = true from h)]
  rfl
theorem planK_ok {kn : Q → Bool} (h : kn (0, 0) = true) (h24 : rowK kn 24 = []) : PlanOK (planK kn) := by
  obtain ⟨L, h1, h2, h3⟩ := firstNil 24 h24
  have hp : 0 < L := by
    rcases Nat.eq_zero_or_pos L with z | z
    · rw [z, rowK_zero h] at h2; cases h2
    · exact z
  rw [planK_eq h1 h2 h3]
  refine ⟨by rw [List.length_map, List.length_range]; exact h1, by rw [List.length_map, List.length_range]; exact hp, ?_, fun k hk => ?_, fun k => ?_, fun k x hx => ?_⟩
  · rw [row_range, if_pos hp, rowK_zero h]
  · rw [List.length_map, List.length_range] at hk
    rw [row_range, if_pos hk]
    exact h3 k hk
  · rw [row_range]
    split
    · exact rowK_ris kn k
    · exact .nil
  · rw [row_range] at hx
    split at hx
    · rename_i hk
      rw [row_range, if_pos (by omega), ← comeK_succ]
      exact (List.mem_filter.mp hx).1
    · cases hx
/-! counts as a dict -/
def knC (cs : List Q) : Q → Bool := fun c => decide (c ∈ cs)
def knD (cs : List Q) : List (Q × Bool) := cs.foldl (fun k c => dput k c true) []
theorem knD_snoc (cs : List Q) (c : Q) : knD (cs ++ [c]) = dput (knD cs) c true := by
  unfold knD
  rw [List.foldl_append]
  rfl
theorem knD_get (cs : List Q) (c : Q) : (dget (knD cs) c).isSome = decide (c ∈ cs) := by
  have key : ∀ (cs : List Q) (k : List (Q × Bool)), (dget (cs.foldl (fun k c => dput k c true) k) c).isSome = (decide (c ∈ cs) || (dget k c).isSome) := by
    intro cs
    induction cs with
    | nil => intro k; simp
    | cons x cs ih =>
      intro k
      rw [List.foldl_cons, ih, dget_put]
      by_cases e : c = x
      · rw [if_pos e]; simp [e]
      · rw [if_neg e]; simp [e]
  have := key cs []
  rw [show (dget ([] : List (Q × Bool)) c).isSome = false from rfl, Bool.or_false] at this
  exact this
theorem knD_len : ∀ cs : List Q, (knD cs).length ≤ cs.length := by
  have key : ∀ (cs : List Q) (k : List (Q × Bool)), (cs.foldl (fun k c => dput k c true) k).length ≤ k.length + cs.length := by
    intro cs
    induction cs with
    | nil => intro k; exact Nat.le_refl _
    | cons x cs ih =>
      intro k
      have h1 := ih (dput k x true)
      have h2 := dput_len k x true
      rw [List.foldl_cons, List.length_cons]
      omega
  intro cs
  have := key cs []
  unfold knD
  simpa using this
def dueK (cs : List Q) : D := if knC cs (0, 0) = true then (if rowK (knC cs) 24 = [] then pl (planK (knC cs)) else .str "TooLong") else .str "NoPlan"
theorem due_cases (cs : List Q) : (¬ knC cs (0, 0) = true ∧ dueK cs = .str "NoPlan") ∨ (knC cs (0, 0) = true ∧ ¬ rowK (knC cs) 24 = [] ∧ dueK cs = .str "TooLong") ∨ (knC cs (0, 0) = true ∧ rowK (knC cs) 24 = [] ∧ dueK cs = pl (planK (knC cs))) := by
  unfold dueK
  by_cases a : knC cs (0, 0) = true
  · by_cases b : rowK (knC cs) 24 = []
    · exact .inr (.inr ⟨a, b, by rw [if_pos a, if_pos b]⟩)
    · exact .inr (.inl ⟨a, b, by rw [if_pos a, if_neg b]⟩)
  · exact .inl ⟨a, by rw [if_neg a]⟩
end PD
namespace PD
open PySem PySem.Spec PyProof.Rows L2
variable [TN]
/-! ### runs of numbers that follow one another -/
def runG : Int → Int → List Int → List Q
  | a, b, [] => [(a, b)]
  | a, b, x :: xs => if b + 1 = x then runG a x xs else (a, b) :: runG x x xs
def runsF : List Int → List Q
  | [] => []
  | x :: xs => runG x x xs
/-- what the program does with each number -/
def strStep (f : List Q) (n : Int) : List Q := if (decide ((0 : Int) < (f.length : Int)) && decide ((f.getLastD (0, 1)).2 + 1 = n)) = true then f.dropLast ++ [((f.getLastD (0, 1)).1, n)] else f ++ [(n, n)]
theorem strStep_snoc (pre : List Q) (a b n : Int) : strStep (pre ++ [(a, b)]) n = if b + 1 = n then pre ++ [(a, n)] else pre ++ [(a, b)] ++ [(n, n)] := by
  unfold strStep
  rw [List.getLastD_concat, List.dropLast_concat, decide_eq_true (show (0 : Int) < ((pre ++ [(a, b)]).length : Int) by rw [List.length_append, List.length_singleton]; omega), Bool.true_and]
  by_cases e : b + 1 = n
  · rw [if_pos (decide_eq_true e), if_pos e]
  · rw [if_neg (by rw [decide_eq_true_eq]; exact e), if_neg e]
theorem str_run : ∀ (xs : List Int) (pre : List Q) (a b : Int), xs.foldl strStep (pre ++ [(a, b)]) = pre ++ runG a b xs
  | [], pre, a, b => rfl
  | x :: xs, pre, a, b => by
    rw [List.foldl_cons, strStep_snoc]
    unfold runG
    split
    · exact str_run xs pre a x
    · rw [str_run xs (pre ++ [(a, b)]) x x, List.append_assoc]
      rfl
theorem str_runs (l : List Int) : l.foldl strStep [] = runsF l := by
  cases l with
  | nil => rfl
  | cons x xs =>
    rw [List.foldl_cons]
    exact str_run xs [] x x
/-! the law's way: from each number that follows none -/
omit [TN] in
theorem filter_lt_dec {R : List Int} {n : Int} (h : n + 1 ∈ R) : (R.filter fun x => decide (n + 1 < x)).length < (R.filter fun x => decide (n < x)).length := by
  have le : ∀ l : List Int, (l.filter fun x => decide (n + 1 < x)).length ≤ (l.filter fun x => decide (n < x)).length := by
    intro l
    induction l with
    | nil => exact Nat.le_refl _
    | cons x l ih =>
      rw [List.filter_cons, List.filter_cons]
      by_cases a : n + 1 < x
      · rw [if_pos (decide_eq_true a), if_pos (decide_eq_true (show n < x by omega)), List.length_cons, List.length_cons]
        omega
      · rw [if_neg (by rw [decide_eq_true_eq]; exact a)]
        split
        · rw [List.length_cons]; omega
        · exact ih
  induction R with
  | nil => cases h
  | cons x R ih =>
    rw [List.filter_cons, List.filter_cons]
    rcases List.mem_cons.mp h with e | e
    · rw [if_neg (by rw [decide_eq_true_eq]; omega), if_pos (decide_eq_true (show n < x by omega)), List.length_cons]
      have := le R
      omega
    · have := ih e
      by_cases a : n + 1 < x
      · rw [if_pos (decide_eq_true a), if_pos (decide_eq_true (show n < x by omega)), List.length_cons, List.length_cons]
        omega
      · rw [if_neg (by rw [decide_eq_true_eq]; exact a)]
        split
        · rw [List.length_cons]; omega
        · exact this
def lastOf (R : List Int) (n : Int) : Int := if h : n + 1 ∈ R then lastOf R (n + 1) else n
  termination_by (R.filter fun x => decide (n < x)).length
  decreasing_by exact filter_lt_dec h
theorem lastOf_in {R : List Int} {n : Int} (h : n + 1 ∈ R) : lastOf R n = lastOf R (n + 1) := by
  rw [lastOf, dif_pos h]
theorem lastOf_no {R : List Int} {n : Int} (h : n + 1 ∉ R) : lastOf R n = n := by
  rw [lastOf, dif_neg h]
def runC (R : List Int) (n : Int) : List Q := if n - 1 ∈ R then [] else [(n, lastOf R n)]
def runsL (R : List Int) (l : List Int) : List Q := (l.map (runC R)).flatten
theorem runsL_snoc (R l : List Int) (n : Int) : runsL R (l ++ [n]) = runsL R l ++ runC R n := by
  unfold runsL
  rw [List.map_append, List.flatten_append]
  simp
theorem runL_run {R : List Int} : ∀ (xs P : List Int) (a b : Int), R = P ++ [b] ++ xs → R.Pairwise (· < ·) → (a, lastOf R b) :: runsL R xs = runG a b xs
  | [], P, a, b, h, hr => by
    have nb : b + 1 ∉ R := fun z => by
      rw [h, List.append_nil] at z hr
      rcases List.mem_append.mp z with q | q
      · have := (List.pairwise_append.mp hr).2.2 _ q b (List.mem_singleton.mpr rfl); omega
      · have := List.mem_singleton.mp q; omega
    rw [lastOf_no nb]
    rfl
  | x :: xs, P, a, b, h, hr => by
    have hr' := hr
    rw [h] at hr'
    have h1 := (List.pairwise_append.mp hr').2.2
    have h2 := List.pairwise_cons.mp (List.pairwise_append.mp hr').2.1
    have h3 := (List.pairwise_append.mp (List.pairwise_append.mp hr').1).2.2
    have xb : b < x := h1 b (List.mem_append_right _ (List.mem_singleton.mpr rfl)) x List.mem_cons_self
    have inR : ∀ z, z ∈ R → z ≤ b ∨ x ≤ z := fun z hz => by
      rw [h] at hz
      rcases List.mem_append.mp hz with q | q
      · rcases List.mem_append.mp q with q | q
        · have := h3 _ q b (List.mem_singleton.mpr rfl); omega
        · have := List.mem_singleton.mp q; omega
      · rcases List.mem_cons.mp q with q | q
        · omega
        · have := h2.1 z q; omega
    have xR : x ∈ R := by rw [h]; exact List.mem_append_right _ List.mem_cons_self
    have bR : b ∈ R := by rw [h]; exact List.mem_append_left _ (List.mem_append_right _ (List.mem_singleton.mpr rfl))
    have e : runsL R (x :: xs) = runC R x ++ runsL R xs := by unfold runsL; rw [List.map_cons, List.flatten_cons]
    unfold runG
    by_cases q : b + 1 = x
    · rw [if_pos q, e]
      have c : runC R x = [] := by unfold runC; rw [if_pos (by rw [show x - 1 = b by omega]; exact bR)]
      rw [c, List.nil_append, lastOf_in (by rw [q]; exact xR), q]
      exact runL_run xs (P ++ [b]) a x (by rw [h]; simp) hr
    · rw [if_neg q, e, lastOf_no (fun z => by have := inR _ z; omega)]
      have c : runC R x = [(x, lastOf R x)] := by unfold runC; rw [if_neg (fun z => by have := inR _ z; omega)]
      rw [c]
      show (a, b) :: ((x, lastOf R x) :: runsL R xs) = _
      rw [runL_run xs (P ++ [b]) x x (by rw [h]; simp) hr]
theorem runsL_eq {R : List Int} (h : R.Pairwise (· < ·)) : runsL R R = runsF R := by
  cases R with
  | nil => rfl
  | cons x xs =>
    have e : runsL (x :: xs) (x :: xs) = runC (x :: xs) x ++ runsL (x :: xs) xs := by unfold runsL; rw [List.map_cons, List.flatten_cons]
    have c : runC (x :: xs) x = [(x, lastOf (x :: xs) x)] := by
      unfold runC
      rw [if_neg (fun z => by
        rcases List.mem_cons.mp z with q | q
        · omega
        · have := (List.pairwise_cons.mp h).1 _ q; omega)]
    rw [e, c]
    show (x, lastOf (x :: xs) x) :: runsL (x :: xs) xs = runG x x xs
    exact runL_run xs [] x x rfl h
/-! what is come to with one draw more: as many more as there are runs -/
def expH : Int → List Int → List Int
  | b, [] => [b + 1]
  | b, x :: xs => if b + 1 = x then x :: expH x xs else (b + 1) :: x :: expH x xs
def expE : List Int → List Int
  | [] => []
  | x :: xs => x :: expH x xs
theorem expH_len : ∀ (xs : List Int) (a b : Int), (expH b xs).length = xs.length + (runG a b xs).length
  | [], a, b => rfl
  | x :: xs, a, b => by
    unfold expH runG
    by_cases q : b + 1 = x
    · rw [if_pos q, if_pos q, List.length_cons, List.length_cons, expH_len xs a x]
      omega
    · rw [if_neg q, if_neg q, List.length_cons, List.length_cons, List.length_cons, List.length_cons, expH_len xs x x]
      omega
theorem expE_len (l : List Int) : (expE l).length = l.length + (runsF l).length := by
  cases l with
  | nil => rfl
  | cons x xs =>
    show (expH x xs).length + 1 = xs.length + 1 + (runG x x xs).length
    rw [expH_len xs x x]
    omega
theorem expH_mem : ∀ (xs : List Int) (b y : Int), y ∈ expH b xs ↔ y = b + 1 ∨ y ∈ xs ∨ y - 1 ∈ xs
  | [], b, y => by
    unfold expH
    simp
  | x :: xs, b, y => by
    unfold expH
    by_cases q : b + 1 = x
    · rw [if_pos q, List.mem_cons, expH_mem xs x y, List.mem_cons, List.mem_cons]
      constructor
      · rintro (z | z | z | z)
        · exact .inr (.inl (.inl z))
        · exact .inr (.inr (.inl (by omega)))
        · exact .inr (.inl (.inr z))
        · exact .inr (.inr (.inr z))
      · rintro (z | (z | z) | (z | z))
        · exact .inl (by omega)
        · exact .inl z
        · exact .inr (.inr (.inl z))
        · exact .inr (.inl (by omega))
        · exact .inr (.inr (.inr z))
    · rw [if_neg q, List.mem_cons, List.mem_cons, expH_mem xs x y, List.mem_cons, List.mem_cons]
      constructor
      · rintro (z | z | z | z | z)
        · exact .inl z
        · exact .inr (.inl (.inl z))
        · exact .inr (.inr (.inl (by omega)))
        · exact .inr (.inl (.inr z))
        · exact .inr (.inr (.inr z))
      · rintro (z | (z | z) | (z | z))
        · exact .inl z
        · exact .inr (.inl z)
        · exact .inr (.inr (.inr (.inl z)))
        · exact .inr (.inr (.inl (by omega)))
        · exact .inr (.inr (.inr (.inr z)))
theorem expH_ris : ∀ (xs : List Int) (b : Int), (b :: xs).Pairwise (· < ·) → (expH b xs).Pairwise (· < ·)
  | [], b, _ => by unfold expH; exact List.pairwise_singleton _ _
  | x :: xs, b, h => by
    have h1 := List.pairwise_cons.mp h
    have h2 := List.pairwise_cons.mp h1.2
    have bx := h1.1 x List.mem_cons_self
    have gt : ∀ y ∈ expH x xs, x < y := fun y hy => by
      rcases (expH_mem xs x y).mp hy with z | z | z
      · omega
      · exact h2.1 y z
      · have := h2.1 _ z; omega
    unfold expH
    by_cases q : b + 1 = x
    · rw [if_pos q]
      exact List.pairwise_cons.mpr ⟨gt, expH_ris xs x h1.2⟩
    · rw [if_neg q]
      refine List.pairwise_cons.mpr ⟨fun y hy => ?_, List.pairwise_cons.mpr ⟨gt, expH_ris xs x h1.2⟩⟩
      rcases List.mem_cons.mp hy with z | z
      · omega
      · have := gt y z; omega
theorem expE_eq {l : List Int} (h : l.Pairwise (· < ·)) : nxt l = expE l := by
  refine ris_unique (nxt_ris l) ?_ fun y => ?_
  · cases l with
    | nil => exact .nil
    | cons x xs =>
      have gt : ∀ y ∈ expH x xs, x < y := fun y hy => by
        rcases (expH_mem xs x y).mp hy with z | z | z
        · omega
        · exact (List.pairwise_cons.mp h).1 y z
        · have := (List.pairwise_cons.mp h).1 _ z; omega
      exact List.pairwise_cons.mpr ⟨gt, expH_ris xs x h⟩
  · rw [nxt_mem]
    cases l with
    | nil => simp [expE]
    | cons x xs =>
      show _ ↔ y ∈ x :: expH x xs
      rw [List.mem_cons, List.mem_cons, List.mem_cons, expH_mem]
      constructor
      · rintro ((z | z) | (z | z))
        · exact .inl z
        · exact .inr (.inr (.inl z))
        · exact .inr (.inl (by omega))
        · exact .inr (.inr (.inr z))
      · rintro (z | z | z | z)
        · exact .inl (.inl z)
        · exact .inr (.inl (by omega))
        · exact .inl (.inr z)
        · exact .inr (.inr z)
theorem nxt_len {l : List Int} (h : l.Pairwise (· < ·)) : (nxt l).length = l.length + (runsF l).length := by rw [expE_eq h, expE_len]
/-! the ends, counted -/
def runsN (p : Pl) : Nat → Nat
  | 0 => 0
  | i + 1 => runsN p i + (runsF (row p i)).length
theorem ris_split {m : List Int} : ∀ {l : List Int}, l.Pairwise (· < ·) → m.Pairwise (· < ·) → (∀ x ∈ m, x ∈ l) → (l.filter fun x => decide (x ∉ m)).length + m.length = l.length := fun {l} hl hm hs => by
  have e : l.filter (fun x => decide (x ∈ m)) = m := by
    refine ris_unique (hl.sublist List.filter_sublist) hm fun x => ?_
    rw [List.mem_filter, decide_eq_true_eq]
    exact ⟨fun z => z.2, fun z => ⟨hs x z, z⟩⟩
  have h : ∀ l : List Int, (l.filter fun x => decide (x ∉ m)).length + (l.filter fun x => decide (x ∈ m)).length = l.length := by
    intro l
    induction l with
    | nil => rfl
    | cons x l ih =>
      rw [List.filter_cons, List.filter_cons]
      by_cases a : x ∈ m
      · rw [if_neg (by simp [a]), if_pos (decide_eq_true a), List.length_cons, List.length_cons]
        omega
      · rw [if_pos (by simp [a]), if_neg (by simp [a]), List.length_cons, List.length_cons]
        omega
  have := h l
  rw [e] at this
  exact this
theorem lend_runs {p : Pl} (h : PlanOK p) : ∀ i : Nat, (lendN p i).length + (row p i).length = 1 + runsN p i
  | 0 => by
    rw [h.first]
    rfl
  | i + 1 => by
    have ih := lend_runs h i
    have h1 := nxt_len (h.ris i)
    have h2 := ris_split (nxt_ris (row p i)) (h.ris (i + 1)) fun x hx => h.step i x hx
    have e : ((nxt (row p i)).filter fun b => !decide (b ∈ row p (i + 1))) = (nxt (row p i)).filter fun x => decide (x ∉ row p (i + 1)) := List.filter_congr fun b _ => by simp
    rw [lendN_succ, List.length_append, lineQ_len, e]
    show _ = 1 + (runsN p i + (runsF (row p i)).length)
    omega
theorem ends_runs {p : Pl} (h : PlanOK p) : (endsQ p).length = 1 + runsN p p.length := by
  have := lend_runs h p.length
  rw [row_out (Nat.le_refl _), lends_eq h] at this
  simpa using this
end PD
namespace PD
open PySem PySem.Spec PyProof.Rows L2
variable [TN]
/-! ### products of polynomials -/
def sR : Nat → (Nat → Rat) → Rat
  | 0, _ => 0
  | n + 1, f => sR n f + f n
theorem sR_congr {f g : Nat → Rat} : ∀ {n : Nat}, (∀ k, k < n → f k = g k) → sR n f = sR n g
  | 0, _ => rfl
  | n + 1, h => by
    show sR n f + f n = sR n g + g n
    rw [sR_congr fun k hk => h k (by omega), h n (by omega)]
theorem sR_ext {f : Nat → Rat} {m : Nat} : ∀ d : Nat, (∀ k, m ≤ k → f k = 0) → sR (m + d) f = sR m f
  | 0, _ => rfl
  | d + 1, h => by
    show sR (m + d) f + f (m + d) = _
    rw [sR_ext d h, h _ (by omega)]
    grind
theorem sR_front (f : Nat → Rat) : ∀ n : Nat, sR (n + 1) f = f 0 + sR n fun k => f (k + 1)
  | 0 => by show (0 : Rat) + f 0 = f 0 + 0; grind
  | n + 1 => by
    show sR (n + 1) f + f (n + 1) = f 0 + (sR n (fun k => f (k + 1)) + f (n + 1))
    rw [sR_front f n]
    grind
theorem sR_rev (f : Nat → Rat) : ∀ n : Nat, sR (n + 1) f = sR (n + 1) fun k => f (n - k)
  | 0 => rfl
  | n + 1 => by
    rw [sR_front f (n + 1), sR_rev (fun k => f (k + 1)) n]
    show f 0 + _ = sR (n + 1) (fun k => f (n + 1 - k)) + f (n + 1 - (n + 1))
    rw [Nat.sub_self]
    have : sR (n + 1) (fun k => (fun k => f (k + 1)) (n - k)) = sR (n + 1) fun k => f (n + 1 - k) := sR_congr fun k hk => by
      show f (n - k + 1) = f (n + 1 - k)
      rw [show n - k + 1 = n + 1 - k from by omega]
    rw [this]
    grind
/-- the coefficient of a product -/
def conv (a b : List Q) (n : Nat) : Rat := sR (n + 1) fun k => cv a k * cv b (n - k)
theorem conv_comm (a b : List Q) (n : Nat) : conv a b n = conv b a n := by
  unfold conv
  rw [sR_rev]
  refine sR_congr fun k hk => ?_
  rw [show n - (n - k) = k from by omega]
  grind
theorem conv_nil (a : List Q) (n : Nat) : conv [] a n = 0 := by
  unfold conv
  have : ∀ m : Nat, sR m (fun k => cv [] k * cv a (n - k)) = 0 := by
    intro m
    induction m with
    | zero => rfl
    | succ m ih =>
      show sR m _ + cv [] m * _ = 0
      rw [ih, cv_out (Nat.zero_le _)]
      grind
  exact this _
theorem conv_one (a : List Q) (n : Nat) : conv [(1, 1)] a n = cv a n := by
  unfold conv
  have h := sR_ext (m := 1) (f := fun k => cv [(1, 1)] k * cv a (n - k)) n fun k hk => by
    rw [cv_out hk]
    grind
  rw [Nat.add_comm] at h
  rw [h]
  show (0 : Rat) + cv [(1, 1)] 0 * cv a (n - 0) = _
  have : cv [(1, 1)] 0 = 1 := by
    exact val_11
  rw [this, Nat.sub_zero]
  grind
/-- a product's coefficient, row by row -/
def convN (a b : List Q) (i n : Nat) : Rat := sR i fun k => if k ≤ n ∧ n < k + b.length then cv a k * cv b (n - k) else 0
theorem convN_all (a b : List Q) (n : Nat) : convN a b a.length n = conv a b n := by
  have e1 : convN a b a.length n = sR a.length fun k => if k ≤ n then cv a k * cv b (n - k) else 0 := sR_congr fun k _ => by
    by_cases q : k ≤ n
    · by_cases r : n < k + b.length
      · rw [if_pos ⟨q, r⟩, if_pos q]
      · rw [if_neg (fun z => r z.2), if_pos q, cv_out (show b.length ≤ n - k by omega)]
        grind
    · rw [if_neg (fun z => q z.1), if_neg q]
  have e2 : conv a b n = sR (n + 1) fun k => if k ≤ n then cv a k * cv b (n - k) else 0 := sR_congr fun k hk => by rw [if_pos (by omega)]
  rw [e1, e2]
  have h1 := sR_ext (m := a.length) (f := fun k => if k ≤ n then cv a k * cv b (n - k) else 0) (n + 1) fun k hk => by
    split
    · rw [cv_out hk]; grind
    · rfl
  have h2 := sR_ext (m := n + 1) (f := fun k => if k ≤ n then cv a k * cv b (n - k) else 0) a.length fun k hk => by
    rw [if_neg (by omega)]
  rw [← h1, Nat.add_comm a.length, h2]
/-! what the program lays down -/
def mst (k : Int) (x : Q) (M : List Q) (q : Int × Q) : List Q := M.set (k + q.1).toNat (qadd (M.getD (k + q.1).toNat (0, 1)) (qmul x q.2))
def mrow (b : List Q) (M : List Q) (p : Int × Q) : List Q := (enumT b).foldl (mst p.1 p.2) M
def zerosQ (n : Int) : List Q := (rngT 0 n.toNat).map fun _ => (0, 1)
def madeN (a b : List Q) (i : Nat) : List Q := ((enumT a).take i).foldl (mrow b) (zerosQ ((a.length : Int) + (b.length : Int)))
def prodQ (a b : List Q) : List Q := trim (madeN a b a.length)
structure CInv (M : List Q) (L : Nat) (f : Nat → Rat) (g : Nat → Nat) : Prop where
  len : M.length = L
  at_ : ∀ n, lowest (M.getD n (0, 1)) ∧ FB (g n) (M.getD n (0, 1)) ∧ val (M.getD n (0, 1)) = f n
theorem CInv.to {M : List Q} {L : Nat} {f f' : Nat → Rat} {g g' : Nat → Nat} (I : CInv M L f g) (hf : ∀ n, f n = f' n) (hg : ∀ n, g n ≤ g' n) : CInv M L f' g' :=
  ⟨I.len, fun n => ⟨(I.at_ n).1, (I.at_ n).2.1.mono (hg n), (I.at_ n).2.2.trans (hf n)⟩⟩
theorem zeros_at (n : Int) (k : Nat) : (zerosQ n).getD k (0, 1) = (0, 1) := by
  unfold zerosQ
  rw [List.getD_eq_getElem?_getD, List.getElem?_map]
  cases (rngT 0 n.toNat)[k]? <;> rfl
theorem cinv_zero (n : Int) : CInv (zerosQ n) n.toNat (fun _ => 0) (fun _ => 1) := by
  refine ⟨by unfold zerosQ; rw [List.length_map, rngT_len], fun k => ?_⟩
  rw [zeros_at]
  exact ⟨low_01, FB_01, val_01⟩
theorem cinv_set {M : List Q} {L : Nat} {f : Nat → Rat} {g : Nat → Nat} (I : CInv M L f g) {m : Nat} (hm : m < L) {x y : Q} (hx : FB 70 x) (hy : FB 70 y) : CInv (M.set m (qadd (M.getD m (0, 1)) (qmul x y))) L (fun n => f n + if n = m then val x * val y else 0) (fun n => if n = m then g n + 141 else g n) := by
  have hp := qmul_FB hx hy
  refine ⟨by rw [List.length_set]; exact I.len, fun n => ?_⟩
  by_cases e : n = m
  · subst e
    have eg : (M.set n (qadd (M.getD n (0, 1)) (qmul x y))).getD n (0, 1) = qadd (M.getD n (0, 1)) (qmul x y) := by
      rw [List.getD_eq_getElem?_getD, List.getElem?_set_self (by rw [I.len]; exact hm)]
      rfl
    obtain ⟨i1, i2, i3⟩ := I.at_ n
    rw [eg, if_pos rfl, if_pos rfl]
    refine ⟨qadd_low i2.1 hp.1, (qadd_FB i2 hp).mono (by omega), ?_⟩
    rw [val_add i2.1 hp.1, val_mul hx.1 hy.1, i3]
  · have eg : (M.set m (qadd (M.getD m (0, 1)) (qmul x y))).getD n (0, 1) = M.getD n (0, 1) := by
      rw [List.getD_eq_getElem?_getD, List.getElem?_set_ne (Ne.symm e), ← List.getD_eq_getElem?_getD]
    obtain ⟨i1, i2, i3⟩ := I.at_ n
    rw [eg, if_neg e, if_neg e]
    exact ⟨i1, i2, by rw [i3]; grind⟩
theorem row_inv {M b : List Q} {L : Nat} {f : Nat → Rat} {g : Nat → Nat} (I : CInv M L f g) {k : Nat} {x : Q} (hx : FB 70 x) (hb : ∀ y ∈ b, FB 70 y) (hL : k + b.length ≤ L) : ∀ t : Nat, t ≤ b.length → CInv (((enumT b).take t).foldl (mst (k : Int) x) M) L (fun n => f n + if k ≤ n ∧ n < k + t then val x * cv b (n - k) else 0) (fun n => if k ≤ n ∧ n < k + t then g n + 141 else g n)
  | 0, _ => by
    refine I.to (fun n => ?_) (fun n => ?_)
    · rw [if_neg (by omega)]; grind
    · rw [if_neg (by omega)]; exact Nat.le_refl _
  | t + 1, ht => by
    have ih := row_inv I hx hb hL t (by omega)
    have hlt : t < (enumT b).length := by rw [enumT_len]; omega
    have e : (enumT b)[t]? = some (enumT b)[t] := List.getElem?_eq_getElem hlt
    obtain ⟨h1, h2, h3⟩ := enumT_get e
    generalize (enumT b)[t] = q at *
    rw [take_succ' e, List.foldl_append]
    show CInv (mst (k : Int) x _ q) L _ _
    unfold mst
    have em : ((k : Int) + q.1).toNat = k + t := by rw [h2]; omega
    rw [em]
    have hy := hb _ (List.mem_of_getElem? h1)
    have hcv : cv b t = val q.2 := by
      unfold cv
      rw [List.getD_eq_getElem?_getD, h1]
      rfl
    refine (cinv_set ih (m := k + t) (by omega) hx hy).to (fun n => ?_) (fun n => ?_)
    · by_cases z : n = k + t
      · rw [if_pos z, if_neg (by omega), if_pos (by omega), show n - k = t from by omega, hcv]
        grind
      · rw [if_neg z]
        by_cases w : k ≤ n ∧ n < k + t
        · rw [if_pos w, if_pos (by omega)]; grind
        · rw [if_neg w, if_neg (by omega)]; grind
    · by_cases z : n = k + t
      · rw [if_pos z, if_neg (by omega), if_pos (by omega)]; exact Nat.le_refl _
      · rw [if_neg z]
        by_cases w : k ≤ n ∧ n < k + t
        · rw [if_pos w, if_pos (by omega)]; exact Nat.le_refl _
        · rw [if_neg w, if_neg (by omega)]; exact Nat.le_refl _
theorem made_inv {a b : List Q} (ha : ∀ y ∈ a, FB 70 y) (hb : ∀ y ∈ b, FB 70 y) : ∀ i : Nat, i ≤ a.length → CInv (madeN a b i) (a.length + b.length) (convN a b i) (fun _ => 1 + 141 * i)
  | 0, _ => by
    have := cinv_zero ((a.length : Int) + (b.length : Int))
    rw [show ((a.length : Int) + (b.length : Int)).toNat = a.length + b.length from by omega] at this
    exact this.to (fun n => rfl) (fun n => by omega)
  | i + 1, hi => by
    have ih := made_inv ha hb i (by omega)
    have hlt : i < (enumT a).length := by rw [enumT_len]; omega
    have e : (enumT a)[i]? = some (enumT a)[i] := List.getElem?_eq_getElem hlt
    obtain ⟨h1, h2, h3⟩ := enumT_get e
    generalize (enumT a)[i] = q at *
    unfold madeN at ih ⊢
    rw [take_succ' e, List.foldl_append]
    show CInv (mrow b _ q) _ _ _
    unfold mrow
    rw [h2]
    have hx := ha _ (List.mem_of_getElem? h1)
    have hcv : cv a i = val q.2 := by
      unfold cv
      rw [List.getD_eq_getElem?_getD, h1]
      rfl
    have := row_inv ih (k := i) hx hb (by omega) b.length (Nat.le_refl _)
    rw [show (enumT b).take b.length = enumT b from List.take_of_length_le (by rw [enumT_len]; exact Nat.le_refl _)] at this
    refine this.to (fun n => ?_) (fun n => ?_)
    · show _ = convN a b i n + _
      rw [← hcv]
    · split <;> omega
theorem prod_ok {a b : List Q} (ha : ∀ y ∈ a, FB 70 y) (hb : ∀ y ∈ b, FB 70 y) : PQ (prodQ a b) ∧ trim (prodQ a b) = prodQ a b ∧ (∀ n, cv (prodQ a b) n = conv a b n) ∧ (prodQ a b).length ≤ a.length + b.length ∧ ∀ q ∈ prodQ a b, FB (1 + 141 * a.length) q := by
  have I := made_inv ha hb a.length (Nat.le_refl _)
  have all : ∀ q ∈ madeN a b a.length, lowest q ∧ FB (1 + 141 * a.length) q := fun q hq => by
    obtain ⟨n, hn⟩ := List.mem_iff_getElem?.mp hq
    have := I.at_ n
    rw [List.getD_eq_getElem?_getD, hn] at this
    exact ⟨this.1, this.2.1⟩
  have pq : PQ (madeN a b a.length) := fun q hq => ⟨(all q hq).1, (all q hq).2.1⟩
  refine ⟨pq.trim, trim_idem _, fun n => ?_, ?_, fun q hq => (all q (trim_mem hq)).2⟩
  · unfold prodQ
    rw [cv_trim, ← convN_all]
    exact (I.at_ n).2.2
  · refine Nat.le_trans (trim_len _) ?_
    rw [I.len]
    exact Nat.le_refl _
theorem polyQ_eq {xs ys : List Q} (hp : PQ xs) (ht : trim xs = xs) (hq : PQ ys) (hu : trim ys = ys) (h : ∀ k, cv xs k = cv ys k) : xs = ys := by
  have l1 := trim_le hp ht (n := ys.length) fun k hk => by rw [h, cv_out hk]
  have l2 := trim_le hq hu (n := xs.length) fun k hk => by rw [← h, cv_out hk]
  refine List.ext_getElem? fun k => ?_
  rcases Nat.lt_or_ge k xs.length with q | q
  · have a1 : xs[k]? = some (xs.getD k (0, 1)) := by
      rw [List.getD_eq_getElem?_getD, List.getElem?_eq_getElem q]; rfl
    have a2 : ys[k]? = some (ys.getD k (0, 1)) := by
      rw [List.getD_eq_getElem?_getD, List.getElem?_eq_getElem (show k < ys.length by omega)]; rfl
    rw [a1, a2]
    exact congrArg some (val_inj (hp.at_ k).2 (hq.at_ k).2 (hp.at_ k).1 (hq.at_ k).1 (h k))
  · rw [List.getElem?_eq_none q, List.getElem?_eq_none (by omega)]
theorem prod_comm {a b : List Q} (ha : ∀ y ∈ a, FB 70 y) (hb : ∀ y ∈ b, FB 70 y) : prodQ a b = prodQ b a := by
  have p := prod_ok ha hb
  have q := prod_ok hb ha
  exact polyQ_eq p.1 p.2.1 q.1 q.2.1 fun k => by rw [p.2.2.1, q.2.2.1, conv_comm]
theorem prod_one {a : List Q} (ha : ∀ y ∈ a, FB 70 y) (hp : PQ a) (ht : trim a = a) : prodQ a [(1, 1)] = a := by
  have p := prod_ok ha (b := [(1, 1)]) fun y hy => by rw [List.mem_singleton.mp hy]; exact FB_11.mono (by decide)
  exact polyQ_eq p.1 p.2.1 hp ht fun k => by rw [p.2.2.1, conv_comm, conv_one]
theorem prod_nil {a : List Q} (ha : ∀ y ∈ a, FB 70 y) : prodQ [] a = [] ∧ prodQ a [] = [] := by
  have hn : ∀ y ∈ ([] : List Q), FB 70 y := fun y hy => by cases hy
  have p := prod_ok hn ha
  have e : prodQ [] a = [] := polyQ_eq p.1 p.2.1 (fun q hq => by cases hq) rfl fun k => by rw [p.2.2.1, conv_nil, cv_out (Nat.zero_le _)]
  exact ⟨e, by rw [← prod_comm hn ha]; exact e⟩
end PD
/-! rows of draws as texts -/
namespace PD
open PySem PySem.Spec PyProof.Rows L2
variable [TN]
theorem drop_at {α : Type} {l : List α} {i : Nat} {x : α} (h : l[i]? = some x) : l.drop i = x :: l.drop (i + 1) := by
  obtain ⟨hl, e⟩ := List.getElem?_eq_some_iff.mp h
  rw [List.drop_eq_getElem_cons hl, e]
/-- the end to which a row of draws leads -/
def runE (p : Pl) : List Str → Int → Int → Option Q
  | [], b, g => if goesOn p (b, g) = true then none else some (b, g)
  | c :: cs, b, g => if (!goesOn p (b, g) || !decide (c ∈ (["b", "g"] : List Str))) = true then none else if c = "b" then runE p cs (b + 1) g else runE p cs b (g + 1)
theorem runE_stop {p : Pl} {c : Str} {cs : List Str} {b g : Int} (h : (!goesOn p (b, g) || !decide (c ∈ (["b", "g"] : List Str))) = true) : runE p (c :: cs) b g = none := by
  show (if _ then _ else _) = _
  rw [if_pos h]
theorem runE_go {p : Pl} {c : Str} {cs : List Str} {b g : Int} (h : (!goesOn p (b, g) || !decide (c ∈ (["b", "g"] : List Str))) = false) : runE p (c :: cs) b g = if c = "b" then runE p cs (b + 1) g else runE p cs b (g + 1) := by
  show (if _ then _ else _) = _
  rw [if_neg (by rw [h]; exact Bool.false_ne_true)]
theorem stop_eq {p : Pl} (hp : PlanOK p) {b : Int} {k : Nat} (h0 : 0 ≤ b) (h1 : b ≤ k) (x : Bool) : (decide ((p.length : Int) ≤ (k : Int)) || (!decide (b ∈ p.getD (k : Int).toNat []) || x)) = (!goesOn p (b, (k : Int) - b) || x) := by
  have e := goesOn_eq hp (c := (b, (k : Int) - b)) (by dsimp only; omega)
  rw [← e]
  dsimp only
  rw [show b + ((k : Int) - b) = k from by omega]
  have e2 : row p (k : Int).toNat = p.getD (k : Int).toNat [] := rfl
  rw [e2]
  by_cases h : (p.length : Int) ≤ (k : Int)
  · rw [decide_eq_true h, decide_eq_false (show ¬ (k : Int) < (p.length : Int) by omega)]
    rfl
  · rw [decide_eq_false h, decide_eq_true (show (k : Int) < (p.length : Int) by omega)]
    simp
theorem last_eq {p : Pl} (hp : PlanOK p) {b : Int} {k : Nat} (h0 : 0 ≤ b) (h1 : b ≤ k) : (decide ((k : Int) < (p.length : Int)) && decide (b ∈ p.getD (k : Int).toNat [])) = goesOn p (b, (k : Int) - b) := by
  have e := goesOn_eq hp (c := (b, (k : Int) - b)) (by dsimp only; omega)
  rw [← e]
  dsimp only
  rw [show b + ((k : Int) - b) = k from by omega]
  rfl
/-! ### a row drawn -/
def condR (p : Pl) (r : Str) : Bool := decide ((r.length : Int) < (p.length : Int)) && decide (Txt.count r "b" ∈ p.getD (r.length : Int).toNat [])
def sgnR (dg : List Int) (r : Str) : Str := (["b", "g"] : List Str).getD (dg.getD (r.length : Int).toNat 0).toNat Str.empty
def rowGo (p : Pl) (dg : List Int) : Nat → Str → Str
  | 0, r => r
  | n + 1, r => if condR p r = true then rowGo p dg n (r ++ sgnR dg r) else r
theorem rowGo_stop {p : Pl} {dg : List Int} {r : Str} (h : condR p r = false) : ∀ n, rowGo p dg n r = r
  | 0 => rfl
  | n + 1 => by
    show (if _ then _ else _) = _
    rw [if_neg (by rw [h]; exact Bool.false_ne_true)]
theorem rowGo_go {p : Pl} {dg : List Int} {r : Str} {n : Nat} (h : condR p r = true) : rowGo p dg (n + 1) r = rowGo p dg n (r ++ sgnR dg r) := by
  show (if _ then _ else _) = _
  rw [if_pos h]
theorem sgnR_len {dg : List Int} (hd : ∀ x ∈ dg, 0 ≤ x ∧ x < 2) (r : Str) : (sgnR dg r).length = 1 := by
  unfold sgnR
  have h := getD_in (k := (r.length : Int).toNat) (show (0 : Int) < 2 by decide) hd
  generalize dg.getD (r.length : Int).toNat 0 = v at *
  have e : v = 0 ∨ v = 1 := by omega
  rcases e with e | e <;> subst e <;> rfl
theorem condR_lt {p : Pl} {r : Str} (h : condR p r = true) : r.length < p.length := by
  unfold condR at h
  rw [Bool.and_eq_true, decide_eq_true_eq] at h
  omega
theorem rowGo_len {p : Pl} {dg : List Int} (hd : ∀ x ∈ dg, 0 ≤ x ∧ x < 2) : ∀ (n : Nat) (r : Str), r.length ≤ (rowGo p dg n r).length ∧ (r.length ≤ p.length → (rowGo p dg n r).length ≤ p.length)
  | 0, r => ⟨Nat.le_refl _, id⟩
  | n + 1, r => by
    cases h : condR p r with
    | false => rw [rowGo_stop h]; exact ⟨Nat.le_refl _, id⟩
    | true =>
      rw [rowGo_go h]
      have i := rowGo_len (p := p) hd n (r ++ sgnR dg r)
      have l := condR_lt h
      rw [str_app_len, sgnR_len hd] at i
      exact ⟨by omega, fun _ => i.2 (by omega)⟩
def rowS (p : Pl) (dg : List Int) : Str := rowGo p dg 25 ""
theorem rowS_len {p : Pl} {dg : List Int} (hp : PlanOK p) (hd : ∀ x ∈ dg, 0 ≤ x ∧ x < 2) : 1 ≤ (rowS p dg).length ∧ (rowS p dg).length ≤ 24 := by
  have h24 := hp.len
  have hpos := hp.pos
  have hc : condR p "" = true := by
    unfold condR
    rw [Bool.and_eq_true, decide_eq_true_eq, decide_eq_true_eq]
    refine ⟨by show ((0 : Nat) : Int) < _; omega, ?_⟩
    have e : p.getD ((("" : Str).length : Nat) : Int).toNat [] = [0] := hp.first
    rw [e]
    exact List.mem_singleton.mpr (by decide +kernel)
  unfold rowS
  have i := rowGo_len hd 24 ("" ++ sgnR dg "") (p := p)
  rw [rowGo_go hc]
  rw [str_app_len, sgnR_len hd] at i
  have : ("" : Str).length = 0 := rfl
  exact ⟨by omega, Nat.le_trans (i.2 (by omega)) h24⟩
/-! ### spoilt -/
def signs7 : List Str := ["b", "g", "x", " ", "B", "~", ""]
theorem signs7_len (n : Int) : (signs7.getD (n % 7).toNat Str.empty).length ≤ 1 := by
  have h : 0 ≤ n % 7 ∧ n % 7 < 7 := by omega
  generalize n % 7 = v at *
  have e : v = 0 ∨ v = 1 ∨ v = 2 ∨ v = 3 ∨ v = 4 ∨ v = 5 ∨ v = 6 := by omega
  rcases e with e | e | e | e | e | e | e <;> subst e <;> decide
def spoiltF (r : Str) (n : Int) : Str :=
  if n % 6 = 0 then cutS r none (some (-1))
  else if n % 6 = 1 then r ++ signs7.getD (n / 200 % 7).toNat Str.empty
  else if n % 6 = 2 then cutS r none (some (n / 6 % (r.length : Int))) ++ signs7.getD (n / 200 % 7).toNat Str.empty ++ cutS r (some (n / 6 % (r.length : Int) + 1)) none
  else if n % 6 = 3 then cutS r none (some (n / 6 % (r.length : Int))) ++ signs7.getD (n / 200 % 7).toNat Str.empty ++ cutS r (some (n / 6 % (r.length : Int))) none
  else if n % 6 = 4 then ([r, ""] : List Str).getD (if decide (n / 6 % 9 = 1) = true then (1 : Int) else 0).toNat Str.empty
  else r
theorem spoiltF_len (r : Str) (n : Int) (h : r.length ≤ 24) : (spoiltF r n).length ≤ 60 := by
  have hs := signs7_len (n / 200)
  have hc := fun lo hi => cutS_len r lo hi
  unfold spoiltF
  split
  · exact Nat.le_trans (hc _ _) (by omega)
  split
  · rw [str_app_len]; omega
  split
  · rw [str_app_len, str_app_len]
    have h1 := hc none (some (n / 6 % (r.length : Int)))
    have h2 := hc (some (n / 6 % (r.length : Int) + 1)) none
    omega
  split
  · rw [str_app_len, str_app_len]
    have h1 := hc none (some (n / 6 % (r.length : Int)))
    have h2 := hc (some (n / 6 % (r.length : Int))) none
    omega
  split
  · split
    · exact Nat.zero_le _
    · show r.length ≤ 60
      omega
  · omega
end PD
/-! all rows of draws that lead to ends -/
namespace PD
open PySem PySem.Spec PyProof.Rows L2
variable [TN]
def enumR (p : Pl) : Nat → Str → Q → List Str
  | 0, r, _ => [r]
  | n + 1, r, c => if goesOn p c = true then enumR p n (r ++ "b") (kidB c) ++ enumR p n (r ++ "g") (kidG c) else [r]
def dpt (c : Q) : Nat := (25 - lv c).toNat
def en (p : Pl) (r : Str) (c : Q) : List Str := enumR p (dpt c) r c
def rowsL (p : Pl) : List Str := en p "" (0, 0)
theorem lv_kids (c : Q) : lv (kidB c) = lv c + 1 ∧ lv (kidG c) = lv c + 1 := by
  unfold lv kidB kidG
  dsimp only
  omega
theorem en_go {p : Pl} (hp : PlanOK p) {r : Str} {c : Q} (h : goesOn p c = true) : en p r c = en p (r ++ "b") (kidB c) ++ en p (r ++ "g") (kidG c) := by
  have hn := goesOn_nn h
  have h24 := hp.len
  have hk := lv_kids c
  have e : dpt c = dpt (kidB c) + 1 := by unfold dpt; rw [hk.1]; have : lv c < p.length := hn.2; omega
  have e2 : dpt (kidG c) = dpt (kidB c) := by unfold dpt; rw [hk.1, hk.2]
  unfold en
  rw [e, e2]
  show (if _ then _ else _) = _
  rw [if_pos h]
theorem en_stop {p : Pl} {r : Str} {c : Q} (h : goesOn p c = false) : en p r c = [r] := by
  unfold en
  cases dpt c with
  | zero => rfl
  | succ n =>
    show (if _ then _ else _) = _
    rw [if_neg (by rw [h]; exact Bool.false_ne_true)]
/-- by the depth -/
theorem en_ind {p : Pl} (hp : PlanOK p) (M : Str → Q → Prop) (h1 : ∀ r c, goesOn p c = false → M r c) (h2 : ∀ r c, goesOn p c = true → M (r ++ "b") (kidB c) → M (r ++ "g") (kidG c) → M r c) : ∀ r c, M r c := by
  have key : ∀ (n : Nat) (r : Str) (c : Q), 24 ≤ lv c + n → M r c := by
    intro n
    induction n with
    | zero =>
      intro r c hc
      cases g : goesOn p c with
      | false => exact h1 r c g
      | true =>
        have := (goesOn_nn g).2
        have h24 := hp.len
        unfold lv at hc
        omega
    | succ n ih =>
      intro r c hc
      cases g : goesOn p c with
      | false => exact h1 r c g
      | true =>
        have hk := lv_kids c
        exact h2 r c g (ih _ _ (by omega)) (ih _ _ (by omega))
  exact fun r c => key (24 - lv c).toNat r c (by omega)
theorem en_pos {p : Pl} (hp : PlanOK p) (r : Str) (c : Q) : 1 ≤ (en p r c).length := by
  refine en_ind hp (fun r c => 1 ≤ (en p r c).length) (fun r c h => by rw [en_stop h]; exact Nat.le_refl _) (fun r c h a b => by rw [en_go hp h, List.length_append]; omega) r c
theorem en_len {p : Pl} (hp : PlanOK p) (r : Str) (c : Q) : ∀ s : Str, (en p r c).length = (en p s c).length := by
  refine en_ind hp (fun r c => ∀ s : Str, (en p r c).length = (en p s c).length) (fun r c h s => by rw [en_stop h, en_stop h]; rfl) (fun r c h a b s => by rw [en_go hp h, en_go hp h, List.length_append, List.length_append, a (s ++ "b"), b (s ++ "g")]) r c
/-- as many rows as ways -/
theorem rows_ways {p : Pl} (hp : PlanOK p) : ((endsQ p).map fun e => way p (0, 0) e).sum = ((rowsL p).length : Int) := by
  have f := flow hp (b := (0, 0)) (.inl rfl) (fun c => ((en p "" c).length : Rat)) (fun c h => by
    show ((en p "" c).length : Rat) = ((en p "" (kidB c)).length : Rat) + ((en p "" (kidG c)).length : Rat)
    rw [en_go hp h, List.length_append, en_len hp ("" ++ "b") (kidB c) "", en_len hp ("" ++ "g") (kidG c) ""]
    push_cast
    rfl)
  have g : sumL (endsQ p) (fun e => (way p (0, 0) e : Rat) * ((en p "" e).length : Rat)) = sumL (endsQ p) (fun e => (way p (0, 0) e : Rat)) := sumL_congr fun e he => by
    have hs : goesOn p e = false := by
      have := (List.mem_filter.mp he).2
      simpa using this
    rw [en_stop hs]
    show (way p (0, 0) e : Rat) * ((1 : Nat) : Rat) = _
    push_cast
    grind
  have k : ∀ l : List Q, sumL l (fun e => (way p (0, 0) e : Rat)) = (((l.map fun e => way p (0, 0) e).sum : Int) : Rat) := by
    intro l
    induction l with
    | nil => rfl
    | cons x l ih =>
      show (way p (0, 0) x : Rat) + sumL l _ = _
      rw [ih, List.map_cons, List.sum_cons]
      push_cast
      rfl
  rw [g, k] at f
  have f2 : (((endsQ p).map fun e => way p (0, 0) e).sum : Rat) = (((rowsL p).length : Int) : Rat) := by
    rw [f]
    rfl
  exact_mod_cast f2
/-! ### what the rows are -/
def bgC (l : List Nat) : Prop := ∀ c ∈ l, c = 98 ∨ c = 103
theorem en_pre {p : Pl} (hp : PlanOK p) (r : Str) (c : Q) : ∀ x ∈ en p r c, ∃ s : List Nat, x.cps.toList = r.cps.toList ++ s ∧ bgC s := by
  refine en_ind hp (fun r c => ∀ x ∈ en p r c, ∃ s : List Nat, x.cps.toList = r.cps.toList ++ s ∧ bgC s) (fun r c h x hx => ?_) (fun r c h a b x hx => ?_) r c
  · rw [en_stop h, List.mem_singleton] at hx
    exact ⟨[], by rw [hx, List.append_nil], fun c hc => by cases hc⟩
  · rw [en_go hp h] at hx
    rcases List.mem_append.mp hx with q | q
    · obtain ⟨s, h1, h2⟩ := a x q
      rw [str_app, List.append_assoc] at h1
      exact ⟨98 :: s, h1, fun c hc => by rcases List.mem_cons.mp hc with e | e; exact .inl e; exact h2 c e⟩
    · obtain ⟨s, h1, h2⟩ := b x q
      rw [str_app, List.append_assoc] at h1
      exact ⟨103 :: s, h1, fun c hc => by rcases List.mem_cons.mp hc with e | e; exact .inr e; exact h2 c e⟩
def Ahead (x y : Str) : Prop := x.cps.toList < y.cps.toList ∧ Txt.startswith y x = false
theorem ahead_of {x y : Str} {l s t : List Nat} (h1 : x.cps.toList = (l ++ [98]) ++ s) (h2 : y.cps.toList = (l ++ [103]) ++ t) : Ahead x y := by
  rw [List.append_assoc] at h1 h2
  refine ⟨?_, ?_⟩
  · rw [h1, h2]
    clear h1 h2
    induction l with
    | nil => exact List.Lex.rel (by decide)
    | cons a l ih => exact List.Lex.cons ih
  · unfold Txt.startswith
    rw [StrLaws.subAt_eq, List.drop_zero, Bool.and_eq_false_iff]
    refine .inr ?_
    rw [beq_eq_false_iff_ne]
    intro e
    rw [h1, h2] at e
    have e2 := congrArg (fun z => z[l.length]?) e
    simp only [List.getElem?_append_right (Nat.le_refl _), Nat.sub_self] at e2
    have hl : l.length < x.length := by rw [str_len, h1, List.length_append]; simp
    rw [List.getElem?_take_of_lt hl, List.getElem?_append_right (Nat.le_refl _), Nat.sub_self] at e2
    simp at e2
theorem en_ahead {p : Pl} (hp : PlanOK p) (r : Str) (c : Q) : (en p r c).Pairwise Ahead := by
  refine en_ind hp (fun r c => (en p r c).Pairwise Ahead) (fun r c h => by rw [en_stop h]; exact List.pairwise_singleton _ _) (fun r c h a b => ?_) r c
  rw [en_go hp h]
  refine List.pairwise_append.mpr ⟨a, b, fun x hx y hy => ?_⟩
  obtain ⟨s, h1, _⟩ := en_pre hp _ _ x hx
  obtain ⟨t, h2, _⟩ := en_pre hp _ _ y hy
  rw [str_app] at h1 h2
  exact ahead_of h1 h2
theorem row_bg {p : Pl} (hp : PlanOK p) {x : Str} (h : x ∈ rowsL p) : bgC x.cps.toList := by
  obtain ⟨s, h1, h2⟩ := en_pre hp _ _ x h
  rw [h1]
  exact h2
theorem row_len {p : Pl} (hp : PlanOK p) (r : Str) (c : Q) (h0 : (r.length : Int) = lv c) (h1 : lv c ≤ 24) : ∀ x ∈ en p r c, x.length ≤ 24 := by
  refine en_ind hp (fun r c => (r.length : Int) = lv c → lv c ≤ 24 → ∀ x ∈ en p r c, x.length ≤ 24) (fun r c h a b x hx => ?_) (fun r c h a b h0 h1 x hx => ?_) r c h0 h1
  · rw [en_stop h, List.mem_singleton] at hx
    rw [hx]; omega
  · have hk := lv_kids c
    have := (goesOn_nn h).2
    have h24 := hp.len
    have hl : lv c < p.length := this
    rw [en_go hp h] at hx
    rcases List.mem_append.mp hx with q | q
    · exact a (by rw [str_app_len, hk.1, ← h0]; push_cast; rfl) (by omega) x q
    · exact b (by rw [str_app_len, hk.2, ← h0]; push_cast; rfl) (by omega) x q
theorem rows_len {p : Pl} (hp : PlanOK p) : ∀ x ∈ rowsL p, x.length ≤ 24 := row_len hp "" (0, 0) rfl (by decide)
/-! ### the pile -/
def pileR (p : Pl) (w : List (Str × Q)) : List Str := w.reverse.flatMap fun x => en p x.1 x.2
def mu3 (w : List (Str × Q)) : Nat := (w.map fun x => 3 ^ (26 - lv x.2).toNat).sum
theorem pile_top {p : Pl} (w : List (Str × Q)) (x : Str × Q) : pileR p (w ++ [x]) = en p x.1 x.2 ++ pileR p w := by
  unfold pileR
  rw [List.reverse_append, List.flatMap_append]
  simp
theorem pile_len {p : Pl} (hp : PlanOK p) : ∀ w : List (Str × Q), w.length ≤ (pileR p w).length := by
  have key : ∀ w : List (Str × Q), w.length ≤ (w.flatMap fun x => en p x.1 x.2).length := by
    intro w
    induction w with
    | nil => exact Nat.le_refl _
    | cons x w ih =>
      rw [List.flatMap_cons, List.length_append, List.length_cons]
      have := en_pos hp x.1 x.2
      omega
  intro w
  have := key w.reverse
  rw [List.length_reverse] at this
  exact this
theorem mu_top (w : List (Str × Q)) (x : Str × Q) : mu3 (w ++ [x]) = mu3 w + 3 ^ (26 - lv x.2).toNat := by
  unfold mu3
  rw [List.map_append, List.sum_append]
  simp
theorem mu_kids {p : Pl} (hp : PlanOK p) (w : List (Str × Q)) {r : Str} {c : Q} (g : goesOn p c = true) (a b : Str) : mu3 (w ++ [(a, kidG c)] ++ [(b, kidB c)]) < mu3 (w ++ [(r, c)]) := by
  have hk := lv_kids c
  have := (goesOn_nn g).2
  have h24 := hp.len
  have hl : lv c < p.length := this
  rw [mu_top, mu_top, mu_top]
  dsimp only
  rw [hk.1, hk.2, show (26 - lv c).toNat = (26 - (lv c + 1)).toNat + 1 from by omega, Nat.pow_succ]
  have := Nat.pow_pos (n := (26 - (lv c + 1)).toNat) (show 0 < 3 by decide)
  omega
theorem mu_less (w : List (Str × Q)) (x : Str × Q) : mu3 w < mu3 (w ++ [x]) := by
  rw [mu_top]
  have := Nat.pow_pos (n := (26 - lv x.2).toNat) (show 0 < 3 by decide)
  omega
/-! ### a row tells its count -/
def cOf (r : Str) : Q := (Txt.count r "b", (r.length : Int) - Txt.count r "b")
theorem count_eq (r : Str) : Txt.count r "b" = cnt 98 r.cps.toList := count_is r 98
theorem cnt_le (c : Nat) : ∀ l : List Nat, 0 ≤ cnt c l ∧ cnt c l ≤ l.length
  | [] => by rw [cnt_nil]; simp
  | n :: l => by
    have := cnt_le c l
    rw [cnt_cons, List.length_cons]
    split <;> omega
theorem count_in (r : Str) : 0 ≤ Txt.count r "b" ∧ Txt.count r "b" ≤ r.length := by
  rw [count_eq, str_len]
  exact cnt_le _ _
theorem cOf_b (r : Str) : cOf (r ++ "b") = kidB (cOf r) := by
  unfold cOf kidB
  have e : Txt.count (r ++ "b") "b" = Txt.count r "b" + 1 := by
    rw [count_eq, count_eq, str_app, cnt_append]
    rfl
  rw [e, str_app_len]
  have : ("b" : Str).length = 1 := rfl
  rw [this]
  refine Prod.ext rfl ?_
  dsimp only
  omega
theorem cOf_g (r : Str) : cOf (r ++ "g") = kidG (cOf r) := by
  unfold cOf kidG
  have e : Txt.count (r ++ "g") "b" = Txt.count r "b" := by
    rw [count_eq, count_eq, str_app, cnt_append]
    show _ + (0 : Int) = _
    omega
  rw [e, str_app_len]
  have : ("g" : Str).length = 1 := rfl
  rw [this]
  refine Prod.ext rfl ?_
  dsimp only
  omega
theorem cOf_nil : cOf "" = (0, 0) := by
  unfold cOf
  rw [count_eq]
  rfl
theorem cOf_on {p : Pl} (hp : PlanOK p) (r : Str) : (decide ((r.length : Int) < (p.length : Int)) && decide (Txt.count r "b" ∈ p.getD (r.length : Int).toNat [])) = goesOn p (cOf r) := by
  have h := count_in r
  exact last_eq hp h.1 h.2
end PD
/-! means of numbers told at the ends, as polynomials; that of the bad is x times that of the draws -/
namespace PD
open PySem PySem.Spec PyProof.Rows L2
variable [TN]
def unB (p : Pl) (B : Int) (z : Q × Q) : Int := way p (0, 0) z.1 * z.2.1 * (B / z.2.2)
theorem nums_of {p : Pl} {ns : List Q} {B : Int} (hp : PlanOK p) (hl : ns.length = (endsQ p).length) (h0 : 0 < B) (h1 : B ≤ 1000) (h : ∀ n ∈ ns, lowest n ∧ 0 < n.2 ∧ n.2 ∣ B ∧ Bd 80 n.1) : Nums p ns (unB p B) B := by
  have bB : Bd 10 B := .of (by omega) (by omega)
  refine ⟨hp, hl, h0, bB.mono (by decide), fun z hz => ?_⟩
  obtain ⟨g1, g2, ⟨k, g3⟩, g4⟩ := h z.2 (List.of_mem_zip hz).2
  have he := end_nn hp (List.of_mem_zip hz).1
  have h24 := hp.len
  have hk : 0 < k := by
    rcases Int.lt_or_le 0 k with q | q
    · exact q
    · have := Int.mul_nonpos_of_nonneg_of_nonpos (Int.le_of_lt g2) q
      omega
  have hdv : B / z.2.2 = k := by rw [g3, Int.mul_ediv_cancel_left _ (by omega)]
  have hle : z.2.2 ≤ B := by
    rw [g3]
    have := Int.mul_le_mul_of_nonneg_left (show (1 : Int) ≤ k by omega) (Int.le_of_lt g2)
    omega
  have hkle : k ≤ B := by
    rw [g3]
    have := Int.mul_le_mul_of_nonneg_right (show (1 : Int) ≤ z.2.2 by omega) (Int.le_of_lt hk)
    omega
  refine ⟨g1, ⟨g2, g4.mono (by decide), (show Bd 10 z.2.2 from .of (by omega) (by omega)).mono (by decide)⟩, ?_, ?_⟩
  · unfold unB val
    rw [hdv]
    have c1 := cast_ne (Int.ne_of_gt g2)
    have c2 := cast_ne (Int.ne_of_gt hk)
    rw [g3]
    push_cast
    grind
  · unfold unB
    rw [hdv]
    exact (((way_bd (by have := he.2; omega)).mul g4).mul (show Bd 10 k from .of (by omega) (by omega))).mono (by decide)
def sumP (p : Pl) (B : Int) (l : List (Q × Q)) : List Int := l.foldl (fun m z => addF m (powI z.1.1.toNat z.1.2.toNat) (unB p B z)) []
theorem sumP_snoc (p : Pl) (B : Int) (l : List (Q × Q)) (z : Q × Q) : sumP p B (l ++ [z]) = addF (sumP p B l) (powI z.1.1.toNat z.1.2.toNat) (unB p B z) := by
  unfold sumP
  rw [List.foldl_append]
  rfl
theorem sumP_cf (p : Pl) (B : Int) (l : List (Q × Q)) (k : Nat) : cf (sumP p B l) k = sumZ l fun z => unB p B z * pcf z.1 k := by
  have key : ∀ (l : List (Q × Q)) (m : List Int), cf (l.foldl (fun m z => addF m (powI z.1.1.toNat z.1.2.toNat) (unB p B z)) m) k = cf m k + sumZ l fun z => unB p B z * pcf z.1 k := by
    intro l
    induction l with
    | nil => intro m; show cf m k = cf m k + 0; omega
    | cons r l ih =>
      intro m
      rw [List.foldl_cons, ih, addF_cf]
      show _ = cf m k + (unB p B r * pcf r.1 k + sumZ l fun z => unB p B z * pcf z.1 k)
      unfold pcf
      omega
  have := key l []
  have z : cf ([] : List Int) k = 0 := rfl
  rw [z] at this
  unfold sumP
  omega
theorem sumP_len {p : Pl} (h : PlanOK p) (B : Int) {l : List (Q × Q)} (hl : ∀ z ∈ l, z.1 ∈ endsQ p) : (sumP p B l).length ≤ 25 := by
  have h24 := h.len
  have key : ∀ (l : List (Q × Q)) (m : List Int), (∀ z ∈ l, z.1 ∈ endsQ p) → m.length ≤ 25 → (l.foldl (fun m z => addF m (powI z.1.1.toNat z.1.2.toNat) (unB p B z)) m).length ≤ 25 := by
    intro l
    induction l with
    | nil => intro m _ h; exact h
    | cons r l ih =>
      intro m hl hm
      refine ih _ (fun y hy => hl y (List.mem_cons_of_mem _ hy)) ?_
      obtain ⟨n, q⟩ := end_nn h (hl r List.mem_cons_self)
      unfold nn at n
      unfold lv at q
      rw [addF_len, powI_len]
      unfold mx
      split <;> omega
  exact key l [] hl (by simp)
/-- what the program's mean is, by the law's sum -/
theorem mean_right {p : Pl} {ns : List Q} {B : Int} (h : Nums p ns (unB p B) B) : (sumP p B (zipE p ns)).length ≤ 10000 ∧ (meanN p (zipE p ns)).length = (trimZ 0 (sumP p B (zipE p ns))).length ∧
    (∀ k : Nat, k < (meanN p (zipE p ns)).length → isFr ((meanN p (zipE p ns)).getD k (0, 1)) ((sumP p B (zipE p ns)).getD k 0) B = true ∧ FB 300000 ((meanN p (zipE p ns)).getD k (0, 1))) ∧ (∀ t ∈ sumP p B (zipE p ns), Bd 300000 t) ∧ Bd 300000 B := by
  have hzl : (zipE p ns).length ≤ 1024 := by
    unfold zipE
    rw [List.length_zip, h.len]
    exact Nat.le_trans (Nat.min_le_left _ _) (Nat.le_trans (endsIn h.ok).le (by decide))
  have hze : ∀ z ∈ zipE p ns, z.1 ∈ endsQ p := fun z hz => (List.of_mem_zip hz).1
  obtain ⟨m1, m2, m3⟩ := h.fb (fun z hz => hz) hzl
  obtain ⟨q1, q2⟩ := poly_rightQ (b := sumP p B (zipE p ns)) m1 (meanN_trim p _) h.pos fun k => by
    rw [h.cv_ (fun z hz => hz) k, sumP_cf]
  refine ⟨Nat.le_trans (sumP_len h.ok B hze) (by decide), q1, fun k hk => ⟨q2 k, ?_⟩, fun t ht => ?_, h.bd.mono (by decide)⟩
  · rw [List.getD_eq_getElem?_getD, List.getElem?_eq_getElem hk]
    exact (m3 _ (List.getElem_mem hk)).mono (by decide)
  · obtain ⟨k, _, rfl⟩ := mem_cf ht
    rw [sumP_cf]
    refine (sumZ_bd (n := 240) (m := 10) (fun z hz => ?_) hzl).mono (by decide)
    obtain ⟨n, q⟩ := end_nn h.ok (hze z hz)
    have h24 := h.ok.len
    exact ((h.at_ z hz).2.2.2.mul (pcf_bd n (by omega) k)).mono (by decide)
def drawsQ (p : Pl) : List Q := (endsQ p).map fun e => (e.1 + e.2, 1)
def badQ (p : Pl) : List Q := (endsQ p).map fun e => (e.1, 1)
theorem ints_ok {p : Pl} (hp : PlanOK p) (f : Q → Int) (hf : ∀ e ∈ endsQ p, Bd 80 (f e)) : Nums p ((endsQ p).map fun e => (f e, (1 : Int))) (unB p 1) 1 := by
  refine nums_of hp (by rw [List.length_map]) (by decide) (by decide) fun n hn => ?_
  obtain ⟨e, he, rfl⟩ := List.mem_map.mp hn
  exact ⟨by unfold lowest; simp, (show (0 : Int) < 1 by decide), Int.dvd_refl _, hf e he⟩
theorem drawsQ_ok {p : Pl} (hp : PlanOK p) : Nums p (drawsQ p) (unB p 1) 1 := ints_ok hp (fun e => e.1 + e.2) fun e he => by
  obtain ⟨n, q⟩ := end_nn hp he
  have h24 := hp.len
  unfold nn at n
  unfold lv at q
  exact .of (by omega) (by omega)
theorem badQ_ok {p : Pl} (hp : PlanOK p) : Nums p (badQ p) (unB p 1) 1 := ints_ok hp (fun e => e.1) fun e he => by
  obtain ⟨n, q⟩ := end_nn hp he
  have h24 := hp.len
  unfold nn at n
  unfold lv at q
  exact .of (by omega) (by omega)
theorem pcf_B {c : Q} (n : nn c) (k : Nat) : pcf (kidB c) (k + 1) = pcf c k := by
  unfold nn at n
  unfold pcf kidB
  dsimp only
  rw [show (c.1 + 1).toNat = c.1.toNat + 1 by omega]
  rcases Nat.lt_or_ge k c.1.toNat with q | q
  · rw [powI_lo q, powI_lo (by omega)]
  · obtain ⟨j, rfl⟩ : ∃ j, k = c.1.toNat + j := ⟨k - c.1.toNat, by omega⟩
    rw [powI_hi, show c.1.toNat + j + 1 = c.1.toNat + 1 + j by omega, powI_hi]
theorem pcf_B0 {c : Q} (n : nn c) : pcf (kidB c) 0 = 0 := by
  unfold nn at n
  unfold pcf kidB
  dsimp only
  exact powI_lo (by omega)
theorem wald {p : Pl} (h : PlanOK p) : (sumZ (endsQ p) (fun e => way p (0, 0) e * (e.1 * pcf e 0)) = 0) ∧ ∀ k, sumZ (endsQ p) (fun e => way p (0, 0) e * (e.1 * pcf e (k + 1))) = sumZ (endsQ p) (fun e => way p (0, 0) e * ((e.1 + e.2) * pcf e k)) := by
  constructor
  · have f := flow h (b := (0, 0)) (.inl rfl) (fun c => ((c.1 * pcf c 0 : Int) : Rat)) (fun c g => by
      have n := (goesOn_nn g).1
      have a := pcf_add n 0
      rw [pcf_B0 n] at a
      rw [pcf_B0 n, show pcf (kidG c) 0 = pcf c 0 by omega]
      show _ = _ + ((c.1 * pcf c 0 : Int) : Rat)
      push_cast
      grind)
    have e : ((sumZ (endsQ p) (fun e => way p (0, 0) e * (e.1 * pcf e 0)) : Int) : Rat) = ((0 : Int) : Rat) := by
      rw [sumZ_cast]
      refine (sumL_congr fun x _ => ?_).trans (f.trans ?_)
      · push_cast; rfl
      · show ((0 * pcf (0, 0) 0 : Int) : Rat) = _
        rw [Int.zero_mul]
    exact_mod_cast e
  · intro k
    have f := flow h (b := (0, 0)) (.inl rfl) (fun c => ((c.1 * pcf c (k + 1) - (c.1 + c.2) * pcf c k : Int) : Rat)) (fun c g => by
      have n := (goesOn_nn g).1
      have a1 := pcf_add n (k + 1)
      rw [pcf_B n] at a1
      have a0 := pcf_add n k
      have e1 : pcf (kidG c) (k + 1) = pcf c (k + 1) - pcf c k := by omega
      rw [pcf_B n, e1]
      have e0 : pcf (kidG c) k = pcf c k - pcf (kidB c) k := by omega
      rw [e0]
      show _ = (((c.1 + 1) * pcf c k - (c.1 + 1 + c.2) * pcf (kidB c) k : Int) : Rat) + ((c.1 * (pcf c (k + 1) - pcf c k) - (c.1 + (c.2 + 1)) * (pcf c k - pcf (kidB c) k) : Int) : Rat)
      push_cast
      grind)
    have e : ((sumZ (endsQ p) (fun e => way p (0, 0) e * (e.1 * pcf e (k + 1))) : Int) : Rat) = ((sumZ (endsQ p) (fun e => way p (0, 0) e * ((e.1 + e.2) * pcf e k)) : Int) : Rat) := by
      rw [sumZ_cast, sumZ_cast]
      have z : (((0 : Int) * pcf (0, 0) (k + 1) - (0 + 0) * pcf (0, 0) k : Int) : Rat) = 0 := by
        rw [Int.zero_mul, Int.add_zero, Int.zero_mul]; rfl
      have f2 : sumL (endsQ p) (fun e => (way p (0, 0) e : Rat) * ((e.1 * pcf e (k + 1) - (e.1 + e.2) * pcf e k : Int) : Rat)) = 0 := f.trans z
      have s := sumL_add (fun e : Q => (way p (0, 0) e : Rat) * ((e.1 * pcf e (k + 1) - (e.1 + e.2) * pcf e k : Int) : Rat)) (fun e : Q => ((way p (0, 0) e * ((e.1 + e.2) * pcf e k) : Int) : Rat)) (endsQ p)
      rw [f2] at s
      have t : sumL (endsQ p) (fun e => ((way p (0, 0) e * (e.1 * pcf e (k + 1)) : Int) : Rat)) = sumL (endsQ p) (fun x => (way p (0, 0) x : Rat) * ((x.1 * pcf x (k + 1) - (x.1 + x.2) * pcf x k : Int) : Rat) + ((way p (0, 0) x * ((x.1 + x.2) * pcf x k) : Int) : Rat)) := sumL_congr fun x _ => by push_cast; grind
      rw [t, s]
      grind
    exact_mod_cast e
theorem cv_cons0 (xs : List Q) : cv ((0, 1) :: xs) 0 = 0 ∧ ∀ k, cv ((0, 1) :: xs) (k + 1) = cv xs k := by
  refine ⟨?_, fun k => rfl⟩
  exact val_01
theorem ends_pos {p : Pl} (h : PlanOK p) : 0 < (endsQ p).length := by
  have f := flow_poly h (b := (0, 0)) (.inl rfl) 0
  rw [pcf_00] at f
  cases q : endsQ p with
  | nil => rw [q] at f; exact absurd (show (0 : Int) = 1 from f) (by decide)
  | cons a l => simp
theorem end_draws {p : Pl} (h : PlanOK p) {e : Q} (he : e ∈ endsQ p) : 1 ≤ e.1 + e.2 := by
  obtain ⟨n, _⟩ := end_nn h he
  unfold nn at n
  rcases Int.lt_or_le 0 (e.1 + e.2) with q | q
  · omega
  · exfalso
    have e0 : e = (0, 0) := Prod.ext (show e.1 = 0 by omega) (show e.2 = 0 by omega)
    have g : goesOn p (0, 0) = true := goesOn_iff.mpr ⟨⟨by decide, by decide⟩, by
      show (0 : Int) ∈ row p 0
      rw [h.first]; exact List.mem_singleton.mpr rfl⟩
    have := (List.mem_filter.mp he).2
    rw [e0, g] at this
    cases this
theorem pcf_0 {e : Q} (n : nn e) : 0 ≤ pcf e 0 := by
  unfold nn at n
  unfold pcf
  rcases Nat.eq_zero_or_pos e.1.toNat with q | q
  · have := powI_hi (b := e.1.toNat) (g := e.2.toNat) (j := 0)
    rw [show e.1.toNat + 0 = 0 by omega, ch_zero] at this
    rw [this]
    decide
  · rw [powI_lo q]
    decide
theorem sumZ_ge {α : Type} {f g : α → Int} : ∀ {l : List α}, (∀ x ∈ l, g x ≤ f x) → sumZ l g ≤ sumZ l f
  | [], _ => Int.le_refl _
  | x :: l, h => by
    have h1 := h x List.mem_cons_self
    have h2 := sumZ_ge (l := l) fun y hy => h y (List.mem_cons_of_mem _ hy)
    show g x + sumZ l g ≤ f x + sumZ l f
    omega
theorem zip_self (p : Pl) (f : Q → Q) : zipE p ((endsQ p).map f) = (endsQ p).map fun e => (e, f e) := by
  unfold zipE
  generalize endsQ p = l
  induction l with
  | nil => rfl
  | cons a l ih => rw [List.map_cons, List.zip_cons_cons, ih]; rfl
theorem sumZ_map {α β : Type} (f : α → β) (g : β → Int) : ∀ l : List α, sumZ (l.map f) g = sumZ l fun x => g (f x)
  | [] => rfl
  | x :: l => by
    show g (f x) + sumZ (l.map f) g = _
    rw [sumZ_map f g l]
    rfl
theorem mean_int {p : Pl} (h : PlanOK p) (f : Q → Int) (hn : Nums p ((endsQ p).map fun e => (f e, (1 : Int))) (unB p 1) 1) (k : Nat) : cv (meanN p (zipE p ((endsQ p).map fun e => (f e, (1 : Int))))) k = ((sumZ (endsQ p) fun e => way p (0, 0) e * (f e * pcf e k) : Int) : Rat) := by
  rw [hn.cv_ (fun z hz => hz) k, zip_self, sumZ_map]
  have e : ∀ x : Q, unB p 1 (x, (f x, (1 : Int))) * pcf x k = way p (0, 0) x * (f x * pcf x k) := fun x => by
    unfold unB
    dsimp only
    rw [Int.ediv_one, Int.mul_one, Int.mul_assoc]
  rw [sumZ_congr fun x _ => e x, show ((1 : Int) : Rat) = 1 from by norm_cast]
  grind
/-- the mean of the bad is x times that of the draws -/
theorem bad_draws {p : Pl} (h : PlanOK p) : meanN p (zipE p (badQ p)) = (0, 1) :: meanN p (zipE p (drawsQ p)) := by
  have hzl : ∀ ns : List Q, (zipE p ns).length ≤ 1024 := fun ns => by
    unfold zipE
    rw [List.length_zip]
    exact Nat.le_trans (Nat.min_le_left _ _) (Nat.le_trans (endsIn h).le (by decide))
  have nb := badQ_ok h
  have nd := drawsQ_ok h
  obtain ⟨a1, _, _⟩ := nb.fb (fun z hz => hz) (hzl _)
  obtain ⟨b1, _, _⟩ := nd.fb (fun z hz => hz) (hzl _)
  have wd := wald h
  have ne : meanN p (zipE p (drawsQ p)) ≠ [] := fun z => by
    have c0 := mean_int h (fun e => e.1 + e.2) nd 0
    have z' : cv (meanN p (zipE p (drawsQ p))) 0 = 0 := by rw [z]; exact val_01
    have c1 := z'.symm.trans c0
    have c2 : sumZ (endsQ p) (fun e => way p (0, 0) e * ((e.1 + e.2) * pcf e 0)) = 0 := by
      have : (((0 : Int)) : Rat) = ((sumZ (endsQ p) fun e => way p (0, 0) e * ((e.1 + e.2) * pcf e 0) : Int) : Rat) := by rw [← c1]; rfl
      exact_mod_cast this.symm
    have c3 := sumZ_ge (l := endsQ p) (g := fun e => way p (0, 0) e * pcf e 0) (f := fun e => way p (0, 0) e * ((e.1 + e.2) * pcf e 0)) fun e he => by
      have w := way_pos h he
      have d := end_draws h he
      have q := pcf_0 (end_nn h he).1
      refine Int.mul_le_mul_of_nonneg_left ?_ (Int.le_of_lt w)
      have := Int.mul_le_mul_of_nonneg_right d q
      omega
    rw [flow_poly h (.inl rfl) 0, pcf_00, c2] at c3
    exact absurd c3 (by decide)
  refine polyQ_eq a1 (meanN_trim p _) (fun q hq => ?_) ?_ fun k => ?_
  · rcases List.mem_cons.mp hq with e | e
    · rw [e]; exact ⟨by unfold lowest; decide, by decide⟩
    · exact b1 q e
  · refine trim_done fun h0 h1 => ?_
    have t := meanN_trim p (zipE p (drawsQ p))
    generalize meanN p (zipE p (drawsQ p)) = xs at *
    have hx : 0 < xs.length := List.length_pos_iff.mpr ne
    have l1 : xs.getLastD (0, 1) = (0, 1) := by
      cases xs with
      | nil => exact absurd rfl ne
      | cons a l => exact h1
    have l2 := trim_step hx l1
    have l3 := trim_len xs.dropLast
    rw [l2, t, List.length_dropLast] at l3
    omega
  · rw [show badQ p = (endsQ p).map fun e => (e.1, (1 : Int)) from rfl, mean_int h (fun e => e.1) nb k]
    cases k with
    | zero =>
      rw [wd.1, (cv_cons0 _).1]
      rfl
    | succ k =>
      rw [wd.2 k, (cv_cons0 _).2 k]
      exact (mean_int h (fun e => e.1 + e.2) nd k).symm
end PD
/-! plans written as texts -/
namespace PD
open PySem PySem.Spec PyProof.Rows L2 PySem.Builtin.Str
variable [TN]
def jl (c : Nat) : List (List Nat) → List Nat
  | [] => []
  | [p] => p
  | p :: q :: r => p ++ c :: jl c (q :: r)
theorem jl_cons (c : Nat) (p q : List Nat) (r : List (List Nat)) : jl c (p :: q :: r) = p ++ c :: jl c (q :: r) := rfl
theorem cut_first {c : Nat} : ∀ {p q a b : List Nat}, c ∉ p → c ∉ q → p ++ c :: a = q ++ c :: b → p = q ∧ a = b
  | [], [], _, _, _, _, h => ⟨rfl, by simpa using h⟩
  | [], y :: q, _, _, _, hq, h => by
    have := (List.cons.inj (show c :: _ = y :: _ from h)).1
    exact absurd (List.mem_cons.mpr (.inl this)) hq
  | x :: p, [], _, _, hp, _, h => by
    have := (List.cons.inj (show x :: _ = c :: _ from h)).1
    exact absurd (List.mem_cons.mpr (.inl this.symm)) hp
  | x :: p, y :: q, a, b, hp, hq, h => by
    obtain ⟨e1, e2⟩ := List.cons.inj (show x :: (p ++ c :: a) = y :: (q ++ c :: b) from h)
    obtain ⟨e3, e4⟩ := cut_first (fun z => hp (List.mem_cons_of_mem _ z)) (fun z => hq (List.mem_cons_of_mem _ z)) e2
    exact ⟨by rw [e1, e3], e4⟩
theorem jl_inj {c : Nat} : ∀ {ps qs : List (List Nat)}, (∀ p ∈ ps, c ∉ p) → (∀ q ∈ qs, c ∉ q) → ps ≠ [] → qs ≠ [] → jl c ps = jl c qs → ps = qs
  | [], _, _, _, h, _, _ => absurd rfl h
  | _, [], _, _, _, h, _ => absurd rfl h
  | [p], [q], _, _, _, _, e => by rw [show p = q from e]
  | [p], q :: q2 :: r, hp, _, _, _, e => by
    have : c ∈ p := by rw [show p = q ++ c :: jl c (q2 :: r) from e]; simp
    exact absurd this (hp p (by simp))
  | p :: p2 :: r, [q], _, hq, _, _, e => by
    have : c ∈ q := by rw [← show p ++ c :: jl c (p2 :: r) = q from e]; simp
    exact absurd this (hq q (by simp))
  | p :: p2 :: r, q :: q2 :: t, hp, hq, _, _, e => by
    obtain ⟨e1, e2⟩ := cut_first (hp p (by simp)) (hq q (by simp)) (show p ++ c :: jl c (p2 :: r) = q ++ c :: jl c (q2 :: t) from e)
    have := jl_inj (ps := p2 :: r) (qs := q2 :: t) (fun x hx => hp x (List.mem_cons_of_mem _ hx)) (fun x hx => hq x (List.mem_cons_of_mem _ hx)) (by simp) (by simp) e2
    rw [e1, this]
theorem join_jl (c : Nat) : ∀ ps : List Str, (Str.join (sgn c) ps).cps.toList = jl c (ps.map fun p => p.cps.toList)
  | [] => rfl
  | [p] => rfl
  | p :: q :: r => by
    have ih := join_jl c (q :: r)
    show (p ++ sgn c ++ Str.join (sgn c) (q :: r)).cps.toList = _
    rw [str_app, str_app, ih]
    show (p.cps.toList ++ [c]) ++ jl c ((q :: r).map fun p => p.cps.toList) = _
    rw [List.append_assoc]
    rfl
theorem str_ext {x y : Str} (h : x.cps.toList = y.cps.toList) : x = y := by
  cases x; cases y
  congr 1
  exact Array.toList_inj.mp h
theorem split_join {c : Nat} {ps : List Str} (h : ∀ p ∈ ps, c ∉ p.cps.toList) (h0 : ps ≠ []) : Txt.split (Txt.join (sgn c) ps) (sgn c) = ps := by
  have e := StrLaws.join_split (Txt.join (sgn c) ps) (sgn c)
  have hj : Txt.join (sgn c) ps = Str.join (sgn c) ps := StrLaws.glued_eq_join _ _
  have e2 : (Str.join (sgn c) (Txt.split (Txt.join (sgn c) ps) (sgn c))).cps.toList = (Txt.join (sgn c) ps).cps.toList := congrArg (fun z : Str => z.cps.toList) e
  rw [hj, join_jl, join_jl] at e2
  rw [hj]
  have hne : Txt.split (Str.join (sgn c) ps) (sgn c) ≠ [] := fun z => by
    have := split_pos (Str.join (sgn c) ps) (sgn c)
    rw [z] at this
    simp at this
  have := jl_inj (fun q hq => by
    obtain ⟨s, hs, rfl⟩ := List.mem_map.mp hq
    exact StrLaws.split_free _ c s hs) (fun q hq => by
    obtain ⟨s, hs, rfl⟩ := List.mem_map.mp hq
    exact h s hs) (by simpa using hne) (by simpa using h0) e2
  have inj : ∀ (l m : List Str), l.map (fun p => p.cps.toList) = m.map (fun p => p.cps.toList) → l = m := by
    intro l
    induction l with
    | nil => intro m h; cases m with
      | nil => rfl
      | cons a m => cases h
    | cons a l ih => intro m h; cases m with
      | nil => cases h
      | cons b m =>
        obtain ⟨h1, h2⟩ := List.cons.inj (show a.cps.toList :: l.map (fun p => p.cps.toList) = b.cps.toList :: m.map (fun p => p.cps.toList) from h)
        rw [str_ext h1, ih m h2]
  exact inj _ _ this
/-! numbers as words -/
def itx (i : Int) : Str := (toString i : String)
def figs : Str := "0123456789"
structure Word (w : Str) (b : Int) : Prop where
  ne : w ≠ ""
  len : 1 ≤ w.length ∧ w.length ≤ 2
  nought : 1 < w.length → ∀ c, w.cps.toList[0]? = some c → c ≠ 48
  figs : ∀ c ∈ w.cps.toList, c ∈ figs.cps.toList
  val : PySem.intText? w = some b
def wordB (n : Nat) : Bool := let w := itx (n : Int); !decide (w = "") && decide (1 ≤ w.length) && decide (w.length ≤ 2) && (decide (w.length ≤ 1) || !decide (w.cps.toList[0]? = some 48)) && w.cps.toList.all (fun c => decide (c ∈ figs.cps.toList)) && decide (PySem.intText? w = some (n : Int))
theorem wordB_all : (List.range 25).all wordB = true := by decide +kernel
theorem word_ok {b : Int} (h0 : 0 ≤ b) (h1 : b ≤ 24) : Word (itx b) b := by
  have h := List.all_eq_true.mp wordB_all b.toNat (List.mem_range.mpr (by omega))
  unfold wordB at h
  rw [show ((b.toNat : Nat) : Int) = b by omega] at h
  simp only [Bool.and_eq_true, Bool.not_eq_true', decide_eq_true_eq, decide_eq_false_iff_not, Bool.or_eq_true, List.all_eq_true] at h
  obtain ⟨⟨⟨⟨⟨a1, a2⟩, a3⟩, a4⟩, a5⟩, a6⟩ := h
  refine ⟨a1, ⟨a2, a3⟩, fun hl c hc e => ?_, a5, a6⟩
  rcases a4 with q | q
  · omega
  · rw [hc, e] at q
    exact q rfl
theorem word_free {w : Str} {b : Int} (h : Word w b) : 32 ∉ w.cps.toList ∧ 124 ∉ w.cps.toList := by
  constructor
  · intro z; exact absurd (h.figs _ z) (by decide +kernel)
  · intro z; exact absurd (h.figs _ z) (by decide +kernel)
def rowX (r : List Int) : Str := Txt.join " " (r.map itx)
def planX (p : Pl) : Str := Txt.join "|" (p.map rowX)
def Row24 (r : List Int) : Prop := r ≠ [] ∧ ∀ b ∈ r, 0 ≤ b ∧ b ≤ 24
theorem split_row {r : List Int} (h : Row24 r) : Txt.split (rowX r) " " = r.map itx := split_join (c := 32) (fun w hw => by
  obtain ⟨b, hb, rfl⟩ := List.mem_map.mp hw
  exact (word_free (word_ok (h.2 b hb).1 (h.2 b hb).2)).1) (by simpa using h.1)
theorem mem_jl {c d : Nat} (h : c ≠ d) : ∀ {ps : List (List Nat)}, (∀ p ∈ ps, c ∉ p) → c ∉ jl d ps
  | [], _ => by simp [jl]
  | [p], hp => hp p (by simp)
  | p :: q :: r, hp => by
    rw [jl_cons]
    intro z
    rcases List.mem_append.mp z with z | z
    · exact hp p (by simp) z
    · rcases List.mem_cons.mp z with z | z
      · exact h z
      · exact mem_jl h (fun x hx => hp x (List.mem_cons_of_mem _ hx)) z
theorem row_free {r : List Int} (h : Row24 r) : 124 ∉ (rowX r).cps.toList := by
  unfold rowX
  rw [show Txt.join " " (r.map itx) = Str.join (sgn 32) (r.map itx) from StrLaws.glued_eq_join _ _, join_jl]
  refine mem_jl (by decide) fun p hp => ?_
  obtain ⟨w, hw, rfl⟩ := List.mem_map.mp hp
  obtain ⟨b, hb, rfl⟩ := List.mem_map.mp hw
  exact (word_free (word_ok (h.2 b hb).1 (h.2 b hb).2)).2
theorem split_plan {p : Pl} (h : ∀ r ∈ p, Row24 r) (h0 : p ≠ []) : Txt.split (planX p) "|" = p.map rowX := split_join (c := 124) (fun w hw => by
  obtain ⟨r, hr, rfl⟩ := List.mem_map.mp hw
  exact row_free (h r hr)) (by simpa using h0)
def numX (w : Str) : Int := (PySem.intText? w).getD 0
theorem numX_itx {b : Int} (h0 : 0 ≤ b) (h1 : b ≤ 24) : numX (itx b) = b := by
  unfold numX
  rw [(word_ok h0 h1).val]
  rfl
theorem nums_row {r : List Int} (h : Row24 r) : (r.map itx).map numX = r := by
  rw [List.map_map]
  refine (List.map_congr_left fun b hb => ?_).trans (List.map_id r)
  exact numX_itx (h.2 b hb).1 (h.2 b hb).2
theorem row24 {p : Pl} (hp : PlanOK p) : ∀ r ∈ p, Row24 r := fun r hr => by
  obtain ⟨k, hk⟩ := List.getElem?_of_mem hr
  have hlt := (List.getElem?_eq_some_iff.mp hk).1
  have e : row p k = r := by
    unfold row
    rw [List.getD_eq_getElem?_getD, hk]
    rfl
  have h24 := hp.len
  refine ⟨fun z => hp.ne k hlt (e.trans z), fun b hb => ?_⟩
  have := hp.in_ (k := k) (x := b) (by rw [e]; exact hb)
  omega
/-- lengths -/
theorem sum_le {l : List Nat} {n : Nat} (h : ∀ x ∈ l, x ≤ n) : l.sum ≤ l.length * n := by
  induction l with
  | nil => simp
  | cons a l ih =>
    have h1 := h a (by simp)
    have h2 := ih fun x hx => h x (List.mem_cons_of_mem _ hx)
    rw [List.sum_cons, List.length_cons, Nat.succ_mul]
    omega
theorem join_len (s : Str) {ps : List Str} {n : Nat} (h : ∀ p ∈ ps, p.length ≤ n) : (Txt.join s ps).length ≤ ps.length * n + ps.length * s.length := by
  have e := StrLaws.join_length_le s ps
  rw [← StrLaws.glued_eq_join s ps] at e
  have := sum_le (l := ps.map (·.length)) (n := n) fun x hx => by
    obtain ⟨p, hp, rfl⟩ := List.mem_map.mp hx
    exact h p hp
  rw [List.length_map] at this
  exact Nat.le_trans e (by omega)
theorem rowX_len {r : List Int} (h : Row24 r) (hl : r.length ≤ 30) : (rowX r).length ≤ 90 := by
  have := join_len " " (ps := r.map itx) (n := 2) fun w hw => by
    obtain ⟨b, hb, rfl⟩ := List.mem_map.mp hw
    exact (word_ok (h.2 b hb).1 (h.2 b hb).2).len.2
  rw [List.length_map] at this
  have e : (" " : Str).length = 1 := rfl
  rw [e] at this
  exact Nat.le_trans this (by omega)
theorem planX_len {p : Pl} (hp : PlanOK p) : (planX p).length ≤ 3000 := by
  have h24 := hp.len
  have := join_len "|" (ps := p.map rowX) (n := 90) fun w hw => by
    obtain ⟨r, hr, rfl⟩ := List.mem_map.mp hw
    obtain ⟨k, hk⟩ := List.getElem?_of_mem hr
    have e : row p k = r := by
      unfold row
      rw [List.getD_eq_getElem?_getD, hk]
      rfl
    exact rowX_len (row24 hp r hr) (by rw [← e]; have := hp.row_len k; have := (List.getElem?_eq_some_iff.mp hk).1; omega)
  rw [List.length_map] at this
  have e : ("|" : Str).length = 1 := rfl
  rw [e] at this
  exact Nat.le_trans this (by omega)
/-- the longest plan of all -/
def allP : Pl := (List.range 24).map fun k => rngT 0 (k + 1)
theorem allP_ok : PlanOK allP := by
  have e : ∀ k, k < 24 → row allP k = rngT 0 (k + 1) := fun k hk => by
    unfold row allP
    rw [List.getD_eq_getElem?_getD, List.getElem?_map, List.getElem?_range hk]
    rfl
  refine ⟨by unfold allP; rw [List.length_map, List.length_range]; exact Nat.le_refl _, by unfold allP; rw [List.length_map, List.length_range]; decide, e 0 (by decide), fun k hk => ?_, fun k => ?_, fun k x hx => ?_⟩
  · unfold allP at hk
    rw [List.length_map, List.length_range] at hk
    rw [e k hk]
    intro z
    have := congrArg List.length z
    rw [rngT_len] at this
    cases this
  · rcases Nat.lt_or_ge k 24 with q | q
    · rw [e k q]
      unfold rngT
      refine List.pairwise_map.mpr ?_
      exact List.pairwise_lt_range.imp fun h => by omega
    · rw [row_out (by unfold allP; rw [List.length_map, List.length_range]; exact q)]
      exact .nil
  · rcases Nat.lt_or_ge (k + 1) 24 with q | q
    · rw [e _ q] at hx
      have hm := mem_rngT.mp hx
      rw [nxt_mem, e k (by omega), mem_rngT, mem_rngT]
      omega
    · rw [row_out (by unfold allP; rw [List.length_map, List.length_range]; exact q)] at hx
      cases hx
end PD
/-! rules by ratio: the falling order, the first ends whose odds keep to a most -/
namespace PD
open PySem PySem.Spec PyProof.Rows L2
variable [TN]
section
variable {α β : Type}
/-- where x is put: behind the last one of the first k that is not below it -/
def posF (lt : α → α → Bool) (d x : α) (row : List α) : Nat → Nat
  | 0 => 0
  | k + 1 => if lt (row.getD k d) x = true then posF lt d x row k else k + 1
def insF (lt : α → α → Bool) (d : α) (row : List α) (x : α) : List α := row.take (posF lt d x row row.length) ++ x :: row.drop (posF lt d x row row.length)
def fallF (lt : α → α → Bool) (d : α) (l : List α) : List α := l.foldl (insF lt d) []
theorem fallF_snoc (lt : α → α → Bool) (d : α) (l : List α) (x : α) : fallF lt d (l ++ [x]) = insF lt d (fallF lt d l) x := by
  unfold fallF
  rw [List.foldl_append]
  rfl
theorem posF_le (lt : α → α → Bool) (d x : α) (row : List α) : ∀ k, posF lt d x row k ≤ k
  | 0 => Nat.le_refl _
  | k + 1 => by
    show (if _ then _ else _) ≤ _
    split
    · exact Nat.le_succ_of_le (posF_le lt d x row k)
    · exact Nat.le_refl _
theorem posF_go {lt : α → α → Bool} {d x : α} {row : List α} {k : Nat} (h : lt (row.getD k d) x = true) : posF lt d x row (k + 1) = posF lt d x row k := if_pos h
theorem posF_stop {lt : α → α → Bool} {d x : α} {row : List α} {k : Nat} (h : lt (row.getD k d) x = false) : posF lt d x row (k + 1) = k + 1 := if_neg (by rw [h]; exact Bool.false_ne_true)
theorem insF_perm (lt : α → α → Bool) (d x : α) (row : List α) : (insF lt d row x).Perm (x :: row) := by
  unfold insF
  have h := List.perm_middle (a := x) (l₁ := row.take (posF lt d x row row.length)) (l₂ := row.drop (posF lt d x row row.length))
  rw [List.take_append_drop] at h
  exact h
theorem fallF_perm (lt : α → α → Bool) (d : α) (l : List α) : (fallF lt d l).Perm l := by
  have key : ∀ (l row : List α), (l.foldl (insF lt d) row).Perm (l ++ row) := by
    intro l
    induction l with
    | nil => intro row; exact List.Perm.refl _
    | cons x l ih =>
      intro row
      refine (ih _).trans ?_
      refine ((insF_perm lt d x row).append_left l).trans ?_
      exact List.perm_middle
  have := key l []
  rw [List.append_nil] at this
  exact this
theorem insF_len (lt : α → α → Bool) (d x : α) (row : List α) : (insF lt d row x).length = row.length + 1 := by
  rw [(insF_perm lt d x row).length_eq, List.length_cons]
/-- the same order of items that stand for others -/
theorem posF_map {lt : α → α → Bool} {lt2 : β → β → Bool} {d x : α} {d2 : β} {g : α → β} {row : List α} (h : ∀ y ∈ row, lt2 (g y) (g x) = lt y x) : ∀ k, k ≤ row.length → posF lt2 d2 (g x) (row.map g) k = posF lt d x row k
  | 0, _ => rfl
  | k + 1, hk => by
    have e : (row.map g).getD k d2 = g (row.getD k d) := by
      rw [List.getD_eq_getElem?_getD, List.getElem?_map, List.getD_eq_getElem?_getD, List.getElem?_eq_getElem (by omega)]
      rfl
    have m : row.getD k d ∈ row := by
      rw [List.getD_eq_getElem?_getD, List.getElem?_eq_getElem (by omega)]
      exact List.getElem_mem _
    show (if _ then _ else _) = (if _ then _ else _)
    rw [e, h _ m, posF_map h k (by omega)]
theorem fallF_map {lt : α → α → Bool} {lt2 : β → β → Bool} {d : α} {d2 : β} {g : α → β} {l : List α} (h : ∀ y ∈ l, ∀ x ∈ l, lt2 (g y) (g x) = lt y x) : fallF lt2 d2 (l.map g) = (fallF lt d l).map g := by
  have key : ∀ (m row : List α), (∀ y ∈ m, y ∈ l) → (∀ y ∈ row, y ∈ l) → (m.map g).foldl (insF lt2 d2) (row.map g) = (m.foldl (insF lt d) row).map g := by
    intro m
    induction m with
    | nil => intro row _ _; rfl
    | cons x m ih =>
      intro row hm hr
      have hx := hm x List.mem_cons_self
      have e : insF lt2 d2 (row.map g) (g x) = (insF lt d row x).map g := by
        unfold insF
        rw [List.length_map, posF_map (d := d) (fun y hy => h y (hr y hy) x hx) row.length (Nat.le_refl _), List.map_append, List.map_cons, List.map_take, List.map_drop]
      rw [List.map_cons, List.foldl_cons, e, ih _ (fun y hy => hm y (List.mem_cons_of_mem _ hy)) fun y hy => ?_]
      · rfl
      · rcases List.mem_cons.mp ((insF_perm lt d x row).mem_iff.mp hy) with q | q
        · rw [q]; exact hx
        · exact hr y q
  exact key l [] (fun y hy => hy) (fun y hy => by cases hy)
end
/-! ### fractions -/
def ltQ (a b : Q) : Bool := decide (a.1 * b.2 < b.1 * a.2)
theorem ltQ_val {a b : Q} (ha : 0 < a.2) (hb : 0 < b.2) : ltQ a b = decide (val a < val b) := decide_eq_decide.mpr (lt_val ha hb)
/-- odds put together -/
def sumF (f : Q → Q) (l : List Q) : Q := l.foldl (fun w e => qadd w (f e)) (0, 1)
theorem sumF_snoc (f : Q → Q) (l : List Q) (e : Q) : sumF f (l ++ [e]) = qadd (sumF f l) (f e) := by
  unfold sumF
  rw [List.foldl_append]
  rfl
theorem sumF_ok {f : Q → Q} : ∀ {l : List Q}, (∀ e ∈ l, 0 < (f e).2) → 0 < (sumF f l).2 ∧ lowest (sumF f l) ∧ val (sumF f l) = sumL l fun e => val (f e) := by
  have key : ∀ (l : List Q) (w : Q), (∀ e ∈ l, 0 < (f e).2) → 0 < w.2 → lowest w → 0 < (l.foldl (fun w e => qadd w (f e)) w).2 ∧ lowest (l.foldl (fun w e => qadd w (f e)) w) ∧ val (l.foldl (fun w e => qadd w (f e)) w) = val w + sumL l fun e => val (f e) := by
    intro l
    induction l with
    | nil => intro w _ h1 h2; exact ⟨h1, h2, by show val w = val w + 0; grind⟩
    | cons e l ih =>
      intro w h h1 h2
      have he := h e List.mem_cons_self
      have p : 0 < (qadd w (f e)).2 := by
        have := (qadd_FB (m := w.1.natAbs + w.2.natAbs) (n := (f e).1.natAbs + (f e).2.natAbs) (a := w) (b := f e) ⟨h1, Nat.lt_of_le_of_lt (Nat.le_add_right _ _) Nat.lt_two_pow_self, Nat.lt_of_le_of_lt (Nat.le_add_left _ _) Nat.lt_two_pow_self⟩ ⟨he, Nat.lt_of_le_of_lt (Nat.le_add_right _ _) Nat.lt_two_pow_self, Nat.lt_of_le_of_lt (Nat.le_add_left _ _) Nat.lt_two_pow_self⟩).1
        exact this
      obtain ⟨a, b, c⟩ := ih (qadd w (f e)) (fun y hy => h y (List.mem_cons_of_mem _ hy)) p (qadd_low h1 he)
      refine ⟨a, b, ?_⟩
      rw [List.foldl_cons, c, val_add h1 he]
      show _ = val w + (val (f e) + sumL l fun e => val (f e))
      grind
  intro l h
  obtain ⟨a, b, c⟩ := key l (0, 1) h (by decide) (by unfold lowest; decide)
  refine ⟨a, b, ?_⟩
  unfold sumF
  rw [c, val_01]
  grind
/-- how many of the first keep to the most -/
def takeF (f : Q → Q) (most : Q) : Q → List Q → Nat
  | _, [] => 0
  | w, e :: r => if ltQ most (qadd w (f e)) = true then 0 else 1 + takeF f most (qadd w (f e)) r
def nTake (f : Q → Q) (most : Q) (l : List Q) : Nat := takeF f most (0, 1) l
theorem takeF_at {f : Q → Q} {most : Q} {l : List Q} {i : Nat} {e : Q} (h : nTake f most l = i + takeF f most (sumF f (l.take i)) (l.drop i)) (he : l[i]? = some e) :
    (ltQ most (qadd (sumF f (l.take i)) (f e)) = true → nTake f most l = i) ∧ (ltQ most (qadd (sumF f (l.take i)) (f e)) = false → nTake f most l = (i + 1) + takeF f most (sumF f (l.take (i + 1))) (l.drop (i + 1))) := by
  obtain ⟨hl, e1⟩ := List.getElem?_eq_some_iff.mp he
  have hd : l.drop i = e :: l.drop (i + 1) := by rw [List.drop_eq_getElem_cons hl, e1]
  have ht : l.take (i + 1) = l.take i ++ [e] := by
    rw [List.take_succ, he]
    rfl
  rw [hd] at h
  constructor
  · intro q
    rw [h]
    show i + (if _ then _ else _) = i
    rw [if_pos q]
    omega
  · intro q
    rw [h, ht, sumF_snoc]
    show i + (if _ then _ else _) = _
    rw [if_neg (by rw [q]; exact Bool.false_ne_true)]
    omega
theorem nTake_le (f : Q → Q) (most : Q) (l : List Q) : nTake f most l ≤ l.length := by
  have key : ∀ (l : List Q) (w : Q), takeF f most w l ≤ l.length := by
    intro l
    induction l with
    | nil => intro w; exact Nat.le_refl _
    | cons e l ih =>
      intro w
      show (if _ then _ else _) ≤ _
      split
      · exact Nat.zero_le _
      · exact Nat.le_trans (Nat.add_le_add_left (ih _) 1) (by rw [List.length_cons, Nat.add_comm]; exact Nat.le_refl _)
  exact key l _
/-- by whole numbers over one bottom -/
theorem takeF_int {f : Q → Q} {g : Q → Int} {U : Int} {most : Q} {l : List Q} (hU : 0 < U) (hm : 0 < most.2) (hf : ∀ e ∈ l, 0 < (f e).2 ∧ val (f e) = (g e : Rat) / (U : Rat)) {i : Nat} (hi : i < l.length) :
    ltQ most (qadd (sumF f (l.take i)) (f (l.getD i (0, 1)))) = decide (most.1 * U < ((l.take (i + 1)).map g).sum * most.2) := by
  have he : l[i]? = some (l.getD i (0, 1)) := by rw [List.getD_eq_getElem?_getD, List.getElem?_eq_getElem hi]; rfl
  have hm1 := List.mem_of_getElem? he
  have ht : l.take (i + 1) = l.take i ++ [l.getD i (0, 1)] := by
    rw [List.take_succ, he]
    rfl
  rw [← sumF_snoc, ← ht]
  obtain ⟨a, b, c⟩ := sumF_ok (f := f) (l := l.take (i + 1)) fun e he => (hf e (List.mem_of_mem_take he)).1
  rw [ltQ_val hm a, c]
  have s : ∀ m : List Q, (∀ e ∈ m, val (f e) = (g e : Rat) / (U : Rat)) → sumL m (fun e => val (f e)) = ((m.map g).sum : Rat) / (U : Rat) := by
    intro m
    induction m with
    | nil => intro _; show (0 : Rat) = ((0 : Int) : Rat) / (U : Rat); rw [show ((0 : Int) : Rat) = 0 from rfl, Rat.div_def, Rat.zero_mul]
    | cons x m ih =>
      intro h
      show val (f x) + sumL m _ = _
      rw [ih fun e he => h e (List.mem_cons_of_mem _ he), h x List.mem_cons_self, List.map_cons, List.sum_cons]
      push_cast
      grind
  rw [s _ fun e he => (hf e (List.mem_of_mem_take he)).2]
  generalize ((l.take (i + 1)).map g).sum = F
  exact decide_eq_decide.mpr (lt_val (a := most) (b := (F, U)) hm hU).symm
theorem sumF_int {f : Q → Q} {g : Q → Int} {U : Int} {m : List Q} (h : ∀ e ∈ m, val (f e) = (g e : Rat) / (U : Rat)) : sumL m (fun e => val (f e)) = ((m.map g).sum : Rat) / (U : Rat) := by
  induction m with
  | nil => show (0 : Rat) = ((0 : Int) : Rat) / (U : Rat); rw [show ((0 : Int) : Rat) = 0 from rfl, Rat.div_def, Rat.zero_mul]
  | cons x m ih =>
    show val (f x) + sumL m _ = _
    rw [ih fun e he => h e (List.mem_cons_of_mem _ he), h x List.mem_cons_self, List.map_cons, List.sum_cons]
    push_cast
    grind
end PD
/-! the odds of ends at two shares, by whole numbers -/
namespace PD
open PySem PySem.Spec PyProof.Rows L2
variable [TN]
/-- a share t over b -/
structure ShI (a : Q) (t b : Int) : Prop where
  sh : Sh a
  t0 : 0 < t
  tb : t < b
  bb : b ≤ 1000000000002
  v : val a = (t : Rat) / (b : Rat)
def topI (t b : Int) (e : Q) : Int := t ^ e.1.toNat * (b - t) ^ e.2.toNat
def oddI (p : Pl) (t b : Int) (e : Q) : Int := way p (0, 0) e * topI t b e * b ^ ((p.length : Int) - e.1 - e.2).toNat
def oddF (p : Pl) (a e : Q) : Q := qmul (way p (0, 0) e, 1) (weightQ e.1.toNat e.2.toNat a)
def hgtF (p : Pl) (lo hi e : Q) : Q := qdiv (oddF p hi e) (oddF p lo e)
theorem topI_pos {t b : Int} (h0 : 0 < t) (h1 : t < b) (e : Q) : 0 < topI t b e := Int.mul_pos (Int.pow_pos h0) (Int.pow_pos (by omega))
theorem div_pow (x y : Rat) : ∀ n : Nat, (x / y) ^ n = x ^ n / y ^ n
  | 0 => by rw [Rat.pow_zero, Rat.pow_zero, Rat.pow_zero]; rw [Rat.div_def, show (1 : Rat)⁻¹ = 1 from by decide +kernel, Rat.mul_one]
  | n + 1 => by
    rw [Rat.pow_succ, Rat.pow_succ, Rat.pow_succ, div_pow x y n, Rat.div_def, Rat.div_def, Rat.div_def, Rat.inv_mul_rev]
    grind
theorem weight_int {a : Q} {t b : Int} (h : ShI a t b) (e : Q) : val a ^ e.1.toNat * (1 - val a) ^ e.2.toNat = (topI t b e : Rat) / ((b ^ (e.1.toNat + e.2.toNat) : Int) : Rat) := by
  have hb : 0 < b := by have := h.t0; have := h.tb; omega
  have cb := cast_ne (Int.ne_of_gt hb)
  have e1 : 1 - val a = ((b - t : Int) : Rat) / (b : Rat) := by
    rw [h.v]
    push_cast
    grind
  rw [h.v] at *
  rw [e1, div_pow, div_pow]
  unfold topI
  have c1 : (b : Rat) ^ e.1.toNat ≠ 0 := by
    have := cast_ne (Int.ne_of_gt (Int.pow_pos (m := e.1.toNat) hb))
    push_cast at this
    exact this
  have c2 : (b : Rat) ^ e.2.toNat ≠ 0 := by
    have := cast_ne (Int.ne_of_gt (Int.pow_pos (m := e.2.toNat) hb))
    push_cast at this
    exact this
  rw [Int.pow_add]
  push_cast
  grind
theorem oddF_ok {p : Pl} (hp : PlanOK p) {a : Q} {t b : Int} (h : ShI a t b) {e : Q} (he : e ∈ endsQ p) : FB 5200 (oddF p a e) ∧ lowest (oddF p a e) ∧ val (oddF p a e) = (oddI p t b e : Rat) / ((b ^ p.length : Int) : Rat) ∧ 0 < oddI p t b e ∧ (oddF p a e).1 ≠ 0 := by
  obtain ⟨n, q⟩ := end_nn hp he
  have h24 := hp.len
  unfold nn at n
  unfold lv at q
  have hb : 0 < b := by have := h.t0; have := h.tb; omega
  have w := weight_ok h.sh (x := e.1.toNat) (y := e.2.toNat) (by omega) (by omega)
  have W : Bd 28 (way p (0, 0) e) := way_bd (by unfold lv; omega)
  have wp := way_pos hp he
  have f1 : FB 28 (way p (0, 0) e, (1 : Int)) := FB_n1 W (by decide)
  have pos : 0 < oddI p t b e := Int.mul_pos (Int.mul_pos wp (topI_pos h.t0 h.tb e)) (Int.pow_pos hb)
  have v : val (oddF p a e) = (oddI p t b e : Rat) / ((b ^ p.length : Int) : Rat) := by
    unfold oddF
    rw [val_mul f1.1 w.1.1, w.2.1, weight_int h e]
    unfold oddI
    have e2 : p.length = (e.1.toNat + e.2.toNat) + ((p.length : Int) - e.1 - e.2).toNat := by omega
    have e3 : (b ^ p.length : Int) = b ^ (e.1.toNat + e.2.toNat) * b ^ ((p.length : Int) - e.1 - e.2).toNat := by
      rw [← Int.pow_add, ← e2]
    rw [e3]
    have c1 := cast_ne (Int.ne_of_gt (Int.pow_pos (m := e.1.toNat + e.2.toNat) hb))
    have c2 := cast_ne (Int.ne_of_gt (Int.pow_pos (m := ((p.length : Int) - e.1 - e.2).toNat) hb))
    generalize (b ^ (e.1.toNat + e.2.toNat) : Int) = x at *
    generalize (b ^ ((p.length : Int) - e.1 - e.2).toNat : Int) = y at *
    unfold val
    push_cast
    grind
  have f := (qmul_FB f1 w.1).mono (show 28 + 5100 ≤ 5200 by decide)
  refine ⟨f, qmul_low f1.1 w.1.1, v, pos, ?_⟩
  have hv : 0 < val (oddF p a e) := by
    rw [v]
    rw [Rat.div_def]
    exact Rat.mul_pos (cast_pos pos) (Rat.inv_pos.mpr (cast_pos (Int.pow_pos hb)))
  exact Int.ne_of_gt ((val_pos f.1).mpr hv)
theorem hgtF_ok {p : Pl} (hp : PlanOK p) {lo hi : Q} {tl th b : Int} (hl : ShI lo tl b) (hh : ShI hi th b) {e : Q} (he : e ∈ endsQ p) : FB 10400 (hgtF p lo hi e) ∧ lowest (hgtF p lo hi e) ∧ val (hgtF p lo hi e) = (topI th b e : Rat) / (topI tl b e : Rat) := by
  obtain ⟨f1, l1, v1, p1, n1⟩ := oddF_ok hp hl he
  obtain ⟨f2, l2, v2, p2, n2⟩ := oddF_ok hp hh he
  refine ⟨(qdiv_FB f2 f1 n1).mono (by decide), qdiv_low f2.1 n1, ?_⟩
  unfold hgtF
  rw [val_div f2.1 f1.1 n1, v1, v2]
  have hb : 0 < b := by have := hl.t0; have := hl.tb; omega
  have c1 := cast_ne (Int.ne_of_gt (Int.pow_pos (m := p.length) hb))
  have c2 := cast_ne (Int.ne_of_gt (way_pos hp he))
  have c3 := cast_ne (Int.ne_of_gt (topI_pos hl.t0 hl.tb e))
  have c4 := cast_ne (Int.ne_of_gt (Int.pow_pos (m := ((p.length : Int) - e.1 - e.2).toNat) hb))
  unfold oddI
  generalize (b ^ p.length : Int) = x at *
  generalize (b ^ ((p.length : Int) - e.1 - e.2).toNat : Int) = y at *
  push_cast
  grind
theorem hgt_lt {p : Pl} (hp : PlanOK p) {lo hi : Q} {tl th b : Int} (hl : ShI lo tl b) (hh : ShI hi th b) {x y : Q} (hx : x ∈ endsQ p) (hy : y ∈ endsQ p) : ltQ (hgtF p lo hi y) (hgtF p lo hi x) = decide (topI th b y * topI tl b x < topI th b x * topI tl b y) := by
  obtain ⟨f1, l1, v1⟩ := hgtF_ok hp hl hh hx
  obtain ⟨f2, l2, v2⟩ := hgtF_ok hp hl hh hy
  rw [ltQ_val f2.1 f1.1, v1, v2]
  exact decide_eq_decide.mpr (lt_val (a := (topI th b y, topI tl b y)) (b := (topI th b x, topI tl b x)) (topI_pos hl.t0 hl.tb y) (topI_pos hl.t0 hl.tb x)).symm
/-- all odds come to one -/
theorem odds_all {p : Pl} (hp : PlanOK p) {a : Q} {t b : Int} (h : ShI a t b) : ((endsQ p).map (oddI p t b)).sum = b ^ p.length := by
  have hb : 0 < b := by have := h.t0; have := h.tb; omega
  have f := flow hp (b := (0, 0)) (.inl rfl) (fun c => val a ^ c.1.toNat * (1 - val a) ^ c.2.toNat) (fun c g => by
    have n := (goesOn_nn g).1
    unfold nn at n
    unfold kidB kidG
    dsimp only
    rw [show (c.1 + 1).toNat = c.1.toNat + 1 by omega, show (c.2 + 1).toNat = c.2.toNat + 1 by omega, Rat.pow_succ, Rat.pow_succ]
    grind)
  have z : (val a ^ ((0, 0) : Q).1.toNat * (1 - val a) ^ ((0, 0) : Q).2.toNat : Rat) = 1 := by
    show val a ^ 0 * (1 - val a) ^ 0 = 1
    rw [Rat.pow_zero, Rat.pow_zero, Rat.mul_one]
  have f2 := f.trans z
  have s := sumF_int (f := oddF p a) (g := oddI p t b) (U := b ^ p.length) (m := endsQ p) fun e he => (oddF_ok hp h he).2.2.1
  have k : sumL (endsQ p) (fun e => val (oddF p a e)) = sumL (endsQ p) (fun e => (way p (0, 0) e : Rat) * (val a ^ e.1.toNat * (1 - val a) ^ e.2.toNat)) := sumL_congr fun e he => by
    obtain ⟨n, q⟩ := end_nn hp he
    have h24 := hp.len
    unfold nn at n
    unfold lv at q
    have w := weight_ok h.sh (x := e.1.toNat) (y := e.2.toNat) (by omega) (by omega)
    unfold oddF
    rw [val_mul (show 0 < (way p (0, 0) e, (1 : Int)).2 from (by decide : (0 : Int) < 1)) w.1.1, w.2.1]
    unfold val
    push_cast
    grind
  rw [k, f2] at s
  have c := cast_ne (Int.ne_of_gt (Int.pow_pos (m := p.length) hb))
  have e : (((endsQ p).map (oddI p t b)).sum : Rat) = ((b ^ p.length : Int) : Rat) := by grind
  exact_mod_cast e
theorem take_sumI {l : List Int} (h : ∀ x ∈ l, 0 ≤ x) (i : Nat) : 0 ≤ (l.take i).sum ∧ (l.take i).sum ≤ l.sum := by
  have nn : ∀ m : List Int, (∀ x ∈ m, 0 ≤ x) → 0 ≤ m.sum := by
    intro m
    induction m with
    | nil => intro _; exact Int.le_refl _
    | cons x m ih =>
      intro h
      have h1 := h x List.mem_cons_self
      have h2 := ih fun y hy => h y (List.mem_cons_of_mem _ hy)
      rw [List.sum_cons]
      omega
  have a := nn (l.take i) fun x hx => h x (List.mem_of_mem_take hx)
  have b := nn (l.drop i) fun x hx => h x (List.mem_of_mem_drop hx)
  have c : l.sum = (l.take i).sum + (l.drop i).sum := by
    rw [← List.sum_append, List.take_append_drop]
  omega
theorem sum_perm {l m : List Int} (h : l.Perm m) : l.sum = m.sum := by
  induction h with
  | nil => rfl
  | cons x _ ih => rw [List.sum_cons, List.sum_cons, ih]
  | swap x y l => rw [List.sum_cons, List.sum_cons, List.sum_cons, List.sum_cons]; omega
  | trans _ _ a b => exact a.trans b
/-- odds of some of the ends -/
theorem some_odds {p : Pl} (hp : PlanOK p) {a : Q} {t b : Int} (h : ShI a t b) {l : List Q} (hl : l.Perm (endsQ p)) (i : Nat) : 0 ≤ ((l.take i).map (oddI p t b)).sum ∧ ((l.take i).map (oddI p t b)).sum ≤ b ^ p.length ∧ Bd 1000 (b ^ p.length) ∧
    0 < (sumF (oddF p a) (l.take i)).2 ∧ lowest (sumF (oddF p a) (l.take i)) ∧ val (sumF (oddF p a) (l.take i)) = (((l.take i).map (oddI p t b)).sum : Rat) / ((b ^ p.length : Int) : Rat) ∧ FB 1001 (sumF (oddF p a) (l.take i)) := by
  have hb : 0 < b := by have := h.t0; have := h.tb; omega
  have hm : ∀ e ∈ l, e ∈ endsQ p := fun e he => hl.mem_iff.mp he
  have ts := take_sumI (l := l.map (oddI p t b)) (fun x hx => by
    obtain ⟨e, he, rfl⟩ := List.mem_map.mp hx
    exact Int.le_of_lt (oddF_ok hp h (hm e he)).2.2.2.1) i
  rw [← List.map_take, sum_perm (hl.map (oddI p t b)), odds_all hp h] at ts
  have h24 := hp.len
  have hU : Bd 1000 (b ^ p.length) := (bd_pow (n := 40) (show Bd 40 b from .of (by omega) (by have := h.bb; omega)) (by decide) p.length).mono (by omega)
  obtain ⟨q1, q2, q3⟩ := sumF_ok (f := oddF p a) (l := l.take i) fun e he => (oddF_ok hp h (hm e (List.mem_of_mem_take he))).1.1
  have q4 := q3.trans (sumF_int (g := oddI p t b) (U := b ^ p.length) fun e he => (oddF_ok hp h (hm e (List.mem_of_mem_take he))).2.2.1)
  refine ⟨ts.1, ts.2, hU, q1, q2, q4, fb_over q2 q1 (Int.pow_pos hb) ?_ (hU.mono (by decide)) q4⟩
  unfold Bd at hU ⊢
  have : (((l.take i).map (oddI p t b)).sum).natAbs ≤ (b ^ p.length).natAbs := by omega
  exact Nat.lt_of_le_of_lt this (Nat.lt_trans hU (Nat.pow_lt_pow_right (by decide) (by decide)))
end PD
/-! the odds of ends in lots, over one bottom; their order -/
namespace PD
open PySem PySem.Spec PyProof.Rows L2
variable [TN]
def topL (p : Pl) (s b : Int) (e : Q) : Int := way p (0, 0) e * lotU p s b e
theorem fallN_nn {n : Int} (h0 : 0 ≤ n) : ∀ k : Nat, 0 ≤ fallN n k ∧ (n < k → fallN n k = 0)
  | 0 => ⟨by show (0 : Int) ≤ 1; decide, fun h => by omega⟩
  | k + 1 => by
    have ih := fallN_nn h0 k
    rw [fallN_succ]
    rcases Int.lt_trichotomy n k with q | q | q
    · rw [ih.2 q, Int.zero_mul]
      exact ⟨Int.le_refl _, fun _ => rfl⟩
    · rw [q, Int.sub_self, Int.mul_zero]
      exact ⟨Int.le_refl _, fun _ => rfl⟩
    · exact ⟨Int.mul_nonneg ih.1 (by omega), fun h => by omega⟩
theorem topL_ok {p : Pl} {s b : Int} (h : LotOK p s b) {e : Q} (he : e ∈ endsQ p) : val (lotQ p e s b) = (topL p s b e : Rat) / (fallN s p.length : Rat) ∧ 0 ≤ topL p s b e ∧ lowest (lotQ p e s b) ∧ FB 2300 (lotQ p e s b) ∧ Bd 2300 (topL p s b e) := by
  obtain ⟨o1, o2, o3⟩ := lotQ_ok h he
  obtain ⟨r1, r2, r3, r4⟩ := lotR_over h he
  obtain ⟨n, l⟩ := end_nn h.ok he
  have h24 := h.ok.len
  have q1 := h.lo
  have q3 := h.b0
  have q4 := h.b1
  refine ⟨?_, ?_, o1, lotQ_fb h he, ((way_bd (by omega)).mul r4).mono (by decide)⟩
  · rw [o3, r1]
    unfold topL
    push_cast
    grind
  · unfold topL lotU
    unfold lv at l
    unfold nn at n
    exact Int.mul_nonneg (Int.le_of_lt (way_pos h.ok he)) (Int.mul_nonneg (Int.mul_nonneg (fallN_nn q3 _).1 (fallN_nn (by omega) _).1) (fallN_nn (by omega) _).1)
theorem unitL_ok {p : Pl} {s b : Int} (h : LotOK p s b) : 0 < fallN s p.length ∧ Bd 745 (fallN s p.length) := by
  have h24 := h.ok.len
  have q1 := h.lo
  have q2 := h.hi
  exact ⟨fallN_pos _ (by omega), (fallN_bd (.of (by omega) (by omega)) _ (by omega)).mono (by omega)⟩
theorem lots_all {p : Pl} {s b : Int} (h : LotOK p s b) : ((endsQ p).map (topL p s b)).sum = fallN s p.length := by
  have f := (lot_flow h).1
  have s1 := sumF_int (f := fun e => lotQ p e s b) (g := topL p s b) (U := fallN s p.length) (m := endsQ p) fun e he => (topL_ok h he).1
  have k : sumL (endsQ p) (fun e => val (lotQ p e s b)) = sumL (endsQ p) (fun e => (way p (0, 0) e : Rat) * lotR s b e) := sumL_congr fun e he => (lotQ_ok h he).2.2
  rw [k, f] at s1
  have c := cast_ne (Int.ne_of_gt (unitL_ok h).1)
  have e : (((endsQ p).map (topL p s b)).sum : Rat) = ((fallN s p.length : Int) : Rat) := by grind
  exact_mod_cast e
theorem sum_filterI {f : Q → Bool} {g : Q → Int} : ∀ {l : List Q}, (∀ e ∈ l, 0 ≤ g e) → ((l.filter f).map g).sum ≤ (l.map g).sum
  | [], _ => Int.le_refl _
  | x :: l, h => by
    have ih := sum_filterI (f := f) (g := g) (l := l) fun e he => h e (List.mem_cons_of_mem _ he)
    have hx := h x List.mem_cons_self
    rw [List.filter_cons]
    split
    · rw [List.map_cons, List.map_cons, List.sum_cons, List.sum_cons]; omega
    · rw [List.map_cons, List.sum_cons]; omega
/-- odds of some ends of a lot -/
theorem some_lots {p : Pl} {s b : Int} (h : LotOK p s b) {l : List Q} {f : Q → Bool} (hl : l.Perm ((endsQ p).filter f)) (i : Nat) : 0 ≤ ((l.take i).map (topL p s b)).sum ∧ ((l.take i).map (topL p s b)).sum ≤ fallN s p.length ∧
    0 < (sumF (fun e => lotQ p e s b) (l.take i)).2 ∧ lowest (sumF (fun e => lotQ p e s b) (l.take i)) ∧ val (sumF (fun e => lotQ p e s b) (l.take i)) = (((l.take i).map (topL p s b)).sum : Rat) / (fallN s p.length : Rat) ∧ FB 745 (sumF (fun e => lotQ p e s b) (l.take i)) := by
  have hm : ∀ e ∈ l, e ∈ endsQ p := fun e he => (List.mem_filter.mp (hl.mem_iff.mp he)).1
  have ts := take_sumI (l := l.map (topL p s b)) (fun x hx => by
    obtain ⟨e, he, rfl⟩ := List.mem_map.mp hx
    exact (topL_ok h (hm e he)).2.1) i
  rw [← List.map_take, sum_perm (hl.map (topL p s b))] at ts
  have t2 := sum_filterI (f := f) (g := topL p s b) (l := endsQ p) fun e he => (topL_ok h he).2.1
  rw [lots_all h] at t2
  obtain ⟨u1, u2⟩ := unitL_ok h
  obtain ⟨q1, q2, q3⟩ := sumF_ok (f := fun e => lotQ p e s b) (l := l.take i) fun e he => (topL_ok h (hm e (List.mem_of_mem_take he))).2.2.2.1.1
  have q4 := q3.trans (sumF_int (g := topL p s b) (U := fallN s p.length) fun e he => (topL_ok h (hm e (List.mem_of_mem_take he))).1)
  refine ⟨ts.1, by omega, q1, q2, q4, fb_over q2 q1 u1 ?_ u2 q4⟩
  unfold Bd at u2 ⊢
  exact Nat.lt_of_le_of_lt (show (((l.take i).map (topL p s b)).sum).natAbs ≤ (fallN s p.length).natAbs by omega) u2
/-- odds are nought where their top is -/
theorem lot_nought {p : Pl} {s b : Int} (h : LotOK p s b) {e : Q} (he : e ∈ endsQ p) : lotQ p e s b = (0, 1) ↔ topL p s b e = 0 := by
  obtain ⟨v, t, l, f, _⟩ := topL_ok h he
  have c := cast_ne (Int.ne_of_gt (unitL_ok h).1)
  constructor
  · intro q
    rw [q, val_01] at v
    have : (topL p s b e : Rat) = 0 := by grind
    exact_mod_cast this
  · intro q
    refine val_inj f.1 (by decide) l low_01 ?_
    rw [v, q, val_01]
    rw [Rat.div_def]
    show ((0 : Int) : Rat) * _ = 0
    rw [show ((0 : Int) : Rat) = 0 from rfl, Rat.zero_mul]
def lotH (p : Pl) (s lo hi : Int) (e : Q) : Q := qdiv (lotQ p e s hi) (lotQ p e s lo)
theorem lotH_ok {p : Pl} {s lo hi : Int} (hl : LotOK p s lo) (hh : LotOK p s hi) {e : Q} (he : e ∈ endsQ p) (n : topL p s lo e ≠ 0) : FB 4600 (lotH p s lo hi e) ∧ lowest (lotH p s lo hi e) ∧ val (lotH p s lo hi e) = (topL p s hi e : Rat) / (topL p s lo e : Rat) := by
  obtain ⟨v1, t1, l1, f1, _⟩ := topL_ok hl he
  obtain ⟨v2, t2, l2, f2, _⟩ := topL_ok hh he
  have n1 : (lotQ p e s lo).1 ≠ 0 := fun z => n (by
    have : val (lotQ p e s lo) = 0 := by
      unfold val
      rw [z, Rat.div_def, show ((0 : Int) : Rat) = 0 from rfl, Rat.zero_mul]
    rw [this] at v1
    have c := cast_ne (Int.ne_of_gt (unitL_ok hl).1)
    have : (topL p s lo e : Rat) = 0 := by grind
    exact_mod_cast this)
  refine ⟨(qdiv_FB f2 f1 n1).mono (by decide), qdiv_low f2.1 n1, ?_⟩
  unfold lotH
  rw [val_div f2.1 f1.1 n1, v1, v2]
  have c1 := cast_ne (Int.ne_of_gt (unitL_ok hl).1)
  have c2 := cast_ne n
  grind
theorem lotH_lt {p : Pl} {s lo hi : Int} (hl : LotOK p s lo) (hh : LotOK p s hi) {x y : Q} (hx : x ∈ endsQ p) (hy : y ∈ endsQ p) (nx : 0 < topL p s lo x) (ny : 0 < topL p s lo y) : ltQ (lotH p s lo hi y) (lotH p s lo hi x) = decide (topL p s hi y * topL p s lo x < topL p s hi x * topL p s lo y) := by
  obtain ⟨f1, l1, v1⟩ := lotH_ok hl hh hx (Int.ne_of_gt nx)
  obtain ⟨f2, l2, v2⟩ := lotH_ok hl hh hy (Int.ne_of_gt ny)
  rw [ltQ_val f2.1 f1.1, v1, v2]
  exact decide_eq_decide.mpr (lt_val (a := (topL p s hi y, topL p s lo y)) (b := (topL p s hi x, topL p s lo x)) ny nx).symm
end PD
/-! the ends, each once; sums over some of them -/
namespace PD
open PySem PySem.Spec PyProof.Rows L2
variable [TN]
theorem lineQ_nd {k : Int} {l : List Int} (h : l.Pairwise (· < ·)) : (lineQ k l).Nodup := by
  unfold lineQ
  refine List.pairwise_map.mpr (h.imp fun {x y} hxy z => ?_)
  have := congrArg Prod.fst z
  dsimp only at this
  omega
theorem comeN_nd (p : Pl) : ∀ i : Nat, (comeN p i).Nodup
  | 0 => by unfold comeN; simp
  | i + 1 => by
    rw [comeN_succ]
    refine List.nodup_append.mpr ⟨comeN_nd p i, lineQ_nd (nxt_ris _), fun x hx y hy z => ?_⟩
    subst z
    unfold lineQ at hy
    obtain ⟨b, hb, rfl⟩ := List.mem_map.mp hy
    rcases comeN_mem.mp hx with q | ⟨k, hk, h1, h2⟩
    · have a := congrArg Prod.fst q
      have b := congrArg Prod.snd q
      dsimp only at a b
      omega
    · dsimp only at h2
      omega
theorem ends_nd (p : Pl) : (endsQ p).Nodup := (comeN_nd p p.length).sublist List.filter_sublist
theorem sum_subset {g : Q → Int} : ∀ {l m : List Q}, l.Nodup → (∀ e ∈ l, e ∈ m) → (∀ e ∈ m, 0 ≤ g e) → 0 ≤ (l.map g).sum ∧ (l.map g).sum ≤ (m.map g).sum
  | [], m, _, _, h => by
    have := (take_sumI (l := m.map g) (fun x hx => by
      obtain ⟨e, he, rfl⟩ := List.mem_map.mp hx
      exact h e he) 0)
    rw [List.take_zero] at this
    exact this
  | x :: l, m, nd, hs, h => by
    have hx := hs x List.mem_cons_self
    have pm := List.perm_cons_erase hx
    have nd2 := List.nodup_cons.mp nd
    have ih := sum_subset (g := g) (l := l) (m := m.erase x) nd2.2 (fun e he => (List.mem_erase_of_ne (fun (z : e = x) => nd2.1 (z ▸ he))).mpr (hs e (List.mem_cons_of_mem _ he))) fun e he => h e (List.mem_of_mem_erase he)
    rw [sum_perm (pm.map g), List.map_cons, List.map_cons, List.sum_cons, List.sum_cons]
    have := h x hx
    omega
/-- lists without doubles of the same items -/
theorem perm_same {l m : List Q} (nl : l.Nodup) (nm : m.Nodup) (h : ∀ e, e ∈ l ↔ e ∈ m) : l.Perm m := (List.perm_ext_iff_of_nodup nl nm).mpr h
theorem lots_of {p : Pl} {s b : Int} (h : LotOK p s b) {l : List Q} (nd : l.Nodup) (hm : ∀ e ∈ l, e ∈ endsQ p) : 0 ≤ (l.map (topL p s b)).sum ∧ (l.map (topL p s b)).sum ≤ fallN s p.length ∧
    0 < (sumF (fun e => lotQ p e s b) l).2 ∧ lowest (sumF (fun e => lotQ p e s b) l) ∧ val (sumF (fun e => lotQ p e s b) l) = ((l.map (topL p s b)).sum : Rat) / (fallN s p.length : Rat) ∧ FB 745 (sumF (fun e => lotQ p e s b) l) := by
  have ts := sum_subset (g := topL p s b) nd hm fun e he => (topL_ok h he).2.1
  rw [lots_all h] at ts
  obtain ⟨u1, u2⟩ := unitL_ok h
  obtain ⟨q1, q2, q3⟩ := sumF_ok (f := fun e => lotQ p e s b) (l := l) fun e he => (topL_ok h (hm e he)).2.2.2.1.1
  have q4 := q3.trans (sumF_int (g := topL p s b) (U := fallN s p.length) fun e he => (topL_ok h (hm e he)).1)
  refine ⟨ts.1, ts.2, q1, q2, q4, fb_over q2 q1 u1 ?_ u2 q4⟩
  unfold Bd at u2 ⊢
  exact Nat.lt_of_le_of_lt (show ((l.map (topL p s b)).sum).natAbs ≤ (fallN s p.length).natAbs by omega) u2
theorem sumF_app (f : Q → Q) (l m : List Q) : sumF f (l ++ m) = m.foldl (fun w e => qadd w (f e)) (sumF f l) := by
  unfold sumF
  rw [List.foldl_append]
theorem tabD_filter_get {α : Type} {g : Q → α} {f : Q → Bool} {l : List Q} {e : Q} (h : e ∈ l) : (dget (tabD g (l.filter f)) e).isSome = f e := by
  rw [tabD_get]
  by_cases q : f e = true
  · rw [if_pos (List.mem_filter.mpr ⟨h, q⟩), q]; rfl
  · rw [if_neg (fun z => q (List.mem_filter.mp z).2), Bool.eq_false_iff.mpr q]; rfl
theorem filter_same {f g : Q → Bool} {l : List Q} (h : ∀ e ∈ l, f e = g e) : l.filter f = l.filter g := by
  induction l with
  | nil => rfl
  | cons x l ih =>
    rw [List.filter_cons, List.filter_cons, h x List.mem_cons_self, ih fun e he => h e (List.mem_cons_of_mem _ he)]
theorem filter_snoc (f : Q → Bool) (l : List Q) (x : Q) : (l ++ [x]).filter f = if f x = true then l.filter f ++ [x] else l.filter f := by
  rw [List.filter_append, List.filter_cons, List.filter_nil]
  split
  · rfl
  · rw [List.append_nil]
theorem lot_top0 {p : Pl} {s b : Int} (h : LotOK p s b) {e : Q} (he : e ∈ endsQ p) (z : (lotQ p e s b).1 = 0) : topL p s b e = 0 := by
  have v := (topL_ok h he).1
  have : val (lotQ p e s b) = 0 := by
    unfold val
    rw [z, Rat.div_def, show ((0 : Int) : Rat) = 0 from rfl, Rat.zero_mul]
  rw [this] at v
  have c := cast_ne (Int.ne_of_gt (unitL_ok h).1)
  have : (topL p s b e : Rat) = 0 := by grind
  exact_mod_cast this
end PD
/-! sums of the first ones; the order of a lot's rule by whole numbers -/
namespace PD
open PySem PySem.Spec PyProof.Rows L2
variable [TN]
def preS (g : Q → Int) (l : List Q) (i : Nat) : List Int := (List.range (i + 1)).map fun j => ((l.take j).map g).sum
theorem preS_succ (g : Q → Int) (l : List Q) (i : Nat) : preS g l (i + 1) = preS g l i ++ [((l.take (i + 1)).map g).sum] := by
  unfold preS
  rw [List.range_succ (n := i + 1), List.map_append]
  rfl
theorem preS_last (g : Q → Int) (l : List Q) (i : Nat) : (preS g l i).getLastD 0 = ((l.take i).map g).sum := by
  unfold preS
  rw [List.range_succ, List.map_append, List.map_singleton, List.getLastD_concat]
theorem preS_at {g : Q → Int} {l : List Q} {i j : Nat} (h : j ≤ i) : (preS g l i).getD j 0 = ((l.take j).map g).sum := by
  unfold preS
  rw [List.getD_eq_getElem?_getD, List.getElem?_map, List.getElem?_range (by omega)]
  rfl
theorem preS_len (g : Q → Int) (l : List Q) (i : Nat) : (preS g l i).length = i + 1 := by unfold preS; rw [List.length_map, List.length_range]
def loQ (p : Pl) (z b : Int) (e : Q) : Q := lotQ p e z b
def hasLo (p : Pl) (z lo : Int) (e : Q) : Bool := !decide (loQ p z lo e = (0, 1))
def sureL (p : Pl) (z lo hi : Int) : List Q := (endsQ p).filter fun e => decide (loQ p z lo e = (0, 1)) && !decide (loQ p z hi e = (0, 1))
def ordL (p : Pl) (z lo hi : Int) : List Q := fallF (fun y x => ltQ (lotH p z lo hi y) (lotH p z lo hi x)) (0, 1) ((endsQ p).filter (hasLo p z lo))
def kL (p : Pl) (z lo hi : Int) (most : Q) : Nat := nTake (loQ p z lo) most (ordL p z lo hi)
theorem ordL_perm (p : Pl) (z lo hi : Int) : (ordL p z lo hi).Perm ((endsQ p).filter (hasLo p z lo)) := fallF_perm _ _ _
theorem ordL_in {p : Pl} {z lo hi : Int} {e : Q} (h : e ∈ ordL p z lo hi) : e ∈ endsQ p ∧ hasLo p z lo e = true := List.mem_filter.mp ((ordL_perm p z lo hi).mem_iff.mp h)
theorem ordL_nd (p : Pl) (z lo hi : Int) : (ordL p z lo hi).Nodup := (ordL_perm p z lo hi).nodup_iff.mpr ((ends_nd p).sublist List.filter_sublist)
theorem sureL_in {p : Pl} {z lo hi : Int} {e : Q} (h : e ∈ sureL p z lo hi) : e ∈ endsQ p ∧ hasLo p z lo e = false := by
  have h2 := List.mem_filter.mp h
  have h3 := h2.2
  simp only [Bool.and_eq_true] at h3
  refine ⟨h2.1, ?_⟩
  unfold hasLo
  rw [h3.1]
  rfl
theorem both_nd (p : Pl) (z lo hi : Int) (k i : Nat) : ((ordL p z lo hi).take k ++ (sureL p z lo hi).take i).Nodup := List.nodup_append.mpr ⟨(ordL_nd p z lo hi).sublist (List.take_sublist _ _), ((ends_nd p).sublist List.filter_sublist).sublist (List.take_sublist _ _), fun x hx y hy q => by
  subst q
  have a := (ordL_in (List.mem_of_mem_take hx)).2
  have b := (sureL_in (List.mem_of_mem_take hy)).2
  rw [a] at b
  cases b⟩
theorem both_in {p : Pl} {z lo hi : Int} {k i : Nat} {e : Q} (h : e ∈ (ordL p z lo hi).take k ++ (sureL p z lo hi).take i) : e ∈ endsQ p := by
  rcases List.mem_append.mp h with q | q
  · exact (ordL_in (List.mem_of_mem_take q)).1
  · exact (sureL_in (List.mem_of_mem_take q)).1
theorem hasLo_top {p : Pl} {z lo : Int} (hL : LotOK p z lo) {e : Q} (he : e ∈ endsQ p) : hasLo p z lo e = decide (0 < topL p z lo e) := by
  have t := (topL_ok hL he).2.1
  have n := lot_nought hL he
  unfold hasLo loQ
  by_cases q : topL p z lo e = 0
  · rw [decide_eq_true (n.mpr q), decide_eq_false (by omega)]
    rfl
  · rw [decide_eq_false (fun w => q (n.mp w)), decide_eq_true (by omega)]
    rfl
/-- the law's order, by whole numbers -/
theorem ordL_law {p : Pl} {z lo hi : Int} (hL : LotOK p z lo) (hH : LotOK p z hi) : fallF (fun y x => decide (topL p z hi y * topL p z lo x < topL p z hi x * topL p z lo y)) (0, 1) ((endsQ p).filter fun e => decide (0 < topL p z lo e)) = ordL p z lo hi := by
  have e1 : ((endsQ p).filter fun e => decide (0 < topL p z lo e)) = (endsQ p).filter (hasLo p z lo) := filter_same fun e he => (hasLo_top hL he).symm
  rw [e1]
  have h := fallF_map (lt := fun y x => ltQ (lotH p z lo hi y) (lotH p z lo hi x)) (lt2 := fun y x => decide (topL p z hi y * topL p z lo x < topL p z hi x * topL p z lo y)) (d := (0, 1)) (d2 := (0, 1)) (g := id) (l := (endsQ p).filter (hasLo p z lo)) fun y hy x hx => by
    have a := List.mem_filter.mp hy
    have b := List.mem_filter.mp hx
    have a2 := a.2
    have b2 := b.2
    rw [hasLo_top hL a.1] at a2
    rw [hasLo_top hL b.1] at b2
    exact (lotH_lt hL hH b.1 a.1 (of_decide_eq_true b2) (of_decide_eq_true a2)).symm
  rw [List.map_id, List.map_id] at h
  exact h
/-- the law's rule and the program's -/
theorem rule_same {p : Pl} {z lo hi : Int} (hL : LotOK p z lo) (hH : LotOK p z hi) (k : Nat) : ((endsQ p).filter fun e => isIn e ((ordL p z lo hi).take k) || (decide (topL p z lo e = 0) && decide (0 < topL p z hi e))) = (endsQ p).filter fun e => isIn e (sureL p z lo hi ++ (ordL p z lo hi).take k) := by
  refine filter_same fun e he => ?_
  have n1 := lot_nought hL he
  have n2 := lot_nought hH he
  have t2 := (topL_ok hH he).2.1
  have m : e ∈ sureL p z lo hi ↔ (topL p z lo e = 0 ∧ 0 < topL p z hi e) := by
    unfold sureL
    rw [List.mem_filter]
    simp only [Bool.and_eq_true, decide_eq_true_eq, Bool.not_eq_true', decide_eq_false_iff_not]
    unfold loQ
    rw [n1, n2]
    constructor
    · intro h; exact ⟨h.2.1, by omega⟩
    · intro h; exact ⟨he, h.1, by omega⟩
  rw [Bool.eq_iff_iff]
  simp only [Bool.or_eq_true, Bool.and_eq_true, decide_eq_true_eq, isIn_iff, List.mem_append]
  rw [m]
  constructor
  · rintro (h | h)
    · exact .inr h
    · exact .inl h
  · rintro (h | h)
    · exact .inr h
    · exact .inl h
theorem rule_perm (p : Pl) (z lo hi : Int) (k : Nat) : ((endsQ p).filter fun e => isIn e (sureL p z lo hi ++ (ordL p z lo hi).take k)).Perm ((ordL p z lo hi).take k ++ sureL p z lo hi) := by
  have nd := both_nd p z lo hi k (sureL p z lo hi).length
  rw [List.take_length] at nd
  refine perm_same ((ends_nd p).sublist List.filter_sublist) nd fun e => ?_
  rw [List.mem_filter, isIn_iff, List.mem_append, List.mem_append]
  constructor
  · rintro ⟨_, h | h⟩
    · exact .inr h
    · exact .inl h
  · rintro (h | h)
    · exact ⟨(ordL_in (List.mem_of_mem_take h)).1, .inr h⟩
    · exact ⟨(sureL_in h).1, .inl h⟩
theorem topL_law {p : Pl} {z b : Int} {e : Q} (h0 : 0 ≤ e.1) (h1 : 0 ≤ e.2) (h2 : e.1 + e.2 ≤ p.length) : way p (0, 0) e * fallN b e.1.toNat * fallN (z - b) e.2.toNat * fallN (z - e.1 - e.2) ((p.length : Int) - e.1 - e.2).toNat = topL p z b e := by
  unfold topL lotU
  rw [show z - (e.1 + e.2) = z - e.1 - e.2 by omega, show p.length - (e.1 + e.2).toNat = ((p.length : Int) - e.1 - e.2).toNat by omega]
  rw [Int.mul_assoc, Int.mul_assoc, Int.mul_assoc]
end PD
/-! the falling order falls; no other rule catches more -/
namespace PD
open PySem PySem.Spec PyProof.Rows L2
variable [TN]
theorem posF_spec {lt : Q → Q → Bool} {d x : Q} {row : List Q} : ∀ n : Nat, (∀ j, posF lt d x row n ≤ j → j < n → lt (row.getD j d) x = true) ∧ (0 < posF lt d x row n → lt (row.getD (posF lt d x row n - 1) d) x = false)
  | 0 => ⟨fun j _ h => by omega, fun h => absurd h (by show ¬ 0 < 0; omega)⟩
  | n + 1 => by
    have ih := posF_spec (lt := lt) (d := d) (x := x) (row := row) n
    cases q : lt (row.getD n d) x with
    | true =>
      rw [posF_go q]
      refine ⟨fun j h1 h2 => ?_, ih.2⟩
      rcases Nat.lt_or_ge j n with h | h
      · exact ih.1 j h1 h
      · rw [show j = n by omega]; exact q
    | false =>
      rw [posF_stop q]
      exact ⟨fun j h1 h2 => by omega, fun _ => q⟩
theorem insF_sorted {v : Q → Rat} {d x : Q} {row : List Q} (h : row.Pairwise fun a b => v b ≤ v a) : (insF (fun y x => decide (v y < v x)) d row x).Pairwise fun a b => v b ≤ v a := by
  have sp := posF_spec (lt := fun y x => decide (v y < v x)) (d := d) (x := x) (row := row) row.length
  have le := posF_le (fun y x => decide (v y < v x)) d x row row.length
  unfold insF
  generalize posF (fun y x => decide (v y < v x)) d x row row.length = k at *
  have hs : (row.take k ++ row.drop k).Pairwise fun a b => v b ≤ v a := by rw [List.take_append_drop]; exact h
  obtain ⟨p1, p2, p3⟩ := List.pairwise_append.mp hs
  have hd : ∀ b ∈ row.drop k, v b ≤ v x := fun b hb => by
    obtain ⟨j, hj, rfl⟩ := List.mem_iff_getElem.mp hb
    rw [List.length_drop] at hj
    rw [List.getElem_drop]
    have := sp.1 (k + j) (by omega) (by omega)
    rw [List.getD_eq_getElem?_getD, List.getElem?_eq_getElem (by omega)] at this
    exact Rat.le_of_lt (of_decide_eq_true this)
  have ht : ∀ a ∈ row.take k, v x ≤ v a := fun a ha => by
    cases k with
    | zero => rw [List.take_zero] at ha; cases ha
    | succ k =>
      have q := sp.2 (by omega)
      rw [show k + 1 - 1 = k from rfl, List.getD_eq_getElem?_getD, List.getElem?_eq_getElem (by omega)] at q
      have q2 : v x ≤ v row[k] := by
        have := of_decide_eq_false q
        grind
      rw [List.take_succ, List.getElem?_eq_getElem (by omega)] at ha p1
      rcases List.mem_append.mp ha with z | z
      · have := (List.pairwise_append.mp p1).2.2 a z row[k] (by simp)
        grind
      · simp at z
        rw [z]
        exact q2
  refine List.pairwise_append.mpr ⟨p1, List.pairwise_cons.mpr ⟨hd, p2⟩, fun a ha b hb => ?_⟩
  rcases List.mem_cons.mp hb with z | z
  · rw [z]; exact ht a ha
  · exact p3 a ha b z
theorem fallF_sorted (v : Q → Rat) (d : Q) (l : List Q) : (fallF (fun y x => decide (v y < v x)) d l).Pairwise fun a b => v b ≤ v a := by
  have key : ∀ (l row : List Q), (row.Pairwise fun a b => v b ≤ v a) → (l.foldl (insF (fun y x => decide (v y < v x)) d) row).Pairwise fun a b => v b ≤ v a := by
    intro l
    induction l with
    | nil => intro row h; exact h
    | cons x l ih => intro row h; exact ih _ (insF_sorted h)
  exact key l [] List.Pairwise.nil
theorem fallF_congr {lt lt2 : Q → Q → Bool} {d : Q} {l : List Q} (h : ∀ y ∈ l, ∀ x ∈ l, lt2 y x = lt y x) : fallF lt2 d l = fallF lt d l := by
  have := fallF_map (lt := lt) (lt2 := lt2) (d := d) (d2 := d) (g := id) (l := l) h
  rw [List.map_id, List.map_id] at this
  exact this
/-- the sums kept to the most -/
theorem nTake_most {f : Q → Q} {most : Q} {l : List Q} (hm : 0 < most.2) (h0 : 0 ≤ most.1) (hf : ∀ e ∈ l, 0 < (f e).2) : val (sumF f (l.take (nTake f most l))) ≤ val most := by
  have key : ∀ (l : List Q) (w : Q), (∀ e ∈ l, 0 < (f e).2) → 0 < w.2 → val w ≤ val most → val ((l.take (takeF f most w l)).foldl (fun w e => qadd w (f e)) w) ≤ val most := by
    intro l
    induction l with
    | nil => intro w _ _ h; exact h
    | cons e l ih =>
      intro w hl hw h
      have he := hl e List.mem_cons_self
      have hp : 0 < (qadd w (f e)).2 := (qadd_FB (m := w.1.natAbs + w.2.natAbs) (n := (f e).1.natAbs + (f e).2.natAbs) (a := w) (b := f e) ⟨hw, Nat.lt_of_le_of_lt (Nat.le_add_right _ _) Nat.lt_two_pow_self, Nat.lt_of_le_of_lt (Nat.le_add_left _ _) Nat.lt_two_pow_self⟩ ⟨he, Nat.lt_of_le_of_lt (Nat.le_add_right _ _) Nat.lt_two_pow_self, Nat.lt_of_le_of_lt (Nat.le_add_left _ _) Nat.lt_two_pow_self⟩).1
      cases q : ltQ most (qadd w (f e)) with
      | true =>
        have : takeF f most w (e :: l) = 0 := if_pos q
        rw [this]
        exact h
      | false =>
        have e1 : takeF f most w (e :: l) = takeF f most (qadd w (f e)) l + 1 := by
          rw [Nat.add_comm]
          exact if_neg (by rw [q]; exact Bool.false_ne_true)
        rw [e1, List.take_succ_cons, List.foldl_cons]
        refine ih _ (fun y hy => hl y (List.mem_cons_of_mem _ hy)) hp ?_
        rw [ltQ_val hm hp] at q
        have := of_decide_eq_false q
        grind
  refine key l (0, 1) hf (by decide) ?_
  rw [val_01]
  have c := cast_pos hm
  have c0 : (0 : Rat) ≤ (most.1 : Rat) := by exact_mod_cast h0
  unfold val
  rw [Rat.div_def]
  exact Rat.mul_nonneg c0 (Rat.le_of_lt (Rat.inv_pos.mpr c))
/-- all sums of two numbers over some of the pairs -/
def sumsL (l : List Q) : List Q := l.foldl (fun S z => S ++ S.map fun s => (s.1 + z.1, s.2 + z.2)) [(0, 0)]
theorem sumsL_snoc (l : List Q) (z : Q) : sumsL (l ++ [z]) = sumsL l ++ (sumsL l).map fun s => (s.1 + z.1, s.2 + z.2) := by
  unfold sumsL
  rw [List.foldl_append]
  rfl
theorem sumsL_len (l : List Q) : (sumsL l).length = 2 ^ l.length := by
  have key : ∀ (l S : List Q), (l.foldl (fun S z => S ++ S.map fun s => (s.1 + z.1, s.2 + z.2)) S).length = S.length * 2 ^ l.length := by
    intro l
    induction l with
    | nil => intro S; simp
    | cons x l ih =>
      intro S
      rw [List.foldl_cons, ih, List.length_append, List.length_map, List.length_cons, Nat.pow_succ]
      have : S.length + S.length = S.length * 2 := by omega
      rw [this, Nat.mul_assoc, Nat.mul_comm 2]
  have := key l [(0, 0)]
  rw [List.length_singleton, Nat.one_mul] at this
  exact this
/-- lows and highs of the items; those taken are high beside low, the others are not: no other choice of as small a low has more high -/
theorem no_more {lo hi : Q → Int} {t : Q → Bool} {H L : Int} : ∀ {l : List Q}, (∀ e ∈ l, (t e = true → lo e * H ≤ hi e * L) ∧ (t e = false → hi e * L ≤ lo e * H)) → ∀ {S0 : List Q} {w c : Int}, (∀ s ∈ S0, (w - s.1) * H ≤ (c - s.2) * L) →
    ∀ s ∈ (l.map fun e => (lo e, hi e)).foldl (fun S z => S ++ S.map fun s => (s.1 + z.1, s.2 + z.2)) S0, (w + ((l.filter t).map lo).sum - s.1) * H ≤ (c + ((l.filter t).map hi).sum - s.2) * L
  | [], _, S0, w, c, h0, s, hs => by
    have := h0 s hs
    simpa using this
  | e :: l, h, S0, w, c, h0, s, hs => by
    rw [List.map_cons, List.foldl_cons] at hs
    have he := h e List.mem_cons_self
    have hl : ∀ x ∈ l, _ := fun x hx => h x (List.mem_cons_of_mem _ hx)
    cases q : t e with
    | true =>
      have k := no_more hl (w := w + lo e) (c := c + hi e) (S0 := S0 ++ S0.map fun s => (s.1 + lo e, s.2 + hi e)) (fun s hs => by
        rcases List.mem_append.mp hs with z | z
        · have a := h0 s z
          have b := he.1 q
          have e1 : (w + lo e - s.1) * H = (w - s.1) * H + lo e * H := by rw [← Int.add_mul]; congr 1; omega
          have e2 : (c + hi e - s.2) * L = (c - s.2) * L + hi e * L := by rw [← Int.add_mul]; congr 1; omega
          rw [e1, e2]
          omega
        · obtain ⟨r, hr, rfl⟩ := List.mem_map.mp z
          have a := h0 r hr
          dsimp only
          rw [show w + lo e - (r.1 + lo e) = w - r.1 by omega, show c + hi e - (r.2 + hi e) = c - r.2 by omega]
          exact a) s hs
      rw [List.filter_cons, if_pos q, List.map_cons, List.map_cons, List.sum_cons, List.sum_cons]
      rw [show w + (lo e + ((l.filter t).map lo).sum) - s.1 = w + lo e + ((l.filter t).map lo).sum - s.1 by omega, show c + (hi e + ((l.filter t).map hi).sum) - s.2 = c + hi e + ((l.filter t).map hi).sum - s.2 by omega]
      exact k
    | false =>
      have k := no_more hl (w := w) (c := c) (S0 := S0 ++ S0.map fun s => (s.1 + lo e, s.2 + hi e)) (fun s hs => by
        rcases List.mem_append.mp hs with z | z
        · exact h0 s z
        · obtain ⟨r, hr, rfl⟩ := List.mem_map.mp z
          have a := h0 r hr
          have b := he.2 q
          dsimp only
          have e1 : (w - (r.1 + lo e)) * H = (w - r.1) * H - lo e * H := by rw [← Int.sub_mul]; congr 1; omega
          have e2 : (c - (r.2 + hi e)) * L = (c - r.2) * L - hi e * L := by rw [← Int.sub_mul]; congr 1; omega
          rw [e1, e2]
          omega) s hs
      rw [List.filter_cons, if_neg (by rw [q]; exact Bool.false_ne_true)]
      exact k
theorem best_ok {lo hi : Q → Int} {t : Q → Bool} {H L : Int} {l : List Q} (hL : 0 < L) (hH : 0 ≤ H) (h : ∀ e ∈ l, (t e = true → lo e * H ≤ hi e * L) ∧ (t e = false → hi e * L ≤ lo e * H)) {s : Q} (hs : s ∈ sumsL (l.map fun e => (lo e, hi e))) (hw : s.1 ≤ ((l.filter t).map lo).sum) : s.2 ≤ ((l.filter t).map hi).sum := by
  have k := no_more h (S0 := [(0, 0)]) (w := 0) (c := 0) (fun s hs => by rw [List.mem_singleton.mp hs]; simp) s hs
  rw [Int.zero_add, Int.zero_add] at k
  have n : 0 ≤ (((l.filter t).map lo).sum - s.1) * H := Int.mul_nonneg (by omega) hH
  have k2 : 0 ≤ (((l.filter t).map hi).sum - s.2) * L := by omega
  rcases Int.lt_or_le (((l.filter t).map hi).sum - s.2) 0 with q | q
  · have := Int.mul_neg_of_neg_of_pos q hL
    omega
  · omega
end PD
/-! what the law of the rules asks -/
namespace PD
open PySem PySem.Spec PyProof.Rows L2
variable [TN]
def riseB (lo hi : Q) : Bool := ltQ (0, 1) lo && (ltQ lo hi && ltQ hi (1, 1))
def mostB (most : Q) : Bool := !(ltQ most (0, 1)) && !(ltQ (1, 1) most)
def evenB (few many z : Int) : Bool := decide (0 ≤ few) && (decide (few < many) && decide (many ≤ z))
def sizeB (p : Pl) (z : Int) : Bool := decide (z < (p.length : Int)) || decide (200 < z)
theorem sizeB_t {p : Pl} {z : Int} (h : sizeB p z = true) : ¬ ((p.length : Int) ≤ z ∧ z ≤ 200) := by
  unfold sizeB at h
  simp only [Bool.or_eq_true, decide_eq_true_eq] at h
  omega
theorem sizeB_f {p : Pl} {z : Int} (h : sizeB p z = false) : (p.length : Int) ≤ z ∧ z ≤ 200 := by
  unfold sizeB at h
  simp only [Bool.or_eq_false_iff, decide_eq_false_iff_not] at h
  omega
theorem shJ_of {t b : Int} (h : 0 < t) (h2 : t < b) (h3 : b ≤ 1000000000002) : ShI (mkP t b) t b := by
  have hb : 0 < b := by omega
  have v := val_mkP (t := t) hb
  have p1 := cast_pos h
  have p2 := cast_pos hb
  refine ⟨⟨mkP_FB hb (.of (by omega) (by omega)) (.of (by omega) (by omega)), ?_, ?_⟩, h, h2, h3, v⟩
  · rw [v, Rat.lt_div_iff p2]
    grind
  · rw [v, Rat.div_lt_iff p2]
    have : (t : Rat) < (b : Rat) := by exact_mod_cast h2
    grind
theorem shJ_lt {lo hi : Q} {tl th b : Int} (hL : ShI lo tl b) (hH : ShI hi th b) (h : tl < th) : val lo < val hi := by
  have hb : 0 < b := by have := hL.t0; have := hL.tb; omega
  rw [hL.v, hH.v]
  exact (lt_val (a := (tl, b)) (b := (th, b)) hb hb).mp (Int.mul_lt_mul_of_pos_right h hb)
structure PartR where
  rs : List Q
  xy : Q
  lo : Q
  hi : Q
  most : Q
  z : Int
  few : Int
  many : Int
abbrev partD (R : PartR) : D := .tup [.lst (R.rs.map fr), fr R.xy, fr R.lo, fr R.hi, fr R.most, .int R.z, .int R.few, .int R.many]
structure PartOK (R : PartR) : Prop where
  len : R.rs.length ≤ 4000
  xy : (0 ≤ R.xy.1 ∧ R.xy.1 ≤ 60) ∧ (0 ≤ R.xy.2 ∧ R.xy.2 ≤ 60)
  lo : FB 6000 R.lo
  hi : FB 6000 R.hi
  most : FB 6000 R.most
  sh : riseB R.lo R.hi = true → ∃ tl th b, ShI R.lo tl b ∧ ShI R.hi th b ∧ tl < th
def allIn (p : Pl) (rs : List Q) : Bool := !decide (((rs.filter fun e => !isIn e (endsQ p)).length : Int) > 0)
theorem allIn_iff {p : Pl} {rs : List Q} : allIn p rs = true ↔ ∀ e ∈ rs, e ∈ endsQ p := by
  unfold allIn
  rw [Bool.not_eq_true', decide_eq_false_iff_not]
  constructor
  · intro h e he
    have h0 : (rs.filter fun e => !isIn e (endsQ p)).length = 0 := by omega
    have h1 := List.filter_eq_nil_iff.mp (List.length_eq_zero_iff.mp h0) e he
    simpa [isIn_iff] using h1
  · intro h
    have h1 : (rs.filter fun e => !isIn e (endsQ p)) = [] := List.filter_eq_nil_iff.mpr fun e he => by
      rw [isIn_iff.mpr (h e he)]
      decide
    rw [h1]
    decide
theorem good_ok {most : Q} (h : mostB most = true) : 0 ≤ most.1 ∧ most.1 ≤ most.2 := by
  unfold mostB ltQ at h
  simp only [Bool.and_eq_true, Bool.not_eq_true', decide_eq_false_iff_not] at h
  omega
theorem even_ok {p : Pl} {a b z : Int} (hp : PlanOK p) (h1 : sizeB p z = false) (h2 : evenB a b z = true) : LotOK p z a ∧ LotOK p z b ∧ a < b := by
  have s := sizeB_f h1
  unfold evenB at h2
  simp only [Bool.and_eq_true, decide_eq_true_eq] at h2
  exact ⟨⟨hp, s.1, s.2, by omega, by omega⟩, ⟨hp, s.1, s.2, by omega, by omega⟩, by omega⟩
def dueS (w : Int) (p : Pl) (R : PartR) : Str := if w = 0 then (if allIn p R.rs = true then "" else "end") else if w = 1 then (if riseB R.lo R.hi = true then "" else "shares") else if w = 2 then (if riseB R.lo R.hi = true ∧ mostB R.most = true then "" else "shares")
  else if sizeB p R.z = true then "lot" else if evenB R.few R.many R.z = true ∧ mostB R.most = true then "" else "shares"
theorem cases50 {w : Int} (h0 : 0 ≤ w) (h4 : w < 4) (p : Pl) (R : PartR) : (w = 0 ∧ allIn p R.rs = true) ∨ (w = 0 ∧ allIn p R.rs = false) ∨ (w = 1 ∧ riseB R.lo R.hi = true) ∨ (w = 1 ∧ riseB R.lo R.hi = false)
    ∨ (w = 2 ∧ riseB R.lo R.hi = true ∧ mostB R.most = true) ∨ (w = 2 ∧ riseB R.lo R.hi = true ∧ mostB R.most = false) ∨ (w = 2 ∧ riseB R.lo R.hi = false)
    ∨ (w = 3 ∧ sizeB p R.z = true) ∨ (w = 3 ∧ sizeB p R.z = false ∧ evenB R.few R.many R.z = false) ∨ (w = 3 ∧ sizeB p R.z = false ∧ evenB R.few R.many R.z = true ∧ mostB R.most = false) ∨ (w = 3 ∧ sizeB p R.z = false ∧ evenB R.few R.many R.z = true ∧ mostB R.most = true) := by
  have hw : w = 0 ∨ w = 1 ∨ w = 2 ∨ w = 3 := by omega
  cases allIn p R.rs <;> cases riseB R.lo R.hi <;> cases mostB R.most <;> cases sizeB p R.z <;> cases evenB R.few R.many R.z <;> rcases hw with h | h | h | h <;> simp [h]
theorem notIn {p : Pl} {rs : List Q} (h : allIn p rs = false) : ∃ e ∈ rs, e ∉ endsQ p := by
  by_cases q : ∃ e ∈ rs, e ∉ endsQ p
  · exact q
  · exfalso
    have : allIn p rs = true := allIn_iff.mpr fun e he => by
      by_cases z : e ∈ endsQ p
      · exact z
      · exact absurd ⟨e, he, z⟩ q
    rw [h] at this
    cases this
def botF (c : Int) : Int := [1 + c % 30, 1 + c % 1000000000000].getD (c / 3 % 2).toNat 0
theorem botF_ok (c : Int) : 1 ≤ botF c ∧ botF c ≤ 1000000000000 := by
  unfold botF
  have e : (c / 3 % 2).toNat = 0 ∨ (c / 3 % 2).toNat = 1 := by omega
  rcases e with e | e <;> rw [e]
  · show 1 ≤ 1 + c % 30 ∧ 1 + c % 30 ≤ _
    omega
  · show 1 ≤ 1 + c % 1000000000000 ∧ 1 + c % 1000000000000 ≤ _
    omega
def mostT (m : Int) : Int := [0, 100, m / 11 % 301 - 100, m % 101].getD (m / 2 % 4).toNat 0
theorem mostT_ok (m : Int) : -100 ≤ mostT m ∧ mostT m ≤ 200 := by
  unfold mostT
  have e : (m / 2 % 4).toNat = 0 ∨ (m / 2 % 4).toNat = 1 ∨ (m / 2 % 4).toNat = 2 ∨ (m / 2 % 4).toNat = 3 := by omega
  rcases e with e | e | e | e <;> rw [e]
  · show -100 ≤ (0 : Int) ∧ (0 : Int) ≤ 200
    decide
  · show -100 ≤ (100 : Int) ∧ (100 : Int) ≤ 200
    decide
  · show -100 ≤ m / 11 % 301 - 100 ∧ m / 11 % 301 - 100 ≤ 200
    omega
  · show -100 ≤ m % 101 ∧ m % 101 ≤ 200
    omega
def hiF (m b : Int) : Q := if decide (m % 7 = 3) = true then mkP (m % (b + 3) - 1) b else mkP (m / 3 / (b + 3) % (b + 3) - 1) b
def zF (p : Pl) (c : Int) : Int := if decide (c / 7 % 4 = 1) = true then [(p.length : Int) - 1, 201, 200, -(c % 100000000000000000000)].getD (c / 28 % 4).toNat 0 else (p.length : Int) + c / 5 % 20
theorem mkP_fb6 {t b : Int} (h : 1 ≤ b) (h2 : b ≤ 1000000000000) (ht : -2000000000000 ≤ t ∧ t ≤ 2000000000000) : FB 6000 (mkP t b) := (mkP_FB (n := 60) (show 0 < b by omega) (.of (by omega) (by omega)) (.of (by omega) (by omega))).mono (by decide)
theorem rise_sh {t1 t2 b : Int} (hb : 1 ≤ b) (hb2 : b ≤ 1000000000000) (h : riseB (mkP t1 b) (mkP t2 b) = true) : ∃ tl th b', ShI (mkP t1 b) tl b' ∧ ShI (mkP t2 b) th b' ∧ tl < th := by
  have p0 : 0 < b := by omega
  have q1 : 0 < (mkP t1 b).2 := mkP_pos p0
  have q2 : 0 < (mkP t2 b).2 := mkP_pos p0
  unfold riseB at h
  rw [ltQ_val (by decide) q1, ltQ_val q1 q2, ltQ_val q2 (by decide)] at h
  simp only [Bool.and_eq_true, decide_eq_true_eq] at h
  obtain ⟨h1, h2, h3⟩ := h
  rw [val_01] at h1
  rw [val_11] at h3
  rw [val_mkP p0] at h1 h2 h3
  rw [val_mkP p0] at h2
  have c := cast_pos p0
  have a1 : 0 < t1 := by
    rw [Rat.lt_div_iff c, Rat.zero_mul] at h1
    exact_mod_cast h1
  have a3 : t2 < b := by
    rw [Rat.div_lt_iff c, Rat.one_mul] at h3
    exact_mod_cast h3
  have a2 : t1 < t2 := by
    have k := (lt_val (a := (t1, b)) (b := (t2, b)) p0 p0).mpr h2
    exact Int.lt_of_mul_lt_mul_right k (by omega)
  exact ⟨t1, t2, b, shJ_of a1 (by omega) (by omega), shJ_of (by omega) a3 (by omega), a2⟩
theorem rise_self {a : Q} : riseB a a = false := by
  unfold riseB ltQ
  rw [decide_eq_false (show ¬ a.1 * a.2 < a.1 * a.2 by omega)]
  simp
end PD
/-! plans cut short for a rule -/
namespace PD
open PySem PySem.Spec PyProof.Rows L2
variable [TN]
/-- which answers can still come: 1 refused, 2 let by, 3 both -/
def ansN (p : Pl) (rs : List Q) : Nat → Q → Int
  | 0, c => if isIn c rs = true then 1 else 2
  | n + 1, c => if goesOn p c = true then Builtin.bitOr (ansN p rs n (kidB c)) (ansN p rs n (kidG c)) else if isIn c rs = true then 1 else 2
def ans (p : Pl) (rs : List Q) (c : Q) : Int := ansN p rs (p.length - (lv c).toNat) c
theorem ans_on {p : Pl} {rs : List Q} {c : Q} (g : goesOn p c = true) : ans p rs c = Builtin.bitOr (ans p rs (kidB c)) (ans p rs (kidG c)) := by
  have h := goesOn_nn g
  have hn : 0 ≤ lv c := by have := h.1; unfold nn at this; unfold lv; omega
  have hl : (lv c).toNat < p.length := by have := h.2; have h1 := h.1; unfold nn at h1; unfold lv; omega
  have e1 : (lv (kidB c)).toNat = (lv c).toNat + 1 := by rw [lv_kidB]; omega
  have e2 : (lv (kidG c)).toNat = (lv c).toNat + 1 := by rw [lv_kidG]; omega
  unfold ans
  rw [e1, e2, show p.length - (lv c).toNat = (p.length - ((lv c).toNat + 1)) + 1 by omega]
  show (if goesOn p c = true then _ else _) = _
  rw [if_pos g]
theorem ans_off {p : Pl} {rs : List Q} {c : Q} (g : goesOn p c = false) : ans p rs c = if isIn c rs = true then 1 else 2 := by
  unfold ans
  cases p.length - (lv c).toNat with
  | zero => rfl
  | succ n =>
    show (if goesOn p c = true then _ else _) = _
    rw [if_neg (by rw [g]; decide)]
theorem or_one : Builtin.bitOr 1 1 = 1 := by decide +kernel
theorem or_two : Builtin.bitOr 2 2 = 2 := by decide +kernel
theorem or_cases {a b : Int} (ha : a = 1 ∨ a = 2 ∨ a = 3) (hb : b = 1 ∨ b = 2 ∨ b = 3) : (Builtin.bitOr a b = 1 ∧ a = 1 ∧ b = 1) ∨ (Builtin.bitOr a b = 2 ∧ a = 2 ∧ b = 2) ∨ (Builtin.bitOr a b = 3 ∧ ¬ (a = 1 ∧ b = 1) ∧ ¬ (a = 2 ∧ b = 2)) := by
  rcases ha with rfl | rfl | rfl <;> rcases hb with rfl | rfl | rfl <;> decide +kernel
theorem ans_in (p : Pl) (rs : List Q) : ∀ (n : Nat) (c : Q), ansN p rs n c = 1 ∨ ansN p rs n c = 2 ∨ ansN p rs n c = 3
  | 0, c => by
    unfold ansN
    split <;> simp
  | n + 1, c => by
    unfold ansN
    split
    · rcases or_cases (ans_in p rs n (kidB c)) (ans_in p rs n (kidG c)) with h | h | h <;> simp [h.1]
    · split <;> simp
theorem ans_at (p : Pl) (rs : List Q) (c : Q) : ans p rs c = 1 ∨ ans p rs c = 2 ∨ ans p rs c = 3 := ans_in p rs _ c
theorem ans_kid {p : Pl} {rs : List Q} {c : Q} (g : goesOn p c = true) : (ans p rs c = 1 ∧ ans p rs (kidB c) = 1 ∧ ans p rs (kidG c) = 1) ∨ (ans p rs c = 2 ∧ ans p rs (kidB c) = 2 ∧ ans p rs (kidG c) = 2) ∨ (ans p rs c = 3 ∧ ¬ (ans p rs (kidB c) = 1 ∧ ans p rs (kidG c) = 1) ∧ ¬ (ans p rs (kidB c) = 2 ∧ ans p rs (kidG c) = 2)) := by
  rw [ans_on g]
  exact or_cases (ans_at p rs _) (ans_at p rs _)
/-- the program's table of answers -/
def endsA (rs : List Q) (l : List Q) : List (Q × Int) := l.foldl (fun k e => dput k e (if isIn e rs = true then 1 else 2)) []
def ansStep (k : List (Q × Int)) (c : Q) : List (Q × Int) := dput k c (Builtin.bitOr ((dget k (kidB c)).getD 0) ((dget k (kidG c)).getD 0))
def backN (p : Pl) (i : Nat) : List Q := (((List.range p.length).reverse.take i).map fun k => countsR p k).flatten
def ansD (p : Pl) (rs : List Q) : List (Q × Int) := (backN p p.length).foldl ansStep (endsA rs (endsQ p))
theorem endsA_snoc (rs l : List Q) (e : Q) : endsA rs (l ++ [e]) = dput (endsA rs l) e (if isIn e rs = true then 1 else 2) := by
  unfold endsA
  rw [List.foldl_append]
  rfl
theorem rev_range {n i : Nat} (h : i < n) : (List.range n).reverse[i]? = some (n - 1 - i) := by
  rw [List.getElem?_reverse (by simpa using h), List.length_range, List.getElem?_range (by omega)]
theorem backN_succ {p : Pl} {i : Nat} (h : i < p.length) : backN p (i + 1) = backN p i ++ countsR p (p.length - 1 - i) := by
  unfold backN
  rw [List.take_add_one, rev_range h]
  simp
structure AInv (p : Pl) (rs : List Q) (Dn : List Q) (kd : List (Q × Int)) : Prop where
  right : ∀ c v, dget kd c = some v → v = ans p rs c
  has : ∀ c, (c ∈ endsQ p ∨ c ∈ Dn) → (dget kd c).isSome = true
  only : ∀ c, (dget kd c).isSome = true → c ∈ endsQ p ∨ c ∈ Dn
  len : kd.length ≤ (endsQ p).length + Dn.length
theorem endsA_inv {p : Pl} (rs : List Q) : ∀ l : List Q, (∀ e ∈ l, e ∈ endsQ p) → (∀ c v, dget (endsA rs l) c = some v → v = ans p rs c) ∧ (∀ c, c ∈ l → (dget (endsA rs l) c).isSome = true) ∧ (∀ c, (dget (endsA rs l) c).isSome = true → c ∈ l) ∧ (endsA rs l).length ≤ l.length := fun l => by
  have key : ∀ n (l : List Q), l.length = n → (∀ e ∈ l, e ∈ endsQ p) → (∀ c v, dget (endsA rs l) c = some v → v = ans p rs c) ∧ (∀ c, c ∈ l → (dget (endsA rs l) c).isSome = true) ∧ (∀ c, (dget (endsA rs l) c).isSome = true → c ∈ l) ∧ (endsA rs l).length ≤ l.length := by
    intro n
    induction n with
    | zero =>
      intro l hl _
      cases List.length_eq_zero_iff.mp hl
      refine ⟨fun c v h => ?_, fun c h => (by cases h), fun c h => ?_, Nat.le_refl _⟩
      · rw [show endsA rs [] = [] from rfl, dget_nil] at h; cases h
      · rw [show endsA rs [] = [] from rfl, dget_nil] at h; cases h
    | succ n ih =>
      intro l hl hin
      have hne : l ≠ [] := fun z => by rw [z] at hl; cases hl
      obtain ⟨l', e, rfl⟩ : ∃ l' e, l = l' ++ [e] := ⟨l.dropLast, l.getLast hne, (List.dropLast_concat_getLast hne).symm⟩
      obtain ⟨h1, h2, h3, h4⟩ := ih l' (by simpa using hl) (fun x hx => hin x (List.mem_append_left _ hx))
      rw [endsA_snoc]
      have he := hin e (List.mem_append_right _ (List.mem_singleton.mpr rfl))
      have hoff : goesOn p e = false := by simpa using (List.mem_filter.mp he).2
      refine ⟨fun c v h => ?_, fun c h => ?_, fun c h => ?_, ?_⟩
      · rw [dget_put] at h
        split at h
        · rename_i q
          cases h
          rw [q, ans_off hoff]
        · exact h1 c v h
      · rw [dget_put]
        split
        · rfl
        · rename_i q
          rcases List.mem_append.mp h with z | z
          · exact h2 c z
          · exact absurd (List.mem_singleton.mp z) q
      · rw [dget_put] at h
        split at h
        · rename_i q
          exact List.mem_append_right _ (List.mem_singleton.mpr q)
        · exact List.mem_append_left _ (h3 c h)
      · have := dput_len (endsA rs l') e (if isIn e rs = true then 1 else 2 : Int)
        rw [List.length_append, List.length_singleton]
        omega
  exact key l.length l rfl
theorem ainv_start (p : Pl) (rs : List Q) : AInv p rs [] (endsA rs (endsQ p)) := by
  obtain ⟨h1, h2, h3, h4⟩ := endsA_inv (p := p) rs (endsQ p) fun _ h => h
  exact ⟨h1, fun c h => h.elim (h2 c) (fun z => by cases z), fun c h => .inl (h3 c h), by simpa using h4⟩
theorem ainv_step {p : Pl} {rs Dn : List Q} {kd : List (Q × Int)} (I : AInv p rs Dn kd) {c : Q} (g : goesOn p c = true) (hb : kidB c ∈ endsQ p ∨ kidB c ∈ Dn) (hg : kidG c ∈ endsQ p ∨ kidG c ∈ Dn) : AInv p rs (Dn ++ [c]) (ansStep kd c) := by
  obtain ⟨vb, eb⟩ := Option.isSome_iff_exists.mp (I.has _ hb)
  obtain ⟨vg, eg⟩ := Option.isSome_iff_exists.mp (I.has _ hg)
  have qb := I.right _ _ eb
  have qg := I.right _ _ eg
  have e : ansStep kd c = dput kd c (ans p rs c) := by
    unfold ansStep
    rw [eb, eg, qb, qg, ans_on g]
    rfl
  rw [e]
  refine ⟨fun d v h => ?_, fun d h => ?_, fun d h => ?_, ?_⟩
  · rw [dget_put] at h
    split at h
    · rename_i q
      cases h
      rw [q]
    · exact I.right d v h
  · rw [dget_put]
    split
    · rfl
    · rename_i q
      rcases h with h | h
      · exact I.has d (.inl h)
      · rcases List.mem_append.mp h with z | z
        · exact I.has d (.inr z)
        · exact absurd (List.mem_singleton.mp z) q
  · rw [dget_put] at h
    split at h
    · rename_i q
      exact .inr (List.mem_append_right _ (List.mem_singleton.mpr q))
    · rcases I.only d h with z | z
      · exact .inl z
      · exact .inr (List.mem_append_left _ z)
  · have := dput_len kd c (ans p rs c)
    have := I.len
    rw [List.length_append, List.length_singleton]
    omega
theorem come_kid {p : Pl} (h : PlanOK p) {c : Q} (g : goesOn p c = true) : kidB c ∈ comeTo p ∧ kidG c ∈ comeTo p := by
  obtain ⟨n, hc⟩ := goesOn_iff.mp g
  have hl := (goesOn_nn g).2
  unfold nn at n
  unfold comeTo
  constructor
  · refine comeN_mem.mpr (.inr ⟨(c.1 + c.2).toNat, by omega, nxt_mem.mpr (.inr ?_), ?_⟩)
    · show c.1 + 1 - 1 ∈ _
      rw [show c.1 + 1 - 1 = c.1 by omega]
      exact hc
    · show c.1 + 1 + c.2 = _
      omega
  · refine comeN_mem.mpr (.inr ⟨(c.1 + c.2).toNat, by omega, nxt_mem.mpr (.inl hc), ?_⟩)
    show c.1 + (c.2 + 1) = _
    omega
theorem backN_mem {p : Pl} (h : PlanOK p) : ∀ {i : Nat} {c : Q}, i ≤ p.length → (c ∈ backN p i ↔ goesOn p c = true ∧ (p.length : Int) - i ≤ lv c)
  | 0, c, _ => by
    have e : backN p 0 = [] := by unfold backN; simp
    rw [e]
    constructor
    · intro z; cases z
    · rintro ⟨g, q⟩
      have := (goesOn_nn g).2
      unfold lv at q
      omega
  | i + 1, c, hi => by
    rw [backN_succ (by omega), List.mem_append, backN_mem h (by omega)]
    have key : c ∈ countsR p (p.length - 1 - i) ↔ goesOn p c = true ∧ lv c = ((p.length - 1 - i : Nat) : Int) := by
      unfold countsR lineQ
      rw [List.mem_map]
      constructor
      · rintro ⟨b, hb, rfl⟩
        have := h.in_ hb
        exact ⟨by rw [goesOn_row h this.1 this.2]; exact decide_eq_true hb, by unfold lv; dsimp only; omega⟩
      · rintro ⟨g, q⟩
        obtain ⟨n, hc⟩ := goesOn_iff.mp g
        unfold lv at q
        refine ⟨c.1, ?_, Prod.ext rfl (by dsimp only; omega)⟩
        rw [q] at hc
        exact hc
    rw [key]
    constructor
    · rintro (⟨g, q⟩ | ⟨g, q⟩)
      · exact ⟨g, by omega⟩
      · exact ⟨g, by omega⟩
    · rintro ⟨g, q⟩
      by_cases z : (p.length : Int) - i ≤ lv c
      · exact .inl ⟨g, z⟩
      · exact .inr ⟨g, by omega⟩
theorem back_kid {p : Pl} (h : PlanOK p) {i : Nat} (hi : i < p.length) {c : Q} (g : goesOn p c = true) (hc : lv c = ((p.length - 1 - i : Nat) : Int)) (Dn : List Q) : (kidB c ∈ endsQ p ∨ kidB c ∈ backN p i ++ Dn) ∧ (kidG c ∈ endsQ p ∨ kidG c ∈ backN p i ++ Dn) := by
  obtain ⟨kb, kg⟩ := come_kid h g
  have key : ∀ x, x ∈ comeTo p → lv x = lv c + 1 → x ∈ endsQ p ∨ x ∈ backN p i ++ Dn := fun x hx hl => by
    cases e : goesOn p x with
    | false => exact .inl (List.mem_filter.mpr ⟨hx, by rw [e]; rfl⟩)
    | true => exact .inr (List.mem_append_left _ ((backN_mem h (by omega)).mpr ⟨e, by omega⟩))
  exact ⟨key _ kb (lv_kidB), key _ kg (lv_kidG)⟩
theorem ainv_rowN {p : Pl} (h : PlanOK p) (rs : List Q) {i : Nat} (hi : i < p.length) {kd : List (Q × Int)} (I : AInv p rs (backN p i) kd) : ∀ t : Nat, AInv p rs (backN p i ++ (countsR p (p.length - 1 - i)).take t) (((countsR p (p.length - 1 - i)).take t).foldl ansStep kd)
  | 0 => by
    rw [List.take_zero, List.append_nil]
    exact I
  | t + 1 => by
    have J := ainv_rowN h rs hi I t
    rcases hx : (countsR p (p.length - 1 - i))[t]? with _ | x
    · have e : (countsR p (p.length - 1 - i)).take (t + 1) = (countsR p (p.length - 1 - i)).take t := by
        rw [List.take_add_one, hx]; simp
      rw [e]
      exact J
    · obtain ⟨g, hl, _⟩ := row_facts h hx
      obtain ⟨kb, kg⟩ := back_kid h hi g hl ((countsR p (p.length - 1 - i)).take t)
      have e : (countsR p (p.length - 1 - i)).take (t + 1) = (countsR p (p.length - 1 - i)).take t ++ [x] := by
        rw [List.take_add_one, hx]; rfl
      rw [e, List.foldl_append, ← List.append_assoc]
      exact ainv_step J g kb kg
theorem ainv_back {p : Pl} (h : PlanOK p) (rs : List Q) : ∀ i : Nat, i ≤ p.length → AInv p rs (backN p i) ((backN p i).foldl ansStep (endsA rs (endsQ p)))
  | 0, _ => by
    have e : backN p 0 = [] := by unfold backN; simp
    rw [e]
    exact ainv_start p rs
  | i + 1, hi => by
    have J := ainv_rowN h rs (show i < p.length by omega) (ainv_back h rs i (by omega)) (countsR p (p.length - 1 - i)).length
    rw [List.take_length] at J
    rw [backN_succ (by omega), List.foldl_append]
    exact J
theorem backN_len {p : Pl} (h : PlanOK p) : ∀ i : Nat, i ≤ p.length → (backN p i).length ≤ 30 * i
  | 0, _ => by unfold backN; simp
  | i + 1, hi => by
    rw [backN_succ (by omega), List.length_append]
    have := backN_len h i (by omega)
    have h2 := h.row_len (p.length - 1 - i)
    have h3 := h.len
    have e : (countsR p (p.length - 1 - i)).length = (row p (p.length - 1 - i)).length := lineQ_len _ _
    omega
/-- what the table tells of a count that is come to -/
theorem ansD_get {p : Pl} (h : PlanOK p) (rs : List Q) {c : Q} (hc : c ∈ comeTo p) : dget (ansD p rs) c = some (ans p rs c) := by
  have I := ainv_back h rs p.length (Nat.le_refl _)
  have hs : (dget (ansD p rs) c).isSome = true := I.has c (by
    cases e : goesOn p c with
    | false => exact .inl (List.mem_filter.mpr ⟨hc, by rw [e]; rfl⟩)
    | true => exact .inr ((backN_mem h (Nat.le_refl _)).mpr ⟨e, by have := (goesOn_nn e).1; unfold nn at this; unfold lv; omega⟩))
  obtain ⟨v, hv⟩ := Option.isSome_iff_exists.mp hs
  rw [hv, I.right c v hv]
/-- the counts at which the plan cut short draws on -/
def cutN (p : Pl) (rs : List Q) (l : List Q) : List Q := [(0, 0)] ++ l.filter fun c => decide (ans p rs c = 3)
def cutC (p : Pl) (rs : List Q) : List Q := cutN p rs (countsN p p.length)
def cutP (p : Pl) (rs : List Q) : Pl := planK (knC (cutC p rs))
def cutR (p : Pl) (rs : List Q) : List Q := (endsQ (cutP p rs)).filter fun e => decide (ans p rs e = 1)
theorem planK_row {kn : Q → Bool} (h24 : rowK kn 24 = []) (k : Nat) : row (planK kn) k = rowK kn k := by
  obtain ⟨L, h1, h2, h3⟩ := firstNil 24 h24
  rw [planK_eq h1 h2 h3, row_range]
  split
  · rfl
  · rename_i q
    have := rowK_nil h2 (k - L)
    rw [show L + (k - L) = k by omega] at this
    exact this.symm
theorem cutC_mem {p : Pl} (h : PlanOK p) {rs : List Q} {c : Q} : knC (cutC p rs) c = true ↔ c = (0, 0) ∨ (goesOn p c = true ∧ ans p rs c = 3) := by
  unfold knC cutC cutN
  rw [decide_eq_true_eq, List.mem_append, List.mem_singleton, List.mem_filter, decide_eq_true_eq, countsN_mem h]
  constructor
  · rintro (z | ⟨⟨g, _⟩, q⟩)
    · exact .inl z
    · exact .inr ⟨g, q⟩
  · rintro (z | ⟨g, q⟩)
    · exact .inl z
    · exact .inr ⟨⟨g, by have := (goesOn_nn g).2; unfold lv; omega⟩, q⟩
theorem cutC_on {p : Pl} (h : PlanOK p) {rs : List Q} {c : Q} (k : knC (cutC p rs) c = true) : goesOn p c = true := by
  rcases (cutC_mem h).mp k with rfl | q
  · exact first_on h
  · exact q.1
theorem cut24 {p : Pl} (h : PlanOK p) (rs : List Q) : rowK (knC (cutC p rs)) 24 = [] := by
  rw [List.eq_nil_iff_forall_not_mem]
  intro x hx
  have g := (goesOn_nn (cutC_on h (List.mem_filter.mp hx).2)).2
  have := h.len
  dsimp only at g
  omega
theorem cut00 (p : Pl) (rs : List Q) : knC (cutC p rs) (0, 0) = true := by
  unfold knC cutC cutN
  exact decide_eq_true (List.mem_append_left _ (List.mem_singleton.mpr rfl))
theorem cut_ok {p : Pl} (h : PlanOK p) (rs : List Q) : PlanOK (cutP p rs) := planK_ok (cut00 p rs) (cut24 h rs)
theorem cut_row {p : Pl} (h : PlanOK p) (rs : List Q) (k : Nat) : row (cutP p rs) k = rowK (knC (cutC p rs)) k := planK_row (cut24 h rs) k
theorem cut_goes {p : Pl} (h : PlanOK p) {rs : List Q} {c : Q} (g : goesOn (cutP p rs) c = true) : goesOn p c = true ∧ (c = (0, 0) ∨ ans p rs c = 3) := by
  obtain ⟨n, hc⟩ := goesOn_iff.mp g
  unfold nn at n
  rw [cut_row h] at hc
  have k := (List.mem_filter.mp hc).2
  rw [show (c.1, ((c.1 + c.2).toNat : Int) - c.1) = c from Prod.ext rfl (by dsimp only; omega)] at k
  refine ⟨cutC_on h k, ?_⟩
  rcases (cutC_mem h).mp k with z | z
  · exact .inl z
  · exact .inr z.2
theorem cut_len {p : Pl} (h : PlanOK p) (rs : List Q) : (cutP p rs).length ≤ p.length := by
  rcases Nat.lt_or_ge p.length (cutP p rs).length with q | q
  · exfalso
    have hne := (cut_ok h rs).ne p.length q
    obtain ⟨x, hx⟩ := List.exists_mem_of_ne_nil _ hne
    have hb := (cut_ok h rs).in_ hx
    have g := goesOn_row (cut_ok h rs) hb.1 hb.2
    rw [decide_eq_true hx] at g
    have := (goesOn_nn (cut_goes h g).1).2
    dsimp only at this
    omega
  · exact q
/-- a count that the plan cut short comes to -/
theorem cut_come {p : Pl} (h : PlanOK p) {rs : List Q} {c : Q} (hc : c ∈ comeTo (cutP p rs)) : c ∈ comeTo p := by
  rcases comeN_mem.mp hc with rfl | ⟨k, hk, h1, h2⟩
  · exact comeN_mem.mpr (.inl rfl)
  · have key : ∀ x : Int, x ∈ row (cutP p rs) k → x ∈ row p k := fun x hx => by
      have hb := (cut_ok h rs).in_ hx
      have g := goesOn_row (cut_ok h rs) hb.1 hb.2
      rw [decide_eq_true hx] at g
      have g2 := goesOn_row h hb.1 hb.2
      rw [(cut_goes h g).1] at g2
      exact of_decide_eq_true g2.symm
    refine comeN_mem.mpr (.inr ⟨k, Nat.lt_of_lt_of_le hk (cut_len h rs), ?_, h2⟩)
    rcases nxt_mem.mp h1 with z | z
    · exact nxt_mem.mpr (.inl (key _ z))
    · exact nxt_mem.mpr (.inr (key _ z))
theorem cut_on {p : Pl} (h : PlanOK p) {rs : List Q} {c : Q} (hc : c ∈ comeTo (cutP p rs)) (g : goesOn p c = true) (a : c = (0, 0) ∨ ans p rs c = 3) : goesOn (cutP p rs) c = true := by
  have k : knC (cutC p rs) c = true := (cutC_mem h).mpr (a.imp id fun z => ⟨g, z⟩)
  rcases comeN_mem.mp hc with rfl | ⟨k', hk, h1, h2⟩
  · exact first_on (cut_ok h rs)
  · have hn := (come_nn (cut_ok h rs) hc).1
    refine goesOn_iff.mpr ⟨hn, ?_⟩
    rw [cut_row h, show (c.1 + c.2).toNat = k' + 1 by omega]
    rw [cut_row h, ← comeK_succ] at h1
    refine List.mem_filter.mpr ⟨h1, ?_⟩
    rw [show (c.1, (((k' + 1 : Nat) : Int)) - c.1) = c from Prod.ext rfl (by dsimp only; omega)]
    exact k
theorem cut_end {p : Pl} (h : PlanOK p) {rs : List Q} {e : Q} (he : e ∈ endsQ (cutP p rs)) : e ∈ comeTo p ∧ (ans p rs e = 1 ∨ ans p rs e = 2) := by
  obtain ⟨hc, ho⟩ := List.mem_filter.mp he
  have ho' : goesOn (cutP p rs) e = false := by simpa using ho
  have hp := cut_come h hc
  refine ⟨hp, ?_⟩
  cases g : goesOn p e with
  | false =>
    rw [ans_off g]
    split
    · exact .inl rfl
    · exact .inr rfl
  | true =>
    rcases ans_at p rs e with z | z | z
    · exact .inl z
    · exact .inr z
    · rw [cut_on h hc g (.inr z)] at ho'
      cases ho'
/-! what it refuses -/
/-- how much of all that begins at a count is refused, the coefficient of a power -/
def refuN (p : Pl) (rs : List Q) (k : Nat) : Nat → Q → Int
  | 0, c => if isIn c rs = true then pcf c k else 0
  | n + 1, c => if goesOn p c = true then refuN p rs k n (kidB c) + refuN p rs k n (kidG c) else if isIn c rs = true then pcf c k else 0
def refu (p : Pl) (rs : List Q) (k : Nat) (c : Q) : Int := refuN p rs k (p.length - (lv c).toNat) c
theorem refu_on {p : Pl} {rs : List Q} {k : Nat} {c : Q} (g : goesOn p c = true) : refu p rs k c = refu p rs k (kidB c) + refu p rs k (kidG c) := by
  have h := goesOn_nn g
  have hn : 0 ≤ lv c := by have := h.1; unfold nn at this; unfold lv; omega
  have hl : (lv c).toNat < p.length := by have := h.2; have h1 := h.1; unfold nn at h1; unfold lv; omega
  have e1 : (lv (kidB c)).toNat = (lv c).toNat + 1 := by rw [lv_kidB]; omega
  have e2 : (lv (kidG c)).toNat = (lv c).toNat + 1 := by rw [lv_kidG]; omega
  unfold refu
  rw [e1, e2, show p.length - (lv c).toNat = (p.length - ((lv c).toNat + 1)) + 1 by omega]
  show (if goesOn p c = true then _ else _) = _
  rw [if_pos g]
theorem refu_off {p : Pl} {rs : List Q} {k : Nat} {c : Q} (g : goesOn p c = false) : refu p rs k c = if isIn c rs = true then pcf c k else 0 := by
  unfold refu
  cases p.length - (lv c).toNat with
  | zero => rfl
  | succ n =>
    show (if goesOn p c = true then _ else _) = _
    rw [if_neg (by rw [g]; decide)]
theorem refu_ans {p : Pl} {rs : List Q} {k : Nat} : ∀ (n : Nat) {c : Q}, p.length - (lv c).toNat = n → nn c → (ans p rs c = 1 → refu p rs k c = pcf c k) ∧ (ans p rs c = 2 → refu p rs k c = 0) := fun n => by
  induction n with
  | zero =>
    intro c hn h0
    have g : goesOn p c = false := by
      cases e : goesOn p c with
      | false => rfl
      | true =>
        have := (goesOn_nn e).2
        unfold nn at h0
        unfold lv at hn
        omega
    rw [ans_off g, refu_off g]
    constructor
    · intro q
      split at q
      · rename_i z; rw [if_pos z]
      · cases q
    · intro q
      split at q
      · cases q
      · rename_i z; rw [if_neg z]
  | succ n ih =>
    intro c hn h0
    cases g : goesOn p c with
    | false =>
      rw [ans_off g, refu_off g]
      constructor
      · intro q
        split at q
        · rename_i z; rw [if_pos z]
        · cases q
      · intro q
        split at q
        · cases q
        · rename_i z; rw [if_neg z]
    | true =>
      have h := goesOn_nn g
      have hn0 : 0 ≤ lv c := by unfold nn at h0; unfold lv; omega
      have e1 : p.length - (lv (kidB c)).toNat = n := by rw [lv_kidB]; omega
      have e2 : p.length - (lv (kidG c)).toNat = n := by rw [lv_kidG]; omega
      obtain ⟨b1, b2⟩ := ih e1 (nn_kidB h0)
      obtain ⟨g1, g2⟩ := ih e2 (nn_kidG h0)
      rw [refu_on g]
      rcases ans_kid (rs := rs) g with ⟨z, zb, zg⟩ | ⟨z, zb, zg⟩ | ⟨z, _, _⟩
      · exact ⟨fun _ => (by rw [b1 zb, g1 zg, pcf_add h0]), fun q => (by rw [z] at q; cases q)⟩
      · exact ⟨fun q => (by rw [z] at q; cases q), fun _ => (by rw [b2 zb, g2 zg]; rfl)⟩
      · exact ⟨fun q => (by rw [z] at q; cases q), fun q => (by rw [z] at q; cases q)⟩
theorem sumZ_if {α : Type} (P : α → Bool) (f : α → Int) : ∀ l : List α, sumZ l (fun x => if P x = true then f x else 0) = sumZ (l.filter P) f
  | [] => rfl
  | x :: l => by
    have ih := sumZ_if P f l
    rw [List.filter_cons]
    by_cases h : P x = true
    · rw [if_pos h]
      show (if P x = true then f x else 0) + _ = f x + _
      rw [if_pos h, ih]
    · rw [if_neg h]
      show (if P x = true then f x else 0) + _ = _
      rw [if_neg h, ih]
      omega
theorem flowZ {p : Pl} (h : PlanOK p) (r : Q → Int) (hr : ∀ c, goesOn p c = true → r c = r (kidB c) + r (kidG c)) : sumZ (endsQ p) (fun e => way p (0, 0) e * r e) = r (0, 0) := by
  have f := flow h (b := (0, 0)) (.inl rfl) (fun c => (r c : Rat)) fun c g => by
    rw [hr c g]
    exact_mod_cast rfl
  have e := sumZ_cast (fun e => way p (0, 0) e * r e) (endsQ p)
  have e2 : sumL (endsQ p) (fun e => ((way p (0, 0) e * r e : Int) : Rat)) = sumL (endsQ p) (fun e => (way p (0, 0) e : Rat) * (r e : Rat)) := sumL_congr fun x _ => by
    exact_mod_cast rfl
  rw [e2, f] at e
  exact_mod_cast e
/-- the odds of refusing: the same cut short -/
theorem cut_same {p : Pl} (h : PlanOK p) (rs : List Q) (k : Nat) :
    sumZ ((endsQ (cutP p rs)).filter fun e => isIn e (cutR p rs)) (fun e => way (cutP p rs) (0, 0) e * pcf e k) = sumZ ((endsQ p).filter fun e => isIn e rs) (fun e => way p (0, 0) e * pcf e k) := by
  have f1 := flowZ h (refu p rs k) fun c g => refu_on g
  have f2 := flowZ (cut_ok h rs) (refu p rs k) fun c g => refu_on (cut_goes h g).1
  have e1 : sumZ (endsQ p) (fun e => way p (0, 0) e * refu p rs k e) = sumZ (endsQ p) (fun e => if isIn e rs = true then way p (0, 0) e * pcf e k else 0) := sumZ_congr fun e he => by
    have ho : goesOn p e = false := by simpa using (List.mem_filter.mp he).2
    rw [refu_off ho]
    split
    · rfl
    · rw [Int.mul_zero]
  have e2 : sumZ (endsQ (cutP p rs)) (fun e => way (cutP p rs) (0, 0) e * refu p rs k e) = sumZ (endsQ (cutP p rs)) (fun e => if isIn e (cutR p rs) = true then way (cutP p rs) (0, 0) e * pcf e k else 0) := sumZ_congr fun e he => by
    obtain ⟨hc, ha⟩ := cut_end h he
    have hn := (come_nn h hc).1
    obtain ⟨q1, q2⟩ := refu_ans (rs := rs) (k := k) _ rfl hn
    rcases ha with ha | ha
    · rw [q1 ha, if_pos (show isIn e (cutR p rs) = true from isIn_iff.mpr (List.mem_filter.mpr ⟨he, decide_eq_true ha⟩))]
    · rw [q2 ha, if_neg, Int.mul_zero]
      intro z
      have := of_decide_eq_true (List.mem_filter.mp (isIn_iff.mp z)).2
      rw [ha] at this
      cases this
  rw [← sumZ_if, ← sumZ_if, ← e1, ← e2, f1, f2]
end PD
/-! the odds of a rule, summed up by the law; helpers on ends -/
namespace PD
open PySem PySem.Spec PyProof.Rows L2
variable [TN]
structure AccR (p : Pl) (a : List Int) (l : List Q) : Prop where
  cf_ : ∀ k, cf a k = sumZ l fun e => way p (0, 0) e * pcf e k
  len : a.length ≤ 100
  in_ : EndsIn p l
theorem AccR.bd {p : Pl} {a : List Int} {l : List Q} (h : AccR p a l) (k : Nat) : Bd 139 (cf a k) := by rw [h.cf_]; exact h.in_.cfb k
theorem AccR.nil {p : Pl} (h : PlanOK p) : AccR p [] [] := ⟨fun k => rfl, by decide, h, by decide, fun e he => nomatch he⟩
theorem AccR.add {p : Pl} {a : List Int} {l : List Q} (h : AccR p a l) {e : Q} (he : e ∈ endsQ p) (hl : l.length < 1024) : AccR p (addF a (powI e.1.toNat e.2.toNat) (way p (0, 0) e)) (l ++ [e]) := by
  obtain ⟨n, q⟩ := end_nn h.in_.ok he
  have h24 := h.in_.ok.len
  refine ⟨fun k => ?_, ?_, h.in_.ok, by rw [List.length_append]; simp only [List.length_singleton]; omega, fun y hy => ?_⟩
  · rw [addF_cf, sumZ_snoc, h.cf_]
    rfl
  · rw [addF_len, powI_len]
    have := h.len
    unfold nn at n
    unfold lv at q
    unfold mx
    split <;> omega
  · rcases List.mem_append.mp hy with z | z
    · exact h.in_.at_ y z
    · cases List.mem_singleton.mp z
      exact he
def odzL (p : Pl) (l : List Q) : List Int := l.foldl (fun a e => addF a (powI e.1.toNat e.2.toNat) (way p (0, 0) e)) []
def odzI (p : Pl) (rs : List Q) : List Int := odzL p ((endsQ p).filter fun e => isIn e rs)
theorem odzL_snoc (p : Pl) (l : List Q) (e : Q) : odzL p (l ++ [e]) = addF (odzL p l) (powI e.1.toNat e.2.toNat) (way p (0, 0) e) := by
  unfold odzL
  rw [List.foldl_append]
  rfl
theorem odzL_acc {p : Pl} (h : PlanOK p) : ∀ (n : Nat) (l : List Q), l.length = n → (∀ e ∈ l, e ∈ endsQ p) → n ≤ 1024 → AccR p (odzL p l) l
  | 0, l, hl, _, _ => by
    cases List.length_eq_zero_iff.mp hl
    exact AccR.nil h
  | n + 1, l, hl, hin, hn => by
    have hne : l ≠ [] := fun z => by rw [z] at hl; cases hl
    obtain ⟨l', e, rfl⟩ : ∃ l' e, l = l' ++ [e] := ⟨l.dropLast, l.getLast hne, (List.dropLast_concat_getLast hne).symm⟩
    have hl' : l'.length = n := by simpa using hl
    rw [odzL_snoc]
    exact (odzL_acc h n l' hl' (fun x hx => hin x (List.mem_append_left _ hx)) (by omega)).add (hin e (List.mem_append_right _ (List.mem_singleton.mpr rfl))) (by omega)
theorem odzI_acc {p : Pl} (h : PlanOK p) (rs : List Q) : AccR p (odzI p rs) ((endsQ p).filter fun e => isIn e rs) :=
  odzL_acc h _ _ rfl (fun e he => (List.mem_filter.mp he).1) (Nat.le_trans (List.length_filter_le _ _) (endsIn h).le)
theorem odz_takes {p : Pl} (h : PlanOK p) (rs : List Q) (i : Nat) : AccR p (odzL p (((endsQ p).take i).filter fun e => isIn e rs)) (((endsQ p).take i).filter fun e => isIn e rs) :=
  odzL_acc h _ _ rfl (fun e he => List.mem_of_mem_take (List.mem_filter.mp he).1) (by have h1 := (endsIn h).le; have h2 := List.length_filter_le (fun e => isIn e rs) ((endsQ p).take i); rw [List.length_take] at h2; omega)
theorem odz_same {p : Pl} (h : PlanOK p) (rs : List Q) (k : Nat) : cf (odzI (cutP p rs) (cutR p rs)) k = cf (odzI p rs) k := by
  rw [(odzI_acc h rs).cf_, (odzI_acc (cut_ok h rs) (cutR p rs)).cf_]
  exact cut_same h rs k
theorem filter_snocQ {α : Type} (P : α → Bool) (l : List α) (x : α) : (l ++ [x]).filter P = if P x = true then l.filter P ++ [x] else l.filter P := by
  rw [List.filter_append, List.filter_cons]
  split <;> simp
theorem cutN_snoc (p : Pl) (rs l : List Q) (c : Q) : cutN p rs (l ++ [c]) = if ans p rs c = 3 then cutN p rs l ++ [c] else cutN p rs l := by
  unfold cutN
  rw [filter_snocQ]
  by_cases h : ans p rs c = 3
  · rw [if_pos (decide_eq_true h), if_pos h, List.append_assoc]
  · rw [if_neg (by rw [decide_eq_true_eq]; exact h), if_neg h]
theorem cutN_len (p : Pl) (rs l : List Q) : (cutN p rs l).length ≤ 1 + l.length := by
  unfold cutN
  rw [List.length_append, List.length_singleton]
  have := List.length_filter_le (fun c => decide (ans p rs c = 3)) l
  omega
theorem come_on {p : Pl} (h : PlanOK p) {c : Q} (g : goesOn p c = true) : c ∈ comeTo p := by
  rcases on_par h g with rfl | z | z
  · exact comeN_mem.mpr (.inl rfl)
  · have := (come_kid h z).1
    rwa [kidB_par] at this
  · have := (come_kid h z).2
    rwa [kidG_par] at this
theorem powR_bd {p : Pl} {e : Q} (h : PlanOK p) (he : e ∈ endsQ p) : (powI e.1.toNat e.2.toNat).length ≤ 1000 ∧ (∀ t ∈ powI e.1.toNat e.2.toNat, Bd 10000 t) ∧ Bd 10000 (way p (0, 0) e) := by
  obtain ⟨n, q⟩ := end_nn h he
  have h24 := h.len
  refine ⟨?_, fun t ht => ?_, (way_bd (by omega)).mono (by decide)⟩
  · rw [powI_len]
    unfold nn at n
    unfold lv at q
    omega
  · obtain ⟨k, _, rfl⟩ := mem_cf ht
    exact (pcf_bd n (by omega) k).mono (by decide)
/-- what is left of two alike ones -/
theorem left_nil {a b : List Int} (h : ∀ k, cf a k = cf b k) : ∀ x ∈ addF a b (-1), x = 0 := fun x hx => by
  obtain ⟨k, hk, rfl⟩ := List.mem_iff_getElem.mp hx
  have e : cf (addF a b (-1)) k = (addF a b (-1))[k] := by
    unfold cf
    rw [List.getD_eq_getElem?_getD, List.getElem?_eq_getElem hk]
    rfl
  rw [← e, addF_cf, h]
  omega
/-- the last end has all draws -/
theorem last_end {p : Pl} (h : PlanOK p) : ∃ l e, endsQ p = l ++ [e] ∧ lv e = p.length := by
  have hp := h.pos
  obtain ⟨n, hn⟩ : ∃ n, p.length = n + 1 := ⟨p.length - 1, by omega⟩
  have e1 := lends_eq h
  rw [hn, lendN_succ] at e1
  have e2 : row p (n + 1) = [] := row_out (by omega)
  have hne : row p n ≠ [] := h.ne n (by omega)
  obtain ⟨x, hx⟩ := List.exists_mem_of_ne_nil _ hne
  have hf : (nxt (row p n)).filter (fun b => !decide (b ∈ row p (n + 1))) ≠ [] := fun z => by
    have : x ∈ (nxt (row p n)).filter (fun b => !decide (b ∈ row p (n + 1))) := List.mem_filter.mpr ⟨nxt_mem.mpr (.inl hx), by rw [e2]; simp⟩
    rw [z] at this
    cases this
  generalize hl : (nxt (row p n)).filter (fun b => !decide (b ∈ row p (n + 1))) = L at *
  have hz : L = L.dropLast ++ [L.getLast hf] := (List.dropLast_concat_getLast hf).symm
  refine ⟨lendN p n ++ lineQ ((n : Int) + 1) L.dropLast, (L.getLast hf, (n : Int) + 1 - L.getLast hf), ?_, ?_⟩
  · rw [← e1, List.append_assoc]
    congr 1
    conv => lhs; rw [hz]
    unfold lineQ
    rw [List.map_append]
    rfl
  · unfold lv
    dsimp only
    omega
theorem not_end {p : Pl} (h : PlanOK p) {e : Q} (he : (p.length : Int) < lv e) : e ∉ endsQ p := fun z => by
  have := (end_nn h z).2
  omega
end PD
/-! a plan cut short is as short as can be -/
namespace PD
open PySem PySem.Spec PyProof.Rows L2
variable [TN]
theorem cutR_ends {p : Pl} {rs : List Q} : ∀ e ∈ cutR p rs, e ∈ endsQ (cutP p rs) := fun e he => (List.mem_filter.mp he).1
theorem ans_cut {p : Pl} (h : PlanOK p) (rs : List Q) : ∀ (n : Nat) {c : Q}, (cutP p rs).length - (lv c).toNat = n → c ∈ comeTo (cutP p rs) → ans (cutP p rs) (cutR p rs) c = ans p rs c := fun n => by
  induction n with
  | zero =>
    intro c hn hc
    have hS := cut_ok h rs
    have h0 := (come_nn hS hc).1
    have g : goesOn (cutP p rs) c = false := by
      cases e : goesOn (cutP p rs) c with
      | false => rfl
      | true =>
        have := (goesOn_nn e).2
        unfold nn at h0
        unfold lv at hn
        omega
    have he : c ∈ endsQ (cutP p rs) := List.mem_filter.mpr ⟨hc, by rw [g]; rfl⟩
    rw [ans_off g]
    rcases (cut_end h he).2 with z | z
    · rw [if_pos (show isIn c (cutR p rs) = true from isIn_iff.mpr (List.mem_filter.mpr ⟨he, decide_eq_true z⟩)), z]
    · rw [if_neg, z]
      intro q
      have := of_decide_eq_true (List.mem_filter.mp (isIn_iff.mp q)).2
      rw [z] at this
      cases this
  | succ n ih =>
    intro c hn hc
    have hS := cut_ok h rs
    have h0 := (come_nn hS hc).1
    cases g : goesOn (cutP p rs) c with
    | false =>
      have he : c ∈ endsQ (cutP p rs) := List.mem_filter.mpr ⟨hc, by rw [g]; rfl⟩
      rw [ans_off g]
      rcases (cut_end h he).2 with z | z
      · rw [if_pos (show isIn c (cutR p rs) = true from isIn_iff.mpr (List.mem_filter.mpr ⟨he, decide_eq_true z⟩)), z]
      · rw [if_neg, z]
        intro q
        have := of_decide_eq_true (List.mem_filter.mp (isIn_iff.mp q)).2
        rw [z] at this
        cases this
    | true =>
      have hn0 : 0 ≤ lv c := by unfold nn at h0; unfold lv; omega
      have e1 : (cutP p rs).length - (lv (kidB c)).toNat = n := by rw [lv_kidB]; omega
      have e2 : (cutP p rs).length - (lv (kidG c)).toNat = n := by rw [lv_kidG]; omega
      obtain ⟨k1, k2⟩ := come_kid hS g
      rw [ans_on g, ans_on (cut_goes h g).1, ih e1 k1, ih e2 k2]
theorem ans_cut' {p : Pl} (h : PlanOK p) {rs : List Q} {c : Q} (hc : c ∈ comeTo (cutP p rs)) : ans (cutP p rs) (cutR p rs) c = ans p rs c := ans_cut h rs _ rfl hc
theorem cut_three {p : Pl} (h : PlanOK p) {rs : List Q} {c : Q} (g : goesOn (cutP p rs) c = true) (n0 : 0 < lv c) : ans (cutP p rs) (cutR p rs) c = 3 := by
  rw [ans_cut' h (come_on (cut_ok h rs) g)]
  rcases (cut_goes h g).2 with z | z
  · rw [z] at n0
    exact absurd n0 (by decide)
  · exact z
theorem rowK_of {kn : Q → Bool} {S : Pl} (hS : PlanOK S) (hk : ∀ c, kn c = true ↔ goesOn S c = true) : ∀ k : Nat, rowK kn k = row S k
  | 0 => by
    rw [hS.first]
    exact rowK_zero ((hk _).mpr (first_on hS))
  | k + 1 => by
    have ih := rowK_of hS hk k
    unfold rowK
    rw [comeK_succ, ih]
    refine ris_unique ((nxt_ris _).sublist List.filter_sublist) (hS.ris _) fun x => ?_
    rw [List.mem_filter]
    constructor
    · rintro ⟨hx, hq⟩
      have b := hS.next_in hx
      have g := (hk _).mp hq
      rw [goesOn_row hS b.1 (by omega)] at g
      exact of_decide_eq_true g
    · intro hx
      have b := hS.in_ hx
      refine ⟨hS.step k x hx, (hk _).mpr ?_⟩
      rw [goesOn_row hS b.1 b.2]
      exact decide_eq_true hx
theorem pl_ext {p q : Pl} (h : p.length = q.length) (e : ∀ k, row p k = row q k) : p = q := by
  refine List.ext_getElem h fun k h1 h2 => ?_
  have := e k
  unfold row at this
  rw [List.getD_eq_getElem?_getD, List.getD_eq_getElem?_getD, List.getElem?_eq_getElem h1, List.getElem?_eq_getElem h2] at this
  exact this
theorem planK_of {kn : Q → Bool} {S : Pl} (hS : PlanOK S) (hk : ∀ c, kn c = true ↔ goesOn S c = true) : planK kn = S := by
  have hr := rowK_of hS hk
  have hl := hS.len
  have h0 : rowK kn S.length = [] := by rw [hr]; exact row_out (Nat.le_refl _)
  rw [planK_eq hl h0 fun j hj => by rw [hr]; exact hS.ne j hj]
  refine pl_ext (by rw [List.length_map, List.length_range]) fun k => ?_
  rw [row_range]
  split
  · exact hr k
  · rename_i q
    exact (row_out (by omega)).symm
theorem cut_again {p : Pl} (h : PlanOK p) (rs : List Q) : cutP (cutP p rs) (cutR p rs) = cutP p rs := by
  refine planK_of (cut_ok h rs) fun c => ?_
  rw [cutC_mem (cut_ok h rs)]
  constructor
  · rintro (rfl | ⟨g, _⟩)
    · exact first_on (cut_ok h rs)
    · exact g
  · intro g
    rcases (cut_goes h g).2 with z | z
    · exact .inl z
    · exact .inr ⟨g, by rw [ans_cut' h (come_on (cut_ok h rs) g)]; exact z⟩
theorem cut_againR {p : Pl} (h : PlanOK p) (rs : List Q) : cutR (cutP p rs) (cutR p rs) = cutR p rs := by
  show (endsQ (cutP (cutP p rs) (cutR p rs))).filter _ = (endsQ (cutP p rs)).filter _
  rw [cut_again h]
  refine List.filter_congr fun e he => ?_
  rw [ans_cut' h (List.mem_filter.mp he).1]
/-! the law's table of both answers -/
def vL (a : Int) : List Int := if a = 1 then [1, 0] else if a = 2 then [0, 1] else [1, 1]
theorem vL_or {a b : Int} (ha : a = 1 ∨ a = 2 ∨ a = 3) (hb : b = 1 ∨ b = 2 ∨ b = 3) : [if (vL b).getD (Int.toNat 0) 0 > (vL a).getD (Int.toNat 0) 0 then (vL b).getD (Int.toNat 0) 0 else (vL a).getD (Int.toNat 0) 0, if (vL b).getD (Int.toNat 1) 0 > (vL a).getD (Int.toNat 1) 0 then (vL b).getD (Int.toNat 1) 0 else (vL a).getD (Int.toNat 1) 0] = vL (Builtin.bitOr a b) := by
  rcases ha with rfl | rfl | rfl <;> rcases hb with rfl | rfl | rfl <;> decide +kernel
theorem vL_len (a : Int) : (vL a).length = 2 := by unfold vL; split; rfl; split <;> rfl
abbrev mapL (kd : List (Q × Int)) : List (Q × List Int) := kd.map fun q => (q.1, vL q.2)
theorem mapL_get (c : Q) : ∀ kd : List (Q × Int), dget (mapL kd) c = (dget kd c).map vL
  | [] => rfl
  | q :: kd => by
    show dget ((q.1, vL q.2) :: mapL kd) c = _
    rw [dget_cons, dget_cons, mapL_get c kd]
    split <;> rfl
theorem mapL_put (kd : List (Q × Int)) (c : Q) (v : Int) : dput (mapL kd) c (vL v) = mapL (dput kd c v) := by
  unfold dput mapL
  rw [List.any_map]
  have e : (kd.any ((fun p : Q × List Int => decide (p.1 = c)) ∘ fun q => (q.1, vL q.2))) = kd.any (fun q => decide (q.1 = c)) := rfl
  rw [e]
  split
  · rw [List.map_map, List.map_map]
    refine List.map_congr_left fun q _ => ?_
    show (if q.1 = c then _ else _) = _
    by_cases h : q.1 = c
    · simp [h]
    · simp [h]
  · rw [List.map_append]
    rfl
end PD
/-! plans made by words -/
namespace PD
open PySem PySem.Spec PyProof.Rows L2
variable [TN]
def whereR (g : Int → Int → Bool) (m i : Nat) : List Q := ((rngT 0 i).filter fun b => g b ((m : Int) - b)).map fun b => (b, (m : Int) - b)
def whereN (g : Int → Int → Bool) (n : Nat) : List Q := ((List.range n).map fun m => whereR g m (m + 1)).flatten
theorem rngT_snoc (k : Nat) : rngT 0 (k + 1) = rngT 0 k ++ [(k : Int)] := by
  unfold rngT
  rw [List.range_succ, List.map_append]
  congr 1
  show [(0 : Int) + (k : Int)] = _
  rw [Int.zero_add]
theorem whereR_succ (g : Int → Int → Bool) (m i : Nat) : whereR g m (i + 1) = if g (i : Int) ((m : Int) - i) = true then whereR g m i ++ [((i : Int), (m : Int) - i)] else whereR g m i := by
  unfold whereR
  rw [rngT_snoc, List.filter_append, List.filter_cons, List.filter_nil]
  split
  · rw [List.map_append]
    rfl
  · rw [List.append_nil]
theorem whereN_succ (g : Int → Int → Bool) (n : Nat) : whereN g (n + 1) = whereN g n ++ whereR g n (n + 1) := by
  unfold whereN
  rw [List.range_succ, List.map_append, List.flatten_append]
  simp
theorem whereR_len (g : Int → Int → Bool) (m i : Nat) : (whereR g m i).length ≤ i := by
  unfold whereR
  rw [List.length_map]
  refine Nat.le_trans (List.length_filter_le _ _) ?_
  rw [rngT_len]
  exact Nat.le_refl _
theorem whereN_len (g : Int → Int → Bool) : ∀ n : Nat, n ≤ 24 → (whereN g n).length ≤ 25 * n
  | 0, _ => by unfold whereN; simp
  | n + 1, h => by
    rw [whereN_succ, List.length_append]
    have h1 := whereN_len g n (by omega)
    have h2 := whereR_len g n (n + 1)
    omega
theorem whereN_mem {g : Int → Int → Bool} {n : Nat} {c : Q} : c ∈ whereN g n ↔ nn c ∧ lv c < n ∧ g c.1 c.2 = true := by
  unfold whereN whereR nn lv
  rw [List.mem_flatten]
  constructor
  · rintro ⟨l, hl, hc⟩
    obtain ⟨m, hm, rfl⟩ := List.mem_map.mp hl
    obtain ⟨b, hb, rfl⟩ := List.mem_map.mp hc
    obtain ⟨h1, h2⟩ := List.mem_filter.mp hb
    have h3 := mem_rngT.mp h1
    have h4 := List.mem_range.mp hm
    exact ⟨⟨by dsimp only; omega, by dsimp only; omega⟩, by dsimp only; omega, h2⟩
  · rintro ⟨⟨h1, h2⟩, h3, h4⟩
    refine ⟨_, List.mem_map.mpr ⟨(c.1 + c.2).toNat, List.mem_range.mpr (by omega), rfl⟩, List.mem_map.mpr ⟨c.1, List.mem_filter.mpr ⟨mem_rngT.mpr (by omega), ?_⟩, Prod.ext rfl (by dsimp only; omega)⟩⟩
    rw [show (((c.1 + c.2).toNat : Nat) : Int) - c.1 = c.2 by omega]
    exact h4
theorem where_kn {g : Int → Int → Bool} {n : Nat} {c : Q} : knC (whereN g n) c = true ↔ nn c ∧ lv c < n ∧ g c.1 c.2 = true := by
  unfold knC
  rw [decide_eq_true_eq]
  exact whereN_mem
theorem where24 {g : Int → Int → Bool} {n : Nat} (h : n ≤ 24) : rowK (knC (whereN g n)) 24 = [] := by
  rw [List.eq_nil_iff_forall_not_mem]
  intro x hx
  have := (where_kn.mp (List.mem_filter.mp hx).2).2.1
  unfold lv at this
  dsimp only at this
  omega
theorem rngT_ris : ∀ k : Nat, (rngT 0 k).Pairwise (· < ·)
  | 0 => .nil
  | k + 1 => by
    rw [rngT_snoc]
    refine List.pairwise_append.mpr ⟨rngT_ris k, List.pairwise_singleton _ _, fun a ha b hb => ?_⟩
    rw [List.mem_singleton.mp hb]
    have := mem_rngT.mp ha
    omega
/-- till so many bad, or so many draws -/
def tillP (m d : Int) : Pl := (rngT 0 d.toNat).map fun k => rngT 0 ((if m - 1 < k then m - 1 else k) + 1).toNat
def fullP (d : Int) : Pl := (rngT 0 d.toNat).map fun k => rngT 0 (k + 1).toNat
theorem fullP_eq {d : Int} (h : d ≤ 24) : fullP d = tillP 24 d := by
  unfold fullP tillP
  refine List.map_congr_left fun k hk => ?_
  have := mem_rngT.mp hk
  rw [if_neg (by omega)]
theorem rngT_at {n k : Nat} (h : k < n) : (rngT 0 n)[k]? = some (k : Int) := by
  unfold rngT
  rw [List.getElem?_map, List.getElem?_range h]
  show some ((0 : Int) + (k : Int)) = _
  rw [Int.zero_add]
theorem tillP_row {m d : Int} (k : Nat) : row (tillP m d) k = if k < d.toNat then rngT 0 ((if m - 1 < (k : Int) then m - 1 else k) + 1).toNat else [] := by
  unfold row tillP
  rw [List.getD_eq_getElem?_getD, List.getElem?_map]
  split
  · rename_i h
    rw [rngT_at h]
    rfl
  · rename_i h
    rw [List.getElem?_eq_none_iff.mpr (by rw [rngT_len]; omega)]
    rfl
theorem tillP_ok {m d : Int} (h1 : 1 ≤ m) (h2 : 1 ≤ d) (h3 : d ≤ 24) : PlanOK (tillP m d) where
  len := by unfold tillP; rw [List.length_map, rngT_len]; omega
  pos := by unfold tillP; rw [List.length_map, rngT_len]; omega
  first := by
    rw [tillP_row, if_pos (by omega)]
    by_cases q : m - 1 < ((0 : Nat) : Int)
    · omega
    · rw [if_neg q]
      rfl
  ne := fun k hk => by
    have hk' : k < d.toNat := by
      unfold tillP at hk
      rwa [List.length_map, rngT_len] at hk
    rw [tillP_row, if_pos hk']
    intro z
    have := congrArg List.length z
    rw [rngT_len] at this
    simp at this
    split at this <;> omega
  ris := fun k => by
    rw [tillP_row]
    split
    · exact rngT_ris _
    · exact .nil
  step := fun k x hx => by
    rw [tillP_row] at hx
    split at hx
    · have h := mem_rngT.mp hx
      rw [tillP_row, if_pos (by omega), nxt_mem, mem_rngT, mem_rngT]
      split at h
      · split <;> omega
      · split <;> omega
    · cases hx
theorem tillP_goes {m d : Int} (h1 : 1 ≤ m) (h2 : 1 ≤ d) (h3 : d ≤ 24) {c : Q} : goesOn (tillP m d) c = true ↔ nn c ∧ lv c < d ∧ c.1 < m := by
  rw [goesOn_iff]
  constructor
  · rintro ⟨n, hc⟩
    have n' := n
    unfold nn at n'
    rw [tillP_row] at hc
    split at hc
    · have := mem_rngT.mp hc
      refine ⟨n, ?_, ?_⟩
      · unfold lv; omega
      · split at this <;> omega
    · cases hc
  · rintro ⟨n, h4, h5⟩
    have n' := n
    unfold nn at n'
    unfold lv at h4
    refine ⟨n, ?_⟩
    rw [tillP_row, if_pos (by omega), mem_rngT]
    split <;> omega
theorem till_plan {m d : Int} (h1 : 1 ≤ m) (h2 : 1 ≤ d) (h3 : d ≤ 24) : planK (knC (whereN (fun b _ => decide (b < m)) d.toNat)) = tillP m d := by
  refine planK_of (tillP_ok h1 h2 h3) fun c => ?_
  rw [where_kn, tillP_goes h1 h2 h3, decide_eq_true_eq]
  constructor
  · rintro ⟨n, a, b⟩
    exact ⟨n, by omega, b⟩
  · rintro ⟨n, a, b⟩
    exact ⟨n, by omega, b⟩
theorem full_plan {d : Int} (h2 : 1 ≤ d) (h3 : d ≤ 24) : planK (knC (whereN (fun _ _ => true) d.toNat)) = fullP d := by
  rw [fullP_eq h3]
  refine planK_of (tillP_ok (by decide) h2 h3) fun c => ?_
  rw [where_kn, tillP_goes (by decide) h2 h3]
  constructor
  · rintro ⟨n, a, _⟩
    have n' := n
    unfold nn at n'
    unfold lv at *
    exact ⟨n, by omega, by omega⟩
  · rintro ⟨n, a, b⟩
    exact ⟨n, by omega, rfl⟩
end PD
/-! plans between two lines, of two steps -/
namespace PD
open PySem PySem.Spec PyProof.Rows L2
variable [TN]
def gBet (rise run below above : Int) (b g : Int) : Bool := decide (-below < run * b - rise * (b + g)) && decide (run * b - rise * (b + g) < above)
def gTwo (first low high : Int) (b g : Int) : Bool := !decide (b + g = first) || (decide (low < b) && decide (b < high))
def whereP (g : Int → Int → Bool) (n : Int) : Pl := planK (knC (whereN g n.toNat))
theorem whereP_ok {g : Int → Int → Bool} {n : Int} (h1 : 1 ≤ n) (h2 : n ≤ 24) (h0 : g 0 0 = true) : knC (whereN g n.toNat) (0, 0) = true ∧ rowK (knC (whereN g n.toNat)) 24 = [] ∧ PlanOK (whereP g n) := by
  have a : knC (whereN g n.toNat) (0, 0) = true := where_kn.mpr ⟨⟨by decide, by decide⟩, by unfold lv; dsimp only; omega, h0⟩
  have b : rowK (knC (whereN g n.toNat)) 24 = [] := where24 (by omega)
  exact ⟨a, b, planK_ok a b⟩
theorem rowK_where {g : Int → Int → Bool} {n : Int} {i : Nat} (h : (i : Int) < n) : rowK (knC (whereN g n.toNat)) i = (comeK (knC (whereN g n.toNat)) i).filter fun b => g b ((i : Int) - b) := by
  unfold rowK
  refine List.filter_congr fun b hb => ?_
  have hb2 := comeK_in _ hb
  rw [Bool.eq_iff_iff, where_kn]
  constructor
  · exact fun z => z.2.2
  · exact fun z => ⟨⟨by dsimp only; omega, by dsimp only; omega⟩, by unfold lv; dsimp only; omega, z⟩
theorem rowK_done {g : Int → Int → Bool} {n : Int} {i : Nat} (h : n ≤ (i : Int)) : rowK (knC (whereN g n.toNat)) i = [] := by
  rw [List.eq_nil_iff_forall_not_mem]
  intro x hx
  have := (where_kn.mp (List.mem_filter.mp hx).2).2.1
  unfold lv at this
  dsimp only at this
  omega
theorem bet_row (rise run below above : Int) (i : Nat) (l : List Int) : (l.filter fun b => gBet rise run below above b ((i : Int) - b)) = l.filter fun b => decide (-below < run * b - rise * (i : Int)) && decide (run * b - rise * (i : Int) < above) := by
  refine List.filter_congr fun b _ => ?_
  unfold gBet
  rw [show b + ((i : Int) - b) = (i : Int) by omega]
theorem two_row {first low high : Int} {i : Nat} (l : List Int) : (l.filter fun b => gTwo first low high b ((i : Int) - b)) = if decide ((i : Int) = first) = true then l.filter (fun b => decide (low < b) && decide (b < high)) else l := by
  split
  · rename_i h
    refine List.filter_congr fun b _ => ?_
    unfold gTwo
    rw [show b + ((i : Int) - b) = (i : Int) by omega, h]
    rfl
  · rename_i h
    rw [List.filter_eq_self]
    intro b _
    unfold gTwo
    rw [show b + ((i : Int) - b) = (i : Int) by omega]
    simp only [decide_eq_true_eq] at h
    rw [decide_eq_false h]
    rfl
theorem rows_succ (kn : Q → Bool) (i : Nat) : (List.range (i + 1)).map (rowK kn) = (List.range i).map (rowK kn) ++ [rowK kn i] := by
  rw [List.range_succ, List.map_append]
  rfl
theorem filter_take {α : Type} (P : α → Bool) {l : List α} {j : Nat} {x : α} (h : l[j]? = some x) : (l.take (j + 1)).filter P = if P x = true then (l.take j).filter P ++ [x] else (l.take j).filter P := by
  rw [List.take_add_one, h]
  exact filter_snocQ P _ x
/-- the four numbers of a plan between lines -/
structure Row4 (B : Int) (r : List Int) : Prop where
  len : r.length = 4
  a0 : 0 ≤ r.getD 0 0
  a1 : 1 ≤ r.getD 1 0
  a2 : 1 ≤ r.getD 2 0
  a3 : 1 ≤ r.getD 3 0
  b0 : r.getD 0 0 ≤ B
  b1 : r.getD 1 0 ≤ B
  b2 : r.getD 2 0 ≤ B
  b3 : r.getD 3 0 ≤ B
theorem row4_mk {B a b c d : Int} (h0 : 0 ≤ a ∧ a ≤ B) (h1 : 1 ≤ b ∧ b ≤ B) (h2 : 1 ≤ c ∧ c ≤ B) (h3 : 1 ≤ d ∧ d ≤ B) : Row4 B [a, b, c, d] := ⟨rfl, h0.1, h1.1, h2.1, h3.1, h0.2, h1.2, h2.2, h3.2⟩
theorem row4_eq {r : List Int} (h : r.length = 4) : r = [r.getD 0 0, r.getD 1 0, r.getD 2 0, r.getD 3 0] := by
  match r, h with
  | [a, b, c, d], _ => rfl
theorem row4_map {B B' : Int} {r : List Int} (h : Row4 B r) (f : Int → Int) (hf : ∀ x, 0 ≤ x → x ≤ B → x ≤ f x ∧ f x ≤ B') : Row4 B' (r.map f) := by
  have e := row4_eq h.len
  have := h.a0; have := h.a1; have := h.a2; have := h.a3
  have f0 := hf _ h.a0 h.b0
  have f1 := hf _ (by omega) h.b1
  have f2 := hf _ (by omega) h.b2
  have f3 := hf _ (by omega) h.b3
  rw [e]
  exact row4_mk ⟨by omega, f0.2⟩ ⟨by omega, f1.2⟩ ⟨by omega, f2.2⟩ ⟨by omega, f3.2⟩
theorem row4_set {B v : Int} {r : List Int} (h : Row4 B r) {j : Nat} (h1 : 1 ≤ v) (h2 : v ≤ B) (hj : j < 4) : Row4 B (r.set j v) := by
  have e := row4_eq h.len
  have := h.a0; have := h.a1; have := h.a2; have := h.a3; have := h.b0; have := h.b1; have := h.b2; have := h.b3
  rw [e]
  have hj4 : j = 0 ∨ j = 1 ∨ j = 2 ∨ j = 3 := by omega
  rcases hj4 with rfl | rfl | rfl | rfl
  · exact row4_mk ⟨by omega, h2⟩ ⟨by omega, by omega⟩ ⟨by omega, by omega⟩ ⟨by omega, by omega⟩
  · exact row4_mk ⟨by omega, by omega⟩ ⟨by omega, h2⟩ ⟨by omega, by omega⟩ ⟨by omega, by omega⟩
  · exact row4_mk ⟨by omega, by omega⟩ ⟨by omega, by omega⟩ ⟨by omega, h2⟩ ⟨by omega, by omega⟩
  · exact row4_mk ⟨by omega, by omega⟩ ⟨by omega, by omega⟩ ⟨by omega, by omega⟩ ⟨by omega, h2⟩
theorem row4_mem {B x : Int} {r : List Int} (h : Row4 B r) (hx : x ∈ r) : 0 ≤ x ∧ x ≤ B := by
  rw [row4_eq h.len] at hx
  have := h.a0; have := h.a1; have := h.a2; have := h.a3; have := h.b0; have := h.b1; have := h.b2; have := h.b3
  simp only [List.mem_cons, List.not_mem_nil, or_false] at hx
  rcases hx with rfl | rfl | rfl | rfl <;> omega
theorem Row4.le {B B' : Int} {r : List Int} (h : Row4 B r) (l : B ≤ B') : Row4 B' r := ⟨h.len, h.a0, h.a1, h.a2, h.a3, by have := h.b0; omega, by have := h.b1; omega, by have := h.b2; omega, by have := h.b3; omega⟩
end PD
/-! counts as keys: line, bad -/
namespace PD
open PySem PySem.Spec PyProof.Rows L2
variable [TN]
def keyOf (c : Q) : Q := (c.1 + c.2, c.1)
theorem keyOf_inj {a b : Q} (h : keyOf a = keyOf b) : a = b := by
  unfold keyOf at h
  injection h with h1 h2
  exact Prod.ext h2 (by omega)
def cntK (p : Pl) (k : Nat) : List Q := (countsN p k).map keyOf
def cntD (p : Pl) : List (Q × Bool) := knD (cntK p p.length)
theorem cntK_mem {p : Pl} (h : PlanOK p) {k : Nat} {c : Q} : keyOf c ∈ cntK p k ↔ goesOn p c = true ∧ lv c < k := by
  unfold cntK
  rw [List.mem_map, ← countsN_mem h]
  constructor
  · rintro ⟨d, hd, e⟩
    rw [← keyOf_inj e]
    exact hd
  · exact fun z => ⟨c, z, rfl⟩
theorem cnt_get {p : Pl} (h : PlanOK p) (c : Q) : (dget (cntD p) (keyOf c)).isSome = goesOn p c := by
  unfold cntD
  rw [knD_get, Bool.eq_iff_iff, decide_eq_true_eq, cntK_mem h]
  constructor
  · exact fun z => z.1
  · intro z
    exact ⟨z, by have := (goesOn_nn z).2; unfold lv; exact this⟩
theorem dget_key {α : Type} : ∀ {kvs : List (Q × α)} {c : Q}, (dget kvs c).isSome = true ↔ ∃ q ∈ kvs, q.1 = c
  | [], c => by
    constructor
    · intro h; cases h
    · rintro ⟨q, hq, _⟩; cases hq
  | p :: kvs, c => by
    rw [dget_cons]
    by_cases g : p.1 = c
    · rw [if_pos g]
      exact ⟨fun _ => ⟨p, List.mem_cons_self, g⟩, fun _ => rfl⟩
    · rw [if_neg g, dget_key]
      constructor
      · rintro ⟨q, hq, e⟩; exact ⟨q, List.mem_cons_of_mem _ hq, e⟩
      · rintro ⟨q, hq, e⟩
        rcases List.mem_cons.mp hq with z | z
        · rw [z] at e; exact absurd e g
        · exact ⟨q, z, e⟩
def withinB (p q : Pl) : Bool := ((countsN p p.length).map fun c => goesOn q c).all id
theorem within_cnt {p q : Pl} (hp : PlanOK p) (hq : PlanOK q) : ((cntD p).map fun x => (dget (cntD q) x.1).isSome).all id = withinB p q := by
  unfold withinB
  rw [Bool.eq_iff_iff, List.all_eq_true, List.all_eq_true]
  constructor
  · intro h b hb
    obtain ⟨c, hc, rfl⟩ := List.mem_map.mp hb
    have hk : (dget (cntD p) (keyOf c)).isSome = true := by rw [cnt_get hp]; exact ((countsN_mem hp).mp hc).1
    obtain ⟨x, hx, e⟩ := dget_key.mp hk
    have := h _ (List.mem_map.mpr ⟨x, hx, rfl⟩)
    rw [e, cnt_get hq] at this
    exact this
  · intro h b hb
    obtain ⟨x, hx, rfl⟩ := List.mem_map.mp hb
    have hk : (dget (cntD p) x.1).isSome = true := dget_key.mpr ⟨x, hx, rfl⟩
    unfold cntD at hk
    rw [knD_get] at hk
    obtain ⟨c, hc, e⟩ := List.mem_map.mp (of_decide_eq_true hk)
    have := h _ (List.mem_map.mpr ⟨c, hc, rfl⟩)
    show (dget (cntD q) x.1).isSome = true
    rw [← e, cnt_get hq]
    exact this
theorem within_self {p : Pl} (hp : PlanOK p) : withinB p p = true := by
  unfold withinB
  rw [List.all_eq_true]
  intro b hb
  obtain ⟨c, hc, rfl⟩ := List.mem_map.mp hb
  exact ((countsN_mem hp).mp hc).1
theorem dget_drop {α : Type} (k : Q) : ∀ {kvs : List (Q × α)} {c : Q}, dget (ddrop kvs k) c = if c = k then none else dget kvs c
  | [], c => by split <;> rfl
  | p :: kvs, c => by
    have i := dget_drop k (kvs := kvs) (c := c)
    unfold ddrop at i ⊢
    rw [List.filter_cons, dget_cons]
    by_cases g : p.1 = k
    · rw [decide_eq_false (fun z => z g)]
      simp only [Bool.false_eq_true, if_false]
      rw [i]
      by_cases e : c = k
      · rw [if_pos e, if_pos e]
      · rw [if_neg e, if_neg e, if_neg (fun z => e (by rw [← z, g]))]
    · rw [decide_eq_true g]
      simp only [if_true]
      rw [dget_cons, i]
      by_cases e : p.1 = c
      · rw [if_pos e, if_pos e, if_neg (fun z => g (by rw [e, z]))]
      · rw [if_neg e, if_neg e]
theorem ddrop_len {α : Type} (kvs : List (Q × α)) (k : Q) : (ddrop kvs k).length ≤ kvs.length := List.length_filter_le _ _
def knF (D : List (Q × Bool)) (c : Q) : Bool := (dget D (keyOf c)).isSome
theorem keyOf_at (b k : Int) : keyOf (b, k - b) = (k, b) := Prod.ext (by unfold keyOf; dsimp only; omega) rfl
theorem rowK_key (D : List (Q × Bool)) (i : Nat) : rowK (knF D) i = (comeK (knF D) i).filter fun b => (dget D ((i : Int), b)).isSome := by
  unfold rowK
  congr 1
  funext b
  unfold knF
  rw [keyOf_at]
/-- a plan's counts, one dropped or one more -/
def chgM (p : Pl) (c : Int) : Int := c / 3 % (p.length : Int)
def chgB (p : Pl) (c : Int) : Int := (p.getD (chgM p c).toNat []).getD (c / 90 % ((p.getD (chgM p c).toNat []).length : Int)).toNat 0
def chg1 (p : Pl) (c : Int) : List (Q × Bool) := if (decide (c % 3 = 1) && decide (chgM p c > 0)) = true then ddrop (cntD p) (chgM p c, chgB p c) else cntD p
def chg2 (p : Pl) (c : Int) : List (Q × Bool) := if decide (c % 3 = 2) = true then dput (chg1 p c) (chgM p c + 1, chgB p c + c / 2000 % 2) true else chg1 p c
def chgP (p : Pl) (c : Int) : Pl := if decide (c % 3 = 0) = true then p.take (chgM p c + 1).toNat else planK (knF (chg2 p c))
theorem chgM_in {p : Pl} (h : PlanOK p) (c : Int) : 0 ≤ chgM p c ∧ chgM p c < p.length := by
  have := h.pos
  exact ⟨Int.emod_nonneg _ (by omega), Int.emod_lt_of_pos _ (by omega)⟩
theorem chg_has {p : Pl} (h : PlanOK p) (c : Int) : (dget (cntD p) (chgM p c, chgB p c)).isSome = true := by
  obtain ⟨h0, h1⟩ := chgM_in h c
  have hr : row p (chgM p c).toNat = p.getD (chgM p c).toNat [] := rfl
  have hne := h.ne (chgM p c).toNat (by omega)
  have hl : 0 < (p.getD (chgM p c).toNat []).length := List.length_pos_iff.mpr hne
  have i0 := Int.emod_nonneg (c / 90) (show ((p.getD (chgM p c).toNat []).length : Int) ≠ 0 by omega)
  have i1 := Int.emod_lt_of_pos (c / 90) (show 0 < ((p.getD (chgM p c).toNat []).length : Int) by omega)
  have hb : chgB p c ∈ row p (chgM p c).toNat := by
    unfold chgB
    rw [hr]
    generalize p.getD (chgM p c).toNat [] = l at *
    rw [List.getD_eq_getElem?_getD, List.getElem?_eq_getElem (show (c / 90 % (l.length : Int)).toNat < l.length by omega)]
    exact List.getElem_mem _
  have hin := h.in_ hb
  rw [← keyOf_at (chgB p c) (chgM p c), cnt_get h, goesOn_iff]
  refine ⟨⟨hin.1, by dsimp only; omega⟩, ?_⟩
  dsimp only
  rw [show chgB p c + (chgM p c - chgB p c) = chgM p c by omega]
  exact hb
theorem cnt_line {p : Pl} (h : PlanOK p) {c : Q} (k : (dget (cntD p) c).isSome = true) : c.1 < p.length := by
  unfold cntD at k
  rw [knD_get] at k
  obtain ⟨d, hd, e⟩ := List.mem_map.mp (of_decide_eq_true k)
  have := ((countsN_mem h).mp hd).2
  rw [← e]
  unfold lv at this
  exact this
theorem chg1_get {p : Pl} {c : Int} {x : Q} (k : (dget (chg1 p c) x).isSome = true) : (dget (cntD p) x).isSome = true := by
  unfold chg1 at k
  split at k
  · rw [dget_drop] at k
    split at k
    · cases k
    · exact k
  · exact k
theorem chg2_line {p : Pl} (h : PlanOK p) {c : Int} {x : Q} (k : (dget (chg2 p c) x).isSome = true) : x.1 ≤ p.length := by
  unfold chg2 at k
  split at k
  · rw [dget_put] at k
    split at k
    · rename_i e
      have := (chgM_in h c).2
      rw [e]
      show chgM p c + 1 ≤ _
      omega
    · have := cnt_line h (chg1_get k)
      omega
  · have := cnt_line h (chg1_get k)
    omega
theorem chg2_zero {p : Pl} (h : PlanOK p) (c : Int) : knF (chg2 p c) (0, 0) = true := by
  have h0 : (dget (cntD p) (0, 0)).isSome = true := by
    have := cnt_get h (0, 0)
    rw [show keyOf (0, 0) = (0, 0) from rfl] at this
    rw [this, goesOn_iff]
    exact ⟨⟨by decide, by decide⟩, by show (0 : Int) ∈ row p 0; rw [h.first]; exact List.mem_singleton.mpr rfl⟩
  have h1 : (dget (chg1 p c) (0, 0)).isSome = true := by
    unfold chg1
    split
    · rename_i e
      rw [Bool.and_eq_true] at e
      have := of_decide_eq_true e.2
      rw [dget_drop, if_neg (fun z => by injection z with z1 z2; omega)]
      exact h0
    · exact h0
  show (dget (chg2 p c) (0, 0)).isSome = true
  unfold chg2
  split
  · rw [dget_put]
    split
    · rfl
    · exact h1
  · exact h1
theorem chg2_24 {p : Pl} (h : PlanOK p) (h12 : p.length ≤ 12) (c : Int) : rowK (knF (chg2 p c)) 24 = [] := by
  refine List.eq_nil_iff_forall_not_mem.mpr fun b hb => ?_
  unfold rowK at hb
  have := chg2_line h (List.mem_filter.mp hb).2
  unfold keyOf at this
  dsimp only at this
  omega
theorem chg1_len {p : Pl} (h : PlanOK p) (h12 : p.length ≤ 12) (c : Int) : (chg1 p c).length ≤ 360 := by
  have h1 := knD_len (cntK p p.length)
  have h2 := countsN_len h p.length
  have h3 : (cntK p p.length).length = (countsN p p.length).length := List.length_map _
  unfold chg1
  split
  · have := ddrop_len (cntD p) (chgM p c, chgB p c)
    unfold cntD at this ⊢
    omega
  · unfold cntD
    omega
theorem chg2_len {p : Pl} (h : PlanOK p) (h12 : p.length ≤ 12) (c : Int) : (chg2 p c).length ≤ 400 := by
  have h1 := knD_len (cntK p p.length)
  have h2 := countsN_len h p.length
  have h3 : (cntK p p.length).length = (countsN p p.length).length := List.length_map _
  have h4 : (chg1 p c).length ≤ 360 := by
    unfold chg1
    split
    · have := ddrop_len (cntD p) (chgM p c, chgB p c)
      unfold cntD at this ⊢
      omega
    · unfold cntD
      omega
  unfold chg2
  split
  · have := dput_len (chg1 p c) (chgM p c + 1, chgB p c + c / 2000 % 2) true
    omega
  · omega
theorem row_takeP {p : Pl} {n k : Nat} : row (p.take n) k = if k < n then row p k else [] := by
  unfold row
  rw [List.getD_eq_getElem?_getD, List.getElem?_take]
  split
  · rw [← List.getD_eq_getElem?_getD]
  · rfl
theorem take_ok {p : Pl} (h : PlanOK p) {n : Nat} (hn : 0 < n) : PlanOK (p.take n) where
  len := by rw [List.length_take]; have := h.len; omega
  pos := by rw [List.length_take]; have := h.pos; omega
  first := by rw [row_takeP, if_pos hn]; exact h.first
  ne k hk := by
    rw [List.length_take] at hk
    rw [row_takeP, if_pos (by omega)]
    exact h.ne k (by omega)
  ris k := by
    rw [row_takeP]
    split
    · exact h.ris k
    · exact .nil
  step k x hx := by
    rw [row_takeP] at hx ⊢
    split at hx
    · rename_i g
      rw [if_pos (by omega)]
      exact h.step k x hx
    · cases hx
theorem chg_ok {p : Pl} (h : PlanOK p) (h12 : p.length ≤ 12) (c : Int) : PlanOK (chgP p c) := by
  unfold chgP
  split
  · exact take_ok h (by have := (chgM_in h c).1; omega)
  · exact planK_ok (chg2_zero h c) (chg2_24 h h12 c)
end PD
/-! the counts come to, in order -/
namespace PD
open PySem PySem.Spec PyProof.Rows L2
variable [TN]
/-- two lists with the same members, both strictly in order, are one -/
theorem ord_unique {α : Type} {lt : α → α → Prop} (irr : ∀ a, ¬ lt a a) (asym : ∀ a b, lt a b → ¬ lt b a) : ∀ {l m : List α}, l.Pairwise lt → m.Pairwise lt → (∀ x, x ∈ l ↔ x ∈ m) → l = m
  | [], [], _, _, _ => rfl
  | [], b :: m, _, _, h => absurd ((h b).mpr List.mem_cons_self) (by simp)
  | a :: l, [], _, _, h => absurd ((h a).mp List.mem_cons_self) (by simp)
  | a :: l, b :: m, hl, hm, h => by
    obtain ⟨l1, l2⟩ := List.pairwise_cons.mp hl
    obtain ⟨m1, m2⟩ := List.pairwise_cons.mp hm
    have e : a = b := by
      rcases List.mem_cons.mp ((h a).mp List.mem_cons_self) with e | ha
      · exact e
      · rcases List.mem_cons.mp ((h b).mpr List.mem_cons_self) with e | hb
        · exact e.symm
        · exact absurd (l1 b hb) (asym _ _ (m1 a ha))
    subst e
    congr 1
    refine ord_unique irr asym l2 m2 fun x => ?_
    constructor
    · intro hx
      rcases List.mem_cons.mp ((h x).mp (List.mem_cons_of_mem _ hx)) with e | q
      · rw [e] at hx
        exact absurd (l1 _ hx) (irr _)
      · exact q
    · intro hx
      rcases List.mem_cons.mp ((h x).mpr (List.mem_cons_of_mem _ hx)) with e | q
      · rw [e] at hx
        exact absurd (m1 _ hx) (irr _)
      · exact q
/-- unlike keys -/
def keysU {α : Type} (kvs : List (Q × α)) : Prop := (kvs.map (·.1)).Nodup
theorem keysU_put {α : Type} {kvs : List (Q × α)} (h : keysU kvs) (k : Q) (v : α) : keysU (dput kvs k v) := by
  unfold keysU at h ⊢
  unfold dput
  split
  · rw [List.map_map]
    have e : ((fun x : Q × α => x.1) ∘ fun p : Q × α => if p.1 = k then (p.1, v) else p) = fun x : Q × α => x.1 := by
      funext p
      show (if p.1 = k then (p.1, v) else p).1 = p.1
      split <;> rfl
    rw [e]
    exact h
  · rename_i n
    rw [List.map_append, List.nodup_append]
    refine ⟨h, by simp, fun a ha b hb => ?_⟩
    rw [List.map_cons, List.map_nil, List.mem_singleton] at hb
    subst hb
    intro e
    subst e
    obtain ⟨p, hp, e⟩ := List.mem_map.mp ha
    exact n (List.any_eq_true.mpr ⟨p, hp, decide_eq_true e⟩)
theorem keysU_step {kvs : List (Q × Int)} (h : keysU kvs) (c : Q) : keysU (wayStep kvs c) := keysU_put (keysU_put h _ _) _ _
theorem keysU_fold : ∀ (l : List Q) {kvs : List (Q × Int)}, keysU kvs → keysU (l.foldl wayStep kvs)
  | [], _, h => h
  | c :: l, _, h => keysU_fold l (keysU_step h c)
theorem lawWays_keysU (p : Pl) : keysU (lawWays p) := keysU_fold _ (by unfold keysU; simp)
/-- by draws, then by bad -/
def cntLt (a b : Q) : Prop := lv a < lv b ∨ (lv a = lv b ∧ a.1 < b.1)
theorem line_ord {k : Int} : ∀ {l : List Int}, l.Pairwise (· < ·) → (lineQ k l).Pairwise cntLt
  | [], _ => .nil
  | b :: l, h => by
    obtain ⟨h1, h2⟩ := List.pairwise_cons.mp h
    refine List.pairwise_cons.mpr ⟨fun c hc => ?_, line_ord h2⟩
    obtain ⟨x, hx, rfl⟩ := List.mem_map.mp hc
    exact .inr ⟨by unfold lv; dsimp only; omega, h1 x hx⟩
theorem line_lv {k : Int} {l : List Int} {c : Q} (h : c ∈ lineQ k l) : lv c = k := by
  obtain ⟨x, hx, rfl⟩ := List.mem_map.mp h
  unfold lv
  dsimp only
  omega
theorem come_ord {p : Pl} (h : PlanOK p) : ∀ i : Nat, (comeN p i).Pairwise cntLt ∧ ∀ c ∈ comeN p i, lv c ≤ i
  | 0 => ⟨by unfold comeN; simp, by unfold comeN; intro c hc; simp at hc; rw [hc]; decide⟩
  | i + 1 => by
    obtain ⟨h1, h2⟩ := come_ord h i
    rw [comeN_succ]
    refine ⟨List.pairwise_append.mpr ⟨h1, line_ord (nxt_ris _), fun a ha b hb => .inl ?_⟩, fun c hc => ?_⟩
    · have := h2 a ha
      rw [line_lv hb]
      omega
    · rcases List.mem_append.mp hc with q | q
      · have := h2 c q
        omega
      · rw [line_lv q]
        omega
theorem ways_come {p : Pl} (h : PlanOK p) (c : Q) : (dget (lawWays p) c).isSome = true ↔ c ∈ comeTo p := by
  have mm : ∀ q, q ∈ countsN p p.length ↔ goesOn p q = true := fun q => by
    rw [countsN_mem h]
    exact ⟨fun z => z.1, fun z => ⟨z, (goesOn_nn z).2⟩⟩
  have key := (dinv_rows h p.length).key c
  show (dget (lawWaysN p p.length) c).isSome = true ↔ _
  rw [key, mm, mm]
  unfold comeTo
  rw [comeN_mem, goesOn_iff, goesOn_iff]
  unfold parB parG nn
  dsimp only
  constructor
  · rintro (e | ⟨⟨h0, h1⟩, h2⟩ | ⟨⟨h0, h1⟩, h2⟩)
    · exact .inl e
    · have hk : (c.1 - 1 + c.2).toNat < p.length := (by
        rcases Nat.lt_or_ge (c.1 - 1 + c.2).toNat p.length with q | q
        · exact q
        · rw [row_out q] at h2; cases h2)
      exact .inr ⟨(c.1 - 1 + c.2).toNat, hk, nxt_mem.mpr (.inr h2), by omega⟩
    · have hk : (c.1 + (c.2 - 1)).toNat < p.length := (by
        rcases Nat.lt_or_ge (c.1 + (c.2 - 1)).toNat p.length with q | q
        · exact q
        · rw [row_out q] at h2; cases h2)
      exact .inr ⟨(c.1 + (c.2 - 1)).toNat, hk, nxt_mem.mpr (.inl h2), by omega⟩
  · rintro (e | ⟨k, hk, h1, h2⟩)
    · exact .inl e
    · rcases nxt_mem.mp h1 with q | q
      · have hin := h.in_ q
        exact .inr (.inr ⟨⟨hin.1, by omega⟩, by rw [show (c.1 + (c.2 - 1)).toNat = k by omega]; exact q⟩)
      · have hin := h.in_ q
        exact .inr (.inl ⟨⟨hin.1, by omega⟩, by rw [show (c.1 - 1 + c.2).toNat = k by omega]; exact q⟩)
def triQ (c : Q) : Int × Int × Int := (c.1 + c.2, c.1, c.2)
def triLt (a b : Int × Int × Int) : Prop := a.1 < b.1 ∨ (a.1 = b.1 ∧ a.2.1 < b.2.1)
theorem ways_sorted {p : Pl} (h : PlanOK p) (l : List (Int × Int × Int)) (hp : l.Perm ((lawWays p).map fun q => triQ q.1)) (hs : (l.map fun c => (c.1, c.2.1)).Pairwise fun x y => SrtO.lexB y x = false) : l = (comeTo p).map triQ := by
  have nd : (((lawWays p).map fun q => triQ q.1).map fun c => (c.1, c.2.1)).Nodup := by
    have k := lawWays_keysU p
    unfold keysU at k
    have e : (((lawWays p).map fun q => triQ q.1).map fun c => (c.1, c.2.1)) = ((lawWays p).map (·.1)).map fun c : Q => (c.1 + c.2, c.1) := by
      rw [List.map_map, List.map_map]
      rfl
    rw [e]
    refine List.pairwise_map.mpr (k.imp fun {a b} hab e => hab ?_)
    injection e with e1 e2
    exact Prod.ext e2 (by omega)
  have ndl : (l.map fun c => (c.1, c.2.1)).Nodup := (hp.map _).nodup_iff.mpr nd
  have hl : l.Pairwise triLt := by
    have h1 := List.pairwise_map.mp hs
    have h2 := List.pairwise_map.mp ndl
    refine (h1.and h2).imp fun {a b} ⟨q1, q2⟩ => ?_
    have q3 := SrtO.lexB_no.mp q1
    unfold triLt
    dsimp only at q3
    have q4 : ¬ (a.1 = b.1 ∧ a.2.1 = b.2.1) := fun z => q2 (Prod.ext z.1 z.2)
    omega
  have hd : ((comeTo p).map triQ).Pairwise triLt := List.pairwise_map.mpr ((come_ord h p.length).1.imp fun {a b} z => z)
  refine ord_unique (lt := triLt) (fun a z => by unfold triLt at z; omega) (fun a b z y => by unfold triLt at z y; omega) hl hd fun x => ?_
  rw [hp.mem_iff, List.mem_map, List.mem_map]
  constructor
  · rintro ⟨q, hq, rfl⟩
    exact ⟨q.1, (ways_come h q.1).mp (dget_key.mpr ⟨q, hq, rfl⟩), rfl⟩
  · rintro ⟨c, hc, rfl⟩
    obtain ⟨q, hq, e⟩ := dget_key.mp ((ways_come h c).mpr hc)
    exact ⟨q, hq, by rw [e]⟩
end PD
namespace PD
open PySem PySem.Spec PyProof.Rows L2
def topS (i : Nat) : Stmt := PySem.Challenge.pw_lotdraw_k10_ends_and_counts.main.body.getD i (.Pass ⟨0, 0, 0, 0⟩)
abbrev s__law_most : Stmt := topS 10
abbrev s__law_mixes : Stmt := topS 8
abbrev s__law_digits : Stmt := topS 7
abbrev s__law_plan : Stmt := topS 9
abbrev s__law_ends : Stmt := topS 11
abbrev s_next_bad : Stmt := topS 1
abbrev s_come_to : Stmt := topS 3
abbrev s_goes_on : Stmt := topS 2
abbrev s_ends : Stmt := topS 4
abbrev s__law_cell : Stmt := topS 6
abbrev s__law_same : Stmt := topS 13
abbrev s__law_ways : Stmt := topS 12
abbrev s_law : Stmt := topS 14
set_option maxHeartbeats 0 in
structure Glo (K : PySem.W.Frag) (mg : Str → Option Value) where
  f__law_most : Addr
  d__law_most : FuncData
  F__law_most : Fun K "_law_most" "_law_most" s__law_most f__law_most d__law_most
  g__law_most : mg "_law_most" = some (.ref f__law_most)
  b__law_most : Binds K d__law_most ["_law_cell_here"] []
  f__law_mixes : Addr
  d__law_mixes : FuncData
  F__law_mixes : Fun K "_law_mixes" "_law_mixes" s__law_mixes f__law_mixes d__law_mixes
  g__law_mixes : mg "_law_mixes" = some (.ref f__law_mixes)
  b__law_mixes : Binds K d__law_mixes ["_law_cell_here", "_law_base", "_law_many"] []
  f__law_digits : Addr
  d__law_digits : FuncData
  F__law_digits : Fun K "_law_digits" "_law_digits" s__law_digits f__law_digits d__law_digits
  g__law_digits : mg "_law_digits" = some (.ref f__law_digits)
  b__law_digits : Binds K d__law_digits ["_law_cell_here", "_law_base", "_law_many"] []
  f__law_plan : Addr
  d__law_plan : FuncData
  F__law_plan : Fun K "_law_plan" "_law_plan" s__law_plan f__law_plan d__law_plan
  g__law_plan : mg "_law_plan" = some (.ref f__law_plan)
  b__law_plan : Binds K d__law_plan ["_law_cell_here", "_law_most_here"] []
  f__law_ends : Addr
  d__law_ends : FuncData
  F__law_ends : Fun K "_law_ends" "_law_ends" s__law_ends f__law_ends d__law_ends
  g__law_ends : mg "_law_ends" = some (.ref f__law_ends)
  b__law_ends : Binds K d__law_ends ["_law_plan_here"] []
  f_next_bad : Addr
  d_next_bad : FuncData
  F_next_bad : Fun K "next_bad" "next_bad" s_next_bad f_next_bad d_next_bad
  g_next_bad : mg "next_bad" = some (.ref f_next_bad)
  b_next_bad : Binds K d_next_bad ["row"] []
  f_come_to : Addr
  d_come_to : FuncData
  F_come_to : Fun K "come_to" "come_to" s_come_to f_come_to d_come_to
  g_come_to : mg "come_to" = some (.ref f_come_to)
  b_come_to : Binds K d_come_to ["plan"] []
  f_goes_on : Addr
  d_goes_on : FuncData
  F_goes_on : Fun K "goes_on" "goes_on" s_goes_on f_goes_on d_goes_on
  g_goes_on : mg "goes_on" = some (.ref f_goes_on)
  b_goes_on : Binds K d_goes_on ["plan", "count"] []
  f_ends : Addr
  d_ends : FuncData
  F_ends : Fun K "ends" "ends" s_ends f_ends d_ends
  g_ends : mg "ends" = some (.ref f_ends)
  b_ends : Binds K d_ends ["plan"] []
  f__law_cell : Addr
  d__law_cell : FuncData
  F__law_cell : Fun K "_law_cell" "_law_cell" s__law_cell f__law_cell d__law_cell
  g__law_cell : mg "_law_cell" = some (.ref f__law_cell)
  b__law_cell : Binds K d__law_cell ["_law_script", "_law_k"] []
  f__law_same : Addr
  d__law_same : FuncData
  F__law_same : Fun K "_law_same" "_law_same" s__law_same f__law_same d__law_same
  g__law_same : mg "_law_same" = some (.ref f__law_same)
  b__law_same : Binds K d__law_same ["_law_found", "_law_due"] []
  f__law_ways : Addr
  d__law_ways : FuncData
  F__law_ways : Fun K "_law_ways" "_law_ways" s__law_ways f__law_ways d__law_ways
  g__law_ways : mg "_law_ways" = some (.ref f__law_ways)
  b__law_ways : Binds K d__law_ways ["_law_plan_here"] []
  f_law : Addr
  d_law : FuncData
  F_law : Fun K "law" "law" s_law f_law d_law
  g_law : mg "law" = some (.ref f_law)
  b_law : Binds K d_law ["_law_script"] []
  m_range : mg "range" = none
  m_tuple : mg "tuple" = none
  m_abs : mg "abs" = none
  m_sorted : mg "sorted" = none
  m_int : mg "int" = none
  m_len : mg "len" = none
  m_set : mg "set" = none
  m_enumerate : mg "enumerate" = none
  m_max : mg "max" = none
  m_list : mg "list" = none
  m_zip : mg "zip" = none
  m_isinstance : mg "isinstance" = none
  m_all : mg "all" = none
  m_bool : mg "bool" = none
end PD
namespace PD
open PySem PySem.Spec PyProof.Rows L2 LamX NdefX
section
variable [TN] {P : Program} {w : World} {K : PySem.W.Frag} {mg : Str → Option Value} {base : Heap}
def lawMost (c : Int) : Int := if decide (c / 7 % 8 = 1) then 1 + c / 56 % 12 else 1 + c % 7
theorem lawMost_ok (c : Int) : 1 ≤ lawMost c ∧ lawMost c ≤ 12 := by
  unfold lawMost
  split <;> omega
abbrev F_lmost : FS := fun ds o => ∃ c : Int, ds = [.int c] ∧ o = .ok (.int (lawMost c))
theorem sc__law_most : FnScope ["_law_cell_here"] ["_law_cell_here"] (defScope s__law_most) := ⟨rfl, rfl, rfl, by decide +kernel, rfl, by decide +kernel, by decide +kernel⟩
set_option maxHeartbeats 4000000 in
theorem ok__law_most (T : Glo K mg) : FnOk P w K mg base CX0 1 T.f__law_most T.d__law_most ["_law_cell_here"] (spF K F_lmost) := by
  refine fn_ok T.F__law_most sc__law_most (fun ds o h => ?_) (fun ds c h => ?_) (fun cdv A outer s H E hr B ds o h => ?_)
  · obtain ⟨c, rfl, rfl⟩ := h
    rfl
  · obtain ⟨c, rfl, ho⟩ := h
    cases ho
  · obtain ⟨c, rfl, rfl⟩ := h
    have nd := (sc__law_most).nd
    refine jss_ifr (jt_eqI (je_mod (je_div (je_var 0 rfl (.inl rfl) rfl) je_int (by first | exact divK (by decide) (by decide) | exact divK (by decide) (by decide +kernel))) je_int (by first | decide | omega)) je_int) (fun hi1 => ?_) (fun hi1 => ?_)
    · (try simp only [Bool.and_eq_true, Bool.or_eq_true, Bool.not_eq_true', Bool.not_eq_false', Bool.and_eq_false_imp, Bool.or_eq_false_iff, decide_eq_true_eq, decide_eq_false_iff_not, Bool.not_true, Bool.not_false, Bool.false_or, Bool.or_false, Bool.true_and, Bool.and_true] at hi1)
      exact jss_one (js_ret (m := true) (je_add je_int (je_mod (je_div (je_var 0 rfl (.inl rfl) rfl) je_int (by first | exact divK (by decide) (by decide) | exact divK (by decide) (by decide +kernel))) je_int (by first | decide | omega))) (by unfold lawMost; rw [if_pos (decide_eq_true hi1)]; exact rfl))
    · (try simp only [Bool.and_eq_true, Bool.or_eq_true, Bool.not_eq_true', Bool.not_eq_false', Bool.and_eq_false_imp, Bool.or_eq_false_iff, decide_eq_true_eq, decide_eq_false_iff_not, Bool.not_true, Bool.not_false, Bool.false_or, Bool.or_false, Bool.true_and, Bool.and_true] at hi1)
      exact jss_one (js_ret (m := true) (je_add je_int (je_mod (je_var 0 rfl (.inl rfl) rfl) je_int (by first | decide | omega))) (by unfold lawMost; rw [if_neg (by rw [decide_eq_true_eq]; exact hi1)]; exact rfl))
abbrev F_lmixes : FS := fun ds o => ∃ c b n : Int, ds = [.int c, .int b, .int n] ∧ 0 < b ∧ b < 10000000 ∧ 0 ≤ n ∧ n ≤ 1000 ∧ o = .fr (.lst ((mixes c b n.toNat).map .int))
theorem sc__law_mixes : FnScope ["_law_cell_here", "_law_base", "_law_many", "_law_row", "_law_k", "_law_number"] ["_law_cell_here", "_law_base", "_law_many"] (defScope s__law_mixes) := ⟨rfl, rfl, rfl, by decide +kernel, rfl, by decide +kernel, by decide +kernel⟩
set_option maxHeartbeats 4000000 in
theorem ok__law_mixes (T : Glo K mg) : FnOk P w K mg base CX0 1 T.f__law_mixes T.d__law_mixes ["_law_cell_here", "_law_base", "_law_many"] (spF K F_lmixes) := by
  refine fn_ok T.F__law_mixes sc__law_mixes (fun ds o h => ?_) (fun ds c h => ?_) (fun cdv A outer s H E hr B ds o h => ?_)
  · obtain ⟨c, b, n, rfl, hb0, hb, hn0, hn, rfl⟩ := h
    rfl
  · obtain ⟨c, b, n, rfl, hb0, hb, hn0, hn, ho⟩ := h
    cases ho
  · obtain ⟨c, b, n, rfl, hb0, hb, hn0, hn, rfl⟩ := h
    have nd := (sc__law_mixes).nd
    refine jss_cons (fun s => s = _) (js_setF 3 nd rfl (.inl rfl) (jf_lstM (f := D.int) jaM_nil) rfl) ?_
    rintro _ rfl
    refine jss_cons (fun s => ∃ (u0 u4 u5 : Sl), s = [u0, .va (.int b), .va (.int n), .ow (.lst ((mixes c b n.toNat).map .int)), u4, u5]) (js_for (vs := [4]) PassesOwn.never rfl (ji_rngT (ji_rng1 (by rfl) T.m_range (ja_cons (je_var 2 rfl (.inl rfl) rfl) ja_nil) (by first | decide | omega) (by first | decide | omega))) (fun i s => ∃ (u4 u5 : Sl), s = [.va (.int c), .va (.int b), .va (.int n), .ow (.lst ((mixes c b i).map .int)), u4, u5]) (⟨_, _, rfl⟩) (fun it d s hd hi => ?_) (fun s hi => ?_)) ?_
    · obtain ⟨u4, u5, rfl⟩ := hi
      obtain ⟨_, hz, rfl⟩ := map_get hd
      obtain ⟨rfl, hk⟩ := rngT_get0 hz
      refine ⟨_, (jg_name 4 nd rfl (.inl rfl)), ?_⟩
      refine jss_cons (fun s => s = _) (js_set 5 nd rfl (.inl rfl) (je_mod (je_add (je_add (je_mul (je_mod (je_var 0 rfl (.inl rfl) rfl) je_int (by first | decide | exact hb0)) je_int (by first | exact .inr (.inr ⟨by decide, by decide⟩) | exact .inr (.inl ⟨by decide, by decide⟩) | exact mulOk (m := 20) (n := 20) (.of (by omega) (by omega)) (.of (by omega) (by omega)))) (je_mul (je_mul (je_var 4 rfl (.inl rfl) rfl) (je_var 4 rfl (.inl rfl) rfl) (by first | exact .inr (.inr ⟨by decide, by decide⟩) | exact .inr (.inl ⟨by decide, by decide⟩) | exact mulOk (m := 20) (n := 20) (.of (by omega) (by omega)) (.of (by omega) (by omega)))) je_int (by first | exact .inr (.inr ⟨by decide, by decide⟩) | exact .inr (.inl ⟨by decide, by decide⟩) | exact mulOk (m := 20) (n := 20) (.of (by omega) (by omega)) (.of (by omega) (by omega))))) (je_mul (je_var 4 rfl (.inl rfl) rfl) je_int (by first | exact .inr (.inr ⟨by decide, by decide⟩) | exact .inr (.inl ⟨by decide, by decide⟩) | exact mulOk (m := 20) (n := 20) (.of (by omega) (by omega)) (.of (by omega) (by omega))))) je_int (by first | decide | exact hb0)) rfl) ?_
      rintro _ rfl
      refine jss_cons (fun s => s = _) (js_meth 3 PySem.F.slot_list_append PySem.F.type_list_append mt_append rfl (.inl rfl) rfl (ja_cons (je_mod (je_div (je_mod (je_add (je_mul (je_var 5 rfl (.inl rfl) rfl) je_int (by first | exact .inr (.inr ⟨by decide, by decide⟩) | exact .inr (.inl ⟨by decide, by decide⟩) | exact mulOk (m := 20) (n := 20) (.of (by omega) (by omega)) (.of (by omega) (by omega)))) (je_var 0 rfl (.inl rfl) rfl)) je_int (by first | decide | exact hb0)) je_int (by first | exact divK (by decide) (by decide) | exact divK (by decide) (by decide +kernel))) (je_var 1 rfl (.inl rfl) rfl) (by first | decide | exact hb0)) ja_nil) (mu_appM (f := D.int) (by exact small_lt (by rw [mixes_len]; omega))) rfl) ?_
      rintro _ rfl
      exact jss_nil ⟨_, _, by rw [mixes_succ]; rfl⟩
    · rw [List.length_map, rngT_len] at hi; obtain ⟨u4, u5, rfl⟩ := hi; exact ⟨_, _, _, rfl⟩
    rintro _ ⟨u0, u4, u5, rfl⟩
    exact jss_one (js_retO 3 rfl (.inl rfl) rfl (by first | exact rfl | exact .inl rfl | exact .inr rfl))
abbrev F_ldigits : FS := fun ds o => ∃ c b n : Int, ds = [.int c, .int b, .int n] ∧ 0 < b ∧ b < 10000000 ∧ 0 ≤ n ∧ n ≤ 1000 ∧ o = .fr (.lst ((digs c b n.toNat).map .int))
theorem sc__law_digits : FnScope ["_law_cell_here", "_law_base", "_law_many", "_law_row", "_law_k"] ["_law_cell_here", "_law_base", "_law_many"] (defScope s__law_digits) := ⟨rfl, rfl, rfl, by decide +kernel, rfl, by decide +kernel, by decide +kernel⟩
set_option maxHeartbeats 4000000 in
theorem ok__law_digits (T : Glo K mg) : FnOk P w K mg base CX0 1 T.f__law_digits T.d__law_digits ["_law_cell_here", "_law_base", "_law_many"] (spF K F_ldigits) := by
  refine fn_ok T.F__law_digits sc__law_digits (fun ds o h => ?_) (fun ds c h => ?_) (fun cdv A outer s H E hr B ds o h => ?_)
  · obtain ⟨c, b, n, rfl, hb0, hb, hn0, hn, rfl⟩ := h
    rfl
  · obtain ⟨c, b, n, rfl, hb0, hb, hn0, hn, ho⟩ := h
    cases ho
  · obtain ⟨c, b, n, rfl, hb0, hb, hn0, hn, rfl⟩ := h
    have nd := (sc__law_digits).nd
    refine jss_cons (fun s => s = _) (js_setF 3 nd rfl (.inl rfl) (jf_lstM (f := D.int) jaM_nil) rfl) ?_
    rintro _ rfl
    refine jss_cons (fun s => ∃ (u0 u4 : Sl), s = [u0, .va (.int b), .va (.int n), .ow (.lst ((digs c b n.toNat).map .int)), u4]) (js_for (vs := [4]) PassesOwn.never rfl (ji_rngT (ji_rng1 (by rfl) T.m_range (ja_cons (je_var 2 rfl (.inl rfl) rfl) ja_nil) (by first | decide | omega) (by first | decide | omega))) (fun i s => ∃ (u4 : Sl), s = [.va (.int (cutD' b c i)), .va (.int b), .va (.int n), .ow (.lst ((digs c b i).map .int)), u4]) (⟨_, rfl⟩) (fun it d s hd hi => ?_) (fun s hi => ?_)) ?_
    · obtain ⟨u4, rfl⟩ := hi
      obtain ⟨_, hz, rfl⟩ := map_get hd
      obtain ⟨rfl, hk⟩ := rngT_get0 hz
      refine ⟨_, (jg_name 4 nd rfl (.inl rfl)), ?_⟩
      refine jss_cons (fun s => s = _) (js_meth 3 PySem.F.slot_list_append PySem.F.type_list_append mt_append rfl (.inl rfl) rfl (ja_cons (je_mod (je_var 0 rfl (.inl rfl) rfl) (je_var 1 rfl (.inl rfl) rfl) (by exact hb0)) ja_nil) (mu_appM (f := D.int) (by exact small_lt (by rw [digs_len]; omega))) rfl) ?_
      rintro _ rfl
      refine jss_cons (fun s => s = _) (js_set 0 nd rfl (.inl rfl) (je_div (je_var 0 rfl (.inl rfl) rfl) (je_var 1 rfl (.inl rfl) rfl) (by exact divN (n := 30) hb0 (.of (by omega) (by omega)))) rfl) ?_
      rintro _ rfl
      exact jss_nil ⟨_, by rw [digs_succ]; rfl⟩
    · rw [List.length_map, rngT_len] at hi; obtain ⟨u4, rfl⟩ := hi; exact ⟨_, _, rfl⟩
    rintro _ ⟨u0, u4, rfl⟩
    exact jss_one (js_retO 3 rfl (.inl rfl) rfl (by first | exact rfl | exact .inl rfl | exact .inr rfl))
abbrev F_lplan : FS := fun ds o => ∃ c m : Int, ds = [.int c, .int m] ∧ 1 ≤ m ∧ m ≤ 24 ∧ o = .ok (pl (lawPlan c m))
theorem sc__law_plan : FnScope ["_law_cell_here", "_law_most_here", "_law_rest", "_law_many", "_law_digits_here", "_law_rows", "_law_come", "_law_at", "_law_row", "_law_k", "_law_bad"] ["_law_cell_here", "_law_most_here"] (defScope s__law_plan) := ⟨rfl, rfl, rfl, by decide +kernel, rfl, by decide +kernel, by decide +kernel⟩
set_option maxHeartbeats 4000000 in
theorem ok__law_plan (T : Glo K mg) : FnOk P w K mg base CX0 2 T.f__law_plan T.d__law_plan ["_law_cell_here", "_law_most_here"] (spF K F_lplan) := by
  refine fn_ok T.F__law_plan sc__law_plan (fun ds o h => ?_) (fun ds c h => ?_) (fun cdv A outer s H E hr B ds o h => ?_)
  · obtain ⟨c, m, rfl, h1, h2, rfl⟩ := h
    rfl
  · obtain ⟨c, m, rfl, h1, h2, ho⟩ := h
    cases ho
  · obtain ⟨c, m, rfl, h1, h2, rfl⟩ := h
    have hM := manyOf_in m
    have hMd : manyOf m = 100 + 200 * (if decide (12 < m) then 1 else 0) := rfl
    have hdg := digitsOf_ok c m
    have hml : ∀ x : Int, x % manyOf m < ((digitsOf c m).length : Int) := fun x => (by rw [hdg.1]; have := Int.emod_lt_of_pos x (show 0 < manyOf m by omega); omega)
    have nd := (sc__law_plan).nd
    refine jss_cons (fun s => s = _) (js_set 2 nd rfl (.inl rfl) (je_div (je_var 0 rfl (.inl rfl) rfl) je_int (by first | exact divK (by decide) (by decide) | exact divK (by decide) (by decide +kernel))) rfl) ?_
    rintro _ rfl
    refine jss_cons (fun s => s = _) (js_set 3 nd rfl (.inr rfl) (je_add je_int (je_mul je_int (je_intB (by rfl) T.m_int (ja_cons (je_gt (je_var 1 rfl (.inl rfl) rfl) je_int) ja_nil)) (by first | exact .inr (.inr ⟨by decide, by decide⟩) | exact .inr (.inl ⟨by decide, by decide⟩)))) rfl) ?_
    rintro _ rfl
    refine jss_cons (fun s => s = _) (js_set 4 nd rfl (.inr rfl) (JF.je (jf_callI (m := false) (ok__law_mixes T) (hr.mono (by decide)) (by rfl) T.g__law_mixes T.F__law_mixes.kp T.b__law_mixes pass0 (ja_cons (je_var 2 rfl (.inl rfl) rfl) (ja_cons je_int (ja_cons (je_var 3 rfl (.inr (.inl rfl)) rfl) ja_nil))) (⟨_, _, _, rfl, (by decide), (by decide), (by omega), (by omega), rfl⟩) (by exact immL_map (fun _ => rfl) _))) rfl) ?_
    rintro _ rfl
    refine jss_ifsetG (g := (fun xs => D.lst (List.map D.int xs))) 4 nd rfl (.inr rfl) (jt_ge (je_abs (by rfl) T.m_abs (ja_cons (je_var 0 rfl (.inl rfl) rfl) ja_nil)) (je_powL (v := 1000000000000000000) je_int je_int ⟨by decide, by decide, by decide⟩ (by decide +kernel))) (fun hi1 => (by (try simp only [Bool.and_eq_true, Bool.or_eq_true, Bool.not_eq_true', Bool.not_eq_false', Bool.and_eq_false_imp, Bool.or_eq_false_iff, decide_eq_true_eq, decide_eq_false_iff_not, Bool.not_true, Bool.not_false, Bool.false_or, Bool.or_false, Bool.true_and, Bool.and_true] at hi1); exact (JF.je (jf_callI (m := false) (ok__law_digits T) (hr.mono (by decide)) (by rfl) T.g__law_digits T.F__law_digits.kp T.b__law_digits pass0 (ja_cons (je_var 2 rfl (.inl rfl) rfl) (ja_cons je_int (ja_cons (je_var 3 rfl (.inr (.inl rfl)) rfl) ja_nil))) (⟨_, _, _, rfl, (by decide), (by decide), (by omega), (by omega), rfl⟩) (by exact immL_map (fun _ => rfl) _))))) rfl ?_
    refine jss_cons (fun s => s = _) (js_setF 5 nd rfl (.inl rfl) (jf_lstM (f := (fun xs => D.tup (List.map D.int xs))) (jaM_cons (je_tupM (f := D.int) (jaM_cons je_int jaM_nil)) jaM_nil)) rfl) ?_
    rintro _ rfl
    refine jss_cons (fun s => s = _) (js_set 6 nd rfl (.inl rfl) (JF.je (jf_lstM (f := D.int) (jaM_cons je_int (jaM_cons je_int jaM_nil)))) rfl) ?_
    rintro _ rfl
    refine jss_cons (fun s => s = _) (js_set 7 nd rfl (.inr rfl) je_int rfl) ?_
    rintro _ rfl
    refine jss_cons (fun s => ∃ (u0 u1 u2 u3 u4 u6 u7 u8 u9 u10 : Sl), s = [u0, u1, u2, u3, u4, .ow (.lst ((lawPlan c m).map rowD)), u6, u7, u8, u9, u10]) (js_while (fun n s => ∃ (rows : Pl) (come : List Int) (at_ : Int), ∃ (u8 u9 u10 : Sl), s = [.va (.int c), .va (.int m), .va (.int (c / 4)), .va (.int (manyOf m)), .va (.lst ((digitsOf c m).map .int)), .ow (.lst (rows.map rowD)), .va (.lst (come.map .int)), .va (.int at_), u8, u9, u10] ∧ planGo (digitsOf c m) (manyOf m) c m n rows come at_ = lawPlan c m ∧ (come = [] ∨ m ≤ rows.length + n) ∧ PInv rows come ∧ (rows.length : Int) ≤ m) (m.toNat + 1) (⟨[[0]], [0, 1], 0, _, _, _, rfl, rfl, .inr (by simp; omega), pinv_one, (by simpa using h1)⟩) PassesOwn.never (fun n s hw => ?_)) ?_
    · obtain ⟨rows, come, at_, u8, u9, u10, rfl, hgo, hfu, hin, hlm⟩ := hw
      have hcl := hin.len
      refine ⟨_, (JW.jt (jw_and (jt_lt (je_lenM (f := (fun xs => D.tup (List.map D.int xs))) (by rfl) T.m_len (ja_cons (je_ow 5 rfl (.inl rfl) rfl) ja_nil) (.lst _)) (je_var 1 rfl (.inl rfl) rfl)) (fun h1 => (by (try simp only [Bool.and_eq_true, Bool.or_eq_true, Bool.not_eq_true', Bool.not_eq_false', Bool.and_eq_false_imp, Bool.or_eq_false_iff, decide_eq_true_eq, decide_eq_false_iff_not, Bool.not_true, Bool.not_false, Bool.false_or, Bool.or_false, Bool.true_and, Bool.and_true] at h1); exact (jw_and1 (jt_gt (je_lenM (f := D.int) (by rfl) T.m_len (ja_cons (je_var 6 rfl (.inl rfl) rfl) ja_nil) (.lst _)) je_int)))))), fun hc => ?_, fun hc => ?_⟩
      · have hc0 := hc
        (try simp only [Bool.and_eq_true, Bool.or_eq_true, Bool.not_eq_true', Bool.not_eq_false', Bool.and_eq_false_imp, Bool.or_eq_false_iff, decide_eq_true_eq, decide_eq_false_iff_not, Bool.not_true, Bool.not_false, Bool.false_or, Bool.or_false, Bool.true_and, Bool.and_true] at hc)
        have hm0 := hfu.resolve_left fun z => (by rw [z] at hc; simp at hc)
        obtain ⟨n', rfl⟩ : ∃ n', n = n' + 1 := ⟨n - 1, by omega⟩
        rw [planGo_go hc0] at hgo
        have hrs := rowOf_sub (digitsOf c m) (manyOf m) c come at_
        have hin2 := hin.go hrs fun _ => (by omega)
        refine jss_cons (fun s => s = _) (js_lc1 (en := D.int) false 8 rfl nd rfl rfl (sw_true rfl rfl rfl (by decide +kernel)) (blkOk_by (own := [("_law_k", 9), ("_law_bad", 10)]) (N := ["_law_cell_here", "_law_most_here", "_law_rest", "_law_many", "_law_digits_here", "_law_rows", "_law_come", "_law_at", "_law_row", "_law_k", "_law_bad"]) (sc := defScope s__law_plan) (by decide +kernel)) (ji_enumT (f := D.int) (ji_enumL (by rfl) T.m_enumerate (ja_cons (je_var 6 rfl (.inl rfl) rfl) ja_nil) (.lst _))) (fun x1 hx1 => ⟨_, fun _ _ _ _ _ _ _ => jg_tup rfl (jgs_cons (jg_name 9 nd rfl (.inl rfl)) (jgs_cons (jg_name 10 nd rfl (.inl rfl)) jgs_nil)) rfl, fun _ _ _ _ _ _ _ => (jt_gt (je_ixM (f := D.int) 0 (je_var 4 rfl (.inr (.inl rfl)) rfl) (je_mod (je_add (je_var 7 rfl (.inr (.inl rfl)) rfl) (je_var 9 rfl (.inl rfl) rfl)) (je_var 3 rfl (.inr (.inl rfl)) rfl) (by omega)) (.lst _) (by exact Int.emod_nonneg _ (by omega)) (by exact hml _)) je_int), fun ht1 => fun _ _ _ _ _ _ _ => (je_var 10 rfl (.inl rfl) rfl)⟩) (by first | exact small_len (by rw [enumT_len]; omega) | exact Nat.le_trans hrs.length_le (small_len (by omega))) rfl) ?_
        rintro _ rfl
        refine jss_cons (fun s => s = _) (js_set 7 nd rfl (.inr rfl) (je_add (je_var 7 rfl (.inr (.inl rfl)) rfl) (je_lenM (f := D.int) (by rfl) T.m_len (ja_cons (je_var 6 rfl (.inl rfl) rfl) ja_nil) (.lst _))) rfl) ?_
        rintro _ rfl
        refine jss_ifsetG (g := (fun xs => D.lst (List.map D.int xs))) 8 nd rfl (.inl rfl) (jt_gt (je_mod (je_var 0 rfl (.inl rfl) rfl) je_int (by omega)) je_int) (fun hi2 => (by (try simp only [Bool.and_eq_true, Bool.or_eq_true, Bool.not_eq_true', Bool.not_eq_false', Bool.and_eq_false_imp, Bool.or_eq_false_iff, decide_eq_true_eq, decide_eq_false_iff_not, Bool.not_true, Bool.not_false, Bool.false_or, Bool.or_false, Bool.true_and, Bool.and_true] at hi2); exact (JF.je (jf_slBoth (f := D.int) (je_var 6 rfl (.inl rfl) rfl) (je_ixM (f := D.int) 0 (je_var 4 rfl (.inr (.inl rfl)) rfl) (je_mod (je_var 7 rfl (.inr (.inl rfl)) rfl) (je_var 3 rfl (.inr (.inl rfl)) rfl) (by omega)) (.lst _) (by exact Int.emod_nonneg _ (by omega)) (by exact hml _)) (je_max2 rfl (by rfl) T.m_max (ja_cons je_int (ja_cons (je_sub (je_lenM (f := D.int) (by rfl) T.m_len (ja_cons (je_var 6 rfl (.inl rfl) rfl) ja_nil) (.lst _)) (je_ixM (f := D.int) 0 (je_var 4 rfl (.inr (.inl rfl)) rfl) (je_mod (je_add (je_var 7 rfl (.inr (.inl rfl)) rfl) je_int) (je_var 3 rfl (.inr (.inl rfl)) rfl) (by omega)) (.lst _) (by exact Int.emod_nonneg _ (by omega)) (by exact hml _))) ja_nil))) (.lst _) (by first | exact (getD_in (by decide) hdg.2).1 | (split <;> omega)) (by first | exact (getD_in (by decide) hdg.2).1 | (split <;> omega)))))) rfl ?_
        refine jss_cons (fun s => s = _) (js_set 6 nd rfl (.inl rfl) (JF.je (jf_sortset rfl (by rfl) T.m_sorted (by rfl) T.m_set (ja_cons (JF.je (jf_catM (f := D.int) (je_var 8 rfl (.inl rfl) rfl) (JF.je (jf_lc0 (en := D.int) rfl nd (blkOk_by (own := [("_law_bad", 10)]) (N := ["_law_cell_here", "_law_most_here", "_law_rest", "_law_many", "_law_digits_here", "_law_rows", "_law_come", "_law_at", "_law_row", "_law_k", "_law_bad"]) (sc := defScope s__law_plan) (by decide +kernel)) (ji_list (je_var 8 rfl (.inl rfl) rfl) (.lst _)) (fun x2 hx2 => ⟨_, fun _ _ _ _ _ _ _ => jg_name 10 nd rfl (.inl rfl), fun _ _ _ _ _ _ _ => (je_add (je_var 10 rfl (.inl rfl) rfl) je_int)⟩) (by first | exact small_len (by rw [enumT_len]; omega) | exact Nat.le_trans hrs.length_le (small_len (by omega))))) (by exact cat_len hrs hcl))) ja_nil) (.lst _) (by exact two_len hrs hcl))) rfl) ?_
        rintro _ rfl
        refine jss_ifd (jt_gt (je_lenM (f := D.int) (by rfl) T.m_len (ja_cons (je_var 8 rfl (.inl rfl) rfl) ja_nil) (.lst _)) je_int) (fun hi3 => ?_) (fun hi3 => ?_)
        · skip
          refine jss_cons (fun s => s = _) (js_meth 5 PySem.F.slot_list_append PySem.F.type_list_append mt_append rfl (.inl rfl) rfl (ja_cons (JE.im (m := false) (je_tupL (by rfl) T.m_tuple (ja_cons (je_var 8 rfl (.inl rfl) rfl) ja_nil) (.lst _)) (imm_tup (fun _ => rfl) _)) ja_nil) (mu_appM (f := (fun xs => D.tup (List.map D.int xs))) (by first | exact small_lt (by (try simp only [List.length_map, List.length_append, List.length_cons, List.length_nil, List.length_zip, rngT_len, enumT_len]); omega))) rfl) ?_
          rintro _ rfl
          refine jss_nil ?_
          exact jss_nil ⟨n', (by omega), _, _, _, _, _, _, rfl, plan_turn hgo hin2 hc.1 (by omega) (by first | exact .inl ⟨ne_of_len (of_decide_eq_true hi3), rfl⟩ | exact .inr ⟨nil_of_len (of_decide_eq_false hi3), rfl⟩)⟩
        · skip
          refine jss_nil ?_
          exact jss_nil ⟨n', (by omega), _, _, _, _, _, _, rfl, plan_turn hgo hin2 hc.1 (by omega) (by first | exact .inl ⟨ne_of_len (of_decide_eq_true hi3), rfl⟩ | exact .inr ⟨nil_of_len (of_decide_eq_false hi3), rfl⟩)⟩
      · skip
        exact ⟨_, _, _, _, _, _, _, _, _, _, by rw [← hgo, planGo_stop hc]⟩
    rintro _ ⟨u0, u1, u2, u3, u4, u6, u7, u8, u9, u10, rfl⟩
    exact jss_one (js_ret (m := true) (JE.im (m := false) (je_tupL (by rfl) T.m_tuple (ja_cons (je_ow 5 rfl (.inl rfl) rfl) ja_nil) (.lst _)) (imm_tup (fun x => imm_tup (fun _ => rfl) x) _)) (by first | exact rfl | assumption))
abbrev F_lends : FS := fun ds o => ∃ p : Pl, ds = [pl p] ∧ PlanOK p ∧ o = .fr (.lst ((endsQ p).map fr))
theorem lend_line {p : Pl} {i : Nat} (h : i < p.length) : ((sortU (p.getD ((1 : Int) + i - 1).toNat [] ++ (p.getD ((1 : Int) + i - 1).toNat []).map fun b => b + 1)).filter fun b => !decide (b ∈ (if decide ((1 : Int) + i < (p.length : Int)) then p.getD ((1 : Int) + i).toNat [] else []))).map (fun b => (b, (1 : Int) + i - b)) = lineQ ((i : Int) + 1) ((nxt (row p i)).filter fun b => !decide (b ∈ row p (i + 1))) := by
  have e1 : ((1 : Int) + i - 1).toNat = i := by omega
  have e2 : ((1 : Int) + i).toNat = i + 1 := by omega
  have e3 : (1 : Int) + i = (i : Int) + 1 := by omega
  have e4 : (if decide ((1 : Int) + i < (p.length : Int)) then p.getD (i + 1) [] else []) = row p (i + 1) := by
    by_cases q : (1 : Int) + i < (p.length : Int)
    · rw [if_pos (decide_eq_true q)]; rfl
    · rw [if_neg (by rw [decide_eq_true_eq]; exact q), row_out (by omega)]
  rw [e1, e2, e4, e3]
  rfl
theorem sc__law_ends : FnScope ["_law_plan_here", "_law_found", "_law_n", "_law_on", "_law_come", "_law_bad"] ["_law_plan_here"] (defScope s__law_ends) := ⟨rfl, rfl, rfl, by decide +kernel, rfl, by decide +kernel, by decide +kernel⟩
set_option maxHeartbeats 4000000 in
theorem ok__law_ends (T : Glo K mg) : FnOk P w K mg base CX0 1 T.f__law_ends T.d__law_ends ["_law_plan_here"] (spF K F_lends) := by
  refine fn_ok T.F__law_ends sc__law_ends (fun ds o h => ?_) (fun ds c h => ?_) (fun cdv A outer s H E hr B ds o h => ?_)
  · obtain ⟨p, rfl, hp, rfl⟩ := h
    rfl
  · obtain ⟨p, rfl, hp, ho⟩ := h
    cases ho
  · obtain ⟨p, rfl, hp, rfl⟩ := h
    have hp24 := hp.len
    have hp0 := hp.pos
    have nd := (sc__law_ends).nd
    refine jss_cons (fun s => s = _) (js_setF 1 nd rfl (.inl rfl) (jf_lstM (f := fr) jaM_nil) rfl) ?_
    rintro _ rfl
    refine jss_cons (fun s => ∃ (u2 u3 u4 u5 : Sl), s = [.va (pl p), .ow (.lst ((endsQ p).map fr)), u2, u3, u4, u5]) (js_for (vs := [2]) PassesOwn.never rfl (ji_rngT (ji_rng2 (by rfl) T.m_range (ja_cons je_int (ja_cons (je_add (je_lenTM (f := (fun xs => D.tup (List.map D.int xs))) (by rfl) T.m_len (ja_cons (je_var 0 rfl (.inl rfl) rfl) ja_nil)) je_int) ja_nil)) (by first | exact ⟨by decide, by decide⟩ | exact ⟨by omega, by omega⟩) (by first | exact ⟨by decide, by decide⟩ | exact ⟨by omega, by omega⟩))) (fun i s => ∃ (u2 u3 u4 u5 : Sl), s = [.va (pl p), .ow (.lst ((lendN p i).map fr)), u2, u3, u4, u5]) (⟨_, _, _, _, rfl⟩) (fun it d s hd hi => ?_) (fun s hi => ?_)) ?_
    · obtain ⟨u2, u3, u4, u5, rfl⟩ := hi
      obtain ⟨_, hz, rfl⟩ := map_get hd
      obtain ⟨rfl, hk⟩ := rngT_get hz
      have hk2 : it < p.length := (by omega)
      refine ⟨_, (jg_name 2 nd rfl (.inr rfl)), ?_⟩
      refine jss_cons (fun s => s = _) (js_set 3 nd rfl (.inr rfl) (je_tupM (f := D.int) jaM_nil) rfl) ?_
      rintro _ rfl
      refine jss_ifsetG (g := (fun xs => D.tup (List.map D.int xs))) 3 nd rfl (.inr rfl) (jt_lt (je_var 2 rfl (.inr (.inl rfl)) rfl) (je_lenTM (f := (fun xs => D.tup (List.map D.int xs))) (by rfl) T.m_len (ja_cons (je_var 0 rfl (.inl rfl) rfl) ja_nil))) (fun hi1 => (by (try simp only [Bool.and_eq_true, Bool.or_eq_true, Bool.not_eq_true', Bool.not_eq_false', Bool.and_eq_false_imp, Bool.or_eq_false_iff, decide_eq_true_eq, decide_eq_false_iff_not, Bool.not_true, Bool.not_false, Bool.false_or, Bool.or_false, Bool.true_and, Bool.and_true] at hi1); exact (je_ixMT (f := (fun xs => D.tup (List.map D.int xs))) [] (je_var 0 rfl (.inl rfl) rfl) (je_var 2 rfl (.inr (.inl rfl)) rfl) (by omega) (by omega)))) rfl ?_
      refine jss_cons (fun s => s = _) (js_set 4 nd rfl (.inl rfl) (JF.je (jf_sortset rfl (by rfl) T.m_sorted (by rfl) T.m_set (ja_cons (JF.je (jf_catM (f := D.int) (JF.je (jf_listU (by rfl) T.m_list (ja_cons (je_ixMT (f := (fun xs => D.tup (List.map D.int xs))) [] (je_var 0 rfl (.inl rfl) rfl) (je_sub (je_var 2 rfl (.inr (.inl rfl)) rfl) je_int) (by omega) (by omega)) ja_nil))) (JF.je (jf_lc0 (en := D.int) rfl nd (blkOk_by (own := [("_law_bad", 5)]) (N := ["_law_plan_here", "_law_found", "_law_n", "_law_on", "_law_come", "_law_bad"]) (sc := defScope s__law_ends) (by decide +kernel)) (ji_tup (je_ixMT (f := (fun xs => D.tup (List.map D.int xs))) [] (je_var 0 rfl (.inl rfl) rfl) (je_sub (je_var 2 rfl (.inr (.inl rfl)) rfl) je_int) (by omega) (by omega))) (fun x1 hx1 => ⟨_, fun _ _ _ _ _ _ _ => jg_name 5 nd rfl (.inl rfl), fun _ _ _ _ _ _ _ => (je_add (je_var 5 rfl (.inl rfl) rfl) je_int)⟩) (by first | exact small_len (by have := hp.row_len it; have e : ((1 : Int) + it - 1).toNat = it := (by omega); rw [e]; unfold row at this; omega) | exact small_len (Nat.le_trans (sortU_len _) (by rw [List.length_append, List.length_map]; have := hp.row_len it; have e : ((1 : Int) + it - 1).toNat = it := (by omega); rw [e]; unfold row at this; omega))))) (by first | exact small_len (by rw [List.length_map]; have := hp.row_len it; have e : ((1 : Int) + it - 1).toNat = it := (by omega); rw [e]; unfold row at this; omega) | exact small_len (by have h1 := lend_len hp it; rw [lend_line hk2, lineQ_len]; have h2 := List.length_filter_le (fun b => !decide (b ∈ row p (it + 1))) (nxt (row p it)); have := hp.next_len it; omega)))) ja_nil) (.lst _) (by rw [List.length_append, List.length_map]; have := hp.row_len it; have e : ((1 : Int) + it - 1).toNat = it := (by omega); rw [e]; unfold row at this; omega))) rfl) ?_
      rintro _ rfl
      refine jss_cons (fun s => s = _) (js_meth 1 PySem.F.slot_list_extend PySem.F.type_list_extend mt_extend rfl (.inl rfl) rfl (ja_cons (JF.je (jf_lc1 (en := fr) rfl nd (blkOk_by (own := [("_law_bad", 5)]) (N := ["_law_plan_here", "_law_found", "_law_n", "_law_on", "_law_come", "_law_bad"]) (sc := defScope s__law_ends) (by decide +kernel)) (ji_list (je_var 4 rfl (.inl rfl) rfl) (.lst _)) (fun x2 hx2 => ⟨_, fun _ _ _ _ _ _ _ => jg_name 5 nd rfl (.inl rfl), fun _ _ _ _ _ _ _ => (jt_ninUI (by rfl) (je_var 5 rfl (.inl rfl) rfl) (je_var 3 rfl (.inr (.inl rfl)) rfl)), fun ht2 => fun _ _ _ _ _ _ _ => (je_pr (ja_cons (je_var 5 rfl (.inl rfl) rfl) (ja_cons (je_sub (je_var 2 rfl (.inr (.inl rfl)) rfl) (je_var 5 rfl (.inl rfl) rfl)) ja_nil)))⟩) (by first | exact small_len (by have := hp.row_len it; have e : ((1 : Int) + it - 1).toNat = it := (by omega); rw [e]; unfold row at this; omega) | exact small_len (Nat.le_trans (sortU_len _) (by rw [List.length_append, List.length_map]; have := hp.row_len it; have e : ((1 : Int) + it - 1).toNat = it := (by omega); rw [e]; unfold row at this; omega))))) ja_nil) (mu_extM (f := fr) (by first | exact small_len (by rw [List.length_map]; have := hp.row_len it; have e : ((1 : Int) + it - 1).toNat = it := (by omega); rw [e]; unfold row at this; omega) | exact small_len (by have h1 := lend_len hp it; rw [lend_line hk2, lineQ_len]; have h2 := List.length_filter_le (fun b => !decide (b ∈ row p (it + 1))) (nxt (row p it)); have := hp.next_len it; omega))) rfl) ?_
      rintro _ rfl
      exact jss_nil ⟨_, _, _, _, by rw [lend_line hk2, ← lendN_succ]; rfl⟩
    · rw [List.length_map, rngT_len] at hi; rw [show ((p.length : Int) + 1 - 1).toNat = p.length by omega, lends_eq hp] at hi; exact hi
    rintro _ ⟨u2, u3, u4, u5, rfl⟩
    exact jss_one (js_retO 1 rfl (.inl rfl) rfl (by first | exact rfl | exact .inl rfl | exact .inr rfl))
abbrev F_next : FS := fun ds o => ∃ r : List Int, ds = [rowD r] ∧ r.length ≤ 30 ∧ o = .fr (.lst ((nxt r).map .int))
theorem sc_next_bad : FnScope ["row", "bad"] ["row"] (defScope s_next_bad) := ⟨rfl, rfl, rfl, by decide +kernel, rfl, by decide +kernel, by decide +kernel⟩
set_option maxHeartbeats 4000000 in
theorem ok_next_bad (T : Glo K mg) : FnOk P w K mg base CX0 1 T.f_next_bad T.d_next_bad ["row"] (spF K F_next) := by
  refine fn_ok T.F_next_bad sc_next_bad (fun ds o h => ?_) (fun ds c h => ?_) (fun cdv A outer s H E hr B ds o h => ?_)
  · obtain ⟨r, rfl, hl, rfl⟩ := h
    rfl
  · obtain ⟨r, rfl, hl, ho⟩ := h
    cases ho
  · obtain ⟨r, rfl, hl, rfl⟩ := h
    have nd := (sc_next_bad).nd
    exact jss_one (js_retF (jf_sortset rfl (by rfl) T.m_sorted (by rfl) T.m_set (ja_cons (JF.je (jf_catM (f := D.int) (JF.je (jf_listU (by rfl) T.m_list (ja_cons (je_var 0 rfl (.inl rfl) rfl) ja_nil))) (JF.je (jf_lc0 (en := D.int) rfl nd (blkOk_by (own := [("bad", 1)]) (N := ["row", "bad"]) (sc := defScope s_next_bad) (by decide +kernel)) (ji_tup (je_var 0 rfl (.inl rfl) rfl)) (fun x1 hx1 => ⟨_, fun _ _ _ _ _ _ _ => jg_name 1 nd rfl (.inl rfl), fun _ _ _ _ _ _ _ => (je_add (je_var 1 rfl (.inl rfl) rfl) je_int)⟩) (by exact small_len (by omega)))) (by exact small_len (by rw [List.length_map]; omega)))) ja_nil) (.lst _) (by rw [List.length_append, List.length_map]; omega)) (by first | exact rfl | exact .inl rfl | exact .inr rfl))
abbrev F_come : FS := fun ds o => ∃ p : Pl, ds = [pl p] ∧ PlanOK p ∧ o = .fr (.lst ((comeTo p).map fr))
theorem sc_come_to : FnScope ["plan", "found", "k", "row", "bad"] ["plan"] (defScope s_come_to) := ⟨rfl, rfl, rfl, by decide +kernel, rfl, by decide +kernel, by decide +kernel⟩
set_option maxHeartbeats 4000000 in
theorem ok_come_to (T : Glo K mg) : FnOk P w K mg base CX0 2 T.f_come_to T.d_come_to ["plan"] (spF K F_come) := by
  refine fn_ok T.F_come_to sc_come_to (fun ds o h => ?_) (fun ds c h => ?_) (fun cdv A outer s H E hr B ds o h => ?_)
  · obtain ⟨p, rfl, hp, rfl⟩ := h
    rfl
  · obtain ⟨p, rfl, hp, ho⟩ := h
    cases ho
  · obtain ⟨p, rfl, hp, rfl⟩ := h
    have hp24 := hp.len
    have nd := (sc_come_to).nd
    refine jss_cons (fun s => s = _) (js_setF 1 nd rfl (.inl rfl) (jf_lstM (f := fr) (jaM_cons (je_pr (ja_cons je_int (ja_cons je_int ja_nil))) jaM_nil)) rfl) ?_
    rintro _ rfl
    refine jss_cons (fun s => ∃ (u2 u3 u4 : Sl), s = [.va (pl p), .ow (.lst ((comeTo p).map fr)), u2, u3, u4]) (js_for (vs := [2, 3]) PassesOwn.never rfl (ji_enumT (f := (fun xs => D.tup (List.map D.int xs))) (ji_enumU (by rfl) T.m_enumerate (ja_cons (je_var 0 rfl (.inl rfl) rfl) ja_nil))) (fun i s => ∃ (u2 u3 u4 : Sl), s = [.va (pl p), .ow (.lst ((comeN p i).map fr)), u2, u3, u4]) (⟨_, _, _, rfl⟩) (fun it d s hd hi => ?_) (fun s hi => ?_)) ?_
    · obtain ⟨u2, u3, u4, rfl⟩ := hi
      obtain ⟨⟨n, x⟩, hz, rfl⟩ := map_get hd
      obtain ⟨hx, hn, hk⟩ := enumT_get hz
      dsimp only at hx hn hd
      subst hn
      dsimp only
      obtain ⟨hrow, hlt⟩ := row_at hx
      refine ⟨_, (jg_tup rfl (jgs_cons (jg_name 2 nd rfl (.inr rfl)) (jgs_cons (jg_name 3 nd rfl (.inl rfl)) jgs_nil)) rfl), ?_⟩
      refine jss_cons (fun s => s = _) (js_meth 1 PySem.F.slot_list_extend PySem.F.type_list_extend mt_extend rfl (.inl rfl) rfl (ja_cons (JF.je (jf_lc0 (en := fr) rfl nd (blkOk_by (own := [("bad", 4)]) (N := ["plan", "found", "k", "row", "bad"]) (sc := defScope s_come_to) (by decide +kernel)) (ji_list (JF.je (jf_callI (m := false) (ok_next_bad T) (hr.mono (by decide)) (by rfl) T.g_next_bad T.F_next_bad.kp T.b_next_bad pass0 (ja_cons (je_var 3 rfl (.inl rfl) rfl) ja_nil) (⟨_, rfl, (by have := hp.row_len it; rw [hrow] at this; omega), rfl⟩) (by exact immL_map (fun _ => rfl) _))) (.lst _)) (fun x1 hx1 => ⟨_, fun _ _ _ _ _ _ _ => jg_name 4 nd rfl (.inl rfl), fun _ _ _ _ _ _ _ => (je_pr (ja_cons (je_var 4 rfl (.inl rfl) rfl) (ja_cons (je_sub (je_add (je_var 2 rfl (.inr (.inl rfl)) rfl) je_int) (je_var 4 rfl (.inl rfl) rfl)) ja_nil)))⟩) (by exact small_len (by have := hp.next_len it; rw [hrow] at this; omega)))) ja_nil) (mu_extM (f := fr) (by exact small_len (by have h1 := hp.next_len it; rw [hrow] at h1; have := comeN_len hp it; rw [List.length_map]; omega))) rfl) ?_
      rintro _ rfl
      exact jss_nil ⟨_, _, _, by rw [comeN_succ, hrow]; rfl⟩
    · rw [List.length_map, enumT_len] at hi; exact hi
    rintro _ ⟨u2, u3, u4, rfl⟩
    exact jss_one (js_retO 1 rfl (.inl rfl) rfl (by first | exact rfl | exact .inl rfl | exact .inr rfl))
abbrev F_goes : FS := fun ds o => ∃ (p : Pl) (c : Q), ds = [pl p, fr c] ∧ PlanOK p ∧ 0 ≤ c.1 + c.2 ∧ o = .ok (.bl (goesOn p c))
theorem sc_goes_on : FnScope ["plan", "count", "draws"] ["plan", "count"] (defScope s_goes_on) := ⟨rfl, rfl, rfl, by decide +kernel, rfl, by decide +kernel, by decide +kernel⟩
set_option maxHeartbeats 4000000 in
theorem ok_goes_on (T : Glo K mg) : FnOk P w K mg base CX0 1 T.f_goes_on T.d_goes_on ["plan", "count"] (spF K F_goes) := by
  refine fn_ok T.F_goes_on sc_goes_on (fun ds o h => ?_) (fun ds c h => ?_) (fun cdv A outer s H E hr B ds o h => ?_)
  · obtain ⟨p, c, rfl, hp, h0, rfl⟩ := h
    rfl
  · obtain ⟨p, c, rfl, hp, h0, ho⟩ := h
    cases ho
  · obtain ⟨p, c, rfl, hp, h0, rfl⟩ := h
    have nd := (sc_goes_on).nd
    refine jss_cons (fun s => s = _) (js_set 2 nd rfl (.inl rfl) (je_add (je_ixT (je_var 1 rfl (.inl rfl) rfl) je_int rfl) (je_ixT (je_var 1 rfl (.inl rfl) rfl) je_int rfl)) rfl) ?_
    rintro _ rfl
    exact jss_one (js_ret (m := true) (je_and (je_lt (je_var 2 rfl (.inl rfl) rfl) (je_lenTM (f := (fun xs => D.tup (List.map D.int xs))) (by rfl) T.m_len (ja_cons (je_var 0 rfl (.inl rfl) rfl) ja_nil))) (fun h1 => (by (try simp only [Bool.and_eq_true, Bool.or_eq_true, Bool.not_eq_true', Bool.not_eq_false', Bool.and_eq_false_imp, Bool.or_eq_false_iff, decide_eq_true_eq, decide_eq_false_iff_not, Bool.not_true, Bool.not_false, Bool.false_or, Bool.or_false, Bool.true_and, Bool.and_true] at h1); exact (je_one (je_inUI (by rfl) (je_ixT (je_var 1 rfl (.inl rfl) rfl) je_int rfl) (je_ixMT (f := (fun xs => D.tup (List.map D.int xs))) [] (je_var 0 rfl (.inl rfl) rfl) (je_var 2 rfl (.inl rfl) rfl) (by first | decide | omega) (by omega))))))) (by rw [← goesOn_eq hp h0]; exact rfl))
abbrev F_ends : FS := fun ds o => ∃ p : Pl, ds = [pl p] ∧ PlanOK p ∧ o = .fr (.lst ((endsQ p).map fr))
theorem sc_ends : FnScope ["plan", "count"] ["plan"] (defScope s_ends) := ⟨rfl, rfl, rfl, by decide +kernel, rfl, by decide +kernel, by decide +kernel⟩
set_option maxHeartbeats 4000000 in
theorem ok_ends (T : Glo K mg) : FnOk P w K mg base CX0 3 T.f_ends T.d_ends ["plan"] (spF K F_ends) := by
  refine fn_ok T.F_ends sc_ends (fun ds o h => ?_) (fun ds c h => ?_) (fun cdv A outer s H E hr B ds o h => ?_)
  · obtain ⟨p, rfl, hp, rfl⟩ := h
    rfl
  · obtain ⟨p, rfl, hp, ho⟩ := h
    cases ho
  · obtain ⟨p, rfl, hp, rfl⟩ := h
    have hp24 := hp.len
    have nd := (sc_ends).nd
    exact jss_one (js_retF (jf_lc1 (en := fr) rfl nd (blkOk_by (own := [("count", 1)]) (N := ["plan", "count"]) (sc := defScope s_ends) (by decide +kernel)) (ji_list (JF.je (jf_callI (m := false) (ok_come_to T) (hr.mono (by decide)) (by rfl) T.g_come_to T.F_come_to.kp T.b_come_to pass0 (ja_cons (je_var 0 rfl (.inr (.inl rfl)) rfl) ja_nil) (⟨_, rfl, (by assumption), rfl⟩) (by exact immL_map (fun _ => rfl) _))) (.lst _)) (fun x1 hx1 => ⟨_, fun _ _ _ _ _ _ _ => jg_name 1 nd rfl (.inl rfl), fun _ _ _ _ _ _ _ => (jt_not (jt_val (je_call (ok_goes_on T) (hr.mono (by decide)) (by rfl) T.g_goes_on T.F_goes_on.kp T.b_goes_on pass0 (ja_cons (je_var 0 rfl (.inr (.inl rfl)) rfl) (ja_cons (je_var 1 rfl (.inl rfl) rfl) ja_nil)) (⟨_, _, rfl, hp, (by have := (come_nn hp hx1).1; unfold nn at this; omega), rfl⟩)))), fun ht1 => fun _ _ _ _ _ _ _ => (je_var 1 rfl (.inl rfl) rfl)⟩) (by exact small_len (by have := comeN_len hp p.length; show (comeN p p.length).length ≤ _; omega))) (.inl (by rw [map_same]; rfl)))
abbrev F_cell : FS := fun ds o => ∃ (ns : List Int) (k : Int), ds = [.fro (ns.map .int), .int k] ∧ 0 ≤ k ∧ o = .ok (.int (cell ns k))
theorem sc__law_cell : FnScope ["_law_script", "_law_k"] ["_law_script", "_law_k"] (defScope s__law_cell) := ⟨rfl, rfl, rfl, by decide +kernel, rfl, by decide +kernel, by decide +kernel⟩
set_option maxHeartbeats 4000000 in
theorem ok__law_cell (T : Glo K mg) : FnOk P w K mg base CX0 1 T.f__law_cell T.d__law_cell ["_law_script", "_law_k"] (spF K F_cell) := by
  refine fn_ok T.F__law_cell sc__law_cell (fun ds o h => ?_) (fun ds c h => ?_) (fun cdv A outer s H E hr B ds o h => ?_)
  · obtain ⟨ns, k, rfl, h0, rfl⟩ := h
    rfl
  · obtain ⟨ns, k, rfl, h0, ho⟩ := h
    cases ho
  · obtain ⟨ns, k, rfl, h0, rfl⟩ := h
    have nd := (sc__law_cell).nd
    refine jss_ifr (jt_lt (je_var 1 rfl (.inl rfl) rfl) (je_lenM (f := D.int) (by rfl) T.m_len (ja_cons (je_var 0 rfl (.inl rfl) rfl) ja_nil) (.fro _))) (fun hi1 => ?_) (fun hi1 => ?_)
    · (try simp only [Bool.and_eq_true, Bool.or_eq_true, Bool.not_eq_true', Bool.not_eq_false', Bool.and_eq_false_imp, Bool.or_eq_false_iff, decide_eq_true_eq, decide_eq_false_iff_not, Bool.not_true, Bool.not_false, Bool.false_or, Bool.or_false, Bool.true_and, Bool.and_true] at hi1)
      exact jss_one (js_ret (m := true) (je_ixM (f := D.int) 0 (je_var 0 rfl (.inl rfl) rfl) (je_var 1 rfl (.inl rfl) rfl) (.fro _) (by first | decide | omega) (by first | omega | ((try simp only [List.length_map, List.length_append, List.length_cons, List.length_nil, rngT_len, enumT_len]); omega))) (by first | exact rfl | assumption))
    · (try simp only [Bool.and_eq_true, Bool.or_eq_true, Bool.not_eq_true', Bool.not_eq_false', Bool.and_eq_false_imp, Bool.or_eq_false_iff, decide_eq_true_eq, decide_eq_false_iff_not, Bool.not_true, Bool.not_false, Bool.false_or, Bool.or_false, Bool.true_and, Bool.and_true] at hi1)
      exact jss_one (js_ret (m := true) je_int (by unfold cell; rw [List.getD_eq_getElem?_getD, List.getElem?_eq_none_iff.mpr (by omega)]; rfl))
abbrev F_lsame : FS := fun ds o => ∃ cs : List Q, ds = [.lst (cs.map fr), .lst (cs.map fr)] ∧ cs.length ≤ 10000 ∧ o = .ok (.bl true)
theorem sc__law_same : FnScope ["_law_found", "_law_due", "_law_one", "_law_other", "_law_number"] ["_law_found", "_law_due"] (defScope s__law_same) := ⟨rfl, rfl, rfl, by decide +kernel, rfl, by decide +kernel, by decide +kernel⟩
set_option maxHeartbeats 4000000 in
theorem ok__law_same (T : Glo K mg) : FnOk P w K mg base CX0 1 T.f__law_same T.d__law_same ["_law_found", "_law_due"] (spF K F_lsame) := by
  refine fn_ok T.F__law_same sc__law_same (fun ds o h => ?_) (fun ds c h => ?_) (fun cdv A outer s H E hr B ds o h => ?_)
  · obtain ⟨cs, rfl, hl, rfl⟩ := h
    rfl
  · obtain ⟨cs, rfl, hl, ho⟩ := h
    cases ho
  · obtain ⟨cs, rfl, hl, rfl⟩ := h
    have nd := (sc__law_same).nd
    refine jss_ifr (JW.jt (jw_or (jt_not (jt_val (je_isi (r := true) (by rfl) T.m_isinstance (by rfl) T.m_list boot_list (je_var 0 rfl (.inl rfl) rfl) (by exact isi_list_list)))) (fun h1 => (jw_or1 (jt_neI (je_lenM (f := fr) (by rfl) T.m_len (ja_cons (je_var 0 rfl (.inl rfl) rfl) ja_nil) (.lst _)) (je_lenM (f := fr) (by rfl) T.m_len (ja_cons (je_var 1 rfl (.inl rfl) rfl) ja_nil) (.lst _))))))) (fun hi1 => ?_) (fun hi1 => ?_)
    · exact absurd hi1 (by simp)
    · skip
      refine jss_cons (fun s => True) (js_for (vs := [2, 3]) PassesOwn.never rfl (ji_zipT (f := fr) (g := fr) (ji_zipLL (by rfl) T.m_zip (ja_cons (je_var 0 rfl (.inl rfl) rfl) (ja_cons (je_var 1 rfl (.inl rfl) rfl) ja_nil)) (.lst _) (.lst _))) (fun i s => ∃ (u2 u3 u4 : Sl), s = [.va (.lst (cs.map fr)), .va (.lst (cs.map fr)), u2, u3, u4]) (⟨_, _, _, rfl⟩) (fun it d s hd hi => ?_) (fun s hi => ?_)) ?_
      · obtain ⟨u2, u3, u4, rfl⟩ := hi
        obtain ⟨⟨x, y⟩, hz, rfl⟩ := map_get hd
        have hxy : x = y := (by obtain ⟨q1, q2⟩ := List.getElem?_zip_eq_some.mp hz; rw [q1] at q2; exact Option.some.inj q2)
        subst hxy
        refine ⟨_, (jg_tup rfl (jgs_cons (jg_name 2 nd rfl (.inl rfl)) (jgs_cons (jg_name 3 nd rfl (.inl rfl)) jgs_nil)) rfl), ?_⟩
        refine jss_ifr (JW.jt (jw_or (jt_not (jt_val (je_isi (r := true) (by rfl) T.m_isinstance (by rfl) T.m_tuple boot_tuple (je_var 2 rfl (.inl rfl) rfl) (by exact isi_tuple_tuple)))) (fun h2 => (jw_or1 (jt_neM inj_fr hr (je_var 2 rfl (.inl rfl) rfl) (je_var 3 rfl (.inl rfl) rfl) (fun _ => rfl)))))) (fun hi2 => ?_) (fun hi2 => ?_)
        · exact absurd hi2 (by simp)
        · skip
          refine jss_ifr (jt_not (jt_val (je_all rfl (by rfl) T.m_all (ja_cons (JF.je (jf_lc0 (en := D.bl) rfl nd (blkOk_by (own := [("_law_number", 4)]) (N := ["_law_found", "_law_due", "_law_one", "_law_other", "_law_number"]) (sc := defScope s__law_same) (by decide +kernel)) (ji_pr (je_var 2 rfl (.inl rfl) rfl)) (fun x1 hx1 => ⟨_, fun _ _ _ _ _ _ _ => jg_name 4 nd rfl (.inl rfl), fun _ _ _ _ _ _ _ => (je_and (je_isi (r := true) (by rfl) T.m_isinstance (by rfl) T.m_int boot_int (je_var 4 rfl (.inl rfl) rfl) (by exact isi_int_int)) (fun h3 => (je_one (je_not (je_isi (r := false) (by rfl) T.m_isinstance (by rfl) T.m_bool boot_bool (je_var 4 rfl (.inl rfl) rfl) (by exact isi_int_bool))))))⟩) (by exact small_len (by show 2 ≤ _; decide)))) ja_nil)))) (fun hi3 => ?_) (fun hi3 => ?_)
          · exact absurd hi3 (by simp)
          · skip
            exact jss_nil ⟨_, _, _, rfl⟩
      · trivial
      intro _ _
      exact jss_one (js_ret (m := true) je_bl (by exact rfl))
abbrev F_lways : FS := fun ds o => ∃ p : Pl, ds = [pl p] ∧ PlanOK p ∧ o = .fr (dQ .int (lawWays p))
theorem sc__law_ways : FnScope ["_law_plan_here", "_law_ways_here", "_law_n", "_law_row", "_law_bad", "_law_here", "_law_count"] ["_law_plan_here"] (defScope s__law_ways) := ⟨rfl, rfl, rfl, by decide +kernel, rfl, by decide +kernel, by decide +kernel⟩
set_option maxHeartbeats 4000000 in
theorem ok__law_ways (T : Glo K mg) : FnOk P w K mg base CX0 1 T.f__law_ways T.d__law_ways ["_law_plan_here"] (spF K F_lways) := by
  refine fn_ok T.F__law_ways sc__law_ways (fun ds o h => ?_) (fun ds c h => ?_) (fun cdv A outer s H E hr B ds o h => ?_)
  · obtain ⟨p, rfl, hp, rfl⟩ := h
    rfl
  · obtain ⟨p, rfl, hp, ho⟩ := h
    cases ho
  · obtain ⟨p, rfl, hp, rfl⟩ := h
    have hp24 := hp.len
    have nd := (sc__law_ways).nd
    refine jss_cons (fun s => s = _) (js_setF 1 nd rfl (.inl rfl) (jf_dict1 (f := D.int) hr (je_pr (ja_cons je_int (ja_cons je_int ja_nil))) je_int ((fun _ => rfl) _)) rfl) ?_
    rintro _ rfl
    refine jss_cons (fun s => ∃ (u2 u3 u4 u5 u6 : Sl), s = [.va (pl p), .ow (dQ .int (lawWays p)), u2, u3, u4, u5, u6]) (js_for (vs := [2, 3]) PassesOwn.never rfl (ji_enumT (f := (fun xs => D.tup (List.map D.int xs))) (ji_enumU (by rfl) T.m_enumerate (ja_cons (je_var 0 rfl (.inl rfl) rfl) ja_nil))) (fun i s => ∃ (u2 u3 u4 u5 u6 : Sl), s = [.va (pl p), .ow (dQ .int (lawWaysN p i)), u2, u3, u4, u5, u6]) (⟨_, _, _, _, _, rfl⟩) (fun it0 d s hd hi => ?_) (fun s hi => ?_)) ?_
    · obtain ⟨u2, u3, u4, u5, u6, rfl⟩ := hi
      obtain ⟨⟨n, r⟩, hz, rfl⟩ := map_get hd
      obtain ⟨hx, hn, hkk⟩ := enumT_get hz
      dsimp only at hx hn hd
      subst hn
      dsimp only
      obtain ⟨rfl, hlt⟩ := row_at hx
      refine ⟨_, (jg_tup rfl (jgs_cons (jg_name 2 nd rfl (.inl rfl)) (jgs_cons (jg_name 3 nd rfl (.inl rfl)) jgs_nil)) rfl), ?_⟩
      refine jss_cons (fun s => ∃ (u4 u5 u6 : Sl), s = [.va (pl p), .ow (dQ .int ((countsR p it0).foldl wayStep (lawWaysN p it0))), .va (.int it0), .va (rowD (row p it0)), u4, u5, u6]) (js_for (vs := [4]) PassesOwn.never rfl (ji_tup (je_var 3 rfl (.inl rfl) rfl)) (fun i s => ∃ (u4 u5 u6 : Sl), s = [.va (pl p), .ow (dQ .int (((countsR p it0).take i).foldl wayStep (lawWaysN p it0))), .va (.int it0), .va (rowD (row p it0)), u4, u5, u6]) (⟨_, _, _, rfl⟩) (fun it1 d s hd hi => ?_) (fun s hi => ?_)) ?_
      · obtain ⟨u4, u5, u6, rfl⟩ := hi
        obtain ⟨b, hb, rfl⟩ := map_get hd
        have hcb : (countsR p it0)[it1]? = some (b, (it0 : Int) - b) := line_at (k := (it0 : Int)) hb
        have hk := row_here hp hlt hcb
        refine ⟨_, (jg_name 4 nd rfl (.inl rfl)), ?_⟩
        refine jss_cons (fun s => s = _) (js_set 5 nd rfl (.inl rfl) (je_ixQ (f := D.int) hr (je_ow 1 rfl (.inl rfl) rfl) (je_pr (ja_cons (je_var 4 rfl (.inl rfl) rfl) (ja_cons (je_sub (je_var 2 rfl (.inl rfl) rfl) (je_var 4 rfl (.inl rfl) rfl)) ja_nil))) (by exact hk.1) ((fun _ => rfl) _)) rfl) ?_
        rintro _ rfl
        refine jss_cons (fun s => ∃ (u6 : Sl), s = [.va (pl p), .ow (dQ .int ([kidB (b, (it0 : Int) - b), kidG (b, (it0 : Int) - b)].foldl (fun k f => dadd k f (way p (0, 0) (b, (it0 : Int) - b))) (((countsR p it0).take it1).foldl wayStep (lawWaysN p it0)))), .va (.int it0), .va (rowD (row p it0)), .va (.int b), .va (.int (way p (0, 0) (b, (it0 : Int) - b))), u6]) (js_for (vs := [6]) PassesOwn.never rfl (ji_tup (je_tupM (f := fr) (jaM_cons (je_pr (ja_cons (je_add (je_var 4 rfl (.inl rfl) rfl) je_int) (ja_cons (je_sub (je_var 2 rfl (.inl rfl) rfl) (je_var 4 rfl (.inl rfl) rfl)) ja_nil))) (jaM_cons (je_pr (ja_cons (je_var 4 rfl (.inl rfl) rfl) (ja_cons (je_add (je_sub (je_var 2 rfl (.inl rfl) rfl) (je_var 4 rfl (.inl rfl) rfl)) je_int) ja_nil))) jaM_nil)))) (fun i s => ∃ (u6 : Sl), s = [.va (pl p), .ow (dQ .int (([kidB (b, (it0 : Int) - b), kidG (b, (it0 : Int) - b)].take i).foldl (fun k f => dadd k f (way p (0, 0) (b, (it0 : Int) - b))) (((countsR p it0).take it1).foldl wayStep (lawWaysN p it0)))), .va (.int it0), .va (rowD (row p it0)), .va (.int b), .va (.int (way p (0, 0) (b, (it0 : Int) - b))), u6]) (⟨_, rfl⟩) (fun it d s hd hi => ?_) (fun s hi => ?_)) ?_
        · obtain ⟨u6, rfl⟩ := hi
          obtain ⟨x, hx, rfl⟩ := map_get (xs := [kidB (b, (it0 : Int) - b), kidG (b, (it0 : Int) - b)]) hd
          refine ⟨_, (jg_name 6 nd rfl (.inl rfl)), ?_⟩
          refine jss_cons (fun s => s = _) (js_putQ (f := D.int) 1 hr rfl (.inl rfl) rfl (je_add (je_getQ (f := D.int) hr (je_ow 1 rfl (.inl rfl) rfl) (je_var 6 rfl (.inl rfl) rfl) je_int (fun _ => rfl)) (je_var 5 rfl (.inl rfl) rfl)) (je_var 6 rfl (.inl rfl) rfl) (by exact small_lt (by have := fold_dadd (w := way p (0, 0) (b, (it0 : Int) - b)) ([kidB (b, (it0 : Int) - b), kidG (b, (it0 : Int) - b)].take it) (((countsR p it0).take it1).foldl wayStep (lawWaysN p it0)); rw [List.length_take] at this; have h9 : [kidB (b, (it0 : Int) - b), kidG (b, (it0 : Int) - b)].length = 2 := rfl; rw [h9] at this; have := hk.2.1; omega)) rfl) ?_
          rintro _ rfl
          exact jss_nil ⟨_, by rw [fold_take hx]; rfl⟩
        · exact hi
        rintro _ ⟨u6, rfl⟩
        exact jss_nil ⟨_, _, _, by rw [fold_take hcb, ← wayStep_eq hk.1]⟩
      · rw [List.length_map, show (row p it0).length = (countsR p it0).length from (lineQ_len _ _).symm, List.take_length] at hi; exact hi
      rintro _ ⟨u4, u5, u6, rfl⟩
      exact jss_nil ⟨_, _, _, _, _, by rw [lawWaysN_succ]⟩
    · rw [List.length_map, enumT_len] at hi; exact hi
    rintro _ ⟨u2, u3, u4, u5, u6, rfl⟩
    exact jss_one (js_retO 1 rfl (.inl rfl) rfl (by first | exact rfl | exact .inl rfl | exact .inr rfl))
abbrev F_law : FS := fun ds o => ∃ ns : List Int, ds = [.fro (ns.map .int)] ∧ ns.length ≤ 63 ∧ o = .ok (.bl true)
theorem law_holds (ns : List Int) (h : ns.length ≤ 63) : F_law [.fro (ns.map .int)] (.ok (.bl true)) := ⟨ns, rfl, h, rfl⟩
theorem sc_law : FnScope ["_law_script", "_law_most_here", "_law_plan_here", "_law_known", "_law_counts", "_law_last", "_law_found", "_law_told", "_law_draws", "_law_bad", "_law_on", "_law_due", "_law_good"] ["_law_script"] (defScope s_law) := ⟨rfl, rfl, rfl, by decide +kernel, rfl, by decide +kernel, by decide +kernel⟩
set_option maxHeartbeats 4000000 in
theorem ok_law (T : Glo K mg) : FnOk P w K mg base CX0 4 T.f_law T.d_law ["_law_script"] (spF K F_law) := by
  refine fn_ok T.F_law sc_law (fun ds o h => ?_) (fun ds c h => ?_) (fun cdv A outer s H E hr B ds o h => ?_)
  · obtain ⟨ns, rfl, hl, rfl⟩ := h
    rfl
  · obtain ⟨ns, rfl, hl, ho⟩ := h
    cases ho
  · obtain ⟨ns, rfl, hl, rfl⟩ := h
    obtain ⟨m, hm⟩ : ∃ m, m = (if decide (cell ns 1 / 1000 % 4 = 1) = true then 24 else lawMost (cell ns 1)) := ⟨_, rfl⟩
    have m0 := lawMost_ok (cell ns 1)
    have hm1 : 1 ≤ m ∧ m ≤ 24 := (by rw [hm]; split <;> omega)
    obtain ⟨P, hP⟩ : ∃ P, P = lawPlan (cell ns 0) m := ⟨_, rfl⟩
    have pO := (lawPlan_ok (cell ns 0) hm1.1 hm1.2).1
    rw [← hP] at pO
    have p24 := pO.len
    have hEl := (endsIn pO).le
    have hEl4 : (endsQ P).length ≤ 10000 := (by omega)
    have hWl : (lawWays P).length ≤ 2000 := (by have h1 := (dinv_rows pO P.length).len; have h2 := countsN_len pO P.length; show (lawWaysN P P.length).length ≤ _; omega)
    have hCl : (comeTo P).length ≤ 10000 := (by have := comeN_len pO P.length; show (comeN P P.length).length ≤ _; omega)
    have nd := (sc_law).nd
    refine jss_cons (fun s => s = _) (js_set 1 nd rfl (.inl rfl) (je_call (ok__law_most T) (hr.mono (by decide)) (by rfl) T.g__law_most T.F__law_most.kp T.b__law_most pass0 (ja_cons (je_call (ok__law_cell T) (hr.mono (by decide)) (by rfl) T.g__law_cell T.F__law_cell.kp T.b__law_cell pass0 (ja_cons (je_var 0 rfl (.inl rfl) rfl) (ja_cons je_int ja_nil)) (⟨_, _, rfl, (by first | assumption | decide | omega), rfl⟩)) ja_nil) (⟨_, rfl, rfl⟩)) rfl) ?_
    rintro _ rfl
    refine jss_ifsetI 1 nd rfl (.inl rfl) (jt_eqI (je_mod (je_div (je_call (ok__law_cell T) (hr.mono (by decide)) (by rfl) T.g__law_cell T.F__law_cell.kp T.b__law_cell pass0 (ja_cons (je_var 0 rfl (.inl rfl) rfl) (ja_cons je_int ja_nil)) (⟨_, _, rfl, (by first | assumption | decide | omega), rfl⟩)) je_int (by first | exact divK (by decide) (by decide) | exact divK (by decide) (by decide +kernel))) je_int (by first | decide | omega)) je_int) (fun hi1 => je_int) rfl ?_
    skip
    refine jss_eq (sl' := [_, .va (.int m), _, _, _, _, _, _, _, _, _, _, _]) (by rw [hm]; rfl) ?_
    refine jss_cons (fun s => s = _) (js_set 2 nd rfl (.inl rfl) (je_call (ok__law_plan T) (hr.mono (by decide)) (by rfl) T.g__law_plan T.F__law_plan.kp T.b__law_plan pass0 (ja_cons (je_call (ok__law_cell T) (hr.mono (by decide)) (by rfl) T.g__law_cell T.F__law_cell.kp T.b__law_cell pass0 (ja_cons (je_var 0 rfl (.inl rfl) rfl) (ja_cons je_int ja_nil)) (⟨_, _, rfl, (by first | assumption | decide | omega), rfl⟩)) (ja_cons (je_var 1 rfl (.inl rfl) rfl) ja_nil)) (⟨_, _, rfl, hm1.1, hm1.2, rfl⟩)) rfl) ?_
    rintro _ rfl
    skip
    refine jss_eq (sl' := [_, _, .va (pl P), _, _, _, _, _, _, _, _, _, _]) (by rw [hP]; rfl) ?_
    refine jss_cons (fun s => s = _) (js_set 3 nd rfl (.inl rfl) (JF.je (jf_sort3 (by rfl) T.m_sorted (ja_cons (JF.je (jf_lc0 (en := (pr3 D.int D.int D.int)) rfl nd (blkOk_by (own := [("_law_bad", 9), ("_law_good", 12)]) (N := ["_law_script", "_law_most_here", "_law_plan_here", "_law_known", "_law_counts", "_law_last", "_law_found", "_law_told", "_law_draws", "_law_bad", "_law_on", "_law_due", "_law_good"]) (sc := defScope s_law) (by decide +kernel)) (ji_keysM (f := D.int) (jf_callI (m := false) (ok__law_ways T) (hr.mono (by decide)) (by rfl) T.g__law_ways T.F__law_ways.kp T.b__law_ways pass0 (ja_cons (je_var 2 rfl (.inl rfl) rfl) ja_nil) (⟨_, rfl, (by assumption), rfl⟩) (by exact imm_dQ (fun _ => rfl) _))) (fun x1 hx1 => ⟨_, fun _ _ _ _ _ _ _ => jg_tup rfl (jgs_cons (jg_name 9 nd rfl (.inl rfl)) (jgs_cons (jg_name 12 nd rfl (.inl rfl)) jgs_nil)) rfl, fun _ _ _ _ _ _ _ => (je_pr3 (f := D.int) (g := D.int) (h := D.int) (ja_cons (je_add (je_var 9 rfl (.inl rfl) rfl) (je_var 12 rfl (.inl rfl) rfl)) (ja_cons (je_var 9 rfl (.inl rfl) rfl) (ja_cons (je_var 12 rfl (.inl rfl) rfl) ja_nil))))⟩) (by exact small_len (by first | omega | (rw [List.length_map]; omega) | (show (lawWays P).length ≤ _; omega))))) ja_nil) (by intro c hc; obtain ⟨q, _, rfl⟩ := List.mem_map.mp hc; dsimp only; omega) (by exact fun l h1 h2 => ways_sorted pO l h1 h2))) rfl) ?_
    rintro _ rfl
    refine jss_cons (fun s => s = _) (js_lc0 (en := fr) false 4 rfl nd rfl rfl (sw_true rfl rfl rfl (by decide +kernel)) (blkOk_by (own := [("_law_draws", 8), ("_law_bad", 9), ("_law_good", 12)]) (N := ["_law_script", "_law_most_here", "_law_plan_here", "_law_known", "_law_counts", "_law_last", "_law_found", "_law_told", "_law_draws", "_law_bad", "_law_on", "_law_due", "_law_good"]) (sc := defScope s_law) (by decide +kernel)) (ji_list (je_var 3 rfl (.inl rfl) rfl) (.lst _)) (fun x2 hx2 => ⟨_, fun _ _ _ _ _ _ _ => jg_tup rfl (jgs_cons (jg_name 8 nd rfl (.inl rfl)) (jgs_cons (jg_name 9 nd rfl (.inl rfl)) (jgs_cons (jg_name 12 nd rfl (.inl rfl)) jgs_nil))) rfl, fun _ _ _ _ _ _ _ => (je_pr (ja_cons (je_var 9 rfl (.inl rfl) rfl) (ja_cons (je_var 12 rfl (.inl rfl) rfl) ja_nil)))⟩) (by exact small_len (by first | omega | (rw [List.length_map]; omega) | (show (lawWays P).length ≤ _; omega))) rfl) ?_
    rintro _ rfl
    have hct : ((comeTo P).map triQ).map (fun x2 : Int × Int × Int => (x2.2.1, x2.2.2)) = comeTo P := (by rw [List.map_map]; exact List.map_id _)
    refine jss_eq (sl' := [_, _, _, _, .va (.lst ((comeTo P).map fr)), _, _, _, _, _, _, _, _]) (by rw [hct]; rfl) ?_
    refine jss_cons (fun s => s = _) (js_set 5 nd rfl (.inl rfl) (JF.je (jf_callI (m := false) (ok__law_ends T) (hr.mono (by decide)) (by rfl) T.g__law_ends T.F__law_ends.kp T.b__law_ends pass0 (ja_cons (je_var 2 rfl (.inl rfl) rfl) ja_nil) (⟨_, rfl, (by assumption), rfl⟩) (by exact immL_map (fun _ => rfl) _))) rfl) ?_
    rintro _ rfl
    refine jss_cons (fun s => s = _) (js_setF 6 nd rfl (.inl rfl) (jf_callI (m := false) (ok_come_to T) (hr.mono (by decide)) (by rfl) T.g_come_to T.F_come_to.kp T.b_come_to pass0 (ja_cons (je_var 2 rfl (.inl rfl) rfl) ja_nil) (⟨_, rfl, (by assumption), rfl⟩) (by exact immL_map (fun _ => rfl) _)) rfl) ?_
    rintro _ rfl
    refine jss_cons (fun s => s = _) (js_setF 7 nd rfl (.inl rfl) (jf_callI (m := false) (ok_ends T) (hr.mono (by decide)) (by rfl) T.g_ends T.F_ends.kp T.b_ends pass0 (ja_cons (je_var 2 rfl (.inl rfl) rfl) ja_nil) (⟨_, rfl, (by assumption), rfl⟩) (by exact immL_map (fun _ => rfl) _)) rfl) ?_
    rintro _ rfl
    refine jss_ifr (JW.jt (jw_or (jt_not (jt_val (je_call (ok__law_same T) (hr.mono (by decide)) (by rfl) T.g__law_same T.F__law_same.kp T.b__law_same pass0 (ja_cons (je_ow 6 rfl (.inl rfl) rfl) (ja_cons (je_var 4 rfl (.inl rfl) rfl) ja_nil)) (⟨_, rfl, (by assumption), rfl⟩)))) (fun h1 => (jw_or1 (jt_not (jt_val (je_call (ok__law_same T) (hr.mono (by decide)) (by rfl) T.g__law_same T.F__law_same.kp T.b__law_same pass0 (ja_cons (je_ow 7 rfl (.inl rfl) rfl) (ja_cons (je_var 5 rfl (.inl rfl) rfl) ja_nil)) (⟨_, rfl, (by assumption), rfl⟩)))))))) (fun hi2 => ?_) (fun hi2 => ?_)
    · exact absurd hi2 (by simp)
    · skip
      refine jss_cons (fun s => s = _) (js_meth0 6 PySem.F.slot_list_reverse PySem.F.type_list_reverse mt_reverse rfl (.inl rfl) rfl (mu_revM (f := fr)) rfl) ?_
      rintro _ rfl
      refine jss_cons (fun s => s = _) (js_meth0 7 PySem.F.slot_list_clear PySem.F.type_list_clear mt_clear rfl (.inl rfl) rfl mu_clr rfl) ?_
      rintro _ rfl
      refine jss_cons (fun s => ∃ (u1 u3 u6 u7 u8 u9 u10 u11 u12 : Sl), s = [.va (.fro (ns.map .int)), u1, .va (pl P), u3, .va (.lst ((comeTo P).map fr)), .va (.lst ((endsQ P).map fr)), u6, u7, u8, u9, u10, u11, u12]) (js_for (vs := [8]) PassesOwn.never rfl (ji_rngT (ji_rng1 (by rfl) T.m_range (ja_cons (je_add (je_lenTM (f := (fun xs => D.tup (List.map D.int xs))) (by rfl) T.m_len (ja_cons (je_var 2 rfl (.inl rfl) rfl) ja_nil)) je_int) ja_nil) (by omega) (by omega))) (fun i s => ∃ (u1 u3 u6 u7 u8 u9 u10 u11 u12 : Sl), s = [.va (.fro (ns.map .int)), u1, .va (pl P), u3, .va (.lst ((comeTo P).map fr)), .va (.lst ((endsQ P).map fr)), u6, u7, u8, u9, u10, u11, u12]) (⟨_, _, _, _, _, _, _, _, _, rfl⟩) (fun it0 d s hd hi => ?_) (fun s hi => ?_)) ?_
      · obtain ⟨u1, u3, u6, u7, u8, u9, u10, u11, u12, rfl⟩ := hi
        obtain ⟨_, hz, rfl⟩ := map_get hd
        obtain ⟨rfl, hk⟩ := rngT_get0 hz
        refine ⟨_, (jg_name 8 nd rfl (.inl rfl)), ?_⟩
        refine jss_cons (fun s => ∃ (u1 u3 u6 u7 u8 u9 u10 u11 u12 : Sl), s = [.va (.fro (ns.map .int)), u1, .va (pl P), u3, .va (.lst ((comeTo P).map fr)), .va (.lst ((endsQ P).map fr)), u6, u7, u8, u9, u10, u11, u12]) (js_for (vs := [9]) PassesOwn.never rfl (ji_rngT (ji_rng1 (by rfl) T.m_range (ja_cons (je_add (je_var 8 rfl (.inl rfl) rfl) je_int) ja_nil) (by omega) (by omega))) (fun i s => ∃ (u1 u3 u6 u7 u9 u10 u11 u12 : Sl), s = [.va (.fro (ns.map .int)), u1, .va (pl P), u3, .va (.lst ((comeTo P).map fr)), .va (.lst ((endsQ P).map fr)), u6, u7, .va (.int it0), u9, u10, u11, u12]) (⟨_, _, _, _, _, _, _, _, rfl⟩) (fun it d s hd hi => ?_) (fun s hi => ?_)) ?_
        · obtain ⟨u1, u3, u6, u7, u9, u10, u11, u12, rfl⟩ := hi
          obtain ⟨_, hz, rfl⟩ := map_get hd
          obtain ⟨rfl, hk⟩ := rngT_get0 hz
          have hle := last_eq pO (b := (it : Int)) (k := it0) (by omega) (by omega)
          refine ⟨_, (jg_name 9 nd rfl (.inl rfl)), ?_⟩
          refine jss_cons (fun s => s = _) (js_set 10 nd rfl (.inl rfl) (je_call (ok_goes_on T) (hr.mono (by decide)) (by rfl) T.g_goes_on T.F_goes_on.kp T.b_goes_on pass0 (ja_cons (je_var 2 rfl (.inl rfl) rfl) (ja_cons (je_pr (ja_cons (je_var 9 rfl (.inl rfl) rfl) (ja_cons (je_sub (je_var 8 rfl (.inl rfl) rfl) (je_var 9 rfl (.inl rfl) rfl)) ja_nil))) ja_nil)) (⟨_, _, rfl, pO, (by dsimp only; omega), rfl⟩)) rfl) ?_
          rintro _ rfl
          refine jss_cons (fun s => s = _) (js_set 11 nd rfl (.inl rfl) (je_lt (je_var 8 rfl (.inl rfl) rfl) (je_lenTM (f := (fun xs => D.tup (List.map D.int xs))) (by rfl) T.m_len (ja_cons (je_var 2 rfl (.inl rfl) rfl) ja_nil))) rfl) ?_
          rintro _ rfl
          refine jss_ifd (jt_val (je_var 11 rfl (.inl rfl) rfl)) (fun hi3 => ?_) (fun hi3 => ?_)
          · have h9 := of_decide_eq_true hi3
            rw [decide_eq_true h9, Bool.true_and] at hle
            refine jss_cons (fun s => s = _) (js_set 11 nd rfl (.inl rfl) (je_inUI (by rfl) (je_var 9 rfl (.inl rfl) rfl) (je_ixMT (f := (fun xs => D.tup (List.map D.int xs))) [] (je_var 2 rfl (.inl rfl) rfl) (je_var 8 rfl (.inl rfl) rfl) (by omega) (by omega))) rfl) ?_
            rintro _ rfl
            refine jss_nil ?_
            refine jss_ifr (JW.jt (jw_or (jt_not (jt_val (je_isi (r := true) (by rfl) T.m_isinstance (by rfl) T.m_bool boot_bool (je_var 10 rfl (.inl rfl) rfl) (by exact isi_bool_bool)))) (fun h2 => (jw_or1 (jt_neB (je_var 10 rfl (.inl rfl) rfl) (je_var 11 rfl (.inl rfl) rfl)))))) (fun hi4 => ?_) (fun hi4 => ?_)
            · exact absurd hi4 (by first | (rw [← hle]; simp; done) | (rw [← hle, hi3]; simp; done))
            · skip
              exact jss_nil ⟨_, _, _, _, _, _, _, _, rfl⟩
          · rw [hi3, Bool.false_and] at hle
            refine jss_nil ?_
            refine jss_ifr (JW.jt (jw_or (jt_not (jt_val (je_isi (r := true) (by rfl) T.m_isinstance (by rfl) T.m_bool boot_bool (je_var 10 rfl (.inl rfl) rfl) (by exact isi_bool_bool)))) (fun h3 => (jw_or1 (jt_neB (je_var 10 rfl (.inl rfl) rfl) (je_var 11 rfl (.inl rfl) rfl)))))) (fun hi4 => ?_) (fun hi4 => ?_)
            · exact absurd hi4 (by first | (rw [← hle]; simp; done) | (rw [← hle, hi3]; simp; done))
            · skip
              exact jss_nil ⟨_, _, _, _, _, _, _, _, rfl⟩
        · obtain ⟨u1, u3, u6, u7, u9, u10, u11, u12, rfl⟩ := hi; exact ⟨_, _, _, _, _, _, _, _, _, rfl⟩
        rintro _ ⟨u1, u3, u6, u7, u8, u9, u10, u11, u12, rfl⟩
        exact jss_nil ⟨_, _, _, _, _, _, _, _, _, rfl⟩
      · exact hi
      rintro _ ⟨u1, u3, u6, u7, u8, u9, u10, u11, u12, rfl⟩
      exact jss_one (js_ret (m := true) (je_and (je_call (ok__law_same T) (hr.mono (by decide)) (by rfl) T.g__law_same T.F__law_same.kp T.b__law_same pass0 (ja_cons (JF.je (jf_callI (m := false) (ok_come_to T) (hr.mono (by decide)) (by rfl) T.g_come_to T.F_come_to.kp T.b_come_to pass0 (ja_cons (je_var 2 rfl (.inl rfl) rfl) ja_nil) (⟨_, rfl, (by assumption), rfl⟩) (by exact immL_map (fun _ => rfl) _))) (ja_cons (je_var 4 rfl (.inl rfl) rfl) ja_nil)) (⟨_, rfl, (by assumption), rfl⟩)) (fun h4 => (je_one (je_call (ok__law_same T) (hr.mono (by decide)) (by rfl) T.g__law_same T.F__law_same.kp T.b__law_same pass0 (ja_cons (JF.je (jf_callI (m := false) (ok_ends T) (hr.mono (by decide)) (by rfl) T.g_ends T.F_ends.kp T.b_ends pass0 (ja_cons (je_var 2 rfl (.inl rfl) rfl) ja_nil) (⟨_, rfl, (by assumption), rfl⟩) (by exact immL_map (fun _ => rfl) _))) (ja_cons (je_var 5 rfl (.inl rfl) rfl) ja_nil)) (⟨_, rfl, (by assumption), rfl⟩))))) (by first | exact rfl | assumption))
end
end PD
namespace PD
open PySem PySem.Spec PyProof.Rows L2
variable [TN]
set_option maxHeartbeats 0 in
theorem all_mk {l : PySem.W.OpenLaw} {w : World} {K : PySem.W.Frag} {h : Heap} {mg : Str → Option Value} {fa : Addr} (X : K.In h) (G : h.Ns mainGlobals mg) (hfa : mg "law" = some (.ref fa))
    {f0 : Addr} {od0 an0 : Option Addr} {sl0 : Array (Option Value)} {oc0 kV0 dc0 pm0 cd0 ct0 : Value}
    (a0 : PySem.W.nsIn K mainGlobals "_law_most" = some (some (.ref f0))) (l0 : K.lookup f0 = some ⟨oc0, od0, .func (PySem.W.fnOf "_law_most" "_law_most" (defArgs s__law_most) (defBody s__law_most) (defScope s__law_most) .none kV0 dc0 pm0 an0 cd0 ct0), sl0⟩) (c0 : PySem.W.codeIn K cd0 "_law_most" = true) (k0 : PySem.W.keepIn K (.ref f0) = true)
    {f1 : Addr} {od1 an1 : Option Addr} {sl1 : Array (Option Value)} {oc1 kV1 dc1 pm1 cd1 ct1 : Value}
    (a1 : PySem.W.nsIn K mainGlobals "_law_mixes" = some (some (.ref f1))) (l1 : K.lookup f1 = some ⟨oc1, od1, .func (PySem.W.fnOf "_law_mixes" "_law_mixes" (defArgs s__law_mixes) (defBody s__law_mixes) (defScope s__law_mixes) .none kV1 dc1 pm1 an1 cd1 ct1), sl1⟩) (c1 : PySem.W.codeIn K cd1 "_law_mixes" = true) (k1 : PySem.W.keepIn K (.ref f1) = true)
    {f2 : Addr} {od2 an2 : Option Addr} {sl2 : Array (Option Value)} {oc2 kV2 dc2 pm2 cd2 ct2 : Value}
    (a2 : PySem.W.nsIn K mainGlobals "_law_digits" = some (some (.ref f2))) (l2 : K.lookup f2 = some ⟨oc2, od2, .func (PySem.W.fnOf "_law_digits" "_law_digits" (defArgs s__law_digits) (defBody s__law_digits) (defScope s__law_digits) .none kV2 dc2 pm2 an2 cd2 ct2), sl2⟩) (c2 : PySem.W.codeIn K cd2 "_law_digits" = true) (k2 : PySem.W.keepIn K (.ref f2) = true)
    {f3 : Addr} {od3 an3 : Option Addr} {sl3 : Array (Option Value)} {oc3 kV3 dc3 pm3 cd3 ct3 : Value}
    (a3 : PySem.W.nsIn K mainGlobals "_law_plan" = some (some (.ref f3))) (l3 : K.lookup f3 = some ⟨oc3, od3, .func (PySem.W.fnOf "_law_plan" "_law_plan" (defArgs s__law_plan) (defBody s__law_plan) (defScope s__law_plan) .none kV3 dc3 pm3 an3 cd3 ct3), sl3⟩) (c3 : PySem.W.codeIn K cd3 "_law_plan" = true) (k3 : PySem.W.keepIn K (.ref f3) = true)
    {f4 : Addr} {od4 an4 : Option Addr} {sl4 : Array (Option Value)} {oc4 kV4 dc4 pm4 cd4 ct4 : Value}
    (a4 : PySem.W.nsIn K mainGlobals "_law_ends" = some (some (.ref f4))) (l4 : K.lookup f4 = some ⟨oc4, od4, .func (PySem.W.fnOf "_law_ends" "_law_ends" (defArgs s__law_ends) (defBody s__law_ends) (defScope s__law_ends) .none kV4 dc4 pm4 an4 cd4 ct4), sl4⟩) (c4 : PySem.W.codeIn K cd4 "_law_ends" = true) (k4 : PySem.W.keepIn K (.ref f4) = true)
    {f5 : Addr} {od5 an5 : Option Addr} {sl5 : Array (Option Value)} {oc5 kV5 dc5 pm5 cd5 ct5 : Value}
    (a5 : PySem.W.nsIn K mainGlobals "next_bad" = some (some (.ref f5))) (l5 : K.lookup f5 = some ⟨oc5, od5, .func (PySem.W.fnOf "next_bad" "next_bad" (defArgs s_next_bad) (defBody s_next_bad) (defScope s_next_bad) .none kV5 dc5 pm5 an5 cd5 ct5), sl5⟩) (c5 : PySem.W.codeIn K cd5 "next_bad" = true) (k5 : PySem.W.keepIn K (.ref f5) = true)
    {f6 : Addr} {od6 an6 : Option Addr} {sl6 : Array (Option Value)} {oc6 kV6 dc6 pm6 cd6 ct6 : Value}
    (a6 : PySem.W.nsIn K mainGlobals "come_to" = some (some (.ref f6))) (l6 : K.lookup f6 = some ⟨oc6, od6, .func (PySem.W.fnOf "come_to" "come_to" (defArgs s_come_to) (defBody s_come_to) (defScope s_come_to) .none kV6 dc6 pm6 an6 cd6 ct6), sl6⟩) (c6 : PySem.W.codeIn K cd6 "come_to" = true) (k6 : PySem.W.keepIn K (.ref f6) = true)
    {f7 : Addr} {od7 an7 : Option Addr} {sl7 : Array (Option Value)} {oc7 kV7 dc7 pm7 cd7 ct7 : Value}
    (a7 : PySem.W.nsIn K mainGlobals "goes_on" = some (some (.ref f7))) (l7 : K.lookup f7 = some ⟨oc7, od7, .func (PySem.W.fnOf "goes_on" "goes_on" (defArgs s_goes_on) (defBody s_goes_on) (defScope s_goes_on) .none kV7 dc7 pm7 an7 cd7 ct7), sl7⟩) (c7 : PySem.W.codeIn K cd7 "goes_on" = true) (k7 : PySem.W.keepIn K (.ref f7) = true)
    {f8 : Addr} {od8 an8 : Option Addr} {sl8 : Array (Option Value)} {oc8 kV8 dc8 pm8 cd8 ct8 : Value}
    (a8 : PySem.W.nsIn K mainGlobals "ends" = some (some (.ref f8))) (l8 : K.lookup f8 = some ⟨oc8, od8, .func (PySem.W.fnOf "ends" "ends" (defArgs s_ends) (defBody s_ends) (defScope s_ends) .none kV8 dc8 pm8 an8 cd8 ct8), sl8⟩) (c8 : PySem.W.codeIn K cd8 "ends" = true) (k8 : PySem.W.keepIn K (.ref f8) = true)
    {f9 : Addr} {od9 an9 : Option Addr} {sl9 : Array (Option Value)} {oc9 kV9 dc9 pm9 cd9 ct9 : Value}
    (a9 : PySem.W.nsIn K mainGlobals "_law_cell" = some (some (.ref f9))) (l9 : K.lookup f9 = some ⟨oc9, od9, .func (PySem.W.fnOf "_law_cell" "_law_cell" (defArgs s__law_cell) (defBody s__law_cell) (defScope s__law_cell) .none kV9 dc9 pm9 an9 cd9 ct9), sl9⟩) (c9 : PySem.W.codeIn K cd9 "_law_cell" = true) (k9 : PySem.W.keepIn K (.ref f9) = true)
    {f10 : Addr} {od10 an10 : Option Addr} {sl10 : Array (Option Value)} {oc10 kV10 dc10 pm10 cd10 ct10 : Value}
    (a10 : PySem.W.nsIn K mainGlobals "_law_same" = some (some (.ref f10))) (l10 : K.lookup f10 = some ⟨oc10, od10, .func (PySem.W.fnOf "_law_same" "_law_same" (defArgs s__law_same) (defBody s__law_same) (defScope s__law_same) .none kV10 dc10 pm10 an10 cd10 ct10), sl10⟩) (c10 : PySem.W.codeIn K cd10 "_law_same" = true) (k10 : PySem.W.keepIn K (.ref f10) = true)
    {f11 : Addr} {od11 an11 : Option Addr} {sl11 : Array (Option Value)} {oc11 kV11 dc11 pm11 cd11 ct11 : Value}
    (a11 : PySem.W.nsIn K mainGlobals "_law_ways" = some (some (.ref f11))) (l11 : K.lookup f11 = some ⟨oc11, od11, .func (PySem.W.fnOf "_law_ways" "_law_ways" (defArgs s__law_ways) (defBody s__law_ways) (defScope s__law_ways) .none kV11 dc11 pm11 an11 cd11 ct11), sl11⟩) (c11 : PySem.W.codeIn K cd11 "_law_ways" = true) (k11 : PySem.W.keepIn K (.ref f11) = true)
    {f12 : Addr} {od12 an12 : Option Addr} {sl12 : Array (Option Value)} {oc12 kV12 dc12 pm12 cd12 ct12 : Value}
    (a12 : PySem.W.nsIn K mainGlobals "law" = some (some (.ref f12))) (l12 : K.lookup f12 = some ⟨oc12, od12, .func (PySem.W.fnOf "law" "law" (defArgs s_law) (defBody s_law) (defScope s_law) .none kV12 dc12 pm12 an12 cd12 ct12), sl12⟩) (c12 : PySem.W.codeIn K cd12 "law" = true) (k12 : PySem.W.keepIn K (.ref f12) = true)
    (z0 : PySem.W.nsIn K mainGlobals "range" = some none)
    (z1 : PySem.W.nsIn K mainGlobals "tuple" = some none)
    (z2 : PySem.W.nsIn K mainGlobals "abs" = some none)
    (z3 : PySem.W.nsIn K mainGlobals "sorted" = some none)
    (z4 : PySem.W.nsIn K mainGlobals "int" = some none)
    (z5 : PySem.W.nsIn K mainGlobals "len" = some none)
    (z6 : PySem.W.nsIn K mainGlobals "set" = some none)
    (z7 : PySem.W.nsIn K mainGlobals "enumerate" = some none)
    (z8 : PySem.W.nsIn K mainGlobals "max" = some none)
    (z9 : PySem.W.nsIn K mainGlobals "list" = some none)
    (z10 : PySem.W.nsIn K mainGlobals "zip" = some none)
    (z11 : PySem.W.nsIn K mainGlobals "isinstance" = some none)
    (z12 : PySem.W.nsIn K mainGlobals "all" = some none)
    (z13 : PySem.W.nsIn K mainGlobals "bool" = some none) :
    ∃ fd : FuncData, (∀ (s : Shared) (v : Value), BindsTo s fd ⟨[v], []⟩ [("_law_script", v)]) ∧ ∀ base : Heap, K.In base → base.Ns mainGlobals mg → FnOk l.prog w K mg base CX0 4 fa fd ["_law_script"] (spF K F_law) := by
  have e := hfa.symm.trans (PySem.W.mg_of X G a12)
  cases e
  have F0 := fun_mk (st := s__law_most) l0 c0 k0
  have b0 := F0.binds (ps := ["_law_cell_here"]) fun _ _ _ _ _ _ us hl => match us, hl with | [_], _ => rfl
  have F1 := fun_mk (st := s__law_mixes) l1 c1 k1
  have b1 := F1.binds (ps := ["_law_cell_here", "_law_base", "_law_many"]) fun _ _ _ _ _ _ us hl => match us, hl with | [_, _, _], _ => rfl
  have F2 := fun_mk (st := s__law_digits) l2 c2 k2
  have b2 := F2.binds (ps := ["_law_cell_here", "_law_base", "_law_many"]) fun _ _ _ _ _ _ us hl => match us, hl with | [_, _, _], _ => rfl
  have F3 := fun_mk (st := s__law_plan) l3 c3 k3
  have b3 := F3.binds (ps := ["_law_cell_here", "_law_most_here"]) fun _ _ _ _ _ _ us hl => match us, hl with | [_, _], _ => rfl
  have F4 := fun_mk (st := s__law_ends) l4 c4 k4
  have b4 := F4.binds (ps := ["_law_plan_here"]) fun _ _ _ _ _ _ us hl => match us, hl with | [_], _ => rfl
  have F5 := fun_mk (st := s_next_bad) l5 c5 k5
  have b5 := F5.binds (ps := ["row"]) fun _ _ _ _ _ _ us hl => match us, hl with | [_], _ => rfl
  have F6 := fun_mk (st := s_come_to) l6 c6 k6
  have b6 := F6.binds (ps := ["plan"]) fun _ _ _ _ _ _ us hl => match us, hl with | [_], _ => rfl
  have F7 := fun_mk (st := s_goes_on) l7 c7 k7
  have b7 := F7.binds (ps := ["plan", "count"]) fun _ _ _ _ _ _ us hl => match us, hl with | [_, _], _ => rfl
  have F8 := fun_mk (st := s_ends) l8 c8 k8
  have b8 := F8.binds (ps := ["plan"]) fun _ _ _ _ _ _ us hl => match us, hl with | [_], _ => rfl
  have F9 := fun_mk (st := s__law_cell) l9 c9 k9
  have b9 := F9.binds (ps := ["_law_script", "_law_k"]) fun _ _ _ _ _ _ us hl => match us, hl with | [_, _], _ => rfl
  have F10 := fun_mk (st := s__law_same) l10 c10 k10
  have b10 := F10.binds (ps := ["_law_found", "_law_due"]) fun _ _ _ _ _ _ us hl => match us, hl with | [_, _], _ => rfl
  have F11 := fun_mk (st := s__law_ways) l11 c11 k11
  have b11 := F11.binds (ps := ["_law_plan_here"]) fun _ _ _ _ _ _ us hl => match us, hl with | [_], _ => rfl
  have F12 := fun_mk (st := s_law) l12 c12 k12
  have b12 := F12.binds (ps := ["_law_script"]) fun _ _ _ _ _ _ us hl => match us, hl with | [_], _ => rfl
  exact ⟨_, fun s v => .of_eq rfl, fun base _ _ => ok_law (⟨f0, _, F0, PySem.W.mg_of X G a0, b0,
    f1, _, F1, PySem.W.mg_of X G a1, b1,
    f2, _, F2, PySem.W.mg_of X G a2, b2,
    f3, _, F3, PySem.W.mg_of X G a3, b3,
    f4, _, F4, PySem.W.mg_of X G a4, b4,
    f5, _, F5, PySem.W.mg_of X G a5, b5,
    f6, _, F6, PySem.W.mg_of X G a6, b6,
    f7, _, F7, PySem.W.mg_of X G a7, b7,
    f8, _, F8, PySem.W.mg_of X G a8, b8,
    f9, _, F9, PySem.W.mg_of X G a9, b9,
    f10, _, F10, PySem.W.mg_of X G a10, b10,
    f11, _, F11, PySem.W.mg_of X G a11, b11,
    fa, _, F12, PySem.W.mg_of X G a12, b12,
    PySem.W.mg_none_of X G z0,
    PySem.W.mg_none_of X G z1,
    PySem.W.mg_none_of X G z2,
    PySem.W.mg_none_of X G z3,
    PySem.W.mg_none_of X G z4,
    PySem.W.mg_none_of X G z5,
    PySem.W.mg_none_of X G z6,
    PySem.W.mg_none_of X G z7,
    PySem.W.mg_none_of X G z8,
    PySem.W.mg_none_of X G z9,
    PySem.W.mg_none_of X G z10,
    PySem.W.mg_none_of X G z11,
    PySem.W.mg_none_of X G z12,
    PySem.W.mg_none_of X G z13⟩ : Glo K mg)⟩
end PD
open PySem PySem.W PyProof.Rows
set_option maxHeartbeats 0 in
theorem PySem.Challenge.cw_lotdraw_k10_ends_and_counts_holds : PySem.Challenge.rw_lotdraw_k10_ends_and_counts.Holds := by
  w_on; o_law; k_head; (case hw => w_witness2)
  k_fill
  letI : PD.TN := ⟨fun _ => ""⟩
  refine L2.walk_ofK (l := PySem.Challenge.rw_lotdraw_k10_ends_and_counts) (n := 63) (k := 4) (x := "_law_script") (CX := L2.CX0) (sp := fun K => PD.spF K PD.F_law) rfl (by decide) rfl ⟨rfl, by decide, by decide⟩ (fun w h Y => PySem.W.kIn_of Y) ?F (PD.law_end PD.law_holds) (fun _ _ _ _ h => h)
  case F =>
    intro w mg fa h KX G hmg
    refine' PD.all_mk KX G hmg ?a0 ?l0 ?c0 ?k0 ?a1 ?l1 ?c1 ?k1 ?a2 ?l2 ?c2 ?k2 ?a3 ?l3 ?c3 ?k3 ?a4 ?l4 ?c4 ?k4 ?a5 ?l5 ?c5 ?k5 ?a6 ?l6 ?c6 ?k6 ?a7 ?l7 ?c7 ?k7 ?a8 ?l8 ?c8 ?k8 ?a9 ?l9 ?c9 ?k9 ?a10 ?l10 ?c10 ?k10 ?a11 ?l11 ?c11 ?k11 ?a12 ?l12 ?c12 ?k12 ?z0 ?z1 ?z2 ?z3 ?z4 ?z5 ?z6 ?z7 ?z8 ?z9 ?z10 ?z11 ?z12 ?z13
    (case a0 => k_is); (case l0 => k_is); (case c0 => k_is); (case k0 => k_is); (case a1 => k_is); (case l1 => k_is); (case c1 => k_is); (case k1 => k_is); (case a2 => k_is); (case l2 => k_is); (case c2 => k_is); (case k2 => k_is); (case a3 => k_is); (case l3 => k_is); (case c3 => k_is); (case k3 => k_is); (case a4 => k_is); (case l4 => k_is); (case c4 => k_is); (case k4 => k_is); (case a5 => k_is); (case l5 => k_is); (case c5 => k_is); (case k5 => k_is); (case a6 => k_is); (case l6 => k_is); (case c6 => k_is); (case k6 => k_is); (case a7 => k_is); (case l7 => k_is); (case c7 => k_is); (case k7 => k_is); (case a8 => k_is); (case l8 => k_is); (case c8 => k_is); (case k8 => k_is); (case a9 => k_is); (case l9 => k_is); (case c9 => k_is); (case k9 => k_is); (case a10 => k_is); (case l10 => k_is); (case c10 => k_is); (case k10 => k_is); (case a11 => k_is); (case l11 => k_is); (case c11 => k_is); (case k11 => k_is); (case a12 => k_is); (case l12 => k_is); (case c12 => k_is); (case k12 => k_is); (case z0 => k_is); (case z1 => k_is); (case z2 => k_is); (case z3 => k_is); (case z4 => k_is); (case z5 => k_is); (case z6 => k_is); (case z7 => k_is); (case z8 => k_is); (case z9 => k_is); (case z10 => k_is); (case z11 => k_is); (case z12 => k_is); (case z13 => k_is)
