import PyProof.Rows.All
import Wide.All
import OpenK.AllK
import Wide.FinOn
import HandS.ForMost
import HandS.Wide
import HandS.IsInst
import HandS.Deep
import PySem.Challenge.RW_lotdraw_k46_ratios
set_option Elab.async false
set_option linter.all false
set_option maxRecDepth 100000
set_option maxHeartbeats 4000000
set_option autoImplicit false
namespace PD
open PySem PySem.Spec PyProof.Rows L2

inductive D where
  | non | bl (b : Bool) | int (i : Int) | str (x : Str) | tup (l : List D) | lst (l : List D) | fro (l : List D) | dct (ks : List (List Int)) (vs : List D)

/-- a list, a tuple that stands in the written part -/
def KLst (K : PySem.W.Frag) (a : Addr) (xs : List V) : Prop :=
  ∃ (o : Obj) (its : Array Value) (n : Nat), K.lookup a = some o ∧ o.cls = .type "list" ∧ o.dict = none ∧ o.data = .seq its n ∧ its.size ≤ sizeLine ∧ Vals xs its.toList
def dkeys (ks : List (List Int)) : List (List Key) := ks.map (·.map Sum.inl)

mutual
/-- v stands for d in the heap H; no list or dict of it stands at an address of A -/
def Rp (K : PySem.W.Frag) (A : Addr → Prop) (H : Hp) : D → V → Prop
  | .non, v => v = .non
  | .bl b, v => v = .bl b
  | .int i, v => v = .int i
  | .str x, v => v = .str x
  | .tup ds, v => ∃ a xs, v = .ref a ∧ H a = some (.tup xs) ∧ RpL K A H ds xs
  | .lst ds, v => ∃ a xs, v = .ref a ∧ H a = some (.lst xs) ∧ ¬ A a ∧ RpL K A H ds xs
  | .fro ds, v => ∃ a xs, v = .ref a ∧ ((∃ o, H a = some (.frz o (.lst xs))) ∨ KLst K a xs) ∧ RpL K A H ds xs
  | .dct ks ds, v => ∃ a xs, v = .ref a ∧ H a = some (.dT ((dkeys ks).zip xs)) ∧ ks.length = ds.length ∧ ¬ A a ∧ RpL K A H ds xs
def RpL (K : PySem.W.Frag) (A : Addr → Prop) (H : Hp) : List D → List V → Prop
  | [], xs => xs = []
  | d :: ds, xs => ∃ x r, xs = x :: r ∧ Rp K A H d x ∧ RpL K A H ds r
end

/-! ### what stays -/
def isT : HO → Prop
  | .tup _ => True
  | .frz _ _ => True
  | _ => False
def Stp (A : Addr → Prop) (H H' : Hp) : Prop := ∀ a o, H a = some o → (¬ A a ∨ isT o) → H' a = some o
theorem Stp.of {A : Addr → Prop} {H H' : Hp} (s : Same H H') : Stp A H H' := fun a o h _ => s a o h
theorem Rd.stp {A : Addr → Prop} {H H' : Hp} {a : Addr} {u : HO} (s : Stp A H H') (h : Rd H a u) (c : ¬ A a ∨ isT u) : Rd H' a u := by
  rcases h with h | ⟨o, h⟩
  · exact .inl (s a _ h c)
  · exact .inr ⟨o, s a _ h (.inr trivial)⟩
theorem SqT.stp {K : PySem.W.Frag} {A : Addr → Prop} {H H' : Hp} {a : Addr} {xs : List V} (s : Stp A H H') (h : SqT K H a xs) : SqT K H' a xs := by
  rcases h with h | h
  · exact .inl (Rd.stp s h (.inr trivial))
  · exact .inr h
mutual
theorem Rp.stp {K : PySem.W.Frag} {A : Addr → Prop} {H H' : Hp} (s : Stp A H H') : ∀ {d : D} {v : V}, Rp K A H d v → Rp K A H' d v
  | .non, _, h => h
  | .bl _, _, h => h
  | .int _, _, h => h
  | .str _, _, h => h
  | .tup _, _, h => by
    obtain ⟨a, xs, e, t, l⟩ := h
    exact ⟨a, xs, e, s a _ t (.inr trivial), RpL.stp s l⟩
  | .lst _, _, h => by
    obtain ⟨a, xs, e, t, n, l⟩ := h
    exact ⟨a, xs, e, s a _ t (.inl n), n, RpL.stp s l⟩
  | .fro _, _, h => by
    obtain ⟨a, xs, e, t, l⟩ := h
    refine ⟨a, xs, e, ?_, RpL.stp s l⟩
    rcases t with ⟨o, t⟩ | t
    · exact .inl ⟨o, s a _ t (.inr trivial)⟩
    · exact .inr t
  | .dct _ _, _, h => by
    obtain ⟨a, xs, e, t, z, n, l⟩ := h
    exact ⟨a, xs, e, s a _ t (.inl n), z, n, RpL.stp s l⟩
theorem RpL.stp {K : PySem.W.Frag} {A : Addr → Prop} {H H' : Hp} (s : Stp A H H') : ∀ {ds : List D} {xs : List V}, RpL K A H ds xs → RpL K A H' ds xs
  | [], _, h => h
  | _ :: _, _, h => by
    obtain ⟨x, r, e, h1, h2⟩ := h
    exact ⟨x, r, e, Rp.stp s h1, RpL.stp s h2⟩
end
mutual
theorem Rp.anti {K : PySem.W.Frag} {A A' : Addr → Prop} {H : Hp} (s : ∀ a, A' a → A a) : ∀ {d : D} {v : V}, Rp K A H d v → Rp K A' H d v
  | .non, _, h => h
  | .bl _, _, h => h
  | .int _, _, h => h
  | .str _, _, h => h
  | .tup _, _, h => by
    obtain ⟨a, xs, e, t, l⟩ := h
    exact ⟨a, xs, e, t, RpL.anti s l⟩
  | .lst _, _, h => by
    obtain ⟨a, xs, e, t, n, l⟩ := h
    exact ⟨a, xs, e, t, fun q => n (s a q), RpL.anti s l⟩
  | .fro _, _, h => by
    obtain ⟨a, xs, e, t, l⟩ := h
    exact ⟨a, xs, e, t, RpL.anti s l⟩
  | .dct _ _, _, h => by
    obtain ⟨a, xs, e, t, z, n, l⟩ := h
    exact ⟨a, xs, e, t, z, fun q => n (s a q), RpL.anti s l⟩
theorem RpL.anti {K : PySem.W.Frag} {A A' : Addr → Prop} {H : Hp} (s : ∀ a, A' a → A a) : ∀ {ds : List D} {xs : List V}, RpL K A H ds xs → RpL K A' H ds xs
  | [], _, h => h
  | _ :: _, _, h => by
    obtain ⟨x, r, e, h1, h2⟩ := h
    exact ⟨x, r, e, Rp.anti s h1, RpL.anti s h2⟩
end
/-- what was nothing is avoided -/
theorem Rd.there {H : Hp} {a : Addr} {u : HO} (h : Rd H a u) : ∃ o, H a = some o := by
  rcases h with h | ⟨o, h⟩
  · exact ⟨_, h⟩
  · exact ⟨_, h⟩
mutual
theorem Rp.more {K : PySem.W.Frag} {A A' : Addr → Prop} {H : Hp} (s : ∀ a o, A' a → H a = some o → A a) : ∀ {d : D} {v : V}, Rp K A H d v → Rp K A' H d v
  | .non, _, h => h
  | .bl _, _, h => h
  | .int _, _, h => h
  | .str _, _, h => h
  | .tup _, _, h => by
    obtain ⟨a, xs, e, t, l⟩ := h
    exact ⟨a, xs, e, t, RpL.more s l⟩
  | .lst _, _, h => by
    obtain ⟨a, xs, e, t, n, l⟩ := h
    exact ⟨a, xs, e, t, fun q => n (s a _ q t), RpL.more s l⟩
  | .fro _, _, h => by
    obtain ⟨a, xs, e, t, l⟩ := h
    exact ⟨a, xs, e, t, RpL.more s l⟩
  | .dct _ _, _, h => by
    obtain ⟨a, xs, e, t, z, n, l⟩ := h
    exact ⟨a, xs, e, t, z, fun q => n (s a _ q t), RpL.more s l⟩
theorem RpL.more {K : PySem.W.Frag} {A A' : Addr → Prop} {H : Hp} (s : ∀ a o, A' a → H a = some o → A a) : ∀ {ds : List D} {xs : List V}, RpL K A H ds xs → RpL K A' H ds xs
  | [], _, h => h
  | _ :: _, _, h => by
    obtain ⟨x, r, e, h1, h2⟩ := h
    exact ⟨x, r, e, Rp.more s h1, RpL.more s h2⟩
end
mutual
/-- no list, no dict -/
def imm : D → Bool
  | .lst _ => false
  | .dct _ _ => false
  | .tup l => immL l
  | .fro l => immL l
  | _ => true
def immL : List D → Bool
  | [] => true
  | d :: l => imm d && immL l
end
mutual
theorem Rp.im {K : PySem.W.Frag} {A A' : Addr → Prop} {H : Hp} : ∀ {d : D} {v : V}, imm d = true → Rp K A H d v → Rp K A' H d v
  | .non, _, _, h => h
  | .bl _, _, _, h => h
  | .int _, _, _, h => h
  | .str _, _, _, h => h
  | .tup _, _, i, h => by
    obtain ⟨a, xs, e, t, l⟩ := h
    exact ⟨a, xs, e, t, RpL.im i l⟩
  | .lst _, _, i, _ => by cases i
  | .fro _, _, i, h => by
    obtain ⟨a, xs, e, t, l⟩ := h
    exact ⟨a, xs, e, t, RpL.im i l⟩
  | .dct _ _, _, i, _ => by cases i
theorem RpL.im {K : PySem.W.Frag} {A A' : Addr → Prop} {H : Hp} : ∀ {ds : List D} {xs : List V}, immL ds = true → RpL K A H ds xs → RpL K A' H ds xs
  | [], _, _, h => h
  | d :: ds, _, i, h => by
    obtain ⟨x, r, e, h1, h2⟩ := h
    have i' : (imm d && immL ds) = true := i
    rw [Bool.and_eq_true] at i'
    exact ⟨x, r, e, Rp.im i'.1 h1, RpL.im i'.2 h2⟩
end
theorem RpL.len {K : PySem.W.Frag} {A : Addr → Prop} {H : Hp} : ∀ {ds : List D} {xs : List V}, RpL K A H ds xs → xs.length = ds.length
  | [], _, h => by cases (show _ = [] from h); rfl
  | _ :: ds, _, h => by
    obtain ⟨x, r, rfl, h1, h2⟩ := h
    rw [List.length_cons, List.length_cons, RpL.len h2]
theorem RpL.get {K : PySem.W.Frag} {A : Addr → Prop} {H : Hp} : ∀ {ds : List D} {xs : List V} {i : Nat} {d : D}, RpL K A H ds xs → ds[i]? = some d → ∃ x, xs[i]? = some x ∧ Rp K A H d x
  | [], _, _, _, _, e => by simp at e
  | _ :: _, _, 0, _, h, e => by
    obtain ⟨x, r, rfl, h1, h2⟩ := h
    simp at e; subst e
    exact ⟨x, rfl, h1⟩
  | _ :: ds, _, i + 1, d, h, e => by
    obtain ⟨x, r, rfl, h1, h2⟩ := h
    obtain ⟨y, e1, e2⟩ := RpL.get (i := i) (d := d) h2 (by simpa using e)
    exact ⟨y, by simpa using e1, e2⟩
theorem RpL.getx {K : PySem.W.Frag} {A : Addr → Prop} {H : Hp} : ∀ {ds : List D} {xs : List V} {i : Nat} {x : V}, RpL K A H ds xs → xs[i]? = some x → ∃ d, ds[i]? = some d ∧ Rp K A H d x
  | [], _, _, _, h, e => by cases (show _ = [] from h); simp at e
  | _ :: _, _, 0, _, h, e => by
    obtain ⟨x, r, rfl, h1, h2⟩ := h
    simp at e; subst e
    exact ⟨_, rfl, h1⟩
  | _ :: ds, _, i + 1, d, h, e => by
    obtain ⟨x, r, rfl, h1, h2⟩ := h
    obtain ⟨y, e1, e2⟩ := RpL.getx (i := i) h2 (by simpa using e)
    exact ⟨y, by simpa using e1, e2⟩
theorem RpL.app {K : PySem.W.Frag} {A : Addr → Prop} {H : Hp} : ∀ {ds es : List D} {xs ys : List V}, RpL K A H ds xs → RpL K A H es ys → RpL K A H (ds ++ es) (xs ++ ys)
  | [], _, _, _, h, g => by cases (show _ = [] from h); exact g
  | _ :: ds, _, _, _, h, g => by
    obtain ⟨x, r, rfl, h1, h2⟩ := h
    exact ⟨x, r ++ _, rfl, h1, RpL.app h2 g⟩
theorem RpL.one {K : PySem.W.Frag} {A : Addr → Prop} {H : Hp} {d : D} {x : V} (h : Rp K A H d x) : RpL K A H [d] [x] := ⟨x, [], rfl, h, rfl⟩
theorem RpL.take {K : PySem.W.Frag} {A : Addr → Prop} {H : Hp} : ∀ {ds : List D} {xs : List V} (n : Nat), RpL K A H ds xs → RpL K A H (ds.take n) (xs.take n)
  | [], _, n, h => by
    cases (show _ = [] from h)
    rw [List.take_nil, List.take_nil]
    exact rfl
  | _ :: _, _, 0, _ => rfl
  | _ :: ds, _, n + 1, h => by
    obtain ⟨x, r, rfl, h1, h2⟩ := h
    exact ⟨x, r.take n, rfl, h1, RpL.take n h2⟩
theorem RpL.drop {K : PySem.W.Frag} {A : Addr → Prop} {H : Hp} : ∀ {ds : List D} {xs : List V} (n : Nat), RpL K A H ds xs → RpL K A H (ds.drop n) (xs.drop n)
  | [], _, n, h => by
    cases (show _ = [] from h)
    rw [List.drop_nil, List.drop_nil]
    exact rfl
  | _ :: _, _, 0, h => h
  | _ :: ds, _, n + 1, h => by
    obtain ⟨x, r, rfl, h1, h2⟩ := h
    exact RpL.drop n h2
theorem RpL.set {K : PySem.W.Frag} {A : Addr → Prop} {H : Hp} {d : D} {x : V} (hx : Rp K A H d x) : ∀ {ds : List D} {xs : List V} (n : Nat), RpL K A H ds xs → RpL K A H (ds.set n d) (xs.set n x)
  | [], _, n, h => by
    cases (show _ = [] from h)
    exact rfl
  | _ :: _, _, 0, h => by
    obtain ⟨x', r, rfl, h1, h2⟩ := h
    exact ⟨x, r, rfl, hx, h2⟩
  | _ :: ds, _, n + 1, h => by
    obtain ⟨x, r, rfl, h1, h2⟩ := h
    exact ⟨x, r.set n _, rfl, h1, RpL.set hx n h2⟩
theorem RpL.rev {K : PySem.W.Frag} {A : Addr → Prop} {H : Hp} : ∀ {ds : List D} {xs : List V}, RpL K A H ds xs → RpL K A H ds.reverse xs.reverse
  | [], _, h => by
    cases (show _ = [] from h)
    exact rfl
  | _ :: ds, _, h => by
    obtain ⟨x, r, rfl, h1, h2⟩ := h
    rw [List.reverse_cons, List.reverse_cons]
    exact (RpL.rev h2).app (RpL.one h1)
/-- ints -/
theorem rpl_ints {K : PySem.W.Frag} {A : Addr → Prop} {H : Hp} : ∀ {ns : List Int} {xs : List V}, RpL K A H (ns.map D.int) xs ↔ xs = ns.map V.int
  | [], _ => Iff.rfl
  | n :: ns, xs => by
    constructor
    · rintro ⟨x, r, rfl, h1, h2⟩
      cases (show x = .int n from h1)
      rw [(rpl_ints (ns := ns)).mp h2]
      rfl
    · rintro rfl
      exact ⟨_, _, rfl, rfl, (rpl_ints (ns := ns)).mpr rfl⟩
theorem rpl_bls {K : PySem.W.Frag} {A : Addr → Prop} {H : Hp} : ∀ {ns : List Bool} {xs : List V}, RpL K A H (ns.map D.bl) xs ↔ xs = ns.map V.bl
  | [], _ => Iff.rfl
  | n :: ns, xs => by
    constructor
    · rintro ⟨x, r, rfl, h1, h2⟩
      cases (show x = .bl n from h1)
      rw [(rpl_bls (ns := ns)).mp h2]
      rfl
    · rintro rfl
      exact ⟨_, _, rfl, rfl, (rpl_bls (ns := ns)).mpr rfl⟩

/-! ### slots -/
inductive Sl where
  | un | va (d : D) | ow (d : D)
abbrev Ow := List (Option Addr)
def AOf (B : Addr → Prop) (as : Ow) : Addr → Prop := fun a => B a ∨ some a ∈ as
def RpO (K : PySem.W.Frag) (A : Addr → Prop) (H : Hp) (a : Addr) : D → Prop
  | .lst ds => ∃ xs, H a = some (.lst xs) ∧ RpL K A H ds xs
  | .dct ks ds => ∃ xs, H a = some (.dT ((dkeys ks).zip xs)) ∧ ks.length = ds.length ∧ RpL K A H ds xs
  | _ => False
def SlOK (K : PySem.W.Frag) (A : Addr → Prop) (H : Hp) : Sl → Option V → Option Addr → Prop
  | .un, _, w => w = none
  | .va d, o, w => w = none ∧ ∃ v, o = some v ∧ Rp K A H d v
  | .ow d, o, w => ∃ a, o = some (.ref a) ∧ w = some a ∧ RpO K A H a d
def SlsOK (K : PySem.W.Frag) (A : Addr → Prop) (H : Hp) : List Sl → L2.St → Ow → Prop
  | [], σ, ws => σ = [] ∧ ws = []
  | s :: ss, σ, ws => ∃ o os w wr, σ = o :: os ∧ ws = w :: wr ∧ SlOK K A H s o w ∧ SlsOK K A H ss os wr

theorem RpO.rp {K : PySem.W.Frag} {A B : Addr → Prop} {H : Hp} {a : Addr} {d : D} (h : RpO K A H a d) (n : ¬ B a) (s : ∀ b, B b → A b) : Rp K B H d (.ref a) := by
  cases d with
  | lst ds =>
    obtain ⟨xs, e, l⟩ := h
    exact ⟨a, xs, rfl, e, n, l.anti s⟩
  | dct ks ds =>
    obtain ⟨xs, e, z, l⟩ := h
    exact ⟨a, xs, rfl, e, z, n, l.anti s⟩
  | _ => exact h.elim
theorem RpO.there {K : PySem.W.Frag} {A : Addr → Prop} {H : Hp} {a : Addr} {d : D} (h : RpO K A H a d) : ∃ o, H a = some o ∧ ¬ isT o := by
  cases d with
  | lst ds =>
    obtain ⟨xs, e, l⟩ := h
    exact ⟨_, e, id⟩
  | dct ks ds =>
    obtain ⟨xs, e, l⟩ := h
    exact ⟨_, e, id⟩
  | _ => exact h.elim
theorem RpO.to {K : PySem.W.Frag} {A A' : Addr → Prop} {H H' : Hp} {a : Addr} {d : D} (h : RpO K A H a d) (e : ∀ o, H a = some o → H' a = some o) (r : ∀ {ds xs}, RpL K A H ds xs → RpL K A' H' ds xs) : RpO K A' H' a d := by
  cases d with
  | lst ds =>
    obtain ⟨xs, q, l⟩ := h
    exact ⟨xs, e _ q, r l⟩
  | dct ks ds =>
    obtain ⟨xs, q, z, l⟩ := h
    exact ⟨xs, e _ q, z, r l⟩
  | _ => exact h.elim
theorem SlOK.to {K : PySem.W.Frag} {A A' : Addr → Prop} {H H' : Hp} {s : Sl} {o : Option V} {w : Option Addr} (h : SlOK K A H s o w) (e : ∀ a u, w = some a → H a = some u → H' a = some u)
    (r : ∀ {d v}, Rp K A H d v → Rp K A' H' d v) (rl : ∀ {ds xs}, RpL K A H ds xs → RpL K A' H' ds xs) : SlOK K A' H' s o w := by
  cases s with
  | un => exact h
  | va d =>
    obtain ⟨z, v, e1, e2⟩ := h
    exact ⟨z, v, e1, r e2⟩
  | ow d =>
    obtain ⟨a, e1, e2, e3⟩ := h
    exact ⟨a, e1, e2, e3.to (fun o q => e a o e2 q) rl⟩
theorem SlsOK.to {K : PySem.W.Frag} {A A' : Addr → Prop} {H H' : Hp} (r : ∀ {d v}, Rp K A H d v → Rp K A' H' d v) (rl : ∀ {ds xs}, RpL K A H ds xs → RpL K A' H' ds xs) :
    ∀ {ss : List Sl} {σ : L2.St} {ws : Ow}, SlsOK K A H ss σ ws → (∀ a u, some a ∈ ws → H a = some u → H' a = some u) → SlsOK K A' H' ss σ ws
  | [], _, _, h, _ => h
  | _ :: _, _, _, h, e => by
    obtain ⟨o, os, w, wr, e1, e2, h1, h2⟩ := h
    subst e2
    exact ⟨o, os, w, wr, e1, rfl, h1.to (fun a u q => e a u (by rw [q]; exact List.mem_cons_self)) r rl, SlsOK.to r rl h2 fun a u q => e a u (List.mem_cons_of_mem _ q)⟩
theorem SlsOK.get {K : PySem.W.Frag} {A : Addr → Prop} {H : Hp} : ∀ {ss : List Sl} {σ : L2.St} {ws : Ow} {i : Nat} {s : Sl}, SlsOK K A H ss σ ws → ss[i]? = some s → ∃ o w, σ[i]? = some o ∧ ws[i]? = some w ∧ SlOK K A H s o w
  | [], _, _, _, _, _, e => by simp at e
  | _ :: _, _, _, 0, _, h, e => by
    obtain ⟨o, os, w, wr, rfl, rfl, h1, h2⟩ := h
    simp at e; subst e
    exact ⟨o, w, rfl, rfl, h1⟩
  | _ :: ss, _, _, i + 1, s, h, e => by
    obtain ⟨o, os, w, wr, rfl, rfl, h1, h2⟩ := h
    obtain ⟨o', w', e1, e2, e3⟩ := SlsOK.get (i := i) (s := s) h2 (by simpa using e)
    exact ⟨o', w', by simpa using e1, by simpa using e2, e3⟩
theorem SlsOK.set {K : PySem.W.Frag} {A : Addr → Prop} {H : Hp} {s : Sl} {o : Option V} {w : Option Addr} (hs : SlOK K A H s o w) : ∀ {ss : List Sl} {σ : L2.St} {ws : Ow} (i : Nat), SlsOK K A H ss σ ws → SlsOK K A H (ss.set i s) (σ.set i o) (ws.set i w)
  | [], _, _, i, h => by
    obtain ⟨rfl, rfl⟩ := h
    exact ⟨rfl, rfl⟩
  | _ :: _, _, _, 0, h => by
    obtain ⟨o', os, w', wr, rfl, rfl, h1, h2⟩ := h
    exact ⟨_, _, _, _, rfl, rfl, hs, h2⟩
  | _ :: ss, _, _, i + 1, h => by
    obtain ⟨o', os, w', wr, rfl, rfl, h1, h2⟩ := h
    exact ⟨_, _, _, _, rfl, rfl, h1, SlsOK.set hs i h2⟩
theorem SlsOK.len {K : PySem.W.Frag} {A : Addr → Prop} {H : Hp} : ∀ {ss : List Sl} {σ : L2.St} {ws : Ow}, SlsOK K A H ss σ ws → σ.length = ss.length ∧ ws.length = ss.length
  | [], _, _, h => by
    obtain ⟨rfl, rfl⟩ := h
    exact ⟨rfl, rfl⟩
  | _ :: _, _, _, h => by
    obtain ⟨o', os, w', wr, rfl, rfl, h1, h2⟩ := h
    have := h2.len
    simp [this.1, this.2]

/-- what a loop holds on to: an object that stays, values that stand for data -/
abbrev G1 := List (Addr × HO) × List D × List V
abbrev Gh := List G1
def GhOK (K : PySem.W.Frag) (A : Addr → Prop) (H : Hp) (g : G1) : Prop := (∀ a u, (a, u) ∈ g.1 → H a = some u ∧ (¬ A a ∨ isT u)) ∧ RpL K A H g.2.1 g.2.2
theorem GhOK.stp {K : PySem.W.Frag} {A : Addr → Prop} {H H' : Hp} {g : G1} (s : Stp A H H') (h : GhOK K A H g) : GhOK K A H' g := ⟨fun a u e => ⟨s a u (h.1 a u e).1 (h.1 a u e).2, (h.1 a u e).2⟩, h.2.stp s⟩
theorem GhOK.anti {K : PySem.W.Frag} {A A' : Addr → Prop} {H : Hp} {g : G1} (s : ∀ a, A' a → A a) (h : GhOK K A H g) : GhOK K A' H g := ⟨fun a u e => ⟨(h.1 a u e).1, (h.1 a u e).2.imp (fun n q => n (s a q)) id⟩, h.2.anti s⟩
theorem GhOK.more {K : PySem.W.Frag} {A A' : Addr → Prop} {H : Hp} {g : G1} (s : ∀ a o, A' a → H a = some o → A a) (h : GhOK K A H g) : GhOK K A' H g := ⟨fun a u e => ⟨(h.1 a u e).1, (h.1 a u e).2.imp (fun n q => n (s a u q (h.1 a u e).1)) id⟩, h.2.more s⟩
structure SOK (K : PySem.W.Frag) (B : Addr → Prop) (H0 : Hp) (gh : Gh) (as : Ow) (sl : List Sl) (σ : L2.St) (H : Hp) : Prop where
  ex : Same H0 H
  base : ∀ a, B a → ∃ o, H0 a = some o
  own : ∀ a, some a ∈ as → H0 a = none
  inj : ∀ (i j : Nat) (a : Addr), as[i]? = some (some a) → as[j]? = some (some a) → i = j
  held : ∀ g ∈ gh, GhOK K (AOf B as) H g
  sls : SlsOK K (AOf B as) H sl σ as
section
variable {K : PySem.W.Frag} {B : Addr → Prop} {H0 H H' : Hp} {gh : Gh} {as : Ow} {sl : List Sl} {σ : L2.St}
theorem SOK.same (S : SOK K B H0 gh as sl σ H) (e : Same H H') : SOK K B H0 gh as sl σ H' :=
  ⟨S.ex.trans e, S.base, S.own, S.inj, fun p hp => (S.held p hp).stp (.of e), S.sls.to (fun h => h.stp (.of e)) (fun h => h.stp (.of e)) fun a u _ q => e a u q⟩
theorem SlsOK.owned {A : Addr → Prop} : ∀ {ss : List Sl} {σ : L2.St} {ws : Ow} {a : Addr}, SlsOK K A H ss σ ws → some a ∈ ws → ∃ o, H a = some o ∧ ¬ isT o
  | [], _, _, _, h, m => by
    obtain ⟨rfl, rfl⟩ := h
    cases m
  | s :: ss, _, _, a, h, m => by
    obtain ⟨o', os, w', wr, rfl, rfl, h1, h2⟩ := h
    rcases List.mem_cons.mp m with e | m
    · subst e
      cases s with
      | un => cases h1
      | va d => cases h1.1
      | ow d =>
        obtain ⟨b, e1, e2, e3⟩ := h1
        cases e2
        exact e3.there
    · exact SlsOK.owned h2 m
theorem SOK.dom (S : SOK K B H0 gh as sl σ H) : ∀ a, AOf B as a → ∃ o, H a = some o := fun a h => by
  rcases h with h | h
  · obtain ⟨o, e⟩ := S.base a h
    exact ⟨o, S.ex a o e⟩
  · obtain ⟨o, e, _⟩ := S.sls.owned h
    exact ⟨o, e⟩
theorem mem_set {α : Type} : ∀ {l : List α} {i : Nat} {x y : α}, y ∈ l.set i x → y = x ∨ y ∈ l
  | [], _, _, _, h => by cases h
  | a :: l, 0, x, y, h => by
    rcases List.mem_cons.mp h with e | h
    · exact .inl e
    · exact .inr (List.mem_cons_of_mem _ h)
  | a :: l, i + 1, x, y, h => by
    rcases List.mem_cons.mp h with e | h
    · exact .inr (e ▸ List.mem_cons_self)
    · rcases mem_set h with e | h
      · exact .inl e
      · exact .inr (List.mem_cons_of_mem _ h)
theorem AOf.unset {i : Nat} : ∀ a, AOf B (as.set i none) a → AOf B as a := fun a h => by
  rcases h with h | h
  · exact .inl h
  · rcases mem_set h with e | h
    · cases e
    · exact .inr h
theorem inj_unset {i : Nat} (hj : ∀ (i j : Nat) (a : Addr), as[i]? = some (some a) → as[j]? = some (some a) → i = j) : ∀ (k j : Nat) (a : Addr), (as.set i none)[k]? = some (some a) → (as.set i none)[j]? = some (some a) → k = j := fun k j a h1 h2 => by
  have g : ∀ k, (as.set i none)[k]? = some (some a) → as[k]? = some (some a) := fun k h => by
    by_cases e : i = k
    · subst e
      rw [List.getElem?_set] at h
      split at h
      · split at h
        · cases h
        · cases h
      · exact h
    · rw [List.getElem?_set_ne e] at h
      exact h
  exact hj k j a (g k h1) (g j h2)
/-- a slot is stored -/
theorem SOK.put {i : Nat} {d : D} {v : V} (S : SOK K B H0 gh as sl σ H) (h : Rp K (AOf B as) H d v) : SOK K B H0 gh (as.set i none) (sl.set i (.va d)) (σ.set i (some v)) H := by
  refine ⟨S.ex, S.base, fun a h => ?_, inj_unset S.inj, fun p hp => (S.held p hp).anti AOf.unset, ?_⟩
  · rcases mem_set h with e | h
    · cases e
    · exact S.own a h
  · refine SlsOK.set (s := .va d) (o := some v) (w := none) ⟨rfl, v, rfl, h.anti AOf.unset⟩ i (S.sls.to (fun h => h.anti AOf.unset) (fun h => h.anti AOf.unset) fun _ _ _ q => q)
/-- a slot is forgotten -/
theorem SOK.drop {i : Nat} {o : Option V} (S : SOK K B H0 gh as sl σ H) : SOK K B H0 gh (as.set i none) (sl.set i .un) (σ.set i o) H := by
  refine ⟨S.ex, S.base, fun a h => ?_, inj_unset S.inj, fun p hp => (S.held p hp).anti AOf.unset, ?_⟩
  · rcases mem_set h with e | h
    · cases e
    · exact S.own a h
  · exact SlsOK.set (s := .un) (o := o) (w := none) rfl i (S.sls.to (fun h => h.anti AOf.unset) (fun h => h.anti AOf.unset) fun _ _ _ q => q)
end
end PD

namespace PD
open PySem PySem.Spec PyProof.Rows L2
/-- a list that is read: one of the program's, or a frozen one -/
inductive RdL : D → List D → Prop
  | lst (ds : List D) : RdL (.lst ds) ds
  | fro (ds : List D) : RdL (.fro ds) ds
theorem RdL.seq {K : PySem.W.Frag} {A : Addr → Prop} {H : Hp} {d : D} {ds : List D} {v : V} (r : RdL d ds) (h : Rp K A H d v) : ∃ a xs, v = .ref a ∧ SqL K H a xs ∧ RpL K A H ds xs := by
  cases r with
  | lst =>
    obtain ⟨a, xs, e, t, n, l⟩ := h
    exact ⟨a, xs, e, .inl (.inl t), l⟩
  | fro =>
    obtain ⟨a, xs, e, t, l⟩ := h
    refine ⟨a, xs, e, ?_, l⟩
    rcases t with ⟨o, t⟩ | t
    · exact .inl (.inr ⟨o, t⟩)
    · exact .inr t
end PD
namespace PD
open PySem PySem.Spec PyProof.Rows L2
/-- // by a positive divisor, of ints that no library of the interpreter is asked for -/
def CDivX (i j : Int) : Prop := 0 < j ∧ Builtin.divisionGoesByPylong i j = false
theorem divK {i j : Int} (h : 0 < j) (g : j.natAbs.log2 < 9000) : CDivX i j := ⟨h, PyProof.noPylong_of_log2 g⟩
theorem divT {i j : Int} (h : 0 < j) (g : i.natAbs.log2 < 13530) : CDivX i j := by
  refine ⟨h, ?_⟩
  have key : (if i == 0 then 0 else i.natAbs.log2 / 30 + 1) ≤ 451 := by
    split <;> omega
  show (decide ((if j == 0 then 0 else j.natAbs.log2 / 30 + 1) > 300) && decide ((if i == 0 then 0 else i.natAbs.log2 / 30 + 1) > (if j == 0 then 0 else j.natAbs.log2 / 30 + 1) + 150)) = false
  generalize (if i == 0 then 0 else i.natAbs.log2 / 30 + 1) = u at *
  generalize (if j == 0 then 0 else j.natAbs.log2 / 30 + 1) = v at *
  rw [Bool.and_eq_false_iff]
  rcases Nat.lt_or_ge 300 v with q | q
  · exact .inr (decide_eq_false (by omega))
  · exact .inl (decide_eq_false (by omega))
theorem op_fdivX {X : Cx} : OpR X (binaryOp .FloorDiv) (rI CDivX fun i j => .int (i / j)) := opI fun i j _ _ _ _ _ hc q => by
  have h1 : (0 : Int) < j := hc.1
  exact floordiv_int (by omega) (by rw [Int.fdiv_eq_ediv_of_nonneg i (by omega)]; exact q) (.inl hc.2)
theorem SlsOK.mk {K : PySem.W.Frag} {A : Addr → Prop} {H : Hp} : ∀ {ss : List Sl} {σ : L2.St} {ws : Ow}, σ.length = ss.length → ws.length = ss.length →
    (∀ (j : Nat) s o w, ss[j]? = some s → σ[j]? = some o → ws[j]? = some w → SlOK K A H s o w) → SlsOK K A H ss σ ws
  | [], σ, ws, h1, h2, _ => ⟨List.length_eq_zero_iff.mp h1, List.length_eq_zero_iff.mp h2⟩
  | s :: ss, [], _, h1, _, _ => by simp at h1
  | s :: ss, _ :: _, [], _, h2, _ => by simp at h2
  | s :: ss, o :: os, w :: ws, h1, h2, h => ⟨o, os, w, ws, rfl, rfl, h 0 s o w rfl rfl rfl, SlsOK.mk (by simpa using h1) (by simpa using h2) fun j s' o' w' a b c =>
      h (j + 1) s' o' w' (by simpa using a) (by simpa using b) (by simpa using c)⟩
section
variable {K : PySem.W.Frag} {B : Addr → Prop} {H0 H H' : Hp} {gh : Gh} {as : Ow} {sl : List Sl} {σ : L2.St}
def A1 (A : Addr → Prop) (p : Addr) : Addr → Prop := fun a => A a ∨ a = p
theorem AOf.put {i : Nat} {p : Addr} : ∀ a, AOf B (as.set i (some p)) a → A1 (AOf B as) p a := fun a h => by
  rcases h with h | h
  · exact .inl (.inl h)
  · rcases mem_set h with e | h
    · exact .inr (Option.some.inj e)
    · exact .inl (.inr h)
/-- a new list or dict is stored: the def's own -/
theorem SOK.putO {i : Nat} {p : Addr} {d : D} (S : SOK K B H0 gh as sl σ H) (hp : H p = none) (e : Same H H') (new : RpO K (A1 (AOf B as) p) H' p d) :
    SOK K B H0 gh (as.set i (some p)) (sl.set i (.ow d)) (σ.set i (some (.ref p))) H' := by
  have mr : ∀ {d v}, Rp K (AOf B as) H d v → Rp K (AOf B (as.set i (some p))) H' d v := fun h => (h.more fun a o ha ho => by
    rcases AOf.put a ha with h | h
    · exact h
    · rw [h, hp] at ho; cases ho).stp (.of e)
  have mrl : ∀ {d v}, RpL K (AOf B as) H d v → RpL K (AOf B (as.set i (some p))) H' d v := fun h => (h.more fun a o ha ho => by
    rcases AOf.put a ha with h | h
    · exact h
    · rw [h, hp] at ho; cases ho).stp (.of e)
  have mg : ∀ {g}, GhOK K (AOf B as) H g → GhOK K (AOf B (as.set i (some p))) H' g := fun h => (h.more fun a o ha ho => by
    rcases AOf.put a ha with h | h
    · exact h
    · rw [h, hp] at ho; cases ho).stp (.of e)
  have nin : some p ∉ as := fun m => by
    obtain ⟨o, ho, _⟩ := S.sls.owned m
    rw [hp] at ho; cases ho
  refine ⟨S.ex.trans e, S.base, fun a h => ?_, fun k j a h1 h2 => ?_, fun q hq => mg (S.held q hq), ?_⟩
  · rcases mem_set h with z | h
    · cases z
      exact S.ex.free hp
    · exact S.own a h
  · have g : ∀ (k : Nat), (as.set i (some p))[k]? = some (some a) → (k = i ∧ a = p) ∨ as[k]? = some (some a) := fun k h => by
      by_cases z : i = k
      · subst z
        rw [List.getElem?_set] at h
        simp only [if_true] at h
        split at h
        · exact .inl ⟨rfl, by cases h; rfl⟩
        · cases h
      · rw [List.getElem?_set_ne z] at h
        exact .inr h
    rcases g k h1 with ⟨k1, k2⟩ | g1
    · rcases g j h2 with ⟨j1, j2⟩ | g2
      · rw [k1, j1]
      · rw [k2] at g2
        exact absurd (List.mem_of_getElem? g2) nin
    · rcases g j h2 with ⟨j1, j2⟩ | g2
      · rw [j2] at g1
        exact absurd (List.mem_of_getElem? g1) nin
      · exact S.inj k j a g1 g2
  · have new' : RpO K (AOf B (as.set i (some p))) H' p d := new.to (fun o q => q) fun h => h.anti AOf.put
    exact SlsOK.set (s := .ow d) (o := some (.ref p)) (w := some p) ⟨p, rfl, rfl, new'⟩ i (S.sls.to mr mrl fun a u _ q => e a u q)
/-- an own list or dict is changed -/
theorem SOK.mut {i : Nat} {a : Addr} {d d' : D} {o' : HO} (S : SOK K B H0 gh as sl σ H) (hi : sl[i]? = some (.ow d)) (ha : σ[i]? = some (some (.ref a))) (new : RpO K (AOf B as) (upd H a o') a d') :
    SOK K B H0 gh as (sl.set i (.ow d')) σ (upd H a o') := by
  obtain ⟨o, w, e1, e2, b, e3, e4, e5⟩ := S.sls.get hi
  subst e3 e4
  rw [ha] at e1
  cases e1
  have own : some a ∈ as := List.mem_of_getElem? e2
  have h0 : H0 a = none := S.own a own
  obtain ⟨u0, hu0, nt⟩ := S.sls.owned own
  have st : Stp (AOf B as) H (upd H a o') := fun c u hc q => by
    by_cases z : c = a
    · subst z
      rw [hu0] at hc
      cases hc
      rcases q with q | q
      · exact absurd (.inr own) q
      · exact absurd q nt
    · rw [upd_ne z]
      exact hc
  have sm : Same H0 (upd H a o') := fun c u hc => by
    rw [upd_ne (ne_of_none hc h0)]
    exact S.ex c u hc
  obtain ⟨l1, l2⟩ := S.sls.len
  refine ⟨sm, S.base, S.own, S.inj, fun q hq => (S.held q hq).stp st, SlsOK.mk (by rw [List.length_set]; exact l1) (by rw [List.length_set]; exact l2) fun j s o w h1 h2 h3 => ?_⟩
  by_cases z : i = j
  · subst z
    rw [e2] at h3
    cases h3
    rw [ha] at h2
    cases h2
    rw [List.getElem?_set] at h1
    simp only [if_true] at h1
    split at h1
    · cases h1
      exact ⟨a, rfl, rfl, new⟩
    · cases h1
  · rw [List.getElem?_set_ne z] at h1
    obtain ⟨o1, w1, q1, q2, q3⟩ := S.sls.get h1
    rw [q1] at h2
    cases h2
    rw [q2] at h3
    cases h3
    refine q3.to (fun c u hw hc => ?_) (fun h => h.stp st) (fun h => h.stp st)
    subst hw
    have nc : c ≠ a := fun z' => by
      subst z'
      exact z (S.inj i j c e2 q2)
    rw [upd_ne nc]
    exact hc
theorem SOK.at {i : Nat} {d : D} (S : SOK K B H0 gh as sl σ H) (hi : sl[i]? = some (.ow d)) : ∃ a, σ[i]? = some (some (.ref a)) ∧ some a ∈ as ∧ H0 a = none ∧ RpO K (AOf B as) H a d := by
  obtain ⟨o, w, e1, e2, b, e3, e4, e5⟩ := S.sls.get hi
  subst e3 e4
  exact ⟨b, e1, List.mem_of_getElem? e2, S.own b (List.mem_of_getElem? e2), e5⟩
theorem SOK.nB {a : Addr} (S : SOK K B H0 gh as sl σ H) (h : H0 a = none) : ¬ B a := fun q => by
  obtain ⟨o, e⟩ := S.base a q
  rw [h] at e
  cases e
/-- an own list is own no more -/
theorem SOK.fz {i : Nat} {d : D} (S : SOK K B H0 gh as sl σ H) (hi : sl[i]? = some (.ow d)) : SOK K B H0 gh (as.set i none) (sl.set i (.va d)) σ H := by
  obtain ⟨o, w, e1, e2, b, e3, e4, e5⟩ := S.sls.get hi
  subst e3 e4
  have h0 : H0 b = none := S.own b (List.mem_of_getElem? e2)
  have nb : ¬ AOf B (as.set i none) b := fun q => by
    rcases q with q | q
    · exact S.nB h0 q
    · obtain ⟨j, hj⟩ := List.getElem?_of_mem q
      by_cases z : i = j
      · subst z
        rw [List.getElem?_set] at hj
        split at hj
        · split at hj
          · cases hj
          · cases hj
        · rename_i n
          exact n rfl
      · rw [List.getElem?_set_ne z] at hj
        exact z (S.inj i j b e2 hj)
  have hv : Rp K (AOf B (as.set i none)) H d (.ref b) := e5.rp nb AOf.unset
  have h2 : σ.set i (some (.ref b)) = σ := by
    apply List.ext_getElem?
    intro j
    by_cases z : i = j
    · subst z
      rw [List.getElem?_set]
      simp only [if_true]
      rw [e1]
      split
      · rfl
      · rename_i n
        have := (List.getElem?_eq_some_iff.mp e1).1
        exact absurd this n
    · rw [List.getElem?_set_ne z]
  refine ⟨S.ex, S.base, fun a h => ?_, inj_unset S.inj, fun p hp => (S.held p hp).anti AOf.unset, ?_⟩
  · rcases mem_set h with e | h
    · cases e
    · exact S.own a h
  · rw [← h2]
    exact SlsOK.set (s := .va d) (o := some (.ref b)) (w := none) ⟨rfl, _, rfl, hv⟩ i (S.sls.to (fun h => h.anti AOf.unset) (fun h => h.anti AOf.unset) fun _ _ _ q => q)
theorem SOK.ghost {p : G1} (S : SOK K B H0 gh as sl σ H) (h : GhOK K (AOf B as) H p) : SOK K B H0 (p :: gh) as sl σ H :=
  ⟨S.ex, S.base, S.own, S.inj, fun q hq => by
    rcases List.mem_cons.mp hq with e | m
    · rw [e]; exact h
    · exact S.held q m, S.sls⟩
theorem SOK.unghost {p : G1} (S : SOK K B H0 (p :: gh) as sl σ H) : SOK K B H0 gh as sl σ H :=
  ⟨S.ex, S.base, S.own, S.inj, fun q hq => S.held q (List.mem_cons_of_mem _ hq), S.sls⟩
end

/-! ### the weakest readings -/
section
variable {X : Cx}
def tE (X : Cx) (e : Expr) : TE := fun σ H Q => ∀ pins s, Inv X pins σ H s → wpAny (model X.prog X.w) X.A (eval e X.env) (EP X pins σ Q) X.xe s
def tT (X : Cx) (e : Expr) : TT := fun σ H Q => ∀ pins s, Inv X pins σ H s → wpAny (model X.prog X.w) X.A (isTrue e X.env (eval e X.env)) (TP X pins σ Q) X.xe s
def tW (X : Cx) (e : Expr) : TT := fun σ H Q => ∀ whole pins s, Inv X pins σ H s → wpAny (model X.prog X.w) X.A (isTrue e X.env whole) (TP X pins σ Q) X.xe s
def tA (X : Cx) (es : List Expr) : TA := fun σ H Q => ∀ (pos : Pos) pins s, Inv X pins σ H s → wpAny (model X.prog X.w) X.A (spliced (backTo pos (starEach es X.env))) (AP X pins σ Q) X.xe s
def tS (X : Cx) (st : Stmt) : TS := fun D σ H => ∀ pins s, Inv X pins σ H s → wpAny (model X.prog X.w) X.A (exec st X.env) (SP X pins D) X.xe s
def tSs (X : Cx) (st : List Stmt) : TS := fun D σ H => ∀ pins s, Inv X pins σ H s → wpAny (model X.prog X.w) X.A (execs st X.env) (SP X pins D) X.xe s
theorem pe_w {e : Expr} : PE X e (tE X e) := ⟨fun pins s _ _ _ I h => h pins s I⟩
theorem pt_w {e : Expr} : PT X e (tT X e) := ⟨fun pins s _ _ _ I h => h pins s I⟩
theorem pw_w {e : Expr} : PW X e (tW X e) := ⟨fun whole pins s _ _ _ I h => h whole pins s I⟩
theorem pa_w {es : List Expr} : PA X es (tA X es) := ⟨fun pos pins s _ _ _ I h => h pos pins s I⟩
theorem ps_w {st : Stmt} : PS X st (tS X st) := ⟨fun pins s _ _ _ I h => h pins s I⟩
theorem pss_w {st : List Stmt} : PSs X st (tSs X st) := ⟨fun pins s _ _ _ I h => h pins s I⟩
theorem PEt {e : Expr} {t : TE} (h : PE X e t) {σ : L2.St} {H : Hp} {Q : VK} (q : t σ H Q) : tE X e σ H Q := fun pins s I => h.run pins s σ H Q I q
theorem PTt {e : Expr} {t : TT} (h : PT X e t) {σ : L2.St} {H : Hp} {Q : Bool → Hp → Prop} (q : t σ H Q) : tT X e σ H Q := fun pins s I => h.run pins s σ H Q I q
theorem PWt {e : Expr} {t : TT} (h : PW X e t) {σ : L2.St} {H : Hp} {Q : Bool → Hp → Prop} (q : t σ H Q) : tW X e σ H Q := fun whole pins s I => h.run whole pins s σ H Q I q
theorem PAt {es : List Expr} {t : TA} (h : PA X es t) {σ : L2.St} {H : Hp} {Q : List V → Hp → Prop} (q : t σ H Q) : tA X es σ H Q := fun pos pins s I => h.run pos pins s σ H Q I q
theorem PSt {st : Stmt} {t : TS} (h : PS X st t) {σ : L2.St} {H : Hp} {D : Ends} (q : t D σ H) : tS X st D σ H := fun pins s I => h.run pins s σ H D I q
theorem PSst {st : List Stmt} {t : TS} (h : PSs X st t) {σ : L2.St} {H : Hp} {D : Ends} (q : t D σ H) : tSs X st D σ H := fun pins s I => h.run pins s σ H D I q
theorem SPm {pins : List (Addr × Obj)} {D D' : Ends} {f : Flow} {s : Shared} (h : SP X pins D f s) (hn : ∀ σ H, D.nx σ H → D'.nx σ H) (hr : ∀ v H, D.rt v H → D'.rt v H) (hb : ∀ σ H, D.bk σ H → D'.bk σ H) (hc : ∀ σ H, D.ct σ H → D'.ct σ H) : SP X pins D' f s := by
  cases f with
  | next => obtain ⟨σ', H', I, q⟩ := h; exact ⟨σ', H', I, hn _ _ q⟩
  | brk => obtain ⟨σ', H', I, q⟩ := h; exact ⟨σ', H', I, hb _ _ q⟩
  | cont => obtain ⟨σ', H', I, q⟩ := h; exact ⟨σ', H', I, hc _ _ q⟩
  | ret u => obtain ⟨v, σ', H', I, r, q⟩ := h; exact ⟨v, σ', H', I, r, hr _ _ q⟩
end

/-! ### the judgements -/
def Av (B : Addr → Prop) (as : Ow) : Bool → Addr → Prop
  | true => AOf B as
  | false => B
theorem Av.sub {B : Addr → Prop} {as : Ow} {m : Bool} : ∀ a, Av B as m a → AOf B as a := fun a h => by
  cases m with
  | true => exact h
  | false => exact .inl h
theorem Av.base {B : Addr → Prop} {as : Ow} {m : Bool} : ∀ a, B a → Av B as m a := fun a h => by
  cases m with
  | true => exact .inl h
  | false => exact h
/-- e gives d -/
structure JE (X : Cx) (B : Addr → Prop) (H0 : Hp) (m : Bool) (sl : List Sl) (e : Expr) (d : D) : Prop where
  run : ∀ gh as σ H Q, SOK X.K B H0 gh as sl σ H → (∀ v H', Same H H' → Rp X.K (Av B as m) H' d v → Q v H') → tE X e σ H Q
/-- e gives a new list or dict -/
structure JF (X : Cx) (B : Addr → Prop) (H0 : Hp) (sl : List Sl) (e : Expr) (d : D) : Prop where
  run : ∀ gh as σ H Q, SOK X.K B H0 gh as sl σ H → (∀ p H', Same H H' → H p = none → RpO X.K (A1 (AOf B as) p) H' p d → Q (.ref p) H') → tE X e σ H Q
structure JT (X : Cx) (B : Addr → Prop) (H0 : Hp) (sl : List Sl) (e : Expr) (b : Bool) : Prop where
  run : ∀ gh as σ H Q, SOK X.K B H0 gh as sl σ H → (∀ H', Same H H' → Q b H') → tT X e σ H Q
structure JW (X : Cx) (B : Addr → Prop) (H0 : Hp) (sl : List Sl) (e : Expr) (b : Bool) : Prop where
  run : ∀ gh as σ H Q, SOK X.K B H0 gh as sl σ H → (∀ H', Same H H' → Q b H') → tW X e σ H Q
structure JA (X : Cx) (B : Addr → Prop) (H0 : Hp) (m : Bool) (sl : List Sl) (es : List Expr) (ds : List D) : Prop where
  run : ∀ gh as σ H Q, SOK X.K B H0 gh as sl σ H → (∀ vs H', Same H H' → RpL X.K (Av B as m) H' ds vs → Q vs H') → tA X es σ H Q
structure Po where
  nx : List Sl → Prop
  rt : D → Prop
  rf : D → Prop := fun _ => False
  bk : List Sl → Prop := fun _ => False
  ct : List Sl → Prop := fun _ => False
def stO (K : PySem.W.Frag) (B : Addr → Prop) (H0 : Hp) (gh : Gh) (P : List Sl → Prop) : L2.St → Hp → Prop := fun σ H => ∃ as sl, P sl ∧ SOK K B H0 gh as sl σ H
def eo (K : PySem.W.Frag) (B : Addr → Prop) (H0 : Hp) (gh : Gh) (P : Po) : Ends where
  nx := stO K B H0 gh P.nx
  rt v H := (∃ d, P.rt d ∧ Same H0 H ∧ Rp K B H d v) ∨ ∃ d p, P.rf d ∧ v = .ref p ∧ Same H0 H ∧ H0 p = none ∧ RpO K (A1 B p) H p d
  bk := stO K B H0 gh P.bk
  ct := stO K B H0 gh P.ct
structure JS (X : Cx) (B : Addr → Prop) (H0 : Hp) (sl : List Sl) (st : Stmt) (P : Po) : Prop where
  run : ∀ gh as σ H, SOK X.K B H0 gh as sl σ H → tS X st (eo X.K B H0 gh P) σ H
structure JSs (X : Cx) (B : Addr → Prop) (H0 : Hp) (sl : List Sl) (st : List Stmt) (P : Po) : Prop where
  run : ∀ gh as σ H, SOK X.K B H0 gh as sl σ H → tSs X st (eo X.K B H0 gh P) σ H

section
variable {X : Cx} {B : Addr → Prop} {H0 : Hp} {m m1 m2 : Bool} {sl : List Sl} {e a b : Expr} {d : D} {pos : Pos}
theorem JF.je (h : JF X B H0 sl e d) : JE X B H0 m sl e d := ⟨fun gh as σ H Q S q => h.run gh as σ H _ S fun p H' s hp r => q _ H' s (r.rp (fun z => by
  obtain ⟨o, ho⟩ := S.dom p (Av.sub p z)
  rw [hp] at ho
  cases ho) fun b hb => .inl (Av.sub b hb))⟩
theorem JE.lo (h : JE X B H0 m sl e d) : JE X B H0 false sl e d := ⟨fun gh as σ H Q S q => h.run gh as σ H _ S fun v H' s r => q v H' s (r.anti fun a ha => Av.base a ha)⟩
theorem JE.im (h : JE X B H0 m sl e d) (i : imm d = true) : JE X B H0 m1 sl e d := ⟨fun gh as σ H Q S q => h.run gh as σ H _ S fun v H' s r => q v H' s (r.im i)⟩
/-! names, constants -/
theorem je_var (i : Nat) {x : Str} (hN : X.N[i]? = some x) (hv : Vis X.env.scope x) (h : sl[i]? = some (.va d)) (hd : (x == ("__debug__" : Str)) = false := by decide) (hcd : (x == ("__classdict__" : Str)) = false := by decide) :
    JE X B H0 m sl (.Name x pos) d := ⟨fun gh as σ H Q S q => by
  obtain ⟨o, w, e1, e2, e3, v, e4, r⟩ := S.sls.get h
  subst e4
  exact PEt (pe_var hN hv hd hcd) ⟨v, e1, q v H (Same.refl H) (r.anti fun a ha => Av.sub a ha)⟩⟩
theorem je_ow (i : Nat) {x : Str} (hN : X.N[i]? = some x) (hv : Vis X.env.scope x) (h : sl[i]? = some (.ow d)) (hd : (x == ("__debug__" : Str)) = false := by decide) (hcd : (x == ("__classdict__" : Str)) = false := by decide) :
    JE X B H0 false sl (.Name x pos) d := ⟨fun gh as σ H Q S q => by
  obtain ⟨p, e1, e2, e3, r⟩ := S.at h
  exact PEt (pe_var hN hv hd hcd) ⟨_, e1, q _ H (Same.refl H) (r.rp (S.nB e3) fun b hb => .inl hb)⟩⟩
theorem je_int {i : Int} {j : Nat} : JE X B H0 m sl (.Constant (.int i) j pos) (.int i) := ⟨fun gh as σ H Q S q => PEt pe_int (q _ H (Same.refl H) rfl)⟩
theorem je_bl {i : Bool} {j : Nat} : JE X B H0 m sl (.Constant (.bool i) j pos) (.bl i) := ⟨fun gh as σ H Q S q => PEt pe_bl (q _ H (Same.refl H) rfl)⟩
theorem je_non {j : Nat} : JE X B H0 m sl (.Constant .none j pos) .non := ⟨fun gh as σ H Q S q => PEt pe_non (q _ H (Same.refl H) rfl)⟩
theorem je_str {x : Str} {j : Nat} : JE X B H0 m sl (.Constant (.str x) j pos) (.str x) := ⟨fun gh as σ H Q S q => PEt pe_str (q _ H (Same.refl H) rfl)⟩
theorem je_is {d' : D} (h : JE X B H0 m sl e d) (q : d = d') : JE X B H0 m sl e d' := q ▸ h
/-! two ints -/
theorem je_i2 {op : Operator} {C : Int → Int → Prop} {g : Int → Int → Int} {i j : Int} (ho : OpR X (binaryOp op) (rI C fun i j => .int (g i j))) (ha : JE X B H0 false sl a (.int i)) (hb : JE X B H0 false sl b (.int j)) (hc : C i j) :
    JE X B H0 m sl (.BinOp a op b pos) (.int (g i j)) := ⟨fun gh as σ H Q S q => PEt (pe_op ho pe_w pe_w) (ha.run gh as σ H _ S fun x H1 s1 r1 => hb.run gh as σ H1 _ (S.same s1) fun y H2 s2 r2 => ⟨i, j, r1, r2, hc, q _ H2 (s1.trans s2) rfl⟩)⟩
theorem je_i20 {op : Operator} {g : Int → Int → Int} {i j : Int} (ho : OpR X (binaryOp op) (rI0 fun i j => .int (g i j))) (ha : JE X B H0 false sl a (.int i)) (hb : JE X B H0 false sl b (.int j)) :
    JE X B H0 m sl (.BinOp a op b pos) (.int (g i j)) := ⟨fun gh as σ H Q S q => PEt (pe_op ho pe_w pe_w) (ha.run gh as σ H _ S fun x H1 s1 r1 => hb.run gh as σ H1 _ (S.same s1) fun y H2 s2 r2 => ⟨i, j, r1, r2, q _ H2 (s1.trans s2) rfl⟩)⟩
def MulOk (i j : Int) : Prop := CMulW i j ∨ CMul i j
theorem op_mulB : OpR X (binaryOp .Mult) (rI MulOk fun i j => .int (i * j)) := opI fun _ _ _ _ _ _ _ hc q => mul_int q (hc.elim CMulW.ok CMul.ok)
theorem je_add {i j : Int} (ha : JE X B H0 false sl a (.int i)) (hb : JE X B H0 false sl b (.int j)) : JE X B H0 m sl (.BinOp a .Add b pos) (.int (i + j)) := je_i20 op_add ha hb
theorem je_sub {i j : Int} (ha : JE X B H0 false sl a (.int i)) (hb : JE X B H0 false sl b (.int j)) : JE X B H0 m sl (.BinOp a .Sub b pos) (.int (i - j)) := je_i20 op_sub ha hb
theorem je_mul {i j : Int} (ha : JE X B H0 false sl a (.int i)) (hb : JE X B H0 false sl b (.int j)) (hc : MulOk i j) : JE X B H0 m sl (.BinOp a .Mult b pos) (.int (i * j)) := je_i2 op_mulB ha hb hc
theorem je_div {i j : Int} (ha : JE X B H0 false sl a (.int i)) (hb : JE X B H0 false sl b (.int j)) (hc : CDivX i j) : JE X B H0 m sl (.BinOp a .FloorDiv b pos) (.int (i / j)) := je_i2 op_fdivX ha hb hc
theorem je_mod {i j : Int} (ha : JE X B H0 false sl a (.int i)) (hb : JE X B H0 false sl b (.int j)) (hc : 0 < j) : JE X B H0 m sl (.BinOp a .Mod b pos) (.int (i % j)) := je_i2 op_mod ha hb hc
theorem je_modN {i j : Int} (ha : JE X B H0 false sl a (.int i)) (hb : JE X B H0 false sl b (.int j)) (hc : j ≠ 0) : JE X B H0 m sl (.BinOp a .Mod b pos) (.int (i.fmod j)) := je_i2 op_modN ha hb hc
theorem je_pow {i j : Int} (ha : JE X B H0 false sl a (.int i)) (hb : JE X B H0 false sl b (.int j)) (hc : CPow i j) : JE X B H0 m sl (.BinOp a .Pow b pos) (.int (i ^ j.toNat)) := je_i2 op_pow ha hb hc
theorem je_shr {i j : Int} (ha : JE X B H0 false sl a (.int i)) (hb : JE X B H0 false sl b (.int j)) (hc : 0 ≤ j) : JE X B H0 m sl (.BinOp a .RShift b pos) (.int (i / 2 ^ j.toNat)) := je_i2 (g := fun i j => i / 2 ^ j.toNat) op_shr ha hb hc
theorem je_and2 {i j : Int} (ha : JE X B H0 false sl a (.int i)) (hb : JE X B H0 false sl b (.int j)) : JE X B H0 m sl (.BinOp a .BitAnd b pos) (.int (Builtin.bitAnd i j)) := je_i20 op_and ha hb
theorem je_or2 {i j : Int} (ha : JE X B H0 false sl a (.int i)) (hb : JE X B H0 false sl b (.int j)) : JE X B H0 m sl (.BinOp a .BitOr b pos) (.int (Builtin.bitOr i j)) := je_i20 op_or ha hb
theorem je_neg {i : Int} (ha : JE X B H0 false sl a (.int i)) : JE X B H0 m sl (.UnaryOp .USub a pos) (.int (-i)) := ⟨fun gh as σ H Q S q => PEt (pe_un un_neg pe_w) (ha.run gh as σ H _ S fun x H1 s1 r1 => ⟨i, r1, q _ H1 s1 rfl⟩)⟩
theorem je_cat {x y : Str} (ha : JE X B H0 false sl a (.str x)) (hb : JE X B H0 false sl b (.str y)) (hl : x.length + y.length ≤ sizeLine) : JE X B H0 m sl (.BinOp a .Add b pos) (.str (x ++ y)) := ⟨fun gh as σ H Q S q =>
  PEt (pe_op op_add_str pe_w pe_w) (ha.run gh as σ H _ S fun x' H1 s1 r1 => hb.run gh as σ H1 _ (S.same s1) fun y' H2 s2 r2 => ⟨x, y, r1, r2, hl, q _ H2 (s1.trans s2) rfl⟩)⟩
/-! comparisons -/
theorem je_c2 {op : CmpOp} {g : Int → Int → Bool} {i j : Int} (ho : OpR X (compareOp op) (rI0 fun i j => .bl (g i j))) (hm : behindInMarks op b = false) (ha : JE X B H0 false sl a (.int i)) (hb : JE X B H0 false sl b (.int j)) :
    JE X B H0 m sl (.Compare a [op] [b] pos) (.bl (g i j)) := ⟨fun gh as σ H Q S q => PEt (pe_cmpR ho pe_w pe_w hm) (ha.run gh as σ H _ S fun x H1 s1 r1 => hb.run gh as σ H1 _ (S.same s1) fun y H2 s2 r2 => ⟨i, j, r1, r2, q _ H2 (s1.trans s2) rfl⟩)⟩
theorem jt_c2 {op : CmpOp} {g : Int → Int → Bool} {i j : Int} (ho : OpR X (compareOp op) (rI0 fun i j => .bl (g i j))) (hm : behindInMarks op b = false) (ha : JE X B H0 false sl a (.int i)) (hb : JE X B H0 false sl b (.int j)) :
    JT X B H0 sl (.Compare a [op] [b] pos) (g i j) := ⟨fun gh as σ H Q S q => PTt (pt_cmpR ho pe_w pe_w hm) (ha.run gh as σ H _ S fun x H1 s1 r1 => hb.run gh as σ H1 _ (S.same s1) fun y H2 s2 r2 => ⟨i, j, r1, r2, _, rfl, q H2 (s1.trans s2)⟩)⟩
theorem je_lt {i j : Int} (ha : JE X B H0 false sl a (.int i)) (hb : JE X B H0 false sl b (.int j)) : JE X B H0 m sl (.Compare a [.Lt] [b] pos) (.bl (decide (i < j))) := je_c2 op_lt (nomark _) ha hb
theorem je_le {i j : Int} (ha : JE X B H0 false sl a (.int i)) (hb : JE X B H0 false sl b (.int j)) : JE X B H0 m sl (.Compare a [.LtE] [b] pos) (.bl (decide (i ≤ j))) := je_c2 op_le (nomark _) ha hb
theorem je_gt {i j : Int} (ha : JE X B H0 false sl a (.int i)) (hb : JE X B H0 false sl b (.int j)) : JE X B H0 m sl (.Compare a [.Gt] [b] pos) (.bl (decide (j < i))) := je_c2 op_gt (nomark _) ha hb
theorem je_ge {i j : Int} (ha : JE X B H0 false sl a (.int i)) (hb : JE X B H0 false sl b (.int j)) : JE X B H0 m sl (.Compare a [.GtE] [b] pos) (.bl (decide (j ≤ i))) := je_c2 op_ge (nomark _) ha hb
theorem jt_lt {i j : Int} (ha : JE X B H0 false sl a (.int i)) (hb : JE X B H0 false sl b (.int j)) : JT X B H0 sl (.Compare a [.Lt] [b] pos) (decide (i < j)) := jt_c2 op_lt (nomark _) ha hb
theorem jt_le {i j : Int} (ha : JE X B H0 false sl a (.int i)) (hb : JE X B H0 false sl b (.int j)) : JT X B H0 sl (.Compare a [.LtE] [b] pos) (decide (i ≤ j)) := jt_c2 op_le (nomark _) ha hb
theorem jt_gt {i j : Int} (ha : JE X B H0 false sl a (.int i)) (hb : JE X B H0 false sl b (.int j)) : JT X B H0 sl (.Compare a [.Gt] [b] pos) (decide (j < i)) := jt_c2 op_gt (nomark _) ha hb
theorem jt_ge {i j : Int} (ha : JE X B H0 false sl a (.int i)) (hb : JE X B H0 false sl b (.int j)) : JT X B H0 sl (.Compare a [.GtE] [b] pos) (decide (j ≤ i)) := jt_c2 op_ge (nomark _) ha hb
/-- scalars -/
def scD : D → Option V
  | .non => some .non | .bl b => some (.bl b) | .int i => some (.int i) | .str x => some (.str x) | _ => none
theorem scD.rp {K : PySem.W.Frag} {A : Addr → Prop} {H : Hp} {d : D} {v w : V} (h : scD d = some w) (r : Rp K A H d v) : v = w := by
  cases d with
  | non => cases h; exact r
  | bl b => cases h; exact r
  | int b => cases h; exact r
  | str b => cases h; exact r
  | _ => cases h
theorem je_eqS {da db : D} {v w : V} (ha : JE X B H0 false sl a da) (hb : JE X B H0 false sl b db) (h1 : scD da = some v) (h2 : scD db = some w) (h3 : scal v w = true) : JE X B H0 m sl (.Compare a [.Eq] [b] pos) (.bl (decide (v = w))) := ⟨fun gh as σ H Q S q =>
  PEt (pe_cmpR op_eq pe_w pe_w (nomark _)) (ha.run gh as σ H _ S fun x H1 s1 r1 => hb.run gh as σ H1 _ (S.same s1) fun y H2 s2 r2 => by
    cases scD.rp h1 r1; cases scD.rp h2 r2
    exact ⟨h3, q _ H2 (s1.trans s2) rfl⟩)⟩
theorem je_neS {da db : D} {v w : V} (ha : JE X B H0 false sl a da) (hb : JE X B H0 false sl b db) (h1 : scD da = some v) (h2 : scD db = some w) (h3 : scal v w = true) : JE X B H0 m sl (.Compare a [.NotEq] [b] pos) (.bl (!decide (v = w))) := ⟨fun gh as σ H Q S q =>
  PEt (pe_cmpR op_ne pe_w pe_w (nomark _)) (ha.run gh as σ H _ S fun x H1 s1 r1 => hb.run gh as σ H1 _ (S.same s1) fun y H2 s2 r2 => by
    cases scD.rp h1 r1; cases scD.rp h2 r2
    exact ⟨h3, q _ H2 (s1.trans s2) rfl⟩)⟩
theorem jt_eqS {da db : D} {v w : V} (ha : JE X B H0 false sl a da) (hb : JE X B H0 false sl b db) (h1 : scD da = some v) (h2 : scD db = some w) (h3 : scal v w = true) : JT X B H0 sl (.Compare a [.Eq] [b] pos) (decide (v = w)) := ⟨fun gh as σ H Q S q =>
  PTt (pt_cmpR op_eq pe_w pe_w (nomark _)) (ha.run gh as σ H _ S fun x H1 s1 r1 => hb.run gh as σ H1 _ (S.same s1) fun y H2 s2 r2 => by
    cases scD.rp h1 r1; cases scD.rp h2 r2
    exact ⟨h3, _, rfl, q H2 (s1.trans s2)⟩)⟩
theorem jt_neS {da db : D} {v w : V} (ha : JE X B H0 false sl a da) (hb : JE X B H0 false sl b db) (h1 : scD da = some v) (h2 : scD db = some w) (h3 : scal v w = true) : JT X B H0 sl (.Compare a [.NotEq] [b] pos) (!decide (v = w)) := ⟨fun gh as σ H Q S q =>
  PTt (pt_cmpR op_ne pe_w pe_w (nomark _)) (ha.run gh as σ H _ S fun x H1 s1 r1 => hb.run gh as σ H1 _ (S.same s1) fun y H2 s2 r2 => by
    cases scD.rp h1 r1; cases scD.rp h2 r2
    exact ⟨h3, _, rfl, q H2 (s1.trans s2)⟩)⟩
theorem dec_vint {i j : Int} : decide (V.int i = V.int j) = decide (i = j) := by
  by_cases h : i = j
  · subst h; simp
  · rw [decide_eq_false h, decide_eq_false]; exact fun q => h (V.int.inj q)
theorem dec_vstr {i j : Str} : decide (V.str i = V.str j) = decide (i = j) := by
  by_cases h : i = j
  · subst h; simp
  · rw [decide_eq_false h, decide_eq_false]; exact fun q => h (V.str.inj q)
theorem dec_vbl {i j : Bool} : decide (V.bl i = V.bl j) = decide (i = j) := by
  by_cases h : i = j
  · subst h; simp
  · rw [decide_eq_false h, decide_eq_false]; exact fun q => h (V.bl.inj q)
theorem je_eqI {i j : Int} (ha : JE X B H0 false sl a (.int i)) (hb : JE X B H0 false sl b (.int j)) : JE X B H0 m sl (.Compare a [.Eq] [b] pos) (.bl (decide (i = j))) := by
  rw [← dec_vint]; exact je_eqS ha hb rfl rfl rfl
theorem je_neI {i j : Int} (ha : JE X B H0 false sl a (.int i)) (hb : JE X B H0 false sl b (.int j)) : JE X B H0 m sl (.Compare a [.NotEq] [b] pos) (.bl (!decide (i = j))) := by
  rw [← dec_vint]; exact je_neS ha hb rfl rfl rfl
theorem jt_eqI {i j : Int} (ha : JE X B H0 false sl a (.int i)) (hb : JE X B H0 false sl b (.int j)) : JT X B H0 sl (.Compare a [.Eq] [b] pos) (decide (i = j)) := by
  rw [← dec_vint]; exact jt_eqS ha hb rfl rfl rfl
theorem jt_neI {i j : Int} (ha : JE X B H0 false sl a (.int i)) (hb : JE X B H0 false sl b (.int j)) : JT X B H0 sl (.Compare a [.NotEq] [b] pos) (!decide (i = j)) := by
  rw [← dec_vint]; exact jt_neS ha hb rfl rfl rfl
theorem je_eqT {i j : Str} (ha : JE X B H0 false sl a (.str i)) (hb : JE X B H0 false sl b (.str j)) : JE X B H0 m sl (.Compare a [.Eq] [b] pos) (.bl (decide (i = j))) := by
  rw [← dec_vstr]; exact je_eqS ha hb rfl rfl rfl
theorem je_neT {i j : Str} (ha : JE X B H0 false sl a (.str i)) (hb : JE X B H0 false sl b (.str j)) : JE X B H0 m sl (.Compare a [.NotEq] [b] pos) (.bl (!decide (i = j))) := by
  rw [← dec_vstr]; exact je_neS ha hb rfl rfl rfl
theorem jt_eqT {i j : Str} (ha : JE X B H0 false sl a (.str i)) (hb : JE X B H0 false sl b (.str j)) : JT X B H0 sl (.Compare a [.Eq] [b] pos) (decide (i = j)) := by
  rw [← dec_vstr]; exact jt_eqS ha hb rfl rfl rfl
theorem jt_neT {i j : Str} (ha : JE X B H0 false sl a (.str i)) (hb : JE X B H0 false sl b (.str j)) : JT X B H0 sl (.Compare a [.NotEq] [b] pos) (!decide (i = j)) := by
  rw [← dec_vstr]; exact jt_neS ha hb rfl rfl rfl
theorem je_eqB {i j : Bool} (ha : JE X B H0 false sl a (.bl i)) (hb : JE X B H0 false sl b (.bl j)) : JE X B H0 m sl (.Compare a [.Eq] [b] pos) (.bl (decide (i = j))) := by
  rw [← dec_vbl]; exact je_eqS ha hb rfl rfl rfl
theorem jt_eqB {i j : Bool} (ha : JE X B H0 false sl a (.bl i)) (hb : JE X B H0 false sl b (.bl j)) : JT X B H0 sl (.Compare a [.Eq] [b] pos) (decide (i = j)) := by
  rw [← dec_vbl]; exact jt_eqS ha hb rfl rfl rfl
theorem jt_neB {i j : Bool} (ha : JE X B H0 false sl a (.bl i)) (hb : JE X B H0 false sl b (.bl j)) : JT X B H0 sl (.Compare a [.NotEq] [b] pos) (!decide (i = j)) := by
  rw [← dec_vbl]; exact jt_neS ha hb rfl rfl rfl
/-- a < b < c and its like -/
theorem jt_chI {op op' : CmpOp} {c : Expr} {g g' : Int → Int → Bool} {i j k : Int} (ho : OpR X (compareOp op) (rI0 fun i j => .bl (g i j))) (ho' : OpR X (compareOp op') (rI0 fun i j => .bl (g' i j)))
    (ha : JE X B H0 false sl a (.int i)) (hb : JE X B H0 false sl b (.int j)) (hc : JE X B H0 false sl c (.int k)) (hm : lastMarks [op, op'] [b, c] = false := by with_unfolding_all rfl) : JT X B H0 sl (.Compare a [op, op'] [b, c] pos) (g i j && g' j k) := ⟨fun gh as σ H Q S q =>
  PTt (pt_chain ho ho' pe_w pe_w pe_w (hm := hm)) (ha.run gh as σ H _ S fun x H1 s1 r1 => hb.run gh as σ H1 _ (S.same s1) fun y H2 s2 r2 => ⟨i, j, r1, r2, g i j, rfl, by
    cases h : g i j with
    | true =>
      refine hc.run gh as σ H2 _ (S.same (s1.trans s2)) fun z H3 s3 r3 => ⟨j, k, r2, r3, _, rfl, ?_⟩
      have := q H3 ((s1.trans s2).trans s3)
      rw [h] at this
      exact this
    | false =>
      have := q H2 (s1.trans s2)
      rw [h] at this
      exact ⟨false, rfl, this⟩⟩)⟩
theorem je_chI {op op' : CmpOp} {c : Expr} {g g' : Int → Int → Bool} {i j k : Int} (ho : OpR X (compareOp op) (rI0 fun i j => .bl (g i j))) (ho' : OpR X (compareOp op') (rI0 fun i j => .bl (g' i j)))
    (ha : JE X B H0 false sl a (.int i)) (hb : JE X B H0 false sl b (.int j)) (hc : JE X B H0 false sl c (.int k)) (hm : lastMarks [op, op'] [b, c] = false := by with_unfolding_all rfl) : JE X B H0 m sl (.Compare a [op, op'] [b, c] pos) (.bl (g i j && g' j k)) := ⟨fun gh as σ H Q S q =>
  PEt (pe_chain ho ho' pe_w pe_w pe_w (hm := hm)) (ha.run gh as σ H _ S fun x H1 s1 r1 => hb.run gh as σ H1 _ (S.same s1) fun y H2 s2 r2 => ⟨i, j, r1, r2, g i j, rfl, by
    cases h : g i j with
    | true =>
      refine hc.run gh as σ H2 _ (S.same (s1.trans s2)) fun z H3 s3 r3 => ⟨j, k, r2, r3, ?_⟩
      have := q (.bl (g i j && g' j k)) H3 ((s1.trans s2).trans s3) rfl
      rw [h] at this
      exact this
    | false =>
      have := q (.bl (g i j && g' j k)) H2 (s1.trans s2) rfl
      rw [h] at this
      exact this⟩)⟩
/-! tests -/
theorem JW.jt {v : Bool} (h : JW X B H0 sl e v) : JT X B H0 sl e v := ⟨fun gh as σ H Q S q => PTt (PW.pt pw_w) (h.run gh as σ H _ S q)⟩
theorem jt_val {v : Bool} (h : JE X B H0 false sl e (.bl v)) (he : ∀ whole, isTrue e X.env whole = (do let v ← whole; standAt e.pos; holding [v] (truthy v)) := by intro _; rfl) : JT X B H0 sl e v := ⟨fun gh as σ H Q S q =>
  PTt (pt_val pe_w he) (h.run gh as σ H _ S fun x H1 s1 r1 => ⟨v, r1, q H1 s1⟩)⟩
theorem jt_not {v : Bool} (h : JT X B H0 sl a v) : JT X B H0 sl (.UnaryOp .Not a pos) (!v) := ⟨fun gh as σ H Q S q => PTt (pt_not pt_w) (h.run gh as σ H _ S fun H1 s1 => q H1 s1)⟩
theorem jw_and1 {v : Bool} (h : JT X B H0 sl a v) : JW X B H0 sl (.BoolOp .And [a] pos) v := ⟨fun gh as σ H Q S q => PWt (pw_and1 pt_w) (h.run gh as σ H _ S q)⟩
theorem jw_or1 {v : Bool} (h : JT X B H0 sl a v) : JW X B H0 sl (.BoolOp .Or [a] pos) v := ⟨fun gh as σ H Q S q => PWt (pw_or1 pt_w) (h.run gh as σ H _ S q)⟩
theorem jw_and {rest : List Expr} {v w : Bool} (h : JT X B H0 sl a v) (h2 : v = true → JW X B H0 sl (.BoolOp .And (b :: rest) pos) w) : JW X B H0 sl (.BoolOp .And (a :: b :: rest) pos) (v && w) := ⟨fun gh as σ H Q S q =>
  PWt (pw_and pt_w pw_w) (h.run gh as σ H _ S fun H1 s1 => by
    cases v with
    | true => exact (h2 rfl).run gh as σ H1 _ (S.same s1) fun H2 s2 => q H2 (s1.trans s2)
    | false => exact q H1 s1)⟩
theorem jw_or {rest : List Expr} {v w : Bool} (h : JT X B H0 sl a v) (h2 : v = false → JW X B H0 sl (.BoolOp .Or (b :: rest) pos) w) : JW X B H0 sl (.BoolOp .Or (a :: b :: rest) pos) (v || w) := ⟨fun gh as σ H Q S q =>
  PWt (pw_or pt_w pw_w) (h.run gh as σ H _ S fun H1 s1 => by
    cases v with
    | false => exact (h2 rfl).run gh as σ H1 _ (S.same s1) fun H2 s2 => q H2 (s1.trans s2)
    | true => exact q H1 s1)⟩
theorem je_one {op : BoolOp} (h : JE X B H0 m sl a d) : JE X B H0 m sl (.BoolOp op [a] pos) d := ⟨fun gh as σ H Q S q => PEt (pe_one pe_w) (h.run gh as σ H _ S q)⟩
theorem je_and {rest : List Expr} {v w : Bool} (h : JE X B H0 false sl a (.bl v)) (h2 : v = true → JE X B H0 false sl (.BoolOp .And (b :: rest) pos) (.bl w)) : JE X B H0 m sl (.BoolOp .And (a :: b :: rest) pos) (.bl (v && w)) := ⟨fun gh as σ H Q S q =>
  PEt (pe_and pe_w pe_w) (h.run gh as σ H _ S fun x H1 s1 r1 => ⟨v, r1, by
    cases v with
    | true => exact (h2 rfl).run gh as σ H1 _ (S.same s1) fun y H2 s2 r2 => q y H2 (s1.trans s2) r2
    | false => exact q _ H1 s1 rfl⟩)⟩
theorem je_or {rest : List Expr} {v w : Bool} (h : JE X B H0 false sl a (.bl v)) (h2 : v = false → JE X B H0 false sl (.BoolOp .Or (b :: rest) pos) (.bl w)) : JE X B H0 m sl (.BoolOp .Or (a :: b :: rest) pos) (.bl (v || w)) := ⟨fun gh as σ H Q S q =>
  PEt (pe_or pe_w pe_w) (h.run gh as σ H _ S fun x H1 s1 r1 => ⟨v, r1, by
    cases v with
    | false => exact (h2 rfl).run gh as σ H1 _ (S.same s1) fun y H2 s2 r2 => q y H2 (s1.trans s2) r2
    | true => exact q _ H1 s1 rfl⟩)⟩
theorem je_not {v : Bool} (h : JE X B H0 false sl a (.bl v)) : JE X B H0 m sl (.UnaryOp .Not a pos) (.bl (!v)) := ⟨fun gh as σ H Q S q =>
  PEt (pe_not pe_w) (h.run gh as σ H _ S fun x H1 s1 r1 => ⟨v, r1, q _ H1 s1 rfl⟩)⟩
theorem je_ife {c : Expr} {v : Bool} (h : JT X B H0 sl c v) (h1 : v = true → JE X B H0 m sl a d) (h2 : v = false → JE X B H0 m sl b d) : JE X B H0 m sl (.IfExp c a b pos) d := ⟨fun gh as σ H Q S q =>
  PEt (pe_ifExp pt_w pe_w pe_w) (h.run gh as σ H _ S fun H1 s1 => by
    cases v with
    | true => exact (h1 rfl).run gh as σ H1 _ (S.same s1) fun y H2 s2 r2 => q y H2 (s1.trans s2) r2
    | false => exact (h2 rfl).run gh as σ H1 _ (S.same s1) fun y H2 s2 r2 => q y H2 (s1.trans s2) r2)⟩
theorem je_isN {v : Bool} (h : JE X B H0 false sl a d) (hv : (match d with | .non => true | _ => false) = v) {j : Nat} {pos' : Pos} : JE X B H0 m sl (.Compare a [.Is] [.Constant .none j pos'] pos) (.bl v) := ⟨fun gh as σ H Q S q =>
  PEt (pe_cmpR op_isN pe_w pe_non (nomark _)) (h.run gh as σ H _ S fun x H1 s1 r1 => ⟨rfl, by
    have e : decide (x = V.non) = v := by
      subst hv
      cases d with
      | non => cases (show x = .non from r1); rfl
      | bl _ => cases (show x = .bl _ from r1); rfl
      | int _ => cases (show x = .int _ from r1); rfl
      | str _ => cases (show x = .str _ from r1); rfl
      | tup _ => obtain ⟨_, _, rfl, _⟩ := r1; rfl
      | lst _ => obtain ⟨_, _, rfl, _⟩ := r1; rfl
      | fro _ => obtain ⟨_, _, rfl, _⟩ := r1; rfl
      | dct _ _ => obtain ⟨_, _, rfl, _⟩ := r1; rfl
    rw [e]
    exact q _ H1 s1 rfl⟩)⟩
theorem je_notN {v : Bool} (h : JE X B H0 false sl a d) (hv : (match d with | .non => false | _ => true) = v) {j : Nat} {pos' : Pos} : JE X B H0 m sl (.Compare a [.IsNot] [.Constant .none j pos'] pos) (.bl v) := ⟨fun gh as σ H Q S q =>
  PEt (pe_cmpR op_notN pe_w pe_non (nomark _)) (h.run gh as σ H _ S fun x H1 s1 r1 => ⟨rfl, by
    have e : (!decide (x = V.non)) = v := by
      subst hv
      cases d with
      | non => cases (show x = .non from r1); rfl
      | bl _ => cases (show x = .bl _ from r1); rfl
      | int _ => cases (show x = .int _ from r1); rfl
      | str _ => cases (show x = .str _ from r1); rfl
      | tup _ => obtain ⟨_, _, rfl, _⟩ := r1; rfl
      | lst _ => obtain ⟨_, _, rfl, _⟩ := r1; rfl
      | fro _ => obtain ⟨_, _, rfl, _⟩ := r1; rfl
      | dct _ _ => obtain ⟨_, _, rfl, _⟩ := r1; rfl
    rw [e]
    exact q _ H1 s1 rfl⟩)⟩
end
end PD
namespace PD
open PySem PySem.Spec PyProof.Rows L2
/-! ### what a def promises -/
inductive Out where
  | ok (d : D) | fr (d : D) | er (c : Addr)
abbrev FS := List D → Out → Prop
def spF (K : PySem.W.Frag) (F : FS) : Sp := fun vs H Q E => ∃ (B : Addr → Prop) (ds : List D) (o : Out), (∀ a, B a → ∃ u, H a = some u) ∧ RpL K B H ds vs ∧ F ds o ∧
  (∀ d, o = .ok d → ∀ v H', Same H H' → Rp K B H' d v → Q v H') ∧ (∀ d, o = .fr d → ∀ p H', Same H H' → H p = none → RpO K (A1 B p) H' p d → Q (.ref p) H') ∧
  (∀ c, o = .er c → ∀ H', Same H H' → E (.ref c) none H')
theorem Same.new {H : Hp} {p : Addr} {o : HO} (h : H p = none) : Same H (upd H p o) := fun a u e => by
  rw [upd_ne (ne_of_none e h)]
  exact e
section
variable {X : Cx} {B : Addr → Prop} {H0 : Hp} {m m1 m2 : Bool} {sl : List Sl} {e a b : Expr} {es : List Expr} {d da db : D} {ds : List D} {pos : Pos}
/-! arguments -/
theorem ja_nil : JA X B H0 m sl [] [] := ⟨fun gh as σ H Q S q => PAt pa_nil (q [] H (Same.refl H) rfl)⟩
theorem ja_cons (ha : JE X B H0 m sl e d) (hr : JA X B H0 m sl es ds) (hs : starEach (e :: es) X.env = (false, eval e X.env) :: starEach es X.env := by rfl) : JA X B H0 m sl (e :: es) (d :: ds) := ⟨fun gh as σ H Q S q =>
  PAt (pa_cons pe_w pa_w hs) (ha.run gh as σ H _ S fun x H1 s1 r1 => hr.run gh as σ H1 _ (S.same s1) fun xs H2 s2 r2 => q _ H2 (s1.trans s2) ⟨x, xs, rfl, r1.stp (.of s2), r2⟩)⟩
/-! displays -/
theorem je_tup {x1 : Nat} (h : JA X B H0 m sl es ds) (hl : ds.length ≤ sizeLine := by exact Nat.le_of_ble_eq_true rfl) : JE X B H0 m sl (.Tuple es x1 pos) (.tup ds) := ⟨fun gh as σ H Q S q =>
  PEt (pe_tup pa_w) (h.run gh as σ H _ S fun xs H1 s1 r1 => ⟨by rw [r1.len]; exact hl, fun p hp => q _ _ (s1.trans (Same.new hp)) ⟨p, xs, rfl, upd_same, r1.stp (.of (Same.new hp))⟩⟩)⟩
theorem RpL.A1 {K : PySem.W.Frag} {A : Addr → Prop} {H : Hp} {p : Addr} {xs : List V} (r : RpL K A H ds xs) (hp : H p = none) : RpL K (PD.A1 A p) H ds xs := r.more fun a o h ho => by
  rcases h with h | h
  · exact h
  · rw [h, hp] at ho
    cases ho
theorem jf_lst (h : JA X B H0 true sl es ds) (hl : ds.length ≤ sizeLine := by exact Nat.le_of_ble_eq_true rfl) : JF X B H0 sl (.List es pos) (.lst ds) := ⟨fun gh as σ H Q S q =>
  PEt (pe_lst pa_w) (h.run gh as σ H _ S fun xs H1 s1 r1 => ⟨by rw [r1.len]; exact hl, fun p hp => q p _ (s1.trans (Same.new hp)) (s1.free hp) ⟨xs, upd_same, (RpL.A1 r1 hp).stp (.of (Same.new hp))⟩⟩)⟩
/-! subscripts -/
theorem rpl_at {K : PySem.W.Frag} {A : Addr → Prop} {H : Hp} {xs : List V} {i : Int} (r : RpL K A H ds xs) (h : atI ds i = some d) : ∃ x, atI xs i = some x ∧ Rp K A H d x := by
  unfold atI at h ⊢
  rw [r.len]
  cases hj : ixN ds.length i with
  | none => rw [hj] at h; cases h
  | some j =>
    rw [hj] at h
    exact r.get h
theorem je_ixL {i : Int} (ha : JE X B H0 m sl a da) (hb : JE X B H0 false sl b (.int i)) (hr : RdL da ds) (h : atI ds i = some d) (hp : PlainIx b := by exact fun _ _ => rfl) : JE X B H0 m sl (.Subscript a b pos) d := ⟨fun gh as σ H Q S q =>
  PEt (pe_ix ix_list pe_w pe_w hp) (ha.run gh as σ H _ S fun x H1 s1 r1 => hb.run gh as σ H1 _ (S.same s1) fun y H2 s2 r2 => by
    obtain ⟨p, xs, rfl, hs, hl⟩ := hr.seq (r1.stp (.of s2))
    obtain ⟨z, e1, e2⟩ := rpl_at hl h
    exact ⟨p, xs, i, z, rfl, r2, hs, e1, q _ H2 (s1.trans s2) e2⟩)⟩
theorem je_ixT {i : Int} (ha : JE X B H0 m sl a (.tup ds)) (hb : JE X B H0 false sl b (.int i)) (h : atI ds i = some d) (hp : PlainIx b := by exact fun _ _ => rfl) : JE X B H0 m sl (.Subscript a b pos) d := ⟨fun gh as σ H Q S q =>
  PEt (pe_ix ix_tup pe_w pe_w hp) (ha.run gh as σ H _ S fun x H1 s1 r1 => hb.run gh as σ H1 _ (S.same s1) fun y H2 s2 r2 => by
    obtain ⟨p, xs, rfl, hs, hl⟩ := r1.stp (.of s2)
    obtain ⟨z, e1, e2⟩ := rpl_at hl h
    exact ⟨p, xs, i, z, rfl, r2, .inl (.inl hs), e1, q _ H2 (s1.trans s2) e2⟩)⟩
theorem je_ixS {i : Int} {z : Str} {c : Nat} (ha : JE X B H0 false sl a (.str z)) (hb : JE X B H0 false sl b (.int i)) (hl : z.length ≤ sizeLine) (h : atI z.cps.toList i = some c) (hp : PlainIx b := by exact fun _ _ => rfl) : JE X B H0 m sl (.Subscript a b pos) (.str ⟨#[c]⟩) := ⟨fun gh as σ H Q S q =>
  PEt (pe_ix ix_str pe_w pe_w hp) (ha.run gh as σ H _ S fun x H1 s1 r1 => hb.run gh as σ H1 _ (S.same s1) fun y H2 s2 r2 => ⟨z, i, c, r1, r2, hl, h, q _ H2 (s1.trans s2) rfl⟩)⟩
/-! built-ins -/
theorem je_cb {f x : Str} {id : String} {r : List V → Hp → VK → Prop} {p : Pos} (hc : CallR X (.builtin id) r) (hg : Gl X x) (hm : X.mg x = none) (hv : bootBuiltins x = some (.builtin id)) (ha : JA X B H0 m1 sl (e :: es) ds)
    (hr : ∀ as vs H Q, RpL X.K (Av B as m1) H ds vs → (∀ v H', Same H H' → Rp X.K (Av B as m) H' d v → Q v H') → r vs H Q) (hn : x ≠ "__name__" := by decide) (hdb : (x == ("__debug__" : Str)) = false := by decide)
    (he : starEach (e :: es) X.env = (false, eval e X.env) :: starEach es X.env := by rfl) (hpl : (backTo pos (starEach es X.env)).any (·.1) = false := by rfl) : JE X B H0 m sl (.Call (.Name x p) (e :: es) [] pos) d := ⟨fun gh as σ H Q S q =>
  PEt (pe_callB hc hg hm hv pa_w hn hdb he hpl) (ha.run gh as σ H _ S fun vs H1 s1 r1 => hr as vs H1 _ r1 fun v H2 s2 r2 => q v H2 (s1.trans s2) r2)⟩
theorem je_cty {x : Str} {T : String} {r : List V → Hp → VK → Prop} {p : Pos} (hc : CallR X (.type T) r) (hg : Gl X x) (hm : X.mg x = none) (hv : bootBuiltins x = some (.type T)) (ha : JA X B H0 m1 sl (e :: es) ds)
    (hr : ∀ as vs H Q, RpL X.K (Av B as m1) H ds vs → (∀ v H', Same H H' → Rp X.K (Av B as m) H' d v → Q v H') → r vs H Q) (hn : x ≠ "__name__" := by decide) (hdb : (x == ("__debug__" : Str)) = false := by decide)
    (he : starEach (e :: es) X.env = (false, eval e X.env) :: starEach es X.env := by rfl) (hpl : (backTo pos (starEach es X.env)).any (·.1) = false := by rfl) : JE X B H0 m sl (.Call (.Name x p) (e :: es) [] pos) d := ⟨fun gh as σ H Q S q =>
  PEt (pe_callTy hc hg hm hv pa_w hn hdb he hpl) (ha.run gh as σ H _ S fun vs H1 s1 r1 => hr as vs H1 _ r1 fun v H2 s2 r2 => q v H2 (s1.trans s2) r2)⟩
end
end PD
namespace PD
open PySem PySem.Spec PyProof.Rows L2
section
variable {X : Cx} {B : Addr → Prop} {H0 : Hp} {m m1 m2 : Bool} {sl : List Sl} {e a b : Expr} {es : List Expr} {d da db : D} {ds : List D} {pos p p2 : Pos}
theorem jf_cb {x : Str} {id : String} {r : List V → Hp → VK → Prop} (hc : CallR X (.builtin id) r) (hg : Gl X x) (hm : X.mg x = none) (hv : bootBuiltins x = some (.builtin id)) (ha : JA X B H0 m sl (e :: es) ds)
    (hr : ∀ as vs H Q, RpL X.K (Av B as m) H ds vs → (∀ p H', H p = none → Same H H' → RpO X.K (A1 (AOf B as) p) H' p d → Q (.ref p) H') → r vs H Q) (hn : x ≠ "__name__" := by decide) (hdb : (x == ("__debug__" : Str)) = false := by decide)
    (he : starEach (e :: es) X.env = (false, eval e X.env) :: starEach es X.env := by rfl) (hpl : (backTo pos (starEach es X.env)).any (·.1) = false := by rfl) : JF X B H0 sl (.Call (.Name x p) (e :: es) [] pos) d := ⟨fun gh as σ H Q S q =>
  PEt (pe_callB hc hg hm hv pa_w hn hdb he hpl) (ha.run gh as σ H _ S fun vs H1 s1 r1 => hr as vs H1 _ r1 fun v H2 hp s2 r2 => q v H2 (s1.trans s2) (s1.free hp) r2)⟩
theorem jf_cty {x : Str} {T : String} {r : List V → Hp → VK → Prop} (hc : CallR X (.type T) r) (hg : Gl X x) (hm : X.mg x = none) (hv : bootBuiltins x = some (.type T)) (ha : JA X B H0 m sl (e :: es) ds)
    (hr : ∀ as vs H Q, RpL X.K (Av B as m) H ds vs → (∀ p H', H p = none → Same H H' → RpO X.K (A1 (AOf B as) p) H' p d → Q (.ref p) H') → r vs H Q) (hn : x ≠ "__name__" := by decide) (hdb : (x == ("__debug__" : Str)) = false := by decide)
    (he : starEach (e :: es) X.env = (false, eval e X.env) :: starEach es X.env := by rfl) (hpl : (backTo pos (starEach es X.env)).any (·.1) = false := by rfl) : JF X B H0 sl (.Call (.Name x p) (e :: es) [] pos) d := ⟨fun gh as σ H Q S q =>
  PEt (pe_callTy hc hg hm hv pa_w hn hdb he hpl) (ha.run gh as σ H _ S fun vs H1 s1 r1 => hr as vs H1 _ r1 fun v H2 hp s2 r2 => q v H2 (s1.trans s2) (s1.free hp) r2)⟩
theorem je_abs {i : Int} (hg : Gl X "abs") (hm : X.mg "abs" = none) (ha : JA X B H0 false sl [a] [.int i]) (he : starEach [a] X.env = (false, eval a X.env) :: starEach [] X.env := by rfl) (hpl : (backTo pos (starEach [] X.env)).any (·.1) = false := by rfl) : JE X B H0 m sl (.Call (.Name "abs" p) [a] [] pos) (.int (if i < 0 then -i else i)) :=
  je_cb (f := "abs") call_abs hg hm boot_abs ha (he := he) (hpl := hpl) fun as vs H Q r q => by
    obtain ⟨x, r', rfl, h1, h2⟩ := r
    cases (show x = .int i from h1); cases (show r' = [] from h2)
    exact ⟨i, rfl, q _ H (Same.refl H) rfl⟩
theorem je_max2 {i j : Int} (hc : X.calm = true) (hg : Gl X "max") (hm : X.mg "max" = none) (ha : JA X B H0 false sl [a, b] [.int i, .int j]) (he : starEach [a, b] X.env = (false, eval a X.env) :: starEach [b] X.env := by rfl) (hpl : (backTo pos (starEach [b] X.env)).any (·.1) = false := by rfl) : JE X B H0 m sl (.Call (.Name "max" p) [a, b] [] pos) (.int (if j > i then j else i)) :=
  je_cb (f := "max") (call_max2 hc) hg hm boot_max ha (he := he) (hpl := hpl) fun as vs H Q r q => by
    obtain ⟨x, r', rfl, h1, y, r2, rfl, h2, h3⟩ := r
    cases (show x = .int i from h1); cases (show y = .int j from h2); cases (show r2 = [] from h3)
    exact ⟨i, j, rfl, q _ H (Same.refl H) rfl⟩
theorem je_min2 {i j : Int} (hc : X.calm = true) (hg : Gl X "min") (hm : X.mg "min" = none) (ha : JA X B H0 false sl [a, b] [.int i, .int j]) (he : starEach [a, b] X.env = (false, eval a X.env) :: starEach [b] X.env := by rfl) (hpl : (backTo pos (starEach [b] X.env)).any (·.1) = false := by rfl) : JE X B H0 m sl (.Call (.Name "min" p) [a, b] [] pos) (.int (if j < i then j else i)) :=
  je_cb (f := "min") (call_min2 hc) hg hm boot_min ha (he := he) (hpl := hpl) fun as vs H Q r q => by
    obtain ⟨x, r', rfl, h1, y, r2, rfl, h2, h3⟩ := r
    cases (show x = .int i from h1); cases (show y = .int j from h2); cases (show r2 = [] from h3)
    exact ⟨i, j, rfl, q _ H (Same.refl H) rfl⟩
theorem je_intB {k : Bool} (hg : Gl X "int") (hm : X.mg "int" = none) (ha : JA X B H0 false sl [a] [.bl k]) (he : starEach [a] X.env = (false, eval a X.env) :: starEach [] X.env := by rfl) (hpl : (backTo pos (starEach [] X.env)).any (·.1) = false := by rfl) : JE X B H0 m sl (.Call (.Name "int" p) [a] [] pos) (.int (if k then 1 else 0)) :=
  je_cty call_int1 hg hm boot_int ha (he := he) (hpl := hpl) fun as vs H Q r q => by
    obtain ⟨x, r', rfl, h1, h2⟩ := r
    cases (show x = .bl k from h1); cases (show r' = [] from h2)
    exact .inr ⟨k, rfl, q _ H (Same.refl H) rfl⟩
theorem je_strI {i : Int} (hg : Gl X "str") (hm : X.mg "str" = none) (ha : JA X B H0 false sl [a] [.int i]) (hl : i.natAbs.log2 < 1920) (he : starEach [a] X.env = (false, eval a X.env) :: starEach [] X.env := by rfl) (hpl : (backTo pos (starEach [] X.env)).any (·.1) = false := by rfl) : JE X B H0 m sl (.Call (.Name "str" p) [a] [] pos) (.str (toString i)) :=
  je_cty call_str_int hg hm boot_str ha (he := he) (hpl := hpl) fun as vs H Q r q => by
    obtain ⟨x, r', rfl, h1, h2⟩ := r
    cases (show x = .int i from h1); cases (show r' = [] from h2)
    exact ⟨i, rfl, hl, q _ H (Same.refl H) rfl⟩
theorem je_lenL (hg : Gl X "len") (hm : X.mg "len" = none) (ha : JA X B H0 false sl [a] [da]) (hr : RdL da ds) (he : starEach [a] X.env = (false, eval a X.env) :: starEach [] X.env := by rfl) (hpl : (backTo pos (starEach [] X.env)).any (·.1) = false := by rfl) : JE X B H0 m sl (.Call (.Name "len" p) [a] [] pos) (.int ds.length) :=
  je_cb (f := "len") call_len_seq hg hm PySem.boot_len ha (he := he) (hpl := hpl) fun as vs H Q r q => by
    obtain ⟨x, r', rfl, h1, h2⟩ := r
    cases (show r' = [] from h2)
    obtain ⟨p, xs, rfl, hs, hl⟩ := hr.seq h1
    exact ⟨p, xs, rfl, .inl hs, by rw [hl.len]; exact q _ H (Same.refl H) rfl⟩
theorem je_lenT (hg : Gl X "len") (hm : X.mg "len" = none) (ha : JA X B H0 false sl [a] [.tup ds]) (he : starEach [a] X.env = (false, eval a X.env) :: starEach [] X.env := by rfl) (hpl : (backTo pos (starEach [] X.env)).any (·.1) = false := by rfl) : JE X B H0 m sl (.Call (.Name "len" p) [a] [] pos) (.int ds.length) :=
  je_cb (f := "len") call_len_seq hg hm PySem.boot_len ha (he := he) (hpl := hpl) fun as vs H Q r q => by
    obtain ⟨x, r', rfl, h1, h2⟩ := r
    cases (show r' = [] from h2)
    obtain ⟨p, xs, rfl, hs, hl⟩ := h1
    exact ⟨p, xs, rfl, .inr (.inl (.inl hs)), by rw [hl.len]; exact q _ H (Same.refl H) rfl⟩
theorem je_lenS {z : Str} (hg : Gl X "len") (hm : X.mg "len" = none) (ha : JA X B H0 false sl [a] [.str z]) (hz : z.length ≤ sizeLine) (he : starEach [a] X.env = (false, eval a X.env) :: starEach [] X.env := by rfl) (hpl : (backTo pos (starEach [] X.env)).any (·.1) = false := by rfl) : JE X B H0 m sl (.Call (.Name "len" p) [a] [] pos) (.int z.length) :=
  je_cb (f := "len") call_len_str hg hm PySem.boot_len ha (he := he) (hpl := hpl) fun as vs H Q r q => by
    obtain ⟨x, r', rfl, h1, h2⟩ := r
    cases (show x = .str z from h1); cases (show r' = [] from h2)
    exact ⟨z, rfl, hz, q _ H (Same.refl H) rfl⟩
/-! isinstance -/
def tyD : D → String
  | .non => "NoneType" | .bl _ => "bool" | .int _ => "int" | .str _ => "str" | .tup _ => "tuple" | .lst _ => "list" | .fro _ => "list" | .dct _ _ => "dict"
theorem tyD.ok {K : PySem.W.Frag} {A : Addr → Prop} {H : Hp} {v : V} (h : Rp K A H d v) : TyX K H v (.type (tyD d)) := by
  cases d with
  | non => cases (show v = .non from h); exact .base .non
  | bl b => cases (show v = .bl b from h); exact .base (.bl b)
  | int b => cases (show v = .int b from h); exact .base (.int b)
  | str b => cases (show v = .str b from h); exact .base (.str b)
  | tup ds =>
    obtain ⟨a, xs, rfl, t, l⟩ := h
    exact .base (.tup t)
  | lst ds =>
    obtain ⟨a, xs, rfl, t, l⟩ := h
    exact .base (.lst t)
  | fro ds =>
    obtain ⟨a, xs, rfl, t, l⟩ := h
    rcases t with ⟨o, t⟩ | ⟨o, its, n, t, c, _⟩
    · exact .base (.frz t)
    · exact .kList t c
  | dct ks ds =>
    obtain ⟨a, xs, rfl, t, l⟩ := h
    exact .base (.dT t)
/-- a builtin's class as an argument -/
theorem je_isi {c : Str} {n : String} {r : Bool} (hg : Gl X "isinstance") (hm : X.mg "isinstance" = none) (hg2 : Gl X c) (hm2 : X.mg c = none) (hv2 : bootBuiltins c = some (.type n)) (ha : JE X B H0 false sl a d) (hk : kitB (tyD d) n = some r)
    (hn : c ≠ "__name__" := by decide) (hdb : (c == ("__debug__" : Str)) = false := by decide)
    (he : starEach [a, .Name c p2] X.env = (false, eval a X.env) :: starEach [.Name c p2] X.env := by rfl) (he2 : starEach [.Name c p2] X.env = (false, eval (.Name c p2) X.env) :: starEach [] X.env := by rfl) (hpl : (backTo pos (starEach [.Name c p2] X.env)).any (·.1) = false := by rfl) :
    JE X B H0 m sl (.Call (.Name "isinstance" p) [a, .Name c p2] [] pos) (.bl r) := ⟨fun gh as σ H Q S q =>
  PEt (pe_callB call_isi hg hm boot_isinstance (pa_cons pe_w (pa_cons (pe_bltn (v := .ty n) hg2 hm2 hv2 rfl hn hdb) pa_nil he2) he) (by decide) (by decide) he hpl) (ha.run gh as σ H _ S fun x H1 s1 r1 =>
    ⟨x, .ty n, _, _, r, rfl, .ty n, tyD.ok r1, kit_ty hk, q _ H1 s1 rfl⟩)⟩
end
end PD
namespace PD
open PySem PySem.Spec PyProof.Rows L2
section
variable {X : Cx} {B : Addr → Prop} {H0 : Hp} {m m1 m2 : Bool} {sl sl' : List Sl} {e a b c : Expr} {es : List Expr} {d da db : D} {ds : List D} {pos p p2 px : Pos} {P : Po} {st : Stmt} {rest body : List Stmt} {x y : Str}
/-! ### targets -/
def tG (X : Cx) (tg : Expr) : TG := fun v σ H Q => ∀ pins s u, Inv X pins σ H s → RelV v u → wpAny (model X.prog X.w) X.A (assign tg X.env u) (fun _ s' => ∃ σ' H', Inv X pins σ' H' s' ∧ Q σ' H') X.xe s
theorem pg_w {tg : Expr} : PG X tg (tG X tg) := ⟨fun pins s _ _ _ u _ I r h => h pins s u I r⟩
theorem PGt {tg : Expr} {t : TG} (h : PG X tg t) {v : V} {σ : L2.St} {H : Hp} {Q : L2.St → Hp → Prop} (q : t v σ H Q) : tG X tg v σ H Q := fun pins s u I r => h.run pins s σ H v u Q I r q
/-- only the slots vs are written -/
def Fra (vs : List Nat) (σ σ' : L2.St) : Prop := σ'.length = σ.length ∧ ∀ (j : Nat), j ∉ vs → σ'[j]? = σ[j]?
/-- the target takes d: the slots behind; only the slots vs are written -/
structure JG (X : Cx) (B : Addr → Prop) (H0 : Hp) (vs : List Nat) (tg : Expr) (d : D) (sl sl' : List Sl) : Prop where
  run : ∀ gh as σ H v Q, SOK X.K B H0 gh as sl σ H → Rp X.K (AOf B as) H d v → (∀ as' σ', SOK X.K B H0 gh as' sl' σ' H → Fra vs σ σ' → (∀ a, AOf B as' a → AOf B as a) → Q σ' H) → tG X tg v σ H Q
theorem jg_name (i : Nat) {vs : List Nat} (hN : X.N.Nodup) (hi : X.N[i]? = some x) (hx : Loc X.env.scope x) (hv : i ∈ vs := by simp) (hf : X.fn x = true ∨ X.env.scope.names.lookup x = some .local := by first | exact .inl rfl | exact .inr rfl) : JG X B H0 vs (.Name x pos) d sl (sl.set i (.va d)) := ⟨fun gh as σ H v Q S r q =>
  PGt (pg_name hN hi hx hf) (q _ _ (S.put r) ⟨by rw [List.length_set], fun j hj => by rw [List.getElem?_set_ne (fun z : i = j => hj (by rw [← z]; exact hv))]⟩ fun a => AOf.unset a)⟩
/-- several names -/
structure JGs (X : Cx) (B : Addr → Prop) (H0 : Hp) (vs : List Nat) (tgs : List Expr) (ds : List D) (sl sl' : List Sl) : Prop where
  run : ∀ gh as σ H xs (us : List Value) pins s (Q : L2.St → Hp → Prop), SOK X.K B H0 gh as sl σ H → RpL X.K (AOf B as) H ds xs → (∀ as' σ', SOK X.K B H0 gh as' sl' σ' H → Fra vs σ σ' → (∀ a, AOf B as' a → AOf B as a) → Q σ' H) → Inv X pins σ H s → Vals xs us →
    wpAny (model X.prog X.w) X.A (assignInOrder ((assignEach tgs X.env).map (·.2)) us) (fun _ s' => ∃ σ' H', Inv X pins σ' H' s' ∧ Q σ' H') X.xe s
theorem jgs_nil {vs : List Nat} : JGs X B H0 vs [] [] sl sl := ⟨fun gh as σ H xs us pins s Q S r q I hv => by
  cases (show xs = [] from r)
  exact (pgs_nil (X := X)).run pins s σ H [] us Q I hv ⟨rfl, q as σ S ⟨rfl, fun _ _ => rfl⟩ fun _ h => h⟩⟩
def tGs (X : Cx) (tgs : List Expr) : TGs := fun xs σ H Q => ∀ pins s us, Inv X pins σ H s → Vals xs us → wpAny (model X.prog X.w) X.A (assignInOrder ((assignEach tgs X.env).map (·.2)) us) (fun _ s' => ∃ σ' H', Inv X pins σ' H' s' ∧ Q σ' H') X.xe s
theorem pgs_w {tgs : List Expr} : PGs X tgs (tGs X tgs) := ⟨fun pins s _ _ _ us _ I r h => h pins s us I r⟩
theorem jgs_cons {vs : List Nat} {tg : Expr} {tgs : List Expr} {sl1 : List Sl} (h1 : JG X B H0 vs tg d sl sl1) (h2 : JGs X B H0 vs tgs ds sl1 sl')
    (hs : (assignEach (tg :: tgs) X.env).map (·.2) = assign tg X.env :: (assignEach tgs X.env).map (·.2) := by rfl) : JGs X B H0 vs (tg :: tgs) (d :: ds) sl sl' := ⟨fun gh as σ H xs us pins s Q S r q I hv => by
  obtain ⟨z, zs, rfl, r1, r2⟩ := r
  refine (pgs_cons pg_w pgs_w hs).run pins s σ H (z :: zs) us Q I hv ⟨z, zs, rfl, ?_⟩
  refine h1.run gh as σ H z _ S r1 fun as' σ' S' k sb => ?_
  intro pins' s' us' I' hv'
  exact h2.run gh as' σ' H zs us' pins' s' Q S' (r2.anti sb) (fun as2 σ2 S2 k2 sb2 => q as2 σ2 S2 ⟨k2.1.trans k.1, fun j hj => (k2.2 j hj).trans (k.2 j hj)⟩ fun a h => sb a (sb2 a h)) I' hv'⟩
theorem jg_tup {vs : List Nat} {n k : Nat} (hc : X.calm = true) (h : JGs X B H0 vs es ds sl sl') (hl : ds.length = n) (hn : (assignEach es X.env).length = n := by rfl) (hst : (assignEach es X.env).findIdx? (·.1) = none := by rfl) : JG X B H0 vs (.Tuple es k pos) (.tup ds) sl sl' := ⟨fun gh as σ H v Q S r q => by
  obtain ⟨t, xs, rfl, ht, hx⟩ := r
  refine PGt (pg_tup hc pgs_w hn hst) ⟨t, xs, rfl, .inl (.inl ht), by rw [hx.len]; exact hl, fun pins s us I hv => ?_⟩
  exact h.run gh as σ H xs us pins s Q S hx q I hv⟩
/-! ### statements -/
theorem JS.to {P' : Po} (h : JS X B H0 sl st P) (hn : ∀ s, P.nx s → P'.nx s) (hr : ∀ d, P.rt d → P'.rt d) (hf : ∀ d, P.rf d → P'.rf d) (hb : ∀ s, P.bk s → P'.bk s) (hc : ∀ s, P.ct s → P'.ct s) : JS X B H0 sl st P' := ⟨fun gh as σ H S pins s I =>
  thn (h.run gh as σ H S pins s I) fun f s' q => SPm q (fun _ _ ⟨as, sl, p, S⟩ => ⟨as, sl, hn _ p, S⟩) (fun _ _ z => z.imp (fun ⟨d, p, q⟩ => ⟨d, hr _ p, q⟩) fun ⟨d, a, p, q⟩ => ⟨d, a, hf _ p, q⟩) (fun _ _ ⟨as, sl, p, S⟩ => ⟨as, sl, hb _ p, S⟩) (fun _ _ ⟨as, sl, p, S⟩ => ⟨as, sl, hc _ p, S⟩)⟩
theorem jss_nil (h : P.nx sl) : JSs X B H0 sl [] P := ⟨fun gh as σ H S => PSst pss_nil ⟨as, sl, h, S⟩⟩
theorem jss_cons (M : List Sl → Prop) (h : JS X B H0 sl st { P with nx := M }) (k : ∀ s, M s → JSs X B H0 s rest P) : JSs X B H0 sl (st :: rest) P := ⟨fun gh as σ H S => PSst (pss_cons ps_w pss_w) (fun pins s I =>
  thn (h.run gh as σ H S pins s I) fun f s' q => SPm q (fun σ' H' ⟨as', sl', p, S'⟩ => (k sl' p).run gh as' σ' H' S') (fun _ _ z => z) (fun _ _ z => z) (fun _ _ z => z))⟩
theorem jss_one (h : JS X B H0 sl st P) : JSs X B H0 sl [st] P := jss_cons P.nx h fun _ p => jss_nil p
theorem js_pass (h : P.nx sl) : JS X B H0 sl (.Pass pos) P := ⟨fun gh as σ H S => PSt ps_pass ⟨as, sl, h, S⟩⟩
theorem js_break (h : P.bk sl) : JS X B H0 sl (.Break pos) P := ⟨fun gh as σ H S => PSt ps_break ⟨as, sl, h, S⟩⟩
theorem js_cont (h : P.ct sl) : JS X B H0 sl (.Continue pos) P := ⟨fun gh as σ H S => PSt ps_continue ⟨as, sl, h, S⟩⟩
theorem js_ret (he : JE X B H0 m sl e d) (h : P.rt d) : JS X B H0 sl (.Return (some e) pos) P := ⟨fun gh as σ H S => PSt (ps_ret pe_w) (he.lo.run gh as σ H _ S fun v H1 s1 r1 => .inl ⟨d, h, S.ex.trans s1, r1⟩)⟩
theorem js_retN (h : P.rt .non) : JS X B H0 sl (.Return none pos) P := ⟨fun gh as σ H S => PSt ps_retN (.inl ⟨.non, h, S.ex, rfl⟩)⟩
theorem RpO.lo {K : PySem.W.Frag} {A A' : Addr → Prop} {H : Hp} {p : Addr} (h : RpO K A H p d) (s : ∀ a, A' a → A a) : RpO K A' H p d := h.to (fun _ q => q) fun r => r.anti s
theorem js_retF (he : JF X B H0 sl e d) (h : P.rf d) : JS X B H0 sl (.Return (some e) pos) P := ⟨fun gh as σ H S => PSt (ps_ret pe_w) (he.run gh as σ H _ S fun p H1 s1 hp r1 => .inr ⟨d, p, h, rfl, S.ex.trans s1, S.ex.free hp, r1.lo fun a ha => ha.imp .inl id⟩)⟩
/-- return of an own list -/
theorem js_retO (i : Nat) (hN : X.N[i]? = some x) (hv : Vis X.env.scope x) (hs : sl[i]? = some (.ow d)) (h : P.rf d) (hd : (x == ("__debug__" : Str)) = false := by decide) (hcd : (x == ("__classdict__" : Str)) = false := by decide) : JS X B H0 sl (.Return (some (.Name x p)) pos) P := ⟨fun gh as σ H S => by
  obtain ⟨q, e1, e2, e3, r⟩ := S.at hs
  exact PSt (ps_ret (pe_var hN hv hd hcd)) ⟨_, e1, .inr ⟨d, q, h, rfl, S.ex, e3, r.lo fun a ha => ha.elim .inl fun z => z ▸ .inr e2⟩⟩⟩
theorem js_if {v : Bool} (hc : JT X B H0 sl c v) (h1 : v = true → JSs X B H0 sl body P) (h2 : v = false → JSs X B H0 sl rest P) : JS X B H0 sl (.If c body rest pos) P := ⟨fun gh as σ H S => PSt (ps_if pt_w pss_w pss_w) (hc.run gh as σ H _ S fun H1 s1 => by
  cases v with
  | true => exact (h1 rfl).run gh as σ H1 (S.same s1)
  | false => exact (h2 rfl).run gh as σ H1 (S.same s1))⟩
theorem js_set (i : Nat) (hN : X.N.Nodup) (hi : X.N[i]? = some x) (hx : Loc X.env.scope x) (he : JE X B H0 true sl e d) (h : P.nx (sl.set i (.va d))) (hs : swapsWith e (some (.Name x px)) pos.line X.env = pure false := by rfl)
    (hf : X.fn x = true ∨ X.env.scope.names.lookup x = some .local := by first | exact .inl rfl | exact .inr rfl) : JS X B H0 sl (.Assign [.Name x px] e pos) P := ⟨fun gh as σ H S => PSt (ps_set hN hi hx pe_w hs hf) (he.run gh as σ H _ S fun v H1 s1 r1 => ⟨_, _, h, (S.same s1).put r1⟩)⟩
theorem js_setF (i : Nat) (hN : X.N.Nodup) (hi : X.N[i]? = some x) (hx : Loc X.env.scope x) (he : JF X B H0 sl e d) (h : P.nx (sl.set i (.ow d))) (hs : swapsWith e (some (.Name x px)) pos.line X.env = pure false := by rfl)
    (hf : X.fn x = true ∨ X.env.scope.names.lookup x = some .local := by first | exact .inl rfl | exact .inr rfl) : JS X B H0 sl (.Assign [.Name x px] e pos) P := ⟨fun gh as σ H S => PSt (ps_set hN hi hx pe_w hs hf) (he.run gh as σ H _ S fun q H1 s1 hq r1 => ⟨_, _, h, S.putO hq s1 r1⟩)⟩
/-- a, b = x, y -/
theorem js_par (i j : Nat) {pt pt2 py : Pos} {kt k2 : Nat} (hc : X.calm = true) (hN : X.N.Nodup) (hi : X.N[i]? = some x) (hj : X.N[j]? = some y) (hij : i ≠ j) (hx : X.env.scope.names.lookup x = some .local) (hy : X.env.scope.names.lookup y = some .local)
    (ha : JA X B H0 true sl [a, b] [da, db]) (h : P.nx ((sl.set i (.va da)).set j (.va db))) (hw : swappedStores [.Tuple [.Name x px, .Name y py] kt pt] (.Tuple [a, b] k2 pt2) X.env = pure (some [x, y]))
    (hs : swapsWithSole [.Tuple [.Name x px, .Name y py] kt pt] (.Tuple [a, b] k2 pt2) pos.line X.env = pure false := by rfl) : JS X B H0 sl (.Assign [.Tuple [.Name x px, .Name y py] kt pt] (.Tuple [a, b] k2 pt2) pos) P := ⟨fun gh as σ H S =>
  PSt (ps_par hc hN hi hj hij hx hy pa_w hw hs) (ha.run gh as σ H _ S fun vs H1 s1 r1 => by
    obtain ⟨z, r', rfl, r2, w, r3, rfl, r4, r5⟩ := r1
    cases (show r3 = [] from r5)
    exact ⟨z, w, rfl, _, _, h, ((S.same s1).put r2).put (r4.anti AOf.unset)⟩)⟩
/-- target = value -/
theorem js_asg {vs : List Nat} {tg : Expr} (he : JE X B H0 true sl e d) (hg : JG X B H0 vs tg d sl sl') (h : P.nx sl') (hs : swapsWithSole [tg] e pos.line X.env = pure false := by rfl) (hw : swappedStores [tg] e X.env = pure none := by rfl)
    (h1 : (assignEach [tg] X.env).map (·.2) = [assign tg X.env] := by rfl) : JS X B H0 sl (.Assign [tg] e pos) P := ⟨fun gh as σ H S => PSt (ps_asg pe_w pg_w hs hw h1) (he.run gh as σ H _ S fun v H1 s1 r1 => hg.run gh as σ H1 v _ (S.same s1) r1 fun as' σ' S' _ _ => ⟨as', _, h, S'⟩)⟩
/-- name += e on ints -/
theorem js_augI (i : Nat) {op : Operator} {f : Int → Int → Int} {n k : Int} (hN : X.N.Nodup) (hi : X.N[i]? = some x) (hx : Loc X.env.scope x) (ho : PIp X op (ipI f)) (hv : sl[i]? = some (.va (.int n))) (he : JE X B H0 false sl e (.int k)) (h : P.nx (sl.set i (.va (.int (f n k)))))
    (hf : X.fn x = true ∨ X.env.scope.names.lookup x = some .local := by first | exact .inl rfl | exact .inr rfl) : JS X B H0 sl (.AugAssign (.Name x px) op e pos) P := ⟨fun gh as σ H S => by
  obtain ⟨o, w, e1, e2, e3, v, e4, r⟩ := S.sls.get hv
  subst e4
  cases (show v = .int n from r)
  exact PSt (ps_aug hN hi hx pe_w ho hf) ⟨_, e1, he.run gh as σ H _ S fun z H1 s1 r1 => ⟨n, k, rfl, r1, _, _, h, (S.same s1).put rfl⟩⟩⟩
/-- a value is dropped -/
theorem js_drop (he : JE X B H0 m sl e d) (h : P.nx sl) (hs : swapsWith e none pos.line X.env = pure false := by rfl) : JS X B H0 sl (.Expr e pos) P := ⟨fun gh as σ H S => PSt (ps_expr pe_w hs) (he.run gh as σ H _ S fun v H1 s1 _ => ⟨as, sl, h, S.same s1⟩)⟩
/-- an own list is own no more -/
theorem jss_fz (i : Nat) {sts : List Stmt} (hs : sl[i]? = some (.ow d)) (h : JSs X B H0 (sl.set i (.va d)) sts P) : JSs X B H0 sl sts P := ⟨fun gh as σ H S => h.run gh _ σ H (S.fz hs)⟩
theorem jss_un (i : Nat) {sts : List Stmt} (h : JSs X B H0 (sl.set i .un) sts P) : JSs X B H0 sl sts P := ⟨fun gh as σ H S => h.run gh _ σ H (by
  have := S.drop (i := i) (o := σ[i]?.getD none)
  have e : σ.set i (σ[i]?.getD none) = σ := by
    apply List.ext_getElem?
    intro j
    by_cases z : i = j
    · subst z
      rw [List.getElem?_set]
      simp only [if_true]
      split
      · rename_i hl
        rw [List.getElem?_eq_getElem hl]
        rfl
      · rename_i hl
        rw [List.getElem?_eq_none_iff.mpr (by omega)]
    · rw [List.getElem?_set_ne z]
  rw [e] at this
  exact this)⟩
theorem jss_eq {sts : List Stmt} (q : sl = sl') (h : JSs X B H0 sl' sts P) : JSs X B H0 sl sts P := q ▸ h
/-! while -/
theorem js_while (W : Nat → List Sl → Prop) (m0 : Nat) (w0 : W m0 sl) (hp : PassesOwn (model X.prog X.w) X.A X.env X.xe)
    (step : ∀ n s, W n s → ∃ v, JT X B H0 s c v ∧ (v = true → JSs X B H0 s body { P with nx := fun s' => ∃ n', n' < n ∧ W n' s', ct := fun s' => ∃ n', n' < n ∧ W n' s', bk := P.nx }) ∧ (v = false → P.nx s)) : JS X B H0 sl (.While c body [] pos) P := ⟨fun gh as σ H S =>
  PSt (ps_while hp pt_w pss_w) ⟨fun n => stO X.K B H0 gh (W n), ⟨m0, as, sl, w0, S⟩, fun n σ' H' ⟨as', s, w, S'⟩ => by
    obtain ⟨v, h1, h2, h3⟩ := step n s w
    refine h1.run gh as' σ' H' _ S' fun H1 s1 => ?_
    cases v with
    | true =>
      show ∃ N : L2.St → Hp → Prop, _
      refine ⟨fun σ2 H2 => ∃ n', n' < n ∧ stO X.K B H0 gh (W n') σ2 H2, fun _ _ z => z, fun pins s I => ?_⟩
      refine thn ((h2 rfl).run gh as' σ' H1 (S'.same s1) pins s I) fun f s' q => SPm q (fun _ _ ⟨as, sl, ⟨n', l, p⟩, S⟩ => ⟨n', l, as, sl, p, S⟩) (fun _ _ z => z) (fun _ _ z => z) (fun _ _ ⟨as, sl, ⟨n', l, p⟩, S⟩ => ⟨n', l, as, sl, p, S⟩)
    | false => exact ⟨as', s, h3 rfl, S'.same s1⟩⟩⟩
/-! what is walked -/
def tI (X : Cx) (tg iter : Expr) : TI := fun σ H R => ∀ pins s, Inv X pins σ H s → wpAny (model X.prog X.w) X.A (eval iter X.env) (fun v s1 => wpAny (model X.prog X.w) X.A (pyIter v) (PIE X pins σ tg R) X.xe s1) X.xe s
theorem pi_w {tg iter : Expr} : PI X tg iter (tI X tg iter) := ⟨fun pins s _ _ _ I h => h pins s I⟩
theorem PIt {tg iter : Expr} {t : TI} (h : PI X tg iter t) {σ : L2.St} {H : Hp} {R : It → Hp → Prop} (q : t σ H R) : tI X tg iter σ H R := fun pins s I => h.run pins s σ H R I q
/-- J yields ds, as long as g is held -/
structure ItOk (K : PySem.W.Frag) (ds : List D) (g : G1) (J : It) : Prop where
  go : ∀ A k H, GhOK K A H g → k < ds.length → J.go k H ∧ ∀ x H', J.yld k H x H' → Same H H' ∧ ∃ d, ds[k]? = some d ∧ Rp K A H' d x
  stop : ∀ A H, GhOK K A H g → J.stop ds.length H
structure JI (X : Cx) (B : Addr → Prop) (H0 : Hp) (sl : List Sl) (tg iter : Expr) (ds : List D) : Prop where
  run : ∀ gh as σ H R, SOK X.K B H0 gh as sl σ H → (∀ J H1 g, Same H H1 → GhOK X.K (AOf B as) H1 g → ItOk X.K ds g J → R J H1) → tI X tg iter σ H R
end
end PD
namespace PD
open PySem PySem.Spec PyProof.Rows L2
section
variable {X : Cx} {B : Addr → Prop} {H0 : Hp} {m m1 m2 : Bool} {sl sl' : List Sl} {e a b c tg iter : Expr} {es : List Expr} {d da db : D} {ds : List D} {pos p p2 px : Pos} {P : Po} {st : Stmt} {rest body : List Stmt} {x y : Str}
theorem js_for {vs : List Nat} (hp : PassesOwn (model X.prog X.w) X.A X.env X.xe) (hc : X.calm = true) (hi : JI X B H0 sl tg iter ds) (inv : Nat → List Sl → Prop) (h0 : inv 0 sl)
    (hs : ∀ (k : Nat) d s, ds[k]? = some d → inv k s → ∃ s', JG X B H0 vs tg d s s' ∧ JSs X B H0 s' body { P with nx := inv (k + 1), ct := inv (k + 1), bk := P.nx })
    (hd : ∀ s, inv ds.length s → P.nx s) (hfs : ∀ x, foldedSetIterable iter X.env x = pure x := by intro _; rfl) : JS X B H0 sl (.For tg iter body [] pos) P := ⟨fun gh as σ H S =>
  PSt (ps_for hp hc pi_w pg_w pss_w hfs) (hi.run gh as σ H _ S fun J H1 g s1 hg ok => ⟨fun i m σ' H' => m = ds.length - i ∧ i ≤ ds.length ∧ stO X.K B H0 (g :: gh) (inv i) σ' H', ⟨_, rfl, Nat.zero_le _, as, sl, h0, (S.same s1).ghost hg⟩, by
    rintro i m σ' H' ⟨rfl, hi, as', s, p, S'⟩
    have hG := S'.held g List.mem_cons_self
    by_cases hlt : i < ds.length
    · obtain ⟨go, yl⟩ := ok.go _ i H' hG hlt
      refine .inr ⟨go, fun σ2 H2 => i + 1 ≤ ds.length ∧ stO X.K B H0 (g :: gh) (inv (i + 1)) σ2 H2, fun σ2 H2 ⟨l, z⟩ => ⟨ds.length - (i + 1), by omega, rfl, l, z⟩, fun x H2 hy => ?_⟩
      obtain ⟨s2, d, hd, r⟩ := yl x H2 hy
      obtain ⟨s', hg', hb⟩ := hs i d s hd p
      refine hg'.run (g :: gh) as' σ' H2 x _ (S'.same s2) r fun as2 σ2 S2 _ _ => ?_
      intro pins sh I
      exact thn (hb.run (g :: gh) as2 σ2 H2 S2 pins sh I) fun f s' q => SPm q (fun _ _ z => ⟨hlt, z⟩) (fun _ _ z => z) (fun _ _ ⟨as, sl, p, S⟩ => ⟨as, sl, p, S.unghost⟩) (fun _ _ z => ⟨hlt, z⟩)
    · have e : i = ds.length := by omega
      subst e
      exact .inl ⟨ok.stop _ H' hG, as', s, hd s p, S'.unghost⟩⟩)⟩
theorem itok_l {K : PySem.W.Frag} {q : Addr} {xs : List V} {g : G1} (hs : ∀ A H, GhOK K A H g → SqL K H q xs) (hg : g.2 = (ds, xs)) : ItOk K ds g (Itl K q) where
  go A k H G hk := by
    have r := G.2
    rw [hg] at r
    have hl := r.len
    obtain ⟨x, hx, rx⟩ := r.get (i := k) (d := ds[k]) (by rw [List.getElem?_eq_getElem hk])
    refine ⟨⟨xs, x, hs A H G, hx⟩, fun y H' ⟨e, f⟩ => ?_⟩
    subst e
    have := f xs (hs A _ G)
    have hxy : y = x := Option.some.inj (this.symm.trans hx)
    subst hxy
    exact ⟨Same.refl _, ds[k], by rw [List.getElem?_eq_getElem hk], rx⟩
  stop A H G := by
    have r := G.2
    rw [hg] at r
    exact ⟨xs, hs A H G, by rw [r.len]; exact Nat.le_refl _⟩
theorem itok_t {K : PySem.W.Frag} {q : Addr} {xs : List V} {g : G1} (hs : ∀ A H, GhOK K A H g → SqT K H q xs) (hg : g.2 = (ds, xs)) : ItOk K ds g (Itt K q) where
  go A k H G hk := by
    have r := G.2
    rw [hg] at r
    have hl := r.len
    obtain ⟨x, hx, rx⟩ := r.get (i := k) (d := ds[k]) (by rw [List.getElem?_eq_getElem hk])
    refine ⟨⟨xs, x, hs A H G, hx⟩, fun y H' ⟨e, f⟩ => ?_⟩
    subst e
    have := f xs (hs A _ G)
    have hxy : y = x := Option.some.inj (this.symm.trans hx)
    subst hxy
    exact ⟨Same.refl _, ds[k], by rw [List.getElem?_eq_getElem hk], rx⟩
  stop A H G := by
    have r := G.2
    rw [hg] at r
    exact ⟨xs, hs A H G, by rw [r.len]; exact Nat.le_refl _⟩
theorem ji_list (he : JE X B H0 true sl e da) (hr : RdL da ds) : JI X B H0 sl tg e ds := ⟨fun gh as σ H R S q => PIt (pi_list pe_w) (he.run gh as σ H _ S fun v H1 s1 r => by
  cases hr with
  | lst =>
    obtain ⟨a, xs, rfl, t, n, l⟩ := r
    exact ⟨a, rfl, ⟨xs, .inl (.inl t)⟩, q _ H1 ([(a, .lst xs)], ds, xs) s1 ⟨fun b u e => by cases List.mem_singleton.mp e; exact ⟨t, .inl n⟩, l⟩ (itok_l (fun A H G => .inl (.inl (G.1 a _ List.mem_cons_self).1)) rfl)⟩
  | fro =>
    obtain ⟨a, xs, rfl, t, l⟩ := r
    rcases t with ⟨o, t⟩ | t
    · exact ⟨a, rfl, ⟨xs, .inl (.inr ⟨o, t⟩)⟩, q _ H1 ([(a, .frz o (.lst xs))], ds, xs) s1 ⟨fun b u e => by cases List.mem_singleton.mp e; exact ⟨t, .inr trivial⟩, l⟩ (itok_l (fun A H G => .inl (.inr ⟨o, (G.1 a _ List.mem_cons_self).1⟩)) rfl)⟩
    · exact ⟨a, rfl, ⟨xs, .inr t⟩, q _ H1 ([], ds, xs) s1 ⟨fun b u e => (by cases e), l⟩ (itok_l (fun A H G => .inr t) rfl)⟩)⟩
theorem ji_tup (he : JE X B H0 true sl e (.tup ds)) : JI X B H0 sl tg e ds := ⟨fun gh as σ H R S q => PIt (pi_tup pe_w) (he.run gh as σ H _ S fun v H1 s1 r => by
  obtain ⟨a, xs, rfl, t, l⟩ := r
  exact ⟨a, rfl, ⟨xs, .inl (.inl t)⟩, q _ H1 ([(a, .tup xs)], ds, xs) s1 ⟨fun b u e => by cases List.mem_singleton.mp e; exact ⟨t, .inr trivial⟩, l⟩ (itok_t (fun A H G => .inl (.inl (G.1 a _ List.mem_cons_self).1)) rfl)⟩)⟩
def rngD (lo : Int) (n : Nat) : List D := (List.range n).map fun (k : Nat) => D.int (lo + (k : Int))
theorem rngD_len {lo : Int} {n : Nat} : (rngD lo n).length = n := by unfold rngD; rw [List.length_map, List.length_range]
theorem rngD_get {lo : Int} {n k : Nat} {d : D} (h : (rngD lo n)[k]? = some d) : k < n ∧ d = .int (lo + (k : Int)) := by
  have hk : k < n := by
    have := (List.getElem?_eq_some_iff.mp h).1
    rw [rngD_len] at this
    exact this
  refine ⟨hk, ?_⟩
  unfold rngD at h
  rw [List.getElem?_map, List.getElem?_range hk] at h
  exact (Option.some.inj h).symm
theorem itok_r {K : PySem.W.Frag} {lo : Int} {n : Nat} {g : G1} : ItOk K (rngD lo n) g (L2.Itr lo n) where
  go A k H G hk := by
    rw [rngD_len] at hk
    refine ⟨hk, fun x H' ⟨e, f⟩ => ?_⟩
    subst e f
    exact ⟨Same.refl _, .int (lo + k), by unfold rngD; rw [List.getElem?_map, List.getElem?_range hk]; rfl, rfl⟩
  stop A H G := by
    show n ≤ (rngD lo n).length
    rw [rngD_len]
    exact Nat.le_refl _
theorem ji_rng1 {n : Int} (hg : Gl X "range") (hm : X.mg "range" = none) (ha : JA X B H0 false sl [a] [.int n]) (h1 : -(2 ^ 62) ≤ n) (h2 : n < 2 ^ 62) (hs : starEach [a] X.env = [(false, eval a X.env)] := by rfl) : JI X B H0 sl tg (.Call (.Name "range" p) [a] [] pos) (rngD 0 n.toNat) := ⟨fun gh as σ H R S q =>
  PIt (pi_range1 hg hm pa_w hs) (ha.run gh as σ H _ S fun vs H1 s1 r => by
    obtain ⟨x, r', rfl, e1, e2⟩ := r
    cases (show x = .int n from e1); cases (show r' = [] from e2)
    exact ⟨n, rfl, h1, h2, q _ H1 ([], [], []) s1 ⟨fun b u e => (by cases e), rfl⟩ itok_r⟩)⟩
theorem ji_rng2 {i n : Int} (hg : Gl X "range") (hm : X.mg "range" = none) (ha : JA X B H0 false sl [a, b] [.int i, .int n]) (h0 : -(2 ^ 62) ≤ i ∧ i < 2 ^ 62) (h1 : -(2 ^ 62) ≤ n ∧ n < 2 ^ 62) (hs : starEach [a, b] X.env = [(false, eval a X.env), (false, eval b X.env)] := by rfl) (hs2 : starEach [b] X.env = [(false, eval b X.env)] := by rfl) :
    JI X B H0 sl tg (.Call (.Name "range" p) [a, b] [] pos) (rngD i (n - i).toNat) := ⟨fun gh as σ H R S q =>
  PIt (pi_range2 hg hm pa_w hs hs2) (ha.run gh as σ H _ S fun vs H1 s1 r => by
    obtain ⟨x, r', rfl, e1, y, r2, rfl, e2, e3⟩ := r
    cases (show x = .int i from e1); cases (show y = .int n from e2); cases (show r2 = [] from e3)
    exact ⟨i, n, rfl, ⟨h0.1, h0.2, h1.1, h1.2⟩, q _ H1 ([], [], []) s1 ⟨fun b u e => (by cases e), rfl⟩ itok_r⟩)⟩
/-! ### calls of the program's own defs -/
variable {CX : CXT} {k : Nat} {f : Addr} {fd : FuncData} {ps : List Str} {F : FS} {E : XK}
theorem je_call (G : FnOk X.prog X.w X.K X.mg X.base CX k f fd ps (spF X.K F)) (hr : Room k X.A) (hg : Gl X x) (hm : X.mg x = some (.ref f)) (hk : PySem.W.keepIn X.K (.ref f) = true) (hb : Binds X.K fd ps []) (hx : Passes CX X E) (ha : JA X B H0 m sl (e :: es) ds) (h : F ds (.ok d))
    (hdb : (x == ("__debug__" : Str)) = false := by decide) (he : starEach (e :: es) X.env = (false, eval e X.env) :: starEach es X.env := by rfl) (hpl : (backTo pos (starEach es X.env)).any (·.1) = false := by rfl) : JE X B H0 m sl (.Call (.Name x p) (e :: es) [] pos) d := ⟨fun gh as σ H Q S q =>
  PEt (pe_call G hr hg hm hk hb .nil hx pa_w hdb he hpl) (ha.run gh as σ H _ S fun vs H1 s1 r => by
    show spF X.K F (vs ++ []) H1 Q E
    rw [List.append_nil]
    refine ⟨Av B as m, ds, .ok d, fun a h => (S.same s1).dom a (Av.sub a h), r, h, fun d' e' v H2 s2 r2 => ?_, fun d' e' => (by cases e'), fun c e' => (by cases e')⟩
    cases e'
    exact q v H2 (s1.trans s2) r2)⟩
theorem jf_call (G : FnOk X.prog X.w X.K X.mg X.base CX k f fd ps (spF X.K F)) (hr : Room k X.A) (hg : Gl X x) (hm : X.mg x = some (.ref f)) (hk : PySem.W.keepIn X.K (.ref f) = true) (hb : Binds X.K fd ps []) (hx : Passes CX X E) (ha : JA X B H0 true sl (e :: es) ds) (h : F ds (.fr d))
    (hdb : (x == ("__debug__" : Str)) = false := by decide) (he : starEach (e :: es) X.env = (false, eval e X.env) :: starEach es X.env := by rfl) (hpl : (backTo pos (starEach es X.env)).any (·.1) = false := by rfl) : JF X B H0 sl (.Call (.Name x p) (e :: es) [] pos) d := ⟨fun gh as σ H Q S q =>
  PEt (pe_call G hr hg hm hk hb .nil hx pa_w hdb he hpl) (ha.run gh as σ H _ S fun vs H1 s1 r => by
    show spF X.K F (vs ++ []) H1 Q E
    rw [List.append_nil]
    refine ⟨AOf B as, ds, .fr d, fun a h => (S.same s1).dom a h, r, h, fun d' e' => (by cases e'), fun d' e' p' H2 s2 hp r2 => ?_, fun c e' => (by cases e')⟩
    cases e'
    exact q p' H2 (s1.trans s2) (s1.free hp) r2)⟩
end
/-! ### a def's body keeps its promise -/
theorem starts_ok {K : PySem.W.Frag} {B : Addr → Prop} {H : Hp} : ∀ {ds : List D} {vs : List V}, RpL K B H ds vs → ∀ n : Nat, SlsOK K B H (ds.map Sl.va ++ List.replicate n Sl.un) (vs.map some ++ List.replicate n none) (List.replicate (ds.length + n) none)
  | [], _, h, n => by
    cases (show _ = [] from h)
    induction n with
    | zero => exact ⟨rfl, rfl⟩
    | succ n ih => exact ⟨none, _, none, _, rfl, by rw [show ([] : List D).length + (n + 1) = (([] : List D).length + n) + 1 from rfl, List.replicate_succ], rfl, ih⟩
  | d :: ds, _, h, n => by
    obtain ⟨x, r, rfl, h1, h2⟩ := h
    exact ⟨some x, _, none, _, rfl, by rw [show (d :: ds).length + n = (ds.length + n) + 1 by rw [List.length_cons]; omega, List.replicate_succ], ⟨rfl, x, rfl, h1⟩, starts_ok h2 n⟩
def starts (N : List Str) (ds : List D) : List Sl := ds.map Sl.va ++ List.replicate (N.length - ds.length) .un
theorem noA {B : Addr → Prop} {n : Nat} : ∀ a, AOf B (List.replicate n none) a → B a := fun a h => by
  rcases h with h | h
  · exact h
  · cases (List.mem_replicate.mp h).2
section
variable {P : Program} {w : World} {K : PySem.W.Frag} {mg : Str → Option Value} {base : Heap} {x qual : Str} {st : Stmt} {f : Addr} {fd : FuncData} {N ps : List Str} {k : Nat} {Fs : FS}
abbrev XOf (P : Program) (w : World) (K : PySem.W.Frag) (mg : Str → Option Value) (base : Heap) (N : List Str) (qual : Str) (sc : Scope) (f : Addr) (cdv : Value) (A : Around) (outer : List Env) (s : Shared) (H : Hp) (E : XK) : Cx := (cxOf CX0 P w K mg base N qual sc f cdv A outer s H E).nox
/-- what a body is to come to -/
def PoOf (o : Out) : Po := { nx := fun _ => o = .ok .non, rt := fun d => o = .ok d, rf := fun d => o = .fr d ∨ o = .ok d }
theorem fn_ok (F : Fun K x qual st f fd) (S : FnScope N ps (defScope st)) (hl : ∀ ds o, Fs ds o → ds.length = ps.length) (hx : ∀ ds c, ¬ Fs ds (.er c))
    (body : ∀ cdv A outer s H E, Room k (A.deeper (envOfC qual (defScope st) s.heap.objs.size f cdv)) → ∀ (B : Addr → Prop) ds o, Fs ds o → JSs (XOf P w K mg base N qual (defScope st) f cdv A outer s H E) B H (starts N ds) (defBody st) (PoOf o)) :
    FnOk P w K mg base CX0 (k + 1) f fd ps (spF K Fs) := by
  refine F.ok S (fun vs H Q E h => ?_) (fun cdv A outer s H vs Q E hr h => ?_)
  · obtain ⟨B, ds, o, hd, r, hF, _⟩ := h
    rw [r.len]
    exact hl ds o hF
  · obtain ⟨B, ds, o, hd, r, hF, h1, h2, h3⟩ := h
    refine ⟨_, pss_w, fun pins sh I => ?_⟩
    have e0 : L2.start N vs = vs.map some ++ List.replicate (N.length - ds.length) none := by
      unfold L2.start
      rw [r.len]
    have S0 : SOK K B H [] (List.replicate (ds.length + (N.length - ds.length)) none) (starts N ds) (L2.start N vs) H := by
      refine ⟨Same.refl H, hd, fun a h => ?_, fun i j a h => ?_, fun g h => (by cases h), ?_⟩
      · cases (List.mem_replicate.mp h).2
      · have := List.mem_of_getElem? h
        cases (List.mem_replicate.mp this).2
      · rw [e0]
        exact (starts_ok r _).to (fun h => h.anti noA) (fun h => h.anti noA) fun _ _ _ q => q
    refine thn ((body cdv A outer s H E hr B ds o hF).run [] _ _ H S0 pins sh I) fun fl s' q => SPm q ?_ ?_ (fun _ _ ⟨_, _, z, _⟩ => z.elim) (fun _ _ ⟨_, _, z, _⟩ => z.elim)
    · rintro σ' H' ⟨as', sl', e, S'⟩
      exact h1 .non e .non H' S'.ex rfl
    · rintro v H' (⟨d, e, s1, r1⟩ | ⟨d, q, e, rfl, s1, hq, r1⟩)
      · exact h1 d e v H' s1 r1
      · rcases e with e | e
        · exact h2 d e q H' s1 hq r1
        · exact h1 d e _ H' s1 (r1.rp (fun z => by
            obtain ⟨u, hu⟩ := hd q z
            rw [hq] at hu
            cases hu) fun a h => .inl h)
end
end PD
namespace PD
open PySem PySem.Spec PyProof.Rows L2
section
variable {X : Cx} {B : Addr → Prop} {H0 : Hp} {m m1 m2 : Bool} {sl sl' : List Sl} {e a b c tg iter : Expr} {es : List Expr} {d d1 d2 da db : D} {ds : List D} {pos p p2 px : Pos} {P : Po} {st : Stmt} {rest body : List Stmt} {x y : Str}
theorem je_glob {v : V} {u : Value} (hg : Gl X x) (h : ∃ v u, X.mg x = some u ∧ RelV v u ∧ ∀ K A H, Rp K A H d v) (hd : (x == ("__debug__" : Str)) = false := by decide) : JE X B H0 m sl (.Name x pos) d := ⟨fun gh as σ H Q S q => by
  obtain ⟨v, u, hm, r, k⟩ := h
  exact PEt (pe_glob hg hm r hd) (q _ H (Same.refl H) (k _ _ _))⟩
theorem je_powL {i j v : Int} (ha : JE X B H0 false sl a (.int i)) (hb : JE X B H0 false sl b (.int j)) (hc : CPow i j) (hv : i ^ j.toNat = v) : JE X B H0 m sl (.BinOp a .Pow b pos) (.int v) := hv ▸ je_pow ha hb hc
theorem jss_ifr {v : Bool} (hc : JT X B H0 sl c v) (h1 : v = true → JSs X B H0 sl body { P with nx := fun _ => False }) (h2 : v = false → JSs X B H0 sl rest P) : JSs X B H0 sl (.If c body [] pos :: rest) P :=
  jss_cons (fun s => s = sl ∧ v = false) (js_if hc (fun h => ⟨fun gh as σ H S pins s I => thn ((h1 h).run gh as σ H S pins s I) fun f s' q => SPm q (fun _ _ ⟨_, _, z, _⟩ => z.elim) (fun _ _ z => z) (fun _ _ z => z) (fun _ _ z => z)⟩) (fun h => jss_nil ⟨rfl, h⟩)) fun s ⟨e, h⟩ => e ▸ h2 h
theorem jss_ifd {els : List Stmt} {v : Bool} (hc : JT X B H0 sl c v) (h1 : v = true → JSs X B H0 sl body { P with nx := fun s => JSs X B H0 s rest P }) (h2 : v = false → JSs X B H0 sl els { P with nx := fun s => JSs X B H0 s rest P }) : JSs X B H0 sl (.If c body els pos :: rest) P :=
  jss_cons (fun s => JSs X B H0 s rest P) (js_if hc h1 h2) fun _ h => h
theorem jss_ifset (i : Nat) {v : Bool} (hN : X.N.Nodup) (hi : X.N[i]? = some x) (hx : Loc X.env.scope x) (hc : JT X B H0 sl c v) (he : v = true → JE X B H0 true sl e d1) (ho : sl[i]? = some (.va d2)) (k : JSs X B H0 (sl.set i (.va (if v then d1 else d2))) rest P)
    (hs : swapsWith e (some (.Name x px)) p2.line X.env = pure false := by rfl) (hf : X.fn x = true ∨ X.env.scope.names.lookup x = some .local := by first | exact .inl rfl | exact .inr rfl) : JSs X B H0 sl (.If c [.Assign [.Name x px] e p2] [] pos :: rest) P :=
  jss_cons (fun s => s = sl.set i (.va (if v then d1 else d2))) (js_if hc (fun h => jss_one (js_set i hN hi hx (he h) (by subst h; rfl) hs hf)) (fun h => jss_nil (by
    subst h
    show sl = sl.set i (.va d2)
    apply List.ext_getElem?
    intro j
    by_cases z : i = j
    · subst z
      rw [List.getElem?_set]
      simp only [if_true]
      split
      · exact ho
      · rename_i n
        exact absurd (List.getElem?_eq_some_iff.mp ho).1 n
    · rw [List.getElem?_set_ne z]))) fun s e => e ▸ k
theorem jss_ifsetI (i : Nat) {v : Bool} {n1 n2 : Int} (hN : X.N.Nodup) (hi : X.N[i]? = some x) (hx : Loc X.env.scope x) (hc : JT X B H0 sl c v) (he : v = true → JE X B H0 true sl e (.int n1)) (ho : sl[i]? = some (.va (.int n2))) (k : JSs X B H0 (sl.set i (.va (.int (if v then n1 else n2)))) rest P)
    (hs : swapsWith e (some (.Name x px)) p2.line X.env = pure false := by rfl) (hf : X.fn x = true ∨ X.env.scope.names.lookup x = some .local := by first | exact .inl rfl | exact .inr rfl) : JSs X B H0 sl (.If c [.Assign [.Name x px] e p2] [] pos :: rest) P :=
  jss_ifset i hN hi hx hc he ho (by
    have : (if v then D.int n1 else D.int n2) = D.int (if v then n1 else n2) := by cases v <;> rfl
    rw [this]; exact k) hs hf
end
theorem isi_none_bool : kitB "NoneType" "bool" = some false := by decide +kernel
theorem isi_none_int : kitB "NoneType" "int" = some false := by decide +kernel
theorem isi_none_str : kitB "NoneType" "str" = some false := by decide +kernel
theorem isi_none_tuple : kitB "NoneType" "tuple" = some false := by decide +kernel
theorem isi_none_list : kitB "NoneType" "list" = some false := by decide +kernel
theorem isi_none_dict : kitB "NoneType" "dict" = some false := by decide +kernel
theorem isi_bool_bool : kitB "bool" "bool" = some true := by decide +kernel
theorem isi_bool_int : kitB "bool" "int" = some true := by decide +kernel
theorem isi_bool_str : kitB "bool" "str" = some false := by decide +kernel
theorem isi_bool_tuple : kitB "bool" "tuple" = some false := by decide +kernel
theorem isi_bool_list : kitB "bool" "list" = some false := by decide +kernel
theorem isi_bool_dict : kitB "bool" "dict" = some false := by decide +kernel
theorem isi_int_bool : kitB "int" "bool" = some false := by decide +kernel
theorem isi_int_int : kitB "int" "int" = some true := by decide +kernel
theorem isi_int_str : kitB "int" "str" = some false := by decide +kernel
theorem isi_int_tuple : kitB "int" "tuple" = some false := by decide +kernel
theorem isi_int_list : kitB "int" "list" = some false := by decide +kernel
theorem isi_int_dict : kitB "int" "dict" = some false := by decide +kernel
theorem isi_str_bool : kitB "str" "bool" = some false := by decide +kernel
theorem isi_str_int : kitB "str" "int" = some false := by decide +kernel
theorem isi_str_str : kitB "str" "str" = some true := by decide +kernel
theorem isi_str_tuple : kitB "str" "tuple" = some false := by decide +kernel
theorem isi_str_list : kitB "str" "list" = some false := by decide +kernel
theorem isi_str_dict : kitB "str" "dict" = some false := by decide +kernel
theorem isi_tuple_bool : kitB "tuple" "bool" = some false := by decide +kernel
theorem isi_tuple_int : kitB "tuple" "int" = some false := by decide +kernel
theorem isi_tuple_str : kitB "tuple" "str" = some false := by decide +kernel
theorem isi_tuple_tuple : kitB "tuple" "tuple" = some true := by decide +kernel
theorem isi_tuple_list : kitB "tuple" "list" = some false := by decide +kernel
theorem isi_tuple_dict : kitB "tuple" "dict" = some false := by decide +kernel
theorem isi_list_bool : kitB "list" "bool" = some false := by decide +kernel
theorem isi_list_int : kitB "list" "int" = some false := by decide +kernel
theorem isi_list_str : kitB "list" "str" = some false := by decide +kernel
theorem isi_list_tuple : kitB "list" "tuple" = some false := by decide +kernel
theorem isi_list_list : kitB "list" "list" = some true := by decide +kernel
theorem isi_list_dict : kitB "list" "dict" = some false := by decide +kernel
theorem isi_dict_bool : kitB "dict" "bool" = some false := by decide +kernel
theorem isi_dict_int : kitB "dict" "int" = some false := by decide +kernel
theorem isi_dict_str : kitB "dict" "str" = some false := by decide +kernel
theorem isi_dict_tuple : kitB "dict" "tuple" = some false := by decide +kernel
theorem isi_dict_list : kitB "dict" "list" = some false := by decide +kernel
theorem isi_dict_dict : kitB "dict" "dict" = some true := by decide +kernel
/-! ### the law's end -/
theorem law_end {Fs : FS} (h : ∀ ns : List Int, ns.length ≤ 63 → Fs [.fro (ns.map .int)] (.ok (.bl true))) :
    ∀ (K : PySem.W.Frag) (H : Hp) (a : Addr) (ns : List Int), ns.length ≤ 63 → Only H → SqL K H a (ns.map V.int) → spF K Fs [.ref a] H (fun v _ => v = .bl true) fun _ _ _ => False := fun K H a ns hl hO hS => by
  refine ⟨fun _ => False, [.fro (ns.map .int)], .ok (.bl true), fun _ h => h.elim, ⟨.ref a, [], rfl, ⟨a, ns.map V.int, rfl, ?_, rpl_ints.mpr rfl⟩, rfl⟩, h ns hl, fun d e v H' s r => ?_, fun d e => (by cases e), fun c e => (by cases e)⟩
  · rcases hS with (h | ⟨o, h⟩) | h
    · rcases hO a with z | ⟨o, xs, z⟩
      · rw [z] at h; cases h
      · rw [z] at h; cases h
    · exact .inl ⟨o, h⟩
    · exact .inr h
  · cases e
    exact r
end PD
namespace PD
open PySem PySem.Spec PyProof.Rows L2
/-! ### comprehensions -/
/-- the slots within a comprehension: its own names' are any, own lists are not to be read -/
def shut1 : Sl → Sl
  | .ow _ => .un
  | s => s
def shut : List Sl → List Sl
  | [] => []
  | s :: r => shut1 s :: shut r
def wipeS (sl : List Sl) : List Nat → List Sl
  | [] => shut sl
  | v :: vs => (wipeS sl vs).set v .un
theorem wipe_at (σ : L2.St) (j : Nat) : ∀ vs : List Nat, (wipe σ vs)[j]? = if j ∈ vs then (if j < σ.length then some none else none) else σ[j]?
  | [] => by simp [wipe]
  | v :: vs => by
    show ((wipe σ vs).set v none)[j]? = _
    rw [List.getElem?_set, wipe_length]
    by_cases e : v = j
    · subst e
      simp
    · rw [if_neg e, wipe_at σ j vs]
      have e' : j ≠ v := fun z => e z.symm
      simp [e']
theorem wipe_eq {σ σ' : L2.St} {vs : List Nat} (h : Fra vs (wipe σ vs) σ') : wipe σ' vs = wipe σ vs := by
  apply List.ext_getElem?
  intro j
  have hl : σ'.length = σ.length := by rw [h.1, wipe_length]
  rw [wipe_at, wipe_at, hl]
  by_cases e : j ∈ vs
  · rw [if_pos e, if_pos e]
  · rw [if_neg e, if_neg e, h.2 j e, wipe_at, if_neg e]
theorem shut_ok {K : PySem.W.Frag} {A A' : Addr → Prop} {H H' : Hp} (r : ∀ {d v}, Rp K A H d v → Rp K A' H' d v) : ∀ {ss : List Sl} {σ : L2.St} {ws : Ow}, SlsOK K A H ss σ ws → SlsOK K A' H' (shut ss) σ (List.replicate ss.length none)
  | [], _, _, h => ⟨h.1, rfl⟩
  | s :: ss, _, _, h => by
    obtain ⟨o, os, w, wr, rfl, rfl, h1, h2⟩ := h
    cases s with
    | un => exact ⟨o, os, none, _, rfl, rfl, rfl, shut_ok r h2⟩
    | va d =>
      obtain ⟨z, v, e1, e2⟩ := h1
      exact ⟨o, os, none, _, rfl, rfl, ⟨rfl, v, e1, r e2⟩, shut_ok r h2⟩
    | ow d => exact ⟨o, os, none, _, rfl, rfl, rfl, shut_ok r h2⟩
theorem rep_set {n v : Nat} : (List.replicate n (none : Option Addr)).set v none = List.replicate n none := by
  apply List.ext_getElem?
  intro j
  rw [List.getElem?_set]
  by_cases e : v = j
  · subst e
    simp only [if_true]
    by_cases h : v < n
    · simp [h]
    · simp [h]
  · rw [if_neg e]
theorem wipeS_ok {K : PySem.W.Frag} {A A' : Addr → Prop} {H H' : Hp} (r : ∀ {d v}, Rp K A H d v → Rp K A' H' d v) {ss : List Sl} {σ : L2.St} {ws : Ow} (h : SlsOK K A H ss σ ws) : ∀ vs : List Nat, SlsOK K A' H' (wipeS ss vs) (wipe σ vs) (List.replicate ss.length none)
  | [] => shut_ok r h
  | v :: vs => by
    have := SlsOK.set (s := .un) (o := none) (w := none) (show SlOK K A' H' .un none none from rfl) v (wipeS_ok r h vs)
    rw [rep_set] at this
    exact this
section
variable {X : Cx} {B : Addr → Prop} {H0 : Hp} {m m1 m2 : Bool} {sl sl' : List Sl} {e a b c tg iter elt : Expr} {es ifs : List Expr} {d d1 d2 da db : D} {ds : List D} {pos p p2 px : Pos} {P : Po} {st : Stmt} {rest body : List Stmt} {x y : Str} {scope : Scope} {own : List (Str × Nat)}
structure JTs (X : Cx) (B : Addr → Prop) (H0 : Hp) (sl : List Sl) (ifs : List Expr) (b : Bool) : Prop where
  run : ∀ gh as σ H pins s (Q : Bool → Hp → Prop), SOK X.K B H0 gh as sl σ H → (∀ H', Same H H' → Q b H') → Inv X pins σ H s → ∀ {R : Prop}, (∀ {t : TT}, PTs X ifs t → t σ H Q → R) → R
theorem jts_nil : JTs X B H0 sl [] true := ⟨fun gh as σ H pins s Q S q I R k => k pts_nil (q H (Same.refl H))⟩
theorem jts_one {v : Bool} (h : JT X B H0 sl c v) : JTs X B H0 sl [c] v := ⟨fun gh as σ H pins s Q S q I R k => k (pts_one pt_w) (h.run gh as σ H Q S q)⟩
abbrev blkX (X : Cx) (scope : Scope) (s : Shared) (H : Hp) (C : Addr) (cl : List (Str × Addr)) (fp : List Addr) : Cx := X.blk s H scope (compEnvC scope cl C X.env) fp
def tGB (X : Cx) (scope : Scope) (tg : Expr) : TG := fun v σ H Q => ∀ s H' C cl fp, tG (blkX X scope s H' C cl fp) tg v σ H Q
def tEB (X : Cx) (scope : Scope) (e : Expr) : TE := fun σ H Q => ∀ s H' C cl fp, tE (blkX X scope s H' C cl fp) e σ H Q
/-- tests: none or one -/
def tTB (X : Cx) (scope : Scope) (ifs : List Expr) : TT := match ifs with
  | [] => tYes
  | c :: _ => fun σ H Q => ∀ s H' C cl fp, tT (blkX X scope s H' C cl fp) c σ H Q
theorem pg_b {s : Shared} {H : Hp} {C : Addr} {cl : List (Str × Addr)} {fp : List Addr} : PG (blkX X scope s H C cl fp) tg (tGB X scope tg) := ⟨fun pins s' _ _ _ u _ I r h => h _ _ _ _ _ pins s' u I r⟩
theorem pe_b {s : Shared} {H : Hp} {C : Addr} {cl : List (Str × Addr)} {fp : List Addr} : PE (blkX X scope s H C cl fp) e (tEB X scope e) := ⟨fun pins s' _ _ _ I h => h _ _ _ _ _ pins s' I⟩
theorem pts_b {s : Shared} {H : Hp} {C : Addr} {cl : List (Str × Addr)} {fp : List Addr} (h : ifs.length ≤ 1) : PTs (blkX X scope s H C cl fp) ifs (tTB X scope ifs) := by
  match ifs, h with
  | [], _ => exact pts_nil
  | [c], _ => exact pts_one ⟨fun pins s' _ _ _ I h => h _ _ _ _ _ pins s' I⟩
/-- the test's answer -/
inductive JTB (X : Cx) (scope : Scope) (sl : List Sl) : List Expr → Bool → Prop
  | nil : JTB X scope sl [] true
  | one {c : Expr} {v : Bool} (h : ∀ s H C cl fp B H0, JT (blkX X scope s H C cl fp) B H0 sl c v) : JTB X scope sl [c] v
theorem JTB.run {v : Bool} (h : JTB X scope sl ifs v) {gh : Gh} {as : Ow} {σ : L2.St} {H : Hp} {Q : Bool → Hp → Prop} (S : SOK X.K B H0 gh as sl σ H) (q : ∀ H', Same H H' → Q v H') : tTB X scope ifs σ H Q := by
  cases h with
  | nil => exact q H (Same.refl H)
  | one h => exact fun s H' C cl fp => (h s H' C cl fp B H0).run gh as σ H Q S q
/-- what the block does with each item -/
def LcB (X : Cx) (scope : Scope) (vs : List Nat) (sl : List Sl) (tg elt : Expr) (ifs : List Expr) {α : Type} (xs : List α) (g f : α → D) (t : α → Bool) : Prop :=
  ∀ x ∈ xs, ∃ sl', (∀ s H C cl fp B H0, JG (blkX X scope s H C cl fp) B H0 vs tg (g x) (wipeS sl vs) sl') ∧ JTB X scope sl' ifs (t x) ∧ (t x = true → ∀ s H C cl fp B H0, JE (blkX X scope s H C cl fp) B H0 true sl' elt (f x))
theorem lc_read {α : Type} {xs : List α} {g f : α → D} {t : α → Bool} {vs : List Nat} (hi : JI X B H0 sl tg iter (xs.map g)) (hb : LcB X scope vs sl tg elt ifs xs g f t) (hz : xs.length ≤ sizeLine)
    {gh : Gh} {as : Ow} {σ : L2.St} {H : Hp} {Q : VK} (S : SOK X.K B H0 gh as sl σ H) (q : ∀ p H', Same H H' → H p = none → RpO X.K (A1 (AOf B as) p) H' p (.lst ((xs.filter t).map f)) → Q (.ref p) H') :
    tLc (tI X tg iter) (tGB X scope tg) (tTB X scope ifs) (tEB X scope elt) vs σ H Q := by
  refine hi.run gh as σ H _ S fun J H1 g1 s1 hg ok D hD => ?_
  refine ⟨fun i m H' => m = xs.length - i ∧ i ≤ xs.length ∧ Same H1 H' ∧ ∃ acc, H' D = some (.lst acc) ∧ acc.length ≤ i ∧ RpL X.K (A1 (AOf B as) D) H' (((xs.take i).filter t).map f) acc, ⟨_, rfl, Nat.zero_le _, Same.new hD, [], upd_same, Nat.le_refl _, rfl⟩, ?_⟩
  rintro i m H' ⟨rfl, hil, sm, acc, eD, hl, hr⟩
  have S1 := S.same s1
  have hG : GhOK X.K (AOf B as) H' g1 := hg.stp (.of sm)
  have mr : ∀ {d v}, Rp X.K (AOf B as) H d v → Rp X.K (A1 (AOf B as) D) H' d v := fun h => (((h.stp (.of s1)).more fun a o ha ho => by
    rcases ha with ha | ha
    · exact ha
    · rw [ha, hD] at ho; cases ho).stp (.of sm))
  by_cases hlt : i < xs.length
  · obtain ⟨go, yl⟩ := ok.go _ i H' hG (by rw [List.length_map]; exact hlt)
    refine .inr ⟨go, fun H2 => i + 1 ≤ xs.length ∧ Same H1 H2 ∧ ∃ acc, H2 D = some (.lst acc) ∧ acc.length ≤ i + 1 ∧ RpL X.K (A1 (AOf B as) D) H2 (((xs.take (i + 1)).filter t).map f) acc, fun H2 ⟨l, z⟩ => ⟨xs.length - (i + 1), by omega, rfl, l, z⟩, fun v H2 hy => ?_⟩
    obtain ⟨s2, d, hd, r⟩ := yl v H2 hy
    rw [List.getElem?_map, List.getElem?_eq_getElem hlt] at hd
    have hd' : g xs[i] = d := Option.some.inj hd
    subst hd'
    obtain ⟨sl', hJ, hT, hE⟩ := hb xs[i] (List.getElem_mem hlt)
    have take1 : xs.take (i + 1) = xs.take i ++ [xs[i]] := by rw [List.take_add_one, List.getElem?_eq_getElem hlt]; rfl
    have SB : SOK X.K (A1 (AOf B as) D) H2 [] (List.replicate sl.length none) (wipeS sl vs) (wipe σ vs) H2 := by
      refine ⟨Same.refl _, fun a ha => ?_, fun a ha => ?_, fun k j a ha => ?_, fun g hg => (by cases hg), ?_⟩
      · rcases ha with ha | ha
        · obtain ⟨o, ho⟩ := S.dom a ha
          exact ⟨o, s2 _ _ (sm _ _ (s1 _ _ ho))⟩
        · rw [ha]
          exact ⟨_, s2 _ _ eD⟩
      · cases (List.mem_replicate.mp ha).2
      · cases (List.mem_replicate.mp (List.mem_of_getElem? ha)).2
      · exact (wipeS_ok (fun h => ((mr h).stp (.of s2)).anti noA) S.sls vs)
    have rD : Rp X.K (A1 (AOf B as) D) H2 (g xs[i]) v := by
      have hGD : GhOK X.K (A1 (AOf B as) D) H' g1 := (hg.more fun a o ha ho => by
        rcases ha with ha | ha
        · exact ha
        · rw [ha, hD] at ho; cases ho).stp (.of sm)
      obtain ⟨_, yl2⟩ := ok.go _ i H' hGD (by rw [List.length_map]; exact hlt)
      obtain ⟨_, d2, hd2, r2⟩ := yl2 v H2 hy
      rw [List.getElem?_map, List.getElem?_eq_getElem hlt] at hd2
      cases hd2
      exact r2
    intro s0 Hx C cl fp
    refine (hJ s0 Hx C cl fp (A1 (AOf B as) D) H2).run [] _ (wipe σ vs) H2 v _ SB (rD.anti noA) fun as' σ' S' fr _ => ?_
    refine ⟨wipe_eq fr, hT.run S' fun H3 s3 => ?_⟩
    have acc3 : RpL X.K (A1 (AOf B as) D) H3 (((xs.take i).filter t).map f) acc := (hr.stp (.of s2)).stp (.of s3)
    have eD3 : H3 D = some (.lst acc) := s3 _ _ (s2 _ _ eD)
    cases ht : t xs[i] with
    | false =>
      show _ ∧ _
      refine ⟨hlt, sm.trans (s2.trans s3), acc, eD3, by omega, ?_⟩
      rw [take1, List.filter_append, List.filter_cons, ht]
      simp only [Bool.false_eq_true, if_false, List.filter_nil, List.append_nil]
      exact acc3
    | true =>
      show tEB X scope elt σ' H3 _
      intro s4 Hx4 C4 cl4 fp4
      refine (hE ht s4 Hx4 C4 cl4 fp4 (A1 (AOf B as) D) H2).run [] as' σ' H3 _ (S'.same s3) fun y H4 s4' r4 => ?_
      have e4 : H4 D = some (.lst acc) := s4' _ _ eD3
      refine ⟨acc, e4, by omega, hlt, fun b o hb => ?_, acc ++ [y], upd_same, by rw [List.length_append, List.length_singleton]; omega, ?_⟩
      · rw [upd_ne (ne_of_none hb hD)]
        exact s4' _ _ (s3 _ _ (s2 _ _ (sm _ _ hb)))
      · have st : Stp (A1 (AOf B as) D) H4 (upd H4 D (.lst (acc ++ [y]))) := fun b o hb c => by
          by_cases z : b = D
          · subst z
            rw [e4] at hb
            cases hb
            rcases c with c | c
            · exact absurd (.inr rfl) c
            · exact c.elim
          · rw [upd_ne z]
            exact hb
        rw [take1, List.filter_append, List.filter_cons, ht]
        simp only [if_true, List.filter_nil, List.map_append, List.map_cons, List.map_nil]
        exact (acc3.stp (.of s4')).stp st |>.app (RpL.one ((r4.anti fun a ha => .inl ha).stp st))
  · have e : i = xs.length := by omega
    subst e
    refine .inl ⟨?_, q D H' (s1.trans sm) (s1.free hD) ⟨acc, eD, ?_⟩⟩
    · have := ok.stop _ H' hG
      rw [List.length_map] at this
      exact this
    · rw [List.take_length] at hr
      exact hr
theorem jf_lc {α : Type} {xs : List α} {g f : α → D} {t : α → Bool} (hc : X.calm = true) (hN : X.N.Nodup) (ok : BlkOk X.N X.env.scope scope own) (hi : JI X B H0 sl tg iter (xs.map g)) (h1 : ifs.length ≤ 1) (hb : LcB X scope (own.map (·.2)) sl tg elt ifs xs g f t) (hz : xs.length ≤ sizeLine)
    (hs : ∀ x, foldedSetIterable iter X.env x = pure x := by intro _; rfl) : JF X B H0 sl (.ListComp elt [⟨tg, iter, ifs, 0⟩] scope pos) (.lst ((xs.filter t).map f)) := ⟨fun gh as σ H Q S q =>
  PEt (pe_lc hc hN pi_w ok (fun _ _ _ _ _ => pg_b) (fun _ _ _ _ _ => pts_b h1) (fun _ _ _ _ _ => pe_b) hs) (lc_read hi hb hz S q)⟩
/-- name = [..] on one line -/
theorem js_setLc {α : Type} {xs : List α} {g f : α → D} {t : α → Bool} {py : Pos} {spos : Pos} (ow : Bool) (i : Nat) (hc : X.calm = true) (hN : X.N.Nodup) (hy : X.N[i]? = some y) (hyl : X.env.scope.names.lookup y = some .local) (hsw : swapsWith (.ListComp elt [⟨tg, iter, ifs, 0⟩] scope pos) (some (.Name y py)) spos.line X.env = pure true)
    (ok : BlkOk X.N X.env.scope scope own) (hi : JI X B H0 sl tg iter (xs.map g)) (h1 : ifs.length ≤ 1) (hb : LcB X scope (own.map (·.2)) sl tg elt ifs xs g f t) (hz : xs.length ≤ sizeLine)
    (h : P.nx (sl.set i (if ow then .ow (.lst ((xs.filter t).map f)) else .va (.lst ((xs.filter t).map f))))) (hs : ∀ x, foldedSetIterable iter X.env x = pure x := by intro _; rfl) : JS X B H0 sl (.Assign [.Name y py] (.ListComp elt [⟨tg, iter, ifs, 0⟩] scope pos) spos) P := ⟨fun gh as σ H S =>
  PSt (ps_setLc hc hN hy hyl hsw pi_w ok (fun _ _ _ _ _ => pg_b) (fun _ _ _ _ _ => pts_b h1) (fun _ _ _ _ _ => pe_b) hs) (lc_read hi hb hz S fun q H1 s1 hq r1 => by
    cases ow with
    | true => exact ⟨_, _, h, S.putO hq s1 r1⟩
    | false =>
      refine ⟨_, _, h, (S.same s1).put (r1.rp (fun z => ?_) fun b hb => .inl hb)⟩
      obtain ⟨o, ho⟩ := S.dom q z
      rw [hq] at ho
      cases ho)⟩
end
end PD
namespace PD
open PySem PySem.Spec PyProof.Rows L2
section
variable {X : Cx} {B : Addr → Prop} {H0 : Hp} {m m1 m2 : Bool} {sl sl' : List Sl} {e a b c tg iter elt : Expr} {es ifs : List Expr} {d d1 d2 da db : D} {ds dt : List D} {pos p p2 px : Pos} {P : Po} {st : Stmt} {rest body : List Stmt} {x y : Str} {scope : Scope} {own : List (Str × Nat)}
/-! ### slices -/
structure JO (X : Cx) (B : Addr → Prop) (H0 : Hp) (sl : List Sl) (e : Option Expr) (o : Option Int) : Prop where
  run : ∀ gh as σ H pins s (Q : Option Int → Hp → Prop), SOK X.K B H0 gh as sl σ H → (∀ H', Same H H' → Q o H') → Inv X pins σ H s → ∀ {R : Prop}, (∀ {t : TO}, PO X e t → t σ H Q → R) → R
def tO (X : Cx) (e : Option Expr) : TO := match e with
  | none => tNoPart
  | some e => tPart (tE X e)
theorem po_w {e : Option Expr} : PO X e (tO X e) := match e with
  | none => po_none
  | some _ => po_some pe_w
/-- a bound of a slice -/
inductive JP (X : Cx) (B : Addr → Prop) (H0 : Hp) (sl : List Sl) : Option Expr → Option Int → Prop
  | none : JP X B H0 sl none none
  | some {e : Expr} {i : Int} (h : JE X B H0 false sl e (.int i)) : JP X B H0 sl (some e) (some i)
theorem jo_none : JP X B H0 sl none none := .none
theorem jo_some {i : Int} (h : JE X B H0 false sl e (.int i)) : JP X B H0 sl (some e) (some i) := .some h
theorem JP.run {oe : Option Expr} {o : Option Int} (h : JP X B H0 sl oe o) {gh : Gh} {as : Ow} {σ : L2.St} {H : Hp} {Q : Option Int → Hp → Prop} (S : SOK X.K B H0 gh as sl σ H) (q : ∀ H', Same H H' → Q o H') : tO X oe σ H Q := by
  cases h with
  | none => exact q H (Same.refl H)
  | some h => exact h.run gh as σ H _ S fun x H1 s1 r1 => ⟨_, r1, q H1 s1⟩
/-- xs[lo:hi] on data -/
def cutD (xs : List D) (lo hi : Option Int) : List D := (xs.drop (HT.sIx xs.length 0 lo)).take (HT.sIx xs.length xs.length hi - HT.sIx xs.length 0 lo)
theorem cut_rpl {K : PySem.W.Frag} {A : Addr → Prop} {H : Hp} {xs : List V} {lo hi : Option Int} (r : RpL K A H ds xs) : RpL K A H (cutD ds lo hi) (cutV xs lo hi) := by
  unfold cutD cutV
  rw [r.len]
  exact (r.drop _).take _
theorem jf_sl {lo hi : Option Expr} {l h : Option Int} (he : JE X B H0 true sl e da) (hl : JP X B H0 sl lo l) (hh : JP X B H0 sl hi h) (hr : RdL da ds) : JF X B H0 sl (.Subscript e (.Slice lo hi none p2) pos) (.lst (cutD ds l h)) := ⟨fun gh as σ H Q S q =>
  PEt (pe_slice sl_list pe_w po_w po_w) (he.run gh as σ H _ S fun v H1 s1 r1 => hl.run (S.same s1) fun H2 s2 => hh.run (S.same (s1.trans s2)) fun H3 s3 => by
    obtain ⟨t, xs, rfl, hs, hx⟩ := hr.seq (r1.stp (.of (s2.trans s3)))
    refine ⟨t, xs, rfl, hs, fun w hw => q w _ ((s1.trans (s2.trans s3)).trans (Same.new hw)) ((s1.trans (s2.trans s3)).free hw) ⟨_, upd_same, ?_⟩⟩
    exact (RpL.A1 (cut_rpl hx) hw).stp (.of (Same.new hw)))⟩
theorem je_slS {lo hi : Option Expr} {l h : Option Int} {z : Str} (he : JE X B H0 false sl e (.str z)) (hl : JP X B H0 sl lo l) (hh : JP X B H0 sl hi h) (hz : z.length ≤ sizeLine) : JE X B H0 m sl (.Subscript e (.Slice lo hi none p2) pos) (.str (cutS z l h)) := ⟨fun gh as σ H Q S q =>
  PEt (pe_slice sl_str pe_w po_w po_w) (he.run gh as σ H _ S fun v H1 s1 r1 => hl.run (S.same s1) fun H2 s2 => hh.run (S.same (s1.trans s2)) fun H3 s3 => ⟨z, r1, hz, q _ H3 (s1.trans (s2.trans s3)) rfl⟩)⟩
/-! ### lists put together -/
theorem jf_catL (ha : JE X B H0 true sl a (.lst ds)) (hb : JE X B H0 true sl b (.lst dt)) (hl : ds.length + dt.length ≤ sizeLine) : JF X B H0 sl (.BinOp a .Add b pos) (.lst (ds ++ dt)) := ⟨fun gh as σ H Q S q =>
  PEt (pe_op op_cat pe_w pe_w) (ha.run gh as σ H _ S fun v H1 s1 r1 => hb.run gh as σ H1 _ (S.same s1) fun u H2 s2 r2 => by
    obtain ⟨t, xs, rfl, h1, n1, x1⟩ := r1.stp (.of s2)
    obtain ⟨t', ys, rfl, h2, n2, x2⟩ := r2
    refine ⟨t, t', xs, ys, rfl, rfl, h1, h2, by rw [x1.len, x2.len]; exact hl, fun w hw => q w _ ((s1.trans s2).trans (Same.new hw)) ((s1.trans s2).free hw) ⟨_, upd_same, ?_⟩⟩
    exact (RpL.A1 (x1.app x2) hw).stp (.of (Same.new hw)))⟩
theorem RpL.rep {K : PySem.W.Frag} {A : Addr → Prop} {H : Hp} {xs : List V} (r : RpL K A H ds xs) : ∀ k : Nat, RpL K A H (List.replicate k ds).flatten (List.replicate k xs).flatten
  | 0 => rfl
  | k + 1 => by
    rw [List.replicate_succ, List.replicate_succ, List.flatten_cons, List.flatten_cons]
    exact r.app (RpL.rep r k)
theorem jf_rep {k : Int} (ha : JE X B H0 true sl a (.lst ds)) (hb : JE X B H0 false sl b (.int k)) (h : -(2 ^ 63) ≤ k ∧ k < 2 ^ 63 ∧ ds.length * k.toNat ≤ sizeLine) : JF X B H0 sl (.BinOp a .Mult b pos) (.lst (List.replicate k.toNat ds).flatten) := ⟨fun gh as σ H Q S q =>
  PEt (pe_op op_rep pe_w pe_w) (ha.run gh as σ H _ S fun v H1 s1 r1 => hb.run gh as σ H1 _ (S.same s1) fun u H2 s2 r2 => by
    obtain ⟨t, xs, rfl, h1, n1, x1⟩ := r1.stp (.of s2)
    refine ⟨t, k, xs, rfl, r2, h1, h.1, h.2.1, by rw [x1.len]; exact h.2.2, fun w hw => q w _ ((s1.trans s2).trans (Same.new hw)) ((s1.trans s2).free hw) ⟨_, upd_same, ?_⟩⟩
    exact (RpL.A1 (x1.rep _) hw).stp (.of (Same.new hw)))⟩
/-! ### list(..), tuple(..) -/
theorem jf_listL (hg : Gl X "list") (hm : X.mg "list" = none) (ha : JA X B H0 true sl [a] [da]) (hr : RdL da ds) (he : starEach [a] X.env = (false, eval a X.env) :: starEach [] X.env := by rfl) (hpl : (backTo pos (starEach [] X.env)).any (·.1) = false := by rfl) : JF X B H0 sl (.Call (.Name "list" p) [a] [] pos) (.lst ds) :=
  jf_cty call_list_of hg hm boot_list ha (he := he) (hpl := hpl) fun as vs H Q r q => by
    obtain ⟨z, r', rfl, h1, h2⟩ := r
    cases (show r' = [] from h2)
    obtain ⟨t, xs, rfl, hs, hl⟩ := hr.seq h1
    exact ⟨t, xs, rfl, .inl hs, fun w hw => q w _ hw (Same.new hw) ⟨_, upd_same, (RpL.A1 hl hw).stp (.of (Same.new hw))⟩⟩
theorem jf_listU (hg : Gl X "list") (hm : X.mg "list" = none) (ha : JA X B H0 true sl [a] [.tup ds]) (he : starEach [a] X.env = (false, eval a X.env) :: starEach [] X.env := by rfl) (hpl : (backTo pos (starEach [] X.env)).any (·.1) = false := by rfl) : JF X B H0 sl (.Call (.Name "list" p) [a] [] pos) (.lst ds) :=
  jf_cty call_list_of hg hm boot_list ha (he := he) (hpl := hpl) fun as vs H Q r q => by
    obtain ⟨z, r', rfl, h1, h2⟩ := r
    cases (show r' = [] from h2)
    obtain ⟨t, xs, rfl, hs, hl⟩ := h1
    exact ⟨t, xs, rfl, .inr (.inl (.inl hs)), fun w hw => q w _ hw (Same.new hw) ⟨_, upd_same, (RpL.A1 hl hw).stp (.of (Same.new hw))⟩⟩
theorem je_tupL (hg : Gl X "tuple") (hm : X.mg "tuple" = none) (ha : JA X B H0 m sl [a] [da]) (hr : RdL da ds) (he : starEach [a] X.env = (false, eval a X.env) :: starEach [] X.env := by rfl) (hpl : (backTo pos (starEach [] X.env)).any (·.1) = false := by rfl) : JE X B H0 m sl (.Call (.Name "tuple" p) [a] [] pos) (.tup ds) :=
  je_cty call_tuple_of hg hm boot_tuple ha (he := he) (hpl := hpl) fun as vs H Q r q => by
    obtain ⟨z, r', rfl, h1, h2⟩ := r
    cases (show r' = [] from h2)
    obtain ⟨t, xs, rfl, hs, hl⟩ := hr.seq h1
    exact ⟨t, xs, rfl, .inl ⟨hs, fun w hw => q _ _ (Same.new hw) ⟨w, xs, rfl, upd_same, hl.stp (.of (Same.new hw))⟩⟩⟩
theorem je_tupU (hg : Gl X "tuple") (hm : X.mg "tuple" = none) (ha : JA X B H0 m sl [a] [.tup ds]) (he : starEach [a] X.env = (false, eval a X.env) :: starEach [] X.env := by rfl) (hpl : (backTo pos (starEach [] X.env)).any (·.1) = false := by rfl) : JE X B H0 m sl (.Call (.Name "tuple" p) [a] [] pos) (.tup ds) :=
  je_cty call_tuple_of hg hm boot_tuple ha (he := he) (hpl := hpl) fun as vs H Q r q => by
    obtain ⟨z, r', rfl, h1, h2⟩ := r
    cases (show r' = [] from h2)
    obtain ⟨t, xs, rfl, hs, hl⟩ := h1
    exact ⟨t, xs, rfl, .inr ⟨.inl (.inl hs), q _ H (Same.refl H) ⟨t, xs, rfl, hs, hl⟩⟩⟩
/-! ### sums, all -/
theorem je_all {bs : List Bool} (hc : X.calm = true) (hg : Gl X "all") (hm : X.mg "all" = none) (ha : JA X B H0 false sl [a] [.lst (bs.map .bl)]) (he : starEach [a] X.env = (false, eval a X.env) :: starEach [] X.env := by rfl) (hpl : (backTo pos (starEach [] X.env)).any (·.1) = false := by rfl) : JE X B H0 m sl (.Call (.Name "all" p) [a] [] pos) (.bl (bs.all id)) :=
  je_cb (f := "all") (cr_all hc) hg hm boot_all ha (he := he) (hpl := hpl) fun as vs H Q r q => by
    obtain ⟨z, r', rfl, h1, h2⟩ := r
    cases (show r' = [] from h2)
    obtain ⟨t, xs, rfl, hs, hn, hl⟩ := h1
    rw [rpl_bls] at hl
    subst hl
    exact ⟨t, bs, rfl, .inl (.inl hs), q _ H (Same.refl H) rfl⟩
theorem je_sum {ns : List Int} (hc : X.calm = true) (hg : Gl X "sum") (hm : X.mg "sum" = none) (ha : JA X B H0 false sl [a] [.lst (ns.map .int)]) (he : starEach [a] X.env = (false, eval a X.env) :: starEach [] X.env := by rfl) (hpl : (backTo pos (starEach [] X.env)).any (·.1) = false := by rfl) : JE X B H0 m sl (.Call (.Name "sum" p) [a] [] pos) (.int ns.sum) :=
  je_cb (f := "sum") (cr_sum hc) hg hm boot_sum ha (he := he) (hpl := hpl) fun as vs H Q r q => by
    obtain ⟨z, r', rfl, h1, h2⟩ := r
    cases (show r' = [] from h2)
    obtain ⟨t, xs, rfl, hs, hn, hl⟩ := h1
    rw [rpl_ints] at hl
    subst hl
    exact ⟨t, ns, rfl, .inl (.inl hs), q _ H (Same.refl H) rfl⟩
/-! ### own lists changed by their methods -/
theorem SOK.stpU {K : PySem.W.Frag} {gh : Gh} {as : Ow} {σ : L2.St} {H : Hp} {q : Addr} {o u : HO} (S : SOK K B H0 gh as sl σ H) (ha : some q ∈ as) (hq : H q = some u) (hu : ¬ isT u) : Stp (AOf B as) H (upd H q o) := fun b v hb c => by
  by_cases z : b = q
  · subst z
    rw [hq] at hb
    cases hb
    rcases c with c | c
    · exact absurd (.inr ha) c
    · exact absurd c hu
  · rw [upd_ne z]
    exact hb
abbrev oName (x : Str) (p : Pos) : Expr := .Name x p
/-- what an own list's method leaves: v is handed back, the list holds zs -/
def MutV (K : PySem.W.Frag) (A : Addr → Prop) (H : Hp) (q : Addr) (xs : List V) (r : V → List V → Hp → VK → Prop) (vs : List V) (d' dv : D) : Prop :=
  ∀ Q : VK, (∀ v zs, (∀ H', (∀ b o, b ≠ q → H b = some o → H' b = some o) → Stp A H H' → H' q = some (.lst zs) → RpO K A H' q d' ∧ Rp K A H' dv v) → Q v (upd H q (.lst zs))) → r (.ref q) vs H Q
theorem js_meth {r : V → List V → Hp → VK → Prop} {nm : Str} {id : String} {ap cp : Pos} {d' dv : D} (i : Nat) (slt : Slot "list" nm id) (hty : typeOf (.builtin id) = pure (.type "method_descriptor")) (hm : MtR X id r) (hN : X.N[i]? = some x) (hv : Vis X.env.scope x) (ho : sl[i]? = some (.ow (.lst ds)))
    (ha : JA X B H0 true sl (e :: es) dt) (k : ∀ A H q xs vs, H q = some (.lst xs) → RpL X.K A H ds xs → RpL X.K A H dt vs → MutV X.K A H q xs r vs d' dv)
    (h : P.nx (sl.set i (.ow d'))) (hs : swapsWith (.Call (.Attribute (.Name x p) nm ap) (e :: es) [] cp) none pos.line X.env = pure false := by rfl) (hd : (x == ("__debug__" : Str)) = false := by decide) (hcd : (x == ("__classdict__" : Str)) = false := by decide)
    (hbase : attributeBase (.Name x p) nm X.env (eval (.Name x p) X.env) = eval (.Name x p) X.env := by rfl)
    (hfew : ((backTo cp (starEach (e :: es) X.env)).all (fun x => !x.1) && (backToKw cp (keywordEach [] X.env)).all (fun x => x.1.isSome) && decide ((e :: es).length + ([] : List Keyword).length + (if ([] : List Keyword).isEmpty then 0 else 1) < 30)) = true := by rfl)
    (hline : (ap.endLine == cp.line) = true := by rfl) (hst : starEach (e :: es) X.env = (false, eval e X.env) :: starEach es X.env := by rfl) (hpl : (backTo cp (starEach es X.env)).any (·.1) = false := by rfl) : JS X B H0 sl (.Expr (.Call (.Attribute (.Name x p) nm ap) (e :: es) [] cp) pos) P := ⟨fun gh as σ H S => by
  obtain ⟨q, e1, e2, e3, xs, e4, e5⟩ := S.at ho
  refine PSt (ps_expr (pe_bm PySem.F.plainAttrs_list slt hty hm (pe_var hN hv hd hcd) pa_w hbase hfew hline hst hpl) hs) ⟨.ref q, e1, Or.inl ⟨rfl, xs, .inl (.inl e4)⟩, ha.run gh as σ H _ S fun vs H2 s2 r2 => ?_⟩
  refine k (AOf B as) H2 q xs vs (s2 _ _ e4) (e5.stp (.of s2)) r2 _ fun v zs g => ?_
  have st : Stp (AOf B as) H2 (upd H2 q (.lst zs)) := (S.same s2).stpU e2 (s2 _ _ e4) (fun z => z)
  exact ⟨as, _, h, (S.same s2).mut ho e1 (g _ (fun b o hb hq => by rw [upd_ne hb]; exact hq) st upd_same).1⟩⟩
theorem js_meth0 {r : V → List V → Hp → VK → Prop} {nm : Str} {id : String} {ap cp : Pos} {d' dv : D} (i : Nat) (slt : Slot "list" nm id) (hty : typeOf (.builtin id) = pure (.type "method_descriptor")) (hm : MtR X id r) (hN : X.N[i]? = some x) (hv : Vis X.env.scope x) (ho : sl[i]? = some (.ow (.lst ds)))
    (k : ∀ A H q xs, H q = some (.lst xs) → RpL X.K A H ds xs → MutV X.K A H q xs r [] d' dv)
    (h : P.nx (sl.set i (.ow d'))) (hs : swapsWith (.Call (.Attribute (.Name x p) nm ap) [] [] cp) none pos.line X.env = pure false := by rfl) (hd : (x == ("__debug__" : Str)) = false := by decide) (hcd : (x == ("__classdict__" : Str)) = false := by decide)
    (hbase : attributeBase (.Name x p) nm X.env (eval (.Name x p) X.env) = eval (.Name x p) X.env := by rfl) (hline : (ap.endLine == cp.line) = true := by rfl) : JS X B H0 sl (.Expr (.Call (.Attribute (.Name x p) nm ap) [] [] cp) pos) P := ⟨fun gh as σ H S => by
  obtain ⟨q, e1, e2, e3, xs, e4, e5⟩ := S.at ho
  refine PSt (ps_expr (pe_bm0 PySem.F.plainAttrs_list slt hty hm (pe_var hN hv hd hcd) hbase hline) hs) ⟨.ref q, e1, Or.inl ⟨rfl, xs, .inl (.inl e4)⟩, ?_⟩
  refine k (AOf B as) H q xs e4 e5 _ fun v zs g => ?_
  have st : Stp (AOf B as) H (upd H q (.lst zs)) := S.stpU e2 e4 (fun z => z)
  exact ⟨as, _, h, S.mut ho e1 (g _ (fun b o hb hq => by rw [upd_ne hb]; exact hq) st upd_same).1⟩⟩
/-- y = x.m(..) -/
theorem js_methS {r : V → List V → Hp → VK → Prop} {nm : Str} {id : String} {ap cp : Pos} {d' dv : D} (i j : Nat) (slt : Slot "list" nm id) (hty : typeOf (.builtin id) = pure (.type "method_descriptor")) (hm : MtR X id r) (hN : X.N[i]? = some x) (hv : Vis X.env.scope x) (ho : sl[i]? = some (.ow (.lst ds)))
    (ha : JA X B H0 true sl (e :: es) dt) (k : ∀ A H q xs vs, H q = some (.lst xs) → RpL X.K A H ds xs → RpL X.K A H dt vs → MutV X.K A H q xs r vs d' dv)
    (hnd : X.N.Nodup) (hj : X.N[j]? = some y) (hy : Loc X.env.scope y) (h : P.nx ((sl.set i (.ow d')).set j (.va dv))) (hs : swapsWith (.Call (.Attribute (.Name x p) nm ap) (e :: es) [] cp) (some (.Name y px)) pos.line X.env = pure false := by rfl) (hf : X.fn y = true ∨ X.env.scope.names.lookup y = some .local := by first | exact .inl rfl | exact .inr rfl) (hd : (x == ("__debug__" : Str)) = false := by decide) (hcd : (x == ("__classdict__" : Str)) = false := by decide)
    (hbase : attributeBase (.Name x p) nm X.env (eval (.Name x p) X.env) = eval (.Name x p) X.env := by rfl)
    (hfew : ((backTo cp (starEach (e :: es) X.env)).all (fun x => !x.1) && (backToKw cp (keywordEach [] X.env)).all (fun x => x.1.isSome) && decide ((e :: es).length + ([] : List Keyword).length + (if ([] : List Keyword).isEmpty then 0 else 1) < 30)) = true := by rfl)
    (hline : (ap.endLine == cp.line) = true := by rfl) (hst : starEach (e :: es) X.env = (false, eval e X.env) :: starEach es X.env := by rfl) (hpl : (backTo cp (starEach es X.env)).any (·.1) = false := by rfl) : JS X B H0 sl (.Assign [.Name y px] (.Call (.Attribute (.Name x p) nm ap) (e :: es) [] cp) pos) P := ⟨fun gh as σ H S => by
  obtain ⟨q, e1, e2, e3, xs, e4, e5⟩ := S.at ho
  refine PSt (ps_set hnd hj hy (pe_bm PySem.F.plainAttrs_list slt hty hm (pe_var hN hv hd hcd) pa_w hbase hfew hline hst hpl) hs hf) ⟨.ref q, e1, Or.inl ⟨rfl, xs, .inl (.inl e4)⟩, ha.run gh as σ H _ S fun vs H2 s2 r2 => ?_⟩
  refine k (AOf B as) H2 q xs vs (s2 _ _ e4) (e5.stp (.of s2)) r2 _ fun v zs g => ?_
  have st : Stp (AOf B as) H2 (upd H2 q (.lst zs)) := (S.same s2).stpU e2 (s2 _ _ e4) (fun z => z)
  obtain ⟨g1, g2⟩ := g _ (fun b o hb hq => by rw [upd_ne hb]; exact hq) st upd_same
  exact ⟨_, _, h, ((S.same s2).mut ho e1 g1).put g2⟩⟩
theorem js_methS0 {r : V → List V → Hp → VK → Prop} {nm : Str} {id : String} {ap cp : Pos} {d' dv : D} (i j : Nat) (slt : Slot "list" nm id) (hty : typeOf (.builtin id) = pure (.type "method_descriptor")) (hm : MtR X id r) (hN : X.N[i]? = some x) (hv : Vis X.env.scope x) (ho : sl[i]? = some (.ow (.lst ds)))
    (k : ∀ A H q xs, H q = some (.lst xs) → RpL X.K A H ds xs → MutV X.K A H q xs r [] d' dv)
    (hnd : X.N.Nodup) (hj : X.N[j]? = some y) (hy : Loc X.env.scope y) (h : P.nx ((sl.set i (.ow d')).set j (.va dv))) (hs : swapsWith (.Call (.Attribute (.Name x p) nm ap) [] [] cp) (some (.Name y px)) pos.line X.env = pure false := by rfl) (hf : X.fn y = true ∨ X.env.scope.names.lookup y = some .local := by first | exact .inl rfl | exact .inr rfl) (hd : (x == ("__debug__" : Str)) = false := by decide) (hcd : (x == ("__classdict__" : Str)) = false := by decide)
    (hbase : attributeBase (.Name x p) nm X.env (eval (.Name x p) X.env) = eval (.Name x p) X.env := by rfl) (hline : (ap.endLine == cp.line) = true := by rfl) : JS X B H0 sl (.Assign [.Name y px] (.Call (.Attribute (.Name x p) nm ap) [] [] cp) pos) P := ⟨fun gh as σ H S => by
  obtain ⟨q, e1, e2, e3, xs, e4, e5⟩ := S.at ho
  refine PSt (ps_set hnd hj hy (pe_bm0 PySem.F.plainAttrs_list slt hty hm (pe_var hN hv hd hcd) hbase hline) hs hf) ⟨.ref q, e1, Or.inl ⟨rfl, xs, .inl (.inl e4)⟩, ?_⟩
  refine k (AOf B as) H q xs e4 e5 _ fun v zs g => ?_
  have st : Stp (AOf B as) H (upd H q (.lst zs)) := S.stpU e2 e4 (fun z => z)
  obtain ⟨g1, g2⟩ := g _ (fun b o hb hq => by rw [upd_ne hb]; exact hq) st upd_same
  exact ⟨_, _, h, (S.mut ho e1 g1).put g2⟩⟩
theorem mu_app (hl : ds.length < sizeLine) : ∀ A H q xs vs, H q = some (.lst xs) → RpL X.K A H ds xs → RpL X.K A H [d] vs → MutV X.K A H q xs rAppend vs (.lst (ds ++ [d])) .non := fun A H q xs vs hq hx hv Q g => by
  obtain ⟨v, r', rfl, h1, h2⟩ := hv
  cases (show r' = [] from h2)
  exact ⟨q, xs, v, rfl, rfl, hq, by rw [hx.len]; exact hl, g _ _ fun H' k st e => ⟨⟨_, e, (hx.stp st).app (RpL.one (h1.stp st))⟩, rfl⟩⟩
theorem mu_ext (hl : ds.length + dt.length ≤ sizeLine) : ∀ A H q xs vs, H q = some (.lst xs) → RpL X.K A H ds xs → RpL X.K A H [.lst dt] vs → MutV X.K A H q xs rExtend vs (.lst (ds ++ dt)) .non := fun A H q xs vs hq hx hv Q g => by
  obtain ⟨v, r', rfl, ⟨t, ys, rfl, ht, nt, hy⟩, h2⟩ := hv
  cases (show r' = [] from h2)
  exact ⟨q, t, xs, ys, rfl, rfl, hq, ht, by rw [hx.len, hy.len]; exact hl, g _ _ fun H' k st e => ⟨⟨_, e, (hx.stp st).app (hy.stp st)⟩, rfl⟩⟩
theorem mu_clr : ∀ A H q xs, H q = some (.lst xs) → RpL X.K A H ds xs → MutV X.K A H q xs rClear [] (.lst []) .non := fun A H q xs hq hx Q g => ⟨q, xs, rfl, rfl, hq, g _ _ fun H' k st e => ⟨⟨_, e, rfl⟩, rfl⟩⟩
theorem mu_rev : ∀ A H q xs, H q = some (.lst xs) → RpL X.K A H ds xs → MutV X.K A H q xs rReverse [] (.lst ds.reverse) .non := fun A H q xs hq hx Q g => ⟨q, xs, rfl, rfl, hq, g _ _ fun H' k st e => ⟨⟨_, e, (hx.stp st).rev⟩, rfl⟩⟩
theorem rpl_dl {K : PySem.W.Frag} {A : Addr → Prop} {H : Hp} {xs : List V} (h : RpL K A H ds xs) : RpL K A H ds.dropLast xs.dropLast := by
  rw [List.dropLast_eq_take, List.dropLast_eq_take, h.len]
  exact h.take _
theorem mu_pop (hl : ds[ds.length - 1]? = some d) : ∀ A H q xs, H q = some (.lst xs) → RpL X.K A H ds xs → MutV X.K A H q xs rPop [] (.lst ds.dropLast) d := fun A H q xs hq hx Q g => by
  obtain ⟨z, hz, rz⟩ := hx.get hl
  exact ⟨q, xs, z, rfl, rfl, hq, by rw [hx.len]; exact hz, g _ _ fun H' k st e => ⟨⟨_, e, (rpl_dl hx).stp st⟩, rz.stp st⟩⟩
theorem mu_pop0 {d : D} {ds : List D} : ∀ A H q xs vs, H q = some (.lst xs) → RpL X.K A H (d :: ds) xs → RpL X.K A H [.int 0] vs → MutV X.K A H q xs rPopAt vs (.lst ds) d := fun A H q xs vs hq hx hv Q g => by
  obtain ⟨v, r', rfl, h1, h2⟩ := hv
  cases (show r' = [] from h2); cases (show v = .int 0 from h1)
  obtain ⟨z, zs, rfl, rz, rzs⟩ := hx
  exact ⟨q, _, 0, 0, z, rfl, rfl, hq, by decide, by decide, by unfold seqIndex?; simp, rfl, g _ _ fun H' k st e => ⟨⟨_, e, rzs.stp st⟩, rz.stp st⟩⟩
/-- xs[i] = v -/
theorem js_setI (i : Nat) {j : Int} {n : Nat} {ix : Expr} {sp : Pos} (hN : X.N[i]? = some x) (hv : Vis X.env.scope x) (ho : sl[i]? = some (.ow (.lst ds))) (he : JE X B H0 true sl e d) (hi : JE X B H0 false sl ix (.int j)) (hj : ixN ds.length j = some n) (h : P.nx (sl.set i (.ow (.lst (ds.set n d)))))
    (hs : swapsWithSole [.Subscript (.Name x p) ix sp] e pos.line X.env = pure false := by rfl) (hw : swappedStores [.Subscript (.Name x p) ix sp] e X.env = pure none := by rfl) (h1 : (assignEach [.Subscript (.Name x p) ix sp] X.env).map (·.2) = [assign (.Subscript (.Name x p) ix sp) X.env] := by rfl)
    (ha : ∀ v, assign (.Subscript (.Name x p) ix sp) X.env v = (do
      let ov ← holding [v] (eval (.Name x p) X.env)
      let iv ← holding [v, ov] (eval ix X.env)
      standAt sp
      holding [v, ov, iv] (setItem ov iv v)
      release [v, ov, iv] []) := by intro _; rfl) (hd : (x == ("__debug__" : Str)) = false := by decide) (hcd : (x == ("__classdict__" : Str)) = false := by decide) : JS X B H0 sl (.Assign [.Subscript (.Name x p) ix sp] e pos) P := ⟨fun gh as σ H S => by
  obtain ⟨q, e1, e2, e3, xs, e4, e5⟩ := S.at ho
  refine PSt (ps_asg pe_w (pg_sub (pe_var hN hv hd hcd) pe_w set_list ha) hs hw h1) (he.run gh as σ H _ S fun v H1 s1 r1 => ⟨.ref q, e1, hi.run gh as σ H1 _ (S.same s1) fun w H2 s2 r2 => ?_⟩)
  cases (show w = .int j from r2)
  have s := s1.trans s2
  refine ⟨q, xs, j, n, rfl, rfl, s _ _ e4, by rw [e5.len]; exact hj, as, _, h, ?_⟩
  have st : Stp (AOf B as) H2 (upd H2 q (.lst (xs.set n v))) := (S.same s).stpU e2 (s _ _ e4) (fun z => z)
  exact (S.same s).mut ho e1 ⟨_, upd_same, RpL.set ((r1.stp (.of s2)).stp st) n ((e5.stp (.of s)).stp st)⟩⟩
end
/-! ### zip, enumerate, reversed -/
section
variable {X : Cx} {B : Addr → Prop} {H0 : Hp} {sl : List Sl} {e a b tg : Expr} {elts : List Expr} {kk : Nat} {da db : D} {ds dt : List D} {pos p tp : Pos}
/-- one ghost for two lists -/
theorem seq_at {K : PySem.W.Frag} {A : Addr → Prop} {H : Hp} {d : D} {ds : List D} {v : V} (r : RdL d ds) (h : Rp K A H d v) : ∃ q xs g0, v = .ref q ∧ GhOK K A H (g0, ds, xs) ∧ ∀ A' H', GhOK K A' H' (g0, ds, xs) → SqL K H' q xs := by
  cases r with
  | lst =>
    obtain ⟨q, xs, rfl, t, n, l⟩ := h
    exact ⟨q, xs, [(q, .lst xs)], rfl, ⟨fun b u e => by cases List.mem_singleton.mp e; exact ⟨t, .inl n⟩, l⟩, fun A' H' G => .inl (.inl (G.1 q _ List.mem_cons_self).1)⟩
  | fro =>
    obtain ⟨q, xs, rfl, t, l⟩ := h
    rcases t with ⟨o, t⟩ | t
    · exact ⟨q, xs, [(q, .frz o (.lst xs))], rfl, ⟨fun b u e => by cases List.mem_singleton.mp e; exact ⟨t, .inr trivial⟩, l⟩, fun A' H' G => .inl (.inr ⟨o, (G.1 q _ List.mem_cons_self).1⟩)⟩
    · exact ⟨q, xs, [], rfl, ⟨fun b u e => (by cases e), l⟩, fun A' H' G => .inr t⟩
def enumD (ds : List D) : List D := (List.range ds.length).zipWith (fun (k : Nat) d => D.tup [.int (k : Int), d]) ds
theorem enumD_get {k : Nat} (h : k < ds.length) : (enumD ds)[k]? = some (.tup [.int (k : Int), ds[k]]) := by
  unfold enumD
  rw [List.getElem?_zipWith, List.getElem?_range h, List.getElem?_eq_getElem h]
theorem enumD_len : (enumD ds).length = ds.length := by
  unfold enumD
  rw [List.length_zipWith, List.length_range, Nat.min_self]
theorem ji_enumL (hg : Gl X "enumerate") (hm : X.mg "enumerate" = none) (ha : JA X B H0 true sl [a] [da]) (hr : RdL da ds) (hs : starEach [a] X.env = [(false, eval a X.env)] := by rfl) : JI X B H0 sl (.Tuple elts kk tp) (.Call (.Name "enumerate" p) [a] [] pos) (enumD ds) := ⟨fun gh as σ H R S q =>
  PIt (pi_enum hg hm pa_w hs) (ha.run gh as σ H _ S fun vs H1 s1 r => by
    obtain ⟨v, r', rfl, h1, h2⟩ := r
    cases (show r' = [] from h2)
    obtain ⟨t, xs, g0, rfl, G, k⟩ := seq_at hr h1
    refine ⟨t, xs, rfl, k _ _ G, q _ H1 (g0, ds, xs) s1 G ⟨fun A i H' G' hi => ?_, fun A H' G' => ⟨xs, k _ _ G', by rw [enumD_len, G'.2.len]; exact Nat.le_refl _⟩⟩⟩
    rw [enumD_len] at hi
    obtain ⟨x, hx, rx⟩ := G'.2.get (i := i) (d := ds[i]) (by rw [List.getElem?_eq_getElem hi])
    refine ⟨⟨xs, x, k _ _ G', hx⟩, fun w H'' ⟨T, x', e1, e2, e3, f⟩ => ?_⟩
    have : x' = x := Option.some.inj ((f xs (k _ _ G')).symm.trans hx)
    subst this
    subst e3
    exact ⟨Same.new e2, _, enumD_get hi, T, _, e1, upd_same, _, _, rfl, rfl, _, _, rfl, rx.stp (.of (Same.new e2)), rfl⟩)⟩
def zipD (ds dt : List D) : List D := List.zipWith (fun x y => D.tup [x, y]) ds dt
theorem zipD_get {k : Nat} (h : k < ds.length) (h2 : k < dt.length) : (zipD ds dt)[k]? = some (.tup [ds[k], dt[k]]) := by
  unfold zipD
  rw [List.getElem?_zipWith, List.getElem?_eq_getElem h, List.getElem?_eq_getElem h2]
theorem rpl_split {K : PySem.W.Frag} {A : Addr → Prop} {H : Hp} {xs ys : List V} (hl : xs.length = ds.length) (h : RpL K A H (ds ++ dt) (xs ++ ys)) : RpL K A H ds xs ∧ RpL K A H dt ys := by
  have h1 := h.take ds.length
  have h2 := h.drop ds.length
  rw [List.take_left] at h1
  rw [List.drop_left] at h2
  rw [← hl, List.take_left] at h1
  rw [← hl, List.drop_left] at h2
  exact ⟨h1, h2⟩
theorem ji_zipLL (hg : Gl X "zip") (hm : X.mg "zip" = none) (ha : JA X B H0 true sl [a, b] [da, db]) (hr : RdL da ds) (hr2 : RdL db dt) (hs : starEach [a, b] X.env = (false, eval a X.env) :: starEach [b] X.env := by rfl) (hpl : (backTo pos (starEach [b] X.env)).any (·.1) = false := by rfl) : JI X B H0 sl (.Tuple elts kk tp) (.Call (.Name "zip" p) [a, b] [] pos) (zipD ds dt) := ⟨fun gh as σ H R S q =>
  PIt (pi_zip hg hm pa_w hs hpl) (ha.run gh as σ H _ S fun vs H1 s1 r => by
    obtain ⟨v, r', rfl, h1, w, r2, rfl, h2, h3⟩ := r
    cases (show r2 = [] from h3)
    obtain ⟨t, xs, g0, rfl, G, k⟩ := seq_at hr h1
    obtain ⟨t2, ys, g1, rfl, G2, k2⟩ := seq_at hr2 h2
    have lx : xs.length = ds.length := G.2.len
    have ly : ys.length = dt.length := G2.2.len
    have part : ∀ A H, GhOK X.K A H (g0 ++ g1, ds ++ dt, xs ++ ys) → GhOK X.K A H (g0, ds, xs) ∧ GhOK X.K A H (g1, dt, ys) := fun A H G => by
      obtain ⟨p1, p2⟩ := rpl_split lx G.2
      exact ⟨⟨fun b u e => G.1 b u (List.mem_append_left _ e), p1⟩, fun b u e => G.1 b u (List.mem_append_right _ e), p2⟩
    refine ⟨t, t2, xs, ys, rfl, k _ _ G, k2 _ _ G2, q _ H1 (g0 ++ g1, ds ++ dt, xs ++ ys) s1 ⟨fun b u e => (List.mem_append.mp e).elim (G.1 b u) (G2.1 b u), G.2.app G2.2⟩ ⟨fun A i H' G' hi => ?_, fun A H' G' => ?_⟩⟩
    · obtain ⟨P1, P2⟩ := part A H' G'
      unfold zipD at hi
      rw [List.length_zipWith] at hi
      obtain ⟨x, hx, rx⟩ := P1.2.get (i := i) (d := ds[i]'(by omega)) (by rw [List.getElem?_eq_getElem])
      obtain ⟨y, hy, ry⟩ := P2.2.get (i := i) (d := dt[i]'(by omega)) (by rw [List.getElem?_eq_getElem])
      refine ⟨⟨xs, ys, x, y, k _ _ P1, k2 _ _ P2, hx, hy⟩, fun w H'' ⟨T, x', y', e1, e2, e3, f, f2⟩ => ?_⟩
      have z1 : x' = x := Option.some.inj ((f xs (k _ _ P1)).symm.trans hx)
      have z2 : y' = y := Option.some.inj ((f2 ys (k2 _ _ P2)).symm.trans hy)
      subst z1 z2 e3
      exact ⟨Same.new e2, _, zipD_get (by omega) (by omega), T, _, e1, upd_same, _, _, rfl, rx.stp (.of (Same.new e2)), _, _, rfl, ry.stp (.of (Same.new e2)), rfl⟩
    · obtain ⟨P1, P2⟩ := part A H' G'
      refine ⟨xs, ys, k _ _ P1, k2 _ _ P2, ?_⟩
      unfold zipD
      rw [List.length_zipWith]
      omega)⟩
theorem ji_revL (hg : Gl X "reversed") (hm : X.mg "reversed" = none) (ha : JA X B H0 true sl [a] [da]) (hr : RdL da ds) (hs : starEach [a] X.env = [(false, eval a X.env)] := by rfl) : JI X B H0 sl tg (.Call (.Name "reversed" p) [a] [] pos) ds.reverse := ⟨fun gh as σ H R S q =>
  PIt (pi_reversed hg hm pa_w hs) (ha.run gh as σ H _ S fun vs H1 s1 r => by
    obtain ⟨v, r', rfl, h1, h2⟩ := r
    cases (show r' = [] from h2)
    obtain ⟨t, xs, g0, rfl, G, k⟩ := seq_at hr h1
    refine ⟨t, xs, rfl, k _ _ G, q _ H1 (g0, ds, xs) s1 G ⟨fun A i H' G' hi => ?_, fun A H' G' => ?_⟩⟩
    · rw [List.length_reverse] at hi
      have hl : xs.length = ds.length := G'.2.len
      obtain ⟨x, hx, rx⟩ := G'.2.get (i := xs.length - 1 - i) (d := ds[ds.length - 1 - i]) (by show ds[xs.length - 1 - i]? = _; rw [hl, List.getElem?_eq_getElem (by omega)])
      refine ⟨⟨by omega, xs, x, k _ _ G', hx⟩, fun w H'' ⟨e1, f⟩ => ?_⟩
      subst e1
      have : w = x := Option.some.inj ((f xs (k _ _ G')).symm.trans hx)
      subst this
      exact ⟨Same.refl _, _, by rw [List.getElem?_reverse hi, List.getElem?_eq_getElem (by omega)], rx⟩
    · show xs.length ≤ ds.reverse.length
      rw [List.length_reverse, G'.2.len]
      exact Nat.le_refl _)⟩
end
end PD
namespace PD
open PySem PySem.Spec PyProof.Rows L2
/-! ### == of data -/
mutual
def toPy : D → PyData
  | .non => .none
  | .bl b => .bool b
  | .int i => .int i
  | .str x => .str x
  | .tup l => .tuple (toPyL l)
  | .lst l => .list (toPyL l)
  | .fro l => .list (toPyL l)
  | .dct _ _ => .none
def toPyL : List D → List PyData
  | [] => []
  | d :: l => toPy d :: toPyL l
end
mutual
/-- no dict in it, its texts of true signs, not deep -/
def pyOk : Nat → D → Bool
  | _, .non => true
  | _, .bl _ => true
  | _, .int _ => true
  | _, .str x => x.cps.all (· < 0x110000)
  | n, .tup l => decide (0 < n) && pyOkL (n - 1) l
  | n, .lst l => decide (0 < n) && pyOkL (n - 1) l
  | n, .fro l => decide (0 < n) && pyOkL (n - 1) l
  | _, .dct _ _ => false
def pyOkL : Nat → List D → Bool
  | _, [] => true
  | n, d :: l => pyOk n d && pyOkL n l
end
mutual
theorem toPy_rp {K : PySem.W.Frag} {A : Addr → Prop} {H : Hp} : ∀ {d : D} {v : V} {n : Nat}, pyOk n d = true → Rp K A H d v → Dp K H v (toPy d)
  | .non, v, _, _, h => by cases (show v = .non from h); exact .non
  | .bl _, v, _, _, h => by cases (show v = .bl _ from h); exact .bl _
  | .int _, v, _, _, h => by cases (show v = .int _ from h); exact .int _
  | .str _, v, _, _, h => by cases (show v = .str _ from h); exact .str _
  | .tup l, v, n, i, h => by
    obtain ⟨a, xs, rfl, t, r⟩ := h
    have i' : (decide (0 < n) && pyOkL (n - 1) l) = true := i
    rw [Bool.and_eq_true] at i'
    exact .tup (.inl (.inl t)) (toPyL_rp i'.2 r)
  | .lst l, v, n, i, h => by
    obtain ⟨a, xs, rfl, t, _, r⟩ := h
    have i' : (decide (0 < n) && pyOkL (n - 1) l) = true := i
    rw [Bool.and_eq_true] at i'
    exact .lst (.inl (.inl t)) (toPyL_rp i'.2 r)
  | .fro l, v, n, i, h => by
    obtain ⟨a, xs, rfl, t, r⟩ := h
    have i' : (decide (0 < n) && pyOkL (n - 1) l) = true := i
    rw [Bool.and_eq_true] at i'
    exact .lst (t.elim (fun ⟨o, t⟩ => .inl (.inr ⟨o, t⟩)) .inr) (toPyL_rp i'.2 r)
  | .dct _ _, v, n, i, _ => by cases (show false = true from i)
theorem toPyL_rp {K : PySem.W.Frag} {A : Addr → Prop} {H : Hp} : ∀ {ds : List D} {xs : List V} {n : Nat}, pyOkL n ds = true → RpL K A H ds xs → DpAll K H xs (toPyL ds)
  | [], _, _, _, h => by cases (show _ = [] from h); exact .nil
  | d :: ds, _, n, i, h => by
    obtain ⟨x, r, rfl, h1, h2⟩ := h
    have i' : (pyOk n d && pyOkL n ds) = true := i
    rw [Bool.and_eq_true] at i'
    exact .cons (toPy_rp i'.1 h1) (toPyL_rp i'.2 h2)
end
mutual
theorem shaped1 : ∀ {d : D} {n : Nat}, pyOk n d = true → (toPy d).canLay0 = true ∧ (toPy d).depth ≤ n
  | .non, _, _ => ⟨rfl, Nat.zero_le _⟩
  | .bl _, _, _ => ⟨rfl, Nat.zero_le _⟩
  | .int _, _, _ => ⟨rfl, Nat.zero_le _⟩
  | .str _, _, h => ⟨h, Nat.zero_le _⟩
  | .tup l, n, i => by
    have i' : (decide (0 < n) && pyOkL (n - 1) l) = true := i
    rw [Bool.and_eq_true] at i'
    have h := shapedL i'.2
    have h0 := of_decide_eq_true i'.1
    exact ⟨h.1, by show PyData.depthAll _ + 1 ≤ n; omega⟩
  | .lst l, n, i => by
    have i' : (decide (0 < n) && pyOkL (n - 1) l) = true := i
    rw [Bool.and_eq_true] at i'
    have h := shapedL i'.2
    have h0 := of_decide_eq_true i'.1
    exact ⟨h.1, by show PyData.depthAll _ + 1 ≤ n; omega⟩
  | .fro l, n, i => by
    have i' : (decide (0 < n) && pyOkL (n - 1) l) = true := i
    rw [Bool.and_eq_true] at i'
    have h := shapedL i'.2
    have h0 := of_decide_eq_true i'.1
    exact ⟨h.1, by show PyData.depthAll _ + 1 ≤ n; omega⟩
  | .dct _ _, _, i => by cases (show false = true from i)
theorem shapedL : ∀ {l : List D} {n : Nat}, pyOkL n l = true → PyData.canLayAll0 (toPyL l) = true ∧ PyData.depthAll (toPyL l) ≤ n
  | [], _, _ => ⟨rfl, Nat.zero_le _⟩
  | d :: l, n, i => by
    have i' : (pyOk n d && pyOkL n l) = true := i
    rw [Bool.and_eq_true] at i'
    have h1 := shaped1 i'.1
    have h2 := shapedL i'.2
    refine ⟨?_, ?_⟩
    · show ((toPy d).canLay0 && PyData.canLayAll0 (toPyL l)) = true
      rw [h1.1, h2.1] <;> rfl
    · show max (toPy d).depth (PyData.depthAll (toPyL l)) ≤ n
      omega
end
theorem shaped_of {d : D} {n : Nat} (h : pyOk n d = true) (hn : n ≤ 64) : SeqAt.shaped (toPy d) = true := by
  have h1 := shaped1 h
  unfold SeqAt.shaped
  rw [h1.1, decide_eq_true (by omega)] <;> rfl
/-- what == answers -/
def deq (d e : D) : Bool := PyData.eqv (toPy d) (toPy e)
def deqL (d e : List D) : Bool := PyData.eqvAll (toPyL d) (toPyL e)
theorem deq_int {i j : Int} : deq (.int i) (.int j) = decide (i = j) := by
  show (i == j) = _
  exact Bool.beq_eq_decide_eq i j
theorem deq_str {i j : Str} : deq (.str i) (.str j) = decide (i = j) := by
  show (i == j) = _
  exact Bool.beq_eq_decide_eq i j
theorem deq_bl {i j : Bool} : deq (.bl i) (.bl j) = decide (i = j) := by
  show (i == j) = _
  exact Bool.beq_eq_decide_eq i j
theorem deq_tup {l m : List D} : deq (.tup l) (.tup m) = deqL l m := rfl
theorem deq_lst {l m : List D} : deq (.lst l) (.lst m) = deqL l m := rfl
theorem deqL_nil : deqL [] [] = true := rfl
theorem deqL_cons {d e : D} {l m : List D} : deqL (d :: l) (e :: m) = (deq d e && deqL l m) := rfl
theorem deqL_nc {e : D} {m : List D} : deqL [] (e :: m) = false := rfl
theorem deqL_cn {e : D} {m : List D} : deqL (e :: m) [] = false := rfl
/-- data told apart by == as in Lean -/
def Inj {α : Type} (f : α → D) : Prop := ∀ x y, (deq (f x) (f y) = true ↔ x = y)
theorem deqL_map {α : Type} {f : α → D} (h : Inj f) : ∀ {xs ys : List α}, deqL (xs.map f) (ys.map f) = true ↔ xs = ys
  | [], [] => by simp [deqL_nil]
  | [], y :: ys => by simp [deqL_nc]
  | x :: xs, [] => by simp [deqL_cn]
  | x :: xs, y :: ys => by
    rw [List.map_cons, List.map_cons, deqL_cons, Bool.and_eq_true, h x y, deqL_map h]
    simp
theorem inj_int : Inj D.int := fun x y => by rw [deq_int]; simp
theorem inj_str : Inj D.str := fun x y => by rw [deq_str]; simp
theorem inj_bl : Inj D.bl := fun x y => by rw [deq_bl]; simp
theorem inj_lst {α : Type} {f : α → D} (h : Inj f) : Inj (fun xs : List α => D.lst (xs.map f)) := fun x y => by rw [deq_lst, deqL_map h]
theorem inj_tup {α : Type} {f : α → D} (h : Inj f) : Inj (fun xs : List α => D.tup (xs.map f)) := fun x y => by rw [deq_tup, deqL_map h]
theorem inj_pair {α β : Type} {f : α → D} {g : β → D} (h : Inj f) (k : Inj g) : Inj (fun q : α × β => D.tup [f q.1, g q.2]) := fun x y => by
  rw [deq_tup, deqL_cons, deqL_cons, deqL_nil, Bool.and_true, Bool.and_eq_true, h, k]
  exact ⟨fun z => Prod.ext z.1 z.2, fun z => ⟨congrArg Prod.fst z, congrArg Prod.snd z⟩⟩
theorem Inj.eq {α : Type} [DecidableEq α] {f : α → D} (h : Inj f) (x y : α) : deq (f x) (f y) = decide (x = y) := by
  rw [Bool.eq_iff_iff, h x y, decide_eq_true_iff]
theorem pyOkL_map {α : Type} {f : α → D} {n : Nat} (h : ∀ x, pyOk n (f x) = true) : ∀ xs : List α, pyOkL n (xs.map f) = true
  | [] => rfl
  | x :: xs => by
    show (pyOk n (f x) && pyOkL n (xs.map f)) = true
    rw [h x, pyOkL_map h xs] <;> rfl
section
variable {X : Cx} {B : Addr → Prop} {H0 : Hp} {m : Bool} {sl : List Sl} {e a b : Expr} {da db : D} {ds : List D} {pos p : Pos} {k : Nat}
theorem je_eqD (hr : Room k X.A) (ha : JE X B H0 false sl a da) (hb : JE X B H0 false sl b db) (h1 : pyOk 60 da = true) (h2 : pyOk 60 db = true) : JE X B H0 m sl (.Compare a [.Eq] [b] pos) (.bl (deq da db)) := ⟨fun gh as σ H Q S q =>
  PEt (pe_cmpR (op_eqD hr.units) pe_w pe_w (nomark _)) (ha.run gh as σ H _ S fun x H1 s1 r1 => hb.run gh as σ H1 _ (S.same s1) fun y H2 s2 r2 => ⟨toPy da, toPy db, toPy_rp h1 (r1.stp (.of s2)), toPy_rp h2 r2, shaped_of h1 (by decide), shaped_of h2 (by decide), q _ H2 (s1.trans s2) rfl⟩)⟩
theorem je_neD (hr : Room k X.A) (ha : JE X B H0 false sl a da) (hb : JE X B H0 false sl b db) (h1 : pyOk 60 da = true) (h2 : pyOk 60 db = true) : JE X B H0 m sl (.Compare a [.NotEq] [b] pos) (.bl (!deq da db)) := ⟨fun gh as σ H Q S q =>
  PEt (pe_cmpR (op_neD hr.units) pe_w pe_w (nomark _)) (ha.run gh as σ H _ S fun x H1 s1 r1 => hb.run gh as σ H1 _ (S.same s1) fun y H2 s2 r2 => ⟨toPy da, toPy db, toPy_rp h1 (r1.stp (.of s2)), toPy_rp h2 r2, shaped_of h1 (by decide), shaped_of h2 (by decide), q _ H2 (s1.trans s2) rfl⟩)⟩
theorem jt_eqD (hr : Room k X.A) (ha : JE X B H0 false sl a da) (hb : JE X B H0 false sl b db) (h1 : pyOk 60 da = true) (h2 : pyOk 60 db = true) : JT X B H0 sl (.Compare a [.Eq] [b] pos) (deq da db) := ⟨fun gh as σ H Q S q =>
  PTt (pt_cmpR (op_eqD hr.units) pe_w pe_w (nomark _)) (ha.run gh as σ H _ S fun x H1 s1 r1 => hb.run gh as σ H1 _ (S.same s1) fun y H2 s2 r2 => ⟨toPy da, toPy db, toPy_rp h1 (r1.stp (.of s2)), toPy_rp h2 r2, shaped_of h1 (by decide), shaped_of h2 (by decide), _, rfl, q H2 (s1.trans s2)⟩)⟩
theorem jt_neD (hr : Room k X.A) (ha : JE X B H0 false sl a da) (hb : JE X B H0 false sl b db) (h1 : pyOk 60 da = true) (h2 : pyOk 60 db = true) : JT X B H0 sl (.Compare a [.NotEq] [b] pos) (!deq da db) := ⟨fun gh as σ H Q S q =>
  PTt (pt_cmpR (op_neD hr.units) pe_w pe_w (nomark _)) (ha.run gh as σ H _ S fun x H1 s1 r1 => hb.run gh as σ H1 _ (S.same s1) fun y H2 s2 r2 => ⟨toPy da, toPy db, toPy_rp h1 (r1.stp (.of s2)), toPy_rp h2 r2, shaped_of h1 (by decide), shaped_of h2 (by decide), _, rfl, q H2 (s1.trans s2)⟩)⟩
/-! ### in -/
def dIn (d : D) (ds : List D) : Bool := ds.any fun z => deq z d
theorem any_py (d : D) : ∀ ds : List D, ((toPyL ds).any fun z => PyData.eqv z (toPy d)) = dIn d ds
  | [] => rfl
  | z :: ds => by
    show (PyData.eqv (toPy z) (toPy d) || (toPyL ds).any fun z => PyData.eqv z (toPy d)) = (deq z d || dIn d ds)
    rw [any_py d ds] <;> rfl
theorem toPy_rd {d : D} {ds : List D} (r : RdL d ds) : toPy d = .list (toPyL ds) := by cases r <;> rfl
theorem je_inDL (hr : Room k X.A) (ha : JE X B H0 false sl a da) (hb : JE X B H0 false sl b db) (rd : RdL db ds) (h1 : pyOk 60 da = true) (h2 : pyOk 60 db = true) (hm : behindInMarks .In b = false := by rfl) : JE X B H0 m sl (.Compare a [.In] [b] pos) (.bl (dIn da ds)) := ⟨fun gh as σ H Q S q =>
  PEt (pe_cmpR (op_inD (by have := hr.un; omega)) pe_w pe_w hm) (ha.run gh as σ H _ S fun x H1 s1 r1 => hb.run gh as σ H1 _ (S.same s1) fun y H2 s2 r2 => ⟨toPy da, toPyL ds, toPy_rp h1 (r1.stp (.of s2)), toPy_rd rd ▸ toPy_rp h2 r2, shaped_of h1 (by decide), toPy_rd rd ▸ shaped_of h2 (by decide), by
    rw [any_py]; exact q _ H2 (s1.trans s2) rfl⟩)⟩
theorem je_ninDL (hr : Room k X.A) (ha : JE X B H0 false sl a da) (hb : JE X B H0 false sl b db) (rd : RdL db ds) (h1 : pyOk 60 da = true) (h2 : pyOk 60 db = true) (hm : behindInMarks .NotIn b = false := by rfl) : JE X B H0 m sl (.Compare a [.NotIn] [b] pos) (.bl (!dIn da ds)) := ⟨fun gh as σ H Q S q =>
  PEt (pe_cmpR (op_notInD (by have := hr.un; omega)) pe_w pe_w hm) (ha.run gh as σ H _ S fun x H1 s1 r1 => hb.run gh as σ H1 _ (S.same s1) fun y H2 s2 r2 => ⟨toPy da, toPyL ds, toPy_rp h1 (r1.stp (.of s2)), toPy_rd rd ▸ toPy_rp h2 r2, shaped_of h1 (by decide), toPy_rd rd ▸ shaped_of h2 (by decide), by
    rw [any_py]; exact q _ H2 (s1.trans s2) rfl⟩)⟩
theorem jt_cmpv {op : CmpOp} {v : Bool} (h : JE X B H0 false sl (.Compare a [op] [b] pos) (.bl v)) (he : ∀ whole, isTrue (.Compare a [op] [b] pos) X.env whole = (do let v ← whole; standAt (Expr.Compare a [op] [b] pos).pos; holding [v] (truthy v)) := by intro _; rfl) : JT X B H0 sl (.Compare a [op] [b] pos) v := jt_val h he
theorem dIn_map {α : Type} [DecidableEq α] {f : α → D} (h : Inj f) (x : α) (xs : List α) : dIn (f x) (xs.map f) = decide (x ∈ xs) := by
  rw [Bool.eq_iff_iff, decide_eq_true_iff]
  unfold dIn
  rw [List.any_map, List.any_eq_true]
  constructor
  · rintro ⟨y, hy, e⟩
    have := (h y x).mp e
    rw [← this]; exact hy
  · intro hx
    exact ⟨x, hx, (h x x).mpr rfl⟩
end
end PD
namespace PD
open PySem PySem.Spec PyProof.Rows L2
abbrev Q := Int × Int
abbrev fr (q : Q) : D := .tup [.int q.1, .int q.2]
theorem inj_fr : Inj fr := inj_pair inj_int inj_int
theorem ok_fr (q : Q) : pyOk 60 (fr q) = true := rfl
section
variable {X : Cx} {B : Addr → Prop} {H0 : Hp} {m m1 m2 : Bool} {sl sl' : List Sl} {e a b c tg iter elt : Expr} {es ifs : List Expr} {d d1 d2 da db : D} {ds dt : List D} {pos p p2 px : Pos} {P : Po} {st : Stmt} {rest body : List Stmt} {x y : Str} {scope : Scope} {own : List (Str × Nat)} {α β : Type} {f : α → D}
theorem je_pr {x1 : Nat} {i j : Int} (h : JA X B H0 m sl es [.int i, .int j]) : JE X B H0 m sl (.Tuple es x1 pos) (fr (i, j)) := je_tup h
theorem jaM_nil : JA X B H0 m sl [] (([] : List α).map f) := ja_nil
theorem jaM_cons {z : α} {zs : List α} (h : JE X B H0 m sl e (f z)) (hr : JA X B H0 m sl es (zs.map f)) (hs : starEach (e :: es) X.env = (false, eval e X.env) :: starEach es X.env := by rfl) : JA X B H0 m sl (e :: es) ((z :: zs).map f) := ja_cons h hr hs
theorem jf_lstM {xs : List α} (h : JA X B H0 true sl es (xs.map f)) (hl : xs.length ≤ sizeLine := by exact Nat.le_of_ble_eq_true rfl) : JF X B H0 sl (.List es pos) (.lst (xs.map f)) := jf_lst h (by rw [List.length_map]; exact hl)
theorem jf_catM {xs ys : List α} (ha : JE X B H0 true sl a (.lst (xs.map f))) (hb : JE X B H0 true sl b (.lst (ys.map f))) (hl : xs.length + ys.length ≤ sizeLine) : JF X B H0 sl (.BinOp a .Add b pos) (.lst ((xs ++ ys).map f)) := by
  rw [List.map_append]
  exact jf_catL ha hb (by rw [List.length_map, List.length_map]; exact hl)
theorem jf_repM {xs : List α} {k : Int} (ha : JE X B H0 true sl a (.lst (xs.map f))) (hb : JE X B H0 false sl b (.int k)) (h : -(2 ^ 63) ≤ k ∧ k < 2 ^ 63 ∧ xs.length * k.toNat ≤ sizeLine) : JF X B H0 sl (.BinOp a .Mult b pos) (.lst ((List.replicate k.toNat xs).flatten.map f)) := by
  have e : (List.replicate k.toNat xs).flatten.map f = (List.replicate k.toNat (xs.map f)).flatten := by rw [List.map_flatten, List.map_replicate]
  rw [e]
  exact jf_rep ha hb ⟨h.1, h.2.1, by rw [List.length_map]; exact h.2.2⟩
theorem ji_is (h : JI X B H0 sl tg iter ds) (e : ds = dt) : JI X B H0 sl tg iter dt := e ▸ h
theorem zipD_map {g : β → D} (xs : List α) (ys : List β) : zipD (xs.map f) (ys.map g) = (xs.zip ys).map fun q => .tup [f q.1, g q.2] := by
  unfold zipD
  rw [List.zipWith_map, List.zip, List.map_zipWith]
def enumT (xs : List α) : List (Int × α) := (List.range xs.length).zipWith (fun (k : Nat) x => ((k : Int), x)) xs
theorem enumD_map (xs : List α) : enumD (xs.map f) = (enumT xs).map fun q => .tup [.int q.1, f q.2] := by
  unfold enumD enumT
  rw [List.map_zipWith, List.length_map, List.zipWith_map_right]
def rngT (lo : Int) (n : Nat) : List Int := (List.range n).map fun (k : Nat) => lo + (k : Int)
theorem rngD_map (lo : Int) (n : Nat) : rngD lo n = (rngT lo n).map .int := by
  unfold rngD rngT
  rw [List.map_map]
  rfl
theorem mem_rngT {lo : Int} {n : Nat} {k : Int} : k ∈ rngT lo n ↔ lo ≤ k ∧ k < lo + n := by
  unfold rngT
  rw [List.mem_map]
  constructor
  · rintro ⟨i, hi, rfl⟩
    rw [List.mem_range] at hi
    omega
  · intro h
    exact ⟨(k - lo).toNat, by rw [List.mem_range]; omega, by omega⟩
theorem rngT_len {lo : Int} {n : Nat} : (rngT lo n).length = n := by unfold rngT; rw [List.length_map, List.length_range]
theorem filter_tt {xs : List α} : xs.filter (fun _ => true) = xs := by
  induction xs with
  | nil => rfl
  | cons x xs ih => rw [List.filter_cons, if_pos rfl, ih]
/-- [elt for tg in iter] -/
theorem jf_lc0 {xs : List α} {g : α → D} {en : β → D} {h : α → β} (hc : X.calm = true) (hN : X.N.Nodup) (ok : BlkOk X.N X.env.scope scope own) (hi : JI X B H0 sl tg iter (xs.map g))
    (hb : ∀ x ∈ xs, ∃ sl', (∀ s H C cl fp B H0, JG (blkX X scope s H C cl fp) B H0 (own.map (·.2)) tg (g x) (wipeS sl (own.map (·.2))) sl') ∧ (∀ s H C cl fp B H0, JE (blkX X scope s H C cl fp) B H0 true sl' elt (en (h x)))) (hz : xs.length ≤ sizeLine)
    (hs : ∀ x, foldedSetIterable iter X.env x = pure x := by intro _; rfl) : JF X B H0 sl (.ListComp elt [⟨tg, iter, [], 0⟩] scope pos) (.lst ((xs.map h).map en)) := by
  have := jf_lc (pos := pos) (X := X) (B := B) (H0 := H0) (sl := sl) (elt := elt) (ifs := []) (f := fun x => en (h x)) (t := fun _ => true) hc hN ok hi (by decide) (fun x hx => by
    obtain ⟨s', h1, h2⟩ := hb x hx
    exact ⟨s', h1, .nil, fun _ => h2⟩) hz hs
  rw [filter_tt] at this
  rw [List.map_map]
  exact this
/-- [elt for tg in iter if test] -/
theorem jf_lc1 {xs : List α} {g : α → D} {en : β → D} {h : α → β} {t : α → Bool} (hc : X.calm = true) (hN : X.N.Nodup) (ok : BlkOk X.N X.env.scope scope own) (hi : JI X B H0 sl tg iter (xs.map g))
    (hb : ∀ x ∈ xs, ∃ sl', (∀ s H C cl fp B H0, JG (blkX X scope s H C cl fp) B H0 (own.map (·.2)) tg (g x) (wipeS sl (own.map (·.2))) sl') ∧ (∀ s H C cl fp B H0, JT (blkX X scope s H C cl fp) B H0 sl' c (t x)) ∧ (t x = true → ∀ s H C cl fp B H0, JE (blkX X scope s H C cl fp) B H0 true sl' elt (en (h x)))) (hz : xs.length ≤ sizeLine)
    (hs : ∀ x, foldedSetIterable iter X.env x = pure x := by intro _; rfl) : JF X B H0 sl (.ListComp elt [⟨tg, iter, [c], 0⟩] scope pos) (.lst (((xs.filter t).map h).map en)) := by
  have := jf_lc (pos := pos) (X := X) (B := B) (H0 := H0) (sl := sl) (elt := elt) (ifs := [c]) (f := fun x => en (h x)) (t := t) hc hN ok hi (Nat.le_refl _) (fun x hx => by
    obtain ⟨s', h1, h2, h3⟩ := hb x hx
    exact ⟨s', h1, .one h2, h3⟩) hz hs
  rw [List.map_map]
  exact this
theorem js_lc0 {xs : List α} {g : α → D} {en : β → D} {h : α → β} {py spos : Pos} (ow : Bool) (i : Nat) (hc : X.calm = true) (hN : X.N.Nodup) (hy : X.N[i]? = some y) (hyl : X.env.scope.names.lookup y = some .local) (hsw : swapsWith (.ListComp elt [⟨tg, iter, [], 0⟩] scope pos) (some (.Name y py)) spos.line X.env = pure true) (ok : BlkOk X.N X.env.scope scope own) (hi : JI X B H0 sl tg iter (xs.map g))
    (hb : ∀ x ∈ xs, ∃ sl', (∀ s H C cl fp B H0, JG (blkX X scope s H C cl fp) B H0 (own.map (·.2)) tg (g x) (wipeS sl (own.map (·.2))) sl') ∧ (∀ s H C cl fp B H0, JE (blkX X scope s H C cl fp) B H0 true sl' elt (en (h x)))) (hz : xs.length ≤ sizeLine)
    (k : P.nx (sl.set i (if ow then .ow (.lst ((xs.map h).map en)) else .va (.lst ((xs.map h).map en))))) (hs : ∀ x, foldedSetIterable iter X.env x = pure x := by intro _; rfl) : JS X B H0 sl (.Assign [.Name y py] (.ListComp elt [⟨tg, iter, [], 0⟩] scope pos) spos) P := by
  refine js_setLc (f := fun x => en (h x)) (t := fun _ => true) ow i hc hN hy hyl hsw ok hi (by decide) (fun x hx => by
    obtain ⟨s', h1, h2⟩ := hb x hx
    exact ⟨s', h1, .nil, fun _ => h2⟩) hz ?_ hs
  rw [filter_tt]
  rw [List.map_map] at k
  exact k
theorem js_lc1 {xs : List α} {g : α → D} {en : β → D} {h : α → β} {t : α → Bool} {py spos : Pos} (ow : Bool) (i : Nat) (hc : X.calm = true) (hN : X.N.Nodup) (hy : X.N[i]? = some y) (hyl : X.env.scope.names.lookup y = some .local) (hsw : swapsWith (.ListComp elt [⟨tg, iter, [c], 0⟩] scope pos) (some (.Name y py)) spos.line X.env = pure true) (ok : BlkOk X.N X.env.scope scope own) (hi : JI X B H0 sl tg iter (xs.map g))
    (hb : ∀ x ∈ xs, ∃ sl', (∀ s H C cl fp B H0, JG (blkX X scope s H C cl fp) B H0 (own.map (·.2)) tg (g x) (wipeS sl (own.map (·.2))) sl') ∧ (∀ s H C cl fp B H0, JT (blkX X scope s H C cl fp) B H0 sl' c (t x)) ∧ (t x = true → ∀ s H C cl fp B H0, JE (blkX X scope s H C cl fp) B H0 true sl' elt (en (h x)))) (hz : xs.length ≤ sizeLine)
    (k : P.nx (sl.set i (if ow then .ow (.lst (((xs.filter t).map h).map en)) else .va (.lst (((xs.filter t).map h).map en))))) (hs : ∀ x, foldedSetIterable iter X.env x = pure x := by intro _; rfl) : JS X B H0 sl (.Assign [.Name y py] (.ListComp elt [⟨tg, iter, [c], 0⟩] scope pos) spos) P := by
  refine js_setLc (f := fun x => en (h x)) (t := t) ow i hc hN hy hyl hsw ok hi (Nat.le_refl _) (fun x hx => by
    obtain ⟨s', h1, h2, h3⟩ := hb x hx
    exact ⟨s', h1, .one h2, h3⟩) hz ?_ hs
  rw [List.map_map] at k
  exact k
/-! slices by numbers from 0 on -/
theorem sIx_pos {n d : Nat} {i : Int} (h : 0 ≤ i) : HT.sIx n d (some i) = min i.toNat n := by
  have e : i = ((i.toNat : Nat) : Int) := by omega
  rw [e, HT.sIx_nat]
  rfl
theorem cut_to {xs : List α} {i : Int} (h : 0 ≤ i) : cutD (xs.map f) none (some i) = (xs.take i.toNat).map f := by
  unfold cutD
  rw [HT.sIx_none, sIx_pos h, List.length_map, List.drop_zero, Nat.sub_zero, ← List.map_take, List.take_eq_take_iff.mpr]
  omega
theorem cut_from {xs : List α} {i : Int} (h : 0 ≤ i) : cutD (xs.map f) (some i) none = (xs.drop i.toNat).map f := by
  unfold cutD
  rw [HT.sIx_none, sIx_pos h, List.length_map, ← List.map_drop, ← List.map_take]
  congr 1
  by_cases q : i.toNat ≤ xs.length
  · rw [Nat.min_eq_left q, List.take_of_length_le (by rw [List.length_drop]; omega)]
  · rw [Nat.min_eq_right (by omega), List.drop_of_length_le (Nat.le_refl _), List.drop_of_length_le (by omega), List.take_nil]
theorem cut_both {xs : List α} {i j : Int} (h : 0 ≤ i) (h2 : 0 ≤ j) : cutD (xs.map f) (some i) (some j) = ((xs.take j.toNat).drop i.toNat).map f := by
  unfold cutD
  rw [sIx_pos h, sIx_pos h2, List.length_map, ← List.map_drop, ← List.map_take]
  congr 1
  rw [List.drop_take]
  by_cases q : i.toNat ≤ xs.length
  · rw [Nat.min_eq_left q, List.take_eq_take_iff, List.length_drop]
    omega
  · rw [Nat.min_eq_right (show xs.length ≤ i.toNat by omega), List.drop_of_length_le (Nat.le_refl _), List.drop_of_length_le (show xs.length ≤ i.toNat by omega), List.take_nil, List.take_nil]
theorem jf_slTo {xs : List α} {i : Int} {hi : Expr} (he : JE X B H0 true sl e da) (hh : JE X B H0 false sl hi (.int i)) (hr : RdL da (xs.map f)) (h : 0 ≤ i) : JF X B H0 sl (.Subscript e (.Slice none (some hi) none p2) pos) (.lst ((xs.take i.toNat).map f)) := by
  rw [← cut_to h]; exact jf_sl he jo_none (jo_some hh) hr
theorem jf_slFrom {xs : List α} {i : Int} {lo : Expr} (he : JE X B H0 true sl e da) (hh : JE X B H0 false sl lo (.int i)) (hr : RdL da (xs.map f)) (h : 0 ≤ i) : JF X B H0 sl (.Subscript e (.Slice (some lo) none none p2) pos) (.lst ((xs.drop i.toNat).map f)) := by
  rw [← cut_from h]; exact jf_sl he (jo_some hh) jo_none hr
theorem jf_slBoth {xs : List α} {i j : Int} {lo hi : Expr} (he : JE X B H0 true sl e da) (hl : JE X B H0 false sl lo (.int i)) (hh : JE X B H0 false sl hi (.int j)) (hr : RdL da (xs.map f)) (h : 0 ≤ i) (h2 : 0 ≤ j) : JF X B H0 sl (.Subscript e (.Slice (some lo) (some hi) none p2) pos) (.lst (((xs.take j.toNat).drop i.toNat).map f)) := by
  rw [← cut_both h h2]; exact jf_sl he (jo_some hl) (jo_some hh) hr
/-! typed items -/
theorem atI_pos {xs : List α} {i : Int} {v : α} (h0 : 0 ≤ i) (h : xs[i.toNat]? = some v) : atI xs i = some v := by
  have e : i = ((i.toNat : Nat) : Int) := by omega
  rw [e]
  exact atI_nat h
theorem atI_map (f : α → D) (xs : List α) {i : Int} (h0 : 0 ≤ i) (h1 : i < xs.length) (d : α) : atI (xs.map f) i = some (f (xs.getD i.toNat d)) := by
  apply atI_pos h0
  have h2 : i.toNat < xs.length := by omega
  rw [List.getElem?_map, List.getElem?_eq_getElem h2, List.getD_eq_getElem?_getD, List.getElem?_eq_getElem h2]
  rfl
theorem je_ixM {xs : List α} {i : Int} (d0 : α) (ha : JE X B H0 m sl a da) (hb : JE X B H0 false sl b (.int i)) (hr : RdL da (xs.map f)) (h0 : 0 ≤ i) (h1 : i < xs.length) (hp : PlainIx b := by exact fun _ _ => rfl) : JE X B H0 m sl (.Subscript a b pos) (f (xs.getD i.toNat d0)) := je_ixL ha hb hr (atI_map f xs h0 h1 d0) hp
theorem je_ixMT {xs : List α} {i : Int} (d0 : α) (ha : JE X B H0 m sl a (.tup (xs.map f))) (hb : JE X B H0 false sl b (.int i)) (h0 : 0 ≤ i) (h1 : i < xs.length) (hp : PlainIx b := by exact fun _ _ => rfl) : JE X B H0 m sl (.Subscript a b pos) (f (xs.getD i.toNat d0)) := je_ixT ha hb (atI_map f xs h0 h1 d0) hp
theorem atI_end {xs : List α} (h : 0 < xs.length) (d : α) : atI (xs.map f) (-1) = some (f (xs.getLastD d)) := by
  obtain ⟨ys, z, rfl⟩ : ∃ ys z, xs = ys ++ [z] := by
    have hne : xs ≠ [] := fun z => by rw [z] at h; exact absurd h (Nat.lt_irrefl _)
    exact ⟨xs.dropLast, xs.getLast hne, (List.dropLast_concat_getLast hne).symm⟩
  rw [List.map_append, List.getLastD_concat]
  exact atI_last _ _
theorem mu_popM {xs : List α} (h : 0 < xs.length) (d : α) : ∀ A H q vs, H q = some (.lst vs) → RpL X.K A H (xs.map f) vs → MutV X.K A H q vs rPop [] (.lst (xs.dropLast.map f)) (f (xs.getLastD d)) := by
  rw [List.map_dropLast]
  refine mu_pop ?_
  obtain ⟨ys, z, rfl⟩ : ∃ ys z, xs = ys ++ [z] := by
    have hne : xs ≠ [] := fun z => by rw [z] at h; exact absurd h (Nat.lt_irrefl _)
    exact ⟨xs.dropLast, xs.getLast hne, (List.dropLast_concat_getLast hne).symm⟩
  rw [List.getLastD_concat, List.length_map, List.length_append, List.length_singleton, Nat.add_sub_cancel, List.map_append, List.getElem?_append_right (by rw [List.length_map]; exact Nat.le_refl _)]
  rw [List.length_map, Nat.sub_self]
  rfl
theorem mu_appM {xs : List α} {z : α} (hl : xs.length < sizeLine) : ∀ A H q vs ws, H q = some (.lst vs) → RpL X.K A H (xs.map f) vs → RpL X.K A H [f z] ws → MutV X.K A H q vs rAppend ws (.lst ((xs ++ [z]).map f)) .non := by
  rw [List.map_append]
  exact mu_app (by rw [List.length_map]; exact hl)
theorem mu_extM {xs ys : List α} (hl : xs.length + ys.length ≤ sizeLine) : ∀ A H q vs ws, H q = some (.lst vs) → RpL X.K A H (xs.map f) vs → RpL X.K A H [.lst (ys.map f)] ws → MutV X.K A H q vs rExtend ws (.lst ((xs ++ ys).map f)) .non := by
  rw [List.map_append]
  exact mu_ext (by rw [List.length_map, List.length_map]; exact hl)
end
end PD
namespace PD
open PySem PySem.Spec PyProof.Rows L2
theorem small_len {n : Nat} (h : n ≤ 1000000) : n ≤ sizeLine := Nat.le_trans h (by decide)
theorem small_lt {n : Nat} (h : n < 1000000) : n < sizeLine := Nat.lt_of_lt_of_le h (by decide)
theorem map_get {α : Type} {f : α → D} {xs : List α} {k : Nat} {d : D} (h : (xs.map f)[k]? = some d) : ∃ x, xs[k]? = some x ∧ d = f x := by
  rw [List.getElem?_map] at h
  cases hx : xs[k]? with
  | none => rw [hx] at h; cases h
  | some x => rw [hx] at h; exact ⟨x, rfl, (Option.some.inj h).symm⟩
theorem pyOk_lst {α : Type} {f : α → D} {n : Nat} (h : ∀ x, pyOk n (f x) = true) (xs : List α) : pyOk (n + 1) (.lst (xs.map f)) = true := by
  show (decide (0 < n + 1) && pyOkL n (xs.map f)) = true
  rw [pyOkL_map h, decide_eq_true (Nat.succ_pos n)] <;> rfl
theorem pyOk_fro {α : Type} {f : α → D} {n : Nat} (h : ∀ x, pyOk n (f x) = true) (xs : List α) : pyOk (n + 1) (.fro (xs.map f)) = true := by
  show (decide (0 < n + 1) && pyOkL n (xs.map f)) = true
  rw [pyOkL_map h, decide_eq_true (Nat.succ_pos n)] <;> rfl
theorem pyOk_tup {α : Type} {f : α → D} {n : Nat} (h : ∀ x, pyOk n (f x) = true) (xs : List α) : pyOk (n + 1) (.tup (xs.map f)) = true := by
  show (decide (0 < n + 1) && pyOkL n (xs.map f)) = true
  rw [pyOkL_map h, decide_eq_true (Nat.succ_pos n)] <;> rfl
theorem pyOk_pair {d e : D} {n : Nat} (h : pyOk n d = true) (g : pyOk n e = true) : pyOk (n + 1) (.tup [d, e]) = true := by
  show (decide (0 < n + 1) && (pyOk n d && (pyOk n e && true))) = true
  rw [h, g, decide_eq_true (Nat.succ_pos n)] <;> rfl
section
variable {X : Cx} {B : Addr → Prop} {H0 : Hp} {m m1 m2 : Bool} {sl sl' : List Sl} {e a b c tg iter elt : Expr} {es ifs : List Expr} {d d1 d2 da db : D} {ds dt : List D} {pos p p2 px : Pos} {P : Po} {st : Stmt} {rest body : List Stmt} {x y : Str} {α β : Type} {f : α → D} {k : Nat}
theorem je_eqM [DecidableEq α] {u v : α} (h : Inj f) (hr : Room k X.A) (ha : JE X B H0 false sl a (f u)) (hb : JE X B H0 false sl b (f v)) (h1 : ∀ u, pyOk 60 (f u) = true) : JE X B H0 m sl (.Compare a [.Eq] [b] pos) (.bl (decide (u = v))) := by
  rw [← h.eq u v]; exact je_eqD hr ha hb (h1 u) (h1 v)
theorem je_neM [DecidableEq α] {u v : α} (h : Inj f) (hr : Room k X.A) (ha : JE X B H0 false sl a (f u)) (hb : JE X B H0 false sl b (f v)) (h1 : ∀ u, pyOk 60 (f u) = true) : JE X B H0 m sl (.Compare a [.NotEq] [b] pos) (.bl (!decide (u = v))) := by
  rw [← h.eq u v]; exact je_neD hr ha hb (h1 u) (h1 v)
theorem jt_eqM [DecidableEq α] {u v : α} (h : Inj f) (hr : Room k X.A) (ha : JE X B H0 false sl a (f u)) (hb : JE X B H0 false sl b (f v)) (h1 : ∀ u, pyOk 60 (f u) = true) : JT X B H0 sl (.Compare a [.Eq] [b] pos) (decide (u = v)) := by
  rw [← h.eq u v]; exact jt_eqD hr ha hb (h1 u) (h1 v)
theorem jt_neM [DecidableEq α] {u v : α} (h : Inj f) (hr : Room k X.A) (ha : JE X B H0 false sl a (f u)) (hb : JE X B H0 false sl b (f v)) (h1 : ∀ u, pyOk 60 (f u) = true) : JT X B H0 sl (.Compare a [.NotEq] [b] pos) (!decide (u = v)) := by
  rw [← h.eq u v]; exact jt_neD hr ha hb (h1 u) (h1 v)
theorem jt_inDL (hr : Room k X.A) (ha : JE X B H0 false sl a da) (hb : JE X B H0 false sl b db) (rd : RdL db ds) (h1 : pyOk 60 da = true) (h2 : pyOk 60 db = true) (hm : behindInMarks .In b = false := by rfl) : JT X B H0 sl (.Compare a [.In] [b] pos) (dIn da ds) := ⟨fun gh as σ H Q S q =>
  PTt (pt_cmpR (op_inD (by have := hr.un; omega)) pe_w pe_w hm) (ha.run gh as σ H _ S fun x H1 s1 r1 => hb.run gh as σ H1 _ (S.same s1) fun y H2 s2 r2 => ⟨toPy da, toPyL ds, toPy_rp h1 (r1.stp (.of s2)), toPy_rd rd ▸ toPy_rp h2 r2, shaped_of h1 (by decide), toPy_rd rd ▸ shaped_of h2 (by decide), by
    rw [any_py]; exact ⟨_, rfl, q H2 (s1.trans s2)⟩⟩)⟩
theorem jt_ninDL (hr : Room k X.A) (ha : JE X B H0 false sl a da) (hb : JE X B H0 false sl b db) (rd : RdL db ds) (h1 : pyOk 60 da = true) (h2 : pyOk 60 db = true) (hm : behindInMarks .NotIn b = false := by rfl) : JT X B H0 sl (.Compare a [.NotIn] [b] pos) (!dIn da ds) := ⟨fun gh as σ H Q S q =>
  PTt (pt_cmpR (op_notInD (by have := hr.un; omega)) pe_w pe_w hm) (ha.run gh as σ H _ S fun x H1 s1 r1 => hb.run gh as σ H1 _ (S.same s1) fun y H2 s2 r2 => ⟨toPy da, toPyL ds, toPy_rp h1 (r1.stp (.of s2)), toPy_rd rd ▸ toPy_rp h2 r2, shaped_of h1 (by decide), toPy_rd rd ▸ shaped_of h2 (by decide), by
    rw [any_py]; exact ⟨_, rfl, q H2 (s1.trans s2)⟩⟩)⟩
theorem je_inM [DecidableEq α] {u : α} {xs : List α} (h : Inj f) (hr : Room k X.A) (ha : JE X B H0 false sl a (f u)) (hb : JE X B H0 false sl b db) (rd : RdL db (xs.map f)) (h1 : ∀ u, pyOk 59 (f u) = true) (h0 : ∀ u, pyOk 60 (f u) = true) (hm : behindInMarks .In b = false := by rfl) : JE X B H0 m sl (.Compare a [.In] [b] pos) (.bl (decide (u ∈ xs))) := by
  rw [← dIn_map h u xs]; exact je_inDL hr ha hb rd (h0 u) (by cases rd with | lst => exact pyOk_lst h1 xs | fro => exact pyOk_fro h1 xs) hm
theorem je_ninM [DecidableEq α] {u : α} {xs : List α} (h : Inj f) (hr : Room k X.A) (ha : JE X B H0 false sl a (f u)) (hb : JE X B H0 false sl b db) (rd : RdL db (xs.map f)) (h1 : ∀ u, pyOk 59 (f u) = true) (h0 : ∀ u, pyOk 60 (f u) = true) (hm : behindInMarks .NotIn b = false := by rfl) : JE X B H0 m sl (.Compare a [.NotIn] [b] pos) (.bl (!decide (u ∈ xs))) := by
  rw [← dIn_map h u xs]; exact je_ninDL hr ha hb rd (h0 u) (by cases rd with | lst => exact pyOk_lst h1 xs | fro => exact pyOk_fro h1 xs) hm
theorem jt_inM [DecidableEq α] {u : α} {xs : List α} (h : Inj f) (hr : Room k X.A) (ha : JE X B H0 false sl a (f u)) (hb : JE X B H0 false sl b db) (rd : RdL db (xs.map f)) (h1 : ∀ u, pyOk 59 (f u) = true) (h0 : ∀ u, pyOk 60 (f u) = true) (hm : behindInMarks .In b = false := by rfl) : JT X B H0 sl (.Compare a [.In] [b] pos) (decide (u ∈ xs)) := by
  rw [← dIn_map h u xs]; exact jt_inDL hr ha hb rd (h0 u) (by cases rd with | lst => exact pyOk_lst h1 xs | fro => exact pyOk_fro h1 xs) hm
theorem jt_ninM [DecidableEq α] {u : α} {xs : List α} (h : Inj f) (hr : Room k X.A) (ha : JE X B H0 false sl a (f u)) (hb : JE X B H0 false sl b db) (rd : RdL db (xs.map f)) (h1 : ∀ u, pyOk 59 (f u) = true) (h0 : ∀ u, pyOk 60 (f u) = true) (hm : behindInMarks .NotIn b = false := by rfl) : JT X B H0 sl (.Compare a [.NotIn] [b] pos) (!decide (u ∈ xs)) := by
  rw [← dIn_map h u xs]; exact jt_ninDL hr ha hb rd (h0 u) (by cases rd with | lst => exact pyOk_lst h1 xs | fro => exact pyOk_fro h1 xs) hm
/-- ints in a tuple of ints -/
theorem flat_ints : ∀ ns : List Int, (ns.map V.int).all flatV = true
  | [] => rfl
  | n :: ns => by
    rw [List.map_cons, List.all_cons, flat_ints ns]
    rfl
theorem inV_ints (n : Int) : ∀ ns : List Int, inV (.int n) (ns.map V.int) = decide (n ∈ ns)
  | [] => rfl
  | k :: ns => by
    have ih := inV_ints n ns
    unfold inV at ih ⊢
    rw [List.map_cons, List.any_cons, ih]
    have e : eqV (.int k) (.int n) = decide (k = n) := by
      show (k == n) = _
      exact Bool.beq_eq_decide_eq k n
    rw [e]
    by_cases h : k = n
    · subst h; simp
    · have h' : ¬ n = k := fun z => h z.symm
      simp [h, h']
theorem jt_inUI {n : Int} {ns : List Int} (hm : behindInMarks .In b = false) (ha : JE X B H0 false sl a (.int n)) (hb : JE X B H0 false sl b (.tup (ns.map .int))) : JT X B H0 sl (.Compare a [.In] [b] pos) (decide (n ∈ ns)) := ⟨fun gh as σ H Q S q =>
  PTt (pt_cmpR op_in_seq pe_w pe_w hm) (ha.run gh as σ H _ S fun x H1 s1 r1 => hb.run gh as σ H1 _ (S.same s1) fun y H2 s2 r2 => by
    cases (show x = .int n from r1)
    obtain ⟨t, xs, rfl, ht, hx⟩ := r2
    rw [rpl_ints] at hx
    subst hx
    refine ⟨t, _, rfl, .inr (.inl (.inl ht)), rfl, flat_ints ns, _, rfl, ?_⟩
    show Q (inV (.int n) (ns.map V.int)) H2
    rw [inV_ints]
    exact q H2 (s1.trans s2))⟩
theorem je_inUI {n : Int} {ns : List Int} (hm : behindInMarks .In b = false) (ha : JE X B H0 false sl a (.int n)) (hb : JE X B H0 false sl b (.tup (ns.map .int))) : JE X B H0 m sl (.Compare a [.In] [b] pos) (.bl (decide (n ∈ ns))) := ⟨fun gh as σ H Q S q =>
  PEt (pe_cmpR op_in_seq pe_w pe_w hm) (ha.run gh as σ H _ S fun x H1 s1 r1 => hb.run gh as σ H1 _ (S.same s1) fun y H2 s2 r2 => by
    cases (show x = .int n from r1)
    obtain ⟨t, xs, rfl, ht, hx⟩ := r2
    rw [rpl_ints] at hx
    subst hx
    refine ⟨t, _, rfl, .inr (.inl (.inl ht)), rfl, flat_ints ns, ?_⟩
    show Q (.bl (inV (.int n) (ns.map V.int))) H2
    rw [inV_ints]
    exact q _ H2 (s1.trans s2) rfl)⟩
/-- the last item -/
theorem je_ixE {xs : List α} (d0 : α) (ha : JE X B H0 m sl a da) (hb : JE X B H0 false sl b (.int (-1))) (hr : RdL da (xs.map f)) (h : 0 < xs.length) (hp : PlainIx b := by exact fun _ _ => rfl) : JE X B H0 m sl (.Subscript a b pos) (f (xs.getLastD d0)) := je_ixL ha hb hr (atI_end h d0) hp
theorem je_ixET {xs : List α} (d0 : α) (ha : JE X B H0 m sl a (.tup (xs.map f))) (hb : JE X B H0 false sl b (.int (-1))) (h : 0 < xs.length) (hp : PlainIx b := by exact fun _ _ => rfl) : JE X B H0 m sl (.Subscript a b pos) (f (xs.getLastD d0)) := je_ixT ha hb (atI_end h d0) hp
/-- xs[i] = v, i from 0 on -/
theorem js_setM (i : Nat) {xs : List α} {j : Int} {z : α} {ix : Expr} {sp : Pos} (hN : X.N[i]? = some x) (hv : Vis X.env.scope x) (ho : sl[i]? = some (.ow (.lst (xs.map f)))) (he : JE X B H0 true sl e (f z)) (hi : JE X B H0 false sl ix (.int j)) (h0 : 0 ≤ j) (h1 : j < xs.length) (h : P.nx (sl.set i (.ow (.lst ((xs.set j.toNat z).map f)))))
    (hs : swapsWithSole [.Subscript (.Name x p) ix sp] e pos.line X.env = pure false := by rfl) (hw : swappedStores [.Subscript (.Name x p) ix sp] e X.env = pure none := by rfl) (hh : (assignEach [.Subscript (.Name x p) ix sp] X.env).map (·.2) = [assign (.Subscript (.Name x p) ix sp) X.env] := by rfl)
    (ha : ∀ v, assign (.Subscript (.Name x p) ix sp) X.env v = (do
      let ov ← holding [v] (eval (.Name x p) X.env)
      let iv ← holding [v, ov] (eval ix X.env)
      standAt sp
      holding [v, ov, iv] (setItem ov iv v)
      release [v, ov, iv] []) := by intro _; rfl) (hd : (x == ("__debug__" : Str)) = false := by decide) (hcd : (x == ("__classdict__" : Str)) = false := by decide) : JS X B H0 sl (.Assign [.Subscript (.Name x p) ix sp] e pos) P := by
  refine js_setI (n := j.toNat) i hN hv ho he hi ?_ (by rw [← List.map_set]; exact h) hs hw hh ha hd hcd
  unfold ixN
  rw [if_pos h0, if_pos (by rw [List.length_map]; omega)]
/-- lists -/
theorem ji_rev {xs : List α} (h : JI X B H0 sl tg iter ((xs.map f).reverse)) : JI X B H0 sl tg iter (xs.reverse.map f) := by
  rw [List.map_reverse]; exact h
theorem ji_rngT {lo : Int} {n : Nat} (h : JI X B H0 sl tg iter (rngD lo n)) : JI X B H0 sl tg iter ((rngT lo n).map .int) := rngD_map lo n ▸ h
theorem ji_enumT {xs : List α} (h : JI X B H0 sl tg iter (enumD (xs.map f))) : JI X B H0 sl tg iter ((enumT xs).map fun q => .tup [.int q.1, f q.2]) := enumD_map xs ▸ h
theorem ji_zipT {g : β → D} {xs : List α} {ys : List β} (h : JI X B H0 sl tg iter (zipD (xs.map f) (ys.map g))) : JI X B H0 sl tg iter ((xs.zip ys).map fun q => .tup [f q.1, g q.2]) := zipD_map xs ys ▸ h
end
theorem enumT_mem {α : Type} {xs : List α} {q : Int × α} (h : q ∈ enumT xs) : 0 ≤ q.1 ∧ q.1 < xs.length ∧ xs[q.1.toNat]? = some q.2 := by
  unfold enumT at h
  obtain ⟨k, hk⟩ := List.getElem?_of_mem h
  rw [List.getElem?_zipWith] at hk
  by_cases hl : k < xs.length
  · rw [List.getElem?_range hl, List.getElem?_eq_getElem hl] at hk
    cases hk
    exact ⟨by show (0:Int) ≤ (k : Int); omega, by show (k : Int) < _; omega, by show xs[((k : Int)).toNat]? = _; rw [Int.toNat_natCast, List.getElem?_eq_getElem hl]⟩
  · rw [List.getElem?_eq_none_iff.mpr (show xs.length ≤ k by omega)] at hk
    rw [List.getElem?_eq_none_iff.mpr (show (List.range xs.length).length ≤ k by rw [List.length_range]; omega)] at hk
    cases hk
theorem enumT_get {α : Type} {xs : List α} {k : Nat} {q : Int × α} (h : (enumT xs)[k]? = some q) : xs[k]? = some q.2 ∧ q.1 = k ∧ k < xs.length := by
  unfold enumT at h
  rw [List.getElem?_zipWith] at h
  by_cases hl : k < xs.length
  · rw [List.getElem?_range hl, List.getElem?_eq_getElem hl] at h
    cases h
    exact ⟨by rw [List.getElem?_eq_getElem hl], rfl, hl⟩
  · rw [List.getElem?_eq_none_iff.mpr (show xs.length ≤ k by omega)] at h
    rw [List.getElem?_eq_none_iff.mpr (show (List.range xs.length).length ≤ k by rw [List.length_range]; omega)] at h
    cases h
theorem enumT_len {α : Type} {xs : List α} : (enumT xs).length = xs.length := by
  unfold enumT
  rw [List.length_zipWith, List.length_range, Nat.min_self]
theorem rngT_get {lo : Int} {n k : Nat} {z : Int} (h : (rngT lo n)[k]? = some z) : z = lo + k ∧ k < n := by
  unfold rngT at h
  rw [List.getElem?_map] at h
  by_cases hk : k < n
  · rw [List.getElem?_range hk] at h
    exact ⟨(Option.some.inj h).symm, hk⟩
  · rw [List.getElem?_eq_none_iff.mpr (by rw [List.length_range]; omega)] at h
    cases h
end PD
namespace PD
theorem rngT_get0 {n k : Nat} {z : Int} (h : (rngT 0 n)[k]? = some z) : z = (k : Int) ∧ k < n := by
  have := rngT_get h
  rw [Int.zero_add] at this
  exact this
end PD
namespace PD
open PySem PySem.Spec PyProof.Rows L2
/-! ### whole numbers of bounded size -/
def Bd (n : Nat) (x : Int) : Prop := x.natAbs < 2 ^ n
theorem Bd.mono {m n : Nat} {x : Int} (h : Bd m x) (l : m ≤ n) : Bd n x := Nat.lt_of_lt_of_le h (Nat.pow_le_pow_right (by decide) l)
theorem Bd.mul {m n : Nat} {x y : Int} (h : Bd m x) (g : Bd n y) : Bd (m + n) (x * y) := by
  unfold Bd at *
  rw [Int.natAbs_mul, Nat.pow_add]
  exact Nat.mul_lt_mul'' h g
theorem Bd.add {n : Nat} {x y : Int} (h : Bd n x) (g : Bd n y) : Bd (n + 1) (x + y) := by
  unfold Bd at *
  have := Int.natAbs_add_le x y
  rw [Nat.pow_succ]
  omega
theorem Bd.sub {n : Nat} {x y : Int} (h : Bd n x) (g : Bd n y) : Bd (n + 1) (x - y) := by
  unfold Bd at *
  have := Int.natAbs_sub_le x y
  rw [Nat.pow_succ]
  omega
theorem Bd.neg {n : Nat} {x : Int} (h : Bd n x) : Bd n (-x) := by
  unfold Bd at *
  rw [Int.natAbs_neg]
  exact h
theorem Bd.le {n : Nat} {x y : Int} (h : Bd n y) (l : x.natAbs ≤ y.natAbs) : Bd n x := Nat.lt_of_le_of_lt l h
theorem Bd.div {n : Nat} {x k : Int} (h : Bd n x) : Bd n (x / k) := h.le (Int.natAbs_ediv_le_natAbs x k)
theorem Bd.of {n : Nat} {x : Int} (h : -(2 ^ n) < x) (g : x < 2 ^ n) : Bd n x := by
  unfold Bd
  have e : ((2 ^ n : Nat) : Int) = (2 : Int) ^ n := by norm_cast
  omega
theorem mulOk {m n : Nat} {x y : Int} (h : Bd m x) (g : Bd n y) (l : m + n ≤ 1000000 := by decide) (h0 : 0 < m := by decide) (g0 : 0 < n := by decide) : MulOk x y := .inl (wide_mul h g h0 g0 l)
theorem Bd.log {n : Nat} {x : Int} (g : Bd n x) (h0 : 0 < n) : x.natAbs.log2 < n := PySem.Flt.log2_lt_of h0 g
theorem divOk {n : Nat} {x y : Int} (h : 0 < y) (g : Bd n x) (l : n ≤ 13530 := by decide) (g0 : 0 < n := by decide) : CDivX x y := divT h (Nat.lt_of_lt_of_le (g.log g0) l)
theorem divN {n : Nat} {x y : Int} (h : 0 < y) (g : Bd n y) (l : n ≤ 9000 := by decide) (g0 : 0 < n := by decide) : CDivX x y := divK h (Nat.lt_of_lt_of_le (g.log g0) l)

/-! ### fractions -/
/-- a bottom from 1 on, both of bounded size -/
def FB (n : Nat) (q : Q) : Prop := 0 < q.2 ∧ Bd n q.1 ∧ Bd n q.2
theorem FB.mono {m n : Nat} {q : Q} (h : FB m q) (l : m ≤ n) : FB n q := ⟨h.1, h.2.1.mono l, h.2.2.mono l⟩
def lowest (q : Q) : Prop := Int.gcd q.1 q.2 = 1
def mkP (t b : Int) : Q := (t / (Int.gcd t b : Int), b / (Int.gcd t b : Int))
def mkF (t b : Int) : Q := if b < 0 then mkP (-t) (-b) else mkP t b
theorem mkF_pos {t b : Int} (h : 0 < b) : mkF t b = mkP t b := by
  unfold mkF
  rw [if_neg (by omega)]
theorem gcd_pos {t b : Int} (h : b ≠ 0) : 0 < (Int.gcd t b : Int) := by
  have : 0 < Int.gcd t b := Int.gcd_pos_of_ne_zero_right t h
  omega
theorem gcd_le {t b : Int} (h : b ≠ 0) : (Int.gcd t b : Int).natAbs ≤ b.natAbs := by
  rw [Int.natAbs_natCast]
  exact Nat.le_of_dvd (by omega) (Int.gcd_dvd_natAbs_right t b)
theorem mkP_FB {t b : Int} {n : Nat} (h : 0 < b) (ht : Bd n t) (hb : Bd n b) : FB n (mkP t b) := by
  refine ⟨?_, ht.div, hb.div⟩
  have hg := gcd_pos (t := t) (b := b) (by omega)
  show 0 < b / (Int.gcd t b : Int)
  exact Int.ediv_pos_of_pos_of_dvd h (by omega) (Int.gcd_dvd_right t b)
theorem mkP_eq {t b : Int} (h : b ≠ 0) : (mkP t b).1 * b = t * (mkP t b).2 := by
  show t / (Int.gcd t b : Int) * b = t * (b / (Int.gcd t b : Int))
  have h1 : (Int.gcd t b : Int) * (t / (Int.gcd t b : Int)) = t := Int.mul_ediv_cancel' (Int.gcd_dvd_left t b)
  have h2 : (Int.gcd t b : Int) * (b / (Int.gcd t b : Int)) = b := Int.mul_ediv_cancel' (Int.gcd_dvd_right t b)
  generalize t / (Int.gcd t b : Int) = u at *
  generalize b / (Int.gcd t b : Int) = v at *
  generalize (Int.gcd t b : Int) = g at *
  subst h1
  rw [← h2]
  grind
theorem mkP_low {t b : Int} (h : b ≠ 0) : lowest (mkP t b) := by
  have hg : 0 < Int.gcd t b := Int.gcd_pos_of_ne_zero_right t h
  exact Int.gcd_ediv_gcd_ediv_gcd hg
theorem mkF_FB {t b : Int} {n : Nat} (h : b ≠ 0) (ht : Bd n t) (hb : Bd n b) : FB n (mkF t b) := by
  unfold mkF
  split
  · exact mkP_FB (by omega) ht.neg hb.neg
  · exact mkP_FB (by omega) ht hb
theorem mkF_low {t b : Int} (h : b ≠ 0) : lowest (mkF t b) := by
  unfold mkF
  split
  · exact mkP_low (by omega)
  · exact mkP_low h
theorem mkF_eq {t b : Int} (h : b ≠ 0) : (mkF t b).1 * b = t * (mkF t b).2 := by
  unfold mkF
  split
  · have := mkP_eq (t := -t) (b := -b) (by omega)
    grind
  · exact mkP_eq h
def qadd (a b : Q) : Q := mkF (a.1 * b.2 + b.1 * a.2) (a.2 * b.2)
def qsub (a b : Q) : Q := mkF (a.1 * b.2 - b.1 * a.2) (a.2 * b.2)
def qmul (a b : Q) : Q := mkF (a.1 * b.1) (a.2 * b.2)
def qdiv (a b : Q) : Q := mkF (a.1 * b.2) (a.2 * b.1)
def qpow (a : Q) (n : Nat) : Q := (a.1 ^ n, a.2 ^ n)
/-- found is top / bottom in lowest terms -/
def isFr (q : Q) (t b : Int) : Bool := !(decide (q.2 < 1) || !decide ((Int.gcd q.1 q.2 : Int) = 1)) && decide (q.1 * b = t * q.2)
theorem isFr_of {q : Q} {t b : Int} (h : 0 < q.2) (l : lowest q) (e : q.1 * b = t * q.2) : isFr q t b = true := by
  unfold isFr lowest at *
  rw [l, decide_eq_true e, decide_eq_false (by omega)]
  rfl
theorem isFr_mk {t b : Int} (h : b ≠ 0) (n : Nat) (ht : Bd n t) (hb : Bd n b) : isFr (mkF t b) t b = true := isFr_of (mkF_FB h ht hb).1 (mkF_low h) (mkF_eq h)
/-! ### Euclid's walks -/
theorem gcd_mod (a b : Int) : Int.gcd b (a % b) = Int.gcd a b := by
  have h : a = a % b + b * (a / b) := by have := Int.emod_add_mul_ediv a b; omega
  have := Int.gcd_add_mul_left_right b (a % b) (a / b)
  rw [← h] at this
  rw [← this, Int.gcd_comm]
theorem gcd_fmod (a b : Int) : Int.gcd b (a.fmod b) = Int.gcd a b := by
  have h : a = a.fmod b + b * (a.fdiv b) := by have := Int.fmod_add_mul_fdiv a b; omega
  have := Int.gcd_add_mul_left_right b (a.fmod b) (a.fdiv b)
  rw [← h] at this
  rw [← this, Int.gcd_comm]
theorem fmod_lt (a : Int) {b : Int} (h : b ≠ 0) : (a.fmod b).natAbs < b.natAbs := by
  rcases Int.lt_or_gt_of_ne h with g | g
  · have h1 := @Int.fmod_eq_emod a b
    have h2 := Int.emod_nonneg a h
    have h3 := Int.emod_lt_of_neg a g
    rw [h1]
    split
    · rename_i q
      rcases q with q | q
      · omega
      · have : a % b = 0 := Int.emod_eq_zero_of_dvd q
        omega
    · rename_i q
      have : a % b ≠ 0 := fun z => q (.inr (Int.dvd_of_emod_eq_zero z))
      omega
  · rw [Int.fmod_eq_emod_of_nonneg a (by omega)]
    have h2 := Int.emod_nonneg a h
    have h3 := Int.emod_lt_of_pos a g
    omega
theorem abs_eq (x : Int) : (if x < 0 then -x else x) = (x.natAbs : Int) := by
  split <;> omega
theorem gcd_abs (t b : Int) : Int.gcd (if t < 0 then -t else t) b = Int.gcd t b := by
  split
  · exact Int.neg_gcd
  · rfl
end PD
namespace PD
open PySem PySem.Spec PyProof.Rows L2
/-- the numbers of a script, 0 behind its end -/
def cell (ns : List Int) (k : Int) : Int := ns.getD k.toNat 0
theorem bd_pow {n : Nat} {x : Int} (h : Bd n x) (h0 : 0 < n) : ∀ k : Nat, Bd (n * k + 1) (x ^ k)
  | 0 => by
    rw [Int.pow_zero]
    show (1 : Int).natAbs < 2 ^ (n * 0 + 1)
    simp
  | k + 1 => by
    have := (bd_pow h h0 k).mul h
    rw [Int.pow_succ]
    exact this.mono (by rw [Nat.mul_add]; omega)
theorem qpow_zero (a : Q) : qpow a 0 = (1, 1) := by
  unfold qpow
  rw [Int.pow_zero, Int.pow_zero]
theorem qpow_succ (a : Q) (k : Nat) : qpow a (k + 1) = ((qpow a k).1 * a.1, (qpow a k).2 * a.2) := by
  unfold qpow
  rw [Int.pow_succ, Int.pow_succ]
theorem isFr_pow {a : Q} {n : Nat} (h : FB n a) (l : lowest a) (k : Nat) : isFr (qpow a k) (a.1 ^ k) (a.2 ^ k) = true := by
  refine isFr_of (Int.pow_pos h.1) ?_ rfl
  show Int.gcd (a.1 ^ k) (a.2 ^ k) = 1
  have l' : Nat.Coprime a.1.natAbs a.2.natAbs := l
  rw [Int.gcd_eq_natAbs_gcd_natAbs] 
  rw [Int.natAbs_pow, Int.natAbs_pow]
  exact Nat.Coprime.pow k k l'
end PD
namespace PD
/-! ### the rows of (1 - x) ^ n -/
def ch : Nat → Nat → Int
  | 0, 0 => 1
  | 0, _ + 1 => 0
  | _ + 1, 0 => 1
  | n + 1, k + 1 => ch n k + ch n (k + 1)
theorem ch_zero (n : Nat) : ch n 0 = 1 := by cases n <;> rfl
theorem ch_big : ∀ (n k : Nat), n < k → ch n k = 0
  | 0, 0, h => by omega
  | 0, k + 1, _ => rfl
  | n + 1, 0, h => by omega
  | n + 1, k + 1, h => by
    show ch n k + ch n (k + 1) = 0
    rw [ch_big n k (by omega), ch_big n (k + 1) (by omega)] <;> rfl
theorem ch_self : ∀ n : Nat, ch n n = 1
  | 0 => rfl
  | n + 1 => by
    show ch n n + ch n (n + 1) = 1
    rw [ch_self n, ch_big n (n + 1) (by omega)] <;> rfl
theorem ch_nn : ∀ (n k : Nat), 0 ≤ ch n k
  | 0, 0 => by decide
  | 0, k + 1 => Int.le_refl 0
  | n + 1, 0 => by rw [ch_zero]; decide
  | n + 1, k + 1 => by
    have h1 := ch_nn n k
    have h2 := ch_nn n (k + 1)
    show 0 ≤ ch n k + ch n (k + 1)
    omega
theorem ch_le : ∀ (n k : Nat), ch n k ≤ 2 ^ n
  | 0, 0 => by decide
  | 0, k + 1 => by show (0 : Int) ≤ 1; decide
  | n + 1, 0 => by
    rw [ch_zero]
    have : (1 : Int) ≤ 2 ^ (n + 1) := by
      have h : (0 : Int) < 2 ^ (n + 1) := Int.pow_pos (by decide)
      omega
    exact this
  | n + 1, k + 1 => by
    have h1 := ch_le n k
    have h2 := ch_le n (k + 1)
    show ch n k + ch n (k + 1) ≤ 2 ^ (n + 1)
    rw [Int.pow_succ]
    omega
def sg (k : Nat) : Int := 1 - 2 * ((k : Int) % 2)
theorem sg_succ (k : Nat) : sg (k + 1) = - sg k := by
  unfold sg
  omega
def rowC : Nat → List Int
  | 0 => [1]
  | n + 1 => ((rowC n ++ [0]).zip ([0] ++ rowC n)).map fun q : Int × Int => q.1 - q.2
theorem rowC_len : ∀ n : Nat, (rowC n).length = n + 1
  | 0 => rfl
  | n + 1 => by
    unfold rowC
    simp [rowC_len n]
theorem rowC_get : ∀ (n k : Nat), k ≤ n → (rowC n)[k]? = some (sg k * ch n k)
  | 0, 0, _ => by rfl
  | 0, k + 1, h => by omega
  | n + 1, k, h => by
    have hl := rowC_len n
    unfold rowC
    rw [List.getElem?_map, List.getElem?_zip_eq_some (z := (if k ≤ n then sg k * ch n k else 0, if 0 < k then sg (k - 1) * ch n (k - 1) else 0)).mpr (show (rowC n ++ [0])[k]? = some (if k ≤ n then sg k * ch n k else 0) ∧ ([0] ++ rowC n)[k]? = some (if 0 < k then sg (k - 1) * ch n (k - 1) else 0) from ?_)]
    · show some (_ - _) = _
      congr 1
      dsimp only
      cases k with
      | zero => simp [ch_zero]
      | succ k =>
        have e : ch (n + 1) (k + 1) = ch n k + ch n (k + 1) := rfl
        rw [e, sg_succ, if_pos (Nat.succ_pos k), Nat.add_sub_cancel]
        by_cases h2 : k + 1 ≤ n
        · rw [if_pos h2]
          grind
        · rw [if_neg h2, ch_big n (k + 1) (by omega)]
          grind
    · constructor
      · by_cases h2 : k ≤ n
        · rw [if_pos h2, List.getElem?_append_left (by omega), rowC_get n k h2]
        · rw [if_neg h2, List.getElem?_append_right (by omega), hl, show k - (n + 1) = 0 by omega]
          rfl
      · cases k with
        | zero => rfl
        | succ k =>
          rw [if_pos (Nat.succ_pos k), Nat.add_sub_cancel]
          show (rowC n)[k]? = _
          exact rowC_get n k (by omega)
end PD
namespace PD
open PySem PySem.Spec PyProof.Rows L2
/-! ### fractions as rational numbers -/
def val (q : Q) : Rat := (q.1 : Rat) / (q.2 : Rat)
theorem cast_ne {b : Int} (h : b ≠ 0) : (b : Rat) ≠ 0 := by
  intro e
  exact h (by exact_mod_cast e)
theorem div_eq_iff' {a b c d : Int} (hb : b ≠ 0) (hd : d ≠ 0) : ((a : Rat) / (b : Rat) = (c : Rat) / (d : Rat)) ↔ a * d = c * b := by
  have h1 := cast_ne hb
  have h2 := cast_ne hd
  constructor
  · intro h
    have e : (a : Rat) * (d : Rat) = (c : Rat) * (b : Rat) := by grind
    exact_mod_cast e
  · intro h
    have e : (a : Rat) * (d : Rat) = (c : Rat) * (b : Rat) := by exact_mod_cast h
    grind
theorem val_of {q : Q} {t b : Int} (hq : q.2 ≠ 0) (hb : b ≠ 0) (e : q.1 * b = t * q.2) : val q = (t : Rat) / (b : Rat) := (div_eq_iff' hq hb).mpr e
theorem val_mkF {t b : Int} (h : b ≠ 0) : val (mkF t b) = (t : Rat) / (b : Rat) := by
  refine val_of ?_ h (mkF_eq h)
  unfold mkF
  split
  · intro e
    have := (mkP_FB (n := (-t).natAbs + (-b).natAbs) (t := -t) (b := -b) (by omega) (Nat.lt_of_le_of_lt (Nat.le_add_right _ _) Nat.lt_two_pow_self) (Nat.lt_of_le_of_lt (Nat.le_add_left _ _) Nat.lt_two_pow_self)).1
    omega
  · intro e
    have := (mkP_FB (n := (t).natAbs + (b).natAbs) (t := t) (b := b) (by omega) (Nat.lt_of_le_of_lt (Nat.le_add_right _ _) Nat.lt_two_pow_self) (Nat.lt_of_le_of_lt (Nat.le_add_left _ _) Nat.lt_two_pow_self)).1
    omega
theorem mkP_pos {t b : Int} (h : 0 < b) : 0 < (mkP t b).2 := (mkP_FB (n := (t).natAbs + (b).natAbs) (t := t) (b := b) h (Nat.lt_of_le_of_lt (Nat.le_add_right _ _) Nat.lt_two_pow_self) (Nat.lt_of_le_of_lt (Nat.le_add_left _ _) Nat.lt_two_pow_self)).1
theorem val_mkP {t b : Int} (h : 0 < b) : val (mkP t b) = (t : Rat) / (b : Rat) := val_of (by have := mkP_pos (t := t) h; omega) (by omega) (mkP_eq (by omega))
theorem mul_ne {a b : Int} (h : 0 < a) (g : 0 < b) : a * b ≠ 0 := Int.ne_of_gt (Int.mul_pos h g)
theorem val_add {a b : Q} (h : 0 < a.2) (g : 0 < b.2) : val (qadd a b) = val a + val b := by
  unfold qadd
  rw [val_mkF (mul_ne h g)]
  have h1 := cast_ne (Int.ne_of_gt h)
  have h2 := cast_ne (Int.ne_of_gt g)
  unfold val
  push_cast
  grind
theorem val_sub {a b : Q} (h : 0 < a.2) (g : 0 < b.2) : val (qsub a b) = val a - val b := by
  unfold qsub
  rw [val_mkF (mul_ne h g)]
  have h1 := cast_ne (Int.ne_of_gt h)
  have h2 := cast_ne (Int.ne_of_gt g)
  unfold val
  push_cast
  grind
theorem val_mul {a b : Q} (h : 0 < a.2) (g : 0 < b.2) : val (qmul a b) = val a * val b := by
  unfold qmul
  rw [val_mkF (mul_ne h g)]
  have h1 := cast_ne (Int.ne_of_gt h)
  have h2 := cast_ne (Int.ne_of_gt g)
  unfold val
  push_cast
  grind
/-- two fractions in lowest terms, their bottoms from 1 on, that stand for the same number are the same -/
theorem val_inj {a b : Q} (ha : 0 < a.2) (hb : 0 < b.2) (la : lowest a) (lb : lowest b) (e : val a = val b) : a = b := by
  have e2 : a.1 * b.2 = b.1 * a.2 := (div_eq_iff' (Int.ne_of_gt ha) (Int.ne_of_gt hb)).mp e
  have la' : Nat.Coprime a.2.natAbs a.1.natAbs := Nat.Coprime.symm la
  have lb' : Nat.Coprime b.2.natAbs b.1.natAbs := Nat.Coprime.symm lb
  have en : a.1.natAbs * b.2.natAbs = b.1.natAbs * a.2.natAbs := by rw [← Int.natAbs_mul, ← Int.natAbs_mul, e2]
  have d1 : a.2.natAbs ∣ b.2.natAbs := la'.dvd_of_dvd_mul_left ⟨b.1.natAbs, by rw [en, Nat.mul_comm]⟩
  have d2 : b.2.natAbs ∣ a.2.natAbs := lb'.dvd_of_dvd_mul_left ⟨a.1.natAbs, by rw [← en, Nat.mul_comm]⟩
  have e3 : a.2.natAbs = b.2.natAbs := Nat.dvd_antisymm d1 d2
  have e4 : a.2 = b.2 := by omega
  have e5 : a.1 = b.1 := by
    rw [e4] at e2
    exact Int.eq_of_mul_eq_mul_right (Int.ne_of_gt hb) e2
  exact Prod.ext e5 e4
theorem isFr_val {q : Q} {t b : Int} (h : 0 < q.2) (hb : b ≠ 0) (l : lowest q) (e : val q = (t : Rat) / (b : Rat)) : isFr q t b = true := isFr_of h l ((div_eq_iff' (Int.ne_of_gt h) hb).mp e)
/-- of a fraction in lowest terms: its top and bottom divide those of any other writing -/
theorem low_dvd {q : Q} {t b : Int} (l : lowest q) (e : q.1 * b = t * q.2) : q.2 ∣ b := by
  have l' : Nat.Coprime q.2.natAbs q.1.natAbs := Nat.Coprime.symm l
  have en : q.1.natAbs * b.natAbs = t.natAbs * q.2.natAbs := by rw [← Int.natAbs_mul, ← Int.natAbs_mul, e]
  exact Int.natAbs_dvd_natAbs.mp (l'.dvd_of_dvd_mul_left ⟨t.natAbs, by rw [en, Nat.mul_comm]⟩)
theorem bd_dvd {n : Nat} {x y : Int} (h : Bd n y) (d : x ∣ y) (hy : y ≠ 0) : Bd n x := h.le (Nat.le_of_dvd (by omega) (Int.natAbs_dvd_natAbs.mpr d))
theorem FB.pos {n : Nat} {q : Q} (h : FB n q) : 0 < q.2 := h.1
theorem qadd_FB {m n : Nat} {a b : Q} (ha : FB m a) (hb : FB n b) : FB (m + n + 1) (qadd a b) := by
  refine mkF_FB (mul_ne ha.1 hb.1) ?_ ((ha.2.2.mul hb.2.2).mono (by omega))
  exact ((ha.2.1.mul hb.2.2)).add ((hb.2.1.mul ha.2.2).mono (by omega))
theorem qsub_FB {m n : Nat} {a b : Q} (ha : FB m a) (hb : FB n b) : FB (m + n + 1) (qsub a b) := by
  refine mkF_FB (mul_ne ha.1 hb.1) ?_ ((ha.2.2.mul hb.2.2).mono (by omega))
  exact ((ha.2.1.mul hb.2.2)).sub ((hb.2.1.mul ha.2.2).mono (by omega))
theorem qmul_FB {m n : Nat} {a b : Q} (ha : FB m a) (hb : FB n b) : FB (m + n) (qmul a b) := mkF_FB (mul_ne ha.1 hb.1) (ha.2.1.mul hb.2.1) (ha.2.2.mul hb.2.2)
theorem qadd_low {a b : Q} (ha : 0 < a.2) (hb : 0 < b.2) : lowest (qadd a b) := mkF_low (mul_ne ha hb)
theorem qsub_low {a b : Q} (ha : 0 < a.2) (hb : 0 < b.2) : lowest (qsub a b) := mkF_low (mul_ne ha hb)
theorem qmul_low {a b : Q} (ha : 0 < a.2) (hb : 0 < b.2) : lowest (qmul a b) := mkF_low (mul_ne ha hb)
theorem val_01 : val (0, 1) = 0 := by decide +kernel
theorem val_n1 (n : Int) : val (n, 1) = (n : Rat) := by
  unfold val
  show (n : Rat) / ((1 : Int) : Rat) = _
  rw [show ((1 : Int) : Rat) = 1 from by norm_cast]
  grind
theorem low_01 : lowest (0, 1) := by unfold lowest; decide
theorem FB_01 : FB 1 (0, 1) := ⟨by decide, by unfold Bd; decide, by unfold Bd; decide⟩
theorem FB_n1 {n : Nat} {x : Int} (h : Bd n x) (h0 : 0 < n) : FB n (x, 1) := ⟨(show (0 : Int) < 1 by decide), h, (show Bd 1 1 by unfold Bd; decide).mono h0⟩
/-! ### rows of fractions without the noughts at their end -/
def trim (s : List Q) : List Q := (s.reverse.dropWhile (· = (0, 1))).reverse
theorem trim_snoc (s : List Q) (p : Q) : trim (s ++ [p]) = if p = (0, 1) then trim s else s ++ [p] := by
  unfold trim
  rw [List.reverse_append, List.reverse_singleton, List.singleton_append, List.dropWhile_cons]
  by_cases h : p = (0, 1)
  · simp [h]
  · simp [h]
theorem snoc_of {α : Type} {s : List α} (h : 0 < s.length) : ∃ t p, s = t ++ [p] := ⟨s.dropLast, s.getLast (by intro e; rw [e] at h; cases h), (List.dropLast_concat_getLast _).symm⟩
theorem trim_step {s : List Q} (h : 0 < s.length) (e : s.getLastD (0, 1) = (0, 1)) : trim s.dropLast = trim s := by
  obtain ⟨t, p, rfl⟩ := snoc_of h
  have hp : p = (0, 1) := by simpa using e
  rw [trim_snoc, if_pos hp, List.dropLast_concat]
theorem trim_done {s : List Q} (e : 0 < s.length → s.getLastD (0, 1) ≠ (0, 1)) : trim s = s := by
  rcases Nat.eq_zero_or_pos s.length with h | h
  · rw [List.eq_nil_of_length_eq_zero h]
    rfl
  · have e := e h
    obtain ⟨t, p, rfl⟩ := snoc_of h
    have hp : p ≠ (0, 1) := by simpa using e
    rw [trim_snoc, if_neg hp]
theorem trim_pre (s : List Q) : trim s <+: s := by
  unfold trim
  have h := List.dropWhile_suffix (l := s.reverse) (· = ((0 : Int), (1 : Int)))
  have := List.reverse_prefix.mpr h
  rw [List.reverse_reverse] at this
  exact this
theorem trim_len (s : List Q) : (trim s).length ≤ s.length := (trim_pre s).length_le
theorem trim_mem {s : List Q} {p : Q} (h : p ∈ trim s) : p ∈ s := (trim_pre s).subset h
/-! ### worths -/
def worthQ (x : Q) : List Q → Q
  | [] => (0, 1)
  | p :: ps => qadd (qmul (worthQ x ps) x) p
def psum (x : Rat) : List Q → Rat
  | [] => 0
  | p :: ps => val p + x * psum x ps
theorem psum_snoc (x : Rat) (s : List Q) (p : Q) : psum x (s ++ [p]) = psum x s + val p * x ^ s.length := by
  induction s with
  | nil => 
    show val p + x * 0 = 0 + val p * x ^ 0
    rw [Rat.pow_zero]
    grind
  | cons a s ih =>
    show val a + x * psum x (s ++ [p]) = val a + x * psum x s + val p * x ^ (s.length + 1)
    rw [ih, Rat.pow_succ]
    grind
theorem worthQ_ok {x : Q} (hx : FB 70 x) : ∀ {s : List Q}, (∀ p ∈ s, FB 70 p) → FB (141 * s.length + 1) (worthQ x s) ∧ lowest (worthQ x s) ∧ val (worthQ x s) = psum (val x) s
  | [], _ => ⟨FB_01.mono (by omega), low_01, val_01⟩
  | p :: s, h => by
    have hp := h p (.head _)
    obtain ⟨h1, h2, h3⟩ := worthQ_ok hx (s := s) fun q hq => h q (.tail _ hq)
    have m := qmul_FB h1 hx
    refine ⟨(qadd_FB m hp).mono (by simp only [List.length_cons]; omega), qadd_low m.1 hp.1, ?_⟩
    show val (qadd _ _) = _
    rw [val_add m.1 hp.1, val_mul h1.1 hx.1, h3]
    show _ = val p + val x * psum (val x) s
    grind
theorem psum_01 (s : List Q) (p : Q) : psum 0 (p :: s) = val p := by
  show val p + 0 * _ = _
  grind
theorem take_succ' {α : Type} {s : List α} {i : Nat} {p : α} (h : s[i]? = some p) : s.take (i + 1) = s.take i ++ [p] := by
  rw [List.take_succ, h]
  rfl
theorem rat_pow_cast (a : Int) (n : Nat) : ((a ^ n : Int) : Rat) = (a : Rat) ^ n := by
  push_cast
  rfl
theorem rat_pow_ne {b : Rat} (hb : b ≠ 0) : ∀ n : Nat, b ^ n ≠ 0
  | 0 => by
    rw [Rat.pow_zero]
    decide
  | n + 1 => by
    have h := rat_pow_ne hb n
    rw [Rat.pow_succ]
    grind
theorem rat_div_pow (a b : Rat) (hb : b ≠ 0) : ∀ n : Nat, (a / b) ^ n = a ^ n / b ^ n
  | 0 => by
    rw [Rat.pow_zero, Rat.pow_zero, Rat.pow_zero]
    grind
  | n + 1 => by
    have h := rat_pow_ne hb n
    rw [Rat.pow_succ, Rat.pow_succ, Rat.pow_succ, rat_div_pow a b hb n]
    grind
/-- one step of the law's sum over one bottom -/
theorem due_step {x : Q} {s : List Q} {i : Nat} {p : Q} (hx : FB 70 x) (hs : ∀ p ∈ s, FB 70 p) (h : s[i]? = some p) :
    mkP ((worthQ x (s.take i)).1 * p.2 * x.2 ^ i + p.1 * x.1 ^ i * (worthQ x (s.take i)).2) ((worthQ x (s.take i)).2 * p.2 * x.2 ^ i) = worthQ x (s.take (i + 1)) := by
  have hp := hs p (List.mem_of_getElem? h)
  have hi : i < s.length := by
    rw [List.getElem?_eq_some_iff] at h
    exact h.1
  have o1 := worthQ_ok hx (s := s.take i) fun q hq => hs q (List.mem_of_mem_take hq)
  have o2 := worthQ_ok hx (s := s.take (i + 1)) fun q hq => hs q (List.mem_of_mem_take hq)
  have hpos : 0 < (worthQ x (s.take i)).2 * p.2 * x.2 ^ i := Int.mul_pos (Int.mul_pos o1.1.1 hp.1) (Int.pow_pos hx.1)
  refine val_inj (mkP_pos hpos) o2.1.1 (mkP_low (Int.ne_of_gt hpos)) o2.2.1 ?_
  rw [val_mkP hpos, o2.2.2, take_succ' h, psum_snoc, ← o1.2.2, List.length_take, Nat.min_eq_left (by omega)]
  have c1 := cast_ne (Int.ne_of_gt o1.1.1)
  have c2 := cast_ne (Int.ne_of_gt hp.1)
  have hxi : 0 < x.2 ^ i := Int.pow_pos hx.1
  have c3 := cast_ne (Int.ne_of_gt hxi)
  have e : val x ^ i = ((x.1 ^ i : Int) : Rat) / ((x.2 ^ i : Int) : Rat) := by
    unfold val
    rw [rat_div_pow _ _ (cast_ne (Int.ne_of_gt hx.1)), rat_pow_cast, rat_pow_cast]
  rw [e]
  generalize x.1 ^ i = u at *
  generalize x.2 ^ i = v at *
  unfold val
  push_cast
  grind
theorem worth_drop {x : Q} {s : List Q} {i : Nat} {p : Q} (h : s.reverse[i]? = some p) : worthQ x (s.drop (s.length - (i + 1))) = qadd (qmul (worthQ x (s.drop (s.length - i))) x) p := by
  have hi : i < s.length := by
    rw [List.getElem?_eq_some_iff] at h
    obtain ⟨h, _⟩ := h
    rw [List.length_reverse] at h
    exact h
  rw [List.getElem?_reverse hi] at h
  have hj : s.length - 1 - i = s.length - (i + 1) := by omega
  rw [hj] at h
  have hk : s.length - i = s.length - (i + 1) + 1 := by omega
  rw [hk]
  rw [List.getElem?_eq_some_iff] at h
  obtain ⟨h1, h2⟩ := h
  rw [List.drop_eq_getElem_cons h1, h2]
  rfl
end PD
namespace PD
open PySem PySem.Spec PyProof.Rows L2
abbrev t3 (q : Int × Int × Int) : D := .tup [.int q.1, .int q.2.1, .int q.2.2]
theorem cast_pos {b : Int} (h : 0 < b) : (0 : Rat) < (b : Rat) := by exact_mod_cast h
theorem lt_val {a b : Q} (ha : 0 < a.2) (hb : 0 < b.2) : a.1 * b.2 < b.1 * a.2 ↔ val a < val b := by
  have h1 := cast_pos ha
  have h2 := cast_pos hb
  unfold val
  have e : ((a.1 : Rat) / (a.2 : Rat) < (b.1 : Rat) / (b.2 : Rat)) ↔ (a.1 : Rat) * (b.2 : Rat) < (b.1 : Rat) * (a.2 : Rat) := by
    rw [Rat.div_lt_iff h1, Rat.div_def, Rat.mul_assoc, Rat.mul_comm (b.2 : Rat)⁻¹, ← Rat.mul_assoc, ← Rat.div_def, Rat.lt_div_iff h2]
  rw [e]
  constructor
  · intro h
    exact_mod_cast h
  · intro h
    exact_mod_cast h
theorem val_div {a b : Q} (h : 0 < a.2) (g : 0 < b.2) (n : b.1 ≠ 0) : val (qdiv a b) = val a / val b := by
  unfold qdiv
  rw [val_mkF (Int.mul_ne_zero (Int.ne_of_gt h) n)]
  have h1 := cast_ne (Int.ne_of_gt h)
  have h2 := cast_ne (Int.ne_of_gt g)
  have h3 := cast_ne n
  unfold val
  push_cast
  grind
theorem val_pow {a : Q} (h : 0 < a.2) (n : Nat) : val (qpow a n) = val a ^ n := by
  unfold val qpow
  rw [rat_div_pow _ _ (cast_ne (Int.ne_of_gt h)), rat_pow_cast, rat_pow_cast]
theorem qpow_FB {n : Nat} {a : Q} (h : FB n a) (h0 : 0 < n) (k : Nat) : FB (n * k + 1) (qpow a k) := ⟨Int.pow_pos h.1, bd_pow h.2.1 h0 k, bd_pow h.2.2 h0 k⟩
theorem qdiv_pos {a b : Q} (h : 0 < a.2) (n : b.1 ≠ 0) : 0 < (qdiv a b).2 := by
  have e := Int.mul_ne_zero (Int.ne_of_gt h) n
  unfold qdiv mkF
  split <;> exact mkP_pos (by omega)
theorem qdiv_low {a b : Q} (h : 0 < a.2) (n : b.1 ≠ 0) : lowest (qdiv a b) := mkF_low (Int.mul_ne_zero (Int.ne_of_gt h) n)
theorem qdiv_FB {m n : Nat} {a b : Q} (ha : FB m a) (hb : FB n b) (h0 : b.1 ≠ 0) : FB (m + n) (qdiv a b) := mkF_FB (Int.mul_ne_zero (Int.ne_of_gt ha.1) h0) (ha.2.1.mul hb.2.2) (ha.2.2.mul hb.2.1)
theorem val_pos {a : Q} (h : 0 < a.2) : 0 < a.1 ↔ 0 < val a := by
  have := lt_val (a := (0, 1)) (b := a) (by decide) h
  rw [val_01] at this
  simp at this
  exact this
/-! ### how often a row of draws comes -/
def weightQ (x y : Nat) (a : Q) : Q := qmul (qpow a x) (qpow (qsub (1, 1) a) y)
def ratioQ (x y : Nat) (a b : Q) : Q := qdiv (weightQ x y b) (weightQ x y a)
theorem val_11 : val (1, 1) = 1 := by decide +kernel
theorem FB_11 : FB 1 (1, 1) := ⟨by decide, by unfold Bd; decide, by unfold Bd; decide⟩
/-- a share above 0, below 1 -/
structure Sh (a : Q) : Prop where
  fb : FB 41 a
  lo : 0 < val a
  hi : val a < 1
theorem Sh.oth {a : Q} (h : Sh a) : FB 43 (qsub (1, 1) a) ∧ val (qsub (1, 1) a) = 1 - val a := ⟨qsub_FB FB_11 h.fb, by rw [val_sub (by decide) h.fb.1, val_11]⟩
theorem rat_pow_pos {a : Rat} (h : 0 < a) : ∀ n : Nat, 0 < a ^ n
  | 0 => by
    rw [Rat.pow_zero]
    decide
  | n + 1 => by
    rw [Rat.pow_succ]
    exact Rat.mul_pos (rat_pow_pos h n) h
theorem weight_ok {a : Q} (h : Sh a) {x y : Nat} (hx : x ≤ 60) (hy : y ≤ 60) : FB 5100 (weightQ x y a) ∧ val (weightQ x y a) = val a ^ x * (1 - val a) ^ y ∧ 0 < val (weightQ x y a) ∧ (weightQ x y a).1 ≠ 0 := by
  obtain ⟨o1, o2⟩ := h.oth
  have p1 := qpow_FB h.fb (by decide) x
  have p2 := qpow_FB o1 (by decide) y
  have f := (qmul_FB p1 p2).mono (show _ ≤ 5100 by omega)
  have v : val (weightQ x y a) = val a ^ x * (1 - val a) ^ y := by
    unfold weightQ
    rw [val_mul p1.1 p2.1, val_pow h.fb.1, val_pow o1.1, o2]
  have ps : 0 < val (weightQ x y a) := by
    rw [v]
    exact Rat.mul_pos (rat_pow_pos h.lo x) (rat_pow_pos (by have := h.hi; grind) y)
  exact ⟨f, v, ps, Int.ne_of_gt ((val_pos f.1).mpr ps)⟩
theorem ratio_ok {a b : Q} (ha : Sh a) (hb : Sh b) {x y : Nat} (hx : x ≤ 60) (hy : y ≤ 60) : FB 10200 (ratioQ x y a b) ∧ lowest (ratioQ x y a b) ∧ val (ratioQ x y a b) = val b ^ x * (1 - val b) ^ y / (val a ^ x * (1 - val a) ^ y) := by
  obtain ⟨f1, v1, p1, n1⟩ := weight_ok ha hx hy
  obtain ⟨f2, v2, p2, n2⟩ := weight_ok hb hx hy
  refine ⟨qdiv_FB f2 f1 n1, qdiv_low f2.1 n1, ?_⟩
  unfold ratioQ
  rw [val_div f2.1 f1.1 n1, v1, v2]
theorem pow_r {a : Rat} (n : Nat) : a ^ (n + 1) = a ^ n * a := Rat.pow_succ ..
/-- one bad more makes it greater, one good more less -/
theorem ratio_bad {a b : Q} (ha : Sh a) (hb : Sh b) (l : val a < val b) {x y : Nat} (hx : x < 60) (hy : y ≤ 60) : val (ratioQ x y a b) < val (ratioQ (x + 1) y a b) := by
  rw [(ratio_ok ha hb (by omega) hy).2.2, (ratio_ok ha hb hx hy).2.2, pow_r, pow_r]
  have p1 := rat_pow_pos ha.lo x
  have p2 := rat_pow_pos hb.lo x
  have p3 := rat_pow_pos (a := 1 - val a) (by have := ha.hi; grind) y
  have p4 := rat_pow_pos (a := 1 - val b) (by have := hb.hi; grind) y
  have p5 := ha.lo
  generalize val a ^ x = A at *
  generalize val b ^ x = B at *
  generalize (1 - val a) ^ y = C at *
  generalize (1 - val b) ^ y = D at *
  generalize val a = s at *
  generalize val b = t at *
  have q1 := Rat.mul_pos p1 p3
  have q2 := Rat.mul_pos p2 p4
  rw [Rat.div_lt_iff q1]
  have z1 := Rat.ne_of_gt (Rat.mul_pos (Rat.mul_pos p1 p5) p3)
  have z2 := Rat.ne_of_gt p5
  have z3 := Rat.ne_of_gt q1
  have e : B * t * D / (A * s * C) * (A * C) = B * D * (t / s) := by grind
  rw [e]
  have g : 1 < t / s := by
    rw [Rat.lt_div_iff p5]
    grind
  have := Rat.mul_lt_mul_of_pos_left g q2
  grind
theorem ratio_good {a b : Q} (ha : Sh a) (hb : Sh b) (l : val a < val b) {x y : Nat} (hx : x ≤ 60) (hy : y < 60) : val (ratioQ x (y + 1) a b) < val (ratioQ x y a b) := by
  rw [(ratio_ok ha hb hx (y := y + 1) (by omega)).2.2, (ratio_ok ha hb hx (y := y) (by omega)).2.2, pow_r, pow_r]
  have p1 := rat_pow_pos ha.lo x
  have p2 := rat_pow_pos hb.lo x
  have i1 : 0 < 1 - val a := by have := ha.hi; grind
  have i2 : 0 < 1 - val b := by have := hb.hi; grind
  have p3 := rat_pow_pos i1 y
  have p4 := rat_pow_pos i2 y
  generalize val a ^ x = A at *
  generalize val b ^ x = B at *
  generalize (1 - val a) ^ y = C at *
  generalize (1 - val b) ^ y = D at *
  have lt : 1 - val b < 1 - val a := by grind
  generalize 1 - val a = s at *
  generalize 1 - val b = t at *
  have q1 := Rat.mul_pos p1 (Rat.mul_pos p3 i1)
  have q2 := Rat.mul_pos p2 p4
  have q3 := Rat.mul_pos p1 p3
  rw [Rat.div_lt_iff q1]
  have z1 := Rat.ne_of_gt q1
  have z2 := Rat.ne_of_gt q3
  have e : B * D / (A * C) * (A * (C * s)) = B * D * s := by grind
  rw [e]
  have := Rat.mul_lt_mul_of_pos_left lt q2
  grind
end PD
namespace PD
open PySem PySem.Spec PyProof.Rows L2
def topS (i : Nat) : Stmt := PySem.Challenge.pw_lotdraw_k46_ratios.main.body.getD i (.Pass ⟨0, 0, 0, 0⟩)
abbrev s__law_cell : Stmt := topS 17
abbrev s__law_divisor : Stmt := topS 19
abbrev s__law_made : Stmt := topS 22
abbrev s_under : Stmt := topS 11
abbrev s_check_shares : Stmt := topS 13
abbrev s_divisor : Stmt := topS 5
abbrev s_frac : Stmt := topS 6
abbrev s_over : Stmt := topS 9
abbrev s_times : Stmt := topS 8
abbrev s_power : Stmt := topS 10
abbrev s_minus : Stmt := topS 7
abbrev s_weight_at : Stmt := topS 14
abbrev s_ratio : Stmt := topS 15
abbrev s__law_times : Stmt := topS 23
abbrev s__law_weight : Stmt := topS 24
abbrev s__law_whole : Stmt := topS 18
abbrev s__law_is_frac : Stmt := topS 20
abbrev s__law_under : Stmt := topS 25
abbrev s__law_asked : Stmt := topS 26
abbrev s__law_shares : Stmt := topS 21
abbrev s_law : Stmt := topS 27
structure Glo (K : PySem.W.Frag) (mg : Str → Option Value) where
  f__law_cell : Addr
  d__law_cell : FuncData
  F__law_cell : Fun K "_law_cell" "_law_cell" s__law_cell f__law_cell d__law_cell
  g__law_cell : mg "_law_cell" = some (.ref f__law_cell)
  b__law_cell : Binds K d__law_cell ["_law_script", "_law_k"] []
  f__law_divisor : Addr
  d__law_divisor : FuncData
  F__law_divisor : Fun K "_law_divisor" "_law_divisor" s__law_divisor f__law_divisor d__law_divisor
  g__law_divisor : mg "_law_divisor" = some (.ref f__law_divisor)
  b__law_divisor : Binds K d__law_divisor ["_law_one", "_law_other"] []
  f__law_made : Addr
  d__law_made : FuncData
  F__law_made : Fun K "_law_made" "_law_made" s__law_made f__law_made d__law_made
  g__law_made : mg "_law_made" = some (.ref f__law_made)
  b__law_made : Binds K d__law_made ["_law_top", "_law_bottom"] []
  f_under : Addr
  d_under : FuncData
  F_under : Fun K "under" "under" s_under f_under d_under
  g_under : mg "under" = some (.ref f_under)
  b_under : Binds K d_under ["one", "other"] []
  f_check_shares : Addr
  d_check_shares : FuncData
  F_check_shares : Fun K "check_shares" "check_shares" s_check_shares f_check_shares d_check_shares
  g_check_shares : mg "check_shares" = some (.ref f_check_shares)
  b_check_shares : Binds K d_check_shares ["low", "high"] []
  f_divisor : Addr
  d_divisor : FuncData
  F_divisor : Fun K "divisor" "divisor" s_divisor f_divisor d_divisor
  g_divisor : mg "divisor" = some (.ref f_divisor)
  b_divisor : Binds K d_divisor ["one", "other"] []
  f_frac : Addr
  d_frac : FuncData
  F_frac : Fun K "frac" "frac" s_frac f_frac d_frac
  g_frac : mg "frac" = some (.ref f_frac)
  b_frac : Binds K d_frac ["top", "bottom"] []
  f_over : Addr
  d_over : FuncData
  F_over : Fun K "over" "over" s_over f_over d_over
  g_over : mg "over" = some (.ref f_over)
  b_over : Binds K d_over ["one", "other"] []
  f_times : Addr
  d_times : FuncData
  F_times : Fun K "times" "times" s_times f_times d_times
  g_times : mg "times" = some (.ref f_times)
  b_times : Binds K d_times ["one", "other"] []
  f_power : Addr
  d_power : FuncData
  F_power : Fun K "power" "power" s_power f_power d_power
  g_power : mg "power" = some (.ref f_power)
  b_power : Binds K d_power ["one", "many"] []
  f_minus : Addr
  d_minus : FuncData
  F_minus : Fun K "minus" "minus" s_minus f_minus d_minus
  g_minus : mg "minus" = some (.ref f_minus)
  b_minus : Binds K d_minus ["one", "other"] []
  f_weight_at : Addr
  d_weight_at : FuncData
  F_weight_at : Fun K "weight_at" "weight_at" s_weight_at f_weight_at d_weight_at
  g_weight_at : mg "weight_at" = some (.ref f_weight_at)
  b_weight_at : Binds K d_weight_at ["count", "share"] []
  f_ratio : Addr
  d_ratio : FuncData
  F_ratio : Fun K "ratio" "ratio" s_ratio f_ratio d_ratio
  g_ratio : mg "ratio" = some (.ref f_ratio)
  b_ratio : Binds K d_ratio ["count", "low", "high"] []
  f__law_times : Addr
  d__law_times : FuncData
  F__law_times : Fun K "_law_times" "_law_times" s__law_times f__law_times d__law_times
  g__law_times : mg "_law_times" = some (.ref f__law_times)
  b__law_times : Binds K d__law_times ["_law_base", "_law_many"] []
  f__law_weight : Addr
  d__law_weight : FuncData
  F__law_weight : Fun K "_law_weight" "_law_weight" s__law_weight f__law_weight d__law_weight
  g__law_weight : mg "_law_weight" = some (.ref f__law_weight)
  b__law_weight : Binds K d__law_weight ["_law_count", "_law_top", "_law_bottom"] []
  f__law_whole : Addr
  d__law_whole : FuncData
  F__law_whole : Fun K "_law_whole" "_law_whole" s__law_whole f__law_whole d__law_whole
  g__law_whole : mg "_law_whole" = some (.ref f__law_whole)
  b__law_whole : Binds K d__law_whole ["_law_found"] []
  f__law_is_frac : Addr
  d__law_is_frac : FuncData
  F__law_is_frac : Fun K "_law_is_frac" "_law_is_frac" s__law_is_frac f__law_is_frac d__law_is_frac
  g__law_is_frac : mg "_law_is_frac" = some (.ref f__law_is_frac)
  b__law_is_frac : Binds K d__law_is_frac ["_law_found", "_law_top", "_law_bottom"] []
  f__law_under : Addr
  d__law_under : FuncData
  F__law_under : Fun K "_law_under" "_law_under" s__law_under f__law_under d__law_under
  g__law_under : mg "_law_under" = some (.ref f__law_under)
  b__law_under : Binds K d__law_under ["_law_one", "_law_other"] []
  f__law_asked : Addr
  d__law_asked : FuncData
  F__law_asked : Fun K "_law_asked" "_law_asked" s__law_asked f__law_asked d__law_asked
  g__law_asked : mg "_law_asked" = some (.ref f__law_asked)
  b__law_asked : Binds K d__law_asked ["_law_both", "_law_bad", "_law_good"] []
  f__law_shares : Addr
  d__law_shares : FuncData
  F__law_shares : Fun K "_law_shares" "_law_shares" s__law_shares f__law_shares d__law_shares
  g__law_shares : mg "_law_shares" = some (.ref f__law_shares)
  b__law_shares : Binds K d__law_shares ["_law_cell_here"] []
  f_law : Addr
  d_law : FuncData
  F_law : Fun K "law" "law" s_law f_law d_law
  g_law : mg "law" = some (.ref f_law)
  b_law : Binds K d_law ["_law_script"] []
  m_len : mg "len" = none
  m_abs : mg "abs" = none
  m_range : mg "range" = none
  m_isinstance : mg "isinstance" = none
  m_int : mg "int" = none
  m_bool : mg "bool" = none
  m_tuple : mg "tuple" = none
  m_max : mg "max" = none
  m_min : mg "min" = none
end PD
namespace PD
open PySem PySem.Spec PyProof.Rows L2
section
variable {P : Program} {w : World} {K : PySem.W.Frag} {mg : Str → Option Value} {base : Heap}
abbrev F_cell : FS := fun ds o => ∃ (ns : List Int) (k : Int), ds = [.fro (ns.map .int), .int k] ∧ 0 ≤ k ∧ o = .ok (.int (cell ns k))
theorem sc__law_cell : FnScope ["_law_script", "_law_k"] ["_law_script", "_law_k"] (defScope s__law_cell) := ⟨rfl, rfl, rfl, by decide +kernel, rfl, by decide +kernel, by decide +kernel⟩
set_option maxHeartbeats 4000000 in
theorem ok__law_cell (T : Glo K mg) : FnOk P w K mg base CX0 1 T.f__law_cell T.d__law_cell ["_law_script", "_law_k"] (spF K F_cell) := by
  refine fn_ok T.F__law_cell sc__law_cell (fun ds o h => ?_) (fun ds c h => ?_) (fun cdv A outer s H E hr B ds o h => ?_)
  · obtain ⟨ns, k, rfl, h0, rfl⟩ := h
    rfl
  · obtain ⟨ns, k, rfl, h0, ho⟩ := h
    cases ho
  · obtain ⟨ns, k, rfl, h0, rfl⟩ := h
    have nd := (sc__law_cell).nd
    refine jss_ifr (jt_lt (je_var 1 rfl (.inl rfl) rfl) (je_lenL (by rfl) T.m_len (ja_cons (je_var 0 rfl (.inl rfl) rfl) ja_nil) (.fro _))) (fun hi1 => ?_) (fun hi1 => ?_)
    · (try simp only [Bool.and_eq_true, Bool.or_eq_true, Bool.not_eq_true', Bool.not_eq_false', Bool.and_eq_false_imp, Bool.or_eq_false_iff, decide_eq_true_eq, decide_eq_false_iff_not, Bool.not_true, Bool.not_false, Bool.false_or, Bool.or_false, Bool.true_and, Bool.and_true] at hi1)
      rw [List.length_map] at hi1
      exact jss_one (js_ret (m := true) (je_ixM (f := D.int) 0 (je_var 0 rfl (.inl rfl) rfl) (je_var 1 rfl (.inl rfl) rfl) (.fro _) (by first | decide | omega) (by first | omega | ((try simp only [List.length_map, List.length_append, List.length_cons, List.length_nil, rngT_len, enumT_len]); omega))) (by first | exact rfl | assumption))
    · (try simp only [Bool.and_eq_true, Bool.or_eq_true, Bool.not_eq_true', Bool.not_eq_false', Bool.and_eq_false_imp, Bool.or_eq_false_iff, decide_eq_true_eq, decide_eq_false_iff_not, Bool.not_true, Bool.not_false, Bool.false_or, Bool.or_false, Bool.true_and, Bool.and_true] at hi1)
      rw [List.length_map] at hi1
      exact jss_one (js_ret (m := true) je_int (by unfold cell; rw [List.getD_eq_getElem?_getD, List.getElem?_eq_none_iff.mpr (by omega)]; rfl))
abbrev F_ldivisor : FS := fun ds o => ∃ a b : Int, ds = [.int a, .int b] ∧ o = .ok (.int (Int.gcd a b))
theorem sc__law_divisor : FnScope ["_law_one", "_law_other"] ["_law_one", "_law_other"] (defScope s__law_divisor) := ⟨rfl, rfl, rfl, by decide +kernel, rfl, by decide +kernel, by decide +kernel⟩
set_option maxHeartbeats 4000000 in
theorem ok__law_divisor (T : Glo K mg) : FnOk P w K mg base CX0 1 T.f__law_divisor T.d__law_divisor ["_law_one", "_law_other"] (spF K F_ldivisor) := by
  refine fn_ok T.F__law_divisor sc__law_divisor (fun ds o h => ?_) (fun ds c h => ?_) (fun cdv A outer s H E hr B ds o h => ?_)
  · obtain ⟨a, b, rfl, rfl⟩ := h
    rfl
  · obtain ⟨a, b, rfl, ho⟩ := h
    cases ho
  · obtain ⟨a, b, rfl, rfl⟩ := h
    have nd := (sc__law_divisor).nd
    refine jss_cons (fun s => ∃ x, s = [.va (.int x), .va (.int 0)] ∧ Int.gcd x 0 = Int.gcd a b) (js_while (fun n s => ∃ (x y : Int), s = [.va (.int x), .va (.int y)] ∧ Int.gcd x y = Int.gcd a b ∧ n = y.natAbs) (b.natAbs) (⟨a, b, rfl, rfl, rfl⟩) PassesOwn.never (fun n s hw => ?_)) ?_
    · obtain ⟨x, y, rfl, hg, rfl⟩ := hw
      refine ⟨_, (jt_neI (je_var 1 rfl (.inl rfl) rfl) je_int), fun hc => ?_, fun hc => ?_⟩
      · (try simp only [Bool.and_eq_true, Bool.or_eq_true, Bool.not_eq_true', Bool.not_eq_false', Bool.and_eq_false_imp, Bool.or_eq_false_iff, decide_eq_true_eq, decide_eq_false_iff_not, Bool.not_true, Bool.not_false, Bool.false_or, Bool.or_false, Bool.true_and, Bool.and_true] at hc)
        refine jss_cons (fun s => s = _) (js_par 0 1 rfl nd rfl rfl (by decide) rfl rfl (ja_cons (je_var 1 rfl (.inl rfl) rfl) (ja_cons (je_modN (je_var 0 rfl (.inl rfl) rfl) (je_var 1 rfl (.inl rfl) rfl) (by first | decide | omega)) ja_nil)) rfl (by rfl)) ?_
        rintro _ rfl
        exact jss_nil ⟨_, fmod_lt x hc, _, _, rfl, (by rw [gcd_fmod, hg]), rfl⟩
      · (try simp only [Bool.and_eq_true, Bool.or_eq_true, Bool.not_eq_true', Bool.not_eq_false', Bool.and_eq_false_imp, Bool.or_eq_false_iff, decide_eq_true_eq, decide_eq_false_iff_not, Bool.not_true, Bool.not_false, Bool.false_or, Bool.or_false, Bool.true_and, Bool.and_true] at hc)
        exact (by subst hc; exact ⟨x, rfl, hg⟩)
    rintro _ ⟨x, rfl, hg⟩
    exact jss_one (js_ret (m := true) (je_abs (by rfl) T.m_abs (ja_cons (je_var 0 rfl (.inl rfl) rfl) ja_nil)) (by rw [abs_eq, ← hg, Int.gcd_zero_right]; exact rfl))
abbrev F_made : FS := fun ds o => ∃ t b : Int, ds = [.int t, .int b] ∧ 0 < b ∧ Bd 13500 t ∧ Bd 13500 b ∧ o = .ok (fr (mkP t b))
theorem sc__law_made : FnScope ["_law_top", "_law_bottom", "_law_common"] ["_law_top", "_law_bottom"] (defScope s__law_made) := ⟨rfl, rfl, rfl, by decide +kernel, rfl, by decide +kernel, by decide +kernel⟩
set_option maxHeartbeats 4000000 in
theorem ok__law_made (T : Glo K mg) : FnOk P w K mg base CX0 2 T.f__law_made T.d__law_made ["_law_top", "_law_bottom"] (spF K F_made) := by
  refine fn_ok T.F__law_made sc__law_made (fun ds o h => ?_) (fun ds c h => ?_) (fun cdv A outer s H E hr B ds o h => ?_)
  · obtain ⟨t, b, rfl, hb, ht, hs, rfl⟩ := h
    rfl
  · obtain ⟨t, b, rfl, hb, ht, hs, ho⟩ := h
    cases ho
  · obtain ⟨t, b, rfl, hb, ht, hs, rfl⟩ := h
    have hg := gcd_pos (t := t) (b := b) (by omega)
    have nd := (sc__law_made).nd
    refine jss_cons (fun s => s = _) (js_set 2 nd rfl (.inl rfl) (je_call (ok__law_divisor T) (hr.mono (by decide)) (by rfl) T.g__law_divisor T.F__law_divisor.kp T.b__law_divisor pass0 (ja_cons (je_var 0 rfl (.inl rfl) rfl) (ja_cons (je_var 1 rfl (.inl rfl) rfl) ja_nil)) (⟨_, _, rfl, rfl⟩)) rfl) ?_
    rintro _ rfl
    exact jss_one (js_ret (m := true) (je_pr (ja_cons (je_div (je_var 0 rfl (.inl rfl) rfl) (je_var 2 rfl (.inl rfl) rfl) (by first | exact divOk hg ht | exact divOk hg hs)) (ja_cons (je_div (je_var 1 rfl (.inl rfl) rfl) (je_var 2 rfl (.inl rfl) rfl) (by first | exact divOk hg ht | exact divOk hg hs)) ja_nil))) (by first | exact rfl | assumption))
abbrev F_under : FS := fun ds o => ∃ a b : Q, ds = [fr a, fr b] ∧ FB 13500 a ∧ FB 13500 b ∧ o = .ok (.bl (decide (a.1 * b.2 < b.1 * a.2)))
theorem sc_under : FnScope ["one", "other"] ["one", "other"] (defScope s_under) := ⟨rfl, rfl, rfl, by decide +kernel, rfl, by decide +kernel, by decide +kernel⟩
set_option maxHeartbeats 4000000 in
theorem ok_under (T : Glo K mg) : FnOk P w K mg base CX0 1 T.f_under T.d_under ["one", "other"] (spF K F_under) := by
  refine fn_ok T.F_under sc_under (fun ds o h => ?_) (fun ds c h => ?_) (fun cdv A outer s H E hr B ds o h => ?_)
  · obtain ⟨a, b, rfl, ha, hb, rfl⟩ := h
    rfl
  · obtain ⟨a, b, rfl, ha, hb, ho⟩ := h
    cases ho
  · obtain ⟨a, b, rfl, ha, hb, rfl⟩ := h
    have nd := (sc_under).nd
    exact jss_one (js_ret (m := true) (je_lt (je_mul (je_ixT (je_var 0 rfl (.inl rfl) rfl) je_int rfl) (je_ixT (je_var 1 rfl (.inl rfl) rfl) je_int rfl) (by first | exact mulOk ha.2.1 hb.2.2 | exact mulOk hb.2.1 ha.2.2)) (je_mul (je_ixT (je_var 1 rfl (.inl rfl) rfl) je_int rfl) (je_ixT (je_var 0 rfl (.inl rfl) rfl) je_int rfl) (by first | exact mulOk ha.2.1 hb.2.2 | exact mulOk hb.2.1 ha.2.2))) (by first | exact rfl | assumption))
abbrev F_check : FS := fun ds o => ∃ a b : Q, ds = [fr a, fr b] ∧ Sh a ∧ Sh b ∧ val a < val b ∧ o = .ok .non
theorem lt_dec {a b : Q} (ha : 0 < a.2) (hb : 0 < b.2) (h : val a < val b) : decide (a.1 * b.2 < b.1 * a.2) = true := decide_eq_true ((lt_val ha hb).mpr h)
theorem sc_check_shares : FnScope ["low", "high"] ["low", "high"] (defScope s_check_shares) := ⟨rfl, rfl, rfl, by decide +kernel, rfl, by decide +kernel, by decide +kernel⟩
set_option maxHeartbeats 4000000 in
theorem ok_check_shares (T : Glo K mg) : FnOk P w K mg base CX0 2 T.f_check_shares T.d_check_shares ["low", "high"] (spF K F_check) := by
  refine fn_ok T.F_check_shares sc_check_shares (fun ds o h => ?_) (fun ds c h => ?_) (fun cdv A outer s H E hr B ds o h => ?_)
  · obtain ⟨a, b, rfl, ha, hb, hl, rfl⟩ := h
    rfl
  · obtain ⟨a, b, rfl, ha, hb, hl, ho⟩ := h
    cases ho
  · obtain ⟨a, b, rfl, ha, hb, hl, rfl⟩ := h
    have a1 := ha.fb.mono (show 41 ≤ 13500 by decide)
    have b1 := hb.fb.mono (show 41 ≤ 13500 by decide)
    have z0 := FB_01.mono (show 1 ≤ 13500 by decide)
    have z1 := FB_11.mono (show 1 ≤ 13500 by decide)
    have e1 := lt_dec (a := (0, 1)) (b := a) (by decide) ha.fb.1 (by rw [val_01]; exact ha.lo)
    have e2 := lt_dec ha.fb.1 hb.fb.1 hl
    have e3 := lt_dec (a := b) (b := (1, 1)) hb.fb.1 (by decide) (by rw [val_11]; exact hb.hi)
    have nd := (sc_check_shares).nd
    refine jss_ifr (JW.jt (jw_or (jt_not (jt_val (je_call (ok_under T) (hr.mono (by decide)) (by rfl) T.g_under T.F_under.kp T.b_under pass0 (ja_cons (je_pr (ja_cons je_int (ja_cons je_int ja_nil))) (ja_cons (je_var 0 rfl (.inl rfl) rfl) ja_nil)) (⟨_, _, rfl, (by assumption), (by assumption), rfl⟩)))) (fun h1 => (jw_or (jt_not (jt_val (je_call (ok_under T) (hr.mono (by decide)) (by rfl) T.g_under T.F_under.kp T.b_under pass0 (ja_cons (je_var 0 rfl (.inl rfl) rfl) (ja_cons (je_var 1 rfl (.inl rfl) rfl) ja_nil)) (⟨_, _, rfl, (by assumption), (by assumption), rfl⟩)))) (fun h2 => (jw_or1 (jt_not (jt_val (je_call (ok_under T) (hr.mono (by decide)) (by rfl) T.g_under T.F_under.kp T.b_under pass0 (ja_cons (je_var 1 rfl (.inl rfl) rfl) (ja_cons (je_pr (ja_cons je_int (ja_cons je_int ja_nil))) ja_nil)) (⟨_, _, rfl, (by assumption), (by assumption), rfl⟩)))))))))) (fun hi1 => ?_) (fun hi1 => ?_)
    · rw [e1, e2, e3] at hi1
      exact absurd hi1 (by decide)
    · (try simp only [Bool.and_eq_true, Bool.or_eq_true, Bool.not_eq_true', Bool.not_eq_false', Bool.and_eq_false_imp, Bool.or_eq_false_iff, decide_eq_true_eq, decide_eq_false_iff_not, Bool.not_true, Bool.not_false, Bool.false_or, Bool.or_false, Bool.true_and, Bool.and_true] at hi1)
      exact jss_nil rfl
abbrev F_divisor : FS := fun ds o => ∃ a b : Int, ds = [.int a, .int b] ∧ 0 ≤ a ∧ 0 ≤ b ∧ True ∧ o = .ok (.int (Int.gcd a b))
theorem sc_divisor : FnScope ["one", "other", "rest"] ["one", "other"] (defScope s_divisor) := ⟨rfl, rfl, rfl, by decide +kernel, rfl, by decide +kernel, by decide +kernel⟩
set_option maxHeartbeats 4000000 in
theorem ok_divisor (T : Glo K mg) : FnOk P w K mg base CX0 1 T.f_divisor T.d_divisor ["one", "other"] (spF K F_divisor) := by
  refine fn_ok T.F_divisor sc_divisor (fun ds o h => ?_) (fun ds c h => ?_) (fun cdv A outer s H E hr B ds o h => ?_)
  · obtain ⟨a, b, rfl, h0, h1, hb, rfl⟩ := h
    rfl
  · obtain ⟨a, b, rfl, h0, h1, hb, ho⟩ := h
    cases ho
  · obtain ⟨a, b, rfl, h0, h1, hb, rfl⟩ := h
    have nd := (sc_divisor).nd
    refine jss_cons (fun s => ∃ r : Sl, s = [.va (.int (Int.gcd a b)), .va (.int 0), r]) (js_while (fun n s => ∃ (x y : Int) (r : Sl), s = [.va (.int x), .va (.int y), r] ∧ 0 ≤ x ∧ 0 ≤ y ∧ Int.gcd x y = Int.gcd a b ∧ n = y.toNat) (b.toNat) (⟨a, b, _, rfl, h0, h1, rfl, rfl⟩) PassesOwn.never (fun n s hw => ?_)) ?_
    · obtain ⟨x, y, r, rfl, hx, hy, hg, rfl⟩ := hw
      refine ⟨_, (jt_gt (je_var 1 rfl (.inl rfl) rfl) je_int), fun hc => ?_, fun hc => ?_⟩
      · (try simp only [Bool.and_eq_true, Bool.or_eq_true, Bool.not_eq_true', Bool.not_eq_false', Bool.and_eq_false_imp, Bool.or_eq_false_iff, decide_eq_true_eq, decide_eq_false_iff_not, Bool.not_true, Bool.not_false, Bool.false_or, Bool.or_false, Bool.true_and, Bool.and_true] at hc)
        refine jss_cons (fun s => s = _) (js_set 2 nd rfl (.inl rfl) (je_mod (je_var 0 rfl (.inl rfl) rfl) (je_var 1 rfl (.inl rfl) rfl) (by first | decide | omega)) rfl) ?_
        rintro _ rfl
        refine jss_cons (fun s => s = _) (js_set 0 nd rfl (.inl rfl) (je_var 1 rfl (.inl rfl) rfl) rfl) ?_
        rintro _ rfl
        refine jss_cons (fun s => s = _) (js_set 1 nd rfl (.inl rfl) (je_var 2 rfl (.inl rfl) rfl) rfl) ?_
        rintro _ rfl
        exact jss_nil ⟨_, (by have := Int.emod_lt_of_pos x hc; have := Int.emod_nonneg x (show y ≠ 0 by omega); omega), _, _, _, rfl, hy, Int.emod_nonneg x (by omega), (by rw [gcd_mod, hg]), rfl⟩
      · (try simp only [Bool.and_eq_true, Bool.or_eq_true, Bool.not_eq_true', Bool.not_eq_false', Bool.and_eq_false_imp, Bool.or_eq_false_iff, decide_eq_true_eq, decide_eq_false_iff_not, Bool.not_true, Bool.not_false, Bool.false_or, Bool.or_false, Bool.true_and, Bool.and_true] at hc)
        exact (by have hy0 : y = 0 := (by omega); subst hy0; rw [Int.gcd_zero_right] at hg; exact ⟨r, by rw [← hg, Int.natAbs_of_nonneg hx]⟩)
    rintro _ ⟨r, rfl⟩
    exact jss_one (js_ret (m := true) (je_var 0 rfl (.inl rfl) rfl) (by first | exact rfl | assumption))
abbrev F_fracP : FS := fun ds o => ∃ t b : Int, ds = [.int t, .int b] ∧ 0 < b ∧ Bd 13500 t ∧ Bd 13500 b ∧ o = .ok (fr (mkP t b))
theorem sc_frac : FnScope ["top", "bottom", "common"] ["top", "bottom"] (defScope s_frac) := ⟨rfl, rfl, rfl, by decide +kernel, rfl, by decide +kernel, by decide +kernel⟩
set_option maxHeartbeats 4000000 in
theorem ok_fracP (T : Glo K mg) : FnOk P w K mg base CX0 2 T.f_frac T.d_frac ["top", "bottom"] (spF K F_fracP) := by
  refine fn_ok T.F_frac sc_frac (fun ds o h => ?_) (fun ds c h => ?_) (fun cdv A outer s H E hr B ds o h => ?_)
  · obtain ⟨t, b, rfl, hb, ht, hs, rfl⟩ := h
    rfl
  · obtain ⟨t, b, rfl, hb, ht, hs, ho⟩ := h
    cases ho
  · obtain ⟨t, b, rfl, hb, ht, hs, rfl⟩ := h
    have hg := gcd_pos (t := t) (b := b) (by omega)
    rw [← gcd_abs] at hg
    have nd := (sc_frac).nd
    refine jss_ifr (jt_eqI (je_var 1 rfl (.inl rfl) rfl) je_int) (fun hi1 => ?_) (fun hi1 => ?_)
    · (try simp only [Bool.and_eq_true, Bool.or_eq_true, Bool.not_eq_true', Bool.not_eq_false', Bool.and_eq_false_imp, Bool.or_eq_false_iff, decide_eq_true_eq, decide_eq_false_iff_not, Bool.not_true, Bool.not_false, Bool.false_or, Bool.or_false, Bool.true_and, Bool.and_true] at hi1)
      omega
    · (try simp only [Bool.and_eq_true, Bool.or_eq_true, Bool.not_eq_true', Bool.not_eq_false', Bool.and_eq_false_imp, Bool.or_eq_false_iff, decide_eq_true_eq, decide_eq_false_iff_not, Bool.not_true, Bool.not_false, Bool.false_or, Bool.or_false, Bool.true_and, Bool.and_true] at hi1)
      refine jss_ifr (jt_lt (je_var 1 rfl (.inl rfl) rfl) je_int) (fun hi2 => ?_) (fun hi2 => ?_)
      · (try simp only [Bool.and_eq_true, Bool.or_eq_true, Bool.not_eq_true', Bool.not_eq_false', Bool.and_eq_false_imp, Bool.or_eq_false_iff, decide_eq_true_eq, decide_eq_false_iff_not, Bool.not_true, Bool.not_false, Bool.false_or, Bool.or_false, Bool.true_and, Bool.and_true] at hi2)
        omega
      · (try simp only [Bool.and_eq_true, Bool.or_eq_true, Bool.not_eq_true', Bool.not_eq_false', Bool.and_eq_false_imp, Bool.or_eq_false_iff, decide_eq_true_eq, decide_eq_false_iff_not, Bool.not_true, Bool.not_false, Bool.false_or, Bool.or_false, Bool.true_and, Bool.and_true] at hi2)
        refine jss_cons (fun s => s = _) (js_set 2 nd rfl (.inl rfl) (je_call (ok_divisor T) (hr.mono (by decide)) (by rfl) T.g_divisor T.F_divisor.kp T.b_divisor pass0 (ja_cons (je_abs (by rfl) T.m_abs (ja_cons (je_var 0 rfl (.inl rfl) rfl) ja_nil)) (ja_cons (je_var 1 rfl (.inl rfl) rfl) ja_nil)) (⟨_, _, rfl, (by split <;> omega), (by omega), trivial, rfl⟩)) rfl) ?_
        rintro _ rfl
        exact jss_one (js_ret (m := true) (je_pr (ja_cons (je_div (je_var 0 rfl (.inl rfl) rfl) (je_var 2 rfl (.inl rfl) rfl) (by first | exact divOk hg ht | exact divOk hg hs)) (ja_cons (je_div (je_var 1 rfl (.inl rfl) rfl) (je_var 2 rfl (.inl rfl) rfl) (by first | exact divOk hg ht | exact divOk hg hs)) ja_nil))) (by rw [gcd_abs]; exact rfl))
abbrev F_frac : FS := fun ds o => ∃ t b : Int, ds = [.int t, .int b] ∧ b ≠ 0 ∧ Bd 13500 t ∧ Bd 13500 b ∧ o = .ok (fr (mkF t b))
set_option maxHeartbeats 4000000 in
theorem ok_frac (T : Glo K mg) : FnOk P w K mg base CX0 3 T.f_frac T.d_frac ["top", "bottom"] (spF K F_frac) := by
  refine fn_ok T.F_frac sc_frac (fun ds o h => ?_) (fun ds c h => ?_) (fun cdv A outer s H E hr B ds o h => ?_)
  · obtain ⟨t, b, rfl, hb, ht, hs, rfl⟩ := h
    rfl
  · obtain ⟨t, b, rfl, hb, ht, hs, ho⟩ := h
    cases ho
  · obtain ⟨t, b, rfl, hb, ht, hs, rfl⟩ := h
    have hg := gcd_pos (t := t) (b := b) (by omega)
    rw [← gcd_abs] at hg
    have nd := (sc_frac).nd
    refine jss_ifr (jt_eqI (je_var 1 rfl (.inl rfl) rfl) je_int) (fun hi1 => ?_) (fun hi1 => ?_)
    · (try simp only [Bool.and_eq_true, Bool.or_eq_true, Bool.not_eq_true', Bool.not_eq_false', Bool.and_eq_false_imp, Bool.or_eq_false_iff, decide_eq_true_eq, decide_eq_false_iff_not, Bool.not_true, Bool.not_false, Bool.false_or, Bool.or_false, Bool.true_and, Bool.and_true] at hi1)
      omega
    · (try simp only [Bool.and_eq_true, Bool.or_eq_true, Bool.not_eq_true', Bool.not_eq_false', Bool.and_eq_false_imp, Bool.or_eq_false_iff, decide_eq_true_eq, decide_eq_false_iff_not, Bool.not_true, Bool.not_false, Bool.false_or, Bool.or_false, Bool.true_and, Bool.and_true] at hi1)
      refine jss_ifr (jt_lt (je_var 1 rfl (.inl rfl) rfl) je_int) (fun hi2 => ?_) (fun hi2 => ?_)
      · (try simp only [Bool.and_eq_true, Bool.or_eq_true, Bool.not_eq_true', Bool.not_eq_false', Bool.and_eq_false_imp, Bool.or_eq_false_iff, decide_eq_true_eq, decide_eq_false_iff_not, Bool.not_true, Bool.not_false, Bool.false_or, Bool.or_false, Bool.true_and, Bool.and_true] at hi2)
        exact jss_one (js_ret (m := true) (je_call (ok_fracP T) (hr.mono (by decide)) (by rfl) T.g_frac T.F_frac.kp T.b_frac pass0 (ja_cons (je_neg (je_var 0 rfl (.inl rfl) rfl)) (ja_cons (je_neg (je_var 1 rfl (.inl rfl) rfl)) ja_nil)) (⟨_, _, rfl, (by omega), ht.neg, hs.neg, rfl⟩)) (by unfold mkF; rw [if_pos hi2]; exact rfl))
      · (try simp only [Bool.and_eq_true, Bool.or_eq_true, Bool.not_eq_true', Bool.not_eq_false', Bool.and_eq_false_imp, Bool.or_eq_false_iff, decide_eq_true_eq, decide_eq_false_iff_not, Bool.not_true, Bool.not_false, Bool.false_or, Bool.or_false, Bool.true_and, Bool.and_true] at hi2)
        refine jss_cons (fun s => s = _) (js_set 2 nd rfl (.inl rfl) (je_call (ok_divisor T) (hr.mono (by decide)) (by rfl) T.g_divisor T.F_divisor.kp T.b_divisor pass0 (ja_cons (je_abs (by rfl) T.m_abs (ja_cons (je_var 0 rfl (.inl rfl) rfl) ja_nil)) (ja_cons (je_var 1 rfl (.inl rfl) rfl) ja_nil)) (⟨_, _, rfl, (by split <;> omega), (by omega), trivial, rfl⟩)) rfl) ?_
        rintro _ rfl
        exact jss_one (js_ret (m := true) (je_pr (ja_cons (je_div (je_var 0 rfl (.inl rfl) rfl) (je_var 2 rfl (.inl rfl) rfl) (by first | exact divOk hg ht | exact divOk hg hs)) (ja_cons (je_div (je_var 1 rfl (.inl rfl) rfl) (je_var 2 rfl (.inl rfl) rfl) (by first | exact divOk hg ht | exact divOk hg hs)) ja_nil))) (by unfold mkF; rw [if_neg hi2, gcd_abs]; exact rfl))
abbrev F_over : FS := fun ds o => ∃ a b : Q, ds = [fr a, fr b] ∧ FB 6700 a ∧ FB 6700 b ∧ b.1 ≠ 0 ∧ o = .ok (fr (qdiv a b))
theorem sc_over : FnScope ["one", "other"] ["one", "other"] (defScope s_over) := ⟨rfl, rfl, rfl, by decide +kernel, rfl, by decide +kernel, by decide +kernel⟩
set_option maxHeartbeats 4000000 in
theorem ok_over (T : Glo K mg) : FnOk P w K mg base CX0 4 T.f_over T.d_over ["one", "other"] (spF K F_over) := by
  refine fn_ok T.F_over sc_over (fun ds o h => ?_) (fun ds c h => ?_) (fun cdv A outer s H E hr B ds o h => ?_)
  · obtain ⟨a, b, rfl, ha, hb, h0, rfl⟩ := h
    rfl
  · obtain ⟨a, b, rfl, ha, hb, h0, ho⟩ := h
    cases ho
  · obtain ⟨a, b, rfl, ha, hb, h0, rfl⟩ := h
    have nd := (sc_over).nd
    exact jss_one (js_ret (m := true) (je_call (ok_frac T) (hr.mono (by decide)) (by rfl) T.g_frac T.F_frac.kp T.b_frac pass0 (ja_cons (je_mul (je_ixT (je_var 0 rfl (.inl rfl) rfl) je_int rfl) (je_ixT (je_var 1 rfl (.inl rfl) rfl) je_int rfl) (by first | exact mulOk ha.2.1 hb.2.2 | exact mulOk hb.2.1 ha.2.2 | exact mulOk ha.2.2 hb.2.2 | exact mulOk ha.2.1 hb.2.1 | exact mulOk ha.2.2 hb.2.1)) (ja_cons (je_mul (je_ixT (je_var 0 rfl (.inl rfl) rfl) je_int rfl) (je_ixT (je_var 1 rfl (.inl rfl) rfl) je_int rfl) (by first | exact mulOk ha.2.1 hb.2.2 | exact mulOk hb.2.1 ha.2.2 | exact mulOk ha.2.2 hb.2.2 | exact mulOk ha.2.1 hb.2.1 | exact mulOk ha.2.2 hb.2.1)) ja_nil)) (⟨_, _, rfl, (Int.mul_ne_zero (Int.ne_of_gt ha.1) h0), ((ha.2.1.mul hb.2.2).mono (by decide)), ((ha.2.2.mul hb.2.1).mono (by decide)), rfl⟩)) (by first | exact rfl | assumption))
abbrev F_times : FS := fun ds o => ∃ a b : Q, ds = [fr a, fr b] ∧ FB 6700 a ∧ FB 6700 b ∧ o = .ok (fr (qmul a b))
theorem sc_times : FnScope ["one", "other"] ["one", "other"] (defScope s_times) := ⟨rfl, rfl, rfl, by decide +kernel, rfl, by decide +kernel, by decide +kernel⟩
set_option maxHeartbeats 4000000 in
theorem ok_times (T : Glo K mg) : FnOk P w K mg base CX0 4 T.f_times T.d_times ["one", "other"] (spF K F_times) := by
  refine fn_ok T.F_times sc_times (fun ds o h => ?_) (fun ds c h => ?_) (fun cdv A outer s H E hr B ds o h => ?_)
  · obtain ⟨a, b, rfl, ha, hb, rfl⟩ := h
    rfl
  · obtain ⟨a, b, rfl, ha, hb, ho⟩ := h
    cases ho
  · obtain ⟨a, b, rfl, ha, hb, rfl⟩ := h
    have nd := (sc_times).nd
    exact jss_one (js_ret (m := true) (je_call (ok_frac T) (hr.mono (by decide)) (by rfl) T.g_frac T.F_frac.kp T.b_frac pass0 (ja_cons (je_mul (je_ixT (je_var 0 rfl (.inl rfl) rfl) je_int rfl) (je_ixT (je_var 1 rfl (.inl rfl) rfl) je_int rfl) (by first | exact mulOk ha.2.1 hb.2.2 | exact mulOk hb.2.1 ha.2.2 | exact mulOk ha.2.2 hb.2.2 | exact mulOk ha.2.1 hb.2.1 | exact mulOk ha.2.2 hb.2.1)) (ja_cons (je_mul (je_ixT (je_var 0 rfl (.inl rfl) rfl) je_int rfl) (je_ixT (je_var 1 rfl (.inl rfl) rfl) je_int rfl) (by first | exact mulOk ha.2.1 hb.2.2 | exact mulOk hb.2.1 ha.2.2 | exact mulOk ha.2.2 hb.2.2 | exact mulOk ha.2.1 hb.2.1 | exact mulOk ha.2.2 hb.2.1)) ja_nil)) (⟨_, _, rfl, (Int.ne_of_gt (Int.mul_pos ha.1 hb.1)), ((ha.2.1.mul hb.2.1).mono (by decide)), ((ha.2.2.mul hb.2.2).mono (by decide)), rfl⟩)) (by first | exact rfl | assumption))
abbrev F_power : FS := fun ds o => ∃ (a : Q) (k : Int), ds = [fr a, .int k] ∧ FB 100 a ∧ 0 ≤ k ∧ k ≤ 60 ∧ o = .ok (fr (qpow a k.toNat))
theorem sc_power : FnScope ["one", "many", "made", "k"] ["one", "many"] (defScope s_power) := ⟨rfl, rfl, rfl, by decide +kernel, rfl, by decide +kernel, by decide +kernel⟩
set_option maxHeartbeats 4000000 in
theorem ok_power (T : Glo K mg) : FnOk P w K mg base CX0 1 T.f_power T.d_power ["one", "many"] (spF K F_power) := by
  refine fn_ok T.F_power sc_power (fun ds o h => ?_) (fun ds c h => ?_) (fun cdv A outer s H E hr B ds o h => ?_)
  · obtain ⟨a, k, rfl, ha, h0, h1, rfl⟩ := h
    rfl
  · obtain ⟨a, k, rfl, ha, h0, h1, ho⟩ := h
    cases ho
  · obtain ⟨a, k, rfl, ha, h0, h1, rfl⟩ := h
    have nd := (sc_power).nd
    refine jss_cons (fun s => s = _) (js_set 2 nd rfl (.inl rfl) (je_pr (ja_cons je_int (ja_cons je_int ja_nil))) rfl) ?_
    rintro _ rfl
    refine jss_cons (fun s => ∃ r : Sl, s = [.va (fr a), .va (.int k), .va (fr (qpow a k.toNat)), r]) (js_for (vs := [3]) PassesOwn.never rfl (ji_rngT (ji_rng1 (by rfl) T.m_range (ja_cons (je_var 1 rfl (.inl rfl) rfl) ja_nil) (by first | decide | omega) (by first | decide | omega))) (fun i s => ∃ r : Sl, s = [.va (fr a), .va (.int k), .va (fr (qpow a i)), r]) (⟨_, by rw [qpow_zero]; rfl⟩) (fun it d s hd hi => ?_) (fun s hi => ?_)) ?_
    · obtain ⟨r, rfl⟩ := hi
      obtain ⟨_, hz, rfl⟩ := map_get hd
      obtain ⟨rfl, hk⟩ := rngT_get hz
      refine ⟨_, (jg_name 3 nd rfl (.inl rfl)), ?_⟩
      refine jss_cons (fun s => s = _) (js_set 2 nd rfl (.inl rfl) (je_pr (ja_cons (je_mul (je_ixT (je_var 2 rfl (.inl rfl) rfl) je_int rfl) (je_ixT (je_var 0 rfl (.inl rfl) rfl) je_int rfl) (by first | exact mulOk (m := 6001) ((bd_pow ha.2.1 (by decide) it).mono (by omega)) ha.2.1 | exact mulOk (m := 6001) ((bd_pow ha.2.2 (by decide) it).mono (by omega)) ha.2.2)) (ja_cons (je_mul (je_ixT (je_var 2 rfl (.inl rfl) rfl) je_int rfl) (je_ixT (je_var 0 rfl (.inl rfl) rfl) je_int rfl) (by first | exact mulOk (m := 6001) ((bd_pow ha.2.1 (by decide) it).mono (by omega)) ha.2.1 | exact mulOk (m := 6001) ((bd_pow ha.2.2 (by decide) it).mono (by omega)) ha.2.2)) ja_nil))) rfl) ?_
      rintro _ rfl
      exact jss_nil ⟨_, by rw [qpow_succ]; rfl⟩
    · rw [List.length_map, rngT_len] at hi; exact hi
    rintro _ ⟨r, rfl⟩
    exact jss_one (js_ret (m := true) (je_var 2 rfl (.inl rfl) rfl) (by first | exact rfl | assumption))
abbrev F_minus : FS := fun ds o => ∃ a b : Q, ds = [fr a, fr b] ∧ FB 6700 a ∧ FB 6700 b ∧ o = .ok (fr (qsub a b))
theorem sc_minus : FnScope ["one", "other"] ["one", "other"] (defScope s_minus) := ⟨rfl, rfl, rfl, by decide +kernel, rfl, by decide +kernel, by decide +kernel⟩
set_option maxHeartbeats 4000000 in
theorem ok_minus (T : Glo K mg) : FnOk P w K mg base CX0 4 T.f_minus T.d_minus ["one", "other"] (spF K F_minus) := by
  refine fn_ok T.F_minus sc_minus (fun ds o h => ?_) (fun ds c h => ?_) (fun cdv A outer s H E hr B ds o h => ?_)
  · obtain ⟨a, b, rfl, ha, hb, rfl⟩ := h
    rfl
  · obtain ⟨a, b, rfl, ha, hb, ho⟩ := h
    cases ho
  · obtain ⟨a, b, rfl, ha, hb, rfl⟩ := h
    have nd := (sc_minus).nd
    exact jss_one (js_ret (m := true) (je_call (ok_frac T) (hr.mono (by decide)) (by rfl) T.g_frac T.F_frac.kp T.b_frac pass0 (ja_cons (je_sub (je_mul (je_ixT (je_var 0 rfl (.inl rfl) rfl) je_int rfl) (je_ixT (je_var 1 rfl (.inl rfl) rfl) je_int rfl) (by first | exact mulOk ha.2.1 hb.2.2 | exact mulOk hb.2.1 ha.2.2 | exact mulOk ha.2.2 hb.2.2 | exact mulOk ha.2.1 hb.2.1 | exact mulOk ha.2.2 hb.2.1)) (je_mul (je_ixT (je_var 1 rfl (.inl rfl) rfl) je_int rfl) (je_ixT (je_var 0 rfl (.inl rfl) rfl) je_int rfl) (by first | exact mulOk ha.2.1 hb.2.2 | exact mulOk hb.2.1 ha.2.2 | exact mulOk ha.2.2 hb.2.2 | exact mulOk ha.2.1 hb.2.1 | exact mulOk ha.2.2 hb.2.1))) (ja_cons (je_mul (je_ixT (je_var 0 rfl (.inl rfl) rfl) je_int rfl) (je_ixT (je_var 1 rfl (.inl rfl) rfl) je_int rfl) (by first | exact mulOk ha.2.1 hb.2.2 | exact mulOk hb.2.1 ha.2.2 | exact mulOk ha.2.2 hb.2.2 | exact mulOk ha.2.1 hb.2.1 | exact mulOk ha.2.2 hb.2.1)) ja_nil)) (⟨_, _, rfl, (Int.ne_of_gt (Int.mul_pos ha.1 hb.1)), (((ha.2.1.mul hb.2.2).sub (hb.2.1.mul ha.2.2)).mono (by decide)), ((ha.2.2.mul hb.2.2).mono (by decide)), rfl⟩)) (by first | exact rfl | assumption))
abbrev F_weight : FS := fun ds o => ∃ (x y : Nat) (a : Q), ds = [fr ((x : Int), (y : Int)), fr a] ∧ Sh a ∧ x ≤ 60 ∧ y ≤ 60 ∧ o = .ok (fr (weightQ x y a))
theorem sc_weight_at : FnScope ["count", "share"] ["count", "share"] (defScope s_weight_at) := ⟨rfl, rfl, rfl, by decide +kernel, rfl, by decide +kernel, by decide +kernel⟩
set_option maxHeartbeats 4000000 in
theorem ok_weight_at (T : Glo K mg) : FnOk P w K mg base CX0 5 T.f_weight_at T.d_weight_at ["count", "share"] (spF K F_weight) := by
  refine fn_ok T.F_weight_at sc_weight_at (fun ds o h => ?_) (fun ds c h => ?_) (fun cdv A outer s H E hr B ds o h => ?_)
  · obtain ⟨x, y, a, rfl, ha, hx, hy, rfl⟩ := h
    rfl
  · obtain ⟨x, y, a, rfl, ha, hx, hy, ho⟩ := h
    cases ho
  · obtain ⟨x, y, a, rfl, ha, hx, hy, rfl⟩ := h
    have o1 := ha.oth.1
    have p1 := (qpow_FB ha.fb (by decide) x).mono (show _ ≤ 6700 by omega)
    have p2 := (qpow_FB o1 (by decide) y).mono (show _ ≤ 6700 by omega)
    have nd := (sc_weight_at).nd
    exact jss_one (js_ret (m := true) (je_call (ok_times T) (hr.mono (by decide)) (by rfl) T.g_times T.F_times.kp T.b_times pass0 (ja_cons (je_call (ok_power T) (hr.mono (by decide)) (by rfl) T.g_power T.F_power.kp T.b_power pass0 (ja_cons (je_var 1 rfl (.inl rfl) rfl) (ja_cons (je_ixT (je_var 0 rfl (.inl rfl) rfl) je_int rfl) ja_nil)) (⟨_, _, rfl, (by first | exact ha.fb.mono (by decide) | exact o1.mono (by decide)), (by omega), (by omega), rfl⟩)) (ja_cons (je_call (ok_power T) (hr.mono (by decide)) (by rfl) T.g_power T.F_power.kp T.b_power pass0 (ja_cons (je_call (ok_minus T) (hr.mono (by decide)) (by rfl) T.g_minus T.F_minus.kp T.b_minus pass0 (ja_cons (je_pr (ja_cons je_int (ja_cons je_int ja_nil))) (ja_cons (je_var 1 rfl (.inl rfl) rfl) ja_nil)) (⟨_, _, rfl, FB_11.mono (by decide), ha.fb.mono (by decide), rfl⟩)) (ja_cons (je_ixT (je_var 0 rfl (.inl rfl) rfl) je_int rfl) ja_nil)) (⟨_, _, rfl, (by first | exact ha.fb.mono (by decide) | exact o1.mono (by decide)), (by omega), (by omega), rfl⟩)) ja_nil)) (⟨_, _, rfl, p1, p2, rfl⟩)) (by first | exact rfl | assumption))
abbrev F_ratio : FS := fun ds o => ∃ (x y : Nat) (a b : Q), ds = [fr ((x : Int), (y : Int)), fr a, fr b] ∧ Sh a ∧ Sh b ∧ val a < val b ∧ x ≤ 60 ∧ y ≤ 60 ∧ o = .ok (fr (ratioQ x y a b))
theorem sc_ratio : FnScope ["count", "low", "high"] ["count", "low", "high"] (defScope s_ratio) := ⟨rfl, rfl, rfl, by decide +kernel, rfl, by decide +kernel, by decide +kernel⟩
set_option maxHeartbeats 4000000 in
theorem ok_ratio (T : Glo K mg) : FnOk P w K mg base CX0 6 T.f_ratio T.d_ratio ["count", "low", "high"] (spF K F_ratio) := by
  refine fn_ok T.F_ratio sc_ratio (fun ds o h => ?_) (fun ds c h => ?_) (fun cdv A outer s H E hr B ds o h => ?_)
  · obtain ⟨x, y, a, b, rfl, ha, hb, hl, hx, hy, rfl⟩ := h
    rfl
  · obtain ⟨x, y, a, b, rfl, ha, hb, hl, hx, hy, ho⟩ := h
    cases ho
  · obtain ⟨x, y, a, b, rfl, ha, hb, hl, hx, hy, rfl⟩ := h
    have w1 := weight_ok ha hx hy
    have w2 := weight_ok hb hx hy
    have w3 := w1.2.2.2
    have nd := (sc_ratio).nd
    refine jss_cons (fun s => s = _) (js_drop (m := true) (je_call (ok_check_shares T) (hr.mono (by decide)) (by rfl) T.g_check_shares T.F_check_shares.kp T.b_check_shares pass0 (ja_cons (je_var 1 rfl (.inl rfl) rfl) (ja_cons (je_var 2 rfl (.inl rfl) rfl) ja_nil)) (⟨_, _, rfl, (by assumption), (by assumption), (by assumption), rfl⟩)) rfl) ?_
    rintro _ rfl
    exact jss_one (js_ret (m := true) (je_call (ok_over T) (hr.mono (by decide)) (by rfl) T.g_over T.F_over.kp T.b_over pass0 (ja_cons (je_call (ok_weight_at T) (hr.mono (by decide)) (by rfl) T.g_weight_at T.F_weight_at.kp T.b_weight_at pass0 (ja_cons (je_var 0 rfl (.inl rfl) rfl) (ja_cons (je_var 2 rfl (.inl rfl) rfl) ja_nil)) (⟨_, _, _, rfl, (by assumption), (by assumption), (by assumption), rfl⟩)) (ja_cons (je_call (ok_weight_at T) (hr.mono (by decide)) (by rfl) T.g_weight_at T.F_weight_at.kp T.b_weight_at pass0 (ja_cons (je_var 0 rfl (.inl rfl) rfl) (ja_cons (je_var 1 rfl (.inl rfl) rfl) ja_nil)) (⟨_, _, _, rfl, (by assumption), (by assumption), (by assumption), rfl⟩)) ja_nil)) (⟨_, _, rfl, w2.1.mono (by decide), w1.1.mono (by decide), w3, rfl⟩)) (by first | exact rfl | assumption))
abbrev F_ltimes : FS := fun ds o => ∃ a k : Int, ds = [.int a, .int k] ∧ Bd 100 a ∧ 0 ≤ k ∧ k ≤ 100 ∧ o = .ok (.int (a ^ k.toNat))
theorem sc__law_times : FnScope ["_law_base", "_law_many", "_law_made_here", "_law_k"] ["_law_base", "_law_many"] (defScope s__law_times) := ⟨rfl, rfl, rfl, by decide +kernel, rfl, by decide +kernel, by decide +kernel⟩
set_option maxHeartbeats 4000000 in
theorem ok__law_times (T : Glo K mg) : FnOk P w K mg base CX0 1 T.f__law_times T.d__law_times ["_law_base", "_law_many"] (spF K F_ltimes) := by
  refine fn_ok T.F__law_times sc__law_times (fun ds o h => ?_) (fun ds c h => ?_) (fun cdv A outer s H E hr B ds o h => ?_)
  · obtain ⟨a, k, rfl, ha, h0, h1, rfl⟩ := h
    rfl
  · obtain ⟨a, k, rfl, ha, h0, h1, ho⟩ := h
    cases ho
  · obtain ⟨a, k, rfl, ha, h0, h1, rfl⟩ := h
    have nd := (sc__law_times).nd
    refine jss_cons (fun s => s = _) (js_set 2 nd rfl (.inl rfl) je_int rfl) ?_
    rintro _ rfl
    refine jss_cons (fun s => ∃ (u3 : Sl), s = [.va (.int a), .va (.int k), .va (.int (a ^ k.toNat)), u3]) (js_for (vs := [3]) PassesOwn.never rfl (ji_rngT (ji_rng1 (by rfl) T.m_range (ja_cons (je_var 1 rfl (.inl rfl) rfl) ja_nil) (by first | decide | omega) (by first | decide | omega))) (fun i s => ∃ (u3 : Sl), s = [.va (.int a), .va (.int k), .va (.int (a ^ i)), u3]) (⟨_, by rw [Int.pow_zero]; rfl⟩) (fun it d s hd hi => ?_) (fun s hi => ?_)) ?_
    · obtain ⟨u3, rfl⟩ := hi
      obtain ⟨_, hz, rfl⟩ := map_get hd
      obtain ⟨rfl, hk⟩ := rngT_get hz
      refine ⟨_, (jg_name 3 nd rfl (.inl rfl)), ?_⟩
      refine jss_cons (fun s => s = _) (js_set 2 nd rfl (.inl rfl) (je_mul (je_var 2 rfl (.inl rfl) rfl) (je_var 0 rfl (.inl rfl) rfl) (by exact mulOk (m := 10001) ((bd_pow ha (by decide) it).mono (by omega)) ha)) rfl) ?_
      rintro _ rfl
      exact jss_nil ⟨_, by rw [Int.pow_succ]; rfl⟩
    · rw [List.length_map, rngT_len] at hi; exact hi
    rintro _ ⟨u3, rfl⟩
    exact jss_one (js_ret (m := true) (je_var 2 rfl (.inl rfl) rfl) (by first | exact rfl | assumption))
abbrev F_lweight : FS := fun ds o => ∃ (x y : Nat) (t b : Int), ds = [fr ((x : Int), (y : Int)), .int t, .int b] ∧ Bd 41 t ∧ Bd 41 b ∧ x ≤ 60 ∧ y ≤ 60 ∧ o = .ok (.int (t ^ x * (b - t) ^ y))
theorem sc__law_weight : FnScope ["_law_count", "_law_top", "_law_bottom"] ["_law_count", "_law_top", "_law_bottom"] (defScope s__law_weight) := ⟨rfl, rfl, rfl, by decide +kernel, rfl, by decide +kernel, by decide +kernel⟩
set_option maxHeartbeats 4000000 in
theorem ok__law_weight (T : Glo K mg) : FnOk P w K mg base CX0 2 T.f__law_weight T.d__law_weight ["_law_count", "_law_top", "_law_bottom"] (spF K F_lweight) := by
  refine fn_ok T.F__law_weight sc__law_weight (fun ds o h => ?_) (fun ds c h => ?_) (fun cdv A outer s H E hr B ds o h => ?_)
  · obtain ⟨x, y, t, b, rfl, ht, hb, hx, hy, rfl⟩ := h
    rfl
  · obtain ⟨x, y, t, b, rfl, ht, hb, hx, hy, ho⟩ := h
    cases ho
  · obtain ⟨x, y, t, b, rfl, ht, hb, hx, hy, rfl⟩ := h
    have nd := (sc__law_weight).nd
    exact jss_one (js_ret (m := true) (je_mul (je_call (ok__law_times T) (hr.mono (by decide)) (by rfl) T.g__law_times T.F__law_times.kp T.b__law_times pass0 (ja_cons (je_var 1 rfl (.inl rfl) rfl) (ja_cons (je_ixT (je_var 0 rfl (.inl rfl) rfl) je_int rfl) ja_nil)) (⟨_, _, rfl, (by first | exact ht.mono (by decide) | exact (hb.sub ht).mono (by decide)), (by omega), (by omega), rfl⟩)) (je_call (ok__law_times T) (hr.mono (by decide)) (by rfl) T.g__law_times T.F__law_times.kp T.b__law_times pass0 (ja_cons (je_sub (je_var 2 rfl (.inl rfl) rfl) (je_var 1 rfl (.inl rfl) rfl)) (ja_cons (je_ixT (je_var 0 rfl (.inl rfl) rfl) je_int rfl) ja_nil)) (⟨_, _, rfl, (by first | exact ht.mono (by decide) | exact (hb.sub ht).mono (by decide)), (by omega), (by omega), rfl⟩)) (by exact mulOk (m := 2461) (n := 2521) ((bd_pow ht (by decide) x).mono (by omega)) ((bd_pow (hb.sub ht) (by decide) y).mono (by omega)))) (by first | exact rfl | assumption))
abbrev F_whole : FS := fun ds o => ∃ i : Int, ds = [.int i] ∧ o = .ok (.bl true)
theorem sc__law_whole : FnScope ["_law_found"] ["_law_found"] (defScope s__law_whole) := ⟨rfl, rfl, rfl, by decide +kernel, rfl, by decide +kernel, by decide +kernel⟩
set_option maxHeartbeats 4000000 in
theorem ok__law_whole (T : Glo K mg) : FnOk P w K mg base CX0 1 T.f__law_whole T.d__law_whole ["_law_found"] (spF K F_whole) := by
  refine fn_ok T.F__law_whole sc__law_whole (fun ds o h => ?_) (fun ds c h => ?_) (fun cdv A outer s H E hr B ds o h => ?_)
  · obtain ⟨i, rfl, rfl⟩ := h
    rfl
  · obtain ⟨i, rfl, ho⟩ := h
    cases ho
  · obtain ⟨i, rfl, rfl⟩ := h
    have nd := (sc__law_whole).nd
    exact jss_one (js_ret (m := true) (je_and (je_isi (r := true) (by rfl) T.m_isinstance (by rfl) T.m_int boot_int (je_var 0 rfl (.inl rfl) rfl) (by exact isi_int_int)) (fun h1 => (je_one (je_not (je_isi (r := false) (by rfl) T.m_isinstance (by rfl) T.m_bool boot_bool (je_var 0 rfl (.inl rfl) rfl) (by exact isi_int_bool)))))) (by first | exact rfl | assumption))
abbrev F_isfrac : FS := fun ds o => ∃ (q : Q) (t b : Int), ds = [fr q, .int t, .int b] ∧ Bd 300000 q.1 ∧ Bd 300000 q.2 ∧ Bd 300000 t ∧ Bd 300000 b ∧ o = .ok (.bl (isFr q t b))
theorem sc__law_is_frac : FnScope ["_law_found", "_law_top", "_law_bottom"] ["_law_found", "_law_top", "_law_bottom"] (defScope s__law_is_frac) := ⟨rfl, rfl, rfl, by decide +kernel, rfl, by decide +kernel, by decide +kernel⟩
set_option maxHeartbeats 4000000 in
theorem ok__law_is_frac (T : Glo K mg) : FnOk P w K mg base CX0 2 T.f__law_is_frac T.d__law_is_frac ["_law_found", "_law_top", "_law_bottom"] (spF K F_isfrac) := by
  refine fn_ok T.F__law_is_frac sc__law_is_frac (fun ds o h => ?_) (fun ds c h => ?_) (fun cdv A outer s H E hr B ds o h => ?_)
  · obtain ⟨q, t, b, rfl, h1, h2, h3, h4, rfl⟩ := h
    rfl
  · obtain ⟨q, t, b, rfl, h1, h2, h3, h4, ho⟩ := h
    cases ho
  · obtain ⟨q, t, b, rfl, h1, h2, h3, h4, rfl⟩ := h
    have nd := (sc__law_is_frac).nd
    refine jss_ifr (JW.jt (jw_or (jt_not (jt_val (je_isi (r := true) (by rfl) T.m_isinstance (by rfl) T.m_tuple boot_tuple (je_var 0 rfl (.inl rfl) rfl) (by exact isi_tuple_tuple)))) (fun h1 => (jw_or (jt_neI (je_lenT (by rfl) T.m_len (ja_cons (je_var 0 rfl (.inl rfl) rfl) ja_nil)) je_int) (fun h2 => (jw_or (jt_not (jt_val (je_call (ok__law_whole T) (hr.mono (by decide)) (by rfl) T.g__law_whole T.F__law_whole.kp T.b__law_whole pass0 (ja_cons (je_ixT (je_var 0 rfl (.inl rfl) rfl) je_int rfl) ja_nil) (⟨_, rfl, rfl⟩)))) (fun h3 => (jw_or1 (jt_not (jt_val (je_call (ok__law_whole T) (hr.mono (by decide)) (by rfl) T.g__law_whole T.F__law_whole.kp T.b__law_whole pass0 (ja_cons (je_ixT (je_var 0 rfl (.inl rfl) rfl) je_int rfl) ja_nil) (⟨_, rfl, rfl⟩)))))))))))) (fun hi1 => ?_) (fun hi1 => ?_)
    · exact absurd hi1 (by simp)
    · (try simp only [Bool.and_eq_true, Bool.or_eq_true, Bool.not_eq_true', Bool.not_eq_false', Bool.and_eq_false_imp, Bool.or_eq_false_iff, decide_eq_true_eq, decide_eq_false_iff_not, Bool.not_true, Bool.not_false, Bool.false_or, Bool.or_false, Bool.true_and, Bool.and_true] at hi1)
      refine jss_ifr (JW.jt (jw_or (jt_lt (je_ixT (je_var 0 rfl (.inl rfl) rfl) je_int rfl) je_int) (fun h4 => (jw_or1 (jt_neI (je_call (ok__law_divisor T) (hr.mono (by decide)) (by rfl) T.g__law_divisor T.F__law_divisor.kp T.b__law_divisor pass0 (ja_cons (je_ixT (je_var 0 rfl (.inl rfl) rfl) je_int rfl) (ja_cons (je_ixT (je_var 0 rfl (.inl rfl) rfl) je_int rfl) ja_nil)) (⟨_, _, rfl, rfl⟩)) je_int))))) (fun hi2 => ?_) (fun hi2 => ?_)
      · skip
        exact jss_one (js_ret (m := true) je_bl (by unfold isFr; rw [hi2]; exact rfl))
      · skip
        exact jss_one (js_ret (m := true) (je_eqI (je_mul (je_ixT (je_var 0 rfl (.inl rfl) rfl) je_int rfl) (je_var 2 rfl (.inl rfl) rfl) (by first | exact .inr (.inr ⟨by decide, by decide⟩) | exact .inr (.inl ⟨by decide, by decide⟩) | exact mulOk (by assumption) (by assumption) | fail)) (je_mul (je_var 1 rfl (.inl rfl) rfl) (je_ixT (je_var 0 rfl (.inl rfl) rfl) je_int rfl) (by first | exact .inr (.inr ⟨by decide, by decide⟩) | exact .inr (.inl ⟨by decide, by decide⟩) | exact mulOk (by assumption) (by assumption) | fail))) (by unfold isFr; rw [hi2]; exact rfl))
abbrev F_lunder : FS := fun ds o => ∃ a b : Q, ds = [fr a, fr b] ∧ FB 13500 a ∧ FB 13500 b ∧ o = .ok (.bl (decide (a.1 * b.2 < b.1 * a.2)))
theorem sc__law_under : FnScope ["_law_one", "_law_other"] ["_law_one", "_law_other"] (defScope s__law_under) := ⟨rfl, rfl, rfl, by decide +kernel, rfl, by decide +kernel, by decide +kernel⟩
set_option maxHeartbeats 4000000 in
theorem ok__law_under (T : Glo K mg) : FnOk P w K mg base CX0 1 T.f__law_under T.d__law_under ["_law_one", "_law_other"] (spF K F_lunder) := by
  refine fn_ok T.F__law_under sc__law_under (fun ds o h => ?_) (fun ds c h => ?_) (fun cdv A outer s H E hr B ds o h => ?_)
  · obtain ⟨a, b, rfl, ha, hb, rfl⟩ := h
    rfl
  · obtain ⟨a, b, rfl, ha, hb, ho⟩ := h
    cases ho
  · obtain ⟨a, b, rfl, ha, hb, rfl⟩ := h
    have nd := (sc__law_under).nd
    exact jss_one (js_ret (m := true) (je_lt (je_mul (je_ixT (je_var 0 rfl (.inl rfl) rfl) je_int rfl) (je_ixT (je_var 1 rfl (.inl rfl) rfl) je_int rfl) (by first | exact mulOk ha.2.1 hb.2.2 | exact mulOk hb.2.1 ha.2.2)) (je_mul (je_ixT (je_var 1 rfl (.inl rfl) rfl) je_int rfl) (je_ixT (je_var 0 rfl (.inl rfl) rfl) je_int rfl) (by first | exact mulOk ha.2.1 hb.2.2 | exact mulOk hb.2.1 ha.2.2))) (by first | exact rfl | assumption))
theorem share_ok {t b : Int} (h : 0 < t) (h2 : t < b) (h3 : b ≤ 1000000000002) : Sh (mkP t b) ∧ val (mkP t b) = (t : Rat) / (b : Rat) := by
  have hb : 0 < b := by omega
  have v := val_mkP (t := t) hb
  have p1 := cast_pos h
  have p2 := cast_pos hb
  refine ⟨⟨mkP_FB hb (.of (by omega) (by omega)) (.of (by omega) (by omega)), ?_, ?_⟩, v⟩
  · rw [v, Rat.lt_div_iff p2]
    grind
  · rw [v, Rat.div_lt_iff p2]
    have : (t : Rat) < (b : Rat) := by exact_mod_cast h2
    grind
theorem asked_frac {lo hg b : Int} {x y : Nat} (h1 : 0 < lo) (h2 : lo < hg) (h3 : hg < b) (h4 : b ≤ 1000000000002) (hx : x < 60) (hy : y < 60) :
    isFr (ratioQ x y (mkP lo b) (mkP hg b)) (hg ^ x * (b - hg) ^ y) (lo ^ x * (b - lo) ^ y) = true := by
  obtain ⟨s1, v1⟩ := share_ok (t := lo) (b := b) h1 (by omega) h4
  obtain ⟨s2, v2⟩ := share_ok (t := hg) (b := b) (by omega) h3 h4
  obtain ⟨r1, r2, r3⟩ := ratio_ok s1 s2 (x := x) (y := y) (by omega) (by omega)
  have n : lo ^ x * (b - lo) ^ y ≠ 0 := Int.ne_of_gt (Int.mul_pos (Int.pow_pos h1) (Int.pow_pos (by omega)))
  refine isFr_val r1.1 n r2 ?_
  have p2 := cast_ne (b := b) (by omega)
  have c1 : 1 - (hg : Rat) / (b : Rat) = ((b - hg : Int) : Rat) / (b : Rat) := by
    push_cast
    grind
  have c2 : 1 - (lo : Rat) / (b : Rat) = ((b - lo : Int) : Rat) / (b : Rat) := by
    push_cast
    grind
  rw [r3, v1, v2, c1, c2, rat_div_pow _ _ p2, rat_div_pow _ _ p2, rat_div_pow _ _ p2, rat_div_pow _ _ p2]
  have q1 := rat_pow_ne p2 x
  have q2 := rat_pow_ne p2 y
  have e1 : ((hg ^ x * (b - hg) ^ y : Int) : Rat) = (hg : Rat) ^ x * ((b - hg : Int) : Rat) ^ y := by rw [Rat.intCast_mul, rat_pow_cast, rat_pow_cast]
  have e2 : ((lo ^ x * (b - lo) ^ y : Int) : Rat) = (lo : Rat) ^ x * ((b - lo : Int) : Rat) ^ y := by rw [Rat.intCast_mul, rat_pow_cast, rat_pow_cast]
  have n2 := cast_ne n
  rw [e1, e2]
  rw [e2] at n2
  generalize (b : Rat) ^ x = B1 at *
  generalize (b : Rat) ^ y = B2 at *
  generalize (hg : Rat) ^ x = U at *
  generalize ((b - hg : Int) : Rat) ^ y = V at *
  generalize (lo : Rat) ^ x = W at *
  generalize ((b - lo : Int) : Rat) ^ y = Z at *
  have w1 : W ≠ 0 := by intro z; rw [z] at n2; grind
  have w2 : Z ≠ 0 := by intro z; rw [z] at n2; grind
  have w3 : W / B1 * (Z / B2) ≠ 0 := by
    have : W / B1 * (Z / B2) * (B1 * B2) = W * Z := by grind
    intro z
    rw [z] at this
    grind
  grind
theorem lt_decV {a b : Q} (ha : 0 < a.2) (hb : 0 < b.2) (h : val a < val b) : decide (a.1 * b.2 < b.1 * a.2) = true := decide_eq_true ((lt_val ha hb).mpr h)
abbrev F_lasked : FS := fun ds o => ∃ (lo hg b x y : Int), ds = [t3 (lo, hg, b), .int x, .int y] ∧ 0 < lo ∧ lo < hg ∧ hg < b ∧ b ≤ 1000000000002 ∧ (0 ≤ x ∧ x < 60) ∧ (0 ≤ y ∧ y < 60) ∧ o = .ok (.bl true)
theorem sc__law_asked : FnScope ["_law_both", "_law_bad", "_law_good", "_law_low", "_law_high", "_law_found", "_law_top", "_law_bottom"] ["_law_both", "_law_bad", "_law_good"] (defScope s__law_asked) := ⟨rfl, rfl, rfl, by decide +kernel, rfl, by decide +kernel, by decide +kernel⟩
set_option maxHeartbeats 4000000 in
theorem ok__law_asked (T : Glo K mg) : FnOk P w K mg base CX0 7 T.f__law_asked T.d__law_asked ["_law_both", "_law_bad", "_law_good"] (spF K F_lasked) := by
  refine fn_ok T.F__law_asked sc__law_asked (fun ds o h => ?_) (fun ds c h => ?_) (fun cdv A outer s H E hr B ds o h => ?_)
  · obtain ⟨lo, hg, b, x, y, rfl, h1, h2, h3, h4, hx0, hy0, rfl⟩ := h
    rfl
  · obtain ⟨lo, hg, b, x, y, rfl, h1, h2, h3, h4, hx0, hy0, ho⟩ := h
    cases ho
  · obtain ⟨lo, hg, b, x, y, rfl, h1, h2, h3, h4, hx0, hy0, rfl⟩ := h
    obtain ⟨x, rfl⟩ := Int.eq_ofNat_of_zero_le hx0.1
    obtain ⟨y, rfl⟩ := Int.eq_ofNat_of_zero_le hy0.1
    have hx : x < 60 := by omega
    have hy : y < 60 := by omega
    have B1 : Bd 41 lo := .of (by omega) (by omega)
    have B2 : Bd 41 hg := .of (by omega) (by omega)
    have B3 : Bd 41 b := .of (by omega) (by omega)
    obtain ⟨s1, v1⟩ := share_ok (t := lo) (b := b) h1 (by omega) h4
    obtain ⟨s2, v2⟩ := share_ok (t := hg) (b := b) (by omega) h3 h4
    have hl : val (mkP lo b) < val (mkP hg b) := by
      rw [v1, v2, Rat.div_lt_iff (cast_pos (by omega)), Rat.div_mul_cancel (cast_ne (by omega))]
      exact_mod_cast h2
    have e0 := asked_frac h1 h2 h3 h4 hx hy
    have R := fun (x y : Nat) (hx : x ≤ 60) (hy : y ≤ 60) => (ratio_ok s1 s2 hx hy).1
    have R0 := (R x y (by omega) (by omega)).mono (show 10200 ≤ 13500 by decide)
    have R1 := (R (x + 1) y (by omega) (by omega)).mono (show 10200 ≤ 13500 by decide)
    have R2 := (R x (y + 1) (by omega) (by omega)).mono (show 10200 ≤ 13500 by decide)
    have e1 := lt_decV (R x y (by omega) (by omega)).1 (R (x + 1) y (by omega) (by omega)).1 (ratio_bad s1 s2 hl hx (by omega))
    have e2 := lt_decV (R x (y + 1) (by omega) (by omega)).1 (R x y (by omega) (by omega)).1 (ratio_good s1 s2 hl (by omega) hy)
    have nd := (sc__law_asked).nd
    refine jss_cons (fun s => s = _) (js_set 3 nd rfl (.inl rfl) (je_call (ok__law_made T) (hr.mono (by decide)) (by rfl) T.g__law_made T.F__law_made.kp T.b__law_made pass0 (ja_cons (je_ixT (je_var 0 rfl (.inl rfl) rfl) je_int rfl) (ja_cons (je_ixT (je_var 0 rfl (.inl rfl) rfl) je_int rfl) ja_nil)) (⟨_, _, rfl, (by dsimp only; omega), (by first | exact B1.mono (by decide) | exact B2.mono (by decide)), B3.mono (by decide), rfl⟩)) rfl) ?_
    rintro _ rfl
    refine jss_cons (fun s => s = _) (js_set 4 nd rfl (.inl rfl) (je_call (ok__law_made T) (hr.mono (by decide)) (by rfl) T.g__law_made T.F__law_made.kp T.b__law_made pass0 (ja_cons (je_ixT (je_var 0 rfl (.inl rfl) rfl) je_int rfl) (ja_cons (je_ixT (je_var 0 rfl (.inl rfl) rfl) je_int rfl) ja_nil)) (⟨_, _, rfl, (by dsimp only; omega), (by first | exact B1.mono (by decide) | exact B2.mono (by decide)), B3.mono (by decide), rfl⟩)) rfl) ?_
    rintro _ rfl
    refine jss_cons (fun s => s = _) (js_set 5 nd rfl (.inl rfl) (je_call (ok_ratio T) (hr.mono (by decide)) (by rfl) T.g_ratio T.F_ratio.kp T.b_ratio pass0 (ja_cons (je_pr (ja_cons (je_var 1 rfl (.inl rfl) rfl) (ja_cons (je_var 2 rfl (.inl rfl) rfl) ja_nil))) (ja_cons (je_var 3 rfl (.inl rfl) rfl) (ja_cons (je_var 4 rfl (.inl rfl) rfl) ja_nil))) (by first | exact ⟨x, y, _, _, rfl, s1, s2, hl, (by omega), (by omega), rfl⟩ | exact ⟨x + 1, y, _, _, rfl, s1, s2, hl, (by omega), (by omega), rfl⟩ | exact ⟨x, y + 1, _, _, rfl, s1, s2, hl, (by omega), (by omega), rfl⟩)) rfl) ?_
    rintro _ rfl
    refine jss_cons (fun s => s = _) (js_set 6 nd rfl (.inl rfl) (je_call (ok__law_weight T) (hr.mono (by decide)) (by rfl) T.g__law_weight T.F__law_weight.kp T.b__law_weight pass0 (ja_cons (je_pr (ja_cons (je_var 1 rfl (.inl rfl) rfl) (ja_cons (je_var 2 rfl (.inl rfl) rfl) ja_nil))) (ja_cons (je_ixT (je_var 0 rfl (.inl rfl) rfl) je_int rfl) (ja_cons (je_ixT (je_var 0 rfl (.inl rfl) rfl) je_int rfl) ja_nil))) (⟨_, _, _, _, rfl, (by assumption), B3, (by omega), (by omega), rfl⟩)) rfl) ?_
    rintro _ rfl
    refine jss_cons (fun s => s = _) (js_set 7 nd rfl (.inl rfl) (je_call (ok__law_weight T) (hr.mono (by decide)) (by rfl) T.g__law_weight T.F__law_weight.kp T.b__law_weight pass0 (ja_cons (je_pr (ja_cons (je_var 1 rfl (.inl rfl) rfl) (ja_cons (je_var 2 rfl (.inl rfl) rfl) ja_nil))) (ja_cons (je_ixT (je_var 0 rfl (.inl rfl) rfl) je_int rfl) (ja_cons (je_ixT (je_var 0 rfl (.inl rfl) rfl) je_int rfl) ja_nil))) (⟨_, _, _, _, rfl, (by assumption), B3, (by omega), (by omega), rfl⟩)) rfl) ?_
    rintro _ rfl
    refine jss_ifr (jt_not (jt_val (je_call (ok__law_is_frac T) (hr.mono (by decide)) (by rfl) T.g__law_is_frac T.F__law_is_frac.kp T.b__law_is_frac pass0 (ja_cons (je_var 5 rfl (.inl rfl) rfl) (ja_cons (je_var 6 rfl (.inl rfl) rfl) (ja_cons (je_var 7 rfl (.inl rfl) rfl) ja_nil))) (⟨_, _, _, rfl, (R _ _ (by omega) (by omega)).2.1.mono (by decide), (R _ _ (by omega) (by omega)).2.2.mono (by decide), (((bd_pow (by assumption) (by decide) x).mono (show _ ≤ 2500 by omega)).mul ((bd_pow (B3.sub (by assumption)) (by decide) y).mono (show _ ≤ 2600 by omega))).mono (by decide), (((bd_pow (by assumption) (by decide) x).mono (show _ ≤ 2500 by omega)).mul ((bd_pow (B3.sub (by assumption)) (by decide) y).mono (show _ ≤ 2600 by omega))).mono (by decide), rfl⟩)))) (fun hi1 => ?_) (fun hi1 => ?_)
    · rw [e0] at hi1
      exact absurd hi1 (by decide)
    · (try simp only [Bool.and_eq_true, Bool.or_eq_true, Bool.not_eq_true', Bool.not_eq_false', Bool.and_eq_false_imp, Bool.or_eq_false_iff, decide_eq_true_eq, decide_eq_false_iff_not, Bool.not_true, Bool.not_false, Bool.false_or, Bool.or_false, Bool.true_and, Bool.and_true] at hi1)
      exact jss_one (js_ret (m := true) (je_and (je_call (ok__law_under T) (hr.mono (by decide)) (by rfl) T.g__law_under T.F__law_under.kp T.b__law_under pass0 (ja_cons (je_var 5 rfl (.inl rfl) rfl) (ja_cons (je_call (ok_ratio T) (hr.mono (by decide)) (by rfl) T.g_ratio T.F_ratio.kp T.b_ratio pass0 (ja_cons (je_pr (ja_cons (je_add (je_var 1 rfl (.inl rfl) rfl) je_int) (ja_cons (je_var 2 rfl (.inl rfl) rfl) ja_nil))) (ja_cons (je_var 3 rfl (.inl rfl) rfl) (ja_cons (je_var 4 rfl (.inl rfl) rfl) ja_nil))) (by first | exact ⟨x, y, _, _, rfl, s1, s2, hl, (by omega), (by omega), rfl⟩ | exact ⟨x + 1, y, _, _, rfl, s1, s2, hl, (by omega), (by omega), rfl⟩ | exact ⟨x, y + 1, _, _, rfl, s1, s2, hl, (by omega), (by omega), rfl⟩)) ja_nil)) (⟨_, _, rfl, (by first | exact R0 | exact R1 | exact R2), (by first | exact R0 | exact R1 | exact R2), rfl⟩)) (fun h1 => (je_one (je_call (ok__law_under T) (hr.mono (by decide)) (by rfl) T.g__law_under T.F__law_under.kp T.b__law_under pass0 (ja_cons (je_call (ok_ratio T) (hr.mono (by decide)) (by rfl) T.g_ratio T.F_ratio.kp T.b_ratio pass0 (ja_cons (je_pr (ja_cons (je_var 1 rfl (.inl rfl) rfl) (ja_cons (je_add (je_var 2 rfl (.inl rfl) rfl) je_int) ja_nil))) (ja_cons (je_var 3 rfl (.inl rfl) rfl) (ja_cons (je_var 4 rfl (.inl rfl) rfl) ja_nil))) (by first | exact ⟨x, y, _, _, rfl, s1, s2, hl, (by omega), (by omega), rfl⟩ | exact ⟨x + 1, y, _, _, rfl, s1, s2, hl, (by omega), (by omega), rfl⟩ | exact ⟨x, y + 1, _, _, rfl, s1, s2, hl, (by omega), (by omega), rfl⟩)) (ja_cons (je_var 5 rfl (.inl rfl) rfl) ja_nil)) (⟨_, _, rfl, (by first | exact R0 | exact R1 | exact R2), (by first | exact R0 | exact R1 | exact R2), rfl⟩))))) (by rw [e1, e2]; exact rfl))
def sharesOf (b r : Int) : Int × Int × Int := (1 + r % (b - 2), 1 + r % (b - 2) + 1 + r / (b - 2) % (b - 1 - (1 + r % (b - 2))), b)
def lawShares (c : Int) : Int × Int × Int := if c % 2 = 1 then sharesOf (3 + c / 2 % 1000000000000) (c / 2 / 1000000000000 + c / 7) else sharesOf (3 + c / 2 % 12) (c / 24)
theorem sharesOf_ok {b r : Int} (h : 3 ≤ b) : 0 < (sharesOf b r).1 ∧ (sharesOf b r).1 < (sharesOf b r).2.1 ∧ (sharesOf b r).2.1 < (sharesOf b r).2.2 := by
  unfold sharesOf
  have h1 := Int.emod_nonneg r (show b - 2 ≠ 0 by omega)
  have h2 := Int.emod_lt_of_pos r (show 0 < b - 2 by omega)
  have h3 := Int.emod_nonneg (r / (b - 2)) (show b - 1 - (1 + r % (b - 2)) ≠ 0 by omega)
  have h4 := Int.emod_lt_of_pos (r / (b - 2)) (show 0 < b - 1 - (1 + r % (b - 2)) by omega)
  refine ⟨?_, ?_, ?_⟩ <;> dsimp only <;> omega
theorem lawShares_ok (c : Int) : 0 < (lawShares c).1 ∧ (lawShares c).1 < (lawShares c).2.1 ∧ (lawShares c).2.1 < (lawShares c).2.2 ∧ (lawShares c).2.2 ≤ 1000000000002 := by
  unfold lawShares
  split
  · obtain ⟨h1, h2, h3⟩ := sharesOf_ok (b := 3 + c / 2 % 1000000000000) (r := c / 2 / 1000000000000 + c / 7) (by omega)
    exact ⟨h1, h2, h3, by show 3 + c / 2 % 1000000000000 ≤ _; omega⟩
  · obtain ⟨h1, h2, h3⟩ := sharesOf_ok (b := 3 + c / 2 % 12) (r := c / 24) (by omega)
    exact ⟨h1, h2, h3, by show 3 + c / 2 % 12 ≤ _; omega⟩
abbrev F_lshares : FS := fun ds o => ∃ c : Int, ds = [.int c] ∧ o = .ok (t3 (lawShares c))
theorem sc__law_shares : FnScope ["_law_cell_here", "_law_bottom", "_law_rest", "_law_low", "_law_high"] ["_law_cell_here"] (defScope s__law_shares) := ⟨rfl, rfl, rfl, by decide +kernel, rfl, by decide +kernel, by decide +kernel⟩
set_option maxHeartbeats 4000000 in
theorem ok__law_shares (T : Glo K mg) : FnOk P w K mg base CX0 1 T.f__law_shares T.d__law_shares ["_law_cell_here"] (spF K F_lshares) := by
  refine fn_ok T.F__law_shares sc__law_shares (fun ds o h => ?_) (fun ds c h => ?_) (fun cdv A outer s H E hr B ds o h => ?_)
  · obtain ⟨c, rfl, rfl⟩ := h
    rfl
  · obtain ⟨c, rfl, ho⟩ := h
    cases ho
  · obtain ⟨c, rfl, rfl⟩ := h
    have m1 := Int.emod_nonneg (c / 2) (show (1000000000000 : Int) ≠ 0 by decide)
    have m2 := Int.emod_lt_of_pos (c / 2) (show (0 : Int) < 1000000000000 by decide)
    have m3 := Int.emod_nonneg (c / 24) (show 3 + c / 2 % 12 - 2 ≠ 0 by omega)
    have m4 := Int.emod_lt_of_pos (c / 24) (show 0 < 3 + c / 2 % 12 - 2 by omega)
    have m5 := Int.emod_nonneg (c / 2 / 1000000000000 + c / 7) (show 3 + c / 2 % 1000000000000 - 2 ≠ 0 by omega)
    have m6 := Int.emod_lt_of_pos (c / 2 / 1000000000000 + c / 7) (show 0 < 3 + c / 2 % 1000000000000 - 2 by omega)
    have nd := (sc__law_shares).nd
    refine jss_cons (fun s => s = _) (js_set 1 nd rfl (.inl rfl) (je_add je_int (je_mod (je_div (je_var 0 rfl (.inl rfl) rfl) je_int (by first | exact divK (by decide) (by decide) | exact divK (by decide) (by decide +kernel) | exact divN (n := 41) (by omega) (.of (by omega) (by omega)))) je_int (by first | decide | omega))) rfl) ?_
    rintro _ rfl
    refine jss_cons (fun s => s = _) (js_set 2 nd rfl (.inl rfl) (je_div (je_var 0 rfl (.inl rfl) rfl) je_int (by first | exact divK (by decide) (by decide) | exact divK (by decide) (by decide +kernel) | exact divN (n := 41) (by omega) (.of (by omega) (by omega)))) rfl) ?_
    rintro _ rfl
    refine jss_ifd (jt_eqI (je_mod (je_var 0 rfl (.inl rfl) rfl) je_int (by first | decide | omega)) je_int) (fun hi1 => ?_) (fun hi1 => ?_)
    · (try simp only [Bool.and_eq_true, Bool.or_eq_true, Bool.not_eq_true', Bool.not_eq_false', Bool.and_eq_false_imp, Bool.or_eq_false_iff, decide_eq_true_eq, decide_eq_false_iff_not, Bool.not_true, Bool.not_false, Bool.false_or, Bool.or_false, Bool.true_and, Bool.and_true] at hi1)
      refine jss_cons (fun s => s = _) (js_set 1 nd rfl (.inl rfl) (je_add je_int (je_mod (je_div (je_var 0 rfl (.inl rfl) rfl) je_int (by first | exact divK (by decide) (by decide) | exact divK (by decide) (by decide +kernel) | exact divN (n := 41) (by omega) (.of (by omega) (by omega)))) (je_powL (v := 1000000000000) je_int je_int ⟨by decide, by decide, by decide⟩ (by decide +kernel)) (by first | decide | omega))) rfl) ?_
      rintro _ rfl
      refine jss_cons (fun s => s = _) (js_set 2 nd rfl (.inl rfl) (je_add (je_div (je_div (je_var 0 rfl (.inl rfl) rfl) je_int (by first | exact divK (by decide) (by decide) | exact divK (by decide) (by decide +kernel) | exact divN (n := 41) (by omega) (.of (by omega) (by omega)))) (je_powL (v := 1000000000000) je_int je_int ⟨by decide, by decide, by decide⟩ (by decide +kernel)) (by first | exact divK (by decide) (by decide) | exact divK (by decide) (by decide +kernel) | exact divN (n := 41) (by omega) (.of (by omega) (by omega)))) (je_div (je_var 0 rfl (.inl rfl) rfl) je_int (by first | exact divK (by decide) (by decide) | exact divK (by decide) (by decide +kernel) | exact divN (n := 41) (by omega) (.of (by omega) (by omega))))) rfl) ?_
      rintro _ rfl
      refine jss_nil ?_
      refine jss_cons (fun s => s = _) (js_set 3 nd rfl (.inl rfl) (je_add je_int (je_mod (je_var 2 rfl (.inl rfl) rfl) (je_sub (je_var 1 rfl (.inl rfl) rfl) je_int) (by first | decide | omega))) rfl) ?_
      rintro _ rfl
      refine jss_cons (fun s => s = _) (js_set 4 nd rfl (.inl rfl) (je_add (je_add (je_var 3 rfl (.inl rfl) rfl) je_int) (je_mod (je_div (je_var 2 rfl (.inl rfl) rfl) (je_sub (je_var 1 rfl (.inl rfl) rfl) je_int) (by first | exact divK (by decide) (by decide) | exact divK (by decide) (by decide +kernel) | exact divN (n := 41) (by omega) (.of (by omega) (by omega)))) (je_sub (je_sub (je_var 1 rfl (.inl rfl) rfl) je_int) (je_var 3 rfl (.inl rfl) rfl)) (by first | decide | omega))) rfl) ?_
      rintro _ rfl
      exact jss_one (js_ret (m := true) (je_tup (ja_cons (je_var 3 rfl (.inl rfl) rfl) (ja_cons (je_var 4 rfl (.inl rfl) rfl) (ja_cons (je_var 1 rfl (.inl rfl) rfl) ja_nil)))) (by first | (unfold lawShares; rw [if_pos hi1]; exact rfl) | (unfold lawShares; rw [if_neg hi1]; exact rfl)))
    · (try simp only [Bool.and_eq_true, Bool.or_eq_true, Bool.not_eq_true', Bool.not_eq_false', Bool.and_eq_false_imp, Bool.or_eq_false_iff, decide_eq_true_eq, decide_eq_false_iff_not, Bool.not_true, Bool.not_false, Bool.false_or, Bool.or_false, Bool.true_and, Bool.and_true] at hi1)
      refine jss_nil ?_
      refine jss_cons (fun s => s = _) (js_set 3 nd rfl (.inl rfl) (je_add je_int (je_mod (je_var 2 rfl (.inl rfl) rfl) (je_sub (je_var 1 rfl (.inl rfl) rfl) je_int) (by first | decide | omega))) rfl) ?_
      rintro _ rfl
      refine jss_cons (fun s => s = _) (js_set 4 nd rfl (.inl rfl) (je_add (je_add (je_var 3 rfl (.inl rfl) rfl) je_int) (je_mod (je_div (je_var 2 rfl (.inl rfl) rfl) (je_sub (je_var 1 rfl (.inl rfl) rfl) je_int) (by first | exact divK (by decide) (by decide) | exact divK (by decide) (by decide +kernel) | exact divN (n := 41) (by omega) (.of (by omega) (by omega)))) (je_sub (je_sub (je_var 1 rfl (.inl rfl) rfl) je_int) (je_var 3 rfl (.inl rfl) rfl)) (by first | decide | omega))) rfl) ?_
      rintro _ rfl
      exact jss_one (js_ret (m := true) (je_tup (ja_cons (je_var 3 rfl (.inl rfl) rfl) (ja_cons (je_var 4 rfl (.inl rfl) rfl) (ja_cons (je_var 1 rfl (.inl rfl) rfl) ja_nil)))) (by first | (unfold lawShares; rw [if_pos hi1]; exact rfl) | (unfold lawShares; rw [if_neg hi1]; exact rfl)))
abbrev F_law : FS := fun ds o => ∃ ns : List Int, ds = [.fro (ns.map .int)] ∧ ns.length ≤ 63 ∧ o = .ok (.bl true)
theorem law_holds (ns : List Int) (h : ns.length ≤ 63) : F_law [.fro (ns.map .int)] (.ok (.bl true)) := ⟨ns, rfl, h, rfl⟩
theorem emod_in {a s : Int} (h : 0 < s) (h2 : s ≤ 60) : 0 ≤ a % s ∧ a % s < 60 := by
  have h1 := Int.emod_nonneg a (show s ≠ 0 by omega)
  have h2 := Int.emod_lt_of_pos a h
  omega
theorem sc_law : FnScope ["_law_script", "_law_k", "_law_cell_here", "_law_size"] ["_law_script"] (defScope s_law) := ⟨rfl, rfl, rfl, by decide +kernel, rfl, by decide +kernel, by decide +kernel⟩
set_option maxHeartbeats 4000000 in
theorem ok_law (T : Glo K mg) : FnOk P w K mg base CX0 8 T.f_law T.d_law ["_law_script"] (spF K F_law) := by
  refine fn_ok T.F_law sc_law (fun ds o h => ?_) (fun ds c h => ?_) (fun cdv A outer s H E hr B ds o h => ?_)
  · obtain ⟨ns, rfl, hl, rfl⟩ := h
    rfl
  · obtain ⟨ns, rfl, hl, ho⟩ := h
    cases ho
  · obtain ⟨ns, rfl, hl, rfl⟩ := h
    have nd := (sc_law).nd
    refine jss_cons (fun s => True) (js_for (vs := [1]) PassesOwn.never rfl (ji_rngT (ji_rng1 (by rfl) T.m_range (ja_cons (je_max2 rfl (by rfl) T.m_max (ja_cons je_int (ja_cons (je_min2 rfl (by rfl) T.m_min (ja_cons je_int (ja_cons (je_lenL (by rfl) T.m_len (ja_cons (je_var 0 rfl (.inl rfl) rfl) ja_nil) (.fro _)) ja_nil))) ja_nil))) ja_nil) (by first | decide | ((repeat' split) <;> omega)) (by first | decide | ((repeat' split) <;> omega)))) (fun i s => ∃ (u1 u2 u3 : Sl), s = [.va (.fro (ns.map .int)), u1, u2, u3]) (⟨_, _, _, rfl⟩) (fun it d s hd hi => ?_) (fun s hi => ?_)) ?_
    · obtain ⟨u1, u2, u3, rfl⟩ := hi
      obtain ⟨_, hz, rfl⟩ := map_get hd
      obtain ⟨rfl, hk⟩ := rngT_get0 hz
      refine ⟨_, (jg_name 1 nd rfl (.inl rfl)), ?_⟩
      refine jss_cons (fun s => s = _) (js_set 2 nd rfl (.inl rfl) (je_call (ok__law_cell T) (hr.mono (by decide)) (by rfl) T.g__law_cell T.F__law_cell.kp T.b__law_cell pass0 (ja_cons (je_var 0 rfl (.inl rfl) rfl) (ja_cons (je_add (je_var 1 rfl (.inl rfl) rfl) je_int) ja_nil)) (⟨_, _, rfl, (by first | assumption | decide | omega), rfl⟩)) rfl) ?_
      rintro _ rfl
      refine jss_cons (fun s => s = _) (js_set 3 nd rfl (.inl rfl) je_int rfl) ?_
      rintro _ rfl
      refine jss_ifsetI 3 nd rfl (.inl rfl) (jt_eqI (je_mod (je_var 2 rfl (.inl rfl) rfl) je_int (by first | decide | ((repeat' split) <;> decide))) je_int) (fun hi1 => je_int) rfl ?_
      refine jss_ifsetI 3 nd rfl (.inl rfl) (JW.jt (jw_and (jt_eqI (je_var 1 rfl (.inl rfl) rfl) je_int) (fun h1 => (jw_and1 (jt_eqI (je_mod (je_var 2 rfl (.inl rfl) rfl) je_int (by first | decide | ((repeat' split) <;> decide))) je_int))))) (fun hi2 => je_int) rfl ?_
      refine jss_ifr (jt_not (jt_val (je_call (ok__law_asked T) (hr.mono (by decide)) (by rfl) T.g__law_asked T.F__law_asked.kp T.b__law_asked pass0 (ja_cons (je_call (ok__law_shares T) (hr.mono (by decide)) (by rfl) T.g__law_shares T.F__law_shares.kp T.b__law_shares pass0 (ja_cons (je_call (ok__law_cell T) (hr.mono (by decide)) (by rfl) T.g__law_cell T.F__law_cell.kp T.b__law_cell pass0 (ja_cons (je_var 0 rfl (.inl rfl) rfl) (ja_cons (je_var 1 rfl (.inl rfl) rfl) ja_nil)) (⟨_, _, rfl, (by first | assumption | decide | omega), rfl⟩)) ja_nil) (⟨_, rfl, rfl⟩)) (ja_cons (je_mod (je_div (je_var 2 rfl (.inl rfl) rfl) je_int (by first | exact divK (by decide) (by decide) | exact divK (by decide) (by decide +kernel) | ((repeat' split) <;> exact divK (by decide) (by decide +kernel)))) (je_var 3 rfl (.inl rfl) rfl) (by first | decide | ((repeat' split) <;> decide))) (ja_cons (je_mod (je_div (je_div (je_var 2 rfl (.inl rfl) rfl) je_int (by first | exact divK (by decide) (by decide) | exact divK (by decide) (by decide +kernel) | ((repeat' split) <;> exact divK (by decide) (by decide +kernel)))) (je_var 3 rfl (.inl rfl) rfl) (by first | exact divK (by decide) (by decide) | exact divK (by decide) (by decide +kernel) | ((repeat' split) <;> exact divK (by decide) (by decide +kernel)))) (je_var 3 rfl (.inl rfl) rfl) (by first | decide | ((repeat' split) <;> decide))) ja_nil))) (⟨_, _, _, _, _, rfl, (lawShares_ok _).1, (lawShares_ok _).2.1, (lawShares_ok _).2.2.1, (lawShares_ok _).2.2.2, (by refine emod_in ?_ ?_ <;> (repeat' split) <;> decide), (by refine emod_in ?_ ?_ <;> (repeat' split) <;> decide), rfl⟩)))) (fun hi3 => ?_) (fun hi3 => ?_)
      · first | exact absurd hi3 Bool.false_ne_true | exact absurd hi3 (by decide) | (exfalso; simp at hi3; done) | (exfalso; simp at hi3; omega)
      · (try simp only [Bool.and_eq_true, Bool.or_eq_true, Bool.not_eq_true', Bool.not_eq_false', Bool.and_eq_false_imp, Bool.or_eq_false_iff, decide_eq_true_eq, decide_eq_false_iff_not, Bool.not_true, Bool.not_false, Bool.false_or, Bool.or_false, Bool.true_and, Bool.and_true] at hi3)
        exact jss_nil ⟨_, _, _, rfl⟩
    · trivial
    intro _ _
    exact jss_one (js_ret (m := true) je_bl (by first | exact rfl | assumption))
end
end PD
namespace PD
open PySem PySem.Spec PyProof.Rows L2
theorem all_mk {l : PySem.W.OpenLaw} {w : World} {K : PySem.W.Frag} {h : Heap} {mg : Str → Option Value} {fa : Addr} (X : K.In h) (G : h.Ns mainGlobals mg) (hfa : mg "law" = some (.ref fa))
    {f0 : Addr} {od0 an0 : Option Addr} {sl0 : Array (Option Value)} {oc0 kV0 dc0 pm0 cd0 ct0 : Value}
    (a0 : PySem.W.nsIn K mainGlobals "_law_cell" = some (some (.ref f0))) (l0 : K.lookup f0 = some ⟨oc0, od0, .func (PySem.W.fnOf "_law_cell" "_law_cell" (defArgs s__law_cell) (defBody s__law_cell) (defScope s__law_cell) .none kV0 dc0 pm0 an0 cd0 ct0), sl0⟩) (c0 : PySem.W.codeIn K cd0 "_law_cell" = true) (k0 : PySem.W.keepIn K (.ref f0) = true)
    {f1 : Addr} {od1 an1 : Option Addr} {sl1 : Array (Option Value)} {oc1 kV1 dc1 pm1 cd1 ct1 : Value}
    (a1 : PySem.W.nsIn K mainGlobals "_law_divisor" = some (some (.ref f1))) (l1 : K.lookup f1 = some ⟨oc1, od1, .func (PySem.W.fnOf "_law_divisor" "_law_divisor" (defArgs s__law_divisor) (defBody s__law_divisor) (defScope s__law_divisor) .none kV1 dc1 pm1 an1 cd1 ct1), sl1⟩) (c1 : PySem.W.codeIn K cd1 "_law_divisor" = true) (k1 : PySem.W.keepIn K (.ref f1) = true)
    {f2 : Addr} {od2 an2 : Option Addr} {sl2 : Array (Option Value)} {oc2 kV2 dc2 pm2 cd2 ct2 : Value}
    (a2 : PySem.W.nsIn K mainGlobals "_law_made" = some (some (.ref f2))) (l2 : K.lookup f2 = some ⟨oc2, od2, .func (PySem.W.fnOf "_law_made" "_law_made" (defArgs s__law_made) (defBody s__law_made) (defScope s__law_made) .none kV2 dc2 pm2 an2 cd2 ct2), sl2⟩) (c2 : PySem.W.codeIn K cd2 "_law_made" = true) (k2 : PySem.W.keepIn K (.ref f2) = true)
    {f3 : Addr} {od3 an3 : Option Addr} {sl3 : Array (Option Value)} {oc3 kV3 dc3 pm3 cd3 ct3 : Value}
    (a3 : PySem.W.nsIn K mainGlobals "under" = some (some (.ref f3))) (l3 : K.lookup f3 = some ⟨oc3, od3, .func (PySem.W.fnOf "under" "under" (defArgs s_under) (defBody s_under) (defScope s_under) .none kV3 dc3 pm3 an3 cd3 ct3), sl3⟩) (c3 : PySem.W.codeIn K cd3 "under" = true) (k3 : PySem.W.keepIn K (.ref f3) = true)
    {f4 : Addr} {od4 an4 : Option Addr} {sl4 : Array (Option Value)} {oc4 kV4 dc4 pm4 cd4 ct4 : Value}
    (a4 : PySem.W.nsIn K mainGlobals "check_shares" = some (some (.ref f4))) (l4 : K.lookup f4 = some ⟨oc4, od4, .func (PySem.W.fnOf "check_shares" "check_shares" (defArgs s_check_shares) (defBody s_check_shares) (defScope s_check_shares) .none kV4 dc4 pm4 an4 cd4 ct4), sl4⟩) (c4 : PySem.W.codeIn K cd4 "check_shares" = true) (k4 : PySem.W.keepIn K (.ref f4) = true)
    {f5 : Addr} {od5 an5 : Option Addr} {sl5 : Array (Option Value)} {oc5 kV5 dc5 pm5 cd5 ct5 : Value}
    (a5 : PySem.W.nsIn K mainGlobals "divisor" = some (some (.ref f5))) (l5 : K.lookup f5 = some ⟨oc5, od5, .func (PySem.W.fnOf "divisor" "divisor" (defArgs s_divisor) (defBody s_divisor) (defScope s_divisor) .none kV5 dc5 pm5 an5 cd5 ct5), sl5⟩) (c5 : PySem.W.codeIn K cd5 "divisor" = true) (k5 : PySem.W.keepIn K (.ref f5) = true)
    {f6 : Addr} {od6 an6 : Option Addr} {sl6 : Array (Option Value)} {oc6 kV6 dc6 pm6 cd6 ct6 : Value}
    (a6 : PySem.W.nsIn K mainGlobals "frac" = some (some (.ref f6))) (l6 : K.lookup f6 = some ⟨oc6, od6, .func (PySem.W.fnOf "frac" "frac" (defArgs s_frac) (defBody s_frac) (defScope s_frac) .none kV6 dc6 pm6 an6 cd6 ct6), sl6⟩) (c6 : PySem.W.codeIn K cd6 "frac" = true) (k6 : PySem.W.keepIn K (.ref f6) = true)
    {f7 : Addr} {od7 an7 : Option Addr} {sl7 : Array (Option Value)} {oc7 kV7 dc7 pm7 cd7 ct7 : Value}
    (a7 : PySem.W.nsIn K mainGlobals "over" = some (some (.ref f7))) (l7 : K.lookup f7 = some ⟨oc7, od7, .func (PySem.W.fnOf "over" "over" (defArgs s_over) (defBody s_over) (defScope s_over) .none kV7 dc7 pm7 an7 cd7 ct7), sl7⟩) (c7 : PySem.W.codeIn K cd7 "over" = true) (k7 : PySem.W.keepIn K (.ref f7) = true)
    {f8 : Addr} {od8 an8 : Option Addr} {sl8 : Array (Option Value)} {oc8 kV8 dc8 pm8 cd8 ct8 : Value}
    (a8 : PySem.W.nsIn K mainGlobals "times" = some (some (.ref f8))) (l8 : K.lookup f8 = some ⟨oc8, od8, .func (PySem.W.fnOf "times" "times" (defArgs s_times) (defBody s_times) (defScope s_times) .none kV8 dc8 pm8 an8 cd8 ct8), sl8⟩) (c8 : PySem.W.codeIn K cd8 "times" = true) (k8 : PySem.W.keepIn K (.ref f8) = true)
    {f9 : Addr} {od9 an9 : Option Addr} {sl9 : Array (Option Value)} {oc9 kV9 dc9 pm9 cd9 ct9 : Value}
    (a9 : PySem.W.nsIn K mainGlobals "power" = some (some (.ref f9))) (l9 : K.lookup f9 = some ⟨oc9, od9, .func (PySem.W.fnOf "power" "power" (defArgs s_power) (defBody s_power) (defScope s_power) .none kV9 dc9 pm9 an9 cd9 ct9), sl9⟩) (c9 : PySem.W.codeIn K cd9 "power" = true) (k9 : PySem.W.keepIn K (.ref f9) = true)
    {f10 : Addr} {od10 an10 : Option Addr} {sl10 : Array (Option Value)} {oc10 kV10 dc10 pm10 cd10 ct10 : Value}
    (a10 : PySem.W.nsIn K mainGlobals "minus" = some (some (.ref f10))) (l10 : K.lookup f10 = some ⟨oc10, od10, .func (PySem.W.fnOf "minus" "minus" (defArgs s_minus) (defBody s_minus) (defScope s_minus) .none kV10 dc10 pm10 an10 cd10 ct10), sl10⟩) (c10 : PySem.W.codeIn K cd10 "minus" = true) (k10 : PySem.W.keepIn K (.ref f10) = true)
    {f11 : Addr} {od11 an11 : Option Addr} {sl11 : Array (Option Value)} {oc11 kV11 dc11 pm11 cd11 ct11 : Value}
    (a11 : PySem.W.nsIn K mainGlobals "weight_at" = some (some (.ref f11))) (l11 : K.lookup f11 = some ⟨oc11, od11, .func (PySem.W.fnOf "weight_at" "weight_at" (defArgs s_weight_at) (defBody s_weight_at) (defScope s_weight_at) .none kV11 dc11 pm11 an11 cd11 ct11), sl11⟩) (c11 : PySem.W.codeIn K cd11 "weight_at" = true) (k11 : PySem.W.keepIn K (.ref f11) = true)
    {f12 : Addr} {od12 an12 : Option Addr} {sl12 : Array (Option Value)} {oc12 kV12 dc12 pm12 cd12 ct12 : Value}
    (a12 : PySem.W.nsIn K mainGlobals "ratio" = some (some (.ref f12))) (l12 : K.lookup f12 = some ⟨oc12, od12, .func (PySem.W.fnOf "ratio" "ratio" (defArgs s_ratio) (defBody s_ratio) (defScope s_ratio) .none kV12 dc12 pm12 an12 cd12 ct12), sl12⟩) (c12 : PySem.W.codeIn K cd12 "ratio" = true) (k12 : PySem.W.keepIn K (.ref f12) = true)
    {f13 : Addr} {od13 an13 : Option Addr} {sl13 : Array (Option Value)} {oc13 kV13 dc13 pm13 cd13 ct13 : Value}
    (a13 : PySem.W.nsIn K mainGlobals "_law_times" = some (some (.ref f13))) (l13 : K.lookup f13 = some ⟨oc13, od13, .func (PySem.W.fnOf "_law_times" "_law_times" (defArgs s__law_times) (defBody s__law_times) (defScope s__law_times) .none kV13 dc13 pm13 an13 cd13 ct13), sl13⟩) (c13 : PySem.W.codeIn K cd13 "_law_times" = true) (k13 : PySem.W.keepIn K (.ref f13) = true)
    {f14 : Addr} {od14 an14 : Option Addr} {sl14 : Array (Option Value)} {oc14 kV14 dc14 pm14 cd14 ct14 : Value}
    (a14 : PySem.W.nsIn K mainGlobals "_law_weight" = some (some (.ref f14))) (l14 : K.lookup f14 = some ⟨oc14, od14, .func (PySem.W.fnOf "_law_weight" "_law_weight" (defArgs s__law_weight) (defBody s__law_weight) (defScope s__law_weight) .none kV14 dc14 pm14 an14 cd14 ct14), sl14⟩) (c14 : PySem.W.codeIn K cd14 "_law_weight" = true) (k14 : PySem.W.keepIn K (.ref f14) = true)
    {f15 : Addr} {od15 an15 : Option Addr} {sl15 : Array (Option Value)} {oc15 kV15 dc15 pm15 cd15 ct15 : Value}
    (a15 : PySem.W.nsIn K mainGlobals "_law_whole" = some (some (.ref f15))) (l15 : K.lookup f15 = some ⟨oc15, od15, .func (PySem.W.fnOf "_law_whole" "_law_whole" (defArgs s__law_whole) (defBody s__law_whole) (defScope s__law_whole) .none kV15 dc15 pm15 an15 cd15 ct15), sl15⟩) (c15 : PySem.W.codeIn K cd15 "_law_whole" = true) (k15 : PySem.W.keepIn K (.ref f15) = true)
    {f16 : Addr} {od16 an16 : Option Addr} {sl16 : Array (Option Value)} {oc16 kV16 dc16 pm16 cd16 ct16 : Value}
    (a16 : PySem.W.nsIn K mainGlobals "_law_is_frac" = some (some (.ref f16))) (l16 : K.lookup f16 = some ⟨oc16, od16, .func (PySem.W.fnOf "_law_is_frac" "_law_is_frac" (defArgs s__law_is_frac) (defBody s__law_is_frac) (defScope s__law_is_frac) .none kV16 dc16 pm16 an16 cd16 ct16), sl16⟩) (c16 : PySem.W.codeIn K cd16 "_law_is_frac" = true) (k16 : PySem.W.keepIn K (.ref f16) = true)
    {f17 : Addr} {od17 an17 : Option Addr} {sl17 : Array (Option Value)} {oc17 kV17 dc17 pm17 cd17 ct17 : Value}
    (a17 : PySem.W.nsIn K mainGlobals "_law_under" = some (some (.ref f17))) (l17 : K.lookup f17 = some ⟨oc17, od17, .func (PySem.W.fnOf "_law_under" "_law_under" (defArgs s__law_under) (defBody s__law_under) (defScope s__law_under) .none kV17 dc17 pm17 an17 cd17 ct17), sl17⟩) (c17 : PySem.W.codeIn K cd17 "_law_under" = true) (k17 : PySem.W.keepIn K (.ref f17) = true)
    {f18 : Addr} {od18 an18 : Option Addr} {sl18 : Array (Option Value)} {oc18 kV18 dc18 pm18 cd18 ct18 : Value}
    (a18 : PySem.W.nsIn K mainGlobals "_law_asked" = some (some (.ref f18))) (l18 : K.lookup f18 = some ⟨oc18, od18, .func (PySem.W.fnOf "_law_asked" "_law_asked" (defArgs s__law_asked) (defBody s__law_asked) (defScope s__law_asked) .none kV18 dc18 pm18 an18 cd18 ct18), sl18⟩) (c18 : PySem.W.codeIn K cd18 "_law_asked" = true) (k18 : PySem.W.keepIn K (.ref f18) = true)
    {f19 : Addr} {od19 an19 : Option Addr} {sl19 : Array (Option Value)} {oc19 kV19 dc19 pm19 cd19 ct19 : Value}
    (a19 : PySem.W.nsIn K mainGlobals "_law_shares" = some (some (.ref f19))) (l19 : K.lookup f19 = some ⟨oc19, od19, .func (PySem.W.fnOf "_law_shares" "_law_shares" (defArgs s__law_shares) (defBody s__law_shares) (defScope s__law_shares) .none kV19 dc19 pm19 an19 cd19 ct19), sl19⟩) (c19 : PySem.W.codeIn K cd19 "_law_shares" = true) (k19 : PySem.W.keepIn K (.ref f19) = true)
    {f20 : Addr} {od20 an20 : Option Addr} {sl20 : Array (Option Value)} {oc20 kV20 dc20 pm20 cd20 ct20 : Value}
    (a20 : PySem.W.nsIn K mainGlobals "law" = some (some (.ref f20))) (l20 : K.lookup f20 = some ⟨oc20, od20, .func (PySem.W.fnOf "law" "law" (defArgs s_law) (defBody s_law) (defScope s_law) .none kV20 dc20 pm20 an20 cd20 ct20), sl20⟩) (c20 : PySem.W.codeIn K cd20 "law" = true) (k20 : PySem.W.keepIn K (.ref f20) = true)
    (z0 : PySem.W.nsIn K mainGlobals "len" = some none)
    (z1 : PySem.W.nsIn K mainGlobals "abs" = some none)
    (z2 : PySem.W.nsIn K mainGlobals "range" = some none)
    (z3 : PySem.W.nsIn K mainGlobals "isinstance" = some none)
    (z4 : PySem.W.nsIn K mainGlobals "int" = some none)
    (z5 : PySem.W.nsIn K mainGlobals "bool" = some none)
    (z6 : PySem.W.nsIn K mainGlobals "tuple" = some none)
    (z7 : PySem.W.nsIn K mainGlobals "max" = some none)
    (z8 : PySem.W.nsIn K mainGlobals "min" = some none) :
    ∃ fd : FuncData, (∀ (s : Shared) (v : Value), BindsTo s fd ⟨[v], []⟩ [("_law_script", v)]) ∧ ∀ base : Heap, K.In base → base.Ns mainGlobals mg → FnOk l.prog w K mg base CX0 8 fa fd ["_law_script"] (spF K F_law) := by
  have e := hfa.symm.trans (PySem.W.mg_of X G a20)
  cases e
  have F0 := fun_mk (st := s__law_cell) l0 c0 k0
  have b0 := F0.binds (ps := ["_law_script", "_law_k"]) fun _ _ _ _ _ _ us hl => match us, hl with | [_, _], _ => rfl
  have F1 := fun_mk (st := s__law_divisor) l1 c1 k1
  have b1 := F1.binds (ps := ["_law_one", "_law_other"]) fun _ _ _ _ _ _ us hl => match us, hl with | [_, _], _ => rfl
  have F2 := fun_mk (st := s__law_made) l2 c2 k2
  have b2 := F2.binds (ps := ["_law_top", "_law_bottom"]) fun _ _ _ _ _ _ us hl => match us, hl with | [_, _], _ => rfl
  have F3 := fun_mk (st := s_under) l3 c3 k3
  have b3 := F3.binds (ps := ["one", "other"]) fun _ _ _ _ _ _ us hl => match us, hl with | [_, _], _ => rfl
  have F4 := fun_mk (st := s_check_shares) l4 c4 k4
  have b4 := F4.binds (ps := ["low", "high"]) fun _ _ _ _ _ _ us hl => match us, hl with | [_, _], _ => rfl
  have F5 := fun_mk (st := s_divisor) l5 c5 k5
  have b5 := F5.binds (ps := ["one", "other"]) fun _ _ _ _ _ _ us hl => match us, hl with | [_, _], _ => rfl
  have F6 := fun_mk (st := s_frac) l6 c6 k6
  have b6 := F6.binds (ps := ["top", "bottom"]) fun _ _ _ _ _ _ us hl => match us, hl with | [_, _], _ => rfl
  have F7 := fun_mk (st := s_over) l7 c7 k7
  have b7 := F7.binds (ps := ["one", "other"]) fun _ _ _ _ _ _ us hl => match us, hl with | [_, _], _ => rfl
  have F8 := fun_mk (st := s_times) l8 c8 k8
  have b8 := F8.binds (ps := ["one", "other"]) fun _ _ _ _ _ _ us hl => match us, hl with | [_, _], _ => rfl
  have F9 := fun_mk (st := s_power) l9 c9 k9
  have b9 := F9.binds (ps := ["one", "many"]) fun _ _ _ _ _ _ us hl => match us, hl with | [_, _], _ => rfl
  have F10 := fun_mk (st := s_minus) l10 c10 k10
  have b10 := F10.binds (ps := ["one", "other"]) fun _ _ _ _ _ _ us hl => match us, hl with | [_, _], _ => rfl
  have F11 := fun_mk (st := s_weight_at) l11 c11 k11
  have b11 := F11.binds (ps := ["count", "share"]) fun _ _ _ _ _ _ us hl => match us, hl with | [_, _], _ => rfl
  have F12 := fun_mk (st := s_ratio) l12 c12 k12
  have b12 := F12.binds (ps := ["count", "low", "high"]) fun _ _ _ _ _ _ us hl => match us, hl with | [_, _, _], _ => rfl
  have F13 := fun_mk (st := s__law_times) l13 c13 k13
  have b13 := F13.binds (ps := ["_law_base", "_law_many"]) fun _ _ _ _ _ _ us hl => match us, hl with | [_, _], _ => rfl
  have F14 := fun_mk (st := s__law_weight) l14 c14 k14
  have b14 := F14.binds (ps := ["_law_count", "_law_top", "_law_bottom"]) fun _ _ _ _ _ _ us hl => match us, hl with | [_, _, _], _ => rfl
  have F15 := fun_mk (st := s__law_whole) l15 c15 k15
  have b15 := F15.binds (ps := ["_law_found"]) fun _ _ _ _ _ _ us hl => match us, hl with | [_], _ => rfl
  have F16 := fun_mk (st := s__law_is_frac) l16 c16 k16
  have b16 := F16.binds (ps := ["_law_found", "_law_top", "_law_bottom"]) fun _ _ _ _ _ _ us hl => match us, hl with | [_, _, _], _ => rfl
  have F17 := fun_mk (st := s__law_under) l17 c17 k17
  have b17 := F17.binds (ps := ["_law_one", "_law_other"]) fun _ _ _ _ _ _ us hl => match us, hl with | [_, _], _ => rfl
  have F18 := fun_mk (st := s__law_asked) l18 c18 k18
  have b18 := F18.binds (ps := ["_law_both", "_law_bad", "_law_good"]) fun _ _ _ _ _ _ us hl => match us, hl with | [_, _, _], _ => rfl
  have F19 := fun_mk (st := s__law_shares) l19 c19 k19
  have b19 := F19.binds (ps := ["_law_cell_here"]) fun _ _ _ _ _ _ us hl => match us, hl with | [_], _ => rfl
  have F20 := fun_mk (st := s_law) l20 c20 k20
  have b20 := F20.binds (ps := ["_law_script"]) fun _ _ _ _ _ _ us hl => match us, hl with | [_], _ => rfl
  exact ⟨_, fun s v => .of_eq rfl, fun base _ _ => ok_law (⟨f0, _, F0, PySem.W.mg_of X G a0, b0,
    f1, _, F1, PySem.W.mg_of X G a1, b1,
    f2, _, F2, PySem.W.mg_of X G a2, b2,
    f3, _, F3, PySem.W.mg_of X G a3, b3,
    f4, _, F4, PySem.W.mg_of X G a4, b4,
    f5, _, F5, PySem.W.mg_of X G a5, b5,
    f6, _, F6, PySem.W.mg_of X G a6, b6,
    f7, _, F7, PySem.W.mg_of X G a7, b7,
    f8, _, F8, PySem.W.mg_of X G a8, b8,
    f9, _, F9, PySem.W.mg_of X G a9, b9,
    f10, _, F10, PySem.W.mg_of X G a10, b10,
    f11, _, F11, PySem.W.mg_of X G a11, b11,
    f12, _, F12, PySem.W.mg_of X G a12, b12,
    f13, _, F13, PySem.W.mg_of X G a13, b13,
    f14, _, F14, PySem.W.mg_of X G a14, b14,
    f15, _, F15, PySem.W.mg_of X G a15, b15,
    f16, _, F16, PySem.W.mg_of X G a16, b16,
    f17, _, F17, PySem.W.mg_of X G a17, b17,
    f18, _, F18, PySem.W.mg_of X G a18, b18,
    f19, _, F19, PySem.W.mg_of X G a19, b19,
    fa, _, F20, PySem.W.mg_of X G a20, b20,
    PySem.W.mg_none_of X G z0,
    PySem.W.mg_none_of X G z1,
    PySem.W.mg_none_of X G z2,
    PySem.W.mg_none_of X G z3,
    PySem.W.mg_none_of X G z4,
    PySem.W.mg_none_of X G z5,
    PySem.W.mg_none_of X G z6,
    PySem.W.mg_none_of X G z7,
    PySem.W.mg_none_of X G z8⟩ : Glo K mg)⟩
end PD
open PySem PySem.W PyProof.Rows
set_option maxHeartbeats 0 in
theorem PySem.Challenge.cw_lotdraw_k46_ratios_holds : PySem.Challenge.rw_lotdraw_k46_ratios.Holds := by
  w_on; o_law; k_head; (case hw => w_witness2)
  k_fill
  refine L2.walk_ofK (l := PySem.Challenge.rw_lotdraw_k46_ratios) (n := 63) (k := 8) (x := "_law_script") (CX := L2.CX0) (sp := fun K => PD.spF K PD.F_law) rfl (by decide) rfl ⟨rfl, by decide, by decide⟩ (fun w h Y => PySem.W.kIn_of Y) ?F (PD.law_end PD.law_holds) (fun _ _ _ _ h => h)
  case F =>
    intro w mg fa h KX G hmg
    refine' PD.all_mk KX G hmg ?a0 ?l0 ?c0 ?k0 ?a1 ?l1 ?c1 ?k1 ?a2 ?l2 ?c2 ?k2 ?a3 ?l3 ?c3 ?k3 ?a4 ?l4 ?c4 ?k4 ?a5 ?l5 ?c5 ?k5 ?a6 ?l6 ?c6 ?k6 ?a7 ?l7 ?c7 ?k7 ?a8 ?l8 ?c8 ?k8 ?a9 ?l9 ?c9 ?k9 ?a10 ?l10 ?c10 ?k10 ?a11 ?l11 ?c11 ?k11 ?a12 ?l12 ?c12 ?k12 ?a13 ?l13 ?c13 ?k13 ?a14 ?l14 ?c14 ?k14 ?a15 ?l15 ?c15 ?k15 ?a16 ?l16 ?c16 ?k16 ?a17 ?l17 ?c17 ?k17 ?a18 ?l18 ?c18 ?k18 ?a19 ?l19 ?c19 ?k19 ?a20 ?l20 ?c20 ?k20 ?z0 ?z1 ?z2 ?z3 ?z4 ?z5 ?z6 ?z7 ?z8
    (case a0 => k_is); (case l0 => k_is); (case c0 => k_is); (case k0 => k_is); (case a1 => k_is); (case l1 => k_is); (case c1 => k_is); (case k1 => k_is); (case a2 => k_is); (case l2 => k_is); (case c2 => k_is); (case k2 => k_is); (case a3 => k_is); (case l3 => k_is); (case c3 => k_is); (case k3 => k_is); (case a4 => k_is); (case l4 => k_is); (case c4 => k_is); (case k4 => k_is); (case a5 => k_is); (case l5 => k_is); (case c5 => k_is); (case k5 => k_is); (case a6 => k_is); (case l6 => k_is); (case c6 => k_is); (case k6 => k_is); (case a7 => k_is); (case l7 => k_is); (case c7 => k_is); (case k7 => k_is); (case a8 => k_is); (case l8 => k_is); (case c8 => k_is); (case k8 => k_is); (case a9 => k_is); (case l9 => k_is); (case c9 => k_is); (case k9 => k_is); (case a10 => k_is); (case l10 => k_is); (case c10 => k_is); (case k10 => k_is); (case a11 => k_is); (case l11 => k_is); (case c11 => k_is); (case k11 => k_is); (case a12 => k_is); (case l12 => k_is); (case c12 => k_is); (case k12 => k_is); (case a13 => k_is); (case l13 => k_is); (case c13 => k_is); (case k13 => k_is); (case a14 => k_is); (case l14 => k_is); (case c14 => k_is); (case k14 => k_is); (case a15 => k_is); (case l15 => k_is); (case c15 => k_is); (case k15 => k_is); (case a16 => k_is); (case l16 => k_is); (case c16 => k_is); (case k16 => k_is); (case a17 => k_is); (case l17 => k_is); (case c17 => k_is); (case k17 => k_is); (case a18 => k_is); (case l18 => k_is); (case c18 => k_is); (case k18 => k_is); (case a19 => k_is); (case l19 => k_is); (case c19 => k_is); (case k19 => k_is); (case a20 => k_is); (case l20 => k_is); (case c20 => k_is); (case k20 => k_is); (case z0 => k_is); (case z1 => k_is); (case z2 => k_is); (case z3 => k_is); (case z4 => k_is); (case z5 => k_is); (case z6 => k_is); (case z7 => k_is); (case z8 => k_is)
