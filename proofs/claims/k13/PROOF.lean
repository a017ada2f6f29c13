import PyProof.Rows.All
import Wide.All
import OpenK.AllK
import Wide.FinOn
import HandS.ForMost
import HandS.Exc
import HandS.Evl
import HandS.Deep
import HandS.IsInst
import HandS.ForExc
import HandS.Defaults
import HandS.Walk
import HandS.Property
import HandS.TryMany
import HandS.ExcInit
import HandS.ExcField
import HandS.Iter
import PyProof.LongRange
import KE.GoesMore
import PyProof.EnumFor
import HandS.DictComp
import HandS.Strs
import PyProof.InstSpecial
import PyProof.InstNe
import OpenK.KMeth
import OpenK.KOps
import HandS.ExcOwn
import PyProof.ExcBaseAll.ValueError
import HandS.Style
import HandS.ClsMeth
import HandS.CallSlots
import HandS.Star
import PySem.Challenge.RW_chairstack_k13_against_and_admits
set_option Elab.async false
set_option linter.all false
set_option maxRecDepth 100000
set_option maxHeartbeats 4000000
namespace Cs
open PySem L2 Evl

/-! ## data -/
inductive Fl where
  | fr | ow | bo | ro
  deriving DecidableEq

inductive D where
  | non
  | bl (b : Bool)
  | int (i : Int)
  | str (s : Str)
  | cls (c : Str)
  | tup (xs : List D)
  | lst (o : Fl) (xs : List D)
  | dct (o : Fl) (ks : List Str) (vs : List D)
  | obj (o : Fl) (c : Str) (ks : List Str) (vs : List D)

mutual
def mapF (g : Fl → Fl) : D → D
  | .non => .non
  | .bl b => .bl b
  | .int i => .int i
  | .str s => .str s
  | .cls c => .cls c
  | .tup xs => .tup (mapFs g xs)
  | .lst o xs => .lst (g o) (mapFs g xs)
  | .dct o ks vs => .dct (g o) ks (mapFs g vs)
  | .obj o c ks vs => .obj (g o) c ks (mapFs g vs)
def mapFs (g : Fl → Fl) : List D → List D
  | [] => []
  | d :: ds => mapF g d :: mapFs g ds
end
mutual
def allF (p : Fl → Bool) : D → Bool
  | .non => true
  | .bl _ => true
  | .int _ => true
  | .str _ => true
  | .cls _ => true
  | .tup xs => allFs p xs
  | .lst o xs => p o && allFs p xs
  | .dct o _ vs => p o && allFs p vs
  | .obj o _ _ vs => p o && allFs p vs
def allFs (p : Fl → Bool) : List D → Bool
  | [] => true
  | d :: ds => allF p d && allFs p ds
end
theorem allF_lst {p : Fl → Bool} {o : Fl} {xs : List D} (h : allF p (.lst o xs) = true) : p o = true ∧ allFs p xs = true := by
  rw [allF] at h
  exact Bool.and_eq_true_iff.mp h
theorem allF_dct {p : Fl → Bool} {o : Fl} {ks : List Str} {xs : List D} (h : allF p (.dct o ks xs) = true) : p o = true ∧ allFs p xs = true := by
  rw [allF] at h
  exact Bool.and_eq_true_iff.mp h
theorem allF_obj {p : Fl → Bool} {o : Fl} {c : Str} {ks : List Str} {xs : List D} (h : allF p (.obj o c ks xs) = true) : p o = true ∧ allFs p xs = true := by
  rw [allF] at h
  exact Bool.and_eq_true_iff.mp h
theorem allF_tup {p : Fl → Bool} {xs : List D} (h : allF p (.tup xs) = true) : allFs p xs = true := by
  rw [allF] at h
  exact h
theorem allFs_cons {p : Fl → Bool} {x : D} {xs : List D} (h : allFs p (x :: xs) = true) : allF p x = true ∧ allFs p xs = true := by
  rw [allFs] at h
  exact Bool.and_eq_true_iff.mp h
def flFrz : Fl → Fl
  | .ow => .fr
  | o => o
def flLend : Fl → Fl
  | .ow => .bo
  | o => o
def isFr : Fl → Bool
  | .fr => true
  | _ => false
def noOw : Fl → Bool
  | .ow => false
  | _ => true
def noBo : Fl → Bool
  | .bo => false
  | _ => true
abbrev frz (d : D) : D := mapF flFrz d
abbrev lend (d : D) : D := mapF flLend d

/-! ## data in the heap -/
/-- a tuple whose object is known to have no dict -/
def StT (K : PySem.W.Frag) (H : Hp) (a : Addr) (vs : List V) : Prop :=
  (∃ o : Obj, H a = some (.frz o (.tup vs)) ∧ o.dict = none) ∨
    ∃ (o : Obj) (its : Array Value) (n : Nat), K.lookup a = some o ∧ o.cls = .type "tuple" ∧ o.data = .seq its n ∧ its.size ≤ sizeLine ∧ Vals vs its.toList ∧ o.dict = none
theorem StT.mono {K : PySem.W.Frag} {H H' : Hp} {a : Addr} {vs : List V} (e : Ex H H') (h : StT K H a vs) : StT K H' a vs := by
  rcases h with ⟨o, h, d⟩ | h
  · exact .inl ⟨o, e _ _ h, d⟩
  · exact .inr h
theorem StT.sq {K : PySem.W.Frag} {H : Hp} {a : Addr} {vs : List V} (h : StT K H a vs) : SqT K H a vs := by
  rcases h with ⟨o, h, _⟩ | ⟨o, its, n, h1, h2, h3, h4, h5, _⟩
  · exact .inl (.inr ⟨o, h⟩)
  · exact .inr ⟨o, its, n, h1, h2, h3, h4, h5⟩
structure Tx where
  K : PySem.W.Frag
  C : Str → Option Addr
  P : Hp
  X : Option Addr

mutual
inductive Rep (T : Tx) (B H F : Hp) : D → V → List Addr → Prop
  | non : Rep T B H F .non .non []
  | bl (b : Bool) : Rep T B H F (.bl b) (.bl b) []
  | int (i : Int) : Rep T B H F (.int i) (.int i) []
  | str (s : Str) (hs : PyData.strOk s = true) : Rep T B H F (.str s) (.str s) []
  | cls {c : Str} {a : Addr} (h : T.C c = some a) : Rep T B H F (.cls c) (.ref a) []
  | tup {ds : List D} {a : Addr} {vs : List V} {fp : List Addr} (h : StT T.K F a vs) (r : Reps T B H F ds vs fp) : Rep T B H F (.tup ds) (.ref a) fp
  | lstF {ds : List D} {a : Addr} {vs : List V} (h : F a = some (.lst vs)) (r : Reps T B H F ds vs []) : Rep T B H F (.lst .fr ds) (.ref a) []
  | lstR {ds : List D} {a : Addr} {vs : List V} (h : SqL T.K F a vs) (r : Reps T B H F ds vs []) : Rep T B H F (.lst .ro ds) (.ref a) []
  | lstB {ds : List D} {a : Addr} {vs : List V} (h : B a = some (.lst vs)) (r : Reps T B H F ds vs []) : Rep T B H F (.lst .bo ds) (.ref a) []
  | lstO {ds : List D} {a : Addr} {vs : List V} {fp gp : List Addr} (h : H a = some (.lst vs)) (r : Reps T B H F ds vs fp) (e : gp = a :: fp) : Rep T B H F (.lst .ow ds) (.ref a) gp
  | dctF {ks : List Str} {ds : List D} {a : Addr} {vs : List V} (h : F a = some (.dK ((ks.map Sum.inr).zip vs))) (hl : ks.length = vs.length) (r : Reps T B H F ds vs []) : Rep T B H F (.dct .fr ks ds) (.ref a) []
  | dctB {ks : List Str} {ds : List D} {a : Addr} {vs : List V} (h : B a = some (.dK ((ks.map Sum.inr).zip vs))) (hl : ks.length = vs.length) (r : Reps T B H F ds vs []) : Rep T B H F (.dct .bo ks ds) (.ref a) []
  | dctO {ks : List Str} {ds : List D} {a : Addr} {vs : List V} {fp gp : List Addr} (h : H a = some (.dK ((ks.map Sum.inr).zip vs))) (hl : ks.length = vs.length) (r : Reps T B H F ds vs fp) (e : gp = a :: fp) : Rep T B H F (.dct .ow ks ds) (.ref a) gp
  | objF {c : Str} {ks : List Str} {ds : List D} {C a dx : Addr} {vs : List V} (hc : T.C c = some C) (h : F a = some (.ins C dx (ks.zip vs))) (hd : F dx = some (.own a)) (hl : ks.length = vs.length) (r : Reps T B H F ds vs []) : Rep T B H F (.obj .fr c ks ds) (.ref a) []
  | objB {c : Str} {ks : List Str} {ds : List D} {C a dx : Addr} {vs : List V} (hc : T.C c = some C) (h : B a = some (.ins C dx (ks.zip vs))) (hd : B dx = some (.own a)) (hl : ks.length = vs.length) (r : Reps T B H F ds vs []) : Rep T B H F (.obj .bo c ks ds) (.ref a) []
  | objO {c : Str} {ks : List Str} {ds : List D} {C a dx : Addr} {vs : List V} {fp gp : List Addr} (hc : T.C c = some C) (h : H a = some (.ins C dx (ks.zip vs))) (hd : H dx = some (.own a)) (hl : ks.length = vs.length) (r : Reps T B H F ds vs fp) (e : gp = a :: dx :: fp) : Rep T B H F (.obj .ow c ks ds) (.ref a) gp
inductive Reps (T : Tx) (B H F : Hp) : List D → List V → List Addr → Prop
  | nil : Reps T B H F [] [] []
  | cons {d : D} {ds : List D} {v : V} {vs : List V} {f g fp : List Addr} (r : Rep T B H F d v f) (rs : Reps T B H F ds vs g) (e : fp = f ++ g) : Reps T B H F (d :: ds) (v :: vs) fp
end

section
variable {T : Tx} {B B' H H' F F' : Hp}
theorem Reps.len : ∀ {ds : List D} {vs : List V} {fp : List Addr}, Reps T B H F ds vs fp → ds.length = vs.length
  | _, _, _, .nil => rfl
  | _, _, _, .cons _ rs _ => by
    rw [List.length_cons, List.length_cons, Reps.len rs]

/-! every owned cell stands -/
mutual
theorem Rep.dom : ∀ {d : D} {v : V} {fp : List Addr}, Rep T B H F d v fp → ∀ a ∈ fp, ∃ o, H a = some o
  | _, _, _, .non, _, h => by cases h
  | _, _, _, .bl _, _, h => by cases h
  | _, _, _, .int _, _, h => by cases h
  | _, _, _, .str _ _, _, h => by cases h
  | _, _, _, .cls _, _, h => by cases h
  | _, _, _, .tup _ r, x, h => Reps.dom r x h
  | _, _, _, .lstF _ _, _, h => by cases h
  | _, _, _, .lstR _ _, _, h => by cases h
  | _, _, _, .lstB _ _, _, h => by cases h
  | _, _, _, .lstO q r e, x, h => by
    subst e
    rcases List.mem_cons.mp h with rfl | h
    · exact ⟨_, q⟩
    · exact Reps.dom r x h
  | _, _, _, .dctF _ _ _, _, h => by cases h
  | _, _, _, .dctB _ _ _, _, h => by cases h
  | _, _, _, .dctO q _ r e, x, h => by
    subst e
    rcases List.mem_cons.mp h with rfl | h
    · exact ⟨_, q⟩
    · exact Reps.dom r x h
  | _, _, _, .objF _ _ _ _ _, _, h => by cases h
  | _, _, _, .objB _ _ _ _ _, _, h => by cases h
  | _, _, _, .objO _ q q2 _ r e, x, h => by
    subst e
    rcases List.mem_cons.mp h with rfl | h
    · exact ⟨_, q⟩
    · rcases List.mem_cons.mp h with rfl | h
      · exact ⟨_, q2⟩
      · exact Reps.dom r x h
theorem Reps.dom : ∀ {ds : List D} {vs : List V} {fp : List Addr}, Reps T B H F ds vs fp → ∀ a ∈ fp, ∃ o, H a = some o
  | _, _, _, .nil, _, h => by cases h
  | _, _, _, .cons r rs e, x, h => by
    subst e
    rcases List.mem_append.mp h with h | h
    · exact Rep.dom r x h
    · exact Reps.dom rs x h
end

theorem sqT_mono {K : PySem.W.Frag} {a : Addr} {vs : List V} (e : Ex F F') (h : SqT K F a vs) : SqT K F' a vs := ex_t e h
theorem sqL_mono {K : PySem.W.Frag} {a : Addr} {vs : List V} (e : Ex F F') (h : SqL K F a vs) : SqL K F' a vs := ex_l e h

/-! the heaps grow; what is owned stands -/
mutual
theorem Rep.mono (eB : Ex B B') (eF : Ex F F') : ∀ {d : D} {v : V} {fp : List Addr}, Rep T B H F d v fp → (∀ a ∈ fp, ∀ o, H a = some o → H' a = some o) → Rep T B' H' F' d v fp
  | _, _, _, .non, _ => .non
  | _, _, _, .bl b, _ => .bl b
  | _, _, _, .int i, _ => .int i
  | _, _, _, .str s hs, _ => .str s hs
  | _, _, _, .cls h, _ => .cls h
  | _, _, _, .tup h r, k => .tup (h.mono eF) (Reps.mono eB eF r k)
  | _, _, _, .lstF h r, k => .lstF (eF _ _ h) (Reps.mono eB eF r k)
  | _, _, _, .lstR h r, k => .lstR (ex_l eF h) (Reps.mono eB eF r k)
  | _, _, _, .lstB h r, k => .lstB (eB _ _ h) (Reps.mono eB eF r k)
  | _, _, _, .lstO h r e, k => by
    subst e
    exact .lstO (k _ List.mem_cons_self _ h) (Reps.mono eB eF r fun a q => k a (List.mem_cons_of_mem _ q)) rfl
  | _, _, _, .dctF h l r, k => .dctF (eF _ _ h) l (Reps.mono eB eF r k)
  | _, _, _, .dctB h l r, k => .dctB (eB _ _ h) l (Reps.mono eB eF r k)
  | _, _, _, .dctO h l r e, k => by
    subst e
    exact .dctO (k _ List.mem_cons_self _ h) l (Reps.mono eB eF r fun a q => k a (List.mem_cons_of_mem _ q)) rfl
  | _, _, _, .objF c h h2 l r, k => .objF c (eF _ _ h) (eF _ _ h2) l (Reps.mono eB eF r k)
  | _, _, _, .objB c h h2 l r, k => .objB c (eB _ _ h) (eB _ _ h2) l (Reps.mono eB eF r k)
  | _, _, _, .objO c h h2 l r e, k => by
    subst e
    exact .objO c (k _ List.mem_cons_self _ h) (k _ (List.mem_cons_of_mem _ List.mem_cons_self) _ h2) l (Reps.mono eB eF r fun a q => k a (List.mem_cons_of_mem _ (List.mem_cons_of_mem _ q))) rfl
theorem Reps.mono (eB : Ex B B') (eF : Ex F F') : ∀ {ds : List D} {vs : List V} {fp : List Addr}, Reps T B H F ds vs fp → (∀ a ∈ fp, ∀ o, H a = some o → H' a = some o) → Reps T B' H' F' ds vs fp
  | _, _, _, .nil, _ => .nil
  | _, _, _, .cons r rs e, k => by
    subst e
    exact .cons (Rep.mono eB eF r fun a q => k a (List.mem_append.mpr (.inl q))) (Reps.mono eB eF rs fun a q => k a (List.mem_append.mpr (.inr q))) rfl
end

/-! owned cells become frozen -/
mutual
theorem Rep.frz (eF : Ex F F') : ∀ {d : D} {v : V} {fp : List Addr}, Rep T B H F d v fp → (∀ a ∈ fp, ∀ o, H a = some o → F' a = some o) → Rep T B H' F' (mapF flFrz d) v []
  | _, _, _, .non, _ => .non
  | _, _, _, .bl b, _ => .bl b
  | _, _, _, .int i, _ => .int i
  | _, _, _, .str s hs, _ => .str s hs
  | _, _, _, .cls h, _ => .cls h
  | _, _, _, .tup h r, k => .tup (h.mono eF) (Reps.frz eF r k)
  | _, _, _, .lstF h r, k => .lstF (eF _ _ h) (Reps.frz eF r k)
  | _, _, _, .lstR h r, k => .lstR (ex_l eF h) (Reps.frz eF r k)
  | _, _, _, .lstB h r, k => .lstB h (Reps.frz eF r k)
  | _, _, _, .lstO h r e, k => by
    subst e
    exact .lstF (k _ List.mem_cons_self _ h) (Reps.frz eF r fun a q => k a (List.mem_cons_of_mem _ q))
  | _, _, _, .dctF h l r, k => .dctF (eF _ _ h) l (Reps.frz eF r k)
  | _, _, _, .dctB h l r, k => .dctB h l (Reps.frz eF r k)
  | _, _, _, .dctO h l r e, k => by
    subst e
    exact .dctF (k _ List.mem_cons_self _ h) l (Reps.frz eF r fun a q => k a (List.mem_cons_of_mem _ q))
  | _, _, _, .objF c h h2 l r, k => .objF c (eF _ _ h) (eF _ _ h2) l (Reps.frz eF r k)
  | _, _, _, .objB c h h2 l r, k => .objB c h h2 l (Reps.frz eF r k)
  | _, _, _, .objO c h h2 l r e, k => by
    subst e
    exact .objF c (k _ List.mem_cons_self _ h) (k _ (List.mem_cons_of_mem _ List.mem_cons_self) _ h2) l (Reps.frz eF r fun a q => k a (List.mem_cons_of_mem _ (List.mem_cons_of_mem _ q)))
theorem Reps.frz (eF : Ex F F') : ∀ {ds : List D} {vs : List V} {fp : List Addr}, Reps T B H F ds vs fp → (∀ a ∈ fp, ∀ o, H a = some o → F' a = some o) → Reps T B H' F' (mapFs flFrz ds) vs []
  | _, _, _, .nil, _ => .nil
  | _, _, _, .cons r rs e, k => by
    subst e
    exact .cons (Rep.frz eF r fun a q => k a (List.mem_append.mpr (.inl q))) (Reps.frz eF rs fun a q => k a (List.mem_append.mpr (.inr q))) rfl
end

/-! owned cells are lent -/
mutual
theorem Rep.lend (eB : Ex B B') : ∀ {d : D} {v : V} {fp : List Addr}, Rep T B H F d v fp → (∀ a ∈ fp, ∀ o, H a = some o → B' a = some o) → Rep T B' H' F (mapF flLend d) v []
  | _, _, _, .non, _ => .non
  | _, _, _, .bl b, _ => .bl b
  | _, _, _, .int i, _ => .int i
  | _, _, _, .str s hs, _ => .str s hs
  | _, _, _, .cls h, _ => .cls h
  | _, _, _, .tup h r, k => .tup h (Reps.lend eB r k)
  | _, _, _, .lstF h r, k => .lstF h (Reps.lend eB r k)
  | _, _, _, .lstR h r, k => .lstR h (Reps.lend eB r k)
  | _, _, _, .lstB h r, k => .lstB (eB _ _ h) (Reps.lend eB r k)
  | _, _, _, .lstO h r e, k => by
    subst e
    exact .lstB (k _ List.mem_cons_self _ h) (Reps.lend eB r fun a q => k a (List.mem_cons_of_mem _ q))
  | _, _, _, .dctF h l r, k => .dctF h l (Reps.lend eB r k)
  | _, _, _, .dctB h l r, k => .dctB (eB _ _ h) l (Reps.lend eB r k)
  | _, _, _, .dctO h l r e, k => by
    subst e
    exact .dctB (k _ List.mem_cons_self _ h) l (Reps.lend eB r fun a q => k a (List.mem_cons_of_mem _ q))
  | _, _, _, .objF c h h2 l r, k => .objF c h h2 l (Reps.lend eB r k)
  | _, _, _, .objB c h h2 l r, k => .objB c (eB _ _ h) (eB _ _ h2) l (Reps.lend eB r k)
  | _, _, _, .objO c h h2 l r e, k => by
    subst e
    exact .objB c (k _ List.mem_cons_self _ h) (k _ (List.mem_cons_of_mem _ List.mem_cons_self) _ h2) l (Reps.lend eB r fun a q => k a (List.mem_cons_of_mem _ (List.mem_cons_of_mem _ q)))
theorem Reps.lend (eB : Ex B B') : ∀ {ds : List D} {vs : List V} {fp : List Addr}, Reps T B H F ds vs fp → (∀ a ∈ fp, ∀ o, H a = some o → B' a = some o) → Reps T B' H' F (mapFs flLend ds) vs []
  | _, _, _, .nil, _ => .nil
  | _, _, _, .cons r rs e, k => by
    subst e
    exact .cons (Rep.lend eB r fun a q => k a (List.mem_append.mpr (.inl q))) (Reps.lend eB rs fun a q => k a (List.mem_append.mpr (.inr q))) rfl
end

/-! without lent parts: whatever is lent -/
mutual
theorem Rep.noB : ∀ {d : D} {v : V} {fp : List Addr}, Rep T B H F d v fp → allF noBo d = true → Rep T B' H F d v fp
  | _, _, _, .non, _ => .non
  | _, _, _, .bl b, _ => .bl b
  | _, _, _, .int i, _ => .int i
  | _, _, _, .str s hs, _ => .str s hs
  | _, _, _, .cls h, _ => .cls h
  | _, _, _, .tup h r, n => .tup h (Reps.noB r (allF_tup n))
  | _, _, _, .lstF h r, n => .lstF h (Reps.noB r (allF_lst n).2)
  | _, _, _, .lstR h r, n => .lstR h (Reps.noB r (allF_lst n).2)
  | _, _, _, .lstB _ _, n => nomatch (allF_lst n).1
  | _, _, _, .lstO h r e, n => .lstO h (Reps.noB r (allF_lst n).2) e
  | _, _, _, .dctF h l r, n => .dctF h l (Reps.noB r (allF_dct n).2)
  | _, _, _, .dctB _ _ _, n => nomatch (allF_dct n).1
  | _, _, _, .dctO h l r e, n => .dctO h l (Reps.noB r (allF_dct n).2) e
  | _, _, _, .objF c h h2 l r, n => .objF c h h2 l (Reps.noB r (allF_obj n).2)
  | _, _, _, .objB _ _ _ _ _, n => nomatch (allF_obj n).1
  | _, _, _, .objO c h h2 l r e, n => .objO c h h2 l (Reps.noB r (allF_obj n).2) e
theorem Reps.noB : ∀ {ds : List D} {vs : List V} {fp : List Addr}, Reps T B H F ds vs fp → allFs noBo ds = true → Reps T B' H F ds vs fp
  | _, _, _, .nil, _ => .nil
  | _, _, _, .cons r rs e, n => .cons (Rep.noB r (allFs_cons n).1) (Reps.noB rs (allFs_cons n).2) e
end

/-! without owned parts: no footprint -/
mutual
theorem Rep.noO : ∀ {d : D} {v : V} {fp : List Addr}, Rep T B H F d v fp → allF noOw d = true → fp = []
  | _, _, _, .non, _ => rfl
  | _, _, _, .bl b, _ => rfl
  | _, _, _, .int i, _ => rfl
  | _, _, _, .str s hs, _ => rfl
  | _, _, _, .cls h, _ => rfl
  | _, _, _, .tup h r, n => Reps.noO r (allF_tup n)
  | _, _, _, .lstF h r, n => rfl
  | _, _, _, .lstR h r, n => rfl
  | _, _, _, .lstB _ _, n => rfl
  | _, _, _, .lstO h r e, n => nomatch (allF_lst n).1
  | _, _, _, .dctF h l r, n => rfl
  | _, _, _, .dctB _ _ _, n => rfl
  | _, _, _, .dctO h l r e, n => nomatch (allF_dct n).1
  | _, _, _, .objF c h h2 l r, n => rfl
  | _, _, _, .objB _ _ _ _ _, n => rfl
  | _, _, _, .objO c h h2 l r e, n => nomatch (allF_obj n).1
theorem Reps.noO : ∀ {ds : List D} {vs : List V} {fp : List Addr}, Reps T B H F ds vs fp → allFs noOw ds = true → fp = []
  | _, _, _, .nil, _ => rfl
  | _, _, _, .cons r rs e, n => by rw [e, Rep.noO r (allFs_cons n).1, Reps.noO rs (allFs_cons n).2]; rfl
end
end
end Cs
namespace Cs
open PySem L2 Evl

/-! ## environments, outcomes -/
inductive Sl where
  | un
  | exn
  | dt (d : D)
abbrev En := List Sl
inductive Out (α : Type) where
  | ok (a : α) (ρ : En)
  | exc (c : Str) (ks : List Str) (xs : List D) (ρ : En)
  | bad
abbrev M (α : Type) := En → Out α
inductive Flw where
  | nx
  | bk
  | ct
  | rt (d : D)
inductive Res where
  | ok (d : D) (os : En)
  | exc (c : Str) (ks : List Str) (xs : List D) (os : En)
  | bad

def bnd {α β : Type} (f : M α) (k : α → M β) : M β := fun ρ =>
  match f ρ with
  | .ok a ρ' => k a ρ'
  | .exc c ks xs ρ' => .exc c ks xs ρ'
  | .bad => .bad
def ret {α : Type} (a : α) : M α := fun ρ => .ok a ρ
def bad {α : Type} : M α := fun _ => .bad
theorem bnd_ok {α β : Type} {f : M α} {k : α → M β} {ρ ρ' : En} {a : α} (h : f ρ = .ok a ρ') : bnd f k ρ = k a ρ' := by
  unfold bnd
  rw [h]
theorem bnd_exc {α β : Type} {f : M α} {k : α → M β} {ρ ρ' : En} {c : Str} {ks : List Str} {xs : List D} (h : f ρ = .exc c ks xs ρ') : bnd f k ρ = .exc c ks xs ρ' := by
  unfold bnd
  rw [h]
theorem bnd_bad {α β : Type} {f : M α} {k : α → M β} {ρ : En} (h : f ρ = .bad) : bnd f k ρ = .bad := by
  unfold bnd
  rw [h]

/-! ## the state -/
structure Rel (T : Tx) (σ : L2.St) (B H F : Hp) (ρ : En) (φ : Nat → List Addr) : Prop where
  len : ρ.length = σ.length
  exB : Ex B H
  exF : Ex F H
  exP : Ex T.P F
  sl : ∀ (i : Nat) d, ρ[i]? = some (.dt d) → ∃ v, σ[i]? = some (some v) ∧ Rep T B H F d v (φ i)
  xn : ∀ i : Nat, ρ[i]? = some .exn → ∃ a, T.X = some a ∧ σ[i]? = some (some (.ref a))
  em : ∀ i : Nat, (∀ d, ρ[i]? ≠ some (.dt d)) → φ i = []
  nd : ∀ i, (φ i).Nodup
  dj : ∀ i j a, i ≠ j → a ∈ φ i → a ∉ φ j
  ap : ∀ i a, a ∈ φ i → F a = none ∧ B a = none
def O (φ : Nat → List Addr) : Addr → Prop := fun a => ∃ i, a ∈ φ i
abbrev Or2 (O1 : Addr → Prop) (g : List Addr) : Addr → Prop := fun a => O1 a ∨ a ∈ g
structure Step (H F : Hp) (O1 : Addr → Prop) (H' F' : Hp) (O2 : Addr → Prop) : Prop where
  keep : ∀ a o, H a = some o → ¬ O1 a → H' a = some o
  ext : Ex F F'
  fn : ∀ a o, F' a = some o → F a = none → O1 a ∨ H a = none
  on : ∀ a, O2 a → O1 a ∨ H a = none
structure Tmp (T : Tx) (B H F : Hp) (φ : Nat → List Addr) (d : D) (v : V) (g : List Addr) : Prop where
  rep : Rep T B H F d v g
  nd : g.Nodup
  ap : ∀ a ∈ g, F a = none ∧ B a = none
  dj : ∀ a ∈ g, ¬ O φ a
structure Tmps (T : Tx) (B H F : Hp) (φ : Nat → List Addr) (ds : List D) (vs : List V) (g : List Addr) : Prop where
  rep : Reps T B H F ds vs g
  nd : g.Nodup
  ap : ∀ a ∈ g, F a = none ∧ B a = none
  dj : ∀ a ∈ g, ¬ O φ a
/-- an exception of the class c, its fields frozen -/
def XRep (T : Tx) (F : Hp) (c : Str) (ks : List Str) (xs : List D) (cls : Value) (dd : Option Addr) : Prop :=
  ∃ C, T.C c = some C ∧ cls = .ref C ∧ (ks = [] ∨ ∃ d fs vs, dd = some d ∧ F d = some (.xd fs) ∧ Reps T (fun _ => none) (fun _ => none) F xs vs [] ∧ ks.length = vs.length ∧ ∀ (i : Nat) k v, ks[i]? = some k → vs[i]? = some v → fs.lookup k = some v)

section
variable {T : Tx} {σ : L2.St} {B H F H1 F1 H2 F2 H' F' : Hp} {ρ ρ' : En} {φ φ1 φ2 φ' : Nat → List Addr} {O1 O2 O3 : Addr → Prop}
theorem Step.refl : Step H F O1 H F O1 := ⟨fun _ _ h _ => h, Ex.refl F, fun a o h n => (by rw [h] at n; cases n), fun _ h => .inl h⟩
theorem Step.trans (s : Step H F O1 H1 F1 O2) (t : Step H1 F1 O2 H2 F2 O3) : Step H F O1 H2 F2 O3 := by
  have back : ∀ a, H1 a = none → O1 a ∨ H a = none := fun a h => by
    cases e : H a with
    | none => exact .inr rfl
    | some o =>
      by_cases q : O1 a
      · exact .inl q
      · rw [s.keep a o e q] at h; cases h
  refine ⟨fun a o h n => t.keep a o (s.keep a o h n) fun q => ?_, s.ext.trans t.ext, fun a o h n => ?_, fun a h => ?_⟩
  · rcases s.on a q with z | z
    · exact n z
    · rw [h] at z; cases z
  · cases e : F1 a with
    | some o' => exact s.fn a o' e n
    | none =>
      rcases t.fn a o h e with z | z
      · exact s.on a z
      · exact back a z
  · rcases t.on a h with z | z
    · exact s.on a z
    · exact back a z
theorem Step.frame {g : List Addr} (s : Step H F O1 H1 F1 O2) : Step H F (Or2 O1 g) H1 F1 (Or2 O2 g) :=
  ⟨fun a o h n => s.keep a o h fun z => n (.inl z), s.ext, fun a o h n => (s.fn a o h n).imp .inl id, fun a h => by
    rcases h with h | h
    · exact (s.on a h).imp .inl id
    · exact .inl (.inr h)⟩
theorem Step.drop (s : Step H F O1 H1 F1 O2) (h : ∀ a, O3 a → O2 a) : Step H F O1 H1 F1 O3 := ⟨s.keep, s.ext, s.fn, fun a q => s.on a (h a q)⟩
theorem Step.ext2 (s : Step H F O1 H1 F1 O2) (h : ∀ a, O3 a ↔ O2 a) : Step H F O1 H1 F1 O3 := s.drop fun a => (h a).mp
/-- something new is laid -/
theorem Step.new {p : Addr} {o : HO} (h : H p = none) : Step H F O1 (upd H p o) F O1 := ⟨fun a u e _ => (by rw [upd_ne (ne_of_none e h)]; exact e), Ex.refl F, fun a u e n => (by rw [e] at n; cases n), fun _ q => .inl q⟩

theorem Tmp.dom {d : D} {v : V} {g : List Addr} (t : Tmp T B H F φ d v g) : ∀ a ∈ g, ∃ o, H a = some o := t.rep.dom
theorem Rel.dom (r : Rel T σ B H F ρ φ) {a : Addr} (h : O φ a) : ∃ o, H a = some o := by
  obtain ⟨i, h⟩ := h
  by_cases q : ∃ d, ρ[i]? = some (.dt d)
  · obtain ⟨d, q⟩ := q
    obtain ⟨v, _, rp⟩ := r.sl i d q
    exact rp.dom a h
  · rw [r.em i fun d z => q ⟨d, z⟩] at h
    cases h
/-- a value in the air stays while something else is done -/
theorem Tmp.step {d : D} {v : V} {g : List Addr} (t : Tmp T B H F φ d v g) (s : Step H F (O φ) H1 F1 (O φ1)) : Tmp T B H1 F1 φ1 d v g := by
  refine ⟨t.rep.mono (Ex.refl B) s.ext fun a ha o e => s.keep a o e (t.dj a ha), t.nd, fun a ha => ⟨?_, (t.ap a ha).2⟩, fun a ha q => ?_⟩
  · cases e : F1 a with
    | none => rfl
    | some o =>
      rcases s.fn a o e (t.ap a ha).1 with z | z
      · exact absurd z (t.dj a ha)
      · obtain ⟨o', e'⟩ := t.dom a ha
        rw [e'] at z; cases z
  · rcases s.on a q with z | z
    · exact t.dj a ha z
    · obtain ⟨o', e'⟩ := t.dom a ha
      rw [e'] at z; cases z
theorem Tmps.step {ds : List D} {vs : List V} {g : List Addr} (t : Tmps T B H F φ ds vs g) (s : Step H F (O φ) H1 F1 (O φ1)) : Tmps T B H1 F1 φ1 ds vs g := by
  refine ⟨t.rep.mono (Ex.refl B) s.ext fun a ha o e => s.keep a o e (t.dj a ha), t.nd, fun a ha => ⟨?_, (t.ap a ha).2⟩, fun a ha q => ?_⟩
  · cases e : F1 a with
    | none => rfl
    | some o =>
      rcases s.fn a o e (t.ap a ha).1 with z | z
      · exact absurd z (t.dj a ha)
      · obtain ⟨o', e'⟩ := t.rep.dom a ha
        rw [e'] at z; cases z
  · rcases s.on a q with z | z
    · exact t.dj a ha z
    · obtain ⟨o', e'⟩ := t.rep.dom a ha
      rw [e'] at z; cases z
/-- two values in the air stand apart -/
theorem Tmp.apart {d : D} {v : V} {g g2 : List Addr} (t : Tmp T B H F φ d v g) (s : Step H F (O φ) H1 F1 (Or2 (O φ1) g2)) : ∀ a ∈ g, a ∉ g2 := fun a ha q => by
  rcases s.on a (.inr q) with z | z
  · exact t.dj a ha z
  · obtain ⟨o', e'⟩ := t.dom a ha
    rw [e'] at z; cases z
theorem Tmp.flat {d : D} {v : V} (r : Rep T B H F d v []) : Tmp T B H F φ d v [] := ⟨r, .nil, fun _ h => (by cases h), fun _ h => (by cases h)⟩
theorem Tmps.flat {ds : List D} {vs : List V} (r : Reps T B H F ds vs []) : Tmps T B H F φ ds vs [] := ⟨r, .nil, fun _ h => (by cases h), fun _ h => (by cases h)⟩
/-- an object is laid that nobody holds yet: the state stays -/
theorem Rel.new (r : Rel T σ B H F ρ φ) {p : Addr} {o : HO} (h : H p = none) : Rel T σ B (upd H p o) F ρ φ :=
  ⟨r.len, r.exB.trans (Ex.new h), r.exF.trans (Ex.new h), r.exP, fun i d q => by
    obtain ⟨v, e, rp⟩ := r.sl i d q
    exact ⟨v, e, rp.mono (Ex.refl B) (Ex.refl F) fun a _ o q => Ex.new h a o q⟩, r.xn, r.em, r.nd, r.dj, r.ap⟩
/-- .. and is frozen at once -/
theorem Rel.newF (r : Rel T σ B H F ρ φ) {p : Addr} {o : HO} (h : H p = none) : Rel T σ B (upd H p o) (upd F p o) ρ φ := by
  have hF : F p = none := by
    cases e : F p with
    | none => rfl
    | some u => rw [r.exF p u e] at h; cases h
  refine ⟨r.len, r.exB.trans (Ex.new h), fun a u e => ?_, r.exP.trans (Ex.new hF), fun i d q => ?_, r.xn, r.em, r.nd, r.dj, fun i a q => ?_⟩
  · by_cases z : a = p
    · subst z; rw [upd_same] at e ⊢; exact e
    · rw [upd_ne z] at e ⊢; exact r.exF a u e
  · obtain ⟨v, e, rp⟩ := r.sl i d q
    exact ⟨v, e, rp.mono (Ex.refl B) (Ex.new hF) fun a _ o q => Ex.new h a o q⟩
  · obtain ⟨o', e'⟩ := r.dom ⟨i, q⟩
    exact ⟨by rw [upd_ne (ne_of_none e' h)]; exact (r.ap i a q).1, (r.ap i a q).2⟩
theorem Step.newF {p : Addr} {o : HO} (h : H p = none) (eF : Ex F H) : Step H F O1 (upd H p o) (upd F p o) O1 := by
  have hF : F p = none := by
    cases e : F p with
    | none => rfl
    | some u => rw [eF p u e] at h; cases h
  refine ⟨fun a u e _ => by rw [upd_ne (ne_of_none e h)]; exact e, Ex.new hF, fun a u e n => ?_, fun _ q => .inl q⟩
  by_cases z : a = p
  · subst z; exact .inr h
  · rw [upd_ne z] at e; rw [e] at n; cases n
theorem Rel.freeF (r : Rel T σ B H F ρ φ) {p : Addr} (h : H p = none) : F p = none := by
  cases e : F p with
  | none => rfl
  | some u => rw [r.exF p u e] at h; cases h
theorem Rel.freeB (r : Rel T σ B H F ρ φ) {p : Addr} (h : H p = none) : B p = none := by
  cases e : B p with
  | none => rfl
  | some u => rw [r.exB p u e] at h; cases h
theorem Rel.freeO (r : Rel T σ B H F ρ φ) {p : Addr} (h : H p = none) : ¬ O φ p := fun q => by
  obtain ⟨o, e⟩ := r.dom q
  rw [e] at h; cases h
/-- the cells g move into the frozen heap -/
def ovl (H F : Hp) (g : List Addr) : Hp := fun a => if a ∈ g then H a else F a
theorem ovl_in {g : List Addr} {a : Addr} (h : a ∈ g) : ovl H F g a = H a := by
  unfold ovl
  rw [if_pos h]
theorem ovl_out {g : List Addr} {a : Addr} (h : a ∉ g) : ovl H F g a = F a := by
  unfold ovl
  rw [if_neg h]
theorem ovl_ex {g : List Addr} (h : ∀ a ∈ g, F a = none) : Ex F (ovl H F g) := fun a o e => by
  rw [ovl_out fun z => by rw [h a z] at e; cases e]
  exact e
theorem ovl_sub {g : List Addr} (h : Ex F H) : Ex (ovl H F g) H := fun a o e => by
  by_cases z : a ∈ g
  · rw [ovl_in z] at e; exact e
  · rw [ovl_out z] at e; exact h a o e
theorem Rel.ovl (r : Rel T σ B H F ρ φ) {g : List Addr} (h1 : ∀ a ∈ g, F a = none) (h2 : ∀ a ∈ g, ¬ O φ a) : Rel T σ B H (ovl H F g) ρ φ :=
  ⟨r.len, r.exB, ovl_sub r.exF, r.exP.trans (ovl_ex h1), fun i d q => by
    obtain ⟨v, e, rp⟩ := r.sl i d q
    exact ⟨v, e, rp.mono (Ex.refl B) (ovl_ex h1) fun _ _ _ q => q⟩, r.xn, r.em, r.nd, r.dj, fun i a q => ⟨by
    rw [ovl_out fun z => h2 a z ⟨i, q⟩]
    exact (r.ap i a q).1, (r.ap i a q).2⟩⟩
/-- freeze a value in the air -/
theorem Tmp.frz {d : D} {v : V} {g : List Addr} (t : Tmp T B H F φ d v g) : Rep T B H (ovl H F g) (mapF flFrz d) v [] := t.rep.frz (ovl_ex fun a h => (t.ap a h).1) fun a ha o e => by rw [ovl_in ha]; exact e
theorem Step.frz {g : List Addr} (s : Step H F O1 H1 F1 (Or2 O2 g)) : Step H F O1 H1 (Cs.ovl H1 F1 g) O2 → Step H F O1 H1 (Cs.ovl H1 F1 g) O2 := id
theorem Step.ovl {g : List Addr} (s : Step H F O1 H1 F1 (Or2 O2 g)) (h : ∀ a ∈ g, F1 a = none) : Step H F O1 H1 (Cs.ovl H1 F1 g) O2 :=
  ⟨s.keep, s.ext.trans (ovl_ex h), fun a o e n => by
    by_cases z : a ∈ g
    · exact s.on a (.inr z)
    · rw [ovl_out z] at e; exact s.fn a o e n, fun a q => s.on a (.inl q)⟩
end
end Cs
namespace Cs
open PySem L2 Evl

section
variable {H F H1 F1 H2 F2 : Hp} {O1 O2 O3 : Addr → Prop}
theorem Step.or0 (s : Step H F O1 H1 F1 O2) : Step H F O1 H1 F1 (Or2 O2 []) := s.drop fun a h => by
  rcases h with h | h
  · exact h
  · cases h
theorem Step.no {g : List Addr} (s : Step H F O1 H1 F1 (Or2 O2 g)) : Step H F O1 H1 F1 O2 := s.drop fun a h => .inl h
/-- two steps, a value of the first one held -/
theorem Step.two {g g1 : List Addr} (s : Step H F O1 H1 F1 (Or2 O2 g)) (t : Step H1 F1 O2 H2 F2 (Or2 O3 g1)) : Step H F O1 H2 F2 (Or2 O3 (g1 ++ g)) :=
  (s.trans (t.frame (g := g))).drop fun a h => by
    rcases h with h | h
    · exact .inl (.inl h)
    · rcases List.mem_append.mp h with h | h
      · exact .inl (.inr h)
      · exact .inr h
end

/-! ## states and their moves -/
structure S5 where
  σ : L2.St
  H : Hp
  F : Hp
  ρ : En
  φ : Nat → List Addr
abbrev Okk (T : Tx) (B : Hp) (s : S5) : Prop := Rel T s.σ B s.H s.F s.ρ s.φ
structure Goes (tc : List Nat) (s s' : S5) (g : List Addr) : Prop where
  step : Step s.H s.F (O s.φ) s'.H s'.F (Or2 (O s'.φ) g)
  fix : ∀ j, j ∉ tc → s'.ρ[j]? = s.ρ[j]? ∧ s'.φ j = s.φ j ∧ ∀ a ∈ s.φ j, s'.H a = s.H a
  sg : ∀ j, j + 1000 ∉ tc → s'.σ[j]? = s.σ[j]?
section
variable {tc tc1 tc2 : List Nat} {s s1 s2 : S5} {g g1 g2 : List Addr}
theorem Goes.refl : Goes tc s s [] := ⟨Step.refl.or0, fun j _ => ⟨rfl, rfl, fun _ _ => rfl⟩, fun _ _ => rfl⟩
theorem Goes.trans (a : Goes tc1 s s1 g1) (b : Goes tc2 s1 s2 g2) : Goes (tc1 ++ tc2) s s2 (g2 ++ g1) :=
  ⟨a.step.two b.step, fun j h => by
    have h1 : j ∉ tc1 := fun z => h (List.mem_append.mpr (.inl z))
    have h2 : j ∉ tc2 := fun z => h (List.mem_append.mpr (.inr z))
    obtain ⟨x1, x2, x4⟩ := a.fix j h1
    obtain ⟨y1, y2, y4⟩ := b.fix j h2
    exact ⟨y1.trans x1, y2.trans x2, fun c hc => (y4 c (by rw [x2]; exact hc)).trans (x4 c hc)⟩, fun j h =>
    (b.sg j fun z => h (List.mem_append.mpr (.inr z))).trans (a.sg j fun z => h (List.mem_append.mpr (.inl z)))⟩
theorem Goes.wk (a : Goes tc1 s s1 g1) (h : ∀ j ∈ tc1, j ∈ tc) : Goes tc s s1 g1 := ⟨a.step, fun j q => a.fix j fun z => q (h j z), fun j q => a.sg j fun z => q (h _ z)⟩
theorem Goes.less (a : Goes tc s s1 g1) (h : ∀ c ∈ g, c ∈ g1) : Goes tc s s1 g := ⟨a.step.drop fun c q => q.imp id (h c), a.fix, a.sg⟩
theorem Goes.drop0 (a : Goes tc s s1 g1) : Goes tc s s1 [] := a.less fun _ h => by cases h
theorem Goes.trans0 (a : Goes tc1 s s1 g1) (b : Goes tc2 s1 s2 g2) : Goes (tc1 ++ tc2) s s2 g2 := (a.trans b).less fun _ h => List.mem_append.mpr (.inl h)
end

/-! ## what is wanted behind an outcome -/
def Post {α : Type} (okk : α → En → Prop) (exk : Str → List Str → List D → En → Prop) : Out α → Prop
  | .ok a ρ => okk a ρ
  | .exc c ks xs ρ => exk c ks xs ρ
  | .bad => False
theorem Post.bnd {α β : Type} {okk : β → En → Prop} {exk : Str → List Str → List D → En → Prop} {f : M α} {k : α → M β} {ρ : En} (h : Post okk exk (bnd f k ρ)) :
    Post (fun a ρ1 => f ρ = .ok a ρ1 ∧ Post okk exk (k a ρ1)) exk (f ρ) := by
  unfold Cs.bnd at h
  cases e : f ρ with
  | ok a ρ1 => rw [e] at h; exact ⟨rfl, h⟩
  | exc c ks xs ρ1 => rw [e] at h; exact h
  | bad => rw [e] at h; exact h
theorem Post.imp {α : Type} {okk okk' : α → En → Prop} {exk exk' : Str → List Str → List D → En → Prop} {o : Out α} (h : Post okk exk o) (h1 : ∀ a ρ, okk a ρ → okk' a ρ) (h2 : ∀ c ks xs ρ, exk c ks xs ρ → exk' c ks xs ρ) : Post okk' exk' o := by
  cases o with
  | ok a ρ => exact h1 _ _ h
  | exc c ks xs ρ => exact h2 _ _ _ _ h
  | bad => exact h
structure Gx where
  C : Str → Option Addr
  P : Hp
  X : Option Addr
abbrev tx (X : Cx) (G : Gx) : Tx := ⟨X.K, G.C, G.P, G.X⟩
def okE (T : Tx) (B : Hp) (tc : List Nat) (s : S5) (Q : VK) : D → En → Prop := fun d ρ => ∀ v s' g, s'.ρ = ρ → s'.σ = s.σ → Okk T B s' → Tmp T B s'.H s'.F s'.φ d v g → Goes tc s s' g → Q v s'.H
def okA (T : Tx) (B : Hp) (tc : List Nat) (s : S5) (Q : List V → Hp → Prop) : List D → En → Prop := fun ds ρ => ∀ vs s' g, s'.ρ = ρ → s'.σ = s.σ → Okk T B s' → Tmps T B s'.H s'.F s'.φ ds vs g → Goes tc s s' g → Q vs s'.H
def okT (T : Tx) (B : Hp) (tc : List Nat) (s : S5) (Q : Bool → Hp → Prop) : Bool → En → Prop := fun c ρ => ∀ s', s'.ρ = ρ → s'.σ = s.σ → Okk T B s' → Goes tc s s' [] → Q c s'.H
def exE (T : Tx) (W : WX) (B : Hp) (tc : List Nat) (s : S5) : Str → List Str → List D → En → Prop := fun c ks xs ρ => ∀ cls dd s', s'.ρ = ρ → s'.σ = s.σ → Okk T B s' → XRep T s'.F c ks xs cls dd → Goes tc s s' [] → W cls dd s'.σ s'.H
def okS (T : Tx) (B : Hp) (tc : List Nat) (s : S5) (E : Ends) : Flw → En → Prop := fun fl ρ => match fl with
  | .nx => ∀ s', s'.ρ = ρ → Okk T B s' → Goes tc s s' [] → E.nx s'.σ s'.H
  | .bk => ∀ s', s'.ρ = ρ → Okk T B s' → Goes tc s s' [] → E.bk s'.σ s'.H
  | .ct => ∀ s', s'.ρ = ρ → Okk T B s' → Goes tc s s' [] → E.ct s'.σ s'.H
  | .rt d => ∀ v s' g, s'.ρ = ρ → Okk T B s' → Tmp T B s'.H s'.F s'.φ d v g → Goes tc s s' g → E.rt v s'.H
def exS (T : Tx) (W : WX) (B : Hp) (tc : List Nat) (s : S5) : Str → List Str → List D → En → Prop := fun c ks xs ρ => ∀ cls dd s', s'.ρ = ρ → Okk T B s' → XRep T s'.F c ks xs cls dd → Goes tc s s' [] → W cls dd s'.σ s'.H

def tD (T : Tx) (W : WX) (tc : List Nat) (f : M D) : TE := fun σ H Q => ∃ B s, s.σ = σ ∧ s.H = H ∧ Okk T B s ∧ Post (okE T B tc s Q) (exE T W B tc s) (f s.ρ)
def tDs (T : Tx) (W : WX) (tc : List Nat) (f : M (List D)) : TA := fun σ H Q => ∃ B s, s.σ = σ ∧ s.H = H ∧ Okk T B s ∧ Post (okA T B tc s Q) (exE T W B tc s) (f s.ρ)
def tDT (T : Tx) (W : WX) (tc : List Nat) (f : M Bool) : TT := fun σ H Q => ∃ B s, s.σ = σ ∧ s.H = H ∧ Okk T B s ∧ Post (okT T B tc s Q) (exE T W B tc s) (f s.ρ)
def tDS (T : Tx) (W : WX) (tc : List Nat) (f : M Flw) : TS := fun E σ H => ∃ B s, s.σ = σ ∧ s.H = H ∧ Okk T B s ∧ Post (okS T B tc s E) (exS T W B tc s) (f s.ρ)

section
variable {X : Cx}
theorem pe_mono {e : Expr} {t t' : TE} (h : PE X e t) (i : ∀ σ H Q, t' σ H Q → t σ H Q) : PE X e t' := ⟨fun pins s σ H Q I q => h.run pins s σ H Q I (i σ H Q q)⟩
theorem pt_mono {e : Expr} {t t' : TT} (h : PT X e t) (i : ∀ σ H Q, t' σ H Q → t σ H Q) : PT X e t' := ⟨fun pins s σ H Q I q => h.run pins s σ H Q I (i σ H Q q)⟩
theorem pw_mono {e : Expr} {t t' : TT} (h : PW X e t) (i : ∀ σ H Q, t' σ H Q → t σ H Q) : PW X e t' := ⟨fun wh pins s σ H Q I q => h.run wh pins s σ H Q I (i σ H Q q)⟩
theorem pa_mono {es : List Expr} {t t' : TA} (h : PA X es t) (i : ∀ σ H Q, t' σ H Q → t σ H Q) : PA X es t' := ⟨fun pos pins s σ H Q I q => h.run pos pins s σ H Q I (i σ H Q q)⟩
theorem ps_mono {st : Stmt} {t t' : TS} (h : PS X st t) (i : ∀ D σ H, t' D σ H → t D σ H) : PS X st t' := ⟨fun pins s σ H D I q => h.run pins s σ H D I (i D σ H q)⟩
theorem pss_mono {st : List Stmt} {t t' : TS} (h : PSs X st t) (i : ∀ D σ H, t' D σ H → t D σ H) : PSs X st t' := ⟨fun pins s σ H D I q => h.run pins s σ H D I (i D σ H q)⟩
end

abbrev GE (X : Cx) (G : Gx) (W : WX) (tc : List Nat) (e : Expr) (f : M D) : Prop := PE X e (tD (tx X G) W tc f)
abbrev GA (X : Cx) (G : Gx) (W : WX) (tc : List Nat) (es : List Expr) (f : M (List D)) : Prop := PA X es (tDs (tx X G) W tc f)
abbrev GT (X : Cx) (G : Gx) (W : WX) (tc : List Nat) (e : Expr) (f : M Bool) : Prop := PT X e (tDT (tx X G) W tc f)
abbrev GW (X : Cx) (G : Gx) (W : WX) (tc : List Nat) (e : Expr) (f : M Bool) : Prop := PW X e (tDT (tx X G) W tc f)
abbrev GS (X : Cx) (G : Gx) (W : WX) (tc : List Nat) (st : Stmt) (f : M Flw) : Prop := PS X st (tDS (tx X G) W tc f)
abbrev GSs (X : Cx) (G : Gx) (W : WX) (tc : List Nat) (st : List Stmt) (f : M Flw) : Prop := PSs X st (tDS (tx X G) W tc f)

section
variable {T : Tx} {B : Hp} {s s1 s2 s' : S5} {W : WX} {tc tc1 tc2 : List Nat} {ρ : En} {g0 : List Addr}
/-- the rest of an evaluation: from s1 on, s the base, a value held at g0 -/
theorem exE.re {c : Str} {ks : List Str} {xs : List D} (a : Goes tc1 s s1 g0) (hσ : s1.σ = s.σ) (h : exE T W B (tc1 ++ tc2) s c ks xs ρ) : exE T W B tc2 s1 c ks xs ρ := fun cls dd s' e1 e2 r x t =>
  h cls dd s' e1 (e2.trans hσ) r x (a.trans0 t)
theorem seqE {β : Type} {f : M D} {k : D → M β} {Q1 : VK} {okk : β → En → Prop} (r : Okk T B s) (hp : Post okk (exE T W B (tc1 ++ tc2) s) (bnd f k s.ρ))
    (hk : ∀ d v s1 g, f s.ρ = .ok d s1.ρ → s1.σ = s.σ → Okk T B s1 → Tmp T B s1.H s1.F s1.φ d v g → Goes tc1 s s1 g → Post okk (exE T W B (tc1 ++ tc2) s) (k d s1.ρ) → Q1 v s1.H) : tD T W tc1 f s.σ s.H Q1 :=
  ⟨B, s, rfl, rfl, r, hp.bnd.imp (fun d ρ1 ⟨e, h⟩ v s1 g e1 e2 r1 t a => by
    subst e1
    exact hk d v s1 g e e2 r1 t a h) fun _ _ _ _ h cls dd s' e1 e2 r' x t => h cls dd s' e1 e2 r' x (t.wk fun j q => List.mem_append.mpr (.inl q))⟩
theorem seqE1 {β : Type} {f : M D} {k : D → M β} {Q1 : VK} {okk : β → En → Prop} (r : Okk T B s) (hp : Post okk (exE T W B tc1 s) (bnd f k s.ρ))
    (hk : ∀ d v s1 g, f s.ρ = .ok d s1.ρ → s1.σ = s.σ → Okk T B s1 → Tmp T B s1.H s1.F s1.φ d v g → Goes tc1 s s1 g → Post okk (exE T W B tc1 s) (k d s1.ρ) → Q1 v s1.H) : tD T W tc1 f s.σ s.H Q1 :=
  ⟨B, s, rfl, rfl, r, hp.bnd.imp (fun d ρ1 ⟨e, h⟩ v s1 g e1 e2 r1 t a => by
    subst e1
    exact hk d v s1 g e e2 r1 t a h) fun _ _ _ _ h => h⟩
/-- the second one: s0 the base, a value held -/
theorem seqE2 {β : Type} {f : M D} {k : D → M β} {Q1 : VK} {okk : β → En → Prop} {s0 : S5} (a0 : Goes tc1 s0 s g0) (hσ : s.σ = s0.σ) (r : Okk T B s) (hp : Post okk (exE T W B (tc1 ++ tc2) s0) (bnd f k s.ρ))
    (hk : ∀ d v s1 g, f s.ρ = .ok d s1.ρ → s1.σ = s.σ → Okk T B s1 → Tmp T B s1.H s1.F s1.φ d v g → Goes tc2 s s1 g → Post okk (exE T W B (tc1 ++ tc2) s0) (k d s1.ρ) → Q1 v s1.H) : tD T W tc2 f s.σ s.H Q1 :=
  ⟨B, s, rfl, rfl, r, hp.bnd.imp (fun d ρ1 ⟨e, h⟩ v s1 g e1 e2 r1 t a => by
    subst e1
    exact hk d v s1 g e e2 r1 t a h) fun _ _ _ _ h => exE.re a0 hσ h⟩
theorem seqA1 {β : Type} {f : M (List D)} {k : List D → M β} {Q1 : List V → Hp → Prop} {okk : β → En → Prop} (r : Okk T B s) (hp : Post okk (exE T W B tc1 s) (bnd f k s.ρ))
    (hk : ∀ d v s1 g, f s.ρ = .ok d s1.ρ → s1.σ = s.σ → Okk T B s1 → Tmps T B s1.H s1.F s1.φ d v g → Goes tc1 s s1 g → Post okk (exE T W B tc1 s) (k d s1.ρ) → Q1 v s1.H) : tDs T W tc1 f s.σ s.H Q1 :=
  ⟨B, s, rfl, rfl, r, hp.bnd.imp (fun d ρ1 ⟨e, h⟩ v s1 g e1 e2 r1 t a => by
    subst e1
    exact hk d v s1 g e e2 r1 t a h) fun _ _ _ _ h => h⟩
theorem seqA2 {β : Type} {f : M (List D)} {k : List D → M β} {Q1 : List V → Hp → Prop} {okk : β → En → Prop} {s0 : S5} (a0 : Goes tc1 s0 s g0) (hσ : s.σ = s0.σ) (r : Okk T B s) (hp : Post okk (exE T W B (tc1 ++ tc2) s0) (bnd f k s.ρ))
    (hk : ∀ d v s1 g, f s.ρ = .ok d s1.ρ → s1.σ = s.σ → Okk T B s1 → Tmps T B s1.H s1.F s1.φ d v g → Goes tc2 s s1 g → Post okk (exE T W B (tc1 ++ tc2) s0) (k d s1.ρ) → Q1 v s1.H) : tDs T W tc2 f s.σ s.H Q1 :=
  ⟨B, s, rfl, rfl, r, hp.bnd.imp (fun d ρ1 ⟨e, h⟩ v s1 g e1 e2 r1 t a => by
    subst e1
    exact hk d v s1 g e e2 r1 t a h) fun _ _ _ _ h => exE.re a0 hσ h⟩
theorem seqT {β : Type} {f : M Bool} {k : Bool → M β} {Q1 : Bool → Hp → Prop} {okk : β → En → Prop} (r : Okk T B s) (hp : Post okk (exE T W B (tc1 ++ tc2) s) (bnd f k s.ρ))
    (hk : ∀ d s1, f s.ρ = .ok d s1.ρ → s1.σ = s.σ → Okk T B s1 → Goes tc1 s s1 [] → Post okk (exE T W B (tc1 ++ tc2) s) (k d s1.ρ) → Q1 d s1.H) : tDT T W tc1 f s.σ s.H Q1 :=
  ⟨B, s, rfl, rfl, r, hp.bnd.imp (fun d ρ1 ⟨e, h⟩ s1 e1 e2 r1 a => by
    subst e1
    exact hk d s1 e e2 r1 a h) fun _ _ _ _ h cls dd s' e1 e2 r' x t => h cls dd s' e1 e2 r' x (t.wk fun j q => List.mem_append.mpr (.inl q))⟩
/-- values in the air, over a move -/
theorem Tmp.go {d : D} {v : V} {g g1 : List Addr} (t : Tmp T B s.H s.F s.φ d v g) (a : Goes tc s s1 g1) : Tmp T B s1.H s1.F s1.φ d v g := t.step a.step.no
theorem Tmps.go {d : List D} {v : List V} {g g1 : List Addr} (t : Tmps T B s.H s.F s.φ d v g) (a : Goes tc s s1 g1) : Tmps T B s1.H s1.F s1.φ d v g := t.step a.step.no
end

/-! ## names, constants -/
def slot (i : Nat) (ρ : En) : Option D := match ρ[i]? with
  | some (.dt d) => some d
  | _ => none
theorem slot_some {i : Nat} {ρ : En} {d : D} (h : slot i ρ = some d) : ρ[i]? = some (.dt d) := by
  unfold slot at h
  split at h
  · rename_i e; cases h; exact e
  · cases h
def dCp (i : Nat) : M D := fun ρ => match slot i ρ with
  | some d => if allF noOw d = true then .ok d ρ else .bad
  | none => .bad
def dMv (i : Nat) : M D := fun ρ => match slot i ρ with
  | some d => .ok d (ρ.set i .un)
  | none => .bad
def dFz (f : M D) : M D := bnd f fun d => ret (mapF flFrz d)

section
variable {X : Cx} {G : Gx} {W : WX} {i : Nat} {x : Str} {pos : Pos}
theorem g_int {n : Int} {j : Nat} : GE X G W [] (.Constant (.int n) j pos) (ret (.int n)) :=
  pe_mono pe_int fun σ H Q ⟨B, s, e1, e2, r, h⟩ => by
    subst e1 e2
    exact h _ s [] rfl rfl r (Tmp.flat (.int n)) Goes.refl
theorem g_bl {n : Bool} {j : Nat} : GE X G W [] (.Constant (.bool n) j pos) (ret (.bl n)) :=
  pe_mono pe_bl fun σ H Q ⟨B, s, e1, e2, r, h⟩ => by
    subst e1 e2
    exact h _ s [] rfl rfl r (Tmp.flat (.bl n)) Goes.refl
theorem g_str {n : Str} {j : Nat} (hs : PyData.strOk n = true := by decide +kernel) : GE X G W [] (.Constant (.str n) j pos) (ret (.str n)) :=
  pe_mono pe_str fun σ H Q ⟨B, s, e1, e2, r, h⟩ => by
    subst e1 e2
    exact h _ s [] rfl rfl r (Tmp.flat (.str n hs)) Goes.refl
theorem g_non {j : Nat} : GE X G W [] (.Constant .none j pos) (ret .non) :=
  pe_mono pe_non fun σ H Q ⟨B, s, e1, e2, r, h⟩ => by
    subst e1 e2
    exact h _ s [] rfl rfl r (Tmp.flat .non) Goes.refl
theorem g_cp (hv : PE X (.Name x pos) (tVar i)) : GE X G W [] (.Name x pos) (dCp i) :=
  pe_mono hv fun σ H Q ⟨B, s, e1, e2, r, h⟩ => by
    subst e1 e2
    unfold dCp at h
    cases e : slot i s.ρ with
    | none => rw [e] at h; exact h.elim
    | some d =>
      rw [e] at h
      dsimp only at h
      split at h
      · rename_i hn
        obtain ⟨v, e2, rp⟩ := r.sl i d (slot_some e)
        have z := rp.noO hn
        rw [z] at rp
        exact ⟨v, e2, h v s [] rfl rfl r (Tmp.flat rp) Goes.refl⟩
      · exact h.elim
/-- slot i emptied: its cells are in the air -/
abbrev S5.take (s : S5) (i : Nat) : S5 := { s with ρ := s.ρ.set i .un, φ := fun j => if j = i then [] else s.φ j }
theorem Rel.take {T : Tx} {σ : L2.St} {B H F : Hp} {ρ : En} {φ : Nat → List Addr} {i : Nat} (r : Rel T σ B H F ρ φ) : Rel T σ B H F (ρ.set i .un) (fun j => if j = i then [] else φ j) := by
  refine ⟨by rw [List.length_set]; exact r.len, r.exB, r.exF, r.exP, fun j d q => ?_, fun j q => ?_, fun j q => ?_, fun j => ?_, fun j k a hn h1 h2 => ?_, fun j a h => ?_⟩
  · by_cases z : j = i
    · subst z
      by_cases hl : j < ρ.length
      · rw [List.getElem?_set_self hl] at q; cases q
      · rw [List.getElem?_eq_none (by rw [List.length_set]; omega)] at q; cases q
    · rw [List.getElem?_set_ne (fun e => z e.symm)] at q
      rw [if_neg z]
      exact r.sl j d q
  · by_cases z : j = i
    · subst z
      by_cases hl : j < ρ.length
      · rw [List.getElem?_set_self hl] at q; cases q
      · rw [List.getElem?_eq_none (by rw [List.length_set]; omega)] at q; cases q
    · rw [List.getElem?_set_ne (fun e => z e.symm)] at q
      exact r.xn j q
  · split
    · rfl
    · rename_i z
      rw [List.getElem?_set_ne (fun e => z e.symm)] at q
      exact r.em j q
  · split
    · exact .nil
    · exact r.nd j
  · split at h1
    · cases h1
    · split at h2
      · cases h2
      · exact r.dj j k a hn h1 h2
  · split at h
    · cases h
    · exact r.ap j a h
theorem take_tmp {T : Tx} {B : Hp} {s : S5} {i : Nat} {d : D} {v : V} (r : Okk T B s) (rp : Rep T B s.H s.F d v (s.φ i)) : Tmp T B s.H s.F (s.take i).φ d v (s.φ i) :=
  ⟨rp, r.nd i, r.ap i, fun a ha q => by
    obtain ⟨j, q⟩ := q
    dsimp only at q
    split at q
    · cases q
    · rename_i z
      exact r.dj j i a z q ha⟩
theorem take_goes {s : S5} {i : Nat} : Goes [i] s (s.take i) (s.φ i) :=
  ⟨Step.refl.drop fun a q => by
    rcases q with ⟨j, q⟩ | q
    · dsimp only at q
      split at q
      · cases q
      · exact ⟨j, q⟩
    · exact ⟨i, q⟩, fun j h => by
    have z : j ≠ i := fun e => h (by rw [e]; exact List.mem_singleton.mpr rfl)
    exact ⟨List.getElem?_set_ne (fun e => z e.symm), if_neg z, fun _ _ => rfl⟩, fun _ _ => rfl⟩
theorem g_mv (hv : PE X (.Name x pos) (tVar i)) : GE X G W [i] (.Name x pos) (dMv i) :=
  pe_mono hv fun σ H Q ⟨B, s, e1, e2, r, h⟩ => by
    subst e1 e2
    unfold dMv at h
    cases e : slot i s.ρ with
    | none => rw [e] at h; exact h.elim
    | some d =>
      rw [e] at h
      obtain ⟨v, e2, rp⟩ := r.sl i d (slot_some e)
      exact ⟨v, e2, h v (s.take i) (s.φ i) rfl rfl r.take (take_tmp r rp) take_goes⟩
/-- cells of the air become frozen -/
abbrev S5.ovl (s : S5) (g : List Addr) : S5 := { s with F := Cs.ovl s.H s.F g }
theorem Goes.ovl {tc : List Nat} {s s1 : S5} {g : List Addr} (a : Goes tc s s1 g) (h : ∀ a ∈ g, s1.F a = none) : Goes tc s (s1.ovl g) [] := ⟨(a.step.ovl h).or0, a.fix, a.sg⟩
/-- the value frozen -/
theorem g_fz {tc : List Nat} {e : Expr} {f : M D} (h : GE X G W tc e f) : GE X G W tc e (dFz f) :=
  pe_mono h fun σ H Q ⟨B, s, e1, e2, r, hp⟩ => by
    subst e1 e2
    refine seqE1 r hp fun d v s1 g _ hs r1 t a h => ?_
    have z : okE (tx X G) B tc s Q (mapF flFrz d) s1.ρ := h
    exact z v (s1.ovl g) [] rfl hs (r1.ovl (fun a q => (t.ap a q).1) t.dj) (Tmp.flat t.frz) (a.ovl fun a q => (t.ap a q).1)
end
end Cs
namespace Cs
open PySem L2 Evl

/-! ## primitive results -/
inductive PR where
  | sc (d : D)
  | nl (ds : List D)
  | nt (ds : List D)
  | bad
def pr : PR → M D
  | .sc d => ret d
  | .nl ds => ret (.lst .ow ds)
  | .nt ds => ret (.tup ds)
  | .bad => bad
def PrOk (T : Tx) (B H F : Hp) (rd : Hp → VK → Prop) : PR → Prop
  | .sc d => ∃ v, Rep T B H F d v [] ∧ ∀ Q : VK, Q v H → rd H Q
  | .nl ds => ∃ vs, Reps T B H F ds vs [] ∧ ∀ Q : VK, (∀ p, H p = none → Q (.ref p) (upd H p (.lst vs))) → rd H Q
  | .nt ds => ∃ vs, Reps T B H F ds vs [] ∧ ∀ Q : VK, (∀ p (o : Obj), o.dict = none → H p = none → Q (.ref p) (upd H p (.frz o (.tup vs)))) → rd H Q
  | .bad => True
section
variable {T : Tx} {B : Hp} {s s1 s2 s' : S5} {W : WX} {tc tc1 tc2 : List Nat} {g : List Addr} {Q : VK}
abbrev S5.new (s : S5) (p : Addr) (o : HO) : S5 := { s with H := upd s.H p o }
abbrev S5.newF (s : S5) (p : Addr) (o : HO) : S5 := { s with H := upd s.H p o, F := upd s.F p o }
theorem goes_new {p : Addr} {o : HO} (r : Okk T B s) (h : s.H p = none) : Goes [] s (s.new p o) [p] :=
  ⟨⟨fun a u e _ => (show upd s.H p o a = some u by rw [upd_ne (ne_of_none e h)]; exact e), Ex.refl _, fun a u e n => (by rw [e] at n; cases n), fun a q => by
    rcases q with q | q
    · exact .inl q
    · rw [List.mem_singleton.mp q]; exact .inr h⟩, fun j _ => ⟨rfl, rfl, fun a ha => by
    obtain ⟨o', e⟩ := r.dom ⟨j, ha⟩
    exact upd_ne (ne_of_none e h)⟩, fun _ _ => rfl⟩
theorem goes_newF {p : Addr} {o : HO} (r : Okk T B s) (h : s.H p = none) : Goes [] s (s.newF p o) [] :=
  ⟨(Step.newF h r.exF).or0, fun j _ => ⟨rfl, rfl, fun a ha => by
    obtain ⟨o', e⟩ := r.dom ⟨j, ha⟩
    exact upd_ne (ne_of_none e h)⟩, fun _ _ => rfl⟩
theorem tmp_newL {p : Addr} {ds : List D} {vs : List V} (r : Okk T B s) (h : s.H p = none) (rp : Reps T B s.H s.F ds vs []) : Tmp T B (s.new p (.lst vs)).H s.F s.φ (.lst .ow ds) (.ref p) [p] :=
  ⟨.lstO upd_same (rp.mono (Ex.refl B) (Ex.refl _) fun a q => by cases q) rfl, List.nodup_cons.mpr ⟨fun q => (by cases q), List.Pairwise.nil⟩, fun a q => by
    rw [List.mem_singleton.mp q]
    exact ⟨r.freeF h, r.freeB h⟩, fun a q => by
    rw [List.mem_singleton.mp q]
    exact r.freeO h⟩
theorem tmp_newT {p : Addr} {ds : List D} {vs : List V} {o : Obj} (ho : o.dict = none) (r : Okk T B s) (h : s.H p = none) (rp : Reps T B s.H s.F ds vs []) : Tmp T B (s.newF p (.frz o (.tup vs))).H (s.newF p (.frz o (.tup vs))).F s.φ (.tup ds) (.ref p) [] :=
  Tmp.flat (.tup (.inl ⟨o, upd_same, ho⟩) (rp.mono (Ex.refl B) (Ex.new (r.freeF h)) fun a q => by cases q))
/-- the last step of an operation -/
theorem pr_fin {rd : Hp → VK → Prop} {p : PR} (hσ : s1.σ = s.σ) (r1 : Okk T B s1) (a : Goes tc s s1 g) (h : PrOk T B s1.H s1.F rd p) (hp : Post (okE T B tc s Q) (exE T W B tc s) (pr p s1.ρ)) : rd s1.H Q := by
  cases p with
  | sc d =>
    obtain ⟨v, rp, k⟩ := h
    exact k Q (hp v s1 [] rfl hσ r1 (Tmp.flat rp) a.drop0)
  | nl ds =>
    obtain ⟨vs, rp, k⟩ := h
    refine k Q fun p hp' => hp (.ref p) (s1.new p (.lst vs)) [p] rfl hσ (r1.new hp') (tmp_newL r1 hp' rp) ?_
    have z := a.trans0 (goes_new (o := .lst vs) r1 hp')
    rw [List.append_nil] at z
    exact z
  | nt ds =>
    obtain ⟨vs, rp, k⟩ := h
    refine k Q fun p o ho hp' => hp (.ref p) (s1.newF p (.frz o (.tup vs))) [] rfl hσ (r1.newF hp') (tmp_newT ho r1 hp' rp) ?_
    have z := a.trans0 (goes_newF (o := .frz o (.tup vs)) r1 hp')
    rw [List.append_nil] at z
    exact z
  | bad => exact hp.elim
end

/-! ## operands: a value, or a name that is looked at when the operation is done -/
inductive Opd where
  | v (f : M D)
  | p (i : Nat)
def dPk (i : Nat) : M D := fun ρ => match slot i ρ with
  | some d => .ok d ρ
  | none => .bad
def rdO (T : Tx) (W : WX) (tc : List Nat) : Opd → TE
  | .v f => tD T W tc f
  | .p i => tVar i
def Opd.fits : Opd → List Nat → Prop
  | .v _, _ => True
  | .p _, tc => tc = []
structure GO (X : Cx) (G : Gx) (W : WX) (tc : List Nat) (e : Expr) (o : Opd) : Prop where
  pe : PE X e (rdO (tx X G) W tc o)
  fits : o.fits tc
theorem go_v {X : Cx} {G : Gx} {W : WX} {tc : List Nat} {e : Expr} {f : M D} (h : GE X G W tc e f) : GO X G W tc e (.v f) := ⟨h, trivial⟩
theorem go_p {X : Cx} {G : Gx} {W : WX} {e : Expr} {i : Nat} (h : PE X e (tVar i)) : GO X G W [] e (.p i) := ⟨h, rfl⟩
def dB (f : M D) : M Bool := bnd f fun d => match d with
  | .bl b => ret b
  | _ => bad
def dOp1 (p : D → PR) : Opd → M D
  | .v f => bnd f fun x => pr (p x)
  | .p i => bnd (dPk i) fun x => pr (p x)
def dOp2 (p : D → D → PR) : Opd → Opd → M D
  | .v f, .v g => bnd f fun x => bnd g fun y => pr (p x y)
  | .p i, .v g => bnd (dPk i) fun _ => bnd g fun y => bnd (dPk i) fun x => pr (p x y)
  | .v f, .p j => bnd f fun x => bnd (dPk j) fun y => pr (p x y)
  | .p i, .p j => bnd (dPk i) fun x => bnd (dPk j) fun y => pr (p x y)
def P1 (T : Tx) (r : V → Hp → VK → Prop) (p : D → PR) : Prop := ∀ B H F d v g, Ex F H → Ex B H → Rep T B H F d v g → PrOk T B H F (r v) (p d)
def P2 (T : Tx) (r : R2) (p : D → D → PR) : Prop := ∀ B H F d v g e u k, Ex F H → Ex B H → Rep T B H F d v g → Rep T B H F e u k → PrOk T B H F (r v u) (p d e)
theorem pk_bnd {β : Type} {i : Nat} {k : D → M β} {okk : β → En → Prop} {exk : Str → List Str → List D → En → Prop} {ρ : En} (h : Post okk exk (bnd (dPk i) k ρ)) : ∃ d, slot i ρ = some d ∧ Post okk exk (k d ρ) := by
  cases e : slot i ρ with
  | none =>
    have z : dPk i ρ = .bad := by unfold dPk; rw [e]
    rw [bnd_bad z] at h
    exact h.elim
  | some d =>
    have z : dPk i ρ = .ok d ρ := by unfold dPk; rw [e]
    rw [bnd_ok z] at h
    exact ⟨d, rfl, h⟩
section
variable {T : Tx} {W : WX} {tc t1 t2 : List Nat}
theorem tun_core {r : V → Hp → VK → Prop} {p : D → PR} {o : Opd} (hr : P1 T r p) (hf : o.fits tc) {σ : L2.St} {H : Hp} {Q : VK} (h : tD T W tc (dOp1 p o) σ H Q) : tUn r (rdO T W tc o) σ H Q := by
  obtain ⟨B, s, e1, e2, rl, h⟩ := h
  subst e1 e2
  cases o with
  | v f => exact seqE1 rl h fun d v s1 g _ hs r1 t a h => pr_fin hs r1 a (hr B s1.H s1.F d v g r1.exF r1.exB t.rep) h
  | p i =>
    obtain ⟨d, e, h⟩ := pk_bnd h
    obtain ⟨v, e2, rp⟩ := rl.sl i d (slot_some e)
    exact ⟨v, e2, pr_fin rfl rl Goes.refl (hr B s.H s.F d v _ rl.exF rl.exB rp) h⟩
theorem top_core {r : R2} {p : D → D → PR} {o1 o2 : Opd} (hr : P2 T r p) (hf1 : o1.fits t1) (hf2 : o2.fits t2) {σ : L2.St} {H : Hp} {Q : VK} (h : tD T W (t1 ++ t2) (dOp2 p o1 o2) σ H Q) : tOp r (rdO T W t1 o1) (rdO T W t2 o2) σ H Q := by
  obtain ⟨B, s, e1, e2, rl, h⟩ := h
  subst e1 e2
  cases o1 with
  | v f =>
    cases o2 with
    | v f2 =>
      refine seqE rl h fun d v s1 g _ hs r1 t a h => ?_
      show tD T W t2 f2 s.σ s1.H _
      rw [← hs]
      refine seqE2 a hs r1 h fun d2 v2 s2 g2 _ hs2 r2 t2 a2 h => ?_
      exact pr_fin (hs2.trans hs) r2 (a.trans a2) (hr B s2.H s2.F d v g d2 v2 g2 r2.exF r2.exB (t.go a2).rep t2.rep) h
    | p j =>
      have z : t2 = [] := hf2
      subst z
      rw [List.append_nil] at h
      refine seqE1 rl h fun d v s1 g _ hs r1 t a h => ?_
      obtain ⟨d2, e, h⟩ := pk_bnd h
      obtain ⟨v2, e2, rp⟩ := r1.sl j d2 (slot_some e)
      rw [hs] at e2
      exact ⟨v2, e2, pr_fin hs r1 a (hr B s1.H s1.F d v g d2 v2 _ r1.exF r1.exB t.rep rp) h⟩
  | p i =>
    have z : t1 = [] := hf1
    subst z
    rw [List.nil_append] at h
    cases o2 with
    | v f2 =>
      obtain ⟨d0, e0, h⟩ := pk_bnd h
      obtain ⟨v0, e00, _⟩ := rl.sl i d0 (slot_some e0)
      refine ⟨v0, e00, seqE1 rl h fun d2 v2 s1 g _ hs r1 t a h => ?_⟩
      obtain ⟨d, e, h⟩ := pk_bnd h
      obtain ⟨v, e2, rp⟩ := r1.sl i d (slot_some e)
      have ev : v = v0 := by
        rw [hs, e00] at e2
        cases e2
        rfl
      subst ev
      exact pr_fin hs r1 a (hr B s1.H s1.F d v _ d2 v2 g r1.exF r1.exB rp t.rep) h
    | p j =>
      have z : t2 = [] := hf2
      subst z
      obtain ⟨d, e, h⟩ := pk_bnd h
      obtain ⟨d2, e', h⟩ := pk_bnd h
      obtain ⟨v, e2, rp⟩ := rl.sl i d (slot_some e)
      obtain ⟨v2, e2', rp2⟩ := rl.sl j d2 (slot_some e')
      exact ⟨v, e2, v2, e2', pr_fin rfl rl Goes.refl (hr B s.H s.F d v _ d2 v2 _ rl.exF rl.exB rp rp2) h⟩
/-- a value's truth, where it is a bool -/
theorem tB_core {f : M D} {σ : L2.St} {H : Hp} {Q : Bool → Hp → Prop} (h : tDT T W tc (dB f) σ H Q) : tD T W tc f σ H (fun x H1 => ∃ c, x = .bl c ∧ Q c H1) := by
  obtain ⟨B, s, e1, e2, rl, h⟩ := h
  subst e1 e2
  refine seqE1 rl h fun d v s1 g _ hs r1 t a h => ?_
  cases d with
  | bl b =>
    obtain ⟨rp, _, _, _⟩ := t
    cases rp
    exact ⟨b, rfl, h s1 rfl hs r1 a.drop0⟩
  | _ => exact h.elim
end
section
variable {X : Cx} {G : Gx} {W : WX} {tc t1 t2 : List Nat} {e a b : Expr} {pos : Pos}
theorem tun_of {r : V → Hp → VK → Prop} {p : D → PR} {o : Opd} (hr : P1 (tx X G) r p) (ho : GO X G W tc e o) {t : Expr} (hpe : ∀ ta, PE X e ta → PE X t (tUn r ta)) : GE X G W tc t (dOp1 p o) :=
  pe_mono (hpe _ ho.pe) fun _ _ _ h => tun_core hr ho.fits h
theorem top_of {r : R2} {p : D → D → PR} {o1 o2 : Opd} (hr : P2 (tx X G) r p) (h1 : GO X G W t1 a o1) (h2 : GO X G W t2 b o2) {t : Expr} (hpe : ∀ ta tb, PE X a ta → PE X b tb → PE X t (tOp r ta tb)) : GE X G W (t1 ++ t2) t (dOp2 p o1 o2) :=
  pe_mono (hpe _ _ h1.pe h2.pe) fun _ _ _ h => top_core hr h1.fits h2.fits h
theorem topT_of {r : R2} {p : D → D → PR} {o1 o2 : Opd} (hr : P2 (tx X G) r p) (h1 : GO X G W t1 a o1) (h2 : GO X G W t2 b o2) {t : Expr} (hpe : ∀ ta tb, PE X a ta → PE X b tb → PT X t (tTest (tOp r ta tb))) : GT X G W (t1 ++ t2) t (dB (dOp2 p o1 o2)) :=
  pt_mono (hpe _ _ h1.pe h2.pe) fun _ _ _ h => top_core hr h1.fits h2.fits (tB_core h)
end
end Cs
namespace Cs
open PySem L2 Evl

theorem op_alt {X : Cx} {f : Value → Value → Sem Value} {r1 r2 : R2} (h1 : OpR X f r1) (h2 : OpR X f r2) : OpR X f (fun x y H Q => r1 x y H Q ∨ r2 x y H Q) :=
  fun pins s σ H x y v u Q I rx ry h => h.elim (h1 pins s σ H x y v u Q I rx ry) (h2 pins s σ H x y v u Q I rx ry)

/-! ## data as the library's data -/
mutual
def toPy : D → PyData
  | .non => .none
  | .bl b => .bool b
  | .int i => .int i
  | .str s => .str s
  | .tup xs => .tuple (toPys xs)
  | .lst _ xs => .list (toPys xs)
  | .cls _ => .none
  | .dct _ _ _ => .none
  | .obj _ _ _ _ => .none
def toPys : List D → List PyData
  | [] => []
  | d :: ds => toPy d :: toPys ds
end
mutual
def dep : D → Nat
  | .non => 0
  | .bl _ => 0
  | .int _ => 0
  | .str _ => 0
  | .tup xs => deps xs + 1
  | .lst _ xs => deps xs + 1
  | .cls _ => 1000
  | .dct _ _ _ => 1000
  | .obj _ _ _ _ => 1000
def deps : List D → Nat
  | [] => 0
  | d :: ds => max (dep d) (deps ds)
end
theorem toPys_map : ∀ xs : List D, toPys xs = xs.map toPy
  | [] => rfl
  | x :: xs => by rw [toPys, toPys_map xs]; rfl
theorem deps_le {n : Nat} : ∀ {xs : List D}, deps xs ≤ n ↔ ∀ x ∈ xs, dep x ≤ n
  | [] => by simp [deps]
  | x :: xs => by
    rw [deps, Nat.max_le, deps_le (xs := xs)]
    simp
mutual
theorem dep_py : ∀ d : D, dep d < 1000 → (toPy d).depth = dep d
  | .non, _ => by rw [toPy, dep, PyData.depth]
  | .bl _, _ => by rw [toPy, dep, PyData.depth]
  | .int _, _ => by rw [toPy, dep, PyData.depth]
  | .str _, _ => by rw [toPy, dep, PyData.depth]
  | .tup xs, h => by
    rw [dep] at h
    rw [toPy, dep, PyData.depth, deps_py xs (by omega)]
  | .lst _ xs, h => by
    rw [dep] at h
    rw [toPy, dep, PyData.depth, deps_py xs (by omega)]
  | .cls _, h => by rw [dep] at h; omega
  | .dct _ _ _, h => by rw [dep] at h; omega
  | .obj _ _ _ _, h => by rw [dep] at h; omega
theorem deps_py : ∀ xs : List D, deps xs < 1000 → PyData.depthAll (toPys xs) = deps xs
  | [], _ => by rw [toPys, deps, PyData.depthAll]
  | x :: xs, h => by
    rw [deps] at h
    rw [toPys, deps, PyData.depthAll, dep_py x (by omega), deps_py xs (by omega)]
end
section
variable {T : Tx} {B H F : Hp}
mutual
theorem Rep.dp (eF : Ex F H) (eB : Ex B H) : ∀ {d : D} {v : V} {g : List Addr}, Rep T B H F d v g → dep d < 1000 → Dp T.K H v (toPy d) ∧ (toPy d).canLay0 = true
  | _, _, _, .non, _ => by rw [toPy, PyData.canLay0]; exact ⟨.non, rfl⟩
  | _, _, _, .bl b, _ => by rw [toPy, PyData.canLay0]; exact ⟨.bl b, rfl⟩
  | _, _, _, .int i, _ => by rw [toPy, PyData.canLay0]; exact ⟨.int i, rfl⟩
  | _, _, _, .str s hs, _ => by rw [toPy, PyData.canLay0]; exact ⟨.str s, hs⟩
  | _, _, _, .cls _, h => by rw [dep] at h; omega
  | _, _, _, .tup q r, h => by
    rw [dep] at h
    obtain ⟨a, b⟩ := Reps.dp eF eB r (by omega)
    rw [toPy, PyData.canLay0]
    exact ⟨.tup (ex_t eF q.sq) a, b⟩
  | _, _, _, .lstF q r, h => by
    rw [dep] at h
    obtain ⟨a, b⟩ := Reps.dp eF eB r (by omega)
    rw [toPy, PyData.canLay0]
    exact ⟨.lst (sq_of (eF _ _ q)) a, b⟩
  | _, _, _, .lstR q r, h => by
    rw [dep] at h
    obtain ⟨a, b⟩ := Reps.dp eF eB r (by omega)
    rw [toPy, PyData.canLay0]
    exact ⟨.lst (ex_l eF q) a, b⟩
  | _, _, _, .lstB q r, h => by
    rw [dep] at h
    obtain ⟨a, b⟩ := Reps.dp eF eB r (by omega)
    rw [toPy, PyData.canLay0]
    exact ⟨.lst (sq_of (eB _ _ q)) a, b⟩
  | _, _, _, .lstO q r _, h => by
    rw [dep] at h
    obtain ⟨a, b⟩ := Reps.dp eF eB r (by omega)
    rw [toPy, PyData.canLay0]
    exact ⟨.lst (sq_of q) a, b⟩
  | _, _, _, .dctF _ _ _, h => by rw [dep] at h; omega
  | _, _, _, .dctB _ _ _, h => by rw [dep] at h; omega
  | _, _, _, .dctO _ _ _ _, h => by rw [dep] at h; omega
  | _, _, _, .objF _ _ _ _ _, h => by rw [dep] at h; omega
  | _, _, _, .objB _ _ _ _ _, h => by rw [dep] at h; omega
  | _, _, _, .objO _ _ _ _ _ _, h => by rw [dep] at h; omega
theorem Reps.dp (eF : Ex F H) (eB : Ex B H) : ∀ {ds : List D} {vs : List V} {g : List Addr}, Reps T B H F ds vs g → deps ds < 1000 → DpAll T.K H vs (toPys ds) ∧ PyData.canLayAll0 (toPys ds) = true
  | _, _, _, .nil, _ => by rw [toPys, PyData.canLayAll0]; exact ⟨.nil, rfl⟩
  | _, _, _, .cons r rs _, h => by
    rw [deps] at h
    obtain ⟨a, b⟩ := Rep.dp eF eB r (by omega)
    obtain ⟨a2, b2⟩ := Reps.dp eF eB rs (by omega)
    rw [toPys, PyData.canLayAll0]
    exact ⟨.cons a a2, by rw [b, b2]; rfl⟩
end
theorem Rep.shaped (eF : Ex F H) (eB : Ex B H) {d : D} {v : V} {g : List Addr} (r : Rep T B H F d v g) (h : dep d ≤ 60) : Dp T.K H v (toPy d) ∧ SeqAt.shaped (toPy d) = true := by
  obtain ⟨a, b⟩ := r.dp eF eB (by omega)
  refine ⟨a, ?_⟩
  unfold SeqAt.shaped
  rw [b, dep_py d (by omega), decide_eq_true (by omega : dep d ≤ 64)]
  rfl
/-- a list by its parts -/
theorem Rep.list (eF : Ex F H) (eB : Ex B H) {o : Fl} {ds : List D} {v : V} {g : List Addr} (r : Rep T B H F (.lst o ds) v g) : ∃ a vs g', v = .ref a ∧ SqL T.K H a vs ∧ Reps T B H F ds vs g' ∧ (o ≠ .ro → H a = some (.lst vs)) := by
  cases r with
  | lstF h r => exact ⟨_, _, _, rfl, sq_of (eF _ _ h), r, fun _ => eF _ _ h⟩
  | lstR h r => exact ⟨_, _, _, rfl, ex_l eF h, r, fun z => absurd rfl z⟩
  | lstB h r => exact ⟨_, _, _, rfl, sq_of (eB _ _ h), r, fun _ => eB _ _ h⟩
  | lstO h r e => exact ⟨_, _, _, rfl, sq_of h, r, fun _ => h⟩
theorem Rep.tuple (eF : Ex F H) {ds : List D} {v : V} {g : List Addr} (r : Rep T B H F (.tup ds) v g) : ∃ a vs g', v = .ref a ∧ SqT T.K H a vs ∧ Reps T B H F ds vs g' := by
  cases r with
  | tup h r => exact ⟨_, _, _, rfl, ex_t eF h.sq, r⟩
theorem Reps.noOw {ds : List D} {vs : List V} {g : List Addr} (r : Reps T B H F ds vs g) (h : allFs Cs.noOw ds = true) : Reps T B H F ds vs [] := by
  have z := r.noO h
  rw [z] at r
  exact r
theorem Reps.append {ds es : List D} {vs us : List V} : Reps T B H F ds vs [] → Reps T B H F es us [] → Reps T B H F (ds ++ es) (vs ++ us) [] := by
  intro a b
  induction ds generalizing vs with
  | nil => cases a; exact b
  | cons d ds ih =>
    cases a with
    | cons r rs e =>
      obtain ⟨e1, e2⟩ := List.append_eq_nil_iff.mp e.symm
      subst e1 e2
      exact .cons r (ih rs) rfl
theorem Reps.get {ds : List D} {vs : List V} {g : List Addr} {i : Nat} {d : D} : Reps T B H F ds vs g → ds[i]? = some d → ∃ v g', vs[i]? = some v ∧ Rep T B H F d v g' := by
  intro a b
  induction ds generalizing vs g i with
  | nil => simp at b
  | cons x ds ih =>
    cases a with
    | cons r rs e =>
      cases i with
      | zero =>
        have e1 : x = d := by simpa using b
        subst e1
        exact ⟨_, _, rfl, r⟩
      | succ i =>
        obtain ⟨v, g', h1, h2⟩ := ih rs (by simpa using b)
        exact ⟨v, g', by simpa using h1, h2⟩
theorem rep_v {d : D} {v : V} {g : List Addr} (r : Rep T B H F d v g) (h : allF Cs.noOw d = true) : Rep T B H F d v [] := by
  have z := r.noO h
  rw [z] at r
  exact r
end

/-! ## the operations on data -/
abbrev lim : Nat := 100000
theorem lim_le {n : Nat} (h : n ≤ lim) : n ≤ sizeLine := Nat.le_trans h (by decide)
theorem lim_lt {n : Nat} (h : n < lim) : n < sizeLine := Nat.lt_of_lt_of_le h (by decide)
def eqD (d e : D) : Bool := PyData.eqv (toPy d) (toPy e)
def pAdd : D → D → PR
  | .int i, .int j => .sc (.int (i + j))
  | .str a, .str b => if a.length + b.length ≤ lim then .sc (.str (a ++ b)) else .bad
  | .lst o xs, .lst o' ys => if (o ≠ .ro ∧ o' ≠ .ro) ∧ (allFs noOw xs = true ∧ allFs noOw ys = true) ∧ xs.length + ys.length ≤ lim then .nl (xs ++ ys) else .bad
  | _, _ => .bad
def pSub : D → D → PR
  | .int i, .int j => .sc (.int (i - j))
  | _, _ => .bad
def pMul : D → D → PR
  | .int i, .int j => if (-(2 ^ 64) < i ∧ i < 2 ^ 64) ∨ (-(2 ^ 64) < j ∧ j < 2 ^ 64) then .sc (.int (i * j)) else .bad
  | _, _ => .bad
def pFdiv : D → D → PR
  | .int i, .int j => if 0 < j ∧ j < 1073741824 then .sc (.int (i / j)) else .bad
  | _, _ => .bad
def pMod : D → D → PR
  | .int i, .int j => if 0 < j then .sc (.int (i % j)) else .bad
  | _, _ => .bad
def pPow : D → D → PR
  | .int i, .int j => if 0 ≤ j ∧ j ≤ 1000000 ∧ i.natAbs < 2 ^ 64 then .sc (.int (i ^ j.toNat)) else .bad
  | _, _ => .bad
def pShl : D → D → PR
  | .int i, .int j => if 0 ≤ j ∧ j ≤ 1000000 ∧ i.natAbs < 2 ^ 64 then .sc (.int (i * 2 ^ j.toNat)) else .bad
  | _, _ => .bad
def pShr : D → D → PR
  | .int i, .int j => if 0 ≤ j then .sc (.int (i / 2 ^ j.toNat)) else .bad
  | _, _ => .bad
def pBand : D → D → PR
  | .int i, .int j => .sc (.int (Builtin.bitAnd i j))
  | _, _ => .bad
def pBor : D → D → PR
  | .int i, .int j => .sc (.int (Builtin.bitOr i j))
  | _, _ => .bad
def pEq (d e : D) : PR := if dep d ≤ 60 ∧ dep e ≤ 60 then .sc (.bl (eqD d e)) else .bad
def pNe (d e : D) : PR := if dep d ≤ 60 ∧ dep e ≤ 60 then .sc (.bl (!eqD d e)) else .bad
def pLt : D → D → PR
  | .int i, .int j => .sc (.bl (decide (i < j)))
  | _, _ => .bad
def pLe : D → D → PR
  | .int i, .int j => .sc (.bl (decide (i ≤ j)))
  | _, _ => .bad
def pGt : D → D → PR
  | .int i, .int j => .sc (.bl (decide (j < i)))
  | _, _ => .bad
def pGe : D → D → PR
  | .int i, .int j => .sc (.bl (decide (j ≤ i)))
  | _, _ => .bad
def isNon : D → Bool
  | .non => true
  | _ => false
def pIs (d : D) : D → PR
  | .non => .sc (.bl (isNon d))
  | _ => .bad
def pIsNot (d : D) : D → PR
  | .non => .sc (.bl (!isNon d))
  | _ => .bad
def flat : D → Bool
  | .non => true
  | .bl _ => true
  | .int _ => true
  | .str _ => true
  | _ => false
def pIn (d : D) : D → PR
  | .lst _ xs => if dep d ≤ 60 ∧ deps xs ≤ 59 then .sc (.bl (xs.any fun y => eqD y d)) else .bad
  | .tup xs => if flat d = true ∧ xs.all flat = true then .sc (.bl (xs.any fun y => eqD y d)) else .bad
  | .str z => match d with
    | .str c => if c.cps.size = 1 then .sc (.bl (decide (c.cps.getD 0 0 ∈ z.cps.toList))) else .bad
    | _ => .bad
  | _ => .bad
def pNotIn (d : D) : D → PR
  | .lst _ xs => if dep d ≤ 60 ∧ deps xs ≤ 59 then .sc (.bl (!xs.any fun y => eqD y d)) else .bad
  | .tup xs => if flat d = true ∧ xs.all flat = true then .sc (.bl (!xs.any fun y => eqD y d)) else .bad
  | .str z => match d with
    | .str c => if c.cps.size = 1 then .sc (.bl (!decide (c.cps.getD 0 0 ∈ z.cps.toList))) else .bad
    | _ => .bad
  | _ => .bad
def pIx : D → D → PR
  | .lst _ xs, .int i => match atI xs i with
    | some d => if allF noOw d = true then .sc d else .bad
    | none => .bad
  | .tup xs, .int i => match atI xs i with
    | some d => if allF noOw d = true then .sc d else .bad
    | none => .bad
  | .str z, .int i => if z.length ≤ lim then match atI z.cps.toList i with
    | some c => .sc (.str ⟨#[c]⟩)
    | none => .bad
    else .bad
  | _, _ => .bad

/-! ## they are right -/
theorem strOk_append {a b : Str} (ha : PyData.strOk a = true) (hb : PyData.strOk b = true) : PyData.strOk (a ++ b) = true := by
  unfold PyData.strOk at *
  have e : (a ++ b).cps = a.cps ++ b.cps := rfl
  rw [e, Array.all_append, ha, hb]
  rfl
theorem strOk_sign {z : Str} {c : Nat} (h : PyData.strOk z = true) (hc : c ∈ z.cps.toList) : PyData.strOk ⟨#[c]⟩ = true := by
  unfold PyData.strOk at *
  rw [Array.all_eq_true'] at h
  have := h c (by simpa using hc)
  simpa using this
section
variable {T : Tx}
theorem p2_int {g : Int → Int → V} {gd : Int → Int → D} {p : D → D → PR} (hp : ∀ i j, p (.int i) (.int j) = .sc (gd i j)) (hn : ∀ d e, (∀ i j, ¬ (d = .int i ∧ e = .int j)) → p d e = .bad) (hg : ∀ B H F i j, Rep T B H F (gd i j) (g i j) []) : P2 T (rI0 g) p := by
  intro B H F d v k e u k' eF eB r1 r2
  by_cases hd : ∃ i j, d = .int i ∧ e = .int j
  · obtain ⟨i, j, rfl, rfl⟩ := hd
    cases r1
    cases r2
    rw [hp]
    exact ⟨g i j, hg B H F i j, fun Q q => ⟨i, j, rfl, rfl, q⟩⟩
  · rw [hn d e fun i j z => hd ⟨i, j, z⟩]
    trivial
theorem p2_intC {C : Int → Int → Prop} {g : Int → Int → V} {gd : Int → Int → D} {p : D → D → PR} (hp : ∀ i j, p (.int i) (.int j) = .bad ∨ (C i j ∧ p (.int i) (.int j) = .sc (gd i j))) (hn : ∀ d e, (∀ i j, ¬ (d = .int i ∧ e = .int j)) → p d e = .bad) (hg : ∀ B H F i j, Rep T B H F (gd i j) (g i j) []) : P2 T (rI C g) p := by
  intro B H F d v k e u k' eF eB r1 r2
  by_cases hd : ∃ i j, d = .int i ∧ e = .int j
  · obtain ⟨i, j, rfl, rfl⟩ := hd
    cases r1
    cases r2
    rcases hp i j with h | ⟨c, h⟩
    · rw [h]; trivial
    · rw [h]
      exact ⟨g i j, hg B H F i j, fun Q q => ⟨i, j, rfl, rfl, c, q⟩⟩
  · rw [hn d e fun i j z => hd ⟨i, j, z⟩]
    trivial
end
end Cs
namespace Cs
open PySem L2 Evl

section
variable {X : Cx} {G : Gx} {W : WX} {t1 t2 : List Nat} {a b : Expr} {o1 o2 : Opd} {pos : Pos}

/-! ## + - * and their like -/
def rAddA : R2 := fun x y H Q => rI0 (fun i j => V.int (i + j)) x y H Q ∨ ((∃ i j, x = .str i ∧ y = .str j ∧ i.length + j.length ≤ sizeLine ∧ Q (.str (i ++ j)) H) ∨ rCat x y H Q)
theorem op_addA : OpR X (binaryOp .Add) rAddA := op_alt op_add (op_alt op_add_str op_cat)
theorem p2_add {T : Tx} : P2 T rAddA pAdd := by
  intro B H F d v g e u k eF eB r1 r2
  cases d with
  | int i =>
    cases e with
    | int j =>
      cases r1; cases r2
      exact ⟨_, .int _, fun Q q => .inl ⟨i, j, rfl, rfl, q⟩⟩
    | _ => trivial
  | str x =>
    cases e with
    | str y =>
      unfold pAdd
      try dsimp only
      split
      · rename_i hl
        cases r1 with
        | str _ h1 =>
          cases r2 with
          | str _ h2 => exact ⟨_, .str _ (strOk_append h1 h2), fun Q q => .inr (.inl ⟨x, y, rfl, rfl, lim_le hl, q⟩)⟩
      · trivial
    | _ => trivial
  | lst o xs =>
    cases e with
    | lst o' ys =>
      unfold pAdd
      try dsimp only
      split
      · rename_i hl
        obtain ⟨⟨n1, n2⟩, ⟨w1, w2⟩, hl⟩ := hl
        obtain ⟨p, vs, g1, rfl, _, rp, hh⟩ := r1.list eF eB
        obtain ⟨q, us, g2, rfl, _, rq, hh2⟩ := r2.list eF eB
        refine ⟨vs ++ us, (rp.noOw w1).append (rq.noOw w2), fun Q k => .inr (.inr ⟨p, q, vs, us, rfl, rfl, hh n1, hh2 n2, ?_, k⟩)⟩
        rw [← rp.len, ← rq.len]
        exact lim_le hl
      · trivial
    | _ => trivial
  | _ => trivial
theorem g_add (h1 : GO X G W t1 a o1) (h2 : GO X G W t2 b o2) : GE X G W (t1 ++ t2) (.BinOp a .Add b pos) (dOp2 pAdd o1 o2) := top_of p2_add h1 h2 fun _ _ ha hb => pe_op op_addA ha hb
theorem p2_sub {T : Tx} : P2 T (rI0 fun i j => .int (i - j)) pSub := p2_int (gd := fun i j => .int (i - j)) (fun _ _ => rfl) (fun d e h => by cases d <;> cases e <;> first | rfl | exact absurd ⟨rfl, rfl⟩ (h _ _)) fun _ _ _ _ _ => .int _
theorem g_sub (h1 : GO X G W t1 a o1) (h2 : GO X G W t2 b o2) : GE X G W (t1 ++ t2) (.BinOp a .Sub b pos) (dOp2 pSub o1 o2) := top_of p2_sub h1 h2 fun _ _ ha hb => pe_op op_sub ha hb
theorem p2_mul {T : Tx} : P2 T (rI CMul fun i j => .int (i * j)) pMul := p2_intC (gd := fun i j => .int (i * j)) (fun i j => by
  unfold pMul
  try dsimp only
  split
  · rename_i h; exact .inr ⟨h, rfl⟩
  · exact .inl rfl) (fun d e h => by cases d <;> cases e <;> first | rfl | exact absurd ⟨rfl, rfl⟩ (h _ _)) fun _ _ _ _ _ => .int _
theorem g_mul (h1 : GO X G W t1 a o1) (h2 : GO X G W t2 b o2) : GE X G W (t1 ++ t2) (.BinOp a .Mult b pos) (dOp2 pMul o1 o2) := top_of p2_mul h1 h2 fun _ _ ha hb => pe_op op_mul ha hb
theorem p2_fdiv {T : Tx} : P2 T (rI CDiv fun i j => .int (i / j)) pFdiv := p2_intC (gd := fun i j => .int (i / j)) (fun i j => by
  unfold pFdiv
  try dsimp only
  split
  · rename_i h; exact .inr ⟨h, rfl⟩
  · exact .inl rfl) (fun d e h => by cases d <;> cases e <;> first | rfl | exact absurd ⟨rfl, rfl⟩ (h _ _)) fun _ _ _ _ _ => .int _
theorem g_fdiv (h1 : GO X G W t1 a o1) (h2 : GO X G W t2 b o2) : GE X G W (t1 ++ t2) (.BinOp a .FloorDiv b pos) (dOp2 pFdiv o1 o2) := top_of p2_fdiv h1 h2 fun _ _ ha hb => pe_op op_fdiv ha hb
theorem p2_mod {T : Tx} : P2 T (rI (fun _ j => 0 < j) fun i j => .int (i % j)) pMod := p2_intC (gd := fun i j => .int (i % j)) (fun i j => by
  unfold pMod
  try dsimp only
  split
  · rename_i h; exact .inr ⟨h, rfl⟩
  · exact .inl rfl) (fun d e h => by cases d <;> cases e <;> first | rfl | exact absurd ⟨rfl, rfl⟩ (h _ _)) fun _ _ _ _ _ => .int _
theorem g_mod (h1 : GO X G W t1 a o1) (h2 : GO X G W t2 b o2) : GE X G W (t1 ++ t2) (.BinOp a .Mod b pos) (dOp2 pMod o1 o2) := top_of p2_mod h1 h2 fun _ _ ha hb => pe_op op_mod ha hb
theorem p2_pow {T : Tx} : P2 T (rI CPow fun i j => .int (i ^ j.toNat)) pPow := p2_intC (gd := fun i j => .int (i ^ j.toNat)) (fun i j => by
  unfold pPow
  try dsimp only
  split
  · rename_i h; exact .inr ⟨h, rfl⟩
  · exact .inl rfl) (fun d e h => by cases d <;> cases e <;> first | rfl | exact absurd ⟨rfl, rfl⟩ (h _ _)) fun _ _ _ _ _ => .int _
theorem g_pow (h1 : GO X G W t1 a o1) (h2 : GO X G W t2 b o2) : GE X G W (t1 ++ t2) (.BinOp a .Pow b pos) (dOp2 pPow o1 o2) := top_of p2_pow h1 h2 fun _ _ ha hb => pe_op op_pow ha hb
theorem p2_shl {T : Tx} : P2 T (rI CPow fun i j => .int (i * 2 ^ j.toNat)) pShl := p2_intC (gd := fun i j => .int (i * 2 ^ j.toNat)) (fun i j => by
  unfold pShl
  try dsimp only
  split
  · rename_i h; exact .inr ⟨h, rfl⟩
  · exact .inl rfl) (fun d e h => by cases d <;> cases e <;> first | rfl | exact absurd ⟨rfl, rfl⟩ (h _ _)) fun _ _ _ _ _ => .int _
theorem g_shl (h1 : GO X G W t1 a o1) (h2 : GO X G W t2 b o2) : GE X G W (t1 ++ t2) (.BinOp a .LShift b pos) (dOp2 pShl o1 o2) := top_of p2_shl h1 h2 fun _ _ ha hb => pe_op op_shl ha hb
theorem p2_shr {T : Tx} : P2 T (rI (fun _ j => 0 ≤ j) fun i j => .int (i / 2 ^ j.toNat)) pShr := p2_intC (gd := fun i j => .int (i / 2 ^ j.toNat)) (fun i j => by
  unfold pShr
  try dsimp only
  split
  · rename_i h; exact .inr ⟨h, rfl⟩
  · exact .inl rfl) (fun d e h => by cases d <;> cases e <;> first | rfl | exact absurd ⟨rfl, rfl⟩ (h _ _)) fun _ _ _ _ _ => .int _
theorem g_shr (h1 : GO X G W t1 a o1) (h2 : GO X G W t2 b o2) : GE X G W (t1 ++ t2) (.BinOp a .RShift b pos) (dOp2 pShr o1 o2) := top_of p2_shr h1 h2 fun _ _ ha hb => pe_op op_shr ha hb
theorem p2_band {T : Tx} : P2 T (rI0 fun i j => .int (Builtin.bitAnd i j)) pBand := p2_int (gd := fun i j => .int (Builtin.bitAnd i j)) (fun _ _ => rfl) (fun d e h => by cases d <;> cases e <;> first | rfl | exact absurd ⟨rfl, rfl⟩ (h _ _)) fun _ _ _ _ _ => .int _
theorem g_band (h1 : GO X G W t1 a o1) (h2 : GO X G W t2 b o2) : GE X G W (t1 ++ t2) (.BinOp a .BitAnd b pos) (dOp2 pBand o1 o2) := top_of p2_band h1 h2 fun _ _ ha hb => pe_op op_and ha hb
theorem p2_bor {T : Tx} : P2 T (rI0 fun i j => .int (Builtin.bitOr i j)) pBor := p2_int (gd := fun i j => .int (Builtin.bitOr i j)) (fun _ _ => rfl) (fun d e h => by cases d <;> cases e <;> first | rfl | exact absurd ⟨rfl, rfl⟩ (h _ _)) fun _ _ _ _ _ => .int _
theorem g_bor (h1 : GO X G W t1 a o1) (h2 : GO X G W t2 b o2) : GE X G W (t1 ++ t2) (.BinOp a .BitOr b pos) (dOp2 pBor o1 o2) := top_of p2_bor h1 h2 fun _ _ ha hb => pe_op op_or ha hb

/-! ## comparisons -/
theorem p2_eq {T : Tx} : P2 T (rEqD T.K) pEq := by
  intro B H F d v g e u k eF eB r1 r2
  unfold pEq
  try dsimp only
  split
  · rename_i h
    obtain ⟨h1, s1⟩ := r1.shaped eF eB h.1
    obtain ⟨h2, s2⟩ := r2.shaped eF eB h.2
    exact ⟨_, .bl _, fun Q q => ⟨_, _, h1, h2, s1, s2, q⟩⟩
  · trivial
theorem p2_ne {T : Tx} : P2 T (rNeD T.K) pNe := by
  intro B H F d v g e u k eF eB r1 r2
  unfold pNe
  try dsimp only
  split
  · rename_i h
    obtain ⟨h1, s1⟩ := r1.shaped eF eB h.1
    obtain ⟨h2, s2⟩ := r2.shaped eF eB h.2
    exact ⟨_, .bl _, fun Q q => ⟨_, _, h1, h2, s1, s2, q⟩⟩
  · trivial
theorem g_eq (hu : X.A.units + 65 < cLine) (h1 : GO X G W t1 a o1) (h2 : GO X G W t2 b o2) : GE X G W (t1 ++ t2) (.Compare a [.Eq] [b] pos) (dOp2 pEq o1 o2) := top_of p2_eq h1 h2 fun _ _ ha hb => pe_cmpR (op_eqD (by omega)) ha hb (nomark _)
theorem gt_eq (hu : X.A.units + 65 < cLine) (h1 : GO X G W t1 a o1) (h2 : GO X G W t2 b o2) : GT X G W (t1 ++ t2) (.Compare a [.Eq] [b] pos) (dB (dOp2 pEq o1 o2)) := topT_of p2_eq h1 h2 fun _ _ ha hb => pt_cmpR (op_eqD (by omega)) ha hb (nomark _)
theorem g_ne (hu : X.A.units + 65 < cLine) (h1 : GO X G W t1 a o1) (h2 : GO X G W t2 b o2) : GE X G W (t1 ++ t2) (.Compare a [.NotEq] [b] pos) (dOp2 pNe o1 o2) := top_of p2_ne h1 h2 fun _ _ ha hb => pe_cmpR (op_neD (by omega)) ha hb (nomark _)
theorem gt_ne (hu : X.A.units + 65 < cLine) (h1 : GO X G W t1 a o1) (h2 : GO X G W t2 b o2) : GT X G W (t1 ++ t2) (.Compare a [.NotEq] [b] pos) (dB (dOp2 pNe o1 o2)) := topT_of p2_ne h1 h2 fun _ _ ha hb => pt_cmpR (op_neD (by omega)) ha hb (nomark _)
theorem p2_lt {T : Tx} : P2 T (rI0 fun i j => .bl (decide (i < j))) pLt := p2_int (gd := fun i j => .bl (decide (i < j))) (fun _ _ => rfl) (fun d e h => by cases d <;> cases e <;> first | rfl | exact absurd ⟨rfl, rfl⟩ (h _ _)) fun _ _ _ _ _ => .bl _
theorem g_lt (h1 : GO X G W t1 a o1) (h2 : GO X G W t2 b o2) : GE X G W (t1 ++ t2) (.Compare a [.Lt] [b] pos) (dOp2 pLt o1 o2) := top_of p2_lt h1 h2 fun _ _ ha hb => pe_cmpR op_lt ha hb (nomark _)
theorem gt_lt (h1 : GO X G W t1 a o1) (h2 : GO X G W t2 b o2) : GT X G W (t1 ++ t2) (.Compare a [.Lt] [b] pos) (dB (dOp2 pLt o1 o2)) := topT_of p2_lt h1 h2 fun _ _ ha hb => pt_cmpR op_lt ha hb (nomark _)
theorem p2_le {T : Tx} : P2 T (rI0 fun i j => .bl (decide (i ≤ j))) pLe := p2_int (gd := fun i j => .bl (decide (i ≤ j))) (fun _ _ => rfl) (fun d e h => by cases d <;> cases e <;> first | rfl | exact absurd ⟨rfl, rfl⟩ (h _ _)) fun _ _ _ _ _ => .bl _
theorem g_le (h1 : GO X G W t1 a o1) (h2 : GO X G W t2 b o2) : GE X G W (t1 ++ t2) (.Compare a [.LtE] [b] pos) (dOp2 pLe o1 o2) := top_of p2_le h1 h2 fun _ _ ha hb => pe_cmpR op_le ha hb (nomark _)
theorem gt_le (h1 : GO X G W t1 a o1) (h2 : GO X G W t2 b o2) : GT X G W (t1 ++ t2) (.Compare a [.LtE] [b] pos) (dB (dOp2 pLe o1 o2)) := topT_of p2_le h1 h2 fun _ _ ha hb => pt_cmpR op_le ha hb (nomark _)
theorem p2_gt {T : Tx} : P2 T (rI0 fun i j => .bl (decide (j < i))) pGt := p2_int (gd := fun i j => .bl (decide (j < i))) (fun _ _ => rfl) (fun d e h => by cases d <;> cases e <;> first | rfl | exact absurd ⟨rfl, rfl⟩ (h _ _)) fun _ _ _ _ _ => .bl _
theorem g_gt (h1 : GO X G W t1 a o1) (h2 : GO X G W t2 b o2) : GE X G W (t1 ++ t2) (.Compare a [.Gt] [b] pos) (dOp2 pGt o1 o2) := top_of p2_gt h1 h2 fun _ _ ha hb => pe_cmpR op_gt ha hb (nomark _)
theorem gt_gt (h1 : GO X G W t1 a o1) (h2 : GO X G W t2 b o2) : GT X G W (t1 ++ t2) (.Compare a [.Gt] [b] pos) (dB (dOp2 pGt o1 o2)) := topT_of p2_gt h1 h2 fun _ _ ha hb => pt_cmpR op_gt ha hb (nomark _)
theorem p2_ge {T : Tx} : P2 T (rI0 fun i j => .bl (decide (j ≤ i))) pGe := p2_int (gd := fun i j => .bl (decide (j ≤ i))) (fun _ _ => rfl) (fun d e h => by cases d <;> cases e <;> first | rfl | exact absurd ⟨rfl, rfl⟩ (h _ _)) fun _ _ _ _ _ => .bl _
theorem g_ge (h1 : GO X G W t1 a o1) (h2 : GO X G W t2 b o2) : GE X G W (t1 ++ t2) (.Compare a [.GtE] [b] pos) (dOp2 pGe o1 o2) := top_of p2_ge h1 h2 fun _ _ ha hb => pe_cmpR op_ge ha hb (nomark _)
theorem gt_ge (h1 : GO X G W t1 a o1) (h2 : GO X G W t2 b o2) : GT X G W (t1 ++ t2) (.Compare a [.GtE] [b] pos) (dB (dOp2 pGe o1 o2)) := topT_of p2_ge h1 h2 fun _ _ ha hb => pt_cmpR op_ge ha hb (nomark _)
theorem rep_non {T : Tx} {B H F : Hp} {d : D} {v : V} {g : List Addr} (r : Rep T B H F d v g) : decide (v = V.non) = isNon d := by
  cases r <;> first | rfl | exact decide_eq_false (fun z => nomatch z)
theorem p2_is {T : Tx} : P2 T (fun x y H Q => y = .non ∧ Q (.bl (decide (x = .non))) H) pIs := by
  intro B H F d v g e u k eF eB r1 r2
  cases e with
  | non =>
    cases r2
    refine ⟨_, .bl _, fun Q q => ⟨rfl, ?_⟩⟩
    rw [rep_non r1]
    exact q
  | _ => trivial
theorem p2_isNot {T : Tx} : P2 T (fun x y H Q => y = .non ∧ Q (.bl (!decide (x = .non))) H) pIsNot := by
  intro B H F d v g e u k eF eB r1 r2
  cases e with
  | non =>
    cases r2
    refine ⟨_, .bl _, fun Q q => ⟨rfl, ?_⟩⟩
    rw [rep_non r1]
    exact q
  | _ => trivial
theorem g_is (h1 : GO X G W t1 a o1) (h2 : GO X G W t2 b o2) : GE X G W (t1 ++ t2) (.Compare a [.Is] [b] pos) (dOp2 pIs o1 o2) := top_of p2_is h1 h2 fun _ _ ha hb => pe_cmpR op_isN ha hb (nomark _)
theorem gt_is (h1 : GO X G W t1 a o1) (h2 : GO X G W t2 b o2) : GT X G W (t1 ++ t2) (.Compare a [.Is] [b] pos) (dB (dOp2 pIs o1 o2)) := topT_of p2_is h1 h2 fun _ _ ha hb => pt_cmpR op_isN ha hb (nomark _)
theorem g_isNot (h1 : GO X G W t1 a o1) (h2 : GO X G W t2 b o2) : GE X G W (t1 ++ t2) (.Compare a [.IsNot] [b] pos) (dOp2 pIsNot o1 o2) := top_of p2_isNot h1 h2 fun _ _ ha hb => pe_cmpR op_notN ha hb (nomark _)
theorem gt_isNot (h1 : GO X G W t1 a o1) (h2 : GO X G W t2 b o2) : GT X G W (t1 ++ t2) (.Compare a [.IsNot] [b] pos) (dB (dOp2 pIsNot o1 o2)) := topT_of p2_isNot h1 h2 fun _ _ ha hb => pt_cmpR op_notN ha hb (nomark _)

/-! ## in -/
theorem flat_v {T : Tx} {B H F : Hp} {d : D} {v : V} {g : List Addr} (r : Rep T B H F d v g) (h : flat d = true) : flatV v = true := by
  cases r <;> first | rfl | (simp [flat] at h; done)
theorem eq_v {T : Tx} {B H F : Hp} {d e : D} {v u : V} {g k : List Addr} (r : Rep T B H F d v g) (q : Rep T B H F e u k) (h : flat d = true) (h2 : flat e = true) : eqV v u = eqD d e := by
  cases r <;> cases q <;> first | (simp [flat] at h; done) | (simp [flat] at h2; done) | (simp [eqV, eqD, toPy, PyData.eqv]; done)
theorem any_v {T : Tx} {B H F : Hp} {d : D} {v : V} {g : List Addr} (r : Rep T B H F d v g) (h : flat d = true) : ∀ {xs : List D} {vs : List V} {k : List Addr}, Reps T B H F xs vs k → xs.all flat = true → vs.all flatV = true ∧ inV v vs = xs.any fun y => eqD y d
  | _, _, _, .nil, _ => ⟨rfl, rfl⟩
  | _, _, _, .cons (d := y) (ds := ys) (v := w) (vs := ws) q qs e, hx => by
    have hx' : flat y = true ∧ ys.all flat = true := by simpa using hx
    obtain ⟨a1, a2⟩ := any_v r h qs hx'.2
    refine ⟨by rw [List.all_cons, flat_v q hx'.1, a1]; rfl, ?_⟩
    unfold inV at a2 ⊢
    rw [List.any_cons, List.any_cons, eq_v q r hx'.1 h, a2]
theorem any_py {d : D} : ∀ xs : List D, ((toPys xs).any fun z => PyData.eqv z (toPy d)) = xs.any fun y => eqD y d
  | [] => rfl
  | x :: xs => by
    rw [toPys, List.any_cons, List.any_cons, any_py xs]
    rfl
def rInA (K : PySem.W.Frag) : R2 := fun x y H Q => rInD K x y H Q ∨ (rIn K false x y H Q ∨ ∃ (c : Nat) (z : Str), x = .str ⟨#[c]⟩ ∧ y = .str z ∧ Q (.bl (decide (c ∈ z.cps.toList))) H)
def rNotInA (K : PySem.W.Frag) : R2 := fun x y H Q => rNotInD K x y H Q ∨ (rIn K true x y H Q ∨ ∃ (c : Nat) (z : Str), x = .str ⟨#[c]⟩ ∧ y = .str z ∧ Q (.bl (!decide (c ∈ z.cps.toList))) H)
theorem one_sign {c : Str} (h : c.cps.size = 1) : c = ⟨#[c.cps.getD 0 0]⟩ := by
  obtain ⟨⟨l⟩⟩ := c
  match l, h with
  | [x], _ => rfl
theorem p2_in {T : Tx} : P2 T (rInA T.K) pIn := by
  intro B H F d v g e u k eF eB r1 r2
  cases e with
  | lst o xs =>
    unfold pIn
    try dsimp only
    split
    · rename_i h
      obtain ⟨h1, s1⟩ := r1.shaped eF eB h.1
      obtain ⟨h2, s2⟩ := r2.shaped eF eB (by rw [dep]; omega)
      rw [toPy] at h2 s2
      refine ⟨_, .bl _, fun Q q => .inl ⟨_, _, h1, h2, s1, s2, ?_⟩⟩
      rw [any_py]
      exact q
    · trivial
  | tup xs =>
    unfold pIn
    try dsimp only
    split
    · rename_i h
      obtain ⟨p, vs, g', rfl, sq, rs⟩ := r2.tuple eF
      obtain ⟨a1, a2⟩ := any_v r1 h.1 rs h.2
      refine ⟨_, .bl _, fun Q q => .inr (.inl ⟨p, vs, rfl, .inr sq, flat_v r1 h.1, a1, ?_⟩)⟩
      show Q (.bl (inV v vs)) H
      rw [a2]
      exact q
    · trivial
  | str z =>
    cases d with
    | str c =>
      unfold pIn
      dsimp only
      split
      · rename_i h
        cases r1
        cases r2
        refine ⟨_, .bl _, fun Q q => .inr (.inr ⟨_, z, congrArg V.str (one_sign h), rfl, q⟩)⟩
      · trivial
    | _ => trivial
  | _ => trivial
theorem p2_notIn {T : Tx} : P2 T (rNotInA T.K) pNotIn := by
  intro B H F d v g e u k eF eB r1 r2
  cases e with
  | lst o xs =>
    unfold pNotIn
    try dsimp only
    split
    · rename_i h
      obtain ⟨h1, s1⟩ := r1.shaped eF eB h.1
      obtain ⟨h2, s2⟩ := r2.shaped eF eB (by rw [dep]; omega)
      rw [toPy] at h2 s2
      refine ⟨_, .bl _, fun Q q => .inl ⟨_, _, h1, h2, s1, s2, ?_⟩⟩
      rw [any_py]
      exact q
    · trivial
  | tup xs =>
    unfold pNotIn
    try dsimp only
    split
    · rename_i h
      obtain ⟨p, vs, g', rfl, sq, rs⟩ := r2.tuple eF
      obtain ⟨a1, a2⟩ := any_v r1 h.1 rs h.2
      refine ⟨_, .bl _, fun Q q => .inr (.inl ⟨p, vs, rfl, .inr sq, flat_v r1 h.1, a1, ?_⟩)⟩
      show Q (.bl (!inV v vs)) H
      rw [a2]
      exact q
    · trivial
  | str z =>
    cases d with
    | str c =>
      unfold pNotIn
      dsimp only
      split
      · rename_i h
        cases r1
        cases r2
        refine ⟨_, .bl _, fun Q q => .inr (.inr ⟨_, z, congrArg V.str (one_sign h), rfl, q⟩)⟩
      · trivial
    | _ => trivial
  | _ => trivial
theorem g_in (hu : X.A.units + 65 < cLine) (h1 : GO X G W t1 a o1) (h2 : GO X G W t2 b o2) (hm : behindInMarks .In b = false := by rfl) : GE X G W (t1 ++ t2) (.Compare a [.In] [b] pos) (dOp2 pIn o1 o2) :=
  top_of p2_in h1 h2 fun _ _ ha hb => pe_cmpR (op_alt (op_inD hu) (op_alt op_in_seq op_in_sign)) ha hb hm
theorem g_notIn (hu : X.A.units + 65 < cLine) (h1 : GO X G W t1 a o1) (h2 : GO X G W t2 b o2) (hm : behindInMarks .NotIn b = false := by rfl) : GE X G W (t1 ++ t2) (.Compare a [.NotIn] [b] pos) (dOp2 pNotIn o1 o2) :=
  top_of p2_notIn h1 h2 fun _ _ ha hb => pe_cmpR (op_alt (op_notInD hu) (op_alt op_notIn_seq op_notIn_sign)) ha hb hm

theorem gt_in (hu : X.A.units + 65 < cLine) (h1 : GO X G W t1 a o1) (h2 : GO X G W t2 b o2) (hm : behindInMarks .In b = false := by rfl) : GT X G W (t1 ++ t2) (.Compare a [.In] [b] pos) (dB (dOp2 pIn o1 o2)) :=
  topT_of p2_in h1 h2 fun _ _ ha hb => pt_cmpR (op_alt (op_inD hu) (op_alt op_in_seq op_in_sign)) ha hb hm
theorem gt_notIn (hu : X.A.units + 65 < cLine) (h1 : GO X G W t1 a o1) (h2 : GO X G W t2 b o2) (hm : behindInMarks .NotIn b = false := by rfl) : GT X G W (t1 ++ t2) (.Compare a [.NotIn] [b] pos) (dB (dOp2 pNotIn o1 o2)) :=
  topT_of p2_notIn h1 h2 fun _ _ ha hb => pt_cmpR (op_alt (op_notInD hu) (op_alt op_notIn_seq op_notIn_sign)) ha hb hm

/-! ## a[i] -/
theorem Reps.atI {T : Tx} {B H F : Hp} {ds : List D} {vs : List V} {g : List Addr} {i : Int} {d : D} (r : Reps T B H F ds vs g) (h : atI ds i = some d) : ∃ v g', L2.atI vs i = some v ∧ Rep T B H F d v g' := by
  unfold L2.atI at h ⊢
  rw [← r.len]
  cases e : ixN ds.length i with
  | none => rw [e] at h; cases h
  | some j =>
    rw [e] at h
    obtain ⟨v, g', h1, h2⟩ := r.get h
    exact ⟨v, g', h1, h2⟩
theorem atI_mem {α : Type} {xs : List α} {i : Int} {c : α} (h : atI xs i = some c) : c ∈ xs := by
  obtain ⟨j, _, h2, _⟩ := atI_get h
  exact List.mem_of_getElem? h2
theorem p2_ix {T : Tx} : P2 T (rIx T.K) pIx := by
  intro B H F d v g e u k eF eB r1 r2
  cases d with
  | lst o xs =>
    cases e with
    | int i =>
      unfold pIx
      dsimp only
      cases ea : L2.atI xs i with
      | none => trivial
      | some d =>
        dsimp only
        split
        · rename_i hn
          obtain ⟨p, vs, g1, rfl, sq, rp, _⟩ := r1.list eF eB
          obtain ⟨w, g', h1, h2⟩ := rp.atI ea
          cases r2
          exact ⟨w, rep_v h2 hn, fun Q q => .inl ⟨p, vs, i, w, rfl, rfl, sq, h1, q⟩⟩
        · trivial
    | _ => trivial
  | tup xs =>
    cases e with
    | int i =>
      unfold pIx
      dsimp only
      cases ea : L2.atI xs i with
      | none => trivial
      | some d =>
        dsimp only
        split
        · rename_i hn
          obtain ⟨p, vs, g1, rfl, sq, rp⟩ := r1.tuple eF
          obtain ⟨w, g', h1, h2⟩ := rp.atI ea
          cases r2
          exact ⟨w, rep_v h2 hn, fun Q q => .inr (.inl ⟨p, vs, i, w, rfl, rfl, sq, h1, q⟩)⟩
        · trivial
    | _ => trivial
  | str z =>
    cases e with
    | int i =>
      unfold pIx
      dsimp only
      split
      · rename_i hl
        cases ea : L2.atI z.cps.toList i with
        | none => trivial
        | some c =>
          cases r2
          cases r1 with
          | str _ hs => exact ⟨_, .str _ (strOk_sign hs (atI_mem ea)), fun Q q => .inr (.inr ⟨z, i, c, rfl, rfl, lim_le hl, ea, q⟩)⟩
      · trivial
    | _ => trivial
  | _ => trivial
theorem g_ix (h1 : GO X G W t1 a o1) (h2 : GO X G W t2 b o2) (hs : PlainIx b := by intro _ _; rfl) : GE X G W (t1 ++ t2) (.Subscript a b pos) (dOp2 pIx o1 o2) := top_of p2_ix h1 h2 fun _ _ ha hb => pe_ix ix_seq ha hb hs
end
end Cs
namespace Cs
open PySem L2 Evl

/-! ## tests -/
def dNot (f : M Bool) : M Bool := bnd f fun b => ret (!b)
def dAnd (f g : M Bool) : M Bool := bnd f fun b => if b = true then g else ret false
def dOr (f g : M Bool) : M Bool := bnd f fun b => if b = true then ret true else g
def dNotV (f : M D) : M D := bnd (dB f) fun b => ret (.bl (!b))
def dAndV (f g : M D) : M D := bnd (dB f) fun b => if b = true then g else ret (.bl false)
def dOrV (f g : M D) : M D := bnd (dB f) fun b => if b = true then ret (.bl true) else g
def dIfE (c : M Bool) (f g : M D) : M D := bnd c fun b => if b = true then f else g
def tru : D → Option Bool
  | .non => some false
  | .bl b => some b
  | .int i => some (i != 0)
  | .str s => if s.length ≤ lim then some ((s.length : Int) != 0) else none
  | .lst _ xs => some (!xs.isEmpty)
  | .tup xs => some (!xs.isEmpty)
  | .dct _ ks _ => some (!ks.isEmpty)
  | _ => none
def dTru : Opd → M Bool
  | .v f => bnd f fun d => match tru d with
    | some b => ret b
    | none => bad
  | .p i => bnd (dPk i) fun d => match tru d with
    | some b => ret b
    | none => bad

section
variable {T : Tx} {B H F : Hp}
theorem isEmpty_reps {ds : List D} {vs : List V} {g : List Addr} (r : Reps T B H F ds vs g) : (!ds.isEmpty) = !vs.isEmpty := by
  cases r <;> rfl
theorem zip_empty : ∀ {ks : List Str} {vs : List V}, ks.length = vs.length → (!ks.isEmpty) = !((ks.map (Sum.inr : Str → Key)).zip vs).isEmpty
  | [], [], _ => rfl
  | _ :: _, _ :: _, _ => rfl
theorem tru_ok {d : D} {v : V} {g : List Addr} {b : Bool} (eF : Ex F H) (eB : Ex B H) (r : Rep T B H F d v g) (h : tru d = some b) : TruV T.K v H b := by
  cases r with
  | non => exact (Option.some.inj h).symm
  | bl c => exact (Option.some.inj h).symm
  | int i => exact (Option.some.inj h).symm
  | str s hs =>
    unfold tru at h
    dsimp only at h
    split at h
    · rename_i hl; exact ⟨lim_le hl, (Option.some.inj h).symm⟩
    · cases h
  | cls _ => cases h
  | tup q r => exact .inr (.inl ⟨_, ex_t eF q.sq, by rw [← isEmpty_reps r]; exact (Option.some.inj h).symm⟩)
  | lstF q r => exact .inl ⟨_, sq_of (eF _ _ q), by rw [← isEmpty_reps r]; exact (Option.some.inj h).symm⟩
  | lstR q r => exact .inl ⟨_, ex_l eF q, by rw [← isEmpty_reps r]; exact (Option.some.inj h).symm⟩
  | lstB q r => exact .inl ⟨_, sq_of (eB _ _ q), by rw [← isEmpty_reps r]; exact (Option.some.inj h).symm⟩
  | lstO q r e => exact .inl ⟨_, sq_of q, by rw [← isEmpty_reps r]; exact (Option.some.inj h).symm⟩
  | dctF q l r => exact .inr (.inr ⟨_, eF _ _ q, (Option.some.inj h).symm.trans (zip_empty l)⟩)
  | dctB q l r => exact .inr (.inr ⟨_, eB _ _ q, (Option.some.inj h).symm.trans (zip_empty l)⟩)
  | dctO q l r e => exact .inr (.inr ⟨_, q, (Option.some.inj h).symm.trans (zip_empty l)⟩)
  | objF _ _ _ _ _ => cases h
  | objB _ _ _ _ _ => cases h
  | objO _ _ _ _ _ _ => cases h
end

section
variable {X : Cx} {G : Gx} {W : WX} {tc t1 t2 t3 : List Nat} {a b c : Expr} {pos : Pos} {rest : List Expr} {f g : M Bool} {u w : M D}
theorem gt_val (h : GE X G W tc a u) (he : ∀ whole, isTrue a X.env whole = (do let v ← whole; standAt a.pos; holding [v] (truthy v)) := by intro _; rfl) : GT X G W tc a (dB u) := pt_mono (pt_val h he) fun _ _ _ h => tB_core h
theorem gt_tru {o : Opd} (h : GO X G W tc a o) (he : ∀ whole, isTrue a X.env whole = (do let v ← whole; standAt a.pos; holding [v] (truthy v)) := by intro _; rfl) : GT X G W tc a (dTru o) :=
  pt_mono (pt_truth h.pe he) fun σ H Q ⟨B, s, e1, e2, rl, hp⟩ => by
    subst e1 e2
    cases o with
    | v f =>
      refine seqE1 rl hp fun d v s1 g _ hs r1 t a h => ?_
      cases e : tru d with
      | none => rw [e] at h; exact h.elim
      | some b =>
        rw [e] at h
        exact ⟨b, tru_ok r1.exF r1.exB t.rep e, h s1 rfl hs r1 a.drop0⟩
    | p i =>
      obtain ⟨d, ed, hp⟩ := pk_bnd hp
      obtain ⟨v, e2, rp⟩ := rl.sl i d (slot_some ed)
      refine ⟨v, e2, ?_⟩
      cases e : tru d with
      | none => rw [e] at hp; exact hp.elim
      | some b =>
        rw [e] at hp
        exact ⟨b, tru_ok rl.exF rl.exB rp e, hp s rfl rfl rl (Goes.refl)⟩
theorem gt_not (h : GT X G W tc a f) : GT X G W tc (.UnaryOp .Not a pos) (dNot f) :=
  pt_mono (pt_not h) fun σ H Q ⟨B, s, e1, e2, rl, hp⟩ => by
    subst e1 e2
    refine ⟨B, s, rfl, rfl, rl, hp.bnd.imp (fun d ρ1 ⟨_, h⟩ => h) fun _ _ _ _ h => h⟩
theorem gw_one (op : BoolOp) (h : GT X G W tc a f) : GW X G W tc (.BoolOp op [a] pos) f := by
  cases op with
  | And => exact pw_and1 h
  | Or => exact pw_or1 h
theorem exE.wk {T : Tx} {B : Hp} {s : S5} {cc : Str} {ks : List Str} {xs : List D} {ρ : En} {u1 u2 : List Nat} (hw : ∀ j ∈ u1, j ∈ u2) (h : exE T W B u2 s cc ks xs ρ) : exE T W B u1 s cc ks xs ρ := fun cls dd s' e1 e2 r x t => h cls dd s' e1 e2 r x (t.wk hw)
theorem memL {j : Nat} {u1 u2 : List Nat} (h : j ∈ u1) : j ∈ u1 ++ u2 := List.mem_append.mpr (.inl h)
theorem memR {j : Nat} {u1 u2 : List Nat} (h : j ∈ u2) : j ∈ u1 ++ u2 := List.mem_append.mpr (.inr h)
/-- first a test, then the rest from there -/
theorem seqTT {T : Tx} {B : Hp} {s : S5} {k : Bool → M Bool} {Q Q1 : Bool → Hp → Prop} (r : Okk T B s) (hp : Post (okT T B (t1 ++ t2) s Q) (exE T W B (t1 ++ t2) s) (bnd f k s.ρ))
    (hk : ∀ d s1, s1.σ = s.σ → Okk T B s1 → Post (okT T B t2 s1 Q) (exE T W B t2 s1) (k d s1.ρ) → Q1 d s1.H) : tDT T W t1 f s.σ s.H Q1 :=
  seqT r hp fun d s1 _ hs r1 a h => hk d s1 hs r1 (h.imp (fun c ρ q s' e1 e2 r' b => q s' e1 (e2.trans hs) r' (a.trans0 b)) fun _ _ _ _ q => exE.re a hs q)
theorem gw_and (h1 : GT X G W t1 a f) (h2 : GW X G W t2 (.BoolOp .And (b :: rest) pos) g) : GW X G W (t1 ++ t2) (.BoolOp .And (a :: b :: rest) pos) (dAnd f g) :=
  pw_mono (pw_and h1 h2) fun σ H Q ⟨B, s, e1, e2, rl, hp⟩ => by
    subst e1 e2
    refine seqTT rl hp fun d s1 hs r1 h => ?_
    cases d with
    | true => exact ⟨B, s1, hs, rfl, r1, h⟩
    | false => exact h s1 rfl rfl r1 Goes.refl
theorem gw_or (h1 : GT X G W t1 a f) (h2 : GW X G W t2 (.BoolOp .Or (b :: rest) pos) g) : GW X G W (t1 ++ t2) (.BoolOp .Or (a :: b :: rest) pos) (dOr f g) :=
  pw_mono (pw_or h1 h2) fun σ H Q ⟨B, s, e1, e2, rl, hp⟩ => by
    subst e1 e2
    refine seqTT rl hp fun d s1 hs r1 h => ?_
    cases d with
    | false => exact ⟨B, s1, hs, rfl, r1, h⟩
    | true => exact h s1 rfl rfl r1 Goes.refl
theorem gt_w (h : GW X G W tc a f) : GT X G W tc a f := h.pt

/-! ## the same as values -/
theorem seqBE {T : Tx} {B : Hp} {s : S5} {k : Bool → M D} {Q : VK} {Q1 : VK} (r : Okk T B s) (hp : Post (okE T B (t1 ++ t2) s Q) (exE T W B (t1 ++ t2) s) (bnd (dB u) k s.ρ))
    (hk : ∀ c s1, s1.σ = s.σ → Okk T B s1 → Post (okE T B t2 s1 Q) (exE T W B t2 s1) (k c s1.ρ) → Q1 (.bl c) s1.H) : tD T W t1 u s.σ s.H Q1 := by
  have hp2 : Post (okE T B (t1 ++ t2) s Q) (exE T W B (t1 ++ t2) s) (bnd u (fun d => bnd (match d with | .bl b => ret b | _ => bad) k) s.ρ) := by
    have e : bnd (dB u) k s.ρ = bnd u (fun d => bnd (match d with | .bl b => ret b | _ => bad) k) s.ρ := by
      unfold dB bnd
      cases u s.ρ <;> rfl
    rw [← e]
    exact hp
  refine seqE r hp2 fun d v s1 g _ hs r1 t a h => ?_
  cases d with
  | bl c =>
    obtain ⟨rp, _, _, _⟩ := t
    cases rp
    exact hk c s1 hs r1 (h.imp (fun c ρ q v s' g' e1 e2 r' t' b => q v s' g' e1 (e2.trans hs) r' t' (a.trans0 b)) fun _ _ _ _ q => exE.re a hs q)
  | _ => exact h.elim
theorem g_notV (h : GE X G W tc a u) : GE X G W tc (.UnaryOp .Not a pos) (dNotV u) :=
  pe_mono (pe_not h) fun σ H Q ⟨B, s, e1, e2, rl, hp⟩ => by
    subst e1 e2
    rw [← List.append_nil tc] at hp
    exact seqBE rl hp fun c s1 hs r1 h => ⟨c, rfl, h _ s1 [] rfl rfl r1 (Tmp.flat (.bl _)) Goes.refl⟩
theorem g_oneV (op : BoolOp) (h : GE X G W tc a u) : GE X G W tc (.BoolOp op [a] pos) u := pe_one h
theorem g_andV (h1 : GE X G W t1 a u) (h2 : GE X G W t2 (.BoolOp .And (b :: rest) pos) w) : GE X G W (t1 ++ t2) (.BoolOp .And (a :: b :: rest) pos) (dAndV u w) :=
  pe_mono (pe_and h1 h2) fun σ H Q ⟨B, s, e1, e2, rl, hp⟩ => by
    subst e1 e2
    refine seqBE rl hp fun c s1 hs r1 h => ⟨c, rfl, ?_⟩
    cases c with
    | true => exact ⟨B, s1, hs, rfl, r1, h⟩
    | false => exact h _ s1 [] rfl rfl r1 (Tmp.flat (.bl _)) Goes.refl
theorem g_orV (h1 : GE X G W t1 a u) (h2 : GE X G W t2 (.BoolOp .Or (b :: rest) pos) w) : GE X G W (t1 ++ t2) (.BoolOp .Or (a :: b :: rest) pos) (dOrV u w) :=
  pe_mono (pe_or h1 h2) fun σ H Q ⟨B, s, e1, e2, rl, hp⟩ => by
    subst e1 e2
    refine seqBE rl hp fun c s1 hs r1 h => ⟨c, rfl, ?_⟩
    cases c with
    | false => exact ⟨B, s1, hs, rfl, r1, h⟩
    | true => exact h _ s1 [] rfl rfl r1 (Tmp.flat (.bl _)) Goes.refl
theorem okE.wk {T : Tx} {B : Hp} {s : S5} {Q : VK} {d : D} {ρ : En} {u1 u2 : List Nat} (hw : ∀ j ∈ u1, j ∈ u2) (h : okE T B u2 s Q d ρ) : okE T B u1 s Q d ρ := fun v s' g e1 e2 r t a => h v s' g e1 e2 r t (a.wk hw)
theorem g_ifE (h0 : GT X G W t1 c f) (h1 : GE X G W t2 a u) (h2 : GE X G W t3 b w) : GE X G W (t1 ++ (t2 ++ t3)) (.IfExp c a b pos) (dIfE f u w) :=
  pe_mono (pe_ifExp h0 h1 h2) fun σ H Q ⟨B, s, e1, e2, rl, hp⟩ => by
    subst e1 e2
    refine seqT rl hp fun d s1 _ hs r1 a h => ?_
    have h' := h.imp (okk' := okE (tx X G) B (t2 ++ t3) s1 Q) (exk' := exE (tx X G) W B (t2 ++ t3) s1) (fun d ρ q v s' g' e1 e2 r' t' b => q v s' g' e1 (e2.trans hs) r' t' (a.trans0 b)) fun _ _ _ _ q => exE.re a hs q
    cases d with
    | true => exact ⟨B, s1, hs, rfl, r1, h'.imp (fun _ _ q => q.wk fun _ => memL) fun _ _ _ _ q => q.wk fun _ => memL⟩
    | false => exact ⟨B, s1, hs, rfl, r1, h'.imp (fun _ _ q => q.wk fun _ => memR) fun _ _ _ _ q => q.wk fun _ => memR⟩

/-! ## argument lists, displays -/
def dNil : M (List D) := ret []
def dCons (f : M D) (fs : M (List D)) : M (List D) := bnd f fun d => bnd fs fun ds => ret (d :: ds)
theorem ga_nil : GA X G W [] [] dNil := pa_mono pa_nil fun σ H Q ⟨B, s, e1, e2, rl, hp⟩ => by
  subst e1 e2
  exact hp [] s [] rfl rfl rl (Tmps.flat .nil) Goes.refl
theorem Tmp.cons {T : Tx} {B H F : Hp} {φ : Nat → List Addr} {d : D} {ds : List D} {v : V} {vs : List V} {g g2 : List Addr} (t : Tmp T B H F φ d v g) (ts : Tmps T B H F φ ds vs g2) (ap : ∀ x ∈ g, x ∉ g2) : Tmps T B H F φ (d :: ds) (v :: vs) (g ++ g2) :=
  ⟨.cons t.rep ts.rep rfl, List.nodup_append.mpr ⟨t.nd, ts.nd, fun x hx y hy e => ap x hx (e ▸ hy)⟩, fun x hx => (List.mem_append.mp hx).elim (t.ap x) (ts.ap x), fun x hx => (List.mem_append.mp hx).elim (t.dj x) (ts.dj x)⟩
theorem ga_cons {es : List Expr} {fs : M (List D)} (h1 : GE X G W t1 a u) (h2 : GA X G W t2 es fs) (hs : starEach (a :: es) X.env = (false, eval a X.env) :: starEach es X.env := by rfl) : GA X G W (t1 ++ t2) (a :: es) (dCons u fs) :=
  pa_mono (pa_cons h1 h2 hs) fun σ H Q ⟨B, s, e1, e2, rl, hp⟩ => by
    subst e1 e2
    refine seqE rl hp fun d v s1 g _ hs r1 t a h => ?_
    show tDs _ _ _ _ s.σ s1.H _
    rw [← hs]
    refine seqA2 a hs r1 h fun ds vs s2 g2 _ hs2 r2 ts a2 h => ?_
    refine h (v :: vs) s2 (g ++ g2) rfl (hs2.trans hs) r2 ((t.go a2).cons ts fun x hx q => t.apart a2.step x hx q) ((a.trans a2).less fun x hx => ?_)
    rcases List.mem_append.mp hx with z | z
    · exact List.mem_append.mpr (.inr z)
    · exact List.mem_append.mpr (.inl z)
def dLst (fs : M (List D)) : M D := bnd fs fun ds => if ds.length ≤ lim then ret (.lst .ow ds) else bad
def dTup (fs : M (List D)) : M D := bnd fs fun ds => if ds.length ≤ lim then ret (.tup ds) else bad
theorem g_lst {es : List Expr} {fs : M (List D)} (h : GA X G W tc es fs) : GE X G W tc (.List es pos) (dLst fs) :=
  pe_mono (pe_lst h) fun σ H Q ⟨B, s, e1, e2, rl, hp⟩ => by
    subst e1 e2
    refine seqA1 rl hp fun ds vs s1 g _ hs r1 ts a h => ?_
    split at h
    · rename_i hl
      refine ⟨by rw [← ts.rep.len]; exact lim_le hl, fun p hp' => ?_⟩
      have e0 : ∀ x ∈ g, x ≠ p := fun x hx => by
        obtain ⟨o, e⟩ := ts.rep.dom x hx
        exact ne_of_none e hp'
      refine h (.ref p) (s1.new p (.lst vs)) (p :: g) rfl hs (r1.new hp') ⟨.lstO upd_same (ts.rep.mono (Ex.refl B) (Ex.refl _) fun x hx o q => Ex.new hp' x o q) rfl, List.nodup_cons.mpr ⟨fun q => e0 p q rfl, ts.nd⟩, fun x hx => ?_, fun x hx => ?_⟩ ?_
      · rcases List.mem_cons.mp hx with rfl | hx
        · exact ⟨r1.freeF hp', r1.freeB hp'⟩
        · exact ts.ap x hx
      · rcases List.mem_cons.mp hx with rfl | hx
        · exact r1.freeO hp'
        · exact ts.dj x hx
      · have z := a.trans (goes_new (o := .lst vs) r1 hp')
        rw [List.append_nil] at z
        exact z
    · exact h.elim
/-- a tuple display: its object is known -/
def tTupZ (t : TA) : TE := fun σ H Q => t σ H fun xs H1 => xs.length ≤ sizeLine ∧ ∀ p (o : Obj), o.dict = none → H1 p = none → Q (.ref p) (upd H1 p (.frz o (.tup xs)))
theorem pe_tupZ {es : List Expr} {t : TA} {x1} (h : PA X es t) : PE X (.Tuple es x1 pos) (tTupZ t) := by
  constructor
  intro pins s σ H Q I hq
  apply wpAny_Tuple_spliced
  refine thn (h.run pos pins s σ H _ I hq) ?_
  rintro us s1 ⟨xs, H1, I1, r, z, q⟩
  have hn : H1 s1.heap.objs.size = none := I1.hok.fresh (Nat.le_refl _)
  have hg : (s1.heap.push ({ cls := .type "tuple", data := .seq us.toArray } : Obj)).get? s1.heap.objs.size = some { cls := .type "tuple", data := .seq us.toArray } := Heap.get?_push_size _ rfl
  have hk : ∀ b u, s1.heap.get? b = some u → (s1.heap.push ({ cls := .type "tuple", data := .seq us.toArray } : Obj)).get? b = some u := fun b u e => Heap.get?_push_of_some _ e
  have J := I1.laid (t' := s1.toks) (o := .frz { cls := .type "tuple", data := .seq us.toArray } (.tup xs)) hk (Nat.le_refl _) ⟨hg, z, us, r, _, hg, rfl, _, rfl⟩
  exact ⟨by rw [← r.length]; exact z, .ref s1.heap.objs.size, _, J, rfl, q _ _ rfl hn⟩
theorem g_tup {es : List Expr} {fs : M (List D)} {x1} (h : GA X G W tc es fs) : GE X G W tc (.Tuple es x1 pos) (dTup fs) :=
  pe_mono (pe_tupZ h) fun σ H Q ⟨B, s, e1, e2, rl, hp⟩ => by
    subst e1 e2
    refine seqA1 rl hp fun ds vs s1 g _ hs r1 ts a h => ?_
    split at h
    · rename_i hl
      refine ⟨by rw [← ts.rep.len]; exact lim_le hl, fun p o ho hp' => ?_⟩
      refine h (.ref p) (s1.newF p (.frz o (.tup vs))) g rfl hs (r1.newF hp') ⟨.tup (.inl ⟨o, upd_same, ho⟩) (ts.rep.mono (Ex.refl B) (Ex.new (r1.freeF hp')) fun x hx o q => Ex.new hp' x o q), ts.nd, fun x hx => ⟨?_, (ts.ap x hx).2⟩, ts.dj⟩ ?_
      · obtain ⟨o, e⟩ := ts.rep.dom x hx
        show upd s1.F p (.frz _ (.tup vs)) x = none
        rw [upd_ne (ne_of_none e hp')]
        exact (ts.ap x hx).1
      · have z := a.trans (goes_newF (o := .frz o (.tup vs)) r1 hp')
        rw [List.append_nil] at z
        exact z
    · exact h.elim
end
end Cs
namespace Cs
open PySem L2 Evl

/-! ## statements -/
def dExpr (f : M D) : M Flw := bnd f fun _ => ret .nx
def dRet (f : M D) : M Flw := bnd f fun d => ret (.rt d)
def dNx : M Flw := ret .nx
def dPut (i : Nat) (d : D) : M Flw := fun ρ => if i < ρ.length then .ok .nx (ρ.set i (.dt d)) else .bad
def dAsg (i : Nat) (f : M D) : M Flw := bnd f (dPut i)
def dIf (c : M Bool) (f g : M Flw) : M Flw := bnd c fun b => if b = true then f else g
def thenF (g : M Flw) : Flw → M Flw
  | .nx => g
  | .bk => ret .bk
  | .ct => ret .ct
  | .rt d => ret (.rt d)
def dSeq (f g : M Flw) : M Flw := bnd f (thenF g)

section
variable {T : Tx} {B : Hp} {s s1 s2 : S5} {W : WX} {tc tc1 tc2 t1 t2 : List Nat} {ρ : En} {g0 : List Addr} {E : Ends}
theorem exS.toE {c : Str} {ks : List Str} {xs : List D} (h : exS T W B tc s c ks xs ρ) : exE T W B tc s c ks xs ρ := fun cls dd s' e1 _ r x t => h cls dd s' e1 r x t
theorem exS.wk {c : Str} {ks : List Str} {xs : List D} (hw : ∀ j ∈ t1, j ∈ t2) (h : exS T W B t2 s c ks xs ρ) : exS T W B t1 s c ks xs ρ := fun cls dd s' e1 r x t => h cls dd s' e1 r x (t.wk hw)
theorem okS.wk {fl : Flw} (hw : ∀ j ∈ t1, j ∈ t2) (h : okS T B t2 s E fl ρ) : okS T B t1 s E fl ρ := by
  cases fl with
  | nx => exact fun s' e r t => h s' e r (t.wk hw)
  | bk => exact fun s' e r t => h s' e r (t.wk hw)
  | ct => exact fun s' e r t => h s' e r (t.wk hw)
  | rt d => exact fun v s' g e r x t => h v s' g e r x (t.wk hw)
theorem exS.re {c : Str} {ks : List Str} {xs : List D} (a : Goes t1 s s1 g0) (h : exS T W B (t1 ++ t2) s c ks xs ρ) : exS T W B t2 s1 c ks xs ρ := fun cls dd s' e1 r x t => h cls dd s' e1 r x (a.trans0 t)
theorem okS.re {fl : Flw} (a : Goes t1 s s1 g0) (h : okS T B (t1 ++ t2) s E fl ρ) : okS T B t2 s1 E fl ρ := by
  cases fl with
  | nx => exact fun s' e r t => h s' e r (a.trans0 t)
  | bk => exact fun s' e r t => h s' e r (a.trans0 t)
  | ct => exact fun s' e r t => h s' e r (a.trans0 t)
  | rt d => exact fun v s' g e r x t => h v s' g e r x (a.trans0 t)
/-- an expression, then a statement's rest, counted from the expression's end -/
theorem seqES {f : M D} {k : D → M Flw} {Q1 : VK} (r : Okk T B s) (hp : Post (okS T B tc s E) (exS T W B tc s) (bnd f k s.ρ)) (hw : ∀ j ∈ t1, j ∈ tc)
    (hk : ∀ d v s1 g, f s.ρ = .ok d s1.ρ → s1.σ = s.σ → Okk T B s1 → Tmp T B s1.H s1.F s1.φ d v g → Goes t1 s s1 g → Post (okS T B tc s E) (exS T W B tc s) (k d s1.ρ) → Q1 v s1.H) : tD T W t1 f s.σ s.H Q1 :=
  ⟨B, s, rfl, rfl, r, hp.bnd.imp (fun d ρ1 ⟨e, h⟩ v s1 g e1 e2 r1 t a => by
    subst e1
    exact hk d v s1 g e e2 r1 t a h) fun _ _ _ _ h => (h.wk hw).toE⟩
theorem seqTS {f : M Bool} {k : Bool → M Flw} {Q1 : Bool → Hp → Prop} (r : Okk T B s) (hp : Post (okS T B (t1 ++ t2) s E) (exS T W B (t1 ++ t2) s) (bnd f k s.ρ))
    (hk : ∀ d s1, s1.σ = s.σ → Okk T B s1 → Post (okS T B t2 s1 E) (exS T W B t2 s1) (k d s1.ρ) → Q1 d s1.H) : tDT T W t1 f s.σ s.H Q1 :=
  ⟨B, s, rfl, rfl, r, hp.bnd.imp (fun d ρ1 ⟨e, h⟩ s1 e1 e2 r1 a => by
    subst e1
    exact hk d s1 e2 r1 (h.imp (fun _ _ q => q.re a) fun _ _ _ _ q => q.re a)) fun _ _ _ _ h => (h.wk fun _ => memL).toE⟩
/-- a value goes into slot i -/
theorem Rel.put {σ : L2.St} {H F : Hp} {φ : Nat → List Addr} {i : Nat} {d : D} {v : V} {g : List Addr} (r : Rel T σ B H F ρ φ) (t : Tmp T B H F φ d v g) (hi : i < ρ.length) :
    Rel T (σ.set i (some v)) B H F (ρ.set i (.dt d)) (fun j => if j = i then g else φ j) := by
  refine ⟨by rw [List.length_set, List.length_set]; exact r.len, r.exB, r.exF, r.exP, fun j e q => ?_, fun j q => ?_, fun j q => ?_, fun j => ?_, fun j k a hn h1 h2 => ?_, fun j a h => ?_⟩
  · by_cases z : j = i
    · subst z
      rw [List.getElem?_set_self hi] at q
      cases q
      refine ⟨v, List.getElem?_set_self (by rw [← r.len]; exact hi), ?_⟩
      rw [if_pos rfl]
      exact t.rep
    · rw [List.getElem?_set_ne (fun e => z e.symm)] at q
      obtain ⟨w, e2, rp⟩ := r.sl j e q
      refine ⟨w, by rw [List.getElem?_set_ne (fun e => z e.symm)]; exact e2, ?_⟩
      rw [if_neg z]
      exact rp
  · by_cases z : j = i
    · subst z
      rw [List.getElem?_set_self hi] at q
      cases q
    · rw [List.getElem?_set_ne (fun e => z e.symm)] at q
      obtain ⟨a, e1, e2⟩ := r.xn j q
      exact ⟨a, e1, by rw [List.getElem?_set_ne (fun e => z e.symm)]; exact e2⟩
  · split
    · rename_i z
      subst z
      exact absurd (List.getElem?_set_self hi) (q d)
    · rename_i z
      rw [List.getElem?_set_ne (fun e => z e.symm)] at q
      exact r.em j q
  · split
    · exact t.nd
    · exact r.nd j
  · split at h1
    · split at h2
      · rename_i z1 z2; exact hn (z1.trans z2.symm)
      · exact t.dj a h1 ⟨k, h2⟩
    · split at h2
      · exact t.dj a h2 ⟨j, h1⟩
      · exact r.dj j k a hn h1 h2
  · split at h
    · exact t.ap a h
    · exact r.ap j a h
abbrev S5.put (s : S5) (i : Nat) (v : V) (d : D) (g : List Addr) : S5 := { s with σ := s.σ.set i (some v), ρ := s.ρ.set i (.dt d), φ := fun j => if j = i then g else s.φ j }
theorem Goes.put {i : Nat} {d : D} {v : V} {g : List Addr} (a : Goes tc s s1 g) : Goes (tc ++ [i, i + 1000]) s (s1.put i v d g) [] :=
  ⟨a.step.drop fun x q => (by
    rcases q with ⟨j, q⟩ | q
    · dsimp only at q
      split at q
      · exact .inr q
      · exact .inl ⟨j, q⟩
    · cases q), fun j h => by
    have h1 : j ∉ tc := fun z => h (memL z)
    have h2 : j ≠ i := fun z => h (memR (by rw [z]; exact List.mem_cons_self))
    obtain ⟨x1, x2, x4⟩ := a.fix j h1
    exact ⟨(List.getElem?_set_ne fun e => h2 e.symm).trans x1, (if_neg h2).trans x2, x4⟩, fun j h => by
    have h1 : j + 1000 ∉ tc := fun z => h (memL z)
    have h2 : j ≠ i := fun z => h (memR (by rw [z]; exact List.mem_cons_of_mem _ List.mem_cons_self))
    exact (List.getElem?_set_ne fun e => h2 e.symm).trans (a.sg j h1)⟩
theorem asg_core {i : Nat} {f : M D} {σ : L2.St} {H : Hp} (h : tDS T W (tc ++ [i, i + 1000]) (dAsg i f) E σ H) : tAsg (tD T W tc f) (gName i) E σ H := by
  obtain ⟨B, s, e1, e2, rl, hp⟩ := h
  subst e1 e2
  refine seqES rl hp (fun _ => memL) fun d v s1 g _ hs r1 t a h => ?_
  unfold dPut at h
  split at h
  · rename_i hi
    have z := h (s1.put i v d g) rfl (r1.put t hi) a.put
    show E.nx (s.σ.set i (some v)) s1.H
    rw [← hs]
    exact z
  · exact h.elim
end

section
variable {X : Cx} {G : Gx} {W : WX} {tc t1 t2 t3 : List Nat} {a b c : Expr} {pos pos' : Pos} {rest : List Stmt} {st : Stmt} {u w : M D} {f g : M Flw}
theorem gs_expr (h : GE X G W tc a u) (hs : swapsWith a none pos.line X.env = pure false := by rfl) : GS X G W tc (.Expr a pos) (dExpr u) :=
  ps_mono (ps_expr h hs) fun E σ H ⟨B, s, e1, e2, rl, hp⟩ => by
    subst e1 e2
    refine seqES rl hp (fun _ h => h) fun d v s1 g _ hs r1 t a h => ?_
    have z := h s1 rfl r1 a.drop0
    rw [hs] at z
    exact z
theorem gs_ret (h : GE X G W tc a u) : GS X G W tc (.Return (some a) pos) (dRet u) :=
  ps_mono (ps_ret h) fun E σ H ⟨B, s, e1, e2, rl, hp⟩ => by
    subst e1 e2
    exact seqES rl hp (fun _ h => h) fun d v s1 g _ hs r1 t a h => h v s1 g rfl r1 t a
theorem gs_retN : GS X G W [] (.Return none pos) (dRet (ret .non)) :=
  ps_mono ps_retN fun E σ H ⟨B, s, e1, e2, rl, hp⟩ => by
    subst e1 e2
    exact hp .non s [] rfl rl (Tmp.flat .non) Goes.refl
theorem gs_pass : GS X G W [] (.Pass pos) dNx :=
  ps_mono ps_pass fun E σ H ⟨B, s, e1, e2, rl, hp⟩ => by
    subst e1 e2
    exact hp s rfl rl Goes.refl
theorem gs_break : GS X G W [] (.Break pos) (ret .bk) :=
  ps_mono ps_break fun E σ H ⟨B, s, e1, e2, rl, hp⟩ => by
    subst e1 e2
    exact hp s rfl rl Goes.refl
theorem gs_continue : GS X G W [] (.Continue pos) (ret .ct) :=
  ps_mono ps_continue fun E σ H ⟨B, s, e1, e2, rl, hp⟩ => by
    subst e1 e2
    exact hp s rfl rl Goes.refl
theorem gs_asg {i : Nat} {x : Str} (h : GE X G W tc a u) (hN : X.N.Nodup) (hi : X.N[i]? = some x) (hx : Loc X.env.scope x) (hs : swapsWith a (some (.Name x pos')) pos.line X.env = pure false := by rfl)
    (hf : X.fn x = true ∨ X.env.scope.names.lookup x = some .local := by first | exact .inl rfl | exact .inr rfl) : GS X G W (tc ++ [i, i + 1000]) (.Assign [.Name x pos'] a pos) (dAsg i u) :=
  ps_mono (ps_set hN hi hx h hs hf) fun E σ H h => asg_core h
theorem gs_if {sa sb : List Stmt} {k : M Bool} (h0 : GT X G W t1 c k) (h1 : GSs X G W t2 sa f) (h2 : GSs X G W t3 sb g) : GS X G W (t1 ++ (t2 ++ t3)) (.If c sa sb pos) (dIf k f g) :=
  ps_mono (ps_if h0 h1 h2) fun E σ H ⟨B, s, e1, e2, rl, hp⟩ => by
    subst e1 e2
    refine seqTS rl hp fun d s1 hs r1 h => ?_
    cases d with
    | true => exact ⟨B, s1, hs, rfl, r1, h.imp (fun _ _ q => q.wk fun _ => memL) fun _ _ _ _ q => q.wk fun _ => memL⟩
    | false => exact ⟨B, s1, hs, rfl, r1, h.imp (fun _ _ q => q.wk fun _ => memR) fun _ _ _ _ q => q.wk fun _ => memR⟩
theorem gss_nil : GSs X G W [] [] dNx :=
  pss_mono pss_nil fun E σ H ⟨B, s, e1, e2, rl, hp⟩ => by
    subst e1 e2
    exact hp s rfl rl Goes.refl
theorem gss_one (h : GS X G W tc st f) : GSs X G W tc [st] f := pss_one h
theorem gss_cons (h1 : GS X G W t1 st f) (h2 : GSs X G W t2 rest g) : GSs X G W (t1 ++ t2) (st :: rest) (dSeq f g) :=
  pss_mono (pss_cons h1 h2) fun E σ H ⟨B, s, e1, e2, rl, hp⟩ => by
    subst e1 e2
    refine ⟨B, s, rfl, rfl, rl, hp.bnd.imp (fun fl ρ1 ⟨_, h⟩ => ?_) fun _ _ _ _ h => h.wk fun _ => memL⟩
    cases fl with
    | nx => exact fun s1 e r1 a => ⟨B, s1, rfl, rfl, r1, by
        subst e
        exact (show Post _ _ (g s1.ρ) from h).imp (fun _ _ q => q.re a) fun _ _ _ _ q => q.re a⟩
    | bk => exact fun s1 e r1 a => (show okS _ _ _ _ _ .bk ρ1 from h) s1 e r1 (a.wk fun _ => memL)
    | ct => exact fun s1 e r1 a => (show okS _ _ _ _ _ .ct ρ1 from h) s1 e r1 (a.wk fun _ => memL)
    | rt d => exact fun v s1 g e r1 t a => (show okS _ _ _ _ _ (.rt d) ρ1 from h) v s1 g e r1 t (a.wk fun _ => memL)
/-- widen what may be touched -/
theorem gss_wk {ss : List Stmt} (h : GSs X G W t1 ss f) (hw : ∀ j ∈ t1, j ∈ t2) : GSs X G W t2 ss f :=
  pss_mono h fun E σ H ⟨B, s, e1, e2, rl, hp⟩ => ⟨B, s, e1, e2, rl, hp.imp (fun _ _ q => q.wk hw) fun _ _ _ _ q => q.wk hw⟩
/-- forget slots (nothing happens) -/
def fgt (is : List Nat) (ρ : En) : En := is.foldl (fun r i => r.set i .un) ρ
end
end Cs
namespace Cs
open PySem L2 Evl PyProof.Rows

/-! ## a def's meaning -/
def outs (pr : List Nat) (n : Nat) (ρ : En) : En := (List.range n).map fun i => if i ∈ pr then (match ρ[i]? with
  | some (.dt d) => if allF noBo d = true then .dt d else .un
  | _ => .un) else .un
def frm (N : Nat) (ds : List D) : En := ds.map Sl.dt ++ List.replicate (N - ds.length) .un
def run (f : M Flw) (pr : List Nat) (N n : Nat) (ds : List D) : Res := if ds.length = n then
  (match f (frm N ds) with
  | .ok .nx ρ => .ok .non (outs pr n ρ)
  | .ok (.rt d) ρ => if allF noBo d = true then .ok d (outs pr n ρ) else .bad
  | .exc c ks xs ρ => .exc c ks xs (outs pr n ρ)
  | _ => .bad) else .bad
def NoB (os : En) : Prop := ∀ (i : Nat) d, os[i]? = some (Sl.dt d) → allF noBo d = true
/-- what is promised of a def with the meaning m -/
def spM (T : Tx) (m : List D → Res) : Sp := fun vs H Q E => ∃ B s ds, s.σ = vs.map some ∧ s.H = H ∧ s.ρ = ds.map Sl.dt ∧ Okk T B s ∧
  (match m ds with
  | .ok d os => ∀ v s' g, s'.ρ = os → s'.σ = s.σ → Okk T B s' → Tmp T B s'.H s'.F s'.φ d v g → allF noBo d = true → NoB os → Step s.H s.F (O s.φ) s'.H s'.F (Or2 (O s'.φ) g) → Q v s'.H
  | .exc c ks xs os => ∀ cls dd s', s'.ρ = os → s'.σ = s.σ → Okk T B s' → XRep T s'.F c ks xs cls dd → NoB os → Step s.H s.F (O s.φ) s'.H s'.F (O s'.φ) → E cls dd s'.H
  | .bad => False)

section
variable {T : Tx} {B : Hp}
theorem outs_get {pr : List Nat} {n : Nat} {ρ : En} {i : Nat} {d : D} (h : (outs pr n ρ)[i]? = some (.dt d)) : i < n ∧ i ∈ pr ∧ ρ[i]? = some (.dt d) ∧ allF noBo d = true := by
  unfold outs at h
  rw [List.getElem?_map] at h
  cases e : (List.range n)[i]? with
  | none => rw [e] at h; cases h
  | some j =>
    obtain ⟨hj, ej⟩ := List.getElem?_eq_some_iff.mp e
    rw [List.getElem_range] at ej
    subst ej
    rw [List.length_range] at hj
    rw [e, Option.map_some] at h
    have h := Option.some.inj h
    split at h
    · rename_i hp
      split at h
      · rename_i d' ed
        split at h
        · rename_i hn
          cases h
          exact ⟨hj, hp, ed, hn⟩
        · cases h
      · cases h
    · cases h
theorem outs_exn {pr : List Nat} {n : Nat} {ρ : En} {i : Nat} : (outs pr n ρ)[i]? ≠ some .exn := by
  unfold outs
  rw [List.getElem?_map]
  cases e : (List.range n)[i]? with
  | none => intro h; cases h
  | some j =>
    rw [Option.map_some]
    intro h
    have h := Option.some.inj h
    split at h
    · split at h
      · split at h <;> cases h
      · cases h
    · cases h
/-- a part of the slots, seen as the arguments again -/
theorem back_rel {s : S5} {pr : List Nat} {vs : List V} {σ0 : L2.St} (r : Okk T B s) (h0 : σ0 = vs.map some) (hk : ∀ i ∈ pr, i < vs.length → s.σ[i]? = σ0[i]?) :
    Rel T σ0 B s.H s.F (outs pr vs.length s.ρ) (fun i => if (match (outs pr vs.length s.ρ)[i]? with | some (.dt _) => true | _ => false) = true then s.φ i else []) := by
  refine ⟨?_, r.exB, r.exF, r.exP, fun i d q => ?_, fun i q => absurd q outs_exn, fun i q => ?_, fun i => ?_, fun i j a hn h1 h2 => ?_, fun i a h => ?_⟩
  · rw [h0, List.length_map]
    unfold outs
    rw [List.length_map, List.length_range]
  · obtain ⟨h1, h2, h3, h4⟩ := outs_get q
    obtain ⟨v, e, rp⟩ := r.sl i d h3
    refine ⟨v, by rw [← hk i h2 h1]; exact e, ?_⟩
    rw [q]
    exact rp
  · cases e : (outs pr vs.length s.ρ)[i]? with
    | none => rfl
    | some x =>
      cases x with
      | un => rfl
      | exn => rfl
      | dt d => exact absurd e (q d)
  · split
    · exact r.nd i
    · exact .nil
  · split at h1
    · split at h2
      · exact r.dj i j a hn h1 h2
      · cases h2
    · cases h1
  · split at h
    · exact r.ap i a h
    · cases h
theorem back_O {s : S5} {pr : List Nat} {n : Nat} {a : Addr} (h : O (fun i => if (match (outs pr n s.ρ)[i]? with | some (.dt _) => true | _ => false) = true then s.φ i else []) a) : O s.φ a := by
  obtain ⟨i, h⟩ := h
  dsimp only at h
  split at h
  · exact ⟨i, h⟩
  · cases h
/-- more slots, all empty -/
theorem wide_rel {s : S5} {vs : List V} {ds : List D} {N : List Str} (r : Okk T B s) (hσ : s.σ = vs.map some) (hρ : s.ρ = ds.map Sl.dt) : Rel T (L2.start N vs) B s.H s.F (frm N.length ds) s.φ := by
  have hl : ds.length = vs.length := by
    have := r.len
    rw [hσ, hρ, List.length_map, List.length_map] at this
    exact this
  have get : ∀ (i : Nat) x, (frm N.length ds)[i]? = some x → x = .un ∨ s.ρ[i]? = some x := fun i x h => by
    unfold frm at h
    by_cases hi : i < ds.length
    · rw [List.getElem?_append_left (by rw [List.length_map]; exact hi)] at h
      rw [hρ]
      exact .inr h
    · rw [List.getElem?_append_right (by rw [List.length_map]; omega)] at h
      exact .inl (List.eq_of_mem_replicate (List.mem_of_getElem? h))
  refine ⟨?_, r.exB, r.exF, r.exP, fun i d q => ?_, fun i q => ?_, fun i q => ?_, r.nd, r.dj, r.ap⟩
  · unfold frm L2.start
    rw [List.length_append, List.length_append, List.length_map, List.length_map, List.length_replicate, List.length_replicate, hl]
  · rcases get i _ q with z | z
    · cases z
    · obtain ⟨v, e, rp⟩ := r.sl i d z
      refine ⟨v, ?_, rp⟩
      unfold L2.start
      rw [hσ] at e
      rw [List.getElem?_append_left (List.getElem?_eq_some_iff.mp e).1]
      exact e
  · rcases get i _ q with z | z
    · cases z
    · rw [hρ, List.getElem?_map] at z
      cases e : ds[i]? with
      | none => rw [e] at z; cases z
      | some d => rw [e] at z; cases z
  · refine r.em i fun d z => ?_
    refine q d ?_
    unfold frm
    rw [hρ] at z
    rw [List.getElem?_append_left (List.getElem?_eq_some_iff.mp z).1]
    exact z
end
/-- THE RULE for a def: its body has the denotation den -/
theorem fn_den {P : Program} {w : World} {K : PySem.W.Frag} {mg : Str → Option Value} {base : Heap} {x qual : Str} {st : Stmt} {f : Addr} {fd : FuncData} {N ps : List Str} {k : Nat} {G : Gx} {tc pr : List Nat} {den : M Flw}
    {dvs : List V} {kws : List (Str × V)} (F : FunD K x qual (defArgs st) (defBody st) (defScope st) dvs kws f fd) (S : FnScope N ps (defScope st)) (hpr : ∀ i ∈ pr, i + 1000 ∉ tc)
    (hd : ∀ (cdv : Value) (A : Around) (outer : List Env) (s : Shared) (H : Hp) (E : XK), Room k (A.deeper (envOfC qual (defScope st) s.heap.objs.size f cdv)) →
      GSs (cxOf (L2.CX P w) P w K mg base N qual (defScope st) f cdv A outer s H E) G (fun cls d _ H => E cls d H) tc (defBody st) den) :
    FnOk P w K mg base (L2.CX P w) (k + 1) f fd ps (spM ⟨K, G.C, G.P, G.X⟩ (run den pr N.length ps.length)) := by
  refine F.ok S (fun vs H Q E h => ?_) (fun cdv A outer s H vs Q E hr h => ⟨_, hd cdv A outer s H E hr, ?_⟩)
  · obtain ⟨B, s, ds, e1, e2, e3, r, h⟩ := h
    have hl := r.len
    rw [e1, e3, List.length_map, List.length_map] at hl
    unfold run at h
    by_cases hn : ds.length = ps.length
    · rw [← hl]
      exact hn
    · rw [if_neg hn] at h
      exact h.elim
  · obtain ⟨B, s0, ds, e1, e2, e3, r, h⟩ := h
    have hl := r.len
    rw [e1, e3, List.length_map, List.length_map] at hl
    unfold run at h
    by_cases hn : ds.length = ps.length
    · rw [if_pos hn] at h
      rw [hl] at hn
      let s1 : S5 := { σ := L2.start N vs, H := s0.H, F := s0.F, ρ := frm N.length ds, φ := s0.φ }
      have r1 : Okk ⟨K, G.C, G.P, G.X⟩ B s1 := wide_rel (s := s0) r e1 e3
      have hst : ∀ i, i < vs.length → (L2.start N vs)[i]? = s0.σ[i]? := fun i hi => by
        unfold L2.start
        rw [List.getElem?_append_left (by rw [List.length_map]; exact hi), e1]
      -- the way back
      have way : ∀ s' : S5, Okk ⟨K, G.C, G.P, G.X⟩ B s' → (∀ i ∈ pr, s'.σ[i]? = (L2.start N vs)[i]?) → Rel ⟨K, G.C, G.P, G.X⟩ s0.σ B s'.H s'.F (outs pr ps.length s'.ρ) (fun i => if (match (outs pr ps.length s'.ρ)[i]? with | some (.dt _) => true | _ => false) = true then s'.φ i else []) := fun s' r' hk => by
        rw [← hn]
        exact back_rel r' e1 fun i hi hl => (hk i hi).trans (hst i hl)
      refine ⟨B, s1, rfl, e2, r1, ?_⟩
      show Post _ _ (den (frm N.length ds))
      cases e : den (frm N.length ds) with
      | bad => rw [e] at h; exact h.elim
      | exc c ks xs ρ =>
        rw [e] at h
        intro cls dd s' e4 r' x a
        subst e4
        exact h cls dd { s' with σ := s0.σ, ρ := outs pr ps.length s'.ρ, φ := _ } rfl rfl (way s' r' fun i hi => a.sg i (hpr i hi)) x (fun i d q => (outs_get q).2.2.2) (a.step.drop fun b q => .inl (back_O q))
      | ok fl ρ =>
        rw [e] at h
        cases fl with
        | nx =>
          intro s' e4 r' a
          subst e4
          exact h .non { s' with σ := s0.σ, ρ := outs pr ps.length s'.ρ, φ := _ } [] rfl rfl (way s' r' fun i hi => a.sg i (hpr i hi)) (Tmp.flat .non) rfl (fun i d q => (outs_get q).2.2.2) (a.step.drop fun b q => q.imp back_O id)
        | rt d =>
          dsimp only at h
          by_cases hb : allF noBo d = true
          · rw [if_pos hb] at h
            intro v s' g e4 r' t a
            subst e4
            exact h v { s' with σ := s0.σ, ρ := outs pr ps.length s'.ρ, φ := _ } g rfl rfl (way s' r' fun i hi => a.sg i (hpr i hi)) ⟨t.rep, t.nd, t.ap, fun b hb q => t.dj b hb (back_O q)⟩ hb (fun i d q => (outs_get q).2.2.2) (a.step.drop fun b q => q.imp back_O id)
          · rw [if_neg hb] at h
            exact h.elim
        | bk => exact h.elim
        | ct => exact h.elim
    · rw [if_neg hn] at h
      exact h.elim
end Cs
namespace Cs
open PySem L2 Evl PyProof.Rows

/-! ## arguments: values, lent slots, slots that the callee may change -/
inductive Ar where
  | v (f : M D)
  | l (i : Nat)
  | io (i : Nat)
abbrev Arg := Ar × List Nat
def rdA (T : Tx) (W : WX) : Arg → TE
  | (.v f, tc) => tD T W tc f
  | (.l i, _) => tVar i
  | (.io i, _) => tVar i
def tRs (T : Tx) (W : WX) : List Arg → TA
  | [] => tNil
  | a :: r => tCons (rdA T W a) (tRs T W r)
def tcs : List Arg → List Nat
  | [] => []
  | (.v _, tc) :: r => tc ++ tcs r
  | (.l _, _) :: r => tcs r
  | (.io _, _) :: r => tcs r
def ios : List Arg → List Nat
  | [] => []
  | (.io i, _) :: r => i :: ios r
  | (.v _, _) :: r => ios r
  | (.l _, _) :: r => ios r
def lns : List Arg → List Nat
  | [] => []
  | (.l i, _) :: r => i :: lns r
  | (.v _, _) :: r => lns r
  | (.io _, _) :: r => lns r
def dArs : List Arg → M (List (Option D))
  | [] => ret []
  | (.v f, _) :: r => bnd f fun d => bnd (dArs r) fun ds => ret (some d :: ds)
  | (.l i, _) :: r => bnd (dPk i) fun _ => bnd (dArs r) fun ds => ret (none :: ds)
  | (.io i, _) :: r => bnd (dPk i) fun _ => bnd (dArs r) fun ds => ret (none :: ds)
def argD (ρ : En) : List Arg → List (Option D) → Option (List D)
  | [], [] => some []
  | (.v _, _) :: r, some d :: ds => (argD ρ r ds).map (d :: ·)
  | (.l i, _) :: r, none :: ds => (slot i ρ).bind fun d => (argD ρ r ds).map (mapF flLend d :: ·)
  | (.io i, _) :: r, none :: ds => (slot i ρ).bind fun d => (argD ρ r ds).map (d :: ·)
  | _, _ => none
def hd1 : En → Sl
  | [] => .un
  | o :: _ => o
def wb : List Arg → En → En → En
  | [], _, ρ => ρ
  | (.io i, _) :: r, os, ρ => (wb r os.tail ρ).set i (hd1 os)
  | (.v _, _) :: r, os, ρ => wb r os.tail ρ
  | (.l _, _) :: r, os, ρ => wb r os.tail ρ
def wbF : List Arg → (Nat → List Addr) → (Nat → List Addr) → Nat → List Addr
  | [], _, φ => φ
  | (.io i, _) :: r, ψ, φ => fun j => if j = i then ψ 0 else wbF r (fun k => ψ (k + 1)) φ j
  | (.v _, _) :: r, ψ, φ => wbF r (fun k => ψ (k + 1)) φ
  | (.l _, _) :: r, ψ, φ => wbF r (fun k => ψ (k + 1)) φ
inductive Its (T : Tx) (B : Hp) (s : S5) : List Arg → List (Option D) → List V → List Addr → Prop
  | nil : Its T B s [] [] [] []
  | v {f : M D} {tc : List Nat} {r : List Arg} {d : D} {ds : List (Option D)} {x : V} {vs : List V} {g1 g2 : List Addr} (h : Rep T B s.H s.F d x g1) (t : Its T B s r ds vs g2) : Its T B s ((.v f, tc) :: r) (some d :: ds) (x :: vs) (g1 ++ g2)
  | l {i : Nat} {tc : List Nat} {r : List Arg} {ds : List (Option D)} {x : V} {vs : List V} {g : List Addr} (h : s.σ[i]? = some (some x)) (t : Its T B s r ds vs g) : Its T B s ((.l i, tc) :: r) (none :: ds) (x :: vs) g
  | io {i : Nat} {tc : List Nat} {r : List Arg} {ds : List (Option D)} {x : V} {vs : List V} {g : List Addr} (h : s.σ[i]? = some (some x)) (t : Its T B s r ds vs g) : Its T B s ((.io i, tc) :: r) (none :: ds) (x :: vs) g
structure ItsT (T : Tx) (B : Hp) (s : S5) (ars : List Arg) (ods : List (Option D)) (vs : List V) (g : List Addr) : Prop where
  its : Its T B s ars ods vs g
  nd : g.Nodup
  ap : ∀ a ∈ g, s.F a = none ∧ B a = none
  dj : ∀ a ∈ g, ¬ O s.φ a

theorem bnd_assoc {α β γ : Type} (f : M α) (g : α → M β) (h : β → M γ) (ρ : En) : bnd (bnd f g) h ρ = bnd f (fun a => bnd (g a) h) ρ := by
  unfold bnd
  cases f ρ <;> rfl
section
variable {T : Tx} {B : Hp} {W : WX}
theorem args_core {β : Type} {s0 : S5} {U : List Nat} {okk : β → En → Prop} : ∀ {ars : List Arg} {k : List (Option D) → M β} {s : S5} {u : List Nat} {g0 : List Addr} {Q1 : List V → Hp → Prop}, Goes u s0 s g0 → s.σ = s0.σ → (∀ j ∈ u, j ∈ U) → (∀ j ∈ tcs ars, j ∈ U) → Okk T B s →
    Post okk (exE T W B U s0) (bnd (dArs ars) k s.ρ) →
    (∀ ods vs s1 g, Okk T B s1 → s1.σ = s.σ → ItsT T B s1 ars ods vs g → Goes (tcs ars) s s1 g → Post okk (exE T W B U s0) (k ods s1.ρ) → Q1 vs s1.H) → tRs T W ars s.σ s.H Q1
  | [], k, s, u, g0, Q1, a0, hσ, hu, hU, r, hp, hk => hk [] [] s [] r rfl ⟨.nil, .nil, fun _ h => (by cases h), fun _ h => (by cases h)⟩ Goes.refl hp
  | (.v f, tc) :: r', k, s, u, g0, Q1, a0, hσ, hu, hU, r, hp, hk => by
    have hp1 : Post okk (exE T W B U s0) (bnd f (fun d => bnd (dArs r') fun ds => k (some d :: ds)) s.ρ) := by
      have e : bnd (dArs ((.v f, tc) :: r')) k s.ρ = bnd f (fun d => bnd (dArs r') fun ds => k (some d :: ds)) s.ρ := by
        show bnd (bnd f fun d => bnd (dArs r') fun ds => ret (some d :: ds)) k s.ρ = _
        rw [bnd_assoc]
        congr 1
        funext d ρ
        rw [bnd_assoc]
        rfl
      rw [← e]
      exact hp
    refine ⟨B, s, rfl, rfl, r, hp1.bnd.imp (fun d ρ1 ⟨_, h⟩ x s1 g e1 e2 r1 t a => ?_) fun _ _ _ _ h cls dd s' e1 e2 r' x t => h cls dd s' e1 (e2.trans hσ) r' x ((a0.trans0 t).wk fun j q => ?_)⟩
    · subst e1
      show tRs T W r' s.σ s1.H _
      rw [← e2]
      refine args_core (a0.trans0 a) (e2.trans hσ) (fun j q => (List.mem_append.mp q).elim (hu j) fun z => hU j (memL z)) (fun j q => hU j (memR q)) r1 h fun ods vs s2 g2 r2 e3 it a2 h2 => ?_
      have t2 := t.go a2
      refine hk (some d :: ods) (x :: vs) s2 (g ++ g2) r2 (e3.trans e2) ⟨.v t2.rep it.its, List.nodup_append.mpr ⟨t2.nd, it.nd, fun p hp q hq e => t.apart a2.step p hp (e ▸ hq)⟩, fun p hp => (List.mem_append.mp hp).elim (t2.ap p) (it.ap p), fun p hp => (List.mem_append.mp hp).elim (t2.dj p) (it.dj p)⟩ ((a.trans a2).less fun p hp => ?_) h2
      rcases List.mem_append.mp hp with z | z
      · exact List.mem_append.mpr (.inr z)
      · exact List.mem_append.mpr (.inl z)
    · rcases List.mem_append.mp q with z | z
      · exact hu j z
      · exact hU j (memL z)
  | (.l i, tc) :: r', k, s, u, g0, Q1, a0, hσ, hu, hU, r, hp, hk => by
    have hp1 : Post okk (exE T W B U s0) (bnd (dPk i) (fun _ => bnd (dArs r') fun ds => k (none :: ds)) s.ρ) := by
      have e : bnd (dArs ((.l i, tc) :: r')) k s.ρ = bnd (dPk i) (fun _ => bnd (dArs r') fun ds => k (none :: ds)) s.ρ := by
        show bnd (bnd (dPk i) fun _ => bnd (dArs r') fun ds => ret (none :: ds)) k s.ρ = _
        rw [bnd_assoc]
        congr 1
        funext d ρ
        rw [bnd_assoc]
        rfl
      rw [← e]
      exact hp
    obtain ⟨d, e, hp2⟩ := pk_bnd hp1
    obtain ⟨x, ex, _⟩ := r.sl i d (slot_some e)
    refine ⟨x, ex, ?_⟩
    refine args_core a0 hσ hu hU r hp2 fun ods vs s2 g2 r2 e3 it a2 h2 => hk (none :: ods) (x :: vs) s2 g2 r2 e3 ⟨.l (by rw [e3]; exact ex) it.its, it.nd, it.ap, it.dj⟩ a2 h2
  | (.io i, tc) :: r', k, s, u, g0, Q1, a0, hσ, hu, hU, r, hp, hk => by
    have hp1 : Post okk (exE T W B U s0) (bnd (dPk i) (fun _ => bnd (dArs r') fun ds => k (none :: ds)) s.ρ) := by
      have e : bnd (dArs ((.io i, tc) :: r')) k s.ρ = bnd (dPk i) (fun _ => bnd (dArs r') fun ds => k (none :: ds)) s.ρ := by
        show bnd (bnd (dPk i) fun _ => bnd (dArs r') fun ds => ret (none :: ds)) k s.ρ = _
        rw [bnd_assoc]
        congr 1
        funext d ρ
        rw [bnd_assoc]
        rfl
      rw [← e]
      exact hp
    obtain ⟨d, e, hp2⟩ := pk_bnd hp1
    obtain ⟨x, ex, _⟩ := r.sl i d (slot_some e)
    refine ⟨x, ex, ?_⟩
    refine args_core a0 hσ hu hU r hp2 fun ods vs s2 g2 r2 e3 it a2 h2 => hk (none :: ods) (x :: vs) s2 g2 r2 e3 ⟨.io (by rw [e3]; exact ex) it.its, it.nd, it.ap, it.dj⟩ a2 h2

/-- what the callee sees -/
theorem entry {s : S5} {L : List Addr} (r : Okk T B s) (hL1 : ∀ a ∈ L, B a = none) : ∀ {ars : List Arg} {ods : List (Option D)} {vs : List V} {g : List Addr} {ds : List D}, Its T B s ars ods vs g → g.Nodup → (∀ a ∈ g, ¬ O s.φ a) → (ios ars).Nodup → (∀ i ∈ lns ars, ∀ a ∈ s.φ i, a ∈ L) → argD s.ρ ars ods = some ds →
    ∃ φ0 : Nat → List Addr, (∀ (k : Nat) d, ds[k]? = some d → ∃ v, vs[k]? = some v ∧ Rep T (ovl s.H B L) s.H s.F d v (φ0 k)) ∧ (∀ k, ds.length ≤ k → φ0 k = []) ∧ (∀ k, (φ0 k).Nodup) ∧ (∀ k l a, k ≠ l → a ∈ φ0 k → a ∉ φ0 l) ∧ (∀ a, O φ0 a → a ∈ g ∨ ∃ i ∈ ios ars, a ∈ s.φ i) ∧ ds.length = vs.length
  | _, _, _, _, ds, .nil, _, _, _, _, e => by
    have e : ds = [] := (Option.some.inj e).symm
    subst e
    exact ⟨fun _ => [], fun k d h => (by simp at h), fun _ _ => rfl, fun _ => List.Pairwise.nil, fun _ _ _ _ h => (by cases h), fun a ⟨_, h⟩ => (by cases h), rfl⟩
  | _, _, _, _, ds, .v (d := d) (g1 := g1) (g2 := g2) h t, nd, dj, ni, hl, e => by
    obtain ⟨n1, n2, n3⟩ := List.nodup_append.mp nd
    unfold argD at e
    obtain ⟨ds', e1, e2⟩ := Option.map_eq_some_iff.mp e
    subst e2
    obtain ⟨φ0, p1, p2, p3, p4, p5, p6⟩ := entry r hL1 t n2 (fun a q => dj a (List.mem_append.mpr (.inr q))) ni hl e1
    have ex := ovl_ex (H := s.H) (F := B) hL1
    have apart : ∀ a ∈ g1, ¬ O φ0 a := fun a ha q => by
      rcases p5 a q with z | ⟨i, _, z⟩
      · exact n3 a ha a z rfl
      · exact dj a (List.mem_append.mpr (.inl ha)) ⟨i, z⟩
    refine ⟨fun k => match k with | 0 => g1 | k + 1 => φ0 k, fun k d' h' => ?_, fun k hk => ?_, fun k => ?_, fun k l a hn h1 h2 => ?_, fun a ⟨k, q⟩ => ?_, by rw [List.length_cons, List.length_cons, p6]⟩
    · cases k with
      | zero =>
        have z : d = d' := by simpa using h'
        subst z
        exact ⟨_, rfl, h.mono ex (Ex.refl _) fun _ _ _ q => q⟩
      | succ k =>
        obtain ⟨v, q1, q2⟩ := p1 k d' (by simpa using h')
        exact ⟨v, by simpa using q1, q2⟩
    · cases k with
      | zero => rw [List.length_cons] at hk; omega
      | succ k => exact p2 k (by rw [List.length_cons] at hk; omega)
    · cases k with
      | zero => exact n1
      | succ k => exact p3 k
    · cases k with
      | zero =>
        cases l with
        | zero => exact hn rfl
        | succ l => exact apart a h1 ⟨l, h2⟩
      | succ k =>
        cases l with
        | zero => exact apart a h2 ⟨k, h1⟩
        | succ l => exact p4 k l a (fun z => hn (by rw [z])) h1 h2
    · cases k with
      | zero => exact .inl (List.mem_append.mpr (.inl q))
      | succ k => exact (p5 a ⟨k, q⟩).imp (fun z => List.mem_append.mpr (.inr z)) id
  | _, _, _, _, ds, .l (i := i) h t, nd, dj, ni, hl, e => by
    unfold argD at e
    obtain ⟨d0, e0, e⟩ := Option.bind_eq_some_iff.mp e
    obtain ⟨ds', e1, e2⟩ := Option.map_eq_some_iff.mp e
    subst e2
    obtain ⟨φ0, p1, p2, p3, p4, p5, p6⟩ := entry r hL1 t nd dj ni (fun j q => hl j (List.mem_cons_of_mem _ q)) e1
    obtain ⟨v, ev, rp⟩ := r.sl i d0 (slot_some e0)
    rw [h] at ev
    cases ev
    have ex := ovl_ex (H := s.H) (F := B) hL1
    refine ⟨fun k => match k with | 0 => [] | k + 1 => φ0 k, fun k d' h' => ?_, fun k hk => ?_, fun k => ?_, fun k l a hn h1 h2 => ?_, fun a ⟨k, q⟩ => ?_, by rw [List.length_cons, List.length_cons, p6]⟩
    · cases k with
      | zero =>
        have z : mapF flLend d0 = d' := by simpa using h'
        subst z
        exact ⟨_, rfl, rp.lend ex fun a ha o q => by rw [ovl_in (hl i List.mem_cons_self a ha)]; exact q⟩
      | succ k =>
        obtain ⟨v, q1, q2⟩ := p1 k d' (by simpa using h')
        exact ⟨v, by simpa using q1, q2⟩
    · cases k with
      | zero => rfl
      | succ k => exact p2 k (by rw [List.length_cons] at hk; omega)
    · cases k with
      | zero => exact .nil
      | succ k => exact p3 k
    · cases k with
      | zero => cases h1
      | succ k =>
        cases l with
        | zero => cases h2
        | succ l => exact p4 k l a (fun z => hn (by rw [z])) h1 h2
    · cases k with
      | zero => cases q
      | succ k => exact p5 a ⟨k, q⟩
  | _, _, _, _, ds, .io (i := i) h t, nd, dj, ni, hl, e => by
    unfold argD at e
    obtain ⟨d0, e0, e⟩ := Option.bind_eq_some_iff.mp e
    obtain ⟨ds', e1, e2⟩ := Option.map_eq_some_iff.mp e
    subst e2
    obtain ⟨m1, m2⟩ := List.nodup_cons.mp ni
    obtain ⟨φ0, p1, p2, p3, p4, p5, p6⟩ := entry r hL1 t nd dj m2 hl e1
    obtain ⟨v, ev, rp⟩ := r.sl i d0 (slot_some e0)
    rw [h] at ev
    cases ev
    have ex := ovl_ex (H := s.H) (F := B) hL1
    have apart : ∀ a ∈ s.φ i, ¬ O φ0 a := fun a ha q => by
      rcases p5 a q with z | ⟨j, hj, z⟩
      · exact dj a z ⟨i, ha⟩
      · exact r.dj i j a (fun y => m1 (by rw [y]; exact hj)) ha z
    refine ⟨fun k => match k with | 0 => s.φ i | k + 1 => φ0 k, fun k d' h' => ?_, fun k hk => ?_, fun k => ?_, fun k l a hn h1 h2 => ?_, fun a ⟨k, q⟩ => ?_, by rw [List.length_cons, List.length_cons, p6]⟩
    · cases k with
      | zero =>
        have z : d0 = d' := by simpa using h'
        subst z
        exact ⟨_, rfl, rp.mono ex (Ex.refl _) fun _ _ _ q => q⟩
      | succ k =>
        obtain ⟨v, q1, q2⟩ := p1 k d' (by simpa using h')
        exact ⟨v, by simpa using q1, q2⟩
    · cases k with
      | zero => rw [List.length_cons] at hk; omega
      | succ k => exact p2 k (by rw [List.length_cons] at hk; omega)
    · cases k with
      | zero => exact r.nd i
      | succ k => exact p3 k
    · cases k with
      | zero =>
        cases l with
        | zero => exact hn rfl
        | succ l => exact apart a h1 ⟨l, h2⟩
      | succ k =>
        cases l with
        | zero => exact apart a h2 ⟨k, h1⟩
        | succ l => exact p4 k l a (fun z => hn (by rw [z])) h1 h2
    · cases k with
      | zero => exact .inr ⟨i, List.mem_cons_self, q⟩
      | succ k => exact (p5 a ⟨k, q⟩).imp id fun ⟨j, hj, z⟩ => ⟨j, List.mem_cons_of_mem _ hj, z⟩
/-- the slots behind the call -/
theorem wb_at {s : S5} {ρ : En} {φ : Nat → List Addr} : ∀ {ars : List Arg} {ods : List (Option D)} {vs : List V} {g : List Addr} {os : En} {ψ : Nat → List Addr}, Its T B s ars ods vs g → ∀ j : Nat,
    (j ∉ ios ars ∧ (wb ars os ρ)[j]? = ρ[j]? ∧ wbF ars ψ φ j = φ j) ∨
      (j ∈ ios ars ∧ ∃ (k : Nat) (v : V) (tc : List Nat), ars[k]? = some (.io j, tc) ∧ wbF ars ψ φ j = ψ k ∧ vs[k]? = some v ∧ s.σ[j]? = some (some v) ∧ (wb ars os ρ)[j]? = (if j < ρ.length then some ((os[k]?).getD .un) else none))
  | _, _, _, _, os, ψ, .nil, j => .inl ⟨fun h => (by cases h), rfl, rfl⟩
  | _, _, _, _, os, ψ, .v h t, j => by
    rcases wb_at (ρ := ρ) (φ := φ) (os := os.tail) (ψ := fun k => ψ (k + 1)) t j with ⟨h1, h2, h3⟩ | ⟨h1, k, v, tc, h2, h3, h4, h5, h6⟩
    · exact .inl ⟨h1, h2, h3⟩
    · refine .inr ⟨h1, k + 1, v, tc, by simpa using h2, h3, by simpa using h4, h5, ?_⟩
      rw [show wb _ os ρ = wb _ os.tail ρ from rfl, h6, List.getElem?_tail]
  | _, _, _, _, os, ψ, .l h t, j => by
    rcases wb_at (ρ := ρ) (φ := φ) (os := os.tail) (ψ := fun k => ψ (k + 1)) t j with ⟨h1, h2, h3⟩ | ⟨h1, k, v, tc, h2, h3, h4, h5, h6⟩
    · exact .inl ⟨h1, h2, h3⟩
    · refine .inr ⟨h1, k + 1, v, tc, by simpa using h2, h3, by simpa using h4, h5, ?_⟩
      rw [show wb _ os ρ = wb _ os.tail ρ from rfl, h6, List.getElem?_tail]
  | _, _, _, _, os, ψ, .io (i := i) (tc := tc0) (r := r) h t, j => by
    have hlen : ∀ (l : List Arg) (os : En), (wb l os ρ).length = ρ.length := by
      intro l
      induction l with
      | nil => intro _; rfl
      | cons a l ih =>
        intro os
        obtain ⟨a, b⟩ := a
        cases a with
        | v f => exact ih _
        | l i => exact ih _
        | io i =>
          show ((wb l os.tail ρ).set i (hd1 os)).length = _
          rw [List.length_set]
          exact ih _
    by_cases z : j = i
    · subst z
      refine .inr ⟨List.mem_cons_self, 0, _, tc0, rfl, by show (if j = j then ψ 0 else _) = _; rw [if_pos rfl], rfl, h, ?_⟩
      show ((wb r os.tail ρ).set j (hd1 os))[j]? = _
      by_cases hj : j < ρ.length
      · rw [List.getElem?_set_self (by rw [hlen]; exact hj), if_pos hj]
        cases os <;> rfl
      · rw [if_neg hj, List.getElem?_eq_none (by rw [List.length_set, hlen]; omega)]
    · rcases wb_at (ρ := ρ) (φ := φ) (os := os.tail) (ψ := fun k => ψ (k + 1)) t j with ⟨h1, h2, h3⟩ | ⟨h1, k, v, tc, h2, h3, h4, h5, h6⟩
      · refine .inl ⟨fun q => ?_, ?_, ?_⟩
        · rcases List.mem_cons.mp q with q | q
          · exact z q
          · exact h1 q
        · show ((wb r os.tail ρ).set i (hd1 os))[j]? = _
          rw [List.getElem?_set_ne fun e => z e.symm]
          exact h2
        · show (if j = i then ψ 0 else _) = _
          rw [if_neg z]
          exact h3
      · refine .inr ⟨List.mem_cons_of_mem _ h1, k + 1, v, tc, by simpa using h2, ?_, by simpa using h4, h5, ?_⟩
        · show (if j = i then ψ 0 else _) = _
          rw [if_neg z]
          exact h3
        · show ((wb r os.tail ρ).set i (hd1 os))[j]? = _
          rw [List.getElem?_set_ne fun e => z e.symm, h6, List.getElem?_tail]
theorem Step.more {H F H1 F1 : Hp} {O1 O2 O3 : Addr → Prop} (s : Step H F O1 H1 F1 O2) (h : ∀ a, O1 a → O3 a) : Step H F O3 H1 F1 O2 :=
  ⟨fun a o e n => s.keep a o e fun z => n (h a z), s.ext, fun a o e n => (s.fn a o e n).imp (h a) id, fun a q => (s.on a q).imp (h a) id⟩
/-- the caller's state behind the call -/
theorem after {s s' : S5} {ars : List Arg} {ods : List (Option D)} {vs : List V} {g gr : List Addr} {φ0 : Nat → List Addr} {B0 : Hp} {os : En} (r : Okk T B s) (it : ItsT T B s ars ods vs g) (p5 : ∀ a, O φ0 a → a ∈ g ∨ ∃ i ∈ ios ars, a ∈ s.φ i)
    (exB : Ex B s.H) (hB0 : ∀ a, B0 a = none → B a = none) (r' : Okk T B0 s') (e1 : s'.σ = vs.map some) (e2 : s'.ρ = os) (nb : NoB os) (st : Step s.H s.F (O φ0) s'.H s'.F (Or2 (O s'.φ) gr)) :
    Rel T s.σ B s'.H s'.F (wb ars os s.ρ) (wbF ars s'.φ s.φ) ∧ Step s.H s.F (Or2 (O s.φ) g) s'.H s'.F (Or2 (O (wbF ars s'.φ s.φ)) gr) ∧ (∀ j, j ∉ ios ars → (wb ars os s.ρ)[j]? = s.ρ[j]? ∧ wbF ars s'.φ s.φ j = s.φ j ∧ ∀ a ∈ s.φ j, s'.H a = s.H a) := by
  have W2 := fun j => wb_at (s := s) (ρ := s.ρ) (φ := s.φ) (os := os) (ψ := s'.φ) it.its j
  -- other slots' cells are not the callee's
  have far : ∀ j, j ∉ ios ars → ∀ a ∈ s.φ j, ¬ O φ0 a := fun j hj a ha q => by
    rcases p5 a q with z | ⟨i, hi, z⟩
    · exact it.dj a z ⟨j, ha⟩
    · exact r.dj i j a (fun y => hj (by rw [← y]; exact hi)) z ha
  have farB : ∀ a o, B a = some o → ¬ O φ0 a := fun a o e q => by
    rcases p5 a q with z | ⟨i, _, z⟩
    · rw [(it.ap a z).2] at e; cases e
    · rw [(r.ap i a z).2] at e; cases e
  have keepB : Ex B s'.H := fun a o e => st.keep a o (exB a o e) (farB a o e)
  -- a cell of another slot is not one of the callee's new ones
  have new : ∀ j, j ∉ ios ars → ∀ a ∈ s.φ j, ¬ O s'.φ a ∧ a ∉ gr ∧ s'.F a = none := fun j hj a ha => by
    obtain ⟨o, e⟩ := r.dom ⟨j, ha⟩
    have n : ¬ (O φ0 a ∨ s.H a = none) := fun z => z.elim (far j hj a ha) fun z => by rw [e] at z; cases z
    refine ⟨fun q => n (st.on a (.inl q)), fun q => n (st.on a (.inr q)), ?_⟩
    cases ef : s'.F a with
    | none => rfl
    | some o' => exact absurd (st.fn a o' ef (r.ap j a ha).1) n
  have len : (wb ars os s.ρ).length = s.ρ.length := by
    have z : ∀ (l : List Arg) (os : En), (wb l os s.ρ).length = s.ρ.length := by
      intro l
      induction l with
      | nil => intro _; rfl
      | cons a l ih =>
        intro os
        obtain ⟨a, b⟩ := a
        cases a with
        | v f => exact ih _
        | l i => exact ih _
        | io i =>
          show ((wb l os.tail s.ρ).set i (hd1 os)).length = _
          rw [List.length_set]
          exact ih _
    exact z ars os
  have ioAt : ∀ (k : Nat) x, os[k]? = some x → s'.ρ[k]? = some x := fun k x h => by rw [e2]; exact h
  refine ⟨⟨len.trans r.len, keepB, r'.exF, r'.exP, fun j d q => ?_, fun j q => ?_, fun j q => ?_, fun j => ?_, fun j k a hn h1 h2 => ?_, fun j a h => ?_⟩, ⟨?_, st.ext, ?_, ?_⟩, fun j hj => ?_⟩
  · -- a slot's data
    rcases W2 j with ⟨h1, h2, h3⟩ | ⟨h1, k, v, tc, h2, h3, h4, h5, h6⟩
    · rw [h2] at q
      obtain ⟨v, e, rp⟩ := r.sl j d q
      rw [h3]
      exact ⟨v, e, rp.mono (Ex.refl B) st.ext fun a ha o e => st.keep a o e (far j h1 a ha)⟩
    · rw [h6] at q
      split at q
      · have q := Option.some.inj q
        cases eo : os[k]? with
        | none => rw [eo] at q; cases q
        | some x =>
          rw [eo, Option.getD_some] at q
          subst q
          obtain ⟨v', e, rp⟩ := r'.sl k d (ioAt k _ eo)
          rw [e1, List.getElem?_map, h4] at e
          cases e
          rw [h3]
          exact ⟨v, h5, rp.noB (nb k d eo)⟩
      · cases q
  · rcases W2 j with ⟨h1, h2, h3⟩ | ⟨h1, k, v, tc, h2, h3, h4, h5, h6⟩
    · rw [h2] at q
      exact r.xn j q
    · rw [h6] at q
      split at q
      · have q := Option.some.inj q
        cases eo : os[k]? with
        | none => rw [eo] at q; cases q
        | some x =>
          rw [eo, Option.getD_some] at q
          subst q
          obtain ⟨a, ea, eb⟩ := r'.xn k (ioAt k _ eo)
          rw [e1, List.getElem?_map, h4] at eb
          cases eb
          exact ⟨a, ea, h5⟩
      · cases q
  · rcases W2 j with ⟨h1, h2, h3⟩ | ⟨h1, k, v, tc, h2, h3, h4, h5, h6⟩
    · rw [h2] at q
      rw [h3]
      exact r.em j q
    · rw [h3]
      refine r'.em k fun d z => ?_
      rw [e2] at z
      rw [h6, z] at q
      have hj : j < s.ρ.length := by
        rw [r.len]
        exact (List.getElem?_eq_some_iff.mp h5).1
      rw [if_pos hj] at q
      exact q d rfl
  · rcases W2 j with ⟨h1, h2, h3⟩ | ⟨h1, k, v, tc, h2, h3, h4, h5, h6⟩
    · rw [h3]; exact r.nd j
    · rw [h3]; exact r'.nd k
  · rcases W2 j with ⟨x1, x2, x3⟩ | ⟨x1, kj, v, tc, x2, x3, x4, x5, x6⟩
    · rw [x3] at h1
      rcases W2 k with ⟨y1, y2, y3⟩ | ⟨y1, kk, w, tc', y2, y3, y4, y5, y6⟩
      · rw [y3] at h2
        exact r.dj j k a hn h1 h2
      · rw [y3] at h2
        exact (new j x1 a h1).1 ⟨kk, h2⟩
    · rw [x3] at h1
      rcases W2 k with ⟨y1, y2, y3⟩ | ⟨y1, kk, w, tc', y2, y3, y4, y5, y6⟩
      · rw [y3] at h2
        exact (new k y1 a h2).1 ⟨kj, h1⟩
      · rw [y3] at h2
        refine r'.dj kj kk a (fun z => hn ?_) h1 h2
        subst z
        rw [x2] at y2
        cases y2
        rfl
  · rcases W2 j with ⟨x1, x2, x3⟩ | ⟨x1, kj, v, tc, x2, x3, x4, x5, x6⟩
    · rw [x3] at h
      exact ⟨(new j x1 a h).2.2, (r.ap j a h).2⟩
    · rw [x3] at h
      exact ⟨(r'.ap kj a h).1, hB0 a (r'.ap kj a h).2⟩
  · exact fun a o e n => st.keep a o e fun q => n ((p5 a q).elim .inr fun ⟨i, _, z⟩ => .inl ⟨i, z⟩)
  · exact fun a o e n => (st.fn a o e n).imp (fun q => (p5 a q).elim .inr fun ⟨i, _, z⟩ => .inl ⟨i, z⟩) id
  · intro a q
    rcases q with ⟨j, q⟩ | q
    · rcases W2 j with ⟨x1, x2, x3⟩ | ⟨x1, kj, v, tc, x2, x3, x4, x5, x6⟩
      · rw [x3] at q
        exact .inl (.inl ⟨j, q⟩)
      · rw [x3] at q
        exact (st.on a (.inl ⟨kj, q⟩)).imp (fun q => (p5 a q).elim .inr fun ⟨i, _, z⟩ => .inl ⟨i, z⟩) id
    · exact (st.on a (.inr q)).imp (fun q => (p5 a q).elim .inr fun ⟨i, _, z⟩ => .inl ⟨i, z⟩) id
  · rcases W2 j with ⟨x1, x2, x3⟩ | ⟨x1, _⟩
    · refine ⟨x2, x3, fun a ha => ?_⟩
      obtain ⟨o, e⟩ := r.dom ⟨j, ha⟩
      rw [e]
      exact st.keep a o e (far j hj a ha)
    · exact absurd x1 hj
def callD (m : List D → Res) (ars : List Arg) (ods : List (Option D)) : M D := fun ρ => match argD ρ ars ods with
  | none => .bad
  | some ds => match m ds with
    | .ok d os => .ok d (wb ars os ρ)
    | .exc c ks xs os => .exc c ks xs (wb ars os ρ)
    | .bad => .bad
theorem call_fin {m : List D → Res} {ars : List Arg} {s s1 : S5} {ods : List (Option D)} {vs : List V} {g : List Addr} {Q : VK} (hn : (ios ars).Nodup) (hl : ∀ i ∈ lns ars, i ∉ ios ars) (r1 : Okk T B s1) (e3 : s1.σ = s.σ) (it : ItsT T B s1 ars ods vs g) (a : Goes (tcs ars) s s1 g)
    (h : Post (okE T B (tcs ars ++ ios ars) s Q) (exE T W B (tcs ars ++ ios ars) s) (callD m ars ods s1.ρ)) : spM T m vs s1.H Q (WE W s.σ) := by
  have hL1 : ∀ x ∈ (lns ars).flatMap s1.φ, B x = none := fun x hx => by
    obtain ⟨i, _, hi⟩ := List.mem_flatMap.mp hx
    exact (r1.ap i x hi).2
  have h : Post (okE T B (tcs ars ++ ios ars) s Q) (exE T W B (tcs ars ++ ios ars) s) (match argD s1.ρ ars ods with
    | none => .bad
    | some ds => match m ds with
      | .ok d os => .ok d (wb ars os s1.ρ)
      | .exc c ks xs os => .exc c ks xs (wb ars os s1.ρ)
      | .bad => .bad) := h
  cases ed : argD s1.ρ ars ods with
  | none => rw [ed] at h; exact h.elim
  | some ds =>
    rw [ed] at h
    obtain ⟨φ0, p1, p2, p3, p4, p5, p6⟩ := entry r1 hL1 it.its it.nd it.dj hn (fun i hi x hx => List.mem_flatMap.mpr ⟨i, hi, hx⟩) ed
    have exB0 : Ex (ovl s1.H B ((lns ars).flatMap s1.φ)) s1.H := ovl_sub r1.exB
    have hB0 : ∀ x, ovl s1.H B ((lns ars).flatMap s1.φ) x = none → B x = none := fun x e => by
      by_cases z : x ∈ (lns ars).flatMap s1.φ
      · exact hL1 x z
      · rw [ovl_out z] at e; exact e
    have apart : ∀ x, O φ0 x → x ∉ (lns ars).flatMap s1.φ := fun x q z => by
      obtain ⟨i, hi, hx⟩ := List.mem_flatMap.mp z
      rcases p5 x q with y | ⟨j, hj, y⟩
      · exact it.dj x y ⟨i, hx⟩
      · exact r1.dj i j x (fun w => hl i hi (by rw [w]; exact hj)) hx y
    let s2 : S5 := { σ := vs.map some, H := s1.H, F := s1.F, ρ := ds.map Sl.dt, φ := φ0 }
    have r2 : Okk T (ovl s1.H B ((lns ars).flatMap s1.φ)) s2 := by
      refine ⟨by show (ds.map Sl.dt).length = (vs.map some).length; rw [List.length_map, List.length_map, p6], exB0, r1.exF, r1.exP, fun k d q => ?_, fun k q => ?_, fun k q => ?_, p3, p4, fun k x q => ?_⟩
      · have q : (ds.map Sl.dt)[k]? = some (.dt d) := q
        rw [List.getElem?_map] at q
        cases e : ds[k]? with
        | none => rw [e] at q; cases q
        | some d' =>
          rw [e] at q
          cases q
          obtain ⟨v, q1, q2⟩ := p1 k d e
          exact ⟨v, by show (vs.map some)[k]? = _; rw [List.getElem?_map, q1]; rfl, q2⟩
      · have q : (ds.map Sl.dt)[k]? = some .exn := q
        rw [List.getElem?_map] at q
        cases e : ds[k]? with
        | none => rw [e] at q; cases q
        | some d' => rw [e] at q; cases q
      · refine p2 k ?_
        cases e : ds[k]? with
        | none => exact List.getElem?_eq_none_iff.mp e
        | some d' =>
          refine absurd ?_ (q d')
          show (ds.map Sl.dt)[k]? = _
          rw [List.getElem?_map, e]
          rfl
      · have na : x ∉ (lns ars).flatMap s1.φ := apart x ⟨k, q⟩
        rcases p5 x ⟨k, q⟩ with z | ⟨i, _, z⟩
        · exact ⟨(it.ap x z).1, by rw [ovl_out na]; exact (it.ap x z).2⟩
        · exact ⟨(r1.ap i x z).1, by rw [ovl_out na]; exact (r1.ap i x z).2⟩
    refine ⟨_, s2, ds, rfl, rfl, rfl, r2, ?_⟩
    dsimp only at h
    cases em : m ds with
    | bad => rw [em] at h; exact h.elim
    | ok d os =>
      rw [em] at h
      intro v s' gr x1 x2 r' t nd nb st
      obtain ⟨q1, q2, q3⟩ := after r1 it p5 r1.exB hB0 r' x2 x1 nb st
      refine h v { σ := s1.σ, H := s'.H, F := s'.F, ρ := wb ars os s1.ρ, φ := wbF ars s'.φ s1.φ } gr rfl e3 q1 ⟨t.rep.noB nd, t.nd, fun x hx => ⟨(t.ap x hx).1, hB0 x (t.ap x hx).2⟩, fun x hx q => ?_⟩ ⟨a.step.trans q2, fun j hj => ?_, fun j hj => ?_⟩
      · obtain ⟨j, q⟩ := q
        rcases wb_at (s := s1) (ρ := s1.ρ) (φ := s1.φ) (os := os) (ψ := s'.φ) it.its j with ⟨y1, y2, y3⟩ | ⟨y1, k, w, tc, y2, y3, y4, y5, y6⟩
        · have q : x ∈ wbF ars s'.φ s1.φ j := q
          rw [y3] at q
          obtain ⟨o, e⟩ := r1.dom ⟨j, q⟩
          rcases st.on x (.inr hx) with z | z
          · rcases p5 x z with z | ⟨i, hi, z⟩
            · exact it.dj x z ⟨j, q⟩
            · exact r1.dj i j x (fun y => y1 (by rw [← y]; exact hi)) z q
          · rw [show s2.H x = s1.H x from rfl, e] at z; cases z
        · have q : x ∈ wbF ars s'.φ s1.φ j := q
          rw [y3] at q
          exact t.dj x hx ⟨k, q⟩
      · obtain ⟨b1, b2, b3⟩ := a.fix j fun z => hj (memL z)
        obtain ⟨c1, c2, c3⟩ := q3 j fun z => hj (memR z)
        exact ⟨c1.trans b1, c2.trans b2, fun x hx => (c3 x (by rw [b2]; exact hx)).trans (b3 x hx)⟩
      · exact a.sg j fun z => hj (memL z)
    | exc c ks xs os =>
      rw [em] at h
      intro cls dd s' x1 x2 r' xr nb st
      obtain ⟨q1, q2, q3⟩ := after r1 it p5 r1.exB hB0 r' x2 x1 nb st.or0
      have z := h cls dd { σ := s1.σ, H := s'.H, F := s'.F, ρ := wb ars os s1.ρ, φ := wbF ars s'.φ s1.φ } rfl e3 q1 xr ⟨a.step.trans q2, fun j hj => ?_, fun j hj => ?_⟩
      · show W cls dd s.σ s'.H
        rw [← e3]
        exact z
      · obtain ⟨b1, b2, b3⟩ := a.fix j fun z => hj (memL z)
        obtain ⟨c1, c2, c3⟩ := q3 j fun z => hj (memR z)
        exact ⟨c1.trans b1, c2.trans b2, fun x hx => (c3 x (by rw [b2]; exact hx)).trans (b3 x hx)⟩
      · exact a.sg j fun z => hj (memL z)
def dCall (m : List D → Res) (ars : List Arg) : M D := bnd (dArs ars) fun ods => callD m ars ods
theorem call_core {m : List D → Res} {ars : List Arg} {σ : L2.St} {H : Hp} {Q : VK} (hn : (ios ars).Nodup) (hl : ∀ i ∈ lns ars, i ∉ ios ars) (h : tD T W (tcs ars ++ ios ars) (dCall m ars) σ H Q) : tCallS (spM T m) (WE W) (tRs T W ars) σ H Q := by
  obtain ⟨B, s, e1, e2, r, hp⟩ := h
  subst e1 e2
  exact args_core (s0 := s) (u := []) (g0 := []) Goes.refl rfl (fun _ h => by cases h) (fun j q => memL q) r hp fun ods vs s1 g r1 e3 it a h => call_fin hn hl r1 e3 it a h
end
section
variable {X : Cx} {G : Gx} {W : WX} {tc : List Nat} {a e : Expr} {es : List Expr} {pos p : Pos}
abbrev GR (X : Cx) (G : Gx) (W : WX) (es : List Expr) (ars : List Arg) : Prop := PA X es (tRs (tx X G) W ars)
theorem gr_nil : GR X G W [] [] := pa_nil
theorem gr_v {f : M D} {ars : List Arg} (h1 : GE X G W tc a f) (h2 : GR X G W es ars) (hs : starEach (a :: es) X.env = (false, eval a X.env) :: starEach es X.env := by rfl) : GR X G W (a :: es) ((.v f, tc) :: ars) := pa_cons h1 h2 hs
theorem gr_l {i : Nat} {ars : List Arg} (h1 : PE X a (tVar i)) (h2 : GR X G W es ars) (hs : starEach (a :: es) X.env = (false, eval a X.env) :: starEach es X.env := by rfl) : GR X G W (a :: es) ((.l i, []) :: ars) := pa_cons h1 h2 hs
theorem gr_io {i : Nat} {ars : List Arg} (h1 : PE X a (tVar i)) (h2 : GR X G W es ars) (hs : starEach (a :: es) X.env = (false, eval a X.env) :: starEach es X.env := by rfl) : GR X G W (a :: es) ((.io i, []) :: ars) := pa_cons h1 h2 hs
/-- f(e, ..), f an own def with the meaning m -/
theorem g_call {k : Nat} {f : Addr} {fd : FuncData} {ps : List Str} {m : List D → Res} {x : Str} {ars : List Arg} (tk : Takes X W) (F : FnOk X.prog X.w X.K X.mg X.base (L2.CX X.prog X.w) k f fd ps (spM (tx X G) m)) (hr : Room k X.A) (hg : Gl X x) (hm : X.mg x = some (.ref f)) (hk : PySem.W.keepIn X.K (.ref f) = true) (hb : Binds X.K fd ps [])
    (ha : GR X G W (e :: es) ars) (hn : (ios ars).Nodup := by decide) (hl : ∀ i ∈ lns ars, i ∉ ios ars := by decide) (hdb : (x == ("__debug__" : Str)) = false := by decide) (he : starEach (e :: es) X.env = (false, eval e X.env) :: starEach es X.env := by rfl) (hpl : (backTo pos (starEach es X.env)).any (·.1) = false := by rfl) :
    GE X G W (tcs ars ++ ios ars) (.Call (.Name x p) (e :: es) [] pos) (dCall m ars) :=
  pe_mono (pe_callS F hr hg hm hk hb (fun σ => passAt tk σ) ha hdb he hpl) fun σ H Q h => call_core hn hl h
end
end Cs
namespace Cs
open PySem L2 Evl PyProof.Rows

/-! ## what is walked -/
structure Src (T : Tx) (B : Hp) (J : It) (n : Nat) (Gd : Hp → Prop) (Y : Nat → Hp → V → Hp → Prop) (F0 : Hp) (items : List D) : Prop where
  w : Walk J n Gd Y
  len : items.length = n
  g : ∀ s : S5, Okk T B s → Ex F0 s.F → Gd s.H
  y : ∀ (i : Nat) (x : V) (H' : Hp) (s : S5), i < n → Okk T B s → Ex F0 s.F → Y i s.H x H' → ∃ d s', items[i]? = some d ∧ s'.H = H' ∧ s'.σ = s.σ ∧ s'.ρ = s.ρ ∧ Okk T B s' ∧ Goes [] s s' [] ∧ Rep T B s'.H s'.F d x []
def okI (T : Tx) (B : Hp) (tc : List Nat) (s : S5) (R : It → Hp → Prop) : List D → En → Prop := fun ds ρ => ∀ J n Gd Y s', s'.ρ = ρ → s'.σ = s.σ → Okk T B s' → Goes tc s s' [] → Src T B J n Gd Y s'.F ds → R J s'.H
def tDI (T : Tx) (W : WX) (tc : List Nat) (f : M (List D)) : TI := fun σ H R => ∃ B s, s.σ = σ ∧ s.H = H ∧ Okk T B s ∧ Post (okI T B tc s R) (exE T W B tc s) (f s.ρ)
abbrev GI (X : Cx) (G : Gx) (W : WX) (tc : List Nat) (tg iter : Expr) (f : M (List D)) : Prop := PI X tg iter (tDI (tx X G) W tc f)
theorem pi_mono {X : Cx} {tg e : Expr} {t t' : TI} (h : PI X tg e t) (i : ∀ σ H R, t' σ H R → t σ H R) : PI X tg e t' := ⟨fun pins s σ H R I q => h.run pins s σ H R I (i σ H R q)⟩
theorem pi_alt {X : Cx} {tg e : Expr} {t u : TI} (h1 : PI X tg e t) (h2 : PI X tg e u) : PI X tg e (fun σ H R => t σ H R ∨ u σ H R) := ⟨fun pins s σ H R I q => q.elim (h1.run pins s σ H R I) (h2.run pins s σ H R I)⟩
def signs (z : Str) : List D := z.cps.toList.map fun c => .str ⟨#[c]⟩
def itemsOf : D → Option (List D)
  | .lst _ xs => some xs
  | .tup xs => some xs
  | .str z => some (signs z)
  | _ => none
/-- a value that is walked: frozen first -/
def dIt (f : M D) : M (List D) := bnd (dFz f) fun d => match itemsOf d with
  | some ds => ret ds
  | none => bad
mutual
theorem frz_noOw : ∀ d : D, allF noOw (mapF flFrz d) = true
  | .non => by rw [mapF, allF]
  | .bl _ => by rw [mapF, allF]
  | .int _ => by rw [mapF, allF]
  | .str _ => by rw [mapF, allF]
  | .cls _ => by rw [mapF, allF]
  | .tup xs => by rw [mapF, allF]; exact frzs_noOw xs
  | .lst o xs => by rw [mapF, allF, frzs_noOw xs]; cases o <;> rfl
  | .dct o ks xs => by rw [mapF, allF, frzs_noOw xs]; cases o <;> rfl
  | .obj o c ks xs => by rw [mapF, allF, frzs_noOw xs]; cases o <;> rfl
theorem frzs_noOw : ∀ ds : List D, allFs noOw (mapFs flFrz ds) = true
  | [] => by rw [mapFs, allFs]
  | d :: ds => by rw [mapFs, allFs, frz_noOw d, frzs_noOw ds]; rfl
end
theorem Rep.listS {T : Tx} {B H F : Hp} {o : Fl} {ds : List D} {v : V} (r : Rep T B H F (.lst o ds) v []) : ∃ a vs, v = .ref a ∧ Reps T B H F ds vs [] ∧ ∀ H2 F2, Ex F F2 → Ex F2 H2 → Ex B H2 → SqL T.K H2 a vs := by
  cases r with
  | lstF h r => exact ⟨_, _, rfl, r, fun H2 F2 e1 e2 _ => sq_of (e2 _ _ (e1 _ _ h))⟩
  | lstR h r => exact ⟨_, _, rfl, r, fun H2 F2 e1 e2 _ => ex_l e2 (ex_l e1 h)⟩
  | lstB h r => exact ⟨_, _, rfl, r, fun H2 F2 _ _ e => sq_of (e _ _ h)⟩
  | lstO h r e => cases e
theorem Rep.tupS {T : Tx} {B H F : Hp} {ds : List D} {v : V} (r : Rep T B H F (.tup ds) v []) : ∃ a vs, v = .ref a ∧ Reps T B H F ds vs [] ∧ ∀ H2 F2, Ex F F2 → Ex F2 H2 → SqT T.K H2 a vs := by
  cases r with
  | tup h r => exact ⟨_, _, rfl, r, fun H2 F2 e1 e2 => ex_t e2 (ex_t e1 h.sq)⟩
section
variable {T : Tx} {B : Hp} {s : S5}
theorem Reps.get0 {H F : Hp} {i : Nat} {d : D} : ∀ {ds : List D} {vs : List V}, Reps T B H F ds vs [] → ds[i]? = some d → ∃ v, vs[i]? = some v ∧ Rep T B H F d v [] := by
  intro ds
  induction ds generalizing i with
  | nil => intro vs _ b; simp at b
  | cons x ds ih =>
    intro vs a b
    cases a with
    | cons r rs e =>
      obtain ⟨e1, e2⟩ := List.append_eq_nil_iff.mp e.symm
      subst e1 e2
      cases i with
      | zero =>
        have e1 : x = d := by simpa using b
        subst e1
        exact ⟨_, rfl, r⟩
      | succ i =>
        obtain ⟨v, h1, h2⟩ := ih rs (by simpa using b)
        exact ⟨v, by simpa using h1, h2⟩
theorem src_at {a : Addr} {vs : List V} {ds : List D} {J : It} {Gd : Hp → Prop} (w : Walk J vs.length Gd (YAt vs)) (h : ∀ s1 : S5, Okk T B s1 → Ex s.F s1.F → Gd s1.H) (rp : Reps T B s.H s.F ds vs []) : Src T B J vs.length Gd (YAt vs) s.F ds := by
  refine ⟨w, rp.len, fun s1 r e => h s1 r e, fun i x H' s1 hi r e y => ?_⟩
  obtain ⟨e1, e2⟩ := y
  cases ed : ds[i]? with
  | none =>
    rw [List.getElem?_eq_none_iff, rp.len] at ed
    rw [List.getElem?_eq_none ed] at e2
    cases e2
  | some d =>
    obtain ⟨v, q1, q2⟩ := (rp.mono (H' := s1.H) (Ex.refl B) e fun a q => (by cases q)).get0 ed
    rw [e2] at q1
    cases q1
    exact ⟨d, s1, rfl, e1.symm, rfl, rfl, r, Goes.refl, q2⟩
def rng (lo : Int) (n : Nat) : List D := (List.range n).map fun (i : Nat) => .int (lo + (i : Int))
theorem src_range {lo : Int} {n : Nat} : Src T B (Itr lo n) n (fun _ => True) (YFn fun i => .int (lo + i)) s.F (rng lo n) := by
  refine ⟨walk_range, by simp [rng], fun _ _ _ => trivial, fun i x H' s1 hi r e y => ?_⟩
  obtain ⟨e1, e2⟩ := y
  subst e2
  exact ⟨.int (lo + (i : Int)), s1, by simp [rng, hi], e1.symm, rfl, rfl, r, Goes.refl, .int _⟩
theorem src_str {z : Str} (hz : PyData.strOk z = true) : Src T B (L2.Its z) z.cps.size (fun _ => True) (fun i H v H' => H' = H ∧ ∃ c, z.cps[i]? = some c ∧ v = .str ⟨#[c]⟩) s.F (signs z) := by
  refine ⟨walk_str, by simp [signs], fun _ _ _ => trivial, fun i x H' s1 hi r e y => ?_⟩
  obtain ⟨e1, c, ec, e2⟩ := y
  subst e2
  refine ⟨.str ⟨#[c]⟩, s1, by simp [signs, ec], e1.symm, rfl, rfl, r, Goes.refl, .str _ (strOk_sign hz ?_)⟩
  exact Array.mem_def.mp (Array.mem_of_getElem? ec)
end

section
variable {X : Cx} {G : Gx} {W : WX} {tc t1 t2 : List Nat} {tg e a b : Expr} {pos p : Pos} {f u w : M D}
def iSeq (K : PySem.W.Frag) (te : TE) : TI := fun σ H R => iList K te σ H R ∨ (iTup K te σ H R ∨ iStr te σ H R)
theorem dFz_frz {f : M D} {ρ ρ1 : En} {d : D} (h : dFz f ρ = .ok d ρ1) : allF noOw d = true := by
  unfold dFz at h
  cases e : f ρ with
  | bad => rw [bnd_bad e] at h; cases h
  | exc c ks xs ρ' => rw [bnd_exc e] at h; cases h
  | ok d' ρ' =>
    rw [bnd_ok e] at h
    cases h
    exact frz_noOw d'
/-- for .. in e, e a list, a tuple or a text -/
theorem gi_seq (h0 : GE X G W tc e f) : GI X G W tc tg e (dIt f) := by
  have h := g_fz h0
  refine pi_mono (pi_alt (pi_list h) (pi_alt (pi_tup h) (pi_str h))) fun σ H R ⟨B, s, e1, e2, rl, hp⟩ => ?_
  subst e1 e2
  -- which kind
  cases ef : dFz f s.ρ with
  | bad => unfold dIt at hp; rw [bnd_bad ef] at hp; exact hp.elim
  | exc c ks xs ρ =>
    unfold dIt at hp
    rw [bnd_exc ef] at hp
    exact .inl ⟨B, s, rfl, rfl, rl, by rw [ef]; exact hp⟩
  | ok d ρ =>
    have hp' := hp
    unfold dIt at hp'
    rw [bnd_ok ef] at hp'
    have hn := dFz_frz ef
    cases d with
    | lst o xs =>
      refine .inl (seqE1 rl hp fun d v s1 g ed hs r1 t a h => ?_)
      rw [ef] at ed
      cases ed
      have z := rep_v t.rep hn
      obtain ⟨p, vs, rfl, rp, sq⟩ := z.listS
      exact ⟨p, rfl, ⟨vs, sq s1.H s1.F (Ex.refl _) r1.exF r1.exB⟩, h _ _ _ _ s1 rfl hs r1 a.drop0 (src_at (a := p) walk_list (fun s3 r3 e3 => sq s3.H s3.F e3 r3.exF r3.exB) rp)⟩
    | tup xs =>
      refine .inr (.inl (seqE1 rl hp fun d v s1 g ed hs r1 t a h => ?_))
      rw [ef] at ed
      cases ed
      have z := rep_v t.rep hn
      obtain ⟨p, vs, rfl, rp, sq⟩ := z.tupS
      exact ⟨p, rfl, ⟨vs, sq s1.H s1.F (Ex.refl _) r1.exF⟩, h _ _ _ _ s1 rfl hs r1 a.drop0 (src_at (a := p) walk_tup (fun s3 r3 e3 => sq s3.H s3.F e3 r3.exF) rp)⟩
    | str z =>
      refine .inr (.inr (seqE1 rl hp fun d v s1 g ed hs r1 t a h => ?_))
      rw [ef] at ed
      cases ed
      obtain ⟨rp, _, _, _⟩ := t
      cases rp with
      | str _ hz => exact ⟨z, rfl, h _ _ _ _ s1 rfl hs r1 a.drop0 (src_str hz)⟩
    | _ => exact hp'.elim
def dRg1 (f : M D) : M (List D) := bnd f fun d => match d with
  | .int j => if -1000000 ≤ j ∧ j ≤ 1000000 then ret (rng 0 j.toNat) else bad
  | _ => bad
def dRg2 (f g : M D) : M (List D) := bnd f fun d => bnd g fun e => match d, e with
  | .int i, .int j => if (-1000000 ≤ i ∧ i ≤ 1000000) ∧ -1000000 ≤ j ∧ j ≤ 1000000 then ret (rng i (j - i).toNat) else bad
  | _, _ => bad
theorem gi_range1 (hg : Gl X "range") (hm : X.mg "range" = none) (ha : GE X G W tc a f) (hs : starEach [a] X.env = [(false, eval a X.env)] := by rfl) : GI X G W tc tg (.Call (.Name "range" p) [a] [] pos) (dRg1 f) :=
  pi_mono (pi_range1 hg hm (pa_cons ha pa_nil hs) hs) fun σ H R ⟨B, s, e1, e2, rl, hp⟩ => by
    subst e1 e2
    refine seqE1 rl hp fun d v s1 g _ hs r1 t a h => ?_
    cases d with
    | int j =>
      obtain ⟨rp, _, _, _⟩ := t
      cases rp
      dsimp only at h
      split at h
      · rename_i hj
        exact ⟨j, rfl, by omega, by omega, h _ _ _ _ s1 rfl hs r1 a.drop0 src_range⟩
      · exact h.elim
    | _ => exact h.elim
theorem gi_range2 (hg : Gl X "range") (hm : X.mg "range" = none) (h1 : GE X G W t1 a u) (h2 : GE X G W t2 b w) (hs : starEach [a, b] X.env = [(false, eval a X.env), (false, eval b X.env)] := by rfl) (hs2 : starEach [b] X.env = [(false, eval b X.env)] := by rfl) : GI X G W (t1 ++ t2) tg (.Call (.Name "range" p) [a, b] [] pos) (dRg2 u w) :=
  pi_mono (pi_range2 hg hm (pa_cons h1 (pa_cons h2 pa_nil hs2) (hs.trans (by rw [hs2]))) hs hs2) fun σ H R ⟨B, s, e1, e2, rl, hp⟩ => by
    subst e1 e2
    refine seqE rl hp fun d v s1 g _ hs r1 t a h => ?_
    show tD _ _ _ _ s.σ s1.H _
    rw [← hs]
    refine seqE2 a hs r1 h fun d2 v2 s2 g2 _ hs2 r2 t2 a2 h => ?_
    cases d with
    | int i =>
      cases d2 with
      | int j =>
        obtain ⟨rp, _, _, _⟩ := t
        cases rp
        obtain ⟨rp, _, _, _⟩ := t2
        cases rp
        dsimp only at h
        split at h
        · rename_i hj
          exact ⟨i, j, rfl, ⟨by omega, by omega, by omega, by omega⟩, h _ _ _ _ s2 rfl (hs2.trans hs) r2 (a.trans a2).drop0 src_range⟩
        · exact h.elim
      | _ => exact h.elim
    | _ => exact h.elim
end

/-! ## targets -/
inductive Tg where
  | one (j : Nat)
  | tup (js : List Nat)
def slots : List Nat → List Nat
  | [] => []
  | j :: js => j :: (j + 1000) :: slots js
def Tg.tc : Tg → List Nat
  | .one j => slots [j]
  | .tup js => slots js
def dPuts : List Nat → List D → M Flw
  | [], [] => ret .nx
  | j :: js, d :: ds => fun ρ => if j < ρ.length then dPuts js ds (ρ.set j (.dt d)) else .bad
  | _, _ => bad
def dTg : Tg → D → M Flw
  | .one j, d => dPuts [j] [d]
  | .tup js, .tup ds => dPuts js ds
  | .tup _, _ => bad
def gNames : List Nat → TGs
  | [] => gNil
  | j :: js => gCons (gName j) (gNames js)
def tgR (K : PySem.W.Frag) : Tg → TG
  | .one j => gName j
  | .tup js => gTup K js.length (gNames js)
section
variable {T : Tx} {B : Hp}
theorem puts_core {K1 : L2.St → Hp → Prop} : ∀ {js : List Nat} {ds : List D} {vs : List V} {s : S5} {ρ2 : En}, Okk T B s → Reps T B s.H s.F ds vs [] → dPuts js ds s.ρ = .ok .nx ρ2 → (∀ s2 : S5, s2.ρ = ρ2 → s2.H = s.H → s2.F = s.F → Okk T B s2 → Goes (slots js) s s2 [] → K1 s2.σ s2.H) → gNames js vs s.σ s.H K1
  | [], [], _, s, ρ2, r, .nil, e, h => by
    cases e
    exact ⟨rfl, h s rfl rfl rfl r Goes.refl⟩
  | j :: js, d :: ds, _, s, ρ2, r, .cons (v := v) (vs := vs) r1 rs e0, e, h => by
    obtain ⟨e1, e2⟩ := List.append_eq_nil_iff.mp e0.symm
    subst e1 e2
    unfold dPuts at e
    split at e
    · rename_i hj
      have r2 : Okk T B (s.put j v d []) := r.put (Tmp.flat r1) hj
      have g2 : Goes [j, j + 1000] s (s.put j v d []) [] := Goes.put (tc := []) (Goes.refl)
      refine ⟨v, vs, rfl, puts_core (s := s.put j v d []) r2 rs e fun s2 q1 q2 q3 q4 q5 => h s2 q1 q2 q3 q4 (g2.trans0 q5)⟩
    · cases e
  | [], _ :: _, _, _, _, _, _, e, _ => by cases e
  | _ :: _, [], _, _, _, _, _, e, _ => by cases e
theorem tg_core {K1 : L2.St → Hp → Prop} {tg : Tg} {d : D} {v : V} {s : S5} {ρ2 : En} (r : Okk T B s) (rp : Rep T B s.H s.F d v []) (e : dTg tg d s.ρ = .ok .nx ρ2) (h : ∀ s2 : S5, s2.ρ = ρ2 → s2.H = s.H → s2.F = s.F → Okk T B s2 → Goes tg.tc s s2 [] → K1 s2.σ s2.H) : tgR T.K tg v s.σ s.H K1 := by
  cases tg with
  | one j =>
    have z := puts_core (js := [j]) (ds := [d]) (vs := [v]) r (.cons rp .nil rfl) e h
    obtain ⟨v', r', e', q⟩ := z
    cases e'
    exact q.2
  | tup js =>
    cases d with
    | tup ds =>
      obtain ⟨a, vs, rfl, rs, sq⟩ := rp.tupS
      have hl : ∀ {js : List Nat} {ds : List D} {ρ ρ2 : En}, dPuts js ds ρ = .ok .nx ρ2 → js.length = ds.length := by
        intro js
        induction js with
        | nil => intro ds ρ ρ2 h; cases ds with
          | nil => rfl
          | cons _ _ => cases h
        | cons j js ih => intro ds ρ ρ2 h; cases ds with
          | nil => cases h
          | cons d ds =>
            unfold dPuts at h
            split at h
            · rw [List.length_cons, List.length_cons, ih h]
            · cases h
      exact ⟨a, vs, rfl, sq s.H s.F (Ex.refl _) r.exF, by rw [← rs.len, hl e], puts_core r rs e h⟩
    | _ => cases e
end

/-! ## for -/
def forL (tg : Tg) (fg : List Nat) (body : M Flw) : List D → M Flw
  | [] => ret .nx
  | d :: ds => fun ρ => match dTg tg d ρ with
    | .ok .nx ρ1 => (match body ρ1 with
      | .ok .nx ρ2 => forL tg fg body ds (fgt fg ρ2)
      | .ok .ct ρ2 => forL tg fg body ds (fgt fg ρ2)
      | .ok .bk ρ2 => .ok .nx (fgt fg ρ2)
      | .ok (.rt r) ρ2 => .ok (.rt r) ρ2
      | .exc c ks xs ρ2 => .exc c ks xs ρ2
      | .bad => .bad)
    | _ => .bad
def dFor (src : M (List D)) (tg : Tg) (fg : List Nat) (body : M Flw) : M Flw := bnd src (forL tg fg body)
section
variable {T : Tx} {B : Hp}
theorem fgt_core : ∀ {is : List Nat} {s : S5}, Okk T B s → ∃ s2 : S5, s2.ρ = fgt is s.ρ ∧ s2.σ = s.σ ∧ s2.H = s.H ∧ s2.F = s.F ∧ Okk T B s2 ∧ Goes is s s2 []
  | [], s, r => ⟨s, rfl, rfl, rfl, rfl, r, Goes.refl⟩
  | i :: is, s, r => by
    obtain ⟨s2, h1, h2, h3, h4, h5, h6⟩ := fgt_core (is := is) (s := s.take i) r.take
    exact ⟨s2, h1, h2, h3, h4, h5, ((take_goes (i := i)).trans0 h6).wk fun j q => q⟩
end
section
variable {X : Cx} {G : Gx} {W : WX} {tc t1 tb : List Nat} {tge iter : Expr} {pos p : Pos} {body : List Stmt} {src : M (List D)} {f : M Flw}
theorem gs_for {tg : Tg} {fg : List Nat} (po : PassesOwn (model X.prog X.w) X.A X.env X.xe) (hc : X.calm = true) (hi : GI X G W t1 tge iter src) (hg : PG X tge (tgR X.K tg)) (hb : GSs X G W tb body f) (hf : ∀ j ∈ fg, j ∈ tg.tc ++ tb := by decide)
    (hs : ∀ x, foldedSetIterable iter X.env x = pure x := by intro _; rfl) : GS X G W (t1 ++ (tg.tc ++ tb)) (.For tge iter body [] pos) (dFor src tg fg f) :=
  ps_mono (ps_for po hc hi hg hb hs) fun E σ H ⟨B, s, e1, e2, rl, hp⟩ => by
    subst e1 e2
    refine ⟨B, s, rfl, rfl, rl, hp.bnd.imp (fun ds ρ1 ⟨_, h⟩ J n Gd Y s1 q1 q2 r1 a sr => ?_) fun _ _ _ _ h => (h.wk fun _ => memL).toE⟩
    subst q1
    have h1 : Post (okS (tx X G) B (tg.tc ++ tb) s1 E) (exS (tx X G) W B (tg.tc ++ tb) s1) (forL tg fg f ds s1.ρ) := h.imp (fun _ _ q => q.re a) fun _ _ _ _ q => q.re a
    refine for_it sr.w (fun k σ H => ∃ s2 : S5, s2.σ = σ ∧ s2.H = H ∧ Okk (tx X G) B s2 ∧ Goes (tg.tc ++ tb) s1 s2 [] ∧ Post (okS (tx X G) B (tg.tc ++ tb) s1 E) (exS (tx X G) W B (tg.tc ++ tb) s1) (forL tg fg f (ds.drop k) s2.ρ))
      ⟨s1, q2, rfl, r1, Goes.refl, h1⟩ (fun k σ H _ ⟨s2, x1, x2, x3, x4, x5⟩ => ?_) (fun k x σ H H' hk ⟨s2, x1, x2, x3, x4, x5⟩ y => ?_) (fun σ H ⟨s2, x1, x2, x3, x4, x5⟩ => ?_)
    · rw [← x2]
      exact sr.g s2 x3 x4.step.ext
    · subst x1 x2
      obtain ⟨d, s3, y1, y2, y3, y4, y5, y6, y7⟩ := sr.y k x H' s2 hk x3 x4.step.ext y
      subst y2
      have hd : ds.drop k = d :: ds.drop (k + 1) := by
        obtain ⟨hl, e⟩ := List.getElem?_eq_some_iff.mp y1
        rw [← e]
        exact List.drop_eq_getElem_cons hl
      rw [hd] at x5
      unfold forL at x5
      rw [← y4] at x5
      cases et : dTg tg d s3.ρ with
      | bad => rw [et] at x5; exact x5.elim
      | exc c ks xs ρ => rw [et] at x5; exact x5.elim
      | ok fl ρ2 =>
        rw [et] at x5
        cases fl with
        | nx =>
          dsimp only at x5
          rw [← y3]
          refine tg_core (T := tx X G) y5 y7 et fun s4 z1 z2 z3 z4 z5 => ?_
          have g4 : Goes (tg.tc ++ tb) s1 s4 [] := ((x4.trans0 y6).trans0 z5).wk fun j q => by
            rcases List.mem_append.mp q with q | q
            · rcases List.mem_append.mp q with q | q
              · exact q
              · cases q
            · exact memL q
          subst z1
          have more : ∀ s5 : S5, Okk (tx X G) B s5 → Goes tb s4 s5 [] → ∃ s6 : S5, s6.ρ = fgt fg s5.ρ ∧ s6.σ = s5.σ ∧ s6.H = s5.H ∧ Okk (tx X G) B s6 ∧ Goes (tg.tc ++ tb) s1 s6 [] := fun s5 r5 g5 => by
            obtain ⟨s6, w1, w2, w3, _, w5, w6⟩ := fgt_core (is := fg) r5
            refine ⟨s6, w1, w2, w3, w5, ((g4.trans0 g5).trans0 w6).wk fun j q => ?_⟩
            rcases List.mem_append.mp q with q | q
            · rcases List.mem_append.mp q with q | q
              · exact q
              · exact memR q
            · exact hf j q
          refine ⟨B, s4, rfl, rfl, z4, ?_⟩
          have g5 : ∀ {s5 : S5} {g : List Addr}, Goes tb s4 s5 g → Goes (tg.tc ++ tb) s1 s5 g := fun q => (g4.trans0 q).wk fun j z => (List.mem_append.mp z).elim id memR
          cases eb : f s4.ρ with
          | bad => rw [eb] at x5; exact x5.elim
          | exc c ks xs ρ =>
            rw [eb] at x5
            exact fun cls dd s5 w1 w2 w3 w4 => x5 cls dd s5 w1 w2 w3 (g5 w4)
          | ok fl ρ3 =>
            rw [eb] at x5
            cases fl with
            | nx =>
              intro s5 w1 w2 w3
              subst w1
              obtain ⟨s6, v1, v2, v3, v4, v5⟩ := more s5 w2 w3
              exact ⟨s6, v2, v3, v4, v5, by rw [v1]; exact x5⟩
            | ct =>
              intro s5 w1 w2 w3
              subst w1
              obtain ⟨s6, v1, v2, v3, v4, v5⟩ := more s5 w2 w3
              exact ⟨s6, v2, v3, v4, v5, by rw [v1]; exact x5⟩
            | bk =>
              intro s5 w1 w2 w3
              subst w1
              obtain ⟨s6, v1, v2, v3, v4, v5⟩ := more s5 w2 w3
              have z := x5 s6 v1 v4 v5
              rw [v2, v3] at z
              exact z
            | rt r => exact fun v s5 g w1 w2 w3 w4 => x5 v s5 g w1 w2 w3 (g5 w4)
        | bk => exact x5.elim
        | ct => exact x5.elim
        | rt r => exact x5.elim
    · rw [← sr.len, List.drop_length] at x5
      have z := x5 s2 rfl x3 x4
      rw [x1, x2] at z
      exact z
end
end Cs
namespace Cs
open PySem L2 Evl PyProof.Rows

/-! ## built-in functions of one or two values -/
inductive Ty where
  | int | bool | str | list | tuple | dict
def Ty.nm : Ty → String
  | .int => "int"
  | .bool => "bool"
  | .str => "str"
  | .list => "list"
  | .tuple => "tuple"
  | .dict => "dict"
def pLen : D → PR
  | .lst _ xs => .sc (.int xs.length)
  | .tup xs => .sc (.int xs.length)
  | .str s => if s.length ≤ lim then .sc (.int s.length) else .bad
  | _ => .bad
def pList : D → PR
  | .lst _ xs => if allFs noOw xs = true then .nl xs else .bad
  | .tup xs => if allFs noOw xs = true then .nl xs else .bad
  | _ => .bad
def pTuple : D → PR
  | .lst _ xs => if allFs noOw xs = true then .nt xs else .bad
  | .tup xs => if allFs noOw xs = true then .sc (.tup xs) else .bad
  | _ => .bad
def pInt : D → PR
  | .int i => .sc (.int i)
  | .bl k => .sc (.int (if k then 1 else 0))
  | _ => .bad
def pNeg : D → PR
  | .int i => .sc (.int (-i))
  | _ => .bad
def isi : Ty → D → Option Bool
  | t, .non => some false
  | .bool, .bl _ => some true
  | .int, .bl _ => some true
  | _, .bl _ => some false
  | .int, .int _ => some true
  | _, .int _ => some false
  | .str, .str _ => some true
  | _, .str _ => some false
  | .list, .lst _ _ => some true
  | _, .lst _ _ => some false
  | .tuple, .tup _ => some true
  | _, .tup _ => some false
  | .dict, .dct _ _ _ => some true
  | _, .dct _ _ _ => some false
  | _, _ => none
def pIsi (t : Ty) (d : D) : PR := match isi t d with
  | some b => .sc (.bl b)
  | none => .bad
def pMin : D → D → PR
  | .int i, .int j => .sc (.int (if j < i then j else i))
  | _, _ => .bad
def pMax : D → D → PR
  | .int i, .int j => .sc (.int (if j > i then j else i))
  | _, _ => .bad
section
variable {T : Tx}
theorem p1_len : P1 T (fun x H Q => ∃ y n, [x] = [y] ∧ LenV T.K y H n ∧ Q (.int n) H) pLen := by
  intro B H F d v g eF eB r
  cases d with
  | lst o xs =>
    obtain ⟨p, vs, g1, rfl, sq, rp, _⟩ := r.list eF eB
    refine ⟨_, .int _, fun Q q => ⟨_, vs.length, rfl, .inl ⟨vs, sq, rfl⟩, ?_⟩⟩
    rw [← rp.len]
    exact q
  | tup xs =>
    obtain ⟨p, vs, g1, rfl, sq, rp⟩ := r.tuple eF
    refine ⟨_, .int _, fun Q q => ⟨_, vs.length, rfl, .inr ⟨vs, sq, rfl⟩, ?_⟩⟩
    rw [← rp.len]
    exact q
  | str s =>
    unfold pLen
    dsimp only
    split
    · rename_i hl
      cases r
      exact ⟨_, .int _, fun Q q => ⟨_, s.length, rfl, ⟨lim_le hl, rfl⟩, q⟩⟩
    · trivial
  | _ => trivial
theorem p1_list : P1 T (fun x H Q => ∃ p ys, [x] = [V.ref p] ∧ (SqL T.K H p ys ∨ SqT T.K H p ys) ∧ ∀ l, H l = none → Q (.ref l) (upd H l (.lst ys))) pList := by
  intro B H F d v g eF eB r
  cases d with
  | lst o xs =>
    unfold pList
    dsimp only
    split
    · rename_i hn
      obtain ⟨p, vs, g1, rfl, sq, rp, _⟩ := r.list eF eB
      exact ⟨vs, rp.noOw hn, fun Q k => ⟨p, vs, rfl, .inl sq, k⟩⟩
    · trivial
  | tup xs =>
    unfold pList
    dsimp only
    split
    · rename_i hn
      obtain ⟨p, vs, g1, rfl, sq, rp⟩ := r.tuple eF
      exact ⟨vs, rp.noOw hn, fun Q k => ⟨p, vs, rfl, .inr sq, k⟩⟩
    · trivial
  | _ => trivial
def rTupZ (K : PySem.W.Frag) : List V → Hp → VK → Prop := fun xs H Q => ∃ p ys, xs = [.ref p] ∧ ((SqL K H p ys ∧ ∀ l (o : Obj), o.dict = none → H l = none → Q (.ref l) (upd H l (.frz o (.tup ys)))) ∨ (SqT K H p ys ∧ Q (.ref p) H))
theorem call_tupZ {X : Cx} : CallR X (.type "tuple") (rTupZ X.K) := by
  rintro pins s σ H xs us Q I r ⟨p, ys, rfl, h⟩
  obtain ⟨u, rfl, rx⟩ := vals1 r
  cases rx
  rcases h with ⟨sq, q⟩ | ⟨sq, q⟩
  · obtain ⟨its, r', pl, hz⟩ := I.list sq
    have hlen := r'.length
    refine call_tuple_list pl.isList ?_ (by simp only [List.size_toArray] <;> omega)
    intro h' kp
    have I1 : Inv X pins σ H { s with heap := h' } := I.kept (t' := s.toks) kp
    have hg : (h'.push ({ cls := .type "tuple", data := .seq its.toArray } : Obj)).get? h'.objs.size = some { cls := .type "tuple", data := .seq its.toArray } := Heap.get?_push_size _ rfl
    have hk : ∀ b u, h'.get? b = some u → (h'.push ({ cls := .type "tuple", data := .seq its.toArray } : Obj)).get? b = some u := fun b u e => Heap.get?_push_of_some _ e
    have J := I1.laid (t' := s.toks) (o := .frz { cls := .type "tuple", data := .seq its.toArray } (.tup ys)) hk (Nat.le_refl _) ⟨hg, hz, its, r', _, hg, rfl, _, rfl⟩
    exact ⟨.ref h'.objs.size, _, J, rfl, q _ _ rfl (I1.hok.fresh (Nat.le_refl _))⟩
  · obtain ⟨its, r', pl, hz⟩ := I.tuple sq
    exact call_tuple_same pl ⟨.ref p, H, I, rfl, q⟩
theorem p1_tuple : P1 T (fun x H Q => rTupZ T.K [x] H Q) pTuple := by
  intro B H F d v g eF eB r
  cases d with
  | lst o xs =>
    unfold pTuple
    dsimp only
    split
    · rename_i hn
      obtain ⟨p, vs, g1, rfl, sq, rp, _⟩ := r.list eF eB
      exact ⟨vs, rp.noOw hn, fun Q k => ⟨p, vs, rfl, .inl ⟨sq, k⟩⟩⟩
    · trivial
  | tup xs =>
    unfold pTuple
    dsimp only
    split
    · rename_i hn
      have z := rep_v r (show allF noOw (.tup xs) = true by rw [allF]; exact hn)
      obtain ⟨p, vs, g1, rfl, sq, rp⟩ := r.tuple eF
      exact ⟨_, z, fun Q k => ⟨p, vs, rfl, .inr ⟨sq, k⟩⟩⟩
    · trivial
  | _ => trivial
theorem p1_int : P1 T (fun x H Q => (∃ i, [x] = [V.int i] ∧ Q (.int i) H) ∨ ∃ k, [x] = [V.bl k] ∧ Q (.int (if k then 1 else 0)) H) pInt := by
  intro B H F d v g eF eB r
  cases d with
  | int i => cases r; exact ⟨_, .int _, fun Q q => .inl ⟨i, rfl, q⟩⟩
  | bl k => cases r; exact ⟨_, .int _, fun Q q => .inr ⟨k, rfl, q⟩⟩
  | _ => trivial
theorem p1_neg : P1 T (rU fun i => .int (-i)) pNeg := by
  intro B H F d v g eF eB r
  cases d with
  | int i => cases r; exact ⟨_, .int _, fun Q q => ⟨i, rfl, q⟩⟩
  | _ => trivial
theorem p2_min : P2 T (fun x y H Q => ∃ i j, [x, y] = [V.int i, .int j] ∧ Q (.int (if j < i then j else i)) H) pMin := by
  intro B H F d v g e u k eF eB r1 r2
  cases d with
  | int i =>
    cases e with
    | int j => cases r1; cases r2; exact ⟨_, .int _, fun Q q => ⟨i, j, rfl, q⟩⟩
    | _ => trivial
  | _ => trivial
theorem p2_max : P2 T (fun x y H Q => ∃ i j, [x, y] = [V.int i, .int j] ∧ Q (.int (if j > i then j else i)) H) pMax := by
  intro B H F d v g e u k eF eB r1 r2
  cases d with
  | int i =>
    cases e with
    | int j => cases r1; cases r2; exact ⟨_, .int _, fun Q q => ⟨i, j, rfl, q⟩⟩
    | _ => trivial
  | _ => trivial
theorem ty_list {K : PySem.W.Frag} {H : Hp} {p : Addr} {vs : List V} (h : SqL K H p vs) : TyX K H (.ref p) (.type "list") := by
  rcases h with (h | ⟨o, h⟩) | ⟨o, its, n, h1, h2, _⟩
  · exact .base (.lst h)
  · exact .base (.frz h)
  · exact .kList h1 h2
theorem ty_tup {K : PySem.W.Frag} {H : Hp} {p : Addr} {vs : List V} (h : SqT K H p vs) : TyX K H (.ref p) (.type "tuple") := by
  rcases h with (h | ⟨o, h⟩) | ⟨o, its, n, h1, h2, _⟩
  · exact .base (.tup h)
  · exact .fTuple h
  · exact .kTuple h1 h2
theorem p1_isi (t : Ty) : P1 T (fun x H Q => rIsi T.K [x, .ty t.nm] H Q) (pIsi t) := by
  intro B H F d v g eF eB r
  unfold pIsi
  cases ei : isi t d with
  | none => trivial
  | some b =>
    refine ⟨_, .bl b, fun Q q => ?_⟩
    cases r with
    | non => exact ⟨_, _, _, _, b, rfl, .ty _, .base .non, kit_ty (by cases t <;> cases ei <;> decide +kernel), q⟩
    | bl c => exact ⟨_, _, _, _, b, rfl, .ty _, .base (.bl c), kit_ty (by cases t <;> cases ei <;> decide +kernel), q⟩
    | int c => exact ⟨_, _, _, _, b, rfl, .ty _, .base (.int c), kit_ty (by cases t <;> cases ei <;> decide +kernel), q⟩
    | str c _ => exact ⟨_, _, _, _, b, rfl, .ty _, .base (.str c), kit_ty (by cases t <;> cases ei <;> decide +kernel), q⟩
    | cls _ => cases t <;> cases ei
    | tup h _ => exact ⟨_, _, _, _, b, rfl, .ty _, ty_tup (ex_t eF h.sq), kit_ty (by cases t <;> cases ei <;> decide +kernel), q⟩
    | lstF h _ => exact ⟨_, _, _, _, b, rfl, .ty _, ty_list (sq_of (eF _ _ h)), kit_ty (by cases t <;> cases ei <;> decide +kernel), q⟩
    | lstR h _ => exact ⟨_, _, _, _, b, rfl, .ty _, ty_list (ex_l eF h), kit_ty (by cases t <;> cases ei <;> decide +kernel), q⟩
    | lstB h _ => exact ⟨_, _, _, _, b, rfl, .ty _, ty_list (sq_of (eB _ _ h)), kit_ty (by cases t <;> cases ei <;> decide +kernel), q⟩
    | lstO h _ _ => exact ⟨_, _, _, _, b, rfl, .ty _, ty_list (sq_of h), kit_ty (by cases t <;> cases ei <;> decide +kernel), q⟩
    | dctF h _ _ => exact ⟨_, _, _, _, b, rfl, .ty _, .base (.dK (eF _ _ h)), kit_ty (by cases t <;> cases ei <;> decide +kernel), q⟩
    | dctB h _ _ => exact ⟨_, _, _, _, b, rfl, .ty _, .base (.dK (eB _ _ h)), kit_ty (by cases t <;> cases ei <;> decide +kernel), q⟩
    | dctO h _ _ _ => exact ⟨_, _, _, _, b, rfl, .ty _, .base (.dK h), kit_ty (by cases t <;> cases ei <;> decide +kernel), q⟩
    | objF _ _ _ _ _ => cases t <;> cases ei
    | objB _ _ _ _ _ => cases t <;> cases ei
    | objO _ _ _ _ _ _ => cases t <;> cases ei
end
section
variable {X : Cx} {G : Gx} {W : WX} {tc t1 t2 : List Nat} {a b : Expr} {o o1 o2 : Opd} {pos p p2 : Pos}
theorem g_len (hg : Gl X "len") (hm : X.mg "len" = none) (h : GO X G W tc a o) (hs : starEach [a] X.env = (false, eval a X.env) :: starEach [] X.env := by rfl) : GE X G W tc (.Call (.Name "len" p) [a] [] pos) (dOp1 pLen o) :=
  tun_of p1_len h fun _ h => pe_callB call_len hg hm PySem.boot_len (pa_cons h pa_nil hs) (by decide) (by decide) hs
theorem g_list (hg : Gl X "list") (hm : X.mg "list" = none) (h : GO X G W tc a o) (hs : starEach [a] X.env = (false, eval a X.env) :: starEach [] X.env := by rfl) : GE X G W tc (.Call (.Name "list" p) [a] [] pos) (dOp1 pList o) :=
  tun_of p1_list h fun _ h => pe_callTy call_list_of hg hm (by decide +kernel) (pa_cons h pa_nil hs) (by decide) (by decide) hs
theorem g_tuple (hg : Gl X "tuple") (hm : X.mg "tuple" = none) (h : GO X G W tc a o) (hs : starEach [a] X.env = (false, eval a X.env) :: starEach [] X.env := by rfl) : GE X G W tc (.Call (.Name "tuple" p) [a] [] pos) (dOp1 pTuple o) :=
  tun_of p1_tuple h fun _ h => pe_callTy call_tupZ hg hm (by decide +kernel) (pa_cons h pa_nil hs) (by decide) (by decide) hs
theorem g_intC (hg : Gl X "int") (hm : X.mg "int" = none) (h : GO X G W tc a o) (hs : starEach [a] X.env = (false, eval a X.env) :: starEach [] X.env := by rfl) : GE X G W tc (.Call (.Name "int" p) [a] [] pos) (dOp1 pInt o) :=
  tun_of p1_int h fun _ h => pe_callTy call_int1 hg hm (by decide +kernel) (pa_cons h pa_nil hs) (by decide) (by decide) hs
theorem g_neg (h : GO X G W tc a o) : GE X G W tc (.UnaryOp .USub a pos) (dOp1 pNeg o) := tun_of p1_neg h fun _ h => pe_un un_neg h
theorem g_min (hc : X.calm = true) (hg : Gl X "min") (hm : X.mg "min" = none) (h1 : GO X G W t1 a o1) (h2 : GO X G W t2 b o2) (hs : starEach [a, b] X.env = (false, eval a X.env) :: starEach [b] X.env := by rfl) (hs2 : starEach [b] X.env = (false, eval b X.env) :: starEach [] X.env := by rfl)
    (hpl : (backTo pos (starEach [b] X.env)).any (·.1) = false := by rfl) : GE X G W (t1 ++ t2) (.Call (.Name "min" p) [a, b] [] pos) (dOp2 pMin o1 o2) :=
  top_of p2_min h1 h2 fun _ _ h1 h2 => pe_callB (call_min2 hc) hg hm (by decide +kernel) (pa_cons h1 (pa_cons h2 pa_nil hs2) hs) (by decide) (by decide) hs hpl
theorem g_max (hc : X.calm = true) (hg : Gl X "max") (hm : X.mg "max" = none) (h1 : GO X G W t1 a o1) (h2 : GO X G W t2 b o2) (hs : starEach [a, b] X.env = (false, eval a X.env) :: starEach [b] X.env := by rfl) (hs2 : starEach [b] X.env = (false, eval b X.env) :: starEach [] X.env := by rfl)
    (hpl : (backTo pos (starEach [b] X.env)).any (·.1) = false := by rfl) : GE X G W (t1 ++ t2) (.Call (.Name "max" p) [a, b] [] pos) (dOp2 pMax o1 o2) :=
  top_of p2_max h1 h2 fun _ _ h1 h2 => pe_callB (call_max2 hc) hg hm (by decide +kernel) (pa_cons h1 (pa_cons h2 pa_nil hs2) hs) (by decide) (by decide) hs hpl
/-- isinstance(e, T), T a built-in type -/
theorem g_isi (t : Ty) {x : Str} (hg : Gl X "isinstance") (hm : X.mg "isinstance" = none) (hg2 : Gl X x) (hm2 : X.mg x = none) (hx : bootBuiltins x = some (.type t.nm)) (hn : x ≠ "__name__") (hd : (x == ("__debug__" : Str)) = false) (h : GO X G W tc a o)
    (hs : starEach [a, .Name x p2] X.env = (false, eval a X.env) :: starEach [.Name x p2] X.env := by rfl) (hs2 : starEach [.Name x p2] X.env = (false, eval (.Name x p2) X.env) :: starEach [] X.env := by rfl)
    (hpl : (backTo pos (starEach [.Name x p2] X.env)).any (·.1) = false := by rfl) : GE X G W tc (.Call (.Name "isinstance" p) [a, .Name x p2] [] pos) (dOp1 (pIsi t) o) :=
  tun_of (p1_isi t) h fun _ h => pe_callB call_isi hg hm (by decide +kernel) (pa_cons h (pa_cons (pe_bltn (v := .ty t.nm) hg2 hm2 hx rfl hn hd) pa_nil hs2) hs) (by decide) (by decide) hs hpl
end
end Cs
namespace Cs
open PySem L2 Evl PyProof.Rows

/-! ## lists that change -/
section
variable {T : Tx} {B : Hp} {s : S5}
/-- slot i's object p gets the content o, its data d' with the cells g -/
abbrev S5.mut (s : S5) (i : Nat) (p : Addr) (o : HO) (d' : D) (g : List Addr) : S5 := { s with H := upd s.H p o, ρ := s.ρ.set i (.dt d'), φ := fun j => if j = i then g else s.φ j }
theorem mut_ok {i : Nat} {d d' : D} {v : V} {p : Addr} {o : HO} {g gt : List Addr} (r : Okk T B s) (hs : s.ρ[i]? = some (.dt d)) (hv : s.σ[i]? = some (some v)) (hp : p ∈ s.φ i)
    (rp : Rep T B (upd s.H p o) s.F d' v g) (gn : g.Nodup) (gg : ∀ a ∈ g, a ∈ s.φ i ∨ a ∈ gt) (gap : ∀ a ∈ gt, s.F a = none ∧ B a = none) (gdj : ∀ a ∈ gt, ¬ O s.φ a) : Okk T B (s.mut i p o d' g) := by
  obtain ⟨hF, hB⟩ := r.ap i p hp
  have ne : ∀ j a, j ≠ i → a ∈ s.φ j → a ≠ p := fun j a hj ha e => r.dj j i a hj ha (by rw [e]; exact hp)
  have exU : ∀ (Z : Hp), Z p = none → Ex Z s.H → Ex Z (upd s.H p o) := fun Z hz e a u q => by
    rw [upd_ne (fun z => by rw [z, hz] at q; cases q)]
    exact e a u q
  have hi : i < s.ρ.length := (List.getElem?_eq_some_iff.mp hs).1
  refine ⟨by show (s.ρ.set i _).length = _; rw [List.length_set]; exact r.len, exU B hB r.exB, exU s.F hF r.exF, r.exP, fun j e q => ?_, fun j q => ?_, fun j q => ?_, fun j => ?_, fun j k a hn h1 h2 => ?_, fun j a h => ?_⟩
  · by_cases z : j = i
    · subst z
      have q : (s.ρ.set j (.dt d'))[j]? = some (.dt e) := q
      rw [List.getElem?_set_self hi] at q
      cases q
      refine ⟨v, hv, ?_⟩
      show Rep T B (upd s.H p o) s.F d' v (if j = j then g else s.φ j)
      rw [if_pos rfl]
      exact rp
    · have q : (s.ρ.set i (.dt d'))[j]? = some (.dt e) := q
      rw [List.getElem?_set_ne (fun e => z e.symm)] at q
      obtain ⟨w, e2, rq⟩ := r.sl j e q
      refine ⟨w, e2, ?_⟩
      show Rep T B (upd s.H p o) s.F e w (if j = i then g else s.φ j)
      rw [if_neg z]
      exact rq.mono (Ex.refl B) (Ex.refl _) fun a ha u q => by rw [upd_ne (ne j a z ha)]; exact q
  · by_cases z : j = i
    · subst z
      have q : (s.ρ.set j (.dt d'))[j]? = some .exn := q
      rw [List.getElem?_set_self hi] at q
      cases q
    · have q : (s.ρ.set i (.dt d'))[j]? = some .exn := q
      rw [List.getElem?_set_ne (fun e => z e.symm)] at q
      exact r.xn j q
  · show (if j = i then g else s.φ j) = []
    by_cases z : j = i
    · subst z
      exact absurd (show (s.ρ.set j (.dt d'))[j]? = some (.dt d') from List.getElem?_set_self hi) (q d')
    · rw [if_neg z]
      refine r.em j fun e h => q e ?_
      show (s.ρ.set i (.dt d'))[j]? = _
      rw [List.getElem?_set_ne (fun e => z e.symm)]
      exact h
  · show (if j = i then g else s.φ j).Nodup
    split
    · exact gn
    · exact r.nd j
  · have h1 : a ∈ (if j = i then g else s.φ j) := h1
    have h2 : a ∈ (if k = i then g else s.φ k) := h2
    split at h1
    · rename_i z
      split at h2
      · rename_i z2; exact hn (z.trans z2.symm)
      · rename_i z2
        rcases gg a h1 with y | y
        · exact r.dj i k a (fun e => z2 e.symm) y h2
        · exact gdj a y ⟨k, h2⟩
    · rename_i z
      split at h2
      · rcases gg a h2 with y | y
        · exact r.dj i j a (fun e => z e.symm) y h1
        · exact gdj a y ⟨j, h1⟩
      · exact r.dj j k a hn h1 h2
  · have h : a ∈ (if j = i then g else s.φ j) := h
    split at h
    · rcases gg a h with y | y
      · exact r.ap i a y
      · exact gap a y
    · exact r.ap j a h
theorem mut_goes {i : Nat} {d' : D} {p : Addr} {o : HO} {g gt : List Addr} {tc : List Nat} {s0 : S5} (r : Okk T B s) (a : Goes tc s0 s gt) (hp : p ∈ s.φ i) (gg : ∀ a ∈ g, a ∈ s.φ i ∨ a ∈ gt) : Goes (tc ++ [i]) s0 (s.mut i p o d' g) [] := by
  refine ⟨⟨fun x u e n => ?_, a.step.ext, a.step.fn, fun x q => ?_⟩, fun j h => ?_, fun j h => a.sg j fun z => h (memL z)⟩
  · have e2 := a.step.keep x u e n
    show upd s.H p o x = some u
    rw [upd_ne fun z => ?_]
    · exact e2
    · subst z
      rcases a.step.on x (.inl ⟨i, hp⟩) with y | y
      · exact n y
      · rw [e] at y; cases y
  · rcases q with ⟨j, q⟩ | q
    · have q : x ∈ (if j = i then g else s.φ j) := q
      split at q
      · rcases gg x q with y | y
        · exact a.step.on x (.inl ⟨i, y⟩)
        · exact a.step.on x (.inr y)
      · exact a.step.on x (.inl ⟨j, q⟩)
    · cases q
  · have h1 : j ∉ tc := fun z => h (memL z)
    have h2 : j ≠ i := fun z => h (memR (by rw [z]; exact List.mem_cons_self))
    obtain ⟨x1, x2, x3⟩ := a.fix j h1
    refine ⟨(List.getElem?_set_ne fun e => h2 e.symm).trans x1, (if_neg h2).trans x2, fun x hx => ?_⟩
    show upd s.H p o x = _
    rw [upd_ne fun z => ?_]
    · exact x3 x hx
    · subst z
      exact r.dj j i x h2 (by rw [x2]; exact hx) hp
theorem Reps.snoc {H F : Hp} {ds : List D} {vs : List V} {fp g : List Addr} {d : D} {v : V} : Reps T B H F ds vs fp → Rep T B H F d v g → Reps T B H F (ds ++ [d]) (vs ++ [v]) (fp ++ g) := by
  intro a b
  induction ds generalizing vs fp with
  | nil =>
    cases a
    exact .cons b .nil (by simp)
  | cons x ds ih =>
    cases a with
    | cons r rs e =>
      subst e
      exact .cons r (ih rs) (by simp)
end
def slotL (i : Nat) (ρ : En) : Option (List D) := match slot i ρ with
  | some (.lst .ow xs) => some xs
  | _ => none
theorem slotL_some {i : Nat} {ρ : En} {xs : List D} (h : slotL i ρ = some xs) : ρ[i]? = some (.dt (.lst .ow xs)) := by
  unfold slotL at h
  split at h
  · rename_i ys e
    cases h
    exact slot_some e
  · cases h
/-- an operation on the owned list in slot i -/
def dMutL (i : Nat) (op : List D → Option (List D)) : M Flw := fun ρ => match slotL i ρ with
  | some xs => (match op xs with
    | some ys => .ok .nx (ρ.set i (.dt (.lst .ow ys)))
    | none => .bad)
  | none => .bad
def dIsL (i : Nat) (k : M Flw) : M Flw := fun ρ => match slotL i ρ with
  | some _ => k ρ
  | none => .bad
def dApp (i : Nat) (f : M D) : M Flw := dIsL i (bnd f fun d => dMutL i fun xs => if xs.length < lim then some (xs ++ [d]) else none)
def dExt (i : Nat) (f : M D) : M Flw := dIsL i (bnd f fun d => dMutL i fun xs => match d with
  | .lst o ys => if (o ≠ .ro ∧ allFs noOw ys = true) ∧ xs.length + ys.length ≤ lim then some (xs ++ ys) else none
  | _ => none)
def dClr (i : Nat) : M Flw := dMutL i fun _ => some []
def dRev (i : Nat) : M Flw := dMutL i fun xs => if allFs noOw xs = true then some xs.reverse else none
section
variable {T : Tx} {B : Hp} {s : S5}
theorem isL_core {i : Nat} {k : M Flw} {okk : Flw → En → Prop} {exk : Str → List Str → List D → En → Prop} (r : Okk T B s) (h : Post okk exk (dIsL i k s.ρ)) : ∃ p vs, s.σ[i]? = some (some (.ref p)) ∧ s.H p = some (.lst vs) ∧ Post okk exk (k s.ρ) := by
  unfold dIsL at h
  cases e : slotL i s.ρ with
  | none => rw [e] at h; exact h.elim
  | some xs =>
    rw [e] at h
    obtain ⟨v, ev, rp⟩ := r.sl i _ (slotL_some e)
    cases rp with
    | lstO q _ _ => exact ⟨_, _, ev, q, h⟩
/-- the list in slot i, opened -/
theorem mutL_open {i : Nat} {op : List D → Option (List D)} {okk : Flw → En → Prop} {exk : Str → List Str → List D → En → Prop} (r : Okk T B s) (h : Post okk exk (dMutL i op s.ρ)) :
    ∃ p vs fp xs ys, s.ρ[i]? = some (.dt (.lst .ow xs)) ∧ s.σ[i]? = some (some (.ref p)) ∧ s.H p = some (.lst vs) ∧ Reps T B s.H s.F xs vs fp ∧ s.φ i = p :: fp ∧ op xs = some ys ∧ okk .nx (s.ρ.set i (.dt (.lst .ow ys))) := by
  unfold dMutL at h
  cases e : slotL i s.ρ with
  | none => rw [e] at h; exact h.elim
  | some xs =>
    rw [e] at h
    dsimp only at h
    cases eo : op xs with
    | none => rw [eo] at h; exact h.elim
    | some ys =>
      rw [eo] at h
      obtain ⟨v, ev, rp⟩ := r.sl i _ (slotL_some e)
      generalize eg : s.φ i = gp at rp
      cases rp with
      | lstO q rs eq => exact ⟨_, _, _, xs, ys, slotL_some e, ev, q, rs, eq, eo, h⟩
end
section
variable {X : Cx} {G : Gx} {W : WX} {tc t1 t2 : List Nat} {a b e : Expr} {pos pos' apos cpos p p2 : Pos} {u w : M D} {i : Nat} {x : Str}
theorem app_core {T : Tx} {i : Nat} {σ : L2.St} {H : Hp} {E : Ends} (h : tDS T W (tc ++ [i]) (dApp i u) E σ H) : tDrop (tBM T.K "list" rAppend (tVar i) (tCons (tD T W tc u) tNil)) E σ H := by
  obtain ⟨B, s, e1, e2, r, hp⟩ := h
  subst e1 e2
  obtain ⟨p, vs, ev, hl, hp⟩ := isL_core r hp
  refine ⟨.ref p, ev, .inl ⟨rfl, vs, sq_of hl⟩, ?_⟩
  refine seqES r hp (fun _ => memL) fun d v s1 g _ hs r1 t a h => ?_
  obtain ⟨p1, vs1, fp, xs, ys, q1, q2, q3, q4, q5, q6, q7⟩ := mutL_open r1 h
  rw [hs, ev] at q2
  cases q2
  split at q6
  · rename_i hlen
    cases q6
    have hnd := r1.nd i
    rw [q5] at hnd
    obtain ⟨n1, n2⟩ := List.nodup_cons.mp hnd
    have pg : p ∉ g := fun z => t.dj p z ⟨i, by rw [q5]; exact List.mem_cons_self⟩
    have dg : ∀ x ∈ fp, x ∉ g := fun x hx z => t.dj x z ⟨i, by rw [q5]; exact List.mem_cons_of_mem _ hx⟩
    have keep : ∀ x, x ≠ p → ∀ o, s1.H x = some o → upd s1.H p (.lst (vs1 ++ [v])) x = some o := fun x hx o q => by rw [upd_ne hx]; exact q
    have hok := mut_ok (gt := g) (o := .lst (vs1 ++ [v])) (d' := .lst .ow (xs ++ [d])) (g := p :: (fp ++ g)) r1 q1 (by rw [hs]; exact ev) (by rw [q5]; exact List.mem_cons_self)
      (.lstO upd_same ((q4.mono (Ex.refl B) (Ex.refl _) fun x hx => keep x fun z => n1 (by rw [← z]; exact hx)).snoc (t.rep.mono (Ex.refl B) (Ex.refl _) fun x hx => keep x fun z => pg (by rw [← z]; exact hx))) rfl)
      (List.nodup_cons.mpr ⟨fun z => (List.mem_append.mp z).elim n1 pg, List.nodup_append.mpr ⟨n2, t.nd, fun x hx y hy e => dg x hx (by rw [e]; exact hy)⟩⟩)
      (fun x hx => by
        rcases List.mem_cons.mp hx with z | z
        · exact .inl (by rw [q5, z]; exact List.mem_cons_self)
        · rcases List.mem_append.mp z with z | z
          · exact .inl (by rw [q5]; exact List.mem_cons_of_mem _ z)
          · exact .inr z) t.ap t.dj
    refine ⟨p, vs1, v, rfl, rfl, q3, by rw [← q4.len]; exact lim_lt hlen, ?_⟩
    have z := q7 _ rfl hok (mut_goes r1 a (by rw [q5]; exact List.mem_cons_self) fun x hx => by
        rcases List.mem_cons.mp hx with z | z
        · exact .inl (by rw [q5, z]; exact List.mem_cons_self)
        · rcases List.mem_append.mp z with z | z
          · exact .inl (by rw [q5]; exact List.mem_cons_of_mem _ z)
          · exact .inr z)
    rw [show (s1.mut i p _ _ _).σ = s.σ from hs] at z
    exact z
  · cases q6
theorem gs_app (hv : PE X (.Name x p) (tVar i)) (h : GE X G W tc a u) (hs : starEach [a] X.env = (false, eval a X.env) :: starEach [] X.env := by rfl)
    (hbase : attributeBase (.Name x p) "append" X.env (eval (.Name x p) X.env) = eval (.Name x p) X.env := by rfl) (hline : (apos.endLine == cpos.line) = true := by rfl)
    (hfew : ((backTo cpos (starEach [a] X.env)).all (fun x => !x.1) && (backToKw cpos (keywordEach [] X.env)).all (fun x => x.1.isSome)
      && decide ([a].length + ([] : List Keyword).length + (if ([] : List Keyword).isEmpty then 0 else 1) < 30)) = true := by rfl)
    (hsw : swapsWith (.Call (.Attribute (.Name x p) "append" apos) [a] [] cpos) none pos.line X.env = pure false := by rfl) : GS X G W (tc ++ [i]) (.Expr (.Call (.Attribute (.Name x p) "append" apos) [a] [] cpos) pos) (dApp i u) :=
  ps_mono (ps_expr (pe_bm PySem.F.plainAttrs_list PySem.F.slot_list_append PySem.F.type_list_append mt_append hv (pa_cons h pa_nil hs) hbase hfew hline hs rfl) hsw) fun E σ H h => app_core h
theorem ext_core {T : Tx} {i : Nat} {σ : L2.St} {H : Hp} {E : Ends} (h : tDS T W (tc ++ [i]) (dExt i u) E σ H) : tDrop (tBM T.K "list" rExtend (tVar i) (tCons (tD T W tc u) tNil)) E σ H := by
  obtain ⟨B, s, e1, e2, r, hp⟩ := h
  subst e1 e2
  obtain ⟨p, vs, ev, hl, hp⟩ := isL_core r hp
  refine ⟨.ref p, ev, .inl ⟨rfl, vs, sq_of hl⟩, ?_⟩
  refine seqES r hp (fun _ => memL) fun d v s1 g _ hs r1 t a h => ?_
  obtain ⟨p1, vs1, fp, xs, ys, q1, q2, q3, q4, q5, q6, q7⟩ := mutL_open r1 h
  rw [hs, ev] at q2
  cases q2
  cases d with
  | lst o zs =>
    dsimp only at q6
    split at q6
    · rename_i hlen
      obtain ⟨⟨hro, hn⟩, hlen⟩ := hlen
      cases q6
      obtain ⟨p2, us, g2, rfl, sq2, rz, hz⟩ := t.rep.list r1.exF r1.exB
      have rz := rz.noOw hn
      have hnd := r1.nd i
      rw [q5] at hnd
      obtain ⟨n1, n2⟩ := List.nodup_cons.mp hnd
      have keep : ∀ x, x ≠ p → ∀ o, s1.H x = some o → upd s1.H p (.lst (vs1 ++ us)) x = some o := fun x hx o q => by rw [upd_ne hx]; exact q
      have app : ∀ {H F : Hp} {ds es : List D} {vs us : List V} {fp : List Addr}, Reps T B H F ds vs fp → Reps T B H F es us [] → Reps T B H F (ds ++ es) (vs ++ us) fp := by
        intro H F ds
        induction ds with
        | nil => intro es vs us fp a b; cases a; exact b
        | cons d ds ih => intro es vs us fp a b; cases a with
          | cons r rs e => exact .cons r (ih rs b) e
      have hok := mut_ok (gt := []) (o := .lst (vs1 ++ us)) (d' := .lst .ow (xs ++ zs)) (g := p :: fp) r1 q1 (by rw [hs]; exact ev) (by rw [q5]; exact List.mem_cons_self)
        (.lstO upd_same (app (q4.mono (Ex.refl B) (Ex.refl _) fun x hx => keep x fun z => n1 (by rw [← z]; exact hx)) (rz.mono (Ex.refl B) (Ex.refl _) fun x hx => (by cases hx))) rfl)
        hnd (fun x hx => .inl (by rw [q5]; exact hx)) (fun _ h => (by cases h)) (fun _ h => (by cases h))
      refine ⟨p, p2, vs1, us, rfl, rfl, q3, hz hro, by rw [← q4.len, ← rz.len]; exact lim_le hlen, ?_⟩
      have z := q7 _ rfl hok (mut_goes r1 a.drop0 (by rw [q5]; exact List.mem_cons_self) fun x hx => .inl (by rw [q5]; exact hx))
      rw [show (s1.mut i p _ _ _).σ = s.σ from hs] at z
      exact z
    · cases q6
  | _ => cases q6
theorem gs_ext (hv : PE X (.Name x p) (tVar i)) (h : GE X G W tc a u) (hs : starEach [a] X.env = (false, eval a X.env) :: starEach [] X.env := by rfl)
    (hbase : attributeBase (.Name x p) "extend" X.env (eval (.Name x p) X.env) = eval (.Name x p) X.env := by rfl) (hline : (apos.endLine == cpos.line) = true := by rfl)
    (hfew : ((backTo cpos (starEach [a] X.env)).all (fun x => !x.1) && (backToKw cpos (keywordEach [] X.env)).all (fun x => x.1.isSome)
      && decide ([a].length + ([] : List Keyword).length + (if ([] : List Keyword).isEmpty then 0 else 1) < 30)) = true := by rfl)
    (hsw : swapsWith (.Call (.Attribute (.Name x p) "extend" apos) [a] [] cpos) none pos.line X.env = pure false := by rfl) : GS X G W (tc ++ [i]) (.Expr (.Call (.Attribute (.Name x p) "extend" apos) [a] [] cpos) pos) (dExt i u) :=
  ps_mono (ps_expr (pe_bm PySem.F.plainAttrs_list PySem.F.slot_list_extend PySem.F.type_list_extend mt_extend hv (pa_cons h pa_nil hs) hbase hfew hline hs rfl) hsw) fun E σ H h => ext_core h
theorem clr_core {T : Tx} {i : Nat} {σ : L2.St} {H : Hp} {E : Ends} (h : tDS T W [i] (dClr i) E σ H) : tDrop (tBM0 T.K "list" rClear (tVar i)) E σ H := by
  obtain ⟨B, s, e1, e2, r, hp⟩ := h
  subst e1 e2
  obtain ⟨p1, vs1, fp, xs, ys, q1, q2, q3, q4, q5, q6, q7⟩ := mutL_open r hp
  cases q6
  have hok := mut_ok (gt := []) (o := .lst []) (d' := .lst .ow []) (g := [p1]) r q1 q2 (by rw [q5]; exact List.mem_cons_self) (.lstO upd_same .nil rfl) (List.nodup_cons.mpr ⟨fun z => (by cases z), List.Pairwise.nil⟩)
    (fun x hx => .inl (by rw [q5, List.mem_singleton.mp hx]; exact List.mem_cons_self)) (fun _ h => (by cases h)) (fun _ h => (by cases h))
  have z := q7 _ rfl hok (mut_goes (tc := []) r Goes.refl (by rw [q5]; exact List.mem_cons_self) fun x hx => .inl (by rw [q5, List.mem_singleton.mp hx]; exact List.mem_cons_self))
  exact ⟨.ref p1, q2, .inl ⟨rfl, vs1, sq_of q3⟩, p1, vs1, rfl, rfl, q3, z⟩
theorem gs_clr (hv : PE X (.Name x p) (tVar i)) (hbase : attributeBase (.Name x p) "clear" X.env (eval (.Name x p) X.env) = eval (.Name x p) X.env := by rfl) (hline : (apos.endLine == cpos.line) = true := by rfl)
    (hsw : swapsWith (.Call (.Attribute (.Name x p) "clear" apos) [] [] cpos) none pos.line X.env = pure false := by rfl) : GS X G W [i] (.Expr (.Call (.Attribute (.Name x p) "clear" apos) [] [] cpos) pos) (dClr i) :=
  ps_mono (ps_expr (pe_bm0 PySem.F.plainAttrs_list PySem.F.slot_list_clear PySem.F.type_list_clear mt_clear hv hbase hline) hsw) fun E σ H h => clr_core h

/-! ## xs[k] = e, xs[j][k] = e -/
def setAt (k : D) (d : D) (xs : List D) : Option (List D) := match k with
  | .int j => (match ixN xs.length j with
    | some n => if allFs noOw xs = true ∧ allF noOw d = true then some (xs.set n d) else none
    | none => none)
  | _ => none
def dSet (i : Nat) (fk fe : M D) : M Flw := bnd (dFz fe) fun d => bnd (dPk i) fun _ => bnd fk fun k => dMutL i (setAt k d)
theorem Reps.set {T : Tx} {B H F : Hp} {d : D} {v : V} (h : Rep T B H F d v []) : ∀ {ds : List D} {vs : List V} (k : Nat), Reps T B H F ds vs [] → Reps T B H F (ds.set k d) (vs.set k v) []
  | _, _, _, .nil => .nil
  | _, _, 0, .cons r rs e => by
    obtain ⟨e1, e2⟩ := List.append_eq_nil_iff.mp e.symm
    subst e1 e2
    exact .cons h rs rfl
  | _, _, k + 1, .cons r rs e => by
    obtain ⟨e1, e2⟩ := List.append_eq_nil_iff.mp e.symm
    subst e1 e2
    exact .cons r (Reps.set h k rs) rfl
theorem set_core {T : Tx} {i : Nat} {σ : L2.St} {H : Hp} {E : Ends} (h : tDS T W (t1 ++ (t2 ++ [i])) (dSet i w u) E σ H) : tAsg (tD T W t1 (dFz u)) (gSub (tVar i) (tD T W t2 w) rSetL) E σ H := by
  obtain ⟨B, s, e1, e2, r, hp⟩ := h
  subst e1 e2
  refine seqES r hp (fun _ => memL) fun d v s1 g ed hs r1 t a h => ?_
  have hn := dFz_frz ed
  have rd := rep_v t.rep hn
  obtain ⟨d0, e0, h⟩ := pk_bnd h
  obtain ⟨v0, ev0, _⟩ := r1.sl i d0 (slot_some e0)
  refine ⟨v0, by rw [← hs]; exact ev0, ?_⟩
  have h' : Post (okS T B (t2 ++ [i]) s1 E) (exS T W B (t2 ++ [i]) s1) (bnd w (fun k => dMutL i (setAt k d)) s1.ρ) := h.imp (fun _ _ q => q.re a) fun _ _ _ _ q => q.re a
  rw [← hs]
  refine seqES r1 h' (fun _ => memL) fun k vk s2 g2 _ hs2 r2 tk a2 h2 => ?_
  obtain ⟨p1, vs1, fp, xs, ys, q1, q2, q3, q4, q5, q6, q7⟩ := mutL_open r2 h2
  rw [hs2, ev0] at q2
  cases q2
  unfold setAt at q6
  cases k with
  | int j =>
    obtain ⟨rk, _, _, _⟩ := tk
    cases rk
    dsimp only at q6
    cases ej : ixN xs.length j with
    | none => rw [ej] at q6; cases q6
    | some n =>
      rw [ej] at q6
      dsimp only at q6
      split at q6
      · rename_i hh
        cases q6
        have q4' := q4.noOw hh.1
        have efp : fp = [] := q4.noO hh.1
        subst efp
        have rd2 := rd.mono (H' := s2.H) (Ex.refl B) a2.step.ext fun x hx => (by cases hx)
        have hok := mut_ok (gt := []) (o := .lst (vs1.set n v)) (d' := .lst .ow (xs.set n d)) (g := [p1]) r2 q1 (by rw [hs2]; exact ev0) (by rw [q5]; exact List.mem_cons_self)
          (.lstO upd_same ((Reps.set rd2 n q4').mono (Ex.refl B) (Ex.refl _) fun x hx => (by cases hx)) rfl) (List.nodup_cons.mpr ⟨fun z => (by cases z), List.Pairwise.nil⟩)
          (fun x hx => .inl (by rw [q5]; exact hx)) (fun _ h => (by cases h)) (fun _ h => (by cases h))
        refine ⟨p1, vs1, j, n, rfl, rfl, q3, by rw [← q4.len]; exact ej, ?_⟩
        have z := q7 _ rfl hok (mut_goes r2 a2.drop0 (by rw [q5]; exact List.mem_cons_self) fun x hx => .inl (by rw [q5]; exact hx))
        show E.nx s1.σ (upd s2.H p1 (.lst (vs1.set n v)))
        rw [← hs2]
        exact z
      · cases q6
  | _ => cases q6
theorem gs_set (hv : PE X (.Name x p) (tVar i)) (hk : GE X G W t2 b w) (he : GE X G W t1 a u) (hs : swapsWithSole [.Subscript (.Name x p) b pos'] a pos.line X.env = pure false := by rfl) (hw : swappedStores [.Subscript (.Name x p) b pos'] a X.env = pure none := by rfl)
    (h1 : (assignEach [.Subscript (.Name x p) b pos'] X.env).map (·.2) = [assign (.Subscript (.Name x p) b pos') X.env] := by rfl)
    (ha : ∀ v, assign (.Subscript (.Name x p) b pos') X.env v = (do
      let ov ← holding [v] (eval (.Name x p) X.env)
      let iv ← holding [v, ov] (eval b X.env)
      standAt pos'
      holding [v, ov, iv] (setItem ov iv v)
      release [v, ov, iv] []) := by intro _; rfl) : GS X G W (t1 ++ (t2 ++ [i])) (.Assign [.Subscript (.Name x p) b pos'] a pos) (dSet i w u) :=
  ps_mono (ps_asg (g_fz he) (pg_sub hv hk set_list ha) hs hw h1) fun E σ H h => set_core h
/-- a list within the list -/
def inner (j : D) (xs : List D) : Option (Nat × List D) := match j with
  | .int m => (match ixN xs.length m with
    | some n => (match xs[n]? with
      | some (.lst .ow ys) => if allFs noOw ys = true then some (n, ys) else none
      | _ => none)
    | none => none)
  | _ => none
theorem inner_some {j : D} {xs ys : List D} {n : Nat} (h : inner j xs = some (n, ys)) : ∃ m, j = .int m ∧ ixN xs.length m = some n ∧ xs[n]? = some (.lst .ow ys) ∧ allFs noOw ys = true := by
  unfold inner at h
  split at h
  · rename_i m
    split at h
    · rename_i n' e1
      split at h
      · rename_i ys' e2
        split at h
        · rename_i hn
          cases h
          exact ⟨m, rfl, e1, e2, hn⟩
        · cases h
      · cases h
    · cases h
  · cases h
def setAt2 (j k : D) (d : D) (xs : List D) : Option (List D) := (inner j xs).bind fun (n, ys) => (setAt k d ys).map fun zs => xs.set n (.lst .ow zs)
def dIn2 (i : Nat) (j : D) (k : M Flw) : M Flw := fun ρ => match (slotL i ρ).bind (inner j) with
  | some _ => k ρ
  | none => .bad
def dSet2 (i : Nat) (fj fk fe : M D) : M Flw := bnd (dFz fe) fun d => bnd (dPk i) fun _ => bnd fj fun j => dIn2 i j (bnd fk fun k => dMutL i (setAt2 j k d))
theorem Rep.ow_inv {T : Tx} {B H F : Hp} {ds : List D} {v : V} {gp : List Addr} (r : Rep T B H F (.lst .ow ds) v gp) : ∃ a vs fp, v = .ref a ∧ H a = some (.lst vs) ∧ Reps T B H F ds vs fp ∧ gp = a :: fp := by
  cases r with
  | lstO q rs eq => exact ⟨_, _, _, rfl, q, rs, eq⟩
theorem Reps.inner {T : Tx} {B H F : Hp} : ∀ {ds : List D} {vs : List V} {fp : List Addr} (n : Nat) {zs : List D}, Reps T B H F ds vs fp → fp.Nodup → ds[n]? = some (.lst .ow zs) → allFs Cs.noOw zs = true →
    ∃ p1 us, vs[n]? = some (.ref p1) ∧ H p1 = some (.lst us) ∧ Reps T B H F zs us [] ∧ p1 ∈ fp ∧ ∀ (ws : List V) (ys : List D), Reps T B H F ys ws [] → Reps T B (L2.upd H p1 (.lst ws)) F (ds.set n (.lst .ow ys)) vs fp
  | _, _, _, n, zs, .nil, _, e, _ => by simp at e
  | _, _, _, 0, zs, .cons (g := g) r rs e, nd, e1, hn => by
    have e1 := Option.some.inj e1
    subst e1
    cases r with
    | lstO q rz eq =>
      have z := rz.noO hn
      subst z eq e
      rename_i a us
      refine ⟨a, us, rfl, q, rz, List.mem_append.mpr (.inl List.mem_cons_self), fun ws ys hy => ?_⟩
      have na : a ∉ g := fun z => (List.nodup_cons.mp nd).1 z
      exact .cons (.lstO upd_same (hy.mono (Ex.refl B) (Ex.refl F) fun x hx => (by cases hx)) rfl) (rs.mono (Ex.refl B) (Ex.refl F) fun x hx o q => by rw [upd_ne fun z => na (by rw [← z]; exact hx)]; exact q) rfl
  | _, _, _, n + 1, zs, .cons (f := f) r rs e, nd, e1, hn => by
    subst e
    obtain ⟨n1, n2, n3⟩ := List.nodup_append.mp nd
    obtain ⟨p1, us, h1, h2, h3, h4, h5⟩ := Reps.inner n rs n2 (by simpa using e1) hn
    refine ⟨p1, us, by simpa using h1, h2, h3, List.mem_append.mpr (.inr h4), fun ws ys hy => ?_⟩
    have np : p1 ∉ f := fun z => n3 p1 z p1 h4 rfl
    exact .cons (r.mono (Ex.refl B) (Ex.refl F) fun x hx o q => by rw [upd_ne fun z => np (by rw [← z]; exact hx)]; exact q) (h5 ws ys hy) rfl
theorem atI_ix {α : Type} {xs : List α} {j : Int} {n : Nat} {v : α} (h : ixN xs.length j = some n) (hv : xs[n]? = some v) : L2.atI xs j = some v := by
  unfold L2.atI
  rw [h]
  exact hv
theorem set2_core {T : Tx} {i : Nat} {σ : L2.St} {H : Hp} {E : Ends} {t3 : List Nat} {f : M D} (ht : i ∉ t3) (h : tDS T W (t1 ++ (t2 ++ (t3 ++ [i]))) (dSet2 i w f u) E σ H) : tAsg (tD T W t1 (dFz u)) (gSub (tOp (rIx T.K) (tVar i) (tD T W t2 w)) (tD T W t3 f) rSetL) E σ H := by
  obtain ⟨B, s, e1, e2, r, hp⟩ := h
  subst e1 e2
  refine seqES r hp (fun _ => memL) fun d v s1 g ed hs r1 t a h => ?_
  have hn := dFz_frz ed
  have rd := rep_v t.rep hn
  obtain ⟨d0, e0, h⟩ := pk_bnd h
  obtain ⟨v0, ev0, _⟩ := r1.sl i d0 (slot_some e0)
  rw [← hs]
  refine ⟨v0, ev0, ?_⟩
  have h' : Post (okS T B (t2 ++ (t3 ++ [i])) s1 E) (exS T W B (t2 ++ (t3 ++ [i])) s1) (bnd w (fun j => dIn2 i j (bnd f fun k => dMutL i (setAt2 j k d))) s1.ρ) := h.imp (fun _ _ q => q.re a) fun _ _ _ _ q => q.re a
  refine seqES r1 h' (fun _ => memL) fun j vj s2 g2 _ hs2 r2 tj a2 h2 => ?_
  have h2' : Post (okS T B (t3 ++ [i]) s2 E) (exS T W B (t3 ++ [i]) s2) (dIn2 i j (bnd f fun k => dMutL i (setAt2 j k d)) s2.ρ) := h2.imp (fun _ _ q => q.re a2) fun _ _ _ _ q => q.re a2
  unfold dIn2 at h2'
  cases eb : (slotL i s2.ρ).bind (inner j) with
  | none => rw [eb] at h2'; exact h2'.elim
  | some ny =>
    rw [eb] at h2'
    obtain ⟨n, ys⟩ := ny
    obtain ⟨xs, ex, ei⟩ := Option.bind_eq_some_iff.mp eb
    obtain ⟨m, rfl, em, en, hy⟩ := inner_some ei
    obtain ⟨rj, _, _, _⟩ := tj
    cases rj
    have esl := slotL_some ex
    obtain ⟨v2, ev2, rp⟩ := r2.sl i _ esl
    rw [hs2, ev0] at ev2
    cases ev2
    have nd := r2.nd i
    obtain ⟨pa, vs, fp, rfl, q, rs, eg⟩ := rp.ow_inv
    · rw [eg] at nd
      obtain ⟨p1, us, x1, x2, x3, x4, x5⟩ := rs.inner n (List.nodup_cons.mp nd).2 en hy
      refine .inl ⟨pa, vs, m, .ref p1, rfl, rfl, sq_of q, atI_ix (by rw [← rs.len]; exact em) x1, ?_⟩
      rw [← hs2]
      refine seqES r2 h2' (fun _ => memL) fun k vk s3 g3 _ hs3 r3 tk a3 h3 => ?_
      -- slot i is as it was
      obtain ⟨f1, f2, f3⟩ := a3.fix i ht
      obtain ⟨pb, vs1, fp1, xs1, ys1, q1, q2, q3, q4, q5, q6, q7⟩ := mutL_open r3 h3
      rw [f1, esl] at q1
      cases q1
      rw [hs3, hs2, ev0] at q2
      cases q2
      have hH : s3.H pa = s2.H pa := f3 pa (by rw [eg]; exact List.mem_cons_self)
      rw [hH, q] at q3
      cases q3
      rw [f2, eg] at q5
      cases q5
      unfold setAt2 at q6
      rw [ei] at q6
      obtain ⟨zs, ez, e6⟩ := Option.map_eq_some_iff.mp q6
      subst e6
      obtain ⟨p1', us', y1, y2, y3, y4, y5⟩ := q4.inner n (List.nodup_cons.mp nd).2 en hy
      rw [x1] at y1
      cases y1
      unfold setAt at ez
      cases k with
      | int jj =>
        obtain ⟨rk, _, _, _⟩ := tk
        cases rk
        dsimp only at ez
        cases ej : ixN ys.length jj with
        | none => rw [ej] at ez; cases ez
        | some nn =>
          rw [ej] at ez
          dsimp only at ez
          split at ez
          · cases ez
            have rd2 := rd.mono (H' := s3.H) (Ex.refl B) (a2.trans a3).step.ext fun x hx => (by cases hx)
            have nw := y5 (us'.set nn v) (ys.set nn d) (Reps.set rd2 nn y3)
            have pne : pa ≠ p1 := fun z => (List.nodup_cons.mp nd).1 (by rw [z]; exact y4)
            have hp1 : p1 ∈ s3.φ i := by rw [f2, eg]; exact List.mem_cons_of_mem _ y4
            have hok := mut_ok (gt := []) (p := p1) (o := .lst (us'.set nn v)) (d' := .lst .ow (xs.set n (.lst .ow (ys.set nn d)))) (g := pa :: fp) r3 (by rw [f1]; exact esl) (by rw [hs3, hs2]; exact ev0) hp1
              (.lstO (by rw [upd_ne pne, hH]; exact q) nw rfl) nd (fun x hx => .inl (by rw [f2, eg]; exact hx)) (fun _ h => (by cases h)) (fun _ h => (by cases h))
            refine ⟨p1, us', jj, nn, rfl, rfl, y2, by rw [← y3.len]; exact ej, ?_⟩
            have z := q7 _ rfl hok (mut_goes r3 a3.drop0 hp1 fun x hx => .inl (by rw [f2, eg]; exact hx))
            show E.nx s2.σ (L2.upd s3.H p1 (.lst (us'.set nn v)))
            rw [← hs3]
            exact z
          · cases ez
      | _ => cases ez
theorem gs_set2 {c : Expr} {pos2 : Pos} {t3 : List Nat} {f : M D} (hv : PE X (.Name x p) (tVar i)) (hj : GE X G W t2 b w) (hk : GE X G W t3 c f) (he : GE X G W t1 a u) (ht : i ∉ t3 := by decide) (hpi : PlainIx b := by intro _ _; rfl)
    (hs : swapsWithSole [.Subscript (.Subscript (.Name x p) b pos2) c pos'] a pos.line X.env = pure false := by rfl) (hw : swappedStores [.Subscript (.Subscript (.Name x p) b pos2) c pos'] a X.env = pure none := by rfl)
    (h1 : (assignEach [.Subscript (.Subscript (.Name x p) b pos2) c pos'] X.env).map (·.2) = [assign (.Subscript (.Subscript (.Name x p) b pos2) c pos') X.env] := by rfl)
    (ha : ∀ v, assign (.Subscript (.Subscript (.Name x p) b pos2) c pos') X.env v = (do
      let ov ← holding [v] (eval (.Subscript (.Name x p) b pos2) X.env)
      let iv ← holding [v, ov] (eval c X.env)
      standAt pos'
      holding [v, ov, iv] (setItem ov iv v)
      release [v, ov, iv] []) := by intro _; rfl) : GS X G W (t1 ++ (t2 ++ (t3 ++ [i]))) (.Assign [.Subscript (.Subscript (.Name x p) b pos2) c pos'] a pos) (dSet2 i w f u) :=
  ps_mono (ps_asg (g_fz he) (pg_sub (pe_ix ix_seq hv hj hpi) hk set_list ha) hs hw h1) fun E σ H h => set2_core ht h
end
end Cs
namespace Cs
open PySem L2 Evl PyProof.Rows

/-! ## objects: o.f -/
def look (f : Str) : List Str → List D → Option D
  | k :: ks, d :: ds => if f == k then some d else look f ks ds
  | _, _ => none
def pFld (c f : Str) : D → PR
  | .obj _ c' ks ds => if c' = c then (match look f ks ds with
    | some d => if allF noOw d = true then .sc d else .bad
    | none => .bad) else .bad
  | _ => .bad
section
variable {T : Tx} {B H F : Hp}
theorem Rep.objS (eF : Ex F H) (eB : Ex B H) {o : Fl} {c : Str} {ks : List Str} {ds : List D} {v : V} {g : List Addr} (r : Rep T B H F (.obj o c ks ds) v g) : ∃ a dx C vs g', v = .ref a ∧ T.C c = some C ∧ H a = some (.ins C dx (ks.zip vs)) ∧ H dx = some (.own a) ∧ ks.length = vs.length ∧ Reps T B H F ds vs g' := by
  cases r with
  | objF hc h hd hl r => exact ⟨_, _, _, _, _, rfl, hc, eF _ _ h, eF _ _ hd, hl, r⟩
  | objB hc h hd hl r => exact ⟨_, _, _, _, _, rfl, hc, eB _ _ h, eB _ _ hd, hl, r⟩
  | objO hc h hd hl r e => exact ⟨_, _, _, _, _, rfl, hc, h, hd, hl, r⟩
theorem look_at {f : Str} : ∀ {ks : List Str} {ds : List D} {vs : List V} {g : List Addr} {d : D}, Reps T B H F ds vs g → look f ks ds = some d → ∃ v g', (ks.zip vs).lookup f = some v ∧ Rep T B H F d v g'
  | [], _, _, _, _, _, h => by unfold look at h; cases h
  | k :: ks, _, _, _, _, .nil, h => by unfold look at h; cases h
  | k :: ks, _, _, _, d, .cons (v := v) r rs e, h => by
    unfold look at h
    rw [List.zip_cons_cons, List.lookup_cons]
    cases hk : f == k with
    | true =>
      rw [hk, if_pos rfl] at h
      cases h
      exact ⟨v, _, rfl, r⟩
    | false =>
      rw [hk, if_neg Bool.false_ne_true] at h
      exact look_at rs h
end
/-- what a class must say of itself: a class of the text, f an attribute of its instances alone -/
structure ClsF (K : PySem.W.Frag) (C : Addr) (f : Str) : Prop where
  c : Cls K C
  n : NoAttr K C f
theorem p1_fld {T : Tx} {c f : Str} (hc : ∀ C, T.C c = some C → ClsF T.K C f) : P1 T (fun x H1 Q => ∃ a C dx fs v, x = .ref a ∧ H1 a = some (.ins C dx fs) ∧ Cls T.K C ∧ NoAttr T.K C f ∧ fs.lookup f = some v ∧ Q v H1) (pFld c f) := by
  intro B H F d v g eF eB r
  cases d with
  | obj o c' ks ds =>
    unfold pFld
    dsimp only
    split
    · rename_i e
      subst e
      cases el : look f ks ds with
      | none => trivial
      | some d =>
        dsimp only
        split
        · rename_i hn
          obtain ⟨a, dx, C, vs, g', rfl, h1, h2, h3, h4, rs⟩ := r.objS eF eB
          obtain ⟨w, g2, q1, q2⟩ := look_at (ks := ks) rs el
          exact ⟨w, rep_v q2 hn, fun Q q => ⟨a, C, dx, _, w, rfl, h2, (hc C h1).c, (hc C h1).n, q1, q⟩⟩
        · trivial
    · trivial
  | _ => trivial
section
variable {X : Cx} {G : Gx} {W : WX} {tc t1 t2 : List Nat} {a b e : Expr} {o : Opd} {pos pos' apos p p2 : Pos} {u w : M D} {i : Nat} {x : Str}
theorem g_fld {c f : Str} (hc : ∀ C, G.C c = some C → ClsF X.K C f) (h : GO X G W tc e o) (hb : attributeBase e f X.env (eval e X.env) = eval e X.env := by rfl) : GE X G W tc (.Attribute e f pos) (dOp1 (pFld c f) o) :=
  tun_of (p1_fld (T := tx X G) hc) h fun _ h => pe_fld h hb

/-! ## o.f = e -/
end
def putL (f : Str) (d : D) : List Str → List D → List Str × List D
  | k :: ks, x :: xs => if k = f then (k :: ks, d :: xs) else (k :: (putL f d ks xs).1, x :: (putL f d ks xs).2)
  | _, _ => ([f], [d])
section
variable {T : Tx} {B H F : Hp}
theorem put_at {f : Str} {d : D} {v : V} {g : List Addr} (rd : Rep T B H F d v g) (ng : g.Nodup) : ∀ {ks : List Str} {ds : List D} {vs : List V} {fp : List Addr}, Reps T B H F ds vs fp → ks.length = vs.length → fp.Nodup → (∀ a ∈ fp, a ∉ g) →
    ∃ vs' fp', Reps T B H F (putL f d ks ds).2 vs' fp' ∧ (putL f d ks ds).1.zip vs' = putF f v (ks.zip vs) ∧ (putL f d ks ds).1.length = vs'.length ∧ fp'.Nodup ∧ (∀ a ∈ fp', a ∈ fp ∨ a ∈ g) ∧ vs'.length ≤ vs.length + 1
  | [], _, _, _, .nil, _, _, _ => ⟨[v], g, .cons rd .nil (by simp), rfl, rfl, ng, fun a h => .inr h, by simp⟩
  | [], _, _, _, .cons _ _ _, hl, _, _ => by simp at hl
  | _ :: _, _, _, _, .nil, hl, _, _ => by simp at hl
  | k :: ks, x :: xs, _, _, .cons (f := f1) (g := g1) (v := w) (vs := ws) r rs e, hl, nd, dj => by
    subst e
    obtain ⟨n1, n2, n3⟩ := List.nodup_append.mp nd
    unfold putL
    by_cases hk : k = f
    · rw [if_pos hk]
      refine ⟨v :: ws, g ++ g1, .cons rd rs rfl, ?_, by simpa using hl, List.nodup_append.mpr ⟨ng, n2, fun a ha b hb e => dj b (List.mem_append.mpr (.inr hb)) (by rw [← e]; exact ha)⟩, fun a h => ?_, by simp⟩
      · rw [List.zip_cons_cons, List.zip_cons_cons]
        unfold putF
        rw [if_pos hk]
      · rcases List.mem_append.mp h with z | z
        · exact .inr z
        · exact .inl (List.mem_append.mpr (.inr z))
    · rw [if_neg hk]
      obtain ⟨vs', fp', q1, q2, q3, q4, q5, q6⟩ := put_at rd ng (ks := ks) rs (by simpa using hl) n2 fun a h => dj a (List.mem_append.mpr (.inr h))
      refine ⟨w :: vs', f1 ++ fp', .cons r q1 rfl, ?_, by simpa using q3, List.nodup_append.mpr ⟨n1, q4, fun a ha b hb e => ?_⟩, fun a h => ?_, by simp; omega⟩
      · rw [List.zip_cons_cons, List.zip_cons_cons]
        unfold putF
        rw [if_neg hk]
        exact congrArg _ q2
      · subst e
        rcases q5 a hb with z | z
        · exact n3 a ha a z rfl
        · exact dj a (List.mem_append.mpr (.inl ha)) z
      · rcases List.mem_append.mp h with z | z
        · exact .inl (List.mem_append.mpr (.inl z))
        · exact (q5 a z).imp (fun z => List.mem_append.mpr (.inr z)) id
end
def setF (c f : Str) (d : D) : D → Option D
  | .obj .ow c' ks ds => if c' = c ∧ ks.length < 900 then some (.obj .ow c (putL f d ks ds).1 (putL f d ks ds).2) else none
  | _ => none
def dSetF (i : Nat) (c f : Str) (u : M D) : M Flw := bnd u fun d ρ => match slot i ρ with
  | some o => (match setF c f d o with
    | some o' => .ok .nx (ρ.set i (.dt o'))
    | none => .bad)
  | none => .bad
section
variable {X : Cx} {G : Gx} {W : WX} {tc t1 t2 : List Nat} {a b e : Expr} {pos pos' apos p p2 : Pos} {u w : M D} {i : Nat} {x : Str}
theorem setF_core {T : Tx} {c f : Str} {σ : L2.St} {H : Hp} {E : Ends} (hc : ∀ C, T.C c = some C → ClsF T.K C f) (h : tDS T W (tc ++ [i]) (dSetF i c f u) E σ H) : sFld T.K (tVar i) (tD T W tc u) f E σ H := by
  obtain ⟨B, s, e1, e2, r, hp⟩ := h
  subst e1 e2
  refine seqES r hp (fun _ => memL) fun d v s1 g _ hs r1 t a h => ?_
  have h : Post (okS T B (tc ++ [i]) s E) (exS T W B (tc ++ [i]) s) (match slot i s1.ρ with
    | some o => (match setF c f d o with
      | some o' => .ok .nx (s1.ρ.set i (.dt o'))
      | none => .bad)
    | none => .bad) := h
  cases eo : slot i s1.ρ with
  | none => rw [eo] at h; exact h.elim
  | some o =>
    rw [eo] at h
    dsimp only at h
    cases ef : setF c f d o with
    | none => rw [ef] at h; exact h.elim
    | some o' =>
      rw [ef] at h
      obtain ⟨vo, evo, rp⟩ := r1.sl i o (slot_some eo)
      unfold setF at ef
      split at ef
      · rename_i c' ks ds
        split at ef
        · rename_i hcc
          obtain ⟨rfl, hkl⟩ := hcc
          cases ef
          have nd := r1.nd i
          have hobj : ∃ C ad dx vs fp, vo = .ref ad ∧ T.C c' = some C ∧ s1.H ad = some (.ins C dx (ks.zip vs)) ∧ s1.H dx = some (.own ad) ∧ ks.length = vs.length ∧ Reps T B s1.H s1.F ds vs fp ∧ s1.φ i = ad :: dx :: fp := by
            generalize s1.φ i = gp at rp
            cases rp with
            | objO q1 q2 q3 q4 q5 q6 => exact ⟨_, _, _, _, _, rfl, q1, q2, q3, q4, q5, q6⟩
          obtain ⟨C, ad, dx, vs, fp, rfl, q1, q2, q3, q4, q5, q6⟩ := hobj
          rw [q6] at nd
          obtain ⟨n1, n2⟩ := List.nodup_cons.mp nd
          obtain ⟨n3, n4⟩ := List.nodup_cons.mp n2
          have dfg : ∀ y ∈ ad :: dx :: fp, y ∉ g := fun y hy z => t.dj y z ⟨i, by rw [q6]; exact hy⟩
          obtain ⟨vs', fp', z1, z2, z3, z4, z5, z6⟩ := put_at (f := f) t.rep t.nd q5 q4 n4 fun y hy => dfg y (List.mem_cons_of_mem _ (List.mem_cons_of_mem _ hy))
          refine ⟨.ref ad, by rw [← hs]; exact evo, ad, C, dx, ks.zip vs, rfl, q2, (hc C q1).c, (hc C q1).n, ?_, ?_⟩
          · rw [List.length_zip]
            omega
          · have adx : dx ≠ ad := fun z => n1 (by rw [← z]; exact List.mem_cons_self)
            have keep : ∀ y, y ≠ ad → ∀ o, s1.H y = some o → upd s1.H ad (.ins C dx (putF f v (ks.zip vs))) y = some o := fun y hy o q => by rw [upd_ne hy]; exact q
            have ina : ∀ y ∈ fp', y ∈ ad :: dx :: fp ∨ y ∈ g := fun y hy => (z5 y hy).imp (fun z => List.mem_cons_of_mem _ (List.mem_cons_of_mem _ z)) id
            have nfa : ∀ y ∈ fp', y ≠ ad ∧ y ≠ dx := fun y hy => by
              rcases z5 y hy with z | z
              · exact ⟨fun e => n1 (by rw [← e]; exact List.mem_cons_of_mem _ z), fun e => n3 (by rw [← e]; exact z)⟩
              · exact ⟨fun e => dfg ad List.mem_cons_self (by rw [← e]; exact z), fun e => dfg dx (List.mem_cons_of_mem _ List.mem_cons_self) (by rw [← e]; exact z)⟩
            have hok := mut_ok (gt := g) (p := ad) (o := .ins C dx (putF f v (ks.zip vs))) (d' := .obj .ow c' (putL f d ks ds).1 (putL f d ks ds).2) (g := ad :: dx :: fp') r1 (slot_some eo) evo (by rw [q6]; exact List.mem_cons_self)
              (.objO q1 (by rw [upd_same, z2]) (by rw [upd_ne adx]; exact q3) z3 (z1.mono (Ex.refl B) (Ex.refl _) fun y hy => keep y (nfa y hy).1) rfl)
              (List.nodup_cons.mpr ⟨fun z => (List.mem_cons.mp z).elim (fun e => adx e.symm) fun z => (nfa ad z).1 rfl, List.nodup_cons.mpr ⟨fun z => (nfa dx z).2 rfl, z4⟩⟩)
              (fun y hy => by
                rw [q6]
                rcases List.mem_cons.mp hy with e | hy
                · exact .inl (by rw [e]; exact List.mem_cons_self)
                · rcases List.mem_cons.mp hy with e | hy
                  · exact .inl (by rw [e]; exact List.mem_cons_of_mem _ List.mem_cons_self)
                  · exact ina y hy) t.ap t.dj
            have z := h _ rfl hok (mut_goes r1 a (by rw [q6]; exact List.mem_cons_self) fun y hy => by
                rw [q6]
                rcases List.mem_cons.mp hy with e | hy
                · exact .inl (by rw [e]; exact List.mem_cons_self)
                · rcases List.mem_cons.mp hy with e | hy
                  · exact .inl (by rw [e]; exact List.mem_cons_of_mem _ List.mem_cons_self)
                  · exact ina y hy)
            rw [show (s1.mut i ad _ _ _).σ = s.σ from hs] at z
            exact z
        · cases ef
      · cases ef
theorem gs_setF {c f : Str} (hc : ∀ C, G.C c = some C → ClsF X.K C f) (hv : PE X (.Name x p) (tVar i)) (h : GE X G W tc a u) (hs : swapsWith a (some (.Attribute (.Name x p) f pos')) pos.line X.env = pure false := by rfl) : GS X G W (tc ++ [i]) (.Assign [.Attribute (.Name x p) f pos'] a pos) (dSetF i c f u) :=
  ps_mono (ps_fld hv h hs) fun E σ H h => setF_core (T := tx X G) hc h

/-! ## o.m(..) and C(..), what is raised told by the slots -/
theorem pe_methZ {m : Str} {C f : Addr} {k : Nat} {fd : FuncData} {ps : List Str} {sp : Sp} {E : L2.St → XK} {o : Expr} {es : List Expr} {ta : TE} {t : TA} {pl : Sem Bool} (he : PE X o ta) (c : Cls X.K C) (hm : Meth X.K C m f) (F : FnOk X.prog X.w X.K X.mg X.base (L2.CX X.prog X.w) k f fd ps sp) (hr : Room k X.A) (hb : Binds X.K fd ps [])
    (hx : ∀ σ, PassesAt (L2.CX X.prog X.w) X σ (E σ)) (ha : PA X (a :: es) t) (hst : starEach (a :: es) X.env = (false, eval a X.env) :: starEach es X.env) (hpl : (backTo pos (starEach es X.env)).any (·.1) = false)
    (ht : eval (.Call (.Attribute o m apos) (a :: es) [] pos) X.env = (do
      let ov ← eval o X.env
      standAt apos.atName
      let (f, first) ← holding [ov] (getMethod ov m pl)
      callWith pos f first (backTo pos (starEach (a :: es) X.env)) (backToKw pos (keywordEach [] X.env)))) :
    PE X (.Call (.Attribute o m apos) (a :: es) [] pos) (fun σ H Q => ta σ H fun y H1 => ∃ q dx fs, y = .ref q ∧ H1 q = some (.ins C dx fs) ∧ fs.lookup m = none ∧ t σ H1 fun vs H2 => sp (y :: vs) H2 Q (E σ)) := by
  constructor
  intro pins s σ H Q I h
  refine PySem.W.methodCall_KW (pl := pl) (thn (he.run pins s σ H _ I h) ?_) ht
  rintro v s1 ⟨y, H1, I1, ry, q, dx, fs, ey, eq, hno, hq⟩
  subst ey
  obtain rfl : v = Value.ref q := ry
  refine getmeth_ok I1 eq c hm hno (PySem.W.callWith_K (first := [.ref q]) (h₀ := X.base) I.ok.mod.kin hm.kp (thn (ha.run pos pins s1 σ H1 _ I1 hq) ?_) hst hpl)
  rintro us s2 ⟨vs, H2, I2, rv, q2⟩
  exact ⟨I2.kIn, run_fnS (us := .ref q :: us) (vs := .ref q :: vs) F hr hb (hx σ) I2 (.cons rfl rv) q2⟩
theorem pe_methZ0 {m : Str} {C f : Addr} {k : Nat} {fd : FuncData} {ps : List Str} {sp : Sp} {E : L2.St → XK} {o : Expr} {ta : TE} {pl : Sem Bool} (he : PE X o ta) (c : Cls X.K C) (hm : Meth X.K C m f) (F : FnOk X.prog X.w X.K X.mg X.base (L2.CX X.prog X.w) k f fd ps sp) (hr : Room k X.A) (hb : Binds X.K fd ps [])
    (hx : ∀ σ, PassesAt (L2.CX X.prog X.w) X σ (E σ))
    (ht : eval (.Call (.Attribute o m apos) [] [] pos) X.env = (do
      let ov ← eval o X.env
      standAt apos.atName
      let (f, first) ← holding [ov] (getMethod ov m pl)
      callWith pos f first (backTo pos (starEach [] X.env)) (backToKw pos (keywordEach [] X.env)))) :
    PE X (.Call (.Attribute o m apos) [] [] pos) (fun σ H Q => ta σ H fun y H1 => ∃ q dx fs, y = .ref q ∧ H1 q = some (.ins C dx fs) ∧ fs.lookup m = none ∧ sp [y] H1 Q (E σ)) := by
  constructor
  intro pins s σ H Q I h
  refine PySem.W.methodCall_KW (pl := pl) (thn (he.run pins s σ H _ I h) ?_) ht
  rintro v s1 ⟨y, H1, I1, ry, q, dx, fs, ey, eq, hno, hq⟩
  subst ey
  obtain rfl : v = Value.ref q := ry
  exact getmeth_ok I1 eq c hm hno (PySem.W.callWith_K0 (first := [.ref q]) I1.kIn hm.kp (run_fnS (us := [.ref q]) (vs := [.ref q]) F hr hb (hx σ) I1 (.cons rfl .nil) hq))
/-- the receiver is an instance of the class c without an attribute m -/
def isObj (c m : Str) : D → Bool
  | .obj _ c' ks _ => c' == c && ks.all (fun k => !(m == k))
  | _ => false
def chk (c m : Str) (a : Arg) (k : M D) : M D := match a with
  | (.l i, _) => fun ρ => match slot i ρ with
    | some d => if isObj c m d = true then k ρ else .bad
    | none => .bad
  | (.io i, _) => fun ρ => match slot i ρ with
    | some d => if isObj c m d = true then k ρ else .bad
    | none => .bad
  | (.v f, _) => fun ρ => match f ρ with
    | .ok d _ => if isObj c m d = true then k ρ else .bad
    | .exc _ _ _ _ => k ρ
    | .bad => .bad
def dMeth (c m : Str) (mn : List D → Res) (r : Arg) (ars : List Arg) : M D := chk c m r (dCall mn (r :: ars))
theorem isObj_at {T : Tx} {B H F : Hp} {c m : Str} {d : D} {v : V} {g : List Addr} (eF : Ex F H) (eB : Ex B H) (r : Rep T B H F d v g) (h : isObj c m d = true) : ∃ q C dx fs, v = .ref q ∧ T.C c = some C ∧ H q = some (.ins C dx fs) ∧ fs.lookup m = none := by
  cases d with
  | obj o c' ks ds =>
    have h := Bool.and_eq_true_iff.mp h
    have ec : c' = c := by simpa using h.1
    subst ec
    obtain ⟨a, dx, C, vs, g', rfl, h1, h2, h3, h4, rs⟩ := r.objS eF eB
    refine ⟨a, C, dx, _, rfl, h1, h2, ?_⟩
    have : ∀ {ks : List Str} {vs : List V}, ks.all (fun k => !(m == k)) = true → (ks.zip vs).lookup m = none := by
      intro ks
      induction ks with
      | nil => intro vs _; rfl
      | cons k ks ih =>
        intro vs hk
        cases vs with
        | nil => rfl
        | cons v vs =>
          rw [List.all_cons] at hk
          have hk := Bool.and_eq_true_iff.mp hk
          rw [List.zip_cons_cons, List.lookup_cons]
          have z : (m == k) = false := by simpa using hk.1
          rw [z]
          exact ih hk.2
    exact this h.2
  | _ => cases h
theorem meth_core {T : Tx} {c m : Str} {C : Addr} {mn : List D → Res} {r : Arg} {ars : List Arg} {σ : L2.St} {H : Hp} {Q : VK} (hC : T.C c = some C) (hn : (ios (r :: ars)).Nodup) (hl : ∀ i ∈ lns (r :: ars), i ∉ ios (r :: ars)) (h : tD T W (tcs (r :: ars) ++ ios (r :: ars)) (dMeth c m mn r ars) σ H Q) :
    rdA T W r σ H fun y H1 => ∃ q dx fs, y = .ref q ∧ H1 q = some (.ins C dx fs) ∧ fs.lookup m = none ∧ tRs T W ars σ H1 fun vs H2 => spM T mn (y :: vs) H2 Q (WE W σ) := by
  obtain ⟨B, s, e1, e2, rl, hp⟩ := h
  subst e1 e2
  obtain ⟨rk, tcr⟩ := r
  cases rk with
  | l i =>
    have hp : Post (okE T B _ s Q) (exE T W B _ s) (match slot i s.ρ with
      | some d => if isObj c m d = true then dCall mn ((.l i, tcr) :: ars) s.ρ else .bad
      | none => .bad) := hp
    cases es : slot i s.ρ with
    | none => rw [es] at hp; exact hp.elim
    | some d =>
      rw [es] at hp
      dsimp only at hp
      split at hp
      · rename_i ho
        obtain ⟨v, ev, rp⟩ := rl.sl i d (slot_some es)
        obtain ⟨q, C', dx, fs, rfl, hC', hq, hlk⟩ := isObj_at rl.exF rl.exB rp ho
        rw [hC] at hC'
        cases hC'
        refine ⟨.ref q, ev, q, dx, fs, rfl, hq, hlk, ?_⟩
        have hp1 : Post (okE T B (tcs ((.l i, tcr) :: ars) ++ ios ((.l i, tcr) :: ars)) s Q) (exE T W B (tcs ((.l i, tcr) :: ars) ++ ios ((.l i, tcr) :: ars)) s) (bnd (dArs ars) (fun ods => callD mn ((.l i, tcr) :: ars) (none :: ods)) s.ρ) := by
          have e : dCall mn ((.l i, tcr) :: ars) s.ρ = bnd (dArs ars) (fun ods => callD mn ((.l i, tcr) :: ars) (none :: ods)) s.ρ := by
            show bnd (bnd (dPk i) fun _ => bnd (dArs ars) fun ds => ret (none :: ds)) _ s.ρ = _
            rw [bnd_assoc, bnd_ok (show dPk i s.ρ = .ok d s.ρ by unfold dPk; rw [es]), bnd_assoc]
            rfl
          rw [← e]
          exact hp
        exact args_core (s0 := s) (u := []) (g0 := []) Goes.refl rfl (fun _ h => by cases h) (fun j z => memL z) rl hp1 fun ods vs s1 g r1 e3 it a h => call_fin hn hl r1 e3 ⟨.l (by rw [e3]; exact ev) it.its, it.nd, it.ap, it.dj⟩ a h
      · exact hp.elim
  | io i =>
    have hp : Post (okE T B _ s Q) (exE T W B _ s) (match slot i s.ρ with
      | some d => if isObj c m d = true then dCall mn ((.io i, tcr) :: ars) s.ρ else .bad
      | none => .bad) := hp
    cases es : slot i s.ρ with
    | none => rw [es] at hp; exact hp.elim
    | some d =>
      rw [es] at hp
      dsimp only at hp
      split at hp
      · rename_i ho
        obtain ⟨v, ev, rp⟩ := rl.sl i d (slot_some es)
        obtain ⟨q, C', dx, fs, rfl, hC', hq, hlk⟩ := isObj_at rl.exF rl.exB rp ho
        rw [hC] at hC'
        cases hC'
        refine ⟨.ref q, ev, q, dx, fs, rfl, hq, hlk, ?_⟩
        have hp1 : Post (okE T B (tcs ((.io i, tcr) :: ars) ++ ios ((.io i, tcr) :: ars)) s Q) (exE T W B (tcs ((.io i, tcr) :: ars) ++ ios ((.io i, tcr) :: ars)) s) (bnd (dArs ars) (fun ods => callD mn ((.io i, tcr) :: ars) (none :: ods)) s.ρ) := by
          have e : dCall mn ((.io i, tcr) :: ars) s.ρ = bnd (dArs ars) (fun ods => callD mn ((.io i, tcr) :: ars) (none :: ods)) s.ρ := by
            show bnd (bnd (dPk i) fun _ => bnd (dArs ars) fun ds => ret (none :: ds)) _ s.ρ = _
            rw [bnd_assoc, bnd_ok (show dPk i s.ρ = .ok d s.ρ by unfold dPk; rw [es]), bnd_assoc]
            rfl
          rw [← e]
          exact hp
        exact args_core (s0 := s) (u := []) (g0 := []) Goes.refl rfl (fun _ h => by cases h) (fun j z => memL z) rl hp1 fun ods vs s1 g r1 e3 it a h => call_fin hn hl r1 e3 ⟨.io (by rw [e3]; exact ev) it.its, it.nd, it.ap, it.dj⟩ a h
      · exact hp.elim
  | v f =>
    have hp : Post (okE T B _ s Q) (exE T W B _ s) (match f s.ρ with
      | .ok d _ => if isObj c m d = true then dCall mn ((.v f, tcr) :: ars) s.ρ else .bad
      | .exc _ _ _ _ => dCall mn ((.v f, tcr) :: ars) s.ρ
      | .bad => .bad) := hp
    have ecall : dCall mn ((.v f, tcr) :: ars) s.ρ = bnd f (fun d => bnd (dArs ars) fun ods => callD mn ((.v f, tcr) :: ars) (some d :: ods)) s.ρ := by
      show bnd (bnd f fun d => bnd (dArs ars) fun ds => ret (some d :: ds)) _ s.ρ = _
      rw [bnd_assoc]
      congr 1
      funext d ρ
      rw [bnd_assoc]
      rfl
    cases ef : f s.ρ with
    | bad => rw [ef] at hp; exact hp.elim
    | exc c ks xs ρ =>
      rw [ef] at hp
      dsimp only at hp
      rw [ecall, bnd_exc ef] at hp
      refine ⟨B, s, rfl, rfl, rl, ?_⟩
      rw [ef]
      exact fun cls dd s' q1 q2 q3 q4 q5 => hp cls dd s' q1 q2 q3 q4 (q5.wk fun j z => memL (memL z))
    | ok d ρ =>
      rw [ef] at hp
      dsimp only at hp
      split at hp
      · rename_i ho
        rw [ecall, bnd_ok ef] at hp
        refine ⟨B, s, rfl, rfl, rl, ?_⟩
        rw [ef]
        intro v s1 g q1 q2 r1 t a
        subst q1
        obtain ⟨q, C', dx, fs, rfl, hC', hq, hlk⟩ := isObj_at r1.exF r1.exB t.rep ho
        rw [hC] at hC'
        cases hC'
        refine ⟨q, dx, fs, rfl, hq, hlk, ?_⟩
        rw [← q2]
        refine args_core (s0 := s) (u := tcr) (g0 := g) a q2 (fun j z => memL (memL z)) (fun j z => memL (memR z)) r1 hp fun ods vs s2 g2 r2 e3 it a2 h => ?_
        have t2 := t.go a2
        have z := call_fin (s := s) hn hl r2 (e3.trans q2) ⟨.v t2.rep it.its, List.nodup_append.mpr ⟨t2.nd, it.nd, fun x hx y hy e => t.apart a2.step x hx (e ▸ hy)⟩, fun x hx => (List.mem_append.mp hx).elim (t2.ap x) (it.ap x), fun x hx => (List.mem_append.mp hx).elim (t2.dj x) (it.dj x)⟩ ((a.trans a2).less fun x hx => ?_) h
        · rw [q2]
          exact z
        · rcases List.mem_append.mp hx with z | z
          · exact List.mem_append.mpr (.inr z)
          · exact List.mem_append.mpr (.inl z)
      · exact hp.elim
/-- the receiver, as an argument -/
abbrev GR1 (X : Cx) (G : Gx) (W : WX) (e : Expr) (r : Arg) : Prop := PE X e (rdA (tx X G) W r)
theorem g_meth {c m : Str} {C f : Addr} {k : Nat} {fd : FuncData} {ps : List Str} {mn : List D → Res} {o : Expr} {es : List Expr} {r : Arg} {ars : List Arg} {pl : Sem Bool} (tk : Takes X W) (hC : G.C c = some C) (cl : Cls X.K C) (hm : Meth X.K C m f) (F : FnOk X.prog X.w X.K X.mg X.base (L2.CX X.prog X.w) k f fd ps (spM (tx X G) mn))
    (hr : Room k X.A) (hb : Binds X.K fd ps []) (ho : GR1 X G W o r) (ha : GR X G W (a :: es) ars) (hn : (ios (r :: ars)).Nodup := by decide) (hl : ∀ i ∈ lns (r :: ars), i ∉ ios (r :: ars) := by decide)
    (hst : starEach (a :: es) X.env = (false, eval a X.env) :: starEach es X.env := by rfl) (hpl : (backTo pos (starEach es X.env)).any (·.1) = false := by rfl)
    (ht : eval (.Call (.Attribute o m apos) (a :: es) [] pos) X.env = (do
      let ov ← eval o X.env
      standAt apos.atName
      let (f, first) ← holding [ov] (getMethod ov m pl)
      callWith pos f first (backTo pos (starEach (a :: es) X.env)) (backToKw pos (keywordEach [] X.env))) := by rfl) :
    GE X G W (tcs (r :: ars) ++ ios (r :: ars)) (.Call (.Attribute o m apos) (a :: es) [] pos) (dMeth c m mn r ars) :=
  pe_mono (pe_methZ ho cl hm F hr hb (fun σ => passAt tk σ) ha hst hpl ht) fun σ H Q h => meth_core hC hn hl h
theorem g_meth0 {c m : Str} {C f : Addr} {k : Nat} {fd : FuncData} {ps : List Str} {mn : List D → Res} {o : Expr} {r : Arg} {pl : Sem Bool} (tk : Takes X W) (hC : G.C c = some C) (cl : Cls X.K C) (hm : Meth X.K C m f) (F : FnOk X.prog X.w X.K X.mg X.base (L2.CX X.prog X.w) k f fd ps (spM (tx X G) mn))
    (hr : Room k X.A) (hb : Binds X.K fd ps []) (ho : GR1 X G W o r) (hn : (ios [r]).Nodup := by decide) (hl : ∀ i ∈ lns [r], i ∉ ios [r] := by decide)
    (ht : eval (.Call (.Attribute o m apos) [] [] pos) X.env = (do
      let ov ← eval o X.env
      standAt apos.atName
      let (f, first) ← holding [ov] (getMethod ov m pl)
      callWith pos f first (backTo pos (starEach [] X.env)) (backToKw pos (keywordEach [] X.env))) := by rfl) :
    GE X G W (tcs [r] ++ ios [r]) (.Call (.Attribute o m apos) [] [] pos) (dMeth c m mn r []) :=
  pe_mono (pe_methZ0 ho cl hm F hr hb (fun σ => passAt tk σ) ht) fun σ H Q h => meth_core (ars := []) hC hn hl h
end
end Cs
namespace Cs
open PySem L2 Evl PyProof.Rows

/-! ## C(..): a new instance -/
def dMake (c : Str) (m : List D → Res) (ars : List Arg) : M D := bnd (dArs ars) fun ods ρ => match argD ρ ars ods with
  | none => .bad
  | some ds => match m (.obj .ow c [] [] :: ds) with
    | .ok .non (.dt o :: os) => .ok o (wb ars os ρ)
    | .exc c ks xs (_ :: os) => .exc c ks xs (wb ars os ρ)
    | _ => .bad
section
variable {T : Tx} {B : Hp} {W : WX}
theorem Its.mono {s s' : S5} (hσ : s'.σ = s.σ) (eH : ∀ a o, s.H a = some o → s'.H a = some o) (eF : Ex s.F s'.F) : ∀ {ars : List Arg} {ods : List (Option D)} {vs : List V} {g : List Addr}, Its T B s ars ods vs g → Its T B s' ars ods vs g
  | _, _, _, _, .nil => .nil
  | _, _, _, _, .v h t => .v (h.mono (Ex.refl B) eF fun a _ o q => eH a o q) (Its.mono hσ eH eF t)
  | _, _, _, _, .l h t => .l (by rw [hσ]; exact h) (Its.mono hσ eH eF t)
  | _, _, _, _, .io h t => .io (by rw [hσ]; exact h) (Its.mono hσ eH eF t)
theorem make_fin {m : List D → Res} {c : Str} {C : Addr} {ars : List Arg} {s s1 : S5} {ods : List (Option D)} {vs : List V} {g : List Addr} {Q : VK} (hC : T.C c = some C) (hn : (ios ars).Nodup) (hl : ∀ i ∈ lns ars, i ∉ ios ars) (r1 : Okk T B s1) (e3 : s1.σ = s.σ) (it : ItsT T B s1 ars ods vs g) (a : Goes (tcs ars) s s1 g)
    (h : Post (okE T B (tcs ars ++ ios ars) s Q) (exE T W B (tcs ars ++ ios ars) s) (match argD s1.ρ ars ods with
      | none => .bad
      | some ds => match m (.obj .ow c [] [] :: ds) with
        | .ok .non (.dt o :: os) => .ok o (wb ars os s1.ρ)
        | .exc c ks xs (_ :: os) => .exc c ks xs (wb ars os s1.ρ)
        | _ => .bad)) {x dx : Addr} (hx : s1.H x = none) (hdx : s1.H dx = none) (hne : dx ≠ x) :
    spM T m (.ref x :: vs) (upd (upd s1.H dx (.own x)) x (.ins C dx [])) (fun v H2 => v = .non ∧ Q (.ref x) H2) (WE W s.σ) := by
  have hx' : upd s1.H dx (.own x) x = none := by rw [upd_ne (fun z => hne z.symm)]; exact hx
  let sx : S5 := { s1 with H := upd (upd s1.H dx (.own x)) x (.ins C dx []) }
  have rx : Okk T B sx := (r1.new (o := .own x) hdx).new (o := .ins C dx []) hx'
  have eH : ∀ b o, s1.H b = some o → sx.H b = some o := fun b o q => by
    show upd (upd s1.H dx (.own x)) x (.ins C dx []) b = some o
    rw [upd_ne (ne_of_none q hx), upd_ne (ne_of_none q hdx)]
    exact q
  let ars' : List Arg := (.v bad, []) :: ars
  have fx : ∀ b, b ∈ [x, dx] → s1.H b = none := fun b hb => by
    rcases List.mem_cons.mp hb with z | z
    · rw [z]; exact hx
    · rw [List.mem_singleton.mp z]; exact hdx
  have rself : Rep T B sx.H sx.F (.obj .ow c [] []) (.ref x) [x, dx] := .objO hC upd_same (by show upd (upd s1.H dx (.own x)) x _ dx = _; rw [upd_ne hne, upd_same]) rfl .nil rfl
  have it' : ItsT T B sx ars' (some (.obj .ow c [] []) :: ods) (.ref x :: vs) ([x, dx] ++ g) := by
    refine ⟨.v rself (Its.mono (s := s1) (s' := sx) rfl eH (Ex.refl _) it.its), List.nodup_append.mpr ⟨List.nodup_cons.mpr ⟨fun z => hne (List.mem_singleton.mp z).symm, List.nodup_cons.mpr ⟨fun z => (by cases z), List.Pairwise.nil⟩⟩, it.nd, fun p hp q hq e => ?_⟩, fun p hp => ?_, fun p hp => ?_⟩
    · subst e
      have z := fx p hp
      obtain ⟨o, eo⟩ : ∃ o, s1.H p = some o := by
        have : ∀ {ars : List Arg} {ods : List (Option D)} {vs : List V} {g : List Addr}, Its T B s1 ars ods vs g → ∀ p ∈ g, ∃ o, s1.H p = some o := by
          intro ars ods vs g h
          induction h with
          | nil => intro p hp; cases hp
          | v h t ih => intro p hp; exact (List.mem_append.mp hp).elim (h.dom p) (ih p)
          | l h t ih => exact ih
          | io h t ih => exact ih
        exact this it.its p hq
      rw [z] at eo; cases eo
    · rcases List.mem_append.mp hp with z | z
      · exact ⟨r1.freeF (fx p z), r1.freeB (fx p z)⟩
      · exact it.ap p z
    · rcases List.mem_append.mp hp with z | z
      · exact r1.freeO (fx p z)
      · exact it.dj p z
  have hL1 : ∀ y ∈ (lns ars).flatMap s1.φ, B y = none := fun y hy => by
    obtain ⟨i, _, hi⟩ := List.mem_flatMap.mp hy
    exact (r1.ap i y hi).2
  cases ed : argD s1.ρ ars ods with
  | none => rw [ed] at h; exact h.elim
  | some ds =>
    rw [ed] at h
    have ed' : argD sx.ρ ars' (some (.obj .ow c [] []) :: ods) = some (.obj .ow c [] [] :: ds) := by
      show (argD s1.ρ ars ods).map _ = _
      rw [ed]
      rfl
    obtain ⟨φ0, p1, p2, p3, p4, p5, p6⟩ := entry (s := sx) (L := (lns ars).flatMap s1.φ) rx hL1 it'.its it'.nd it'.dj hn (fun i hi y hy => List.mem_flatMap.mpr ⟨i, hi, hy⟩) ed'
    have exB0 : Ex (ovl sx.H B ((lns ars).flatMap s1.φ)) sx.H := ovl_sub rx.exB
    have hB0 : ∀ y, ovl sx.H B ((lns ars).flatMap s1.φ) y = none → B y = none := fun y e => by
      by_cases z : y ∈ (lns ars).flatMap s1.φ
      · exact hL1 y z
      · rw [ovl_out z] at e; exact e
    have apart : ∀ y, O φ0 y → y ∉ (lns ars).flatMap s1.φ := fun y q z => by
      obtain ⟨i, hi, hy⟩ := List.mem_flatMap.mp z
      rcases p5 y q with w | ⟨j, hj, w⟩
      · exact it'.dj y w ⟨i, hy⟩
      · exact r1.dj i j y (fun w => hl i hi (by rw [w]; exact hj)) hy w
    let s2 : S5 := { σ := (V.ref x :: vs).map some, H := sx.H, F := sx.F, ρ := (D.obj .ow c [] [] :: ds).map Sl.dt, φ := φ0 }
    have r2 : Okk T (ovl sx.H B ((lns ars).flatMap s1.φ)) s2 := by
      refine ⟨by show ((D.obj .ow c [] [] :: ds).map Sl.dt).length = ((V.ref x :: vs).map some).length; rw [List.length_map, List.length_map, p6], exB0, rx.exF, rx.exP, fun k d q => ?_, fun k q => ?_, fun k q => ?_, p3, p4, fun k y q => ?_⟩
      · have q : ((D.obj .ow c [] [] :: ds).map Sl.dt)[k]? = some (.dt d) := q
        rw [List.getElem?_map] at q
        cases e : (D.obj .ow c [] [] :: ds)[k]? with
        | none => rw [e] at q; cases q
        | some d' =>
          rw [e] at q
          cases q
          obtain ⟨v, q1, q2⟩ := p1 k d e
          exact ⟨v, by show ((V.ref x :: vs).map some)[k]? = _; rw [List.getElem?_map, q1]; rfl, q2⟩
      · have q : ((D.obj .ow c [] [] :: ds).map Sl.dt)[k]? = some .exn := q
        rw [List.getElem?_map] at q
        cases e : (D.obj .ow c [] [] :: ds)[k]? with
        | none => rw [e] at q; cases q
        | some d' => rw [e] at q; cases q
      · refine p2 k ?_
        cases e : (D.obj .ow c [] [] :: ds)[k]? with
        | none => exact List.getElem?_eq_none_iff.mp e
        | some d' =>
          refine absurd ?_ (q d')
          show ((D.obj .ow c [] [] :: ds).map Sl.dt)[k]? = _
          rw [List.getElem?_map, e]
          rfl
      · have na : y ∉ (lns ars).flatMap s1.φ := apart y ⟨k, q⟩
        rcases p5 y ⟨k, q⟩ with z | ⟨i, _, z⟩
        · exact ⟨(it'.ap y z).1, by rw [ovl_out na]; exact (it'.ap y z).2⟩
        · exact ⟨(r1.ap i y z).1, by rw [ovl_out na]; exact (r1.ap i y z).2⟩
    refine ⟨_, s2, _, rfl, rfl, rfl, r2, ?_⟩
    -- from s to sx
    have a0 : Goes (tcs ars) s sx g := ⟨⟨fun b o e n => eH b o (a.step.keep b o e n), a.step.ext, a.step.fn, a.step.on⟩, fun j hj => by
      obtain ⟨b1, b2, b3⟩ := a.fix j hj
      refine ⟨b1, b2, fun y hy => ?_⟩
      obtain ⟨o, eo⟩ := r1.dom ⟨j, by rw [b2]; exact hy⟩
      rw [← b3 y hy, eo]
      exact eH y o eo, a.sg⟩
    have new2 : ∀ y, y ∈ [x, dx] → (O s.φ y ∨ s.H y = none) := fun y hy => by
      cases e : s.H y with
      | none => exact .inr rfl
      | some o =>
        by_cases z : O s.φ y
        · exact .inl z
        · have := a.step.keep y o e z
          rw [fx y hy] at this; cases this
    have g3 : ∀ {H' F' : Hp} {O2 : Addr → Prop}, Step sx.H sx.F (Or2 (O sx.φ) ([x, dx] ++ g)) H' F' O2 → Step s.H s.F (O s.φ) H' F' O2 := fun {H' F' O2} st => by
      have z : Step s.H s.F (O s.φ) sx.H sx.F (Or2 (O sx.φ) ([x, dx] ++ g)) := ⟨a0.step.keep, a0.step.ext, a0.step.fn, fun y q => by
        rcases q with q | q
        · exact a0.step.on y (.inl q)
        · rcases List.mem_append.mp q with q | q
          · exact new2 y q
          · exact a0.step.on y (.inr q)⟩
      exact z.trans st
    dsimp only at h
    cases em : m (.obj .ow c [] [] :: ds) with
    | bad => rw [em] at h; exact h.elim
    | ok d os =>
      rw [em] at h
      cases d with
      | non =>
        match os, h with
        | .dt o :: os', h =>
          intro v s' gr x1 x2 r' t nd nb st
          obtain ⟨q1, q2, q3⟩ := after (s := sx) (ars := ars') (gr := s'.φ 0) rx it' p5 rx.exB hB0 r' x2 x1 nb (st.drop fun y q => q.elim .inl fun z => .inl ⟨0, z⟩)
          obtain ⟨rv, _, _, _⟩ := t
          cases rv
          obtain ⟨v0, ev0, rp0⟩ := r'.sl 0 o (by rw [x1]; rfl)
          rw [x2] at ev0
          cases ev0
          refine ⟨rfl, h (.ref x) { σ := s1.σ, H := s'.H, F := s'.F, ρ := wb ars os' s1.ρ, φ := wbF ars' s'.φ s1.φ } (s'.φ 0) rfl e3 q1 ⟨rp0.noB (nb 0 o rfl), r'.nd 0, fun y hy => ⟨(r'.ap 0 y hy).1, hB0 y (r'.ap 0 y hy).2⟩, fun y hy q => ?_⟩ ⟨g3 q2, fun j hj => ?_, fun j hj => ?_⟩⟩
          · obtain ⟨j, q⟩ := q
            rcases wb_at (s := sx) (ρ := s1.ρ) (φ := s1.φ) (os := .dt o :: os') (ψ := s'.φ) it'.its j with ⟨y1, y2, y3⟩ | ⟨y1, k, w, tc, y2, y3, y4, y5, y6⟩
            · have q : y ∈ wbF ars' s'.φ s1.φ j := q
              rw [y3] at q
              obtain ⟨o', e⟩ := r1.dom ⟨j, q⟩
              rcases st.on y (.inl ⟨0, hy⟩) with z | z
              · rcases p5 y z with z | ⟨i, hi, z⟩
                · exact it'.dj y z ⟨j, q⟩
                · exact r1.dj i j y (fun w => y1 (by rw [← w]; exact hi)) z q
              · rw [show s2.H y = sx.H y from rfl, eH y o' e] at z; cases z
            · have q : y ∈ wbF ars' s'.φ s1.φ j := q
              rw [y3] at q
              refine r'.dj 0 k y (fun z => ?_) hy q
              subst z
              cases y2
          · obtain ⟨b1, b2, b3⟩ := a0.fix j fun z => hj (memL z)
            obtain ⟨c1, c2, c3⟩ := q3 j fun z => hj (memR z)
            exact ⟨c1.trans b1, c2.trans b2, fun y hy => (c3 y (by rw [show sx.φ j = s.φ j from b2]; exact hy)).trans (b3 y hy)⟩
          · exact a0.sg j fun z => hj (memL z)
        | .un :: os', h => exact h.elim
        | .exn :: os', h => exact h.elim
        | [], h => exact h.elim
      | _ => exact h.elim
    | exc c' ks xs os =>
      rw [em] at h
      match os, h with
      | [], h => exact h.elim
      | o :: os', h =>
        intro cls dd s' x1 x2 r' xr nb st
        obtain ⟨q1, q2, q3⟩ := after (s := sx) (ars := ars') rx it' p5 rx.exB hB0 r' x2 x1 nb st.or0
        have z := h cls dd { σ := s1.σ, H := s'.H, F := s'.F, ρ := wb ars os' s1.ρ, φ := wbF ars' s'.φ s1.φ } rfl e3 q1 xr ⟨g3 q2, fun j hj => ?_, fun j hj => ?_⟩
        · show W cls dd s.σ s'.H
          rw [← e3]
          exact z
        · obtain ⟨b1, b2, b3⟩ := a0.fix j fun z => hj (memL z)
          obtain ⟨c1, c2, c3⟩ := q3 j fun z => hj (memR z)
          exact ⟨c1.trans b1, c2.trans b2, fun y hy => (c3 y (by rw [show sx.φ j = s.φ j from b2]; exact hy)).trans (b3 y hy)⟩
        · exact a0.sg j fun z => hj (memL z)
end
section
variable {X : Cx} {G : Gx} {W : WX} {tc : List Nat} {a e : Expr} {es : List Expr} {pos p : Pos}
theorem pe_makeZ {x : Str} {C f : Addr} {k : Nat} {fd : FuncData} {ps : List Str} {sp : Sp} {E : L2.St → XK} {t : TA} (M : Mk X.K C f) (F : FnOk X.prog X.w X.K X.mg X.base (L2.CX X.prog X.w) k f fd ps sp) (hr : Room (k + 1) X.A) (hg : Gl X x) (hm : X.mg x = some (.ref C)) (hb : Binds X.K fd ps [])
    (hx : ∀ σ, PassesAt (L2.CX X.prog X.w) X σ (E σ)) (ha : PA X (a :: es) t) (hdb : (x == ("__debug__" : Str)) = false) (he : starEach (a :: es) X.env = (false, eval a X.env) :: starEach es X.env) (hpl : (backTo pos (starEach es X.env)).any (·.1) = false) :
    PE X (.Call (.Name x p) (a :: es) [] pos) (fun σ H Q => t σ H fun vs H1 => ∀ y dx, H1 y = none → H1 dx = none → dx ≠ y → sp (.ref y :: vs) (upd (upd H1 dx (.own y)) y (.ins C dx [])) (fun v H2 => v = .non ∧ Q (.ref y) H2) (E σ)) := by
  constructor
  intro pins s σ H Q I h
  refine wpAny_Call_Name_kw (ld_glob I hg hm ?_ hdb)
  refine PySem.W.callWith_K (h₀ := X.base) I.ok.mod.kin M.kp (thn (ha.run pos pins s σ H _ I h) ?_) he hpl
  rintro us s1 ⟨vs, H1, I1, r, q⟩
  refine ⟨I1.kIn, ?_⟩
  -- the new instance at size + 1, its dict at size
  have hq := q (s1.heap.objs.size + 1) s1.heap.objs.size (I1.hok.fresh (Nat.le_succ _)) (I1.hok.fresh (Nat.le_refl _)) (Nat.ne_of_lt (Nat.lt_succ_self _))
  have I2 := Inv.made (C := C) I1
  have hl : (Value.ref (s1.heap.objs.size + 1) :: us).length = ps.length := by
    have z := F.len _ _ _ _ hq
    rw [List.length_cons] at z ⊢
    rw [← r.length]
    exact z
  have b := hb _ (Value.ref (s1.heap.objs.size + 1) :: us) I2.kIn (by rw [List.append_nil]; exact hl)
  rw [List.append_nil] at b
  refine wpAny_call (make_map (f := f) I1.kIn M.makes M.init (beq_iff_eq.mp M.fn) (codeAny_mono (F.run _ X.stack _ _ ⟨Value.ref (s1.heap.objs.size + 1) :: us, []⟩ (Value.ref (s1.heap.objs.size + 1) :: us) (V.ref (s1.heap.objs.size + 1) :: vs) _ (E σ) (hr.make C us []) (I2.env0.make C us []) b (.cons rfl r) hq) ?_))
  intro res s' hq'
  cases res with
  | error er => exact hx σ pins _ _ er s' I2 hq'
  | ok fl =>
    cases fl with
    | ret u =>
      obtain ⟨v, H', I3, rv, ev, q3⟩ := I2.after hq'
      subst ev
      exact ⟨rv, V.ref (s1.heap.objs.size + 1), H', I3, rfl, q3⟩
    | next => exact hq'.elim
    | brk => exact hq'.elim
    | cont => exact hq'.elim
theorem g_make {c : Str} {C f : Addr} {k : Nat} {fd : FuncData} {ps : List Str} {mn : List D → Res} {ars : List Arg} (tk : Takes X W) (hC : G.C c = some C) (M : Mk X.K C f) (F : FnOk X.prog X.w X.K X.mg X.base (L2.CX X.prog X.w) k f fd ps (spM (tx X G) mn)) (hr : Room (k + 1) X.A) (hg : Gl X c) (hm : X.mg c = some (.ref C)) (hb : Binds X.K fd ps [])
    (ha : GR X G W (a :: es) ars) (hn : (ios ars).Nodup := by decide) (hl : ∀ i ∈ lns ars, i ∉ ios ars := by decide) (hdb : (c == ("__debug__" : Str)) = false := by decide) (he : starEach (a :: es) X.env = (false, eval a X.env) :: starEach es X.env := by rfl) (hpl : (backTo pos (starEach es X.env)).any (·.1) = false := by rfl) :
    GE X G W (tcs ars ++ ios ars) (.Call (.Name c p) (a :: es) [] pos) (dMake c mn ars) :=
  pe_mono (pe_makeZ M F hr hg hm hb (fun σ => passAt tk σ) ha hdb he hpl) fun σ H Q ⟨B, s, e1, e2, r, hp⟩ => by
    subst e1 e2
    exact args_core (s0 := s) (u := []) (g0 := []) Goes.refl rfl (fun _ h => by cases h) (fun j q => memL q) r hp fun ods vs s1 g r1 e3 it a h x dx hx hdx hne => make_fin (T := tx X G) hC hn hl r1 e3 it a h hx hdx hne
end
end Cs
namespace Cs
open PySem L2 Evl PyProof.Rows

/-! ## several except clauses, with and without a name -/
abbrev Cla := Value × Option Nat × (Addr → Value → Option Addr → TS)
/-- behind a suite whose name stood in slot i -/
abbrev offN (i : Nat) (D : Ends) : Ends := { nx := fun τ Z => D.nx (τ.set i none) Z, rt := D.rt, bk := fun τ Z => D.bk (τ.set i none) Z, ct := fun τ Z => D.ct (τ.set i none) Z }
def wMix (K : PySem.W.Frag) (Wo : WX) (D : Ends) : List Cla → WX
  | [] => Wo
  | (c, none, ts) :: r => fun k d τ Z => ∃ b, PySem.W.exmOne K k c = some b ∧ (b = true → ∀ a, Z a = none → ts a k d D τ Z) ∧ (b = false → wMix K Wo D r k d τ Z)
  | (c, some i, ts) :: r => fun k d τ Z => ∃ b, PySem.W.exmOne K k c = some b ∧ (b = true → ∀ a, Z a = none → ts a k d (offN i D) (τ.set i (some (.ref a))) Z) ∧ (b = false → wMix K Wo D r k d τ Z)
abbrev SuOk (X : Cx) (b0 : Stmt) (bs : List Stmt) (ts : Addr → Value → Option Addr → TS) : Prop :=
  ∀ (a : Addr) (ob : Obj) (k : Value) (d : Option Addr) (pn : List (Addr × Obj)), Zc k d ob → (∃ fs, ob.data = .fields fs) → PSs (X.suite a ((a, ob) :: pn)) (b0 :: bs) (ts a k d)
inductive HdsM (X : Cx) : List ExceptHandler → List Cla → Prop
  | nil : HdsM X [] []
  | plain {x : Str} {c : Value} {ts : Addr → Value → Option Addr → TS} {b0 : Stmt} {bs : List Stmt} {p1 p2 : Pos} {hs : List ExceptHandler} {l : List Cla} (nm : Names X x c) (su : SuOk X b0 bs ts) (r : HdsM X hs l) :
      HdsM X (.ExceptHandler (some (.Name x p1)) none (b0 :: bs) p2 :: hs) ((c, none, ts) :: l)
  | named {x n : Str} {i : Nat} {c : Value} {ts : Addr → Value → Option Addr → TS} {b0 : Stmt} {bs : List Stmt} {p1 p2 : Pos} {hs : List ExceptHandler} {l : List Cla} (nm : Names X x c) (hi : X.N[i]? = some n) (hl : X.env.kindOf n = some .local) (su : SuOk X b0 bs ts) (r : HdsM X hs l) :
      HdsM X (.ExceptHandler (some (.Name x p1)) (some n) (b0 :: bs) p2 :: hs) ((c, some i, ts) :: l)
section
variable {X : Cx}
theorem ps_tryM {body : List Stmt} {h0 : ExceptHandler} {hs : List ExceptHandler} {l : List Cla} {pos : Pos} {tb : WX → TS} {Wo : WX} (stk : X.stack = X.env :: X.outer) (frm0 : X.env.frame = some X.env.locals) (ndN : X.N.Nodup) (tk : Takes X Wo)
    (hb : ∀ (W : WX) (pn : List (Addr × Obj)) (xe : Value → Shared → Prop), Takes (X.tr pn xe) W → PassesOwn (model X.prog X.w) X.A X.env xe → PSs (X.tr pn xe) body (tb W))
    (hh : HdsM X (h0 :: hs) l) : PS X (.Try body (h0 :: hs) [] [] pos) (fun D σ H => tb (wMix X.K Wo D l) D σ H) := by
  constructor
  intro pins s σ H D I h
  have ok := I.ok
  have frs0 : X.A.frames = some (X.env :: X.outer) := by rw [ok.frames, stk]
  apply wpAny_Try_except
  refine wpAny_mono ((hb (wMix X.K Wo D l) (X.pn ++ pins) (fun er t1 => wpAny (model X.prog X.w) X.A (noteFrame er X.env) (fun _ t2 => wpAny (model X.prog X.w) X.A (setFlight er none) (fun _ t3 =>
    wpAny (model X.prog X.w) X.A (handleBy er X.env (h0 :: hs)) (SP X pins D) X.xe t3) X.xe t2) X.xe t1) ?_ PassesOwn.looking).run [] s σ H D (I.toTry _) h) ?_ (fun _ _ z => z)
  · rintro ev s' ⟨a, Bg, sI, pins', τ, Z, k, d, rfl, J', nb, up, sky, na, os, ag, w⟩
    have J : Inv X pins τ Z sI := J'.ofTry ok
    rw [stk] at sky
    show wpAny (model X.prog X.w) X.A (noteFrame (.ref a) X.env) _ _ _
    refine Sky.land Zc.steady frs0 frm0 sky ?_
    intro h3 fl up3
    have J3 : Inv X pins τ Z { s' with heap := h3 } := J.landed nb fl.1 (up.trans up3) os ag
    obtain ⟨ob, fv, hob, hz, hdat⟩ := fl.there
    have nfr : a ∉ frs (X.env :: X.outer) := by
      intro hm
      obtain ⟨_, o2, e2, nf⟩ := fl.2.2.1.mem hm
      rw [hob] at e2
      cases e2
      exact nf _ hdat
    have nL : a ≠ X.env.locals := fun z => nfr (List.mem_filterMap.mpr ⟨X.env, List.mem_cons_self, by rw [frm0, z]⟩)
    have nF : a ∉ X.fs := by
      intro hm
      obtain ⟨e, he, q⟩ := List.mem_filterMap.mp hm
      exact nfr (List.mem_filterMap.mpr ⟨e, List.mem_cons_of_mem _ he, q⟩)
    have S3 := J3.suite hob hdat na nL nF
    have LT : PySem.W.Looks (model X.prog X.w) h3 (typeOf (.ref a)) k := fun A Q E s kk q => wpAny_typeOf_ref (kk _ _ hob) (by rw [hz.1]; exact q)
    have nameAt : ∀ {x : Str} {c : Value} {p1 : Pos} {Q : Value → Shared → Prop} {E : Value → Shared → Prop}, Names X x c → Q c { s' with heap := h3 } → wpAny (model X.prog X.w) (X.A.mark (some (.ref a))) (eval (.Name x p1) X.env) Q E { s' with heap := h3 } := by
      rintro x c p1 Q E ⟨hg, hdb, hm | ⟨hm, hv, hnn⟩⟩ q
      · exact ld_glob (X := X.suite a ((a, ob) :: (X.pn ++ pins))) S3 hg hm q hdb
      · exact ld_blt (X := X.suite a ((a, ob) :: (X.pn ++ pins))) S3 hg hm hv q hnn hdb
    -- clause by clause
    suffices go : ∀ {hs' : List ExceptHandler} {l' : List Cla}, HdsM X hs' l' → wMix X.K Wo D l' k d τ Z → wpAny (model X.prog X.w) X.A (handleBy (.ref a) X.env hs') (SP X pins D) X.xe { s' with heap := h3 } from go hh w
    intro hs' l' hk
    induction hk with
    | nil =>
      intro w0
      apply wpAny_handleBy_nil
      obtain ⟨_, _, _, o3, f3, T3, _, _, e3, _, d3, i3, _⟩ := id fl
      unfold PySem.passOn
      refine wpAny_bind (wpAny_field e3 d3 i3 ?_)
      rw [if_neg (by simp)]
      have last : wpAny (model X.prog X.w) X.A (setFlight (.ref a) X.env.frame) (fun _ t4 => wpAny (model X.prog X.w) X.A (throw (.ref a) : Sem Flow) (SP X pins D) X.xe t4) X.xe { s' with heap := h3 } := by
        rw [frm0]
        refine HandSPX.setFlight_upZ fl ?_
        intro h4 hh4 up4
        refine wpAny_throw (tk _ _ ⟨a, Bg, sI, pins, τ, Z, k, d, rfl, J, nb, (up.trans up3).trans up4, .inr (.inr ?_), na, os, ag, w0⟩)
        rw [stk]
        exact hh4
      first
        | exact wpAny_bind last
        | exact wpAny_bind (wpAny_pure (wpAny_bind last))
    | @plain x c ts b0 bs p1 p2 hs2 l2 nm su r ih =>
      rintro ⟨b, hb1, yes, no⟩
      refine wpAny_handleBy_cons (codeAny_handlers_test (nameAt nm ((PySem.W.exm_one (M := model X.prog X.w) J3.kIn LT hb1).here ?_))) (by intro q; cases q)
      cases b with
      | false => exact ih (no rfl)
      | true =>
        refine codeAny_handlers_suite (HandSPX.lands_againZ fl ?_)
        intro h4 fl4 up4
        have J4 : Inv X pins τ Z { s' with heap := h4 } := J.landed nb fl4.1 ((up.trans up3).trans up4) os ag
        obtain ⟨ob4, _, hob4, hz4, hdat4⟩ := fl4.there
        refine wpAny_mono ((su a ob4 k d (X.pn ++ pins) hz4 ⟨_, hdat4⟩).run [] _ _ Z _ (J4.suite hob4 hdat4 na nL nF) (yes rfl a na)) ?_ (fun _ _ z => z.elim)
        intro fl s6 hsp
        cases fl with
        | next => obtain ⟨τ6, Z6, S6, q6⟩ := hsp; exact ⟨τ6, Z6, S6.unsuite ok, q6⟩
        | brk => obtain ⟨τ6, Z6, S6, q6⟩ := hsp; exact ⟨τ6, Z6, S6.unsuite ok, q6⟩
        | cont => obtain ⟨τ6, Z6, S6, q6⟩ := hsp; exact ⟨τ6, Z6, S6.unsuite ok, q6⟩
        | ret u => obtain ⟨v6, τ6, Z6, S6, r6, q6⟩ := hsp; exact ⟨v6, τ6, Z6, S6.unsuite ok, r6, q6⟩
    | @named x n i c ts b0 bs p1 p2 hs2 l2 nm hi hl su r ih =>
      rintro ⟨b, hb1, yes, no⟩
      refine wpAny_handleBy_cons (codeAny_handlers_test (nameAt nm ((PySem.W.exm_one (M := model X.prog X.w) J3.kIn LT hb1).here ?_))) (by intro q; cases q)
      cases b with
      | false => exact ih (no rfl)
      | true =>
        refine codeAny_handlers_suite_as (HandSPX.lands_againZ fl ?_)
        intro h4 fl4 up4
        have J4 : Inv X pins τ Z { s' with heap := h4 } := J.landed nb fl4.1 ((up.trans up3).trans up4) os ag
        obtain ⟨ob4, _, hob4, hz4, hdat4⟩ := fl4.there
        refine store_ok (X := X.suite a ((a, ob4) :: (X.pn ++ pins))) (v := .ref a) (J4.suite hob4 hdat4 na nL nF) ndN hi (.inl hl) rfl ?_ (.inr hl)
        intro s5 S5
        refine wpAny_mono ((su a ob4 k d (X.pn ++ pins) hz4 ⟨_, hdat4⟩).run [] s5 _ Z _ S5 (yes rfl a na)) ?_ (fun _ _ z => z.elim)
        intro fl s6 hsp
        have fin : ∀ {τ6 : L2.St} {Z6 : Hp} {Q : Shared → Prop}, Inv (X.suite a ((a, ob4) :: (X.pn ++ pins))) [] τ6 Z6 s6 → (∀ s7, Inv X pins (τ6.set i none) Z6 s7 → Q s7) →
            wpAny (model X.prog X.w) X.A (do bindName X.env n .none; unbindBehindTheSuite X.env n p2) (fun _ s7 => Q s7) X.xe s6 := fun S6 hq => gone_ok (S6.unsuite ok) ndN hi hl hq
        cases fl with
        | next => obtain ⟨τ6, Z6, S6, q6⟩ := hsp; exact fin S6 fun s7 J7 => ⟨_, _, J7, q6⟩
        | brk => obtain ⟨τ6, Z6, S6, q6⟩ := hsp; exact fin S6 fun s7 J7 => ⟨_, _, J7, q6⟩
        | cont => obtain ⟨τ6, Z6, S6, q6⟩ := hsp; exact fin S6 fun s7 J7 => ⟨_, _, J7, q6⟩
        | ret u => obtain ⟨v6, τ6, Z6, S6, r6, q6⟩ := hsp; exact fin S6 fun s7 J7 => ⟨_, _, _, J7, r6, q6⟩
  · intro fl s1 hsp
    cases fl with
    | next => obtain ⟨τ, Z, J', q⟩ := hsp; exact wpAny_execs_nil ⟨τ, Z, J'.ofTry ok, q⟩
    | brk => obtain ⟨τ, Z, J', q⟩ := hsp; exact ⟨τ, Z, J'.ofTry ok, q⟩
    | cont => obtain ⟨τ, Z, J', q⟩ := hsp; exact ⟨τ, Z, J'.ofTry ok, q⟩
    | ret u => obtain ⟨v, τ, Z, J', r, q⟩ := hsp; exact ⟨v, τ, Z, J'.ofTry ok, r, q⟩
end
end Cs
namespace Cs
open PySem L2 Evl PyProof.Rows

/-! ## the same data under another text -/
section
variable {T T' : Tx} {B H F : Hp}
mutual
theorem Rep.tx (eK : T.K = T'.K) (eC : T.C = T'.C) : ∀ {d : D} {v : V} {fp : List Addr}, Rep T B H F d v fp → Rep T' B H F d v fp
  | _, _, _, .non => .non
  | _, _, _, .bl b => .bl b
  | _, _, _, .int i => .int i
  | _, _, _, .str s hs => .str s hs
  | _, _, _, .cls h => .cls (by rw [← eC]; exact h)
  | _, _, _, .tup h r => .tup (by rw [← eK]; exact h) (Reps.tx eK eC r)
  | _, _, _, .lstF h r => .lstF h (Reps.tx eK eC r)
  | _, _, _, .lstR h r => .lstR (by rw [← eK]; exact h) (Reps.tx eK eC r)
  | _, _, _, .lstB h r => .lstB h (Reps.tx eK eC r)
  | _, _, _, .lstO h r e => .lstO h (Reps.tx eK eC r) e
  | _, _, _, .dctF h l r => .dctF h l (Reps.tx eK eC r)
  | _, _, _, .dctB h l r => .dctB h l (Reps.tx eK eC r)
  | _, _, _, .dctO h l r e => .dctO h l (Reps.tx eK eC r) e
  | _, _, _, .objF c h h2 l r => .objF (by rw [← eC]; exact c) h h2 l (Reps.tx eK eC r)
  | _, _, _, .objB c h h2 l r => .objB (by rw [← eC]; exact c) h h2 l (Reps.tx eK eC r)
  | _, _, _, .objO c h h2 l r e => .objO (by rw [← eC]; exact c) h h2 l (Reps.tx eK eC r) e
theorem Reps.tx (eK : T.K = T'.K) (eC : T.C = T'.C) : ∀ {ds : List D} {vs : List V} {fp : List Addr}, Reps T B H F ds vs fp → Reps T' B H F ds vs fp
  | _, _, _, .nil => .nil
  | _, _, _, .cons r rs e => .cons (Rep.tx eK eC r) (Reps.tx eK eC rs) e
end
theorem Rep.to {K : PySem.W.Frag} {C : Str → Option Addr} {P P' : Hp} {X X' : Option Addr} {B H F : Hp} {d : D} {v : V} {fp : List Addr} (h : Rep ⟨K, C, P, X⟩ B H F d v fp) : Rep ⟨K, C, P', X'⟩ B H F d v fp := Rep.tx (T := ⟨K, C, P, X⟩) (T' := ⟨K, C, P', X'⟩) rfl rfl h
theorem Reps.to {K : PySem.W.Frag} {C : Str → Option Addr} {P P' : Hp} {X X' : Option Addr} {B H F : Hp} {d : List D} {v : List V} {fp : List Addr} (h : Reps ⟨K, C, P, X⟩ B H F d v fp) : Reps ⟨K, C, P', X'⟩ B H F d v fp := Reps.tx (T := ⟨K, C, P, X⟩) (T' := ⟨K, C, P', X'⟩) rfl rfl h
end
/-! ## try -/
/-- the classes of the program that are no exceptions -/
def plainC (c : Str) : Bool := c == "Order" || c == "TrialList" || c == "Record" || c == "DoubtfulRecord" || c == "Hall" || c == "Desk" || c == "Certificate" || c == "SitsCertificate" || c == "RefusesCertificate" || c == "OpenCertificate" || c == "CaseCertificate"
def subX (c h : Str) : Bool := c == h || (h == "ChairError" && !plainC c)
def noExn (ρ : En) : Bool := ρ.all fun s => match s with
  | .exn => false
  | _ => true
/-- a suite's end: its name is gone -/
def offE (i : Option Nat) : Out Flw → Out Flw
  | .ok fl ρ => if noExn (match i with | some i => ρ.set i .un | none => ρ) = true then .ok fl (match i with | some i => ρ.set i .un | none => ρ) else .bad
  | _ => .bad
abbrev Hd := Str × Option Nat × (Str → List Str → List D → M Flw)
def catchM (c : Str) (ks : List Str) (xs : List D) : List Hd → M Flw
  | [] => fun ρ => .exc c ks xs ρ
  | (h, none, su) :: r => fun ρ => if subX c h = true then offE none (su c ks xs ρ) else catchM c ks xs r ρ
  | (h, some i, su) :: r => fun ρ => if subX c h = true then (if i < ρ.length then offE (some i) (su c ks xs (ρ.set i .exn)) else .bad) else catchM c ks xs r ρ
def dTry (body : M Flw) (hs : List Hd) : M Flw := fun ρ => match body ρ with
  | .exc c ks xs ρ' => catchM c ks xs hs ρ'
  | o => o
/-- a suite has the denotation su, whatever was caught -/
def SuG (X : Cx) (G : Gx) (tc : List Nat) (b0 : Stmt) (bs : List Stmt) (su : Str → List Str → List D → M Flw) : Prop :=
  ∀ (a : Addr) (ob : Obj) (k : Value) (d : Option Addr) (pn : List (Addr × Obj)), Zc k d ob → (∃ fs, ob.data = .fields fs) → ∀ c ks xs (P : Hp), XRep ⟨X.K, G.C, P, some a⟩ P c ks xs k d →
    GSs (X.suite a ((a, ob) :: pn)) ⟨G.C, P, some a⟩ (fun _ _ _ _ => False) tc (b0 :: bs) (su c ks xs)
/-- what a clause's suite reads -/
def tsG (K : PySem.W.Frag) (C : Str → Option Addr) (tc : List Nat) (su : Str → List Str → List D → M Flw) : Addr → Value → Option Addr → TS := fun a k d D σ H =>
  ∃ c ks xs P, XRep ⟨K, C, P, some a⟩ P c ks xs k d ∧ tDS ⟨K, C, P, some a⟩ (fun _ _ _ _ => False) tc (su c ks xs) D σ H
inductive HdG (X : Cx) (G : Gx) (tc : List Nat) : List ExceptHandler → List Hd → List Cla → Prop
  | nil : HdG X G tc [] [] []
  | plain {x : Str} {C : Addr} {su : Str → List Str → List D → M Flw} {b0 : Stmt} {bs : List Stmt} {p1 p2 : Pos} {hs : List ExceptHandler} {l : List Hd} {q : List Cla} (nm : Names X x (.ref C)) (sb : ∀ c A, G.C c = some A → PySem.W.exmOne X.K (.ref A) (.ref C) = some (subX c x)) (su_ : SuG X G tc b0 bs su) (r : HdG X G tc hs l q) :
      HdG X G tc (.ExceptHandler (some (.Name x p1)) none (b0 :: bs) p2 :: hs) ((x, none, su) :: l) ((.ref C, none, tsG X.K G.C tc su) :: q)
  | named {x n : Str} {i : Nat} {C : Addr} {su : Str → List Str → List D → M Flw} {b0 : Stmt} {bs : List Stmt} {p1 p2 : Pos} {hs : List ExceptHandler} {l : List Hd} {q : List Cla} (nm : Names X x (.ref C)) (sb : ∀ c A, G.C c = some A → PySem.W.exmOne X.K (.ref A) (.ref C) = some (subX c x)) (hi : X.N[i]? = some n) (hl : X.env.kindOf n = some .local)
      (it : i ∈ tc ∧ i + 1000 ∈ tc) (su_ : SuG X G tc b0 bs su) (r : HdG X G tc hs l q) :
      HdG X G tc (.ExceptHandler (some (.Name x p1)) (some n) (b0 :: bs) p2 :: hs) ((x, some i, su) :: l) ((.ref C, some i, tsG X.K G.C tc su) :: q)
section
variable {X : Cx} {G : Gx} {W : WX} {tc tb : List Nat}
theorem HdG.hds {hs : List ExceptHandler} {l : List Hd} {q : List Cla} (h : HdG X G tc hs l q) : HdsM X hs q := by
  have su1 : ∀ {b0 : Stmt} {bs : List Stmt} {su : Str → List Str → List D → M Flw}, SuG X G tc b0 bs su → SuOk X b0 bs (tsG X.K G.C tc su) := fun s a ob k d pn hz hf =>
    ⟨fun pins st σ H D I ⟨c, ks, xs, P, xr, h⟩ => (s a ob k d pn hz hf c ks xs P xr).run pins st σ H D I h⟩
  induction h with
  | nil => exact .nil
  | plain nm sb s r ih => exact .plain nm (su1 s) ih
  | named nm sb hi hl it s r ih => exact .named nm hi hl (su1 s) ih
/-- into a suite, and out of it -/
theorem Rel.into {K : PySem.W.Frag} {C : Str → Option Addr} {P : Hp} {σ : L2.St} {B H F : Hp} {ρ : En} {φ : Nat → List Addr} {a : Addr} (r : Rel ⟨K, C, P, none⟩ σ B H F ρ φ) : Rel ⟨K, C, F, some a⟩ σ B H F ρ φ :=
  ⟨r.len, r.exB, r.exF, Ex.refl F, fun i d q => by
    obtain ⟨v, e, rp⟩ := r.sl i d q
    exact ⟨v, e, rp.to⟩, fun i q => (by
    obtain ⟨_, e, _⟩ := r.xn i q
    cases e), r.em, r.nd, r.dj, r.ap⟩
theorem Rel.exn {T : Tx} {σ : L2.St} {B H F : Hp} {ρ : En} {φ : Nat → List Addr} {a : Addr} {i : Nat} (hX : T.X = some a) (r : Rel T σ B H F ρ φ) (hi : i < ρ.length) : Rel T (σ.set i (some (.ref a))) B H F (ρ.set i .exn) (fun j => if j = i then [] else φ j) := by
  have z := r.take (i := i)
  refine ⟨by rw [List.length_set, List.length_set]; exact r.len, r.exB, r.exF, r.exP, fun j d q => ?_, fun j q => ?_, fun j q => ?_, z.nd, z.dj, z.ap⟩
  · by_cases e : j = i
    · subst e
      rw [List.getElem?_set_self hi] at q; cases q
    · rw [List.getElem?_set_ne fun y => e y.symm] at q
      obtain ⟨v, ev, rp⟩ := r.sl j d q
      exact ⟨v, by rw [List.getElem?_set_ne fun y => e y.symm]; exact ev, by rw [if_neg e]; exact rp⟩
  · by_cases e : j = i
    · subst e
      exact ⟨a, hX, List.getElem?_set_self (by rw [← r.len]; exact hi)⟩
    · rw [List.getElem?_set_ne fun y => e y.symm] at q
      obtain ⟨b, e1, e2⟩ := r.xn j q
      exact ⟨b, e1, by rw [List.getElem?_set_ne fun y => e y.symm]; exact e2⟩
  · by_cases e : j = i
    · rw [if_pos e]
    · rw [if_neg e]
      refine r.em j fun d h => q d ?_
      rw [List.getElem?_set_ne fun y => e y.symm]
      exact h
theorem noExn_get {ρ : En} (h : noExn ρ = true) {i : Nat} : ρ[i]? ≠ some .exn := fun q => by
  have z := List.all_eq_true.mp h _ (List.mem_of_getElem? q)
  cases z
theorem Rel.outof {K : PySem.W.Frag} {C : Str → Option Addr} {P P' : Hp} {σ : L2.St} {B H F : Hp} {ρ : En} {φ : Nat → List Addr} {X0 : Option Addr} (r : Rel ⟨K, C, P', X0⟩ σ B H F ρ φ) (hP : Ex P F) (hn : noExn ρ = true) : Rel ⟨K, C, P, none⟩ σ B H F ρ φ :=
  ⟨r.len, r.exB, r.exF, hP, fun i d q => by
    obtain ⟨v, e, rp⟩ := r.sl i d q
    exact ⟨v, e, rp.to⟩, fun i q => absurd q (noExn_get hn), r.em, r.nd, r.dj, r.ap⟩
/-- a slot is given up: its value in the frame, too -/
theorem Rel.giveup {T : Tx} {σ : L2.St} {B H F : Hp} {ρ : En} {φ : Nat → List Addr} {i : Nat} (r : Rel T σ B H F ρ φ) : Rel T (σ.set i none) B H F (ρ.set i .un) (fun j => if j = i then [] else φ j) := by
  have z := r.take (i := i)
  refine ⟨by rw [List.length_set, List.length_set]; exact r.len, r.exB, r.exF, r.exP, fun j d q => ?_, fun j q => ?_, z.em, z.nd, z.dj, z.ap⟩
  · by_cases e : j = i
    · subst e
      by_cases hl : j < ρ.length
      · rw [List.getElem?_set_self hl] at q; cases q
      · rw [List.getElem?_eq_none (by rw [List.length_set]; omega)] at q; cases q
    · obtain ⟨v, ev, rp⟩ := z.sl j d q
      exact ⟨v, by rw [List.getElem?_set_ne fun y => e y.symm]; exact ev, rp⟩
  · by_cases e : j = i
    · subst e
      by_cases hl : j < ρ.length
      · rw [List.getElem?_set_self hl] at q; cases q
      · rw [List.getElem?_eq_none (by rw [List.length_set]; omega)] at q; cases q
    · obtain ⟨a, e1, e2⟩ := z.xn j q
      exact ⟨a, e1, by rw [List.getElem?_set_ne fun y => e y.symm]; exact e2⟩
/-- the clauses, one after the other -/
theorem catch_core {B : Hp} {s0 s : S5} {c : Str} {ks : List Str} {xs : List D} {k : Value} {dd : Option Addr} {E : Ends} {P : Hp} (hsub : ∀ j ∈ tc, j ∈ tb) (a0 : Goes tb s0 s []) (r : Okk ⟨X.K, G.C, P, none⟩ B s) (xr : XRep ⟨X.K, G.C, P, none⟩ s.F c ks xs k dd) : ∀ {hs : List ExceptHandler} {l : List Hd} {q : List Cla}, HdG X G tc hs l q →
    Post (okS ⟨X.K, G.C, P, none⟩ B tb s0 E) (exS ⟨X.K, G.C, P, none⟩ W B tb s0) (catchM c ks xs l s.ρ) → wMix X.K W E q k dd s.σ s.H
  | _, _, _, .nil, h => h k dd s rfl r xr a0
  | _, _, _, .plain (su := su) nm sb su_ r', h => by
    obtain ⟨A, hA, ek, _⟩ := id xr
    subst ek
    refine ⟨_, sb c A hA, fun hb a na => ?_, fun hb => ?_⟩
    · unfold catchM at h
      rw [if_pos hb] at h
      obtain ⟨A', hA', e2, rest⟩ := xr
      refine ⟨c, ks, xs, s.F, ⟨A', hA', e2, rest.imp id fun ⟨d, fs, vs, y1, y2, y3, y4, y5⟩ => ⟨d, fs, vs, y1, y2, y3.to, y4, y5⟩⟩, B, s, rfl, rfl, r.into, ?_⟩
      cases eo : su c ks xs s.ρ with
      | bad => rw [eo] at h; exact h.elim
      | exc c' ks' xs' ρ' => rw [eo] at h; exact h.elim
      | ok fl ρ' =>
        rw [eo] at h
        unfold offE at h
        dsimp only at h
        split at h
        · rename_i hn
          have back : ∀ (s' : S5) {g : List Addr}, s'.ρ = ρ' → Rel ⟨X.K, G.C, s.F, some a⟩ s'.σ B s'.H s'.F s'.ρ s'.φ → Goes tc s s' g → Okk ⟨X.K, G.C, P, none⟩ B s' ∧ Goes tb s0 s' g := fun s' g q1 q2 q3 =>
            ⟨q2.outof (r.exP.trans q3.step.ext) (by rw [q1]; exact hn), (a0.trans0 q3).wk fun j z => (List.mem_append.mp z).elim id (hsub j)⟩
          cases fl with
          | nx => exact fun s' q1 q2 q3 => h s' q1 (back s' q1 q2 q3).1 (back s' q1 q2 q3).2
          | bk => exact fun s' q1 q2 q3 => h s' q1 (back s' q1 q2 q3).1 (back s' q1 q2 q3).2
          | ct => exact fun s' q1 q2 q3 => h s' q1 (back s' q1 q2 q3).1 (back s' q1 q2 q3).2
          | rt d => exact fun v s' g q1 q2 t q3 => h v s' g q1 (back s' q1 q2 q3).1 ⟨t.rep.to, t.nd, t.ap, t.dj⟩ (back s' q1 q2 q3).2
        · exact h.elim
    · unfold catchM at h
      rw [if_neg (by rw [hb]; exact Bool.false_ne_true)] at h
      exact catch_core hsub a0 r xr r' h
  | _, _, _, .named (i := i) (su := su) nm sb hi hl it su_ r', h => by
    obtain ⟨A, hA, ek, _⟩ := id xr
    subst ek
    refine ⟨_, sb c A hA, fun hb a na => ?_, fun hb => ?_⟩
    · unfold catchM at h
      rw [if_pos hb] at h
      obtain ⟨A', hA', e2, rest⟩ := xr
      split at h
      · rename_i hlen
        let s1 : S5 := { s with σ := s.σ.set i (some (.ref a)), ρ := s.ρ.set i .exn, φ := fun j => if j = i then [] else s.φ j }
        have g1 : Goes tc s s1 [] := by
          refine ⟨Step.refl.drop fun y q => ?_, fun j hj => ?_, fun j hj => ?_⟩
          · rcases q with ⟨j, q⟩ | q
            · have q : y ∈ (if j = i then [] else s.φ j) := q
              split at q
              · cases q
              · exact ⟨j, q⟩
            · cases q
          · have hji : j ≠ i := fun e => hj (by rw [e]; exact it.1)
            exact ⟨List.getElem?_set_ne fun e => hji e.symm, if_neg hji, fun _ _ => rfl⟩
          · have hji : j ≠ i := fun e => hj (by rw [e]; exact it.2)
            exact List.getElem?_set_ne fun e => hji e.symm
        refine ⟨c, ks, xs, s.F, ⟨A', hA', e2, rest.imp id fun ⟨d, fs, vs, y1, y2, y3, y4, y5⟩ => ⟨d, fs, vs, y1, y2, y3.to, y4, y5⟩⟩, B, s1, rfl, rfl, r.into.exn rfl hlen, ?_⟩
        show Post _ _ (su c ks xs (s.ρ.set i .exn))
        cases eo : su c ks xs (s.ρ.set i .exn) with
        | bad => rw [eo] at h; exact h.elim
        | exc c' ks' xs' ρ' => rw [eo] at h; exact h.elim
        | ok fl ρ' =>
          rw [eo] at h
          unfold offE at h
          dsimp only at h
          split at h
          · rename_i hn
            have back : ∀ (s' : S5) {g : List Addr}, s'.ρ = ρ' → Rel ⟨X.K, G.C, s.F, some a⟩ s'.σ B s'.H s'.F s'.ρ s'.φ → Goes tc s1 s' g → (∀ y ∈ g, ¬ O s'.φ y) →
                ∃ s2 : S5, s2.σ = s'.σ.set i none ∧ s2.H = s'.H ∧ s2.F = s'.F ∧ s2.ρ = ρ'.set i .un ∧ Okk ⟨X.K, G.C, P, none⟩ B s2 ∧ Goes tb s0 s2 g ∧ ∀ y, O s2.φ y → O s'.φ y := fun s' g q1 q2 q3 q4 => by
              have z : Rel ⟨X.K, G.C, s.F, some a⟩ (s'.σ.set i none) B s'.H s'.F (s'.ρ.set i .un) (fun j => if j = i then [] else s'.φ j) := q2.giveup
              rw [q1] at z
              have hO : ∀ y, O (fun j => if j = i then [] else s'.φ j) y → O s'.φ y := fun y ⟨j, q⟩ => by
                dsimp only at q
                split at q
                · cases q
                · exact ⟨j, q⟩
              refine ⟨{ s' with σ := s'.σ.set i none, ρ := ρ'.set i .un, φ := fun j => if j = i then [] else s'.φ j }, rfl, rfl, rfl, rfl, z.outof (r.exP.trans q3.step.ext) hn, ?_, hO⟩
              have g2 : Goes tc s1 { s' with σ := s'.σ.set i none, ρ := ρ'.set i .un, φ := fun j => if j = i then [] else s'.φ j } g := by
                refine ⟨q3.step.drop fun y q => q.imp (hO y) id, fun j hj => ?_, fun j hj => ?_⟩
                · have hji : j ≠ i := fun e => hj (by rw [e]; exact it.1)
                  obtain ⟨b1, b2, b3⟩ := q3.fix j hj
                  rw [q1] at b1
                  exact ⟨(List.getElem?_set_ne fun e => hji e.symm).trans b1, (if_neg hji).trans b2, b3⟩
                · have hji : j ≠ i := fun e => hj (by rw [e]; exact it.2)
                  exact (List.getElem?_set_ne fun e => hji e.symm).trans (q3.sg j hj)
              exact ((a0.trans0 g1).trans0 g2).wk fun j z => by
                rcases List.mem_append.mp z with z | z
                · rcases List.mem_append.mp z with z | z
                  · exact z
                  · exact hsub j z
                · exact hsub j z
            cases fl with
            | nx =>
              intro s' q1 q2 q3
              obtain ⟨s2, w1, w2, w3, w4, w5, w6, _⟩ := back s' q1 q2 q3 fun _ h => (by cases h)
              have z := h s2 w4 w5 w6
              rw [w1, w2] at z
              exact z
            | bk =>
              intro s' q1 q2 q3
              obtain ⟨s2, w1, w2, w3, w4, w5, w6, _⟩ := back s' q1 q2 q3 fun _ h => (by cases h)
              have z := h s2 w4 w5 w6
              rw [w1, w2] at z
              exact z
            | ct =>
              intro s' q1 q2 q3
              obtain ⟨s2, w1, w2, w3, w4, w5, w6, _⟩ := back s' q1 q2 q3 fun _ h => (by cases h)
              have z := h s2 w4 w5 w6
              rw [w1, w2] at z
              exact z
            | rt d =>
              intro v s' g q1 q2 t q3
              obtain ⟨s2, w1, w2, w3, w4, w5, w6, w7⟩ := back s' q1 q2 q3 t.dj
              have t' : Tmp ⟨X.K, G.C, P, none⟩ B s2.H s2.F s2.φ d v g := ⟨by rw [w2, w3]; exact t.rep.to, t.nd, fun y hy => by rw [w3]; exact t.ap y hy, fun y hy q => t.dj y hy (w7 y q)⟩
              have z := h v s2 g w4 w5 t' w6
              rw [w2] at z
              exact z
          · exact h.elim
      · exact h.elim
    · unfold catchM at h
      rw [if_neg (by rw [hb]; exact Bool.false_ne_true)] at h
      exact catch_core hsub a0 r xr r' h
/-- try: .. except X as e: .. -/
theorem gs_try {body : List Stmt} {h0 : ExceptHandler} {hs : List ExceptHandler} {l : List Hd} {q : List Cla} {pos : Pos} {f : M Flw} {t1 : List Nat} (stk : X.stack = X.env :: X.outer) (frm0 : X.env.frame = some X.env.locals) (ndN : X.N.Nodup) (tk : Takes X W) (hX : G.X = none)
    (hb : ∀ (W' : WX) (pn : List (Addr × Obj)) (xe : Value → Shared → Prop), Takes (X.tr pn xe) W' → PassesOwn (model X.prog X.w) X.A X.env xe → GSs (X.tr pn xe) G W' t1 body f) (hh : HdG X G tc (h0 :: hs) l q) : GS X G W (t1 ++ tc) (.Try body (h0 :: hs) [] [] pos) (dTry f l) := by
  obtain ⟨GC, GP, GX⟩ := G
  cases hX
  refine ps_mono (ps_tryM (tb := fun W' => tDS ⟨X.K, GC, GP, none⟩ W' t1 f) stk frm0 ndN tk hb hh.hds) fun E σ H ⟨B, s, e1, e2, rl, hp⟩ => ?_
  subst e1 e2
  refine ⟨B, s, rfl, rfl, rl, ?_⟩
  have hp : Post (okS ⟨X.K, GC, GP, none⟩ B (t1 ++ tc) s E) (exS ⟨X.K, GC, GP, none⟩ W B (t1 ++ tc) s) (match f s.ρ with
    | .exc c ks xs ρ' => catchM c ks xs l ρ'
    | o => o) := hp
  cases ef : f s.ρ with
  | bad => rw [ef] at hp; exact hp
  | ok fl ρ => rw [ef] at hp; exact okS.wk (fun _ => memL) hp
  | exc c ks xs ρ =>
    rw [ef] at hp
    intro cls dd s' q1 r' xr a
    subst q1
    exact catch_core (X := X) (G := ⟨GC, GP, none⟩) (tb := t1 ++ tc) (fun j z => memR z) (a.wk fun _ => memL) r' xr hh hp
end
end Cs
namespace Cs
open PySem L2 Evl PyProof.Rows

/-! ## the __init__ of an own exception: each field its argument -/
/-- what stands behind: the object at a, its dict at dx with the fields fs -/
structure XEnd (a C dx : Addr) (fs : List (Str × V)) (H H' : Hp) : Prop where
  obj : H' a = some (exo a C (some dx))
  dic : H' dx = some (exd dx fs)
  oth : ∀ b, b ≠ a → b ≠ dx → H' b = H b
def spXP (K : PySem.W.Frag) (ks : List Str) : Sp := fun vs H Q _ => ∃ a C xs, vs = .ref a :: xs ∧ xs.length = ks.length ∧ OexC K C ∧ (∀ f ∈ ks, PySem.W.findIn K (.ref C) f = some none) ∧ H a = some (exo a C none) ∧
  ∀ dx H', H dx = none → XEnd a C dx ((ks.zip xs).reverse) H H' → Q .non H'
section
variable {X : Cx}
/-- the statements self.f = f, the arguments from slot n on -/
inductive InitS (X : Cx) : Nat → List Stmt → List Str → Prop
  | nil {n : Nat} : InitS X n [] []
  | cons {n : Nat} {st : Stmt} {f : Str} {r : List Stmt} {ks : List Str} (h : PS X st (tOst X.K f (tVar 0) (tVar n))) (t : InitS X (n + 1) r ks) : InitS X n (st :: r) (f :: ks)
theorem init_rest {a C : Addr} (T : OexC X.K C) : ∀ {n : Nat} {sts : List Stmt} {ks : List Str}, InitS X n sts ks → PSs X sts (fun D σ H => ∃ dx fs xs, σ[0]? = some (some (.ref a)) ∧ H a = some (exo a C (some dx)) ∧ H dx = some (exd dx fs) ∧ dx ≠ a ∧ fs.length + ks.length ≤ 900 ∧ (∀ f ∈ ks, PySem.W.findIn X.K (.ref C) f = some none) ∧ xs.length = ks.length ∧ (∀ (i : Nat) v, xs[i]? = some v → σ[n + i]? = some (some v)) ∧ ∀ H', XEnd a C dx ((ks.zip xs).reverse ++ fs) H H' → D.nx σ H')
  | _, _, _, .nil => pss_mono pss_nil fun D σ H ⟨dx, fs, xs, h0, h1, h2, hne, _, _, h3, _, hq⟩ => by
    obtain rfl : xs = [] := List.length_eq_zero_iff.mp h3
    exact hq H ⟨h1, h2, fun _ _ _ => rfl⟩
  | n, _, _, .cons (f := f) (ks := ks) h t => pss_mono (pss_cons h (init_rest T t)) fun D σ H ⟨dx, fs, xs, h0, h1, h2, hne, h9, hf, h3, h4, hq⟩ => by
    cases xs with
    | nil => cases h3
    | cons x xs =>
      refine ⟨x, h4 0 x rfl, .ref a, h0, a, C, rfl, T, hf f List.mem_cons_self, .inr ⟨dx, fs, h1, h2, by simp only [List.length_cons] at h9; omega, dx, (f, x) :: fs, xs, h0, ?_, upd_same, hne, ?_, fun g hg => hf g (List.mem_cons_of_mem _ hg), Nat.succ.inj h3, fun i v e => ?_, fun H' z => hq H' ⟨z.obj, ?_, fun b b1 b2 => ?_⟩⟩⟩
      · rw [upd_ne fun z => hne z.symm]; exact h1
      · simp only [List.length_cons] at h9 ⊢; omega
      · have z := h4 (i + 1) v e
        rw [← z]
        congr 1
        omega
      · have y := z.dic
        rw [List.zip_cons_cons, List.reverse_cons, List.append_assoc]
        exact y
      · rw [z.oth b b1 b2, upd_ne b2]
end
/-- THE RULE for such an __init__ -/
theorem fn_xinit {P : Program} {w : World} {K : PySem.W.Frag} {mg : Str → Option Value} {base : Heap} {x qual : Str} {st : Stmt} {f : Addr} {fd : FuncData} {ks : List Str}
    (F : Fun K x qual st f fd) (S : FnScope ("self" :: ks) ("self" :: ks) (defScope st)) (h9 : ks.length < 900) (h0 : ks ≠ [])
    (hd : ∀ (cdv : Value) (A : Around) (outer : List Env) (s : Shared) (H : Hp) (E : XK), InitS (cxOf CX0 P w K mg base ("self" :: ks) qual (defScope st) f cdv A outer s H E).nox 1 (defBody st) ks) :
    FnOk P w K mg base CX0 1 f fd ("self" :: ks) (spXP K ks) := by
  refine F.ok S (fun vs H Q E ⟨a, C, xs, e, hl, _⟩ => by rw [e, List.length_cons, List.length_cons, hl]) (fun cdv A outer s H vs Q E hr ⟨a, C, xs, e, hl, T, hf, ha, hq⟩ => ?_)
  subst e
  have I := hd cdv A outer s H E
  have hs : ∀ (i : Nat) v, xs[i]? = some v → (L2.start ("self" :: ks) (V.ref a :: xs))[1 + i]? = some (some v) := fun i v e => by
    unfold L2.start
    have hi : i < xs.length := by
      rcases Nat.lt_or_ge i xs.length with z | z
      · exact z
      · rw [List.getElem?_eq_none z] at e; cases e
    rw [List.getElem?_append_left (by rw [List.length_map, List.length_cons]; omega), List.getElem?_map, Nat.add_comm, List.getElem?_cons_succ, e]
    rfl
  cases ks with
  | nil => exact absurd rfl h0
  | cons g ks =>
    cases xs with
    | nil => cases hl
    | cons y xs =>
      revert I
      generalize defBody st = sts
      intro I
      cases I with
      | cons h t =>
        refine ⟨_, pss_cons h (init_rest (a := a) (C := C) (X := (cxOf CX0 P w K mg base ("self" :: g :: ks) qual (defScope st) f cdv A outer s H E).nox) T t), ?_⟩
        refine ⟨y, hs 0 y rfl, .ref a, rfl, a, C, rfl, T, hf g List.mem_cons_self, .inl ⟨ha, fun dx hdx hne => ⟨dx, [(g, y)], xs, rfl, upd_same, ?_, hne, ?_, fun z hz => hf z (List.mem_cons_of_mem _ hz), Nat.succ.inj hl, fun i v e => ?_, fun H' z => hq dx H' hdx ⟨z.obj, ?_, fun b b1 b2 => ?_⟩⟩⟩⟩
        · rw [upd_ne hne]; exact upd_same
        · simp only [List.length_cons, List.length_nil] at h9 ⊢; omega
        · have z := hs (i + 1) v e
          rw [← z]
          congr 1
          omega
        · have y := z.dic
          rw [List.zip_cons_cons, List.reverse_cons]
          exact y
        · rw [z.oth b b1 b2, upd_ne b1, upd_ne b2]

/-! ## raise -/
def dRaise (c : Str) (ks : List Str) (f : M (List D)) : M Flw := bnd f fun ds ρ => if ds.length = ks.length ∧ allFs noBo ds = true then .exc c ks (mapFs flFrz ds) ρ else .bad
theorem mapFs_len (g : Fl → Fl) : ∀ ds : List D, (mapFs g ds).length = ds.length
  | [] => rfl
  | d :: ds => by
    unfold mapFs
    rw [List.length_cons, List.length_cons, mapFs_len g ds]
theorem lookup_zip : ∀ {ks : List Str} {vs : List V} {i : Nat} {k : Str} {v : V}, ks.Nodup → ks[i]? = some k → vs[i]? = some v → (ks.zip vs).lookup k = some v
  | [], _, _, _, _, _, h, _ => by simp at h
  | _ :: _, [], _, _, _, _, _, h => by simp at h
  | a :: ks, b :: vs, 0, k, v, _, h1, h2 => by
    cases Option.some.inj h1
    cases Option.some.inj h2
    simp [List.lookup]
  | a :: ks, b :: vs, i + 1, k, v, hn, h1, h2 => by
    have h1 : ks[i]? = some k := h1
    have h2 : vs[i]? = some v := h2
    have hne : k ≠ a := fun e => (List.nodup_cons.mp hn).1 (by rw [← e]; exact List.mem_of_getElem? h1)
    have e : (k == a) = false := by simpa using hne
    rw [List.zip_cons_cons, List.lookup_cons, e]
    exact lookup_zip (List.nodup_cons.mp hn).2 h1 h2
theorem lookup_app {k : Str} : ∀ {l m : List (Str × V)}, (l ++ m).lookup k = (l.lookup k).or (m.lookup k)
  | [], m => by simp
  | (a, b) :: l, m => by
    rw [List.cons_append, List.lookup_cons, List.lookup_cons]
    cases e : k == a with
    | true => rfl
    | false => exact lookup_app
theorem lookup_rev : ∀ {ks : List Str} {vs : List V}, ks.length = vs.length → ks.Nodup → ∀ k, (ks.zip vs).reverse.lookup k = (ks.zip vs).lookup k
  | [], _, _, _, _ => rfl
  | _ :: _, [], h, _, _ => by cases h
  | a :: ks, b :: vs, h, hn, k => by
    rw [List.zip_cons_cons, List.reverse_cons, lookup_app, lookup_rev (Nat.succ.inj h) (List.nodup_cons.mp hn).2, List.lookup_cons, List.lookup_cons]
    cases e : k == a with
    | false => simp [List.lookup]
    | true =>
      have e : k = a := by simpa using e
      subst e
      have z : (ks.zip vs).lookup k = none := by
        rw [List.lookup_eq_none_iff]
        intro p hp
        have hm := (List.of_mem_zip hp).1
        have : k ≠ p.1 := fun e => (List.nodup_cons.mp hn).1 (by rw [e]; exact hm)
        simpa using this
      rw [z]
      rfl
section
variable {X : Cx} {G : Gx} {W : WX} {tc : List Nat} {e : Expr} {es : List Expr} {p pos pos2 : Pos}
theorem Reps.noB2 {T : Tx} {B B' H H' F : Hp} {ds : List D} {vs : List V} (h : Reps T B H F ds vs []) (hb : allFs noBo ds = true) : Reps T B' H' F ds vs [] :=
  (h.noB (B' := B') hb).mono (Ex.refl _) (Ex.refl _) fun _ z => by cases z
theorem Tmps.frz {T : Tx} {B H F : Hp} {φ : Nat → List Addr} {d : List D} {v : List V} {g : List Addr} (t : Tmps T B H F φ d v g) : Reps T B H (ovl H F g) (mapFs flFrz d) v [] := t.rep.frz (ovl_ex fun a h => (t.ap a h).1) fun a ha o e => by rw [ovl_in ha]; exact e
mutual
theorem noBo_frz : ∀ {d : D}, allF noBo d = true → allF noBo (mapF flFrz d) = true
  | .non, _ => rfl
  | .bl _, _ => rfl
  | .int _, _ => rfl
  | .str _, _ => rfl
  | .cls _, _ => rfl
  | .tup xs, h => by
    unfold mapF allF
    exact noBos_frz (allF_tup h)
  | .lst o xs, h => by
    have ⟨h1, h2⟩ := allF_lst h
    unfold mapF allF
    rw [noBos_frz h2, Bool.and_true]
    cases o <;> first | rfl | exact h1
  | .dct o ks xs, h => by
    have ⟨h1, h2⟩ := allF_dct h
    unfold mapF allF
    rw [noBos_frz h2, Bool.and_true]
    cases o <;> first | rfl | exact h1
  | .obj o c ks xs, h => by
    have ⟨h1, h2⟩ := allF_obj h
    unfold mapF allF
    rw [noBos_frz h2, Bool.and_true]
    cases o <;> first | rfl | exact h1
theorem noBos_frz : ∀ {d : List D}, allFs noBo d = true → allFs noBo (mapFs flFrz d) = true
  | [], _ => rfl
  | d :: ds, h => by
    have ⟨h1, h2⟩ := allFs_cons h
    unfold mapFs allFs
    rw [noBo_frz h1, noBos_frz h2]
    rfl
end
/-- raise C(a, ..), C an own exception class whose __init__ keeps its arguments -/
theorem gs_raise {c : Str} {ks : List Str} {C fI : Addr} {fd : FuncData} {f : M (List D)} (hc : X.calm = true) (tk : Takes X W) (hC : G.C c = some C) (T : OexC X.K C) (hf : ∀ f ∈ ks, PySem.W.findIn X.K (.ref C) f = some none) (iC : PySem.W.findIn X.K (.ref C) "__init__" = some (some (.ref fI))) (tI : PySem.W.typeIn X.K (.ref fI) = some (.type "function"))
    (F : FnOk X.prog X.w X.K X.mg X.base CX0 1 fI fd ("self" :: ks) (spXP X.K ks)) (hr : Room 2 X.A) (hb : L2.Binds X.K fd ("self" :: ks) []) (hg : Gl X c) (hm : X.mg c = some (.ref C)) (ha : GA X G W tc (e :: es) f) (hnd : ks.Nodup := by decide) (h9 : ks.length ≤ 900 := by decide)
    (hdb : (c == ("__debug__" : Str)) = false := by decide) (he : starEach (e :: es) X.env = (false, eval e X.env) :: starEach es X.env := by rfl) (hpl : (backTo pos (starEach es X.env)).any (·.1) = false := by rfl) :
    GS X G W tc (.Raise (some (.Call (.Name c p) (e :: es) [] pos)) none pos2) (dRaise c ks f) :=
  ps_mono (ps_raise hc tk (pmk_oex T iC tI F hr hb .nil pass0 hg hm ha hdb he hpl)) fun D σ H ⟨B, s, e1, e2, r, hp⟩ => by
    subst e1 e2
    refine ⟨B, s, rfl, rfl, r, ?_⟩
    have hp : Post (okS (tx X G) B tc s D) (exS (tx X G) W B tc s) (bnd f (fun ds ρ => if ds.length = ks.length ∧ allFs noBo ds = true then .exc c ks (mapFs flFrz ds) ρ else .bad) s.ρ) := hp
    refine hp.bnd.imp (fun ds ρ1 ⟨e, h⟩ vs s1 g e1 e2 r1 t a => ?_) fun _ _ _ _ h cls dd s' q1 q2 q3 q4 q5 => h cls dd s' q1 q3 q4 q5
    subst e1
    split at h
    · rename_i hh
      obtain ⟨hl, hnb⟩ := hh
      have hlv : vs.length = ks.length := by rw [← t.rep.len]; exact hl
      refine ⟨by omega, fun x hx => ?_⟩
      rw [List.append_nil]
      refine ⟨x, C, vs, rfl, hlv, T, hf, upd_same, fun dx H' hdx z => ⟨rfl, dx, _, z.obj, z.dic, ?_, ?_⟩⟩
      · by_cases q : dx = x
        · rw [q]; exact hx
        · rw [upd_ne q] at hdx; exact hdx
      · have hne : dx ≠ x := fun q => by
          rw [q, upd_same] at hdx; cases hdx
        have hdx1 : s1.H dx = none := by rw [upd_ne hne] at hdx; exact hdx
        have eH : upd (del H' x) dx (.xd ((ks.zip vs).reverse)) = upd s1.H dx (.xd ((ks.zip vs).reverse)) := by
          funext b
          by_cases q : b = dx
          · rw [q, upd_same, upd_same]
          · rw [upd_ne q, upd_ne q]
            unfold del
            by_cases q2 : b = x
            · rw [if_pos q2, q2, hx]
            · rw [if_neg q2, z.oth b q2 q, upd_ne q2]
        rw [eH]
        have r2 := (r1.ovl (g := g) (fun a q => (t.ap a q).1) t.dj).newF (p := dx) (o := .xd ((ks.zip vs).reverse)) hdx1
        have a2 : Goes tc s (s1.ovl g) [] := a.ovl fun a q => (t.ap a q).1
        let s3 : S5 := { s1 with H := upd s1.H dx (.xd ((ks.zip vs).reverse)), F := upd (ovl s1.H s1.F g) dx (.xd ((ks.zip vs).reverse)) }
        have a3 : Goes [] (s1.ovl g) s3 [] := by
          refine ⟨(Step.newF hdx1 (ovl_sub r1.exF)).or0, fun j _ => ⟨rfl, rfl, fun b hb => ?_⟩, fun _ _ => rfl⟩
          obtain ⟨o, eo⟩ := r1.dom ⟨j, hb⟩
          exact upd_ne (ne_of_none eo hdx1)
        have hFd : (ovl s1.H s1.F g) dx = none := by
          cases e : ovl s1.H s1.F g dx with
          | none => rfl
          | some u => rw [ovl_sub r1.exF dx u e] at hdx1; cases hdx1
        rw [← e2]
        refine h (.ref C) (some dx) s3 rfl r2 ⟨C, hC, rfl, .inr ⟨dx, _, vs, rfl, upd_same, ?_, hlv.symm, fun i k v h1 h2 => ?_⟩⟩ ((a2.trans0 a3).wk fun j z => (List.mem_append.mp z).elim id fun z => by cases z)
        · exact (t.frz.noB2 (H' := fun _ => none) (noBos_frz hnb)).mono (Ex.refl _) (Ex.new hFd) fun _ z => by cases z
        · rw [lookup_rev hlv.symm hnd]
          exact lookup_zip hnd h1 h2
    · exact h.elim
/-- e.f in an except suite, e what was caught -/
def dXf (i : Nat) (c0 c : Str) (k : Str) (ks : List Str) (xs : List D) : M D := fun ρ => match ρ[i]? with
  | some .exn => if c = c0 then match (ks.zip xs).lookup k with
    | some d => .ok d ρ
    | none => .bad
    else .bad
  | _ => .bad
theorem reps_lookup {T : Tx} {B H F : Hp} {k : Str} {fs : List (Str × V)} : ∀ {ks : List Str} {xs : List D} {vs : List V}, Reps T B H F xs vs [] → (∀ (i : Nat) k v, ks[i]? = some k → vs[i]? = some v → fs.lookup k = some v) → ∀ {d : D}, (ks.zip xs).lookup k = some d → ∃ v, fs.lookup k = some v ∧ Rep T B H F d v []
  | [], _, _, _, _, _, h => by simp at h
  | _ :: _, [], _, _, _, _, h => by simp at h
  | a :: ks, x :: xs, _, .cons (v := v) r rs e, hf, d, h => by
    obtain ⟨rfl, rfl⟩ := List.append_eq_nil_iff.mp e.symm
    rw [List.zip_cons_cons, List.lookup_cons] at h
    cases e : k == a with
    | true =>
      rw [e] at h
      cases h
      have e : k = a := by simpa using e
      subst e
      exact ⟨v, hf 0 k v rfl rfl, r⟩
    | false =>
      rw [e] at h
      exact reps_lookup rs (fun i k v h1 h2 => hf (i + 1) k v h1 h2) h
theorem g_xf {C : Str → Option Addr} {P : Hp} {a A : Addr} {ob : Obj} {k : Value} {d : Option Addr} {pn : List (Addr × Obj)} {c c0 n f : Str} {i : Nat} {ks : List Str} {xs : List D} {pos p : Pos} {W : WX} (hC : C c0 = some A) (T : XfC X.K A) (hno : PySem.W.findIn X.K (.ref A) f = some none) (hz : Zc k d ob) (hf : ∃ fs, ob.data = .fields fs) (xr : XRep ⟨X.K, C, P, some a⟩ P c ks xs k d)
    (hv : PE (X.suite a ((a, ob) :: pn)) (.Name n p) (tVar i)) (hat : attributeBase (.Name n p) f X.env (eval (.Name n p) X.env) = eval (.Name n p) X.env := by rfl) :
    GE (X.suite a ((a, ob) :: pn)) ⟨C, P, some a⟩ W [] (.Attribute (.Name n p) f pos) (dXf i c0 c f ks xs) :=
  pe_mono (pe_xf T hno hz hf hv hat) fun σ H Q ⟨B, s, e1, e2, r, hp⟩ => by
    subst e1 e2
    unfold dXf at hp
    split at hp
    · rename_i hi
      split at hp
      · rename_i hcc
        subst hcc
        split at hp
        · rename_i x hx
          obtain ⟨a', e1, e2⟩ := r.xn i hi
          cases e1
          obtain ⟨A', hA', ek, rest⟩ := xr
          have hA'' : C c = some A' := hA'
          rw [hC] at hA''
          cases hA''
          rcases rest with rest | ⟨dd, fs, vs, q1, q2, q3, q4, q5⟩
          · rw [rest] at hx; simp at hx
          · obtain ⟨v, hv, rv⟩ := reps_lookup q3 q5 hx
            refine ⟨.ref a, e2, rfl, ek, dd, fs, v, q1, r.exF dd _ (r.exP dd _ q2), hv, hp v s [] rfl rfl r (Tmp.flat ?_) Goes.refl⟩
            exact rv.mono (fun _ _ z => by cases z) r.exP fun _ z => by cases z
        · exact hp.elim
      · exact hp.elim
    · exact hp.elim
end
end Cs
namespace Cs
open PySem L2 Evl PyProof.Rows

/-! ## comprehensions -/
theorem wipe_in {σ : L2.St} : ∀ {vs : List Nat} {j : Nat}, j ∈ vs → j < σ.length → (wipe σ vs)[j]? = some none
  | i :: vs, j, h, hl => by
    show ((wipe σ vs).set i none)[j]? = _
    have hlen : ∀ vs : List Nat, (wipe σ vs).length = σ.length := fun vs => by
      induction vs with
      | nil => rfl
      | cons i vs ih => show ((wipe σ vs).set i none).length = _; rw [List.length_set, ih]
    by_cases e : i = j
    · subst e
      exact List.getElem?_set_self (by rw [hlen]; exact hl)
    · rw [List.getElem?_set_ne e]
      exact wipe_in ((List.mem_cons.mp h).resolve_left fun z => e z.symm) hl
theorem wipe_len {σ : L2.St} : ∀ {vs : List Nat}, (wipe σ vs).length = σ.length
  | [] => rfl
  | i :: vs => by show ((wipe σ vs).set i none).length = _; rw [List.length_set, wipe_len]
theorem wipe_out {σ : L2.St} : ∀ {vs : List Nat} {j : Nat}, j ∉ vs → (wipe σ vs)[j]? = σ[j]?
  | [], _, _ => rfl
  | i :: vs, j, h => by
    show ((wipe σ vs).set i none)[j]? = _
    rw [List.getElem?_set_ne fun z => h (by rw [z]; exact List.mem_cons_self)]
    exact wipe_out fun z => h (List.mem_cons_of_mem _ z)
theorem wipe_eq {σ τ : L2.St} {vs : List Nat} (hl : τ.length = σ.length) (h : ∀ j, j ∉ vs → τ[j]? = σ[j]?) : wipe τ vs = wipe σ vs := by
  apply List.ext_getElem?
  intro j
  by_cases e : j ∈ vs
  · by_cases hj : j < σ.length
    · rw [wipe_in e hj, wipe_in e (by rw [hl]; exact hj)]
    · rw [List.getElem?_eq_none (by rw [wipe_len]; omega), List.getElem?_eq_none (by rw [wipe_len]; omega)]
  · rw [wipe_out e, wipe_out e, h j e]
theorem wipe_wipe {σ : L2.St} {vs : List Nat} : wipe (wipe σ vs) vs = wipe σ vs := wipe_eq wipe_len fun j h => wipe_out h

def noOwAt (own : List Nat) (ρ : En) : Bool := own.all fun i => match ρ[i]? with
  | some (.dt d) => allF noOw d
  | _ => true
def rst (own : List Nat) (ρ0 ρ : En) : En := match own with
  | [] => ρ
  | i :: r => rst r ρ0 (match ρ0[i]? with
    | some x => ρ.set i x
    | none => ρ)
def lcL (tg : Tg) (own : List Nat) (cond : M Bool) (elt : M D) : List D → List D → En → Out (List D)
  | acc, [], ρ => .ok acc ρ
  | acc, d :: ds, ρ => match dTg tg d ρ with
    | .ok .nx ρ1 => (match cond ρ1 with
      | .ok true ρ2 => (match elt ρ2 with
        | .ok x ρ3 => if acc.length < lim then lcL tg own cond elt (acc ++ [x]) ds (fgt own ρ3) else .bad
        | _ => .bad)
      | .ok false ρ2 => lcL tg own cond elt acc ds (fgt own ρ2)
      | _ => .bad)
    | _ => .bad
def lcEnd (own : List Nat) (ρ0 : En) : Out (List D) → Out D
  | .ok xs ρ => .ok (.lst .ow xs) (rst own ρ0 ρ)
  | _ => .bad
def dLc (src : M (List D)) (tg : Tg) (own : List Nat) (cond : M Bool) (elt : M D) : M D := bnd src fun ds ρ =>
  if noOwAt own ρ = true then lcEnd own ρ (lcL tg own cond elt [] ds (fgt own ρ)) else .bad

section
variable {T : Tx} {B : Hp}
/-- a list in the making, at p -/
structure Acc (T : Tx) (B : Hp) (p : Addr) (s : S5) (xs : List D) (vs : List V) (g : List Addr) : Prop where
  t : Tmps T B s.H s.F s.φ xs vs g
  h : s.H p = some (.lst vs)
  pg : p ∉ g
  f : s.F p = none
  b : B p = none
  o : ¬ O s.φ p
theorem Acc.go {p : Addr} {s s1 : S5} {xs : List D} {vs : List V} {g g1 tc : List Nat} (c : Acc T B p s xs vs g) (a : Goes tc s s1 g1) : Acc T B p s1 xs vs g ∧ p ∉ g1 := by
  have hp : ∀ q : s.H p = none, False := fun q => by rw [c.h] at q; cases q
  refine ⟨⟨c.t.go a, a.step.keep p _ c.h c.o, c.pg, ?_, c.b, fun q => (a.step.on p (.inl q)).elim c.o hp⟩, fun q => (a.step.on p (.inr q)).elim c.o hp⟩
  cases e : s1.F p with
  | none => rfl
  | some u => exact ((a.step.fn p u e c.f).elim c.o hp).elim
theorem Acc.same {p : Addr} {s s1 : S5} {xs : List D} {vs : List V} {g : List Addr} (c : Acc T B p s xs vs g) (h1 : s1.H = s.H) (h2 : s1.F = s.F) (h3 : ∀ a, O s1.φ a → O s.φ a) : Acc T B p s1 xs vs g :=
  ⟨⟨by rw [h1, h2]; exact c.t.rep, c.t.nd, fun a ha => by rw [h2]; exact c.t.ap a ha, fun a ha q => c.t.dj a ha (h3 a q)⟩, by rw [h1]; exact c.h, c.pg, by rw [h2]; exact c.f, c.b, fun q => c.o (h3 p q)⟩
theorem Goes.poke {tc : List Nat} {s0 s : S5} {p : Addr} {o : HO} {g : List Addr} (r0 : Okk T B s0) (hp : s0.H p = none) (a : Goes tc s0 s g) : Goes tc s0 { s with H := upd s.H p o } g :=
  ⟨⟨fun b u e n => (upd_ne (ne_of_none e hp)).trans (a.step.keep b u e n), a.step.ext, a.step.fn, a.step.on⟩, fun j hj => by
    obtain ⟨x1, x2, x3⟩ := a.fix j hj
    refine ⟨x1, x2, fun b hb => ?_⟩
    obtain ⟨u, e⟩ := r0.dom ⟨j, hb⟩
    exact (upd_ne (ne_of_none e hp)).trans (x3 b hb), a.sg⟩
theorem Rel.poke {σ : L2.St} {H F : Hp} {ρ : En} {φ : Nat → List Addr} {p : Addr} {o : HO} (r : Rel T σ B H F ρ φ) (hF : F p = none) (hB : B p = none) (ho : ¬ O φ p) : Rel T σ B (upd H p o) F ρ φ := by
  refine ⟨r.len, fun a u e => ?_, fun a u e => ?_, r.exP, fun i d q => ?_, r.xn, r.em, r.nd, r.dj, r.ap⟩
  · rw [upd_ne fun z => by rw [z, hB] at e; cases e]; exact r.exB a u e
  · rw [upd_ne fun z => by rw [z, hF] at e; cases e]; exact r.exF a u e
  · obtain ⟨v, e, rp⟩ := r.sl i d q
    exact ⟨v, e, rp.mono (Ex.refl B) (Ex.refl F) fun a ha o' e' => by rw [upd_ne fun z => ho ⟨i, by rw [← z]; exact ha⟩]; exact e'⟩
/-- one more item -/
theorem Acc.push {p : Addr} {s s1 : S5} {xs : List D} {vs : List V} {g g1 tc : List Nat} {d : D} {v : V} (c : Acc T B p s xs vs g) (a : Goes tc s s1 g1) (t : Tmp T B s1.H s1.F s1.φ d v g1) : Acc T B p { s1 with H := upd s1.H p (.lst (vs ++ [v])) } (xs ++ [d]) (vs ++ [v]) (g ++ g1) := by
  obtain ⟨c1, hp1⟩ := c.go a
  have hH : ∀ b, b ≠ p → upd s1.H p (.lst (vs ++ [v])) b = s1.H b := fun b hb => upd_ne hb
  refine ⟨⟨?_, List.nodup_append.mpr ⟨c1.t.nd, t.nd, fun x hx y hy e => ?_⟩, fun b hb => ?_, fun b hb => ?_⟩, upd_same, fun q => (List.mem_append.mp q).elim c1.pg hp1, c1.f, c1.b, c1.o⟩
  · have h1 : Reps T B (upd s1.H p (.lst (vs ++ [v]))) s1.F xs vs g := c1.t.rep.mono (Ex.refl B) (Ex.refl _) fun b hb o e => by rw [hH b fun z => c1.pg (by rw [← z]; exact hb)]; exact e
    have h2 : Rep T B (upd s1.H p (.lst (vs ++ [v]))) s1.F d v g1 := t.rep.mono (Ex.refl B) (Ex.refl _) fun b hb o e => by rw [hH b fun z => hp1 (by rw [← z]; exact hb)]; exact e
    exact h1.snoc h2
  · subst e
    rcases a.step.on x (.inr hy) with z | z
    · exact c.t.dj x hx z
    · obtain ⟨o, e⟩ := c.t.rep.dom x hx
      rw [e] at z; cases z
  · exact (List.mem_append.mp hb).elim (c1.t.ap b) (t.ap b)
  · exact (List.mem_append.mp hb).elim (c1.t.dj b) (t.dj b)
theorem fgt_get : ∀ {is : List Nat} {ρ : En} {j : Nat}, j ∉ is → (fgt is ρ)[j]? = ρ[j]?
  | [], _, _, _ => rfl
  | i :: is, ρ, j, h => by
    show (fgt is (ρ.set i .un))[j]? = _
    rw [fgt_get fun z => h (List.mem_cons_of_mem _ z), List.getElem?_set_ne fun z => h (by rw [z]; exact List.mem_cons_self)]
theorem fgt_len : ∀ {is : List Nat} {ρ : En}, (fgt is ρ).length = ρ.length
  | [], _ => rfl
  | i :: is, ρ => by
    show (fgt is (ρ.set i .un)).length = _
    rw [fgt_len, List.length_set]
theorem fgt_un : ∀ {is : List Nat} {ρ : En} {j : Nat}, (j ∈ is ∨ ρ[j]? = some .un) → ∀ x, (fgt is ρ)[j]? = some x → x = .un
  | [], ρ, j, h, x, e => by
    rcases h with h | h
    · cases h
    · have e : ρ[j]? = some x := e
      rw [h] at e; cases e; rfl
  | i :: is, ρ, j, h, x, e => by
    have e : (fgt is (ρ.set i .un))[j]? = some x := e
    by_cases z : j = i
    · subst z
      by_cases hl : j < ρ.length
      · exact fgt_un (.inr (List.getElem?_set_self hl)) x e
      · rw [List.getElem?_eq_none (by rw [fgt_len, List.length_set]; omega)] at e; cases e
    · refine fgt_un ?_ x e
      rcases h with h | h
      · exact .inl ((List.mem_cons.mp h).resolve_left z)
      · exact .inr (by rw [List.getElem?_set_ne fun q => z q.symm]; exact h)
/-- slots that hold nothing may hold anything in the frame -/
theorem Rel.sig {σ τ : L2.St} {H F : Hp} {ρ : En} {φ : Nat → List Addr} {own : List Nat} (r : Rel T σ B H F ρ φ) (hl : τ.length = σ.length) (ho : ∀ j ∈ own, ∀ x, ρ[j]? = some x → x = .un) (h : ∀ j, j ∉ own → τ[j]? = σ[j]?) : Rel T τ B H F ρ φ := by
  refine ⟨r.len.trans hl.symm, r.exB, r.exF, r.exP, fun i d q => ?_, fun i q => ?_, r.em, r.nd, r.dj, r.ap⟩
  · have hi : i ∉ own := fun z => by cases ho i z _ q
    obtain ⟨v, e, rp⟩ := r.sl i d q
    exact ⟨v, by rw [h i hi]; exact e, rp⟩
  · have hi : i ∉ own := fun z => by cases ho i z _ q
    obtain ⟨a, e1, e2⟩ := r.xn i q
    exact ⟨a, e1, by rw [h i hi]; exact e2⟩
/-- from the outer state to a turn's start -/
theorem into_own {s : S5} {own : List Nat} (r : Okk T B s) : ∃ s1 : S5, s1.ρ = fgt own s.ρ ∧ s1.σ = wipe s.σ own ∧ s1.H = s.H ∧ s1.F = s.F ∧ Okk T B s1 ∧ (∀ j, j ∉ own → s1.φ j = s.φ j) ∧ ∀ a, O s1.φ a → O s.φ a := by
  obtain ⟨s2, h1, h2, h3, h4, h5, h6⟩ := fgt_core (is := own) r
  refine ⟨{ s2 with σ := wipe s.σ own }, h1, rfl, h3, h4, ?_, fun j hj => (h6.fix j hj).2.1, fun a q => ?_⟩
  · refine Rel.sig (own := own) h5 (by rw [wipe_len, h2]) (fun j hj x e => ?_) fun j hj => by rw [wipe_out hj, h2]
    rw [h1] at e
    exact fgt_un (.inl hj) x e
  · rcases h6.step.on a (.inl q) with z | z
    · exact z
    · obtain ⟨o, e⟩ := h5.dom q
      rw [h3] at e
      rw [e] at z; cases z
theorem rst_len {ρ0 : En} : ∀ {own : List Nat} {ρ : En}, (rst own ρ0 ρ).length = ρ.length
  | [], _ => rfl
  | i :: r, ρ => by
    unfold rst
    rw [rst_len]
    split
    · rw [List.length_set]
    · rfl
theorem rst_out {ρ0 : En} : ∀ {own : List Nat} {ρ : En} {j : Nat}, (j ∉ own ∨ ρ[j]? = ρ0[j]?) → (rst own ρ0 ρ)[j]? = if j ∈ own then ρ0[j]? else ρ[j]?
  | [], ρ, j, _ => by rw [if_neg (fun z => by cases z)]; rfl
  | i :: r, ρ, j, h => by
    unfold rst
    by_cases e : j = i
    · subst e
      rcases h with h | h
      · exact absurd List.mem_cons_self h
      · rw [if_pos List.mem_cons_self]
        have z : (match ρ0[j]? with | some x => ρ.set j x | none => ρ)[j]? = ρ0[j]? := by
          split
          · rename_i x hx
            by_cases hl : j < ρ.length
            · rw [List.getElem?_set_self hl, hx]
            · rw [List.getElem?_eq_none (by omega)] at h
              rw [← h] at hx; cases hx
          · exact h
        rw [rst_out (.inr z), z]
        split <;> rfl
    · have z : (match ρ0[i]? with | some x => ρ.set i x | none => ρ)[j]? = ρ[j]? := by
        split
        · exact List.getElem?_set_ne fun q => e q.symm
        · rfl
      have hm : j ∈ i :: r ↔ j ∈ r := ⟨fun q => (List.mem_cons.mp q).resolve_left e, List.mem_cons_of_mem _⟩
      rw [rst_out (h.imp (fun q p => q (hm.mpr p)) fun q => z.trans q), z]
      by_cases q : j ∈ r
      · rw [if_pos q, if_pos (hm.mpr q)]
      · rw [if_neg q, if_neg fun p => q (hm.mp p)]
theorem rst_in {ρ0 : En} : ∀ {own : List Nat} {ρ : En} {j : Nat}, ρ.length = ρ0.length → j ∈ own → (rst own ρ0 ρ)[j]? = ρ0[j]?
  | i :: r, ρ, j, hl, h => by
    unfold rst
    have hl2 : (match ρ0[i]? with | some x => ρ.set i x | none => ρ).length = ρ0.length := by
      split
      · rw [List.length_set]; exact hl
      · exact hl
    by_cases q : j ∈ r
    · exact rst_in hl2 q
    · have e : j = i := (List.mem_cons.mp h).resolve_right q
      subst e
      rw [rst_out (.inl q), if_neg q]
      split
      · rename_i x hx
        have hj : j < ρ0.length := by
          rcases Nat.lt_or_ge j ρ0.length with z | z
          · exact z
          · rw [List.getElem?_eq_none z] at hx; cases hx
        rw [List.getElem?_set_self (by omega), hx]
      · rename_i hx
        rw [hx, List.getElem?_eq_none]
        rw [List.getElem?_eq_none_iff] at hx
        omega
theorem rst_no {ρ0 : En} {own : List Nat} {ρ : En} {j : Nat} (h : j ∉ own) : (rst own ρ0 ρ)[j]? = ρ[j]? := by
  rw [rst_out (.inl h), if_neg h]
/-- back: the outer slots stand again -/
theorem outof_own {s0 s : S5} {own tc to : List Nat} {g : List Addr} (r0 : Okk T B s0) (hn : noOwAt own s0.ρ = true) (r : Okk T B s) (hσ : ∀ j, j ∉ own → s.σ[j]? = s0.σ[j]?) (hu : ∀ j ∈ own, ∀ x, s.ρ[j]? = some x → x = .un) (hlen : s.ρ.length = s0.ρ.length)
    (st : Step s0.H s0.F (O s0.φ) s.H s.F (Or2 (O s.φ) g)) (fx : ∀ j, j ∉ tc → j ∉ own → s.ρ[j]? = s0.ρ[j]? ∧ s.φ j = s0.φ j ∧ ∀ a ∈ s0.φ j, s.H a = s0.H a) (hsub : ∀ j ∈ tc, j ∈ to ∨ j ∈ own) :
    ∃ s1 : S5, s1.ρ = rst own s0.ρ s.ρ ∧ s1.σ = s0.σ ∧ s1.H = s.H ∧ s1.F = s.F ∧ s1.φ = s.φ ∧ Okk T B s1 ∧ Goes to s0 s1 g := by
  have hφ : ∀ j ∈ own, s.φ j = [] := fun j hj => r.em j fun d q => by cases hu j hj _ q
  have hφ0 : ∀ j ∈ own, s0.φ j = [] := fun j hj => by
    by_cases q : ∃ d, s0.ρ[j]? = some (.dt d)
    · obtain ⟨d, q⟩ := q
      obtain ⟨v, _, rp⟩ := r0.sl j d q
      have z := List.all_eq_true.mp hn j hj
      rw [q] at z
      exact rp.noO z
    · exact r0.em j fun d z => q ⟨d, z⟩
  refine ⟨{ s with σ := s0.σ, ρ := rst own s0.ρ s.ρ }, rfl, rfl, rfl, rfl, rfl, ?_, st, fun j hj => ?_, fun _ _ => rfl⟩
  · refine ⟨by rw [rst_len, hlen]; exact r0.len, r.exB, r.exF, r.exP, fun j d q => ?_, fun j q => ?_, fun j q => ?_, r.nd, r.dj, r.ap⟩
    · by_cases hj : j ∈ own
      · rw [rst_in hlen hj] at q
        obtain ⟨v, e, rp⟩ := r0.sl j d q
        refine ⟨v, e, ?_⟩
        rw [hφ0 j hj] at rp
        rw [show s.φ j = [] from hφ j hj]
        exact rp.mono (Ex.refl B) st.ext fun _ z => by cases z
      · rw [rst_no hj] at q
        obtain ⟨v, e, rp⟩ := r.sl j d q
        exact ⟨v, by rw [← hσ j hj]; exact e, rp⟩
    · by_cases hj : j ∈ own
      · rw [rst_in hlen hj] at q
        exact r0.xn j q
      · rw [rst_no hj] at q
        obtain ⟨a, e1, e2⟩ := r.xn j q
        exact ⟨a, e1, by rw [← hσ j hj]; exact e2⟩
    · by_cases hj : j ∈ own
      · exact hφ j hj
      · refine r.em j fun d z => q d ?_
        rw [rst_no hj]
        exact z
  · by_cases ho : j ∈ own
    · refine ⟨rst_in hlen ho, ?_, fun a ha => ?_⟩
      · show s.φ j = s0.φ j
        rw [hφ j ho, hφ0 j ho]
      · rw [hφ0 j ho] at ha; cases ha
    · obtain ⟨x1, x2, x3⟩ := fx j (fun z => (hsub j z).elim hj ho) ho
      exact ⟨by show (rst own s0.ρ s.ρ)[j]? = _; rw [rst_no ho]; exact x1, x2, x3⟩
/-- within: from the outer state s0, the cells g in the air -/
structure In (own tc : List Nat) (s0 s : S5) (g : List Addr) : Prop where
  st : Step s0.H s0.F (O s0.φ) s.H s.F (Or2 (O s.φ) g)
  fx : ∀ j, j ∉ tc → j ∉ own → s.ρ[j]? = s0.ρ[j]? ∧ s.φ j = s0.φ j ∧ ∀ a ∈ s0.φ j, s.H a = s0.H a
  sg : ∀ j, j ∉ own → s.σ[j]? = s0.σ[j]?
variable {own tc : List Nat}
theorem In.go {s0 s s1 : S5} {g g1 t : List Addr} (i : In own tc s0 s g) (a : Goes t s s1 g1) (ht : ∀ j ∈ t, j ∈ tc) (hs : ∀ j, j ∉ own → s1.σ[j]? = s.σ[j]?) : In own tc s0 s1 (g1 ++ g) :=
  ⟨i.st.two a.step, fun j h1 h2 => by
    obtain ⟨x1, x2, x3⟩ := i.fx j h1 h2
    obtain ⟨y1, y2, y3⟩ := a.fix j fun z => h1 (ht j z)
    exact ⟨y1.trans x1, y2.trans x2, fun b hb => (y3 b (by rw [x2]; exact hb)).trans (x3 b hb)⟩, fun j h => (hs j h).trans (i.sg j h)⟩
theorem In.less {s0 s : S5} {g g1 : List Addr} (i : In own tc s0 s g) (h : ∀ a ∈ g1, a ∈ g) : In own tc s0 s g1 := ⟨i.st.drop fun a q => q.imp id (h a), i.fx, i.sg⟩
theorem In.poke {s0 s : S5} {g : List Addr} {p : Addr} {o : HO} (r0 : Okk T B s0) (hp : s0.H p = none) (i : In own tc s0 s g) : In own tc s0 { s with H := upd s.H p o } g :=
  ⟨⟨fun b u e n => (upd_ne (ne_of_none e hp)).trans (i.st.keep b u e n), i.st.ext, i.st.fn, i.st.on⟩, fun j h1 h2 => by
    obtain ⟨x1, x2, x3⟩ := i.fx j h1 h2
    refine ⟨x1, x2, fun b hb => ?_⟩
    obtain ⟨u, e⟩ := r0.dom ⟨j, hb⟩
    exact (upd_ne (ne_of_none e hp)).trans (x3 b hb), i.sg⟩
/-- a turn's end -/
theorem In.next {s0 s : S5} {g : List Addr} (r : Okk T B s) (i : In own tc s0 s g) (hl : s.σ.length = s0.σ.length) : ∃ s1 : S5, s1.ρ = fgt own s.ρ ∧ s1.σ = wipe s0.σ own ∧ s1.H = s.H ∧ s1.F = s.F ∧ Okk T B s1 ∧ In own tc s0 s1 g ∧ ∀ a, O s1.φ a → O s.φ a := by
  obtain ⟨s1, h1, h2, h3, h4, h5, h6, h7⟩ := into_own (own := own) r
  have hw : wipe s.σ own = wipe s0.σ own := wipe_eq hl i.sg
  refine ⟨s1, h1, h2.trans hw, h3, h4, h5, ⟨?_, fun j q1 q2 => ?_, fun j q => ?_⟩, h7⟩
  · rw [h3, h4]
    exact i.st.drop fun a q => q.imp (h7 a) id
  · obtain ⟨x1, x2, x3⟩ := i.fx j q1 q2
    rw [h1, fgt_get q2, h3, h6 j q2]
    exact ⟨x1, x2, x3⟩
  · rw [h2, wipe_out q]
    exact i.sg j q
end
abbrev GTs (X : Cx) (G : Gx) (W : WX) (tc : List Nat) (e : List Expr) (f : M Bool) : Prop := PTs X e (tDT (tx X G) W tc f)
def dYes : M Bool := ret true
section
variable {X : Cx} {G : Gx} {W : WX} {tc : List Nat} {e : Expr}
theorem gts_nil : GTs X G W [] [] dYes := ⟨fun pins s σ H Q I h => pts_nil.run pins s σ H Q I (by
  obtain ⟨B, s, e1, e2, r, h⟩ := h
  subst e1 e2
  exact h s rfl rfl r Goes.refl)⟩
theorem gts_one {f : M Bool} (h : GT X G W tc e f) : GTs X G W tc [e] f := pts_one h
end
theorem Step.drop2 {H F H1 F1 : Hp} {O1 O2 O3 : Addr → Prop} (s : Step H F O1 H1 F1 O2) (h : ∀ a, O3 a → O2 a ∨ H a = none) : Step H F O1 H1 F1 O3 := ⟨s.keep, s.ext, s.fn, fun a q => (h a q).elim (s.on a) .inr⟩
theorem dPuts_len : ∀ {js : List Nat} {ds : List D} {ρ ρ2 : En} {fl : Flw}, dPuts js ds ρ = .ok fl ρ2 → ρ2.length = ρ.length
  | [], [], _, _, _, h => by cases h; rfl
  | j :: js, d :: ds, ρ, ρ2, fl, h => by
    unfold dPuts at h
    split at h
    · rw [dPuts_len h, List.length_set]
    · cases h
  | [], _ :: _, _, _, _, h => by cases h
  | _ :: _, [], _, _, _, h => by cases h
theorem dTg_len {tg : Tg} {d : D} {ρ ρ2 : En} {fl : Flw} (h : dTg tg d ρ = .ok fl ρ2) : ρ2.length = ρ.length := by
  cases tg with
  | one j => exact dPuts_len h
  | tup js =>
    cases d with
    | tup ds => exact dPuts_len h
    | _ => cases h
abbrev W0 : WX := fun _ _ _ _ => False
section
variable {T : Tx} {W : WX} {t1 tt te to own : List Nat} {src : M (List D)} {cond : M Bool} {elt : M D} {tg : Tg}
theorem tgs_sg {s s2 : S5} {g : List Addr} (a : Goes tg.tc s s2 g) (h : ∀ x ∈ tg.tc, 1000 ≤ x → x - 1000 ∈ own) : ∀ j, j ∉ own → s2.σ[j]? = s.σ[j]? := fun j hj => a.sg j fun z => hj (by
  have y := h (j + 1000) z (by omega)
  rwa [Nat.add_sub_cancel] at y)
theorem cmp_core {σ : L2.St} {H : Hp} {Q : VK} (htg : ∀ x ∈ tg.tc, 1000 ≤ x → x - 1000 ∈ own) (hsub : ∀ j ∈ tg.tc ++ (tt ++ te), j ∈ to ∨ j ∈ own) (h : tD T W (t1 ++ to) (dLc src tg own cond elt) σ H Q) :
    tLc (tDI T W t1 src) (tgR T.K tg) (tDT T W0 tt cond) (tD T W0 te elt) own σ H Q := by
  obtain ⟨B, sb, e1, e2, rb, hp⟩ := h
  subst e1 e2
  have hp : Post (okE T B (t1 ++ to) sb Q) (exE T W B (t1 ++ to) sb) (bnd src (fun ds ρ => if noOwAt own ρ = true then lcEnd own ρ (lcL tg own cond elt [] ds (fgt own ρ)) else .bad) sb.ρ) := hp
  refine ⟨B, sb, rfl, rfl, rb, hp.bnd.imp (fun ds ρ1 ⟨_, h⟩ J n Gd Y s0 q1 q2 r0 a0 sr p hp0 => ?_) fun _ _ _ _ h cls dd s' x1 x2 x3 x4 x5 => h cls dd s' x1 x2 x3 x4 (x5.wk fun _ => memL)⟩
  subst q1
  split at h
  case isFalse => exact h.elim
  rename_i hno
  rw [← q2]
  let Pv : Nat → Hp → Prop := fun k H => ∃ s acc vs g, s.H = H ∧ s.σ = wipe s0.σ own ∧ Okk T B s ∧ Acc T B p s acc vs g ∧ In own (tg.tc ++ (tt ++ te)) s0 s (p :: g) ∧ (∀ j ∈ own, ∀ x, s.ρ[j]? = some x → x = .un) ∧ s.σ.length = s0.σ.length ∧
    Post (okE T B (t1 ++ to) sb Q) (exE T W B (t1 ++ to) sb) (lcEnd own s0.ρ (lcL tg own cond elt acc (ds.drop k) s.ρ))
  refine lc_it sr.w Pv ?_ (fun k H _ hk => ?_) (fun k x H H' hk hP y => ?_) (fun H hP => ?_)
  · -- the start
    obtain ⟨s1, h1, h2, h3, h4, h5, h6, h7⟩ := into_own (own := own) r0
    refine ⟨{ s1 with H := upd s1.H p (.lst []) }, [], [], [], by show upd s1.H p _ = _; rw [h3], h2, ?_, ⟨⟨.nil, .nil, fun _ z => (by cases z), fun _ z => (by cases z)⟩, upd_same, fun z => (by cases z), ?_, ?_, ?_⟩, ⟨?_, fun j q1 q2 => ?_, fun j q => ?_⟩, fun j hj x e => ?_, ?_, ?_⟩
    · exact h5.new (by rw [h3]; exact hp0)
    · show s1.F p = none
      rw [h4]; exact r0.freeF hp0
    · exact r0.freeB hp0
    · exact fun q => r0.freeO hp0 (h7 _ q)
    · show Step s0.H s0.F (O s0.φ) (upd s1.H p _) s1.F _
      rw [h3, h4]
      refine (Step.new hp0).drop2 fun a q => ?_
      rcases q with q | q
      · exact .inl (h7 a q)
      · rw [List.mem_singleton.mp q]; exact .inr hp0
    · refine ⟨?_, h6 j q2, fun b hb => ?_⟩
      · show s1.ρ[j]? = _
        rw [h1, fgt_get q2]
      · obtain ⟨u, e⟩ := r0.dom ⟨j, hb⟩
        show upd s1.H p _ b = _
        rw [upd_ne (ne_of_none e hp0), h3]
    · show s1.σ[j]? = _
      rw [h2, wipe_out q]
    · have e : s1.ρ[j]? = some x := e
      rw [h1] at e
      exact fgt_un (.inl hj) x e
    · show s1.σ.length = _
      rw [h2, wipe_len]
    · show Post _ _ (lcEnd own s0.ρ (lcL tg own cond elt [] (ds.drop 0) s1.ρ))
      rw [h1]
      exact h
  · obtain ⟨s, acc, vs, g, x1, x2, x3, x4, x5, x6, x7, x8⟩ := hk
    rw [← x1]
    exact sr.g s x3 x5.st.ext
  · obtain ⟨s, acc, vs, g, x1, x2, x3, x4, x5, x6, x7, x8⟩ := hP
    subst x1
    obtain ⟨d, s3, y1, y2, y3, y4, y5, y6, y7⟩ := sr.y k x H' s hk x3 x5.st.ext y
    subst y2
    have hd : ds.drop k = d :: ds.drop (k + 1) := by
      obtain ⟨hl, e⟩ := List.getElem?_eq_some_iff.mp y1
      rw [← e]
      exact List.drop_eq_getElem_cons hl
    rw [hd] at x8
    unfold lcL at x8
    rw [← y4] at x8
    have c3 := (x4.go y6).1
    have i3 : In own (tg.tc ++ (tt ++ te)) s0 s3 (p :: g) := x5.go y6 (fun _ z => by cases z) fun j _ => by rw [y3]
    cases et : dTg tg d s3.ρ with
    | bad => rw [et] at x8; exact x8.elim
    | exc c ks xs ρ => rw [et] at x8; exact x8.elim
    | ok fl ρ2 =>
      rw [et] at x8
      cases fl with
      | bk => exact x8.elim
      | ct => exact x8.elim
      | rt r => exact x8.elim
      | nx =>
        dsimp only at x8
        rw [← x2, ← y3]
        refine tg_core (T := T) y5 y7 et fun s4 z1 z2 z3 z4 z5 => ?_
        have hsg4 := tgs_sg z5 htg
        have c4 := (c3.go z5).1
        have i4 : In own (tg.tc ++ (tt ++ te)) s0 s4 (p :: g) := i3.go z5 (fun j z => memL z) hsg4
        have hl4 : s4.σ.length = s3.σ.length := by rw [← z4.len, ← y5.len, z1]; exact dTg_len et
        have hl40 : s4.σ.length = s0.σ.length := by rw [hl4, y3, x7]
        refine ⟨(wipe_eq hl4 hsg4).trans (by rw [y3, x2, wipe_wipe]), ?_⟩
        subst z1
        refine ⟨B, s4, rfl, rfl, z4, ?_⟩
        cases ec : cond s4.ρ with
        | bad => rw [ec] at x8; exact x8.elim
        | exc c ks xs ρ => rw [ec] at x8; exact x8.elim
        | ok b ρ5 =>
          rw [ec] at x8
          intro s5 w1 w2 w3 w4
          subst w1
          have c5 := (c4.go w4).1
          have i5 : In own (tg.tc ++ (tt ++ te)) s0 s5 (p :: g) := i4.go w4 (fun j z => memR (memL z)) fun j _ => by rw [w2]
          cases b with
          | false =>
            rw [if_neg Bool.false_ne_true]
            obtain ⟨s6, v1, v2, v3, v4, v5, v6, v7⟩ := i5.next w3 (by rw [w2, hl40])
            exact ⟨s6, acc, vs, g, v3, v2, v5, c5.same v3 v4 v7, v6, fun j hj x e => fgt_un (.inl hj) x (by rw [← v1]; exact e), by rw [v2, wipe_len], by rw [v1]; exact x8⟩
          | true =>
            rw [if_pos rfl, ← w2]
            refine ⟨B, s5, rfl, rfl, w3, ?_⟩
            dsimp only at x8
            cases ee : elt s5.ρ with
            | bad => rw [ee] at x8; exact x8.elim
            | exc c ks xs ρ => rw [ee] at x8; exact x8.elim
            | ok d6 ρ6 =>
              rw [ee] at x8
              intro v6 s6 g6 u1 u2 u3 u4 u5
              subst u1
              dsimp only at x8
              split at x8
              case isFalse => exact x8.elim
              rename_i hlim
              have c6 := c5.go u5
              refine ⟨vs, c6.1.h, ?_, ?_⟩
              · have z := c5.t.rep.len
                rw [← z, sizeLine_eq]
                unfold lim at hlim
                omega
              · let s7 : S5 := { s6 with H := upd s6.H p (.lst (vs ++ [v6])) }
                have c7 : Acc T B p s7 (acc ++ [d6]) (vs ++ [v6]) (g ++ g6) := c5.push u5 u4
                have r7 : Okk T B s7 := u3.poke c6.1.f c6.1.b c6.1.o
                have i6 : In own (tg.tc ++ (tt ++ te)) s0 s6 (g6 ++ (p :: g)) := i5.go u5 (fun j z => memR (memR z)) fun j _ => by rw [u2]
                have i7 : In own (tg.tc ++ (tt ++ te)) s0 s7 (p :: (g ++ g6)) := (i6.poke (p := p) (o := .lst (vs ++ [v6])) r0 hp0).less fun a ha => by
                  rcases List.mem_cons.mp ha with z | z
                  · rw [z]; exact memR List.mem_cons_self
                  · rcases List.mem_append.mp z with z | z
                    · exact memR (List.mem_cons_of_mem _ z)
                    · exact memL z
                obtain ⟨s8, v1, v2, v3, v4, v5, v6', v7⟩ := i7.next r7 (by show s6.σ.length = _; rw [u2, w2, hl40])
                exact ⟨s8, acc ++ [d6], _, _, v3, v2, v5, c7.same v3 v4 v7, v6', fun j hj x e => fgt_un (.inl hj) x (by rw [← v1]; exact e), by rw [v2, wipe_len], by rw [v1]; exact x8⟩
  · obtain ⟨s, acc, vs, g, x1, x2, x3, x4, x5, x6, x7, x8⟩ := hP
    subst x1
    rw [← sr.len, List.drop_length] at x8
    unfold lcL lcEnd at x8
    obtain ⟨s1, h1, h2, h3, h4, h5, h6, h7⟩ := outof_own (own := own) r0 hno x3 x5.sg x6 (by rw [x3.len, x7, r0.len]) x5.st x5.fx hsub
    have t1 : Tmp T B s1.H s1.F s1.φ (.lst .ow acc) (.ref p) (p :: g) := by
      rw [h3, h4, h5]
      exact ⟨.lstO x4.h x4.t.rep rfl, List.nodup_cons.mpr ⟨x4.pg, x4.t.nd⟩, fun a ha => by
        rcases List.mem_cons.mp ha with z | z
        · rw [z]; exact ⟨x4.f, x4.b⟩
        · exact x4.t.ap a z, fun a ha => by
        rcases List.mem_cons.mp ha with z | z
        · rw [z]; exact x4.o
        · exact x4.t.dj a z⟩
    have z := x8 (.ref p) s1 (p :: g) h1 (h2.trans q2) h6 t1 ((a0.trans0 h7).wk fun j z => z)
    rw [h3] at z
    exact z
end
section
variable {X : Cx} {G : Gx} {W : WX} {t1 tt te to : List Nat} {src : M (List D)} {cond : M Bool} {elt : M D} {tg : Tg} {eltE tgE iter : Expr} {ifs : List Expr} {scope : Scope} {own : List (Str × Nat)} {pos : Pos}
abbrev blkT (X : Cx) (scope : Scope) (J : Cx → Prop) : Prop := ∀ (s : Shared) (H : Hp) (C : Addr) (cl : List (Str × Addr)) (fp : List Addr), J (X.blk s H scope (compEnvC scope cl C X.env) fp)
/-- [e for x in xs if c] -/
theorem g_lc (hc : X.calm = true) (hN : X.N.Nodup) (hi : GI X G W t1 tgE iter src) (ok : BlkOk X.N X.env.scope scope own) (hg : blkT X scope fun Y => PG Y tgE (tgR X.K tg)) (ht : blkT X scope fun Y => GTs Y G W0 tt ifs cond) (he : blkT X scope fun Y => GE Y G W0 te eltE elt)
    (htg : ∀ x ∈ tg.tc, 1000 ≤ x → x - 1000 ∈ own.map (·.2) := by decide) (hsub : ∀ j ∈ tg.tc ++ (tt ++ te), j ∈ to ∨ j ∈ own.map (·.2) := by decide) (hs : ∀ x, foldedSetIterable iter X.env x = pure x := by intro _; rfl) :
    GE X G W (t1 ++ to) (.ListComp eltE [⟨tgE, iter, ifs, 0⟩] scope pos) (dLc src tg (own.map (·.2)) cond elt) :=
  pe_mono (pe_lc hc hN hi ok hg ht he hs) fun σ H Q h => cmp_core (T := tx X G) htg hsub h
/-- y = [e for x in xs if c] -/
theorem gs_setLc {i : Nat} {y : Str} {py spos : Pos} (hc : X.calm = true) (hN : X.N.Nodup) (hy : X.N[i]? = some y) (hyl : X.env.scope.names.lookup y = some .local) (hsw : swapsWith (.ListComp eltE [⟨tgE, iter, ifs, 0⟩] scope pos) (some (.Name y py)) spos.line X.env = pure true) (hi : GI X G W t1 tgE iter src) (ok : BlkOk X.N X.env.scope scope own) (hg : blkT X scope fun Y => PG Y tgE (tgR X.K tg)) (ht : blkT X scope fun Y => GTs Y G W0 tt ifs cond) (he : blkT X scope fun Y => GE Y G W0 te eltE elt)
    (htg : ∀ x ∈ tg.tc, 1000 ≤ x → x - 1000 ∈ own.map (·.2) := by decide) (hsub : ∀ j ∈ tg.tc ++ (tt ++ te), j ∈ to ∨ j ∈ own.map (·.2) := by decide) (hs : ∀ x, foldedSetIterable iter X.env x = pure x := by intro _; rfl) :
    GS X G W ((t1 ++ to) ++ [i, i + 1000]) (.Assign [.Name y py] (.ListComp eltE [⟨tgE, iter, ifs, 0⟩] scope pos) spos) (dAsg i (dLc src tg (own.map (·.2)) cond elt)) :=
  ps_mono (ps_setLc hc hN hy hyl hsw hi ok hg ht he hs) fun E σ H h => by
    obtain z := asg_core (T := tx X G) h
    exact cmp_core (T := tx X G) htg hsub z
end
end Cs
namespace Cs
open PySem L2 Evl PyProof.Rows

/-! ## comprehensions with two fors -/
theorem walk_w {J : It} {n : Nat} {Gd Qd : Hp → Prop} {Y : Nat → Hp → V → Hp → Prop} (w : Walk J n Gd Y) {R : V → Hp → (Hp → Prop) → Prop} {H0 : Hp} (Pv : Nat → Hp → Prop) (h0 : Pv 0 H0) (hG : ∀ i H, i ≤ n → Pv i H → Gd H) (hs : ∀ i x H H', i < n → Pv i H → Y i H x H' → R x H' (Pv (i + 1))) (hd : ∀ H, Pv n H → Qd H) :
    ∃ W : Nat → Nat → Hp → Prop, (∃ m, W 0 m H0) ∧ ∀ i m H, W i m H → (J.stop i H ∧ Qd H) ∨ (J.go i H ∧ ∃ Nx : Hp → Prop, (∀ H', Nx H' → ∃ m', m' < m ∧ W (i + 1) m' H') ∧ ∀ x H', J.yld i H x H' → R x H' Nx) := by
  refine ⟨fun i m H => i ≤ n ∧ m = n - i ∧ Pv i H, ⟨n, Nat.zero_le _, rfl, h0⟩, fun i m H ⟨h1, h2, h3⟩ => ?_⟩
  by_cases e : i = n
  · subst e
    exact .inl ⟨w.stops H (hG i H (Nat.le_refl _) h3), hd H h3⟩
  · have hi : i < n := Nat.lt_of_le_of_ne h1 e
    exact .inr ⟨w.goes i H hi (hG i H h1 h3), Pv (i + 1), fun H' h => ⟨n - (i + 1), by omega, by omega, rfl, h⟩, fun x H' y => hs i x H H' hi h3 (w.yields i H x H' hi (hG i H h1 h3) y)⟩
def lc2L (tg : Tg) (own : List Nat) (cond : M Bool) (src1 : M (List D)) (tg1 : Tg) (own1 : List Nat) (cond1 : M Bool) (elt : M D) : List D → List D → En → Out (List D)
  | acc, [], ρ => .ok acc ρ
  | acc, d :: ds, ρ => match dTg tg d ρ with
    | .ok .nx ρ1 => (match cond ρ1 with
      | .ok true ρ2 => (match src1 ρ2 with
        | .ok ds1 ρ3 => (match lcL tg1 own1 cond1 elt acc ds1 (fgt own1 ρ3) with
          | .ok acc1 ρ4 => lc2L tg own cond src1 tg1 own1 cond1 elt acc1 ds (fgt own ρ4)
          | _ => .bad)
        | _ => .bad)
      | .ok false ρ2 => lc2L tg own cond src1 tg1 own1 cond1 elt acc ds (fgt own ρ2)
      | _ => .bad)
    | _ => .bad
def dLc2 (src : M (List D)) (tg : Tg) (own : List Nat) (cond : M Bool) (src1 : M (List D)) (tg1 : Tg) (own1 : List Nat) (cond1 : M Bool) (elt : M D) : M D := bnd src fun ds ρ =>
  if noOwAt own ρ = true then lcEnd own ρ (lc2L tg own cond src1 tg1 own1 cond1 elt [] ds (fgt own ρ)) else .bad

section
variable {T : Tx} {B : Hp} {own tc own1 : List Nat}
/-- a turn's end, the frame told -/
theorem In.next1 {s0 s : S5} {g : List Addr} {σ1 : L2.St} (r : Okk T B s) (i : In own tc s0 s g) (hl : s.σ.length = σ1.length) (h1 : ∀ j, j ∉ own1 → s.σ[j]? = σ1[j]?) (ho : ∀ j ∈ own1, j ∈ own) : ∃ s1 : S5, s1.ρ = fgt own1 s.ρ ∧ s1.σ = wipe σ1 own1 ∧ s1.H = s.H ∧ s1.F = s.F ∧ Okk T B s1 ∧ In own tc s0 s1 g ∧ ∀ a, O s1.φ a → O s.φ a := by
  obtain ⟨s1, k1, k2, k3, k4, k5, k6, k7⟩ := into_own (own := own1) r
  have hw : wipe s.σ own1 = wipe σ1 own1 := wipe_eq hl h1
  refine ⟨s1, k1, k2.trans hw, k3, k4, k5, ⟨?_, fun j q1 q2 => ?_, fun j q => ?_⟩, k7⟩
  · rw [k3, k4]
    exact i.st.drop fun a q => q.imp (k7 a) id
  · have q3 : j ∉ own1 := fun z => q2 (ho j z)
    obtain ⟨x1, x2, x3⟩ := i.fx j q1 q2
    rw [k1, fgt_get q3, k3, k6 j q3]
    exact ⟨x1, x2, x3⟩
  · rw [k2, wipe_out fun z => q (ho j z)]
    exact i.sg j q
variable {tt te : List Nat} {cond : M Bool} {elt : M D} {tg : Tg}
/-- what stands at a turn's start -/
structure Turn (T : Tx) (B : Hp) (own tc own1 : List Nat) (p : Addr) (s0 : S5) (σ1 : L2.St) (s : S5) (acc : List D) (vs : List V) (g : List Addr) : Prop where
  σ : s.σ = wipe σ1 own1
  r : Okk T B s
  c : Acc T B p s acc vs g
  i : In own tc s0 s (p :: g)
theorem loop_core {p : Addr} {s0 : S5} {σ1 : L2.St} {okk : D → En → Prop} {exk : Str → List Str → List D → En → Prop} {K : Out (List D) → Out D} {J : It} {n : Nat} {Gd Qd : Hp → Prop} {Y : Nat → Hp → V → Hp → Prop} {F0 : Hp} {ds : List D} {sa : S5} {acc0 : List D} {vs0 : List V} {g0 : List Addr}
    (r0 : Okk T B s0) (hp0 : s0.H p = none) (ho : ∀ j ∈ own1, j ∈ own) (hb : K .bad = .bad) (htg : ∀ x ∈ tg.tc, 1000 ≤ x → x - 1000 ∈ own1) (hsub : ∀ j ∈ tg.tc ++ (tt ++ te), j ∈ tc) (sr : Src T B J n Gd Y F0 ds)
    (a0 : Turn T B own tc own1 p s0 σ1 sa acc0 vs0 g0) (hF : Ex F0 sa.F) (h : Post okk exk (K (lcL tg own1 cond elt acc0 ds sa.ρ)))
    (hd : ∀ (s : S5) acc vs g, Turn T B own tc own1 p s0 σ1 s acc vs g → Ex F0 s.F → Post okk exk (K (.ok acc s.ρ)) → Qd s.H) :
    ∃ W : Nat → Nat → Hp → Prop, (∃ m, W 0 m sa.H) ∧ ∀ i m H, W i m H → (J.stop i H ∧ Qd H) ∨ (J.go i H ∧ ∃ Nx : Hp → Prop, (∀ H', Nx H' → ∃ m', m' < m ∧ W (i + 1) m' H') ∧ ∀ x H', J.yld i H x H' →
      tgR T.K tg x (wipe σ1 own1) H' fun σ3 H5 => wipe σ3 own1 = wipe σ1 own1 ∧ tDT T W0 tt cond σ3 H5 fun b H6 => if b = true then tD T W0 te elt σ3 H6 fun y H7 => ∃ acc, H7 p = some (.lst acc) ∧ acc.length < sizeLine ∧ Nx (upd H7 p (.lst (acc ++ [y]))) else Nx H6) := by
  refine walk_w sr.w (fun k H => ∃ s acc vs g, s.H = H ∧ Turn T B own tc own1 p s0 σ1 s acc vs g ∧ Ex F0 s.F ∧ Post okk exk (K (lcL tg own1 cond elt acc (ds.drop k) s.ρ))) ⟨sa, acc0, vs0, g0, rfl, a0, hF, h⟩ (fun k H _ hk => ?_) (fun k x H H' hk hP y => ?_) (fun H hP => ?_)
  · obtain ⟨s, acc, vs, g, x1, x2, x3, x4⟩ := hk
    rw [← x1]
    exact sr.g s x2.r x3
  · obtain ⟨s, acc, vs, g, x1, x2, x3, x8⟩ := hP
    subst x1
    obtain ⟨d, s3, y1, y2, y3, y4, y5, y6, y7⟩ := sr.y k x H' s hk x2.r x3 y
    subst y2
    have hdr : ds.drop k = d :: ds.drop (k + 1) := by
      obtain ⟨hl, e⟩ := List.getElem?_eq_some_iff.mp y1
      rw [← e]
      exact List.drop_eq_getElem_cons hl
    rw [hdr] at x8
    unfold lcL at x8
    rw [← y4] at x8
    have c3 := (x2.c.go y6).1
    have i3 : In own tc s0 s3 (p :: g) := x2.i.go y6 (fun _ z => by cases z) fun j _ => by rw [y3]
    have hlσ : s.σ.length = σ1.length := by rw [x2.σ, wipe_len]
    cases et : dTg tg d s3.ρ with
    | bad => rw [et] at x8; dsimp only at x8; rw [hb] at x8; exact x8.elim
    | exc c ks xs ρ => rw [et] at x8; dsimp only at x8; rw [hb] at x8; exact x8.elim
    | ok fl ρ2 =>
      rw [et] at x8
      cases fl with
      | bk => dsimp only at x8; rw [hb] at x8; exact x8.elim
      | ct => dsimp only at x8; rw [hb] at x8; exact x8.elim
      | rt r => dsimp only at x8; rw [hb] at x8; exact x8.elim
      | nx =>
        dsimp only at x8
        rw [← x2.σ, ← y3]
        refine tg_core (T := T) y5 y7 et fun s4 z1 z2 z3 z4 z5 => ?_
        have hsg4 : ∀ j, j ∉ own1 → s4.σ[j]? = s3.σ[j]? := tgs_sg z5 htg
        have c4 := (c3.go z5).1
        have i4 : In own tc s0 s4 (p :: g) := i3.go z5 (fun j z => hsub j (memL z)) fun j hj => hsg4 j fun z => hj (ho j z)
        have hl4 : s4.σ.length = s3.σ.length := by rw [← z4.len, ← y5.len, z1]; exact dTg_len et
        refine ⟨(wipe_eq hl4 hsg4).trans (by rw [y3, x2.σ, wipe_wipe]), ?_⟩
        have sg4 : ∀ j, j ∉ own1 → s4.σ[j]? = σ1[j]? := fun j hj => by rw [hsg4 j hj, y3, x2.σ, wipe_out hj]
        have l4 : s4.σ.length = σ1.length := by rw [hl4, y3, hlσ]
        have F4 : Ex F0 s4.F := by rw [z3]; exact x3.trans y6.step.ext
        subst z1
        refine ⟨B, s4, rfl, rfl, z4, ?_⟩
        cases ec : cond s4.ρ with
        | bad => rw [ec] at x8; dsimp only at x8; rw [hb] at x8; exact x8.elim
        | exc c ks xs ρ => rw [ec] at x8; dsimp only at x8; rw [hb] at x8; exact x8.elim
        | ok b ρ5 =>
          rw [ec] at x8
          intro s5 w1 w2 w3 w4
          subst w1
          have c5 := (c4.go w4).1
          have i5 : In own tc s0 s5 (p :: g) := i4.go w4 (fun j z => hsub j (memR (memL z))) fun j _ => by rw [w2]
          have F5 : Ex F0 s5.F := F4.trans w4.step.ext
          cases b with
          | false =>
            rw [if_neg Bool.false_ne_true]
            obtain ⟨s6, v1, v2, v3, v4, v5, v6, v7⟩ := i5.next1 (own1 := own1) (σ1 := σ1) w3 (by rw [w2, l4]) (fun j hj => by rw [w2]; exact sg4 j hj) ho
            exact ⟨s6, acc, vs, g, v3, ⟨v2, v5, c5.same v3 v4 v7, v6⟩, by rw [v4]; exact F5, by rw [v1]; exact x8⟩
          | true =>
            rw [if_pos rfl, ← w2]
            refine ⟨B, s5, rfl, rfl, w3, ?_⟩
            dsimp only at x8
            cases ee : elt s5.ρ with
            | bad => rw [ee] at x8; dsimp only at x8; rw [hb] at x8; exact x8.elim
            | exc c ks xs ρ => rw [ee] at x8; dsimp only at x8; rw [hb] at x8; exact x8.elim
            | ok d6 ρ6 =>
              rw [ee] at x8
              intro v6 s6 g6 u1 u2 u3 u4 u5
              subst u1
              dsimp only at x8
              split at x8
              case isFalse => rw [hb] at x8; exact x8.elim
              rename_i hlim
              have c6 := c5.go u5
              refine ⟨vs, c6.1.h, ?_, ?_⟩
              · have z := c5.t.rep.len
                rw [← z, sizeLine_eq]
                unfold lim at hlim
                omega
              · let s7 : S5 := { s6 with H := upd s6.H p (.lst (vs ++ [v6])) }
                have c7 : Acc T B p s7 (acc ++ [d6]) (vs ++ [v6]) (g ++ g6) := c5.push u5 u4
                have r7 : Okk T B s7 := u3.poke c6.1.f c6.1.b c6.1.o
                have i6 : In own tc s0 s6 (g6 ++ (p :: g)) := i5.go u5 (fun j z => hsub j (memR (memR z))) fun j _ => by rw [u2]
                have i7 : In own tc s0 s7 (p :: (g ++ g6)) := (i6.poke (p := p) (o := .lst (vs ++ [v6])) r0 hp0).less fun a ha => by
                  rcases List.mem_cons.mp ha with z | z
                  · rw [z]; exact memR List.mem_cons_self
                  · rcases List.mem_append.mp z with z | z
                    · exact memR (List.mem_cons_of_mem _ z)
                    · exact memL z
                obtain ⟨s8, v1, v2, v3, v4, v5, v6', v7⟩ := i7.next1 (own1 := own1) (σ1 := σ1) r7 (by show s6.σ.length = _; rw [u2, w2, l4]) (fun j hj => by show s6.σ[j]? = _; rw [u2, w2]; exact sg4 j hj) ho
                exact ⟨s8, acc ++ [d6], _, _, v3, ⟨v2, v5, c7.same v3 v4 v7, v6'⟩, by rw [v4]; exact F5.trans u5.step.ext, by rw [v1]; exact x8⟩
  · obtain ⟨s, acc, vs, g, x1, x2, x3, x8⟩ := hP
    subst x1
    rw [← sr.len, List.drop_length] at x8
    unfold lcL at x8
    exact hd s acc vs g x2 x3 x8
/-- the start of a comprehension: an empty list at p -/
theorem turn_start {s0 : S5} {p : Addr} (r0 : Okk T B s0) (hp0 : s0.H p = none) : ∃ s : S5, s.H = upd s0.H p (.lst []) ∧ s.ρ = fgt own s0.ρ ∧ s.F = s0.F ∧ Turn T B own tc own p s0 s0.σ s [] [] [] := by
  obtain ⟨s1, h1, h2, h3, h4, h5, h6, h7⟩ := into_own (own := own) r0
  refine ⟨{ s1 with H := upd s1.H p (.lst []) }, by show upd s1.H p _ = _; rw [h3], h1, h4, h2, ?_, ⟨⟨.nil, .nil, fun _ z => (by cases z), fun _ z => (by cases z)⟩, upd_same, fun z => (by cases z), ?_, ?_, ?_⟩, ⟨?_, fun j q1 q2 => ?_, fun j q => ?_⟩⟩
  · exact h5.new (by rw [h3]; exact hp0)
  · show s1.F p = none
    rw [h4]; exact r0.freeF hp0
  · exact r0.freeB hp0
  · exact fun q => r0.freeO hp0 (h7 _ q)
  · show Step s0.H s0.F (O s0.φ) (upd s1.H p _) s1.F _
    rw [h3, h4]
    refine (Step.new hp0).drop2 fun a q => ?_
    rcases q with q | q
    · exact .inl (h7 a q)
    · rw [List.mem_singleton.mp q]; exact .inr hp0
  · refine ⟨?_, h6 j q2, fun b hb => ?_⟩
    · show s1.ρ[j]? = _
      rw [h1, fgt_get q2]
    · obtain ⟨u, e⟩ := r0.dom ⟨j, hb⟩
      show upd s1.H p _ b = _
      rw [upd_ne (ne_of_none e hp0), h3]
  · show s1.σ[j]? = _
    rw [h2, wipe_out q]
/-- the end -/
theorem turn_end {W : WX} {sb s0 s : S5} {p : Addr} {t1 to : List Nat} {acc : List D} {vs : List V} {g : List Addr} {Q : VK} (r0 : Okk T B s0) (q2 : s0.σ = sb.σ) (a0 : Goes t1 sb s0 []) (hno : noOwAt own s0.ρ = true) (hu : ∀ j ∈ own, ∀ x, s.ρ[j]? = some x → x = .un) (t : Turn T B own tc own p s0 s0.σ s acc vs g) (hsub : ∀ j ∈ tc, j ∈ to ∨ j ∈ own)
    (h : Post (okE T B (t1 ++ to) sb Q) (exE T W B (t1 ++ to) sb) (lcEnd own s0.ρ (.ok acc s.ρ))) : Q (.ref p) s.H := by
  obtain ⟨s1, h1, h2, h3, h4, h5, h6, h7⟩ := outof_own (own := own) r0 hno t.r t.i.sg hu (by rw [t.r.len, t.σ, wipe_len, r0.len]) t.i.st t.i.fx hsub
  have t1 : Tmp T B s1.H s1.F s1.φ (.lst .ow acc) (.ref p) (p :: g) := by
    rw [h3, h4, h5]
    exact ⟨.lstO t.c.h t.c.t.rep rfl, List.nodup_cons.mpr ⟨t.c.pg, t.c.t.nd⟩, fun a ha => by
      rcases List.mem_cons.mp ha with z | z
      · rw [z]; exact ⟨t.c.f, t.c.b⟩
      · exact t.c.t.ap a z, fun a ha => by
      rcases List.mem_cons.mp ha with z | z
      · rw [z]; exact t.c.o
      · exact t.c.t.dj a z⟩
  have z := h (.ref p) s1 (p :: g) h1 (h2.trans q2) h6 t1 ((a0.trans0 h7).wk fun j z => z)
  rw [h3] at z
  exact z
end
section
variable {T : Tx} {W : WX} {t1 tt te ts tt1 to tc own own1 : List Nat} {src src1 : M (List D)} {cond cond1 : M Bool} {elt : M D} {tg tg1 : Tg}
theorem cmp2_core {σ : L2.St} {H : Hp} {Q : VK} (htg : ∀ x ∈ tg.tc, 1000 ≤ x → x - 1000 ∈ own) (htg1 : ∀ x ∈ tg1.tc, 1000 ≤ x → x - 1000 ∈ own1) (ho : ∀ j ∈ own1, j ∈ own) (hs1 : ∀ j ∈ tg.tc ++ (tt ++ ts), j ∈ tc) (hs2 : ∀ j ∈ tg1.tc ++ (tt1 ++ te), j ∈ tc) (hsub : ∀ j ∈ tc, j ∈ to ∨ j ∈ own) (h : tD T W (t1 ++ to) (dLc2 src tg own cond src1 tg1 own1 cond1 elt) σ H Q) :
    tLc2 (tDI T W t1 src) (tgR T.K tg) (tDT T W0 tt cond) (tDI T W0 ts src1) (tgR T.K tg1) (tDT T W0 tt1 cond1) (tD T W0 te elt) own own1 σ H Q := by
  obtain ⟨B, sb, e1, e2, rb, hp⟩ := h
  subst e1 e2
  have hp : Post (okE T B (t1 ++ to) sb Q) (exE T W B (t1 ++ to) sb) (bnd src (fun ds ρ => if noOwAt own ρ = true then lcEnd own ρ (lc2L tg own cond src1 tg1 own1 cond1 elt [] ds (fgt own ρ)) else .bad) sb.ρ) := hp
  refine ⟨B, sb, rfl, rfl, rb, hp.bnd.imp (fun ds ρ1 ⟨_, h⟩ J n Gd Y s0 q1 q2 r0 a0 sr p hp0 => ?_) fun _ _ _ _ h cls dd s' x1 x2 x3 x4 x5 => h cls dd s' x1 x2 x3 x4 (x5.wk fun _ => memL)⟩
  subst q1
  split at h
  case isFalse => exact h.elim
  rename_i hno
  rw [← q2]
  obtain ⟨sa, b1, b2, b3, b4⟩ := turn_start (own := own) (tc := tc) r0 hp0
  have hun : ∀ {ρ : En}, ∀ j ∈ own, ∀ x, (fgt own ρ)[j]? = some x → x = .un := fun j hj x e => fgt_un (.inl hj) x e
  refine walk_w sr.w (fun k H => ∃ s acc vs g, s.H = H ∧ Turn T B own tc own p s0 s0.σ s acc vs g ∧ Ex s0.F s.F ∧ (∀ j ∈ own, ∀ x, s.ρ[j]? = some x → x = .un) ∧ Post (okE T B (t1 ++ to) sb Q) (exE T W B (t1 ++ to) sb) (lcEnd own s0.ρ (lc2L tg own cond src1 tg1 own1 cond1 elt acc (ds.drop k) s.ρ)))
    ⟨sa, [], [], [], b1, b4, by rw [b3]; exact Ex.refl _, by rw [b2]; exact hun, by rw [b2]; exact h⟩ (fun k H _ hk => ?_) (fun k x H H' hk hP y => ?_) (fun H hP => ?_)
  · obtain ⟨s, acc, vs, g, x1, x2, x3, _, x4⟩ := hk
    rw [← x1]
    exact sr.g s x2.r x3
  · obtain ⟨s, acc, vs, g, x1, x2, x3, xu, x8⟩ := hP
    subst x1
    obtain ⟨d, s3, y1, y2, y3, y4, y5, y6, y7⟩ := sr.y k x H' s hk x2.r x3 y
    subst y2
    have hdr : ds.drop k = d :: ds.drop (k + 1) := by
      obtain ⟨hl, e⟩ := List.getElem?_eq_some_iff.mp y1
      rw [← e]
      exact List.drop_eq_getElem_cons hl
    rw [hdr] at x8
    unfold lc2L at x8
    rw [← y4] at x8
    have c3 := (x2.c.go y6).1
    have i3 : In own tc s0 s3 (p :: g) := x2.i.go y6 (fun _ z => by cases z) fun j _ => by rw [y3]
    have hlσ : s.σ.length = s0.σ.length := by rw [x2.σ, wipe_len]
    cases et : dTg tg d s3.ρ with
    | bad => rw [et] at x8; exact x8.elim
    | exc c ks xs ρ => rw [et] at x8; exact x8.elim
    | ok fl ρ2 =>
      rw [et] at x8
      cases fl with
      | bk => exact x8.elim
      | ct => exact x8.elim
      | rt r => exact x8.elim
      | nx =>
        dsimp only at x8
        rw [← x2.σ, ← y3]
        refine tg_core (T := T) y5 y7 et fun s4 z1 z2 z3 z4 z5 => ?_
        have hsg4 : ∀ j, j ∉ own → s4.σ[j]? = s3.σ[j]? := tgs_sg z5 htg
        have c4 := (c3.go z5).1
        have i4 : In own tc s0 s4 (p :: g) := i3.go z5 (fun j z => hs1 j (memL z)) hsg4
        have hl4 : s4.σ.length = s3.σ.length := by rw [← z4.len, ← y5.len, z1]; exact dTg_len et
        refine ⟨(wipe_eq hl4 hsg4).trans (by rw [y3, x2.σ, wipe_wipe]), ?_⟩
        have sg4 : ∀ j, j ∉ own → s4.σ[j]? = s0.σ[j]? := fun j hj => by rw [hsg4 j hj, y3, x2.σ, wipe_out hj]
        have l4 : s4.σ.length = s0.σ.length := by rw [hl4, y3, hlσ]
        have F4 : Ex s0.F s4.F := by rw [z3]; exact x3.trans y6.step.ext
        subst z1
        refine ⟨B, s4, rfl, rfl, z4, ?_⟩
        cases ec : cond s4.ρ with
        | bad => rw [ec] at x8; exact x8.elim
        | exc c ks xs ρ => rw [ec] at x8; exact x8.elim
        | ok b ρ5 =>
          rw [ec] at x8
          intro s5 w1 w2 w3 w4
          subst w1
          have c5 := (c4.go w4).1
          have i5 : In own tc s0 s5 (p :: g) := i4.go w4 (fun j z => hs1 j (memR (memL z))) fun j _ => by rw [w2]
          have F5 : Ex s0.F s5.F := F4.trans w4.step.ext
          cases b with
          | false =>
            rw [if_neg Bool.false_ne_true]
            obtain ⟨s6, v1, v2, v3, v4, v5, v6, v7⟩ := i5.next1 (own1 := own) (σ1 := s0.σ) w3 (by rw [w2, l4]) (fun j hj => by rw [w2]; exact sg4 j hj) fun _ z => z
            exact ⟨s6, acc, vs, g, v3, ⟨v2, v5, c5.same v3 v4 v7, v6⟩, by rw [v4]; exact F5, by rw [v1]; exact hun, by rw [v1]; exact x8⟩
          | true =>
            rw [if_pos rfl, ← w2]
            refine ⟨B, s5, rfl, rfl, w3, ?_⟩
            dsimp only at x8
            cases ee : src1 s5.ρ with
            | bad => rw [ee] at x8; exact x8.elim
            | exc c ks xs ρ => rw [ee] at x8; exact x8.elim
            | ok ds1 ρ6 =>
              rw [ee] at x8
              intro J1 n1 Gd1 Y1 s6 u1 u2 u3 u4 sr1
              subst u1
              dsimp only at x8
              have c6 := (c5.go u4).1
              have i6 : In own tc s0 s6 (p :: g) := i5.go u4 (fun j z => hs1 j (memR (memR z))) fun j _ => by rw [u2]
              have F6 : Ex s0.F s6.F := F5.trans u4.step.ext
              have l6 : s6.σ.length = s0.σ.length := by rw [u2, w2, l4]
              have sg6 : ∀ j, j ∉ own → s6.σ[j]? = s0.σ[j]? := fun j hj => by rw [u2, w2]; exact sg4 j hj
              obtain ⟨s7, v1, v2, v3, v4, v5, v6, v7⟩ := i6.next1 (own1 := own1) (σ1 := s6.σ) u3 rfl (fun _ _ => rfl) ho
              have t7 : Turn T B own tc own1 p s0 s6.σ s7 acc vs g := ⟨v2, v5, c6.same v3 v4 v7, v6⟩
              rw [← u2, ← v3]
              refine loop_core (K := fun o => lcEnd own s0.ρ (match o with | .ok acc1 ρ4 => lc2L tg own cond src1 tg1 own1 cond1 elt acc1 (ds.drop (k + 1)) (fgt own ρ4) | _ => .bad)) (own := own) (tc := tc) (own1 := own1) (σ1 := s6.σ) (s0 := s0) (tt := tt1) (te := te) (okk := okE T B (t1 ++ to) sb Q) (exk := exE T W B (t1 ++ to) sb) r0 hp0 ho rfl htg1 hs2 sr1 t7 (by rw [v4]; exact Ex.refl _) (by rw [v1]; exact x8) fun s8 acc8 vs8 g8 t8 f8 h8 => ?_
              have l8 : s8.σ.length = s0.σ.length := by rw [t8.σ, wipe_len, l6]
              have sg8 : ∀ j, j ∉ own → s8.σ[j]? = s0.σ[j]? := fun j hj => by rw [t8.σ, wipe_out fun z => hj (ho j z)]; exact sg6 j hj
              obtain ⟨s9, m1, m2, m3, m4, m5, m6, m7⟩ := t8.i.next1 (own1 := own) (σ1 := s0.σ) t8.r l8 sg8 fun _ z => z
              exact ⟨s9, acc8, vs8, g8, m3, ⟨m2, m5, t8.c.same m3 m4 m7, m6⟩, by rw [m4]; exact F6.trans f8, by rw [m1]; exact hun, by rw [m1]; exact h8⟩
  · obtain ⟨s, acc, vs, g, x1, x2, x3, xu, x8⟩ := hP
    subst x1
    rw [← sr.len, List.drop_length] at x8
    unfold lc2L at x8
    exact turn_end r0 q2 a0 hno xu x2 hsub x8
end
section
variable {X : Cx} {G : Gx} {W : WX} {t1 tt te ts tt1 to : List Nat} {src src1 : M (List D)} {cond cond1 : M Bool} {elt : M D} {tg tg1 : Tg} {eltE tgE iter tgE1 iter1 : Expr} {ifs ifs1 : List Expr} {scope : Scope} {own : List (Str × Nat)} {own1 : List Nat} {pos : Pos}
/-- [e for x in xs if c for y in ys if d] -/
theorem g_lc2 (hc : X.calm = true) (hN : X.N.Nodup) (hi : GI X G W t1 tgE iter src) (ok : BlkOk X.N X.env.scope scope own) (hg : blkT X scope fun Y => PG Y tgE (tgR X.K tg)) (ht : blkT X scope fun Y => GTs Y G W0 tt ifs cond)
    (hi1 : blkT X scope fun Y => GI Y G W0 ts tgE1 iter1 src1) (hg1 : blkT X scope fun Y => PG Y tgE1 (tgR X.K tg1)) (ht1 : blkT X scope fun Y => GTs Y G W0 tt1 ifs1 cond1) (he : blkT X scope fun Y => GE Y G W0 te eltE elt)
    (ho : ∀ j ∈ own1, j ∈ own.map (·.2) := by decide) (htg : ∀ x ∈ tg.tc, 1000 ≤ x → x - 1000 ∈ own.map (·.2) := by decide) (htg1 : ∀ x ∈ tg1.tc, 1000 ≤ x → x - 1000 ∈ own1 := by decide) (hsub : ∀ j ∈ (tg.tc ++ (tt ++ ts)) ++ (tg1.tc ++ (tt1 ++ te)), j ∈ to ∨ j ∈ own.map (·.2) := by decide) (hs : ∀ x, foldedSetIterable iter X.env x = pure x := by intro _; rfl) (hs1 : ∀ env x, foldedSetIterable iter1 env x = pure x := by intro _ _; rfl) :
    GE X G W (t1 ++ to) (.ListComp eltE [⟨tgE, iter, ifs, 0⟩, ⟨tgE1, iter1, ifs1, 0⟩] scope pos) (dLc2 src tg (own.map (·.2)) cond src1 tg1 own1 cond1 elt) :=
  pe_mono (pe_lc2 hc hN hi ok ho hg ht hi1 hg1 ht1 he hs hs1) fun σ H Q h => cmp2_core (T := tx X G) (tc := (tg.tc ++ (tt ++ ts)) ++ (tg1.tc ++ (tt1 ++ te))) htg htg1 ho (fun j z => memL z) (fun j z => memR z) hsub h
theorem gs_setLc2 {i : Nat} {y : Str} {py spos : Pos} (hc : X.calm = true) (hN : X.N.Nodup) (hy : X.N[i]? = some y) (hyl : X.env.scope.names.lookup y = some .local) (hsw : swapsWith (.ListComp eltE [⟨tgE, iter, ifs, 0⟩, ⟨tgE1, iter1, ifs1, 0⟩] scope pos) (some (.Name y py)) spos.line X.env = pure true) (hi : GI X G W t1 tgE iter src) (ok : BlkOk X.N X.env.scope scope own) (hg : blkT X scope fun Y => PG Y tgE (tgR X.K tg)) (ht : blkT X scope fun Y => GTs Y G W0 tt ifs cond)
    (hi1 : blkT X scope fun Y => GI Y G W0 ts tgE1 iter1 src1) (hg1 : blkT X scope fun Y => PG Y tgE1 (tgR X.K tg1)) (ht1 : blkT X scope fun Y => GTs Y G W0 tt1 ifs1 cond1) (he : blkT X scope fun Y => GE Y G W0 te eltE elt)
    (ho : ∀ j ∈ own1, j ∈ own.map (·.2) := by decide) (htg : ∀ x ∈ tg.tc, 1000 ≤ x → x - 1000 ∈ own.map (·.2) := by decide) (htg1 : ∀ x ∈ tg1.tc, 1000 ≤ x → x - 1000 ∈ own1 := by decide) (hsub : ∀ j ∈ (tg.tc ++ (tt ++ ts)) ++ (tg1.tc ++ (tt1 ++ te)), j ∈ to ∨ j ∈ own.map (·.2) := by decide) (hs : ∀ x, foldedSetIterable iter X.env x = pure x := by intro _; rfl) (hs1 : ∀ env x, foldedSetIterable iter1 env x = pure x := by intro _ _; rfl) :
    GS X G W ((t1 ++ to) ++ [i, i + 1000]) (.Assign [.Name y py] (.ListComp eltE [⟨tgE, iter, ifs, 0⟩, ⟨tgE1, iter1, ifs1, 0⟩] scope pos) spos) (dAsg i (dLc2 src tg (own.map (·.2)) cond src1 tg1 own1 cond1 elt)) :=
  ps_mono (ps_setLc2 hc hN hy hyl hsw hi ok ho hg ht hi1 hg1 ht1 he hs hs1) fun E σ H h => by
    obtain z := asg_core (T := tx X G) h
    exact cmp2_core (T := tx X G) (tc := (tg.tc ++ (tt ++ ts)) ++ (tg1.tc ++ (tt1 ++ te))) htg htg1 ho (fun j z => memL z) (fun j z => memR z) hsub z
end
end Cs
namespace Cs
open PySem L2 Evl PyProof.Rows

/-! ## a slot lent while something is done -/
def noBoAt (tc : List Nat) (ρ : En) : Bool := tc.all fun i => (match ρ[i]? with
  | some (.dt d) => allF noBo d
  | _ => true) && (decide (i < 1000) || (match ρ[i - 1000]? with
  | some (.dt d) => allF noBo d
  | _ => true))
def dLend (i : Nat) (tc : List Nat) (f : M D) : M D := fun ρ => match slot i ρ with
  | some d => (match f (ρ.set i (.dt (mapF flLend d))) with
    | .ok r ρ' => if allF noBo r = true ∧ noBoAt tc ρ' = true then .ok r (ρ'.set i (.dt d)) else .bad
    | .exc c ks xs ρ' => if noBoAt tc ρ' = true then .exc c ks xs (ρ'.set i (.dt d)) else .bad
    | .bad => .bad)
  | none => .bad
def dLendT (i : Nat) (tc : List Nat) (f : M Bool) : M Bool := fun ρ => match slot i ρ with
  | some d => (match f (ρ.set i (.dt (mapF flLend d))) with
    | .ok r ρ' => if noBoAt tc ρ' = true then .ok r (ρ'.set i (.dt d)) else .bad
    | .exc c ks xs ρ' => if noBoAt tc ρ' = true then .exc c ks xs (ρ'.set i (.dt d)) else .bad
    | .bad => .bad)
  | none => .bad
def flwOk : Flw → Bool
  | .rt d => allF noBo d
  | _ => true
def dLendS (i : Nat) (tc : List Nat) (f : M Flw) : M Flw := fun ρ => match slot i ρ with
  | some d => (match f (ρ.set i (.dt (mapF flLend d))) with
    | .ok r ρ' => if flwOk r = true ∧ noBoAt tc ρ' = true then .ok r (ρ'.set i (.dt d)) else .bad
    | .exc c ks xs ρ' => if noBoAt tc ρ' = true then .exc c ks xs (ρ'.set i (.dt d)) else .bad
    | .bad => .bad)
  | none => .bad
section
variable {T : Tx} {B : Hp} {i : Nat} {tc : List Nat}
abbrev S5.lent (s : S5) (i : Nat) (d : D) : S5 := { s with ρ := s.ρ.set i (.dt (mapF flLend d)), φ := fun j => if j = i then [] else s.φ j }
theorem slot_lt {ρ : En} {d : D} (h : slot i ρ = some d) : i < ρ.length := by
  have z := slot_some h
  rcases Nat.lt_or_ge i ρ.length with q | q
  · exact q
  · rw [List.getElem?_eq_none q] at z; cases z
theorem lend_in {s : S5} {d : D} (r : Okk T B s) (e : slot i s.ρ = some d) : Okk T (ovl s.H B (s.φ i)) (s.lent i d) := by
  have hB : ∀ a ∈ s.φ i, B a = none := fun a ha => (r.ap i a ha).2
  have hi := slot_lt e
  have z := r.take (i := i)
  refine ⟨by show (s.ρ.set i _).length = _; rw [List.length_set]; exact r.len, ovl_sub r.exB, r.exF, r.exP, fun j d' q => ?_, fun j q => ?_, fun j q => ?_, z.nd, z.dj, fun j a ha => ?_⟩
  · by_cases h : j = i
    · subst h
      have q : (s.ρ.set j (.dt (mapF flLend d)))[j]? = some (.dt d') := q
      rw [List.getElem?_set_self hi] at q
      cases q
      obtain ⟨v, ev, rp⟩ := r.sl j d (slot_some e)
      exact ⟨v, ev, by show Rep _ _ _ _ _ _ (if j = j then [] else _); rw [if_pos rfl]; exact rp.lend (ovl_ex hB) fun a ha o e => by rw [ovl_in ha]; exact e⟩
    · have q : (s.ρ.set i (.dt (mapF flLend d)))[j]? = some (.dt d') := q
      rw [List.getElem?_set_ne fun y => h y.symm] at q
      obtain ⟨v, ev, rp⟩ := r.sl j d' q
      exact ⟨v, ev, by show Rep _ _ _ _ _ _ (if j = i then [] else _); rw [if_neg h]; exact rp.mono (ovl_ex hB) (Ex.refl _) fun _ _ _ q => q⟩
  · have q : (s.ρ.set i (.dt (mapF flLend d)))[j]? = some .exn := q
    by_cases h : j = i
    · subst h
      rw [List.getElem?_set_self hi] at q; cases q
    · rw [List.getElem?_set_ne fun y => h y.symm] at q
      exact r.xn j q
  · show (if j = i then [] else s.φ j) = []
    by_cases h : j = i
    · rw [if_pos h]
    · rw [if_neg h]
      refine r.em j fun d' q' => q d' ?_
      show (s.ρ.set i _)[j]? = _
      rw [List.getElem?_set_ne fun y => h y.symm]
      exact q'
  · have ha : a ∈ (if j = i then [] else s.φ j) := ha
    by_cases h : j = i
    · rw [if_pos h] at ha; cases ha
    · rw [if_neg h] at ha
      exact ⟨(r.ap j a ha).1, by rw [ovl_out fun y => r.dj j i a h ha y]; exact (r.ap j a ha).2⟩
theorem noBoAt_get {ρ : En} (h : noBoAt tc ρ = true) {j : Nat} {d : D} (hj : j ∈ tc ∨ j + 1000 ∈ tc) (e : ρ[j]? = some (.dt d)) : allF noBo d = true := by
  rcases hj with hj | hj
  · have z := List.all_eq_true.mp h j hj
    rw [Bool.and_eq_true] at z
    have y := z.1
    rw [e] at y
    exact y
  · have z := List.all_eq_true.mp h (j + 1000) hj
    rw [Bool.and_eq_true] at z
    have y := z.2
    rw [Nat.add_sub_cancel, e] at y
    exact y
theorem lend_out {s s' : S5} {d : D} {g : List Addr} (r : Okk T B s) (e : slot i s.ρ = some d) (hi : i ∉ tc) (hi2 : i + 1000 ∉ tc) (r' : Okk T (ovl s.H B (s.φ i)) s') (a : Goes tc (s.lent i d) s' g) (hg : ∀ x ∈ g, ovl s.H B (s.φ i) x = none) (hn : noBoAt tc s'.ρ = true) :
    ∃ s2 : S5, s2.ρ = s'.ρ.set i (.dt d) ∧ s2.σ = s'.σ ∧ s2.H = s'.H ∧ s2.F = s'.F ∧ Okk T B s2 ∧ Goes tc s s2 g ∧ ∀ x, O s2.φ x → O s'.φ x ∨ x ∈ s.φ i := by
  have hB : ∀ a ∈ s.φ i, B a = none := fun a ha => (r.ap i a ha).2
  have hlt := slot_lt e
  obtain ⟨f1, f2, f3⟩ := a.fix i hi
  have f1 : s'.ρ[i]? = (s.ρ.set i (.dt (mapF flLend d)))[i]? := f1
  have f2 : s'.φ i = if i = i then [] else s.φ i := f2
  rw [if_pos rfl] at f2
  rw [List.getElem?_set_self hlt] at f1
  have hlt' : i < s'.ρ.length := by
    rcases Nat.lt_or_ge i s'.ρ.length with q | q
    · exact q
    · rw [List.getElem?_eq_none q] at f1; cases f1
  have cell : ∀ x ∈ s.φ i, s'.H x = s.H x := fun x hx => by
    obtain ⟨o, eo⟩ := r.dom ⟨i, hx⟩
    rw [eo]
    exact r'.exB x o (by rw [ovl_in hx]; exact eo)
  have some' : ∀ x ∈ s.φ i, ovl s.H B (s.φ i) x ≠ none := fun x hx z => by
    obtain ⟨o, eo⟩ := r.dom ⟨i, hx⟩
    rw [ovl_in hx, eo] at z; cases z
  have hO1 : ∀ x, O (s.lent i d).φ x → O s.φ x := fun x ⟨j, q⟩ => by
    have q : x ∈ (if j = i then [] else s.φ j) := q
    split at q
    · cases q
    · exact ⟨j, q⟩
  have hO2 : ∀ x, x ∈ s.φ i → ¬ O (s.lent i d).φ x := fun x hx ⟨j, q⟩ => by
    have q : x ∈ (if j = i then [] else s.φ j) := q
    split at q
    · cases q
    · rename_i h
      exact r.dj j i x h q hx
  have Bn : ∀ x, ovl s.H B (s.φ i) x = none → B x = none := fun x z => by
    by_cases h : x ∈ s.φ i
    · exact absurd z (some' x h)
    · rw [ovl_out h] at z; exact z
  have BB : Ex B (ovl s.H B (s.φ i)) := ovl_ex hB
  refine ⟨{ s' with ρ := s'.ρ.set i (.dt d), φ := fun j => if j = i then s.φ i else s'.φ j }, rfl, rfl, rfl, rfl, ?_, ⟨⟨fun x o h n => a.step.keep x o h fun z => n (hO1 x z), a.step.ext, fun x o h n => (a.step.fn x o h n).imp (hO1 x) id, fun x q => ?_⟩, fun j hj => ?_, a.sg⟩, fun x ⟨j, q⟩ => ?_⟩
  · refine ⟨by show (s'.ρ.set i _).length = _; rw [List.length_set]; exact r'.len, BB.trans r'.exB, r'.exF, r'.exP, fun j d' q => ?_, fun j q => ?_, fun j q => ?_, fun j => ?_, fun j k x hn h1 h2 => ?_, fun j x hx => ?_⟩
    · have q : (s'.ρ.set i (.dt d))[j]? = some (.dt d') := q
      by_cases h : j = i
      · subst h
        rw [List.getElem?_set_self hlt'] at q
        cases q
        obtain ⟨v, ev, rp⟩ := r.sl j d (slot_some e)
        refine ⟨v, (a.sg j hi2).trans ev, ?_⟩
        show Rep _ _ _ _ _ _ (if j = j then _ else _)
        rw [if_pos rfl]
        exact rp.mono (Ex.refl B) a.step.ext fun x hx o eo => by rw [cell x hx]; exact eo
      · rw [List.getElem?_set_ne fun y => h y.symm] at q
        show ∃ v, _ ∧ Rep _ _ _ _ _ _ (if j = i then _ else _)
        rw [if_neg h]
        by_cases hj : j ∈ tc ∨ j + 1000 ∈ tc
        · obtain ⟨v, ev, rp⟩ := r'.sl j d' q
          exact ⟨v, ev, rp.noB (noBoAt_get hn hj q)⟩
        · have h1 : j ∉ tc := fun z => hj (.inl z)
          have h2 : j + 1000 ∉ tc := fun z => hj (.inr z)
          obtain ⟨y1, y2, y3⟩ := a.fix j h1
          have y1 : s'.ρ[j]? = (s.ρ.set i (.dt (mapF flLend d)))[j]? := y1
          rw [List.getElem?_set_ne fun y => h y.symm, q] at y1
          have y2 : s'.φ j = if j = i then [] else s.φ j := y2
          rw [if_neg h] at y2
          have y3 : ∀ x ∈ (if j = i then [] else s.φ j), s'.H x = s.H x := y3
          rw [if_neg h] at y3
          obtain ⟨v, ev, rp⟩ := r.sl j d' y1.symm
          refine ⟨v, (a.sg j h2).trans ev, ?_⟩
          rw [y2]
          exact rp.mono (Ex.refl B) a.step.ext fun x hx o eo => by rw [y3 x hx]; exact eo
    · have q : (s'.ρ.set i (.dt d))[j]? = some .exn := q
      by_cases h : j = i
      · subst h
        rw [List.getElem?_set_self hlt'] at q; cases q
      · rw [List.getElem?_set_ne fun y => h y.symm] at q
        exact r'.xn j q
    · show (if j = i then s.φ i else s'.φ j) = []
      by_cases h : j = i
      · exfalso
        subst h
        exact q d (List.getElem?_set_self hlt')
      · rw [if_neg h]
        refine r'.em j fun d' q' => q d' ?_
        show (s'.ρ.set i _)[j]? = _
        rw [List.getElem?_set_ne fun y => h y.symm]
        exact q'
    · show (if j = i then s.φ i else s'.φ j).Nodup
      split
      · exact r.nd i
      · exact r'.nd j
    · have h1 : x ∈ (if j = i then s.φ i else s'.φ j) := h1
      have h2 : x ∈ (if k = i then s.φ i else s'.φ k) := h2
      by_cases p1 : j = i
      · by_cases p2 : k = i
        · exact hn (p1.trans p2.symm)
        · rw [if_pos p1] at h1
          rw [if_neg p2] at h2
          exact some' x h1 (r'.ap k x h2).2
      · by_cases p2 : k = i
        · rw [if_neg p1] at h1
          rw [if_pos p2] at h2
          exact some' x h2 (r'.ap j x h1).2
        · rw [if_neg p1] at h1
          rw [if_neg p2] at h2
          exact r'.dj j k x hn h1 h2
    · have hx : x ∈ (if j = i then s.φ i else s'.φ j) := hx
      by_cases p1 : j = i
      · rw [if_pos p1] at hx
        refine ⟨?_, hB x hx⟩
        cases ef : s'.F x with
        | none => rfl
        | some o =>
          exfalso
          rcases a.step.fn x o ef (r.ap i x hx).1 with z | z
          · exact hO2 x hx z
          · obtain ⟨o', eo⟩ := r.dom ⟨i, hx⟩
            have z : s.H x = none := z
            rw [eo] at z; cases z
      · rw [if_neg p1] at hx
        exact ⟨(r'.ap j x hx).1, Bn x (r'.ap j x hx).2⟩
  · rcases q with ⟨j, q⟩ | q
    · have q : x ∈ (if j = i then s.φ i else s'.φ j) := q
      by_cases p1 : j = i
      · rw [if_pos p1] at q
        exact .inl ⟨i, q⟩
      · rw [if_neg p1] at q
        exact (a.step.on x (.inl ⟨j, q⟩)).imp (hO1 x) id
    · exact (a.step.on x (.inr q)).imp (hO1 x) id
  · by_cases h : j = i
    · subst h
      refine ⟨?_, ?_, cell⟩
      · show (s'.ρ.set j _)[j]? = _
        rw [List.getElem?_set_self hlt']
        exact (slot_some e).symm
      · show (if j = j then s.φ j else _) = _
        rw [if_pos rfl]
    · obtain ⟨y1, y2, y3⟩ := a.fix j hj
      have y1 : s'.ρ[j]? = (s.ρ.set i (.dt (mapF flLend d)))[j]? := y1
      rw [List.getElem?_set_ne fun y => h y.symm] at y1
      have y2 : s'.φ j = if j = i then [] else s.φ j := y2
      rw [if_neg h] at y2
      have y3 : ∀ x ∈ (if j = i then [] else s.φ j), s'.H x = s.H x := y3
      rw [if_neg h] at y3
      refine ⟨?_, ?_, y3⟩
      · show (s'.ρ.set i _)[j]? = _
        rw [List.getElem?_set_ne fun y => h y.symm]
        exact y1
      · show (if j = i then _ else s'.φ j) = _
        rw [if_neg h]
        exact y2
  · have q : x ∈ (if j = i then s.φ i else s'.φ j) := q
    by_cases p1 : j = i
    · rw [if_pos p1] at q; exact .inr q
    · rw [if_neg p1] at q; exact .inl ⟨j, q⟩
theorem lend_tmp {s s' s2 : S5} {d : D} {v : V} {g : List Addr} (r : Okk T B s) (h1 : s2.H = s'.H) (h2 : s2.F = s'.F) (h3 : ∀ x, O s2.φ x → O s'.φ x ∨ x ∈ s.φ i) (t : Tmp T (ovl s.H B (s.φ i)) s'.H s'.F s'.φ d v g) (hn : allF noBo d = true) : Tmp T B s2.H s2.F s2.φ d v g := by
  have some' : ∀ x ∈ s.φ i, ovl s.H B (s.φ i) x ≠ none := fun x hx z => by
    obtain ⟨o, eo⟩ := r.dom ⟨i, hx⟩
    rw [ovl_in hx, eo] at z; cases z
  refine ⟨by rw [h1, h2]; exact t.rep.noB hn, t.nd, fun x hx => ⟨by rw [h2]; exact (t.ap x hx).1, ?_⟩, fun x hx q => ?_⟩
  · have z := (t.ap x hx).2
    by_cases h : x ∈ s.φ i
    · exact absurd z (some' x h)
    · rw [ovl_out h] at z; exact z
  · rcases h3 x q with z | z
    · exact t.dj x hx z
    · exact some' x z (t.ap x hx).2
end
section
variable {X : Cx} {G : Gx} {W : WX} {tc : List Nat} {i : Nat} {e : Expr} {st : Stmt} {sts : List Stmt}
theorem lendE_core {T : Tx} {f : M D} (hi : i ∉ tc) (hi2 : i + 1000 ∉ tc) {σ : L2.St} {H : Hp} {Q : VK} (h : tD T W tc (dLend i tc f) σ H Q) : tD T W tc f σ H Q := by
  obtain ⟨B, s, e1, e2, r, hp⟩ := h
  subst e1 e2
  unfold dLend at hp
  cases es : slot i s.ρ with
  | none => rw [es] at hp; exact hp.elim
  | some d =>
    rw [es] at hp
    dsimp only at hp
    refine ⟨_, s.lent i d, rfl, rfl, lend_in r es, ?_⟩
    show Post _ _ (f (s.ρ.set i (.dt (mapF flLend d))))
    cases ef : f (s.ρ.set i (.dt (mapF flLend d))) with
    | bad => rw [ef] at hp; exact hp.elim
    | ok d' ρ' =>
      rw [ef] at hp
      dsimp only at hp
      split at hp
      case isFalse => exact hp.elim
      rename_i hh
      intro v s' g q1 q2 q3 q4 q5
      subst q1
      obtain ⟨s2, w1, w2, w3, w4, w5, w6, w7⟩ := lend_out r es hi hi2 q3 q5 (fun x hx => (q4.ap x hx).2) hh.2
      have z := hp v s2 g w1 (w2.trans q2) w5 (lend_tmp r w3 w4 w7 q4 hh.1) w6
      rw [w3] at z
      exact z
    | exc c ks xs ρ' =>
      rw [ef] at hp
      dsimp only at hp
      split at hp
      case isFalse => exact hp.elim
      rename_i hh
      intro cls dd s' q1 q2 q3 q4 q5
      subst q1
      obtain ⟨s2, w1, w2, w3, w4, w5, w6, w7⟩ := lend_out r es hi hi2 q3 q5 (fun x hx => by cases hx) hh
      have z := hp cls dd s2 w1 (w2.trans q2) w5 (by rw [w4]; exact q4) w6
      rw [w2, w3] at z
      exact z
theorem lendT_core {T : Tx} {f : M Bool} (hi : i ∉ tc) (hi2 : i + 1000 ∉ tc) {σ : L2.St} {H : Hp} {Q : Bool → Hp → Prop} (h : tDT T W tc (dLendT i tc f) σ H Q) : tDT T W tc f σ H Q := by
  obtain ⟨B, s, e1, e2, r, hp⟩ := h
  subst e1 e2
  unfold dLendT at hp
  cases es : slot i s.ρ with
  | none => rw [es] at hp; exact hp.elim
  | some d =>
    rw [es] at hp
    dsimp only at hp
    refine ⟨_, s.lent i d, rfl, rfl, lend_in r es, ?_⟩
    show Post _ _ (f (s.ρ.set i (.dt (mapF flLend d))))
    cases ef : f (s.ρ.set i (.dt (mapF flLend d))) with
    | bad => rw [ef] at hp; exact hp.elim
    | ok d' ρ' =>
      rw [ef] at hp
      dsimp only at hp
      split at hp
      case isFalse => exact hp.elim
      rename_i hh
      intro s' q1 q2 q3 q5
      subst q1
      obtain ⟨s2, w1, w2, w3, w4, w5, w6, w7⟩ := lend_out r es hi hi2 q3 q5 (fun x hx => by cases hx) hh
      have z := hp s2 w1 (w2.trans q2) w5 w6
      rw [w3] at z
      exact z
    | exc c ks xs ρ' =>
      rw [ef] at hp
      dsimp only at hp
      split at hp
      case isFalse => exact hp.elim
      rename_i hh
      intro cls dd s' q1 q2 q3 q4 q5
      subst q1
      obtain ⟨s2, w1, w2, w3, w4, w5, w6, w7⟩ := lend_out r es hi hi2 q3 q5 (fun x hx => by cases hx) hh
      have z := hp cls dd s2 w1 (w2.trans q2) w5 (by rw [w4]; exact q4) w6
      rw [w2, w3] at z
      exact z
theorem lendS_core {T : Tx} {f : M Flw} (hi : i ∉ tc) (hi2 : i + 1000 ∉ tc) {σ : L2.St} {H : Hp} {E : Ends} (h : tDS T W tc (dLendS i tc f) E σ H) : tDS T W tc f E σ H := by
  obtain ⟨B, s, e1, e2, r, hp⟩ := h
  subst e1 e2
  unfold dLendS at hp
  cases es : slot i s.ρ with
  | none => rw [es] at hp; exact hp.elim
  | some d =>
    rw [es] at hp
    dsimp only at hp
    refine ⟨_, s.lent i d, rfl, rfl, lend_in r es, ?_⟩
    show Post _ _ (f (s.ρ.set i (.dt (mapF flLend d))))
    cases ef : f (s.ρ.set i (.dt (mapF flLend d))) with
    | bad => rw [ef] at hp; exact hp.elim
    | ok fl ρ' =>
      rw [ef] at hp
      dsimp only at hp
      split at hp
      case isFalse => exact hp.elim
      rename_i hh
      cases fl with
      | rt d' =>
        intro v s' g q1 q3 q4 q5
        subst q1
        obtain ⟨s2, w1, w2, w3, w4, w5, w6, w7⟩ := lend_out r es hi hi2 q3 q5 (fun x hx => (q4.ap x hx).2) hh.2
        have z := hp v s2 g w1 w5 (lend_tmp r w3 w4 w7 q4 hh.1) w6
        rw [w3] at z
        exact z
      | nx =>
        intro s' q1 q3 q5
        subst q1
        obtain ⟨s2, w1, w2, w3, w4, w5, w6, w7⟩ := lend_out r es hi hi2 q3 q5 (fun x hx => by cases hx) hh.2
        have z := hp s2 w1 w5 w6
        rw [w2, w3] at z
        exact z
      | bk =>
        intro s' q1 q3 q5
        subst q1
        obtain ⟨s2, w1, w2, w3, w4, w5, w6, w7⟩ := lend_out r es hi hi2 q3 q5 (fun x hx => by cases hx) hh.2
        have z := hp s2 w1 w5 w6
        rw [w2, w3] at z
        exact z
      | ct =>
        intro s' q1 q3 q5
        subst q1
        obtain ⟨s2, w1, w2, w3, w4, w5, w6, w7⟩ := lend_out r es hi hi2 q3 q5 (fun x hx => by cases hx) hh.2
        have z := hp s2 w1 w5 w6
        rw [w2, w3] at z
        exact z
    | exc c ks xs ρ' =>
      rw [ef] at hp
      dsimp only at hp
      split at hp
      case isFalse => exact hp.elim
      rename_i hh
      intro cls dd s' q1 q3 q4 q5
      subst q1
      obtain ⟨s2, w1, w2, w3, w4, w5, w6, w7⟩ := lend_out r es hi hi2 q3 q5 (fun x hx => by cases hx) hh
      have z := hp cls dd s2 w1 w5 (by rw [w4]; exact q4) w6
      rw [w2, w3] at z
      exact z
theorem g_lend {f : M D} (h : GE X G W tc e f) (hi : i ∉ tc := by decide) (hi2 : i + 1000 ∉ tc := by decide) : GE X G W tc e (dLend i tc f) := pe_mono h fun _ _ _ q => lendE_core hi hi2 q
theorem gt_lend {f : M Bool} (h : GT X G W tc e f) (hi : i ∉ tc := by decide) (hi2 : i + 1000 ∉ tc := by decide) : GT X G W tc e (dLendT i tc f) := pt_mono h fun _ _ _ q => lendT_core hi hi2 q
theorem gw_lend {f : M Bool} (h : GW X G W tc e f) (hi : i ∉ tc := by decide) (hi2 : i + 1000 ∉ tc := by decide) : GW X G W tc e (dLendT i tc f) := pw_mono h fun _ _ _ q => lendT_core hi hi2 q
theorem gs_lend {f : M Flw} (h : GS X G W tc st f) (hi : i ∉ tc := by decide) (hi2 : i + 1000 ∉ tc := by decide) : GS X G W tc st (dLendS i tc f) := ps_mono h fun _ _ _ q => lendS_core hi hi2 q
theorem gss_lend {f : M Flw} (h : GSs X G W tc sts f) (hi : i ∉ tc := by decide) (hi2 : i + 1000 ∉ tc := by decide) : GSs X G W tc sts (dLendS i tc f) := pss_mono h fun _ _ _ q => lendS_core hi hi2 q
/-! ## a slot frozen where it stands -/
def dFs (i : Nat) : M D := fun ρ => match slot i ρ with
  | some d => .ok (mapF flFrz d) (ρ.set i (.dt (mapF flFrz d)))
  | none => .bad
theorem g_fs {x : Str} {pos : Pos} (hv : PE X (.Name x pos) (tVar i)) : GE X G W [i] (.Name x pos) (dFs i) :=
  pe_mono hv fun σ H Q ⟨B, s, e1, e2, r, h⟩ => by
    subst e1 e2
    unfold dFs at h
    cases e : slot i s.ρ with
    | none => rw [e] at h; exact h.elim
    | some d =>
      rw [e] at h
      have hlt := slot_lt e
      obtain ⟨v, ev, rp⟩ := r.sl i d (slot_some e)
      have t := take_tmp r rp
      have r2 : Okk (tx X G) B ((s.take i).ovl (s.φ i)) := Rel.ovl (r.take (i := i)) (fun a q => (t.ap a q).1) t.dj
      have rp2 : Rep (tx X G) B s.H (ovl s.H s.F (s.φ i)) (mapF flFrz d) v [] := t.frz
      have a2 : Goes [i] s ((s.take i).ovl (s.φ i)) [] := (take_goes (s := s) (i := i)).ovl fun a q => (t.ap a q).1
      let s3 : S5 := { s with F := ovl s.H s.F (s.φ i), ρ := s.ρ.set i (.dt (mapF flFrz d)), φ := fun j => if j = i then [] else s.φ j }
      have r3 : Okk (tx X G) B s3 := by
        refine ⟨by show (s.ρ.set i _).length = _; rw [List.length_set]; exact r.len, r2.exB, r2.exF, r2.exP, fun j d' q => ?_, fun j q => ?_, fun j q => ?_, r2.nd, r2.dj, r2.ap⟩
        · have q : (s.ρ.set i (.dt (mapF flFrz d)))[j]? = some (.dt d') := q
          by_cases hj : j = i
          · subst hj
            rw [List.getElem?_set_self hlt] at q
            cases q
            refine ⟨v, ev, ?_⟩
            show Rep _ _ _ _ _ _ (if j = j then [] else _)
            rw [if_pos rfl]
            exact rp2
          · rw [List.getElem?_set_ne fun z => hj z.symm] at q
            exact r2.sl j d' (by show (s.ρ.set i .un)[j]? = _; rw [List.getElem?_set_ne fun z => hj z.symm]; exact q)
        · have q : (s.ρ.set i (.dt (mapF flFrz d)))[j]? = some .exn := q
          by_cases hj : j = i
          · subst hj
            rw [List.getElem?_set_self hlt] at q; cases q
          · rw [List.getElem?_set_ne fun z => hj z.symm] at q
            exact r.xn j q
        · show (if j = i then [] else s.φ j) = []
          by_cases hj : j = i
          · rw [if_pos hj]
          · rw [if_neg hj]
            refine r.em j fun d' q' => q d' ?_
            show (s.ρ.set i _)[j]? = _
            rw [List.getElem?_set_ne fun z => hj z.symm]
            exact q'
      refine ⟨v, ev, h v s3 [] rfl rfl r3 (Tmp.flat rp2) ⟨a2.step, fun j hj => ?_, a2.sg⟩⟩
      have hji : j ≠ i := fun z => hj (by rw [z]; exact List.mem_singleton.mpr rfl)
      obtain ⟨y1, y2, y3⟩ := a2.fix j hj
      exact ⟨List.getElem?_set_ne fun z => hji z.symm, y2, y3⟩
end
end Cs
namespace Cs
open PySem L2 Evl PyProof.Rows

/-! ## range(a, b, c) -/
/-- a walk by steps; its end is told exactly -/
def Itl3 (lo c : Int) (n : Nat) : It := ⟨fun i _ => i < n, fun i H x H' => H' = H ∧ x = .int (lo + (i : Int) * c), fun i _ => i = n⟩
theorem turn_long {P : Program} {w : World} {K : PySem.W.Frag} {tg : Expr} (it : Addr) (lo c : Int) (n : Nat) : L2.Turn P w K tg (Itl3 lo c n) [it] it fun i h => IsLongIter h it (lo + (i : Int) * c) ((n : Int) - (i : Int)) c := by
  refine ⟨List.mem_singleton.mpr rfl, fun i h st b hb => ?_, fun i h h' st k => k it (List.mem_singleton.mpr rfl) _ st, fun X hP hw hK hc i pins s σ H E I hf st hg => ?_, fun X hP hw hK hc i pins s σ H E I hf st hg => ?_, fun A i s Q E st h => wpAny_pyIter_longiter st h⟩
  · have e := List.mem_singleton.mp hb
    subst e
    exact ⟨_, st, fun v z => nomatch z⟩
  · subst hP hw
    obtain ⟨f0, f1, f2, f3, f4, f5⟩ := hf it (List.mem_singleton.mpr rfl)
    refine (Walks.longrange (I.ok.hd hc) it lo c n).item i s _ E hg st fun v h' tk hv st' kk => ?_
    obtain ⟨t, rfl⟩ := hv
    have I1 := Inv.turned (t' := tk) I (fun b o hb e => kk b o (fun z => hb (List.mem_singleton.mp z)) e) f0 f1 f3 f4 f5
    exact ⟨_, rfl, go_of st' rfl rfl (by decide) ⟨.int (lo + (i : Int) * c), H, I1, ⟨t, rfl⟩, ⟨rfl, rfl⟩, st', fun b hb => (hf b hb).1⟩⟩
  · subst hP hw
    obtain ⟨f0, f1, f2, f3, f4, f5⟩ := hf it (List.mem_singleton.mpr rfl)
    have hg : i = n := hg
    subst hg
    exact (Walks.longrange (I.ok.hd hc) it lo c i).done s _ E st fun h' tk kk => ⟨rfl, Inv.turned (t' := tk) I (fun b o hb e => kk b o (fun z => hb (List.mem_singleton.mp z)) e) f0 f1 f3 f4 f5⟩
theorem walk_long {lo c : Int} {n : Nat} : Walk (Itl3 lo c n) n (fun _ => True) (YFn fun i => .int (lo + (i : Int) * c)) :=
  ⟨fun i H hi _ => hi, fun _ _ => rfl, fun i H x H' _ _ y => y⟩
def iRngL (ta : TA) : TI := fun σ H R => ta σ H fun vs H1 => ∃ (i j c : Int) (n : Nat), vs = [.int i, .int j, .int c] ∧ c ≠ 0 ∧ Builtin.Range.small i j c = false ∧ Builtin.Range.rangeSize i j c = (n : Int) ∧ Builtin.divisionGoesByPylong (j - i) c = false ∧ R (Itl3 i c n) H1
theorem pi_rangeL {X : Cx} {tg a b c : Expr} {ta : TA} {p pos : Pos} (hg : Gl X "range") (hm : X.mg "range" = none) (ha : PA X [a, b, c] ta) (hs : starEach [a, b, c] X.env = (false, eval a X.env) :: starEach [b, c] X.env := by rfl) (hpl : (backTo pos (starEach [b, c] X.env)).any (·.1) = false := by rfl) :
    PI X tg (.Call (.Name "range" p) [a, b, c] [] pos) (iRngL ta) := by
  refine ⟨fun pins s σ H R I h => ?_⟩
  refine Call_ (ld_blt I hg hm boot_range (PyProof.Rows.callWith_type1 (thn (ha.run pos pins s σ H _ I h) fun us s1 hh => ?_) hs hpl))
  obtain ⟨vs, H1, I1, r1, i, j, k, n, ev, c0, c1, c2, c3, q⟩ := hh
  subst ev
  cases r1 with
  | cons r rr =>
    cases rr with
    | cons r' rr' =>
      cases rr' with
      | cons r'' rr'' =>
        cases rr''
        obtain ⟨t, rfl⟩ := r
        obtain ⟨t', rfl⟩ := r'
        obtain ⟨t'', rfl⟩ := r''
        obtain ⟨hp, gn, dr, tk, os⟩ := s1
        refine call_range_3 c0 (wpAny_pyIter_longrange (IsRange.new hp i j k t t' t'') c1 ?_) (.inl c3)
        have I2 := Inv.kept (t' := tk) I1 (h' := hp.push { cls := .type "range", data := .fields #[.int i t, .int j t', .int k t''] }) fun b o e => Heap.get?_push_of_some _ e
        refine pi_one I2 _ (turn_long _ i k n) ?_ q
        show Heap.get? _ _ = _
        have e1 : i + ((0 : Nat) : Int) * k = i := by simp
        have e2 : (n : Int) - ((0 : Nat) : Int) = Builtin.Range.rangeSize i j k := by rw [c2]; simp
        rw [e1, e2]
        heap_get
def rngC (lo c : Int) (n : Nat) : List D := (List.range n).map fun (i : Nat) => .int (lo + (i : Int) * c)
def szC (i j c : Int) : Nat := (Builtin.Range.rangeSize i j c).toNat
def dRg3 (f g h : M D) : M (List D) := bnd f fun d => bnd g fun e => bnd h fun k => match d, e, k with
  | .int i, .int j, .int c => if (-1000000 ≤ i ∧ i ≤ 1000000) ∧ (-1000000 ≤ j ∧ j ≤ 1000000) ∧ ((c ≠ 0 ∧ -1000000 ≤ c ∧ c ≤ 1000000) ∨ (2 ^ 64 ≤ c ∧ c ≤ 2 ^ 200)) then ret (rngC i c (szC i j c)) else bad
  | _, _, _ => bad
theorem size_nonneg (i j c : Int) (hc : c ≠ 0) : 0 ≤ Builtin.Range.rangeSize i j c := by
  unfold Builtin.Range.rangeSize
  split
  · split
    · have := Int.ediv_nonneg (a := j - i - 1) (b := c) (by omega) (by omega)
      omega
    · omega
  · split
    · have := Int.ediv_nonneg (a := i - j - 1) (b := -c) (by omega) (by omega)
      omega
    · omega
theorem size_le (i j c : Int) (hc : c ≠ 0) (h1 : -1000000 ≤ i ∧ i ≤ 1000000) (h2 : -1000000 ≤ j ∧ j ≤ 1000000) : Builtin.Range.rangeSize i j c ≤ 2000001 := by
  unfold Builtin.Range.rangeSize
  split
  · split
    · have := Int.ediv_le_self (a := j - i - 1) c (by omega)
      omega
    · omega
  · split
    · have := Int.ediv_le_self (a := i - j - 1) (-c) (by omega)
      omega
    · omega
theorem size_nat (i j c : Int) (hc : c ≠ 0) : Builtin.Range.rangeSize i j c = ((szC i j c : Nat) : Int) := by
  unfold szC
  rw [Int.toNat_of_nonneg (size_nonneg i j c hc)]
theorem small_yes {i j c : Int} (h1 : -1000000 ≤ i ∧ i ≤ 1000000) (h2 : -1000000 ≤ j ∧ j ≤ 1000000) (h3 : c ≠ 0 ∧ -1000000 ≤ c ∧ c ≤ 1000000) : Builtin.Range.small i j c = true := by
  have s1 := size_le i j c h3.1 h1 h2
  have s0 := size_nonneg i j c h3.1
  unfold Builtin.Range.small Builtin.Range.rangeFitsLong
  simp only [Bool.and_eq_true, decide_eq_true_eq, Bool.or_eq_true, beq_iff_eq]
  refine ⟨⟨⟨⟨⟨by omega, by omega⟩, by omega, by omega⟩, by omega, by omega⟩, by omega, by omega⟩, .inr ?_⟩
  split <;> simp only [Bool.and_eq_true, decide_eq_true_eq] <;> omega
theorem small_no {i j c : Int} (h : 2 ^ 64 ≤ c) : Builtin.Range.small i j c = false := by
  unfold Builtin.Range.small
  have z : Builtin.Range.rangeFitsLong c = false := by
    unfold Builtin.Range.rangeFitsLong
    rw [Bool.and_eq_false_iff]
    right
    exact decide_eq_false (by omega)
  rw [z]
  simp
theorem long_div {x c : Int} (h : c ≤ 2 ^ 200) (h0 : 2 ^ 64 ≤ c) : Builtin.divisionGoesByPylong x c = false := by
  unfold Builtin.divisionGoesByPylong
  have hb : c.natAbs < 2 ^ 201 := by omega
  have hl : c.natAbs.log2 < 201 := (Nat.log2_lt (by omega)).mpr hb
  dsimp only
  rw [Bool.and_eq_false_iff]
  left
  apply decide_eq_false
  split
  · omega
  · omega
section
variable {T : Tx} {B : Hp} {s : S5}
theorem src_rangeC {lo c : Int} {n : Nat} {J : It} (w : Walk J n (fun _ => True) (YFn fun i => .int (lo + (i : Int) * c))) : Src T B J n (fun _ => True) (YFn fun i => .int (lo + (i : Int) * c)) s.F (rngC lo c n) := by
  refine ⟨w, by simp [rngC], fun _ _ _ => trivial, fun i x H' s1 hi r e y => ?_⟩
  obtain ⟨e1, e2⟩ := y
  subst e2
  exact ⟨.int (lo + (i : Int) * c), s1, by simp [rngC, hi], e1.symm, rfl, rfl, r, Goes.refl, .int _⟩
end
section
variable {X : Cx} {G : Gx} {W : WX} {t1 t2 t3 : List Nat} {tg a b c : Expr} {pos p : Pos} {f g h : M D}
theorem gi_range3 (hg : Gl X "range") (hm : X.mg "range" = none) (h1 : GE X G W t1 a f) (h2 : GE X G W t2 b g) (h3 : GE X G W t3 c h) (hs : starEach [a, b, c] X.env = (false, eval a X.env) :: starEach [b, c] X.env := by rfl) (hs2 : starEach [b, c] X.env = (false, eval b X.env) :: starEach [c] X.env := by rfl) (hs3 : starEach [c] X.env = [(false, eval c X.env)] := by rfl) (hpl : (backTo pos (starEach [b, c] X.env)).any (·.1) = false := by rfl) :
    GI X G W (t1 ++ (t2 ++ t3)) tg (.Call (.Name "range" p) [a, b, c] [] pos) (dRg3 f g h) := by
  have pa := pa_cons h1 (pa_cons h2 (pa_cons h3 pa_nil hs3) hs2) hs
  refine pi_mono (pi_alt (pi_range3 hg hm pa hs hpl) (pi_rangeL hg hm pa hs hpl)) fun σ H R ⟨B, s, e1, e2, rl, hp⟩ => ?_
  subst e1 e2
  have key : ∀ (Kc : List V → Hp → Prop), (∀ (i j c : Int) (ρ1 ρ2 : En) (s3 : S5), f s.ρ = .ok (.int i) ρ1 → g ρ1 = .ok (.int j) ρ2 → h ρ2 = .ok (.int c) s3.ρ → s3.σ = s.σ → Okk (tx X G) B s3 → Goes (t1 ++ (t2 ++ t3)) s s3 [] → Post (okI (tx X G) B (t1 ++ (t2 ++ t3)) s R) (exE (tx X G) W B (t1 ++ (t2 ++ t3)) s) ((if (-1000000 ≤ i ∧ i ≤ 1000000) ∧ (-1000000 ≤ j ∧ j ≤ 1000000) ∧ ((c ≠ 0 ∧ -1000000 ≤ c ∧ c ≤ 1000000) ∨ (2 ^ 64 ≤ c ∧ c ≤ 2 ^ 200)) then ret (rngC i c (szC i j c)) else bad) s3.ρ) → Kc [.int i, .int j, .int c] s3.H) →
      tCons (tD (tx X G) W t1 f) (tCons (tD (tx X G) W t2 g) (tCons (tD (tx X G) W t3 h) tNil)) s.σ s.H Kc := by
    intro Kc hK
    refine seqE rl hp fun d v s1 g1 ed hs r1 t a hp1 => ?_
    show tCons (tD (tx X G) W t2 g) _ s.σ s1.H _
    rw [← hs]
    refine ⟨B, s1, rfl, rfl, r1, hp1.bnd.imp (fun d2 ρ2 ⟨ed2, h4⟩ v2 s2 g2 q1 q2 r2 t2' a2 => ?_) fun _ _ _ _ z cls dd s' q1 q2 q3 q4 q5 => z cls dd s' q1 (q2.trans hs) q3 q4 ((a.trans0 q5).wk fun j w => by
      rcases List.mem_append.mp w with w | w
      · exact memL w
      · exact memR (memL w))⟩
    subst q1
    show tCons (tD (tx X G) W t3 h) _ s1.σ s2.H _
    rw [← q2]
    have a12 := a.trans0 a2
    refine ⟨B, s2, rfl, rfl, r2, h4.bnd.imp (fun d3 ρ3 ⟨ed3, h5⟩ v3 s3 g3 q3 q4 r3 t3' a3 => ?_) fun _ _ _ _ z cls dd s' w1 w2 w3 w4 w5 => z cls dd s' w1 (w2.trans (q2.trans hs)) w3 w4 ((a12.trans0 w5).wk fun j w => by rw [List.append_assoc] at w; exact w)⟩
    subst q3
    have a123 : Goes (t1 ++ (t2 ++ t3)) s s3 [] := ((a12.trans0 a3).drop0).wk fun j w => by rw [List.append_assoc] at w; exact w
    cases d with
    | int i =>
      cases d2 with
      | int j =>
        cases d3 with
        | int c =>
          obtain ⟨rp, _, _, _⟩ := t
          cases rp
          obtain ⟨rp, _, _, _⟩ := t2'
          cases rp
          obtain ⟨rp, _, _, _⟩ := t3'
          cases rp
          exact hK i j c s1.ρ s2.ρ s3 ed ed2 ed3 (q4.trans (q2.trans hs)) r3 a123 h5
        | _ => exact h5.elim
      | _ => exact h5.elim
    | _ => exact h5.elim
  by_cases big : ∃ ρ1 ρ2 ρ3 i j c, f s.ρ = .ok (.int i) ρ1 ∧ g ρ1 = .ok (.int j) ρ2 ∧ h ρ2 = .ok (.int c) ρ3 ∧ (2 : Int) ^ 64 ≤ c
  · refine .inr (key _ fun i j c ρ1 ρ2 s3 y1 y2 y3 y4 y5 y6 y7 => ?_)
    obtain ⟨ρ1', ρ2', ρ3', i', j', c', z1, z2, z3, z4⟩ := big
    rw [y1] at z1; cases z1
    rw [y2] at z2; cases z2
    rw [y3] at z3; cases z3
    split at y7
    case isFalse => exact y7.elim
    rename_i hh
    obtain ⟨b1, b2, b3⟩ := hh
    have b4 : (2 : Int) ^ 64 ≤ c ∧ c ≤ 2 ^ 200 := by
      rcases b3 with z | z
      · omega
      · exact z
    have c0 : c ≠ 0 := by omega
    exact ⟨i, j, c, szC i j c, rfl, c0, small_no b4.1, size_nat i j c c0, long_div b4.2 b4.1, y7 _ _ _ _ s3 rfl y4 y5 y6 (src_rangeC walk_long)⟩
  · refine .inl (key _ fun i j c ρ1 ρ2 s3 y1 y2 y3 y4 y5 y6 y7 => ?_)
    have nb : ¬ (2 : Int) ^ 64 ≤ c := fun z => big ⟨ρ1, ρ2, s3.ρ, i, j, c, y1, y2, y3, z⟩
    split at y7
    case isFalse => exact y7.elim
    rename_i hh
    obtain ⟨b1, b2, b3⟩ := hh
    have b4 : c ≠ 0 ∧ -1000000 ≤ c ∧ c ≤ 1000000 := by
      rcases b3 with z | z
      · exact z
      · exact absurd z.1 nb
    exact ⟨i, j, c, szC i j c, rfl, ⟨b4.1, by omega, small_yes b1 b2 b4, size_nat i j c b4.1⟩, y7 _ _ _ _ s3 rfl y4 y5 y6 (src_rangeC walk_rangeC)⟩
end
/-! ## slices -/
section
variable {X : Cx} {G : Gx} {W : WX} {t1 t2 t3 tc : List Nat} {e : Expr} {lo hi : Option Expr} {pos p2 : Pos} {f : M D} {g h : M (Option Int)}
def tDO (T : Tx) (W : WX) (tc : List Nat) (f : M (Option Int)) : TO := fun σ H Q => ∃ B s, s.σ = σ ∧ s.H = H ∧ Okk T B s ∧ Post (fun o ρ => ∀ s', s'.ρ = ρ → s'.σ = s.σ → Okk T B s' → Goes tc s s' [] → Q o s'.H) (exE T W B tc s) (f s.ρ)
abbrev GO2 (X : Cx) (G : Gx) (W : WX) (tc : List Nat) (e : Option Expr) (f : M (Option Int)) : Prop := PO X e (tDO (tx X G) W tc f)
def dPart (f : M D) : M (Option Int) := bnd f fun d => match d with
  | .int i => ret (some i)
  | _ => bad
theorem po_mono {t t' : TO} (h : PO X lo t) (i : ∀ σ H Q, t' σ H Q → t σ H Q) : PO X lo t' := ⟨fun pins s σ H Q I q => h.run pins s σ H Q I (i σ H Q q)⟩
theorem go2_none : GO2 X G W [] none (ret none) := po_mono po_none fun σ H Q ⟨B, s, e1, e2, r, h⟩ => by
  subst e1 e2
  exact h s rfl rfl r Goes.refl
theorem go2_some (he : GE X G W tc e f) : GO2 X G W tc (some e) (dPart f) := po_mono (po_some he) fun σ H Q ⟨B, s, e1, e2, r, h⟩ => by
  subst e1 e2
  refine seqE1 (okk := fun o ρ => ∀ s', s'.ρ = ρ → s'.σ = s.σ → Okk (tx X G) B s' → Goes tc s s' [] → Q o s'.H) r h fun d v s1 g _ hs r1 t a h => ?_
  cases d with
  | int i =>
    obtain ⟨rp, _, _, _⟩ := t
    cases rp
    exact ⟨i, rfl, h s1 rfl hs r1 a.drop0⟩
  | _ => exact h.elim
def cutD (xs : List D) (lo hi : Option Int) : List D := (xs.drop (HT.sIx xs.length 0 lo)).take (HT.sIx xs.length xs.length hi - HT.sIx xs.length 0 lo)
def dSl (f : M D) (g h : M (Option Int)) : M D := bnd f fun d => bnd g fun lo => bnd h fun hi => match d with
  | .lst _ xs => if allF noOw d = true then ret (.lst .ow (cutD xs lo hi)) else bad
  | _ => bad
theorem Reps.drop {T : Tx} {B H F : Hp} : ∀ {n : Nat} {xs : List D} {vs : List V}, Reps T B H F xs vs [] → Reps T B H F (xs.drop n) (vs.drop n) []
  | 0, _, _, h => h
  | _ + 1, _, _, .nil => .nil
  | n + 1, _, _, .cons r rs e => by
    obtain ⟨rfl, rfl⟩ := List.append_eq_nil_iff.mp e.symm
    exact Reps.drop (n := n) rs
theorem Reps.take {T : Tx} {B H F : Hp} : ∀ {n : Nat} {xs : List D} {vs : List V}, Reps T B H F xs vs [] → Reps T B H F (xs.take n) (vs.take n) []
  | 0, _, _, _ => .nil
  | _ + 1, _, _, .nil => .nil
  | n + 1, _, _, .cons r rs e => by
    obtain ⟨rfl, rfl⟩ := List.append_eq_nil_iff.mp e.symm
    exact .cons r (Reps.take (n := n) rs) rfl
/-- xs[a:b], xs a list -/
theorem g_slice (h1 : GE X G W t1 e f) (h2 : GO2 X G W t2 lo g) (h3 : GO2 X G W t3 hi h) : GE X G W (t1 ++ (t2 ++ t3)) (.Subscript e (.Slice lo hi none p2) pos) (dSl f g h) :=
  pe_mono (pe_slice sl_list h1 h2 h3) fun σ H Q ⟨B, s, e1, e2, r, hp⟩ => by
    subst e1 e2
    refine seqE r hp fun d v s1 g1 _ hs r1 t a hp1 => ?_
    rw [← hs]
    refine ⟨B, s1, rfl, rfl, r1, hp1.bnd.imp (fun lo ρ2 ⟨_, h4⟩ s2 q1 q2 r2 a2 => ?_) fun _ _ _ _ z cls dd s' q1 q2 q3 q4 q5 => z cls dd s' q1 (q2.trans hs) q3 q4 ((a.trans0 q5).wk fun j w => by
      rcases List.mem_append.mp w with w | w
      · exact memL w
      · exact memR (memL w))⟩
    subst q1
    have a12 := a.trans0 a2
    rw [← q2]
    refine ⟨B, s2, rfl, rfl, r2, h4.bnd.imp (fun hi ρ3 ⟨_, h5⟩ s3 q3 q4 r3 a3 => ?_) fun _ _ _ _ z cls dd s' w1 w2 w3 w4 w5 => z cls dd s' w1 (w2.trans (q2.trans hs)) w3 w4 ((a12.trans0 w5).wk fun j w => by rw [List.append_assoc] at w; exact w)⟩
    subst q3
    have a123 : Goes (t1 ++ (t2 ++ t3)) s s3 [] := (a12.trans0 a3).wk fun j w => by rw [List.append_assoc] at w; exact w
    cases d with
    | lst o xs =>
      dsimp only at h5
      split at h5
      case isFalse => exact h5.elim
      rename_i hn
      have z := rep_v t.rep hn
      obtain ⟨p, vs, rfl, rp, sq⟩ := z.listS
      have e13 : Ex s1.F s3.F := a2.step.ext.trans a3.step.ext
      refine ⟨p, vs, rfl, sq s3.H s3.F e13 r3.exF r3.exB, fun q hq => ?_⟩
      have rq : Reps (tx X G) B s3.H s3.F (cutD xs lo hi) (cutV vs lo hi) [] := by
        unfold cutD cutV
        rw [rp.len]
        exact (rp.drop.take).mono (Ex.refl B) e13 fun _ z => by cases z
      have z := a123.trans0 (goes_new (o := .lst (cutV vs lo hi)) r3 hq)
      rw [List.append_nil] at z
      exact h5 (.ref q) (s3.new q (.lst (cutV vs lo hi))) [q] rfl (q4.trans (q2.trans hs)) (r3.new hq) (tmp_newL r3 hq rq) z
    | _ => exact h5.elim
end
end Cs
namespace Cs
open PySem L2 Evl PyProof.Rows

/-! ## xs[j].append(e) -/
def appAt2 (j d : D) (xs : List D) : Option (List D) := (inner j xs).bind fun (n, ys) => if ys.length < lim ∧ allF noOw d = true then some (xs.set n (.lst .ow (ys ++ [d]))) else none
def dApp2 (i : Nat) (fj fe : M D) : M Flw := bnd (dPk i) fun _ => bnd fj fun j => dIn2 i j (bnd (dFz fe) fun d => dMutL i (appAt2 j d))
section
variable {X : Cx} {G : Gx} {W : WX} {tc t1 t2 : List Nat} {a b e : Expr} {pos pos2 pos' apos cpos p p2 : Pos} {u w : M D} {i : Nat} {x : Str}
theorem app2_core {T : Tx} {i : Nat} {σ : L2.St} {H : Hp} {E : Ends} (ht : i ∉ t1) (h : tDS T W (t2 ++ (t1 ++ [i])) (dApp2 i w u) E σ H) : tDrop (tBM T.K "list" rAppend (tOp (rIx T.K) (tVar i) (tD T W t2 w)) (tCons (tD T W t1 (dFz u)) tNil)) E σ H := by
  obtain ⟨B, s, e1, e2, r, hp⟩ := h
  subst e1 e2
  obtain ⟨d0, e0, hp⟩ := pk_bnd hp
  obtain ⟨v0, ev0, _⟩ := r.sl i d0 (slot_some e0)
  refine ⟨v0, ev0, ?_⟩
  refine seqES r hp (fun _ => memL) fun j vj s2 g2 _ hs2 r2 tj a2 h2 => ?_
  have h2' : Post (okS T B (t1 ++ [i]) s2 E) (exS T W B (t1 ++ [i]) s2) (dIn2 i j (bnd (dFz u) fun d => dMutL i (appAt2 j d)) s2.ρ) := h2.imp (fun _ _ q => q.re a2) fun _ _ _ _ q => q.re a2
  unfold dIn2 at h2'
  cases eb : (slotL i s2.ρ).bind (inner j) with
  | none => rw [eb] at h2'; exact h2'.elim
  | some ny =>
    rw [eb] at h2'
    obtain ⟨n, ys⟩ := ny
    obtain ⟨xs, ex, ei⟩ := Option.bind_eq_some_iff.mp eb
    obtain ⟨m, rfl, em, en, hy⟩ := inner_some ei
    obtain ⟨rj, _, _, _⟩ := tj
    cases rj
    have esl := slotL_some ex
    obtain ⟨v2, ev2, rp⟩ := r2.sl i _ esl
    rw [hs2, ev0] at ev2
    cases ev2
    have nd := r2.nd i
    obtain ⟨pa, vs, fp, rfl, q, rs, eg⟩ := rp.ow_inv
    rw [eg] at nd
    obtain ⟨p1, us, x1, x2, x3, x4, x5⟩ := rs.inner n (List.nodup_cons.mp nd).2 en hy
    refine .inl ⟨pa, vs, m, .ref p1, rfl, rfl, sq_of q, atI_ix (by rw [← rs.len]; exact em) x1, .inl ⟨rfl, us, sq_of x2⟩, ?_⟩
    rw [← hs2]
    refine seqES r2 h2' (fun _ => memL) fun d v s3 g3 ed hs3 r3 t a3 h3 => ?_
    have hn := dFz_frz ed
    have rd := rep_v t.rep hn
    -- slot i is as it was
    obtain ⟨f1, f2, f3⟩ := a3.fix i ht
    obtain ⟨pb, vs1, fp1, xs1, ys1, q1, q2, q3, q4, q5, q6, q7⟩ := mutL_open r3 h3
    rw [f1, esl] at q1
    cases q1
    rw [hs3, hs2, ev0] at q2
    cases q2
    have hH : s3.H pa = s2.H pa := f3 pa (by rw [eg]; exact List.mem_cons_self)
    rw [hH, q] at q3
    cases q3
    rw [f2, eg] at q5
    cases q5
    unfold appAt2 at q6
    rw [ei] at q6
    obtain ⟨p1', us', y1, y2, y3, y4, y5⟩ := q4.inner n (List.nodup_cons.mp nd).2 en hy
    rw [x1] at y1
    cases y1
    dsimp only [Option.bind_some] at q6
    split at q6
    · rename_i hlen
      cases q6
      have nw := y5 (us' ++ [v]) (ys ++ [d]) (y3.snoc rd)
      have pne : pa ≠ p1 := fun z => (List.nodup_cons.mp nd).1 (by rw [z]; exact y4)
      have hp1 : p1 ∈ s3.φ i := by rw [f2, eg]; exact List.mem_cons_of_mem _ y4
      have hok := mut_ok (gt := []) (p := p1) (o := .lst (us' ++ [v])) (d' := .lst .ow (xs.set n (.lst .ow (ys ++ [d])))) (g := pa :: fp) r3 (by rw [f1]; exact esl) (by rw [hs3, hs2]; exact ev0) hp1
        (.lstO (by rw [upd_ne pne, hH]; exact q) nw rfl) nd (fun x hx => .inl (by rw [f2, eg]; exact hx)) (fun _ h => (by cases h)) (fun _ h => (by cases h))
      refine ⟨p1, us', v, rfl, rfl, y2, by rw [← y3.len]; exact lim_lt hlen.1, ?_⟩
      have z := q7 _ rfl hok (mut_goes r3 a3.drop0 hp1 fun x hx => .inl (by rw [f2, eg]; exact hx))
      show E.nx s2.σ (L2.upd s3.H p1 (.lst (us' ++ [v])))
      rw [← hs3]
      exact z
    · cases q6
theorem gs_app2 (hv : PE X (.Name x p) (tVar i)) (hj : GE X G W t2 b w) (h : GE X G W t1 a u) (ht : i ∉ t1 := by decide) (hpi : PlainIx b := by intro _ _; rfl) (hs : starEach [a] X.env = (false, eval a X.env) :: starEach [] X.env := by rfl)
    (hbase : attributeBase (.Subscript (.Name x p) b pos2) "append" X.env (eval (.Subscript (.Name x p) b pos2) X.env) = eval (.Subscript (.Name x p) b pos2) X.env := by rfl) (hline : (apos.endLine == cpos.line) = true := by rfl)
    (hfew : ((backTo cpos (starEach [a] X.env)).all (fun x => !x.1) && (backToKw cpos (keywordEach [] X.env)).all (fun x => x.1.isSome)
      && decide ([a].length + ([] : List Keyword).length + (if ([] : List Keyword).isEmpty then 0 else 1) < 30)) = true := by rfl)
    (hsw : swapsWith (.Call (.Attribute (.Subscript (.Name x p) b pos2) "append" apos) [a] [] cpos) none pos.line X.env = pure false := by rfl) : GS X G W (t2 ++ (t1 ++ [i])) (.Expr (.Call (.Attribute (.Subscript (.Name x p) b pos2) "append" apos) [a] [] cpos) pos) (dApp2 i w u) :=
  ps_mono (ps_expr (pe_bm PySem.F.plainAttrs_list PySem.F.slot_list_append PySem.F.type_list_append mt_append (pe_ix ix_seq hv hj hpi) (pa_cons (g_fz h) pa_nil hs) hbase hfew hline hs rfl) hsw) fun E σ H h => app2_core ht h
end
end Cs
namespace Cs
open PySem L2 Evl PyProof.Rows

/-! ## a law's end -/
abbrev P0 : Hp := fun _ => none
def scr (ns : List Int) : D := .lst .ro (ns.map D.int)
def spLaw (K : PySem.W.Frag) (n : Nat) : Sp := fun vs H Q _ => ∃ (a : Addr) (ns : List Int), vs = [.ref a] ∧ SqL K H a (ns.map V.int) ∧ ns.length ≤ n ∧ ∀ H', Q (.bl true) H'
theorem reps_ints {T : Tx} {B H F : Hp} : ∀ ns : List Int, Reps T B H F (ns.map D.int) (ns.map V.int) []
  | [] => .nil
  | n :: ns => .cons (.int n) (reps_ints ns) rfl
theorem sp_imp {K : PySem.W.Frag} {C : Str → Option Addr} {m : List D → Res} {n : Nat} (hm : ∀ ns : List Int, ns.length ≤ n → ∃ os, m [scr ns] = .ok (.bl true) os) {vs : List V} {H : Hp} {Q : VK} {E : XK} (h : spLaw K n vs H Q E) : spM ⟨K, C, P0, none⟩ m vs H Q E := by
  obtain ⟨a, ns, rfl, hS, hl, hQ⟩ := h
  obtain ⟨os, e⟩ := hm ns hl
  refine ⟨fun _ => none, ⟨[some (.ref a)], H, H, [.dt (scr ns)], fun _ => []⟩, [scr ns], rfl, rfl, rfl, ⟨rfl, fun _ _ z => (by cases z), Ex.refl H, fun _ _ z => (by cases z), fun i d q => ?_, fun i q => ?_, fun _ _ => rfl, fun _ => .nil, fun _ _ _ _ z => (by cases z), fun _ _ z => (by cases z)⟩, ?_⟩
  · cases i with
    | zero =>
      cases q
      exact ⟨.ref a, rfl, .lstR hS (reps_ints ns)⟩
    | succ i => simp at q
  · cases i with
    | zero => cases q
    | succ i => simp at q
  · rw [e]
    intro v s' g q1 q2 q3 q4 q5 q6 q7
    obtain ⟨rp, _, _, _⟩ := q4
    cases rp
    exact hQ s'.H
theorem law_fn {P : Program} {w : World} {K : PySem.W.Frag} {mg : Str → Option Value} {base : Heap} {k : Nat} {f : Addr} {fd : FuncData} {ps : List Str} {C : Str → Option Addr} {m : List D → Res} {n : Nat} (hm : ∀ ns : List Int, ns.length ≤ n → ∃ os, m [scr ns] = .ok (.bl true) os)
    (F : FnOk P w K mg base (L2.CX P w) k f fd ps (spM ⟨K, C, P0, none⟩ m)) : FnOk P w K mg base (L2.CX P w) k f fd ps (spLaw K n) :=
  ⟨fun vs H Q E h => F.len vs H Q E (sp_imp hm h), fun A outer s H args us vs Q E hr e b v h => F.run A outer s H args us vs Q E hr e b v (sp_imp hm h)⟩
theorem cx_false {P : Program} {w : World} {H : Hp} {s : Shared} {e : Value} {s' : Shared} (h : L2.CX P w [] H s (fun _ _ _ => False) e s') : False := by
  obtain ⟨_, _, _, _, _, _, _, _, _, _, _, _, z⟩ := h
  exact z
/-- THE RULE for a def, with what its body's derivation asks -/
theorem _root_.L2.Fun.toD {K : PySem.W.Frag} {x qual : Str} {st : Stmt} {f : Addr} {fd : FuncData} (F : Fun K x qual st f fd) : FunD K x qual (defArgs st) (defBody st) (defScope st) [] [] f fd := by
  obtain ⟨⟨oc, od, kV, doc, pm, an, cdv, ct, osl, e, lk, hcd⟩, kp⟩ := F
  exact ⟨⟨oc, od, .none, kV, doc, pm, an, cdv, ct, osl, e, lk, hcd, .inl ⟨rfl, rfl⟩, .inl rfl⟩, kp⟩
theorem fn_den2D {P : Program} {w : World} {K : PySem.W.Frag} {mg : Str → Option Value} {base : Heap} {x qual : Str} {st : Stmt} {f : Addr} {fd : FuncData} {N ps : List Str} {k : Nat} {G : Gx} {tc pr : List Nat} {den : M Flw}
    {dvs : List V} {kws : List (Str × V)} (F : FunD K x qual (defArgs st) (defBody st) (defScope st) dvs kws f fd) (S : FnScope N ps (defScope st)) (hpr : ∀ i ∈ pr, i + 1000 ∉ tc)
    (hd : ∀ (cdv : Value) (A : Around) (outer : List Env) (s : Shared) (H : Hp) (E : XK), Room k (A.deeper (envOfC qual (defScope st) s.heap.objs.size f cdv)) →
      Takes (cxOf (L2.CX P w) P w K mg base N qual (defScope st) f cdv A outer s H E) (fun cls d _ H => E cls d H) → PassesOwn (model P w) (cxOf (L2.CX P w) P w K mg base N qual (defScope st) f cdv A outer s H E).A (cxOf (L2.CX P w) P w K mg base N qual (defScope st) f cdv A outer s H E).env (cxOf (L2.CX P w) P w K mg base N qual (defScope st) f cdv A outer s H E).xe →
      (cxOf (L2.CX P w) P w K mg base N qual (defScope st) f cdv A outer s H E).A.units + 65 < cLine →
      GSs (cxOf (L2.CX P w) P w K mg base N qual (defScope st) f cdv A outer s H E) G (fun cls d _ H => E cls d H) tc (defBody st) den) :
    FnOk P w K mg base (L2.CX P w) (k + 1) f fd ps (spM ⟨K, G.C, G.P, G.X⟩ (run den pr N.length ps.length)) :=
  fn_den F S hpr fun cdv A outer s H E hr => hd cdv A outer s H E hr (takes_of rfl rfl rfl rfl) (passes_of rfl) (by have := hr.un; show (A.deeper (envOfC qual (defScope st) s.heap.objs.size f cdv)).units + 65 < cLine; omega)
theorem fn_den2 {P : Program} {w : World} {K : PySem.W.Frag} {mg : Str → Option Value} {base : Heap} {x qual : Str} {st : Stmt} {f : Addr} {fd : FuncData} {N ps : List Str} {k : Nat} {G : Gx} {tc pr : List Nat} {den : M Flw}
    (F : Fun K x qual st f fd) (S : FnScope N ps (defScope st)) (hpr : ∀ i ∈ pr, i + 1000 ∉ tc)
    (hd : ∀ (cdv : Value) (A : Around) (outer : List Env) (s : Shared) (H : Hp) (E : XK), Room k (A.deeper (envOfC qual (defScope st) s.heap.objs.size f cdv)) →
      Takes (cxOf (L2.CX P w) P w K mg base N qual (defScope st) f cdv A outer s H E) (fun cls d _ H => E cls d H) → PassesOwn (model P w) (cxOf (L2.CX P w) P w K mg base N qual (defScope st) f cdv A outer s H E).A (cxOf (L2.CX P w) P w K mg base N qual (defScope st) f cdv A outer s H E).env (cxOf (L2.CX P w) P w K mg base N qual (defScope st) f cdv A outer s H E).xe →
      (cxOf (L2.CX P w) P w K mg base N qual (defScope st) f cdv A outer s H E).A.units + 65 < cLine →
      GSs (cxOf (L2.CX P w) P w K mg base N qual (defScope st) f cdv A outer s H E) G (fun cls d _ H => E cls d H) tc (defBody st) den) :
    FnOk P w K mg base (L2.CX P w) (k + 1) f fd ps (spM ⟨K, G.C, G.P, G.X⟩ (run den pr N.length ps.length)) :=
  fn_den2D F.toD S hpr hd
/-- the classes by their names -/
def cls (l : List (Str × Addr)) : Str → Option Addr := fun s => l.lookup s
theorem cls_mem {l : List (Str × Addr)} {c : Str} {A : Addr} (h : cls l c = some A) : (c, A) ∈ l := by
  unfold cls at h
  induction l with
  | nil => simp at h
  | cons p l ih =>
    obtain ⟨a, b⟩ := p
    rw [List.lookup_cons] at h
    cases e : c == a with
    | true =>
      rw [e] at h
      cases h
      have e : c = a := by simpa using e
      subst e
      exact List.mem_cons_self
    | false =>
      rw [e] at h
      exact List.mem_cons_of_mem _ (ih h)
theorem sb_of {K : PySem.W.Frag} {l : List (Str × Addr)} {x : Str} {Cx : Addr} (h : ∀ p ∈ l, PySem.W.exmOne K (.ref p.2) (.ref Cx) = some (subX p.1 x)) : ∀ c A, cls l c = some A → PySem.W.exmOne K (.ref A) (.ref Cx) = some (subX c x) := fun c A e => h (c, A) (cls_mem e)
end Cs
namespace Cs
open L2

/-! ## what a denotation does, by rewriting -/
section
variable {α β : Type} {Q : α → En → Prop} {X : PySem.Str → List PySem.Str → List D → En → Prop} {ρ : En}
def slW (o : Option D) (K : D → Prop) : Prop := match o with
  | some d => K d
  | none => False
def prW (p : PR) (K : D → Prop) : Prop := match p with
  | .sc d => K d
  | .nl ds => K (.lst .ow ds)
  | .nt ds => K (.tup ds)
  | .bad => False
def blW (d : D) (K : Bool → Prop) : Prop := match d with
  | .bl b => K b
  | _ => False
@[simp] theorem slW_some {d : D} {K : D → Prop} : slW (some d) K = K d := rfl
@[simp] theorem slW_none {K : D → Prop} : slW none K = False := rfl
@[simp] theorem prW_sc {d : D} {K : D → Prop} : prW (.sc d) K = K d := rfl
@[simp] theorem prW_nl {d : List D} {K : D → Prop} : prW (.nl d) K = K (.lst .ow d) := rfl
@[simp] theorem prW_nt {d : List D} {K : D → Prop} : prW (.nt d) K = K (.tup d) := rfl
@[simp] theorem prW_bad {K : D → Prop} : prW .bad K = False := rfl
@[simp] theorem prW_if {c : Prop} [Decidable c] {p : PR} {K : D → Prop} : prW (if c then p else .bad) K = (c ∧ prW p K) := by
  by_cases h : c <;> simp [h]
@[simp] theorem blW_bl {b : Bool} {K : Bool → Prop} : blW (.bl b) K = K b := rfl
@[simp] theorem slot_zero {d : D} {r : En} : slot 0 (.dt d :: r) = some d := rfl
@[simp] theorem slot_succ {i : Nat} {s : Sl} {r : En} : slot (i + 1) (s :: r) = slot i r := rfl
@[simp] theorem post_ok {a : α} : Post Q X (.ok a ρ) = Q a ρ := rfl
@[simp] theorem post_exc {c : PySem.Str} {ks : List PySem.Str} {xs : List D} : Post Q X (.exc c ks xs ρ : Out α) = X c ks xs ρ := rfl
@[simp] theorem post_badO : Post Q X (.bad : Out α) = False := rfl
@[simp] theorem post_ret {a : α} : Post Q X (ret a ρ) = Q a ρ := rfl
@[simp] theorem post_bad : Post Q X (bad ρ : Out α) = False := rfl
@[simp] theorem post_bnd {f : M β} {k : β → M α} : Post Q X (bnd f k ρ) = Post (fun a ρ1 => Post Q X (k a ρ1)) X (f ρ) := by
  unfold bnd
  cases f ρ <;> rfl
@[simp] theorem post_pk {i : Nat} {Q : D → En → Prop} : Post Q X (dPk i ρ) = slW (slot i ρ) fun d => Q d ρ := by
  unfold dPk
  cases slot i ρ <;> rfl
@[simp] theorem post_cp {i : Nat} {Q : D → En → Prop} : Post Q X (dCp i ρ) = slW (slot i ρ) fun d => allF noOw d = true ∧ Q d ρ := by
  unfold dCp
  cases slot i ρ with
  | none => rfl
  | some d =>
    by_cases h : allF noOw d = true <;> simp [h]
@[simp] theorem post_mv {i : Nat} {Q : D → En → Prop} : Post Q X (dMv i ρ) = slW (slot i ρ) fun d => Q d (ρ.set i .un) := by
  unfold dMv
  cases slot i ρ <;> rfl
@[simp] theorem post_fs {i : Nat} {Q : D → En → Prop} : Post Q X (dFs i ρ) = slW (slot i ρ) fun d => Q (mapF flFrz d) (ρ.set i (.dt (mapF flFrz d))) := by
  unfold dFs
  cases slot i ρ <;> rfl
@[simp] theorem post_fz {f : M D} {Q : D → En → Prop} : Post Q X (dFz f ρ) = Post (fun d ρ1 => Q (mapF flFrz d) ρ1) X (f ρ) := by
  unfold dFz
  rw [post_bnd]
  rfl
@[simp] theorem post_pr {p : PR} {Q : D → En → Prop} : Post Q X (pr p ρ) = prW p fun d => Q d ρ := by cases p <;> rfl
@[simp] theorem post_op1v {p : D → PR} {f : M D} {Q : D → En → Prop} : Post Q X (dOp1 p (.v f) ρ) = Post (fun x ρ1 => prW (p x) fun d => Q d ρ1) X (f ρ) := by
  unfold dOp1; simp
@[simp] theorem post_op1p {p : D → PR} {i : Nat} {Q : D → En → Prop} : Post Q X (dOp1 p (.p i) ρ) = slW (slot i ρ) fun x => prW (p x) fun d => Q d ρ := by
  unfold dOp1; simp
@[simp] theorem post_op2vv {p : D → D → PR} {f g : M D} {Q : D → En → Prop} : Post Q X (dOp2 p (.v f) (.v g) ρ) = Post (fun x ρ1 => Post (fun y ρ2 => prW (p x y) fun d => Q d ρ2) X (g ρ1)) X (f ρ) := by
  unfold dOp2; simp
@[simp] theorem post_op2pv {p : D → D → PR} {i : Nat} {g : M D} {Q : D → En → Prop} : Post Q X (dOp2 p (.p i) (.v g) ρ) = slW (slot i ρ) fun _ => Post (fun y ρ2 => slW (slot i ρ2) fun x => prW (p x y) fun d => Q d ρ2) X (g ρ) := by
  unfold dOp2; simp
@[simp] theorem post_op2vp {p : D → D → PR} {f : M D} {j : Nat} {Q : D → En → Prop} : Post Q X (dOp2 p (.v f) (.p j) ρ) = Post (fun x ρ1 => slW (slot j ρ1) fun y => prW (p x y) fun d => Q d ρ1) X (f ρ) := by
  unfold dOp2; simp
@[simp] theorem post_op2pp {p : D → D → PR} {i j : Nat} {Q : D → En → Prop} : Post Q X (dOp2 p (.p i) (.p j) ρ) = slW (slot i ρ) fun x => slW (slot j ρ) fun y => prW (p x y) fun d => Q d ρ := by
  unfold dOp2; simp
@[simp] theorem post_B {f : M D} {Q : Bool → En → Prop} : Post Q X (dB f ρ) = Post (fun d ρ1 => blW d fun b => Q b ρ1) X (f ρ) := by
  unfold dB
  rw [post_bnd]
  congr 1
  funext d ρ1
  cases d <;> rfl
@[simp] theorem post_not {f : M Bool} {Q : Bool → En → Prop} : Post Q X (dNot f ρ) = Post (fun b ρ1 => Q (!b) ρ1) X (f ρ) := by
  unfold dNot; simp
@[simp] theorem post_and {f g : M Bool} {Q : Bool → En → Prop} : Post Q X (dAnd f g ρ) = Post (fun b ρ1 => if b = true then Post Q X (g ρ1) else Q false ρ1) X (f ρ) := by
  unfold dAnd
  rw [post_bnd]
  congr 1
  funext b ρ1
  cases b <;> simp
@[simp] theorem post_or {f g : M Bool} {Q : Bool → En → Prop} : Post Q X (dOr f g ρ) = Post (fun b ρ1 => if b = true then Q true ρ1 else Post Q X (g ρ1)) X (f ρ) := by
  unfold dOr
  rw [post_bnd]
  congr 1
  funext b ρ1
  cases b <;> simp
@[simp] theorem post_notV {f : M D} {Q : D → En → Prop} : Post Q X (dNotV f ρ) = Post (fun d ρ1 => blW d fun b => Q (.bl (!b)) ρ1) X (f ρ) := by
  unfold dNotV; simp
@[simp] theorem post_andV {f g : M D} {Q : D → En → Prop} : Post Q X (dAndV f g ρ) = Post (fun d ρ1 => blW d fun b => if b = true then Post Q X (g ρ1) else Q (.bl false) ρ1) X (f ρ) := by
  unfold dAndV
  rw [post_bnd, post_B]
  congr 1
  funext d ρ1
  congr 1
  funext b
  cases b <;> simp
@[simp] theorem post_orV {f g : M D} {Q : D → En → Prop} : Post Q X (dOrV f g ρ) = Post (fun d ρ1 => blW d fun b => if b = true then Q (.bl true) ρ1 else Post Q X (g ρ1)) X (f ρ) := by
  unfold dOrV
  rw [post_bnd, post_B]
  congr 1
  funext d ρ1
  congr 1
  funext b
  cases b <;> simp
@[simp] theorem post_ifE {c : M Bool} {f g : M D} {Q : D → En → Prop} : Post Q X (dIfE c f g ρ) = Post (fun b ρ1 => if b = true then Post Q X (f ρ1) else Post Q X (g ρ1)) X (c ρ) := by
  unfold dIfE
  rw [post_bnd]
  congr 1
  funext b ρ1
  cases b <;> simp
@[simp] theorem post_nil {Q : List D → En → Prop} : Post Q X (dNil ρ) = Q [] ρ := rfl
@[simp] theorem post_cons {f : M D} {g : M (List D)} {Q : List D → En → Prop} : Post Q X (dCons f g ρ) = Post (fun d ρ1 => Post (fun ds ρ2 => Q (d :: ds) ρ2) X (g ρ1)) X (f ρ) := by
  unfold dCons; simp
/-! statements -/
variable {Q : Flw → En → Prop}
def seqK (Q : Flw → En → Prop) (X : PySem.Str → List PySem.Str → List D → En → Prop) (g : M Flw) : Flw → En → Prop
  | .nx, ρ => Post Q X (g ρ)
  | fl, ρ => Q fl ρ
@[simp] theorem seqK_nx {g : M Flw} : seqK Q X g .nx ρ = Post Q X (g ρ) := rfl
@[simp] theorem seqK_bk {g : M Flw} : seqK Q X g .bk ρ = Q .bk ρ := rfl
@[simp] theorem seqK_ct {g : M Flw} : seqK Q X g .ct ρ = Q .ct ρ := rfl
@[simp] theorem seqK_rt {g : M Flw} {d : D} : seqK Q X g (.rt d) ρ = Q (.rt d) ρ := rfl
theorem post_seq {f g : M Flw} : Post Q X (dSeq f g ρ) = Post (seqK Q X g) X (f ρ) := by
  unfold dSeq
  rw [post_bnd]
  congr 1
  funext fl ρ1
  cases fl <;> rfl
@[simp] theorem post_asg {i : Nat} {f : M D} : Post Q X (dAsg i f ρ) = Post (fun d ρ1 => i < ρ1.length ∧ Q .nx (ρ1.set i (.dt d))) X (f ρ) := by
  unfold dAsg
  rw [post_bnd]
  congr 1
  funext d ρ1
  unfold dPut
  by_cases h : i < ρ1.length <;> simp [h]
@[simp] theorem post_expr {f : M D} : Post Q X (dExpr f ρ) = Post (fun _ ρ1 => Q .nx ρ1) X (f ρ) := by
  unfold dExpr; simp
@[simp] theorem post_dret {f : M D} : Post Q X (dRet f ρ) = Post (fun d ρ1 => Q (.rt d) ρ1) X (f ρ) := by
  unfold dRet; simp
@[simp] theorem post_nx : Post Q X (dNx ρ) = Q .nx ρ := rfl
@[simp] theorem post_if {c : M Bool} {f g : M Flw} : Post Q X (dIf c f g ρ) = Post (fun b ρ1 => if b = true then Post Q X (f ρ1) else Post Q X (g ρ1)) X (c ρ) := by
  unfold dIf
  rw [post_bnd]
  congr 1
  funext b ρ1
  cases b <;> simp
def mlW (o : Option (List D)) (K : List D → Prop) : Prop := match o with
  | some d => K d
  | none => False
@[simp] theorem mlW_some {d : List D} {K : List D → Prop} : mlW (some d) K = K d := rfl
@[simp] theorem mlW_none {K : List D → Prop} : mlW none K = False := rfl
@[simp] theorem slotL_zero {d : List D} {r : En} : slotL 0 (.dt (.lst .ow d) :: r) = some d := rfl
@[simp] theorem slotL_succ {i : Nat} {s : Sl} {r : En} : slotL (i + 1) (s :: r) = slotL i r := rfl
@[simp] theorem post_mutL {i : Nat} {op : List D → Option (List D)} : Post Q X (dMutL i op ρ) = mlW (slotL i ρ) fun xs => mlW (op xs) fun ys => Q .nx (ρ.set i (.dt (.lst .ow ys))) := by
  unfold dMutL
  cases slotL i ρ with
  | none => rfl
  | some xs => dsimp only [mlW_some]; cases op xs <;> rfl
@[simp] theorem post_isL {i : Nat} {k : M Flw} : Post Q X (dIsL i k ρ) = mlW (slotL i ρ) fun _ => Post Q X (k ρ) := by
  unfold dIsL
  cases slotL i ρ <;> rfl
@[simp] theorem post_app {i : Nat} {f : M D} : Post Q X (dApp i f ρ) = mlW (slotL i ρ) fun _ => Post (fun d ρ1 => mlW (slotL i ρ1) fun xs => xs.length < lim ∧ Q .nx (ρ1.set i (.dt (.lst .ow (xs ++ [d]))))) X (f ρ) := by
  unfold dApp
  simp only [post_isL, post_bnd, post_mutL]
  congr 1
  funext _
  congr 1
  funext d ρ1
  congr 1
  funext xs
  by_cases h : xs.length < lim <;> simp [h]
@[simp] theorem post_set {i : Nat} {fk fe : M D} : Post Q X (dSet i fk fe ρ) = Post (fun d ρ1 => slW (slot i ρ1) fun _ => Post (fun k ρ2 => mlW (slotL i ρ2) fun xs => mlW (setAt k (mapF flFrz d) xs) fun ys => Q .nx (ρ2.set i (.dt (.lst .ow ys)))) X (fk ρ1)) X (fe ρ) := by
  unfold dSet; simp
@[simp] theorem post_for {src : M (List D)} {tg : Tg} {fg : List Nat} {body : M Flw} : Post Q X (dFor src tg fg body ρ) = Post (fun ds ρ1 => Post Q X (forL tg fg body ds ρ1)) X (src ρ) := by
  unfold dFor; simp
@[simp] theorem post_lendS {i : Nat} {tc : List Nat} {f : M Flw} : Post Q X (dLendS i tc f ρ) = slW (slot i ρ) fun d => Post (fun r ρ' => (flwOk r = true ∧ noBoAt tc ρ' = true) ∧ Q r (ρ'.set i (.dt d))) (fun c ks xs ρ' => noBoAt tc ρ' = true ∧ X c ks xs (ρ'.set i (.dt d))) (f (ρ.set i (.dt (mapF flLend d)))) := by
  unfold dLendS
  cases slot i ρ with
  | none => rfl
  | some d =>
    dsimp only [slW_some]
    cases f (ρ.set i (.dt (mapF flLend d))) with
    | bad => rfl
    | ok r ρ' => dsimp only; by_cases h : flwOk r = true ∧ noBoAt tc ρ' = true <;> simp [h]
    | exc c ks xs ρ' => dsimp only; by_cases h : noBoAt tc ρ' = true <;> simp [h]
@[simp] theorem post_lendT {i : Nat} {tc : List Nat} {f : M Bool} {Q : Bool → En → Prop} : Post Q X (dLendT i tc f ρ) = slW (slot i ρ) fun d => Post (fun r ρ' => noBoAt tc ρ' = true ∧ Q r (ρ'.set i (.dt d))) (fun c ks xs ρ' => noBoAt tc ρ' = true ∧ X c ks xs (ρ'.set i (.dt d))) (f (ρ.set i (.dt (mapF flLend d)))) := by
  unfold dLendT
  cases slot i ρ with
  | none => rfl
  | some d =>
    dsimp only [slW_some]
    cases f (ρ.set i (.dt (mapF flLend d))) with
    | bad => rfl
    | ok r ρ' => dsimp only; by_cases h : noBoAt tc ρ' = true <;> simp [h]
    | exc c ks xs ρ' => dsimp only; by_cases h : noBoAt tc ρ' = true <;> simp [h]
@[simp] theorem post_lendE {i : Nat} {tc : List Nat} {f : M D} {Q : D → En → Prop} : Post Q X (dLend i tc f ρ) = slW (slot i ρ) fun d => Post (fun r ρ' => (allF noBo r = true ∧ noBoAt tc ρ' = true) ∧ Q r (ρ'.set i (.dt d))) (fun c ks xs ρ' => noBoAt tc ρ' = true ∧ X c ks xs (ρ'.set i (.dt d))) (f (ρ.set i (.dt (mapF flLend d)))) := by
  unfold dLend
  cases slot i ρ with
  | none => rfl
  | some d =>
    dsimp only [slW_some]
    cases f (ρ.set i (.dt (mapF flLend d))) with
    | bad => rfl
    | ok r ρ' => dsimp only; by_cases h : allF noBo r = true ∧ noBoAt tc ρ' = true <;> simp [h]
    | exc c ks xs ρ' => dsimp only; by_cases h : noBoAt tc ρ' = true <;> simp [h]
theorem post_try {f : M Flw} {hs : List Hd} : Post Q X (dTry f hs ρ) = Post Q (fun c ks xs ρ' => Post Q X (catchM c ks xs hs ρ')) (f ρ) := by
  unfold dTry
  cases f ρ <;> rfl
@[simp] theorem post_raise {c : PySem.Str} {ks : List PySem.Str} {f : M (List D)} : Post Q X (dRaise c ks f ρ) = Post (fun ds ρ1 => (ds.length = ks.length ∧ allFs noBo ds = true) ∧ X c ks (mapFs flFrz ds) ρ1) X (f ρ) := by
  unfold dRaise
  rw [post_bnd]
  congr 1
  funext ds ρ1
  by_cases h : ds.length = ks.length ∧ allFs noBo ds = true <;> simp [h]
end
end Cs
namespace Cs
open L2
/-- nothing is raised -/
abbrev N0 : PySem.Str → List PySem.Str → List D → En → Prop := fun _ _ _ _ => False
theorem run_rt {f : M Flw} {pr : List Nat} {N n : Nat} {ds : List D} {R : D → En → Prop} (hl : ds.length = n) (h : Post (fun fl ρ => ∃ d, fl = .rt d ∧ allF noBo d = true ∧ R d (outs pr n ρ)) N0 (f (frm N ds))) : ∃ d os, Cs.run f pr N n ds = .ok d os ∧ R d os := by
  unfold Cs.run
  rw [if_pos hl]
  cases e : f (frm N ds) with
  | bad => rw [e] at h; exact h.elim
  | exc c ks xs ρ => rw [e] at h; exact h.elim
  | ok fl ρ =>
    rw [e] at h
    obtain ⟨d, rfl, h1, h2⟩ := h
    refine ⟨d, outs pr n ρ, ?_, h2⟩
    dsimp only
    rw [if_pos h1]
@[simp] theorem outs_nil {n : Nat} {ρ : En} : outs [] n ρ = List.replicate n .un := by
  unfold outs
  simp [List.map_const']
/-! the operations on plain data -/
section
variable {i j : Int} {K : D → Prop}
@[simp] theorem pAdd_i : pAdd (.int i) (.int j) = .sc (.int (i + j)) := rfl
@[simp] theorem pSub_i : pSub (.int i) (.int j) = .sc (.int (i - j)) := rfl
@[simp] theorem pMul_i : pMul (.int i) (.int j) = if (-(2 ^ 64) < i ∧ i < 2 ^ 64) ∨ (-(2 ^ 64) < j ∧ j < 2 ^ 64) then .sc (.int (i * j)) else .bad := rfl
@[simp] theorem pFdiv_i : pFdiv (.int i) (.int j) = if 0 < j ∧ j < 1073741824 then .sc (.int (i / j)) else .bad := rfl
@[simp] theorem pMod_i : pMod (.int i) (.int j) = if 0 < j then .sc (.int (i % j)) else .bad := rfl
@[simp] theorem pPow_i : pPow (.int i) (.int j) = if 0 ≤ j ∧ j ≤ 1000000 ∧ i.natAbs < 2 ^ 64 then .sc (.int (i ^ j.toNat)) else .bad := rfl
@[simp] theorem pLt_i : pLt (.int i) (.int j) = .sc (.bl (decide (i < j))) := rfl
@[simp] theorem pLe_i : pLe (.int i) (.int j) = .sc (.bl (decide (i ≤ j))) := rfl
@[simp] theorem pGt_i : pGt (.int i) (.int j) = .sc (.bl (decide (j < i))) := rfl
@[simp] theorem pGe_i : pGe (.int i) (.int j) = .sc (.bl (decide (j ≤ i))) := rfl
end
/-! equality -/
def eqDs : List D → List D → Bool
  | [], [] => true
  | x :: xs, y :: ys => eqD x y && eqDs xs ys
  | _, _ => false
@[simp] theorem eqD_ii {i j : Int} : eqD (.int i) (.int j) = (i == j) := by unfold eqD toPy; rw [PySem.PyData.eqv]
@[simp] theorem eqD_bb {i j : Bool} : eqD (.bl i) (.bl j) = (i == j) := by unfold eqD toPy; rw [PySem.PyData.eqv]
@[simp] theorem eqD_ss {i j : PySem.Str} : eqD (.str i) (.str j) = (i == j) := by unfold eqD toPy; rw [PySem.PyData.eqv]
theorem eqvAll_is : ∀ {xs ys : List D}, PySem.PyData.eqvAll (toPys xs) (toPys ys) = eqDs xs ys
  | [], [] => by rw [toPys, PySem.PyData.eqvAll, eqDs]
  | x :: xs, y :: ys => by rw [toPys, toPys, PySem.PyData.eqvAll, eqDs, eqvAll_is]; rfl
  | [], y :: ys => by rw [toPys, toPys, PySem.PyData.eqvAll, eqDs] <;> simp
  | x :: xs, [] => by rw [toPys, toPys, PySem.PyData.eqvAll, eqDs] <;> simp
@[simp] theorem eqD_ll {o o' : Fl} {xs ys : List D} : eqD (.lst o xs) (.lst o' ys) = eqDs xs ys := by
  unfold eqD toPy
  rw [PySem.PyData.eqv, eqvAll_is]
@[simp] theorem eqD_tt {xs ys : List D} : eqD (.tup xs) (.tup ys) = eqDs xs ys := by
  unfold eqD toPy
  rw [PySem.PyData.eqv, eqvAll_is]
theorem eqDs_ints : ∀ {xs ys : List Int}, eqDs (xs.map D.int) (ys.map D.int) = (xs == ys)
  | [], [] => rfl
  | x :: xs, y :: ys => by
    rw [List.map_cons, List.map_cons, eqDs, eqDs_ints, eqD_ii]
    rfl
  | [], y :: ys => rfl
  | x :: xs, [] => rfl
@[simp] theorem pEq_ii {i j : Int} : pEq (.int i) (.int j) = .sc (.bl (i == j)) := by
  unfold pEq
  rw [if_pos ⟨Nat.zero_le _, Nat.zero_le _⟩, eqD_ii]
@[simp] theorem pNe_ii {i j : Int} : pNe (.int i) (.int j) = .sc (.bl (!(i == j))) := by
  unfold pNe
  rw [if_pos ⟨Nat.zero_le _, Nat.zero_le _⟩, eqD_ii]
@[simp] theorem dep_int {i : Int} : dep (.int i) = 0 := rfl
@[simp] theorem dep_lst {o : Fl} {xs : List D} : dep (.lst o xs) = deps xs + 1 := by rw [dep]
theorem deps_ints : ∀ {xs : List Int}, deps (xs.map D.int) = 0
  | [] => rfl
  | x :: xs => by rw [List.map_cons, deps, deps_ints]; rfl
/-! subscripts -/
@[simp] theorem atI_0 {α : Type} {xs : List α} : L2.atI xs 0 = xs[0]? := by
  unfold L2.atI L2.ixN
  cases xs with
  | nil => rfl
  | cons x xs => simp
theorem atI_n {α : Type} {xs : List α} {n : Nat} : L2.atI xs (n : Int) = xs[n]? := by
  unfold L2.atI L2.ixN
  by_cases h : n < xs.length
  · simp [h]
  · simp [h]
@[simp] theorem atI_1 {α : Type} {xs : List α} : L2.atI xs 1 = xs[1]? := atI_n (n := 1)
@[simp] theorem atI_2 {α : Type} {xs : List α} : L2.atI xs 2 = xs[2]? := atI_n (n := 2)
@[simp] theorem atI_3 {α : Type} {xs : List α} : L2.atI xs 3 = xs[3]? := atI_n (n := 3)
def ixW (o : Option D) : PR := match o with
  | some d => if allF noOw d = true then .sc d else .bad
  | none => .bad
@[simp] theorem ixW_some {d : D} : ixW (some d) = if allF noOw d = true then .sc d else .bad := rfl
@[simp] theorem pIx_l {o : Fl} {xs : List D} {i : Int} : pIx (.lst o xs) (.int i) = ixW (L2.atI xs i) := rfl
@[simp] theorem pIx_t {xs : List D} {i : Int} : pIx (.tup xs) (.int i) = ixW (L2.atI xs i) := rfl
@[simp] theorem allF_int {p : Fl → Bool} {i : Int} : allF p (.int i) = true := rfl
@[simp] theorem allF_bl {p : Fl → Bool} {i : Bool} : allF p (.bl i) = true := rfl
@[simp] theorem allF_str {p : Fl → Bool} {i : PySem.Str} : allF p (.str i) = true := rfl
@[simp] theorem allF_non {p : Fl → Bool} : allF p .non = true := rfl
@[simp] theorem allF_l {p : Fl → Bool} {o : Fl} {xs : List D} : allF p (.lst o xs) = (p o && allFs p xs) := by rw [allF]
@[simp] theorem allF_t {p : Fl → Bool} {xs : List D} : allF p (.tup xs) = allFs p xs := by rw [allF]
@[simp] theorem allFs_nil {p : Fl → Bool} : allFs p [] = true := rfl
@[simp] theorem allFs_cns {p : Fl → Bool} {x : D} {xs : List D} : allFs p (x :: xs) = (allF p x && allFs p xs) := by rw [allFs]
@[simp] theorem allFs_ints {p : Fl → Bool} : ∀ {cs : List Int}, allFs p (cs.map D.int) = true
  | [] => rfl
  | c :: cs => by rw [List.map_cons, allFs, allFs_ints]; rfl
@[simp] theorem mapF_int {g : Fl → Fl} {i : Int} : mapF g (.int i) = .int i := by rw [mapF]
@[simp] theorem mapF_l {g : Fl → Fl} {o : Fl} {xs : List D} : mapF g (.lst o xs) = .lst (g o) (mapFs g xs) := by rw [mapF]
@[simp] theorem mapFs_nil {g : Fl → Fl} : mapFs g [] = [] := by rw [mapFs]
@[simp] theorem mapFs_cns {g : Fl → Fl} {x : D} {xs : List D} : mapFs g (x :: xs) = mapF g x :: mapFs g xs := by rw [mapFs]
@[simp] theorem mapFs_ints {g : Fl → Fl} : ∀ {cs : List Int}, mapFs g (cs.map D.int) = cs.map D.int
  | [] => by rw [List.map_nil, mapFs]
  | c :: cs => by rw [List.map_cons, mapFs, mapFs_ints, mapF_int]
@[simp] theorem pLen_l {o : Fl} {xs : List D} : pLen (.lst o xs) = .sc (.int xs.length) := rfl
@[simp] theorem pInt_i {i : Int} : pInt (.int i) = .sc (.int i) := rfl
@[simp] theorem pInt_b {i : Bool} : pInt (.bl i) = .sc (.int (if i then 1 else 0)) := rfl
@[simp] theorem pNeg_i {i : Int} : pNeg (.int i) = .sc (.int (-i)) := rfl
@[simp] theorem pList_l {o : Fl} {xs : List D} : pList (.lst o xs) = if allFs noOw xs = true then .nl xs else .bad := rfl
@[simp] theorem noOw_fr : noOw .fr = true := rfl
@[simp] theorem noOw_bo : noOw .bo = true := rfl
@[simp] theorem noOw_ro : noOw .ro = true := rfl
@[simp] theorem noOw_ow : noOw .ow = false := rfl
@[simp] theorem noBo_fr : noBo .fr = true := rfl
@[simp] theorem noBo_bo : noBo .bo = false := rfl
@[simp] theorem noBo_ro : noBo .ro = true := rfl
@[simp] theorem noBo_ow : noBo .ow = true := rfl
@[simp] theorem flFrz_fr : flFrz .fr = .fr := rfl
@[simp] theorem flFrz_ow : flFrz .ow = .fr := rfl
@[simp] theorem flFrz_bo : flFrz .bo = .bo := rfl
@[simp] theorem flFrz_ro : flFrz .ro = .ro := rfl
@[simp] theorem flLend_fr : flLend .fr = .fr := rfl
@[simp] theorem flLend_ow : flLend .ow = .bo := rfl
@[simp] theorem flLend_bo : flLend .bo = .bo := rfl
@[simp] theorem flLend_ro : flLend .ro = .ro := rfl
theorem setAt_n {n : Nat} {d : D} {xs : List D} : setAt (.int (n : Int)) d xs = if n < xs.length ∧ allFs noOw xs = true ∧ allF noOw d = true then some (xs.set n d) else none := by
  unfold setAt
  dsimp only
  unfold L2.ixN
  by_cases h : n < xs.length
  · have h1 : (0 : Int) ≤ n := by omega
    have h2 : (n : Int) < xs.length := by omega
    rw [if_pos h1, if_pos h2]
    dsimp only [Int.toNat_natCast]
    simp only [h, true_and, Int.toNat_natCast]
  · have h1 : (0 : Int) ≤ n := by omega
    have h2 : ¬ (n : Int) < xs.length := by omega
    rw [if_pos h1, if_neg h2, if_neg fun z => h z.1]
@[simp] theorem setAt_0 {d : D} {xs : List D} : setAt (.int 0) d xs = if 0 < xs.length ∧ allFs noOw xs = true ∧ allF noOw d = true then some (xs.set 0 d) else none := setAt_n (n := 0)
@[simp] theorem setAt_1 {d : D} {xs : List D} : setAt (.int 1) d xs = if 1 < xs.length ∧ allFs noOw xs = true ∧ allF noOw d = true then some (xs.set 1 d) else none := setAt_n (n := 1)
@[simp] theorem setAt_2 {d : D} {xs : List D} : setAt (.int 2) d xs = if 2 < xs.length ∧ allFs noOw xs = true ∧ allF noOw d = true then some (xs.set 2 d) else none := setAt_n (n := 2)
@[simp] theorem setAt_3 {d : D} {xs : List D} : setAt (.int 3) d xs = if 3 < xs.length ∧ allFs noOw xs = true ∧ allF noOw d = true then some (xs.set 3 d) else none := setAt_n (n := 3)
@[simp] theorem mlW_if {c : Prop} [Decidable c] {p : List D} {K : List D → Prop} : mlW (if c then some p else none) K = (c ∧ K p) := by
  by_cases h : c <;> simp [h]
end Cs
namespace Cs
open L2
section
variable {α : Type} {X : PySem.Str → List PySem.Str → List D → En → Prop} {ρ : En}
theorem Post.mp {Q Q' : α → En → Prop} {X X' : PySem.Str → List PySem.Str → List D → En → Prop} {o : Out α} (h : Post Q X o) (h1 : ∀ a ρ, Q a ρ → Q' a ρ) (h2 : ∀ c ks xs ρ, X c ks xs ρ → X' c ks xs ρ) : Post Q' X' o := h.imp h1 h2
theorem Post.mpQ {Q Q' : α → En → Prop} {o : Out α} (h : Post Q X o) (h1 : ∀ a ρ, Q a ρ → Q' a ρ) : Post Q' X o := h.imp h1 fun _ _ _ _ z => z
theorem Post.of0 {Q Q' : α → En → Prop} {o : Out α} (h : Post Q N0 o) (h1 : ∀ a ρ, Q a ρ → Q' a ρ) : Post Q' X o := h.imp h1 fun _ _ _ _ z => z.elim
/-! calls -/
def argW (o : Option (List D)) (K : List D → Prop) : Prop := match o with
  | some ds => K ds
  | none => False
def resW (r : Res) (K : D → En → Prop) (E : PySem.Str → List PySem.Str → List D → En → Prop) : Prop := match r with
  | .ok d os => K d os
  | .exc c ks xs os => E c ks xs os
  | .bad => False
@[simp] theorem argW_some {d : List D} {K : List D → Prop} : argW (some d) K = K d := rfl
@[simp] theorem resW_ok {d : D} {os : En} {K : D → En → Prop} {E : PySem.Str → List PySem.Str → List D → En → Prop} : resW (.ok d os) K E = K d os := rfl
@[simp] theorem resW_exc {c : PySem.Str} {ks : List PySem.Str} {xs : List D} {os : En} {K : D → En → Prop} {E : PySem.Str → List PySem.Str → List D → En → Prop} : resW (.exc c ks xs os) K E = E c ks xs os := rfl
@[simp] theorem post_call {m : List D → Res} {ars : List Arg} {Q : D → En → Prop} : Post Q X (dCall m ars ρ) = Post (fun ods ρ1 => argW (argD ρ1 ars ods) fun ds => resW (m ds) (fun d os => Q d (wb ars os ρ1)) (fun c ks xs os => X c ks xs (wb ars os ρ1))) X (dArs ars ρ) := by
  unfold dCall
  rw [post_bnd]
  congr 1
  funext ods ρ1
  unfold callD
  cases argD ρ1 ars ods with
  | none => rfl
  | some ds =>
    dsimp only [argW_some]
    cases m ds <;> rfl
section
variable {Q : List (Option D) → En → Prop} {r : List Arg} {tc : List Nat}
@[simp] theorem post_ars0 : Post Q X (dArs [] ρ) = Q [] ρ := rfl
@[simp] theorem post_arsv {f : M D} : Post Q X (dArs ((.v f, tc) :: r) ρ) = Post (fun d ρ1 => Post (fun ds ρ2 => Q (some d :: ds) ρ2) X (dArs r ρ1)) X (f ρ) := by
  rw [dArs]; simp
@[simp] theorem post_arsl {i : Nat} : Post Q X (dArs ((.l i, tc) :: r) ρ) = slW (slot i ρ) fun _ => Post (fun ds ρ2 => Q (none :: ds) ρ2) X (dArs r ρ) := by
  rw [dArs]; simp
@[simp] theorem post_arsio {i : Nat} : Post Q X (dArs ((.io i, tc) :: r) ρ) = slW (slot i ρ) fun _ => Post (fun ds ρ2 => Q (none :: ds) ρ2) X (dArs r ρ) := by
  rw [dArs]; simp
@[simp] theorem argD_0 : argD ρ [] [] = some [] := by rw [argD]
@[simp] theorem argD_v {f : M D} {d : D} {ds : List (Option D)} : argD ρ ((.v f, tc) :: r) (some d :: ds) = (argD ρ r ds).map (d :: ·) := by rw [argD]
@[simp] theorem argD_l {i : Nat} {ds : List (Option D)} : argD ρ ((.l i, tc) :: r) (none :: ds) = (slot i ρ).bind fun d => (argD ρ r ds).map (mapF flLend d :: ·) := by rw [argD]
@[simp] theorem argD_io {i : Nat} {ds : List (Option D)} : argD ρ ((.io i, tc) :: r) (none :: ds) = (slot i ρ).bind fun d => (argD ρ r ds).map (d :: ·) := by rw [argD]
@[simp] theorem wb_0 {os : En} : wb [] os ρ = ρ := by rw [wb]
@[simp] theorem wb_v {f : M D} {os : En} : wb ((.v f, tc) :: r) os ρ = wb r os.tail ρ := by rw [wb]
@[simp] theorem wb_l {i : Nat} {os : En} : wb ((.l i, tc) :: r) os ρ = wb r os.tail ρ := by rw [wb]
@[simp] theorem wb_io {i : Nat} {os : En} : wb ((.io i, tc) :: r) os ρ = (wb r os.tail ρ).set i (hd1 os) := by rw [wb]
@[simp] theorem hd1_c {s : Sl} {os : En} : hd1 (s :: os) = s := rfl
end
/-! loops -/
def forK (I : En → Prop) (Q : Flw → En → Prop) (fg : List Nat) : Flw → En → Prop
  | .nx, ρ => I (fgt fg ρ)
  | .ct, ρ => I (fgt fg ρ)
  | .bk, ρ => Q .nx (fgt fg ρ)
  | .rt r, ρ => Q (.rt r) ρ
@[simp] theorem forK_nx {I : En → Prop} {Q : Flw → En → Prop} {fg : List Nat} : forK I Q fg .nx ρ = I (fgt fg ρ) := rfl
@[simp] theorem forK_ct {I : En → Prop} {Q : Flw → En → Prop} {fg : List Nat} : forK I Q fg .ct ρ = I (fgt fg ρ) := rfl
@[simp] theorem forK_bk {I : En → Prop} {Q : Flw → En → Prop} {fg : List Nat} : forK I Q fg .bk ρ = Q .nx (fgt fg ρ) := rfl
@[simp] theorem forK_rt {I : En → Prop} {Q : Flw → En → Prop} {fg : List Nat} {d : D} : forK I Q fg (.rt d) ρ = Q (.rt d) ρ := rfl
@[simp] theorem fgt_nil : fgt [] ρ = ρ := rfl
@[simp] theorem fgt_cns {i : Nat} {is : List Nat} : fgt (i :: is) ρ = fgt is (ρ.set i .un) := rfl
def tgW (o : Out Flw) (K : En → Prop) : Prop := match o with
  | .ok .nx ρ => K ρ
  | _ => False
@[simp] theorem tgW_one {j : Nat} {d : D} {K : En → Prop} : tgW (dTg (.one j) d ρ) K = (j < ρ.length ∧ K (ρ.set j (.dt d))) := by
  show tgW (dPuts [j] [d] ρ) K = _
  unfold dPuts
  by_cases h : j < ρ.length
  · rw [if_pos h]
    simp only [h, true_and]
    rfl
  · rw [if_neg h]
    simp only [h, false_and]
    rfl
@[simp] theorem tgW_puts0 {K : En → Prop} : tgW (dPuts [] [] ρ) K = K ρ := rfl
@[simp] theorem tgW_puts {j : Nat} {js : List Nat} {d : D} {ds : List D} {K : En → Prop} : tgW (dPuts (j :: js) (d :: ds) ρ) K = (j < ρ.length ∧ tgW (dPuts js ds (ρ.set j (.dt d))) K) := by
  rw [dPuts]
  dsimp only
  by_cases h : j < ρ.length
  · rw [if_pos h]
    simp only [h, true_and]
  · rw [if_neg h]
    simp only [h, false_and]
    rfl
@[simp] theorem tgW_tup {js : List Nat} {ds : List D} {K : En → Prop} : tgW (dTg (.tup js) (.tup ds) ρ) K = tgW (dPuts js ds ρ) K := rfl
theorem for_inv {Q : Flw → En → Prop} {tg : Tg} {fg : List Nat} {body : M Flw} : ∀ {ds : List D} {ρ : En} (I : Nat → En → Prop), I 0 ρ → (∀ k d ρ, ds[k]? = some d → I k ρ → tgW (dTg tg d ρ) fun ρ1 => Post (forK (I (k + 1)) Q fg) X (body ρ1)) → (∀ ρ, I ds.length ρ → Q .nx ρ) → Post Q X (forL tg fg body ds ρ)
  | [], ρ, I, h0, _, hd => by
    unfold forL
    exact hd ρ h0
  | d :: ds, ρ, I, h0, hs, hd => by
    have z := hs 0 d ρ rfl h0
    unfold forL
    cases et : dTg tg d ρ with
    | bad => rw [et] at z; exact z.elim
    | exc c ks xs ρ1 => rw [et] at z; exact z.elim
    | ok fl ρ1 =>
      rw [et] at z
      cases fl with
      | bk => exact z.elim
      | ct => exact z.elim
      | rt r => exact z.elim
      | nx =>
        have z : Post (forK (I 1) Q fg) X (body ρ1) := z
        dsimp only
        cases eb : body ρ1 with
        | bad => rw [eb] at z; exact z.elim
        | exc c ks xs ρ2 => rw [eb] at z; exact z
        | ok fl ρ2 =>
          rw [eb] at z
          have next : I 1 (fgt fg ρ2) → Post Q X (forL tg fg body ds (fgt fg ρ2)) := fun z => for_inv (fun k => I (k + 1)) z (fun k d ρ e h => hs (k + 1) d ρ e h) fun ρ h => hd ρ h
          cases fl with
          | nx => exact next z
          | ct => exact next z
          | bk => exact z
          | rt r => exact z
theorem post_lc {src : M (List D)} {tg : Tg} {own : List Nat} {cond : M Bool} {elt : M D} {Q : D → En → Prop} : Post Q X (dLc src tg own cond elt ρ) = Post (fun ds ρ1 => noOwAt own ρ1 = true ∧ Post (fun xs ρ2 => Q (.lst .ow xs) (rst own ρ1 ρ2)) N0 (lcL tg own cond elt [] ds (fgt own ρ1))) X (src ρ) := by
  unfold dLc
  rw [post_bnd]
  congr 1
  funext ds ρ1
  by_cases h : noOwAt own ρ1 = true
  · simp only [h, if_true, true_and]
    cases lcL tg own cond elt [] ds (fgt own ρ1) <;> rfl
  · rw [if_neg h]
    simp only [h]
    simp
theorem post_lc2 {src src1 : M (List D)} {tg tg1 : Tg} {own own1 : List Nat} {cond cond1 : M Bool} {elt : M D} {Q : D → En → Prop} : Post Q X (dLc2 src tg own cond src1 tg1 own1 cond1 elt ρ) = Post (fun ds ρ1 => noOwAt own ρ1 = true ∧ Post (fun xs ρ2 => Q (.lst .ow xs) (rst own ρ1 ρ2)) N0 (lc2L tg own cond src1 tg1 own1 cond1 elt [] ds (fgt own ρ1))) X (src ρ) := by
  unfold dLc2
  rw [post_bnd]
  congr 1
  funext ds ρ1
  by_cases h : noOwAt own ρ1 = true
  · simp only [h, if_true, true_and]
    cases lc2L tg own cond src1 tg1 own1 cond1 elt [] ds (fgt own ρ1) <;> rfl
  · rw [if_neg h]
    simp only [h]
    simp
theorem lc_inv {tg : Tg} {own : List Nat} {cond : M Bool} {elt : M D} : ∀ {ds acc : List D} {ρ : En} (I : Nat → List D → En → Prop), I 0 acc ρ → (∀ k acc d ρ, ds[k]? = some d → I k acc ρ → tgW (dTg tg d ρ) fun ρ1 => Post (fun b ρ2 => if b = true then Post (fun x ρ3 => acc.length < lim ∧ I (k + 1) (acc ++ [x]) (fgt own ρ3)) N0 (elt ρ2) else I (k + 1) acc (fgt own ρ2)) N0 (cond ρ1)) → Post (fun acc ρ => I ds.length acc ρ) N0 (lcL tg own cond elt acc ds ρ)
  | [], acc, ρ, I, h0, _ => by
    unfold lcL
    exact h0
  | d :: ds, acc, ρ, I, h0, hs => by
    have z := hs 0 acc d ρ rfl h0
    unfold lcL
    cases et : dTg tg d ρ with
    | bad => rw [et] at z; exact z.elim
    | exc c ks xs ρ1 => rw [et] at z; exact z.elim
    | ok fl ρ1 =>
      rw [et] at z
      cases fl with
      | bk => exact z.elim
      | ct => exact z.elim
      | rt r => exact z.elim
      | nx =>
        have z : Post (fun b ρ2 => if b = true then Post (fun x ρ3 => acc.length < lim ∧ I 1 (acc ++ [x]) (fgt own ρ3)) N0 (elt ρ2) else I 1 acc (fgt own ρ2)) N0 (cond ρ1) := z
        dsimp only
        cases eb : cond ρ1 with
        | bad => rw [eb] at z; exact z.elim
        | exc c ks xs ρ2 => rw [eb] at z; exact z.elim
        | ok b ρ2 =>
          rw [eb] at z
          cases b with
          | false => exact lc_inv (fun k => I (k + 1)) z fun k acc d ρ e h => hs (k + 1) acc d ρ e h
          | true =>
            have z : Post (fun x ρ3 => acc.length < lim ∧ I 1 (acc ++ [x]) (fgt own ρ3)) N0 (elt ρ2) := z
            dsimp only
            cases ee : elt ρ2 with
            | bad => rw [ee] at z; exact z.elim
            | exc c ks xs ρ3 => rw [ee] at z; exact z.elim
            | ok x ρ3 =>
              rw [ee] at z
              dsimp only
              rw [if_pos z.1]
              exact lc_inv (fun k => I (k + 1)) z.2 fun k acc d ρ e h => hs (k + 1) acc d ρ e h
theorem lc2_inv {tg tg1 : Tg} {own own1 : List Nat} {cond cond1 : M Bool} {src1 : M (List D)} {elt : M D} : ∀ {ds acc : List D} {ρ : En} (I : Nat → List D → En → Prop), I 0 acc ρ → (∀ k acc d ρ, ds[k]? = some d → I k acc ρ → tgW (dTg tg d ρ) fun ρ1 => Post (fun b ρ2 => if b = true then Post (fun ds1 ρ3 => Post (fun acc1 ρ4 => I (k + 1) acc1 (fgt own ρ4)) N0 (lcL tg1 own1 cond1 elt acc ds1 (fgt own1 ρ3))) N0 (src1 ρ2) else I (k + 1) acc (fgt own ρ2)) N0 (cond ρ1)) → Post (fun acc ρ => I ds.length acc ρ) N0 (lc2L tg own cond src1 tg1 own1 cond1 elt acc ds ρ)
  | [], acc, ρ, I, h0, _ => by
    unfold lc2L
    exact h0
  | d :: ds, acc, ρ, I, h0, hs => by
    have z := hs 0 acc d ρ rfl h0
    unfold lc2L
    cases et : dTg tg d ρ with
    | bad => rw [et] at z; exact z.elim
    | exc c ks xs ρ1 => rw [et] at z; exact z.elim
    | ok fl ρ1 =>
      rw [et] at z
      cases fl with
      | bk => exact z.elim
      | ct => exact z.elim
      | rt r => exact z.elim
      | nx =>
        have z : Post (fun b ρ2 => if b = true then Post (fun ds1 ρ3 => Post (fun acc1 ρ4 => I 1 acc1 (fgt own ρ4)) N0 (lcL tg1 own1 cond1 elt acc ds1 (fgt own1 ρ3))) N0 (src1 ρ2) else I 1 acc (fgt own ρ2)) N0 (cond ρ1) := z
        dsimp only
        cases eb : cond ρ1 with
        | bad => rw [eb] at z; exact z.elim
        | exc c ks xs ρ2 => rw [eb] at z; exact z.elim
        | ok b ρ2 =>
          rw [eb] at z
          cases b with
          | false => exact lc2_inv (fun k => I (k + 1)) z fun k acc d ρ e h => hs (k + 1) acc d ρ e h
          | true =>
            have z : Post (fun ds1 ρ3 => Post (fun acc1 ρ4 => I 1 acc1 (fgt own ρ4)) N0 (lcL tg1 own1 cond1 elt acc ds1 (fgt own1 ρ3))) N0 (src1 ρ2) := z
            dsimp only
            cases ee : src1 ρ2 with
            | bad => rw [ee] at z; exact z.elim
            | exc c ks xs ρ3 => rw [ee] at z; exact z.elim
            | ok ds1 ρ3 =>
              rw [ee] at z
              have z : Post (fun acc1 ρ4 => I 1 acc1 (fgt own ρ4)) N0 (lcL tg1 own1 cond1 elt acc ds1 (fgt own1 ρ3)) := z
              dsimp only
              cases el : lcL tg1 own1 cond1 elt acc ds1 (fgt own1 ρ3) with
              | bad => rw [el] at z; exact z.elim
              | exc c ks xs ρ3 => rw [el] at z; exact z.elim
              | ok acc1 ρ4 =>
                rw [el] at z
                exact lc2_inv (fun k => I (k + 1)) z fun k acc d ρ e h => hs (k + 1) acc d ρ e h
/-! what is walked -/
@[simp] theorem post_rg1 {f : M D} {Q : List D → En → Prop} : Post Q X (dRg1 f ρ) = Post (fun d ρ1 => ∃ j, d = .int j ∧ (-1000000 ≤ j ∧ j ≤ 1000000) ∧ Q (rng 0 j.toNat) ρ1) X (f ρ) := by
  unfold dRg1
  rw [post_bnd]
  congr 1
  funext d ρ1
  cases d with
  | int j =>
    dsimp only
    apply propext
    constructor
    · intro h
      split at h
      · rename_i hh; exact ⟨j, rfl, hh, h⟩
      · exact h.elim
    · rintro ⟨j', e, hh, h⟩
      cases e
      rw [if_pos hh]
      exact h
  | _ =>
    apply propext
    constructor
    · intro h; exact h.elim
    · rintro ⟨_, e, _⟩; cases e
@[simp] theorem post_it {f : M D} {Q : List D → En → Prop} : Post Q X (dIt f ρ) = Post (fun d ρ1 => mlW (itemsOf (mapF flFrz d)) fun ds => Q ds ρ1) X (f ρ) := by
  unfold dIt
  rw [post_bnd, post_fz]
  congr 1
  funext d ρ1
  cases itemsOf (mapF flFrz d) <;> rfl
@[simp] theorem itemsOf_l {o : Fl} {xs : List D} : itemsOf (.lst o xs) = some xs := rfl
@[simp] theorem itemsOf_t {xs : List D} : itemsOf (.tup xs) = some xs := rfl
theorem rng_get {lo : Int} {n k : Nat} {d : D} (h : (rng lo n)[k]? = some d) : k < n ∧ d = .int (lo + (k : Int)) := by
  unfold rng at h
  rw [List.getElem?_map] at h
  by_cases hk : k < n
  · rw [List.getElem?_range hk] at h
    exact ⟨hk, (Option.some.inj h).symm⟩
  · rw [List.getElem?_eq_none (by rw [List.length_range]; omega)] at h
    cases h
@[simp] theorem rng_len {lo : Int} {n : Nat} : (rng lo n).length = n := by simp [rng]
@[simp] theorem post_yes {Q : Bool → En → Prop} : Post Q X (dYes ρ) = Q true ρ := rfl
@[simp] theorem post_lst {f : M (List D)} {Q : D → En → Prop} : Post Q X (dLst f ρ) = Post (fun ds ρ1 => ds.length ≤ lim ∧ Q (.lst .ow ds) ρ1) X (f ρ) := by
  unfold dLst
  rw [post_bnd]
  congr 1
  funext ds ρ1
  by_cases h : ds.length ≤ lim <;> simp [h]
end
end Cs
namespace Cs
open L2
section
variable {α : Type} {X : PySem.Str → List PySem.Str → List D → En → Prop} {ρ : En}
/-! a def's meaning, asked with a wish behind it -/
def flK (pr : List Nat) (n : Nat) (K : D → En → Prop) : Flw → En → Prop
  | .nx, ρ => K .non (outs pr n ρ)
  | .rt d, ρ => allF noBo d = true ∧ K d (outs pr n ρ)
  | _, _ => False
@[simp] theorem flK_nx {pr : List Nat} {n : Nat} {K : D → En → Prop} : flK pr n K .nx ρ = K .non (outs pr n ρ) := rfl
@[simp] theorem flK_rt {pr : List Nat} {n : Nat} {K : D → En → Prop} {d : D} : flK pr n K (.rt d) ρ = (allF noBo d = true ∧ K d (outs pr n ρ)) := rfl
theorem resW_run {f : M Flw} {pr : List Nat} {N n : Nat} {ds : List D} {K : D → En → Prop} {E : PySem.Str → List PySem.Str → List D → En → Prop} (hl : ds.length = n)
    (h : Post (flK pr n K) (fun c ks xs ρ => E c ks xs (outs pr n ρ)) (f (frm N ds))) : resW (Cs.run f pr N n ds) K E := by
  unfold Cs.run
  rw [if_pos hl]
  cases e : f (frm N ds) with
  | bad => rw [e] at h; exact h.elim
  | exc c ks xs ρ => rw [e] at h; exact h
  | ok fl ρ =>
    rw [e] at h
    cases fl with
    | nx => exact h
    | bk => exact h.elim
    | ct => exact h.elim
    | rt d =>
      have h : allF noBo d = true ∧ K d (outs pr n ρ) := h
      dsimp only
      rw [if_pos h.1]
      exact h.2
theorem ok_of_resW {r : Res} {d0 : D} (h : resW r (fun d _ => d = d0) N0) : ∃ os, r = .ok d0 os := by
  cases r with
  | ok d os => exact ⟨os, by rw [show d = d0 from h]⟩
  | exc c ks xs os => exact h.elim
  | bad => exact h.elim
theorem post_ite {c : Prop} [Decidable c] {f : M α} {Q : α → En → Prop} : Post Q X ((if c then f else bad) ρ) = (c ∧ Post Q X (f ρ)) := by
  by_cases h : c
  · rw [if_pos h]; simp only [h, true_and]
  · rw [if_neg h]; simp only [h, false_and]; rfl
/-! slices -/
def intW (d : D) (K : Int → Prop) : Prop := match d with
  | .int i => K i
  | _ => False
@[simp] theorem intW_i {i : Int} {K : Int → Prop} : intW (.int i) K = K i := rfl
def cutW (d : D) (lo hi : Option Int) (K : D → Prop) : Prop := match d with
  | .lst _ xs => allF noOw d = true ∧ K (.lst .ow (cutD xs lo hi))
  | _ => False
@[simp] theorem cutW_l {o : Fl} {xs : List D} {lo hi : Option Int} {K : D → Prop} : cutW (.lst o xs) lo hi K = (allF noOw (.lst o xs) = true ∧ K (.lst .ow (cutD xs lo hi))) := rfl
@[simp] theorem post_part {f : M D} {Q : Option Int → En → Prop} : Post Q X (dPart f ρ) = Post (fun d ρ1 => intW d fun i => Q (some i) ρ1) X (f ρ) := by
  unfold dPart
  rw [post_bnd]
  congr 1
  funext d ρ1
  cases d <;> rfl
@[simp] theorem post_sl {f : M D} {g h : M (Option Int)} {Q : D → En → Prop} : Post Q X (dSl f g h ρ) = Post (fun d ρ1 => Post (fun lo ρ2 => Post (fun hi ρ3 => cutW d lo hi fun e => Q e ρ3) X (h ρ2)) X (g ρ1)) X (f ρ) := by
  unfold dSl
  simp only [post_bnd]
  congr 1
  funext d ρ1
  congr 1
  funext lo ρ2
  congr 1
  funext hi ρ3
  cases d with
  | lst o xs =>
    dsimp only [cutW_l]
    rw [post_ite]
    rfl
  | _ => rfl
@[simp] theorem post_rg3 {f g h : M D} {Q : List D → En → Prop} : Post Q X (dRg3 f g h ρ) = Post (fun d ρ1 => Post (fun e ρ2 => Post (fun k ρ3 => intW d fun i => intW e fun j => intW k fun c => ((-1000000 ≤ i ∧ i ≤ 1000000) ∧ (-1000000 ≤ j ∧ j ≤ 1000000) ∧ ((c ≠ 0 ∧ -1000000 ≤ c ∧ c ≤ 1000000) ∨ (2 ^ 64 ≤ c ∧ c ≤ 2 ^ 200))) ∧ Q (rngC i c (szC i j c)) ρ3) X (h ρ2)) X (g ρ1)) X (f ρ) := by
  unfold dRg3
  simp only [post_bnd]
  congr 1
  funext d ρ1
  congr 1
  funext e ρ2
  congr 1
  funext k ρ3
  cases d with
  | int i =>
    cases e with
    | int j =>
      cases k with
      | int c =>
        dsimp only [intW_i]
        rw [post_ite]
        rfl
      | _ => rfl
    | _ => rfl
  | _ =>
    cases e <;> cases k <;> rfl
theorem rngC_get {lo c : Int} {n k : Nat} {d : D} (h : (rngC lo c n)[k]? = some d) : k < n ∧ d = .int (lo + (k : Int) * c) := by
  unfold rngC at h
  rw [List.getElem?_map] at h
  by_cases hk : k < n
  · rw [List.getElem?_range hk] at h
    exact ⟨hk, (Option.some.inj h).symm⟩
  · rw [List.getElem?_eq_none (by rw [List.length_range]; omega)] at h
    cases h
@[simp] theorem rngC_len {lo c : Int} {n : Nat} : (rngC lo c n).length = n := by simp [rngC]
/-! a list within a list -/
def inW (o : Option (Nat × List D)) (K : Nat → List D → Prop) : Prop := match o with
  | some (n, ys) => K n ys
  | none => False
@[simp] theorem inW_some {n : Nat} {ys : List D} {K : Nat → List D → Prop} : inW (some (n, ys)) K = K n ys := rfl
variable {Q : Flw → En → Prop}
@[simp] theorem post_in2 {i : Nat} {j : D} {k : M Flw} : Post Q X (dIn2 i j k ρ) = inW ((slotL i ρ).bind (inner j)) fun _ _ => Post Q X (k ρ) := by
  unfold dIn2
  cases e : (slotL i ρ).bind (inner j) with
  | none => rfl
  | some x => rfl
@[simp] theorem post_app2 {i : Nat} {fj fe : M D} : Post Q X (dApp2 i fj fe ρ) = slW (slot i ρ) fun _ => Post (fun j ρ1 => inW ((slotL i ρ1).bind (inner j)) fun _ _ => Post (fun d ρ2 => mlW (slotL i ρ2) fun xs => mlW (appAt2 j (mapF flFrz d) xs) fun ys => Q .nx (ρ2.set i (.dt (.lst .ow ys)))) X (fe ρ1)) X (fj ρ) := by
  unfold dApp2
  simp
@[simp] theorem post_set2 {i : Nat} {fj fk fe : M D} : Post Q X (dSet2 i fj fk fe ρ) = Post (fun d ρ1 => slW (slot i ρ1) fun _ => Post (fun j ρ2 => inW ((slotL i ρ2).bind (inner j)) fun _ _ => Post (fun k ρ3 => mlW (slotL i ρ3) fun xs => mlW (setAt2 j k (mapF flFrz d) xs) fun ys => Q .nx (ρ3.set i (.dt (.lst .ow ys)))) X (fk ρ2)) X (fj ρ1)) X (fe ρ) := by
  unfold dSet2
  simp
theorem inner_n {n : Nat} {xs ys : List D} (h : xs[n]? = some (.lst .ow ys)) (h2 : allFs noOw ys = true) : inner (.int (n : Int)) xs = some (n, ys) := by
  have hl : n < xs.length := by
    rcases Nat.lt_or_ge n xs.length with q | q
    · exact q
    · rw [List.getElem?_eq_none q] at h; cases h
  unfold inner
  dsimp only
  have e : L2.ixN xs.length (n : Int) = some n := by
    unfold L2.ixN
    have h1 : (0 : Int) ≤ n := by omega
    have h2 : (n : Int) < xs.length := by omega
    rw [if_pos h1, if_pos h2]
    simp
  rw [e]
  dsimp only
  rw [h]
  dsimp only
  rw [if_pos h2]
/-! what is caught -/
theorem post_catch0 {c : PySem.Str} {ks : List PySem.Str} {xs : List D} : Post Q X (catchM c ks xs [] ρ) = X c ks xs ρ := rfl
theorem post_catchN {c h : PySem.Str} {ks : List PySem.Str} {xs : List D} {i : Nat} {su : PySem.Str → List PySem.Str → List D → M Flw} {r : List Hd} (hs : subX c h = true) (hi : i < ρ.length)
    (hp : Post (fun fl ρ' => noExn (ρ'.set i .un) = true ∧ Q fl (ρ'.set i .un)) N0 (su c ks xs (ρ.set i .exn))) : Post Q X (catchM c ks xs ((h, some i, su) :: r) ρ) := by
  unfold catchM
  rw [if_pos hs, if_pos hi]
  cases e : su c ks xs (ρ.set i .exn) with
  | bad => rw [e] at hp; exact hp.elim
  | ok fl ρ' =>
    rw [e] at hp
    unfold offE
    dsimp only
    rw [if_pos hp.1]
    exact hp.2
  | exc c ks xs ρ' => rw [e] at hp; exact hp.elim
theorem post_catchP {c h : PySem.Str} {ks : List PySem.Str} {xs : List D} {su : PySem.Str → List PySem.Str → List D → M Flw} {r : List Hd} (hs : subX c h = true)
    (hp : Post (fun fl ρ' => noExn ρ' = true ∧ Q fl ρ') N0 (su c ks xs ρ)) : Post Q X (catchM c ks xs ((h, none, su) :: r) ρ) := by
  unfold catchM
  rw [if_pos hs]
  cases e : su c ks xs ρ with
  | bad => rw [e] at hp; exact hp.elim
  | ok fl ρ' =>
    rw [e] at hp
    unfold offE
    dsimp only
    rw [if_pos hp.1]
    exact hp.2
  | exc c ks xs ρ' => rw [e] at hp; exact hp.elim
theorem post_catchX {c h : PySem.Str} {ks : List PySem.Str} {xs : List D} {o : Option Nat} {su : PySem.Str → List PySem.Str → List D → M Flw} {r : List Hd} (hs : subX c h = false) (hp : Post Q X (catchM c ks xs r ρ)) : Post Q X (catchM c ks xs ((h, o, su) :: r) ρ) := by
  cases o <;> (unfold catchM; rw [if_neg (by rw [hs]; simp)]; exact hp)
end
end Cs
namespace Cs
open PySem L2 Evl PyProof.Rows

/-! ## enumerate(t), t a tuple -/
abbrev tupIt (t : Addr) : Obj := { cls := .type "tuple_iterator", data := .fields #[.ref t, .int 0 0] }
abbrev enumOb (h : Heap) : Obj := { cls := .type "enumerate", data := .fields #[.none, .bool false, .ref h.objs.size, rawInt 0, .none, .none] }
theorem enum_newT (t : Addr) (its : Array Value) (n : Nat) (dc : Option Addr) (sl : Array (Option Value)) :
    Meets (Builtin.«enumerate.__new__» ⟨[.type "enumerate", .ref t], []⟩) fun _ R s =>
      s.heap.get? t = some { cls := .type "tuple", dict := dc, data := .seq its n, slots := sl } ∧
      R (.ok (.ret (.ref (s.heap.push (tupIt t)).objs.size))) { s with heap := (s.heap.push (tupIt t)).push (enumOb s.heap) } := by
  refine .of_wp ?_
  rintro prog w A R ⟨hp, g, d, tk, os⟩ ⟨ht, h⟩
  have hsub := sub_enumerate
  have hT : Heap.IsTuple (Shared.heap ⟨hp, g, d, tk, os⟩) t its := ⟨_, ht, rfl, n, rfl⟩
  wp_walk using AutoSeq1.wpAny_loadPart' ht
  refine wpAny_stack_any fun st => wpAny_pure ?_
  split
  · rename_i c _ _ _ _ _
    cases (c == Value.type "enumerate") <;>
      (wp_walk using AutoSeq1.wpAny_loadPart' ht, wpAny_pyIter_tuple hT
       exact ⟨_, rfl, h⟩)
  · wp_walk using AutoSeq1.wpAny_loadPart' ht, wpAny_pyIter_tuple hT
    exact ⟨_, rfl, h⟩
theorem call_enumT {prog : Program} {w : World} {A : Around} {E : Value → Shared → Prop} {s : Shared} {t : Addr} {its : Array Value} {Q : Value → Shared → Prop} (hT : s.heap.IsTuple t its)
    (h : ∀ h' : Heap, IsEnum h' (s.heap.objs.size + 1) s.heap.objs.size 0 .none → h'.IsTupleIter s.heap.objs.size t 0 → (∀ b o, s.heap.get? b = some o → h'.get? b = some o) → Q (.ref (s.heap.objs.size + 1)) { s with heap := h' }) :
    wpAny (model prog w) A (call (.type "enumerate") [.ref t]) Q E s := by
  obtain ⟨⟨c, dc, dt, sl⟩, ht, hc, n, hd⟩ := hT
  have hc : c = .type "tuple" := hc
  have hd : dt = .seq its n := hd
  subst hc hd
  have hz : (s.heap.push (tupIt t)).objs.size = s.heap.objs.size + 1 := Heap.size_push ..
  have ge : ((s.heap.push (tupIt t)).push (enumOb s.heap)).get? (s.heap.objs.size + 1) = some (enumOb s.heap) := by
    rw [← hz]
    exact Heap.get?_push_size _ rfl
  have gi : ((s.heap.push (tupIt t)).push (enumOb s.heap)).get? s.heap.objs.size = some (tupIt t) := Heap.get?_push_of_some _ (Heap.get?_push_size _ rfl)
  refine callType_new F.called_enumerate (by decide) (F.typeCall_enumerate_1 _) (F.newCall_enumerate_1 _) (fun ob => F.args_object_init_2 ob _) F.entry_enumerate_new (enum_newT t its n dc sl) ⟨ht, ?_⟩
  show _ ∧ _
  rw [hz]
  exact ⟨⟨_, ge, rfl⟩, h _ ge ⟨_, gi, rfl, rfl⟩ fun b o e => Heap.get?_push_of_some _ (Heap.get?_push_of_some _ e)⟩
/-- the tuple at a, each item in a new pair whose object is known -/
def ItE (K : PySem.W.Frag) (a : Addr) : It where
  go := fun i H => ∃ (xs : List V) (x : V), SqT K H a xs ∧ xs[i]? = some x
  yld := fun i H v H' => ∃ (q : Addr) (o : Obj) (x : V), v = .ref q ∧ o.dict = none ∧ H q = none ∧ H' = upd H q (.frz o (.tup [.int (i : Nat), x])) ∧ ∀ xs, SqT K H a xs → xs[i]? = some x
  stop := fun i H => ∃ xs : List V, SqT K H a xs ∧ xs.length = i
theorem turn_enumT {P : Program} {w : World} {K : PySem.W.Frag} {elts : List Expr} {kk : Nat} {tpos : Pos} (a e it : Addr) :
    L2.Turn P w K (.Tuple elts kk tpos) (ItE K a) [e, it] e (fun i h => (∃ old, IsEnum h e it ((i : Nat) : Int) old) ∧ h.IsTupleIter it a i ∧ e ≠ it ∧ a ≠ it ∧ a ≠ e) where
  mem := by simp
  obj := by
    rintro i h ⟨⟨old, he⟩, ⟨o, ho, hc, hd⟩, _⟩ b hb
    rcases List.mem_cons.mp hb with z | z
    · rw [z]; exact ⟨_, he, fun v q => nomatch q⟩
    · rw [List.mem_singleton.mp z]; exact ⟨o, ho, fun v q => by rw [hd] at q; cases q⟩
  keep := by
    rintro i h h' ⟨⟨old, he⟩, ⟨o, ho, r⟩, hne⟩ k
    exact ⟨⟨old, k e (by simp) _ he⟩, ⟨o, k it (by simp) o ho, r⟩, hne⟩
  item := by
    intro X hP hw hK hc i pins s σ H E I hf st hg
    subst hP hw hK
    obtain ⟨⟨old, he⟩, hit, hne, hai, hae⟩ := st
    obtain ⟨xs, x, hq, hx⟩ := hg
    obtain ⟨its, rv, p, hz⟩ := I.tuple hq
    obtain ⟨u, hu, ru⟩ := rv.get hx
    have hel : e < s.heap.objs.size := Heap.lt_size he
    have hil : it < s.heap.objs.size := by obtain ⟨_, q, _⟩ := hit; exact Heap.lt_size q
    have hlt : i < its.toArray.size := by
      rcases Nat.lt_or_ge i its.length with z | z
      · simpa using z
      · rw [List.getElem?_eq_none z] at hu; cases hu
    have Dr := Draws.tuple (prog := X.prog) (w := X.w) (A := X.A.in1) (I.ok.hd hc) it a hai its.toArray
    refine wpAny_pyNext_enum_itemD Dr he ⟨hit, p⟩ hlt hne (by simp; exact ⟨hne, fun z => hae z.symm⟩) fun v h' tk hv ho hst hT hsz hk => ?_
    have ev : v = u := by
      have z : (its.toArray)[i]? = some u := by simpa using hu
      rw [z] at hv
      cases hv
      rfl
    subst ev
    refine ⟨_, rfl, wpAny_letOwnedTupleGo_enum (s := { s with heap := h', toks := tk + 1 }) ho fun h2 he' sb => ?_⟩
    have gT : h2.get? s.heap.objs.size = some { cls := .type "tuple", data := .seq #[.int i tk, v] } := (sb.2 _ (Nat.ne_of_gt hel)).trans hT
    have new : ObjOk X.prog X.w (upd H s.heap.objs.size (.frz { cls := .type "tuple", data := .seq #[.int i tk, v] } (.tup [.int (i : Nat), x]))) h2 s.heap.objs.size (.frz { cls := .type "tuple", data := .seq #[.int i tk, v] } (.tup [.int (i : Nat), x])) :=
      ⟨gT, by show 2 ≤ sizeLine; decide, [.int i tk, v], .cons ⟨_, rfl⟩ (.cons ru .nil), ⟨_, gT, rfl, _, rfl⟩⟩
    have I1 := I.turnedNew (t' := tk + 1) (ch := [e, it]) (fun b ob hb q => (sb.2 b fun z => hb (by simp [z])).trans (hk b ob (fun z => hb (by simp [z])) (fun z => hb (by simp [z])) q)) hf (Nat.le_refl _) new
    refine ⟨.ref s.heap.objs.size, _, I1, rfl, ⟨_, _, x, rfl, rfl, I.hok.fresh (Nat.le_refl _), rfl, fun ys hy => by rw [I.tuple_inj hy hq]; exact hx⟩, ⟨⟨v, ?_⟩, ?_, hne, hai, hae⟩, fun b hb => ?_⟩
    · have e1 : ((i + 1 : Nat) : Int) = (i : Int) + 1 := by omega
      rw [e1]
      exact he'
    · obtain ⟨⟨o, ho, r⟩, _⟩ := hst
      exact ⟨o, (sb.2 it (Ne.symm hne)).trans ho, r⟩
    · have hb' : b < s.heap.objs.size := by
        rcases List.mem_cons.mp hb with z | z
        · rw [z]; exact hel
        · rw [List.mem_singleton.mp z]; exact hil
      rw [upd_ne (Nat.ne_of_lt hb')]
      exact (hf b hb).1
  done := by
    intro X hP hw hK hc i pins s σ H E I hf st hg
    subst hP hw hK
    obtain ⟨⟨old, he⟩, hit, hne, hai, hae⟩ := st
    obtain ⟨xs, hq, hx⟩ := hg
    obtain ⟨its, rv, p, hz⟩ := I.tuple hq
    obtain ⟨f0, f1, f2, f3, f4, f5⟩ := hf it (by simp)
    have hl := rv.length
    have Dr := Draws.tuple (prog := X.prog) (w := X.w) (A := X.A.in1) (I.ok.hd hc) it a hai (its.toArray)
    refine wpAny_pyNext_enum_endD Dr he (i := i) ⟨?_, p⟩ fun h' eb => ⟨rfl, I.turned (t' := s.toks) (fun b o hb q => eb b o hb q) f0 f1 f3 f4 f5⟩
    have : its.toArray.size = i := by simp; omega
    rw [this]
    exact hit
  self := fun A i s Q E st h => let ⟨⟨_, he⟩, _⟩ := st; wpAny_pyIter_enum he h
def iEnumT (K : PySem.W.Frag) (te : TE) : TI := fun σ H R => te σ H fun v H1 => ∃ a xs, [v] = [V.ref a] ∧ SqT K H1 a xs ∧ R (ItE K a) H1
theorem pi_enumT {X : Cx} {e : Expr} {te : TE} {p pos tpos : Pos} {elts : List Expr} {kk : Nat} (hg : Gl X "enumerate") (hm : X.mg "enumerate" = none) (he : PE X e te) (hs : starEach [e] X.env = (false, eval e X.env) :: starEach [] X.env := by rfl) :
    PI X (.Tuple elts kk tpos) (.Call (.Name "enumerate" p) [e] [] pos) (iEnumT X.K te) := by
  have ha : PA X [e] (tCons te tNil) := pa_cons he pa_nil hs
  constructor
  intro pins s σ H R I h
  have h : tCons te tNil σ H (fun vs H1 => ∃ a xs, vs = [.ref a] ∧ SqT X.K H1 a xs ∧ R (ItE X.K a) H1) := h
  refine Call_ (ld_blt I hg hm boot_enumerate (callWith_type1 (thn (ha.run pos pins s σ H _ I h) ?_) hs rfl))
  rintro us s1 ⟨vs, H1, I1, r1, a, xs, rfl, hq, q⟩
  cases r1 with
  | cons r rr =>
    cases rr
    cases r
    obtain ⟨its, rv, pt, hz⟩ := I1.tuple hq
    have ha1 : a < s1.heap.objs.size := by obtain ⟨o, e, _⟩ := pt; exact Heap.lt_size e
    refine call_enumT pt fun h' he hit hk => wpAny_pyIter_enum he ?_
    have I2 := I1.kept (t' := s1.toks) hk
    refine ⟨s1.heap.objs.size + 1, [s1.heap.objs.size + 1, s1.heap.objs.size], _, _, H1, rfl, I2, turn_enumT a (s1.heap.objs.size + 1) s1.heap.objs.size, ⟨⟨.none, he⟩, hit, Nat.succ_ne_self _, Nat.ne_of_lt ha1, Nat.ne_of_lt (Nat.lt_succ_of_lt ha1)⟩, fun b hb => ?_, q⟩
    have hle : s1.heap.objs.size ≤ b := by
      rcases List.mem_cons.mp hb with z | z
      · rw [z]; exact Nat.le_add_right _ _
      · rw [List.mem_singleton.mp z]; exact Nat.le_refl _
    exact I1.fpOk hle (I1.hok.fresh hle)
def YPr (xs : List V) : Nat → Hp → V → Hp → Prop := fun i H v H' => ∃ (q : Addr) (o : Obj) (x : V), v = .ref q ∧ o.dict = none ∧ H q = none ∧ H' = upd H q (.frz o (.tup [.int (i : Nat), x])) ∧ xs[i]? = some x
theorem walk_enumT {K : PySem.W.Frag} {a : Addr} {xs : List V} : Walk (ItE K a) xs.length (fun H => SqT K H a xs) (YPr xs) := by
  refine ⟨fun i _ hi q => ⟨xs, xs[i], q, by simp [hi]⟩, fun _ q => ⟨xs, q, rfl⟩, ?_⟩
  rintro i H v H' _ q ⟨p, o, x, h1, h2, h3, h4, h5⟩
  exact ⟨p, o, x, h1, h2, h3, h4, h5 xs q⟩
def numb (k : Nat) : List D → List D
  | [] => []
  | d :: ds => .tup [.int (k : Int), d] :: numb (k + 1) ds
theorem numb_get : ∀ {ds : List D} {k i : Nat}, (numb k ds)[i]? = ds[i]?.map fun d => .tup [.int ((k + i : Nat) : Int), d]
  | [], k, i => by simp [numb]
  | d :: ds, k, 0 => by simp [numb]
  | d :: ds, k, i + 1 => by
    rw [numb, List.getElem?_cons_succ, List.getElem?_cons_succ, numb_get]
    congr 2
    funext d
    congr 4
    omega
theorem numb_len : ∀ {ds : List D} {k : Nat}, (numb k ds).length = ds.length
  | [], _ => rfl
  | d :: ds, k => by rw [numb, List.length_cons, List.length_cons, numb_len]
/-- enumerate(e), e a tuple -/
def dEnT (f : M D) : M (List D) := bnd (dFz f) fun d => match d with
  | .tup xs => ret (numb 0 xs)
  | _ => bad
theorem src_enumT {T : Tx} {B : Hp} {s : S5} {a : Addr} {vs : List V} {ds : List D} (h : ∀ s1 : S5, Okk T B s1 → Ex s.F s1.F → SqT T.K s1.H a vs) (rp : Reps T B s.H s.F ds vs []) : Src T B (ItE T.K a) vs.length (fun H => SqT T.K H a vs) (YPr vs) s.F (numb 0 ds) := by
  refine ⟨walk_enumT, by rw [numb_len, rp.len], h, ?_⟩
  rintro i x H' s1 hi r e ⟨q, o, y, rfl, ho, hq, rfl, hy⟩
  cases ed : ds[i]? with
  | none =>
    rw [List.getElem?_eq_none_iff, rp.len] at ed
    rw [List.getElem?_eq_none ed] at hy
    cases hy
  | some d =>
    obtain ⟨v, q1, q2⟩ := (rp.mono (H' := s1.H) (Ex.refl B) e fun a q => (by cases q)).get0 ed
    rw [hy] at q1
    cases q1
    refine ⟨.tup [.int (i : Int), d], s1.newF q (.frz o (.tup [.int (i : Nat), y])), ?_, rfl, rfl, rfl, r.newF hq, goes_newF r hq, ?_⟩
    · rw [numb_get, ed]
      simp
    · exact (tmp_newT ho r hq (.cons (.int _) (.cons q2 .nil rfl) rfl)).rep
section
variable {X : Cx} {G : Gx} {W : WX} {tc : List Nat} {e : Expr} {f : M D} {p pos tpos : Pos} {elts : List Expr} {kk : Nat}
theorem gi_enumT (hg : Gl X "enumerate") (hm : X.mg "enumerate" = none) (h0 : GE X G W tc e f) (hs : starEach [e] X.env = (false, eval e X.env) :: starEach [] X.env := by rfl) : GI X G W tc (.Tuple elts kk tpos) (.Call (.Name "enumerate" p) [e] [] pos) (dEnT f) :=
  pi_mono (pi_enumT hg hm (g_fz h0) hs) fun σ H R ⟨B, s, e1, e2, rl, hp⟩ => by
    subst e1 e2
    refine seqE1 rl hp fun d v s1 g ed hs r1 t a h => ?_
    cases d with
    | tup xs =>
      have z := rep_v t.rep (dFz_frz ed)
      obtain ⟨q, vs, rfl, rp, sq⟩ := z.tupS
      exact ⟨q, vs, rfl, sq s1.H s1.F (Ex.refl _) r1.exF, h _ _ _ _ s1 rfl hs r1 a.drop0 (src_enumT (fun s3 r3 e3 => sq s3.H s3.F e3 r3.exF) rp)⟩
    | _ => exact h.elim
end
end Cs
namespace Cs
open PySem L2 Evl PyProof.Rows

/-! ## dict comprehensions: texts as keys, values without owned parts -/
def putD (k : Str) (d : D) (ks : List Str) (ds : List D) : List Str × List D :=
  if k ∈ ks then (ks, List.zipWith (fun k' x => if k' = k then d else x) ks ds) else (ks ++ [k], ds ++ [d])
abbrev kz (ks : List Str) (vs : List V) : List (Key × V) := (ks.map Sum.inr).zip vs
theorem kz_any {k : Str} : ∀ {ks : List Str} {vs : List V}, ks.length = vs.length → ((kz ks vs).any fun kv => decide (kv.1 = Sum.inr k)) = decide (k ∈ ks)
  | [], [], _ => by simp [kz]
  | a :: ks, v :: vs, h => by
    have e : kz (a :: ks) (v :: vs) = (Sum.inr a, v) :: kz ks vs := rfl
    rw [e, List.any_cons, kz_any (by simpa using h)]
    by_cases q : a = k
    · subst q; simp
    · have q' : ¬ k = a := fun z => q z.symm
      simp [q, q']
  | [], _ :: _, h => by simp at h
  | _ :: _, [], h => by simp at h
theorem kz_map {k : Str} {v : V} : ∀ {ks : List Str} {vs : List V}, (kz ks vs).map (fun kv => if kv.1 = Sum.inr k then (kv.1, v) else kv) = kz ks (List.zipWith (fun k' x => if k' = k then v else x) ks vs)
  | [], vs => by simp [kz]
  | _ :: _, [] => by simp [kz]
  | a :: ks, w :: vs => by
    have e : kz (a :: ks) (w :: vs) = (Sum.inr a, w) :: kz ks vs := rfl
    rw [e, List.map_cons, kz_map, List.zipWith_cons_cons]
    have e2 : ∀ (w : V) (us : List V), kz (a :: ks) (w :: us) = (Sum.inr a, w) :: kz ks us := fun _ _ => rfl
    rw [e2]
    congr 1
    by_cases q : a = k
    · rw [if_pos (by rw [q]), if_pos q]
    · rw [if_neg fun z => q (by cases z; rfl), if_neg q]
theorem kz_app {ks : List Str} {vs : List V} {k : Str} {v : V} (h : ks.length = vs.length) : kz ks vs ++ [(Sum.inr k, v)] = kz (ks ++ [k]) (vs ++ [v]) := by
  unfold kz
  rw [List.map_append, List.zip_append (by simpa using h)]
  rfl
theorem reps_zw {T : Tx} {B H F : Hp} {k : Str} {d : D} {v : V} (rd : Rep T B H F d v []) : ∀ {ks : List Str} {ds : List D} {vs : List V}, Reps T B H F ds vs [] → Reps T B H F (List.zipWith (fun k' x => if k' = k then d else x) ks ds) (List.zipWith (fun k' x => if k' = k then v else x) ks vs) []
  | [], _, _, _ => by rw [List.zipWith_nil_left, List.zipWith_nil_left]; exact .nil
  | _ :: _, _, _, .nil => by rw [List.zipWith_nil_right, List.zipWith_nil_right]; exact .nil
  | a :: ks, _, _, .cons r rs e => by
    obtain ⟨e1, e2⟩ := List.append_eq_nil_iff.mp e.symm
    subst e1 e2
    rw [List.zipWith_cons_cons, List.zipWith_cons_cons]
    refine .cons (f := []) ?_ (reps_zw rd rs) rfl
    by_cases q : a = k
    · rw [if_pos q, if_pos q]; exact rd
    · rw [if_neg q, if_neg q]; exact r
theorem put_rep {T : Tx} {B H F : Hp} {k : Str} {d : D} {v : V} {ks : List Str} {ds : List D} {vs : List V} (rd : Rep T B H F d v []) (rs : Reps T B H F ds vs []) (hl : ks.length = vs.length) :
    ∃ vs', Reps T B H F (putD k d ks ds).2 vs' [] ∧ kz (putD k d ks ds).1 vs' = putK (kz ks vs) (Sum.inr k) v ∧ (putD k d ks ds).1.length = vs'.length ∧ (putD k d ks ds).1.length ≤ ks.length + 1 := by
  unfold putD putK
  rw [kz_any hl]
  by_cases q : k ∈ ks
  · rw [if_pos q, if_pos (by simpa using q), kz_map]
    exact ⟨_, reps_zw rd rs, rfl, by simp [List.length_zipWith, hl], by simp⟩
  · rw [if_neg q, if_neg (by simpa using q), kz_app hl]
    exact ⟨_, rs.append (.cons rd .nil rfl), rfl, by simp [hl], by simp⟩
def dcL (tg : Tg) (own : List Nat) (cond : M Bool) (key val : M D) : List Str × List D → List D → En → Out (List Str × List D)
  | acc, [], ρ => .ok acc ρ
  | acc, d :: ds, ρ => match dTg tg d ρ with
    | .ok .nx ρ1 => (match cond ρ1 with
      | .ok true ρ2 => (match key ρ2 with
        | .ok (.str k) ρ3 => (match val ρ3 with
          | .ok x ρ4 => if acc.1.length < lim ∧ allF noOw x = true then dcL tg own cond key val (putD k x acc.1 acc.2) ds (fgt own ρ4) else .bad
          | _ => .bad)
        | _ => .bad)
      | .ok false ρ2 => dcL tg own cond key val acc ds (fgt own ρ2)
      | _ => .bad)
    | _ => .bad
def dcEnd (own : List Nat) (ρ0 : En) : Out (List Str × List D) → Out D
  | .ok xs ρ => .ok (.dct .ow xs.1 xs.2) (rst own ρ0 ρ)
  | _ => .bad
def dDc (src : M (List D)) (tg : Tg) (own : List Nat) (cond : M Bool) (key val : M D) : M D := bnd src fun ds ρ =>
  if noOwAt own ρ = true then dcEnd own ρ (dcL tg own cond key val ([], []) ds (fgt own ρ)) else .bad
section
variable {T : Tx} {B : Hp}
/-- a dict in the making, at p -/
structure AccD (T : Tx) (B : Hp) (p : Addr) (s : S5) (ks : List Str) (xs : List D) (vs : List V) : Prop where
  t : Reps T B s.H s.F xs vs []
  h : s.H p = some (.dK (kz ks vs))
  l : ks.length = vs.length
  f : s.F p = none
  b : B p = none
  o : ¬ O s.φ p
theorem AccD.go {p : Addr} {s s1 : S5} {ks : List Str} {xs : List D} {vs : List V} {g1 tc : List Nat} (c : AccD T B p s ks xs vs) (a : Goes tc s s1 g1) : AccD T B p s1 ks xs vs ∧ p ∉ g1 := by
  have hp : ∀ q : s.H p = none, False := fun q => by rw [c.h] at q; cases q
  refine ⟨⟨c.t.mono (Ex.refl B) a.step.ext fun _ q => (by cases q), a.step.keep p _ c.h c.o, c.l, ?_, c.b, fun q => (a.step.on p (.inl q)).elim c.o hp⟩, fun q => (a.step.on p (.inr q)).elim c.o hp⟩
  cases e : s1.F p with
  | none => rfl
  | some u => exact ((a.step.fn p u e c.f).elim c.o hp).elim
theorem AccD.same {p : Addr} {s s1 : S5} {ks : List Str} {xs : List D} {vs : List V} (c : AccD T B p s ks xs vs) (h1 : s1.H = s.H) (h2 : s1.F = s.F) (h3 : ∀ a, O s1.φ a → O s.φ a) : AccD T B p s1 ks xs vs :=
  ⟨by rw [h1, h2]; exact c.t, by rw [h1]; exact c.h, c.l, by rw [h2]; exact c.f, c.b, fun q => c.o (h3 p q)⟩
end
section
variable {T : Tx} {W : WX} {t1 tt tk te to own : List Nat} {src : M (List D)} {cond : M Bool} {key val : M D} {tg : Tg}
theorem dc_core2 {σ : L2.St} {H : Hp} {Q : VK} (htg : ∀ x ∈ tg.tc, 1000 ≤ x → x - 1000 ∈ own) (hsub : ∀ j ∈ tg.tc ++ (tt ++ (tk ++ te)), j ∈ to ∨ j ∈ own) (h : tD T W (t1 ++ to) (dDc src tg own cond key val) σ H Q) :
    tDc (tDI T W t1 src) (tgR T.K tg) (tDT T W0 tt cond) (tD T W0 tk key) (tD T W0 te val) own σ H Q := by
  obtain ⟨B, sb, e1, e2, rb, hp⟩ := h
  subst e1 e2
  have hp : Post (okE T B (t1 ++ to) sb Q) (exE T W B (t1 ++ to) sb) (bnd src (fun ds ρ => if noOwAt own ρ = true then dcEnd own ρ (dcL tg own cond key val ([], []) ds (fgt own ρ)) else .bad) sb.ρ) := hp
  refine ⟨B, sb, rfl, rfl, rb, hp.bnd.imp (fun ds ρ1 ⟨_, h⟩ J n Gd Y s0 q1 q2 r0 a0 sr p hp0 => ?_) fun _ _ _ _ h cls dd s' x1 x2 x3 x4 x5 => h cls dd s' x1 x2 x3 x4 (x5.wk fun _ => memL)⟩
  subst q1
  split at h
  case isFalse => exact h.elim
  rename_i hno
  rw [← q2]
  let TT := tg.tc ++ (tt ++ (tk ++ te))
  let Pv : Nat → Hp → Prop := fun k H => ∃ s ks acc vs, s.H = H ∧ s.σ = wipe s0.σ own ∧ Okk T B s ∧ AccD T B p s ks acc vs ∧ In own TT s0 s [p] ∧ (∀ j ∈ own, ∀ x, s.ρ[j]? = some x → x = .un) ∧ s.σ.length = s0.σ.length ∧
    Post (okE T B (t1 ++ to) sb Q) (exE T W B (t1 ++ to) sb) (dcEnd own s0.ρ (dcL tg own cond key val (ks, acc) (ds.drop k) s.ρ))
  have start : Pv 0 (upd s0.H p (.dK [])) := by
    obtain ⟨s1, h1, h2, h3, h4, h5, h6, h7⟩ := into_own (own := own) r0
    refine ⟨{ s1 with H := upd s1.H p (.dK []) }, [], [], [], by show upd s1.H p _ = _; rw [h3], h2, ?_, ⟨.nil, upd_same, rfl, ?_, ?_, ?_⟩, ⟨?_, fun j q1 q2 => ?_, fun j q => ?_⟩, fun j hj x e => ?_, ?_, ?_⟩
    · exact h5.new (by rw [h3]; exact hp0)
    · show s1.F p = none
      rw [h4]; exact r0.freeF hp0
    · exact r0.freeB hp0
    · exact fun q => r0.freeO hp0 (h7 _ q)
    · show Step s0.H s0.F (O s0.φ) (upd s1.H p _) s1.F _
      rw [h3, h4]
      refine (Step.new hp0).drop2 fun a q => ?_
      rcases q with q | q
      · exact .inl (h7 a q)
      · rw [List.mem_singleton.mp q]; exact .inr hp0
    · refine ⟨?_, h6 j q2, fun b hb => ?_⟩
      · show s1.ρ[j]? = _
        rw [h1, fgt_get q2]
      · obtain ⟨u, e⟩ := r0.dom ⟨j, hb⟩
        show upd s1.H p _ b = _
        rw [upd_ne (ne_of_none e hp0), h3]
    · show s1.σ[j]? = _
      rw [h2, wipe_out q]
    · have e : s1.ρ[j]? = some x := e
      rw [h1] at e
      exact fgt_un (.inl hj) x e
    · show s1.σ.length = _
      rw [h2, wipe_len]
    · show Post _ _ (dcEnd own s0.ρ (dcL tg own cond key val ([], []) (ds.drop 0) s1.ρ))
      rw [h1]
      exact h
  refine ⟨fun i m H => m = n - i ∧ i ≤ n ∧ Pv i H, ⟨n, by simp, Nat.zero_le _, start⟩, ?_⟩
  rintro k m H1 ⟨rfl, hi, hP⟩
  obtain ⟨s, ks, acc, vs, x1, x2, x3, x4, x5, x6, x7, x8⟩ := hP
  subst x1
  have hG : Gd s.H := sr.g s x3 x5.st.ext
  by_cases hk : k < n
  · refine .inr ⟨sr.w.goes k _ hk hG, Pv (k + 1), fun H' p' => ⟨n - (k + 1), by omega, rfl, hk, p'⟩, fun x H' yl => ?_⟩
    obtain ⟨d, s3, y1, y2, y3, y4, y5, y6, y7⟩ := sr.y k x H' s hk x3 x5.st.ext (sr.w.yields k _ x H' hk hG yl)
    subst y2
    have hd : ds.drop k = d :: ds.drop (k + 1) := by
      obtain ⟨hl, e⟩ := List.getElem?_eq_some_iff.mp y1
      rw [← e]
      exact List.drop_eq_getElem_cons hl
    rw [hd] at x8
    unfold dcL at x8
    rw [← y4] at x8
    have c3 := (x4.go y6).1
    have i3 : In own TT s0 s3 [p] := x5.go y6 (fun _ z => by cases z) fun j _ => by rw [y3]
    cases et : dTg tg d s3.ρ with
    | bad => rw [et] at x8; exact x8.elim
    | exc c ks xs ρ => rw [et] at x8; exact x8.elim
    | ok fl ρ2 =>
      rw [et] at x8
      cases fl with
      | bk => exact x8.elim
      | ct => exact x8.elim
      | rt r => exact x8.elim
      | nx =>
        dsimp only at x8
        rw [← x2, ← y3]
        refine tg_core (T := T) y5 y7 et fun s4 z1 z2 z3 z4 z5 => ?_
        have hsg4 := tgs_sg z5 htg
        have c4 := (c3.go z5).1
        have i4 : In own TT s0 s4 [p] := i3.go z5 (fun j z => memL z) hsg4
        have hl4 : s4.σ.length = s3.σ.length := by rw [← z4.len, ← y5.len, z1]; exact dTg_len et
        have hl40 : s4.σ.length = s0.σ.length := by rw [hl4, y3, x7]
        refine ⟨(wipe_eq hl4 hsg4).trans (by rw [y3, x2, wipe_wipe]), ?_⟩
        subst z1
        refine ⟨B, s4, rfl, rfl, z4, ?_⟩
        cases ec : cond s4.ρ with
        | bad => rw [ec] at x8; exact x8.elim
        | exc c ks xs ρ => rw [ec] at x8; exact x8.elim
        | ok b ρ5 =>
          rw [ec] at x8
          intro s5 w1 w2 w3 w4
          subst w1
          have c5 := (c4.go w4).1
          have i5 : In own TT s0 s5 [p] := i4.go w4 (fun j z => memR (memL z)) fun j _ => by rw [w2]
          cases b with
          | false =>
            rw [if_neg Bool.false_ne_true]
            obtain ⟨s6, v1, v2, v3, v4, v5, v6, v7⟩ := i5.next w3 (by rw [w2, hl40])
            exact ⟨s6, ks, acc, vs, v3, v2, v5, c5.same v3 v4 v7, v6, fun j hj x e => fgt_un (.inl hj) x (by rw [← v1]; exact e), by rw [v2, wipe_len], by rw [v1]; exact x8⟩
          | true =>
            rw [if_pos rfl, ← w2]
            refine ⟨B, s5, rfl, rfl, w3, ?_⟩
            dsimp only at x8
            cases ek : key s5.ρ with
            | bad => rw [ek] at x8; exact x8.elim
            | exc c ks xs ρ => rw [ek] at x8; exact x8.elim
            | ok dk ρk =>
              rw [ek] at x8
              intro vk sk gk u1 u2 u3 u4 u5
              subst u1
              cases dk with
              | str kk =>
                obtain ⟨rk, _, _, _⟩ := u4
                cases rk
                rw [← u2]
                refine ⟨B, sk, rfl, rfl, u3, ?_⟩
                dsimp only at x8
                have ck := (c5.go u5).1
                have ik : In own TT s0 sk [p] := i5.go u5 (fun j z => memR (memR (memL z))) fun j _ => by rw [u2]
                cases ee : val sk.ρ with
                | bad => rw [ee] at x8; exact x8.elim
                | exc c ks xs ρ => rw [ee] at x8; exact x8.elim
                | ok d6 ρ6 =>
                  rw [ee] at x8
                  intro v6 s6 g6 u1 u2' u3' u4 u5'
                  subst u1
                  dsimp only at x8
                  split at x8
                  case isFalse => exact x8.elim
                  rename_i hlim
                  have c6 := ck.go u5'
                  have g0 : g6 = [] := u4.rep.noO hlim.2
                  subst g0
                  refine ⟨kz ks vs, Sum.inr kk, rfl, c6.1.h, ?_, ?_⟩
                  · unfold kz
                    rw [List.length_zip, List.length_map, ← c6.1.l, Nat.min_self, sizeLine_eq]
                    have := hlim.1
                    unfold lim at this
                    omega
                  · obtain ⟨vs', p1, p2, p3, p4⟩ := put_rep (k := kk) u4.rep c6.1.t c6.1.l
                    rw [← p2]
                    let s7 : S5 := { s6 with H := upd s6.H p (.dK (kz (putD kk d6 ks acc).1 vs')) }
                    have c7 : AccD T B p s7 (putD kk d6 ks acc).1 (putD kk d6 ks acc).2 vs' := ⟨p1.mono (Ex.refl B) (Ex.refl _) fun _ q => (by cases q), upd_same, p3, c6.1.f, c6.1.b, c6.1.o⟩
                    have r7 : Okk T B s7 := u3'.poke c6.1.f c6.1.b c6.1.o
                    have i6 : In own TT s0 s6 ([] ++ [p]) := ik.go u5' (fun j z => memR (memR (memR z))) fun j _ => by rw [u2']
                    have i7 : In own TT s0 s7 [p] := i6.poke (p := p) (o := .dK (kz (putD kk d6 ks acc).1 vs')) r0 hp0
                    obtain ⟨s8, v1, v2, v3, v4, v5, v6', v7⟩ := i7.next r7 (by show s6.σ.length = _; rw [u2', u2, w2, hl40])
                    exact ⟨s8, _, _, _, v3, v2, v5, c7.same v3 v4 v7, v6', fun j hj x e => fgt_un (.inl hj) x (by rw [← v1]; exact e), by rw [v2, wipe_len], by rw [v1]; exact x8⟩
              | _ => exact x8.elim
  · have ekn : k = n := by omega
    subst ekn
    refine .inl ⟨sr.w.stops _ hG, ?_⟩
    rw [← sr.len, List.drop_length] at x8
    unfold dcL dcEnd at x8
    obtain ⟨s1, h1, h2, h3, h4, h5, h6, h7⟩ := outof_own (own := own) r0 hno x3 x5.sg x6 (by rw [x3.len, x7, r0.len]) x5.st x5.fx hsub
    have t1 : Tmp T B s1.H s1.F s1.φ (.dct .ow ks acc) (.ref p) [p] := by
      rw [h3, h4, h5]
      exact ⟨.dctO x4.h x4.l x4.t rfl, List.nodup_cons.mpr ⟨fun z => (by cases z), .nil⟩, fun a ha => by
        rw [List.mem_singleton.mp ha]; exact ⟨x4.f, x4.b⟩, fun a ha => by
        rw [List.mem_singleton.mp ha]; exact x4.o⟩
    have z := x8 (.ref p) s1 [p] h1 (h2.trans q2) h6 t1 ((a0.trans0 h7).wk fun j z => z)
    rw [h3] at z
    exact z
end
section
variable {X : Cx} {G : Gx} {W : WX} {t1 tt tk te to : List Nat} {src : M (List D)} {cond : M Bool} {key val : M D} {tg : Tg} {kE vE tgE iter : Expr} {ifs : List Expr} {scope : Scope} {own : List (Str × Nat)} {pos : Pos}
/-- {k: v for x in xs if c} -/
theorem g_dc (hc : X.calm = true) (hN : X.N.Nodup) (hi : GI X G W t1 tgE iter src) (ok : BlkOk X.N X.env.scope scope own) (hg : blkT X scope fun Y => PG Y tgE (tgR X.K tg)) (ht : blkT X scope fun Y => GTs Y G W0 tt ifs cond) (hk : blkT X scope fun Y => GE Y G W0 tk kE key) (he : blkT X scope fun Y => GE Y G W0 te vE val)
    (htg : ∀ x ∈ tg.tc, 1000 ≤ x → x - 1000 ∈ own.map (·.2) := by decide) (hsub : ∀ j ∈ tg.tc ++ (tt ++ (tk ++ te)), j ∈ to ∨ j ∈ own.map (·.2) := by decide) (hs : ∀ x, foldedSetIterable iter X.env x = pure x := by intro _; rfl) :
    GE X G W (t1 ++ to) (.DictComp kE vE [⟨tgE, iter, ifs, 0⟩] scope pos) (dDc src tg (own.map (·.2)) cond key val) :=
  pe_mono (pe_dc hc hN hi ok hg ht hk he hs) fun σ H Q h => dc_core2 (T := tx X G) htg hsub h
end
end Cs
namespace Cs
open PySem L2 Evl PyProof.Rows
/-- y = {k: v for ..} on one line, y a local -/
theorem ps_setDc {X : Cx} {i : Nat} {y : Str} {py pos spos : Pos} {kE vE tg iter : Expr} {ifs : List Expr} {scope : Scope} {own : List (Str × Nat)} {wi : TI} {g : TG} {tt : TT} {tk te : TE} (hc : X.calm = true) (hN : X.N.Nodup) (hy : X.N[i]? = some y)
    (hyl : X.env.scope.names.lookup y = some .local) (hsw : swapsWith (.DictComp kE vE [⟨tg, iter, ifs, 0⟩] scope pos) (some (.Name y py)) spos.line X.env = pure true) (hi : PI X tg iter wi) (ok : BlkOk X.N X.env.scope scope own)
    (hg : blkT X scope fun Y => PG Y tg g) (ht : blkT X scope fun Y => PTs Y ifs tt) (hk : blkT X scope fun Y => PE Y kE tk) (he : blkT X scope fun Y => PE Y vE te) (hs : ∀ x, foldedSetIterable iter X.env x = pure x := by intro _; rfl) :
    PS X (.Assign [.Name y py] (.DictComp kE vE [⟨tg, iter, ifs, 0⟩] scope pos) spos) (tAsg (tDc wi g tt tk te (own.map (·.2))) (gName i)) := by
  constructor
  intro pins s σ H D I h
  rw [exec_Assign_Name_used _ _ _ _ hsw]
  refine wpAny_bind (wpAny_standAt (wpAny_bind ?_))
  show wpAny _ X.A (do let _ ← comprehension (.DictComp kE vE [⟨tg, iter, ifs, 0⟩] scope pos) scope X.env (firstIterPos [⟨tg, iter, ifs, 0⟩] pos) newDict false (eval iter X.env) (some (assign (.Name y py) X.env))) _ _ s
  have h : tDc wi g tt tk te (own.map (·.2)) σ H (fun x H1 => gName i x σ H1 D.nx) := h
  have core := dc_core (pos := pos) (use := some (assign (.Name y py) X.env)) (pos' := firstIterPos [⟨tg, iter, ifs, 0⟩] pos) (Qf := fun _ s' => SP X pins D .next s') hc hN I hi ok hg ht hk he hs h
  refine wpAny_bind (thn (core ?_) fun _ s' hq => wpAny_pure (wpAny_pure hq))
  intro L C s' m H' I' q hn f
  show wpAny _ _ (assign (.Name y py) X.env (.ref L)) _ _ _
  refine wpAny_assign_Name (store_ok2 (v := V.ref L) I' hN hy (.inl hyl) rfl ?_ (.inr hyl))
  rintro s2 I2 ⟨a, sb, ha⟩
  obtain ⟨f0, f1, f2, f3, f4, f5⟩ := f
  have haC : C ≠ a := ha.elim (fun z => by rw [z]; exact f1) fun z e => f4 y a z e.symm
  exact ⟨m, hn.sameBut sb haC, fun h3 sb3 => ⟨_, H', I2.turned (t' := s2.toks) (fun b o hb e => (sb3.2 b hb).trans e) f0 f1 f3 f4 f5, q⟩⟩
theorem swD_true {kE vE : Expr} {gs : List Comprehension} {scope : Scope} {pos py : Pos} {y : Str} {l : Nat} {env : Env} (hk : env.scope.kind = .function) (hy : env.scope.names.lookup y = some .local) (hl : (py.line == pos.line) = true)
    (ha : (scope.names.any fun (n, k) => n == y && (k == .local || k == .cell)) = false) : swapsWith (.DictComp kE vE gs scope pos) (some (.Name y py)) l env = pure true := by
  have e1 : env.kindOf y = some .local := hy
  have e2 : env.blockKind = .function := by unfold Env.blockKind; rw [hk]; rfl
  unfold swapsWith
  simp only [e1, e2, ha, hl, Expr.pos]
  rfl
section
variable {X : Cx} {G : Gx} {W : WX} {t1 tt tk te to : List Nat} {src : M (List D)} {cond : M Bool} {key val : M D} {tg : Tg} {kE vE tgE iter : Expr} {ifs : List Expr} {scope : Scope} {own : List (Str × Nat)} {pos : Pos}
theorem gs_setDc {i : Nat} {y : Str} {py spos : Pos} (hc : X.calm = true) (hN : X.N.Nodup) (hy : X.N[i]? = some y) (hyl : X.env.scope.names.lookup y = some .local) (hsw : swapsWith (.DictComp kE vE [⟨tgE, iter, ifs, 0⟩] scope pos) (some (.Name y py)) spos.line X.env = pure true)
    (hi : GI X G W t1 tgE iter src) (ok : BlkOk X.N X.env.scope scope own) (hg : blkT X scope fun Y => PG Y tgE (tgR X.K tg)) (ht : blkT X scope fun Y => GTs Y G W0 tt ifs cond) (hk : blkT X scope fun Y => GE Y G W0 tk kE key) (he : blkT X scope fun Y => GE Y G W0 te vE val)
    (htg : ∀ x ∈ tg.tc, 1000 ≤ x → x - 1000 ∈ own.map (·.2) := by decide) (hsub : ∀ j ∈ tg.tc ++ (tt ++ (tk ++ te)), j ∈ to ∨ j ∈ own.map (·.2) := by decide) (hs : ∀ x, foldedSetIterable iter X.env x = pure x := by intro _; rfl) :
    GS X G W ((t1 ++ to) ++ [i, i + 1000]) (.Assign [.Name y py] (.DictComp kE vE [⟨tgE, iter, ifs, 0⟩] scope pos) spos) (dAsg i (dDc src tg (own.map (·.2)) cond key val)) :=
  ps_mono (ps_setDc hc hN hy hyl hsw hi ok hg ht hk he hs) fun E σ H h => dc_core2 (T := tx X G) htg hsub (asg_core (T := tx X G) h)
end
end Cs
namespace Cs
open PySem L2 Evl PyProof.Rows
section
variable {X : Cx} {G : Gx} {W : WX} {tc t1 t2 t3 : List Nat} {a b c e : Expr} {pos p : Pos} {f g h u w : M D} {o o1 o2 : Opd} {x : Str}
/-! ## constants of the module -/
theorem g_glI {n : Int} (hg : Gl X x) (hm : ∃ t : Tok, X.mg x = some (.int n t)) (hd : (x == ("__debug__" : Str)) = false := by decide) : GE X G W [] (.Name x pos) (ret (.int n)) :=
  pe_mono (pe_glob (v := .int n) hg hm.choose_spec ⟨_, rfl⟩ hd) fun σ H Q ⟨B, s, e1, e2, r, h⟩ => by
    subst e1 e2
    exact h _ s [] rfl rfl r (Tmp.flat (.int n)) Goes.refl
theorem g_glS {z : Str} (hg : Gl X x) (hm : ∃ t : Tok, X.mg x = some (.str z t)) (hz : PyData.strOk z = true := by decide +kernel) (hd : (x == ("__debug__" : Str)) = false := by decide) : GE X G W [] (.Name x pos) (ret (.str z)) :=
  pe_mono (pe_glob (v := .str z) hg hm.choose_spec ⟨_, rfl⟩ hd) fun σ H Q ⟨B, s, e1, e2, r, h⟩ => by
    subst e1 e2
    exact h _ s [] rfl rfl r (Tmp.flat (.str z hz)) Goes.refl
/-! ## a < b < c -/
def chn (p q : D → D → PR) (h : M D) (x y : D) : M D := match p x y with
  | .sc (.bl true) => bnd h fun z => pr (q y z)
  | .sc (.bl false) => ret (.bl false)
  | _ => bad
def dChn (p q : D → D → PR) (f g h : M D) : M D := bnd f fun x => bnd g fun y => chn p q h x y
theorem tD_wk {T : Tx} {u1 u2 : List Nat} (hw : ∀ j ∈ u1, j ∈ u2) {σ : L2.St} {H : Hp} {Q : VK} (h : tD T W u2 f σ H Q) : tD T W u1 f σ H Q := by
  obtain ⟨B, s, e1, e2, rl, hp⟩ := h
  exact ⟨B, s, e1, e2, rl, hp.imp (fun _ _ z => z.wk hw) fun _ _ _ _ z => exE.wk hw z⟩
theorem chn_core {T : Tx} {r r' : R2} {p q : D → D → PR} (hr : P2 T r p) (hr' : P2 T r' q) {σ : L2.St} {H : Hp} {Q : VK} (hh : tD T W (t1 ++ (t2 ++ t3)) (dChn p q f g h) σ H Q) : tChain r r' (tD T W t1 f) (tD T W t2 g) (tD T W t3 h) σ H Q := by
  obtain ⟨B, s, e1, e2, rl, hp⟩ := hh
  subst e1 e2
  refine seqE rl hp fun d v s1 g1 _ hs r1 tA a1 hp => ?_
  rw [← hs]
  refine tD_wk (u2 := t2 ++ t3) (fun j hj => memL hj) (seqE2 (tc2 := t2 ++ t3) a1 hs r1 hp fun d2 v2 s2 g2 _ hs2 r2 tB a2 hp => ?_)
  have z := hr B s2.H s2.F d v g1 d2 v2 g2 r2.exF r2.exB (tA.go a2).rep tB.rep
  have a12 := a1.trans a2
  unfold chn at hp
  cases ep : p d d2 with
  | sc dd =>
    rw [ep] at hp z
    cases dd with
    | bl bb =>
      obtain ⟨v3, rp3, k3⟩ := z
      cases rp3
      refine k3 _ ⟨bb, rfl, ?_⟩
      cases bb with
      | false =>
        rw [if_neg Bool.false_ne_true]
        exact hp (.bl false) s2 [] rfl (hs2.trans hs) r2 (Tmp.flat (.bl false)) a12.drop0
      | true =>
        rw [if_pos rfl, ← hs2]
        have hp3 := hp.imp (fun _ _ z => z) fun _ _ _ _ z => exE.wk (u1 := (t1 ++ (t2 ++ t3)) ++ t3) (fun j hj => (List.mem_append.mp hj).elim id fun q => memR (memR q)) z
        refine seqE2 (tc2 := t3) a12 (hs2.trans hs) r2 hp3 fun d4 v4 s4 g4 _ hs4 r4 tC a4 hp => ?_
        have a124 := (a12.trans a4).wk (tc := t1 ++ (t2 ++ t3)) fun j hj => (List.mem_append.mp hj).elim id fun q => memR (memR q)
        have hp : Post (okE T B (t1 ++ (t2 ++ t3)) s Q) (exE T W B ((t1 ++ (t2 ++ t3)) ++ t3) s) (pr (q d2 d4) s4.ρ) := hp
        have hp5 := hp.imp (fun _ _ z => z) fun _ _ _ _ z => exE.wk (u1 := t1 ++ (t2 ++ t3)) (fun j hj => memL hj) z
        exact pr_fin ((hs4.trans hs2).trans hs) r4 a124 (hr' B s4.H s4.F d2 v2 g2 d4 v4 g4 r4.exF r4.exB (tB.go a4).rep tC.rep) hp5
    | _ => exact hp.elim
  | nl ds => rw [ep] at hp; exact hp.elim
  | nt ds => rw [ep] at hp; exact hp.elim
  | bad => rw [ep] at hp; exact hp.elim
theorem gt_chain {op op' : CmpOp} {r r' : R2} {p q : D → D → PR} (ho : OpR X (compareOp op) r) (ho' : OpR X (compareOp op') r') (hr : P2 (tx X G) r p) (hr' : P2 (tx X G) r' q) (h1 : GE X G W t1 a f) (h2 : GE X G W t2 b g) (h3 : GE X G W t3 c h)
    (hm : lastMarks [op, op'] [b, c] = false := by with_unfolding_all rfl) : GT X G W (t1 ++ (t2 ++ t3)) (.Compare a [op, op'] [b, c] pos) (dB (dChn p q f g h)) :=
  pt_mono (pt_chain ho ho' h1 h2 h3 hm) fun _ _ _ z => chn_core hr hr' (tB_core z)
theorem g_chain {op op' : CmpOp} {r r' : R2} {p q : D → D → PR} (ho : OpR X (compareOp op) r) (ho' : OpR X (compareOp op') r') (hr : P2 (tx X G) r p) (hr' : P2 (tx X G) r' q) (h1 : GE X G W t1 a f) (h2 : GE X G W t2 b g) (h3 : GE X G W t3 c h)
    (hm : lastMarks [op, op'] [b, c] = false := by with_unfolding_all rfl) : GE X G W (t1 ++ (t2 ++ t3)) (.Compare a [op, op'] [b, c] pos) (dChn p q f g h) :=
  pe_mono (pe_chain ho ho' h1 h2 h3 hm) fun _ _ _ z => chn_core hr hr' z
/-! ## d[k], d a dict with texts as keys -/
def pDix : D → D → PR
  | .dct _ ks ds, .str k => (match look k ks ds with
    | some d => if allF noOw d = true then .sc d else .bad
    | none => .bad)
  | _, _ => .bad
theorem look_kz {T : Tx} {B H F : Hp} {k : Str} : ∀ {ks : List Str} {ds : List D} {vs : List V} {g : List Addr} {d : D}, Reps T B H F ds vs g → look k ks ds = some d → ∃ v g', valV (kz ks vs) (Sum.inr k) = some v ∧ Rep T B H F d v g'
  | [], _, _, _, _, _, h => by simp [look] at h
  | _ :: _, [], _, _, _, _, h => by simp [look] at h
  | a :: ks, x :: xs, _, _, d, .cons (v := v) (vs := vs) r rs e, h => by
    have e2 : kz (a :: ks) (v :: vs) = (Sum.inr a, v) :: kz ks vs := rfl
    rw [e2]
    unfold look at h
    by_cases q : k = a
    · subst q
      rw [if_pos (beq_self_eq_true k)] at h
      cases h
      exact ⟨v, _, valV_pos rfl, r⟩
    · rw [if_neg (by simpa using q)] at h
      obtain ⟨v', g', h1, h2⟩ := look_kz rs h
      refine ⟨v', g', ?_, h2⟩
      unfold valV at h1 ⊢
      rw [List.find?_cons_of_neg (by simp; exact fun z => q z.symm)]
      exact h1
theorem Rep.dctS {T : Tx} {B H F : Hp} (eF : Ex F H) (eB : Ex B H) {o : Fl} {ks : List Str} {ds : List D} {v : V} {g : List Addr} (r : Rep T B H F (.dct o ks ds) v g) : ∃ a vs g', v = .ref a ∧ H a = some (.dK (kz ks vs)) ∧ ks.length = vs.length ∧ Reps T B H F ds vs g' := by
  cases r with
  | dctF h l r => exact ⟨_, _, _, rfl, eF _ _ h, l, r⟩
  | dctB h l r => exact ⟨_, _, _, rfl, eB _ _ h, l, r⟩
  | dctO h l r e => exact ⟨_, _, _, rfl, h, l, r⟩
theorem p2_dix {T : Tx} : P2 T (fun x y H Q => ∃ a v, x = .ref a ∧ DGet H a y (some v) ∧ Q v H) pDix := by
  intro B H F d v g e u k eF eB r q
  cases d with
  | dct o ks ds =>
    cases e with
    | str z =>
      cases q
      unfold pDix
      dsimp only
      cases el : look z ks ds with
      | none => trivial
      | some dd =>
        dsimp only
        split
        · rename_i hn
          obtain ⟨aa, vs, g', rfl, hd, hl, rp⟩ := r.dctS eF eB
          obtain ⟨vv, g2, h1, h2⟩ := look_kz rp el
          refine ⟨vv, rep_v h2 hn, fun Q hq => ⟨aa, vv, rfl, ?_, hq⟩⟩
          rw [← h1]
          exact DGet.k (k := Sum.inr z) hd
        · trivial
    | _ => trivial
  | _ => cases e <;> trivial
theorem g_dix (hu : X.A.units + 65 < cLine) (h1 : GO X G W t1 a o1) (h2 : GO X G W t2 b o2) (hs : NoSl b := by intro _ _; rfl) : GE X G W (t1 ++ t2) (.Subscript a b pos) (dOp2 pDix o1 o2) :=
  top_of p2_dix h1 h2 fun _ _ ha hb => pe_dget (by omega) ha hb hs
/-! ## properties that hand out a field; isinstance of an own class -/
theorem p1_prop {T : Tx} {C : Addr} {c f : Str} {E : XK} (hC : T.C c = some C) : P1 T (fun x H1 Q => ∃ a dx fs, x = V.ref a ∧ H1 a = some (.ins C dx fs) ∧ getSp C f [.ref a] H1 Q E) (pFld c f) := by
  intro B H F d v g eF eB r
  cases d with
  | obj o c' ks ds =>
    unfold pFld
    dsimp only
    split
    · rename_i hcc
      subst hcc
      cases el : look f ks ds with
      | none => trivial
      | some dd =>
        dsimp only
        split
        · rename_i hn
          obtain ⟨aa, dx, C', vs, g', rfl, hc', hi, hd, hl, rp⟩ := r.objS eF eB
          rw [hC] at hc'
          cases hc'
          obtain ⟨vv, g2, h1, h2⟩ := look_at rp el
          exact ⟨vv, rep_v h2 hn, fun Q hq => ⟨aa, dx, _, rfl, hi, aa, dx, _, vv, rfl, hi, h1, hq⟩⟩
        · trivial
    · trivial
  | _ => trivial
theorem g_prop {k : Nat} {C pp gg : Addr} {fd : FuncData} {ps : List Str} {c m fl : Str} (hC : G.C c = some C) (cl : Cls X.K C) (hp : PropOf X.K C m pp gg) (F : FnOk X.prog X.w X.K X.mg X.base CX0 k gg fd ps (getSp C fl)) (hr : Room (k + 1) X.A) (hb : Binds X.K fd ps [])
    (ho : GO X G W tc e o) (hab : attributeBase e m X.env (eval e X.env) = eval e X.env := by rfl) : GE X G W tc (.Attribute e m pos) (dOp1 (pFld c fl) o) :=
  tun_of (p1_prop (E := fun _ _ _ => False) hC) ho fun _ h => pe_prop h cl hp F hr hb .nil pass0 hab
/-- the facts of an own class for isinstance -/
structure ClsI (K : PySem.W.Frag) (C : Addr) : Prop where
  cl : Cls K C
  ca : PySem.W.findIn K (.ref C) "__class__" = some (some (.builtin "object.__class__"))
  sg : PySem.W.specialIn K (.builtin "object.__class__") "__get__" = some (some (.builtin "getset_descriptor.__get__"))
  tk : PySem.W.takesIn K (.builtin "object.__class__") = some true
  mr : PySem.W.mroIn K C (.type "object") = some true
def pIsC (c : Str) : D → PR
  | .obj _ c' _ _ => if c' = c then .sc (.bl true) else .bad
  | _ => .bad
theorem p1_isC {T : Tx} {C : Addr} {c : Str} (hC : T.C c = some C) (ci : ClsI T.K C) : P1 T (fun x H Q => rIsi T.K [x, .ref C] H Q) (pIsC c) := by
  intro B H F d v g eF eB r
  cases d with
  | obj o c' ks ds =>
    unfold pIsC
    dsimp only
    split
    · rename_i hcc
      subst hcc
      obtain ⟨aa, dx, C', vs, g', rfl, hc', hi, hd, hl, rp⟩ := r.objS eF eB
      rw [hC] at hc'
      cases hc'
      refine ⟨_, .bl true, fun Q hq => ⟨_, _, _, _, true, rfl, .own C, .base (.ins hi ci.cl ci.ca ci.sg ci.tk ci.mr), ?_, hq⟩⟩
      unfold PySem.W.kitOne
      rw [if_pos (by simp)]
    · trivial
  | _ => trivial
theorem g_isC {C : Addr} {c x : Str} {p2 : Pos} (hC : G.C c = some C) (ci : ClsI X.K C) (hg : Gl X "isinstance") (hm : X.mg "isinstance" = none) (hg2 : Gl X x) (hm2 : X.mg x = some (.ref C)) (h : GO X G W tc a o) (hd : (x == ("__debug__" : Str)) = false := by decide)
    (hs : starEach [a, .Name x p2] X.env = (false, eval a X.env) :: starEach [.Name x p2] X.env := by rfl) (hs2 : starEach [.Name x p2] X.env = (false, eval (.Name x p2) X.env) :: starEach [] X.env := by rfl)
    (hpl : (backTo pos (starEach [.Name x p2] X.env)).any (·.1) = false := by rfl) : GE X G W tc (.Call (.Name "isinstance" p) [a, .Name x p2] [] pos) (dOp1 (pIsC c) o) :=
  tun_of (p1_isC hC ci) h fun _ h => pe_callB call_isi hg hm (by decide +kernel) (pa_cons h (pa_cons (pe_glob (v := .ref C) hg2 hm2 rfl hd) pa_nil hs2) hs) (by decide) (by decide) hs hpl
end
end Cs
namespace Cs
open PySem L2 Evl PyProof.Rows
/-! ## t.index(z), t a tuple of texts -/
theorem StT.is {X : Cx} {pins : List (Addr × Obj)} {σ : L2.St} {H : Hp} {s : Shared} {p : Addr} {vs : List V} (I : Inv X pins σ H s) (h : StT X.K H p vs) : s.TypeIs (.ref p) "tuple" ∧ ∀ a, Value.ref p = .ref a → ∃ ob, s.heap.get? a = some ob ∧ ob.dict = none := by
  rcases h with ⟨o, h, hd⟩ | ⟨o, its, n, h1, h2, _, _, _, hd⟩
  · obtain ⟨e, _, _, _, ⟨o', e', hc, _⟩⟩ := (show ObjOk X.prog X.w H s.heap p (.frz o (.tup vs)) from I.hok p _ h)
    rw [e] at e'
    cases e'
    exact ⟨⟨o, e, hc⟩, fun a q => by cases q; exact ⟨o, e, hd⟩⟩
  · exact ⟨⟨o, I.kIn p o h1, h2⟩, fun a q => by cases q; exact ⟨o, I.kIn p o h1, hd⟩⟩
def tTM (K : PySem.W.Frag) (r : V → List V → Hp → VK → Prop) (to : TE) (t : TA) : TE := fun σ H Q => to σ H fun x H1 => (∃ p vs, x = .ref p ∧ StT K H1 p vs) ∧ t σ H1 fun xs H2 => r x xs H2 Q
theorem pe_tm {X : Cx} {o e : Expr} {es : List Expr} {to : TE} {t : TA} {name : Str} {apos cpos : Pos} {id : String} {r : V → List V → Hp → VK → Prop} (slot : Slot "tuple" name id) (hty : typeOf (.builtin id) = pure (.type "method_descriptor")) (hm : MtR X id r) (ho : PE X o to) (ha : PA X (e :: es) t)
    (hbase : attributeBase o name X.env (eval o X.env) = eval o X.env := by rfl)
    (hfew : ((backTo cpos (starEach (e :: es) X.env)).all (fun x => !x.1) && (backToKw cpos (keywordEach [] X.env)).all (fun x => x.1.isSome) && decide ((e :: es).length + ([] : List Keyword).length + (if ([] : List Keyword).isEmpty then 0 else 1) < 30)) = true := by rfl)
    (hline : (apos.endLine == cpos.line) = true := by rfl) (hs : starEach (e :: es) X.env = (false, eval e X.env) :: starEach es X.env := by rfl) (hplain : (backTo cpos (starEach es X.env)).any (·.1) = false := by rfl) :
    PE X (.Call (.Attribute o name apos) (e :: es) [] cpos) (tTM X.K r to t) := by
  constructor
  intro pins s σ H Q I h
  refine wpAny_Call_method_late hbase hfew hline rfl (thn (ho.run pins s σ H _ I h) ?_)
  rintro v s1 ⟨x, H1, I1, r1, ⟨p, vs, rfl, st⟩, q1⟩
  cases r1
  obtain ⟨h1, h2⟩ := st.is I1
  refine ⟨"tuple", id, PySem.F.plainAttrs_tuple, slot, hty, h1, h2, ?_⟩
  have hA := ha.run cpos pins s1 σ H1 _ I1 q1
  rw [hs] at hA ⊢
  refine Calls.callWith_builtin (by show (false || (backTo cpos (starEach es X.env)).any (·.1)) = false; rw [hplain] <;> rfl) (Calls.evalArgs_plain (thn hA ?_))
  rintro us s2 ⟨vs, H2, I2, r2, q2⟩
  exact hm pins s2 σ H2 (.ref p) vs _ us Q I2 rfl r2 q2
def allStr : List D → Option (List Str)
  | [] => some []
  | .str z :: ds => (allStr ds).map (z :: ·)
  | _ => none
def ixS (z : Str) : List Str → Option Nat
  | [] => none
  | y :: ys => if y = z then some 0 else (ixS z ys).map (· + 1)
theorem ixS_some {z : Str} : ∀ {ys : List Str} {j : Nat}, ixS z ys = some j → ys[j]? = some z ∧ ∀ m, m < j → ys[m]? ≠ some z
  | [], j, h => by cases h
  | y :: ys, j, h => by
    unfold ixS at h
    split at h
    · rename_i e
      cases h
      exact ⟨by rw [e]; rfl, fun m hm => by omega⟩
    · rename_i e
      cases ej : ixS z ys with
      | none => rw [ej] at h; cases h
      | some i =>
        rw [ej] at h
        cases h
        obtain ⟨h1, h2⟩ := ixS_some ej
        refine ⟨h1, fun m hm => ?_⟩
        cases m with
        | zero => intro q; exact e (by simpa using q)
        | succ m => exact h2 m (Nat.lt_of_succ_lt_succ hm)
theorem allStr_reps {T : Tx} {B H F : Hp} : ∀ {ds : List D} {vs : List V} {g : List Addr} {ys : List Str}, Reps T B H F ds vs g → allStr ds = some ys → vs = ys.map V.str
  | _, _, _, ys, .nil, h => by
    cases (show some [] = some ys from h)
    rfl
  | d :: ds, _, _, ys, .cons r rs e, h => by
    cases d with
    | str z =>
      unfold allStr at h
      cases ea : allStr ds with
      | none => rw [ea] at h; cases h
      | some zs =>
        rw [ea] at h
        cases h
        cases r
        rw [allStr_reps rs ea]
        rfl
    | _ => cases h
def dTix (f g : M D) : M D := bnd f fun x => match x with
  | .tup xs => bnd g fun y => (match allStr xs, y with
    | some ys, .str z => (match ixS z ys with
      | some j => ret (.int (j : Int))
      | none => bad)
    | _, _ => bad)
  | _ => bad
section
variable {X : Cx} {G : Gx} {W : WX} {t1 t2 : List Nat} {o e : Expr} {apos cpos : Pos} {f g : M D}
theorem g_tix (h1 : GE X G W t1 o f) (h2 : GE X G W t2 e g) (hbase : attributeBase o "index" X.env (eval o X.env) = eval o X.env := by rfl)
    (hfew : ((backTo cpos (starEach [e] X.env)).all (fun x => !x.1) && (backToKw cpos (keywordEach [] X.env)).all (fun x => x.1.isSome) && decide ([e].length + ([] : List Keyword).length + (if ([] : List Keyword).isEmpty then 0 else 1) < 30)) = true := by rfl)
    (hline : (apos.endLine == cpos.line) = true := by rfl) (hs : starEach [e] X.env = (false, eval e X.env) :: starEach [] X.env := by rfl) (hplain : (backTo cpos (starEach [] X.env)).any (·.1) = false := by rfl) :
    GE X G W (t1 ++ t2) (.Call (.Attribute o "index" apos) [e] [] cpos) (dTix f g) :=
  pe_mono (pe_tm PySem.F.slot_tuple_index PySem.F.type_tuple_index mt_tup_index h1 (pa_cons h2 pa_nil hs) hbase hfew hline hs hplain) fun σ H Q ⟨B, s, e1, e2, rl, hp⟩ => by
    subst e1 e2
    refine seqE rl hp fun d v s1 g1 _ hs1 r1 tA a1 hp => ?_
    cases d with
    | tup xs =>
      obtain ⟨rp, nd, ap, dj⟩ := tA
      have rp0 := rp
      cases rp with
      | tup st rs =>
        rename_i a vs
        refine ⟨⟨a, vs, rfl, st.mono r1.exF⟩, ?_⟩
        have tA : Tmp (tx X G) B s1.H s1.F s1.φ (.tup xs) (.ref a) g1 := ⟨rp0, nd, ap, dj⟩
        show tD (tx X G) W t2 g s.σ s1.H _
        rw [← hs1]
        refine seqE2 a1 hs1 r1 hp fun d2 v2 s2 g2 _ hs2 r2 tB a2 hp => ?_
        cases ea : allStr xs with
        | none => rw [ea] at hp; exact hp.elim
        | some ys =>
          rw [ea] at hp
          cases d2 with
          | str z =>
            dsimp only at hp
            cases ej : ixS z ys with
            | none => rw [ej] at hp; exact hp.elim
            | some j =>
              rw [ej] at hp
              obtain ⟨h3, h4⟩ := ixS_some ej
              obtain ⟨rp2, _, _, _⟩ := tB
              cases rp2
              have ev := allStr_reps rs ea
              have hok : okE (tx X G) B (t1 ++ t2) s Q (.int (j : Int)) s2.ρ := hp
              refine ⟨a, ys, z, j, rfl, rfl, ?_, h3, h4, hok (.int j) s2 [] rfl (hs2.trans hs1) r2 (Tmp.flat (.int _)) (a1.trans a2).drop0⟩
              have z1 := (st.mono (a2.step.ext)).sq
              rw [ev] at z1
              exact ex_t r2.exF z1
          | _ => exact hp.elim
    | _ => exact hp.elim
end
end Cs
namespace Cs
open PySem L2 Evl PyProof.Rows
/-! ## xs[j].clear() -/
def clrAt2 (j : D) (xs : List D) : Option (List D) := (inner j xs).bind fun (n, _) => some (xs.set n (.lst .ow []))
def dClr2 (i : Nat) (fj : M D) : M Flw := bnd (dPk i) fun _ => bnd fj fun j => dMutL i (clrAt2 j)
section
variable {X : Cx} {G : Gx} {W : WX} {t2 : List Nat} {b : Expr} {pos pos2 apos cpos p : Pos} {w : M D} {i : Nat} {x : Str}
theorem clr2_core {T : Tx} {i : Nat} {σ : L2.St} {H : Hp} {E : Ends} (h : tDS T W (t2 ++ [i]) (dClr2 i w) E σ H) : tDrop (tBM0 T.K "list" rClear (tOp (rIx T.K) (tVar i) (tD T W t2 w))) E σ H := by
  obtain ⟨B, s, e1, e2, r, hp⟩ := h
  subst e1 e2
  obtain ⟨d0, e0, hp⟩ := pk_bnd hp
  obtain ⟨v0, ev0, _⟩ := r.sl i d0 (slot_some e0)
  refine ⟨v0, ev0, ?_⟩
  refine seqES r hp (fun _ => memL) fun j vj s2 g2 _ hs2 r2 tj a2 h2 => ?_
  have h2' : Post (okS T B [i] s2 E) (exS T W B [i] s2) (dMutL i (clrAt2 j) s2.ρ) := h2.imp (fun _ _ q => q.re a2) fun _ _ _ _ q => q.re a2
  obtain ⟨pa, vs, fp, xs, zs, q1, q2, q, rs, eg, q6, q7⟩ := mutL_open r2 h2'
  rw [hs2, ev0] at q2
  cases q2
  unfold clrAt2 at q6
  cases ei : inner j xs with
  | none => rw [ei] at q6; cases q6
  | some ny =>
    obtain ⟨n, ys⟩ := ny
    rw [ei] at q6
    cases q6
    obtain ⟨m, rfl, em, en, hy⟩ := inner_some ei
    obtain ⟨rj, _, _, _⟩ := tj
    cases rj
    have nd := r2.nd i
    rw [eg] at nd
    obtain ⟨p1, us, x1, x2, x3, x4, x5⟩ := rs.inner n (List.nodup_cons.mp nd).2 en hy
    have nw := x5 [] [] .nil
    have pne : pa ≠ p1 := fun z => (List.nodup_cons.mp nd).1 (by rw [z]; exact x4)
    have hp1 : p1 ∈ s2.φ i := by rw [eg]; exact List.mem_cons_of_mem _ x4
    have hok := mut_ok (gt := []) (p := p1) (o := .lst []) (d' := .lst .ow (xs.set n (.lst .ow []))) (g := pa :: fp) r2 q1 (by rw [hs2]; exact ev0) hp1
      (.lstO (by rw [upd_ne pne]; exact q) nw rfl) nd (fun x hx => .inl (by rw [eg]; exact hx)) (fun _ h => (by cases h)) (fun _ h => (by cases h))
    refine .inl ⟨pa, vs, m, .ref p1, rfl, rfl, sq_of q, atI_ix (by rw [← rs.len]; exact em) x1, .inl ⟨rfl, us, sq_of x2⟩, p1, us, rfl, rfl, x2, ?_⟩
    have z := q7 _ rfl hok (mut_goes (tc := []) r2 Goes.refl hp1 fun x hx => .inl (by rw [eg]; exact hx))
    show E.nx s.σ (L2.upd s2.H p1 (.lst []))
    rw [← hs2]
    exact z
theorem gs_clr2 (hv : PE X (.Name x p) (tVar i)) (hj : GE X G W t2 b w) (hpi : PlainIx b := by intro _ _; rfl)
    (hbase : attributeBase (.Subscript (.Name x p) b pos2) "clear" X.env (eval (.Subscript (.Name x p) b pos2) X.env) = eval (.Subscript (.Name x p) b pos2) X.env := by rfl) (hline : (apos.endLine == cpos.line) = true := by rfl)
    (hsw : swapsWith (.Call (.Attribute (.Subscript (.Name x p) b pos2) "clear" apos) [] [] cpos) none pos.line X.env = pure false := by rfl) : GS X G W (t2 ++ [i]) (.Expr (.Call (.Attribute (.Subscript (.Name x p) b pos2) "clear" apos) [] [] cpos) pos) (dClr2 i w) :=
  ps_mono (ps_expr (pe_bm0 PySem.F.plainAttrs_list PySem.F.slot_list_clear PySem.F.type_list_clear mt_clear (pe_ix ix_seq hv hj hpi) hbase hline) hsw) fun E σ H h => clr2_core h
end
end Cs
namespace Cs
open PySem L2 Evl PyProof.Rows
/-! ## operators of an own class -/
def OpS (X : Cx) (f : Value → Value → Sem Value) (r : L2.St → R2) : Prop :=
  ∀ (pins : List (Addr × Obj)) (s : Shared) (σ : L2.St) (H : Hp) (x y : V) (v u : Value) (Q : VK), Inv X pins σ H s → RelV x v → RelV y u → r σ x y H Q →
    wpAny (model X.prog X.w) X.A (f v u) (EP X pins σ Q) X.xe s
def tOpS (r : L2.St → R2) (ta tb : TE) : TE := fun σ H Q => ta σ H fun x H1 => tb σ H1 fun y H2 => r σ x y H2 Q
section
variable {X : Cx} {a b : Expr} {ta tb : TE} {pos : Pos} {r : L2.St → R2}
theorem pe_cmpS {op : CmpOp} (ho : OpS X (compareOp op) r) (ha : PE X a ta) (hb : PE X b tb) (hm : behindInMarks op b = false) : PE X (.Compare a [op] [b] pos) (tOpS r ta tb) := by
  constructor
  intro pins s σ H Q I h
  refine wpAny_Compare1 (thn (ha.run pins s σ H _ I h) ?_) hm
  rintro v s1 ⟨x, H1, I1, r1, q1⟩
  refine thn (hb.run pins s1 σ H1 _ I1 q1) ?_
  rintro u s2 ⟨y, H2, I2, r2, q2⟩
  exact ho pins s2 σ H2 x y v u Q I2 r1 r2 q2
theorem pe_opS {op : Operator} (ho : OpS X (binaryOp op) r) (ha : PE X a ta) (hb : PE X b tb) : PE X (.BinOp a op b pos) (tOpS r ta tb) := by
  constructor
  intro pins s σ H Q I h
  refine wpAny_BinOp (thn (ha.run pins s σ H _ I h) ?_)
  rintro v s1 ⟨x, H1, I1, r1, q1⟩
  refine thn (hb.run pins s1 σ H1 _ I1 q1) ?_
  rintro u s2 ⟨y, H2, I2, r2, q2⟩
  exact ho pins s2 σ H2 x y v u Q I2 r1 r2 q2
end
/-- the class at C has the special method m, the def at f -/
structure Spc (K : PySem.W.Frag) (C : Addr) (m : Str) (f : Addr) : Prop where
  at_ : PySem.W.findIn K (.ref C) m = some (some (.ref f))
  fn : PySem.W.typeIn K (.ref f) = some (.type "function")
theorem Spc.of {K : PySem.W.Frag} {C f : Addr} {m : Str} (h : Meth K C m f) : Spc K C m f := ⟨h.at_, beq_iff_eq.mp h.fn⟩
section
variable {X : Cx} {C f : Addr} {k : Nat} {fd : FuncData} {ps : List Str} {sp : Sp} {E : L2.St → XK}
theorem own_cont (hm : Spc X.K C "__contains__" f) (F : FnOk X.prog X.w X.K X.mg X.base (L2.CX X.prog X.w) k f fd ps sp) (hr : Room k X.A) (hb : Binds X.K fd ps []) {pins : List (Addr × Obj)} {s : Shared} {σ : L2.St} {H : Hp} {x : V} {v : Value} {q dx : Addr} {fs : List (Str × V)} {Q : Bool → Hp → Prop} (hx : PassesAt (L2.CX X.prog X.w) X σ (E σ)) (I : Inv X pins σ H s) (rx : RelV x v) (hq : H q = some (.ins C dx fs)) (hsp : sp [.ref q, x] H (fun v H3 => ∃ c, v = .bl c ∧ Q c H3) (E σ)) :
    wpAny (model X.prog X.w) X.A (contains (.ref q) v) (fun c s' => ∃ H', Inv X pins σ H' s' ∧ Q c H') X.xe s := by
  obtain ⟨mA, Om, _, _, _, _⟩ := ins_get I.hok hq
  obtain ⟨od, J, _⟩ := Om.look
  have hs : PySem.W.Looks (model X.prog X.w) s.heap (specialOf (.ref q) "__contains__") (some (.ref f)) := J.type.andThen (PySem.W.looks_findIn I.kIn hm.at_)
  have fin : wpAny (model X.prog X.w) X.A (call (.ref f) [.ref q, v]) (fun r s' => wpAny (model X.prog X.w) X.A (truthy r) (fun c s2 => ∃ H', Inv X pins σ H' s2 ∧ Q c H') X.xe s') X.xe s :=
    thn (run_fnS (us := [.ref q, v]) (vs := [.ref q, x]) F hr hb hx I (.cons rfl (.cons rx .nil)) hsp) fun r s' ⟨z, H', I', rz, c, ez, qz⟩ => by
      subst ez
      cases rz
      exact wpAny_truthy_bool ⟨H', I', qz⟩
  unfold contains
  refine wpAny_holding ?_
  show wpAny _ _ (specialOf (.ref q) "__contains__" >>= _) _ _ s
  refine wpAny_bind (hs.here ?_)
  show wpAny _ _ (callSpecialUnlessNone? (.ref q) "__contains__" [v] _ >>= _) _ _ s
  refine wpAny_bind ?_
  unfold callSpecialUnlessNone?
  refine wpAny_bind (hs.here (wpAny_holding (wpAny_bind ((PySem.W.bind_fn I.kIn _ hm.fn).here ?_))))
  show wpAny _ _ (call (.ref f) [.ref q, v] >>= fun r => pure (some r)) _ _ s
  exact wpAny_bind (thn fin fun r s' h => wpAny_pure h)
/-- y in o -/
theorem own_in (hm : Spc X.K C "__contains__" f) (F : FnOk X.prog X.w X.K X.mg X.base (L2.CX X.prog X.w) k f fd ps sp) (hr : Room k X.A) (hb : Binds X.K fd ps []) (hx : ∀ σ, PassesAt (L2.CX X.prog X.w) X σ (E σ)) :
    OpS X (compareOp .In) (fun σ x y H Q => (∃ q dx fs, y = .ref q ∧ H q = some (.ins C dx fs)) ∧ sp [y, x] H (fun v H3 => ∃ c, v = .bl c ∧ Q (.bl c) H3) (E σ)) := by
  rintro pins s σ H x y v u Q I rx ry ⟨⟨q, dx, fs, rfl, hq⟩, hsp⟩
  obtain rfl : u = Value.ref q := ry
  show wpAny _ _ (contains (.ref q) v >>= fun c => pure (Value.bool c)) _ _ s
  exact wpAny_bind (thn (own_cont (Q := fun c H' => Q (.bl c) H') hm F hr hb (hx σ) I rx hq hsp) fun c s' ⟨H', I', h⟩ => wpAny_pure ⟨.bl c, H', I', rfl, h⟩)
/-- y not in o -/
theorem own_notIn (hm : Spc X.K C "__contains__" f) (F : FnOk X.prog X.w X.K X.mg X.base (L2.CX X.prog X.w) k f fd ps sp) (hr : Room k X.A) (hb : Binds X.K fd ps []) (hx : ∀ σ, PassesAt (L2.CX X.prog X.w) X σ (E σ)) :
    OpS X (compareOp .NotIn) (fun σ x y H Q => (∃ q dx fs, y = .ref q ∧ H q = some (.ins C dx fs)) ∧ sp [y, x] H (fun v H3 => ∃ c, v = .bl c ∧ Q (.bl (!c)) H3) (E σ)) := by
  rintro pins s σ H x y v u Q I rx ry ⟨⟨q, dx, fs, rfl, hq⟩, hsp⟩
  obtain rfl : u = Value.ref q := ry
  show wpAny _ _ (contains (.ref q) v >>= fun c => pure (Value.bool (!c))) _ _ s
  exact wpAny_bind (thn (own_cont (Q := fun c H' => Q (.bl (!c)) H') hm F hr hb (hx σ) I rx hq hsp) fun c s' ⟨H', I', h⟩ => wpAny_pure ⟨.bl (!c), H', I', rfl, h⟩)
theorem cmpBack {pins : List (Addr × Obj)} {σ : L2.St} {Q : VK} {v : Value} {s : Shared} (h : EP X pins σ Q v s) : PySem.W.CmpBack (EP X pins σ Q) v s := by
  have h' := h
  obtain ⟨z, H', I, r, q⟩ := h'
  cases z with
  | non => cases (show v = _ from r); exact h
  | bl b => cases (show v = _ from r); exact h
  | int i => obtain ⟨t, r⟩ := (show ∃ t, v = _ from r); cases r; exact h
  | str i => obtain ⟨t, r⟩ := (show ∃ t, v = _ from r); cases r; exact h
  | byt i => obtain ⟨t, r⟩ := (show ∃ t, v = _ from r); cases r; exact h
  | flt i => obtain ⟨t, r⟩ := (show ∃ t, v = _ from r); cases r; exact h
  | ref a => cases (show v = _ from r); exact h
  | ty a => cases (show v = _ from r); exact h
def rOwn2 (C : Addr) (sp : Sp) (E : L2.St → XK) : L2.St → R2 := fun σ x y H Q => (∃ q dx fs, x = .ref q ∧ H q = some (.ins C dx fs)) ∧ (∃ q dx fs, y = .ref q ∧ H q = some (.ins C dx fs)) ∧ sp [x, y] H Q (E σ)
/-- o & o', o | o' -/
theorem own_bin {op : Operator} (hm : Spc X.K C (PySem.dunder op.info.2) f) (hc : PySem.W.selfFirst X.K C = true) (F : FnOk X.prog X.w X.K X.mg X.base (L2.CX X.prog X.w) k f fd ps sp) (hr : Room k X.A) (hb : Binds X.K fd ps []) (hx : ∀ σ, PassesAt (L2.CX X.prog X.w) X σ (E σ)) :
    OpS X (binaryOp op) (rOwn2 C sp E) := by
  rintro pins s σ H x y v u Q I rx ry ⟨⟨q, dx, fs, rfl, hq⟩, ⟨q', dx', fs', rfl, hq'⟩, hsp⟩
  obtain rfl : v = Value.ref q := rx
  obtain rfl : u = Value.ref q' := ry
  obtain ⟨mA, Om, _, _, _, _⟩ := ins_get I.hok hq
  obtain ⟨od, J, _⟩ := Om.look
  obtain ⟨mA', Om', _, _, _, _⟩ := ins_get I.hok hq'
  obtain ⟨od', J', _⟩ := Om'.look
  obtain ⟨m, Fr⟩ := I.fr
  exact PySem.W.binop_K Fr I.ok.mod.kin J J'.type hc hm.at_ (beq_iff_eq.mpr hm.fn) (thn (run_fnS (us := [.ref q, .ref q']) (vs := [.ref q, .ref q']) F hr hb (hx σ) I (.cons rfl (.cons rfl .nil)) hsp) fun r s' h => cmpBack h)
/-- o == o' -/
theorem own_eq (hm : Spc X.K C "__eq__" f) (F : FnOk X.prog X.w X.K X.mg X.base (L2.CX X.prog X.w) k f fd ps sp) (hr : Room k X.A) (hb : Binds X.K fd ps []) (hx : ∀ σ, PassesAt (L2.CX X.prog X.w) X σ (E σ)) :
    OpS X (compareOp .Eq) (rOwn2 C sp E) := by
  rintro pins s σ H x y v u Q I rx ry ⟨⟨q, dx, fs, rfl, hq⟩, ⟨q', dx', fs', rfl, hq'⟩, hsp⟩
  obtain rfl : v = Value.ref q := rx
  obtain rfl : u = Value.ref q' := ry
  obtain ⟨mA, Om, _, _, _, _⟩ := ins_get I.hok hq
  obtain ⟨od, J, _⟩ := Om.look
  obtain ⟨mA', Om', _, _, _, _⟩ := ins_get I.hok hq'
  obtain ⟨od', J', _⟩ := Om'.look
  obtain ⟨m, Fr⟩ := I.fr
  show wpAny _ _ (richCompare .Eq (.ref q) (.ref q')) _ _ s
  exact PySem.W.cmp_K hr.units0 Fr I.ok.mod.kin J J'.type (by unfold PySem.W.notFirst; simp) hm.at_ (beq_iff_eq.mpr hm.fn) (thn (run_fnS (us := [.ref q, .ref q']) (vs := [.ref q, .ref q']) F hr hb (hx σ) I (.cons rfl (.cons rfl .nil)) hsp) fun r s' h => cmpBack h)
/-- len(o) -/
theorem own_len (hm : Spc X.K C "__len__" f) (F : FnOk X.prog X.w X.K X.mg X.base (L2.CX X.prog X.w) k f fd ps sp) (hr : Room (k + 1) X.A) (hb : Binds X.K fd ps []) {pins : List (Addr × Obj)} {σ : L2.St} {H : Hp} {s : Shared} {q dx : Addr} {fs : List (Str × V)} {Q : VK} (hx : PassesAt (L2.CX X.prog X.w) X σ (E σ))
    (I : Inv X pins σ H s) (hq : H q = some (.ins C dx fs)) (hsp : sp [.ref q] H (fun v H' => ∃ n, v = .int n ∧ (0 ≤ n ∧ n < 2 ^ 63) ∧ Q (.int n) H') (E σ)) :
    wpAny (model X.prog X.w) X.A (call (.builtin "len") [.ref q]) (EP X pins σ Q) X.xe s := by
  obtain ⟨mA, Om, _, _, _, _⟩ := ins_get I.hok hq
  obtain ⟨od, J, _⟩ := Om.look
  obtain ⟨m, Fr⟩ := I.fr
  refine PySem.W.len_K Fr I.ok.mod.kin J hm.at_ (beq_iff_eq.mpr hm.fn) ?_
  have hl : [Value.ref q].length = ps.length := by have := F.len _ _ _ _ hsp; rw [← this]; rfl
  have b := hb s [.ref q] I.kIn (by rw [List.append_nil]; exact hl)
  rw [List.append_nil] at b
  refine wpAny_call (codeAny_mono (F.run X.A.in1 X.stack s H ⟨[.ref q], []⟩ [.ref q] [.ref q] _ (E σ) hr.in1 I.env0.in1 b (.cons rfl .nil) hsp) fun r s' hq => ?_)
  cases r with
  | error e => exact hx pins H s e s' I hq
  | ok fl =>
    cases fl with
    | ret u =>
      obtain ⟨z, H', I', rz, n, rfl, hn, qz⟩ := I.after hq
      obtain ⟨t, rfl⟩ := (show ∃ t, u = _ from rz)
      exact ⟨hn, .int n, H', I'.tok _, ⟨_, rfl⟩, qz⟩
    | next => exact False.elim hq
    | brk => exact False.elim hq
    | cont => exact False.elim hq
theorem in1_fn {pins : List (Addr × Obj)} {σ : L2.St} {H : Hp} {s : Shared} {Q : VK} {us : List Value} {vs : List V} (F : FnOk X.prog X.w X.K X.mg X.base (L2.CX X.prog X.w) k f fd ps sp) (hr : Room (k + 1) X.A) (hb : Binds X.K fd ps []) (hx : PassesAt (L2.CX X.prog X.w) X σ (E σ))
    (I : Inv X pins σ H s) (r : Vals vs us) (h : sp vs H Q (E σ)) : wpAny (model X.prog X.w) X.A.in1 (call (.ref f) us) (EP X pins σ Q) X.xe s := by
  have hl : us.length = ps.length := by rw [← r.length]; exact F.len _ _ _ _ h
  have b := hb s us I.kIn (by rw [List.append_nil]; exact hl)
  rw [List.append_nil] at b
  refine wpAny_call (codeAny_mono (F.run X.A.in1 X.stack s H ⟨us, []⟩ us vs Q (E σ) hr.in1 I.env0.in1 b r h) fun r s' hq => ?_)
  cases r with
  | error e => exact hx pins H s e s' I hq
  | ok fl =>
    cases fl with
    | ret u => exact I.after hq
    | next => exact False.elim hq
    | brk => exact False.elim hq
    | cont => exact False.elim hq
/-- o != o', the class has an own __eq__ and object's __ne__ -/
theorem own_ne (hm : Spc X.K C "__eq__" f) (hn : PySem.W.findIn X.K (.ref C) "__ne__" = some (some (.builtin "object.__ne__"))) (ho : PySem.W.subIn X.K (.ref C) (.type "object") = some true)
    (F : FnOk X.prog X.w X.K X.mg X.base (L2.CX X.prog X.w) k f fd ps sp) (hr : Room (k + 1) X.A) (hb : Binds X.K fd ps []) (hx : ∀ σ, PassesAt (L2.CX X.prog X.w) X σ (E σ)) :
    OpS X (compareOp .NotEq) (fun σ x y H Q => rOwn2 C sp E σ x y H fun v H' => ∃ b, v = .bl b ∧ Q (.bl (!b)) H') := by
  rintro pins s σ H x y v u Q I rx ry ⟨⟨q, dx, fs, rfl, hq⟩, ⟨q', dx', fs', rfl, hq'⟩, hsp⟩
  obtain rfl : v = Value.ref q := rx
  obtain rfl : u = Value.ref q' := ry
  obtain ⟨mA, Om, _, _, _, _⟩ := ins_get I.hok hq
  obtain ⟨od, J, _⟩ := Om.look
  obtain ⟨mA', Om', _, _, _, _⟩ := ins_get I.hok hq'
  obtain ⟨od', J', _⟩ := Om'.look
  have un := hr.units0
  have un1 : X.A.in1.units < cLine := hr.in1.units0
  have fin := in1_fn (us := [.ref q, .ref q']) (vs := [.ref q, .ref q']) F hr hb (hx σ) I (.cons rfl (.cons rfl .nil)) hsp
  -- object.__ne__
  have ent : wpAny (model X.prog X.w) X.A.in1 (Builtin.«object.__ne__» ⟨[.ref q, .ref q'], []⟩) (fun r s' => ∃ b, r = .done (.ret (.bool b)) ∧ EP X pins σ Q (.bool b) s') X.xe s := by
    unfold Builtin.«object.__ne__»
    refine wpAny_bind (m := slotArgs "__ne__" 1 _) (wpAny_pure ?_)
    refine wpAny_bind (wpAny_cRoomFor un1 ?_)
    refine wpAny_bind (m := callSpecialIfBound? (.ref q) (Str.ofString "__eq__") [.ref q']) (PySem.W.ifBound_K I.kIn J hm.at_ (beq_iff_eq.mpr hm.fn) (thn fin fun r s' h => ?_))
    obtain ⟨z, H', I', rz, b, rfl, qz⟩ := h
    obtain rfl : r = Value.bool b := rz
    refine wpAny_bind (m := truthy (.bool b)) (wpAny_truthy_bool ?_)
    exact wpAny_pure ⟨_, rfl, .bl (!b), H', I', rfl, qz⟩
  have chk : ∀ {A : Around} (Q : Unit → Shared → Prop), Q () s → wpAny (model X.prog X.w) A (checkBuiltinCall "object.__ne__" ⟨[.ref q, .ref q'], []⟩) Q X.xe s := by
    intro A Q hq
    simp only [checkBuiltinCall, PySem.F.cmpKind_ne, PySem.F.cmpSplit_ne]
    refine wpAny_bind ?_
    unfold isInstance
    refine wpAny_bind (m := typeOf (.ref q)) (J.type.here ((PySem.W.looks_subIn I.kIn ho).here ?_))
    have ha := PySem.F.cmpArgs_ne (.ref q) (.ref q')
    cases hsig : Manifest.signature? "object.__ne__" with
    | none => exact wpAny_pure hq
    | some sig =>
      simp only [argsOk, hsig] at ha
      have h2 : Bind.checkArgs "object.__ne__" sig ⟨[.ref q, .ref q'], []⟩ = pure () := ha
      show wpAny _ _ (Bind.checkArgs "object.__ne__" sig ⟨[.ref q, .ref q'], []⟩) Q _ _
      rw [h2]; exact wpAny_pure hq
  have one : wpAny (model X.prog X.w) X.A (tryCompare (.ref q) "__ne__" (.ref q')) (fun r s' => ∃ v, r = some v ∧ EP X pins σ Q v s') X.xe s := by
    unfold tryCompare
    refine wpAny_bind ?_
    simp only [callSpecialIfBound?, bindSpecialIfBound?]
    refine wpAny_holding (wpAny_bind (wpAny_bind (wpAny_bind (J.type.here ((PySem.W.looks_findIn I.kIn hn).here ?_)))))
    simp only [PySem.F.cmp_object.ne.bind]
    refine wpAny_bind (wpAny_askSetting (wpAny_ite ?_))
    have fin2 : wpAny (model X.prog X.w) X.A (call (.builtin "object.__ne__") [.ref q, .ref q'] >>= fun v => pure (some v)) (fun r s' => ∃ b, r = some (.bool b) ∧ EP X pins σ Q (.bool b) s') X.xe s := by
      refine wpAny_bind (wpAny_call (codeAny_call_builtin PySem.F.cmp_object.ne.plain PySem.F.cmpEntry_ne ?_))
      refine chk _ (thn ent fun r s' h => ?_)
      obtain ⟨b, rfl, h⟩ := h
      exact wpAny_pure ⟨b, rfl, h⟩
    split
    · refine wpAny_bind (wpAny_pure (wpAny_pure ?_))
      exact thn fin2 fun r s' ⟨b, e, h⟩ => by subst e; exact wpAny_pure ⟨_, rfl, h⟩
    · refine wpAny_tryCatch (wpAny_bind (wpAny_pure (wpAny_pure ?_)))
      exact thn fin2 fun r s' ⟨b, e, h⟩ => by subst e; exact wpAny_pure ⟨_, rfl, h⟩
  show wpAny _ _ (richCompare .NotEq (.ref q) (.ref q')) _ _ s
  unfold richCompare
  simp only [oneThing_ref]
  refine wpAny_holding (wpAny_bind (wpAny_cRoomFor un ?_))
  refine wpAny_bind (J.type.here (wpAny_bind (J'.type.here ?_)))
  rw [show (Value.ref C != Value.ref C) = false from by simp]
  simp only [Bool.false_eq_true, if_false]
  refine wpAny_bind (wpAny_pure ?_)
  simp only [Bool.false_eq_true, if_false]
  refine wpAny_bind (thn one fun r s' z => ?_)
  obtain ⟨v, rfl, hq⟩ := z
  exact wpAny_pure hq
end
end Cs
namespace Cs
open PySem L2 Evl PyProof.Rows
/-! ## operators of an own class: their meanings -/
def isIns (c : Str) : D → Bool
  | .obj _ c' _ _ => c' == c
  | _ => false
def okC : List (Option Str) → List D → Bool
  | [], _ => true
  | none :: r, _ :: ds => okC r ds
  | some c :: r, d :: ds => isIns c d && okC r ds
  | _ :: _, [] => false
/-- the items, the first two the other way round if asked -/
def sw2 {α : Type} : Bool → List α → List α
  | true, [a, b] => [b, a]
  | _, l => l
def dOwn (cks : List (Option Str)) (sw : Bool) (mn : List D → Res) (ars : List Arg) : M D := bnd (dArs ars) fun ods ρ => match argD ρ ars ods with
  | none => .bad
  | some ds => if okC cks ds = true then callD mn (sw2 sw ars) (sw2 sw ods) ρ else .bad
def InsV (T : Tx) (cks : List (Option Str)) (vs : List V) (H : Hp) : Prop := ∀ (k : Nat) c, cks[k]? = some (some c) → ∃ q C dx fs, vs[k]? = some (.ref q) ∧ T.C c = some C ∧ H q = some (.ins C dx fs)
section
variable {T : Tx} {B : Hp} {W : WX}
theorem okC_at : ∀ {cks : List (Option Str)} {ds : List D}, okC cks ds = true → ∀ (k : Nat) c, cks[k]? = some (some c) → ∃ d, ds[k]? = some d ∧ isIns c d = true
  | [], _, _, k, c, h => by simp at h
  | o :: r, [], h, k, c, e => by cases o <;> cases h
  | none :: r, d :: ds, h, k, c, e => by
    cases k with
    | zero => simp at e
    | succ k => exact okC_at (cks := r) (ds := ds) h k c (by simpa using e)
  | some c' :: r, d :: ds, h, k, c, e => by
    have h := Bool.and_eq_true_iff.mp h
    cases k with
    | zero =>
      have z : c' = c := by simpa using e
      subst z
      exact ⟨d, rfl, h.1⟩
    | succ k => exact okC_at (cks := r) (ds := ds) h.2 k c (by simpa using e)
theorem isIns_at {H F : Hp} {c : Str} {d : D} {v : V} {g : List Addr} (eF : Ex F H) (eB : Ex B H) (r : Rep T B H F d v g) (h : isIns c d = true) : ∃ q C dx fs, v = .ref q ∧ T.C c = some C ∧ H q = some (.ins C dx fs) := by
  cases d with
  | obj o c' ks ds =>
    have ec : c' = c := by simpa [isIns] using h
    subst ec
    obtain ⟨a, dx, C, vs, g', rfl, h1, h2, h3, h4, rs⟩ := r.objS eF eB
    exact ⟨a, C, dx, _, rfl, h1, h2⟩
  | _ => cases h
theorem Its.cut {s : S5} {a : Arg} {r : List Arg} {ods : List (Option D)} {vs : List V} {g : List Addr} (h : Its T B s (a :: r) ods vs g) : ∃ x ods' u vs' g1 g2, ods = x :: ods' ∧ vs = u :: vs' ∧ g = g1 ++ g2 ∧ Its T B s r ods' vs' g2 ∧
    ∀ {r' : List Arg} {ods2 : List (Option D)} {vs2 : List V} {g' : List Addr}, Its T B s r' ods2 vs2 g' → Its T B s (a :: r') (x :: ods2) (u :: vs2) (g1 ++ g') := by
  cases h with
  | v h t => exact ⟨_, _, _, _, _, _, rfl, rfl, rfl, t, fun q => .v h q⟩
  | l h t => exact ⟨_, _, _, _, [], _, rfl, rfl, rfl, t, fun q => .l h q⟩
  | io h t => exact ⟨_, _, _, _, [], _, rfl, rfl, rfl, t, fun q => .io h q⟩
theorem ItsT.sw {s : S5} {ars : List Arg} {ods : List (Option D)} {vs : List V} {g : List Addr} (h : ItsT T B s ars ods vs g) (sw : Bool) (hl : sw = true → ars.length = 2) : ∃ g', ItsT T B s (sw2 sw ars) (sw2 sw ods) (sw2 sw vs) g' ∧ ∀ x, x ∈ g' → x ∈ g := by
  cases sw with
  | false =>
    have e : ∀ {α : Type} (l : List α), sw2 false l = l := fun l => by unfold sw2; split <;> first | rfl | contradiction
    rw [e, e, e]
    exact ⟨g, h, fun _ q => q⟩
  | true =>
    have hl := hl rfl
    match ars, hl with
    | [a, b], _ =>
      obtain ⟨it, nd, ap, dj⟩ := h
      obtain ⟨x, ods', u, vs', g1, g2, rfl, rfl, rfl, it2, k1⟩ := it.cut
      obtain ⟨y, ods2, w, vs2, g3, g4, rfl, rfl, rfl, it3, k2⟩ := it2.cut
      cases it3
      refine ⟨g3 ++ (g1 ++ []), ⟨k2 (k1 .nil), ?_, fun z q => ap z ?_, fun z q => dj z ?_⟩, fun z q => ?_⟩
      · have nd := nd
        simp only [List.append_nil] at nd ⊢
        exact (List.perm_append_comm (l₁ := g1) (l₂ := g3)).nodup_iff.mp nd
      all_goals
        simp only [List.append_nil, List.mem_append] at q ⊢
        exact q.symm
theorem mem_sw {α : Type} (sw : Bool) (l : List α) (x : α) : x ∈ sw2 sw l ↔ x ∈ l := by
  unfold sw2
  split
  · simp only [List.mem_cons, List.not_mem_nil, or_false]; exact or_comm
  · exact Iff.rfl
theorem tcs_sw (sw : Bool) (ars : List Arg) (j : Nat) : j ∈ tcs (sw2 sw ars) ↔ j ∈ tcs ars := by
  unfold sw2
  split
  · rename_i a b
    obtain ⟨a, ta⟩ := a
    obtain ⟨b, tb⟩ := b
    cases a <;> cases b <;> simp only [tcs, List.append_nil, List.mem_append, List.nil_append] <;> first | exact or_comm | exact Iff.rfl
  · exact Iff.rfl
theorem ios_sw (sw : Bool) (ars : List Arg) (j : Nat) : j ∈ ios (sw2 sw ars) ↔ j ∈ ios ars := by
  unfold sw2
  split
  · rename_i a b
    obtain ⟨a, ta⟩ := a
    obtain ⟨b, tb⟩ := b
    cases a <;> cases b <;> simp only [ios, List.mem_cons, List.not_mem_nil, or_false] <;> first | exact or_comm | exact Iff.rfl
  · exact Iff.rfl
theorem lns_sw (sw : Bool) (ars : List Arg) (j : Nat) : j ∈ lns (sw2 sw ars) ↔ j ∈ lns ars := by
  unfold sw2
  split
  · rename_i a b
    obtain ⟨a, ta⟩ := a
    obtain ⟨b, tb⟩ := b
    cases a <;> cases b <;> simp only [lns, List.mem_cons, List.not_mem_nil, or_false] <;> first | exact or_comm | exact Iff.rfl
  · exact Iff.rfl
theorem ios_swN (sw : Bool) (ars : List Arg) (h : (ios ars).Nodup) : (ios (sw2 sw ars)).Nodup := by
  unfold sw2
  split
  · rename_i a b
    obtain ⟨a, ta⟩ := a
    obtain ⟨b, tb⟩ := b
    cases a <;> cases b <;> first | exact h | (simp only [ios, List.nodup_cons, List.mem_cons, List.not_mem_nil, or_false, not_false_eq_true, List.nodup_nil, and_true] at h ⊢; exact fun z => h z.symm)
  · exact h
theorem own_core {cks : List (Option Str)} {sw : Bool} {m : List D → Res} {ars : List Arg} {σ : L2.St} {H : Hp} {Q : VK} (hn : (ios ars).Nodup) (hl : ∀ i ∈ lns ars, i ∉ ios ars) (h2 : sw = true → ars.length = 2) (h : tD T W (tcs ars ++ ios ars) (dOwn cks sw m ars) σ H Q) :
    tRs T W ars σ H fun vs H1 => InsV T cks vs H1 ∧ spM T m (sw2 sw vs) H1 Q (WE W σ) := by
  obtain ⟨B, s, e1, e2, r, hp⟩ := h
  subst e1 e2
  refine args_core (s0 := s) (u := []) (g0 := []) Goes.refl rfl (fun _ h => by cases h) (fun j q => memL q) r hp fun ods vs s1 g r1 e3 it a h => ?_
  have h : Post (okE T B (tcs ars ++ ios ars) s Q) (exE T W B (tcs ars ++ ios ars) s) (match argD s1.ρ ars ods with
    | none => .bad
    | some ds => if okC cks ds = true then callD m (sw2 sw ars) (sw2 sw ods) s1.ρ else .bad) := h
  cases ed : argD s1.ρ ars ods with
  | none => rw [ed] at h; exact h.elim
  | some ds =>
    rw [ed] at h
    dsimp only at h
    split at h
    · rename_i hc
      have hL1 : ∀ x ∈ (lns ars).flatMap s1.φ, B x = none := fun x hx => by
        obtain ⟨i, _, hi⟩ := List.mem_flatMap.mp hx
        exact (r1.ap i x hi).2
      obtain ⟨φ0, p1, _⟩ := entry r1 hL1 it.its it.nd it.dj hn (fun i hi x hx => List.mem_flatMap.mpr ⟨i, hi, hx⟩) ed
      refine ⟨fun k c e => ?_, ?_⟩
      · obtain ⟨d, ed, hi⟩ := okC_at hc k c e
        obtain ⟨v, ev, rp⟩ := p1 k d ed
        obtain ⟨q, C, dx, fs, rfl, x1, x2⟩ := isIns_at r1.exF (ovl_sub r1.exB) rp hi
        exact ⟨q, C, dx, fs, ev, x1, x2⟩
      · obtain ⟨g', it', hg⟩ := it.sw sw h2
        have hU : ∀ j, j ∈ tcs (sw2 sw ars) ++ ios (sw2 sw ars) → j ∈ tcs ars ++ ios ars := fun j q => by
          rcases List.mem_append.mp q with q | q
          · exact memL ((tcs_sw sw ars j).mp q)
          · exact memR ((ios_sw sw ars j).mp q)
        refine call_fin (s := s) (ios_swN sw ars hn) (fun i hi z => hl i ((lns_sw sw ars i).mp hi) ((ios_sw sw ars i).mp z)) r1 e3 it' ((a.less hg).wk fun j q => (tcs_sw sw ars j).mpr q) ?_
        exact h.imp (fun d ρ k v s' g q1 q2 q3 q4 q5 => k v s' g q1 q2 q3 q4 (q5.wk hU)) fun c ks xs ρ k cls dd s' q1 q2 q3 q4 q5 => k cls dd s' q1 q2 q3 q4 (q5.wk hU)
    · exact h.elim
/-! the answer looked at -/
def onlyIf (P : D → Bool) (mn : List D → Res) : List D → Res := fun ds => match mn ds with
  | .ok d os => if P d = true then .ok d os else .bad
  | r => r
def negR (mn : List D → Res) : List D → Res := fun ds => match mn ds with
  | .ok (.bl b) os => .ok (.bl (!b)) os
  | .ok _ _ => .bad
  | r => r
def isBl : D → Bool
  | .bl _ => true
  | _ => false
def isLn : D → Bool
  | .int n => decide (0 ≤ n) && decide (n < 9223372036854775808)
  | _ => false
theorem sp_only {P : D → Bool} {mn : List D → Res} {vs : List V} {H : Hp} {Q : VK} {E : XK} (h : spM T (onlyIf P mn) vs H Q E) : spM T mn vs H (fun v H' => (∃ B' F' d g, P d = true ∧ Rep T B' H' F' d v g) ∧ Q v H') E := by
  obtain ⟨B, s, ds, e1, e2, e3, r, h⟩ := h
  refine ⟨B, s, ds, e1, e2, e3, r, ?_⟩
  unfold onlyIf at h
  cases em : mn ds with
  | ok d os =>
    rw [em] at h
    dsimp only at h
    by_cases hp : P d = true
    · rw [if_pos hp] at h
      intro v s' g x1 x2 x3 x4 x5 x6 x7
      exact ⟨⟨B, s'.F, d, g, hp, x4.rep⟩, h v s' g x1 x2 x3 x4 x5 x6 x7⟩
    · rw [if_neg hp] at h
      exact h.elim
  | exc c ks xs os => rw [em] at h; exact h
  | bad => rw [em] at h; exact h
theorem sp_bl {mn : List D → Res} {vs : List V} {H : Hp} {Q : VK} {E : XK} (h : spM T (onlyIf isBl mn) vs H Q E) : spM T mn vs H (fun v H' => ∃ c, v = .bl c ∧ Q (.bl c) H') E := by
  obtain ⟨B, s, ds, e1, e2, e3, r, h⟩ := sp_only h
  refine ⟨B, s, ds, e1, e2, e3, r, ?_⟩
  cases em : mn ds with
  | ok d os =>
    rw [em] at h
    intro v s' g x1 x2 x3 x4 x5 x6 x7
    obtain ⟨⟨B', F', d', g', hp, rp⟩, q⟩ := h v s' g x1 x2 x3 x4 x5 x6 x7
    cases d' with
    | bl c => cases rp; exact ⟨c, rfl, q⟩
    | _ => cases hp
  | exc c ks xs os => rw [em] at h; exact h
  | bad => rw [em] at h; exact h
theorem sp_ln {mn : List D → Res} {vs : List V} {H : Hp} {Q : VK} {E : XK} (h : spM T (onlyIf isLn mn) vs H Q E) : spM T mn vs H (fun v H' => ∃ n, v = .int n ∧ (0 ≤ n ∧ n < 2 ^ 63) ∧ Q (.int n) H') E := by
  obtain ⟨B, s, ds, e1, e2, e3, r, h⟩ := sp_only h
  refine ⟨B, s, ds, e1, e2, e3, r, ?_⟩
  cases em : mn ds with
  | ok d os =>
    rw [em] at h
    intro v s' g x1 x2 x3 x4 x5 x6 x7
    obtain ⟨⟨B', F', d', g', hp, rp⟩, q⟩ := h v s' g x1 x2 x3 x4 x5 x6 x7
    cases d' with
    | int n =>
      cases rp
      have hp := Bool.and_eq_true_iff.mp hp
      exact ⟨n, rfl, ⟨of_decide_eq_true hp.1, of_decide_eq_true hp.2⟩, q⟩
    | _ => cases hp
  | exc c ks xs os => rw [em] at h; exact h
  | bad => rw [em] at h; exact h
theorem sp_neg {mn : List D → Res} {vs : List V} {H : Hp} {Q : VK} {E : XK} (h : spM T (negR mn) vs H Q E) : spM T mn vs H (fun v H' => ∃ b, v = .bl b ∧ Q (.bl (!b)) H') E := by
  obtain ⟨B, s, ds, e1, e2, e3, r, h⟩ := h
  refine ⟨B, s, ds, e1, e2, e3, r, ?_⟩
  unfold negR at h
  cases em : mn ds with
  | ok d os =>
    rw [em] at h
    cases d with
    | bl b =>
      intro v s' g x1 x2 x3 x4 x5 x6 x7
      have rp := x4.rep
      cases rp
      exact ⟨b, rfl, h (.bl (!b)) s' [] x1 x2 x3 ⟨.bl _, x4.nd, x4.ap, x4.dj⟩ rfl x6 x7⟩
    | _ => exact h.elim
  | exc c ks xs os => rw [em] at h; exact h
  | bad => rw [em] at h; exact h
end
theorem rdA_mono {T : Tx} {W : WX} {r : Arg} {σ : L2.St} {H : Hp} {Q Q' : VK} (h : rdA T W r σ H Q) (q : ∀ v H', Q v H' → Q' v H') : rdA T W r σ H Q' := by
  obtain ⟨k, tc⟩ := r
  cases k with
  | v f =>
    obtain ⟨B, s, e1, e2, r, hp⟩ := h
    exact ⟨B, s, e1, e2, r, hp.imp (fun d ρ k v s' g q1 q2 q3 q4 q5 => q _ _ (k v s' g q1 q2 q3 q4 q5)) fun _ _ _ _ h => h⟩
  | l i => obtain ⟨v, e, h⟩ := h; exact ⟨v, e, q _ _ h⟩
  | io i => obtain ⟨v, e, h⟩ := h; exact ⟨v, e, q _ _ h⟩
section
variable {X : Cx} {G : Gx} {W : WX} {a b : Expr} {r1 r2 : Arg} {pos p : Pos} {c : Str} {C f : Addr} {k : Nat} {fd : FuncData} {ps : List Str} {mn : List D → Res}
theorem insV0 {T : Tx} {o : Option Str} {x : V} {r : List V} {l : List (Option Str)} {H : Hp} {c : Str} {C : Addr} (hC : T.C c = some C) (h : InsV T (some c :: l) (x :: r) H) : ∃ q dx fs, x = .ref q ∧ H q = some (.ins C dx fs) := by
  obtain ⟨q, C', dx, fs, e, e1, e2⟩ := h 0 c rfl
  rw [hC] at e1
  cases e1
  exact ⟨q, dx, fs, by simpa using e, e2⟩
theorem insV1 {T : Tx} {o : Option Str} {x y : V} {r : List V} {l : List (Option Str)} {H : Hp} {c : Str} {C : Addr} (hC : T.C c = some C) (h : InsV T (o :: some c :: l) (x :: y :: r) H) : ∃ q dx fs, y = .ref q ∧ H q = some (.ins C dx fs) := by
  obtain ⟨q, C', dx, fs, e, e1, e2⟩ := h 1 c rfl
  rw [hC] at e1
  cases e1
  exact ⟨q, dx, fs, by simpa using e, e2⟩
/-- y in o -/
theorem g_oIn (tk : Takes X W) (hC : G.C c = some C) (hm : Meth X.K C "__contains__" f) (F : FnOk X.prog X.w X.K X.mg X.base (L2.CX X.prog X.w) k f fd ps (spM (tx X G) mn)) (hr : Room k X.A) (hb : Binds X.K fd ps []) (h1 : GR1 X G W a r1) (h2 : GR1 X G W b r2)
    (hn : (ios [r1, r2]).Nodup := by decide) (hl : ∀ i ∈ lns [r1, r2], i ∉ ios [r1, r2] := by decide) (hk : behindInMarks .In b = false := by rfl) : GE X G W (tcs [r1, r2] ++ ios [r1, r2]) (.Compare a [.In] [b] pos) (dOwn [none, some c] true (onlyIf isBl mn) [r1, r2]) :=
  pe_mono (pe_cmpS (own_in (.of hm) F hr hb (fun σ => passAt tk σ)) h1 h2 hk) fun σ H Q h => by
    have z := own_core (T := tx X G) hn hl (fun _ => rfl) h
    exact rdA_mono z fun x H1 z => rdA_mono z fun y H2 z => ⟨insV1 (T := tx X G) hC z.1, sp_bl z.2⟩
theorem g_oNotIn (tk : Takes X W) (hC : G.C c = some C) (hm : Meth X.K C "__contains__" f) (F : FnOk X.prog X.w X.K X.mg X.base (L2.CX X.prog X.w) k f fd ps (spM (tx X G) mn)) (hr : Room k X.A) (hb : Binds X.K fd ps []) (h1 : GR1 X G W a r1) (h2 : GR1 X G W b r2)
    (hn : (ios [r1, r2]).Nodup := by decide) (hl : ∀ i ∈ lns [r1, r2], i ∉ ios [r1, r2] := by decide) (hk : behindInMarks .NotIn b = false := by rfl) : GE X G W (tcs [r1, r2] ++ ios [r1, r2]) (.Compare a [.NotIn] [b] pos) (dOwn [none, some c] true (negR mn) [r1, r2]) :=
  pe_mono (pe_cmpS (own_notIn (.of hm) F hr hb (fun σ => passAt tk σ)) h1 h2 hk) fun σ H Q h => by
    have z := own_core (T := tx X G) hn hl (fun _ => rfl) h
    exact rdA_mono z fun x H1 z => rdA_mono z fun y H2 z => ⟨insV1 (T := tx X G) hC z.1, sp_neg z.2⟩
/-- o == o', o != o' -/
theorem g_oEq (tk : Takes X W) (hC : G.C c = some C) (hm : Meth X.K C "__eq__" f) (F : FnOk X.prog X.w X.K X.mg X.base (L2.CX X.prog X.w) k f fd ps (spM (tx X G) mn)) (hr : Room k X.A) (hb : Binds X.K fd ps []) (h1 : GR1 X G W a r1) (h2 : GR1 X G W b r2)
    (hn : (ios [r1, r2]).Nodup := by decide) (hl : ∀ i ∈ lns [r1, r2], i ∉ ios [r1, r2] := by decide) : GE X G W (tcs [r1, r2] ++ ios [r1, r2]) (.Compare a [.Eq] [b] pos) (dOwn [some c, some c] false mn [r1, r2]) :=
  pe_mono (pe_cmpS (own_eq (.of hm) F hr hb (fun σ => passAt tk σ)) h1 h2 (nomark _)) fun σ H Q h => by
    have z := own_core (T := tx X G) (sw := false) hn hl (fun q => nomatch q) h
    exact rdA_mono z fun x H1 z => rdA_mono z fun y H2 z => ⟨insV0 (T := tx X G) (o := none) hC z.1, insV1 (T := tx X G) hC z.1, z.2⟩
structure ClsNe (K : PySem.W.Frag) (C : Addr) : Prop where
  ne : PySem.W.findIn K (.ref C) "__ne__" = some (some (.builtin "object.__ne__"))
  ob : PySem.W.subIn K (.ref C) (.type "object") = some true
theorem g_oNe (tk : Takes X W) (hC : G.C c = some C) (hm : Meth X.K C "__eq__" f) (cn : ClsNe X.K C) (F : FnOk X.prog X.w X.K X.mg X.base (L2.CX X.prog X.w) k f fd ps (spM (tx X G) mn)) (hr : Room (k + 1) X.A) (hb : Binds X.K fd ps []) (h1 : GR1 X G W a r1) (h2 : GR1 X G W b r2)
    (hn : (ios [r1, r2]).Nodup := by decide) (hl : ∀ i ∈ lns [r1, r2], i ∉ ios [r1, r2] := by decide) : GE X G W (tcs [r1, r2] ++ ios [r1, r2]) (.Compare a [.NotEq] [b] pos) (dOwn [some c, some c] false (negR mn) [r1, r2]) :=
  pe_mono (pe_cmpS (own_ne (.of hm) cn.ne cn.ob F hr hb (fun σ => passAt tk σ)) h1 h2 (nomark _)) fun σ H Q h => by
    have z := own_core (T := tx X G) (sw := false) hn hl (fun q => nomatch q) h
    exact rdA_mono z fun x H1 z => rdA_mono z fun y H2 z => ⟨insV0 (T := tx X G) (o := none) hC z.1, insV1 (T := tx X G) hC z.1, sp_neg z.2⟩
/-- o & o' and its like -/
theorem g_oBin {op : Operator} (tk : Takes X W) (hC : G.C c = some C) (hm : Meth X.K C (PySem.dunder op.info.2) f) (hs : PySem.W.selfFirst X.K C = true) (F : FnOk X.prog X.w X.K X.mg X.base (L2.CX X.prog X.w) k f fd ps (spM (tx X G) mn)) (hr : Room k X.A) (hb : Binds X.K fd ps []) (h1 : GR1 X G W a r1) (h2 : GR1 X G W b r2)
    (hn : (ios [r1, r2]).Nodup := by decide) (hl : ∀ i ∈ lns [r1, r2], i ∉ ios [r1, r2] := by decide) : GE X G W (tcs [r1, r2] ++ ios [r1, r2]) (.BinOp a op b pos) (dOwn [some c, some c] false mn [r1, r2]) :=
  pe_mono (pe_opS (own_bin (.of hm) hs F hr hb (fun σ => passAt tk σ)) h1 h2) fun σ H Q h => by
    have z := own_core (T := tx X G) (sw := false) hn hl (fun q => nomatch q) h
    exact rdA_mono z fun x H1 z => rdA_mono z fun y H2 z => ⟨insV0 (T := tx X G) (o := none) hC z.1, insV1 (T := tx X G) hC z.1, z.2⟩
theorem pt_cmpS {op : CmpOp} {r : L2.St → R2} {ta tb : TE} (ho : OpS X (compareOp op) r) (ha : PE X a ta) (hb : PE X b tb) (hm : behindInMarks op b = false) : PT X (.Compare a [op] [b] pos) (tTest (tOpS r ta tb)) := by
  refine ⟨fun pins s σ H Q I h => ?_⟩
  refine wpAny_isTrue_Compare1 (thn (ha.run pins s σ H _ I h) fun v s1 ⟨x, H1, I1, r1, q1⟩ => thn (hb.run pins s1 σ H1 _ I1 q1) fun u s2 ⟨y, H2, I2, r2, q2⟩ =>
    thn (ho pins s2 σ H2 x y v u _ I2 r1 r2 q2) fun c s3 ⟨z, H3, I3, r3, k, e, q3⟩ => ?_) hm
  subst e
  cases r3
  exact wpAny_truthy_bool ⟨H3, I3, q3⟩
theorem gt_oIn (tk : Takes X W) (hC : G.C c = some C) (hm : Meth X.K C "__contains__" f) (F : FnOk X.prog X.w X.K X.mg X.base (L2.CX X.prog X.w) k f fd ps (spM (tx X G) mn)) (hr : Room k X.A) (hb : Binds X.K fd ps []) (h1 : GR1 X G W a r1) (h2 : GR1 X G W b r2)
    (hn : (ios [r1, r2]).Nodup := by decide) (hl : ∀ i ∈ lns [r1, r2], i ∉ ios [r1, r2] := by decide) (hk : behindInMarks .In b = false := by rfl) : GT X G W (tcs [r1, r2] ++ ios [r1, r2]) (.Compare a [.In] [b] pos) (dB (dOwn [none, some c] true (onlyIf isBl mn) [r1, r2])) :=
  pt_mono (pt_cmpS (own_in (.of hm) F hr hb (fun σ => passAt tk σ)) h1 h2 hk) fun σ H Q h => by
    have z := own_core (T := tx X G) hn hl (fun _ => rfl) (tB_core h)
    exact rdA_mono z fun x H1 z => rdA_mono z fun y H2 z => ⟨insV1 (T := tx X G) hC z.1, sp_bl z.2⟩
theorem gt_oNotIn (tk : Takes X W) (hC : G.C c = some C) (hm : Meth X.K C "__contains__" f) (F : FnOk X.prog X.w X.K X.mg X.base (L2.CX X.prog X.w) k f fd ps (spM (tx X G) mn)) (hr : Room k X.A) (hb : Binds X.K fd ps []) (h1 : GR1 X G W a r1) (h2 : GR1 X G W b r2)
    (hn : (ios [r1, r2]).Nodup := by decide) (hl : ∀ i ∈ lns [r1, r2], i ∉ ios [r1, r2] := by decide) (hk : behindInMarks .NotIn b = false := by rfl) : GT X G W (tcs [r1, r2] ++ ios [r1, r2]) (.Compare a [.NotIn] [b] pos) (dB (dOwn [none, some c] true (negR mn) [r1, r2])) :=
  pt_mono (pt_cmpS (own_notIn (.of hm) F hr hb (fun σ => passAt tk σ)) h1 h2 hk) fun σ H Q h => by
    have z := own_core (T := tx X G) hn hl (fun _ => rfl) (tB_core h)
    exact rdA_mono z fun x H1 z => rdA_mono z fun y H2 z => ⟨insV1 (T := tx X G) hC z.1, sp_neg z.2⟩
theorem gt_oEq (tk : Takes X W) (hC : G.C c = some C) (hm : Meth X.K C "__eq__" f) (F : FnOk X.prog X.w X.K X.mg X.base (L2.CX X.prog X.w) k f fd ps (spM (tx X G) mn)) (hr : Room k X.A) (hb : Binds X.K fd ps []) (h1 : GR1 X G W a r1) (h2 : GR1 X G W b r2)
    (hn : (ios [r1, r2]).Nodup := by decide) (hl : ∀ i ∈ lns [r1, r2], i ∉ ios [r1, r2] := by decide) : GT X G W (tcs [r1, r2] ++ ios [r1, r2]) (.Compare a [.Eq] [b] pos) (dB (dOwn [some c, some c] false mn [r1, r2])) :=
  pt_mono (pt_cmpS (own_eq (.of hm) F hr hb (fun σ => passAt tk σ)) h1 h2 (nomark _)) fun σ H Q h => by
    have z := own_core (T := tx X G) (sw := false) hn hl (fun q => nomatch q) (tB_core h)
    exact rdA_mono z fun x H1 z => rdA_mono z fun y H2 z => ⟨insV0 (T := tx X G) (o := none) hC z.1, insV1 (T := tx X G) hC z.1, z.2⟩
theorem gt_oNe (tk : Takes X W) (hC : G.C c = some C) (hm : Meth X.K C "__eq__" f) (cn : ClsNe X.K C) (F : FnOk X.prog X.w X.K X.mg X.base (L2.CX X.prog X.w) k f fd ps (spM (tx X G) mn)) (hr : Room (k + 1) X.A) (hb : Binds X.K fd ps []) (h1 : GR1 X G W a r1) (h2 : GR1 X G W b r2)
    (hn : (ios [r1, r2]).Nodup := by decide) (hl : ∀ i ∈ lns [r1, r2], i ∉ ios [r1, r2] := by decide) : GT X G W (tcs [r1, r2] ++ ios [r1, r2]) (.Compare a [.NotEq] [b] pos) (dB (dOwn [some c, some c] false (negR mn) [r1, r2])) :=
  pt_mono (pt_cmpS (own_ne (.of hm) cn.ne cn.ob F hr hb (fun σ => passAt tk σ)) h1 h2 (nomark _)) fun σ H Q h => by
    have z := own_core (T := tx X G) (sw := false) hn hl (fun q => nomatch q) (tB_core h)
    exact rdA_mono z fun x H1 z => rdA_mono z fun y H2 z => ⟨insV0 (T := tx X G) (o := none) hC z.1, insV1 (T := tx X G) hC z.1, sp_neg z.2⟩
/-- len(o) -/
theorem g_oLen (hg : Gl X "len") (hmg : X.mg "len" = none) (tk : Takes X W) (hC : G.C c = some C) (hm : Meth X.K C "__len__" f) (F : FnOk X.prog X.w X.K X.mg X.base (L2.CX X.prog X.w) k f fd ps (spM (tx X G) mn)) (hr : Room (k + 1) X.A) (hb : Binds X.K fd ps []) (h1 : GR1 X G W a r1)
    (hn : (ios [r1]).Nodup := by decide) (hl : ∀ i ∈ lns [r1], i ∉ ios [r1] := by decide) (hs : starEach [a] X.env = (false, eval a X.env) :: starEach [] X.env := by rfl) : GE X G W (tcs [r1] ++ ios [r1]) (.Call (.Name "len" p) [a] [] pos) (dOwn [some c] false (onlyIf isLn mn) [r1]) := by
  refine ⟨fun pins s σ H Q I h => ?_⟩
  have z := own_core (T := tx X G) (sw := false) hn hl (fun q => nomatch q) h
  have z : tCons (rdA (tx X G) W r1) tNil σ H (fun vs H1 => ∃ q dx fs, vs = [.ref q] ∧ H1 q = some (.ins C dx fs) ∧ spM (tx X G) (onlyIf isLn mn) [.ref q] H1 Q (WE W σ)) := rdA_mono z fun x H1 z => by
    obtain ⟨q, dx, fs, rfl, hq⟩ := insV0 (T := tx X G) (o := none) hC z.1
    exact ⟨q, dx, fs, rfl, hq, z.2⟩
  have pa : PA X [a] (tCons (rdA (tx X G) W r1) tNil) := pa_cons h1 pa_nil hs
  refine wpAny_Call_Name_kw (ld_blt I hg hmg PySem.boot_len ?_ (by decide) (by decide))
  refine PyProof.Rows.callWith_builtin1 (thn (pa.run pos pins s σ H _ I z) fun us s1 ⟨vs, H1, I1, rv, q, dx, fs, ev, hq, hs⟩ => ?_) hs rfl
  subst ev
  obtain ⟨u, rfl, ru⟩ := vals1 rv
  obtain rfl : u = Value.ref q := ru
  exact own_len (E := WE W) (.of hm) F hr hb (passAt tk σ) I1 hq (sp_ln hs)
end
end Cs
namespace Cs
open PySem L2 Evl PyProof.Rows
/-- a def with defaults, every parameter written -/
theorem bindsAll {K : PySem.W.Frag} {x qual : Str} {params : Arguments} {body : List Stmt} {scope : Scope} {dvs : List V} {f : Addr} {fd : FuncData} {ps : List Str} (F : FunD K x qual params body scope dvs [] f fd) (n : Nat) (hd : dvs ≠ []) (hn : n = ps.length)
    (h : ∀ (T : Addr) (kV doc pm : Value) (an : Option Addr) (cdv ct : Value) (us its : List Value), us.length = n → its.length = dvs.length →
      ∃ k, bindArgs (PySem.W.fnOf x qual params body scope (.ref T) kV doc pm an cdv ct) ⟨us, []⟩ = seqItems? (.ref T) >>= k ∧ k (some its.toArray) = pure (ps.zip us)) : Binds K fd ps [] := by
  obtain ⟨ds, hv, hb⟩ := F.binds1 (ps := ps) n dvs.length hd (by omega) fun T kV doc pm an cdv ct us its h1 h2 => by
    obtain ⟨k, e1, e2⟩ := h T kV doc pm an cdv ct us its h1 h2
    refine ⟨k, e1, ?_⟩
    rw [e2, ← h2, List.drop_length, List.append_nil]
  rw [List.drop_length] at hv
  cases hv
  exact hb
/-- a property that hands out a field -/
theorem getter_ok {P : Program} {w : World} {K : PySem.W.Frag} {mg : Str → Option Value} {base : Heap} {x qual f : Str} {st : Stmt} {fa C : Addr} {fd : FuncData} {p1 p2 p3 : Pos} {N : List Str} (F : Fun K x qual st fa fd) (S : FnScope N ["self"] (defScope st)) (hN : N[0]? = some ("self" : Str))
    (hb : defBody st = [.Return (some (.Attribute (.Name "self" p1) f p2)) p3]) (c : Cls K C) (n : NoAttr K C f) : FnOk P w K mg base CX0 1 fa fd ["self"] (getSp C f) := by
  obtain ⟨⟨oc, od, kV, doc, pm, an, cdv, ct, osl, rfl, lk, hcd⟩, kp⟩ := F
  exact fn_getter lk hcd S hN hb c n
theorem gs_tc {X : Cx} {G : Gx} {W : WX} {st : Stmt} {f : M Flw} (tc : List Nat) (h : GS X G W tc st f) : GS X G W tc st f := h
end Cs
namespace Cs
open L2
/-! lists of ints, lists of lists of ints -/
abbrev L1 (o : Fl) (xs : List Int) : D := .lst o (xs.map D.int)
abbrev LL (o p : Fl) (xss : List (List Int)) : D := .lst o (xss.map (L1 p))
@[simp] theorem allFs_L1 {p : Fl → Bool} {o : Fl} : ∀ {xss : List (List Int)}, allFs p (xss.map (L1 o)) = (xss.isEmpty || p o)
  | [] => rfl
  | x :: xss => by
    rw [List.map_cons, allFs, allFs_L1, allF_l, allFs_ints]
    cases p o <;> simp
@[simp] theorem mapFs_L1 {g : Fl → Fl} {o : Fl} : ∀ {xss : List (List Int)}, mapFs g (xss.map (L1 o)) = xss.map (L1 (g o))
  | [] => by rw [List.map_nil, mapFs]; rfl
  | x :: xss => by rw [List.map_cons, mapFs, mapFs_L1, mapF_l, mapFs_ints]; rfl
theorem mapFs_append {g : Fl → Fl} : ∀ {xs ys : List D}, mapFs g (xs ++ ys) = mapFs g xs ++ mapFs g ys
  | [], ys => by rw [mapFs]; rfl
  | x :: xs, ys => by rw [List.cons_append, mapFs, mapFs, mapFs_append]; rfl
theorem allFs_append {p : Fl → Bool} : ∀ {xs ys : List D}, allFs p (xs ++ ys) = (allFs p xs && allFs p ys)
  | [], ys => by rw [allFs]; rfl
  | x :: xs, ys => by rw [List.cons_append, allFs, allFs, allFs_append, Bool.and_assoc]
theorem deps_L1 {o : Fl} : ∀ {xss : List (List Int)}, deps (xss.map (L1 o)) ≤ 1
  | [] => by rw [List.map_nil, deps]; omega
  | x :: xss => by
    rw [List.map_cons, deps, dep_lst, deps_ints]
    have := deps_L1 (o := o) (xss := xss)
    omega
theorem eqDs_L1 {o p : Fl} : ∀ {xs ys : List (List Int)}, eqDs (xs.map (L1 o)) (ys.map (L1 p)) = (xs == ys)
  | [], [] => rfl
  | x :: xs, y :: ys => by
    rw [List.map_cons, List.map_cons, eqDs, eqDs_L1, eqD_ll, eqDs_ints]
    rfl
  | [], y :: ys => rfl
  | x :: xs, [] => rfl
theorem pEq_LL {o p o' p' : Fl} {xs ys : List (List Int)} : pEq (LL o p xs) (LL o' p' ys) = .sc (.bl (xs == ys)) := by
  unfold pEq
  have h1 := deps_L1 (o := p) (xss := xs)
  have h2 := deps_L1 (o := p') (xss := ys)
  rw [if_pos (by rw [dep_lst, dep_lst]; omega), eqD_ll, eqDs_L1]
theorem pNe_LL {o p o' p' : Fl} {xs ys : List (List Int)} : pNe (LL o p xs) (LL o' p' ys) = .sc (.bl (!(xs == ys))) := by
  unfold pNe
  have h1 := deps_L1 (o := p) (xss := xs)
  have h2 := deps_L1 (o := p') (xss := ys)
  rw [if_pos (by rw [dep_lst, dep_lst]; omega), eqD_ll, eqDs_L1]
theorem pNe_L1 {o o' : Fl} {xs ys : List Int} : pNe (L1 o xs) (L1 o' ys) = .sc (.bl (!(xs == ys))) := by
  unfold pNe
  rw [if_pos (by rw [dep_lst, dep_lst, deps_ints, deps_ints]; omega), eqD_ll, eqDs_ints]
theorem atI_ints {cs : List Int} {i : Int} (h0 : 0 ≤ i) (h1 : i < cs.length) : ∃ c, L2.atI (cs.map D.int) i = some (.int c) := by
  obtain ⟨n, rfl⟩ : ∃ n : Nat, i = (n : Int) := ⟨i.toNat, by omega⟩
  have hn : n < cs.length := by omega
  refine ⟨cs[n], ?_⟩
  rw [atI_n, List.getElem?_map, List.getElem?_eq_getElem hn]
  rfl
theorem outs_02 {d : D} {x : Sl} {r : En} (h : allF noBo d = true) : outs [0] 2 (.dt d :: x :: r) = [.dt d, .un] := by
  simp [outs, List.range_succ, h]
def cutI {α : Type} (xs : List α) (lo hi : Option Int) : List α := (xs.drop (HT.sIx xs.length 0 lo)).take (HT.sIx xs.length xs.length hi - HT.sIx xs.length 0 lo)
@[simp] theorem cutD_ints {xs : List Int} {lo hi : Option Int} : cutD (xs.map D.int) lo hi = (cutI xs lo hi).map D.int := by
  unfold cutD cutI
  rw [List.length_map, List.map_take, List.map_drop]
/-- the drawing box -/
def box (cs : List Int) (at_ big seed : Int) : D := .lst .ow [.lst .fr (cs.map D.int), .int at_, .int big, .int seed]
def BoxP (d : D) : Prop := ∃ cs a b s, d = box cs a b s ∧ 0 ≤ a ∧ 0 ≤ b
theorem BoxP.noBo {d : D} (h : BoxP d) : allF noBo d = true := by
  obtain ⟨cs, a, b, s, rfl, _, _⟩ := h
  simp [box]
end Cs
namespace Cs
open L2
open PySem (Str)
abbrev XK0 := Str → List Str → List D → En → Prop
section
variable {α : Type} {X : XK0} {ρ : En} {p : Fl → Bool} {g : Fl → Fl}
/-! texts -/
@[simp] theorem allFs_strs : ∀ {zs : List Str}, allFs p (zs.map D.str) = true
  | [] => rfl
  | z :: zs => by rw [List.map_cons, allFs, allFs_strs]; rfl
@[simp] theorem mapF_str {z : Str} : mapF g (.str z) = .str z := by rw [mapF]
@[simp] theorem mapF_bl {b : Bool} : mapF g (.bl b) = .bl b := by rw [mapF]
@[simp] theorem mapF_non : mapF g .non = .non := by rw [mapF]
@[simp] theorem mapF_t {xs : List D} : mapF g (.tup xs) = .tup (mapFs g xs) := by rw [mapF]
@[simp] theorem mapF_o {o : Fl} {c : Str} {ks : List Str} {xs : List D} : mapF g (.obj o c ks xs) = .obj (g o) c ks (mapFs g xs) := by rw [mapF]
@[simp] theorem mapF_d {o : Fl} {ks : List Str} {xs : List D} : mapF g (.dct o ks xs) = .dct (g o) ks (mapFs g xs) := by rw [mapF]
@[simp] theorem allF_o {o : Fl} {c : Str} {ks : List Str} {xs : List D} : allF p (.obj o c ks xs) = (p o && allFs p xs) := by rw [allF]
@[simp] theorem allF_d {o : Fl} {ks : List Str} {xs : List D} : allF p (.dct o ks xs) = (p o && allFs p xs) := by rw [allF]
@[simp] theorem mapFs_strs : ∀ {zs : List Str}, mapFs g (zs.map D.str) = zs.map D.str
  | [] => by rw [List.map_nil, mapFs]
  | z :: zs => by rw [List.map_cons, mapFs, mapFs_strs, mapF_str]
abbrev pr2 (p : Str × Str) : D := .tup [.str p.1, .str p.2]
@[simp] theorem allFs_pr2 : ∀ {ps : List (Str × Str)}, allFs p (ps.map pr2) = true
  | [] => rfl
  | z :: zs => by rw [List.map_cons, allFs, allFs_pr2]; rfl
@[simp] theorem mapFs_pr2 : ∀ {ps : List (Str × Str)}, mapFs g (ps.map pr2) = ps.map pr2
  | [] => by rw [List.map_nil, mapFs]
  | z :: zs => by rw [List.map_cons, mapFs, mapFs_pr2, mapF_t, mapFs, mapFs, mapFs, mapF_str, mapF_str]
@[simp] theorem pLen_t {xs : List D} : pLen (.tup xs) = .sc (.int xs.length) := rfl
@[simp] theorem pLen_s {z : Str} : pLen (.str z) = if z.length ≤ lim then .sc (.int z.length) else .bad := rfl
@[simp] theorem pList_t {xs : List D} : pList (.tup xs) = if allFs noOw xs = true then .nl xs else .bad := rfl
@[simp] theorem pTuple_l {o : Fl} {xs : List D} : pTuple (.lst o xs) = if allFs noOw xs = true then .nt xs else .bad := rfl
@[simp] theorem pTuple_t {xs : List D} : pTuple (.tup xs) = if allFs noOw xs = true then .sc (.tup xs) else .bad := rfl
@[simp] theorem pAdd_s {a b : Str} : pAdd (.str a) (.str b) = if a.length + b.length ≤ lim then .sc (.str (a ++ b)) else .bad := rfl
theorem pAdd_l {o o' : Fl} {xs ys : List D} : pAdd (.lst o xs) (.lst o' ys) = if (o ≠ .ro ∧ o' ≠ .ro) ∧ (allFs noOw xs = true ∧ allFs noOw ys = true) ∧ xs.length + ys.length ≤ lim then .nl (xs ++ ys) else .bad := rfl
@[simp] theorem itemsOf_s {z : Str} : itemsOf (.str z) = some (signs z) := rfl
def sgW (o : Option Nat) : PR := match o with
  | some c => .sc (.str ⟨#[c]⟩)
  | none => .bad
@[simp] theorem sgW_some {c : Nat} : sgW (some c) = .sc (.str ⟨#[c]⟩) := rfl
@[simp] theorem pIx_s {z : Str} {i : Int} : pIx (.str z) (.int i) = if z.length ≤ lim then sgW (L2.atI z.cps.toList i) else .bad := rfl
@[simp] theorem dep_str {z : Str} : dep (.str z) = 0 := rfl
@[simp] theorem dep_bl {z : Bool} : dep (.bl z) = 0 := rfl
@[simp] theorem dep_non : dep .non = 0 := rfl
@[simp] theorem dep_tup {xs : List D} : dep (.tup xs) = deps xs + 1 := by rw [dep]
@[simp] theorem deps_nil : deps [] = 0 := rfl
@[simp] theorem deps_cons {x : D} {xs : List D} : deps (x :: xs) = max (dep x) (deps xs) := by rw [deps]
@[simp] theorem deps_strs : ∀ {zs : List Str}, deps (zs.map D.str) = 0
  | [] => rfl
  | z :: zs => by rw [List.map_cons, deps, deps_strs]; rfl
theorem deps_pr2 : ∀ {zs : List (Str × Str)}, deps (zs.map pr2) ≤ 1
  | [] => by rw [List.map_nil, deps]; omega
  | z :: zs => by
    have := deps_pr2 (zs := zs)
    rw [List.map_cons, deps, dep_tup]
    simp
    omega
theorem any_strs {z : Str} : ∀ {zs : List Str}, ((zs.map D.str).any fun y => eqD y (.str z)) = decide (z ∈ zs)
  | [] => rfl
  | y :: zs => by
    rw [List.map_cons, List.any_cons, any_strs, eqD_ss]
    by_cases h : y = z
    · subst h; simp
    · have h' : ¬ z = y := fun e => h e.symm
      simp [h, h']
@[simp] theorem pIn_ls {o : Fl} {z : Str} {zs : List Str} : pIn (.str z) (.lst o (zs.map D.str)) = .sc (.bl (decide (z ∈ zs))) := by
  unfold pIn
  dsimp only
  rw [if_pos (by simp), any_strs]
@[simp] theorem pNotIn_ls {o : Fl} {z : Str} {zs : List Str} : pNotIn (.str z) (.lst o (zs.map D.str)) = .sc (.bl (!decide (z ∈ zs))) := by
  unfold pNotIn
  dsimp only
  rw [if_pos (by simp), any_strs]
theorem all_flat : ∀ {zs : List Str}, (zs.map D.str).all flat = true
  | [] => rfl
  | z :: zs => by rw [List.map_cons, List.all_cons, all_flat]; rfl
@[simp] theorem pIn_ts {z : Str} {zs : List Str} : pIn (.str z) (.tup (zs.map D.str)) = .sc (.bl (decide (z ∈ zs))) := by
  unfold pIn
  dsimp only
  rw [if_pos ⟨rfl, all_flat⟩, any_strs]
@[simp] theorem pNotIn_ts {z : Str} {zs : List Str} : pNotIn (.str z) (.tup (zs.map D.str)) = .sc (.bl (!decide (z ∈ zs))) := by
  unfold pNotIn
  dsimp only
  rw [if_pos ⟨rfl, all_flat⟩, any_strs]
@[simp] theorem pNotIn_sg {c : Nat} {z : Str} : pNotIn (.str ⟨#[c]⟩) (.str z) = .sc (.bl (!decide (c ∈ z.cps.toList))) := by
  unfold pNotIn
  dsimp only
  rw [if_pos (show #[c].size = 1 from rfl)]
  rfl
theorem signs_get {z : Str} {k : Nat} {d : D} (h : (signs z)[k]? = some d) : ∃ c, z.cps.toList[k]? = some c ∧ d = .str ⟨#[c]⟩ := by
  unfold signs at h
  rw [List.getElem?_map] at h
  cases e : z.cps.toList[k]? with
  | none => rw [e] at h; cases h
  | some c => rw [e] at h; exact ⟨c, rfl, (Option.some.inj h).symm⟩
@[simp] theorem signs_len {z : Str} : (signs z).length = z.length := by simp [signs, Str.length]
@[simp] theorem cutD_strs {xs : List Str} {lo hi : Option Int} : cutD (xs.map D.str) lo hi = (cutI xs lo hi).map D.str := by
  unfold cutD cutI
  rw [List.length_map, List.map_take, List.map_drop]
@[simp] theorem pShl_i {i j : Int} : pShl (.int i) (.int j) = if 0 ≤ j ∧ j ≤ 1000000 ∧ i.natAbs < 2 ^ 64 then .sc (.int (i * 2 ^ j.toNat)) else .bad := rfl
@[simp] theorem pShr_i {i j : Int} : pShr (.int i) (.int j) = if 0 ≤ j then .sc (.int (i / 2 ^ j.toNat)) else .bad := rfl
@[simp] theorem pBand_i {i j : Int} : pBand (.int i) (.int j) = .sc (.int (PySem.Builtin.bitAnd i j)) := rfl
@[simp] theorem pBor_i {i j : Int} : pBor (.int i) (.int j) = .sc (.int (PySem.Builtin.bitOr i j)) := rfl
/-! displays, chains, objects -/
@[simp] theorem post_tup {f : M (List D)} {Q : D → En → Prop} : Post Q X (dTup f ρ) = Post (fun ds ρ1 => ds.length ≤ lim ∧ Q (.tup ds) ρ1) X (f ρ) := by
  unfold dTup
  rw [post_bnd]
  congr 1
  funext ds ρ1
  rw [post_ite]
  rfl
def chW (p : PR) (K : Bool → Prop) : Prop := match p with
  | .sc (.bl b) => K b
  | _ => False
@[simp] theorem chW_bl {b : Bool} {K : Bool → Prop} : chW (.sc (.bl b)) K = K b := rfl
@[simp] theorem post_chn {p q : D → D → PR} {f g h : M D} {Q : D → En → Prop} : Post Q X (dChn p q f g h ρ) = Post (fun x ρ1 => Post (fun y ρ2 => chW (p x y) fun b => if b = true then Post (fun z ρ3 => prW (q y z) fun d => Q d ρ3) X (h ρ2) else Q (.bl false) ρ2) X (g ρ1)) X (f ρ) := by
  unfold dChn
  simp only [post_bnd]
  congr 1
  funext x ρ1
  congr 1
  funext y ρ2
  unfold chn
  cases p x y with
  | sc d =>
    cases d with
    | bl b => cases b <;> simp
    | _ => rfl
  | _ => rfl
def opW {α : Type} (o : Option α) (K : α → Prop) : Prop := match o with
  | some d => K d
  | none => False
@[simp] theorem opW_some {α : Type} {d : α} {K : α → Prop} : opW (some d) K = K d := rfl
@[simp] theorem opW_none {α : Type} {K : α → Prop} : opW (none : Option α) K = False := rfl
@[simp] theorem opW_if {α : Type} {c : Prop} [Decidable c] {d : α} {K : α → Prop} : opW (if c then some d else none) K = (c ∧ K d) := by
  by_cases h : c <;> simp [h]
@[simp] theorem post_setF {i : Nat} {c f : Str} {u : M D} {Q : Flw → En → Prop} : Post Q X (dSetF i c f u ρ) = Post (fun d ρ1 => slW (slot i ρ1) fun o => opW (setF c f d o) fun o' => Q .nx (ρ1.set i (.dt o'))) X (u ρ) := by
  unfold dSetF
  rw [post_bnd]
  congr 1
  funext d ρ1
  cases slot i ρ1 with
  | none => rfl
  | some o =>
    dsimp only [slW_some]
    cases setF c f d o <;> rfl
@[simp] theorem setF_o {c f c' : Str} {d : D} {ks : List Str} {ds : List D} : setF c f d (.obj .ow c' ks ds) = if c' = c ∧ ks.length < 900 then some (.obj .ow c (putL f d ks ds).1 (putL f d ks ds).2) else none := rfl
/-- a new instance -/
def mkW (r : Res) (K : D → En → Prop) (E : XK0) : Prop := match r with
  | .ok .non (.dt o :: os) => K o os
  | .exc c ks xs (_ :: os) => E c ks xs os
  | _ => False
@[simp] theorem post_make {c : Str} {m : List D → Res} {ars : List Arg} {Q : D → En → Prop} : Post Q X (dMake c m ars ρ) = Post (fun ods ρ1 => argW (argD ρ1 ars ods) fun ds => mkW (m (.obj .ow c [] [] :: ds)) (fun o os => Q o (wb ars os ρ1)) (fun c ks xs os => X c ks xs (wb ars os ρ1))) X (dArs ars ρ) := by
  unfold dMake
  rw [post_bnd]
  congr 1
  funext ods ρ1
  cases argD ρ1 ars ods with
  | none => rfl
  | some ds =>
    dsimp only [argW_some]
    cases m (.obj .ow c [] [] :: ds) with
    | bad => rfl
    | ok d os =>
      cases d <;> first | rfl | skip
      cases os with
      | nil => rfl
      | cons s os => cases s <;> rfl
    | exc c ks xs os => cases os <;> rfl
theorem mkW_of {r : Res} {K : D → En → Prop} {E : XK0} (h : resW r (fun d os => d = .non ∧ ∃ o os', os = .dt o :: os' ∧ K o os') (fun c ks xs os => ∃ s os', os = s :: os' ∧ E c ks xs os')) : mkW r K E := by
  cases r with
  | bad => exact h.elim
  | ok d os =>
    obtain ⟨rfl, o, os', rfl, h⟩ := h
    exact h
  | exc c ks xs os =>
    obtain ⟨s, os', rfl, h⟩ := h
    exact h
/-- methods -/
@[simp] theorem post_methL {c m : Str} {mn : List D → Res} {i : Nat} {tc : List Nat} {ars : List Arg} {Q : D → En → Prop} : Post Q X (dMeth c m mn (.l i, tc) ars ρ) = slW (slot i ρ) fun d => isObj c m d = true ∧ Post Q X (dCall mn ((.l i, tc) :: ars) ρ) := by
  show Post Q X (match slot i ρ with
    | some d => if isObj c m d = true then dCall mn ((.l i, tc) :: ars) ρ else .bad
    | none => .bad) = _
  cases slot i ρ with
  | none => rfl
  | some d =>
    dsimp only [slW_some]
    by_cases h : isObj c m d = true
    · rw [if_pos h]; simp only [h, true_and]
    · rw [if_neg h]; simp only [h]; simp
@[simp] theorem post_methIO {c m : Str} {mn : List D → Res} {i : Nat} {tc : List Nat} {ars : List Arg} {Q : D → En → Prop} : Post Q X (dMeth c m mn (.io i, tc) ars ρ) = slW (slot i ρ) fun d => isObj c m d = true ∧ Post Q X (dCall mn ((.io i, tc) :: ars) ρ) := by
  show Post Q X (match slot i ρ with
    | some d => if isObj c m d = true then dCall mn ((.io i, tc) :: ars) ρ else .bad
    | none => .bad) = _
  cases slot i ρ with
  | none => rfl
  | some d =>
    dsimp only [slW_some]
    by_cases h : isObj c m d = true
    · rw [if_pos h]; simp only [h, true_and]
    · rw [if_neg h]; simp only [h]; simp
theorem pFld_o {o : Fl} {c f : Str} {ks : List Str} {ds : List D} : pFld c f (.obj o c ks ds) = ixW (look f ks ds) := by
  unfold pFld
  dsimp only
  rw [if_pos rfl]
  rfl
/-! enumerate, dict comprehensions -/
def tuW (d : D) (K : List D → Prop) : Prop := match d with
  | .tup xs => K xs
  | _ => False
@[simp] theorem tuW_t {xs : List D} {K : List D → Prop} : tuW (.tup xs) K = K xs := rfl
@[simp] theorem post_enT {f : M D} {Q : List D → En → Prop} : Post Q X (dEnT f ρ) = Post (fun d ρ1 => tuW (mapF flFrz d) fun xs => Q (numb 0 xs) ρ1) X (f ρ) := by
  unfold dEnT
  rw [post_bnd, post_fz]
  congr 1
  funext d ρ1
  cases mapF flFrz d <;> rfl
theorem post_dc {src : M (List D)} {tg : Tg} {own : List Nat} {cond : M Bool} {key val : M D} {Q : D → En → Prop} : Post Q X (dDc src tg own cond key val ρ) = Post (fun ds ρ1 => noOwAt own ρ1 = true ∧ Post (fun xs ρ2 => Q (.dct .ow xs.1 xs.2) (rst own ρ1 ρ2)) N0 (dcL tg own cond key val ([], []) ds (fgt own ρ1))) X (src ρ) := by
  unfold dDc
  rw [post_bnd]
  congr 1
  funext ds ρ1
  by_cases h : noOwAt own ρ1 = true
  · simp only [h, if_true, true_and]
    cases dcL tg own cond key val ([], []) ds (fgt own ρ1) <;> rfl
  · rw [if_neg h]
    simp only [h]
    simp
def stW (d : D) (K : Str → Prop) : Prop := match d with
  | .str z => K z
  | _ => False
@[simp] theorem stW_s {z : Str} {K : Str → Prop} : stW (.str z) K = K z := rfl
theorem dc_inv {tg : Tg} {own : List Nat} {cond : M Bool} {key val : M D} : ∀ {ds : List D} {acc : List Str × List D} {ρ : En} (I : Nat → List Str × List D → En → Prop), I 0 acc ρ → (∀ k acc d ρ, ds[k]? = some d → I k acc ρ → tgW (dTg tg d ρ) fun ρ1 => Post (fun b ρ2 => if b = true then Post (fun kk ρ3 => stW kk fun z => Post (fun x ρ4 => (acc.1.length < lim ∧ allF noOw x = true) ∧ I (k + 1) (putD z x acc.1 acc.2) (fgt own ρ4)) N0 (val ρ3)) N0 (key ρ2) else I (k + 1) acc (fgt own ρ2)) N0 (cond ρ1)) → Post (fun acc ρ => I ds.length acc ρ) N0 (dcL tg own cond key val acc ds ρ)
  | [], acc, ρ, I, h0, _ => by
    unfold dcL
    exact h0
  | d :: ds, acc, ρ, I, h0, hs => by
    have z := hs 0 acc d ρ rfl h0
    unfold dcL
    cases et : dTg tg d ρ with
    | bad => rw [et] at z; exact z.elim
    | exc c ks xs ρ1 => rw [et] at z; exact z.elim
    | ok fl ρ1 =>
      rw [et] at z
      cases fl with
      | bk => exact z.elim
      | ct => exact z.elim
      | rt r => exact z.elim
      | nx =>
        have z : Post _ N0 (cond ρ1) := z
        dsimp only
        cases eb : cond ρ1 with
        | bad => rw [eb] at z; exact z.elim
        | exc c ks xs ρ2 => rw [eb] at z; exact z.elim
        | ok b ρ2 =>
          rw [eb] at z
          cases b with
          | false => exact dc_inv (fun k => I (k + 1)) z fun k acc d ρ e h => hs (k + 1) acc d ρ e h
          | true =>
            have z : Post _ N0 (key ρ2) := z
            dsimp only
            cases ek : key ρ2 with
            | bad => rw [ek] at z; exact z.elim
            | exc c ks xs ρ3 => rw [ek] at z; exact z.elim
            | ok kk ρ3 =>
              rw [ek] at z
              cases kk with
              | str zz =>
                have z : Post _ N0 (val ρ3) := z
                dsimp only
                cases ee : val ρ3 with
                | bad => rw [ee] at z; exact z.elim
                | exc c ks xs ρ4 => rw [ee] at z; exact z.elim
                | ok x ρ4 =>
                  rw [ee] at z
                  dsimp only
                  rw [if_pos z.1]
                  exact dc_inv (fun k => I (k + 1)) z.2 fun k acc d ρ e h => hs (k + 1) acc d ρ e h
              | _ => exact z.elim
theorem post_forL_nil {tg : Tg} {fg : List Nat} {body : M Flw} {Q : Flw → En → Prop} : Post Q X (forL tg fg body [] ρ) = Q .nx ρ := by
  unfold forL
  rfl
theorem post_forL_cons {tg : Tg} {fg : List Nat} {body : M Flw} {Q : Flw → En → Prop} {d : D} {ds : List D} : Post Q X (forL tg fg body (d :: ds) ρ) = tgW (dTg tg d ρ) (fun ρ1 => Post (forK (fun ρ2 => Post Q X (forL tg fg body ds ρ2)) Q fg) X (body ρ1)) := by
  rw [forL]
  dsimp only
  cases dTg tg d ρ with
  | bad => rfl
  | exc c ks xs ρ1 => rfl
  | ok fl ρ1 =>
    cases fl with
    | bk => rfl
    | ct => rfl
    | rt r => rfl
    | nx =>
      dsimp only
      show _ = Post _ X (body ρ1)
      cases body ρ1 with
      | bad => rfl
      | exc c ks xs ρ2 => rfl
      | ok fl ρ2 => cases fl <;> rfl
@[simp] theorem post_clr2 {i : Nat} {fj : M D} {Q : Flw → En → Prop} : Post Q X (dClr2 i fj ρ) = slW (slot i ρ) fun _ => Post (fun j ρ1 => mlW (slotL i ρ1) fun xs => mlW (clrAt2 j xs) fun ys => Q .nx (ρ1.set i (.dt (.lst .ow ys)))) X (fj ρ) := by
  unfold dClr2
  simp
def dixW (o : Option D) : PR := ixW o
@[simp] theorem pDix_d {o : Fl} {ks : List Str} {ds : List D} {k : Str} : pDix (.dct o ks ds) (.str k) = ixW (look k ks ds) := rfl
end
end Cs
namespace Cs
open PySem L2 Evl PyProof.Rows
/-! ## own operators, plainly -/
section
variable {X : Str → List Str → List D → En → Prop} {ρ : En}
@[simp] theorem post_own {cks : List (Option Str)} {sw : Bool} {m : List D → Res} {ars : List Arg} {Q : D → En → Prop} : Post Q X (dOwn cks sw m ars ρ) = Post (fun ods ρ1 => argW (argD ρ1 ars ods) fun ds => okC cks ds = true ∧ argW (argD ρ1 (sw2 sw ars) (sw2 sw ods)) fun ds' => resW (m ds') (fun d os => Q d (wb (sw2 sw ars) os ρ1)) (fun c ks xs os => X c ks xs (wb (sw2 sw ars) os ρ1))) X (dArs ars ρ) := by
  unfold dOwn
  rw [post_bnd]
  congr 1
  funext ods ρ1
  cases argD ρ1 ars ods with
  | none => rfl
  | some ds =>
    dsimp only [argW_some]
    by_cases h : okC cks ds = true
    · rw [if_pos h]
      unfold callD
      cases argD ρ1 (sw2 sw ars) (sw2 sw ods) with
      | none => simp [h]; exact fun z => z
      | some ds' =>
        dsimp only [argW_some]
        cases m ds' <;> simp [h] <;> first | rfl | exact fun z => z
    · rw [if_neg h]
      simp [h]
@[simp] theorem sw2_f {α : Type} {l : List α} : sw2 false l = l := by unfold sw2; split <;> first | rfl | contradiction
@[simp] theorem sw2_t {α : Type} {a b : α} : sw2 true [a, b] = [b, a] := rfl
@[simp] theorem okC_0 {ds : List D} : okC [] ds = true := by unfold okC; rfl
@[simp] theorem okC_n {r : List (Option Str)} {d : D} {ds : List D} : okC (none :: r) (d :: ds) = okC r ds := by rw [okC]
@[simp] theorem okC_s {c : Str} {r : List (Option Str)} {d : D} {ds : List D} : okC (some c :: r) (d :: ds) = (isIns c d && okC r ds) := by rw [okC]
@[simp] theorem isIns_o {o : Fl} {c : Str} {ks : List Str} {ds : List D} : isIns c (.obj o c ks ds) = true := by simp [isIns]
@[simp] theorem resW_only {P : D → Bool} {m : List D → Res} {ds : List D} {K : D → En → Prop} : resW (onlyIf P m ds) K X = resW (m ds) (fun d os => P d = true ∧ K d os) X := by
  unfold onlyIf
  cases m ds with
  | ok d os =>
    dsimp only
    by_cases h : P d = true
    · rw [if_pos h]; simp [h]
    · rw [if_neg h]; simp [h]; exact fun z => z
  | exc c ks xs os => rfl
  | bad => rfl
def notW (d : D) (K : D → Prop) : Prop := match d with
  | .bl b => K (.bl (!b))
  | _ => False
@[simp] theorem notW_b {b : Bool} {K : D → Prop} : notW (.bl b) K = K (.bl (!b)) := rfl
@[simp] theorem resW_neg {m : List D → Res} {ds : List D} {K : D → En → Prop} : resW (negR m ds) K X = resW (m ds) (fun d os => notW d fun e => K e os) X := by
  unfold negR
  cases m ds with
  | ok d os => cases d <;> rfl
  | exc c ks xs os => rfl
  | bad => rfl
@[simp] theorem isBl_b {b : Bool} : isBl (.bl b) = true := rfl
@[simp] theorem isLn_n {n : Nat} : isLn (.int (n : Int)) = decide (n < 9223372036854775808) := by
  unfold isLn
  have : (0 : Int) ≤ (n : Int) := by omega
  simp [this]
  omega
end
end Cs
namespace Cs
open PySem L2 Evl PyProof.Rows

/-! ## raise C(), C an own exception class without own __init__ -/
structure XC0 (K : PySem.W.Frag) (C : Addr) : Prop where
  q : PySem.W.excIn K C [.type "ValueError", .type "Exception", .type "BaseException", .type "object"] "ValueError.__new__" = true
  ex : PySem.W.subIn K (.ref C) (.type "BaseException") = some true
  ty : PySem.W.typeIn K (.ref C) = some (.type "type")
  k : PySem.W.keepIn K (.ref C) = true
section
variable {X : Cx} {G : Gx} {W : WX} {p pos pos2 : Pos}
theorem pmk_own0 {x : Str} {C : Addr} (T : XC0 X.K C) (gC : X.mg x = some (.ref C)) (hg : Gl X x) (hdb : (x == ("__debug__" : Str)) = false := by decide) : PMk X (.Call (.Name x p) [] [] pos) (fun _ H Q => Q (.ref C) none H) := by
  intro pins s σ H Q I h
  refine wpAny_Call_Name_kw (ld_glob I hg gC ?_ hdb)
  refine PySem.W.callWith_K0 I.kIn T.k ?_
  show wpAny _ _ (call (.ref C) []) _ _ _
  obtain ⟨bm, N, nm, qn, bs, hdct, sn, sub, ab, col, dd, k0, k1, k2, k3, k5, mN, hC, hN, hni, OT⟩ := exc_obj I.kIn T.q
  refine wpAny_call_exc_subT PySem.F.excBase_ValueError OT hC hN hni (fun h' e hm => ?_) (Nat.zero_le _)
  exact mk_of I hm (raises_own T.ex T.ty) h (I.hok.gone hm.new)
theorem gs_raise0 {c : Str} {C : Addr} (hc : X.calm = true) (tk : Takes X W) (hC : G.C c = some C) (T : XC0 X.K C) (hg : Gl X c) (hm : X.mg c = some (.ref C)) (hdb : (c == ("__debug__" : Str)) = false := by decide) :
    GS X G W [] (.Raise (some (.Call (.Name c p) [] [] pos)) none pos2) (dRaise c [] dNil) :=
  ps_mono (ps_raise hc tk (pmk_own0 T hm hg hdb)) fun D σ H ⟨B, s, e1, e2, r, hp⟩ => by
    subst e1 e2
    have hp : exS (tx X G) W B [] s c [] (mapFs flFrz []) s.ρ := by
      have z : Post (okS (tx X G) B [] s D) (exS (tx X G) W B [] s) (dRaise c [] dNil s.ρ) := hp
      rw [post_raise] at z
      exact z.2
    exact hp (.ref C) none s rfl r ⟨C, hC, rfl, .inl rfl⟩ Goes.refl
end
theorem meth_and {K : PySem.W.Frag} {C f : Addr} (h : Meth K C "__and__" f) : Meth K C (PySem.dunder Operator.BitAnd.info.2) f := by
  have e : PySem.dunder Operator.BitAnd.info.2 = Str.ofString "__and__" := by decide +kernel
  rw [e]; exact h
theorem meth_or {K : PySem.W.Frag} {C f : Addr} (h : Meth K C "__or__" f) : Meth K C (PySem.dunder Operator.BitOr.info.2) f := by
  have e : PySem.dunder Operator.BitOr.info.2 = Str.ofString "__or__" := by decide +kernel
  rw [e]; exact h
end Cs
namespace Cs
open PySem L2 Evl PyProof.Rows

/-! ## for x in xs, the items of an owned list, each handed over -/
def dForO (i j : Nat) (fg : List Nat) (body : M Flw) : M Flw := fun ρ => match slotL i ρ with
  | some xs => forL (.one j) fg body xs (ρ.set i .un)
  | none => .bad
section
variable {T : Tx} {B : Hp} {tc : List Nat} {s s1 : S5}
theorem Goes.putK {i : Nat} {d : D} {v : V} {g g2 : List Addr} (a : Goes tc s s1 (g ++ g2)) : Goes (tc ++ [i, i + 1000]) s (s1.put i v d g) g2 := by
  have z : Goes (tc ++ [i, i + 1000]) s (s1.put i v d g) [] := Goes.put (a.less fun c h => List.mem_append.mpr (.inl h))
  refine ⟨a.step.drop fun x q => ?_, z.fix, z.sg⟩
  rcases q with ⟨j, q⟩ | q
  · dsimp only at q
    split at q
    · exact .inr (List.mem_append.mpr (.inl q))
    · exact .inl ⟨j, q⟩
  · exact .inr (List.mem_append.mpr (.inr q))
theorem Tmps.uncons {H F : Hp} {φ : Nat → List Addr} {d : D} {ds : List D} {v : V} {vs : List V} {g : List Addr} (t : Tmps T B H F φ (d :: ds) (v :: vs) g) : ∃ g1 g2, g = g1 ++ g2 ∧ Tmp T B H F φ d v g1 ∧ Tmps T B H F φ ds vs g2 ∧ ∀ a ∈ g1, a ∉ g2 := by
  obtain ⟨rp, nd, ap, dj⟩ := t
  cases rp with
  | cons r rs e =>
    subst e
    obtain ⟨n1, n2, n3⟩ := List.nodup_append.mp nd
    exact ⟨_, _, rfl, ⟨r, n1, fun a h => ap a (List.mem_append.mpr (.inl h)), fun a h => dj a (List.mem_append.mpr (.inl h))⟩, ⟨rs, n2, fun a h => ap a (List.mem_append.mpr (.inr h)), fun a h => dj a (List.mem_append.mpr (.inr h))⟩, fun a h1 h2 => n3 a h1 a h2 rfl⟩
theorem Goes.ovl1 {p : Addr} {g : List Addr} (a : Goes tc s s1 (p :: g)) (h : s1.F p = none) : Goes tc s (s1.ovl [p]) g := by
  have z : Step s.H s.F (O s.φ) s1.H s1.F (Or2 (Or2 (O s1.φ) g) [p]) := a.step.drop fun x q => by
    rcases q with (q | q) | q
    · exact .inl q
    · exact .inr (List.mem_cons_of_mem _ q)
    · rw [List.mem_singleton.mp q]; exact .inr List.mem_cons_self
  exact ⟨z.ovl fun x q => by rw [List.mem_singleton.mp q]; exact h, a.fix, a.sg⟩
end
section
variable {X : Cx} {G : Gx} {W : WX} {tb : List Nat} {tge : Expr} {pos p : Pos} {body : List Stmt} {f : M Flw} {i j : Nat} {x : Str}
theorem gs_forO {fg : List Nat} (po : PassesOwn (model X.prog X.w) X.A X.env X.xe) (hc : X.calm = true) (hv : PE X (.Name x p) (tVar i)) (hg : PG X tge (gName j)) (hb : GSs X G W tb body f) (hf : ∀ k ∈ fg, k ∈ (Tg.one j).tc ++ tb := by decide)
    (hs : ∀ y, foldedSetIterable (.Name x p) X.env y = pure y := by intro _; rfl) : GS X G W ([i] ++ ((Tg.one j).tc ++ tb)) (.For tge (.Name x p) body [] pos) (dForO i j fg f) :=
  ps_mono (ps_for po hc (pi_list hv) hg hb hs) fun E σ H ⟨B, s, e1, e2, rl, hp⟩ => by
    subst e1 e2
    unfold dForO at hp
    cases eL : slotL i s.ρ with
    | none => rw [eL] at hp; exact hp.elim
    | some xs =>
      rw [eL] at hp
      dsimp only at hp
      obtain ⟨v, ev, rp⟩ := rl.sl i _ (slotL_some eL)
      generalize eg : s.φ i = gp at rp
      cases rp with
      | lstO hH rs e =>
        rename_i pa vs fp
        subst e
        have tm := take_tmp rl (show Rep (tx X G) B s.H s.F (.lst .ow xs) (.ref pa) (s.φ i) by rw [eg]; exact .lstO hH rs rfl)
        rw [eg] at tm
        have nd := List.nodup_cons.mp tm.nd
        have hFp : s.F pa = none := (tm.ap pa List.mem_cons_self).1
        have g0 : Goes [i] s ((s.take i).ovl [pa]) fp := Goes.ovl1 (by rw [← eg]; exact take_goes) hFp
        have r0 : Okk (tx X G) B ((s.take i).ovl [pa]) := rl.take.ovl (fun a h => by rw [List.mem_singleton.mp h]; exact hFp) fun a h => by rw [List.mem_singleton.mp h]; exact tm.dj pa List.mem_cons_self
        have hex : Ex s.F (ovl s.H s.F [pa]) := ovl_ex fun a h => by rw [List.mem_singleton.mp h]; exact hFp
        have t0 : Tmps (tx X G) B s.H (ovl s.H s.F [pa]) (s.take i).φ xs vs fp := ⟨rs.mono (Ex.refl B) hex fun _ _ _ q => q, nd.2, fun a h => ⟨by
          rw [ovl_out fun z => by rw [List.mem_singleton.mp z] at h; exact nd.1 h]
          exact (tm.ap a (List.mem_cons_of_mem _ h)).1, (tm.ap a (List.mem_cons_of_mem _ h)).2⟩, fun a h => tm.dj a (List.mem_cons_of_mem _ h)⟩
        have hF0 : (ovl s.H s.F [pa]) pa = some (.lst vs) := by rw [ovl_in (List.mem_singleton.mpr rfl)]; exact hH
        refine ⟨.ref pa, ev, pa, rfl, ⟨vs, sq_of hH⟩, ?_⟩
        refine for_it (n := vs.length) (walk_list (xs := vs)) (fun k σ H => ∃ (s2 : S5) (g : List Addr), s2.σ = σ ∧ s2.H = H ∧ Okk (tx X G) B s2 ∧ Goes ([i] ++ ((Tg.one j).tc ++ tb)) s s2 g ∧ s2.F pa = some (.lst vs) ∧ Tmps (tx X G) B s2.H s2.F s2.φ (xs.drop k) (vs.drop k) g ∧ Post (okS (tx X G) B ([i] ++ ((Tg.one j).tc ++ tb)) s E) (exS (tx X G) W B ([i] ++ ((Tg.one j).tc ++ tb)) s) (forL (.one j) fg f (xs.drop k) s2.ρ))
          ⟨(s.take i).ovl [pa], fp, rfl, rfl, r0, g0.wk (fun _ => memL), hF0, t0, hp⟩ (fun k σ H _ ⟨s2, g, x1, x2, x3, x4, x5, x6, x7⟩ => ?_) (fun k y σ H H' hk ⟨s2, g, x1, x2, x3, x4, x5, x6, x7⟩ yy => ?_) (fun σ H ⟨s2, g, x1, x2, x3, x4, x5, x6, x7⟩ => ?_)
        · rw [← x2]
          exact sq_of (x3.exF _ _ x5)
        · subst x1 x2
          obtain ⟨y1, y2⟩ := yy
          subst y1
          have hlen := rs.len
          have hkx : k < xs.length := by omega
          have hd : xs.drop k = xs[k] :: xs.drop (k + 1) := List.drop_eq_getElem_cons hkx
          have hdv : vs.drop k = vs[k] :: vs.drop (k + 1) := List.drop_eq_getElem_cons hk
          rw [List.getElem?_eq_getElem hk] at y2
          cases y2
          rw [hd, hdv] at x6
          rw [hd] at x7
          obtain ⟨g1, g2, rfl, t1, t2, hdj⟩ := x6.uncons
          generalize xs[k] = d at *
          generalize vs[k] = y at *
          unfold forL at x7
          dsimp only [dTg] at x7
          unfold dPuts dPuts at x7
          by_cases hj : j < s2.ρ.length
          · rw [if_pos hj] at x7
            dsimp only [ret] at x7
            have r4 : Okk (tx X G) B (s2.put j y d g1) := x3.put t1 hj
            have g4 : Goes ([i] ++ ((Tg.one j).tc ++ tb)) s (s2.put j y d g1) g2 := (Goes.putK x4).wk fun c q => by
              rcases List.mem_append.mp q with q | q
              · exact q
              · exact List.mem_append.mpr (.inr (List.mem_append.mpr (.inl q)))
            have t4 : Tmps (tx X G) B (s2.put j y d g1).H (s2.put j y d g1).F (s2.put j y d g1).φ (xs.drop (k + 1)) (vs.drop (k + 1)) g2 := ⟨t2.rep, t2.nd, t2.ap, fun a h q => by
              obtain ⟨c, q⟩ := q
              dsimp only at q
              split at q
              · exact hdj a q h
              · exact t2.dj a h ⟨c, q⟩⟩
            refine ⟨B, s2.put j y d g1, rfl, rfl, r4, ?_⟩
            have g5 : ∀ {s5 : S5} {g : List Addr}, Goes tb (s2.put j y d g1) s5 g → Goes ([i] ++ ((Tg.one j).tc ++ tb)) s s5 g := fun q => (g4.trans0 q).wk fun c z => (List.mem_append.mp z).elim id fun z => List.mem_append.mpr (.inr (List.mem_append.mpr (.inr z)))
            have more : ∀ s5 : S5, Okk (tx X G) B s5 → Goes tb (s2.put j y d g1) s5 [] → ∃ s6 : S5, s6.ρ = fgt fg s5.ρ ∧ s6.σ = s5.σ ∧ s6.H = s5.H ∧ Okk (tx X G) B s6 ∧ Goes ([i] ++ ((Tg.one j).tc ++ tb)) s s6 g2 ∧ s6.F pa = some (.lst vs) ∧ Tmps (tx X G) B s6.H s6.F s6.φ (xs.drop (k + 1)) (vs.drop (k + 1)) g2 := fun s5 r5 g5 => by
              obtain ⟨s6, w1, w2, w3, w4, w5, w6⟩ := fgt_core (is := fg) r5
              refine ⟨s6, w1, w2, w3, w5, ((((g4.trans g5).trans w6).less fun c h => ?_).wk fun c q => ?_), w6.step.ext _ _ (g5.step.ext _ _ x5), (t4.go g5).go w6⟩
              · exact List.mem_append.mpr (.inr (List.mem_append.mpr (.inr h)))
              · rcases List.mem_append.mp q with q | q
                · rcases List.mem_append.mp q with q | q
                  · exact q
                  · exact List.mem_append.mpr (.inr (List.mem_append.mpr (.inr q)))
                · exact List.mem_append.mpr (.inr (hf c q))
            have x7 : Post _ _ (match f (s2.put j y d g1).ρ with
              | .ok .nx ρ2 => forL (.one j) fg f (xs.drop (k + 1)) (fgt fg ρ2)
              | .ok .ct ρ2 => forL (.one j) fg f (xs.drop (k + 1)) (fgt fg ρ2)
              | .ok .bk ρ2 => .ok .nx (fgt fg ρ2)
              | .ok (.rt r) ρ2 => .ok (.rt r) ρ2
              | .exc c ks xs ρ2 => .exc c ks xs ρ2
              | .bad => .bad) := x7
            cases eb : f (s2.put j y d g1).ρ with
            | bad => rw [eb] at x7; exact x7.elim
            | exc c ks xs ρ =>
              rw [eb] at x7
              exact fun cls dd s5 w1 w2 w3 w4 => x7 cls dd s5 w1 w2 w3 (g5 w4)
            | ok fl ρ3 =>
              rw [eb] at x7
              cases fl with
              | nx =>
                intro s5 w1 w2 w3
                subst w1
                obtain ⟨s6, v1, v2, v3, v4, v5, v6, v7⟩ := more s5 w2 w3
                exact ⟨s6, g2, v2, v3, v4, v5, v6, v7, by rw [v1]; exact x7⟩
              | ct =>
                intro s5 w1 w2 w3
                subst w1
                obtain ⟨s6, v1, v2, v3, v4, v5, v6, v7⟩ := more s5 w2 w3
                exact ⟨s6, g2, v2, v3, v4, v5, v6, v7, by rw [v1]; exact x7⟩
              | bk =>
                intro s5 w1 w2 w3
                subst w1
                obtain ⟨s6, v1, v2, v3, v4, v5, v6, v7⟩ := more s5 w2 w3
                have z := x7 s6 v1 v4 v5.drop0
                rw [v2, v3] at z
                exact z
              | rt r => exact fun v s5 g w1 w2 w3 w4 => x7 v s5 g w1 w2 w3 (g5 w4)
          · rw [if_neg hj] at x7
            exact x7.elim
        · rw [← rs.len, List.drop_length] at x7
          have z := x7 s2 rfl x3 x4.drop0
          rw [x1, x2] at z
          exact z
@[simp] theorem post_forO {i j : Nat} {fg : List Nat} {body : M Flw} {Q : Flw → En → Prop} {X : Str → List Str → List D → En → Prop} {ρ : En} : Post Q X (dForO i j fg body ρ) = mlW (slotL i ρ) fun xs => Post Q X (forL (.one j) fg body xs (ρ.set i .un)) := by
  unfold dForO
  cases slotL i ρ <;> rfl
end
end Cs
namespace Cs
open PySem L2 Evl PyProof.Rows
/-! ## xs.reverse() -/
theorem Reps.snoc0 {T : Tx} {B H F : Hp} {d : D} {v : V} (r : Rep T B H F d v []) : ∀ {ds : List D} {vs : List V}, Reps T B H F ds vs [] → Reps T B H F (ds ++ [d]) (vs ++ [v]) []
  | _, _, .nil => .cons r .nil rfl
  | _, _, .cons a b e => by
    obtain ⟨rfl, rfl⟩ := List.append_eq_nil_iff.mp e.symm
    exact .cons a (Reps.snoc0 r b) rfl
theorem Reps.rev0 {T : Tx} {B H F : Hp} : ∀ {ds : List D} {vs : List V}, Reps T B H F ds vs [] → Reps T B H F ds.reverse vs.reverse []
  | _, _, .nil => .nil
  | _, _, .cons a b e => by
    obtain ⟨rfl, rfl⟩ := List.append_eq_nil_iff.mp e.symm
    rw [List.reverse_cons, List.reverse_cons]
    exact (Reps.rev0 b).snoc0 a
section
variable {X : Cx} {G : Gx} {W : WX} {i : Nat} {x : Str} {p apos cpos pos : Pos}
theorem rev_core {T : Tx} {i : Nat} {σ : L2.St} {H : Hp} {E : Ends} (h : tDS T W [i] (dRev i) E σ H) : tDrop (tBM0 T.K "list" rReverse (tVar i)) E σ H := by
  obtain ⟨B, s, e1, e2, r, hp⟩ := h
  subst e1 e2
  obtain ⟨p1, vs1, fp, xs, ys, q1, q2, q3, q4, q5, q6, q7⟩ := mutL_open r hp
  split at q6
  · rename_i hno
    cases q6
    have hfp := q4.noO hno
    subst hfp
    have rr : Reps T B (L2.upd s.H p1 (.lst vs1.reverse)) s.F xs.reverse vs1.reverse [] := q4.rev0.mono (Ex.refl _) (Ex.refl _) fun _ h => by cases h
    have hok := mut_ok (gt := []) (o := .lst vs1.reverse) (d' := .lst .ow xs.reverse) (g := [p1]) r q1 q2 (by rw [q5]; exact List.mem_cons_self) (.lstO upd_same rr rfl) (List.nodup_cons.mpr ⟨fun z => (by cases z), List.Pairwise.nil⟩)
      (fun x hx => .inl (by rw [q5, List.mem_singleton.mp hx]; exact List.mem_cons_self)) (fun _ h => (by cases h)) (fun _ h => (by cases h))
    have z := q7 _ rfl hok (mut_goes (tc := []) r Goes.refl (by rw [q5]; exact List.mem_cons_self) fun x hx => .inl (by rw [q5, List.mem_singleton.mp hx]; exact List.mem_cons_self))
    exact ⟨.ref p1, q2, .inl ⟨rfl, vs1, sq_of q3⟩, p1, vs1, rfl, rfl, q3, z⟩
  · cases q6
theorem gs_rev (hv : PE X (.Name x p) (tVar i)) (hbase : attributeBase (.Name x p) "reverse" X.env (eval (.Name x p) X.env) = eval (.Name x p) X.env := by rfl) (hline : (apos.endLine == cpos.line) = true := by rfl)
    (hsw : swapsWith (.Call (.Attribute (.Name x p) "reverse" apos) [] [] cpos) none pos.line X.env = pure false := by rfl) : GS X G W [i] (.Expr (.Call (.Attribute (.Name x p) "reverse" apos) [] [] cpos) pos) (dRev i) :=
  ps_mono (ps_expr (pe_bm0 PySem.F.plainAttrs_list PySem.F.slot_list_reverse PySem.F.type_list_reverse mt_reverse hv hbase hline) hsw) fun E σ H h => rev_core h
end
section
variable {Q : Flw → En → Prop} {X : Str → List Str → List D → En → Prop} {ρ : En} {i : Nat}
@[simp] theorem post_rev : Post Q X (dRev i ρ) = mlW (slotL i ρ) fun xs => allFs noOw xs = true ∧ Q .nx (ρ.set i (.dt (.lst .ow xs.reverse))) := by
  unfold dRev
  rw [post_mutL]
  congr 1
  funext xs
  by_cases h : allFs noOw xs = true <;> simp [h]
@[simp] theorem post_clr : Post Q X (dClr i ρ) = mlW (slotL i ρ) fun xs => Q .nx (ρ.set i (.dt (.lst .ow []))) := by
  unfold dClr
  rw [post_mutL]
  rfl
def extW (d : D) (K : Fl → List D → Prop) : Prop := match d with
  | .lst o ys => K o ys
  | _ => False
@[simp] theorem extW_l {o : Fl} {ys : List D} {K : Fl → List D → Prop} : extW (.lst o ys) K = K o ys := rfl
@[simp] theorem post_ext {f : M D} : Post Q X (dExt i f ρ) = mlW (slotL i ρ) fun _ => Post (fun d ρ1 => mlW (slotL i ρ1) fun xs => extW d fun o ys => ((o ≠ .ro ∧ allFs noOw ys = true) ∧ xs.length + ys.length ≤ lim) ∧ Q .nx (ρ1.set i (.dt (.lst .ow (xs ++ ys))))) X (f ρ) := by
  unfold dExt
  simp only [post_isL, post_bnd, post_mutL]
  congr 1
  funext _
  congr 1
  funext d ρ1
  congr 1
  funext xs
  cases d with
  | lst o ys =>
    dsimp only [extW_l]
    by_cases h : (o ≠ .ro ∧ allFs noOw ys = true) ∧ xs.length + ys.length ≤ lim
    · rw [if_pos h]; simp [h]
    · rw [if_neg h]; simp only [h]; simp
  | _ => rfl
end
end Cs
namespace Cs
open PySem L2 Evl PyProof.Rows
/-! ## is, is not of truth values -/
def pIsB : D → D → PR
  | .bl a, .bl b => .sc (.bl (decide (a = b)))
  | _, _ => .bad
def pIsNotB : D → D → PR
  | .bl a, .bl b => .sc (.bl (!decide (a = b)))
  | _, _ => .bad
theorem p2_isB {T : Tx} : P2 T L2.rIsB pIsB := by
  intro B H F d v g e u k eF eB r1 r2
  cases d <;> first | trivial | skip
  cases e <;> first | trivial | skip
  cases r1
  cases r2
  exact ⟨_, .bl _, fun Q q => ⟨_, _, rfl, rfl, q⟩⟩
theorem p2_isNotB {T : Tx} : P2 T L2.rNotB pIsNotB := by
  intro B H F d v g e u k eF eB r1 r2
  cases d <;> first | trivial | skip
  cases e <;> first | trivial | skip
  cases r1
  cases r2
  exact ⟨_, .bl _, fun Q q => ⟨_, _, rfl, rfl, q⟩⟩
section
variable {X : Cx} {G : Gx} {W : WX} {t1 t2 : List Nat} {a b : Expr} {pos : Pos} {o1 o2 : Opd}
theorem g_isB (h1 : GO X G W t1 a o1) (h2 : GO X G W t2 b o2) : GE X G W (t1 ++ t2) (.Compare a [.Is] [b] pos) (dOp2 pIsB o1 o2) := top_of p2_isB h1 h2 fun _ _ ha hb => pe_cmpR L2.op_isBl ha hb (nomark _)
theorem gt_isB (h1 : GO X G W t1 a o1) (h2 : GO X G W t2 b o2) : GT X G W (t1 ++ t2) (.Compare a [.Is] [b] pos) (dB (dOp2 pIsB o1 o2)) := topT_of p2_isB h1 h2 fun _ _ ha hb => pt_cmpR L2.op_isBl ha hb (nomark _)
theorem g_isNotB (h1 : GO X G W t1 a o1) (h2 : GO X G W t2 b o2) : GE X G W (t1 ++ t2) (.Compare a [.IsNot] [b] pos) (dOp2 pIsNotB o1 o2) := top_of p2_isNotB h1 h2 fun _ _ ha hb => pe_cmpR L2.op_notBl ha hb (nomark _)
theorem gt_isNotB (h1 : GO X G W t1 a o1) (h2 : GO X G W t2 b o2) : GT X G W (t1 ++ t2) (.Compare a [.IsNot] [b] pos) (dB (dOp2 pIsNotB o1 o2)) := topT_of p2_isNotB h1 h2 fun _ _ ha hb => pt_cmpR L2.op_notBl ha hb (nomark _)
end
@[simp] theorem pIsB_b {a b : Bool} : pIsB (.bl a) (.bl b) = .sc (.bl (decide (a = b))) := rfl
@[simp] theorem pIsNotB_b {a b : Bool} : pIsNotB (.bl a) (.bl b) = .sc (.bl (!decide (a = b))) := rfl
end Cs
namespace Cs
open PySem L2 Evl PyProof.Rows
/-! ## arguments that are left out -/
abbrev cns (dds : List D) : List Arg := dds.map fun d => (.v (ret d), [])
/-- the written defaults -/
def DefOk (T : Tx) (dds : List D) (dvs : List V) : Prop := ∀ B H F, Reps T B H F dds dvs []
section
variable {T : Tx} {W : WX}
theorem rdA_mono' {r : Arg} {σ : L2.St} {H : Hp} {Q Q' : VK} (h : rdA T W r σ H Q) (i : ∀ v H, Q v H → Q' v H) : rdA T W r σ H Q' := rdA_mono h i
theorem tRs_cns : ∀ {dds : List D} {dvs : List V} {σ : L2.St} {H : Hp} {Q : List V → Hp → Prop}, DefOk T dds dvs → tRs T W (cns dds) σ H Q → Q dvs H
  | [], dvs, σ, H, Q, hd, h => by
    cases hd P0 P0 P0
    exact h
  | d :: dds, dvs, σ, H, Q, hd, h => by
    obtain ⟨v, vs, rfl⟩ : ∃ v vs, dvs = v :: vs := by
      cases hd P0 P0 P0 with
      | cons r rs e => exact ⟨_, _, rfl⟩
    have h : rdA T W (.v (ret d), []) σ H fun x H1 => tRs T W (cns dds) σ H1 fun vs H2 => Q (x :: vs) H2 := h
    obtain ⟨B, s, e1, e2, r, hp⟩ := h
    have hr : ∀ B H F, Rep T B H F d v [] ∧ Reps T B H F dds vs [] := fun B H F => by
      cases hd B H F with
      | cons r rs e =>
        obtain ⟨rfl, rfl⟩ := List.append_eq_nil_iff.mp e.symm
        exact ⟨r, rs⟩
    have z := hp v s [] rfl rfl r (Tmp.flat (hr B s.H s.F).1) Goes.refl
    rw [e2] at z
    exact tRs_cns (Q := fun vs H2 => Q (v :: vs) H2) (fun B H F => (hr B H F).2) z
theorem tRs_app {dds : List D} {dvs : List V} (hd : DefOk T dds dvs) : ∀ {ars : List Arg} {σ : L2.St} {H : Hp} {Q : List V → Hp → Prop}, tRs T W (ars ++ cns dds) σ H Q → tRs T W ars σ H fun vs H1 => Q (vs ++ dvs) H1
  | [], σ, H, Q, h => tRs_cns hd h
  | r :: ars, σ, H, Q, h => by
    have h : rdA T W r σ H fun x H1 => tRs T W (ars ++ cns dds) σ H1 fun vs H2 => Q (x :: vs) H2 := h
    exact rdA_mono h fun x H1 q => tRs_app hd q
end
/-- the last parameters may be left out: their data -/
def DefsAre (K : PySem.W.Frag) (fd : FuncData) (ps : List Str) (dds : List D) : Prop := ∃ dvs ds, Vals dvs ds ∧ Binds K fd ps ds ∧ ∀ C P X, DefOk ⟨K, C, P, X⟩ dds dvs
theorem rep_tup0 {K : PySem.W.Frag} {C : Str → Option Addr} {P : Hp} {X : Option Addr} {a : Addr} {oc : Value} {sl : Array (Option Value)} {n : Nat} (h : K.lookup a = some ⟨.type "tuple", none, .seq #[] n, sl⟩) (B H F : Hp) : Rep ⟨K, C, P, X⟩ B H F (.tup []) (.ref a) [] :=
  .tup (.inr ⟨_, #[], n, h, rfl, rfl, Nat.zero_le _, .nil, rfl⟩) .nil
section
variable {X : Cx} {G : Gx} {W : WX} {a e : Expr} {es : List Expr} {pos p apos : Pos}
/-- C(..) with defaults -/
theorem pe_makeZD {x : Str} {C f : Addr} {k : Nat} {fd : FuncData} {ps : List Str} {sp : Sp} {E : L2.St → XK} {t : TA} {ds : List Value} {dvs : List V} (M : Mk X.K C f) (F : FnOk X.prog X.w X.K X.mg X.base (L2.CX X.prog X.w) k f fd ps sp) (hr : Room (k + 1) X.A) (hb : Binds X.K fd ps ds) (hv : Vals dvs ds)
    (hx : ∀ σ, PassesAt (L2.CX X.prog X.w) X σ (E σ)) (hn : ∀ (pins : List (Addr × Obj)) (s : Shared) (σ : L2.St) (H : Hp) (Q : Value → Shared → Prop), Inv X pins σ H s → (∀ s', Inv X pins σ H s' → Q (.ref C) s') → wpAny (model X.prog X.w) X.A (eval (.Name x p) X.env) Q X.xe s) (ha : PA X (a :: es) t) (he : starEach (a :: es) X.env = (false, eval a X.env) :: starEach es X.env) (hpl : (backTo pos (starEach es X.env)).any (·.1) = false) :
    PE X (.Call (.Name x p) (a :: es) [] pos) (fun σ H Q => t σ H fun vs H1 => ∀ y dx, H1 y = none → H1 dx = none → dx ≠ y → sp (.ref y :: (vs ++ dvs)) (upd (upd H1 dx (.own y)) y (.ins C dx [])) (fun v H2 => v = .non ∧ Q (.ref y) H2) (E σ)) := by
  constructor
  intro pins s σ H Q I h
  refine wpAny_Call_Name_kw (hn pins s σ H _ I fun s0 I0 => ?_)
  refine PySem.W.callWith_K (h₀ := X.base) I0.ok.mod.kin M.kp (thn (ha.run pos pins s0 σ H _ I0 h) ?_) he hpl
  rintro us s1 ⟨vs, H1, I1, r, q⟩
  refine ⟨I1.kIn, ?_⟩
  have hq := q (s1.heap.objs.size + 1) s1.heap.objs.size (I1.hok.fresh (Nat.le_succ _)) (I1.hok.fresh (Nat.le_refl _)) (Nat.ne_of_lt (Nat.lt_succ_self _))
  have I2 := Inv.made (C := C) I1
  have r2 : Vals (V.ref (s1.heap.objs.size + 1) :: (vs ++ dvs)) (Value.ref (s1.heap.objs.size + 1) :: (us ++ ds)) := .cons rfl (r.append hv)
  have hl : (Value.ref (s1.heap.objs.size + 1) :: us ++ ds).length = ps.length := by
    have z := F.len _ _ _ _ hq
    have w := r2.length
    rw [z] at w
    exact w.symm
  have b := hb _ (Value.ref (s1.heap.objs.size + 1) :: us) I2.kIn hl
  refine wpAny_call (make_map (f := f) I1.kIn M.makes M.init (beq_iff_eq.mp M.fn) (codeAny_mono (F.run _ X.stack _ _ ⟨Value.ref (s1.heap.objs.size + 1) :: us, []⟩ (Value.ref (s1.heap.objs.size + 1) :: us ++ ds) (V.ref (s1.heap.objs.size + 1) :: (vs ++ dvs)) _ (E σ) (hr.make C us []) (I2.env0.make C us []) b r2 hq) ?_))
  intro res s' hq'
  cases res with
  | error er => exact hx σ pins _ _ er s' I2 hq'
  | ok fl =>
    cases fl with
    | ret u =>
      obtain ⟨v, H', I3, rv, ev, q3⟩ := I2.after hq'
      subst ev
      exact ⟨rv, V.ref (s1.heap.objs.size + 1), H', I3, rfl, q3⟩
    | next => exact hq'.elim
    | brk => exact hq'.elim
    | cont => exact hq'.elim
theorem make_core {T : Tx} {c : Str} {C : Addr} {mn : List D → Res} {ars : List Arg} {σ : L2.St} {H : Hp} {Q : VK} (hC : T.C c = some C) (hn : (ios ars).Nodup) (hl : ∀ i ∈ lns ars, i ∉ ios ars) (h : tD T W (tcs ars ++ ios ars) (dMake c mn ars) σ H Q) :
    tRs T W ars σ H fun vs H1 => ∀ y dx, H1 y = none → H1 dx = none → dx ≠ y → spM T mn (.ref y :: vs) (upd (upd H1 dx (.own y)) y (.ins C dx [])) (fun v H2 => v = .non ∧ Q (.ref y) H2) (WE W σ) := by
  obtain ⟨B, s, e1, e2, r, hp⟩ := h
  subst e1 e2
  exact args_core (s0 := s) (u := []) (g0 := []) Goes.refl rfl (fun _ h => by cases h) (fun j q => memL q) r hp fun ods vs s1 g r1 e3 it a h x dx hx hdx hne => make_fin hC hn hl r1 e3 it a h hx hdx hne
theorem g_makeD {c : Str} {C f : Addr} {k : Nat} {fd : FuncData} {ps : List Str} {mn : List D → Res} {ars : List Arg} {dds : List D} (tk : Takes X W) (hC : G.C c = some C) (M : Mk X.K C f) (F : FnOk X.prog X.w X.K X.mg X.base (L2.CX X.prog X.w) k f fd ps (spM (tx X G) mn)) (hr : Room (k + 1) X.A) (hg : Gl X c) (hm : X.mg c = some (.ref C)) (hd : DefsAre X.K fd ps dds)
    (ha : GR X G W (a :: es) ars) (hn : (ios (ars ++ cns dds)).Nodup := by decide) (hl : ∀ i ∈ lns (ars ++ cns dds), i ∉ ios (ars ++ cns dds) := by decide) (hdb : (c == ("__debug__" : Str)) = false := by decide) (he : starEach (a :: es) X.env = (false, eval a X.env) :: starEach es X.env := by rfl) (hpl : (backTo pos (starEach es X.env)).any (·.1) = false := by rfl) :
    GE X G W (tcs (ars ++ cns dds) ++ ios (ars ++ cns dds)) (.Call (.Name c p) (a :: es) [] pos) (dMake c mn (ars ++ cns dds)) := by
  obtain ⟨dvs, ds, hv, hb, hd⟩ := hd
  exact pe_mono (pe_makeZD M F hr hb hv (fun σ => passAt tk σ) (fun pins s σ H Q I h => ld_glob I hg hm (h s I) hdb) ha he hpl) fun σ H Q h => tRs_app (hd _ _ _) (make_core (T := tx X G) hC hn hl h)
/-- x(..), x a local that holds a class -/
def dMakeL (i : Nat) (c : Str) (m : List D → Res) (ars : List Arg) : M D := fun ρ => match slot i ρ with
  | some (.cls c') => if c' = c then dMake c m ars ρ else .bad
  | _ => .bad
theorem pe_held {x : Str} {i : Nat} {te : TE} (hv : PE X (.Name x p) (tVar i)) {pins : List (Addr × Obj)} {s : Shared} {σ : L2.St} {H : Hp} {Q : Value → Shared → Prop} {C : Addr} (I : Inv X pins σ H s) (hs : σ[i]? = some (some (.ref C))) (h : ∀ s', Inv X pins σ H s' → Q (.ref C) s') : wpAny (model X.prog X.w) X.A (eval (.Name x p) X.env) Q X.xe s :=
  thn (hv.run pins s σ H (fun v H1 => v = .ref C ∧ H1 = H) I ⟨_, hs, rfl, rfl⟩) fun u s1 ⟨v, H1, I1, r1, q1, q2⟩ => by
    subst q1 q2
    cases r1
    exact h s1 I1
theorem g_makeL {x c : Str} {C f : Addr} {i k : Nat} {fd : FuncData} {ps : List Str} {mn : List D → Res} {ars : List Arg} (tk : Takes X W) (hC : G.C c = some C) (M : Mk X.K C f) (F : FnOk X.prog X.w X.K X.mg X.base (L2.CX X.prog X.w) k f fd ps (spM (tx X G) mn)) (hr : Room (k + 1) X.A) (hv : PE X (.Name x p) (tVar i)) (hb : Binds X.K fd ps [])
    (ha : GR X G W (a :: es) ars) (hn : (ios ars).Nodup := by decide) (hl : ∀ i ∈ lns ars, i ∉ ios ars := by decide) (he : starEach (a :: es) X.env = (false, eval a X.env) :: starEach es X.env := by rfl) (hpl : (backTo pos (starEach es X.env)).any (·.1) = false := by rfl) :
    GE X G W (tcs ars ++ ios ars) (.Call (.Name x p) (a :: es) [] pos) (dMakeL i c mn ars) := by
  refine ⟨fun pins s0 σ H Q I ⟨B, s, e1, e2, rl, hp⟩ => ?_⟩
  unfold dMakeL at hp
  cases es0 : slot i s.ρ with
  | none => rw [es0] at hp; exact hp.elim
  | some d =>
    rw [es0] at hp
    cases d with
    | cls c' =>
      dsimp only at hp
      split at hp
      · rename_i hcc
        subst hcc
        obtain ⟨v, ev, rp⟩ := rl.sl i _ (slot_some es0)
        have ev' : σ[i]? = some (some (.ref C)) := by
          generalize s.φ i = gg at rp
          cases rp with
          | cls hh =>
            have hh : G.C c' = some _ := hh
            rw [hC] at hh
            cases hh
            rw [← e1]
            exact ev
        have z := make_core (T := tx X G) hC hn hl (W := W) (Q := Q) (ars := ars) (mn := mn) (σ := σ) (H := H) ⟨B, s, e1, e2, rl, hp⟩
        refine wpAny_Call_Name_kw (pe_held (te := tVar i) hv I ev' fun s1 I1 => ?_)
        refine PySem.W.callWith_K (h₀ := X.base) I1.ok.mod.kin M.kp (thn (ha.run pos pins s1 σ H _ I1 z) ?_) he hpl
        rintro us s2 ⟨vs, H1, I2, r, q⟩
        refine ⟨I2.kIn, ?_⟩
        have hq := q (s2.heap.objs.size + 1) s2.heap.objs.size (I2.hok.fresh (Nat.le_succ _)) (I2.hok.fresh (Nat.le_refl _)) (Nat.ne_of_lt (Nat.lt_succ_self _))
        have I3 := Inv.made (C := C) I2
        have hl : (Value.ref (s2.heap.objs.size + 1) :: us).length = ps.length := by
          have z := F.len _ _ _ _ hq
          rw [List.length_cons] at z ⊢
          rw [← r.length]
          exact z
        have b := hb _ (Value.ref (s2.heap.objs.size + 1) :: us) I3.kIn (by rw [List.append_nil]; exact hl)
        rw [List.append_nil] at b
        refine wpAny_call (make_map (f := f) I2.kIn M.makes M.init (beq_iff_eq.mp M.fn) (codeAny_mono (F.run _ X.stack _ _ ⟨Value.ref (s2.heap.objs.size + 1) :: us, []⟩ (Value.ref (s2.heap.objs.size + 1) :: us) (V.ref (s2.heap.objs.size + 1) :: vs) _ (WE W σ) (hr.make C us []) (I3.env0.make C us []) b (.cons rfl r) hq) ?_))
        intro res s' hq'
        cases res with
        | error er => exact passAt tk σ pins _ _ er s' I3 hq'
        | ok fl =>
          cases fl with
          | ret u =>
            obtain ⟨v, H', I4, rv, ev, q3⟩ := I3.after hq'
            subst ev
            exact ⟨rv, V.ref (s2.heap.objs.size + 1), H', I4, rfl, q3⟩
          | next => exact hq'.elim
          | brk => exact hq'.elim
          | cont => exact hq'.elim
      · exact hp.elim
    | _ => exact hp.elim
theorem post_makeL {i : Nat} {c : Str} {m : List D → Res} {ars : List Arg} {Q : D → En → Prop} {X : XK0} {ρ : En} (h : slot i ρ = some (.cls c)) : Post Q X (dMakeL i c m ars ρ) = Post Q X (dMake c m ars ρ) := by
  unfold dMakeL
  rw [h]
  dsimp only
  rw [if_pos rfl]
theorem run_fnSC {CX : CXT} {k : Nat} {f : Addr} {fd : FuncData} {ps : List Str} {sp : Sp} {E : XK} {pins : List (Addr × Obj)} {σ : L2.St} {H : Hp} {s : Shared} {Q : VK} {us : List Value} {vs : List V} (F : FnOk X.prog X.w X.K X.mg X.base CX k f fd ps sp) (hr : Room k X.A) (hb : Binds X.K fd ps []) (hx : PassesAt CX X σ E)
    (I : Inv X pins σ H s) (r : Vals vs us) (h : sp vs H Q E) : codeAny (model X.prog X.w) X.A (.call (.ref f) ⟨us, []⟩) (fun r s' => match r with | .ok (.ret v) => EP X pins σ Q v s' | .ok _ => False | .error e => X.xe e s') s := by
  have hl : us.length = ps.length := by rw [← r.length]; exact F.len _ _ _ _ h
  have b := hb s us I.kIn (by rw [List.append_nil]; exact hl)
  rw [List.append_nil] at b
  refine codeAny_mono (F.run X.A X.stack s H ⟨us, []⟩ us vs Q E hr I.env0 b r h) fun r s' hq => ?_
  cases r with
  | error e => exact hx pins H s e s' I hq
  | ok fl =>
    cases fl with
    | ret u => exact I.after hq
    | next => exact False.elim hq
    | brk => exact False.elim hq
    | cont => exact False.elim hq
/-- C.m(..), m a classmethod -/
theorem run_cmS {CX : CXT} {k : Nat} {q C g : Addr} {fd : FuncData} {ps : List Str} {sp : Sp} {E : XK} {Q : VK} {us : List Value} {vs : List V} {pins : List (Addr × Obj)} {σ : L2.St} {H : Hp} {s : Shared} (F : FnOk X.prog X.w X.K X.mg X.base CX k g fd ps sp) (hr : Room k X.A) (hb : Binds X.K fd ps []) (hx : PassesAt CX X σ E) (I : Inv X ((q, PySem.W.methodObj (.ref g) (.ref C)) :: pins) σ H s)
    (r : Vals vs us) (h : sp (.ref C :: vs) H Q E) : wpAny (model X.prog X.w) X.A (call (.ref q) us) (EP X pins σ Q) X.xe s := by
  have z : wpAny (model X.prog X.w) X.A (call (.ref q) us) (EP X ((q, PySem.W.methodObj (.ref g) (.ref C)) :: pins) σ Q) X.xe s :=
    wpAny_call (PySem.W.method_call (ClX.pin_at I) (run_fnSC (us := .ref C :: us) (vs := .ref C :: vs) F hr hb hx I (.cons rfl r) h))
  exact thn z fun _ _ y => ClX.unpinE y
theorem pe_cmethS {CX : CXT} {k : Nat} {C pp g : Addr} {fd : FuncData} {ps : List Str} {mc : Value} {sp : Sp} {E : L2.St → XK} {o : Expr} {m : Str} {ta : TE} {t : TA} {pl : Sem Bool} (he : PE X o ta) (r : ClX.CRead X.K C mc) (c : ClX.CMet X.K C mc m pp g) (F : FnOk X.prog X.w X.K X.mg X.base CX k g fd ps sp) (hr : Room k X.A) (hb : Binds X.K fd ps []) (hx : ∀ σ, PassesAt CX X σ (E σ)) (ha : PA X (a :: es) t)
    (hst : starEach (a :: es) X.env = (false, eval a X.env) :: starEach es X.env) (hpl : (backTo pos (starEach es X.env)).any (·.1) = false)
    (ht : eval (.Call (.Attribute o m apos) (a :: es) [] pos) X.env = (do
      let ov ← eval o X.env
      standAt apos.atName
      let (f, first) ← holding [ov] (getMethod ov m pl)
      callWith pos f first (backTo pos (starEach (a :: es) X.env)) (backToKw pos (keywordEach [] X.env)))) :
    PE X (.Call (.Attribute o m apos) (a :: es) [] pos) (fun σ H Q => ta σ H fun x H1 => x = .ref C ∧ t σ H1 fun vs H2 => sp (.ref C :: vs) H2 Q (E σ)) := by
  refine ⟨fun pins s σ H Q I h => ?_⟩
  refine PySem.W.methodCall_KW (pl := pl) (thn (he.run pins s σ H _ I h) fun u s1 ⟨x, H1, I1, rx, ex, q⟩ => ?_) ht
  subst ex
  obtain rfl : u = Value.ref C := rx
  refine ClX.getmethcm_ok I1 r c fun s2 I2 => ?_
  refine ClX.callwith_cm I2 (ClX.base_none I1 (Nat.le_refl _)) c.fi (thn (ha.run pos _ s2 σ H1 _ I2 q) fun us s3 ⟨vs, H2, I3, rv, q2⟩ => ⟨⟨ClX.pin_at I3, I3.kIn⟩, ?_⟩) hst hpl
  exact run_cmS F hr hb (hx σ) I3 rv q2
theorem pe_globC {x : Str} {C : Addr} (hg : Gl X x) (hm : X.mg x = some (.ref C)) (hdb : (x == ("__debug__" : Str)) = false := by decide) : PE X (.Name x p) (tC (.ref C)) := ⟨fun pins s σ H Q I h => ld_glob I hg hm ⟨.ref C, H, I, rfl, h⟩ hdb⟩
theorem g_cmeth {c m : Str} {C pp g : Addr} {k : Nat} {fd : FuncData} {ps : List Str} {mc : Value} {mn : List D → Res} {ars : List Arg} {pl : Sem Bool} (tk : Takes X W) (hC : G.C c = some C) (r : ClX.CRead X.K C mc) (cm : ClX.CMet X.K C mc m pp g) (F : FnOk X.prog X.w X.K X.mg X.base (L2.CX X.prog X.w) k g fd ps (spM (tx X G) mn)) (hr : Room k X.A) (hb : Binds X.K fd ps []) (hg : Gl X c) (hm : X.mg c = some (.ref C))
    (ha : GR X G W (a :: es) ars) (hn : (ios ((.v (ret (.cls c)), []) :: ars)).Nodup := by decide) (hl : ∀ i ∈ lns ((.v (ret (.cls c)), []) :: ars), i ∉ ios ((.v (ret (.cls c)), []) :: ars) := by decide) (hdb : (c == ("__debug__" : Str)) = false := by decide)
    (hst : starEach (a :: es) X.env = (false, eval a X.env) :: starEach es X.env := by rfl) (hpl : (backTo pos (starEach es X.env)).any (·.1) = false := by rfl)
    (ht : eval (.Call (.Attribute (.Name c p) m apos) (a :: es) [] pos) X.env = (do
      let ov ← eval (.Name c p) X.env
      standAt apos.atName
      let (f, first) ← holding [ov] (getMethod ov m pl)
      callWith pos f first (backTo pos (starEach (a :: es) X.env)) (backToKw pos (keywordEach [] X.env))) := by rfl) :
    GE X G W (tcs ((.v (ret (.cls c)), []) :: ars) ++ ios ((.v (ret (.cls c)), []) :: ars)) (.Call (.Attribute (.Name c p) m apos) (a :: es) [] pos) (dCall mn ((.v (ret (.cls c)), []) :: ars)) :=
  pe_mono (pe_cmethS (pe_globC hg hm hdb) r cm F hr hb (fun σ => passAt tk σ) ha hst hpl ht) fun σ H Q h => by
    have z : rdA (tx X G) W (.v (ret (.cls c)), []) σ H fun x H1 => tRs (tx X G) W ars σ H1 fun vs H2 => spM (tx X G) mn (x :: vs) H2 Q (WE W σ) := call_core hn hl h
    obtain ⟨B, s, e1, e2, rl, hp⟩ := z
    have w := hp (.ref C) s [] rfl rfl rl (Tmp.flat (.cls hC)) Goes.refl
    rw [e2] at w
    exact ⟨rfl, w⟩
/-- C.f, a constant of the class -/
theorem g_cvalI {c f : Str} {C : Addr} {mc : Value} {i : Int} {u : Value} (r : ClX.CRead X.K C mc) (k : ClX.CVal X.K C mc f (.int i) u) (hg : Gl X c) (hm : X.mg c = some (.ref C)) (hdb : (c == ("__debug__" : Str)) = false := by decide) (hb : attributeBase (.Name c p) f X.env (eval (.Name c p) X.env) = eval (.Name c p) X.env := by rfl) :
    GE X G W [] (.Attribute (.Name c p) f pos) (ret (.int i)) :=
  pe_mono (ClX.pe_cval (pe_globC hg hm hdb) hb) fun σ H Q ⟨B, s, e1, e2, rl, hp⟩ => by
    subst e1 e2
    exact ⟨C, mc, .int i, u, rfl, r, k, hp _ s [] rfl rfl rl (Tmp.flat (.int i)) Goes.refl⟩
theorem g_cvalS {c f : Str} {C : Addr} {mc : Value} {i : Str} {u : Value} (hs : PyData.strOk i = true) (r : ClX.CRead X.K C mc) (k : ClX.CVal X.K C mc f (.str i) u) (hg : Gl X c) (hm : X.mg c = some (.ref C)) (hdb : (c == ("__debug__" : Str)) = false := by decide) (hb : attributeBase (.Name c p) f X.env (eval (.Name c p) X.env) = eval (.Name c p) X.env := by rfl) :
    GE X G W [] (.Attribute (.Name c p) f pos) (ret (.str i)) :=
  pe_mono (ClX.pe_cval (pe_globC hg hm hdb) hb) fun σ H Q ⟨B, s, e1, e2, rl, hp⟩ => by
    subst e1 e2
    exact ⟨C, mc, .str i, u, rfl, r, k, hp _ s [] rfl rfl rl (Tmp.flat (.str i hs)) Goes.refl⟩
end
end Cs
namespace Cs
open PySem L2 Evl PyProof.Rows
/-! ## def f(a, .., *v) -/
section
variable {CX : CXT} {P : Program} {w : World} {K : PySem.W.Frag} {mg : Str → Option Value} {base : Heap} {k : Nat} {f : Addr} {name qual : Str} {params : Arguments} {body : List Stmt} {scope : Scope} {dV kV doc pm cdv ct oc : Value} {an od : Option Addr}
  {osl : Array (Option Value)} {N ps : List Str} {sp : Sp}
/-- what is left over is a new tuple, its object told -/
theorem fn_starZ {pv : Str} (lk : K.lookup f = some ⟨oc, od, .func (PySem.W.fnOf name qual params body scope dV kV doc pm an cdv ct), osl⟩) (hcd : PySem.W.codeIn K cdv qual = true) (S : FnScope N (ps ++ [pv]) scope) (hCX : StX.CXUp CX)
    (hb : ∀ us rest : List Value, us.length = ps.length → bindArgs (PySem.W.fnOf name qual params body scope dV kV doc pm an cdv ct) ⟨us ++ rest, []⟩ = (newTuple rest >>= fun t => pure (ps.zip us ++ [(pv, t)])))
    (hbody : ∀ (A : Around) (outer : List Env) (s : Shared) (H : Hp) (vs : List V) (Q : VK) (E : XK), Room k (A.deeper (envOfC qual scope s.heap.objs.size f cdv)) → sp vs H Q E →
      ∃ t, PSs (cxOf CX P w K mg base N qual scope f cdv A outer s H E) body t ∧ t { nx := fun _ H' => Q .non H', rt := Q } (start N vs) H) :
    FnR P w K mg base CX (k + 1) f (fun vs H Q E => ∃ ws rest, vs = ws ++ rest ∧ ws.length = ps.length ∧ rest.length ≤ sizeLine ∧ ∀ p o, H p = Option.none → o.dict = Option.none → sp (ws ++ [V.ref p]) (upd H p (.frz o (.tup rest))) Q E) := by
  intro A outer s H us vs Q E hr e0 r hsp
  obtain ⟨ws, rest, ev, hl, hz, hq⟩ := hsp
  subst ev
  obtain ⟨u1, u2, eu, r1, r2⟩ := StX.vals_split r
  subst eu
  have hn : H s.heap.objs.size = Option.none := e0.hok.fresh (Nat.le_refl _)
  have hl1 : u1.length = ps.length := by rw [← r1.length]; exact hl
  have hl2 : u2.length ≤ sizeLine := by rw [← r2.length]; exact hz
  refine StX.run_bnd lk hcd S hr e0 (G := fun xs H2 => ∃ p, H p = Option.none ∧ xs = ws ++ [V.ref p] ∧ H2 = upd H p (.frz ({ cls := .type "tuple", data := .seq u2.toArray } : Obj) (.tup rest))) (fun A' Ex Q' h => ?_) fun s2 H2 xs ⟨p, hp, ex, eH⟩ hr' => ?_
  · rw [hb u1 u2 hl1]
    refine wpAny_bind (wpAny_newTuple (wpAny_pure ?_) hl2)
    have ho : (s.heap.push ({ cls := .type "tuple", data := .seq u2.toArray } : Obj)).get? s.heap.objs.size = some ({ cls := .type "tuple", data := .seq u2.toArray } : Obj) := Heap.get?_push_size _ rfl
    have new : ObjOk P w (upd H s.heap.objs.size (.frz ({ cls := .type "tuple", data := .seq u2.toArray } : Obj) (.tup rest))) (s.heap.push ({ cls := .type "tuple", data := .seq u2.toArray } : Obj)) s.heap.objs.size (.frz ({ cls := .type "tuple", data := .seq u2.toArray } : Obj) (.tup rest)) := ⟨ho, ⟨hz, u2, r2, ⟨_, ho, rfl, _, rfl⟩⟩⟩
    have un := StX.un_laid (fs := frs outer) (s := s) (o := ({ cls := .type "tuple", data := .seq u2.toArray } : Obj)) (u := .frz ({ cls := .type "tuple", data := .seq u2.toArray } : Obj) (.tup rest)) hn
    have z := h _ _ (ws ++ [V.ref s.heap.objs.size]) (u1 ++ [Value.ref s.heap.objs.size]) (StX.env0_laid e0 new) un rfl (fun e s' => hCX outer s H _ _ E e s' un (fun b o q => Heap.get?_push_of_some _ q) rfl) (r1.append (.cons rfl .nil))
      (by rw [List.length_append, List.length_append, hl] <;> rfl) ⟨_, hn, rfl, rfl⟩
    rw [List.zip_append hl1.symm] at z
    exact z
  · subst ex eH
    exact hbody A outer s2 _ _ Q E hr' (hq p _ hp rfl)
end
end Cs
namespace Cs
open PySem L2 Evl PyProof.Rows
/-- the meaning of a def with a star parameter behind n others -/
def runS (f : M Flw) (pr : List Nat) (N n : Nat) (ds : List D) : Res :=
  if n ≤ ds.length ∧ allFs noOw (ds.drop n) = true ∧ (ds.drop n).length ≤ lim then
    (match run f pr N (n + 1) (ds.take n ++ [D.tup (ds.drop n)]) with
    | .ok d os => .ok d (os.take n ++ List.replicate (ds.length - n) Sl.un)
    | .exc c ks xs os => .exc c ks xs (os.take n ++ List.replicate (ds.length - n) Sl.un)
    | .bad => .bad)
  else .bad
section
variable {T : Tx} {B : Hp}
theorem reps_get {H F : Hp} : ∀ {ds : List D} {vs : List V}, ds.length = vs.length → (∀ (i : Nat) d v, ds[i]? = some d → vs[i]? = some v → Rep T B H F d v []) → Reps T B H F ds vs []
  | [], [], _, _ => .nil
  | [], _ :: _, h, _ => by cases h
  | _ :: _, [], h, _ => by cases h
  | d :: ds, v :: vs, h, k => .cons (k 0 d v rfl rfl) (reps_get (Nat.succ.inj h) fun i d v h1 h2 => k (i + 1) d v h1 h2) rfl
theorem allFs_get {p : Fl → Bool} : ∀ {ds : List D} {i : Nat} {d : D}, allFs p ds = true → ds[i]? = some d → allF p d = true
  | [], _, _, _, h => by simp at h
  | x :: ds, 0, d, h, e => by
    cases Option.some.inj e
    exact (allFs_cons h).1
  | x :: ds, i + 1, d, h, e => allFs_get (allFs_cons h).2 e
theorem star_sp {den : M Flw} {pr : List Nat} {N n : Nat} {vs : List V} {H : Hp} {Q : VK} {E : XK} (h : spM T (runS den pr N n) vs H Q E) :
    ∃ ws rest, vs = ws ++ rest ∧ ws.length = n ∧ rest.length ≤ sizeLine ∧ ∀ p o, H p = none → o.dict = none → spM T (run den pr N (n + 1)) (ws ++ [V.ref p]) (upd H p (.frz o (.tup rest))) Q E := by
  obtain ⟨B, s, ds, e1, e2, e3, r, h⟩ := h
  have hl : ds.length = vs.length := by
    have := r.len
    rw [e1, e3, List.length_map, List.length_map] at this
    exact this
  unfold runS at h
  by_cases hc : n ≤ ds.length ∧ allFs noOw (ds.drop n) = true ∧ (ds.drop n).length ≤ lim
  · rw [if_pos hc] at h
    obtain ⟨c1, c2, c3⟩ := hc
    have hdl : (ds.drop n).length = (vs.drop n).length := by rw [List.length_drop, List.length_drop, hl]
    refine ⟨vs.take n, vs.drop n, (List.take_append_drop n vs).symm, by rw [List.length_take]; omega, by rw [← hdl]; exact lim_le c3, fun p o hp ho => ?_⟩
    rw [← e2] at hp ⊢
    have slot_at : ∀ (i : Nat) d, ds[i]? = some d → ∃ v, vs[i]? = some v ∧ Rep T B s.H s.F d v (s.φ i) := fun i d q => by
      obtain ⟨v, ev, rp⟩ := r.sl i d (by rw [e3, List.getElem?_map, q]; rfl)
      rw [e1, List.getElem?_map] at ev
      cases ee : vs[i]? with
      | none => rw [ee] at ev; cases ev
      | some v' =>
        rw [ee] at ev
        cases ev
        exact ⟨v, rfl, rp⟩
    have hF : s.F p = none := r.freeF hp
    have rrest : Reps T B (upd s.H p (.frz o (.tup (vs.drop n)))) (upd s.F p (.frz o (.tup (vs.drop n)))) (ds.drop n) (vs.drop n) [] := reps_get hdl fun i d v h1 h2 => by
      have h1' : ds[n + i]? = some d := by rw [List.getElem?_drop] at h1; exact h1
      have h2' : vs[n + i]? = some v := by rw [List.getElem?_drop] at h2; exact h2
      obtain ⟨v', ev, rp⟩ := slot_at _ d h1'
      rw [h2'] at ev
      cases ev
      have z := rp.noO (allFs_get c2 h1)
      rw [z] at rp
      exact rp.mono (Ex.refl B) (Ex.new hF) fun _ q => by cases q
    have rn := r.newF (p := p) (o := .frz o (.tup (vs.drop n))) hp
    have st := Step.newF (O1 := O s.φ) (p := p) (o := .frz o (.tup (vs.drop n))) hp r.exF
    let s1 : S5 := { σ := (vs.take n ++ [V.ref p]).map some, H := upd s.H p (.frz o (.tup (vs.drop n))), F := upd s.F p (.frz o (.tup (vs.drop n))), ρ := (ds.take n ++ [D.tup (ds.drop n)]).map Sl.dt, φ := fun i => if i < n then s.φ i else [] }
    have lt : (ds.take n).length = n := by rw [List.length_take]; omega
    have ltv : (vs.take n).length = n := by rw [List.length_take]; omega
    have sub : ∀ a, O s1.φ a → O s.φ a := fun a q => by
      obtain ⟨i, q⟩ := q
      dsimp only [s1] at q
      split at q
      · exact ⟨i, q⟩
      · cases q
    have r1 : Okk T B s1 := by
      refine ⟨by show ((ds.take n ++ [D.tup (ds.drop n)]).map Sl.dt).length = ((vs.take n ++ [V.ref p]).map some).length; rw [List.length_map, List.length_map, List.length_append, List.length_append, lt, ltv]; rfl, rn.exB, rn.exF, rn.exP, fun i d q => ?_, fun i q => ?_, fun i q => ?_, fun i => ?_, fun i j a hn h1 h2 => ?_, fun i a q => ?_⟩
      · have q : ((ds.take n ++ [D.tup (ds.drop n)]).map Sl.dt)[i]? = some (.dt d) := q
        rw [List.getElem?_map] at q
        by_cases hi : i < n
        · rw [List.getElem?_append_left (by omega), List.getElem?_take_of_lt hi] at q
          cases ee : ds[i]? with
          | none => rw [ee] at q; cases q
          | some d' =>
            rw [ee] at q
            cases q
            obtain ⟨v, ev, rp⟩ := slot_at i d ee
            refine ⟨v, ?_, ?_⟩
            · show ((vs.take n ++ [V.ref p]).map some)[i]? = _
              rw [List.getElem?_map, List.getElem?_append_left (by omega), List.getElem?_take_of_lt hi, ev]
              rfl
            · show Rep T B _ _ d v (if i < n then s.φ i else [])
              rw [if_pos hi]
              exact rp.mono (Ex.refl B) (Ex.new hF) fun a _ o q => Ex.new hp a o q
        · rw [List.getElem?_append_right (by omega), lt] at q
          have hi0 : i - n = 0 := by
            rcases Nat.eq_zero_or_pos (i - n) with z | z
            · exact z
            · rw [List.getElem?_eq_none (by simp; omega)] at q; cases q
          rw [hi0] at q
          cases q
          refine ⟨.ref p, ?_, ?_⟩
          · show ((vs.take n ++ [V.ref p]).map some)[i]? = _
            rw [List.getElem?_map, List.getElem?_append_right (by omega), ltv, hi0]
            rfl
          · show Rep T B _ _ _ _ (if i < n then s.φ i else [])
            rw [if_neg hi]
            exact .tup (.inl ⟨o, upd_same, ho⟩) rrest
      · have q : ((ds.take n ++ [D.tup (ds.drop n)]).map Sl.dt)[i]? = some .exn := q
        rw [List.getElem?_map] at q
        cases ee : (ds.take n ++ [D.tup (ds.drop n)])[i]? with
        | none => rw [ee] at q; cases q
        | some d => rw [ee] at q; cases q
      · show (if i < n then s.φ i else []) = []
        split
        · rename_i hi
          have : i < ds.length := by omega
          refine absurd ?_ (q ds[i])
          show ((ds.take n ++ [D.tup (ds.drop n)]).map Sl.dt)[i]? = _
          rw [List.getElem?_map, List.getElem?_append_left (by omega), List.getElem?_take_of_lt hi, List.getElem?_eq_getElem this]
          rfl
        · rfl
      · show (if i < n then s.φ i else []).Nodup
        split
        · exact r.nd i
        · exact .nil
      · have h1 : a ∈ (if i < n then s.φ i else []) := h1
        have h2 : a ∈ (if j < n then s.φ j else []) := h2
        split at h1
        · split at h2
          · exact r.dj i j a hn h1 h2
          · cases h2
        · cases h1
      · have q : a ∈ (if i < n then s.φ i else []) := q
        split at q
        · exact rn.ap i a q
        · cases q
    refine ⟨B, s1, _, rfl, rfl, rfl, r1, ?_⟩
    -- the way back
    have back : ∀ s' : S5, Okk T B s' → s'.σ = s1.σ → Okk T B { s' with σ := s.σ, ρ := s'.ρ.take n ++ List.replicate (ds.length - n) Sl.un, φ := fun i => if i < n then s'.φ i else [] } := fun s' r' es => by
      have ln : s'.ρ.length = n + 1 := by
        rw [r'.len, es]
        show ((vs.take n ++ [V.ref p]).map some).length = n + 1
        rw [List.length_map, List.length_append, ltv]
        rfl
      have lt' : (s'.ρ.take n).length = n := by rw [List.length_take]; omega
      have getl : ∀ {i : Nat} {x : Sl}, i < n → (s'.ρ.take n ++ List.replicate (ds.length - n) Sl.un)[i]? = some x → s'.ρ[i]? = some x := fun hi q => by
        rw [List.getElem?_append_left (by omega), List.getElem?_take_of_lt hi] at q
        exact q
      have getr : ∀ {i : Nat} {x : Sl}, ¬ i < n → (s'.ρ.take n ++ List.replicate (ds.length - n) Sl.un)[i]? = some x → x = .un := fun hi q => by
        rw [List.getElem?_append_right (by omega)] at q
        exact List.eq_of_mem_replicate (List.mem_of_getElem? q)
      have sig : ∀ i, i < n → s'.σ[i]? = s.σ[i]? := fun i hi => by
        rw [es, e1]
        show ((vs.take n ++ [V.ref p]).map some)[i]? = _
        rw [List.getElem?_map, List.getElem?_append_left (by omega), List.getElem?_take_of_lt hi, List.getElem?_map]
      refine ⟨?_, r'.exB, r'.exF, r'.exP, fun i d q => ?_, fun i q => ?_, fun i q => ?_, fun i => ?_, fun i j a hn h1 h2 => ?_, fun i a q => ?_⟩
      · show (s'.ρ.take n ++ List.replicate (ds.length - n) Sl.un).length = s.σ.length
        rw [List.length_append, lt', List.length_replicate, e1, List.length_map]
        omega
      · by_cases hi : i < n
        · obtain ⟨v, ev, rp⟩ := r'.sl i d (getl hi q)
          refine ⟨v, by show s.σ[i]? = _; rw [← sig i hi]; exact ev, ?_⟩
          show Rep T B _ _ d v (if i < n then s'.φ i else [])
          rw [if_pos hi]
          exact rp
        · cases getr hi q
      · by_cases hi : i < n
        · obtain ⟨a, x1, x2⟩ := r'.xn i (getl hi q)
          exact ⟨a, x1, by show s.σ[i]? = _; rw [← sig i hi]; exact x2⟩
        · cases getr hi q
      · show (if i < n then s'.φ i else []) = []
        split
        · rename_i hi
          refine r'.em i fun d z => q d ?_
          show (s'.ρ.take n ++ List.replicate (ds.length - n) Sl.un)[i]? = _
          rw [List.getElem?_append_left (by omega), List.getElem?_take_of_lt hi]
          exact z
        · rfl
      · show (if i < n then s'.φ i else []).Nodup
        split
        · exact r'.nd i
        · exact .nil
      · have h1 : a ∈ (if i < n then s'.φ i else []) := h1
        have h2 : a ∈ (if j < n then s'.φ j else []) := h2
        split at h1
        · split at h2
          · exact r'.dj i j a hn h1 h2
          · cases h2
        · cases h1
      · have q : a ∈ (if i < n then s'.φ i else []) := q
        split at q
        · exact r'.ap i a q
        · cases q
    have subB : ∀ {s' : S5} {a : Addr}, O (fun i => if i < n then s'.φ i else []) a → O s'.φ a := fun q => by
      obtain ⟨i, q⟩ := q
      dsimp only at q
      split at q
      · exact ⟨i, q⟩
      · cases q
    have nob : ∀ os : En, NoB os → NoB (os.take n ++ List.replicate (ds.length - n) Sl.un) := fun os hn i d q => by
      by_cases hi : i < (os.take n).length
      · rw [List.getElem?_append_left hi] at q
        have hi' : i < n := by rw [List.length_take] at hi; omega
        rw [List.getElem?_take_of_lt hi'] at q
        exact hn i d q
      · rw [List.getElem?_append_right (by omega)] at q
        have := List.eq_of_mem_replicate (List.mem_of_getElem? q)
        cases this
    cases em : run den pr N (n + 1) (ds.take n ++ [D.tup (ds.drop n)]) with
    | bad => rw [em] at h; exact h.elim
    | ok d os =>
      rw [em] at h
      intro v s' g x1 x2 r' t nb hnb stp
      subst x1
      exact h v { s' with σ := s.σ, ρ := s'.ρ.take n ++ List.replicate (ds.length - n) Sl.un, φ := fun i => if i < n then s'.φ i else [] } g rfl rfl (back s' r' x2) ⟨t.rep, t.nd, t.ap, fun a ha q => t.dj a ha (subB q)⟩ nb (nob _ hnb)
        (((st.drop sub).trans stp |>.drop fun a q => q.imp subB id : Step s.H s.F (O s.φ) s'.H s'.F _))
    | exc c ks xs os =>
      rw [em] at h
      intro cls dd s' x1 x2 r' xr hnb stp
      subst x1
      exact h cls dd { s' with σ := s.σ, ρ := s'.ρ.take n ++ List.replicate (ds.length - n) Sl.un, φ := fun i => if i < n then s'.φ i else [] } rfl rfl (back s' r' x2) xr (nob _ hnb)
        (((st.drop sub).trans stp |>.drop fun a q => subB q : Step s.H s.F (O s.φ) s'.H s'.F _))
  · rw [if_neg hc] at h
    exact h.elim
end
end Cs
namespace Cs
open PySem L2 Evl PyProof.Rows
theorem den_body {T : Tx} {N : List Str} {n : Nat} {tc pr : List Nat} {den : M Flw} {vs : List V} {H : Hp} {Q : VK} {E : XK} (hpr : ∀ i ∈ pr, i + 1000 ∉ tc) (h : spM T (run den pr N.length n) vs H Q E) :
    tDS T (fun cls d _ H => E cls d H) tc den { nx := fun _ H' => Q .non H', rt := Q } (L2.start N vs) H := by
  obtain ⟨B, s0, ds, e1, e2, e3, r, h⟩ := h
  have hl := r.len
  rw [e1, e3, List.length_map, List.length_map] at hl
  unfold run at h
  by_cases hn : ds.length = n
  · rw [if_pos hn] at h
    rw [hl] at hn
    let s1 : S5 := { σ := L2.start N vs, H := s0.H, F := s0.F, ρ := frm N.length ds, φ := s0.φ }
    have r1 : Okk T B s1 := wide_rel (s := s0) r e1 e3
    have hst : ∀ i, i < vs.length → (L2.start N vs)[i]? = s0.σ[i]? := fun i hi => by
      unfold L2.start
      rw [List.getElem?_append_left (by rw [List.length_map]; exact hi), e1]
    have way : ∀ s' : S5, Okk T B s' → (∀ i ∈ pr, s'.σ[i]? = (L2.start N vs)[i]?) → Rel T s0.σ B s'.H s'.F (outs pr n s'.ρ) (fun i => if (match (outs pr n s'.ρ)[i]? with | some (.dt _) => true | _ => false) = true then s'.φ i else []) := fun s' r' hk => by
      rw [← hn]
      exact back_rel r' e1 fun i hi hl => (hk i hi).trans (hst i hl)
    refine ⟨B, s1, rfl, e2, r1, ?_⟩
    show Post _ _ (den (frm N.length ds))
    cases e : den (frm N.length ds) with
    | bad => rw [e] at h; exact h.elim
    | exc c ks xs ρ =>
      rw [e] at h
      intro cls dd s' e4 r' x a
      subst e4
      exact h cls dd { s' with σ := s0.σ, ρ := outs pr n s'.ρ, φ := _ } rfl rfl (way s' r' fun i hi => a.sg i (hpr i hi)) x (fun i d q => (outs_get q).2.2.2) (a.step.drop fun b q => .inl (back_O q))
    | ok fl ρ =>
      rw [e] at h
      cases fl with
      | nx =>
        intro s' e4 r' a
        subst e4
        exact h .non { s' with σ := s0.σ, ρ := outs pr n s'.ρ, φ := _ } [] rfl rfl (way s' r' fun i hi => a.sg i (hpr i hi)) (Tmp.flat .non) rfl (fun i d q => (outs_get q).2.2.2) (a.step.drop fun b q => q.imp back_O id)
      | rt d =>
        dsimp only at h
        by_cases hb : allF noBo d = true
        · rw [if_pos hb] at h
          intro v s' g e4 r' t a
          subst e4
          exact h v { s' with σ := s0.σ, ρ := outs pr n s'.ρ, φ := _ } g rfl rfl (way s' r' fun i hi => a.sg i (hpr i hi)) ⟨t.rep, t.nd, t.ap, fun b hb q => t.dj b hb (back_O q)⟩ hb (fun i d q => (outs_get q).2.2.2) (a.step.drop fun b q => q.imp back_O id)
        · rw [if_neg hb] at h
          exact h.elim
      | bk => exact h.elim
      | ct => exact h.elim
  · rw [if_neg hn] at h
    exact h.elim
/-- how a def with a star parameter binds -/
def BindsS (fd : FuncData) (ps : List Str) (pv : Str) : Prop := ∀ us rest : List Value, us.length = ps.length → bindArgs fd ⟨us ++ rest, []⟩ = (newTuple rest >>= fun t => pure (ps.zip us ++ [(pv, t)]))
/-- THE RULE for a def with a star parameter -/
theorem fn_denS {P : Program} {w : World} {K : PySem.W.Frag} {mg : Str → Option Value} {base : Heap} {x qual pv : Str} {st : Stmt} {f : Addr} {fd : FuncData} {N ps : List Str} {k : Nat} {G : Gx} {tc pr : List Nat} {den : M Flw}
    (F : Fun K x qual st f fd) (S : FnScope N (ps ++ [pv]) (defScope st)) (hb : BindsS fd ps pv) (hpr : ∀ i ∈ pr, i + 1000 ∉ tc)
    (hd : ∀ (cdv : Value) (A : Around) (outer : List Env) (s : Shared) (H : Hp) (E : XK), Room k (A.deeper (envOfC qual (defScope st) s.heap.objs.size f cdv)) →
      Takes (cxOf (L2.CX P w) P w K mg base N qual (defScope st) f cdv A outer s H E) (fun cls d _ H => E cls d H) → PassesOwn (model P w) (cxOf (L2.CX P w) P w K mg base N qual (defScope st) f cdv A outer s H E).A (cxOf (L2.CX P w) P w K mg base N qual (defScope st) f cdv A outer s H E).env (cxOf (L2.CX P w) P w K mg base N qual (defScope st) f cdv A outer s H E).xe →
      (cxOf (L2.CX P w) P w K mg base N qual (defScope st) f cdv A outer s H E).A.units + 65 < cLine →
      GSs (cxOf (L2.CX P w) P w K mg base N qual (defScope st) f cdv A outer s H E) G (fun cls d _ H => E cls d H) tc (defBody st) den) :
    FnR P w K mg base (L2.CX P w) (k + 1) f (spM ⟨K, G.C, G.P, G.X⟩ (runS den pr N.length ps.length)) := by
  obtain ⟨⟨oc, od, kV, doc, pm, an, cdv, ct, osl, e, lk, hcd⟩, kp⟩ := F
  subst e
  refine FnR.imp (fn_starZ (sp := spM ⟨K, G.C, G.P, G.X⟩ (run den pr N.length (ps.length + 1))) lk hcd S StX.cxUp hb fun A outer s H vs Q E hr h => ⟨_, hd cdv A outer s H E hr (takes_of rfl rfl rfl rfl) (passes_of rfl) (by have := hr.un; show (A.deeper (envOfC qual (defScope st) s.heap.objs.size f cdv)).units + 65 < cLine; omega), den_body hpr h⟩) fun vs H Q E h => star_sp h
section
variable {X : Cx} {G : Gx} {W : WX} {tc : List Nat} {a e : Expr} {es : List Expr} {pos p apos sp_ : Pos}
/-! ## calls of what is promised by positional values -/
theorem run_fnRS {CX : CXT} {k : Nat} {f : Addr} {sp : Sp} {E : XK} {pins : List (Addr × Obj)} {σ : L2.St} {H : Hp} {s : Shared} {Q : VK} {us : List Value} {vs : List V} (F : FnR X.prog X.w X.K X.mg X.base CX k f sp) (hr : Room k X.A) (hx : PassesAt CX X σ E) (I : Inv X pins σ H s) (r : Vals vs us) (h : sp vs H Q E) :
    codeAny (model X.prog X.w) X.A (.call (.ref f) ⟨us, []⟩) (fun r s' => match r with | .ok (.ret v) => EP X pins σ Q v s' | .ok _ => False | .error e => X.xe e s') s := by
  refine codeAny_mono (F X.A X.stack s H us vs Q E hr I.env0 r h) fun r s' hq => ?_
  cases r with
  | error e => exact hx pins H s e s' I hq
  | ok fl =>
    cases fl with
    | ret u => exact I.after hq
    | next => exact False.elim hq
    | brk => exact False.elim hq
    | cont => exact False.elim hq
theorem run_makeRS {CX : CXT} {k : Nat} {C f : Addr} {sp : Sp} {E : XK} {pins : List (Addr × Obj)} {σ : L2.St} {H : Hp} {s : Shared} {Q : VK} {us : List Value} {vs : List V} (M : Mk X.K C f) (F : FnR X.prog X.w X.K X.mg X.base CX k f sp) (hr : Room (k + 1) X.A) (hx : PassesAt CX X σ E) (I : Inv X pins σ H s) (r : Vals vs us)
    (h : ∀ x dx, H x = none → H dx = none → dx ≠ x → sp (V.ref x :: vs) (upd (upd H dx (.own x)) x (.ins C dx [])) (fun v H2 => v = .non ∧ Q (.ref x) H2) E) :
    wpAny (model X.prog X.w) X.A (call (.ref C) us) (EP X pins σ Q) X.xe s := by
  have hq := h (s.heap.objs.size + 1) s.heap.objs.size (I.hok.fresh (Nat.le_succ _)) (I.hok.fresh (Nat.le_refl _)) (Nat.ne_of_lt (Nat.lt_succ_self _))
  have I2 := Inv.made (C := C) I
  have r2 : Vals (V.ref (s.heap.objs.size + 1) :: vs) (Value.ref (s.heap.objs.size + 1) :: us) := .cons rfl r
  refine wpAny_call (make_map (f := f) I.kIn M.makes M.init (beq_iff_eq.mp M.fn) (codeAny_mono (F _ X.stack _ _ (Value.ref (s.heap.objs.size + 1) :: us) _ _ E (hr.make C us []) (I2.env0.make C us []) r2 hq) fun r s' hq' => ?_))
  cases r with
  | error e => exact hx pins _ _ e s' I2 hq'
  | ok fl =>
    cases fl with
    | ret u =>
      obtain ⟨v, H', I3, rv, ev, q3⟩ := I2.after hq'
      subst ev
      exact ⟨rv, ⟨V.ref (s.heap.objs.size + 1), H', I3, rfl, q3⟩⟩
    | next => exact False.elim hq'
    | brk => exact False.elim hq'
    | cont => exact False.elim hq'
/-- C() -/
theorem g_makeR0 {c : Str} {C f : Addr} {k : Nat} {mn : List D → Res} (tk : Takes X W) (hC : G.C c = some C) (M : Mk X.K C f) (F : FnR X.prog X.w X.K X.mg X.base (L2.CX X.prog X.w) k f (spM (tx X G) mn)) (hr : Room (k + 1) X.A) (hg : Gl X c) (hm : X.mg c = some (.ref C)) (hdb : (c == ("__debug__" : Str)) = false := by decide) :
    GE X G W [] (.Call (.Name c p) [] [] pos) (dMake c mn []) := by
  refine ⟨fun pins s σ H Q I h => ?_⟩
  have z := make_core (T := tx X G) (W := W) (ars := []) hC (List.Pairwise.nil) (fun _ h => by cases h) h
  refine wpAny_Call_Name_kw (ld_glob I hg hm ?_ hdb)
  refine PySem.W.callWith_K0 (first := []) I.kIn M.kp ?_
  exact run_makeRS M F hr (passAt tk σ) I .nil z
/-- C(a, ..) -/
theorem g_makeR {c : Str} {C f : Addr} {k : Nat} {mn : List D → Res} {ars : List Arg} (tk : Takes X W) (hC : G.C c = some C) (M : Mk X.K C f) (F : FnR X.prog X.w X.K X.mg X.base (L2.CX X.prog X.w) k f (spM (tx X G) mn)) (hr : Room (k + 1) X.A) (hg : Gl X c) (hm : X.mg c = some (.ref C))
    (ha : GR X G W (a :: es) ars) (hn : (ios ars).Nodup := by decide) (hl : ∀ i ∈ lns ars, i ∉ ios ars := by decide) (hdb : (c == ("__debug__" : Str)) = false := by decide) (he : starEach (a :: es) X.env = (false, eval a X.env) :: starEach es X.env := by rfl) (hpl : (backTo pos (starEach es X.env)).any (·.1) = false := by rfl) :
    GE X G W (tcs ars ++ ios ars) (.Call (.Name c p) (a :: es) [] pos) (dMake c mn ars) := by
  refine ⟨fun pins s σ H Q I h => ?_⟩
  have z := make_core (T := tx X G) (W := W) hC hn hl h
  refine wpAny_Call_Name_kw (ld_glob I hg hm ?_ hdb)
  refine PySem.W.callWith_K (h₀ := X.base) I.ok.mod.kin M.kp (thn (ha.run pos pins s σ H _ I z) fun us s1 ⟨vs, H1, I1, r, q⟩ => ⟨I1.kIn, ?_⟩) he hpl
  exact run_makeRS M F hr (passAt tk σ) I1 r q
/-! ## *e -/
/-- the items of a list or a tuple, handed on as arguments -/
def dStar (f : M D) (k : List Arg → M D) : M D := bnd (dFz f) fun d => match d with
  | .lst _ ds => if allFs noOw ds = true then k (cns ds) else bad
  | .tup ds => if allFs noOw ds = true then k (cns ds) else bad
  | _ => bad
theorem ios_cns {ds : List D} : ios (cns ds) = [] := by
  induction ds with
  | nil => rfl
  | cons d ds ih => exact ih
theorem lns_cns {ds : List D} : lns (cns ds) = [] := by
  induction ds with
  | nil => rfl
  | cons d ds ih => exact ih
theorem tcs_cns {ds : List D} : tcs (cns ds) = [] := by
  induction ds with
  | nil => rfl
  | cons d ds ih => exact ih
theorem its_cns {T : Tx} {B : Hp} {s : S5} : ∀ {ds : List D} {vs : List V}, Reps T B s.H s.F ds vs [] → Its T B s (cns ds) (ds.map some) vs []
  | _, _, .nil => .nil
  | _, _, .cons r rs e => by
    obtain ⟨rfl, rfl⟩ := List.append_eq_nil_iff.mp e.symm
    exact .v (g1 := []) (g2 := []) r (its_cns rs)
theorem dArs_cns {ds : List D} {ρ : En} : dArs (cns ds) ρ = .ok (ds.map some) ρ := by
  induction ds with
  | nil => rfl
  | cons d ds ih =>
    show bnd (ret d) (fun d => bnd (dArs (cns ds)) fun ds => ret (some d :: ds)) ρ = _
    rw [bnd_ok (show ret d ρ = .ok d ρ from rfl), bnd_ok ih]
    rfl
theorem star_core {T : Tx} {f : M D} {k : List Arg → M D} {σ : L2.St} {H : Hp} {Q : VK} {K1 : List V → Hp → Prop} (h : tD T W tc (dStar f k) σ H Q)
    (hk : ∀ (ds : List D) (vs : List V) (B : Hp) (s s1 : S5), s1.σ = s.σ → s.σ = σ → Okk T B s1 → Reps T B s1.H s1.F ds vs [] → Goes tc s s1 [] → Post (okE T B tc s Q) (exE T W B tc s) (k (cns ds) s1.ρ) → K1 vs s1.H) :
    tD T W tc (dFz f) σ H fun y H1 => ∃ a xs, y = .ref a ∧ (SqT T.K H1 a xs ∨ SqL T.K H1 a xs) ∧ K1 xs H1 := by
  obtain ⟨B, s, e1, e2, rl, hp⟩ := h
  subst e1 e2
  refine seqE1 rl hp fun d v s1 g ed hs r1 t a h => ?_
  have hn := dFz_frz ed
  have z := rep_v t.rep hn
  cases d with
  | lst o ds =>
    dsimp only at h
    split at h
    · obtain ⟨p, vs, rfl, rp, sq⟩ := z.listS
      exact ⟨p, vs, rfl, .inr (sq s1.H s1.F (Ex.refl _) r1.exF r1.exB), hk ds vs B s s1 hs rfl r1 rp a.drop0 h⟩
    · exact h.elim
  | tup ds =>
    dsimp only at h
    split at h
    · obtain ⟨p, vs, rfl, rp, sq⟩ := z.tupS
      exact ⟨p, vs, rfl, .inl (sq s1.H s1.F (Ex.refl _) r1.exF), hk ds vs B s s1 hs rfl r1 rp a.drop0 h⟩
    · exact h.elim
  | _ => exact h.elim
/-- C(*e) -/
theorem g_makeS {c : Str} {C f : Addr} {k : Nat} {mn : List D → Res} {u : M D} (tk : Takes X W) (hC : G.C c = some C) (M : Mk X.K C f) (F : FnR X.prog X.w X.K X.mg X.base (L2.CX X.prog X.w) k f (spM (tx X G) mn)) (hr : Room (k + 1) X.A) (hg : Gl X c) (hm : X.mg c = some (.ref C))
    (ha : GE X G W tc e u) (hdb : (c == ("__debug__" : Str)) = false := by decide) (hst : starEach [.Starred e sp_] X.env = [(true, eval e X.env)] := by rfl) :
    GE X G W tc (.Call (.Name c p) [.Starred e sp_] [] pos) (dStar u fun ars => dMake c mn ars) := by
  refine ⟨fun pins s σ H Q I h => ?_⟩
  have z := star_core (T := tx X G) (K1 := fun vs H1 => ∀ y dx, H1 y = none → H1 dx = none → dx ≠ y → spM (tx X G) mn (.ref y :: vs) (upd (upd H1 dx (.own y)) y (.ins C dx [])) (fun v H2 => v = .non ∧ Q (.ref y) H2) (WE W σ)) h fun ds vs B s0 s1 e3 e4 r1 rp a h x dx hx hdx hne => by
    have it : ItsT (tx X G) B s1 (cns ds) (ds.map some) vs [] := ⟨its_cns rp, .nil, fun _ h => (by cases h), fun _ h => (by cases h)⟩
    have h : Post (okE (tx X G) B tc s0 Q) (exE (tx X G) W B tc s0) (bnd (dArs (cns ds)) (fun ods ρ => match argD ρ (cns ds) ods with
      | none => .bad
      | some ds' => match mn (.obj .ow c [] [] :: ds') with
        | .ok .non (.dt o :: os) => .ok o (wb (cns ds) os ρ)
        | .exc c ks xs (_ :: os) => .exc c ks xs (wb (cns ds) os ρ)
        | _ => .bad) s1.ρ) := h
    rw [bnd_ok dArs_cns] at h
    have h2 : Post (okE (tx X G) B (tcs (cns ds) ++ ios (cns ds)) s1 Q) (exE (tx X G) W B (tcs (cns ds) ++ ios (cns ds)) s1) _ := h.imp (fun d ρ q v s2 g x1 x2 x3 x4 x5 => q v s2 g x1 (x2.trans e3) x3 x4 ((a.trans0 x5).wk fun j z => by
      rw [tcs_cns, ios_cns] at z
      rcases List.mem_append.mp z with z | z
      · exact z
      · cases z)) fun cc ks xs ρ q cls dd s2 x1 x2 x3 x4 x5 => q cls dd s2 x1 (x2.trans e3) x3 x4 ((a.trans0 x5).wk fun j z => by
      rw [tcs_cns, ios_cns] at z
      rcases List.mem_append.mp z with z | z
      · exact z
      · cases z)
    have w := make_fin (T := tx X G) (s := s1) (W := W) hC (by rw [ios_cns]; exact List.Pairwise.nil) (fun i hi => by rw [lns_cns] at hi; cases hi) r1 rfl it Goes.refl h2 hx hdx hne
    rw [← e4, ← e3]
    exact w
  refine wpAny_Call_Name_kw (ld_glob I hg hm ?_ hdb)
  refine PySem.W.callWith_S (h₀ := X.base) I.ok.mod.kin M.kp (thn ((g_fz ha).run pins s σ H _ I z) fun v s1 ⟨y, H1, I1, ry, b, xs, ey, hxs, q⟩ => ?_) hst
  subst ey
  obtain rfl : v = Value.ref b := ry
  exact StX.star_any I1 hxs fun us s2 I2 rv => ⟨I2.kIn, run_makeRS M F hr (passAt tk σ) I2 rv q⟩
end
end Cs
namespace Cs
open PySem L2 Evl PyProof.Rows
/-! ## o.f.append(e) -/
def fix (f : Str) : List Str → Option Nat
  | [] => none
  | k :: ks => if f == k then some 0 else (fix f ks).map (· + 1)
theorem fix_look {f : Str} : ∀ {ks : List Str} {vs : List V} {n : Nat} {v : V}, fix f ks = some n → vs[n]? = some v → (ks.zip vs).lookup f = some v
  | [], _, _, _, h, _ => by cases h
  | k :: ks, [], _, _, _, h => by simp at h
  | k :: ks, w :: vs, n, v, h, e => by
    unfold fix at h
    rw [List.zip_cons_cons, List.lookup_cons]
    cases hk : f == k with
    | true =>
      rw [hk, if_pos rfl] at h
      cases h
      cases Option.some.inj e
      rfl
    | false =>
      rw [hk, if_neg Bool.false_ne_true] at h
      cases ef : fix f ks with
      | none => rw [ef] at h; cases h
      | some m =>
        rw [ef] at h
        cases h
        exact fix_look ef e
def fldL (c f : Str) : D → Option (Nat × List D)
  | .obj .ow c' ks ds => if c' = c then (fix f ks).bind fun n => (match ds[n]? with
    | some (.lst .ow ys) => if allFs noOw ys = true then some (n, ys) else none
    | _ => none) else none
  | _ => none
def appF (c f : Str) (d : D) : D → Option D
  | .obj .ow c' ks ds => (fldL c f (.obj .ow c' ks ds)).bind fun (n, ys) => if ys.length < lim ∧ allF noOw d = true then some (.obj .ow c' ks (ds.set n (.lst .ow (ys ++ [d])))) else none
  | _ => none
def dAppF (i : Nat) (c f : Str) (u : M D) : M Flw := fun ρ => match (slot i ρ).bind (fldL c f) with
  | none => .bad
  | some _ => bnd (dFz u) (fun d ρ1 => match (slot i ρ1).bind (appF c f d) with
    | some o => .ok .nx (ρ1.set i (.dt o))
    | none => .bad) ρ
theorem fldL_some {c f : Str} {o : D} {n : Nat} {ys : List D} (h : fldL c f o = some (n, ys)) : ∃ ks ds, o = .obj .ow c ks ds ∧ fix f ks = some n ∧ ds[n]? = some (.lst .ow ys) ∧ allFs noOw ys = true := by
  unfold fldL at h
  split at h
  · rename_i c' ks ds
    split at h
    · rename_i e
      subst e
      obtain ⟨m, h1, h2⟩ := Option.bind_eq_some_iff.mp h
      split at h2
      · rename_i zs ez
        split at h2
        · rename_i hn
          cases h2
          exact ⟨ks, ds, rfl, h1, ez, hn⟩
        · cases h2
      · cases h2
    · cases h
  · cases h
theorem zip_inj : ∀ {ks : List Str} {vs vs' : List V}, ks.length = vs.length → ks.length = vs'.length → ks.zip vs = ks.zip vs' → vs = vs'
  | [], [], [], _, _, _ => rfl
  | [], _ :: _, _, h, _, _ => by cases h
  | [], [], _ :: _, _, h, _ => by cases h
  | _ :: _, [], _, h, _, _ => by cases h
  | _ :: _, _ :: _, [], _, h, _ => by cases h
  | k :: ks, v :: vs, v' :: vs', h1, h2, h => by
    rw [List.zip_cons_cons, List.zip_cons_cons] at h
    obtain ⟨a, b⟩ := List.cons.inj h
    rw [(Prod.mk.inj a).2, zip_inj (Nat.succ.inj h1) (Nat.succ.inj h2) b]
section
variable {X : Cx} {G : Gx} {W : WX} {tc t1 : List Nat} {a e : Expr} {pos pos2 apos cpos p : Pos} {u : M D} {i : Nat} {x : Str}
theorem Rep.objO_inv {T : Tx} {B H F : Hp} {c : Str} {ks : List Str} {ds : List D} {v : V} {g : List Addr} (r : Rep T B H F (.obj .ow c ks ds) v g) : ∃ pa dx C vs fp, v = .ref pa ∧ T.C c = some C ∧ H pa = some (.ins C dx (ks.zip vs)) ∧ H dx = some (.own pa) ∧ ks.length = vs.length ∧ Reps T B H F ds vs fp ∧ g = pa :: dx :: fp := by
  cases r with
  | objO hc h hd hl r e => exact ⟨_, _, _, _, _, rfl, hc, h, hd, hl, r, e⟩
theorem appF_core {T : Tx} {c f : Str} {σ : L2.St} {H : Hp} {E : Ends} (hc : ∀ C, T.C c = some C → ClsF T.K C f) (ht : i ∉ t1) (h : tDS T W (t1 ++ [i]) (dAppF i c f u) E σ H) : tDrop (tBM T.K "list" rAppend (tFld T.K (tVar i) f) (tCons (tD T W t1 (dFz u)) tNil)) E σ H := by
  obtain ⟨B, s, e1, e2, r, hp⟩ := h
  subst e1 e2
  unfold dAppF at hp
  cases eb : (slot i s.ρ).bind (fldL c f) with
  | none => rw [eb] at hp; exact hp.elim
  | some ny =>
    obtain ⟨n, ys⟩ := ny
    rw [eb] at hp
    obtain ⟨o, eo, ef⟩ := Option.bind_eq_some_iff.mp eb
    obtain ⟨ks, ds, rfl, ek, en, hy⟩ := fldL_some ef
    obtain ⟨v0, ev0, rp⟩ := r.sl i _ (slot_some eo)
    obtain ⟨pa, dx, C, vs, fp, rfl, hC, q, qd, hl, rs, eg⟩ := rp.objO_inv
    have nd := r.nd i
    rw [eg] at nd
    have nd1 := List.nodup_cons.mp nd
    have nd2 := List.nodup_cons.mp nd1.2
    obtain ⟨p1, us, x1, x2, x3, x4, x5⟩ := rs.inner n nd2.2 en hy
    refine ⟨.ref pa, ev0, pa, C, dx, _, .ref p1, rfl, q, (hc C hC).c, (hc C hC).n, fix_look ek x1, .inl ⟨rfl, us, sq_of x2⟩, ?_⟩
    refine seqES r hp (fun _ => memL) fun d v s3 g3 ed hs3 r3 t a3 h3 => ?_
    have hn := dFz_frz ed
    have rd := rep_v t.rep hn
    obtain ⟨f1, f2, f3⟩ := a3.fix i ht
    have es3 : slot i s3.ρ = some (.obj .ow c ks ds) := by
      have := slot_some eo
      unfold slot
      rw [f1, this]
    have h3 : Post (okS T B (t1 ++ [i]) s E) (exS T W B (t1 ++ [i]) s) (match (slot i s3.ρ).bind (appF c f d) with
      | some o => .ok .nx (s3.ρ.set i (.dt o))
      | none => .bad) := h3
    rw [es3] at h3
    dsimp only [Option.bind_some] at h3
    have ea : appF c f d (.obj .ow c ks ds) = if ys.length < lim ∧ allF noOw d = true then some (.obj .ow c ks (ds.set n (.lst .ow (ys ++ [d])))) else none := by
      show (fldL c f (.obj .ow c ks ds)).bind _ = _
      rw [ef]
      rfl
    rw [ea] at h3
    by_cases hlen : ys.length < lim ∧ allF noOw d = true
    · rw [if_pos hlen] at h3
      have ha : s3.H pa = s.H pa := f3 pa (by rw [eg]; exact List.mem_cons_self)
      have hdx : s3.H dx = s.H dx := f3 dx (by rw [eg]; exact List.mem_cons_of_mem _ List.mem_cons_self)
      obtain ⟨v3, ev3, rp3⟩ := r3.sl i _ (slot_some es3)
      rw [hs3, ev0] at ev3
      cases ev3
      obtain ⟨pa', dx', C', vs', fp', epa, hC', q', qd', hl', rs', eg'⟩ := rp3.objO_inv
      cases epa
      rw [f2, eg] at eg'
      cases eg'
      rw [ha, q] at q'
      have hz := (HO.ins.inj (Option.some.inj q')).2.2
      have evs : vs = vs' := zip_inj hl hl' hz
      subst evs
      obtain ⟨p1', us', y1, y2, y3, y4, y5⟩ := rs'.inner n nd2.2 en hy
      rw [x1] at y1
      cases y1
      have nw := y5 (us' ++ [v]) (ys ++ [d]) (y3.snoc rd)
      have pne : pa ≠ p1 := fun z => nd1.1 (by rw [z]; exact List.mem_cons_of_mem _ y4)
      have dne : dx ≠ p1 := fun z => nd2.1 (by rw [z]; exact y4)
      have hp1 : p1 ∈ s3.φ i := by rw [f2, eg]; exact List.mem_cons_of_mem _ (List.mem_cons_of_mem _ y4)
      have hok := mut_ok (gt := []) (p := p1) (o := .lst (us' ++ [v])) (d' := .obj .ow c ks (ds.set n (.lst .ow (ys ++ [d])))) (g := pa :: dx :: fp) r3 (slot_some es3) (by rw [hs3]; exact ev0) hp1
        (.objO hC (by rw [upd_ne pne, ha]; exact q) (by rw [upd_ne dne, hdx]; exact qd) hl nw rfl) nd (fun x hx => .inl (by rw [f2, eg]; exact hx)) (fun _ h => (by cases h)) (fun _ h => (by cases h))
      refine ⟨p1, us', v, rfl, rfl, y2, by rw [← y3.len]; exact lim_lt hlen.1, ?_⟩
      have z := h3 _ rfl hok (mut_goes r3 a3.drop0 hp1 fun x hx => .inl (by rw [f2, eg]; exact hx))
      show E.nx s.σ (L2.upd s3.H p1 (.lst (us' ++ [v])))
      rw [← hs3]
      exact z
    · rw [if_neg hlen] at h3
      exact h3.elim
theorem gs_appF {c f : Str} (hc : ∀ C, G.C c = some C → ClsF X.K C f) (hv : PE X (.Name x p) (tVar i)) (h : GE X G W t1 a u) (ht : i ∉ t1 := by decide) (hb : attributeBase (.Name x p) f X.env (eval (.Name x p) X.env) = eval (.Name x p) X.env := by rfl) (hs : starEach [a] X.env = (false, eval a X.env) :: starEach [] X.env := by rfl)
    (hbase : attributeBase (.Attribute (.Name x p) f pos2) "append" X.env (eval (.Attribute (.Name x p) f pos2) X.env) = eval (.Attribute (.Name x p) f pos2) X.env := by rfl) (hline : (apos.endLine == cpos.line) = true := by rfl)
    (hfew : ((backTo cpos (starEach [a] X.env)).all (fun x => !x.1) && (backToKw cpos (keywordEach [] X.env)).all (fun x => x.1.isSome)
      && decide ([a].length + ([] : List Keyword).length + (if ([] : List Keyword).isEmpty then 0 else 1) < 30)) = true := by rfl)
    (hsw : swapsWith (.Call (.Attribute (.Attribute (.Name x p) f pos2) "append" apos) [a] [] cpos) none pos.line X.env = pure false := by rfl) : GS X G W (t1 ++ [i]) (.Expr (.Call (.Attribute (.Attribute (.Name x p) f pos2) "append" apos) [a] [] cpos) pos) (dAppF i c f u) :=
  ps_mono (ps_expr (pe_bm PySem.F.plainAttrs_list PySem.F.slot_list_append PySem.F.type_list_append mt_append (pe_fld hv hb) (pa_cons (g_fz h) pa_nil hs) hbase hfew hline hs rfl) hsw) fun E σ H h => appF_core (T := tx X G) hc ht h
/-! ## o.f += e, ints -/
def augF (c f : Str) (d : D) : D → Option D
  | .obj .ow c' ks ds => if c' = c ∧ ks.length < 900 then (match look f ks ds, d with
    | some (.int i), .int j => some (.obj .ow c' (putL f (.int (i + j)) ks ds).1 (putL f (.int (i + j)) ks ds).2)
    | _, _ => none) else none
  | _ => none
def dAugC (i : Nat) (c f : Str) (j : Int) : M Flw := fun ρ => match (slot i ρ).bind (augF c f (.int j)) with
  | some o => .ok .nx (ρ.set i (.dt o))
  | none => .bad
theorem augF_some {c f : Str} {j : Int} {o o' : D} (h : augF c f (.int j) o = some o') : ∃ ks ds k, o = .obj .ow c ks ds ∧ ks.length < 900 ∧ look f ks ds = some (.int k) ∧ o' = .obj .ow c (putL f (.int (k + j)) ks ds).1 (putL f (.int (k + j)) ks ds).2 := by
  unfold augF at h
  split at h
  · rename_i c' ks ds
    split at h
    · rename_i hh
      obtain ⟨rfl, hk⟩ := hh
      split at h
      · rename_i i j' e1 e2
        cases e2
        cases h
        exact ⟨ks, ds, i, rfl, hk, e1, rfl⟩
      · cases h
    · cases h
  · cases h
theorem augC_core {T : Tx} {c f : Str} {j : Int} {σ : L2.St} {H : Hp} {E : Ends} (hc : ∀ C, T.C c = some C → ClsF T.K C f) (h : tDS T W [i] (dAugC i c f j) E σ H) : sFldAug T.K (tVar i) (tC (.int j)) rAdd f E σ H := by
  obtain ⟨B, s, e1, e2, r, hp⟩ := h
  subst e1 e2
  unfold dAugC at hp
  cases eb : (slot i s.ρ).bind (augF c f (.int j)) with
  | none => rw [eb] at hp; exact hp.elim
  | some o' =>
    rw [eb] at hp
    obtain ⟨o, eo, ef⟩ := Option.bind_eq_some_iff.mp eb
    obtain ⟨ks, ds, k, rfl, hkl, hlk, rfl⟩ := augF_some ef
    obtain ⟨v0, ev0, rp⟩ := r.sl i _ (slot_some eo)
    obtain ⟨ad, dx, C, vs, fp, rfl, q1, q2, q3, q4, q5, q6⟩ := rp.objO_inv
    obtain ⟨w, g', hw, rw'⟩ := look_at (ks := ks) q5 hlk
    have ew : w = .int k := by cases rw'; rfl
    subst ew
    have nd := r.nd i
    rw [q6] at nd
    obtain ⟨n1, n2⟩ := List.nodup_cons.mp nd
    obtain ⟨n3, n4⟩ := List.nodup_cons.mp n2
    obtain ⟨vs', fp', z1, z2, z3, z4, z5, z6⟩ := put_at (f := f) (d := .int (k + j)) (v := .int (k + j)) (g := []) (.int (k + j)) .nil q5 q4 n4 fun y hy z => by cases z
    have z5' : ∀ a ∈ fp', a ∈ fp := fun a h => (z5 a h).elim id fun z => by cases z
    refine ⟨.ref ad, ev0, ad, C, dx, ks.zip vs, .int k, rfl, q2, (hc C q1).c, (hc C q1).n, hw, k, j, rfl, rfl, dx, ks.zip vs, q2, by rw [List.length_zip]; omega, ?_⟩
    have adx : dx ≠ ad := fun z => n1 (by rw [← z]; exact List.mem_cons_self)
    have nfa : ∀ y ∈ fp', y ≠ ad ∧ y ≠ dx := fun y hy => ⟨fun e => n1 (by rw [← e]; exact List.mem_cons_of_mem _ (z5' y hy)), fun e => n3 (by rw [← e]; exact z5' y hy)⟩
    have keep : ∀ y, y ≠ ad → ∀ o, s.H y = some o → upd s.H ad (.ins C dx (putF f (.int (k + j)) (ks.zip vs))) y = some o := fun y hy o q => by rw [upd_ne hy]; exact q
    have gsub : ∀ y ∈ ad :: dx :: fp', y ∈ s.φ i ∨ y ∈ ([] : List Addr) := fun y hy => by
      rw [q6]
      rcases List.mem_cons.mp hy with e | hy
      · exact .inl (by rw [e]; exact List.mem_cons_self)
      · rcases List.mem_cons.mp hy with e | hy
        · exact .inl (by rw [e]; exact List.mem_cons_of_mem _ List.mem_cons_self)
        · exact .inl (List.mem_cons_of_mem _ (List.mem_cons_of_mem _ (z5' y hy)))
    have hok := mut_ok (gt := []) (p := ad) (o := .ins C dx (putF f (.int (k + j)) (ks.zip vs))) (d' := .obj .ow c (putL f (.int (k + j)) ks ds).1 (putL f (.int (k + j)) ks ds).2) (g := ad :: dx :: fp') r (slot_some eo) ev0 (by rw [q6]; exact List.mem_cons_self)
      (.objO q1 (by rw [upd_same, z2]) (by rw [upd_ne adx]; exact q3) z3 (z1.mono (Ex.refl B) (Ex.refl _) fun y hy => keep y (nfa y hy).1) rfl)
      (List.nodup_cons.mpr ⟨fun z => (List.mem_cons.mp z).elim (fun e => adx e.symm) fun z => (nfa ad z).1 rfl, List.nodup_cons.mpr ⟨fun z => (nfa dx z).2 rfl, z4⟩⟩) gsub (fun _ h => (by cases h)) (fun _ h => (by cases h))
    exact hp _ rfl hok (mut_goes (tc := []) r Goes.refl (by rw [q6]; exact List.mem_cons_self) gsub)
theorem gs_augC {c f : Str} {j : Int} {n : Nat} {tpos : Pos} (hc : ∀ C, G.C c = some C → ClsF X.K C f) (hv : PE X (.Name x p) (tVar i)) : GS X G W [i] (.AugAssign (.Attribute (.Name x p) f tpos) .Add (.Constant (.int j) n pos2) pos) (dAugC i c f j) :=
  ps_mono (ps_fldaug hv pe_int in_add) fun E σ H h => augC_core (T := tx X G) hc h
/-! ## o.p, a property that runs -/
/-- what is raised is not spoken of -/
def noX (m : List D → Res) : List D → Res := fun ds => match m ds with
  | .exc _ _ _ _ => .bad
  | r => r
theorem sp_noX {T : Tx} {m : List D → Res} {vs : List V} {H : Hp} {Q : VK} {E E' : XK} (h : spM T (noX m) vs H Q E) : spM T m vs H Q E' := by
  obtain ⟨B, s, ds, e1, e2, e3, r, h⟩ := h
  refine ⟨B, s, ds, e1, e2, e3, r, ?_⟩
  unfold noX at h
  cases em : m ds with
  | ok d os => rw [em] at h; exact h
  | exc c ks xs os => rw [em] at h; exact h.elim
  | bad => rw [em] at h; exact h.elim
theorem cx_out {P : Program} {w : World} {outer : List Env} {H : Hp} {s : Shared} {e : Value} {s' : Shared} (h : L2.CX P w outer H s (fun _ _ _ => False) e s') : False := by
  obtain ⟨_, _, _, _, _, _, _, _, _, _, _, _, z⟩ := h
  exact z
/-- the property of what stands in slot i -/
def dProp (c m : Str) (mn : List D → Res) (i : Nat) : M D := dMeth c m (noX mn) (.l i, []) []
theorem g_propM {c m : Str} {C pp g : Addr} {k : Nat} {fd : FuncData} {ps : List Str} {mn : List D → Res} (hC : G.C c = some C) (cl : Cls X.K C) (hp : PropOf X.K C m pp g) (F : FnOk X.prog X.w X.K X.mg X.base (L2.CX X.prog X.w) k g fd ps (spM (tx X G) mn)) (hr : Room (k + 1) X.A) (hb : Binds X.K fd ps [])
    (hv : PE X (.Name x p) (tVar i)) (hab : attributeBase (.Name x p) m X.env (eval (.Name x p) X.env) = eval (.Name x p) X.env := by rfl) : GE X G W [] (.Attribute (.Name x p) m pos) (dProp c m mn i) :=
  pe_mono (pe_prop (E := fun _ _ _ => False) (dvs := []) (ds := []) hv cl hp F hr hb .nil (fun pins σ H s e s' I q => (cx_out q).elim) hab) fun σ H Q h => by
    obtain ⟨v, ev, q, dx, fs, rfl, hq, _, hs⟩ := meth_core (T := tx X G) (W := W) (ars := []) hC (show (ios [(Ar.l i, [])]).Nodup from List.Pairwise.nil) (fun _ _ h => by cases (show _ ∈ ([] : List Nat) from h)) h
    exact ⟨.ref q, ev, q, dx, fs, rfl, hq, sp_noX hs⟩
end
end Cs
namespace Cs
open PySem L2 Evl PyProof.Rows
/-! ## a written tuple of texts -/
def HeldT (K : PySem.W.Frag) (mg : Str → Option Value) (x : Str) (zs : List Str) : Prop := ∃ a, mg x = some (.ref a) ∧ ∀ C P X B H F, Rep ⟨K, C, P, X⟩ B H F (.tup (zs.map D.str)) (.ref a) []
theorem heldT_2 {K : PySem.W.Frag} {mg : Str → Option Value} {x z1 z2 : Str} {a : Addr} {t1 t2 : Tok} {n : Nat} {sl : Array (Option Value)} (hm : mg x = some (.ref a)) (h : K.lookup a = some ⟨.type "tuple", none, .seq #[.str z1 t1, .str z2 t2] n, sl⟩) (h1 : PyData.strOk z1 = true) (h2 : PyData.strOk z2 = true) : HeldT K mg x [z1, z2] :=
  ⟨a, hm, fun C P X B H F => .tup (vs := [.str z1, .str z2]) (.inr ⟨_, #[.str z1 t1, .str z2 t2], n, h, rfl, rfl, (by show 2 ≤ sizeLine; rw [sizeLine_eq]; omega), .cons ⟨_, rfl⟩ (.cons ⟨_, rfl⟩ .nil), rfl⟩) (.cons (.str z1 h1) (.cons (.str z2 h2) .nil rfl) rfl)⟩
section
variable {X : Cx} {G : Gx} {W : WX} {p : Pos}
theorem g_glT {x : Str} {zs : List Str} (hg : Gl X x) (h : HeldT X.K X.mg x zs) (hdb : (x == ("__debug__" : Str)) = false := by decide) : GE X G W [] (.Name x p) (ret (.tup (zs.map D.str))) := by
  obtain ⟨a, hm, hr⟩ := h
  exact pe_mono (pe_globC hg hm hdb) fun σ H Q ⟨B, s, e1, e2, rl, hp⟩ => by
    subst e1 e2
    exact hp (.ref a) s [] rfl rfl rl (Tmp.flat (hr _ _ _ _ _ _)) Goes.refl
end
/-! ## posts -/
section
variable {Q : Flw → En → Prop} {X : XK0} {ρ : En} {i : Nat}
@[simp] theorem post_appF {c f : Str} {u : M D} : Post Q X (dAppF i c f u ρ) = opW ((slot i ρ).bind (fldL c f)) fun _ => Post (fun d ρ1 => opW ((slot i ρ1).bind (appF c f (mapF flFrz d))) fun o => Q .nx (ρ1.set i (.dt o))) X (u ρ) := by
  unfold dAppF
  cases (slot i ρ).bind (fldL c f) with
  | none => rfl
  | some n =>
    dsimp only [opW_some]
    rw [post_bnd, post_fz]
    congr 1
    funext d ρ1
    cases (slot i ρ1).bind (appF c f (mapF flFrz d)) <;> rfl
@[simp] theorem post_augC {c f : Str} {j : Int} : Post Q X (dAugC i c f j ρ) = opW ((slot i ρ).bind (augF c f (.int j))) fun o => Q .nx (ρ.set i (.dt o)) := by
  unfold dAugC
  cases (slot i ρ).bind (augF c f (.int j)) <;> rfl
@[simp] theorem resW_noX {m : List D → Res} {ds : List D} {K : D → En → Prop} : resW (noX m ds) K X = resW (m ds) K N0 := by
  unfold noX
  cases m ds <;> rfl
theorem post_prop {c m : Str} {mn : List D → Res} {Q : D → En → Prop} : Post Q X (dProp c m mn i ρ) = slW (slot i ρ) fun d => isObj c m d = true ∧ resW (mn [mapF flLend d]) (fun r os => Q r ρ) N0 := by
  unfold dProp
  rw [post_methL]
  cases e : slot i ρ with
  | none => rfl
  | some d =>
    dsimp only [slW_some]
    congr 1
    simp [e]
/-- the meaning of a def with a star parameter, asked -/
theorem resW_runS {f : M Flw} {pr : List Nat} {N n : Nat} {ds rs : List D} {K : D → En → Prop} {E : XK0} (hl : ds.length = n) (ho : allFs noOw rs = true) (hr : rs.length ≤ lim)
    (h : Post (flK pr (n + 1) fun d os => K d (os.take n ++ List.replicate rs.length .un)) (fun c ks xs ρ => E c ks xs ((outs pr (n + 1) ρ).take n ++ List.replicate rs.length .un)) (f (frm N (ds ++ [.tup rs])))) : resW (runS f pr N n (ds ++ rs)) K E := by
  have e1 : (ds ++ rs).drop n = rs := by rw [← hl, List.drop_left]
  have e2 : (ds ++ rs).take n = ds := by rw [← hl, List.take_left]
  have e3 : (ds ++ rs).length - n = rs.length := by rw [List.length_append, hl]; omega
  have z := resW_run (f := f) (pr := pr) (N := N) (n := n + 1) (ds := ds ++ [.tup rs]) (K := fun d os => K d (os.take n ++ List.replicate rs.length .un)) (E := fun c ks xs os => E c ks xs (os.take n ++ List.replicate rs.length .un)) (by simp [hl]) h
  unfold runS
  rw [if_pos ⟨by rw [List.length_append]; omega, by rw [e1]; exact ho, by rw [e1]; exact hr⟩, e1, e2, e3]
  cases em : run f pr N (n + 1) (ds ++ [.tup rs]) with
  | ok d os => rw [em] at z; exact z
  | exc c ks xs os => rw [em] at z; exact z
  | bad => rw [em] at z; exact z
end
end Cs
namespace Cs
open PySem L2 Evl PyProof.Rows
/-! ## x = [.. for .. in x ..] -/
section
variable {X : Cx} {G : Gx} {W : WX} {t1 tt te to : List Nat} {src : M (List D)} {cond : M Bool} {elt : M D} {tg : Tg} {eltE tgE iter : Expr} {ifs : List Expr} {scope : Scope} {own : List (Str × Nat)} {pos : Pos}
theorem gs_setLcL {i k : Nat} {y : Str} {py spos : Pos} (hc : X.calm = true) (hN : X.N.Nodup) (hy : X.N[i]? = some y) (hyl : X.env.scope.names.lookup y = some .local) (hsw : swapsWith (.ListComp eltE [⟨tgE, iter, ifs, 0⟩] scope pos) (some (.Name y py)) spos.line X.env = pure true) (hi : GI X G W t1 tgE iter src) (ok : BlkOk X.N X.env.scope scope own) (hg : blkT X scope fun Y => PG Y tgE (tgR X.K tg)) (ht : blkT X scope fun Y => GTs Y G W0 tt ifs cond) (he : blkT X scope fun Y => GE Y G W0 te eltE elt)
    (htg : ∀ x ∈ tg.tc, 1000 ≤ x → x - 1000 ∈ own.map (·.2) := by decide) (hsub : ∀ j ∈ tg.tc ++ (tt ++ te), j ∈ to ∨ j ∈ own.map (·.2) := by decide) (hk : k ∉ t1 ++ to := by decide) (hk2 : k + 1000 ∉ t1 ++ to := by decide) (hs : ∀ x, foldedSetIterable iter X.env x = pure x := by intro _; rfl) :
    GS X G W ((t1 ++ to) ++ [i, i + 1000]) (.Assign [.Name y py] (.ListComp eltE [⟨tgE, iter, ifs, 0⟩] scope pos) spos) (dAsg i (dLend k (t1 ++ to) (dLc src tg (own.map (·.2)) cond elt))) :=
  ps_mono (ps_setLc hc hN hy hyl hsw hi ok hg ht he hs) fun E σ H h => by
    obtain z := asg_core (T := tx X G) h
    exact cmp_core (T := tx X G) htg hsub (lendE_core hk hk2 z)
end
end Cs
namespace Lw
open PySem L2 Evl PyProof.Rows Cs
/-- _law_box: 0 _law_script -/
noncomputable def d_law_box : M Flw :=
  (dLendS 0 [] (dRet (dLst (dCons (dFz (dOp1 pList (.v (dSl (dCp 0) (ret none) (dPart (ret (.int 63))))))) (dCons (ret (.int 0)) (dCons (ret (.int 0)) (dCons (ret (.int 0)) dNil)))))))
theorem m_law_box_ex : ∃ m : List D → Res, m = run d_law_box [] 1 1 := ⟨_, rfl⟩
noncomputable def m_law_box : List D → Res := Classical.choose m_law_box_ex
theorem m_law_box_def : m_law_box = run d_law_box [] 1 1 := Classical.choose_spec m_law_box_ex
/-- _law_take: 0 _law_box_here, 1 _law_many, 2 _law_cell, 3 _law_drawn -/
noncomputable def d_law_take_s1 : M Flw :=
  (dIf (dAnd (dB (dOp2 pEq (.v (dOp2 pIx (.p 0) (.v (ret (.int 2))))) (.v (ret (.int 0))))) (dB (dOp2 pLt (.v (dOp2 pIx (.p 0) (.v (ret (.int 1))))) (.v (dOp1 pLen (.v (dOp2 pIx (.p 0) (.v (ret (.int 0)))))))))) (dSeq (dAsg 2 (dOp2 pIx (.v (dOp2 pIx (.p 0) (.v (ret (.int 0))))) (.v (dOp2 pIx (.p 0) (.v (ret (.int 1)))))))
  (dSeq (dSet 0 (ret (.int 1)) (dOp2 pAdd (.v (dOp2 pIx (.p 0) (.v (ret (.int 1))))) (.v (ret (.int 1)))))
  (dIf (dB (dOp2 pGe (.v (dCp 2)) (.v (dOp2 pPow (.v (ret (.int 10))) (.v (ret (.int 18))))))) (dSet 0 (ret (.int 2)) (dOp2 pSub (.v (dCp 2)) (.v (dOp2 pPow (.v (ret (.int 10))) (.v (ret (.int 18))))))) (dSet 0 (ret (.int 3)) (dOp2 pMod (.v (dOp1 pInt (.v (dOp2 pAdd (.v (dOp2 pAdd (.v (dOp2 pMul (.v (dOp2 pIx (.p 0) (.v (ret (.int 3))))) (.v (ret (.int 69621))))) (.v (dCp 2)))) (.v (ret (.int 7))))))) (.v (ret (.int 2147483647)))))))) dNx)
noncomputable def d_law_take_s2 : M Flw :=
  (dIf (dB (dOp2 pGt (.v (dOp2 pIx (.p 0) (.v (ret (.int 2))))) (.v (ret (.int 0))))) (dSeq (dAsg 3 (dOp2 pMod (.v (dOp1 pInt (.v (dOp2 pIx (.p 0) (.v (ret (.int 2))))))) (.v (dCp 1))))
  (dSeq (dSet 0 (ret (.int 2)) (dOp2 pFdiv (.v (dOp2 pIx (.p 0) (.v (ret (.int 2))))) (.v (dCp 1))))
  (dRet (dCp 3)))) dNx)
noncomputable def d_law_take_s3 : M Flw :=
  (dSet 0 (ret (.int 3)) (dOp2 pMod (.v (dOp1 pInt (.v (dOp2 pMul (.v (dOp2 pIx (.p 0) (.v (ret (.int 3))))) (.v (ret (.int 48271))))))) (.v (ret (.int 2147483647)))))
noncomputable def d_law_take_s4 : M Flw :=
  (dRet (dOp2 pMod (.v (dOp2 pFdiv (.v (dOp1 pInt (.v (dOp2 pIx (.p 0) (.v (ret (.int 3))))))) (.v (ret (.int 16))))) (.v (dCp 1))))
noncomputable def d_law_take : M Flw :=
  (dSeq d_law_take_s1
  (dSeq d_law_take_s2
  (dSeq d_law_take_s3
  d_law_take_s4)))
theorem m_law_take_ex : ∃ m : List D → Res, m = run d_law_take [0] 4 2 := ⟨_, rfl⟩
noncomputable def m_law_take : List D → Res := Classical.choose m_law_take_ex
theorem m_law_take_def : m_law_take = run d_law_take [0] 4 2 := Classical.choose_spec m_law_take_ex
/-- _law_name: 0 _law_box_here, 1 _law_names_here, 2 _law_letters, 3 _law_word, 4 _law_k -/
noncomputable def d_law_name_s1 : M Flw :=
  (dAsg 2 (ret (.str "abcdefghijklmnopqrstuvwxyz")))
noncomputable def d_law_name_s2 : M Flw :=
  (dAsg 3 (ret (.str "")))
noncomputable def d_law_name_b3 : M Flw :=
  (dAsg 3 (dOp2 pAdd (.v (dCp 3)) (.v (dOp2 pIx (.v (dCp 2)) (.v (dCall m_law_take [(.io 0, []), (.v (ret (.int 26)), [])]))))))
noncomputable def d_law_name_s3 : M Flw :=
  (dFor (dRg1 (dOp2 pAdd (.v (ret (.int 1))) (.v (dCall m_law_take [(.io 0, []), (.v (ret (.int 4)), [])])))) (.one 4) [] d_law_name_b3)
noncomputable def d_law_name_b5 : M Flw :=
  (dIf (dB (dOp2 pIn (.v (dCp 3)) (.p 1))) (dAsg 3 (dOp2 pAdd (.v (dCp 3)) (.v (ret (.str "x"))))) dNx)
noncomputable def d_law_name_s4 : M Flw :=
  (dFor (dRg1 (dOp1 pLen (.p 1))) (.one 4) [] d_law_name_b5)
noncomputable def d_law_name_s5 : M Flw :=
  (dRet (dCp 3))
noncomputable def d_law_name : M Flw :=
  (dSeq d_law_name_s1
  (dSeq d_law_name_s2
  (dSeq d_law_name_s3
  (dSeq d_law_name_s4
  d_law_name_s5))))
theorem m_law_name_ex : ∃ m : List D → Res, m = run d_law_name [0] 5 2 := ⟨_, rfl⟩
noncomputable def m_law_name : List D → Res := Classical.choose m_law_name_ex
theorem m_law_name_def : m_law_name = run d_law_name [0] 5 2 := Classical.choose_spec m_law_name_ex
/-- _law_names: 0 _law_box_here, 1 _law_size, 2 _law_names_here, 3 _law_k -/
noncomputable def d_law_names_b2 : M Flw :=
  (dApp 2 (dCall m_law_name [(.io 0, []), (.l 2, [])]))
noncomputable def d_law_names : M Flw :=
  (dSeq (dAsg 2 (dLst dNil))
  (dSeq (dFor (dRg1 (dCp 1)) (.one 3) [] d_law_names_b2)
  (dRet (dMv 2))))
theorem m_law_names_ex : ∃ m : List D → Res, m = run d_law_names [0] 4 2 := ⟨_, rfl⟩
noncomputable def m_law_names : List D → Res := Classical.choose m_law_names_ex
theorem m_law_names_def : m_law_names = run d_law_names [0] 4 2 := Classical.choose_spec m_law_names_ex
/-- check_name: 0 name, 1 letter -/
noncomputable def d_check_name_b3 : M Flw :=
  (dIf (dB (dOp2 pNotIn (.v (dCp 1)) (.v (ret (.str "abcdefghijklmnopqrstuvwxyz"))))) (dRaise "InvalidName" ["name"] (dCons (dCp 0) dNil)) dNx)
noncomputable def d_check_name : M Flw :=
  (dSeq (dIf (dNot (dB (dChn pLe pLe (ret (.int 1)) (dOp1 pLen (.v (dCp 0))) (ret (.int 12))))) (dRaise "InvalidName" ["name"] (dCons (dCp 0) dNil)) dNx)
  (dFor (dIt (dCp 0)) (.one 1) [] d_check_name_b3))
theorem m_check_name_ex : ∃ m : List D → Res, m = run d_check_name [] 2 1 := ⟨_, rfl⟩
noncomputable def m_check_name : List D → Res := Classical.choose m_check_name_ex
theorem m_check_name_def : m_check_name = run d_check_name [] 2 1 := Classical.choose_spec m_check_name_ex
/-- check_makes: 0 makes, 1 seen, 2 name -/
noncomputable def d_check_makes_b4 : M Flw :=
  (dSeq (dExpr (dCall m_check_name [(.v (dCp 2), [])]))
  (dSeq (dIf (dB (dOp2 pIn (.v (dCp 2)) (.p 1))) (dRaise "DuplicateMake" ["name"] (dCons (dCp 2) dNil)) dNx)
  (dApp 1 (dCp 2))))
noncomputable def d_check_makes : M Flw :=
  (dSeq (dIf (dB (dOp2 pGt (.v (dOp1 pLen (.p 0))) (.v (ret (.int 12))))) (dRaise "Full" ["most"] (dCons (ret (.int 12)) dNil)) dNx)
  (dSeq (dAsg 1 (dLst dNil))
  (dLendS 0 [2, 1002, 1] (dFor (dIt (dCp 0)) (.one 2) [] d_check_makes_b4))))
theorem m_check_makes_ex : ∃ m : List D → Res, m = run d_check_makes [] 3 1 := ⟨_, rfl⟩
noncomputable def m_check_makes : List D → Res := Classical.choose m_check_makes_ex
theorem m_check_makes_def : m_check_makes = run d_check_makes [] 3 1 := Classical.choose_spec m_check_makes_ex
/-- TrialList.__init__: 0 self, 1 makes -/
noncomputable def d_TrialList___init___s1 : M Flw :=
  (dExpr (dCall m_check_makes [(.v (dCp 1), [])]))
noncomputable def d_TrialList___init___s2 : M Flw :=
  (dSetF 0 "TrialList" "names" (dOp1 pList (.v (dCp 1))))
noncomputable def d_TrialList___init___s3 : M Flw :=
  (dSetF 0 "TrialList" "kept" (dLst dNil))
noncomputable def d_TrialList___init___s4 : M Flw :=
  (dSetF 0 "TrialList" "given" (ret (.int 0)))
noncomputable def d_TrialList___init__ : M Flw :=
  (dSeq d_TrialList___init___s1
  (dSeq d_TrialList___init___s2
  (dSeq d_TrialList___init___s3
  d_TrialList___init___s4)))
theorem m_TrialList___init___ex : ∃ m : List D → Res, m = runS d_TrialList___init__ [0] 2 1 := ⟨_, rfl⟩
noncomputable def m_TrialList___init__ : List D → Res := Classical.choose m_TrialList___init___ex
theorem m_TrialList___init___def : m_TrialList___init__ = runS d_TrialList___init__ [0] 2 1 := Classical.choose_spec m_TrialList___init___ex
/-- TrialList.add_make: 0 self, 1 name -/
noncomputable def d_TrialList_add_make_s1 : M Flw :=
  (dExpr (dCall m_check_name [(.v (dCp 1), [])]))
noncomputable def d_TrialList_add_make_s2 : M Flw :=
  (dIf (dLendT 0 [] (dB (dOp2 pIn (.v (dCp 1)) (.v (dOp1 (pFld "TrialList" "names") (.p 0)))))) (dRaise "DuplicateMake" ["name"] (dCons (dCp 1) dNil)) dNx)
noncomputable def d_TrialList_add_make_s3 : M Flw :=
  (dIf (dLendT 0 [] (dB (dOp2 pGe (.v (dOp1 pLen (.v (dOp1 (pFld "TrialList" "names") (.p 0))))) (.v (ret (.int 12)))))) (dRaise "Full" ["most"] (dCons (ret (.int 12)) dNil)) dNx)
noncomputable def d_TrialList_add_make_s4 : M Flw :=
  (dAppF 0 "TrialList" "names" (dCp 1))
noncomputable def d_TrialList_add_make : M Flw :=
  (dSeq d_TrialList_add_make_s1
  (dSeq d_TrialList_add_make_s2
  (dSeq d_TrialList_add_make_s3
  d_TrialList_add_make_s4)))
theorem m_TrialList_add_make_ex : ∃ m : List D → Res, m = run d_TrialList_add_make [0] 2 2 := ⟨_, rfl⟩
noncomputable def m_TrialList_add_make : List D → Res := Classical.choose m_TrialList_add_make_ex
theorem m_TrialList_add_make_def : m_TrialList_add_make = run d_TrialList_add_make [0] 2 2 := Classical.choose_spec m_TrialList_add_make_ex
/-- _law_trial: 0 _law_box_here, 1 _law_size, 2 _law_word, 3 _law_upper -/
noncomputable def d_law_trial : M Flw :=
  (dSeq (dAsg 2 (dOp2 pIx (.v (dLst (dCons (ret (.str "sits")) (dCons (ret (.str "refuses")) dNil)))) (.v (dCall m_law_take [(.io 0, []), (.v (ret (.int 2)), [])]))))
  (dSeq (dAsg 3 (dCall m_law_take [(.io 0, []), (.v (dCp 1), [])]))
  (dRet (dTup (dCons (dCp 2) (dCons (dCp 3) (dCons (dCall m_law_take [(.io 0, []), (.v (dCp 1), [])]) dNil)))))))
theorem m_law_trial_ex : ∃ m : List D → Res, m = run d_law_trial [0] 4 2 := ⟨_, rfl⟩
noncomputable def m_law_trial : List D → Res := Classical.choose m_law_trial_ex
theorem m_law_trial_def : m_law_trial = run d_law_trial [0] 4 2 := Classical.choose_spec m_law_trial_ex
/-- _law_raw_trials: 0 _law_box_here, 1 _law_size, 2 _law_count, 3 _law_trials, 4 _law_k -/
noncomputable def d_law_raw_trials_b2 : M Flw :=
  (dApp 3 (dCall m_law_trial [(.io 0, []), (.v (dCp 1), [])]))
noncomputable def d_law_raw_trials : M Flw :=
  (dSeq (dAsg 3 (dLst dNil))
  (dSeq (dFor (dRg1 (dOp2 pMul (.v (dCp 2)) (.v (dOp2 pMin (.v (dCp 1)) (.v (ret (.int 1))))))) (.one 4) [] d_law_raw_trials_b2)
  (dRet (dMv 3))))
theorem m_law_raw_trials_ex : ∃ m : List D → Res, m = run d_law_raw_trials [0] 5 3 := ⟨_, rfl⟩
noncomputable def m_law_raw_trials : List D → Res := Classical.choose m_law_raw_trials_ex
theorem m_law_raw_trials_def : m_law_raw_trials = run d_law_raw_trials [0] 5 3 := Classical.choose_spec m_law_raw_trials_ex
/-- _law_rows_of: 0 _law_trials, 1 _law_rows, 2 _law_k -/
noncomputable def d_law_rows_of_b2 : M Flw :=
  (dApp 1 (dTup (dCons (dOp2 pAdd (.v (dCp 2)) (.v (ret (.int 1)))) (dCons (dOp2 pIx (.v (dOp2 pIx (.p 0) (.v (dCp 2)))) (.v (ret (.int 0)))) (dCons (dOp2 pIx (.v (dOp2 pIx (.p 0) (.v (dCp 2)))) (.v (ret (.int 1)))) (dCons (dOp2 pIx (.v (dOp2 pIx (.p 0) (.v (dCp 2)))) (.v (ret (.int 2)))) dNil))))))
noncomputable def d_law_rows_of : M Flw :=
  (dSeq (dAsg 1 (dLst dNil))
  (dSeq (dFor (dRg1 (dOp1 pLen (.p 0))) (.one 2) [] d_law_rows_of_b2)
  (dRet (dMv 1))))
theorem m_law_rows_of_ex : ∃ m : List D → Res, m = run d_law_rows_of [] 3 1 := ⟨_, rfl⟩
noncomputable def m_law_rows_of : List D → Res := Classical.choose m_law_rows_of_ex
theorem m_law_rows_of_def : m_law_rows_of = run d_law_rows_of [] 3 1 := Classical.choose_spec m_law_rows_of_ex
/-- check_known: 0 makes, 1 names, 2 name -/
noncomputable def d_check_known_b1 : M Flw :=
  (dIf (dB (dOp2 pNotIn (.v (dCp 2)) (.p 0))) (dRaise "UnknownMake" ["name"] (dCons (dCp 2) dNil)) dNx)
noncomputable def d_check_known : M Flw :=
  (dFor (dIt (dCp 1)) (.one 2) [] d_check_known_b1)
theorem m_check_known_ex : ∃ m : List D → Res, m = run d_check_known [] 3 2 := ⟨_, rfl⟩
noncomputable def m_check_known : List D → Res := Classical.choose m_check_known_ex
theorem m_check_known_def : m_check_known = run d_check_known [] 3 2 := Classical.choose_spec m_check_known_ex
/-- TrialList.check_trial: 0 self, 1 word, 2 upper, 3 lower -/
noncomputable def d_TrialList_check_trial : M Flw :=
  (dSeq (dIf (dB (dOp2 pNotIn (.v (dCp 1)) (.v (ret (.tup ((["sits", "refuses"] : List Str).map D.str)))))) (dRaise "InvalidWord" ["word"] (dCons (dCp 1) dNil)) dNx)
  (dSeq (dLendS 0 [] (dExpr (dCall m_check_known [(.v (dOp1 (pFld "TrialList" "names") (.p 0)), []), (.v (dTup (dCons (dCp 2) (dCons (dCp 3) dNil))), [])])))
  (dIf (dLendT 0 [] (dB (dOp2 pGe (.v (dOp1 pLen (.v (dOp1 (pFld "TrialList" "kept") (.p 0))))) (.v (ret (.int 60)))))) (dRaise "Full" ["most"] (dCons (ret (.int 60)) dNil)) dNx)))
theorem m_TrialList_check_trial_ex : ∃ m : List D → Res, m = run d_TrialList_check_trial [] 4 4 := ⟨_, rfl⟩
noncomputable def m_TrialList_check_trial : List D → Res := Classical.choose m_TrialList_check_trial_ex
theorem m_TrialList_check_trial_def : m_TrialList_check_trial = run d_TrialList_check_trial [] 4 4 := Classical.choose_spec m_TrialList_check_trial_ex
/-- TrialList.keep: 0 self, 1 word, 2 upper, 3 lower -/
noncomputable def d_TrialList_keep : M Flw :=
  (dSeq (dAugC 0 "TrialList" "given" 1)
  (dSeq (dAppF 0 "TrialList" "kept" (dTup (dCons (dOp1 (pFld "TrialList" "given") (.p 0)) (dCons (dCp 1) (dCons (dCp 2) (dCons (dCp 3) dNil))))))
  (dRet (dOp1 (pFld "TrialList" "given") (.p 0)))))
theorem m_TrialList_keep_ex : ∃ m : List D → Res, m = run d_TrialList_keep [0] 4 4 := ⟨_, rfl⟩
noncomputable def m_TrialList_keep : List D → Res := Classical.choose m_TrialList_keep_ex
theorem m_TrialList_keep_def : m_TrialList_keep = run d_TrialList_keep [0] 4 4 := Classical.choose_spec m_TrialList_keep_ex
/-- TrialList.note: 0 self, 1 word, 2 upper, 3 lower -/
noncomputable def d_TrialList_note : M Flw :=
  (dSeq (dExpr (dMeth "TrialList" "check_trial" m_TrialList_check_trial (.l 0, []) [(.v (dCp 1), []), (.v (dCp 2), []), (.v (dCp 3), [])]))
  (dRet (dMeth "TrialList" "keep" m_TrialList_keep (.io 0, []) [(.v (dCp 1), []), (.v (dCp 2), []), (.v (dCp 3), [])])))
theorem m_TrialList_note_ex : ∃ m : List D → Res, m = run d_TrialList_note [0] 4 4 := ⟨_, rfl⟩
noncomputable def m_TrialList_note : List D → Res := Classical.choose m_TrialList_note_ex
theorem m_TrialList_note_def : m_TrialList_note = run d_TrialList_note [0] 4 4 := Classical.choose_spec m_TrialList_note_ex
/-- TrialList.trial: 0 self, 1 number, 2 row -/
noncomputable def d_TrialList_trial_b1 : M Flw :=
  (dIf (dB (dOp2 pEq (.v (dOp2 pIx (.v (dCp 2)) (.v (ret (.int 0))))) (.v (dCp 1)))) (dRet (dTup (dCons (dOp2 pIx (.v (dCp 2)) (.v (ret (.int 1)))) (dCons (dOp2 pIx (.v (dCp 2)) (.v (ret (.int 2)))) (dCons (dOp2 pIx (.v (dCp 2)) (.v (ret (.int 3)))) dNil))))) dNx)
noncomputable def d_TrialList_trial : M Flw :=
  (dSeq (dLendS 0 [2, 1002] (dFor (dIt (dOp1 (pFld "TrialList" "kept") (.p 0))) (.one 2) [] d_TrialList_trial_b1))
  (dRaise "UnknownTrial" ["number"] (dCons (dCp 1) dNil)))
theorem m_TrialList_trial_ex : ∃ m : List D → Res, m = run d_TrialList_trial [] 3 2 := ⟨_, rfl⟩
noncomputable def m_TrialList_trial : List D → Res := Classical.choose m_TrialList_trial_ex
theorem m_TrialList_trial_def : m_TrialList_trial = run d_TrialList_trial [] 3 2 := Classical.choose_spec m_TrialList_trial_ex
/-- TrialList.retract: 0 self, 1 number, 2 row -/
noncomputable def d_TrialList_retract : M Flw :=
  (dSeq (dExpr (dMeth "TrialList" "trial" m_TrialList_trial (.l 0, []) [(.v (dCp 1), [])]))
  (dSetF 0 "TrialList" "kept" (dLend 0 [1002] (dLc (dIt (dOp1 (pFld "TrialList" "kept") (.p 0))) (.one 2) [2] (dB (dOp2 pNe (.v (dOp2 pIx (.v (dCp 2)) (.v (ret (.int 0))))) (.v (dCp 1)))) (dCp 2)))))
theorem m_TrialList_retract_ex : ∃ m : List D → Res, m = run d_TrialList_retract [0] 3 2 := ⟨_, rfl⟩
noncomputable def m_TrialList_retract : List D → Res := Classical.choose m_TrialList_retract_ex
theorem m_TrialList_retract_def : m_TrialList_retract = run d_TrialList_retract [0] 3 2 := Classical.choose_spec m_TrialList_retract_ex
/-- _law_gapped: 0 _law_box_here, 1 _law_record, 2 _law_rows, 3 _law_left, 4 _law_k, 5 _law_number, 6 _law_row -/
noncomputable def d_law_gapped_b2 : M Flw :=
  (dIf (dB (dOp2 pGt (.v (dOp1 pLen (.p 3))) (.v (ret (.int 0))))) (dSeq (dAsg 5 (dOp2 pIx (.v (dOp2 pIx (.p 3) (.v (dCall m_law_take [(.io 0, []), (.v (dOp1 pLen (.p 3)), [])])))) (.v (ret (.int 0)))))
  (dSeq (dExpr (dMeth "TrialList" "retract" m_TrialList_retract (.io 1, []) [(.v (dCp 5), [])]))
  (dAsg 3 (dLend 3 [1006] (dLc (dIt (dCp 3)) (.one 6) [6] (dB (dOp2 pNe (.v (dOp2 pIx (.v (dCp 6)) (.v (ret (.int 0))))) (.v (dCp 5)))) (dCp 6)))))) dNx)
noncomputable def d_law_gapped : M Flw :=
  (dSeq (dAsg 3 (dOp1 pList (.p 2)))
  (dSeq (dFor (dRg1 (dCall m_law_take [(.io 0, []), (.v (ret (.int 3)), [])])) (.one 4) [] d_law_gapped_b2)
  (dRet (dMv 3))))
theorem m_law_gapped_ex : ∃ m : List D → Res, m = run d_law_gapped [0, 1] 7 3 := ⟨_, rfl⟩
noncomputable def m_law_gapped : List D → Res := Classical.choose m_law_gapped_ex
theorem m_law_gapped_def : m_law_gapped = run d_law_gapped [0, 1] 7 3 := Classical.choose_spec m_law_gapped_ex
/-- _law_drawn_pairs: 0 _law_box_here, 1 _law_size, 2 _law_count, 3 _law_pairs, 4 _law_k, 5 _law_upper -/
noncomputable def d_law_drawn_pairs_b2 : M Flw :=
  (dSeq (dAsg 5 (dCall m_law_take [(.io 0, []), (.v (dCp 1), [])]))
  (dApp 3 (dTup (dCons (dCp 5) (dCons (dCall m_law_take [(.io 0, []), (.v (dCp 1), [])]) dNil)))))
noncomputable def d_law_drawn_pairs : M Flw :=
  (dSeq (dAsg 3 (dLst dNil))
  (dSeq (dFor (dRg1 (dOp2 pMul (.v (dCp 2)) (.v (dOp2 pMin (.v (dCp 1)) (.v (ret (.int 1))))))) (.one 4) [] d_law_drawn_pairs_b2)
  (dRet (dMv 3))))
theorem m_law_drawn_pairs_ex : ∃ m : List D → Res, m = run d_law_drawn_pairs [0] 6 3 := ⟨_, rfl⟩
noncomputable def m_law_drawn_pairs : List D → Res := Classical.choose m_law_drawn_pairs_ex
theorem m_law_drawn_pairs_def : m_law_drawn_pairs = run d_law_drawn_pairs [0] 6 3 := Classical.choose_spec m_law_drawn_pairs_ex
/-- _law_named: 0 _law_names_here, 1 _law_pairs, 2 _law_pair -/
noncomputable def d_law_named : M Flw :=
  (dLendS 1 [1002] (dRet (dLc (dIt (dCp 1)) (.one 2) [2] dYes (dTup (dCons (dOp2 pIx (.p 0) (.v (dOp2 pIx (.v (dCp 2)) (.v (ret (.int 0)))))) (dCons (dOp2 pIx (.p 0) (.v (dOp2 pIx (.v (dCp 2)) (.v (ret (.int 1)))))) dNil))))))
theorem m_law_named_ex : ∃ m : List D → Res, m = run d_law_named [] 3 2 := ⟨_, rfl⟩
noncomputable def m_law_named : List D → Res := Classical.choose m_law_named_ex
theorem m_law_named_def : m_law_named = run d_law_named [] 3 2 := Classical.choose_spec m_law_named_ex
/-- check_pairs: 0 makes, 1 pairs, 2 upper, 3 lower -/
noncomputable def d_check_pairs_b1 : M Flw :=
  (dExpr (dCall m_check_known [(.l 0, []), (.v (dTup (dCons (dCp 2) (dCons (dCp 3) dNil))), [])]))
noncomputable def d_check_pairs : M Flw :=
  (dLendS 1 [2, 1002, 3, 1003] (dFor (dIt (dCp 1)) (.tup [2, 3]) [] d_check_pairs_b1))
theorem m_check_pairs_ex : ∃ m : List D → Res, m = run d_check_pairs [] 4 2 := ⟨_, rfl⟩
noncomputable def m_check_pairs : List D → Res := Classical.choose m_check_pairs_ex
theorem m_check_pairs_def : m_check_pairs = run d_check_pairs [] 4 2 := Classical.choose_spec m_check_pairs_ex
/-- closed_rows: 0 rows, 1 closed, 2 middle, 3 through, 4 upper -/
noncomputable def d_closed_rows_b4 : M Flw :=
  (dIf (dB (dOp2 pEq (.v (dOp2 pBand (.v (dOp2 pShr (.v (dOp2 pIx (.p 1) (.v (dCp 4)))) (.v (dCp 2)))) (.v (ret (.int 1))))) (.v (ret (.int 1))))) (dSet 1 (dCp 4) (dOp2 pBor (.v (dOp2 pIx (.p 1) (.v (dCp 4)))) (.v (dCp 3)))) dNx)
noncomputable def d_closed_rows_b2 : M Flw :=
  (dSeq (dAsg 3 (dOp2 pIx (.p 1) (.v (dCp 2))))
  (dFor (dRg1 (dOp1 pLen (.p 1))) (.one 4) [] d_closed_rows_b4))
noncomputable def d_closed_rows : M Flw :=
  (dSeq (dAsg 1 (dOp1 pList (.p 0)))
  (dSeq (dFor (dRg1 (dOp1 pLen (.p 1))) (.one 2) [] d_closed_rows_b2)
  (dRet (dMv 1))))
theorem m_closed_rows_ex : ∃ m : List D → Res, m = run d_closed_rows [] 5 1 := ⟨_, rfl⟩
noncomputable def m_closed_rows : List D → Res := Classical.choose m_closed_rows_ex
theorem m_closed_rows_def : m_closed_rows = run d_closed_rows [] 5 1 := Classical.choose_spec m_closed_rows_ex
/-- rows_of: 0 names, 1 pairs, 2 at, 3 name, 4 place, 5 rows, 6 upper, 7 lower -/
noncomputable def d_rows_of_s1 : M Flw :=
  (dAsg 4 (dDc (dEnT (dCp 0)) (.tup [2, 3]) [2, 3] dYes (dCp 3) (dCp 2)))
noncomputable def d_rows_of_s2 : M Flw :=
  (dAsg 5 (dLc (dRg1 (dOp1 pLen (.v (dCp 0)))) (.one 2) [2] dYes (dOp2 pShl (.v (ret (.int 1))) (.v (dCp 2)))))
noncomputable def d_rows_of_b3 : M Flw :=
  (dSeq (dAsg 2 (dOp2 pDix (.p 4) (.v (dCp 6))))
  (dSet 5 (dCp 2) (dOp2 pBor (.v (dOp2 pIx (.p 5) (.v (dCp 2)))) (.v (dOp2 pShl (.v (ret (.int 1))) (.v (dOp2 pDix (.p 4) (.v (dCp 7)))))))))
noncomputable def d_rows_of_s3 : M Flw :=
  (dLendS 1 [6, 1006, 7, 1007, 2, 1002, 5] (dFor (dIt (dCp 1)) (.tup [6, 7]) [] d_rows_of_b3))
noncomputable def d_rows_of_s4 : M Flw :=
  (dRet (dOp1 pTuple (.v (dCall m_closed_rows [(.l 5, [])]))))
noncomputable def d_rows_of : M Flw :=
  (dSeq d_rows_of_s1
  (dSeq d_rows_of_s2
  (dSeq d_rows_of_s3
  d_rows_of_s4)))
theorem m_rows_of_ex : ∃ m : List D → Res, m = run d_rows_of [] 8 2 := ⟨_, rfl⟩
noncomputable def m_rows_of : List D → Res := Classical.choose m_rows_of_ex
theorem m_rows_of_def : m_rows_of = run d_rows_of [] 8 2 := Classical.choose_spec m_rows_of_ex
/-- Order.__init__: 0 self, 1 makes, 2 pairs -/
noncomputable def d_Order___init___s1 : M Flw :=
  (dExpr (dCall m_check_makes [(.l 1, [])]))
noncomputable def d_Order___init___s2 : M Flw :=
  (dExpr (dCall m_check_pairs [(.l 1, []), (.l 2, [])]))
noncomputable def d_Order___init___s3 : M Flw :=
  (dSetF 0 "Order" "names" (dOp1 pTuple (.p 1)))
noncomputable def d_Order___init___s4 : M Flw :=
  (dSetF 0 "Order" "rows" (dCall m_rows_of [(.v (dOp1 (pFld "Order" "names") (.p 0)), []), (.l 2, [])]))
noncomputable def d_Order___init__ : M Flw :=
  (dSeq d_Order___init___s1
  (dSeq d_Order___init___s2
  (dSeq d_Order___init___s3
  d_Order___init___s4)))
theorem m_Order___init___ex : ∃ m : List D → Res, m = run d_Order___init__ [0] 3 3 := ⟨_, rfl⟩
noncomputable def m_Order___init__ : List D → Res := Classical.choose m_Order___init___ex
theorem m_Order___init___def : m_Order___init__ = run d_Order___init__ [0] 3 3 := Classical.choose_spec m_Order___init___ex
/-- TrialList.makes: 0 self -/
noncomputable def d_TrialList_makes : M Flw :=
  (dLendS 0 [] (dRet (dOp1 pTuple (.v (dOp1 (pFld "TrialList" "names") (.p 0))))))
theorem m_TrialList_makes_ex : ∃ m : List D → Res, m = run d_TrialList_makes [] 1 1 := ⟨_, rfl⟩
noncomputable def m_TrialList_makes : List D → Res := Classical.choose m_TrialList_makes_ex
theorem m_TrialList_makes_def : m_TrialList_makes = run d_TrialList_makes [] 1 1 := Classical.choose_spec m_TrialList_makes_ex
/-- Order.has: 0 self, 1 upper, 2 lower, 3 at -/
noncomputable def d_Order_has : M Flw :=
  (dSeq (dAsg 3 (dTix (dOp1 (pFld "Order" "names") (.p 0)) (dCp 1)))
  (dRet (dOp2 pEq (.v (dOp2 pBand (.v (dOp2 pShr (.v (dOp2 pIx (.v (dOp1 (pFld "Order" "rows") (.p 0))) (.v (dCp 3)))) (.v (dTix (dOp1 (pFld "Order" "names") (.p 0)) (dCp 2))))) (.v (ret (.int 1))))) (.v (ret (.int 1))))))
theorem m_Order_has_ex : ∃ m : List D → Res, m = run d_Order_has [] 4 3 := ⟨_, rfl⟩
noncomputable def m_Order_has : List D → Res := Classical.choose m_Order_has_ex
theorem m_Order_has_def : m_Order_has = run d_Order_has [] 4 3 := Classical.choose_spec m_Order_has_ex
/-- TrialList.against: 0 self, 1 order, 2 row -/
noncomputable def d_TrialList_against : M Flw :=
  (dSeq (dIf (dB (dOp2 pNe (.v (dOp1 (pFld "Order" "names") (.p 1))) (.v (dProp "TrialList" "makes" m_TrialList_makes 0)))) (dRaise "UnlikeMakes" [] dNil) dNx)
  (dLendS 0 [1002] (dRet (dLc (dIt (dOp1 (pFld "TrialList" "kept") (.p 0))) (.one 2) [2] (dB (dOp2 pNe (.v (dMeth "Order" "has" m_Order_has (.l 1, []) [(.v (dOp2 pIx (.v (dCp 2)) (.v (ret (.int 2)))), []), (.v (dOp2 pIx (.v (dCp 2)) (.v (ret (.int 3)))), [])])) (.v (dOp2 pEq (.v (dOp2 pIx (.v (dCp 2)) (.v (ret (.int 1))))) (.v (ret (.str "sits"))))))) (dOp2 pIx (.v (dCp 2)) (.v (ret (.int 0))))))))
theorem m_TrialList_against_ex : ∃ m : List D → Res, m = run d_TrialList_against [] 3 2 := ⟨_, rfl⟩
noncomputable def m_TrialList_against : List D → Res := Classical.choose m_TrialList_against_ex
theorem m_TrialList_against_def : m_TrialList_against = run d_TrialList_against [] 3 2 := Classical.choose_spec m_TrialList_against_ex
/-- TrialList.admits: 0 self, 1 order -/
noncomputable def d_TrialList_admits : M Flw :=
  (dRet (dOp2 pEq (.v (dMeth "TrialList" "against" m_TrialList_against (.l 0, []) [(.l 1, [])])) (.v (dLst dNil))))
theorem m_TrialList_admits_ex : ∃ m : List D → Res, m = run d_TrialList_admits [] 2 2 := ⟨_, rfl⟩
noncomputable def m_TrialList_admits : List D → Res := Classical.choose m_TrialList_admits_ex
theorem m_TrialList_admits_def : m_TrialList_admits = run d_TrialList_admits [] 2 2 := Classical.choose_spec m_TrialList_admits_ex
/-- _law_refused: 0 _law_way, 1 _law_book, 2 _law_order -/
noncomputable def d_law_refused : M Flw :=
  (dTry (dSeq (dIf (dB (dOp2 pEq (.v (dCp 0)) (.v (ret (.int 0))))) (dRet (dOp2 pIs (.v (dMeth "TrialList" "against" m_TrialList_against (.l 1, []) [(.l 2, [])])) (.v (ret .non)))) dNx)
  (dRet (dOp2 pIs (.v (dMeth "TrialList" "admits" m_TrialList_admits (.l 1, []) [(.l 2, [])])) (.v (ret .non))))) [("UnlikeMakes", none, fun c ks xs => (dRet (ret (.bl true))))])
theorem m_law_refused_ex : ∃ m : List D → Res, m = run d_law_refused [] 3 3 := ⟨_, rfl⟩
noncomputable def m_law_refused : List D → Res := Classical.choose m_law_refused_ex
theorem m_law_refused_def : m_law_refused = run d_law_refused [] 3 3 := Classical.choose_spec m_law_refused_ex
/-- _law_closed: 0 _law_size, 1 _law_pairs, 2 _law_reach, 3 _law_a, 4 _law_b, 5 _law_pair, 6 _law_m -/
noncomputable def d_law_closed_s1 : M Flw :=
  (dAsg 2 (dLst dNil))
noncomputable def d_law_closed_b2 : M Flw :=
  (dApp 2 (dLc (dRg1 (dCp 0)) (.one 4) [4] dYes (dOp2 pEq (.v (dCp 3)) (.v (dCp 4)))))
noncomputable def d_law_closed_s2 : M Flw :=
  (dFor (dRg1 (dCp 0)) (.one 3) [] d_law_closed_b2)
noncomputable def d_law_closed_b4 : M Flw :=
  (dSet2 2 (dOp2 pIx (.v (dCp 5)) (.v (ret (.int 0)))) (dOp2 pIx (.v (dCp 5)) (.v (ret (.int 1)))) (ret (.bl true)))
noncomputable def d_law_closed_s3 : M Flw :=
  (dLendS 1 [5, 1005, 2] (dFor (dIt (dCp 1)) (.one 5) [] d_law_closed_b4))
noncomputable def d_law_closed_b9 : M Flw :=
  (dIf (dLendT 2 [] (dTru (.v (dOp2 pIx (.v (dOp2 pIx (.p 2) (.v (dCp 6)))) (.v (dCp 4)))))) (dSet2 2 (dCp 3) (dCp 4) (ret (.bl true))) dNx)
noncomputable def d_law_closed_b7 : M Flw :=
  (dIf (dLendT 2 [] (dTru (.v (dOp2 pIx (.v (dOp2 pIx (.p 2) (.v (dCp 3)))) (.v (dCp 6)))))) (dFor (dRg1 (dCp 0)) (.one 4) [] d_law_closed_b9) dNx)
noncomputable def d_law_closed_b6 : M Flw :=
  (dFor (dRg1 (dCp 0)) (.one 3) [] d_law_closed_b7)
noncomputable def d_law_closed_s4 : M Flw :=
  (dFor (dRg1 (dCp 0)) (.one 6) [] d_law_closed_b6)
noncomputable def d_law_closed_s5 : M Flw :=
  (dRet (dMv 2))
noncomputable def d_law_closed : M Flw :=
  (dSeq d_law_closed_s1
  (dSeq d_law_closed_s2
  (dSeq d_law_closed_s3
  (dSeq d_law_closed_s4
  d_law_closed_s5))))
theorem m_law_closed_ex : ∃ m : List D → Res, m = run d_law_closed [] 7 2 := ⟨_, rfl⟩
noncomputable def m_law_closed : List D → Res := Classical.choose m_law_closed_ex
theorem m_law_closed_def : m_law_closed = run d_law_closed [] 7 2 := Classical.choose_spec m_law_closed_ex
/-- _law_is_int: 0 _law_value -/
noncomputable def d_law_is_int : M Flw :=
  (dRet (dAndV (dOp1 (pIsi .int) (.v (dCp 0))) (dNotV (dOp1 (pIsi .bool) (.v (dCp 0))))))
theorem m_law_is_int_ex : ∃ m : List D → Res, m = run d_law_is_int [] 1 1 := ⟨_, rfl⟩
noncomputable def m_law_is_int : List D → Res := Classical.choose m_law_is_int_ex
theorem m_law_is_int_def : m_law_is_int = run d_law_is_int [] 1 1 := Classical.choose_spec m_law_is_int_ex
/-- _law_are_ints: 0 _law_value, 1 _law_expected, 2 _law_k -/
noncomputable def d_law_are_ints_b3 : M Flw :=
  (dIf (dOr (dNot (dB (dCall m_law_is_int [(.v (dOp2 pIx (.p 0) (.v (dCp 2))), [])]))) (dB (dOp2 pNe (.v (dOp2 pIx (.p 0) (.v (dCp 2)))) (.v (dOp2 pIx (.p 1) (.v (dCp 2))))))) (dRet (ret (.bl false))) dNx)
noncomputable def d_law_are_ints : M Flw :=
  (dSeq (dIf (dOr (dNot (dB (dOp1 (pIsi .list) (.p 0)))) (dB (dOp2 pNe (.v (dOp1 pLen (.p 0))) (.v (dOp1 pLen (.p 1)))))) (dRet (ret (.bl false))) dNx)
  (dSeq (dFor (dRg1 (dOp1 pLen (.p 1))) (.one 2) [] d_law_are_ints_b3)
  (dRet (ret (.bl true)))))
theorem m_law_are_ints_ex : ∃ m : List D → Res, m = run d_law_are_ints [] 3 2 := ⟨_, rfl⟩
noncomputable def m_law_are_ints : List D → Res := Classical.choose m_law_are_ints_ex
theorem m_law_are_ints_def : m_law_are_ints = run d_law_are_ints [] 3 2 := Classical.choose_spec m_law_are_ints_ex
/-- law: 0 _law_script, 1 _law_box_here, 2 _law_size, 3 _law_names_here, 4 _law_book, 5 _law_name_here, 6 _law_rows, 7 _law_row, 8 _law_way, 9 _law_others, 10 _law_drawn, 11 _law_order, 12 _law_unlike, 13 _law_reach, 14 _law_due, 15 _law_told, 16 _law_found -/
noncomputable def d_law_s1 : M Flw :=
  (dAsg 1 (dCall m_law_box [(.l 0, [])]))
noncomputable def d_law_s2 : M Flw :=
  (dAsg 2 (dOp2 pAdd (.v (ret (.int 1))) (.v (dCall m_law_take [(.io 1, []), (.v (ret (.int 5)), [])]))))
noncomputable def d_law_s3 : M Flw :=
  (dAsg 3 (dCall m_law_names [(.io 1, []), (.v (dCp 2), [])]))
noncomputable def d_law_s4 : M Flw :=
  (dAsg 4 (dMake "TrialList" m_TrialList___init__ []))
noncomputable def d_law_b5 : M Flw :=
  (dExpr (dMeth "TrialList" "add_make" m_TrialList_add_make (.io 4, []) [(.v (dCp 5), [])]))
noncomputable def d_law_s5 : M Flw :=
  (dLendS 3 [5, 1005, 4] (dFor (dIt (dCp 3)) (.one 5) [] d_law_b5))
noncomputable def d_law_s6 : M Flw :=
  (dAsg 6 (dCall m_law_rows_of [(.v (dCall m_law_raw_trials [(.io 1, []), (.v (dCp 2), []), (.v (dCall m_law_take [(.io 1, []), (.v (ret (.int 11)), [])]), [1])]), [1, 1])]))
noncomputable def d_law_b8 : M Flw :=
  (dExpr (dMeth "TrialList" "note" m_TrialList_note (.io 4, []) [(.v (dOp2 pIx (.v (dCp 7)) (.v (ret (.int 1)))), []), (.v (dOp2 pIx (.p 3) (.v (dOp2 pIx (.v (dCp 7)) (.v (ret (.int 2)))))), []), (.v (dOp2 pIx (.p 3) (.v (dOp2 pIx (.v (dCp 7)) (.v (ret (.int 3)))))), [])]))
noncomputable def d_law_s7 : M Flw :=
  (dLendS 6 [7, 1007, 4] (dFor (dIt (dCp 6)) (.one 7) [] d_law_b8))
noncomputable def d_law_s8 : M Flw :=
  (dAsg 6 (dCall m_law_gapped [(.io 1, []), (.io 4, []), (.l 6, [])]))
noncomputable def d_law_s9 : M Flw :=
  (dAsg 8 (dCall m_law_take [(.io 1, []), (.v (ret (.int 5)), [])]))
noncomputable def d_law_s10 : M Flw :=
  (dAsg 9 (dOp1 pList (.p 3)))
noncomputable def d_law_s11 : M Flw :=
  (dIf (dB (dOp2 pEq (.v (dCp 8)) (.v (ret (.int 1))))) (dRev 9) dNx)
noncomputable def d_law_s12 : M Flw :=
  (dIf (dB (dOp2 pEq (.v (dCp 8)) (.v (ret (.int 2))))) (dLendS 3 [9, 1009] (dAsg 9 (dSl (dCp 3) (dPart (ret (.int 1))) (ret none)))) dNx)
noncomputable def d_law_s13 : M Flw :=
  (dIf (dB (dOp2 pEq (.v (dCp 8)) (.v (ret (.int 3))))) (dAsg 9 (dOp2 pAdd (.p 3) (.v (dLst (dCons (ret (.str "zzzzzzzz")) dNil))))) dNx)
noncomputable def d_law_s14 : M Flw :=
  (dAsg 10 (dCall m_law_drawn_pairs [(.io 1, []), (.v (dOp1 pLen (.p 9)), []), (.v (dCall m_law_take [(.io 1, []), (.v (ret (.int 8)), [])]), [1])]))
noncomputable def d_law_s15 : M Flw :=
  (dAsg 11 (dMake "Order" m_Order___init__ [(.l 9, []), (.v (dCall m_law_named [(.l 9, []), (.l 10, [])]), [])]))
noncomputable def d_law_s16 : M Flw :=
  (dAsg 12 (dOp2 pNe (.p 9) (.p 3)))
noncomputable def d_law_s17 : M Flw :=
  (dIf (dOr (dB (dOp2 pNe (.v (dCall m_law_refused [(.v (ret (.int 0)), []), (.l 4, []), (.l 11, [])])) (.v (dCp 12)))) (dB (dOp2 pNe (.v (dCall m_law_refused [(.v (ret (.int 1)), []), (.l 4, []), (.l 11, [])])) (.v (dCp 12))))) (dRet (ret (.bl false))) dNx)
noncomputable def d_law_s18 : M Flw :=
  (dIf (dTru (.v (dCp 12))) (dRet (ret (.bl true))) dNx)
noncomputable def d_law_s19 : M Flw :=
  (dAsg 13 (dCall m_law_closed [(.v (dCp 2), []), (.l 10, [])]))
noncomputable def d_law_s20 : M Flw :=
  (dLendS 13 [1007, 14, 1014] (dLendS 6 [1007, 14, 1014] (dAsg 14 (dLc (dIt (dCp 6)) (.one 7) [7] (dB (dOp2 pNe (.v (dOp2 pIx (.v (dOp2 pIx (.p 13) (.v (dOp2 pIx (.v (dCp 7)) (.v (ret (.int 2))))))) (.v (dOp2 pIx (.v (dCp 7)) (.v (ret (.int 3))))))) (.v (dOp2 pEq (.v (dOp2 pIx (.v (dCp 7)) (.v (ret (.int 1))))) (.v (ret (.str "sits"))))))) (dOp2 pIx (.v (dCp 7)) (.v (ret (.int 0))))))))
noncomputable def d_law_s21 : M Flw :=
  (dAsg 15 (dMeth "TrialList" "against" m_TrialList_against (.l 4, []) [(.l 11, [])]))
noncomputable def d_law_s22 : M Flw :=
  (dIf (dNot (dB (dCall m_law_are_ints [(.l 15, []), (.l 14, [])]))) (dRet (ret (.bl false))) dNx)
noncomputable def d_law_s23 : M Flw :=
  (dApp 15 (ret (.int 0)))
noncomputable def d_law_s24 : M Flw :=
  (dAsg 16 (dMeth "TrialList" "admits" m_TrialList_admits (.l 4, []) [(.l 11, [])]))
noncomputable def d_law_s25 : M Flw :=
  (dRet (dAndV (dCall m_law_are_ints [(.v (dMeth "TrialList" "against" m_TrialList_against (.l 4, []) [(.l 11, [])]), []), (.l 14, [])]) (dAndV (dOp1 (pIsi .bool) (.v (dCp 16))) (dOp2 pEq (.v (dCp 16)) (.v (dOp2 pEq (.p 14) (.v (dLst dNil))))))))
noncomputable def d_law : M Flw :=
  (dSeq d_law_s1
  (dSeq d_law_s2
  (dSeq d_law_s3
  (dSeq d_law_s4
  (dSeq d_law_s5
  (dSeq d_law_s6
  (dSeq d_law_s7
  (dSeq d_law_s8
  (dSeq d_law_s9
  (dSeq d_law_s10
  (dSeq d_law_s11
  (dSeq d_law_s12
  (dSeq d_law_s13
  (dSeq d_law_s14
  (dSeq d_law_s15
  (dSeq d_law_s16
  (dSeq d_law_s17
  (dSeq d_law_s18
  (dSeq d_law_s19
  (dSeq d_law_s20
  (dSeq d_law_s21
  (dSeq d_law_s22
  (dSeq d_law_s23
  (dSeq d_law_s24
  d_law_s25))))))))))))))))))))))))
theorem m_law_ex : ∃ m : List D → Res, m = run d_law [] 17 1 := ⟨_, rfl⟩
noncomputable def m_law : List D → Res := Classical.choose m_law_ex
theorem m_law_def : m_law = run d_law [] 17 1 := Classical.choose_spec m_law_ex
def topS (i : Nat) : Stmt := PySem.Challenge.pw_chairstack_k13_against_and_admits.main.body.getD i (.Pass ⟨0, 0, 0, 0⟩)
def clsB : Stmt → List Stmt
  | .ClassDef (body := b) .. => b
  | _ => []
def cls_st (i j : Nat) : Stmt := (clsB (topS i)).getD j (.Pass ⟨0, 0, 0, 0⟩)
/-- what the top has written -/
structure Txt (K : PySem.W.Frag) (mg : Str → Option Value) (f_law_box f_law_take f_law_name f_law_names f_check_name f_check_makes f_TrialList___init__ f_TrialList_add_make f_law_trial f_law_raw_trials f_law_rows_of f_check_known f_TrialList_check_trial f_TrialList_keep f_TrialList_note f_TrialList_trial f_TrialList_retract f_law_gapped f_law_drawn_pairs f_law_named f_check_pairs f_closed_rows f_rows_of f_Order___init__ f_TrialList_makes f_Order_has f_TrialList_against f_TrialList_admits f_law_refused f_law_closed f_law_is_int f_law_are_ints f_law C_Full C_InvalidName C_DuplicateMake C_InvalidWord C_UnknownMake C_UnknownTrial C_UnlikeMakes C_Order C_TrialList fi_Full fi_InvalidName fi_DuplicateMake fi_InvalidWord fi_UnknownMake fi_UnknownTrial pp_Order_makes fp_Order_makes pp_TrialList_makes : Addr) (fd_law_box fd_law_take fd_law_name fd_law_names fd_check_name fd_check_makes fd_TrialList___init__ fd_TrialList_add_make fd_law_trial fd_law_raw_trials fd_law_rows_of fd_check_known fd_TrialList_check_trial fd_TrialList_keep fd_TrialList_note fd_TrialList_trial fd_TrialList_retract fd_law_gapped fd_law_drawn_pairs fd_law_named fd_check_pairs fd_closed_rows fd_rows_of fd_Order___init__ fd_TrialList_makes fd_Order_has fd_TrialList_against fd_TrialList_admits fd_law_refused fd_law_closed fd_law_is_int fd_law_are_ints fd_law fdi_Full fdi_InvalidName fdi_DuplicateMake fdi_InvalidWord fdi_UnknownMake fdi_UnknownTrial fdp_Order_makes : FuncData) : Prop where
  b_bool : mg "bool" = none
  b_enumerate : mg "enumerate" = none
  b_int : mg "int" = none
  b_isinstance : mg "isinstance" = none
  b_len : mg "len" = none
  b_list : mg "list" = none
  b_min : mg "min" = none
  b_range : mg "range" = none
  b_tuple : mg "tuple" = none
  k_LETTERS : ∃ t : Tok, mg "LETTERS" = some (.str "abcdefghijklmnopqrstuvwxyz" t)
  k_LONGEST_NAME : ∃ t : Tok, mg "LONGEST_NAME" = some (.int 12 t)
  k_MOST_MAKES : ∃ t : Tok, mg "MOST_MAKES" = some (.int 12 t)
  k_MOST_TRIALS : ∃ t : Tok, mg "MOST_TRIALS" = some (.int 60 t)
  F_law_box : Fun K "_law_box" "_law_box" (topS 27) f_law_box fd_law_box
  g_law_box : mg "_law_box" = some (.ref f_law_box)
  a_law_box : L2.Binds K fd_law_box ["_law_script"] []
  F_law_take : Fun K "_law_take" "_law_take" (topS 28) f_law_take fd_law_take
  g_law_take : mg "_law_take" = some (.ref f_law_take)
  a_law_take : L2.Binds K fd_law_take ["_law_box_here", "_law_many"] []
  F_law_name : Fun K "_law_name" "_law_name" (topS 29) f_law_name fd_law_name
  g_law_name : mg "_law_name" = some (.ref f_law_name)
  a_law_name : L2.Binds K fd_law_name ["_law_box_here", "_law_names_here"] []
  F_law_names : Fun K "_law_names" "_law_names" (topS 30) f_law_names fd_law_names
  g_law_names : mg "_law_names" = some (.ref f_law_names)
  a_law_names : L2.Binds K fd_law_names ["_law_box_here", "_law_size"] []
  F_check_name : Fun K "check_name" "check_name" (topS 14) f_check_name fd_check_name
  g_check_name : mg "check_name" = some (.ref f_check_name)
  a_check_name : L2.Binds K fd_check_name ["name"] []
  F_check_makes : Fun K "check_makes" "check_makes" (topS 15) f_check_makes fd_check_makes
  g_check_makes : mg "check_makes" = some (.ref f_check_makes)
  a_check_makes : L2.Binds K fd_check_makes ["makes"] []
  F_TrialList___init__ : Fun K "__init__" "TrialList.__init__" (cls_st 25 1) f_TrialList___init__ fd_TrialList___init__
  a_TrialList___init__ : BindsS fd_TrialList___init__ ["self"] "makes"
  F_TrialList_add_make : Fun K "add_make" "TrialList.add_make" (cls_st 25 4) f_TrialList_add_make fd_TrialList_add_make
  a_TrialList_add_make : L2.Binds K fd_TrialList_add_make ["self", "name"] []
  F_law_trial : Fun K "_law_trial" "_law_trial" (topS 32) f_law_trial fd_law_trial
  g_law_trial : mg "_law_trial" = some (.ref f_law_trial)
  a_law_trial : L2.Binds K fd_law_trial ["_law_box_here", "_law_size"] []
  F_law_raw_trials : Fun K "_law_raw_trials" "_law_raw_trials" (topS 33) f_law_raw_trials fd_law_raw_trials
  g_law_raw_trials : mg "_law_raw_trials" = some (.ref f_law_raw_trials)
  a_law_raw_trials : L2.Binds K fd_law_raw_trials ["_law_box_here", "_law_size", "_law_count"] []
  F_law_rows_of : Fun K "_law_rows_of" "_law_rows_of" (topS 31) f_law_rows_of fd_law_rows_of
  g_law_rows_of : mg "_law_rows_of" = some (.ref f_law_rows_of)
  a_law_rows_of : L2.Binds K fd_law_rows_of ["_law_trials"] []
  F_check_known : Fun K "check_known" "check_known" (topS 16) f_check_known fd_check_known
  g_check_known : mg "check_known" = some (.ref f_check_known)
  a_check_known : L2.Binds K fd_check_known ["makes", "names"] []
  F_TrialList_check_trial : Fun K "check_trial" "TrialList.check_trial" (cls_st 25 5) f_TrialList_check_trial fd_TrialList_check_trial
  a_TrialList_check_trial : L2.Binds K fd_TrialList_check_trial ["self", "word", "upper", "lower"] []
  F_TrialList_keep : Fun K "keep" "TrialList.keep" (cls_st 25 6) f_TrialList_keep fd_TrialList_keep
  a_TrialList_keep : L2.Binds K fd_TrialList_keep ["self", "word", "upper", "lower"] []
  F_TrialList_note : Fun K "note" "TrialList.note" (cls_st 25 7) f_TrialList_note fd_TrialList_note
  a_TrialList_note : L2.Binds K fd_TrialList_note ["self", "word", "upper", "lower"] []
  F_TrialList_trial : Fun K "trial" "TrialList.trial" (cls_st 25 8) f_TrialList_trial fd_TrialList_trial
  a_TrialList_trial : L2.Binds K fd_TrialList_trial ["self", "number"] []
  F_TrialList_retract : Fun K "retract" "TrialList.retract" (cls_st 25 9) f_TrialList_retract fd_TrialList_retract
  a_TrialList_retract : L2.Binds K fd_TrialList_retract ["self", "number"] []
  F_law_gapped : Fun K "_law_gapped" "_law_gapped" (topS 34) f_law_gapped fd_law_gapped
  g_law_gapped : mg "_law_gapped" = some (.ref f_law_gapped)
  a_law_gapped : L2.Binds K fd_law_gapped ["_law_box_here", "_law_record", "_law_rows"] []
  F_law_drawn_pairs : Fun K "_law_drawn_pairs" "_law_drawn_pairs" (topS 35) f_law_drawn_pairs fd_law_drawn_pairs
  g_law_drawn_pairs : mg "_law_drawn_pairs" = some (.ref f_law_drawn_pairs)
  a_law_drawn_pairs : L2.Binds K fd_law_drawn_pairs ["_law_box_here", "_law_size", "_law_count"] []
  F_law_named : Fun K "_law_named" "_law_named" (topS 36) f_law_named fd_law_named
  g_law_named : mg "_law_named" = some (.ref f_law_named)
  a_law_named : L2.Binds K fd_law_named ["_law_names_here", "_law_pairs"] []
  F_check_pairs : Fun K "check_pairs" "check_pairs" (topS 17) f_check_pairs fd_check_pairs
  g_check_pairs : mg "check_pairs" = some (.ref f_check_pairs)
  a_check_pairs : L2.Binds K fd_check_pairs ["makes", "pairs"] []
  F_closed_rows : Fun K "closed_rows" "closed_rows" (topS 19) f_closed_rows fd_closed_rows
  g_closed_rows : mg "closed_rows" = some (.ref f_closed_rows)
  a_closed_rows : L2.Binds K fd_closed_rows ["rows"] []
  F_rows_of : Fun K "rows_of" "rows_of" (topS 20) f_rows_of fd_rows_of
  g_rows_of : mg "rows_of" = some (.ref f_rows_of)
  a_rows_of : L2.Binds K fd_rows_of ["names", "pairs"] []
  F_Order___init__ : ∃ dvs : List V, FunD K "__init__" "Order.__init__" (defArgs (cls_st 21 1)) (defBody (cls_st 21 1)) (defScope (cls_st 21 1)) dvs [] f_Order___init__ fd_Order___init__
  kp_Order___init__ : PySem.W.keepIn K (.ref f_Order___init__) = true
  a_Order___init__ : L2.Binds K fd_Order___init__ ["self", "makes", "pairs"] []
  F_TrialList_makes : Fun K "makes" "TrialList.makes" (cls_st 25 2) f_TrialList_makes fd_TrialList_makes
  a_TrialList_makes : L2.Binds K fd_TrialList_makes ["self"] []
  F_Order_has : Fun K "has" "Order.has" (cls_st 21 5) f_Order_has fd_Order_has
  a_Order_has : L2.Binds K fd_Order_has ["self", "upper", "lower"] []
  F_TrialList_against : Fun K "against" "TrialList.against" (cls_st 25 11) f_TrialList_against fd_TrialList_against
  a_TrialList_against : L2.Binds K fd_TrialList_against ["self", "order"] []
  F_TrialList_admits : Fun K "admits" "TrialList.admits" (cls_st 25 12) f_TrialList_admits fd_TrialList_admits
  a_TrialList_admits : L2.Binds K fd_TrialList_admits ["self", "order"] []
  F_law_refused : Fun K "_law_refused" "_law_refused" (topS 40) f_law_refused fd_law_refused
  g_law_refused : mg "_law_refused" = some (.ref f_law_refused)
  a_law_refused : L2.Binds K fd_law_refused ["_law_way", "_law_book", "_law_order"] []
  F_law_closed : Fun K "_law_closed" "_law_closed" (topS 37) f_law_closed fd_law_closed
  g_law_closed : mg "_law_closed" = some (.ref f_law_closed)
  a_law_closed : L2.Binds K fd_law_closed ["_law_size", "_law_pairs"] []
  F_law_is_int : Fun K "_law_is_int" "_law_is_int" (topS 38) f_law_is_int fd_law_is_int
  g_law_is_int : mg "_law_is_int" = some (.ref f_law_is_int)
  a_law_is_int : L2.Binds K fd_law_is_int ["_law_value"] []
  F_law_are_ints : Fun K "_law_are_ints" "_law_are_ints" (topS 39) f_law_are_ints fd_law_are_ints
  g_law_are_ints : mg "_law_are_ints" = some (.ref f_law_are_ints)
  a_law_are_ints : L2.Binds K fd_law_are_ints ["_law_value", "_law_expected"] []
  F_law : Fun K "law" "law" (topS 41) f_law fd_law
  g_law : mg "law" = some (.ref f_law)
  a_law : L2.Binds K fd_law ["_law_script"] []
  g_Full : mg "Full" = some (.ref C_Full)
  c_Full : cls [("Full", C_Full), ("InvalidName", C_InvalidName), ("DuplicateMake", C_DuplicateMake), ("InvalidWord", C_InvalidWord), ("UnknownMake", C_UnknownMake), ("UnknownTrial", C_UnknownTrial), ("UnlikeMakes", C_UnlikeMakes), ("Order", C_Order), ("TrialList", C_TrialList)] "Full" = some C_Full
  g_InvalidName : mg "InvalidName" = some (.ref C_InvalidName)
  c_InvalidName : cls [("Full", C_Full), ("InvalidName", C_InvalidName), ("DuplicateMake", C_DuplicateMake), ("InvalidWord", C_InvalidWord), ("UnknownMake", C_UnknownMake), ("UnknownTrial", C_UnknownTrial), ("UnlikeMakes", C_UnlikeMakes), ("Order", C_Order), ("TrialList", C_TrialList)] "InvalidName" = some C_InvalidName
  g_DuplicateMake : mg "DuplicateMake" = some (.ref C_DuplicateMake)
  c_DuplicateMake : cls [("Full", C_Full), ("InvalidName", C_InvalidName), ("DuplicateMake", C_DuplicateMake), ("InvalidWord", C_InvalidWord), ("UnknownMake", C_UnknownMake), ("UnknownTrial", C_UnknownTrial), ("UnlikeMakes", C_UnlikeMakes), ("Order", C_Order), ("TrialList", C_TrialList)] "DuplicateMake" = some C_DuplicateMake
  g_InvalidWord : mg "InvalidWord" = some (.ref C_InvalidWord)
  c_InvalidWord : cls [("Full", C_Full), ("InvalidName", C_InvalidName), ("DuplicateMake", C_DuplicateMake), ("InvalidWord", C_InvalidWord), ("UnknownMake", C_UnknownMake), ("UnknownTrial", C_UnknownTrial), ("UnlikeMakes", C_UnlikeMakes), ("Order", C_Order), ("TrialList", C_TrialList)] "InvalidWord" = some C_InvalidWord
  g_UnknownMake : mg "UnknownMake" = some (.ref C_UnknownMake)
  c_UnknownMake : cls [("Full", C_Full), ("InvalidName", C_InvalidName), ("DuplicateMake", C_DuplicateMake), ("InvalidWord", C_InvalidWord), ("UnknownMake", C_UnknownMake), ("UnknownTrial", C_UnknownTrial), ("UnlikeMakes", C_UnlikeMakes), ("Order", C_Order), ("TrialList", C_TrialList)] "UnknownMake" = some C_UnknownMake
  g_UnknownTrial : mg "UnknownTrial" = some (.ref C_UnknownTrial)
  c_UnknownTrial : cls [("Full", C_Full), ("InvalidName", C_InvalidName), ("DuplicateMake", C_DuplicateMake), ("InvalidWord", C_InvalidWord), ("UnknownMake", C_UnknownMake), ("UnknownTrial", C_UnknownTrial), ("UnlikeMakes", C_UnlikeMakes), ("Order", C_Order), ("TrialList", C_TrialList)] "UnknownTrial" = some C_UnknownTrial
  g_UnlikeMakes : mg "UnlikeMakes" = some (.ref C_UnlikeMakes)
  c_UnlikeMakes : cls [("Full", C_Full), ("InvalidName", C_InvalidName), ("DuplicateMake", C_DuplicateMake), ("InvalidWord", C_InvalidWord), ("UnknownMake", C_UnknownMake), ("UnknownTrial", C_UnknownTrial), ("UnlikeMakes", C_UnlikeMakes), ("Order", C_Order), ("TrialList", C_TrialList)] "UnlikeMakes" = some C_UnlikeMakes
  g_Order : mg "Order" = some (.ref C_Order)
  c_Order : cls [("Full", C_Full), ("InvalidName", C_InvalidName), ("DuplicateMake", C_DuplicateMake), ("InvalidWord", C_InvalidWord), ("UnknownMake", C_UnknownMake), ("UnknownTrial", C_UnknownTrial), ("UnlikeMakes", C_UnlikeMakes), ("Order", C_Order), ("TrialList", C_TrialList)] "Order" = some C_Order
  g_TrialList : mg "TrialList" = some (.ref C_TrialList)
  c_TrialList : cls [("Full", C_Full), ("InvalidName", C_InvalidName), ("DuplicateMake", C_DuplicateMake), ("InvalidWord", C_InvalidWord), ("UnknownMake", C_UnknownMake), ("UnknownTrial", C_UnknownTrial), ("UnlikeMakes", C_UnlikeMakes), ("Order", C_Order), ("TrialList", C_TrialList)] "TrialList" = some C_TrialList
  s_UnlikeMakes : ∀ c A, cls [("Full", C_Full), ("InvalidName", C_InvalidName), ("DuplicateMake", C_DuplicateMake), ("InvalidWord", C_InvalidWord), ("UnknownMake", C_UnknownMake), ("UnknownTrial", C_UnknownTrial), ("UnlikeMakes", C_UnlikeMakes), ("Order", C_Order), ("TrialList", C_TrialList)] c = some A → PySem.W.exmOne K (.ref A) (.ref C_UnlikeMakes) = some (subX c "UnlikeMakes")
  x_Full : OexC K C_Full
  nf_Full : ∀ f ∈ (["most"] : List Str), PySem.W.findIn K (.ref C_Full) f = some none
  i_Full : PySem.W.findIn K (.ref C_Full) "__init__" = some (some (.ref fi_Full))
  t_Full : PySem.W.typeIn K (.ref fi_Full) = some (.type "function")
  F_Full : Fun K "__init__" "Full.__init__" (cls_st 7 0) fi_Full fdi_Full
  a_Full : L2.Binds K fdi_Full ["self", "most"] []
  x_InvalidName : OexC K C_InvalidName
  nf_InvalidName : ∀ f ∈ (["name"] : List Str), PySem.W.findIn K (.ref C_InvalidName) f = some none
  i_InvalidName : PySem.W.findIn K (.ref C_InvalidName) "__init__" = some (some (.ref fi_InvalidName))
  t_InvalidName : PySem.W.typeIn K (.ref fi_InvalidName) = some (.type "function")
  F_InvalidName : Fun K "__init__" "InvalidName.__init__" (cls_st 3 0) fi_InvalidName fdi_InvalidName
  a_InvalidName : L2.Binds K fdi_InvalidName ["self", "name"] []
  x_DuplicateMake : OexC K C_DuplicateMake
  nf_DuplicateMake : ∀ f ∈ (["name"] : List Str), PySem.W.findIn K (.ref C_DuplicateMake) f = some none
  i_DuplicateMake : PySem.W.findIn K (.ref C_DuplicateMake) "__init__" = some (some (.ref fi_DuplicateMake))
  t_DuplicateMake : PySem.W.typeIn K (.ref fi_DuplicateMake) = some (.type "function")
  F_DuplicateMake : Fun K "__init__" "DuplicateMake.__init__" (cls_st 4 0) fi_DuplicateMake fdi_DuplicateMake
  a_DuplicateMake : L2.Binds K fdi_DuplicateMake ["self", "name"] []
  x_InvalidWord : OexC K C_InvalidWord
  nf_InvalidWord : ∀ f ∈ (["word"] : List Str), PySem.W.findIn K (.ref C_InvalidWord) f = some none
  i_InvalidWord : PySem.W.findIn K (.ref C_InvalidWord) "__init__" = some (some (.ref fi_InvalidWord))
  t_InvalidWord : PySem.W.typeIn K (.ref fi_InvalidWord) = some (.type "function")
  F_InvalidWord : Fun K "__init__" "InvalidWord.__init__" (cls_st 6 0) fi_InvalidWord fdi_InvalidWord
  a_InvalidWord : L2.Binds K fdi_InvalidWord ["self", "word"] []
  x_UnknownMake : OexC K C_UnknownMake
  nf_UnknownMake : ∀ f ∈ (["name"] : List Str), PySem.W.findIn K (.ref C_UnknownMake) f = some none
  i_UnknownMake : PySem.W.findIn K (.ref C_UnknownMake) "__init__" = some (some (.ref fi_UnknownMake))
  t_UnknownMake : PySem.W.typeIn K (.ref fi_UnknownMake) = some (.type "function")
  F_UnknownMake : Fun K "__init__" "UnknownMake.__init__" (cls_st 5 0) fi_UnknownMake fdi_UnknownMake
  a_UnknownMake : L2.Binds K fdi_UnknownMake ["self", "name"] []
  x_UnknownTrial : OexC K C_UnknownTrial
  nf_UnknownTrial : ∀ f ∈ (["number"] : List Str), PySem.W.findIn K (.ref C_UnknownTrial) f = some none
  i_UnknownTrial : PySem.W.findIn K (.ref C_UnknownTrial) "__init__" = some (some (.ref fi_UnknownTrial))
  t_UnknownTrial : PySem.W.typeIn K (.ref fi_UnknownTrial) = some (.type "function")
  F_UnknownTrial : Fun K "__init__" "UnknownTrial.__init__" (cls_st 9 0) fi_UnknownTrial fdi_UnknownTrial
  a_UnknownTrial : L2.Binds K fdi_UnknownTrial ["self", "number"] []
  cl_Order : Cls K C_Order
  cl_TrialList : Cls K C_TrialList
  fl_Order_names : ∀ C, cls [("Full", C_Full), ("InvalidName", C_InvalidName), ("DuplicateMake", C_DuplicateMake), ("InvalidWord", C_InvalidWord), ("UnknownMake", C_UnknownMake), ("UnknownTrial", C_UnknownTrial), ("UnlikeMakes", C_UnlikeMakes), ("Order", C_Order), ("TrialList", C_TrialList)] "Order" = some C → ClsF K C "names"
  fl_Order_rows : ∀ C, cls [("Full", C_Full), ("InvalidName", C_InvalidName), ("DuplicateMake", C_DuplicateMake), ("InvalidWord", C_InvalidWord), ("UnknownMake", C_UnknownMake), ("UnknownTrial", C_UnknownTrial), ("UnlikeMakes", C_UnlikeMakes), ("Order", C_Order), ("TrialList", C_TrialList)] "Order" = some C → ClsF K C "rows"
  fl_TrialList_given : ∀ C, cls [("Full", C_Full), ("InvalidName", C_InvalidName), ("DuplicateMake", C_DuplicateMake), ("InvalidWord", C_InvalidWord), ("UnknownMake", C_UnknownMake), ("UnknownTrial", C_UnknownTrial), ("UnlikeMakes", C_UnlikeMakes), ("Order", C_Order), ("TrialList", C_TrialList)] "TrialList" = some C → ClsF K C "given"
  fl_TrialList_kept : ∀ C, cls [("Full", C_Full), ("InvalidName", C_InvalidName), ("DuplicateMake", C_DuplicateMake), ("InvalidWord", C_InvalidWord), ("UnknownMake", C_UnknownMake), ("UnknownTrial", C_UnknownTrial), ("UnlikeMakes", C_UnlikeMakes), ("Order", C_Order), ("TrialList", C_TrialList)] "TrialList" = some C → ClsF K C "kept"
  fl_TrialList_names : ∀ C, cls [("Full", C_Full), ("InvalidName", C_InvalidName), ("DuplicateMake", C_DuplicateMake), ("InvalidWord", C_InvalidWord), ("UnknownMake", C_UnknownMake), ("UnknownTrial", C_UnknownTrial), ("UnlikeMakes", C_UnlikeMakes), ("Order", C_Order), ("TrialList", C_TrialList)] "TrialList" = some C → ClsF K C "names"
  m_Order_has : Meth K C_Order "has" f_Order_has
  m_TrialList_add_make : Meth K C_TrialList "add_make" f_TrialList_add_make
  m_TrialList_admits : Meth K C_TrialList "admits" f_TrialList_admits
  m_TrialList_against : Meth K C_TrialList "against" f_TrialList_against
  m_TrialList_check_trial : Meth K C_TrialList "check_trial" f_TrialList_check_trial
  m_TrialList_keep : Meth K C_TrialList "keep" f_TrialList_keep
  m_TrialList_note : Meth K C_TrialList "note" f_TrialList_note
  m_TrialList_retract : Meth K C_TrialList "retract" f_TrialList_retract
  m_TrialList_trial : Meth K C_TrialList "trial" f_TrialList_trial
  mk_Order : Mk K C_Order f_Order___init__
  mk_TrialList : Mk K C_TrialList f_TrialList___init__
  p_Order_makes : PropOf K C_Order "makes" pp_Order_makes fp_Order_makes
  pF_Order_makes : Fun K "makes" "Order.makes" (cls_st 21 4) fp_Order_makes fdp_Order_makes
  pb_Order_makes : L2.Binds K fdp_Order_makes ["self"] []
  x0_UnlikeMakes : XC0 K C_UnlikeMakes
  pm_TrialList_makes : PropOf K C_TrialList "makes" pp_TrialList_makes f_TrialList_makes
  kt_WORDS : HeldT K mg "WORDS" ["sits", "refuses"]
section
variable {P : Program} {w : World} {K : PySem.W.Frag} {mg : Str → Option Value} {base : Heap} {f_law_box f_law_take f_law_name f_law_names f_check_name f_check_makes f_TrialList___init__ f_TrialList_add_make f_law_trial f_law_raw_trials f_law_rows_of f_check_known f_TrialList_check_trial f_TrialList_keep f_TrialList_note f_TrialList_trial f_TrialList_retract f_law_gapped f_law_drawn_pairs f_law_named f_check_pairs f_closed_rows f_rows_of f_Order___init__ f_TrialList_makes f_Order_has f_TrialList_against f_TrialList_admits f_law_refused f_law_closed f_law_is_int f_law_are_ints f_law C_Full C_InvalidName C_DuplicateMake C_InvalidWord C_UnknownMake C_UnknownTrial C_UnlikeMakes C_Order C_TrialList fi_Full fi_InvalidName fi_DuplicateMake fi_InvalidWord fi_UnknownMake fi_UnknownTrial pp_Order_makes fp_Order_makes pp_TrialList_makes : Addr} {fd_law_box fd_law_take fd_law_name fd_law_names fd_check_name fd_check_makes fd_TrialList___init__ fd_TrialList_add_make fd_law_trial fd_law_raw_trials fd_law_rows_of fd_check_known fd_TrialList_check_trial fd_TrialList_keep fd_TrialList_note fd_TrialList_trial fd_TrialList_retract fd_law_gapped fd_law_drawn_pairs fd_law_named fd_check_pairs fd_closed_rows fd_rows_of fd_Order___init__ fd_TrialList_makes fd_Order_has fd_TrialList_against fd_TrialList_admits fd_law_refused fd_law_closed fd_law_is_int fd_law_are_ints fd_law fdi_Full fdi_InvalidName fdi_DuplicateMake fdi_InvalidWord fdi_UnknownMake fdi_UnknownTrial fdp_Order_makes : FuncData}
theorem scp_Order_makes : FnScope ["self"] ["self"] (defScope (cls_st 21 4)) := ⟨rfl, rfl, rfl, by decide +kernel, rfl, by decide +kernel, by decide +kernel⟩
theorem okp_Order_makes (T : Txt K mg f_law_box f_law_take f_law_name f_law_names f_check_name f_check_makes f_TrialList___init__ f_TrialList_add_make f_law_trial f_law_raw_trials f_law_rows_of f_check_known f_TrialList_check_trial f_TrialList_keep f_TrialList_note f_TrialList_trial f_TrialList_retract f_law_gapped f_law_drawn_pairs f_law_named f_check_pairs f_closed_rows f_rows_of f_Order___init__ f_TrialList_makes f_Order_has f_TrialList_against f_TrialList_admits f_law_refused f_law_closed f_law_is_int f_law_are_ints f_law C_Full C_InvalidName C_DuplicateMake C_InvalidWord C_UnknownMake C_UnknownTrial C_UnlikeMakes C_Order C_TrialList fi_Full fi_InvalidName fi_DuplicateMake fi_InvalidWord fi_UnknownMake fi_UnknownTrial pp_Order_makes fp_Order_makes pp_TrialList_makes fd_law_box fd_law_take fd_law_name fd_law_names fd_check_name fd_check_makes fd_TrialList___init__ fd_TrialList_add_make fd_law_trial fd_law_raw_trials fd_law_rows_of fd_check_known fd_TrialList_check_trial fd_TrialList_keep fd_TrialList_note fd_TrialList_trial fd_TrialList_retract fd_law_gapped fd_law_drawn_pairs fd_law_named fd_check_pairs fd_closed_rows fd_rows_of fd_Order___init__ fd_TrialList_makes fd_Order_has fd_TrialList_against fd_TrialList_admits fd_law_refused fd_law_closed fd_law_is_int fd_law_are_ints fd_law fdi_Full fdi_InvalidName fdi_DuplicateMake fdi_InvalidWord fdi_UnknownMake fdi_UnknownTrial fdp_Order_makes) : FnOk P w K mg base CX0 1 fp_Order_makes fdp_Order_makes ["self"] (getSp C_Order "names") := getter_ok T.pF_Order_makes scp_Order_makes rfl rfl T.cl_Order (T.fl_Order_names _ T.c_Order).n
theorem sc_law_box : FnScope ["_law_script"] ["_law_script"] (defScope (topS 27)) := ⟨rfl, rfl, rfl, by decide +kernel, rfl, by decide +kernel, by decide +kernel⟩
theorem ok_law_box (T : Txt K mg f_law_box f_law_take f_law_name f_law_names f_check_name f_check_makes f_TrialList___init__ f_TrialList_add_make f_law_trial f_law_raw_trials f_law_rows_of f_check_known f_TrialList_check_trial f_TrialList_keep f_TrialList_note f_TrialList_trial f_TrialList_retract f_law_gapped f_law_drawn_pairs f_law_named f_check_pairs f_closed_rows f_rows_of f_Order___init__ f_TrialList_makes f_Order_has f_TrialList_against f_TrialList_admits f_law_refused f_law_closed f_law_is_int f_law_are_ints f_law C_Full C_InvalidName C_DuplicateMake C_InvalidWord C_UnknownMake C_UnknownTrial C_UnlikeMakes C_Order C_TrialList fi_Full fi_InvalidName fi_DuplicateMake fi_InvalidWord fi_UnknownMake fi_UnknownTrial pp_Order_makes fp_Order_makes pp_TrialList_makes fd_law_box fd_law_take fd_law_name fd_law_names fd_check_name fd_check_makes fd_TrialList___init__ fd_TrialList_add_make fd_law_trial fd_law_raw_trials fd_law_rows_of fd_check_known fd_TrialList_check_trial fd_TrialList_keep fd_TrialList_note fd_TrialList_trial fd_TrialList_retract fd_law_gapped fd_law_drawn_pairs fd_law_named fd_check_pairs fd_closed_rows fd_rows_of fd_Order___init__ fd_TrialList_makes fd_Order_has fd_TrialList_against fd_TrialList_admits fd_law_refused fd_law_closed fd_law_is_int fd_law_are_ints fd_law fdi_Full fdi_InvalidName fdi_DuplicateMake fdi_InvalidWord fdi_UnknownMake fdi_UnknownTrial fdp_Order_makes) : FnOk P w K mg base (L2.CX P w) 1 f_law_box fd_law_box ["_law_script"] (spM ⟨K, cls [("Full", C_Full), ("InvalidName", C_InvalidName), ("DuplicateMake", C_DuplicateMake), ("InvalidWord", C_InvalidWord), ("UnknownMake", C_UnknownMake), ("UnknownTrial", C_UnknownTrial), ("UnlikeMakes", C_UnlikeMakes), ("Order", C_Order), ("TrialList", C_TrialList)], P0, none⟩ m_law_box) := by
  have sc := sc_law_box
  have z := fn_den2 (P := P) (w := w) (mg := mg) (base := base) (G := ⟨cls [("Full", C_Full), ("InvalidName", C_InvalidName), ("DuplicateMake", C_DuplicateMake), ("InvalidWord", C_InvalidWord), ("UnknownMake", C_UnknownMake), ("UnknownTrial", C_UnknownTrial), ("UnlikeMakes", C_UnlikeMakes), ("Order", C_Order), ("TrialList", C_TrialList)], P0, none⟩) (tc := []) (den := d_law_box) (pr := []) (k := 0) T.F_law_box sc_law_box (by decide) fun cdv A outer s H E hr tk po hu => (gss_one (gs_lend (i := 0) (gs_ret (g_lst (ga_cons (g_fz (g_list (by rfl) T.b_list (go_v (g_slice (g_cp (pv 0)) go2_none (go2_some g_int))))) (ga_cons g_int (ga_cons g_int (ga_cons g_int ga_nil))))))))
  rw [m_law_box_def]
  exact z
theorem sc_law_take : FnScope ["_law_box_here", "_law_many", "_law_cell", "_law_drawn"] ["_law_box_here", "_law_many"] (defScope (topS 28)) := ⟨rfl, rfl, rfl, by decide +kernel, rfl, by decide +kernel, by decide +kernel⟩
theorem ok_law_take (T : Txt K mg f_law_box f_law_take f_law_name f_law_names f_check_name f_check_makes f_TrialList___init__ f_TrialList_add_make f_law_trial f_law_raw_trials f_law_rows_of f_check_known f_TrialList_check_trial f_TrialList_keep f_TrialList_note f_TrialList_trial f_TrialList_retract f_law_gapped f_law_drawn_pairs f_law_named f_check_pairs f_closed_rows f_rows_of f_Order___init__ f_TrialList_makes f_Order_has f_TrialList_against f_TrialList_admits f_law_refused f_law_closed f_law_is_int f_law_are_ints f_law C_Full C_InvalidName C_DuplicateMake C_InvalidWord C_UnknownMake C_UnknownTrial C_UnlikeMakes C_Order C_TrialList fi_Full fi_InvalidName fi_DuplicateMake fi_InvalidWord fi_UnknownMake fi_UnknownTrial pp_Order_makes fp_Order_makes pp_TrialList_makes fd_law_box fd_law_take fd_law_name fd_law_names fd_check_name fd_check_makes fd_TrialList___init__ fd_TrialList_add_make fd_law_trial fd_law_raw_trials fd_law_rows_of fd_check_known fd_TrialList_check_trial fd_TrialList_keep fd_TrialList_note fd_TrialList_trial fd_TrialList_retract fd_law_gapped fd_law_drawn_pairs fd_law_named fd_check_pairs fd_closed_rows fd_rows_of fd_Order___init__ fd_TrialList_makes fd_Order_has fd_TrialList_against fd_TrialList_admits fd_law_refused fd_law_closed fd_law_is_int fd_law_are_ints fd_law fdi_Full fdi_InvalidName fdi_DuplicateMake fdi_InvalidWord fdi_UnknownMake fdi_UnknownTrial fdp_Order_makes) : FnOk P w K mg base (L2.CX P w) 1 f_law_take fd_law_take ["_law_box_here", "_law_many"] (spM ⟨K, cls [("Full", C_Full), ("InvalidName", C_InvalidName), ("DuplicateMake", C_DuplicateMake), ("InvalidWord", C_InvalidWord), ("UnknownMake", C_UnknownMake), ("UnknownTrial", C_UnknownTrial), ("UnlikeMakes", C_UnlikeMakes), ("Order", C_Order), ("TrialList", C_TrialList)], P0, none⟩ m_law_take) := by
  have sc := sc_law_take
  have z := fn_den2 (P := P) (w := w) (mg := mg) (base := base) (G := ⟨cls [("Full", C_Full), ("InvalidName", C_InvalidName), ("DuplicateMake", C_DuplicateMake), ("InvalidWord", C_InvalidWord), ("UnknownMake", C_UnknownMake), ("UnknownTrial", C_UnknownTrial), ("UnlikeMakes", C_UnlikeMakes), ("Order", C_Order), ("TrialList", C_TrialList)], P0, none⟩) (tc := [2, 1002, 0, 0, 0, 3, 1003, 0, 0]) (den := d_law_take) (pr := [0]) (k := 0) T.F_law_take sc_law_take (by decide) fun cdv A outer s H E hr tk po hu => (gss_cons (gs_if (gt_w (gw_and (gt_eq hu (go_v (g_ix (go_p (pv 0)) (go_v g_int))) (go_v g_int)) (gw_one .And (gt_lt (go_v (g_ix (go_p (pv 0)) (go_v g_int))) (go_v (g_len (by rfl) T.b_len (go_v (g_ix (go_p (pv 0)) (go_v g_int))))))))) (gss_cons (gs_asg (i := 2) (g_ix (go_v (g_ix (go_p (pv 0)) (go_v g_int))) (go_v (g_ix (go_p (pv 0)) (go_v g_int)))) sc.nd rfl (by first | exact .inl rfl | exact .inr rfl))
  (gss_cons (gs_set (i := 0) (pv 0) g_int (g_add (go_v (g_ix (go_p (pv 0)) (go_v g_int))) (go_v g_int)))
  (gss_one (gs_if (gt_ge (go_v (g_cp (pv 2))) (go_v (g_pow (go_v g_int) (go_v g_int)))) (gss_one (gs_set (i := 0) (pv 0) g_int (g_sub (go_v (g_cp (pv 2))) (go_v (g_pow (go_v g_int) (go_v g_int)))))) (gss_one (gs_set (i := 0) (pv 0) g_int (g_mod (go_v (g_intC (by rfl) T.b_int (go_v (g_add (go_v (g_add (go_v (g_mul (go_v (g_ix (go_p (pv 0)) (go_v g_int))) (go_v g_int))) (go_v (g_cp (pv 2))))) (go_v g_int))))) (go_v g_int)))))))) gss_nil)
  (gss_cons (gs_if (gt_gt (go_v (g_ix (go_p (pv 0)) (go_v g_int))) (go_v g_int)) (gss_cons (gs_asg (i := 3) (g_mod (go_v (g_intC (by rfl) T.b_int (go_v (g_ix (go_p (pv 0)) (go_v g_int))))) (go_v (g_cp (pv 1)))) sc.nd rfl (by first | exact .inl rfl | exact .inr rfl))
  (gss_cons (gs_set (i := 0) (pv 0) g_int (g_fdiv (go_v (g_ix (go_p (pv 0)) (go_v g_int))) (go_v (g_cp (pv 1)))))
  (gss_one (gs_ret (g_cp (pv 3)))))) gss_nil)
  (gss_cons (gs_set (i := 0) (pv 0) g_int (g_mod (go_v (g_intC (by rfl) T.b_int (go_v (g_mul (go_v (g_ix (go_p (pv 0)) (go_v g_int))) (go_v g_int))))) (go_v g_int)))
  (gss_one (gs_ret (g_mod (go_v (g_fdiv (go_v (g_intC (by rfl) T.b_int (go_v (g_ix (go_p (pv 0)) (go_v g_int))))) (go_v g_int))) (go_v (g_cp (pv 1)))))))))
  rw [m_law_take_def]
  exact z
theorem sc_law_name : FnScope ["_law_box_here", "_law_names_here", "_law_letters", "_law_word", "_law_k"] ["_law_box_here", "_law_names_here"] (defScope (topS 29)) := ⟨rfl, rfl, rfl, by decide +kernel, rfl, by decide +kernel, by decide +kernel⟩
theorem ok_law_name (T : Txt K mg f_law_box f_law_take f_law_name f_law_names f_check_name f_check_makes f_TrialList___init__ f_TrialList_add_make f_law_trial f_law_raw_trials f_law_rows_of f_check_known f_TrialList_check_trial f_TrialList_keep f_TrialList_note f_TrialList_trial f_TrialList_retract f_law_gapped f_law_drawn_pairs f_law_named f_check_pairs f_closed_rows f_rows_of f_Order___init__ f_TrialList_makes f_Order_has f_TrialList_against f_TrialList_admits f_law_refused f_law_closed f_law_is_int f_law_are_ints f_law C_Full C_InvalidName C_DuplicateMake C_InvalidWord C_UnknownMake C_UnknownTrial C_UnlikeMakes C_Order C_TrialList fi_Full fi_InvalidName fi_DuplicateMake fi_InvalidWord fi_UnknownMake fi_UnknownTrial pp_Order_makes fp_Order_makes pp_TrialList_makes fd_law_box fd_law_take fd_law_name fd_law_names fd_check_name fd_check_makes fd_TrialList___init__ fd_TrialList_add_make fd_law_trial fd_law_raw_trials fd_law_rows_of fd_check_known fd_TrialList_check_trial fd_TrialList_keep fd_TrialList_note fd_TrialList_trial fd_TrialList_retract fd_law_gapped fd_law_drawn_pairs fd_law_named fd_check_pairs fd_closed_rows fd_rows_of fd_Order___init__ fd_TrialList_makes fd_Order_has fd_TrialList_against fd_TrialList_admits fd_law_refused fd_law_closed fd_law_is_int fd_law_are_ints fd_law fdi_Full fdi_InvalidName fdi_DuplicateMake fdi_InvalidWord fdi_UnknownMake fdi_UnknownTrial fdp_Order_makes) : FnOk P w K mg base (L2.CX P w) 2 f_law_name fd_law_name ["_law_box_here", "_law_names_here"] (spM ⟨K, cls [("Full", C_Full), ("InvalidName", C_InvalidName), ("DuplicateMake", C_DuplicateMake), ("InvalidWord", C_InvalidWord), ("UnknownMake", C_UnknownMake), ("UnknownTrial", C_UnknownTrial), ("UnlikeMakes", C_UnlikeMakes), ("Order", C_Order), ("TrialList", C_TrialList)], P0, none⟩ m_law_name) := by
  have sc := sc_law_name
  have z := fn_den2 (P := P) (w := w) (mg := mg) (base := base) (G := ⟨cls [("Full", C_Full), ("InvalidName", C_InvalidName), ("DuplicateMake", C_DuplicateMake), ("InvalidWord", C_InvalidWord), ("UnknownMake", C_UnknownMake), ("UnknownTrial", C_UnknownTrial), ("UnlikeMakes", C_UnlikeMakes), ("Order", C_Order), ("TrialList", C_TrialList)], P0, none⟩) (tc := [2, 1002, 3, 1003, 0, 4, 1004, 0, 3, 1003, 4, 1004, 3, 1003]) (den := d_law_name) (pr := [0]) (k := 1) T.F_law_name sc_law_name (by decide) fun cdv A outer s H E hr tk po hu => (gss_cons (gs_asg (i := 2) g_str sc.nd rfl (by first | exact .inl rfl | exact .inr rfl))
  (gss_cons (gs_asg (i := 3) g_str sc.nd rfl (by first | exact .inl rfl | exact .inr rfl))
  (gss_cons (gs_for (tg := (.one 4)) (fg := []) po rfl (gi_range1 (by rfl) T.b_range (g_add (go_v g_int) (go_v (g_call tk (ok_law_take T) (hr.mono (by decide)) (by rfl) T.g_law_take T.F_law_take.kp T.a_law_take (gr_io (pv 0) (gr_v g_int gr_nil)))))) (pg_name (i := 4) sc.nd rfl (by first | exact .inl rfl | exact .inr rfl)) (gss_one (gs_asg (i := 3) (g_add (go_v (g_cp (pv 3))) (go_v (g_ix (go_v (g_cp (pv 2))) (go_v (g_call tk (ok_law_take T) (hr.mono (by decide)) (by rfl) T.g_law_take T.F_law_take.kp T.a_law_take (gr_io (pv 0) (gr_v g_int gr_nil))))))) sc.nd rfl (by first | exact .inl rfl | exact .inr rfl))))
  (gss_cons (gs_for (tg := (.one 4)) (fg := []) po rfl (gi_range1 (by rfl) T.b_range (g_len (by rfl) T.b_len (go_p (pv 1)))) (pg_name (i := 4) sc.nd rfl (by first | exact .inl rfl | exact .inr rfl)) (gss_one (gs_if (gt_in hu (go_v (g_cp (pv 3))) (go_p (pv 1))) (gss_one (gs_asg (i := 3) (g_add (go_v (g_cp (pv 3))) (go_v g_str)) sc.nd rfl (by first | exact .inl rfl | exact .inr rfl))) gss_nil)))
  (gss_one (gs_ret (g_cp (pv 3))))))))
  rw [m_law_name_def]
  exact z
theorem sc_law_names : FnScope ["_law_box_here", "_law_size", "_law_names_here", "_law_k"] ["_law_box_here", "_law_size"] (defScope (topS 30)) := ⟨rfl, rfl, rfl, by decide +kernel, rfl, by decide +kernel, by decide +kernel⟩
theorem ok_law_names (T : Txt K mg f_law_box f_law_take f_law_name f_law_names f_check_name f_check_makes f_TrialList___init__ f_TrialList_add_make f_law_trial f_law_raw_trials f_law_rows_of f_check_known f_TrialList_check_trial f_TrialList_keep f_TrialList_note f_TrialList_trial f_TrialList_retract f_law_gapped f_law_drawn_pairs f_law_named f_check_pairs f_closed_rows f_rows_of f_Order___init__ f_TrialList_makes f_Order_has f_TrialList_against f_TrialList_admits f_law_refused f_law_closed f_law_is_int f_law_are_ints f_law C_Full C_InvalidName C_DuplicateMake C_InvalidWord C_UnknownMake C_UnknownTrial C_UnlikeMakes C_Order C_TrialList fi_Full fi_InvalidName fi_DuplicateMake fi_InvalidWord fi_UnknownMake fi_UnknownTrial pp_Order_makes fp_Order_makes pp_TrialList_makes fd_law_box fd_law_take fd_law_name fd_law_names fd_check_name fd_check_makes fd_TrialList___init__ fd_TrialList_add_make fd_law_trial fd_law_raw_trials fd_law_rows_of fd_check_known fd_TrialList_check_trial fd_TrialList_keep fd_TrialList_note fd_TrialList_trial fd_TrialList_retract fd_law_gapped fd_law_drawn_pairs fd_law_named fd_check_pairs fd_closed_rows fd_rows_of fd_Order___init__ fd_TrialList_makes fd_Order_has fd_TrialList_against fd_TrialList_admits fd_law_refused fd_law_closed fd_law_is_int fd_law_are_ints fd_law fdi_Full fdi_InvalidName fdi_DuplicateMake fdi_InvalidWord fdi_UnknownMake fdi_UnknownTrial fdp_Order_makes) : FnOk P w K mg base (L2.CX P w) 3 f_law_names fd_law_names ["_law_box_here", "_law_size"] (spM ⟨K, cls [("Full", C_Full), ("InvalidName", C_InvalidName), ("DuplicateMake", C_DuplicateMake), ("InvalidWord", C_InvalidWord), ("UnknownMake", C_UnknownMake), ("UnknownTrial", C_UnknownTrial), ("UnlikeMakes", C_UnlikeMakes), ("Order", C_Order), ("TrialList", C_TrialList)], P0, none⟩ m_law_names) := by
  have sc := sc_law_names
  have z := fn_den2 (P := P) (w := w) (mg := mg) (base := base) (G := ⟨cls [("Full", C_Full), ("InvalidName", C_InvalidName), ("DuplicateMake", C_DuplicateMake), ("InvalidWord", C_InvalidWord), ("UnknownMake", C_UnknownMake), ("UnknownTrial", C_UnknownTrial), ("UnlikeMakes", C_UnlikeMakes), ("Order", C_Order), ("TrialList", C_TrialList)], P0, none⟩) (tc := [2, 1002, 3, 1003, 0, 2, 2]) (den := d_law_names) (pr := [0]) (k := 2) T.F_law_names sc_law_names (by decide) fun cdv A outer s H E hr tk po hu => (gss_cons (gs_asg (i := 2) (g_lst ga_nil) sc.nd rfl (by first | exact .inl rfl | exact .inr rfl))
  (gss_cons (gs_for (tg := (.one 3)) (fg := []) po rfl (gi_range1 (by rfl) T.b_range (g_cp (pv 1))) (pg_name (i := 3) sc.nd rfl (by first | exact .inl rfl | exact .inr rfl)) (gss_one (gs_app (i := 2) (pv 2) (g_call tk (ok_law_name T) (hr.mono (by decide)) (by rfl) T.g_law_name T.F_law_name.kp T.a_law_name (gr_io (pv 0) (gr_l (pv 2) gr_nil))))))
  (gss_one (gs_ret (g_mv (pv 2))))))
  rw [m_law_names_def]
  exact z
theorem okx_Full (T : Txt K mg f_law_box f_law_take f_law_name f_law_names f_check_name f_check_makes f_TrialList___init__ f_TrialList_add_make f_law_trial f_law_raw_trials f_law_rows_of f_check_known f_TrialList_check_trial f_TrialList_keep f_TrialList_note f_TrialList_trial f_TrialList_retract f_law_gapped f_law_drawn_pairs f_law_named f_check_pairs f_closed_rows f_rows_of f_Order___init__ f_TrialList_makes f_Order_has f_TrialList_against f_TrialList_admits f_law_refused f_law_closed f_law_is_int f_law_are_ints f_law C_Full C_InvalidName C_DuplicateMake C_InvalidWord C_UnknownMake C_UnknownTrial C_UnlikeMakes C_Order C_TrialList fi_Full fi_InvalidName fi_DuplicateMake fi_InvalidWord fi_UnknownMake fi_UnknownTrial pp_Order_makes fp_Order_makes pp_TrialList_makes fd_law_box fd_law_take fd_law_name fd_law_names fd_check_name fd_check_makes fd_TrialList___init__ fd_TrialList_add_make fd_law_trial fd_law_raw_trials fd_law_rows_of fd_check_known fd_TrialList_check_trial fd_TrialList_keep fd_TrialList_note fd_TrialList_trial fd_TrialList_retract fd_law_gapped fd_law_drawn_pairs fd_law_named fd_check_pairs fd_closed_rows fd_rows_of fd_Order___init__ fd_TrialList_makes fd_Order_has fd_TrialList_against fd_TrialList_admits fd_law_refused fd_law_closed fd_law_is_int fd_law_are_ints fd_law fdi_Full fdi_InvalidName fdi_DuplicateMake fdi_InvalidWord fdi_UnknownMake fdi_UnknownTrial fdp_Order_makes) : FnOk P w K mg base CX0 1 fi_Full fdi_Full ["self", "most"] (spXP K ["most"]) :=
  fn_xinit T.F_Full ⟨rfl, rfl, rfl, by decide +kernel, rfl, by decide +kernel, by decide +kernel⟩ (by decide) (by decide) fun _ _ _ _ _ _ => (.cons (ps_ost (pv 0) (pv 1)) .nil)
theorem okx_InvalidName (T : Txt K mg f_law_box f_law_take f_law_name f_law_names f_check_name f_check_makes f_TrialList___init__ f_TrialList_add_make f_law_trial f_law_raw_trials f_law_rows_of f_check_known f_TrialList_check_trial f_TrialList_keep f_TrialList_note f_TrialList_trial f_TrialList_retract f_law_gapped f_law_drawn_pairs f_law_named f_check_pairs f_closed_rows f_rows_of f_Order___init__ f_TrialList_makes f_Order_has f_TrialList_against f_TrialList_admits f_law_refused f_law_closed f_law_is_int f_law_are_ints f_law C_Full C_InvalidName C_DuplicateMake C_InvalidWord C_UnknownMake C_UnknownTrial C_UnlikeMakes C_Order C_TrialList fi_Full fi_InvalidName fi_DuplicateMake fi_InvalidWord fi_UnknownMake fi_UnknownTrial pp_Order_makes fp_Order_makes pp_TrialList_makes fd_law_box fd_law_take fd_law_name fd_law_names fd_check_name fd_check_makes fd_TrialList___init__ fd_TrialList_add_make fd_law_trial fd_law_raw_trials fd_law_rows_of fd_check_known fd_TrialList_check_trial fd_TrialList_keep fd_TrialList_note fd_TrialList_trial fd_TrialList_retract fd_law_gapped fd_law_drawn_pairs fd_law_named fd_check_pairs fd_closed_rows fd_rows_of fd_Order___init__ fd_TrialList_makes fd_Order_has fd_TrialList_against fd_TrialList_admits fd_law_refused fd_law_closed fd_law_is_int fd_law_are_ints fd_law fdi_Full fdi_InvalidName fdi_DuplicateMake fdi_InvalidWord fdi_UnknownMake fdi_UnknownTrial fdp_Order_makes) : FnOk P w K mg base CX0 1 fi_InvalidName fdi_InvalidName ["self", "name"] (spXP K ["name"]) :=
  fn_xinit T.F_InvalidName ⟨rfl, rfl, rfl, by decide +kernel, rfl, by decide +kernel, by decide +kernel⟩ (by decide) (by decide) fun _ _ _ _ _ _ => (.cons (ps_ost (pv 0) (pv 1)) .nil)
theorem sc_check_name : FnScope ["name", "letter"] ["name"] (defScope (topS 14)) := ⟨rfl, rfl, rfl, by decide +kernel, rfl, by decide +kernel, by decide +kernel⟩
theorem ok_check_name (T : Txt K mg f_law_box f_law_take f_law_name f_law_names f_check_name f_check_makes f_TrialList___init__ f_TrialList_add_make f_law_trial f_law_raw_trials f_law_rows_of f_check_known f_TrialList_check_trial f_TrialList_keep f_TrialList_note f_TrialList_trial f_TrialList_retract f_law_gapped f_law_drawn_pairs f_law_named f_check_pairs f_closed_rows f_rows_of f_Order___init__ f_TrialList_makes f_Order_has f_TrialList_against f_TrialList_admits f_law_refused f_law_closed f_law_is_int f_law_are_ints f_law C_Full C_InvalidName C_DuplicateMake C_InvalidWord C_UnknownMake C_UnknownTrial C_UnlikeMakes C_Order C_TrialList fi_Full fi_InvalidName fi_DuplicateMake fi_InvalidWord fi_UnknownMake fi_UnknownTrial pp_Order_makes fp_Order_makes pp_TrialList_makes fd_law_box fd_law_take fd_law_name fd_law_names fd_check_name fd_check_makes fd_TrialList___init__ fd_TrialList_add_make fd_law_trial fd_law_raw_trials fd_law_rows_of fd_check_known fd_TrialList_check_trial fd_TrialList_keep fd_TrialList_note fd_TrialList_trial fd_TrialList_retract fd_law_gapped fd_law_drawn_pairs fd_law_named fd_check_pairs fd_closed_rows fd_rows_of fd_Order___init__ fd_TrialList_makes fd_Order_has fd_TrialList_against fd_TrialList_admits fd_law_refused fd_law_closed fd_law_is_int fd_law_are_ints fd_law fdi_Full fdi_InvalidName fdi_DuplicateMake fdi_InvalidWord fdi_UnknownMake fdi_UnknownTrial fdp_Order_makes) : FnOk P w K mg base (L2.CX P w) 3 f_check_name fd_check_name ["name"] (spM ⟨K, cls [("Full", C_Full), ("InvalidName", C_InvalidName), ("DuplicateMake", C_DuplicateMake), ("InvalidWord", C_InvalidWord), ("UnknownMake", C_UnknownMake), ("UnknownTrial", C_UnknownTrial), ("UnlikeMakes", C_UnlikeMakes), ("Order", C_Order), ("TrialList", C_TrialList)], P0, none⟩ m_check_name) := by
  have sc := sc_check_name
  have z := fn_den2 (P := P) (w := w) (mg := mg) (base := base) (G := ⟨cls [("Full", C_Full), ("InvalidName", C_InvalidName), ("DuplicateMake", C_DuplicateMake), ("InvalidWord", C_InvalidWord), ("UnknownMake", C_UnknownMake), ("UnknownTrial", C_UnknownTrial), ("UnlikeMakes", C_UnlikeMakes), ("Order", C_Order), ("TrialList", C_TrialList)], P0, none⟩) (tc := [1, 1001]) (den := d_check_name) (pr := []) (k := 2) T.F_check_name sc_check_name (by decide) fun cdv A outer s H E hr tk po hu => (gss_cons (gs_if (gt_not (gt_chain op_le op_le p2_le p2_le g_int (g_len (by rfl) T.b_len (go_v (g_cp (pv 0)))) (g_glI (by rfl) T.k_LONGEST_NAME))) (gss_one (gs_raise rfl tk T.c_InvalidName T.x_InvalidName T.nf_InvalidName T.i_InvalidName T.t_InvalidName (okx_InvalidName T) (hr.mono (by decide)) T.a_InvalidName (by rfl) T.g_InvalidName (ga_cons (g_cp (pv 0)) ga_nil))) gss_nil)
  (gss_one (gs_for (tg := (.one 1)) (fg := []) po rfl (gi_seq (g_cp (pv 0))) (pg_name (i := 1) sc.nd rfl (by first | exact .inl rfl | exact .inr rfl)) (gss_one (gs_if (gt_notIn hu (go_v (g_cp (pv 1))) (go_v (g_glS (by rfl) T.k_LETTERS))) (gss_one (gs_raise rfl tk T.c_InvalidName T.x_InvalidName T.nf_InvalidName T.i_InvalidName T.t_InvalidName (okx_InvalidName T) (hr.mono (by decide)) T.a_InvalidName (by rfl) T.g_InvalidName (ga_cons (g_cp (pv 0)) ga_nil))) gss_nil)))))
  rw [m_check_name_def]
  exact z
theorem okx_DuplicateMake (T : Txt K mg f_law_box f_law_take f_law_name f_law_names f_check_name f_check_makes f_TrialList___init__ f_TrialList_add_make f_law_trial f_law_raw_trials f_law_rows_of f_check_known f_TrialList_check_trial f_TrialList_keep f_TrialList_note f_TrialList_trial f_TrialList_retract f_law_gapped f_law_drawn_pairs f_law_named f_check_pairs f_closed_rows f_rows_of f_Order___init__ f_TrialList_makes f_Order_has f_TrialList_against f_TrialList_admits f_law_refused f_law_closed f_law_is_int f_law_are_ints f_law C_Full C_InvalidName C_DuplicateMake C_InvalidWord C_UnknownMake C_UnknownTrial C_UnlikeMakes C_Order C_TrialList fi_Full fi_InvalidName fi_DuplicateMake fi_InvalidWord fi_UnknownMake fi_UnknownTrial pp_Order_makes fp_Order_makes pp_TrialList_makes fd_law_box fd_law_take fd_law_name fd_law_names fd_check_name fd_check_makes fd_TrialList___init__ fd_TrialList_add_make fd_law_trial fd_law_raw_trials fd_law_rows_of fd_check_known fd_TrialList_check_trial fd_TrialList_keep fd_TrialList_note fd_TrialList_trial fd_TrialList_retract fd_law_gapped fd_law_drawn_pairs fd_law_named fd_check_pairs fd_closed_rows fd_rows_of fd_Order___init__ fd_TrialList_makes fd_Order_has fd_TrialList_against fd_TrialList_admits fd_law_refused fd_law_closed fd_law_is_int fd_law_are_ints fd_law fdi_Full fdi_InvalidName fdi_DuplicateMake fdi_InvalidWord fdi_UnknownMake fdi_UnknownTrial fdp_Order_makes) : FnOk P w K mg base CX0 1 fi_DuplicateMake fdi_DuplicateMake ["self", "name"] (spXP K ["name"]) :=
  fn_xinit T.F_DuplicateMake ⟨rfl, rfl, rfl, by decide +kernel, rfl, by decide +kernel, by decide +kernel⟩ (by decide) (by decide) fun _ _ _ _ _ _ => (.cons (ps_ost (pv 0) (pv 1)) .nil)
theorem sc_check_makes : FnScope ["makes", "seen", "name"] ["makes"] (defScope (topS 15)) := ⟨rfl, rfl, rfl, by decide +kernel, rfl, by decide +kernel, by decide +kernel⟩
theorem ok_check_makes (T : Txt K mg f_law_box f_law_take f_law_name f_law_names f_check_name f_check_makes f_TrialList___init__ f_TrialList_add_make f_law_trial f_law_raw_trials f_law_rows_of f_check_known f_TrialList_check_trial f_TrialList_keep f_TrialList_note f_TrialList_trial f_TrialList_retract f_law_gapped f_law_drawn_pairs f_law_named f_check_pairs f_closed_rows f_rows_of f_Order___init__ f_TrialList_makes f_Order_has f_TrialList_against f_TrialList_admits f_law_refused f_law_closed f_law_is_int f_law_are_ints f_law C_Full C_InvalidName C_DuplicateMake C_InvalidWord C_UnknownMake C_UnknownTrial C_UnlikeMakes C_Order C_TrialList fi_Full fi_InvalidName fi_DuplicateMake fi_InvalidWord fi_UnknownMake fi_UnknownTrial pp_Order_makes fp_Order_makes pp_TrialList_makes fd_law_box fd_law_take fd_law_name fd_law_names fd_check_name fd_check_makes fd_TrialList___init__ fd_TrialList_add_make fd_law_trial fd_law_raw_trials fd_law_rows_of fd_check_known fd_TrialList_check_trial fd_TrialList_keep fd_TrialList_note fd_TrialList_trial fd_TrialList_retract fd_law_gapped fd_law_drawn_pairs fd_law_named fd_check_pairs fd_closed_rows fd_rows_of fd_Order___init__ fd_TrialList_makes fd_Order_has fd_TrialList_against fd_TrialList_admits fd_law_refused fd_law_closed fd_law_is_int fd_law_are_ints fd_law fdi_Full fdi_InvalidName fdi_DuplicateMake fdi_InvalidWord fdi_UnknownMake fdi_UnknownTrial fdp_Order_makes) : FnOk P w K mg base (L2.CX P w) 4 f_check_makes fd_check_makes ["makes"] (spM ⟨K, cls [("Full", C_Full), ("InvalidName", C_InvalidName), ("DuplicateMake", C_DuplicateMake), ("InvalidWord", C_InvalidWord), ("UnknownMake", C_UnknownMake), ("UnknownTrial", C_UnknownTrial), ("UnlikeMakes", C_UnlikeMakes), ("Order", C_Order), ("TrialList", C_TrialList)], P0, none⟩ m_check_makes) := by
  have sc := sc_check_makes
  have z := fn_den2 (P := P) (w := w) (mg := mg) (base := base) (G := ⟨cls [("Full", C_Full), ("InvalidName", C_InvalidName), ("DuplicateMake", C_DuplicateMake), ("InvalidWord", C_InvalidWord), ("UnknownMake", C_UnknownMake), ("UnknownTrial", C_UnknownTrial), ("UnlikeMakes", C_UnlikeMakes), ("Order", C_Order), ("TrialList", C_TrialList)], P0, none⟩) (tc := [1, 1001, 2, 1002, 1]) (den := d_check_makes) (pr := []) (k := 3) T.F_check_makes sc_check_makes (by decide) fun cdv A outer s H E hr tk po hu => (gss_cons (gs_if (gt_gt (go_v (g_len (by rfl) T.b_len (go_p (pv 0)))) (go_v (g_glI (by rfl) T.k_MOST_MAKES))) (gss_one (gs_raise rfl tk T.c_Full T.x_Full T.nf_Full T.i_Full T.t_Full (okx_Full T) (hr.mono (by decide)) T.a_Full (by rfl) T.g_Full (ga_cons (g_glI (by rfl) T.k_MOST_MAKES) ga_nil))) gss_nil)
  (gss_cons (gs_asg (i := 1) (g_lst ga_nil) sc.nd rfl (by first | exact .inl rfl | exact .inr rfl))
  (gss_one (gs_lend (i := 0) (gs_for (tg := (.one 2)) (fg := []) po rfl (gi_seq (g_cp (pv 0))) (pg_name (i := 2) sc.nd rfl (by first | exact .inl rfl | exact .inr rfl)) (gss_cons (gs_expr (g_call tk (ok_check_name T) (hr.mono (by decide)) (by rfl) T.g_check_name T.F_check_name.kp T.a_check_name (gr_v (g_cp (pv 2)) gr_nil)))
  (gss_cons (gs_if (gt_in hu (go_v (g_cp (pv 2))) (go_p (pv 1))) (gss_one (gs_raise rfl tk T.c_DuplicateMake T.x_DuplicateMake T.nf_DuplicateMake T.i_DuplicateMake T.t_DuplicateMake (okx_DuplicateMake T) (hr.mono (by decide)) T.a_DuplicateMake (by rfl) T.g_DuplicateMake (ga_cons (g_cp (pv 2)) ga_nil))) gss_nil)
  (gss_one (gs_app (i := 1) (pv 1) (g_cp (pv 2)))))))))))
  rw [m_check_makes_def]
  exact z
theorem sc_TrialList___init__ : FnScope ["self", "makes"] ((["self"] : List Str) ++ (["makes"] : List Str)) (defScope (cls_st 25 1)) := ⟨rfl, rfl, rfl, by decide +kernel, rfl, by decide +kernel, by decide +kernel⟩
theorem ok_TrialList___init__ (T : Txt K mg f_law_box f_law_take f_law_name f_law_names f_check_name f_check_makes f_TrialList___init__ f_TrialList_add_make f_law_trial f_law_raw_trials f_law_rows_of f_check_known f_TrialList_check_trial f_TrialList_keep f_TrialList_note f_TrialList_trial f_TrialList_retract f_law_gapped f_law_drawn_pairs f_law_named f_check_pairs f_closed_rows f_rows_of f_Order___init__ f_TrialList_makes f_Order_has f_TrialList_against f_TrialList_admits f_law_refused f_law_closed f_law_is_int f_law_are_ints f_law C_Full C_InvalidName C_DuplicateMake C_InvalidWord C_UnknownMake C_UnknownTrial C_UnlikeMakes C_Order C_TrialList fi_Full fi_InvalidName fi_DuplicateMake fi_InvalidWord fi_UnknownMake fi_UnknownTrial pp_Order_makes fp_Order_makes pp_TrialList_makes fd_law_box fd_law_take fd_law_name fd_law_names fd_check_name fd_check_makes fd_TrialList___init__ fd_TrialList_add_make fd_law_trial fd_law_raw_trials fd_law_rows_of fd_check_known fd_TrialList_check_trial fd_TrialList_keep fd_TrialList_note fd_TrialList_trial fd_TrialList_retract fd_law_gapped fd_law_drawn_pairs fd_law_named fd_check_pairs fd_closed_rows fd_rows_of fd_Order___init__ fd_TrialList_makes fd_Order_has fd_TrialList_against fd_TrialList_admits fd_law_refused fd_law_closed fd_law_is_int fd_law_are_ints fd_law fdi_Full fdi_InvalidName fdi_DuplicateMake fdi_InvalidWord fdi_UnknownMake fdi_UnknownTrial fdp_Order_makes) : FnR P w K mg base (L2.CX P w) 5 f_TrialList___init__ (spM ⟨K, cls [("Full", C_Full), ("InvalidName", C_InvalidName), ("DuplicateMake", C_DuplicateMake), ("InvalidWord", C_InvalidWord), ("UnknownMake", C_UnknownMake), ("UnknownTrial", C_UnknownTrial), ("UnlikeMakes", C_UnlikeMakes), ("Order", C_Order), ("TrialList", C_TrialList)], P0, none⟩ m_TrialList___init__) := by
  have sc := sc_TrialList___init__
  have z := fn_denS (P := P) (w := w) (mg := mg) (base := base) (G := ⟨cls [("Full", C_Full), ("InvalidName", C_InvalidName), ("DuplicateMake", C_DuplicateMake), ("InvalidWord", C_InvalidWord), ("UnknownMake", C_UnknownMake), ("UnknownTrial", C_UnknownTrial), ("UnlikeMakes", C_UnlikeMakes), ("Order", C_Order), ("TrialList", C_TrialList)], P0, none⟩) (tc := [0, 0, 0]) (den := d_TrialList___init__) (pr := [0]) (k := 4) T.F_TrialList___init__ sc_TrialList___init__ T.a_TrialList___init__ (by decide) fun cdv A outer s H E hr tk po hu => (gss_cons (gs_expr (g_call tk (ok_check_makes T) (hr.mono (by decide)) (by rfl) T.g_check_makes T.F_check_makes.kp T.a_check_makes (gr_v (g_cp (pv 1)) gr_nil)))
  (gss_cons (gs_setF (i := 0) (c := "TrialList") T.fl_TrialList_names (pv 0) (g_list (by rfl) T.b_list (go_v (g_cp (pv 1)))))
  (gss_cons (gs_setF (i := 0) (c := "TrialList") T.fl_TrialList_kept (pv 0) (g_lst ga_nil))
  (gss_one (gs_setF (i := 0) (c := "TrialList") T.fl_TrialList_given (pv 0) g_int)))))
  rw [m_TrialList___init___def]
  exact z
theorem sc_TrialList_add_make : FnScope ["self", "name"] ["self", "name"] (defScope (cls_st 25 4)) := ⟨rfl, rfl, rfl, by decide +kernel, rfl, by decide +kernel, by decide +kernel⟩
theorem ok_TrialList_add_make (T : Txt K mg f_law_box f_law_take f_law_name f_law_names f_check_name f_check_makes f_TrialList___init__ f_TrialList_add_make f_law_trial f_law_raw_trials f_law_rows_of f_check_known f_TrialList_check_trial f_TrialList_keep f_TrialList_note f_TrialList_trial f_TrialList_retract f_law_gapped f_law_drawn_pairs f_law_named f_check_pairs f_closed_rows f_rows_of f_Order___init__ f_TrialList_makes f_Order_has f_TrialList_against f_TrialList_admits f_law_refused f_law_closed f_law_is_int f_law_are_ints f_law C_Full C_InvalidName C_DuplicateMake C_InvalidWord C_UnknownMake C_UnknownTrial C_UnlikeMakes C_Order C_TrialList fi_Full fi_InvalidName fi_DuplicateMake fi_InvalidWord fi_UnknownMake fi_UnknownTrial pp_Order_makes fp_Order_makes pp_TrialList_makes fd_law_box fd_law_take fd_law_name fd_law_names fd_check_name fd_check_makes fd_TrialList___init__ fd_TrialList_add_make fd_law_trial fd_law_raw_trials fd_law_rows_of fd_check_known fd_TrialList_check_trial fd_TrialList_keep fd_TrialList_note fd_TrialList_trial fd_TrialList_retract fd_law_gapped fd_law_drawn_pairs fd_law_named fd_check_pairs fd_closed_rows fd_rows_of fd_Order___init__ fd_TrialList_makes fd_Order_has fd_TrialList_against fd_TrialList_admits fd_law_refused fd_law_closed fd_law_is_int fd_law_are_ints fd_law fdi_Full fdi_InvalidName fdi_DuplicateMake fdi_InvalidWord fdi_UnknownMake fdi_UnknownTrial fdp_Order_makes) : FnOk P w K mg base (L2.CX P w) 4 f_TrialList_add_make fd_TrialList_add_make ["self", "name"] (spM ⟨K, cls [("Full", C_Full), ("InvalidName", C_InvalidName), ("DuplicateMake", C_DuplicateMake), ("InvalidWord", C_InvalidWord), ("UnknownMake", C_UnknownMake), ("UnknownTrial", C_UnknownTrial), ("UnlikeMakes", C_UnlikeMakes), ("Order", C_Order), ("TrialList", C_TrialList)], P0, none⟩ m_TrialList_add_make) := by
  have sc := sc_TrialList_add_make
  have z := fn_den2 (P := P) (w := w) (mg := mg) (base := base) (G := ⟨cls [("Full", C_Full), ("InvalidName", C_InvalidName), ("DuplicateMake", C_DuplicateMake), ("InvalidWord", C_InvalidWord), ("UnknownMake", C_UnknownMake), ("UnknownTrial", C_UnknownTrial), ("UnlikeMakes", C_UnlikeMakes), ("Order", C_Order), ("TrialList", C_TrialList)], P0, none⟩) (tc := [0]) (den := d_TrialList_add_make) (pr := [0]) (k := 3) T.F_TrialList_add_make sc_TrialList_add_make (by decide) fun cdv A outer s H E hr tk po hu => (gss_cons (gs_expr (g_call tk (ok_check_name T) (hr.mono (by decide)) (by rfl) T.g_check_name T.F_check_name.kp T.a_check_name (gr_v (g_cp (pv 1)) gr_nil)))
  (gss_cons (gs_if (gt_lend (i := 0) (gt_in hu (go_v (g_cp (pv 1))) (go_v (g_fld (c := "TrialList") T.fl_TrialList_names (go_p (pv 0)))))) (gss_one (gs_raise rfl tk T.c_DuplicateMake T.x_DuplicateMake T.nf_DuplicateMake T.i_DuplicateMake T.t_DuplicateMake (okx_DuplicateMake T) (hr.mono (by decide)) T.a_DuplicateMake (by rfl) T.g_DuplicateMake (ga_cons (g_cp (pv 1)) ga_nil))) gss_nil)
  (gss_cons (gs_if (gt_lend (i := 0) (gt_ge (go_v (g_len (by rfl) T.b_len (go_v (g_fld (c := "TrialList") T.fl_TrialList_names (go_p (pv 0)))))) (go_v (g_glI (by rfl) T.k_MOST_MAKES)))) (gss_one (gs_raise rfl tk T.c_Full T.x_Full T.nf_Full T.i_Full T.t_Full (okx_Full T) (hr.mono (by decide)) T.a_Full (by rfl) T.g_Full (ga_cons (g_glI (by rfl) T.k_MOST_MAKES) ga_nil))) gss_nil)
  (gss_one (gs_appF (i := 0) (c := "TrialList") T.fl_TrialList_names (pv 0) (g_cp (pv 1)))))))
  rw [m_TrialList_add_make_def]
  exact z
theorem sc_law_trial : FnScope ["_law_box_here", "_law_size", "_law_word", "_law_upper"] ["_law_box_here", "_law_size"] (defScope (topS 32)) := ⟨rfl, rfl, rfl, by decide +kernel, rfl, by decide +kernel, by decide +kernel⟩
theorem ok_law_trial (T : Txt K mg f_law_box f_law_take f_law_name f_law_names f_check_name f_check_makes f_TrialList___init__ f_TrialList_add_make f_law_trial f_law_raw_trials f_law_rows_of f_check_known f_TrialList_check_trial f_TrialList_keep f_TrialList_note f_TrialList_trial f_TrialList_retract f_law_gapped f_law_drawn_pairs f_law_named f_check_pairs f_closed_rows f_rows_of f_Order___init__ f_TrialList_makes f_Order_has f_TrialList_against f_TrialList_admits f_law_refused f_law_closed f_law_is_int f_law_are_ints f_law C_Full C_InvalidName C_DuplicateMake C_InvalidWord C_UnknownMake C_UnknownTrial C_UnlikeMakes C_Order C_TrialList fi_Full fi_InvalidName fi_DuplicateMake fi_InvalidWord fi_UnknownMake fi_UnknownTrial pp_Order_makes fp_Order_makes pp_TrialList_makes fd_law_box fd_law_take fd_law_name fd_law_names fd_check_name fd_check_makes fd_TrialList___init__ fd_TrialList_add_make fd_law_trial fd_law_raw_trials fd_law_rows_of fd_check_known fd_TrialList_check_trial fd_TrialList_keep fd_TrialList_note fd_TrialList_trial fd_TrialList_retract fd_law_gapped fd_law_drawn_pairs fd_law_named fd_check_pairs fd_closed_rows fd_rows_of fd_Order___init__ fd_TrialList_makes fd_Order_has fd_TrialList_against fd_TrialList_admits fd_law_refused fd_law_closed fd_law_is_int fd_law_are_ints fd_law fdi_Full fdi_InvalidName fdi_DuplicateMake fdi_InvalidWord fdi_UnknownMake fdi_UnknownTrial fdp_Order_makes) : FnOk P w K mg base (L2.CX P w) 2 f_law_trial fd_law_trial ["_law_box_here", "_law_size"] (spM ⟨K, cls [("Full", C_Full), ("InvalidName", C_InvalidName), ("DuplicateMake", C_DuplicateMake), ("InvalidWord", C_InvalidWord), ("UnknownMake", C_UnknownMake), ("UnknownTrial", C_UnknownTrial), ("UnlikeMakes", C_UnlikeMakes), ("Order", C_Order), ("TrialList", C_TrialList)], P0, none⟩ m_law_trial) := by
  have sc := sc_law_trial
  have z := fn_den2 (P := P) (w := w) (mg := mg) (base := base) (G := ⟨cls [("Full", C_Full), ("InvalidName", C_InvalidName), ("DuplicateMake", C_DuplicateMake), ("InvalidWord", C_InvalidWord), ("UnknownMake", C_UnknownMake), ("UnknownTrial", C_UnknownTrial), ("UnlikeMakes", C_UnlikeMakes), ("Order", C_Order), ("TrialList", C_TrialList)], P0, none⟩) (tc := [0, 2, 1002, 0, 3, 1003, 0]) (den := d_law_trial) (pr := [0]) (k := 1) T.F_law_trial sc_law_trial (by decide) fun cdv A outer s H E hr tk po hu => (gss_cons (gs_asg (i := 2) (g_ix (go_v (g_lst (ga_cons g_str (ga_cons g_str ga_nil)))) (go_v (g_call tk (ok_law_take T) (hr.mono (by decide)) (by rfl) T.g_law_take T.F_law_take.kp T.a_law_take (gr_io (pv 0) (gr_v g_int gr_nil))))) sc.nd rfl (by first | exact .inl rfl | exact .inr rfl))
  (gss_cons (gs_asg (i := 3) (g_call tk (ok_law_take T) (hr.mono (by decide)) (by rfl) T.g_law_take T.F_law_take.kp T.a_law_take (gr_io (pv 0) (gr_v (g_cp (pv 1)) gr_nil))) sc.nd rfl (by first | exact .inl rfl | exact .inr rfl))
  (gss_one (gs_ret (g_tup (ga_cons (g_cp (pv 2)) (ga_cons (g_cp (pv 3)) (ga_cons (g_call tk (ok_law_take T) (hr.mono (by decide)) (by rfl) T.g_law_take T.F_law_take.kp T.a_law_take (gr_io (pv 0) (gr_v (g_cp (pv 1)) gr_nil))) ga_nil))))))))
  rw [m_law_trial_def]
  exact z
theorem sc_law_raw_trials : FnScope ["_law_box_here", "_law_size", "_law_count", "_law_trials", "_law_k"] ["_law_box_here", "_law_size", "_law_count"] (defScope (topS 33)) := ⟨rfl, rfl, rfl, by decide +kernel, rfl, by decide +kernel, by decide +kernel⟩
theorem ok_law_raw_trials (T : Txt K mg f_law_box f_law_take f_law_name f_law_names f_check_name f_check_makes f_TrialList___init__ f_TrialList_add_make f_law_trial f_law_raw_trials f_law_rows_of f_check_known f_TrialList_check_trial f_TrialList_keep f_TrialList_note f_TrialList_trial f_TrialList_retract f_law_gapped f_law_drawn_pairs f_law_named f_check_pairs f_closed_rows f_rows_of f_Order___init__ f_TrialList_makes f_Order_has f_TrialList_against f_TrialList_admits f_law_refused f_law_closed f_law_is_int f_law_are_ints f_law C_Full C_InvalidName C_DuplicateMake C_InvalidWord C_UnknownMake C_UnknownTrial C_UnlikeMakes C_Order C_TrialList fi_Full fi_InvalidName fi_DuplicateMake fi_InvalidWord fi_UnknownMake fi_UnknownTrial pp_Order_makes fp_Order_makes pp_TrialList_makes fd_law_box fd_law_take fd_law_name fd_law_names fd_check_name fd_check_makes fd_TrialList___init__ fd_TrialList_add_make fd_law_trial fd_law_raw_trials fd_law_rows_of fd_check_known fd_TrialList_check_trial fd_TrialList_keep fd_TrialList_note fd_TrialList_trial fd_TrialList_retract fd_law_gapped fd_law_drawn_pairs fd_law_named fd_check_pairs fd_closed_rows fd_rows_of fd_Order___init__ fd_TrialList_makes fd_Order_has fd_TrialList_against fd_TrialList_admits fd_law_refused fd_law_closed fd_law_is_int fd_law_are_ints fd_law fdi_Full fdi_InvalidName fdi_DuplicateMake fdi_InvalidWord fdi_UnknownMake fdi_UnknownTrial fdp_Order_makes) : FnOk P w K mg base (L2.CX P w) 3 f_law_raw_trials fd_law_raw_trials ["_law_box_here", "_law_size", "_law_count"] (spM ⟨K, cls [("Full", C_Full), ("InvalidName", C_InvalidName), ("DuplicateMake", C_DuplicateMake), ("InvalidWord", C_InvalidWord), ("UnknownMake", C_UnknownMake), ("UnknownTrial", C_UnknownTrial), ("UnlikeMakes", C_UnlikeMakes), ("Order", C_Order), ("TrialList", C_TrialList)], P0, none⟩ m_law_raw_trials) := by
  have sc := sc_law_raw_trials
  have z := fn_den2 (P := P) (w := w) (mg := mg) (base := base) (G := ⟨cls [("Full", C_Full), ("InvalidName", C_InvalidName), ("DuplicateMake", C_DuplicateMake), ("InvalidWord", C_InvalidWord), ("UnknownMake", C_UnknownMake), ("UnknownTrial", C_UnknownTrial), ("UnlikeMakes", C_UnlikeMakes), ("Order", C_Order), ("TrialList", C_TrialList)], P0, none⟩) (tc := [3, 1003, 4, 1004, 0, 3, 3]) (den := d_law_raw_trials) (pr := [0]) (k := 2) T.F_law_raw_trials sc_law_raw_trials (by decide) fun cdv A outer s H E hr tk po hu => (gss_cons (gs_asg (i := 3) (g_lst ga_nil) sc.nd rfl (by first | exact .inl rfl | exact .inr rfl))
  (gss_cons (gs_for (tg := (.one 4)) (fg := []) po rfl (gi_range1 (by rfl) T.b_range (g_mul (go_v (g_cp (pv 2))) (go_v (g_min rfl (by rfl) T.b_min (go_v (g_cp (pv 1))) (go_v g_int))))) (pg_name (i := 4) sc.nd rfl (by first | exact .inl rfl | exact .inr rfl)) (gss_one (gs_app (i := 3) (pv 3) (g_call tk (ok_law_trial T) (hr.mono (by decide)) (by rfl) T.g_law_trial T.F_law_trial.kp T.a_law_trial (gr_io (pv 0) (gr_v (g_cp (pv 1)) gr_nil))))))
  (gss_one (gs_ret (g_mv (pv 3))))))
  rw [m_law_raw_trials_def]
  exact z
theorem sc_law_rows_of : FnScope ["_law_trials", "_law_rows", "_law_k"] ["_law_trials"] (defScope (topS 31)) := ⟨rfl, rfl, rfl, by decide +kernel, rfl, by decide +kernel, by decide +kernel⟩
theorem ok_law_rows_of (T : Txt K mg f_law_box f_law_take f_law_name f_law_names f_check_name f_check_makes f_TrialList___init__ f_TrialList_add_make f_law_trial f_law_raw_trials f_law_rows_of f_check_known f_TrialList_check_trial f_TrialList_keep f_TrialList_note f_TrialList_trial f_TrialList_retract f_law_gapped f_law_drawn_pairs f_law_named f_check_pairs f_closed_rows f_rows_of f_Order___init__ f_TrialList_makes f_Order_has f_TrialList_against f_TrialList_admits f_law_refused f_law_closed f_law_is_int f_law_are_ints f_law C_Full C_InvalidName C_DuplicateMake C_InvalidWord C_UnknownMake C_UnknownTrial C_UnlikeMakes C_Order C_TrialList fi_Full fi_InvalidName fi_DuplicateMake fi_InvalidWord fi_UnknownMake fi_UnknownTrial pp_Order_makes fp_Order_makes pp_TrialList_makes fd_law_box fd_law_take fd_law_name fd_law_names fd_check_name fd_check_makes fd_TrialList___init__ fd_TrialList_add_make fd_law_trial fd_law_raw_trials fd_law_rows_of fd_check_known fd_TrialList_check_trial fd_TrialList_keep fd_TrialList_note fd_TrialList_trial fd_TrialList_retract fd_law_gapped fd_law_drawn_pairs fd_law_named fd_check_pairs fd_closed_rows fd_rows_of fd_Order___init__ fd_TrialList_makes fd_Order_has fd_TrialList_against fd_TrialList_admits fd_law_refused fd_law_closed fd_law_is_int fd_law_are_ints fd_law fdi_Full fdi_InvalidName fdi_DuplicateMake fdi_InvalidWord fdi_UnknownMake fdi_UnknownTrial fdp_Order_makes) : FnOk P w K mg base (L2.CX P w) 1 f_law_rows_of fd_law_rows_of ["_law_trials"] (spM ⟨K, cls [("Full", C_Full), ("InvalidName", C_InvalidName), ("DuplicateMake", C_DuplicateMake), ("InvalidWord", C_InvalidWord), ("UnknownMake", C_UnknownMake), ("UnknownTrial", C_UnknownTrial), ("UnlikeMakes", C_UnlikeMakes), ("Order", C_Order), ("TrialList", C_TrialList)], P0, none⟩ m_law_rows_of) := by
  have sc := sc_law_rows_of
  have z := fn_den2 (P := P) (w := w) (mg := mg) (base := base) (G := ⟨cls [("Full", C_Full), ("InvalidName", C_InvalidName), ("DuplicateMake", C_DuplicateMake), ("InvalidWord", C_InvalidWord), ("UnknownMake", C_UnknownMake), ("UnknownTrial", C_UnknownTrial), ("UnlikeMakes", C_UnlikeMakes), ("Order", C_Order), ("TrialList", C_TrialList)], P0, none⟩) (tc := [1, 1001, 2, 1002, 1, 1]) (den := d_law_rows_of) (pr := []) (k := 0) T.F_law_rows_of sc_law_rows_of (by decide) fun cdv A outer s H E hr tk po hu => (gss_cons (gs_asg (i := 1) (g_lst ga_nil) sc.nd rfl (by first | exact .inl rfl | exact .inr rfl))
  (gss_cons (gs_for (tg := (.one 2)) (fg := []) po rfl (gi_range1 (by rfl) T.b_range (g_len (by rfl) T.b_len (go_p (pv 0)))) (pg_name (i := 2) sc.nd rfl (by first | exact .inl rfl | exact .inr rfl)) (gss_one (gs_app (i := 1) (pv 1) (g_tup (ga_cons (g_add (go_v (g_cp (pv 2))) (go_v g_int)) (ga_cons (g_ix (go_v (g_ix (go_p (pv 0)) (go_v (g_cp (pv 2))))) (go_v g_int)) (ga_cons (g_ix (go_v (g_ix (go_p (pv 0)) (go_v (g_cp (pv 2))))) (go_v g_int)) (ga_cons (g_ix (go_v (g_ix (go_p (pv 0)) (go_v (g_cp (pv 2))))) (go_v g_int)) ga_nil))))))))
  (gss_one (gs_ret (g_mv (pv 1))))))
  rw [m_law_rows_of_def]
  exact z
theorem okx_InvalidWord (T : Txt K mg f_law_box f_law_take f_law_name f_law_names f_check_name f_check_makes f_TrialList___init__ f_TrialList_add_make f_law_trial f_law_raw_trials f_law_rows_of f_check_known f_TrialList_check_trial f_TrialList_keep f_TrialList_note f_TrialList_trial f_TrialList_retract f_law_gapped f_law_drawn_pairs f_law_named f_check_pairs f_closed_rows f_rows_of f_Order___init__ f_TrialList_makes f_Order_has f_TrialList_against f_TrialList_admits f_law_refused f_law_closed f_law_is_int f_law_are_ints f_law C_Full C_InvalidName C_DuplicateMake C_InvalidWord C_UnknownMake C_UnknownTrial C_UnlikeMakes C_Order C_TrialList fi_Full fi_InvalidName fi_DuplicateMake fi_InvalidWord fi_UnknownMake fi_UnknownTrial pp_Order_makes fp_Order_makes pp_TrialList_makes fd_law_box fd_law_take fd_law_name fd_law_names fd_check_name fd_check_makes fd_TrialList___init__ fd_TrialList_add_make fd_law_trial fd_law_raw_trials fd_law_rows_of fd_check_known fd_TrialList_check_trial fd_TrialList_keep fd_TrialList_note fd_TrialList_trial fd_TrialList_retract fd_law_gapped fd_law_drawn_pairs fd_law_named fd_check_pairs fd_closed_rows fd_rows_of fd_Order___init__ fd_TrialList_makes fd_Order_has fd_TrialList_against fd_TrialList_admits fd_law_refused fd_law_closed fd_law_is_int fd_law_are_ints fd_law fdi_Full fdi_InvalidName fdi_DuplicateMake fdi_InvalidWord fdi_UnknownMake fdi_UnknownTrial fdp_Order_makes) : FnOk P w K mg base CX0 1 fi_InvalidWord fdi_InvalidWord ["self", "word"] (spXP K ["word"]) :=
  fn_xinit T.F_InvalidWord ⟨rfl, rfl, rfl, by decide +kernel, rfl, by decide +kernel, by decide +kernel⟩ (by decide) (by decide) fun _ _ _ _ _ _ => (.cons (ps_ost (pv 0) (pv 1)) .nil)
theorem okx_UnknownMake (T : Txt K mg f_law_box f_law_take f_law_name f_law_names f_check_name f_check_makes f_TrialList___init__ f_TrialList_add_make f_law_trial f_law_raw_trials f_law_rows_of f_check_known f_TrialList_check_trial f_TrialList_keep f_TrialList_note f_TrialList_trial f_TrialList_retract f_law_gapped f_law_drawn_pairs f_law_named f_check_pairs f_closed_rows f_rows_of f_Order___init__ f_TrialList_makes f_Order_has f_TrialList_against f_TrialList_admits f_law_refused f_law_closed f_law_is_int f_law_are_ints f_law C_Full C_InvalidName C_DuplicateMake C_InvalidWord C_UnknownMake C_UnknownTrial C_UnlikeMakes C_Order C_TrialList fi_Full fi_InvalidName fi_DuplicateMake fi_InvalidWord fi_UnknownMake fi_UnknownTrial pp_Order_makes fp_Order_makes pp_TrialList_makes fd_law_box fd_law_take fd_law_name fd_law_names fd_check_name fd_check_makes fd_TrialList___init__ fd_TrialList_add_make fd_law_trial fd_law_raw_trials fd_law_rows_of fd_check_known fd_TrialList_check_trial fd_TrialList_keep fd_TrialList_note fd_TrialList_trial fd_TrialList_retract fd_law_gapped fd_law_drawn_pairs fd_law_named fd_check_pairs fd_closed_rows fd_rows_of fd_Order___init__ fd_TrialList_makes fd_Order_has fd_TrialList_against fd_TrialList_admits fd_law_refused fd_law_closed fd_law_is_int fd_law_are_ints fd_law fdi_Full fdi_InvalidName fdi_DuplicateMake fdi_InvalidWord fdi_UnknownMake fdi_UnknownTrial fdp_Order_makes) : FnOk P w K mg base CX0 1 fi_UnknownMake fdi_UnknownMake ["self", "name"] (spXP K ["name"]) :=
  fn_xinit T.F_UnknownMake ⟨rfl, rfl, rfl, by decide +kernel, rfl, by decide +kernel, by decide +kernel⟩ (by decide) (by decide) fun _ _ _ _ _ _ => (.cons (ps_ost (pv 0) (pv 1)) .nil)
theorem sc_check_known : FnScope ["makes", "names", "name"] ["makes", "names"] (defScope (topS 16)) := ⟨rfl, rfl, rfl, by decide +kernel, rfl, by decide +kernel, by decide +kernel⟩
theorem ok_check_known (T : Txt K mg f_law_box f_law_take f_law_name f_law_names f_check_name f_check_makes f_TrialList___init__ f_TrialList_add_make f_law_trial f_law_raw_trials f_law_rows_of f_check_known f_TrialList_check_trial f_TrialList_keep f_TrialList_note f_TrialList_trial f_TrialList_retract f_law_gapped f_law_drawn_pairs f_law_named f_check_pairs f_closed_rows f_rows_of f_Order___init__ f_TrialList_makes f_Order_has f_TrialList_against f_TrialList_admits f_law_refused f_law_closed f_law_is_int f_law_are_ints f_law C_Full C_InvalidName C_DuplicateMake C_InvalidWord C_UnknownMake C_UnknownTrial C_UnlikeMakes C_Order C_TrialList fi_Full fi_InvalidName fi_DuplicateMake fi_InvalidWord fi_UnknownMake fi_UnknownTrial pp_Order_makes fp_Order_makes pp_TrialList_makes fd_law_box fd_law_take fd_law_name fd_law_names fd_check_name fd_check_makes fd_TrialList___init__ fd_TrialList_add_make fd_law_trial fd_law_raw_trials fd_law_rows_of fd_check_known fd_TrialList_check_trial fd_TrialList_keep fd_TrialList_note fd_TrialList_trial fd_TrialList_retract fd_law_gapped fd_law_drawn_pairs fd_law_named fd_check_pairs fd_closed_rows fd_rows_of fd_Order___init__ fd_TrialList_makes fd_Order_has fd_TrialList_against fd_TrialList_admits fd_law_refused fd_law_closed fd_law_is_int fd_law_are_ints fd_law fdi_Full fdi_InvalidName fdi_DuplicateMake fdi_InvalidWord fdi_UnknownMake fdi_UnknownTrial fdp_Order_makes) : FnOk P w K mg base (L2.CX P w) 3 f_check_known fd_check_known ["makes", "names"] (spM ⟨K, cls [("Full", C_Full), ("InvalidName", C_InvalidName), ("DuplicateMake", C_DuplicateMake), ("InvalidWord", C_InvalidWord), ("UnknownMake", C_UnknownMake), ("UnknownTrial", C_UnknownTrial), ("UnlikeMakes", C_UnlikeMakes), ("Order", C_Order), ("TrialList", C_TrialList)], P0, none⟩ m_check_known) := by
  have sc := sc_check_known
  have z := fn_den2 (P := P) (w := w) (mg := mg) (base := base) (G := ⟨cls [("Full", C_Full), ("InvalidName", C_InvalidName), ("DuplicateMake", C_DuplicateMake), ("InvalidWord", C_InvalidWord), ("UnknownMake", C_UnknownMake), ("UnknownTrial", C_UnknownTrial), ("UnlikeMakes", C_UnlikeMakes), ("Order", C_Order), ("TrialList", C_TrialList)], P0, none⟩) (tc := [2, 1002]) (den := d_check_known) (pr := []) (k := 2) T.F_check_known sc_check_known (by decide) fun cdv A outer s H E hr tk po hu => (gss_one (gs_for (tg := (.one 2)) (fg := []) po rfl (gi_seq (g_cp (pv 1))) (pg_name (i := 2) sc.nd rfl (by first | exact .inl rfl | exact .inr rfl)) (gss_one (gs_if (gt_notIn hu (go_v (g_cp (pv 2))) (go_p (pv 0))) (gss_one (gs_raise rfl tk T.c_UnknownMake T.x_UnknownMake T.nf_UnknownMake T.i_UnknownMake T.t_UnknownMake (okx_UnknownMake T) (hr.mono (by decide)) T.a_UnknownMake (by rfl) T.g_UnknownMake (ga_cons (g_cp (pv 2)) ga_nil))) gss_nil))))
  rw [m_check_known_def]
  exact z
theorem sc_TrialList_check_trial : FnScope ["self", "word", "upper", "lower"] ["self", "word", "upper", "lower"] (defScope (cls_st 25 5)) := ⟨rfl, rfl, rfl, by decide +kernel, rfl, by decide +kernel, by decide +kernel⟩
theorem ok_TrialList_check_trial (T : Txt K mg f_law_box f_law_take f_law_name f_law_names f_check_name f_check_makes f_TrialList___init__ f_TrialList_add_make f_law_trial f_law_raw_trials f_law_rows_of f_check_known f_TrialList_check_trial f_TrialList_keep f_TrialList_note f_TrialList_trial f_TrialList_retract f_law_gapped f_law_drawn_pairs f_law_named f_check_pairs f_closed_rows f_rows_of f_Order___init__ f_TrialList_makes f_Order_has f_TrialList_against f_TrialList_admits f_law_refused f_law_closed f_law_is_int f_law_are_ints f_law C_Full C_InvalidName C_DuplicateMake C_InvalidWord C_UnknownMake C_UnknownTrial C_UnlikeMakes C_Order C_TrialList fi_Full fi_InvalidName fi_DuplicateMake fi_InvalidWord fi_UnknownMake fi_UnknownTrial pp_Order_makes fp_Order_makes pp_TrialList_makes fd_law_box fd_law_take fd_law_name fd_law_names fd_check_name fd_check_makes fd_TrialList___init__ fd_TrialList_add_make fd_law_trial fd_law_raw_trials fd_law_rows_of fd_check_known fd_TrialList_check_trial fd_TrialList_keep fd_TrialList_note fd_TrialList_trial fd_TrialList_retract fd_law_gapped fd_law_drawn_pairs fd_law_named fd_check_pairs fd_closed_rows fd_rows_of fd_Order___init__ fd_TrialList_makes fd_Order_has fd_TrialList_against fd_TrialList_admits fd_law_refused fd_law_closed fd_law_is_int fd_law_are_ints fd_law fdi_Full fdi_InvalidName fdi_DuplicateMake fdi_InvalidWord fdi_UnknownMake fdi_UnknownTrial fdp_Order_makes) : FnOk P w K mg base (L2.CX P w) 4 f_TrialList_check_trial fd_TrialList_check_trial ["self", "word", "upper", "lower"] (spM ⟨K, cls [("Full", C_Full), ("InvalidName", C_InvalidName), ("DuplicateMake", C_DuplicateMake), ("InvalidWord", C_InvalidWord), ("UnknownMake", C_UnknownMake), ("UnknownTrial", C_UnknownTrial), ("UnlikeMakes", C_UnlikeMakes), ("Order", C_Order), ("TrialList", C_TrialList)], P0, none⟩ m_TrialList_check_trial) := by
  have sc := sc_TrialList_check_trial
  have z := fn_den2 (P := P) (w := w) (mg := mg) (base := base) (G := ⟨cls [("Full", C_Full), ("InvalidName", C_InvalidName), ("DuplicateMake", C_DuplicateMake), ("InvalidWord", C_InvalidWord), ("UnknownMake", C_UnknownMake), ("UnknownTrial", C_UnknownTrial), ("UnlikeMakes", C_UnlikeMakes), ("Order", C_Order), ("TrialList", C_TrialList)], P0, none⟩) (tc := []) (den := d_TrialList_check_trial) (pr := []) (k := 3) T.F_TrialList_check_trial sc_TrialList_check_trial (by decide) fun cdv A outer s H E hr tk po hu => (gss_cons (gs_if (gt_notIn hu (go_v (g_cp (pv 1))) (go_v (g_glT (zs := ["sits", "refuses"]) (by rfl) T.kt_WORDS))) (gss_one (gs_raise rfl tk T.c_InvalidWord T.x_InvalidWord T.nf_InvalidWord T.i_InvalidWord T.t_InvalidWord (okx_InvalidWord T) (hr.mono (by decide)) T.a_InvalidWord (by rfl) T.g_InvalidWord (ga_cons (g_cp (pv 1)) ga_nil))) gss_nil)
  (gss_cons (gs_lend (i := 0) (gs_expr (g_call tk (ok_check_known T) (hr.mono (by decide)) (by rfl) T.g_check_known T.F_check_known.kp T.a_check_known (gr_v (g_fld (c := "TrialList") T.fl_TrialList_names (go_p (pv 0))) (gr_v (g_tup (ga_cons (g_cp (pv 2)) (ga_cons (g_cp (pv 3)) ga_nil))) gr_nil)))))
  (gss_one (gs_if (gt_lend (i := 0) (gt_ge (go_v (g_len (by rfl) T.b_len (go_v (g_fld (c := "TrialList") T.fl_TrialList_kept (go_p (pv 0)))))) (go_v (g_glI (by rfl) T.k_MOST_TRIALS)))) (gss_one (gs_raise rfl tk T.c_Full T.x_Full T.nf_Full T.i_Full T.t_Full (okx_Full T) (hr.mono (by decide)) T.a_Full (by rfl) T.g_Full (ga_cons (g_glI (by rfl) T.k_MOST_TRIALS) ga_nil))) gss_nil))))
  rw [m_TrialList_check_trial_def]
  exact z
theorem sc_TrialList_keep : FnScope ["self", "word", "upper", "lower"] ["self", "word", "upper", "lower"] (defScope (cls_st 25 6)) := ⟨rfl, rfl, rfl, by decide +kernel, rfl, by decide +kernel, by decide +kernel⟩
theorem ok_TrialList_keep (T : Txt K mg f_law_box f_law_take f_law_name f_law_names f_check_name f_check_makes f_TrialList___init__ f_TrialList_add_make f_law_trial f_law_raw_trials f_law_rows_of f_check_known f_TrialList_check_trial f_TrialList_keep f_TrialList_note f_TrialList_trial f_TrialList_retract f_law_gapped f_law_drawn_pairs f_law_named f_check_pairs f_closed_rows f_rows_of f_Order___init__ f_TrialList_makes f_Order_has f_TrialList_against f_TrialList_admits f_law_refused f_law_closed f_law_is_int f_law_are_ints f_law C_Full C_InvalidName C_DuplicateMake C_InvalidWord C_UnknownMake C_UnknownTrial C_UnlikeMakes C_Order C_TrialList fi_Full fi_InvalidName fi_DuplicateMake fi_InvalidWord fi_UnknownMake fi_UnknownTrial pp_Order_makes fp_Order_makes pp_TrialList_makes fd_law_box fd_law_take fd_law_name fd_law_names fd_check_name fd_check_makes fd_TrialList___init__ fd_TrialList_add_make fd_law_trial fd_law_raw_trials fd_law_rows_of fd_check_known fd_TrialList_check_trial fd_TrialList_keep fd_TrialList_note fd_TrialList_trial fd_TrialList_retract fd_law_gapped fd_law_drawn_pairs fd_law_named fd_check_pairs fd_closed_rows fd_rows_of fd_Order___init__ fd_TrialList_makes fd_Order_has fd_TrialList_against fd_TrialList_admits fd_law_refused fd_law_closed fd_law_is_int fd_law_are_ints fd_law fdi_Full fdi_InvalidName fdi_DuplicateMake fdi_InvalidWord fdi_UnknownMake fdi_UnknownTrial fdp_Order_makes) : FnOk P w K mg base (L2.CX P w) 1 f_TrialList_keep fd_TrialList_keep ["self", "word", "upper", "lower"] (spM ⟨K, cls [("Full", C_Full), ("InvalidName", C_InvalidName), ("DuplicateMake", C_DuplicateMake), ("InvalidWord", C_InvalidWord), ("UnknownMake", C_UnknownMake), ("UnknownTrial", C_UnknownTrial), ("UnlikeMakes", C_UnlikeMakes), ("Order", C_Order), ("TrialList", C_TrialList)], P0, none⟩ m_TrialList_keep) := by
  have sc := sc_TrialList_keep
  have z := fn_den2 (P := P) (w := w) (mg := mg) (base := base) (G := ⟨cls [("Full", C_Full), ("InvalidName", C_InvalidName), ("DuplicateMake", C_DuplicateMake), ("InvalidWord", C_InvalidWord), ("UnknownMake", C_UnknownMake), ("UnknownTrial", C_UnknownTrial), ("UnlikeMakes", C_UnlikeMakes), ("Order", C_Order), ("TrialList", C_TrialList)], P0, none⟩) (tc := [0, 0]) (den := d_TrialList_keep) (pr := [0]) (k := 0) T.F_TrialList_keep sc_TrialList_keep (by decide) fun cdv A outer s H E hr tk po hu => (gss_cons (gs_augC (i := 0) (c := "TrialList") T.fl_TrialList_given (pv 0))
  (gss_cons (gs_appF (i := 0) (c := "TrialList") T.fl_TrialList_kept (pv 0) (g_tup (ga_cons (g_fld (c := "TrialList") T.fl_TrialList_given (go_p (pv 0))) (ga_cons (g_cp (pv 1)) (ga_cons (g_cp (pv 2)) (ga_cons (g_cp (pv 3)) ga_nil))))))
  (gss_one (gs_ret (g_fld (c := "TrialList") T.fl_TrialList_given (go_p (pv 0)))))))
  rw [m_TrialList_keep_def]
  exact z
theorem sc_TrialList_note : FnScope ["self", "word", "upper", "lower"] ["self", "word", "upper", "lower"] (defScope (cls_st 25 7)) := ⟨rfl, rfl, rfl, by decide +kernel, rfl, by decide +kernel, by decide +kernel⟩
theorem ok_TrialList_note (T : Txt K mg f_law_box f_law_take f_law_name f_law_names f_check_name f_check_makes f_TrialList___init__ f_TrialList_add_make f_law_trial f_law_raw_trials f_law_rows_of f_check_known f_TrialList_check_trial f_TrialList_keep f_TrialList_note f_TrialList_trial f_TrialList_retract f_law_gapped f_law_drawn_pairs f_law_named f_check_pairs f_closed_rows f_rows_of f_Order___init__ f_TrialList_makes f_Order_has f_TrialList_against f_TrialList_admits f_law_refused f_law_closed f_law_is_int f_law_are_ints f_law C_Full C_InvalidName C_DuplicateMake C_InvalidWord C_UnknownMake C_UnknownTrial C_UnlikeMakes C_Order C_TrialList fi_Full fi_InvalidName fi_DuplicateMake fi_InvalidWord fi_UnknownMake fi_UnknownTrial pp_Order_makes fp_Order_makes pp_TrialList_makes fd_law_box fd_law_take fd_law_name fd_law_names fd_check_name fd_check_makes fd_TrialList___init__ fd_TrialList_add_make fd_law_trial fd_law_raw_trials fd_law_rows_of fd_check_known fd_TrialList_check_trial fd_TrialList_keep fd_TrialList_note fd_TrialList_trial fd_TrialList_retract fd_law_gapped fd_law_drawn_pairs fd_law_named fd_check_pairs fd_closed_rows fd_rows_of fd_Order___init__ fd_TrialList_makes fd_Order_has fd_TrialList_against fd_TrialList_admits fd_law_refused fd_law_closed fd_law_is_int fd_law_are_ints fd_law fdi_Full fdi_InvalidName fdi_DuplicateMake fdi_InvalidWord fdi_UnknownMake fdi_UnknownTrial fdp_Order_makes) : FnOk P w K mg base (L2.CX P w) 5 f_TrialList_note fd_TrialList_note ["self", "word", "upper", "lower"] (spM ⟨K, cls [("Full", C_Full), ("InvalidName", C_InvalidName), ("DuplicateMake", C_DuplicateMake), ("InvalidWord", C_InvalidWord), ("UnknownMake", C_UnknownMake), ("UnknownTrial", C_UnknownTrial), ("UnlikeMakes", C_UnlikeMakes), ("Order", C_Order), ("TrialList", C_TrialList)], P0, none⟩ m_TrialList_note) := by
  have sc := sc_TrialList_note
  have z := fn_den2 (P := P) (w := w) (mg := mg) (base := base) (G := ⟨cls [("Full", C_Full), ("InvalidName", C_InvalidName), ("DuplicateMake", C_DuplicateMake), ("InvalidWord", C_InvalidWord), ("UnknownMake", C_UnknownMake), ("UnknownTrial", C_UnknownTrial), ("UnlikeMakes", C_UnlikeMakes), ("Order", C_Order), ("TrialList", C_TrialList)], P0, none⟩) (tc := [0]) (den := d_TrialList_note) (pr := [0]) (k := 4) T.F_TrialList_note sc_TrialList_note (by decide) fun cdv A outer s H E hr tk po hu => (gss_cons (gs_expr (g_meth tk T.c_TrialList T.cl_TrialList T.m_TrialList_check_trial (ok_TrialList_check_trial T) (hr.mono (by decide)) T.a_TrialList_check_trial (pv 0) (gr_v (g_cp (pv 1)) (gr_v (g_cp (pv 2)) (gr_v (g_cp (pv 3)) gr_nil)))))
  (gss_one (gs_ret (g_meth tk T.c_TrialList T.cl_TrialList T.m_TrialList_keep (ok_TrialList_keep T) (hr.mono (by decide)) T.a_TrialList_keep (pv 0) (gr_v (g_cp (pv 1)) (gr_v (g_cp (pv 2)) (gr_v (g_cp (pv 3)) gr_nil)))))))
  rw [m_TrialList_note_def]
  exact z
theorem okx_UnknownTrial (T : Txt K mg f_law_box f_law_take f_law_name f_law_names f_check_name f_check_makes f_TrialList___init__ f_TrialList_add_make f_law_trial f_law_raw_trials f_law_rows_of f_check_known f_TrialList_check_trial f_TrialList_keep f_TrialList_note f_TrialList_trial f_TrialList_retract f_law_gapped f_law_drawn_pairs f_law_named f_check_pairs f_closed_rows f_rows_of f_Order___init__ f_TrialList_makes f_Order_has f_TrialList_against f_TrialList_admits f_law_refused f_law_closed f_law_is_int f_law_are_ints f_law C_Full C_InvalidName C_DuplicateMake C_InvalidWord C_UnknownMake C_UnknownTrial C_UnlikeMakes C_Order C_TrialList fi_Full fi_InvalidName fi_DuplicateMake fi_InvalidWord fi_UnknownMake fi_UnknownTrial pp_Order_makes fp_Order_makes pp_TrialList_makes fd_law_box fd_law_take fd_law_name fd_law_names fd_check_name fd_check_makes fd_TrialList___init__ fd_TrialList_add_make fd_law_trial fd_law_raw_trials fd_law_rows_of fd_check_known fd_TrialList_check_trial fd_TrialList_keep fd_TrialList_note fd_TrialList_trial fd_TrialList_retract fd_law_gapped fd_law_drawn_pairs fd_law_named fd_check_pairs fd_closed_rows fd_rows_of fd_Order___init__ fd_TrialList_makes fd_Order_has fd_TrialList_against fd_TrialList_admits fd_law_refused fd_law_closed fd_law_is_int fd_law_are_ints fd_law fdi_Full fdi_InvalidName fdi_DuplicateMake fdi_InvalidWord fdi_UnknownMake fdi_UnknownTrial fdp_Order_makes) : FnOk P w K mg base CX0 1 fi_UnknownTrial fdi_UnknownTrial ["self", "number"] (spXP K ["number"]) :=
  fn_xinit T.F_UnknownTrial ⟨rfl, rfl, rfl, by decide +kernel, rfl, by decide +kernel, by decide +kernel⟩ (by decide) (by decide) fun _ _ _ _ _ _ => (.cons (ps_ost (pv 0) (pv 1)) .nil)
theorem sc_TrialList_trial : FnScope ["self", "number", "row"] ["self", "number"] (defScope (cls_st 25 8)) := ⟨rfl, rfl, rfl, by decide +kernel, rfl, by decide +kernel, by decide +kernel⟩
theorem ok_TrialList_trial (T : Txt K mg f_law_box f_law_take f_law_name f_law_names f_check_name f_check_makes f_TrialList___init__ f_TrialList_add_make f_law_trial f_law_raw_trials f_law_rows_of f_check_known f_TrialList_check_trial f_TrialList_keep f_TrialList_note f_TrialList_trial f_TrialList_retract f_law_gapped f_law_drawn_pairs f_law_named f_check_pairs f_closed_rows f_rows_of f_Order___init__ f_TrialList_makes f_Order_has f_TrialList_against f_TrialList_admits f_law_refused f_law_closed f_law_is_int f_law_are_ints f_law C_Full C_InvalidName C_DuplicateMake C_InvalidWord C_UnknownMake C_UnknownTrial C_UnlikeMakes C_Order C_TrialList fi_Full fi_InvalidName fi_DuplicateMake fi_InvalidWord fi_UnknownMake fi_UnknownTrial pp_Order_makes fp_Order_makes pp_TrialList_makes fd_law_box fd_law_take fd_law_name fd_law_names fd_check_name fd_check_makes fd_TrialList___init__ fd_TrialList_add_make fd_law_trial fd_law_raw_trials fd_law_rows_of fd_check_known fd_TrialList_check_trial fd_TrialList_keep fd_TrialList_note fd_TrialList_trial fd_TrialList_retract fd_law_gapped fd_law_drawn_pairs fd_law_named fd_check_pairs fd_closed_rows fd_rows_of fd_Order___init__ fd_TrialList_makes fd_Order_has fd_TrialList_against fd_TrialList_admits fd_law_refused fd_law_closed fd_law_is_int fd_law_are_ints fd_law fdi_Full fdi_InvalidName fdi_DuplicateMake fdi_InvalidWord fdi_UnknownMake fdi_UnknownTrial fdp_Order_makes) : FnOk P w K mg base (L2.CX P w) 3 f_TrialList_trial fd_TrialList_trial ["self", "number"] (spM ⟨K, cls [("Full", C_Full), ("InvalidName", C_InvalidName), ("DuplicateMake", C_DuplicateMake), ("InvalidWord", C_InvalidWord), ("UnknownMake", C_UnknownMake), ("UnknownTrial", C_UnknownTrial), ("UnlikeMakes", C_UnlikeMakes), ("Order", C_Order), ("TrialList", C_TrialList)], P0, none⟩ m_TrialList_trial) := by
  have sc := sc_TrialList_trial
  have z := fn_den2 (P := P) (w := w) (mg := mg) (base := base) (G := ⟨cls [("Full", C_Full), ("InvalidName", C_InvalidName), ("DuplicateMake", C_DuplicateMake), ("InvalidWord", C_InvalidWord), ("UnknownMake", C_UnknownMake), ("UnknownTrial", C_UnknownTrial), ("UnlikeMakes", C_UnlikeMakes), ("Order", C_Order), ("TrialList", C_TrialList)], P0, none⟩) (tc := [2, 1002]) (den := d_TrialList_trial) (pr := []) (k := 2) T.F_TrialList_trial sc_TrialList_trial (by decide) fun cdv A outer s H E hr tk po hu => (gss_cons (gs_lend (i := 0) (gs_for (tg := (.one 2)) (fg := []) po rfl (gi_seq (g_fld (c := "TrialList") T.fl_TrialList_kept (go_p (pv 0)))) (pg_name (i := 2) sc.nd rfl (by first | exact .inl rfl | exact .inr rfl)) (gss_one (gs_if (gt_eq hu (go_v (g_ix (go_v (g_cp (pv 2))) (go_v g_int))) (go_v (g_cp (pv 1)))) (gss_one (gs_ret (g_tup (ga_cons (g_ix (go_v (g_cp (pv 2))) (go_v g_int)) (ga_cons (g_ix (go_v (g_cp (pv 2))) (go_v g_int)) (ga_cons (g_ix (go_v (g_cp (pv 2))) (go_v g_int)) ga_nil)))))) gss_nil))))
  (gss_one (gs_raise rfl tk T.c_UnknownTrial T.x_UnknownTrial T.nf_UnknownTrial T.i_UnknownTrial T.t_UnknownTrial (okx_UnknownTrial T) (hr.mono (by decide)) T.a_UnknownTrial (by rfl) T.g_UnknownTrial (ga_cons (g_cp (pv 1)) ga_nil))))
  rw [m_TrialList_trial_def]
  exact z
theorem sc_TrialList_retract : FnScope ["self", "number", "row"] ["self", "number"] (defScope (cls_st 25 9)) := ⟨rfl, rfl, rfl, by decide +kernel, rfl, by decide +kernel, by decide +kernel⟩
theorem ok_TrialList_retract (T : Txt K mg f_law_box f_law_take f_law_name f_law_names f_check_name f_check_makes f_TrialList___init__ f_TrialList_add_make f_law_trial f_law_raw_trials f_law_rows_of f_check_known f_TrialList_check_trial f_TrialList_keep f_TrialList_note f_TrialList_trial f_TrialList_retract f_law_gapped f_law_drawn_pairs f_law_named f_check_pairs f_closed_rows f_rows_of f_Order___init__ f_TrialList_makes f_Order_has f_TrialList_against f_TrialList_admits f_law_refused f_law_closed f_law_is_int f_law_are_ints f_law C_Full C_InvalidName C_DuplicateMake C_InvalidWord C_UnknownMake C_UnknownTrial C_UnlikeMakes C_Order C_TrialList fi_Full fi_InvalidName fi_DuplicateMake fi_InvalidWord fi_UnknownMake fi_UnknownTrial pp_Order_makes fp_Order_makes pp_TrialList_makes fd_law_box fd_law_take fd_law_name fd_law_names fd_check_name fd_check_makes fd_TrialList___init__ fd_TrialList_add_make fd_law_trial fd_law_raw_trials fd_law_rows_of fd_check_known fd_TrialList_check_trial fd_TrialList_keep fd_TrialList_note fd_TrialList_trial fd_TrialList_retract fd_law_gapped fd_law_drawn_pairs fd_law_named fd_check_pairs fd_closed_rows fd_rows_of fd_Order___init__ fd_TrialList_makes fd_Order_has fd_TrialList_against fd_TrialList_admits fd_law_refused fd_law_closed fd_law_is_int fd_law_are_ints fd_law fdi_Full fdi_InvalidName fdi_DuplicateMake fdi_InvalidWord fdi_UnknownMake fdi_UnknownTrial fdp_Order_makes) : FnOk P w K mg base (L2.CX P w) 4 f_TrialList_retract fd_TrialList_retract ["self", "number"] (spM ⟨K, cls [("Full", C_Full), ("InvalidName", C_InvalidName), ("DuplicateMake", C_DuplicateMake), ("InvalidWord", C_InvalidWord), ("UnknownMake", C_UnknownMake), ("UnknownTrial", C_UnknownTrial), ("UnlikeMakes", C_UnlikeMakes), ("Order", C_Order), ("TrialList", C_TrialList)], P0, none⟩ m_TrialList_retract) := by
  have sc := sc_TrialList_retract
  have z := fn_den2 (P := P) (w := w) (mg := mg) (base := base) (G := ⟨cls [("Full", C_Full), ("InvalidName", C_InvalidName), ("DuplicateMake", C_DuplicateMake), ("InvalidWord", C_InvalidWord), ("UnknownMake", C_UnknownMake), ("UnknownTrial", C_UnknownTrial), ("UnlikeMakes", C_UnlikeMakes), ("Order", C_Order), ("TrialList", C_TrialList)], P0, none⟩) (tc := [1002, 0]) (den := d_TrialList_retract) (pr := [0]) (k := 3) T.F_TrialList_retract sc_TrialList_retract (by decide) fun cdv A outer s H E hr tk po hu => (gss_cons (gs_expr (g_meth tk T.c_TrialList T.cl_TrialList T.m_TrialList_trial (ok_TrialList_trial T) (hr.mono (by decide)) T.a_TrialList_trial (pv 0) (gr_v (g_cp (pv 1)) gr_nil)))
  (gss_one (gs_setF (i := 0) (c := "TrialList") T.fl_TrialList_kept (pv 0) (g_lend (i := 0) (g_lc (own := [("row", 2)]) (tg := (.one 2)) (to := [1002]) rfl sc.nd (gi_seq (g_fld (c := "TrialList") T.fl_TrialList_kept (go_p (pv 0)))) (blkOk_by (N := ["self", "number", "row"]) (sc := defScope (cls_st 25 9)) (by decide +kernel)) (fun _ _ _ _ _ => (pg_name (i := 2) sc.nd rfl (by first | exact .inl rfl | exact .inr rfl))) (fun _ _ _ _ _ => (gts_one (gt_ne hu (go_v (g_ix (go_v (g_cp (pv 2))) (go_v g_int))) (go_v (g_cp (pv 1)))))) (fun _ _ _ _ _ => (g_cp (pv 2))))))))
  rw [m_TrialList_retract_def]
  exact z
theorem sc_law_gapped : FnScope ["_law_box_here", "_law_record", "_law_rows", "_law_left", "_law_k", "_law_number", "_law_row"] ["_law_box_here", "_law_record", "_law_rows"] (defScope (topS 34)) := ⟨rfl, rfl, rfl, by decide +kernel, rfl, by decide +kernel, by decide +kernel⟩
theorem ok_law_gapped (T : Txt K mg f_law_box f_law_take f_law_name f_law_names f_check_name f_check_makes f_TrialList___init__ f_TrialList_add_make f_law_trial f_law_raw_trials f_law_rows_of f_check_known f_TrialList_check_trial f_TrialList_keep f_TrialList_note f_TrialList_trial f_TrialList_retract f_law_gapped f_law_drawn_pairs f_law_named f_check_pairs f_closed_rows f_rows_of f_Order___init__ f_TrialList_makes f_Order_has f_TrialList_against f_TrialList_admits f_law_refused f_law_closed f_law_is_int f_law_are_ints f_law C_Full C_InvalidName C_DuplicateMake C_InvalidWord C_UnknownMake C_UnknownTrial C_UnlikeMakes C_Order C_TrialList fi_Full fi_InvalidName fi_DuplicateMake fi_InvalidWord fi_UnknownMake fi_UnknownTrial pp_Order_makes fp_Order_makes pp_TrialList_makes fd_law_box fd_law_take fd_law_name fd_law_names fd_check_name fd_check_makes fd_TrialList___init__ fd_TrialList_add_make fd_law_trial fd_law_raw_trials fd_law_rows_of fd_check_known fd_TrialList_check_trial fd_TrialList_keep fd_TrialList_note fd_TrialList_trial fd_TrialList_retract fd_law_gapped fd_law_drawn_pairs fd_law_named fd_check_pairs fd_closed_rows fd_rows_of fd_Order___init__ fd_TrialList_makes fd_Order_has fd_TrialList_against fd_TrialList_admits fd_law_refused fd_law_closed fd_law_is_int fd_law_are_ints fd_law fdi_Full fdi_InvalidName fdi_DuplicateMake fdi_InvalidWord fdi_UnknownMake fdi_UnknownTrial fdp_Order_makes) : FnOk P w K mg base (L2.CX P w) 5 f_law_gapped fd_law_gapped ["_law_box_here", "_law_record", "_law_rows"] (spM ⟨K, cls [("Full", C_Full), ("InvalidName", C_InvalidName), ("DuplicateMake", C_DuplicateMake), ("InvalidWord", C_InvalidWord), ("UnknownMake", C_UnknownMake), ("UnknownTrial", C_UnknownTrial), ("UnlikeMakes", C_UnlikeMakes), ("Order", C_Order), ("TrialList", C_TrialList)], P0, none⟩ m_law_gapped) := by
  have sc := sc_law_gapped
  have z := fn_den2 (P := P) (w := w) (mg := mg) (base := base) (G := ⟨cls [("Full", C_Full), ("InvalidName", C_InvalidName), ("DuplicateMake", C_DuplicateMake), ("InvalidWord", C_InvalidWord), ("UnknownMake", C_UnknownMake), ("UnknownTrial", C_UnknownTrial), ("UnlikeMakes", C_UnlikeMakes), ("Order", C_Order), ("TrialList", C_TrialList)], P0, none⟩) (tc := [3, 1003, 0, 4, 1004, 0, 5, 1005, 1, 1006, 3, 1003, 3]) (den := d_law_gapped) (pr := [0, 1]) (k := 4) T.F_law_gapped sc_law_gapped (by decide) fun cdv A outer s H E hr tk po hu => (gss_cons (gs_asg (i := 3) (g_list (by rfl) T.b_list (go_p (pv 2))) sc.nd rfl (by first | exact .inl rfl | exact .inr rfl))
  (gss_cons (gs_for (tg := (.one 4)) (fg := []) po rfl (gi_range1 (by rfl) T.b_range (g_call tk (ok_law_take T) (hr.mono (by decide)) (by rfl) T.g_law_take T.F_law_take.kp T.a_law_take (gr_io (pv 0) (gr_v g_int gr_nil)))) (pg_name (i := 4) sc.nd rfl (by first | exact .inl rfl | exact .inr rfl)) (gss_one (gs_if (gt_gt (go_v (g_len (by rfl) T.b_len (go_p (pv 3)))) (go_v g_int)) (gss_cons (gs_asg (i := 5) (g_ix (go_v (g_ix (go_p (pv 3)) (go_v (g_call tk (ok_law_take T) (hr.mono (by decide)) (by rfl) T.g_law_take T.F_law_take.kp T.a_law_take (gr_io (pv 0) (gr_v (g_len (by rfl) T.b_len (go_p (pv 3))) gr_nil)))))) (go_v g_int)) sc.nd rfl (by first | exact .inl rfl | exact .inr rfl))
  (gss_cons (gs_expr (g_meth tk T.c_TrialList T.cl_TrialList T.m_TrialList_retract (ok_TrialList_retract T) (hr.mono (by decide)) T.a_TrialList_retract (pv 1) (gr_v (g_cp (pv 5)) gr_nil)))
  (gss_one (gs_tc (tc := [1006, 3, 1003]) (by first | exact (gs_setLcL (i := 3) (k := 3) (own := [("_law_row", 6)]) (tg := (.one 6)) (to := [1006]) rfl sc.nd rfl rfl (sw_true rfl rfl rfl (by decide +kernel)) (gi_seq (g_cp (pv 3))) (blkOk_by (N := ["_law_box_here", "_law_record", "_law_rows", "_law_left", "_law_k", "_law_number", "_law_row"]) (sc := defScope (topS 34)) (by decide +kernel)) (fun _ _ _ _ _ => (pg_name (i := 6) sc.nd rfl (by first | exact .inl rfl | exact .inr rfl))) (fun _ _ _ _ _ => (gts_one (gt_ne hu (go_v (g_ix (go_v (g_cp (pv 6))) (go_v g_int))) (go_v (g_cp (pv 5)))))) (fun _ _ _ _ _ => (g_cp (pv 6)))) | exact (gs_asg (i := 3) (g_lend (i := 3) (g_lc (own := [("_law_row", 6)]) (tg := (.one 6)) (to := [1006]) rfl sc.nd (gi_seq (g_cp (pv 3))) (blkOk_by (N := ["_law_box_here", "_law_record", "_law_rows", "_law_left", "_law_k", "_law_number", "_law_row"]) (sc := defScope (topS 34)) (by decide +kernel)) (fun _ _ _ _ _ => (pg_name (i := 6) sc.nd rfl (by first | exact .inl rfl | exact .inr rfl))) (fun _ _ _ _ _ => (gts_one (gt_ne hu (go_v (g_ix (go_v (g_cp (pv 6))) (go_v g_int))) (go_v (g_cp (pv 5)))))) (fun _ _ _ _ _ => (g_cp (pv 6))))) sc.nd rfl (by first | exact .inl rfl | exact .inr rfl))))))) gss_nil)))
  (gss_one (gs_ret (g_mv (pv 3))))))
  rw [m_law_gapped_def]
  exact z
theorem sc_law_drawn_pairs : FnScope ["_law_box_here", "_law_size", "_law_count", "_law_pairs", "_law_k", "_law_upper"] ["_law_box_here", "_law_size", "_law_count"] (defScope (topS 35)) := ⟨rfl, rfl, rfl, by decide +kernel, rfl, by decide +kernel, by decide +kernel⟩
theorem ok_law_drawn_pairs (T : Txt K mg f_law_box f_law_take f_law_name f_law_names f_check_name f_check_makes f_TrialList___init__ f_TrialList_add_make f_law_trial f_law_raw_trials f_law_rows_of f_check_known f_TrialList_check_trial f_TrialList_keep f_TrialList_note f_TrialList_trial f_TrialList_retract f_law_gapped f_law_drawn_pairs f_law_named f_check_pairs f_closed_rows f_rows_of f_Order___init__ f_TrialList_makes f_Order_has f_TrialList_against f_TrialList_admits f_law_refused f_law_closed f_law_is_int f_law_are_ints f_law C_Full C_InvalidName C_DuplicateMake C_InvalidWord C_UnknownMake C_UnknownTrial C_UnlikeMakes C_Order C_TrialList fi_Full fi_InvalidName fi_DuplicateMake fi_InvalidWord fi_UnknownMake fi_UnknownTrial pp_Order_makes fp_Order_makes pp_TrialList_makes fd_law_box fd_law_take fd_law_name fd_law_names fd_check_name fd_check_makes fd_TrialList___init__ fd_TrialList_add_make fd_law_trial fd_law_raw_trials fd_law_rows_of fd_check_known fd_TrialList_check_trial fd_TrialList_keep fd_TrialList_note fd_TrialList_trial fd_TrialList_retract fd_law_gapped fd_law_drawn_pairs fd_law_named fd_check_pairs fd_closed_rows fd_rows_of fd_Order___init__ fd_TrialList_makes fd_Order_has fd_TrialList_against fd_TrialList_admits fd_law_refused fd_law_closed fd_law_is_int fd_law_are_ints fd_law fdi_Full fdi_InvalidName fdi_DuplicateMake fdi_InvalidWord fdi_UnknownMake fdi_UnknownTrial fdp_Order_makes) : FnOk P w K mg base (L2.CX P w) 2 f_law_drawn_pairs fd_law_drawn_pairs ["_law_box_here", "_law_size", "_law_count"] (spM ⟨K, cls [("Full", C_Full), ("InvalidName", C_InvalidName), ("DuplicateMake", C_DuplicateMake), ("InvalidWord", C_InvalidWord), ("UnknownMake", C_UnknownMake), ("UnknownTrial", C_UnknownTrial), ("UnlikeMakes", C_UnlikeMakes), ("Order", C_Order), ("TrialList", C_TrialList)], P0, none⟩ m_law_drawn_pairs) := by
  have sc := sc_law_drawn_pairs
  have z := fn_den2 (P := P) (w := w) (mg := mg) (base := base) (G := ⟨cls [("Full", C_Full), ("InvalidName", C_InvalidName), ("DuplicateMake", C_DuplicateMake), ("InvalidWord", C_InvalidWord), ("UnknownMake", C_UnknownMake), ("UnknownTrial", C_UnknownTrial), ("UnlikeMakes", C_UnlikeMakes), ("Order", C_Order), ("TrialList", C_TrialList)], P0, none⟩) (tc := [3, 1003, 4, 1004, 0, 5, 1005, 3, 3]) (den := d_law_drawn_pairs) (pr := [0]) (k := 1) T.F_law_drawn_pairs sc_law_drawn_pairs (by decide) fun cdv A outer s H E hr tk po hu => (gss_cons (gs_asg (i := 3) (g_lst ga_nil) sc.nd rfl (by first | exact .inl rfl | exact .inr rfl))
  (gss_cons (gs_for (tg := (.one 4)) (fg := []) po rfl (gi_range1 (by rfl) T.b_range (g_mul (go_v (g_cp (pv 2))) (go_v (g_min rfl (by rfl) T.b_min (go_v (g_cp (pv 1))) (go_v g_int))))) (pg_name (i := 4) sc.nd rfl (by first | exact .inl rfl | exact .inr rfl)) (gss_wk (t2 := [0, 5, 1005, 3]) (gss_cons (gs_asg (i := 5) (g_call tk (ok_law_take T) (hr.mono (by decide)) (by rfl) T.g_law_take T.F_law_take.kp T.a_law_take (gr_io (pv 0) (gr_v (g_cp (pv 1)) gr_nil))) sc.nd rfl (by first | exact .inl rfl | exact .inr rfl))
  (gss_one (gs_app (i := 3) (pv 3) (g_tup (ga_cons (g_cp (pv 5)) (ga_cons (g_call tk (ok_law_take T) (hr.mono (by decide)) (by rfl) T.g_law_take T.F_law_take.kp T.a_law_take (gr_io (pv 0) (gr_v (g_cp (pv 1)) gr_nil))) ga_nil)))))) (by decide)))
  (gss_one (gs_ret (g_mv (pv 3))))))
  rw [m_law_drawn_pairs_def]
  exact z
theorem sc_law_named : FnScope ["_law_names_here", "_law_pairs", "_law_pair"] ["_law_names_here", "_law_pairs"] (defScope (topS 36)) := ⟨rfl, rfl, rfl, by decide +kernel, rfl, by decide +kernel, by decide +kernel⟩
theorem ok_law_named (T : Txt K mg f_law_box f_law_take f_law_name f_law_names f_check_name f_check_makes f_TrialList___init__ f_TrialList_add_make f_law_trial f_law_raw_trials f_law_rows_of f_check_known f_TrialList_check_trial f_TrialList_keep f_TrialList_note f_TrialList_trial f_TrialList_retract f_law_gapped f_law_drawn_pairs f_law_named f_check_pairs f_closed_rows f_rows_of f_Order___init__ f_TrialList_makes f_Order_has f_TrialList_against f_TrialList_admits f_law_refused f_law_closed f_law_is_int f_law_are_ints f_law C_Full C_InvalidName C_DuplicateMake C_InvalidWord C_UnknownMake C_UnknownTrial C_UnlikeMakes C_Order C_TrialList fi_Full fi_InvalidName fi_DuplicateMake fi_InvalidWord fi_UnknownMake fi_UnknownTrial pp_Order_makes fp_Order_makes pp_TrialList_makes fd_law_box fd_law_take fd_law_name fd_law_names fd_check_name fd_check_makes fd_TrialList___init__ fd_TrialList_add_make fd_law_trial fd_law_raw_trials fd_law_rows_of fd_check_known fd_TrialList_check_trial fd_TrialList_keep fd_TrialList_note fd_TrialList_trial fd_TrialList_retract fd_law_gapped fd_law_drawn_pairs fd_law_named fd_check_pairs fd_closed_rows fd_rows_of fd_Order___init__ fd_TrialList_makes fd_Order_has fd_TrialList_against fd_TrialList_admits fd_law_refused fd_law_closed fd_law_is_int fd_law_are_ints fd_law fdi_Full fdi_InvalidName fdi_DuplicateMake fdi_InvalidWord fdi_UnknownMake fdi_UnknownTrial fdp_Order_makes) : FnOk P w K mg base (L2.CX P w) 1 f_law_named fd_law_named ["_law_names_here", "_law_pairs"] (spM ⟨K, cls [("Full", C_Full), ("InvalidName", C_InvalidName), ("DuplicateMake", C_DuplicateMake), ("InvalidWord", C_InvalidWord), ("UnknownMake", C_UnknownMake), ("UnknownTrial", C_UnknownTrial), ("UnlikeMakes", C_UnlikeMakes), ("Order", C_Order), ("TrialList", C_TrialList)], P0, none⟩ m_law_named) := by
  have sc := sc_law_named
  have z := fn_den2 (P := P) (w := w) (mg := mg) (base := base) (G := ⟨cls [("Full", C_Full), ("InvalidName", C_InvalidName), ("DuplicateMake", C_DuplicateMake), ("InvalidWord", C_InvalidWord), ("UnknownMake", C_UnknownMake), ("UnknownTrial", C_UnknownTrial), ("UnlikeMakes", C_UnlikeMakes), ("Order", C_Order), ("TrialList", C_TrialList)], P0, none⟩) (tc := [1002]) (den := d_law_named) (pr := []) (k := 0) T.F_law_named sc_law_named (by decide) fun cdv A outer s H E hr tk po hu => (gss_one (gs_lend (i := 1) (gs_ret (g_lc (own := [("_law_pair", 2)]) (tg := (.one 2)) (to := [1002]) rfl sc.nd (gi_seq (g_cp (pv 1))) (blkOk_by (N := ["_law_names_here", "_law_pairs", "_law_pair"]) (sc := defScope (topS 36)) (by decide +kernel)) (fun _ _ _ _ _ => (pg_name (i := 2) sc.nd rfl (by first | exact .inl rfl | exact .inr rfl))) (fun _ _ _ _ _ => gts_nil) (fun _ _ _ _ _ => (g_tup (ga_cons (g_ix (go_p (pv 0)) (go_v (g_ix (go_v (g_cp (pv 2))) (go_v g_int)))) (ga_cons (g_ix (go_p (pv 0)) (go_v (g_ix (go_v (g_cp (pv 2))) (go_v g_int)))) ga_nil))))))))
  rw [m_law_named_def]
  exact z
theorem sc_check_pairs : FnScope ["makes", "pairs", "upper", "lower"] ["makes", "pairs"] (defScope (topS 17)) := ⟨rfl, rfl, rfl, by decide +kernel, rfl, by decide +kernel, by decide +kernel⟩
theorem ok_check_pairs (T : Txt K mg f_law_box f_law_take f_law_name f_law_names f_check_name f_check_makes f_TrialList___init__ f_TrialList_add_make f_law_trial f_law_raw_trials f_law_rows_of f_check_known f_TrialList_check_trial f_TrialList_keep f_TrialList_note f_TrialList_trial f_TrialList_retract f_law_gapped f_law_drawn_pairs f_law_named f_check_pairs f_closed_rows f_rows_of f_Order___init__ f_TrialList_makes f_Order_has f_TrialList_against f_TrialList_admits f_law_refused f_law_closed f_law_is_int f_law_are_ints f_law C_Full C_InvalidName C_DuplicateMake C_InvalidWord C_UnknownMake C_UnknownTrial C_UnlikeMakes C_Order C_TrialList fi_Full fi_InvalidName fi_DuplicateMake fi_InvalidWord fi_UnknownMake fi_UnknownTrial pp_Order_makes fp_Order_makes pp_TrialList_makes fd_law_box fd_law_take fd_law_name fd_law_names fd_check_name fd_check_makes fd_TrialList___init__ fd_TrialList_add_make fd_law_trial fd_law_raw_trials fd_law_rows_of fd_check_known fd_TrialList_check_trial fd_TrialList_keep fd_TrialList_note fd_TrialList_trial fd_TrialList_retract fd_law_gapped fd_law_drawn_pairs fd_law_named fd_check_pairs fd_closed_rows fd_rows_of fd_Order___init__ fd_TrialList_makes fd_Order_has fd_TrialList_against fd_TrialList_admits fd_law_refused fd_law_closed fd_law_is_int fd_law_are_ints fd_law fdi_Full fdi_InvalidName fdi_DuplicateMake fdi_InvalidWord fdi_UnknownMake fdi_UnknownTrial fdp_Order_makes) : FnOk P w K mg base (L2.CX P w) 4 f_check_pairs fd_check_pairs ["makes", "pairs"] (spM ⟨K, cls [("Full", C_Full), ("InvalidName", C_InvalidName), ("DuplicateMake", C_DuplicateMake), ("InvalidWord", C_InvalidWord), ("UnknownMake", C_UnknownMake), ("UnknownTrial", C_UnknownTrial), ("UnlikeMakes", C_UnlikeMakes), ("Order", C_Order), ("TrialList", C_TrialList)], P0, none⟩ m_check_pairs) := by
  have sc := sc_check_pairs
  have z := fn_den2 (P := P) (w := w) (mg := mg) (base := base) (G := ⟨cls [("Full", C_Full), ("InvalidName", C_InvalidName), ("DuplicateMake", C_DuplicateMake), ("InvalidWord", C_InvalidWord), ("UnknownMake", C_UnknownMake), ("UnknownTrial", C_UnknownTrial), ("UnlikeMakes", C_UnlikeMakes), ("Order", C_Order), ("TrialList", C_TrialList)], P0, none⟩) (tc := [2, 1002, 3, 1003]) (den := d_check_pairs) (pr := []) (k := 3) T.F_check_pairs sc_check_pairs (by decide) fun cdv A outer s H E hr tk po hu => (gss_one (gs_lend (i := 1) (gs_for (tg := (.tup [2, 3])) (fg := []) po rfl (gi_seq (g_cp (pv 1))) (pg_tup rfl (pgs_cons (pg_name (i := 2) sc.nd rfl (by first | exact .inl rfl | exact .inr rfl)) (pgs_cons (pg_name (i := 3) sc.nd rfl (by first | exact .inl rfl | exact .inr rfl)) pgs_nil))) (gss_one (gs_expr (g_call tk (ok_check_known T) (hr.mono (by decide)) (by rfl) T.g_check_known T.F_check_known.kp T.a_check_known (gr_l (pv 0) (gr_v (g_tup (ga_cons (g_cp (pv 2)) (ga_cons (g_cp (pv 3)) ga_nil))) gr_nil))))))))
  rw [m_check_pairs_def]
  exact z
theorem sc_closed_rows : FnScope ["rows", "closed", "middle", "through", "upper"] ["rows"] (defScope (topS 19)) := ⟨rfl, rfl, rfl, by decide +kernel, rfl, by decide +kernel, by decide +kernel⟩
theorem ok_closed_rows (T : Txt K mg f_law_box f_law_take f_law_name f_law_names f_check_name f_check_makes f_TrialList___init__ f_TrialList_add_make f_law_trial f_law_raw_trials f_law_rows_of f_check_known f_TrialList_check_trial f_TrialList_keep f_TrialList_note f_TrialList_trial f_TrialList_retract f_law_gapped f_law_drawn_pairs f_law_named f_check_pairs f_closed_rows f_rows_of f_Order___init__ f_TrialList_makes f_Order_has f_TrialList_against f_TrialList_admits f_law_refused f_law_closed f_law_is_int f_law_are_ints f_law C_Full C_InvalidName C_DuplicateMake C_InvalidWord C_UnknownMake C_UnknownTrial C_UnlikeMakes C_Order C_TrialList fi_Full fi_InvalidName fi_DuplicateMake fi_InvalidWord fi_UnknownMake fi_UnknownTrial pp_Order_makes fp_Order_makes pp_TrialList_makes fd_law_box fd_law_take fd_law_name fd_law_names fd_check_name fd_check_makes fd_TrialList___init__ fd_TrialList_add_make fd_law_trial fd_law_raw_trials fd_law_rows_of fd_check_known fd_TrialList_check_trial fd_TrialList_keep fd_TrialList_note fd_TrialList_trial fd_TrialList_retract fd_law_gapped fd_law_drawn_pairs fd_law_named fd_check_pairs fd_closed_rows fd_rows_of fd_Order___init__ fd_TrialList_makes fd_Order_has fd_TrialList_against fd_TrialList_admits fd_law_refused fd_law_closed fd_law_is_int fd_law_are_ints fd_law fdi_Full fdi_InvalidName fdi_DuplicateMake fdi_InvalidWord fdi_UnknownMake fdi_UnknownTrial fdp_Order_makes) : FnOk P w K mg base (L2.CX P w) 1 f_closed_rows fd_closed_rows ["rows"] (spM ⟨K, cls [("Full", C_Full), ("InvalidName", C_InvalidName), ("DuplicateMake", C_DuplicateMake), ("InvalidWord", C_InvalidWord), ("UnknownMake", C_UnknownMake), ("UnknownTrial", C_UnknownTrial), ("UnlikeMakes", C_UnlikeMakes), ("Order", C_Order), ("TrialList", C_TrialList)], P0, none⟩ m_closed_rows) := by
  have sc := sc_closed_rows
  have z := fn_den2 (P := P) (w := w) (mg := mg) (base := base) (G := ⟨cls [("Full", C_Full), ("InvalidName", C_InvalidName), ("DuplicateMake", C_DuplicateMake), ("InvalidWord", C_InvalidWord), ("UnknownMake", C_UnknownMake), ("UnknownTrial", C_UnknownTrial), ("UnlikeMakes", C_UnlikeMakes), ("Order", C_Order), ("TrialList", C_TrialList)], P0, none⟩) (tc := [1, 1001, 2, 1002, 3, 1003, 4, 1004, 1, 1]) (den := d_closed_rows) (pr := []) (k := 0) T.F_closed_rows sc_closed_rows (by decide) fun cdv A outer s H E hr tk po hu => (gss_cons (gs_asg (i := 1) (g_list (by rfl) T.b_list (go_p (pv 0))) sc.nd rfl (by first | exact .inl rfl | exact .inr rfl))
  (gss_cons (gs_for (tg := (.one 2)) (fg := []) po rfl (gi_range1 (by rfl) T.b_range (g_len (by rfl) T.b_len (go_p (pv 1)))) (pg_name (i := 2) sc.nd rfl (by first | exact .inl rfl | exact .inr rfl)) (gss_cons (gs_asg (i := 3) (g_ix (go_p (pv 1)) (go_v (g_cp (pv 2)))) sc.nd rfl (by first | exact .inl rfl | exact .inr rfl))
  (gss_one (gs_for (tg := (.one 4)) (fg := []) po rfl (gi_range1 (by rfl) T.b_range (g_len (by rfl) T.b_len (go_p (pv 1)))) (pg_name (i := 4) sc.nd rfl (by first | exact .inl rfl | exact .inr rfl)) (gss_one (gs_if (gt_eq hu (go_v (g_band (go_v (g_shr (go_v (g_ix (go_p (pv 1)) (go_v (g_cp (pv 4))))) (go_v (g_cp (pv 2))))) (go_v g_int))) (go_v g_int)) (gss_one (gs_set (i := 1) (pv 1) (g_cp (pv 4)) (g_bor (go_v (g_ix (go_p (pv 1)) (go_v (g_cp (pv 4))))) (go_v (g_cp (pv 3)))))) gss_nil))))))
  (gss_one (gs_ret (g_mv (pv 1))))))
  rw [m_closed_rows_def]
  exact z
theorem sc_rows_of : FnScope ["names", "pairs", "at", "name", "place", "rows", "upper", "lower"] ["names", "pairs"] (defScope (topS 20)) := ⟨rfl, rfl, rfl, by decide +kernel, rfl, by decide +kernel, by decide +kernel⟩
theorem ok_rows_of (T : Txt K mg f_law_box f_law_take f_law_name f_law_names f_check_name f_check_makes f_TrialList___init__ f_TrialList_add_make f_law_trial f_law_raw_trials f_law_rows_of f_check_known f_TrialList_check_trial f_TrialList_keep f_TrialList_note f_TrialList_trial f_TrialList_retract f_law_gapped f_law_drawn_pairs f_law_named f_check_pairs f_closed_rows f_rows_of f_Order___init__ f_TrialList_makes f_Order_has f_TrialList_against f_TrialList_admits f_law_refused f_law_closed f_law_is_int f_law_are_ints f_law C_Full C_InvalidName C_DuplicateMake C_InvalidWord C_UnknownMake C_UnknownTrial C_UnlikeMakes C_Order C_TrialList fi_Full fi_InvalidName fi_DuplicateMake fi_InvalidWord fi_UnknownMake fi_UnknownTrial pp_Order_makes fp_Order_makes pp_TrialList_makes fd_law_box fd_law_take fd_law_name fd_law_names fd_check_name fd_check_makes fd_TrialList___init__ fd_TrialList_add_make fd_law_trial fd_law_raw_trials fd_law_rows_of fd_check_known fd_TrialList_check_trial fd_TrialList_keep fd_TrialList_note fd_TrialList_trial fd_TrialList_retract fd_law_gapped fd_law_drawn_pairs fd_law_named fd_check_pairs fd_closed_rows fd_rows_of fd_Order___init__ fd_TrialList_makes fd_Order_has fd_TrialList_against fd_TrialList_admits fd_law_refused fd_law_closed fd_law_is_int fd_law_are_ints fd_law fdi_Full fdi_InvalidName fdi_DuplicateMake fdi_InvalidWord fdi_UnknownMake fdi_UnknownTrial fdp_Order_makes) : FnOk P w K mg base (L2.CX P w) 2 f_rows_of fd_rows_of ["names", "pairs"] (spM ⟨K, cls [("Full", C_Full), ("InvalidName", C_InvalidName), ("DuplicateMake", C_DuplicateMake), ("InvalidWord", C_InvalidWord), ("UnknownMake", C_UnknownMake), ("UnknownTrial", C_UnknownTrial), ("UnlikeMakes", C_UnlikeMakes), ("Order", C_Order), ("TrialList", C_TrialList)], P0, none⟩ m_rows_of) := by
  have sc := sc_rows_of
  have z := fn_den2 (P := P) (w := w) (mg := mg) (base := base) (G := ⟨cls [("Full", C_Full), ("InvalidName", C_InvalidName), ("DuplicateMake", C_DuplicateMake), ("InvalidWord", C_InvalidWord), ("UnknownMake", C_UnknownMake), ("UnknownTrial", C_UnknownTrial), ("UnlikeMakes", C_UnlikeMakes), ("Order", C_Order), ("TrialList", C_TrialList)], P0, none⟩) (tc := [1002, 1003, 4, 1004, 1002, 5, 1005, 6, 1006, 7, 1007, 2, 1002, 5]) (den := d_rows_of) (pr := []) (k := 1) T.F_rows_of sc_rows_of (by decide) fun cdv A outer s H E hr tk po hu => (gss_cons (gs_tc (tc := [1002, 1003, 4, 1004]) (by first | exact (gs_setDc (i := 4) (own := [("at", 2), ("name", 3)]) (tg := (.tup [2, 3])) (to := [1002, 1003]) rfl sc.nd rfl rfl (swD_true rfl rfl rfl (by decide +kernel)) (gi_enumT (by rfl) T.b_enumerate (g_cp (pv 0))) (blkOk_by (N := ["names", "pairs", "at", "name", "place", "rows", "upper", "lower"]) (sc := defScope (topS 20)) (by decide +kernel)) (fun _ _ _ _ _ => (pg_tup rfl (pgs_cons (pg_name (i := 2) sc.nd rfl (by first | exact .inl rfl | exact .inr rfl)) (pgs_cons (pg_name (i := 3) sc.nd rfl (by first | exact .inl rfl | exact .inr rfl)) pgs_nil)))) (fun _ _ _ _ _ => gts_nil) (fun _ _ _ _ _ => (g_cp (pv 3))) (fun _ _ _ _ _ => (g_cp (pv 2)))) | exact (gs_asg (i := 4) (g_dc (own := [("at", 2), ("name", 3)]) (tg := (.tup [2, 3])) (to := [1002, 1003]) rfl sc.nd (gi_enumT (by rfl) T.b_enumerate (g_cp (pv 0))) (blkOk_by (N := ["names", "pairs", "at", "name", "place", "rows", "upper", "lower"]) (sc := defScope (topS 20)) (by decide +kernel)) (fun _ _ _ _ _ => (pg_tup rfl (pgs_cons (pg_name (i := 2) sc.nd rfl (by first | exact .inl rfl | exact .inr rfl)) (pgs_cons (pg_name (i := 3) sc.nd rfl (by first | exact .inl rfl | exact .inr rfl)) pgs_nil)))) (fun _ _ _ _ _ => gts_nil) (fun _ _ _ _ _ => (g_cp (pv 3))) (fun _ _ _ _ _ => (g_cp (pv 2)))) sc.nd rfl (by first | exact .inl rfl | exact .inr rfl))))
  (gss_cons (gs_tc (tc := [1002, 5, 1005]) (by first | exact (gs_setLc (i := 5) (own := [("at", 2)]) (tg := (.one 2)) (to := [1002]) rfl sc.nd rfl rfl (sw_true rfl rfl rfl (by decide +kernel)) (gi_range1 (by rfl) T.b_range (g_len (by rfl) T.b_len (go_v (g_cp (pv 0))))) (blkOk_by (N := ["names", "pairs", "at", "name", "place", "rows", "upper", "lower"]) (sc := defScope (topS 20)) (by decide +kernel)) (fun _ _ _ _ _ => (pg_name (i := 2) sc.nd rfl (by first | exact .inl rfl | exact .inr rfl))) (fun _ _ _ _ _ => gts_nil) (fun _ _ _ _ _ => (g_shl (go_v g_int) (go_v (g_cp (pv 2)))))) | exact (gs_asg (i := 5) (g_lc (own := [("at", 2)]) (tg := (.one 2)) (to := [1002]) rfl sc.nd (gi_range1 (by rfl) T.b_range (g_len (by rfl) T.b_len (go_v (g_cp (pv 0))))) (blkOk_by (N := ["names", "pairs", "at", "name", "place", "rows", "upper", "lower"]) (sc := defScope (topS 20)) (by decide +kernel)) (fun _ _ _ _ _ => (pg_name (i := 2) sc.nd rfl (by first | exact .inl rfl | exact .inr rfl))) (fun _ _ _ _ _ => gts_nil) (fun _ _ _ _ _ => (g_shl (go_v g_int) (go_v (g_cp (pv 2)))))) sc.nd rfl (by first | exact .inl rfl | exact .inr rfl))))
  (gss_cons (gs_lend (i := 1) (gs_for (tg := (.tup [6, 7])) (fg := []) po rfl (gi_seq (g_cp (pv 1))) (pg_tup rfl (pgs_cons (pg_name (i := 6) sc.nd rfl (by first | exact .inl rfl | exact .inr rfl)) (pgs_cons (pg_name (i := 7) sc.nd rfl (by first | exact .inl rfl | exact .inr rfl)) pgs_nil))) (gss_cons (gs_asg (i := 2) (g_dix hu (go_p (pv 4)) (go_v (g_cp (pv 6)))) sc.nd rfl (by first | exact .inl rfl | exact .inr rfl))
  (gss_one (gs_set (i := 5) (pv 5) (g_cp (pv 2)) (g_bor (go_v (g_ix (go_p (pv 5)) (go_v (g_cp (pv 2))))) (go_v (g_shl (go_v g_int) (go_v (g_dix hu (go_p (pv 4)) (go_v (g_cp (pv 7)))))))))))))
  (gss_one (gs_ret (g_tuple (by rfl) T.b_tuple (go_v (g_call tk (ok_closed_rows T) (hr.mono (by decide)) (by rfl) T.g_closed_rows T.F_closed_rows.kp T.a_closed_rows (gr_l (pv 5) gr_nil)))))))))
  rw [m_rows_of_def]
  exact z
theorem sc_Order___init__ : FnScope ["self", "makes", "pairs"] ["self", "makes", "pairs"] (defScope (cls_st 21 1)) := ⟨rfl, rfl, rfl, by decide +kernel, rfl, by decide +kernel, by decide +kernel⟩
theorem ok_Order___init__ (T : Txt K mg f_law_box f_law_take f_law_name f_law_names f_check_name f_check_makes f_TrialList___init__ f_TrialList_add_make f_law_trial f_law_raw_trials f_law_rows_of f_check_known f_TrialList_check_trial f_TrialList_keep f_TrialList_note f_TrialList_trial f_TrialList_retract f_law_gapped f_law_drawn_pairs f_law_named f_check_pairs f_closed_rows f_rows_of f_Order___init__ f_TrialList_makes f_Order_has f_TrialList_against f_TrialList_admits f_law_refused f_law_closed f_law_is_int f_law_are_ints f_law C_Full C_InvalidName C_DuplicateMake C_InvalidWord C_UnknownMake C_UnknownTrial C_UnlikeMakes C_Order C_TrialList fi_Full fi_InvalidName fi_DuplicateMake fi_InvalidWord fi_UnknownMake fi_UnknownTrial pp_Order_makes fp_Order_makes pp_TrialList_makes fd_law_box fd_law_take fd_law_name fd_law_names fd_check_name fd_check_makes fd_TrialList___init__ fd_TrialList_add_make fd_law_trial fd_law_raw_trials fd_law_rows_of fd_check_known fd_TrialList_check_trial fd_TrialList_keep fd_TrialList_note fd_TrialList_trial fd_TrialList_retract fd_law_gapped fd_law_drawn_pairs fd_law_named fd_check_pairs fd_closed_rows fd_rows_of fd_Order___init__ fd_TrialList_makes fd_Order_has fd_TrialList_against fd_TrialList_admits fd_law_refused fd_law_closed fd_law_is_int fd_law_are_ints fd_law fdi_Full fdi_InvalidName fdi_DuplicateMake fdi_InvalidWord fdi_UnknownMake fdi_UnknownTrial fdp_Order_makes) : FnOk P w K mg base (L2.CX P w) 5 f_Order___init__ fd_Order___init__ ["self", "makes", "pairs"] (spM ⟨K, cls [("Full", C_Full), ("InvalidName", C_InvalidName), ("DuplicateMake", C_DuplicateMake), ("InvalidWord", C_InvalidWord), ("UnknownMake", C_UnknownMake), ("UnknownTrial", C_UnknownTrial), ("UnlikeMakes", C_UnlikeMakes), ("Order", C_Order), ("TrialList", C_TrialList)], P0, none⟩ m_Order___init__) := by
  have sc := sc_Order___init__
  obtain ⟨dvs, FD⟩ := T.F_Order___init__
  have z := fn_den2D (P := P) (w := w) (mg := mg) (base := base) (G := ⟨cls [("Full", C_Full), ("InvalidName", C_InvalidName), ("DuplicateMake", C_DuplicateMake), ("InvalidWord", C_InvalidWord), ("UnknownMake", C_UnknownMake), ("UnknownTrial", C_UnknownTrial), ("UnlikeMakes", C_UnlikeMakes), ("Order", C_Order), ("TrialList", C_TrialList)], P0, none⟩) (tc := [0, 0]) (den := d_Order___init__) (pr := [0]) (k := 4) FD sc_Order___init__ (by decide) fun cdv A outer s H E hr tk po hu => (gss_cons (gs_expr (g_call tk (ok_check_makes T) (hr.mono (by decide)) (by rfl) T.g_check_makes T.F_check_makes.kp T.a_check_makes (gr_l (pv 1) gr_nil)))
  (gss_cons (gs_expr (g_call tk (ok_check_pairs T) (hr.mono (by decide)) (by rfl) T.g_check_pairs T.F_check_pairs.kp T.a_check_pairs (gr_l (pv 1) (gr_l (pv 2) gr_nil))))
  (gss_cons (gs_setF (i := 0) (c := "Order") T.fl_Order_names (pv 0) (g_tuple (by rfl) T.b_tuple (go_p (pv 1))))
  (gss_one (gs_setF (i := 0) (c := "Order") T.fl_Order_rows (pv 0) (g_call tk (ok_rows_of T) (hr.mono (by decide)) (by rfl) T.g_rows_of T.F_rows_of.kp T.a_rows_of (gr_v (g_fld (c := "Order") T.fl_Order_names (go_p (pv 0))) (gr_l (pv 2) gr_nil))))))))
  rw [m_Order___init___def]
  exact z
theorem sc_TrialList_makes : FnScope ["self"] ["self"] (defScope (cls_st 25 2)) := ⟨rfl, rfl, rfl, by decide +kernel, rfl, by decide +kernel, by decide +kernel⟩
theorem ok_TrialList_makes (T : Txt K mg f_law_box f_law_take f_law_name f_law_names f_check_name f_check_makes f_TrialList___init__ f_TrialList_add_make f_law_trial f_law_raw_trials f_law_rows_of f_check_known f_TrialList_check_trial f_TrialList_keep f_TrialList_note f_TrialList_trial f_TrialList_retract f_law_gapped f_law_drawn_pairs f_law_named f_check_pairs f_closed_rows f_rows_of f_Order___init__ f_TrialList_makes f_Order_has f_TrialList_against f_TrialList_admits f_law_refused f_law_closed f_law_is_int f_law_are_ints f_law C_Full C_InvalidName C_DuplicateMake C_InvalidWord C_UnknownMake C_UnknownTrial C_UnlikeMakes C_Order C_TrialList fi_Full fi_InvalidName fi_DuplicateMake fi_InvalidWord fi_UnknownMake fi_UnknownTrial pp_Order_makes fp_Order_makes pp_TrialList_makes fd_law_box fd_law_take fd_law_name fd_law_names fd_check_name fd_check_makes fd_TrialList___init__ fd_TrialList_add_make fd_law_trial fd_law_raw_trials fd_law_rows_of fd_check_known fd_TrialList_check_trial fd_TrialList_keep fd_TrialList_note fd_TrialList_trial fd_TrialList_retract fd_law_gapped fd_law_drawn_pairs fd_law_named fd_check_pairs fd_closed_rows fd_rows_of fd_Order___init__ fd_TrialList_makes fd_Order_has fd_TrialList_against fd_TrialList_admits fd_law_refused fd_law_closed fd_law_is_int fd_law_are_ints fd_law fdi_Full fdi_InvalidName fdi_DuplicateMake fdi_InvalidWord fdi_UnknownMake fdi_UnknownTrial fdp_Order_makes) : FnOk P w K mg base (L2.CX P w) 1 f_TrialList_makes fd_TrialList_makes ["self"] (spM ⟨K, cls [("Full", C_Full), ("InvalidName", C_InvalidName), ("DuplicateMake", C_DuplicateMake), ("InvalidWord", C_InvalidWord), ("UnknownMake", C_UnknownMake), ("UnknownTrial", C_UnknownTrial), ("UnlikeMakes", C_UnlikeMakes), ("Order", C_Order), ("TrialList", C_TrialList)], P0, none⟩ m_TrialList_makes) := by
  have sc := sc_TrialList_makes
  have z := fn_den2 (P := P) (w := w) (mg := mg) (base := base) (G := ⟨cls [("Full", C_Full), ("InvalidName", C_InvalidName), ("DuplicateMake", C_DuplicateMake), ("InvalidWord", C_InvalidWord), ("UnknownMake", C_UnknownMake), ("UnknownTrial", C_UnknownTrial), ("UnlikeMakes", C_UnlikeMakes), ("Order", C_Order), ("TrialList", C_TrialList)], P0, none⟩) (tc := []) (den := d_TrialList_makes) (pr := []) (k := 0) T.F_TrialList_makes sc_TrialList_makes (by decide) fun cdv A outer s H E hr tk po hu => (gss_one (gs_lend (i := 0) (gs_ret (g_tuple (by rfl) T.b_tuple (go_v (g_fld (c := "TrialList") T.fl_TrialList_names (go_p (pv 0))))))))
  rw [m_TrialList_makes_def]
  exact z
theorem sc_Order_has : FnScope ["self", "upper", "lower", "at"] ["self", "upper", "lower"] (defScope (cls_st 21 5)) := ⟨rfl, rfl, rfl, by decide +kernel, rfl, by decide +kernel, by decide +kernel⟩
theorem ok_Order_has (T : Txt K mg f_law_box f_law_take f_law_name f_law_names f_check_name f_check_makes f_TrialList___init__ f_TrialList_add_make f_law_trial f_law_raw_trials f_law_rows_of f_check_known f_TrialList_check_trial f_TrialList_keep f_TrialList_note f_TrialList_trial f_TrialList_retract f_law_gapped f_law_drawn_pairs f_law_named f_check_pairs f_closed_rows f_rows_of f_Order___init__ f_TrialList_makes f_Order_has f_TrialList_against f_TrialList_admits f_law_refused f_law_closed f_law_is_int f_law_are_ints f_law C_Full C_InvalidName C_DuplicateMake C_InvalidWord C_UnknownMake C_UnknownTrial C_UnlikeMakes C_Order C_TrialList fi_Full fi_InvalidName fi_DuplicateMake fi_InvalidWord fi_UnknownMake fi_UnknownTrial pp_Order_makes fp_Order_makes pp_TrialList_makes fd_law_box fd_law_take fd_law_name fd_law_names fd_check_name fd_check_makes fd_TrialList___init__ fd_TrialList_add_make fd_law_trial fd_law_raw_trials fd_law_rows_of fd_check_known fd_TrialList_check_trial fd_TrialList_keep fd_TrialList_note fd_TrialList_trial fd_TrialList_retract fd_law_gapped fd_law_drawn_pairs fd_law_named fd_check_pairs fd_closed_rows fd_rows_of fd_Order___init__ fd_TrialList_makes fd_Order_has fd_TrialList_against fd_TrialList_admits fd_law_refused fd_law_closed fd_law_is_int fd_law_are_ints fd_law fdi_Full fdi_InvalidName fdi_DuplicateMake fdi_InvalidWord fdi_UnknownMake fdi_UnknownTrial fdp_Order_makes) : FnOk P w K mg base (L2.CX P w) 1 f_Order_has fd_Order_has ["self", "upper", "lower"] (spM ⟨K, cls [("Full", C_Full), ("InvalidName", C_InvalidName), ("DuplicateMake", C_DuplicateMake), ("InvalidWord", C_InvalidWord), ("UnknownMake", C_UnknownMake), ("UnknownTrial", C_UnknownTrial), ("UnlikeMakes", C_UnlikeMakes), ("Order", C_Order), ("TrialList", C_TrialList)], P0, none⟩ m_Order_has) := by
  have sc := sc_Order_has
  have z := fn_den2 (P := P) (w := w) (mg := mg) (base := base) (G := ⟨cls [("Full", C_Full), ("InvalidName", C_InvalidName), ("DuplicateMake", C_DuplicateMake), ("InvalidWord", C_InvalidWord), ("UnknownMake", C_UnknownMake), ("UnknownTrial", C_UnknownTrial), ("UnlikeMakes", C_UnlikeMakes), ("Order", C_Order), ("TrialList", C_TrialList)], P0, none⟩) (tc := [3, 1003]) (den := d_Order_has) (pr := []) (k := 0) T.F_Order_has sc_Order_has (by decide) fun cdv A outer s H E hr tk po hu => (gss_cons (gs_asg (i := 3) (g_tix (g_fld (c := "Order") T.fl_Order_names (go_p (pv 0))) (g_cp (pv 1))) sc.nd rfl (by first | exact .inl rfl | exact .inr rfl))
  (gss_one (gs_ret (g_eq hu (go_v (g_band (go_v (g_shr (go_v (g_ix (go_v (g_fld (c := "Order") T.fl_Order_rows (go_p (pv 0)))) (go_v (g_cp (pv 3))))) (go_v (g_tix (g_fld (c := "Order") T.fl_Order_names (go_p (pv 0))) (g_cp (pv 2)))))) (go_v g_int))) (go_v g_int)))))
  rw [m_Order_has_def]
  exact z
theorem sc_TrialList_against : FnScope ["self", "order", "row"] ["self", "order"] (defScope (cls_st 25 11)) := ⟨rfl, rfl, rfl, by decide +kernel, rfl, by decide +kernel, by decide +kernel⟩
theorem ok_TrialList_against (T : Txt K mg f_law_box f_law_take f_law_name f_law_names f_check_name f_check_makes f_TrialList___init__ f_TrialList_add_make f_law_trial f_law_raw_trials f_law_rows_of f_check_known f_TrialList_check_trial f_TrialList_keep f_TrialList_note f_TrialList_trial f_TrialList_retract f_law_gapped f_law_drawn_pairs f_law_named f_check_pairs f_closed_rows f_rows_of f_Order___init__ f_TrialList_makes f_Order_has f_TrialList_against f_TrialList_admits f_law_refused f_law_closed f_law_is_int f_law_are_ints f_law C_Full C_InvalidName C_DuplicateMake C_InvalidWord C_UnknownMake C_UnknownTrial C_UnlikeMakes C_Order C_TrialList fi_Full fi_InvalidName fi_DuplicateMake fi_InvalidWord fi_UnknownMake fi_UnknownTrial pp_Order_makes fp_Order_makes pp_TrialList_makes fd_law_box fd_law_take fd_law_name fd_law_names fd_check_name fd_check_makes fd_TrialList___init__ fd_TrialList_add_make fd_law_trial fd_law_raw_trials fd_law_rows_of fd_check_known fd_TrialList_check_trial fd_TrialList_keep fd_TrialList_note fd_TrialList_trial fd_TrialList_retract fd_law_gapped fd_law_drawn_pairs fd_law_named fd_check_pairs fd_closed_rows fd_rows_of fd_Order___init__ fd_TrialList_makes fd_Order_has fd_TrialList_against fd_TrialList_admits fd_law_refused fd_law_closed fd_law_is_int fd_law_are_ints fd_law fdi_Full fdi_InvalidName fdi_DuplicateMake fdi_InvalidWord fdi_UnknownMake fdi_UnknownTrial fdp_Order_makes) : FnOk P w K mg base (L2.CX P w) 3 f_TrialList_against fd_TrialList_against ["self", "order"] (spM ⟨K, cls [("Full", C_Full), ("InvalidName", C_InvalidName), ("DuplicateMake", C_DuplicateMake), ("InvalidWord", C_InvalidWord), ("UnknownMake", C_UnknownMake), ("UnknownTrial", C_UnknownTrial), ("UnlikeMakes", C_UnlikeMakes), ("Order", C_Order), ("TrialList", C_TrialList)], P0, none⟩ m_TrialList_against) := by
  have sc := sc_TrialList_against
  have z := fn_den2 (P := P) (w := w) (mg := mg) (base := base) (G := ⟨cls [("Full", C_Full), ("InvalidName", C_InvalidName), ("DuplicateMake", C_DuplicateMake), ("InvalidWord", C_InvalidWord), ("UnknownMake", C_UnknownMake), ("UnknownTrial", C_UnknownTrial), ("UnlikeMakes", C_UnlikeMakes), ("Order", C_Order), ("TrialList", C_TrialList)], P0, none⟩) (tc := [1002]) (den := d_TrialList_against) (pr := []) (k := 2) T.F_TrialList_against sc_TrialList_against (by decide) fun cdv A outer s H E hr tk po hu => (gss_cons (gs_if (gt_ne hu (go_v (g_prop T.c_Order T.cl_Order T.p_Order_makes (okp_Order_makes T) (hr.mono (by decide)) T.pb_Order_makes (go_p (pv 1)))) (go_v (g_propM T.c_TrialList T.cl_TrialList T.pm_TrialList_makes (ok_TrialList_makes T) (hr.mono (by decide)) T.a_TrialList_makes (pv 0)))) (gss_one (gs_raise0 rfl tk T.c_UnlikeMakes T.x0_UnlikeMakes (by rfl) T.g_UnlikeMakes)) gss_nil)
  (gss_one (gs_lend (i := 0) (gs_ret (g_lc (own := [("row", 2)]) (tg := (.one 2)) (to := [1002]) rfl sc.nd (gi_seq (g_fld (c := "TrialList") T.fl_TrialList_kept (go_p (pv 0)))) (blkOk_by (N := ["self", "order", "row"]) (sc := defScope (cls_st 25 11)) (by decide +kernel)) (fun _ _ _ _ _ => (pg_name (i := 2) sc.nd rfl (by first | exact .inl rfl | exact .inr rfl))) (fun _ _ _ _ _ => (gts_one (gt_ne hu (go_v (g_meth takes0 T.c_Order T.cl_Order T.m_Order_has (ok_Order_has T) (hr.mono (by decide)) T.a_Order_has (pv 1) (gr_v (g_ix (go_v (g_cp (pv 2))) (go_v g_int)) (gr_v (g_ix (go_v (g_cp (pv 2))) (go_v g_int)) gr_nil)))) (go_v (g_eq hu (go_v (g_ix (go_v (g_cp (pv 2))) (go_v g_int))) (go_v g_str)))))) (fun _ _ _ _ _ => (g_ix (go_v (g_cp (pv 2))) (go_v g_int))))))))
  rw [m_TrialList_against_def]
  exact z
theorem sc_TrialList_admits : FnScope ["self", "order"] ["self", "order"] (defScope (cls_st 25 12)) := ⟨rfl, rfl, rfl, by decide +kernel, rfl, by decide +kernel, by decide +kernel⟩
theorem ok_TrialList_admits (T : Txt K mg f_law_box f_law_take f_law_name f_law_names f_check_name f_check_makes f_TrialList___init__ f_TrialList_add_make f_law_trial f_law_raw_trials f_law_rows_of f_check_known f_TrialList_check_trial f_TrialList_keep f_TrialList_note f_TrialList_trial f_TrialList_retract f_law_gapped f_law_drawn_pairs f_law_named f_check_pairs f_closed_rows f_rows_of f_Order___init__ f_TrialList_makes f_Order_has f_TrialList_against f_TrialList_admits f_law_refused f_law_closed f_law_is_int f_law_are_ints f_law C_Full C_InvalidName C_DuplicateMake C_InvalidWord C_UnknownMake C_UnknownTrial C_UnlikeMakes C_Order C_TrialList fi_Full fi_InvalidName fi_DuplicateMake fi_InvalidWord fi_UnknownMake fi_UnknownTrial pp_Order_makes fp_Order_makes pp_TrialList_makes fd_law_box fd_law_take fd_law_name fd_law_names fd_check_name fd_check_makes fd_TrialList___init__ fd_TrialList_add_make fd_law_trial fd_law_raw_trials fd_law_rows_of fd_check_known fd_TrialList_check_trial fd_TrialList_keep fd_TrialList_note fd_TrialList_trial fd_TrialList_retract fd_law_gapped fd_law_drawn_pairs fd_law_named fd_check_pairs fd_closed_rows fd_rows_of fd_Order___init__ fd_TrialList_makes fd_Order_has fd_TrialList_against fd_TrialList_admits fd_law_refused fd_law_closed fd_law_is_int fd_law_are_ints fd_law fdi_Full fdi_InvalidName fdi_DuplicateMake fdi_InvalidWord fdi_UnknownMake fdi_UnknownTrial fdp_Order_makes) : FnOk P w K mg base (L2.CX P w) 4 f_TrialList_admits fd_TrialList_admits ["self", "order"] (spM ⟨K, cls [("Full", C_Full), ("InvalidName", C_InvalidName), ("DuplicateMake", C_DuplicateMake), ("InvalidWord", C_InvalidWord), ("UnknownMake", C_UnknownMake), ("UnknownTrial", C_UnknownTrial), ("UnlikeMakes", C_UnlikeMakes), ("Order", C_Order), ("TrialList", C_TrialList)], P0, none⟩ m_TrialList_admits) := by
  have sc := sc_TrialList_admits
  have z := fn_den2 (P := P) (w := w) (mg := mg) (base := base) (G := ⟨cls [("Full", C_Full), ("InvalidName", C_InvalidName), ("DuplicateMake", C_DuplicateMake), ("InvalidWord", C_InvalidWord), ("UnknownMake", C_UnknownMake), ("UnknownTrial", C_UnknownTrial), ("UnlikeMakes", C_UnlikeMakes), ("Order", C_Order), ("TrialList", C_TrialList)], P0, none⟩) (tc := []) (den := d_TrialList_admits) (pr := []) (k := 3) T.F_TrialList_admits sc_TrialList_admits (by decide) fun cdv A outer s H E hr tk po hu => (gss_one (gs_ret (g_eq hu (go_v (g_meth tk T.c_TrialList T.cl_TrialList T.m_TrialList_against (ok_TrialList_against T) (hr.mono (by decide)) T.a_TrialList_against (pv 0) (gr_l (pv 1) gr_nil))) (go_v (g_lst ga_nil)))))
  rw [m_TrialList_admits_def]
  exact z
theorem sc_law_refused : FnScope ["_law_way", "_law_book", "_law_order"] ["_law_way", "_law_book", "_law_order"] (defScope (topS 40)) := ⟨rfl, rfl, rfl, by decide +kernel, rfl, by decide +kernel, by decide +kernel⟩
theorem ok_law_refused (T : Txt K mg f_law_box f_law_take f_law_name f_law_names f_check_name f_check_makes f_TrialList___init__ f_TrialList_add_make f_law_trial f_law_raw_trials f_law_rows_of f_check_known f_TrialList_check_trial f_TrialList_keep f_TrialList_note f_TrialList_trial f_TrialList_retract f_law_gapped f_law_drawn_pairs f_law_named f_check_pairs f_closed_rows f_rows_of f_Order___init__ f_TrialList_makes f_Order_has f_TrialList_against f_TrialList_admits f_law_refused f_law_closed f_law_is_int f_law_are_ints f_law C_Full C_InvalidName C_DuplicateMake C_InvalidWord C_UnknownMake C_UnknownTrial C_UnlikeMakes C_Order C_TrialList fi_Full fi_InvalidName fi_DuplicateMake fi_InvalidWord fi_UnknownMake fi_UnknownTrial pp_Order_makes fp_Order_makes pp_TrialList_makes fd_law_box fd_law_take fd_law_name fd_law_names fd_check_name fd_check_makes fd_TrialList___init__ fd_TrialList_add_make fd_law_trial fd_law_raw_trials fd_law_rows_of fd_check_known fd_TrialList_check_trial fd_TrialList_keep fd_TrialList_note fd_TrialList_trial fd_TrialList_retract fd_law_gapped fd_law_drawn_pairs fd_law_named fd_check_pairs fd_closed_rows fd_rows_of fd_Order___init__ fd_TrialList_makes fd_Order_has fd_TrialList_against fd_TrialList_admits fd_law_refused fd_law_closed fd_law_is_int fd_law_are_ints fd_law fdi_Full fdi_InvalidName fdi_DuplicateMake fdi_InvalidWord fdi_UnknownMake fdi_UnknownTrial fdp_Order_makes) : FnOk P w K mg base (L2.CX P w) 5 f_law_refused fd_law_refused ["_law_way", "_law_book", "_law_order"] (spM ⟨K, cls [("Full", C_Full), ("InvalidName", C_InvalidName), ("DuplicateMake", C_DuplicateMake), ("InvalidWord", C_InvalidWord), ("UnknownMake", C_UnknownMake), ("UnknownTrial", C_UnknownTrial), ("UnlikeMakes", C_UnlikeMakes), ("Order", C_Order), ("TrialList", C_TrialList)], P0, none⟩ m_law_refused) := by
  have sc := sc_law_refused
  have z := fn_den2 (P := P) (w := w) (mg := mg) (base := base) (G := ⟨cls [("Full", C_Full), ("InvalidName", C_InvalidName), ("DuplicateMake", C_DuplicateMake), ("InvalidWord", C_InvalidWord), ("UnknownMake", C_UnknownMake), ("UnknownTrial", C_UnknownTrial), ("UnlikeMakes", C_UnlikeMakes), ("Order", C_Order), ("TrialList", C_TrialList)], P0, none⟩) (tc := []) (den := d_law_refused) (pr := []) (k := 4) T.F_law_refused sc_law_refused (by decide) fun cdv A outer s H E hr tk po hu => (gss_one (gs_try (tc := []) rfl rfl sc.nd tk rfl (fun _ _ _ tk po => (gss_cons (gs_if (gt_eq hu (go_v (g_cp (pv 0))) (go_v g_int)) (gss_one (gs_ret (g_is (go_v (g_meth tk T.c_TrialList T.cl_TrialList T.m_TrialList_against (ok_TrialList_against T) (hr.mono (by decide)) T.a_TrialList_against (pv 1) (gr_l (pv 2) gr_nil))) (go_v g_non)))) gss_nil)
  (gss_one (gs_ret (g_is (go_v (g_meth tk T.c_TrialList T.cl_TrialList T.m_TrialList_admits (ok_TrialList_admits T) (hr.mono (by decide)) T.a_TrialList_admits (pv 1) (gr_l (pv 2) gr_nil))) (go_v g_non)))))) (.plain (x := "UnlikeMakes") ⟨rfl, by decide, .inl T.g_UnlikeMakes⟩ T.s_UnlikeMakes (fun a ob k d pn hz hf c ks xs P xr => by exact gss_wk (t2 := []) (gss_one (gs_ret g_bl)) (by decide)) .nil)))
  rw [m_law_refused_def]
  exact z
theorem sc_law_closed : FnScope ["_law_size", "_law_pairs", "_law_reach", "_law_a", "_law_b", "_law_pair", "_law_m"] ["_law_size", "_law_pairs"] (defScope (topS 37)) := ⟨rfl, rfl, rfl, by decide +kernel, rfl, by decide +kernel, by decide +kernel⟩
theorem ok_law_closed (T : Txt K mg f_law_box f_law_take f_law_name f_law_names f_check_name f_check_makes f_TrialList___init__ f_TrialList_add_make f_law_trial f_law_raw_trials f_law_rows_of f_check_known f_TrialList_check_trial f_TrialList_keep f_TrialList_note f_TrialList_trial f_TrialList_retract f_law_gapped f_law_drawn_pairs f_law_named f_check_pairs f_closed_rows f_rows_of f_Order___init__ f_TrialList_makes f_Order_has f_TrialList_against f_TrialList_admits f_law_refused f_law_closed f_law_is_int f_law_are_ints f_law C_Full C_InvalidName C_DuplicateMake C_InvalidWord C_UnknownMake C_UnknownTrial C_UnlikeMakes C_Order C_TrialList fi_Full fi_InvalidName fi_DuplicateMake fi_InvalidWord fi_UnknownMake fi_UnknownTrial pp_Order_makes fp_Order_makes pp_TrialList_makes fd_law_box fd_law_take fd_law_name fd_law_names fd_check_name fd_check_makes fd_TrialList___init__ fd_TrialList_add_make fd_law_trial fd_law_raw_trials fd_law_rows_of fd_check_known fd_TrialList_check_trial fd_TrialList_keep fd_TrialList_note fd_TrialList_trial fd_TrialList_retract fd_law_gapped fd_law_drawn_pairs fd_law_named fd_check_pairs fd_closed_rows fd_rows_of fd_Order___init__ fd_TrialList_makes fd_Order_has fd_TrialList_against fd_TrialList_admits fd_law_refused fd_law_closed fd_law_is_int fd_law_are_ints fd_law fdi_Full fdi_InvalidName fdi_DuplicateMake fdi_InvalidWord fdi_UnknownMake fdi_UnknownTrial fdp_Order_makes) : FnOk P w K mg base (L2.CX P w) 1 f_law_closed fd_law_closed ["_law_size", "_law_pairs"] (spM ⟨K, cls [("Full", C_Full), ("InvalidName", C_InvalidName), ("DuplicateMake", C_DuplicateMake), ("InvalidWord", C_InvalidWord), ("UnknownMake", C_UnknownMake), ("UnknownTrial", C_UnknownTrial), ("UnlikeMakes", C_UnlikeMakes), ("Order", C_Order), ("TrialList", C_TrialList)], P0, none⟩ m_law_closed) := by
  have sc := sc_law_closed
  have z := fn_den2 (P := P) (w := w) (mg := mg) (base := base) (G := ⟨cls [("Full", C_Full), ("InvalidName", C_InvalidName), ("DuplicateMake", C_DuplicateMake), ("InvalidWord", C_InvalidWord), ("UnknownMake", C_UnknownMake), ("UnknownTrial", C_UnknownTrial), ("UnlikeMakes", C_UnlikeMakes), ("Order", C_Order), ("TrialList", C_TrialList)], P0, none⟩) (tc := [2, 1002, 3, 1003, 1004, 2, 5, 1005, 2, 6, 1006, 3, 1003, 4, 1004, 2, 2]) (den := d_law_closed) (pr := []) (k := 0) T.F_law_closed sc_law_closed (by decide) fun cdv A outer s H E hr tk po hu => (gss_cons (gs_asg (i := 2) (g_lst ga_nil) sc.nd rfl (by first | exact .inl rfl | exact .inr rfl))
  (gss_cons (gs_for (tg := (.one 3)) (fg := []) po rfl (gi_range1 (by rfl) T.b_range (g_cp (pv 0))) (pg_name (i := 3) sc.nd rfl (by first | exact .inl rfl | exact .inr rfl)) (gss_one (gs_app (i := 2) (pv 2) (g_lc (own := [("_law_b", 4)]) (tg := (.one 4)) (to := [1004]) rfl sc.nd (gi_range1 (by rfl) T.b_range (g_cp (pv 0))) (blkOk_by (N := ["_law_size", "_law_pairs", "_law_reach", "_law_a", "_law_b", "_law_pair", "_law_m"]) (sc := defScope (topS 37)) (by decide +kernel)) (fun _ _ _ _ _ => (pg_name (i := 4) sc.nd rfl (by first | exact .inl rfl | exact .inr rfl))) (fun _ _ _ _ _ => gts_nil) (fun _ _ _ _ _ => (g_eq hu (go_v (g_cp (pv 3))) (go_v (g_cp (pv 4)))))))))
  (gss_cons (gs_lend (i := 1) (gs_for (tg := (.one 5)) (fg := []) po rfl (gi_seq (g_cp (pv 1))) (pg_name (i := 5) sc.nd rfl (by first | exact .inl rfl | exact .inr rfl)) (gss_one (gs_set2 (i := 2) (pv 2) (g_ix (go_v (g_cp (pv 5))) (go_v g_int)) (g_ix (go_v (g_cp (pv 5))) (go_v g_int)) g_bl))))
  (gss_cons (gs_for (tg := (.one 6)) (fg := []) po rfl (gi_range1 (by rfl) T.b_range (g_cp (pv 0))) (pg_name (i := 6) sc.nd rfl (by first | exact .inl rfl | exact .inr rfl)) (gss_one (gs_for (tg := (.one 3)) (fg := []) po rfl (gi_range1 (by rfl) T.b_range (g_cp (pv 0))) (pg_name (i := 3) sc.nd rfl (by first | exact .inl rfl | exact .inr rfl)) (gss_one (gs_if (gt_lend (i := 2) (gt_tru (go_v (g_ix (go_v (g_ix (go_p (pv 2)) (go_v (g_cp (pv 3))))) (go_v (g_cp (pv 6))))))) (gss_one (gs_for (tg := (.one 4)) (fg := []) po rfl (gi_range1 (by rfl) T.b_range (g_cp (pv 0))) (pg_name (i := 4) sc.nd rfl (by first | exact .inl rfl | exact .inr rfl)) (gss_one (gs_if (gt_lend (i := 2) (gt_tru (go_v (g_ix (go_v (g_ix (go_p (pv 2)) (go_v (g_cp (pv 6))))) (go_v (g_cp (pv 4))))))) (gss_one (gs_set2 (i := 2) (pv 2) (g_cp (pv 3)) (g_cp (pv 4)) g_bl)) gss_nil)))) gss_nil)))))
  (gss_one (gs_ret (g_mv (pv 2))))))))
  rw [m_law_closed_def]
  exact z
theorem sc_law_is_int : FnScope ["_law_value"] ["_law_value"] (defScope (topS 38)) := ⟨rfl, rfl, rfl, by decide +kernel, rfl, by decide +kernel, by decide +kernel⟩
theorem ok_law_is_int (T : Txt K mg f_law_box f_law_take f_law_name f_law_names f_check_name f_check_makes f_TrialList___init__ f_TrialList_add_make f_law_trial f_law_raw_trials f_law_rows_of f_check_known f_TrialList_check_trial f_TrialList_keep f_TrialList_note f_TrialList_trial f_TrialList_retract f_law_gapped f_law_drawn_pairs f_law_named f_check_pairs f_closed_rows f_rows_of f_Order___init__ f_TrialList_makes f_Order_has f_TrialList_against f_TrialList_admits f_law_refused f_law_closed f_law_is_int f_law_are_ints f_law C_Full C_InvalidName C_DuplicateMake C_InvalidWord C_UnknownMake C_UnknownTrial C_UnlikeMakes C_Order C_TrialList fi_Full fi_InvalidName fi_DuplicateMake fi_InvalidWord fi_UnknownMake fi_UnknownTrial pp_Order_makes fp_Order_makes pp_TrialList_makes fd_law_box fd_law_take fd_law_name fd_law_names fd_check_name fd_check_makes fd_TrialList___init__ fd_TrialList_add_make fd_law_trial fd_law_raw_trials fd_law_rows_of fd_check_known fd_TrialList_check_trial fd_TrialList_keep fd_TrialList_note fd_TrialList_trial fd_TrialList_retract fd_law_gapped fd_law_drawn_pairs fd_law_named fd_check_pairs fd_closed_rows fd_rows_of fd_Order___init__ fd_TrialList_makes fd_Order_has fd_TrialList_against fd_TrialList_admits fd_law_refused fd_law_closed fd_law_is_int fd_law_are_ints fd_law fdi_Full fdi_InvalidName fdi_DuplicateMake fdi_InvalidWord fdi_UnknownMake fdi_UnknownTrial fdp_Order_makes) : FnOk P w K mg base (L2.CX P w) 1 f_law_is_int fd_law_is_int ["_law_value"] (spM ⟨K, cls [("Full", C_Full), ("InvalidName", C_InvalidName), ("DuplicateMake", C_DuplicateMake), ("InvalidWord", C_InvalidWord), ("UnknownMake", C_UnknownMake), ("UnknownTrial", C_UnknownTrial), ("UnlikeMakes", C_UnlikeMakes), ("Order", C_Order), ("TrialList", C_TrialList)], P0, none⟩ m_law_is_int) := by
  have sc := sc_law_is_int
  have z := fn_den2 (P := P) (w := w) (mg := mg) (base := base) (G := ⟨cls [("Full", C_Full), ("InvalidName", C_InvalidName), ("DuplicateMake", C_DuplicateMake), ("InvalidWord", C_InvalidWord), ("UnknownMake", C_UnknownMake), ("UnknownTrial", C_UnknownTrial), ("UnlikeMakes", C_UnlikeMakes), ("Order", C_Order), ("TrialList", C_TrialList)], P0, none⟩) (tc := []) (den := d_law_is_int) (pr := []) (k := 0) T.F_law_is_int sc_law_is_int (by decide) fun cdv A outer s H E hr tk po hu => (gss_one (gs_ret (g_andV (g_isi .int (by rfl) T.b_isinstance (by rfl) T.b_int (by decide +kernel) (by decide) (by decide) (go_v (g_cp (pv 0)))) (g_oneV .And (g_notV (g_isi .bool (by rfl) T.b_isinstance (by rfl) T.b_bool (by decide +kernel) (by decide) (by decide) (go_v (g_cp (pv 0)))))))))
  rw [m_law_is_int_def]
  exact z
theorem sc_law_are_ints : FnScope ["_law_value", "_law_expected", "_law_k"] ["_law_value", "_law_expected"] (defScope (topS 39)) := ⟨rfl, rfl, rfl, by decide +kernel, rfl, by decide +kernel, by decide +kernel⟩
theorem ok_law_are_ints (T : Txt K mg f_law_box f_law_take f_law_name f_law_names f_check_name f_check_makes f_TrialList___init__ f_TrialList_add_make f_law_trial f_law_raw_trials f_law_rows_of f_check_known f_TrialList_check_trial f_TrialList_keep f_TrialList_note f_TrialList_trial f_TrialList_retract f_law_gapped f_law_drawn_pairs f_law_named f_check_pairs f_closed_rows f_rows_of f_Order___init__ f_TrialList_makes f_Order_has f_TrialList_against f_TrialList_admits f_law_refused f_law_closed f_law_is_int f_law_are_ints f_law C_Full C_InvalidName C_DuplicateMake C_InvalidWord C_UnknownMake C_UnknownTrial C_UnlikeMakes C_Order C_TrialList fi_Full fi_InvalidName fi_DuplicateMake fi_InvalidWord fi_UnknownMake fi_UnknownTrial pp_Order_makes fp_Order_makes pp_TrialList_makes fd_law_box fd_law_take fd_law_name fd_law_names fd_check_name fd_check_makes fd_TrialList___init__ fd_TrialList_add_make fd_law_trial fd_law_raw_trials fd_law_rows_of fd_check_known fd_TrialList_check_trial fd_TrialList_keep fd_TrialList_note fd_TrialList_trial fd_TrialList_retract fd_law_gapped fd_law_drawn_pairs fd_law_named fd_check_pairs fd_closed_rows fd_rows_of fd_Order___init__ fd_TrialList_makes fd_Order_has fd_TrialList_against fd_TrialList_admits fd_law_refused fd_law_closed fd_law_is_int fd_law_are_ints fd_law fdi_Full fdi_InvalidName fdi_DuplicateMake fdi_InvalidWord fdi_UnknownMake fdi_UnknownTrial fdp_Order_makes) : FnOk P w K mg base (L2.CX P w) 2 f_law_are_ints fd_law_are_ints ["_law_value", "_law_expected"] (spM ⟨K, cls [("Full", C_Full), ("InvalidName", C_InvalidName), ("DuplicateMake", C_DuplicateMake), ("InvalidWord", C_InvalidWord), ("UnknownMake", C_UnknownMake), ("UnknownTrial", C_UnknownTrial), ("UnlikeMakes", C_UnlikeMakes), ("Order", C_Order), ("TrialList", C_TrialList)], P0, none⟩ m_law_are_ints) := by
  have sc := sc_law_are_ints
  have z := fn_den2 (P := P) (w := w) (mg := mg) (base := base) (G := ⟨cls [("Full", C_Full), ("InvalidName", C_InvalidName), ("DuplicateMake", C_DuplicateMake), ("InvalidWord", C_InvalidWord), ("UnknownMake", C_UnknownMake), ("UnknownTrial", C_UnknownTrial), ("UnlikeMakes", C_UnlikeMakes), ("Order", C_Order), ("TrialList", C_TrialList)], P0, none⟩) (tc := [2, 1002]) (den := d_law_are_ints) (pr := []) (k := 1) T.F_law_are_ints sc_law_are_ints (by decide) fun cdv A outer s H E hr tk po hu => (gss_cons (gs_if (gt_w (gw_or (gt_not (gt_val (g_isi .list (by rfl) T.b_isinstance (by rfl) T.b_list (by decide +kernel) (by decide) (by decide) (go_p (pv 0))))) (gw_one .Or (gt_ne hu (go_v (g_len (by rfl) T.b_len (go_p (pv 0)))) (go_v (g_len (by rfl) T.b_len (go_p (pv 1)))))))) (gss_one (gs_ret g_bl)) gss_nil)
  (gss_cons (gs_for (tg := (.one 2)) (fg := []) po rfl (gi_range1 (by rfl) T.b_range (g_len (by rfl) T.b_len (go_p (pv 1)))) (pg_name (i := 2) sc.nd rfl (by first | exact .inl rfl | exact .inr rfl)) (gss_one (gs_if (gt_w (gw_or (gt_not (gt_val (g_call tk (ok_law_is_int T) (hr.mono (by decide)) (by rfl) T.g_law_is_int T.F_law_is_int.kp T.a_law_is_int (gr_v (g_ix (go_p (pv 0)) (go_v (g_cp (pv 2)))) gr_nil)))) (gw_one .Or (gt_ne hu (go_v (g_ix (go_p (pv 0)) (go_v (g_cp (pv 2))))) (go_v (g_ix (go_p (pv 1)) (go_v (g_cp (pv 2))))))))) (gss_one (gs_ret g_bl)) gss_nil)))
  (gss_one (gs_ret g_bl))))
  rw [m_law_are_ints_def]
  exact z
theorem sc_law : FnScope ["_law_script", "_law_box_here", "_law_size", "_law_names_here", "_law_book", "_law_name_here", "_law_rows", "_law_row", "_law_way", "_law_others", "_law_drawn", "_law_order", "_law_unlike", "_law_reach", "_law_due", "_law_told", "_law_found"] ["_law_script"] (defScope (topS 41)) := ⟨rfl, rfl, rfl, by decide +kernel, rfl, by decide +kernel, by decide +kernel⟩
theorem ok_law (T : Txt K mg f_law_box f_law_take f_law_name f_law_names f_check_name f_check_makes f_TrialList___init__ f_TrialList_add_make f_law_trial f_law_raw_trials f_law_rows_of f_check_known f_TrialList_check_trial f_TrialList_keep f_TrialList_note f_TrialList_trial f_TrialList_retract f_law_gapped f_law_drawn_pairs f_law_named f_check_pairs f_closed_rows f_rows_of f_Order___init__ f_TrialList_makes f_Order_has f_TrialList_against f_TrialList_admits f_law_refused f_law_closed f_law_is_int f_law_are_ints f_law C_Full C_InvalidName C_DuplicateMake C_InvalidWord C_UnknownMake C_UnknownTrial C_UnlikeMakes C_Order C_TrialList fi_Full fi_InvalidName fi_DuplicateMake fi_InvalidWord fi_UnknownMake fi_UnknownTrial pp_Order_makes fp_Order_makes pp_TrialList_makes fd_law_box fd_law_take fd_law_name fd_law_names fd_check_name fd_check_makes fd_TrialList___init__ fd_TrialList_add_make fd_law_trial fd_law_raw_trials fd_law_rows_of fd_check_known fd_TrialList_check_trial fd_TrialList_keep fd_TrialList_note fd_TrialList_trial fd_TrialList_retract fd_law_gapped fd_law_drawn_pairs fd_law_named fd_check_pairs fd_closed_rows fd_rows_of fd_Order___init__ fd_TrialList_makes fd_Order_has fd_TrialList_against fd_TrialList_admits fd_law_refused fd_law_closed fd_law_is_int fd_law_are_ints fd_law fdi_Full fdi_InvalidName fdi_DuplicateMake fdi_InvalidWord fdi_UnknownMake fdi_UnknownTrial fdp_Order_makes) : FnOk P w K mg base (L2.CX P w) 7 f_law fd_law ["_law_script"] (spM ⟨K, cls [("Full", C_Full), ("InvalidName", C_InvalidName), ("DuplicateMake", C_DuplicateMake), ("InvalidWord", C_InvalidWord), ("UnknownMake", C_UnknownMake), ("UnknownTrial", C_UnknownTrial), ("UnlikeMakes", C_UnlikeMakes), ("Order", C_Order), ("TrialList", C_TrialList)], P0, none⟩ m_law) := by
  have sc := sc_law
  have z := fn_den2 (P := P) (w := w) (mg := mg) (base := base) (G := ⟨cls [("Full", C_Full), ("InvalidName", C_InvalidName), ("DuplicateMake", C_DuplicateMake), ("InvalidWord", C_InvalidWord), ("UnknownMake", C_UnknownMake), ("UnknownTrial", C_UnknownTrial), ("UnlikeMakes", C_UnlikeMakes), ("Order", C_Order), ("TrialList", C_TrialList)], P0, none⟩) (tc := [1, 1001, 1, 2, 1002, 1, 3, 1003, 4, 1004, 5, 1005, 4, 1, 1, 6, 1006, 7, 1007, 4, 1, 4, 6, 1006, 1, 8, 1008, 9, 1009, 9, 9, 1009, 9, 1009, 1, 1, 10, 1010, 11, 1011, 12, 1012, 13, 1013, 1007, 14, 1014, 15, 1015, 15, 16, 1016]) (den := d_law) (pr := []) (k := 6) T.F_law sc_law (by decide) fun cdv A outer s H E hr tk po hu => (gss_cons (gs_asg (i := 1) (g_call tk (ok_law_box T) (hr.mono (by decide)) (by rfl) T.g_law_box T.F_law_box.kp T.a_law_box (gr_l (pv 0) gr_nil)) sc.nd rfl (by first | exact .inl rfl | exact .inr rfl))
  (gss_cons (gs_asg (i := 2) (g_add (go_v g_int) (go_v (g_call tk (ok_law_take T) (hr.mono (by decide)) (by rfl) T.g_law_take T.F_law_take.kp T.a_law_take (gr_io (pv 1) (gr_v g_int gr_nil))))) sc.nd rfl (by first | exact .inl rfl | exact .inr rfl))
  (gss_cons (gs_asg (i := 3) (g_call tk (ok_law_names T) (hr.mono (by decide)) (by rfl) T.g_law_names T.F_law_names.kp T.a_law_names (gr_io (pv 1) (gr_v (g_cp (pv 2)) gr_nil))) sc.nd rfl (by first | exact .inl rfl | exact .inr rfl))
  (gss_cons (gs_asg (i := 4) (g_makeR0 tk T.c_TrialList T.mk_TrialList (ok_TrialList___init__ T) (hr.mono (by decide)) (by rfl) T.g_TrialList) sc.nd rfl (by first | exact .inl rfl | exact .inr rfl))
  (gss_cons (gs_lend (i := 3) (gs_for (tg := (.one 5)) (fg := []) po rfl (gi_seq (g_cp (pv 3))) (pg_name (i := 5) sc.nd rfl (by first | exact .inl rfl | exact .inr rfl)) (gss_one (gs_expr (g_meth tk T.c_TrialList T.cl_TrialList T.m_TrialList_add_make (ok_TrialList_add_make T) (hr.mono (by decide)) T.a_TrialList_add_make (pv 4) (gr_v (g_cp (pv 5)) gr_nil))))))
  (gss_cons (gs_asg (i := 6) (g_call tk (ok_law_rows_of T) (hr.mono (by decide)) (by rfl) T.g_law_rows_of T.F_law_rows_of.kp T.a_law_rows_of (gr_v (g_call tk (ok_law_raw_trials T) (hr.mono (by decide)) (by rfl) T.g_law_raw_trials T.F_law_raw_trials.kp T.a_law_raw_trials (gr_io (pv 1) (gr_v (g_cp (pv 2)) (gr_v (g_call tk (ok_law_take T) (hr.mono (by decide)) (by rfl) T.g_law_take T.F_law_take.kp T.a_law_take (gr_io (pv 1) (gr_v g_int gr_nil))) gr_nil)))) gr_nil)) sc.nd rfl (by first | exact .inl rfl | exact .inr rfl))
  (gss_cons (gs_lend (i := 6) (gs_for (tg := (.one 7)) (fg := []) po rfl (gi_seq (g_cp (pv 6))) (pg_name (i := 7) sc.nd rfl (by first | exact .inl rfl | exact .inr rfl)) (gss_one (gs_expr (g_meth tk T.c_TrialList T.cl_TrialList T.m_TrialList_note (ok_TrialList_note T) (hr.mono (by decide)) T.a_TrialList_note (pv 4) (gr_v (g_ix (go_v (g_cp (pv 7))) (go_v g_int)) (gr_v (g_ix (go_p (pv 3)) (go_v (g_ix (go_v (g_cp (pv 7))) (go_v g_int)))) (gr_v (g_ix (go_p (pv 3)) (go_v (g_ix (go_v (g_cp (pv 7))) (go_v g_int)))) gr_nil))))))))
  (gss_cons (gs_asg (i := 6) (g_call tk (ok_law_gapped T) (hr.mono (by decide)) (by rfl) T.g_law_gapped T.F_law_gapped.kp T.a_law_gapped (gr_io (pv 1) (gr_io (pv 4) (gr_l (pv 6) gr_nil)))) sc.nd rfl (by first | exact .inl rfl | exact .inr rfl))
  (gss_cons (gs_asg (i := 8) (g_call tk (ok_law_take T) (hr.mono (by decide)) (by rfl) T.g_law_take T.F_law_take.kp T.a_law_take (gr_io (pv 1) (gr_v g_int gr_nil))) sc.nd rfl (by first | exact .inl rfl | exact .inr rfl))
  (gss_cons (gs_asg (i := 9) (g_list (by rfl) T.b_list (go_p (pv 3))) sc.nd rfl (by first | exact .inl rfl | exact .inr rfl))
  (gss_cons (gs_if (gt_eq hu (go_v (g_cp (pv 8))) (go_v g_int)) (gss_one (gs_rev (i := 9) (pv 9))) gss_nil)
  (gss_cons (gs_if (gt_eq hu (go_v (g_cp (pv 8))) (go_v g_int)) (gss_one (gs_lend (i := 3) (gs_asg (i := 9) (g_slice (g_cp (pv 3)) (go2_some g_int) go2_none) sc.nd rfl (by first | exact .inl rfl | exact .inr rfl)))) gss_nil)
  (gss_cons (gs_if (gt_eq hu (go_v (g_cp (pv 8))) (go_v g_int)) (gss_one (gs_asg (i := 9) (g_add (go_p (pv 3)) (go_v (g_lst (ga_cons g_str ga_nil)))) sc.nd rfl (by first | exact .inl rfl | exact .inr rfl))) gss_nil)
  (gss_cons (gs_asg (i := 10) (g_call tk (ok_law_drawn_pairs T) (hr.mono (by decide)) (by rfl) T.g_law_drawn_pairs T.F_law_drawn_pairs.kp T.a_law_drawn_pairs (gr_io (pv 1) (gr_v (g_len (by rfl) T.b_len (go_p (pv 9))) (gr_v (g_call tk (ok_law_take T) (hr.mono (by decide)) (by rfl) T.g_law_take T.F_law_take.kp T.a_law_take (gr_io (pv 1) (gr_v g_int gr_nil))) gr_nil)))) sc.nd rfl (by first | exact .inl rfl | exact .inr rfl))
  (gss_cons (gs_asg (i := 11) (g_make tk T.c_Order T.mk_Order (ok_Order___init__ T) (hr.mono (by decide)) (by rfl) T.g_Order T.a_Order___init__ (gr_l (pv 9) (gr_v (g_call tk (ok_law_named T) (hr.mono (by decide)) (by rfl) T.g_law_named T.F_law_named.kp T.a_law_named (gr_l (pv 9) (gr_l (pv 10) gr_nil))) gr_nil))) sc.nd rfl (by first | exact .inl rfl | exact .inr rfl))
  (gss_cons (gs_asg (i := 12) (g_ne hu (go_p (pv 9)) (go_p (pv 3))) sc.nd rfl (by first | exact .inl rfl | exact .inr rfl))
  (gss_cons (gs_if (gt_w (gw_or (gt_ne hu (go_v (g_call tk (ok_law_refused T) (hr.mono (by decide)) (by rfl) T.g_law_refused T.F_law_refused.kp T.a_law_refused (gr_v g_int (gr_l (pv 4) (gr_l (pv 11) gr_nil))))) (go_v (g_cp (pv 12)))) (gw_one .Or (gt_ne hu (go_v (g_call tk (ok_law_refused T) (hr.mono (by decide)) (by rfl) T.g_law_refused T.F_law_refused.kp T.a_law_refused (gr_v g_int (gr_l (pv 4) (gr_l (pv 11) gr_nil))))) (go_v (g_cp (pv 12))))))) (gss_one (gs_ret g_bl)) gss_nil)
  (gss_cons (gs_if (gt_tru (go_v (g_cp (pv 12)))) (gss_one (gs_ret g_bl)) gss_nil)
  (gss_cons (gs_asg (i := 13) (g_call tk (ok_law_closed T) (hr.mono (by decide)) (by rfl) T.g_law_closed T.F_law_closed.kp T.a_law_closed (gr_v (g_cp (pv 2)) (gr_l (pv 10) gr_nil))) sc.nd rfl (by first | exact .inl rfl | exact .inr rfl))
  (gss_cons (gs_lend (i := 13) (gs_lend (i := 6) (gs_tc (tc := [1007, 14, 1014]) (by first | exact (gs_setLc (i := 14) (own := [("_law_row", 7)]) (tg := (.one 7)) (to := [1007]) rfl sc.nd rfl rfl (sw_true rfl rfl rfl (by decide +kernel)) (gi_seq (g_cp (pv 6))) (blkOk_by (N := ["_law_script", "_law_box_here", "_law_size", "_law_names_here", "_law_book", "_law_name_here", "_law_rows", "_law_row", "_law_way", "_law_others", "_law_drawn", "_law_order", "_law_unlike", "_law_reach", "_law_due", "_law_told", "_law_found"]) (sc := defScope (topS 41)) (by decide +kernel)) (fun _ _ _ _ _ => (pg_name (i := 7) sc.nd rfl (by first | exact .inl rfl | exact .inr rfl))) (fun _ _ _ _ _ => (gts_one (gt_ne hu (go_v (g_ix (go_v (g_ix (go_p (pv 13)) (go_v (g_ix (go_v (g_cp (pv 7))) (go_v g_int))))) (go_v (g_ix (go_v (g_cp (pv 7))) (go_v g_int))))) (go_v (g_eq hu (go_v (g_ix (go_v (g_cp (pv 7))) (go_v g_int))) (go_v g_str)))))) (fun _ _ _ _ _ => (g_ix (go_v (g_cp (pv 7))) (go_v g_int)))) | exact (gs_asg (i := 14) (g_lc (own := [("_law_row", 7)]) (tg := (.one 7)) (to := [1007]) rfl sc.nd (gi_seq (g_cp (pv 6))) (blkOk_by (N := ["_law_script", "_law_box_here", "_law_size", "_law_names_here", "_law_book", "_law_name_here", "_law_rows", "_law_row", "_law_way", "_law_others", "_law_drawn", "_law_order", "_law_unlike", "_law_reach", "_law_due", "_law_told", "_law_found"]) (sc := defScope (topS 41)) (by decide +kernel)) (fun _ _ _ _ _ => (pg_name (i := 7) sc.nd rfl (by first | exact .inl rfl | exact .inr rfl))) (fun _ _ _ _ _ => (gts_one (gt_ne hu (go_v (g_ix (go_v (g_ix (go_p (pv 13)) (go_v (g_ix (go_v (g_cp (pv 7))) (go_v g_int))))) (go_v (g_ix (go_v (g_cp (pv 7))) (go_v g_int))))) (go_v (g_eq hu (go_v (g_ix (go_v (g_cp (pv 7))) (go_v g_int))) (go_v g_str)))))) (fun _ _ _ _ _ => (g_ix (go_v (g_cp (pv 7))) (go_v g_int)))) sc.nd rfl (by first | exact .inl rfl | exact .inr rfl))))))
  (gss_cons (gs_asg (i := 15) (g_meth tk T.c_TrialList T.cl_TrialList T.m_TrialList_against (ok_TrialList_against T) (hr.mono (by decide)) T.a_TrialList_against (pv 4) (gr_l (pv 11) gr_nil)) sc.nd rfl (by first | exact .inl rfl | exact .inr rfl))
  (gss_cons (gs_if (gt_not (gt_val (g_call tk (ok_law_are_ints T) (hr.mono (by decide)) (by rfl) T.g_law_are_ints T.F_law_are_ints.kp T.a_law_are_ints (gr_l (pv 15) (gr_l (pv 14) gr_nil))))) (gss_one (gs_ret g_bl)) gss_nil)
  (gss_cons (gs_app (i := 15) (pv 15) g_int)
  (gss_cons (gs_asg (i := 16) (g_meth tk T.c_TrialList T.cl_TrialList T.m_TrialList_admits (ok_TrialList_admits T) (hr.mono (by decide)) T.a_TrialList_admits (pv 4) (gr_l (pv 11) gr_nil)) sc.nd rfl (by first | exact .inl rfl | exact .inr rfl))
  (gss_one (gs_ret (g_andV (g_call tk (ok_law_are_ints T) (hr.mono (by decide)) (by rfl) T.g_law_are_ints T.F_law_are_ints.kp T.a_law_are_ints (gr_v (g_meth tk T.c_TrialList T.cl_TrialList T.m_TrialList_against (ok_TrialList_against T) (hr.mono (by decide)) T.a_TrialList_against (pv 4) (gr_l (pv 11) gr_nil)) (gr_l (pv 14) gr_nil))) (g_andV (g_isi .bool (by rfl) T.b_isinstance (by rfl) T.b_bool (by decide +kernel) (by decide) (by decide) (go_v (g_cp (pv 16)))) (g_oneV .And (g_eq hu (go_v (g_cp (pv 16))) (go_v (g_eq hu (go_p (pv 14)) (go_v (g_lst ga_nil))))))))))))))))))))))))))))))))))
  rw [m_law_def]
  exact z
end
end Lw
namespace Lw
open Cs
open PySem (Str)
theorem box_w {ns : List Int} {K : D → En → Prop} {E : PySem.Str → List PySem.Str → List D → En → Prop} (hn : ns.length ≤ 63) (hK : ∀ d, BoxP d → K d [.un]) : resW (m_law_box [scr ns]) K E := by
  rw [m_law_box_def]
  refine resW_run rfl ?_
  unfold d_law_box scr
  simp [frm, flwOk, noBoAt, lim]
  exact hK _ ⟨_, 0, 0, 0, rfl, by omega, by omega⟩
theorem take_w {d : D} {m : Int} {K : D → En → Prop} {E : PySem.Str → List PySem.Str → List D → En → Prop} (hd : BoxP d) (hm : 0 < m) (hm2 : m < 1073741824) (hK : ∀ r d', 0 ≤ r → r < m → BoxP d' → K (.int r) [.dt d', .un]) : resW (m_law_take [d, .int m]) K E := by
  obtain ⟨cs, a, b, s, rfl, ha, hb⟩ := hd
  rw [m_law_take_def]
  refine resW_run rfl ?_
  have hmod : ∀ x : Int, 0 ≤ x % m ∧ x % m < m := fun x => ⟨Int.emod_nonneg x (by omega), Int.emod_lt_of_pos x hm⟩
  have hdiv : ∀ x : Int, 0 ≤ x → 0 ≤ x / m := fun x h => Int.ediv_nonneg h (by omega)
  have fin : ∀ r a' b' s' x ρ, 0 ≤ r → r < m → 0 ≤ a' → 0 ≤ b' → K (.int r) (outs [0] 2 (.dt (.lst .ow [.lst .fr (cs.map D.int), .int a', .int b', .int s']) :: x :: ρ)) := fun r a' b' s' x ρ h1 h2 h3 h4 => by
    rw [outs_02 (by simp)]
    exact hK _ _ h1 h2 ⟨cs, a', b', s', rfl, h3, h4⟩
  unfold d_law_take d_law_take_s1 d_law_take_s2 d_law_take_s3 d_law_take_s4 box
  by_cases h : b = 0 ∧ a < cs.length
  · obtain ⟨h1, h2⟩ := h
    obtain ⟨c, e⟩ := atI_ints ha h2
    subst h1
    by_cases h3 : 1000000000000000000 ≤ c
    · by_cases h4 : 1000000000000000000 < c
      · simp [post_seq, frm, h2, e, h3, h4, hm, hm2]
        refine fin _ _ _ _ _ _ (hmod _).1 (hmod _).2 ?_ (hdiv _ ?_) <;> omega
      · simp [post_seq, frm, h2, e, h3, h4, hm, hm2]
        refine fin _ _ _ _ _ _ (hmod _).1 (hmod _).2 ?_ ?_ <;> omega
    · simp [post_seq, frm, h2, e, h3, hm, hm2]
      refine fin _ _ _ _ _ _ (hmod _).1 (hmod _).2 ?_ ?_ <;> omega
  · by_cases h4 : 0 < b
    · have h5 : ¬ b = 0 := by omega
      simp [post_seq, frm, h4, h5, hm, hm2]
      refine fin _ _ _ _ _ _ (hmod _).1 (hmod _).2 ?_ (hdiv _ ?_) <;> omega
    · have h5 : b = 0 := by omega
      have h6 : ¬ a < cs.length := fun z => h ⟨h5, z⟩
      subst h5
      simp [post_seq, frm, h6, hm, hm2]
      refine fin _ _ _ _ _ _ (hmod _).1 (hmod _).2 ?_ ?_ <;> omega
end Lw
namespace Lw
open Cs
open PySem (Str)
abbrev abc : Str := "abcdefghijklmnopqrstuvwxyz"
/-- a name as the document wants it -/
def goodN (z : Str) : Bool := decide (1 ≤ z.length) && decide (z.length ≤ 12) && z.cps.toList.all fun c => decide (c ∈ abc.cps.toList)
def Icn (z : Str) (k : Nat) (ρ : En) : Prop := (∃ x, ρ = [.dt (.str z), x]) ∧ ∀ (j : Nat) c, j < k → z.cps.toList[j]? = some c → c ∈ abc.cps.toList
theorem good_of {z : Str} (h1 : 1 ≤ z.length) (h2 : z.length ≤ 12) (h : ∀ (j : Nat) c, j < z.length → z.cps.toList[j]? = some c → c ∈ abc.cps.toList) : goodN z = true := by
  unfold goodN
  simp only [h1, h2, decide_true, Bool.true_and, List.all_eq_true]
  intro c hc
  obtain ⟨j, hj⟩ := List.getElem?_of_mem hc
  have hl : j < z.length := by
    have := (List.getElem?_eq_some_iff.mp hj).1
    simpa [Str.length] using this
  exact decide_eq_true (h j c hl hj)
theorem bad_of {z : Str} {j c : Nat} (hj : z.cps.toList[j]? = some c) (h : c ∉ abc.cps.toList) : goodN z = false := by
  unfold goodN
  have : (z.cps.toList.all fun c => decide (c ∈ abc.cps.toList)) = false := by
    rw [Bool.eq_false_iff]
    intro z
    exact h (of_decide_eq_true (List.all_eq_true.mp z c (List.mem_of_getElem? hj)))
  rw [this, Bool.and_false]
theorem check_name_w {z : Str} {K : D → En → Prop} {E : XK0} (hz : z.length ≤ lim) (h1 : goodN z = true → K .non [.un]) (h2 : goodN z = false → E "InvalidName" ["name"] [.str z] [.un]) : resW (m_check_name [.str z]) K E := by
  rw [m_check_name_def]
  refine resW_run rfl ?_
  unfold d_check_name
  by_cases ha : 1 ≤ z.length
  · by_cases hb : z.length ≤ 12
    · have ha' : (1 : Int) ≤ (z.length : Int) := by omega
      have hb' : (z.length : Int) ≤ 12 := by omega
      simp [post_seq, frm, hz, ha', hb']
      refine for_inv (Icn z) ⟨⟨_, rfl⟩, fun j c hj => by omega⟩ ?_ ?_
      · rintro k d ρ hk ⟨⟨x, rfl⟩, hi⟩
        obtain ⟨c, hc, rfl⟩ := signs_get hk
        unfold d_check_name_b3
        by_cases hq : c ∈ abc.cps.toList
        · simp [hq]
          refine ⟨⟨_, rfl⟩, fun j c' hj hc' => ?_⟩
          rcases Nat.lt_or_ge j k with q | q
          · exact hi j c' q hc'
          · have : j = k := by omega
            subst this
            rw [hc] at hc'
            cases hc'
            exact hq
        · simp [hq]
          exact h2 (bad_of hc hq)
      · rintro ρ ⟨⟨x, rfl⟩, hi⟩
        rw [signs_len] at hi
        simp
        exact h1 (good_of ha hb hi)
    · have ha' : (1 : Int) ≤ (z.length : Int) := by omega
      have hb' : ¬ (z.length : Int) ≤ 12 := by omega
      simp [post_seq, frm, hz, ha', hb']
      exact h2 (by unfold goodN; simp [hb])
  · have ha' : ¬ (1 : Int) ≤ (z.length : Int) := by omega
    simp [post_seq, frm, hz, ha']
    exact h2 (by unfold goodN; simp [ha])
end Lw
namespace Lw
open Cs
open PySem (Str)
/-- data without cells -/
structure Stb (xs : List D) : Prop where
  m : ∀ g, mapFs g xs = xs
  a : ∀ p, allFs p xs = true
theorem stb_strs {zs : List Str} : Stb (zs.map D.str) := ⟨fun _ => mapFs_strs, fun _ => allFs_strs⟩
theorem stb_pr2 {zs : List (Str × Str)} : Stb (zs.map pr2) := ⟨fun _ => mapFs_pr2, fun _ => allFs_pr2⟩
/-- a list or a tuple of xs -/
def SeqD (d : D) (xs : List D) : Prop := (∃ o, d = .lst o xs) ∨ d = .tup xs
section
variable {d : D} {xs : List D}
theorem SeqD.lend (h : SeqD d xs) (st : Stb xs) : SeqD (mapF flLend d) xs := by
  rcases h with ⟨o, rfl⟩ | rfl
  · exact .inl ⟨flLend o, by rw [mapF_l, st.m]⟩
  · exact .inr (by rw [mapF_t, st.m])
theorem SeqD.len (h : SeqD d xs) : pLen d = .sc (.int xs.length) := by
  rcases h with ⟨o, rfl⟩ | rfl <;> rfl
theorem SeqD.items (h : SeqD d xs) (st : Stb xs) : itemsOf (mapF flFrz (mapF flLend d)) = some xs := by
  rcases h with ⟨o, rfl⟩ | rfl
  · rw [mapF_l, mapF_l, st.m, st.m]; rfl
  · rw [mapF_t, mapF_t, st.m, st.m]; rfl
theorem SeqD.noOw (h : SeqD d xs) (st : Stb xs) : allF noOw (mapF flLend d) = true := by
  rcases h with ⟨o, rfl⟩ | rfl
  · rw [mapF_l, allF_l, st.m, st.a]; cases o <;> rfl
  · rw [mapF_t, allF_t, st.m, st.a]
theorem SeqD.tup (h : SeqD d xs) (st : Stb xs) : pTuple d = .nt xs ∨ pTuple d = .sc (.tup xs) := by
  rcases h with ⟨o, rfl⟩ | rfl
  · left; rw [pTuple_l, if_pos (st.a _)]
  · right; rw [pTuple_t, if_pos (st.a _)]
theorem SeqD.notIn {z : Str} {zs : List Str} (h : SeqD d (zs.map D.str)) : pNotIn (.str z) d = .sc (.bl (!decide (z ∈ zs))) := by
  rcases h with ⟨o, rfl⟩ | rfl
  · exact pNotIn_ls
  · exact pNotIn_ts
end
theorem getE_map {α β : Type} {f : α → β} {xs : List α} {k : Nat} {y : β} (h : (xs.map f)[k]? = some y) : ∃ hk : k < xs.length, y = f xs[k] := by
  rw [List.getElem?_map] at h
  rcases Nat.lt_or_ge k xs.length with q | q
  · rw [List.getElem?_eq_getElem q] at h
    exact ⟨q, (Option.some.inj h).symm⟩
  · rw [List.getElem?_eq_none q] at h; cases h
def firstBad (seen : List Str) : List Str → Option (Str × Str)
  | [] => none
  | z :: zs => if goodN z = false then some ("InvalidName", z) else if z ∈ seen then some ("DuplicateMake", z) else firstBad (seen ++ [z]) zs
def Icm (d : D) (zs : List Str) (k : Nat) (ρ : En) : Prop := (∃ x, ρ = [.dt (mapF flLend d), .dt (.lst .ow ((zs.take k).map D.str)), x] ∧ (x = .un ∨ ∃ z, x = .dt (.str z))) ∧ firstBad [] zs = firstBad (zs.take k) (zs.drop k)
theorem check_makes_w {d : D} {zs : List Str} {K : D → En → Prop} {E : XK0} (hd : SeqD d (zs.map D.str)) (hl : ∀ z ∈ zs, z.length ≤ lim) (hb : allF noBo d = true ∨ True)
    (h1 : zs.length ≤ 12 → firstBad [] zs = none → K .non [.un]) (h2 : 12 < zs.length → E "Full" ["most"] [.int 12] [.un])
    (h3 : ∀ c z, zs.length ≤ 12 → firstBad [] zs = some (c, z) → E c ["name"] [.str z] [.un]) : resW (m_check_makes [d]) K E := by
  rw [m_check_makes_def]
  refine resW_run rfl ?_
  unfold d_check_makes
  by_cases hn : 12 < zs.length
  · have hn' : (12 : Int) < (zs.length : Int) := by omega
    simp [post_seq, frm, hd.len, hn', hn]
    exact h2 hn
  · have hn' : ¬ (12 : Int) < (zs.length : Int) := by omega
    simp [post_seq, frm, hd.len, hn', hn, lim, hd.items stb_strs, hd.noOw stb_strs]
    refine for_inv (Icm d zs) ⟨⟨.un, by simp, .inl rfl⟩, by simp⟩ ?_ ?_
    · rintro k dd ρ hk ⟨⟨x, rfl, hx⟩, hi⟩
      obtain ⟨hk1, rfl⟩ := getE_map hk
      have hz := hl _ (List.getElem_mem hk1)
      have hdr : zs.drop k = zs[k] :: zs.drop (k + 1) := List.drop_eq_getElem_cons hk1
      have htk : zs.take (k + 1) = zs.take k ++ [zs[k]] := (List.take_append_getElem hk1).symm
      have hlt : (zs.take k).length ≤ 12 := by rw [List.length_take]; omega
      generalize hzk : zs[k] = z at *
      generalize htt : zs.take k = sn at *
      rw [hdr, firstBad] at hi
      unfold d_check_makes_b4
      simp [post_seq]
      refine check_name_w hz (fun hg => ?_) (fun hg => ?_)
      · rw [if_neg (by rw [hg]; simp)] at hi
        by_cases hm : z ∈ sn
        · rw [if_pos hm] at hi
          simp [hm, noBoAt]
          exact h3 _ _ (by omega) hi
        · rw [if_neg hm] at hi
          simp [hm, noBoAt, lim]
          refine ⟨by omega, ⟨.dt (.str z), ?_, .inr ⟨_, rfl⟩⟩, ?_⟩
          · rw [htk, List.map_append]; rfl
          · rw [htk]; exact hi
      · rw [if_pos hg] at hi
        simp [noBoAt]
        exact h3 _ _ (by omega) hi
    · rintro ρ ⟨⟨x, rfl, hx⟩, hi⟩
      have hi : firstBad [] zs = none := by
        rw [hi, List.length_map, List.drop_length]
        rfl
      rcases hx with rfl | ⟨z, rfl⟩
      · simp [noBoAt, flwOk]
        exact h1 (by omega) hi
      · simp [noBoAt, flwOk]
        exact h1 (by omega) hi
/-- a make that is not known -/
def firstUnk (zs : List Str) : List Str → Option Str
  | [] => none
  | n :: ns => if n ∈ zs then firstUnk zs ns else some n
theorem check_known_w {d : D} {zs : List Str} {a b : Str} {K : D → En → Prop} {E : XK0} (hd : SeqD d (zs.map D.str))
    (h1 : a ∈ zs → b ∈ zs → K .non [.un, .un]) (h2 : ∀ n, firstUnk zs [a, b] = some n → E "UnknownMake" ["name"] [.str n] [.un, .un]) : resW (m_check_known [d, .tup [.str a, .str b]]) K E := by
  rw [m_check_known_def]
  refine resW_run rfl ?_
  unfold d_check_known
  simp [frm, post_forL_cons, post_forL_nil, d_check_known_b1, hd.notIn]
  by_cases ha : a ∈ zs
  · by_cases hb : b ∈ zs
    · simp [ha, hb]
      exact h1 ha hb
    · simp [ha, hb]
      exact h2 b (by simp [firstUnk, ha, hb])
  · simp [ha]
    exact h2 a (by simp [firstUnk, ha])
def flatP : List (Str × Str) → List Str
  | [] => []
  | p :: ps => p.1 :: p.2 :: flatP ps
def Icp (d e : D) (zs : List Str) (ps : List (Str × Str)) (k : Nat) (ρ : En) : Prop := (∃ x y, ρ = [.dt d, .dt (mapF flLend e), x, y] ∧ noBoAt [2, 1002, 3, 1003] ρ = true) ∧ (∀ p ∈ ps.take k, p.1 ∈ zs ∧ p.2 ∈ zs) ∧ firstUnk zs (flatP ps) = firstUnk zs (flatP (ps.drop k))
theorem check_pairs_w {d e : D} {zs : List Str} {ps : List (Str × Str)} {K : D → En → Prop} {E : XK0} (hd : SeqD d (zs.map D.str)) (he : SeqD e (ps.map pr2))
    (h1 : (∀ p ∈ ps, p.1 ∈ zs ∧ p.2 ∈ zs) → K .non [.un, .un]) (h2 : ∀ n, firstUnk zs (flatP ps) = some n → E "UnknownMake" ["name"] [.str n] [.un, .un]) : resW (m_check_pairs [d, e]) K E := by
  rw [m_check_pairs_def]
  refine resW_run rfl ?_
  unfold d_check_pairs
  simp [frm, he.items stb_pr2, he.noOw stb_pr2]
  refine for_inv (Icp d e zs ps) ?_ ?_ ?_
  · exact ⟨⟨.un, .un, rfl, rfl⟩, by simp, by simp⟩
  · rintro k dd ρ hk ⟨⟨x, y, rfl, hn⟩, hall, hi⟩
    obtain ⟨hk1, rfl⟩ := getE_map hk
    have hdr : ps.drop k = ps[k] :: ps.drop (k + 1) := List.drop_eq_getElem_cons hk1
    have htk : ps.take (k + 1) = ps.take k ++ [ps[k]] := (List.take_append_getElem hk1).symm
    generalize hzk : ps[k] = z at *
    rw [hdr, flatP, firstUnk, firstUnk] at hi
    unfold d_check_pairs_b1
    simp [lim]
    refine check_known_w (hd.lend stb_strs) (fun ha hb => ?_) (fun n hn => ?_)
    · rw [if_pos ha, if_pos hb] at hi
      refine ⟨⟨_, _, rfl, by simp [noBoAt]⟩, ?_, hi⟩
      intro p hp
      rw [htk] at hp
      rcases List.mem_append.mp hp with q | q
      · exact hall _ q
      · rw [List.mem_singleton.mp q]; exact ⟨ha, hb⟩
    · simp [noBoAt]
      refine h2 n ?_
      rw [hi]
      unfold firstUnk at hn
      by_cases ha : z.1 ∈ zs
      · rw [if_pos ha] at hn ⊢
        unfold firstUnk at hn
        by_cases hb : z.2 ∈ zs
        · rw [if_pos hb] at hn
          cases hn
        · rw [if_neg hb] at hn ⊢
          exact hn
      · rw [if_neg ha] at hn ⊢
        exact hn
  · rintro ρ ⟨⟨x, y, rfl, hn⟩, hall, hi⟩
    rw [List.length_map, List.take_length] at hall
    simp [hn, flwOk]
    exact h1 hall
end Lw
namespace Lw
open Cs
open PySem (Str)
/-! rows of bits -/
def BitsOf (r : Int) (P : Nat → Bool) : Prop := ∃ m : Nat, r = (m : Int) ∧ ∀ j, m.testBit j = P j
theorem bitNot2 (x : Int) : PySem.Builtin.bitNot (PySem.Builtin.bitNot x) = x := by
  unfold PySem.Builtin.bitNot
  omega
theorem bitNot_neg (a : Nat) : decide (0 ≤ PySem.Builtin.bitNot (a : Int)) = false := by
  unfold PySem.Builtin.bitNot
  rw [decide_eq_false_iff_not]
  omega
theorem bitOr_nat (a b : Nat) : PySem.Builtin.bitOr (a : Int) (b : Int) = ((a ||| b : Nat) : Int) := by
  unfold PySem.Builtin.bitOr PySem.Builtin.bitAnd
  rw [bitNot_neg, bitNot_neg]
  dsimp only
  rw [bitNot2, bitNot2, bitNot2]
  rfl
theorem bitAnd_one (a : Nat) : PySem.Builtin.bitAnd (a : Int) 1 = ((a % 2 : Nat) : Int) := by
  unfold PySem.Builtin.bitAnd
  have h : decide (0 ≤ (a : Int)) = true := by simp
  rw [h]
  show (((a : Int).toNat &&& 1 : Nat) : Int) = _
  rw [Int.toNat_natCast, Nat.and_one_is_mod]
theorem BitsOf.bor {r q : Int} {P S : Nat → Bool} (h : BitsOf r P) (g : BitsOf q S) : BitsOf (PySem.Builtin.bitOr r q) (fun j => P j || S j) := by
  obtain ⟨a, rfl, ha⟩ := h
  obtain ⟨b, rfl, hb⟩ := g
  exact ⟨a ||| b, bitOr_nat a b, fun j => by rw [Nat.testBit_or, ha, hb]⟩
theorem BitsOf.bit {j : Nat} : BitsOf (1 * 2 ^ j) (fun i => decide (j = i)) := ⟨2 ^ j, by simp, fun i => by rw [Nat.testBit_two_pow]⟩
theorem BitsOf.test {r : Int} {P : Nat → Bool} (h : BitsOf r P) (j : Nat) : (PySem.Builtin.bitAnd (r / 2 ^ j) 1 == 1) = P j := by
  obtain ⟨a, rfl, ha⟩ := h
  have e : (a : Int) / 2 ^ j = ((a / 2 ^ j : Nat) : Int) := by simp
  rw [e, bitAnd_one, ← ha j, Nat.testBit_eq_decide_div_mod_eq]
  by_cases q : a / 2 ^ j % 2 = 1
  · rw [q]; rfl
  · have : a / 2 ^ j % 2 = 0 := by omega
    rw [this]; rfl
def IsRows (rows : List Int) (n : Nat) (R : Nat → Nat → Bool) : Prop := rows.length = n ∧ ∀ (i : Nat) r, rows[i]? = some r → BitsOf r (R i)
/-- one step of Warshall's way -/
def stp (R : Nat → Nat → Bool) (m : Nat) : Nat → Nat → Bool := fun a b => R a b || (R a m && R m b)
def warsh (n : Nat) (R : Nat → Nat → Bool) : Nat → Nat → Bool := (List.range n).foldl stp R
theorem warsh_succ {n : Nat} {R : Nat → Nat → Bool} : (List.range (n + 1)).foldl stp R = stp ((List.range n).foldl stp R) n := by
  rw [List.range_succ, List.foldl_append]
  rfl
def prt (R : Nat → Nat → Bool) (m k : Nat) : Nat → Nat → Bool := fun a b => if a < k then stp R m a b else R a b
theorem getE_int {rows : List Int} {k : Nat} (hk : k < rows.length) : L2.atI (rows.map D.int) (k : Int) = some (.int rows[k]) := by
  rw [atI_n, List.getElem?_map, List.getElem?_eq_getElem hk]
  rfl
def Icr (d : D) (n : Nat) (R : Nat → Nat → Bool) (k : Nat) (ρ : En) : Prop := ∃ rows x2 x3 x4, ρ = [.dt d, .dt (L1 .ow rows), x2, x3, x4] ∧ IsRows rows n ((List.range k).foldl stp R)
def Icr2 (d : D) (n m : Nat) (t : Int) (S : Nat → Nat → Bool) (k : Nat) (ρ : En) : Prop := ∃ rows x4, ρ = [.dt d, .dt (L1 .ow rows), .dt (.int m), .dt (.int t), x4] ∧ IsRows rows n (prt S m k)
theorem IsRows.set {rows : List Int} {n k : Nat} {R S : Nat → Nat → Bool} {r : Int} (h : IsRows rows n R) (hr : BitsOf r (S k)) (hs : ∀ i, i ≠ k → S i = R i) : IsRows (rows.set k r) n S := by
  refine ⟨by rw [List.length_set]; exact h.1, fun i q e => ?_⟩
  by_cases z : i = k
  · subst z
    rw [List.getElem?_set] at e
    split at e
    · split at e
      · cases e; exact hr
      · cases e
    · rename_i w; exact absurd rfl w
  · rw [List.getElem?_set_ne (fun w => z w.symm)] at e
    rw [hs i z]
    exact h.2 i q e
theorem IsRows.congr {rows : List Int} {n : Nat} {R S : Nat → Nat → Bool} (h : IsRows rows n R) (hs : ∀ i, i < n → S i = R i) : IsRows rows n S := by
  refine ⟨h.1, fun i q e => ?_⟩
  have hi : i < n := by rw [← h.1]; exact (List.getElem?_eq_some_iff.mp e).1
  rw [hs i hi]
  exact h.2 i q e
theorem closed_rows_w {o : Fl} {rows : List Int} {n : Nat} {R : Nat → Nat → Bool} {K : D → En → Prop} {E : XK0} (hn : n ≤ 1000) (h : IsRows rows n R) (h1 : ∀ rows', IsRows rows' n (warsh n R) → K (L1 .ow rows') [.un]) : resW (m_closed_rows [L1 o rows]) K E := by
  rw [m_closed_rows_def]
  refine resW_run rfl ?_
  unfold d_closed_rows
  have hl := h.1
  simp [post_seq, frm]
  refine ⟨by omega, for_inv (Icr (L1 o rows) n R) ⟨rows, _, _, _, rfl, h⟩ ?_ ?_⟩
  · rintro m d ρ hm ⟨rs, x2, x3, x4, rfl, hr⟩
    obtain ⟨hm1, rfl⟩ := rng_get hm
    have hrl := hr.1
    have hm2 : m < rs.length := by omega
    unfold d_closed_rows_b2
    have e := getE_int hm2
    simp [post_seq, e]
    refine ⟨by omega, for_inv (Icr2 (L1 o rows) n m rs[m] ((List.range m).foldl stp R)) ⟨rs, _, rfl, hr.congr fun i hi => by funext b; simp [prt]⟩ ?_ ?_⟩
    · rintro k d ρ hk ⟨qs, x4, rfl, hq⟩
      obtain ⟨hk1, rfl⟩ := rng_get hk
      have hql := hq.1
      have hk2 : k < qs.length := by omega
      have ek := getE_int hk2
      generalize hS : (List.range m).foldl stp R = S at *
      have hb := hq.2 k qs[k] (List.getElem?_eq_getElem hk2)
      have hthr := hr.2 m rs[m] (List.getElem?_eq_getElem hm2)
      have ht := hb.test m
      have e0 : prt S m k k = S k := by funext b; simp [prt]
      rw [e0] at ht hb
      unfold d_closed_rows_b4
      by_cases hc : S k m = true
      · rw [hc] at ht
        have ht' := eq_of_beq ht
        simp [ek, ht', hk2]
        have es : setAt (.int (k : Int)) (.int (PySem.Builtin.bitOr qs[k] rs[m])) (qs.map D.int) = some ((qs.set k (PySem.Builtin.bitOr qs[k] rs[m])).map D.int) := by
          rw [setAt_n, if_pos (by simp [hk2]), List.map_set]
        simp [es]
        refine ⟨qs.set k (PySem.Builtin.bitOr qs[k] rs[m]), .dt (.int k), by simp [List.map_set], hq.set ?_ fun i hi => ?_⟩
        · have := hb.bor hthr
          have e1 : prt S m (k + 1) k = fun j => S k j || S m j := by
            funext b; simp [prt, stp, hc]
          rw [e1]
          exact this
        · funext b
          have : (i < k + 1) = (i < k) := by apply propext; omega
          simp [prt, this]
      · have hc : S k m = false := by simpa using hc
        rw [hc] at ht
        have ht' : ¬ PySem.Builtin.bitAnd (qs[k] / 2 ^ m) 1 = 1 := fun z => by rw [z] at ht; cases ht
        simp [ek, ht']
        refine ⟨_, _, rfl, hq.congr fun i hi => ?_⟩
        funext b
        by_cases z : i = k
        · subst z; simp [prt, stp, hc]
        · have : (i < k + 1) = (i < k) := by apply propext; omega
          simp [prt, this]
    · rintro ρ ⟨qs, x4, rfl, hq⟩
      simp
      refine ⟨_, _, _, _, rfl, ?_⟩
      rw [warsh_succ]
      refine hq.congr fun i hi => ?_
      funext b
      have : i < rs.length := by omega
      simp [prt, this]
  · rintro ρ ⟨rs, x2, x3, x4, rfl, hr⟩
    simp
    refine h1 rs ?_
    rw [rng_len, hl] at hr
    exact hr
/-! the rows of an order -/
def ixs (n : Nat) : List D := (List.range n).map fun (i : Nat) => .int (i : Int)
def baseR (zs : List Str) (ps : List (Str × Str)) : Nat → Nat → Bool := fun a b => decide (a = b) || ps.any fun p => decide (zs.idxOf p.1 = a) && decide (zs.idxOf p.2 = b)
theorem look_ix {z : Str} : ∀ {zs : List Str} {k : Nat}, z ∈ zs → look z zs ((List.range' k zs.length).map fun (i : Nat) => D.int (i : Int)) = some (.int ((k + zs.idxOf z : Nat) : Int))
  | [], _, h => by cases h
  | y :: zs, k, h => by
    rw [List.length_cons, List.range'_succ, List.map_cons, look]
    by_cases e : z = y
    · subst e
      simp
    · have e' : ¬ (z == y) = true := by simpa using e
      rw [if_neg e', look_ix ((List.mem_cons.mp h).resolve_left e), List.idxOf_cons]
      have e2 : (y == z) = false := by simpa using fun q => e q.symm
      rw [e2]
      simp
      omega
theorem look_ixs {z : Str} {zs : List Str} (h : z ∈ zs) : look z zs (ixs zs.length) = some (.int (zs.idxOf z : Int)) := by
  unfold ixs
  rw [List.range_eq_range']
  have := look_ix (k := 0) h
  simpa using this
def Ipl (zs : List Str) (e : D) (k : Nat) (acc : List Str × List D) (ρ : En) : Prop := acc = (zs.take k, ixs k) ∧ ρ = [.dt (.tup (zs.map D.str)), .dt e, .un, .un, .un, .un, .un, .un]
def Irw (zs : List Str) (e pl : D) (k : Nat) (acc : List D) (ρ : En) : Prop := (∃ rows : List Int, acc = rows.map D.int ∧ rows.length = k ∧ ∀ (i : Nat) r, rows[i]? = some r → BitsOf r (fun b => decide (i = b))) ∧ ρ = [.dt (.tup (zs.map D.str)), .dt e, .un, .un, .dt pl, .un, .un, .un]
def Ipr (zs : List Str) (e : D) (ps : List (Str × Str)) (k : Nat) (ρ : En) : Prop := ∃ rows x2 x6 x7, ρ = [.dt (.tup (zs.map D.str)), .dt (mapF flLend e), x2, .un, .dt (.dct .ow zs (ixs zs.length)), .dt (L1 .ow rows), x6, x7] ∧ IsRows rows zs.length (baseR zs (ps.take k)) ∧ noBoAt [6, 1006, 7, 1007, 2, 1002, 5] ρ = true
theorem ixs_noOw {p : Fl → Bool} {n : Nat} : allFs p (ixs n) = true := by
  unfold ixs
  induction n with
  | zero => rfl
  | succ n ih => rw [List.range_succ, List.map_append, allFs_append, ih]; rfl
theorem rows_of_w {e : D} {zs : List Str} {ps : List (Str × Str)} {K : D → En → Prop} {E : XK0} (he : SeqD e (ps.map pr2)) (hn : zs.length ≤ 1000) (hnd : zs.Nodup) (hps : ∀ p ∈ ps, p.1 ∈ zs ∧ p.2 ∈ zs)
    (h1 : ∀ rows, IsRows rows zs.length (warsh zs.length (baseR zs ps)) → K (.tup (rows.map D.int)) [.un, .un]) : resW (m_rows_of [.tup (zs.map D.str), e]) K E := by
  rw [m_rows_of_def]
  refine resW_run rfl ?_
  unfold d_rows_of
  rw [post_seq]
  simp [d_rows_of_s1, frm, post_dc, noOwAt]
  refine (dc_inv (Ipl zs e) ⟨by simp [ixs], rfl⟩ ?_).mp ?_ (fun _ _ _ _ z => z.elim)
  · rintro k acc d ρ hk ⟨rfl, rfl⟩
    rw [numb_get] at hk
    cases hz : (zs.map D.str)[k]? with
    | none => rw [hz] at hk; cases hk
    | some dd =>
      obtain ⟨hk1, rfl⟩ := getE_map hz
      rw [hz] at hk
      cases hk
      simp [lim]
      refine ⟨by omega, ?_, rfl⟩
      have hnin : zs[k] ∉ zs.take k := fun q => by
        obtain ⟨j, hj⟩ := List.getElem?_of_mem q
        have hj1 : j < (zs.take k).length := (List.getElem?_eq_some_iff.mp hj).1
        rw [List.length_take] at hj1
        rw [List.getElem?_take_of_lt (by omega)] at hj
        obtain ⟨h1, h2⟩ := List.getElem?_eq_some_iff.mp hj
        exact List.pairwise_iff_getElem.mp hnd j k h1 hk1 (by omega) h2
      unfold putD
      rw [if_neg hnin, List.take_append_getElem hk1]
      unfold ixs
      rw [List.range_succ, List.map_append]
      rfl
  · rintro acc ρ ⟨rfl, rfl⟩
    rw [numb_len, List.length_map, List.take_length]
    simp [rst]
    rw [post_seq]
    simp [d_rows_of_s2, post_lc, noOwAt]
    refine ⟨by omega, (lc_inv (Irw zs e (.dct .ow zs (ixs zs.length))) ⟨⟨[], rfl, rfl, by simp⟩, rfl⟩ ?_).mp ?_ (fun _ _ _ _ z => z.elim)⟩
    · rintro k acc d ρ hk ⟨⟨rows, rfl, hl, hb⟩, rfl⟩
      obtain ⟨hk1, rfl⟩ := rng_get hk
      simp [lim]
      refine ⟨by omega, by omega, ⟨rows ++ [1 * 2 ^ k], by simp, by simp [hl], fun i r hr => ?_⟩, rfl⟩
      rcases Nat.lt_or_ge i rows.length with q | q
      · rw [List.getElem?_append_left q] at hr
        exact hb i r hr
      · rw [List.getElem?_append_right q] at hr
        have : i - rows.length = 0 := by
          rcases Nat.eq_zero_or_pos (i - rows.length) with z | z
          · exact z
          · rw [List.getElem?_eq_none (by simp; omega)] at hr; cases hr
        rw [this] at hr
        cases hr
        have : i = k := by omega
        subst this
        exact BitsOf.bit
    · rintro acc ρ ⟨⟨rows, rfl, hl, hb⟩, rfl⟩
      rw [rng_len] at hl
      simp [rst]
      rw [post_seq]
      simp [d_rows_of_s3, he.items stb_pr2, he.noOw stb_pr2]
      refine for_inv (Ipr zs e ps) ⟨rows, _, _, _, rfl, ⟨by simpa using hl, fun i r hr => ?_⟩, by simp [noBoAt]⟩ ?_ ?_
      · have := hb i r hr
        have e1 : baseR zs (ps.take 0) i = fun b => decide (i = b) := by funext b; simp [baseR]
        rw [e1]
        exact this
      · rintro k dd ρ hk ⟨rs, x2, x6, x7, rfl, hr, hnb⟩
        obtain ⟨hk1, rfl⟩ := getE_map hk
        obtain ⟨m1, m2⟩ := hps _ (List.getElem_mem hk1)
        have htk : ps.take (k + 1) = ps.take k ++ [ps[k]] := (List.take_append_getElem hk1).symm
        generalize ps[k] = p at *
        have i1 : zs.idxOf p.1 < rs.length := by rw [hr.1]; exact List.idxOf_lt_length_of_mem m1
        have i2 : zs.idxOf p.2 < zs.length := List.idxOf_lt_length_of_mem m2
        have ea := getE_int i1
        have es : ∀ r : Int, setAt (.int (zs.idxOf p.1 : Int)) (.int r) (rs.map D.int) = some ((rs.set (zs.idxOf p.1) r).map D.int) := fun r => by
          rw [setAt_n, if_pos (by simp [i1]), List.map_set]
        unfold d_rows_of_b3
        simp [post_seq, look_ixs m1, look_ixs m2, ea, es]
        refine ⟨by omega, ?_⟩
        refine ⟨rs.set (zs.idxOf p.1) (PySem.Builtin.bitOr rs[zs.idxOf p.1] (1 * 2 ^ zs.idxOf p.2)), .dt (.int (zs.idxOf p.1 : Int)), .dt (.str p.1), .dt (.str p.2), by simp [List.map_set], hr.set ?_ fun i hi => ?_, by rw [← List.map_set]; simp [noBoAt, -List.map_set]⟩
        · have b1 := (hr.2 _ _ (List.getElem?_eq_getElem i1)).bor (BitsOf.bit (j := zs.idxOf p.2))
          have e1 : baseR zs (ps.take (k + 1)) (zs.idxOf p.1) = fun j => baseR zs (ps.take k) (zs.idxOf p.1) j || decide (zs.idxOf p.2 = j) := by
            funext j
            rw [htk]
            simp [baseR, Bool.or_assoc]
          rw [e1]
          exact b1
        · funext b
          have hi' : ¬ zs.idxOf p.1 = i := fun z => hi z.symm
          rw [htk]
          simp [baseR, hi']
      · rintro ρ ⟨rs, x2, x6, x7, rfl, hr, hnb⟩
        rw [List.length_map, List.take_length] at hr
        simp [hnb, flwOk]
        simp [d_rows_of_s4]
        refine closed_rows_w hn hr fun rows' hr' => ?_
        simp
        exact h1 rows' hr'
end Lw
namespace Lw
open Cs
open PySem (Str)
abbrev ordD (o : Fl) (zs : List Str) (rows : List Int) : D := .obj o "Order" ["names", "rows"] [.tup (zs.map D.str), .tup (rows.map D.int)]
theorem firstBad_none : ∀ {zs sn : List Str}, firstBad sn zs = none → (∀ z ∈ zs, goodN z = true) ∧ zs.Nodup ∧ ∀ z ∈ zs, z ∉ sn
  | [], _, _ => ⟨by simp, .nil, by simp⟩
  | z :: zs, sn, h => by
    unfold firstBad at h
    split at h
    · cases h
    · rename_i hg
      split at h
      · cases h
      · rename_i hm
        obtain ⟨h1, h2, h3⟩ := firstBad_none h
        refine ⟨fun y hy => ?_, List.nodup_cons.mpr ⟨fun q => ?_, h2⟩, fun y hy => ?_⟩
        · rcases List.mem_cons.mp hy with rfl | q
          · simpa using hg
          · exact h1 y q
        · exact h3 z q (List.mem_append.mpr (.inr (List.mem_singleton.mpr rfl)))
        · rcases List.mem_cons.mp hy with rfl | q
          · exact hm
          · exact fun w => h3 y q (List.mem_append.mpr (.inl w))
theorem firstUnk_none {zs : List Str} : ∀ {ps : List (Str × Str)}, (∀ p ∈ ps, p.1 ∈ zs ∧ p.2 ∈ zs) → firstUnk zs (flatP ps) = none
  | [], _ => rfl
  | p :: ps, h => by
    obtain ⟨h1, h2⟩ := h p (by simp)
    rw [flatP, firstUnk, firstUnk, if_pos h1, if_pos h2]
    exact firstUnk_none fun q hq => h q (by simp [hq])
theorem outs_03 {d : D} {x y : Sl} {r : En} (h : allF noBo d = true) : outs [0] 3 (.dt d :: x :: y :: r) = [.dt d, .un, .un] := by
  simp [outs, List.range_succ, h]
theorem ne_nr : ¬ (Str.ofString "names" = Str.ofString "rows") := by decide +kernel
theorem order_w {d e : D} {zs : List Str} {ps : List (Str × Str)} {K : D → En → Prop} {E : XK0} (hd : SeqD d (zs.map D.str)) (he : SeqD e (ps.map pr2)) (hl : ∀ z ∈ zs, z.length ≤ lim)
    (h1 : ∀ rows, zs.length ≤ 12 → firstBad [] zs = none → (∀ p ∈ ps, p.1 ∈ zs ∧ p.2 ∈ zs) → IsRows rows zs.length (warsh zs.length (baseR zs ps)) → K (ordD .ow zs rows) [.un, .un])
    (h2 : 12 < zs.length → E "Full" ["most"] [.int 12] [.un, .un])
    (h3 : ∀ c z, zs.length ≤ 12 → firstBad [] zs = some (c, z) → E c ["name"] [.str z] [.un, .un])
    (h4 : ∀ n, zs.length ≤ 12 → firstBad [] zs = none → firstUnk zs (flatP ps) = some n → E "UnknownMake" ["name"] [.str n] [.un, .un]) :
    mkW (m_Order___init__ [.obj .ow "Order" [] [], d, e]) K E := by
  rw [m_Order___init___def]
  refine mkW_of (resW_run rfl ?_)
  unfold d_Order___init__
  rw [post_seq]
  simp [d_Order___init___s1, frm]
  refine check_makes_w (hd.lend stb_strs) hl (.inr trivial) (fun hn hb => ?_) (fun hn => ?_) (fun c z hn hb => ?_)
  · rw [post_seq]
    simp [d_Order___init___s2]
    refine check_pairs_w (hd.lend stb_strs) (he.lend stb_pr2) (fun hall => ?_) (fun n hu => ?_)
    · rw [post_seq]
      obtain ⟨hg, hnd, _⟩ := firstBad_none hb
      have key : ∀ o : D, o = .obj .ow "Order" ["names"] [.tup (zs.map D.str)] → Post (flK [0] 3 fun d os => d = .non ∧ ∃ o os', os = .dt o :: os' ∧ K o os') (fun c ks xs ρ => ∃ s os', outs [0] 3 ρ = s :: os' ∧ E c ks xs os') (d_Order___init___s4 [.dt o, .dt d, .dt e]) := by
        rintro o rfl
        simp [d_Order___init___s4, pFld_o, look]
        refine rows_of_w (he.lend stb_pr2) (by omega) hnd hall fun rows hr => ?_
        simp [putL, ne_nr]
        rw [outs_03 (by simp)]
        exact ⟨_, _, rfl, h1 rows hn hb hall hr⟩
      rcases hd.tup stb_strs with q | q
      · simp [d_Order___init___s3, q, putL]
        exact key _ rfl
      · simp [d_Order___init___s3, q, putL]
        exact key _ rfl
    · rw [outs_03 (by simp)]
      exact ⟨_, _, rfl, h4 n hn hb hu⟩
  · rw [outs_03 (by simp)]
    exact ⟨_, _, rfl, h2 hn⟩
  · rw [outs_03 (by simp)]
    exact ⟨_, _, rfl, h3 c z hn hb⟩
end Lw
namespace Lw
open Cs
open PySem (Str)
theorem str_app {a b : Str} : (a ++ b).cps.toList = a.cps.toList ++ b.cps.toList := by
  show (a.cps ++ b.cps).toList = _
  simp
theorem str_len {a b : Str} : (a ++ b).length = a.length + b.length := by
  show (a.cps ++ b.cps).size = _
  simp [Str.length]
theorem str_len2 {a : Str} : a.length = a.cps.toList.length := by simp [Str.length]
def wx (w : Str) : Nat → Str
  | 0 => w
  | j + 1 => wx w j ++ "x"
theorem wx_len {w : Str} : ∀ {j : Nat}, (wx w j).length = w.length + j
  | 0 => rfl
  | j + 1 => by
    rw [wx, str_len, wx_len]
    rfl
theorem nodup_len {α : Type} [BEq α] [LawfulBEq α] : ∀ {l zs : List α}, l.Nodup → (∀ x ∈ l, x ∈ zs) → l.length ≤ zs.length
  | [], _, _, _ => Nat.zero_le _
  | x :: l, zs, hn, h => by
    obtain ⟨h1, h2⟩ := List.nodup_cons.mp hn
    have hx := h x (by simp)
    have := nodup_len (l := l) (zs := zs.erase x) h2 fun y hy => (List.mem_erase_of_ne fun e => h1 (by rw [← e]; exact hy)).mpr (h y (by simp [hy]))
    rw [List.length_erase_of_mem hx] at this
    have hpos : 0 < zs.length := List.length_pos_of_mem hx
    rw [List.length_cons]
    omega
theorem wx_nodup {w : Str} {n : Nat} : ((List.range n).map (wx w)).Nodup := by
  unfold List.Nodup
  rw [List.pairwise_map]
  refine List.Pairwise.imp ?_ (List.nodup_range (n := n))
  intro a b hab e
  have := congrArg Str.length e
  rw [wx_len, wx_len] at this
  omega
/-- letters alone -/
def Lets (z : Str) : Prop := ∀ c ∈ z.cps.toList, c ∈ abc.cps.toList
theorem lets_app {a b : Str} (ha : Lets a) (hb : Lets b) : Lets (a ++ b) := fun c hc => by
  rw [str_app] at hc
  exact (List.mem_append.mp hc).elim (ha c) (hb c)
theorem lets_wx {w : Str} (h : Lets w) : ∀ {j : Nat}, Lets (wx w j)
  | 0 => h
  | j + 1 => lets_app (lets_wx h) (by unfold Lets; decide +kernel)
theorem good_lets {z : Str} (h1 : 1 ≤ z.length) (h2 : z.length ≤ 12) (h : Lets z) : goodN z = true := good_of h1 h2 fun j c _ hc => h c (List.mem_of_getElem? hc)
/-- a name is short or ends with an x -/
def EndX (z : Str) : Prop := z.length ≤ 4 ∨ ∃ w : Str, z = w ++ "x"
theorem wx_end {w : Str} (h : w.length ≤ 4) : ∀ {j : Nat}, EndX (wx w j)
  | 0 => .inl h
  | j + 1 => .inr ⟨wx w j, rfl⟩
theorem EndX.no {z : Str} {c : Nat} {r : List Nat} (h : EndX z) (e : z.cps.toList = r ++ [c]) (hl : 4 ≤ r.length) (hc : c ≠ 120) : False := by
  rcases h with h | ⟨w, rfl⟩
  · rw [str_len2, e] at h
    simp at h
    omega
  · rw [str_app, show (Str.ofString "x").cps.toList = [120] by decide +kernel] at e
    have := congrArg List.getLast? e
    simp at this
    exact hc this.symm
def NameP (zs : List Str) (z : Str) : Prop := 1 ≤ z.length ∧ z.length ≤ 4 + zs.length ∧ Lets z ∧ z ∉ zs ∧ EndX z
def Iln (o : Fl) (zs : List Str) (k : Nat) (ρ : En) : Prop := ∃ d w x, BoxP d ∧ w.length = k ∧ Lets w ∧ ρ = [.dt d, .dt (.lst o (zs.map D.str)), .dt (.str abc), .dt (.str w), x]
def Iln2 (d : D) (o : Fl) (zs : List Str) (w : Str) (k : Nat) (ρ : En) : Prop := ∃ j x, j ≤ k ∧ ((j = k ∧ ∀ i, i < k → wx w i ∈ zs) ∨ wx w j ∉ zs) ∧ ρ = [.dt d, .dt (.lst o (zs.map D.str)), .dt (.str abc), .dt (.str (wx w j)), x]
theorem law_name_w {d : D} {o : Fl} {zs : List Str} {K : D → En → Prop} {E : XK0} (hd : BoxP d) (hn : zs.length ≤ 1000) (hK : ∀ z d', NameP zs z → BoxP d' → K (.str z) [.dt d', .un]) : resW (m_law_name [d, .lst o (zs.map D.str)]) K E := by
  rw [m_law_name_def]
  refine resW_run rfl ?_
  unfold d_law_name
  rw [post_seq]
  simp [d_law_name_s1, frm]
  rw [post_seq]
  simp [d_law_name_s2]
  rw [post_seq]
  simp [d_law_name_s3]
  refine take_w hd (by omega) (by omega) fun r d1 r0 r1 hd1 => ?_
  simp
  have hl0 : Lets "" := by unfold Lets; decide +kernel
  refine ⟨by omega, for_inv (Iln o zs) ⟨d1, "", _, hd1, by decide +kernel, hl0, rfl⟩ ?_ ?_⟩
  · rintro k dd ρ hk ⟨d2, w, x, hd2, hw, hlw, rfl⟩
    obtain ⟨hk1, rfl⟩ := rng_get hk
    unfold d_law_name_b3
    simp
    refine take_w hd2 (by omega) (by omega) fun i d3 i0 i1 hd3 => ?_
    obtain ⟨m, rfl⟩ : ∃ m : Nat, i = (m : Int) := ⟨i.toNat, by omega⟩
    have hm : m < abc.cps.toList.length := by
      have : abc.cps.toList.length = 26 := by decide +kernel
      omega
    obtain ⟨c, e, hc⟩ : ∃ c, L2.atI abc.cps.toList (m : Int) = some c ∧ c ∈ abc.cps.toList := ⟨abc.cps.toList[m], by rw [atI_n, List.getElem?_eq_getElem hm], List.getElem_mem hm⟩
    have hab : abc.length ≤ lim := by decide +kernel
    have hsg : Lets ⟨#[c]⟩ := fun y hy => by
      rw [List.mem_singleton.mp hy]
      exact hc
    have hl1 : (⟨#[c]⟩ : Str).length = 1 := rfl
    simp [e, hab]
    refine ⟨by rw [hl1]; unfold lim; omega, ?_⟩
    exact ⟨d3, w ++ ⟨#[c]⟩, _, hd3, by rw [str_len, hl1, hw], lets_app hlw hsg, rfl⟩
  · rintro ρ ⟨d2, w, x, hd2, hw, hlw, rfl⟩
    simp at hw
    simp
    rw [post_seq]
    simp [d_law_name_s4]
    refine ⟨by omega, for_inv (Iln2 d2 o zs w) ⟨0, _, by omega, .inl ⟨rfl, by omega⟩, rfl⟩ ?_ ?_⟩
    · rintro k dd ρ hk ⟨j, x, hj, hor, rfl⟩
      obtain ⟨hk1, rfl⟩ := rng_get hk
      unfold d_law_name_b5
      by_cases hm : wx w j ∈ zs
      · rcases hor with ⟨rfl, hall⟩ | hno
        · have hlx : (Str.ofString "x").length = 1 := by decide +kernel
          simp [hm, wx_len, hlx]
          refine ⟨by unfold lim; omega, j + 1, _, by omega, .inl ⟨rfl, fun i hi => ?_⟩, rfl⟩
          rcases Nat.lt_or_ge i j with q | q
          · exact hall i q
          · have : i = j := by omega
            subst this; exact hm
        · exact absurd hm hno
      · simp [hm]
        exact ⟨j, _, by omega, .inr hm, rfl⟩
    · rintro ρ ⟨j, x, hj, hor, rfl⟩
      rw [rng_len] at hj hor
      have hj' : j ≤ zs.length := by simpa using hj
      have hno : wx w j ∉ zs := by
        rcases hor with ⟨e, hall⟩ | hno
        · intro hm
          have hsub : ∀ y ∈ (List.range (zs.length + 1)).map (wx w), y ∈ zs := fun y hy => by
            obtain ⟨i, hi, rfl⟩ := List.mem_map.mp hy
            rw [List.mem_range] at hi
            rcases Nat.lt_or_ge i j with q | q
            · exact hall i (by rw [← e]; exact q)
            · have : i = j := by omega
              subst this; exact hm
          have := nodup_len wx_nodup hsub
          simp at this
          omega
        · exact hno
      simp [d_law_name_s5]
      rw [outs_02 hd2.noBo]
      refine hK _ _ ⟨?_, ?_, lets_wx hlw, hno, wx_end (by omega)⟩ hd2
      · rw [wx_len]; omega
      · rw [wx_len]; omega
end Lw
namespace Lw
open Cs
open PySem (Str)
/-- drawn names -/
structure NamesP (zs : List Str) : Prop where
  nd : zs.Nodup
  le : zs.length ≤ 8
  g : ∀ z ∈ zs, goodN z = true
  l : ∀ z ∈ zs, z.length ≤ 12
  x : ∀ z ∈ zs, EndX z
theorem NamesP.lim {zs : List Str} (h : NamesP zs) : ∀ z ∈ zs, z.length ≤ Cs.lim := fun z hz => Nat.le_trans (h.l z hz) (by decide)
theorem good_none : ∀ {zs sn : List Str}, (∀ z ∈ zs, goodN z = true) → zs.Nodup → (∀ z ∈ zs, z ∉ sn) → firstBad sn zs = none
  | [], _, _, _, _ => rfl
  | z :: zs, sn, h1, h2, h3 => by
    obtain ⟨n1, n2⟩ := List.nodup_cons.mp h2
    rw [firstBad, if_neg (by rw [h1 z (by simp)]; simp), if_neg (h3 z (by simp))]
    refine good_none (fun y hy => h1 y (by simp [hy])) n2 fun y hy hm => ?_
    rcases List.mem_append.mp hm with q | q
    · exact h3 y (by simp [hy]) q
    · rw [List.mem_singleton.mp q] at hy
      exact n1 hy
theorem NamesP.none {zs : List Str} (h : NamesP zs) : firstBad [] zs = Option.none := good_none h.g h.nd (by simp)
def Ins (n : Nat) (k : Nat) (ρ : En) : Prop := ∃ (d : D) (zs : List Str) (x : Sl), BoxP d ∧ zs.length = k ∧ NamesP zs ∧ ρ = [.dt d, .dt (.int n), .dt (.lst .ow (zs.map D.str)), x]
theorem NamesP.snoc {zs : List Str} {z : Str} (h : NamesP zs) (hl : zs.length < 8) (hz : NameP zs z) : NamesP (zs ++ [z]) := by
  obtain ⟨h1, h2, h3, h4, h5⟩ := hz
  refine ⟨List.nodup_append.mpr ⟨h.nd, by simp, fun a ha b hb e => ?_⟩, by simp; omega, fun y hy => ?_, fun y hy => ?_, fun y hy => ?_⟩
  · rw [List.mem_singleton.mp hb] at e
    exact h4 (by rw [← e]; exact ha)
  · rcases List.mem_append.mp hy with q | q
    · exact h.g y q
    · rw [List.mem_singleton.mp q]; exact good_lets h1 (by omega) h3
  · rcases List.mem_append.mp hy with q | q
    · exact h.l y q
    · rw [List.mem_singleton.mp q]; omega
  · rcases List.mem_append.mp hy with q | q
    · exact h.x y q
    · rw [List.mem_singleton.mp q]; exact h5
theorem no_z8 {zs : List Str} (h : NamesP zs) : Str.ofString "zzzzzzzz" ∉ zs := fun q => (h.x _ q).no (c := 122) (r := [122, 122, 122, 122, 122, 122, 122]) (by decide +kernel) (by decide) (by decide)
theorem no_y8 {zs : List Str} (h : NamesP zs) : Str.ofString "yyyyyyyy" ∉ zs := fun q => (h.x _ q).no (c := 121) (r := [121, 121, 121, 121, 121, 121, 121]) (by decide +kernel) (by decide) (by decide)
theorem names_w {d : D} {n : Nat} {K : D → En → Prop} {E : XK0} (hd : BoxP d) (hn : n ≤ 8) (hK : ∀ (zs : List Str) d', zs.length = n → NamesP zs → BoxP d' → K (.lst .ow (zs.map D.str)) [.dt d', .un]) : resW (m_law_names [d, .int n]) K E := by
  rw [m_law_names_def]
  refine resW_run rfl ?_
  unfold d_law_names
  simp [post_seq, frm, lim]
  refine ⟨by omega, for_inv (Ins n) ⟨d, [], _, hd, rfl, ⟨.nil, by simp, by simp, by simp, by simp⟩, rfl⟩ ?_ ?_⟩
  · rintro k dd ρ hk ⟨d2, zs, x, hd2, hl, hz, rfl⟩
    obtain ⟨hk1, rfl⟩ := rng_get hk
    unfold d_law_names_b2
    simp
    refine law_name_w hd2 (by omega) fun z d3 hz3 hd3 => ?_
    simp [lim]
    exact ⟨by omega, d3, zs ++ [z], _, hd3, by simp [hl], hz.snoc (by omega) hz3, by simp; rfl⟩
  · rintro ρ ⟨d2, zs, x, hd2, hl, hz, rfl⟩
    simp at hl
    simp
    rw [outs_02 hd2.noBo]
    exact hK zs d2 hl hz hd2
end Lw
namespace Lw
open Cs
open PySem (Str)
/-! drawn pairs of places -/
abbrev ip (q : Nat × Nat) : D := .tup [.int q.1, .int q.2]
theorem allFs_ip {p : Fl → Bool} : ∀ {qs : List (Nat × Nat)}, allFs p (qs.map ip) = true
  | [] => rfl
  | q :: qs => by rw [List.map_cons, allFs, allFs_ip]; rfl
theorem mapFs_ip {g : Fl → Fl} : ∀ {qs : List (Nat × Nat)}, mapFs g (qs.map ip) = qs.map ip
  | [] => by rw [List.map_nil, mapFs]
  | q :: qs => by rw [List.map_cons, mapFs, mapFs_ip, mapF_t, mapFs, mapFs, mapFs, mapF_int, mapF_int]
def QsP (n : Nat) (qs : List (Nat × Nat)) : Prop := ∀ q ∈ qs, q.1 < n ∧ q.2 < n
/-- the pairs by their names -/
def nmd (zs : List Str) (q : Nat × Nat) : Str × Str := (zs.getD q.1 "", zs.getD q.2 "")
theorem at_str {zs : List Str} {i : Nat} (h : i < zs.length) : L2.atI (zs.map D.str) (i : Int) = some (.str (zs.getD i "")) := by
  rw [atI_n, List.getElem?_map, List.getElem?_eq_getElem h, List.getD_eq_getElem?_getD, List.getElem?_eq_getElem h]
  rfl
def nms (zs : List Str) (qs : List (Nat × Nat)) : List (Str × Str) := qs.map (nmd zs)
end Lw
namespace Lw
open Cs
open PySem (Str)
def Idp (n c : Nat) (k : Nat) (ρ : En) : Prop := ∃ (d : D) (qs : List (Nat × Nat)) (x4 x5 : Sl), BoxP d ∧ qs.length = k ∧ QsP n qs ∧ ρ = [.dt d, .dt (.int n), .dt (.int c), .dt (.lst .ow (qs.map ip)), x4, x5]
theorem outs_03b {d : D} {x y : Sl} {r : En} (h : allF noBo d = true) : outs [0] 3 (.dt d :: x :: y :: r) = [.dt d, .un, .un] := outs_03 h
theorem drawn_w {d : D} {n c : Nat} {ni ci : Int} {K : D → En → Prop} {E : XK0} (hd : BoxP d) (hni : (n : Int) = ni) (hci : (c : Int) = ci) (hn : n ≤ 1000) (hc : c ≤ 1000) (hK : ∀ (qs : List (Nat × Nat)) d', qs.length ≤ c → QsP n qs → BoxP d' → K (.lst .ow (qs.map ip)) [.dt d', .un, .un]) : resW (m_law_drawn_pairs [d, .int ni, .int ci]) K E := by
  rw [m_law_drawn_pairs_def]
  refine resW_run rfl ?_
  subst hni hci
  unfold d_law_drawn_pairs
  have hmin : pMin (.int (n : Int)) (.int 1) = .sc (.int ((min n 1 : Nat) : Int)) := by
    unfold pMin
    dsimp only
    by_cases h : (1 : Int) < (n : Int)
    · rw [if_pos h]; congr 2; omega
    · rw [if_neg h]; congr 2; omega
  have hmul : (c : Int) * ((min n 1 : Nat) : Int) = ((c * min n 1 : Nat) : Int) := by simp
  have hle : c * min n 1 ≤ c := by
    rcases Nat.eq_zero_or_pos n with h | h
    · subst h; simp
    · rw [Nat.min_eq_right h]; simp
  have hr1 : (-(2 ^ 64) < (c : Int) ∧ (c : Int) < 2 ^ 64) := by omega
  have hmul2 : pMul (.int (c : Int)) (.int ((min n 1 : Nat) : Int)) = .sc (.int ((c * min n 1 : Nat) : Int)) := by
    rw [pMul_i, if_pos (.inl hr1), hmul]
  simp only [post_seq, frm, post_asg, post_lst, post_nil, List.map, List.replicate, List.append, seqK_nx, post_for, post_rg1, post_op2vv, post_cp, post_ret]
  simp [lim, hmin, hmul2]
  refine ⟨by omega, for_inv (Idp n c) ⟨d, [], _, _, hd, rfl, by simp [QsP], rfl⟩ ?_ ?_⟩
  · rintro k dd ρ hk ⟨d2, qs, x4, x5, hd2, hl, hq, rfl⟩
    obtain ⟨hk1, rfl⟩ := rng_get hk
    have hpos : 0 < n := by
      rcases Nat.eq_zero_or_pos n with h | h
      · subst h; simp at hk1
      · exact h
    unfold d_law_drawn_pairs_b2
    simp [post_seq]
    refine take_w hd2 (by omega) (by omega) fun i d3 i0 i1 hd3 => ?_
    simp
    refine take_w hd3 (by omega) (by omega) fun j d4 j0 j1 hd4 => ?_
    obtain ⟨a, rfl⟩ : ∃ m : Nat, i = (m : Int) := ⟨i.toNat, by omega⟩
    obtain ⟨b, rfl⟩ : ∃ m : Nat, j = (m : Int) := ⟨j.toNat, by omega⟩
    simp [lim]
    refine ⟨by omega, d4, qs ++ [(a, b)], _, _, hd4, by simp [hl], fun q hq' => ?_, by simp; exact ⟨rfl, rfl⟩⟩
    rcases List.mem_append.mp hq' with z | z
    · exact hq q z
    · rw [List.mem_singleton.mp z]; exact ⟨by omega, by omega⟩
  · rintro ρ ⟨d2, qs, x4, x5, hd2, hl, hq, rfl⟩
    rw [rng_len] at hl
    simp
    rw [outs_03 hd2.noBo]
    exact ⟨allFs_ip, hK qs d2 (by omega) hq hd2⟩
end Lw
namespace Lw
open Cs
open PySem (Str)
def Inm (zs : List Str) (qs : List (Nat × Nat)) (o1 o2 : Fl) (k : Nat) (acc : List D) (ρ : En) : Prop := acc = (nms zs (qs.take k)).map pr2 ∧ ρ = [.dt (.lst o1 (zs.map D.str)), .dt (.lst o2 (qs.map ip)), .un]
theorem named_w {o1 o2 : Fl} {zs : List Str} {qs : List (Nat × Nat)} {K : D → En → Prop} {E : XK0} (hq : QsP zs.length qs) (hl : qs.length ≤ 1000) (h : K (.lst .ow ((nms zs qs).map pr2)) [.un, .un]) : resW (m_law_named [.lst o1 (zs.map D.str), .lst o2 (qs.map ip)]) K E := by
  rw [m_law_named_def]
  refine resW_run rfl ?_
  unfold d_law_named
  have hno : noOw (flLend o2) = true := by cases o2 <;> rfl
  simp [frm, mapFs_ip, allFs_ip, hno, post_lc, noOwAt]
  refine (lc_inv (Inm zs qs o1 (flLend o2)) ⟨by simp [nms], rfl⟩ ?_).mp ?_ (fun _ _ _ _ z => z.elim)
  · rintro k acc d ρ hk ⟨rfl, rfl⟩
    obtain ⟨hk1, rfl⟩ := getE_map hk
    obtain ⟨q1, q2⟩ := hq _ (List.getElem_mem hk1)
    have htk : qs.take (k + 1) = qs.take k ++ [qs[k]] := (List.take_append_getElem hk1).symm
    generalize qs[k] = q at *
    simp [at_str q1, at_str q2, lim]
    refine ⟨by simp [nms]; omega, ?_, rfl⟩
    rw [htk]
    simp [nms, nmd]
  · rintro acc ρ ⟨rfl, rfl⟩
    rw [List.length_map, List.take_length]
    simp [rst, noBoAt, flwOk]
    exact h
end Lw
namespace Lw
open Cs
open PySem (Str)
/-! the law's own closure -/
abbrev bls (n : Nat) (P : Nat → Bool) : List D := (List.range n).map fun b => D.bl (P b)
abbrev matL (p : Fl) (n k : Nat) (R : Nat → Nat → Bool) : List D := (List.range k).map fun a => D.lst p (bls n (R a))
abbrev matD (o p : Fl) (n : Nat) (R : Nat → Nat → Bool) : D := .lst o (matL p n n R)
def baseQ (qs : List (Nat × Nat)) : Nat → Nat → Bool := fun a b => decide (a = b) || qs.any fun q => decide (q.1 = a) && decide (q.2 = b)
theorem allFs_bls {p : Fl → Bool} {P : Nat → Bool} : ∀ {n : Nat}, allFs p (bls n P) = true
  | 0 => rfl
  | n + 1 => by
    show allFs p ((List.range (n + 1)).map _) = true
    rw [List.range_succ, List.map_append, allFs_append, allFs_bls]
    rfl
theorem mapFs_bls {g : Fl → Fl} {P : Nat → Bool} : ∀ {n : Nat}, mapFs g (bls n P) = bls n P
  | 0 => by
    show mapFs g [] = []
    rw [mapFs]
  | n + 1 => by
    show mapFs g ((List.range (n + 1)).map _) = (List.range (n + 1)).map _
    rw [List.range_succ, List.map_append, mapFs_append, mapFs_bls]
    simp
theorem mapFs_mat {g : Fl → Fl} {p : Fl} {n : Nat} {R : Nat → Nat → Bool} : ∀ {k : Nat}, mapFs g (matL p n k R) = matL (g p) n k R
  | 0 => by
    show mapFs g [] = []
    rw [mapFs]
  | k + 1 => by
    show mapFs g ((List.range (k + 1)).map _) = (List.range (k + 1)).map _
    rw [List.range_succ, List.map_append, List.map_append, mapFs_append, mapFs_mat, List.map_singleton, List.map_singleton, mapFs_cns, mapFs_nil, mapF_l, mapFs_bls]
theorem allFs_mat {p : Fl → Bool} {q : Fl} {n : Nat} {R : Nat → Nat → Bool} (h : p q = true) : ∀ {k : Nat}, allFs p (matL q n k R) = true
  | 0 => rfl
  | k + 1 => by
    show allFs p ((List.range (k + 1)).map _) = true
    rw [List.range_succ, List.map_append, allFs_append, allFs_mat h, List.map_singleton, allFs_cns, allFs_nil, allF_l, h, allFs_bls]
    rfl
theorem bls_get {n i : Nat} {P : Nat → Bool} (h : i < n) : (bls n P)[i]? = some (.bl (P i)) := by simp [h]
theorem mat_get {p : Fl} {n k i : Nat} {R : Nat → Nat → Bool} (h : i < k) : (matL p n k R)[i]? = some (.lst p (bls n (R i))) := by simp [h]
theorem mat_at {p : Fl} {n k i : Nat} {R : Nat → Nat → Bool} (h : i < k) : L2.atI (matL p n k R) (i : Int) = some (.lst p (bls n (R i))) := by rw [atI_n, mat_get h]
theorem bls_at {n i : Nat} {P : Nat → Bool} (h : i < n) : L2.atI (bls n P) (i : Int) = some (.bl (P i)) := by rw [atI_n, bls_get h]
theorem bls_len {n : Nat} {P : Nat → Bool} : (bls n P).length = n := by simp
theorem mat_len {p : Fl} {n k : Nat} {R : Nat → Nat → Bool} : (matL p n k R).length = k := by simp
theorem mat_congr {p : Fl} {n k : Nat} {R S : Nat → Nat → Bool} (h : ∀ i, i < k → ∀ j, j < n → R i j = S i j) : matL p n k R = matL p n k S := by
  apply List.map_congr_left
  intro i hi
  have hi := List.mem_range.mp hi
  congr 1
  apply List.map_congr_left
  intro j hj
  rw [h i hi j (List.mem_range.mp hj)]
def upR (R : Nat → Nat → Bool) (a b : Nat) : Nat → Nat → Bool := fun i j => R i j || (decide (i = a) && decide (j = b))
theorem mat_set {n a b : Nat} {R : Nat → Nat → Bool} (ha : a < n) (hb : b < n) : setAt2 (.int (a : Int)) (.int (b : Int)) (.bl true) (matL .ow n n R) = some (matL .ow n n (upR R a b)) := by
  unfold setAt2
  rw [inner_n (mat_get ha) allFs_bls]
  dsimp only [Option.bind_some]
  rw [setAt_n, if_pos ⟨by rw [bls_len]; exact hb, allFs_bls, rfl⟩]
  dsimp only [Option.map_some]
  congr 1
  apply List.ext_getElem?
  intro i
  by_cases hi : i < n
  · rw [mat_get hi, List.getElem?_set]
    by_cases e : a = i
    · subst e
      rw [if_pos rfl, if_pos (by rw [mat_len]; exact hi)]
      congr 2
      apply List.ext_getElem?
      intro j
      by_cases hj : j < n
      · rw [bls_get hj, List.getElem?_set]
        by_cases e2 : b = j
        · subst e2
          rw [if_pos rfl, if_pos (by rw [bls_len]; exact hj)]
          simp [upR]
        · rw [if_neg e2, bls_get hj]
          have : ¬ j = b := fun z => e2 z.symm
          simp [upR, this]
      · rw [List.getElem?_eq_none (by rw [List.length_set, bls_len]; omega), List.getElem?_eq_none (by rw [bls_len]; omega)]
    · rw [if_neg e, mat_get hi]
      have : ¬ i = a := fun z => e z.symm
      have e3 : upR R a b i = R i := by funext j; simp [upR, this]
      rw [e3]
  · rw [List.getElem?_eq_none (by rw [List.length_set, mat_len]; omega), List.getElem?_eq_none (by rw [mat_len]; omega)]
theorem mat_in {n a : Nat} {R : Nat → Nat → Bool} (ha : a < n) : inner (.int (a : Int)) (matL .ow n n R) = some (a, bls n (R a)) := inner_n (mat_get ha) allFs_bls
@[simp] theorem post_truv {f : M D} {Q : Bool → En → Prop} {X : XK0} {ρ : En} : Post Q X (dTru (.v f) ρ) = Post (fun d ρ1 => opW (tru d) fun b => Q b ρ1) X (f ρ) := by
  unfold dTru
  rw [post_bnd]
  congr 1
  funext d ρ1
  cases tru d <;> rfl
@[simp] theorem tru_bl {b : Bool} : tru (.bl b) = some b := rfl
end Lw
namespace Lw
open Cs
open PySem (Str)
/-- slots of the closure -/
def Ecl (n : Nat) (e : D) (m : D) (x3 x4 x5 x6 : Sl) : En := [.dt (.int n), .dt e, .dt m, x3, x4, x5, x6]
def Ic1 (n : Nat) (e : D) (k : Nat) (ρ : En) : Prop := ∃ x3, ρ = Ecl n e (.lst .ow (matL .ow n k fun a b => decide (a = b))) x3 .un .un .un
def Ic1b (n k : Nat) (e m : D) (j : Nat) (acc : List D) (ρ : En) : Prop := acc = bls j (fun b => decide (k = b)) ∧ ρ = Ecl n e m (.dt (.int k)) .un .un .un
def Ic2 (n : Nat) (e : D) (qs : List (Nat × Nat)) (x3 : Sl) (k : Nat) (ρ : En) : Prop := ∃ x5, ρ = Ecl n e (matD .ow .ow n (baseQ (qs.take k))) x3 .un x5 .un ∧ noBoAt [5, 1005, 2] ρ = true
def prtQ (S : Nat → Nat → Bool) (m a k : Nat) : Nat → Nat → Bool := fun i j => if i < a then stp S m i j else if i = a then (S i j || (decide (j < k) && (S i m && S m j))) else S i j
def Ic3 (n : Nat) (e : D) (R : Nat → Nat → Bool) (x5 : Sl) (k : Nat) (ρ : En) : Prop := ∃ x3 x4 x6, ρ = Ecl n e (matD .ow .ow n ((List.range k).foldl stp R)) x3 x4 x5 x6
def Ic4 (n : Nat) (e : D) (S : Nat → Nat → Bool) (m : Nat) (x5 : Sl) (a : Nat) (ρ : En) : Prop := ∃ x3 x4, ρ = Ecl n e (matD .ow .ow n (prtQ S m a 0)) x3 x4 x5 (.dt (.int m))
def Ic5 (n : Nat) (e : D) (S : Nat → Nat → Bool) (m a : Nat) (x5 : Sl) (b : Nat) (ρ : En) : Prop := ∃ x4, ρ = Ecl n e (matD .ow .ow n (prtQ S m a b)) (.dt (.int a)) x4 x5 (.dt (.int m))
theorem prtQ_rm {S : Nat → Nat → Bool} {m a k j : Nat} : prtQ S m a k m j = S m j := by
  unfold prtQ stp
  split
  · cases h1 : S m j <;> cases h2 : S m m <;> simp
  · split
    · cases h1 : S m j <;> simp
    · rfl
theorem baseQ_snoc {qs : List (Nat × Nat)} {q : Nat × Nat} : baseQ (qs ++ [q]) = upR (baseQ qs) q.1 q.2 := by
  funext a b
  have e1 : decide (q.1 = a) = decide (a = q.1) := by simp [eq_comm]
  have e2 : decide (q.2 = b) = decide (b = q.2) := by simp [eq_comm]
  simp [baseQ, upR, e1, e2, Bool.or_assoc]
theorem closed_w {e : D} {n : Nat} {o : Fl} {qs : List (Nat × Nat)} {K : D → En → Prop} {E : XK0} (he : e = .lst o (qs.map ip)) (hn : n ≤ 1000) (hq : QsP n qs) (h : K (matD .ow .ow n (warsh n (baseQ qs))) [.un, .un]) : resW (m_law_closed [.int n, e]) K E := by
  generalize hni : (n : Int) = ni
  rw [m_law_closed_def]
  refine resW_run rfl ?_
  subst hni
  unfold d_law_closed
  rw [post_seq]
  simp [d_law_closed_s1, frm, lim]
  rw [post_seq]
  simp [d_law_closed_s2]
  refine ⟨by omega, for_inv (Ic1 n e) ⟨_, rfl⟩ ?_ ?_⟩
  · rintro k d ρ hk ⟨x3, rfl⟩
    obtain ⟨hk1, rfl⟩ := rng_get hk
    unfold d_law_closed_b2 Ecl
    simp [post_lc, noOwAt]
    refine ⟨by omega, (lc_inv (Ic1b n k e (.lst .ow (matL .ow n k fun a b => decide (a = b)))) ⟨rfl, rfl⟩ ?_).mp ?_ (fun _ _ _ _ z => z.elim)⟩
    · rintro j acc d ρ hj ⟨rfl, rfl⟩
      obtain ⟨hj1, rfl⟩ := rng_get hj
      simp [Ecl, lim]
      refine ⟨by omega, ?_, rfl⟩
      have e : ((k : Int) == (j : Int)) = decide (k = j) := by
        by_cases q : k = j
        · subst q; simp
        · have : ¬ (k : Int) = (j : Int) := by omega
          simp [q, this]
      rw [e]
      unfold bls
      rw [List.range_succ, List.map_append]
      rfl
    · rintro acc ρ ⟨rfl, rfl⟩
      simp [rst, Ecl, lim]
      refine ⟨by omega, .dt (.int k), ?_⟩
      unfold Ecl matL
      rw [List.range_succ, List.map_append]
      rfl
  · rintro ρ ⟨x3, rfl⟩
    rw [rng_len]
    simp only [seqK_nx]
    rw [post_seq]
    subst he
    have hno : noOw (flLend o) = true := by cases o <;> rfl
    simp [d_law_closed_s3, Ecl, mapFs_ip, allFs_ip, hno]
    refine for_inv (Ic2 n (.lst (flLend o) (qs.map ip)) qs x3) ⟨.un, ?_, by simp [noBoAt]; exact allFs_mat rfl⟩ ?_ ?_
    · have e0 : baseQ (qs.take 0) = fun a b => decide (a = b) := by funext a b; simp [baseQ]
      rw [e0]
      rfl
    · rintro k d ρ hk ⟨x5, rfl, hnb⟩
      obtain ⟨hk1, rfl⟩ := getE_map hk
      obtain ⟨q1, q2⟩ := hq _ (List.getElem_mem hk1)
      have htk : qs.take (k + 1) = qs.take k ++ [qs[k]] := (List.take_append_getElem hk1).symm
      generalize qs[k] = q at *
      have ein := mat_in (R := baseQ (qs.take k)) q1
      have est := mat_set (R := baseQ (qs.take k)) q1 q2
      unfold d_law_closed_b4 Ecl matD
      simp [ein, est]
      refine ⟨.dt (ip q), ?_, by simp [noBoAt]; exact allFs_mat rfl⟩
      rw [htk, baseQ_snoc]
      rfl
    · rintro ρ ⟨x5, rfl, hnb⟩
      rw [List.length_map, List.take_length] at hnb ⊢
      refine ⟨⟨rfl, hnb⟩, ?_⟩
      simp [Ecl]
      rw [post_seq]
      generalize baseQ qs = R at *
      simp [d_law_closed_s4]
      refine ⟨by omega, for_inv (Ic3 n (.lst o (qs.map ip)) R x5) ⟨_, _, _, rfl⟩ ?_ ?_⟩
      · rintro m d ρ hm ⟨x3, x4, x6, rfl⟩
        obtain ⟨hm1, rfl⟩ := rng_get hm
        generalize hS : (List.range m).foldl stp R = S at *
        unfold d_law_closed_b6 Ecl
        simp
        refine ⟨by omega, for_inv (Ic4 n (.lst o (qs.map ip)) S m x5) ⟨x3, x4, ?_⟩ ?_ ?_⟩
        · have e0 : prtQ S m 0 0 = S := by funext i j; simp [prtQ]
          rw [e0]
          rfl
        · rintro a d ρ ha ⟨x3, x4, rfl⟩
          obtain ⟨ha1, rfl⟩ := rng_get ha
          have er := mat_at (p := .bo) (n := n) (R := prtQ S m a 0) ha1
          have eb := bls_at (P := prtQ S m a 0 a) hm1
          have e1 : prtQ S m a 0 a = S a := by funext j; simp [prtQ]
          rw [e1] at er eb
          unfold d_law_closed_b7 Ecl matD
          simp [mapFs_mat, er, eb, allFs_bls, noBoAt]
          by_cases hc : S a m = true
          · simp [hc]
            refine ⟨by omega, for_inv (Ic5 n (.lst o (qs.map ip)) S m a x5) ⟨_, rfl⟩ ?_ ?_⟩
            · rintro b d ρ hb ⟨x4, rfl⟩
              obtain ⟨hb1, rfl⟩ := rng_get hb
              have er := mat_at (p := .bo) (n := n) (R := prtQ S m a b) hm1
              have e2 : prtQ S m a b m = S m := by funext j; exact prtQ_rm
              rw [e2] at er
              have eb := bls_at (P := S m) hb1
              unfold d_law_closed_b9 Ecl matD
              simp [mapFs_mat, er, eb, allFs_bls, noBoAt]
              have hnext : ∀ i j, prtQ S m a (b + 1) i j = (prtQ S m a b i j || (decide (i = a) && (decide (j = b) && S m b))) := fun i j => by
                unfold prtQ
                by_cases q1 : i < a
                · have : ¬ i = a := by omega
                  simp [q1, this]
                · by_cases q2 : i = a
                  · subst q2
                    by_cases q3 : j = b
                    · subst q3
                      simp [hc]
                    · have : (decide (j < b + 1)) = decide (j < b) := by congr 1; apply propext; omega
                      simp [q3, this]
                  · simp [q1, q2]
              by_cases hb2 : S m b = true
              · have ein := mat_in (R := prtQ S m a b) ha1
                have est := mat_set (R := prtQ S m a b) ha1 hb1
                simp [hb2, ein, est]
                refine ⟨.dt (.int b), ?_⟩
                have : upR (prtQ S m a b) a b = prtQ S m a (b + 1) := by
                  funext i j
                  rw [hnext]
                  simp [upR, hb2]
                rw [this]
                rfl
              · have hb2 : S m b = false := by simpa using hb2
                simp [hb2]
                refine ⟨.dt (.int b), ?_⟩
                have : prtQ S m a b = prtQ S m a (b + 1) := by
                  funext i j
                  rw [hnext]
                  simp [hb2]
                rw [← this]
                rfl
            · rintro ρ ⟨x4, rfl⟩
              rw [rng_len]
              refine ⟨.dt (.int a), x4, ?_⟩
              unfold Ecl matD
              rw [mat_congr (S := prtQ S m (a + 1) 0)]
              · rfl
              intro i hi j hj
              unfold prtQ
              by_cases q1 : i < a
              · have : i < a + 1 := by omega
                simp [q1, this]
              · by_cases q2 : i = a
                · subst q2; simp [stp, hj]
                · have q3 : ¬ i < a + 1 := by omega
                  simp [q1, q2, q3]
          · have hc : S a m = false := by simpa using hc
            simp [hc]
            refine ⟨.dt (.int a), x4, ?_⟩
            have : prtQ S m a 0 = prtQ S m (a + 1) 0 := by
              funext i j
              unfold prtQ
              by_cases q1 : i < a
              · have : i < a + 1 := by omega
                simp [q1, this]
              · by_cases q2 : i = a
                · subst q2; simp [stp, hc]
                · have q3 : ¬ i < a + 1 := by omega
                  simp [q1, q2, q3]
            rw [← this]
            rfl
        · rintro ρ ⟨x3, x4, rfl⟩
          rw [rng_len]
          refine ⟨x3, x4, .dt (.int m), ?_⟩
          rw [warsh_succ, hS]
          unfold Ecl matD
          rw [mat_congr (S := stp S m)]
          · rfl
          intro i hi j hj
          unfold prtQ
          simp [hi]
      · rintro ρ ⟨x3, x4, x6, rfl⟩
        rw [rng_len]
        simp [d_law_closed_s5, Ecl]
        exact ⟨allFs_mat rfl, h⟩
end Lw
namespace Lw
open Cs
open PySem (Str)
theorem idx_getD {zs : List Str} {i : Nat} (hnd : zs.Nodup) (h : i < zs.length) : zs.idxOf (zs.getD i "") = i := by
  rw [List.getD_eq_getElem?_getD, List.getElem?_eq_getElem h]
  exact List.Nodup.idxOf_getElem hnd i h
theorem base_nms {zs : List Str} {qs : List (Nat × Nat)} (hnd : zs.Nodup) (hq : QsP zs.length qs) : baseR zs (nms zs qs) = baseQ qs := by
  funext a b
  unfold baseR baseQ nms
  congr 1
  rw [List.any_map]
  induction qs with
  | nil => rfl
  | cons q qs ih =>
    obtain ⟨h1, h2⟩ := hq q (by simp)
    rw [List.any_cons, List.any_cons, ih fun x hx => hq x (by simp [hx])]
    congr 1
    show (decide (zs.idxOf (zs.getD q.1 "") = a) && decide (zs.idxOf (zs.getD q.2 "") = b)) = _
    rw [idx_getD hnd h1, idx_getD hnd h2]
theorem nms_mem {zs : List Str} {qs : List (Nat × Nat)} (hq : QsP zs.length qs) : ∀ p ∈ nms zs qs, p.1 ∈ zs ∧ p.2 ∈ zs := by
  intro p hp
  obtain ⟨q, hq', rfl⟩ := List.mem_map.mp hp
  obtain ⟨h1, h2⟩ := hq q hq'
  constructor
  · show zs.getD q.1 "" ∈ zs
    rw [List.getD_eq_getElem?_getD, List.getElem?_eq_getElem h1]
    exact List.getElem_mem h1
  · show zs.getD q.2 "" ∈ zs
    rw [List.getD_eq_getElem?_getD, List.getElem?_eq_getElem h2]
    exact List.getElem_mem h2
theorem allStr_map : ∀ {zs : List Str}, allStr (zs.map D.str) = some zs
  | [] => rfl
  | z :: zs => by rw [List.map_cons, allStr, allStr_map]; rfl
theorem ixS_idx {z : Str} : ∀ {zs : List Str}, z ∈ zs → ixS z zs = some (zs.idxOf z)
  | [], h => by cases h
  | y :: zs, h => by
    unfold ixS
    by_cases e : y = z
    · subst e; simp
    · rw [if_neg e, ixS_idx ((List.mem_cons.mp h).resolve_left fun q => e q.symm), List.idxOf_cons]
      have : (y == z) = false := by simpa using e
      rw [this]
      rfl
def tixW (d e : D) (K : D → Prop) : Prop := match d with
  | .tup xs => (match allStr xs, e with
    | some ys, .str z => (match ixS z ys with
      | some j => K (.int (j : Int))
      | none => False)
    | _, _ => False)
  | _ => False
@[simp] theorem post_tix {f g : M D} {Q : D → En → Prop} {X : XK0} {ρ : En} : Post Q X (dTix f g ρ) = Post (fun x ρ1 => tuW x fun xs => Post (fun y ρ2 => tixW (.tup xs) y fun d => Q d ρ2) X (g ρ1)) X (f ρ) := by
  unfold dTix
  rw [post_bnd]
  congr 1
  funext x ρ1
  cases x with
  | tup xs =>
    dsimp only [tuW_t]
    rw [post_bnd]
    congr 1
    funext y ρ2
    unfold tixW
    dsimp only
    cases allStr xs with
    | none => rfl
    | some ys =>
      cases y with
      | str z =>
        dsimp only
        cases ixS z ys <;> rfl
      | _ => rfl
  | _ => rfl
theorem tixW_s {zs : List Str} {z : Str} {K : D → Prop} (h : z ∈ zs) : tixW (.tup (zs.map D.str)) (.str z) K = K (.int (zs.idxOf z : Int)) := by
  unfold tixW
  dsimp only
  rw [allStr_map]
  dsimp only
  rw [ixS_idx h]
/-- an order: its makes and its rows -/
structure OrdP (zs : List Str) (rows : List Int) (R : Nat → Nat → Bool) : Prop where
  r : IsRows rows zs.length R
  nd : zs.Nodup
  le : zs.length ≤ 12
theorem lk_n {o : Fl} {zs : List Str} {rows : List Int} : pFld "Order" "names" (ordD o zs rows) = .sc (.tup (zs.map D.str)) := by
  rw [pFld_o]
  simp [look]
theorem lk_r {o : Fl} {zs : List Str} {rows : List Int} : pFld "Order" "rows" (ordD o zs rows) = .sc (.tup (rows.map D.int)) := by
  rw [pFld_o]
  have : ¬ (Str.ofString "rows" == Str.ofString "names") = true := by decide +kernel
  simp [look, this]
theorem has_w {o : Fl} {zs : List Str} {rows : List Int} {R : Nat → Nat → Bool} {u v : Str} {K : D → En → Prop} {E : XK0} (ho : OrdP zs rows R) (hu : u ∈ zs) (hv : v ∈ zs) (h : K (.bl (R (zs.idxOf u) (zs.idxOf v))) [.un, .un, .un]) : resW (m_Order_has [ordD o zs rows, .str u, .str v]) K E := by
  rw [m_Order_has_def]
  refine resW_run rfl ?_
  unfold d_Order_has
  have i1 : zs.idxOf u < rows.length := by rw [ho.r.1]; exact List.idxOf_lt_length_of_mem hu
  have e1 := getE_int i1
  have ht := (ho.r.2 _ _ (List.getElem?_eq_getElem i1)).test (zs.idxOf v)
  simp [post_seq, frm, lk_n, lk_r, tixW_s hu, tixW_s hv, e1]
  rw [ht]
  exact h
theorem ord_obj {o : Fl} {zs : List Str} {rows : List Int} {m : Str} (h : (m == "names") = false) (h2 : (m == "rows") = false) : isObj "Order" m (ordD o zs rows) = true := by
  unfold isObj
  simp only [List.all_cons, List.all_nil, h, h2]
  rfl
theorem lend_ord {zs : List Str} {rows : List Int} {o : Fl} : mapF flLend (ordD o zs rows) = ordD (flLend o) zs rows := by
  simp
end Lw
namespace Lw
open Cs
open PySem (Str)
/-! the closure, plainly -/
theorem stp_sub {R : Nat → Nat → Bool} {m a b : Nat} (h : R a b = true) : stp R m a b = true := by simp [stp, h]
theorem fold_sub {R : Nat → Nat → Bool} {a b : Nat} (h : R a b = true) : ∀ {m : Nat}, (List.range m).foldl stp R a b = true
  | 0 => h
  | m + 1 => by
    rw [warsh_succ]
    exact stp_sub (fold_sub h)
theorem fold_tr {R : Nat → Nat → Bool} : ∀ {m k i j : Nat}, k < m → (List.range m).foldl stp R i k = true → (List.range m).foldl stp R k j = true → (List.range m).foldl stp R i j = true
  | 0, _, _, _, h, _, _ => by omega
  | m + 1, k, i, j, hk, h1, h2 => by
    rw [warsh_succ] at h1 h2 ⊢
    have ih : ∀ {k i j : Nat}, k < m → (List.range m).foldl stp R i k = true → (List.range m).foldl stp R k j = true → (List.range m).foldl stp R i j = true := fun hk h1 h2 => fold_tr hk h1 h2
    generalize (List.range m).foldl stp R = S at *
    have via : S i m = true → S m j = true → stp S m i j = true := fun x y => by simp [stp, x, y]
    unfold stp at h1 h2
    rcases Nat.lt_or_ge k m with q | q
    · rcases (Bool.or_eq_true _ _ ▸ h1 : S i k = true ∨ (S i m && S m k) = true) with a | a
      · rcases (Bool.or_eq_true _ _ ▸ h2 : S k j = true ∨ (S k m && S m j) = true) with b | b
        · exact stp_sub (ih q a b)
        · have b := Bool.and_eq_true_iff.mp b
          exact via (ih q a b.1) b.2
      · have a := Bool.and_eq_true_iff.mp a
        rcases (Bool.or_eq_true _ _ ▸ h2 : S k j = true ∨ (S k m && S m j) = true) with b | b
        · exact via a.1 (ih q a.2 b)
        · have b := Bool.and_eq_true_iff.mp b
          exact via a.1 b.2
    · have e : k = m := by omega
      subst e
      refine via ?_ ?_
      · rcases (Bool.or_eq_true _ _ ▸ h1 : S i k = true ∨ (S i k && S k k) = true) with a | a
        · exact a
        · exact (Bool.and_eq_true_iff.mp a).1
      · rcases (Bool.or_eq_true _ _ ▸ h2 : S k j = true ∨ (S k k && S k j) = true) with a | a
        · exact a
        · exact (Bool.and_eq_true_iff.mp a).2
theorem fold_least {R Q : Nat → Nat → Bool} {n : Nat} (h : ∀ i, i < n → ∀ j, j < n → R i j = true → Q i j = true) (tr : ∀ i, i < n → ∀ k, k < n → ∀ j, j < n → Q i k = true → Q k j = true → Q i j = true) : ∀ {m : Nat}, m ≤ n → ∀ i, i < n → ∀ j, j < n → (List.range m).foldl stp R i j = true → Q i j = true
  | 0, _, i, hi, j, hj, x => h i hi j hj x
  | m + 1, hm, i, hi, j, hj, x => by
    rw [warsh_succ] at x
    have ih := fold_least h tr (m := m) (by omega)
    unfold stp at x
    rcases (Bool.or_eq_true _ _ ▸ x : _ = true ∨ _ = true) with a | a
    · exact ih i hi j hj a
    · have a := Bool.and_eq_true_iff.mp a
      exact tr i hi m (by omega) j hj (ih i hi m (by omega) a.1) (ih m (by omega) j hj a.2)
/-- a relation on the places below n that is closed -/
structure Clo (n : Nat) (R : Nat → Nat → Bool) : Prop where
  rf : ∀ i, i < n → R i i = true
  tr : ∀ i, i < n → ∀ k, k < n → ∀ j, j < n → R i k = true → R k j = true → R i j = true
theorem warsh_sub {R : Nat → Nat → Bool} {n i j : Nat} (h : R i j = true) : warsh n R i j = true := fold_sub h
theorem warsh_tr {R : Nat → Nat → Bool} {n k i j : Nat} (hk : k < n) (h1 : warsh n R i k = true) (h2 : warsh n R k j = true) : warsh n R i j = true := fold_tr hk h1 h2
theorem warsh_clo {R : Nat → Nat → Bool} {n : Nat} (h : ∀ i, i < n → R i i = true) : Clo n (warsh n R) := ⟨fun i hi => warsh_sub (h i hi), fun _ _ k hk _ _ h1 h2 => warsh_tr hk h1 h2⟩
theorem warsh_least {R Q : Nat → Nat → Bool} {n i j : Nat} (c : Clo n Q) (h : ∀ i, i < n → ∀ j, j < n → R i j = true → Q i j = true) (hi : i < n) (hj : j < n) (x : warsh n R i j = true) : Q i j = true := fold_least h c.tr (Nat.le_refl n) i hi j hj x
theorem bool_iff {a b : Bool} (h1 : a = true → b = true) (h2 : b = true → a = true) : a = b := by cases a <;> cases b <;> simp_all
/-- it is the one that is asked for -/
theorem warsh_is {R Q : Nat → Nat → Bool} {n : Nat} (c : Clo n Q) (h : ∀ i, i < n → ∀ j, j < n → R i j = Q i j) : ∀ i, i < n → ∀ j, j < n → warsh n R i j = Q i j := fun i hi j hj =>
  bool_iff (fun x => warsh_least c (fun i hi j hj y => by rw [← h i hi j hj]; exact y) hi hj x) fun x => warsh_sub (by rw [h i hi j hj]; exact x)
theorem baseQ_rf {qs : List (Nat × Nat)} {i : Nat} : baseQ qs i i = true := by simp [baseQ]
theorem baseR_rf {zs : List Str} {ps : List (Str × Str)} {i : Nat} : baseR zs ps i i = true := by simp [baseR]
end Lw
namespace Lw
open Cs
open PySem (Str)
/-! orders, with all that is wanted of them -/
structure OrdG (zs : List Str) (rows : List Int) (R : Nat → Nat → Bool) : Prop where
  o : OrdP zs rows R
  c : Clo zs.length R
  z : ∀ i j, i < zs.length → zs.length ≤ j → R i j = false
structure GoodZ (zs : List Str) : Prop where
  n : firstBad [] zs = none
  l : ∀ z ∈ zs, z.length ≤ lim
  le : zs.length ≤ 12
theorem GoodZ.nd {zs : List Str} (h : GoodZ zs) : zs.Nodup := (firstBad_none h.n).2.1
theorem fold_out {R : Nat → Nat → Bool} {n : Nat} (h : ∀ i j, i < n → n ≤ j → R i j = false) : ∀ {m : Nat}, m ≤ n → ∀ i j, i < n → n ≤ j → (List.range m).foldl stp R i j = false
  | 0, _, i, j, hi, hj => h i j hi hj
  | m + 1, hm, i, j, hi, hj => by
    rw [warsh_succ]
    have h1 := fold_out h (m := m) (by omega) i j hi hj
    have h2 := fold_out h (m := m) (by omega) m j (by omega) hj
    generalize (List.range m).foldl stp R = S at *
    simp [stp, h1, h2]
theorem base_out {zs : List Str} {ps : List (Str × Str)} (hps : ∀ p ∈ ps, p.1 ∈ zs ∧ p.2 ∈ zs) (i j : Nat) (hi : i < zs.length) (hj : zs.length ≤ j) : baseR zs ps i j = false := by
  unfold baseR
  have e : ¬ i = j := by omega
  simp only [e, decide_false, Bool.false_or]
  rw [List.any_eq_false]
  intro p hp
  have h2 := List.idxOf_lt_length_of_mem (hps p hp).2
  have : ¬ zs.idxOf p.2 = j := by omega
  simp [this]
theorem order_g {d e : D} {zs : List Str} {ps : List (Str × Str)} {K : D → En → Prop} {E : XK0} (hd : SeqD d (zs.map D.str)) (he : SeqD e (ps.map pr2)) (gz : GoodZ zs) (hps : ∀ p ∈ ps, p.1 ∈ zs ∧ p.2 ∈ zs)
    (h1 : ∀ rows, OrdG zs rows (warsh zs.length (baseR zs ps)) → K (ordD .ow zs rows) [.un, .un]) : mkW (m_Order___init__ [.obj .ow "Order" [] [], d, e]) K E := by
  refine order_w hd he gz.l (fun rows h12 _ _ hr => h1 rows ⟨⟨hr, gz.nd, h12⟩, warsh_clo fun _ _ => baseR_rf, fold_out (base_out hps) (Nat.le_refl _)⟩) (fun h => ?_) (fun c z _ h => ?_) (fun n _ _ h => ?_)
  · have := gz.le; omega
  · rw [gz.n] at h; cases h
  · rw [firstUnk_none hps] at h; cases h
end Lw
namespace Lw
open Cs
open PySem (Str)
theorem NamesP.good {zs : List Str} (h : NamesP zs) : GoodZ zs := ⟨h.none, h.lim, by have := h.le; omega⟩
end Lw
namespace Lw
open Cs
open PySem (Str)
/-! TrialList: its data -/
abbrev Row := Int × Str × Str × Str
abbrev rw4 (r : Row) : D := .tup [.int r.1, .str r.2.1, .str r.2.2.1, .str r.2.2.2]
@[simp] theorem allFs_rw4 {p : Fl → Bool} : ∀ {ps : List Row}, allFs p (ps.map rw4) = true
  | [] => rfl
  | z :: zs => by rw [List.map_cons, allFs, allFs_rw4]; rfl
@[simp] theorem mapFs_rw4 {g : Fl → Fl} : ∀ {ps : List Row}, mapFs g (ps.map rw4) = ps.map rw4
  | [] => by rw [List.map_nil, mapFs]
  | z :: zs => by rw [List.map_cons, mapFs, mapFs_rw4, mapF_t]; simp
abbrev tlD (o : Fl) (zs : List Str) (ks : List Row) (g : Int) : D := .obj o "TrialList" ["names", "kept", "given"] [.lst o (zs.map D.str), .lst o (ks.map rw4), .int g]
@[simp] theorem noBoAt_nil {ρ : En} : noBoAt [] ρ = true := by simp [noBoAt]
theorem ne_kn : ¬ (Str.ofString "kept" = Str.ofString "names") := by decide +kernel
theorem ne_gn : ¬ (Str.ofString "given" = Str.ofString "names") := by decide +kernel
theorem ne_gk : ¬ (Str.ofString "given" = Str.ofString "kept") := by decide +kernel
theorem ne_nk : ¬ (Str.ofString "names" = Str.ofString "kept") := by decide +kernel
theorem ne_ng : ¬ (Str.ofString "names" = Str.ofString "given") := by decide +kernel
theorem ne_kg : ¬ (Str.ofString "kept" = Str.ofString "given") := by decide +kernel
theorem tlk_n {o : Fl} {zs : List Str} {ks : List Row} {g : Int} (ho : noOw o = true) : pFld "TrialList" "names" (tlD o zs ks g) = .sc (.lst o (zs.map D.str)) := by
  rw [pFld_o]
  simp [look, ho]
theorem tlk_k {o : Fl} {zs : List Str} {ks : List Row} {g : Int} (ho : noOw o = true) : pFld "TrialList" "kept" (tlD o zs ks g) = .sc (.lst o (ks.map rw4)) := by
  rw [pFld_o]
  simp [look, ho, ne_kn]
theorem tlk_g {o : Fl} {zs : List Str} {ks : List Row} {g : Int} : pFld "TrialList" "given" (tlD o zs ks g) = .sc (.int g) := by
  rw [pFld_o]
  simp [look, ne_gn, ne_gk]
theorem tl_obj {o : Fl} {zs : List Str} {ks : List Row} {g : Int} {m : Str} (h : (m == "names") = false) (h2 : (m == "kept") = false) (h3 : (m == "given") = false) : Cs.isObj "TrialList" m (tlD o zs ks g) = true := by
  unfold Cs.isObj
  simp only [List.all_cons, List.all_nil, h, h2, h3]
  rfl
theorem noOw_lend {o : Fl} : noOw (flLend o) = true := by cases o <;> rfl
theorem lend_tl {o : Fl} {zs : List Str} {ks : List Row} {g : Int} : mapF flLend (tlD o zs ks g) = tlD (flLend o) zs ks g := by
  simp
theorem allFs_cons' {p : Fl → Bool} {d : D} {ds : List D} : allFs p (d :: ds) = (allF p d && allFs p ds) := by rw [allFs]
theorem noBo_tl {zs : List Str} {ks : List Row} {g : Int} : allF noBo (tlD .ow zs ks g) = true := by simp
theorem outs_02 {d : D} {x : Sl} {r : En} (h : allF noBo d = true) : outs [0] 2 (.dt d :: x :: r) = [.dt d, .un] := by
  simp [outs, List.range_succ, h]
theorem outs_04 {d : D} {x y z : Sl} {r : En} (h : allF noBo d = true) : outs [0] 4 (.dt d :: x :: y :: z :: r) = [.dt d, .un, .un, .un] := by
  simp [outs, List.range_succ, h]
@[simp] theorem allFs_snoc {p : Fl → Bool} {d : D} : ∀ {xs : List D}, allFs p (xs ++ [d]) = (allFs p xs && allF p d)
  | [] => by simp [allFs]
  | x :: xs => by rw [List.cons_append, allFs, allFs_snoc, allFs, Bool.and_assoc]
/-- TrialList() -/
theorem tl_new_w {K : D → En → Prop} {E : XK0} (h : K (tlD .ow [] [] 0) []) : mkW (m_TrialList___init__ [.obj .ow "TrialList" [] []]) K E := by
  rw [m_TrialList___init___def]
  refine mkW_of (resW_runS (ds := [.obj .ow "TrialList" [] []]) (rs := []) rfl (by simp) (by simp) ?_)
  unfold d_TrialList___init__
  rw [post_seq]
  simp [d_TrialList___init___s1, frm]
  refine check_makes_w (zs := []) (.inr rfl) (by simp) (.inr trivial) (fun _ _ => ?_) (fun h => by simp at h) (fun c z _ h => by simp [firstBad] at h)
  rw [post_seq]
  simp [d_TrialList___init___s2, setF, putL]
  rw [post_seq]
  simp [d_TrialList___init___s3, setF, putL, ne_kn, ne_nk]
  simp [d_TrialList___init___s4, setF, putL, ne_ng, ne_kg]
  rw [outs_02 (by simp)]
  exact ⟨_, _, rfl, h⟩
theorem tl_add_w {zs : List Str} {ks : List Row} {g : Int} {z : Str} {K : D → En → Prop} {E : XK0} (hz : goodN z = true) (hl : z.length ≤ lim) (hn : z ∉ zs) (h12 : zs.length < 12) (h : K .non [.dt (tlD .ow (zs ++ [z]) ks g), .un]) : resW (m_TrialList_add_make [tlD .ow zs ks g, .str z]) K E := by
  rw [m_TrialList_add_make_def]
  refine resW_run rfl ?_
  unfold d_TrialList_add_make
  rw [post_seq]
  simp [d_TrialList_add_make_s1, frm]
  refine check_name_w hl (fun _ => ?_) (fun q => by rw [hz] at q; cases q)
  rw [post_seq]
  simp [d_TrialList_add_make_s2, tlk_n (o := .bo) rfl, hn]
  rw [post_seq]
  have hlt : ¬ (12 : Int) ≤ (zs.length : Int) := by omega
  generalize hli : (zs.length : Int) = li at *
  simp [d_TrialList_add_make_s3, tlk_n (o := .bo) rfl, hli, hlt]
  simp [d_TrialList_add_make_s4, fldL, appF, fix, lim]
  refine ⟨by omega, ?_⟩
  rw [outs_02 (by simp)]
  simp only [tlD, List.map_append, List.map_cons, List.map_nil] at h
  exact h
theorem pNotIn_words {w : Str} (hw : w = Str.ofString "sits" ∨ w = Str.ofString "refuses") : pNotIn (.str w) (.tup [.str (Str.ofString "sits"), .str (Str.ofString "refuses")]) = .sc (.bl false) := by
  have := pNotIn_ts (z := w) (zs := [Str.ofString "sits", Str.ofString "refuses"])
  rw [List.map_cons, List.map_cons, List.map_nil] at this
  rw [this]
  rcases hw with rfl | rfl <;> simp
theorem tl_check_w {o : Fl} {zs : List Str} {ks : List Row} {g : Int} {w u v : Str} {K : D → En → Prop} {E : XK0} (hw : w = Str.ofString "sits" ∨ w = Str.ofString "refuses") (hu : u ∈ zs) (hv : v ∈ zs) (hk : ks.length < 60) (h : K .non [.un, .un, .un, .un]) : resW (m_TrialList_check_trial [tlD o zs ks g, .str w, .str u, .str v]) K E := by
  rw [m_TrialList_check_trial_def]
  refine resW_run rfl ?_
  unfold d_TrialList_check_trial
  have hlt : ¬ (60 : Int) ≤ (ks.length : Int) := by omega
  rw [post_seq]
  simp [frm, pNotIn_words hw]
  rw [post_seq]
  simp [tlk_n (o := flLend o) noOw_lend, lim, flwOk]
  refine check_known_w (zs := zs) (.inl ⟨_, rfl⟩) (fun _ _ => ?_) (fun n hn => by simp [firstUnk, hu, hv] at hn)
  generalize hli : (ks.length : Int) = li at *
  simp [tlk_k (o := flLend o) noOw_lend, hli, hlt]
  exact h
theorem tl_keep_w {zs : List Str} {ks : List Row} {g : Int} {w u v : Str} {K : D → En → Prop} {E : XK0} (hk : ks.length < 60) (h : K (.int (g + 1)) [.dt (tlD .ow zs (ks ++ [(g + 1, w, u, v)]) (g + 1)), .un, .un, .un]) : resW (m_TrialList_keep [tlD .ow zs ks g, .str w, .str u, .str v]) K E := by
  rw [m_TrialList_keep_def]
  refine resW_run rfl ?_
  unfold d_TrialList_keep
  rw [post_seq]
  simp [frm, augF, look, putL, ne_gn, ne_gk, ne_ng, ne_kg]
  rw [post_seq]
  simp [fldL, appF, fix, ne_kn, ne_nk, lim, tlk_g]
  refine ⟨by omega, ?_⟩
  rw [pFld_o]
  simp [look, ne_gn, ne_gk]
  rw [outs_04 (by simp)]
  simp only [tlD, List.map_append, List.map_cons, List.map_nil] at h
  exact h
theorem tl_note_w {zs : List Str} {ks : List Row} {g : Int} {w u v : Str} {K : D → En → Prop} {E : XK0} (hw : w = Str.ofString "sits" ∨ w = Str.ofString "refuses") (hu : u ∈ zs) (hv : v ∈ zs) (hk : ks.length < 60) (h : K (.int (g + 1)) [.dt (tlD .ow zs (ks ++ [(g + 1, w, u, v)]) (g + 1)), .un, .un, .un]) : resW (m_TrialList_note [tlD .ow zs ks g, .str w, .str u, .str v]) K E := by
  rw [m_TrialList_note_def]
  refine resW_run rfl ?_
  unfold d_TrialList_note
  have ob1 : Cs.isObj "TrialList" "check_trial" (tlD .ow zs ks g) = true := tl_obj (by decide +kernel) (by decide +kernel) (by decide +kernel)
  have ob2 : Cs.isObj "TrialList" "keep" (tlD .ow zs ks g) = true := tl_obj (by decide +kernel) (by decide +kernel) (by decide +kernel)
  rw [post_seq]
  simp [frm, ob1]
  refine tl_check_w hw hu hv hk ?_
  simp [ob2]
  refine tl_keep_w hk ?_
  simp
  rw [outs_04 (by simp)]
  exact h
def Itr (e : D) (n : Int) (ks : List Row) (k : Nat) (ρ : En) : Prop := (∃ x, ρ = [.dt e, .dt (.int n), x] ∧ noBoAt [2, 1002] ρ = true) ∧ ∀ r ∈ ks.take k, r.1 ≠ n
theorem tl_trial_w {o : Fl} {zs : List Str} {ks : List Row} {g n : Int} {K : D → En → Prop} {E : XK0} (hx : ∃ r ∈ ks, r.1 = n) (h : ∀ r ∈ ks, r.1 = n → K (.tup [.str r.2.1, .str r.2.2.1, .str r.2.2.2]) [.un, .un]) : resW (m_TrialList_trial [tlD o zs ks g, .int n]) K E := by
  rw [m_TrialList_trial_def]
  refine resW_run rfl ?_
  unfold d_TrialList_trial
  rw [post_seq]
  simp [frm, tlk_k (o := flLend o) noOw_lend, noOw_lend]
  refine for_inv (Itr (tlD (flLend o) zs ks g) n ks) ⟨⟨.un, rfl, by simp [noBoAt]⟩, by simp⟩ ?_ ?_
  · rintro k d ρ hk ⟨⟨x, rfl, hb⟩, hall⟩
    obtain ⟨hk1, rfl⟩ := getE_map hk
    have htk : ks.take (k + 1) = ks.take k ++ [ks[k]] := (List.take_append_getElem hk1).symm
    have hm := List.getElem_mem hk1
    generalize ks[k] = r at *
    unfold d_TrialList_trial_b1
    by_cases hr : r.1 = n
    · simp [hr, lim, flwOk]
      exact ⟨by simp [noBoAt], h r hm hr⟩
    · simp [hr]
      refine ⟨⟨_, rfl, by simp [noBoAt]⟩, fun r' h' => ?_⟩
      rw [htk] at h'
      rcases List.mem_append.mp h' with q | q
      · exact hall r' q
      · rw [List.mem_singleton.mp q]; exact hr
  · rintro ρ ⟨⟨x, rfl, hb⟩, hall⟩
    rw [List.length_map, List.take_length] at hall
    obtain ⟨r, hr, hn⟩ := hx
    exact absurd hn (hall r hr)
def Ire (A : En) (n : Int) (ks : List Row) (k : Nat) (acc : List D) (ρ : En) : Prop := acc = ((ks.take k).filter fun r => !(r.1 == n)).map rw4 ∧ ρ = A
theorem flt_le {α : Type} {p : α → Bool} {xs : List α} {k : Nat} : ((xs.take k).filter p).length ≤ xs.length := by
  have h1 := List.length_filter_le p (xs.take k)
  rw [List.length_take] at h1
  omega
theorem tl_retract_w {zs : List Str} {ks : List Row} {g n : Int} {K : D → En → Prop} {E : XK0} (hl : ks.length ≤ 1000) (hx : ∃ r ∈ ks, r.1 = n) (h : K .non [.dt (tlD .ow zs (ks.filter fun r => !(r.1 == n)) g), .un]) : resW (m_TrialList_retract [tlD .ow zs ks g, .int n]) K E := by
  rw [m_TrialList_retract_def]
  refine resW_run rfl ?_
  unfold d_TrialList_retract
  have ob1 : Cs.isObj "TrialList" "trial" (tlD .ow zs ks g) = true := tl_obj (by decide +kernel) (by decide +kernel) (by decide +kernel)
  rw [post_seq]
  simp [frm, ob1]
  refine tl_trial_w hx fun r _ _ => ?_
  simp [tlk_k (o := .bo) rfl, post_lc, noOwAt]
  refine (lc_inv (Ire [.dt (tlD .bo zs ks g), .dt (.int n), .un] n ks) ⟨by simp, rfl⟩ ?_).mp ?_ (fun _ _ _ _ z => z.elim)
  · rintro k acc d ρ hk ⟨rfl, rfl⟩
    obtain ⟨hk1, rfl⟩ := getE_map hk
    have htk : ks.take (k + 1) = ks.take k ++ [ks[k]] := (List.take_append_getElem hk1).symm
    have hfl := flt_le (p := fun r : Row => !(r.1 == n)) (xs := ks) (k := k)
    unfold Ire
    rw [htk, List.filter_append]
    generalize ks[k] = q at *
    generalize (ks.take k).filter (fun r : Row => !(r.1 == n)) = fl at *
    by_cases hq : q.1 = n
    · simp [hq]
    · simp [hq, lim]
      omega
  · rintro acc ρ ⟨rfl, rfl⟩
    rw [List.length_map, List.take_length]
    simp [rst, noBoAt, flwOk, setF, putL, ne_nk]
    rw [outs_02 (by simp)]
    exact h
theorem tl_makes_w {o : Fl} {zs : List Str} {ks : List Row} {g : Int} {K : D → En → Prop} {E : XK0} (h : K (.tup (zs.map D.str)) [.un]) : resW (m_TrialList_makes [tlD o zs ks g]) K E := by
  rw [m_TrialList_makes_def]
  refine resW_run rfl ?_
  unfold d_TrialList_makes
  simp [frm, tlk_n (o := flLend o) noOw_lend, lim, flwOk]
  exact h
end Lw
namespace Lw
open Cs
open PySem (Str)
/-! against and admits -/
theorem eqDs_S : ∀ {xs ys : List Str}, eqDs (xs.map D.str) (ys.map D.str) = decide (xs = ys)
  | [], [] => rfl
  | x :: xs, y :: ys => by
    rw [List.map_cons, List.map_cons, eqDs, eqDs_S, eqD_ss]
    by_cases h : x = y
    · subst h; simp
    · simp [h]
  | [], y :: ys => by simp [eqDs]
  | x :: xs, [] => by simp [eqDs]
theorem eqDs_I : ∀ {xs ys : List Int}, eqDs (xs.map D.int) (ys.map D.int) = decide (xs = ys)
  | [], [] => rfl
  | x :: xs, y :: ys => by
    rw [List.map_cons, List.map_cons, eqDs, eqDs_I, eqD_ii]
    by_cases h : x = y
    · subst h; simp
    · simp [h]
  | [], y :: ys => by simp [eqDs]
  | x :: xs, [] => by simp [eqDs]
theorem pNe_tS {xs ys : List Str} : pNe (.tup (xs.map D.str)) (.tup (ys.map D.str)) = .sc (.bl (!decide (xs = ys))) := by
  unfold pNe
  rw [if_pos (by simp), eqD_tt, eqDs_S]
theorem pNe_lS {o p : Fl} {xs ys : List Str} : pNe (.lst o (xs.map D.str)) (.lst p (ys.map D.str)) = .sc (.bl (!decide (xs = ys))) := by
  unfold pNe
  rw [if_pos (by simp), eqD_ll, eqDs_S]
theorem pEq_lI0 {o p : Fl} {xs : List Int} : pEq (.lst o (xs.map D.int)) (.lst p []) = .sc (.bl (decide (xs = []))) := by
  have := eqDs_I (xs := xs) (ys := [])
  unfold pEq
  rw [if_pos (by simp [deps_ints, deps]), eqD_ll]
  rw [List.map_nil] at this
  rw [this]
theorem pNe_b {a b : Bool} : pNe (.bl a) (.bl b) = .sc (.bl (!(a == b))) := by
  unfold pNe
  rw [if_pos (by simp), eqD_bb]
theorem pEq_b {a b : Bool} : pEq (.bl a) (.bl b) = .sc (.bl (a == b)) := by
  unfold pEq
  rw [if_pos (by simp), eqD_bb]
theorem pEq_s {a b : Str} : pEq (.str a) (.str b) = .sc (.bl (a == b)) := by
  unfold pEq
  rw [if_pos (by simp), eqD_ss]
/-- the order disagrees with the trial -/
def disR (zs : List Str) (R : Nat → Nat → Bool) (r : Row) : Bool := !(R (zs.idxOf r.2.2.1) (zs.idxOf r.2.2.2) == (r.2.1 == Str.ofString "sits"))
def agn (zs : List Str) (R : Nat → Nat → Bool) (ks : List Row) : List Int := (ks.filter (disR zs R)).map (·.1)
def Iag (A : En) (zs : List Str) (R : Nat → Nat → Bool) (ks : List Row) (k : Nat) (acc : List D) (ρ : En) : Prop := acc = (agn zs R (ks.take k)).map D.int ∧ ρ = A
theorem tl_against_w {o p : Fl} {zs ys : List Str} {ks : List Row} {g : Int} {rows : List Int} {R : Nat → Nat → Bool} {K : D → En → Prop} {E : XK0} (ho : OrdP ys rows R) (hl : ks.length ≤ 1000) (hks : ∀ r ∈ ks, r.2.2.1 ∈ zs ∧ r.2.2.2 ∈ zs)
    (h : ys = zs → K (.lst .ow ((agn zs R ks).map D.int)) [.un, .un]) (h2 : ys ≠ zs → E "UnlikeMakes" [] [] [.un, .un]) : resW (m_TrialList_against [tlD o zs ks g, ordD p ys rows]) K E := by
  rw [m_TrialList_against_def]
  refine resW_run rfl ?_
  unfold d_TrialList_against
  have ob1 : Cs.isObj "TrialList" "makes" (tlD o zs ks g) = true := tl_obj (by decide +kernel) (by decide +kernel) (by decide +kernel)
  have ob2 : ∀ q, Cs.isObj "Order" "has" (ordD q zs rows) = true := fun q => ord_obj (by decide +kernel) (by decide +kernel)
  rw [post_seq]
  simp [frm, lk_n, post_prop, ob1]
  refine tl_makes_w ?_
  by_cases e : ys = zs
  · subst e
    have h := h rfl
    simp [pNe_tS, tlk_k (o := flLend o) noOw_lend, noOw_lend, post_lc, noOwAt]
    refine (lc_inv (Iag [.dt (tlD (flLend o) ys ks g), .dt (ordD p ys rows), .un] ys R ks) ⟨by simp [agn], rfl⟩ ?_).mp ?_ (fun _ _ _ _ z => z.elim)
    · rintro k acc d ρ hk ⟨rfl, rfl⟩
      obtain ⟨hk1, rfl⟩ := getE_map hk
      have htk : ks.take (k + 1) = ks.take k ++ [ks[k]] := (List.take_append_getElem hk1).symm
      have hfl := flt_le (p := disR ys R) (xs := ks) (k := k)
      obtain ⟨hu, hv⟩ := hks _ (List.getElem_mem hk1)
      unfold Iag agn
      rw [htk, List.filter_append]
      generalize ks[k] = q at *
      generalize (ks.take k).filter (disR ys R) = fl at *
      simp [ob2]
      refine has_w ho hu hv ?_
      have hd : disR ys R q = !(R (ys.idxOf q.2.2.1) (ys.idxOf q.2.2.2) == (q.2.1 == Str.ofString "sits")) := rfl
      generalize R (ys.idxOf q.2.2.1) (ys.idxOf q.2.2.2) = b1 at *
      generalize hb2 : (q.2.1 == Str.ofString "sits") = b2 at *
      simp [pEq_s, pNe_b, hb2, lim]
      cases b1 <;> cases b2 <;> simp at hd <;> simp [hd] <;> omega
    · rintro acc ρ ⟨rfl, rfl⟩
      rw [List.length_map, List.take_length]
      simp [rst, noBoAt, flwOk]
      exact h
  · simp [pNe_tS, e]
    exact h2 e
theorem tl_admits_w {o p : Fl} {zs ys : List Str} {ks : List Row} {g : Int} {rows : List Int} {R : Nat → Nat → Bool} {K : D → En → Prop} {E : XK0} (ho : OrdP ys rows R) (hl : ks.length ≤ 1000) (hks : ∀ r ∈ ks, r.2.2.1 ∈ zs ∧ r.2.2.2 ∈ zs)
    (h : ys = zs → K (.bl (decide (agn zs R ks = []))) [.un, .un]) (h2 : ys ≠ zs → E "UnlikeMakes" [] [] [.un, .un]) : resW (m_TrialList_admits [tlD o zs ks g, ordD p ys rows]) K E := by
  rw [m_TrialList_admits_def]
  refine resW_run rfl ?_
  unfold d_TrialList_admits
  have ob1 : Cs.isObj "TrialList" "against" (tlD o zs ks g) = true := tl_obj (by decide +kernel) (by decide +kernel) (by decide +kernel)
  simp [frm, ob1]
  refine tl_against_w ho hl hks (fun e => ?_) (fun e => ?_)
  · simp [pEq_lI0, lim]
    exact h e
  · exact h2 e
end Lw
namespace Lw
open Cs
open PySem (Str)
/-! the drawn trials -/
abbrev T3 := Str × Nat × Nat
abbrev LR := Int × T3
abbrev rt3 (t : T3) : D := .tup [.str t.1, .int t.2.1, .int t.2.2]
abbrev lr4 (r : LR) : D := .tup [.int r.1, .str r.2.1, .int r.2.2.1, .int r.2.2.2]
@[simp] theorem allFs_rt3 {p : Fl → Bool} : ∀ {ps : List T3}, allFs p (ps.map rt3) = true
  | [] => rfl
  | z :: zs => by rw [List.map_cons, allFs, allFs_rt3]; rfl
@[simp] theorem mapFs_rt3 {g : Fl → Fl} : ∀ {ps : List T3}, mapFs g (ps.map rt3) = ps.map rt3
  | [] => by rw [List.map_nil, mapFs]
  | z :: zs => by rw [List.map_cons, mapFs, mapFs_rt3, mapF_t]; simp
@[simp] theorem allFs_lr4 {p : Fl → Bool} : ∀ {ps : List LR}, allFs p (ps.map lr4) = true
  | [] => rfl
  | z :: zs => by rw [List.map_cons, allFs, allFs_lr4]; rfl
@[simp] theorem mapFs_lr4 {g : Fl → Fl} : ∀ {ps : List LR}, mapFs g (ps.map lr4) = ps.map lr4
  | [] => by rw [List.map_nil, mapFs]
  | z :: zs => by rw [List.map_cons, mapFs, mapFs_lr4, mapF_t]; simp
structure T3P (n : Nat) (t : T3) : Prop where
  w : t.1 = Str.ofString "sits" ∨ t.1 = Str.ofString "refuses"
  u : t.2.1 < n
  v : t.2.2 < n
theorem at_words {r : Int} (h0 : 0 ≤ r) (h1 : r < 2) : ∃ w : Str, (w = Str.ofString "sits" ∨ w = Str.ofString "refuses") ∧ L2.atI [D.str (Str.ofString "sits"), D.str (Str.ofString "refuses")] r = some (.str w) := by
  rcases (by omega : r = 0 ∨ r = 1) with rfl | rfl
  · exact ⟨_, .inl rfl, rfl⟩
  · exact ⟨_, .inr rfl, rfl⟩
theorem ltrial_w {d : D} {n : Nat} {ni : Int} {K : D → En → Prop} {E : XK0} (hd : BoxP d) (hni : (n : Int) = ni) (hn : 0 < n) (hn2 : n ≤ 1000) (hK : ∀ (t : T3) d', T3P n t → BoxP d' → K (rt3 t) [.dt d', .un]) : resW (m_law_trial [d, .int ni]) K E := by
  rw [m_law_trial_def]
  refine resW_run rfl ?_
  subst hni
  unfold d_law_trial
  rw [post_seq]
  simp [frm, lim]
  refine take_w hd (by omega) (by omega) fun r d2 r0 r1 hd2 => ?_
  obtain ⟨w, hw, e⟩ := at_words r0 r1
  simp [e]
  rw [post_seq]
  simp
  refine take_w hd2 (by omega) (by omega) fun i d3 i0 i1 hd3 => ?_
  simp
  refine take_w hd3 (by omega) (by omega) fun j d4 j0 j1 hd4 => ?_
  obtain ⟨a, rfl⟩ : ∃ m : Nat, i = (m : Int) := ⟨i.toNat, by omega⟩
  obtain ⟨b, rfl⟩ : ∃ m : Nat, j = (m : Int) := ⟨j.toNat, by omega⟩
  simp [lim]
  rw [outs_02 hd4.noBo]
  exact hK (w, a, b) d4 ⟨hw, by simp; omega, by simp; omega⟩ hd4
def Irt (n c : Nat) (k : Nat) (ρ : En) : Prop := ∃ (d : D) (ts : List T3) (x4 : Sl), BoxP d ∧ ts.length = k ∧ (∀ t ∈ ts, T3P n t) ∧ ρ = [.dt d, .dt (.int n), .dt (.int c), .dt (.lst .ow (ts.map rt3)), x4]
theorem raw_w {d : D} {n c : Nat} {ni ci : Int} {K : D → En → Prop} {E : XK0} (hd : BoxP d) (hni : (n : Int) = ni) (hci : (c : Int) = ci) (hn : n ≤ 1000) (hc : c ≤ 1000) (hK : ∀ (ts : List T3) d', ts.length ≤ c → (∀ t ∈ ts, T3P n t) → BoxP d' → K (.lst .ow (ts.map rt3)) [.dt d', .un, .un]) : resW (m_law_raw_trials [d, .int ni, .int ci]) K E := by
  rw [m_law_raw_trials_def]
  refine resW_run rfl ?_
  subst hni hci
  unfold d_law_raw_trials
  have hmin : pMin (.int (n : Int)) (.int 1) = .sc (.int ((min n 1 : Nat) : Int)) := by
    unfold pMin
    dsimp only
    by_cases h : (1 : Int) < (n : Int)
    · rw [if_pos h]; congr 2; omega
    · rw [if_neg h]; congr 2; omega
  have hmul : (c : Int) * ((min n 1 : Nat) : Int) = ((c * min n 1 : Nat) : Int) := by simp
  have hle : c * min n 1 ≤ c := by
    rcases Nat.eq_zero_or_pos n with h | h
    · subst h; simp
    · rw [Nat.min_eq_right h]; simp
  have hr1 : (-(2 ^ 64) < (c : Int) ∧ (c : Int) < 2 ^ 64) := by omega
  have hmul2 : pMul (.int (c : Int)) (.int ((min n 1 : Nat) : Int)) = .sc (.int ((c * min n 1 : Nat) : Int)) := by
    rw [pMul_i, if_pos (.inl hr1), hmul]
  simp only [post_seq, frm, post_asg, post_lst, post_nil, List.map, List.replicate, List.append, seqK_nx, post_for, post_rg1, post_op2vv, post_cp, post_ret]
  simp [lim, hmin, hmul2]
  refine ⟨by omega, for_inv (Irt n c) ⟨d, [], _, hd, rfl, by simp, rfl⟩ ?_ ?_⟩
  · rintro k dd ρ hk ⟨d2, ts, x4, hd2, hl, hq, rfl⟩
    obtain ⟨hk1, rfl⟩ := rng_get hk
    have hpos : 0 < n := by
      rcases Nat.eq_zero_or_pos n with h | h
      · subst h; simp at hk1
      · exact h
    unfold d_law_raw_trials_b2
    simp [post_seq]
    refine ltrial_w hd2 rfl hpos hn fun t d3 ht hd3 => ?_
    simp [lim]
    refine ⟨by omega, d3, ts ++ [t], _, hd3, by simp [hl], fun q hq' => ?_, by simp; exact rfl⟩
    rcases List.mem_append.mp hq' with z | z
    · exact hq q z
    · rw [List.mem_singleton.mp z]; exact ht
  · rintro ρ ⟨d2, ts, x4, hd2, hl, hq, rfl⟩
    rw [rng_len] at hl
    simp
    rw [outs_03 hd2.noBo]
    exact hK ts d2 (by omega) hq hd2
/-- numbered from k -/
def numd : Nat → List T3 → List LR
  | _, [] => []
  | k, t :: ts => ((k : Int) + 1, t) :: numd (k + 1) ts
theorem numd_len : ∀ {ts : List T3} {k : Nat}, (numd k ts).length = ts.length
  | [], _ => rfl
  | t :: ts, k => by rw [numd, List.length_cons, numd_len, List.length_cons]
theorem numd_snoc : ∀ {ts : List T3} {t : T3} {k : Nat}, numd k (ts ++ [t]) = numd k ts ++ [(((k + ts.length : Nat) : Int) + 1, t)]
  | [], t, k => by simp [numd]
  | x :: ts, t, k => by
    rw [List.cons_append, numd, numd_snoc, numd, List.cons_append, List.length_cons]
    congr 3
    simp
    omega
theorem numd_get : ∀ {ts : List T3} {k j : Nat} (h : j < ts.length), (numd k ts)[j]'(by rw [numd_len]; exact h) = (((k + j : Nat) : Int) + 1, ts[j])
  | [], _, _, h => by simp at h
  | t :: ts, k, 0, h => by simp [numd]
  | t :: ts, k, j + 1, h => by
    simp only [numd, List.getElem_cons_succ]
    rw [numd_get (by simpa using h)]
    congr 2
    omega
theorem numd_mem {ts : List T3} {n : Nat} (h : ∀ t ∈ ts, T3P n t) : ∀ {k : Nat}, ∀ r ∈ numd k ts, T3P n r.2 := by
  induction ts with
  | nil => intro k r hr; simp [numd] at hr
  | cons t ts ih =>
    intro k r hr
    rw [numd] at hr
    rcases List.mem_cons.mp hr with rfl | q
    · exact h t (by simp)
    · exact ih (fun x hx => h x (by simp [hx])) r q
theorem at_rt3 {ts : List T3} {i : Nat} (h : i < ts.length) : L2.atI (ts.map rt3) (i : Int) = some (rt3 ts[i]) := by
  rw [atI_n, List.getElem?_map, List.getElem?_eq_getElem h]
  rfl
def Iro (e : D) (ts : List T3) (k : Nat) (ρ : En) : Prop := ∃ x, ρ = [.dt e, .dt (.lst .ow ((numd 0 (ts.take k)).map lr4)), x]
theorem lrows_w {o : Fl} {ts : List T3} {K : D → En → Prop} {E : XK0} (hl : ts.length ≤ 1000) (h : K (.lst .ow ((numd 0 ts).map lr4)) [.un]) : resW (m_law_rows_of [.lst o (ts.map rt3)]) K E := by
  rw [m_law_rows_of_def]
  refine resW_run rfl ?_
  unfold d_law_rows_of
  rw [post_seq]
  simp [frm]
  rw [post_seq]
  simp [lim]
  refine ⟨by omega, for_inv (Iro (.lst o (ts.map rt3)) ts) ⟨_, rfl⟩ ?_ ?_⟩
  · rintro k dd ρ hk ⟨x, rfl⟩
    obtain ⟨hk1, rfl⟩ := rng_get hk
    have htk : ts.take (k + 1) = ts.take k ++ [ts[k]] := (List.take_append_getElem hk1).symm
    have e1 := at_rt3 hk1
    unfold Iro
    rw [htk, numd_snoc]
    have hlk : (ts.take k).length = k := by rw [List.length_take]; omega
    have hln : (numd 0 (ts.take k)).length = k := by rw [numd_len, hlk]
    rw [hlk]
    generalize numd 0 (ts.take k) = ns at *
    generalize ts[k] = t at *
    unfold d_law_rows_of_b2
    simp [e1, lim, hln]
    omega
  · rintro ρ ⟨x, rfl⟩
    rw [rng_len, List.take_length]
    simp
    exact h
theorem at_lr4 {rs : List LR} {i : Nat} (h : i < rs.length) : L2.atI (rs.map lr4) (i : Int) = some (lr4 rs[i]) := by
  rw [atI_n, List.getElem?_map, List.getElem?_eq_getElem h]
  rfl
/-- a drawn row, kept -/
def kp (zs : List Str) (r : LR) : Row := (r.1, r.2.1, zs.getD r.2.2.1 "", zs.getD r.2.2.2 "")
def LRsP (n : Nat) (rs : List LR) : Prop := ∀ r ∈ rs, T3P n r.2
def Igp (o : Fl) (zs : List Str) (g : Int) (rs0 rs : List LR) (k : Nat) (ρ : En) : Prop := ∃ (d : D) (ls : List LR) (x4 x5 : Sl), BoxP d ∧ ls.length ≤ rs.length ∧ (∀ r ∈ ls, r ∈ rs) ∧ ρ = [.dt d, .dt (tlD .ow zs (ls.map (kp zs)) g), .dt (.lst o (rs.map lr4)), .dt (.lst .ow (ls.map lr4)), x4, x5, .un]
def Ilf (A : En) (n : Int) (ls : List LR) (k : Nat) (acc : List D) (ρ : En) : Prop := acc = ((ls.take k).filter fun r => !(r.1 == n)).map lr4 ∧ ρ = A
theorem kp_filter {zs : List Str} {n : Int} {ls : List LR} : (ls.map (kp zs)).filter (fun r : Row => !(r.1 == n)) = (ls.filter fun r => !(r.1 == n)).map (kp zs) := by
  rw [List.filter_map]
  rfl
theorem outs_013 {d e : D} {x : Sl} {r : En} (h : allF noBo d = true) (h2 : allF noBo e = true) : outs [0, 1] 3 (.dt d :: .dt e :: x :: r) = [.dt d, .dt e, .un] := by
  simp [outs, List.range_succ, h, h2]
theorem gapped_w {d : D} {o : Fl} {zs : List Str} {rs : List LR} {g : Int} {K : D → En → Prop} {E : XK0} (hd : BoxP d) (hl : rs.length ≤ 1000) (hK : ∀ (ls : List LR) d', ls.length ≤ rs.length → (∀ r ∈ ls, r ∈ rs) → BoxP d' → K (.lst .ow (ls.map lr4)) [.dt d', .dt (tlD .ow zs (ls.map (kp zs)) g), .un]) : resW (m_law_gapped [d, tlD .ow zs (rs.map (kp zs)) g, .lst o (rs.map lr4)]) K E := by
  rw [m_law_gapped_def]
  refine resW_run rfl ?_
  unfold d_law_gapped
  rw [post_seq]
  simp [frm, -List.map_map]
  rw [post_seq]
  simp [-List.map_map]
  refine take_w hd (by omega) (by omega) fun c d2 c0 c1 hd2 => ?_
  obtain ⟨c, rfl⟩ : ∃ m : Nat, c = (m : Int) := ⟨c.toNat, by omega⟩
  simp [lim, -List.map_map]
  refine ⟨by omega, for_inv (Igp o zs g rs rs) ⟨d2, rs, _, _, hd2, Nat.le_refl _, fun r h => h, rfl⟩ ?_ ?_⟩
  · rintro k dd ρ hk ⟨d3, ls, x4, x5, hd3, hl3, hs, rfl⟩
    obtain ⟨hk1, rfl⟩ := rng_get hk
    unfold d_law_gapped_b2
    by_cases h0 : ¬ 0 < ls.length
    · simp [h0, -List.map_map, -Nat.not_lt]
      exact ⟨d3, ls, _, _, hd3, hl3, hs, rfl⟩
    · have h0 := Classical.not_not.mp h0
      simp [h0, -List.map_map]
      rw [post_seq]
      simp [-List.map_map]
      refine take_w hd3 (by omega) (by omega) fun i d4 i0 i1 hd4 => ?_
      obtain ⟨i, rfl⟩ : ∃ m : Nat, i = (m : Int) := ⟨i.toNat, by omega⟩
      have hi : i < ls.length := by omega
      have e1 := at_lr4 hi
      have hm := List.getElem_mem hi
      generalize ls[i] = r at *
      have ob1 : Cs.isObj "TrialList" "retract" (tlD .ow zs (ls.map (kp zs)) g) = true := tl_obj (by decide +kernel) (by decide +kernel) (by decide +kernel)
      simp [e1, -List.map_map]
      rw [post_seq]
      simp [ob1, -List.map_map]
      refine tl_retract_w (by rw [List.length_map]; omega) ⟨kp zs r, List.mem_map.mpr ⟨r, hm, rfl⟩, rfl⟩ ?_
      rw [kp_filter]
      simp [-List.map_map, post_lc, noOwAt]
      have hll : (ls.filter fun x => !(x.1 == r.1)).length ≤ ls.length := List.length_filter_le ..
      refine (lc_inv (Ilf [.dt d4, .dt (tlD .ow zs ((ls.filter fun x => !(x.1 == r.1)).map (kp zs)) g), .dt (.lst o (rs.map lr4)), .dt (.lst .bo (ls.map lr4)), .dt (.int k), .dt (.int r.1), .un] r.1 ls) ⟨by simp, by simp [fgt]⟩ ?_).mp ?_ (fun _ _ _ _ z => z.elim)
      · rintro k acc d ρ hk ⟨rfl, rfl⟩
        obtain ⟨hk1, rfl⟩ := getE_map hk
        have htk : ls.take (k + 1) = ls.take k ++ [ls[k]] := (List.take_append_getElem hk1).symm
        have hfl := flt_le (p := fun x : LR => !(x.1 == r.1)) (xs := ls) (k := k)
        unfold Ilf
        rw [htk, List.filter_append]
        generalize ls[k] = q at *
        generalize (ls.take k).filter (fun x : LR => !(x.1 == r.1)) = fl at *
        by_cases hq : q.1 = r.1
        · simp [hq, -List.map_map]
        · simp [hq, lim, -List.map_map]
          omega
      · rintro acc ρ ⟨rfl, rfl⟩
        rw [List.length_map, List.take_length]
        simp [rst, noBoAt, flwOk, -List.map_map]
        exact ⟨d4, ls.filter fun x => !(x.1 == r.1), _, _, hd4, by omega, fun x hx => hs x (List.mem_filter.mp hx).1, rfl⟩
  · rintro ρ ⟨d3, ls, x4, x5, hd3, hl3, hs, rfl⟩
    simp [-List.map_map]
    rw [outs_013 hd3.noBo noBo_tl]
    exact hK ls d3 hl3 hs hd3
end Lw
namespace Lw
open Cs
open PySem (Str)
theorem is_int_w {i : Int} {K : D → En → Prop} {E : XK0} (h : K (.bl true) [.un]) : resW (m_law_is_int [.int i]) K E := by
  rw [m_law_is_int_def]
  refine resW_run rfl ?_
  unfold d_law_is_int
  simp [frm, pIsi, isi]
  exact h
def Iai (e f : D) (xs ys : List Int) (k : Nat) (ρ : En) : Prop := (∃ x, ρ = [.dt e, .dt f, x]) ∧ xs.take k = ys.take k
theorem are_ints_w {o p : Fl} {xs ys : List Int} {K : D → En → Prop} {E : XK0} (hl : ys.length ≤ 1000) (h : K (.bl (decide (xs = ys))) [.un, .un]) : resW (m_law_are_ints [.lst o (xs.map D.int), .lst p (ys.map D.int)]) K E := by
  rw [m_law_are_ints_def]
  refine resW_run rfl ?_
  unfold d_law_are_ints
  rw [post_seq]
  by_cases hxy : xs.length = ys.length
  · simp [frm, pIsi, isi, hxy]
    rw [post_seq]
    simp [lim]
    refine ⟨by omega, for_inv (Iai (.lst o (xs.map D.int)) (.lst p (ys.map D.int)) xs ys) ⟨⟨_, rfl⟩, by simp⟩ ?_ ?_⟩
    · rintro k d ρ hk ⟨⟨x, rfl⟩, ht⟩
      obtain ⟨hk1, rfl⟩ := rng_get hk
      have hk2 : k < xs.length := by omega
      have e1 := getE_int hk1
      have e2 := getE_int hk2
      have t1 : xs.take (k + 1) = xs.take k ++ [xs[k]] := (List.take_append_getElem hk2).symm
      have t2 : ys.take (k + 1) = ys.take k ++ [ys[k]] := (List.take_append_getElem hk1).symm
      have hne : ¬ xs[k] = ys[k] → xs ≠ ys := fun a b => a (by subst b; rfl)
      unfold Iai
      rw [t1, t2, ht]
      generalize xs[k] = a at *
      generalize ys[k] = c at *
      unfold d_law_are_ints_b3
      simp [e1, e2]
      refine is_int_w ?_
      by_cases hac : a = c
      · simp [hac]
      · simp [hac, hne hac] at h ⊢
        exact h
    · rintro ρ ⟨⟨x, rfl⟩, ht⟩
      rw [rng_len, ← hxy, List.take_length, hxy, List.take_length] at ht
      simp [ht] at h ⊢
      exact h
  · have : xs ≠ ys := fun e => hxy (by rw [e])
    simp [frm, pIsi, isi, hxy, this] at h ⊢
    rw [if_neg (by omega)]
    exact h
theorem refused13_w {o p : Fl} {zs ys : List Str} {ks : List Row} {g : Int} {rows : List Int} {R : Nat → Nat → Bool} {k : Nat} {K : D → En → Prop} {E : XK0} (hk : k < 2) (ho : OrdP ys rows R) (hl : ks.length ≤ 1000) (hks : ∀ r ∈ ks, r.2.2.1 ∈ zs ∧ r.2.2.2 ∈ zs) (h : K (.bl (!decide (ys = zs))) [.un, .un, .un]) : resW (m_law_refused [.int (k : Int), tlD o zs ks g, ordD p ys rows]) K E := by
  generalize hki : (k : Int) = ki
  rw [m_law_refused_def]
  refine resW_run rfl ?_
  subst hki
  unfold d_law_refused
  rw [post_try]
  have ob1 : Cs.isObj "TrialList" "against" (tlD o zs ks g) = true := tl_obj (by decide +kernel) (by decide +kernel) (by decide +kernel)
  have ob2 : Cs.isObj "TrialList" "admits" (tlD o zs ks g) = true := tl_obj (by decide +kernel) (by decide +kernel) (by decide +kernel)
  have hxu : subX "UnlikeMakes" "UnlikeMakes" = true := by decide +kernel
  rw [post_seq]
  have exc : ∀ ρ : En, noExn ρ = true → ys ≠ zs → Post (flK [] 3 K) (fun c ks xs ρ => E c ks xs (outs [] 3 ρ)) (catchM "UnlikeMakes" [] [] [("UnlikeMakes", none, fun c ks xs => (dRet (ret (.bl true))))] ρ) := fun ρ hρ hne => by
    refine post_catchP hxu ?_
    simp [hne] at h
    simp [hρ]
    exact h
  match k, hk with
  | 0, _ =>
    simp [frm, ob1]
    refine tl_against_w ho hl hks (fun e => ?_) (fun e => ?_)
    · simp [e, pIs, isNon] at h ⊢
      exact h
    · exact exc _ (by simp [noExn]) e
  | 1, _ =>
    simp [frm, ob2]
    refine tl_admits_w ho hl hks (fun e => ?_) (fun e => ?_)
    · simp [e, pIs, isNon] at h ⊢
      exact h
    · exact exc _ (by simp [noExn]) e
end Lw
namespace Lw
open Cs
open PySem (Str)
abbrev E13 (sc b : D) (ni : Int) (zs : List Str) (book : D) (x5 : Sl) (rs : List LR) (x7 : Sl) (w : Int) (ys : List Str) (x10 x11 x12 x13 x14 x15 x16 : Sl) : En := [.dt sc, .dt b, .dt (.int ni), .dt (.lst .ow (zs.map D.str)), .dt book, x5, .dt (.lst .ow (rs.map lr4)), x7, .dt (.int w), .dt (.lst .ow (ys.map D.str)), x10, x11, x12, x13, x14, x15, x16]
/-- the numbers due -/
def due (R : Nat → Nat → Bool) (rs : List LR) : List Int := (rs.filter fun r => !(R r.2.2.1 r.2.2.2 == (r.2.1 == Str.ofString "sits"))).map (·.1)
def Idu (A : En) (R : Nat → Nat → Bool) (rs : List LR) (k : Nat) (acc : List D) (ρ : En) : Prop := acc = (due R (rs.take k)).map D.int ∧ ρ = A
theorem due_agn {zs : List Str} {R : Nat → Nat → Bool} {rs : List LR} (hnd : zs.Nodup) (hr : ∀ r ∈ rs, T3P zs.length r.2) : agn zs R (rs.map (kp zs)) = due R rs := by
  unfold agn due
  rw [List.filter_map, List.map_map]
  have e1 : List.filter (disR zs R ∘ kp zs) rs = rs.filter fun r => !(R r.2.2.1 r.2.2.2 == (r.2.1 == Str.ofString "sits")) := by
    refine List.filter_congr fun r h => ?_
    have := hr r h
    show disR zs R (kp zs r) = _
    unfold disR kp
    dsimp only
    rw [idx_getD hnd this.u, idx_getD hnd this.v]
  rw [e1]
  rfl
theorem due_len {R : Nat → Nat → Bool} {rs : List LR} : (due R rs).length ≤ rs.length := by
  unfold due
  rw [List.length_map]
  exact List.length_filter_le ..
theorem kp_mem {zs : List Str} {rs : List LR} (hr : ∀ r ∈ rs, T3P zs.length r.2) : ∀ r ∈ rs.map (kp zs), r.2.2.1 ∈ zs ∧ r.2.2.2 ∈ zs := by
  intro r h
  obtain ⟨q, hq, rfl⟩ := List.mem_map.mp h
  have := hr q hq
  have g : ∀ i, i < zs.length → zs.getD i "" ∈ zs := fun i hi => by
    rw [List.getD_eq_getElem?_getD, List.getElem?_eq_getElem hi]
    exact List.getElem_mem hi
  exact ⟨g _ this.u, g _ this.v⟩
theorem end13b {sc b : D} {ni w g : Int} {zs : List Str} {rs : List LR} {x5 x7 x10 x13 : Sl} {rows : List Int} {R : Nat → Nat → Bool} {ρ : En} (gz : GoodZ zs) (hr : ∀ r ∈ rs, T3P zs.length r.2) (hl : rs.length ≤ 1000) (ho : OrdG zs rows R)
    (hρ : ρ = E13 sc b ni zs (tlD .ow zs (rs.map (kp zs)) g) x5 rs x7 w zs x10 (.dt (ordD .ow zs rows)) (.dt (.bl false)) x13 (.dt (.lst .ow ((due R rs).map D.int))) .un .un) :
    Post (flK [] 1 fun d x => d = .bl true) (fun c ks xs ρ => N0 c ks xs [.un]) (dSeq d_law_s21 (dSeq d_law_s22 (dSeq d_law_s23 (dSeq d_law_s24 d_law_s25))) ρ) := by
  subst hρ
  have ob1 : Cs.isObj "TrialList" "against" (tlD .ow zs (rs.map (kp zs)) g) = true := tl_obj (by decide +kernel) (by decide +kernel) (by decide +kernel)
  have ob2 : Cs.isObj "TrialList" "admits" (tlD .ow zs (rs.map (kp zs)) g) = true := tl_obj (by decide +kernel) (by decide +kernel) (by decide +kernel)
  have dl := due_len (R := R) (rs := rs)
  have hdl : (rs.map (kp zs)).length ≤ 1000 := by rw [List.length_map]; exact hl
  have hag := due_agn (R := R) gz.nd hr
  have hk := kp_mem hr
  generalize rs.map (kp zs) = ks at *
  generalize due R rs = du at *
  rw [post_seq]
  simp [d_law_s21, ob1]
  refine tl_against_w ho.o hdl hk (fun _ => ?_) (fun e => absurd rfl e)
  rw [hag]
  try simp
  rw [post_seq]
  simp [d_law_s22]
  refine are_ints_w (by omega) ?_
  try simp
  rw [post_seq]
  simp [d_law_s23, lim]
  refine ⟨by omega, ?_⟩
  rw [post_seq]
  simp [d_law_s24, ob2]
  refine tl_admits_w ho.o hdl hk (fun _ => ?_) (fun e => absurd rfl e)
  rw [hag]
  simp [d_law_s25, ob1]
  refine tl_against_w ho.o hdl hk (fun _ => ?_) (fun e => absurd rfl e)
  rw [hag]
  try simp
  refine are_ints_w (by omega) ?_
  simp [pIsi, isi, pEq_lI0, pEq_b, lim]
theorem end13 {sc b : D} {ni w g : Int} {zs : List Str} {rs : List LR} {x5 x7 : Sl} {qs : List (Nat × Nat)} {rows : List Int} {ρ : En} (hni : (zs.length : Int) = ni) (gz : GoodZ zs) (hr : ∀ r ∈ rs, T3P zs.length r.2) (hl : rs.length ≤ 1000) (hq : QsP zs.length qs) (ho : OrdG zs rows (warsh zs.length (baseQ qs))) (hx7 : x7 = .un ∨ ∃ r : LR, x7 = .dt (lr4 r))
    (hρ : ρ = E13 sc b ni zs (tlD .ow zs (rs.map (kp zs)) g) x5 rs x7 w zs (.dt (.lst .ow (qs.map ip))) (.dt (ordD .ow zs rows)) (.dt (.bl false)) .un .un .un .un) :
    Post (flK [] 1 fun d x => d = .bl true) (fun c ks xs ρ => N0 c ks xs [.un]) (dSeq d_law_s19 (dSeq d_law_s20 (dSeq d_law_s21 (dSeq d_law_s22 (dSeq d_law_s23 (dSeq d_law_s24 d_law_s25))))) ρ) := by
  subst hρ
  have cw : ∀ {o : Fl} {K : D → En → Prop} {E : XK0}, K (matD .ow .ow zs.length (warsh zs.length (baseQ qs))) [.un, .un] → resW (m_law_closed [.int ni, .lst o (qs.map ip)]) K E := by
    rw [← hni]
    exact fun h => closed_w rfl (by have := gz.le; omega) hq h
  rw [post_seq]
  simp [d_law_s19, mapFs_ip, -List.map_map]
  refine cw ?_
  generalize warsh zs.length (baseQ qs) = R at *
  rw [post_seq]
  generalize htl : tlD .ow zs (rs.map (kp zs)) g = tl at *
  rcases hx7 with rfl | ⟨r7, rfl⟩
  all_goals
    simp [d_law_s20, -List.map_map, mapFs_mat, post_lc, noOwAt]
    refine (lc_inv (Idu [.dt sc, .dt b, .dt (.int ni), .dt (.lst .ow (zs.map D.str)), .dt tl, x5, .dt (.lst .bo (rs.map lr4)), .un, .dt (.int w), .dt (.lst .ow (zs.map D.str)), .dt (.lst .ow (qs.map ip)), .dt (ordD .ow zs rows), .dt (.bl false), .dt (.lst .bo (matL .bo zs.length zs.length R)), .un, .un, .un] R rs) ⟨by simp [due], by simp [fgt]⟩ ?_).mp ?_ (fun _ _ _ _ z => z.elim)
    · rintro k acc d ρ hk ⟨rfl, rfl⟩
      obtain ⟨hk1, rfl⟩ := getE_map hk
      have htk : rs.take (k + 1) = rs.take k ++ [rs[k]] := (List.take_append_getElem hk1).symm
      have hT := hr _ (List.getElem_mem hk1)
      unfold Idu due
      have hfl := flt_le (p := fun r : LR => !(R r.2.2.1 r.2.2.2 == (r.2.1 == Str.ofString "sits"))) (xs := rs) (k := k)
      rw [htk, List.filter_append]
      generalize rs[k] = q at *
      generalize (rs.take k).filter (fun r : LR => !(R r.2.2.1 r.2.2.2 == (r.2.1 == Str.ofString "sits"))) = fl at *
      have e1 := mat_at (p := .bo) (n := zs.length) (R := R) hT.u
      have e2 := bls_at (P := R q.2.2.1) hT.v
      generalize hb1 : R q.2.2.1 q.2.2.2 = b1 at *
      generalize hb2 : (q.2.1 == Str.ofString "sits") = b2 at *
      simp [-List.map_map, e1, e2, pEq_s, pNe_b, hb1, hb2, lim]
      refine ⟨allFs_bls, fun hne => ⟨by omega, ?_⟩⟩
      have : (b1 == b2) = false := by simpa using hne
      simp [List.filter_cons, hb1, hb2, this]
    · rintro acc ρ ⟨rfl, rfl⟩
      rw [List.length_map, List.take_length]
      simp [rst, noBoAt, flwOk, -List.map_map]
      rw [← htl]
      exact end13b gz hr hl ho rfl
theorem mid13 {sc b : D} {ni w g : Int} {zs ys : List Str} {rs : List LR} {x5 x7 : Sl} {ρ : En} (hb : BoxP b) (hni : (zs.length : Int) = ni) (gz : GoodZ zs) (gy : GoodZ ys) (hr : ∀ r ∈ rs, T3P zs.length r.2) (hl : rs.length ≤ 1000) (hx7 : x7 = .un ∨ ∃ r : LR, x7 = .dt (lr4 r))
    (hρ : ρ = E13 sc b ni zs (tlD .ow zs (rs.map (kp zs)) g) x5 rs x7 w ys .un .un .un .un .un .un .un) :
    Post (flK [] 1 fun d x => d = .bl true) (fun c ks xs ρ => N0 c ks xs [.un]) (dSeq d_law_s14 (dSeq d_law_s15 (dSeq d_law_s16 (dSeq d_law_s17 (dSeq d_law_s18 (dSeq d_law_s19 (dSeq d_law_s20 (dSeq d_law_s21 (dSeq d_law_s22 (dSeq d_law_s23 (dSeq d_law_s24 d_law_s25)))))))))) ρ) := by
  subst hρ
  have hdl : (rs.map (kp zs)).length ≤ 1000 := by rw [List.length_map]; exact hl
  have hk := kp_mem hr
  have hend : ∀ (b : D) (qs : List (Nat × Nat)) (rows : List Int), QsP zs.length qs → OrdG zs rows (warsh zs.length (baseQ qs)) → Post (flK [] 1 fun d x => d = .bl true) (fun c ks xs ρ => N0 c ks xs [.un]) (dSeq d_law_s19 (dSeq d_law_s20 (dSeq d_law_s21 (dSeq d_law_s22 (dSeq d_law_s23 (dSeq d_law_s24 d_law_s25))))) (E13 sc b ni zs (tlD .ow zs (rs.map (kp zs)) g) x5 rs x7 w zs (.dt (.lst .ow (qs.map ip))) (.dt (ordD .ow zs rows)) (.dt (.bl false)) .un .un .un .un)) := fun b qs rows hq ho => end13 hni gz hr hl hq ho hx7 rfl
  have dw : ∀ {b : D} {c : Int} {K : D → En → Prop} {E : XK0}, BoxP b → 0 ≤ c → c < 8 → (∀ (qs : List (Nat × Nat)) d', qs.length ≤ 100 → QsP ys.length qs → BoxP d' → K (.lst .ow (qs.map ip)) [.dt d', .un, .un]) → resW (m_law_drawn_pairs [b, .int ys.length, .int c]) K E := fun {b c K E} hb h0 h7 h => by
    obtain ⟨m, rfl⟩ : ∃ m : Nat, c = (m : Int) := ⟨c.toNat, by omega⟩
    exact drawn_w hb rfl rfl (by have := gy.le; omega) (by omega) fun qs d' hq => h qs d' (by omega)
  generalize rs.map (kp zs) = ks at *
  rw [post_seq]
  simp [d_law_s14]
  generalize (ys.length : Int) = yl at *
  refine take_w hb (by omega) (by omega) fun c b c0 c1 hb => ?_
  simp
  refine dw hb c0 c1 fun qs b lq hq hb => ?_
  simp
  rw [post_seq]
  simp [d_law_s15, mapFs_ip]
  refine named_w hq (by omega) ?_
  refine order_g (.inl ⟨_, rfl⟩) (.inl ⟨_, rfl⟩) gy (nms_mem hq) fun rows ho => ?_
  rw [base_nms gy.nd hq] at ho
  try simp
  rw [post_seq]
  simp [d_law_s16, pNe_lS]
  rw [post_seq]
  simp [d_law_s17]
  refine refused13_w (k := 0) (by omega) ho.o hdl hk ?_
  simp [pNe_b]
  refine refused13_w (k := 1) (by omega) ho.o hdl hk ?_
  simp [pNe_b]
  rw [post_seq]
  by_cases e : ys = zs
  · subst e
    simp [d_law_s18]
    exact hend b qs rows hq ho
  · simp [d_law_s18, e]
def Ia5 (sc b : D) (ni : Int) (zs : List Str) (k : Nat) (ρ : En) : Prop := ∃ x5 : Sl, ρ = [.dt sc, .dt b, .dt (.int ni), .dt (.lst .bo (zs.map D.str)), .dt (tlD .ow (zs.take k) [] 0), x5, .un, .un, .un, .un, .un, .un, .un, .un, .un, .un, .un] ∧ (x5 = .un ∨ ∃ z, x5 = .dt (.str z))
def Ia7 (sc b : D) (ni : Int) (zs : List Str) (x5 : Sl) (rs : List LR) (k : Nat) (ρ : En) : Prop := ∃ x7 : Sl, ρ = [.dt sc, .dt b, .dt (.int ni), .dt (.lst .ow (zs.map D.str)), .dt (tlD .ow zs ((rs.take k).map (kp zs)) (k : Int)), x5, .dt (.lst .bo (rs.map lr4)), x7, .un, .un, .un, .un, .un, .un, .un, .un, .un] ∧ (x7 = .un ∨ ∃ r : LR, x7 = .dt (lr4 r))
theorem law_true : ∀ ns : List Int, ns.length ≤ 63 → ∃ os, m_law [scr ns] = .ok (.bl true) os := by
  intro ns hns
  apply ok_of_resW
  rw [m_law_def]
  refine resW_run rfl ?_
  have hlend : mapF flLend (scr ns) = scr ns := by simp [scr]
  have hbox : ∀ {K : D → En → Prop} {E : XK0}, (∀ d, BoxP d → K d [.un]) → resW (m_law_box [scr ns]) K E := fun h => box_w hns h
  generalize scr ns = sc at *
  unfold d_law
  rw [post_seq]
  simp [d_law_s1, frm, hlend]
  refine hbox fun b hb => ?_
  rw [post_seq]
  simp [d_law_s2]
  refine take_w hb (by omega) (by omega) fun r b r0 r1 hb => ?_
  simp only [prW_sc, pAdd_i, seqK_nx, wb_io, wb_v, wb_0, hd1_c, List.tail, List.set]
  obtain ⟨n, hn⟩ : ∃ n : Nat, (1 : Int) + r = (n : Int) := ⟨(1 + r).toNat, by omega⟩
  rw [hn]
  rw [post_seq]
  simp [d_law_s3]
  refine names_w hb (by omega) fun zs b hl hz hb => ?_
  subst hl
  simp
  have gz := hz.good
  have hlz := hz.lim
  have hle5 : zs.length ≤ 5 := by omega
  have hpos : 1 ≤ zs.length := by omega
  generalize hni : (zs.length : Int) = ni at *
  rw [post_seq]
  simp [d_law_s4]
  refine tl_new_w ?_
  rw [post_seq]
  simp [d_law_s5]
  refine for_inv (Ia5 sc b ni zs) ⟨_, rfl, .inl rfl⟩ ?_ ?_
  · rintro k d ρ hk ⟨x5, rfl, h5⟩
    obtain ⟨hk1, rfl⟩ := getE_map hk
    have htk : zs.take (k + 1) = zs.take k ++ [zs[k]] := (List.take_append_getElem hk1).symm
    have hm := List.getElem_mem hk1
    have hnin : zs[k] ∉ zs.take k := fun q => by
      have h1 : (zs.take k ++ zs.drop k).Nodup := by rw [List.take_append_drop]; exact hz.nd
      rw [List.drop_eq_getElem_cons hk1] at h1
      exact (List.nodup_append.mp h1).2.2 _ q _ List.mem_cons_self rfl
    have ob1 : Cs.isObj "TrialList" "add_make" (tlD .ow (zs.take k) [] 0) = true := tl_obj (by decide +kernel) (by decide +kernel) (by decide +kernel)
    unfold Ia5
    rw [htk]
    generalize zs[k] = z at *
    have hlk : (zs.take k).length < 12 := by rw [List.length_take]; omega
    generalize zs.take k = zk at *
    unfold d_law_b5
    simp [ob1]
    refine tl_add_w (hz.g z hm) (hlz z hm) hnin hlk ?_
    try simp
    try exact ⟨_, rfl, .inr ⟨_, rfl⟩⟩
  · rintro ρ ⟨x5, rfl, h5⟩
    rw [List.length_map, List.take_length]
    simp [flwOk]
    refine ⟨by rcases h5 with rfl | ⟨z5, rfl⟩ <;> simp [noBoAt], ?_⟩
    rw [post_seq]
    have rawW : ∀ {b : D} {c : Int} {K : D → En → Prop} {E : XK0}, BoxP b → 0 ≤ c → c < 11 → (∀ (ts : List T3) d', ts.length ≤ 10 → (∀ t ∈ ts, T3P zs.length t) → BoxP d' → K (.lst .ow (ts.map rt3)) [.dt d', .un, .un]) → resW (m_law_raw_trials [b, .int ni, .int c]) K E := fun {b c K E} hb h0 h7 h => by
      obtain ⟨m, rfl⟩ : ∃ m : Nat, c = (m : Int) := ⟨c.toNat, by omega⟩
      exact raw_w hb hni rfl (by omega) (by omega) fun ts d' hq => h ts d' (by omega)
    simp [d_law_s6]
    refine take_w hb (by omega) (by omega) fun c b c0 c1 hb => ?_
    try simp
    refine rawW hb c0 c1 fun ts b lt ht hb => ?_
    try simp
    refine lrows_w (by omega) ?_
    have hrs := numd_mem (k := 0) ht
    have hrl : (numd 0 ts).length ≤ 10 := by rw [numd_len]; exact lt
    have hnum : ∀ k (h : k < (numd 0 ts).length), ((numd 0 ts)[k]).1 = (k : Int) + 1 := fun k h => by
      rw [numd_get (by rw [← numd_len (k := 0)]; exact h)]
      simp
    generalize numd 0 ts = rs at *
    try simp
    rw [post_seq]
    simp [d_law_s7]
    refine for_inv (Ia7 sc b ni zs x5 rs) ⟨_, rfl, .inl rfl⟩ ?_ ?_
    · rintro k d ρ hk ⟨x7, rfl, h7⟩
      obtain ⟨hk1, rfl⟩ := getE_map hk
      have htk : rs.take (k + 1) = rs.take k ++ [rs[k]] := (List.take_append_getElem hk1).symm
      have hT := hrs _ (List.getElem_mem hk1)
      have hN := hnum k hk1
      have ob1 : Cs.isObj "TrialList" "note" (tlD .ow zs ((rs.take k).map (kp zs)) (k : Int)) = true := tl_obj (by decide +kernel) (by decide +kernel) (by decide +kernel)
      have hlk : ((rs.take k).map (kp zs)).length < 60 := by rw [List.length_map, List.length_take]; omega
      unfold Ia7
      rw [htk, List.map_append]
      generalize rs[k] = q at *
      have hkp : kp zs q = ((k : Int) + 1, q.2.1, zs.getD q.2.2.1 "", zs.getD q.2.2.2 "") := by unfold kp; rw [hN]
      generalize (rs.take k).map (kp zs) = ks at *
      generalize hki : (k : Int) = ki at *
      have hk1i : ((k + 1 : Nat) : Int) = ki + 1 := by omega
      rw [hk1i]
      have g : ∀ i, i < zs.length → zs.getD i "" ∈ zs := fun i hi => by
        rw [List.getD_eq_getElem?_getD, List.getElem?_eq_getElem hi]
        exact List.getElem_mem hi
      unfold d_law_b8
      have e1 := at_str hT.u
      have e2 := at_str hT.v
      simp [ob1, e1, e2]
      refine tl_note_w hT.w (g _ hT.u) (g _ hT.v) hlk ?_
      try simp
      refine ⟨.dt (lr4 q), ⟨⟨by rw [hkp], by rw [hkp], by rw [hkp]; simp, by rw [hkp]; simp⟩, rfl⟩, .inr ⟨_, _, _, _, rfl⟩⟩
    · rintro ρ ⟨x7, rfl, h7⟩
      rw [List.length_map, List.take_length]
      simp [flwOk, -List.map_map]
      refine ⟨by rcases h7 with rfl | ⟨z5, rfl⟩ <;> simp [noBoAt, -List.map_map], ?_⟩
      rw [post_seq]
      simp [d_law_s8, -List.map_map]
      refine gapped_w hb (by omega) fun ls b hl1 hl2 hb => ?_
      have hr : ∀ r ∈ ls, T3P zs.length r.2 := fun r h => hrs r (hl2 r h)
      try simp [-List.map_map]
      rw [post_seq]
      simp [d_law_s9, -List.map_map]
      refine take_w hb (by omega) (by omega) fun w b w0 w1 hb => ?_
      try simp [-List.map_map]
      rw [post_seq]
      simp [d_law_s10, -List.map_map]
      rw [post_seq]
      have fin : ∀ (w : Int) (ys : List Str), GoodZ ys → Post (flK [] 1 fun d x => d = .bl true) (fun c ks xs ρ => N0 c ks xs [.un]) (dSeq d_law_s14 (dSeq d_law_s15 (dSeq d_law_s16 (dSeq d_law_s17 (dSeq d_law_s18 (dSeq d_law_s19 (dSeq d_law_s20 (dSeq d_law_s21 (dSeq d_law_s22 (dSeq d_law_s23 (dSeq d_law_s24 d_law_s25)))))))))) (E13 sc b ni zs (tlD .ow zs (ls.map (kp zs)) (rs.length : Int)) x5 ls x7 w ys .un .un .un .un .un .un .un)) := fun w ys gy => mid13 hb hni gz gy hr (by omega) h7 rfl
      generalize tlD .ow zs (ls.map (kp zs)) (rs.length : Int) = tl at *
      by_cases c1 : w = 1
      · subst c1
        simp [d_law_s11]
        rw [post_seq]
        simp [d_law_s12]
        rw [post_seq]
        simp [d_law_s13]
        have gr : GoodZ zs.reverse := ⟨good_none (fun z h => hz.g z (List.mem_reverse.mp h)) (List.pairwise_reverse.mpr (hz.nd.imp fun h => h.symm)) (by simp), fun z h => hlz z (List.mem_reverse.mp h), by simp; omega⟩
        have := fin 1 zs.reverse gr
        try simp only [E13, List.map_reverse] at this
        exact this
      · simp [d_law_s11, c1]
        rw [post_seq]
        by_cases c2 : w = 2
        · subst c2
          have hcut : cutI zs (some 1) none = zs.drop 1 := by
            unfold cutI HT.sIx
            have hm : min 1 zs.length = 1 := by omega
            simp [hm]
            rw [List.take_of_length_le (by simp)]
          simp [d_law_s12, flwOk, lim]
          rw [hcut]
          generalize hyl : zs.drop 1 = ys
          have hsub : ∀ z ∈ ys, z ∈ zs := fun z h => by rw [← hyl] at h; exact List.mem_of_mem_drop h
          have hyn : ys.length ≤ 12 := by rw [← hyl, List.length_drop]; omega
          have gr : GoodZ ys := ⟨good_none (fun z h => hz.g z (hsub z h)) (by rw [← hyl]; exact hz.nd.sublist (List.drop_sublist ..)) (by simp), fun z h => hlz z (hsub z h), hyn⟩
          refine ⟨by simp [noBoAt], ?_⟩
          rw [post_seq]
          simp [d_law_s13]
          exact fin 2 ys gr
        · simp [d_law_s12, c2]
          rw [post_seq]
          by_cases c3 : w = 3
          · subst c3
            have hadd : pAdd (.lst .ow (zs.map D.str)) (.lst .ow [D.str (Str.ofString "zzzzzzzz")]) = .nl ((zs ++ [Str.ofString "zzzzzzzz"]).map D.str) := by
              rw [pAdd_l, if_pos ⟨by decide, ⟨allFs_strs, by simp⟩, by simp [lim]; omega⟩, List.map_append]
              rfl
            simp [d_law_s13, hadd, lim, -List.map_append]
            refine fin 3 _ ⟨good_none (fun z h => ?_) (List.nodup_append.mpr ⟨hz.nd, by simp, fun a ha b hb e => ?_⟩) (by simp), (fun z h => ?_), (by simp; omega)⟩
            · rcases List.mem_append.mp h with q | q
              · exact hz.g z q
              · rw [List.mem_singleton.mp q]; decide +kernel
            · rw [List.mem_singleton.mp hb] at e
              exact no_z8 hz (by rw [← e]; exact ha)
            · rcases List.mem_append.mp h with q | q
              · exact hlz z q
              · rw [List.mem_singleton.mp q]; decide +kernel
          · simp [d_law_s13, c3]
            exact fin w zs gz
end Lw
namespace Lw
open PySem L2 Evl PyProof.Rows Cs
theorem exm_of {K : PySem.W.Frag} {A C : Addr} {b : Bool} (h1 : PySem.W.subIn K (.ref C) (.type "BaseException") = some true) (h2 : PySem.W.isClsIn K C = true) (h3 : PySem.W.typeIn K (.ref C) = some (.type "type")) (h4 : PySem.W.subIn K (.ref A) (.ref C) = some b) : PySem.W.exmOne K (.ref A) (.ref C) = some b := by
  have e1 : (PySem.W.subIn K (.ref C) (.type "BaseException") == some true) = true := by rw [h1] <;> rfl
  have e2 : ((PySem.W.clsIn K C).isSome && PySem.W.typeIn K (.ref C) == some (.type "type")) = true := by
    have h2' : (PySem.W.clsIn K C).isSome = true := h2
    rw [h2', h3] <;> rfl
  show (if (PySem.W.subIn K (.ref C) (.type "BaseException") == some true) = true then (if ((PySem.W.clsIn K C).isSome && PySem.W.typeIn K (.ref C) == some (.type "type")) = true then PySem.W.subIn K (.ref A) (.ref C) else none) else none) = some b
  rw [if_pos e1, if_pos e2]
  exact h4
theorem all_mk {P : Program} {w : World} {K : PySem.W.Frag} {h : Heap} {mg : Str → Option Value} {fa f_law_box f_law_take f_law_name f_law_names f_check_name f_check_makes f_TrialList___init__ f_TrialList_add_make f_law_trial f_law_raw_trials f_law_rows_of f_check_known f_TrialList_check_trial f_TrialList_keep f_TrialList_note f_TrialList_trial f_TrialList_retract f_law_gapped f_law_drawn_pairs f_law_named f_check_pairs f_closed_rows f_rows_of f_Order___init__ f_TrialList_makes f_Order_has f_TrialList_against f_TrialList_admits f_law_refused f_law_closed f_law_is_int f_law_are_ints f_law C_Full C_InvalidName C_DuplicateMake C_InvalidWord C_UnknownMake C_UnknownTrial C_UnlikeMakes C_Order C_TrialList fi_Full fi_InvalidName fi_DuplicateMake fi_InvalidWord fi_UnknownMake fi_UnknownTrial pp_Order_makes fp_Order_makes pp_TrialList_makes : Addr} {od1 an1 od2 an2 od3 an3 od4 an4 od5 an5 od6 an6 od7 an7 od8 an8 od9 an9 od10 an10 od11 an11 od12 an12 od13 an13 od14 an14 od15 an15 od16 an16 od17 an17 od18 an18 od19 an19 od20 an20 od21 an21 od22 an22 od23 an23 od24 an24 od25 an25 od26 an26 od27 an27 od28 an28 od29 an29 od30 an30 od31 an31 od32 an32 od33 an33 od34 an34 od35 an35 od36 an36 od37 an37 od38 an38 od39 an39 od40 an40 : Option Addr} {sl1 sl2 sl3 sl4 sl5 sl6 sl7 sl8 sl9 sl10 sl11 sl12 sl13 sl14 sl15 sl16 sl17 sl18 sl19 sl20 sl21 sl22 sl23 sl24 sl25 sl26 sl27 sl28 sl29 sl30 sl31 sl32 sl33 sl34 sl35 sl36 sl37 sl38 sl39 sl40 : Array (Option Value)} {oc1 kV1 dc1 pm1 cd1 ct1 oc2 kV2 dc2 pm2 cd2 ct2 oc3 kV3 dc3 pm3 cd3 ct3 oc4 kV4 dc4 pm4 cd4 ct4 oc5 kV5 dc5 pm5 cd5 ct5 oc6 kV6 dc6 pm6 cd6 ct6 oc7 kV7 dc7 pm7 cd7 ct7 oc8 kV8 dc8 pm8 cd8 ct8 oc9 kV9 dc9 pm9 cd9 ct9 oc10 kV10 dc10 pm10 cd10 ct10 oc11 kV11 dc11 pm11 cd11 ct11 oc12 kV12 dc12 pm12 cd12 ct12 oc13 kV13 dc13 pm13 cd13 ct13 oc14 kV14 dc14 pm14 cd14 ct14 oc15 kV15 dc15 pm15 cd15 ct15 oc16 kV16 dc16 pm16 cd16 ct16 oc17 kV17 dc17 pm17 cd17 ct17 oc18 kV18 dc18 pm18 cd18 ct18 oc19 kV19 dc19 pm19 cd19 ct19 oc20 kV20 dc20 pm20 cd20 ct20 oc21 kV21 dc21 pm21 cd21 ct21 oc22 kV22 dc22 pm22 cd22 ct22 oc23 kV23 dc23 pm23 cd23 ct23 oc24 kV24 dc24 pm24 cd24 ct24 oc25 kV25 dc25 pm25 cd25 ct25 oc26 kV26 dc26 pm26 cd26 ct26 oc27 kV27 dc27 pm27 cd27 ct27 oc28 kV28 dc28 pm28 cd28 ct28 oc29 kV29 dc29 pm29 cd29 ct29 oc30 kV30 dc30 pm30 cd30 ct30 oc31 kV31 dc31 pm31 cd31 ct31 oc32 kV32 dc32 pm32 cd32 ct32 oc33 kV33 dc33 pm33 cd33 ct33 oc34 kV34 dc34 pm34 cd34 ct34 oc35 kV35 dc35 pm35 cd35 ct35 oc36 kV36 dc36 pm36 cd36 ct36 oc37 kV37 dc37 pm37 cd37 ct37 oc38 kV38 dc38 pm38 cd38 ct38 oc39 kV39 dc39 pm39 cd39 ct39 oc40 kV40 dc40 pm40 cd40 ct40 : Value} {nm_Full q_Full : Str} {N_Full B_Full : Addr} {bs_Full su_Full : List Value} {sn_Full : List Str} {ab_Full : Bool} {co_Full : Option Bool} {dd_Full : Option Addr} {m0_Full m1_Full m2_Full m3_Full m5_Full : Option Value} {nm_InvalidName q_InvalidName : Str} {N_InvalidName B_InvalidName : Addr} {bs_InvalidName su_InvalidName : List Value} {sn_InvalidName : List Str} {ab_InvalidName : Bool} {co_InvalidName : Option Bool} {dd_InvalidName : Option Addr} {m0_InvalidName m1_InvalidName m2_InvalidName m3_InvalidName m5_InvalidName : Option Value} {nm_DuplicateMake q_DuplicateMake : Str} {N_DuplicateMake B_DuplicateMake : Addr} {bs_DuplicateMake su_DuplicateMake : List Value} {sn_DuplicateMake : List Str} {ab_DuplicateMake : Bool} {co_DuplicateMake : Option Bool} {dd_DuplicateMake : Option Addr} {m0_DuplicateMake m1_DuplicateMake m2_DuplicateMake m3_DuplicateMake m5_DuplicateMake : Option Value} {nm_InvalidWord q_InvalidWord : Str} {N_InvalidWord B_InvalidWord : Addr} {bs_InvalidWord su_InvalidWord : List Value} {sn_InvalidWord : List Str} {ab_InvalidWord : Bool} {co_InvalidWord : Option Bool} {dd_InvalidWord : Option Addr} {m0_InvalidWord m1_InvalidWord m2_InvalidWord m3_InvalidWord m5_InvalidWord : Option Value} {nm_UnknownMake q_UnknownMake : Str} {N_UnknownMake B_UnknownMake : Addr} {bs_UnknownMake su_UnknownMake : List Value} {sn_UnknownMake : List Str} {ab_UnknownMake : Bool} {co_UnknownMake : Option Bool} {dd_UnknownMake : Option Addr} {m0_UnknownMake m1_UnknownMake m2_UnknownMake m3_UnknownMake m5_UnknownMake : Option Value} {nm_UnknownTrial q_UnknownTrial : Str} {N_UnknownTrial B_UnknownTrial : Addr} {bs_UnknownTrial su_UnknownTrial : List Value} {sn_UnknownTrial : List Str} {ab_UnknownTrial : Bool} {co_UnknownTrial : Option Bool} {dd_UnknownTrial : Option Addr} {m0_UnknownTrial m1_UnknownTrial m2_UnknownTrial m3_UnknownTrial m5_UnknownTrial : Option Value} {dT24 : Addr} {dN24 : Nat} {dO24 : Value} {dD24 : Option Addr} {dS24 : Array (Option Value)} {dE24_0 : Addr} {cr25 : List Value} {tk_LETTERS : Tok} {tk_LONGEST_NAME : Tok} {tk_MOST_MAKES : Tok} {tk_MOST_TRIALS : Tok} {pr_Order_makes : List Value} {ta_WORDS : Addr} {tn_WORDS : Nat} {ts_WORDS : Array (Option Value)} {tk_WORDS_0 tk_WORDS_1 : Tok} (X : K.In h) (G : h.Ns mainGlobals mg) (hfa : mg "law" = some (.ref fa))
    (g_Order : PySem.W.nsIn K mainGlobals "Order" = some (some (.ref C_Order)))
    (g_TrialList : PySem.W.nsIn K mainGlobals "TrialList" = some (some (.ref C_TrialList)))
    (a1 : PySem.W.nsIn K mainGlobals "_law_box" = some (some (.ref f_law_box)))
    (l1 : K.lookup f_law_box = some ⟨oc1, od1, .func (PySem.W.fnOf "_law_box" "_law_box" (defArgs (topS 27)) (defBody (topS 27)) (defScope (topS 27)) .none kV1 dc1 pm1 an1 cd1 ct1), sl1⟩)
    (c1 : PySem.W.codeIn K cd1 "_law_box" = true)
    (k1 : PySem.W.keepIn K (.ref f_law_box) = true)
    (a2 : PySem.W.nsIn K mainGlobals "_law_take" = some (some (.ref f_law_take)))
    (l2 : K.lookup f_law_take = some ⟨oc2, od2, .func (PySem.W.fnOf "_law_take" "_law_take" (defArgs (topS 28)) (defBody (topS 28)) (defScope (topS 28)) .none kV2 dc2 pm2 an2 cd2 ct2), sl2⟩)
    (c2 : PySem.W.codeIn K cd2 "_law_take" = true)
    (k2 : PySem.W.keepIn K (.ref f_law_take) = true)
    (a3 : PySem.W.nsIn K mainGlobals "_law_name" = some (some (.ref f_law_name)))
    (l3 : K.lookup f_law_name = some ⟨oc3, od3, .func (PySem.W.fnOf "_law_name" "_law_name" (defArgs (topS 29)) (defBody (topS 29)) (defScope (topS 29)) .none kV3 dc3 pm3 an3 cd3 ct3), sl3⟩)
    (c3 : PySem.W.codeIn K cd3 "_law_name" = true)
    (k3 : PySem.W.keepIn K (.ref f_law_name) = true)
    (a4 : PySem.W.nsIn K mainGlobals "_law_names" = some (some (.ref f_law_names)))
    (l4 : K.lookup f_law_names = some ⟨oc4, od4, .func (PySem.W.fnOf "_law_names" "_law_names" (defArgs (topS 30)) (defBody (topS 30)) (defScope (topS 30)) .none kV4 dc4 pm4 an4 cd4 ct4), sl4⟩)
    (c4 : PySem.W.codeIn K cd4 "_law_names" = true)
    (k4 : PySem.W.keepIn K (.ref f_law_names) = true)
    (a5 : PySem.W.nsIn K mainGlobals "check_name" = some (some (.ref f_check_name)))
    (l5 : K.lookup f_check_name = some ⟨oc5, od5, .func (PySem.W.fnOf "check_name" "check_name" (defArgs (topS 14)) (defBody (topS 14)) (defScope (topS 14)) .none kV5 dc5 pm5 an5 cd5 ct5), sl5⟩)
    (c5 : PySem.W.codeIn K cd5 "check_name" = true)
    (k5 : PySem.W.keepIn K (.ref f_check_name) = true)
    (a6 : PySem.W.nsIn K mainGlobals "check_makes" = some (some (.ref f_check_makes)))
    (l6 : K.lookup f_check_makes = some ⟨oc6, od6, .func (PySem.W.fnOf "check_makes" "check_makes" (defArgs (topS 15)) (defBody (topS 15)) (defScope (topS 15)) .none kV6 dc6 pm6 an6 cd6 ct6), sl6⟩)
    (c6 : PySem.W.codeIn K cd6 "check_makes" = true)
    (k6 : PySem.W.keepIn K (.ref f_check_makes) = true)
    (a7 : PySem.W.findIn K (.ref C_TrialList) "__init__" = some (some (.ref f_TrialList___init__)))
    (i7 : PySem.W.isFn K (.ref f_TrialList___init__) = true)
    (l7 : K.lookup f_TrialList___init__ = some ⟨oc7, od7, .func (PySem.W.fnOf "__init__" "TrialList.__init__" (defArgs (cls_st 25 1)) (defBody (cls_st 25 1)) (defScope (cls_st 25 1)) .none kV7 dc7 pm7 an7 cd7 ct7), sl7⟩)
    (c7 : PySem.W.codeIn K cd7 "TrialList.__init__" = true)
    (k7 : PySem.W.keepIn K (.ref f_TrialList___init__) = true)
    (a8 : PySem.W.findIn K (.ref C_TrialList) "add_make" = some (some (.ref f_TrialList_add_make)))
    (i8 : PySem.W.isFn K (.ref f_TrialList_add_make) = true)
    (l8 : K.lookup f_TrialList_add_make = some ⟨oc8, od8, .func (PySem.W.fnOf "add_make" "TrialList.add_make" (defArgs (cls_st 25 4)) (defBody (cls_st 25 4)) (defScope (cls_st 25 4)) .none kV8 dc8 pm8 an8 cd8 ct8), sl8⟩)
    (c8 : PySem.W.codeIn K cd8 "TrialList.add_make" = true)
    (k8 : PySem.W.keepIn K (.ref f_TrialList_add_make) = true)
    (a9 : PySem.W.nsIn K mainGlobals "_law_trial" = some (some (.ref f_law_trial)))
    (l9 : K.lookup f_law_trial = some ⟨oc9, od9, .func (PySem.W.fnOf "_law_trial" "_law_trial" (defArgs (topS 32)) (defBody (topS 32)) (defScope (topS 32)) .none kV9 dc9 pm9 an9 cd9 ct9), sl9⟩)
    (c9 : PySem.W.codeIn K cd9 "_law_trial" = true)
    (k9 : PySem.W.keepIn K (.ref f_law_trial) = true)
    (a10 : PySem.W.nsIn K mainGlobals "_law_raw_trials" = some (some (.ref f_law_raw_trials)))
    (l10 : K.lookup f_law_raw_trials = some ⟨oc10, od10, .func (PySem.W.fnOf "_law_raw_trials" "_law_raw_trials" (defArgs (topS 33)) (defBody (topS 33)) (defScope (topS 33)) .none kV10 dc10 pm10 an10 cd10 ct10), sl10⟩)
    (c10 : PySem.W.codeIn K cd10 "_law_raw_trials" = true)
    (k10 : PySem.W.keepIn K (.ref f_law_raw_trials) = true)
    (a11 : PySem.W.nsIn K mainGlobals "_law_rows_of" = some (some (.ref f_law_rows_of)))
    (l11 : K.lookup f_law_rows_of = some ⟨oc11, od11, .func (PySem.W.fnOf "_law_rows_of" "_law_rows_of" (defArgs (topS 31)) (defBody (topS 31)) (defScope (topS 31)) .none kV11 dc11 pm11 an11 cd11 ct11), sl11⟩)
    (c11 : PySem.W.codeIn K cd11 "_law_rows_of" = true)
    (k11 : PySem.W.keepIn K (.ref f_law_rows_of) = true)
    (a12 : PySem.W.nsIn K mainGlobals "check_known" = some (some (.ref f_check_known)))
    (l12 : K.lookup f_check_known = some ⟨oc12, od12, .func (PySem.W.fnOf "check_known" "check_known" (defArgs (topS 16)) (defBody (topS 16)) (defScope (topS 16)) .none kV12 dc12 pm12 an12 cd12 ct12), sl12⟩)
    (c12 : PySem.W.codeIn K cd12 "check_known" = true)
    (k12 : PySem.W.keepIn K (.ref f_check_known) = true)
    (a13 : PySem.W.findIn K (.ref C_TrialList) "check_trial" = some (some (.ref f_TrialList_check_trial)))
    (i13 : PySem.W.isFn K (.ref f_TrialList_check_trial) = true)
    (l13 : K.lookup f_TrialList_check_trial = some ⟨oc13, od13, .func (PySem.W.fnOf "check_trial" "TrialList.check_trial" (defArgs (cls_st 25 5)) (defBody (cls_st 25 5)) (defScope (cls_st 25 5)) .none kV13 dc13 pm13 an13 cd13 ct13), sl13⟩)
    (c13 : PySem.W.codeIn K cd13 "TrialList.check_trial" = true)
    (k13 : PySem.W.keepIn K (.ref f_TrialList_check_trial) = true)
    (a14 : PySem.W.findIn K (.ref C_TrialList) "keep" = some (some (.ref f_TrialList_keep)))
    (i14 : PySem.W.isFn K (.ref f_TrialList_keep) = true)
    (l14 : K.lookup f_TrialList_keep = some ⟨oc14, od14, .func (PySem.W.fnOf "keep" "TrialList.keep" (defArgs (cls_st 25 6)) (defBody (cls_st 25 6)) (defScope (cls_st 25 6)) .none kV14 dc14 pm14 an14 cd14 ct14), sl14⟩)
    (c14 : PySem.W.codeIn K cd14 "TrialList.keep" = true)
    (k14 : PySem.W.keepIn K (.ref f_TrialList_keep) = true)
    (a15 : PySem.W.findIn K (.ref C_TrialList) "note" = some (some (.ref f_TrialList_note)))
    (i15 : PySem.W.isFn K (.ref f_TrialList_note) = true)
    (l15 : K.lookup f_TrialList_note = some ⟨oc15, od15, .func (PySem.W.fnOf "note" "TrialList.note" (defArgs (cls_st 25 7)) (defBody (cls_st 25 7)) (defScope (cls_st 25 7)) .none kV15 dc15 pm15 an15 cd15 ct15), sl15⟩)
    (c15 : PySem.W.codeIn K cd15 "TrialList.note" = true)
    (k15 : PySem.W.keepIn K (.ref f_TrialList_note) = true)
    (a16 : PySem.W.findIn K (.ref C_TrialList) "trial" = some (some (.ref f_TrialList_trial)))
    (i16 : PySem.W.isFn K (.ref f_TrialList_trial) = true)
    (l16 : K.lookup f_TrialList_trial = some ⟨oc16, od16, .func (PySem.W.fnOf "trial" "TrialList.trial" (defArgs (cls_st 25 8)) (defBody (cls_st 25 8)) (defScope (cls_st 25 8)) .none kV16 dc16 pm16 an16 cd16 ct16), sl16⟩)
    (c16 : PySem.W.codeIn K cd16 "TrialList.trial" = true)
    (k16 : PySem.W.keepIn K (.ref f_TrialList_trial) = true)
    (a17 : PySem.W.findIn K (.ref C_TrialList) "retract" = some (some (.ref f_TrialList_retract)))
    (i17 : PySem.W.isFn K (.ref f_TrialList_retract) = true)
    (l17 : K.lookup f_TrialList_retract = some ⟨oc17, od17, .func (PySem.W.fnOf "retract" "TrialList.retract" (defArgs (cls_st 25 9)) (defBody (cls_st 25 9)) (defScope (cls_st 25 9)) .none kV17 dc17 pm17 an17 cd17 ct17), sl17⟩)
    (c17 : PySem.W.codeIn K cd17 "TrialList.retract" = true)
    (k17 : PySem.W.keepIn K (.ref f_TrialList_retract) = true)
    (a18 : PySem.W.nsIn K mainGlobals "_law_gapped" = some (some (.ref f_law_gapped)))
    (l18 : K.lookup f_law_gapped = some ⟨oc18, od18, .func (PySem.W.fnOf "_law_gapped" "_law_gapped" (defArgs (topS 34)) (defBody (topS 34)) (defScope (topS 34)) .none kV18 dc18 pm18 an18 cd18 ct18), sl18⟩)
    (c18 : PySem.W.codeIn K cd18 "_law_gapped" = true)
    (k18 : PySem.W.keepIn K (.ref f_law_gapped) = true)
    (a19 : PySem.W.nsIn K mainGlobals "_law_drawn_pairs" = some (some (.ref f_law_drawn_pairs)))
    (l19 : K.lookup f_law_drawn_pairs = some ⟨oc19, od19, .func (PySem.W.fnOf "_law_drawn_pairs" "_law_drawn_pairs" (defArgs (topS 35)) (defBody (topS 35)) (defScope (topS 35)) .none kV19 dc19 pm19 an19 cd19 ct19), sl19⟩)
    (c19 : PySem.W.codeIn K cd19 "_law_drawn_pairs" = true)
    (k19 : PySem.W.keepIn K (.ref f_law_drawn_pairs) = true)
    (a20 : PySem.W.nsIn K mainGlobals "_law_named" = some (some (.ref f_law_named)))
    (l20 : K.lookup f_law_named = some ⟨oc20, od20, .func (PySem.W.fnOf "_law_named" "_law_named" (defArgs (topS 36)) (defBody (topS 36)) (defScope (topS 36)) .none kV20 dc20 pm20 an20 cd20 ct20), sl20⟩)
    (c20 : PySem.W.codeIn K cd20 "_law_named" = true)
    (k20 : PySem.W.keepIn K (.ref f_law_named) = true)
    (a21 : PySem.W.nsIn K mainGlobals "check_pairs" = some (some (.ref f_check_pairs)))
    (l21 : K.lookup f_check_pairs = some ⟨oc21, od21, .func (PySem.W.fnOf "check_pairs" "check_pairs" (defArgs (topS 17)) (defBody (topS 17)) (defScope (topS 17)) .none kV21 dc21 pm21 an21 cd21 ct21), sl21⟩)
    (c21 : PySem.W.codeIn K cd21 "check_pairs" = true)
    (k21 : PySem.W.keepIn K (.ref f_check_pairs) = true)
    (a22 : PySem.W.nsIn K mainGlobals "closed_rows" = some (some (.ref f_closed_rows)))
    (l22 : K.lookup f_closed_rows = some ⟨oc22, od22, .func (PySem.W.fnOf "closed_rows" "closed_rows" (defArgs (topS 19)) (defBody (topS 19)) (defScope (topS 19)) .none kV22 dc22 pm22 an22 cd22 ct22), sl22⟩)
    (c22 : PySem.W.codeIn K cd22 "closed_rows" = true)
    (k22 : PySem.W.keepIn K (.ref f_closed_rows) = true)
    (a23 : PySem.W.nsIn K mainGlobals "rows_of" = some (some (.ref f_rows_of)))
    (l23 : K.lookup f_rows_of = some ⟨oc23, od23, .func (PySem.W.fnOf "rows_of" "rows_of" (defArgs (topS 20)) (defBody (topS 20)) (defScope (topS 20)) .none kV23 dc23 pm23 an23 cd23 ct23), sl23⟩)
    (c23 : PySem.W.codeIn K cd23 "rows_of" = true)
    (k23 : PySem.W.keepIn K (.ref f_rows_of) = true)
    (a24 : PySem.W.findIn K (.ref C_Order) "__init__" = some (some (.ref f_Order___init__)))
    (i24 : PySem.W.isFn K (.ref f_Order___init__) = true)
    (l24 : K.lookup f_Order___init__ = some ⟨oc24, od24, .func (PySem.W.fnOf "__init__" "Order.__init__" (defArgs (cls_st 21 1)) (defBody (cls_st 21 1)) (defScope (cls_st 21 1)) (.ref dT24) kV24 dc24 pm24 an24 cd24 ct24), sl24⟩)
    (c24 : PySem.W.codeIn K cd24 "Order.__init__" = true)
    (k24 : PySem.W.keepIn K (.ref f_Order___init__) = true)
    (d24 : K.lookup dT24 = some ⟨dO24, dD24, .seq #[.ref dE24_0] dN24, dS24⟩)
    (a25 : PySem.W.findIn K (.ref C_TrialList) "makes" = some (some (.ref pp_TrialList_makes)))
    (i25 : PySem.W.specialIn K (.ref pp_TrialList_makes) "__get__" = some (some (.builtin "property.__get__")))
    (r25 : PySem.W.takesIn K (.ref pp_TrialList_makes) = some true)
    (y25 : PySem.W.recIn K pp_TrialList_makes "property" = some (.ref f_TrialList_makes :: cr25))
    (l25 : K.lookup f_TrialList_makes = some ⟨oc25, od25, .func (PySem.W.fnOf "makes" "TrialList.makes" (defArgs (cls_st 25 2)) (defBody (cls_st 25 2)) (defScope (cls_st 25 2)) .none kV25 dc25 pm25 an25 cd25 ct25), sl25⟩)
    (c25 : PySem.W.codeIn K cd25 "TrialList.makes" = true)
    (k25 : PySem.W.keepIn K (.ref f_TrialList_makes) = true)
    (a26 : PySem.W.findIn K (.ref C_Order) "has" = some (some (.ref f_Order_has)))
    (i26 : PySem.W.isFn K (.ref f_Order_has) = true)
    (l26 : K.lookup f_Order_has = some ⟨oc26, od26, .func (PySem.W.fnOf "has" "Order.has" (defArgs (cls_st 21 5)) (defBody (cls_st 21 5)) (defScope (cls_st 21 5)) .none kV26 dc26 pm26 an26 cd26 ct26), sl26⟩)
    (c26 : PySem.W.codeIn K cd26 "Order.has" = true)
    (k26 : PySem.W.keepIn K (.ref f_Order_has) = true)
    (a27 : PySem.W.findIn K (.ref C_TrialList) "against" = some (some (.ref f_TrialList_against)))
    (i27 : PySem.W.isFn K (.ref f_TrialList_against) = true)
    (l27 : K.lookup f_TrialList_against = some ⟨oc27, od27, .func (PySem.W.fnOf "against" "TrialList.against" (defArgs (cls_st 25 11)) (defBody (cls_st 25 11)) (defScope (cls_st 25 11)) .none kV27 dc27 pm27 an27 cd27 ct27), sl27⟩)
    (c27 : PySem.W.codeIn K cd27 "TrialList.against" = true)
    (k27 : PySem.W.keepIn K (.ref f_TrialList_against) = true)
    (a28 : PySem.W.findIn K (.ref C_TrialList) "admits" = some (some (.ref f_TrialList_admits)))
    (i28 : PySem.W.isFn K (.ref f_TrialList_admits) = true)
    (l28 : K.lookup f_TrialList_admits = some ⟨oc28, od28, .func (PySem.W.fnOf "admits" "TrialList.admits" (defArgs (cls_st 25 12)) (defBody (cls_st 25 12)) (defScope (cls_st 25 12)) .none kV28 dc28 pm28 an28 cd28 ct28), sl28⟩)
    (c28 : PySem.W.codeIn K cd28 "TrialList.admits" = true)
    (k28 : PySem.W.keepIn K (.ref f_TrialList_admits) = true)
    (a29 : PySem.W.nsIn K mainGlobals "_law_refused" = some (some (.ref f_law_refused)))
    (l29 : K.lookup f_law_refused = some ⟨oc29, od29, .func (PySem.W.fnOf "_law_refused" "_law_refused" (defArgs (topS 40)) (defBody (topS 40)) (defScope (topS 40)) .none kV29 dc29 pm29 an29 cd29 ct29), sl29⟩)
    (c29 : PySem.W.codeIn K cd29 "_law_refused" = true)
    (k29 : PySem.W.keepIn K (.ref f_law_refused) = true)
    (a30 : PySem.W.nsIn K mainGlobals "_law_closed" = some (some (.ref f_law_closed)))
    (l30 : K.lookup f_law_closed = some ⟨oc30, od30, .func (PySem.W.fnOf "_law_closed" "_law_closed" (defArgs (topS 37)) (defBody (topS 37)) (defScope (topS 37)) .none kV30 dc30 pm30 an30 cd30 ct30), sl30⟩)
    (c30 : PySem.W.codeIn K cd30 "_law_closed" = true)
    (k30 : PySem.W.keepIn K (.ref f_law_closed) = true)
    (a31 : PySem.W.nsIn K mainGlobals "_law_is_int" = some (some (.ref f_law_is_int)))
    (l31 : K.lookup f_law_is_int = some ⟨oc31, od31, .func (PySem.W.fnOf "_law_is_int" "_law_is_int" (defArgs (topS 38)) (defBody (topS 38)) (defScope (topS 38)) .none kV31 dc31 pm31 an31 cd31 ct31), sl31⟩)
    (c31 : PySem.W.codeIn K cd31 "_law_is_int" = true)
    (k31 : PySem.W.keepIn K (.ref f_law_is_int) = true)
    (a32 : PySem.W.nsIn K mainGlobals "_law_are_ints" = some (some (.ref f_law_are_ints)))
    (l32 : K.lookup f_law_are_ints = some ⟨oc32, od32, .func (PySem.W.fnOf "_law_are_ints" "_law_are_ints" (defArgs (topS 39)) (defBody (topS 39)) (defScope (topS 39)) .none kV32 dc32 pm32 an32 cd32 ct32), sl32⟩)
    (c32 : PySem.W.codeIn K cd32 "_law_are_ints" = true)
    (k32 : PySem.W.keepIn K (.ref f_law_are_ints) = true)
    (a33 : PySem.W.nsIn K mainGlobals "law" = some (some (.ref f_law)))
    (l33 : K.lookup f_law = some ⟨oc33, od33, .func (PySem.W.fnOf "law" "law" (defArgs (topS 41)) (defBody (topS 41)) (defScope (topS 41)) .none kV33 dc33 pm33 an33 cd33 ct33), sl33⟩)
    (c33 : PySem.W.codeIn K cd33 "law" = true)
    (k33 : PySem.W.keepIn K (.ref f_law) = true)
    (g_Full : PySem.W.nsIn K mainGlobals "Full" = some (some (.ref C_Full)))
    (g_InvalidName : PySem.W.nsIn K mainGlobals "InvalidName" = some (some (.ref C_InvalidName)))
    (g_DuplicateMake : PySem.W.nsIn K mainGlobals "DuplicateMake" = some (some (.ref C_DuplicateMake)))
    (g_InvalidWord : PySem.W.nsIn K mainGlobals "InvalidWord" = some (some (.ref C_InvalidWord)))
    (g_UnknownMake : PySem.W.nsIn K mainGlobals "UnknownMake" = some (some (.ref C_UnknownMake)))
    (g_UnknownTrial : PySem.W.nsIn K mainGlobals "UnknownTrial" = some (some (.ref C_UnknownTrial)))
    (g_UnlikeMakes : PySem.W.nsIn K mainGlobals "UnlikeMakes" = some (some (.ref C_UnlikeMakes)))
    (e_Full : PySem.W.subIn K (.ref C_Full) (.type "BaseException") = some true)
    (ty_Full : PySem.W.typeIn K (.ref C_Full) = some (.type "type"))
    (e_InvalidName : PySem.W.subIn K (.ref C_InvalidName) (.type "BaseException") = some true)
    (ty_InvalidName : PySem.W.typeIn K (.ref C_InvalidName) = some (.type "type"))
    (e_DuplicateMake : PySem.W.subIn K (.ref C_DuplicateMake) (.type "BaseException") = some true)
    (ty_DuplicateMake : PySem.W.typeIn K (.ref C_DuplicateMake) = some (.type "type"))
    (e_InvalidWord : PySem.W.subIn K (.ref C_InvalidWord) (.type "BaseException") = some true)
    (ty_InvalidWord : PySem.W.typeIn K (.ref C_InvalidWord) = some (.type "type"))
    (e_UnknownMake : PySem.W.subIn K (.ref C_UnknownMake) (.type "BaseException") = some true)
    (ty_UnknownMake : PySem.W.typeIn K (.ref C_UnknownMake) = some (.type "type"))
    (e_UnknownTrial : PySem.W.subIn K (.ref C_UnknownTrial) (.type "BaseException") = some true)
    (ty_UnknownTrial : PySem.W.typeIn K (.ref C_UnknownTrial) = some (.type "type"))
    (e_UnlikeMakes : PySem.W.subIn K (.ref C_UnlikeMakes) (.type "BaseException") = some true)
    (ty_UnlikeMakes : PySem.W.typeIn K (.ref C_UnlikeMakes) = some (.type "type"))
    (is_UnlikeMakes : PySem.W.isClsIn K C_UnlikeMakes = true)
    (sb_Full_UnlikeMakes : PySem.W.subIn K (.ref C_Full) (.ref C_UnlikeMakes) = some false)
    (sb_InvalidName_UnlikeMakes : PySem.W.subIn K (.ref C_InvalidName) (.ref C_UnlikeMakes) = some false)
    (sb_DuplicateMake_UnlikeMakes : PySem.W.subIn K (.ref C_DuplicateMake) (.ref C_UnlikeMakes) = some false)
    (sb_InvalidWord_UnlikeMakes : PySem.W.subIn K (.ref C_InvalidWord) (.ref C_UnlikeMakes) = some false)
    (sb_UnknownMake_UnlikeMakes : PySem.W.subIn K (.ref C_UnknownMake) (.ref C_UnlikeMakes) = some false)
    (sb_UnknownTrial_UnlikeMakes : PySem.W.subIn K (.ref C_UnknownTrial) (.ref C_UnlikeMakes) = some false)
    (sb_UnlikeMakes_UnlikeMakes : PySem.W.subIn K (.ref C_UnlikeMakes) (.ref C_UnlikeMakes) = some true)
    (sb_Order_UnlikeMakes : PySem.W.subIn K (.ref C_Order) (.ref C_UnlikeMakes) = some false)
    (sb_TrialList_UnlikeMakes : PySem.W.subIn K (.ref C_TrialList) (.ref C_UnlikeMakes) = some false)
    (xl_Full : K.lookup C_Full = some (excClassObj nm_Full q_Full C_Full N_Full bs_Full (.ref B_Full :: [.type "ValueError", .type "Exception", .type "BaseException", .type "object"]) true sn_Full su_Full ab_Full co_Full dd_Full m0_Full m1_Full m2_Full m3_Full m5_Full "ValueError.__new__"))
    (sa_Full : PySem.W.findIn K (.ref C_Full) "__setattr__" = some (some (.builtin "object.__setattr__")))
    (kc_Full : PySem.W.keepIn K (.ref C_Full) = true)
    (nf_Full_most : PySem.W.findIn K (.ref C_Full) "most" = some none)
    (i_Full : PySem.W.findIn K (.ref C_Full) "__init__" = some (some (.ref fi_Full)))
    (t_Full : PySem.W.typeIn K (.ref fi_Full) = some (.type "function"))
    (l34 : K.lookup fi_Full = some ⟨oc34, od34, .func (PySem.W.fnOf "__init__" "Full.__init__" (defArgs (cls_st 7 0)) (defBody (cls_st 7 0)) (defScope (cls_st 7 0)) .none kV34 dc34 pm34 an34 cd34 ct34), sl34⟩)
    (c34 : PySem.W.codeIn K cd34 "Full.__init__" = true)
    (k34 : PySem.W.keepIn K (.ref fi_Full) = true)
    (xl_InvalidName : K.lookup C_InvalidName = some (excClassObj nm_InvalidName q_InvalidName C_InvalidName N_InvalidName bs_InvalidName (.ref B_InvalidName :: [.type "ValueError", .type "Exception", .type "BaseException", .type "object"]) true sn_InvalidName su_InvalidName ab_InvalidName co_InvalidName dd_InvalidName m0_InvalidName m1_InvalidName m2_InvalidName m3_InvalidName m5_InvalidName "ValueError.__new__"))
    (sa_InvalidName : PySem.W.findIn K (.ref C_InvalidName) "__setattr__" = some (some (.builtin "object.__setattr__")))
    (kc_InvalidName : PySem.W.keepIn K (.ref C_InvalidName) = true)
    (nf_InvalidName_name : PySem.W.findIn K (.ref C_InvalidName) "name" = some none)
    (i_InvalidName : PySem.W.findIn K (.ref C_InvalidName) "__init__" = some (some (.ref fi_InvalidName)))
    (t_InvalidName : PySem.W.typeIn K (.ref fi_InvalidName) = some (.type "function"))
    (l35 : K.lookup fi_InvalidName = some ⟨oc35, od35, .func (PySem.W.fnOf "__init__" "InvalidName.__init__" (defArgs (cls_st 3 0)) (defBody (cls_st 3 0)) (defScope (cls_st 3 0)) .none kV35 dc35 pm35 an35 cd35 ct35), sl35⟩)
    (c35 : PySem.W.codeIn K cd35 "InvalidName.__init__" = true)
    (k35 : PySem.W.keepIn K (.ref fi_InvalidName) = true)
    (xl_DuplicateMake : K.lookup C_DuplicateMake = some (excClassObj nm_DuplicateMake q_DuplicateMake C_DuplicateMake N_DuplicateMake bs_DuplicateMake (.ref B_DuplicateMake :: [.type "ValueError", .type "Exception", .type "BaseException", .type "object"]) true sn_DuplicateMake su_DuplicateMake ab_DuplicateMake co_DuplicateMake dd_DuplicateMake m0_DuplicateMake m1_DuplicateMake m2_DuplicateMake m3_DuplicateMake m5_DuplicateMake "ValueError.__new__"))
    (sa_DuplicateMake : PySem.W.findIn K (.ref C_DuplicateMake) "__setattr__" = some (some (.builtin "object.__setattr__")))
    (kc_DuplicateMake : PySem.W.keepIn K (.ref C_DuplicateMake) = true)
    (nf_DuplicateMake_name : PySem.W.findIn K (.ref C_DuplicateMake) "name" = some none)
    (i_DuplicateMake : PySem.W.findIn K (.ref C_DuplicateMake) "__init__" = some (some (.ref fi_DuplicateMake)))
    (t_DuplicateMake : PySem.W.typeIn K (.ref fi_DuplicateMake) = some (.type "function"))
    (l36 : K.lookup fi_DuplicateMake = some ⟨oc36, od36, .func (PySem.W.fnOf "__init__" "DuplicateMake.__init__" (defArgs (cls_st 4 0)) (defBody (cls_st 4 0)) (defScope (cls_st 4 0)) .none kV36 dc36 pm36 an36 cd36 ct36), sl36⟩)
    (c36 : PySem.W.codeIn K cd36 "DuplicateMake.__init__" = true)
    (k36 : PySem.W.keepIn K (.ref fi_DuplicateMake) = true)
    (xl_InvalidWord : K.lookup C_InvalidWord = some (excClassObj nm_InvalidWord q_InvalidWord C_InvalidWord N_InvalidWord bs_InvalidWord (.ref B_InvalidWord :: [.type "ValueError", .type "Exception", .type "BaseException", .type "object"]) true sn_InvalidWord su_InvalidWord ab_InvalidWord co_InvalidWord dd_InvalidWord m0_InvalidWord m1_InvalidWord m2_InvalidWord m3_InvalidWord m5_InvalidWord "ValueError.__new__"))
    (sa_InvalidWord : PySem.W.findIn K (.ref C_InvalidWord) "__setattr__" = some (some (.builtin "object.__setattr__")))
    (kc_InvalidWord : PySem.W.keepIn K (.ref C_InvalidWord) = true)
    (nf_InvalidWord_word : PySem.W.findIn K (.ref C_InvalidWord) "word" = some none)
    (i_InvalidWord : PySem.W.findIn K (.ref C_InvalidWord) "__init__" = some (some (.ref fi_InvalidWord)))
    (t_InvalidWord : PySem.W.typeIn K (.ref fi_InvalidWord) = some (.type "function"))
    (l37 : K.lookup fi_InvalidWord = some ⟨oc37, od37, .func (PySem.W.fnOf "__init__" "InvalidWord.__init__" (defArgs (cls_st 6 0)) (defBody (cls_st 6 0)) (defScope (cls_st 6 0)) .none kV37 dc37 pm37 an37 cd37 ct37), sl37⟩)
    (c37 : PySem.W.codeIn K cd37 "InvalidWord.__init__" = true)
    (k37 : PySem.W.keepIn K (.ref fi_InvalidWord) = true)
    (xl_UnknownMake : K.lookup C_UnknownMake = some (excClassObj nm_UnknownMake q_UnknownMake C_UnknownMake N_UnknownMake bs_UnknownMake (.ref B_UnknownMake :: [.type "ValueError", .type "Exception", .type "BaseException", .type "object"]) true sn_UnknownMake su_UnknownMake ab_UnknownMake co_UnknownMake dd_UnknownMake m0_UnknownMake m1_UnknownMake m2_UnknownMake m3_UnknownMake m5_UnknownMake "ValueError.__new__"))
    (sa_UnknownMake : PySem.W.findIn K (.ref C_UnknownMake) "__setattr__" = some (some (.builtin "object.__setattr__")))
    (kc_UnknownMake : PySem.W.keepIn K (.ref C_UnknownMake) = true)
    (nf_UnknownMake_name : PySem.W.findIn K (.ref C_UnknownMake) "name" = some none)
    (i_UnknownMake : PySem.W.findIn K (.ref C_UnknownMake) "__init__" = some (some (.ref fi_UnknownMake)))
    (t_UnknownMake : PySem.W.typeIn K (.ref fi_UnknownMake) = some (.type "function"))
    (l38 : K.lookup fi_UnknownMake = some ⟨oc38, od38, .func (PySem.W.fnOf "__init__" "UnknownMake.__init__" (defArgs (cls_st 5 0)) (defBody (cls_st 5 0)) (defScope (cls_st 5 0)) .none kV38 dc38 pm38 an38 cd38 ct38), sl38⟩)
    (c38 : PySem.W.codeIn K cd38 "UnknownMake.__init__" = true)
    (k38 : PySem.W.keepIn K (.ref fi_UnknownMake) = true)
    (xl_UnknownTrial : K.lookup C_UnknownTrial = some (excClassObj nm_UnknownTrial q_UnknownTrial C_UnknownTrial N_UnknownTrial bs_UnknownTrial (.ref B_UnknownTrial :: [.type "ValueError", .type "Exception", .type "BaseException", .type "object"]) true sn_UnknownTrial su_UnknownTrial ab_UnknownTrial co_UnknownTrial dd_UnknownTrial m0_UnknownTrial m1_UnknownTrial m2_UnknownTrial m3_UnknownTrial m5_UnknownTrial "ValueError.__new__"))
    (sa_UnknownTrial : PySem.W.findIn K (.ref C_UnknownTrial) "__setattr__" = some (some (.builtin "object.__setattr__")))
    (kc_UnknownTrial : PySem.W.keepIn K (.ref C_UnknownTrial) = true)
    (nf_UnknownTrial_number : PySem.W.findIn K (.ref C_UnknownTrial) "number" = some none)
    (i_UnknownTrial : PySem.W.findIn K (.ref C_UnknownTrial) "__init__" = some (some (.ref fi_UnknownTrial)))
    (t_UnknownTrial : PySem.W.typeIn K (.ref fi_UnknownTrial) = some (.type "function"))
    (l39 : K.lookup fi_UnknownTrial = some ⟨oc39, od39, .func (PySem.W.fnOf "__init__" "UnknownTrial.__init__" (defArgs (cls_st 9 0)) (defBody (cls_st 9 0)) (defScope (cls_st 9 0)) .none kV39 dc39 pm39 an39 cd39 ct39), sl39⟩)
    (c39 : PySem.W.codeIn K cd39 "UnknownTrial.__init__" = true)
    (k39 : PySem.W.keepIn K (.ref fi_UnknownTrial) = true)
    (pg_Order : PySem.W.plainGet K C_Order Str.empty = true)
    (hd_Order : PySem.W.hasDictIn K C_Order = true)
    (po_Order : PySem.W.plainOver K C_Order = true)
    (sa_Order : PySem.W.findIn K (.ref C_Order) "__setattr__" = some (some (.builtin "object.__setattr__")))
    (pg_TrialList : PySem.W.plainGet K C_TrialList Str.empty = true)
    (hd_TrialList : PySem.W.hasDictIn K C_TrialList = true)
    (po_TrialList : PySem.W.plainOver K C_TrialList = true)
    (sa_TrialList : PySem.W.findIn K (.ref C_TrialList) "__setattr__" = some (some (.builtin "object.__setattr__")))
    (kk_LETTERS : PySem.W.nsIn K mainGlobals "LETTERS" = some (some (.str "abcdefghijklmnopqrstuvwxyz" tk_LETTERS)))
    (kk_LONGEST_NAME : PySem.W.nsIn K mainGlobals "LONGEST_NAME" = some (some (.int 12 tk_LONGEST_NAME)))
    (kk_MOST_MAKES : PySem.W.nsIn K mainGlobals "MOST_MAKES" = some (some (.int 12 tk_MOST_MAKES)))
    (kk_MOST_TRIALS : PySem.W.nsIn K mainGlobals "MOST_TRIALS" = some (some (.int 60 tk_MOST_TRIALS)))
    (nf_Order_names : PySem.W.findIn K (.ref C_Order) "names" = some none)
    (nf_Order_rows : PySem.W.findIn K (.ref C_Order) "rows" = some none)
    (nf_TrialList_given : PySem.W.findIn K (.ref C_TrialList) "given" = some none)
    (nf_TrialList_kept : PySem.W.findIn K (.ref C_TrialList) "kept" = some none)
    (nf_TrialList_names : PySem.W.findIn K (.ref C_TrialList) "names" = some none)
    (mk_Order : PySem.W.makesIn K C_Order = true)
    (kc_Order : PySem.W.keepIn K (.ref C_Order) = true)
    (mk_TrialList : PySem.W.makesIn K C_TrialList = true)
    (kc_TrialList : PySem.W.keepIn K (.ref C_TrialList) = true)
    (pa_Order_makes : PySem.W.findIn K (.ref C_Order) "makes" = some (some (.ref pp_Order_makes)))
    (pg_Order_makes : PySem.W.specialIn K (.ref pp_Order_makes) "__get__" = some (some (.builtin "property.__get__")))
    (pt_Order_makes : PySem.W.takesIn K (.ref pp_Order_makes) = some true)
    (pc_Order_makes : PySem.W.recIn K pp_Order_makes "property" = some (.ref fp_Order_makes :: pr_Order_makes))
    (l40 : K.lookup fp_Order_makes = some ⟨oc40, od40, .func (PySem.W.fnOf "makes" "Order.makes" (defArgs (cls_st 21 4)) (defBody (cls_st 21 4)) (defScope (cls_st 21 4)) .none kV40 dc40 pm40 an40 cd40 ct40), sl40⟩)
    (c40 : PySem.W.codeIn K cd40 "Order.makes" = true)
    (k40 : PySem.W.keepIn K (.ref fp_Order_makes) = true)
    (xq_UnlikeMakes : PySem.W.excIn K C_UnlikeMakes [.type "ValueError", .type "Exception", .type "BaseException", .type "object"] "ValueError.__new__" = true)
    (kc_UnlikeMakes : PySem.W.keepIn K (.ref C_UnlikeMakes) = true)
    (kt_WORDS : PySem.W.nsIn K mainGlobals "WORDS" = some (some (.ref ta_WORDS)))
    (kl_WORDS : K.lookup ta_WORDS = some ⟨.type "tuple", none, .seq #[.str "sits" tk_WORDS_0, .str "refuses" tk_WORDS_1] tn_WORDS, ts_WORDS⟩)
    (z0 : PySem.W.nsIn K mainGlobals "bool" = some none)
    (z1 : PySem.W.nsIn K mainGlobals "enumerate" = some none)
    (z2 : PySem.W.nsIn K mainGlobals "int" = some none)
    (z3 : PySem.W.nsIn K mainGlobals "isinstance" = some none)
    (z4 : PySem.W.nsIn K mainGlobals "len" = some none)
    (z5 : PySem.W.nsIn K mainGlobals "list" = some none)
    (z6 : PySem.W.nsIn K mainGlobals "min" = some none)
    (z7 : PySem.W.nsIn K mainGlobals "range" = some none)
    (z8 : PySem.W.nsIn K mainGlobals "tuple" = some none)
    (hm : ∀ ns : List Int, ns.length ≤ 63 → ∃ os, m_law [scr ns] = .ok (.bl true) os) :
    ∃ fd : FuncData, (∀ (s : Shared) (v : Value), BindsTo s fd ⟨[v], []⟩ [("_law_script", v)]) ∧ ∀ base : Heap, K.In base → base.Ns mainGlobals mg → FnOk P w K mg base (L2.CX P w) 7 fa fd ["_law_script"] (spLaw K 63) := by
  have e := hfa.symm.trans (PySem.W.mg_of X G a33)
  cases e
  have F1 := fun_mk (st := (topS 27)) l1 c1 k1
  have B1 := F1.binds (ps := ["_law_script"]) fun _ _ _ _ _ _ us hl => match us, hl with | [_], _ => rfl
  have F2 := fun_mk (st := (topS 28)) l2 c2 k2
  have B2 := F2.binds (ps := ["_law_box_here", "_law_many"]) fun _ _ _ _ _ _ us hl => match us, hl with | [_, _], _ => rfl
  have F3 := fun_mk (st := (topS 29)) l3 c3 k3
  have B3 := F3.binds (ps := ["_law_box_here", "_law_names_here"]) fun _ _ _ _ _ _ us hl => match us, hl with | [_, _], _ => rfl
  have F4 := fun_mk (st := (topS 30)) l4 c4 k4
  have B4 := F4.binds (ps := ["_law_box_here", "_law_size"]) fun _ _ _ _ _ _ us hl => match us, hl with | [_, _], _ => rfl
  have F5 := fun_mk (st := (topS 14)) l5 c5 k5
  have B5 := F5.binds (ps := ["name"]) fun _ _ _ _ _ _ us hl => match us, hl with | [_], _ => rfl
  have F6 := fun_mk (st := (topS 15)) l6 c6 k6
  have B6 := F6.binds (ps := ["makes"]) fun _ _ _ _ _ _ us hl => match us, hl with | [_], _ => rfl
  have F7 := fun_mk (st := (cls_st 25 1)) l7 c7 k7
  have B7 : BindsS (PySem.W.fnOf "__init__" "TrialList.__init__" (defArgs (cls_st 25 1)) (defBody (cls_st 25 1)) (defScope (cls_st 25 1)) .none kV7 dc7 pm7 an7 cd7 ct7) ["self"] "makes" := StX.bind_star1 (B := fun us => bindArgs (PySem.W.fnOf "__init__" "TrialList.__init__" (defArgs (cls_st 25 1)) (defBody (cls_st 25 1)) (defScope (cls_st 25 1)) .none kV7 dc7 pm7 an7 cd7 ct7) ⟨us, []⟩) (fun _ => rfl) (fun _ _ _ => rfl)
  have F8 := fun_mk (st := (cls_st 25 4)) l8 c8 k8
  have B8 := F8.binds (ps := ["self", "name"]) fun _ _ _ _ _ _ us hl => match us, hl with | [_, _], _ => rfl
  have F9 := fun_mk (st := (topS 32)) l9 c9 k9
  have B9 := F9.binds (ps := ["_law_box_here", "_law_size"]) fun _ _ _ _ _ _ us hl => match us, hl with | [_, _], _ => rfl
  have F10 := fun_mk (st := (topS 33)) l10 c10 k10
  have B10 := F10.binds (ps := ["_law_box_here", "_law_size", "_law_count"]) fun _ _ _ _ _ _ us hl => match us, hl with | [_, _, _], _ => rfl
  have F11 := fun_mk (st := (topS 31)) l11 c11 k11
  have B11 := F11.binds (ps := ["_law_trials"]) fun _ _ _ _ _ _ us hl => match us, hl with | [_], _ => rfl
  have F12 := fun_mk (st := (topS 16)) l12 c12 k12
  have B12 := F12.binds (ps := ["makes", "names"]) fun _ _ _ _ _ _ us hl => match us, hl with | [_, _], _ => rfl
  have F13 := fun_mk (st := (cls_st 25 5)) l13 c13 k13
  have B13 := F13.binds (ps := ["self", "word", "upper", "lower"]) fun _ _ _ _ _ _ us hl => match us, hl with | [_, _, _, _], _ => rfl
  have F14 := fun_mk (st := (cls_st 25 6)) l14 c14 k14
  have B14 := F14.binds (ps := ["self", "word", "upper", "lower"]) fun _ _ _ _ _ _ us hl => match us, hl with | [_, _, _, _], _ => rfl
  have F15 := fun_mk (st := (cls_st 25 7)) l15 c15 k15
  have B15 := F15.binds (ps := ["self", "word", "upper", "lower"]) fun _ _ _ _ _ _ us hl => match us, hl with | [_, _, _, _], _ => rfl
  have F16 := fun_mk (st := (cls_st 25 8)) l16 c16 k16
  have B16 := F16.binds (ps := ["self", "number"]) fun _ _ _ _ _ _ us hl => match us, hl with | [_, _], _ => rfl
  have F17 := fun_mk (st := (cls_st 25 9)) l17 c17 k17
  have B17 := F17.binds (ps := ["self", "number"]) fun _ _ _ _ _ _ us hl => match us, hl with | [_, _], _ => rfl
  have F18 := fun_mk (st := (topS 34)) l18 c18 k18
  have B18 := F18.binds (ps := ["_law_box_here", "_law_record", "_law_rows"]) fun _ _ _ _ _ _ us hl => match us, hl with | [_, _, _], _ => rfl
  have F19 := fun_mk (st := (topS 35)) l19 c19 k19
  have B19 := F19.binds (ps := ["_law_box_here", "_law_size", "_law_count"]) fun _ _ _ _ _ _ us hl => match us, hl with | [_, _, _], _ => rfl
  have F20 := fun_mk (st := (topS 36)) l20 c20 k20
  have B20 := F20.binds (ps := ["_law_names_here", "_law_pairs"]) fun _ _ _ _ _ _ us hl => match us, hl with | [_, _], _ => rfl
  have F21 := fun_mk (st := (topS 17)) l21 c21 k21
  have B21 := F21.binds (ps := ["makes", "pairs"]) fun _ _ _ _ _ _ us hl => match us, hl with | [_, _], _ => rfl
  have F22 := fun_mk (st := (topS 19)) l22 c22 k22
  have B22 := F22.binds (ps := ["rows"]) fun _ _ _ _ _ _ us hl => match us, hl with | [_], _ => rfl
  have F23 := fun_mk (st := (topS 20)) l23 c23 k23
  have B23 := F23.binds (ps := ["names", "pairs"]) fun _ _ _ _ _ _ us hl => match us, hl with | [_, _], _ => rfl
  have F24 : FunD K "__init__" "Order.__init__" (defArgs (cls_st 21 1)) (defBody (cls_st 21 1)) (defScope (cls_st 21 1)) [.ref dE24_0] [] f_Order___init__ (PySem.W.fnOf "__init__" "Order.__init__" (defArgs (cls_st 21 1)) (defBody (cls_st 21 1)) (defScope (cls_st 21 1)) (.ref dT24) kV24 dc24 pm24 an24 cd24 ct24) := ⟨⟨_, _, _, _, _, _, _, _, _, _, rfl, l24, c24, .inr ⟨(by simp), dT24, _, [.ref dE24_0], dN24, rfl, d24, rfl, (.cons rfl .nil)⟩, .inl rfl⟩, k24⟩
  have B24 := bindsAll F24 (ps := ["self", "makes", "pairs"]) 3 (by simp) rfl fun _ _ _ _ _ _ _ us its h1 h2 => match us, h1, its, h2 with | [_, _, _], _, [_], _ => ⟨_, rfl, rfl⟩
  have F25 := fun_mk (st := (cls_st 25 2)) l25 c25 k25
  have B25 := F25.binds (ps := ["self"]) fun _ _ _ _ _ _ us hl => match us, hl with | [_], _ => rfl
  have F26 := fun_mk (st := (cls_st 21 5)) l26 c26 k26
  have B26 := F26.binds (ps := ["self", "upper", "lower"]) fun _ _ _ _ _ _ us hl => match us, hl with | [_, _, _], _ => rfl
  have F27 := fun_mk (st := (cls_st 25 11)) l27 c27 k27
  have B27 := F27.binds (ps := ["self", "order"]) fun _ _ _ _ _ _ us hl => match us, hl with | [_, _], _ => rfl
  have F28 := fun_mk (st := (cls_st 25 12)) l28 c28 k28
  have B28 := F28.binds (ps := ["self", "order"]) fun _ _ _ _ _ _ us hl => match us, hl with | [_, _], _ => rfl
  have F29 := fun_mk (st := (topS 40)) l29 c29 k29
  have B29 := F29.binds (ps := ["_law_way", "_law_book", "_law_order"]) fun _ _ _ _ _ _ us hl => match us, hl with | [_, _, _], _ => rfl
  have F30 := fun_mk (st := (topS 37)) l30 c30 k30
  have B30 := F30.binds (ps := ["_law_size", "_law_pairs"]) fun _ _ _ _ _ _ us hl => match us, hl with | [_, _], _ => rfl
  have F31 := fun_mk (st := (topS 38)) l31 c31 k31
  have B31 := F31.binds (ps := ["_law_value"]) fun _ _ _ _ _ _ us hl => match us, hl with | [_], _ => rfl
  have F32 := fun_mk (st := (topS 39)) l32 c32 k32
  have B32 := F32.binds (ps := ["_law_value", "_law_expected"]) fun _ _ _ _ _ _ us hl => match us, hl with | [_, _], _ => rfl
  have F33 := fun_mk (st := (topS 41)) l33 c33 k33
  have B33 := F33.binds (ps := ["_law_script"]) fun _ _ _ _ _ _ us hl => match us, hl with | [_], _ => rfl
  have F34 := fun_mk (st := (cls_st 7 0)) l34 c34 k34
  have B34 := F34.binds (ps := ["self", "most"]) fun _ _ _ _ _ _ us hl => match us, hl with | [_, _], _ => rfl
  have F35 := fun_mk (st := (cls_st 3 0)) l35 c35 k35
  have B35 := F35.binds (ps := ["self", "name"]) fun _ _ _ _ _ _ us hl => match us, hl with | [_, _], _ => rfl
  have F36 := fun_mk (st := (cls_st 4 0)) l36 c36 k36
  have B36 := F36.binds (ps := ["self", "name"]) fun _ _ _ _ _ _ us hl => match us, hl with | [_, _], _ => rfl
  have F37 := fun_mk (st := (cls_st 6 0)) l37 c37 k37
  have B37 := F37.binds (ps := ["self", "word"]) fun _ _ _ _ _ _ us hl => match us, hl with | [_, _], _ => rfl
  have F38 := fun_mk (st := (cls_st 5 0)) l38 c38 k38
  have B38 := F38.binds (ps := ["self", "name"]) fun _ _ _ _ _ _ us hl => match us, hl with | [_, _], _ => rfl
  have F39 := fun_mk (st := (cls_st 9 0)) l39 c39 k39
  have B39 := F39.binds (ps := ["self", "number"]) fun _ _ _ _ _ _ us hl => match us, hl with | [_, _], _ => rfl
  have F40 := fun_mk (st := (cls_st 21 4)) l40 c40 k40
  have B40 := F40.binds (ps := ["self"]) fun _ _ _ _ _ _ us hl => match us, hl with | [_], _ => rfl
  have T : Txt K mg f_law_box f_law_take f_law_name f_law_names f_check_name f_check_makes f_TrialList___init__ f_TrialList_add_make f_law_trial f_law_raw_trials f_law_rows_of f_check_known f_TrialList_check_trial f_TrialList_keep f_TrialList_note f_TrialList_trial f_TrialList_retract f_law_gapped f_law_drawn_pairs f_law_named f_check_pairs f_closed_rows f_rows_of f_Order___init__ f_TrialList_makes f_Order_has f_TrialList_against f_TrialList_admits f_law_refused f_law_closed f_law_is_int f_law_are_ints fa C_Full C_InvalidName C_DuplicateMake C_InvalidWord C_UnknownMake C_UnknownTrial C_UnlikeMakes C_Order C_TrialList fi_Full fi_InvalidName fi_DuplicateMake fi_InvalidWord fi_UnknownMake fi_UnknownTrial pp_Order_makes fp_Order_makes pp_TrialList_makes _ _ _ _ _ _ _ _ _ _ _ _ _ _ _ _ _ _ _ _ _ _ _ _ _ _ _ _ _ _ _ _ _ _ _ _ _ _ _ _ :=
    { b_bool := PySem.W.mg_none_of X G z0,
      b_enumerate := PySem.W.mg_none_of X G z1,
      b_int := PySem.W.mg_none_of X G z2,
      b_isinstance := PySem.W.mg_none_of X G z3,
      b_len := PySem.W.mg_none_of X G z4,
      b_list := PySem.W.mg_none_of X G z5,
      b_min := PySem.W.mg_none_of X G z6,
      b_range := PySem.W.mg_none_of X G z7,
      b_tuple := PySem.W.mg_none_of X G z8,
      F_law_box := F1,
      a_law_box := B1,
      g_law_box := PySem.W.mg_of X G a1,
      F_law_take := F2,
      a_law_take := B2,
      g_law_take := PySem.W.mg_of X G a2,
      F_law_name := F3,
      a_law_name := B3,
      g_law_name := PySem.W.mg_of X G a3,
      F_law_names := F4,
      a_law_names := B4,
      g_law_names := PySem.W.mg_of X G a4,
      F_check_name := F5,
      a_check_name := B5,
      g_check_name := PySem.W.mg_of X G a5,
      F_check_makes := F6,
      a_check_makes := B6,
      g_check_makes := PySem.W.mg_of X G a6,
      F_TrialList___init__ := F7,
      a_TrialList___init__ := B7,
      F_TrialList_add_make := F8,
      a_TrialList_add_make := B8,
      F_law_trial := F9,
      a_law_trial := B9,
      g_law_trial := PySem.W.mg_of X G a9,
      F_law_raw_trials := F10,
      a_law_raw_trials := B10,
      g_law_raw_trials := PySem.W.mg_of X G a10,
      F_law_rows_of := F11,
      a_law_rows_of := B11,
      g_law_rows_of := PySem.W.mg_of X G a11,
      F_check_known := F12,
      a_check_known := B12,
      g_check_known := PySem.W.mg_of X G a12,
      F_TrialList_check_trial := F13,
      a_TrialList_check_trial := B13,
      F_TrialList_keep := F14,
      a_TrialList_keep := B14,
      F_TrialList_note := F15,
      a_TrialList_note := B15,
      F_TrialList_trial := F16,
      a_TrialList_trial := B16,
      F_TrialList_retract := F17,
      a_TrialList_retract := B17,
      F_law_gapped := F18,
      a_law_gapped := B18,
      g_law_gapped := PySem.W.mg_of X G a18,
      F_law_drawn_pairs := F19,
      a_law_drawn_pairs := B19,
      g_law_drawn_pairs := PySem.W.mg_of X G a19,
      F_law_named := F20,
      a_law_named := B20,
      g_law_named := PySem.W.mg_of X G a20,
      F_check_pairs := F21,
      a_check_pairs := B21,
      g_check_pairs := PySem.W.mg_of X G a21,
      F_closed_rows := F22,
      a_closed_rows := B22,
      g_closed_rows := PySem.W.mg_of X G a22,
      F_rows_of := F23,
      a_rows_of := B23,
      g_rows_of := PySem.W.mg_of X G a23,
      F_Order___init__ := ⟨_, F24⟩,
      a_Order___init__ := B24,
      kp_Order___init__ := k24,
      F_TrialList_makes := F25,
      a_TrialList_makes := B25,
      F_Order_has := F26,
      a_Order_has := B26,
      F_TrialList_against := F27,
      a_TrialList_against := B27,
      F_TrialList_admits := F28,
      a_TrialList_admits := B28,
      F_law_refused := F29,
      a_law_refused := B29,
      g_law_refused := PySem.W.mg_of X G a29,
      F_law_closed := F30,
      a_law_closed := B30,
      g_law_closed := PySem.W.mg_of X G a30,
      F_law_is_int := F31,
      a_law_is_int := B31,
      g_law_is_int := PySem.W.mg_of X G a31,
      F_law_are_ints := F32,
      a_law_are_ints := B32,
      g_law_are_ints := PySem.W.mg_of X G a32,
      F_law := F33,
      a_law := B33,
      g_law := PySem.W.mg_of X G a33,
      g_Full := PySem.W.mg_of X G g_Full,
      c_Full := rfl,
      g_InvalidName := PySem.W.mg_of X G g_InvalidName,
      c_InvalidName := rfl,
      g_DuplicateMake := PySem.W.mg_of X G g_DuplicateMake,
      c_DuplicateMake := rfl,
      g_InvalidWord := PySem.W.mg_of X G g_InvalidWord,
      c_InvalidWord := rfl,
      g_UnknownMake := PySem.W.mg_of X G g_UnknownMake,
      c_UnknownMake := rfl,
      g_UnknownTrial := PySem.W.mg_of X G g_UnknownTrial,
      c_UnknownTrial := rfl,
      g_UnlikeMakes := PySem.W.mg_of X G g_UnlikeMakes,
      c_UnlikeMakes := rfl,
      g_Order := PySem.W.mg_of X G g_Order,
      c_Order := rfl,
      g_TrialList := PySem.W.mg_of X G g_TrialList,
      c_TrialList := rfl,
      s_UnlikeMakes := sb_of (fun p q => by simp only [List.mem_cons, List.not_mem_nil, or_false] at q; rcases q with rfl | rfl | rfl | rfl | rfl | rfl | rfl | rfl | rfl <;> first | (exact exm_of e_UnlikeMakes is_UnlikeMakes ty_UnlikeMakes sb_Full_UnlikeMakes) | (exact exm_of e_UnlikeMakes is_UnlikeMakes ty_UnlikeMakes sb_InvalidName_UnlikeMakes) | (exact exm_of e_UnlikeMakes is_UnlikeMakes ty_UnlikeMakes sb_DuplicateMake_UnlikeMakes) | (exact exm_of e_UnlikeMakes is_UnlikeMakes ty_UnlikeMakes sb_InvalidWord_UnlikeMakes) | (exact exm_of e_UnlikeMakes is_UnlikeMakes ty_UnlikeMakes sb_UnknownMake_UnlikeMakes) | (exact exm_of e_UnlikeMakes is_UnlikeMakes ty_UnlikeMakes sb_UnknownTrial_UnlikeMakes) | (exact exm_of e_UnlikeMakes is_UnlikeMakes ty_UnlikeMakes sb_UnlikeMakes_UnlikeMakes) | (exact exm_of e_UnlikeMakes is_UnlikeMakes ty_UnlikeMakes sb_Order_UnlikeMakes) | (exact exm_of e_UnlikeMakes is_UnlikeMakes ty_UnlikeMakes sb_TrialList_UnlikeMakes)),
      x_Full := ⟨⟨_, _, _, _, _, _, _, _, _, _, _, _, _, _, _, xl_Full, rfl⟩, sa_Full, e_Full, ty_Full, kc_Full⟩,
      nf_Full := by intro f q; simp only [List.mem_cons, List.not_mem_nil, or_false] at q; rcases q with rfl <;> first | exact nf_Full_most,
      i_Full := i_Full,
      t_Full := t_Full,
      F_Full := F34,
      a_Full := B34,
      x_InvalidName := ⟨⟨_, _, _, _, _, _, _, _, _, _, _, _, _, _, _, xl_InvalidName, rfl⟩, sa_InvalidName, e_InvalidName, ty_InvalidName, kc_InvalidName⟩,
      nf_InvalidName := by intro f q; simp only [List.mem_cons, List.not_mem_nil, or_false] at q; rcases q with rfl <;> first | exact nf_InvalidName_name,
      i_InvalidName := i_InvalidName,
      t_InvalidName := t_InvalidName,
      F_InvalidName := F35,
      a_InvalidName := B35,
      x_DuplicateMake := ⟨⟨_, _, _, _, _, _, _, _, _, _, _, _, _, _, _, xl_DuplicateMake, rfl⟩, sa_DuplicateMake, e_DuplicateMake, ty_DuplicateMake, kc_DuplicateMake⟩,
      nf_DuplicateMake := by intro f q; simp only [List.mem_cons, List.not_mem_nil, or_false] at q; rcases q with rfl <;> first | exact nf_DuplicateMake_name,
      i_DuplicateMake := i_DuplicateMake,
      t_DuplicateMake := t_DuplicateMake,
      F_DuplicateMake := F36,
      a_DuplicateMake := B36,
      x_InvalidWord := ⟨⟨_, _, _, _, _, _, _, _, _, _, _, _, _, _, _, xl_InvalidWord, rfl⟩, sa_InvalidWord, e_InvalidWord, ty_InvalidWord, kc_InvalidWord⟩,
      nf_InvalidWord := by intro f q; simp only [List.mem_cons, List.not_mem_nil, or_false] at q; rcases q with rfl <;> first | exact nf_InvalidWord_word,
      i_InvalidWord := i_InvalidWord,
      t_InvalidWord := t_InvalidWord,
      F_InvalidWord := F37,
      a_InvalidWord := B37,
      x_UnknownMake := ⟨⟨_, _, _, _, _, _, _, _, _, _, _, _, _, _, _, xl_UnknownMake, rfl⟩, sa_UnknownMake, e_UnknownMake, ty_UnknownMake, kc_UnknownMake⟩,
      nf_UnknownMake := by intro f q; simp only [List.mem_cons, List.not_mem_nil, or_false] at q; rcases q with rfl <;> first | exact nf_UnknownMake_name,
      i_UnknownMake := i_UnknownMake,
      t_UnknownMake := t_UnknownMake,
      F_UnknownMake := F38,
      a_UnknownMake := B38,
      x_UnknownTrial := ⟨⟨_, _, _, _, _, _, _, _, _, _, _, _, _, _, _, xl_UnknownTrial, rfl⟩, sa_UnknownTrial, e_UnknownTrial, ty_UnknownTrial, kc_UnknownTrial⟩,
      nf_UnknownTrial := by intro f q; simp only [List.mem_cons, List.not_mem_nil, or_false] at q; rcases q with rfl <;> first | exact nf_UnknownTrial_number,
      i_UnknownTrial := i_UnknownTrial,
      t_UnknownTrial := t_UnknownTrial,
      F_UnknownTrial := F39,
      a_UnknownTrial := B39,
      cl_Order := ⟨pg_Order, hd_Order, po_Order, sa_Order⟩,
      cl_TrialList := ⟨pg_TrialList, hd_TrialList, po_TrialList, sa_TrialList⟩,
      k_LETTERS := ⟨_, PySem.W.mg_of X G kk_LETTERS⟩,
      k_LONGEST_NAME := ⟨_, PySem.W.mg_of X G kk_LONGEST_NAME⟩,
      k_MOST_MAKES := ⟨_, PySem.W.mg_of X G kk_MOST_MAKES⟩,
      k_MOST_TRIALS := ⟨_, PySem.W.mg_of X G kk_MOST_TRIALS⟩,
      fl_Order_names := fun C q => by cases (show some C_Order = some C from q); exact ⟨⟨pg_Order, hd_Order, po_Order, sa_Order⟩, nf_Order_names⟩,
      fl_Order_rows := fun C q => by cases (show some C_Order = some C from q); exact ⟨⟨pg_Order, hd_Order, po_Order, sa_Order⟩, nf_Order_rows⟩,
      fl_TrialList_given := fun C q => by cases (show some C_TrialList = some C from q); exact ⟨⟨pg_TrialList, hd_TrialList, po_TrialList, sa_TrialList⟩, nf_TrialList_given⟩,
      fl_TrialList_kept := fun C q => by cases (show some C_TrialList = some C from q); exact ⟨⟨pg_TrialList, hd_TrialList, po_TrialList, sa_TrialList⟩, nf_TrialList_kept⟩,
      fl_TrialList_names := fun C q => by cases (show some C_TrialList = some C from q); exact ⟨⟨pg_TrialList, hd_TrialList, po_TrialList, sa_TrialList⟩, nf_TrialList_names⟩,
      m_Order_has := ⟨a26, i26, k26⟩,
      m_TrialList_add_make := ⟨a8, i8, k8⟩,
      m_TrialList_admits := ⟨a28, i28, k28⟩,
      m_TrialList_against := ⟨a27, i27, k27⟩,
      m_TrialList_check_trial := ⟨a13, i13, k13⟩,
      m_TrialList_keep := ⟨a14, i14, k14⟩,
      m_TrialList_note := ⟨a15, i15, k15⟩,
      m_TrialList_retract := ⟨a17, i17, k17⟩,
      m_TrialList_trial := ⟨a16, i16, k16⟩,
      mk_Order := ⟨mk_Order, a24, i24, kc_Order⟩,
      mk_TrialList := ⟨mk_TrialList, a7, i7, kc_TrialList⟩,
      p_Order_makes := ⟨pa_Order_makes, pg_Order_makes, pt_Order_makes, ⟨_, pc_Order_makes⟩⟩,
      pF_Order_makes := F40,
      pb_Order_makes := B40,
      pm_TrialList_makes := ⟨a25, i25, r25, ⟨_, y25⟩⟩,
      x0_UnlikeMakes := ⟨xq_UnlikeMakes, e_UnlikeMakes, ty_UnlikeMakes, kc_UnlikeMakes⟩,
      kt_WORDS := heldT_2 (PySem.W.mg_of X G kt_WORDS) kl_WORDS (by decide +kernel) (by decide +kernel) }
  exact ⟨PySem.W.fnOf "law" "law" (defArgs (topS 41)) (defBody (topS 41)) (defScope (topS 41)) .none kV33 dc33 pm33 an33 cd33 ct33, fun s v => .of_eq rfl, fun base _ _ => law_fn hm (ok_law T)⟩
end Lw
open PySem PySem.W PyProof.Rows
set_option maxHeartbeats 0 in
theorem PySem.Challenge.cw_chairstack_k13_against_and_admits_holds : PySem.Challenge.rw_chairstack_k13_against_and_admits.Holds := by
  w_on; o_law; k_head; (case hw => w_witness2)
  k_fill
  refine L2.walk_of (l := PySem.Challenge.rw_chairstack_k13_against_and_admits) (n := 63) (k := 7) (x := "_law_script") (CX := fun w => L2.CX PySem.Challenge.rw_chairstack_k13_against_and_admits.prog w) (sp := fun w => Cs.spLaw _ 63) rfl (by decide) rfl ⟨rfl, by decide, by decide⟩ (fun w h Y => PySem.W.kIn_of Y) ?F (fun _ _ a ns hl _ hS => ⟨a, ns, rfl, hS, hl, fun _ => rfl⟩) (fun _ _ _ _ _ h => Cs.cx_false h)
  case F =>
    intro w mg fa h KX G hmg
    refine' Lw.all_mk KX G hmg ?g_Order ?g_TrialList ?a1 ?l1 ?c1 ?k1 ?a2 ?l2 ?c2 ?k2 ?a3 ?l3 ?c3 ?k3 ?a4 ?l4 ?c4 ?k4 ?a5 ?l5 ?c5 ?k5 ?a6 ?l6 ?c6 ?k6 ?a7 ?i7 ?l7 ?c7 ?k7 ?a8 ?i8 ?l8 ?c8 ?k8 ?a9 ?l9 ?c9 ?k9 ?a10 ?l10 ?c10 ?k10 ?a11 ?l11 ?c11 ?k11 ?a12 ?l12 ?c12 ?k12 ?a13 ?i13 ?l13 ?c13 ?k13 ?a14 ?i14 ?l14 ?c14 ?k14 ?a15 ?i15 ?l15 ?c15 ?k15 ?a16 ?i16 ?l16 ?c16 ?k16 ?a17 ?i17 ?l17 ?c17 ?k17 ?a18 ?l18 ?c18 ?k18 ?a19 ?l19 ?c19 ?k19 ?a20 ?l20 ?c20 ?k20 ?a21 ?l21 ?c21 ?k21 ?a22 ?l22 ?c22 ?k22 ?a23 ?l23 ?c23 ?k23 ?a24 ?i24 ?l24 ?c24 ?k24 ?d24 ?a25 ?i25 ?r25 ?y25 ?l25 ?c25 ?k25 ?a26 ?i26 ?l26 ?c26 ?k26 ?a27 ?i27 ?l27 ?c27 ?k27 ?a28 ?i28 ?l28 ?c28 ?k28 ?a29 ?l29 ?c29 ?k29 ?a30 ?l30 ?c30 ?k30 ?a31 ?l31 ?c31 ?k31 ?a32 ?l32 ?c32 ?k32 ?a33 ?l33 ?c33 ?k33 ?g_Full ?g_InvalidName ?g_DuplicateMake ?g_InvalidWord ?g_UnknownMake ?g_UnknownTrial ?g_UnlikeMakes ?e_Full ?ty_Full ?e_InvalidName ?ty_InvalidName ?e_DuplicateMake ?ty_DuplicateMake ?e_InvalidWord ?ty_InvalidWord ?e_UnknownMake ?ty_UnknownMake ?e_UnknownTrial ?ty_UnknownTrial ?e_UnlikeMakes ?ty_UnlikeMakes ?is_UnlikeMakes ?sb_Full_UnlikeMakes ?sb_InvalidName_UnlikeMakes ?sb_DuplicateMake_UnlikeMakes ?sb_InvalidWord_UnlikeMakes ?sb_UnknownMake_UnlikeMakes ?sb_UnknownTrial_UnlikeMakes ?sb_UnlikeMakes_UnlikeMakes ?sb_Order_UnlikeMakes ?sb_TrialList_UnlikeMakes ?xl_Full ?sa_Full ?kc_Full ?nf_Full_most ?i_Full ?t_Full ?l34 ?c34 ?k34 ?xl_InvalidName ?sa_InvalidName ?kc_InvalidName ?nf_InvalidName_name ?i_InvalidName ?t_InvalidName ?l35 ?c35 ?k35 ?xl_DuplicateMake ?sa_DuplicateMake ?kc_DuplicateMake ?nf_DuplicateMake_name ?i_DuplicateMake ?t_DuplicateMake ?l36 ?c36 ?k36 ?xl_InvalidWord ?sa_InvalidWord ?kc_InvalidWord ?nf_InvalidWord_word ?i_InvalidWord ?t_InvalidWord ?l37 ?c37 ?k37 ?xl_UnknownMake ?sa_UnknownMake ?kc_UnknownMake ?nf_UnknownMake_name ?i_UnknownMake ?t_UnknownMake ?l38 ?c38 ?k38 ?xl_UnknownTrial ?sa_UnknownTrial ?kc_UnknownTrial ?nf_UnknownTrial_number ?i_UnknownTrial ?t_UnknownTrial ?l39 ?c39 ?k39 ?pg_Order ?hd_Order ?po_Order ?sa_Order ?pg_TrialList ?hd_TrialList ?po_TrialList ?sa_TrialList ?kk_LETTERS ?kk_LONGEST_NAME ?kk_MOST_MAKES ?kk_MOST_TRIALS ?nf_Order_names ?nf_Order_rows ?nf_TrialList_given ?nf_TrialList_kept ?nf_TrialList_names ?mk_Order ?kc_Order ?mk_TrialList ?kc_TrialList ?pa_Order_makes ?pg_Order_makes ?pt_Order_makes ?pc_Order_makes ?l40 ?c40 ?k40 ?xq_UnlikeMakes ?kc_UnlikeMakes ?kt_WORDS ?kl_WORDS ?z0 ?z1 ?z2 ?z3 ?z4 ?z5 ?z6 ?z7 ?z8 Lw.law_true
    (case g_Order => first | k_is | rfl | kernel_rfl)
    (case g_TrialList => first | k_is | rfl | kernel_rfl)
    (case a1 => first | k_is | rfl | kernel_rfl)
    (case l1 => first | k_is | rfl | kernel_rfl)
    (case c1 => first | k_is | rfl | kernel_rfl)
    (case k1 => first | k_is | rfl | kernel_rfl)
    (case a2 => first | k_is | rfl | kernel_rfl)
    (case l2 => first | k_is | rfl | kernel_rfl)
    (case c2 => first | k_is | rfl | kernel_rfl)
    (case k2 => first | k_is | rfl | kernel_rfl)
    (case a3 => first | k_is | rfl | kernel_rfl)
    (case l3 => first | k_is | rfl | kernel_rfl)
    (case c3 => first | k_is | rfl | kernel_rfl)
    (case k3 => first | k_is | rfl | kernel_rfl)
    (case a4 => first | k_is | rfl | kernel_rfl)
    (case l4 => first | k_is | rfl | kernel_rfl)
    (case c4 => first | k_is | rfl | kernel_rfl)
    (case k4 => first | k_is | rfl | kernel_rfl)
    (case a5 => first | k_is | rfl | kernel_rfl)
    (case l5 => first | k_is | rfl | kernel_rfl)
    (case c5 => first | k_is | rfl | kernel_rfl)
    (case k5 => first | k_is | rfl | kernel_rfl)
    (case a6 => first | k_is | rfl | kernel_rfl)
    (case l6 => first | k_is | rfl | kernel_rfl)
    (case c6 => first | k_is | rfl | kernel_rfl)
    (case k6 => first | k_is | rfl | kernel_rfl)
    (case a7 => first | k_is | rfl | kernel_rfl)
    (case i7 => first | k_is | rfl | kernel_rfl)
    (case l7 => first | k_is | rfl | kernel_rfl)
    (case c7 => first | k_is | rfl | kernel_rfl)
    (case k7 => first | k_is | rfl | kernel_rfl)
    (case a8 => first | k_is | rfl | kernel_rfl)
    (case i8 => first | k_is | rfl | kernel_rfl)
    (case l8 => first | k_is | rfl | kernel_rfl)
    (case c8 => first | k_is | rfl | kernel_rfl)
    (case k8 => first | k_is | rfl | kernel_rfl)
    (case a9 => first | k_is | rfl | kernel_rfl)
    (case l9 => first | k_is | rfl | kernel_rfl)
    (case c9 => first | k_is | rfl | kernel_rfl)
    (case k9 => first | k_is | rfl | kernel_rfl)
    (case a10 => first | k_is | rfl | kernel_rfl)
    (case l10 => first | k_is | rfl | kernel_rfl)
    (case c10 => first | k_is | rfl | kernel_rfl)
    (case k10 => first | k_is | rfl | kernel_rfl)
    (case a11 => first | k_is | rfl | kernel_rfl)
    (case l11 => first | k_is | rfl | kernel_rfl)
    (case c11 => first | k_is | rfl | kernel_rfl)
    (case k11 => first | k_is | rfl | kernel_rfl)
    (case a12 => first | k_is | rfl | kernel_rfl)
    (case l12 => first | k_is | rfl | kernel_rfl)
    (case c12 => first | k_is | rfl | kernel_rfl)
    (case k12 => first | k_is | rfl | kernel_rfl)
    (case a13 => first | k_is | rfl | kernel_rfl)
    (case i13 => first | k_is | rfl | kernel_rfl)
    (case l13 => first | k_is | rfl | kernel_rfl)
    (case c13 => first | k_is | rfl | kernel_rfl)
    (case k13 => first | k_is | rfl | kernel_rfl)
    (case a14 => first | k_is | rfl | kernel_rfl)
    (case i14 => first | k_is | rfl | kernel_rfl)
    (case l14 => first | k_is | rfl | kernel_rfl)
    (case c14 => first | k_is | rfl | kernel_rfl)
    (case k14 => first | k_is | rfl | kernel_rfl)
    (case a15 => first | k_is | rfl | kernel_rfl)
    (case i15 => first | k_is | rfl | kernel_rfl)
    (case l15 => first | k_is | rfl | kernel_rfl)
    (case c15 => first | k_is | rfl | kernel_rfl)
    (case k15 => first | k_is | rfl | kernel_rfl)
    (case a16 => first | k_is | rfl | kernel_rfl)
    (case i16 => first | k_is | rfl | kernel_rfl)
    (case l16 => first | k_is | rfl | kernel_rfl)
    (case c16 => first | k_is | rfl | kernel_rfl)
    (case k16 => first | k_is | rfl | kernel_rfl)
    (case a17 => first | k_is | rfl | kernel_rfl)
    (case i17 => first | k_is | rfl | kernel_rfl)
    (case l17 => first | k_is | rfl | kernel_rfl)
    (case c17 => first | k_is | rfl | kernel_rfl)
    (case k17 => first | k_is | rfl | kernel_rfl)
    (case a18 => first | k_is | rfl | kernel_rfl)
    (case l18 => first | k_is | rfl | kernel_rfl)
    (case c18 => first | k_is | rfl | kernel_rfl)
    (case k18 => first | k_is | rfl | kernel_rfl)
    (case a19 => first | k_is | rfl | kernel_rfl)
    (case l19 => first | k_is | rfl | kernel_rfl)
    (case c19 => first | k_is | rfl | kernel_rfl)
    (case k19 => first | k_is | rfl | kernel_rfl)
    (case a20 => first | k_is | rfl | kernel_rfl)
    (case l20 => first | k_is | rfl | kernel_rfl)
    (case c20 => first | k_is | rfl | kernel_rfl)
    (case k20 => first | k_is | rfl | kernel_rfl)
    (case a21 => first | k_is | rfl | kernel_rfl)
    (case l21 => first | k_is | rfl | kernel_rfl)
    (case c21 => first | k_is | rfl | kernel_rfl)
    (case k21 => first | k_is | rfl | kernel_rfl)
    (case a22 => first | k_is | rfl | kernel_rfl)
    (case l22 => first | k_is | rfl | kernel_rfl)
    (case c22 => first | k_is | rfl | kernel_rfl)
    (case k22 => first | k_is | rfl | kernel_rfl)
    (case a23 => first | k_is | rfl | kernel_rfl)
    (case l23 => first | k_is | rfl | kernel_rfl)
    (case c23 => first | k_is | rfl | kernel_rfl)
    (case k23 => first | k_is | rfl | kernel_rfl)
    (case a24 => first | k_is | rfl | kernel_rfl)
    (case i24 => first | k_is | rfl | kernel_rfl)
    (case l24 => first | k_is | rfl | kernel_rfl)
    (case c24 => first | k_is | rfl | kernel_rfl)
    (case k24 => first | k_is | rfl | kernel_rfl)
    (case d24 => first | k_is | rfl | kernel_rfl)
    (case a25 => first | k_is | rfl | kernel_rfl)
    (case i25 => first | k_is | rfl | kernel_rfl)
    (case r25 => first | k_is | rfl | kernel_rfl)
    (case y25 => first | k_is | rfl | kernel_rfl)
    (case l25 => first | k_is | rfl | kernel_rfl)
    (case c25 => first | k_is | rfl | kernel_rfl)
    (case k25 => first | k_is | rfl | kernel_rfl)
    (case a26 => first | k_is | rfl | kernel_rfl)
    (case i26 => first | k_is | rfl | kernel_rfl)
    (case l26 => first | k_is | rfl | kernel_rfl)
    (case c26 => first | k_is | rfl | kernel_rfl)
    (case k26 => first | k_is | rfl | kernel_rfl)
    (case a27 => first | k_is | rfl | kernel_rfl)
    (case i27 => first | k_is | rfl | kernel_rfl)
    (case l27 => first | k_is | rfl | kernel_rfl)
    (case c27 => first | k_is | rfl | kernel_rfl)
    (case k27 => first | k_is | rfl | kernel_rfl)
    (case a28 => first | k_is | rfl | kernel_rfl)
    (case i28 => first | k_is | rfl | kernel_rfl)
    (case l28 => first | k_is | rfl | kernel_rfl)
    (case c28 => first | k_is | rfl | kernel_rfl)
    (case k28 => first | k_is | rfl | kernel_rfl)
    (case a29 => first | k_is | rfl | kernel_rfl)
    (case l29 => first | k_is | rfl | kernel_rfl)
    (case c29 => first | k_is | rfl | kernel_rfl)
    (case k29 => first | k_is | rfl | kernel_rfl)
    (case a30 => first | k_is | rfl | kernel_rfl)
    (case l30 => first | k_is | rfl | kernel_rfl)
    (case c30 => first | k_is | rfl | kernel_rfl)
    (case k30 => first | k_is | rfl | kernel_rfl)
    (case a31 => first | k_is | rfl | kernel_rfl)
    (case l31 => first | k_is | rfl | kernel_rfl)
    (case c31 => first | k_is | rfl | kernel_rfl)
    (case k31 => first | k_is | rfl | kernel_rfl)
    (case a32 => first | k_is | rfl | kernel_rfl)
    (case l32 => first | k_is | rfl | kernel_rfl)
    (case c32 => first | k_is | rfl | kernel_rfl)
    (case k32 => first | k_is | rfl | kernel_rfl)
    (case a33 => first | k_is | rfl | kernel_rfl)
    (case l33 => first | k_is | rfl | kernel_rfl)
    (case c33 => first | k_is | rfl | kernel_rfl)
    (case k33 => first | k_is | rfl | kernel_rfl)
    (case g_Full => first | k_is | rfl | kernel_rfl)
    (case g_InvalidName => first | k_is | rfl | kernel_rfl)
    (case g_DuplicateMake => first | k_is | rfl | kernel_rfl)
    (case g_InvalidWord => first | k_is | rfl | kernel_rfl)
    (case g_UnknownMake => first | k_is | rfl | kernel_rfl)
    (case g_UnknownTrial => first | k_is | rfl | kernel_rfl)
    (case g_UnlikeMakes => first | k_is | rfl | kernel_rfl)
    (case e_Full => first | k_is | rfl | kernel_rfl)
    (case ty_Full => first | k_is | rfl | kernel_rfl)
    (case e_InvalidName => first | k_is | rfl | kernel_rfl)
    (case ty_InvalidName => first | k_is | rfl | kernel_rfl)
    (case e_DuplicateMake => first | k_is | rfl | kernel_rfl)
    (case ty_DuplicateMake => first | k_is | rfl | kernel_rfl)
    (case e_InvalidWord => first | k_is | rfl | kernel_rfl)
    (case ty_InvalidWord => first | k_is | rfl | kernel_rfl)
    (case e_UnknownMake => first | k_is | rfl | kernel_rfl)
    (case ty_UnknownMake => first | k_is | rfl | kernel_rfl)
    (case e_UnknownTrial => first | k_is | rfl | kernel_rfl)
    (case ty_UnknownTrial => first | k_is | rfl | kernel_rfl)
    (case e_UnlikeMakes => first | k_is | rfl | kernel_rfl)
    (case ty_UnlikeMakes => first | k_is | rfl | kernel_rfl)
    (case is_UnlikeMakes => first | k_is | rfl | kernel_rfl)
    (case sb_Full_UnlikeMakes => first | k_is | rfl | kernel_rfl)
    (case sb_InvalidName_UnlikeMakes => first | k_is | rfl | kernel_rfl)
    (case sb_DuplicateMake_UnlikeMakes => first | k_is | rfl | kernel_rfl)
    (case sb_InvalidWord_UnlikeMakes => first | k_is | rfl | kernel_rfl)
    (case sb_UnknownMake_UnlikeMakes => first | k_is | rfl | kernel_rfl)
    (case sb_UnknownTrial_UnlikeMakes => first | k_is | rfl | kernel_rfl)
    (case sb_UnlikeMakes_UnlikeMakes => first | k_is | rfl | kernel_rfl)
    (case sb_Order_UnlikeMakes => first | k_is | rfl | kernel_rfl)
    (case sb_TrialList_UnlikeMakes => first | k_is | rfl | kernel_rfl)
    (case xl_Full => first | k_is | rfl | kernel_rfl)
    (case sa_Full => first | k_is | rfl | kernel_rfl)
    (case kc_Full => first | k_is | rfl | kernel_rfl)
    (case nf_Full_most => first | k_is | rfl | kernel_rfl)
    (case i_Full => first | k_is | rfl | kernel_rfl)
    (case t_Full => first | k_is | rfl | kernel_rfl)
    (case l34 => first | k_is | rfl | kernel_rfl)
    (case c34 => first | k_is | rfl | kernel_rfl)
    (case k34 => first | k_is | rfl | kernel_rfl)
    (case xl_InvalidName => first | k_is | rfl | kernel_rfl)
    (case sa_InvalidName => first | k_is | rfl | kernel_rfl)
    (case kc_InvalidName => first | k_is | rfl | kernel_rfl)
    (case nf_InvalidName_name => first | k_is | rfl | kernel_rfl)
    (case i_InvalidName => first | k_is | rfl | kernel_rfl)
    (case t_InvalidName => first | k_is | rfl | kernel_rfl)
    (case l35 => first | k_is | rfl | kernel_rfl)
    (case c35 => first | k_is | rfl | kernel_rfl)
    (case k35 => first | k_is | rfl | kernel_rfl)
    (case xl_DuplicateMake => first | k_is | rfl | kernel_rfl)
    (case sa_DuplicateMake => first | k_is | rfl | kernel_rfl)
    (case kc_DuplicateMake => first | k_is | rfl | kernel_rfl)
    (case nf_DuplicateMake_name => first | k_is | rfl | kernel_rfl)
    (case i_DuplicateMake => first | k_is | rfl | kernel_rfl)
    (case t_DuplicateMake => first | k_is | rfl | kernel_rfl)
    (case l36 => first | k_is | rfl | kernel_rfl)
    (case c36 => first | k_is | rfl | kernel_rfl)
    (case k36 => first | k_is | rfl | kernel_rfl)
    (case xl_InvalidWord => first | k_is | rfl | kernel_rfl)
    (case sa_InvalidWord => first | k_is | rfl | kernel_rfl)
    (case kc_InvalidWord => first | k_is | rfl | kernel_rfl)
    (case nf_InvalidWord_word => first | k_is | rfl | kernel_rfl)
    (case i_InvalidWord => first | k_is | rfl | kernel_rfl)
    (case t_InvalidWord => first | k_is | rfl | kernel_rfl)
    (case l37 => first | k_is | rfl | kernel_rfl)
    (case c37 => first | k_is | rfl | kernel_rfl)
    (case k37 => first | k_is | rfl | kernel_rfl)
    (case xl_UnknownMake => first | k_is | rfl | kernel_rfl)
    (case sa_UnknownMake => first | k_is | rfl | kernel_rfl)
    (case kc_UnknownMake => first | k_is | rfl | kernel_rfl)
    (case nf_UnknownMake_name => first | k_is | rfl | kernel_rfl)
    (case i_UnknownMake => first | k_is | rfl | kernel_rfl)
    (case t_UnknownMake => first | k_is | rfl | kernel_rfl)
    (case l38 => first | k_is | rfl | kernel_rfl)
    (case c38 => first | k_is | rfl | kernel_rfl)
    (case k38 => first | k_is | rfl | kernel_rfl)
    (case xl_UnknownTrial => first | k_is | rfl | kernel_rfl)
    (case sa_UnknownTrial => first | k_is | rfl | kernel_rfl)
    (case kc_UnknownTrial => first | k_is | rfl | kernel_rfl)
    (case nf_UnknownTrial_number => first | k_is | rfl | kernel_rfl)
    (case i_UnknownTrial => first | k_is | rfl | kernel_rfl)
    (case t_UnknownTrial => first | k_is | rfl | kernel_rfl)
    (case l39 => first | k_is | rfl | kernel_rfl)
    (case c39 => first | k_is | rfl | kernel_rfl)
    (case k39 => first | k_is | rfl | kernel_rfl)
    (case pg_Order => first | k_is | rfl | kernel_rfl)
    (case hd_Order => first | k_is | rfl | kernel_rfl)
    (case po_Order => first | k_is | rfl | kernel_rfl)
    (case sa_Order => first | k_is | rfl | kernel_rfl)
    (case pg_TrialList => first | k_is | rfl | kernel_rfl)
    (case hd_TrialList => first | k_is | rfl | kernel_rfl)
    (case po_TrialList => first | k_is | rfl | kernel_rfl)
    (case sa_TrialList => first | k_is | rfl | kernel_rfl)
    (case kk_LETTERS => first | k_is | rfl | kernel_rfl)
    (case kk_LONGEST_NAME => first | k_is | rfl | kernel_rfl)
    (case kk_MOST_MAKES => first | k_is | rfl | kernel_rfl)
    (case kk_MOST_TRIALS => first | k_is | rfl | kernel_rfl)
    (case nf_Order_names => first | k_is | rfl | kernel_rfl)
    (case nf_Order_rows => first | k_is | rfl | kernel_rfl)
    (case nf_TrialList_given => first | k_is | rfl | kernel_rfl)
    (case nf_TrialList_kept => first | k_is | rfl | kernel_rfl)
    (case nf_TrialList_names => first | k_is | rfl | kernel_rfl)
    (case mk_Order => first | k_is | rfl | kernel_rfl)
    (case kc_Order => first | k_is | rfl | kernel_rfl)
    (case mk_TrialList => first | k_is | rfl | kernel_rfl)
    (case kc_TrialList => first | k_is | rfl | kernel_rfl)
    (case pa_Order_makes => first | k_is | rfl | kernel_rfl)
    (case pg_Order_makes => first | k_is | rfl | kernel_rfl)
    (case pt_Order_makes => first | k_is | rfl | kernel_rfl)
    (case pc_Order_makes => first | k_is | rfl | kernel_rfl)
    (case l40 => first | k_is | rfl | kernel_rfl)
    (case c40 => first | k_is | rfl | kernel_rfl)
    (case k40 => first | k_is | rfl | kernel_rfl)
    (case xq_UnlikeMakes => first | k_is | rfl | kernel_rfl)
    (case kc_UnlikeMakes => first | k_is | rfl | kernel_rfl)
    (case kt_WORDS => first | k_is | rfl | kernel_rfl)
    (case kl_WORDS => first | k_is | rfl | kernel_rfl)
    (case z0 => first | k_is | rfl | kernel_rfl)
    (case z1 => first | k_is | rfl | kernel_rfl)
    (case z2 => first | k_is | rfl | kernel_rfl)
    (case z3 => first | k_is | rfl | kernel_rfl)
    (case z4 => first | k_is | rfl | kernel_rfl)
    (case z5 => first | k_is | rfl | kernel_rfl)
    (case z6 => first | k_is | rfl | kernel_rfl)
    (case z7 => first | k_is | rfl | kernel_rfl)
    (case z8 => first | k_is | rfl | kernel_rfl)

