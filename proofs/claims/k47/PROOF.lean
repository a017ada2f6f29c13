import PyProof.Rows.All
import Wide.All
import OpenK.AllK
import KE.OsRunLaw
import Wide.FinOn
import HandS.ExcCtx
import HandS.HotCalls
import HandS.ForMost
import HandS.Exc
import HandS.Evl
import HandS.Lambda
import HandS.Deep
import HandS.IsInst
import HandS.ForExc
import HandS.Defaults
import HandS.Walk
import HandS.Property
import HandS.TryMany
import HandS.ExcInit
import HandS.ExcField
import HandS.Iter
import PyProof.LongRange
import KE.GoesMore
import PyProof.EnumFor
import HandS.DictComp
import HandS.Strs
import PyProof.InstSpecial
import PyProof.InstNe
import OpenK.KMeth
import OpenK.KOps
import HandS.ExcOwn
import PyProof.ExcBaseAll.ValueError
import HandS.Style
import HandS.ClsMeth
import HandS.CallSlots
import HandS.Star
import HandS.Dict
import HandS.SortInts
import KE.KSuper
import HandS.More
import HandS.FStr
import HandS.TupAny
import KE.DatumOrd
import HandS.Conv
import HandS.MakeKw
import PyProof.Seq
import PyProof.TupleIter
import PyProof.StrLoop
import PyProof.WalkInts
import PyProof.WalksMore
import HandS.RevRange
import KE.SortKeyHeap
import KE.KNestM
import HandS.EndTab
import KE.KRevSl
import HandS.OwnEq
import HandS.DeepEq
import PySem.Challenge.RW_chairstack_k47_check_of_tallest
set_option Elab.async false
set_option linter.all false
set_option maxRecDepth 100000
set_option maxHeartbeats 4000000
namespace Lw
section
open PySem PySem.W
local macro_rules
  | `(tactic| o_headL ($_:ident $k $a $_)) => `(tactic| o_headL (@kHook (fun P => (426, tabObj #[]) :: $k P) (426 :: $a) (fun _ => by kernel_rfl)))
local macro_rules
  | `(tactic| k_head) => `(tactic| k_headL)
set_option maxHeartbeats 0
open_top law_top for PySem.Challenge.rw_chairstack_k47_check_of_tallest
end
end Lw
namespace Cs
open PySem L2 Evl

/-! ## data -/
inductive Fl where
  | fr | ow | bo | ro
  deriving DecidableEq

inductive D where
  | non
  | bl (b : Bool)
  | int (i : Int)
  | str (s : Str)
  | cls (c : Str)
  | tup (xs : List D)
  | lst (o : Fl) (xs : List D)
  | dct (o : Fl) (ks : List Str) (vs : List D)
  | obj (o : Fl) (c : Str) (ks : List Str) (vs : List D)

mutual
def mapF (g : Fl → Fl) : D → D
  | .non => .non
  | .bl b => .bl b
  | .int i => .int i
  | .str s => .str s
  | .cls c => .cls c
  | .tup xs => .tup (mapFs g xs)
  | .lst o xs => .lst (g o) (mapFs g xs)
  | .dct o ks vs => .dct (g o) ks (mapFs g vs)
  | .obj o c ks vs => .obj (g o) c ks (mapFs g vs)
def mapFs (g : Fl → Fl) : List D → List D
  | [] => []
  | d :: ds => mapF g d :: mapFs g ds
end
mutual
def allF (p : Fl → Bool) : D → Bool
  | .non => true
  | .bl _ => true
  | .int _ => true
  | .str _ => true
  | .cls _ => true
  | .tup xs => allFs p xs
  | .lst o xs => p o && allFs p xs
  | .dct o _ vs => p o && allFs p vs
  | .obj o _ _ vs => p o && allFs p vs
def allFs (p : Fl → Bool) : List D → Bool
  | [] => true
  | d :: ds => allF p d && allFs p ds
end
theorem allF_lst {p : Fl → Bool} {o : Fl} {xs : List D} (h : allF p (.lst o xs) = true) : p o = true ∧ allFs p xs = true := by
  rw [allF] at h
  exact Bool.and_eq_true_iff.mp h
theorem allF_dct {p : Fl → Bool} {o : Fl} {ks : List Str} {xs : List D} (h : allF p (.dct o ks xs) = true) : p o = true ∧ allFs p xs = true := by
  rw [allF] at h
  exact Bool.and_eq_true_iff.mp h
theorem allF_obj {p : Fl → Bool} {o : Fl} {c : Str} {ks : List Str} {xs : List D} (h : allF p (.obj o c ks xs) = true) : p o = true ∧ allFs p xs = true := by
  rw [allF] at h
  exact Bool.and_eq_true_iff.mp h
theorem allF_tup {p : Fl → Bool} {xs : List D} (h : allF p (.tup xs) = true) : allFs p xs = true := by
  rw [allF] at h
  exact h
theorem allFs_cons {p : Fl → Bool} {x : D} {xs : List D} (h : allFs p (x :: xs) = true) : allF p x = true ∧ allFs p xs = true := by
  rw [allFs] at h
  exact Bool.and_eq_true_iff.mp h
def flFrz : Fl → Fl
  | .ow => .fr
  | o => o
def flLend : Fl → Fl
  | .ow => .bo
  | o => o
def noOw : Fl → Bool
  | .ow => false
  | _ => true
def noBo : Fl → Bool
  | .bo => false
  | _ => true
abbrev frz (d : D) : D := mapF flFrz d
abbrev lend (d : D) : D := mapF flLend d

/-! ## data in the heap -/
/-- a tuple whose object is known to have no dict -/
def StT (K : PySem.W.Frag) (H : Hp) (a : Addr) (vs : List V) : Prop :=
  (∃ o : Obj, H a = some (.frz o (.tup vs)) ∧ o.dict = none) ∨
    ∃ (o : Obj) (its : Array Value) (n : Nat), K.lookup a = some o ∧ o.cls = .type "tuple" ∧ o.data = .seq its n ∧ its.size ≤ sizeLine ∧ Vals vs its.toList ∧ o.dict = none
theorem StT.mono {K : PySem.W.Frag} {H H' : Hp} {a : Addr} {vs : List V} (e : Ex H H') (h : StT K H a vs) : StT K H' a vs := by
  rcases h with ⟨o, h, d⟩ | h
  · exact .inl ⟨o, e _ _ h, d⟩
  · exact .inr h
theorem StT.sq {K : PySem.W.Frag} {H : Hp} {a : Addr} {vs : List V} (h : StT K H a vs) : SqT K H a vs := by
  rcases h with ⟨o, h, _⟩ | ⟨o, its, n, h1, h2, h3, h4, h5, _⟩
  · exact .inl (.inr ⟨o, h⟩)
  · exact .inr ⟨o, its, n, h1, h2, h3, h4, h5⟩
structure Tx where
  K : PySem.W.Frag
  C : Str → Option Addr
  P : Hp
  X : Option Addr
  /-- tables of code objects, the name of what each one makes -/
  tb : List (Addr × Str) := []

mutual
inductive Rep (T : Tx) (B H F : Hp) : D → V → List Addr → Prop
  | non : Rep T B H F .non .non []
  | bl (b : Bool) : Rep T B H F (.bl b) (.bl b) []
  | int (i : Int) : Rep T B H F (.int i) (.int i) []
  | str (s : Str) (hs : PyData.strOk s = true) : Rep T B H F (.str s) (.str s) []
  | cls {c : Str} {a : Addr} (h : T.C c = some a) : Rep T B H F (.cls c) (.ref a) []
  | tup {ds : List D} {a : Addr} {vs : List V} {fp : List Addr} (h : StT T.K F a vs) (r : Reps T B H F ds vs fp) : Rep T B H F (.tup ds) (.ref a) fp
  | lstF {ds : List D} {a : Addr} {vs : List V} (h : F a = some (.lst vs)) (r : Reps T B H F ds vs []) : Rep T B H F (.lst .fr ds) (.ref a) []
  | lstR {ds : List D} {a : Addr} {vs : List V} (h : SqL T.K F a vs) (r : Reps T B H F ds vs []) : Rep T B H F (.lst .ro ds) (.ref a) []
  | lstB {ds : List D} {a : Addr} {vs : List V} (h : B a = some (.lst vs)) (r : Reps T B H F ds vs []) : Rep T B H F (.lst .bo ds) (.ref a) []
  | lstO {ds : List D} {a : Addr} {vs : List V} {fp gp : List Addr} (h : H a = some (.lst vs)) (r : Reps T B H F ds vs fp) (e : gp = a :: fp) : Rep T B H F (.lst .ow ds) (.ref a) gp
  | dctF {ks : List Str} {ds : List D} {a : Addr} {vs : List V} (h : F a = some (.dK ((ks.map Sum.inr).zip vs))) (hl : ks.length = vs.length) (r : Reps T B H F ds vs []) : Rep T B H F (.dct .fr ks ds) (.ref a) []
  | dctB {ks : List Str} {ds : List D} {a : Addr} {vs : List V} (h : B a = some (.dK ((ks.map Sum.inr).zip vs))) (hl : ks.length = vs.length) (r : Reps T B H F ds vs []) : Rep T B H F (.dct .bo ks ds) (.ref a) []
  | dctO {ks : List Str} {ds : List D} {a : Addr} {vs : List V} {fp gp : List Addr} (h : H a = some (.dK ((ks.map Sum.inr).zip vs))) (hl : ks.length = vs.length) (r : Reps T B H F ds vs fp) (e : gp = a :: fp) : Rep T B H F (.dct .ow ks ds) (.ref a) gp
  | objF {c : Str} {ks : List Str} {ds : List D} {C a dx : Addr} {vs : List V} (hc : T.C c = some C) (h : F a = some (.ins C dx (ks.zip vs))) (hd : F dx = some (.own a)) (hl : ks.length = vs.length) (r : Reps T B H F ds vs []) : Rep T B H F (.obj .fr c ks ds) (.ref a) []
  | objB {c : Str} {ks : List Str} {ds : List D} {C a dx : Addr} {vs : List V} (hc : T.C c = some C) (h : B a = some (.ins C dx (ks.zip vs))) (hd : B dx = some (.own a)) (hl : ks.length = vs.length) (r : Reps T B H F ds vs []) : Rep T B H F (.obj .bo c ks ds) (.ref a) []
  | objO {c : Str} {ks : List Str} {ds : List D} {C a dx : Addr} {vs : List V} {fp gp : List Addr} (hc : T.C c = some C) (h : H a = some (.ins C dx (ks.zip vs))) (hd : H dx = some (.own a)) (hl : ks.length = vs.length) (r : Reps T B H F ds vs fp) (e : gp = a :: dx :: fp) : Rep T B H F (.obj .ow c ks ds) (.ref a) gp
inductive Reps (T : Tx) (B H F : Hp) : List D → List V → List Addr → Prop
  | nil : Reps T B H F [] [] []
  | cons {d : D} {ds : List D} {v : V} {vs : List V} {f g fp : List Addr} (r : Rep T B H F d v f) (rs : Reps T B H F ds vs g) (e : fp = f ++ g) : Reps T B H F (d :: ds) (v :: vs) fp
end

section
variable {T : Tx} {B B' H H' F F' : Hp}
theorem Reps.len : ∀ {ds : List D} {vs : List V} {fp : List Addr}, Reps T B H F ds vs fp → ds.length = vs.length
  | _, _, _, .nil => rfl
  | _, _, _, .cons _ rs _ => by
    rw [List.length_cons, List.length_cons, Reps.len rs]

/-! every owned cell stands -/
mutual
theorem Rep.dom : ∀ {d : D} {v : V} {fp : List Addr}, Rep T B H F d v fp → ∀ a ∈ fp, ∃ o, H a = some o
  | _, _, _, .non, _, h => by cases h
  | _, _, _, .bl _, _, h => by cases h
  | _, _, _, .int _, _, h => by cases h
  | _, _, _, .str _ _, _, h => by cases h
  | _, _, _, .cls _, _, h => by cases h
  | _, _, _, .tup _ r, x, h => Reps.dom r x h
  | _, _, _, .lstF _ _, _, h => by cases h
  | _, _, _, .lstR _ _, _, h => by cases h
  | _, _, _, .lstB _ _, _, h => by cases h
  | _, _, _, .lstO q r e, x, h => by
    subst e
    rcases List.mem_cons.mp h with rfl | h
    · exact ⟨_, q⟩
    · exact Reps.dom r x h
  | _, _, _, .dctF _ _ _, _, h => by cases h
  | _, _, _, .dctB _ _ _, _, h => by cases h
  | _, _, _, .dctO q _ r e, x, h => by
    subst e
    rcases List.mem_cons.mp h with rfl | h
    · exact ⟨_, q⟩
    · exact Reps.dom r x h
  | _, _, _, .objF _ _ _ _ _, _, h => by cases h
  | _, _, _, .objB _ _ _ _ _, _, h => by cases h
  | _, _, _, .objO _ q q2 _ r e, x, h => by
    subst e
    rcases List.mem_cons.mp h with rfl | h
    · exact ⟨_, q⟩
    · rcases List.mem_cons.mp h with rfl | h
      · exact ⟨_, q2⟩
      · exact Reps.dom r x h
theorem Reps.dom : ∀ {ds : List D} {vs : List V} {fp : List Addr}, Reps T B H F ds vs fp → ∀ a ∈ fp, ∃ o, H a = some o
  | _, _, _, .nil, _, h => by cases h
  | _, _, _, .cons r rs e, x, h => by
    subst e
    rcases List.mem_append.mp h with h | h
    · exact Rep.dom r x h
    · exact Reps.dom rs x h
end

/-- no table of code objects -/
def Nt (o : HO) : Prop := ∀ ps, o ≠ .tbl ps
/-- .. and nothing of one's own -/
def Nm (o : HO) : Prop := Nt o ∧ ∀ φ, o ≠ .ext φ
mutual
theorem Rep.nm : ∀ {d : D} {v : V} {fp : List Addr}, Rep T B H F d v fp → ∀ a ∈ fp, ∀ o, H a = some o → Nm o
  | _, _, _, .non, _, h => by cases h
  | _, _, _, .bl b, _, h => by cases h
  | _, _, _, .int i, _, h => by cases h
  | _, _, _, .str s hs, _, h => by cases h
  | _, _, _, .cls _, _, h => by cases h
  | _, _, _, .tup _ r, x, h => Reps.nm r x h
  | _, _, _, .lstF _ _, _, h => by cases h
  | _, _, _, .lstR _ _, _, h => by cases h
  | _, _, _, .lstB _ _, _, h => by cases h
  | _, _, _, .lstO q r e, x, h => by
    subst e
    rcases List.mem_cons.mp h with rfl | h
    · intro o z
      rw [q] at z
      cases z
      exact ⟨fun _ e => (by cases e), fun _ e => (by cases e)⟩
    · exact Reps.nm r x h
  | _, _, _, .dctF _ _ _, _, h => by cases h
  | _, _, _, .dctB _ _ _, _, h => by cases h
  | _, _, _, .dctO q _ r e, x, h => by
    subst e
    rcases List.mem_cons.mp h with rfl | h
    · intro o z
      rw [q] at z
      cases z
      exact ⟨fun _ e => (by cases e), fun _ e => (by cases e)⟩
    · exact Reps.nm r x h
  | _, _, _, .objF _ _ _ _ _, _, h => by cases h
  | _, _, _, .objB _ _ _ _ _, _, h => by cases h
  | _, _, _, .objO _ q q2 _ r e, x, h => by
    subst e
    rcases List.mem_cons.mp h with rfl | h
    · intro o z
      rw [q] at z
      cases z
      exact ⟨fun _ e => (by cases e), fun _ e => (by cases e)⟩
    · rcases List.mem_cons.mp h with rfl | h
      · intro o z
        rw [q2] at z
        cases z
        exact ⟨fun _ e => (by cases e), fun _ e => (by cases e)⟩
      · exact Reps.nm r x h
theorem Reps.nm : ∀ {ds : List D} {vs : List V} {fp : List Addr}, Reps T B H F ds vs fp → ∀ a ∈ fp, ∀ o, H a = some o → Nm o
  | _, _, _, .nil, _, h => by cases h
  | _, _, _, .cons r rs e, x, h => by
    subst e
    rcases List.mem_append.mp h with h | h
    · exact Rep.nm r x h
    · exact Reps.nm rs x h
end
theorem Rep.nt {d : D} {v : V} {fp : List Addr} (r : Rep T B H F d v fp) : ∀ a ∈ fp, ∀ o, H a = some o → Nt o := fun a ha o e => (r.nm a ha o e).1
theorem Reps.nt {d : List D} {v : List V} {fp : List Addr} (r : Reps T B H F d v fp) : ∀ a ∈ fp, ∀ o, H a = some o → Nt o := fun a ha o e => (r.nm a ha o e).1
/-! the heaps grow; what is owned stands -/
mutual
theorem Rep.mono (eB : Ex B B') (eF : Ex F F') : ∀ {d : D} {v : V} {fp : List Addr}, Rep T B H F d v fp → (∀ a ∈ fp, ∀ o, H a = some o → H' a = some o) → Rep T B' H' F' d v fp
  | _, _, _, .non, _ => .non
  | _, _, _, .bl b, _ => .bl b
  | _, _, _, .int i, _ => .int i
  | _, _, _, .str s hs, _ => .str s hs
  | _, _, _, .cls h, _ => .cls h
  | _, _, _, .tup h r, k => .tup (h.mono eF) (Reps.mono eB eF r k)
  | _, _, _, .lstF h r, k => .lstF (eF _ _ h) (Reps.mono eB eF r k)
  | _, _, _, .lstR h r, k => .lstR (ex_l eF h) (Reps.mono eB eF r k)
  | _, _, _, .lstB h r, k => .lstB (eB _ _ h) (Reps.mono eB eF r k)
  | _, _, _, .lstO h r e, k => by
    subst e
    exact .lstO (k _ List.mem_cons_self _ h) (Reps.mono eB eF r fun a q => k a (List.mem_cons_of_mem _ q)) rfl
  | _, _, _, .dctF h l r, k => .dctF (eF _ _ h) l (Reps.mono eB eF r k)
  | _, _, _, .dctB h l r, k => .dctB (eB _ _ h) l (Reps.mono eB eF r k)
  | _, _, _, .dctO h l r e, k => by
    subst e
    exact .dctO (k _ List.mem_cons_self _ h) l (Reps.mono eB eF r fun a q => k a (List.mem_cons_of_mem _ q)) rfl
  | _, _, _, .objF c h h2 l r, k => .objF c (eF _ _ h) (eF _ _ h2) l (Reps.mono eB eF r k)
  | _, _, _, .objB c h h2 l r, k => .objB c (eB _ _ h) (eB _ _ h2) l (Reps.mono eB eF r k)
  | _, _, _, .objO c h h2 l r e, k => by
    subst e
    exact .objO c (k _ List.mem_cons_self _ h) (k _ (List.mem_cons_of_mem _ List.mem_cons_self) _ h2) l (Reps.mono eB eF r fun a q => k a (List.mem_cons_of_mem _ (List.mem_cons_of_mem _ q))) rfl
theorem Reps.mono (eB : Ex B B') (eF : Ex F F') : ∀ {ds : List D} {vs : List V} {fp : List Addr}, Reps T B H F ds vs fp → (∀ a ∈ fp, ∀ o, H a = some o → H' a = some o) → Reps T B' H' F' ds vs fp
  | _, _, _, .nil, _ => .nil
  | _, _, _, .cons r rs e, k => by
    subst e
    exact .cons (Rep.mono eB eF r fun a q => k a (List.mem_append.mpr (.inl q))) (Reps.mono eB eF rs fun a q => k a (List.mem_append.mpr (.inr q))) rfl
end

/-! owned cells become frozen -/
mutual
theorem Rep.frz (eF : Ex F F') : ∀ {d : D} {v : V} {fp : List Addr}, Rep T B H F d v fp → (∀ a ∈ fp, ∀ o, H a = some o → F' a = some o) → Rep T B H' F' (mapF flFrz d) v []
  | _, _, _, .non, _ => .non
  | _, _, _, .bl b, _ => .bl b
  | _, _, _, .int i, _ => .int i
  | _, _, _, .str s hs, _ => .str s hs
  | _, _, _, .cls h, _ => .cls h
  | _, _, _, .tup h r, k => .tup (h.mono eF) (Reps.frz eF r k)
  | _, _, _, .lstF h r, k => .lstF (eF _ _ h) (Reps.frz eF r k)
  | _, _, _, .lstR h r, k => .lstR (ex_l eF h) (Reps.frz eF r k)
  | _, _, _, .lstB h r, k => .lstB h (Reps.frz eF r k)
  | _, _, _, .lstO h r e, k => by
    subst e
    exact .lstF (k _ List.mem_cons_self _ h) (Reps.frz eF r fun a q => k a (List.mem_cons_of_mem _ q))
  | _, _, _, .dctF h l r, k => .dctF (eF _ _ h) l (Reps.frz eF r k)
  | _, _, _, .dctB h l r, k => .dctB h l (Reps.frz eF r k)
  | _, _, _, .dctO h l r e, k => by
    subst e
    exact .dctF (k _ List.mem_cons_self _ h) l (Reps.frz eF r fun a q => k a (List.mem_cons_of_mem _ q))
  | _, _, _, .objF c h h2 l r, k => .objF c (eF _ _ h) (eF _ _ h2) l (Reps.frz eF r k)
  | _, _, _, .objB c h h2 l r, k => .objB c h h2 l (Reps.frz eF r k)
  | _, _, _, .objO c h h2 l r e, k => by
    subst e
    exact .objF c (k _ List.mem_cons_self _ h) (k _ (List.mem_cons_of_mem _ List.mem_cons_self) _ h2) l (Reps.frz eF r fun a q => k a (List.mem_cons_of_mem _ (List.mem_cons_of_mem _ q)))
theorem Reps.frz (eF : Ex F F') : ∀ {ds : List D} {vs : List V} {fp : List Addr}, Reps T B H F ds vs fp → (∀ a ∈ fp, ∀ o, H a = some o → F' a = some o) → Reps T B H' F' (mapFs flFrz ds) vs []
  | _, _, _, .nil, _ => .nil
  | _, _, _, .cons r rs e, k => by
    subst e
    exact .cons (Rep.frz eF r fun a q => k a (List.mem_append.mpr (.inl q))) (Reps.frz eF rs fun a q => k a (List.mem_append.mpr (.inr q))) rfl
end

/-! owned cells are lent -/
mutual
theorem Rep.lend (eB : Ex B B') : ∀ {d : D} {v : V} {fp : List Addr}, Rep T B H F d v fp → (∀ a ∈ fp, ∀ o, H a = some o → B' a = some o) → Rep T B' H' F (mapF flLend d) v []
  | _, _, _, .non, _ => .non
  | _, _, _, .bl b, _ => .bl b
  | _, _, _, .int i, _ => .int i
  | _, _, _, .str s hs, _ => .str s hs
  | _, _, _, .cls h, _ => .cls h
  | _, _, _, .tup h r, k => .tup h (Reps.lend eB r k)
  | _, _, _, .lstF h r, k => .lstF h (Reps.lend eB r k)
  | _, _, _, .lstR h r, k => .lstR h (Reps.lend eB r k)
  | _, _, _, .lstB h r, k => .lstB (eB _ _ h) (Reps.lend eB r k)
  | _, _, _, .lstO h r e, k => by
    subst e
    exact .lstB (k _ List.mem_cons_self _ h) (Reps.lend eB r fun a q => k a (List.mem_cons_of_mem _ q))
  | _, _, _, .dctF h l r, k => .dctF h l (Reps.lend eB r k)
  | _, _, _, .dctB h l r, k => .dctB (eB _ _ h) l (Reps.lend eB r k)
  | _, _, _, .dctO h l r e, k => by
    subst e
    exact .dctB (k _ List.mem_cons_self _ h) l (Reps.lend eB r fun a q => k a (List.mem_cons_of_mem _ q))
  | _, _, _, .objF c h h2 l r, k => .objF c h h2 l (Reps.lend eB r k)
  | _, _, _, .objB c h h2 l r, k => .objB c (eB _ _ h) (eB _ _ h2) l (Reps.lend eB r k)
  | _, _, _, .objO c h h2 l r e, k => by
    subst e
    exact .objB c (k _ List.mem_cons_self _ h) (k _ (List.mem_cons_of_mem _ List.mem_cons_self) _ h2) l (Reps.lend eB r fun a q => k a (List.mem_cons_of_mem _ (List.mem_cons_of_mem _ q)))
theorem Reps.lend (eB : Ex B B') : ∀ {ds : List D} {vs : List V} {fp : List Addr}, Reps T B H F ds vs fp → (∀ a ∈ fp, ∀ o, H a = some o → B' a = some o) → Reps T B' H' F (mapFs flLend ds) vs []
  | _, _, _, .nil, _ => .nil
  | _, _, _, .cons r rs e, k => by
    subst e
    exact .cons (Rep.lend eB r fun a q => k a (List.mem_append.mpr (.inl q))) (Reps.lend eB rs fun a q => k a (List.mem_append.mpr (.inr q))) rfl
end

/-! without lent parts: whatever is lent -/
mutual
theorem Rep.noB : ∀ {d : D} {v : V} {fp : List Addr}, Rep T B H F d v fp → allF noBo d = true → Rep T B' H F d v fp
  | _, _, _, .non, _ => .non
  | _, _, _, .bl b, _ => .bl b
  | _, _, _, .int i, _ => .int i
  | _, _, _, .str s hs, _ => .str s hs
  | _, _, _, .cls h, _ => .cls h
  | _, _, _, .tup h r, n => .tup h (Reps.noB r (allF_tup n))
  | _, _, _, .lstF h r, n => .lstF h (Reps.noB r (allF_lst n).2)
  | _, _, _, .lstR h r, n => .lstR h (Reps.noB r (allF_lst n).2)
  | _, _, _, .lstB _ _, n => nomatch (allF_lst n).1
  | _, _, _, .lstO h r e, n => .lstO h (Reps.noB r (allF_lst n).2) e
  | _, _, _, .dctF h l r, n => .dctF h l (Reps.noB r (allF_dct n).2)
  | _, _, _, .dctB _ _ _, n => nomatch (allF_dct n).1
  | _, _, _, .dctO h l r e, n => .dctO h l (Reps.noB r (allF_dct n).2) e
  | _, _, _, .objF c h h2 l r, n => .objF c h h2 l (Reps.noB r (allF_obj n).2)
  | _, _, _, .objB _ _ _ _ _, n => nomatch (allF_obj n).1
  | _, _, _, .objO c h h2 l r e, n => .objO c h h2 l (Reps.noB r (allF_obj n).2) e
theorem Reps.noB : ∀ {ds : List D} {vs : List V} {fp : List Addr}, Reps T B H F ds vs fp → allFs noBo ds = true → Reps T B' H F ds vs fp
  | _, _, _, .nil, _ => .nil
  | _, _, _, .cons r rs e, n => .cons (Rep.noB r (allFs_cons n).1) (Reps.noB rs (allFs_cons n).2) e
end

/-! without owned parts: no footprint -/
mutual
theorem Rep.noO : ∀ {d : D} {v : V} {fp : List Addr}, Rep T B H F d v fp → allF noOw d = true → fp = []
  | _, _, _, .non, _ => rfl
  | _, _, _, .bl b, _ => rfl
  | _, _, _, .int i, _ => rfl
  | _, _, _, .str s hs, _ => rfl
  | _, _, _, .cls h, _ => rfl
  | _, _, _, .tup h r, n => Reps.noO r (allF_tup n)
  | _, _, _, .lstF h r, n => rfl
  | _, _, _, .lstR h r, n => rfl
  | _, _, _, .lstB _ _, n => rfl
  | _, _, _, .lstO h r e, n => nomatch (allF_lst n).1
  | _, _, _, .dctF h l r, n => rfl
  | _, _, _, .dctB _ _ _, n => rfl
  | _, _, _, .dctO h l r e, n => nomatch (allF_dct n).1
  | _, _, _, .objF c h h2 l r, n => rfl
  | _, _, _, .objB _ _ _ _ _, n => rfl
  | _, _, _, .objO c h h2 l r e, n => nomatch (allF_obj n).1
theorem Reps.noO : ∀ {ds : List D} {vs : List V} {fp : List Addr}, Reps T B H F ds vs fp → allFs noOw ds = true → fp = []
  | _, _, _, .nil, _ => rfl
  | _, _, _, .cons r rs e, n => by rw [e, Rep.noO r (allFs_cons n).1, Reps.noO rs (allFs_cons n).2]; rfl
end
end
end Cs
namespace Cs
open PySem L2 Evl

/-! ## environments, outcomes -/
inductive Sl where
  | un
  | exn
  | dt (d : D)
abbrev En := List Sl
inductive Out (α : Type) where
  | ok (a : α) (ρ : En)
  | exc (c : Str) (ks : List Str) (xs : List D) (ρ : En)
  | bad
abbrev M (α : Type) := En → Out α
inductive Flw where
  | nx
  | bk
  | ct
  | rt (d : D)
inductive Res where
  | ok (d : D) (os : En)
  | exc (c : Str) (ks : List Str) (xs : List D) (os : En)
  | bad

def bnd {α β : Type} (f : M α) (k : α → M β) : M β := fun ρ =>
  match f ρ with
  | .ok a ρ' => k a ρ'
  | .exc c ks xs ρ' => .exc c ks xs ρ'
  | .bad => .bad
def ret {α : Type} (a : α) : M α := fun ρ => .ok a ρ
def bad {α : Type} : M α := fun _ => .bad
theorem bnd_ok {α β : Type} {f : M α} {k : α → M β} {ρ ρ' : En} {a : α} (h : f ρ = .ok a ρ') : bnd f k ρ = k a ρ' := by
  unfold bnd
  rw [h]
theorem bnd_exc {α β : Type} {f : M α} {k : α → M β} {ρ ρ' : En} {c : Str} {ks : List Str} {xs : List D} (h : f ρ = .exc c ks xs ρ') : bnd f k ρ = .exc c ks xs ρ' := by
  unfold bnd
  rw [h]
theorem bnd_bad {α β : Type} {f : M α} {k : α → M β} {ρ : En} (h : f ρ = .bad) : bnd f k ρ = .bad := by
  unfold bnd
  rw [h]

/-! ## the state -/
/-- tables of code objects: none is frozen or lent; each tells what it told -/
theorem nmH {H : Hp} {p : Addr} {o : HO} (h : H p = some o) (n : Nm o := by exact ⟨fun _ e => (by cases e), fun _ e => (by cases e)⟩) : ∀ u, H p = some u → Nm u := fun u e => by
  rw [h] at e
  cases e
  exact n
structure XT (T : Tx) (B H F : Hp) : Prop where
  ntF : ∀ a o, F a = some o → Nt o
  ntB : ∀ a o, B a = some o → Nt o
  tb : LamX.Tabs T.tb H
  ta : ∀ a ps, H a = some (.tbl ps) → ∃ q, (a, q) ∈ T.tb
structure Rel (T : Tx) (σ : L2.St) (B H F : Hp) (ρ : En) (φ : Nat → List Addr) : Prop where
  len : ρ.length = σ.length
  exB : Ex B H
  exF : Ex F H
  exP : Ex T.P F
  sl : ∀ (i : Nat) d, ρ[i]? = some (.dt d) → ∃ v, σ[i]? = some (some v) ∧ Rep T B H F d v (φ i)
  xn : ∀ i : Nat, ρ[i]? = some .exn → ∃ a, T.X = some a ∧ σ[i]? = some (some (.ref a))
  em : ∀ i : Nat, (∀ d, ρ[i]? ≠ some (.dt d)) → φ i = []
  nd : ∀ i, (φ i).Nodup
  dj : ∀ i j a, i ≠ j → a ∈ φ i → a ∉ φ j
  ap : ∀ i a, a ∈ φ i → F a = none ∧ B a = none
  xt : XT T B H F
def O (φ : Nat → List Addr) : Addr → Prop := fun a => ∃ i, a ∈ φ i
abbrev Or2 (O1 : Addr → Prop) (g : List Addr) : Addr → Prop := fun a => O1 a ∨ a ∈ g
/-- o stands at a still; a table may have grown -/
structure KO (H' : Hp) (a : Addr) (o : HO) : Prop where
  there : ∃ u, H' a = some u
  st : Nt o → H' a = some o
theorem KO.off {H' : Hp} {a p : Addr} {o u : HO} (k : KO H' a o) (n : a ≠ p) : KO (upd H' p u) a o := ⟨by rw [upd_ne n]; exact k.there, fun z => by rw [upd_ne n]; exact k.st z⟩
theorem KO.of {H' : Hp} {a : Addr} {o : HO} (h : H' a = some o) : KO H' a o := ⟨⟨_, h⟩, fun _ => h⟩
structure Step (H F : Hp) (O1 : Addr → Prop) (H' F' : Hp) (O2 : Addr → Prop) : Prop where
  keep : ∀ a o, H a = some o → ¬ O1 a → KO H' a o
  ext : Ex F F'
  fn : ∀ a o, F' a = some o → F a = none → O1 a ∨ H a = none
  on : ∀ a, O2 a → O1 a ∨ H a = none
structure Tmp (T : Tx) (B H F : Hp) (φ : Nat → List Addr) (d : D) (v : V) (g : List Addr) : Prop where
  rep : Rep T B H F d v g
  nd : g.Nodup
  ap : ∀ a ∈ g, F a = none ∧ B a = none
  dj : ∀ a ∈ g, ¬ O φ a
structure Tmps (T : Tx) (B H F : Hp) (φ : Nat → List Addr) (ds : List D) (vs : List V) (g : List Addr) : Prop where
  rep : Reps T B H F ds vs g
  nd : g.Nodup
  ap : ∀ a ∈ g, F a = none ∧ B a = none
  dj : ∀ a ∈ g, ¬ O φ a
/-- an exception of the class c, its fields frozen -/
def XRep (T : Tx) (F : Hp) (c : Str) (ks : List Str) (xs : List D) (cls : Value) (dd : Option Addr) : Prop :=
  ∃ C, T.C c = some C ∧ cls = .ref C ∧ (ks = [] ∨ ∃ d fs vs, dd = some d ∧ F d = some (.xd fs) ∧ Reps T (fun _ => none) (fun _ => none) F xs vs [] ∧ ks.length = vs.length ∧ ∀ (i : Nat) k v, ks[i]? = some k → vs[i]? = some v → fs.lookup k = some v)

section
variable {T : Tx} {σ : L2.St} {B H F H1 F1 H2 F2 H' F' : Hp} {ρ ρ' : En} {φ φ1 φ2 φ' : Nat → List Addr} {O1 O2 O3 : Addr → Prop}
theorem ta_upd {T : Tx} {H : Hp} {p : Addr} {o : HO} (x : ∀ a ps, H a = some (.tbl ps) → ∃ q, (a, q) ∈ T.tb) (n : Nt o) : ∀ a ps, upd H p o a = some (.tbl ps) → ∃ q, (a, q) ∈ T.tb := fun a ps e => by
  by_cases z : a = p
  · subst z
    rw [upd_same] at e
    cases e
    exact absurd rfl (n ps)
  · rw [upd_ne z] at e
    exact x a ps e
theorem XT.new {T : Tx} {p : Addr} {o : HO} (x : XT T B H F) (h : H p = none) (n : Nt o) : XT T B (upd H p o) F := ⟨x.ntF, x.ntB, x.tb.ext (Ex.new h), ta_upd x.ta n⟩
theorem XT.newF {T : Tx} {p : Addr} {o : HO} (x : XT T B H F) (h : H p = none) (n : Nt o) : XT T B (upd H p o) (upd F p o) := ⟨fun a u e => by
  by_cases z : a = p
  · subst z
    rw [upd_same] at e
    cases e
    exact n
  · rw [upd_ne z] at e
    exact x.ntF a u e, x.ntB, x.tb.ext (Ex.new h), ta_upd x.ta n⟩
/-- an object that is no table and no code object is written -/
theorem XT.upd {T : Tx} {p : Addr} {o : HO} (x : XT T B H F) (hm : ∀ u, H p = some u → Nm u) (no : Nt o) : XT T B (upd H p o) F := ⟨x.ntF, x.ntB, fun t ht => by
  obtain ⟨ps, h1, h2, h3⟩ := x.tb t ht
  refine ⟨ps, ?_, h2, fun pos cv hc => ?_⟩
  · rw [upd_ne fun z => (hm _ (by rw [← z]; exact h1)).1 ps rfl]
    exact h1
  · obtain ⟨c, e1, e2⟩ := h3 pos cv hc
    refine ⟨c, e1, ?_⟩
    rw [upd_ne fun z => (hm _ (by rw [← z]; exact e2)).2 _ rfl]
    exact e2, ta_upd x.ta no⟩
theorem Step.refl : Step H F O1 H F O1 := ⟨fun _ _ h _ => .of h, Ex.refl F, fun a o h n => (by rw [h] at n; cases n), fun _ h => .inl h⟩
theorem KO.trans {H1 H2 : Hp} {a : Addr} {o : HO} (k : KO H1 a o) (h : ∀ u, H1 a = some u → KO H2 a u) : KO H2 a o := by
  obtain ⟨u, hu⟩ := k.there
  exact ⟨(h u hu).there, fun n => (h o (k.st n)).st n⟩
theorem Step.trans (s : Step H F O1 H1 F1 O2) (t : Step H1 F1 O2 H2 F2 O3) : Step H F O1 H2 F2 O3 := by
  have back : ∀ a, H1 a = none → O1 a ∨ H a = none := fun a h => by
    cases e : H a with
    | none => exact .inr rfl
    | some o =>
      by_cases q : O1 a
      · exact .inl q
      · obtain ⟨u, hu⟩ := (s.keep a o e q).there
        rw [hu] at h; cases h
  refine ⟨fun a o h n => (s.keep a o h n).trans fun u hu => t.keep a u hu fun q => ?_, s.ext.trans t.ext, fun a o h n => ?_, fun a h => ?_⟩
  · rcases s.on a q with z | z
    · exact n z
    · rw [h] at z; cases z
  · cases e : F1 a with
    | some o' => exact s.fn a o' e n
    | none =>
      rcases t.fn a o h e with z | z
      · exact s.on a z
      · exact back a z
  · rcases t.on a h with z | z
    · exact s.on a z
    · exact back a z
theorem Step.frame {g : List Addr} (s : Step H F O1 H1 F1 O2) : Step H F (Or2 O1 g) H1 F1 (Or2 O2 g) :=
  ⟨fun a o h n => s.keep a o h fun z => n (.inl z), s.ext, fun a o h n => (s.fn a o h n).imp .inl id, fun a h => by
    rcases h with h | h
    · exact (s.on a h).imp .inl id
    · exact .inl (.inr h)⟩
theorem Step.drop (s : Step H F O1 H1 F1 O2) (h : ∀ a, O3 a → O2 a) : Step H F O1 H1 F1 O3 := ⟨s.keep, s.ext, s.fn, fun a q => s.on a (h a q)⟩
/-- something new is laid -/
theorem Step.new {p : Addr} {o : HO} (h : H p = none) : Step H F O1 (upd H p o) F O1 := ⟨fun a u e _ => .of (by rw [upd_ne (ne_of_none e h)]; exact e), Ex.refl F, fun a u e n => (by rw [e] at n; cases n), fun _ q => .inl q⟩

theorem Tmp.dom {d : D} {v : V} {g : List Addr} (t : Tmp T B H F φ d v g) : ∀ a ∈ g, ∃ o, H a = some o := t.rep.dom
theorem Rel.dom (r : Rel T σ B H F ρ φ) {a : Addr} (h : O φ a) : ∃ o, H a = some o := by
  obtain ⟨i, h⟩ := h
  by_cases q : ∃ d, ρ[i]? = some (.dt d)
  · obtain ⟨d, q⟩ := q
    obtain ⟨v, _, rp⟩ := r.sl i d q
    exact rp.dom a h
  · rw [r.em i fun d z => q ⟨d, z⟩] at h
    cases h
theorem Rel.nmO (r : Rel T σ B H F ρ φ) {a : Addr} {o : HO} (h : O φ a) (e : H a = some o) : Nm o := by
  obtain ⟨i, h⟩ := h
  by_cases q : ∃ d, ρ[i]? = some (.dt d)
  · obtain ⟨d, q⟩ := q
    obtain ⟨v, _, rp⟩ := r.sl i d q
    exact rp.nm a h o e
  · rw [r.em i fun d z => q ⟨d, z⟩] at h
    cases h
theorem Rel.ntO (r : Rel T σ B H F ρ φ) {a : Addr} {o : HO} (h : O φ a) (e : H a = some o) : Nt o := (r.nmO h e).1
/-- a value in the air stays while something else is done -/
theorem Tmp.step {d : D} {v : V} {g : List Addr} (t : Tmp T B H F φ d v g) (s : Step H F (O φ) H1 F1 (O φ1)) : Tmp T B H1 F1 φ1 d v g := by
  refine ⟨t.rep.mono (Ex.refl B) s.ext fun a ha o e => (s.keep a o e (t.dj a ha)).st (t.rep.nt a ha o e), t.nd, fun a ha => ⟨?_, (t.ap a ha).2⟩, fun a ha q => ?_⟩
  · cases e : F1 a with
    | none => rfl
    | some o =>
      rcases s.fn a o e (t.ap a ha).1 with z | z
      · exact absurd z (t.dj a ha)
      · obtain ⟨o', e'⟩ := t.dom a ha
        rw [e'] at z; cases z
  · rcases s.on a q with z | z
    · exact t.dj a ha z
    · obtain ⟨o', e'⟩ := t.dom a ha
      rw [e'] at z; cases z
theorem Tmps.step {ds : List D} {vs : List V} {g : List Addr} (t : Tmps T B H F φ ds vs g) (s : Step H F (O φ) H1 F1 (O φ1)) : Tmps T B H1 F1 φ1 ds vs g := by
  refine ⟨t.rep.mono (Ex.refl B) s.ext fun a ha o e => (s.keep a o e (t.dj a ha)).st (t.rep.nt a ha o e), t.nd, fun a ha => ⟨?_, (t.ap a ha).2⟩, fun a ha q => ?_⟩
  · cases e : F1 a with
    | none => rfl
    | some o =>
      rcases s.fn a o e (t.ap a ha).1 with z | z
      · exact absurd z (t.dj a ha)
      · obtain ⟨o', e'⟩ := t.rep.dom a ha
        rw [e'] at z; cases z
  · rcases s.on a q with z | z
    · exact t.dj a ha z
    · obtain ⟨o', e'⟩ := t.rep.dom a ha
      rw [e'] at z; cases z
/-- two values in the air stand apart -/
theorem Tmp.apart {d : D} {v : V} {g g2 : List Addr} (t : Tmp T B H F φ d v g) (s : Step H F (O φ) H1 F1 (Or2 (O φ1) g2)) : ∀ a ∈ g, a ∉ g2 := fun a ha q => by
  rcases s.on a (.inr q) with z | z
  · exact t.dj a ha z
  · obtain ⟨o', e'⟩ := t.dom a ha
    rw [e'] at z; cases z
theorem Tmp.flat {d : D} {v : V} (r : Rep T B H F d v []) : Tmp T B H F φ d v [] := ⟨r, .nil, fun _ h => (by cases h), fun _ h => (by cases h)⟩
theorem Tmps.flat {ds : List D} {vs : List V} (r : Reps T B H F ds vs []) : Tmps T B H F φ ds vs [] := ⟨r, .nil, fun _ h => (by cases h), fun _ h => (by cases h)⟩
/-- an object is laid that nobody holds yet: the state stays -/
theorem Rel.new (r : Rel T σ B H F ρ φ) {p : Addr} {o : HO} (h : H p = none) (n : Nt o := by intro _ e; cases e) : Rel T σ B (upd H p o) F ρ φ :=
  ⟨r.len, r.exB.trans (Ex.new h), r.exF.trans (Ex.new h), r.exP, fun i d q => by
    obtain ⟨v, e, rp⟩ := r.sl i d q
    exact ⟨v, e, rp.mono (Ex.refl B) (Ex.refl F) fun a _ o q => Ex.new h a o q⟩, r.xn, r.em, r.nd, r.dj, r.ap, r.xt.new h n⟩
/-- .. and is frozen at once -/
theorem Rel.newF (r : Rel T σ B H F ρ φ) {p : Addr} {o : HO} (h : H p = none) (n : Nt o := by intro _ e; cases e) : Rel T σ B (upd H p o) (upd F p o) ρ φ := by
  have hF : F p = none := by
    cases e : F p with
    | none => rfl
    | some u => rw [r.exF p u e] at h; cases h
  refine ⟨r.len, r.exB.trans (Ex.new h), fun a u e => ?_, r.exP.trans (Ex.new hF), fun i d q => ?_, r.xn, r.em, r.nd, r.dj, fun i a q => ?_, r.xt.newF h n⟩
  · by_cases z : a = p
    · subst z; rw [upd_same] at e ⊢; exact e
    · rw [upd_ne z] at e ⊢; exact r.exF a u e
  · obtain ⟨v, e, rp⟩ := r.sl i d q
    exact ⟨v, e, rp.mono (Ex.refl B) (Ex.new hF) fun a _ o q => Ex.new h a o q⟩
  · obtain ⟨o', e'⟩ := r.dom ⟨i, q⟩
    exact ⟨by rw [upd_ne (ne_of_none e' h)]; exact (r.ap i a q).1, (r.ap i a q).2⟩
theorem Step.newF {p : Addr} {o : HO} (h : H p = none) (eF : Ex F H) : Step H F O1 (upd H p o) (upd F p o) O1 := by
  have hF : F p = none := by
    cases e : F p with
    | none => rfl
    | some u => rw [eF p u e] at h; cases h
  refine ⟨fun a u e _ => .of (by rw [upd_ne (ne_of_none e h)]; exact e), Ex.new hF, fun a u e n => ?_, fun _ q => .inl q⟩
  by_cases z : a = p
  · subst z; exact .inr h
  · rw [upd_ne z] at e; rw [e] at n; cases n
theorem Rel.freeF (r : Rel T σ B H F ρ φ) {p : Addr} (h : H p = none) : F p = none := by
  cases e : F p with
  | none => rfl
  | some u => rw [r.exF p u e] at h; cases h
theorem Rel.freeB (r : Rel T σ B H F ρ φ) {p : Addr} (h : H p = none) : B p = none := by
  cases e : B p with
  | none => rfl
  | some u => rw [r.exB p u e] at h; cases h
theorem Rel.freeO (r : Rel T σ B H F ρ φ) {p : Addr} (h : H p = none) : ¬ O φ p := fun q => by
  obtain ⟨o, e⟩ := r.dom q
  rw [e] at h; cases h
/-- the cells g move into the frozen heap -/
def ovl (H F : Hp) (g : List Addr) : Hp := fun a => if a ∈ g then H a else F a
theorem ovl_in {g : List Addr} {a : Addr} (h : a ∈ g) : ovl H F g a = H a := by
  unfold ovl
  rw [if_pos h]
theorem ovl_out {g : List Addr} {a : Addr} (h : a ∉ g) : ovl H F g a = F a := by
  unfold ovl
  rw [if_neg h]
theorem ovl_ex {g : List Addr} (h : ∀ a ∈ g, F a = none) : Ex F (ovl H F g) := fun a o e => by
  rw [ovl_out fun z => by rw [h a z] at e; cases e]
  exact e
theorem ovl_sub {g : List Addr} (h : Ex F H) : Ex (ovl H F g) H := fun a o e => by
  by_cases z : a ∈ g
  · rw [ovl_in z] at e; exact e
  · rw [ovl_out z] at e; exact h a o e
theorem XT.ovlB {T : Tx} {g : List Addr} (x : XT T B H F) (h3 : ∀ a ∈ g, ∀ o, H a = some o → Nt o) : XT T (ovl H B g) H F := ⟨x.ntF, fun a o e => by
  by_cases z : a ∈ g
  · rw [ovl_in z] at e
    exact h3 a z o e
  · rw [ovl_out z] at e
    exact x.ntB a o e, x.tb, x.ta⟩
theorem Rel.ovl (r : Rel T σ B H F ρ φ) {g : List Addr} (h1 : ∀ a ∈ g, F a = none) (h2 : ∀ a ∈ g, ¬ O φ a) (h3 : ∀ a ∈ g, ∀ o, H a = some o → Nt o) : Rel T σ B H (ovl H F g) ρ φ :=
  ⟨r.len, r.exB, ovl_sub r.exF, r.exP.trans (ovl_ex h1), fun i d q => by
    obtain ⟨v, e, rp⟩ := r.sl i d q
    exact ⟨v, e, rp.mono (Ex.refl B) (ovl_ex h1) fun _ _ _ q => q⟩, r.xn, r.em, r.nd, r.dj, fun i a q => ⟨by
    rw [ovl_out fun z => h2 a z ⟨i, q⟩]
    exact (r.ap i a q).1, (r.ap i a q).2⟩, ⟨fun a o e => by
    by_cases z : a ∈ g
    · rw [ovl_in z] at e
      exact h3 a z o e
    · rw [ovl_out z] at e
      exact r.xt.ntF a o e, r.xt.ntB, r.xt.tb, r.xt.ta⟩⟩
/-- freeze a value in the air -/
theorem Tmp.frz {d : D} {v : V} {g : List Addr} (t : Tmp T B H F φ d v g) : Rep T B H (ovl H F g) (mapF flFrz d) v [] := t.rep.frz (ovl_ex fun a h => (t.ap a h).1) fun a ha o e => by rw [ovl_in ha]; exact e
theorem Step.frz {g : List Addr} (s : Step H F O1 H1 F1 (Or2 O2 g)) : Step H F O1 H1 (Cs.ovl H1 F1 g) O2 → Step H F O1 H1 (Cs.ovl H1 F1 g) O2 := id
theorem Step.ovl {g : List Addr} (s : Step H F O1 H1 F1 (Or2 O2 g)) (h : ∀ a ∈ g, F1 a = none) : Step H F O1 H1 (Cs.ovl H1 F1 g) O2 :=
  ⟨s.keep, s.ext.trans (ovl_ex h), fun a o e n => by
    by_cases z : a ∈ g
    · exact s.on a (.inr z)
    · rw [ovl_out z] at e; exact s.fn a o e n, fun a q => s.on a (.inl q)⟩
end
end Cs
namespace Cs
open PySem L2 Evl

section
variable {H F H1 F1 H2 F2 : Hp} {O1 O2 O3 : Addr → Prop}
theorem Step.or0 (s : Step H F O1 H1 F1 O2) : Step H F O1 H1 F1 (Or2 O2 []) := s.drop fun a h => by
  rcases h with h | h
  · exact h
  · cases h
theorem Step.no {g : List Addr} (s : Step H F O1 H1 F1 (Or2 O2 g)) : Step H F O1 H1 F1 O2 := s.drop fun a h => .inl h
/-- two steps, a value of the first one held -/
theorem Step.two {g g1 : List Addr} (s : Step H F O1 H1 F1 (Or2 O2 g)) (t : Step H1 F1 O2 H2 F2 (Or2 O3 g1)) : Step H F O1 H2 F2 (Or2 O3 (g1 ++ g)) :=
  (s.trans (t.frame (g := g))).drop fun a h => by
    rcases h with h | h
    · exact .inl (.inl h)
    · rcases List.mem_append.mp h with h | h
      · exact .inl (.inr h)
      · exact .inr h
end

/-! ## states and their moves -/
structure S5 where
  σ : L2.St
  H : Hp
  F : Hp
  ρ : En
  φ : Nat → List Addr
abbrev Okk (T : Tx) (B : Hp) (s : S5) : Prop := Rel T s.σ B s.H s.F s.ρ s.φ
structure Goes (tc : List Nat) (s s' : S5) (g : List Addr) : Prop where
  step : Step s.H s.F (O s.φ) s'.H s'.F (Or2 (O s'.φ) g)
  fix : ∀ j, j ∉ tc → s'.ρ[j]? = s.ρ[j]? ∧ s'.φ j = s.φ j ∧ ∀ a ∈ s.φ j, s'.H a = s.H a
  sg : ∀ j, j + 1000 ∉ tc → s'.σ[j]? = s.σ[j]?
section
variable {tc tc1 tc2 : List Nat} {s s1 s2 : S5} {g g1 g2 : List Addr}
theorem Goes.refl : Goes tc s s [] := ⟨Step.refl.or0, fun j _ => ⟨rfl, rfl, fun _ _ => rfl⟩, fun _ _ => rfl⟩
theorem Goes.trans (a : Goes tc1 s s1 g1) (b : Goes tc2 s1 s2 g2) : Goes (tc1 ++ tc2) s s2 (g2 ++ g1) :=
  ⟨a.step.two b.step, fun j h => by
    have h1 : j ∉ tc1 := fun z => h (List.mem_append.mpr (.inl z))
    have h2 : j ∉ tc2 := fun z => h (List.mem_append.mpr (.inr z))
    obtain ⟨x1, x2, x4⟩ := a.fix j h1
    obtain ⟨y1, y2, y4⟩ := b.fix j h2
    exact ⟨y1.trans x1, y2.trans x2, fun c hc => (y4 c (by rw [x2]; exact hc)).trans (x4 c hc)⟩, fun j h =>
    (b.sg j fun z => h (List.mem_append.mpr (.inr z))).trans (a.sg j fun z => h (List.mem_append.mpr (.inl z)))⟩
theorem Goes.wk (a : Goes tc1 s s1 g1) (h : ∀ j ∈ tc1, j ∈ tc) : Goes tc s s1 g1 := ⟨a.step, fun j q => a.fix j fun z => q (h j z), fun j q => a.sg j fun z => q (h _ z)⟩
theorem Goes.less (a : Goes tc s s1 g1) (h : ∀ c ∈ g, c ∈ g1) : Goes tc s s1 g := ⟨a.step.drop fun c q => q.imp id (h c), a.fix, a.sg⟩
theorem Goes.drop0 (a : Goes tc s s1 g1) : Goes tc s s1 [] := a.less fun _ h => by cases h
theorem Goes.trans0 (a : Goes tc1 s s1 g1) (b : Goes tc2 s1 s2 g2) : Goes (tc1 ++ tc2) s s2 g2 := (a.trans b).less fun _ h => List.mem_append.mpr (.inl h)
end

/-! ## what is wanted behind an outcome -/
def Post {α : Type} (okk : α → En → Prop) (exk : Str → List Str → List D → En → Prop) : Out α → Prop
  | .ok a ρ => okk a ρ
  | .exc c ks xs ρ => exk c ks xs ρ
  | .bad => False
theorem Post.bnd {α β : Type} {okk : β → En → Prop} {exk : Str → List Str → List D → En → Prop} {f : M α} {k : α → M β} {ρ : En} (h : Post okk exk (bnd f k ρ)) :
    Post (fun a ρ1 => f ρ = .ok a ρ1 ∧ Post okk exk (k a ρ1)) exk (f ρ) := by
  unfold Cs.bnd at h
  cases e : f ρ with
  | ok a ρ1 => rw [e] at h; exact ⟨rfl, h⟩
  | exc c ks xs ρ1 => rw [e] at h; exact h
  | bad => rw [e] at h; exact h
theorem Post.imp {α : Type} {okk okk' : α → En → Prop} {exk exk' : Str → List Str → List D → En → Prop} {o : Out α} (h : Post okk exk o) (h1 : ∀ a ρ, okk a ρ → okk' a ρ) (h2 : ∀ c ks xs ρ, exk c ks xs ρ → exk' c ks xs ρ) : Post okk' exk' o := by
  cases o with
  | ok a ρ => exact h1 _ _ h
  | exc c ks xs ρ => exact h2 _ _ _ _ h
  | bad => exact h
structure Gx where
  C : Str → Option Addr
  P : Hp
  X : Option Addr
  tb : List (Addr × Str) := []
abbrev tx (X : Cx) (G : Gx) : Tx := ⟨X.K, G.C, G.P, G.X, G.tb⟩
def okE (T : Tx) (B : Hp) (tc : List Nat) (s : S5) (Q : VK) : D → En → Prop := fun d ρ => ∀ v s' g, s'.ρ = ρ → s'.σ = s.σ → Okk T B s' → Tmp T B s'.H s'.F s'.φ d v g → Goes tc s s' g → Q v s'.H
def okA (T : Tx) (B : Hp) (tc : List Nat) (s : S5) (Q : List V → Hp → Prop) : List D → En → Prop := fun ds ρ => ∀ vs s' g, s'.ρ = ρ → s'.σ = s.σ → Okk T B s' → Tmps T B s'.H s'.F s'.φ ds vs g → Goes tc s s' g → Q vs s'.H
def okT (T : Tx) (B : Hp) (tc : List Nat) (s : S5) (Q : Bool → Hp → Prop) : Bool → En → Prop := fun c ρ => ∀ s', s'.ρ = ρ → s'.σ = s.σ → Okk T B s' → Goes tc s s' [] → Q c s'.H
def exE (T : Tx) (W : WX) (B : Hp) (tc : List Nat) (s : S5) : Str → List Str → List D → En → Prop := fun c ks xs ρ => ∀ cls dd s', s'.ρ = ρ → s'.σ = s.σ → Okk T B s' → XRep T s'.F c ks xs cls dd → Goes tc s s' [] → W cls dd s'.σ s'.H
def okS (T : Tx) (B : Hp) (tc : List Nat) (s : S5) (E : Ends) : Flw → En → Prop := fun fl ρ => match fl with
  | .nx => ∀ s', s'.ρ = ρ → Okk T B s' → Goes tc s s' [] → E.nx s'.σ s'.H
  | .bk => ∀ s', s'.ρ = ρ → Okk T B s' → Goes tc s s' [] → E.bk s'.σ s'.H
  | .ct => ∀ s', s'.ρ = ρ → Okk T B s' → Goes tc s s' [] → E.ct s'.σ s'.H
  | .rt d => ∀ v s' g, s'.ρ = ρ → Okk T B s' → Tmp T B s'.H s'.F s'.φ d v g → Goes tc s s' g → E.rt v s'.H
def exS (T : Tx) (W : WX) (B : Hp) (tc : List Nat) (s : S5) : Str → List Str → List D → En → Prop := fun c ks xs ρ => ∀ cls dd s', s'.ρ = ρ → Okk T B s' → XRep T s'.F c ks xs cls dd → Goes tc s s' [] → W cls dd s'.σ s'.H

def tD (T : Tx) (W : WX) (tc : List Nat) (f : M D) : TE := fun σ H Q => ∃ B s, s.σ = σ ∧ s.H = H ∧ Okk T B s ∧ Post (okE T B tc s Q) (exE T W B tc s) (f s.ρ)
def tDs (T : Tx) (W : WX) (tc : List Nat) (f : M (List D)) : TA := fun σ H Q => ∃ B s, s.σ = σ ∧ s.H = H ∧ Okk T B s ∧ Post (okA T B tc s Q) (exE T W B tc s) (f s.ρ)
def tDT (T : Tx) (W : WX) (tc : List Nat) (f : M Bool) : TT := fun σ H Q => ∃ B s, s.σ = σ ∧ s.H = H ∧ Okk T B s ∧ Post (okT T B tc s Q) (exE T W B tc s) (f s.ρ)
def tDS (T : Tx) (W : WX) (tc : List Nat) (f : M Flw) : TS := fun E σ H => ∃ B s, s.σ = σ ∧ s.H = H ∧ Okk T B s ∧ Post (okS T B tc s E) (exS T W B tc s) (f s.ρ)

section
variable {X : Cx}
theorem pe_mono {e : Expr} {t t' : TE} (h : PE X e t) (i : ∀ σ H Q, t' σ H Q → t σ H Q) : PE X e t' := ⟨fun pins s σ H Q I q => h.run pins s σ H Q I (i σ H Q q)⟩
theorem pt_mono {e : Expr} {t t' : TT} (h : PT X e t) (i : ∀ σ H Q, t' σ H Q → t σ H Q) : PT X e t' := ⟨fun pins s σ H Q I q => h.run pins s σ H Q I (i σ H Q q)⟩
theorem pw_mono {e : Expr} {t t' : TT} (h : PW X e t) (i : ∀ σ H Q, t' σ H Q → t σ H Q) : PW X e t' := ⟨fun wh pins s σ H Q I q => h.run wh pins s σ H Q I (i σ H Q q)⟩
theorem pa_mono {es : List Expr} {t t' : TA} (h : PA X es t) (i : ∀ σ H Q, t' σ H Q → t σ H Q) : PA X es t' := ⟨fun pos pins s σ H Q I q => h.run pos pins s σ H Q I (i σ H Q q)⟩
theorem ps_mono {st : Stmt} {t t' : TS} (h : PS X st t) (i : ∀ D σ H, t' D σ H → t D σ H) : PS X st t' := ⟨fun pins s σ H D I q => h.run pins s σ H D I (i D σ H q)⟩
theorem pss_mono {st : List Stmt} {t t' : TS} (h : PSs X st t) (i : ∀ D σ H, t' D σ H → t D σ H) : PSs X st t' := ⟨fun pins s σ H D I q => h.run pins s σ H D I (i D σ H q)⟩
end

abbrev GE (X : Cx) (G : Gx) (W : WX) (tc : List Nat) (e : Expr) (f : M D) : Prop := PE X e (tD (tx X G) W tc f)
abbrev GA (X : Cx) (G : Gx) (W : WX) (tc : List Nat) (es : List Expr) (f : M (List D)) : Prop := PA X es (tDs (tx X G) W tc f)
abbrev GT (X : Cx) (G : Gx) (W : WX) (tc : List Nat) (e : Expr) (f : M Bool) : Prop := PT X e (tDT (tx X G) W tc f)
abbrev GW (X : Cx) (G : Gx) (W : WX) (tc : List Nat) (e : Expr) (f : M Bool) : Prop := PW X e (tDT (tx X G) W tc f)
abbrev GS (X : Cx) (G : Gx) (W : WX) (tc : List Nat) (st : Stmt) (f : M Flw) : Prop := PS X st (tDS (tx X G) W tc f)
abbrev GSs (X : Cx) (G : Gx) (W : WX) (tc : List Nat) (st : List Stmt) (f : M Flw) : Prop := PSs X st (tDS (tx X G) W tc f)

section
variable {T : Tx} {B : Hp} {s s1 s2 s' : S5} {W : WX} {tc tc1 tc2 : List Nat} {ρ : En} {g0 : List Addr}
/-- the rest of an evaluation: from s1 on, s the base, a value held at g0 -/
theorem exE.re {c : Str} {ks : List Str} {xs : List D} (a : Goes tc1 s s1 g0) (hσ : s1.σ = s.σ) (h : exE T W B (tc1 ++ tc2) s c ks xs ρ) : exE T W B tc2 s1 c ks xs ρ := fun cls dd s' e1 e2 r x t =>
  h cls dd s' e1 (e2.trans hσ) r x (a.trans0 t)
theorem seqE {β : Type} {f : M D} {k : D → M β} {Q1 : VK} {okk : β → En → Prop} (r : Okk T B s) (hp : Post okk (exE T W B (tc1 ++ tc2) s) (bnd f k s.ρ))
    (hk : ∀ d v s1 g, f s.ρ = .ok d s1.ρ → s1.σ = s.σ → Okk T B s1 → Tmp T B s1.H s1.F s1.φ d v g → Goes tc1 s s1 g → Post okk (exE T W B (tc1 ++ tc2) s) (k d s1.ρ) → Q1 v s1.H) : tD T W tc1 f s.σ s.H Q1 :=
  ⟨B, s, rfl, rfl, r, hp.bnd.imp (fun d ρ1 ⟨e, h⟩ v s1 g e1 e2 r1 t a => by
    subst e1
    exact hk d v s1 g e e2 r1 t a h) fun _ _ _ _ h cls dd s' e1 e2 r' x t => h cls dd s' e1 e2 r' x (t.wk fun j q => List.mem_append.mpr (.inl q))⟩
theorem seqE1 {β : Type} {f : M D} {k : D → M β} {Q1 : VK} {okk : β → En → Prop} (r : Okk T B s) (hp : Post okk (exE T W B tc1 s) (bnd f k s.ρ))
    (hk : ∀ d v s1 g, f s.ρ = .ok d s1.ρ → s1.σ = s.σ → Okk T B s1 → Tmp T B s1.H s1.F s1.φ d v g → Goes tc1 s s1 g → Post okk (exE T W B tc1 s) (k d s1.ρ) → Q1 v s1.H) : tD T W tc1 f s.σ s.H Q1 :=
  ⟨B, s, rfl, rfl, r, hp.bnd.imp (fun d ρ1 ⟨e, h⟩ v s1 g e1 e2 r1 t a => by
    subst e1
    exact hk d v s1 g e e2 r1 t a h) fun _ _ _ _ h => h⟩
/-- the second one: s0 the base, a value held -/
theorem seqE2 {β : Type} {f : M D} {k : D → M β} {Q1 : VK} {okk : β → En → Prop} {s0 : S5} (a0 : Goes tc1 s0 s g0) (hσ : s.σ = s0.σ) (r : Okk T B s) (hp : Post okk (exE T W B (tc1 ++ tc2) s0) (bnd f k s.ρ))
    (hk : ∀ d v s1 g, f s.ρ = .ok d s1.ρ → s1.σ = s.σ → Okk T B s1 → Tmp T B s1.H s1.F s1.φ d v g → Goes tc2 s s1 g → Post okk (exE T W B (tc1 ++ tc2) s0) (k d s1.ρ) → Q1 v s1.H) : tD T W tc2 f s.σ s.H Q1 :=
  ⟨B, s, rfl, rfl, r, hp.bnd.imp (fun d ρ1 ⟨e, h⟩ v s1 g e1 e2 r1 t a => by
    subst e1
    exact hk d v s1 g e e2 r1 t a h) fun _ _ _ _ h => exE.re a0 hσ h⟩
theorem seqA1 {β : Type} {f : M (List D)} {k : List D → M β} {Q1 : List V → Hp → Prop} {okk : β → En → Prop} (r : Okk T B s) (hp : Post okk (exE T W B tc1 s) (bnd f k s.ρ))
    (hk : ∀ d v s1 g, f s.ρ = .ok d s1.ρ → s1.σ = s.σ → Okk T B s1 → Tmps T B s1.H s1.F s1.φ d v g → Goes tc1 s s1 g → Post okk (exE T W B tc1 s) (k d s1.ρ) → Q1 v s1.H) : tDs T W tc1 f s.σ s.H Q1 :=
  ⟨B, s, rfl, rfl, r, hp.bnd.imp (fun d ρ1 ⟨e, h⟩ v s1 g e1 e2 r1 t a => by
    subst e1
    exact hk d v s1 g e e2 r1 t a h) fun _ _ _ _ h => h⟩
theorem seqA2 {β : Type} {f : M (List D)} {k : List D → M β} {Q1 : List V → Hp → Prop} {okk : β → En → Prop} {s0 : S5} (a0 : Goes tc1 s0 s g0) (hσ : s.σ = s0.σ) (r : Okk T B s) (hp : Post okk (exE T W B (tc1 ++ tc2) s0) (bnd f k s.ρ))
    (hk : ∀ d v s1 g, f s.ρ = .ok d s1.ρ → s1.σ = s.σ → Okk T B s1 → Tmps T B s1.H s1.F s1.φ d v g → Goes tc2 s s1 g → Post okk (exE T W B (tc1 ++ tc2) s0) (k d s1.ρ) → Q1 v s1.H) : tDs T W tc2 f s.σ s.H Q1 :=
  ⟨B, s, rfl, rfl, r, hp.bnd.imp (fun d ρ1 ⟨e, h⟩ v s1 g e1 e2 r1 t a => by
    subst e1
    exact hk d v s1 g e e2 r1 t a h) fun _ _ _ _ h => exE.re a0 hσ h⟩
theorem seqT {β : Type} {f : M Bool} {k : Bool → M β} {Q1 : Bool → Hp → Prop} {okk : β → En → Prop} (r : Okk T B s) (hp : Post okk (exE T W B (tc1 ++ tc2) s) (bnd f k s.ρ))
    (hk : ∀ d s1, f s.ρ = .ok d s1.ρ → s1.σ = s.σ → Okk T B s1 → Goes tc1 s s1 [] → Post okk (exE T W B (tc1 ++ tc2) s) (k d s1.ρ) → Q1 d s1.H) : tDT T W tc1 f s.σ s.H Q1 :=
  ⟨B, s, rfl, rfl, r, hp.bnd.imp (fun d ρ1 ⟨e, h⟩ s1 e1 e2 r1 a => by
    subst e1
    exact hk d s1 e e2 r1 a h) fun _ _ _ _ h cls dd s' e1 e2 r' x t => h cls dd s' e1 e2 r' x (t.wk fun j q => List.mem_append.mpr (.inl q))⟩
/-- values in the air, over a move -/
theorem Tmp.go {d : D} {v : V} {g g1 : List Addr} (t : Tmp T B s.H s.F s.φ d v g) (a : Goes tc s s1 g1) : Tmp T B s1.H s1.F s1.φ d v g := t.step a.step.no
theorem Tmps.go {d : List D} {v : List V} {g g1 : List Addr} (t : Tmps T B s.H s.F s.φ d v g) (a : Goes tc s s1 g1) : Tmps T B s1.H s1.F s1.φ d v g := t.step a.step.no
end

/-! ## names, constants -/
def slot (i : Nat) (ρ : En) : Option D := match ρ[i]? with
  | some (.dt d) => some d
  | _ => none
theorem slot_some {i : Nat} {ρ : En} {d : D} (h : slot i ρ = some d) : ρ[i]? = some (.dt d) := by
  unfold slot at h
  split at h
  · rename_i e; cases h; exact e
  · cases h
def dCp (i : Nat) : M D := fun ρ => match slot i ρ with
  | some d => if allF noOw d = true then .ok d ρ else .bad
  | none => .bad
def dMv (i : Nat) : M D := fun ρ => match slot i ρ with
  | some d => .ok d (ρ.set i .un)
  | none => .bad
def dFz (f : M D) : M D := bnd f fun d => ret (mapF flFrz d)

section
variable {X : Cx} {G : Gx} {W : WX} {i : Nat} {x : Str} {pos : Pos}
theorem g_int {n : Int} {j : Nat} : GE X G W [] (.Constant (.int n) j pos) (ret (.int n)) :=
  pe_mono pe_int fun σ H Q ⟨B, s, e1, e2, r, h⟩ => by
    subst e1 e2
    exact h _ s [] rfl rfl r (Tmp.flat (.int n)) Goes.refl
theorem g_bl {n : Bool} {j : Nat} : GE X G W [] (.Constant (.bool n) j pos) (ret (.bl n)) :=
  pe_mono pe_bl fun σ H Q ⟨B, s, e1, e2, r, h⟩ => by
    subst e1 e2
    exact h _ s [] rfl rfl r (Tmp.flat (.bl n)) Goes.refl
theorem g_str {n : Str} {j : Nat} (hs : PyData.strOk n = true := by decide +kernel) : GE X G W [] (.Constant (.str n) j pos) (ret (.str n)) :=
  pe_mono pe_str fun σ H Q ⟨B, s, e1, e2, r, h⟩ => by
    subst e1 e2
    exact h _ s [] rfl rfl r (Tmp.flat (.str n hs)) Goes.refl
theorem g_cp (hv : PE X (.Name x pos) (tVar i)) : GE X G W [] (.Name x pos) (dCp i) :=
  pe_mono hv fun σ H Q ⟨B, s, e1, e2, r, h⟩ => by
    subst e1 e2
    unfold dCp at h
    cases e : slot i s.ρ with
    | none => rw [e] at h; exact h.elim
    | some d =>
      rw [e] at h
      dsimp only at h
      split at h
      · rename_i hn
        obtain ⟨v, e2, rp⟩ := r.sl i d (slot_some e)
        have z := rp.noO hn
        rw [z] at rp
        exact ⟨v, e2, h v s [] rfl rfl r (Tmp.flat rp) Goes.refl⟩
      · exact h.elim
/-- slot i emptied: its cells are in the air -/
abbrev S5.take (s : S5) (i : Nat) : S5 := { s with ρ := s.ρ.set i .un, φ := fun j => if j = i then [] else s.φ j }
theorem Rel.take {T : Tx} {σ : L2.St} {B H F : Hp} {ρ : En} {φ : Nat → List Addr} {i : Nat} (r : Rel T σ B H F ρ φ) : Rel T σ B H F (ρ.set i .un) (fun j => if j = i then [] else φ j) := by
  refine ⟨by rw [List.length_set]; exact r.len, r.exB, r.exF, r.exP, fun j d q => ?_, fun j q => ?_, fun j q => ?_, fun j => ?_, fun j k a hn h1 h2 => ?_, fun j a h => ?_, r.xt⟩
  · by_cases z : j = i
    · subst z
      by_cases hl : j < ρ.length
      · rw [List.getElem?_set_self hl] at q; cases q
      · rw [List.getElem?_eq_none (by rw [List.length_set]; omega)] at q; cases q
    · rw [List.getElem?_set_ne (fun e => z e.symm)] at q
      rw [if_neg z]
      exact r.sl j d q
  · by_cases z : j = i
    · subst z
      by_cases hl : j < ρ.length
      · rw [List.getElem?_set_self hl] at q; cases q
      · rw [List.getElem?_eq_none (by rw [List.length_set]; omega)] at q; cases q
    · rw [List.getElem?_set_ne (fun e => z e.symm)] at q
      exact r.xn j q
  · split
    · rfl
    · rename_i z
      rw [List.getElem?_set_ne (fun e => z e.symm)] at q
      exact r.em j q
  · split
    · exact .nil
    · exact r.nd j
  · split at h1
    · cases h1
    · split at h2
      · cases h2
      · exact r.dj j k a hn h1 h2
  · split at h
    · cases h
    · exact r.ap j a h
theorem take_tmp {T : Tx} {B : Hp} {s : S5} {i : Nat} {d : D} {v : V} (r : Okk T B s) (rp : Rep T B s.H s.F d v (s.φ i)) : Tmp T B s.H s.F (s.take i).φ d v (s.φ i) :=
  ⟨rp, r.nd i, r.ap i, fun a ha q => by
    obtain ⟨j, q⟩ := q
    dsimp only at q
    split at q
    · cases q
    · rename_i z
      exact r.dj j i a z q ha⟩
theorem take_goes {s : S5} {i : Nat} : Goes [i] s (s.take i) (s.φ i) :=
  ⟨Step.refl.drop fun a q => by
    rcases q with ⟨j, q⟩ | q
    · dsimp only at q
      split at q
      · cases q
      · exact ⟨j, q⟩
    · exact ⟨i, q⟩, fun j h => by
    have z : j ≠ i := fun e => h (by rw [e]; exact List.mem_singleton.mpr rfl)
    exact ⟨List.getElem?_set_ne (fun e => z e.symm), if_neg z, fun _ _ => rfl⟩, fun _ _ => rfl⟩
theorem g_mv (hv : PE X (.Name x pos) (tVar i)) : GE X G W [i] (.Name x pos) (dMv i) :=
  pe_mono hv fun σ H Q ⟨B, s, e1, e2, r, h⟩ => by
    subst e1 e2
    unfold dMv at h
    cases e : slot i s.ρ with
    | none => rw [e] at h; exact h.elim
    | some d =>
      rw [e] at h
      obtain ⟨v, e2, rp⟩ := r.sl i d (slot_some e)
      exact ⟨v, e2, h v (s.take i) (s.φ i) rfl rfl r.take (take_tmp r rp) take_goes⟩
/-- cells of the air become frozen -/
abbrev S5.ovl (s : S5) (g : List Addr) : S5 := { s with F := Cs.ovl s.H s.F g }
theorem Goes.ovl {tc : List Nat} {s s1 : S5} {g : List Addr} (a : Goes tc s s1 g) (h : ∀ a ∈ g, s1.F a = none) : Goes tc s (s1.ovl g) [] := ⟨(a.step.ovl h).or0, a.fix, a.sg⟩
/-- the value frozen -/
theorem g_fz {tc : List Nat} {e : Expr} {f : M D} (h : GE X G W tc e f) : GE X G W tc e (dFz f) :=
  pe_mono h fun σ H Q ⟨B, s, e1, e2, r, hp⟩ => by
    subst e1 e2
    refine seqE1 r hp fun d v s1 g _ hs r1 t a h => ?_
    have z : okE (tx X G) B tc s Q (mapF flFrz d) s1.ρ := h
    exact z v (s1.ovl g) [] rfl hs (r1.ovl (fun a q => (t.ap a q).1) t.dj t.rep.nt) (Tmp.flat t.frz) (a.ovl fun a q => (t.ap a q).1)
end
end Cs
namespace Cs
open PySem L2 Evl

/-! ## primitive results -/
inductive PR where
  | sc (d : D)
  | nl (ds : List D)
  | nt (ds : List D)
  | bad
def pr : PR → M D
  | .sc d => ret d
  | .nl ds => ret (.lst .ow ds)
  | .nt ds => ret (.tup ds)
  | .bad => bad
def PrOk (T : Tx) (B H F : Hp) (rd : Hp → VK → Prop) : PR → Prop
  | .sc d => ∃ v, Rep T B H F d v [] ∧ ∀ Q : VK, Q v H → rd H Q
  | .nl ds => ∃ vs, Reps T B H F ds vs [] ∧ ∀ Q : VK, (∀ p, H p = none → Q (.ref p) (upd H p (.lst vs))) → rd H Q
  | .nt ds => ∃ vs, Reps T B H F ds vs [] ∧ ∀ Q : VK, (∀ p (o : Obj), o.dict = none → H p = none → Q (.ref p) (upd H p (.frz o (.tup vs)))) → rd H Q
  | .bad => True
section
variable {T : Tx} {B : Hp} {s s1 s2 s' : S5} {W : WX} {tc tc1 tc2 : List Nat} {g : List Addr} {Q : VK}
abbrev S5.new (s : S5) (p : Addr) (o : HO) : S5 := { s with H := upd s.H p o }
abbrev S5.newF (s : S5) (p : Addr) (o : HO) : S5 := { s with H := upd s.H p o, F := upd s.F p o }
theorem goes_new {p : Addr} {o : HO} (r : Okk T B s) (h : s.H p = none) : Goes [] s (s.new p o) [p] :=
  ⟨⟨fun a u e _ => .of (show upd s.H p o a = some u by rw [upd_ne (ne_of_none e h)]; exact e), Ex.refl _, fun a u e n => (by rw [e] at n; cases n), fun a q => by
    rcases q with q | q
    · exact .inl q
    · rw [List.mem_singleton.mp q]; exact .inr h⟩, fun j _ => ⟨rfl, rfl, fun a ha => by
    obtain ⟨o', e⟩ := r.dom ⟨j, ha⟩
    exact upd_ne (ne_of_none e h)⟩, fun _ _ => rfl⟩
theorem goes_newF {p : Addr} {o : HO} (r : Okk T B s) (h : s.H p = none) : Goes [] s (s.newF p o) [] :=
  ⟨(Step.newF h r.exF).or0, fun j _ => ⟨rfl, rfl, fun a ha => by
    obtain ⟨o', e⟩ := r.dom ⟨j, ha⟩
    exact upd_ne (ne_of_none e h)⟩, fun _ _ => rfl⟩
theorem tmp_newL {p : Addr} {ds : List D} {vs : List V} (r : Okk T B s) (h : s.H p = none) (rp : Reps T B s.H s.F ds vs []) : Tmp T B (s.new p (.lst vs)).H s.F s.φ (.lst .ow ds) (.ref p) [p] :=
  ⟨.lstO upd_same (rp.mono (Ex.refl B) (Ex.refl _) fun a q => by cases q) rfl, List.nodup_cons.mpr ⟨fun q => (by cases q), List.Pairwise.nil⟩, fun a q => by
    rw [List.mem_singleton.mp q]
    exact ⟨r.freeF h, r.freeB h⟩, fun a q => by
    rw [List.mem_singleton.mp q]
    exact r.freeO h⟩
theorem tmp_newT {p : Addr} {ds : List D} {vs : List V} {o : Obj} (ho : o.dict = none) (r : Okk T B s) (h : s.H p = none) (rp : Reps T B s.H s.F ds vs []) : Tmp T B (s.newF p (.frz o (.tup vs))).H (s.newF p (.frz o (.tup vs))).F s.φ (.tup ds) (.ref p) [] :=
  Tmp.flat (.tup (.inl ⟨o, upd_same, ho⟩) (rp.mono (Ex.refl B) (Ex.new (r.freeF h)) fun a q => by cases q))
/-- the last step of an operation -/
theorem pr_fin {rd : Hp → VK → Prop} {p : PR} (hσ : s1.σ = s.σ) (r1 : Okk T B s1) (a : Goes tc s s1 g) (h : PrOk T B s1.H s1.F rd p) (hp : Post (okE T B tc s Q) (exE T W B tc s) (pr p s1.ρ)) : rd s1.H Q := by
  cases p with
  | sc d =>
    obtain ⟨v, rp, k⟩ := h
    exact k Q (hp v s1 [] rfl hσ r1 (Tmp.flat rp) a.drop0)
  | nl ds =>
    obtain ⟨vs, rp, k⟩ := h
    refine k Q fun p hp' => hp (.ref p) (s1.new p (.lst vs)) [p] rfl hσ (r1.new hp') (tmp_newL r1 hp' rp) ?_
    have z := a.trans0 (goes_new (o := .lst vs) r1 hp')
    rw [List.append_nil] at z
    exact z
  | nt ds =>
    obtain ⟨vs, rp, k⟩ := h
    refine k Q fun p o ho hp' => hp (.ref p) (s1.newF p (.frz o (.tup vs))) [] rfl hσ (r1.newF hp') (tmp_newT ho r1 hp' rp) ?_
    have z := a.trans0 (goes_newF (o := .frz o (.tup vs)) r1 hp')
    rw [List.append_nil] at z
    exact z
  | bad => exact hp.elim
end

/-! ## operands: a value, or a name that is looked at when the operation is done -/
inductive Opd where
  | v (f : M D)
  | p (i : Nat)
def dPk (i : Nat) : M D := fun ρ => match slot i ρ with
  | some d => .ok d ρ
  | none => .bad
def rdO (T : Tx) (W : WX) (tc : List Nat) : Opd → TE
  | .v f => tD T W tc f
  | .p i => tVar i
def Opd.fits : Opd → List Nat → Prop
  | .v _, _ => True
  | .p _, tc => tc = []
structure GO (X : Cx) (G : Gx) (W : WX) (tc : List Nat) (e : Expr) (o : Opd) : Prop where
  pe : PE X e (rdO (tx X G) W tc o)
  fits : o.fits tc
theorem go_v {X : Cx} {G : Gx} {W : WX} {tc : List Nat} {e : Expr} {f : M D} (h : GE X G W tc e f) : GO X G W tc e (.v f) := ⟨h, trivial⟩
theorem go_p {X : Cx} {G : Gx} {W : WX} {e : Expr} {i : Nat} (h : PE X e (tVar i)) : GO X G W [] e (.p i) := ⟨h, rfl⟩
def dB (f : M D) : M Bool := bnd f fun d => match d with
  | .bl b => ret b
  | _ => bad
def dOp1 (p : D → PR) : Opd → M D
  | .v f => bnd f fun x => pr (p x)
  | .p i => bnd (dPk i) fun x => pr (p x)
def dOp2 (p : D → D → PR) : Opd → Opd → M D
  | .v f, .v g => bnd f fun x => bnd g fun y => pr (p x y)
  | .p i, .v g => bnd (dPk i) fun _ => bnd g fun y => bnd (dPk i) fun x => pr (p x y)
  | .v f, .p j => bnd f fun x => bnd (dPk j) fun y => pr (p x y)
  | .p i, .p j => bnd (dPk i) fun x => bnd (dPk j) fun y => pr (p x y)
def P1 (T : Tx) (r : V → Hp → VK → Prop) (p : D → PR) : Prop := ∀ B H F d v g, Ex F H → Ex B H → Rep T B H F d v g → PrOk T B H F (r v) (p d)
def P2 (T : Tx) (r : R2) (p : D → D → PR) : Prop := ∀ B H F d v g e u k, Ex F H → Ex B H → Rep T B H F d v g → Rep T B H F e u k → PrOk T B H F (r v u) (p d e)
theorem pk_bnd {β : Type} {i : Nat} {k : D → M β} {okk : β → En → Prop} {exk : Str → List Str → List D → En → Prop} {ρ : En} (h : Post okk exk (bnd (dPk i) k ρ)) : ∃ d, slot i ρ = some d ∧ Post okk exk (k d ρ) := by
  cases e : slot i ρ with
  | none =>
    have z : dPk i ρ = .bad := by unfold dPk; rw [e]
    rw [bnd_bad z] at h
    exact h.elim
  | some d =>
    have z : dPk i ρ = .ok d ρ := by unfold dPk; rw [e]
    rw [bnd_ok z] at h
    exact ⟨d, rfl, h⟩
section
variable {T : Tx} {W : WX} {tc t1 t2 : List Nat}
theorem tun_core {r : V → Hp → VK → Prop} {p : D → PR} {o : Opd} (hr : P1 T r p) (hf : o.fits tc) {σ : L2.St} {H : Hp} {Q : VK} (h : tD T W tc (dOp1 p o) σ H Q) : tUn r (rdO T W tc o) σ H Q := by
  obtain ⟨B, s, e1, e2, rl, h⟩ := h
  subst e1 e2
  cases o with
  | v f => exact seqE1 rl h fun d v s1 g _ hs r1 t a h => pr_fin hs r1 a (hr B s1.H s1.F d v g r1.exF r1.exB t.rep) h
  | p i =>
    obtain ⟨d, e, h⟩ := pk_bnd h
    obtain ⟨v, e2, rp⟩ := rl.sl i d (slot_some e)
    exact ⟨v, e2, pr_fin rfl rl Goes.refl (hr B s.H s.F d v _ rl.exF rl.exB rp) h⟩
theorem top_core {r : R2} {p : D → D → PR} {o1 o2 : Opd} (hr : P2 T r p) (hf1 : o1.fits t1) (hf2 : o2.fits t2) {σ : L2.St} {H : Hp} {Q : VK} (h : tD T W (t1 ++ t2) (dOp2 p o1 o2) σ H Q) : tOp r (rdO T W t1 o1) (rdO T W t2 o2) σ H Q := by
  obtain ⟨B, s, e1, e2, rl, h⟩ := h
  subst e1 e2
  cases o1 with
  | v f =>
    cases o2 with
    | v f2 =>
      refine seqE rl h fun d v s1 g _ hs r1 t a h => ?_
      show tD T W t2 f2 s.σ s1.H _
      rw [← hs]
      refine seqE2 a hs r1 h fun d2 v2 s2 g2 _ hs2 r2 t2 a2 h => ?_
      exact pr_fin (hs2.trans hs) r2 (a.trans a2) (hr B s2.H s2.F d v g d2 v2 g2 r2.exF r2.exB (t.go a2).rep t2.rep) h
    | p j =>
      have z : t2 = [] := hf2
      subst z
      rw [List.append_nil] at h
      refine seqE1 rl h fun d v s1 g _ hs r1 t a h => ?_
      obtain ⟨d2, e, h⟩ := pk_bnd h
      obtain ⟨v2, e2, rp⟩ := r1.sl j d2 (slot_some e)
      rw [hs] at e2
      exact ⟨v2, e2, pr_fin hs r1 a (hr B s1.H s1.F d v g d2 v2 _ r1.exF r1.exB t.rep rp) h⟩
  | p i =>
    have z : t1 = [] := hf1
    subst z
    rw [List.nil_append] at h
    cases o2 with
    | v f2 =>
      obtain ⟨d0, e0, h⟩ := pk_bnd h
      obtain ⟨v0, e00, _⟩ := rl.sl i d0 (slot_some e0)
      refine ⟨v0, e00, seqE1 rl h fun d2 v2 s1 g _ hs r1 t a h => ?_⟩
      obtain ⟨d, e, h⟩ := pk_bnd h
      obtain ⟨v, e2, rp⟩ := r1.sl i d (slot_some e)
      have ev : v = v0 := by
        rw [hs, e00] at e2
        cases e2
        rfl
      subst ev
      exact pr_fin hs r1 a (hr B s1.H s1.F d v _ d2 v2 g r1.exF r1.exB rp t.rep) h
    | p j =>
      have z : t2 = [] := hf2
      subst z
      obtain ⟨d, e, h⟩ := pk_bnd h
      obtain ⟨d2, e', h⟩ := pk_bnd h
      obtain ⟨v, e2, rp⟩ := rl.sl i d (slot_some e)
      obtain ⟨v2, e2', rp2⟩ := rl.sl j d2 (slot_some e')
      exact ⟨v, e2, v2, e2', pr_fin rfl rl Goes.refl (hr B s.H s.F d v _ d2 v2 _ rl.exF rl.exB rp rp2) h⟩
/-- a value's truth, where it is a bool -/
theorem tB_core {f : M D} {σ : L2.St} {H : Hp} {Q : Bool → Hp → Prop} (h : tDT T W tc (dB f) σ H Q) : tD T W tc f σ H (fun x H1 => ∃ c, x = .bl c ∧ Q c H1) := by
  obtain ⟨B, s, e1, e2, rl, h⟩ := h
  subst e1 e2
  refine seqE1 rl h fun d v s1 g _ hs r1 t a h => ?_
  cases d with
  | bl b =>
    obtain ⟨rp, _, _, _⟩ := t
    cases rp
    exact ⟨b, rfl, h s1 rfl hs r1 a.drop0⟩
  | _ => exact h.elim
end
section
variable {X : Cx} {G : Gx} {W : WX} {tc t1 t2 : List Nat} {e a b : Expr} {pos : Pos}
theorem tun_of {r : V → Hp → VK → Prop} {p : D → PR} {o : Opd} (hr : P1 (tx X G) r p) (ho : GO X G W tc e o) {t : Expr} (hpe : ∀ ta, PE X e ta → PE X t (tUn r ta)) : GE X G W tc t (dOp1 p o) :=
  pe_mono (hpe _ ho.pe) fun _ _ _ h => tun_core hr ho.fits h
theorem top_of {r : R2} {p : D → D → PR} {o1 o2 : Opd} (hr : P2 (tx X G) r p) (h1 : GO X G W t1 a o1) (h2 : GO X G W t2 b o2) {t : Expr} (hpe : ∀ ta tb, PE X a ta → PE X b tb → PE X t (tOp r ta tb)) : GE X G W (t1 ++ t2) t (dOp2 p o1 o2) :=
  pe_mono (hpe _ _ h1.pe h2.pe) fun _ _ _ h => top_core hr h1.fits h2.fits h
theorem topT_of {r : R2} {p : D → D → PR} {o1 o2 : Opd} (hr : P2 (tx X G) r p) (h1 : GO X G W t1 a o1) (h2 : GO X G W t2 b o2) {t : Expr} (hpe : ∀ ta tb, PE X a ta → PE X b tb → PT X t (tTest (tOp r ta tb))) : GT X G W (t1 ++ t2) t (dB (dOp2 p o1 o2)) :=
  pt_mono (hpe _ _ h1.pe h2.pe) fun _ _ _ h => top_core hr h1.fits h2.fits (tB_core h)
end
end Cs
namespace Cs
open PySem L2 Evl

theorem op_alt {X : Cx} {f : Value → Value → Sem Value} {r1 r2 : R2} (h1 : OpR X f r1) (h2 : OpR X f r2) : OpR X f (fun x y H Q => r1 x y H Q ∨ r2 x y H Q) :=
  fun pins s σ H x y v u Q I rx ry h => h.elim (h1 pins s σ H x y v u Q I rx ry) (h2 pins s σ H x y v u Q I rx ry)

/-! ## data as the library's data -/
mutual
def toPy : D → PyData
  | .non => .none
  | .bl b => .bool b
  | .int i => .int i
  | .str s => .str s
  | .tup xs => .tuple (toPys xs)
  | .lst _ xs => .list (toPys xs)
  | .cls _ => .none
  | .dct _ _ _ => .none
  | .obj _ _ _ _ => .none
def toPys : List D → List PyData
  | [] => []
  | d :: ds => toPy d :: toPys ds
end
mutual
def dep : D → Nat
  | .non => 0
  | .bl _ => 0
  | .int _ => 0
  | .str _ => 0
  | .tup xs => deps xs + 1
  | .lst _ xs => deps xs + 1
  | .cls _ => 1000
  | .dct _ _ _ => 1000
  | .obj _ _ _ _ => 1000
def deps : List D → Nat
  | [] => 0
  | d :: ds => max (dep d) (deps ds)
end
mutual
theorem dep_py : ∀ d : D, dep d < 1000 → (toPy d).depth = dep d
  | .non, _ => by rw [toPy, dep, PyData.depth]
  | .bl _, _ => by rw [toPy, dep, PyData.depth]
  | .int _, _ => by rw [toPy, dep, PyData.depth]
  | .str _, _ => by rw [toPy, dep, PyData.depth]
  | .tup xs, h => by
    rw [dep] at h
    rw [toPy, dep, PyData.depth, deps_py xs (by omega)]
  | .lst _ xs, h => by
    rw [dep] at h
    rw [toPy, dep, PyData.depth, deps_py xs (by omega)]
  | .cls _, h => by rw [dep] at h; omega
  | .dct _ _ _, h => by rw [dep] at h; omega
  | .obj _ _ _ _, h => by rw [dep] at h; omega
theorem deps_py : ∀ xs : List D, deps xs < 1000 → PyData.depthAll (toPys xs) = deps xs
  | [], _ => by rw [toPys, deps, PyData.depthAll]
  | x :: xs, h => by
    rw [deps] at h
    rw [toPys, deps, PyData.depthAll, dep_py x (by omega), deps_py xs (by omega)]
end
section
variable {T : Tx} {B H F : Hp}
mutual
theorem Rep.dp (eF : Ex F H) (eB : Ex B H) : ∀ {d : D} {v : V} {g : List Addr}, Rep T B H F d v g → dep d < 1000 → Dp T.K H v (toPy d) ∧ (toPy d).canLay0 = true
  | _, _, _, .non, _ => by rw [toPy, PyData.canLay0]; exact ⟨.non, rfl⟩
  | _, _, _, .bl b, _ => by rw [toPy, PyData.canLay0]; exact ⟨.bl b, rfl⟩
  | _, _, _, .int i, _ => by rw [toPy, PyData.canLay0]; exact ⟨.int i, rfl⟩
  | _, _, _, .str s hs, _ => by rw [toPy, PyData.canLay0]; exact ⟨.str s, hs⟩
  | _, _, _, .cls _, h => by rw [dep] at h; omega
  | _, _, _, .tup q r, h => by
    rw [dep] at h
    obtain ⟨a, b⟩ := Reps.dp eF eB r (by omega)
    rw [toPy, PyData.canLay0]
    exact ⟨.tup (ex_t eF q.sq) a, b⟩
  | _, _, _, .lstF q r, h => by
    rw [dep] at h
    obtain ⟨a, b⟩ := Reps.dp eF eB r (by omega)
    rw [toPy, PyData.canLay0]
    exact ⟨.lst (sq_of (eF _ _ q)) a, b⟩
  | _, _, _, .lstR q r, h => by
    rw [dep] at h
    obtain ⟨a, b⟩ := Reps.dp eF eB r (by omega)
    rw [toPy, PyData.canLay0]
    exact ⟨.lst (ex_l eF q) a, b⟩
  | _, _, _, .lstB q r, h => by
    rw [dep] at h
    obtain ⟨a, b⟩ := Reps.dp eF eB r (by omega)
    rw [toPy, PyData.canLay0]
    exact ⟨.lst (sq_of (eB _ _ q)) a, b⟩
  | _, _, _, .lstO q r _, h => by
    rw [dep] at h
    obtain ⟨a, b⟩ := Reps.dp eF eB r (by omega)
    rw [toPy, PyData.canLay0]
    exact ⟨.lst (sq_of q) a, b⟩
  | _, _, _, .dctF _ _ _, h => by rw [dep] at h; omega
  | _, _, _, .dctB _ _ _, h => by rw [dep] at h; omega
  | _, _, _, .dctO _ _ _ _, h => by rw [dep] at h; omega
  | _, _, _, .objF _ _ _ _ _, h => by rw [dep] at h; omega
  | _, _, _, .objB _ _ _ _ _, h => by rw [dep] at h; omega
  | _, _, _, .objO _ _ _ _ _ _, h => by rw [dep] at h; omega
theorem Reps.dp (eF : Ex F H) (eB : Ex B H) : ∀ {ds : List D} {vs : List V} {g : List Addr}, Reps T B H F ds vs g → deps ds < 1000 → DpAll T.K H vs (toPys ds) ∧ PyData.canLayAll0 (toPys ds) = true
  | _, _, _, .nil, _ => by rw [toPys, PyData.canLayAll0]; exact ⟨.nil, rfl⟩
  | _, _, _, .cons r rs _, h => by
    rw [deps] at h
    obtain ⟨a, b⟩ := Rep.dp eF eB r (by omega)
    obtain ⟨a2, b2⟩ := Reps.dp eF eB rs (by omega)
    rw [toPys, PyData.canLayAll0]
    exact ⟨.cons a a2, by rw [b, b2]; rfl⟩
end
theorem Rep.shaped (eF : Ex F H) (eB : Ex B H) {d : D} {v : V} {g : List Addr} (r : Rep T B H F d v g) (h : dep d ≤ 60) : Dp T.K H v (toPy d) ∧ SeqAt.shaped (toPy d) = true := by
  obtain ⟨a, b⟩ := r.dp eF eB (by omega)
  refine ⟨a, ?_⟩
  unfold SeqAt.shaped
  rw [b, dep_py d (by omega), decide_eq_true (by omega : dep d ≤ 64)]
  rfl
/-- a list by its parts -/
theorem Rep.list (eF : Ex F H) (eB : Ex B H) {o : Fl} {ds : List D} {v : V} {g : List Addr} (r : Rep T B H F (.lst o ds) v g) : ∃ a vs g', v = .ref a ∧ SqL T.K H a vs ∧ Reps T B H F ds vs g' ∧ (o ≠ .ro → H a = some (.lst vs)) := by
  cases r with
  | lstF h r => exact ⟨_, _, _, rfl, sq_of (eF _ _ h), r, fun _ => eF _ _ h⟩
  | lstR h r => exact ⟨_, _, _, rfl, ex_l eF h, r, fun z => absurd rfl z⟩
  | lstB h r => exact ⟨_, _, _, rfl, sq_of (eB _ _ h), r, fun _ => eB _ _ h⟩
  | lstO h r e => exact ⟨_, _, _, rfl, sq_of h, r, fun _ => h⟩
theorem Rep.tuple (eF : Ex F H) {ds : List D} {v : V} {g : List Addr} (r : Rep T B H F (.tup ds) v g) : ∃ a vs g', v = .ref a ∧ SqT T.K H a vs ∧ Reps T B H F ds vs g' := by
  cases r with
  | tup h r => exact ⟨_, _, _, rfl, ex_t eF h.sq, r⟩
theorem Reps.noOw {ds : List D} {vs : List V} {g : List Addr} (r : Reps T B H F ds vs g) (h : allFs Cs.noOw ds = true) : Reps T B H F ds vs [] := by
  have z := r.noO h
  rw [z] at r
  exact r
theorem Reps.append {ds es : List D} {vs us : List V} : Reps T B H F ds vs [] → Reps T B H F es us [] → Reps T B H F (ds ++ es) (vs ++ us) [] := by
  intro a b
  induction ds generalizing vs with
  | nil => cases a; exact b
  | cons d ds ih =>
    cases a with
    | cons r rs e =>
      obtain ⟨e1, e2⟩ := List.append_eq_nil_iff.mp e.symm
      subst e1 e2
      exact .cons r (ih rs) rfl
theorem Reps.get {ds : List D} {vs : List V} {g : List Addr} {i : Nat} {d : D} : Reps T B H F ds vs g → ds[i]? = some d → ∃ v g', vs[i]? = some v ∧ Rep T B H F d v g' := by
  intro a b
  induction ds generalizing vs g i with
  | nil => simp at b
  | cons x ds ih =>
    cases a with
    | cons r rs e =>
      cases i with
      | zero =>
        have e1 : x = d := by simpa using b
        subst e1
        exact ⟨_, _, rfl, r⟩
      | succ i =>
        obtain ⟨v, g', h1, h2⟩ := ih rs (by simpa using b)
        exact ⟨v, g', by simpa using h1, h2⟩
theorem rep_v {d : D} {v : V} {g : List Addr} (r : Rep T B H F d v g) (h : allF Cs.noOw d = true) : Rep T B H F d v [] := by
  have z := r.noO h
  rw [z] at r
  exact r
end

/-! ## the operations on data -/
abbrev lim : Nat := 100000
theorem lim_le {n : Nat} (h : n ≤ lim) : n ≤ sizeLine := Nat.le_trans h (by decide)
theorem lim_lt {n : Nat} (h : n < lim) : n < sizeLine := Nat.lt_of_lt_of_le h (by decide)
def eqD (d e : D) : Bool := PyData.eqv (toPy d) (toPy e)
def pAdd : D → D → PR
  | .int i, .int j => .sc (.int (i + j))
  | .str a, .str b => if a.length + b.length ≤ lim then .sc (.str (a ++ b)) else .bad
  | .lst o xs, .lst o' ys => if (o ≠ .ro ∧ o' ≠ .ro) ∧ (allFs noOw xs = true ∧ allFs noOw ys = true) ∧ xs.length + ys.length ≤ lim then .nl (xs ++ ys) else .bad
  | _, _ => .bad
def pSub : D → D → PR
  | .int i, .int j => .sc (.int (i - j))
  | _, _ => .bad
def pMul : D → D → PR
  | .int i, .int j => if (-(2 ^ 64) < i ∧ i < 2 ^ 64) ∨ (-(2 ^ 64) < j ∧ j < 2 ^ 64) then .sc (.int (i * j)) else .bad
  | _, _ => .bad
def pFdiv : D → D → PR
  | .int i, .int j => if 0 < j ∧ j < 1073741824 then .sc (.int (i / j)) else .bad
  | _, _ => .bad
def pMod : D → D → PR
  | .int i, .int j => if 0 < j then .sc (.int (i % j)) else .bad
  | _, _ => .bad
def pPow : D → D → PR
  | .int i, .int j => if 0 ≤ j ∧ j ≤ 1000000 ∧ i.natAbs < 2 ^ 64 then .sc (.int (i ^ j.toNat)) else .bad
  | _, _ => .bad
def pShl : D → D → PR
  | .int i, .int j => if 0 ≤ j ∧ j ≤ 1000000 ∧ i.natAbs < 2 ^ 64 then .sc (.int (i * 2 ^ j.toNat)) else .bad
  | _, _ => .bad
def pShr : D → D → PR
  | .int i, .int j => if 0 ≤ j then .sc (.int (i / 2 ^ j.toNat)) else .bad
  | _, _ => .bad
def pBand : D → D → PR
  | .int i, .int j => .sc (.int (Builtin.bitAnd i j))
  | _, _ => .bad
def pBor : D → D → PR
  | .int i, .int j => .sc (.int (Builtin.bitOr i j))
  | _, _ => .bad
def pEq (d e : D) : PR := if dep d ≤ 60 ∧ dep e ≤ 60 then .sc (.bl (eqD d e)) else .bad
def pNe (d e : D) : PR := if dep d ≤ 60 ∧ dep e ≤ 60 then .sc (.bl (!eqD d e)) else .bad
def pLt : D → D → PR
  | .int i, .int j => .sc (.bl (decide (i < j)))
  | _, _ => .bad
def pLe : D → D → PR
  | .int i, .int j => .sc (.bl (decide (i ≤ j)))
  | _, _ => .bad
def pGt : D → D → PR
  | .int i, .int j => .sc (.bl (decide (j < i)))
  | _, _ => .bad
def pGe : D → D → PR
  | .int i, .int j => .sc (.bl (decide (j ≤ i)))
  | _, _ => .bad
def flat : D → Bool
  | .non => true
  | .bl _ => true
  | .int _ => true
  | .str _ => true
  | _ => false
def pIn (d : D) : D → PR
  | .lst _ xs => if dep d ≤ 60 ∧ deps xs ≤ 59 then .sc (.bl (xs.any fun y => eqD y d)) else .bad
  | .tup xs => if flat d = true ∧ xs.all flat = true then .sc (.bl (xs.any fun y => eqD y d)) else .bad
  | .str z => match d with
    | .str c => if c.cps.size = 1 then .sc (.bl (decide (c.cps.getD 0 0 ∈ z.cps.toList))) else .bad
    | _ => .bad
  | _ => .bad
def pNotIn (d : D) : D → PR
  | .lst _ xs => if dep d ≤ 60 ∧ deps xs ≤ 59 then .sc (.bl (!xs.any fun y => eqD y d)) else .bad
  | .tup xs => if flat d = true ∧ xs.all flat = true then .sc (.bl (!xs.any fun y => eqD y d)) else .bad
  | .str z => match d with
    | .str c => if c.cps.size = 1 then .sc (.bl (!decide (c.cps.getD 0 0 ∈ z.cps.toList))) else .bad
    | _ => .bad
  | _ => .bad
def pIx : D → D → PR
  | .lst _ xs, .int i => match atI xs i with
    | some d => if allF noOw d = true then .sc d else .bad
    | none => .bad
  | .tup xs, .int i => match atI xs i with
    | some d => if allF noOw d = true then .sc d else .bad
    | none => .bad
  | .str z, .int i => if z.length ≤ lim then match atI z.cps.toList i with
    | some c => .sc (.str ⟨#[c]⟩)
    | none => .bad
    else .bad
  | _, _ => .bad

/-! ## they are right -/
theorem strOk_append {a b : Str} (ha : PyData.strOk a = true) (hb : PyData.strOk b = true) : PyData.strOk (a ++ b) = true := by
  unfold PyData.strOk at *
  have e : (a ++ b).cps = a.cps ++ b.cps := rfl
  rw [e, Array.all_append, ha, hb]
  rfl
theorem strOk_sign {z : Str} {c : Nat} (h : PyData.strOk z = true) (hc : c ∈ z.cps.toList) : PyData.strOk ⟨#[c]⟩ = true := by
  unfold PyData.strOk at *
  rw [Array.all_eq_true'] at h
  have := h c (by simpa using hc)
  simpa using this
section
variable {T : Tx}
theorem p2_int {g : Int → Int → V} {gd : Int → Int → D} {p : D → D → PR} (hp : ∀ i j, p (.int i) (.int j) = .sc (gd i j)) (hn : ∀ d e, (∀ i j, ¬ (d = .int i ∧ e = .int j)) → p d e = .bad) (hg : ∀ B H F i j, Rep T B H F (gd i j) (g i j) []) : P2 T (rI0 g) p := by
  intro B H F d v k e u k' eF eB r1 r2
  by_cases hd : ∃ i j, d = .int i ∧ e = .int j
  · obtain ⟨i, j, rfl, rfl⟩ := hd
    cases r1
    cases r2
    rw [hp]
    exact ⟨g i j, hg B H F i j, fun Q q => ⟨i, j, rfl, rfl, q⟩⟩
  · rw [hn d e fun i j z => hd ⟨i, j, z⟩]
    trivial
theorem p2_intC {C : Int → Int → Prop} {g : Int → Int → V} {gd : Int → Int → D} {p : D → D → PR} (hp : ∀ i j, p (.int i) (.int j) = .bad ∨ (C i j ∧ p (.int i) (.int j) = .sc (gd i j))) (hn : ∀ d e, (∀ i j, ¬ (d = .int i ∧ e = .int j)) → p d e = .bad) (hg : ∀ B H F i j, Rep T B H F (gd i j) (g i j) []) : P2 T (rI C g) p := by
  intro B H F d v k e u k' eF eB r1 r2
  by_cases hd : ∃ i j, d = .int i ∧ e = .int j
  · obtain ⟨i, j, rfl, rfl⟩ := hd
    cases r1
    cases r2
    rcases hp i j with h | ⟨c, h⟩
    · rw [h]; trivial
    · rw [h]
      exact ⟨g i j, hg B H F i j, fun Q q => ⟨i, j, rfl, rfl, c, q⟩⟩
  · rw [hn d e fun i j z => hd ⟨i, j, z⟩]
    trivial
end
end Cs
namespace Cs
open PySem L2 Evl

section
variable {X : Cx} {G : Gx} {W : WX} {t1 t2 : List Nat} {a b : Expr} {o1 o2 : Opd} {pos : Pos}

/-! ## + - * and their like -/
def rAddA : R2 := fun x y H Q => rI0 (fun i j => V.int (i + j)) x y H Q ∨ ((∃ i j, x = .str i ∧ y = .str j ∧ i.length + j.length ≤ sizeLine ∧ Q (.str (i ++ j)) H) ∨ rCat x y H Q)
theorem op_addA : OpR X (binaryOp .Add) rAddA := op_alt op_add (op_alt op_add_str op_cat)
theorem p2_add {T : Tx} : P2 T rAddA pAdd := by
  intro B H F d v g e u k eF eB r1 r2
  cases d with
  | int i =>
    cases e with
    | int j =>
      cases r1; cases r2
      exact ⟨_, .int _, fun Q q => .inl ⟨i, j, rfl, rfl, q⟩⟩
    | _ => trivial
  | str x =>
    cases e with
    | str y =>
      unfold pAdd
      try dsimp only
      split
      · rename_i hl
        cases r1 with
        | str _ h1 =>
          cases r2 with
          | str _ h2 => exact ⟨_, .str _ (strOk_append h1 h2), fun Q q => .inr (.inl ⟨x, y, rfl, rfl, lim_le hl, q⟩)⟩
      · trivial
    | _ => trivial
  | lst o xs =>
    cases e with
    | lst o' ys =>
      unfold pAdd
      try dsimp only
      split
      · rename_i hl
        obtain ⟨⟨n1, n2⟩, ⟨w1, w2⟩, hl⟩ := hl
        obtain ⟨p, vs, g1, rfl, _, rp, hh⟩ := r1.list eF eB
        obtain ⟨q, us, g2, rfl, _, rq, hh2⟩ := r2.list eF eB
        refine ⟨vs ++ us, (rp.noOw w1).append (rq.noOw w2), fun Q k => .inr (.inr ⟨p, q, vs, us, rfl, rfl, hh n1, hh2 n2, ?_, k⟩)⟩
        rw [← rp.len, ← rq.len]
        exact lim_le hl
      · trivial
    | _ => trivial
  | _ => trivial
theorem g_add (h1 : GO X G W t1 a o1) (h2 : GO X G W t2 b o2) : GE X G W (t1 ++ t2) (.BinOp a .Add b pos) (dOp2 pAdd o1 o2) := top_of p2_add h1 h2 fun _ _ ha hb => pe_op op_addA ha hb
theorem p2_sub {T : Tx} : P2 T (rI0 fun i j => .int (i - j)) pSub := p2_int (gd := fun i j => .int (i - j)) (fun _ _ => rfl) (fun d e h => by cases d <;> cases e <;> first | rfl | exact absurd ⟨rfl, rfl⟩ (h _ _)) fun _ _ _ _ _ => .int _
theorem g_sub (h1 : GO X G W t1 a o1) (h2 : GO X G W t2 b o2) : GE X G W (t1 ++ t2) (.BinOp a .Sub b pos) (dOp2 pSub o1 o2) := top_of p2_sub h1 h2 fun _ _ ha hb => pe_op op_sub ha hb
theorem p2_mul {T : Tx} : P2 T (rI CMul fun i j => .int (i * j)) pMul := p2_intC (gd := fun i j => .int (i * j)) (fun i j => by
  unfold pMul
  try dsimp only
  split
  · rename_i h; exact .inr ⟨h, rfl⟩
  · exact .inl rfl) (fun d e h => by cases d <;> cases e <;> first | rfl | exact absurd ⟨rfl, rfl⟩ (h _ _)) fun _ _ _ _ _ => .int _
theorem g_mul (h1 : GO X G W t1 a o1) (h2 : GO X G W t2 b o2) : GE X G W (t1 ++ t2) (.BinOp a .Mult b pos) (dOp2 pMul o1 o2) := top_of p2_mul h1 h2 fun _ _ ha hb => pe_op op_mul ha hb
theorem p2_fdiv {T : Tx} : P2 T (rI CDiv fun i j => .int (i / j)) pFdiv := p2_intC (gd := fun i j => .int (i / j)) (fun i j => by
  unfold pFdiv
  try dsimp only
  split
  · rename_i h; exact .inr ⟨h, rfl⟩
  · exact .inl rfl) (fun d e h => by cases d <;> cases e <;> first | rfl | exact absurd ⟨rfl, rfl⟩ (h _ _)) fun _ _ _ _ _ => .int _
theorem g_fdiv (h1 : GO X G W t1 a o1) (h2 : GO X G W t2 b o2) : GE X G W (t1 ++ t2) (.BinOp a .FloorDiv b pos) (dOp2 pFdiv o1 o2) := top_of p2_fdiv h1 h2 fun _ _ ha hb => pe_op op_fdiv ha hb
theorem p2_mod {T : Tx} : P2 T (rI (fun _ j => 0 < j) fun i j => .int (i % j)) pMod := p2_intC (gd := fun i j => .int (i % j)) (fun i j => by
  unfold pMod
  try dsimp only
  split
  · rename_i h; exact .inr ⟨h, rfl⟩
  · exact .inl rfl) (fun d e h => by cases d <;> cases e <;> first | rfl | exact absurd ⟨rfl, rfl⟩ (h _ _)) fun _ _ _ _ _ => .int _
theorem g_mod (h1 : GO X G W t1 a o1) (h2 : GO X G W t2 b o2) : GE X G W (t1 ++ t2) (.BinOp a .Mod b pos) (dOp2 pMod o1 o2) := top_of p2_mod h1 h2 fun _ _ ha hb => pe_op op_mod ha hb
theorem p2_pow {T : Tx} : P2 T (rI CPow fun i j => .int (i ^ j.toNat)) pPow := p2_intC (gd := fun i j => .int (i ^ j.toNat)) (fun i j => by
  unfold pPow
  try dsimp only
  split
  · rename_i h; exact .inr ⟨h, rfl⟩
  · exact .inl rfl) (fun d e h => by cases d <;> cases e <;> first | rfl | exact absurd ⟨rfl, rfl⟩ (h _ _)) fun _ _ _ _ _ => .int _
theorem g_pow (h1 : GO X G W t1 a o1) (h2 : GO X G W t2 b o2) : GE X G W (t1 ++ t2) (.BinOp a .Pow b pos) (dOp2 pPow o1 o2) := top_of p2_pow h1 h2 fun _ _ ha hb => pe_op op_pow ha hb
theorem p2_shl {T : Tx} : P2 T (rI CPow fun i j => .int (i * 2 ^ j.toNat)) pShl := p2_intC (gd := fun i j => .int (i * 2 ^ j.toNat)) (fun i j => by
  unfold pShl
  try dsimp only
  split
  · rename_i h; exact .inr ⟨h, rfl⟩
  · exact .inl rfl) (fun d e h => by cases d <;> cases e <;> first | rfl | exact absurd ⟨rfl, rfl⟩ (h _ _)) fun _ _ _ _ _ => .int _
theorem g_shl (h1 : GO X G W t1 a o1) (h2 : GO X G W t2 b o2) : GE X G W (t1 ++ t2) (.BinOp a .LShift b pos) (dOp2 pShl o1 o2) := top_of p2_shl h1 h2 fun _ _ ha hb => pe_op op_shl ha hb
theorem p2_shr {T : Tx} : P2 T (rI (fun _ j => 0 ≤ j) fun i j => .int (i / 2 ^ j.toNat)) pShr := p2_intC (gd := fun i j => .int (i / 2 ^ j.toNat)) (fun i j => by
  unfold pShr
  try dsimp only
  split
  · rename_i h; exact .inr ⟨h, rfl⟩
  · exact .inl rfl) (fun d e h => by cases d <;> cases e <;> first | rfl | exact absurd ⟨rfl, rfl⟩ (h _ _)) fun _ _ _ _ _ => .int _
theorem g_shr (h1 : GO X G W t1 a o1) (h2 : GO X G W t2 b o2) : GE X G W (t1 ++ t2) (.BinOp a .RShift b pos) (dOp2 pShr o1 o2) := top_of p2_shr h1 h2 fun _ _ ha hb => pe_op op_shr ha hb
theorem p2_band {T : Tx} : P2 T (rI0 fun i j => .int (Builtin.bitAnd i j)) pBand := p2_int (gd := fun i j => .int (Builtin.bitAnd i j)) (fun _ _ => rfl) (fun d e h => by cases d <;> cases e <;> first | rfl | exact absurd ⟨rfl, rfl⟩ (h _ _)) fun _ _ _ _ _ => .int _
theorem g_band (h1 : GO X G W t1 a o1) (h2 : GO X G W t2 b o2) : GE X G W (t1 ++ t2) (.BinOp a .BitAnd b pos) (dOp2 pBand o1 o2) := top_of p2_band h1 h2 fun _ _ ha hb => pe_op op_and ha hb
theorem p2_bor {T : Tx} : P2 T (rI0 fun i j => .int (Builtin.bitOr i j)) pBor := p2_int (gd := fun i j => .int (Builtin.bitOr i j)) (fun _ _ => rfl) (fun d e h => by cases d <;> cases e <;> first | rfl | exact absurd ⟨rfl, rfl⟩ (h _ _)) fun _ _ _ _ _ => .int _
theorem g_bor (h1 : GO X G W t1 a o1) (h2 : GO X G W t2 b o2) : GE X G W (t1 ++ t2) (.BinOp a .BitOr b pos) (dOp2 pBor o1 o2) := top_of p2_bor h1 h2 fun _ _ ha hb => pe_op op_or ha hb

/-! ## comparisons -/
theorem p2_eq {T : Tx} : P2 T (rEqD T.K) pEq := by
  intro B H F d v g e u k eF eB r1 r2
  unfold pEq
  try dsimp only
  split
  · rename_i h
    obtain ⟨h1, s1⟩ := r1.shaped eF eB h.1
    obtain ⟨h2, s2⟩ := r2.shaped eF eB h.2
    exact ⟨_, .bl _, fun Q q => ⟨_, _, h1, h2, s1, s2, q⟩⟩
  · trivial
theorem p2_ne {T : Tx} : P2 T (rNeD T.K) pNe := by
  intro B H F d v g e u k eF eB r1 r2
  unfold pNe
  try dsimp only
  split
  · rename_i h
    obtain ⟨h1, s1⟩ := r1.shaped eF eB h.1
    obtain ⟨h2, s2⟩ := r2.shaped eF eB h.2
    exact ⟨_, .bl _, fun Q q => ⟨_, _, h1, h2, s1, s2, q⟩⟩
  · trivial
theorem g_eq (hu : X.A.units + 65 < cLine) (h1 : GO X G W t1 a o1) (h2 : GO X G W t2 b o2) : GE X G W (t1 ++ t2) (.Compare a [.Eq] [b] pos) (dOp2 pEq o1 o2) := top_of p2_eq h1 h2 fun _ _ ha hb => pe_cmpR (op_eqD (by omega)) ha hb (nomark _)
theorem gt_eq (hu : X.A.units + 65 < cLine) (h1 : GO X G W t1 a o1) (h2 : GO X G W t2 b o2) : GT X G W (t1 ++ t2) (.Compare a [.Eq] [b] pos) (dB (dOp2 pEq o1 o2)) := topT_of p2_eq h1 h2 fun _ _ ha hb => pt_cmpR (op_eqD (by omega)) ha hb (nomark _)
theorem gt_ne (hu : X.A.units + 65 < cLine) (h1 : GO X G W t1 a o1) (h2 : GO X G W t2 b o2) : GT X G W (t1 ++ t2) (.Compare a [.NotEq] [b] pos) (dB (dOp2 pNe o1 o2)) := topT_of p2_ne h1 h2 fun _ _ ha hb => pt_cmpR (op_neD (by omega)) ha hb (nomark _)
theorem p2_lt {T : Tx} : P2 T (rI0 fun i j => .bl (decide (i < j))) pLt := p2_int (gd := fun i j => .bl (decide (i < j))) (fun _ _ => rfl) (fun d e h => by cases d <;> cases e <;> first | rfl | exact absurd ⟨rfl, rfl⟩ (h _ _)) fun _ _ _ _ _ => .bl _
theorem gt_lt (h1 : GO X G W t1 a o1) (h2 : GO X G W t2 b o2) : GT X G W (t1 ++ t2) (.Compare a [.Lt] [b] pos) (dB (dOp2 pLt o1 o2)) := topT_of p2_lt h1 h2 fun _ _ ha hb => pt_cmpR op_lt ha hb (nomark _)
theorem p2_le {T : Tx} : P2 T (rI0 fun i j => .bl (decide (i ≤ j))) pLe := p2_int (gd := fun i j => .bl (decide (i ≤ j))) (fun _ _ => rfl) (fun d e h => by cases d <;> cases e <;> first | rfl | exact absurd ⟨rfl, rfl⟩ (h _ _)) fun _ _ _ _ _ => .bl _
theorem p2_gt {T : Tx} : P2 T (rI0 fun i j => .bl (decide (j < i))) pGt := p2_int (gd := fun i j => .bl (decide (j < i))) (fun _ _ => rfl) (fun d e h => by cases d <;> cases e <;> first | rfl | exact absurd ⟨rfl, rfl⟩ (h _ _)) fun _ _ _ _ _ => .bl _
theorem g_gt (h1 : GO X G W t1 a o1) (h2 : GO X G W t2 b o2) : GE X G W (t1 ++ t2) (.Compare a [.Gt] [b] pos) (dOp2 pGt o1 o2) := top_of p2_gt h1 h2 fun _ _ ha hb => pe_cmpR op_gt ha hb (nomark _)
theorem gt_gt (h1 : GO X G W t1 a o1) (h2 : GO X G W t2 b o2) : GT X G W (t1 ++ t2) (.Compare a [.Gt] [b] pos) (dB (dOp2 pGt o1 o2)) := topT_of p2_gt h1 h2 fun _ _ ha hb => pt_cmpR op_gt ha hb (nomark _)
theorem p2_ge {T : Tx} : P2 T (rI0 fun i j => .bl (decide (j ≤ i))) pGe := p2_int (gd := fun i j => .bl (decide (j ≤ i))) (fun _ _ => rfl) (fun d e h => by cases d <;> cases e <;> first | rfl | exact absurd ⟨rfl, rfl⟩ (h _ _)) fun _ _ _ _ _ => .bl _
theorem gt_ge (h1 : GO X G W t1 a o1) (h2 : GO X G W t2 b o2) : GT X G W (t1 ++ t2) (.Compare a [.GtE] [b] pos) (dB (dOp2 pGe o1 o2)) := topT_of p2_ge h1 h2 fun _ _ ha hb => pt_cmpR op_ge ha hb (nomark _)
/-! ## in -/
theorem flat_v {T : Tx} {B H F : Hp} {d : D} {v : V} {g : List Addr} (r : Rep T B H F d v g) (h : flat d = true) : flatV v = true := by
  cases r <;> first | rfl | (simp [flat] at h; done)
theorem eq_v {T : Tx} {B H F : Hp} {d e : D} {v u : V} {g k : List Addr} (r : Rep T B H F d v g) (q : Rep T B H F e u k) (h : flat d = true) (h2 : flat e = true) : eqV v u = eqD d e := by
  cases r <;> cases q <;> first | (simp [flat] at h; done) | (simp [flat] at h2; done) | (simp [eqV, eqD, toPy, PyData.eqv]; done)
theorem any_v {T : Tx} {B H F : Hp} {d : D} {v : V} {g : List Addr} (r : Rep T B H F d v g) (h : flat d = true) : ∀ {xs : List D} {vs : List V} {k : List Addr}, Reps T B H F xs vs k → xs.all flat = true → vs.all flatV = true ∧ inV v vs = xs.any fun y => eqD y d
  | _, _, _, .nil, _ => ⟨rfl, rfl⟩
  | _, _, _, .cons (d := y) (ds := ys) (v := w) (vs := ws) q qs e, hx => by
    have hx' : flat y = true ∧ ys.all flat = true := by simpa using hx
    obtain ⟨a1, a2⟩ := any_v r h qs hx'.2
    refine ⟨by rw [List.all_cons, flat_v q hx'.1, a1]; rfl, ?_⟩
    unfold inV at a2 ⊢
    rw [List.any_cons, List.any_cons, eq_v q r hx'.1 h, a2]
theorem any_py {d : D} : ∀ xs : List D, ((toPys xs).any fun z => PyData.eqv z (toPy d)) = xs.any fun y => eqD y d
  | [] => rfl
  | x :: xs => by
    rw [toPys, List.any_cons, List.any_cons, any_py xs]
    rfl
def rInA (K : PySem.W.Frag) : R2 := fun x y H Q => rInD K x y H Q ∨ (rIn K false x y H Q ∨ ∃ (c : Nat) (z : Str), x = .str ⟨#[c]⟩ ∧ y = .str z ∧ Q (.bl (decide (c ∈ z.cps.toList))) H)
def rNotInA (K : PySem.W.Frag) : R2 := fun x y H Q => rNotInD K x y H Q ∨ (rIn K true x y H Q ∨ ∃ (c : Nat) (z : Str), x = .str ⟨#[c]⟩ ∧ y = .str z ∧ Q (.bl (!decide (c ∈ z.cps.toList))) H)
theorem one_sign {c : Str} (h : c.cps.size = 1) : c = ⟨#[c.cps.getD 0 0]⟩ := by
  obtain ⟨⟨l⟩⟩ := c
  match l, h with
  | [x], _ => rfl
theorem p2_in {T : Tx} : P2 T (rInA T.K) pIn := by
  intro B H F d v g e u k eF eB r1 r2
  cases e with
  | lst o xs =>
    unfold pIn
    try dsimp only
    split
    · rename_i h
      obtain ⟨h1, s1⟩ := r1.shaped eF eB h.1
      obtain ⟨h2, s2⟩ := r2.shaped eF eB (by rw [dep]; omega)
      rw [toPy] at h2 s2
      refine ⟨_, .bl _, fun Q q => .inl ⟨_, _, h1, h2, s1, s2, ?_⟩⟩
      rw [any_py]
      exact q
    · trivial
  | tup xs =>
    unfold pIn
    try dsimp only
    split
    · rename_i h
      obtain ⟨p, vs, g', rfl, sq, rs⟩ := r2.tuple eF
      obtain ⟨a1, a2⟩ := any_v r1 h.1 rs h.2
      refine ⟨_, .bl _, fun Q q => .inr (.inl ⟨p, vs, rfl, .inr sq, flat_v r1 h.1, a1, ?_⟩)⟩
      show Q (.bl (inV v vs)) H
      rw [a2]
      exact q
    · trivial
  | str z =>
    cases d with
    | str c =>
      unfold pIn
      dsimp only
      split
      · rename_i h
        cases r1
        cases r2
        refine ⟨_, .bl _, fun Q q => .inr (.inr ⟨_, z, congrArg V.str (one_sign h), rfl, q⟩)⟩
      · trivial
    | _ => trivial
  | _ => trivial
theorem p2_notIn {T : Tx} : P2 T (rNotInA T.K) pNotIn := by
  intro B H F d v g e u k eF eB r1 r2
  cases e with
  | lst o xs =>
    unfold pNotIn
    try dsimp only
    split
    · rename_i h
      obtain ⟨h1, s1⟩ := r1.shaped eF eB h.1
      obtain ⟨h2, s2⟩ := r2.shaped eF eB (by rw [dep]; omega)
      rw [toPy] at h2 s2
      refine ⟨_, .bl _, fun Q q => .inl ⟨_, _, h1, h2, s1, s2, ?_⟩⟩
      rw [any_py]
      exact q
    · trivial
  | tup xs =>
    unfold pNotIn
    try dsimp only
    split
    · rename_i h
      obtain ⟨p, vs, g', rfl, sq, rs⟩ := r2.tuple eF
      obtain ⟨a1, a2⟩ := any_v r1 h.1 rs h.2
      refine ⟨_, .bl _, fun Q q => .inr (.inl ⟨p, vs, rfl, .inr sq, flat_v r1 h.1, a1, ?_⟩)⟩
      show Q (.bl (!inV v vs)) H
      rw [a2]
      exact q
    · trivial
  | str z =>
    cases d with
    | str c =>
      unfold pNotIn
      dsimp only
      split
      · rename_i h
        cases r1
        cases r2
        refine ⟨_, .bl _, fun Q q => .inr (.inr ⟨_, z, congrArg V.str (one_sign h), rfl, q⟩)⟩
      · trivial
    | _ => trivial
  | _ => trivial
theorem gt_in (hu : X.A.units + 65 < cLine) (h1 : GO X G W t1 a o1) (h2 : GO X G W t2 b o2) (hm : behindInMarks .In b = false := by rfl) : GT X G W (t1 ++ t2) (.Compare a [.In] [b] pos) (dB (dOp2 pIn o1 o2)) :=
  topT_of p2_in h1 h2 fun _ _ ha hb => pt_cmpR (op_alt (op_inD hu) (op_alt op_in_seq op_in_sign)) ha hb hm
theorem gt_notIn (hu : X.A.units + 65 < cLine) (h1 : GO X G W t1 a o1) (h2 : GO X G W t2 b o2) (hm : behindInMarks .NotIn b = false := by rfl) : GT X G W (t1 ++ t2) (.Compare a [.NotIn] [b] pos) (dB (dOp2 pNotIn o1 o2)) :=
  topT_of p2_notIn h1 h2 fun _ _ ha hb => pt_cmpR (op_alt (op_notInD hu) (op_alt op_notIn_seq op_notIn_sign)) ha hb hm

/-! ## a[i] -/
theorem Reps.atI {T : Tx} {B H F : Hp} {ds : List D} {vs : List V} {g : List Addr} {i : Int} {d : D} (r : Reps T B H F ds vs g) (h : atI ds i = some d) : ∃ v g', L2.atI vs i = some v ∧ Rep T B H F d v g' := by
  unfold L2.atI at h ⊢
  rw [← r.len]
  cases e : ixN ds.length i with
  | none => rw [e] at h; cases h
  | some j =>
    rw [e] at h
    obtain ⟨v, g', h1, h2⟩ := r.get h
    exact ⟨v, g', h1, h2⟩
theorem atI_mem {α : Type} {xs : List α} {i : Int} {c : α} (h : atI xs i = some c) : c ∈ xs := by
  obtain ⟨j, _, h2, _⟩ := atI_get h
  exact List.mem_of_getElem? h2
theorem p2_ix {T : Tx} : P2 T (rIx T.K) pIx := by
  intro B H F d v g e u k eF eB r1 r2
  cases d with
  | lst o xs =>
    cases e with
    | int i =>
      unfold pIx
      dsimp only
      cases ea : L2.atI xs i with
      | none => trivial
      | some d =>
        dsimp only
        split
        · rename_i hn
          obtain ⟨p, vs, g1, rfl, sq, rp, _⟩ := r1.list eF eB
          obtain ⟨w, g', h1, h2⟩ := rp.atI ea
          cases r2
          exact ⟨w, rep_v h2 hn, fun Q q => .inl ⟨p, vs, i, w, rfl, rfl, sq, h1, q⟩⟩
        · trivial
    | _ => trivial
  | tup xs =>
    cases e with
    | int i =>
      unfold pIx
      dsimp only
      cases ea : L2.atI xs i with
      | none => trivial
      | some d =>
        dsimp only
        split
        · rename_i hn
          obtain ⟨p, vs, g1, rfl, sq, rp⟩ := r1.tuple eF
          obtain ⟨w, g', h1, h2⟩ := rp.atI ea
          cases r2
          exact ⟨w, rep_v h2 hn, fun Q q => .inr (.inl ⟨p, vs, i, w, rfl, rfl, sq, h1, q⟩)⟩
        · trivial
    | _ => trivial
  | str z =>
    cases e with
    | int i =>
      unfold pIx
      dsimp only
      split
      · rename_i hl
        cases ea : L2.atI z.cps.toList i with
        | none => trivial
        | some c =>
          cases r2
          cases r1 with
          | str _ hs => exact ⟨_, .str _ (strOk_sign hs (atI_mem ea)), fun Q q => .inr (.inr ⟨z, i, c, rfl, rfl, lim_le hl, ea, q⟩)⟩
      · trivial
    | _ => trivial
  | _ => trivial
theorem g_ix (h1 : GO X G W t1 a o1) (h2 : GO X G W t2 b o2) (hs : PlainIx b := by intro _ _; rfl) : GE X G W (t1 ++ t2) (.Subscript a b pos) (dOp2 pIx o1 o2) := top_of p2_ix h1 h2 fun _ _ ha hb => pe_ix ix_seq ha hb hs
end
end Cs
namespace Cs
open PySem L2 Evl

/-! ## tests -/
def dNot (f : M Bool) : M Bool := bnd f fun b => ret (!b)
def dAnd (f g : M Bool) : M Bool := bnd f fun b => if b = true then g else ret false
def dOr (f g : M Bool) : M Bool := bnd f fun b => if b = true then ret true else g
def dNotV (f : M D) : M D := bnd (dB f) fun b => ret (.bl (!b))
def dAndV (f g : M D) : M D := bnd (dB f) fun b => if b = true then g else ret (.bl false)
def dOrV (f g : M D) : M D := bnd (dB f) fun b => if b = true then ret (.bl true) else g
def dIfE (c : M Bool) (f g : M D) : M D := bnd c fun b => if b = true then f else g
def tru : D → Option Bool
  | .non => some false
  | .bl b => some b
  | .int i => some (i != 0)
  | .str s => if s.length ≤ lim then some ((s.length : Int) != 0) else none
  | .lst _ xs => some (!xs.isEmpty)
  | .tup xs => some (!xs.isEmpty)
  | .dct _ ks _ => some (!ks.isEmpty)
  | _ => none
def dTru : Opd → M Bool
  | .v f => bnd f fun d => match tru d with
    | some b => ret b
    | none => bad
  | .p i => bnd (dPk i) fun d => match tru d with
    | some b => ret b
    | none => bad

section
variable {T : Tx} {B H F : Hp}
theorem isEmpty_reps {ds : List D} {vs : List V} {g : List Addr} (r : Reps T B H F ds vs g) : (!ds.isEmpty) = !vs.isEmpty := by
  cases r <;> rfl
theorem zip_empty : ∀ {ks : List Str} {vs : List V}, ks.length = vs.length → (!ks.isEmpty) = !((ks.map (Sum.inr : Str → Key)).zip vs).isEmpty
  | [], [], _ => rfl
  | _ :: _, _ :: _, _ => rfl
theorem tru_ok {d : D} {v : V} {g : List Addr} {b : Bool} (eF : Ex F H) (eB : Ex B H) (r : Rep T B H F d v g) (h : tru d = some b) : TruV T.K v H b := by
  cases r with
  | non => exact (Option.some.inj h).symm
  | bl c => exact (Option.some.inj h).symm
  | int i => exact (Option.some.inj h).symm
  | str s hs =>
    unfold tru at h
    dsimp only at h
    split at h
    · rename_i hl; exact ⟨lim_le hl, (Option.some.inj h).symm⟩
    · cases h
  | cls _ => cases h
  | tup q r => exact .inr (.inl ⟨_, ex_t eF q.sq, by rw [← isEmpty_reps r]; exact (Option.some.inj h).symm⟩)
  | lstF q r => exact .inl ⟨_, sq_of (eF _ _ q), by rw [← isEmpty_reps r]; exact (Option.some.inj h).symm⟩
  | lstR q r => exact .inl ⟨_, ex_l eF q, by rw [← isEmpty_reps r]; exact (Option.some.inj h).symm⟩
  | lstB q r => exact .inl ⟨_, sq_of (eB _ _ q), by rw [← isEmpty_reps r]; exact (Option.some.inj h).symm⟩
  | lstO q r e => exact .inl ⟨_, sq_of q, by rw [← isEmpty_reps r]; exact (Option.some.inj h).symm⟩
  | dctF q l r => exact .inr (.inr ⟨_, eF _ _ q, (Option.some.inj h).symm.trans (zip_empty l)⟩)
  | dctB q l r => exact .inr (.inr ⟨_, eB _ _ q, (Option.some.inj h).symm.trans (zip_empty l)⟩)
  | dctO q l r e => exact .inr (.inr ⟨_, q, (Option.some.inj h).symm.trans (zip_empty l)⟩)
  | objF _ _ _ _ _ => cases h
  | objB _ _ _ _ _ => cases h
  | objO _ _ _ _ _ _ => cases h
end

section
variable {X : Cx} {G : Gx} {W : WX} {tc t1 t2 t3 : List Nat} {a b c : Expr} {pos : Pos} {rest : List Expr} {f g : M Bool} {u w : M D}
theorem gt_val (h : GE X G W tc a u) (he : ∀ whole, isTrue a X.env whole = (do let v ← whole; standAt a.pos; holding [v] (truthy v)) := by intro _; rfl) : GT X G W tc a (dB u) := pt_mono (pt_val h he) fun _ _ _ h => tB_core h
theorem gt_tru {o : Opd} (h : GO X G W tc a o) (he : ∀ whole, isTrue a X.env whole = (do let v ← whole; standAt a.pos; holding [v] (truthy v)) := by intro _; rfl) : GT X G W tc a (dTru o) :=
  pt_mono (pt_truth h.pe he) fun σ H Q ⟨B, s, e1, e2, rl, hp⟩ => by
    subst e1 e2
    cases o with
    | v f =>
      refine seqE1 rl hp fun d v s1 g _ hs r1 t a h => ?_
      cases e : tru d with
      | none => rw [e] at h; exact h.elim
      | some b =>
        rw [e] at h
        exact ⟨b, tru_ok r1.exF r1.exB t.rep e, h s1 rfl hs r1 a.drop0⟩
    | p i =>
      obtain ⟨d, ed, hp⟩ := pk_bnd hp
      obtain ⟨v, e2, rp⟩ := rl.sl i d (slot_some ed)
      refine ⟨v, e2, ?_⟩
      cases e : tru d with
      | none => rw [e] at hp; exact hp.elim
      | some b =>
        rw [e] at hp
        exact ⟨b, tru_ok rl.exF rl.exB rp e, hp s rfl rfl rl (Goes.refl)⟩
theorem gt_not (h : GT X G W tc a f) : GT X G W tc (.UnaryOp .Not a pos) (dNot f) :=
  pt_mono (pt_not h) fun σ H Q ⟨B, s, e1, e2, rl, hp⟩ => by
    subst e1 e2
    refine ⟨B, s, rfl, rfl, rl, hp.bnd.imp (fun d ρ1 ⟨_, h⟩ => h) fun _ _ _ _ h => h⟩
theorem gw_one (op : BoolOp) (h : GT X G W tc a f) : GW X G W tc (.BoolOp op [a] pos) f := by
  cases op with
  | And => exact pw_and1 h
  | Or => exact pw_or1 h
theorem exE.wk {T : Tx} {B : Hp} {s : S5} {cc : Str} {ks : List Str} {xs : List D} {ρ : En} {u1 u2 : List Nat} (hw : ∀ j ∈ u1, j ∈ u2) (h : exE T W B u2 s cc ks xs ρ) : exE T W B u1 s cc ks xs ρ := fun cls dd s' e1 e2 r x t => h cls dd s' e1 e2 r x (t.wk hw)
theorem memL {j : Nat} {u1 u2 : List Nat} (h : j ∈ u1) : j ∈ u1 ++ u2 := List.mem_append.mpr (.inl h)
theorem memR {j : Nat} {u1 u2 : List Nat} (h : j ∈ u2) : j ∈ u1 ++ u2 := List.mem_append.mpr (.inr h)
/-- first a test, then the rest from there -/
theorem seqTT {T : Tx} {B : Hp} {s : S5} {k : Bool → M Bool} {Q Q1 : Bool → Hp → Prop} (r : Okk T B s) (hp : Post (okT T B (t1 ++ t2) s Q) (exE T W B (t1 ++ t2) s) (bnd f k s.ρ))
    (hk : ∀ d s1, s1.σ = s.σ → Okk T B s1 → Post (okT T B t2 s1 Q) (exE T W B t2 s1) (k d s1.ρ) → Q1 d s1.H) : tDT T W t1 f s.σ s.H Q1 :=
  seqT r hp fun d s1 _ hs r1 a h => hk d s1 hs r1 (h.imp (fun c ρ q s' e1 e2 r' b => q s' e1 (e2.trans hs) r' (a.trans0 b)) fun _ _ _ _ q => exE.re a hs q)
theorem gw_and (h1 : GT X G W t1 a f) (h2 : GW X G W t2 (.BoolOp .And (b :: rest) pos) g) : GW X G W (t1 ++ t2) (.BoolOp .And (a :: b :: rest) pos) (dAnd f g) :=
  pw_mono (pw_and h1 h2) fun σ H Q ⟨B, s, e1, e2, rl, hp⟩ => by
    subst e1 e2
    refine seqTT rl hp fun d s1 hs r1 h => ?_
    cases d with
    | true => exact ⟨B, s1, hs, rfl, r1, h⟩
    | false => exact h s1 rfl rfl r1 Goes.refl
theorem gw_or (h1 : GT X G W t1 a f) (h2 : GW X G W t2 (.BoolOp .Or (b :: rest) pos) g) : GW X G W (t1 ++ t2) (.BoolOp .Or (a :: b :: rest) pos) (dOr f g) :=
  pw_mono (pw_or h1 h2) fun σ H Q ⟨B, s, e1, e2, rl, hp⟩ => by
    subst e1 e2
    refine seqTT rl hp fun d s1 hs r1 h => ?_
    cases d with
    | false => exact ⟨B, s1, hs, rfl, r1, h⟩
    | true => exact h s1 rfl rfl r1 Goes.refl
theorem gt_w (h : GW X G W tc a f) : GT X G W tc a f := h.pt

/-! ## the same as values -/
theorem seqBE {T : Tx} {B : Hp} {s : S5} {k : Bool → M D} {Q : VK} {Q1 : VK} (r : Okk T B s) (hp : Post (okE T B (t1 ++ t2) s Q) (exE T W B (t1 ++ t2) s) (bnd (dB u) k s.ρ))
    (hk : ∀ c s1, s1.σ = s.σ → Okk T B s1 → Post (okE T B t2 s1 Q) (exE T W B t2 s1) (k c s1.ρ) → Q1 (.bl c) s1.H) : tD T W t1 u s.σ s.H Q1 := by
  have hp2 : Post (okE T B (t1 ++ t2) s Q) (exE T W B (t1 ++ t2) s) (bnd u (fun d => bnd (match d with | .bl b => ret b | _ => bad) k) s.ρ) := by
    have e : bnd (dB u) k s.ρ = bnd u (fun d => bnd (match d with | .bl b => ret b | _ => bad) k) s.ρ := by
      unfold dB bnd
      cases u s.ρ <;> rfl
    rw [← e]
    exact hp
  refine seqE r hp2 fun d v s1 g _ hs r1 t a h => ?_
  cases d with
  | bl c =>
    obtain ⟨rp, _, _, _⟩ := t
    cases rp
    exact hk c s1 hs r1 (h.imp (fun c ρ q v s' g' e1 e2 r' t' b => q v s' g' e1 (e2.trans hs) r' t' (a.trans0 b)) fun _ _ _ _ q => exE.re a hs q)
  | _ => exact h.elim
theorem g_notV (h : GE X G W tc a u) : GE X G W tc (.UnaryOp .Not a pos) (dNotV u) :=
  pe_mono (pe_not h) fun σ H Q ⟨B, s, e1, e2, rl, hp⟩ => by
    subst e1 e2
    rw [← List.append_nil tc] at hp
    exact seqBE rl hp fun c s1 hs r1 h => ⟨c, rfl, h _ s1 [] rfl rfl r1 (Tmp.flat (.bl _)) Goes.refl⟩
theorem g_oneV (op : BoolOp) (h : GE X G W tc a u) : GE X G W tc (.BoolOp op [a] pos) u := pe_one h
theorem g_andV (h1 : GE X G W t1 a u) (h2 : GE X G W t2 (.BoolOp .And (b :: rest) pos) w) : GE X G W (t1 ++ t2) (.BoolOp .And (a :: b :: rest) pos) (dAndV u w) :=
  pe_mono (pe_and h1 h2) fun σ H Q ⟨B, s, e1, e2, rl, hp⟩ => by
    subst e1 e2
    refine seqBE rl hp fun c s1 hs r1 h => ⟨c, rfl, ?_⟩
    cases c with
    | true => exact ⟨B, s1, hs, rfl, r1, h⟩
    | false => exact h _ s1 [] rfl rfl r1 (Tmp.flat (.bl _)) Goes.refl
theorem g_orV (h1 : GE X G W t1 a u) (h2 : GE X G W t2 (.BoolOp .Or (b :: rest) pos) w) : GE X G W (t1 ++ t2) (.BoolOp .Or (a :: b :: rest) pos) (dOrV u w) :=
  pe_mono (pe_or h1 h2) fun σ H Q ⟨B, s, e1, e2, rl, hp⟩ => by
    subst e1 e2
    refine seqBE rl hp fun c s1 hs r1 h => ⟨c, rfl, ?_⟩
    cases c with
    | false => exact ⟨B, s1, hs, rfl, r1, h⟩
    | true => exact h _ s1 [] rfl rfl r1 (Tmp.flat (.bl _)) Goes.refl
theorem okE.wk {T : Tx} {B : Hp} {s : S5} {Q : VK} {d : D} {ρ : En} {u1 u2 : List Nat} (hw : ∀ j ∈ u1, j ∈ u2) (h : okE T B u2 s Q d ρ) : okE T B u1 s Q d ρ := fun v s' g e1 e2 r t a => h v s' g e1 e2 r t (a.wk hw)
/-! ## argument lists, displays -/
def dNil : M (List D) := ret []
def dCons (f : M D) (fs : M (List D)) : M (List D) := bnd f fun d => bnd fs fun ds => ret (d :: ds)
theorem ga_nil : GA X G W [] [] dNil := pa_mono pa_nil fun σ H Q ⟨B, s, e1, e2, rl, hp⟩ => by
  subst e1 e2
  exact hp [] s [] rfl rfl rl (Tmps.flat .nil) Goes.refl
theorem Tmp.cons {T : Tx} {B H F : Hp} {φ : Nat → List Addr} {d : D} {ds : List D} {v : V} {vs : List V} {g g2 : List Addr} (t : Tmp T B H F φ d v g) (ts : Tmps T B H F φ ds vs g2) (ap : ∀ x ∈ g, x ∉ g2) : Tmps T B H F φ (d :: ds) (v :: vs) (g ++ g2) :=
  ⟨.cons t.rep ts.rep rfl, List.nodup_append.mpr ⟨t.nd, ts.nd, fun x hx y hy e => ap x hx (e ▸ hy)⟩, fun x hx => (List.mem_append.mp hx).elim (t.ap x) (ts.ap x), fun x hx => (List.mem_append.mp hx).elim (t.dj x) (ts.dj x)⟩
theorem ga_cons {es : List Expr} {fs : M (List D)} (h1 : GE X G W t1 a u) (h2 : GA X G W t2 es fs) (hs : starEach (a :: es) X.env = (false, eval a X.env) :: starEach es X.env := by rfl) : GA X G W (t1 ++ t2) (a :: es) (dCons u fs) :=
  pa_mono (pa_cons h1 h2 hs) fun σ H Q ⟨B, s, e1, e2, rl, hp⟩ => by
    subst e1 e2
    refine seqE rl hp fun d v s1 g _ hs r1 t a h => ?_
    show tDs _ _ _ _ s.σ s1.H _
    rw [← hs]
    refine seqA2 a hs r1 h fun ds vs s2 g2 _ hs2 r2 ts a2 h => ?_
    refine h (v :: vs) s2 (g ++ g2) rfl (hs2.trans hs) r2 ((t.go a2).cons ts fun x hx q => t.apart a2.step x hx q) ((a.trans a2).less fun x hx => ?_)
    rcases List.mem_append.mp hx with z | z
    · exact List.mem_append.mpr (.inr z)
    · exact List.mem_append.mpr (.inl z)
def dLst (fs : M (List D)) : M D := bnd fs fun ds => if ds.length ≤ lim then ret (.lst .ow ds) else bad
def dTup (fs : M (List D)) : M D := bnd fs fun ds => if ds.length ≤ lim then ret (.tup ds) else bad
theorem g_lst {es : List Expr} {fs : M (List D)} (h : GA X G W tc es fs) : GE X G W tc (.List es pos) (dLst fs) :=
  pe_mono (pe_lst h) fun σ H Q ⟨B, s, e1, e2, rl, hp⟩ => by
    subst e1 e2
    refine seqA1 rl hp fun ds vs s1 g _ hs r1 ts a h => ?_
    split at h
    · rename_i hl
      refine ⟨by rw [← ts.rep.len]; exact lim_le hl, fun p hp' => ?_⟩
      have e0 : ∀ x ∈ g, x ≠ p := fun x hx => by
        obtain ⟨o, e⟩ := ts.rep.dom x hx
        exact ne_of_none e hp'
      refine h (.ref p) (s1.new p (.lst vs)) (p :: g) rfl hs (r1.new hp') ⟨.lstO upd_same (ts.rep.mono (Ex.refl B) (Ex.refl _) fun x hx o q => Ex.new hp' x o q) rfl, List.nodup_cons.mpr ⟨fun q => e0 p q rfl, ts.nd⟩, fun x hx => ?_, fun x hx => ?_⟩ ?_
      · rcases List.mem_cons.mp hx with rfl | hx
        · exact ⟨r1.freeF hp', r1.freeB hp'⟩
        · exact ts.ap x hx
      · rcases List.mem_cons.mp hx with rfl | hx
        · exact r1.freeO hp'
        · exact ts.dj x hx
      · have z := a.trans (goes_new (o := .lst vs) r1 hp')
        rw [List.append_nil] at z
        exact z
    · exact h.elim
/-- a tuple display: its object is known -/
def tTupZ (t : TA) : TE := fun σ H Q => t σ H fun xs H1 => xs.length ≤ sizeLine ∧ ∀ p (o : Obj), o.dict = none → H1 p = none → Q (.ref p) (upd H1 p (.frz o (.tup xs)))
theorem pe_tupZ {es : List Expr} {t : TA} {x1} (h : PA X es t) : PE X (.Tuple es x1 pos) (tTupZ t) := by
  constructor
  intro pins s σ H Q I hq
  apply wpAny_Tuple_spliced
  refine thn (h.run pos pins s σ H _ I hq) ?_
  rintro us s1 ⟨xs, H1, I1, r, z, q⟩
  have hn : H1 s1.heap.objs.size = none := I1.hok.fresh (Nat.le_refl _)
  have hg : (s1.heap.push ({ cls := .type "tuple", data := .seq us.toArray } : Obj)).get? s1.heap.objs.size = some { cls := .type "tuple", data := .seq us.toArray } := Heap.get?_push_size _ rfl
  have hk : ∀ b u, s1.heap.get? b = some u → (s1.heap.push ({ cls := .type "tuple", data := .seq us.toArray } : Obj)).get? b = some u := fun b u e => Heap.get?_push_of_some _ e
  have J := I1.laid (t' := s1.toks) (o := .frz { cls := .type "tuple", data := .seq us.toArray } (.tup xs)) hk (Nat.le_refl _) ⟨hg, z, us, r, _, hg, rfl, _, rfl⟩
  exact ⟨by rw [← r.length]; exact z, .ref s1.heap.objs.size, _, J, rfl, q _ _ rfl hn⟩
theorem g_tup {es : List Expr} {fs : M (List D)} {x1} (h : GA X G W tc es fs) : GE X G W tc (.Tuple es x1 pos) (dTup fs) :=
  pe_mono (pe_tupZ h) fun σ H Q ⟨B, s, e1, e2, rl, hp⟩ => by
    subst e1 e2
    refine seqA1 rl hp fun ds vs s1 g _ hs r1 ts a h => ?_
    split at h
    · rename_i hl
      refine ⟨by rw [← ts.rep.len]; exact lim_le hl, fun p o ho hp' => ?_⟩
      refine h (.ref p) (s1.newF p (.frz o (.tup vs))) g rfl hs (r1.newF hp') ⟨.tup (.inl ⟨o, upd_same, ho⟩) (ts.rep.mono (Ex.refl B) (Ex.new (r1.freeF hp')) fun x hx o q => Ex.new hp' x o q), ts.nd, fun x hx => ⟨?_, (ts.ap x hx).2⟩, ts.dj⟩ ?_
      · obtain ⟨o, e⟩ := ts.rep.dom x hx
        show upd s1.F p (.frz _ (.tup vs)) x = none
        rw [upd_ne (ne_of_none e hp')]
        exact (ts.ap x hx).1
      · have z := a.trans (goes_newF (o := .frz o (.tup vs)) r1 hp')
        rw [List.append_nil] at z
        exact z
    · exact h.elim
end
end Cs
namespace Cs
open PySem L2 Evl

/-! ## statements -/
def dExpr (f : M D) : M Flw := bnd f fun _ => ret .nx
def dRet (f : M D) : M Flw := bnd f fun d => ret (.rt d)
def dNx : M Flw := ret .nx
def dPut (i : Nat) (d : D) : M Flw := fun ρ => if i < ρ.length then .ok .nx (ρ.set i (.dt d)) else .bad
def dAsg (i : Nat) (f : M D) : M Flw := bnd f (dPut i)
def dIf (c : M Bool) (f g : M Flw) : M Flw := bnd c fun b => if b = true then f else g
def thenF (g : M Flw) : Flw → M Flw
  | .nx => g
  | .bk => ret .bk
  | .ct => ret .ct
  | .rt d => ret (.rt d)
def dSeq (f g : M Flw) : M Flw := bnd f (thenF g)

section
variable {T : Tx} {B : Hp} {s s1 s2 : S5} {W : WX} {tc tc1 tc2 t1 t2 : List Nat} {ρ : En} {g0 : List Addr} {E : Ends}
theorem exS.toE {c : Str} {ks : List Str} {xs : List D} (h : exS T W B tc s c ks xs ρ) : exE T W B tc s c ks xs ρ := fun cls dd s' e1 _ r x t => h cls dd s' e1 r x t
theorem exS.wk {c : Str} {ks : List Str} {xs : List D} (hw : ∀ j ∈ t1, j ∈ t2) (h : exS T W B t2 s c ks xs ρ) : exS T W B t1 s c ks xs ρ := fun cls dd s' e1 r x t => h cls dd s' e1 r x (t.wk hw)
theorem okS.wk {fl : Flw} (hw : ∀ j ∈ t1, j ∈ t2) (h : okS T B t2 s E fl ρ) : okS T B t1 s E fl ρ := by
  cases fl with
  | nx => exact fun s' e r t => h s' e r (t.wk hw)
  | bk => exact fun s' e r t => h s' e r (t.wk hw)
  | ct => exact fun s' e r t => h s' e r (t.wk hw)
  | rt d => exact fun v s' g e r x t => h v s' g e r x (t.wk hw)
theorem exS.re {c : Str} {ks : List Str} {xs : List D} (a : Goes t1 s s1 g0) (h : exS T W B (t1 ++ t2) s c ks xs ρ) : exS T W B t2 s1 c ks xs ρ := fun cls dd s' e1 r x t => h cls dd s' e1 r x (a.trans0 t)
theorem okS.re {fl : Flw} (a : Goes t1 s s1 g0) (h : okS T B (t1 ++ t2) s E fl ρ) : okS T B t2 s1 E fl ρ := by
  cases fl with
  | nx => exact fun s' e r t => h s' e r (a.trans0 t)
  | bk => exact fun s' e r t => h s' e r (a.trans0 t)
  | ct => exact fun s' e r t => h s' e r (a.trans0 t)
  | rt d => exact fun v s' g e r x t => h v s' g e r x (a.trans0 t)
/-- an expression, then a statement's rest, counted from the expression's end -/
theorem seqES {f : M D} {k : D → M Flw} {Q1 : VK} (r : Okk T B s) (hp : Post (okS T B tc s E) (exS T W B tc s) (bnd f k s.ρ)) (hw : ∀ j ∈ t1, j ∈ tc)
    (hk : ∀ d v s1 g, f s.ρ = .ok d s1.ρ → s1.σ = s.σ → Okk T B s1 → Tmp T B s1.H s1.F s1.φ d v g → Goes t1 s s1 g → Post (okS T B tc s E) (exS T W B tc s) (k d s1.ρ) → Q1 v s1.H) : tD T W t1 f s.σ s.H Q1 :=
  ⟨B, s, rfl, rfl, r, hp.bnd.imp (fun d ρ1 ⟨e, h⟩ v s1 g e1 e2 r1 t a => by
    subst e1
    exact hk d v s1 g e e2 r1 t a h) fun _ _ _ _ h => (h.wk hw).toE⟩
theorem seqTS {f : M Bool} {k : Bool → M Flw} {Q1 : Bool → Hp → Prop} (r : Okk T B s) (hp : Post (okS T B (t1 ++ t2) s E) (exS T W B (t1 ++ t2) s) (bnd f k s.ρ))
    (hk : ∀ d s1, s1.σ = s.σ → Okk T B s1 → Post (okS T B t2 s1 E) (exS T W B t2 s1) (k d s1.ρ) → Q1 d s1.H) : tDT T W t1 f s.σ s.H Q1 :=
  ⟨B, s, rfl, rfl, r, hp.bnd.imp (fun d ρ1 ⟨e, h⟩ s1 e1 e2 r1 a => by
    subst e1
    exact hk d s1 e2 r1 (h.imp (fun _ _ q => q.re a) fun _ _ _ _ q => q.re a)) fun _ _ _ _ h => (h.wk fun _ => memL).toE⟩
/-- a value goes into slot i -/
theorem Rel.put {σ : L2.St} {H F : Hp} {φ : Nat → List Addr} {i : Nat} {d : D} {v : V} {g : List Addr} (r : Rel T σ B H F ρ φ) (t : Tmp T B H F φ d v g) (hi : i < ρ.length) :
    Rel T (σ.set i (some v)) B H F (ρ.set i (.dt d)) (fun j => if j = i then g else φ j) := by
  refine ⟨by rw [List.length_set, List.length_set]; exact r.len, r.exB, r.exF, r.exP, fun j e q => ?_, fun j q => ?_, fun j q => ?_, fun j => ?_, fun j k a hn h1 h2 => ?_, fun j a h => ?_, r.xt⟩
  · by_cases z : j = i
    · subst z
      rw [List.getElem?_set_self hi] at q
      cases q
      refine ⟨v, List.getElem?_set_self (by rw [← r.len]; exact hi), ?_⟩
      rw [if_pos rfl]
      exact t.rep
    · rw [List.getElem?_set_ne (fun e => z e.symm)] at q
      obtain ⟨w, e2, rp⟩ := r.sl j e q
      refine ⟨w, by rw [List.getElem?_set_ne (fun e => z e.symm)]; exact e2, ?_⟩
      rw [if_neg z]
      exact rp
  · by_cases z : j = i
    · subst z
      rw [List.getElem?_set_self hi] at q
      cases q
    · rw [List.getElem?_set_ne (fun e => z e.symm)] at q
      obtain ⟨a, e1, e2⟩ := r.xn j q
      exact ⟨a, e1, by rw [List.getElem?_set_ne (fun e => z e.symm)]; exact e2⟩
  · split
    · rename_i z
      subst z
      exact absurd (List.getElem?_set_self hi) (q d)
    · rename_i z
      rw [List.getElem?_set_ne (fun e => z e.symm)] at q
      exact r.em j q
  · split
    · exact t.nd
    · exact r.nd j
  · split at h1
    · split at h2
      · rename_i z1 z2; exact hn (z1.trans z2.symm)
      · exact t.dj a h1 ⟨k, h2⟩
    · split at h2
      · exact t.dj a h2 ⟨j, h1⟩
      · exact r.dj j k a hn h1 h2
  · split at h
    · exact t.ap a h
    · exact r.ap j a h
abbrev S5.put (s : S5) (i : Nat) (v : V) (d : D) (g : List Addr) : S5 := { s with σ := s.σ.set i (some v), ρ := s.ρ.set i (.dt d), φ := fun j => if j = i then g else s.φ j }
theorem Goes.put {i : Nat} {d : D} {v : V} {g : List Addr} (a : Goes tc s s1 g) : Goes (tc ++ [i, i + 1000]) s (s1.put i v d g) [] :=
  ⟨a.step.drop fun x q => (by
    rcases q with ⟨j, q⟩ | q
    · dsimp only at q
      split at q
      · exact .inr q
      · exact .inl ⟨j, q⟩
    · cases q), fun j h => by
    have h1 : j ∉ tc := fun z => h (memL z)
    have h2 : j ≠ i := fun z => h (memR (by rw [z]; exact List.mem_cons_self))
    obtain ⟨x1, x2, x4⟩ := a.fix j h1
    exact ⟨(List.getElem?_set_ne fun e => h2 e.symm).trans x1, (if_neg h2).trans x2, x4⟩, fun j h => by
    have h1 : j + 1000 ∉ tc := fun z => h (memL z)
    have h2 : j ≠ i := fun z => h (memR (by rw [z]; exact List.mem_cons_of_mem _ List.mem_cons_self))
    exact (List.getElem?_set_ne fun e => h2 e.symm).trans (a.sg j h1)⟩
theorem asg_core {i : Nat} {f : M D} {σ : L2.St} {H : Hp} (h : tDS T W (tc ++ [i, i + 1000]) (dAsg i f) E σ H) : tAsg (tD T W tc f) (gName i) E σ H := by
  obtain ⟨B, s, e1, e2, rl, hp⟩ := h
  subst e1 e2
  refine seqES rl hp (fun _ => memL) fun d v s1 g _ hs r1 t a h => ?_
  unfold dPut at h
  split at h
  · rename_i hi
    have z := h (s1.put i v d g) rfl (r1.put t hi) a.put
    show E.nx (s.σ.set i (some v)) s1.H
    rw [← hs]
    exact z
  · exact h.elim
end

section
variable {X : Cx} {G : Gx} {W : WX} {tc t1 t2 t3 : List Nat} {a b c : Expr} {pos pos' : Pos} {rest : List Stmt} {st : Stmt} {u w : M D} {f g : M Flw}
theorem gs_expr (h : GE X G W tc a u) (hs : swapsWith a none pos.line X.env = pure false := by rfl) : GS X G W tc (.Expr a pos) (dExpr u) :=
  ps_mono (ps_expr h hs) fun E σ H ⟨B, s, e1, e2, rl, hp⟩ => by
    subst e1 e2
    refine seqES rl hp (fun _ h => h) fun d v s1 g _ hs r1 t a h => ?_
    have z := h s1 rfl r1 a.drop0
    rw [hs] at z
    exact z
theorem gs_ret (h : GE X G W tc a u) : GS X G W tc (.Return (some a) pos) (dRet u) :=
  ps_mono (ps_ret h) fun E σ H ⟨B, s, e1, e2, rl, hp⟩ => by
    subst e1 e2
    exact seqES rl hp (fun _ h => h) fun d v s1 g _ hs r1 t a h => h v s1 g rfl r1 t a
theorem gs_asg {i : Nat} {x : Str} (h : GE X G W tc a u) (hN : X.N.Nodup) (hi : X.N[i]? = some x) (hx : Loc X.env.scope x) (hs : swapsWith a (some (.Name x pos')) pos.line X.env = pure false := by rfl)
    (hf : X.fn x = true ∨ X.env.scope.names.lookup x = some .local := by first | exact .inl rfl | exact .inr rfl) : GS X G W (tc ++ [i, i + 1000]) (.Assign [.Name x pos'] a pos) (dAsg i u) :=
  ps_mono (ps_set hN hi hx h hs hf) fun E σ H h => asg_core h
theorem gs_if {sa sb : List Stmt} {k : M Bool} (h0 : GT X G W t1 c k) (h1 : GSs X G W t2 sa f) (h2 : GSs X G W t3 sb g) : GS X G W (t1 ++ (t2 ++ t3)) (.If c sa sb pos) (dIf k f g) :=
  ps_mono (ps_if h0 h1 h2) fun E σ H ⟨B, s, e1, e2, rl, hp⟩ => by
    subst e1 e2
    refine seqTS rl hp fun d s1 hs r1 h => ?_
    cases d with
    | true => exact ⟨B, s1, hs, rfl, r1, h.imp (fun _ _ q => q.wk fun _ => memL) fun _ _ _ _ q => q.wk fun _ => memL⟩
    | false => exact ⟨B, s1, hs, rfl, r1, h.imp (fun _ _ q => q.wk fun _ => memR) fun _ _ _ _ q => q.wk fun _ => memR⟩
theorem gss_nil : GSs X G W [] [] dNx :=
  pss_mono pss_nil fun E σ H ⟨B, s, e1, e2, rl, hp⟩ => by
    subst e1 e2
    exact hp s rfl rl Goes.refl
theorem gss_one (h : GS X G W tc st f) : GSs X G W tc [st] f := pss_one h
theorem gss_cons (h1 : GS X G W t1 st f) (h2 : GSs X G W t2 rest g) : GSs X G W (t1 ++ t2) (st :: rest) (dSeq f g) :=
  pss_mono (pss_cons h1 h2) fun E σ H ⟨B, s, e1, e2, rl, hp⟩ => by
    subst e1 e2
    refine ⟨B, s, rfl, rfl, rl, hp.bnd.imp (fun fl ρ1 ⟨_, h⟩ => ?_) fun _ _ _ _ h => h.wk fun _ => memL⟩
    cases fl with
    | nx => exact fun s1 e r1 a => ⟨B, s1, rfl, rfl, r1, by
        subst e
        exact (show Post _ _ (g s1.ρ) from h).imp (fun _ _ q => q.re a) fun _ _ _ _ q => q.re a⟩
    | bk => exact fun s1 e r1 a => (show okS _ _ _ _ _ .bk ρ1 from h) s1 e r1 (a.wk fun _ => memL)
    | ct => exact fun s1 e r1 a => (show okS _ _ _ _ _ .ct ρ1 from h) s1 e r1 (a.wk fun _ => memL)
    | rt d => exact fun v s1 g e r1 t a => (show okS _ _ _ _ _ (.rt d) ρ1 from h) v s1 g e r1 t (a.wk fun _ => memL)
/-- widen what may be touched -/
theorem gss_wk {ss : List Stmt} (h : GSs X G W t1 ss f) (hw : ∀ j ∈ t1, j ∈ t2) : GSs X G W t2 ss f :=
  pss_mono h fun E σ H ⟨B, s, e1, e2, rl, hp⟩ => ⟨B, s, e1, e2, rl, hp.imp (fun _ _ q => q.wk hw) fun _ _ _ _ q => q.wk hw⟩
/-- forget slots (nothing happens) -/
def fgt (is : List Nat) (ρ : En) : En := is.foldl (fun r i => r.set i .un) ρ
end
end Cs
namespace Cs
open PySem L2 Evl PyProof.Rows

/-! ## a def's meaning -/
def outs (pr : List Nat) (n : Nat) (ρ : En) : En := (List.range n).map fun i => if i ∈ pr then (match ρ[i]? with
  | some (.dt d) => if allF noBo d = true then .dt d else .un
  | _ => .un) else .un
def frm (N : Nat) (ds : List D) : En := ds.map Sl.dt ++ List.replicate (N - ds.length) .un
def run (f : M Flw) (pr : List Nat) (N n : Nat) (ds : List D) : Res := if ds.length = n then
  (match f (frm N ds) with
  | .ok .nx ρ => .ok .non (outs pr n ρ)
  | .ok (.rt d) ρ => if allF noBo d = true then .ok d (outs pr n ρ) else .bad
  | .exc c ks xs ρ => .exc c ks xs (outs pr n ρ)
  | _ => .bad) else .bad
def NoB (os : En) : Prop := ∀ (i : Nat) d, os[i]? = some (Sl.dt d) → allF noBo d = true
/-- what is promised of a def with the meaning m -/
def spM (T : Tx) (m : List D → Res) : Sp := fun vs H Q E => ∃ B s ds, s.σ = vs.map some ∧ s.H = H ∧ s.ρ = ds.map Sl.dt ∧ Okk T B s ∧
  (match m ds with
  | .ok d os => ∀ v s' g, s'.ρ = os → s'.σ = s.σ → Okk T B s' → Tmp T B s'.H s'.F s'.φ d v g → allF noBo d = true → NoB os → Step s.H s.F (O s.φ) s'.H s'.F (Or2 (O s'.φ) g) → Q v s'.H
  | .exc c ks xs os => ∀ cls dd s', s'.ρ = os → s'.σ = s.σ → Okk T B s' → XRep T s'.F c ks xs cls dd → NoB os → Step s.H s.F (O s.φ) s'.H s'.F (O s'.φ) → E cls dd s'.H
  | .bad => False)

section
variable {T : Tx} {B : Hp}
theorem outs_get {pr : List Nat} {n : Nat} {ρ : En} {i : Nat} {d : D} (h : (outs pr n ρ)[i]? = some (.dt d)) : i < n ∧ i ∈ pr ∧ ρ[i]? = some (.dt d) ∧ allF noBo d = true := by
  unfold outs at h
  rw [List.getElem?_map] at h
  cases e : (List.range n)[i]? with
  | none => rw [e] at h; cases h
  | some j =>
    obtain ⟨hj, ej⟩ := List.getElem?_eq_some_iff.mp e
    rw [List.getElem_range] at ej
    subst ej
    rw [List.length_range] at hj
    rw [e, Option.map_some] at h
    have h := Option.some.inj h
    split at h
    · rename_i hp
      split at h
      · rename_i d' ed
        split at h
        · rename_i hn
          cases h
          exact ⟨hj, hp, ed, hn⟩
        · cases h
      · cases h
    · cases h
theorem outs_exn {pr : List Nat} {n : Nat} {ρ : En} {i : Nat} : (outs pr n ρ)[i]? ≠ some .exn := by
  unfold outs
  rw [List.getElem?_map]
  cases e : (List.range n)[i]? with
  | none => intro h; cases h
  | some j =>
    rw [Option.map_some]
    intro h
    have h := Option.some.inj h
    split at h
    · split at h
      · split at h <;> cases h
      · cases h
    · cases h
/-- a part of the slots, seen as the arguments again -/
theorem back_rel {s : S5} {pr : List Nat} {vs : List V} {σ0 : L2.St} (r : Okk T B s) (h0 : σ0 = vs.map some) (hk : ∀ i ∈ pr, i < vs.length → s.σ[i]? = σ0[i]?) :
    Rel T σ0 B s.H s.F (outs pr vs.length s.ρ) (fun i => if (match (outs pr vs.length s.ρ)[i]? with | some (.dt _) => true | _ => false) = true then s.φ i else []) := by
  refine ⟨?_, r.exB, r.exF, r.exP, fun i d q => ?_, fun i q => absurd q outs_exn, fun i q => ?_, fun i => ?_, fun i j a hn h1 h2 => ?_, fun i a h => ?_, r.xt⟩
  · rw [h0, List.length_map]
    unfold outs
    rw [List.length_map, List.length_range]
  · obtain ⟨h1, h2, h3, h4⟩ := outs_get q
    obtain ⟨v, e, rp⟩ := r.sl i d h3
    refine ⟨v, by rw [← hk i h2 h1]; exact e, ?_⟩
    rw [q]
    exact rp
  · cases e : (outs pr vs.length s.ρ)[i]? with
    | none => rfl
    | some x =>
      cases x with
      | un => rfl
      | exn => rfl
      | dt d => exact absurd e (q d)
  · split
    · exact r.nd i
    · exact .nil
  · split at h1
    · split at h2
      · exact r.dj i j a hn h1 h2
      · cases h2
    · cases h1
  · split at h
    · exact r.ap i a h
    · cases h
theorem back_O {s : S5} {pr : List Nat} {n : Nat} {a : Addr} (h : O (fun i => if (match (outs pr n s.ρ)[i]? with | some (.dt _) => true | _ => false) = true then s.φ i else []) a) : O s.φ a := by
  obtain ⟨i, h⟩ := h
  dsimp only at h
  split at h
  · exact ⟨i, h⟩
  · cases h
/-- more slots, all empty -/
theorem wide_rel {s : S5} {vs : List V} {ds : List D} {N : List Str} (r : Okk T B s) (hσ : s.σ = vs.map some) (hρ : s.ρ = ds.map Sl.dt) : Rel T (L2.start N vs) B s.H s.F (frm N.length ds) s.φ := by
  have hl : ds.length = vs.length := by
    have := r.len
    rw [hσ, hρ, List.length_map, List.length_map] at this
    exact this
  have get : ∀ (i : Nat) x, (frm N.length ds)[i]? = some x → x = .un ∨ s.ρ[i]? = some x := fun i x h => by
    unfold frm at h
    by_cases hi : i < ds.length
    · rw [List.getElem?_append_left (by rw [List.length_map]; exact hi)] at h
      rw [hρ]
      exact .inr h
    · rw [List.getElem?_append_right (by rw [List.length_map]; omega)] at h
      exact .inl (List.eq_of_mem_replicate (List.mem_of_getElem? h))
  refine ⟨?_, r.exB, r.exF, r.exP, fun i d q => ?_, fun i q => ?_, fun i q => ?_, r.nd, r.dj, r.ap, r.xt⟩
  · unfold frm L2.start
    rw [List.length_append, List.length_append, List.length_map, List.length_map, List.length_replicate, List.length_replicate, hl]
  · rcases get i _ q with z | z
    · cases z
    · obtain ⟨v, e, rp⟩ := r.sl i d z
      refine ⟨v, ?_, rp⟩
      unfold L2.start
      rw [hσ] at e
      rw [List.getElem?_append_left (List.getElem?_eq_some_iff.mp e).1]
      exact e
  · rcases get i _ q with z | z
    · cases z
    · rw [hρ, List.getElem?_map] at z
      cases e : ds[i]? with
      | none => rw [e] at z; cases z
      | some d => rw [e] at z; cases z
  · refine r.em i fun d z => ?_
    refine q d ?_
    unfold frm
    rw [hρ] at z
    rw [List.getElem?_append_left (List.getElem?_eq_some_iff.mp z).1]
    exact z
end
/-- THE RULE for a def: its body has the denotation den -/
theorem fn_den {P : Program} {w : World} {K : PySem.W.Frag} {mg : Str → Option Value} {base : Heap} {x qual : Str} {st : Stmt} {f : Addr} {fd : FuncData} {N ps : List Str} {k : Nat} {G : Gx} {tc pr : List Nat} {den : M Flw}
    {dvs : List V} {kws : List (Str × V)} (F : FunD K x qual (defArgs st) (defBody st) (defScope st) dvs kws f fd) (S : FnScope N ps (defScope st)) (hpr : ∀ i ∈ pr, i + 1000 ∉ tc)
    (hd : ∀ (cdv : Value) (A : Around) (outer : List Env) (s : Shared) (H : Hp) (E : XK), Room k (A.deeper (envOfC qual (defScope st) s.heap.objs.size f cdv)) →
      GSs (cxOf (L2N.CX P w) P w K mg base N qual (defScope st) f cdv A outer s H E) G (fun cls d _ H => E cls d H) tc (defBody st) den) :
    FnOk P w K mg base (L2N.CX P w) (k + 1) f fd ps (spM ⟨K, G.C, G.P, G.X, G.tb⟩ (run den pr N.length ps.length)) := by
  refine F.ok S (fun vs H Q E h => ?_) (fun cdv A outer s H vs Q E hr h => ⟨_, hd cdv A outer s H E hr, ?_⟩)
  · obtain ⟨B, s, ds, e1, e2, e3, r, h⟩ := h
    have hl := r.len
    rw [e1, e3, List.length_map, List.length_map] at hl
    unfold run at h
    by_cases hn : ds.length = ps.length
    · rw [← hl]
      exact hn
    · rw [if_neg hn] at h
      exact h.elim
  · obtain ⟨B, s0, ds, e1, e2, e3, r, h⟩ := h
    have hl := r.len
    rw [e1, e3, List.length_map, List.length_map] at hl
    unfold run at h
    by_cases hn : ds.length = ps.length
    · rw [if_pos hn] at h
      rw [hl] at hn
      let s1 : S5 := { σ := L2.start N vs, H := s0.H, F := s0.F, ρ := frm N.length ds, φ := s0.φ }
      have r1 : Okk ⟨K, G.C, G.P, G.X, G.tb⟩ B s1 := wide_rel (s := s0) r e1 e3
      have hst : ∀ i, i < vs.length → (L2.start N vs)[i]? = s0.σ[i]? := fun i hi => by
        unfold L2.start
        rw [List.getElem?_append_left (by rw [List.length_map]; exact hi), e1]
      -- the way back
      have way : ∀ s' : S5, Okk ⟨K, G.C, G.P, G.X, G.tb⟩ B s' → (∀ i ∈ pr, s'.σ[i]? = (L2.start N vs)[i]?) → Rel ⟨K, G.C, G.P, G.X, G.tb⟩ s0.σ B s'.H s'.F (outs pr ps.length s'.ρ) (fun i => if (match (outs pr ps.length s'.ρ)[i]? with | some (.dt _) => true | _ => false) = true then s'.φ i else []) := fun s' r' hk => by
        rw [← hn]
        exact back_rel r' e1 fun i hi hl => (hk i hi).trans (hst i hl)
      refine ⟨B, s1, rfl, e2, r1, ?_⟩
      show Post _ _ (den (frm N.length ds))
      cases e : den (frm N.length ds) with
      | bad => rw [e] at h; exact h.elim
      | exc c ks xs ρ =>
        rw [e] at h
        intro cls dd s' e4 r' x a
        subst e4
        exact h cls dd { s' with σ := s0.σ, ρ := outs pr ps.length s'.ρ, φ := _ } rfl rfl (way s' r' fun i hi => a.sg i (hpr i hi)) x (fun i d q => (outs_get q).2.2.2) (a.step.drop fun b q => .inl (back_O q))
      | ok fl ρ =>
        rw [e] at h
        cases fl with
        | nx =>
          intro s' e4 r' a
          subst e4
          exact h .non { s' with σ := s0.σ, ρ := outs pr ps.length s'.ρ, φ := _ } [] rfl rfl (way s' r' fun i hi => a.sg i (hpr i hi)) (Tmp.flat .non) rfl (fun i d q => (outs_get q).2.2.2) (a.step.drop fun b q => q.imp back_O id)
        | rt d =>
          dsimp only at h
          by_cases hb : allF noBo d = true
          · rw [if_pos hb] at h
            intro v s' g e4 r' t a
            subst e4
            exact h v { s' with σ := s0.σ, ρ := outs pr ps.length s'.ρ, φ := _ } g rfl rfl (way s' r' fun i hi => a.sg i (hpr i hi)) ⟨t.rep, t.nd, t.ap, fun b hb q => t.dj b hb (back_O q)⟩ hb (fun i d q => (outs_get q).2.2.2) (a.step.drop fun b q => q.imp back_O id)
          · rw [if_neg hb] at h
            exact h.elim
        | bk => exact h.elim
        | ct => exact h.elim
    · rw [if_neg hn] at h
      exact h.elim
end Cs
namespace Cs
open PySem L2 Evl PyProof.Rows

/-! ## arguments: values, lent slots, slots that the callee may change -/
inductive Ar where
  | v (f : M D)
  | l (i : Nat)
  | io (i : Nat)
abbrev Arg := Ar × List Nat
def rdA (T : Tx) (W : WX) : Arg → TE
  | (.v f, tc) => tD T W tc f
  | (.l i, _) => tVar i
  | (.io i, _) => tVar i
def tRs (T : Tx) (W : WX) : List Arg → TA
  | [] => tNil
  | a :: r => tCons (rdA T W a) (tRs T W r)
def tcs : List Arg → List Nat
  | [] => []
  | (.v _, tc) :: r => tc ++ tcs r
  | (.l _, _) :: r => tcs r
  | (.io _, _) :: r => tcs r
def ios : List Arg → List Nat
  | [] => []
  | (.io i, _) :: r => i :: ios r
  | (.v _, _) :: r => ios r
  | (.l _, _) :: r => ios r
def lns : List Arg → List Nat
  | [] => []
  | (.l i, _) :: r => i :: lns r
  | (.v _, _) :: r => lns r
  | (.io _, _) :: r => lns r
def dArs : List Arg → M (List (Option D))
  | [] => ret []
  | (.v f, _) :: r => bnd f fun d => bnd (dArs r) fun ds => ret (some d :: ds)
  | (.l i, _) :: r => bnd (dPk i) fun _ => bnd (dArs r) fun ds => ret (none :: ds)
  | (.io i, _) :: r => bnd (dPk i) fun _ => bnd (dArs r) fun ds => ret (none :: ds)
def argD (ρ : En) : List Arg → List (Option D) → Option (List D)
  | [], [] => some []
  | (.v _, _) :: r, some d :: ds => (argD ρ r ds).map (d :: ·)
  | (.l i, _) :: r, none :: ds => (slot i ρ).bind fun d => (argD ρ r ds).map (mapF flLend d :: ·)
  | (.io i, _) :: r, none :: ds => (slot i ρ).bind fun d => (argD ρ r ds).map (d :: ·)
  | _, _ => none
def hd1 : En → Sl
  | [] => .un
  | o :: _ => o
def wb : List Arg → En → En → En
  | [], _, ρ => ρ
  | (.io i, _) :: r, os, ρ => (wb r os.tail ρ).set i (hd1 os)
  | (.v _, _) :: r, os, ρ => wb r os.tail ρ
  | (.l _, _) :: r, os, ρ => wb r os.tail ρ
def wbF : List Arg → (Nat → List Addr) → (Nat → List Addr) → Nat → List Addr
  | [], _, φ => φ
  | (.io i, _) :: r, ψ, φ => fun j => if j = i then ψ 0 else wbF r (fun k => ψ (k + 1)) φ j
  | (.v _, _) :: r, ψ, φ => wbF r (fun k => ψ (k + 1)) φ
  | (.l _, _) :: r, ψ, φ => wbF r (fun k => ψ (k + 1)) φ
inductive Its (T : Tx) (B : Hp) (s : S5) : List Arg → List (Option D) → List V → List Addr → Prop
  | nil : Its T B s [] [] [] []
  | v {f : M D} {tc : List Nat} {r : List Arg} {d : D} {ds : List (Option D)} {x : V} {vs : List V} {g1 g2 : List Addr} (h : Rep T B s.H s.F d x g1) (t : Its T B s r ds vs g2) : Its T B s ((.v f, tc) :: r) (some d :: ds) (x :: vs) (g1 ++ g2)
  | l {i : Nat} {tc : List Nat} {r : List Arg} {ds : List (Option D)} {x : V} {vs : List V} {g : List Addr} (h : s.σ[i]? = some (some x)) (t : Its T B s r ds vs g) : Its T B s ((.l i, tc) :: r) (none :: ds) (x :: vs) g
  | io {i : Nat} {tc : List Nat} {r : List Arg} {ds : List (Option D)} {x : V} {vs : List V} {g : List Addr} (h : s.σ[i]? = some (some x)) (t : Its T B s r ds vs g) : Its T B s ((.io i, tc) :: r) (none :: ds) (x :: vs) g
structure ItsT (T : Tx) (B : Hp) (s : S5) (ars : List Arg) (ods : List (Option D)) (vs : List V) (g : List Addr) : Prop where
  its : Its T B s ars ods vs g
  nd : g.Nodup
  ap : ∀ a ∈ g, s.F a = none ∧ B a = none
  dj : ∀ a ∈ g, ¬ O s.φ a

theorem bnd_assoc {α β γ : Type} (f : M α) (g : α → M β) (h : β → M γ) (ρ : En) : bnd (bnd f g) h ρ = bnd f (fun a => bnd (g a) h) ρ := by
  unfold bnd
  cases f ρ <;> rfl
section
variable {T : Tx} {B : Hp} {W : WX}
theorem args_core {β : Type} {s0 : S5} {U : List Nat} {okk : β → En → Prop} : ∀ {ars : List Arg} {k : List (Option D) → M β} {s : S5} {u : List Nat} {g0 : List Addr} {Q1 : List V → Hp → Prop}, Goes u s0 s g0 → s.σ = s0.σ → (∀ j ∈ u, j ∈ U) → (∀ j ∈ tcs ars, j ∈ U) → Okk T B s →
    Post okk (exE T W B U s0) (bnd (dArs ars) k s.ρ) →
    (∀ ods vs s1 g, Okk T B s1 → s1.σ = s.σ → ItsT T B s1 ars ods vs g → Goes (tcs ars) s s1 g → Post okk (exE T W B U s0) (k ods s1.ρ) → Q1 vs s1.H) → tRs T W ars s.σ s.H Q1
  | [], k, s, u, g0, Q1, a0, hσ, hu, hU, r, hp, hk => hk [] [] s [] r rfl ⟨.nil, .nil, fun _ h => (by cases h), fun _ h => (by cases h)⟩ Goes.refl hp
  | (.v f, tc) :: r', k, s, u, g0, Q1, a0, hσ, hu, hU, r, hp, hk => by
    have hp1 : Post okk (exE T W B U s0) (bnd f (fun d => bnd (dArs r') fun ds => k (some d :: ds)) s.ρ) := by
      have e : bnd (dArs ((.v f, tc) :: r')) k s.ρ = bnd f (fun d => bnd (dArs r') fun ds => k (some d :: ds)) s.ρ := by
        show bnd (bnd f fun d => bnd (dArs r') fun ds => ret (some d :: ds)) k s.ρ = _
        rw [bnd_assoc]
        congr 1
        funext d ρ
        rw [bnd_assoc]
        rfl
      rw [← e]
      exact hp
    refine ⟨B, s, rfl, rfl, r, hp1.bnd.imp (fun d ρ1 ⟨_, h⟩ x s1 g e1 e2 r1 t a => ?_) fun _ _ _ _ h cls dd s' e1 e2 r' x t => h cls dd s' e1 (e2.trans hσ) r' x ((a0.trans0 t).wk fun j q => ?_)⟩
    · subst e1
      show tRs T W r' s.σ s1.H _
      rw [← e2]
      refine args_core (a0.trans0 a) (e2.trans hσ) (fun j q => (List.mem_append.mp q).elim (hu j) fun z => hU j (memL z)) (fun j q => hU j (memR q)) r1 h fun ods vs s2 g2 r2 e3 it a2 h2 => ?_
      have t2 := t.go a2
      refine hk (some d :: ods) (x :: vs) s2 (g ++ g2) r2 (e3.trans e2) ⟨.v t2.rep it.its, List.nodup_append.mpr ⟨t2.nd, it.nd, fun p hp q hq e => t.apart a2.step p hp (e ▸ hq)⟩, fun p hp => (List.mem_append.mp hp).elim (t2.ap p) (it.ap p), fun p hp => (List.mem_append.mp hp).elim (t2.dj p) (it.dj p)⟩ ((a.trans a2).less fun p hp => ?_) h2
      rcases List.mem_append.mp hp with z | z
      · exact List.mem_append.mpr (.inr z)
      · exact List.mem_append.mpr (.inl z)
    · rcases List.mem_append.mp q with z | z
      · exact hu j z
      · exact hU j (memL z)
  | (.l i, tc) :: r', k, s, u, g0, Q1, a0, hσ, hu, hU, r, hp, hk => by
    have hp1 : Post okk (exE T W B U s0) (bnd (dPk i) (fun _ => bnd (dArs r') fun ds => k (none :: ds)) s.ρ) := by
      have e : bnd (dArs ((.l i, tc) :: r')) k s.ρ = bnd (dPk i) (fun _ => bnd (dArs r') fun ds => k (none :: ds)) s.ρ := by
        show bnd (bnd (dPk i) fun _ => bnd (dArs r') fun ds => ret (none :: ds)) k s.ρ = _
        rw [bnd_assoc]
        congr 1
        funext d ρ
        rw [bnd_assoc]
        rfl
      rw [← e]
      exact hp
    obtain ⟨d, e, hp2⟩ := pk_bnd hp1
    obtain ⟨x, ex, _⟩ := r.sl i d (slot_some e)
    refine ⟨x, ex, ?_⟩
    refine args_core a0 hσ hu hU r hp2 fun ods vs s2 g2 r2 e3 it a2 h2 => hk (none :: ods) (x :: vs) s2 g2 r2 e3 ⟨.l (by rw [e3]; exact ex) it.its, it.nd, it.ap, it.dj⟩ a2 h2
  | (.io i, tc) :: r', k, s, u, g0, Q1, a0, hσ, hu, hU, r, hp, hk => by
    have hp1 : Post okk (exE T W B U s0) (bnd (dPk i) (fun _ => bnd (dArs r') fun ds => k (none :: ds)) s.ρ) := by
      have e : bnd (dArs ((.io i, tc) :: r')) k s.ρ = bnd (dPk i) (fun _ => bnd (dArs r') fun ds => k (none :: ds)) s.ρ := by
        show bnd (bnd (dPk i) fun _ => bnd (dArs r') fun ds => ret (none :: ds)) k s.ρ = _
        rw [bnd_assoc]
        congr 1
        funext d ρ
        rw [bnd_assoc]
        rfl
      rw [← e]
      exact hp
    obtain ⟨d, e, hp2⟩ := pk_bnd hp1
    obtain ⟨x, ex, _⟩ := r.sl i d (slot_some e)
    refine ⟨x, ex, ?_⟩
    refine args_core a0 hσ hu hU r hp2 fun ods vs s2 g2 r2 e3 it a2 h2 => hk (none :: ods) (x :: vs) s2 g2 r2 e3 ⟨.io (by rw [e3]; exact ex) it.its, it.nd, it.ap, it.dj⟩ a2 h2

/-- what the callee sees -/
theorem entry {s : S5} {L : List Addr} (r : Okk T B s) (hL1 : ∀ a ∈ L, B a = none) : ∀ {ars : List Arg} {ods : List (Option D)} {vs : List V} {g : List Addr} {ds : List D}, Its T B s ars ods vs g → g.Nodup → (∀ a ∈ g, ¬ O s.φ a) → (ios ars).Nodup → (∀ i ∈ lns ars, ∀ a ∈ s.φ i, a ∈ L) → argD s.ρ ars ods = some ds →
    ∃ φ0 : Nat → List Addr, (∀ (k : Nat) d, ds[k]? = some d → ∃ v, vs[k]? = some v ∧ Rep T (ovl s.H B L) s.H s.F d v (φ0 k)) ∧ (∀ k, ds.length ≤ k → φ0 k = []) ∧ (∀ k, (φ0 k).Nodup) ∧ (∀ k l a, k ≠ l → a ∈ φ0 k → a ∉ φ0 l) ∧ (∀ a, O φ0 a → a ∈ g ∨ ∃ i ∈ ios ars, a ∈ s.φ i) ∧ ds.length = vs.length
  | _, _, _, _, ds, .nil, _, _, _, _, e => by
    have e : ds = [] := (Option.some.inj e).symm
    subst e
    exact ⟨fun _ => [], fun k d h => (by simp at h), fun _ _ => rfl, fun _ => List.Pairwise.nil, fun _ _ _ _ h => (by cases h), fun a ⟨_, h⟩ => (by cases h), rfl⟩
  | _, _, _, _, ds, .v (d := d) (g1 := g1) (g2 := g2) h t, nd, dj, ni, hl, e => by
    obtain ⟨n1, n2, n3⟩ := List.nodup_append.mp nd
    unfold argD at e
    obtain ⟨ds', e1, e2⟩ := Option.map_eq_some_iff.mp e
    subst e2
    obtain ⟨φ0, p1, p2, p3, p4, p5, p6⟩ := entry r hL1 t n2 (fun a q => dj a (List.mem_append.mpr (.inr q))) ni hl e1
    have ex := ovl_ex (H := s.H) (F := B) hL1
    have apart : ∀ a ∈ g1, ¬ O φ0 a := fun a ha q => by
      rcases p5 a q with z | ⟨i, _, z⟩
      · exact n3 a ha a z rfl
      · exact dj a (List.mem_append.mpr (.inl ha)) ⟨i, z⟩
    refine ⟨fun k => match k with | 0 => g1 | k + 1 => φ0 k, fun k d' h' => ?_, fun k hk => ?_, fun k => ?_, fun k l a hn h1 h2 => ?_, fun a ⟨k, q⟩ => ?_, by rw [List.length_cons, List.length_cons, p6]⟩
    · cases k with
      | zero =>
        have z : d = d' := by simpa using h'
        subst z
        exact ⟨_, rfl, h.mono ex (Ex.refl _) fun _ _ _ q => q⟩
      | succ k =>
        obtain ⟨v, q1, q2⟩ := p1 k d' (by simpa using h')
        exact ⟨v, by simpa using q1, q2⟩
    · cases k with
      | zero => rw [List.length_cons] at hk; omega
      | succ k => exact p2 k (by rw [List.length_cons] at hk; omega)
    · cases k with
      | zero => exact n1
      | succ k => exact p3 k
    · cases k with
      | zero =>
        cases l with
        | zero => exact hn rfl
        | succ l => exact apart a h1 ⟨l, h2⟩
      | succ k =>
        cases l with
        | zero => exact apart a h2 ⟨k, h1⟩
        | succ l => exact p4 k l a (fun z => hn (by rw [z])) h1 h2
    · cases k with
      | zero => exact .inl (List.mem_append.mpr (.inl q))
      | succ k => exact (p5 a ⟨k, q⟩).imp (fun z => List.mem_append.mpr (.inr z)) id
  | _, _, _, _, ds, .l (i := i) h t, nd, dj, ni, hl, e => by
    unfold argD at e
    obtain ⟨d0, e0, e⟩ := Option.bind_eq_some_iff.mp e
    obtain ⟨ds', e1, e2⟩ := Option.map_eq_some_iff.mp e
    subst e2
    obtain ⟨φ0, p1, p2, p3, p4, p5, p6⟩ := entry r hL1 t nd dj ni (fun j q => hl j (List.mem_cons_of_mem _ q)) e1
    obtain ⟨v, ev, rp⟩ := r.sl i d0 (slot_some e0)
    rw [h] at ev
    cases ev
    have ex := ovl_ex (H := s.H) (F := B) hL1
    refine ⟨fun k => match k with | 0 => [] | k + 1 => φ0 k, fun k d' h' => ?_, fun k hk => ?_, fun k => ?_, fun k l a hn h1 h2 => ?_, fun a ⟨k, q⟩ => ?_, by rw [List.length_cons, List.length_cons, p6]⟩
    · cases k with
      | zero =>
        have z : mapF flLend d0 = d' := by simpa using h'
        subst z
        exact ⟨_, rfl, rp.lend ex fun a ha o q => by rw [ovl_in (hl i List.mem_cons_self a ha)]; exact q⟩
      | succ k =>
        obtain ⟨v, q1, q2⟩ := p1 k d' (by simpa using h')
        exact ⟨v, by simpa using q1, q2⟩
    · cases k with
      | zero => rfl
      | succ k => exact p2 k (by rw [List.length_cons] at hk; omega)
    · cases k with
      | zero => exact .nil
      | succ k => exact p3 k
    · cases k with
      | zero => cases h1
      | succ k =>
        cases l with
        | zero => cases h2
        | succ l => exact p4 k l a (fun z => hn (by rw [z])) h1 h2
    · cases k with
      | zero => cases q
      | succ k => exact p5 a ⟨k, q⟩
  | _, _, _, _, ds, .io (i := i) h t, nd, dj, ni, hl, e => by
    unfold argD at e
    obtain ⟨d0, e0, e⟩ := Option.bind_eq_some_iff.mp e
    obtain ⟨ds', e1, e2⟩ := Option.map_eq_some_iff.mp e
    subst e2
    obtain ⟨m1, m2⟩ := List.nodup_cons.mp ni
    obtain ⟨φ0, p1, p2, p3, p4, p5, p6⟩ := entry r hL1 t nd dj m2 hl e1
    obtain ⟨v, ev, rp⟩ := r.sl i d0 (slot_some e0)
    rw [h] at ev
    cases ev
    have ex := ovl_ex (H := s.H) (F := B) hL1
    have apart : ∀ a ∈ s.φ i, ¬ O φ0 a := fun a ha q => by
      rcases p5 a q with z | ⟨j, hj, z⟩
      · exact dj a z ⟨i, ha⟩
      · exact r.dj i j a (fun y => m1 (by rw [y]; exact hj)) ha z
    refine ⟨fun k => match k with | 0 => s.φ i | k + 1 => φ0 k, fun k d' h' => ?_, fun k hk => ?_, fun k => ?_, fun k l a hn h1 h2 => ?_, fun a ⟨k, q⟩ => ?_, by rw [List.length_cons, List.length_cons, p6]⟩
    · cases k with
      | zero =>
        have z : d0 = d' := by simpa using h'
        subst z
        exact ⟨_, rfl, rp.mono ex (Ex.refl _) fun _ _ _ q => q⟩
      | succ k =>
        obtain ⟨v, q1, q2⟩ := p1 k d' (by simpa using h')
        exact ⟨v, by simpa using q1, q2⟩
    · cases k with
      | zero => rw [List.length_cons] at hk; omega
      | succ k => exact p2 k (by rw [List.length_cons] at hk; omega)
    · cases k with
      | zero => exact r.nd i
      | succ k => exact p3 k
    · cases k with
      | zero =>
        cases l with
        | zero => exact hn rfl
        | succ l => exact apart a h1 ⟨l, h2⟩
      | succ k =>
        cases l with
        | zero => exact apart a h2 ⟨k, h1⟩
        | succ l => exact p4 k l a (fun z => hn (by rw [z])) h1 h2
    · cases k with
      | zero => exact .inr ⟨i, List.mem_cons_self, q⟩
      | succ k => exact (p5 a ⟨k, q⟩).imp id fun ⟨j, hj, z⟩ => ⟨j, List.mem_cons_of_mem _ hj, z⟩
/-- the slots behind the call -/
theorem wb_at {s : S5} {ρ : En} {φ : Nat → List Addr} : ∀ {ars : List Arg} {ods : List (Option D)} {vs : List V} {g : List Addr} {os : En} {ψ : Nat → List Addr}, Its T B s ars ods vs g → ∀ j : Nat,
    (j ∉ ios ars ∧ (wb ars os ρ)[j]? = ρ[j]? ∧ wbF ars ψ φ j = φ j) ∨
      (j ∈ ios ars ∧ ∃ (k : Nat) (v : V) (tc : List Nat), ars[k]? = some (.io j, tc) ∧ wbF ars ψ φ j = ψ k ∧ vs[k]? = some v ∧ s.σ[j]? = some (some v) ∧ (wb ars os ρ)[j]? = (if j < ρ.length then some ((os[k]?).getD .un) else none))
  | _, _, _, _, os, ψ, .nil, j => .inl ⟨fun h => (by cases h), rfl, rfl⟩
  | _, _, _, _, os, ψ, .v h t, j => by
    rcases wb_at (ρ := ρ) (φ := φ) (os := os.tail) (ψ := fun k => ψ (k + 1)) t j with ⟨h1, h2, h3⟩ | ⟨h1, k, v, tc, h2, h3, h4, h5, h6⟩
    · exact .inl ⟨h1, h2, h3⟩
    · refine .inr ⟨h1, k + 1, v, tc, by simpa using h2, h3, by simpa using h4, h5, ?_⟩
      rw [show wb _ os ρ = wb _ os.tail ρ from rfl, h6, List.getElem?_tail]
  | _, _, _, _, os, ψ, .l h t, j => by
    rcases wb_at (ρ := ρ) (φ := φ) (os := os.tail) (ψ := fun k => ψ (k + 1)) t j with ⟨h1, h2, h3⟩ | ⟨h1, k, v, tc, h2, h3, h4, h5, h6⟩
    · exact .inl ⟨h1, h2, h3⟩
    · refine .inr ⟨h1, k + 1, v, tc, by simpa using h2, h3, by simpa using h4, h5, ?_⟩
      rw [show wb _ os ρ = wb _ os.tail ρ from rfl, h6, List.getElem?_tail]
  | _, _, _, _, os, ψ, .io (i := i) (tc := tc0) (r := r) h t, j => by
    have hlen : ∀ (l : List Arg) (os : En), (wb l os ρ).length = ρ.length := by
      intro l
      induction l with
      | nil => intro _; rfl
      | cons a l ih =>
        intro os
        obtain ⟨a, b⟩ := a
        cases a with
        | v f => exact ih _
        | l i => exact ih _
        | io i =>
          show ((wb l os.tail ρ).set i (hd1 os)).length = _
          rw [List.length_set]
          exact ih _
    by_cases z : j = i
    · subst z
      refine .inr ⟨List.mem_cons_self, 0, _, tc0, rfl, by show (if j = j then ψ 0 else _) = _; rw [if_pos rfl], rfl, h, ?_⟩
      show ((wb r os.tail ρ).set j (hd1 os))[j]? = _
      by_cases hj : j < ρ.length
      · rw [List.getElem?_set_self (by rw [hlen]; exact hj), if_pos hj]
        cases os <;> rfl
      · rw [if_neg hj, List.getElem?_eq_none (by rw [List.length_set, hlen]; omega)]
    · rcases wb_at (ρ := ρ) (φ := φ) (os := os.tail) (ψ := fun k => ψ (k + 1)) t j with ⟨h1, h2, h3⟩ | ⟨h1, k, v, tc, h2, h3, h4, h5, h6⟩
      · refine .inl ⟨fun q => ?_, ?_, ?_⟩
        · rcases List.mem_cons.mp q with q | q
          · exact z q
          · exact h1 q
        · show ((wb r os.tail ρ).set i (hd1 os))[j]? = _
          rw [List.getElem?_set_ne fun e => z e.symm]
          exact h2
        · show (if j = i then ψ 0 else _) = _
          rw [if_neg z]
          exact h3
      · refine .inr ⟨List.mem_cons_of_mem _ h1, k + 1, v, tc, by simpa using h2, ?_, by simpa using h4, h5, ?_⟩
        · show (if j = i then ψ 0 else _) = _
          rw [if_neg z]
          exact h3
        · show ((wb r os.tail ρ).set i (hd1 os))[j]? = _
          rw [List.getElem?_set_ne fun e => z e.symm, h6, List.getElem?_tail]
theorem Step.more {H F H1 F1 : Hp} {O1 O2 O3 : Addr → Prop} (s : Step H F O1 H1 F1 O2) (h : ∀ a, O1 a → O3 a) : Step H F O3 H1 F1 O2 :=
  ⟨fun a o e n => s.keep a o e fun z => n (h a z), s.ext, fun a o e n => (s.fn a o e n).imp (h a) id, fun a q => (s.on a q).imp (h a) id⟩
/-- the caller's state behind the call -/
theorem after {s s' : S5} {ars : List Arg} {ods : List (Option D)} {vs : List V} {g gr : List Addr} {φ0 : Nat → List Addr} {B0 : Hp} {os : En} (r : Okk T B s) (it : ItsT T B s ars ods vs g) (p5 : ∀ a, O φ0 a → a ∈ g ∨ ∃ i ∈ ios ars, a ∈ s.φ i)
    (exB : Ex B s.H) (hB0 : ∀ a, B0 a = none → B a = none) (r' : Okk T B0 s') (e1 : s'.σ = vs.map some) (e2 : s'.ρ = os) (nb : NoB os) (st : Step s.H s.F (O φ0) s'.H s'.F (Or2 (O s'.φ) gr)) :
    Rel T s.σ B s'.H s'.F (wb ars os s.ρ) (wbF ars s'.φ s.φ) ∧ Step s.H s.F (Or2 (O s.φ) g) s'.H s'.F (Or2 (O (wbF ars s'.φ s.φ)) gr) ∧ (∀ j, j ∉ ios ars → (wb ars os s.ρ)[j]? = s.ρ[j]? ∧ wbF ars s'.φ s.φ j = s.φ j ∧ ∀ a ∈ s.φ j, s'.H a = s.H a) := by
  have W2 := fun j => wb_at (s := s) (ρ := s.ρ) (φ := s.φ) (os := os) (ψ := s'.φ) it.its j
  -- other slots' cells are not the callee's
  have far : ∀ j, j ∉ ios ars → ∀ a ∈ s.φ j, ¬ O φ0 a := fun j hj a ha q => by
    rcases p5 a q with z | ⟨i, hi, z⟩
    · exact it.dj a z ⟨j, ha⟩
    · exact r.dj i j a (fun y => hj (by rw [← y]; exact hi)) z ha
  have farB : ∀ a o, B a = some o → ¬ O φ0 a := fun a o e q => by
    rcases p5 a q with z | ⟨i, _, z⟩
    · rw [(it.ap a z).2] at e; cases e
    · rw [(r.ap i a z).2] at e; cases e
  have keepB : Ex B s'.H := fun a o e => (st.keep a o (exB a o e) (farB a o e)).st (r.xt.ntB a o e)
  -- a cell of another slot is not one of the callee's new ones
  have new : ∀ j, j ∉ ios ars → ∀ a ∈ s.φ j, ¬ O s'.φ a ∧ a ∉ gr ∧ s'.F a = none := fun j hj a ha => by
    obtain ⟨o, e⟩ := r.dom ⟨j, ha⟩
    have n : ¬ (O φ0 a ∨ s.H a = none) := fun z => z.elim (far j hj a ha) fun z => by rw [e] at z; cases z
    refine ⟨fun q => n (st.on a (.inl q)), fun q => n (st.on a (.inr q)), ?_⟩
    cases ef : s'.F a with
    | none => rfl
    | some o' => exact absurd (st.fn a o' ef (r.ap j a ha).1) n
  have len : (wb ars os s.ρ).length = s.ρ.length := by
    have z : ∀ (l : List Arg) (os : En), (wb l os s.ρ).length = s.ρ.length := by
      intro l
      induction l with
      | nil => intro _; rfl
      | cons a l ih =>
        intro os
        obtain ⟨a, b⟩ := a
        cases a with
        | v f => exact ih _
        | l i => exact ih _
        | io i =>
          show ((wb l os.tail s.ρ).set i (hd1 os)).length = _
          rw [List.length_set]
          exact ih _
    exact z ars os
  have ioAt : ∀ (k : Nat) x, os[k]? = some x → s'.ρ[k]? = some x := fun k x h => by rw [e2]; exact h
  refine ⟨⟨len.trans r.len, keepB, r'.exF, r'.exP, fun j d q => ?_, fun j q => ?_, fun j q => ?_, fun j => ?_, fun j k a hn h1 h2 => ?_, fun j a h => ?_, ⟨r'.xt.ntF, r.xt.ntB, r'.xt.tb, r'.xt.ta⟩⟩, ⟨?_, st.ext, ?_, ?_⟩, fun j hj => ?_⟩
  · -- a slot's data
    rcases W2 j with ⟨h1, h2, h3⟩ | ⟨h1, k, v, tc, h2, h3, h4, h5, h6⟩
    · rw [h2] at q
      obtain ⟨v, e, rp⟩ := r.sl j d q
      rw [h3]
      exact ⟨v, e, rp.mono (Ex.refl B) st.ext fun a ha o e => (st.keep a o e (far j h1 a ha)).st (rp.nt a ha o e)⟩
    · rw [h6] at q
      split at q
      · have q := Option.some.inj q
        cases eo : os[k]? with
        | none => rw [eo] at q; cases q
        | some x =>
          rw [eo, Option.getD_some] at q
          subst q
          obtain ⟨v', e, rp⟩ := r'.sl k d (ioAt k _ eo)
          rw [e1, List.getElem?_map, h4] at e
          cases e
          rw [h3]
          exact ⟨v, h5, rp.noB (nb k d eo)⟩
      · cases q
  · rcases W2 j with ⟨h1, h2, h3⟩ | ⟨h1, k, v, tc, h2, h3, h4, h5, h6⟩
    · rw [h2] at q
      exact r.xn j q
    · rw [h6] at q
      split at q
      · have q := Option.some.inj q
        cases eo : os[k]? with
        | none => rw [eo] at q; cases q
        | some x =>
          rw [eo, Option.getD_some] at q
          subst q
          obtain ⟨a, ea, eb⟩ := r'.xn k (ioAt k _ eo)
          rw [e1, List.getElem?_map, h4] at eb
          cases eb
          exact ⟨a, ea, h5⟩
      · cases q
  · rcases W2 j with ⟨h1, h2, h3⟩ | ⟨h1, k, v, tc, h2, h3, h4, h5, h6⟩
    · rw [h2] at q
      rw [h3]
      exact r.em j q
    · rw [h3]
      refine r'.em k fun d z => ?_
      rw [e2] at z
      rw [h6, z] at q
      have hj : j < s.ρ.length := by
        rw [r.len]
        exact (List.getElem?_eq_some_iff.mp h5).1
      rw [if_pos hj] at q
      exact q d rfl
  · rcases W2 j with ⟨h1, h2, h3⟩ | ⟨h1, k, v, tc, h2, h3, h4, h5, h6⟩
    · rw [h3]; exact r.nd j
    · rw [h3]; exact r'.nd k
  · rcases W2 j with ⟨x1, x2, x3⟩ | ⟨x1, kj, v, tc, x2, x3, x4, x5, x6⟩
    · rw [x3] at h1
      rcases W2 k with ⟨y1, y2, y3⟩ | ⟨y1, kk, w, tc', y2, y3, y4, y5, y6⟩
      · rw [y3] at h2
        exact r.dj j k a hn h1 h2
      · rw [y3] at h2
        exact (new j x1 a h1).1 ⟨kk, h2⟩
    · rw [x3] at h1
      rcases W2 k with ⟨y1, y2, y3⟩ | ⟨y1, kk, w, tc', y2, y3, y4, y5, y6⟩
      · rw [y3] at h2
        exact (new k y1 a h2).1 ⟨kj, h1⟩
      · rw [y3] at h2
        refine r'.dj kj kk a (fun z => hn ?_) h1 h2
        subst z
        rw [x2] at y2
        cases y2
        rfl
  · rcases W2 j with ⟨x1, x2, x3⟩ | ⟨x1, kj, v, tc, x2, x3, x4, x5, x6⟩
    · rw [x3] at h
      exact ⟨(new j x1 a h).2.2, (r.ap j a h).2⟩
    · rw [x3] at h
      exact ⟨(r'.ap kj a h).1, hB0 a (r'.ap kj a h).2⟩
  · exact fun a o e n => st.keep a o e fun q => n ((p5 a q).elim .inr fun ⟨i, _, z⟩ => .inl ⟨i, z⟩)
  · exact fun a o e n => (st.fn a o e n).imp (fun q => (p5 a q).elim .inr fun ⟨i, _, z⟩ => .inl ⟨i, z⟩) id
  · intro a q
    rcases q with ⟨j, q⟩ | q
    · rcases W2 j with ⟨x1, x2, x3⟩ | ⟨x1, kj, v, tc, x2, x3, x4, x5, x6⟩
      · rw [x3] at q
        exact .inl (.inl ⟨j, q⟩)
      · rw [x3] at q
        exact (st.on a (.inl ⟨kj, q⟩)).imp (fun q => (p5 a q).elim .inr fun ⟨i, _, z⟩ => .inl ⟨i, z⟩) id
    · exact (st.on a (.inr q)).imp (fun q => (p5 a q).elim .inr fun ⟨i, _, z⟩ => .inl ⟨i, z⟩) id
  · rcases W2 j with ⟨x1, x2, x3⟩ | ⟨x1, _⟩
    · refine ⟨x2, x3, fun a ha => ?_⟩
      obtain ⟨o, e⟩ := r.dom ⟨j, ha⟩
      rw [e]
      exact (st.keep a o e (far j hj a ha)).st (r.ntO ⟨j, ha⟩ e)
    · exact absurd x1 hj
def callD (m : List D → Res) (ars : List Arg) (ods : List (Option D)) : M D := fun ρ => match argD ρ ars ods with
  | none => .bad
  | some ds => match m ds with
    | .ok d os => .ok d (wb ars os ρ)
    | .exc c ks xs os => .exc c ks xs (wb ars os ρ)
    | .bad => .bad
theorem call_fin {m : List D → Res} {ars : List Arg} {s s1 : S5} {ods : List (Option D)} {vs : List V} {g : List Addr} {Q : VK} (hn : (ios ars).Nodup) (hl : ∀ i ∈ lns ars, i ∉ ios ars) (r1 : Okk T B s1) (e3 : s1.σ = s.σ) (it : ItsT T B s1 ars ods vs g) (a : Goes (tcs ars) s s1 g)
    (h : Post (okE T B (tcs ars ++ ios ars) s Q) (exE T W B (tcs ars ++ ios ars) s) (callD m ars ods s1.ρ)) : spM T m vs s1.H Q (WE W s.σ) := by
  have hL1 : ∀ x ∈ (lns ars).flatMap s1.φ, B x = none := fun x hx => by
    obtain ⟨i, _, hi⟩ := List.mem_flatMap.mp hx
    exact (r1.ap i x hi).2
  have h : Post (okE T B (tcs ars ++ ios ars) s Q) (exE T W B (tcs ars ++ ios ars) s) (match argD s1.ρ ars ods with
    | none => .bad
    | some ds => match m ds with
      | .ok d os => .ok d (wb ars os s1.ρ)
      | .exc c ks xs os => .exc c ks xs (wb ars os s1.ρ)
      | .bad => .bad) := h
  cases ed : argD s1.ρ ars ods with
  | none => rw [ed] at h; exact h.elim
  | some ds =>
    rw [ed] at h
    obtain ⟨φ0, p1, p2, p3, p4, p5, p6⟩ := entry r1 hL1 it.its it.nd it.dj hn (fun i hi x hx => List.mem_flatMap.mpr ⟨i, hi, hx⟩) ed
    have exB0 : Ex (ovl s1.H B ((lns ars).flatMap s1.φ)) s1.H := ovl_sub r1.exB
    have hB0 : ∀ x, ovl s1.H B ((lns ars).flatMap s1.φ) x = none → B x = none := fun x e => by
      by_cases z : x ∈ (lns ars).flatMap s1.φ
      · exact hL1 x z
      · rw [ovl_out z] at e; exact e
    have apart : ∀ x, O φ0 x → x ∉ (lns ars).flatMap s1.φ := fun x q z => by
      obtain ⟨i, hi, hx⟩ := List.mem_flatMap.mp z
      rcases p5 x q with y | ⟨j, hj, y⟩
      · exact it.dj x y ⟨i, hx⟩
      · exact r1.dj i j x (fun w => hl i hi (by rw [w]; exact hj)) hx y
    let s2 : S5 := { σ := vs.map some, H := s1.H, F := s1.F, ρ := ds.map Sl.dt, φ := φ0 }
    have r2 : Okk T (ovl s1.H B ((lns ars).flatMap s1.φ)) s2 := by
      refine ⟨by show (ds.map Sl.dt).length = (vs.map some).length; rw [List.length_map, List.length_map, p6], exB0, r1.exF, r1.exP, fun k d q => ?_, fun k q => ?_, fun k q => ?_, p3, p4, fun k x q => ?_, r1.xt.ovlB fun a ha o e => by
        obtain ⟨j, _, hj⟩ := List.mem_flatMap.mp ha
        exact r1.ntO ⟨j, hj⟩ e⟩
      · have q : (ds.map Sl.dt)[k]? = some (.dt d) := q
        rw [List.getElem?_map] at q
        cases e : ds[k]? with
        | none => rw [e] at q; cases q
        | some d' =>
          rw [e] at q
          cases q
          obtain ⟨v, q1, q2⟩ := p1 k d e
          exact ⟨v, by show (vs.map some)[k]? = _; rw [List.getElem?_map, q1]; rfl, q2⟩
      · have q : (ds.map Sl.dt)[k]? = some .exn := q
        rw [List.getElem?_map] at q
        cases e : ds[k]? with
        | none => rw [e] at q; cases q
        | some d' => rw [e] at q; cases q
      · refine p2 k ?_
        cases e : ds[k]? with
        | none => exact List.getElem?_eq_none_iff.mp e
        | some d' =>
          refine absurd ?_ (q d')
          show (ds.map Sl.dt)[k]? = _
          rw [List.getElem?_map, e]
          rfl
      · have na : x ∉ (lns ars).flatMap s1.φ := apart x ⟨k, q⟩
        rcases p5 x ⟨k, q⟩ with z | ⟨i, _, z⟩
        · exact ⟨(it.ap x z).1, by rw [ovl_out na]; exact (it.ap x z).2⟩
        · exact ⟨(r1.ap i x z).1, by rw [ovl_out na]; exact (r1.ap i x z).2⟩
    refine ⟨_, s2, ds, rfl, rfl, rfl, r2, ?_⟩
    dsimp only at h
    cases em : m ds with
    | bad => rw [em] at h; exact h.elim
    | ok d os =>
      rw [em] at h
      intro v s' gr x1 x2 r' t nd nb st
      obtain ⟨q1, q2, q3⟩ := after r1 it p5 r1.exB hB0 r' x2 x1 nb st
      refine h v { σ := s1.σ, H := s'.H, F := s'.F, ρ := wb ars os s1.ρ, φ := wbF ars s'.φ s1.φ } gr rfl e3 q1 ⟨t.rep.noB nd, t.nd, fun x hx => ⟨(t.ap x hx).1, hB0 x (t.ap x hx).2⟩, fun x hx q => ?_⟩ ⟨a.step.trans q2, fun j hj => ?_, fun j hj => ?_⟩
      · obtain ⟨j, q⟩ := q
        rcases wb_at (s := s1) (ρ := s1.ρ) (φ := s1.φ) (os := os) (ψ := s'.φ) it.its j with ⟨y1, y2, y3⟩ | ⟨y1, k, w, tc, y2, y3, y4, y5, y6⟩
        · have q : x ∈ wbF ars s'.φ s1.φ j := q
          rw [y3] at q
          obtain ⟨o, e⟩ := r1.dom ⟨j, q⟩
          rcases st.on x (.inr hx) with z | z
          · rcases p5 x z with z | ⟨i, hi, z⟩
            · exact it.dj x z ⟨j, q⟩
            · exact r1.dj i j x (fun y => y1 (by rw [← y]; exact hi)) z q
          · rw [show s2.H x = s1.H x from rfl, e] at z; cases z
        · have q : x ∈ wbF ars s'.φ s1.φ j := q
          rw [y3] at q
          exact t.dj x hx ⟨k, q⟩
      · obtain ⟨b1, b2, b3⟩ := a.fix j fun z => hj (memL z)
        obtain ⟨c1, c2, c3⟩ := q3 j fun z => hj (memR z)
        exact ⟨c1.trans b1, c2.trans b2, fun x hx => (c3 x (by rw [b2]; exact hx)).trans (b3 x hx)⟩
      · exact a.sg j fun z => hj (memL z)
    | exc c ks xs os =>
      rw [em] at h
      intro cls dd s' x1 x2 r' xr nb st
      obtain ⟨q1, q2, q3⟩ := after r1 it p5 r1.exB hB0 r' x2 x1 nb st.or0
      have z := h cls dd { σ := s1.σ, H := s'.H, F := s'.F, ρ := wb ars os s1.ρ, φ := wbF ars s'.φ s1.φ } rfl e3 q1 xr ⟨a.step.trans q2, fun j hj => ?_, fun j hj => ?_⟩
      · show W cls dd s.σ s'.H
        rw [← e3]
        exact z
      · obtain ⟨b1, b2, b3⟩ := a.fix j fun z => hj (memL z)
        obtain ⟨c1, c2, c3⟩ := q3 j fun z => hj (memR z)
        exact ⟨c1.trans b1, c2.trans b2, fun x hx => (c3 x (by rw [b2]; exact hx)).trans (b3 x hx)⟩
      · exact a.sg j fun z => hj (memL z)
def dCall (m : List D → Res) (ars : List Arg) : M D := bnd (dArs ars) fun ods => callD m ars ods
theorem call_core {m : List D → Res} {ars : List Arg} {σ : L2.St} {H : Hp} {Q : VK} (hn : (ios ars).Nodup) (hl : ∀ i ∈ lns ars, i ∉ ios ars) (h : tD T W (tcs ars ++ ios ars) (dCall m ars) σ H Q) : tCallS (spM T m) (WE W) (tRs T W ars) σ H Q := by
  obtain ⟨B, s, e1, e2, r, hp⟩ := h
  subst e1 e2
  exact args_core (s0 := s) (u := []) (g0 := []) Goes.refl rfl (fun _ h => by cases h) (fun j q => memL q) r hp fun ods vs s1 g r1 e3 it a h => call_fin hn hl r1 e3 it a h
end
section
variable {X : Cx} {G : Gx} {W : WX} {tc : List Nat} {a e : Expr} {es : List Expr} {pos p : Pos}
abbrev GR (X : Cx) (G : Gx) (W : WX) (es : List Expr) (ars : List Arg) : Prop := PA X es (tRs (tx X G) W ars)
theorem gr_nil : GR X G W [] [] := pa_nil
theorem gr_v {f : M D} {ars : List Arg} (h1 : GE X G W tc a f) (h2 : GR X G W es ars) (hs : starEach (a :: es) X.env = (false, eval a X.env) :: starEach es X.env := by rfl) : GR X G W (a :: es) ((.v f, tc) :: ars) := pa_cons h1 h2 hs
theorem gr_l {i : Nat} {ars : List Arg} (h1 : PE X a (tVar i)) (h2 : GR X G W es ars) (hs : starEach (a :: es) X.env = (false, eval a X.env) :: starEach es X.env := by rfl) : GR X G W (a :: es) ((.l i, []) :: ars) := pa_cons h1 h2 hs
theorem gr_io {i : Nat} {ars : List Arg} (h1 : PE X a (tVar i)) (h2 : GR X G W es ars) (hs : starEach (a :: es) X.env = (false, eval a X.env) :: starEach es X.env := by rfl) : GR X G W (a :: es) ((.io i, []) :: ars) := pa_cons h1 h2 hs
/-- f(e, ..), f an own def with the meaning m -/
theorem g_call {k : Nat} {f : Addr} {fd : FuncData} {ps : List Str} {m : List D → Res} {x : Str} {ars : List Arg} (tk : L2N.Takes X W) (F : FnOk X.prog X.w X.K X.mg X.base (L2N.CX X.prog X.w) k f fd ps (spM (tx X G) m)) (hr : Room k X.A) (hg : Gl X x) (hm : X.mg x = some (.ref f)) (hk : PySem.W.keepIn X.K (.ref f) = true) (hb : Binds X.K fd ps [])
    (ha : GR X G W (e :: es) ars) (hn : (ios ars).Nodup := by decide) (hl : ∀ i ∈ lns ars, i ∉ ios ars := by decide) (hdb : (x == ("__debug__" : Str)) = false := by decide) (he : starEach (e :: es) X.env = (false, eval e X.env) :: starEach es X.env := by rfl) (hpl : (backTo pos (starEach es X.env)).any (·.1) = false := by rfl) :
    GE X G W (tcs ars ++ ios ars) (.Call (.Name x p) (e :: es) [] pos) (dCall m ars) :=
  pe_mono (pe_callS F hr hg hm hk hb (fun σ => L2N.passAt tk σ) ha hdb he hpl) fun σ H Q h => call_core hn hl h
end
end Cs
namespace Cs
open PySem L2 Evl PyProof.Rows

/-! ## what is walked -/
structure Src (T : Tx) (B : Hp) (J : It) (n : Nat) (Gd : Hp → Prop) (Y : Nat → Hp → V → Hp → Prop) (F0 : Hp) (items : List D) : Prop where
  w : Walk J n Gd Y
  len : items.length = n
  g : ∀ s : S5, Okk T B s → Ex F0 s.F → Gd s.H
  y : ∀ (i : Nat) (x : V) (H' : Hp) (s : S5), i < n → Okk T B s → Ex F0 s.F → Y i s.H x H' → ∃ d s', items[i]? = some d ∧ s'.H = H' ∧ s'.σ = s.σ ∧ s'.ρ = s.ρ ∧ Okk T B s' ∧ Goes [] s s' [] ∧ Rep T B s'.H s'.F d x []
def okI (T : Tx) (B : Hp) (tc : List Nat) (s : S5) (R : It → Hp → Prop) : List D → En → Prop := fun ds ρ => ∀ J n Gd Y s', s'.ρ = ρ → s'.σ = s.σ → Okk T B s' → Goes tc s s' [] → Src T B J n Gd Y s'.F ds → R J s'.H
def tDI (T : Tx) (W : WX) (tc : List Nat) (f : M (List D)) : TI := fun σ H R => ∃ B s, s.σ = σ ∧ s.H = H ∧ Okk T B s ∧ Post (okI T B tc s R) (exE T W B tc s) (f s.ρ)
abbrev GI (X : Cx) (G : Gx) (W : WX) (tc : List Nat) (tg iter : Expr) (f : M (List D)) : Prop := PI X tg iter (tDI (tx X G) W tc f)
theorem pi_mono {X : Cx} {tg e : Expr} {t t' : TI} (h : PI X tg e t) (i : ∀ σ H R, t' σ H R → t σ H R) : PI X tg e t' := ⟨fun pins s σ H R I q => h.run pins s σ H R I (i σ H R q)⟩
theorem pi_alt {X : Cx} {tg e : Expr} {t u : TI} (h1 : PI X tg e t) (h2 : PI X tg e u) : PI X tg e (fun σ H R => t σ H R ∨ u σ H R) := ⟨fun pins s σ H R I q => q.elim (h1.run pins s σ H R I) (h2.run pins s σ H R I)⟩
def signs (z : Str) : List D := z.cps.toList.map fun c => .str ⟨#[c]⟩
def itemsOf : D → Option (List D)
  | .lst _ xs => some xs
  | .tup xs => some xs
  | .str z => some (signs z)
  | _ => none
/-- a value that is walked: frozen first -/
def dIt (f : M D) : M (List D) := bnd (dFz f) fun d => match itemsOf d with
  | some ds => ret ds
  | none => bad
mutual
theorem frz_noOw : ∀ d : D, allF noOw (mapF flFrz d) = true
  | .non => by rw [mapF, allF]
  | .bl _ => by rw [mapF, allF]
  | .int _ => by rw [mapF, allF]
  | .str _ => by rw [mapF, allF]
  | .cls _ => by rw [mapF, allF]
  | .tup xs => by rw [mapF, allF]; exact frzs_noOw xs
  | .lst o xs => by rw [mapF, allF, frzs_noOw xs]; cases o <;> rfl
  | .dct o ks xs => by rw [mapF, allF, frzs_noOw xs]; cases o <;> rfl
  | .obj o c ks xs => by rw [mapF, allF, frzs_noOw xs]; cases o <;> rfl
theorem frzs_noOw : ∀ ds : List D, allFs noOw (mapFs flFrz ds) = true
  | [] => by rw [mapFs, allFs]
  | d :: ds => by rw [mapFs, allFs, frz_noOw d, frzs_noOw ds]; rfl
end
theorem Rep.listS {T : Tx} {B H F : Hp} {o : Fl} {ds : List D} {v : V} (r : Rep T B H F (.lst o ds) v []) : ∃ a vs, v = .ref a ∧ Reps T B H F ds vs [] ∧ ∀ H2 F2, Ex F F2 → Ex F2 H2 → Ex B H2 → SqL T.K H2 a vs := by
  cases r with
  | lstF h r => exact ⟨_, _, rfl, r, fun H2 F2 e1 e2 _ => sq_of (e2 _ _ (e1 _ _ h))⟩
  | lstR h r => exact ⟨_, _, rfl, r, fun H2 F2 e1 e2 _ => ex_l e2 (ex_l e1 h)⟩
  | lstB h r => exact ⟨_, _, rfl, r, fun H2 F2 _ _ e => sq_of (e _ _ h)⟩
  | lstO h r e => cases e
theorem Rep.tupS {T : Tx} {B H F : Hp} {ds : List D} {v : V} (r : Rep T B H F (.tup ds) v []) : ∃ a vs, v = .ref a ∧ Reps T B H F ds vs [] ∧ ∀ H2 F2, Ex F F2 → Ex F2 H2 → SqT T.K H2 a vs := by
  cases r with
  | tup h r => exact ⟨_, _, rfl, r, fun H2 F2 e1 e2 => ex_t e2 (ex_t e1 h.sq)⟩
section
variable {T : Tx} {B : Hp} {s : S5}
theorem Reps.get0 {H F : Hp} {i : Nat} {d : D} : ∀ {ds : List D} {vs : List V}, Reps T B H F ds vs [] → ds[i]? = some d → ∃ v, vs[i]? = some v ∧ Rep T B H F d v [] := by
  intro ds
  induction ds generalizing i with
  | nil => intro vs _ b; simp at b
  | cons x ds ih =>
    intro vs a b
    cases a with
    | cons r rs e =>
      obtain ⟨e1, e2⟩ := List.append_eq_nil_iff.mp e.symm
      subst e1 e2
      cases i with
      | zero =>
        have e1 : x = d := by simpa using b
        subst e1
        exact ⟨_, rfl, r⟩
      | succ i =>
        obtain ⟨v, h1, h2⟩ := ih rs (by simpa using b)
        exact ⟨v, by simpa using h1, h2⟩
theorem src_at {a : Addr} {vs : List V} {ds : List D} {J : It} {Gd : Hp → Prop} (w : Walk J vs.length Gd (YAt vs)) (h : ∀ s1 : S5, Okk T B s1 → Ex s.F s1.F → Gd s1.H) (rp : Reps T B s.H s.F ds vs []) : Src T B J vs.length Gd (YAt vs) s.F ds := by
  refine ⟨w, rp.len, fun s1 r e => h s1 r e, fun i x H' s1 hi r e y => ?_⟩
  obtain ⟨e1, e2⟩ := y
  cases ed : ds[i]? with
  | none =>
    rw [List.getElem?_eq_none_iff, rp.len] at ed
    rw [List.getElem?_eq_none ed] at e2
    cases e2
  | some d =>
    obtain ⟨v, q1, q2⟩ := (rp.mono (H' := s1.H) (Ex.refl B) e fun a q => (by cases q)).get0 ed
    rw [e2] at q1
    cases q1
    exact ⟨d, s1, rfl, e1.symm, rfl, rfl, r, Goes.refl, q2⟩
def rng (lo : Int) (n : Nat) : List D := (List.range n).map fun (i : Nat) => .int (lo + (i : Int))
theorem src_range {lo : Int} {n : Nat} : Src T B (Itr lo n) n (fun _ => True) (YFn fun i => .int (lo + i)) s.F (rng lo n) := by
  refine ⟨walk_range, by simp [rng], fun _ _ _ => trivial, fun i x H' s1 hi r e y => ?_⟩
  obtain ⟨e1, e2⟩ := y
  subst e2
  exact ⟨.int (lo + (i : Int)), s1, by simp [rng, hi], e1.symm, rfl, rfl, r, Goes.refl, .int _⟩
theorem src_str {z : Str} (hz : PyData.strOk z = true) : Src T B (L2.Its z) z.cps.size (fun _ => True) (fun i H v H' => H' = H ∧ ∃ c, z.cps[i]? = some c ∧ v = .str ⟨#[c]⟩) s.F (signs z) := by
  refine ⟨walk_str, by simp [signs], fun _ _ _ => trivial, fun i x H' s1 hi r e y => ?_⟩
  obtain ⟨e1, c, ec, e2⟩ := y
  subst e2
  refine ⟨.str ⟨#[c]⟩, s1, by simp [signs, ec], e1.symm, rfl, rfl, r, Goes.refl, .str _ (strOk_sign hz ?_)⟩
  exact Array.mem_def.mp (Array.mem_of_getElem? ec)
end

section
variable {X : Cx} {G : Gx} {W : WX} {tc t1 t2 : List Nat} {tg e a b : Expr} {pos p : Pos} {f u w : M D}
theorem dFz_frz {f : M D} {ρ ρ1 : En} {d : D} (h : dFz f ρ = .ok d ρ1) : allF noOw d = true := by
  unfold dFz at h
  cases e : f ρ with
  | bad => rw [bnd_bad e] at h; cases h
  | exc c ks xs ρ' => rw [bnd_exc e] at h; cases h
  | ok d' ρ' =>
    rw [bnd_ok e] at h
    cases h
    exact frz_noOw d'
/-- for .. in e, e a list, a tuple or a text -/
theorem gi_seq (h0 : GE X G W tc e f) : GI X G W tc tg e (dIt f) := by
  have h := g_fz h0
  refine pi_mono (pi_alt (pi_list h) (pi_alt (pi_tup h) (pi_str h))) fun σ H R ⟨B, s, e1, e2, rl, hp⟩ => ?_
  subst e1 e2
  -- which kind
  cases ef : dFz f s.ρ with
  | bad => unfold dIt at hp; rw [bnd_bad ef] at hp; exact hp.elim
  | exc c ks xs ρ =>
    unfold dIt at hp
    rw [bnd_exc ef] at hp
    exact .inl ⟨B, s, rfl, rfl, rl, by rw [ef]; exact hp⟩
  | ok d ρ =>
    have hp' := hp
    unfold dIt at hp'
    rw [bnd_ok ef] at hp'
    have hn := dFz_frz ef
    cases d with
    | lst o xs =>
      refine .inl (seqE1 rl hp fun d v s1 g ed hs r1 t a h => ?_)
      rw [ef] at ed
      cases ed
      have z := rep_v t.rep hn
      obtain ⟨p, vs, rfl, rp, sq⟩ := z.listS
      exact ⟨p, rfl, ⟨vs, sq s1.H s1.F (Ex.refl _) r1.exF r1.exB⟩, h _ _ _ _ s1 rfl hs r1 a.drop0 (src_at (a := p) walk_list (fun s3 r3 e3 => sq s3.H s3.F e3 r3.exF r3.exB) rp)⟩
    | tup xs =>
      refine .inr (.inl (seqE1 rl hp fun d v s1 g ed hs r1 t a h => ?_))
      rw [ef] at ed
      cases ed
      have z := rep_v t.rep hn
      obtain ⟨p, vs, rfl, rp, sq⟩ := z.tupS
      exact ⟨p, rfl, ⟨vs, sq s1.H s1.F (Ex.refl _) r1.exF⟩, h _ _ _ _ s1 rfl hs r1 a.drop0 (src_at (a := p) walk_tup (fun s3 r3 e3 => sq s3.H s3.F e3 r3.exF) rp)⟩
    | str z =>
      refine .inr (.inr (seqE1 rl hp fun d v s1 g ed hs r1 t a h => ?_))
      rw [ef] at ed
      cases ed
      obtain ⟨rp, _, _, _⟩ := t
      cases rp with
      | str _ hz => exact ⟨z, rfl, h _ _ _ _ s1 rfl hs r1 a.drop0 (src_str hz)⟩
    | _ => exact hp'.elim
def dRg1 (f : M D) : M (List D) := bnd f fun d => match d with
  | .int j => if -1000000 ≤ j ∧ j ≤ 1000000 then ret (rng 0 j.toNat) else bad
  | _ => bad
def dRg2 (f g : M D) : M (List D) := bnd f fun d => bnd g fun e => match d, e with
  | .int i, .int j => if (-1000000 ≤ i ∧ i ≤ 1000000) ∧ -1000000 ≤ j ∧ j ≤ 1000000 then ret (rng i (j - i).toNat) else bad
  | _, _ => bad
theorem gi_range1 (hg : Gl X "range") (hm : X.mg "range" = none) (ha : GE X G W tc a f) (hs : starEach [a] X.env = [(false, eval a X.env)] := by rfl) : GI X G W tc tg (.Call (.Name "range" p) [a] [] pos) (dRg1 f) :=
  pi_mono (pi_range1 hg hm (pa_cons ha pa_nil hs) hs) fun σ H R ⟨B, s, e1, e2, rl, hp⟩ => by
    subst e1 e2
    refine seqE1 rl hp fun d v s1 g _ hs r1 t a h => ?_
    cases d with
    | int j =>
      obtain ⟨rp, _, _, _⟩ := t
      cases rp
      dsimp only at h
      split at h
      · rename_i hj
        exact ⟨j, rfl, by omega, by omega, h _ _ _ _ s1 rfl hs r1 a.drop0 src_range⟩
      · exact h.elim
    | _ => exact h.elim
theorem gi_range2 (hg : Gl X "range") (hm : X.mg "range" = none) (h1 : GE X G W t1 a u) (h2 : GE X G W t2 b w) (hs : starEach [a, b] X.env = [(false, eval a X.env), (false, eval b X.env)] := by rfl) (hs2 : starEach [b] X.env = [(false, eval b X.env)] := by rfl) : GI X G W (t1 ++ t2) tg (.Call (.Name "range" p) [a, b] [] pos) (dRg2 u w) :=
  pi_mono (pi_range2 hg hm (pa_cons h1 (pa_cons h2 pa_nil hs2) (hs.trans (by rw [hs2]))) hs hs2) fun σ H R ⟨B, s, e1, e2, rl, hp⟩ => by
    subst e1 e2
    refine seqE rl hp fun d v s1 g _ hs r1 t a h => ?_
    show tD _ _ _ _ s.σ s1.H _
    rw [← hs]
    refine seqE2 a hs r1 h fun d2 v2 s2 g2 _ hs2 r2 t2 a2 h => ?_
    cases d with
    | int i =>
      cases d2 with
      | int j =>
        obtain ⟨rp, _, _, _⟩ := t
        cases rp
        obtain ⟨rp, _, _, _⟩ := t2
        cases rp
        dsimp only at h
        split at h
        · rename_i hj
          exact ⟨i, j, rfl, ⟨by omega, by omega, by omega, by omega⟩, h _ _ _ _ s2 rfl (hs2.trans hs) r2 (a.trans a2).drop0 src_range⟩
        · exact h.elim
      | _ => exact h.elim
    | _ => exact h.elim
end

/-! ## targets -/
inductive Tg where
  | one (j : Nat)
  | tup (js : List Nat)
def slots : List Nat → List Nat
  | [] => []
  | j :: js => j :: (j + 1000) :: slots js
def Tg.tc : Tg → List Nat
  | .one j => slots [j]
  | .tup js => slots js
def dPuts : List Nat → List D → M Flw
  | [], [] => ret .nx
  | j :: js, d :: ds => fun ρ => if j < ρ.length then dPuts js ds (ρ.set j (.dt d)) else .bad
  | _, _ => bad
def dTg : Tg → D → M Flw
  | .one j, d => dPuts [j] [d]
  | .tup js, .tup ds => dPuts js ds
  | .tup _, _ => bad
def gNames : List Nat → TGs
  | [] => gNil
  | j :: js => gCons (gName j) (gNames js)
def tgR (K : PySem.W.Frag) : Tg → TG
  | .one j => gName j
  | .tup js => gTup K js.length (gNames js)
section
variable {T : Tx} {B : Hp}
theorem puts_core {K1 : L2.St → Hp → Prop} : ∀ {js : List Nat} {ds : List D} {vs : List V} {s : S5} {ρ2 : En}, Okk T B s → Reps T B s.H s.F ds vs [] → dPuts js ds s.ρ = .ok .nx ρ2 → (∀ s2 : S5, s2.ρ = ρ2 → s2.H = s.H → s2.F = s.F → Okk T B s2 → Goes (slots js) s s2 [] → K1 s2.σ s2.H) → gNames js vs s.σ s.H K1
  | [], [], _, s, ρ2, r, .nil, e, h => by
    cases e
    exact ⟨rfl, h s rfl rfl rfl r Goes.refl⟩
  | j :: js, d :: ds, _, s, ρ2, r, .cons (v := v) (vs := vs) r1 rs e0, e, h => by
    obtain ⟨e1, e2⟩ := List.append_eq_nil_iff.mp e0.symm
    subst e1 e2
    unfold dPuts at e
    split at e
    · rename_i hj
      have r2 : Okk T B (s.put j v d []) := r.put (Tmp.flat r1) hj
      have g2 : Goes [j, j + 1000] s (s.put j v d []) [] := Goes.put (tc := []) (Goes.refl)
      refine ⟨v, vs, rfl, puts_core (s := s.put j v d []) r2 rs e fun s2 q1 q2 q3 q4 q5 => h s2 q1 q2 q3 q4 (g2.trans0 q5)⟩
    · cases e
  | [], _ :: _, _, _, _, _, _, e, _ => by cases e
  | _ :: _, [], _, _, _, _, _, e, _ => by cases e
theorem tg_core {K1 : L2.St → Hp → Prop} {tg : Tg} {d : D} {v : V} {s : S5} {ρ2 : En} (r : Okk T B s) (rp : Rep T B s.H s.F d v []) (e : dTg tg d s.ρ = .ok .nx ρ2) (h : ∀ s2 : S5, s2.ρ = ρ2 → s2.H = s.H → s2.F = s.F → Okk T B s2 → Goes tg.tc s s2 [] → K1 s2.σ s2.H) : tgR T.K tg v s.σ s.H K1 := by
  cases tg with
  | one j =>
    have z := puts_core (js := [j]) (ds := [d]) (vs := [v]) r (.cons rp .nil rfl) e h
    obtain ⟨v', r', e', q⟩ := z
    cases e'
    exact q.2
  | tup js =>
    cases d with
    | tup ds =>
      obtain ⟨a, vs, rfl, rs, sq⟩ := rp.tupS
      have hl : ∀ {js : List Nat} {ds : List D} {ρ ρ2 : En}, dPuts js ds ρ = .ok .nx ρ2 → js.length = ds.length := by
        intro js
        induction js with
        | nil => intro ds ρ ρ2 h; cases ds with
          | nil => rfl
          | cons _ _ => cases h
        | cons j js ih => intro ds ρ ρ2 h; cases ds with
          | nil => cases h
          | cons d ds =>
            unfold dPuts at h
            split at h
            · rw [List.length_cons, List.length_cons, ih h]
            · cases h
      exact ⟨a, vs, rfl, sq s.H s.F (Ex.refl _) r.exF, by rw [← rs.len, hl e], puts_core r rs e h⟩
    | _ => cases e
end

/-! ## for -/
def forL (tg : Tg) (fg : List Nat) (body : M Flw) : List D → M Flw
  | [] => ret .nx
  | d :: ds => fun ρ => match dTg tg d ρ with
    | .ok .nx ρ1 => (match body ρ1 with
      | .ok .nx ρ2 => forL tg fg body ds (fgt fg ρ2)
      | .ok .ct ρ2 => forL tg fg body ds (fgt fg ρ2)
      | .ok .bk ρ2 => .ok .nx (fgt fg ρ2)
      | .ok (.rt r) ρ2 => .ok (.rt r) ρ2
      | .exc c ks xs ρ2 => .exc c ks xs ρ2
      | .bad => .bad)
    | _ => .bad
def dFor (src : M (List D)) (tg : Tg) (fg : List Nat) (body : M Flw) : M Flw := bnd src (forL tg fg body)
section
variable {T : Tx} {B : Hp}
theorem fgt_core : ∀ {is : List Nat} {s : S5}, Okk T B s → ∃ s2 : S5, s2.ρ = fgt is s.ρ ∧ s2.σ = s.σ ∧ s2.H = s.H ∧ s2.F = s.F ∧ Okk T B s2 ∧ Goes is s s2 []
  | [], s, r => ⟨s, rfl, rfl, rfl, rfl, r, Goes.refl⟩
  | i :: is, s, r => by
    obtain ⟨s2, h1, h2, h3, h4, h5, h6⟩ := fgt_core (is := is) (s := s.take i) r.take
    exact ⟨s2, h1, h2, h3, h4, h5, ((take_goes (i := i)).trans0 h6).wk fun j q => q⟩
end
section
variable {X : Cx} {G : Gx} {W : WX} {tc t1 tb : List Nat} {tge iter : Expr} {pos p : Pos} {body : List Stmt} {src : M (List D)} {f : M Flw}
/-- what a loop asks, from its meaning -/
theorem for_core {tg : Tg} {fg : List Nat} (hf : ∀ j ∈ fg, j ∈ tg.tc ++ tb) {E : Ends} {σ : L2.St} {H : Hp} : tDS (tx X G) W (t1 ++ (tg.tc ++ tb)) (dFor src tg fg f) E σ H → tFor (tDI (tx X G) W t1 src) (tgR X.K tg) (tDS (tx X G) W tb f) E σ H :=
  fun ⟨B, s, e1, e2, rl, hp⟩ => by
    subst e1 e2
    refine ⟨B, s, rfl, rfl, rl, hp.bnd.imp (fun ds ρ1 ⟨_, h⟩ J n Gd Y s1 q1 q2 r1 a sr => ?_) fun _ _ _ _ h => (h.wk fun _ => memL).toE⟩
    subst q1
    have h1 : Post (okS (tx X G) B (tg.tc ++ tb) s1 E) (exS (tx X G) W B (tg.tc ++ tb) s1) (forL tg fg f ds s1.ρ) := h.imp (fun _ _ q => q.re a) fun _ _ _ _ q => q.re a
    refine for_it sr.w (fun k σ H => ∃ s2 : S5, s2.σ = σ ∧ s2.H = H ∧ Okk (tx X G) B s2 ∧ Goes (tg.tc ++ tb) s1 s2 [] ∧ Post (okS (tx X G) B (tg.tc ++ tb) s1 E) (exS (tx X G) W B (tg.tc ++ tb) s1) (forL tg fg f (ds.drop k) s2.ρ))
      ⟨s1, q2, rfl, r1, Goes.refl, h1⟩ (fun k σ H _ ⟨s2, x1, x2, x3, x4, x5⟩ => ?_) (fun k x σ H H' hk ⟨s2, x1, x2, x3, x4, x5⟩ y => ?_) (fun σ H ⟨s2, x1, x2, x3, x4, x5⟩ => ?_)
    · rw [← x2]
      exact sr.g s2 x3 x4.step.ext
    · subst x1 x2
      obtain ⟨d, s3, y1, y2, y3, y4, y5, y6, y7⟩ := sr.y k x H' s2 hk x3 x4.step.ext y
      subst y2
      have hd : ds.drop k = d :: ds.drop (k + 1) := by
        obtain ⟨hl, e⟩ := List.getElem?_eq_some_iff.mp y1
        rw [← e]
        exact List.drop_eq_getElem_cons hl
      rw [hd] at x5
      unfold forL at x5
      rw [← y4] at x5
      cases et : dTg tg d s3.ρ with
      | bad => rw [et] at x5; exact x5.elim
      | exc c ks xs ρ => rw [et] at x5; exact x5.elim
      | ok fl ρ2 =>
        rw [et] at x5
        cases fl with
        | nx =>
          dsimp only at x5
          rw [← y3]
          refine tg_core (T := tx X G) y5 y7 et fun s4 z1 z2 z3 z4 z5 => ?_
          have g4 : Goes (tg.tc ++ tb) s1 s4 [] := ((x4.trans0 y6).trans0 z5).wk fun j q => by
            rcases List.mem_append.mp q with q | q
            · rcases List.mem_append.mp q with q | q
              · exact q
              · cases q
            · exact memL q
          subst z1
          have more : ∀ s5 : S5, Okk (tx X G) B s5 → Goes tb s4 s5 [] → ∃ s6 : S5, s6.ρ = fgt fg s5.ρ ∧ s6.σ = s5.σ ∧ s6.H = s5.H ∧ Okk (tx X G) B s6 ∧ Goes (tg.tc ++ tb) s1 s6 [] := fun s5 r5 g5 => by
            obtain ⟨s6, w1, w2, w3, _, w5, w6⟩ := fgt_core (is := fg) r5
            refine ⟨s6, w1, w2, w3, w5, ((g4.trans0 g5).trans0 w6).wk fun j q => ?_⟩
            rcases List.mem_append.mp q with q | q
            · rcases List.mem_append.mp q with q | q
              · exact q
              · exact memR q
            · exact hf j q
          refine ⟨B, s4, rfl, rfl, z4, ?_⟩
          have g5 : ∀ {s5 : S5} {g : List Addr}, Goes tb s4 s5 g → Goes (tg.tc ++ tb) s1 s5 g := fun q => (g4.trans0 q).wk fun j z => (List.mem_append.mp z).elim id memR
          cases eb : f s4.ρ with
          | bad => rw [eb] at x5; exact x5.elim
          | exc c ks xs ρ =>
            rw [eb] at x5
            exact fun cls dd s5 w1 w2 w3 w4 => x5 cls dd s5 w1 w2 w3 (g5 w4)
          | ok fl ρ3 =>
            rw [eb] at x5
            cases fl with
            | nx =>
              intro s5 w1 w2 w3
              subst w1
              obtain ⟨s6, v1, v2, v3, v4, v5⟩ := more s5 w2 w3
              exact ⟨s6, v2, v3, v4, v5, by rw [v1]; exact x5⟩
            | ct =>
              intro s5 w1 w2 w3
              subst w1
              obtain ⟨s6, v1, v2, v3, v4, v5⟩ := more s5 w2 w3
              exact ⟨s6, v2, v3, v4, v5, by rw [v1]; exact x5⟩
            | bk =>
              intro s5 w1 w2 w3
              subst w1
              obtain ⟨s6, v1, v2, v3, v4, v5⟩ := more s5 w2 w3
              have z := x5 s6 v1 v4 v5
              rw [v2, v3] at z
              exact z
            | rt r => exact fun v s5 g w1 w2 w3 w4 => x5 v s5 g w1 w2 w3 (g5 w4)
        | bk => exact x5.elim
        | ct => exact x5.elim
        | rt r => exact x5.elim
    · rw [← sr.len, List.drop_length] at x5
      have z := x5 s2 rfl x3 x4
      rw [x1, x2] at z
      exact z
theorem gs_for {tg : Tg} {fg : List Nat} (po : PassesOwn (model X.prog X.w) X.A X.env X.xe) (hc : X.calm = true) (hi : GI X G W t1 tge iter src) (hg : PG X tge (tgR X.K tg)) (hb : GSs X G W tb body f) (hf : ∀ j ∈ fg, j ∈ tg.tc ++ tb := by decide)
    (hs : ∀ x, foldedSetIterable iter X.env x = pure x := by intro _; rfl) : GS X G W (t1 ++ (tg.tc ++ tb)) (.For tge iter body [] pos) (dFor src tg fg f) :=
  ps_mono (ps_for po hc hi hg hb hs) fun E σ H h => for_core hf h
end
end Cs
namespace Cs
open PySem L2 Evl PyProof.Rows

/-! ## built-in functions of one or two values -/
inductive Ty where
  | int | bool | str | list | tuple | dict
def Ty.nm : Ty → String
  | .int => "int"
  | .bool => "bool"
  | .str => "str"
  | .list => "list"
  | .tuple => "tuple"
  | .dict => "dict"
def pLen : D → PR
  | .lst _ xs => .sc (.int xs.length)
  | .tup xs => .sc (.int xs.length)
  | .str s => if s.length ≤ lim then .sc (.int s.length) else .bad
  | _ => .bad
def pList : D → PR
  | .lst _ xs => if allFs noOw xs = true then .nl xs else .bad
  | .tup xs => if allFs noOw xs = true then .nl xs else .bad
  | _ => .bad
def pTuple : D → PR
  | .lst _ xs => if allFs noOw xs = true then .nt xs else .bad
  | .tup xs => if allFs noOw xs = true then .sc (.tup xs) else .bad
  | _ => .bad
def pInt : D → PR
  | .int i => .sc (.int i)
  | .bl k => .sc (.int (if k then 1 else 0))
  | _ => .bad
def pNeg : D → PR
  | .int i => .sc (.int (-i))
  | _ => .bad
def isi : Ty → D → Option Bool
  | t, .non => some false
  | .bool, .bl _ => some true
  | .int, .bl _ => some true
  | _, .bl _ => some false
  | .int, .int _ => some true
  | _, .int _ => some false
  | .str, .str _ => some true
  | _, .str _ => some false
  | .list, .lst _ _ => some true
  | _, .lst _ _ => some false
  | .tuple, .tup _ => some true
  | _, .tup _ => some false
  | .dict, .dct _ _ _ => some true
  | _, .dct _ _ _ => some false
  | _, _ => none
def pIsi (t : Ty) (d : D) : PR := match isi t d with
  | some b => .sc (.bl b)
  | none => .bad
def pMin : D → D → PR
  | .int i, .int j => .sc (.int (if j < i then j else i))
  | _, _ => .bad
def pMax : D → D → PR
  | .int i, .int j => .sc (.int (if j > i then j else i))
  | _, _ => .bad
section
variable {T : Tx}
theorem p1_len : P1 T (fun x H Q => ∃ y n, [x] = [y] ∧ LenV T.K y H n ∧ Q (.int n) H) pLen := by
  intro B H F d v g eF eB r
  cases d with
  | lst o xs =>
    obtain ⟨p, vs, g1, rfl, sq, rp, _⟩ := r.list eF eB
    refine ⟨_, .int _, fun Q q => ⟨_, vs.length, rfl, .inl ⟨vs, sq, rfl⟩, ?_⟩⟩
    rw [← rp.len]
    exact q
  | tup xs =>
    obtain ⟨p, vs, g1, rfl, sq, rp⟩ := r.tuple eF
    refine ⟨_, .int _, fun Q q => ⟨_, vs.length, rfl, .inr ⟨vs, sq, rfl⟩, ?_⟩⟩
    rw [← rp.len]
    exact q
  | str s =>
    unfold pLen
    dsimp only
    split
    · rename_i hl
      cases r
      exact ⟨_, .int _, fun Q q => ⟨_, s.length, rfl, ⟨lim_le hl, rfl⟩, q⟩⟩
    · trivial
  | _ => trivial
theorem p1_list : P1 T (fun x H Q => ∃ p ys, [x] = [V.ref p] ∧ (SqL T.K H p ys ∨ SqT T.K H p ys) ∧ ∀ l, H l = none → Q (.ref l) (upd H l (.lst ys))) pList := by
  intro B H F d v g eF eB r
  cases d with
  | lst o xs =>
    unfold pList
    dsimp only
    split
    · rename_i hn
      obtain ⟨p, vs, g1, rfl, sq, rp, _⟩ := r.list eF eB
      exact ⟨vs, rp.noOw hn, fun Q k => ⟨p, vs, rfl, .inl sq, k⟩⟩
    · trivial
  | tup xs =>
    unfold pList
    dsimp only
    split
    · rename_i hn
      obtain ⟨p, vs, g1, rfl, sq, rp⟩ := r.tuple eF
      exact ⟨vs, rp.noOw hn, fun Q k => ⟨p, vs, rfl, .inr sq, k⟩⟩
    · trivial
  | _ => trivial
def rTupZ (K : PySem.W.Frag) : List V → Hp → VK → Prop := fun xs H Q => ∃ p ys, xs = [.ref p] ∧ ((SqL K H p ys ∧ ∀ l (o : Obj), o.dict = none → H l = none → Q (.ref l) (upd H l (.frz o (.tup ys)))) ∨ (SqT K H p ys ∧ Q (.ref p) H))
theorem call_tupZ {X : Cx} : CallR X (.type "tuple") (rTupZ X.K) := by
  rintro pins s σ H xs us Q I r ⟨p, ys, rfl, h⟩
  obtain ⟨u, rfl, rx⟩ := vals1 r
  cases rx
  rcases h with ⟨sq, q⟩ | ⟨sq, q⟩
  · obtain ⟨its, r', pl, hz⟩ := I.list sq
    have hlen := r'.length
    refine call_tuple_list pl.isList ?_ (by simp only [List.size_toArray] <;> omega)
    intro h' kp
    have I1 : Inv X pins σ H { s with heap := h' } := I.kept (t' := s.toks) kp
    have hg : (h'.push ({ cls := .type "tuple", data := .seq its.toArray } : Obj)).get? h'.objs.size = some { cls := .type "tuple", data := .seq its.toArray } := Heap.get?_push_size _ rfl
    have hk : ∀ b u, h'.get? b = some u → (h'.push ({ cls := .type "tuple", data := .seq its.toArray } : Obj)).get? b = some u := fun b u e => Heap.get?_push_of_some _ e
    have J := I1.laid (t' := s.toks) (o := .frz { cls := .type "tuple", data := .seq its.toArray } (.tup ys)) hk (Nat.le_refl _) ⟨hg, hz, its, r', _, hg, rfl, _, rfl⟩
    exact ⟨.ref h'.objs.size, _, J, rfl, q _ _ rfl (I1.hok.fresh (Nat.le_refl _))⟩
  · obtain ⟨its, r', pl, hz⟩ := I.tuple sq
    exact call_tuple_same pl ⟨.ref p, H, I, rfl, q⟩
theorem p1_tuple : P1 T (fun x H Q => rTupZ T.K [x] H Q) pTuple := by
  intro B H F d v g eF eB r
  cases d with
  | lst o xs =>
    unfold pTuple
    dsimp only
    split
    · rename_i hn
      obtain ⟨p, vs, g1, rfl, sq, rp, _⟩ := r.list eF eB
      exact ⟨vs, rp.noOw hn, fun Q k => ⟨p, vs, rfl, .inl ⟨sq, k⟩⟩⟩
    · trivial
  | tup xs =>
    unfold pTuple
    dsimp only
    split
    · rename_i hn
      have z := rep_v r (show allF noOw (.tup xs) = true by rw [allF]; exact hn)
      obtain ⟨p, vs, g1, rfl, sq, rp⟩ := r.tuple eF
      exact ⟨_, z, fun Q k => ⟨p, vs, rfl, .inr ⟨sq, k⟩⟩⟩
    · trivial
  | _ => trivial
theorem p1_int : P1 T (fun x H Q => (∃ i, [x] = [V.int i] ∧ Q (.int i) H) ∨ ∃ k, [x] = [V.bl k] ∧ Q (.int (if k then 1 else 0)) H) pInt := by
  intro B H F d v g eF eB r
  cases d with
  | int i => cases r; exact ⟨_, .int _, fun Q q => .inl ⟨i, rfl, q⟩⟩
  | bl k => cases r; exact ⟨_, .int _, fun Q q => .inr ⟨k, rfl, q⟩⟩
  | _ => trivial
theorem p1_neg : P1 T (rU fun i => .int (-i)) pNeg := by
  intro B H F d v g eF eB r
  cases d with
  | int i => cases r; exact ⟨_, .int _, fun Q q => ⟨i, rfl, q⟩⟩
  | _ => trivial
theorem p2_min : P2 T (fun x y H Q => ∃ i j, [x, y] = [V.int i, .int j] ∧ Q (.int (if j < i then j else i)) H) pMin := by
  intro B H F d v g e u k eF eB r1 r2
  cases d with
  | int i =>
    cases e with
    | int j => cases r1; cases r2; exact ⟨_, .int _, fun Q q => ⟨i, j, rfl, q⟩⟩
    | _ => trivial
  | _ => trivial
theorem p2_max : P2 T (fun x y H Q => ∃ i j, [x, y] = [V.int i, .int j] ∧ Q (.int (if j > i then j else i)) H) pMax := by
  intro B H F d v g e u k eF eB r1 r2
  cases d with
  | int i =>
    cases e with
    | int j => cases r1; cases r2; exact ⟨_, .int _, fun Q q => ⟨i, j, rfl, q⟩⟩
    | _ => trivial
  | _ => trivial
theorem ty_list {K : PySem.W.Frag} {H : Hp} {p : Addr} {vs : List V} (h : SqL K H p vs) : TyX K H (.ref p) (.type "list") := by
  rcases h with (h | ⟨o, h⟩) | ⟨o, its, n, h1, h2, _⟩
  · exact .base (.lst h)
  · exact .base (.frz h)
  · exact .kList h1 h2
theorem ty_tup {K : PySem.W.Frag} {H : Hp} {p : Addr} {vs : List V} (h : SqT K H p vs) : TyX K H (.ref p) (.type "tuple") := by
  rcases h with (h | ⟨o, h⟩) | ⟨o, its, n, h1, h2, _⟩
  · exact .base (.tup h)
  · exact .fTuple h
  · exact .kTuple h1 h2
theorem p1_isi (t : Ty) : P1 T (fun x H Q => rIsi T.K [x, .ty t.nm] H Q) (pIsi t) := by
  intro B H F d v g eF eB r
  unfold pIsi
  cases ei : isi t d with
  | none => trivial
  | some b =>
    refine ⟨_, .bl b, fun Q q => ?_⟩
    cases r with
    | non => exact ⟨_, _, _, _, b, rfl, .ty _, .base .non, kit_ty (by cases t <;> cases ei <;> decide +kernel), q⟩
    | bl c => exact ⟨_, _, _, _, b, rfl, .ty _, .base (.bl c), kit_ty (by cases t <;> cases ei <;> decide +kernel), q⟩
    | int c => exact ⟨_, _, _, _, b, rfl, .ty _, .base (.int c), kit_ty (by cases t <;> cases ei <;> decide +kernel), q⟩
    | str c _ => exact ⟨_, _, _, _, b, rfl, .ty _, .base (.str c), kit_ty (by cases t <;> cases ei <;> decide +kernel), q⟩
    | cls _ => cases t <;> cases ei
    | tup h _ => exact ⟨_, _, _, _, b, rfl, .ty _, ty_tup (ex_t eF h.sq), kit_ty (by cases t <;> cases ei <;> decide +kernel), q⟩
    | lstF h _ => exact ⟨_, _, _, _, b, rfl, .ty _, ty_list (sq_of (eF _ _ h)), kit_ty (by cases t <;> cases ei <;> decide +kernel), q⟩
    | lstR h _ => exact ⟨_, _, _, _, b, rfl, .ty _, ty_list (ex_l eF h), kit_ty (by cases t <;> cases ei <;> decide +kernel), q⟩
    | lstB h _ => exact ⟨_, _, _, _, b, rfl, .ty _, ty_list (sq_of (eB _ _ h)), kit_ty (by cases t <;> cases ei <;> decide +kernel), q⟩
    | lstO h _ _ => exact ⟨_, _, _, _, b, rfl, .ty _, ty_list (sq_of h), kit_ty (by cases t <;> cases ei <;> decide +kernel), q⟩
    | dctF h _ _ => exact ⟨_, _, _, _, b, rfl, .ty _, .base (.dK (eF _ _ h)), kit_ty (by cases t <;> cases ei <;> decide +kernel), q⟩
    | dctB h _ _ => exact ⟨_, _, _, _, b, rfl, .ty _, .base (.dK (eB _ _ h)), kit_ty (by cases t <;> cases ei <;> decide +kernel), q⟩
    | dctO h _ _ _ => exact ⟨_, _, _, _, b, rfl, .ty _, .base (.dK h), kit_ty (by cases t <;> cases ei <;> decide +kernel), q⟩
    | objF _ _ _ _ _ => cases t <;> cases ei
    | objB _ _ _ _ _ => cases t <;> cases ei
    | objO _ _ _ _ _ _ => cases t <;> cases ei
end
section
variable {X : Cx} {G : Gx} {W : WX} {tc t1 t2 : List Nat} {a b : Expr} {o o1 o2 : Opd} {pos p p2 : Pos}
theorem g_len (hg : Gl X "len") (hm : X.mg "len" = none) (h : GO X G W tc a o) (hs : starEach [a] X.env = (false, eval a X.env) :: starEach [] X.env := by rfl) : GE X G W tc (.Call (.Name "len" p) [a] [] pos) (dOp1 pLen o) :=
  tun_of p1_len h fun _ h => pe_callB call_len hg hm PySem.boot_len (pa_cons h pa_nil hs) (by decide) (by decide) hs
theorem g_list (hg : Gl X "list") (hm : X.mg "list" = none) (h : GO X G W tc a o) (hs : starEach [a] X.env = (false, eval a X.env) :: starEach [] X.env := by rfl) : GE X G W tc (.Call (.Name "list" p) [a] [] pos) (dOp1 pList o) :=
  tun_of p1_list h fun _ h => pe_callTy call_list_of hg hm (by decide +kernel) (pa_cons h pa_nil hs) (by decide) (by decide) hs
theorem g_tuple (hg : Gl X "tuple") (hm : X.mg "tuple" = none) (h : GO X G W tc a o) (hs : starEach [a] X.env = (false, eval a X.env) :: starEach [] X.env := by rfl) : GE X G W tc (.Call (.Name "tuple" p) [a] [] pos) (dOp1 pTuple o) :=
  tun_of p1_tuple h fun _ h => pe_callTy call_tupZ hg hm (by decide +kernel) (pa_cons h pa_nil hs) (by decide) (by decide) hs
theorem g_intC (hg : Gl X "int") (hm : X.mg "int" = none) (h : GO X G W tc a o) (hs : starEach [a] X.env = (false, eval a X.env) :: starEach [] X.env := by rfl) : GE X G W tc (.Call (.Name "int" p) [a] [] pos) (dOp1 pInt o) :=
  tun_of p1_int h fun _ h => pe_callTy call_int1 hg hm (by decide +kernel) (pa_cons h pa_nil hs) (by decide) (by decide) hs
theorem g_neg (h : GO X G W tc a o) : GE X G W tc (.UnaryOp .USub a pos) (dOp1 pNeg o) := tun_of p1_neg h fun _ h => pe_un un_neg h
theorem g_min (hc : X.calm = true) (hg : Gl X "min") (hm : X.mg "min" = none) (h1 : GO X G W t1 a o1) (h2 : GO X G W t2 b o2) (hs : starEach [a, b] X.env = (false, eval a X.env) :: starEach [b] X.env := by rfl) (hs2 : starEach [b] X.env = (false, eval b X.env) :: starEach [] X.env := by rfl)
    (hpl : (backTo pos (starEach [b] X.env)).any (·.1) = false := by rfl) : GE X G W (t1 ++ t2) (.Call (.Name "min" p) [a, b] [] pos) (dOp2 pMin o1 o2) :=
  top_of p2_min h1 h2 fun _ _ h1 h2 => pe_callB (call_min2 hc) hg hm (by decide +kernel) (pa_cons h1 (pa_cons h2 pa_nil hs2) hs) (by decide) (by decide) hs hpl
theorem g_max (hc : X.calm = true) (hg : Gl X "max") (hm : X.mg "max" = none) (h1 : GO X G W t1 a o1) (h2 : GO X G W t2 b o2) (hs : starEach [a, b] X.env = (false, eval a X.env) :: starEach [b] X.env := by rfl) (hs2 : starEach [b] X.env = (false, eval b X.env) :: starEach [] X.env := by rfl)
    (hpl : (backTo pos (starEach [b] X.env)).any (·.1) = false := by rfl) : GE X G W (t1 ++ t2) (.Call (.Name "max" p) [a, b] [] pos) (dOp2 pMax o1 o2) :=
  top_of p2_max h1 h2 fun _ _ h1 h2 => pe_callB (call_max2 hc) hg hm (by decide +kernel) (pa_cons h1 (pa_cons h2 pa_nil hs2) hs) (by decide) (by decide) hs hpl
/-- isinstance(e, T), T a built-in type -/
theorem g_isi (t : Ty) {x : Str} (hg : Gl X "isinstance") (hm : X.mg "isinstance" = none) (hg2 : Gl X x) (hm2 : X.mg x = none) (hx : bootBuiltins x = some (.type t.nm)) (hn : x ≠ "__name__") (hd : (x == ("__debug__" : Str)) = false) (h : GO X G W tc a o)
    (hs : starEach [a, .Name x p2] X.env = (false, eval a X.env) :: starEach [.Name x p2] X.env := by rfl) (hs2 : starEach [.Name x p2] X.env = (false, eval (.Name x p2) X.env) :: starEach [] X.env := by rfl)
    (hpl : (backTo pos (starEach [.Name x p2] X.env)).any (·.1) = false := by rfl) : GE X G W tc (.Call (.Name "isinstance" p) [a, .Name x p2] [] pos) (dOp1 (pIsi t) o) :=
  tun_of (p1_isi t) h fun _ h => pe_callB call_isi hg hm (by decide +kernel) (pa_cons h (pa_cons (pe_bltn (v := .ty t.nm) hg2 hm2 hx rfl hn hd) pa_nil hs2) hs) (by decide) (by decide) hs hpl
end
end Cs
namespace Cs
open PySem L2 Evl PyProof.Rows

/-! ## lists that change -/
section
variable {T : Tx} {B : Hp} {s : S5}
/-- slot i's object p gets the content o, its data d' with the cells g -/
abbrev S5.mut (s : S5) (i : Nat) (p : Addr) (o : HO) (d' : D) (g : List Addr) : S5 := { s with H := upd s.H p o, ρ := s.ρ.set i (.dt d'), φ := fun j => if j = i then g else s.φ j }
theorem mut_ok {i : Nat} {d d' : D} {v : V} {p : Addr} {o : HO} {g gt : List Addr} (r : Okk T B s) (hs : s.ρ[i]? = some (.dt d)) (hv : s.σ[i]? = some (some v)) (hp : p ∈ s.φ i)
    (rp : Rep T B (upd s.H p o) s.F d' v g) (gn : g.Nodup) (gg : ∀ a ∈ g, a ∈ s.φ i ∨ a ∈ gt) (gap : ∀ a ∈ gt, s.F a = none ∧ B a = none) (gdj : ∀ a ∈ gt, ¬ O s.φ a) (no : Nt o := by intro _ e; cases e) : Okk T B (s.mut i p o d' g) := by
  obtain ⟨hF, hB⟩ := r.ap i p hp
  have ne : ∀ j a, j ≠ i → a ∈ s.φ j → a ≠ p := fun j a hj ha e => r.dj j i a hj ha (by rw [e]; exact hp)
  have exU : ∀ (Z : Hp), Z p = none → Ex Z s.H → Ex Z (upd s.H p o) := fun Z hz e a u q => by
    rw [upd_ne (fun z => by rw [z, hz] at q; cases q)]
    exact e a u q
  have hi : i < s.ρ.length := (List.getElem?_eq_some_iff.mp hs).1
  refine ⟨by show (s.ρ.set i _).length = _; rw [List.length_set]; exact r.len, exU B hB r.exB, exU s.F hF r.exF, r.exP, fun j e q => ?_, fun j q => ?_, fun j q => ?_, fun j => ?_, fun j k a hn h1 h2 => ?_, fun j a h => ?_, r.xt.upd (fun u e => r.nmO ⟨i, hp⟩ e) no⟩
  · by_cases z : j = i
    · subst z
      have q : (s.ρ.set j (.dt d'))[j]? = some (.dt e) := q
      rw [List.getElem?_set_self hi] at q
      cases q
      refine ⟨v, hv, ?_⟩
      show Rep T B (upd s.H p o) s.F d' v (if j = j then g else s.φ j)
      rw [if_pos rfl]
      exact rp
    · have q : (s.ρ.set i (.dt d'))[j]? = some (.dt e) := q
      rw [List.getElem?_set_ne (fun e => z e.symm)] at q
      obtain ⟨w, e2, rq⟩ := r.sl j e q
      refine ⟨w, e2, ?_⟩
      show Rep T B (upd s.H p o) s.F e w (if j = i then g else s.φ j)
      rw [if_neg z]
      exact rq.mono (Ex.refl B) (Ex.refl _) fun a ha u q => by rw [upd_ne (ne j a z ha)]; exact q
  · by_cases z : j = i
    · subst z
      have q : (s.ρ.set j (.dt d'))[j]? = some .exn := q
      rw [List.getElem?_set_self hi] at q
      cases q
    · have q : (s.ρ.set i (.dt d'))[j]? = some .exn := q
      rw [List.getElem?_set_ne (fun e => z e.symm)] at q
      exact r.xn j q
  · show (if j = i then g else s.φ j) = []
    by_cases z : j = i
    · subst z
      exact absurd (show (s.ρ.set j (.dt d'))[j]? = some (.dt d') from List.getElem?_set_self hi) (q d')
    · rw [if_neg z]
      refine r.em j fun e h => q e ?_
      show (s.ρ.set i (.dt d'))[j]? = _
      rw [List.getElem?_set_ne (fun e => z e.symm)]
      exact h
  · show (if j = i then g else s.φ j).Nodup
    split
    · exact gn
    · exact r.nd j
  · have h1 : a ∈ (if j = i then g else s.φ j) := h1
    have h2 : a ∈ (if k = i then g else s.φ k) := h2
    split at h1
    · rename_i z
      split at h2
      · rename_i z2; exact hn (z.trans z2.symm)
      · rename_i z2
        rcases gg a h1 with y | y
        · exact r.dj i k a (fun e => z2 e.symm) y h2
        · exact gdj a y ⟨k, h2⟩
    · rename_i z
      split at h2
      · rcases gg a h2 with y | y
        · exact r.dj i j a (fun e => z e.symm) y h1
        · exact gdj a y ⟨j, h1⟩
      · exact r.dj j k a hn h1 h2
  · have h : a ∈ (if j = i then g else s.φ j) := h
    split at h
    · rcases gg a h with y | y
      · exact r.ap i a y
      · exact gap a y
    · exact r.ap j a h
theorem mut_goes {i : Nat} {d' : D} {p : Addr} {o : HO} {g gt : List Addr} {tc : List Nat} {s0 : S5} (r : Okk T B s) (a : Goes tc s0 s gt) (hp : p ∈ s.φ i) (gg : ∀ a ∈ g, a ∈ s.φ i ∨ a ∈ gt) : Goes (tc ++ [i]) s0 (s.mut i p o d' g) [] := by
  refine ⟨⟨fun x u e n => ?_, a.step.ext, a.step.fn, fun x q => ?_⟩, fun j h => ?_, fun j h => a.sg j fun z => h (memL z)⟩
  · have e2 := a.step.keep x u e n
    show KO (upd s.H p o) x u
    refine e2.off fun z => ?_
    · subst z
      rcases a.step.on x (.inl ⟨i, hp⟩) with y | y
      · exact n y
      · rw [e] at y; cases y
  · rcases q with ⟨j, q⟩ | q
    · have q : x ∈ (if j = i then g else s.φ j) := q
      split at q
      · rcases gg x q with y | y
        · exact a.step.on x (.inl ⟨i, y⟩)
        · exact a.step.on x (.inr y)
      · exact a.step.on x (.inl ⟨j, q⟩)
    · cases q
  · have h1 : j ∉ tc := fun z => h (memL z)
    have h2 : j ≠ i := fun z => h (memR (by rw [z]; exact List.mem_cons_self))
    obtain ⟨x1, x2, x3⟩ := a.fix j h1
    refine ⟨(List.getElem?_set_ne fun e => h2 e.symm).trans x1, (if_neg h2).trans x2, fun x hx => ?_⟩
    show upd s.H p o x = _
    rw [upd_ne fun z => ?_]
    · exact x3 x hx
    · subst z
      exact r.dj j i x h2 (by rw [x2]; exact hx) hp
theorem Reps.snoc {H F : Hp} {ds : List D} {vs : List V} {fp g : List Addr} {d : D} {v : V} : Reps T B H F ds vs fp → Rep T B H F d v g → Reps T B H F (ds ++ [d]) (vs ++ [v]) (fp ++ g) := by
  intro a b
  induction ds generalizing vs fp with
  | nil =>
    cases a
    exact .cons b .nil (by simp)
  | cons x ds ih =>
    cases a with
    | cons r rs e =>
      subst e
      exact .cons r (ih rs) (by simp)
end
def slotL (i : Nat) (ρ : En) : Option (List D) := match slot i ρ with
  | some (.lst .ow xs) => some xs
  | _ => none
theorem slotL_some {i : Nat} {ρ : En} {xs : List D} (h : slotL i ρ = some xs) : ρ[i]? = some (.dt (.lst .ow xs)) := by
  unfold slotL at h
  split at h
  · rename_i ys e
    cases h
    exact slot_some e
  · cases h
/-- an operation on the owned list in slot i -/
def dMutL (i : Nat) (op : List D → Option (List D)) : M Flw := fun ρ => match slotL i ρ with
  | some xs => (match op xs with
    | some ys => .ok .nx (ρ.set i (.dt (.lst .ow ys)))
    | none => .bad)
  | none => .bad
def dIsL (i : Nat) (k : M Flw) : M Flw := fun ρ => match slotL i ρ with
  | some _ => k ρ
  | none => .bad
def dApp (i : Nat) (f : M D) : M Flw := dIsL i (bnd f fun d => dMutL i fun xs => if xs.length < lim then some (xs ++ [d]) else none)
def dExt (i : Nat) (f : M D) : M Flw := dIsL i (bnd f fun d => dMutL i fun xs => match d with
  | .lst o ys => if (o ≠ .ro ∧ allFs noOw ys = true) ∧ xs.length + ys.length ≤ lim then some (xs ++ ys) else none
  | _ => none)
def dClr (i : Nat) : M Flw := dMutL i fun _ => some []
def dRev (i : Nat) : M Flw := dMutL i fun xs => if allFs noOw xs = true then some xs.reverse else none
section
variable {T : Tx} {B : Hp} {s : S5}
theorem isL_core {i : Nat} {k : M Flw} {okk : Flw → En → Prop} {exk : Str → List Str → List D → En → Prop} (r : Okk T B s) (h : Post okk exk (dIsL i k s.ρ)) : ∃ p vs, s.σ[i]? = some (some (.ref p)) ∧ s.H p = some (.lst vs) ∧ Post okk exk (k s.ρ) := by
  unfold dIsL at h
  cases e : slotL i s.ρ with
  | none => rw [e] at h; exact h.elim
  | some xs =>
    rw [e] at h
    obtain ⟨v, ev, rp⟩ := r.sl i _ (slotL_some e)
    cases rp with
    | lstO q _ _ => exact ⟨_, _, ev, q, h⟩
/-- the list in slot i, opened -/
theorem mutL_open {i : Nat} {op : List D → Option (List D)} {okk : Flw → En → Prop} {exk : Str → List Str → List D → En → Prop} (r : Okk T B s) (h : Post okk exk (dMutL i op s.ρ)) :
    ∃ p vs fp xs ys, s.ρ[i]? = some (.dt (.lst .ow xs)) ∧ s.σ[i]? = some (some (.ref p)) ∧ s.H p = some (.lst vs) ∧ Reps T B s.H s.F xs vs fp ∧ s.φ i = p :: fp ∧ op xs = some ys ∧ okk .nx (s.ρ.set i (.dt (.lst .ow ys))) := by
  unfold dMutL at h
  cases e : slotL i s.ρ with
  | none => rw [e] at h; exact h.elim
  | some xs =>
    rw [e] at h
    dsimp only at h
    cases eo : op xs with
    | none => rw [eo] at h; exact h.elim
    | some ys =>
      rw [eo] at h
      obtain ⟨v, ev, rp⟩ := r.sl i _ (slotL_some e)
      generalize eg : s.φ i = gp at rp
      cases rp with
      | lstO q rs eq => exact ⟨_, _, _, xs, ys, slotL_some e, ev, q, rs, eq, eo, h⟩
end
section
variable {X : Cx} {G : Gx} {W : WX} {tc t1 t2 : List Nat} {a b e : Expr} {pos pos' apos cpos p p2 : Pos} {u w : M D} {i : Nat} {x : Str}
theorem app_core {T : Tx} {i : Nat} {σ : L2.St} {H : Hp} {E : Ends} (h : tDS T W (tc ++ [i]) (dApp i u) E σ H) : tDrop (tBM T.K "list" rAppend (tVar i) (tCons (tD T W tc u) tNil)) E σ H := by
  obtain ⟨B, s, e1, e2, r, hp⟩ := h
  subst e1 e2
  obtain ⟨p, vs, ev, hl, hp⟩ := isL_core r hp
  refine ⟨.ref p, ev, .inl ⟨rfl, vs, sq_of hl⟩, ?_⟩
  refine seqES r hp (fun _ => memL) fun d v s1 g _ hs r1 t a h => ?_
  obtain ⟨p1, vs1, fp, xs, ys, q1, q2, q3, q4, q5, q6, q7⟩ := mutL_open r1 h
  rw [hs, ev] at q2
  cases q2
  split at q6
  · rename_i hlen
    cases q6
    have hnd := r1.nd i
    rw [q5] at hnd
    obtain ⟨n1, n2⟩ := List.nodup_cons.mp hnd
    have pg : p ∉ g := fun z => t.dj p z ⟨i, by rw [q5]; exact List.mem_cons_self⟩
    have dg : ∀ x ∈ fp, x ∉ g := fun x hx z => t.dj x z ⟨i, by rw [q5]; exact List.mem_cons_of_mem _ hx⟩
    have keep : ∀ x, x ≠ p → ∀ o, s1.H x = some o → upd s1.H p (.lst (vs1 ++ [v])) x = some o := fun x hx o q => by rw [upd_ne hx]; exact q
    have hok := mut_ok (gt := g) (o := .lst (vs1 ++ [v])) (d' := .lst .ow (xs ++ [d])) (g := p :: (fp ++ g)) r1 q1 (by rw [hs]; exact ev) (by rw [q5]; exact List.mem_cons_self)
      (.lstO upd_same ((q4.mono (Ex.refl B) (Ex.refl _) fun x hx => keep x fun z => n1 (by rw [← z]; exact hx)).snoc (t.rep.mono (Ex.refl B) (Ex.refl _) fun x hx => keep x fun z => pg (by rw [← z]; exact hx))) rfl)
      (List.nodup_cons.mpr ⟨fun z => (List.mem_append.mp z).elim n1 pg, List.nodup_append.mpr ⟨n2, t.nd, fun x hx y hy e => dg x hx (by rw [e]; exact hy)⟩⟩)
      (fun x hx => by
        rcases List.mem_cons.mp hx with z | z
        · exact .inl (by rw [q5, z]; exact List.mem_cons_self)
        · rcases List.mem_append.mp z with z | z
          · exact .inl (by rw [q5]; exact List.mem_cons_of_mem _ z)
          · exact .inr z) t.ap t.dj
    refine ⟨p, vs1, v, rfl, rfl, q3, by rw [← q4.len]; exact lim_lt hlen, ?_⟩
    have z := q7 _ rfl hok (mut_goes r1 a (by rw [q5]; exact List.mem_cons_self) fun x hx => by
        rcases List.mem_cons.mp hx with z | z
        · exact .inl (by rw [q5, z]; exact List.mem_cons_self)
        · rcases List.mem_append.mp z with z | z
          · exact .inl (by rw [q5]; exact List.mem_cons_of_mem _ z)
          · exact .inr z)
    rw [show (s1.mut i p _ _ _).σ = s.σ from hs] at z
    exact z
  · cases q6
theorem gs_app (hv : PE X (.Name x p) (tVar i)) (h : GE X G W tc a u) (hs : starEach [a] X.env = (false, eval a X.env) :: starEach [] X.env := by rfl)
    (hbase : attributeBase (.Name x p) "append" X.env (eval (.Name x p) X.env) = eval (.Name x p) X.env := by rfl) (hline : (apos.endLine == cpos.line) = true := by rfl)
    (hfew : ((backTo cpos (starEach [a] X.env)).all (fun x => !x.1) && (backToKw cpos (keywordEach [] X.env)).all (fun x => x.1.isSome)
      && decide ([a].length + ([] : List Keyword).length + (if ([] : List Keyword).isEmpty then 0 else 1) < 30)) = true := by rfl)
    (hsw : swapsWith (.Call (.Attribute (.Name x p) "append" apos) [a] [] cpos) none pos.line X.env = pure false := by rfl) : GS X G W (tc ++ [i]) (.Expr (.Call (.Attribute (.Name x p) "append" apos) [a] [] cpos) pos) (dApp i u) :=
  ps_mono (ps_expr (pe_bm PySem.F.plainAttrs_list PySem.F.slot_list_append PySem.F.type_list_append mt_append hv (pa_cons h pa_nil hs) hbase hfew hline hs rfl) hsw) fun E σ H h => app_core h
/-! ## xs[k] = e, xs[j][k] = e -/
def setAt (k : D) (d : D) (xs : List D) : Option (List D) := match k with
  | .int j => (match ixN xs.length j with
    | some n => if allFs noOw xs = true ∧ allF noOw d = true then some (xs.set n d) else none
    | none => none)
  | _ => none
def dSet (i : Nat) (fk fe : M D) : M Flw := bnd (dFz fe) fun d => bnd (dPk i) fun _ => bnd fk fun k => dMutL i (setAt k d)
theorem Reps.set {T : Tx} {B H F : Hp} {d : D} {v : V} (h : Rep T B H F d v []) : ∀ {ds : List D} {vs : List V} (k : Nat), Reps T B H F ds vs [] → Reps T B H F (ds.set k d) (vs.set k v) []
  | _, _, _, .nil => .nil
  | _, _, 0, .cons r rs e => by
    obtain ⟨e1, e2⟩ := List.append_eq_nil_iff.mp e.symm
    subst e1 e2
    exact .cons h rs rfl
  | _, _, k + 1, .cons r rs e => by
    obtain ⟨e1, e2⟩ := List.append_eq_nil_iff.mp e.symm
    subst e1 e2
    exact .cons r (Reps.set h k rs) rfl
theorem set_core {T : Tx} {i : Nat} {σ : L2.St} {H : Hp} {E : Ends} (h : tDS T W (t1 ++ (t2 ++ [i])) (dSet i w u) E σ H) : tAsg (tD T W t1 (dFz u)) (gSub (tVar i) (tD T W t2 w) rSetL) E σ H := by
  obtain ⟨B, s, e1, e2, r, hp⟩ := h
  subst e1 e2
  refine seqES r hp (fun _ => memL) fun d v s1 g ed hs r1 t a h => ?_
  have hn := dFz_frz ed
  have rd := rep_v t.rep hn
  obtain ⟨d0, e0, h⟩ := pk_bnd h
  obtain ⟨v0, ev0, _⟩ := r1.sl i d0 (slot_some e0)
  refine ⟨v0, by rw [← hs]; exact ev0, ?_⟩
  have h' : Post (okS T B (t2 ++ [i]) s1 E) (exS T W B (t2 ++ [i]) s1) (bnd w (fun k => dMutL i (setAt k d)) s1.ρ) := h.imp (fun _ _ q => q.re a) fun _ _ _ _ q => q.re a
  rw [← hs]
  refine seqES r1 h' (fun _ => memL) fun k vk s2 g2 _ hs2 r2 tk a2 h2 => ?_
  obtain ⟨p1, vs1, fp, xs, ys, q1, q2, q3, q4, q5, q6, q7⟩ := mutL_open r2 h2
  rw [hs2, ev0] at q2
  cases q2
  unfold setAt at q6
  cases k with
  | int j =>
    obtain ⟨rk, _, _, _⟩ := tk
    cases rk
    dsimp only at q6
    cases ej : ixN xs.length j with
    | none => rw [ej] at q6; cases q6
    | some n =>
      rw [ej] at q6
      dsimp only at q6
      split at q6
      · rename_i hh
        cases q6
        have q4' := q4.noOw hh.1
        have efp : fp = [] := q4.noO hh.1
        subst efp
        have rd2 := rd.mono (H' := s2.H) (Ex.refl B) a2.step.ext fun x hx => (by cases hx)
        have hok := mut_ok (gt := []) (o := .lst (vs1.set n v)) (d' := .lst .ow (xs.set n d)) (g := [p1]) r2 q1 (by rw [hs2]; exact ev0) (by rw [q5]; exact List.mem_cons_self)
          (.lstO upd_same ((Reps.set rd2 n q4').mono (Ex.refl B) (Ex.refl _) fun x hx => (by cases hx)) rfl) (List.nodup_cons.mpr ⟨fun z => (by cases z), List.Pairwise.nil⟩)
          (fun x hx => .inl (by rw [q5]; exact hx)) (fun _ h => (by cases h)) (fun _ h => (by cases h))
        refine ⟨p1, vs1, j, n, rfl, rfl, q3, by rw [← q4.len]; exact ej, ?_⟩
        have z := q7 _ rfl hok (mut_goes r2 a2.drop0 (by rw [q5]; exact List.mem_cons_self) fun x hx => .inl (by rw [q5]; exact hx))
        show E.nx s1.σ (upd s2.H p1 (.lst (vs1.set n v)))
        rw [← hs2]
        exact z
      · cases q6
  | _ => cases q6
theorem gs_set (hv : PE X (.Name x p) (tVar i)) (hk : GE X G W t2 b w) (he : GE X G W t1 a u) (hs : swapsWithSole [.Subscript (.Name x p) b pos'] a pos.line X.env = pure false := by rfl) (hw : swappedStores [.Subscript (.Name x p) b pos'] a X.env = pure none := by rfl)
    (h1 : (assignEach [.Subscript (.Name x p) b pos'] X.env).map (·.2) = [assign (.Subscript (.Name x p) b pos') X.env] := by rfl)
    (ha : ∀ v, assign (.Subscript (.Name x p) b pos') X.env v = (do
      let ov ← holding [v] (eval (.Name x p) X.env)
      let iv ← holding [v, ov] (eval b X.env)
      standAt pos'
      holding [v, ov, iv] (setItem ov iv v)
      release [v, ov, iv] []) := by intro _; rfl) : GS X G W (t1 ++ (t2 ++ [i])) (.Assign [.Subscript (.Name x p) b pos'] a pos) (dSet i w u) :=
  ps_mono (ps_asg (g_fz he) (pg_sub hv hk set_list ha) hs hw h1) fun E σ H h => set_core h
/-- a list within the list -/
def inner (j : D) (xs : List D) : Option (Nat × List D) := match j with
  | .int m => (match ixN xs.length m with
    | some n => (match xs[n]? with
      | some (.lst .ow ys) => if allFs noOw ys = true then some (n, ys) else none
      | _ => none)
    | none => none)
  | _ => none
theorem inner_some {j : D} {xs ys : List D} {n : Nat} (h : inner j xs = some (n, ys)) : ∃ m, j = .int m ∧ ixN xs.length m = some n ∧ xs[n]? = some (.lst .ow ys) ∧ allFs noOw ys = true := by
  unfold inner at h
  split at h
  · rename_i m
    split at h
    · rename_i n' e1
      split at h
      · rename_i ys' e2
        split at h
        · rename_i hn
          cases h
          exact ⟨m, rfl, e1, e2, hn⟩
        · cases h
      · cases h
    · cases h
  · cases h
def setAt2 (j k : D) (d : D) (xs : List D) : Option (List D) := (inner j xs).bind fun (n, ys) => (setAt k d ys).map fun zs => xs.set n (.lst .ow zs)
def dIn2 (i : Nat) (j : D) (k : M Flw) : M Flw := fun ρ => match (slotL i ρ).bind (inner j) with
  | some _ => k ρ
  | none => .bad
def dSet2 (i : Nat) (fj fk fe : M D) : M Flw := bnd (dFz fe) fun d => bnd (dPk i) fun _ => bnd fj fun j => dIn2 i j (bnd fk fun k => dMutL i (setAt2 j k d))
theorem Rep.ow_inv {T : Tx} {B H F : Hp} {ds : List D} {v : V} {gp : List Addr} (r : Rep T B H F (.lst .ow ds) v gp) : ∃ a vs fp, v = .ref a ∧ H a = some (.lst vs) ∧ Reps T B H F ds vs fp ∧ gp = a :: fp := by
  cases r with
  | lstO q rs eq => exact ⟨_, _, _, rfl, q, rs, eq⟩
theorem Reps.inner {T : Tx} {B H F : Hp} : ∀ {ds : List D} {vs : List V} {fp : List Addr} (n : Nat) {zs : List D}, Reps T B H F ds vs fp → fp.Nodup → ds[n]? = some (.lst .ow zs) → allFs Cs.noOw zs = true →
    ∃ p1 us, vs[n]? = some (.ref p1) ∧ H p1 = some (.lst us) ∧ Reps T B H F zs us [] ∧ p1 ∈ fp ∧ ∀ (ws : List V) (ys : List D), Reps T B H F ys ws [] → Reps T B (L2.upd H p1 (.lst ws)) F (ds.set n (.lst .ow ys)) vs fp
  | _, _, _, n, zs, .nil, _, e, _ => by simp at e
  | _, _, _, 0, zs, .cons (g := g) r rs e, nd, e1, hn => by
    have e1 := Option.some.inj e1
    subst e1
    cases r with
    | lstO q rz eq =>
      have z := rz.noO hn
      subst z eq e
      rename_i a us
      refine ⟨a, us, rfl, q, rz, List.mem_append.mpr (.inl List.mem_cons_self), fun ws ys hy => ?_⟩
      have na : a ∉ g := fun z => (List.nodup_cons.mp nd).1 z
      exact .cons (.lstO upd_same (hy.mono (Ex.refl B) (Ex.refl F) fun x hx => (by cases hx)) rfl) (rs.mono (Ex.refl B) (Ex.refl F) fun x hx o q => by rw [upd_ne fun z => na (by rw [← z]; exact hx)]; exact q) rfl
  | _, _, _, n + 1, zs, .cons (f := f) r rs e, nd, e1, hn => by
    subst e
    obtain ⟨n1, n2, n3⟩ := List.nodup_append.mp nd
    obtain ⟨p1, us, h1, h2, h3, h4, h5⟩ := Reps.inner n rs n2 (by simpa using e1) hn
    refine ⟨p1, us, by simpa using h1, h2, h3, List.mem_append.mpr (.inr h4), fun ws ys hy => ?_⟩
    have np : p1 ∉ f := fun z => n3 p1 z p1 h4 rfl
    exact .cons (r.mono (Ex.refl B) (Ex.refl F) fun x hx o q => by rw [upd_ne fun z => np (by rw [← z]; exact hx)]; exact q) (h5 ws ys hy) rfl
theorem atI_ix {α : Type} {xs : List α} {j : Int} {n : Nat} {v : α} (h : ixN xs.length j = some n) (hv : xs[n]? = some v) : L2.atI xs j = some v := by
  unfold L2.atI
  rw [h]
  exact hv
theorem set2_core {T : Tx} {i : Nat} {σ : L2.St} {H : Hp} {E : Ends} {t3 : List Nat} {f : M D} (ht : i ∉ t3) (h : tDS T W (t1 ++ (t2 ++ (t3 ++ [i]))) (dSet2 i w f u) E σ H) : tAsg (tD T W t1 (dFz u)) (gSub (tOp (rIx T.K) (tVar i) (tD T W t2 w)) (tD T W t3 f) rSetL) E σ H := by
  obtain ⟨B, s, e1, e2, r, hp⟩ := h
  subst e1 e2
  refine seqES r hp (fun _ => memL) fun d v s1 g ed hs r1 t a h => ?_
  have hn := dFz_frz ed
  have rd := rep_v t.rep hn
  obtain ⟨d0, e0, h⟩ := pk_bnd h
  obtain ⟨v0, ev0, _⟩ := r1.sl i d0 (slot_some e0)
  rw [← hs]
  refine ⟨v0, ev0, ?_⟩
  have h' : Post (okS T B (t2 ++ (t3 ++ [i])) s1 E) (exS T W B (t2 ++ (t3 ++ [i])) s1) (bnd w (fun j => dIn2 i j (bnd f fun k => dMutL i (setAt2 j k d))) s1.ρ) := h.imp (fun _ _ q => q.re a) fun _ _ _ _ q => q.re a
  refine seqES r1 h' (fun _ => memL) fun j vj s2 g2 _ hs2 r2 tj a2 h2 => ?_
  have h2' : Post (okS T B (t3 ++ [i]) s2 E) (exS T W B (t3 ++ [i]) s2) (dIn2 i j (bnd f fun k => dMutL i (setAt2 j k d)) s2.ρ) := h2.imp (fun _ _ q => q.re a2) fun _ _ _ _ q => q.re a2
  unfold dIn2 at h2'
  cases eb : (slotL i s2.ρ).bind (inner j) with
  | none => rw [eb] at h2'; exact h2'.elim
  | some ny =>
    rw [eb] at h2'
    obtain ⟨n, ys⟩ := ny
    obtain ⟨xs, ex, ei⟩ := Option.bind_eq_some_iff.mp eb
    obtain ⟨m, rfl, em, en, hy⟩ := inner_some ei
    obtain ⟨rj, _, _, _⟩ := tj
    cases rj
    have esl := slotL_some ex
    obtain ⟨v2, ev2, rp⟩ := r2.sl i _ esl
    rw [hs2, ev0] at ev2
    cases ev2
    have nd := r2.nd i
    obtain ⟨pa, vs, fp, rfl, q, rs, eg⟩ := rp.ow_inv
    · rw [eg] at nd
      obtain ⟨p1, us, x1, x2, x3, x4, x5⟩ := rs.inner n (List.nodup_cons.mp nd).2 en hy
      refine .inl ⟨pa, vs, m, .ref p1, rfl, rfl, sq_of q, atI_ix (by rw [← rs.len]; exact em) x1, ?_⟩
      rw [← hs2]
      refine seqES r2 h2' (fun _ => memL) fun k vk s3 g3 _ hs3 r3 tk a3 h3 => ?_
      -- slot i is as it was
      obtain ⟨f1, f2, f3⟩ := a3.fix i ht
      obtain ⟨pb, vs1, fp1, xs1, ys1, q1, q2, q3, q4, q5, q6, q7⟩ := mutL_open r3 h3
      rw [f1, esl] at q1
      cases q1
      rw [hs3, hs2, ev0] at q2
      cases q2
      have hH : s3.H pa = s2.H pa := f3 pa (by rw [eg]; exact List.mem_cons_self)
      rw [hH, q] at q3
      cases q3
      rw [f2, eg] at q5
      cases q5
      unfold setAt2 at q6
      rw [ei] at q6
      obtain ⟨zs, ez, e6⟩ := Option.map_eq_some_iff.mp q6
      subst e6
      obtain ⟨p1', us', y1, y2, y3, y4, y5⟩ := q4.inner n (List.nodup_cons.mp nd).2 en hy
      rw [x1] at y1
      cases y1
      unfold setAt at ez
      cases k with
      | int jj =>
        obtain ⟨rk, _, _, _⟩ := tk
        cases rk
        dsimp only at ez
        cases ej : ixN ys.length jj with
        | none => rw [ej] at ez; cases ez
        | some nn =>
          rw [ej] at ez
          dsimp only at ez
          split at ez
          · cases ez
            have rd2 := rd.mono (H' := s3.H) (Ex.refl B) (a2.trans a3).step.ext fun x hx => (by cases hx)
            have nw := y5 (us'.set nn v) (ys.set nn d) (Reps.set rd2 nn y3)
            have pne : pa ≠ p1 := fun z => (List.nodup_cons.mp nd).1 (by rw [z]; exact y4)
            have hp1 : p1 ∈ s3.φ i := by rw [f2, eg]; exact List.mem_cons_of_mem _ y4
            have hok := mut_ok (gt := []) (p := p1) (o := .lst (us'.set nn v)) (d' := .lst .ow (xs.set n (.lst .ow (ys.set nn d)))) (g := pa :: fp) r3 (by rw [f1]; exact esl) (by rw [hs3, hs2]; exact ev0) hp1
              (.lstO (by rw [upd_ne pne, hH]; exact q) nw rfl) nd (fun x hx => .inl (by rw [f2, eg]; exact hx)) (fun _ h => (by cases h)) (fun _ h => (by cases h))
            refine ⟨p1, us', jj, nn, rfl, rfl, y2, by rw [← y3.len]; exact ej, ?_⟩
            have z := q7 _ rfl hok (mut_goes r3 a3.drop0 hp1 fun x hx => .inl (by rw [f2, eg]; exact hx))
            show E.nx s2.σ (L2.upd s3.H p1 (.lst (us'.set nn v)))
            rw [← hs3]
            exact z
          · cases ez
      | _ => cases ez
theorem gs_set2 {c : Expr} {pos2 : Pos} {t3 : List Nat} {f : M D} (hv : PE X (.Name x p) (tVar i)) (hj : GE X G W t2 b w) (hk : GE X G W t3 c f) (he : GE X G W t1 a u) (ht : i ∉ t3 := by decide) (hpi : PlainIx b := by intro _ _; rfl)
    (hs : swapsWithSole [.Subscript (.Subscript (.Name x p) b pos2) c pos'] a pos.line X.env = pure false := by rfl) (hw : swappedStores [.Subscript (.Subscript (.Name x p) b pos2) c pos'] a X.env = pure none := by rfl)
    (h1 : (assignEach [.Subscript (.Subscript (.Name x p) b pos2) c pos'] X.env).map (·.2) = [assign (.Subscript (.Subscript (.Name x p) b pos2) c pos') X.env] := by rfl)
    (ha : ∀ v, assign (.Subscript (.Subscript (.Name x p) b pos2) c pos') X.env v = (do
      let ov ← holding [v] (eval (.Subscript (.Name x p) b pos2) X.env)
      let iv ← holding [v, ov] (eval c X.env)
      standAt pos'
      holding [v, ov, iv] (setItem ov iv v)
      release [v, ov, iv] []) := by intro _; rfl) : GS X G W (t1 ++ (t2 ++ (t3 ++ [i]))) (.Assign [.Subscript (.Subscript (.Name x p) b pos2) c pos'] a pos) (dSet2 i w f u) :=
  ps_mono (ps_asg (g_fz he) (pg_sub (pe_ix ix_seq hv hj hpi) hk set_list ha) hs hw h1) fun E σ H h => set2_core ht h
end
end Cs
namespace Cs
open PySem L2 Evl PyProof.Rows

/-! ## objects: o.f -/
def look (f : Str) : List Str → List D → Option D
  | k :: ks, d :: ds => if f == k then some d else look f ks ds
  | _, _ => none
def pFld (c f : Str) : D → PR
  | .obj _ c' ks ds => if c' = c then (match look f ks ds with
    | some d => if allF noOw d = true then .sc d else .bad
    | none => .bad) else .bad
  | _ => .bad
section
variable {T : Tx} {B H F : Hp}
theorem Rep.objS (eF : Ex F H) (eB : Ex B H) {o : Fl} {c : Str} {ks : List Str} {ds : List D} {v : V} {g : List Addr} (r : Rep T B H F (.obj o c ks ds) v g) : ∃ a dx C vs g', v = .ref a ∧ T.C c = some C ∧ H a = some (.ins C dx (ks.zip vs)) ∧ H dx = some (.own a) ∧ ks.length = vs.length ∧ Reps T B H F ds vs g' := by
  cases r with
  | objF hc h hd hl r => exact ⟨_, _, _, _, _, rfl, hc, eF _ _ h, eF _ _ hd, hl, r⟩
  | objB hc h hd hl r => exact ⟨_, _, _, _, _, rfl, hc, eB _ _ h, eB _ _ hd, hl, r⟩
  | objO hc h hd hl r e => exact ⟨_, _, _, _, _, rfl, hc, h, hd, hl, r⟩
theorem look_at {f : Str} : ∀ {ks : List Str} {ds : List D} {vs : List V} {g : List Addr} {d : D}, Reps T B H F ds vs g → look f ks ds = some d → ∃ v g', (ks.zip vs).lookup f = some v ∧ Rep T B H F d v g'
  | [], _, _, _, _, _, h => by unfold look at h; cases h
  | k :: ks, _, _, _, _, .nil, h => by unfold look at h; cases h
  | k :: ks, _, _, _, d, .cons (v := v) r rs e, h => by
    unfold look at h
    rw [List.zip_cons_cons, List.lookup_cons]
    cases hk : f == k with
    | true =>
      rw [hk, if_pos rfl] at h
      cases h
      exact ⟨v, _, rfl, r⟩
    | false =>
      rw [hk, if_neg Bool.false_ne_true] at h
      exact look_at rs h
end
/-- what a class must say of itself: a class of the text, f an attribute of its instances alone -/
structure ClsF (K : PySem.W.Frag) (C : Addr) (f : Str) : Prop where
  c : Cls K C
  n : NoAttr K C f
theorem p1_fld {T : Tx} {c f : Str} (hc : ∀ C, T.C c = some C → ClsF T.K C f) : P1 T (fun x H1 Q => ∃ a C dx fs v, x = .ref a ∧ H1 a = some (.ins C dx fs) ∧ Cls T.K C ∧ NoAttr T.K C f ∧ fs.lookup f = some v ∧ Q v H1) (pFld c f) := by
  intro B H F d v g eF eB r
  cases d with
  | obj o c' ks ds =>
    unfold pFld
    dsimp only
    split
    · rename_i e
      subst e
      cases el : look f ks ds with
      | none => trivial
      | some d =>
        dsimp only
        split
        · rename_i hn
          obtain ⟨a, dx, C, vs, g', rfl, h1, h2, h3, h4, rs⟩ := r.objS eF eB
          obtain ⟨w, g2, q1, q2⟩ := look_at (ks := ks) rs el
          exact ⟨w, rep_v q2 hn, fun Q q => ⟨a, C, dx, _, w, rfl, h2, (hc C h1).c, (hc C h1).n, q1, q⟩⟩
        · trivial
    · trivial
  | _ => trivial
section
variable {X : Cx} {G : Gx} {W : WX} {tc t1 t2 : List Nat} {a b e : Expr} {o : Opd} {pos pos' apos p p2 : Pos} {u w : M D} {i : Nat} {x : Str}
theorem g_fld {c f : Str} (hc : ∀ C, G.C c = some C → ClsF X.K C f) (h : GO X G W tc e o) (hb : attributeBase e f X.env (eval e X.env) = eval e X.env := by rfl) : GE X G W tc (.Attribute e f pos) (dOp1 (pFld c f) o) :=
  tun_of (p1_fld (T := tx X G) hc) h fun _ h => pe_fld h hb

/-! ## o.f = e -/
end
def putL (f : Str) (d : D) : List Str → List D → List Str × List D
  | k :: ks, x :: xs => if k = f then (k :: ks, d :: xs) else (k :: (putL f d ks xs).1, x :: (putL f d ks xs).2)
  | _, _ => ([f], [d])
section
variable {T : Tx} {B H F : Hp}
theorem put_at {f : Str} {d : D} {v : V} {g : List Addr} (rd : Rep T B H F d v g) (ng : g.Nodup) : ∀ {ks : List Str} {ds : List D} {vs : List V} {fp : List Addr}, Reps T B H F ds vs fp → ks.length = vs.length → fp.Nodup → (∀ a ∈ fp, a ∉ g) →
    ∃ vs' fp', Reps T B H F (putL f d ks ds).2 vs' fp' ∧ (putL f d ks ds).1.zip vs' = putF f v (ks.zip vs) ∧ (putL f d ks ds).1.length = vs'.length ∧ fp'.Nodup ∧ (∀ a ∈ fp', a ∈ fp ∨ a ∈ g) ∧ vs'.length ≤ vs.length + 1
  | [], _, _, _, .nil, _, _, _ => ⟨[v], g, .cons rd .nil (by simp), rfl, rfl, ng, fun a h => .inr h, by simp⟩
  | [], _, _, _, .cons _ _ _, hl, _, _ => by simp at hl
  | _ :: _, _, _, _, .nil, hl, _, _ => by simp at hl
  | k :: ks, x :: xs, _, _, .cons (f := f1) (g := g1) (v := w) (vs := ws) r rs e, hl, nd, dj => by
    subst e
    obtain ⟨n1, n2, n3⟩ := List.nodup_append.mp nd
    unfold putL
    by_cases hk : k = f
    · rw [if_pos hk]
      refine ⟨v :: ws, g ++ g1, .cons rd rs rfl, ?_, by simpa using hl, List.nodup_append.mpr ⟨ng, n2, fun a ha b hb e => dj b (List.mem_append.mpr (.inr hb)) (by rw [← e]; exact ha)⟩, fun a h => ?_, by simp⟩
      · rw [List.zip_cons_cons, List.zip_cons_cons]
        unfold putF
        rw [if_pos hk]
      · rcases List.mem_append.mp h with z | z
        · exact .inr z
        · exact .inl (List.mem_append.mpr (.inr z))
    · rw [if_neg hk]
      obtain ⟨vs', fp', q1, q2, q3, q4, q5, q6⟩ := put_at rd ng (ks := ks) rs (by simpa using hl) n2 fun a h => dj a (List.mem_append.mpr (.inr h))
      refine ⟨w :: vs', f1 ++ fp', .cons r q1 rfl, ?_, by simpa using q3, List.nodup_append.mpr ⟨n1, q4, fun a ha b hb e => ?_⟩, fun a h => ?_, by simp; omega⟩
      · rw [List.zip_cons_cons, List.zip_cons_cons]
        unfold putF
        rw [if_neg hk]
        exact congrArg _ q2
      · subst e
        rcases q5 a hb with z | z
        · exact n3 a ha a z rfl
        · exact dj a (List.mem_append.mpr (.inl ha)) z
      · rcases List.mem_append.mp h with z | z
        · exact .inl (List.mem_append.mpr (.inl z))
        · exact (q5 a z).imp (fun z => List.mem_append.mpr (.inr z)) id
end
def setF (c f : Str) (d : D) : D → Option D
  | .obj .ow c' ks ds => if c' = c ∧ ks.length < 900 then some (.obj .ow c (putL f d ks ds).1 (putL f d ks ds).2) else none
  | _ => none
def dSetF (i : Nat) (c f : Str) (u : M D) : M Flw := bnd u fun d ρ => match slot i ρ with
  | some o => (match setF c f d o with
    | some o' => .ok .nx (ρ.set i (.dt o'))
    | none => .bad)
  | none => .bad
section
variable {X : Cx} {G : Gx} {W : WX} {tc t1 t2 : List Nat} {a b e : Expr} {pos pos' apos p p2 : Pos} {u w : M D} {i : Nat} {x : Str}
theorem setF_core {T : Tx} {c f : Str} {σ : L2.St} {H : Hp} {E : Ends} (hc : ∀ C, T.C c = some C → ClsF T.K C f) (h : tDS T W (tc ++ [i]) (dSetF i c f u) E σ H) : sFld T.K (tVar i) (tD T W tc u) f E σ H := by
  obtain ⟨B, s, e1, e2, r, hp⟩ := h
  subst e1 e2
  refine seqES r hp (fun _ => memL) fun d v s1 g _ hs r1 t a h => ?_
  have h : Post (okS T B (tc ++ [i]) s E) (exS T W B (tc ++ [i]) s) (match slot i s1.ρ with
    | some o => (match setF c f d o with
      | some o' => .ok .nx (s1.ρ.set i (.dt o'))
      | none => .bad)
    | none => .bad) := h
  cases eo : slot i s1.ρ with
  | none => rw [eo] at h; exact h.elim
  | some o =>
    rw [eo] at h
    dsimp only at h
    cases ef : setF c f d o with
    | none => rw [ef] at h; exact h.elim
    | some o' =>
      rw [ef] at h
      obtain ⟨vo, evo, rp⟩ := r1.sl i o (slot_some eo)
      unfold setF at ef
      split at ef
      · rename_i c' ks ds
        split at ef
        · rename_i hcc
          obtain ⟨rfl, hkl⟩ := hcc
          cases ef
          have nd := r1.nd i
          have hobj : ∃ C ad dx vs fp, vo = .ref ad ∧ T.C c' = some C ∧ s1.H ad = some (.ins C dx (ks.zip vs)) ∧ s1.H dx = some (.own ad) ∧ ks.length = vs.length ∧ Reps T B s1.H s1.F ds vs fp ∧ s1.φ i = ad :: dx :: fp := by
            generalize s1.φ i = gp at rp
            cases rp with
            | objO q1 q2 q3 q4 q5 q6 => exact ⟨_, _, _, _, _, rfl, q1, q2, q3, q4, q5, q6⟩
          obtain ⟨C, ad, dx, vs, fp, rfl, q1, q2, q3, q4, q5, q6⟩ := hobj
          rw [q6] at nd
          obtain ⟨n1, n2⟩ := List.nodup_cons.mp nd
          obtain ⟨n3, n4⟩ := List.nodup_cons.mp n2
          have dfg : ∀ y ∈ ad :: dx :: fp, y ∉ g := fun y hy z => t.dj y z ⟨i, by rw [q6]; exact hy⟩
          obtain ⟨vs', fp', z1, z2, z3, z4, z5, z6⟩ := put_at (f := f) t.rep t.nd q5 q4 n4 fun y hy => dfg y (List.mem_cons_of_mem _ (List.mem_cons_of_mem _ hy))
          refine ⟨.ref ad, by rw [← hs]; exact evo, ad, C, dx, ks.zip vs, rfl, q2, (hc C q1).c, (hc C q1).n, ?_, ?_⟩
          · rw [List.length_zip]
            omega
          · have adx : dx ≠ ad := fun z => n1 (by rw [← z]; exact List.mem_cons_self)
            have keep : ∀ y, y ≠ ad → ∀ o, s1.H y = some o → upd s1.H ad (.ins C dx (putF f v (ks.zip vs))) y = some o := fun y hy o q => by rw [upd_ne hy]; exact q
            have ina : ∀ y ∈ fp', y ∈ ad :: dx :: fp ∨ y ∈ g := fun y hy => (z5 y hy).imp (fun z => List.mem_cons_of_mem _ (List.mem_cons_of_mem _ z)) id
            have nfa : ∀ y ∈ fp', y ≠ ad ∧ y ≠ dx := fun y hy => by
              rcases z5 y hy with z | z
              · exact ⟨fun e => n1 (by rw [← e]; exact List.mem_cons_of_mem _ z), fun e => n3 (by rw [← e]; exact z)⟩
              · exact ⟨fun e => dfg ad List.mem_cons_self (by rw [← e]; exact z), fun e => dfg dx (List.mem_cons_of_mem _ List.mem_cons_self) (by rw [← e]; exact z)⟩
            have hok := mut_ok (gt := g) (p := ad) (o := .ins C dx (putF f v (ks.zip vs))) (d' := .obj .ow c' (putL f d ks ds).1 (putL f d ks ds).2) (g := ad :: dx :: fp') r1 (slot_some eo) evo (by rw [q6]; exact List.mem_cons_self)
              (.objO q1 (by rw [upd_same, z2]) (by rw [upd_ne adx]; exact q3) z3 (z1.mono (Ex.refl B) (Ex.refl _) fun y hy => keep y (nfa y hy).1) rfl)
              (List.nodup_cons.mpr ⟨fun z => (List.mem_cons.mp z).elim (fun e => adx e.symm) fun z => (nfa ad z).1 rfl, List.nodup_cons.mpr ⟨fun z => (nfa dx z).2 rfl, z4⟩⟩)
              (fun y hy => by
                rw [q6]
                rcases List.mem_cons.mp hy with e | hy
                · exact .inl (by rw [e]; exact List.mem_cons_self)
                · rcases List.mem_cons.mp hy with e | hy
                  · exact .inl (by rw [e]; exact List.mem_cons_of_mem _ List.mem_cons_self)
                  · exact ina y hy) t.ap t.dj
            have z := h _ rfl hok (mut_goes r1 a (by rw [q6]; exact List.mem_cons_self) fun y hy => by
                rw [q6]
                rcases List.mem_cons.mp hy with e | hy
                · exact .inl (by rw [e]; exact List.mem_cons_self)
                · rcases List.mem_cons.mp hy with e | hy
                  · exact .inl (by rw [e]; exact List.mem_cons_of_mem _ List.mem_cons_self)
                  · exact ina y hy)
            rw [show (s1.mut i ad _ _ _).σ = s.σ from hs] at z
            exact z
        · cases ef
      · cases ef
theorem gs_setF {c f : Str} (hc : ∀ C, G.C c = some C → ClsF X.K C f) (hv : PE X (.Name x p) (tVar i)) (h : GE X G W tc a u) (hs : swapsWith a (some (.Attribute (.Name x p) f pos')) pos.line X.env = pure false := by rfl) : GS X G W (tc ++ [i]) (.Assign [.Attribute (.Name x p) f pos'] a pos) (dSetF i c f u) :=
  ps_mono (ps_fld hv h hs) fun E σ H h => setF_core (T := tx X G) hc h

/-! ## o.m(..) and C(..), what is raised told by the slots -/
theorem pe_methZ {m : Str} {C f : Addr} {k : Nat} {fd : FuncData} {ps : List Str} {sp : Sp} {E : L2.St → XK} {o : Expr} {es : List Expr} {ta : TE} {t : TA} {pl : Sem Bool} (he : PE X o ta) (c : Cls X.K C) (hm : Meth X.K C m f) (F : FnOk X.prog X.w X.K X.mg X.base (L2N.CX X.prog X.w) k f fd ps sp) (hr : Room k X.A) (hb : Binds X.K fd ps [])
    (hx : ∀ σ, PassesAt (L2N.CX X.prog X.w) X σ (E σ)) (ha : PA X (a :: es) t) (hst : starEach (a :: es) X.env = (false, eval a X.env) :: starEach es X.env) (hpl : (backTo pos (starEach es X.env)).any (·.1) = false)
    (ht : eval (.Call (.Attribute o m apos) (a :: es) [] pos) X.env = (do
      let ov ← eval o X.env
      standAt apos.atName
      let (f, first) ← holding [ov] (getMethod ov m pl)
      callWith pos f first (backTo pos (starEach (a :: es) X.env)) (backToKw pos (keywordEach [] X.env)))) :
    PE X (.Call (.Attribute o m apos) (a :: es) [] pos) (fun σ H Q => ta σ H fun y H1 => ∃ q dx fs, y = .ref q ∧ H1 q = some (.ins C dx fs) ∧ fs.lookup m = none ∧ t σ H1 fun vs H2 => sp (y :: vs) H2 Q (E σ)) := by
  constructor
  intro pins s σ H Q I h
  refine PySem.W.methodCall_KW (pl := pl) (thn (he.run pins s σ H _ I h) ?_) ht
  rintro v s1 ⟨y, H1, I1, ry, q, dx, fs, ey, eq, hno, hq⟩
  subst ey
  obtain rfl : v = Value.ref q := ry
  refine getmeth_ok I1 eq c hm hno (PySem.W.callWith_K (first := [.ref q]) (h₀ := X.base) I.ok.mod.kin hm.kp (thn (ha.run pos pins s1 σ H1 _ I1 hq) ?_) hst hpl)
  rintro us s2 ⟨vs, H2, I2, rv, q2⟩
  exact ⟨I2.kIn, run_fnS (us := .ref q :: us) (vs := .ref q :: vs) F hr hb (hx σ) I2 (.cons rfl rv) q2⟩
/-- the receiver is an instance of the class c without an attribute m -/
def isObj (c m : Str) : D → Bool
  | .obj _ c' ks _ => c' == c && ks.all (fun k => !(m == k))
  | _ => false
def chk (c m : Str) (a : Arg) (k : M D) : M D := match a with
  | (.l i, _) => fun ρ => match slot i ρ with
    | some d => if isObj c m d = true then k ρ else .bad
    | none => .bad
  | (.io i, _) => fun ρ => match slot i ρ with
    | some d => if isObj c m d = true then k ρ else .bad
    | none => .bad
  | (.v f, _) => fun ρ => match f ρ with
    | .ok d _ => if isObj c m d = true then k ρ else .bad
    | .exc _ _ _ _ => k ρ
    | .bad => .bad
def dMeth (c m : Str) (mn : List D → Res) (r : Arg) (ars : List Arg) : M D := chk c m r (dCall mn (r :: ars))
theorem isObj_at {T : Tx} {B H F : Hp} {c m : Str} {d : D} {v : V} {g : List Addr} (eF : Ex F H) (eB : Ex B H) (r : Rep T B H F d v g) (h : isObj c m d = true) : ∃ q C dx fs, v = .ref q ∧ T.C c = some C ∧ H q = some (.ins C dx fs) ∧ fs.lookup m = none := by
  cases d with
  | obj o c' ks ds =>
    have h := Bool.and_eq_true_iff.mp h
    have ec : c' = c := by simpa using h.1
    subst ec
    obtain ⟨a, dx, C, vs, g', rfl, h1, h2, h3, h4, rs⟩ := r.objS eF eB
    refine ⟨a, C, dx, _, rfl, h1, h2, ?_⟩
    have : ∀ {ks : List Str} {vs : List V}, ks.all (fun k => !(m == k)) = true → (ks.zip vs).lookup m = none := by
      intro ks
      induction ks with
      | nil => intro vs _; rfl
      | cons k ks ih =>
        intro vs hk
        cases vs with
        | nil => rfl
        | cons v vs =>
          rw [List.all_cons] at hk
          have hk := Bool.and_eq_true_iff.mp hk
          rw [List.zip_cons_cons, List.lookup_cons]
          have z : (m == k) = false := by simpa using hk.1
          rw [z]
          exact ih hk.2
    exact this h.2
  | _ => cases h
theorem meth_core {T : Tx} {c m : Str} {C : Addr} {mn : List D → Res} {r : Arg} {ars : List Arg} {σ : L2.St} {H : Hp} {Q : VK} (hC : T.C c = some C) (hn : (ios (r :: ars)).Nodup) (hl : ∀ i ∈ lns (r :: ars), i ∉ ios (r :: ars)) (h : tD T W (tcs (r :: ars) ++ ios (r :: ars)) (dMeth c m mn r ars) σ H Q) :
    rdA T W r σ H fun y H1 => ∃ q dx fs, y = .ref q ∧ H1 q = some (.ins C dx fs) ∧ fs.lookup m = none ∧ tRs T W ars σ H1 fun vs H2 => spM T mn (y :: vs) H2 Q (WE W σ) := by
  obtain ⟨B, s, e1, e2, rl, hp⟩ := h
  subst e1 e2
  obtain ⟨rk, tcr⟩ := r
  cases rk with
  | l i =>
    have hp : Post (okE T B _ s Q) (exE T W B _ s) (match slot i s.ρ with
      | some d => if isObj c m d = true then dCall mn ((.l i, tcr) :: ars) s.ρ else .bad
      | none => .bad) := hp
    cases es : slot i s.ρ with
    | none => rw [es] at hp; exact hp.elim
    | some d =>
      rw [es] at hp
      dsimp only at hp
      split at hp
      · rename_i ho
        obtain ⟨v, ev, rp⟩ := rl.sl i d (slot_some es)
        obtain ⟨q, C', dx, fs, rfl, hC', hq, hlk⟩ := isObj_at rl.exF rl.exB rp ho
        rw [hC] at hC'
        cases hC'
        refine ⟨.ref q, ev, q, dx, fs, rfl, hq, hlk, ?_⟩
        have hp1 : Post (okE T B (tcs ((.l i, tcr) :: ars) ++ ios ((.l i, tcr) :: ars)) s Q) (exE T W B (tcs ((.l i, tcr) :: ars) ++ ios ((.l i, tcr) :: ars)) s) (bnd (dArs ars) (fun ods => callD mn ((.l i, tcr) :: ars) (none :: ods)) s.ρ) := by
          have e : dCall mn ((.l i, tcr) :: ars) s.ρ = bnd (dArs ars) (fun ods => callD mn ((.l i, tcr) :: ars) (none :: ods)) s.ρ := by
            show bnd (bnd (dPk i) fun _ => bnd (dArs ars) fun ds => ret (none :: ds)) _ s.ρ = _
            rw [bnd_assoc, bnd_ok (show dPk i s.ρ = .ok d s.ρ by unfold dPk; rw [es]), bnd_assoc]
            rfl
          rw [← e]
          exact hp
        exact args_core (s0 := s) (u := []) (g0 := []) Goes.refl rfl (fun _ h => by cases h) (fun j z => memL z) rl hp1 fun ods vs s1 g r1 e3 it a h => call_fin hn hl r1 e3 ⟨.l (by rw [e3]; exact ev) it.its, it.nd, it.ap, it.dj⟩ a h
      · exact hp.elim
  | io i =>
    have hp : Post (okE T B _ s Q) (exE T W B _ s) (match slot i s.ρ with
      | some d => if isObj c m d = true then dCall mn ((.io i, tcr) :: ars) s.ρ else .bad
      | none => .bad) := hp
    cases es : slot i s.ρ with
    | none => rw [es] at hp; exact hp.elim
    | some d =>
      rw [es] at hp
      dsimp only at hp
      split at hp
      · rename_i ho
        obtain ⟨v, ev, rp⟩ := rl.sl i d (slot_some es)
        obtain ⟨q, C', dx, fs, rfl, hC', hq, hlk⟩ := isObj_at rl.exF rl.exB rp ho
        rw [hC] at hC'
        cases hC'
        refine ⟨.ref q, ev, q, dx, fs, rfl, hq, hlk, ?_⟩
        have hp1 : Post (okE T B (tcs ((.io i, tcr) :: ars) ++ ios ((.io i, tcr) :: ars)) s Q) (exE T W B (tcs ((.io i, tcr) :: ars) ++ ios ((.io i, tcr) :: ars)) s) (bnd (dArs ars) (fun ods => callD mn ((.io i, tcr) :: ars) (none :: ods)) s.ρ) := by
          have e : dCall mn ((.io i, tcr) :: ars) s.ρ = bnd (dArs ars) (fun ods => callD mn ((.io i, tcr) :: ars) (none :: ods)) s.ρ := by
            show bnd (bnd (dPk i) fun _ => bnd (dArs ars) fun ds => ret (none :: ds)) _ s.ρ = _
            rw [bnd_assoc, bnd_ok (show dPk i s.ρ = .ok d s.ρ by unfold dPk; rw [es]), bnd_assoc]
            rfl
          rw [← e]
          exact hp
        exact args_core (s0 := s) (u := []) (g0 := []) Goes.refl rfl (fun _ h => by cases h) (fun j z => memL z) rl hp1 fun ods vs s1 g r1 e3 it a h => call_fin hn hl r1 e3 ⟨.io (by rw [e3]; exact ev) it.its, it.nd, it.ap, it.dj⟩ a h
      · exact hp.elim
  | v f =>
    have hp : Post (okE T B _ s Q) (exE T W B _ s) (match f s.ρ with
      | .ok d _ => if isObj c m d = true then dCall mn ((.v f, tcr) :: ars) s.ρ else .bad
      | .exc _ _ _ _ => dCall mn ((.v f, tcr) :: ars) s.ρ
      | .bad => .bad) := hp
    have ecall : dCall mn ((.v f, tcr) :: ars) s.ρ = bnd f (fun d => bnd (dArs ars) fun ods => callD mn ((.v f, tcr) :: ars) (some d :: ods)) s.ρ := by
      show bnd (bnd f fun d => bnd (dArs ars) fun ds => ret (some d :: ds)) _ s.ρ = _
      rw [bnd_assoc]
      congr 1
      funext d ρ
      rw [bnd_assoc]
      rfl
    cases ef : f s.ρ with
    | bad => rw [ef] at hp; exact hp.elim
    | exc c ks xs ρ =>
      rw [ef] at hp
      dsimp only at hp
      rw [ecall, bnd_exc ef] at hp
      refine ⟨B, s, rfl, rfl, rl, ?_⟩
      rw [ef]
      exact fun cls dd s' q1 q2 q3 q4 q5 => hp cls dd s' q1 q2 q3 q4 (q5.wk fun j z => memL (memL z))
    | ok d ρ =>
      rw [ef] at hp
      dsimp only at hp
      split at hp
      · rename_i ho
        rw [ecall, bnd_ok ef] at hp
        refine ⟨B, s, rfl, rfl, rl, ?_⟩
        rw [ef]
        intro v s1 g q1 q2 r1 t a
        subst q1
        obtain ⟨q, C', dx, fs, rfl, hC', hq, hlk⟩ := isObj_at r1.exF r1.exB t.rep ho
        rw [hC] at hC'
        cases hC'
        refine ⟨q, dx, fs, rfl, hq, hlk, ?_⟩
        rw [← q2]
        refine args_core (s0 := s) (u := tcr) (g0 := g) a q2 (fun j z => memL (memL z)) (fun j z => memL (memR z)) r1 hp fun ods vs s2 g2 r2 e3 it a2 h => ?_
        have t2 := t.go a2
        have z := call_fin (s := s) hn hl r2 (e3.trans q2) ⟨.v t2.rep it.its, List.nodup_append.mpr ⟨t2.nd, it.nd, fun x hx y hy e => t.apart a2.step x hx (e ▸ hy)⟩, fun x hx => (List.mem_append.mp hx).elim (t2.ap x) (it.ap x), fun x hx => (List.mem_append.mp hx).elim (t2.dj x) (it.dj x)⟩ ((a.trans a2).less fun x hx => ?_) h
        · rw [q2]
          exact z
        · rcases List.mem_append.mp hx with z | z
          · exact List.mem_append.mpr (.inr z)
          · exact List.mem_append.mpr (.inl z)
      · exact hp.elim
/-- the receiver, as an argument -/
abbrev GR1 (X : Cx) (G : Gx) (W : WX) (e : Expr) (r : Arg) : Prop := PE X e (rdA (tx X G) W r)
theorem g_meth {c m : Str} {C f : Addr} {k : Nat} {fd : FuncData} {ps : List Str} {mn : List D → Res} {o : Expr} {es : List Expr} {r : Arg} {ars : List Arg} {pl : Sem Bool} (tk : L2N.Takes X W) (hC : G.C c = some C) (cl : Cls X.K C) (hm : Meth X.K C m f) (F : FnOk X.prog X.w X.K X.mg X.base (L2N.CX X.prog X.w) k f fd ps (spM (tx X G) mn))
    (hr : Room k X.A) (hb : Binds X.K fd ps []) (ho : GR1 X G W o r) (ha : GR X G W (a :: es) ars) (hn : (ios (r :: ars)).Nodup := by decide) (hl : ∀ i ∈ lns (r :: ars), i ∉ ios (r :: ars) := by decide)
    (hst : starEach (a :: es) X.env = (false, eval a X.env) :: starEach es X.env := by rfl) (hpl : (backTo pos (starEach es X.env)).any (·.1) = false := by rfl)
    (ht : eval (.Call (.Attribute o m apos) (a :: es) [] pos) X.env = (do
      let ov ← eval o X.env
      standAt apos.atName
      let (f, first) ← holding [ov] (getMethod ov m pl)
      callWith pos f first (backTo pos (starEach (a :: es) X.env)) (backToKw pos (keywordEach [] X.env))) := by rfl) :
    GE X G W (tcs (r :: ars) ++ ios (r :: ars)) (.Call (.Attribute o m apos) (a :: es) [] pos) (dMeth c m mn r ars) :=
  pe_mono (pe_methZ ho cl hm F hr hb (fun σ => L2N.passAt tk σ) ha hst hpl ht) fun σ H Q h => meth_core hC hn hl h
end
end Cs
namespace Cs
open PySem L2 Evl PyProof.Rows

/-! ## C(..): a new instance -/
def dMake (c : Str) (m : List D → Res) (ars : List Arg) : M D := bnd (dArs ars) fun ods ρ => match argD ρ ars ods with
  | none => .bad
  | some ds => match m (.obj .ow c [] [] :: ds) with
    | .ok .non (.dt o :: os) => .ok o (wb ars os ρ)
    | .exc c ks xs (_ :: os) => .exc c ks xs (wb ars os ρ)
    | _ => .bad
section
variable {T : Tx} {B : Hp} {W : WX}
theorem Its.mono {s s' : S5} (hσ : s'.σ = s.σ) (eH : ∀ a o, s.H a = some o → s'.H a = some o) (eF : Ex s.F s'.F) : ∀ {ars : List Arg} {ods : List (Option D)} {vs : List V} {g : List Addr}, Its T B s ars ods vs g → Its T B s' ars ods vs g
  | _, _, _, _, .nil => .nil
  | _, _, _, _, .v h t => .v (h.mono (Ex.refl B) eF fun a _ o q => eH a o q) (Its.mono hσ eH eF t)
  | _, _, _, _, .l h t => .l (by rw [hσ]; exact h) (Its.mono hσ eH eF t)
  | _, _, _, _, .io h t => .io (by rw [hσ]; exact h) (Its.mono hσ eH eF t)
theorem make_fin {m : List D → Res} {c : Str} {C : Addr} {ars : List Arg} {s s1 : S5} {ods : List (Option D)} {vs : List V} {g : List Addr} {Q : VK} (hC : T.C c = some C) (hn : (ios ars).Nodup) (hl : ∀ i ∈ lns ars, i ∉ ios ars) (r1 : Okk T B s1) (e3 : s1.σ = s.σ) (it : ItsT T B s1 ars ods vs g) (a : Goes (tcs ars) s s1 g)
    (h : Post (okE T B (tcs ars ++ ios ars) s Q) (exE T W B (tcs ars ++ ios ars) s) (match argD s1.ρ ars ods with
      | none => .bad
      | some ds => match m (.obj .ow c [] [] :: ds) with
        | .ok .non (.dt o :: os) => .ok o (wb ars os s1.ρ)
        | .exc c ks xs (_ :: os) => .exc c ks xs (wb ars os s1.ρ)
        | _ => .bad)) {x dx : Addr} (hx : s1.H x = none) (hdx : s1.H dx = none) (hne : dx ≠ x) :
    spM T m (.ref x :: vs) (upd (upd s1.H dx (.own x)) x (.ins C dx [])) (fun v H2 => v = .non ∧ Q (.ref x) H2) (WE W s.σ) := by
  have hx' : upd s1.H dx (.own x) x = none := by rw [upd_ne (fun z => hne z.symm)]; exact hx
  let sx : S5 := { s1 with H := upd (upd s1.H dx (.own x)) x (.ins C dx []) }
  have rx : Okk T B sx := (r1.new (o := .own x) hdx).new (o := .ins C dx []) hx'
  have eH : ∀ b o, s1.H b = some o → sx.H b = some o := fun b o q => by
    show upd (upd s1.H dx (.own x)) x (.ins C dx []) b = some o
    rw [upd_ne (ne_of_none q hx), upd_ne (ne_of_none q hdx)]
    exact q
  let ars' : List Arg := (.v bad, []) :: ars
  have fx : ∀ b, b ∈ [x, dx] → s1.H b = none := fun b hb => by
    rcases List.mem_cons.mp hb with z | z
    · rw [z]; exact hx
    · rw [List.mem_singleton.mp z]; exact hdx
  have rself : Rep T B sx.H sx.F (.obj .ow c [] []) (.ref x) [x, dx] := .objO hC upd_same (by show upd (upd s1.H dx (.own x)) x _ dx = _; rw [upd_ne hne, upd_same]) rfl .nil rfl
  have it' : ItsT T B sx ars' (some (.obj .ow c [] []) :: ods) (.ref x :: vs) ([x, dx] ++ g) := by
    refine ⟨.v rself (Its.mono (s := s1) (s' := sx) rfl eH (Ex.refl _) it.its), List.nodup_append.mpr ⟨List.nodup_cons.mpr ⟨fun z => hne (List.mem_singleton.mp z).symm, List.nodup_cons.mpr ⟨fun z => (by cases z), List.Pairwise.nil⟩⟩, it.nd, fun p hp q hq e => ?_⟩, fun p hp => ?_, fun p hp => ?_⟩
    · subst e
      have z := fx p hp
      obtain ⟨o, eo⟩ : ∃ o, s1.H p = some o := by
        have : ∀ {ars : List Arg} {ods : List (Option D)} {vs : List V} {g : List Addr}, Its T B s1 ars ods vs g → ∀ p ∈ g, ∃ o, s1.H p = some o := by
          intro ars ods vs g h
          induction h with
          | nil => intro p hp; cases hp
          | v h t ih => intro p hp; exact (List.mem_append.mp hp).elim (h.dom p) (ih p)
          | l h t ih => exact ih
          | io h t ih => exact ih
        exact this it.its p hq
      rw [z] at eo; cases eo
    · rcases List.mem_append.mp hp with z | z
      · exact ⟨r1.freeF (fx p z), r1.freeB (fx p z)⟩
      · exact it.ap p z
    · rcases List.mem_append.mp hp with z | z
      · exact r1.freeO (fx p z)
      · exact it.dj p z
  have hL1 : ∀ y ∈ (lns ars).flatMap s1.φ, B y = none := fun y hy => by
    obtain ⟨i, _, hi⟩ := List.mem_flatMap.mp hy
    exact (r1.ap i y hi).2
  cases ed : argD s1.ρ ars ods with
  | none => rw [ed] at h; exact h.elim
  | some ds =>
    rw [ed] at h
    have ed' : argD sx.ρ ars' (some (.obj .ow c [] []) :: ods) = some (.obj .ow c [] [] :: ds) := by
      show (argD s1.ρ ars ods).map _ = _
      rw [ed]
      rfl
    obtain ⟨φ0, p1, p2, p3, p4, p5, p6⟩ := entry (s := sx) (L := (lns ars).flatMap s1.φ) rx hL1 it'.its it'.nd it'.dj hn (fun i hi y hy => List.mem_flatMap.mpr ⟨i, hi, hy⟩) ed'
    have exB0 : Ex (ovl sx.H B ((lns ars).flatMap s1.φ)) sx.H := ovl_sub rx.exB
    have hB0 : ∀ y, ovl sx.H B ((lns ars).flatMap s1.φ) y = none → B y = none := fun y e => by
      by_cases z : y ∈ (lns ars).flatMap s1.φ
      · exact hL1 y z
      · rw [ovl_out z] at e; exact e
    have apart : ∀ y, O φ0 y → y ∉ (lns ars).flatMap s1.φ := fun y q z => by
      obtain ⟨i, hi, hy⟩ := List.mem_flatMap.mp z
      rcases p5 y q with w | ⟨j, hj, w⟩
      · exact it'.dj y w ⟨i, hy⟩
      · exact r1.dj i j y (fun w => hl i hi (by rw [w]; exact hj)) hy w
    let s2 : S5 := { σ := (V.ref x :: vs).map some, H := sx.H, F := sx.F, ρ := (D.obj .ow c [] [] :: ds).map Sl.dt, φ := φ0 }
    have r2 : Okk T (ovl sx.H B ((lns ars).flatMap s1.φ)) s2 := by
      refine ⟨by show ((D.obj .ow c [] [] :: ds).map Sl.dt).length = ((V.ref x :: vs).map some).length; rw [List.length_map, List.length_map, p6], exB0, rx.exF, rx.exP, fun k d q => ?_, fun k q => ?_, fun k q => ?_, p3, p4, fun k y q => ?_, rx.xt.ovlB fun a ha o e => by
        obtain ⟨j, _, hj⟩ := List.mem_flatMap.mp ha
        exact rx.ntO ⟨j, hj⟩ e⟩
      · have q : ((D.obj .ow c [] [] :: ds).map Sl.dt)[k]? = some (.dt d) := q
        rw [List.getElem?_map] at q
        cases e : (D.obj .ow c [] [] :: ds)[k]? with
        | none => rw [e] at q; cases q
        | some d' =>
          rw [e] at q
          cases q
          obtain ⟨v, q1, q2⟩ := p1 k d e
          exact ⟨v, by show ((V.ref x :: vs).map some)[k]? = _; rw [List.getElem?_map, q1]; rfl, q2⟩
      · have q : ((D.obj .ow c [] [] :: ds).map Sl.dt)[k]? = some .exn := q
        rw [List.getElem?_map] at q
        cases e : (D.obj .ow c [] [] :: ds)[k]? with
        | none => rw [e] at q; cases q
        | some d' => rw [e] at q; cases q
      · refine p2 k ?_
        cases e : (D.obj .ow c [] [] :: ds)[k]? with
        | none => exact List.getElem?_eq_none_iff.mp e
        | some d' =>
          refine absurd ?_ (q d')
          show ((D.obj .ow c [] [] :: ds).map Sl.dt)[k]? = _
          rw [List.getElem?_map, e]
          rfl
      · have na : y ∉ (lns ars).flatMap s1.φ := apart y ⟨k, q⟩
        rcases p5 y ⟨k, q⟩ with z | ⟨i, _, z⟩
        · exact ⟨(it'.ap y z).1, by rw [ovl_out na]; exact (it'.ap y z).2⟩
        · exact ⟨(r1.ap i y z).1, by rw [ovl_out na]; exact (r1.ap i y z).2⟩
    refine ⟨_, s2, _, rfl, rfl, rfl, r2, ?_⟩
    -- from s to sx
    have a0 : Goes (tcs ars) s sx g := ⟨⟨fun b o e n => (a.step.keep b o e n).trans fun u hu => .of (eH b u hu), a.step.ext, a.step.fn, a.step.on⟩, fun j hj => by
      obtain ⟨b1, b2, b3⟩ := a.fix j hj
      refine ⟨b1, b2, fun y hy => ?_⟩
      obtain ⟨o, eo⟩ := r1.dom ⟨j, by rw [b2]; exact hy⟩
      rw [← b3 y hy, eo]
      exact eH y o eo, a.sg⟩
    have new2 : ∀ y, y ∈ [x, dx] → (O s.φ y ∨ s.H y = none) := fun y hy => by
      cases e : s.H y with
      | none => exact .inr rfl
      | some o =>
        by_cases z : O s.φ y
        · exact .inl z
        · obtain ⟨u, this⟩ := (a.step.keep y o e z).there
          rw [fx y hy] at this; cases this
    have g3 : ∀ {H' F' : Hp} {O2 : Addr → Prop}, Step sx.H sx.F (Or2 (O sx.φ) ([x, dx] ++ g)) H' F' O2 → Step s.H s.F (O s.φ) H' F' O2 := fun {H' F' O2} st => by
      have z : Step s.H s.F (O s.φ) sx.H sx.F (Or2 (O sx.φ) ([x, dx] ++ g)) := ⟨a0.step.keep, a0.step.ext, a0.step.fn, fun y q => by
        rcases q with q | q
        · exact a0.step.on y (.inl q)
        · rcases List.mem_append.mp q with q | q
          · exact new2 y q
          · exact a0.step.on y (.inr q)⟩
      exact z.trans st
    dsimp only at h
    cases em : m (.obj .ow c [] [] :: ds) with
    | bad => rw [em] at h; exact h.elim
    | ok d os =>
      rw [em] at h
      cases d with
      | non =>
        match os, h with
        | .dt o :: os', h =>
          intro v s' gr x1 x2 r' t nd nb st
          obtain ⟨q1, q2, q3⟩ := after (s := sx) (ars := ars') (gr := s'.φ 0) rx it' p5 rx.exB hB0 r' x2 x1 nb (st.drop fun y q => q.elim .inl fun z => .inl ⟨0, z⟩)
          obtain ⟨rv, _, _, _⟩ := t
          cases rv
          obtain ⟨v0, ev0, rp0⟩ := r'.sl 0 o (by rw [x1]; rfl)
          rw [x2] at ev0
          cases ev0
          refine ⟨rfl, h (.ref x) { σ := s1.σ, H := s'.H, F := s'.F, ρ := wb ars os' s1.ρ, φ := wbF ars' s'.φ s1.φ } (s'.φ 0) rfl e3 q1 ⟨rp0.noB (nb 0 o rfl), r'.nd 0, fun y hy => ⟨(r'.ap 0 y hy).1, hB0 y (r'.ap 0 y hy).2⟩, fun y hy q => ?_⟩ ⟨g3 q2, fun j hj => ?_, fun j hj => ?_⟩⟩
          · obtain ⟨j, q⟩ := q
            rcases wb_at (s := sx) (ρ := s1.ρ) (φ := s1.φ) (os := .dt o :: os') (ψ := s'.φ) it'.its j with ⟨y1, y2, y3⟩ | ⟨y1, k, w, tc, y2, y3, y4, y5, y6⟩
            · have q : y ∈ wbF ars' s'.φ s1.φ j := q
              rw [y3] at q
              obtain ⟨o', e⟩ := r1.dom ⟨j, q⟩
              rcases st.on y (.inl ⟨0, hy⟩) with z | z
              · rcases p5 y z with z | ⟨i, hi, z⟩
                · exact it'.dj y z ⟨j, q⟩
                · exact r1.dj i j y (fun w => y1 (by rw [← w]; exact hi)) z q
              · rw [show s2.H y = sx.H y from rfl, eH y o' e] at z; cases z
            · have q : y ∈ wbF ars' s'.φ s1.φ j := q
              rw [y3] at q
              refine r'.dj 0 k y (fun z => ?_) hy q
              subst z
              cases y2
          · obtain ⟨b1, b2, b3⟩ := a0.fix j fun z => hj (memL z)
            obtain ⟨c1, c2, c3⟩ := q3 j fun z => hj (memR z)
            exact ⟨c1.trans b1, c2.trans b2, fun y hy => (c3 y (by rw [show sx.φ j = s.φ j from b2]; exact hy)).trans (b3 y hy)⟩
          · exact a0.sg j fun z => hj (memL z)
        | .un :: os', h => exact h.elim
        | .exn :: os', h => exact h.elim
        | [], h => exact h.elim
      | _ => exact h.elim
    | exc c' ks xs os =>
      rw [em] at h
      match os, h with
      | [], h => exact h.elim
      | o :: os', h =>
        intro cls dd s' x1 x2 r' xr nb st
        obtain ⟨q1, q2, q3⟩ := after (s := sx) (ars := ars') rx it' p5 rx.exB hB0 r' x2 x1 nb st.or0
        have z := h cls dd { σ := s1.σ, H := s'.H, F := s'.F, ρ := wb ars os' s1.ρ, φ := wbF ars' s'.φ s1.φ } rfl e3 q1 xr ⟨g3 q2, fun j hj => ?_, fun j hj => ?_⟩
        · show W cls dd s.σ s'.H
          rw [← e3]
          exact z
        · obtain ⟨b1, b2, b3⟩ := a0.fix j fun z => hj (memL z)
          obtain ⟨c1, c2, c3⟩ := q3 j fun z => hj (memR z)
          exact ⟨c1.trans b1, c2.trans b2, fun y hy => (c3 y (by rw [show sx.φ j = s.φ j from b2]; exact hy)).trans (b3 y hy)⟩
        · exact a0.sg j fun z => hj (memL z)
end
section
variable {X : Cx} {G : Gx} {W : WX} {tc : List Nat} {a e : Expr} {es : List Expr} {pos p : Pos}
theorem pe_makeZ {x : Str} {C f : Addr} {k : Nat} {fd : FuncData} {ps : List Str} {sp : Sp} {E : L2.St → XK} {t : TA} (M : Mk X.K C f) (F : FnOk X.prog X.w X.K X.mg X.base (L2N.CX X.prog X.w) k f fd ps sp) (hr : Room (k + 1) X.A) (hg : Gl X x) (hm : X.mg x = some (.ref C)) (hb : Binds X.K fd ps [])
    (hx : ∀ σ, PassesAt (L2N.CX X.prog X.w) X σ (E σ)) (ha : PA X (a :: es) t) (hdb : (x == ("__debug__" : Str)) = false) (he : starEach (a :: es) X.env = (false, eval a X.env) :: starEach es X.env) (hpl : (backTo pos (starEach es X.env)).any (·.1) = false) :
    PE X (.Call (.Name x p) (a :: es) [] pos) (fun σ H Q => t σ H fun vs H1 => ∀ y dx, H1 y = none → H1 dx = none → dx ≠ y → sp (.ref y :: vs) (upd (upd H1 dx (.own y)) y (.ins C dx [])) (fun v H2 => v = .non ∧ Q (.ref y) H2) (E σ)) := by
  constructor
  intro pins s σ H Q I h
  refine wpAny_Call_Name_kw (ld_glob I hg hm ?_ hdb)
  refine PySem.W.callWith_K (h₀ := X.base) I.ok.mod.kin M.kp (thn (ha.run pos pins s σ H _ I h) ?_) he hpl
  rintro us s1 ⟨vs, H1, I1, r, q⟩
  refine ⟨I1.kIn, ?_⟩
  -- the new instance at size + 1, its dict at size
  have hq := q (s1.heap.objs.size + 1) s1.heap.objs.size (I1.hok.fresh (Nat.le_succ _)) (I1.hok.fresh (Nat.le_refl _)) (Nat.ne_of_lt (Nat.lt_succ_self _))
  have I2 := Inv.made (C := C) I1
  have hl : (Value.ref (s1.heap.objs.size + 1) :: us).length = ps.length := by
    have z := F.len _ _ _ _ hq
    rw [List.length_cons] at z ⊢
    rw [← r.length]
    exact z
  have b := hb _ (Value.ref (s1.heap.objs.size + 1) :: us) I2.kIn (by rw [List.append_nil]; exact hl)
  rw [List.append_nil] at b
  refine wpAny_call (make_map (f := f) I1.kIn M.makes M.init (beq_iff_eq.mp M.fn) (codeAny_mono (F.run _ X.stack _ _ ⟨Value.ref (s1.heap.objs.size + 1) :: us, []⟩ (Value.ref (s1.heap.objs.size + 1) :: us) (V.ref (s1.heap.objs.size + 1) :: vs) _ (E σ) (hr.make C us []) (I2.env0.make C us []) b (.cons rfl r) hq) ?_))
  intro res s' hq'
  cases res with
  | error er => exact hx σ pins _ _ er s' I2 hq'
  | ok fl =>
    cases fl with
    | ret u =>
      obtain ⟨v, H', I3, rv, ev, q3⟩ := I2.after hq'
      subst ev
      exact ⟨rv, V.ref (s1.heap.objs.size + 1), H', I3, rfl, q3⟩
    | next => exact hq'.elim
    | brk => exact hq'.elim
    | cont => exact hq'.elim
theorem g_make {c : Str} {C f : Addr} {k : Nat} {fd : FuncData} {ps : List Str} {mn : List D → Res} {ars : List Arg} (tk : L2N.Takes X W) (hC : G.C c = some C) (M : Mk X.K C f) (F : FnOk X.prog X.w X.K X.mg X.base (L2N.CX X.prog X.w) k f fd ps (spM (tx X G) mn)) (hr : Room (k + 1) X.A) (hg : Gl X c) (hm : X.mg c = some (.ref C)) (hb : Binds X.K fd ps [])
    (ha : GR X G W (a :: es) ars) (hn : (ios ars).Nodup := by decide) (hl : ∀ i ∈ lns ars, i ∉ ios ars := by decide) (hdb : (c == ("__debug__" : Str)) = false := by decide) (he : starEach (a :: es) X.env = (false, eval a X.env) :: starEach es X.env := by rfl) (hpl : (backTo pos (starEach es X.env)).any (·.1) = false := by rfl) :
    GE X G W (tcs ars ++ ios ars) (.Call (.Name c p) (a :: es) [] pos) (dMake c mn ars) :=
  pe_mono (pe_makeZ M F hr hg hm hb (fun σ => L2N.passAt tk σ) ha hdb he hpl) fun σ H Q ⟨B, s, e1, e2, r, hp⟩ => by
    subst e1 e2
    exact args_core (s0 := s) (u := []) (g0 := []) Goes.refl rfl (fun _ h => by cases h) (fun j q => memL q) r hp fun ods vs s1 g r1 e3 it a h x dx hx hdx hne => make_fin (T := tx X G) hC hn hl r1 e3 it a h hx hdx hne
end
end Cs
namespace Cs
open PySem L2 Evl PyProof.Rows

/-! ## several except clauses, with and without a name -/
section
variable {X : Cx}
end
end Cs
namespace Cs
open PySem L2 Evl PyProof.Rows

/-! ## the same data under another text -/
section
variable {T T' : Tx} {B H F : Hp}
mutual
theorem Rep.tx (eK : T.K = T'.K) (eC : T.C = T'.C) : ∀ {d : D} {v : V} {fp : List Addr}, Rep T B H F d v fp → Rep T' B H F d v fp
  | _, _, _, .non => .non
  | _, _, _, .bl b => .bl b
  | _, _, _, .int i => .int i
  | _, _, _, .str s hs => .str s hs
  | _, _, _, .cls h => .cls (by rw [← eC]; exact h)
  | _, _, _, .tup h r => .tup (by rw [← eK]; exact h) (Reps.tx eK eC r)
  | _, _, _, .lstF h r => .lstF h (Reps.tx eK eC r)
  | _, _, _, .lstR h r => .lstR (by rw [← eK]; exact h) (Reps.tx eK eC r)
  | _, _, _, .lstB h r => .lstB h (Reps.tx eK eC r)
  | _, _, _, .lstO h r e => .lstO h (Reps.tx eK eC r) e
  | _, _, _, .dctF h l r => .dctF h l (Reps.tx eK eC r)
  | _, _, _, .dctB h l r => .dctB h l (Reps.tx eK eC r)
  | _, _, _, .dctO h l r e => .dctO h l (Reps.tx eK eC r) e
  | _, _, _, .objF c h h2 l r => .objF (by rw [← eC]; exact c) h h2 l (Reps.tx eK eC r)
  | _, _, _, .objB c h h2 l r => .objB (by rw [← eC]; exact c) h h2 l (Reps.tx eK eC r)
  | _, _, _, .objO c h h2 l r e => .objO (by rw [← eC]; exact c) h h2 l (Reps.tx eK eC r) e
theorem Reps.tx (eK : T.K = T'.K) (eC : T.C = T'.C) : ∀ {ds : List D} {vs : List V} {fp : List Addr}, Reps T B H F ds vs fp → Reps T' B H F ds vs fp
  | _, _, _, .nil => .nil
  | _, _, _, .cons r rs e => .cons (Rep.tx eK eC r) (Reps.tx eK eC rs) e
end
theorem Rep.to {TB TB' : List (Addr × Str)} {K : PySem.W.Frag} {C : Str → Option Addr} {P P' : Hp} {X X' : Option Addr} {B H F : Hp} {d : D} {v : V} {fp : List Addr} (h : Rep ⟨K, C, P, X, TB⟩ B H F d v fp) : Rep ⟨K, C, P', X', TB'⟩ B H F d v fp := Rep.tx (T := ⟨K, C, P, X, TB⟩) (T' := ⟨K, C, P', X', TB'⟩) rfl rfl h
theorem Reps.to {TB TB' : List (Addr × Str)} {K : PySem.W.Frag} {C : Str → Option Addr} {P P' : Hp} {X X' : Option Addr} {B H F : Hp} {d : List D} {v : List V} {fp : List Addr} (h : Reps ⟨K, C, P, X, TB⟩ B H F d v fp) : Reps ⟨K, C, P', X', TB'⟩ B H F d v fp := Reps.tx (T := ⟨K, C, P, X, TB⟩) (T' := ⟨K, C, P', X', TB'⟩) rfl rfl h
end
/-! ## try -/
section
variable {X : Cx} {G : Gx} {W : WX} {tc tb : List Nat}
theorem Rel.exn {T : Tx} {σ : L2.St} {B H F : Hp} {ρ : En} {φ : Nat → List Addr} {a : Addr} {i : Nat} (hX : T.X = some a) (r : Rel T σ B H F ρ φ) (hi : i < ρ.length) : Rel T (σ.set i (some (.ref a))) B H F (ρ.set i .exn) (fun j => if j = i then [] else φ j) := by
  have z := r.take (i := i)
  refine ⟨by rw [List.length_set, List.length_set]; exact r.len, r.exB, r.exF, r.exP, fun j d q => ?_, fun j q => ?_, fun j q => ?_, z.nd, z.dj, z.ap, r.xt⟩
  · by_cases e : j = i
    · subst e
      rw [List.getElem?_set_self hi] at q; cases q
    · rw [List.getElem?_set_ne fun y => e y.symm] at q
      obtain ⟨v, ev, rp⟩ := r.sl j d q
      exact ⟨v, by rw [List.getElem?_set_ne fun y => e y.symm]; exact ev, by rw [if_neg e]; exact rp⟩
  · by_cases e : j = i
    · subst e
      exact ⟨a, hX, List.getElem?_set_self (by rw [← r.len]; exact hi)⟩
    · rw [List.getElem?_set_ne fun y => e y.symm] at q
      obtain ⟨b, e1, e2⟩ := r.xn j q
      exact ⟨b, e1, by rw [List.getElem?_set_ne fun y => e y.symm]; exact e2⟩
  · by_cases e : j = i
    · rw [if_pos e]
    · rw [if_neg e]
      refine r.em j fun d h => q d ?_
      rw [List.getElem?_set_ne fun y => e y.symm]
      exact h
end
end Cs
namespace Cs
open PySem L2 Evl PyProof.Rows

/-! ## the __init__ of an own exception: each field its argument -/
/-- what stands behind: the object at a, its dict at dx with the fields fs -/
structure XEnd (a C dx : Addr) (fs : List (Str × V)) (H H' : Hp) : Prop where
  obj : H' a = some (exo a C (some dx))
  dic : H' dx = some (exd dx fs)
  oth : ∀ b, b ≠ a → b ≠ dx → H' b = H b
def spXP (K : PySem.W.Frag) (ks : List Str) : Sp := fun vs H Q _ => ∃ a C xs, vs = .ref a :: xs ∧ xs.length = ks.length ∧ OexC K C ∧ (∀ f ∈ ks, PySem.W.findIn K (.ref C) f = some none) ∧ H a = some (exo a C none) ∧
  ∀ dx H', H dx = none → XEnd a C dx ((ks.zip xs).reverse) H H' → Q .non H'
section
variable {X : Cx}
/-- the statements self.f = f, the arguments from slot n on -/
inductive InitS (X : Cx) : Nat → List Stmt → List Str → Prop
  | nil {n : Nat} : InitS X n [] []
  | cons {n : Nat} {st : Stmt} {f : Str} {r : List Stmt} {ks : List Str} (h : PS X st (tOst X.K f (tVar 0) (tVar n))) (t : InitS X (n + 1) r ks) : InitS X n (st :: r) (f :: ks)
theorem init_rest {a C : Addr} (T : OexC X.K C) : ∀ {n : Nat} {sts : List Stmt} {ks : List Str}, InitS X n sts ks → PSs X sts (fun D σ H => ∃ dx fs xs, σ[0]? = some (some (.ref a)) ∧ H a = some (exo a C (some dx)) ∧ H dx = some (exd dx fs) ∧ dx ≠ a ∧ fs.length + ks.length ≤ 900 ∧ (∀ f ∈ ks, PySem.W.findIn X.K (.ref C) f = some none) ∧ xs.length = ks.length ∧ (∀ (i : Nat) v, xs[i]? = some v → σ[n + i]? = some (some v)) ∧ ∀ H', XEnd a C dx ((ks.zip xs).reverse ++ fs) H H' → D.nx σ H')
  | _, _, _, .nil => pss_mono pss_nil fun D σ H ⟨dx, fs, xs, h0, h1, h2, hne, _, _, h3, _, hq⟩ => by
    obtain rfl : xs = [] := List.length_eq_zero_iff.mp h3
    exact hq H ⟨h1, h2, fun _ _ _ => rfl⟩
  | n, _, _, .cons (f := f) (ks := ks) h t => pss_mono (pss_cons h (init_rest T t)) fun D σ H ⟨dx, fs, xs, h0, h1, h2, hne, h9, hf, h3, h4, hq⟩ => by
    cases xs with
    | nil => cases h3
    | cons x xs =>
      refine ⟨x, h4 0 x rfl, .ref a, h0, a, C, rfl, T, hf f List.mem_cons_self, .inr ⟨dx, fs, h1, h2, by simp only [List.length_cons] at h9; omega, dx, (f, x) :: fs, xs, h0, ?_, upd_same, hne, ?_, fun g hg => hf g (List.mem_cons_of_mem _ hg), Nat.succ.inj h3, fun i v e => ?_, fun H' z => hq H' ⟨z.obj, ?_, fun b b1 b2 => ?_⟩⟩⟩
      · rw [upd_ne fun z => hne z.symm]; exact h1
      · simp only [List.length_cons] at h9 ⊢; omega
      · have z := h4 (i + 1) v e
        rw [← z]
        congr 1
        omega
      · have y := z.dic
        rw [List.zip_cons_cons, List.reverse_cons, List.append_assoc]
        exact y
      · rw [z.oth b b1 b2, upd_ne b2]
end
/-- THE RULE for such an __init__ -/
theorem fn_xinit {P : Program} {w : World} {K : PySem.W.Frag} {mg : Str → Option Value} {base : Heap} {x qual : Str} {st : Stmt} {f : Addr} {fd : FuncData} {ks : List Str}
    (F : Fun K x qual st f fd) (S : FnScope ("self" :: ks) ("self" :: ks) (defScope st)) (h9 : ks.length < 900) (h0 : ks ≠ [])
    (hd : ∀ (cdv : Value) (A : Around) (outer : List Env) (s : Shared) (H : Hp) (E : XK), InitS (cxOf CX0 P w K mg base ("self" :: ks) qual (defScope st) f cdv A outer s H E).nox 1 (defBody st) ks) :
    FnOk P w K mg base CX0 1 f fd ("self" :: ks) (spXP K ks) := by
  refine F.ok S (fun vs H Q E ⟨a, C, xs, e, hl, _⟩ => by rw [e, List.length_cons, List.length_cons, hl]) (fun cdv A outer s H vs Q E hr ⟨a, C, xs, e, hl, T, hf, ha, hq⟩ => ?_)
  subst e
  have I := hd cdv A outer s H E
  have hs : ∀ (i : Nat) v, xs[i]? = some v → (L2.start ("self" :: ks) (V.ref a :: xs))[1 + i]? = some (some v) := fun i v e => by
    unfold L2.start
    have hi : i < xs.length := by
      rcases Nat.lt_or_ge i xs.length with z | z
      · exact z
      · rw [List.getElem?_eq_none z] at e; cases e
    rw [List.getElem?_append_left (by rw [List.length_map, List.length_cons]; omega), List.getElem?_map, Nat.add_comm, List.getElem?_cons_succ, e]
    rfl
  cases ks with
  | nil => exact absurd rfl h0
  | cons g ks =>
    cases xs with
    | nil => cases hl
    | cons y xs =>
      revert I
      generalize defBody st = sts
      intro I
      cases I with
      | cons h t =>
        refine ⟨_, pss_cons h (init_rest (a := a) (C := C) (X := (cxOf CX0 P w K mg base ("self" :: g :: ks) qual (defScope st) f cdv A outer s H E).nox) T t), ?_⟩
        refine ⟨y, hs 0 y rfl, .ref a, rfl, a, C, rfl, T, hf g List.mem_cons_self, .inl ⟨ha, fun dx hdx hne => ⟨dx, [(g, y)], xs, rfl, upd_same, ?_, hne, ?_, fun z hz => hf z (List.mem_cons_of_mem _ hz), Nat.succ.inj hl, fun i v e => ?_, fun H' z => hq dx H' hdx ⟨z.obj, ?_, fun b b1 b2 => ?_⟩⟩⟩⟩
        · rw [upd_ne hne]; exact upd_same
        · simp only [List.length_cons, List.length_nil] at h9 ⊢; omega
        · have z := hs (i + 1) v e
          rw [← z]
          congr 1
          omega
        · have y := z.dic
          rw [List.zip_cons_cons, List.reverse_cons]
          exact y
        · rw [z.oth b b1 b2, upd_ne b1, upd_ne b2]

/-! ## raise -/
def dRaise (c : Str) (ks : List Str) (f : M (List D)) : M Flw := bnd f fun ds ρ => if ds.length = ks.length ∧ allFs noBo ds = true then .exc c ks (mapFs flFrz ds) ρ else .bad
theorem lookup_zip : ∀ {ks : List Str} {vs : List V} {i : Nat} {k : Str} {v : V}, ks.Nodup → ks[i]? = some k → vs[i]? = some v → (ks.zip vs).lookup k = some v
  | [], _, _, _, _, _, h, _ => by simp at h
  | _ :: _, [], _, _, _, _, _, h => by simp at h
  | a :: ks, b :: vs, 0, k, v, _, h1, h2 => by
    cases Option.some.inj h1
    cases Option.some.inj h2
    simp [List.lookup]
  | a :: ks, b :: vs, i + 1, k, v, hn, h1, h2 => by
    have h1 : ks[i]? = some k := h1
    have h2 : vs[i]? = some v := h2
    have hne : k ≠ a := fun e => (List.nodup_cons.mp hn).1 (by rw [← e]; exact List.mem_of_getElem? h1)
    have e : (k == a) = false := by simpa using hne
    rw [List.zip_cons_cons, List.lookup_cons, e]
    exact lookup_zip (List.nodup_cons.mp hn).2 h1 h2
theorem lookup_app {k : Str} : ∀ {l m : List (Str × V)}, (l ++ m).lookup k = (l.lookup k).or (m.lookup k)
  | [], m => by simp
  | (a, b) :: l, m => by
    rw [List.cons_append, List.lookup_cons, List.lookup_cons]
    cases e : k == a with
    | true => rfl
    | false => exact lookup_app
theorem lookup_rev : ∀ {ks : List Str} {vs : List V}, ks.length = vs.length → ks.Nodup → ∀ k, (ks.zip vs).reverse.lookup k = (ks.zip vs).lookup k
  | [], _, _, _, _ => rfl
  | _ :: _, [], h, _, _ => by cases h
  | a :: ks, b :: vs, h, hn, k => by
    rw [List.zip_cons_cons, List.reverse_cons, lookup_app, lookup_rev (Nat.succ.inj h) (List.nodup_cons.mp hn).2, List.lookup_cons, List.lookup_cons]
    cases e : k == a with
    | false => simp [List.lookup]
    | true =>
      have e : k = a := by simpa using e
      subst e
      have z : (ks.zip vs).lookup k = none := by
        rw [List.lookup_eq_none_iff]
        intro p hp
        have hm := (List.of_mem_zip hp).1
        have : k ≠ p.1 := fun e => (List.nodup_cons.mp hn).1 (by rw [e]; exact hm)
        simpa using this
      rw [z]
      rfl
/-- an own exception is made where nothing is handled: its context is None -/
theorem oex_call {X : Cx} {CX : CXT} {C fI : Addr} {k : Nat} {fd : FuncData} {ps : List Str} {sp : Sp} {pins : List (Addr × Obj)} {σ : L2.St} {Q : XK} {Z : Hp} {t0 : Shared} {us : List Value} {vs : List V}
    (T : OexC X.K C) (iC : PySem.W.findIn X.K (.ref C) "__init__" = some (some (.ref fI))) (tI : PySem.W.typeIn X.K (.ref fI) = some (.type "function")) (F1 : FnOk X.prog X.w X.K X.mg X.base CX k fI fd ps sp) (hr : Room (k + 1) X.A) (hb : Binds X.K fd ps []) (hx : Passes CX X (fun _ _ _ => False))
    (J : Inv X pins σ Z t0) (rv : Vals vs us) (h9 : vs.length ≤ 1000)
    (hq : ∀ a, Z a = none → sp (.ref a :: vs) (upd Z a (exo a C none)) (fun v Y => v = .non ∧ ∃ (d : Addr) (fs : List (Str × V)), Y a = some (exo a C (some d)) ∧ Y d = some (exd d fs) ∧ Z d = none ∧ Q (.ref C) (some d) (upd (del Y a) d (.xd fs))) (fun _ _ _ => False)) :
    wpAny (model X.prog X.w) X.A (call (.ref C) us) (L2N.MkP X pins σ Q) X.xe t0 := by
  obtain ⟨nm, qn, N, bs, bm, sn, sub, ab, col, dd, k0, k1, k2, k3, k5, hC, hbm⟩ := T.cls
  obtain ⟨hh, gg, dr, tk, os⟩ := t0
  let y : Addr := hh.objs.size + 1
  let h2 : Heap := (hh.push (PySem.W.kdv_tup us)).push (PySem.HandSPX.excO C hh.objs.size)
  have up2 : ∀ b o, hh.get? b = some o → h2.get? b = some o := fun b o e => Heap.get?_push_of_some _ (Heap.get?_push_of_some _ e)
  have le : hh.objs.size ≤ y := Nat.le_succ _
  have at2 : h2.get? y = some (PySem.HandSPX.excO C hh.objs.size) := by
    show ((hh.push (PySem.W.kdv_tup us)).push (PySem.HandSPX.excO C hh.objs.size)).get? (hh.objs.size + 1) = _
    heap_get
  have sq := hq y (J.hok.fresh le)
  have J2 : Inv X pins σ (upd Z y (exo y C none)) ⟨h2, gg, dr, tk, os⟩ := J.laid (t' := tk) (a := y) (o := exo y C none) (h' := h2) up2 le (exo_ok at2)
  have rv2 : Vals (V.ref y :: vs) (Value.ref y :: us) := .cons rfl rv
  have ln : (Value.ref y :: us).length = ps.length := by
    rw [← rv2.length]
    exact F1.len _ _ _ _ sq
  have lu : us.length ≤ sizeLine := by
    have := rv.length
    rw [sizeLine_eq]
    omega
  have body := F1.run _ X.stack _ _ ⟨Value.ref y :: us, []⟩ (Value.ref y :: us) _ _ (fun _ _ _ => False) (hr.make C us []) (J2.env0.make C us []) (by have z := hb _ (Value.ref y :: us) J2.kIn (by simpa using ln); simpa using z) rv2 sq
  refine wpAny_call (PySem.HandSPX.call_own F.excBase_ValueError (fun Y => PySem.HandSPX.refsVE_contains Y bm hbm) (J.kIn _ _ hC) (PySem.W.looks_findIn J.kIn iC) (fun self => PySem.W.bind_fn J.kIn self tI) lu (codeAny_mono body fun r t hr2 => ?_))
  cases r with
  | error er => exact hx pins σ _ _ er t J2 hr2
  | ok fl =>
    cases fl with
    | next => exact hr2.elim
    | brk => exact hr2.elim
    | cont => exact hr2.elim
    | ret u =>
      obtain ⟨v, H2, os2, bare2, un2, hok2, rel, ev, d, fs, ea, ed, hd1, q2⟩ := hr2
      subst ev
      obtain ⟨h3, g3, d3, t3, os3⟩ := t
      obtain ⟨tt, G, I, kG, ge, hoe, na⟩ := mk_end0 (d2 := d3) (t2 := t3) J le up2 un2 hok2 os2 bare2 ea ed hd1
      exact ⟨rel, ⟨y, _, _, ⟨G, g3, d3, t3, os3⟩, _, .ref C, some d, rfl, I, kG, ge, hoe, ⟨rfl, rfl, fun w e => by cases e; rfl⟩, rfl, rfl, na, rfl, bare2, raises_own T.exC T.tyC, q2⟩⟩
theorem pmk_new {X : Cx} {CX : CXT} {x : Str} {C fI : Addr} {k : Nat} {fd : FuncData} {ps : List Str} {sp : Sp} {e : Expr} {es : List Expr} {p pos : Pos} {ta : TA} (T : OexC X.K C) (iC : PySem.W.findIn X.K (.ref C) "__init__" = some (some (.ref fI))) (tI : PySem.W.typeIn X.K (.ref fI) = some (.type "function"))
    (F1 : FnOk X.prog X.w X.K X.mg X.base CX k fI fd ps sp) (hr : Room (k + 1) X.A) (hb : Binds X.K fd ps []) (hx : Passes CX X (fun _ _ _ => False)) (hg : Gl X x) (hm : X.mg x = some (.ref C)) (ha : PA X (e :: es) ta)
    (hdb : (x == ("__debug__" : Str)) = false) (he : starEach (e :: es) X.env = (false, eval e X.env) :: starEach es X.env) (hpl : (backTo pos (starEach es X.env)).any (·.1) = false) :
    L2N.PMk X (.Call (.Name x p) (e :: es) [] pos) (tMkO C sp [] ta) := by
  intro pins s σ H Q I h
  refine wpAny_Call_Name_kw (ld_glob I hg hm ?_ hdb)
  refine PySem.W.callWith_K (h₀ := X.base) I.ok.mod.kin T.kC (thn (ha.run pos pins s σ H _ I h) fun us s1 ⟨vs, H1, I1, r1, hz, q1⟩ => ⟨I1.kIn, ?_⟩) he hpl
  exact oex_call T iC tI F1 hr hb hx I1 r1 hz fun a ha => by
    have z := q1 a ha
    rw [List.append_nil] at z
    exact z
section
variable {X : Cx} {G : Gx} {W : WX} {tc : List Nat} {e : Expr} {es : List Expr} {p pos pos2 : Pos}
theorem Reps.noB2 {T : Tx} {B B' H H' F : Hp} {ds : List D} {vs : List V} (h : Reps T B H F ds vs []) (hb : allFs noBo ds = true) : Reps T B' H' F ds vs [] :=
  (h.noB (B' := B') hb).mono (Ex.refl _) (Ex.refl _) fun _ z => by cases z
theorem Tmps.frz {T : Tx} {B H F : Hp} {φ : Nat → List Addr} {d : List D} {v : List V} {g : List Addr} (t : Tmps T B H F φ d v g) : Reps T B H (ovl H F g) (mapFs flFrz d) v [] := t.rep.frz (ovl_ex fun a h => (t.ap a h).1) fun a ha o e => by rw [ovl_in ha]; exact e
mutual
theorem noBo_frz : ∀ {d : D}, allF noBo d = true → allF noBo (mapF flFrz d) = true
  | .non, _ => rfl
  | .bl _, _ => rfl
  | .int _, _ => rfl
  | .str _, _ => rfl
  | .cls _, _ => rfl
  | .tup xs, h => by
    unfold mapF allF
    exact noBos_frz (allF_tup h)
  | .lst o xs, h => by
    have ⟨h1, h2⟩ := allF_lst h
    unfold mapF allF
    rw [noBos_frz h2, Bool.and_true]
    cases o <;> first | rfl | exact h1
  | .dct o ks xs, h => by
    have ⟨h1, h2⟩ := allF_dct h
    unfold mapF allF
    rw [noBos_frz h2, Bool.and_true]
    cases o <;> first | rfl | exact h1
  | .obj o c ks xs, h => by
    have ⟨h1, h2⟩ := allF_obj h
    unfold mapF allF
    rw [noBos_frz h2, Bool.and_true]
    cases o <;> first | rfl | exact h1
theorem noBos_frz : ∀ {d : List D}, allFs noBo d = true → allFs noBo (mapFs flFrz d) = true
  | [], _ => rfl
  | d :: ds, h => by
    have ⟨h1, h2⟩ := allFs_cons h
    unfold mapFs allFs
    rw [noBo_frz h1, noBos_frz h2]
    rfl
end
/-- raise C(a, ..), C an own exception class whose __init__ keeps its arguments -/
theorem gs_raise {c : Str} {ks : List Str} {C fI : Addr} {fd : FuncData} {f : M (List D)} (hc : X.calm = true) (tk : L2N.Takes X W) (hC : G.C c = some C) (T : OexC X.K C) (hf : ∀ f ∈ ks, PySem.W.findIn X.K (.ref C) f = some none) (iC : PySem.W.findIn X.K (.ref C) "__init__" = some (some (.ref fI))) (tI : PySem.W.typeIn X.K (.ref fI) = some (.type "function"))
    (F : FnOk X.prog X.w X.K X.mg X.base CX0 1 fI fd ("self" :: ks) (spXP X.K ks)) (hr : Room 2 X.A) (hb : L2.Binds X.K fd ("self" :: ks) []) (hg : Gl X c) (hm : X.mg c = some (.ref C)) (ha : GA X G W tc (e :: es) f) (hnd : ks.Nodup := by decide) (h9 : ks.length ≤ 900 := by decide)
    (hdb : (c == ("__debug__" : Str)) = false := by decide) (he : starEach (e :: es) X.env = (false, eval e X.env) :: starEach es X.env := by rfl) (hpl : (backTo pos (starEach es X.env)).any (·.1) = false := by rfl) :
    GS X G W tc (.Raise (some (.Call (.Name c p) (e :: es) [] pos)) none pos2) (dRaise c ks f) :=
  ps_mono (L2N.ps_raise hc tk (pmk_new T iC tI F hr hb pass0 hg hm ha hdb he hpl)) fun D σ H ⟨B, s, e1, e2, r, hp⟩ => by
    subst e1 e2
    refine ⟨B, s, rfl, rfl, r, ?_⟩
    have hp : Post (okS (tx X G) B tc s D) (exS (tx X G) W B tc s) (bnd f (fun ds ρ => if ds.length = ks.length ∧ allFs noBo ds = true then .exc c ks (mapFs flFrz ds) ρ else .bad) s.ρ) := hp
    refine hp.bnd.imp (fun ds ρ1 ⟨e, h⟩ vs s1 g e1 e2 r1 t a => ?_) fun _ _ _ _ h cls dd s' q1 q2 q3 q4 q5 => h cls dd s' q1 q3 q4 q5
    subst e1
    split at h
    · rename_i hh
      obtain ⟨hl, hnb⟩ := hh
      have hlv : vs.length = ks.length := by rw [← t.rep.len]; exact hl
      refine ⟨by omega, fun x hx => ?_⟩
      rw [List.append_nil]
      refine ⟨x, C, vs, rfl, hlv, T, hf, upd_same, fun dx H' hdx z => ⟨rfl, dx, _, z.obj, z.dic, ?_, ?_⟩⟩
      · by_cases q : dx = x
        · rw [q]; exact hx
        · rw [upd_ne q] at hdx; exact hdx
      · have hne : dx ≠ x := fun q => by
          rw [q, upd_same] at hdx; cases hdx
        have hdx1 : s1.H dx = none := by rw [upd_ne hne] at hdx; exact hdx
        have eH : upd (del H' x) dx (.xd ((ks.zip vs).reverse)) = upd s1.H dx (.xd ((ks.zip vs).reverse)) := by
          funext b
          by_cases q : b = dx
          · rw [q, upd_same, upd_same]
          · rw [upd_ne q, upd_ne q]
            unfold del
            by_cases q2 : b = x
            · rw [if_pos q2, q2, hx]
            · rw [if_neg q2, z.oth b q2 q, upd_ne q2]
        rw [eH]
        have r2 := (r1.ovl (g := g) (fun a q => (t.ap a q).1) t.dj t.rep.nt).newF (p := dx) (o := .xd ((ks.zip vs).reverse)) hdx1
        have a2 : Goes tc s (s1.ovl g) [] := a.ovl fun a q => (t.ap a q).1
        let s3 : S5 := { s1 with H := upd s1.H dx (.xd ((ks.zip vs).reverse)), F := upd (ovl s1.H s1.F g) dx (.xd ((ks.zip vs).reverse)) }
        have a3 : Goes [] (s1.ovl g) s3 [] := by
          refine ⟨(Step.newF hdx1 (ovl_sub r1.exF)).or0, fun j _ => ⟨rfl, rfl, fun b hb => ?_⟩, fun _ _ => rfl⟩
          obtain ⟨o, eo⟩ := r1.dom ⟨j, hb⟩
          exact upd_ne (ne_of_none eo hdx1)
        have hFd : (ovl s1.H s1.F g) dx = none := by
          cases e : ovl s1.H s1.F g dx with
          | none => rfl
          | some u => rw [ovl_sub r1.exF dx u e] at hdx1; cases hdx1
        rw [← e2]
        refine h (.ref C) (some dx) s3 rfl r2 ⟨C, hC, rfl, .inr ⟨dx, _, vs, rfl, upd_same, ?_, hlv.symm, fun i k v h1 h2 => ?_⟩⟩ ((a2.trans0 a3).wk fun j z => (List.mem_append.mp z).elim id fun z => by cases z)
        · exact (t.frz.noB2 (H' := fun _ => none) (noBos_frz hnb)).mono (Ex.refl _) (Ex.new hFd) fun _ z => by cases z
        · rw [lookup_rev hlv.symm hnd]
          exact lookup_zip hnd h1 h2
    · exact h.elim
end
end Cs
namespace Cs
open PySem L2 Evl PyProof.Rows

/-! ## comprehensions -/
theorem wipe_in {σ : L2.St} : ∀ {vs : List Nat} {j : Nat}, j ∈ vs → j < σ.length → (wipe σ vs)[j]? = some none
  | i :: vs, j, h, hl => by
    show ((wipe σ vs).set i none)[j]? = _
    have hlen : ∀ vs : List Nat, (wipe σ vs).length = σ.length := fun vs => by
      induction vs with
      | nil => rfl
      | cons i vs ih => show ((wipe σ vs).set i none).length = _; rw [List.length_set, ih]
    by_cases e : i = j
    · subst e
      exact List.getElem?_set_self (by rw [hlen]; exact hl)
    · rw [List.getElem?_set_ne e]
      exact wipe_in ((List.mem_cons.mp h).resolve_left fun z => e z.symm) hl
theorem wipe_len {σ : L2.St} : ∀ {vs : List Nat}, (wipe σ vs).length = σ.length
  | [] => rfl
  | i :: vs => by show ((wipe σ vs).set i none).length = _; rw [List.length_set, wipe_len]
theorem wipe_out {σ : L2.St} : ∀ {vs : List Nat} {j : Nat}, j ∉ vs → (wipe σ vs)[j]? = σ[j]?
  | [], _, _ => rfl
  | i :: vs, j, h => by
    show ((wipe σ vs).set i none)[j]? = _
    rw [List.getElem?_set_ne fun z => h (by rw [z]; exact List.mem_cons_self)]
    exact wipe_out fun z => h (List.mem_cons_of_mem _ z)
theorem wipe_eq {σ τ : L2.St} {vs : List Nat} (hl : τ.length = σ.length) (h : ∀ j, j ∉ vs → τ[j]? = σ[j]?) : wipe τ vs = wipe σ vs := by
  apply List.ext_getElem?
  intro j
  by_cases e : j ∈ vs
  · by_cases hj : j < σ.length
    · rw [wipe_in e hj, wipe_in e (by rw [hl]; exact hj)]
    · rw [List.getElem?_eq_none (by rw [wipe_len]; omega), List.getElem?_eq_none (by rw [wipe_len]; omega)]
  · rw [wipe_out e, wipe_out e, h j e]
theorem wipe_wipe {σ : L2.St} {vs : List Nat} : wipe (wipe σ vs) vs = wipe σ vs := wipe_eq wipe_len fun j h => wipe_out h

def noOwAt (own : List Nat) (ρ : En) : Bool := own.all fun i => match ρ[i]? with
  | some (.dt d) => allF noOw d
  | _ => true
def rst (own : List Nat) (ρ0 ρ : En) : En := match own with
  | [] => ρ
  | i :: r => rst r ρ0 (match ρ0[i]? with
    | some x => ρ.set i x
    | none => ρ)
def lcL (tg : Tg) (own : List Nat) (cond : M Bool) (elt : M D) : List D → List D → En → Out (List D)
  | acc, [], ρ => .ok acc ρ
  | acc, d :: ds, ρ => match dTg tg d ρ with
    | .ok .nx ρ1 => (match cond ρ1 with
      | .ok true ρ2 => (match elt ρ2 with
        | .ok x ρ3 => if acc.length < lim then lcL tg own cond elt (acc ++ [x]) ds (fgt own ρ3) else .bad
        | _ => .bad)
      | .ok false ρ2 => lcL tg own cond elt acc ds (fgt own ρ2)
      | _ => .bad)
    | _ => .bad
def lcEnd (own : List Nat) (ρ0 : En) : Out (List D) → Out D
  | .ok xs ρ => .ok (.lst .ow xs) (rst own ρ0 ρ)
  | _ => .bad
def dLc (src : M (List D)) (tg : Tg) (own : List Nat) (cond : M Bool) (elt : M D) : M D := bnd src fun ds ρ =>
  if noOwAt own ρ = true then lcEnd own ρ (lcL tg own cond elt [] ds (fgt own ρ)) else .bad

section
variable {T : Tx} {B : Hp}
/-- a list in the making, at p -/
structure Acc (T : Tx) (B : Hp) (p : Addr) (s : S5) (xs : List D) (vs : List V) (g : List Addr) : Prop where
  t : Tmps T B s.H s.F s.φ xs vs g
  h : s.H p = some (.lst vs)
  pg : p ∉ g
  f : s.F p = none
  b : B p = none
  o : ¬ O s.φ p
theorem Acc.go {p : Addr} {s s1 : S5} {xs : List D} {vs : List V} {g g1 tc : List Nat} (c : Acc T B p s xs vs g) (a : Goes tc s s1 g1) : Acc T B p s1 xs vs g ∧ p ∉ g1 := by
  have hp : ∀ q : s.H p = none, False := fun q => by rw [c.h] at q; cases q
  refine ⟨⟨c.t.go a, (a.step.keep p _ c.h c.o).st fun _ e => (by cases e), c.pg, ?_, c.b, fun q => (a.step.on p (.inl q)).elim c.o hp⟩, fun q => (a.step.on p (.inr q)).elim c.o hp⟩
  cases e : s1.F p with
  | none => rfl
  | some u => exact ((a.step.fn p u e c.f).elim c.o hp).elim
theorem Acc.same {p : Addr} {s s1 : S5} {xs : List D} {vs : List V} {g : List Addr} (c : Acc T B p s xs vs g) (h1 : s1.H = s.H) (h2 : s1.F = s.F) (h3 : ∀ a, O s1.φ a → O s.φ a) : Acc T B p s1 xs vs g :=
  ⟨⟨by rw [h1, h2]; exact c.t.rep, c.t.nd, fun a ha => by rw [h2]; exact c.t.ap a ha, fun a ha q => c.t.dj a ha (h3 a q)⟩, by rw [h1]; exact c.h, c.pg, by rw [h2]; exact c.f, c.b, fun q => c.o (h3 p q)⟩
theorem Goes.poke {tc : List Nat} {s0 s : S5} {p : Addr} {o : HO} {g : List Addr} (r0 : Okk T B s0) (hp : s0.H p = none) (a : Goes tc s0 s g) : Goes tc s0 { s with H := upd s.H p o } g :=
  ⟨⟨fun b u e n => (a.step.keep b u e n).off (ne_of_none e hp), a.step.ext, a.step.fn, a.step.on⟩, fun j hj => by
    obtain ⟨x1, x2, x3⟩ := a.fix j hj
    refine ⟨x1, x2, fun b hb => ?_⟩
    obtain ⟨u, e⟩ := r0.dom ⟨j, hb⟩
    exact (upd_ne (ne_of_none e hp)).trans (x3 b hb), a.sg⟩
theorem Rel.poke {σ : L2.St} {H F : Hp} {ρ : En} {φ : Nat → List Addr} {p : Addr} {o : HO} (r : Rel T σ B H F ρ φ) (hF : F p = none) (hB : B p = none) (ho : ¬ O φ p) (hm : ∀ u, H p = some u → Nm u) (no : Nt o := by intro _ e; cases e) : Rel T σ B (upd H p o) F ρ φ := by
  refine ⟨r.len, fun a u e => ?_, fun a u e => ?_, r.exP, fun i d q => ?_, r.xn, r.em, r.nd, r.dj, r.ap, r.xt.upd hm no⟩
  · rw [upd_ne fun z => by rw [z, hB] at e; cases e]; exact r.exB a u e
  · rw [upd_ne fun z => by rw [z, hF] at e; cases e]; exact r.exF a u e
  · obtain ⟨v, e, rp⟩ := r.sl i d q
    exact ⟨v, e, rp.mono (Ex.refl B) (Ex.refl F) fun a ha o' e' => by rw [upd_ne fun z => ho ⟨i, by rw [← z]; exact ha⟩]; exact e'⟩
/-- one more item -/
theorem Acc.push {p : Addr} {s s1 : S5} {xs : List D} {vs : List V} {g g1 tc : List Nat} {d : D} {v : V} (c : Acc T B p s xs vs g) (a : Goes tc s s1 g1) (t : Tmp T B s1.H s1.F s1.φ d v g1) : Acc T B p { s1 with H := upd s1.H p (.lst (vs ++ [v])) } (xs ++ [d]) (vs ++ [v]) (g ++ g1) := by
  obtain ⟨c1, hp1⟩ := c.go a
  have hH : ∀ b, b ≠ p → upd s1.H p (.lst (vs ++ [v])) b = s1.H b := fun b hb => upd_ne hb
  refine ⟨⟨?_, List.nodup_append.mpr ⟨c1.t.nd, t.nd, fun x hx y hy e => ?_⟩, fun b hb => ?_, fun b hb => ?_⟩, upd_same, fun q => (List.mem_append.mp q).elim c1.pg hp1, c1.f, c1.b, c1.o⟩
  · have h1 : Reps T B (upd s1.H p (.lst (vs ++ [v]))) s1.F xs vs g := c1.t.rep.mono (Ex.refl B) (Ex.refl _) fun b hb o e => by rw [hH b fun z => c1.pg (by rw [← z]; exact hb)]; exact e
    have h2 : Rep T B (upd s1.H p (.lst (vs ++ [v]))) s1.F d v g1 := t.rep.mono (Ex.refl B) (Ex.refl _) fun b hb o e => by rw [hH b fun z => hp1 (by rw [← z]; exact hb)]; exact e
    exact h1.snoc h2
  · subst e
    rcases a.step.on x (.inr hy) with z | z
    · exact c.t.dj x hx z
    · obtain ⟨o, e⟩ := c.t.rep.dom x hx
      rw [e] at z; cases z
  · exact (List.mem_append.mp hb).elim (c1.t.ap b) (t.ap b)
  · exact (List.mem_append.mp hb).elim (c1.t.dj b) (t.dj b)
theorem fgt_get : ∀ {is : List Nat} {ρ : En} {j : Nat}, j ∉ is → (fgt is ρ)[j]? = ρ[j]?
  | [], _, _, _ => rfl
  | i :: is, ρ, j, h => by
    show (fgt is (ρ.set i .un))[j]? = _
    rw [fgt_get fun z => h (List.mem_cons_of_mem _ z), List.getElem?_set_ne fun z => h (by rw [z]; exact List.mem_cons_self)]
theorem fgt_len : ∀ {is : List Nat} {ρ : En}, (fgt is ρ).length = ρ.length
  | [], _ => rfl
  | i :: is, ρ => by
    show (fgt is (ρ.set i .un)).length = _
    rw [fgt_len, List.length_set]
theorem fgt_un : ∀ {is : List Nat} {ρ : En} {j : Nat}, (j ∈ is ∨ ρ[j]? = some .un) → ∀ x, (fgt is ρ)[j]? = some x → x = .un
  | [], ρ, j, h, x, e => by
    rcases h with h | h
    · cases h
    · have e : ρ[j]? = some x := e
      rw [h] at e; cases e; rfl
  | i :: is, ρ, j, h, x, e => by
    have e : (fgt is (ρ.set i .un))[j]? = some x := e
    by_cases z : j = i
    · subst z
      by_cases hl : j < ρ.length
      · exact fgt_un (.inr (List.getElem?_set_self hl)) x e
      · rw [List.getElem?_eq_none (by rw [fgt_len, List.length_set]; omega)] at e; cases e
    · refine fgt_un ?_ x e
      rcases h with h | h
      · exact .inl ((List.mem_cons.mp h).resolve_left z)
      · exact .inr (by rw [List.getElem?_set_ne fun q => z q.symm]; exact h)
/-- slots that hold nothing may hold anything in the frame -/
theorem Rel.sig {σ τ : L2.St} {H F : Hp} {ρ : En} {φ : Nat → List Addr} {own : List Nat} (r : Rel T σ B H F ρ φ) (hl : τ.length = σ.length) (ho : ∀ j ∈ own, ∀ x, ρ[j]? = some x → x = .un) (h : ∀ j, j ∉ own → τ[j]? = σ[j]?) : Rel T τ B H F ρ φ := by
  refine ⟨r.len.trans hl.symm, r.exB, r.exF, r.exP, fun i d q => ?_, fun i q => ?_, r.em, r.nd, r.dj, r.ap, r.xt⟩
  · have hi : i ∉ own := fun z => by cases ho i z _ q
    obtain ⟨v, e, rp⟩ := r.sl i d q
    exact ⟨v, by rw [h i hi]; exact e, rp⟩
  · have hi : i ∉ own := fun z => by cases ho i z _ q
    obtain ⟨a, e1, e2⟩ := r.xn i q
    exact ⟨a, e1, by rw [h i hi]; exact e2⟩
/-- from the outer state to a turn's start -/
theorem into_own {s : S5} {own : List Nat} (r : Okk T B s) : ∃ s1 : S5, s1.ρ = fgt own s.ρ ∧ s1.σ = wipe s.σ own ∧ s1.H = s.H ∧ s1.F = s.F ∧ Okk T B s1 ∧ (∀ j, j ∉ own → s1.φ j = s.φ j) ∧ ∀ a, O s1.φ a → O s.φ a := by
  obtain ⟨s2, h1, h2, h3, h4, h5, h6⟩ := fgt_core (is := own) r
  refine ⟨{ s2 with σ := wipe s.σ own }, h1, rfl, h3, h4, ?_, fun j hj => (h6.fix j hj).2.1, fun a q => ?_⟩
  · refine Rel.sig (own := own) h5 (by rw [wipe_len, h2]) (fun j hj x e => ?_) fun j hj => by rw [wipe_out hj, h2]
    rw [h1] at e
    exact fgt_un (.inl hj) x e
  · rcases h6.step.on a (.inl q) with z | z
    · exact z
    · obtain ⟨o, e⟩ := h5.dom q
      rw [h3] at e
      rw [e] at z; cases z
theorem rst_len {ρ0 : En} : ∀ {own : List Nat} {ρ : En}, (rst own ρ0 ρ).length = ρ.length
  | [], _ => rfl
  | i :: r, ρ => by
    unfold rst
    rw [rst_len]
    split
    · rw [List.length_set]
    · rfl
theorem rst_out {ρ0 : En} : ∀ {own : List Nat} {ρ : En} {j : Nat}, (j ∉ own ∨ ρ[j]? = ρ0[j]?) → (rst own ρ0 ρ)[j]? = if j ∈ own then ρ0[j]? else ρ[j]?
  | [], ρ, j, _ => by rw [if_neg (fun z => by cases z)]; rfl
  | i :: r, ρ, j, h => by
    unfold rst
    by_cases e : j = i
    · subst e
      rcases h with h | h
      · exact absurd List.mem_cons_self h
      · rw [if_pos List.mem_cons_self]
        have z : (match ρ0[j]? with | some x => ρ.set j x | none => ρ)[j]? = ρ0[j]? := by
          split
          · rename_i x hx
            by_cases hl : j < ρ.length
            · rw [List.getElem?_set_self hl, hx]
            · rw [List.getElem?_eq_none (by omega)] at h
              rw [← h] at hx; cases hx
          · exact h
        rw [rst_out (.inr z), z]
        split <;> rfl
    · have z : (match ρ0[i]? with | some x => ρ.set i x | none => ρ)[j]? = ρ[j]? := by
        split
        · exact List.getElem?_set_ne fun q => e q.symm
        · rfl
      have hm : j ∈ i :: r ↔ j ∈ r := ⟨fun q => (List.mem_cons.mp q).resolve_left e, List.mem_cons_of_mem _⟩
      rw [rst_out (h.imp (fun q p => q (hm.mpr p)) fun q => z.trans q), z]
      by_cases q : j ∈ r
      · rw [if_pos q, if_pos (hm.mpr q)]
      · rw [if_neg q, if_neg fun p => q (hm.mp p)]
theorem rst_in {ρ0 : En} : ∀ {own : List Nat} {ρ : En} {j : Nat}, ρ.length = ρ0.length → j ∈ own → (rst own ρ0 ρ)[j]? = ρ0[j]?
  | i :: r, ρ, j, hl, h => by
    unfold rst
    have hl2 : (match ρ0[i]? with | some x => ρ.set i x | none => ρ).length = ρ0.length := by
      split
      · rw [List.length_set]; exact hl
      · exact hl
    by_cases q : j ∈ r
    · exact rst_in hl2 q
    · have e : j = i := (List.mem_cons.mp h).resolve_right q
      subst e
      rw [rst_out (.inl q), if_neg q]
      split
      · rename_i x hx
        have hj : j < ρ0.length := by
          rcases Nat.lt_or_ge j ρ0.length with z | z
          · exact z
          · rw [List.getElem?_eq_none z] at hx; cases hx
        rw [List.getElem?_set_self (by omega), hx]
      · rename_i hx
        rw [hx, List.getElem?_eq_none]
        rw [List.getElem?_eq_none_iff] at hx
        omega
theorem rst_no {ρ0 : En} {own : List Nat} {ρ : En} {j : Nat} (h : j ∉ own) : (rst own ρ0 ρ)[j]? = ρ[j]? := by
  rw [rst_out (.inl h), if_neg h]
/-- back: the outer slots stand again -/
theorem outof_own {s0 s : S5} {own tc to : List Nat} {g : List Addr} (r0 : Okk T B s0) (hn : noOwAt own s0.ρ = true) (r : Okk T B s) (hσ : ∀ j, j ∉ own → s.σ[j]? = s0.σ[j]?) (hu : ∀ j ∈ own, ∀ x, s.ρ[j]? = some x → x = .un) (hlen : s.ρ.length = s0.ρ.length)
    (st : Step s0.H s0.F (O s0.φ) s.H s.F (Or2 (O s.φ) g)) (fx : ∀ j, j ∉ tc → j ∉ own → s.ρ[j]? = s0.ρ[j]? ∧ s.φ j = s0.φ j ∧ ∀ a ∈ s0.φ j, s.H a = s0.H a) (hsub : ∀ j ∈ tc, j ∈ to ∨ j ∈ own) :
    ∃ s1 : S5, s1.ρ = rst own s0.ρ s.ρ ∧ s1.σ = s0.σ ∧ s1.H = s.H ∧ s1.F = s.F ∧ s1.φ = s.φ ∧ Okk T B s1 ∧ Goes to s0 s1 g := by
  have hφ : ∀ j ∈ own, s.φ j = [] := fun j hj => r.em j fun d q => by cases hu j hj _ q
  have hφ0 : ∀ j ∈ own, s0.φ j = [] := fun j hj => by
    by_cases q : ∃ d, s0.ρ[j]? = some (.dt d)
    · obtain ⟨d, q⟩ := q
      obtain ⟨v, _, rp⟩ := r0.sl j d q
      have z := List.all_eq_true.mp hn j hj
      rw [q] at z
      exact rp.noO z
    · exact r0.em j fun d z => q ⟨d, z⟩
  refine ⟨{ s with σ := s0.σ, ρ := rst own s0.ρ s.ρ }, rfl, rfl, rfl, rfl, rfl, ?_, st, fun j hj => ?_, fun _ _ => rfl⟩
  · refine ⟨by rw [rst_len, hlen]; exact r0.len, r.exB, r.exF, r.exP, fun j d q => ?_, fun j q => ?_, fun j q => ?_, r.nd, r.dj, r.ap, r.xt⟩
    · by_cases hj : j ∈ own
      · rw [rst_in hlen hj] at q
        obtain ⟨v, e, rp⟩ := r0.sl j d q
        refine ⟨v, e, ?_⟩
        rw [hφ0 j hj] at rp
        rw [show s.φ j = [] from hφ j hj]
        exact rp.mono (Ex.refl B) st.ext fun _ z => by cases z
      · rw [rst_no hj] at q
        obtain ⟨v, e, rp⟩ := r.sl j d q
        exact ⟨v, by rw [← hσ j hj]; exact e, rp⟩
    · by_cases hj : j ∈ own
      · rw [rst_in hlen hj] at q
        exact r0.xn j q
      · rw [rst_no hj] at q
        obtain ⟨a, e1, e2⟩ := r.xn j q
        exact ⟨a, e1, by rw [← hσ j hj]; exact e2⟩
    · by_cases hj : j ∈ own
      · exact hφ j hj
      · refine r.em j fun d z => q d ?_
        rw [rst_no hj]
        exact z
  · by_cases ho : j ∈ own
    · refine ⟨rst_in hlen ho, ?_, fun a ha => ?_⟩
      · show s.φ j = s0.φ j
        rw [hφ j ho, hφ0 j ho]
      · rw [hφ0 j ho] at ha; cases ha
    · obtain ⟨x1, x2, x3⟩ := fx j (fun z => (hsub j z).elim hj ho) ho
      exact ⟨by show (rst own s0.ρ s.ρ)[j]? = _; rw [rst_no ho]; exact x1, x2, x3⟩
/-- within: from the outer state s0, the cells g in the air -/
structure In (own tc : List Nat) (s0 s : S5) (g : List Addr) : Prop where
  st : Step s0.H s0.F (O s0.φ) s.H s.F (Or2 (O s.φ) g)
  fx : ∀ j, j ∉ tc → j ∉ own → s.ρ[j]? = s0.ρ[j]? ∧ s.φ j = s0.φ j ∧ ∀ a ∈ s0.φ j, s.H a = s0.H a
  sg : ∀ j, j ∉ own → s.σ[j]? = s0.σ[j]?
variable {own tc : List Nat}
theorem In.go {s0 s s1 : S5} {g g1 t : List Addr} (i : In own tc s0 s g) (a : Goes t s s1 g1) (ht : ∀ j ∈ t, j ∈ tc) (hs : ∀ j, j ∉ own → s1.σ[j]? = s.σ[j]?) : In own tc s0 s1 (g1 ++ g) :=
  ⟨i.st.two a.step, fun j h1 h2 => by
    obtain ⟨x1, x2, x3⟩ := i.fx j h1 h2
    obtain ⟨y1, y2, y3⟩ := a.fix j fun z => h1 (ht j z)
    exact ⟨y1.trans x1, y2.trans x2, fun b hb => (y3 b (by rw [x2]; exact hb)).trans (x3 b hb)⟩, fun j h => (hs j h).trans (i.sg j h)⟩
theorem In.less {s0 s : S5} {g g1 : List Addr} (i : In own tc s0 s g) (h : ∀ a ∈ g1, a ∈ g) : In own tc s0 s g1 := ⟨i.st.drop fun a q => q.imp id (h a), i.fx, i.sg⟩
theorem In.poke {s0 s : S5} {g : List Addr} {p : Addr} {o : HO} (r0 : Okk T B s0) (hp : s0.H p = none) (i : In own tc s0 s g) : In own tc s0 { s with H := upd s.H p o } g :=
  ⟨⟨fun b u e n => (i.st.keep b u e n).off (ne_of_none e hp), i.st.ext, i.st.fn, i.st.on⟩, fun j h1 h2 => by
    obtain ⟨x1, x2, x3⟩ := i.fx j h1 h2
    refine ⟨x1, x2, fun b hb => ?_⟩
    obtain ⟨u, e⟩ := r0.dom ⟨j, hb⟩
    exact (upd_ne (ne_of_none e hp)).trans (x3 b hb), i.sg⟩
/-- a turn's end -/
theorem In.next {s0 s : S5} {g : List Addr} (r : Okk T B s) (i : In own tc s0 s g) (hl : s.σ.length = s0.σ.length) : ∃ s1 : S5, s1.ρ = fgt own s.ρ ∧ s1.σ = wipe s0.σ own ∧ s1.H = s.H ∧ s1.F = s.F ∧ Okk T B s1 ∧ In own tc s0 s1 g ∧ ∀ a, O s1.φ a → O s.φ a := by
  obtain ⟨s1, h1, h2, h3, h4, h5, h6, h7⟩ := into_own (own := own) r
  have hw : wipe s.σ own = wipe s0.σ own := wipe_eq hl i.sg
  refine ⟨s1, h1, h2.trans hw, h3, h4, h5, ⟨?_, fun j q1 q2 => ?_, fun j q => ?_⟩, h7⟩
  · rw [h3, h4]
    exact i.st.drop fun a q => q.imp (h7 a) id
  · obtain ⟨x1, x2, x3⟩ := i.fx j q1 q2
    rw [h1, fgt_get q2, h3, h6 j q2]
    exact ⟨x1, x2, x3⟩
  · rw [h2, wipe_out q]
    exact i.sg j q
end
abbrev GTs (X : Cx) (G : Gx) (W : WX) (tc : List Nat) (e : List Expr) (f : M Bool) : Prop := PTs X e (tDT (tx X G) W tc f)
def dYes : M Bool := ret true
section
variable {X : Cx} {G : Gx} {W : WX} {tc : List Nat} {e : Expr}
theorem gts_nil : GTs X G W [] [] dYes := ⟨fun pins s σ H Q I h => pts_nil.run pins s σ H Q I (by
  obtain ⟨B, s, e1, e2, r, h⟩ := h
  subst e1 e2
  exact h s rfl rfl r Goes.refl)⟩
theorem gts_one {f : M Bool} (h : GT X G W tc e f) : GTs X G W tc [e] f := pts_one h
end
theorem Step.drop2 {H F H1 F1 : Hp} {O1 O2 O3 : Addr → Prop} (s : Step H F O1 H1 F1 O2) (h : ∀ a, O3 a → O2 a ∨ H a = none) : Step H F O1 H1 F1 O3 := ⟨s.keep, s.ext, s.fn, fun a q => (h a q).elim (s.on a) .inr⟩
theorem dPuts_len : ∀ {js : List Nat} {ds : List D} {ρ ρ2 : En} {fl : Flw}, dPuts js ds ρ = .ok fl ρ2 → ρ2.length = ρ.length
  | [], [], _, _, _, h => by cases h; rfl
  | j :: js, d :: ds, ρ, ρ2, fl, h => by
    unfold dPuts at h
    split at h
    · rw [dPuts_len h, List.length_set]
    · cases h
  | [], _ :: _, _, _, _, h => by cases h
  | _ :: _, [], _, _, _, h => by cases h
theorem dTg_len {tg : Tg} {d : D} {ρ ρ2 : En} {fl : Flw} (h : dTg tg d ρ = .ok fl ρ2) : ρ2.length = ρ.length := by
  cases tg with
  | one j => exact dPuts_len h
  | tup js =>
    cases d with
    | tup ds => exact dPuts_len h
    | _ => cases h
abbrev W0 : WX := fun _ _ _ _ => False
section
variable {T : Tx} {W : WX} {t1 tt te to own : List Nat} {src : M (List D)} {cond : M Bool} {elt : M D} {tg : Tg}
theorem tgs_sg {s s2 : S5} {g : List Addr} (a : Goes tg.tc s s2 g) (h : ∀ x ∈ tg.tc, 1000 ≤ x → x - 1000 ∈ own) : ∀ j, j ∉ own → s2.σ[j]? = s.σ[j]? := fun j hj => a.sg j fun z => hj (by
  have y := h (j + 1000) z (by omega)
  rwa [Nat.add_sub_cancel] at y)
theorem cmp_core {σ : L2.St} {H : Hp} {Q : VK} (htg : ∀ x ∈ tg.tc, 1000 ≤ x → x - 1000 ∈ own) (hsub : ∀ j ∈ tg.tc ++ (tt ++ te), j ∈ to ∨ j ∈ own) (h : tD T W (t1 ++ to) (dLc src tg own cond elt) σ H Q) :
    tLc (tDI T W t1 src) (tgR T.K tg) (tDT T W0 tt cond) (tD T W0 te elt) own σ H Q := by
  obtain ⟨B, sb, e1, e2, rb, hp⟩ := h
  subst e1 e2
  have hp : Post (okE T B (t1 ++ to) sb Q) (exE T W B (t1 ++ to) sb) (bnd src (fun ds ρ => if noOwAt own ρ = true then lcEnd own ρ (lcL tg own cond elt [] ds (fgt own ρ)) else .bad) sb.ρ) := hp
  refine ⟨B, sb, rfl, rfl, rb, hp.bnd.imp (fun ds ρ1 ⟨_, h⟩ J n Gd Y s0 q1 q2 r0 a0 sr p hp0 => ?_) fun _ _ _ _ h cls dd s' x1 x2 x3 x4 x5 => h cls dd s' x1 x2 x3 x4 (x5.wk fun _ => memL)⟩
  subst q1
  split at h
  case isFalse => exact h.elim
  rename_i hno
  rw [← q2]
  let Pv : Nat → Hp → Prop := fun k H => ∃ s acc vs g, s.H = H ∧ s.σ = wipe s0.σ own ∧ Okk T B s ∧ Acc T B p s acc vs g ∧ In own (tg.tc ++ (tt ++ te)) s0 s (p :: g) ∧ (∀ j ∈ own, ∀ x, s.ρ[j]? = some x → x = .un) ∧ s.σ.length = s0.σ.length ∧
    Post (okE T B (t1 ++ to) sb Q) (exE T W B (t1 ++ to) sb) (lcEnd own s0.ρ (lcL tg own cond elt acc (ds.drop k) s.ρ))
  refine lc_it sr.w Pv ?_ (fun k H _ hk => ?_) (fun k x H H' hk hP y => ?_) (fun H hP => ?_)
  · -- the start
    obtain ⟨s1, h1, h2, h3, h4, h5, h6, h7⟩ := into_own (own := own) r0
    refine ⟨{ s1 with H := upd s1.H p (.lst []) }, [], [], [], by show upd s1.H p _ = _; rw [h3], h2, ?_, ⟨⟨.nil, .nil, fun _ z => (by cases z), fun _ z => (by cases z)⟩, upd_same, fun z => (by cases z), ?_, ?_, ?_⟩, ⟨?_, fun j q1 q2 => ?_, fun j q => ?_⟩, fun j hj x e => ?_, ?_, ?_⟩
    · exact h5.new (by rw [h3]; exact hp0)
    · show s1.F p = none
      rw [h4]; exact r0.freeF hp0
    · exact r0.freeB hp0
    · exact fun q => r0.freeO hp0 (h7 _ q)
    · show Step s0.H s0.F (O s0.φ) (upd s1.H p _) s1.F _
      rw [h3, h4]
      refine (Step.new hp0).drop2 fun a q => ?_
      rcases q with q | q
      · exact .inl (h7 a q)
      · rw [List.mem_singleton.mp q]; exact .inr hp0
    · refine ⟨?_, h6 j q2, fun b hb => ?_⟩
      · show s1.ρ[j]? = _
        rw [h1, fgt_get q2]
      · obtain ⟨u, e⟩ := r0.dom ⟨j, hb⟩
        show upd s1.H p _ b = _
        rw [upd_ne (ne_of_none e hp0), h3]
    · show s1.σ[j]? = _
      rw [h2, wipe_out q]
    · have e : s1.ρ[j]? = some x := e
      rw [h1] at e
      exact fgt_un (.inl hj) x e
    · show s1.σ.length = _
      rw [h2, wipe_len]
    · show Post _ _ (lcEnd own s0.ρ (lcL tg own cond elt [] (ds.drop 0) s1.ρ))
      rw [h1]
      exact h
  · obtain ⟨s, acc, vs, g, x1, x2, x3, x4, x5, x6, x7, x8⟩ := hk
    rw [← x1]
    exact sr.g s x3 x5.st.ext
  · obtain ⟨s, acc, vs, g, x1, x2, x3, x4, x5, x6, x7, x8⟩ := hP
    subst x1
    obtain ⟨d, s3, y1, y2, y3, y4, y5, y6, y7⟩ := sr.y k x H' s hk x3 x5.st.ext y
    subst y2
    have hd : ds.drop k = d :: ds.drop (k + 1) := by
      obtain ⟨hl, e⟩ := List.getElem?_eq_some_iff.mp y1
      rw [← e]
      exact List.drop_eq_getElem_cons hl
    rw [hd] at x8
    unfold lcL at x8
    rw [← y4] at x8
    have c3 := (x4.go y6).1
    have i3 : In own (tg.tc ++ (tt ++ te)) s0 s3 (p :: g) := x5.go y6 (fun _ z => by cases z) fun j _ => by rw [y3]
    cases et : dTg tg d s3.ρ with
    | bad => rw [et] at x8; exact x8.elim
    | exc c ks xs ρ => rw [et] at x8; exact x8.elim
    | ok fl ρ2 =>
      rw [et] at x8
      cases fl with
      | bk => exact x8.elim
      | ct => exact x8.elim
      | rt r => exact x8.elim
      | nx =>
        dsimp only at x8
        rw [← x2, ← y3]
        refine tg_core (T := T) y5 y7 et fun s4 z1 z2 z3 z4 z5 => ?_
        have hsg4 := tgs_sg z5 htg
        have c4 := (c3.go z5).1
        have i4 : In own (tg.tc ++ (tt ++ te)) s0 s4 (p :: g) := i3.go z5 (fun j z => memL z) hsg4
        have hl4 : s4.σ.length = s3.σ.length := by rw [← z4.len, ← y5.len, z1]; exact dTg_len et
        have hl40 : s4.σ.length = s0.σ.length := by rw [hl4, y3, x7]
        refine ⟨(wipe_eq hl4 hsg4).trans (by rw [y3, x2, wipe_wipe]), ?_⟩
        subst z1
        refine ⟨B, s4, rfl, rfl, z4, ?_⟩
        cases ec : cond s4.ρ with
        | bad => rw [ec] at x8; exact x8.elim
        | exc c ks xs ρ => rw [ec] at x8; exact x8.elim
        | ok b ρ5 =>
          rw [ec] at x8
          intro s5 w1 w2 w3 w4
          subst w1
          have c5 := (c4.go w4).1
          have i5 : In own (tg.tc ++ (tt ++ te)) s0 s5 (p :: g) := i4.go w4 (fun j z => memR (memL z)) fun j _ => by rw [w2]
          cases b with
          | false =>
            rw [if_neg Bool.false_ne_true]
            obtain ⟨s6, v1, v2, v3, v4, v5, v6, v7⟩ := i5.next w3 (by rw [w2, hl40])
            exact ⟨s6, acc, vs, g, v3, v2, v5, c5.same v3 v4 v7, v6, fun j hj x e => fgt_un (.inl hj) x (by rw [← v1]; exact e), by rw [v2, wipe_len], by rw [v1]; exact x8⟩
          | true =>
            rw [if_pos rfl, ← w2]
            refine ⟨B, s5, rfl, rfl, w3, ?_⟩
            dsimp only at x8
            cases ee : elt s5.ρ with
            | bad => rw [ee] at x8; exact x8.elim
            | exc c ks xs ρ => rw [ee] at x8; exact x8.elim
            | ok d6 ρ6 =>
              rw [ee] at x8
              intro v6 s6 g6 u1 u2 u3 u4 u5
              subst u1
              dsimp only at x8
              split at x8
              case isFalse => exact x8.elim
              rename_i hlim
              have c6 := c5.go u5
              refine ⟨vs, c6.1.h, ?_, ?_⟩
              · have z := c5.t.rep.len
                rw [← z, sizeLine_eq]
                unfold lim at hlim
                omega
              · let s7 : S5 := { s6 with H := upd s6.H p (.lst (vs ++ [v6])) }
                have c7 : Acc T B p s7 (acc ++ [d6]) (vs ++ [v6]) (g ++ g6) := c5.push u5 u4
                have r7 : Okk T B s7 := u3.poke c6.1.f c6.1.b c6.1.o (nmH c6.1.h)
                have i6 : In own (tg.tc ++ (tt ++ te)) s0 s6 (g6 ++ (p :: g)) := i5.go u5 (fun j z => memR (memR z)) fun j _ => by rw [u2]
                have i7 : In own (tg.tc ++ (tt ++ te)) s0 s7 (p :: (g ++ g6)) := (i6.poke (p := p) (o := .lst (vs ++ [v6])) r0 hp0).less fun a ha => by
                  rcases List.mem_cons.mp ha with z | z
                  · rw [z]; exact memR List.mem_cons_self
                  · rcases List.mem_append.mp z with z | z
                    · exact memR (List.mem_cons_of_mem _ z)
                    · exact memL z
                obtain ⟨s8, v1, v2, v3, v4, v5, v6', v7⟩ := i7.next r7 (by show s6.σ.length = _; rw [u2, w2, hl40])
                exact ⟨s8, acc ++ [d6], _, _, v3, v2, v5, c7.same v3 v4 v7, v6', fun j hj x e => fgt_un (.inl hj) x (by rw [← v1]; exact e), by rw [v2, wipe_len], by rw [v1]; exact x8⟩
  · obtain ⟨s, acc, vs, g, x1, x2, x3, x4, x5, x6, x7, x8⟩ := hP
    subst x1
    rw [← sr.len, List.drop_length] at x8
    unfold lcL lcEnd at x8
    obtain ⟨s1, h1, h2, h3, h4, h5, h6, h7⟩ := outof_own (own := own) r0 hno x3 x5.sg x6 (by rw [x3.len, x7, r0.len]) x5.st x5.fx hsub
    have t1 : Tmp T B s1.H s1.F s1.φ (.lst .ow acc) (.ref p) (p :: g) := by
      rw [h3, h4, h5]
      exact ⟨.lstO x4.h x4.t.rep rfl, List.nodup_cons.mpr ⟨x4.pg, x4.t.nd⟩, fun a ha => by
        rcases List.mem_cons.mp ha with z | z
        · rw [z]; exact ⟨x4.f, x4.b⟩
        · exact x4.t.ap a z, fun a ha => by
        rcases List.mem_cons.mp ha with z | z
        · rw [z]; exact x4.o
        · exact x4.t.dj a z⟩
    have z := x8 (.ref p) s1 (p :: g) h1 (h2.trans q2) h6 t1 ((a0.trans0 h7).wk fun j z => z)
    rw [h3] at z
    exact z
end
section
variable {X : Cx} {G : Gx} {W : WX} {t1 tt te to : List Nat} {src : M (List D)} {cond : M Bool} {elt : M D} {tg : Tg} {eltE tgE iter : Expr} {ifs : List Expr} {scope : Scope} {own : List (Str × Nat)} {pos : Pos}
abbrev blkT (X : Cx) (scope : Scope) (J : Cx → Prop) : Prop := ∀ (s : Shared) (H : Hp) (C : Addr) (cl : List (Str × Addr)) (fp : List Addr), J (X.blk s H scope (compEnvC scope cl C X.env) fp)
/-- [e for x in xs if c] -/
theorem g_lc (hc : X.calm = true) (hN : X.N.Nodup) (hi : GI X G W t1 tgE iter src) (ok : BlkOk X.N X.env.scope scope own) (hg : blkT X scope fun Y => PG Y tgE (tgR X.K tg)) (ht : blkT X scope fun Y => GTs Y G W0 tt ifs cond) (he : blkT X scope fun Y => GE Y G W0 te eltE elt)
    (htg : ∀ x ∈ tg.tc, 1000 ≤ x → x - 1000 ∈ own.map (·.2) := by decide) (hsub : ∀ j ∈ tg.tc ++ (tt ++ te), j ∈ to ∨ j ∈ own.map (·.2) := by decide) (hs : ∀ x, foldedSetIterable iter X.env x = pure x := by intro _; rfl) :
    GE X G W (t1 ++ to) (.ListComp eltE [⟨tgE, iter, ifs, 0⟩] scope pos) (dLc src tg (own.map (·.2)) cond elt) :=
  pe_mono (pe_lc hc hN hi ok hg ht he hs) fun σ H Q h => cmp_core (T := tx X G) htg hsub h
/-- y = [e for x in xs if c] -/
theorem gs_setLc {i : Nat} {y : Str} {py spos : Pos} (hc : X.calm = true) (hN : X.N.Nodup) (hy : X.N[i]? = some y) (hyl : X.env.scope.names.lookup y = some .local) (hsw : swapsWith (.ListComp eltE [⟨tgE, iter, ifs, 0⟩] scope pos) (some (.Name y py)) spos.line X.env = pure true) (hi : GI X G W t1 tgE iter src) (ok : BlkOk X.N X.env.scope scope own) (hg : blkT X scope fun Y => PG Y tgE (tgR X.K tg)) (ht : blkT X scope fun Y => GTs Y G W0 tt ifs cond) (he : blkT X scope fun Y => GE Y G W0 te eltE elt)
    (htg : ∀ x ∈ tg.tc, 1000 ≤ x → x - 1000 ∈ own.map (·.2) := by decide) (hsub : ∀ j ∈ tg.tc ++ (tt ++ te), j ∈ to ∨ j ∈ own.map (·.2) := by decide) (hs : ∀ x, foldedSetIterable iter X.env x = pure x := by intro _; rfl) :
    GS X G W ((t1 ++ to) ++ [i, i + 1000]) (.Assign [.Name y py] (.ListComp eltE [⟨tgE, iter, ifs, 0⟩] scope pos) spos) (dAsg i (dLc src tg (own.map (·.2)) cond elt)) :=
  ps_mono (ps_setLc hc hN hy hyl hsw hi ok hg ht he hs) fun E σ H h => by
    obtain z := asg_core (T := tx X G) h
    exact cmp_core (T := tx X G) htg hsub z
end
end Cs
namespace Cs
open PySem L2 Evl PyProof.Rows

/-! ## comprehensions with two fors -/
section
variable {T : Tx} {B : Hp} {own tc own1 : List Nat}
variable {tt te : List Nat} {cond : M Bool} {elt : M D} {tg : Tg}
/-- what stands at a turn's start -/
structure Turn (T : Tx) (B : Hp) (own tc own1 : List Nat) (p : Addr) (s0 : S5) (σ1 : L2.St) (s : S5) (acc : List D) (vs : List V) (g : List Addr) : Prop where
  σ : s.σ = wipe σ1 own1
  r : Okk T B s
  c : Acc T B p s acc vs g
  i : In own tc s0 s (p :: g)
end
section
variable {T : Tx} {W : WX} {t1 tt te ts tt1 to tc own own1 : List Nat} {src src1 : M (List D)} {cond cond1 : M Bool} {elt : M D} {tg tg1 : Tg}
end
section
variable {X : Cx} {G : Gx} {W : WX} {t1 tt te ts tt1 to : List Nat} {src src1 : M (List D)} {cond cond1 : M Bool} {elt : M D} {tg tg1 : Tg} {eltE tgE iter tgE1 iter1 : Expr} {ifs ifs1 : List Expr} {scope : Scope} {own : List (Str × Nat)} {own1 : List Nat} {pos : Pos}
end
end Cs
namespace Cs
open PySem L2 Evl PyProof.Rows

/-! ## a slot lent while something is done -/
def noBoAt (tc : List Nat) (ρ : En) : Bool := tc.all fun i => (match ρ[i]? with
  | some (.dt d) => allF noBo d
  | _ => true) && (decide (i < 1000) || (match ρ[i - 1000]? with
  | some (.dt d) => allF noBo d
  | _ => true))
def dLend (i : Nat) (tc : List Nat) (f : M D) : M D := fun ρ => match slot i ρ with
  | some d => (match f (ρ.set i (.dt (mapF flLend d))) with
    | .ok r ρ' => if allF noBo r = true ∧ noBoAt tc ρ' = true then .ok r (ρ'.set i (.dt d)) else .bad
    | .exc c ks xs ρ' => if noBoAt tc ρ' = true then .exc c ks xs (ρ'.set i (.dt d)) else .bad
    | .bad => .bad)
  | none => .bad
def dLendT (i : Nat) (tc : List Nat) (f : M Bool) : M Bool := fun ρ => match slot i ρ with
  | some d => (match f (ρ.set i (.dt (mapF flLend d))) with
    | .ok r ρ' => if noBoAt tc ρ' = true then .ok r (ρ'.set i (.dt d)) else .bad
    | .exc c ks xs ρ' => if noBoAt tc ρ' = true then .exc c ks xs (ρ'.set i (.dt d)) else .bad
    | .bad => .bad)
  | none => .bad
def flwOk : Flw → Bool
  | .rt d => allF noBo d
  | _ => true
def dLendS (i : Nat) (tc : List Nat) (f : M Flw) : M Flw := fun ρ => match slot i ρ with
  | some d => (match f (ρ.set i (.dt (mapF flLend d))) with
    | .ok r ρ' => if flwOk r = true ∧ noBoAt tc ρ' = true then .ok r (ρ'.set i (.dt d)) else .bad
    | .exc c ks xs ρ' => if noBoAt tc ρ' = true then .exc c ks xs (ρ'.set i (.dt d)) else .bad
    | .bad => .bad)
  | none => .bad
section
variable {T : Tx} {B : Hp} {i : Nat} {tc : List Nat}
abbrev S5.lent (s : S5) (i : Nat) (d : D) : S5 := { s with ρ := s.ρ.set i (.dt (mapF flLend d)), φ := fun j => if j = i then [] else s.φ j }
theorem slot_lt {ρ : En} {d : D} (h : slot i ρ = some d) : i < ρ.length := by
  have z := slot_some h
  rcases Nat.lt_or_ge i ρ.length with q | q
  · exact q
  · rw [List.getElem?_eq_none q] at z; cases z
theorem lend_in {s : S5} {d : D} (r : Okk T B s) (e : slot i s.ρ = some d) : Okk T (ovl s.H B (s.φ i)) (s.lent i d) := by
  have hB : ∀ a ∈ s.φ i, B a = none := fun a ha => (r.ap i a ha).2
  have hi := slot_lt e
  have z := r.take (i := i)
  refine ⟨by show (s.ρ.set i _).length = _; rw [List.length_set]; exact r.len, ovl_sub r.exB, r.exF, r.exP, fun j d' q => ?_, fun j q => ?_, fun j q => ?_, z.nd, z.dj, fun j a ha => ?_, r.xt.ovlB fun a ha o e => r.ntO ⟨i, ha⟩ e⟩
  · by_cases h : j = i
    · subst h
      have q : (s.ρ.set j (.dt (mapF flLend d)))[j]? = some (.dt d') := q
      rw [List.getElem?_set_self hi] at q
      cases q
      obtain ⟨v, ev, rp⟩ := r.sl j d (slot_some e)
      exact ⟨v, ev, by show Rep _ _ _ _ _ _ (if j = j then [] else _); rw [if_pos rfl]; exact rp.lend (ovl_ex hB) fun a ha o e => by rw [ovl_in ha]; exact e⟩
    · have q : (s.ρ.set i (.dt (mapF flLend d)))[j]? = some (.dt d') := q
      rw [List.getElem?_set_ne fun y => h y.symm] at q
      obtain ⟨v, ev, rp⟩ := r.sl j d' q
      exact ⟨v, ev, by show Rep _ _ _ _ _ _ (if j = i then [] else _); rw [if_neg h]; exact rp.mono (ovl_ex hB) (Ex.refl _) fun _ _ _ q => q⟩
  · have q : (s.ρ.set i (.dt (mapF flLend d)))[j]? = some .exn := q
    by_cases h : j = i
    · subst h
      rw [List.getElem?_set_self hi] at q; cases q
    · rw [List.getElem?_set_ne fun y => h y.symm] at q
      exact r.xn j q
  · show (if j = i then [] else s.φ j) = []
    by_cases h : j = i
    · rw [if_pos h]
    · rw [if_neg h]
      refine r.em j fun d' q' => q d' ?_
      show (s.ρ.set i _)[j]? = _
      rw [List.getElem?_set_ne fun y => h y.symm]
      exact q'
  · have ha : a ∈ (if j = i then [] else s.φ j) := ha
    by_cases h : j = i
    · rw [if_pos h] at ha; cases ha
    · rw [if_neg h] at ha
      exact ⟨(r.ap j a ha).1, by rw [ovl_out fun y => r.dj j i a h ha y]; exact (r.ap j a ha).2⟩
theorem noBoAt_get {ρ : En} (h : noBoAt tc ρ = true) {j : Nat} {d : D} (hj : j ∈ tc ∨ j + 1000 ∈ tc) (e : ρ[j]? = some (.dt d)) : allF noBo d = true := by
  rcases hj with hj | hj
  · have z := List.all_eq_true.mp h j hj
    rw [Bool.and_eq_true] at z
    have y := z.1
    rw [e] at y
    exact y
  · have z := List.all_eq_true.mp h (j + 1000) hj
    rw [Bool.and_eq_true] at z
    have y := z.2
    rw [Nat.add_sub_cancel, e] at y
    exact y
theorem lend_out {s s' : S5} {d : D} {g : List Addr} (r : Okk T B s) (e : slot i s.ρ = some d) (hi : i ∉ tc) (hi2 : i + 1000 ∉ tc) (r' : Okk T (ovl s.H B (s.φ i)) s') (a : Goes tc (s.lent i d) s' g) (hg : ∀ x ∈ g, ovl s.H B (s.φ i) x = none) (hn : noBoAt tc s'.ρ = true) :
    ∃ s2 : S5, s2.ρ = s'.ρ.set i (.dt d) ∧ s2.σ = s'.σ ∧ s2.H = s'.H ∧ s2.F = s'.F ∧ Okk T B s2 ∧ Goes tc s s2 g ∧ ∀ x, O s2.φ x → O s'.φ x ∨ x ∈ s.φ i := by
  have hB : ∀ a ∈ s.φ i, B a = none := fun a ha => (r.ap i a ha).2
  have hlt := slot_lt e
  obtain ⟨f1, f2, f3⟩ := a.fix i hi
  have f1 : s'.ρ[i]? = (s.ρ.set i (.dt (mapF flLend d)))[i]? := f1
  have f2 : s'.φ i = if i = i then [] else s.φ i := f2
  rw [if_pos rfl] at f2
  rw [List.getElem?_set_self hlt] at f1
  have hlt' : i < s'.ρ.length := by
    rcases Nat.lt_or_ge i s'.ρ.length with q | q
    · exact q
    · rw [List.getElem?_eq_none q] at f1; cases f1
  have cell : ∀ x ∈ s.φ i, s'.H x = s.H x := fun x hx => by
    obtain ⟨o, eo⟩ := r.dom ⟨i, hx⟩
    rw [eo]
    exact r'.exB x o (by rw [ovl_in hx]; exact eo)
  have some' : ∀ x ∈ s.φ i, ovl s.H B (s.φ i) x ≠ none := fun x hx z => by
    obtain ⟨o, eo⟩ := r.dom ⟨i, hx⟩
    rw [ovl_in hx, eo] at z; cases z
  have hO1 : ∀ x, O (s.lent i d).φ x → O s.φ x := fun x ⟨j, q⟩ => by
    have q : x ∈ (if j = i then [] else s.φ j) := q
    split at q
    · cases q
    · exact ⟨j, q⟩
  have hO2 : ∀ x, x ∈ s.φ i → ¬ O (s.lent i d).φ x := fun x hx ⟨j, q⟩ => by
    have q : x ∈ (if j = i then [] else s.φ j) := q
    split at q
    · cases q
    · rename_i h
      exact r.dj j i x h q hx
  have Bn : ∀ x, ovl s.H B (s.φ i) x = none → B x = none := fun x z => by
    by_cases h : x ∈ s.φ i
    · exact absurd z (some' x h)
    · rw [ovl_out h] at z; exact z
  have BB : Ex B (ovl s.H B (s.φ i)) := ovl_ex hB
  refine ⟨{ s' with ρ := s'.ρ.set i (.dt d), φ := fun j => if j = i then s.φ i else s'.φ j }, rfl, rfl, rfl, rfl, ?_, ⟨⟨fun x o h n => a.step.keep x o h fun z => n (hO1 x z), a.step.ext, fun x o h n => (a.step.fn x o h n).imp (hO1 x) id, fun x q => ?_⟩, fun j hj => ?_, a.sg⟩, fun x ⟨j, q⟩ => ?_⟩
  · refine ⟨by show (s'.ρ.set i _).length = _; rw [List.length_set]; exact r'.len, BB.trans r'.exB, r'.exF, r'.exP, fun j d' q => ?_, fun j q => ?_, fun j q => ?_, fun j => ?_, fun j k x hn h1 h2 => ?_, fun j x hx => ?_, ⟨r'.xt.ntF, r.xt.ntB, r'.xt.tb, r'.xt.ta⟩⟩
    · have q : (s'.ρ.set i (.dt d))[j]? = some (.dt d') := q
      by_cases h : j = i
      · subst h
        rw [List.getElem?_set_self hlt'] at q
        cases q
        obtain ⟨v, ev, rp⟩ := r.sl j d (slot_some e)
        refine ⟨v, (a.sg j hi2).trans ev, ?_⟩
        show Rep _ _ _ _ _ _ (if j = j then _ else _)
        rw [if_pos rfl]
        exact rp.mono (Ex.refl B) a.step.ext fun x hx o eo => by rw [cell x hx]; exact eo
      · rw [List.getElem?_set_ne fun y => h y.symm] at q
        show ∃ v, _ ∧ Rep _ _ _ _ _ _ (if j = i then _ else _)
        rw [if_neg h]
        by_cases hj : j ∈ tc ∨ j + 1000 ∈ tc
        · obtain ⟨v, ev, rp⟩ := r'.sl j d' q
          exact ⟨v, ev, rp.noB (noBoAt_get hn hj q)⟩
        · have h1 : j ∉ tc := fun z => hj (.inl z)
          have h2 : j + 1000 ∉ tc := fun z => hj (.inr z)
          obtain ⟨y1, y2, y3⟩ := a.fix j h1
          have y1 : s'.ρ[j]? = (s.ρ.set i (.dt (mapF flLend d)))[j]? := y1
          rw [List.getElem?_set_ne fun y => h y.symm, q] at y1
          have y2 : s'.φ j = if j = i then [] else s.φ j := y2
          rw [if_neg h] at y2
          have y3 : ∀ x ∈ (if j = i then [] else s.φ j), s'.H x = s.H x := y3
          rw [if_neg h] at y3
          obtain ⟨v, ev, rp⟩ := r.sl j d' y1.symm
          refine ⟨v, (a.sg j h2).trans ev, ?_⟩
          rw [y2]
          exact rp.mono (Ex.refl B) a.step.ext fun x hx o eo => by rw [y3 x hx]; exact eo
    · have q : (s'.ρ.set i (.dt d))[j]? = some .exn := q
      by_cases h : j = i
      · subst h
        rw [List.getElem?_set_self hlt'] at q; cases q
      · rw [List.getElem?_set_ne fun y => h y.symm] at q
        exact r'.xn j q
    · show (if j = i then s.φ i else s'.φ j) = []
      by_cases h : j = i
      · exfalso
        subst h
        exact q d (List.getElem?_set_self hlt')
      · rw [if_neg h]
        refine r'.em j fun d' q' => q d' ?_
        show (s'.ρ.set i _)[j]? = _
        rw [List.getElem?_set_ne fun y => h y.symm]
        exact q'
    · show (if j = i then s.φ i else s'.φ j).Nodup
      split
      · exact r.nd i
      · exact r'.nd j
    · have h1 : x ∈ (if j = i then s.φ i else s'.φ j) := h1
      have h2 : x ∈ (if k = i then s.φ i else s'.φ k) := h2
      by_cases p1 : j = i
      · by_cases p2 : k = i
        · exact hn (p1.trans p2.symm)
        · rw [if_pos p1] at h1
          rw [if_neg p2] at h2
          exact some' x h1 (r'.ap k x h2).2
      · by_cases p2 : k = i
        · rw [if_neg p1] at h1
          rw [if_pos p2] at h2
          exact some' x h2 (r'.ap j x h1).2
        · rw [if_neg p1] at h1
          rw [if_neg p2] at h2
          exact r'.dj j k x hn h1 h2
    · have hx : x ∈ (if j = i then s.φ i else s'.φ j) := hx
      by_cases p1 : j = i
      · rw [if_pos p1] at hx
        refine ⟨?_, hB x hx⟩
        cases ef : s'.F x with
        | none => rfl
        | some o =>
          exfalso
          rcases a.step.fn x o ef (r.ap i x hx).1 with z | z
          · exact hO2 x hx z
          · obtain ⟨o', eo⟩ := r.dom ⟨i, hx⟩
            have z : s.H x = none := z
            rw [eo] at z; cases z
      · rw [if_neg p1] at hx
        exact ⟨(r'.ap j x hx).1, Bn x (r'.ap j x hx).2⟩
  · rcases q with ⟨j, q⟩ | q
    · have q : x ∈ (if j = i then s.φ i else s'.φ j) := q
      by_cases p1 : j = i
      · rw [if_pos p1] at q
        exact .inl ⟨i, q⟩
      · rw [if_neg p1] at q
        exact (a.step.on x (.inl ⟨j, q⟩)).imp (hO1 x) id
    · exact (a.step.on x (.inr q)).imp (hO1 x) id
  · by_cases h : j = i
    · subst h
      refine ⟨?_, ?_, cell⟩
      · show (s'.ρ.set j _)[j]? = _
        rw [List.getElem?_set_self hlt']
        exact (slot_some e).symm
      · show (if j = j then s.φ j else _) = _
        rw [if_pos rfl]
    · obtain ⟨y1, y2, y3⟩ := a.fix j hj
      have y1 : s'.ρ[j]? = (s.ρ.set i (.dt (mapF flLend d)))[j]? := y1
      rw [List.getElem?_set_ne fun y => h y.symm] at y1
      have y2 : s'.φ j = if j = i then [] else s.φ j := y2
      rw [if_neg h] at y2
      have y3 : ∀ x ∈ (if j = i then [] else s.φ j), s'.H x = s.H x := y3
      rw [if_neg h] at y3
      refine ⟨?_, ?_, y3⟩
      · show (s'.ρ.set i _)[j]? = _
        rw [List.getElem?_set_ne fun y => h y.symm]
        exact y1
      · show (if j = i then _ else s'.φ j) = _
        rw [if_neg h]
        exact y2
  · have q : x ∈ (if j = i then s.φ i else s'.φ j) := q
    by_cases p1 : j = i
    · rw [if_pos p1] at q; exact .inr q
    · rw [if_neg p1] at q; exact .inl ⟨j, q⟩
theorem lend_tmp {s s' s2 : S5} {d : D} {v : V} {g : List Addr} (r : Okk T B s) (h1 : s2.H = s'.H) (h2 : s2.F = s'.F) (h3 : ∀ x, O s2.φ x → O s'.φ x ∨ x ∈ s.φ i) (t : Tmp T (ovl s.H B (s.φ i)) s'.H s'.F s'.φ d v g) (hn : allF noBo d = true) : Tmp T B s2.H s2.F s2.φ d v g := by
  have some' : ∀ x ∈ s.φ i, ovl s.H B (s.φ i) x ≠ none := fun x hx z => by
    obtain ⟨o, eo⟩ := r.dom ⟨i, hx⟩
    rw [ovl_in hx, eo] at z; cases z
  refine ⟨by rw [h1, h2]; exact t.rep.noB hn, t.nd, fun x hx => ⟨by rw [h2]; exact (t.ap x hx).1, ?_⟩, fun x hx q => ?_⟩
  · have z := (t.ap x hx).2
    by_cases h : x ∈ s.φ i
    · exact absurd z (some' x h)
    · rw [ovl_out h] at z; exact z
  · rcases h3 x q with z | z
    · exact t.dj x hx z
    · exact some' x z (t.ap x hx).2
end
section
variable {X : Cx} {G : Gx} {W : WX} {tc : List Nat} {i : Nat} {e : Expr} {st : Stmt} {sts : List Stmt}
theorem lendE_core {T : Tx} {f : M D} (hi : i ∉ tc) (hi2 : i + 1000 ∉ tc) {σ : L2.St} {H : Hp} {Q : VK} (h : tD T W tc (dLend i tc f) σ H Q) : tD T W tc f σ H Q := by
  obtain ⟨B, s, e1, e2, r, hp⟩ := h
  subst e1 e2
  unfold dLend at hp
  cases es : slot i s.ρ with
  | none => rw [es] at hp; exact hp.elim
  | some d =>
    rw [es] at hp
    dsimp only at hp
    refine ⟨_, s.lent i d, rfl, rfl, lend_in r es, ?_⟩
    show Post _ _ (f (s.ρ.set i (.dt (mapF flLend d))))
    cases ef : f (s.ρ.set i (.dt (mapF flLend d))) with
    | bad => rw [ef] at hp; exact hp.elim
    | ok d' ρ' =>
      rw [ef] at hp
      dsimp only at hp
      split at hp
      case isFalse => exact hp.elim
      rename_i hh
      intro v s' g q1 q2 q3 q4 q5
      subst q1
      obtain ⟨s2, w1, w2, w3, w4, w5, w6, w7⟩ := lend_out r es hi hi2 q3 q5 (fun x hx => (q4.ap x hx).2) hh.2
      have z := hp v s2 g w1 (w2.trans q2) w5 (lend_tmp r w3 w4 w7 q4 hh.1) w6
      rw [w3] at z
      exact z
    | exc c ks xs ρ' =>
      rw [ef] at hp
      dsimp only at hp
      split at hp
      case isFalse => exact hp.elim
      rename_i hh
      intro cls dd s' q1 q2 q3 q4 q5
      subst q1
      obtain ⟨s2, w1, w2, w3, w4, w5, w6, w7⟩ := lend_out r es hi hi2 q3 q5 (fun x hx => by cases hx) hh
      have z := hp cls dd s2 w1 (w2.trans q2) w5 (by rw [w4]; exact q4) w6
      rw [w2, w3] at z
      exact z
theorem lendT_core {T : Tx} {f : M Bool} (hi : i ∉ tc) (hi2 : i + 1000 ∉ tc) {σ : L2.St} {H : Hp} {Q : Bool → Hp → Prop} (h : tDT T W tc (dLendT i tc f) σ H Q) : tDT T W tc f σ H Q := by
  obtain ⟨B, s, e1, e2, r, hp⟩ := h
  subst e1 e2
  unfold dLendT at hp
  cases es : slot i s.ρ with
  | none => rw [es] at hp; exact hp.elim
  | some d =>
    rw [es] at hp
    dsimp only at hp
    refine ⟨_, s.lent i d, rfl, rfl, lend_in r es, ?_⟩
    show Post _ _ (f (s.ρ.set i (.dt (mapF flLend d))))
    cases ef : f (s.ρ.set i (.dt (mapF flLend d))) with
    | bad => rw [ef] at hp; exact hp.elim
    | ok d' ρ' =>
      rw [ef] at hp
      dsimp only at hp
      split at hp
      case isFalse => exact hp.elim
      rename_i hh
      intro s' q1 q2 q3 q5
      subst q1
      obtain ⟨s2, w1, w2, w3, w4, w5, w6, w7⟩ := lend_out r es hi hi2 q3 q5 (fun x hx => by cases hx) hh
      have z := hp s2 w1 (w2.trans q2) w5 w6
      rw [w3] at z
      exact z
    | exc c ks xs ρ' =>
      rw [ef] at hp
      dsimp only at hp
      split at hp
      case isFalse => exact hp.elim
      rename_i hh
      intro cls dd s' q1 q2 q3 q4 q5
      subst q1
      obtain ⟨s2, w1, w2, w3, w4, w5, w6, w7⟩ := lend_out r es hi hi2 q3 q5 (fun x hx => by cases hx) hh
      have z := hp cls dd s2 w1 (w2.trans q2) w5 (by rw [w4]; exact q4) w6
      rw [w2, w3] at z
      exact z
theorem lendS_core {T : Tx} {f : M Flw} (hi : i ∉ tc) (hi2 : i + 1000 ∉ tc) {σ : L2.St} {H : Hp} {E : Ends} (h : tDS T W tc (dLendS i tc f) E σ H) : tDS T W tc f E σ H := by
  obtain ⟨B, s, e1, e2, r, hp⟩ := h
  subst e1 e2
  unfold dLendS at hp
  cases es : slot i s.ρ with
  | none => rw [es] at hp; exact hp.elim
  | some d =>
    rw [es] at hp
    dsimp only at hp
    refine ⟨_, s.lent i d, rfl, rfl, lend_in r es, ?_⟩
    show Post _ _ (f (s.ρ.set i (.dt (mapF flLend d))))
    cases ef : f (s.ρ.set i (.dt (mapF flLend d))) with
    | bad => rw [ef] at hp; exact hp.elim
    | ok fl ρ' =>
      rw [ef] at hp
      dsimp only at hp
      split at hp
      case isFalse => exact hp.elim
      rename_i hh
      cases fl with
      | rt d' =>
        intro v s' g q1 q3 q4 q5
        subst q1
        obtain ⟨s2, w1, w2, w3, w4, w5, w6, w7⟩ := lend_out r es hi hi2 q3 q5 (fun x hx => (q4.ap x hx).2) hh.2
        have z := hp v s2 g w1 w5 (lend_tmp r w3 w4 w7 q4 hh.1) w6
        rw [w3] at z
        exact z
      | nx =>
        intro s' q1 q3 q5
        subst q1
        obtain ⟨s2, w1, w2, w3, w4, w5, w6, w7⟩ := lend_out r es hi hi2 q3 q5 (fun x hx => by cases hx) hh.2
        have z := hp s2 w1 w5 w6
        rw [w2, w3] at z
        exact z
      | bk =>
        intro s' q1 q3 q5
        subst q1
        obtain ⟨s2, w1, w2, w3, w4, w5, w6, w7⟩ := lend_out r es hi hi2 q3 q5 (fun x hx => by cases hx) hh.2
        have z := hp s2 w1 w5 w6
        rw [w2, w3] at z
        exact z
      | ct =>
        intro s' q1 q3 q5
        subst q1
        obtain ⟨s2, w1, w2, w3, w4, w5, w6, w7⟩ := lend_out r es hi hi2 q3 q5 (fun x hx => by cases hx) hh.2
        have z := hp s2 w1 w5 w6
        rw [w2, w3] at z
        exact z
    | exc c ks xs ρ' =>
      rw [ef] at hp
      dsimp only at hp
      split at hp
      case isFalse => exact hp.elim
      rename_i hh
      intro cls dd s' q1 q3 q4 q5
      subst q1
      obtain ⟨s2, w1, w2, w3, w4, w5, w6, w7⟩ := lend_out r es hi hi2 q3 q5 (fun x hx => by cases hx) hh
      have z := hp cls dd s2 w1 w5 (by rw [w4]; exact q4) w6
      rw [w2, w3] at z
      exact z
theorem g_lend {f : M D} (h : GE X G W tc e f) (hi : i ∉ tc := by decide) (hi2 : i + 1000 ∉ tc := by decide) : GE X G W tc e (dLend i tc f) := pe_mono h fun _ _ _ q => lendE_core hi hi2 q
theorem gt_lend {f : M Bool} (h : GT X G W tc e f) (hi : i ∉ tc := by decide) (hi2 : i + 1000 ∉ tc := by decide) : GT X G W tc e (dLendT i tc f) := pt_mono h fun _ _ _ q => lendT_core hi hi2 q
theorem gs_lend {f : M Flw} (h : GS X G W tc st f) (hi : i ∉ tc := by decide) (hi2 : i + 1000 ∉ tc := by decide) : GS X G W tc st (dLendS i tc f) := ps_mono h fun _ _ _ q => lendS_core hi hi2 q
/-! ## a slot frozen where it stands -/
def dFs (i : Nat) : M D := fun ρ => match slot i ρ with
  | some d => .ok (mapF flFrz d) (ρ.set i (.dt (mapF flFrz d)))
  | none => .bad
theorem g_fs {x : Str} {pos : Pos} (hv : PE X (.Name x pos) (tVar i)) : GE X G W [i] (.Name x pos) (dFs i) :=
  pe_mono hv fun σ H Q ⟨B, s, e1, e2, r, h⟩ => by
    subst e1 e2
    unfold dFs at h
    cases e : slot i s.ρ with
    | none => rw [e] at h; exact h.elim
    | some d =>
      rw [e] at h
      have hlt := slot_lt e
      obtain ⟨v, ev, rp⟩ := r.sl i d (slot_some e)
      have t := take_tmp r rp
      have r2 : Okk (tx X G) B ((s.take i).ovl (s.φ i)) := Rel.ovl (r.take (i := i)) (fun a q => (t.ap a q).1) t.dj t.rep.nt
      have rp2 : Rep (tx X G) B s.H (ovl s.H s.F (s.φ i)) (mapF flFrz d) v [] := t.frz
      have a2 : Goes [i] s ((s.take i).ovl (s.φ i)) [] := (take_goes (s := s) (i := i)).ovl fun a q => (t.ap a q).1
      let s3 : S5 := { s with F := ovl s.H s.F (s.φ i), ρ := s.ρ.set i (.dt (mapF flFrz d)), φ := fun j => if j = i then [] else s.φ j }
      have r3 : Okk (tx X G) B s3 := by
        refine ⟨by show (s.ρ.set i _).length = _; rw [List.length_set]; exact r.len, r2.exB, r2.exF, r2.exP, fun j d' q => ?_, fun j q => ?_, fun j q => ?_, r2.nd, r2.dj, r2.ap, r2.xt⟩
        · have q : (s.ρ.set i (.dt (mapF flFrz d)))[j]? = some (.dt d') := q
          by_cases hj : j = i
          · subst hj
            rw [List.getElem?_set_self hlt] at q
            cases q
            refine ⟨v, ev, ?_⟩
            show Rep _ _ _ _ _ _ (if j = j then [] else _)
            rw [if_pos rfl]
            exact rp2
          · rw [List.getElem?_set_ne fun z => hj z.symm] at q
            exact r2.sl j d' (by show (s.ρ.set i .un)[j]? = _; rw [List.getElem?_set_ne fun z => hj z.symm]; exact q)
        · have q : (s.ρ.set i (.dt (mapF flFrz d)))[j]? = some .exn := q
          by_cases hj : j = i
          · subst hj
            rw [List.getElem?_set_self hlt] at q; cases q
          · rw [List.getElem?_set_ne fun z => hj z.symm] at q
            exact r.xn j q
        · show (if j = i then [] else s.φ j) = []
          by_cases hj : j = i
          · rw [if_pos hj]
          · rw [if_neg hj]
            refine r.em j fun d' q' => q d' ?_
            show (s.ρ.set i _)[j]? = _
            rw [List.getElem?_set_ne fun z => hj z.symm]
            exact q'
      refine ⟨v, ev, h v s3 [] rfl rfl r3 (Tmp.flat rp2) ⟨a2.step, fun j hj => ?_, a2.sg⟩⟩
      have hji : j ≠ i := fun z => hj (by rw [z]; exact List.mem_singleton.mpr rfl)
      obtain ⟨y1, y2, y3⟩ := a2.fix j hj
      exact ⟨List.getElem?_set_ne fun z => hji z.symm, y2, y3⟩
end
end Cs
namespace Cs
open PySem L2 Evl PyProof.Rows

/-! ## range(a, b, c) -/
def rngC (lo c : Int) (n : Nat) : List D := (List.range n).map fun (i : Nat) => .int (lo + (i : Int) * c)
def szC (i j c : Int) : Nat := (Builtin.Range.rangeSize i j c).toNat
def dRg3 (f g h : M D) : M (List D) := bnd f fun d => bnd g fun e => bnd h fun k => match d, e, k with
  | .int i, .int j, .int c => if (-1000000 ≤ i ∧ i ≤ 1000000) ∧ (-1000000 ≤ j ∧ j ≤ 1000000) ∧ ((c ≠ 0 ∧ -1000000 ≤ c ∧ c ≤ 1000000) ∨ (2 ^ 64 ≤ c ∧ c ≤ 2 ^ 200)) then ret (rngC i c (szC i j c)) else bad
  | _, _, _ => bad
section
variable {T : Tx} {B : Hp} {s : S5}
end
section
variable {X : Cx} {G : Gx} {W : WX} {t1 t2 t3 : List Nat} {tg a b c : Expr} {pos p : Pos} {f g h : M D}
end
/-! ## slices -/
section
variable {X : Cx} {G : Gx} {W : WX} {t1 t2 t3 tc : List Nat} {e : Expr} {lo hi : Option Expr} {pos p2 : Pos} {f : M D} {g h : M (Option Int)}
def tDO (T : Tx) (W : WX) (tc : List Nat) (f : M (Option Int)) : TO := fun σ H Q => ∃ B s, s.σ = σ ∧ s.H = H ∧ Okk T B s ∧ Post (fun o ρ => ∀ s', s'.ρ = ρ → s'.σ = s.σ → Okk T B s' → Goes tc s s' [] → Q o s'.H) (exE T W B tc s) (f s.ρ)
abbrev GO2 (X : Cx) (G : Gx) (W : WX) (tc : List Nat) (e : Option Expr) (f : M (Option Int)) : Prop := PO X e (tDO (tx X G) W tc f)
def dPart (f : M D) : M (Option Int) := bnd f fun d => match d with
  | .int i => ret (some i)
  | _ => bad
theorem po_mono {t t' : TO} (h : PO X lo t) (i : ∀ σ H Q, t' σ H Q → t σ H Q) : PO X lo t' := ⟨fun pins s σ H Q I q => h.run pins s σ H Q I (i σ H Q q)⟩
theorem go2_none : GO2 X G W [] none (ret none) := po_mono po_none fun σ H Q ⟨B, s, e1, e2, r, h⟩ => by
  subst e1 e2
  exact h s rfl rfl r Goes.refl
theorem go2_some (he : GE X G W tc e f) : GO2 X G W tc (some e) (dPart f) := po_mono (po_some he) fun σ H Q ⟨B, s, e1, e2, r, h⟩ => by
  subst e1 e2
  refine seqE1 (okk := fun o ρ => ∀ s', s'.ρ = ρ → s'.σ = s.σ → Okk (tx X G) B s' → Goes tc s s' [] → Q o s'.H) r h fun d v s1 g _ hs r1 t a h => ?_
  cases d with
  | int i =>
    obtain ⟨rp, _, _, _⟩ := t
    cases rp
    exact ⟨i, rfl, h s1 rfl hs r1 a.drop0⟩
  | _ => exact h.elim
def cutD (xs : List D) (lo hi : Option Int) : List D := (xs.drop (HT.sIx xs.length 0 lo)).take (HT.sIx xs.length xs.length hi - HT.sIx xs.length 0 lo)
def dSl (f : M D) (g h : M (Option Int)) : M D := bnd f fun d => bnd g fun lo => bnd h fun hi => match d with
  | .lst _ xs => if allF noOw d = true then ret (.lst .ow (cutD xs lo hi)) else bad
  | _ => bad
theorem Reps.drop {T : Tx} {B H F : Hp} : ∀ {n : Nat} {xs : List D} {vs : List V}, Reps T B H F xs vs [] → Reps T B H F (xs.drop n) (vs.drop n) []
  | 0, _, _, h => h
  | _ + 1, _, _, .nil => .nil
  | n + 1, _, _, .cons r rs e => by
    obtain ⟨rfl, rfl⟩ := List.append_eq_nil_iff.mp e.symm
    exact Reps.drop (n := n) rs
theorem Reps.take {T : Tx} {B H F : Hp} : ∀ {n : Nat} {xs : List D} {vs : List V}, Reps T B H F xs vs [] → Reps T B H F (xs.take n) (vs.take n) []
  | 0, _, _, _ => .nil
  | _ + 1, _, _, .nil => .nil
  | n + 1, _, _, .cons r rs e => by
    obtain ⟨rfl, rfl⟩ := List.append_eq_nil_iff.mp e.symm
    exact .cons r (Reps.take (n := n) rs) rfl
/-- xs[a:b], xs a list -/
theorem g_slice (h1 : GE X G W t1 e f) (h2 : GO2 X G W t2 lo g) (h3 : GO2 X G W t3 hi h) : GE X G W (t1 ++ (t2 ++ t3)) (.Subscript e (.Slice lo hi none p2) pos) (dSl f g h) :=
  pe_mono (pe_slice sl_list h1 h2 h3) fun σ H Q ⟨B, s, e1, e2, r, hp⟩ => by
    subst e1 e2
    refine seqE r hp fun d v s1 g1 _ hs r1 t a hp1 => ?_
    rw [← hs]
    refine ⟨B, s1, rfl, rfl, r1, hp1.bnd.imp (fun lo ρ2 ⟨_, h4⟩ s2 q1 q2 r2 a2 => ?_) fun _ _ _ _ z cls dd s' q1 q2 q3 q4 q5 => z cls dd s' q1 (q2.trans hs) q3 q4 ((a.trans0 q5).wk fun j w => by
      rcases List.mem_append.mp w with w | w
      · exact memL w
      · exact memR (memL w))⟩
    subst q1
    have a12 := a.trans0 a2
    rw [← q2]
    refine ⟨B, s2, rfl, rfl, r2, h4.bnd.imp (fun hi ρ3 ⟨_, h5⟩ s3 q3 q4 r3 a3 => ?_) fun _ _ _ _ z cls dd s' w1 w2 w3 w4 w5 => z cls dd s' w1 (w2.trans (q2.trans hs)) w3 w4 ((a12.trans0 w5).wk fun j w => by rw [List.append_assoc] at w; exact w)⟩
    subst q3
    have a123 : Goes (t1 ++ (t2 ++ t3)) s s3 [] := (a12.trans0 a3).wk fun j w => by rw [List.append_assoc] at w; exact w
    cases d with
    | lst o xs =>
      dsimp only at h5
      split at h5
      case isFalse => exact h5.elim
      rename_i hn
      have z := rep_v t.rep hn
      obtain ⟨p, vs, rfl, rp, sq⟩ := z.listS
      have e13 : Ex s1.F s3.F := a2.step.ext.trans a3.step.ext
      refine ⟨p, vs, rfl, sq s3.H s3.F e13 r3.exF r3.exB, fun q hq => ?_⟩
      have rq : Reps (tx X G) B s3.H s3.F (cutD xs lo hi) (cutV vs lo hi) [] := by
        unfold cutD cutV
        rw [rp.len]
        exact (rp.drop.take).mono (Ex.refl B) e13 fun _ z => by cases z
      have z := a123.trans0 (goes_new (o := .lst (cutV vs lo hi)) r3 hq)
      rw [List.append_nil] at z
      exact h5 (.ref q) (s3.new q (.lst (cutV vs lo hi))) [q] rfl (q4.trans (q2.trans hs)) (r3.new hq) (tmp_newL r3 hq rq) z
    | _ => exact h5.elim
end
end Cs
namespace Cs
open PySem L2 Evl PyProof.Rows

/-! ## xs[j].append(e) -/
def appAt2 (j d : D) (xs : List D) : Option (List D) := (inner j xs).bind fun (n, ys) => if ys.length < lim ∧ allF noOw d = true then some (xs.set n (.lst .ow (ys ++ [d]))) else none
def dApp2 (i : Nat) (fj fe : M D) : M Flw := bnd (dPk i) fun _ => bnd fj fun j => dIn2 i j (bnd (dFz fe) fun d => dMutL i (appAt2 j d))
section
variable {X : Cx} {G : Gx} {W : WX} {tc t1 t2 : List Nat} {a b e : Expr} {pos pos2 pos' apos cpos p p2 : Pos} {u w : M D} {i : Nat} {x : Str}
end
end Cs
namespace Cs
open PySem L2 Evl PyProof.Rows

/-! ## a law's end -/
abbrev P0 : Hp := fun _ => none
def scr (ns : List Int) : D := .lst .ro (ns.map D.int)
theorem reps_ints {T : Tx} {B H F : Hp} : ∀ ns : List Int, Reps T B H F (ns.map D.int) (ns.map V.int) []
  | [] => .nil
  | n :: ns => .cons (.int n) (reps_ints ns) rfl
/-- all but the tables -/
def noTb (H : Hp) : Hp := fun a => match H a with
  | some (.tbl _) => none
  | x => x
theorem noTb_ex {H : Hp} : Ex (noTb H) H := fun a o e => by
  unfold noTb at e
  split at e
  · cases e
  · exact e
theorem noTb_nt {H : Hp} : ∀ a o, noTb H a = some o → Nt o := fun a o e ps z => by
  subst z
  unfold noTb at e
  split at e
  · cases e
  · rename_i h
    exact h ps e
theorem noTb_of {H : Hp} {a : Addr} {o : HO} (h : H a = some o) (n : Nt o) : noTb H a = some o := by
  unfold noTb
  rw [h]
  split
  · rename_i ps e
    cases e
    exact absurd rfl (n ps)
  · rfl
theorem noTb_sq {K : PySem.W.Frag} {H : Hp} {a : Addr} {vs : List V} (h : SqL K H a vs) : SqL K (noTb H) a vs := by
  rcases h with (h | ⟨o, h⟩) | h
  · exact .inl (.inl (noTb_of h fun _ e => by cases e))
  · exact .inl (.inr ⟨o, noTb_of h fun _ e => by cases e⟩)
  · exact .inr h
/-- .. with tables of code objects -/
def spLawT (K : PySem.W.Frag) (n : Nat) (TB : List (Addr × Str)) : Sp := fun vs H Q _ => ∃ (a : Addr) (ns : List Int), vs = [.ref a] ∧ SqL K H a (ns.map V.int) ∧ ns.length ≤ n ∧ (LamX.Tabs TB H ∧ ∀ a ps, H a = some (.tbl ps) → ∃ q, (a, q) ∈ TB) ∧ ∀ H', Q (.bl true) H'
def spLawU (K : PySem.W.Frag) (n : Nat) (TB : List (Addr × Str)) : Sp := fun vs H Q _ => ∃ (a : Addr) (ns : List Int), vs = [.ref a] ∧ SqL K H a (ns.map V.int) ∧ ns.length ≤ n ∧ LamX.Tabs TB H ∧ ∀ H', Q (.bl true) H'
/-- the other tables are left alone -/
def cutT (TB : List (Addr × Str)) (H : Hp) : Hp := fun b => match H b with
  | some (.tbl ps) => if b ∈ TB.map (·.1) then some (.tbl ps) else none
  | x => x
theorem cutT_nt {TB : List (Addr × Str)} {H : Hp} {b : Addr} {o : HO} (h : H b = some o) (n : Nt o) : cutT TB H b = some o := by
  unfold cutT
  rw [h]
  split
  · rename_i ps e
    cases e
    exact absurd rfl (n ps)
  · rfl
theorem cutT_of {TB : List (Addr × Str)} {H : Hp} {b : Addr} {o : HO} (h : cutT TB H b = some o) : H b = some o := by
  unfold cutT at h
  split at h
  · rename_i ps e
    split at h
    · rw [e]
      exact h
    · cases h
  · exact h
theorem cutT_n {TB : List (Addr × Str)} {H : Hp} {b : Addr} (h : H b = none) : cutT TB H b = none := by
  unfold cutT
  rw [h]
theorem cutT_tabs {TB : List (Addr × Str)} {H : Hp} (t : LamX.Tabs TB H) : LamX.Tabs TB (cutT TB H) := fun p hp => by
  obtain ⟨ps, h1, h2, h3⟩ := t p hp
  refine ⟨ps, ?_, h2, fun pos cv hc => ?_⟩
  · unfold cutT
    rw [h1]
    exact if_pos (List.mem_map.mpr ⟨p, hp, rfl⟩)
  · obtain ⟨c, e1, e2⟩ := h3 pos cv hc
    exact ⟨c, e1, cutT_nt e2 fun _ z => by unfold LamX.CodeO at z; cases z⟩
theorem cutT_sq {TB : List (Addr × Str)} {K : PySem.W.Frag} {H : Hp} {a : Addr} {vs : List V} (h : SqL K H a vs) : SqL K (cutT TB H) a vs := by
  rcases h with (h | ⟨o, h⟩) | h
  · exact .inl (.inl (cutT_nt h fun _ e => by cases e))
  · exact .inl (.inr ⟨o, cutT_nt h fun _ e => by cases e⟩)
  · exact .inr h
theorem cutT_hok {P : Program} {w : World} {TB : List (Addr × Str)} {H : Hp} {h : Heap} (x : HOk P w H h) : HOk P w (cutT TB H) h := fun a o e =>
  (x a o (cutT_of e)).stay (fun _ _ _ q => q) (fun b q => cutT_nt q fun _ z => by cases z) fun b xs q => cutT_nt q fun _ z => by cases z
theorem sp_impT {TB : List (Addr × Str)} {K : PySem.W.Frag} {C : Str → Option Addr} {m : List D → Res} {n : Nat} (hm : ∀ ns : List Int, ns.length ≤ n → ∃ os, m [scr ns] = .ok (.bl true) os) {vs : List V} {H : Hp} {Q : VK} {E : XK} (h : spLawT K n TB vs H Q E) : spM ⟨K, C, P0, none, TB⟩ m vs H Q E := by
  obtain ⟨a, ns, rfl, hS, hl, hT, hQ⟩ := h
  obtain ⟨os, e⟩ := hm ns hl
  refine ⟨fun _ => none, ⟨[some (.ref a)], H, noTb H, [.dt (scr ns)], fun _ => []⟩, [scr ns], rfl, rfl, rfl, ⟨rfl, fun _ _ z => (by cases z), noTb_ex, fun _ _ z => (by cases z), fun i d q => ?_, fun i q => ?_, fun _ _ => rfl, fun _ => .nil, fun _ _ _ _ z => (by cases z), fun _ _ z => (by cases z), ⟨noTb_nt, fun _ _ z => (by cases z), hT.1, hT.2⟩⟩, ?_⟩
  · cases i with
    | zero =>
      cases q
      exact ⟨.ref a, rfl, .lstR (noTb_sq hS) (reps_ints ns)⟩
    | succ i => simp at q
  · cases i with
    | zero => cases q
    | succ i => simp at q
  · rw [e]
    intro v s' g q1 q2 q3 q4 q5 q6 q7
    obtain ⟨rp, _, _, _⟩ := q4
    cases rp
    exact hQ s'.H
theorem law_fnT {P : Program} {w : World} {K : PySem.W.Frag} {mg : Str → Option Value} {base : Heap} {k : Nat} {f : Addr} {fd : FuncData} {ps : List Str} {C : Str → Option Addr} {m : List D → Res} {n : Nat} {TB : List (Addr × Str)} (hm : ∀ ns : List Int, ns.length ≤ n → ∃ os, m [scr ns] = .ok (.bl true) os)
    (F : FnOk P w K mg base (L2N.CX P w) k f fd ps (spM ⟨K, C, P0, none, TB⟩ m)) : FnOk P w K mg base (L2N.CX P w) k f fd ps (spLawU K n TB) := by
  have start : ∀ {vs : List V} {H : Hp} {Q : VK} {E : XK}, spLawU K n TB vs H Q E → spM ⟨K, C, P0, none, TB⟩ m vs (cutT TB H) (fun v _ => v = .bl true) (fun _ _ _ => False) := fun {vs H Q E} ⟨a, ns, h1, h2, h3, h4, h5⟩ =>
    sp_impT hm ⟨a, ns, h1, cutT_sq h2, h3, ⟨cutT_tabs h4, fun b qs e => by
      unfold cutT at e
      split at e
      · split at e
        · rename_i hb
          obtain ⟨p, hp, z⟩ := List.mem_map.mp hb
          exact ⟨p.2, by rw [← z]; exact hp⟩
        · cases e
      · rename_i hx
        exact absurd e (hx qs)⟩, fun _ => rfl⟩
  refine ⟨fun vs H Q E h => F.len vs _ _ _ (start h), fun A outer s H args us vs Q E hr e0 hb hv h => ?_⟩
  have e1 : Env0 P w K mg base A outer s (cutT TB H) := ⟨e0.frames, e0.mod, fun b o e => ⟨(e0.bs b o e).1, cutT_n (e0.bs b o e).2⟩, e0.bsz, e0.funs, fun b hb => cutT_n (e0.frf b hb), cutT_hok e0.hok, e0.bare⟩
  refine codeAny_mono (F.run A outer s (cutT TB H) args us vs _ _ hr e1 hb hv (start h)) fun r s' hq => ?_
  cases r with
  | error e =>
    obtain ⟨_, _, _, _, _, _, _, _, _, _, _, _, z⟩ := hq
    exact z.elim
  | ok fl =>
    cases fl with
    | next => exact hq
    | brk => exact hq
    | cont => exact hq
    | ret u =>
      obtain ⟨v, H2, q1, q2, q3, q4, q5, q6⟩ := hq
      obtain ⟨a, ns, h1, h2, h3, h4, h5⟩ := h
      have dead : ∀ b qs, H b = some (.tbl qs) → cutT TB H b = none → H2 b = none ∧ ∀ o, s.heap.get? b = some o → s'.heap.get? b = some o := fun b qs e z => by
        have nf : b ∉ frs outer := fun hb => by rw [e0.frf b hb] at e; cases e
        have hob : s.heap.get? b = some { cls := .none, data := .fields qs } := e0.hok b _ e
        exact ⟨q3.free b _ hob z (by simp), fun o ho => q3.keep b o ho z nf (by simp)⟩
      let H' : Hp := fun b => match H b with
        | some (.tbl qs) => if cutT TB H b = none then some (.tbl qs) else H2 b
        | _ => H2 b
      have same : ∀ b, (∀ qs, H b = some (.tbl qs) → cutT TB H b ≠ none) → H' b = H2 b := fun b hb => by
        show (match H b with
          | some (.tbl qs) => if cutT TB H b = none then some (.tbl qs) else H2 b
          | _ => H2 b) = H2 b
        split
        · rename_i qs e
          exact if_neg (hb qs e)
        · rfl
      have isd : ∀ b qs, H b = some (.tbl qs) → cutT TB H b = none → H' b = some (.tbl qs) := fun b qs e z => by
        show (match H b with
          | some (.tbl qs) => if cutT TB H b = none then some (.tbl qs) else H2 b
          | _ => H2 b) = some (.tbl qs)
        rw [e]
        exact if_pos z
      have ofN : ∀ b, H b = none → H' b = H2 b := fun b e => same b fun qs z => by rw [e] at z; cases z
      have lift : ∀ b o, H2 b = some o → H' b = some o := fun b o e => by
        rw [same b fun qs z y => by rw [(dead b qs z y).1] at e; cases e]
        exact e
      refine ⟨v, H', q1, q2, ⟨fun b o e n => q3.keep b o e (cutT_n n), fun b o e n => q3.slot b o e (cutT_n n), fun b o e n hx => by rw [ofN b n]; exact q3.free b o e (cutT_n n) hx, q3.there, fun b xs e => lift _ _ (q3.tups b xs (cutT_nt e fun _ z => by cases z)), fun b o u e => lift _ _ (q3.frzs b o u (cutT_nt e fun _ z => by cases z)), fun b qs e => ?_⟩, fun b o e => ?_, q5, by rw [q6]; exact h5 H'⟩
      · cases z : cutT TB H b with
        | none => exact ⟨#[], by rw [isd b qs e z]; simp⟩
        | some u =>
          have z2 := cutT_of z
          rw [e] at z2
          cases z2
          obtain ⟨more, z3⟩ := q3.tbls b qs z
          exact ⟨more, lift _ _ z3⟩
      · by_cases hd : ∃ qs, H b = some (.tbl qs) ∧ cutT TB H b = none
        · obtain ⟨qs, z1, z2⟩ := hd
          rw [isd b qs z1 z2] at e
          cases e
          exact (dead b qs z1 z2).2 _ (e0.hok b _ z1)
        · rw [same b fun qs z y => hd ⟨qs, z, y⟩] at e
          exact (q4 b o e).stay (fun _ _ _ q => q) (fun c q => lift _ _ q) fun c xs q => lift _ _ q
theorem cx_false {P : Program} {w : World} {H : Hp} {s : Shared} {e : Value} {s' : Shared} (h : L2N.CX P w [] H s (fun _ _ _ => False) e s') : False := by
  obtain ⟨_, _, _, _, _, _, _, _, _, _, _, _, z⟩ := h
  exact z
/-- THE RULE for a def, with what its body's derivation asks -/
theorem _root_.L2.Fun.toD {K : PySem.W.Frag} {x qual : Str} {st : Stmt} {f : Addr} {fd : FuncData} (F : Fun K x qual st f fd) : FunD K x qual (defArgs st) (defBody st) (defScope st) [] [] f fd := by
  obtain ⟨⟨oc, od, kV, doc, pm, an, cdv, ct, osl, e, lk, hcd⟩, kp⟩ := F
  exact ⟨⟨oc, od, .none, kV, doc, pm, an, cdv, ct, osl, e, lk, hcd, .inl ⟨rfl, rfl⟩, .inl rfl⟩, kp⟩
theorem fn_den2D {P : Program} {w : World} {K : PySem.W.Frag} {mg : Str → Option Value} {base : Heap} {x qual : Str} {st : Stmt} {f : Addr} {fd : FuncData} {N ps : List Str} {k : Nat} {G : Gx} {tc pr : List Nat} {den : M Flw}
    {dvs : List V} {kws : List (Str × V)} (F : FunD K x qual (defArgs st) (defBody st) (defScope st) dvs kws f fd) (S : FnScope N ps (defScope st)) (hpr : ∀ i ∈ pr, i + 1000 ∉ tc)
    (hd : ∀ (cdv : Value) (A : Around) (outer : List Env) (s : Shared) (H : Hp) (E : XK), Room k (A.deeper (envOfC qual (defScope st) s.heap.objs.size f cdv)) →
      L2N.Takes (cxOf (L2N.CX P w) P w K mg base N qual (defScope st) f cdv A outer s H E) (fun cls d _ H => E cls d H) → PassesOwn (model P w) (cxOf (L2N.CX P w) P w K mg base N qual (defScope st) f cdv A outer s H E).A (cxOf (L2N.CX P w) P w K mg base N qual (defScope st) f cdv A outer s H E).env (cxOf (L2N.CX P w) P w K mg base N qual (defScope st) f cdv A outer s H E).xe →
      (cxOf (L2N.CX P w) P w K mg base N qual (defScope st) f cdv A outer s H E).A.units + 65 < cLine →
      GSs (cxOf (L2N.CX P w) P w K mg base N qual (defScope st) f cdv A outer s H E) G (fun cls d _ H => E cls d H) tc (defBody st) den) :
    FnOk P w K mg base (L2N.CX P w) (k + 1) f fd ps (spM ⟨K, G.C, G.P, G.X, G.tb⟩ (run den pr N.length ps.length)) :=
  fn_den F S hpr fun cdv A outer s H E hr => hd cdv A outer s H E hr (L2N.takes_of rfl rfl rfl rfl) (passes_of rfl) (by have := hr.un; show (A.deeper (envOfC qual (defScope st) s.heap.objs.size f cdv)).units + 65 < cLine; omega)
theorem fn_den2 {P : Program} {w : World} {K : PySem.W.Frag} {mg : Str → Option Value} {base : Heap} {x qual : Str} {st : Stmt} {f : Addr} {fd : FuncData} {N ps : List Str} {k : Nat} {G : Gx} {tc pr : List Nat} {den : M Flw}
    (F : Fun K x qual st f fd) (S : FnScope N ps (defScope st)) (hpr : ∀ i ∈ pr, i + 1000 ∉ tc)
    (hd : ∀ (cdv : Value) (A : Around) (outer : List Env) (s : Shared) (H : Hp) (E : XK), Room k (A.deeper (envOfC qual (defScope st) s.heap.objs.size f cdv)) →
      L2N.Takes (cxOf (L2N.CX P w) P w K mg base N qual (defScope st) f cdv A outer s H E) (fun cls d _ H => E cls d H) → PassesOwn (model P w) (cxOf (L2N.CX P w) P w K mg base N qual (defScope st) f cdv A outer s H E).A (cxOf (L2N.CX P w) P w K mg base N qual (defScope st) f cdv A outer s H E).env (cxOf (L2N.CX P w) P w K mg base N qual (defScope st) f cdv A outer s H E).xe →
      (cxOf (L2N.CX P w) P w K mg base N qual (defScope st) f cdv A outer s H E).A.units + 65 < cLine →
      GSs (cxOf (L2N.CX P w) P w K mg base N qual (defScope st) f cdv A outer s H E) G (fun cls d _ H => E cls d H) tc (defBody st) den) :
    FnOk P w K mg base (L2N.CX P w) (k + 1) f fd ps (spM ⟨K, G.C, G.P, G.X, G.tb⟩ (run den pr N.length ps.length)) :=
  fn_den2D F.toD S hpr hd
/-- the classes by their names -/
def cls (l : List (Str × Addr)) : Str → Option Addr := fun s => l.lookup s
end Cs
namespace Cs
open L2

/-! ## what a denotation does, by rewriting -/
section
variable {α β : Type} {Q : α → En → Prop} {X : PySem.Str → List PySem.Str → List D → En → Prop} {ρ : En}
def slW (o : Option D) (K : D → Prop) : Prop := match o with
  | some d => K d
  | none => False
def prW (p : PR) (K : D → Prop) : Prop := match p with
  | .sc d => K d
  | .nl ds => K (.lst .ow ds)
  | .nt ds => K (.tup ds)
  | .bad => False
def blW (d : D) (K : Bool → Prop) : Prop := match d with
  | .bl b => K b
  | _ => False
@[simp] theorem slW_some {d : D} {K : D → Prop} : slW (some d) K = K d := rfl
@[simp] theorem slW_none {K : D → Prop} : slW none K = False := rfl
@[simp] theorem prW_sc {d : D} {K : D → Prop} : prW (.sc d) K = K d := rfl
@[simp] theorem prW_nl {d : List D} {K : D → Prop} : prW (.nl d) K = K (.lst .ow d) := rfl
@[simp] theorem prW_nt {d : List D} {K : D → Prop} : prW (.nt d) K = K (.tup d) := rfl
@[simp] theorem prW_bad {K : D → Prop} : prW .bad K = False := rfl
@[simp] theorem prW_if {c : Prop} [Decidable c] {p : PR} {K : D → Prop} : prW (if c then p else .bad) K = (c ∧ prW p K) := by
  by_cases h : c <;> simp [h]
@[simp] theorem blW_bl {b : Bool} {K : Bool → Prop} : blW (.bl b) K = K b := rfl
@[simp] theorem slot_zero {d : D} {r : En} : slot 0 (.dt d :: r) = some d := rfl
@[simp] theorem slot_succ {i : Nat} {s : Sl} {r : En} : slot (i + 1) (s :: r) = slot i r := rfl
@[simp] theorem post_ok {a : α} : Post Q X (.ok a ρ) = Q a ρ := rfl
@[simp] theorem post_exc {c : PySem.Str} {ks : List PySem.Str} {xs : List D} : Post Q X (.exc c ks xs ρ : Out α) = X c ks xs ρ := rfl
@[simp] theorem post_badO : Post Q X (.bad : Out α) = False := rfl
@[simp] theorem post_ret {a : α} : Post Q X (ret a ρ) = Q a ρ := rfl
@[simp] theorem post_bad : Post Q X (bad ρ : Out α) = False := rfl
@[simp] theorem post_bnd {f : M β} {k : β → M α} : Post Q X (bnd f k ρ) = Post (fun a ρ1 => Post Q X (k a ρ1)) X (f ρ) := by
  unfold bnd
  cases f ρ <;> rfl
@[simp] theorem post_pk {i : Nat} {Q : D → En → Prop} : Post Q X (dPk i ρ) = slW (slot i ρ) fun d => Q d ρ := by
  unfold dPk
  cases slot i ρ <;> rfl
@[simp] theorem post_cp {i : Nat} {Q : D → En → Prop} : Post Q X (dCp i ρ) = slW (slot i ρ) fun d => allF noOw d = true ∧ Q d ρ := by
  unfold dCp
  cases slot i ρ with
  | none => rfl
  | some d =>
    by_cases h : allF noOw d = true <;> simp [h]
@[simp] theorem post_mv {i : Nat} {Q : D → En → Prop} : Post Q X (dMv i ρ) = slW (slot i ρ) fun d => Q d (ρ.set i .un) := by
  unfold dMv
  cases slot i ρ <;> rfl
@[simp] theorem post_fs {i : Nat} {Q : D → En → Prop} : Post Q X (dFs i ρ) = slW (slot i ρ) fun d => Q (mapF flFrz d) (ρ.set i (.dt (mapF flFrz d))) := by
  unfold dFs
  cases slot i ρ <;> rfl
@[simp] theorem post_fz {f : M D} {Q : D → En → Prop} : Post Q X (dFz f ρ) = Post (fun d ρ1 => Q (mapF flFrz d) ρ1) X (f ρ) := by
  unfold dFz
  rw [post_bnd]
  rfl
@[simp] theorem post_pr {p : PR} {Q : D → En → Prop} : Post Q X (pr p ρ) = prW p fun d => Q d ρ := by cases p <;> rfl
@[simp] theorem post_op1v {p : D → PR} {f : M D} {Q : D → En → Prop} : Post Q X (dOp1 p (.v f) ρ) = Post (fun x ρ1 => prW (p x) fun d => Q d ρ1) X (f ρ) := by
  unfold dOp1; simp
@[simp] theorem post_op1p {p : D → PR} {i : Nat} {Q : D → En → Prop} : Post Q X (dOp1 p (.p i) ρ) = slW (slot i ρ) fun x => prW (p x) fun d => Q d ρ := by
  unfold dOp1; simp
@[simp] theorem post_op2vv {p : D → D → PR} {f g : M D} {Q : D → En → Prop} : Post Q X (dOp2 p (.v f) (.v g) ρ) = Post (fun x ρ1 => Post (fun y ρ2 => prW (p x y) fun d => Q d ρ2) X (g ρ1)) X (f ρ) := by
  unfold dOp2; simp
@[simp] theorem post_op2pv {p : D → D → PR} {i : Nat} {g : M D} {Q : D → En → Prop} : Post Q X (dOp2 p (.p i) (.v g) ρ) = slW (slot i ρ) fun _ => Post (fun y ρ2 => slW (slot i ρ2) fun x => prW (p x y) fun d => Q d ρ2) X (g ρ) := by
  unfold dOp2; simp
@[simp] theorem post_op2vp {p : D → D → PR} {f : M D} {j : Nat} {Q : D → En → Prop} : Post Q X (dOp2 p (.v f) (.p j) ρ) = Post (fun x ρ1 => slW (slot j ρ1) fun y => prW (p x y) fun d => Q d ρ1) X (f ρ) := by
  unfold dOp2; simp
@[simp] theorem post_op2pp {p : D → D → PR} {i j : Nat} {Q : D → En → Prop} : Post Q X (dOp2 p (.p i) (.p j) ρ) = slW (slot i ρ) fun x => slW (slot j ρ) fun y => prW (p x y) fun d => Q d ρ := by
  unfold dOp2; simp
@[simp] theorem post_B {f : M D} {Q : Bool → En → Prop} : Post Q X (dB f ρ) = Post (fun d ρ1 => blW d fun b => Q b ρ1) X (f ρ) := by
  unfold dB
  rw [post_bnd]
  congr 1
  funext d ρ1
  cases d <;> rfl
@[simp] theorem post_not {f : M Bool} {Q : Bool → En → Prop} : Post Q X (dNot f ρ) = Post (fun b ρ1 => Q (!b) ρ1) X (f ρ) := by
  unfold dNot; simp
@[simp] theorem post_and {f g : M Bool} {Q : Bool → En → Prop} : Post Q X (dAnd f g ρ) = Post (fun b ρ1 => if b = true then Post Q X (g ρ1) else Q false ρ1) X (f ρ) := by
  unfold dAnd
  rw [post_bnd]
  congr 1
  funext b ρ1
  cases b <;> simp
@[simp] theorem post_or {f g : M Bool} {Q : Bool → En → Prop} : Post Q X (dOr f g ρ) = Post (fun b ρ1 => if b = true then Q true ρ1 else Post Q X (g ρ1)) X (f ρ) := by
  unfold dOr
  rw [post_bnd]
  congr 1
  funext b ρ1
  cases b <;> simp
@[simp] theorem post_notV {f : M D} {Q : D → En → Prop} : Post Q X (dNotV f ρ) = Post (fun d ρ1 => blW d fun b => Q (.bl (!b)) ρ1) X (f ρ) := by
  unfold dNotV; simp
@[simp] theorem post_andV {f g : M D} {Q : D → En → Prop} : Post Q X (dAndV f g ρ) = Post (fun d ρ1 => blW d fun b => if b = true then Post Q X (g ρ1) else Q (.bl false) ρ1) X (f ρ) := by
  unfold dAndV
  rw [post_bnd, post_B]
  congr 1
  funext d ρ1
  congr 1
  funext b
  cases b <;> simp
@[simp] theorem post_orV {f g : M D} {Q : D → En → Prop} : Post Q X (dOrV f g ρ) = Post (fun d ρ1 => blW d fun b => if b = true then Q (.bl true) ρ1 else Post Q X (g ρ1)) X (f ρ) := by
  unfold dOrV
  rw [post_bnd, post_B]
  congr 1
  funext d ρ1
  congr 1
  funext b
  cases b <;> simp
@[simp] theorem post_ifE {c : M Bool} {f g : M D} {Q : D → En → Prop} : Post Q X (dIfE c f g ρ) = Post (fun b ρ1 => if b = true then Post Q X (f ρ1) else Post Q X (g ρ1)) X (c ρ) := by
  unfold dIfE
  rw [post_bnd]
  congr 1
  funext b ρ1
  cases b <;> simp
@[simp] theorem post_nil {Q : List D → En → Prop} : Post Q X (dNil ρ) = Q [] ρ := rfl
@[simp] theorem post_cons {f : M D} {g : M (List D)} {Q : List D → En → Prop} : Post Q X (dCons f g ρ) = Post (fun d ρ1 => Post (fun ds ρ2 => Q (d :: ds) ρ2) X (g ρ1)) X (f ρ) := by
  unfold dCons; simp
/-! statements -/
variable {Q : Flw → En → Prop}
def seqK (Q : Flw → En → Prop) (X : PySem.Str → List PySem.Str → List D → En → Prop) (g : M Flw) : Flw → En → Prop
  | .nx, ρ => Post Q X (g ρ)
  | fl, ρ => Q fl ρ
@[simp] theorem seqK_nx {g : M Flw} : seqK Q X g .nx ρ = Post Q X (g ρ) := rfl
@[simp] theorem seqK_bk {g : M Flw} : seqK Q X g .bk ρ = Q .bk ρ := rfl
@[simp] theorem seqK_ct {g : M Flw} : seqK Q X g .ct ρ = Q .ct ρ := rfl
@[simp] theorem seqK_rt {g : M Flw} {d : D} : seqK Q X g (.rt d) ρ = Q (.rt d) ρ := rfl
theorem post_seq {f g : M Flw} : Post Q X (dSeq f g ρ) = Post (seqK Q X g) X (f ρ) := by
  unfold dSeq
  rw [post_bnd]
  congr 1
  funext fl ρ1
  cases fl <;> rfl
@[simp] theorem post_asg {i : Nat} {f : M D} : Post Q X (dAsg i f ρ) = Post (fun d ρ1 => i < ρ1.length ∧ Q .nx (ρ1.set i (.dt d))) X (f ρ) := by
  unfold dAsg
  rw [post_bnd]
  congr 1
  funext d ρ1
  unfold dPut
  by_cases h : i < ρ1.length <;> simp [h]
@[simp] theorem post_expr {f : M D} : Post Q X (dExpr f ρ) = Post (fun _ ρ1 => Q .nx ρ1) X (f ρ) := by
  unfold dExpr; simp
@[simp] theorem post_dret {f : M D} : Post Q X (dRet f ρ) = Post (fun d ρ1 => Q (.rt d) ρ1) X (f ρ) := by
  unfold dRet; simp
@[simp] theorem post_nx : Post Q X (dNx ρ) = Q .nx ρ := rfl
@[simp] theorem post_if {c : M Bool} {f g : M Flw} : Post Q X (dIf c f g ρ) = Post (fun b ρ1 => if b = true then Post Q X (f ρ1) else Post Q X (g ρ1)) X (c ρ) := by
  unfold dIf
  rw [post_bnd]
  congr 1
  funext b ρ1
  cases b <;> simp
def mlW (o : Option (List D)) (K : List D → Prop) : Prop := match o with
  | some d => K d
  | none => False
@[simp] theorem mlW_some {d : List D} {K : List D → Prop} : mlW (some d) K = K d := rfl
@[simp] theorem mlW_none {K : List D → Prop} : mlW none K = False := rfl
@[simp] theorem slotL_zero {d : List D} {r : En} : slotL 0 (.dt (.lst .ow d) :: r) = some d := rfl
@[simp] theorem slotL_succ {i : Nat} {s : Sl} {r : En} : slotL (i + 1) (s :: r) = slotL i r := rfl
@[simp] theorem post_mutL {i : Nat} {op : List D → Option (List D)} : Post Q X (dMutL i op ρ) = mlW (slotL i ρ) fun xs => mlW (op xs) fun ys => Q .nx (ρ.set i (.dt (.lst .ow ys))) := by
  unfold dMutL
  cases slotL i ρ with
  | none => rfl
  | some xs => dsimp only [mlW_some]; cases op xs <;> rfl
@[simp] theorem post_isL {i : Nat} {k : M Flw} : Post Q X (dIsL i k ρ) = mlW (slotL i ρ) fun _ => Post Q X (k ρ) := by
  unfold dIsL
  cases slotL i ρ <;> rfl
@[simp] theorem post_app {i : Nat} {f : M D} : Post Q X (dApp i f ρ) = mlW (slotL i ρ) fun _ => Post (fun d ρ1 => mlW (slotL i ρ1) fun xs => xs.length < lim ∧ Q .nx (ρ1.set i (.dt (.lst .ow (xs ++ [d]))))) X (f ρ) := by
  unfold dApp
  simp only [post_isL, post_bnd, post_mutL]
  congr 1
  funext _
  congr 1
  funext d ρ1
  congr 1
  funext xs
  by_cases h : xs.length < lim <;> simp [h]
@[simp] theorem post_set {i : Nat} {fk fe : M D} : Post Q X (dSet i fk fe ρ) = Post (fun d ρ1 => slW (slot i ρ1) fun _ => Post (fun k ρ2 => mlW (slotL i ρ2) fun xs => mlW (setAt k (mapF flFrz d) xs) fun ys => Q .nx (ρ2.set i (.dt (.lst .ow ys)))) X (fk ρ1)) X (fe ρ) := by
  unfold dSet; simp
@[simp] theorem post_for {src : M (List D)} {tg : Tg} {fg : List Nat} {body : M Flw} : Post Q X (dFor src tg fg body ρ) = Post (fun ds ρ1 => Post Q X (forL tg fg body ds ρ1)) X (src ρ) := by
  unfold dFor; simp
@[simp] theorem post_lendS {i : Nat} {tc : List Nat} {f : M Flw} : Post Q X (dLendS i tc f ρ) = slW (slot i ρ) fun d => Post (fun r ρ' => (flwOk r = true ∧ noBoAt tc ρ' = true) ∧ Q r (ρ'.set i (.dt d))) (fun c ks xs ρ' => noBoAt tc ρ' = true ∧ X c ks xs (ρ'.set i (.dt d))) (f (ρ.set i (.dt (mapF flLend d)))) := by
  unfold dLendS
  cases slot i ρ with
  | none => rfl
  | some d =>
    dsimp only [slW_some]
    cases f (ρ.set i (.dt (mapF flLend d))) with
    | bad => rfl
    | ok r ρ' => dsimp only; by_cases h : flwOk r = true ∧ noBoAt tc ρ' = true <;> simp [h]
    | exc c ks xs ρ' => dsimp only; by_cases h : noBoAt tc ρ' = true <;> simp [h]
@[simp] theorem post_lendT {i : Nat} {tc : List Nat} {f : M Bool} {Q : Bool → En → Prop} : Post Q X (dLendT i tc f ρ) = slW (slot i ρ) fun d => Post (fun r ρ' => noBoAt tc ρ' = true ∧ Q r (ρ'.set i (.dt d))) (fun c ks xs ρ' => noBoAt tc ρ' = true ∧ X c ks xs (ρ'.set i (.dt d))) (f (ρ.set i (.dt (mapF flLend d)))) := by
  unfold dLendT
  cases slot i ρ with
  | none => rfl
  | some d =>
    dsimp only [slW_some]
    cases f (ρ.set i (.dt (mapF flLend d))) with
    | bad => rfl
    | ok r ρ' => dsimp only; by_cases h : noBoAt tc ρ' = true <;> simp [h]
    | exc c ks xs ρ' => dsimp only; by_cases h : noBoAt tc ρ' = true <;> simp [h]
@[simp] theorem post_lendE {i : Nat} {tc : List Nat} {f : M D} {Q : D → En → Prop} : Post Q X (dLend i tc f ρ) = slW (slot i ρ) fun d => Post (fun r ρ' => (allF noBo r = true ∧ noBoAt tc ρ' = true) ∧ Q r (ρ'.set i (.dt d))) (fun c ks xs ρ' => noBoAt tc ρ' = true ∧ X c ks xs (ρ'.set i (.dt d))) (f (ρ.set i (.dt (mapF flLend d)))) := by
  unfold dLend
  cases slot i ρ with
  | none => rfl
  | some d =>
    dsimp only [slW_some]
    cases f (ρ.set i (.dt (mapF flLend d))) with
    | bad => rfl
    | ok r ρ' => dsimp only; by_cases h : allF noBo r = true ∧ noBoAt tc ρ' = true <;> simp [h]
    | exc c ks xs ρ' => dsimp only; by_cases h : noBoAt tc ρ' = true <;> simp [h]
@[simp] theorem post_raise {c : PySem.Str} {ks : List PySem.Str} {f : M (List D)} : Post Q X (dRaise c ks f ρ) = Post (fun ds ρ1 => (ds.length = ks.length ∧ allFs noBo ds = true) ∧ X c ks (mapFs flFrz ds) ρ1) X (f ρ) := by
  unfold dRaise
  rw [post_bnd]
  congr 1
  funext ds ρ1
  by_cases h : ds.length = ks.length ∧ allFs noBo ds = true <;> simp [h]
end
end Cs
namespace Cs
open L2
/-- nothing is raised -/
abbrev N0 : PySem.Str → List PySem.Str → List D → En → Prop := fun _ _ _ _ => False
@[simp] theorem outs_nil {n : Nat} {ρ : En} : outs [] n ρ = List.replicate n .un := by
  unfold outs
  simp [List.map_const']
/-! the operations on plain data -/
section
variable {i j : Int} {K : D → Prop}
@[simp] theorem pAdd_i : pAdd (.int i) (.int j) = .sc (.int (i + j)) := rfl
@[simp] theorem pSub_i : pSub (.int i) (.int j) = .sc (.int (i - j)) := rfl
@[simp] theorem pMul_i : pMul (.int i) (.int j) = if (-(2 ^ 64) < i ∧ i < 2 ^ 64) ∨ (-(2 ^ 64) < j ∧ j < 2 ^ 64) then .sc (.int (i * j)) else .bad := rfl
@[simp] theorem pFdiv_i : pFdiv (.int i) (.int j) = if 0 < j ∧ j < 1073741824 then .sc (.int (i / j)) else .bad := rfl
@[simp] theorem pMod_i : pMod (.int i) (.int j) = if 0 < j then .sc (.int (i % j)) else .bad := rfl
@[simp] theorem pPow_i : pPow (.int i) (.int j) = if 0 ≤ j ∧ j ≤ 1000000 ∧ i.natAbs < 2 ^ 64 then .sc (.int (i ^ j.toNat)) else .bad := rfl
@[simp] theorem pLt_i : pLt (.int i) (.int j) = .sc (.bl (decide (i < j))) := rfl
@[simp] theorem pLe_i : pLe (.int i) (.int j) = .sc (.bl (decide (i ≤ j))) := rfl
@[simp] theorem pGt_i : pGt (.int i) (.int j) = .sc (.bl (decide (j < i))) := rfl
@[simp] theorem pGe_i : pGe (.int i) (.int j) = .sc (.bl (decide (j ≤ i))) := rfl
end
/-! equality -/
def eqDs : List D → List D → Bool
  | [], [] => true
  | x :: xs, y :: ys => eqD x y && eqDs xs ys
  | _, _ => false
@[simp] theorem eqD_ii {i j : Int} : eqD (.int i) (.int j) = (i == j) := by unfold eqD toPy; rw [PySem.PyData.eqv]
@[simp] theorem eqD_bb {i j : Bool} : eqD (.bl i) (.bl j) = (i == j) := by unfold eqD toPy; rw [PySem.PyData.eqv]
@[simp] theorem eqD_ss {i j : PySem.Str} : eqD (.str i) (.str j) = (i == j) := by unfold eqD toPy; rw [PySem.PyData.eqv]
theorem eqvAll_is : ∀ {xs ys : List D}, PySem.PyData.eqvAll (toPys xs) (toPys ys) = eqDs xs ys
  | [], [] => by rw [toPys, PySem.PyData.eqvAll, eqDs]
  | x :: xs, y :: ys => by rw [toPys, toPys, PySem.PyData.eqvAll, eqDs, eqvAll_is]; rfl
  | [], y :: ys => by rw [toPys, toPys, PySem.PyData.eqvAll, eqDs] <;> simp
  | x :: xs, [] => by rw [toPys, toPys, PySem.PyData.eqvAll, eqDs] <;> simp
@[simp] theorem eqD_ll {o o' : Fl} {xs ys : List D} : eqD (.lst o xs) (.lst o' ys) = eqDs xs ys := by
  unfold eqD toPy
  rw [PySem.PyData.eqv, eqvAll_is]
@[simp] theorem eqD_tt {xs ys : List D} : eqD (.tup xs) (.tup ys) = eqDs xs ys := by
  unfold eqD toPy
  rw [PySem.PyData.eqv, eqvAll_is]
@[simp] theorem pEq_ii {i j : Int} : pEq (.int i) (.int j) = .sc (.bl (i == j)) := by
  unfold pEq
  rw [if_pos ⟨Nat.zero_le _, Nat.zero_le _⟩, eqD_ii]
@[simp] theorem pNe_ii {i j : Int} : pNe (.int i) (.int j) = .sc (.bl (!(i == j))) := by
  unfold pNe
  rw [if_pos ⟨Nat.zero_le _, Nat.zero_le _⟩, eqD_ii]
@[simp] theorem dep_int {i : Int} : dep (.int i) = 0 := rfl
@[simp] theorem dep_lst {o : Fl} {xs : List D} : dep (.lst o xs) = deps xs + 1 := by rw [dep]
theorem deps_ints : ∀ {xs : List Int}, deps (xs.map D.int) = 0
  | [] => rfl
  | x :: xs => by rw [List.map_cons, deps, deps_ints]; rfl
/-! subscripts -/
@[simp] theorem atI_0 {α : Type} {xs : List α} : L2.atI xs 0 = xs[0]? := by
  unfold L2.atI L2.ixN
  cases xs with
  | nil => rfl
  | cons x xs => simp
theorem atI_n {α : Type} {xs : List α} {n : Nat} : L2.atI xs (n : Int) = xs[n]? := by
  unfold L2.atI L2.ixN
  by_cases h : n < xs.length
  · simp [h]
  · simp [h]
@[simp] theorem atI_1 {α : Type} {xs : List α} : L2.atI xs 1 = xs[1]? := atI_n (n := 1)
@[simp] theorem atI_2 {α : Type} {xs : List α} : L2.atI xs 2 = xs[2]? := atI_n (n := 2)
@[simp] theorem atI_3 {α : Type} {xs : List α} : L2.atI xs 3 = xs[3]? := atI_n (n := 3)
def ixW (o : Option D) : PR := match o with
  | some d => if allF noOw d = true then .sc d else .bad
  | none => .bad
@[simp] theorem ixW_some {d : D} : ixW (some d) = if allF noOw d = true then .sc d else .bad := rfl
@[simp] theorem pIx_l {o : Fl} {xs : List D} {i : Int} : pIx (.lst o xs) (.int i) = ixW (L2.atI xs i) := rfl
@[simp] theorem pIx_t {xs : List D} {i : Int} : pIx (.tup xs) (.int i) = ixW (L2.atI xs i) := rfl
@[simp] theorem allF_int {p : Fl → Bool} {i : Int} : allF p (.int i) = true := rfl
@[simp] theorem allF_bl {p : Fl → Bool} {i : Bool} : allF p (.bl i) = true := rfl
@[simp] theorem allF_str {p : Fl → Bool} {i : PySem.Str} : allF p (.str i) = true := rfl
@[simp] theorem allF_non {p : Fl → Bool} : allF p .non = true := rfl
@[simp] theorem allF_l {p : Fl → Bool} {o : Fl} {xs : List D} : allF p (.lst o xs) = (p o && allFs p xs) := by rw [allF]
@[simp] theorem allF_t {p : Fl → Bool} {xs : List D} : allF p (.tup xs) = allFs p xs := by rw [allF]
@[simp] theorem allFs_nil {p : Fl → Bool} : allFs p [] = true := rfl
@[simp] theorem allFs_cns {p : Fl → Bool} {x : D} {xs : List D} : allFs p (x :: xs) = (allF p x && allFs p xs) := by rw [allFs]
@[simp] theorem allFs_ints {p : Fl → Bool} : ∀ {cs : List Int}, allFs p (cs.map D.int) = true
  | [] => rfl
  | c :: cs => by rw [List.map_cons, allFs, allFs_ints]; rfl
@[simp] theorem mapF_int {g : Fl → Fl} {i : Int} : mapF g (.int i) = .int i := by rw [mapF]
@[simp] theorem mapF_l {g : Fl → Fl} {o : Fl} {xs : List D} : mapF g (.lst o xs) = .lst (g o) (mapFs g xs) := by rw [mapF]
@[simp] theorem mapFs_nil {g : Fl → Fl} : mapFs g [] = [] := by rw [mapFs]
@[simp] theorem mapFs_cns {g : Fl → Fl} {x : D} {xs : List D} : mapFs g (x :: xs) = mapF g x :: mapFs g xs := by rw [mapFs]
@[simp] theorem mapFs_ints {g : Fl → Fl} : ∀ {cs : List Int}, mapFs g (cs.map D.int) = cs.map D.int
  | [] => by rw [List.map_nil, mapFs]
  | c :: cs => by rw [List.map_cons, mapFs, mapFs_ints, mapF_int]
@[simp] theorem pLen_l {o : Fl} {xs : List D} : pLen (.lst o xs) = .sc (.int xs.length) := rfl
@[simp] theorem pInt_i {i : Int} : pInt (.int i) = .sc (.int i) := rfl
@[simp] theorem pInt_b {i : Bool} : pInt (.bl i) = .sc (.int (if i then 1 else 0)) := rfl
@[simp] theorem pNeg_i {i : Int} : pNeg (.int i) = .sc (.int (-i)) := rfl
@[simp] theorem pList_l {o : Fl} {xs : List D} : pList (.lst o xs) = if allFs noOw xs = true then .nl xs else .bad := rfl
@[simp] theorem noOw_fr : noOw .fr = true := rfl
@[simp] theorem noOw_bo : noOw .bo = true := rfl
@[simp] theorem noOw_ro : noOw .ro = true := rfl
@[simp] theorem noOw_ow : noOw .ow = false := rfl
@[simp] theorem noBo_fr : noBo .fr = true := rfl
@[simp] theorem noBo_bo : noBo .bo = false := rfl
@[simp] theorem noBo_ro : noBo .ro = true := rfl
@[simp] theorem noBo_ow : noBo .ow = true := rfl
@[simp] theorem flFrz_fr : flFrz .fr = .fr := rfl
@[simp] theorem flFrz_ow : flFrz .ow = .fr := rfl
@[simp] theorem flFrz_bo : flFrz .bo = .bo := rfl
@[simp] theorem flFrz_ro : flFrz .ro = .ro := rfl
@[simp] theorem flLend_fr : flLend .fr = .fr := rfl
@[simp] theorem flLend_ow : flLend .ow = .bo := rfl
@[simp] theorem flLend_bo : flLend .bo = .bo := rfl
@[simp] theorem flLend_ro : flLend .ro = .ro := rfl
theorem setAt_n {n : Nat} {d : D} {xs : List D} : setAt (.int (n : Int)) d xs = if n < xs.length ∧ allFs noOw xs = true ∧ allF noOw d = true then some (xs.set n d) else none := by
  unfold setAt
  dsimp only
  unfold L2.ixN
  by_cases h : n < xs.length
  · have h1 : (0 : Int) ≤ n := by omega
    have h2 : (n : Int) < xs.length := by omega
    rw [if_pos h1, if_pos h2]
    dsimp only [Int.toNat_natCast]
    simp only [h, true_and, Int.toNat_natCast]
  · have h1 : (0 : Int) ≤ n := by omega
    have h2 : ¬ (n : Int) < xs.length := by omega
    rw [if_pos h1, if_neg h2, if_neg fun z => h z.1]
@[simp] theorem setAt_0 {d : D} {xs : List D} : setAt (.int 0) d xs = if 0 < xs.length ∧ allFs noOw xs = true ∧ allF noOw d = true then some (xs.set 0 d) else none := setAt_n (n := 0)
@[simp] theorem setAt_1 {d : D} {xs : List D} : setAt (.int 1) d xs = if 1 < xs.length ∧ allFs noOw xs = true ∧ allF noOw d = true then some (xs.set 1 d) else none := setAt_n (n := 1)
@[simp] theorem setAt_2 {d : D} {xs : List D} : setAt (.int 2) d xs = if 2 < xs.length ∧ allFs noOw xs = true ∧ allF noOw d = true then some (xs.set 2 d) else none := setAt_n (n := 2)
@[simp] theorem setAt_3 {d : D} {xs : List D} : setAt (.int 3) d xs = if 3 < xs.length ∧ allFs noOw xs = true ∧ allF noOw d = true then some (xs.set 3 d) else none := setAt_n (n := 3)
@[simp] theorem mlW_if {c : Prop} [Decidable c] {p : List D} {K : List D → Prop} : mlW (if c then some p else none) K = (c ∧ K p) := by
  by_cases h : c <;> simp [h]
end Cs
namespace Cs
open L2
section
variable {α : Type} {X : PySem.Str → List PySem.Str → List D → En → Prop} {ρ : En}
theorem Post.mp {Q Q' : α → En → Prop} {X X' : PySem.Str → List PySem.Str → List D → En → Prop} {o : Out α} (h : Post Q X o) (h1 : ∀ a ρ, Q a ρ → Q' a ρ) (h2 : ∀ c ks xs ρ, X c ks xs ρ → X' c ks xs ρ) : Post Q' X' o := h.imp h1 h2
/-! calls -/
def argW (o : Option (List D)) (K : List D → Prop) : Prop := match o with
  | some ds => K ds
  | none => False
def resW (r : Res) (K : D → En → Prop) (E : PySem.Str → List PySem.Str → List D → En → Prop) : Prop := match r with
  | .ok d os => K d os
  | .exc c ks xs os => E c ks xs os
  | .bad => False
@[simp] theorem argW_some {d : List D} {K : List D → Prop} : argW (some d) K = K d := rfl
@[simp] theorem resW_ok {d : D} {os : En} {K : D → En → Prop} {E : PySem.Str → List PySem.Str → List D → En → Prop} : resW (.ok d os) K E = K d os := rfl
@[simp] theorem resW_exc {c : PySem.Str} {ks : List PySem.Str} {xs : List D} {os : En} {K : D → En → Prop} {E : PySem.Str → List PySem.Str → List D → En → Prop} : resW (.exc c ks xs os) K E = E c ks xs os := rfl
@[simp] theorem post_call {m : List D → Res} {ars : List Arg} {Q : D → En → Prop} : Post Q X (dCall m ars ρ) = Post (fun ods ρ1 => argW (argD ρ1 ars ods) fun ds => resW (m ds) (fun d os => Q d (wb ars os ρ1)) (fun c ks xs os => X c ks xs (wb ars os ρ1))) X (dArs ars ρ) := by
  unfold dCall
  rw [post_bnd]
  congr 1
  funext ods ρ1
  unfold callD
  cases argD ρ1 ars ods with
  | none => rfl
  | some ds =>
    dsimp only [argW_some]
    cases m ds <;> rfl
section
variable {Q : List (Option D) → En → Prop} {r : List Arg} {tc : List Nat}
@[simp] theorem post_ars0 : Post Q X (dArs [] ρ) = Q [] ρ := rfl
@[simp] theorem post_arsv {f : M D} : Post Q X (dArs ((.v f, tc) :: r) ρ) = Post (fun d ρ1 => Post (fun ds ρ2 => Q (some d :: ds) ρ2) X (dArs r ρ1)) X (f ρ) := by
  rw [dArs]; simp
@[simp] theorem post_arsl {i : Nat} : Post Q X (dArs ((.l i, tc) :: r) ρ) = slW (slot i ρ) fun _ => Post (fun ds ρ2 => Q (none :: ds) ρ2) X (dArs r ρ) := by
  rw [dArs]; simp
@[simp] theorem post_arsio {i : Nat} : Post Q X (dArs ((.io i, tc) :: r) ρ) = slW (slot i ρ) fun _ => Post (fun ds ρ2 => Q (none :: ds) ρ2) X (dArs r ρ) := by
  rw [dArs]; simp
@[simp] theorem argD_0 : argD ρ [] [] = some [] := by rw [argD]
@[simp] theorem argD_v {f : M D} {d : D} {ds : List (Option D)} : argD ρ ((.v f, tc) :: r) (some d :: ds) = (argD ρ r ds).map (d :: ·) := by rw [argD]
@[simp] theorem argD_l {i : Nat} {ds : List (Option D)} : argD ρ ((.l i, tc) :: r) (none :: ds) = (slot i ρ).bind fun d => (argD ρ r ds).map (mapF flLend d :: ·) := by rw [argD]
@[simp] theorem argD_io {i : Nat} {ds : List (Option D)} : argD ρ ((.io i, tc) :: r) (none :: ds) = (slot i ρ).bind fun d => (argD ρ r ds).map (d :: ·) := by rw [argD]
@[simp] theorem wb_0 {os : En} : wb [] os ρ = ρ := by rw [wb]
@[simp] theorem wb_v {f : M D} {os : En} : wb ((.v f, tc) :: r) os ρ = wb r os.tail ρ := by rw [wb]
@[simp] theorem wb_l {i : Nat} {os : En} : wb ((.l i, tc) :: r) os ρ = wb r os.tail ρ := by rw [wb]
@[simp] theorem wb_io {i : Nat} {os : En} : wb ((.io i, tc) :: r) os ρ = (wb r os.tail ρ).set i (hd1 os) := by rw [wb]
@[simp] theorem hd1_c {s : Sl} {os : En} : hd1 (s :: os) = s := rfl
end
/-! loops -/
def forK (I : En → Prop) (Q : Flw → En → Prop) (fg : List Nat) : Flw → En → Prop
  | .nx, ρ => I (fgt fg ρ)
  | .ct, ρ => I (fgt fg ρ)
  | .bk, ρ => Q .nx (fgt fg ρ)
  | .rt r, ρ => Q (.rt r) ρ
@[simp] theorem forK_nx {I : En → Prop} {Q : Flw → En → Prop} {fg : List Nat} : forK I Q fg .nx ρ = I (fgt fg ρ) := rfl
@[simp] theorem forK_ct {I : En → Prop} {Q : Flw → En → Prop} {fg : List Nat} : forK I Q fg .ct ρ = I (fgt fg ρ) := rfl
@[simp] theorem forK_bk {I : En → Prop} {Q : Flw → En → Prop} {fg : List Nat} : forK I Q fg .bk ρ = Q .nx (fgt fg ρ) := rfl
@[simp] theorem forK_rt {I : En → Prop} {Q : Flw → En → Prop} {fg : List Nat} {d : D} : forK I Q fg (.rt d) ρ = Q (.rt d) ρ := rfl
@[simp] theorem fgt_nil : fgt [] ρ = ρ := rfl
@[simp] theorem fgt_cns {i : Nat} {is : List Nat} : fgt (i :: is) ρ = fgt is (ρ.set i .un) := rfl
def tgW (o : Out Flw) (K : En → Prop) : Prop := match o with
  | .ok .nx ρ => K ρ
  | _ => False
@[simp] theorem tgW_one {j : Nat} {d : D} {K : En → Prop} : tgW (dTg (.one j) d ρ) K = (j < ρ.length ∧ K (ρ.set j (.dt d))) := by
  show tgW (dPuts [j] [d] ρ) K = _
  unfold dPuts
  by_cases h : j < ρ.length
  · rw [if_pos h]
    simp only [h, true_and]
    rfl
  · rw [if_neg h]
    simp only [h, false_and]
    rfl
@[simp] theorem tgW_puts0 {K : En → Prop} : tgW (dPuts [] [] ρ) K = K ρ := rfl
@[simp] theorem tgW_puts {j : Nat} {js : List Nat} {d : D} {ds : List D} {K : En → Prop} : tgW (dPuts (j :: js) (d :: ds) ρ) K = (j < ρ.length ∧ tgW (dPuts js ds (ρ.set j (.dt d))) K) := by
  rw [dPuts]
  dsimp only
  by_cases h : j < ρ.length
  · rw [if_pos h]
    simp only [h, true_and]
  · rw [if_neg h]
    simp only [h, false_and]
    rfl
@[simp] theorem tgW_tup {js : List Nat} {ds : List D} {K : En → Prop} : tgW (dTg (.tup js) (.tup ds) ρ) K = tgW (dPuts js ds ρ) K := rfl
theorem for_inv {Q : Flw → En → Prop} {tg : Tg} {fg : List Nat} {body : M Flw} : ∀ {ds : List D} {ρ : En} (I : Nat → En → Prop), I 0 ρ → (∀ k d ρ, ds[k]? = some d → I k ρ → tgW (dTg tg d ρ) fun ρ1 => Post (forK (I (k + 1)) Q fg) X (body ρ1)) → (∀ ρ, I ds.length ρ → Q .nx ρ) → Post Q X (forL tg fg body ds ρ)
  | [], ρ, I, h0, _, hd => by
    unfold forL
    exact hd ρ h0
  | d :: ds, ρ, I, h0, hs, hd => by
    have z := hs 0 d ρ rfl h0
    unfold forL
    cases et : dTg tg d ρ with
    | bad => rw [et] at z; exact z.elim
    | exc c ks xs ρ1 => rw [et] at z; exact z.elim
    | ok fl ρ1 =>
      rw [et] at z
      cases fl with
      | bk => exact z.elim
      | ct => exact z.elim
      | rt r => exact z.elim
      | nx =>
        have z : Post (forK (I 1) Q fg) X (body ρ1) := z
        dsimp only
        cases eb : body ρ1 with
        | bad => rw [eb] at z; exact z.elim
        | exc c ks xs ρ2 => rw [eb] at z; exact z
        | ok fl ρ2 =>
          rw [eb] at z
          have next : I 1 (fgt fg ρ2) → Post Q X (forL tg fg body ds (fgt fg ρ2)) := fun z => for_inv (fun k => I (k + 1)) z (fun k d ρ e h => hs (k + 1) d ρ e h) fun ρ h => hd ρ h
          cases fl with
          | nx => exact next z
          | ct => exact next z
          | bk => exact z
          | rt r => exact z
theorem post_lc {src : M (List D)} {tg : Tg} {own : List Nat} {cond : M Bool} {elt : M D} {Q : D → En → Prop} : Post Q X (dLc src tg own cond elt ρ) = Post (fun ds ρ1 => noOwAt own ρ1 = true ∧ Post (fun xs ρ2 => Q (.lst .ow xs) (rst own ρ1 ρ2)) N0 (lcL tg own cond elt [] ds (fgt own ρ1))) X (src ρ) := by
  unfold dLc
  rw [post_bnd]
  congr 1
  funext ds ρ1
  by_cases h : noOwAt own ρ1 = true
  · simp only [h, if_true, true_and]
    cases lcL tg own cond elt [] ds (fgt own ρ1) <;> rfl
  · rw [if_neg h]
    simp only [h]
    simp
theorem lc_inv {tg : Tg} {own : List Nat} {cond : M Bool} {elt : M D} : ∀ {ds acc : List D} {ρ : En} (I : Nat → List D → En → Prop), I 0 acc ρ → (∀ k acc d ρ, ds[k]? = some d → I k acc ρ → tgW (dTg tg d ρ) fun ρ1 => Post (fun b ρ2 => if b = true then Post (fun x ρ3 => acc.length < lim ∧ I (k + 1) (acc ++ [x]) (fgt own ρ3)) N0 (elt ρ2) else I (k + 1) acc (fgt own ρ2)) N0 (cond ρ1)) → Post (fun acc ρ => I ds.length acc ρ) N0 (lcL tg own cond elt acc ds ρ)
  | [], acc, ρ, I, h0, _ => by
    unfold lcL
    exact h0
  | d :: ds, acc, ρ, I, h0, hs => by
    have z := hs 0 acc d ρ rfl h0
    unfold lcL
    cases et : dTg tg d ρ with
    | bad => rw [et] at z; exact z.elim
    | exc c ks xs ρ1 => rw [et] at z; exact z.elim
    | ok fl ρ1 =>
      rw [et] at z
      cases fl with
      | bk => exact z.elim
      | ct => exact z.elim
      | rt r => exact z.elim
      | nx =>
        have z : Post (fun b ρ2 => if b = true then Post (fun x ρ3 => acc.length < lim ∧ I 1 (acc ++ [x]) (fgt own ρ3)) N0 (elt ρ2) else I 1 acc (fgt own ρ2)) N0 (cond ρ1) := z
        dsimp only
        cases eb : cond ρ1 with
        | bad => rw [eb] at z; exact z.elim
        | exc c ks xs ρ2 => rw [eb] at z; exact z.elim
        | ok b ρ2 =>
          rw [eb] at z
          cases b with
          | false => exact lc_inv (fun k => I (k + 1)) z fun k acc d ρ e h => hs (k + 1) acc d ρ e h
          | true =>
            have z : Post (fun x ρ3 => acc.length < lim ∧ I 1 (acc ++ [x]) (fgt own ρ3)) N0 (elt ρ2) := z
            dsimp only
            cases ee : elt ρ2 with
            | bad => rw [ee] at z; exact z.elim
            | exc c ks xs ρ3 => rw [ee] at z; exact z.elim
            | ok x ρ3 =>
              rw [ee] at z
              dsimp only
              rw [if_pos z.1]
              exact lc_inv (fun k => I (k + 1)) z.2 fun k acc d ρ e h => hs (k + 1) acc d ρ e h
/-! what is walked -/
@[simp] theorem post_rg1 {f : M D} {Q : List D → En → Prop} : Post Q X (dRg1 f ρ) = Post (fun d ρ1 => ∃ j, d = .int j ∧ (-1000000 ≤ j ∧ j ≤ 1000000) ∧ Q (rng 0 j.toNat) ρ1) X (f ρ) := by
  unfold dRg1
  rw [post_bnd]
  congr 1
  funext d ρ1
  cases d with
  | int j =>
    dsimp only
    apply propext
    constructor
    · intro h
      split at h
      · rename_i hh; exact ⟨j, rfl, hh, h⟩
      · exact h.elim
    · rintro ⟨j', e, hh, h⟩
      cases e
      rw [if_pos hh]
      exact h
  | _ =>
    apply propext
    constructor
    · intro h; exact h.elim
    · rintro ⟨_, e, _⟩; cases e
@[simp] theorem post_it {f : M D} {Q : List D → En → Prop} : Post Q X (dIt f ρ) = Post (fun d ρ1 => mlW (itemsOf (mapF flFrz d)) fun ds => Q ds ρ1) X (f ρ) := by
  unfold dIt
  rw [post_bnd, post_fz]
  congr 1
  funext d ρ1
  cases itemsOf (mapF flFrz d) <;> rfl
@[simp] theorem itemsOf_l {o : Fl} {xs : List D} : itemsOf (.lst o xs) = some xs := rfl
@[simp] theorem itemsOf_t {xs : List D} : itemsOf (.tup xs) = some xs := rfl
theorem rng_get {lo : Int} {n k : Nat} {d : D} (h : (rng lo n)[k]? = some d) : k < n ∧ d = .int (lo + (k : Int)) := by
  unfold rng at h
  rw [List.getElem?_map] at h
  by_cases hk : k < n
  · rw [List.getElem?_range hk] at h
    exact ⟨hk, (Option.some.inj h).symm⟩
  · rw [List.getElem?_eq_none (by rw [List.length_range]; omega)] at h
    cases h
@[simp] theorem rng_len {lo : Int} {n : Nat} : (rng lo n).length = n := by simp [rng]
@[simp] theorem post_yes {Q : Bool → En → Prop} : Post Q X (dYes ρ) = Q true ρ := rfl
@[simp] theorem post_lst {f : M (List D)} {Q : D → En → Prop} : Post Q X (dLst f ρ) = Post (fun ds ρ1 => ds.length ≤ lim ∧ Q (.lst .ow ds) ρ1) X (f ρ) := by
  unfold dLst
  rw [post_bnd]
  congr 1
  funext ds ρ1
  by_cases h : ds.length ≤ lim <;> simp [h]
end
end Cs
namespace Cs
open L2
section
variable {α : Type} {X : PySem.Str → List PySem.Str → List D → En → Prop} {ρ : En}
/-! a def's meaning, asked with a wish behind it -/
def flK (pr : List Nat) (n : Nat) (K : D → En → Prop) : Flw → En → Prop
  | .nx, ρ => K .non (outs pr n ρ)
  | .rt d, ρ => allF noBo d = true ∧ K d (outs pr n ρ)
  | _, _ => False
@[simp] theorem flK_nx {pr : List Nat} {n : Nat} {K : D → En → Prop} : flK pr n K .nx ρ = K .non (outs pr n ρ) := rfl
@[simp] theorem flK_rt {pr : List Nat} {n : Nat} {K : D → En → Prop} {d : D} : flK pr n K (.rt d) ρ = (allF noBo d = true ∧ K d (outs pr n ρ)) := rfl
theorem resW_run {f : M Flw} {pr : List Nat} {N n : Nat} {ds : List D} {K : D → En → Prop} {E : PySem.Str → List PySem.Str → List D → En → Prop} (hl : ds.length = n)
    (h : Post (flK pr n K) (fun c ks xs ρ => E c ks xs (outs pr n ρ)) (f (frm N ds))) : resW (Cs.run f pr N n ds) K E := by
  unfold Cs.run
  rw [if_pos hl]
  cases e : f (frm N ds) with
  | bad => rw [e] at h; exact h.elim
  | exc c ks xs ρ => rw [e] at h; exact h
  | ok fl ρ =>
    rw [e] at h
    cases fl with
    | nx => exact h
    | bk => exact h.elim
    | ct => exact h.elim
    | rt d =>
      have h : allF noBo d = true ∧ K d (outs pr n ρ) := h
      dsimp only
      rw [if_pos h.1]
      exact h.2
theorem ok_of_resW {r : Res} {d0 : D} (h : resW r (fun d _ => d = d0) N0) : ∃ os, r = .ok d0 os := by
  cases r with
  | ok d os => exact ⟨os, by rw [show d = d0 from h]⟩
  | exc c ks xs os => exact h.elim
  | bad => exact h.elim
theorem post_ite {c : Prop} [Decidable c] {f : M α} {Q : α → En → Prop} : Post Q X ((if c then f else bad) ρ) = (c ∧ Post Q X (f ρ)) := by
  by_cases h : c
  · rw [if_pos h]; simp only [h, true_and]
  · rw [if_neg h]; simp only [h, false_and]; rfl
/-! slices -/
def intW (d : D) (K : Int → Prop) : Prop := match d with
  | .int i => K i
  | _ => False
@[simp] theorem intW_i {i : Int} {K : Int → Prop} : intW (.int i) K = K i := rfl
def cutW (d : D) (lo hi : Option Int) (K : D → Prop) : Prop := match d with
  | .lst _ xs => allF noOw d = true ∧ K (.lst .ow (cutD xs lo hi))
  | _ => False
@[simp] theorem cutW_l {o : Fl} {xs : List D} {lo hi : Option Int} {K : D → Prop} : cutW (.lst o xs) lo hi K = (allF noOw (.lst o xs) = true ∧ K (.lst .ow (cutD xs lo hi))) := rfl
@[simp] theorem post_part {f : M D} {Q : Option Int → En → Prop} : Post Q X (dPart f ρ) = Post (fun d ρ1 => intW d fun i => Q (some i) ρ1) X (f ρ) := by
  unfold dPart
  rw [post_bnd]
  congr 1
  funext d ρ1
  cases d <;> rfl
@[simp] theorem post_sl {f : M D} {g h : M (Option Int)} {Q : D → En → Prop} : Post Q X (dSl f g h ρ) = Post (fun d ρ1 => Post (fun lo ρ2 => Post (fun hi ρ3 => cutW d lo hi fun e => Q e ρ3) X (h ρ2)) X (g ρ1)) X (f ρ) := by
  unfold dSl
  simp only [post_bnd]
  congr 1
  funext d ρ1
  congr 1
  funext lo ρ2
  congr 1
  funext hi ρ3
  cases d with
  | lst o xs =>
    dsimp only [cutW_l]
    rw [post_ite]
    rfl
  | _ => rfl
@[simp] theorem post_rg3 {f g h : M D} {Q : List D → En → Prop} : Post Q X (dRg3 f g h ρ) = Post (fun d ρ1 => Post (fun e ρ2 => Post (fun k ρ3 => intW d fun i => intW e fun j => intW k fun c => ((-1000000 ≤ i ∧ i ≤ 1000000) ∧ (-1000000 ≤ j ∧ j ≤ 1000000) ∧ ((c ≠ 0 ∧ -1000000 ≤ c ∧ c ≤ 1000000) ∨ (2 ^ 64 ≤ c ∧ c ≤ 2 ^ 200))) ∧ Q (rngC i c (szC i j c)) ρ3) X (h ρ2)) X (g ρ1)) X (f ρ) := by
  unfold dRg3
  simp only [post_bnd]
  congr 1
  funext d ρ1
  congr 1
  funext e ρ2
  congr 1
  funext k ρ3
  cases d with
  | int i =>
    cases e with
    | int j =>
      cases k with
      | int c =>
        dsimp only [intW_i]
        rw [post_ite]
        rfl
      | _ => rfl
    | _ => rfl
  | _ =>
    cases e <;> cases k <;> rfl
@[simp] theorem rngC_len {lo c : Int} {n : Nat} : (rngC lo c n).length = n := by simp [rngC]
/-! a list within a list -/
def inW (o : Option (Nat × List D)) (K : Nat → List D → Prop) : Prop := match o with
  | some (n, ys) => K n ys
  | none => False
@[simp] theorem inW_some {n : Nat} {ys : List D} {K : Nat → List D → Prop} : inW (some (n, ys)) K = K n ys := rfl
variable {Q : Flw → En → Prop}
@[simp] theorem post_in2 {i : Nat} {j : D} {k : M Flw} : Post Q X (dIn2 i j k ρ) = inW ((slotL i ρ).bind (inner j)) fun _ _ => Post Q X (k ρ) := by
  unfold dIn2
  cases e : (slotL i ρ).bind (inner j) with
  | none => rfl
  | some x => rfl
@[simp] theorem post_app2 {i : Nat} {fj fe : M D} : Post Q X (dApp2 i fj fe ρ) = slW (slot i ρ) fun _ => Post (fun j ρ1 => inW ((slotL i ρ1).bind (inner j)) fun _ _ => Post (fun d ρ2 => mlW (slotL i ρ2) fun xs => mlW (appAt2 j (mapF flFrz d) xs) fun ys => Q .nx (ρ2.set i (.dt (.lst .ow ys)))) X (fe ρ1)) X (fj ρ) := by
  unfold dApp2
  simp
@[simp] theorem post_set2 {i : Nat} {fj fk fe : M D} : Post Q X (dSet2 i fj fk fe ρ) = Post (fun d ρ1 => slW (slot i ρ1) fun _ => Post (fun j ρ2 => inW ((slotL i ρ2).bind (inner j)) fun _ _ => Post (fun k ρ3 => mlW (slotL i ρ3) fun xs => mlW (setAt2 j k (mapF flFrz d) xs) fun ys => Q .nx (ρ3.set i (.dt (.lst .ow ys)))) X (fk ρ2)) X (fj ρ1)) X (fe ρ) := by
  unfold dSet2
  simp
theorem inner_n {n : Nat} {xs ys : List D} (h : xs[n]? = some (.lst .ow ys)) (h2 : allFs noOw ys = true) : inner (.int (n : Int)) xs = some (n, ys) := by
  have hl : n < xs.length := by
    rcases Nat.lt_or_ge n xs.length with q | q
    · exact q
    · rw [List.getElem?_eq_none q] at h; cases h
  unfold inner
  dsimp only
  have e : L2.ixN xs.length (n : Int) = some n := by
    unfold L2.ixN
    have h1 : (0 : Int) ≤ n := by omega
    have h2 : (n : Int) < xs.length := by omega
    rw [if_pos h1, if_pos h2]
    simp
  rw [e]
  dsimp only
  rw [h]
  dsimp only
  rw [if_pos h2]
/-! what is caught -/
end
end Cs
namespace Cs
open PySem L2 Evl PyProof.Rows

/-! ## enumerate(t), t a tuple -/
abbrev tupIt (t : Addr) : Obj := { cls := .type "tuple_iterator", data := .fields #[.ref t, .int 0 0] }
abbrev enumOb (h : Heap) : Obj := { cls := .type "enumerate", data := .fields #[.none, .bool false, .ref h.objs.size, rawInt 0, .none, .none] }
theorem enum_newT (t : Addr) (its : Array Value) (n : Nat) (dc : Option Addr) (sl : Array (Option Value)) :
    Meets (Builtin.«enumerate.__new__» ⟨[.type "enumerate", .ref t], []⟩) fun _ R s =>
      s.heap.get? t = some { cls := .type "tuple", dict := dc, data := .seq its n, slots := sl } ∧
      R (.ok (.ret (.ref (s.heap.push (tupIt t)).objs.size))) { s with heap := (s.heap.push (tupIt t)).push (enumOb s.heap) } := by
  refine .of_wp ?_
  rintro prog w A R ⟨hp, g, d, tk, os⟩ ⟨ht, h⟩
  have hsub := sub_enumerate
  have hT : Heap.IsTuple (Shared.heap ⟨hp, g, d, tk, os⟩) t its := ⟨_, ht, rfl, n, rfl⟩
  wp_walk using AutoSeq1.wpAny_loadPart' ht
  refine wpAny_stack_any fun st => wpAny_pure ?_
  split
  · rename_i c _ _ _ _ _
    cases (c == Value.type "enumerate") <;>
      (wp_walk using AutoSeq1.wpAny_loadPart' ht, wpAny_pyIter_tuple hT
       exact ⟨_, rfl, h⟩)
  · wp_walk using AutoSeq1.wpAny_loadPart' ht, wpAny_pyIter_tuple hT
    exact ⟨_, rfl, h⟩
theorem call_enumT {prog : Program} {w : World} {A : Around} {E : Value → Shared → Prop} {s : Shared} {t : Addr} {its : Array Value} {Q : Value → Shared → Prop} (hT : s.heap.IsTuple t its)
    (h : ∀ h' : Heap, IsEnum h' (s.heap.objs.size + 1) s.heap.objs.size 0 .none → h'.IsTupleIter s.heap.objs.size t 0 → (∀ b o, s.heap.get? b = some o → h'.get? b = some o) → Q (.ref (s.heap.objs.size + 1)) { s with heap := h' }) :
    wpAny (model prog w) A (call (.type "enumerate") [.ref t]) Q E s := by
  obtain ⟨⟨c, dc, dt, sl⟩, ht, hc, n, hd⟩ := hT
  have hc : c = .type "tuple" := hc
  have hd : dt = .seq its n := hd
  subst hc hd
  have hz : (s.heap.push (tupIt t)).objs.size = s.heap.objs.size + 1 := Heap.size_push ..
  have ge : ((s.heap.push (tupIt t)).push (enumOb s.heap)).get? (s.heap.objs.size + 1) = some (enumOb s.heap) := by
    rw [← hz]
    exact Heap.get?_push_size _ rfl
  have gi : ((s.heap.push (tupIt t)).push (enumOb s.heap)).get? s.heap.objs.size = some (tupIt t) := Heap.get?_push_of_some _ (Heap.get?_push_size _ rfl)
  refine callType_new F.called_enumerate (by decide) (F.typeCall_enumerate_1 _) (F.newCall_enumerate_1 _) (fun ob => F.args_object_init_2 ob _) F.entry_enumerate_new (enum_newT t its n dc sl) ⟨ht, ?_⟩
  show _ ∧ _
  rw [hz]
  exact ⟨⟨_, ge, rfl⟩, h _ ge ⟨_, gi, rfl, rfl⟩ fun b o e => Heap.get?_push_of_some _ (Heap.get?_push_of_some _ e)⟩
/-- the tuple at a, each item in a new pair whose object is known -/
def ItE (K : PySem.W.Frag) (a : Addr) : It where
  go := fun i H => ∃ (xs : List V) (x : V), SqT K H a xs ∧ xs[i]? = some x
  yld := fun i H v H' => ∃ (q : Addr) (o : Obj) (x : V), v = .ref q ∧ o.dict = none ∧ H q = none ∧ H' = upd H q (.frz o (.tup [.int (i : Nat), x])) ∧ ∀ xs, SqT K H a xs → xs[i]? = some x
  stop := fun i H => ∃ xs : List V, SqT K H a xs ∧ xs.length = i
theorem turn_enumT {P : Program} {w : World} {K : PySem.W.Frag} {elts : List Expr} {kk : Nat} {tpos : Pos} (a e it : Addr) :
    L2.Turn P w K (.Tuple elts kk tpos) (ItE K a) [e, it] e (fun i h => (∃ old, IsEnum h e it ((i : Nat) : Int) old) ∧ h.IsTupleIter it a i ∧ e ≠ it ∧ a ≠ it ∧ a ≠ e) where
  mem := by simp
  obj := by
    rintro i h ⟨⟨old, he⟩, ⟨o, ho, hc, hd⟩, _⟩ b hb
    rcases List.mem_cons.mp hb with z | z
    · rw [z]; exact ⟨_, he, fun v q => nomatch q⟩
    · rw [List.mem_singleton.mp z]; exact ⟨o, ho, fun v q => by rw [hd] at q; cases q⟩
  keep := by
    rintro i h h' ⟨⟨old, he⟩, ⟨o, ho, r⟩, hne⟩ k
    exact ⟨⟨old, k e (by simp) _ he⟩, ⟨o, k it (by simp) o ho, r⟩, hne⟩
  item := by
    intro X hP hw hK hc i pins s σ H E I hf st hg
    subst hP hw hK
    obtain ⟨⟨old, he⟩, hit, hne, hai, hae⟩ := st
    obtain ⟨xs, x, hq, hx⟩ := hg
    obtain ⟨its, rv, p, hz⟩ := I.tuple hq
    obtain ⟨u, hu, ru⟩ := rv.get hx
    have hel : e < s.heap.objs.size := Heap.lt_size he
    have hil : it < s.heap.objs.size := by obtain ⟨_, q, _⟩ := hit; exact Heap.lt_size q
    have hlt : i < its.toArray.size := by
      rcases Nat.lt_or_ge i its.length with z | z
      · simpa using z
      · rw [List.getElem?_eq_none z] at hu; cases hu
    have Dr := Draws.tuple (prog := X.prog) (w := X.w) (A := X.A.in1) (I.ok.hd hc) it a hai its.toArray
    refine wpAny_pyNext_enum_itemD Dr he ⟨hit, p⟩ hlt hne (by simp; exact ⟨hne, fun z => hae z.symm⟩) fun v h' tk hv ho hst hT hsz hk => ?_
    have ev : v = u := by
      have z : (its.toArray)[i]? = some u := by simpa using hu
      rw [z] at hv
      cases hv
      rfl
    subst ev
    refine ⟨_, rfl, wpAny_letOwnedTupleGo_enum (s := { s with heap := h', toks := tk + 1 }) ho fun h2 he' sb => ?_⟩
    have gT : h2.get? s.heap.objs.size = some { cls := .type "tuple", data := .seq #[.int i tk, v] } := (sb.2 _ (Nat.ne_of_gt hel)).trans hT
    have new : ObjOk X.prog X.w (upd H s.heap.objs.size (.frz { cls := .type "tuple", data := .seq #[.int i tk, v] } (.tup [.int (i : Nat), x]))) h2 s.heap.objs.size (.frz { cls := .type "tuple", data := .seq #[.int i tk, v] } (.tup [.int (i : Nat), x])) :=
      ⟨gT, by show 2 ≤ sizeLine; decide, [.int i tk, v], .cons ⟨_, rfl⟩ (.cons ru .nil), ⟨_, gT, rfl, _, rfl⟩⟩
    have I1 := I.turnedNew (t' := tk + 1) (ch := [e, it]) (fun b ob hb q => (sb.2 b fun z => hb (by simp [z])).trans (hk b ob (fun z => hb (by simp [z])) (fun z => hb (by simp [z])) q)) hf (Nat.le_refl _) new
    refine ⟨.ref s.heap.objs.size, _, I1, rfl, ⟨_, _, x, rfl, rfl, I.hok.fresh (Nat.le_refl _), rfl, fun ys hy => by rw [I.tuple_inj hy hq]; exact hx⟩, ⟨⟨v, ?_⟩, ?_, hne, hai, hae⟩, fun b hb => ?_⟩
    · have e1 : ((i + 1 : Nat) : Int) = (i : Int) + 1 := by omega
      rw [e1]
      exact he'
    · obtain ⟨⟨o, ho, r⟩, _⟩ := hst
      exact ⟨o, (sb.2 it (Ne.symm hne)).trans ho, r⟩
    · have hb' : b < s.heap.objs.size := by
        rcases List.mem_cons.mp hb with z | z
        · rw [z]; exact hel
        · rw [List.mem_singleton.mp z]; exact hil
      rw [upd_ne (Nat.ne_of_lt hb')]
      exact (hf b hb).1
  done := by
    intro X hP hw hK hc i pins s σ H E I hf st hg
    subst hP hw hK
    obtain ⟨⟨old, he⟩, hit, hne, hai, hae⟩ := st
    obtain ⟨xs, hq, hx⟩ := hg
    obtain ⟨its, rv, p, hz⟩ := I.tuple hq
    obtain ⟨f0, f1, f2, f3, f4, f5⟩ := hf it (by simp)
    have hl := rv.length
    have Dr := Draws.tuple (prog := X.prog) (w := X.w) (A := X.A.in1) (I.ok.hd hc) it a hai (its.toArray)
    refine wpAny_pyNext_enum_endD Dr he (i := i) ⟨?_, p⟩ fun h' eb => ⟨rfl, I.turned (t' := s.toks) (fun b o hb q => eb b o hb q) f0 f1 f3 f4 f5⟩
    have : its.toArray.size = i := by simp; omega
    rw [this]
    exact hit
  self := fun A i s Q E st h => let ⟨⟨_, he⟩, _⟩ := st; wpAny_pyIter_enum he h
def iEnumT (K : PySem.W.Frag) (te : TE) : TI := fun σ H R => te σ H fun v H1 => ∃ a xs, [v] = [V.ref a] ∧ SqT K H1 a xs ∧ R (ItE K a) H1
theorem pi_enumT {X : Cx} {e : Expr} {te : TE} {p pos tpos : Pos} {elts : List Expr} {kk : Nat} (hg : Gl X "enumerate") (hm : X.mg "enumerate" = none) (he : PE X e te) (hs : starEach [e] X.env = (false, eval e X.env) :: starEach [] X.env := by rfl) :
    PI X (.Tuple elts kk tpos) (.Call (.Name "enumerate" p) [e] [] pos) (iEnumT X.K te) := by
  have ha : PA X [e] (tCons te tNil) := pa_cons he pa_nil hs
  constructor
  intro pins s σ H R I h
  have h : tCons te tNil σ H (fun vs H1 => ∃ a xs, vs = [.ref a] ∧ SqT X.K H1 a xs ∧ R (ItE X.K a) H1) := h
  refine Call_ (ld_blt I hg hm boot_enumerate (callWith_type1 (thn (ha.run pos pins s σ H _ I h) ?_) hs rfl))
  rintro us s1 ⟨vs, H1, I1, r1, a, xs, rfl, hq, q⟩
  cases r1 with
  | cons r rr =>
    cases rr
    cases r
    obtain ⟨its, rv, pt, hz⟩ := I1.tuple hq
    have ha1 : a < s1.heap.objs.size := by obtain ⟨o, e, _⟩ := pt; exact Heap.lt_size e
    refine call_enumT pt fun h' he hit hk => wpAny_pyIter_enum he ?_
    have I2 := I1.kept (t' := s1.toks) hk
    refine ⟨s1.heap.objs.size + 1, [s1.heap.objs.size + 1, s1.heap.objs.size], _, _, H1, rfl, I2, turn_enumT a (s1.heap.objs.size + 1) s1.heap.objs.size, ⟨⟨.none, he⟩, hit, Nat.succ_ne_self _, Nat.ne_of_lt ha1, Nat.ne_of_lt (Nat.lt_succ_of_lt ha1)⟩, fun b hb => ?_, q⟩
    have hle : s1.heap.objs.size ≤ b := by
      rcases List.mem_cons.mp hb with z | z
      · rw [z]; exact Nat.le_add_right _ _
      · rw [List.mem_singleton.mp z]; exact Nat.le_refl _
    exact I1.fpOk hle (I1.hok.fresh hle)
def YPr (xs : List V) : Nat → Hp → V → Hp → Prop := fun i H v H' => ∃ (q : Addr) (o : Obj) (x : V), v = .ref q ∧ o.dict = none ∧ H q = none ∧ H' = upd H q (.frz o (.tup [.int (i : Nat), x])) ∧ xs[i]? = some x
theorem walk_enumT {K : PySem.W.Frag} {a : Addr} {xs : List V} : Walk (ItE K a) xs.length (fun H => SqT K H a xs) (YPr xs) := by
  refine ⟨fun i _ hi q => ⟨xs, xs[i], q, by simp [hi]⟩, fun _ q => ⟨xs, q, rfl⟩, ?_⟩
  rintro i H v H' _ q ⟨p, o, x, h1, h2, h3, h4, h5⟩
  exact ⟨p, o, x, h1, h2, h3, h4, h5 xs q⟩
def numb (k : Nat) : List D → List D
  | [] => []
  | d :: ds => .tup [.int (k : Int), d] :: numb (k + 1) ds
theorem numb_get : ∀ {ds : List D} {k i : Nat}, (numb k ds)[i]? = ds[i]?.map fun d => .tup [.int ((k + i : Nat) : Int), d]
  | [], k, i => by simp [numb]
  | d :: ds, k, 0 => by simp [numb]
  | d :: ds, k, i + 1 => by
    rw [numb, List.getElem?_cons_succ, List.getElem?_cons_succ, numb_get]
    congr 2
    funext d
    congr 4
    omega
theorem numb_len : ∀ {ds : List D} {k : Nat}, (numb k ds).length = ds.length
  | [], _ => rfl
  | d :: ds, k => by rw [numb, List.length_cons, List.length_cons, numb_len]
/-- enumerate(e), e a tuple -/
def dEnT (f : M D) : M (List D) := bnd (dFz f) fun d => match d with
  | .tup xs => ret (numb 0 xs)
  | _ => bad
theorem src_enumT {T : Tx} {B : Hp} {s : S5} {a : Addr} {vs : List V} {ds : List D} (h : ∀ s1 : S5, Okk T B s1 → Ex s.F s1.F → SqT T.K s1.H a vs) (rp : Reps T B s.H s.F ds vs []) : Src T B (ItE T.K a) vs.length (fun H => SqT T.K H a vs) (YPr vs) s.F (numb 0 ds) := by
  refine ⟨walk_enumT, by rw [numb_len, rp.len], h, ?_⟩
  rintro i x H' s1 hi r e ⟨q, o, y, rfl, ho, hq, rfl, hy⟩
  cases ed : ds[i]? with
  | none =>
    rw [List.getElem?_eq_none_iff, rp.len] at ed
    rw [List.getElem?_eq_none ed] at hy
    cases hy
  | some d =>
    obtain ⟨v, q1, q2⟩ := (rp.mono (H' := s1.H) (Ex.refl B) e fun a q => (by cases q)).get0 ed
    rw [hy] at q1
    cases q1
    refine ⟨.tup [.int (i : Int), d], s1.newF q (.frz o (.tup [.int (i : Nat), y])), ?_, rfl, rfl, rfl, r.newF hq, goes_newF r hq, ?_⟩
    · rw [numb_get, ed]
      simp
    · exact (tmp_newT ho r hq (.cons (.int _) (.cons q2 .nil rfl) rfl)).rep
section
variable {X : Cx} {G : Gx} {W : WX} {tc : List Nat} {e : Expr} {f : M D} {p pos tpos : Pos} {elts : List Expr} {kk : Nat}
theorem gi_enumT (hg : Gl X "enumerate") (hm : X.mg "enumerate" = none) (h0 : GE X G W tc e f) (hs : starEach [e] X.env = (false, eval e X.env) :: starEach [] X.env := by rfl) : GI X G W tc (.Tuple elts kk tpos) (.Call (.Name "enumerate" p) [e] [] pos) (dEnT f) :=
  pi_mono (pi_enumT hg hm (g_fz h0) hs) fun σ H R ⟨B, s, e1, e2, rl, hp⟩ => by
    subst e1 e2
    refine seqE1 rl hp fun d v s1 g ed hs r1 t a h => ?_
    cases d with
    | tup xs =>
      have z := rep_v t.rep (dFz_frz ed)
      obtain ⟨q, vs, rfl, rp, sq⟩ := z.tupS
      exact ⟨q, vs, rfl, sq s1.H s1.F (Ex.refl _) r1.exF, h _ _ _ _ s1 rfl hs r1 a.drop0 (src_enumT (fun s3 r3 e3 => sq s3.H s3.F e3 r3.exF) rp)⟩
    | _ => exact h.elim
end
end Cs
namespace Cs
open PySem L2 Evl PyProof.Rows

/-! ## dict comprehensions: texts as keys, values without owned parts -/
def putD (k : Str) (d : D) (ks : List Str) (ds : List D) : List Str × List D :=
  if k ∈ ks then (ks, List.zipWith (fun k' x => if k' = k then d else x) ks ds) else (ks ++ [k], ds ++ [d])
abbrev kz (ks : List Str) (vs : List V) : List (Key × V) := (ks.map Sum.inr).zip vs
theorem kz_any {k : Str} : ∀ {ks : List Str} {vs : List V}, ks.length = vs.length → ((kz ks vs).any fun kv => decide (kv.1 = Sum.inr k)) = decide (k ∈ ks)
  | [], [], _ => by simp [kz]
  | a :: ks, v :: vs, h => by
    have e : kz (a :: ks) (v :: vs) = (Sum.inr a, v) :: kz ks vs := rfl
    rw [e, List.any_cons, kz_any (by simpa using h)]
    by_cases q : a = k
    · subst q; simp
    · have q' : ¬ k = a := fun z => q z.symm
      simp [q, q']
  | [], _ :: _, h => by simp at h
  | _ :: _, [], h => by simp at h
theorem kz_map {k : Str} {v : V} : ∀ {ks : List Str} {vs : List V}, (kz ks vs).map (fun kv => if kv.1 = Sum.inr k then (kv.1, v) else kv) = kz ks (List.zipWith (fun k' x => if k' = k then v else x) ks vs)
  | [], vs => by simp [kz]
  | _ :: _, [] => by simp [kz]
  | a :: ks, w :: vs => by
    have e : kz (a :: ks) (w :: vs) = (Sum.inr a, w) :: kz ks vs := rfl
    rw [e, List.map_cons, kz_map, List.zipWith_cons_cons]
    have e2 : ∀ (w : V) (us : List V), kz (a :: ks) (w :: us) = (Sum.inr a, w) :: kz ks us := fun _ _ => rfl
    rw [e2]
    congr 1
    by_cases q : a = k
    · rw [if_pos (by rw [q]), if_pos q]
    · rw [if_neg fun z => q (by cases z; rfl), if_neg q]
theorem kz_app {ks : List Str} {vs : List V} {k : Str} {v : V} (h : ks.length = vs.length) : kz ks vs ++ [(Sum.inr k, v)] = kz (ks ++ [k]) (vs ++ [v]) := by
  unfold kz
  rw [List.map_append, List.zip_append (by simpa using h)]
  rfl
theorem reps_zw {T : Tx} {B H F : Hp} {k : Str} {d : D} {v : V} (rd : Rep T B H F d v []) : ∀ {ks : List Str} {ds : List D} {vs : List V}, Reps T B H F ds vs [] → Reps T B H F (List.zipWith (fun k' x => if k' = k then d else x) ks ds) (List.zipWith (fun k' x => if k' = k then v else x) ks vs) []
  | [], _, _, _ => by rw [List.zipWith_nil_left, List.zipWith_nil_left]; exact .nil
  | _ :: _, _, _, .nil => by rw [List.zipWith_nil_right, List.zipWith_nil_right]; exact .nil
  | a :: ks, _, _, .cons r rs e => by
    obtain ⟨e1, e2⟩ := List.append_eq_nil_iff.mp e.symm
    subst e1 e2
    rw [List.zipWith_cons_cons, List.zipWith_cons_cons]
    refine .cons (f := []) ?_ (reps_zw rd rs) rfl
    by_cases q : a = k
    · rw [if_pos q, if_pos q]; exact rd
    · rw [if_neg q, if_neg q]; exact r
theorem put_rep {T : Tx} {B H F : Hp} {k : Str} {d : D} {v : V} {ks : List Str} {ds : List D} {vs : List V} (rd : Rep T B H F d v []) (rs : Reps T B H F ds vs []) (hl : ks.length = vs.length) :
    ∃ vs', Reps T B H F (putD k d ks ds).2 vs' [] ∧ kz (putD k d ks ds).1 vs' = putK (kz ks vs) (Sum.inr k) v ∧ (putD k d ks ds).1.length = vs'.length ∧ (putD k d ks ds).1.length ≤ ks.length + 1 := by
  unfold putD putK
  rw [kz_any hl]
  by_cases q : k ∈ ks
  · rw [if_pos q, if_pos (by simpa using q), kz_map]
    exact ⟨_, reps_zw rd rs, rfl, by simp [List.length_zipWith, hl], by simp⟩
  · rw [if_neg q, if_neg (by simpa using q), kz_app hl]
    exact ⟨_, rs.append (.cons rd .nil rfl), rfl, by simp [hl], by simp⟩
def dcL (tg : Tg) (own : List Nat) (cond : M Bool) (key val : M D) : List Str × List D → List D → En → Out (List Str × List D)
  | acc, [], ρ => .ok acc ρ
  | acc, d :: ds, ρ => match dTg tg d ρ with
    | .ok .nx ρ1 => (match cond ρ1 with
      | .ok true ρ2 => (match key ρ2 with
        | .ok (.str k) ρ3 => (match val ρ3 with
          | .ok x ρ4 => if acc.1.length < lim ∧ allF noOw x = true then dcL tg own cond key val (putD k x acc.1 acc.2) ds (fgt own ρ4) else .bad
          | _ => .bad)
        | _ => .bad)
      | .ok false ρ2 => dcL tg own cond key val acc ds (fgt own ρ2)
      | _ => .bad)
    | _ => .bad
def dcEnd (own : List Nat) (ρ0 : En) : Out (List Str × List D) → Out D
  | .ok xs ρ => .ok (.dct .ow xs.1 xs.2) (rst own ρ0 ρ)
  | _ => .bad
def dDc (src : M (List D)) (tg : Tg) (own : List Nat) (cond : M Bool) (key val : M D) : M D := bnd src fun ds ρ =>
  if noOwAt own ρ = true then dcEnd own ρ (dcL tg own cond key val ([], []) ds (fgt own ρ)) else .bad
section
variable {T : Tx} {B : Hp}
/-- a dict in the making, at p -/
structure AccD (T : Tx) (B : Hp) (p : Addr) (s : S5) (ks : List Str) (xs : List D) (vs : List V) : Prop where
  t : Reps T B s.H s.F xs vs []
  h : s.H p = some (.dK (kz ks vs))
  l : ks.length = vs.length
  f : s.F p = none
  b : B p = none
  o : ¬ O s.φ p
theorem AccD.go {p : Addr} {s s1 : S5} {ks : List Str} {xs : List D} {vs : List V} {g1 tc : List Nat} (c : AccD T B p s ks xs vs) (a : Goes tc s s1 g1) : AccD T B p s1 ks xs vs ∧ p ∉ g1 := by
  have hp : ∀ q : s.H p = none, False := fun q => by rw [c.h] at q; cases q
  refine ⟨⟨c.t.mono (Ex.refl B) a.step.ext fun _ q => (by cases q), (a.step.keep p _ c.h c.o).st fun _ e => (by cases e), c.l, ?_, c.b, fun q => (a.step.on p (.inl q)).elim c.o hp⟩, fun q => (a.step.on p (.inr q)).elim c.o hp⟩
  cases e : s1.F p with
  | none => rfl
  | some u => exact ((a.step.fn p u e c.f).elim c.o hp).elim
theorem AccD.same {p : Addr} {s s1 : S5} {ks : List Str} {xs : List D} {vs : List V} (c : AccD T B p s ks xs vs) (h1 : s1.H = s.H) (h2 : s1.F = s.F) (h3 : ∀ a, O s1.φ a → O s.φ a) : AccD T B p s1 ks xs vs :=
  ⟨by rw [h1, h2]; exact c.t, by rw [h1]; exact c.h, c.l, by rw [h2]; exact c.f, c.b, fun q => c.o (h3 p q)⟩
end
section
variable {T : Tx} {W : WX} {t1 tt tk te to own : List Nat} {src : M (List D)} {cond : M Bool} {key val : M D} {tg : Tg}
theorem dc_core2 {σ : L2.St} {H : Hp} {Q : VK} (htg : ∀ x ∈ tg.tc, 1000 ≤ x → x - 1000 ∈ own) (hsub : ∀ j ∈ tg.tc ++ (tt ++ (tk ++ te)), j ∈ to ∨ j ∈ own) (h : tD T W (t1 ++ to) (dDc src tg own cond key val) σ H Q) :
    tDc (tDI T W t1 src) (tgR T.K tg) (tDT T W0 tt cond) (tD T W0 tk key) (tD T W0 te val) own σ H Q := by
  obtain ⟨B, sb, e1, e2, rb, hp⟩ := h
  subst e1 e2
  have hp : Post (okE T B (t1 ++ to) sb Q) (exE T W B (t1 ++ to) sb) (bnd src (fun ds ρ => if noOwAt own ρ = true then dcEnd own ρ (dcL tg own cond key val ([], []) ds (fgt own ρ)) else .bad) sb.ρ) := hp
  refine ⟨B, sb, rfl, rfl, rb, hp.bnd.imp (fun ds ρ1 ⟨_, h⟩ J n Gd Y s0 q1 q2 r0 a0 sr p hp0 => ?_) fun _ _ _ _ h cls dd s' x1 x2 x3 x4 x5 => h cls dd s' x1 x2 x3 x4 (x5.wk fun _ => memL)⟩
  subst q1
  split at h
  case isFalse => exact h.elim
  rename_i hno
  rw [← q2]
  let TT := tg.tc ++ (tt ++ (tk ++ te))
  let Pv : Nat → Hp → Prop := fun k H => ∃ s ks acc vs, s.H = H ∧ s.σ = wipe s0.σ own ∧ Okk T B s ∧ AccD T B p s ks acc vs ∧ In own TT s0 s [p] ∧ (∀ j ∈ own, ∀ x, s.ρ[j]? = some x → x = .un) ∧ s.σ.length = s0.σ.length ∧
    Post (okE T B (t1 ++ to) sb Q) (exE T W B (t1 ++ to) sb) (dcEnd own s0.ρ (dcL tg own cond key val (ks, acc) (ds.drop k) s.ρ))
  have start : Pv 0 (upd s0.H p (.dK [])) := by
    obtain ⟨s1, h1, h2, h3, h4, h5, h6, h7⟩ := into_own (own := own) r0
    refine ⟨{ s1 with H := upd s1.H p (.dK []) }, [], [], [], by show upd s1.H p _ = _; rw [h3], h2, ?_, ⟨.nil, upd_same, rfl, ?_, ?_, ?_⟩, ⟨?_, fun j q1 q2 => ?_, fun j q => ?_⟩, fun j hj x e => ?_, ?_, ?_⟩
    · exact h5.new (by rw [h3]; exact hp0)
    · show s1.F p = none
      rw [h4]; exact r0.freeF hp0
    · exact r0.freeB hp0
    · exact fun q => r0.freeO hp0 (h7 _ q)
    · show Step s0.H s0.F (O s0.φ) (upd s1.H p _) s1.F _
      rw [h3, h4]
      refine (Step.new hp0).drop2 fun a q => ?_
      rcases q with q | q
      · exact .inl (h7 a q)
      · rw [List.mem_singleton.mp q]; exact .inr hp0
    · refine ⟨?_, h6 j q2, fun b hb => ?_⟩
      · show s1.ρ[j]? = _
        rw [h1, fgt_get q2]
      · obtain ⟨u, e⟩ := r0.dom ⟨j, hb⟩
        show upd s1.H p _ b = _
        rw [upd_ne (ne_of_none e hp0), h3]
    · show s1.σ[j]? = _
      rw [h2, wipe_out q]
    · have e : s1.ρ[j]? = some x := e
      rw [h1] at e
      exact fgt_un (.inl hj) x e
    · show s1.σ.length = _
      rw [h2, wipe_len]
    · show Post _ _ (dcEnd own s0.ρ (dcL tg own cond key val ([], []) (ds.drop 0) s1.ρ))
      rw [h1]
      exact h
  refine ⟨fun i m H => m = n - i ∧ i ≤ n ∧ Pv i H, ⟨n, by simp, Nat.zero_le _, start⟩, ?_⟩
  rintro k m H1 ⟨rfl, hi, hP⟩
  obtain ⟨s, ks, acc, vs, x1, x2, x3, x4, x5, x6, x7, x8⟩ := hP
  subst x1
  have hG : Gd s.H := sr.g s x3 x5.st.ext
  by_cases hk : k < n
  · refine .inr ⟨sr.w.goes k _ hk hG, Pv (k + 1), fun H' p' => ⟨n - (k + 1), by omega, rfl, hk, p'⟩, fun x H' yl => ?_⟩
    obtain ⟨d, s3, y1, y2, y3, y4, y5, y6, y7⟩ := sr.y k x H' s hk x3 x5.st.ext (sr.w.yields k _ x H' hk hG yl)
    subst y2
    have hd : ds.drop k = d :: ds.drop (k + 1) := by
      obtain ⟨hl, e⟩ := List.getElem?_eq_some_iff.mp y1
      rw [← e]
      exact List.drop_eq_getElem_cons hl
    rw [hd] at x8
    unfold dcL at x8
    rw [← y4] at x8
    have c3 := (x4.go y6).1
    have i3 : In own TT s0 s3 [p] := x5.go y6 (fun _ z => by cases z) fun j _ => by rw [y3]
    cases et : dTg tg d s3.ρ with
    | bad => rw [et] at x8; exact x8.elim
    | exc c ks xs ρ => rw [et] at x8; exact x8.elim
    | ok fl ρ2 =>
      rw [et] at x8
      cases fl with
      | bk => exact x8.elim
      | ct => exact x8.elim
      | rt r => exact x8.elim
      | nx =>
        dsimp only at x8
        rw [← x2, ← y3]
        refine tg_core (T := T) y5 y7 et fun s4 z1 z2 z3 z4 z5 => ?_
        have hsg4 := tgs_sg z5 htg
        have c4 := (c3.go z5).1
        have i4 : In own TT s0 s4 [p] := i3.go z5 (fun j z => memL z) hsg4
        have hl4 : s4.σ.length = s3.σ.length := by rw [← z4.len, ← y5.len, z1]; exact dTg_len et
        have hl40 : s4.σ.length = s0.σ.length := by rw [hl4, y3, x7]
        refine ⟨(wipe_eq hl4 hsg4).trans (by rw [y3, x2, wipe_wipe]), ?_⟩
        subst z1
        refine ⟨B, s4, rfl, rfl, z4, ?_⟩
        cases ec : cond s4.ρ with
        | bad => rw [ec] at x8; exact x8.elim
        | exc c ks xs ρ => rw [ec] at x8; exact x8.elim
        | ok b ρ5 =>
          rw [ec] at x8
          intro s5 w1 w2 w3 w4
          subst w1
          have c5 := (c4.go w4).1
          have i5 : In own TT s0 s5 [p] := i4.go w4 (fun j z => memR (memL z)) fun j _ => by rw [w2]
          cases b with
          | false =>
            rw [if_neg Bool.false_ne_true]
            obtain ⟨s6, v1, v2, v3, v4, v5, v6, v7⟩ := i5.next w3 (by rw [w2, hl40])
            exact ⟨s6, ks, acc, vs, v3, v2, v5, c5.same v3 v4 v7, v6, fun j hj x e => fgt_un (.inl hj) x (by rw [← v1]; exact e), by rw [v2, wipe_len], by rw [v1]; exact x8⟩
          | true =>
            rw [if_pos rfl, ← w2]
            refine ⟨B, s5, rfl, rfl, w3, ?_⟩
            dsimp only at x8
            cases ek : key s5.ρ with
            | bad => rw [ek] at x8; exact x8.elim
            | exc c ks xs ρ => rw [ek] at x8; exact x8.elim
            | ok dk ρk =>
              rw [ek] at x8
              intro vk sk gk u1 u2 u3 u4 u5
              subst u1
              cases dk with
              | str kk =>
                obtain ⟨rk, _, _, _⟩ := u4
                cases rk
                rw [← u2]
                refine ⟨B, sk, rfl, rfl, u3, ?_⟩
                dsimp only at x8
                have ck := (c5.go u5).1
                have ik : In own TT s0 sk [p] := i5.go u5 (fun j z => memR (memR (memL z))) fun j _ => by rw [u2]
                cases ee : val sk.ρ with
                | bad => rw [ee] at x8; exact x8.elim
                | exc c ks xs ρ => rw [ee] at x8; exact x8.elim
                | ok d6 ρ6 =>
                  rw [ee] at x8
                  intro v6 s6 g6 u1 u2' u3' u4 u5'
                  subst u1
                  dsimp only at x8
                  split at x8
                  case isFalse => exact x8.elim
                  rename_i hlim
                  have c6 := ck.go u5'
                  have g0 : g6 = [] := u4.rep.noO hlim.2
                  subst g0
                  refine ⟨kz ks vs, Sum.inr kk, rfl, c6.1.h, ?_, ?_⟩
                  · unfold kz
                    rw [List.length_zip, List.length_map, ← c6.1.l, Nat.min_self, sizeLine_eq]
                    have := hlim.1
                    unfold lim at this
                    omega
                  · obtain ⟨vs', p1, p2, p3, p4⟩ := put_rep (k := kk) u4.rep c6.1.t c6.1.l
                    rw [← p2]
                    let s7 : S5 := { s6 with H := upd s6.H p (.dK (kz (putD kk d6 ks acc).1 vs')) }
                    have c7 : AccD T B p s7 (putD kk d6 ks acc).1 (putD kk d6 ks acc).2 vs' := ⟨p1.mono (Ex.refl B) (Ex.refl _) fun _ q => (by cases q), upd_same, p3, c6.1.f, c6.1.b, c6.1.o⟩
                    have r7 : Okk T B s7 := u3'.poke c6.1.f c6.1.b c6.1.o (nmH c6.1.h)
                    have i6 : In own TT s0 s6 ([] ++ [p]) := ik.go u5' (fun j z => memR (memR (memR z))) fun j _ => by rw [u2']
                    have i7 : In own TT s0 s7 [p] := i6.poke (p := p) (o := .dK (kz (putD kk d6 ks acc).1 vs')) r0 hp0
                    obtain ⟨s8, v1, v2, v3, v4, v5, v6', v7⟩ := i7.next r7 (by show s6.σ.length = _; rw [u2', u2, w2, hl40])
                    exact ⟨s8, _, _, _, v3, v2, v5, c7.same v3 v4 v7, v6', fun j hj x e => fgt_un (.inl hj) x (by rw [← v1]; exact e), by rw [v2, wipe_len], by rw [v1]; exact x8⟩
              | _ => exact x8.elim
  · have ekn : k = n := by omega
    subst ekn
    refine .inl ⟨sr.w.stops _ hG, ?_⟩
    rw [← sr.len, List.drop_length] at x8
    unfold dcL dcEnd at x8
    obtain ⟨s1, h1, h2, h3, h4, h5, h6, h7⟩ := outof_own (own := own) r0 hno x3 x5.sg x6 (by rw [x3.len, x7, r0.len]) x5.st x5.fx hsub
    have t1 : Tmp T B s1.H s1.F s1.φ (.dct .ow ks acc) (.ref p) [p] := by
      rw [h3, h4, h5]
      exact ⟨.dctO x4.h x4.l x4.t rfl, List.nodup_cons.mpr ⟨fun z => (by cases z), .nil⟩, fun a ha => by
        rw [List.mem_singleton.mp ha]; exact ⟨x4.f, x4.b⟩, fun a ha => by
        rw [List.mem_singleton.mp ha]; exact x4.o⟩
    have z := x8 (.ref p) s1 [p] h1 (h2.trans q2) h6 t1 ((a0.trans0 h7).wk fun j z => z)
    rw [h3] at z
    exact z
end
section
variable {X : Cx} {G : Gx} {W : WX} {t1 tt tk te to : List Nat} {src : M (List D)} {cond : M Bool} {key val : M D} {tg : Tg} {kE vE tgE iter : Expr} {ifs : List Expr} {scope : Scope} {own : List (Str × Nat)} {pos : Pos}
/-- {k: v for x in xs if c} -/
theorem g_dc (hc : X.calm = true) (hN : X.N.Nodup) (hi : GI X G W t1 tgE iter src) (ok : BlkOk X.N X.env.scope scope own) (hg : blkT X scope fun Y => PG Y tgE (tgR X.K tg)) (ht : blkT X scope fun Y => GTs Y G W0 tt ifs cond) (hk : blkT X scope fun Y => GE Y G W0 tk kE key) (he : blkT X scope fun Y => GE Y G W0 te vE val)
    (htg : ∀ x ∈ tg.tc, 1000 ≤ x → x - 1000 ∈ own.map (·.2) := by decide) (hsub : ∀ j ∈ tg.tc ++ (tt ++ (tk ++ te)), j ∈ to ∨ j ∈ own.map (·.2) := by decide) (hs : ∀ x, foldedSetIterable iter X.env x = pure x := by intro _; rfl) :
    GE X G W (t1 ++ to) (.DictComp kE vE [⟨tgE, iter, ifs, 0⟩] scope pos) (dDc src tg (own.map (·.2)) cond key val) :=
  pe_mono (pe_dc hc hN hi ok hg ht hk he hs) fun σ H Q h => dc_core2 (T := tx X G) htg hsub h
end
end Cs
namespace Cs
open PySem L2 Evl PyProof.Rows
/-- y = {k: v for ..} on one line, y a local -/
theorem ps_setDc {X : Cx} {i : Nat} {y : Str} {py pos spos : Pos} {kE vE tg iter : Expr} {ifs : List Expr} {scope : Scope} {own : List (Str × Nat)} {wi : TI} {g : TG} {tt : TT} {tk te : TE} (hc : X.calm = true) (hN : X.N.Nodup) (hy : X.N[i]? = some y)
    (hyl : X.env.scope.names.lookup y = some .local) (hsw : swapsWith (.DictComp kE vE [⟨tg, iter, ifs, 0⟩] scope pos) (some (.Name y py)) spos.line X.env = pure true) (hi : PI X tg iter wi) (ok : BlkOk X.N X.env.scope scope own)
    (hg : blkT X scope fun Y => PG Y tg g) (ht : blkT X scope fun Y => PTs Y ifs tt) (hk : blkT X scope fun Y => PE Y kE tk) (he : blkT X scope fun Y => PE Y vE te) (hs : ∀ x, foldedSetIterable iter X.env x = pure x := by intro _; rfl) :
    PS X (.Assign [.Name y py] (.DictComp kE vE [⟨tg, iter, ifs, 0⟩] scope pos) spos) (tAsg (tDc wi g tt tk te (own.map (·.2))) (gName i)) := by
  constructor
  intro pins s σ H D I h
  rw [exec_Assign_Name_used _ _ _ _ hsw]
  refine wpAny_bind (wpAny_standAt (wpAny_bind ?_))
  show wpAny _ X.A (do let _ ← comprehension (.DictComp kE vE [⟨tg, iter, ifs, 0⟩] scope pos) scope X.env (firstIterPos [⟨tg, iter, ifs, 0⟩] pos) newDict false (eval iter X.env) (some (assign (.Name y py) X.env))) _ _ s
  have h : tDc wi g tt tk te (own.map (·.2)) σ H (fun x H1 => gName i x σ H1 D.nx) := h
  have core := dc_core (pos := pos) (use := some (assign (.Name y py) X.env)) (pos' := firstIterPos [⟨tg, iter, ifs, 0⟩] pos) (Qf := fun _ s' => SP X pins D .next s') hc hN I hi ok hg ht hk he hs h
  refine wpAny_bind (thn (core ?_) fun _ s' hq => wpAny_pure (wpAny_pure hq))
  intro L C s' m H' I' q hn f
  show wpAny _ _ (assign (.Name y py) X.env (.ref L)) _ _ _
  refine wpAny_assign_Name (store_ok2 (v := V.ref L) I' hN hy (.inl hyl) rfl ?_ (.inr hyl))
  rintro s2 I2 ⟨a, sb, ha⟩
  obtain ⟨f0, f1, f2, f3, f4, f5⟩ := f
  have haC : C ≠ a := ha.elim (fun z => by rw [z]; exact f1) fun z e => f4 y a z e.symm
  exact ⟨m, hn.sameBut sb haC, fun h3 sb3 => ⟨_, H', I2.turned (t' := s2.toks) (fun b o hb e => (sb3.2 b hb).trans e) f0 f1 f3 f4 f5, q⟩⟩
theorem swD_true {kE vE : Expr} {gs : List Comprehension} {scope : Scope} {pos py : Pos} {y : Str} {l : Nat} {env : Env} (hk : env.scope.kind = .function) (hy : env.scope.names.lookup y = some .local) (hl : (py.line == pos.line) = true)
    (ha : (scope.names.any fun (n, k) => n == y && (k == .local || k == .cell)) = false) : swapsWith (.DictComp kE vE gs scope pos) (some (.Name y py)) l env = pure true := by
  have e1 : env.kindOf y = some .local := hy
  have e2 : env.blockKind = .function := by unfold Env.blockKind; rw [hk]; rfl
  unfold swapsWith
  simp only [e1, e2, ha, hl, Expr.pos]
  rfl
section
variable {X : Cx} {G : Gx} {W : WX} {t1 tt tk te to : List Nat} {src : M (List D)} {cond : M Bool} {key val : M D} {tg : Tg} {kE vE tgE iter : Expr} {ifs : List Expr} {scope : Scope} {own : List (Str × Nat)} {pos : Pos}
theorem gs_setDc {i : Nat} {y : Str} {py spos : Pos} (hc : X.calm = true) (hN : X.N.Nodup) (hy : X.N[i]? = some y) (hyl : X.env.scope.names.lookup y = some .local) (hsw : swapsWith (.DictComp kE vE [⟨tgE, iter, ifs, 0⟩] scope pos) (some (.Name y py)) spos.line X.env = pure true)
    (hi : GI X G W t1 tgE iter src) (ok : BlkOk X.N X.env.scope scope own) (hg : blkT X scope fun Y => PG Y tgE (tgR X.K tg)) (ht : blkT X scope fun Y => GTs Y G W0 tt ifs cond) (hk : blkT X scope fun Y => GE Y G W0 tk kE key) (he : blkT X scope fun Y => GE Y G W0 te vE val)
    (htg : ∀ x ∈ tg.tc, 1000 ≤ x → x - 1000 ∈ own.map (·.2) := by decide) (hsub : ∀ j ∈ tg.tc ++ (tt ++ (tk ++ te)), j ∈ to ∨ j ∈ own.map (·.2) := by decide) (hs : ∀ x, foldedSetIterable iter X.env x = pure x := by intro _; rfl) :
    GS X G W ((t1 ++ to) ++ [i, i + 1000]) (.Assign [.Name y py] (.DictComp kE vE [⟨tgE, iter, ifs, 0⟩] scope pos) spos) (dAsg i (dDc src tg (own.map (·.2)) cond key val)) :=
  ps_mono (ps_setDc hc hN hy hyl hsw hi ok hg ht hk he hs) fun E σ H h => dc_core2 (T := tx X G) htg hsub (asg_core (T := tx X G) h)
end
end Cs
namespace Cs
open PySem L2 Evl PyProof.Rows
section
variable {X : Cx} {G : Gx} {W : WX} {tc t1 t2 t3 : List Nat} {a b c e : Expr} {pos p : Pos} {f g h u w : M D} {o o1 o2 : Opd} {x : Str}
/-! ## constants of the module -/
theorem g_glI {n : Int} (hg : Gl X x) (hm : ∃ t : Tok, X.mg x = some (.int n t)) (hd : (x == ("__debug__" : Str)) = false := by decide) : GE X G W [] (.Name x pos) (ret (.int n)) :=
  pe_mono (pe_glob (v := .int n) hg hm.choose_spec ⟨_, rfl⟩ hd) fun σ H Q ⟨B, s, e1, e2, r, h⟩ => by
    subst e1 e2
    exact h _ s [] rfl rfl r (Tmp.flat (.int n)) Goes.refl
theorem g_glS {z : Str} (hg : Gl X x) (hm : ∃ t : Tok, X.mg x = some (.str z t)) (hz : PyData.strOk z = true := by decide +kernel) (hd : (x == ("__debug__" : Str)) = false := by decide) : GE X G W [] (.Name x pos) (ret (.str z)) :=
  pe_mono (pe_glob (v := .str z) hg hm.choose_spec ⟨_, rfl⟩ hd) fun σ H Q ⟨B, s, e1, e2, r, h⟩ => by
    subst e1 e2
    exact h _ s [] rfl rfl r (Tmp.flat (.str z hz)) Goes.refl
/-! ## a < b < c -/
def chn (p q : D → D → PR) (h : M D) (x y : D) : M D := match p x y with
  | .sc (.bl true) => bnd h fun z => pr (q y z)
  | .sc (.bl false) => ret (.bl false)
  | _ => bad
def dChn (p q : D → D → PR) (f g h : M D) : M D := bnd f fun x => bnd g fun y => chn p q h x y
theorem tD_wk {T : Tx} {u1 u2 : List Nat} (hw : ∀ j ∈ u1, j ∈ u2) {σ : L2.St} {H : Hp} {Q : VK} (h : tD T W u2 f σ H Q) : tD T W u1 f σ H Q := by
  obtain ⟨B, s, e1, e2, rl, hp⟩ := h
  exact ⟨B, s, e1, e2, rl, hp.imp (fun _ _ z => z.wk hw) fun _ _ _ _ z => exE.wk hw z⟩
theorem chn_core {T : Tx} {r r' : R2} {p q : D → D → PR} (hr : P2 T r p) (hr' : P2 T r' q) {σ : L2.St} {H : Hp} {Q : VK} (hh : tD T W (t1 ++ (t2 ++ t3)) (dChn p q f g h) σ H Q) : tChain r r' (tD T W t1 f) (tD T W t2 g) (tD T W t3 h) σ H Q := by
  obtain ⟨B, s, e1, e2, rl, hp⟩ := hh
  subst e1 e2
  refine seqE rl hp fun d v s1 g1 _ hs r1 tA a1 hp => ?_
  rw [← hs]
  refine tD_wk (u2 := t2 ++ t3) (fun j hj => memL hj) (seqE2 (tc2 := t2 ++ t3) a1 hs r1 hp fun d2 v2 s2 g2 _ hs2 r2 tB a2 hp => ?_)
  have z := hr B s2.H s2.F d v g1 d2 v2 g2 r2.exF r2.exB (tA.go a2).rep tB.rep
  have a12 := a1.trans a2
  unfold chn at hp
  cases ep : p d d2 with
  | sc dd =>
    rw [ep] at hp z
    cases dd with
    | bl bb =>
      obtain ⟨v3, rp3, k3⟩ := z
      cases rp3
      refine k3 _ ⟨bb, rfl, ?_⟩
      cases bb with
      | false =>
        rw [if_neg Bool.false_ne_true]
        exact hp (.bl false) s2 [] rfl (hs2.trans hs) r2 (Tmp.flat (.bl false)) a12.drop0
      | true =>
        rw [if_pos rfl, ← hs2]
        have hp3 := hp.imp (fun _ _ z => z) fun _ _ _ _ z => exE.wk (u1 := (t1 ++ (t2 ++ t3)) ++ t3) (fun j hj => (List.mem_append.mp hj).elim id fun q => memR (memR q)) z
        refine seqE2 (tc2 := t3) a12 (hs2.trans hs) r2 hp3 fun d4 v4 s4 g4 _ hs4 r4 tC a4 hp => ?_
        have a124 := (a12.trans a4).wk (tc := t1 ++ (t2 ++ t3)) fun j hj => (List.mem_append.mp hj).elim id fun q => memR (memR q)
        have hp : Post (okE T B (t1 ++ (t2 ++ t3)) s Q) (exE T W B ((t1 ++ (t2 ++ t3)) ++ t3) s) (pr (q d2 d4) s4.ρ) := hp
        have hp5 := hp.imp (fun _ _ z => z) fun _ _ _ _ z => exE.wk (u1 := t1 ++ (t2 ++ t3)) (fun j hj => memL hj) z
        exact pr_fin ((hs4.trans hs2).trans hs) r4 a124 (hr' B s4.H s4.F d2 v2 g2 d4 v4 g4 r4.exF r4.exB (tB.go a4).rep tC.rep) hp5
    | _ => exact hp.elim
  | nl ds => rw [ep] at hp; exact hp.elim
  | nt ds => rw [ep] at hp; exact hp.elim
  | bad => rw [ep] at hp; exact hp.elim
theorem gt_chain {op op' : CmpOp} {r r' : R2} {p q : D → D → PR} (ho : OpR X (compareOp op) r) (ho' : OpR X (compareOp op') r') (hr : P2 (tx X G) r p) (hr' : P2 (tx X G) r' q) (h1 : GE X G W t1 a f) (h2 : GE X G W t2 b g) (h3 : GE X G W t3 c h)
    (hm : lastMarks [op, op'] [b, c] = false := by with_unfolding_all rfl) : GT X G W (t1 ++ (t2 ++ t3)) (.Compare a [op, op'] [b, c] pos) (dB (dChn p q f g h)) :=
  pt_mono (pt_chain ho ho' h1 h2 h3 hm) fun _ _ _ z => chn_core hr hr' (tB_core z)
/-! ## d[k], d a dict with texts as keys -/
def pDix : D → D → PR
  | .dct _ ks ds, .str k => (match look k ks ds with
    | some d => if allF noOw d = true then .sc d else .bad
    | none => .bad)
  | _, _ => .bad
theorem look_kz {T : Tx} {B H F : Hp} {k : Str} : ∀ {ks : List Str} {ds : List D} {vs : List V} {g : List Addr} {d : D}, Reps T B H F ds vs g → look k ks ds = some d → ∃ v g', valV (kz ks vs) (Sum.inr k) = some v ∧ Rep T B H F d v g'
  | [], _, _, _, _, _, h => by simp [look] at h
  | _ :: _, [], _, _, _, _, h => by simp [look] at h
  | a :: ks, x :: xs, _, _, d, .cons (v := v) (vs := vs) r rs e, h => by
    have e2 : kz (a :: ks) (v :: vs) = (Sum.inr a, v) :: kz ks vs := rfl
    rw [e2]
    unfold look at h
    by_cases q : k = a
    · subst q
      rw [if_pos (beq_self_eq_true k)] at h
      cases h
      exact ⟨v, _, valV_pos rfl, r⟩
    · rw [if_neg (by simpa using q)] at h
      obtain ⟨v', g', h1, h2⟩ := look_kz rs h
      refine ⟨v', g', ?_, h2⟩
      unfold valV at h1 ⊢
      rw [List.find?_cons_of_neg (by simp; exact fun z => q z.symm)]
      exact h1
theorem Rep.dctS {T : Tx} {B H F : Hp} (eF : Ex F H) (eB : Ex B H) {o : Fl} {ks : List Str} {ds : List D} {v : V} {g : List Addr} (r : Rep T B H F (.dct o ks ds) v g) : ∃ a vs g', v = .ref a ∧ H a = some (.dK (kz ks vs)) ∧ ks.length = vs.length ∧ Reps T B H F ds vs g' := by
  cases r with
  | dctF h l r => exact ⟨_, _, _, rfl, eF _ _ h, l, r⟩
  | dctB h l r => exact ⟨_, _, _, rfl, eB _ _ h, l, r⟩
  | dctO h l r e => exact ⟨_, _, _, rfl, h, l, r⟩
theorem p2_dix {T : Tx} : P2 T (fun x y H Q => ∃ a v, x = .ref a ∧ DGet H a y (some v) ∧ Q v H) pDix := by
  intro B H F d v g e u k eF eB r q
  cases d with
  | dct o ks ds =>
    cases e with
    | str z =>
      cases q
      unfold pDix
      dsimp only
      cases el : look z ks ds with
      | none => trivial
      | some dd =>
        dsimp only
        split
        · rename_i hn
          obtain ⟨aa, vs, g', rfl, hd, hl, rp⟩ := r.dctS eF eB
          obtain ⟨vv, g2, h1, h2⟩ := look_kz rp el
          refine ⟨vv, rep_v h2 hn, fun Q hq => ⟨aa, vv, rfl, ?_, hq⟩⟩
          rw [← h1]
          exact DGet.k (k := Sum.inr z) hd
        · trivial
    | _ => trivial
  | _ => cases e <;> trivial
theorem g_dix (hu : X.A.units + 65 < cLine) (h1 : GO X G W t1 a o1) (h2 : GO X G W t2 b o2) (hs : NoSl b := by intro _ _; rfl) : GE X G W (t1 ++ t2) (.Subscript a b pos) (dOp2 pDix o1 o2) :=
  top_of p2_dix h1 h2 fun _ _ ha hb => pe_dget (by omega) ha hb hs
/-! ## properties that hand out a field; isinstance of an own class -/
theorem p1_prop {T : Tx} {C : Addr} {c f : Str} {E : XK} (hC : T.C c = some C) : P1 T (fun x H1 Q => ∃ a dx fs, x = V.ref a ∧ H1 a = some (.ins C dx fs) ∧ getSp C f [.ref a] H1 Q E) (pFld c f) := by
  intro B H F d v g eF eB r
  cases d with
  | obj o c' ks ds =>
    unfold pFld
    dsimp only
    split
    · rename_i hcc
      subst hcc
      cases el : look f ks ds with
      | none => trivial
      | some dd =>
        dsimp only
        split
        · rename_i hn
          obtain ⟨aa, dx, C', vs, g', rfl, hc', hi, hd, hl, rp⟩ := r.objS eF eB
          rw [hC] at hc'
          cases hc'
          obtain ⟨vv, g2, h1, h2⟩ := look_at rp el
          exact ⟨vv, rep_v h2 hn, fun Q hq => ⟨aa, dx, _, rfl, hi, aa, dx, _, vv, rfl, hi, h1, hq⟩⟩
        · trivial
    · trivial
  | _ => trivial
theorem g_prop {k : Nat} {C pp gg : Addr} {fd : FuncData} {ps : List Str} {c m fl : Str} (hC : G.C c = some C) (cl : Cls X.K C) (hp : PropOf X.K C m pp gg) (F : FnOk X.prog X.w X.K X.mg X.base CX0 k gg fd ps (getSp C fl)) (hr : Room (k + 1) X.A) (hb : Binds X.K fd ps [])
    (ho : GO X G W tc e o) (hab : attributeBase e m X.env (eval e X.env) = eval e X.env := by rfl) : GE X G W tc (.Attribute e m pos) (dOp1 (pFld c fl) o) :=
  tun_of (p1_prop (E := fun _ _ _ => False) hC) ho fun _ h => pe_prop h cl hp F hr hb .nil pass0 hab
end
end Cs
namespace Cs
open PySem L2 Evl PyProof.Rows
/-! ## t.index(z), t a tuple of texts -/
theorem StT.is {X : Cx} {pins : List (Addr × Obj)} {σ : L2.St} {H : Hp} {s : Shared} {p : Addr} {vs : List V} (I : Inv X pins σ H s) (h : StT X.K H p vs) : s.TypeIs (.ref p) "tuple" ∧ ∀ a, Value.ref p = .ref a → ∃ ob, s.heap.get? a = some ob ∧ ob.dict = none := by
  rcases h with ⟨o, h, hd⟩ | ⟨o, its, n, h1, h2, _, _, _, hd⟩
  · obtain ⟨e, _, _, _, ⟨o', e', hc, _⟩⟩ := (show ObjOk X.prog X.w H s.heap p (.frz o (.tup vs)) from I.hok p _ h)
    rw [e] at e'
    cases e'
    exact ⟨⟨o, e, hc⟩, fun a q => by cases q; exact ⟨o, e, hd⟩⟩
  · exact ⟨⟨o, I.kIn p o h1, h2⟩, fun a q => by cases q; exact ⟨o, I.kIn p o h1, hd⟩⟩
def tTM (K : PySem.W.Frag) (r : V → List V → Hp → VK → Prop) (to : TE) (t : TA) : TE := fun σ H Q => to σ H fun x H1 => (∃ p vs, x = .ref p ∧ StT K H1 p vs) ∧ t σ H1 fun xs H2 => r x xs H2 Q
theorem pe_tm {X : Cx} {o e : Expr} {es : List Expr} {to : TE} {t : TA} {name : Str} {apos cpos : Pos} {id : String} {r : V → List V → Hp → VK → Prop} (slot : Slot "tuple" name id) (hty : typeOf (.builtin id) = pure (.type "method_descriptor")) (hm : MtR X id r) (ho : PE X o to) (ha : PA X (e :: es) t)
    (hbase : attributeBase o name X.env (eval o X.env) = eval o X.env := by rfl)
    (hfew : ((backTo cpos (starEach (e :: es) X.env)).all (fun x => !x.1) && (backToKw cpos (keywordEach [] X.env)).all (fun x => x.1.isSome) && decide ((e :: es).length + ([] : List Keyword).length + (if ([] : List Keyword).isEmpty then 0 else 1) < 30)) = true := by rfl)
    (hline : (apos.endLine == cpos.line) = true := by rfl) (hs : starEach (e :: es) X.env = (false, eval e X.env) :: starEach es X.env := by rfl) (hplain : (backTo cpos (starEach es X.env)).any (·.1) = false := by rfl) :
    PE X (.Call (.Attribute o name apos) (e :: es) [] cpos) (tTM X.K r to t) := by
  constructor
  intro pins s σ H Q I h
  refine wpAny_Call_method_late hbase hfew hline rfl (thn (ho.run pins s σ H _ I h) ?_)
  rintro v s1 ⟨x, H1, I1, r1, ⟨p, vs, rfl, st⟩, q1⟩
  cases r1
  obtain ⟨h1, h2⟩ := st.is I1
  refine ⟨"tuple", id, PySem.F.plainAttrs_tuple, slot, hty, h1, h2, ?_⟩
  have hA := ha.run cpos pins s1 σ H1 _ I1 q1
  rw [hs] at hA ⊢
  refine Calls.callWith_builtin (by show (false || (backTo cpos (starEach es X.env)).any (·.1)) = false; rw [hplain] <;> rfl) (Calls.evalArgs_plain (thn hA ?_))
  rintro us s2 ⟨vs, H2, I2, r2, q2⟩
  exact hm pins s2 σ H2 (.ref p) vs _ us Q I2 rfl r2 q2
def allStr : List D → Option (List Str)
  | [] => some []
  | .str z :: ds => (allStr ds).map (z :: ·)
  | _ => none
def ixS (z : Str) : List Str → Option Nat
  | [] => none
  | y :: ys => if y = z then some 0 else (ixS z ys).map (· + 1)
theorem ixS_some {z : Str} : ∀ {ys : List Str} {j : Nat}, ixS z ys = some j → ys[j]? = some z ∧ ∀ m, m < j → ys[m]? ≠ some z
  | [], j, h => by cases h
  | y :: ys, j, h => by
    unfold ixS at h
    split at h
    · rename_i e
      cases h
      exact ⟨by rw [e]; rfl, fun m hm => by omega⟩
    · rename_i e
      cases ej : ixS z ys with
      | none => rw [ej] at h; cases h
      | some i =>
        rw [ej] at h
        cases h
        obtain ⟨h1, h2⟩ := ixS_some ej
        refine ⟨h1, fun m hm => ?_⟩
        cases m with
        | zero => intro q; exact e (by simpa using q)
        | succ m => exact h2 m (Nat.lt_of_succ_lt_succ hm)
theorem allStr_reps {T : Tx} {B H F : Hp} : ∀ {ds : List D} {vs : List V} {g : List Addr} {ys : List Str}, Reps T B H F ds vs g → allStr ds = some ys → vs = ys.map V.str
  | _, _, _, ys, .nil, h => by
    cases (show some [] = some ys from h)
    rfl
  | d :: ds, _, _, ys, .cons r rs e, h => by
    cases d with
    | str z =>
      unfold allStr at h
      cases ea : allStr ds with
      | none => rw [ea] at h; cases h
      | some zs =>
        rw [ea] at h
        cases h
        cases r
        rw [allStr_reps rs ea]
        rfl
    | _ => cases h
def dTix (f g : M D) : M D := bnd f fun x => match x with
  | .tup xs => bnd g fun y => (match allStr xs, y with
    | some ys, .str z => (match ixS z ys with
      | some j => ret (.int (j : Int))
      | none => bad)
    | _, _ => bad)
  | _ => bad
section
variable {X : Cx} {G : Gx} {W : WX} {t1 t2 : List Nat} {o e : Expr} {apos cpos : Pos} {f g : M D}
theorem g_tix (h1 : GE X G W t1 o f) (h2 : GE X G W t2 e g) (hbase : attributeBase o "index" X.env (eval o X.env) = eval o X.env := by rfl)
    (hfew : ((backTo cpos (starEach [e] X.env)).all (fun x => !x.1) && (backToKw cpos (keywordEach [] X.env)).all (fun x => x.1.isSome) && decide ([e].length + ([] : List Keyword).length + (if ([] : List Keyword).isEmpty then 0 else 1) < 30)) = true := by rfl)
    (hline : (apos.endLine == cpos.line) = true := by rfl) (hs : starEach [e] X.env = (false, eval e X.env) :: starEach [] X.env := by rfl) (hplain : (backTo cpos (starEach [] X.env)).any (·.1) = false := by rfl) :
    GE X G W (t1 ++ t2) (.Call (.Attribute o "index" apos) [e] [] cpos) (dTix f g) :=
  pe_mono (pe_tm PySem.F.slot_tuple_index PySem.F.type_tuple_index mt_tup_index h1 (pa_cons h2 pa_nil hs) hbase hfew hline hs hplain) fun σ H Q ⟨B, s, e1, e2, rl, hp⟩ => by
    subst e1 e2
    refine seqE rl hp fun d v s1 g1 _ hs1 r1 tA a1 hp => ?_
    cases d with
    | tup xs =>
      obtain ⟨rp, nd, ap, dj⟩ := tA
      have rp0 := rp
      cases rp with
      | tup st rs =>
        rename_i a vs
        refine ⟨⟨a, vs, rfl, st.mono r1.exF⟩, ?_⟩
        have tA : Tmp (tx X G) B s1.H s1.F s1.φ (.tup xs) (.ref a) g1 := ⟨rp0, nd, ap, dj⟩
        show tD (tx X G) W t2 g s.σ s1.H _
        rw [← hs1]
        refine seqE2 a1 hs1 r1 hp fun d2 v2 s2 g2 _ hs2 r2 tB a2 hp => ?_
        cases ea : allStr xs with
        | none => rw [ea] at hp; exact hp.elim
        | some ys =>
          rw [ea] at hp
          cases d2 with
          | str z =>
            dsimp only at hp
            cases ej : ixS z ys with
            | none => rw [ej] at hp; exact hp.elim
            | some j =>
              rw [ej] at hp
              obtain ⟨h3, h4⟩ := ixS_some ej
              obtain ⟨rp2, _, _, _⟩ := tB
              cases rp2
              have ev := allStr_reps rs ea
              have hok : okE (tx X G) B (t1 ++ t2) s Q (.int (j : Int)) s2.ρ := hp
              refine ⟨a, ys, z, j, rfl, rfl, ?_, h3, h4, hok (.int j) s2 [] rfl (hs2.trans hs1) r2 (Tmp.flat (.int _)) (a1.trans a2).drop0⟩
              have z1 := (st.mono (a2.step.ext)).sq
              rw [ev] at z1
              exact ex_t r2.exF z1
          | _ => exact hp.elim
    | _ => exact hp.elim
end
end Cs
namespace Cs
open PySem L2 Evl PyProof.Rows
/-! ## xs[j].clear() -/
def clrAt2 (j : D) (xs : List D) : Option (List D) := (inner j xs).bind fun (n, _) => some (xs.set n (.lst .ow []))
def dClr2 (i : Nat) (fj : M D) : M Flw := bnd (dPk i) fun _ => bnd fj fun j => dMutL i (clrAt2 j)
section
variable {X : Cx} {G : Gx} {W : WX} {t2 : List Nat} {b : Expr} {pos pos2 apos cpos p : Pos} {w : M D} {i : Nat} {x : Str}
end
end Cs
namespace Cs
open PySem L2 Evl PyProof.Rows
/-! ## operators of an own class -/
section
variable {X : Cx} {a b : Expr} {ta tb : TE} {pos : Pos} {r : L2.St → R2}
end
/-- the class at C has the special method m, the def at f -/
structure Spc (K : PySem.W.Frag) (C : Addr) (m : Str) (f : Addr) : Prop where
  at_ : PySem.W.findIn K (.ref C) m = some (some (.ref f))
  fn : PySem.W.typeIn K (.ref f) = some (.type "function")
theorem Spc.of {K : PySem.W.Frag} {C f : Addr} {m : Str} (h : Meth K C m f) : Spc K C m f := ⟨h.at_, beq_iff_eq.mp h.fn⟩
section
variable {X : Cx} {C f : Addr} {k : Nat} {fd : FuncData} {ps : List Str} {sp : Sp} {E : L2.St → XK}
end
end Cs
namespace Cs
open PySem L2 Evl PyProof.Rows
/-! ## operators of an own class: their meanings -/
def isIns (c : Str) : D → Bool
  | .obj _ c' _ _ => c' == c
  | _ => false
def okC : List (Option Str) → List D → Bool
  | [], _ => true
  | none :: r, _ :: ds => okC r ds
  | some c :: r, d :: ds => isIns c d && okC r ds
  | _ :: _, [] => false
/-- the items, the first two the other way round if asked -/
def sw2 {α : Type} : Bool → List α → List α
  | true, [a, b] => [b, a]
  | _, l => l
def dOwn (cks : List (Option Str)) (sw : Bool) (mn : List D → Res) (ars : List Arg) : M D := bnd (dArs ars) fun ods ρ => match argD ρ ars ods with
  | none => .bad
  | some ds => if okC cks ds = true then callD mn (sw2 sw ars) (sw2 sw ods) ρ else .bad
section
variable {T : Tx} {B : Hp} {W : WX}
theorem Its.cut {s : S5} {a : Arg} {r : List Arg} {ods : List (Option D)} {vs : List V} {g : List Addr} (h : Its T B s (a :: r) ods vs g) : ∃ x ods' u vs' g1 g2, ods = x :: ods' ∧ vs = u :: vs' ∧ g = g1 ++ g2 ∧ Its T B s r ods' vs' g2 ∧
    ∀ {r' : List Arg} {ods2 : List (Option D)} {vs2 : List V} {g' : List Addr}, Its T B s r' ods2 vs2 g' → Its T B s (a :: r') (x :: ods2) (u :: vs2) (g1 ++ g') := by
  cases h with
  | v h t => exact ⟨_, _, _, _, _, _, rfl, rfl, rfl, t, fun q => .v h q⟩
  | l h t => exact ⟨_, _, _, _, [], _, rfl, rfl, rfl, t, fun q => .l h q⟩
  | io h t => exact ⟨_, _, _, _, [], _, rfl, rfl, rfl, t, fun q => .io h q⟩
theorem ItsT.sw {s : S5} {ars : List Arg} {ods : List (Option D)} {vs : List V} {g : List Addr} (h : ItsT T B s ars ods vs g) (sw : Bool) (hl : sw = true → ars.length = 2) : ∃ g', ItsT T B s (sw2 sw ars) (sw2 sw ods) (sw2 sw vs) g' ∧ ∀ x, x ∈ g' → x ∈ g := by
  cases sw with
  | false =>
    have e : ∀ {α : Type} (l : List α), sw2 false l = l := fun l => by unfold sw2; split <;> first | rfl | contradiction
    rw [e, e, e]
    exact ⟨g, h, fun _ q => q⟩
  | true =>
    have hl := hl rfl
    match ars, hl with
    | [a, b], _ =>
      obtain ⟨it, nd, ap, dj⟩ := h
      obtain ⟨x, ods', u, vs', g1, g2, rfl, rfl, rfl, it2, k1⟩ := it.cut
      obtain ⟨y, ods2, w, vs2, g3, g4, rfl, rfl, rfl, it3, k2⟩ := it2.cut
      cases it3
      refine ⟨g3 ++ (g1 ++ []), ⟨k2 (k1 .nil), ?_, fun z q => ap z ?_, fun z q => dj z ?_⟩, fun z q => ?_⟩
      · have nd := nd
        simp only [List.append_nil] at nd ⊢
        exact (List.perm_append_comm (l₁ := g1) (l₂ := g3)).nodup_iff.mp nd
      all_goals
        simp only [List.append_nil, List.mem_append] at q ⊢
        exact q.symm
/-! the answer looked at -/
def onlyIf (P : D → Bool) (mn : List D → Res) : List D → Res := fun ds => match mn ds with
  | .ok d os => if P d = true then .ok d os else .bad
  | r => r
def negR (mn : List D → Res) : List D → Res := fun ds => match mn ds with
  | .ok (.bl b) os => .ok (.bl (!b)) os
  | .ok _ _ => .bad
  | r => r
def isBl : D → Bool
  | .bl _ => true
  | _ => false
def isLn : D → Bool
  | .int n => decide (0 ≤ n) && decide (n < 9223372036854775808)
  | _ => false
end
section
variable {X : Cx} {G : Gx} {W : WX} {a b : Expr} {r1 r2 : Arg} {pos p : Pos} {c : Str} {C f : Addr} {k : Nat} {fd : FuncData} {ps : List Str} {mn : List D → Res}
end
end Cs
namespace Cs
open PySem L2 Evl PyProof.Rows
/-- a def with defaults, every parameter written -/
theorem bindsAll {K : PySem.W.Frag} {x qual : Str} {params : Arguments} {body : List Stmt} {scope : Scope} {dvs : List V} {f : Addr} {fd : FuncData} {ps : List Str} (F : FunD K x qual params body scope dvs [] f fd) (n : Nat) (hd : dvs ≠ []) (hn : n = ps.length)
    (h : ∀ (T : Addr) (kV doc pm : Value) (an : Option Addr) (cdv ct : Value) (us its : List Value), us.length = n → its.length = dvs.length →
      ∃ k, bindArgs (PySem.W.fnOf x qual params body scope (.ref T) kV doc pm an cdv ct) ⟨us, []⟩ = seqItems? (.ref T) >>= k ∧ k (some its.toArray) = pure (ps.zip us)) : Binds K fd ps [] := by
  obtain ⟨ds, hv, hb⟩ := F.binds1 (ps := ps) n dvs.length hd (by omega) fun T kV doc pm an cdv ct us its h1 h2 => by
    obtain ⟨k, e1, e2⟩ := h T kV doc pm an cdv ct us its h1 h2
    refine ⟨k, e1, ?_⟩
    rw [e2, ← h2, List.drop_length, List.append_nil]
  rw [List.drop_length] at hv
  cases hv
  exact hb
/-- a property that hands out a field -/
theorem getter_ok {P : Program} {w : World} {K : PySem.W.Frag} {mg : Str → Option Value} {base : Heap} {x qual f : Str} {st : Stmt} {fa C : Addr} {fd : FuncData} {p1 p2 p3 : Pos} {N : List Str} (F : Fun K x qual st fa fd) (S : FnScope N ["self"] (defScope st)) (hN : N[0]? = some ("self" : Str))
    (hb : defBody st = [.Return (some (.Attribute (.Name "self" p1) f p2)) p3]) (c : Cls K C) (n : NoAttr K C f) : FnOk P w K mg base CX0 1 fa fd ["self"] (getSp C f) := by
  obtain ⟨⟨oc, od, kV, doc, pm, an, cdv, ct, osl, rfl, lk, hcd⟩, kp⟩ := F
  exact fn_getter lk hcd S hN hb c n
theorem gs_tc {X : Cx} {G : Gx} {W : WX} {st : Stmt} {f : M Flw} (tc : List Nat) (h : GS X G W tc st f) : GS X G W tc st f := h
end Cs
namespace Cs
open L2
/-! lists of ints, lists of lists of ints -/
abbrev L1 (o : Fl) (xs : List Int) : D := .lst o (xs.map D.int)
@[simp] theorem allFs_L1 {p : Fl → Bool} {o : Fl} : ∀ {xss : List (List Int)}, allFs p (xss.map (L1 o)) = (xss.isEmpty || p o)
  | [] => rfl
  | x :: xss => by
    rw [List.map_cons, allFs, allFs_L1, allF_l, allFs_ints]
    cases p o <;> simp
@[simp] theorem mapFs_L1 {g : Fl → Fl} {o : Fl} : ∀ {xss : List (List Int)}, mapFs g (xss.map (L1 o)) = xss.map (L1 (g o))
  | [] => by rw [List.map_nil, mapFs]; rfl
  | x :: xss => by rw [List.map_cons, mapFs, mapFs_L1, mapF_l, mapFs_ints]; rfl
theorem mapFs_append {g : Fl → Fl} : ∀ {xs ys : List D}, mapFs g (xs ++ ys) = mapFs g xs ++ mapFs g ys
  | [], ys => by rw [mapFs]; rfl
  | x :: xs, ys => by rw [List.cons_append, mapFs, mapFs, mapFs_append]; rfl
theorem allFs_append {p : Fl → Bool} : ∀ {xs ys : List D}, allFs p (xs ++ ys) = (allFs p xs && allFs p ys)
  | [], ys => by rw [allFs]; rfl
  | x :: xs, ys => by rw [List.cons_append, allFs, allFs, allFs_append, Bool.and_assoc]
theorem atI_ints {cs : List Int} {i : Int} (h0 : 0 ≤ i) (h1 : i < cs.length) : ∃ c, L2.atI (cs.map D.int) i = some (.int c) := by
  obtain ⟨n, rfl⟩ : ∃ n : Nat, i = (n : Int) := ⟨i.toNat, by omega⟩
  have hn : n < cs.length := by omega
  refine ⟨cs[n], ?_⟩
  rw [atI_n, List.getElem?_map, List.getElem?_eq_getElem hn]
  rfl
theorem outs_02 {d : D} {x : Sl} {r : En} (h : allF noBo d = true) : outs [0] 2 (.dt d :: x :: r) = [.dt d, .un] := by
  simp [outs, List.range_succ, h]
def cutI {α : Type} (xs : List α) (lo hi : Option Int) : List α := (xs.drop (HT.sIx xs.length 0 lo)).take (HT.sIx xs.length xs.length hi - HT.sIx xs.length 0 lo)
@[simp] theorem cutD_ints {xs : List Int} {lo hi : Option Int} : cutD (xs.map D.int) lo hi = (cutI xs lo hi).map D.int := by
  unfold cutD cutI
  rw [List.length_map, List.map_take, List.map_drop]
/-- the drawing box -/
def box (cs : List Int) (at_ big seed : Int) : D := .lst .ow [.lst .fr (cs.map D.int), .int at_, .int big, .int seed]
def BoxP (d : D) : Prop := ∃ cs a b s, d = box cs a b s ∧ 0 ≤ a ∧ 0 ≤ b
theorem BoxP.noBo {d : D} (h : BoxP d) : allF noBo d = true := by
  obtain ⟨cs, a, b, s, rfl, _, _⟩ := h
  simp [box]
end Cs
namespace Cs
open L2
open PySem (Str)
abbrev XK0 := Str → List Str → List D → En → Prop
section
variable {α : Type} {X : XK0} {ρ : En} {p : Fl → Bool} {g : Fl → Fl}
/-! texts -/
@[simp] theorem allFs_strs : ∀ {zs : List Str}, allFs p (zs.map D.str) = true
  | [] => rfl
  | z :: zs => by rw [List.map_cons, allFs, allFs_strs]; rfl
@[simp] theorem mapF_str {z : Str} : mapF g (.str z) = .str z := by rw [mapF]
@[simp] theorem mapF_bl {b : Bool} : mapF g (.bl b) = .bl b := by rw [mapF]
@[simp] theorem mapF_non : mapF g .non = .non := by rw [mapF]
@[simp] theorem mapF_t {xs : List D} : mapF g (.tup xs) = .tup (mapFs g xs) := by rw [mapF]
@[simp] theorem mapF_o {o : Fl} {c : Str} {ks : List Str} {xs : List D} : mapF g (.obj o c ks xs) = .obj (g o) c ks (mapFs g xs) := by rw [mapF]
@[simp] theorem mapF_d {o : Fl} {ks : List Str} {xs : List D} : mapF g (.dct o ks xs) = .dct (g o) ks (mapFs g xs) := by rw [mapF]
@[simp] theorem allF_o {o : Fl} {c : Str} {ks : List Str} {xs : List D} : allF p (.obj o c ks xs) = (p o && allFs p xs) := by rw [allF]
@[simp] theorem allF_d {o : Fl} {ks : List Str} {xs : List D} : allF p (.dct o ks xs) = (p o && allFs p xs) := by rw [allF]
@[simp] theorem mapFs_strs : ∀ {zs : List Str}, mapFs g (zs.map D.str) = zs.map D.str
  | [] => by rw [List.map_nil, mapFs]
  | z :: zs => by rw [List.map_cons, mapFs, mapFs_strs, mapF_str]
abbrev pr2 (p : Str × Str) : D := .tup [.str p.1, .str p.2]
@[simp] theorem allFs_pr2 : ∀ {ps : List (Str × Str)}, allFs p (ps.map pr2) = true
  | [] => rfl
  | z :: zs => by rw [List.map_cons, allFs, allFs_pr2]; rfl
@[simp] theorem mapFs_pr2 : ∀ {ps : List (Str × Str)}, mapFs g (ps.map pr2) = ps.map pr2
  | [] => by rw [List.map_nil, mapFs]
  | z :: zs => by rw [List.map_cons, mapFs, mapFs_pr2, mapF_t, mapFs, mapFs, mapFs, mapF_str, mapF_str]
@[simp] theorem pLen_t {xs : List D} : pLen (.tup xs) = .sc (.int xs.length) := rfl
@[simp] theorem pLen_s {z : Str} : pLen (.str z) = if z.length ≤ lim then .sc (.int z.length) else .bad := rfl
@[simp] theorem pList_t {xs : List D} : pList (.tup xs) = if allFs noOw xs = true then .nl xs else .bad := rfl
@[simp] theorem pTuple_l {o : Fl} {xs : List D} : pTuple (.lst o xs) = if allFs noOw xs = true then .nt xs else .bad := rfl
@[simp] theorem pTuple_t {xs : List D} : pTuple (.tup xs) = if allFs noOw xs = true then .sc (.tup xs) else .bad := rfl
@[simp] theorem pAdd_s {a b : Str} : pAdd (.str a) (.str b) = if a.length + b.length ≤ lim then .sc (.str (a ++ b)) else .bad := rfl
theorem pAdd_l {o o' : Fl} {xs ys : List D} : pAdd (.lst o xs) (.lst o' ys) = if (o ≠ .ro ∧ o' ≠ .ro) ∧ (allFs noOw xs = true ∧ allFs noOw ys = true) ∧ xs.length + ys.length ≤ lim then .nl (xs ++ ys) else .bad := rfl
@[simp] theorem itemsOf_s {z : Str} : itemsOf (.str z) = some (signs z) := rfl
def sgW (o : Option Nat) : PR := match o with
  | some c => .sc (.str ⟨#[c]⟩)
  | none => .bad
@[simp] theorem sgW_some {c : Nat} : sgW (some c) = .sc (.str ⟨#[c]⟩) := rfl
@[simp] theorem pIx_s {z : Str} {i : Int} : pIx (.str z) (.int i) = if z.length ≤ lim then sgW (L2.atI z.cps.toList i) else .bad := rfl
@[simp] theorem dep_str {z : Str} : dep (.str z) = 0 := rfl
@[simp] theorem dep_bl {z : Bool} : dep (.bl z) = 0 := rfl
@[simp] theorem dep_non : dep .non = 0 := rfl
@[simp] theorem dep_tup {xs : List D} : dep (.tup xs) = deps xs + 1 := by rw [dep]
@[simp] theorem deps_nil : deps [] = 0 := rfl
@[simp] theorem deps_cons {x : D} {xs : List D} : deps (x :: xs) = max (dep x) (deps xs) := by rw [deps]
@[simp] theorem deps_strs : ∀ {zs : List Str}, deps (zs.map D.str) = 0
  | [] => rfl
  | z :: zs => by rw [List.map_cons, deps, deps_strs]; rfl
theorem any_strs {z : Str} : ∀ {zs : List Str}, ((zs.map D.str).any fun y => eqD y (.str z)) = decide (z ∈ zs)
  | [] => rfl
  | y :: zs => by
    rw [List.map_cons, List.any_cons, any_strs, eqD_ss]
    by_cases h : y = z
    · subst h; simp
    · have h' : ¬ z = y := fun e => h e.symm
      simp [h, h']
@[simp] theorem pIn_ls {o : Fl} {z : Str} {zs : List Str} : pIn (.str z) (.lst o (zs.map D.str)) = .sc (.bl (decide (z ∈ zs))) := by
  unfold pIn
  dsimp only
  rw [if_pos (by simp), any_strs]
@[simp] theorem pNotIn_ls {o : Fl} {z : Str} {zs : List Str} : pNotIn (.str z) (.lst o (zs.map D.str)) = .sc (.bl (!decide (z ∈ zs))) := by
  unfold pNotIn
  dsimp only
  rw [if_pos (by simp), any_strs]
theorem all_flat : ∀ {zs : List Str}, (zs.map D.str).all flat = true
  | [] => rfl
  | z :: zs => by rw [List.map_cons, List.all_cons, all_flat]; rfl
@[simp] theorem pIn_ts {z : Str} {zs : List Str} : pIn (.str z) (.tup (zs.map D.str)) = .sc (.bl (decide (z ∈ zs))) := by
  unfold pIn
  dsimp only
  rw [if_pos ⟨rfl, all_flat⟩, any_strs]
@[simp] theorem pNotIn_ts {z : Str} {zs : List Str} : pNotIn (.str z) (.tup (zs.map D.str)) = .sc (.bl (!decide (z ∈ zs))) := by
  unfold pNotIn
  dsimp only
  rw [if_pos ⟨rfl, all_flat⟩, any_strs]
@[simp] theorem pNotIn_sg {c : Nat} {z : Str} : pNotIn (.str ⟨#[c]⟩) (.str z) = .sc (.bl (!decide (c ∈ z.cps.toList))) := by
  unfold pNotIn
  dsimp only
  rw [if_pos (show #[c].size = 1 from rfl)]
  rfl
theorem signs_get {z : Str} {k : Nat} {d : D} (h : (signs z)[k]? = some d) : ∃ c, z.cps.toList[k]? = some c ∧ d = .str ⟨#[c]⟩ := by
  unfold signs at h
  rw [List.getElem?_map] at h
  cases e : z.cps.toList[k]? with
  | none => rw [e] at h; cases h
  | some c => rw [e] at h; exact ⟨c, rfl, (Option.some.inj h).symm⟩
@[simp] theorem signs_len {z : Str} : (signs z).length = z.length := by simp [signs, Str.length]
@[simp] theorem cutD_strs {xs : List Str} {lo hi : Option Int} : cutD (xs.map D.str) lo hi = (cutI xs lo hi).map D.str := by
  unfold cutD cutI
  rw [List.length_map, List.map_take, List.map_drop]
@[simp] theorem pShl_i {i j : Int} : pShl (.int i) (.int j) = if 0 ≤ j ∧ j ≤ 1000000 ∧ i.natAbs < 2 ^ 64 then .sc (.int (i * 2 ^ j.toNat)) else .bad := rfl
@[simp] theorem pShr_i {i j : Int} : pShr (.int i) (.int j) = if 0 ≤ j then .sc (.int (i / 2 ^ j.toNat)) else .bad := rfl
@[simp] theorem pBand_i {i j : Int} : pBand (.int i) (.int j) = .sc (.int (PySem.Builtin.bitAnd i j)) := rfl
@[simp] theorem pBor_i {i j : Int} : pBor (.int i) (.int j) = .sc (.int (PySem.Builtin.bitOr i j)) := rfl
/-! displays, chains, objects -/
@[simp] theorem post_tup {f : M (List D)} {Q : D → En → Prop} : Post Q X (dTup f ρ) = Post (fun ds ρ1 => ds.length ≤ lim ∧ Q (.tup ds) ρ1) X (f ρ) := by
  unfold dTup
  rw [post_bnd]
  congr 1
  funext ds ρ1
  rw [post_ite]
  rfl
def chW (p : PR) (K : Bool → Prop) : Prop := match p with
  | .sc (.bl b) => K b
  | _ => False
@[simp] theorem chW_bl {b : Bool} {K : Bool → Prop} : chW (.sc (.bl b)) K = K b := rfl
@[simp] theorem post_chn {p q : D → D → PR} {f g h : M D} {Q : D → En → Prop} : Post Q X (dChn p q f g h ρ) = Post (fun x ρ1 => Post (fun y ρ2 => chW (p x y) fun b => if b = true then Post (fun z ρ3 => prW (q y z) fun d => Q d ρ3) X (h ρ2) else Q (.bl false) ρ2) X (g ρ1)) X (f ρ) := by
  unfold dChn
  simp only [post_bnd]
  congr 1
  funext x ρ1
  congr 1
  funext y ρ2
  unfold chn
  cases p x y with
  | sc d =>
    cases d with
    | bl b => cases b <;> simp
    | _ => rfl
  | _ => rfl
def opW {α : Type} (o : Option α) (K : α → Prop) : Prop := match o with
  | some d => K d
  | none => False
@[simp] theorem opW_some {α : Type} {d : α} {K : α → Prop} : opW (some d) K = K d := rfl
@[simp] theorem opW_none {α : Type} {K : α → Prop} : opW (none : Option α) K = False := rfl
@[simp] theorem opW_if {α : Type} {c : Prop} [Decidable c] {d : α} {K : α → Prop} : opW (if c then some d else none) K = (c ∧ K d) := by
  by_cases h : c <;> simp [h]
@[simp] theorem post_setF {i : Nat} {c f : Str} {u : M D} {Q : Flw → En → Prop} : Post Q X (dSetF i c f u ρ) = Post (fun d ρ1 => slW (slot i ρ1) fun o => opW (setF c f d o) fun o' => Q .nx (ρ1.set i (.dt o'))) X (u ρ) := by
  unfold dSetF
  rw [post_bnd]
  congr 1
  funext d ρ1
  cases slot i ρ1 with
  | none => rfl
  | some o =>
    dsimp only [slW_some]
    cases setF c f d o <;> rfl
@[simp] theorem setF_o {c f c' : Str} {d : D} {ks : List Str} {ds : List D} : setF c f d (.obj .ow c' ks ds) = if c' = c ∧ ks.length < 900 then some (.obj .ow c (putL f d ks ds).1 (putL f d ks ds).2) else none := rfl
/-- a new instance -/
def mkW (r : Res) (K : D → En → Prop) (E : XK0) : Prop := match r with
  | .ok .non (.dt o :: os) => K o os
  | .exc c ks xs (_ :: os) => E c ks xs os
  | _ => False
@[simp] theorem post_make {c : Str} {m : List D → Res} {ars : List Arg} {Q : D → En → Prop} : Post Q X (dMake c m ars ρ) = Post (fun ods ρ1 => argW (argD ρ1 ars ods) fun ds => mkW (m (.obj .ow c [] [] :: ds)) (fun o os => Q o (wb ars os ρ1)) (fun c ks xs os => X c ks xs (wb ars os ρ1))) X (dArs ars ρ) := by
  unfold dMake
  rw [post_bnd]
  congr 1
  funext ods ρ1
  cases argD ρ1 ars ods with
  | none => rfl
  | some ds =>
    dsimp only [argW_some]
    cases m (.obj .ow c [] [] :: ds) with
    | bad => rfl
    | ok d os =>
      cases d <;> first | rfl | skip
      cases os with
      | nil => rfl
      | cons s os => cases s <;> rfl
    | exc c ks xs os => cases os <;> rfl
theorem mkW_of {r : Res} {K : D → En → Prop} {E : XK0} (h : resW r (fun d os => d = .non ∧ ∃ o os', os = .dt o :: os' ∧ K o os') (fun c ks xs os => ∃ s os', os = s :: os' ∧ E c ks xs os')) : mkW r K E := by
  cases r with
  | bad => exact h.elim
  | ok d os =>
    obtain ⟨rfl, o, os', rfl, h⟩ := h
    exact h
  | exc c ks xs os =>
    obtain ⟨s, os', rfl, h⟩ := h
    exact h
/-- methods -/
@[simp] theorem post_methL {c m : Str} {mn : List D → Res} {i : Nat} {tc : List Nat} {ars : List Arg} {Q : D → En → Prop} : Post Q X (dMeth c m mn (.l i, tc) ars ρ) = slW (slot i ρ) fun d => isObj c m d = true ∧ Post Q X (dCall mn ((.l i, tc) :: ars) ρ) := by
  show Post Q X (match slot i ρ with
    | some d => if isObj c m d = true then dCall mn ((.l i, tc) :: ars) ρ else .bad
    | none => .bad) = _
  cases slot i ρ with
  | none => rfl
  | some d =>
    dsimp only [slW_some]
    by_cases h : isObj c m d = true
    · rw [if_pos h]; simp only [h, true_and]
    · rw [if_neg h]; simp only [h]; simp
@[simp] theorem post_methIO {c m : Str} {mn : List D → Res} {i : Nat} {tc : List Nat} {ars : List Arg} {Q : D → En → Prop} : Post Q X (dMeth c m mn (.io i, tc) ars ρ) = slW (slot i ρ) fun d => isObj c m d = true ∧ Post Q X (dCall mn ((.io i, tc) :: ars) ρ) := by
  show Post Q X (match slot i ρ with
    | some d => if isObj c m d = true then dCall mn ((.io i, tc) :: ars) ρ else .bad
    | none => .bad) = _
  cases slot i ρ with
  | none => rfl
  | some d =>
    dsimp only [slW_some]
    by_cases h : isObj c m d = true
    · rw [if_pos h]; simp only [h, true_and]
    · rw [if_neg h]; simp only [h]; simp
theorem pFld_o {o : Fl} {c f : Str} {ks : List Str} {ds : List D} : pFld c f (.obj o c ks ds) = ixW (look f ks ds) := by
  unfold pFld
  dsimp only
  rw [if_pos rfl]
  rfl
/-! enumerate, dict comprehensions -/
def tuW (d : D) (K : List D → Prop) : Prop := match d with
  | .tup xs => K xs
  | _ => False
@[simp] theorem tuW_t {xs : List D} {K : List D → Prop} : tuW (.tup xs) K = K xs := rfl
@[simp] theorem post_enT {f : M D} {Q : List D → En → Prop} : Post Q X (dEnT f ρ) = Post (fun d ρ1 => tuW (mapF flFrz d) fun xs => Q (numb 0 xs) ρ1) X (f ρ) := by
  unfold dEnT
  rw [post_bnd, post_fz]
  congr 1
  funext d ρ1
  cases mapF flFrz d <;> rfl
theorem post_dc {src : M (List D)} {tg : Tg} {own : List Nat} {cond : M Bool} {key val : M D} {Q : D → En → Prop} : Post Q X (dDc src tg own cond key val ρ) = Post (fun ds ρ1 => noOwAt own ρ1 = true ∧ Post (fun xs ρ2 => Q (.dct .ow xs.1 xs.2) (rst own ρ1 ρ2)) N0 (dcL tg own cond key val ([], []) ds (fgt own ρ1))) X (src ρ) := by
  unfold dDc
  rw [post_bnd]
  congr 1
  funext ds ρ1
  by_cases h : noOwAt own ρ1 = true
  · simp only [h, if_true, true_and]
    cases dcL tg own cond key val ([], []) ds (fgt own ρ1) <;> rfl
  · rw [if_neg h]
    simp only [h]
    simp
def stW (d : D) (K : Str → Prop) : Prop := match d with
  | .str z => K z
  | _ => False
@[simp] theorem stW_s {z : Str} {K : Str → Prop} : stW (.str z) K = K z := rfl
theorem dc_inv {tg : Tg} {own : List Nat} {cond : M Bool} {key val : M D} : ∀ {ds : List D} {acc : List Str × List D} {ρ : En} (I : Nat → List Str × List D → En → Prop), I 0 acc ρ → (∀ k acc d ρ, ds[k]? = some d → I k acc ρ → tgW (dTg tg d ρ) fun ρ1 => Post (fun b ρ2 => if b = true then Post (fun kk ρ3 => stW kk fun z => Post (fun x ρ4 => (acc.1.length < lim ∧ allF noOw x = true) ∧ I (k + 1) (putD z x acc.1 acc.2) (fgt own ρ4)) N0 (val ρ3)) N0 (key ρ2) else I (k + 1) acc (fgt own ρ2)) N0 (cond ρ1)) → Post (fun acc ρ => I ds.length acc ρ) N0 (dcL tg own cond key val acc ds ρ)
  | [], acc, ρ, I, h0, _ => by
    unfold dcL
    exact h0
  | d :: ds, acc, ρ, I, h0, hs => by
    have z := hs 0 acc d ρ rfl h0
    unfold dcL
    cases et : dTg tg d ρ with
    | bad => rw [et] at z; exact z.elim
    | exc c ks xs ρ1 => rw [et] at z; exact z.elim
    | ok fl ρ1 =>
      rw [et] at z
      cases fl with
      | bk => exact z.elim
      | ct => exact z.elim
      | rt r => exact z.elim
      | nx =>
        have z : Post _ N0 (cond ρ1) := z
        dsimp only
        cases eb : cond ρ1 with
        | bad => rw [eb] at z; exact z.elim
        | exc c ks xs ρ2 => rw [eb] at z; exact z.elim
        | ok b ρ2 =>
          rw [eb] at z
          cases b with
          | false => exact dc_inv (fun k => I (k + 1)) z fun k acc d ρ e h => hs (k + 1) acc d ρ e h
          | true =>
            have z : Post _ N0 (key ρ2) := z
            dsimp only
            cases ek : key ρ2 with
            | bad => rw [ek] at z; exact z.elim
            | exc c ks xs ρ3 => rw [ek] at z; exact z.elim
            | ok kk ρ3 =>
              rw [ek] at z
              cases kk with
              | str zz =>
                have z : Post _ N0 (val ρ3) := z
                dsimp only
                cases ee : val ρ3 with
                | bad => rw [ee] at z; exact z.elim
                | exc c ks xs ρ4 => rw [ee] at z; exact z.elim
                | ok x ρ4 =>
                  rw [ee] at z
                  dsimp only
                  rw [if_pos z.1]
                  exact dc_inv (fun k => I (k + 1)) z.2 fun k acc d ρ e h => hs (k + 1) acc d ρ e h
              | _ => exact z.elim
theorem post_forL_nil {tg : Tg} {fg : List Nat} {body : M Flw} {Q : Flw → En → Prop} : Post Q X (forL tg fg body [] ρ) = Q .nx ρ := by
  unfold forL
  rfl
theorem post_forL_cons {tg : Tg} {fg : List Nat} {body : M Flw} {Q : Flw → En → Prop} {d : D} {ds : List D} : Post Q X (forL tg fg body (d :: ds) ρ) = tgW (dTg tg d ρ) (fun ρ1 => Post (forK (fun ρ2 => Post Q X (forL tg fg body ds ρ2)) Q fg) X (body ρ1)) := by
  rw [forL]
  dsimp only
  cases dTg tg d ρ with
  | bad => rfl
  | exc c ks xs ρ1 => rfl
  | ok fl ρ1 =>
    cases fl with
    | bk => rfl
    | ct => rfl
    | rt r => rfl
    | nx =>
      dsimp only
      show _ = Post _ X (body ρ1)
      cases body ρ1 with
      | bad => rfl
      | exc c ks xs ρ2 => rfl
      | ok fl ρ2 => cases fl <;> rfl
@[simp] theorem post_clr2 {i : Nat} {fj : M D} {Q : Flw → En → Prop} : Post Q X (dClr2 i fj ρ) = slW (slot i ρ) fun _ => Post (fun j ρ1 => mlW (slotL i ρ1) fun xs => mlW (clrAt2 j xs) fun ys => Q .nx (ρ1.set i (.dt (.lst .ow ys)))) X (fj ρ) := by
  unfold dClr2
  simp
@[simp] theorem pDix_d {o : Fl} {ks : List Str} {ds : List D} {k : Str} : pDix (.dct o ks ds) (.str k) = ixW (look k ks ds) := rfl
end
end Cs
namespace Cs
open PySem L2 Evl PyProof.Rows
/-! ## own operators, plainly -/
section
variable {X : Str → List Str → List D → En → Prop} {ρ : En}
@[simp] theorem post_own {cks : List (Option Str)} {sw : Bool} {m : List D → Res} {ars : List Arg} {Q : D → En → Prop} : Post Q X (dOwn cks sw m ars ρ) = Post (fun ods ρ1 => argW (argD ρ1 ars ods) fun ds => okC cks ds = true ∧ argW (argD ρ1 (sw2 sw ars) (sw2 sw ods)) fun ds' => resW (m ds') (fun d os => Q d (wb (sw2 sw ars) os ρ1)) (fun c ks xs os => X c ks xs (wb (sw2 sw ars) os ρ1))) X (dArs ars ρ) := by
  unfold dOwn
  rw [post_bnd]
  congr 1
  funext ods ρ1
  cases argD ρ1 ars ods with
  | none => rfl
  | some ds =>
    dsimp only [argW_some]
    by_cases h : okC cks ds = true
    · rw [if_pos h]
      unfold callD
      cases argD ρ1 (sw2 sw ars) (sw2 sw ods) with
      | none => simp [h]; exact fun z => z
      | some ds' =>
        dsimp only [argW_some]
        cases m ds' <;> simp [h] <;> first | rfl | exact fun z => z
    · rw [if_neg h]
      simp [h]
@[simp] theorem sw2_f {α : Type} {l : List α} : sw2 false l = l := by unfold sw2; split <;> first | rfl | contradiction
@[simp] theorem sw2_t {α : Type} {a b : α} : sw2 true [a, b] = [b, a] := rfl
@[simp] theorem okC_0 {ds : List D} : okC [] ds = true := by unfold okC; rfl
@[simp] theorem okC_n {r : List (Option Str)} {d : D} {ds : List D} : okC (none :: r) (d :: ds) = okC r ds := by rw [okC]
@[simp] theorem okC_s {c : Str} {r : List (Option Str)} {d : D} {ds : List D} : okC (some c :: r) (d :: ds) = (isIns c d && okC r ds) := by rw [okC]
@[simp] theorem isIns_o {o : Fl} {c : Str} {ks : List Str} {ds : List D} : isIns c (.obj o c ks ds) = true := by simp [isIns]
@[simp] theorem resW_only {P : D → Bool} {m : List D → Res} {ds : List D} {K : D → En → Prop} : resW (onlyIf P m ds) K X = resW (m ds) (fun d os => P d = true ∧ K d os) X := by
  unfold onlyIf
  cases m ds with
  | ok d os =>
    dsimp only
    by_cases h : P d = true
    · rw [if_pos h]; simp [h]
    · rw [if_neg h]; simp [h]; exact fun z => z
  | exc c ks xs os => rfl
  | bad => rfl
def notW (d : D) (K : D → Prop) : Prop := match d with
  | .bl b => K (.bl (!b))
  | _ => False
@[simp] theorem notW_b {b : Bool} {K : D → Prop} : notW (.bl b) K = K (.bl (!b)) := rfl
@[simp] theorem resW_neg {m : List D → Res} {ds : List D} {K : D → En → Prop} : resW (negR m ds) K X = resW (m ds) (fun d os => notW d fun e => K e os) X := by
  unfold negR
  cases m ds with
  | ok d os => cases d <;> rfl
  | exc c ks xs os => rfl
  | bad => rfl
@[simp] theorem isBl_b {b : Bool} : isBl (.bl b) = true := rfl
@[simp] theorem isLn_n {n : Nat} : isLn (.int (n : Int)) = decide (n < 9223372036854775808) := by
  unfold isLn
  have : (0 : Int) ≤ (n : Int) := by omega
  simp [this]
  omega
end
end Cs
namespace Cs
open PySem L2 Evl PyProof.Rows

/-! ## for x in xs, the items of an owned list, each handed over -/
def dForO (i j : Nat) (fg : List Nat) (body : M Flw) : M Flw := fun ρ => match slotL i ρ with
  | some xs => forL (.one j) fg body xs (ρ.set i .un)
  | none => .bad
section
variable {T : Tx} {B : Hp} {tc : List Nat} {s s1 : S5}
theorem Goes.putK {i : Nat} {d : D} {v : V} {g g2 : List Addr} (a : Goes tc s s1 (g ++ g2)) : Goes (tc ++ [i, i + 1000]) s (s1.put i v d g) g2 := by
  have z : Goes (tc ++ [i, i + 1000]) s (s1.put i v d g) [] := Goes.put (a.less fun c h => List.mem_append.mpr (.inl h))
  refine ⟨a.step.drop fun x q => ?_, z.fix, z.sg⟩
  rcases q with ⟨j, q⟩ | q
  · dsimp only at q
    split at q
    · exact .inr (List.mem_append.mpr (.inl q))
    · exact .inl ⟨j, q⟩
  · exact .inr (List.mem_append.mpr (.inr q))
end
section
variable {X : Cx} {G : Gx} {W : WX} {tb : List Nat} {tge : Expr} {pos p : Pos} {body : List Stmt} {f : M Flw} {i j : Nat} {x : Str}
@[simp] theorem post_forO {i j : Nat} {fg : List Nat} {body : M Flw} {Q : Flw → En → Prop} {X : Str → List Str → List D → En → Prop} {ρ : En} : Post Q X (dForO i j fg body ρ) = mlW (slotL i ρ) fun xs => Post Q X (forL (.one j) fg body xs (ρ.set i .un)) := by
  unfold dForO
  cases slotL i ρ <;> rfl
end
end Cs
namespace Cs
open PySem L2 Evl PyProof.Rows
/-! ## xs.reverse() -/
theorem Reps.snoc0 {T : Tx} {B H F : Hp} {d : D} {v : V} (r : Rep T B H F d v []) : ∀ {ds : List D} {vs : List V}, Reps T B H F ds vs [] → Reps T B H F (ds ++ [d]) (vs ++ [v]) []
  | _, _, .nil => .cons r .nil rfl
  | _, _, .cons a b e => by
    obtain ⟨rfl, rfl⟩ := List.append_eq_nil_iff.mp e.symm
    exact .cons a (Reps.snoc0 r b) rfl
theorem Reps.rev0 {T : Tx} {B H F : Hp} : ∀ {ds : List D} {vs : List V}, Reps T B H F ds vs [] → Reps T B H F ds.reverse vs.reverse []
  | _, _, .nil => .nil
  | _, _, .cons a b e => by
    obtain ⟨rfl, rfl⟩ := List.append_eq_nil_iff.mp e.symm
    rw [List.reverse_cons, List.reverse_cons]
    exact (Reps.rev0 b).snoc0 a
section
variable {X : Cx} {G : Gx} {W : WX} {i : Nat} {x : Str} {p apos cpos pos : Pos}
theorem rev_core {T : Tx} {i : Nat} {σ : L2.St} {H : Hp} {E : Ends} (h : tDS T W [i] (dRev i) E σ H) : tDrop (tBM0 T.K "list" rReverse (tVar i)) E σ H := by
  obtain ⟨B, s, e1, e2, r, hp⟩ := h
  subst e1 e2
  obtain ⟨p1, vs1, fp, xs, ys, q1, q2, q3, q4, q5, q6, q7⟩ := mutL_open r hp
  split at q6
  · rename_i hno
    cases q6
    have hfp := q4.noO hno
    subst hfp
    have rr : Reps T B (L2.upd s.H p1 (.lst vs1.reverse)) s.F xs.reverse vs1.reverse [] := q4.rev0.mono (Ex.refl _) (Ex.refl _) fun _ h => by cases h
    have hok := mut_ok (gt := []) (o := .lst vs1.reverse) (d' := .lst .ow xs.reverse) (g := [p1]) r q1 q2 (by rw [q5]; exact List.mem_cons_self) (.lstO upd_same rr rfl) (List.nodup_cons.mpr ⟨fun z => (by cases z), List.Pairwise.nil⟩)
      (fun x hx => .inl (by rw [q5, List.mem_singleton.mp hx]; exact List.mem_cons_self)) (fun _ h => (by cases h)) (fun _ h => (by cases h))
    have z := q7 _ rfl hok (mut_goes (tc := []) r Goes.refl (by rw [q5]; exact List.mem_cons_self) fun x hx => .inl (by rw [q5, List.mem_singleton.mp hx]; exact List.mem_cons_self))
    exact ⟨.ref p1, q2, .inl ⟨rfl, vs1, sq_of q3⟩, p1, vs1, rfl, rfl, q3, z⟩
  · cases q6
theorem gs_rev (hv : PE X (.Name x p) (tVar i)) (hbase : attributeBase (.Name x p) "reverse" X.env (eval (.Name x p) X.env) = eval (.Name x p) X.env := by rfl) (hline : (apos.endLine == cpos.line) = true := by rfl)
    (hsw : swapsWith (.Call (.Attribute (.Name x p) "reverse" apos) [] [] cpos) none pos.line X.env = pure false := by rfl) : GS X G W [i] (.Expr (.Call (.Attribute (.Name x p) "reverse" apos) [] [] cpos) pos) (dRev i) :=
  ps_mono (ps_expr (pe_bm0 PySem.F.plainAttrs_list PySem.F.slot_list_reverse PySem.F.type_list_reverse mt_reverse hv hbase hline) hsw) fun E σ H h => rev_core h
end
section
variable {Q : Flw → En → Prop} {X : Str → List Str → List D → En → Prop} {ρ : En} {i : Nat}
@[simp] theorem post_rev : Post Q X (dRev i ρ) = mlW (slotL i ρ) fun xs => allFs noOw xs = true ∧ Q .nx (ρ.set i (.dt (.lst .ow xs.reverse))) := by
  unfold dRev
  rw [post_mutL]
  congr 1
  funext xs
  by_cases h : allFs noOw xs = true <;> simp [h]
@[simp] theorem post_clr : Post Q X (dClr i ρ) = mlW (slotL i ρ) fun xs => Q .nx (ρ.set i (.dt (.lst .ow []))) := by
  unfold dClr
  rw [post_mutL]
  rfl
def extW (d : D) (K : Fl → List D → Prop) : Prop := match d with
  | .lst o ys => K o ys
  | _ => False
@[simp] theorem extW_l {o : Fl} {ys : List D} {K : Fl → List D → Prop} : extW (.lst o ys) K = K o ys := rfl
@[simp] theorem post_ext {f : M D} : Post Q X (dExt i f ρ) = mlW (slotL i ρ) fun _ => Post (fun d ρ1 => mlW (slotL i ρ1) fun xs => extW d fun o ys => ((o ≠ .ro ∧ allFs noOw ys = true) ∧ xs.length + ys.length ≤ lim) ∧ Q .nx (ρ1.set i (.dt (.lst .ow (xs ++ ys))))) X (f ρ) := by
  unfold dExt
  simp only [post_isL, post_bnd, post_mutL]
  congr 1
  funext _
  congr 1
  funext d ρ1
  congr 1
  funext xs
  cases d with
  | lst o ys =>
    dsimp only [extW_l]
    by_cases h : (o ≠ .ro ∧ allFs noOw ys = true) ∧ xs.length + ys.length ≤ lim
    · rw [if_pos h]; simp [h]
    · rw [if_neg h]; simp only [h]; simp
  | _ => rfl
end
end Cs
namespace Cs
open PySem L2 Evl PyProof.Rows
/-! ## arguments that are left out -/
section
variable {T : Tx} {W : WX}
end
section
variable {X : Cx} {G : Gx} {W : WX} {a e : Expr} {es : List Expr} {pos p apos : Pos}
end
end Cs
namespace Cs
open PySem L2 Evl PyProof.Rows
/-! ## def f(a, .., *v) -/
section
variable {CX : CXT} {P : Program} {w : World} {K : PySem.W.Frag} {mg : Str → Option Value} {base : Heap} {k : Nat} {f : Addr} {name qual : Str} {params : Arguments} {body : List Stmt} {scope : Scope} {dV kV doc pm cdv ct oc : Value} {an od : Option Addr}
  {osl : Array (Option Value)} {N ps : List Str} {sp : Sp}
end
end Cs
namespace Cs
open PySem L2 Evl PyProof.Rows
section
variable {T : Tx} {B : Hp}
end
end Cs
namespace Cs
open PySem L2 Evl PyProof.Rows
section
variable {X : Cx} {G : Gx} {W : WX} {tc : List Nat} {a e : Expr} {es : List Expr} {pos p apos sp_ : Pos}
/-! ## calls of what is promised by positional values -/
/-! ## *e -/
end
end Cs
namespace Cs
open PySem L2 Evl PyProof.Rows
/-! ## o.f.append(e) -/
def fix (f : Str) : List Str → Option Nat
  | [] => none
  | k :: ks => if f == k then some 0 else (fix f ks).map (· + 1)
def fldL (c f : Str) : D → Option (Nat × List D)
  | .obj .ow c' ks ds => if c' = c then (fix f ks).bind fun n => (match ds[n]? with
    | some (.lst .ow ys) => if allFs noOw ys = true then some (n, ys) else none
    | _ => none) else none
  | _ => none
def appF (c f : Str) (d : D) : D → Option D
  | .obj .ow c' ks ds => (fldL c f (.obj .ow c' ks ds)).bind fun (n, ys) => if ys.length < lim ∧ allF noOw d = true then some (.obj .ow c' ks (ds.set n (.lst .ow (ys ++ [d])))) else none
  | _ => none
def dAppF (i : Nat) (c f : Str) (u : M D) : M Flw := fun ρ => match (slot i ρ).bind (fldL c f) with
  | none => .bad
  | some _ => bnd (dFz u) (fun d ρ1 => match (slot i ρ1).bind (appF c f d) with
    | some o => .ok .nx (ρ1.set i (.dt o))
    | none => .bad) ρ
section
variable {X : Cx} {G : Gx} {W : WX} {tc t1 : List Nat} {a e : Expr} {pos pos2 apos cpos p : Pos} {u : M D} {i : Nat} {x : Str}
/-! ## o.f += e, ints -/
def augF (c f : Str) (d : D) : D → Option D
  | .obj .ow c' ks ds => if c' = c ∧ ks.length < 900 then (match look f ks ds, d with
    | some (.int i), .int j => some (.obj .ow c' (putL f (.int (i + j)) ks ds).1 (putL f (.int (i + j)) ks ds).2)
    | _, _ => none) else none
  | _ => none
def dAugC (i : Nat) (c f : Str) (j : Int) : M Flw := fun ρ => match (slot i ρ).bind (augF c f (.int j)) with
  | some o => .ok .nx (ρ.set i (.dt o))
  | none => .bad
/-! ## o.p, a property that runs -/
/-- what is raised is not spoken of -/
def noX (m : List D → Res) : List D → Res := fun ds => match m ds with
  | .exc _ _ _ _ => .bad
  | r => r
end
end Cs
namespace Cs
open PySem L2 Evl PyProof.Rows
/-! ## a written tuple of texts -/
section
variable {X : Cx} {G : Gx} {W : WX} {p : Pos}
end
/-! ## posts -/
section
variable {Q : Flw → En → Prop} {X : XK0} {ρ : En} {i : Nat}
@[simp] theorem post_appF {c f : Str} {u : M D} : Post Q X (dAppF i c f u ρ) = opW ((slot i ρ).bind (fldL c f)) fun _ => Post (fun d ρ1 => opW ((slot i ρ1).bind (appF c f (mapF flFrz d))) fun o => Q .nx (ρ1.set i (.dt o))) X (u ρ) := by
  unfold dAppF
  cases (slot i ρ).bind (fldL c f) with
  | none => rfl
  | some n =>
    dsimp only [opW_some]
    rw [post_bnd, post_fz]
    congr 1
    funext d ρ1
    cases (slot i ρ1).bind (appF c f (mapF flFrz d)) <;> rfl
@[simp] theorem post_augC {c f : Str} {j : Int} : Post Q X (dAugC i c f j ρ) = opW ((slot i ρ).bind (augF c f (.int j))) fun o => Q .nx (ρ.set i (.dt o)) := by
  unfold dAugC
  cases (slot i ρ).bind (augF c f (.int j)) <;> rfl
@[simp] theorem resW_noX {m : List D → Res} {ds : List D} {K : D → En → Prop} : resW (noX m ds) K X = resW (m ds) K N0 := by
  unfold noX
  cases m ds <;> rfl
end
end Cs
namespace Cs
open PySem L2 Evl PyProof.Rows

/-! ## dicts of texts: k in d, d[k] = v, d.get(k, None), {k: v} -/
def pInD : D → D → PR
  | .str z, .dct _ ks _ => .sc (.bl (decide (z ∈ ks)))
  | _, _ => .bad
def pNotInD : D → D → PR
  | .str z, .dct _ ks _ => .sc (.bl (!decide (z ∈ ks)))
  | _, _ => .bad
section
variable {X : Cx} {G : Gx} {W : WX} {t1 t2 : List Nat} {a b : Expr} {pos pos' p : Pos} {o1 o2 : Opd}
end
/-! d[k] = v -/
def putS (k d : D) : D → Option D
  | .dct .ow ks ds => (match k with
    | .str z => if ks.length < lim ∧ allFs noOw ds = true then some (.dct .ow (putD z d ks ds).1 (putD z d ks ds).2) else none
    | _ => none)
  | _ => none
def dMutD (i : Nat) (k d : D) : M Flw := fun ρ => match (slot i ρ).bind (putS k d) with
  | some o => .ok .nx (ρ.set i (.dt o))
  | none => .bad
def dDPut (i : Nat) (fk fe : M D) : M Flw := bnd (dFz fe) fun d => bnd (dPk i) fun _ => bnd fk fun k => dMutD i k d
theorem putS_some {k d o o' : D} (h : putS k d o = some o') : ∃ z ks ds, k = .str z ∧ o = .dct .ow ks ds ∧ ks.length < lim ∧ allFs noOw ds = true ∧ o' = .dct .ow (putD z d ks ds).1 (putD z d ks ds).2 := by
  unfold putS at h
  split at h
  · split at h
    · split at h
      · rename_i hh
        cases h
        exact ⟨_, _, _, rfl, rfl, hh.1, hh.2, rfl⟩
      · cases h
    · cases h
  · cases h
theorem lim_sz {n : Nat} (h : n < lim) : n < sizeLine := by
  rw [sizeLine_eq]
  have : lim ≤ 100000 := by unfold lim; omega
  omega
section
variable {T : Tx} {W : WX} {t1 t2 : List Nat} {u w : M D} {i : Nat} {σ : L2.St} {H : Hp} {E : Ends}
theorem dput_core (h : tDS T W (t1 ++ (t2 ++ [i])) (dDPut i w u) E σ H) : sDPut (tVar i) (tD T W t2 w) (tD T W t1 (dFz u)) E σ H := by
  obtain ⟨B, s, e1, e2, r, hp⟩ := h
  subst e1 e2
  refine seqES r hp (fun _ => memL) fun d v s1 g ed hs r1 t a h => ?_
  have hn := dFz_frz ed
  have rd := rep_v t.rep hn
  obtain ⟨d0, e0, h⟩ := pk_bnd h
  obtain ⟨v0, ev0, _⟩ := r1.sl i d0 (slot_some e0)
  refine ⟨v0, by rw [← hs]; exact ev0, ?_⟩
  have h' : Post (okS T B (t2 ++ [i]) s1 E) (exS T W B (t2 ++ [i]) s1) (bnd w (fun k => dMutD i k d) s1.ρ) := h.imp (fun _ _ q => q.re a) fun _ _ _ _ q => q.re a
  rw [← hs]
  refine seqES r1 h' (fun _ => memL) fun k vk s2 g2 _ hs2 r2 tk a2 h2 => ?_
  unfold dMutD at h2
  cases eb : (slot i s2.ρ).bind (putS k d) with
  | none => rw [eb] at h2; exact h2.elim
  | some o' =>
    rw [eb] at h2
    obtain ⟨o, eo, eo'⟩ := Option.bind_eq_some_iff.mp eb
    obtain ⟨z, ks, ds, rfl, rfl, hlim, hno, rfl⟩ := putS_some eo'
    have q1 := slot_some eo
    obtain ⟨vv, q2, q3⟩ := r2.sl i _ q1
    obtain ⟨rk, _, _, _⟩ := tk
    cases rk
    generalize eφ : s2.φ i = fpi at q3
    cases q3 with
    | dctO hq hl rp e =>
      rename_i p vs fp
      have efp : fp = [] := rp.noO hno
      subst efp
      rw [hs2, ev0] at q2
      cases q2
      have rd2 := rd.mono (H' := s2.H) (Ex.refl B) a2.step.ext fun x hx => (by cases hx)
      obtain ⟨vs', r3, r4, r5, r6⟩ := put_rep (k := z) rd2 rp hl
      have hin : p ∈ s2.φ i := by rw [eφ, e]; exact List.mem_cons_self
      have hok := mut_ok (gt := []) (o := .dK (putK (kz ks vs) (Sum.inr z) v)) (d' := .dct .ow (putD z d ks ds).1 (putD z d ks ds).2) (g := [p]) r2 q1 (by rw [hs2]; exact ev0) hin
        (.dctO (by rw [upd_same]; exact congrArg (fun x => some (HO.dK x)) r4.symm) r5 (r3.mono (Ex.refl B) (Ex.refl _) fun x hx => (by cases hx)) rfl) (List.nodup_cons.mpr ⟨fun z => (by cases z), List.Pairwise.nil⟩)
        (fun x hx => .inl (by rw [eφ, e]; exact hx)) (fun _ h => (by cases h)) (fun _ h => (by cases h))
      have hkz : (kz ks vs).length < sizeLine := by
        have : (kz ks vs).length = ks.length := by unfold kz; simp [hl]
        rw [this]
        exact lim_sz hlim
      refine ⟨p, _, rfl, DPut.k (k := Sum.inr z) hq hkz, ?_⟩
      have zz := h2 _ rfl hok (mut_goes r2 a2.drop0 hin fun x hx => .inl (by rw [eφ, e]; exact hx))
      show E.nx s1.σ (upd s2.H p (.dK (putK (kz ks vs) (Sum.inr z) v)))
      rw [← hs2]
      exact zz
end
section
variable {X : Cx} {G : Gx} {W : WX} {t1 t2 : List Nat} {a b : Expr} {x : Str} {pos pos' p : Pos} {i : Nat} {u w : M D}
theorem gs_dput (hu : X.A.units + 65 < cLine) (hv : PE X (.Name x p) (tVar i)) (hk : GE X G W t2 b w) (he : GE X G W t1 a u) (hs : swapsWith a (some (.Subscript (.Name x p) b pos')) pos.line X.env = pure false := by rfl) :
    GS X G W (t1 ++ (t2 ++ [i])) (.Assign [.Subscript (.Name x p) b pos'] a pos) (dDPut i w u) :=
  ps_mono (ps_dput (by omega) hv hk (g_fz he) hs) fun E σ H h => dput_core h
end
/-! d.get(k, None) -/
def getN (k : D) : D → Option D
  | .dct _ ks ds => (match k with
    | .str z => (match look z ks ds with
      | some x => if allF noOw x = true then some x else none
      | none => some .non)
    | _ => none)
  | _ => none
def isDct : D → Bool
  | .dct _ _ _ => true
  | _ => false
def dGetN (i : Nat) (w : M D) : M D := bnd (dPk i) fun d0 => if isDct d0 = true then bnd w fun k ρ1 => (match (slot i ρ1).bind (getN k) with
  | some d => .ok d ρ1
  | none => .bad) else bad
section
variable {T : Tx} {W : WX} {t1 t2 : List Nat} {u w : M D} {i : Nat} {σ : L2.St} {H : Hp} {Q : VK}
end
/-! {k: v} -/
def dDisp1 (fk fv : M D) : M D := bnd fk fun k => bnd (dFz fv) fun d => match k with
  | .str z => ret (.dct .ow [z] [d])
  | _ => bad
section
variable {T : Tx} {W : WX} {t1 t2 : List Nat} {u w : M D} {σ : L2.St} {H : Hp} {Q : VK}
end
section
variable {X : Cx} {G : Gx} {W : WX} {t1 t2 : List Nat} {a b : Expr} {x : Str} {pos p apos : Pos} {i n : Nat} {pn : Pos} {u w : M D}
end
end Cs
namespace Cs
open PySem L2 Evl PyProof.Rows

/-! ## sorted(xs), whole numbers -/
def allInt : List D → Option (List Int)
  | [] => some []
  | .int i :: xs => (allInt xs).map (i :: ·)
  | _ :: _ => none
theorem allInt_map : ∀ {xs : List D} {ns : List Int}, allInt xs = some ns → xs = ns.map D.int
  | [], ns, h => by unfold allInt at h; cases h; rfl
  | x :: xs, ns, h => by
    cases x with
    | int i =>
      unfold allInt at h
      obtain ⟨m, h1, h2⟩ := Option.map_eq_some_iff.mp h
      subst h2
      rw [allInt_map h1]
      rfl
    | _ => cases h
theorem allInt_ints : ∀ {ns : List Int}, allInt (ns.map D.int) = some ns
  | [] => rfl
  | n :: ns => by rw [List.map_cons, allInt, allInt_ints]; rfl
def insI (i : Int) : List Int → List Int
  | [] => [i]
  | j :: js => if i ≤ j then i :: j :: js else j :: insI i js
def srtI : List Int → List Int
  | [] => []
  | i :: is => insI i (srtI is)
def pSort : D → PR
  | .lst _ xs => (match allInt xs with
    | some ns => .nl ((srtI ns).map D.int)
    | none => .bad)
  | _ => .bad
theorem repsI_eq {T : Tx} {B H F : Hp} : ∀ {ns : List Int} {vs : List V} {g : List Addr}, Reps T B H F (ns.map D.int) vs g → vs = ns.map V.int
  | [], _, _, .nil => rfl
  | n :: ns, _, _, .cons r rs e => by
    cases r
    rw [repsI_eq rs]
    rfl
theorem repsI_mk {T : Tx} {B H F : Hp} : ∀ {ns : List Int}, Reps T B H F (ns.map D.int) (ns.map V.int) []
  | [] => .nil
  | n :: ns => .cons (.int n) repsI_mk rfl
section
variable {X : Cx} {G : Gx} {W : WX} {tc : List Nat} {a : Expr} {o : Opd} {pos p : Pos}
end
@[simp] theorem pSort_i {o : Fl} {ns : List Int} : pSort (.lst o (ns.map D.int)) = .nl ((srtI ns).map D.int) := by
  unfold pSort
  dsimp only
  rw [allInt_ints]
end Cs
namespace Cs
open PySem L2 Evl PyProof.Rows

/-! ## a method that says super(): its body reads __class__, a cell of the text -/
section
open PySem.W
variable {CX : CXT} {P : Program} {w : World} {K : PySem.W.Frag} {mg : Str → Option Value} {base : Heap} {N : List Str} {qual sv m : Str} {scope : Scope} {f cda cc Dc C g : Addr} {A : Around} {outer : List Env} {s0 : Shared} {H0 : Hp} {E0 : XK} {E : L2.St → XK} {fd fdg : FuncData} {L : Addr}
end
/-! ## statements at a known activation -/
/-! ## return super().m(..) -/
section
variable {CX : CXT} {P : Program} {w : World} {K : PySem.W.Frag} {mg : Str → Option Value} {base : Heap} {N : List Str} {qual sv m c : Str} {scope : Scope} {f cda cc Dc C g : Addr} {A : Around} {outer : List Env} {s0 : Shared} {H0 : Hp} {E0 : XK} {fd fdg : FuncData} {L : Addr} {G : Gx} {W : WX}
end
/-! ## the def -/
structure FunK (K : PySem.W.Frag) (x qual : Str) (st : Stmt) (f : Addr) (fd : FuncData) (cda cc : Addr) : Prop where
  ex : ∃ (oc : Value) (od : Option Addr) (kV doc pm : Value) (an : Option Addr) (ct : Value) (osl : Array (Option Value)),
    fd = PySem.W.ksFn x qual (defArgs st) (defBody st) (defScope st) .none kV doc pm an (.ref cda) ct cc ∧ K.lookup f = some ⟨oc, od, .func fd, osl⟩ ∧ PySem.W.codeIn K (.ref cda) qual = true
  kp : PySem.W.keepIn K (.ref f) = true
end Cs
namespace Cs
open PySem L2 Evl PyProof.Rows
/-! ## what no law reaches: no meaning, no claim -/
def dBad : M Flw := fun _ => .bad
@[simp] theorem post_dbad {Q : Flw → En → Prop} {X : XK0} {ρ : En} : Post Q X (dBad ρ) = False := rfl
/-! ## the head of a def with super() -/
theorem FunK.binds {K : PySem.W.Frag} {x qual : Str} {st : Stmt} {f cda cc : Addr} {fd : FuncData} {ps : List Str} (F : FunK K x qual st f fd cda cc)
    (h : ∀ (kV doc pm : Value) (an : Option Addr) (ct : Value) (us : List Value), us.length = ps.length → bindArgs (PySem.W.ksFn x qual (defArgs st) (defBody st) (defScope st) .none kV doc pm an (.ref cda) ct cc) ⟨us, []⟩ = pure (ps.zip us)) : L2.Binds K fd ps [] := by
  obtain ⟨oc, od, kV, doc, pm, an, ct, osl, rfl, lk, hcd⟩ := F.ex
  exact .all (h kV doc pm an ct)
end Cs
namespace Cs
open PySem L2 Evl PyProof.Rows
section
variable {X : XK0} {ρ : En} {i : Nat} {w u : M D}
def strW (d : D) (K : Str → Prop) : Prop := match d with
  | .str z => K z
  | _ => False
@[simp] theorem strW_s {z : Str} {K : Str → Prop} : strW (.str z) K = K z := rfl
@[simp] theorem post_disp1 {Q : D → En → Prop} : Post Q X (dDisp1 w u ρ) = Post (fun k ρ1 => Post (fun d ρ2 => strW k fun z => Q (.dct .ow [z] [mapF flFrz d]) ρ2) X (u ρ1)) X (w ρ) := by
  unfold dDisp1
  rw [post_bnd]
  congr 1
  funext k ρ1
  rw [post_bnd, post_fz]
  congr 1
  funext d ρ2
  cases k <;> rfl
theorem post_dpk {α : Type} {k : D → M α} {Q : α → En → Prop} : Post Q X (bnd (dPk i) k ρ) = slW (slot i ρ) fun d => Post Q X (k d ρ) := by
  rw [post_bnd]
  unfold dPk
  cases slot i ρ <;> rfl
@[simp] theorem post_dput {Q : Flw → En → Prop} : Post Q X (dDPut i w u ρ) = Post (fun d ρ1 => slW (slot i ρ1) fun _ => Post (fun k ρ2 => opW ((slot i ρ2).bind (putS k (mapF flFrz d))) fun o => Q .nx (ρ2.set i (.dt o))) X (w ρ1)) X (u ρ) := by
  unfold dDPut
  rw [post_bnd, post_fz]
  congr 1
  funext d ρ1
  rw [post_dpk]
  congr 1
  funext d0
  rw [post_bnd]
  congr 1
  funext k ρ2
  unfold dMutD
  cases (slot i ρ2).bind (putS k (mapF flFrz d)) <;> rfl
@[simp] theorem post_getN {Q : D → En → Prop} : Post Q X (dGetN i w ρ) = slW (slot i ρ) fun d0 => isDct d0 = true ∧ Post (fun k ρ1 => opW ((slot i ρ1).bind (getN k)) fun d => Q d ρ1) X (w ρ) := by
  unfold dGetN
  rw [post_dpk]
  congr 1
  funext d0
  by_cases h : isDct d0 = true
  · rw [if_pos h, post_bnd]
    simp only [h, true_and]
    congr 1
    funext k ρ1
    cases (slot i ρ1).bind (getN k) <;> rfl
  · rw [if_neg h]
    exact propext ⟨fun z => z.elim, fun z => absurd z.1 h⟩
@[simp] theorem pInD_s {o : Fl} {z : Str} {ks : List Str} {ds : List D} : pInD (.str z) (.dct o ks ds) = .sc (.bl (decide (z ∈ ks))) := rfl
@[simp] theorem pNotInD_s {o : Fl} {z : Str} {ks : List Str} {ds : List D} : pNotInD (.str z) (.dct o ks ds) = .sc (.bl (!decide (z ∈ ks))) := rfl
@[simp] theorem putS_s {z : Str} {d : D} {ks : List Str} {ds : List D} : putS (.str z) d (.dct .ow ks ds) = if ks.length < lim ∧ allFs noOw ds = true then some (.dct .ow (putD z d ks ds).1 (putD z d ks ds).2) else none := rfl
@[simp] theorem isDct_d {o : Fl} {ks : List Str} {ds : List D} : isDct (.dct o ks ds) = true := rfl
end
end Cs
namespace Cs
open PySem L2 Evl PyProof.Rows
/-! comprehensions and loops over plain lists -/
theorem map_get {α : Type} {f : α → D} {xs : List α} {k : Nat} {d : D} (h : (xs.map f)[k]? = some d) : ∃ x, xs[k]? = some x ∧ d = f x := by
  rw [List.getElem?_map] at h
  cases e : xs[k]? with
  | none => rw [e] at h; cases h
  | some x => rw [e] at h; exact ⟨x, rfl, (Option.some.inj h).symm⟩
theorem take_snoc {α : Type} {xs : List α} {k : Nat} {x : α} (h : xs[k]? = some x) : xs.take (k + 1) = xs.take k ++ [x] := by
  rw [List.take_succ, h]
  rfl
/-- a comprehension that looks at each item and leaves the slots as they are -/
theorem lc_filt {α : Type} {tg : Tg} {own : List Nat} {cond : M Bool} {elt : M D} {xs : List α} {f : α → D} {A : En} (p : α → Bool) (g : α → D) (hl : xs.length ≤ lim)
    (hs : ∀ x, x ∈ xs → tgW (dTg tg (f x) A) fun ρ1 => Post (fun b ρ2 => b = p x ∧ if b = true then Post (fun e ρ3 => e = g x ∧ fgt own ρ3 = A) N0 (elt ρ2) else fgt own ρ2 = A) N0 (cond ρ1)) :
    Post (fun acc ρ => acc = (xs.filter p).map g ∧ ρ = A) N0 (lcL tg own cond elt [] (xs.map f) A) := by
  refine (lc_inv (fun k acc ρ => acc = ((xs.take k).filter p).map g ∧ ρ = A) ⟨by simp, rfl⟩ ?_).imp (fun acc ρ h => ?_) fun _ _ _ _ h => h
  · rintro k acc d ρ hk ⟨rfl, rfl⟩
    obtain ⟨x, hx, rfl⟩ := map_get hk
    have z := hs x (List.mem_of_getElem? hx)
    have hlt : k < xs.length := (List.getElem?_eq_some_iff.mp hx).1
    have hfl : ((xs.take k).filter p).length ≤ k := by
      have h1 := List.length_filter_le p (xs.take k)
      rw [List.length_take] at h1
      omega
    rw [take_snoc hx, List.filter_append]
    generalize (xs.take k).filter p = fl at *
    revert z
    generalize dTg tg (f x) ρ = o
    intro z
    cases o with
    | bad => exact z.elim
    | exc c ks xs ρ1 => exact z.elim
    | ok fl2 ρ1 =>
      cases fl2 with
      | bk => exact z.elim
      | ct => exact z.elim
      | rt r => exact z.elim
      | nx =>
        refine Post.imp (show Post _ N0 (cond ρ1) from z) (fun b ρ2 ⟨e, h⟩ => ?_) fun _ _ _ _ h => h
        cases b with
        | true =>
          rw [if_pos rfl] at h ⊢
          refine h.imp (fun e2 ρ3 ⟨e3, e4⟩ => ⟨by rw [List.length_map]; omega, ?_, e4⟩) fun _ _ _ _ h => h
          subst e3
          rw [List.map_append, List.filter_cons, ← e]
          simp
        | false =>
          rw [if_neg Bool.false_ne_true] at h ⊢
          refine ⟨?_, h⟩
          rw [List.filter_cons, ← e]
          simp
  · rw [List.length_map, List.take_length] at h
    exact h
theorem lc_maps {α : Type} {tg : Tg} {own : List Nat} {cond : M Bool} {elt : M D} {xs : List α} {f : α → D} {A : En} (g : α → D) (hl : xs.length ≤ lim)
    (hs : ∀ x, x ∈ xs → tgW (dTg tg (f x) A) fun ρ1 => Post (fun b ρ2 => b = true ∧ Post (fun e ρ3 => e = g x ∧ fgt own ρ3 = A) N0 (elt ρ2)) N0 (cond ρ1)) :
    Post (fun acc ρ => acc = xs.map g ∧ ρ = A) N0 (lcL tg own cond elt [] (xs.map f) A) := by
  refine (lc_filt (fun _ => true) g hl fun x hx => ?_).imp (fun acc ρ h => ?_) fun _ _ _ _ h => h
  · have z := hs x hx
    revert z
    generalize dTg tg (f x) A = o
    intro z
    cases o with
    | bad => exact z.elim
    | exc c ks xs ρ1 => exact z.elim
    | ok fl2 ρ1 =>
      cases fl2 with
      | bk => exact z.elim
      | ct => exact z.elim
      | rt r => exact z.elim
      | nx =>
        refine Post.imp (show Post _ N0 (cond ρ1) from z) (fun b ρ2 ⟨e, h⟩ => ⟨e, ?_⟩) fun _ _ _ _ h => h
        rw [e, if_pos rfl]
        exact h
  · rw [List.filter_eq_self.mpr (fun _ _ => rfl)] at h
    exact h
/-- a loop that leaves when something is found -/
theorem for_scanN {X : XK0} {Q : Flw → En → Prop} {tg : Tg} {fg : List Nat} {body : M Flw} {ds : List D} {ρ : En} (bad : Nat → Bool) (I : En → Prop) (h0 : I ρ)
    (hs : ∀ k d ρ, ds[k]? = some d → (∀ j, j < k → bad j = false) → I ρ → tgW (dTg tg d ρ) fun ρ1 => Post (forK (fun ρ2 => bad k = false ∧ I ρ2) Q fg) X (body ρ1))
    (hd : ∀ ρ, (∀ j, j < ds.length → bad j = false) → I ρ → Q .nx ρ) : Post Q X (forL tg fg body ds ρ) := by
  refine for_inv (fun k ρ => (∀ j, j < k → bad j = false) ∧ I ρ) ⟨fun j h => absurd h (Nat.not_lt_zero _), h0⟩ ?_ fun ρ h => hd ρ h.1 h.2
  rintro k d ρ hk ⟨hb, hi⟩
  have z := hs k d ρ hk hb hi
  have e : (fun ρ2 : En => bad k = false ∧ I ρ2) = fun ρ2 => (∀ j, j < k + 1 → bad j = false) ∧ I ρ2 := by
    funext ρ2
    refine propext ⟨fun ⟨h1, h2⟩ => ⟨fun j hj => ?_, h2⟩, fun ⟨h1, h2⟩ => ⟨h1 k (Nat.lt_succ_self k), h2⟩⟩
    by_cases q : j = k
    · subst q; exact h1
    · exact hb j (by omega)
  rw [e] at z
  exact z
theorem for_scan {α : Type} {X : XK0} {Q : Flw → En → Prop} {tg : Tg} {fg : List Nat} {body : M Flw} {xs : List α} {f : α → D} {ρ : En} (bad : α → Bool) (I : En → Prop) (h0 : I ρ)
    (hs : ∀ x ρ, x ∈ xs → I ρ → tgW (dTg tg (f x) ρ) fun ρ1 => Post (forK (fun ρ2 => bad x = false ∧ I ρ2) Q fg) X (body ρ1))
    (hd : ∀ ρ, xs.any bad = false → I ρ → Q .nx ρ) : Post Q X (forL tg fg body (xs.map f) ρ) := by
  refine for_inv (fun k ρ => (xs.take k).any bad = false ∧ I ρ) ⟨by simp, h0⟩ ?_ fun ρ h => hd ρ (by have := h.1; rwa [List.length_map, List.take_length] at this) h.2
  rintro k d ρ hk ⟨hb, hi⟩
  obtain ⟨x, hx, rfl⟩ := map_get hk
  have z := hs x ρ (List.mem_of_getElem? hx) hi
  rw [take_snoc hx, List.any_append, hb]
  have e : (fun ρ2 : En => bad x = false ∧ I ρ2) = fun ρ2 => ((false || [x].any bad) = false ∧ I ρ2) := by
    funext ρ2
    simp
  rw [e] at z
  exact z
/-! lists of places -/
@[simp] theorem mapFs_nats {g : Fl → Fl} : ∀ {xs : List Nat}, mapFs g (xs.map fun i : Nat => D.int (i : Int)) = xs.map fun i : Nat => D.int (i : Int)
  | [] => by rw [List.map_nil, mapFs]
  | z :: zs => by rw [List.map_cons, mapFs, mapFs_nats]; rfl
@[simp] theorem allFs_nats {p : Fl → Bool} : ∀ {xs : List Nat}, allFs p (xs.map fun i : Nat => D.int (i : Int)) = true
  | [] => rfl
  | z :: zs => by rw [List.map_cons, allFs, allFs_nats]; rfl
theorem rng_map {n : Nat} : rng 0 n = (List.range n).map fun (k : Nat) => D.int (k : Int) := by
  unfold rng
  apply List.map_congr_left
  intro k _
  simp
@[simp] theorem post_rg2 {X : XK0} {ρ : En} {f g : M D} {Q : List D → En → Prop} : Post Q X (dRg2 f g ρ) = Post (fun d ρ1 => Post (fun e ρ2 => intW d fun i => intW e fun j => ((-1000000 ≤ i ∧ i ≤ 1000000) ∧ (-1000000 ≤ j ∧ j ≤ 1000000)) ∧ Q (rng i (j - i).toNat) ρ2) X (g ρ1)) X (f ρ) := by
  unfold dRg2
  rw [post_bnd]
  congr 1
  funext d ρ1
  rw [post_bnd]
  congr 1
  funext e ρ2
  cases d with
  | int i =>
    cases e with
    | int j =>
      show Post Q X ((if (-1000000 ≤ i ∧ i ≤ 1000000) ∧ -1000000 ≤ j ∧ j ≤ 1000000 then ret (rng i (j - i).toNat) else bad) ρ2) = _
      by_cases h : (-1000000 ≤ i ∧ i ≤ 1000000) ∧ -1000000 ≤ j ∧ j ≤ 1000000
      · rw [if_pos h]
        exact propext ⟨fun z => ⟨h, z⟩, fun z => z.2⟩
      · rw [if_neg h]
        exact propext ⟨fun z => z.elim, fun z => absurd z.1 h⟩
    | _ => rfl
  | _ => rfl
end Cs
namespace Cs
open PySem L2 Evl PyProof.Rows
/-! ## xs.index(z), xs a name of a list of texts -/
def isLst : D → Bool
  | .lst _ _ => true
  | _ => false
def lixD (d e : D) : Option D := match d, e with
  | .lst _ xs, .str z => (match allStr xs with
    | some ys => (ixS z ys).map fun j => .int (j : Int)
    | none => none)
  | _, _ => none
def dLix (i : Nat) (w : M D) : M D := bnd (dPk i) fun d0 => if isLst d0 = true then bnd w fun k ρ1 => (match (slot i ρ1).bind (fun d => lixD d k) with
  | some d => .ok d ρ1
  | none => .bad) else bad
section
variable {X : Cx} {G : Gx} {W : WX} {t2 : List Nat} {e : Expr} {x : Str} {p apos cpos : Pos} {w : M D} {i : Nat}
theorem g_lix (hv : PE X (.Name x p) (tVar i)) (h2 : GE X G W t2 e w) (hbase : attributeBase (.Name x p) "index" X.env (eval (.Name x p) X.env) = eval (.Name x p) X.env := by rfl)
    (hfew : ((backTo cpos (starEach [e] X.env)).all (fun x => !x.1) && (backToKw cpos (keywordEach [] X.env)).all (fun x => x.1.isSome) && decide ([e].length + ([] : List Keyword).length + (if ([] : List Keyword).isEmpty then 0 else 1) < 30)) = true := by rfl)
    (hline : (apos.endLine == cpos.line) = true := by rfl) (hs : starEach [e] X.env = (false, eval e X.env) :: starEach [] X.env := by rfl) (hplain : (backTo cpos (starEach [] X.env)).any (·.1) = false := by rfl) :
    GE X G W t2 (.Call (.Attribute (.Name x p) "index" apos) [e] [] cpos) (dLix i w) :=
  pe_mono (pe_bm PySem.F.plainAttrs_list PySem.F.slot_list_index PySem.F.type_list_index mt_index hv (pa_cons h2 pa_nil hs) hbase hfew hline hs hplain) fun σ H Q ⟨B, s, e1, e2, r, hp⟩ => by
    subst e1 e2
    obtain ⟨d0, e0, h⟩ := pk_bnd hp
    obtain ⟨v0, ev0, rp0⟩ := r.sl i d0 (slot_some e0)
    refine ⟨v0, ev0, ?_⟩
    split at h
    case isFalse => exact h.elim
    rename_i hd
    cases d0 with
    | lst o ds =>
      obtain ⟨a, vs, g', rfl, hH, _, _⟩ := rp0.list r.exF r.exB
      refine ⟨.inl ⟨rfl, _, hH⟩, ?_⟩
      refine seqE1 r h fun k vk s2 g2 _ hs2 r2 tk a2 h2 => ?_
      cases eb : (slot i s2.ρ).bind (fun d => lixD d k) with
      | none => rw [eb] at h2; exact h2.elim
      | some d =>
        rw [eb] at h2
        obtain ⟨o2, eo, eg⟩ := Option.bind_eq_some_iff.mp eb
        obtain ⟨v2, ev2, rp2⟩ := r2.sl i o2 (slot_some eo)
        rw [hs2, ev0] at ev2
        cases ev2
        cases o2 with
        | lst o2 ds2 =>
          obtain ⟨a', vs2, g3, ea', hH2, rs2, _⟩ := rp2.list r2.exF r2.exB
          cases ea'
          cases k with
          | str z =>
            unfold lixD at eg
            dsimp only at eg
            cases ea : allStr ds2 with
            | none => rw [ea] at eg; cases eg
            | some ys =>
              rw [ea] at eg
              dsimp only at eg
              cases ej : ixS z ys with
              | none => rw [ej] at eg; cases eg
              | some j =>
                rw [ej] at eg
                cases eg
                obtain ⟨h3, h4⟩ := ixS_some ej
                obtain ⟨rk, _, _, _⟩ := tk
                cases rk
                have ev := allStr_reps rs2 ea
                subst ev
                have hok : okE (tx X G) B t2 s Q (.int (j : Int)) s2.ρ := h2
                refine ⟨a, ys.map V.str, .str z, j, .str z, rfl, rfl, hH2, rfl, ?_, ?_, ?_, ?_, hok (.int j) s2 [] rfl hs2 r2 (Tmp.flat (.int _)) a2.drop0⟩
                · rw [List.all_map]
                  exact List.all_eq_true.mpr fun _ _ => rfl
                · rw [List.getElem?_map, h3]; rfl
                · simp [eqV]
                · intro m z' hm hz'
                  rw [List.getElem?_map] at hz'
                  cases q : ys[m]? with
                  | none => rw [q] at hz'; cases hz'
                  | some y =>
                    rw [q] at hz'
                    cases hz'
                    have : ¬ y = z := fun e => h4 m hm (by rw [q, e])
                    simpa [eqV] using this
          | _ => cases eg
        | _ => cases eg
    | _ => cases hd
end
section
variable {X : XK0} {ρ : En} {i : Nat} {w : M D}
@[simp] theorem post_lix {Q : D → En → Prop} : Post Q X (dLix i w ρ) = slW (slot i ρ) fun d0 => isLst d0 = true ∧ Post (fun k ρ1 => opW ((slot i ρ1).bind fun d => lixD d k) fun d => Q d ρ1) X (w ρ) := by
  unfold dLix
  rw [post_dpk]
  congr 1
  funext d0
  by_cases h : isLst d0 = true
  · rw [if_pos h, post_bnd]
    simp only [h, true_and]
    congr 1
    funext k ρ1
    cases (slot i ρ1).bind (fun d => lixD d k) <;> rfl
  · rw [if_neg h]
    exact propext ⟨fun z => z.elim, fun z => absurd z.1 h⟩
@[simp] theorem isLst_l {o : Fl} {xs : List D} : isLst (.lst o xs) = true := rfl
end
end Cs
namespace Cs
open PySem L2 Evl
/-! written texts: equal as texts iff equal as written -/
theorem strE {a b : String} : (Str.ofString a = Str.ofString b) ↔ a = b := by
  constructor
  · intro h
    rw [Str.ofString_eq_toList, Str.ofString_eq_toList] at h
    have h2 : a.toList.map Char.toNat = b.toList.map Char.toNat := by
      have := congrArg (fun s : Str => s.cps.toList) h
      simpa using this
    have inj : ∀ {x y : List Char}, x.map Char.toNat = y.map Char.toNat → x = y := by
      intro x
      induction x with
      | nil => intro y h; cases y with
        | nil => rfl
        | cons _ _ => cases h
      | cons c cs ih => intro y h; cases y with
        | nil => cases h
        | cons e es =>
          simp only [List.map_cons, List.cons.injEq] at h
          rw [ih h.2, Char.toNat_inj.mp h.1]
    exact String.toList_inj.mp (inj h2)
  · rintro rfl; rfl
theorem strB {a b : String} : (Str.ofString a == Str.ofString b) = (a == b) := by
  rw [Bool.eq_iff_iff, beq_iff_eq, beq_iff_eq]
  exact strE
/-! equality of data, by what they are made of -/
theorem qDs_map {α : Type} [DecidableEq α] {f g : α → D} (h : ∀ x y, eqD (f x) (g y) = decide (x = y)) : ∀ {xs ys : List α}, eqDs (xs.map f) (ys.map g) = decide (xs = ys)
  | [], [] => rfl
  | x :: xs, y :: ys => by
    rw [List.map_cons, List.map_cons, eqDs, qDs_map h, h]
    by_cases e : x = y
    · subst e; simp
    · simp [e]
  | [], y :: ys => by simp [eqDs]
  | x :: xs, [] => by simp [eqDs]
theorem qEq {d e : D} {b : Bool} (h1 : dep d ≤ 60) (h2 : dep e ≤ 60) (h : eqD d e = b) : pEq d e = .sc (.bl b) := by
  unfold pEq
  rw [if_pos ⟨h1, h2⟩, h]
theorem qi (i j : Int) : eqD (.int i) (.int j) = decide (i = j) := by rw [eqD_ii]; by_cases h : i = j <;> simp [h]
theorem qs (i j : Str) : eqD (.str i) (.str j) = decide (i = j) := by rw [eqD_ss]; by_cases h : i = j <;> simp [h]
theorem qlI {o p : Fl} (xs ys : List Int) : eqD (.lst o (xs.map D.int)) (.lst p (ys.map D.int)) = decide (xs = ys) := by rw [eqD_ll, qDs_map qi]
theorem dlI {o : Fl} {xs : List Int} : dep (.lst o (xs.map D.int)) ≤ 60 := by rw [dep_lst, deps_ints]; omega
theorem qEqlI {o p : Fl} {xs ys : List Int} : pEq (.lst o (xs.map D.int)) (.lst p (ys.map D.int)) = .sc (.bl (decide (xs = ys))) := qEq dlI dlI (qlI xs ys)
theorem setAt_ints {ns : List Int} {i : Nat} {v : Int} (h : i < ns.length) : setAt (.int (i : Int)) (.int v) (ns.map D.int) = some ((ns.set i v).map D.int) := by
  have h1 : allFs noOw (ns.map D.int) = true := by simp
  rw [setAt_n, if_pos ⟨by simpa using h, h1, rfl⟩, List.map_set]
example : ¬ (Str.ofString "abc" = Str.ofString "abd") := by simp [strE]
example : (Str.ofString "abc" == Str.ofString "abd") = false := by simp [strB]
end Cs
namespace Cs
open PySem L2 Evl PyProof.Rows
/-! ## one of two denotations -/
section
variable {X : Cx} {G : Gx} {W : WX} {tc t1 t2 : List Nat} {e : Expr} {pos : Pos}
end
/-! ## a constant of the class, off an object -/
section
variable {X : Cx} {G : Gx} {W : WX} {tc t1 t2 : List Nat} {e : Expr} {o : Opd} {pos : Pos}
/-! ## f-strings -/
def dJs : List (M D) → Str → M D
  | [], acc => ret (.str acc)
  | f :: fs, acc => bnd f fun d => match d with
    | .str y => if acc.length + y.length ≤ lim then dJs fs (acc ++ y) else bad
    | _ => bad
def dJoin (fs : List (M D)) : M D := dJs fs Str.empty
end
/-! what a joined text asks -/
def jsW (d : D) (K : Str → Prop) : Prop := match d with
  | .str y => K y
  | _ => False
@[simp] theorem jsW_s {y : Str} {K : Str → Prop} : jsW (.str y) K = K y := rfl
section
variable {Q : D → En → Prop} {X : Str → List Str → List D → En → Prop} {ρ : En}
@[simp] theorem post_js_nil {acc : Str} : Post Q X (dJs [] acc ρ) = Q (.str acc) ρ := rfl
@[simp] theorem post_js_cons {f : M D} {fs : List (M D)} {acc : Str} : Post Q X (dJs (f :: fs) acc ρ) = Post (fun d ρ1 => jsW d fun y => acc.length + y.length ≤ lim ∧ Post Q X (dJs fs (acc ++ y) ρ1)) X (f ρ) := by
  rw [dJs, post_bnd]
  congr 1
  funext d ρ1
  cases d <;> try rfl
  rename_i y
  show Post Q X ((if acc.length + y.length ≤ lim then dJs fs (acc ++ y) else bad) ρ1) = _
  unfold jsW
  dsimp only
  by_cases h : acc.length + y.length ≤ lim
  · rw [if_pos h]; simp [h]
  · rw [if_neg h]; simp [h]
@[simp] theorem post_join {fs : List (M D)} : Post Q X (dJoin fs ρ) = Post Q X (dJs fs Str.empty ρ) := rfl
end
/-! ## isinstance of another own class -/
section
variable {X : Cx} {G : Gx} {W : WX} {tc : List Nat} {a : Expr} {o : Opd} {pos p p2 : Pos} {x : Str}
end
end Cs
namespace Cs
open PySem L2 Evl PyProof.Rows
/-! ## t[lo:hi], t a tuple: the new one is a tuple without a dict -/
section
variable {X : Cx} {G : Gx} {W : WX} {t1 t2 t3 tc : List Nat} {e : Expr} {lo hi : Option Expr} {pos p2 : Pos} {f : M D} {g h : M (Option Int)}
def dSlT (f : M D) (g h : M (Option Int)) : M D := bnd f fun d => bnd g fun lo => bnd h fun hi => match d with
  | .tup xs => if allFs noOw xs = true then ret (.tup (cutD xs lo hi)) else bad
  | _ => bad
end
def cutTW (d : D) (lo hi : Option Int) (K : D → Prop) : Prop := match d with
  | .tup xs => allFs noOw xs = true ∧ K (.tup (cutD xs lo hi))
  | _ => False
@[simp] theorem cutTW_t {xs : List D} {lo hi : Option Int} {K : D → Prop} : cutTW (.tup xs) lo hi K = (allFs noOw xs = true ∧ K (.tup (cutD xs lo hi))) := rfl
@[simp] theorem post_slT {f : M D} {g h : M (Option Int)} {Q : D → En → Prop} {X : Str → List Str → List D → En → Prop} {ρ : En} : Post Q X (dSlT f g h ρ) = Post (fun d ρ1 => Post (fun lo ρ2 => Post (fun hi ρ3 => cutTW d lo hi fun e => Q e ρ3) X (h ρ2)) X (g ρ1)) X (f ρ) := by
  unfold dSlT
  simp only [post_bnd]
  congr 1
  funext d ρ1
  congr 1
  funext lo ρ2
  congr 1
  funext hi ρ3
  cases d <;> try rfl
  rename_i xs
  show Post Q X ((if allFs noOw xs = true then ret (.tup (cutD xs lo hi)) else bad) ρ3) = _
  unfold cutTW
  dsimp only
  by_cases hn : allFs noOw xs = true
  · rw [if_pos hn]; simp [hn]
  · rw [if_neg hn]; simp [hn]
@[simp] theorem cutD_14 {a b c d : D} : cutD [a, b, c, d] (some 1) none = [b, c, d] := by
  have e1 : HT.sIx 4 0 (some 1) = 1 := by decide +kernel
  have e2 : HT.sIx 4 4 none = 4 := by decide +kernel
  unfold cutD
  simp [e1, e2]
/-! ## slots forgotten behind a statement -/
def dFg (fg : List Nat) (f : M Flw) : M Flw := fun ρ => match f ρ with
  | .ok r ρ1 => .ok r (fgt fg ρ1)
  | .exc c ks xs ρ1 => .exc c ks xs ρ1
  | .bad => .bad
@[simp] theorem post_fg {fg : List Nat} {f : M Flw} {Q : Flw → En → Prop} {X : Str → List Str → List D → En → Prop} {ρ : En} : Post Q X (dFg fg f ρ) = Post (fun r ρ1 => Q r (fgt fg ρ1)) X (f ρ) := by
  unfold dFg
  cases f ρ <;> rfl
section
variable {X : Cx} {G : Gx} {W : WX} {tc : List Nat} {st : Stmt} {f : M Flw}
end
end Cs
namespace Cs
open PySem L2 Evl PyProof.Rows
/-! ## a def that calls itself: no promise at the bottom -/
/-! ## a, b = e -/
def dAsgT (tg : Tg) (f : M D) : M Flw := bnd f fun d ρ => match dTg tg (mapF flFrz d) ρ with
  | .ok .nx ρ1 => .ok .nx ρ1
  | _ => .bad
section
variable {X : Cx} {G : Gx} {W : WX} {tc : List Nat} {a tge : Expr} {pos : Pos} {u : M D}
end
@[simp] theorem post_asgT {tg : Tg} {f : M D} {Q : Flw → En → Prop} {X : Str → List Str → List D → En → Prop} {ρ : En} : Post Q X (dAsgT tg f ρ) = Post (fun d ρ1 => tgW (dTg tg (mapF flFrz d) ρ1) fun ρ2 => Q .nx ρ2) X (f ρ) := by
  unfold dAsgT
  rw [post_bnd]
  congr 1
  funext d ρ1
  cases dTg tg (mapF flFrz d) ρ1 with
  | bad => rfl
  | exc c ks xs ρ => rfl
  | ok fl ρ => cases fl <;> rfl
/-! ## xs.pop() -/
def dPop (i : Nat) : M D := fun ρ => match slotL i ρ with
  | some xs => if allFs noOw xs = true then (match xs.getLast? with
    | some d => .ok d (ρ.set i (.dt (.lst .ow xs.dropLast)))
    | none => .bad) else .bad
  | none => .bad
theorem Reps.last {T : Tx} {B H F : Hp} : ∀ {ds : List D} {vs : List V} {d : D}, Reps T B H F ds vs [] → ds.getLast? = some d → ∃ v, vs[vs.length - 1]? = some v ∧ Rep T B H F d v [] ∧ Reps T B H F ds.dropLast vs.dropLast []
  | [], _, _, .nil, h => by cases h
  | [x], _, d, .cons (v := v) r .nil e, h => by
    obtain ⟨e1, e2⟩ := List.append_eq_nil_iff.mp e.symm
    subst e1
    cases h
    exact ⟨v, rfl, r, .nil⟩
  | x :: y :: ds, _, d, .cons (v := v) r (.cons (v := v2) (vs := vs) r2 rs e2) e, h => by
    obtain ⟨z1, z2⟩ := List.append_eq_nil_iff.mp e.symm
    subst z1 z2
    obtain ⟨w, h1, h2, h3⟩ := Reps.last (ds := y :: ds) (vs := v2 :: vs) (.cons r2 rs e2) (by simpa using h)
    refine ⟨w, ?_, h2, .cons r h3 rfl⟩
    simpa using h1
section
variable {X : Cx} {G : Gx} {W : WX} {i : Nat} {x : Str} {p apos cpos : Pos}
end
def popW (o : Option (List D)) (K : D → List D → Prop) : Prop := match o with
  | some xs => allFs noOw xs = true ∧ (match xs.getLast? with
    | some d => K d xs.dropLast
    | none => False)
  | none => False
@[simp] theorem post_pop {i : Nat} {Q : D → En → Prop} {X : Str → List Str → List D → En → Prop} {ρ : En} : Post Q X (dPop i ρ) = popW (slotL i ρ) fun d xs => Q d (ρ.set i (.dt (.lst .ow xs))) := by
  unfold dPop popW
  cases slotL i ρ with
  | none => rfl
  | some xs =>
    dsimp only
    by_cases h : allFs noOw xs = true
    · rw [if_pos h]
      cases xs.getLast? with
      | none => simp [h]
      | some d => simp [h]
    · rw [if_neg h]
      simp [h]
end Cs
namespace Cs
open PySem L2 Evl PyProof.Rows

/-! ## xs < ys, lists of whole numbers -/
def ltL : List Int → List Int → Bool
  | [], [] => false
  | [], _ :: _ => true
  | _ :: _, [] => false
  | x :: xs, y :: ys => if x = y then ltL xs ys else decide (x < y)
def pLtL : D → D → PR
  | .lst _ xs, .lst _ ys => (match allInt xs, allInt ys with
    | some ns, some ms => .sc (.bl (ltL ns ms))
    | _, _ => .bad)
  | _, _ => .bad
section
variable {X : Cx} {G : Gx} {W : WX} {t1 t2 : List Nat} {a b : Expr} {o1 o2 : Opd} {pos : Pos}
end
@[simp] theorem pLtL_i {o o2 : Fl} {ns ms : List Int} : pLtL (.lst o (ns.map D.int)) (.lst o2 (ms.map D.int)) = .sc (.bl (ltL ns ms)) := by
  unfold pLtL
  dsimp only
  rw [allInt_ints, allInt_ints]
end Cs
namespace Cs
open PySem L2 Evl PyProof.Rows

/-! ## the __init__ of an own exception, some fields a list(..) of the argument -/
abbrev KB := List (Str × Bool)
section
variable {X : Cx}
end
/-! ## raise -/
@[simp] def cpL : KB → List D → Option (List D)
  | [], [] => some []
  | (_, false) :: ks, d :: ds => (cpL ks ds).map (d :: ·)
  | (_, true) :: ks, .lst _ xs :: ds => (cpL ks ds).map (.lst .fr xs :: ·)
  | _, _ => none
def dRaiseL (c : Str) (ks : KB) (f : M (List D)) : M Flw := bnd f fun ds ρ => if allFs noBo ds = true then (match cpL ks (mapFs flFrz ds) with
  | some es => .exc c (ks.map (·.1)) es ρ
  | none => .bad) else .bad
theorem Goes.newF {s : S5} {p : Addr} {o : HO} (hp : s.H p = none) (e : ∀ a, O s.φ a → ∃ o, s.H a = some o) (eF : Ex s.F s.H) : Goes [] s { s with H := upd s.H p o, F := upd s.F p o } [] :=
  ⟨(Step.newF hp eF).or0, fun j _ => ⟨rfl, rfl, fun b hb => by
    obtain ⟨o, eo⟩ := e b ⟨j, hb⟩
    exact upd_ne (ne_of_none eo hp)⟩, fun _ _ => rfl⟩
section
variable {T : Tx} {B : Hp} {a C : Addr}
end
section
variable {X : Cx} {G : Gx} {W : WX} {tc : List Nat} {e : Expr} {es : List Expr} {p pos pos2 : Pos}
end
@[simp] theorem post_raiseL {X : XK0} {Q : Flw → En → Prop} {c : Str} {ks : KB} {f : M (List D)} {ρ : En} : Post Q X (dRaiseL c ks f ρ) = Post (fun ds ρ1 => allFs noBo ds = true ∧ match cpL ks (mapFs flFrz ds) with
    | some es => X c (ks.map (·.1)) es ρ1
    | none => False) X (f ρ) := by
  unfold dRaiseL
  rw [post_bnd]
  congr 1
  funext ds ρ1
  by_cases h : allFs noBo ds = true
  · simp only [h, if_true, true_and]
    cases cpL ks (mapFs flFrz ds) <;> rfl
  · rw [if_neg h]
    simp only [h]
    simp
end Cs
namespace Cs
open PySem L2 Evl PyProof.Rows

/-! ## own defs as values: the name stands for the def -/
section
variable {X : Cx} {G : Gx} {W : WX} {a e : Expr} {es : List Expr} {pos p : Pos}
def isFn (i : Nat) (c : Str) : En → Prop := fun ρ => slot i ρ = some (.cls c)
end
end Cs
namespace Cs
open PySem L2 Evl PyProof.Rows

/-! ## min(xs), xs a list of lists of whole numbers -/
def allIL : List D → Option (List (List Int))
  | [] => some []
  | .lst .fr ys :: xs => (match allInt ys, allIL xs with
    | some a, some r => some (a :: r)
    | _, _ => none)
  | _ :: _ => none
def minL (x : List Int) (xs : List (List Int)) : List Int := xs.foldl (fun a y => if ltL y a then y else a) x
theorem allIL_lists : ∀ {nss : List (List Int)}, allIL (nss.map fun a => D.lst .fr (a.map D.int)) = some nss
  | [] => rfl
  | n :: ns => by
    rw [List.map_cons, allIL, allInt_ints, allIL_lists]
def pMinL : D → PR
  | .lst _ xs => (match allIL xs with
    | some (n :: ns) => .sc (.lst .fr ((minL n ns).map .int))
    | _ => .bad)
  | _ => .bad
@[simp] theorem pMinL_i {o : Fl} {n : List Int} {ns : List (List Int)} : pMinL (.lst o ((n :: ns).map fun a => D.lst .fr (a.map D.int))) = .sc (.lst .fr ((minL n ns).map .int)) := by
  unfold pMinL
  dsimp only
  rw [allIL_lists]
/-- the items of a list of lists of ints, as values -/
inductive ILs (H : Hp) : List (List Int) → List V → Prop
  | nil : ILs H [] []
  | cons {a : Addr} {n : List Int} {ns : List (List Int)} {vs : List V} (h : H a = some (.lst (n.map V.int))) (t : ILs H ns vs) : ILs H (n :: ns) (.ref a :: vs)
theorem ILs.mono {H H2 : Hp} (e : Ex H H2) : ∀ {ns : List (List Int)} {vs : List V}, ILs H ns vs → ILs H2 ns vs
  | _, _, .nil => .nil
  | _, _, .cons h t => .cons (e _ _ h) (t.mono e)
theorem ILs.at {H : Hp} : ∀ {nss : List (List Int)} {vs : List V}, ILs H nss vs → ∀ {i : Nat} {n : List Int} {w : V}, nss[i]? = some n → vs[i]? = some w → ∃ a, w = .ref a ∧ H a = some (.lst (n.map V.int))
  | _, _, .nil, i, n, w, h, _ => by simp at h
  | _, _, .cons (a := a) h t, i, n, w, h1, h2 => by
    cases i with
    | zero =>
      simp at h1 h2
      subst h1 h2
      exact ⟨a, rfl, h⟩
    | succ j =>
      simp at h1 h2
      exact t.at h1 h2
/-- operators whose answer is any of several objects that look alike -/
def P1A (T : Tx) (r : V → Hp → VK → Prop) (p : D → PR) : Prop := ∀ B H F d v g, Ex F H → Ex B H → Rep T B H F d v g → p d = .bad ∨ ∃ e, p d = .sc e ∧ ∃ S : V → Prop, (∀ w, S w → Rep T B H F e w []) ∧ ∀ Q : VK, (∀ w, S w → Q w H) → r v H Q
section
variable {T : Tx} {W : WX} {tc : List Nat}
theorem tun_coreA {r : V → Hp → VK → Prop} {p : D → PR} {o : Opd} (hr : P1A T r p) (hf : o.fits tc) {σ : L2.St} {H : Hp} {Q : VK} (h : tD T W tc (dOp1 p o) σ H Q) : tUn r (rdO T W tc o) σ H Q := by
  obtain ⟨B, s, e1, e2, rl, h⟩ := h
  subst e1 e2
  cases o with
  | v f =>
    refine seqE1 rl h fun d v s1 g _ hs r1 t a h => ?_
    rcases hr B s1.H s1.F d v g r1.exF r1.exB t.rep with z | ⟨e, z, S, hS, k⟩
    · rw [z] at h
      exact h.elim
    · rw [z] at h
      exact k Q fun w hw => pr_fin (rd := fun H Q => Q w H) hs r1 a (p := .sc e) ⟨w, hS w hw, fun Q q => q⟩ h
  | p i =>
    obtain ⟨d, e, h⟩ := pk_bnd h
    obtain ⟨v, e2, rp⟩ := rl.sl i d (slot_some e)
    refine ⟨v, e2, ?_⟩
    rcases hr B s.H s.F d v _ rl.exF rl.exB rp with z | ⟨e', z, S, hS, k⟩
    · rw [z] at h
      exact h.elim
    · rw [z] at h
      exact k Q fun w hw => pr_fin (rd := fun H Q => Q w H) rfl rl Goes.refl (p := .sc e') ⟨w, hS w hw, fun Q q => q⟩ h
end
section
variable {X : Cx} {G : Gx} {W : WX} {tc : List Nat} {a : Expr} {o : Opd} {pos p : Pos}
end

/-! ## min of a list that nobody else holds: one of its items is kept -/
section
variable {T : Tx} {W : WX} {tc : List Nat}
end
section
variable {X : Cx} {G : Gx} {W : WX} {tc : List Nat} {a : Expr} {f : M D} {pos p : Pos}
end
end Cs
namespace Cs
open PySem PySem.Spec L2 Evl PyProof.Rows

/-! ## iterators end while an exception is handled -/
section
open HotX
variable {prog : Program} {w : World} {A : Around} {E : Value → Shared → Prop} {s : Shared} {x1 itr src : Addr} {k : Nat} {xs : Array Value} {Q : Option Value → Shared → Prop}
end
end Cs
namespace Cs
open PySem PySem.Spec L2 Evl PyProof.Rows
open L2H (TurnH PIEH PIH HotC RoomH Hot1 PinOk FnH cxH)

/-! ## lists, tuples and ranges walked while an exception is handled -/
section
variable {P : Program} {w : World} {K : PySem.W.Frag} {tg : Expr}
end
section
variable {X : Cx} {tg : Expr}
end
end Cs
namespace Cs
open PySem PySem.Spec L2 Evl PyProof.Rows
open L2H (TurnH PIEH PIH HotC RoomH Hot1 PinOk FnH cxH)

/-! ## a comprehension's block, the handled exception kept in sight -/
section
variable {X : Cx} {pins : List (Addr × Obj)} {σ : L2.St} {H : Hp} {s : Shared} {scope : Scope} {own : List (Str × Nat)} {fp : List Addr}
end
section
variable {X : Cx} {elt tg iter : Expr} {ifs : List Expr} {scope : Scope} {own : List (Str × Nat)} {pos pos' : Pos} {wi : TI} {g : TG} {tt : TT} {te : TE} {use : Option (Value → Sem Unit)}
end
end Cs
namespace Cs
open PySem PySem.Spec L2 Evl PyProof.Rows
open L2H (TurnH PIEH PIH HotC RoomH Hot1 PinOk FnH cxH)

/-- nothing is let out -/
theorem takesN {X : Cx} : L2N.Takes X (fun _ _ _ _ => False) := by
  rintro _ _ ⟨_, _, _, _, _, _, _, _, _, _, _, _, _, _, _, _, h⟩
  exact h.elim
/-! ## the rules while an exception is handled: nothing is let out -/
section
variable {X : Cx} {G : Gx} {W : WX} {tc t1 t2 tb : List Nat} {a b e tge iter : Expr} {es : List Expr} {body : List Stmt} {pos p : Pos} {f u w : M D} {src : M (List D)} {g : M Flw}
end
section
variable {X : Cx} {G : Gx} {W : WX} {t1 tt te to : List Nat} {src : M (List D)} {cond : M Bool} {elt : M D} {tg : Tg} {eltE tgE iter : Expr} {ifs : List Expr} {scope : Scope} {own : List (Str × Nat)} {pos : Pos}
end
end Cs
namespace Cs
open PySem PySem.Spec L2 Evl PyProof.Rows
open L2H (TurnH PIEH PIH HotC RoomH Hot1 PinOk FnH cxH)

/-! ## min of two, y = [..], o.m() while an exception is handled -/
section
open HotX
theorem HotAt.up {A : Around} {x : Addr} {h h' : Heap} (c : HotAt A x h) (k : ∀ o, h.get? x = some o → h'.get? x = some o) : HotAt A x h' := by
  obtain ⟨hh, o, v, g, d, e⟩ := c
  exact ⟨hh, o, v, k _ g, d, e⟩
end
section
variable {X : Cx} {G : Gx} {W : WX} {tc t1 t2 : List Nat} {a b : Expr} {o o1 o2 : Opd} {pos p p2 : Pos}
end
section
variable {X : Cx} {elt tg iter : Expr} {ifs : List Expr} {scope : Scope} {own : List (Str × Nat)} {pos spos py : Pos} {wi : TI} {g : TG} {tt : TT} {te : TE} {i : Nat} {y : Str}
end
section
variable {X : Cx} {G : Gx} {W : WX} {t1 tt te to : List Nat} {src : M (List D)} {cond : M Bool} {elt : M D} {tg : Tg} {eltE tgE iter : Expr} {ifs : List Expr} {scope : Scope} {own : List (Str × Nat)} {pos : Pos}
end
end Cs
namespace Cs
open PySem L2 Evl PyProof.Rows

/-! ## sum(xs), min(xs), max(xs), xs a list of whole numbers -/
def minI (n : Int) (ns : List Int) : Int := ns.foldl min n
def maxI (n : Int) (ns : List Int) : Int := ns.foldl max n
theorem maxI_le : ∀ {ns : List Int} {n : Int}, n ≤ maxI n ns ∧ ∀ y, y ∈ ns → y ≤ maxI n ns
  | [], n => ⟨Int.le_refl _, fun y h => by simp at h⟩
  | a :: ns, n => by
    obtain ⟨h1, h2⟩ := maxI_le (ns := ns) (n := max n a)
    have e : maxI n (a :: ns) = maxI (max n a) ns := rfl
    rw [e]
    refine ⟨by omega, fun y hy => ?_⟩
    rcases List.mem_cons.mp hy with rfl | hy
    · omega
    · exact h2 y hy
theorem maxI_mem : ∀ {ns : List Int} {n : Int}, maxI n ns ∈ n :: ns
  | [], n => by simp [maxI]
  | a :: ns, n => by
    have e : maxI n (a :: ns) = maxI (max n a) ns := rfl
    rw [e]
    rcases List.mem_cons.mp (maxI_mem (ns := ns) (n := max n a)) with h | h
    · rw [h]
      rcases Int.le_total n a with z | z
      · rw [Int.max_eq_right z]; simp
      · rw [Int.max_eq_left z]; simp
    · simp [h]
def pSumI : D → PR
  | .lst _ xs => (match allInt xs with
    | some ns => .sc (.int ns.sum)
    | none => .bad)
  | _ => .bad
def pMinI : D → PR
  | .lst _ xs => (match allInt xs with
    | some (n :: ns) => .sc (.int (minI n ns))
    | _ => .bad)
  | _ => .bad
def pMaxI : D → PR
  | .lst _ xs => (match allInt xs with
    | some (n :: ns) => .sc (.int (maxI n ns))
    | _ => .bad)
  | _ => .bad
@[simp] theorem pSumI_i {o : Fl} {ns : List Int} : pSumI (.lst o (ns.map D.int)) = .sc (.int ns.sum) := by
  unfold pSumI
  dsimp only
  rw [allInt_ints]
@[simp] theorem pMinI_i {o : Fl} {n : Int} {ns : List Int} : pMinI (.lst o ((n :: ns).map D.int)) = .sc (.int (minI n ns)) := by
  unfold pMinI
  dsimp only
  rw [allInt_ints]
@[simp] theorem pMaxI_i {o : Fl} {n : Int} {ns : List Int} : pMaxI (.lst o ((n :: ns).map D.int)) = .sc (.int (maxI n ns)) := by
  unfold pMaxI
  dsimp only
  rw [allInt_ints]
theorem p1_sumI {T : Tx} : P1A T (fun x H Q => rSum T.K [x] H Q) pSumI := by
  intro B H F d v g eF eB r
  cases d with
  | lst o xs =>
    unfold pSumI
    dsimp only
    cases ea : allInt xs with
    | none => exact .inl rfl
    | some ns =>
      have hx := allInt_map ea
      subst hx
      obtain ⟨p, vs, g1, rfl, sq, rp, _⟩ := r.list eF eB
      have := repsI_eq rp
      subst this
      exact .inr ⟨_, rfl, fun w => w = .int ns.sum, fun w hw => by subst hw; exact .int _, fun Q q => ⟨p, ns, rfl, sq, q _ rfl⟩⟩
  | _ => exact .inl rfl
theorem p1_maxI {T : Tx} : P1A T (fun x H Q => rMax T.K [x] H Q) pMaxI := by
  intro B H F d v g eF eB r
  cases d with
  | lst o xs =>
    unfold pMaxI
    dsimp only
    cases ea : allInt xs with
    | none => exact .inl rfl
    | some ns =>
      have hx := allInt_map ea
      subst hx
      obtain ⟨p, vs, g1, rfl, sq, rp, _⟩ := r.list eF eB
      have := repsI_eq rp
      subst this
      cases ns with
      | nil => exact .inl rfl
      | cons n ns =>
        refine .inr ⟨_, rfl, fun w => w = .int (maxI n ns), fun w hw => by subst hw; exact .int _, fun Q q => ⟨p, n :: ns, rfl, sq, by simp, fun m hm hl => ?_⟩⟩
        have e : m = maxI n ns := by
          have h1 := hl _ maxI_mem
          rcases List.mem_cons.mp hm with rfl | h
          · have := (maxI_le (ns := ns) (n := m)).1; omega
          · have := (maxI_le (ns := ns) (n := n)).2 m h; omega
        subst e
        exact q _ rfl
  | _ => exact .inl rfl
section
variable {X : Cx} {G : Gx} {W : WX} {tc : List Nat} {a : Expr} {o : Opd} {pos p : Pos}
theorem g_sumI (hc : X.calm = true) (hg : Gl X "sum") (hm : X.mg "sum" = none) (h : GO X G W tc a o) (hs : starEach [a] X.env = (false, eval a X.env) :: starEach [] X.env := by rfl) : GE X G W tc (.Call (.Name "sum" p) [a] [] pos) (dOp1 pSumI o) :=
  pe_mono (pe_callB (cr_sum hc) hg hm (by decide +kernel) (pa_cons h.pe pa_nil hs) (by decide) (by decide) hs) fun _ _ _ z => tun_coreA (r := fun x H Q => rSum X.K [x] H Q) p1_sumI h.fits z
theorem g_maxI (hc : X.calm = true) (hg : Gl X "max") (hm : X.mg "max" = none) (h : GO X G W tc a o) (hs : starEach [a] X.env = (false, eval a X.env) :: starEach [] X.env := by rfl) : GE X G W tc (.Call (.Name "max" p) [a] [] pos) (dOp1 pMaxI o) :=
  pe_mono (pe_callB (cr_max hc) hg hm (by decide +kernel) (pa_cons h.pe pa_nil hs) (by decide) (by decide) hs) fun _ _ _ z => tun_coreA (r := fun x H Q => rMax X.K [x] H Q) p1_maxI h.fits z
end
end Cs
/-! ## a part of owned data: an item of a list, a field of an own object -/
namespace Cs
open PySem L2 Evl PyProof.Rows
inductive Stp where
  | it (n : Nat)
  | fd (c f : Str)
  | sq (p q : Stp)
/-- where a field stands -/
def pix (f : Str) : List Str → Option Nat
  | [] => none
  | k :: ks => if f = k then some 0 else (pix f ks).map (· + 1)
def pick : Stp → D → Option D
  | .it n, .lst .ow ds => ds[n]?
  | .fd c f, .obj .ow c' ks ds => if c' = c then (pix f ks).bind fun n => ds[n]? else none
  | .sq p q, d => (pick p d).bind (pick q)
  | _, _ => none
def put : Stp → D → D → D
  | .it n, .lst o ds, x => .lst o (ds.set n x)
  | .fd c f, .obj o c' ks ds, x => .obj o c' ks (ds.set ((pix f ks).getD 0) x)
  | .sq p q, d, x => (match pick p d with
    | some y => put p d (put q y x)
    | none => d)
  | _, d, _ => d
/-- the part's value, read off -/
def RdP (T : Tx) : Stp → Hp → V → V → Prop
  | .it n, H, v, x => ∃ a vs, v = .ref a ∧ H a = some (.lst vs) ∧ vs[n]? = some x
  | .fd c f, H, v, x => ∃ a C dx fs, v = .ref a ∧ T.C c = some C ∧ H a = some (.ins C dx fs) ∧ fs.lookup f = some x
  | .sq p q, H, v, x => ∃ y, RdP T p H v y ∧ RdP T q H y x
section
variable {T : Tx} {B H F : Hp}
theorem Reps.split : ∀ {ds : List D} {vs : List V} {g : List Addr} {n : Nat} {d : D}, Reps T B H F ds vs g → ds[n]? = some d → ∃ v gr gk, vs[n]? = some v ∧ (g.Perm (gr ++ gk)) ∧ Rep T B H F d v gk ∧
    ∀ {H' F' : Hp} {d' : D} {gk' : List Addr}, (∀ a ∈ gr, ∀ o, H a = some o → H' a = some o) → Ex F F' → Rep T B H' F' d' v gk' → ∃ g', Reps T B H' F' (ds.set n d') vs g' ∧ g'.Perm (gr ++ gk')
  | _, _, _, n, d, .nil, h => by simp at h
  | _, _, _, 0, d, .cons (d := d0) (ds := ds) (v := v0) (vs := vs) (f := f) (g := g) r rs e, h => by
    cases h
    subst e
    refine ⟨v0, g, f, rfl, List.perm_append_comm, r, fun hk hf r' => ⟨_, .cons r' (rs.mono (Ex.refl B) hf fun a ha o q => hk a ha o q) rfl, List.perm_append_comm⟩⟩
  | _, _, _, n + 1, d, .cons (d := d0) (ds := ds) (v := v0) (vs := vs) (f := f) (g := g) r rs e, h => by
    have h : ds[n]? = some d := h
    subst e
    obtain ⟨v, gr, gk, h1, h2, h3, h4⟩ := Reps.split rs h
    refine ⟨v, f ++ gr, gk, h1, ?_, h3, fun hk hf r' => ?_⟩
    · rw [List.append_assoc]
      exact h2.append_left f
    · obtain ⟨g', q1, q2⟩ := h4 (fun a ha o q => hk a (List.mem_append_right _ ha) o q) hf r'
      refine ⟨f ++ g', .cons (r.mono (Ex.refl B) hf fun a ha o q => hk a (List.mem_append_left _ ha) o q) q1 rfl, ?_⟩
      rw [List.append_assoc]
      exact q2.append_left f
end
/-- slot i stands for its part -/
def fS (s : S5) (i : Nat) (x : D) (vx : V) (gx : List Addr) : S5 := { s with σ := s.σ.set i (some vx), ρ := s.ρ.set i (.dt x), φ := fun j => if j = i then gx else s.φ j }
section
variable {T : Tx} {B : Hp} {s s0 s1 s' : S5} {i : Nat} {d x x' : D} {v vx : V} {gr gx g g0 : List Addr} {u tc : List Nat}
end
section
variable {T : Tx} {B : Hp} {W : WX}
end
/-! ## the rules -/
section
variable {X : Cx} {G : Gx} {W : WX} {a e : Expr} {es : List Expr} {pos p0 apos : Pos}
end
section
variable {X : Cx} {G : Gx} {W : WX} {a b e : Expr} {es : List Expr} {pos p0 apos : Pos}
end
/-! ## posts -/
def hdW (os : En) (K : D → Prop) : Prop := match os with
  | .dt x :: _ => K x
  | _ => False
@[simp] theorem hdW_c {x : D} {os : En} {K : D → Prop} : hdW (.dt x :: os) K = K x := rfl
section
variable {Xx : XK0} {ρ : En} {Q : D → En → Prop}
end
/-! ## arguments at a path -/
inductive PAr where
  | a (r : Arg)
  | p (i : Nat) (q : Stp)
/-- the slots that stand for themselves -/
def own : List PAr → List Nat
  | [] => []
  | .a (.l i, _) :: r => i :: own r
  | .a (.io i, _) :: r => i :: own r
  | .a (.v _, _) :: r => own r
  | .p _ _ :: r => own r
section
variable {T : Tx} {B : Hp} {W : WX}
end
/-- a focus: slot, part, data and value of the whole and of the part, cells of the others and of the part -/
structure Fd where
  i : Nat
  q : Stp
  d : D
  x : D
  v : L2.V
  vx : L2.V
  gr : List Addr
  gx : List Addr
structure FD (T : Tx) (B : Hp) (s : S5) (f : Fd) : Prop where
  sl : s.ρ[f.i]? = some (.dt f.d)
  ev : s.σ[f.i]? = some (some f.v)
  pk : pick f.q f.d = some f.x
  pm : (s.φ f.i).Perm (f.gr ++ f.gx)
  rx : Rep T B s.H s.F f.x f.vx f.gx
  dm : ∀ a ∈ s.φ f.i, ∃ o, s.H a = some o
  rd : ∀ {H' : Hp}, (∀ a ∈ f.gr, ∀ o, s.H a = some o → H' a = some o) → RdP T f.q H' f.v f.vx
  rb : ∀ {H' F' : Hp} {x' : D} {gx' : List Addr}, (∀ a ∈ f.gr, ∀ o, s.H a = some o → H' a = some o) → Ex s.F F' → Rep T B H' F' x' f.vx gx' → ∃ g', Rep T B H' F' (put f.q f.d x') f.v g' ∧ g'.Perm (f.gr ++ gx')
abbrev fS1 (s : S5) (f : Fd) : S5 := fS s f.i f.x f.vx f.gx
section
variable {T : Tx} {B : Hp} {W : WX}
theorem FD.next {s : S5} {f f2 : Fd} (h : FD T B s f2) (hn : f2.i ≠ f.i) : FD T B (fS1 s f) f2 := by
  refine ⟨?_, ?_, h.pk, ?_, h.rx, ?_, h.rd, h.rb⟩
  · show (s.ρ.set f.i _)[f2.i]? = _
    rw [List.getElem?_set_ne (Ne.symm hn)]
    exact h.sl
  · show (s.σ.set f.i _)[f2.i]? = _
    rw [List.getElem?_set_ne (Ne.symm hn)]
    exact h.ev
  · show (if f2.i = f.i then _ else s.φ f2.i).Perm _
    rw [if_neg hn]
    exact h.pm
  · intro a ha
    have ha : a ∈ (if f2.i = f.i then f.gx else s.φ f2.i) := ha
    rw [if_neg hn] at ha
    exact h.dm a ha
end
section
variable {T : Tx} {B : Hp} {W : WX}
end
section
variable {T : Tx} {W : WX}
end
/-! ## written arguments: a part at a written place, or at a place that a name holds -/
section
variable {T : Tx} {B : Hp} {W : WX}
end
section
variable {X : Cx} {G : Gx} {W : WX} {tc : List Nat} {a e : Expr} {es : List Expr} {pos p : Pos}
end
/-! ## [x, ..]: a name is read first, its object is moved behind the other items -/
section
variable {X : Cx} {G : Gx} {W : WX} {t2 : List Nat} {es : List Expr} {pos : Pos}
end
section
variable {Xx : XK0} {ρ : En}
end
end Cs
namespace Cs
open PySem PySem.Spec L2 Evl PyProof.Rows Calls

/-! ## a lambda as a sort's key: one parameter, a reading body -/
/-- the heap is kept, the value is the number n -/
def IntAt (n : Int) (s : Shared) (u : Value) (s' : Shared) : Prop := ∃ (h' : Heap) (tk : Nat) (t : Tok), s' = { s with heap := h', toks := tk } ∧ (∀ b o, s.heap.get? b = some o → h'.get? b = some o) ∧ u = .int n t
theorem IntAt.pure {n : Int} {s : Shared} {u : Value} {s' : Shared} (h : IntAt n s u s') : PySem.W.KeyPure (.int n) s u s' := by
  obtain ⟨h', tk, t, e1, e2, e3⟩ := h
  exact ⟨h', tk, e1, e2, by rw [e3]; exact .int n t⟩
abbrev lenvX (q : Str) (scope : Scope) (L f c' : Addr) (cl : List (Str × Addr)) : Env := PySem.W.envX q scope L f (.ref c') cl
section
variable {prog : Program} {w : World} {A : Around} {s : Shared} {f c' : Addr} {q : Str} {params : Arguments} {body : Expr} {scope : Scope} {cl : List (Str × Addr)} {pm ctv : Value} {a : Str} {v : Value} {n : Int}
theorem lam_call1 (hd : A.depth < recursionLimit) (lim : s.heap.NoLimit) (of1 : s.heap.get? f = some (PySem.W.kla_obj "<lambda>" q params body scope cl pm c' ctv)) (hc : ∃ (oc : Obj) (vs : Array Value) (t : Tok), s.heap.get? c' = some oc ∧ oc.data = .fields vs ∧ vs[1]? = some (.str q t))
    (hk : scope.kind = .function) (hco : scope.isCoroutine = false) (hg : scope.isGenerator = false) (hcell : ∀ y ∈ scope.names, y.2 ≠ .cell) (ha : scope.names.lookup a = some .local)
    (hbind : bindArgs (PySem.W.kla_fn "<lambda>" q params body scope cl pm (.ref c') ctv) ⟨[v], []⟩ = pure [(a, v)])
    (hb : ∀ (h₁ : Heap) (tk : Nat), (∀ b o, s.heap.get? b = some o → h₁.get? b = some o) → h₁.Ns s.heap.objs.size (fun x => [(a, v)].reverse.lookup x) →
      wpAny (model prog w) (A.deeper (lenvX q scope s.heap.objs.size f c' cl)) (eval body (lenvX q scope s.heap.objs.size f c' cl)) (IntAt n { s with heap := h₁, toks := tk }) (fun _ _ => False) { s with heap := h₁, toks := tk }) :
    wpAny (model prog w) A (call (.ref f) [v]) (IntAt n s) (fun _ _ => False) s := by
  obtain ⟨oc, vs, t, hoc, hdc, hvc⟩ := hc
  refine wpAny_call ?_
  refine PySem.W.kla_callFunE hd of1 rfl hco hg rfl ⟨c', oc, vs, t, rfl, hoc, hdc, hvc⟩ ?_
  rw [hbind]
  refine wpAny_pure (wpAny_newFunctionEnv (fun y hy => hcell y hy) (fun y hy => ?_) (fun h₁ hns hsb => ⟨lim.fresh _ hsb, ?_⟩) hk)
  · rw [List.mem_singleton.mp hy]
    exact ha
  · show codeAny _ _ (.expr body (lenvX q scope s.heap.objs.size f c' cl)) _ _
    have kp : ∀ b o, s.heap.get? b = some o → h₁.get? b = some o := fun b o e => hsb.extBut b o (Nat.ne_of_lt (Heap.lt_size e)) (Heap.get?_push_of_some _ e)
    refine PySem.W.kla_codeExpr (wpAny_mono (hb h₁ _ kp hns) (fun u s' hq => ?_) fun e s' hq => hq.elim)
    obtain ⟨h', tk, t, e1, e2, e3⟩ := hq
    exact ⟨h', tk, t, e1, fun b o e => e2 b o (kp b o e), e3⟩
/-- what the body reads: the captured list at p, the item at j -/
structure LamAt (mg : Str → Option Value) (scope : Scope) (cl : List (Str × Addr)) (L : Addr) (h : Heap) (a x : Str) (j : Int) (p : Addr) (its : Array Value) : Prop where
  k : scope.kind = .function
  ka : scope.names.lookup a = some .local
  kx : scope.names.lookup x = some .free
  ns : ∃ t, h.Ns L (fun y => [(a, Value.int j t)].reverse.lookup y)
  cx : ∃ c, cl.lookup x = some c ∧ h.IsCell c (some (.ref p))
  ls : h.IsList p its
  da : (a == ("__debug__" : Str)) = false
  dx : (x == ("__debug__" : Str)) = false
  dc : (x == ("__classdict__" : Str)) = false
variable {mg : Str → Option Value} {L p : Addr} {x : Str} {j : Int} {its : Array Value} {u : Value} {p1 p2 p3 p4 p5 : Pos} {E : Value → Shared → Prop}
theorem lam_ix {Q : Value → Shared → Prop} (h : LamAt mg scope cl L s.heap a x j p its) (h0 : 0 ≤ j) (hf : j < 2 ^ 63) (hx : its[j.toNat]? = some u) (hQ : Q u s) :
    wpAny (model prog w) A (eval (.Subscript (.Name x p2) (.Name a p3) p4) (lenvX q scope L f c' cl)) Q E s := by
  obtain ⟨t, hns⟩ := h.ns
  obtain ⟨c, hc1, hc2⟩ := h.cx
  refine Subscript_ (wpAny_Name (wpAny_loadName_free h.k h.kx hc1 hc2 ?_ h.dc) h.dx)
  refine wpAny_Name (wpAny_loadName_local h.k h.ka hns (v := .int j t) (by simp [List.lookup]) ?_) h.da
  exact item_listR h.ls h0 hf hx hQ
end
end Cs
namespace Cs
open PySem PySem.Spec L2 Evl PyProof.Rows Calls PySem.W
abbrev IsInt (v : Value) (x : Int) : Prop := ∃ t, v = .int x t
abbrev kle (key : Int → Int) (a b : Int) : Bool := decide (key a ≤ key b)
section
variable {prog : Program} {w : World} {A : Around} {s : Shared} {l f : Addr} {key : Int → Int} {ns : List Int} {E : Value → Shared → Prop}
/-- sorted(xs, key=f) of whole numbers -/
theorem sort_keyL {vs : List Value} {Q : Value → Shared → Prop} (hl : s.heap.IsList l vs.toArray) (e : EachIs IsInt vs ns) (hL : ns.length ≤ sizeLine) (hu : A.units + 100 < cLine)
    (turn : ∀ (v : Value) (x : Int), IsInt v x → x ∈ ns → ∀ (h : Heap) (tk : Nat), (∀ b o, s.heap.get? b = some o → h.get? b = some o) → wpAny (model prog w) A.in1.in1 (call (.ref f) [v]) (KeyPure (.int (key x)) { s with heap := h, toks := tk }) (fun _ _ => False) { s with heap := h, toks := tk })
    (h : ∀ (D : Addr) (out : List Value) (c : Nat) (h' : Heap) (tk : Nat), (∀ b o, s.heap.get? b = some o → h'.get? b = some o) → s.heap.get? D = none → h'.get? D = some (seqObj "list" (List.toArray out) c) → EachIs IsInt out (ns.mergeSort (kle key)) → Q (.ref D) { s with heap := h', toks := tk }) :
    wpAny (model prog w) A (call (.builtin "sorted") [.ref l] [(Str.ofString "key", .ref f)]) Q E s := by
  refine sorted_key_data (b := false) (fun x : Int => (.int (key x) : PyData)) hl e (AllAlike.of fun _ _ => rfl) (Sortable.others fun _ => ⟨(by intro z; cases z), (by intro _ z; cases z)⟩) hL (fun x _ => ?_) (ksk_s1 _ _) (fun x => ?_) (fun x => rfl) turn fun out c h' tk kp fr ho _ er => ?_
  · show A.units + 2 + _ < cLine
    have : (PyData.int (key x)).depth ≤ 90 := by simp [PyData.depth]
    omega
  · unfold argsOk; kernel_rfl
  · rw [dataLe_int] at er
    exact h _ out c h' tk kp fr ho er
end
end Cs
namespace Cs
open PySem PySem.Spec L2 Evl PyProof.Rows Calls PySem.W
/-! ## sorted(range(n), key=lambda a: len(x[a])) -/
structure LamK (X : Cx) (T : List (Addr × Str)) (c P : Addr) : Prop where
  tb : LamX.TabB X.base X.mg c P
  code : X.env.code = .ref c
  mem : (P, X.env.qual ++ "<lambda>") ∈ T
  un : ∀ p ∈ T, p.1 = P → p.2 = X.env.qual ++ "<lambda>"
/-- the lambda's own scope: one parameter a, captured names -/
structure LamO (sc scope : Scope) (params : Arguments) (a x : Str) : Prop where
  k : scope.kind = .function
  co : scope.isCoroutine = false
  gen : scope.isGenerator = false
  cell : ∀ y ∈ scope.names, y.2 ≠ .cell
  ka : scope.names.lookup a = some .local
  kx : scope.names.lookup x = some .free
  free : ∀ y ∈ scope.names, y.2 = .free → sc.names.lookup y.1 = some .cell ∨ sc.names.lookup y.1 = some .free
  nl : sc.names.lookup x ≠ some .local
  da : (a == ("__debug__" : Str)) = false
  dx : (x == ("__debug__" : Str)) = false
  dc : (x == ("__classdict__" : Str)) = false
theorem objOk_some {P : Program} {w : World} {H : Hp} {h : Heap} {a : Addr} {o : HO} (x : ObjOk P w H h a o) : ∃ ob, h.get? a = some ob := by
  cases o with
  | lst xs => obtain ⟨_, _, _, _, e⟩ := x; exact ⟨_, e⟩
  | tup xs => obtain ⟨_, _, _, ob, e, _⟩ := x; exact ⟨_, e⟩
  | dK kvs => obtain ⟨_, _, _, _, o, _, _, e, _⟩ := x; exact ⟨_, e⟩
  | dT kvs => obtain ⟨_, _, _, _, o, _, _, e, _⟩ := x; exact ⟨_, e⟩
  | set S n => obtain ⟨o, _, _, _, e, _⟩ := x; exact ⟨_, e⟩
  | ins C dx fs => obtain ⟨_, _, _, e, _⟩ := x; exact ⟨_, e⟩
  | own y => obtain ⟨_, e⟩ := x; exact ⟨_, e⟩
  | xd fs => obtain ⟨_, ⟨_, _, _, e, _⟩, _⟩ := x; exact ⟨_, e⟩
  | rng lo hi => obtain ⟨_, _, _, e⟩ := x; exact ⟨_, e⟩
  | frz ob u => obtain ⟨e, _⟩ := x; exact ⟨_, e⟩
  | tbl ps => exact ⟨_, x⟩
  | met f y => exact ⟨_, x⟩
  | ext φ => obtain ⟨_, ⟨_, e⟩, _⟩ := x; exact ⟨_, e⟩
theorem hp_none {P : Program} {w : World} {H : Hp} {h : Heap} {a : Addr} (x : HOk P w H h) (e : h.get? a = none) : H a = none := by
  cases q : H a with
  | none => rfl
  | some o =>
    obtain ⟨ob, z⟩ := objOk_some (x a o q)
    rw [e] at z
    cases z
/-- a new object, known from now on -/
theorem inv_new {X : Cx} {pins : List (Addr × Obj)} {σ : L2.St} {H : Hp} {s : Shared} {h' : Heap} {tk : Nat} {D : Addr} {o : HO} (I : Inv X pins σ H s) (kp : ∀ b o, s.heap.get? b = some o → h'.get? b = some o) (hD : s.heap.get? D = none) (new : ObjOk X.prog X.w (upd H D o) h' D o) : Inv X pins σ (upd H D o) { s with heap := h', toks := tk } := by
  have nD : H D = none := hp_none I.hok hD
  have ne : ∀ b u, H b = some u → b ≠ D := fun b u e z => by rw [z, nD] at e; cases e
  have ne2 : ∀ b u, s.heap.get? b = some u → b ≠ D := fun b u e z => by rw [z, hD] at e; cases e
  refine I.un ⟨fun b ob e n _ _ => kp b ob e, fun b ob e n _ _ => ⟨ob.slots, kp b ob e⟩, fun b ob e n _ => by rw [upd_ne (ne2 b ob e)]; exact n, fun b ob e _ => ⟨ob, kp b ob e⟩, fun b xs e => by rw [upd_ne (ne b _ e)]; exact e, fun b ob u e => by rw [upd_ne (ne b _ e)]; exact e, fun b ps e => ⟨#[], by rw [upd_ne (ne b _ e), e]; simp⟩⟩ fun b u e => ?_
  by_cases z : b = D
  · subst z
    rw [upd_same] at e
    cases e
    exact new
  · rw [upd_ne z] at e
    exact (I.hok.kept kp b u e).stay (fun _ _ _ q => q) (fun c q => by rw [upd_ne (ne c _ q)]; exact q) fun c xs q => by rw [upd_ne (ne c _ q)]; exact q
theorem vals_each : ∀ {out : List Value} {ks : List Int}, EachIs IsInt out ks → Vals (ks.map V.int) out
  | _, _, .nil => .nil
  | _, _, .cons ⟨t, e⟩ r => .cons ⟨t, e⟩ (vals_each r)
/-- tables that nobody told of are let go -/
theorem inv_cut {X : Cx} {T : List (Addr × Str)} {pins : List (Addr × Obj)} {σ : L2.St} {H : Hp} {s : Shared} (I : Inv X pins σ H s) (h0 : ∀ b ps, X.H_0 b = some (.tbl ps) → b ∈ T.map (·.1)) : Inv X pins σ (cutT T H) s := by
  refine ⟨I.ok, I.os, I.bare, ⟨I.base.keep, I.base.slot, fun b o e n hx => cutT_n (I.base.free b o e n hx), I.base.there, fun b xs e => cutT_nt (I.base.tups b xs e) (fun _ z => (by cases z)), fun b o u e => cutT_nt (I.base.frzs b o u e) (fun _ z => (by cases z)), fun b ps e => ?_⟩, I.loc, I.cell, cutT_n I.free, fun x c e => cutT_n (I.freeC x c e), fun p hp => ?_, cutT_hok I.hok, I.len⟩
  · obtain ⟨more, z⟩ := I.base.tbls b ps e
    refine ⟨more, ?_⟩
    unfold cutT
    rw [z]
    exact if_pos (h0 b ps e)
  · obtain ⟨e1, e2, e3, e4, e5⟩ := I.pin p hp
    exact ⟨e1, cutT_n e2, e3, e4, e5⟩
theorem isl {h h' : Heap} {a : Addr} {its : Array Value} (k : ∀ b o, h.get? b = some o → h'.get? b = some o) (x : h.IsList a its) : h'.IsList a its := let ⟨o, e, r⟩ := x; ⟨o, k _ _ e, r⟩
section
variable {X : Cx} {T : List (Addr × Str)} {c P : Addr} {params : Arguments} {body : Expr} {scope : Scope} {a x : Str} {pins : List (Addr × Obj)} {σ : L2.St} {H : Hp} {s : Shared} {i : Nat}
/-- x's cell, as the lambda sees it -/
theorem lam_cell {p : Addr} (I : Inv X pins σ H s) (O : LamO X.env.scope scope params a x) (hN : X.N[i]? = some x) (hs : σ[i]? = some (some (.ref p))) :
    ∃ c, (cloFrom X.env.cells scope.names []).lookup x = some c ∧ s.heap.IsCell c (some (.ref p)) := by
  obtain ⟨m, hn, hl⟩ := I.loc
  have hfree := O.free (x, .free) (PySem.mem_of_lookup O.kx) rfl
  have hvis : Vis X.env.scope x := hfree.elim (fun k => .inr (.inl k)) (fun k => .inr (.inr k))
  obtain ⟨w', r, q⟩ := hl i x _ hN hs hvis
  cases r
  have hsome : (cloFrom X.env.cells scope.names []).lookup x ≠ none := by
    obtain ⟨c2, h2⟩ := mem_lookup (cloFrom_has (cells := X.env.cells) (acc := []) (PySem.mem_of_lookup O.kx))
    rw [h2]
    exact fun z => by cases z
  obtain ⟨c2, h2⟩ : ∃ c2, (cloFrom X.env.cells scope.names []).lookup x = some c2 := by
    cases e : (cloFrom X.env.cells scope.names []).lookup x with
    | none => exact absurd e hsome
    | some c2 => exact ⟨c2, rfl⟩
  have hfr : ∃ c, X.env.cells.lookup x = some c := I.ok.has x hfree
  have c1 : X.env.cells.lookup x = some c2 := by
    rcases cloFrom_mem (PySem.mem_of_lookup h2) with hm | ⟨h3, h4⟩
    · cases hm
    · obtain ⟨c3, hc⟩ := hfr
      have hc : X.env.cells.lookup x = some c3 := hc
      have e2 : c2 = c3 := by rw [h4, hc] <;> rfl
      rw [e2]
      exact hc
  refine ⟨c2, h2, ?_⟩
  rcases q with ⟨k', _⟩ | ⟨_, c3, e', z⟩
  · exact absurd k' O.nl
  · rw [c1] at e'
    cases e'
    exact z
end
end Cs
namespace Cs
open PySem L2 Evl PyProof.Rows
section
variable {T : Tx} {B : Hp} {s s1 : S5} {tc : List Nat} {g : List Addr}
abbrev S5.at (s : S5) (H2 : Hp) : S5 := { s with H := H2 }
theorem okk_tab (r : Okk T B s) {H2 : Hp} (hE : LamX.ExtN s.H H2) (hT : LamX.Tabs T.tb H2) (hta : ∀ b ps, H2 b = some (.tbl ps) → ∃ q, (b, q) ∈ T.tb) : Okk T B (s.at H2) :=
  ⟨r.len, fun a o e => hE _ _ (r.exB a o e) (r.xt.ntB a o e), fun a o e => hE _ _ (r.exF a o e) (r.xt.ntF a o e), r.exP, fun i d q => by
    obtain ⟨v, e, rp⟩ := r.sl i d q
    exact ⟨v, e, rp.mono (Ex.refl B) (Ex.refl _) fun a ha o e => hE a o e (rp.nt a ha o e)⟩, r.xn, r.em, r.nd, r.dj, r.ap, ⟨r.xt.ntF, r.xt.ntB, hT, hta⟩⟩
theorem goes_tab (r : Okk T B s1) (a : Goes tc s s1 g) {H2 : Hp} (hE : LamX.ExtN s1.H H2) (hT : LamX.Tabs T.tb H2) : Goes tc s (s1.at H2) g := by
  refine ⟨⟨fun b o e n => (a.step.keep b o e n).trans fun u hu => ⟨?_, fun nt => hE b u hu nt⟩, a.step.ext, a.step.fn, a.step.on⟩, fun j hj => ?_, a.sg⟩
  · by_cases nt : Nt u
    · exact ⟨u, hE b u hu nt⟩
    · obtain ⟨ps, rfl⟩ : ∃ ps, u = .tbl ps := by
        refine Classical.byContradiction fun z => nt fun ps e => z ⟨ps, e⟩
      obtain ⟨q, hq⟩ := r.xt.ta b ps hu
      obtain ⟨ps2, h1, _⟩ := hT _ hq
      exact ⟨_, h1⟩
  · obtain ⟨x1, x2, x3⟩ := a.fix j hj
    refine ⟨x1, x2, fun b hb => ?_⟩
    have hb1 : b ∈ s1.φ j := by rw [x2]; exact hb
    obtain ⟨o, e⟩ := r.dom ⟨j, hb1⟩
    rw [← x3 b hb, e]
    exact hE b o e (r.ntO ⟨j, hb1⟩ e)
end
def srtK (n : Nat) (key : Int → Int) : List Int := ((List.range n).map fun (i : Nat) => (i : Int)).mergeSort (kle key)
section
variable {X : Cx} {G : Gx} {W : WX} {tc : List Nat} {ea : Expr} {f : M D} {c P : Addr} {params : Arguments} {scope : Scope} {a x : Str} {i : Nat} {p1 p2 p3 p4 lp kp b1 b2 b3 b4 b5 : Pos}
end
end Cs
namespace Cs
open PySem L2 Evl PyProof.Rows
/-! ## a def whose code object is told -/
theorem okCd {P : Program} {w : World} {K : PySem.W.Frag} {mg : Str → Option Value} {base : Heap} {x qual : Str} {params : Arguments} {body : List Stmt} {scope : Scope} {dvs : List V} {kws : List (Str × V)} {f : Addr} {fd : FuncData}
    {CX : CXT} {N ps : List Str} {k : Nat} {sp : Sp} (F : FunD K x qual params body scope dvs kws f fd) (S : FnScope N ps scope) (len : ∀ vs H Q E, sp vs H Q E → vs.length = ps.length)
    (hbody : ∀ (A : Around) (outer : List Env) (s : Shared) (H : Hp) (vs : List V) (Q : VK) (E : XK), Room k (A.deeper (envOfC qual scope s.heap.objs.size f fd.code)) → sp vs H Q E →
      ∃ t, PSs (cxOf CX P w K mg base N qual scope f fd.code A outer s H E) body t ∧ t { nx := fun _ H' => Q .non H', rt := Q } (start N vs) H) : FnOk P w K mg base CX (k + 1) f fd ps sp := by
  obtain ⟨oc, od, dV, kV, doc, pm, an, cdv, ct, osl, rfl, lk, hcd, _, _⟩ := F.ex
  exact fn_of lk hcd S len fun A outer s H vs Q E hr hsp => hbody A outer s H vs Q E hr hsp
/-- THE RULE for a def: its body has the denotation den -/
theorem fn_denC {P : Program} {w : World} {K : PySem.W.Frag} {mg : Str → Option Value} {base : Heap} {x qual : Str} {st : Stmt} {f : Addr} {fd : FuncData} {N ps : List Str} {k : Nat} {G : Gx} {tc pr : List Nat} {den : M Flw}
    {dvs : List V} {kws : List (Str × V)} (F : FunD K x qual (defArgs st) (defBody st) (defScope st) dvs kws f fd) (S : FnScope N ps (defScope st)) (hpr : ∀ i ∈ pr, i + 1000 ∉ tc)
    (hd : ∀ (A : Around) (outer : List Env) (s : Shared) (H : Hp) (E : XK), Room k (A.deeper (envOfC qual (defScope st) s.heap.objs.size f fd.code)) →
      GSs (cxOf (L2N.CX P w) P w K mg base N qual (defScope st) f fd.code A outer s H E) G (fun cls d _ H => E cls d H) tc (defBody st) den) :
    FnOk P w K mg base (L2N.CX P w) (k + 1) f fd ps (spM ⟨K, G.C, G.P, G.X, G.tb⟩ (run den pr N.length ps.length)) := by
  refine okCd F S (fun vs H Q E h => ?_) (fun A outer s H vs Q E hr h => ⟨_, hd A outer s H E hr, ?_⟩)
  · obtain ⟨B, s, ds, e1, e2, e3, r, h⟩ := h
    have hl := r.len
    rw [e1, e3, List.length_map, List.length_map] at hl
    unfold run at h
    by_cases hn : ds.length = ps.length
    · rw [← hl]
      exact hn
    · rw [if_neg hn] at h
      exact h.elim
  · obtain ⟨B, s0, ds, e1, e2, e3, r, h⟩ := h
    have hl := r.len
    rw [e1, e3, List.length_map, List.length_map] at hl
    unfold run at h
    by_cases hn : ds.length = ps.length
    · rw [if_pos hn] at h
      rw [hl] at hn
      let s1 : S5 := { σ := L2.start N vs, H := s0.H, F := s0.F, ρ := frm N.length ds, φ := s0.φ }
      have r1 : Okk ⟨K, G.C, G.P, G.X, G.tb⟩ B s1 := wide_rel (s := s0) r e1 e3
      have hst : ∀ i, i < vs.length → (L2.start N vs)[i]? = s0.σ[i]? := fun i hi => by
        unfold L2.start
        rw [List.getElem?_append_left (by rw [List.length_map]; exact hi), e1]
      -- the way back
      have way : ∀ s' : S5, Okk ⟨K, G.C, G.P, G.X, G.tb⟩ B s' → (∀ i ∈ pr, s'.σ[i]? = (L2.start N vs)[i]?) → Rel ⟨K, G.C, G.P, G.X, G.tb⟩ s0.σ B s'.H s'.F (outs pr ps.length s'.ρ) (fun i => if (match (outs pr ps.length s'.ρ)[i]? with | some (.dt _) => true | _ => false) = true then s'.φ i else []) := fun s' r' hk => by
        rw [← hn]
        exact back_rel r' e1 fun i hi hl => (hk i hi).trans (hst i hl)
      refine ⟨B, s1, rfl, e2, r1, ?_⟩
      show Post _ _ (den (frm N.length ds))
      cases e : den (frm N.length ds) with
      | bad => rw [e] at h; exact h.elim
      | exc c ks xs ρ =>
        rw [e] at h
        intro cls dd s' e4 r' x a
        subst e4
        exact h cls dd { s' with σ := s0.σ, ρ := outs pr ps.length s'.ρ, φ := _ } rfl rfl (way s' r' fun i hi => a.sg i (hpr i hi)) x (fun i d q => (outs_get q).2.2.2) (a.step.drop fun b q => .inl (back_O q))
      | ok fl ρ =>
        rw [e] at h
        cases fl with
        | nx =>
          intro s' e4 r' a
          subst e4
          exact h .non { s' with σ := s0.σ, ρ := outs pr ps.length s'.ρ, φ := _ } [] rfl rfl (way s' r' fun i hi => a.sg i (hpr i hi)) (Tmp.flat .non) rfl (fun i d q => (outs_get q).2.2.2) (a.step.drop fun b q => q.imp back_O id)
        | rt d =>
          dsimp only at h
          by_cases hb : allF noBo d = true
          · rw [if_pos hb] at h
            intro v s' g e4 r' t a
            subst e4
            exact h v { s' with σ := s0.σ, ρ := outs pr ps.length s'.ρ, φ := _ } g rfl rfl (way s' r' fun i hi => a.sg i (hpr i hi)) ⟨t.rep, t.nd, t.ap, fun b hb q => t.dj b hb (back_O q)⟩ hb (fun i d q => (outs_get q).2.2.2) (a.step.drop fun b q => q.imp back_O id)
          · rw [if_neg hb] at h
            exact h.elim
        | bk => exact h.elim
        | ct => exact h.elim
    · rw [if_neg hn] at h
      exact h.elim
theorem fn_den2C {P : Program} {w : World} {K : PySem.W.Frag} {mg : Str → Option Value} {base : Heap} {x qual : Str} {st : Stmt} {f : Addr} {fd : FuncData} {N ps : List Str} {k : Nat} {G : Gx} {tc pr : List Nat} {den : M Flw}
    (F : Fun K x qual st f fd) (S : FnScope N ps (defScope st)) (hpr : ∀ i ∈ pr, i + 1000 ∉ tc)
    (hd : ∀ (A : Around) (outer : List Env) (s : Shared) (H : Hp) (E : XK), Room k (A.deeper (envOfC qual (defScope st) s.heap.objs.size f fd.code)) →
      L2N.Takes (cxOf (L2N.CX P w) P w K mg base N qual (defScope st) f fd.code A outer s H E) (fun cls d _ H => E cls d H) → PassesOwn (model P w) (cxOf (L2N.CX P w) P w K mg base N qual (defScope st) f fd.code A outer s H E).A (cxOf (L2N.CX P w) P w K mg base N qual (defScope st) f fd.code A outer s H E).env (cxOf (L2N.CX P w) P w K mg base N qual (defScope st) f fd.code A outer s H E).xe →
      (cxOf (L2N.CX P w) P w K mg base N qual (defScope st) f fd.code A outer s H E).A.units + 65 < cLine →
      GSs (cxOf (L2N.CX P w) P w K mg base N qual (defScope st) f fd.code A outer s H E) G (fun cls d _ H => E cls d H) tc (defBody st) den) :
    FnOk P w K mg base (L2N.CX P w) (k + 1) f fd ps (spM ⟨K, G.C, G.P, G.X, G.tb⟩ (run den pr N.length ps.length)) :=
  fn_denC F.toD S hpr fun A outer s H E hr => hd A outer s H E hr (L2N.takes_of rfl rfl rfl rfl) (passes_of rfl) (by have := hr.un; show (A.deeper (envOfC qual (defScope st) s.heap.objs.size f fd.code)).units + 65 < cLine; omega)
theorem lamK_one {X : Cx} {c P : Addr} {q : Str} (tb : LamX.TabB X.base X.mg c P) (code : X.env.code = .ref c) (hq : X.env.qual ++ "<lambda>" = q) : LamK X [(P, q)] c P :=
  ⟨tb, code, by rw [hq]; exact List.mem_singleton.mpr rfl, fun p hp _ => by rw [List.mem_singleton.mp hp, hq]⟩
section
variable {X : Cx} {G : Gx} {W : WX} {tc : List Nat} {ea : Expr} {f : M D} {c P : Addr} {params : Arguments} {scope : Scope} {a x : Str} {i k : Nat} {p1 p2 p3 p4 lp kp b1 b2 b3 b4 b5 : Pos}
end
/-! the head's facts: a table before the written objects -/
theorem in_tail {K : Params → PySem.W.Frag} {as : List Addr} {P : Addr} {o : Obj} {e : ∀ p, as = ((P, o) :: K p).map (·.1)} {w : World} {h : Heap} (Y : (PySem.W.kHook (fun p => (P, o) :: K p) as e).says w h) (hn : (K w.params).lookup P = none) : (K w.params).In h := fun a ob q => by
  have ne : a ≠ P := fun z => by rw [z, hn] at q; cases q
  refine Y a ob ?_
  show List.lookup a ((P, o) :: K w.params) = some ob
  rw [List.lookup_cons]
  have : (a == P) = false := by simpa using ne
  rw [this]
  exact q
theorem in_head {K : Params → PySem.W.Frag} {as : List Addr} {P : Addr} {o : Obj} {e : ∀ p, as = ((P, o) :: K p).map (·.1)} {w : World} {h : Heap} (Y : (PySem.W.kHook (fun p => (P, o) :: K p) as e).says w h) : h.get? P = some o := Y P o (by
  show List.lookup P ((P, o) :: K w.params) = some o
  rw [List.lookup_cons]
  simp)
end Cs
namespace Cs
open PySem L2 Evl PyProof.Rows
/-! ## {} and dict(x) of flat values, texts as keys -/
def dDisp0 : M D := ret (.dct .ow [] [])
/-- a copy of a dict whose values are flat -/
def dDcp (f : M D) : M D := bnd f fun d => match d with
  | .dct o ks ds => if allF noOw (.dct o ks ds) = true then ret (.dct .ow ks ds) else bad
  | _ => bad
section
variable {X : Cx} {G : Gx} {W : WX} {tc : List Nat} {a : Expr} {f : M D} {p pos : Pos}
theorem tmp_newD {T : Tx} {B : Hp} {s : S5} {p : Addr} {ks : List Str} {ds : List D} {vs : List V} (r : Okk T B s) (h : s.H p = none) (hl : ks.length = vs.length) (rp : Reps T B s.H s.F ds vs []) : Tmp T B (s.new p (.dK (kz ks vs))).H s.F s.φ (.dct .ow ks ds) (.ref p) [p] :=
  ⟨.dctO upd_same hl (rp.mono (Ex.refl B) (Ex.refl _) fun a q => by cases q) rfl, List.nodup_cons.mpr ⟨fun q => (by cases q), List.Pairwise.nil⟩, fun a q => by
    rw [List.mem_singleton.mp q]
    exact ⟨r.freeF h, r.freeB h⟩, fun a q => by
    rw [List.mem_singleton.mp q]
    exact r.freeO h⟩
theorem g_disp0 : GE X G W [] (.Dict [] [] pos) dDisp0 :=
  pe_mono pe_dnewK fun σ H Q ⟨B, s, e1, e2, r, hp⟩ => by
    subst e1 e2
    intro q hq
    exact hp (.ref q) (s.new q (.dK [])) [q] rfl rfl (r.new hq) (tmp_newD (ks := []) (vs := []) r hq rfl .nil) (goes_new r hq)
theorem g_dcp (hg : Gl X "dict") (hm : X.mg "dict" = none) (h : GE X G W tc a f) (hs : starEach [a] X.env = (false, eval a X.env) :: starEach [] X.env := by rfl) : GE X G W tc (.Call (.Name "dict" p) [a] [] pos) (dDcp f) :=
  pe_mono (pe_callTy call_dictD hg hm (by decide +kernel) (pa_cons h pa_nil hs) (by decide) (by decide) hs) fun σ H Q ⟨B, s, e1, e2, r, hp⟩ => by
    subst e1 e2
    refine seqE1 r hp fun d v s1 g _ hs r1 t a1 h => ?_
    cases d with
    | dct o ks ds =>
      dsimp only at h
      split at h
      · rename_i hn
        have z := rep_v t.rep hn
        obtain ⟨p, vs, g', rfl, hH, hl, rp⟩ := z.dctS r1.exF r1.exB
        have eg := rp.noO (allF_dct hn).2
        subst eg
        show ∃ a kvs, [V.ref p] = [V.ref a] ∧ Rd s1.H a (HO.dK kvs) ∧ ∀ (p : Addr), s1.H p = none → Q (V.ref p) (upd s1.H p (HO.dK kvs))
        refine ⟨p, kz ks vs, rfl, .inl hH, fun q hq => ?_⟩
        have z := a1.trans0 (goes_new (o := .dK (kz ks vs)) r1 hq)
        rw [List.append_nil] at z
        exact h (.ref q) (s1.new q (.dK (kz ks vs))) [q] rfl hs (r1.new hq) (tmp_newD r1 hq hl rp) z
      · exact h.elim
    | _ => exact h.elim
end
end Cs
/-! ## != of two lists whose items are equal: own objects by their own ==, dicts, nested lists -/
namespace GqN
open PySem PySem.SeqAt GQ
open AutoSeq1 (wpAny_loadPart')
open MeetsSeq MeetsSeq2 MeetsSeq3 SeqRoads2
section
variable {prog : Program} {w : World} {A : Around} {R : Result → Shared → Prop}
/-- the loop behind !=, each pair of items equal: it ends with False -/
theorem loopN (l b : Addr) (N : Nat) (I : Nat → Shared → Prop) (turn : ListI prog w A (fun e s' => R (.error e) s') l b N I) (fin : ∀ s, I N s → R (.ok (.ret (.bool false))) s) :
    ∀ (k i : Nat), N - i = k → i ≤ N → ∀ s, I i s →
      wpAny (model prog w) A.in1 (Builtin.«list.__eq__.loop» ⟨[.ref l, .ref b, rawInt i, rawInt 3], []⟩) (FinOf prog w A R) (fun e s' => R (.error e) s') s
  | 0, i, hk, hi, s, h => by
    obtain ⟨xs, ys, n1, n2, g1, g2, z1, z2, _⟩ := turn _ _ h
    have q : i = N := by omega
    have last := fin s (q ▸ h)
    obtain ⟨hp, g, d, tk, os⟩ := s
    wp_walk using wpAny_loadPart' g1, wpAny_loadPart' g2
    rw [show xs[((i : Nat) : Int).toNat]? = none by simp; omega, show ys[((i : Nat) : Int).toNat]? = none by simp; omega]
    wp_walk using wpAny_loadPart' g1, wpAny_loadPart' g2
    show R (.ok (.ret (.bool (xs.size != ys.size)))) _
    rw [z1, z2]
    simpa using last
  | k + 1, i, hk, hi, s, h => by
    obtain ⟨xs, ys, n1, n2, g1, g2, z1, z2, t⟩ := turn _ _ h
    have b1 : i < xs.size := by omega
    have b2 : i < ys.size := by omega
    have one := t b1 b2
    obtain ⟨hp, g, d, tk, os⟩ := s
    wp_walk using wpAny_loadPart' g1, wpAny_loadPart' g2
    rw [show xs[((i : Nat) : Int).toNat]? = some xs[i] by simp [b1], show ys[((i : Nat) : Int).toNat]? = some ys[i] by simp [b2]]
    refine wpAny_bind (wpAny_mono one (fun r s2 q => ?_) fun _ _ x => x)
    obtain ⟨er, q⟩ := q
    subst er
    have rest := loopN l b N I turn fin k (i + 1) (by omega) (by omega) s2 q
    obtain ⟨hp2, g2, d2, tk2, os2⟩ := s2
    wp_walk
    rw [show ((i : Int) + 1) = ((i + 1 : Nat) : Int) by omega]
    exact ⟨plainId_quiet plain_eq_loop _, codeAny_builtin entry_eq_loop (by
      rw [Around.under_plainId plain_eq_loop _]
      exact rest)⟩
theorem list_neN (l b : Addr) (N : Nat) (I : Nat → Shared → Prop) (turn : ListI prog w A (fun e s' => R (.error e) s') l b N I) (fin : ∀ s, I N s → R (.ok (.ret (.bool false))) s) {s : Shared} (h : I 0 s) :
    wpAny (model prog w) A.in1 (Builtin.«list.__ne__» ⟨[.ref l, .ref b], []⟩) (FinOf prog w A R) (fun e s' => R (.error e) s') s := by
  obtain ⟨xs, ys, n1, n2, g1, g2, z1, z2, _⟩ := turn _ _ h
  have rest := loopN (A := A) (R := R) l b N I turn fin _ 0 rfl (Nat.zero_le _) s h
  obtain ⟨hp, g, d, tk, os⟩ := s
  have f3 := AutoSeq1.sub_list_list
  have hne : ¬ (xs.size != ys.size) = true := by simp [z1, z2]
  wp_walk using wpAny_loadPart' g1, wpAny_loadPart' g2
  exact ⟨plainId_quiet plain_eq_loop _, codeAny_builtin entry_eq_loop (by
    rw [Around.under_plainId plain_eq_loop _]
    exact rest)⟩
end
section
variable {prog : Program} {w : World} {A : Around} {E : Value → Shared → Prop} {s : Shared}
theorem rc_neN {l b : Addr} {N : Nat} {Q : Value → Shared → Prop} (hu : A.units < cLine) (I : Nat → Shared → Prop) (turn : ListI prog w A E l b N I) (fin : ∀ s, I N s → Q (.bool false) s) (h : I 0 s) :
    wpAny (model prog w) A (richCompare .NotEq (.ref l) (.ref b)) Q E s := by
  obtain ⟨xs, ys, n1, n2, g1, g2, _, _, _⟩ := turn _ _ h
  refine wpAny_richCompare_same_room (op := .NotEq) ⟨_, g1, rfl⟩ ⟨_, g2, rfl⟩ F.slot_list_ne (call_here F.slot_list_ne ⟨_, g1, rfl⟩ F.entry_list_ne (F.args_list_ne_2 _ _) ?_) hu
  exact list_neN (R := wants (fun v s' => v ≠ .notImplemented ∧ Q v s') E) l b N I turn (fun s' q => ⟨(fun x => nomatch x), fin s' q⟩) h
end
end GqN
namespace Cs
open PySem L2 Evl PyProof.Rows
section
variable {X : Cx} {n : Nat} {D : Eqv}
/-- != of two lists, their items equal -/
def RcN (X : Cx) (n : Nat) (D : Eqv) : Prop :=
  ∀ (pins : List (Addr × Obj)) (s : Shared) (σ : L2.St) (H : Hp) (x y : V) (u v : Value), Sub X n X.A → Inv X pins σ H s → RelV x u → RelV y v → D x y H →
    wpAny (model X.prog X.w) X.A (richCompare .NotEq u v) (fun r s' => r = .bool false ∧ ∃ H', Inv X pins σ H' s' ∧ Ext H H') X.xe s
theorem rcN_list (hD : Mon D) (h : EqG X n D) : RcN X (n + 1) (DList D) := by
  intro pins s σ H x y u v sb I rx ry d
  obtain ⟨a, b, xs, ys, rfl, rfl, ha, hb, p⟩ := d
  cases rx
  cases ry
  refine GqN.rc_neN (N := xs.length) sb.room.units0 (fun _ s' => LoopI X pins σ H s') (fun i s' q => ?_) (fun s' q => ⟨rfl, q⟩) ⟨H, I, Ext.rfl'⟩
  obtain ⟨H1, I1, e1⟩ := id q
  obtain ⟨z, its, k, r, e⟩ := I1.hok a _ (e1 _ _ ha)
  obtain ⟨z2, its2, k2, r2, e2⟩ := I1.hok b _ (e1 _ _ hb)
  refine ⟨its.toArray, its2.toArray, k, k2, e, e2, by rw [List.size_toArray, ← r.length], by rw [List.size_toArray, ← r2.length, ← p.1], fun h1 h2 => ?_⟩
  exact turnG hD h sb p r r2 i h1 h2 s' q
/-- H', without the tables that H has not -/
def cutN (H H' : Hp) : Hp := fun b => match H' b with
  | some (.tbl _) => H b
  | x => x
def NoT (H H' : Hp) : Prop := ∀ a ps, H' a = some (.tbl ps) → H a = some (.tbl ps)
theorem cutN_nt {H H' : Hp} {b : Addr} {o : HO} (h : H' b = some o) (n : Nt o) : cutN H H' b = some o := by
  unfold cutN
  rw [h]
  cases o <;> first | rfl | exact absurd rfl (n _)
theorem cutN_of {H H' : Hp} (e : Ext H H') {b : Addr} {o : HO} (h : cutN H H' b = some o) : H' b = some o := by
  unfold cutN at h
  split at h
  · exact e _ _ h
  · exact h
theorem cutN_ext {H H' : Hp} (e : Ext H H') : Ext H (cutN H H') := fun a o h => by
  have z := e _ _ h
  unfold cutN
  rw [z]
  cases o <;> first | rfl | exact h
theorem cutN_no {H H' : Hp} : NoT H (cutN H H') := fun a ps h => by
  unfold cutN at h
  split at h
  · exact h
  · rename_i hx
    exact absurd h (hx ps)
theorem cutN_none {H H' : Hp} (e : Ext H H') {b : Addr} (h : H' b = none) : cutN H H' b = none := by
  cases z : cutN H H' b with
  | none => rfl
  | some o => rw [cutN_of e z] at h; cases h
theorem inv_cutN {pins : List (Addr × Obj)} {σ : L2.St} {H H' : Hp} {s0 s : Shared} (I0 : Inv X pins σ H s0) (I : Inv X pins σ H' s) (e : Ext H H') : Inv X pins σ (cutN H H') s where
  ok := I.ok
  os := I.os
  bare := I.bare
  base := {
    keep := I.base.keep
    slot := I.base.slot
    free := fun b o h1 h2 h3 => cutN_none e (I.base.free b o h1 h2 h3)
    there := I.base.there
    tups := fun b xs h => cutN_nt (I.base.tups b xs h) fun _ z => by cases z
    frzs := fun b o u h => cutN_nt (I.base.frzs b o u h) fun _ z => by cases z
    tbls := fun b ps h => by
      obtain ⟨m, z⟩ := I0.base.tbls b ps h
      exact ⟨m, cutN_ext e _ _ z⟩ }
  loc := I.loc
  cell := I.cell
  free := cutN_none e I.free
  freeC := fun x c h => cutN_none e (I.freeC x c h)
  pin := fun p hp => by
    obtain ⟨h1, h2, h3, h4, h5⟩ := I.pin p hp
    exact ⟨h1, cutN_none e h2, h3, h4, h5⟩
  hok := fun a o h => (I.hok a o (cutN_of e h)).stay (fun _ _ _ q => q) (fun b q => cutN_nt q fun _ z => by cases z) fun b xs q => cutN_nt q fun _ z => by cases z
  len := I.len
def rNeG (D : Eqv) : R2 := fun x y H Q => D x y H ∧ ∀ H', Ext H H' → NoT H H' → Q (.bl false) H'
theorem op_neG (h : RcN X n D) (hr : Room n X.A) : OpR X (compareOp .NotEq) (rNeG D) := by
  intro pins s σ H x y v u Q I rx ry hq
  obtain ⟨d, q⟩ := hq
  show wpAny (model X.prog X.w) X.A (richCompare .NotEq v u) (EP X pins σ Q) X.xe s
  refine wpAny_mono (h pins s σ H x y v u ⟨hr, rfl⟩ I rx ry d) (fun r s' z => ?_) fun _ _ x => x
  obtain ⟨er, H', I', e⟩ := z
  subst er
  exact ⟨.bl false, cutN H H', inv_cutN I I' e, rfl, q _ (cutN_ext e) cutN_no⟩
end
/-! the heap may grow behind a value -/
section
variable {T : Tx} {B : Hp} {s s1 : S5} {W : WX} {tc t1 t2 : List Nat} {g : List Addr} {Q : VK}
abbrev S5.grow (s : S5) (H' : Hp) : S5 := { s with H := H' }
theorem Okk.grow (r : Okk T B s) {H' : Hp} (e : Ext s.H H') (n : NoT s.H H') : Okk T B (s.grow H') :=
  ⟨r.len, fun a o h => e _ _ (r.exB a o h), fun a o h => e _ _ (r.exF a o h), r.exP, fun i d q => by
    obtain ⟨v, h1, h2⟩ := r.sl i d q
    exact ⟨v, h1, h2.mono (Ex.refl _) (Ex.refl _) fun a _ o ho => e _ _ ho⟩, r.xn, r.em, r.nd, r.dj, r.ap, ⟨r.xt.ntF, r.xt.ntB, fun p hp => by
    obtain ⟨ps, h1, h2, h3⟩ := r.xt.tb p hp
    exact ⟨ps, e _ _ h1, h2, fun pos cv q => by
      obtain ⟨c, z1, z2⟩ := h3 pos cv q
      exact ⟨c, z1, e _ _ z2⟩⟩, fun a ps h => r.xt.ta a ps (n a ps h)⟩⟩
theorem Tmp.grow {d : D} {v : V} {φ : Nat → List Addr} {H F H' : Hp} (t : Tmp T B H F φ d v g) (e : Ext H H') : Tmp T B H' F φ d v g := ⟨t.rep.mono (Ex.refl _) (Ex.refl _) fun a _ o ho => e _ _ ho, t.nd, t.ap, t.dj⟩
theorem Goes.grow (a : Goes tc s s1 g) (r : Okk T B s1) {H' : Hp} (e : Ext s1.H H') : Goes tc s (s1.grow H') g :=
  ⟨⟨fun c o h n => (a.step.keep c o h n).trans fun u z => .of (e _ _ z), a.step.ext, a.step.fn, a.step.on⟩, fun j h => by
    obtain ⟨x1, x2, x3⟩ := a.fix j h
    refine ⟨x1, x2, fun c hc => ?_⟩
    obtain ⟨o, ho⟩ := r.dom (a := c) ⟨j, by rw [x2]; exact hc⟩
    rw [← x3 c hc, ho]
    exact e _ _ ho, a.sg⟩
abbrev up (Q : VK) : VK := fun v H => ∀ H', Ext H H' → NoT H H' → Q v H'
theorem okE_up {d : D} {ρ : En} (h : okE T B tc s Q d ρ) : okE T B tc s (up Q) d ρ := fun v s' g e1 e2 r t a H' e n => h v (s'.grow H') g e1 e2 (r.grow e n) (t.grow e) (a.grow r e)
theorem tD_up {f : M D} {σ : L2.St} {H : Hp} (h : tD T W tc f σ H Q) : tD T W tc f σ H (up Q) := by
  obtain ⟨B, s, e1, e2, r, h⟩ := h
  exact ⟨B, s, e1, e2, r, h.imp (fun _ _ => okE_up) fun _ _ _ _ h => h⟩
end
/-! ## data that are equal -/
mutual
/-- equal data without objects, nested at most n deep -/
def samD : Nat → D → D → Bool
  | _, .non, .non => true
  | _, .bl a, .bl b => a == b
  | _, .int a, .int b => a == b
  | _, .str a, .str b => a == b
  | n + 1, .lst o xs, .lst p ys => o != .ro && p != .ro && samDs n xs ys
  | n + 1, .dct _ ks xs, .dct _ ls ys => decide (ks = ls) && decide ks.Nodup && samDs n xs ys
  | _, _, _ => false
def samDs : Nat → List D → List D → Bool
  | _, [], [] => true
  | n, x :: xs, y :: ys => samD n x y && samDs n xs ys
  | _, _, _ => false
end

section
variable {T : Tx} {B H F : Hp}
theorem flat_eqV {K : PySem.W.Frag} {n : Nat} {v : V} (h : flatB v = true) : EqV K H (n + 1) v v := .inl ⟨rfl, h⟩
theorem valV_zip {E : V → V → Prop} : ∀ {ks : List Str} {vs us : List V}, ks.Nodup → Paired E vs us → ∀ p ∈ (ks.map Sum.inr).zip vs, ∃ u, valV (((ks.map Sum.inr).zip us : List (Key × V))) p.1 = some u ∧ E p.2 u
  | [], _, _, _, _, p, hp => by simp at hp
  | k :: ks, _, _, _, .nil, p, hp => by simp at hp
  | k :: ks, v :: vs, u :: us, nd, .cons h hs, p, hp => by
    rw [List.map_cons, List.zip_cons_cons] at hp ⊢
    obtain ⟨nk, nd⟩ := List.nodup_cons.mp nd
    rcases List.mem_cons.mp hp with rfl | hp
    · exact ⟨u, valV_pos rfl, h⟩
    · obtain ⟨w, e, q⟩ := valV_zip nd hs p hp
      refine ⟨w, ?_, q⟩
      rw [valV_neg]
      · exact e
      · intro z
        obtain ⟨q1, q2⟩ := p
        have m := (List.of_mem_zip hp).1
        obtain ⟨j, hj, ej⟩ := List.mem_map.mp m
        have z : Sum.inr k = q1 := z
        rw [← ej] at z
        cases z
        exact nk hj
theorem Rep.dict (eF : Ex F H) (eB : Ex B H) {o : Fl} {ks : List Str} {ds : List D} {v : V} {g : List Addr} (r : Rep T B H F (.dct o ks ds) v g) :
    ∃ a vs g', v = .ref a ∧ H a = some (.dK ((ks.map Sum.inr).zip vs)) ∧ ks.length = vs.length ∧ Reps T B H F ds vs g' := by
  cases r with
  | dctF h l r => exact ⟨_, _, _, rfl, eF _ _ h, l, r⟩
  | dctB h l r => exact ⟨_, _, _, rfl, eB _ _ h, l, r⟩
  | dctO h l r e => exact ⟨_, _, _, rfl, h, l, r⟩
mutual
theorem samD_eqV (eF : Ex F H) (eB : Ex B H) : ∀ (n : Nat) (d e : D), samD n d e = true → ∀ {v u : V} {g k : List Addr}, Rep T B H F d v g → Rep T B H F e u k → EqV T.K H (n + 1) v u
  | n, d, e, h, v, u, g, k, r1, r2 => by
    cases d with
    | non =>
      cases e <;> (try (unfold samD at h; cases h))
      cases r1; cases r2
      exact flat_eqV rfl
    | bl a =>
      cases e <;> (try (unfold samD at h; cases h))
      rename_i b
      have q : a = b := by unfold samD at h; exact eq_of_beq h
      subst q
      cases r1; cases r2
      exact flat_eqV rfl
    | int a =>
      cases e <;> (try (unfold samD at h; cases h))
      rename_i b
      have q : a = b := by unfold samD at h; exact eq_of_beq h
      subst q
      cases r1; cases r2
      exact flat_eqV rfl
    | str a =>
      cases e <;> (try (unfold samD at h; cases h))
      rename_i b
      have q : a = b := by unfold samD at h; exact eq_of_beq h
      subst q
      cases r1; cases r2
      exact flat_eqV rfl
    | cls c => unfold samD at h; cases h
    | tup xs => unfold samD at h; cases h
    | obj o c ks xs => unfold samD at h; cases h
    | lst o xs =>
      cases n with
      | zero => unfold samD at h; cases h
      | succ n =>
        cases e <;> (try (unfold samD at h; cases h))
        rename_i p ys
        unfold samD at h
        obtain ⟨h1, h2⟩ := Bool.and_eq_true_iff.mp h
        obtain ⟨a, vs, g1, rfl, q1, s1, _⟩ := r1.list eF eB
        obtain ⟨b, us, g2, rfl, q2, s2, _⟩ := r2.list eF eB
        exact .inr (.inr (.inl ⟨a, b, vs, us, rfl, rfl, q1, q2, samDs_eqV eF eB n xs ys h2 s1 s2⟩))
    | dct o ks xs =>
      cases n with
      | zero => unfold samD at h; cases h
      | succ n =>
        cases e <;> (try (unfold samD at h; cases h))
        rename_i p ls ys
        unfold samD at h
        obtain ⟨h01, h2⟩ := Bool.and_eq_true_iff.mp h
        obtain ⟨h0, h1⟩ := Bool.and_eq_true_iff.mp h01
        have ek : ks = ls := of_decide_eq_true h0
        have nd : ks.Nodup := of_decide_eq_true h1
        subst ek
        obtain ⟨a, vs, g1, rfl, q1, l1, s1⟩ := r1.dict eF eB
        obtain ⟨b, us, g2, rfl, q2, l2, s2⟩ := r2.dict eF eB
        refine .inr (.inr (.inr ⟨a, b, _, _, rfl, rfl, q1, q2, ?_, valV_zip nd (samDs_eqV eF eB n xs ys h2 s1 s2)⟩))
        rw [List.length_zip, List.length_zip, List.length_map, ← l1, ← l2]
theorem samDs_eqV (eF : Ex F H) (eB : Ex B H) : ∀ (n : Nat) (ds es : List D), samDs n ds es = true → ∀ {vs us : List V} {g k : List Addr}, Reps T B H F ds vs g → Reps T B H F es us k → Paired (EqV T.K H (n + 1)) vs us
  | n, [], [], _, _, _, _, _, r1, r2 => by
    cases r1; cases r2
    exact .nil
  | n, [], _ :: _, h, _, _, _, _, _, _ => by unfold samDs at h; cases h
  | n, _ :: _, [], h, _, _, _, _, _, _ => by unfold samDs at h; cases h
  | n, d :: ds, e :: es, h, _, _, _, _, r1, r2 => by
    unfold samDs at h
    obtain ⟨h1, h2⟩ := Bool.and_eq_true_iff.mp h
    cases r1 with
    | cons a1 b1 _ =>
      cases r2 with
      | cons a2 b2 _ => exact .cons (samD_eqV eF eB n d e h1 a1 a2) (samDs_eqV eF eB n ds es h2 b1 b2)
end
end
theorem eqV_mono {K : PySem.W.Frag} {H H' : Hp} (e : Ext H H') : ∀ (n : Nat) (x y : V), EqV K H n x y → EqV K H' n x y
  | 0, _, _, h => h
  | n + 1, x, y, h => by
    rcases h with h | h | h
    · exact .inl h
    · exact .inr (.inl h)
    · rcases h with ⟨a, b, xs, ys, e1, e2, q1, q2, p⟩ | ⟨a, b, ks, ls, e1, e2, q1, q2, hl, p⟩
      · exact .inr (.inr (.inl ⟨a, b, xs, ys, e1, e2, q1.ext e, q2.ext e, Paired.mapP p fun _ _ z => eqV_mono e n _ _ z⟩))
      · exact .inr (.inr (.inr ⟨a, b, ks, ls, e1, e2, e _ _ q1, e _ _ q2, hl, fun r hr => by
          obtain ⟨u, z1, z2⟩ := p r hr
          exact ⟨u, z1, eqV_mono e n _ _ z2⟩⟩))

section
variable {X : Cx} {n : Nat}
theorem eqG_V : EqG X n fun x y H => EqV X.K H 6 x y := by
  intro A pins s σ H x y u v sb I rx ry d
  exact eqV_run I 6 A (by have := sb.room.un; omega) x y u v d rx ry _ _ ⟨rfl, H, I, Ext.rfl'⟩
end
def rNe0 (D : Eqv) : R2 := fun x y H Q => D x y H ∧ Q (.bl false) H
section
variable {T : Tx}
def pNeV : D → D → PR
  | .lst o xs, .lst p ys => if o ≠ .ro ∧ p ≠ .ro ∧ samDs 5 xs ys = true then .sc (.bl false) else .bad
  | _, _ => .bad
theorem pair_prs {D : Eqv} {H : Hp} {E : V → V → Prop} (i : ∀ a b, E a b → D a b H) {xs ys : List V} (h : Paired E xs ys) : Prs D xs ys H := by
  induction h with
  | nil => exact Prs.nil
  | cons h _ ih => exact Prs.cons (i _ _ h) ih
theorem p2_neV : P2 T (rNe0 (DList fun x y H => EqV T.K H 6 x y)) pNeV := by
  intro B H F d v g e u k eF eB r1 r2
  unfold pNeV
  split
  · rename_i o xs p ys
    split
    · rename_i h
      obtain ⟨h1, h2, h3⟩ := h
      obtain ⟨a, vs, g1, rfl, _, s1, q1⟩ := r1.list eF eB
      obtain ⟨b, us, g2, rfl, _, s2, q2⟩ := r2.list eF eB
      exact ⟨_, .bl false, fun Q q => ⟨⟨a, b, vs, us, rfl, rfl, q1 h1, q2 h2, pair_prs (fun _ _ z => z) (samDs_eqV eF eB 5 _ _ h3 s1 s2)⟩, q⟩⟩
    · trivial
  · trivial
end
section
variable {X : Cx} {G : Gx} {W : WX} {t1 t2 : List Nat} {a b : Expr} {pos : Pos} {o1 o2 : Opd}
theorem monV {K : PySem.W.Frag} : Mon fun x y H => EqV K H 6 x y := fun x y H H' e h => eqV_mono e 6 x y h
theorem gt_neV (hr : Room 1 X.A) (h1 : GO X G W t1 a o1) (h2 : GO X G W t2 b o2) : GT X G W (t1 ++ t2) (.Compare a [.NotEq] [b] pos) (dB (dOp2 pNeV o1 o2)) :=
  pt_mono (pt_cmpR (op_neG (rcN_list (n := 0) monV eqG_V) hr) h1.pe h2.pe (nomark _)) fun σ H Q h => by
    have z := top_core (p2_neV (T := tx X G)) h1.fits h2.fits (tD_up (tB_core h))
    exact z
end
/-! what is compared with itself -/
end Cs
namespace Cs
open PySem PySem.Spec L2 Evl PyProof.Rows Calls PySem.W
/-! ## sorted(xs, key=lambda a: y[a]) -/
section
variable {X : Cx} {T : List (Addr × Str)} {c P : Addr} {params : Arguments} {scope : Scope} {a x : Str} {i : Nat}
theorem each_vals : ∀ {ns : List Int} {out : List Value}, Vals (ns.map V.int) out → EachIs IsInt out ns
  | [], _, h => by cases h; exact .nil
  | n :: ns, _, h => by
    cases h with
    | cons r rs => exact .cons r (each_vals rs)
theorem pe_sortIx {ea : Expr} {ta : TE} {p1 p4 lp kp b2 b3 b4 : Pos} (LK : LamK X T c P) (O : LamO X.env.scope scope params a x) (hr : X.A.depth < recursionLimit) (hu : X.A.units + 100 < cLine)
    (hg : Gl X "sorted") (hm : X.mg "sorted" = none) (ha : PE X ea ta) (hN : X.N[i]? = some x) (hdef : defaultsOf params X.env = ([], []))
    (hbind : ∀ (v pm cdv ctv : Value) (cl : List (Str × Addr)), bindArgs (PySem.W.kla_fn "<lambda>" (X.env.qual ++ "<lambda>") params (.Subscript (.Name x b2) (.Name a b3) b4) scope cl pm cdv ctv) ⟨[v], []⟩ = pure [(a, v)])
    (na : starEach [ea] X.env = (false, eval ea X.env) :: starEach [] X.env := by rfl) :
    PE X (.Call (.Name "sorted" p1) [ea] [⟨some "key", .Lambda params (.Subscript (.Name x b2) (.Name a b3) b4) scope lp, kp⟩] p4)
      (fun σ H Q => ta σ H fun v H1 => ∃ (l : Addr) (ns : List Int), v = .ref l ∧ SqL X.K H1 l (ns.map V.int) ∧ ns.length ≤ 100000 ∧ ∃ (p : Addr) (ks : List Int), σ[i]? = some (some (.ref p)) ∧ SqL X.K H1 p (ks.map V.int) ∧ (∀ j ∈ ns, 0 ≤ j ∧ j < ks.length) ∧ LamX.Tabs T H1 ∧ (∀ b ps, H1 b = some (.tbl ps) → ∃ q, (b, q) ∈ T) ∧
        ∀ H2 D, LamX.ExtN H1 H2 → LamX.Tabs T H2 → (∀ b ps, H2 b = some (.tbl ps) → ∃ q, (b, q) ∈ T) → H2 D = none → Q (.ref D) (upd H2 D (.lst ((ns.mergeSort (kle fun j => ks.getD j.toNat 0)).map V.int)))) := by
  refine ⟨fun pins s σ H Q I h => ?_⟩
  refine wpAny_Call_Name_kw (ld_blt I hg hm boot_sorted ?_)
  refine PyProof.Rows.callWith_kw (he := by rw [na]; rfl) (hplain := by rw [na]; rfl) (args_cons (he := na) (thn (ha.run pins s σ H _ I h) fun u s1 ⟨v, H1, I1, rv1, q⟩ => args_nil ?_))
  obtain ⟨l, ns, rfl, hl, hn, p, ks, hs, hsq, hkey, hT, hta, hQ⟩ := q
  cases rv1
  show wpAny _ _ (evalAll ((do let v ← eval _ X.env; standAt p4; pure v) :: [])) _ _ s1
  refine wpAny_evalAll_cons (wpAny_bind (LamX.lam_make2 I1 LK.tb LK.code LK.mem LK.un hT hdef (fun y hy e => I1.ok.has y.1 (O.free y hy e)) fun f c' pm ctv H3 s2 I3 hE3 hT3 of1 hf hfr hco3 => wpAny_bind (wpAny_standAt (wpAny_pure (wpAny_evalAll_nil ?_)))))
  show wpAny _ _ (call (.builtin "sorted") [.ref l] [(Str.ofString "key", .ref f)]) _ _ s2
  have I2 := inv_cut (T := T) I3 fun b ps e => by
    obtain ⟨more, z⟩ := I1.base.tbls b ps e
    obtain ⟨q, hq⟩ := hta b _ z
    exact List.mem_map.mpr ⟨_, hq, rfl⟩
  have hE : LamX.ExtN H1 (cutT T H3) := fun b o e n => cutT_nt (hE3 b o e n) n
  have hT2 : LamX.Tabs T (cutT T H3) := cutT_tabs hT3
  have hta2 : ∀ b ps, cutT T H3 b = some (.tbl ps) → ∃ q, (b, q) ∈ T := fun b ps e => by
    unfold cutT at e
    split at e
    · split at e
      · rename_i hb
        obtain ⟨p, hp, z⟩ := List.mem_map.mp hb
        exact ⟨p.2, by rw [← z]; exact hp⟩
      · cases e
    · rename_i hx
      exact absurd e (hx ps)
  have hco : cutT T H3 c' = some (LamX.CodeO c' (X.env.qual ++ "<lambda>")) := cutT_nt hco3 fun _ z => by unfold LamX.CodeO at z; cases z
  generalize cutT T H3 = H2 at *
  have I2' : Inv X pins σ H2 s2 := I2
  have nt2 : ∀ {q : Addr} {ys : List V}, SqL X.K H1 q ys → SqL X.K H2 q ys := fun {q ys} z => by
    rcases z with (z | ⟨o, z⟩) | z
    · exact .inl (.inl (hE _ _ z fun _ e => by cases e))
    · exact .inl (.inr ⟨o, hE _ _ z fun _ e => by cases e⟩)
    · exact .inr z
  obtain ⟨cc, hc1, hc2⟩ := lam_cell I2' O hN hs
  obtain ⟨its, rv, pl, _⟩ := I2'.list (nt2 hsq)
  obtain ⟨mb, hb1, hb2⟩ := I2'.mod.blt
  obtain ⟨⟨oc, cvs, ct, hoc, hdc, hvc⟩, _, _⟩ := I2'.hok c' _ hco
  obtain ⟨itl, rvl, pll, _⟩ := I2'.list (nt2 hl)
  refine sort_keyL (key := fun j => ks.getD j.toNat 0) (ns := ns) pll.isList (each_vals rvl) (by rw [sizeLine_eq]; omega) hu (fun v j ⟨t, ev⟩ hj h1 tk kp1 => ?_) fun D out cnt h' tk kp hD hoD er => ?_
  · subst ev
    obtain ⟨j0, j1⟩ := hkey j hj
    obtain ⟨jn, rfl⟩ : ∃ jn : Nat, j = (jn : Int) := ⟨j.toNat, by omega⟩
    have hjn : jn < ks.length := by omega
    have e1 : (ks.map V.int)[jn]? = some (.int ks[jn]) := by rw [List.getElem?_map, List.getElem?_eq_getElem hjn]; rfl
    obtain ⟨w1, ew, rw1⟩ := rv.get e1
    have hln := line63
    have SHOWN := I2'.nolimit
    have hz := rv.length
    have hzz : (ks.map V.int).length = ks.length := List.length_map _
    rw [List.length_map] at hz
    refine wpAny_mono (lam_call1 (n := ks.getD ((jn : Int)).toNat 0) (A := X.A.in1.in1) (s := { s2 with heap := h1, toks := tk }) hr (I2'.nolimit.keeps kp1) (kp1 _ _ of1) ⟨oc, cvs, ct, kp1 _ _ hoc, hdc, hvc⟩ O.k O.co O.gen O.cell O.ka (hbind _ _ _ _ _) fun h2 tk2 kp2 hns => ?_) (fun u s' hq => hq.pure) fun e s' hq => hq
    have kp3 : ∀ b o, s2.heap.get? b = some o → h2.get? b = some o := fun b o e => kp2 b o (kp1 b o e)
    refine lam_ix (mg := X.mg) (s := { s2 with heap := h2, toks := tk2 }) (p := p) (its := its.toArray) (j := (jn : Int)) (u := w1) ⟨O.k, O.ka, O.kx, ⟨t, hns⟩, ⟨cc, hc1, hc2.keeps kp3⟩, isl kp3 pl.isList, O.da, O.dx, O.dc⟩ (by omega) (by omega) (by simpa using ew) ?_
    obtain ⟨t', e'⟩ := rw1
    refine ⟨h2, tk2, t', rfl, fun b o e => e, ?_⟩
    rw [e']
    simp [List.getElem?_eq_getElem hjn]
  · have nD : H2 D = none := hp_none I2'.hok hD
    have rv2 := vals_each er
    have hml2 : (ns.mergeSort (kle fun j => ks.getD j.toNat 0)).length = ns.length := List.length_mergeSort _
    refine ⟨.ref D, _, inv_new (o := .lst _) I2' kp hD ⟨?_, out, cnt, rv2, hoD⟩, rfl, hQ H2 D hE hT2 hta2 nD⟩
    rw [List.length_map, hml2, sizeLine_eq]
    omega
end
def srtL (ns : List Int) (key : Int → Int) : List Int := ns.mergeSort (kle key)
/-- sorted(y, key=lambda a: x[a]), lists of whole numbers, y in slot j, x in slot i -/
def dSrtIx (i j : Nat) : M D := fun ρ => match slot j ρ, slot i ρ with
  | some (.lst _ xs), some (.lst _ ys) => (match allInt xs, allInt ys with
    | some ns, some ks => if (∀ m ∈ ns, 0 ≤ m ∧ m < (ks.length : Int)) ∧ ns.length ≤ 100000 then .ok (.lst .ow ((srtL ns fun m => ks.getD m.toNat 0).map D.int)) ρ else .bad
    | _, _ => .bad)
  | _, _ => .bad
section
variable {X : Cx} {G : Gx} {W : WX} {ea : Expr} {c P : Addr} {params : Arguments} {scope : Scope} {a x : Str} {i j k : Nat} {p1 p4 lp kp b2 b3 b4 : Pos}
theorem g_sortIx (LK : LamK X G.tb c P) (O : LamO X.env.scope scope params a x) (hr : Room k X.A)
    (hg : Gl X "sorted") (hm : X.mg "sorted" = none) (ha : GO X G W [] ea (.p j)) (hN : X.N[i]? = some x) (hdef : defaultsOf params X.env = ([], []))
    (hbind : ∀ (v pm cdv ctv : Value) (cl : List (Str × Addr)), bindArgs (PySem.W.kla_fn "<lambda>" (X.env.qual ++ "<lambda>") params (.Subscript (.Name x b2) (.Name a b3) b4) scope cl pm cdv ctv) ⟨[v], []⟩ = pure [(a, v)])
    (na : starEach [ea] X.env = (false, eval ea X.env) :: starEach [] X.env := by rfl) :
    GE X G W [] (.Call (.Name "sorted" p1) [ea] [⟨some "key", .Lambda params (.Subscript (.Name x b2) (.Name a b3) b4) scope lp, kp⟩] p4) (dSrtIx i j) :=
  pe_mono (pe_sortIx (T := G.tb) LK O hr.depth (by have := hr.un; omega) hg hm ha.pe hN hdef hbind na) fun σ H Q ⟨B, s, e1, e2, r, hp⟩ => by
    subst e1 e2
    unfold dSrtIx at hp
    cases hj : slot j s.ρ with
    | none => rw [hj] at hp; exact hp.elim
    | some dj =>
      cases hi : slot i s.ρ with
      | none => rw [hj, hi] at hp; cases dj <;> exact hp.elim
      | some di =>
        rw [hj, hi] at hp
        cases dj with
        | lst oj xs =>
          cases di with
          | lst oi ys =>
            dsimp only at hp
            cases ex : allInt xs with
            | none => rw [ex] at hp; exact hp.elim
            | some ns =>
              cases ey : allInt ys with
              | none => rw [ex, ey] at hp; exact hp.elim
              | some ks =>
                rw [ex, ey] at hp
                dsimp only at hp
                split at hp
                · rename_i hn
                  have hx := allInt_map ex
                  have hy := allInt_map ey
                  subst hx hy
                  obtain ⟨v, ev, rp⟩ := r.sl j _ (slot_some hj)
                  obtain ⟨u, eu, rq⟩ := r.sl i _ (slot_some hi)
                  obtain ⟨l, vs, g1, rfl, sq, rps, _⟩ := rp.list r.exF r.exB
                  obtain ⟨q, us, g2, rfl, sq2, rps2, _⟩ := rq.list r.exF r.exB
                  have e1 := repsI_eq rps
                  have e2 := repsI_eq rps2
                  subst e1 e2
                  refine ⟨_, ev, l, ns, rfl, sq, hn.2, q, ks, eu, sq2, hn.1, r.xt.tb, r.xt.ta, fun H2 D hE hT hta hD => ?_⟩
                  have r2 : Okk (tx X G) B (s.at H2) := okk_tab r hE hT hta
                  have a2 : Goes [] s (s.at H2) [] := goes_tab r Goes.refl hE hT
                  have r3 := r2.new (o := .lst ((srtL ns fun m => ks.getD m.toNat 0).map V.int)) hD
                  have z := a2.trans0 (goes_new (o := .lst ((srtL ns fun m => ks.getD m.toNat 0).map V.int)) r2 hD)
                  rw [List.append_nil] at z
                  exact hp (.ref D) ((s.at H2).new D (.lst _)) [D] rfl rfl r3 (tmp_newL r2 hD repsI_mk) z
                · exact hp.elim
          | _ => exact hp.elim
        | _ => exact hp.elim
end
end Cs
namespace Cs
open PySem PySem.Spec L2 Evl PyProof.Rows Calls
/-! ## x[k] += e, a list of whole numbers -/
def rGetI (K : PySem.W.Frag) : V → V → Hp → VK → Prop := fun x y H Q => ∃ (p : Addr) (ns : List Int) (j : Nat) (a : Int), x = .ref p ∧ y = .int (j : Int) ∧ SqL K H p (ns.map V.int) ∧ ns[j]? = some a ∧ Q (.int a) H
theorem get_ints {X : Cx} : PGet X (rGetI X.K) := by
  intro pins s σ H o i ov iv Q I ro ri h
  obtain ⟨p, ns, j, a, rfl, rfl, hp, ha, q⟩ := h
  cases ro
  obtain ⟨t, rfl⟩ := ri
  obtain ⟨its, r, pl, hz⟩ := I.list hp
  have e1 : (ns.map V.int)[j]? = some (.int a) := by rw [List.getElem?_map, ha]; rfl
  obtain ⟨w, ew, rw'⟩ := r.get e1
  have hn := line63
  have hl := r.length
  have hj : j < its.length := (List.getElem?_eq_some_iff.mp ew).1
  exact wpAny_getItem_list pl.isList (by omega) (by omega) (by simpa using ew) ⟨_, H, I, rw', q⟩
def augN (i : Nat) (fe : M D) (k l : D) : M Flw := match k, l with
  | .int j, .lst _ xs => (match allInt xs with
    | some ns => if 0 ≤ j then (match ns[j.toNat]? with
      | some a => bnd fe fun e => (match e with
        | .int b => dMutL i (setAt (.int j) (.int (a + b)))
        | _ => bad)
      | none => bad) else bad
    | none => bad)
  | _, _ => bad
def dAugI (i : Nat) (fk fe : M D) : M Flw := bnd (dPk i) fun _ => bnd fk fun k => bnd (dPk i) fun l => augN i fe k l
@[simp] theorem post_augI {i : Nat} {fk fe : M D} {Q : Flw → En → Prop} {X : XK0} {ρ : En} : Post Q X (dAugI i fk fe ρ) = slW (slot i ρ) fun _ => Post (fun k ρ1 => slW (slot i ρ1) fun l => Post Q X (augN i fe k l ρ1)) X (fk ρ) := by
  unfold dAugI
  rw [post_dpk]
  congr 1
  funext d0
  rw [post_bnd]
  congr 1
  funext k ρ1
  rw [post_dpk]
section
variable {W : WX} {t1 t2 : List Nat} {u w : M D}
theorem augI_core {T : Tx} {i : Nat} {σ : L2.St} {H : Hp} {E : Ends} (h : tDS T W (t1 ++ (t2 ++ [i])) (dAugI i w u) E σ H) : tAugS (tVar i) (tD T W t1 w) (tD T W t2 u) (rGetI T.K) (ipI fun a b => a + b) rSetL E σ H := by
  obtain ⟨B, s, e1, e2, r, hp⟩ := h
  subst e1 e2
  obtain ⟨d0, e0, hp⟩ := pk_bnd hp
  obtain ⟨v0, ev0, _⟩ := r.sl i d0 (slot_some e0)
  refine ⟨v0, ev0, ?_⟩
  refine seqES r hp (fun _ => memL) fun k vk s1 g1 _ hs1 r1 tk a1 h1 => ?_
  obtain ⟨l, el, h1⟩ := pk_bnd h1
  obtain ⟨v1, ev1, rp1⟩ := r1.sl i l (slot_some el)
  rw [hs1, ev0] at ev1
  cases ev1
  unfold augN at h1
  cases k with
  | int j =>
    obtain ⟨rk, _, _, _⟩ := tk
    cases rk
    cases l with
    | lst ol xs =>
      dsimp only at h1
      cases ex : allInt xs with
      | none => rw [ex] at h1; exact h1.elim
      | some ns =>
        rw [ex] at h1
        dsimp only at h1
        split at h1
        · rename_i h0
          cases ea : ns[j.toNat]? with
          | none => rw [ea] at h1; exact h1.elim
          | some a =>
            rw [ea] at h1
            dsimp only at h1
            have hx := allInt_map ex
            subst hx
            obtain ⟨p, vs, gg, rfl, sq, rps, _⟩ := rp1.list r1.exF r1.exB
            have e1 := repsI_eq rps
            subst e1
            refine ⟨p, ns, j.toNat, a, rfl, by rw [Int.toNat_of_nonneg h0], sq, ea, ?_⟩
            have h' : Post (okS T B (t2 ++ [i]) s1 E) (exS T W B (t2 ++ [i]) s1) _ := h1.imp (fun _ _ q => q.re a1) fun _ _ _ _ q => q.re a1
            rw [← hs1]
            refine seqES r1 h' (fun _ => memL) fun e ve s2 g2 _ hs2 r2 te a2 h2 => ?_
            cases e with
            | int b =>
              obtain ⟨re, _, _, _⟩ := te
              cases re
              refine ⟨a, b, rfl, rfl, ?_⟩
              dsimp only at h2
              obtain ⟨p1, vs1, fp, xs, ys, q1, q2, q3, q4, q5, q6, q7⟩ := mutL_open r2 h2
              rw [hs2, hs1, ev0] at q2
              cases q2
              unfold setAt at q6
              dsimp only at q6
              cases ej : ixN xs.length j with
              | none => rw [ej] at q6; cases q6
              | some n =>
                rw [ej] at q6
                dsimp only at q6
                split at q6
                · rename_i hh
                  cases q6
                  have q4' := q4.noOw hh.1
                  have efp : fp = [] := q4.noO hh.1
                  subst efp
                  have rd2 : Rep T B s2.H s2.F (.int (a + b)) (.int (a + b)) [] := .int _
                  have hok := mut_ok (gt := []) (o := .lst (vs1.set n (.int (a + b)))) (d' := .lst .ow (xs.set n (.int (a + b)))) (g := [p]) r2 q1 (by rw [hs2, hs1]; exact ev0) (by rw [q5]; exact List.mem_cons_self)
                    (.lstO upd_same ((Reps.set rd2 n q4').mono (Ex.refl B) (Ex.refl _) fun x hx => (by cases hx)) rfl) (List.nodup_cons.mpr ⟨fun z => (by cases z), List.Pairwise.nil⟩)
                    (fun x hx => .inl (by rw [q5]; exact hx)) (fun _ h => (by cases h)) (fun _ h => (by cases h))
                  refine ⟨p, vs1, j, n, rfl, by first | rfl | rw [Int.toNat_of_nonneg h0], q3, by rw [← q4.len]; exact ej, ?_⟩
                  have z := q7 _ rfl hok (mut_goes r2 a2.drop0 (by rw [q5]; exact List.mem_cons_self) fun x hx => .inl (by rw [q5]; exact hx))
                  show E.nx s1.σ (upd s2.H p (.lst (vs1.set n (.int (a + b)))))
                  rw [← hs2]
                  exact z
                · cases q6
            | _ => exact h2.elim
        · exact h1.elim
    | _ => exact h1.elim
  | _ => exact h1.elim
end
section
variable {X : Cx} {G : Gx} {W : WX} {t1 t2 : List Nat} {u w : M D} {i : Nat} {x : Str} {b a : Expr} {p pos pos' : Pos}
theorem gs_augI (hv : PE X (.Name x p) (tVar i)) (hk : GE X G W t1 b w) (he : GE X G W t2 a u)
    (ha : ∀ ov iv new, augStore b ov iv new = (do holding [new, ov, iv] (setItem ov iv new); release [new, ov, iv] []; pure .next) := by intros; rfl) : GS X G W (t1 ++ (t2 ++ [i])) (.AugAssign (.Subscript (.Name x p) b pos') .Add a pos) (dAugI i w u) :=
  ps_mono (ps_augS hv hk get_ints he ip_add set_list ha) fun E σ H h => augI_core h
end
end Cs
namespace Lw
open PySem L2 Evl PyProof.Rows Cs
/-- _law_box: 0 _law_script -/
noncomputable def d_law_box : M Flw :=
  (dLendS 0 [] (dRet (dLst (dCons (dFz (dOp1 pList (.v (dSl (dCp 0) (ret none) (dPart (ret (.int 63))))))) (dCons (ret (.int 0)) (dCons (ret (.int 0)) (dCons (ret (.int 0)) dNil)))))))
theorem m_law_box_ex : ∃ m : List D → Res, m = run d_law_box [] 1 1 := ⟨_, rfl⟩
noncomputable def m_law_box : List D → Res := Classical.choose m_law_box_ex
theorem m_law_box_def : m_law_box = run d_law_box [] 1 1 := Classical.choose_spec m_law_box_ex
/-- _law_take: 0 _law_box_here, 1 _law_many, 2 _law_cell, 3 _law_drawn -/
noncomputable def d_law_take_s1 : M Flw :=
  (dIf (dAnd (dB (dOp2 pEq (.v (dOp2 pIx (.p 0) (.v (ret (.int 2))))) (.v (ret (.int 0))))) (dB (dOp2 pLt (.v (dOp2 pIx (.p 0) (.v (ret (.int 1))))) (.v (dOp1 pLen (.v (dOp2 pIx (.p 0) (.v (ret (.int 0)))))))))) (dSeq (dAsg 2 (dOp2 pIx (.v (dOp2 pIx (.p 0) (.v (ret (.int 0))))) (.v (dOp2 pIx (.p 0) (.v (ret (.int 1)))))))
  (dSeq (dSet 0 (ret (.int 1)) (dOp2 pAdd (.v (dOp2 pIx (.p 0) (.v (ret (.int 1))))) (.v (ret (.int 1)))))
  (dIf (dB (dOp2 pGe (.v (dCp 2)) (.v (dOp2 pPow (.v (ret (.int 10))) (.v (ret (.int 18))))))) (dSet 0 (ret (.int 2)) (dOp2 pSub (.v (dCp 2)) (.v (dOp2 pPow (.v (ret (.int 10))) (.v (ret (.int 18))))))) (dSet 0 (ret (.int 3)) (dOp2 pMod (.v (dOp1 pInt (.v (dOp2 pAdd (.v (dOp2 pAdd (.v (dOp2 pMul (.v (dOp2 pIx (.p 0) (.v (ret (.int 3))))) (.v (ret (.int 69621))))) (.v (dCp 2)))) (.v (ret (.int 7))))))) (.v (ret (.int 2147483647)))))))) dNx)
noncomputable def d_law_take_s2 : M Flw :=
  (dIf (dB (dOp2 pGt (.v (dOp2 pIx (.p 0) (.v (ret (.int 2))))) (.v (ret (.int 0))))) (dSeq (dAsg 3 (dOp2 pMod (.v (dOp1 pInt (.v (dOp2 pIx (.p 0) (.v (ret (.int 2))))))) (.v (dCp 1))))
  (dSeq (dSet 0 (ret (.int 2)) (dOp2 pFdiv (.v (dOp2 pIx (.p 0) (.v (ret (.int 2))))) (.v (dCp 1))))
  (dRet (dCp 3)))) dNx)
noncomputable def d_law_take_s3 : M Flw :=
  (dSet 0 (ret (.int 3)) (dOp2 pMod (.v (dOp1 pInt (.v (dOp2 pMul (.v (dOp2 pIx (.p 0) (.v (ret (.int 3))))) (.v (ret (.int 48271))))))) (.v (ret (.int 2147483647)))))
noncomputable def d_law_take_s4 : M Flw :=
  (dRet (dOp2 pMod (.v (dOp2 pFdiv (.v (dOp1 pInt (.v (dOp2 pIx (.p 0) (.v (ret (.int 3))))))) (.v (ret (.int 16))))) (.v (dCp 1))))
noncomputable def d_law_take : M Flw :=
  (dSeq d_law_take_s1
  (dSeq d_law_take_s2
  (dSeq d_law_take_s3
  d_law_take_s4)))
theorem m_law_take_ex : ∃ m : List D → Res, m = run d_law_take [0] 4 2 := ⟨_, rfl⟩
noncomputable def m_law_take : List D → Res := Classical.choose m_law_take_ex
theorem m_law_take_def : m_law_take = run d_law_take [0] 4 2 := Classical.choose_spec m_law_take_ex
/-- _law_name: 0 _law_box_here, 1 _law_names_here, 2 _law_letters, 3 _law_word, 4 _law_k -/
noncomputable def d_law_name_s1 : M Flw :=
  (dAsg 2 (ret (.str "abcdefghijklmnopqrstuvwxyz")))
noncomputable def d_law_name_s2 : M Flw :=
  (dAsg 3 (ret (.str "")))
noncomputable def d_law_name_b3 : M Flw :=
  (dAsg 3 (dOp2 pAdd (.v (dCp 3)) (.v (dOp2 pIx (.v (dCp 2)) (.v (dCall m_law_take [(.io 0, []), (.v (ret (.int 26)), [])]))))))
noncomputable def d_law_name_s3 : M Flw :=
  (dFor (dRg1 (dOp2 pAdd (.v (ret (.int 1))) (.v (dCall m_law_take [(.io 0, []), (.v (ret (.int 4)), [])])))) (.one 4) [] d_law_name_b3)
noncomputable def d_law_name_b5 : M Flw :=
  (dIf (dB (dOp2 pIn (.v (dCp 3)) (.p 1))) (dAsg 3 (dOp2 pAdd (.v (dCp 3)) (.v (ret (.str "x"))))) dNx)
noncomputable def d_law_name_s4 : M Flw :=
  (dFor (dRg1 (dOp1 pLen (.p 1))) (.one 4) [] d_law_name_b5)
noncomputable def d_law_name_s5 : M Flw :=
  (dRet (dCp 3))
noncomputable def d_law_name : M Flw :=
  (dSeq d_law_name_s1
  (dSeq d_law_name_s2
  (dSeq d_law_name_s3
  (dSeq d_law_name_s4
  d_law_name_s5))))
theorem m_law_name_ex : ∃ m : List D → Res, m = run d_law_name [0] 5 2 := ⟨_, rfl⟩
noncomputable def m_law_name : List D → Res := Classical.choose m_law_name_ex
theorem m_law_name_def : m_law_name = run d_law_name [0] 5 2 := Classical.choose_spec m_law_name_ex
/-- _law_names: 0 _law_box_here, 1 _law_size, 2 _law_names_here, 3 _law_k -/
noncomputable def d_law_names_b2 : M Flw :=
  (dApp 2 (dCall m_law_name [(.io 0, []), (.l 2, [])]))
noncomputable def d_law_names : M Flw :=
  (dSeq (dAsg 2 (dLst dNil))
  (dSeq (dFor (dRg1 (dCp 1)) (.one 3) [] d_law_names_b2)
  (dRet (dMv 2))))
theorem m_law_names_ex : ∃ m : List D → Res, m = run d_law_names [0] 4 2 := ⟨_, rfl⟩
noncomputable def m_law_names : List D → Res := Classical.choose m_law_names_ex
theorem m_law_names_def : m_law_names = run d_law_names [0] 4 2 := Classical.choose_spec m_law_names_ex
/-- _law_drawn_pairs: 0 _law_box_here, 1 _law_size, 2 _law_count, 3 _law_pairs, 4 _law_k, 5 _law_upper -/
noncomputable def d_law_drawn_pairs_b2 : M Flw :=
  (dSeq (dAsg 5 (dCall m_law_take [(.io 0, []), (.v (dCp 1), [])]))
  (dApp 3 (dTup (dCons (dCp 5) (dCons (dCall m_law_take [(.io 0, []), (.v (dCp 1), [])]) dNil)))))
noncomputable def d_law_drawn_pairs : M Flw :=
  (dSeq (dAsg 3 (dLst dNil))
  (dSeq (dFor (dRg1 (dOp2 pMul (.v (dCp 2)) (.v (dOp2 pMin (.v (dCp 1)) (.v (ret (.int 1))))))) (.one 4) [] d_law_drawn_pairs_b2)
  (dRet (dMv 3))))
theorem m_law_drawn_pairs_ex : ∃ m : List D → Res, m = run d_law_drawn_pairs [0] 6 3 := ⟨_, rfl⟩
noncomputable def m_law_drawn_pairs : List D → Res := Classical.choose m_law_drawn_pairs_ex
theorem m_law_drawn_pairs_def : m_law_drawn_pairs = run d_law_drawn_pairs [0] 6 3 := Classical.choose_spec m_law_drawn_pairs_ex
/-- _law_named: 0 _law_names_here, 1 _law_pairs, 2 _law_pair -/
noncomputable def d_law_named : M Flw :=
  (dLendS 1 [1002] (dRet (dLc (dIt (dCp 1)) (.one 2) [2] dYes (dTup (dCons (dOp2 pIx (.p 0) (.v (dOp2 pIx (.v (dCp 2)) (.v (ret (.int 0)))))) (dCons (dOp2 pIx (.p 0) (.v (dOp2 pIx (.v (dCp 2)) (.v (ret (.int 1)))))) dNil))))))
theorem m_law_named_ex : ∃ m : List D → Res, m = run d_law_named [] 3 2 := ⟨_, rfl⟩
noncomputable def m_law_named : List D → Res := Classical.choose m_law_named_ex
theorem m_law_named_def : m_law_named = run d_law_named [] 3 2 := Classical.choose_spec m_law_named_ex
/-- check_name: 0 name, 1 letter -/
noncomputable def d_check_name_b3 : M Flw :=
  (dIf (dB (dOp2 pNotIn (.v (dCp 1)) (.v (ret (.str "abcdefghijklmnopqrstuvwxyz"))))) (dRaise "InvalidName" ["name"] (dCons (dCp 0) dNil)) dNx)
noncomputable def d_check_name : M Flw :=
  (dSeq (dIf (dNot (dB (dChn pLe pLe (ret (.int 1)) (dOp1 pLen (.v (dCp 0))) (ret (.int 12))))) (dRaise "InvalidName" ["name"] (dCons (dCp 0) dNil)) dNx)
  (dFor (dIt (dCp 0)) (.one 1) [] d_check_name_b3))
theorem m_check_name_ex : ∃ m : List D → Res, m = run d_check_name [] 2 1 := ⟨_, rfl⟩
noncomputable def m_check_name : List D → Res := Classical.choose m_check_name_ex
theorem m_check_name_def : m_check_name = run d_check_name [] 2 1 := Classical.choose_spec m_check_name_ex
/-- check_makes: 0 makes, 1 seen, 2 name -/
noncomputable def d_check_makes_b4 : M Flw :=
  (dSeq (dExpr (dCall m_check_name [(.v (dCp 2), [])]))
  (dSeq (dIf (dB (dOp2 pIn (.v (dCp 2)) (.p 1))) (dRaise "DuplicateMake" ["name"] (dCons (dCp 2) dNil)) dNx)
  (dApp 1 (dCp 2))))
noncomputable def d_check_makes : M Flw :=
  (dSeq (dIf (dB (dOp2 pGt (.v (dOp1 pLen (.p 0))) (.v (ret (.int 12))))) (dRaise "Full" ["most"] (dCons (ret (.int 12)) dNil)) dNx)
  (dSeq (dAsg 1 (dLst dNil))
  (dLendS 0 [2, 1002, 1] (dFor (dIt (dCp 0)) (.one 2) [] d_check_makes_b4))))
theorem m_check_makes_ex : ∃ m : List D → Res, m = run d_check_makes [] 3 1 := ⟨_, rfl⟩
noncomputable def m_check_makes : List D → Res := Classical.choose m_check_makes_ex
theorem m_check_makes_def : m_check_makes = run d_check_makes [] 3 1 := Classical.choose_spec m_check_makes_ex
/-- check_known: 0 makes, 1 names, 2 name -/
noncomputable def d_check_known_b1 : M Flw :=
  (dIf (dB (dOp2 pNotIn (.v (dCp 2)) (.p 0))) (dRaise "UnknownMake" ["name"] (dCons (dCp 2) dNil)) dNx)
noncomputable def d_check_known : M Flw :=
  (dLendS 1 [2, 1002] (dFor (dIt (dCp 1)) (.one 2) [] d_check_known_b1))
theorem m_check_known_ex : ∃ m : List D → Res, m = run d_check_known [] 3 2 := ⟨_, rfl⟩
noncomputable def m_check_known : List D → Res := Classical.choose m_check_known_ex
theorem m_check_known_def : m_check_known = run d_check_known [] 3 2 := Classical.choose_spec m_check_known_ex
/-- check_pairs: 0 makes, 1 pairs, 2 upper, 3 lower -/
noncomputable def d_check_pairs_b1 : M Flw :=
  (dExpr (dCall m_check_known [(.l 0, []), (.v (dTup (dCons (dCp 2) (dCons (dCp 3) dNil))), [])]))
noncomputable def d_check_pairs : M Flw :=
  (dLendS 1 [2, 1002, 3, 1003] (dFor (dIt (dCp 1)) (.tup [2, 3]) [] d_check_pairs_b1))
theorem m_check_pairs_ex : ∃ m : List D → Res, m = run d_check_pairs [] 4 2 := ⟨_, rfl⟩
noncomputable def m_check_pairs : List D → Res := Classical.choose m_check_pairs_ex
theorem m_check_pairs_def : m_check_pairs = run d_check_pairs [] 4 2 := Classical.choose_spec m_check_pairs_ex
/-- closed_rows: 0 rows, 1 closed, 2 middle, 3 through, 4 upper -/
noncomputable def d_closed_rows_b4 : M Flw :=
  (dIf (dB (dOp2 pEq (.v (dOp2 pBand (.v (dOp2 pShr (.v (dOp2 pIx (.p 1) (.v (dCp 4)))) (.v (dCp 2)))) (.v (ret (.int 1))))) (.v (ret (.int 1))))) (dSet 1 (dCp 4) (dOp2 pBor (.v (dOp2 pIx (.p 1) (.v (dCp 4)))) (.v (dCp 3)))) dNx)
noncomputable def d_closed_rows_b2 : M Flw :=
  (dSeq (dAsg 3 (dOp2 pIx (.p 1) (.v (dCp 2))))
  (dFor (dRg1 (dOp1 pLen (.p 1))) (.one 4) [] d_closed_rows_b4))
noncomputable def d_closed_rows : M Flw :=
  (dSeq (dAsg 1 (dOp1 pList (.p 0)))
  (dSeq (dFor (dRg1 (dOp1 pLen (.p 1))) (.one 2) [] d_closed_rows_b2)
  (dRet (dMv 1))))
theorem m_closed_rows_ex : ∃ m : List D → Res, m = run d_closed_rows [] 5 1 := ⟨_, rfl⟩
noncomputable def m_closed_rows : List D → Res := Classical.choose m_closed_rows_ex
theorem m_closed_rows_def : m_closed_rows = run d_closed_rows [] 5 1 := Classical.choose_spec m_closed_rows_ex
/-- rows_of: 0 names, 1 pairs, 2 at, 3 name, 4 place, 5 rows, 6 upper, 7 lower -/
noncomputable def d_rows_of_s1 : M Flw :=
  (dAsg 4 (dDc (dEnT (dCp 0)) (.tup [2, 3]) [2, 3] dYes (dCp 3) (dCp 2)))
noncomputable def d_rows_of_s2 : M Flw :=
  (dAsg 5 (dLc (dRg1 (dOp1 pLen (.v (dCp 0)))) (.one 2) [2] dYes (dOp2 pShl (.v (ret (.int 1))) (.v (dCp 2)))))
noncomputable def d_rows_of_b3 : M Flw :=
  (dSeq (dAsg 2 (dOp2 pDix (.p 4) (.v (dCp 6))))
  (dSet 5 (dCp 2) (dOp2 pBor (.v (dOp2 pIx (.p 5) (.v (dCp 2)))) (.v (dOp2 pShl (.v (ret (.int 1))) (.v (dOp2 pDix (.p 4) (.v (dCp 7)))))))))
noncomputable def d_rows_of_s3 : M Flw :=
  (dLendS 1 [6, 1006, 7, 1007, 2, 1002, 5] (dFor (dIt (dCp 1)) (.tup [6, 7]) [] d_rows_of_b3))
noncomputable def d_rows_of_s4 : M Flw :=
  (dRet (dOp1 pTuple (.v (dCall m_closed_rows [(.l 5, [])]))))
noncomputable def d_rows_of : M Flw :=
  (dSeq d_rows_of_s1
  (dSeq d_rows_of_s2
  (dSeq d_rows_of_s3
  d_rows_of_s4)))
theorem m_rows_of_ex : ∃ m : List D → Res, m = run d_rows_of [] 8 2 := ⟨_, rfl⟩
noncomputable def m_rows_of : List D → Res := Classical.choose m_rows_of_ex
theorem m_rows_of_def : m_rows_of = run d_rows_of [] 8 2 := Classical.choose_spec m_rows_of_ex
/-- Order.__init__: 0 self, 1 makes, 2 pairs -/
noncomputable def d_Order___init___s1 : M Flw :=
  (dExpr (dCall m_check_makes [(.l 1, [])]))
noncomputable def d_Order___init___s2 : M Flw :=
  (dExpr (dCall m_check_pairs [(.l 1, []), (.l 2, [])]))
noncomputable def d_Order___init___s3 : M Flw :=
  (dSetF 0 "Order" "names" (dOp1 pTuple (.p 1)))
noncomputable def d_Order___init___s4 : M Flw :=
  (dSetF 0 "Order" "rows" (dCall m_rows_of [(.v (dOp1 (pFld "Order" "names") (.p 0)), []), (.l 2, [])]))
noncomputable def d_Order___init__ : M Flw :=
  (dSeq d_Order___init___s1
  (dSeq d_Order___init___s2
  (dSeq d_Order___init___s3
  d_Order___init___s4)))
theorem m_Order___init___ex : ∃ m : List D → Res, m = run d_Order___init__ [0] 3 3 := ⟨_, rfl⟩
noncomputable def m_Order___init__ : List D → Res := Classical.choose m_Order___init___ex
theorem m_Order___init___def : m_Order___init__ = run d_Order___init__ [0] 3 3 := Classical.choose_spec m_Order___init___ex
/-- _law_closed: 0 _law_size, 1 _law_pairs, 2 _law_reach, 3 _law_a, 4 _law_b, 5 _law_pair, 6 _law_m -/
noncomputable def d_law_closed_s1 : M Flw :=
  (dAsg 2 (dLst dNil))
noncomputable def d_law_closed_b2 : M Flw :=
  (dApp 2 (dLc (dRg1 (dCp 0)) (.one 4) [4] dYes (dOp2 pEq (.v (dCp 3)) (.v (dCp 4)))))
noncomputable def d_law_closed_s2 : M Flw :=
  (dFor (dRg1 (dCp 0)) (.one 3) [] d_law_closed_b2)
noncomputable def d_law_closed_b4 : M Flw :=
  (dSet2 2 (dOp2 pIx (.v (dCp 5)) (.v (ret (.int 0)))) (dOp2 pIx (.v (dCp 5)) (.v (ret (.int 1)))) (ret (.bl true)))
noncomputable def d_law_closed_s3 : M Flw :=
  (dLendS 1 [5, 1005, 2] (dFor (dIt (dCp 1)) (.one 5) [] d_law_closed_b4))
noncomputable def d_law_closed_b9 : M Flw :=
  (dIf (dLendT 2 [] (dTru (.v (dOp2 pIx (.v (dOp2 pIx (.p 2) (.v (dCp 6)))) (.v (dCp 4)))))) (dSet2 2 (dCp 3) (dCp 4) (ret (.bl true))) dNx)
noncomputable def d_law_closed_b7 : M Flw :=
  (dIf (dLendT 2 [] (dTru (.v (dOp2 pIx (.v (dOp2 pIx (.p 2) (.v (dCp 3)))) (.v (dCp 6)))))) (dFor (dRg1 (dCp 0)) (.one 4) [] d_law_closed_b9) dNx)
noncomputable def d_law_closed_b6 : M Flw :=
  (dFor (dRg1 (dCp 0)) (.one 3) [] d_law_closed_b7)
noncomputable def d_law_closed_s4 : M Flw :=
  (dFor (dRg1 (dCp 0)) (.one 6) [] d_law_closed_b6)
noncomputable def d_law_closed_s5 : M Flw :=
  (dRet (dMv 2))
noncomputable def d_law_closed : M Flw :=
  (dSeq d_law_closed_s1
  (dSeq d_law_closed_s2
  (dSeq d_law_closed_s3
  (dSeq d_law_closed_s4
  d_law_closed_s5))))
theorem m_law_closed_ex : ∃ m : List D → Res, m = run d_law_closed [] 7 2 := ⟨_, rfl⟩
noncomputable def m_law_closed : List D → Res := Classical.choose m_law_closed_ex
theorem m_law_closed_def : m_law_closed = run d_law_closed [] 7 2 := Classical.choose_spec m_law_closed_ex
/-- _law_chairs: 0 _law_box_here, 1 _law_names_here, 2 _law_most, 3 _law_k -/
noncomputable def d_law_chairs : M Flw :=
  (dSeq (dIf (dB (dOp2 pEq (.v (dOp1 pLen (.p 1))) (.v (ret (.int 0))))) (dRet (dLst dNil)) dNx)
  (dRet (dLc (dRg1 (dCall m_law_take [(.io 0, []), (.v (dOp2 pAdd (.v (dCp 2)) (.v (ret (.int 1)))), [])])) (.one 3) [3] dYes (dOp2 pIx (.p 1) (.v (dCall m_law_take [(.io 0, []), (.v (dOp1 pLen (.p 1)), [])]))))))
theorem m_law_chairs_ex : ∃ m : List D → Res, m = run d_law_chairs [0] 4 3 := ⟨_, rfl⟩
noncomputable def m_law_chairs : List D → Res := Classical.choose m_law_chairs_ex
theorem m_law_chairs_def : m_law_chairs = run d_law_chairs [0] 4 3 := Classical.choose_spec m_law_chairs_ex
/-- _law_heights: 0 _law_box_here, 1 _law_names_here, 2 _law_chairs_here, 3 _law_heights_here, 4 _law_order, 5 _law_name_here, 6 _law_high -/
noncomputable def d_law_heights_s1 : M Flw :=
  (dAsg 3 dDisp0)
noncomputable def d_law_heights_s2 : M Flw :=
  (dAsg 4 (dOp1 pList (.p 1)))
noncomputable def d_law_heights_s3 : M Flw :=
  (dIf (dB (dOp2 pEq (.v (dCall m_law_take [(.io 0, []), (.v (ret (.int 2)), [])])) (.v (ret (.int 1))))) (dRev 4) dNx)
noncomputable def d_law_heights_s4 : M Flw :=
  (dIf (dB (dOp2 pEq (.v (dCall m_law_take [(.io 0, []), (.v (ret (.int 3)), [])])) (.v (ret (.int 1))))) (dDPut 3 (ret (.str "zzzzzzzz")) (ret (.int 7))) dNx)
noncomputable def d_law_heights_b7 : M Flw :=
  (dSeq (dAsg 6 (dOp2 pIx (.v (dLst (dCons (dOp2 pAdd (.v (ret (.int 1))) (.v (dCall m_law_take [(.io 0, []), (.v (ret (.int 9)), [])]))) (dCons (dOp2 pAdd (.v (ret (.int 1))) (.v (dCall m_law_take [(.io 0, []), (.v (ret (.int 1000)), [])]))) dNil)))) (.v (dCall m_law_take [(.io 0, []), (.v (ret (.int 2)), [])]))))
  (dIf (dOr (dB (dOp2 pIn (.v (dCp 5)) (.p 2))) (dB (dOp2 pEq (.v (dCall m_law_take [(.io 0, []), (.v (ret (.int 2)), [])])) (.v (ret (.int 0)))))) (dDPut 3 (dCp 5) (dCp 6)) dNx))
noncomputable def d_law_heights_s5 : M Flw :=
  (dLendS 4 [5, 1005, 0, 6, 1006, 3] (dFor (dIt (dCp 4)) (.one 5) [] d_law_heights_b7))
noncomputable def d_law_heights_s6 : M Flw :=
  (dRet (dMv 3))
noncomputable def d_law_heights : M Flw :=
  (dSeq d_law_heights_s1
  (dSeq d_law_heights_s2
  (dSeq d_law_heights_s3
  (dSeq d_law_heights_s4
  (dSeq d_law_heights_s5
  d_law_heights_s6)))))
theorem m_law_heights_ex : ∃ m : List D → Res, m = run d_law_heights [0] 7 3 := ⟨_, rfl⟩
noncomputable def m_law_heights : List D → Res := Classical.choose m_law_heights_ex
theorem m_law_heights_def : m_law_heights = run d_law_heights [0] 7 3 := Classical.choose_spec m_law_heights_ex
/-- _law_above: 0 _law_reach, 1 _law_places, 2 _law_i, 3 _law_j -/
noncomputable def d_law_above : M Flw :=
  (dLendS 0 [] (dRet (dAndV (dOp2 pIx (.v (dOp2 pIx (.p 0) (.v (dOp2 pIx (.p 1) (.v (dCp 2)))))) (.v (dOp2 pIx (.p 1) (.v (dCp 3))))) (dOrV (dOp2 pGt (.v (dCp 2)) (.v (dCp 3))) (dNotV (dOp2 pIx (.v (dOp2 pIx (.p 0) (.v (dOp2 pIx (.p 1) (.v (dCp 3)))))) (.v (dOp2 pIx (.p 1) (.v (dCp 2))))))))))
theorem m_law_above_ex : ∃ m : List D → Res, m = run d_law_above [] 4 4 := ⟨_, rfl⟩
noncomputable def m_law_above : List D → Res := Classical.choose m_law_above_ex
theorem m_law_above_def : m_law_above = run d_law_above [] 4 4 := Classical.choose_spec m_law_above_ex
/-- _law_levels: 0 _law_reach, 1 _law_places, 2 _law_own, 3 _law_levels_here, 4 _law_k, 5 _law_i, 6 _law_j -/
noncomputable def d_law_levels_b4 : M Flw :=
  (dIf (dAnd (dB (dOp2 pNe (.v (dCp 5)) (.v (dCp 6)))) (dB (dCall m_law_above [(.l 0, []), (.l 1, []), (.v (dCp 5), []), (.v (dCp 6), [])]))) (dSet 3 (dCp 5) (dOp2 pMax (.v (dOp2 pIx (.p 3) (.v (dCp 5)))) (.v (dOp2 pAdd (.v (dOp2 pIx (.p 3) (.v (dCp 6)))) (.v (dOp2 pIx (.p 2) (.v (dCp 5)))))))) dNx)
noncomputable def d_law_levels_b3 : M Flw :=
  (dFor (dRg1 (dOp1 pLen (.p 1))) (.one 6) [] d_law_levels_b4)
noncomputable def d_law_levels_b2 : M Flw :=
  (dFor (dRg1 (dOp1 pLen (.p 1))) (.one 5) [] d_law_levels_b3)
noncomputable def d_law_levels : M Flw :=
  (dSeq (dAsg 3 (dOp1 pList (.p 2)))
  (dSeq (dFor (dRg1 (dOp1 pLen (.p 1))) (.one 4) [] d_law_levels_b2)
  (dRet (dMv 3))))
theorem m_law_levels_ex : ∃ m : List D → Res, m = run d_law_levels [] 7 3 := ⟨_, rfl⟩
noncomputable def m_law_levels : List D → Res := Classical.choose m_law_levels_ex
theorem m_law_levels_def : m_law_levels = run d_law_levels [] 7 3 := Classical.choose_spec m_law_levels_ex
/-- _law_stands: 0 _law_reach, 1 _law_places, 2 _law_stack, 3 _law_at -/
noncomputable def d_law_stands_b1 : M Flw :=
  (dIf (dLendT 0 [] (dNot (dTru (.v (dOp2 pIx (.v (dOp2 pIx (.p 0) (.v (dOp2 pIx (.p 1) (.v (dOp2 pIx (.p 2) (.v (dCp 3)))))))) (.v (dOp2 pIx (.p 1) (.v (dOp2 pIx (.p 2) (.v (dOp2 pSub (.v (dCp 3)) (.v (ret (.int 1)))))))))))))) (dRet (ret (.bl false))) dNx)
noncomputable def d_law_stands : M Flw :=
  (dSeq (dFor (dRg2 (ret (.int 1)) (dOp1 pLen (.p 2))) (.one 3) [] d_law_stands_b1)
  (dRet (ret (.bl true))))
theorem m_law_stands_ex : ∃ m : List D → Res, m = run d_law_stands [] 4 3 := ⟨_, rfl⟩
noncomputable def m_law_stands : List D → Res := Classical.choose m_law_stands_ex
theorem m_law_stands_def : m_law_stands = run d_law_stands [] 4 3 := Classical.choose_spec m_law_stands_ex
/-- _law_grown: 0 _law_box_here, 1 _law_reach, 2 _law_places, 3 _law_levels_here, 4 _law_at, 5 _law_order, 6 _law_stack -/
noncomputable def d_law_grown_s1 : M Flw :=
  (dAsg 5 (dLc (dRg1 (dOp1 pLen (.p 2))) (.one 4) [4] (dB (dOp2 pGt (.v (dCall m_law_take [(.io 0, []), (.v (ret (.int 3)), [])])) (.v (ret (.int 0))))) (dCp 4)))
noncomputable def d_law_grown_s2 : M Flw :=
  (dAsg 5 (dSrtIx 3 5))
noncomputable def d_law_grown_s3 : M Flw :=
  (dAsg 6 (dLst dNil))
noncomputable def d_law_grown_b4 : M Flw :=
  (dIf (dB (dCall m_law_stands [(.l 1, []), (.l 2, []), (.v (dOp2 pAdd (.p 6) (.v (dLst (dCons (dCp 4) dNil)))), [])])) (dApp 6 (dCp 4)) dNx)
noncomputable def d_law_grown_s4 : M Flw :=
  (dLendS 5 [4, 1004, 6] (dFor (dIt (dCp 5)) (.one 4) [] d_law_grown_b4))
noncomputable def d_law_grown_s5 : M Flw :=
  (dRet (dMv 6))
noncomputable def d_law_grown : M Flw :=
  (dSeq d_law_grown_s1
  (dSeq d_law_grown_s2
  (dSeq d_law_grown_s3
  (dSeq d_law_grown_s4
  d_law_grown_s5))))
theorem m_law_grown_ex : ∃ m : List D → Res, m = run d_law_grown [0] 7 4 := ⟨_, rfl⟩
noncomputable def m_law_grown : List D → Res := Classical.choose m_law_grown_ex
theorem m_law_grown_def : m_law_grown = run d_law_grown [0] 7 4 := Classical.choose_spec m_law_grown_ex
/-- _law_is_int: 0 _law_value -/
noncomputable def d_law_is_int : M Flw :=
  (dRet (dAndV (dOp1 (pIsi .int) (.v (dCp 0))) (dNotV (dOp1 (pIsi .bool) (.v (dCp 0))))))
theorem m_law_is_int_ex : ∃ m : List D → Res, m = run d_law_is_int [] 1 1 := ⟨_, rfl⟩
noncomputable def m_law_is_int : List D → Res := Classical.choose m_law_is_int_ex
theorem m_law_is_int_def : m_law_is_int = run d_law_is_int [] 1 1 := Classical.choose_spec m_law_is_int_ex
/-- _law_int_list: 0 _law_value, 1 _law_x -/
noncomputable def d_law_int_list : M Flw :=
  (dLendS 0 [1001] (dRet (dAndV (dOp1 (pIsi .list) (.p 0)) (dOp2 pEq (.v (dLc (dIt (dCp 0)) (.one 1) [1] (dNot (dB (dCall m_law_is_int [(.v (dCp 1), [])]))) (dCp 1))) (.v (dLst dNil))))))
theorem m_law_int_list_ex : ∃ m : List D → Res, m = run d_law_int_list [] 2 1 := ⟨_, rfl⟩
noncomputable def m_law_int_list : List D → Res := Classical.choose m_law_int_list_ex
theorem m_law_int_list_def : m_law_int_list = run d_law_int_list [] 2 1 := Classical.choose_spec m_law_int_list_ex
/-- _law_indexes: 0 _law_value, 1 _law_many, 2 _law_k -/
noncomputable def d_law_indexes_b3 : M Flw :=
  (dIf (dLendT 0 [] (dOr (dB (dOp2 pLt (.v (dOp2 pIx (.p 0) (.v (dCp 2)))) (.v (ret (.int 0))))) (dOr (dB (dOp2 pGe (.v (dOp2 pIx (.p 0) (.v (dCp 2)))) (.v (dCp 1)))) (dB (dOp2 pIn (.v (dOp2 pIx (.p 0) (.v (dCp 2)))) (.v (dSl (dCp 0) (ret none) (dPart (dCp 2))))))))) (dRet (ret (.bl false))) dNx)
noncomputable def d_law_indexes : M Flw :=
  (dSeq (dIf (dNot (dB (dCall m_law_int_list [(.l 0, [])]))) (dRet (ret (.bl false))) dNx)
  (dSeq (dFor (dRg1 (dOp1 pLen (.p 0))) (.one 2) [] d_law_indexes_b3)
  (dRet (ret (.bl true)))))
theorem m_law_indexes_ex : ∃ m : List D → Res, m = run d_law_indexes [] 3 2 := ⟨_, rfl⟩
noncomputable def m_law_indexes : List D → Res := Classical.choose m_law_indexes_ex
theorem m_law_indexes_def : m_law_indexes = run d_law_indexes [] 3 2 := Classical.choose_spec m_law_indexes_ex
/-- _law_due: 0 _law_reach, 1 _law_places, 2 _law_own, 3 _law_height, 4 _law_stack, 5 _law_levels_here, 6 _law_many, 7 _law_at, 8 _law_i, 9 _law_j -/
noncomputable def d_law_due_s1 : M Flw :=
  (dAsg 6 (dOp1 pLen (.p 1)))
noncomputable def d_law_due_s2 : M Flw :=
  (dIf (dOr (dNot (dB (dCall m_law_indexes [(.l 4, []), (.v (dCp 6), [])]))) (dNot (dB (dCall m_law_stands [(.l 0, []), (.l 1, []), (.l 4, [])])))) (dRet (ret (.bl false))) dNx)
noncomputable def d_law_due_s3 : M Flw :=
  (dIf (dLendT 4 [1007] (dOr (dB (dOp2 pNe (.v (dOp1 pSumI (.v (dLc (dIt (dCp 4)) (.one 7) [7] dYes (dOp2 pIx (.p 2) (.v (dCp 7))))))) (.v (dCp 3)))) (dB (dOp2 pNe (.v (dOp1 pLen (.p 5))) (.v (dCp 6)))))) (dRet (ret (.bl false))) dNx)
noncomputable def d_law_due_b9 : M Flw :=
  (dIf (dAnd (dB (dOp2 pNe (.v (dCp 8)) (.v (dCp 9)))) (dAnd (dB (dCall m_law_above [(.l 0, []), (.l 1, []), (.v (dCp 8), []), (.v (dCp 9), [])])) (dB (dOp2 pLt (.v (dOp2 pIx (.p 5) (.v (dCp 8)))) (.v (dOp2 pAdd (.v (dOp2 pIx (.p 5) (.v (dCp 9)))) (.v (dOp2 pIx (.p 2) (.v (dCp 8)))))))))) (dRet (ret (.bl false))) dNx)
noncomputable def d_law_due_b6 : M Flw :=
  (dSeq (dIf (dOr (dB (dOp2 pLt (.v (dOp2 pIx (.p 5) (.v (dCp 8)))) (.v (dOp2 pIx (.p 2) (.v (dCp 8)))))) (dB (dOp2 pGt (.v (dOp2 pIx (.p 5) (.v (dCp 8)))) (.v (dCp 3))))) (dRet (ret (.bl false))) dNx)
  (dFor (dRg1 (dCp 6)) (.one 9) [] d_law_due_b9))
noncomputable def d_law_due_s4 : M Flw :=
  (dFor (dRg1 (dCp 6)) (.one 8) [] d_law_due_b6)
noncomputable def d_law_due_s5 : M Flw :=
  (dRet (ret (.bl true)))
noncomputable def d_law_due : M Flw :=
  (dSeq d_law_due_s1
  (dSeq d_law_due_s2
  (dSeq d_law_due_s3
  (dSeq d_law_due_s4
  d_law_due_s5))))
theorem m_law_due_ex : ∃ m : List D → Res, m = run d_law_due [] 10 6 := ⟨_, rfl⟩
noncomputable def m_law_due : List D → Res := Classical.choose m_law_due_ex
theorem m_law_due_def : m_law_due = run d_law_due [] 10 6 := Classical.choose_spec m_law_due_ex
/-- are_chairs: 0 indexes, 1 chairs, 2 seen, 3 at -/
noncomputable def d_are_chairs_b2 : M Flw :=
  (dSeq (dIf (dOr (dNot (dB (dChn pLe pLt (ret (.int 0)) (dCp 3) (dOp1 pLen (.p 1))))) (dB (dOp2 pIn (.v (dCp 3)) (.p 2)))) (dRet (ret (.bl false))) dNx)
  (dApp 2 (dCp 3)))
noncomputable def d_are_chairs : M Flw :=
  (dSeq (dAsg 2 (dLst dNil))
  (dSeq (dLendS 0 [3, 1003, 2] (dFor (dIt (dCp 0)) (.one 3) [] d_are_chairs_b2))
  (dRet (ret (.bl true)))))
theorem m_are_chairs_ex : ∃ m : List D → Res, m = run d_are_chairs [] 4 2 := ⟨_, rfl⟩
noncomputable def m_are_chairs : List D → Res := Classical.choose m_are_chairs_ex
theorem m_are_chairs_def : m_are_chairs = run d_are_chairs [] 4 2 := Classical.choose_spec m_are_chairs_ex
/-- Order.has: 0 self, 1 upper, 2 lower, 3 at -/
noncomputable def d_Order_has : M Flw :=
  (dSeq (dAsg 3 (dTix (dOp1 (pFld "Order" "names") (.p 0)) (dCp 1)))
  (dRet (dOp2 pEq (.v (dOp2 pBand (.v (dOp2 pShr (.v (dOp2 pIx (.v (dOp1 (pFld "Order" "rows") (.p 0))) (.v (dCp 3)))) (.v (dTix (dOp1 (pFld "Order" "names") (.p 0)) (dCp 2))))) (.v (ret (.int 1))))) (.v (ret (.int 1))))))
theorem m_Order_has_ex : ∃ m : List D → Res, m = run d_Order_has [] 4 3 := ⟨_, rfl⟩
noncomputable def m_Order_has : List D → Res := Classical.choose m_Order_has_ex
theorem m_Order_has_def : m_Order_has = run d_Order_has [] 4 3 := Classical.choose_spec m_Order_has_ex
/-- stands: 0 order, 1 chairs, 2 stack, 3 at -/
noncomputable def d_stands_b1 : M Flw :=
  (dIf (dNot (dB (dMeth "Order" "has" m_Order_has (.l 0, []) [(.v (dOp2 pIx (.p 1) (.v (dOp2 pIx (.p 2) (.v (dCp 3))))), []), (.v (dOp2 pIx (.p 1) (.v (dOp2 pIx (.p 2) (.v (dOp2 pSub (.v (dCp 3)) (.v (ret (.int 1)))))))), [])]))) (dRet (ret (.bl false))) dNx)
noncomputable def d_stands : M Flw :=
  (dSeq (dFor (dRg2 (ret (.int 1)) (dOp1 pLen (.p 2))) (.one 3) [] d_stands_b1)
  (dRet (ret (.bl true))))
theorem m_stands_ex : ∃ m : List D → Res, m = run d_stands [] 4 3 := ⟨_, rfl⟩
noncomputable def m_stands : List D → Res := Classical.choose m_stands_ex
theorem m_stands_def : m_stands = run d_stands [] 4 3 := Classical.choose_spec m_stands_ex
/-- ranks_above: 0 order, 1 chairs, 2 one, 3 other -/
noncomputable def d_ranks_above : M Flw :=
  (dSeq (dIf (dNot (dB (dMeth "Order" "has" m_Order_has (.l 0, []) [(.v (dOp2 pIx (.p 1) (.v (dCp 2))), []), (.v (dOp2 pIx (.p 1) (.v (dCp 3))), [])]))) (dRet (ret (.bl false))) dNx)
  (dRet (dOrV (dOp2 pGt (.v (dCp 2)) (.v (dCp 3))) (dNotV (dMeth "Order" "has" m_Order_has (.l 0, []) [(.v (dOp2 pIx (.p 1) (.v (dCp 3))), []), (.v (dOp2 pIx (.p 1) (.v (dCp 2))), [])])))))
theorem m_ranks_above_ex : ∃ m : List D → Res, m = run d_ranks_above [] 4 4 := ⟨_, rfl⟩
noncomputable def m_ranks_above : List D → Res := Classical.choose m_ranks_above_ex
theorem m_ranks_above_def : m_ranks_above = run d_ranks_above [] 4 4 := Classical.choose_spec m_ranks_above_ex
/-- below_lists: 0 order, 1 chairs, 2 lists, 3 high, 4 low -/
noncomputable def d_below_lists_b2 : M Flw :=
  (dApp 2 (dLc (dRg1 (dOp1 pLen (.p 1))) (.one 4) [4] (dB (dCall m_ranks_above [(.l 0, []), (.l 1, []), (.v (dCp 3), []), (.v (dCp 4), [])])) (dCp 4)))
noncomputable def d_below_lists : M Flw :=
  (dSeq (dAsg 2 (dLst dNil))
  (dSeq (dFor (dRg1 (dOp1 pLen (.p 1))) (.one 3) [] d_below_lists_b2)
  (dRet (dMv 2))))
theorem m_below_lists_ex : ∃ m : List D → Res, m = run d_below_lists [] 5 2 := ⟨_, rfl⟩
noncomputable def m_below_lists : List D → Res := Classical.choose m_below_lists_ex
theorem m_below_lists_def : m_below_lists = run d_below_lists [] 5 2 := Classical.choose_spec m_below_lists_ex
/-- check_tallest: 0 order, 1 chairs, 2 heights, 3 height, 4 stack, 5 levels, 6 at, 7 below, 8 high, 9 own, 10 low -/
noncomputable def d_check_tallest_s1 : M Flw :=
  (dExpr (dCall m_check_known [(.v (dOp1 (pFld "Order" "names") (.p 0)), []), (.l 1, [])]))
noncomputable def d_check_tallest_s2 : M Flw :=
  (dIf (dOr (dNot (dB (dCall m_are_chairs [(.l 4, []), (.l 1, [])]))) (dNot (dB (dCall m_stands [(.l 0, []), (.l 1, []), (.l 4, [])])))) (dRet (ret (.bl false))) dNx)
noncomputable def d_check_tallest_s3 : M Flw :=
  (dIf (dLendT 4 [1006] (dOr (dB (dOp2 pNe (.v (dOp1 pSumI (.v (dLc (dIt (dCp 4)) (.one 6) [6] dYes (dOp2 pDix (.p 2) (.v (dOp2 pIx (.p 1) (.v (dCp 6))))))))) (.v (dCp 3)))) (dB (dOp2 pNe (.v (dOp1 pLen (.p 5))) (.v (dOp1 pLen (.p 1))))))) (dRet (ret (.bl false))) dNx)
noncomputable def d_check_tallest_s4 : M Flw :=
  (dAsg 7 (dCall m_below_lists [(.l 0, []), (.l 1, [])]))
noncomputable def d_check_tallest_b11 : M Flw :=
  (dIf (dB (dOp2 pLt (.v (dOp2 pIx (.p 5) (.v (dCp 8)))) (.v (dOp2 pAdd (.v (dOp2 pIx (.p 5) (.v (dCp 10)))) (.v (dCp 9)))))) (dRet (ret (.bl false))) dNx)
noncomputable def d_check_tallest_b7 : M Flw :=
  (dSeq (dAsg 9 (dOp2 pDix (.p 2) (.v (dOp2 pIx (.p 1) (.v (dCp 8))))))
  (dSeq (dIf (dNot (dB (dChn pLe pLe (dCp 9) (dOp2 pIx (.p 5) (.v (dCp 8))) (dCp 3)))) (dRet (ret (.bl false))) dNx)
  (dLendS 7 [10, 1010] (dFor (dIt (dOp2 pIx (.p 7) (.v (dCp 8)))) (.one 10) [] d_check_tallest_b11))))
noncomputable def d_check_tallest_s5 : M Flw :=
  (dFor (dRg1 (dOp1 pLen (.p 1))) (.one 8) [] d_check_tallest_b7)
noncomputable def d_check_tallest_s6 : M Flw :=
  (dRet (ret (.bl true)))
noncomputable def d_check_tallest : M Flw :=
  (dSeq d_check_tallest_s1
  (dSeq d_check_tallest_s2
  (dSeq d_check_tallest_s3
  (dSeq d_check_tallest_s4
  (dSeq d_check_tallest_s5
  d_check_tallest_s6)))))
theorem m_check_tallest_ex : ∃ m : List D → Res, m = run d_check_tallest [] 11 6 := ⟨_, rfl⟩
noncomputable def m_check_tallest : List D → Res := Classical.choose m_check_tallest_ex
theorem m_check_tallest_def : m_check_tallest = run d_check_tallest [] 11 6 := Classical.choose_spec m_check_tallest_ex
/-- law: 0 _law_script, 1 _law_box_here, 2 _law_size, 3 _law_names_here, 4 _law_drawn, 5 _law_order, 6 _law_reach, 7 _law_chairs_here, 8 _law_name_here, 9 _law_places, 10 _law_heights_here, 11 _law_own, 12 _law_k, 13 _law_levels_here, 14 _law_stack, 15 _law_at, 16 _law_height, 17 _law_way, 18 _law_due_here, 19 _law_passed, 20 _law_found -/
noncomputable def d_law_s1 : M Flw :=
  (dAsg 1 (dCall m_law_box [(.l 0, [])]))
noncomputable def d_law_s2 : M Flw :=
  (dAsg 2 (dOp2 pAdd (.v (ret (.int 1))) (.v (dCall m_law_take [(.io 1, []), (.v (ret (.int 4)), [])]))))
noncomputable def d_law_s3 : M Flw :=
  (dAsg 3 (dCall m_law_names [(.io 1, []), (.v (dCp 2), [])]))
noncomputable def d_law_s4 : M Flw :=
  (dAsg 4 (dCall m_law_drawn_pairs [(.io 1, []), (.v (dCp 2), []), (.v (dCall m_law_take [(.io 1, []), (.v (ret (.int 8)), [])]), [1])]))
noncomputable def d_law_s5 : M Flw :=
  (dAsg 5 (dMake "Order" m_Order___init__ [(.l 3, []), (.v (dCall m_law_named [(.l 3, []), (.l 4, [])]), [])]))
noncomputable def d_law_s6 : M Flw :=
  (dAsg 6 (dCall m_law_closed [(.v (dCp 2), []), (.l 4, [])]))
noncomputable def d_law_s7 : M Flw :=
  (dAsg 7 (dCall m_law_chairs [(.io 1, []), (.l 3, []), (.v (ret (.int 6)), [])]))
noncomputable def d_law_s8 : M Flw :=
  (dLendS 7 [1008, 9, 1009] (dAsg 9 (dLc (dIt (dCp 7)) (.one 8) [8] dYes (dLix 3 (dCp 8)))))
noncomputable def d_law_s9 : M Flw :=
  (dAsg 10 (dCall m_law_heights [(.io 1, []), (.l 3, []), (.l 7, [])]))
noncomputable def d_law_s10 : M Flw :=
  (dLendS 7 [1008, 11, 1011] (dAsg 11 (dLc (dIt (dCp 7)) (.one 8) [8] dYes (dOp2 pDix (.p 10) (.v (dCp 8))))))
noncomputable def d_law_b11_1 : M Flw :=
  (dAsg 13 (dCall m_law_levels [(.l 6, []), (.l 9, []), (.l 11, [])]))
noncomputable def d_law_b11_2 : M Flw :=
  (dAsg 14 (dCall m_law_grown [(.io 1, []), (.l 6, []), (.l 9, []), (.l 13, [])]))
noncomputable def d_law_b11_3 : M Flw :=
  (dLendS 14 [1015, 1, 16, 1016] (dAsg 16 (dOp2 pIx (.v (dLst (dCons (dOp1 pSumI (.v (dLc (dIt (dCp 14)) (.one 15) [15] dYes (dOp2 pIx (.p 11) (.v (dCp 15)))))) (dCons (dOp1 pMaxI (.v (dOp2 pAdd (.p 13) (.v (dLst (dCons (ret (.int 0)) dNil)))))) dNil)))) (.v (dCall m_law_take [(.io 1, []), (.v (ret (.int 2)), [])])))))
noncomputable def d_law_b11_4 : M Flw :=
  (dAsg 17 (dCall m_law_take [(.io 1, []), (.v (ret (.int 9)), [])]))
noncomputable def d_law_b11_5 : M Flw :=
  (dIf (dAnd (dB (dOp2 pEq (.v (dCp 17)) (.v (ret (.int 1))))) (dB (dOp2 pGt (.v (dOp1 pLen (.p 7))) (.v (ret (.int 0)))))) (dAugI 13 (dCall m_law_take [(.io 1, []), (.v (dOp1 pLen (.p 7)), [])]) (dOp2 pSub (.v (dCall m_law_take [(.io 1, []), (.v (ret (.int 5)), [])])) (.v (ret (.int 2))))) dNx)
noncomputable def d_law_b11_6 : M Flw :=
  (dIf (dB (dOp2 pEq (.v (dCp 17)) (.v (ret (.int 2))))) (dAsg 16 (dOp2 pSub (.v (dOp2 pAdd (.v (dCp 16)) (.v (dCall m_law_take [(.io 1, []), (.v (ret (.int 3)), [])])))) (.v (ret (.int 1))))) dNx)
noncomputable def d_law_b11_7 : M Flw :=
  (dIf (dB (dOp2 pEq (.v (dCp 17)) (.v (ret (.int 3))))) (dAsg 14 (dOp2 pAdd (.p 14) (.v (dLst (dCons (dOp2 pIx (.v (dLst (dCons (dOp1 pNeg (.v (ret (.int 1)))) (dCons (dOp1 pLen (.p 7)) (dCons (ret (.int 0)) (dCons (dOp1 pNeg (.v (dOp1 pLen (.p 7)))) dNil)))))) (.v (dCall m_law_take [(.io 1, []), (.v (ret (.int 4)), [])]))) dNil))))) dNx)
noncomputable def d_law_b11_8 : M Flw :=
  (dIf (dB (dOp2 pEq (.v (dCp 17)) (.v (ret (.int 4))))) (dAsg 13 (dLend 13 [] (dSl (dCp 13) (ret none) (dPart (dOp1 pNeg (.v (ret (.int 1)))))))) dNx)
noncomputable def d_law_b11_9 : M Flw :=
  (dIf (dB (dOp2 pEq (.v (dCp 17)) (.v (ret (.int 5))))) (dApp 13 (ret (.int 1))) dNx)
noncomputable def d_law_b11_10 : M Flw :=
  (dAsg 18 (dCall m_law_due [(.l 6, []), (.l 9, []), (.l 11, []), (.v (dCp 16), []), (.l 14, []), (.l 13, [])]))
noncomputable def d_law_b11_11 : M Flw :=
  (dLendS 10 [19, 1019] (dAsg 19 (dLst (dCons (dFz (dOp1 pList (.p 7))) (dCons (dFz (dDcp (dCp 10))) (dCons (dFz (dOp1 pList (.p 14))) (dCons (dFz (dOp1 pList (.p 13))) dNil)))))))
noncomputable def d_law_b11_12 : M Flw :=
  (dAsg 20 (dCall m_check_tallest [(.l 5, []), (.v (dOp2 pIx (.p 19) (.v (ret (.int 0)))), []), (.v (dOp2 pIx (.p 19) (.v (ret (.int 1)))), []), (.v (dCp 16), []), (.v (dOp2 pIx (.p 19) (.v (ret (.int 2)))), []), (.v (dOp2 pIx (.p 19) (.v (ret (.int 3)))), [])]))
noncomputable def d_law_b11_13 : M Flw :=
  (dIf (dOr (dNot (dB (dOp1 (pIsi .bool) (.v (dCp 20))))) (dOr (dB (dOp2 pNe (.v (dCp 20)) (.v (dCp 18)))) (dB (dOp2 pNeV (.p 19) (.v (dLst (dCons (dFz (dFs 7)) (dCons (dFz (dFs 10)) (dCons (dFz (dMv 14)) (dCons (dFz (dMv 13)) dNil)))))))))) (dRet (ret (.bl false))) dNx)
noncomputable abbrev d_law_b11_12t : M Flw :=
  (dSeq d_law_b11_12 d_law_b11_13)
noncomputable abbrev d_law_b11_11t : M Flw :=
  (dSeq d_law_b11_11 d_law_b11_12t)
noncomputable abbrev d_law_b11_10t : M Flw :=
  (dSeq d_law_b11_10 d_law_b11_11t)
noncomputable abbrev d_law_b11_9t : M Flw :=
  (dSeq d_law_b11_9 d_law_b11_10t)
noncomputable abbrev d_law_b11_8t : M Flw :=
  (dSeq d_law_b11_8 d_law_b11_9t)
noncomputable abbrev d_law_b11_7t : M Flw :=
  (dSeq d_law_b11_7 d_law_b11_8t)
noncomputable abbrev d_law_b11_6t : M Flw :=
  (dSeq d_law_b11_6 d_law_b11_7t)
noncomputable abbrev d_law_b11_5t : M Flw :=
  (dSeq d_law_b11_5 d_law_b11_6t)
noncomputable abbrev d_law_b11_4t : M Flw :=
  (dSeq d_law_b11_4 d_law_b11_5t)
noncomputable abbrev d_law_b11_3t : M Flw :=
  (dSeq d_law_b11_3 d_law_b11_4t)
noncomputable abbrev d_law_b11_2t : M Flw :=
  (dSeq d_law_b11_2 d_law_b11_3t)
noncomputable def d_law_b11 : M Flw :=
  (dSeq d_law_b11_1
  (dSeq d_law_b11_2
  (dSeq d_law_b11_3
  (dSeq d_law_b11_4
  (dSeq d_law_b11_5
  (dSeq d_law_b11_6
  (dSeq d_law_b11_7
  (dSeq d_law_b11_8
  (dSeq d_law_b11_9
  (dSeq d_law_b11_10
  (dSeq d_law_b11_11
  (dSeq d_law_b11_12
  d_law_b11_13))))))))))))
noncomputable def d_law_s11 : M Flw :=
  (dFor (dRg1 (ret (.int 5))) (.one 12) [13, 14, 19] d_law_b11)
noncomputable def d_law_s12 : M Flw :=
  (dRet (ret (.bl true)))
noncomputable abbrev d_law_s11t : M Flw :=
  (dSeq d_law_s11 d_law_s12)
noncomputable abbrev d_law_s10t : M Flw :=
  (dSeq d_law_s10 d_law_s11t)
noncomputable abbrev d_law_s9t : M Flw :=
  (dSeq d_law_s9 d_law_s10t)
noncomputable abbrev d_law_s8t : M Flw :=
  (dSeq d_law_s8 d_law_s9t)
noncomputable abbrev d_law_s7t : M Flw :=
  (dSeq d_law_s7 d_law_s8t)
noncomputable abbrev d_law_s6t : M Flw :=
  (dSeq d_law_s6 d_law_s7t)
noncomputable abbrev d_law_s5t : M Flw :=
  (dSeq d_law_s5 d_law_s6t)
noncomputable abbrev d_law_s4t : M Flw :=
  (dSeq d_law_s4 d_law_s5t)
noncomputable abbrev d_law_s3t : M Flw :=
  (dSeq d_law_s3 d_law_s4t)
noncomputable abbrev d_law_s2t : M Flw :=
  (dSeq d_law_s2 d_law_s3t)
noncomputable def d_law : M Flw :=
  (dSeq d_law_s1
  (dSeq d_law_s2
  (dSeq d_law_s3
  (dSeq d_law_s4
  (dSeq d_law_s5
  (dSeq d_law_s6
  (dSeq d_law_s7
  (dSeq d_law_s8
  (dSeq d_law_s9
  (dSeq d_law_s10
  (dSeq d_law_s11
  d_law_s12)))))))))))
theorem m_law_ex : ∃ m : List D → Res, m = run d_law [] 21 1 := ⟨_, rfl⟩
noncomputable def m_law : List D → Res := Classical.choose m_law_ex
theorem m_law_def : m_law = run d_law [] 21 1 := Classical.choose_spec m_law_ex
def topS (i : Nat) : Stmt := PySem.Challenge.pw_chairstack_k47_check_of_tallest.main.body.getD i (.Pass ⟨0, 0, 0, 0⟩)
def clsB : Stmt → List Stmt
  | .ClassDef (body := b) .. => b
  | _ => []
def cls_st (i j : Nat) : Stmt := (clsB (topS i)).getD j (.Pass ⟨0, 0, 0, 0⟩)
/-- what the top has written -/
structure Txt (K : PySem.W.Frag) (mg : Str → Option Value) (base : Heap) (f_law_box f_law_take f_law_name f_law_names f_law_drawn_pairs f_law_named f_check_name f_check_makes f_check_known f_check_pairs f_closed_rows f_rows_of f_Order___init__ f_law_closed f_law_chairs f_law_heights f_law_above f_law_levels f_law_stands f_law_grown f_law_is_int f_law_int_list f_law_indexes f_law_due f_are_chairs f_Order_has f_stands f_ranks_above f_below_lists f_check_tallest f_law C_Full C_InvalidName C_DuplicateMake C_UnknownMake C_Order fi_Full fi_InvalidName fi_DuplicateMake fi_UnknownMake pp_Order_makes fp_Order_makes ca_law_grown tp_law_grown : Addr) (fd_law_box fd_law_take fd_law_name fd_law_names fd_law_drawn_pairs fd_law_named fd_check_name fd_check_makes fd_check_known fd_check_pairs fd_closed_rows fd_rows_of fd_Order___init__ fd_law_closed fd_law_chairs fd_law_heights fd_law_above fd_law_levels fd_law_stands fd_law_grown fd_law_is_int fd_law_int_list fd_law_indexes fd_law_due fd_are_chairs fd_Order_has fd_stands fd_ranks_above fd_below_lists fd_check_tallest fd_law fdi_Full fdi_InvalidName fdi_DuplicateMake fdi_UnknownMake fdp_Order_makes : FuncData) : Prop where
  b_bool : mg "bool" = none
  b_dict : mg "dict" = none
  b_enumerate : mg "enumerate" = none
  b_int : mg "int" = none
  b_isinstance : mg "isinstance" = none
  b_len : mg "len" = none
  b_list : mg "list" = none
  b_max : mg "max" = none
  b_min : mg "min" = none
  b_range : mg "range" = none
  b_sorted : mg "sorted" = none
  b_sum : mg "sum" = none
  b_tuple : mg "tuple" = none
  k_LETTERS : ∃ t : Tok, mg "LETTERS" = some (.str "abcdefghijklmnopqrstuvwxyz" t)
  k_LONGEST_NAME : ∃ t : Tok, mg "LONGEST_NAME" = some (.int 12 t)
  k_MOST_MAKES : ∃ t : Tok, mg "MOST_MAKES" = some (.int 12 t)
  F_law_box : Fun K "_law_box" "_law_box" (topS 33) f_law_box fd_law_box
  g_law_box : mg "_law_box" = some (.ref f_law_box)
  a_law_box : L2.Binds K fd_law_box ["_law_script"] []
  F_law_take : Fun K "_law_take" "_law_take" (topS 32) f_law_take fd_law_take
  g_law_take : mg "_law_take" = some (.ref f_law_take)
  a_law_take : L2.Binds K fd_law_take ["_law_box_here", "_law_many"] []
  F_law_name : Fun K "_law_name" "_law_name" (topS 34) f_law_name fd_law_name
  g_law_name : mg "_law_name" = some (.ref f_law_name)
  a_law_name : L2.Binds K fd_law_name ["_law_box_here", "_law_names_here"] []
  F_law_names : Fun K "_law_names" "_law_names" (topS 35) f_law_names fd_law_names
  g_law_names : mg "_law_names" = some (.ref f_law_names)
  a_law_names : L2.Binds K fd_law_names ["_law_box_here", "_law_size"] []
  F_law_drawn_pairs : Fun K "_law_drawn_pairs" "_law_drawn_pairs" (topS 36) f_law_drawn_pairs fd_law_drawn_pairs
  g_law_drawn_pairs : mg "_law_drawn_pairs" = some (.ref f_law_drawn_pairs)
  a_law_drawn_pairs : L2.Binds K fd_law_drawn_pairs ["_law_box_here", "_law_size", "_law_count"] []
  F_law_named : Fun K "_law_named" "_law_named" (topS 37) f_law_named fd_law_named
  g_law_named : mg "_law_named" = some (.ref f_law_named)
  a_law_named : L2.Binds K fd_law_named ["_law_names_here", "_law_pairs"] []
  F_check_name : Fun K "check_name" "check_name" (topS 12) f_check_name fd_check_name
  g_check_name : mg "check_name" = some (.ref f_check_name)
  a_check_name : L2.Binds K fd_check_name ["name"] []
  F_check_makes : Fun K "check_makes" "check_makes" (topS 13) f_check_makes fd_check_makes
  g_check_makes : mg "check_makes" = some (.ref f_check_makes)
  a_check_makes : L2.Binds K fd_check_makes ["makes"] []
  F_check_known : Fun K "check_known" "check_known" (topS 14) f_check_known fd_check_known
  g_check_known : mg "check_known" = some (.ref f_check_known)
  a_check_known : L2.Binds K fd_check_known ["makes", "names"] []
  F_check_pairs : Fun K "check_pairs" "check_pairs" (topS 15) f_check_pairs fd_check_pairs
  g_check_pairs : mg "check_pairs" = some (.ref f_check_pairs)
  a_check_pairs : L2.Binds K fd_check_pairs ["makes", "pairs"] []
  F_closed_rows : Fun K "closed_rows" "closed_rows" (topS 17) f_closed_rows fd_closed_rows
  g_closed_rows : mg "closed_rows" = some (.ref f_closed_rows)
  a_closed_rows : L2.Binds K fd_closed_rows ["rows"] []
  F_rows_of : Fun K "rows_of" "rows_of" (topS 18) f_rows_of fd_rows_of
  g_rows_of : mg "rows_of" = some (.ref f_rows_of)
  a_rows_of : L2.Binds K fd_rows_of ["names", "pairs"] []
  F_Order___init__ : ∃ dvs : List V, FunD K "__init__" "Order.__init__" (defArgs (cls_st 19 1)) (defBody (cls_st 19 1)) (defScope (cls_st 19 1)) dvs [] f_Order___init__ fd_Order___init__
  kp_Order___init__ : PySem.W.keepIn K (.ref f_Order___init__) = true
  a_Order___init__ : L2.Binds K fd_Order___init__ ["self", "makes", "pairs"] []
  F_law_closed : Fun K "_law_closed" "_law_closed" (topS 38) f_law_closed fd_law_closed
  g_law_closed : mg "_law_closed" = some (.ref f_law_closed)
  a_law_closed : L2.Binds K fd_law_closed ["_law_size", "_law_pairs"] []
  F_law_chairs : Fun K "_law_chairs" "_law_chairs" (topS 39) f_law_chairs fd_law_chairs
  g_law_chairs : mg "_law_chairs" = some (.ref f_law_chairs)
  a_law_chairs : L2.Binds K fd_law_chairs ["_law_box_here", "_law_names_here", "_law_most"] []
  F_law_heights : Fun K "_law_heights" "_law_heights" (topS 40) f_law_heights fd_law_heights
  g_law_heights : mg "_law_heights" = some (.ref f_law_heights)
  a_law_heights : L2.Binds K fd_law_heights ["_law_box_here", "_law_names_here", "_law_chairs_here"] []
  F_law_above : Fun K "_law_above" "_law_above" (topS 31) f_law_above fd_law_above
  g_law_above : mg "_law_above" = some (.ref f_law_above)
  a_law_above : L2.Binds K fd_law_above ["_law_reach", "_law_places", "_law_i", "_law_j"] []
  F_law_levels : Fun K "_law_levels" "_law_levels" (topS 41) f_law_levels fd_law_levels
  g_law_levels : mg "_law_levels" = some (.ref f_law_levels)
  a_law_levels : L2.Binds K fd_law_levels ["_law_reach", "_law_places", "_law_own"] []
  F_law_stands : Fun K "_law_stands" "_law_stands" (topS 30) f_law_stands fd_law_stands
  g_law_stands : mg "_law_stands" = some (.ref f_law_stands)
  a_law_stands : L2.Binds K fd_law_stands ["_law_reach", "_law_places", "_law_stack"] []
  F_law_grown : Fun K "_law_grown" "_law_grown" (topS 43) f_law_grown fd_law_grown
  cd_law_grown : fd_law_grown.code = .ref ca_law_grown
  tb_law_grown : LamX.TabB base mg ca_law_grown tp_law_grown
  g_law_grown : mg "_law_grown" = some (.ref f_law_grown)
  a_law_grown : L2.Binds K fd_law_grown ["_law_box_here", "_law_reach", "_law_places", "_law_levels_here"] []
  F_law_is_int : Fun K "_law_is_int" "_law_is_int" (topS 27) f_law_is_int fd_law_is_int
  g_law_is_int : mg "_law_is_int" = some (.ref f_law_is_int)
  a_law_is_int : L2.Binds K fd_law_is_int ["_law_value"] []
  F_law_int_list : Fun K "_law_int_list" "_law_int_list" (topS 28) f_law_int_list fd_law_int_list
  g_law_int_list : mg "_law_int_list" = some (.ref f_law_int_list)
  a_law_int_list : L2.Binds K fd_law_int_list ["_law_value"] []
  F_law_indexes : Fun K "_law_indexes" "_law_indexes" (topS 29) f_law_indexes fd_law_indexes
  g_law_indexes : mg "_law_indexes" = some (.ref f_law_indexes)
  a_law_indexes : L2.Binds K fd_law_indexes ["_law_value", "_law_many"] []
  F_law_due : Fun K "_law_due" "_law_due" (topS 42) f_law_due fd_law_due
  g_law_due : mg "_law_due" = some (.ref f_law_due)
  a_law_due : L2.Binds K fd_law_due ["_law_reach", "_law_places", "_law_own", "_law_height", "_law_stack", "_law_levels_here"] []
  F_are_chairs : Fun K "are_chairs" "are_chairs" (topS 23) f_are_chairs fd_are_chairs
  g_are_chairs : mg "are_chairs" = some (.ref f_are_chairs)
  a_are_chairs : L2.Binds K fd_are_chairs ["indexes", "chairs"] []
  F_Order_has : Fun K "has" "Order.has" (cls_st 19 5) f_Order_has fd_Order_has
  a_Order_has : L2.Binds K fd_Order_has ["self", "upper", "lower"] []
  F_stands : Fun K "stands" "stands" (topS 24) f_stands fd_stands
  g_stands : mg "stands" = some (.ref f_stands)
  a_stands : L2.Binds K fd_stands ["order", "chairs", "stack"] []
  F_ranks_above : Fun K "ranks_above" "ranks_above" (topS 21) f_ranks_above fd_ranks_above
  g_ranks_above : mg "ranks_above" = some (.ref f_ranks_above)
  a_ranks_above : L2.Binds K fd_ranks_above ["order", "chairs", "one", "other"] []
  F_below_lists : Fun K "below_lists" "below_lists" (topS 22) f_below_lists fd_below_lists
  g_below_lists : mg "below_lists" = some (.ref f_below_lists)
  a_below_lists : L2.Binds K fd_below_lists ["order", "chairs"] []
  F_check_tallest : Fun K "check_tallest" "check_tallest" (topS 25) f_check_tallest fd_check_tallest
  g_check_tallest : mg "check_tallest" = some (.ref f_check_tallest)
  a_check_tallest : L2.Binds K fd_check_tallest ["order", "chairs", "heights", "height", "stack", "levels"] []
  F_law : Fun K "law" "law" (topS 44) f_law fd_law
  g_law : mg "law" = some (.ref f_law)
  a_law : L2.Binds K fd_law ["_law_script"] []
  g_Full : mg "Full" = some (.ref C_Full)
  c_Full : cls [("Full", C_Full), ("InvalidName", C_InvalidName), ("DuplicateMake", C_DuplicateMake), ("UnknownMake", C_UnknownMake), ("Order", C_Order)] "Full" = some C_Full
  g_InvalidName : mg "InvalidName" = some (.ref C_InvalidName)
  c_InvalidName : cls [("Full", C_Full), ("InvalidName", C_InvalidName), ("DuplicateMake", C_DuplicateMake), ("UnknownMake", C_UnknownMake), ("Order", C_Order)] "InvalidName" = some C_InvalidName
  g_DuplicateMake : mg "DuplicateMake" = some (.ref C_DuplicateMake)
  c_DuplicateMake : cls [("Full", C_Full), ("InvalidName", C_InvalidName), ("DuplicateMake", C_DuplicateMake), ("UnknownMake", C_UnknownMake), ("Order", C_Order)] "DuplicateMake" = some C_DuplicateMake
  g_UnknownMake : mg "UnknownMake" = some (.ref C_UnknownMake)
  c_UnknownMake : cls [("Full", C_Full), ("InvalidName", C_InvalidName), ("DuplicateMake", C_DuplicateMake), ("UnknownMake", C_UnknownMake), ("Order", C_Order)] "UnknownMake" = some C_UnknownMake
  g_Order : mg "Order" = some (.ref C_Order)
  c_Order : cls [("Full", C_Full), ("InvalidName", C_InvalidName), ("DuplicateMake", C_DuplicateMake), ("UnknownMake", C_UnknownMake), ("Order", C_Order)] "Order" = some C_Order
  x_Full : OexC K C_Full
  nf_Full : ∀ f ∈ (["most"] : List Str), PySem.W.findIn K (.ref C_Full) f = some none
  i_Full : PySem.W.findIn K (.ref C_Full) "__init__" = some (some (.ref fi_Full))
  t_Full : PySem.W.typeIn K (.ref fi_Full) = some (.type "function")
  F_Full : Fun K "__init__" "Full.__init__" (cls_st 6 0) fi_Full fdi_Full
  a_Full : L2.Binds K fdi_Full ["self", "most"] []
  x_InvalidName : OexC K C_InvalidName
  nf_InvalidName : ∀ f ∈ (["name"] : List Str), PySem.W.findIn K (.ref C_InvalidName) f = some none
  i_InvalidName : PySem.W.findIn K (.ref C_InvalidName) "__init__" = some (some (.ref fi_InvalidName))
  t_InvalidName : PySem.W.typeIn K (.ref fi_InvalidName) = some (.type "function")
  F_InvalidName : Fun K "__init__" "InvalidName.__init__" (cls_st 3 0) fi_InvalidName fdi_InvalidName
  a_InvalidName : L2.Binds K fdi_InvalidName ["self", "name"] []
  x_DuplicateMake : OexC K C_DuplicateMake
  nf_DuplicateMake : ∀ f ∈ (["name"] : List Str), PySem.W.findIn K (.ref C_DuplicateMake) f = some none
  i_DuplicateMake : PySem.W.findIn K (.ref C_DuplicateMake) "__init__" = some (some (.ref fi_DuplicateMake))
  t_DuplicateMake : PySem.W.typeIn K (.ref fi_DuplicateMake) = some (.type "function")
  F_DuplicateMake : Fun K "__init__" "DuplicateMake.__init__" (cls_st 4 0) fi_DuplicateMake fdi_DuplicateMake
  a_DuplicateMake : L2.Binds K fdi_DuplicateMake ["self", "name"] []
  x_UnknownMake : OexC K C_UnknownMake
  nf_UnknownMake : ∀ f ∈ (["name"] : List Str), PySem.W.findIn K (.ref C_UnknownMake) f = some none
  i_UnknownMake : PySem.W.findIn K (.ref C_UnknownMake) "__init__" = some (some (.ref fi_UnknownMake))
  t_UnknownMake : PySem.W.typeIn K (.ref fi_UnknownMake) = some (.type "function")
  F_UnknownMake : Fun K "__init__" "UnknownMake.__init__" (cls_st 5 0) fi_UnknownMake fdi_UnknownMake
  a_UnknownMake : L2.Binds K fdi_UnknownMake ["self", "name"] []
  cl_Order : Cls K C_Order
  fl_Order_names : ∀ C, cls [("Full", C_Full), ("InvalidName", C_InvalidName), ("DuplicateMake", C_DuplicateMake), ("UnknownMake", C_UnknownMake), ("Order", C_Order)] "Order" = some C → ClsF K C "names"
  fl_Order_rows : ∀ C, cls [("Full", C_Full), ("InvalidName", C_InvalidName), ("DuplicateMake", C_DuplicateMake), ("UnknownMake", C_UnknownMake), ("Order", C_Order)] "Order" = some C → ClsF K C "rows"
  m_Order_has : Meth K C_Order "has" f_Order_has
  mk_Order : Mk K C_Order f_Order___init__
  p_Order_makes : PropOf K C_Order "makes" pp_Order_makes fp_Order_makes
  pF_Order_makes : Fun K "makes" "Order.makes" (cls_st 19 4) fp_Order_makes fdp_Order_makes
  pb_Order_makes : L2.Binds K fdp_Order_makes ["self"] []
abbrev Gz (C_Full C_InvalidName C_DuplicateMake C_UnknownMake C_Order tp_law_grown : Addr) : Gx := ⟨cls [("Full", C_Full), ("InvalidName", C_InvalidName), ("DuplicateMake", C_DuplicateMake), ("UnknownMake", C_UnknownMake), ("Order", C_Order)], P0, none, [(tp_law_grown, "_law_grown.<locals>.<lambda>")]⟩
section
variable {P : Program} {w : World} {K : PySem.W.Frag} {mg : Str → Option Value} {base : Heap} {f_law_box f_law_take f_law_name f_law_names f_law_drawn_pairs f_law_named f_check_name f_check_makes f_check_known f_check_pairs f_closed_rows f_rows_of f_Order___init__ f_law_closed f_law_chairs f_law_heights f_law_above f_law_levels f_law_stands f_law_grown f_law_is_int f_law_int_list f_law_indexes f_law_due f_are_chairs f_Order_has f_stands f_ranks_above f_below_lists f_check_tallest f_law C_Full C_InvalidName C_DuplicateMake C_UnknownMake C_Order fi_Full fi_InvalidName fi_DuplicateMake fi_UnknownMake pp_Order_makes fp_Order_makes ca_law_grown tp_law_grown : Addr} {fd_law_box fd_law_take fd_law_name fd_law_names fd_law_drawn_pairs fd_law_named fd_check_name fd_check_makes fd_check_known fd_check_pairs fd_closed_rows fd_rows_of fd_Order___init__ fd_law_closed fd_law_chairs fd_law_heights fd_law_above fd_law_levels fd_law_stands fd_law_grown fd_law_is_int fd_law_int_list fd_law_indexes fd_law_due fd_are_chairs fd_Order_has fd_stands fd_ranks_above fd_below_lists fd_check_tallest fd_law fdi_Full fdi_InvalidName fdi_DuplicateMake fdi_UnknownMake fdp_Order_makes : FuncData}
theorem scp_Order_makes : FnScope ["self"] ["self"] (defScope (cls_st 19 4)) := ⟨rfl, rfl, rfl, by decide +kernel, rfl, by decide +kernel, by decide +kernel⟩
theorem okp_Order_makes (T : Txt K mg base f_law_box f_law_take f_law_name f_law_names f_law_drawn_pairs f_law_named f_check_name f_check_makes f_check_known f_check_pairs f_closed_rows f_rows_of f_Order___init__ f_law_closed f_law_chairs f_law_heights f_law_above f_law_levels f_law_stands f_law_grown f_law_is_int f_law_int_list f_law_indexes f_law_due f_are_chairs f_Order_has f_stands f_ranks_above f_below_lists f_check_tallest f_law C_Full C_InvalidName C_DuplicateMake C_UnknownMake C_Order fi_Full fi_InvalidName fi_DuplicateMake fi_UnknownMake pp_Order_makes fp_Order_makes ca_law_grown tp_law_grown fd_law_box fd_law_take fd_law_name fd_law_names fd_law_drawn_pairs fd_law_named fd_check_name fd_check_makes fd_check_known fd_check_pairs fd_closed_rows fd_rows_of fd_Order___init__ fd_law_closed fd_law_chairs fd_law_heights fd_law_above fd_law_levels fd_law_stands fd_law_grown fd_law_is_int fd_law_int_list fd_law_indexes fd_law_due fd_are_chairs fd_Order_has fd_stands fd_ranks_above fd_below_lists fd_check_tallest fd_law fdi_Full fdi_InvalidName fdi_DuplicateMake fdi_UnknownMake fdp_Order_makes) : FnOk P w K mg base CX0 1 fp_Order_makes fdp_Order_makes ["self"] (getSp C_Order "names") := getter_ok T.pF_Order_makes scp_Order_makes rfl rfl T.cl_Order (T.fl_Order_names _ T.c_Order).n
theorem sc_law_box : FnScope ["_law_script"] ["_law_script"] (defScope (topS 33)) := ⟨rfl, rfl, rfl, by decide +kernel, rfl, by decide +kernel, by decide +kernel⟩
theorem ok_law_box (T : Txt K mg base f_law_box f_law_take f_law_name f_law_names f_law_drawn_pairs f_law_named f_check_name f_check_makes f_check_known f_check_pairs f_closed_rows f_rows_of f_Order___init__ f_law_closed f_law_chairs f_law_heights f_law_above f_law_levels f_law_stands f_law_grown f_law_is_int f_law_int_list f_law_indexes f_law_due f_are_chairs f_Order_has f_stands f_ranks_above f_below_lists f_check_tallest f_law C_Full C_InvalidName C_DuplicateMake C_UnknownMake C_Order fi_Full fi_InvalidName fi_DuplicateMake fi_UnknownMake pp_Order_makes fp_Order_makes ca_law_grown tp_law_grown fd_law_box fd_law_take fd_law_name fd_law_names fd_law_drawn_pairs fd_law_named fd_check_name fd_check_makes fd_check_known fd_check_pairs fd_closed_rows fd_rows_of fd_Order___init__ fd_law_closed fd_law_chairs fd_law_heights fd_law_above fd_law_levels fd_law_stands fd_law_grown fd_law_is_int fd_law_int_list fd_law_indexes fd_law_due fd_are_chairs fd_Order_has fd_stands fd_ranks_above fd_below_lists fd_check_tallest fd_law fdi_Full fdi_InvalidName fdi_DuplicateMake fdi_UnknownMake fdp_Order_makes) : FnOk P w K mg base (L2N.CX P w) 1 f_law_box fd_law_box ["_law_script"] (spM ⟨K, cls [("Full", C_Full), ("InvalidName", C_InvalidName), ("DuplicateMake", C_DuplicateMake), ("UnknownMake", C_UnknownMake), ("Order", C_Order)], P0, none, [(tp_law_grown, "_law_grown.<locals>.<lambda>")]⟩ m_law_box) := by
  have sc := sc_law_box
  have z := fn_den2 (P := P) (w := w) (mg := mg) (base := base) (G := (Gz C_Full C_InvalidName C_DuplicateMake C_UnknownMake C_Order tp_law_grown)) (tc := []) (den := d_law_box) (pr := []) (k := 0) T.F_law_box sc_law_box (by decide) fun cdv A outer s H E hr tk po hu => (gss_one (gs_lend (i := 0) (gs_ret (g_lst (ga_cons (g_fz (g_list (by rfl) T.b_list (go_v (g_slice (g_cp (pv 0)) go2_none (go2_some g_int))))) (ga_cons g_int (ga_cons g_int (ga_cons g_int ga_nil))))))))
  rw [m_law_box_def]
  exact z
theorem sc_law_take : FnScope ["_law_box_here", "_law_many", "_law_cell", "_law_drawn"] ["_law_box_here", "_law_many"] (defScope (topS 32)) := ⟨rfl, rfl, rfl, by decide +kernel, rfl, by decide +kernel, by decide +kernel⟩
theorem ok_law_take (T : Txt K mg base f_law_box f_law_take f_law_name f_law_names f_law_drawn_pairs f_law_named f_check_name f_check_makes f_check_known f_check_pairs f_closed_rows f_rows_of f_Order___init__ f_law_closed f_law_chairs f_law_heights f_law_above f_law_levels f_law_stands f_law_grown f_law_is_int f_law_int_list f_law_indexes f_law_due f_are_chairs f_Order_has f_stands f_ranks_above f_below_lists f_check_tallest f_law C_Full C_InvalidName C_DuplicateMake C_UnknownMake C_Order fi_Full fi_InvalidName fi_DuplicateMake fi_UnknownMake pp_Order_makes fp_Order_makes ca_law_grown tp_law_grown fd_law_box fd_law_take fd_law_name fd_law_names fd_law_drawn_pairs fd_law_named fd_check_name fd_check_makes fd_check_known fd_check_pairs fd_closed_rows fd_rows_of fd_Order___init__ fd_law_closed fd_law_chairs fd_law_heights fd_law_above fd_law_levels fd_law_stands fd_law_grown fd_law_is_int fd_law_int_list fd_law_indexes fd_law_due fd_are_chairs fd_Order_has fd_stands fd_ranks_above fd_below_lists fd_check_tallest fd_law fdi_Full fdi_InvalidName fdi_DuplicateMake fdi_UnknownMake fdp_Order_makes) : FnOk P w K mg base (L2N.CX P w) 1 f_law_take fd_law_take ["_law_box_here", "_law_many"] (spM ⟨K, cls [("Full", C_Full), ("InvalidName", C_InvalidName), ("DuplicateMake", C_DuplicateMake), ("UnknownMake", C_UnknownMake), ("Order", C_Order)], P0, none, [(tp_law_grown, "_law_grown.<locals>.<lambda>")]⟩ m_law_take) := by
  have sc := sc_law_take
  have z := fn_den2 (P := P) (w := w) (mg := mg) (base := base) (G := (Gz C_Full C_InvalidName C_DuplicateMake C_UnknownMake C_Order tp_law_grown)) (tc := [2, 1002, 0, 0, 0, 3, 1003, 0, 0]) (den := d_law_take) (pr := [0]) (k := 0) T.F_law_take sc_law_take (by decide) fun cdv A outer s H E hr tk po hu => (gss_cons (gs_if (gt_w (gw_and (gt_eq hu (go_v (g_ix (go_p (pv 0)) (go_v g_int))) (go_v g_int)) (gw_one .And (gt_lt (go_v (g_ix (go_p (pv 0)) (go_v g_int))) (go_v (g_len (by rfl) T.b_len (go_v (g_ix (go_p (pv 0)) (go_v g_int))))))))) (gss_cons (gs_asg (i := 2) (g_ix (go_v (g_ix (go_p (pv 0)) (go_v g_int))) (go_v (g_ix (go_p (pv 0)) (go_v g_int)))) sc.nd rfl (by first | exact .inl rfl | exact .inr rfl))
  (gss_cons (gs_set (i := 0) (pv 0) g_int (g_add (go_v (g_ix (go_p (pv 0)) (go_v g_int))) (go_v g_int)))
  (gss_one (gs_if (gt_ge (go_v (g_cp (pv 2))) (go_v (g_pow (go_v g_int) (go_v g_int)))) (gss_one (gs_set (i := 0) (pv 0) g_int (g_sub (go_v (g_cp (pv 2))) (go_v (g_pow (go_v g_int) (go_v g_int)))))) (gss_one (gs_set (i := 0) (pv 0) g_int (g_mod (go_v (g_intC (by rfl) T.b_int (go_v (g_add (go_v (g_add (go_v (g_mul (go_v (g_ix (go_p (pv 0)) (go_v g_int))) (go_v g_int))) (go_v (g_cp (pv 2))))) (go_v g_int))))) (go_v g_int)))))))) gss_nil)
  (gss_cons (gs_if (gt_gt (go_v (g_ix (go_p (pv 0)) (go_v g_int))) (go_v g_int)) (gss_cons (gs_asg (i := 3) (g_mod (go_v (g_intC (by rfl) T.b_int (go_v (g_ix (go_p (pv 0)) (go_v g_int))))) (go_v (g_cp (pv 1)))) sc.nd rfl (by first | exact .inl rfl | exact .inr rfl))
  (gss_cons (gs_set (i := 0) (pv 0) g_int (g_fdiv (go_v (g_ix (go_p (pv 0)) (go_v g_int))) (go_v (g_cp (pv 1)))))
  (gss_one (gs_ret (g_cp (pv 3)))))) gss_nil)
  (gss_cons (gs_set (i := 0) (pv 0) g_int (g_mod (go_v (g_intC (by rfl) T.b_int (go_v (g_mul (go_v (g_ix (go_p (pv 0)) (go_v g_int))) (go_v g_int))))) (go_v g_int)))
  (gss_one (gs_ret (g_mod (go_v (g_fdiv (go_v (g_intC (by rfl) T.b_int (go_v (g_ix (go_p (pv 0)) (go_v g_int))))) (go_v g_int))) (go_v (g_cp (pv 1)))))))))
  rw [m_law_take_def]
  exact z
theorem sc_law_name : FnScope ["_law_box_here", "_law_names_here", "_law_letters", "_law_word", "_law_k"] ["_law_box_here", "_law_names_here"] (defScope (topS 34)) := ⟨rfl, rfl, rfl, by decide +kernel, rfl, by decide +kernel, by decide +kernel⟩
theorem ok_law_name (T : Txt K mg base f_law_box f_law_take f_law_name f_law_names f_law_drawn_pairs f_law_named f_check_name f_check_makes f_check_known f_check_pairs f_closed_rows f_rows_of f_Order___init__ f_law_closed f_law_chairs f_law_heights f_law_above f_law_levels f_law_stands f_law_grown f_law_is_int f_law_int_list f_law_indexes f_law_due f_are_chairs f_Order_has f_stands f_ranks_above f_below_lists f_check_tallest f_law C_Full C_InvalidName C_DuplicateMake C_UnknownMake C_Order fi_Full fi_InvalidName fi_DuplicateMake fi_UnknownMake pp_Order_makes fp_Order_makes ca_law_grown tp_law_grown fd_law_box fd_law_take fd_law_name fd_law_names fd_law_drawn_pairs fd_law_named fd_check_name fd_check_makes fd_check_known fd_check_pairs fd_closed_rows fd_rows_of fd_Order___init__ fd_law_closed fd_law_chairs fd_law_heights fd_law_above fd_law_levels fd_law_stands fd_law_grown fd_law_is_int fd_law_int_list fd_law_indexes fd_law_due fd_are_chairs fd_Order_has fd_stands fd_ranks_above fd_below_lists fd_check_tallest fd_law fdi_Full fdi_InvalidName fdi_DuplicateMake fdi_UnknownMake fdp_Order_makes) : FnOk P w K mg base (L2N.CX P w) 2 f_law_name fd_law_name ["_law_box_here", "_law_names_here"] (spM ⟨K, cls [("Full", C_Full), ("InvalidName", C_InvalidName), ("DuplicateMake", C_DuplicateMake), ("UnknownMake", C_UnknownMake), ("Order", C_Order)], P0, none, [(tp_law_grown, "_law_grown.<locals>.<lambda>")]⟩ m_law_name) := by
  have sc := sc_law_name
  have z := fn_den2 (P := P) (w := w) (mg := mg) (base := base) (G := (Gz C_Full C_InvalidName C_DuplicateMake C_UnknownMake C_Order tp_law_grown)) (tc := [2, 1002, 3, 1003, 0, 4, 1004, 0, 3, 1003, 4, 1004, 3, 1003]) (den := d_law_name) (pr := [0]) (k := 1) T.F_law_name sc_law_name (by decide) fun cdv A outer s H E hr tk po hu => (gss_cons (gs_asg (i := 2) g_str sc.nd rfl (by first | exact .inl rfl | exact .inr rfl))
  (gss_cons (gs_asg (i := 3) g_str sc.nd rfl (by first | exact .inl rfl | exact .inr rfl))
  (gss_cons (gs_for (tg := (.one 4)) (fg := []) po rfl (gi_range1 (by rfl) T.b_range (g_add (go_v g_int) (go_v (g_call tk (ok_law_take T) (hr.mono (by decide)) (by rfl) T.g_law_take T.F_law_take.kp T.a_law_take (gr_io (pv 0) (gr_v g_int gr_nil)))))) (pg_name (i := 4) sc.nd rfl (by first | exact .inl rfl | exact .inr rfl)) (gss_one (gs_asg (i := 3) (g_add (go_v (g_cp (pv 3))) (go_v (g_ix (go_v (g_cp (pv 2))) (go_v (g_call tk (ok_law_take T) (hr.mono (by decide)) (by rfl) T.g_law_take T.F_law_take.kp T.a_law_take (gr_io (pv 0) (gr_v g_int gr_nil))))))) sc.nd rfl (by first | exact .inl rfl | exact .inr rfl))))
  (gss_cons (gs_for (tg := (.one 4)) (fg := []) po rfl (gi_range1 (by rfl) T.b_range (g_len (by rfl) T.b_len (go_p (pv 1)))) (pg_name (i := 4) sc.nd rfl (by first | exact .inl rfl | exact .inr rfl)) (gss_one (gs_if (gt_in hu (go_v (g_cp (pv 3))) (go_p (pv 1))) (gss_one (gs_asg (i := 3) (g_add (go_v (g_cp (pv 3))) (go_v g_str)) sc.nd rfl (by first | exact .inl rfl | exact .inr rfl))) gss_nil)))
  (gss_one (gs_ret (g_cp (pv 3))))))))
  rw [m_law_name_def]
  exact z
theorem sc_law_names : FnScope ["_law_box_here", "_law_size", "_law_names_here", "_law_k"] ["_law_box_here", "_law_size"] (defScope (topS 35)) := ⟨rfl, rfl, rfl, by decide +kernel, rfl, by decide +kernel, by decide +kernel⟩
theorem ok_law_names (T : Txt K mg base f_law_box f_law_take f_law_name f_law_names f_law_drawn_pairs f_law_named f_check_name f_check_makes f_check_known f_check_pairs f_closed_rows f_rows_of f_Order___init__ f_law_closed f_law_chairs f_law_heights f_law_above f_law_levels f_law_stands f_law_grown f_law_is_int f_law_int_list f_law_indexes f_law_due f_are_chairs f_Order_has f_stands f_ranks_above f_below_lists f_check_tallest f_law C_Full C_InvalidName C_DuplicateMake C_UnknownMake C_Order fi_Full fi_InvalidName fi_DuplicateMake fi_UnknownMake pp_Order_makes fp_Order_makes ca_law_grown tp_law_grown fd_law_box fd_law_take fd_law_name fd_law_names fd_law_drawn_pairs fd_law_named fd_check_name fd_check_makes fd_check_known fd_check_pairs fd_closed_rows fd_rows_of fd_Order___init__ fd_law_closed fd_law_chairs fd_law_heights fd_law_above fd_law_levels fd_law_stands fd_law_grown fd_law_is_int fd_law_int_list fd_law_indexes fd_law_due fd_are_chairs fd_Order_has fd_stands fd_ranks_above fd_below_lists fd_check_tallest fd_law fdi_Full fdi_InvalidName fdi_DuplicateMake fdi_UnknownMake fdp_Order_makes) : FnOk P w K mg base (L2N.CX P w) 3 f_law_names fd_law_names ["_law_box_here", "_law_size"] (spM ⟨K, cls [("Full", C_Full), ("InvalidName", C_InvalidName), ("DuplicateMake", C_DuplicateMake), ("UnknownMake", C_UnknownMake), ("Order", C_Order)], P0, none, [(tp_law_grown, "_law_grown.<locals>.<lambda>")]⟩ m_law_names) := by
  have sc := sc_law_names
  have z := fn_den2 (P := P) (w := w) (mg := mg) (base := base) (G := (Gz C_Full C_InvalidName C_DuplicateMake C_UnknownMake C_Order tp_law_grown)) (tc := [2, 1002, 3, 1003, 0, 2, 2]) (den := d_law_names) (pr := [0]) (k := 2) T.F_law_names sc_law_names (by decide) fun cdv A outer s H E hr tk po hu => (gss_cons (gs_asg (i := 2) (g_lst ga_nil) sc.nd rfl (by first | exact .inl rfl | exact .inr rfl))
  (gss_cons (gs_for (tg := (.one 3)) (fg := []) po rfl (gi_range1 (by rfl) T.b_range (g_cp (pv 1))) (pg_name (i := 3) sc.nd rfl (by first | exact .inl rfl | exact .inr rfl)) (gss_one (gs_app (i := 2) (pv 2) (g_call tk (ok_law_name T) (hr.mono (by decide)) (by rfl) T.g_law_name T.F_law_name.kp T.a_law_name (gr_io (pv 0) (gr_l (pv 2) gr_nil))))))
  (gss_one (gs_ret (g_mv (pv 2))))))
  rw [m_law_names_def]
  exact z
theorem sc_law_drawn_pairs : FnScope ["_law_box_here", "_law_size", "_law_count", "_law_pairs", "_law_k", "_law_upper"] ["_law_box_here", "_law_size", "_law_count"] (defScope (topS 36)) := ⟨rfl, rfl, rfl, by decide +kernel, rfl, by decide +kernel, by decide +kernel⟩
theorem ok_law_drawn_pairs (T : Txt K mg base f_law_box f_law_take f_law_name f_law_names f_law_drawn_pairs f_law_named f_check_name f_check_makes f_check_known f_check_pairs f_closed_rows f_rows_of f_Order___init__ f_law_closed f_law_chairs f_law_heights f_law_above f_law_levels f_law_stands f_law_grown f_law_is_int f_law_int_list f_law_indexes f_law_due f_are_chairs f_Order_has f_stands f_ranks_above f_below_lists f_check_tallest f_law C_Full C_InvalidName C_DuplicateMake C_UnknownMake C_Order fi_Full fi_InvalidName fi_DuplicateMake fi_UnknownMake pp_Order_makes fp_Order_makes ca_law_grown tp_law_grown fd_law_box fd_law_take fd_law_name fd_law_names fd_law_drawn_pairs fd_law_named fd_check_name fd_check_makes fd_check_known fd_check_pairs fd_closed_rows fd_rows_of fd_Order___init__ fd_law_closed fd_law_chairs fd_law_heights fd_law_above fd_law_levels fd_law_stands fd_law_grown fd_law_is_int fd_law_int_list fd_law_indexes fd_law_due fd_are_chairs fd_Order_has fd_stands fd_ranks_above fd_below_lists fd_check_tallest fd_law fdi_Full fdi_InvalidName fdi_DuplicateMake fdi_UnknownMake fdp_Order_makes) : FnOk P w K mg base (L2N.CX P w) 2 f_law_drawn_pairs fd_law_drawn_pairs ["_law_box_here", "_law_size", "_law_count"] (spM ⟨K, cls [("Full", C_Full), ("InvalidName", C_InvalidName), ("DuplicateMake", C_DuplicateMake), ("UnknownMake", C_UnknownMake), ("Order", C_Order)], P0, none, [(tp_law_grown, "_law_grown.<locals>.<lambda>")]⟩ m_law_drawn_pairs) := by
  have sc := sc_law_drawn_pairs
  have z := fn_den2 (P := P) (w := w) (mg := mg) (base := base) (G := (Gz C_Full C_InvalidName C_DuplicateMake C_UnknownMake C_Order tp_law_grown)) (tc := [3, 1003, 4, 1004, 0, 5, 1005, 3, 3]) (den := d_law_drawn_pairs) (pr := [0]) (k := 1) T.F_law_drawn_pairs sc_law_drawn_pairs (by decide) fun cdv A outer s H E hr tk po hu => (gss_cons (gs_asg (i := 3) (g_lst ga_nil) sc.nd rfl (by first | exact .inl rfl | exact .inr rfl))
  (gss_cons (gs_for (tg := (.one 4)) (fg := []) po rfl (gi_range1 (by rfl) T.b_range (g_mul (go_v (g_cp (pv 2))) (go_v (g_min rfl (by rfl) T.b_min (go_v (g_cp (pv 1))) (go_v g_int))))) (pg_name (i := 4) sc.nd rfl (by first | exact .inl rfl | exact .inr rfl)) (gss_wk (t2 := [0, 5, 1005, 3]) (gss_cons (gs_asg (i := 5) (g_call tk (ok_law_take T) (hr.mono (by decide)) (by rfl) T.g_law_take T.F_law_take.kp T.a_law_take (gr_io (pv 0) (gr_v (g_cp (pv 1)) gr_nil))) sc.nd rfl (by first | exact .inl rfl | exact .inr rfl))
  (gss_one (gs_app (i := 3) (pv 3) (g_tup (ga_cons (g_cp (pv 5)) (ga_cons (g_call tk (ok_law_take T) (hr.mono (by decide)) (by rfl) T.g_law_take T.F_law_take.kp T.a_law_take (gr_io (pv 0) (gr_v (g_cp (pv 1)) gr_nil))) ga_nil)))))) (by decide)))
  (gss_one (gs_ret (g_mv (pv 3))))))
  rw [m_law_drawn_pairs_def]
  exact z
theorem sc_law_named : FnScope ["_law_names_here", "_law_pairs", "_law_pair"] ["_law_names_here", "_law_pairs"] (defScope (topS 37)) := ⟨rfl, rfl, rfl, by decide +kernel, rfl, by decide +kernel, by decide +kernel⟩
theorem ok_law_named (T : Txt K mg base f_law_box f_law_take f_law_name f_law_names f_law_drawn_pairs f_law_named f_check_name f_check_makes f_check_known f_check_pairs f_closed_rows f_rows_of f_Order___init__ f_law_closed f_law_chairs f_law_heights f_law_above f_law_levels f_law_stands f_law_grown f_law_is_int f_law_int_list f_law_indexes f_law_due f_are_chairs f_Order_has f_stands f_ranks_above f_below_lists f_check_tallest f_law C_Full C_InvalidName C_DuplicateMake C_UnknownMake C_Order fi_Full fi_InvalidName fi_DuplicateMake fi_UnknownMake pp_Order_makes fp_Order_makes ca_law_grown tp_law_grown fd_law_box fd_law_take fd_law_name fd_law_names fd_law_drawn_pairs fd_law_named fd_check_name fd_check_makes fd_check_known fd_check_pairs fd_closed_rows fd_rows_of fd_Order___init__ fd_law_closed fd_law_chairs fd_law_heights fd_law_above fd_law_levels fd_law_stands fd_law_grown fd_law_is_int fd_law_int_list fd_law_indexes fd_law_due fd_are_chairs fd_Order_has fd_stands fd_ranks_above fd_below_lists fd_check_tallest fd_law fdi_Full fdi_InvalidName fdi_DuplicateMake fdi_UnknownMake fdp_Order_makes) : FnOk P w K mg base (L2N.CX P w) 1 f_law_named fd_law_named ["_law_names_here", "_law_pairs"] (spM ⟨K, cls [("Full", C_Full), ("InvalidName", C_InvalidName), ("DuplicateMake", C_DuplicateMake), ("UnknownMake", C_UnknownMake), ("Order", C_Order)], P0, none, [(tp_law_grown, "_law_grown.<locals>.<lambda>")]⟩ m_law_named) := by
  have sc := sc_law_named
  have z := fn_den2 (P := P) (w := w) (mg := mg) (base := base) (G := (Gz C_Full C_InvalidName C_DuplicateMake C_UnknownMake C_Order tp_law_grown)) (tc := [1002]) (den := d_law_named) (pr := []) (k := 0) T.F_law_named sc_law_named (by decide) fun cdv A outer s H E hr tk po hu => (gss_one (gs_lend (i := 1) (gs_ret (g_lc (own := [("_law_pair", 2)]) (tg := (.one 2)) (to := [1002]) rfl sc.nd (gi_seq (g_cp (pv 1))) (blkOk_by (N := ["_law_names_here", "_law_pairs", "_law_pair"]) (sc := defScope (topS 37)) (by decide +kernel)) (fun _ _ _ _ _ => (pg_name (i := 2) sc.nd rfl (by first | exact .inl rfl | exact .inr rfl))) (fun _ _ _ _ _ => gts_nil) (fun _ _ _ _ _ => (g_tup (ga_cons (g_ix (go_p (pv 0)) (go_v (g_ix (go_v (g_cp (pv 2))) (go_v g_int)))) (ga_cons (g_ix (go_p (pv 0)) (go_v (g_ix (go_v (g_cp (pv 2))) (go_v g_int)))) ga_nil))))))))
  rw [m_law_named_def]
  exact z
theorem okx_Full (T : Txt K mg base f_law_box f_law_take f_law_name f_law_names f_law_drawn_pairs f_law_named f_check_name f_check_makes f_check_known f_check_pairs f_closed_rows f_rows_of f_Order___init__ f_law_closed f_law_chairs f_law_heights f_law_above f_law_levels f_law_stands f_law_grown f_law_is_int f_law_int_list f_law_indexes f_law_due f_are_chairs f_Order_has f_stands f_ranks_above f_below_lists f_check_tallest f_law C_Full C_InvalidName C_DuplicateMake C_UnknownMake C_Order fi_Full fi_InvalidName fi_DuplicateMake fi_UnknownMake pp_Order_makes fp_Order_makes ca_law_grown tp_law_grown fd_law_box fd_law_take fd_law_name fd_law_names fd_law_drawn_pairs fd_law_named fd_check_name fd_check_makes fd_check_known fd_check_pairs fd_closed_rows fd_rows_of fd_Order___init__ fd_law_closed fd_law_chairs fd_law_heights fd_law_above fd_law_levels fd_law_stands fd_law_grown fd_law_is_int fd_law_int_list fd_law_indexes fd_law_due fd_are_chairs fd_Order_has fd_stands fd_ranks_above fd_below_lists fd_check_tallest fd_law fdi_Full fdi_InvalidName fdi_DuplicateMake fdi_UnknownMake fdp_Order_makes) : FnOk P w K mg base CX0 1 fi_Full fdi_Full ["self", "most"] (spXP K ["most"]) :=
  fn_xinit T.F_Full ⟨rfl, rfl, rfl, by decide +kernel, rfl, by decide +kernel, by decide +kernel⟩ (by decide) (by decide) fun _ _ _ _ _ _ => (.cons (ps_ost (pv 0) (pv 1)) .nil)
theorem okx_InvalidName (T : Txt K mg base f_law_box f_law_take f_law_name f_law_names f_law_drawn_pairs f_law_named f_check_name f_check_makes f_check_known f_check_pairs f_closed_rows f_rows_of f_Order___init__ f_law_closed f_law_chairs f_law_heights f_law_above f_law_levels f_law_stands f_law_grown f_law_is_int f_law_int_list f_law_indexes f_law_due f_are_chairs f_Order_has f_stands f_ranks_above f_below_lists f_check_tallest f_law C_Full C_InvalidName C_DuplicateMake C_UnknownMake C_Order fi_Full fi_InvalidName fi_DuplicateMake fi_UnknownMake pp_Order_makes fp_Order_makes ca_law_grown tp_law_grown fd_law_box fd_law_take fd_law_name fd_law_names fd_law_drawn_pairs fd_law_named fd_check_name fd_check_makes fd_check_known fd_check_pairs fd_closed_rows fd_rows_of fd_Order___init__ fd_law_closed fd_law_chairs fd_law_heights fd_law_above fd_law_levels fd_law_stands fd_law_grown fd_law_is_int fd_law_int_list fd_law_indexes fd_law_due fd_are_chairs fd_Order_has fd_stands fd_ranks_above fd_below_lists fd_check_tallest fd_law fdi_Full fdi_InvalidName fdi_DuplicateMake fdi_UnknownMake fdp_Order_makes) : FnOk P w K mg base CX0 1 fi_InvalidName fdi_InvalidName ["self", "name"] (spXP K ["name"]) :=
  fn_xinit T.F_InvalidName ⟨rfl, rfl, rfl, by decide +kernel, rfl, by decide +kernel, by decide +kernel⟩ (by decide) (by decide) fun _ _ _ _ _ _ => (.cons (ps_ost (pv 0) (pv 1)) .nil)
theorem sc_check_name : FnScope ["name", "letter"] ["name"] (defScope (topS 12)) := ⟨rfl, rfl, rfl, by decide +kernel, rfl, by decide +kernel, by decide +kernel⟩
theorem ok_check_name (T : Txt K mg base f_law_box f_law_take f_law_name f_law_names f_law_drawn_pairs f_law_named f_check_name f_check_makes f_check_known f_check_pairs f_closed_rows f_rows_of f_Order___init__ f_law_closed f_law_chairs f_law_heights f_law_above f_law_levels f_law_stands f_law_grown f_law_is_int f_law_int_list f_law_indexes f_law_due f_are_chairs f_Order_has f_stands f_ranks_above f_below_lists f_check_tallest f_law C_Full C_InvalidName C_DuplicateMake C_UnknownMake C_Order fi_Full fi_InvalidName fi_DuplicateMake fi_UnknownMake pp_Order_makes fp_Order_makes ca_law_grown tp_law_grown fd_law_box fd_law_take fd_law_name fd_law_names fd_law_drawn_pairs fd_law_named fd_check_name fd_check_makes fd_check_known fd_check_pairs fd_closed_rows fd_rows_of fd_Order___init__ fd_law_closed fd_law_chairs fd_law_heights fd_law_above fd_law_levels fd_law_stands fd_law_grown fd_law_is_int fd_law_int_list fd_law_indexes fd_law_due fd_are_chairs fd_Order_has fd_stands fd_ranks_above fd_below_lists fd_check_tallest fd_law fdi_Full fdi_InvalidName fdi_DuplicateMake fdi_UnknownMake fdp_Order_makes) : FnOk P w K mg base (L2N.CX P w) 3 f_check_name fd_check_name ["name"] (spM ⟨K, cls [("Full", C_Full), ("InvalidName", C_InvalidName), ("DuplicateMake", C_DuplicateMake), ("UnknownMake", C_UnknownMake), ("Order", C_Order)], P0, none, [(tp_law_grown, "_law_grown.<locals>.<lambda>")]⟩ m_check_name) := by
  have sc := sc_check_name
  have z := fn_den2 (P := P) (w := w) (mg := mg) (base := base) (G := (Gz C_Full C_InvalidName C_DuplicateMake C_UnknownMake C_Order tp_law_grown)) (tc := [1, 1001]) (den := d_check_name) (pr := []) (k := 2) T.F_check_name sc_check_name (by decide) fun cdv A outer s H E hr tk po hu => (gss_cons (gs_if (gt_not (gt_chain op_le op_le p2_le p2_le g_int (g_len (by rfl) T.b_len (go_v (g_cp (pv 0)))) (g_glI (by rfl) T.k_LONGEST_NAME))) (gss_one (gs_raise rfl tk T.c_InvalidName T.x_InvalidName T.nf_InvalidName T.i_InvalidName T.t_InvalidName (okx_InvalidName T) (hr.mono (by decide)) T.a_InvalidName (by rfl) T.g_InvalidName (ga_cons (g_cp (pv 0)) ga_nil))) gss_nil)
  (gss_one (gs_for (tg := (.one 1)) (fg := []) po rfl (gi_seq (g_cp (pv 0))) (pg_name (i := 1) sc.nd rfl (by first | exact .inl rfl | exact .inr rfl)) (gss_one (gs_if (gt_notIn hu (go_v (g_cp (pv 1))) (go_v (g_glS (by rfl) T.k_LETTERS))) (gss_one (gs_raise rfl tk T.c_InvalidName T.x_InvalidName T.nf_InvalidName T.i_InvalidName T.t_InvalidName (okx_InvalidName T) (hr.mono (by decide)) T.a_InvalidName (by rfl) T.g_InvalidName (ga_cons (g_cp (pv 0)) ga_nil))) gss_nil)))))
  rw [m_check_name_def]
  exact z
theorem okx_DuplicateMake (T : Txt K mg base f_law_box f_law_take f_law_name f_law_names f_law_drawn_pairs f_law_named f_check_name f_check_makes f_check_known f_check_pairs f_closed_rows f_rows_of f_Order___init__ f_law_closed f_law_chairs f_law_heights f_law_above f_law_levels f_law_stands f_law_grown f_law_is_int f_law_int_list f_law_indexes f_law_due f_are_chairs f_Order_has f_stands f_ranks_above f_below_lists f_check_tallest f_law C_Full C_InvalidName C_DuplicateMake C_UnknownMake C_Order fi_Full fi_InvalidName fi_DuplicateMake fi_UnknownMake pp_Order_makes fp_Order_makes ca_law_grown tp_law_grown fd_law_box fd_law_take fd_law_name fd_law_names fd_law_drawn_pairs fd_law_named fd_check_name fd_check_makes fd_check_known fd_check_pairs fd_closed_rows fd_rows_of fd_Order___init__ fd_law_closed fd_law_chairs fd_law_heights fd_law_above fd_law_levels fd_law_stands fd_law_grown fd_law_is_int fd_law_int_list fd_law_indexes fd_law_due fd_are_chairs fd_Order_has fd_stands fd_ranks_above fd_below_lists fd_check_tallest fd_law fdi_Full fdi_InvalidName fdi_DuplicateMake fdi_UnknownMake fdp_Order_makes) : FnOk P w K mg base CX0 1 fi_DuplicateMake fdi_DuplicateMake ["self", "name"] (spXP K ["name"]) :=
  fn_xinit T.F_DuplicateMake ⟨rfl, rfl, rfl, by decide +kernel, rfl, by decide +kernel, by decide +kernel⟩ (by decide) (by decide) fun _ _ _ _ _ _ => (.cons (ps_ost (pv 0) (pv 1)) .nil)
theorem sc_check_makes : FnScope ["makes", "seen", "name"] ["makes"] (defScope (topS 13)) := ⟨rfl, rfl, rfl, by decide +kernel, rfl, by decide +kernel, by decide +kernel⟩
theorem ok_check_makes (T : Txt K mg base f_law_box f_law_take f_law_name f_law_names f_law_drawn_pairs f_law_named f_check_name f_check_makes f_check_known f_check_pairs f_closed_rows f_rows_of f_Order___init__ f_law_closed f_law_chairs f_law_heights f_law_above f_law_levels f_law_stands f_law_grown f_law_is_int f_law_int_list f_law_indexes f_law_due f_are_chairs f_Order_has f_stands f_ranks_above f_below_lists f_check_tallest f_law C_Full C_InvalidName C_DuplicateMake C_UnknownMake C_Order fi_Full fi_InvalidName fi_DuplicateMake fi_UnknownMake pp_Order_makes fp_Order_makes ca_law_grown tp_law_grown fd_law_box fd_law_take fd_law_name fd_law_names fd_law_drawn_pairs fd_law_named fd_check_name fd_check_makes fd_check_known fd_check_pairs fd_closed_rows fd_rows_of fd_Order___init__ fd_law_closed fd_law_chairs fd_law_heights fd_law_above fd_law_levels fd_law_stands fd_law_grown fd_law_is_int fd_law_int_list fd_law_indexes fd_law_due fd_are_chairs fd_Order_has fd_stands fd_ranks_above fd_below_lists fd_check_tallest fd_law fdi_Full fdi_InvalidName fdi_DuplicateMake fdi_UnknownMake fdp_Order_makes) : FnOk P w K mg base (L2N.CX P w) 4 f_check_makes fd_check_makes ["makes"] (spM ⟨K, cls [("Full", C_Full), ("InvalidName", C_InvalidName), ("DuplicateMake", C_DuplicateMake), ("UnknownMake", C_UnknownMake), ("Order", C_Order)], P0, none, [(tp_law_grown, "_law_grown.<locals>.<lambda>")]⟩ m_check_makes) := by
  have sc := sc_check_makes
  have z := fn_den2 (P := P) (w := w) (mg := mg) (base := base) (G := (Gz C_Full C_InvalidName C_DuplicateMake C_UnknownMake C_Order tp_law_grown)) (tc := [1, 1001, 2, 1002, 1]) (den := d_check_makes) (pr := []) (k := 3) T.F_check_makes sc_check_makes (by decide) fun cdv A outer s H E hr tk po hu => (gss_cons (gs_if (gt_gt (go_v (g_len (by rfl) T.b_len (go_p (pv 0)))) (go_v (g_glI (by rfl) T.k_MOST_MAKES))) (gss_one (gs_raise rfl tk T.c_Full T.x_Full T.nf_Full T.i_Full T.t_Full (okx_Full T) (hr.mono (by decide)) T.a_Full (by rfl) T.g_Full (ga_cons (g_glI (by rfl) T.k_MOST_MAKES) ga_nil))) gss_nil)
  (gss_cons (gs_asg (i := 1) (g_lst ga_nil) sc.nd rfl (by first | exact .inl rfl | exact .inr rfl))
  (gss_one (gs_lend (i := 0) (gs_for (tg := (.one 2)) (fg := []) po rfl (gi_seq (g_cp (pv 0))) (pg_name (i := 2) sc.nd rfl (by first | exact .inl rfl | exact .inr rfl)) (gss_cons (gs_expr (g_call tk (ok_check_name T) (hr.mono (by decide)) (by rfl) T.g_check_name T.F_check_name.kp T.a_check_name (gr_v (g_cp (pv 2)) gr_nil)))
  (gss_cons (gs_if (gt_in hu (go_v (g_cp (pv 2))) (go_p (pv 1))) (gss_one (gs_raise rfl tk T.c_DuplicateMake T.x_DuplicateMake T.nf_DuplicateMake T.i_DuplicateMake T.t_DuplicateMake (okx_DuplicateMake T) (hr.mono (by decide)) T.a_DuplicateMake (by rfl) T.g_DuplicateMake (ga_cons (g_cp (pv 2)) ga_nil))) gss_nil)
  (gss_one (gs_app (i := 1) (pv 1) (g_cp (pv 2)))))))))))
  rw [m_check_makes_def]
  exact z
theorem okx_UnknownMake (T : Txt K mg base f_law_box f_law_take f_law_name f_law_names f_law_drawn_pairs f_law_named f_check_name f_check_makes f_check_known f_check_pairs f_closed_rows f_rows_of f_Order___init__ f_law_closed f_law_chairs f_law_heights f_law_above f_law_levels f_law_stands f_law_grown f_law_is_int f_law_int_list f_law_indexes f_law_due f_are_chairs f_Order_has f_stands f_ranks_above f_below_lists f_check_tallest f_law C_Full C_InvalidName C_DuplicateMake C_UnknownMake C_Order fi_Full fi_InvalidName fi_DuplicateMake fi_UnknownMake pp_Order_makes fp_Order_makes ca_law_grown tp_law_grown fd_law_box fd_law_take fd_law_name fd_law_names fd_law_drawn_pairs fd_law_named fd_check_name fd_check_makes fd_check_known fd_check_pairs fd_closed_rows fd_rows_of fd_Order___init__ fd_law_closed fd_law_chairs fd_law_heights fd_law_above fd_law_levels fd_law_stands fd_law_grown fd_law_is_int fd_law_int_list fd_law_indexes fd_law_due fd_are_chairs fd_Order_has fd_stands fd_ranks_above fd_below_lists fd_check_tallest fd_law fdi_Full fdi_InvalidName fdi_DuplicateMake fdi_UnknownMake fdp_Order_makes) : FnOk P w K mg base CX0 1 fi_UnknownMake fdi_UnknownMake ["self", "name"] (spXP K ["name"]) :=
  fn_xinit T.F_UnknownMake ⟨rfl, rfl, rfl, by decide +kernel, rfl, by decide +kernel, by decide +kernel⟩ (by decide) (by decide) fun _ _ _ _ _ _ => (.cons (ps_ost (pv 0) (pv 1)) .nil)
theorem sc_check_known : FnScope ["makes", "names", "name"] ["makes", "names"] (defScope (topS 14)) := ⟨rfl, rfl, rfl, by decide +kernel, rfl, by decide +kernel, by decide +kernel⟩
theorem ok_check_known (T : Txt K mg base f_law_box f_law_take f_law_name f_law_names f_law_drawn_pairs f_law_named f_check_name f_check_makes f_check_known f_check_pairs f_closed_rows f_rows_of f_Order___init__ f_law_closed f_law_chairs f_law_heights f_law_above f_law_levels f_law_stands f_law_grown f_law_is_int f_law_int_list f_law_indexes f_law_due f_are_chairs f_Order_has f_stands f_ranks_above f_below_lists f_check_tallest f_law C_Full C_InvalidName C_DuplicateMake C_UnknownMake C_Order fi_Full fi_InvalidName fi_DuplicateMake fi_UnknownMake pp_Order_makes fp_Order_makes ca_law_grown tp_law_grown fd_law_box fd_law_take fd_law_name fd_law_names fd_law_drawn_pairs fd_law_named fd_check_name fd_check_makes fd_check_known fd_check_pairs fd_closed_rows fd_rows_of fd_Order___init__ fd_law_closed fd_law_chairs fd_law_heights fd_law_above fd_law_levels fd_law_stands fd_law_grown fd_law_is_int fd_law_int_list fd_law_indexes fd_law_due fd_are_chairs fd_Order_has fd_stands fd_ranks_above fd_below_lists fd_check_tallest fd_law fdi_Full fdi_InvalidName fdi_DuplicateMake fdi_UnknownMake fdp_Order_makes) : FnOk P w K mg base (L2N.CX P w) 3 f_check_known fd_check_known ["makes", "names"] (spM ⟨K, cls [("Full", C_Full), ("InvalidName", C_InvalidName), ("DuplicateMake", C_DuplicateMake), ("UnknownMake", C_UnknownMake), ("Order", C_Order)], P0, none, [(tp_law_grown, "_law_grown.<locals>.<lambda>")]⟩ m_check_known) := by
  have sc := sc_check_known
  have z := fn_den2 (P := P) (w := w) (mg := mg) (base := base) (G := (Gz C_Full C_InvalidName C_DuplicateMake C_UnknownMake C_Order tp_law_grown)) (tc := [2, 1002]) (den := d_check_known) (pr := []) (k := 2) T.F_check_known sc_check_known (by decide) fun cdv A outer s H E hr tk po hu => (gss_one (gs_lend (i := 1) (gs_for (tg := (.one 2)) (fg := []) po rfl (gi_seq (g_cp (pv 1))) (pg_name (i := 2) sc.nd rfl (by first | exact .inl rfl | exact .inr rfl)) (gss_one (gs_if (gt_notIn hu (go_v (g_cp (pv 2))) (go_p (pv 0))) (gss_one (gs_raise rfl tk T.c_UnknownMake T.x_UnknownMake T.nf_UnknownMake T.i_UnknownMake T.t_UnknownMake (okx_UnknownMake T) (hr.mono (by decide)) T.a_UnknownMake (by rfl) T.g_UnknownMake (ga_cons (g_cp (pv 2)) ga_nil))) gss_nil)))))
  rw [m_check_known_def]
  exact z
theorem sc_check_pairs : FnScope ["makes", "pairs", "upper", "lower"] ["makes", "pairs"] (defScope (topS 15)) := ⟨rfl, rfl, rfl, by decide +kernel, rfl, by decide +kernel, by decide +kernel⟩
theorem ok_check_pairs (T : Txt K mg base f_law_box f_law_take f_law_name f_law_names f_law_drawn_pairs f_law_named f_check_name f_check_makes f_check_known f_check_pairs f_closed_rows f_rows_of f_Order___init__ f_law_closed f_law_chairs f_law_heights f_law_above f_law_levels f_law_stands f_law_grown f_law_is_int f_law_int_list f_law_indexes f_law_due f_are_chairs f_Order_has f_stands f_ranks_above f_below_lists f_check_tallest f_law C_Full C_InvalidName C_DuplicateMake C_UnknownMake C_Order fi_Full fi_InvalidName fi_DuplicateMake fi_UnknownMake pp_Order_makes fp_Order_makes ca_law_grown tp_law_grown fd_law_box fd_law_take fd_law_name fd_law_names fd_law_drawn_pairs fd_law_named fd_check_name fd_check_makes fd_check_known fd_check_pairs fd_closed_rows fd_rows_of fd_Order___init__ fd_law_closed fd_law_chairs fd_law_heights fd_law_above fd_law_levels fd_law_stands fd_law_grown fd_law_is_int fd_law_int_list fd_law_indexes fd_law_due fd_are_chairs fd_Order_has fd_stands fd_ranks_above fd_below_lists fd_check_tallest fd_law fdi_Full fdi_InvalidName fdi_DuplicateMake fdi_UnknownMake fdp_Order_makes) : FnOk P w K mg base (L2N.CX P w) 4 f_check_pairs fd_check_pairs ["makes", "pairs"] (spM ⟨K, cls [("Full", C_Full), ("InvalidName", C_InvalidName), ("DuplicateMake", C_DuplicateMake), ("UnknownMake", C_UnknownMake), ("Order", C_Order)], P0, none, [(tp_law_grown, "_law_grown.<locals>.<lambda>")]⟩ m_check_pairs) := by
  have sc := sc_check_pairs
  have z := fn_den2 (P := P) (w := w) (mg := mg) (base := base) (G := (Gz C_Full C_InvalidName C_DuplicateMake C_UnknownMake C_Order tp_law_grown)) (tc := [2, 1002, 3, 1003]) (den := d_check_pairs) (pr := []) (k := 3) T.F_check_pairs sc_check_pairs (by decide) fun cdv A outer s H E hr tk po hu => (gss_one (gs_lend (i := 1) (gs_for (tg := (.tup [2, 3])) (fg := []) po rfl (gi_seq (g_cp (pv 1))) (pg_tup rfl (pgs_cons (pg_name (i := 2) sc.nd rfl (by first | exact .inl rfl | exact .inr rfl)) (pgs_cons (pg_name (i := 3) sc.nd rfl (by first | exact .inl rfl | exact .inr rfl)) pgs_nil))) (gss_one (gs_expr (g_call tk (ok_check_known T) (hr.mono (by decide)) (by rfl) T.g_check_known T.F_check_known.kp T.a_check_known (gr_l (pv 0) (gr_v (g_tup (ga_cons (g_cp (pv 2)) (ga_cons (g_cp (pv 3)) ga_nil))) gr_nil))))))))
  rw [m_check_pairs_def]
  exact z
theorem sc_closed_rows : FnScope ["rows", "closed", "middle", "through", "upper"] ["rows"] (defScope (topS 17)) := ⟨rfl, rfl, rfl, by decide +kernel, rfl, by decide +kernel, by decide +kernel⟩
theorem ok_closed_rows (T : Txt K mg base f_law_box f_law_take f_law_name f_law_names f_law_drawn_pairs f_law_named f_check_name f_check_makes f_check_known f_check_pairs f_closed_rows f_rows_of f_Order___init__ f_law_closed f_law_chairs f_law_heights f_law_above f_law_levels f_law_stands f_law_grown f_law_is_int f_law_int_list f_law_indexes f_law_due f_are_chairs f_Order_has f_stands f_ranks_above f_below_lists f_check_tallest f_law C_Full C_InvalidName C_DuplicateMake C_UnknownMake C_Order fi_Full fi_InvalidName fi_DuplicateMake fi_UnknownMake pp_Order_makes fp_Order_makes ca_law_grown tp_law_grown fd_law_box fd_law_take fd_law_name fd_law_names fd_law_drawn_pairs fd_law_named fd_check_name fd_check_makes fd_check_known fd_check_pairs fd_closed_rows fd_rows_of fd_Order___init__ fd_law_closed fd_law_chairs fd_law_heights fd_law_above fd_law_levels fd_law_stands fd_law_grown fd_law_is_int fd_law_int_list fd_law_indexes fd_law_due fd_are_chairs fd_Order_has fd_stands fd_ranks_above fd_below_lists fd_check_tallest fd_law fdi_Full fdi_InvalidName fdi_DuplicateMake fdi_UnknownMake fdp_Order_makes) : FnOk P w K mg base (L2N.CX P w) 1 f_closed_rows fd_closed_rows ["rows"] (spM ⟨K, cls [("Full", C_Full), ("InvalidName", C_InvalidName), ("DuplicateMake", C_DuplicateMake), ("UnknownMake", C_UnknownMake), ("Order", C_Order)], P0, none, [(tp_law_grown, "_law_grown.<locals>.<lambda>")]⟩ m_closed_rows) := by
  have sc := sc_closed_rows
  have z := fn_den2 (P := P) (w := w) (mg := mg) (base := base) (G := (Gz C_Full C_InvalidName C_DuplicateMake C_UnknownMake C_Order tp_law_grown)) (tc := [1, 1001, 2, 1002, 3, 1003, 4, 1004, 1, 1]) (den := d_closed_rows) (pr := []) (k := 0) T.F_closed_rows sc_closed_rows (by decide) fun cdv A outer s H E hr tk po hu => (gss_cons (gs_asg (i := 1) (g_list (by rfl) T.b_list (go_p (pv 0))) sc.nd rfl (by first | exact .inl rfl | exact .inr rfl))
  (gss_cons (gs_for (tg := (.one 2)) (fg := []) po rfl (gi_range1 (by rfl) T.b_range (g_len (by rfl) T.b_len (go_p (pv 1)))) (pg_name (i := 2) sc.nd rfl (by first | exact .inl rfl | exact .inr rfl)) (gss_cons (gs_asg (i := 3) (g_ix (go_p (pv 1)) (go_v (g_cp (pv 2)))) sc.nd rfl (by first | exact .inl rfl | exact .inr rfl))
  (gss_one (gs_for (tg := (.one 4)) (fg := []) po rfl (gi_range1 (by rfl) T.b_range (g_len (by rfl) T.b_len (go_p (pv 1)))) (pg_name (i := 4) sc.nd rfl (by first | exact .inl rfl | exact .inr rfl)) (gss_one (gs_if (gt_eq hu (go_v (g_band (go_v (g_shr (go_v (g_ix (go_p (pv 1)) (go_v (g_cp (pv 4))))) (go_v (g_cp (pv 2))))) (go_v g_int))) (go_v g_int)) (gss_one (gs_set (i := 1) (pv 1) (g_cp (pv 4)) (g_bor (go_v (g_ix (go_p (pv 1)) (go_v (g_cp (pv 4))))) (go_v (g_cp (pv 3)))))) gss_nil))))))
  (gss_one (gs_ret (g_mv (pv 1))))))
  rw [m_closed_rows_def]
  exact z
theorem sc_rows_of : FnScope ["names", "pairs", "at", "name", "place", "rows", "upper", "lower"] ["names", "pairs"] (defScope (topS 18)) := ⟨rfl, rfl, rfl, by decide +kernel, rfl, by decide +kernel, by decide +kernel⟩
theorem ok_rows_of (T : Txt K mg base f_law_box f_law_take f_law_name f_law_names f_law_drawn_pairs f_law_named f_check_name f_check_makes f_check_known f_check_pairs f_closed_rows f_rows_of f_Order___init__ f_law_closed f_law_chairs f_law_heights f_law_above f_law_levels f_law_stands f_law_grown f_law_is_int f_law_int_list f_law_indexes f_law_due f_are_chairs f_Order_has f_stands f_ranks_above f_below_lists f_check_tallest f_law C_Full C_InvalidName C_DuplicateMake C_UnknownMake C_Order fi_Full fi_InvalidName fi_DuplicateMake fi_UnknownMake pp_Order_makes fp_Order_makes ca_law_grown tp_law_grown fd_law_box fd_law_take fd_law_name fd_law_names fd_law_drawn_pairs fd_law_named fd_check_name fd_check_makes fd_check_known fd_check_pairs fd_closed_rows fd_rows_of fd_Order___init__ fd_law_closed fd_law_chairs fd_law_heights fd_law_above fd_law_levels fd_law_stands fd_law_grown fd_law_is_int fd_law_int_list fd_law_indexes fd_law_due fd_are_chairs fd_Order_has fd_stands fd_ranks_above fd_below_lists fd_check_tallest fd_law fdi_Full fdi_InvalidName fdi_DuplicateMake fdi_UnknownMake fdp_Order_makes) : FnOk P w K mg base (L2N.CX P w) 2 f_rows_of fd_rows_of ["names", "pairs"] (spM ⟨K, cls [("Full", C_Full), ("InvalidName", C_InvalidName), ("DuplicateMake", C_DuplicateMake), ("UnknownMake", C_UnknownMake), ("Order", C_Order)], P0, none, [(tp_law_grown, "_law_grown.<locals>.<lambda>")]⟩ m_rows_of) := by
  have sc := sc_rows_of
  have z := fn_den2 (P := P) (w := w) (mg := mg) (base := base) (G := (Gz C_Full C_InvalidName C_DuplicateMake C_UnknownMake C_Order tp_law_grown)) (tc := [1002, 1003, 4, 1004, 1002, 5, 1005, 6, 1006, 7, 1007, 2, 1002, 5]) (den := d_rows_of) (pr := []) (k := 1) T.F_rows_of sc_rows_of (by decide) fun cdv A outer s H E hr tk po hu => (gss_cons (gs_tc (tc := [1002, 1003, 4, 1004]) (by first | exact (gs_setDc (i := 4) (own := [("at", 2), ("name", 3)]) (tg := (.tup [2, 3])) (to := [1002, 1003]) rfl sc.nd rfl rfl (swD_true rfl rfl rfl (by decide +kernel)) (gi_enumT (by rfl) T.b_enumerate (g_cp (pv 0))) (blkOk_by (N := ["names", "pairs", "at", "name", "place", "rows", "upper", "lower"]) (sc := defScope (topS 18)) (by decide +kernel)) (fun _ _ _ _ _ => (pg_tup rfl (pgs_cons (pg_name (i := 2) sc.nd rfl (by first | exact .inl rfl | exact .inr rfl)) (pgs_cons (pg_name (i := 3) sc.nd rfl (by first | exact .inl rfl | exact .inr rfl)) pgs_nil)))) (fun _ _ _ _ _ => gts_nil) (fun _ _ _ _ _ => (g_cp (pv 3))) (fun _ _ _ _ _ => (g_cp (pv 2)))) | exact (gs_asg (i := 4) (g_dc (own := [("at", 2), ("name", 3)]) (tg := (.tup [2, 3])) (to := [1002, 1003]) rfl sc.nd (gi_enumT (by rfl) T.b_enumerate (g_cp (pv 0))) (blkOk_by (N := ["names", "pairs", "at", "name", "place", "rows", "upper", "lower"]) (sc := defScope (topS 18)) (by decide +kernel)) (fun _ _ _ _ _ => (pg_tup rfl (pgs_cons (pg_name (i := 2) sc.nd rfl (by first | exact .inl rfl | exact .inr rfl)) (pgs_cons (pg_name (i := 3) sc.nd rfl (by first | exact .inl rfl | exact .inr rfl)) pgs_nil)))) (fun _ _ _ _ _ => gts_nil) (fun _ _ _ _ _ => (g_cp (pv 3))) (fun _ _ _ _ _ => (g_cp (pv 2)))) sc.nd rfl (by first | exact .inl rfl | exact .inr rfl))))
  (gss_cons (gs_tc (tc := [1002, 5, 1005]) (by first | exact (gs_setLc (i := 5) (own := [("at", 2)]) (tg := (.one 2)) (to := [1002]) rfl sc.nd rfl rfl (sw_true rfl rfl rfl (by decide +kernel)) (gi_range1 (by rfl) T.b_range (g_len (by rfl) T.b_len (go_v (g_cp (pv 0))))) (blkOk_by (N := ["names", "pairs", "at", "name", "place", "rows", "upper", "lower"]) (sc := defScope (topS 18)) (by decide +kernel)) (fun _ _ _ _ _ => (pg_name (i := 2) sc.nd rfl (by first | exact .inl rfl | exact .inr rfl))) (fun _ _ _ _ _ => gts_nil) (fun _ _ _ _ _ => (g_shl (go_v g_int) (go_v (g_cp (pv 2)))))) | exact (gs_asg (i := 5) (g_lc (own := [("at", 2)]) (tg := (.one 2)) (to := [1002]) rfl sc.nd (gi_range1 (by rfl) T.b_range (g_len (by rfl) T.b_len (go_v (g_cp (pv 0))))) (blkOk_by (N := ["names", "pairs", "at", "name", "place", "rows", "upper", "lower"]) (sc := defScope (topS 18)) (by decide +kernel)) (fun _ _ _ _ _ => (pg_name (i := 2) sc.nd rfl (by first | exact .inl rfl | exact .inr rfl))) (fun _ _ _ _ _ => gts_nil) (fun _ _ _ _ _ => (g_shl (go_v g_int) (go_v (g_cp (pv 2)))))) sc.nd rfl (by first | exact .inl rfl | exact .inr rfl))))
  (gss_cons (gs_lend (i := 1) (gs_for (tg := (.tup [6, 7])) (fg := []) po rfl (gi_seq (g_cp (pv 1))) (pg_tup rfl (pgs_cons (pg_name (i := 6) sc.nd rfl (by first | exact .inl rfl | exact .inr rfl)) (pgs_cons (pg_name (i := 7) sc.nd rfl (by first | exact .inl rfl | exact .inr rfl)) pgs_nil))) (gss_cons (gs_asg (i := 2) (g_dix hu (go_p (pv 4)) (go_v (g_cp (pv 6)))) sc.nd rfl (by first | exact .inl rfl | exact .inr rfl))
  (gss_one (gs_set (i := 5) (pv 5) (g_cp (pv 2)) (g_bor (go_v (g_ix (go_p (pv 5)) (go_v (g_cp (pv 2))))) (go_v (g_shl (go_v g_int) (go_v (g_dix hu (go_p (pv 4)) (go_v (g_cp (pv 7)))))))))))))
  (gss_one (gs_ret (g_tuple (by rfl) T.b_tuple (go_v (g_call tk (ok_closed_rows T) (hr.mono (by decide)) (by rfl) T.g_closed_rows T.F_closed_rows.kp T.a_closed_rows (gr_l (pv 5) gr_nil)))))))))
  rw [m_rows_of_def]
  exact z
theorem sc_Order___init__ : FnScope ["self", "makes", "pairs"] ["self", "makes", "pairs"] (defScope (cls_st 19 1)) := ⟨rfl, rfl, rfl, by decide +kernel, rfl, by decide +kernel, by decide +kernel⟩
theorem ok_Order___init__ (T : Txt K mg base f_law_box f_law_take f_law_name f_law_names f_law_drawn_pairs f_law_named f_check_name f_check_makes f_check_known f_check_pairs f_closed_rows f_rows_of f_Order___init__ f_law_closed f_law_chairs f_law_heights f_law_above f_law_levels f_law_stands f_law_grown f_law_is_int f_law_int_list f_law_indexes f_law_due f_are_chairs f_Order_has f_stands f_ranks_above f_below_lists f_check_tallest f_law C_Full C_InvalidName C_DuplicateMake C_UnknownMake C_Order fi_Full fi_InvalidName fi_DuplicateMake fi_UnknownMake pp_Order_makes fp_Order_makes ca_law_grown tp_law_grown fd_law_box fd_law_take fd_law_name fd_law_names fd_law_drawn_pairs fd_law_named fd_check_name fd_check_makes fd_check_known fd_check_pairs fd_closed_rows fd_rows_of fd_Order___init__ fd_law_closed fd_law_chairs fd_law_heights fd_law_above fd_law_levels fd_law_stands fd_law_grown fd_law_is_int fd_law_int_list fd_law_indexes fd_law_due fd_are_chairs fd_Order_has fd_stands fd_ranks_above fd_below_lists fd_check_tallest fd_law fdi_Full fdi_InvalidName fdi_DuplicateMake fdi_UnknownMake fdp_Order_makes) : FnOk P w K mg base (L2N.CX P w) 5 f_Order___init__ fd_Order___init__ ["self", "makes", "pairs"] (spM ⟨K, cls [("Full", C_Full), ("InvalidName", C_InvalidName), ("DuplicateMake", C_DuplicateMake), ("UnknownMake", C_UnknownMake), ("Order", C_Order)], P0, none, [(tp_law_grown, "_law_grown.<locals>.<lambda>")]⟩ m_Order___init__) := by
  have sc := sc_Order___init__
  obtain ⟨dvs, FD⟩ := T.F_Order___init__
  have z := fn_den2D (P := P) (w := w) (mg := mg) (base := base) (G := (Gz C_Full C_InvalidName C_DuplicateMake C_UnknownMake C_Order tp_law_grown)) (tc := [0, 0]) (den := d_Order___init__) (pr := [0]) (k := 4) FD sc_Order___init__ (by decide) fun cdv A outer s H E hr tk po hu => (gss_cons (gs_expr (g_call tk (ok_check_makes T) (hr.mono (by decide)) (by rfl) T.g_check_makes T.F_check_makes.kp T.a_check_makes (gr_l (pv 1) gr_nil)))
  (gss_cons (gs_expr (g_call tk (ok_check_pairs T) (hr.mono (by decide)) (by rfl) T.g_check_pairs T.F_check_pairs.kp T.a_check_pairs (gr_l (pv 1) (gr_l (pv 2) gr_nil))))
  (gss_cons (gs_setF (i := 0) (c := "Order") T.fl_Order_names (pv 0) (g_tuple (by rfl) T.b_tuple (go_p (pv 1))))
  (gss_one (gs_setF (i := 0) (c := "Order") T.fl_Order_rows (pv 0) (g_call tk (ok_rows_of T) (hr.mono (by decide)) (by rfl) T.g_rows_of T.F_rows_of.kp T.a_rows_of (gr_v (g_fld (c := "Order") T.fl_Order_names (go_p (pv 0))) (gr_l (pv 2) gr_nil))))))))
  rw [m_Order___init___def]
  exact z
theorem sc_law_closed : FnScope ["_law_size", "_law_pairs", "_law_reach", "_law_a", "_law_b", "_law_pair", "_law_m"] ["_law_size", "_law_pairs"] (defScope (topS 38)) := ⟨rfl, rfl, rfl, by decide +kernel, rfl, by decide +kernel, by decide +kernel⟩
theorem ok_law_closed (T : Txt K mg base f_law_box f_law_take f_law_name f_law_names f_law_drawn_pairs f_law_named f_check_name f_check_makes f_check_known f_check_pairs f_closed_rows f_rows_of f_Order___init__ f_law_closed f_law_chairs f_law_heights f_law_above f_law_levels f_law_stands f_law_grown f_law_is_int f_law_int_list f_law_indexes f_law_due f_are_chairs f_Order_has f_stands f_ranks_above f_below_lists f_check_tallest f_law C_Full C_InvalidName C_DuplicateMake C_UnknownMake C_Order fi_Full fi_InvalidName fi_DuplicateMake fi_UnknownMake pp_Order_makes fp_Order_makes ca_law_grown tp_law_grown fd_law_box fd_law_take fd_law_name fd_law_names fd_law_drawn_pairs fd_law_named fd_check_name fd_check_makes fd_check_known fd_check_pairs fd_closed_rows fd_rows_of fd_Order___init__ fd_law_closed fd_law_chairs fd_law_heights fd_law_above fd_law_levels fd_law_stands fd_law_grown fd_law_is_int fd_law_int_list fd_law_indexes fd_law_due fd_are_chairs fd_Order_has fd_stands fd_ranks_above fd_below_lists fd_check_tallest fd_law fdi_Full fdi_InvalidName fdi_DuplicateMake fdi_UnknownMake fdp_Order_makes) : FnOk P w K mg base (L2N.CX P w) 1 f_law_closed fd_law_closed ["_law_size", "_law_pairs"] (spM ⟨K, cls [("Full", C_Full), ("InvalidName", C_InvalidName), ("DuplicateMake", C_DuplicateMake), ("UnknownMake", C_UnknownMake), ("Order", C_Order)], P0, none, [(tp_law_grown, "_law_grown.<locals>.<lambda>")]⟩ m_law_closed) := by
  have sc := sc_law_closed
  have z := fn_den2 (P := P) (w := w) (mg := mg) (base := base) (G := (Gz C_Full C_InvalidName C_DuplicateMake C_UnknownMake C_Order tp_law_grown)) (tc := [2, 1002, 3, 1003, 1004, 2, 5, 1005, 2, 6, 1006, 3, 1003, 4, 1004, 2, 2]) (den := d_law_closed) (pr := []) (k := 0) T.F_law_closed sc_law_closed (by decide) fun cdv A outer s H E hr tk po hu => (gss_cons (gs_asg (i := 2) (g_lst ga_nil) sc.nd rfl (by first | exact .inl rfl | exact .inr rfl))
  (gss_cons (gs_for (tg := (.one 3)) (fg := []) po rfl (gi_range1 (by rfl) T.b_range (g_cp (pv 0))) (pg_name (i := 3) sc.nd rfl (by first | exact .inl rfl | exact .inr rfl)) (gss_one (gs_app (i := 2) (pv 2) (g_lc (own := [("_law_b", 4)]) (tg := (.one 4)) (to := [1004]) rfl sc.nd (gi_range1 (by rfl) T.b_range (g_cp (pv 0))) (blkOk_by (N := ["_law_size", "_law_pairs", "_law_reach", "_law_a", "_law_b", "_law_pair", "_law_m"]) (sc := defScope (topS 38)) (by decide +kernel)) (fun _ _ _ _ _ => (pg_name (i := 4) sc.nd rfl (by first | exact .inl rfl | exact .inr rfl))) (fun _ _ _ _ _ => gts_nil) (fun _ _ _ _ _ => (g_eq hu (go_v (g_cp (pv 3))) (go_v (g_cp (pv 4)))))))))
  (gss_cons (gs_lend (i := 1) (gs_for (tg := (.one 5)) (fg := []) po rfl (gi_seq (g_cp (pv 1))) (pg_name (i := 5) sc.nd rfl (by first | exact .inl rfl | exact .inr rfl)) (gss_one (gs_set2 (i := 2) (pv 2) (g_ix (go_v (g_cp (pv 5))) (go_v g_int)) (g_ix (go_v (g_cp (pv 5))) (go_v g_int)) g_bl))))
  (gss_cons (gs_for (tg := (.one 6)) (fg := []) po rfl (gi_range1 (by rfl) T.b_range (g_cp (pv 0))) (pg_name (i := 6) sc.nd rfl (by first | exact .inl rfl | exact .inr rfl)) (gss_one (gs_for (tg := (.one 3)) (fg := []) po rfl (gi_range1 (by rfl) T.b_range (g_cp (pv 0))) (pg_name (i := 3) sc.nd rfl (by first | exact .inl rfl | exact .inr rfl)) (gss_one (gs_if (gt_lend (i := 2) (gt_tru (go_v (g_ix (go_v (g_ix (go_p (pv 2)) (go_v (g_cp (pv 3))))) (go_v (g_cp (pv 6))))))) (gss_one (gs_for (tg := (.one 4)) (fg := []) po rfl (gi_range1 (by rfl) T.b_range (g_cp (pv 0))) (pg_name (i := 4) sc.nd rfl (by first | exact .inl rfl | exact .inr rfl)) (gss_one (gs_if (gt_lend (i := 2) (gt_tru (go_v (g_ix (go_v (g_ix (go_p (pv 2)) (go_v (g_cp (pv 6))))) (go_v (g_cp (pv 4))))))) (gss_one (gs_set2 (i := 2) (pv 2) (g_cp (pv 3)) (g_cp (pv 4)) g_bl)) gss_nil)))) gss_nil)))))
  (gss_one (gs_ret (g_mv (pv 2))))))))
  rw [m_law_closed_def]
  exact z
theorem sc_law_chairs : FnScope ["_law_box_here", "_law_names_here", "_law_most", "_law_k"] ["_law_box_here", "_law_names_here", "_law_most"] (defScope (topS 39)) := ⟨rfl, rfl, rfl, by decide +kernel, rfl, by decide +kernel, by decide +kernel⟩
theorem ok_law_chairs (T : Txt K mg base f_law_box f_law_take f_law_name f_law_names f_law_drawn_pairs f_law_named f_check_name f_check_makes f_check_known f_check_pairs f_closed_rows f_rows_of f_Order___init__ f_law_closed f_law_chairs f_law_heights f_law_above f_law_levels f_law_stands f_law_grown f_law_is_int f_law_int_list f_law_indexes f_law_due f_are_chairs f_Order_has f_stands f_ranks_above f_below_lists f_check_tallest f_law C_Full C_InvalidName C_DuplicateMake C_UnknownMake C_Order fi_Full fi_InvalidName fi_DuplicateMake fi_UnknownMake pp_Order_makes fp_Order_makes ca_law_grown tp_law_grown fd_law_box fd_law_take fd_law_name fd_law_names fd_law_drawn_pairs fd_law_named fd_check_name fd_check_makes fd_check_known fd_check_pairs fd_closed_rows fd_rows_of fd_Order___init__ fd_law_closed fd_law_chairs fd_law_heights fd_law_above fd_law_levels fd_law_stands fd_law_grown fd_law_is_int fd_law_int_list fd_law_indexes fd_law_due fd_are_chairs fd_Order_has fd_stands fd_ranks_above fd_below_lists fd_check_tallest fd_law fdi_Full fdi_InvalidName fdi_DuplicateMake fdi_UnknownMake fdp_Order_makes) : FnOk P w K mg base (L2N.CX P w) 2 f_law_chairs fd_law_chairs ["_law_box_here", "_law_names_here", "_law_most"] (spM ⟨K, cls [("Full", C_Full), ("InvalidName", C_InvalidName), ("DuplicateMake", C_DuplicateMake), ("UnknownMake", C_UnknownMake), ("Order", C_Order)], P0, none, [(tp_law_grown, "_law_grown.<locals>.<lambda>")]⟩ m_law_chairs) := by
  have sc := sc_law_chairs
  have z := fn_den2 (P := P) (w := w) (mg := mg) (base := base) (G := (Gz C_Full C_InvalidName C_DuplicateMake C_UnknownMake C_Order tp_law_grown)) (tc := [0, 1003, 0]) (den := d_law_chairs) (pr := [0]) (k := 1) T.F_law_chairs sc_law_chairs (by decide) fun cdv A outer s H E hr tk po hu => (gss_cons (gs_if (gt_eq hu (go_v (g_len (by rfl) T.b_len (go_p (pv 1)))) (go_v g_int)) (gss_one (gs_ret (g_lst ga_nil))) gss_nil)
  (gss_one (gs_ret (g_lc (own := [("_law_k", 3)]) (tg := (.one 3)) (to := [1003, 0]) rfl sc.nd (gi_range1 (by rfl) T.b_range (g_call tk (ok_law_take T) (hr.mono (by decide)) (by rfl) T.g_law_take T.F_law_take.kp T.a_law_take (gr_io (pv 0) (gr_v (g_add (go_v (g_cp (pv 2))) (go_v g_int)) gr_nil)))) (blkOk_by (N := ["_law_box_here", "_law_names_here", "_law_most", "_law_k"]) (sc := defScope (topS 39)) (by decide +kernel)) (fun _ _ _ _ _ => (pg_name (i := 3) sc.nd rfl (by first | exact .inl rfl | exact .inr rfl))) (fun _ _ _ _ _ => gts_nil) (fun _ _ _ _ _ => (g_ix (go_p (pv 1)) (go_v (g_call takesN (ok_law_take T) (hr.mono (by decide)) (by rfl) T.g_law_take T.F_law_take.kp T.a_law_take (gr_io (pv 0) (gr_v (g_len (by rfl) T.b_len (go_p (pv 1))) gr_nil))))))))))
  rw [m_law_chairs_def]
  exact z
theorem sc_law_heights : FnScope ["_law_box_here", "_law_names_here", "_law_chairs_here", "_law_heights_here", "_law_order", "_law_name_here", "_law_high"] ["_law_box_here", "_law_names_here", "_law_chairs_here"] (defScope (topS 40)) := ⟨rfl, rfl, rfl, by decide +kernel, rfl, by decide +kernel, by decide +kernel⟩
theorem ok_law_heights (T : Txt K mg base f_law_box f_law_take f_law_name f_law_names f_law_drawn_pairs f_law_named f_check_name f_check_makes f_check_known f_check_pairs f_closed_rows f_rows_of f_Order___init__ f_law_closed f_law_chairs f_law_heights f_law_above f_law_levels f_law_stands f_law_grown f_law_is_int f_law_int_list f_law_indexes f_law_due f_are_chairs f_Order_has f_stands f_ranks_above f_below_lists f_check_tallest f_law C_Full C_InvalidName C_DuplicateMake C_UnknownMake C_Order fi_Full fi_InvalidName fi_DuplicateMake fi_UnknownMake pp_Order_makes fp_Order_makes ca_law_grown tp_law_grown fd_law_box fd_law_take fd_law_name fd_law_names fd_law_drawn_pairs fd_law_named fd_check_name fd_check_makes fd_check_known fd_check_pairs fd_closed_rows fd_rows_of fd_Order___init__ fd_law_closed fd_law_chairs fd_law_heights fd_law_above fd_law_levels fd_law_stands fd_law_grown fd_law_is_int fd_law_int_list fd_law_indexes fd_law_due fd_are_chairs fd_Order_has fd_stands fd_ranks_above fd_below_lists fd_check_tallest fd_law fdi_Full fdi_InvalidName fdi_DuplicateMake fdi_UnknownMake fdp_Order_makes) : FnOk P w K mg base (L2N.CX P w) 2 f_law_heights fd_law_heights ["_law_box_here", "_law_names_here", "_law_chairs_here"] (spM ⟨K, cls [("Full", C_Full), ("InvalidName", C_InvalidName), ("DuplicateMake", C_DuplicateMake), ("UnknownMake", C_UnknownMake), ("Order", C_Order)], P0, none, [(tp_law_grown, "_law_grown.<locals>.<lambda>")]⟩ m_law_heights) := by
  have sc := sc_law_heights
  have z := fn_den2 (P := P) (w := w) (mg := mg) (base := base) (G := (Gz C_Full C_InvalidName C_DuplicateMake C_UnknownMake C_Order tp_law_grown)) (tc := [3, 1003, 4, 1004, 0, 4, 0, 3, 5, 1005, 0, 6, 1006, 3, 3]) (den := d_law_heights) (pr := [0]) (k := 1) T.F_law_heights sc_law_heights (by decide) fun cdv A outer s H E hr tk po hu => (gss_cons (gs_asg (i := 3) g_disp0 sc.nd rfl (by first | exact .inl rfl | exact .inr rfl))
  (gss_cons (gs_asg (i := 4) (g_list (by rfl) T.b_list (go_p (pv 1))) sc.nd rfl (by first | exact .inl rfl | exact .inr rfl))
  (gss_cons (gs_if (gt_eq hu (go_v (g_call tk (ok_law_take T) (hr.mono (by decide)) (by rfl) T.g_law_take T.F_law_take.kp T.a_law_take (gr_io (pv 0) (gr_v g_int gr_nil)))) (go_v g_int)) (gss_one (gs_rev (i := 4) (pv 4))) gss_nil)
  (gss_cons (gs_if (gt_eq hu (go_v (g_call tk (ok_law_take T) (hr.mono (by decide)) (by rfl) T.g_law_take T.F_law_take.kp T.a_law_take (gr_io (pv 0) (gr_v g_int gr_nil)))) (go_v g_int)) (gss_one (gs_dput (i := 3) hu (pv 3) g_str g_int)) gss_nil)
  (gss_cons (gs_lend (i := 4) (gs_for (tg := (.one 5)) (fg := []) po rfl (gi_seq (g_cp (pv 4))) (pg_name (i := 5) sc.nd rfl (by first | exact .inl rfl | exact .inr rfl)) (gss_wk (t2 := [0, 6, 1006, 3]) (gss_cons (gs_asg (i := 6) (g_ix (go_v (g_lst (ga_cons (g_add (go_v g_int) (go_v (g_call tk (ok_law_take T) (hr.mono (by decide)) (by rfl) T.g_law_take T.F_law_take.kp T.a_law_take (gr_io (pv 0) (gr_v g_int gr_nil))))) (ga_cons (g_add (go_v g_int) (go_v (g_call tk (ok_law_take T) (hr.mono (by decide)) (by rfl) T.g_law_take T.F_law_take.kp T.a_law_take (gr_io (pv 0) (gr_v g_int gr_nil))))) ga_nil)))) (go_v (g_call tk (ok_law_take T) (hr.mono (by decide)) (by rfl) T.g_law_take T.F_law_take.kp T.a_law_take (gr_io (pv 0) (gr_v g_int gr_nil))))) sc.nd rfl (by first | exact .inl rfl | exact .inr rfl))
  (gss_one (gs_if (gt_w (gw_or (gt_in hu (go_v (g_cp (pv 5))) (go_p (pv 2))) (gw_one .Or (gt_eq hu (go_v (g_call tk (ok_law_take T) (hr.mono (by decide)) (by rfl) T.g_law_take T.F_law_take.kp T.a_law_take (gr_io (pv 0) (gr_v g_int gr_nil)))) (go_v g_int))))) (gss_one (gs_dput (i := 3) hu (pv 3) (g_cp (pv 5)) (g_cp (pv 6)))) gss_nil))) (by decide))))
  (gss_one (gs_ret (g_mv (pv 3)))))))))
  rw [m_law_heights_def]
  exact z
theorem sc_law_above : FnScope ["_law_reach", "_law_places", "_law_i", "_law_j"] ["_law_reach", "_law_places", "_law_i", "_law_j"] (defScope (topS 31)) := ⟨rfl, rfl, rfl, by decide +kernel, rfl, by decide +kernel, by decide +kernel⟩
theorem ok_law_above (T : Txt K mg base f_law_box f_law_take f_law_name f_law_names f_law_drawn_pairs f_law_named f_check_name f_check_makes f_check_known f_check_pairs f_closed_rows f_rows_of f_Order___init__ f_law_closed f_law_chairs f_law_heights f_law_above f_law_levels f_law_stands f_law_grown f_law_is_int f_law_int_list f_law_indexes f_law_due f_are_chairs f_Order_has f_stands f_ranks_above f_below_lists f_check_tallest f_law C_Full C_InvalidName C_DuplicateMake C_UnknownMake C_Order fi_Full fi_InvalidName fi_DuplicateMake fi_UnknownMake pp_Order_makes fp_Order_makes ca_law_grown tp_law_grown fd_law_box fd_law_take fd_law_name fd_law_names fd_law_drawn_pairs fd_law_named fd_check_name fd_check_makes fd_check_known fd_check_pairs fd_closed_rows fd_rows_of fd_Order___init__ fd_law_closed fd_law_chairs fd_law_heights fd_law_above fd_law_levels fd_law_stands fd_law_grown fd_law_is_int fd_law_int_list fd_law_indexes fd_law_due fd_are_chairs fd_Order_has fd_stands fd_ranks_above fd_below_lists fd_check_tallest fd_law fdi_Full fdi_InvalidName fdi_DuplicateMake fdi_UnknownMake fdp_Order_makes) : FnOk P w K mg base (L2N.CX P w) 1 f_law_above fd_law_above ["_law_reach", "_law_places", "_law_i", "_law_j"] (spM ⟨K, cls [("Full", C_Full), ("InvalidName", C_InvalidName), ("DuplicateMake", C_DuplicateMake), ("UnknownMake", C_UnknownMake), ("Order", C_Order)], P0, none, [(tp_law_grown, "_law_grown.<locals>.<lambda>")]⟩ m_law_above) := by
  have sc := sc_law_above
  have z := fn_den2 (P := P) (w := w) (mg := mg) (base := base) (G := (Gz C_Full C_InvalidName C_DuplicateMake C_UnknownMake C_Order tp_law_grown)) (tc := []) (den := d_law_above) (pr := []) (k := 0) T.F_law_above sc_law_above (by decide) fun cdv A outer s H E hr tk po hu => (gss_one (gs_lend (i := 0) (gs_ret (g_andV (g_ix (go_v (g_ix (go_p (pv 0)) (go_v (g_ix (go_p (pv 1)) (go_v (g_cp (pv 2))))))) (go_v (g_ix (go_p (pv 1)) (go_v (g_cp (pv 3)))))) (g_oneV .And (g_orV (g_gt (go_v (g_cp (pv 2))) (go_v (g_cp (pv 3)))) (g_oneV .Or (g_notV (g_ix (go_v (g_ix (go_p (pv 0)) (go_v (g_ix (go_p (pv 1)) (go_v (g_cp (pv 3))))))) (go_v (g_ix (go_p (pv 1)) (go_v (g_cp (pv 2))))))))))))))
  rw [m_law_above_def]
  exact z
theorem sc_law_levels : FnScope ["_law_reach", "_law_places", "_law_own", "_law_levels_here", "_law_k", "_law_i", "_law_j"] ["_law_reach", "_law_places", "_law_own"] (defScope (topS 41)) := ⟨rfl, rfl, rfl, by decide +kernel, rfl, by decide +kernel, by decide +kernel⟩
theorem ok_law_levels (T : Txt K mg base f_law_box f_law_take f_law_name f_law_names f_law_drawn_pairs f_law_named f_check_name f_check_makes f_check_known f_check_pairs f_closed_rows f_rows_of f_Order___init__ f_law_closed f_law_chairs f_law_heights f_law_above f_law_levels f_law_stands f_law_grown f_law_is_int f_law_int_list f_law_indexes f_law_due f_are_chairs f_Order_has f_stands f_ranks_above f_below_lists f_check_tallest f_law C_Full C_InvalidName C_DuplicateMake C_UnknownMake C_Order fi_Full fi_InvalidName fi_DuplicateMake fi_UnknownMake pp_Order_makes fp_Order_makes ca_law_grown tp_law_grown fd_law_box fd_law_take fd_law_name fd_law_names fd_law_drawn_pairs fd_law_named fd_check_name fd_check_makes fd_check_known fd_check_pairs fd_closed_rows fd_rows_of fd_Order___init__ fd_law_closed fd_law_chairs fd_law_heights fd_law_above fd_law_levels fd_law_stands fd_law_grown fd_law_is_int fd_law_int_list fd_law_indexes fd_law_due fd_are_chairs fd_Order_has fd_stands fd_ranks_above fd_below_lists fd_check_tallest fd_law fdi_Full fdi_InvalidName fdi_DuplicateMake fdi_UnknownMake fdp_Order_makes) : FnOk P w K mg base (L2N.CX P w) 2 f_law_levels fd_law_levels ["_law_reach", "_law_places", "_law_own"] (spM ⟨K, cls [("Full", C_Full), ("InvalidName", C_InvalidName), ("DuplicateMake", C_DuplicateMake), ("UnknownMake", C_UnknownMake), ("Order", C_Order)], P0, none, [(tp_law_grown, "_law_grown.<locals>.<lambda>")]⟩ m_law_levels) := by
  have sc := sc_law_levels
  have z := fn_den2 (P := P) (w := w) (mg := mg) (base := base) (G := (Gz C_Full C_InvalidName C_DuplicateMake C_UnknownMake C_Order tp_law_grown)) (tc := [3, 1003, 4, 1004, 5, 1005, 6, 1006, 3, 3]) (den := d_law_levels) (pr := []) (k := 1) T.F_law_levels sc_law_levels (by decide) fun cdv A outer s H E hr tk po hu => (gss_cons (gs_asg (i := 3) (g_list (by rfl) T.b_list (go_p (pv 2))) sc.nd rfl (by first | exact .inl rfl | exact .inr rfl))
  (gss_cons (gs_for (tg := (.one 4)) (fg := []) po rfl (gi_range1 (by rfl) T.b_range (g_len (by rfl) T.b_len (go_p (pv 1)))) (pg_name (i := 4) sc.nd rfl (by first | exact .inl rfl | exact .inr rfl)) (gss_one (gs_for (tg := (.one 5)) (fg := []) po rfl (gi_range1 (by rfl) T.b_range (g_len (by rfl) T.b_len (go_p (pv 1)))) (pg_name (i := 5) sc.nd rfl (by first | exact .inl rfl | exact .inr rfl)) (gss_one (gs_for (tg := (.one 6)) (fg := []) po rfl (gi_range1 (by rfl) T.b_range (g_len (by rfl) T.b_len (go_p (pv 1)))) (pg_name (i := 6) sc.nd rfl (by first | exact .inl rfl | exact .inr rfl)) (gss_one (gs_if (gt_w (gw_and (gt_ne hu (go_v (g_cp (pv 5))) (go_v (g_cp (pv 6)))) (gw_one .And (gt_val (g_call tk (ok_law_above T) (hr.mono (by decide)) (by rfl) T.g_law_above T.F_law_above.kp T.a_law_above (gr_l (pv 0) (gr_l (pv 1) (gr_v (g_cp (pv 5)) (gr_v (g_cp (pv 6)) gr_nil))))))))) (gss_one (gs_set (i := 3) (pv 3) (g_cp (pv 5)) (g_max rfl (by rfl) T.b_max (go_v (g_ix (go_p (pv 3)) (go_v (g_cp (pv 5))))) (go_v (g_add (go_v (g_ix (go_p (pv 3)) (go_v (g_cp (pv 6))))) (go_v (g_ix (go_p (pv 2)) (go_v (g_cp (pv 5)))))))))) gss_nil)))))))
  (gss_one (gs_ret (g_mv (pv 3))))))
  rw [m_law_levels_def]
  exact z
theorem sc_law_stands : FnScope ["_law_reach", "_law_places", "_law_stack", "_law_at"] ["_law_reach", "_law_places", "_law_stack"] (defScope (topS 30)) := ⟨rfl, rfl, rfl, by decide +kernel, rfl, by decide +kernel, by decide +kernel⟩
theorem ok_law_stands (T : Txt K mg base f_law_box f_law_take f_law_name f_law_names f_law_drawn_pairs f_law_named f_check_name f_check_makes f_check_known f_check_pairs f_closed_rows f_rows_of f_Order___init__ f_law_closed f_law_chairs f_law_heights f_law_above f_law_levels f_law_stands f_law_grown f_law_is_int f_law_int_list f_law_indexes f_law_due f_are_chairs f_Order_has f_stands f_ranks_above f_below_lists f_check_tallest f_law C_Full C_InvalidName C_DuplicateMake C_UnknownMake C_Order fi_Full fi_InvalidName fi_DuplicateMake fi_UnknownMake pp_Order_makes fp_Order_makes ca_law_grown tp_law_grown fd_law_box fd_law_take fd_law_name fd_law_names fd_law_drawn_pairs fd_law_named fd_check_name fd_check_makes fd_check_known fd_check_pairs fd_closed_rows fd_rows_of fd_Order___init__ fd_law_closed fd_law_chairs fd_law_heights fd_law_above fd_law_levels fd_law_stands fd_law_grown fd_law_is_int fd_law_int_list fd_law_indexes fd_law_due fd_are_chairs fd_Order_has fd_stands fd_ranks_above fd_below_lists fd_check_tallest fd_law fdi_Full fdi_InvalidName fdi_DuplicateMake fdi_UnknownMake fdp_Order_makes) : FnOk P w K mg base (L2N.CX P w) 1 f_law_stands fd_law_stands ["_law_reach", "_law_places", "_law_stack"] (spM ⟨K, cls [("Full", C_Full), ("InvalidName", C_InvalidName), ("DuplicateMake", C_DuplicateMake), ("UnknownMake", C_UnknownMake), ("Order", C_Order)], P0, none, [(tp_law_grown, "_law_grown.<locals>.<lambda>")]⟩ m_law_stands) := by
  have sc := sc_law_stands
  have z := fn_den2 (P := P) (w := w) (mg := mg) (base := base) (G := (Gz C_Full C_InvalidName C_DuplicateMake C_UnknownMake C_Order tp_law_grown)) (tc := [3, 1003]) (den := d_law_stands) (pr := []) (k := 0) T.F_law_stands sc_law_stands (by decide) fun cdv A outer s H E hr tk po hu => (gss_cons (gs_for (tg := (.one 3)) (fg := []) po rfl (gi_range2 (by rfl) T.b_range g_int (g_len (by rfl) T.b_len (go_p (pv 2)))) (pg_name (i := 3) sc.nd rfl (by first | exact .inl rfl | exact .inr rfl)) (gss_one (gs_if (gt_lend (i := 0) (gt_not (gt_tru (go_v (g_ix (go_v (g_ix (go_p (pv 0)) (go_v (g_ix (go_p (pv 1)) (go_v (g_ix (go_p (pv 2)) (go_v (g_cp (pv 3))))))))) (go_v (g_ix (go_p (pv 1)) (go_v (g_ix (go_p (pv 2)) (go_v (g_sub (go_v (g_cp (pv 3))) (go_v g_int)))))))))))) (gss_one (gs_ret g_bl)) gss_nil)))
  (gss_one (gs_ret g_bl)))
  rw [m_law_stands_def]
  exact z
theorem sc_law_grown : FnScope ["_law_box_here", "_law_reach", "_law_places", "_law_levels_here", "_law_at", "_law_order", "_law_stack"] ["_law_box_here", "_law_reach", "_law_places", "_law_levels_here"] (defScope (topS 43)) := ⟨rfl, rfl, rfl, by decide +kernel, rfl, by decide +kernel, by decide +kernel⟩
theorem ok_law_grown (T : Txt K mg base f_law_box f_law_take f_law_name f_law_names f_law_drawn_pairs f_law_named f_check_name f_check_makes f_check_known f_check_pairs f_closed_rows f_rows_of f_Order___init__ f_law_closed f_law_chairs f_law_heights f_law_above f_law_levels f_law_stands f_law_grown f_law_is_int f_law_int_list f_law_indexes f_law_due f_are_chairs f_Order_has f_stands f_ranks_above f_below_lists f_check_tallest f_law C_Full C_InvalidName C_DuplicateMake C_UnknownMake C_Order fi_Full fi_InvalidName fi_DuplicateMake fi_UnknownMake pp_Order_makes fp_Order_makes ca_law_grown tp_law_grown fd_law_box fd_law_take fd_law_name fd_law_names fd_law_drawn_pairs fd_law_named fd_check_name fd_check_makes fd_check_known fd_check_pairs fd_closed_rows fd_rows_of fd_Order___init__ fd_law_closed fd_law_chairs fd_law_heights fd_law_above fd_law_levels fd_law_stands fd_law_grown fd_law_is_int fd_law_int_list fd_law_indexes fd_law_due fd_are_chairs fd_Order_has fd_stands fd_ranks_above fd_below_lists fd_check_tallest fd_law fdi_Full fdi_InvalidName fdi_DuplicateMake fdi_UnknownMake fdp_Order_makes) : FnOk P w K mg base (L2N.CX P w) 2 f_law_grown fd_law_grown ["_law_box_here", "_law_reach", "_law_places", "_law_levels_here"] (spM ⟨K, cls [("Full", C_Full), ("InvalidName", C_InvalidName), ("DuplicateMake", C_DuplicateMake), ("UnknownMake", C_UnknownMake), ("Order", C_Order)], P0, none, [(tp_law_grown, "_law_grown.<locals>.<lambda>")]⟩ m_law_grown) := by
  have sc := sc_law_grown
  have z := fn_den2C (P := P) (w := w) (mg := mg) (base := base) (G := (Gz C_Full C_InvalidName C_DuplicateMake C_UnknownMake C_Order tp_law_grown)) (tc := [1004, 0, 5, 1005, 5, 1005, 6, 1006, 4, 1004, 6, 6]) (den := d_law_grown) (pr := [0]) (k := 1) T.F_law_grown sc_law_grown (by decide) fun A outer s H E hr tk po hu => (gss_cons (gs_tc (tc := [1004, 0, 5, 1005]) (by first | exact (gs_setLc (i := 5) (own := [("_law_at", 4)]) (tg := (.one 4)) (to := [1004, 0]) rfl sc.nd rfl rfl (sw_true rfl rfl rfl (by decide +kernel)) (gi_range1 (by rfl) T.b_range (g_len (by rfl) T.b_len (go_p (pv 2)))) (blkOk_by (N := ["_law_box_here", "_law_reach", "_law_places", "_law_levels_here", "_law_at", "_law_order", "_law_stack"]) (sc := defScope (topS 43)) (by decide +kernel)) (fun _ _ _ _ _ => (pg_name (i := 4) sc.nd rfl (by first | exact .inl rfl | exact .inr rfl))) (fun _ _ _ _ _ => (gts_one (gt_gt (go_v (g_call takesN (ok_law_take T) (hr.mono (by decide)) (by rfl) T.g_law_take T.F_law_take.kp T.a_law_take (gr_io (pv 0) (gr_v g_int gr_nil)))) (go_v g_int)))) (fun _ _ _ _ _ => (g_cp (pv 4)))) | exact (gs_asg (i := 5) (g_lc (own := [("_law_at", 4)]) (tg := (.one 4)) (to := [1004, 0]) rfl sc.nd (gi_range1 (by rfl) T.b_range (g_len (by rfl) T.b_len (go_p (pv 2)))) (blkOk_by (N := ["_law_box_here", "_law_reach", "_law_places", "_law_levels_here", "_law_at", "_law_order", "_law_stack"]) (sc := defScope (topS 43)) (by decide +kernel)) (fun _ _ _ _ _ => (pg_name (i := 4) sc.nd rfl (by first | exact .inl rfl | exact .inr rfl))) (fun _ _ _ _ _ => (gts_one (gt_gt (go_v (g_call takesN (ok_law_take T) (hr.mono (by decide)) (by rfl) T.g_law_take T.F_law_take.kp T.a_law_take (gr_io (pv 0) (gr_v g_int gr_nil)))) (go_v g_int)))) (fun _ _ _ _ _ => (g_cp (pv 4)))) sc.nd rfl (by first | exact .inl rfl | exact .inr rfl))))
  (gss_cons (gs_asg (i := 5) (g_sortIx (i := 3) (j := 5) (lamK_one T.tb_law_grown T.cd_law_grown (by change (("_law_grown" : Str) ++ ".<locals>.") ++ "<lambda>" = _; decide +kernel)) (by exact ⟨rfl, rfl, rfl, by decide +kernel, rfl, rfl, by change ∀ y : Str × NameKind, y ∈ (_ : List (Str × NameKind)) → y.2 = NameKind.free → (defScope (topS 43)).names.lookup y.1 = _ ∨ (defScope (topS 43)).names.lookup y.1 = _; decide +kernel, by change (defScope (topS 43)).names.lookup _ ≠ _; decide +kernel, by decide +kernel, by decide +kernel, by decide +kernel⟩) hr (by rfl) T.b_sorted (go_p (pv 5)) (by rfl) (by rfl) (by intro _ _ _ _ _; rfl)) sc.nd rfl (by first | exact .inl rfl | exact .inr rfl))
  (gss_cons (gs_asg (i := 6) (g_lst ga_nil) sc.nd rfl (by first | exact .inl rfl | exact .inr rfl))
  (gss_cons (gs_lend (i := 5) (gs_for (tg := (.one 4)) (fg := []) po rfl (gi_seq (g_cp (pv 5))) (pg_name (i := 4) sc.nd rfl (by first | exact .inl rfl | exact .inr rfl)) (gss_one (gs_if (gt_val (g_call tk (ok_law_stands T) (hr.mono (by decide)) (by rfl) T.g_law_stands T.F_law_stands.kp T.a_law_stands (gr_l (pv 1) (gr_l (pv 2) (gr_v (g_add (go_p (pv 6)) (go_v (g_lst (ga_cons (g_cp (pv 4)) ga_nil)))) gr_nil))))) (gss_one (gs_app (i := 6) (pv 6) (g_cp (pv 4)))) gss_nil))))
  (gss_one (gs_ret (g_mv (pv 6))))))))
  rw [m_law_grown_def]
  exact z
theorem sc_law_is_int : FnScope ["_law_value"] ["_law_value"] (defScope (topS 27)) := ⟨rfl, rfl, rfl, by decide +kernel, rfl, by decide +kernel, by decide +kernel⟩
theorem ok_law_is_int (T : Txt K mg base f_law_box f_law_take f_law_name f_law_names f_law_drawn_pairs f_law_named f_check_name f_check_makes f_check_known f_check_pairs f_closed_rows f_rows_of f_Order___init__ f_law_closed f_law_chairs f_law_heights f_law_above f_law_levels f_law_stands f_law_grown f_law_is_int f_law_int_list f_law_indexes f_law_due f_are_chairs f_Order_has f_stands f_ranks_above f_below_lists f_check_tallest f_law C_Full C_InvalidName C_DuplicateMake C_UnknownMake C_Order fi_Full fi_InvalidName fi_DuplicateMake fi_UnknownMake pp_Order_makes fp_Order_makes ca_law_grown tp_law_grown fd_law_box fd_law_take fd_law_name fd_law_names fd_law_drawn_pairs fd_law_named fd_check_name fd_check_makes fd_check_known fd_check_pairs fd_closed_rows fd_rows_of fd_Order___init__ fd_law_closed fd_law_chairs fd_law_heights fd_law_above fd_law_levels fd_law_stands fd_law_grown fd_law_is_int fd_law_int_list fd_law_indexes fd_law_due fd_are_chairs fd_Order_has fd_stands fd_ranks_above fd_below_lists fd_check_tallest fd_law fdi_Full fdi_InvalidName fdi_DuplicateMake fdi_UnknownMake fdp_Order_makes) : FnOk P w K mg base (L2N.CX P w) 1 f_law_is_int fd_law_is_int ["_law_value"] (spM ⟨K, cls [("Full", C_Full), ("InvalidName", C_InvalidName), ("DuplicateMake", C_DuplicateMake), ("UnknownMake", C_UnknownMake), ("Order", C_Order)], P0, none, [(tp_law_grown, "_law_grown.<locals>.<lambda>")]⟩ m_law_is_int) := by
  have sc := sc_law_is_int
  have z := fn_den2 (P := P) (w := w) (mg := mg) (base := base) (G := (Gz C_Full C_InvalidName C_DuplicateMake C_UnknownMake C_Order tp_law_grown)) (tc := []) (den := d_law_is_int) (pr := []) (k := 0) T.F_law_is_int sc_law_is_int (by decide) fun cdv A outer s H E hr tk po hu => (gss_one (gs_ret (g_andV (g_isi .int (by rfl) T.b_isinstance (by rfl) T.b_int (by decide +kernel) (by decide) (by decide) (go_v (g_cp (pv 0)))) (g_oneV .And (g_notV (g_isi .bool (by rfl) T.b_isinstance (by rfl) T.b_bool (by decide +kernel) (by decide) (by decide) (go_v (g_cp (pv 0)))))))))
  rw [m_law_is_int_def]
  exact z
theorem sc_law_int_list : FnScope ["_law_value", "_law_x"] ["_law_value"] (defScope (topS 28)) := ⟨rfl, rfl, rfl, by decide +kernel, rfl, by decide +kernel, by decide +kernel⟩
theorem ok_law_int_list (T : Txt K mg base f_law_box f_law_take f_law_name f_law_names f_law_drawn_pairs f_law_named f_check_name f_check_makes f_check_known f_check_pairs f_closed_rows f_rows_of f_Order___init__ f_law_closed f_law_chairs f_law_heights f_law_above f_law_levels f_law_stands f_law_grown f_law_is_int f_law_int_list f_law_indexes f_law_due f_are_chairs f_Order_has f_stands f_ranks_above f_below_lists f_check_tallest f_law C_Full C_InvalidName C_DuplicateMake C_UnknownMake C_Order fi_Full fi_InvalidName fi_DuplicateMake fi_UnknownMake pp_Order_makes fp_Order_makes ca_law_grown tp_law_grown fd_law_box fd_law_take fd_law_name fd_law_names fd_law_drawn_pairs fd_law_named fd_check_name fd_check_makes fd_check_known fd_check_pairs fd_closed_rows fd_rows_of fd_Order___init__ fd_law_closed fd_law_chairs fd_law_heights fd_law_above fd_law_levels fd_law_stands fd_law_grown fd_law_is_int fd_law_int_list fd_law_indexes fd_law_due fd_are_chairs fd_Order_has fd_stands fd_ranks_above fd_below_lists fd_check_tallest fd_law fdi_Full fdi_InvalidName fdi_DuplicateMake fdi_UnknownMake fdp_Order_makes) : FnOk P w K mg base (L2N.CX P w) 2 f_law_int_list fd_law_int_list ["_law_value"] (spM ⟨K, cls [("Full", C_Full), ("InvalidName", C_InvalidName), ("DuplicateMake", C_DuplicateMake), ("UnknownMake", C_UnknownMake), ("Order", C_Order)], P0, none, [(tp_law_grown, "_law_grown.<locals>.<lambda>")]⟩ m_law_int_list) := by
  have sc := sc_law_int_list
  have z := fn_den2 (P := P) (w := w) (mg := mg) (base := base) (G := (Gz C_Full C_InvalidName C_DuplicateMake C_UnknownMake C_Order tp_law_grown)) (tc := [1001]) (den := d_law_int_list) (pr := []) (k := 1) T.F_law_int_list sc_law_int_list (by decide) fun cdv A outer s H E hr tk po hu => (gss_one (gs_lend (i := 0) (gs_ret (g_andV (g_isi .list (by rfl) T.b_isinstance (by rfl) T.b_list (by decide +kernel) (by decide) (by decide) (go_p (pv 0))) (g_oneV .And (g_eq hu (go_v (g_lc (own := [("_law_x", 1)]) (tg := (.one 1)) (to := [1001]) rfl sc.nd (gi_seq (g_cp (pv 0))) (blkOk_by (N := ["_law_value", "_law_x"]) (sc := defScope (topS 28)) (by decide +kernel)) (fun _ _ _ _ _ => (pg_name (i := 1) sc.nd rfl (by first | exact .inl rfl | exact .inr rfl))) (fun _ _ _ _ _ => (gts_one (gt_not (gt_val (g_call takesN (ok_law_is_int T) (hr.mono (by decide)) (by rfl) T.g_law_is_int T.F_law_is_int.kp T.a_law_is_int (gr_v (g_cp (pv 1)) gr_nil)))))) (fun _ _ _ _ _ => (g_cp (pv 1))))) (go_v (g_lst ga_nil))))))))
  rw [m_law_int_list_def]
  exact z
theorem sc_law_indexes : FnScope ["_law_value", "_law_many", "_law_k"] ["_law_value", "_law_many"] (defScope (topS 29)) := ⟨rfl, rfl, rfl, by decide +kernel, rfl, by decide +kernel, by decide +kernel⟩
theorem ok_law_indexes (T : Txt K mg base f_law_box f_law_take f_law_name f_law_names f_law_drawn_pairs f_law_named f_check_name f_check_makes f_check_known f_check_pairs f_closed_rows f_rows_of f_Order___init__ f_law_closed f_law_chairs f_law_heights f_law_above f_law_levels f_law_stands f_law_grown f_law_is_int f_law_int_list f_law_indexes f_law_due f_are_chairs f_Order_has f_stands f_ranks_above f_below_lists f_check_tallest f_law C_Full C_InvalidName C_DuplicateMake C_UnknownMake C_Order fi_Full fi_InvalidName fi_DuplicateMake fi_UnknownMake pp_Order_makes fp_Order_makes ca_law_grown tp_law_grown fd_law_box fd_law_take fd_law_name fd_law_names fd_law_drawn_pairs fd_law_named fd_check_name fd_check_makes fd_check_known fd_check_pairs fd_closed_rows fd_rows_of fd_Order___init__ fd_law_closed fd_law_chairs fd_law_heights fd_law_above fd_law_levels fd_law_stands fd_law_grown fd_law_is_int fd_law_int_list fd_law_indexes fd_law_due fd_are_chairs fd_Order_has fd_stands fd_ranks_above fd_below_lists fd_check_tallest fd_law fdi_Full fdi_InvalidName fdi_DuplicateMake fdi_UnknownMake fdp_Order_makes) : FnOk P w K mg base (L2N.CX P w) 3 f_law_indexes fd_law_indexes ["_law_value", "_law_many"] (spM ⟨K, cls [("Full", C_Full), ("InvalidName", C_InvalidName), ("DuplicateMake", C_DuplicateMake), ("UnknownMake", C_UnknownMake), ("Order", C_Order)], P0, none, [(tp_law_grown, "_law_grown.<locals>.<lambda>")]⟩ m_law_indexes) := by
  have sc := sc_law_indexes
  have z := fn_den2 (P := P) (w := w) (mg := mg) (base := base) (G := (Gz C_Full C_InvalidName C_DuplicateMake C_UnknownMake C_Order tp_law_grown)) (tc := [2, 1002]) (den := d_law_indexes) (pr := []) (k := 2) T.F_law_indexes sc_law_indexes (by decide) fun cdv A outer s H E hr tk po hu => (gss_cons (gs_if (gt_not (gt_val (g_call tk (ok_law_int_list T) (hr.mono (by decide)) (by rfl) T.g_law_int_list T.F_law_int_list.kp T.a_law_int_list (gr_l (pv 0) gr_nil)))) (gss_one (gs_ret g_bl)) gss_nil)
  (gss_cons (gs_for (tg := (.one 2)) (fg := []) po rfl (gi_range1 (by rfl) T.b_range (g_len (by rfl) T.b_len (go_p (pv 0)))) (pg_name (i := 2) sc.nd rfl (by first | exact .inl rfl | exact .inr rfl)) (gss_one (gs_if (gt_lend (i := 0) (gt_w (gw_or (gt_lt (go_v (g_ix (go_p (pv 0)) (go_v (g_cp (pv 2))))) (go_v g_int)) (gw_or (gt_ge (go_v (g_ix (go_p (pv 0)) (go_v (g_cp (pv 2))))) (go_v (g_cp (pv 1)))) (gw_one .Or (gt_in hu (go_v (g_ix (go_p (pv 0)) (go_v (g_cp (pv 2))))) (go_v (g_slice (g_cp (pv 0)) go2_none (go2_some (g_cp (pv 2))))))))))) (gss_one (gs_ret g_bl)) gss_nil)))
  (gss_one (gs_ret g_bl))))
  rw [m_law_indexes_def]
  exact z
theorem sc_law_due : FnScope ["_law_reach", "_law_places", "_law_own", "_law_height", "_law_stack", "_law_levels_here", "_law_many", "_law_at", "_law_i", "_law_j"] ["_law_reach", "_law_places", "_law_own", "_law_height", "_law_stack", "_law_levels_here"] (defScope (topS 42)) := ⟨rfl, rfl, rfl, by decide +kernel, rfl, by decide +kernel, by decide +kernel⟩
theorem ok_law_due (T : Txt K mg base f_law_box f_law_take f_law_name f_law_names f_law_drawn_pairs f_law_named f_check_name f_check_makes f_check_known f_check_pairs f_closed_rows f_rows_of f_Order___init__ f_law_closed f_law_chairs f_law_heights f_law_above f_law_levels f_law_stands f_law_grown f_law_is_int f_law_int_list f_law_indexes f_law_due f_are_chairs f_Order_has f_stands f_ranks_above f_below_lists f_check_tallest f_law C_Full C_InvalidName C_DuplicateMake C_UnknownMake C_Order fi_Full fi_InvalidName fi_DuplicateMake fi_UnknownMake pp_Order_makes fp_Order_makes ca_law_grown tp_law_grown fd_law_box fd_law_take fd_law_name fd_law_names fd_law_drawn_pairs fd_law_named fd_check_name fd_check_makes fd_check_known fd_check_pairs fd_closed_rows fd_rows_of fd_Order___init__ fd_law_closed fd_law_chairs fd_law_heights fd_law_above fd_law_levels fd_law_stands fd_law_grown fd_law_is_int fd_law_int_list fd_law_indexes fd_law_due fd_are_chairs fd_Order_has fd_stands fd_ranks_above fd_below_lists fd_check_tallest fd_law fdi_Full fdi_InvalidName fdi_DuplicateMake fdi_UnknownMake fdp_Order_makes) : FnOk P w K mg base (L2N.CX P w) 4 f_law_due fd_law_due ["_law_reach", "_law_places", "_law_own", "_law_height", "_law_stack", "_law_levels_here"] (spM ⟨K, cls [("Full", C_Full), ("InvalidName", C_InvalidName), ("DuplicateMake", C_DuplicateMake), ("UnknownMake", C_UnknownMake), ("Order", C_Order)], P0, none, [(tp_law_grown, "_law_grown.<locals>.<lambda>")]⟩ m_law_due) := by
  have sc := sc_law_due
  have z := fn_den2 (P := P) (w := w) (mg := mg) (base := base) (G := (Gz C_Full C_InvalidName C_DuplicateMake C_UnknownMake C_Order tp_law_grown)) (tc := [6, 1006, 1007, 8, 1008, 9, 1009]) (den := d_law_due) (pr := []) (k := 3) T.F_law_due sc_law_due (by decide) fun cdv A outer s H E hr tk po hu => (gss_cons (gs_asg (i := 6) (g_len (by rfl) T.b_len (go_p (pv 1))) sc.nd rfl (by first | exact .inl rfl | exact .inr rfl))
  (gss_cons (gs_if (gt_w (gw_or (gt_not (gt_val (g_call tk (ok_law_indexes T) (hr.mono (by decide)) (by rfl) T.g_law_indexes T.F_law_indexes.kp T.a_law_indexes (gr_l (pv 4) (gr_v (g_cp (pv 6)) gr_nil))))) (gw_one .Or (gt_not (gt_val (g_call tk (ok_law_stands T) (hr.mono (by decide)) (by rfl) T.g_law_stands T.F_law_stands.kp T.a_law_stands (gr_l (pv 0) (gr_l (pv 1) (gr_l (pv 4) gr_nil))))))))) (gss_one (gs_ret g_bl)) gss_nil)
  (gss_cons (gs_if (gt_lend (i := 4) (gt_w (gw_or (gt_ne hu (go_v (g_sumI rfl (by rfl) T.b_sum (go_v (g_lc (own := [("_law_at", 7)]) (tg := (.one 7)) (to := [1007]) rfl sc.nd (gi_seq (g_cp (pv 4))) (blkOk_by (N := ["_law_reach", "_law_places", "_law_own", "_law_height", "_law_stack", "_law_levels_here", "_law_many", "_law_at", "_law_i", "_law_j"]) (sc := defScope (topS 42)) (by decide +kernel)) (fun _ _ _ _ _ => (pg_name (i := 7) sc.nd rfl (by first | exact .inl rfl | exact .inr rfl))) (fun _ _ _ _ _ => gts_nil) (fun _ _ _ _ _ => (g_ix (go_p (pv 2)) (go_v (g_cp (pv 7))))))))) (go_v (g_cp (pv 3)))) (gw_one .Or (gt_ne hu (go_v (g_len (by rfl) T.b_len (go_p (pv 5)))) (go_v (g_cp (pv 6)))))))) (gss_one (gs_ret g_bl)) gss_nil)
  (gss_cons (gs_for (tg := (.one 8)) (fg := []) po rfl (gi_range1 (by rfl) T.b_range (g_cp (pv 6))) (pg_name (i := 8) sc.nd rfl (by first | exact .inl rfl | exact .inr rfl)) (gss_cons (gs_if (gt_w (gw_or (gt_lt (go_v (g_ix (go_p (pv 5)) (go_v (g_cp (pv 8))))) (go_v (g_ix (go_p (pv 2)) (go_v (g_cp (pv 8)))))) (gw_one .Or (gt_gt (go_v (g_ix (go_p (pv 5)) (go_v (g_cp (pv 8))))) (go_v (g_cp (pv 3))))))) (gss_one (gs_ret g_bl)) gss_nil)
  (gss_one (gs_for (tg := (.one 9)) (fg := []) po rfl (gi_range1 (by rfl) T.b_range (g_cp (pv 6))) (pg_name (i := 9) sc.nd rfl (by first | exact .inl rfl | exact .inr rfl)) (gss_one (gs_if (gt_w (gw_and (gt_ne hu (go_v (g_cp (pv 8))) (go_v (g_cp (pv 9)))) (gw_and (gt_val (g_call tk (ok_law_above T) (hr.mono (by decide)) (by rfl) T.g_law_above T.F_law_above.kp T.a_law_above (gr_l (pv 0) (gr_l (pv 1) (gr_v (g_cp (pv 8)) (gr_v (g_cp (pv 9)) gr_nil)))))) (gw_one .And (gt_lt (go_v (g_ix (go_p (pv 5)) (go_v (g_cp (pv 8))))) (go_v (g_add (go_v (g_ix (go_p (pv 5)) (go_v (g_cp (pv 9))))) (go_v (g_ix (go_p (pv 2)) (go_v (g_cp (pv 8)))))))))))) (gss_one (gs_ret g_bl)) gss_nil))))))
  (gss_one (gs_ret g_bl))))))
  rw [m_law_due_def]
  exact z
theorem sc_are_chairs : FnScope ["indexes", "chairs", "seen", "at"] ["indexes", "chairs"] (defScope (topS 23)) := ⟨rfl, rfl, rfl, by decide +kernel, rfl, by decide +kernel, by decide +kernel⟩
theorem ok_are_chairs (T : Txt K mg base f_law_box f_law_take f_law_name f_law_names f_law_drawn_pairs f_law_named f_check_name f_check_makes f_check_known f_check_pairs f_closed_rows f_rows_of f_Order___init__ f_law_closed f_law_chairs f_law_heights f_law_above f_law_levels f_law_stands f_law_grown f_law_is_int f_law_int_list f_law_indexes f_law_due f_are_chairs f_Order_has f_stands f_ranks_above f_below_lists f_check_tallest f_law C_Full C_InvalidName C_DuplicateMake C_UnknownMake C_Order fi_Full fi_InvalidName fi_DuplicateMake fi_UnknownMake pp_Order_makes fp_Order_makes ca_law_grown tp_law_grown fd_law_box fd_law_take fd_law_name fd_law_names fd_law_drawn_pairs fd_law_named fd_check_name fd_check_makes fd_check_known fd_check_pairs fd_closed_rows fd_rows_of fd_Order___init__ fd_law_closed fd_law_chairs fd_law_heights fd_law_above fd_law_levels fd_law_stands fd_law_grown fd_law_is_int fd_law_int_list fd_law_indexes fd_law_due fd_are_chairs fd_Order_has fd_stands fd_ranks_above fd_below_lists fd_check_tallest fd_law fdi_Full fdi_InvalidName fdi_DuplicateMake fdi_UnknownMake fdp_Order_makes) : FnOk P w K mg base (L2N.CX P w) 1 f_are_chairs fd_are_chairs ["indexes", "chairs"] (spM ⟨K, cls [("Full", C_Full), ("InvalidName", C_InvalidName), ("DuplicateMake", C_DuplicateMake), ("UnknownMake", C_UnknownMake), ("Order", C_Order)], P0, none, [(tp_law_grown, "_law_grown.<locals>.<lambda>")]⟩ m_are_chairs) := by
  have sc := sc_are_chairs
  have z := fn_den2 (P := P) (w := w) (mg := mg) (base := base) (G := (Gz C_Full C_InvalidName C_DuplicateMake C_UnknownMake C_Order tp_law_grown)) (tc := [2, 1002, 3, 1003, 2]) (den := d_are_chairs) (pr := []) (k := 0) T.F_are_chairs sc_are_chairs (by decide) fun cdv A outer s H E hr tk po hu => (gss_cons (gs_asg (i := 2) (g_lst ga_nil) sc.nd rfl (by first | exact .inl rfl | exact .inr rfl))
  (gss_cons (gs_lend (i := 0) (gs_for (tg := (.one 3)) (fg := []) po rfl (gi_seq (g_cp (pv 0))) (pg_name (i := 3) sc.nd rfl (by first | exact .inl rfl | exact .inr rfl)) (gss_cons (gs_if (gt_w (gw_or (gt_not (gt_chain op_le op_lt p2_le p2_lt g_int (g_cp (pv 3)) (g_len (by rfl) T.b_len (go_p (pv 1))))) (gw_one .Or (gt_in hu (go_v (g_cp (pv 3))) (go_p (pv 2)))))) (gss_one (gs_ret g_bl)) gss_nil)
  (gss_one (gs_app (i := 2) (pv 2) (g_cp (pv 3)))))))
  (gss_one (gs_ret g_bl))))
  rw [m_are_chairs_def]
  exact z
theorem sc_Order_has : FnScope ["self", "upper", "lower", "at"] ["self", "upper", "lower"] (defScope (cls_st 19 5)) := ⟨rfl, rfl, rfl, by decide +kernel, rfl, by decide +kernel, by decide +kernel⟩
theorem ok_Order_has (T : Txt K mg base f_law_box f_law_take f_law_name f_law_names f_law_drawn_pairs f_law_named f_check_name f_check_makes f_check_known f_check_pairs f_closed_rows f_rows_of f_Order___init__ f_law_closed f_law_chairs f_law_heights f_law_above f_law_levels f_law_stands f_law_grown f_law_is_int f_law_int_list f_law_indexes f_law_due f_are_chairs f_Order_has f_stands f_ranks_above f_below_lists f_check_tallest f_law C_Full C_InvalidName C_DuplicateMake C_UnknownMake C_Order fi_Full fi_InvalidName fi_DuplicateMake fi_UnknownMake pp_Order_makes fp_Order_makes ca_law_grown tp_law_grown fd_law_box fd_law_take fd_law_name fd_law_names fd_law_drawn_pairs fd_law_named fd_check_name fd_check_makes fd_check_known fd_check_pairs fd_closed_rows fd_rows_of fd_Order___init__ fd_law_closed fd_law_chairs fd_law_heights fd_law_above fd_law_levels fd_law_stands fd_law_grown fd_law_is_int fd_law_int_list fd_law_indexes fd_law_due fd_are_chairs fd_Order_has fd_stands fd_ranks_above fd_below_lists fd_check_tallest fd_law fdi_Full fdi_InvalidName fdi_DuplicateMake fdi_UnknownMake fdp_Order_makes) : FnOk P w K mg base (L2N.CX P w) 1 f_Order_has fd_Order_has ["self", "upper", "lower"] (spM ⟨K, cls [("Full", C_Full), ("InvalidName", C_InvalidName), ("DuplicateMake", C_DuplicateMake), ("UnknownMake", C_UnknownMake), ("Order", C_Order)], P0, none, [(tp_law_grown, "_law_grown.<locals>.<lambda>")]⟩ m_Order_has) := by
  have sc := sc_Order_has
  have z := fn_den2 (P := P) (w := w) (mg := mg) (base := base) (G := (Gz C_Full C_InvalidName C_DuplicateMake C_UnknownMake C_Order tp_law_grown)) (tc := [3, 1003]) (den := d_Order_has) (pr := []) (k := 0) T.F_Order_has sc_Order_has (by decide) fun cdv A outer s H E hr tk po hu => (gss_cons (gs_asg (i := 3) (g_tix (g_fld (c := "Order") T.fl_Order_names (go_p (pv 0))) (g_cp (pv 1))) sc.nd rfl (by first | exact .inl rfl | exact .inr rfl))
  (gss_one (gs_ret (g_eq hu (go_v (g_band (go_v (g_shr (go_v (g_ix (go_v (g_fld (c := "Order") T.fl_Order_rows (go_p (pv 0)))) (go_v (g_cp (pv 3))))) (go_v (g_tix (g_fld (c := "Order") T.fl_Order_names (go_p (pv 0))) (g_cp (pv 2)))))) (go_v g_int))) (go_v g_int)))))
  rw [m_Order_has_def]
  exact z
theorem sc_stands : FnScope ["order", "chairs", "stack", "at"] ["order", "chairs", "stack"] (defScope (topS 24)) := ⟨rfl, rfl, rfl, by decide +kernel, rfl, by decide +kernel, by decide +kernel⟩
theorem ok_stands (T : Txt K mg base f_law_box f_law_take f_law_name f_law_names f_law_drawn_pairs f_law_named f_check_name f_check_makes f_check_known f_check_pairs f_closed_rows f_rows_of f_Order___init__ f_law_closed f_law_chairs f_law_heights f_law_above f_law_levels f_law_stands f_law_grown f_law_is_int f_law_int_list f_law_indexes f_law_due f_are_chairs f_Order_has f_stands f_ranks_above f_below_lists f_check_tallest f_law C_Full C_InvalidName C_DuplicateMake C_UnknownMake C_Order fi_Full fi_InvalidName fi_DuplicateMake fi_UnknownMake pp_Order_makes fp_Order_makes ca_law_grown tp_law_grown fd_law_box fd_law_take fd_law_name fd_law_names fd_law_drawn_pairs fd_law_named fd_check_name fd_check_makes fd_check_known fd_check_pairs fd_closed_rows fd_rows_of fd_Order___init__ fd_law_closed fd_law_chairs fd_law_heights fd_law_above fd_law_levels fd_law_stands fd_law_grown fd_law_is_int fd_law_int_list fd_law_indexes fd_law_due fd_are_chairs fd_Order_has fd_stands fd_ranks_above fd_below_lists fd_check_tallest fd_law fdi_Full fdi_InvalidName fdi_DuplicateMake fdi_UnknownMake fdp_Order_makes) : FnOk P w K mg base (L2N.CX P w) 2 f_stands fd_stands ["order", "chairs", "stack"] (spM ⟨K, cls [("Full", C_Full), ("InvalidName", C_InvalidName), ("DuplicateMake", C_DuplicateMake), ("UnknownMake", C_UnknownMake), ("Order", C_Order)], P0, none, [(tp_law_grown, "_law_grown.<locals>.<lambda>")]⟩ m_stands) := by
  have sc := sc_stands
  have z := fn_den2 (P := P) (w := w) (mg := mg) (base := base) (G := (Gz C_Full C_InvalidName C_DuplicateMake C_UnknownMake C_Order tp_law_grown)) (tc := [3, 1003]) (den := d_stands) (pr := []) (k := 1) T.F_stands sc_stands (by decide) fun cdv A outer s H E hr tk po hu => (gss_cons (gs_for (tg := (.one 3)) (fg := []) po rfl (gi_range2 (by rfl) T.b_range g_int (g_len (by rfl) T.b_len (go_p (pv 2)))) (pg_name (i := 3) sc.nd rfl (by first | exact .inl rfl | exact .inr rfl)) (gss_one (gs_if (gt_not (gt_val (g_meth tk T.c_Order T.cl_Order T.m_Order_has (ok_Order_has T) (hr.mono (by decide)) T.a_Order_has (pv 0) (gr_v (g_ix (go_p (pv 1)) (go_v (g_ix (go_p (pv 2)) (go_v (g_cp (pv 3)))))) (gr_v (g_ix (go_p (pv 1)) (go_v (g_ix (go_p (pv 2)) (go_v (g_sub (go_v (g_cp (pv 3))) (go_v g_int)))))) gr_nil))))) (gss_one (gs_ret g_bl)) gss_nil)))
  (gss_one (gs_ret g_bl)))
  rw [m_stands_def]
  exact z
theorem sc_ranks_above : FnScope ["order", "chairs", "one", "other"] ["order", "chairs", "one", "other"] (defScope (topS 21)) := ⟨rfl, rfl, rfl, by decide +kernel, rfl, by decide +kernel, by decide +kernel⟩
theorem ok_ranks_above (T : Txt K mg base f_law_box f_law_take f_law_name f_law_names f_law_drawn_pairs f_law_named f_check_name f_check_makes f_check_known f_check_pairs f_closed_rows f_rows_of f_Order___init__ f_law_closed f_law_chairs f_law_heights f_law_above f_law_levels f_law_stands f_law_grown f_law_is_int f_law_int_list f_law_indexes f_law_due f_are_chairs f_Order_has f_stands f_ranks_above f_below_lists f_check_tallest f_law C_Full C_InvalidName C_DuplicateMake C_UnknownMake C_Order fi_Full fi_InvalidName fi_DuplicateMake fi_UnknownMake pp_Order_makes fp_Order_makes ca_law_grown tp_law_grown fd_law_box fd_law_take fd_law_name fd_law_names fd_law_drawn_pairs fd_law_named fd_check_name fd_check_makes fd_check_known fd_check_pairs fd_closed_rows fd_rows_of fd_Order___init__ fd_law_closed fd_law_chairs fd_law_heights fd_law_above fd_law_levels fd_law_stands fd_law_grown fd_law_is_int fd_law_int_list fd_law_indexes fd_law_due fd_are_chairs fd_Order_has fd_stands fd_ranks_above fd_below_lists fd_check_tallest fd_law fdi_Full fdi_InvalidName fdi_DuplicateMake fdi_UnknownMake fdp_Order_makes) : FnOk P w K mg base (L2N.CX P w) 2 f_ranks_above fd_ranks_above ["order", "chairs", "one", "other"] (spM ⟨K, cls [("Full", C_Full), ("InvalidName", C_InvalidName), ("DuplicateMake", C_DuplicateMake), ("UnknownMake", C_UnknownMake), ("Order", C_Order)], P0, none, [(tp_law_grown, "_law_grown.<locals>.<lambda>")]⟩ m_ranks_above) := by
  have sc := sc_ranks_above
  have z := fn_den2 (P := P) (w := w) (mg := mg) (base := base) (G := (Gz C_Full C_InvalidName C_DuplicateMake C_UnknownMake C_Order tp_law_grown)) (tc := []) (den := d_ranks_above) (pr := []) (k := 1) T.F_ranks_above sc_ranks_above (by decide) fun cdv A outer s H E hr tk po hu => (gss_cons (gs_if (gt_not (gt_val (g_meth tk T.c_Order T.cl_Order T.m_Order_has (ok_Order_has T) (hr.mono (by decide)) T.a_Order_has (pv 0) (gr_v (g_ix (go_p (pv 1)) (go_v (g_cp (pv 2)))) (gr_v (g_ix (go_p (pv 1)) (go_v (g_cp (pv 3)))) gr_nil))))) (gss_one (gs_ret g_bl)) gss_nil)
  (gss_one (gs_ret (g_orV (g_gt (go_v (g_cp (pv 2))) (go_v (g_cp (pv 3)))) (g_oneV .Or (g_notV (g_meth tk T.c_Order T.cl_Order T.m_Order_has (ok_Order_has T) (hr.mono (by decide)) T.a_Order_has (pv 0) (gr_v (g_ix (go_p (pv 1)) (go_v (g_cp (pv 3)))) (gr_v (g_ix (go_p (pv 1)) (go_v (g_cp (pv 2)))) gr_nil)))))))))
  rw [m_ranks_above_def]
  exact z
theorem sc_below_lists : FnScope ["order", "chairs", "lists", "high", "low"] ["order", "chairs"] (defScope (topS 22)) := ⟨rfl, rfl, rfl, by decide +kernel, rfl, by decide +kernel, by decide +kernel⟩
theorem ok_below_lists (T : Txt K mg base f_law_box f_law_take f_law_name f_law_names f_law_drawn_pairs f_law_named f_check_name f_check_makes f_check_known f_check_pairs f_closed_rows f_rows_of f_Order___init__ f_law_closed f_law_chairs f_law_heights f_law_above f_law_levels f_law_stands f_law_grown f_law_is_int f_law_int_list f_law_indexes f_law_due f_are_chairs f_Order_has f_stands f_ranks_above f_below_lists f_check_tallest f_law C_Full C_InvalidName C_DuplicateMake C_UnknownMake C_Order fi_Full fi_InvalidName fi_DuplicateMake fi_UnknownMake pp_Order_makes fp_Order_makes ca_law_grown tp_law_grown fd_law_box fd_law_take fd_law_name fd_law_names fd_law_drawn_pairs fd_law_named fd_check_name fd_check_makes fd_check_known fd_check_pairs fd_closed_rows fd_rows_of fd_Order___init__ fd_law_closed fd_law_chairs fd_law_heights fd_law_above fd_law_levels fd_law_stands fd_law_grown fd_law_is_int fd_law_int_list fd_law_indexes fd_law_due fd_are_chairs fd_Order_has fd_stands fd_ranks_above fd_below_lists fd_check_tallest fd_law fdi_Full fdi_InvalidName fdi_DuplicateMake fdi_UnknownMake fdp_Order_makes) : FnOk P w K mg base (L2N.CX P w) 3 f_below_lists fd_below_lists ["order", "chairs"] (spM ⟨K, cls [("Full", C_Full), ("InvalidName", C_InvalidName), ("DuplicateMake", C_DuplicateMake), ("UnknownMake", C_UnknownMake), ("Order", C_Order)], P0, none, [(tp_law_grown, "_law_grown.<locals>.<lambda>")]⟩ m_below_lists) := by
  have sc := sc_below_lists
  have z := fn_den2 (P := P) (w := w) (mg := mg) (base := base) (G := (Gz C_Full C_InvalidName C_DuplicateMake C_UnknownMake C_Order tp_law_grown)) (tc := [2, 1002, 3, 1003, 1004, 2, 2]) (den := d_below_lists) (pr := []) (k := 2) T.F_below_lists sc_below_lists (by decide) fun cdv A outer s H E hr tk po hu => (gss_cons (gs_asg (i := 2) (g_lst ga_nil) sc.nd rfl (by first | exact .inl rfl | exact .inr rfl))
  (gss_cons (gs_for (tg := (.one 3)) (fg := []) po rfl (gi_range1 (by rfl) T.b_range (g_len (by rfl) T.b_len (go_p (pv 1)))) (pg_name (i := 3) sc.nd rfl (by first | exact .inl rfl | exact .inr rfl)) (gss_one (gs_app (i := 2) (pv 2) (g_lc (own := [("low", 4)]) (tg := (.one 4)) (to := [1004]) rfl sc.nd (gi_range1 (by rfl) T.b_range (g_len (by rfl) T.b_len (go_p (pv 1)))) (blkOk_by (N := ["order", "chairs", "lists", "high", "low"]) (sc := defScope (topS 22)) (by decide +kernel)) (fun _ _ _ _ _ => (pg_name (i := 4) sc.nd rfl (by first | exact .inl rfl | exact .inr rfl))) (fun _ _ _ _ _ => (gts_one (gt_val (g_call takesN (ok_ranks_above T) (hr.mono (by decide)) (by rfl) T.g_ranks_above T.F_ranks_above.kp T.a_ranks_above (gr_l (pv 0) (gr_l (pv 1) (gr_v (g_cp (pv 3)) (gr_v (g_cp (pv 4)) gr_nil)))))))) (fun _ _ _ _ _ => (g_cp (pv 4)))))))
  (gss_one (gs_ret (g_mv (pv 2))))))
  rw [m_below_lists_def]
  exact z
theorem sc_check_tallest : FnScope ["order", "chairs", "heights", "height", "stack", "levels", "at", "below", "high", "own", "low"] ["order", "chairs", "heights", "height", "stack", "levels"] (defScope (topS 25)) := ⟨rfl, rfl, rfl, by decide +kernel, rfl, by decide +kernel, by decide +kernel⟩
theorem ok_check_tallest (T : Txt K mg base f_law_box f_law_take f_law_name f_law_names f_law_drawn_pairs f_law_named f_check_name f_check_makes f_check_known f_check_pairs f_closed_rows f_rows_of f_Order___init__ f_law_closed f_law_chairs f_law_heights f_law_above f_law_levels f_law_stands f_law_grown f_law_is_int f_law_int_list f_law_indexes f_law_due f_are_chairs f_Order_has f_stands f_ranks_above f_below_lists f_check_tallest f_law C_Full C_InvalidName C_DuplicateMake C_UnknownMake C_Order fi_Full fi_InvalidName fi_DuplicateMake fi_UnknownMake pp_Order_makes fp_Order_makes ca_law_grown tp_law_grown fd_law_box fd_law_take fd_law_name fd_law_names fd_law_drawn_pairs fd_law_named fd_check_name fd_check_makes fd_check_known fd_check_pairs fd_closed_rows fd_rows_of fd_Order___init__ fd_law_closed fd_law_chairs fd_law_heights fd_law_above fd_law_levels fd_law_stands fd_law_grown fd_law_is_int fd_law_int_list fd_law_indexes fd_law_due fd_are_chairs fd_Order_has fd_stands fd_ranks_above fd_below_lists fd_check_tallest fd_law fdi_Full fdi_InvalidName fdi_DuplicateMake fdi_UnknownMake fdp_Order_makes) : FnOk P w K mg base (L2N.CX P w) 4 f_check_tallest fd_check_tallest ["order", "chairs", "heights", "height", "stack", "levels"] (spM ⟨K, cls [("Full", C_Full), ("InvalidName", C_InvalidName), ("DuplicateMake", C_DuplicateMake), ("UnknownMake", C_UnknownMake), ("Order", C_Order)], P0, none, [(tp_law_grown, "_law_grown.<locals>.<lambda>")]⟩ m_check_tallest) := by
  have sc := sc_check_tallest
  have z := fn_den2 (P := P) (w := w) (mg := mg) (base := base) (G := (Gz C_Full C_InvalidName C_DuplicateMake C_UnknownMake C_Order tp_law_grown)) (tc := [1006, 7, 1007, 8, 1008, 9, 1009, 10, 1010]) (den := d_check_tallest) (pr := []) (k := 3) T.F_check_tallest sc_check_tallest (by decide) fun cdv A outer s H E hr tk po hu => (gss_cons (gs_expr (g_call tk (ok_check_known T) (hr.mono (by decide)) (by rfl) T.g_check_known T.F_check_known.kp T.a_check_known (gr_v (g_prop T.c_Order T.cl_Order T.p_Order_makes (okp_Order_makes T) (hr.mono (by decide)) T.pb_Order_makes (go_p (pv 0))) (gr_l (pv 1) gr_nil))))
  (gss_cons (gs_if (gt_w (gw_or (gt_not (gt_val (g_call tk (ok_are_chairs T) (hr.mono (by decide)) (by rfl) T.g_are_chairs T.F_are_chairs.kp T.a_are_chairs (gr_l (pv 4) (gr_l (pv 1) gr_nil))))) (gw_one .Or (gt_not (gt_val (g_call tk (ok_stands T) (hr.mono (by decide)) (by rfl) T.g_stands T.F_stands.kp T.a_stands (gr_l (pv 0) (gr_l (pv 1) (gr_l (pv 4) gr_nil))))))))) (gss_one (gs_ret g_bl)) gss_nil)
  (gss_cons (gs_if (gt_lend (i := 4) (gt_w (gw_or (gt_ne hu (go_v (g_sumI rfl (by rfl) T.b_sum (go_v (g_lc (own := [("at", 6)]) (tg := (.one 6)) (to := [1006]) rfl sc.nd (gi_seq (g_cp (pv 4))) (blkOk_by (N := ["order", "chairs", "heights", "height", "stack", "levels", "at", "below", "high", "own", "low"]) (sc := defScope (topS 25)) (by decide +kernel)) (fun _ _ _ _ _ => (pg_name (i := 6) sc.nd rfl (by first | exact .inl rfl | exact .inr rfl))) (fun _ _ _ _ _ => gts_nil) (fun _ _ _ _ _ => (g_dix hu (go_p (pv 2)) (go_v (g_ix (go_p (pv 1)) (go_v (g_cp (pv 6))))))))))) (go_v (g_cp (pv 3)))) (gw_one .Or (gt_ne hu (go_v (g_len (by rfl) T.b_len (go_p (pv 5)))) (go_v (g_len (by rfl) T.b_len (go_p (pv 1))))))))) (gss_one (gs_ret g_bl)) gss_nil)
  (gss_cons (gs_asg (i := 7) (g_call tk (ok_below_lists T) (hr.mono (by decide)) (by rfl) T.g_below_lists T.F_below_lists.kp T.a_below_lists (gr_l (pv 0) (gr_l (pv 1) gr_nil))) sc.nd rfl (by first | exact .inl rfl | exact .inr rfl))
  (gss_cons (gs_for (tg := (.one 8)) (fg := []) po rfl (gi_range1 (by rfl) T.b_range (g_len (by rfl) T.b_len (go_p (pv 1)))) (pg_name (i := 8) sc.nd rfl (by first | exact .inl rfl | exact .inr rfl)) (gss_cons (gs_asg (i := 9) (g_dix hu (go_p (pv 2)) (go_v (g_ix (go_p (pv 1)) (go_v (g_cp (pv 8)))))) sc.nd rfl (by first | exact .inl rfl | exact .inr rfl))
  (gss_cons (gs_if (gt_not (gt_chain op_le op_le p2_le p2_le (g_cp (pv 9)) (g_ix (go_p (pv 5)) (go_v (g_cp (pv 8)))) (g_cp (pv 3)))) (gss_one (gs_ret g_bl)) gss_nil)
  (gss_one (gs_lend (i := 7) (gs_for (tg := (.one 10)) (fg := []) po rfl (gi_seq (g_ix (go_p (pv 7)) (go_v (g_cp (pv 8))))) (pg_name (i := 10) sc.nd rfl (by first | exact .inl rfl | exact .inr rfl)) (gss_one (gs_if (gt_lt (go_v (g_ix (go_p (pv 5)) (go_v (g_cp (pv 8))))) (go_v (g_add (go_v (g_ix (go_p (pv 5)) (go_v (g_cp (pv 10))))) (go_v (g_cp (pv 9)))))) (gss_one (gs_ret g_bl)) gss_nil))))))))
  (gss_one (gs_ret g_bl)))))))
  rw [m_check_tallest_def]
  exact z
theorem sc_law : FnScope ["_law_script", "_law_box_here", "_law_size", "_law_names_here", "_law_drawn", "_law_order", "_law_reach", "_law_chairs_here", "_law_name_here", "_law_places", "_law_heights_here", "_law_own", "_law_k", "_law_levels_here", "_law_stack", "_law_at", "_law_height", "_law_way", "_law_due_here", "_law_passed", "_law_found"] ["_law_script"] (defScope (topS 44)) := ⟨rfl, rfl, rfl, by decide +kernel, rfl, by decide +kernel, by decide +kernel⟩
theorem ok_law (T : Txt K mg base f_law_box f_law_take f_law_name f_law_names f_law_drawn_pairs f_law_named f_check_name f_check_makes f_check_known f_check_pairs f_closed_rows f_rows_of f_Order___init__ f_law_closed f_law_chairs f_law_heights f_law_above f_law_levels f_law_stands f_law_grown f_law_is_int f_law_int_list f_law_indexes f_law_due f_are_chairs f_Order_has f_stands f_ranks_above f_below_lists f_check_tallest f_law C_Full C_InvalidName C_DuplicateMake C_UnknownMake C_Order fi_Full fi_InvalidName fi_DuplicateMake fi_UnknownMake pp_Order_makes fp_Order_makes ca_law_grown tp_law_grown fd_law_box fd_law_take fd_law_name fd_law_names fd_law_drawn_pairs fd_law_named fd_check_name fd_check_makes fd_check_known fd_check_pairs fd_closed_rows fd_rows_of fd_Order___init__ fd_law_closed fd_law_chairs fd_law_heights fd_law_above fd_law_levels fd_law_stands fd_law_grown fd_law_is_int fd_law_int_list fd_law_indexes fd_law_due fd_are_chairs fd_Order_has fd_stands fd_ranks_above fd_below_lists fd_check_tallest fd_law fdi_Full fdi_InvalidName fdi_DuplicateMake fdi_UnknownMake fdp_Order_makes) : FnOk P w K mg base (L2N.CX P w) 7 f_law fd_law ["_law_script"] (spM ⟨K, cls [("Full", C_Full), ("InvalidName", C_InvalidName), ("DuplicateMake", C_DuplicateMake), ("UnknownMake", C_UnknownMake), ("Order", C_Order)], P0, none, [(tp_law_grown, "_law_grown.<locals>.<lambda>")]⟩ m_law) := by
  have sc := sc_law
  have z := fn_den2 (P := P) (w := w) (mg := mg) (base := base) (G := (Gz C_Full C_InvalidName C_DuplicateMake C_UnknownMake C_Order tp_law_grown)) (tc := [1, 1001, 1, 2, 1002, 1, 3, 1003, 1, 1, 4, 1004, 5, 1005, 6, 1006, 1, 7, 1007, 1008, 9, 1009, 1, 10, 1010, 1008, 11, 1011, 12, 1012, 13, 1013, 1, 14, 1014, 1015, 16, 1016, 17, 1017, 18, 1018, 19, 1019, 20, 1020, 7, 10]) (den := d_law) (pr := []) (k := 6) T.F_law sc_law (by decide) fun cdv A outer s H E hr tk po hu => (gss_cons (gs_asg (i := 1) (g_call tk (ok_law_box T) (hr.mono (by decide)) (by rfl) T.g_law_box T.F_law_box.kp T.a_law_box (gr_l (pv 0) gr_nil)) sc.nd rfl (by first | exact .inl rfl | exact .inr rfl))
  (gss_cons (gs_asg (i := 2) (g_add (go_v g_int) (go_v (g_call tk (ok_law_take T) (hr.mono (by decide)) (by rfl) T.g_law_take T.F_law_take.kp T.a_law_take (gr_io (pv 1) (gr_v g_int gr_nil))))) sc.nd rfl (by first | exact .inl rfl | exact .inr rfl))
  (gss_cons (gs_asg (i := 3) (g_call tk (ok_law_names T) (hr.mono (by decide)) (by rfl) T.g_law_names T.F_law_names.kp T.a_law_names (gr_io (pv 1) (gr_v (g_cp (pv 2)) gr_nil))) sc.nd rfl (by first | exact .inl rfl | exact .inr rfl))
  (gss_cons (gs_asg (i := 4) (g_call tk (ok_law_drawn_pairs T) (hr.mono (by decide)) (by rfl) T.g_law_drawn_pairs T.F_law_drawn_pairs.kp T.a_law_drawn_pairs (gr_io (pv 1) (gr_v (g_cp (pv 2)) (gr_v (g_call tk (ok_law_take T) (hr.mono (by decide)) (by rfl) T.g_law_take T.F_law_take.kp T.a_law_take (gr_io (pv 1) (gr_v g_int gr_nil))) gr_nil)))) sc.nd rfl (by first | exact .inl rfl | exact .inr rfl))
  (gss_cons (gs_asg (i := 5) (g_make tk T.c_Order T.mk_Order (ok_Order___init__ T) (hr.mono (by decide)) (by rfl) T.g_Order T.a_Order___init__ (gr_l (pv 3) (gr_v (g_call tk (ok_law_named T) (hr.mono (by decide)) (by rfl) T.g_law_named T.F_law_named.kp T.a_law_named (gr_l (pv 3) (gr_l (pv 4) gr_nil))) gr_nil))) sc.nd rfl (by first | exact .inl rfl | exact .inr rfl))
  (gss_cons (gs_asg (i := 6) (g_call tk (ok_law_closed T) (hr.mono (by decide)) (by rfl) T.g_law_closed T.F_law_closed.kp T.a_law_closed (gr_v (g_cp (pv 2)) (gr_l (pv 4) gr_nil))) sc.nd rfl (by first | exact .inl rfl | exact .inr rfl))
  (gss_cons (gs_asg (i := 7) (g_call tk (ok_law_chairs T) (hr.mono (by decide)) (by rfl) T.g_law_chairs T.F_law_chairs.kp T.a_law_chairs (gr_io (pv 1) (gr_l (pv 3) (gr_v g_int gr_nil)))) sc.nd rfl (by first | exact .inl rfl | exact .inr rfl))
  (gss_cons (gs_lend (i := 7) (gs_tc (tc := [1008, 9, 1009]) (by first | exact (gs_setLc (i := 9) (own := [("_law_name_here", 8)]) (tg := (.one 8)) (to := [1008]) rfl sc.nd rfl rfl (sw_true rfl rfl rfl (by decide +kernel)) (gi_seq (g_cp (pv 7))) (blkOk_by (N := ["_law_script", "_law_box_here", "_law_size", "_law_names_here", "_law_drawn", "_law_order", "_law_reach", "_law_chairs_here", "_law_name_here", "_law_places", "_law_heights_here", "_law_own", "_law_k", "_law_levels_here", "_law_stack", "_law_at", "_law_height", "_law_way", "_law_due_here", "_law_passed", "_law_found"]) (sc := defScope (topS 44)) (by decide +kernel)) (fun _ _ _ _ _ => (pg_name (i := 8) sc.nd rfl (by first | exact .inl rfl | exact .inr rfl))) (fun _ _ _ _ _ => gts_nil) (fun _ _ _ _ _ => (g_lix (pv 3) (g_cp (pv 8))))) | exact (gs_asg (i := 9) (g_lc (own := [("_law_name_here", 8)]) (tg := (.one 8)) (to := [1008]) rfl sc.nd (gi_seq (g_cp (pv 7))) (blkOk_by (N := ["_law_script", "_law_box_here", "_law_size", "_law_names_here", "_law_drawn", "_law_order", "_law_reach", "_law_chairs_here", "_law_name_here", "_law_places", "_law_heights_here", "_law_own", "_law_k", "_law_levels_here", "_law_stack", "_law_at", "_law_height", "_law_way", "_law_due_here", "_law_passed", "_law_found"]) (sc := defScope (topS 44)) (by decide +kernel)) (fun _ _ _ _ _ => (pg_name (i := 8) sc.nd rfl (by first | exact .inl rfl | exact .inr rfl))) (fun _ _ _ _ _ => gts_nil) (fun _ _ _ _ _ => (g_lix (pv 3) (g_cp (pv 8))))) sc.nd rfl (by first | exact .inl rfl | exact .inr rfl)))))
  (gss_cons (gs_asg (i := 10) (g_call tk (ok_law_heights T) (hr.mono (by decide)) (by rfl) T.g_law_heights T.F_law_heights.kp T.a_law_heights (gr_io (pv 1) (gr_l (pv 3) (gr_l (pv 7) gr_nil)))) sc.nd rfl (by first | exact .inl rfl | exact .inr rfl))
  (gss_cons (gs_lend (i := 7) (gs_tc (tc := [1008, 11, 1011]) (by first | exact (gs_setLc (i := 11) (own := [("_law_name_here", 8)]) (tg := (.one 8)) (to := [1008]) rfl sc.nd rfl rfl (sw_true rfl rfl rfl (by decide +kernel)) (gi_seq (g_cp (pv 7))) (blkOk_by (N := ["_law_script", "_law_box_here", "_law_size", "_law_names_here", "_law_drawn", "_law_order", "_law_reach", "_law_chairs_here", "_law_name_here", "_law_places", "_law_heights_here", "_law_own", "_law_k", "_law_levels_here", "_law_stack", "_law_at", "_law_height", "_law_way", "_law_due_here", "_law_passed", "_law_found"]) (sc := defScope (topS 44)) (by decide +kernel)) (fun _ _ _ _ _ => (pg_name (i := 8) sc.nd rfl (by first | exact .inl rfl | exact .inr rfl))) (fun _ _ _ _ _ => gts_nil) (fun _ _ _ _ _ => (g_dix hu (go_p (pv 10)) (go_v (g_cp (pv 8)))))) | exact (gs_asg (i := 11) (g_lc (own := [("_law_name_here", 8)]) (tg := (.one 8)) (to := [1008]) rfl sc.nd (gi_seq (g_cp (pv 7))) (blkOk_by (N := ["_law_script", "_law_box_here", "_law_size", "_law_names_here", "_law_drawn", "_law_order", "_law_reach", "_law_chairs_here", "_law_name_here", "_law_places", "_law_heights_here", "_law_own", "_law_k", "_law_levels_here", "_law_stack", "_law_at", "_law_height", "_law_way", "_law_due_here", "_law_passed", "_law_found"]) (sc := defScope (topS 44)) (by decide +kernel)) (fun _ _ _ _ _ => (pg_name (i := 8) sc.nd rfl (by first | exact .inl rfl | exact .inr rfl))) (fun _ _ _ _ _ => gts_nil) (fun _ _ _ _ _ => (g_dix hu (go_p (pv 10)) (go_v (g_cp (pv 8)))))) sc.nd rfl (by first | exact .inl rfl | exact .inr rfl)))))
  (gss_cons (gs_for (tg := (.one 12)) (fg := [13, 14, 19]) po rfl (gi_range1 (by rfl) T.b_range g_int) (pg_name (i := 12) sc.nd rfl (by first | exact .inl rfl | exact .inr rfl)) (gss_wk (t2 := [13, 1013, 1, 14, 1014, 1015, 16, 1016, 17, 1017, 18, 1018, 19, 1019, 20, 1020, 7, 10]) (gss_cons (gs_asg (i := 13) (g_call tk (ok_law_levels T) (hr.mono (by decide)) (by rfl) T.g_law_levels T.F_law_levels.kp T.a_law_levels (gr_l (pv 6) (gr_l (pv 9) (gr_l (pv 11) gr_nil)))) sc.nd rfl (by first | exact .inl rfl | exact .inr rfl))
  (gss_cons (gs_asg (i := 14) (g_call tk (ok_law_grown T) (hr.mono (by decide)) (by rfl) T.g_law_grown T.F_law_grown.kp T.a_law_grown (gr_io (pv 1) (gr_l (pv 6) (gr_l (pv 9) (gr_l (pv 13) gr_nil))))) sc.nd rfl (by first | exact .inl rfl | exact .inr rfl))
  (gss_cons (gs_lend (i := 14) (gs_asg (i := 16) (g_ix (go_v (g_lst (ga_cons (g_sumI rfl (by rfl) T.b_sum (go_v (g_lc (own := [("_law_at", 15)]) (tg := (.one 15)) (to := [1015]) rfl sc.nd (gi_seq (g_cp (pv 14))) (blkOk_by (N := ["_law_script", "_law_box_here", "_law_size", "_law_names_here", "_law_drawn", "_law_order", "_law_reach", "_law_chairs_here", "_law_name_here", "_law_places", "_law_heights_here", "_law_own", "_law_k", "_law_levels_here", "_law_stack", "_law_at", "_law_height", "_law_way", "_law_due_here", "_law_passed", "_law_found"]) (sc := defScope (topS 44)) (by decide +kernel)) (fun _ _ _ _ _ => (pg_name (i := 15) sc.nd rfl (by first | exact .inl rfl | exact .inr rfl))) (fun _ _ _ _ _ => gts_nil) (fun _ _ _ _ _ => (g_ix (go_p (pv 11)) (go_v (g_cp (pv 15)))))))) (ga_cons (g_maxI rfl (by rfl) T.b_max (go_v (g_add (go_p (pv 13)) (go_v (g_lst (ga_cons g_int ga_nil)))))) ga_nil)))) (go_v (g_call tk (ok_law_take T) (hr.mono (by decide)) (by rfl) T.g_law_take T.F_law_take.kp T.a_law_take (gr_io (pv 1) (gr_v g_int gr_nil))))) sc.nd rfl (by first | exact .inl rfl | exact .inr rfl)))
  (gss_cons (gs_asg (i := 17) (g_call tk (ok_law_take T) (hr.mono (by decide)) (by rfl) T.g_law_take T.F_law_take.kp T.a_law_take (gr_io (pv 1) (gr_v g_int gr_nil))) sc.nd rfl (by first | exact .inl rfl | exact .inr rfl))
  (gss_cons (gs_if (gt_w (gw_and (gt_eq hu (go_v (g_cp (pv 17))) (go_v g_int)) (gw_one .And (gt_gt (go_v (g_len (by rfl) T.b_len (go_p (pv 7)))) (go_v g_int))))) (gss_one (gs_augI (i := 13) (pv 13) (g_call tk (ok_law_take T) (hr.mono (by decide)) (by rfl) T.g_law_take T.F_law_take.kp T.a_law_take (gr_io (pv 1) (gr_v (g_len (by rfl) T.b_len (go_p (pv 7))) gr_nil))) (g_sub (go_v (g_call tk (ok_law_take T) (hr.mono (by decide)) (by rfl) T.g_law_take T.F_law_take.kp T.a_law_take (gr_io (pv 1) (gr_v g_int gr_nil)))) (go_v g_int)))) gss_nil)
  (gss_cons (gs_if (gt_eq hu (go_v (g_cp (pv 17))) (go_v g_int)) (gss_one (gs_asg (i := 16) (g_sub (go_v (g_add (go_v (g_cp (pv 16))) (go_v (g_call tk (ok_law_take T) (hr.mono (by decide)) (by rfl) T.g_law_take T.F_law_take.kp T.a_law_take (gr_io (pv 1) (gr_v g_int gr_nil)))))) (go_v g_int)) sc.nd rfl (by first | exact .inl rfl | exact .inr rfl))) gss_nil)
  (gss_cons (gs_if (gt_eq hu (go_v (g_cp (pv 17))) (go_v g_int)) (gss_one (gs_asg (i := 14) (g_add (go_p (pv 14)) (go_v (g_lst (ga_cons (g_ix (go_v (g_lst (ga_cons (g_neg (go_v g_int)) (ga_cons (g_len (by rfl) T.b_len (go_p (pv 7))) (ga_cons g_int (ga_cons (g_neg (go_v (g_len (by rfl) T.b_len (go_p (pv 7))))) ga_nil)))))) (go_v (g_call tk (ok_law_take T) (hr.mono (by decide)) (by rfl) T.g_law_take T.F_law_take.kp T.a_law_take (gr_io (pv 1) (gr_v g_int gr_nil))))) ga_nil)))) sc.nd rfl (by first | exact .inl rfl | exact .inr rfl))) gss_nil)
  (gss_cons (gs_if (gt_eq hu (go_v (g_cp (pv 17))) (go_v g_int)) (gss_one (gs_asg (i := 13) (g_lend (i := 13) (g_slice (g_cp (pv 13)) go2_none (go2_some (g_neg (go_v g_int))))) sc.nd rfl (by first | exact .inl rfl | exact .inr rfl))) gss_nil)
  (gss_cons (gs_if (gt_eq hu (go_v (g_cp (pv 17))) (go_v g_int)) (gss_one (gs_app (i := 13) (pv 13) g_int)) gss_nil)
  (gss_cons (gs_asg (i := 18) (g_call tk (ok_law_due T) (hr.mono (by decide)) (by rfl) T.g_law_due T.F_law_due.kp T.a_law_due (gr_l (pv 6) (gr_l (pv 9) (gr_l (pv 11) (gr_v (g_cp (pv 16)) (gr_l (pv 14) (gr_l (pv 13) gr_nil))))))) sc.nd rfl (by first | exact .inl rfl | exact .inr rfl))
  (gss_cons (gs_lend (i := 10) (gs_asg (i := 19) (g_lst (ga_cons (g_fz (g_list (by rfl) T.b_list (go_p (pv 7)))) (ga_cons (g_fz (g_dcp (by rfl) T.b_dict (g_cp (pv 10)))) (ga_cons (g_fz (g_list (by rfl) T.b_list (go_p (pv 14)))) (ga_cons (g_fz (g_list (by rfl) T.b_list (go_p (pv 13)))) ga_nil))))) sc.nd rfl (by first | exact .inl rfl | exact .inr rfl)))
  (gss_cons (gs_asg (i := 20) (g_call tk (ok_check_tallest T) (hr.mono (by decide)) (by rfl) T.g_check_tallest T.F_check_tallest.kp T.a_check_tallest (gr_l (pv 5) (gr_v (g_ix (go_p (pv 19)) (go_v g_int)) (gr_v (g_ix (go_p (pv 19)) (go_v g_int)) (gr_v (g_cp (pv 16)) (gr_v (g_ix (go_p (pv 19)) (go_v g_int)) (gr_v (g_ix (go_p (pv 19)) (go_v g_int)) gr_nil))))))) sc.nd rfl (by first | exact .inl rfl | exact .inr rfl))
  (gss_one (gs_if (gt_w (gw_or (gt_not (gt_val (g_isi .bool (by rfl) T.b_isinstance (by rfl) T.b_bool (by decide +kernel) (by decide) (by decide) (go_v (g_cp (pv 20)))))) (gw_or (gt_ne hu (go_v (g_cp (pv 20))) (go_v (g_cp (pv 18)))) (gw_one .Or (gt_neV (hr.mono (by decide)) (go_p (pv 19)) (go_v (g_lst (ga_cons (g_fz (g_fs (pv 7))) (ga_cons (g_fz (g_fs (pv 10))) (ga_cons (g_fz (g_mv (pv 14))) (ga_cons (g_fz (g_mv (pv 13))) ga_nil))))))))))) (gss_one (gs_ret g_bl)) gss_nil)))))))))))))) (by decide)))
  (gss_one (gs_ret g_bl)))))))))))))
  rw [m_law_def]
  exact z
end
end Lw
namespace Lw
open Cs
open PySem (Str)
theorem box_w {ns : List Int} {K : D → En → Prop} {E : PySem.Str → List PySem.Str → List D → En → Prop} (hn : ns.length ≤ 63) (hK : ∀ d, BoxP d → K d [.un]) : resW (m_law_box [scr ns]) K E := by
  rw [m_law_box_def]
  refine resW_run rfl ?_
  unfold d_law_box scr
  simp [frm, flwOk, noBoAt, lim]
  exact hK _ ⟨_, 0, 0, 0, rfl, by omega, by omega⟩
theorem take_w {d : D} {m : Int} {K : D → En → Prop} {E : PySem.Str → List PySem.Str → List D → En → Prop} (hd : BoxP d) (hm : 0 < m) (hm2 : m < 1073741824) (hK : ∀ r d', 0 ≤ r → r < m → BoxP d' → K (.int r) [.dt d', .un]) : resW (m_law_take [d, .int m]) K E := by
  obtain ⟨cs, a, b, s, rfl, ha, hb⟩ := hd
  rw [m_law_take_def]
  refine resW_run rfl ?_
  have hmod : ∀ x : Int, 0 ≤ x % m ∧ x % m < m := fun x => ⟨Int.emod_nonneg x (by omega), Int.emod_lt_of_pos x hm⟩
  have hdiv : ∀ x : Int, 0 ≤ x → 0 ≤ x / m := fun x h => Int.ediv_nonneg h (by omega)
  have fin : ∀ r a' b' s' x ρ, 0 ≤ r → r < m → 0 ≤ a' → 0 ≤ b' → K (.int r) (outs [0] 2 (.dt (.lst .ow [.lst .fr (cs.map D.int), .int a', .int b', .int s']) :: x :: ρ)) := fun r a' b' s' x ρ h1 h2 h3 h4 => by
    rw [outs_02 (by simp)]
    exact hK _ _ h1 h2 ⟨cs, a', b', s', rfl, h3, h4⟩
  unfold d_law_take d_law_take_s1 d_law_take_s2 d_law_take_s3 d_law_take_s4 box
  by_cases h : b = 0 ∧ a < cs.length
  · obtain ⟨h1, h2⟩ := h
    obtain ⟨c, e⟩ := atI_ints ha h2
    subst h1
    by_cases h3 : 1000000000000000000 ≤ c
    · by_cases h4 : 1000000000000000000 < c
      · simp [post_seq, frm, h2, e, h3, h4, hm, hm2]
        refine fin _ _ _ _ _ _ (hmod _).1 (hmod _).2 ?_ (hdiv _ ?_) <;> omega
      · simp [post_seq, frm, h2, e, h3, h4, hm, hm2]
        refine fin _ _ _ _ _ _ (hmod _).1 (hmod _).2 ?_ ?_ <;> omega
    · simp [post_seq, frm, h2, e, h3, hm, hm2]
      refine fin _ _ _ _ _ _ (hmod _).1 (hmod _).2 ?_ ?_ <;> omega
  · by_cases h4 : 0 < b
    · have h5 : ¬ b = 0 := by omega
      simp [post_seq, frm, h4, h5, hm, hm2]
      refine fin _ _ _ _ _ _ (hmod _).1 (hmod _).2 ?_ (hdiv _ ?_) <;> omega
    · have h5 : b = 0 := by omega
      have h6 : ¬ a < cs.length := fun z => h ⟨h5, z⟩
      subst h5
      simp [post_seq, frm, h6, hm, hm2]
      refine fin _ _ _ _ _ _ (hmod _).1 (hmod _).2 ?_ ?_ <;> omega

abbrev abc : Str := "abcdefghijklmnopqrstuvwxyz"
/-- a name as the document wants it -/
def goodN (z : Str) : Bool := decide (1 ≤ z.length) && decide (z.length ≤ 12) && z.cps.toList.all fun c => decide (c ∈ abc.cps.toList)
def Icn (z : Str) (k : Nat) (ρ : En) : Prop := (∃ x, ρ = [.dt (.str z), x]) ∧ ∀ (j : Nat) c, j < k → z.cps.toList[j]? = some c → c ∈ abc.cps.toList
theorem good_of {z : Str} (h1 : 1 ≤ z.length) (h2 : z.length ≤ 12) (h : ∀ (j : Nat) c, j < z.length → z.cps.toList[j]? = some c → c ∈ abc.cps.toList) : goodN z = true := by
  unfold goodN
  simp only [h1, h2, decide_true, Bool.true_and, List.all_eq_true]
  intro c hc
  obtain ⟨j, hj⟩ := List.getElem?_of_mem hc
  have hl : j < z.length := by
    have := (List.getElem?_eq_some_iff.mp hj).1
    simpa [Str.length] using this
  exact decide_eq_true (h j c hl hj)
theorem bad_of {z : Str} {j c : Nat} (hj : z.cps.toList[j]? = some c) (h : c ∉ abc.cps.toList) : goodN z = false := by
  unfold goodN
  have : (z.cps.toList.all fun c => decide (c ∈ abc.cps.toList)) = false := by
    rw [Bool.eq_false_iff]
    intro z
    exact h (of_decide_eq_true (List.all_eq_true.mp z c (List.mem_of_getElem? hj)))
  rw [this, Bool.and_false]
theorem check_name_w {z : Str} {K : D → En → Prop} {E : XK0} (hz : z.length ≤ lim) (h1 : goodN z = true → K .non [.un]) (h2 : goodN z = false → E "InvalidName" ["name"] [.str z] [.un]) : resW (m_check_name [.str z]) K E := by
  rw [m_check_name_def]
  refine resW_run rfl ?_
  unfold d_check_name
  by_cases ha : 1 ≤ z.length
  · by_cases hb : z.length ≤ 12
    · have ha' : (1 : Int) ≤ (z.length : Int) := by omega
      have hb' : (z.length : Int) ≤ 12 := by omega
      simp [post_seq, frm, hz, ha', hb']
      refine for_inv (Icn z) ⟨⟨_, rfl⟩, fun j c hj => by omega⟩ ?_ ?_
      · rintro k d ρ hk ⟨⟨x, rfl⟩, hi⟩
        obtain ⟨c, hc, rfl⟩ := signs_get hk
        unfold d_check_name_b3
        by_cases hq : c ∈ abc.cps.toList
        · simp [hq]
          refine ⟨⟨_, rfl⟩, fun j c' hj hc' => ?_⟩
          rcases Nat.lt_or_ge j k with q | q
          · exact hi j c' q hc'
          · have : j = k := by omega
            subst this
            rw [hc] at hc'
            cases hc'
            exact hq
        · simp [hq]
          exact h2 (bad_of hc hq)
      · rintro ρ ⟨⟨x, rfl⟩, hi⟩
        rw [signs_len] at hi
        simp
        exact h1 (good_of ha hb hi)
    · have ha' : (1 : Int) ≤ (z.length : Int) := by omega
      have hb' : ¬ (z.length : Int) ≤ 12 := by omega
      simp [post_seq, frm, hz, ha', hb']
      exact h2 (by unfold goodN; simp [hb])
  · have ha' : ¬ (1 : Int) ≤ (z.length : Int) := by omega
    simp [post_seq, frm, hz, ha']
    exact h2 (by unfold goodN; simp [ha])

/-- data without cells -/
structure Stb (xs : List D) : Prop where
  m : ∀ g, mapFs g xs = xs
  a : ∀ p, allFs p xs = true
theorem stb_strs {zs : List Str} : Stb (zs.map D.str) := ⟨fun _ => mapFs_strs, fun _ => allFs_strs⟩
theorem stb_pr2 {zs : List (Str × Str)} : Stb (zs.map pr2) := ⟨fun _ => mapFs_pr2, fun _ => allFs_pr2⟩
/-- a list or a tuple of xs -/
def SeqD (d : D) (xs : List D) : Prop := (∃ o, d = .lst o xs) ∨ d = .tup xs
section
variable {d : D} {xs : List D}
theorem SeqD.lend (h : SeqD d xs) (st : Stb xs) : SeqD (mapF flLend d) xs := by
  rcases h with ⟨o, rfl⟩ | rfl
  · exact .inl ⟨flLend o, by rw [mapF_l, st.m]⟩
  · exact .inr (by rw [mapF_t, st.m])
theorem SeqD.len (h : SeqD d xs) : pLen d = .sc (.int xs.length) := by
  rcases h with ⟨o, rfl⟩ | rfl <;> rfl
theorem SeqD.items (h : SeqD d xs) (st : Stb xs) : itemsOf (mapF flFrz (mapF flLend d)) = some xs := by
  rcases h with ⟨o, rfl⟩ | rfl
  · rw [mapF_l, mapF_l, st.m, st.m]; rfl
  · rw [mapF_t, mapF_t, st.m, st.m]; rfl
theorem SeqD.noOw (h : SeqD d xs) (st : Stb xs) : allF noOw (mapF flLend d) = true := by
  rcases h with ⟨o, rfl⟩ | rfl
  · rw [mapF_l, allF_l, st.m, st.a]; cases o <;> rfl
  · rw [mapF_t, allF_t, st.m, st.a]
theorem SeqD.tup (h : SeqD d xs) (st : Stb xs) : pTuple d = .nt xs ∨ pTuple d = .sc (.tup xs) := by
  rcases h with ⟨o, rfl⟩ | rfl
  · left; rw [pTuple_l, if_pos (st.a _)]
  · right; rw [pTuple_t, if_pos (st.a _)]
theorem SeqD.notIn {z : Str} {zs : List Str} (h : SeqD d (zs.map D.str)) : pNotIn (.str z) d = .sc (.bl (!decide (z ∈ zs))) := by
  rcases h with ⟨o, rfl⟩ | rfl
  · exact pNotIn_ls
  · exact pNotIn_ts
end
theorem getE_map {α β : Type} {f : α → β} {xs : List α} {k : Nat} {y : β} (h : (xs.map f)[k]? = some y) : ∃ hk : k < xs.length, y = f xs[k] := by
  rw [List.getElem?_map] at h
  rcases Nat.lt_or_ge k xs.length with q | q
  · rw [List.getElem?_eq_getElem q] at h
    exact ⟨q, (Option.some.inj h).symm⟩
  · rw [List.getElem?_eq_none q] at h; cases h
def firstBad (seen : List Str) : List Str → Option (Str × Str)
  | [] => none
  | z :: zs => if goodN z = false then some ("InvalidName", z) else if z ∈ seen then some ("DuplicateMake", z) else firstBad (seen ++ [z]) zs
def Icm (d : D) (zs : List Str) (k : Nat) (ρ : En) : Prop := (∃ x, ρ = [.dt (mapF flLend d), .dt (.lst .ow ((zs.take k).map D.str)), x] ∧ (x = .un ∨ ∃ z, x = .dt (.str z))) ∧ firstBad [] zs = firstBad (zs.take k) (zs.drop k)
theorem check_makes_w {d : D} {zs : List Str} {K : D → En → Prop} {E : XK0} (hd : SeqD d (zs.map D.str)) (hl : ∀ z ∈ zs, z.length ≤ lim) (hb : allF noBo d = true ∨ True)
    (h1 : zs.length ≤ 12 → firstBad [] zs = none → K .non [.un]) (h2 : 12 < zs.length → E "Full" ["most"] [.int 12] [.un])
    (h3 : ∀ c z, zs.length ≤ 12 → firstBad [] zs = some (c, z) → E c ["name"] [.str z] [.un]) : resW (m_check_makes [d]) K E := by
  rw [m_check_makes_def]
  refine resW_run rfl ?_
  unfold d_check_makes
  by_cases hn : 12 < zs.length
  · have hn' : (12 : Int) < (zs.length : Int) := by omega
    simp [post_seq, frm, hd.len, hn', hn]
    exact h2 hn
  · have hn' : ¬ (12 : Int) < (zs.length : Int) := by omega
    simp [post_seq, frm, hd.len, hn', hn, lim, hd.items stb_strs, hd.noOw stb_strs]
    refine for_inv (Icm d zs) ⟨⟨.un, by simp, .inl rfl⟩, by simp⟩ ?_ ?_
    · rintro k dd ρ hk ⟨⟨x, rfl, hx⟩, hi⟩
      obtain ⟨hk1, rfl⟩ := getE_map hk
      have hz := hl _ (List.getElem_mem hk1)
      have hdr : zs.drop k = zs[k] :: zs.drop (k + 1) := List.drop_eq_getElem_cons hk1
      have htk : zs.take (k + 1) = zs.take k ++ [zs[k]] := (List.take_append_getElem hk1).symm
      have hlt : (zs.take k).length ≤ 12 := by rw [List.length_take]; omega
      generalize hzk : zs[k] = z at *
      generalize htt : zs.take k = sn at *
      rw [hdr, firstBad] at hi
      unfold d_check_makes_b4
      simp [post_seq]
      refine check_name_w hz (fun hg => ?_) (fun hg => ?_)
      · rw [if_neg (by rw [hg]; simp)] at hi
        by_cases hm : z ∈ sn
        · rw [if_pos hm] at hi
          simp [hm, noBoAt]
          exact h3 _ _ (by omega) hi
        · rw [if_neg hm] at hi
          simp [hm, noBoAt, lim]
          refine ⟨by omega, ⟨.dt (.str z), ?_, .inr ⟨_, rfl⟩⟩, ?_⟩
          · rw [htk, List.map_append]; rfl
          · rw [htk]; exact hi
      · rw [if_pos hg] at hi
        simp [noBoAt]
        exact h3 _ _ (by omega) hi
    · rintro ρ ⟨⟨x, rfl, hx⟩, hi⟩
      have hi : firstBad [] zs = none := by
        rw [hi, List.length_map, List.drop_length]
        rfl
      rcases hx with rfl | ⟨z, rfl⟩
      · simp [noBoAt, flwOk]
        exact h1 (by omega) hi
      · simp [noBoAt, flwOk]
        exact h1 (by omega) hi
/-- a make that is not known -/
def firstUnk (zs : List Str) : List Str → Option Str
  | [] => none
  | n :: ns => if n ∈ zs then firstUnk zs ns else some n
theorem check_known_w {d : D} {zs : List Str} {a b : Str} {K : D → En → Prop} {E : XK0} (hd : SeqD d (zs.map D.str))
    (h1 : a ∈ zs → b ∈ zs → K .non [.un, .un]) (h2 : ∀ n, firstUnk zs [a, b] = some n → E "UnknownMake" ["name"] [.str n] [.un, .un]) : resW (m_check_known [d, .tup [.str a, .str b]]) K E := by
  rw [m_check_known_def]
  refine resW_run rfl ?_
  unfold d_check_known
  simp [frm, post_forL_cons, post_forL_nil, d_check_known_b1, hd.notIn]
  by_cases ha : a ∈ zs
  · by_cases hb : b ∈ zs
    · simp [ha, hb]
      first
        | exact h1 ha hb
        | exact ⟨by simp [noBoAt, flwOk], h1 ha hb⟩
    · simp [ha, hb]
      first
        | exact h2 b (by simp [firstUnk, ha, hb])
        | exact ⟨by simp [noBoAt], h2 b (by simp [firstUnk, ha, hb])⟩
  · simp [ha]
    first
      | exact h2 a (by simp [firstUnk, ha])
      | exact ⟨by simp [noBoAt], h2 a (by simp [firstUnk, ha])⟩
def flatP : List (Str × Str) → List Str
  | [] => []
  | p :: ps => p.1 :: p.2 :: flatP ps
def Icp (d e : D) (zs : List Str) (ps : List (Str × Str)) (k : Nat) (ρ : En) : Prop := (∃ x y, ρ = [.dt d, .dt (mapF flLend e), x, y] ∧ noBoAt [2, 1002, 3, 1003] ρ = true) ∧ (∀ p ∈ ps.take k, p.1 ∈ zs ∧ p.2 ∈ zs) ∧ firstUnk zs (flatP ps) = firstUnk zs (flatP (ps.drop k))
theorem check_pairs_w {d e : D} {zs : List Str} {ps : List (Str × Str)} {K : D → En → Prop} {E : XK0} (hd : SeqD d (zs.map D.str)) (he : SeqD e (ps.map pr2))
    (h1 : (∀ p ∈ ps, p.1 ∈ zs ∧ p.2 ∈ zs) → K .non [.un, .un]) (h2 : ∀ n, firstUnk zs (flatP ps) = some n → E "UnknownMake" ["name"] [.str n] [.un, .un]) : resW (m_check_pairs [d, e]) K E := by
  rw [m_check_pairs_def]
  refine resW_run rfl ?_
  unfold d_check_pairs
  simp [frm, he.items stb_pr2, he.noOw stb_pr2]
  refine for_inv (Icp d e zs ps) ?_ ?_ ?_
  · exact ⟨⟨.un, .un, rfl, rfl⟩, by simp, by simp⟩
  · rintro k dd ρ hk ⟨⟨x, y, rfl, hn⟩, hall, hi⟩
    obtain ⟨hk1, rfl⟩ := getE_map hk
    have hdr : ps.drop k = ps[k] :: ps.drop (k + 1) := List.drop_eq_getElem_cons hk1
    have htk : ps.take (k + 1) = ps.take k ++ [ps[k]] := (List.take_append_getElem hk1).symm
    generalize hzk : ps[k] = z at *
    rw [hdr, flatP, firstUnk, firstUnk] at hi
    unfold d_check_pairs_b1
    simp [lim]
    refine check_known_w (hd.lend stb_strs) (fun ha hb => ?_) (fun n hn => ?_)
    · rw [if_pos ha, if_pos hb] at hi
      refine ⟨⟨_, _, rfl, by simp [noBoAt]⟩, ?_, hi⟩
      intro p hp
      rw [htk] at hp
      rcases List.mem_append.mp hp with q | q
      · exact hall _ q
      · rw [List.mem_singleton.mp q]; exact ⟨ha, hb⟩
    · simp [noBoAt]
      refine h2 n ?_
      rw [hi]
      unfold firstUnk at hn
      by_cases ha : z.1 ∈ zs
      · rw [if_pos ha] at hn ⊢
        unfold firstUnk at hn
        by_cases hb : z.2 ∈ zs
        · rw [if_pos hb] at hn
          cases hn
        · rw [if_neg hb] at hn ⊢
          exact hn
      · rw [if_neg ha] at hn ⊢
        exact hn
  · rintro ρ ⟨⟨x, y, rfl, hn⟩, hall, hi⟩
    rw [List.length_map, List.take_length] at hall
    simp [hn, flwOk]
    exact h1 hall

theorem firstUnk_mem {zs : List Str} : ∀ {xs : List Str}, (∀ x ∈ xs, x ∈ zs) → firstUnk zs xs = none
  | [], _ => rfl
  | x :: xs, h => by
    rw [firstUnk, if_pos (h x (by simp))]
    exact firstUnk_mem fun y hy => h y (by simp [hy])
theorem firstUnk_at {zs : List Str} : ∀ {xs : List Str} {k : Nat} {x : Str}, xs[k]? = some x → (∀ j y, j < k → xs[j]? = some y → y ∈ zs) → x ∉ zs → firstUnk zs xs = some x
  | [], _, _, h, _, _ => by simp at h
  | y :: xs, 0, x, h, _, hx => by
    cases (Option.some.inj h)
    rw [firstUnk, if_neg hx]
  | y :: xs, k + 1, x, h, hb, hx => by
    rw [firstUnk, if_pos (hb 0 y (by omega) rfl)]
    exact firstUnk_at (by simpa using h) (fun j z hj hz => hb (j + 1) z (by omega) (by simpa using hz)) hx
def BitsOf (r : Int) (P : Nat → Bool) : Prop := ∃ m : Nat, r = (m : Int) ∧ ∀ j, m.testBit j = P j
theorem bitNot2 (x : Int) : PySem.Builtin.bitNot (PySem.Builtin.bitNot x) = x := by
  unfold PySem.Builtin.bitNot
  omega
theorem bitNot_neg (a : Nat) : decide (0 ≤ PySem.Builtin.bitNot (a : Int)) = false := by
  unfold PySem.Builtin.bitNot
  rw [decide_eq_false_iff_not]
  omega
theorem bitOr_nat (a b : Nat) : PySem.Builtin.bitOr (a : Int) (b : Int) = ((a ||| b : Nat) : Int) := by
  unfold PySem.Builtin.bitOr PySem.Builtin.bitAnd
  rw [bitNot_neg, bitNot_neg]
  dsimp only
  rw [bitNot2, bitNot2, bitNot2]
  rfl
theorem bitAnd_one (a : Nat) : PySem.Builtin.bitAnd (a : Int) 1 = ((a % 2 : Nat) : Int) := by
  unfold PySem.Builtin.bitAnd
  have h : decide (0 ≤ (a : Int)) = true := by simp
  rw [h]
  show (((a : Int).toNat &&& 1 : Nat) : Int) = _
  rw [Int.toNat_natCast, Nat.and_one_is_mod]
theorem BitsOf.bor {r q : Int} {P S : Nat → Bool} (h : BitsOf r P) (g : BitsOf q S) : BitsOf (PySem.Builtin.bitOr r q) (fun j => P j || S j) := by
  obtain ⟨a, rfl, ha⟩ := h
  obtain ⟨b, rfl, hb⟩ := g
  exact ⟨a ||| b, bitOr_nat a b, fun j => by rw [Nat.testBit_or, ha, hb]⟩
theorem BitsOf.bit {j : Nat} : BitsOf (1 * 2 ^ j) (fun i => decide (j = i)) := ⟨2 ^ j, by simp, fun i => by rw [Nat.testBit_two_pow]⟩
theorem BitsOf.test {r : Int} {P : Nat → Bool} (h : BitsOf r P) (j : Nat) : (PySem.Builtin.bitAnd (r / 2 ^ j) 1 == 1) = P j := by
  obtain ⟨a, rfl, ha⟩ := h
  have e : (a : Int) / 2 ^ j = ((a / 2 ^ j : Nat) : Int) := by simp
  rw [e, bitAnd_one, ← ha j, Nat.testBit_eq_decide_div_mod_eq]
  by_cases q : a / 2 ^ j % 2 = 1
  · rw [q]; rfl
  · have : a / 2 ^ j % 2 = 0 := by omega
    rw [this]; rfl
def IsRows (rows : List Int) (n : Nat) (R : Nat → Nat → Bool) : Prop := rows.length = n ∧ ∀ (i : Nat) r, rows[i]? = some r → BitsOf r (R i)
/-- one step of Warshall's way -/
def stp (R : Nat → Nat → Bool) (m : Nat) : Nat → Nat → Bool := fun a b => R a b || (R a m && R m b)
def warsh (n : Nat) (R : Nat → Nat → Bool) : Nat → Nat → Bool := (List.range n).foldl stp R
theorem warsh_succ {n : Nat} {R : Nat → Nat → Bool} : (List.range (n + 1)).foldl stp R = stp ((List.range n).foldl stp R) n := by
  rw [List.range_succ, List.foldl_append]
  rfl
def prt (R : Nat → Nat → Bool) (m k : Nat) : Nat → Nat → Bool := fun a b => if a < k then stp R m a b else R a b
theorem getE_int {rows : List Int} {k : Nat} (hk : k < rows.length) : L2.atI (rows.map D.int) (k : Int) = some (.int rows[k]) := by
  rw [atI_n, List.getElem?_map, List.getElem?_eq_getElem hk]
  rfl
def Icr (d : D) (n : Nat) (R : Nat → Nat → Bool) (k : Nat) (ρ : En) : Prop := ∃ rows x2 x3 x4, ρ = [.dt d, .dt (L1 .ow rows), x2, x3, x4] ∧ IsRows rows n ((List.range k).foldl stp R)
def Icr2 (d : D) (n m : Nat) (t : Int) (S : Nat → Nat → Bool) (k : Nat) (ρ : En) : Prop := ∃ rows x4, ρ = [.dt d, .dt (L1 .ow rows), .dt (.int m), .dt (.int t), x4] ∧ IsRows rows n (prt S m k)
theorem IsRows.set {rows : List Int} {n k : Nat} {R S : Nat → Nat → Bool} {r : Int} (h : IsRows rows n R) (hr : BitsOf r (S k)) (hs : ∀ i, i ≠ k → S i = R i) : IsRows (rows.set k r) n S := by
  refine ⟨by rw [List.length_set]; exact h.1, fun i q e => ?_⟩
  by_cases z : i = k
  · subst z
    rw [List.getElem?_set] at e
    split at e
    · split at e
      · cases e; exact hr
      · cases e
    · rename_i w; exact absurd rfl w
  · rw [List.getElem?_set_ne (fun w => z w.symm)] at e
    rw [hs i z]
    exact h.2 i q e
theorem IsRows.congr {rows : List Int} {n : Nat} {R S : Nat → Nat → Bool} (h : IsRows rows n R) (hs : ∀ i, i < n → S i = R i) : IsRows rows n S := by
  refine ⟨h.1, fun i q e => ?_⟩
  have hi : i < n := by rw [← h.1]; exact (List.getElem?_eq_some_iff.mp e).1
  rw [hs i hi]
  exact h.2 i q e
theorem closed_rows_w {o : Fl} {rows : List Int} {n : Nat} {R : Nat → Nat → Bool} {K : D → En → Prop} {E : XK0} (hn : n ≤ 1000) (h : IsRows rows n R) (h1 : ∀ rows', IsRows rows' n (warsh n R) → K (L1 .ow rows') [.un]) : resW (m_closed_rows [L1 o rows]) K E := by
  rw [m_closed_rows_def]
  refine resW_run rfl ?_
  unfold d_closed_rows
  have hl := h.1
  simp [post_seq, frm]
  refine ⟨by omega, for_inv (Icr (L1 o rows) n R) ⟨rows, _, _, _, rfl, h⟩ ?_ ?_⟩
  · rintro m d ρ hm ⟨rs, x2, x3, x4, rfl, hr⟩
    obtain ⟨hm1, rfl⟩ := rng_get hm
    have hrl := hr.1
    have hm2 : m < rs.length := by omega
    unfold d_closed_rows_b2
    have e := getE_int hm2
    simp [post_seq, e]
    refine ⟨by omega, for_inv (Icr2 (L1 o rows) n m rs[m] ((List.range m).foldl stp R)) ⟨rs, _, rfl, hr.congr fun i hi => by funext b; simp [prt]⟩ ?_ ?_⟩
    · rintro k d ρ hk ⟨qs, x4, rfl, hq⟩
      obtain ⟨hk1, rfl⟩ := rng_get hk
      have hql := hq.1
      have hk2 : k < qs.length := by omega
      have ek := getE_int hk2
      generalize hS : (List.range m).foldl stp R = S at *
      have hb := hq.2 k qs[k] (List.getElem?_eq_getElem hk2)
      have hthr := hr.2 m rs[m] (List.getElem?_eq_getElem hm2)
      have ht := hb.test m
      have e0 : prt S m k k = S k := by funext b; simp [prt]
      rw [e0] at ht hb
      unfold d_closed_rows_b4
      by_cases hc : S k m = true
      · rw [hc] at ht
        have ht' := eq_of_beq ht
        simp [ek, ht', hk2]
        have es : setAt (.int (k : Int)) (.int (PySem.Builtin.bitOr qs[k] rs[m])) (qs.map D.int) = some ((qs.set k (PySem.Builtin.bitOr qs[k] rs[m])).map D.int) := by
          rw [setAt_n, if_pos (by simp [hk2]), List.map_set]
        simp [es]
        refine ⟨qs.set k (PySem.Builtin.bitOr qs[k] rs[m]), .dt (.int k), by simp [List.map_set], hq.set ?_ fun i hi => ?_⟩
        · have := hb.bor hthr
          have e1 : prt S m (k + 1) k = fun j => S k j || S m j := by
            funext b; simp [prt, stp, hc]
          rw [e1]
          exact this
        · funext b
          have : (i < k + 1) = (i < k) := by apply propext; omega
          simp [prt, this]
      · have hc : S k m = false := by simpa using hc
        rw [hc] at ht
        have ht' : ¬ PySem.Builtin.bitAnd (qs[k] / 2 ^ m) 1 = 1 := fun z => by rw [z] at ht; cases ht
        simp [ek, ht']
        refine ⟨_, _, rfl, hq.congr fun i hi => ?_⟩
        funext b
        by_cases z : i = k
        · subst z; simp [prt, stp, hc]
        · have : (i < k + 1) = (i < k) := by apply propext; omega
          simp [prt, this]
    · rintro ρ ⟨qs, x4, rfl, hq⟩
      simp
      refine ⟨_, _, _, _, rfl, ?_⟩
      rw [warsh_succ]
      refine hq.congr fun i hi => ?_
      funext b
      have : i < rs.length := by omega
      simp [prt, this]
  · rintro ρ ⟨rs, x2, x3, x4, rfl, hr⟩
    simp
    refine h1 rs ?_
    rw [rng_len, hl] at hr
    exact hr
def ixs (n : Nat) : List D := (List.range n).map fun (i : Nat) => .int (i : Int)
def baseR (zs : List Str) (ps : List (Str × Str)) : Nat → Nat → Bool := fun a b => decide (a = b) || ps.any fun p => decide (zs.idxOf p.1 = a) && decide (zs.idxOf p.2 = b)
theorem look_ix {z : Str} : ∀ {zs : List Str} {k : Nat}, z ∈ zs → look z zs ((List.range' k zs.length).map fun (i : Nat) => D.int (i : Int)) = some (.int ((k + zs.idxOf z : Nat) : Int))
  | [], _, h => by cases h
  | y :: zs, k, h => by
    rw [List.length_cons, List.range'_succ, List.map_cons, look]
    by_cases e : z = y
    · subst e
      simp
    · have e' : ¬ (z == y) = true := by simpa using e
      rw [if_neg e', look_ix ((List.mem_cons.mp h).resolve_left e), List.idxOf_cons]
      have e2 : (y == z) = false := by simpa using fun q => e q.symm
      rw [e2]
      simp
      omega
theorem look_ixs {z : Str} {zs : List Str} (h : z ∈ zs) : look z zs (ixs zs.length) = some (.int (zs.idxOf z : Int)) := by
  unfold ixs
  rw [List.range_eq_range']
  have := look_ix (k := 0) h
  simpa using this
def Ipl (zs : List Str) (e : D) (k : Nat) (acc : List Str × List D) (ρ : En) : Prop := acc = (zs.take k, ixs k) ∧ ρ = [.dt (.tup (zs.map D.str)), .dt e, .un, .un, .un, .un, .un, .un]
def Irw (zs : List Str) (e pl : D) (k : Nat) (acc : List D) (ρ : En) : Prop := (∃ rows : List Int, acc = rows.map D.int ∧ rows.length = k ∧ ∀ (i : Nat) r, rows[i]? = some r → BitsOf r (fun b => decide (i = b))) ∧ ρ = [.dt (.tup (zs.map D.str)), .dt e, .un, .un, .dt pl, .un, .un, .un]
def Ipr (zs : List Str) (e : D) (ps : List (Str × Str)) (k : Nat) (ρ : En) : Prop := ∃ rows x2 x6 x7, ρ = [.dt (.tup (zs.map D.str)), .dt (mapF flLend e), x2, .un, .dt (.dct .ow zs (ixs zs.length)), .dt (L1 .ow rows), x6, x7] ∧ IsRows rows zs.length (baseR zs (ps.take k)) ∧ noBoAt [6, 1006, 7, 1007, 2, 1002, 5] ρ = true
theorem rows_of_w {e : D} {zs : List Str} {ps : List (Str × Str)} {K : D → En → Prop} {E : XK0} (he : SeqD e (ps.map pr2)) (hn : zs.length ≤ 1000) (hnd : zs.Nodup) (hps : ∀ p ∈ ps, p.1 ∈ zs ∧ p.2 ∈ zs)
    (h1 : ∀ rows, IsRows rows zs.length (warsh zs.length (baseR zs ps)) → K (.tup (rows.map D.int)) [.un, .un]) : resW (m_rows_of [.tup (zs.map D.str), e]) K E := by
  rw [m_rows_of_def]
  refine resW_run rfl ?_
  unfold d_rows_of
  rw [post_seq]
  simp [d_rows_of_s1, frm, post_dc, noOwAt]
  refine (dc_inv (Ipl zs e) ⟨by simp [ixs], rfl⟩ ?_).mp ?_ (fun _ _ _ _ z => z.elim)
  · rintro k acc d ρ hk ⟨rfl, rfl⟩
    rw [numb_get] at hk
    cases hz : (zs.map D.str)[k]? with
    | none => rw [hz] at hk; cases hk
    | some dd =>
      obtain ⟨hk1, rfl⟩ := getE_map hz
      rw [hz] at hk
      cases hk
      simp [lim]
      refine ⟨by omega, ?_, rfl⟩
      have hnin : zs[k] ∉ zs.take k := fun q => by
        obtain ⟨j, hj⟩ := List.getElem?_of_mem q
        have hj1 : j < (zs.take k).length := (List.getElem?_eq_some_iff.mp hj).1
        rw [List.length_take] at hj1
        rw [List.getElem?_take_of_lt (by omega)] at hj
        obtain ⟨h1, h2⟩ := List.getElem?_eq_some_iff.mp hj
        exact List.pairwise_iff_getElem.mp hnd j k h1 hk1 (by omega) h2
      unfold putD
      rw [if_neg hnin, List.take_append_getElem hk1]
      unfold ixs
      rw [List.range_succ, List.map_append]
      rfl
  · rintro acc ρ ⟨rfl, rfl⟩
    rw [numb_len, List.length_map, List.take_length]
    simp [rst]
    rw [post_seq]
    simp [d_rows_of_s2, post_lc, noOwAt]
    refine ⟨by omega, (lc_inv (Irw zs e (.dct .ow zs (ixs zs.length))) ⟨⟨[], rfl, rfl, by simp⟩, rfl⟩ ?_).mp ?_ (fun _ _ _ _ z => z.elim)⟩
    · rintro k acc d ρ hk ⟨⟨rows, rfl, hl, hb⟩, rfl⟩
      obtain ⟨hk1, rfl⟩ := rng_get hk
      simp [lim]
      refine ⟨by omega, by omega, ⟨rows ++ [1 * 2 ^ k], by simp, by simp [hl], fun i r hr => ?_⟩, rfl⟩
      rcases Nat.lt_or_ge i rows.length with q | q
      · rw [List.getElem?_append_left q] at hr
        exact hb i r hr
      · rw [List.getElem?_append_right q] at hr
        have : i - rows.length = 0 := by
          rcases Nat.eq_zero_or_pos (i - rows.length) with z | z
          · exact z
          · rw [List.getElem?_eq_none (by simp; omega)] at hr; cases hr
        rw [this] at hr
        cases hr
        have : i = k := by omega
        subst this
        exact BitsOf.bit
    · rintro acc ρ ⟨⟨rows, rfl, hl, hb⟩, rfl⟩
      rw [rng_len] at hl
      simp [rst]
      rw [post_seq]
      simp [d_rows_of_s3, he.items stb_pr2, he.noOw stb_pr2]
      refine for_inv (Ipr zs e ps) ⟨rows, _, _, _, rfl, ⟨by simpa using hl, fun i r hr => ?_⟩, by simp [noBoAt]⟩ ?_ ?_
      · have := hb i r hr
        have e1 : baseR zs (ps.take 0) i = fun b => decide (i = b) := by funext b; simp [baseR]
        rw [e1]
        exact this
      · rintro k dd ρ hk ⟨rs, x2, x6, x7, rfl, hr, hnb⟩
        obtain ⟨hk1, rfl⟩ := getE_map hk
        obtain ⟨m1, m2⟩ := hps _ (List.getElem_mem hk1)
        have htk : ps.take (k + 1) = ps.take k ++ [ps[k]] := (List.take_append_getElem hk1).symm
        generalize ps[k] = p at *
        have i1 : zs.idxOf p.1 < rs.length := by rw [hr.1]; exact List.idxOf_lt_length_of_mem m1
        have i2 : zs.idxOf p.2 < zs.length := List.idxOf_lt_length_of_mem m2
        have ea := getE_int i1
        have es : ∀ r : Int, setAt (.int (zs.idxOf p.1 : Int)) (.int r) (rs.map D.int) = some ((rs.set (zs.idxOf p.1) r).map D.int) := fun r => by
          rw [setAt_n, if_pos (by simp [i1]), List.map_set]
        unfold d_rows_of_b3
        simp [post_seq, look_ixs m1, look_ixs m2, ea, es]
        refine ⟨by omega, ?_⟩
        refine ⟨rs.set (zs.idxOf p.1) (PySem.Builtin.bitOr rs[zs.idxOf p.1] (1 * 2 ^ zs.idxOf p.2)), .dt (.int (zs.idxOf p.1 : Int)), .dt (.str p.1), .dt (.str p.2), by simp [List.map_set], hr.set ?_ fun i hi => ?_, by rw [← List.map_set]; simp [noBoAt, -List.map_set]⟩
        · have b1 := (hr.2 _ _ (List.getElem?_eq_getElem i1)).bor (BitsOf.bit (j := zs.idxOf p.2))
          have e1 : baseR zs (ps.take (k + 1)) (zs.idxOf p.1) = fun j => baseR zs (ps.take k) (zs.idxOf p.1) j || decide (zs.idxOf p.2 = j) := by
            funext j
            rw [htk]
            simp [baseR, Bool.or_assoc]
          rw [e1]
          exact b1
        · funext b
          have hi' : ¬ zs.idxOf p.1 = i := fun z => hi z.symm
          rw [htk]
          simp [baseR, hi']
      · rintro ρ ⟨rs, x2, x6, x7, rfl, hr, hnb⟩
        rw [List.length_map, List.take_length] at hr
        simp [hnb, flwOk]
        simp [d_rows_of_s4]
        refine closed_rows_w hn hr fun rows' hr' => ?_
        simp
        exact h1 rows' hr'

abbrev ordD (o : Fl) (zs : List Str) (rows : List Int) : D := .obj o "Order" ["names", "rows"] [.tup (zs.map D.str), .tup (rows.map D.int)]
theorem firstBad_none : ∀ {zs sn : List Str}, firstBad sn zs = none → (∀ z ∈ zs, goodN z = true) ∧ zs.Nodup ∧ ∀ z ∈ zs, z ∉ sn
  | [], _, _ => ⟨by simp, .nil, by simp⟩
  | z :: zs, sn, h => by
    unfold firstBad at h
    split at h
    · cases h
    · rename_i hg
      split at h
      · cases h
      · rename_i hm
        obtain ⟨h1, h2, h3⟩ := firstBad_none h
        refine ⟨fun y hy => ?_, List.nodup_cons.mpr ⟨fun q => ?_, h2⟩, fun y hy => ?_⟩
        · rcases List.mem_cons.mp hy with rfl | q
          · simpa using hg
          · exact h1 y q
        · exact h3 z q (List.mem_append.mpr (.inr (List.mem_singleton.mpr rfl)))
        · rcases List.mem_cons.mp hy with rfl | q
          · exact hm
          · exact fun w => h3 y q (List.mem_append.mpr (.inl w))
theorem firstUnk_none {zs : List Str} : ∀ {ps : List (Str × Str)}, (∀ p ∈ ps, p.1 ∈ zs ∧ p.2 ∈ zs) → firstUnk zs (flatP ps) = none
  | [], _ => rfl
  | p :: ps, h => by
    obtain ⟨h1, h2⟩ := h p (by simp)
    rw [flatP, firstUnk, firstUnk, if_pos h1, if_pos h2]
    exact firstUnk_none fun q hq => h q (by simp [hq])
theorem outs_03 {d : D} {x y : Sl} {r : En} (h : allF noBo d = true) : outs [0] 3 (.dt d :: x :: y :: r) = [.dt d, .un, .un] := by
  simp [outs, List.range_succ, h]
theorem ne_nr : ¬ (Str.ofString "names" = Str.ofString "rows") := by decide +kernel
theorem order_w {d e : D} {zs : List Str} {ps : List (Str × Str)} {K : D → En → Prop} {E : XK0} (hd : SeqD d (zs.map D.str)) (he : SeqD e (ps.map pr2)) (hl : ∀ z ∈ zs, z.length ≤ lim)
    (h1 : ∀ rows, zs.length ≤ 12 → firstBad [] zs = none → (∀ p ∈ ps, p.1 ∈ zs ∧ p.2 ∈ zs) → IsRows rows zs.length (warsh zs.length (baseR zs ps)) → K (ordD .ow zs rows) [.un, .un])
    (h2 : 12 < zs.length → E "Full" ["most"] [.int 12] [.un, .un])
    (h3 : ∀ c z, zs.length ≤ 12 → firstBad [] zs = some (c, z) → E c ["name"] [.str z] [.un, .un])
    (h4 : ∀ n, zs.length ≤ 12 → firstBad [] zs = none → firstUnk zs (flatP ps) = some n → E "UnknownMake" ["name"] [.str n] [.un, .un]) :
    mkW (m_Order___init__ [.obj .ow "Order" [] [], d, e]) K E := by
  rw [m_Order___init___def]
  refine mkW_of (resW_run rfl ?_)
  unfold d_Order___init__
  rw [post_seq]
  simp [d_Order___init___s1, frm]
  refine check_makes_w (hd.lend stb_strs) hl (.inr trivial) (fun hn hb => ?_) (fun hn => ?_) (fun c z hn hb => ?_)
  · rw [post_seq]
    simp [d_Order___init___s2]
    refine check_pairs_w (hd.lend stb_strs) (he.lend stb_pr2) (fun hall => ?_) (fun n hu => ?_)
    · rw [post_seq]
      obtain ⟨hg, hnd, _⟩ := firstBad_none hb
      have key : ∀ o : D, o = .obj .ow "Order" ["names"] [.tup (zs.map D.str)] → Post (flK [0] 3 fun d os => d = .non ∧ ∃ o os', os = .dt o :: os' ∧ K o os') (fun c ks xs ρ => ∃ s os', outs [0] 3 ρ = s :: os' ∧ E c ks xs os') (d_Order___init___s4 [.dt o, .dt d, .dt e]) := by
        rintro o rfl
        simp [d_Order___init___s4, pFld_o, look]
        refine rows_of_w (he.lend stb_pr2) (by omega) hnd hall fun rows hr => ?_
        simp [putL, ne_nr]
        rw [outs_03 (by simp)]
        exact ⟨_, _, rfl, h1 rows hn hb hall hr⟩
      rcases hd.tup stb_strs with q | q
      · simp [d_Order___init___s3, q, putL]
        exact key _ rfl
      · simp [d_Order___init___s3, q, putL]
        exact key _ rfl
    · rw [outs_03 (by simp)]
      exact ⟨_, _, rfl, h4 n hn hb hu⟩
  · rw [outs_03 (by simp)]
    exact ⟨_, _, rfl, h2 hn⟩
  · rw [outs_03 (by simp)]
    exact ⟨_, _, rfl, h3 c z hn hb⟩

theorem str_app {a b : Str} : (a ++ b).cps.toList = a.cps.toList ++ b.cps.toList := by
  show (a.cps ++ b.cps).toList = _
  simp
theorem str_len {a b : Str} : (a ++ b).length = a.length + b.length := by
  show (a.cps ++ b.cps).size = _
  simp [Str.length]
theorem str_len2 {a : Str} : a.length = a.cps.toList.length := by simp [Str.length]
def wx (w : Str) : Nat → Str
  | 0 => w
  | j + 1 => wx w j ++ "x"
theorem wx_len {w : Str} : ∀ {j : Nat}, (wx w j).length = w.length + j
  | 0 => rfl
  | j + 1 => by
    rw [wx, str_len, wx_len]
    rfl
theorem nodup_len {α : Type} [BEq α] [LawfulBEq α] : ∀ {l zs : List α}, l.Nodup → (∀ x ∈ l, x ∈ zs) → l.length ≤ zs.length
  | [], _, _, _ => Nat.zero_le _
  | x :: l, zs, hn, h => by
    obtain ⟨h1, h2⟩ := List.nodup_cons.mp hn
    have hx := h x (by simp)
    have := nodup_len (l := l) (zs := zs.erase x) h2 fun y hy => (List.mem_erase_of_ne fun e => h1 (by rw [← e]; exact hy)).mpr (h y (by simp [hy]))
    rw [List.length_erase_of_mem hx] at this
    have hpos : 0 < zs.length := List.length_pos_of_mem hx
    rw [List.length_cons]
    omega
theorem wx_nodup {w : Str} {n : Nat} : ((List.range n).map (wx w)).Nodup := by
  unfold List.Nodup
  rw [List.pairwise_map]
  refine List.Pairwise.imp ?_ (List.nodup_range (n := n))
  intro a b hab e
  have := congrArg Str.length e
  rw [wx_len, wx_len] at this
  omega
/-- letters alone -/
def Lets (z : Str) : Prop := ∀ c ∈ z.cps.toList, c ∈ abc.cps.toList
theorem lets_app {a b : Str} (ha : Lets a) (hb : Lets b) : Lets (a ++ b) := fun c hc => by
  rw [str_app] at hc
  exact (List.mem_append.mp hc).elim (ha c) (hb c)
theorem lets_wx {w : Str} (h : Lets w) : ∀ {j : Nat}, Lets (wx w j)
  | 0 => h
  | j + 1 => lets_app (lets_wx h) (by unfold Lets; decide +kernel)
theorem good_lets {z : Str} (h1 : 1 ≤ z.length) (h2 : z.length ≤ 12) (h : Lets z) : goodN z = true := good_of h1 h2 fun j c _ hc => h c (List.mem_of_getElem? hc)
/-- a name is short or ends with an x -/
def EndX (z : Str) : Prop := z.length ≤ 4 ∨ ∃ w : Str, z = w ++ "x"
theorem wx_end {w : Str} (h : w.length ≤ 4) : ∀ {j : Nat}, EndX (wx w j)
  | 0 => .inl h
  | j + 1 => .inr ⟨wx w j, rfl⟩
theorem EndX.no {z : Str} {c : Nat} {r : List Nat} (h : EndX z) (e : z.cps.toList = r ++ [c]) (hl : 4 ≤ r.length) (hc : c ≠ 120) : False := by
  rcases h with h | ⟨w, rfl⟩
  · rw [str_len2, e] at h
    simp at h
    omega
  · rw [str_app, show (Str.ofString "x").cps.toList = [120] by decide +kernel] at e
    have := congrArg List.getLast? e
    simp at this
    exact hc this.symm
def NameP (zs : List Str) (z : Str) : Prop := 1 ≤ z.length ∧ z.length ≤ 4 + zs.length ∧ Lets z ∧ z ∉ zs ∧ EndX z
def Iln (o : Fl) (zs : List Str) (k : Nat) (ρ : En) : Prop := ∃ d w x, BoxP d ∧ w.length = k ∧ Lets w ∧ ρ = [.dt d, .dt (.lst o (zs.map D.str)), .dt (.str abc), .dt (.str w), x]
def Iln2 (d : D) (o : Fl) (zs : List Str) (w : Str) (k : Nat) (ρ : En) : Prop := ∃ j x, j ≤ k ∧ ((j = k ∧ ∀ i, i < k → wx w i ∈ zs) ∨ wx w j ∉ zs) ∧ ρ = [.dt d, .dt (.lst o (zs.map D.str)), .dt (.str abc), .dt (.str (wx w j)), x]
theorem law_name_w {d : D} {o : Fl} {zs : List Str} {K : D → En → Prop} {E : XK0} (hd : BoxP d) (hn : zs.length ≤ 1000) (hK : ∀ z d', NameP zs z → BoxP d' → K (.str z) [.dt d', .un]) : resW (m_law_name [d, .lst o (zs.map D.str)]) K E := by
  rw [m_law_name_def]
  refine resW_run rfl ?_
  unfold d_law_name
  rw [post_seq]
  simp [d_law_name_s1, frm]
  rw [post_seq]
  simp [d_law_name_s2]
  rw [post_seq]
  simp [d_law_name_s3]
  refine take_w hd (by omega) (by omega) fun r d1 r0 r1 hd1 => ?_
  simp
  have hl0 : Lets "" := by unfold Lets; decide +kernel
  refine ⟨by omega, for_inv (Iln o zs) ⟨d1, "", _, hd1, by decide +kernel, hl0, rfl⟩ ?_ ?_⟩
  · rintro k dd ρ hk ⟨d2, w, x, hd2, hw, hlw, rfl⟩
    obtain ⟨hk1, rfl⟩ := rng_get hk
    unfold d_law_name_b3
    simp
    refine take_w hd2 (by omega) (by omega) fun i d3 i0 i1 hd3 => ?_
    obtain ⟨m, rfl⟩ : ∃ m : Nat, i = (m : Int) := ⟨i.toNat, by omega⟩
    have hm : m < abc.cps.toList.length := by
      have : abc.cps.toList.length = 26 := by decide +kernel
      omega
    obtain ⟨c, e, hc⟩ : ∃ c, L2.atI abc.cps.toList (m : Int) = some c ∧ c ∈ abc.cps.toList := ⟨abc.cps.toList[m], by rw [atI_n, List.getElem?_eq_getElem hm], List.getElem_mem hm⟩
    have hab : abc.length ≤ lim := by decide +kernel
    have hsg : Lets ⟨#[c]⟩ := fun y hy => by
      rw [List.mem_singleton.mp hy]
      exact hc
    have hl1 : (⟨#[c]⟩ : Str).length = 1 := rfl
    simp [e, hab]
    refine ⟨by rw [hl1]; unfold lim; omega, ?_⟩
    exact ⟨d3, w ++ ⟨#[c]⟩, _, hd3, by rw [str_len, hl1, hw], lets_app hlw hsg, rfl⟩
  · rintro ρ ⟨d2, w, x, hd2, hw, hlw, rfl⟩
    simp at hw
    simp
    rw [post_seq]
    simp [d_law_name_s4]
    refine ⟨by omega, for_inv (Iln2 d2 o zs w) ⟨0, _, by omega, .inl ⟨rfl, by omega⟩, rfl⟩ ?_ ?_⟩
    · rintro k dd ρ hk ⟨j, x, hj, hor, rfl⟩
      obtain ⟨hk1, rfl⟩ := rng_get hk
      unfold d_law_name_b5
      by_cases hm : wx w j ∈ zs
      · rcases hor with ⟨rfl, hall⟩ | hno
        · have hlx : (Str.ofString "x").length = 1 := by decide +kernel
          simp [hm, wx_len, hlx]
          refine ⟨by unfold lim; omega, j + 1, _, by omega, .inl ⟨rfl, fun i hi => ?_⟩, rfl⟩
          rcases Nat.lt_or_ge i j with q | q
          · exact hall i q
          · have : i = j := by omega
            subst this; exact hm
        · exact absurd hm hno
      · simp [hm]
        exact ⟨j, _, by omega, .inr hm, rfl⟩
    · rintro ρ ⟨j, x, hj, hor, rfl⟩
      rw [rng_len] at hj hor
      have hj' : j ≤ zs.length := by simpa using hj
      have hno : wx w j ∉ zs := by
        rcases hor with ⟨e, hall⟩ | hno
        · intro hm
          have hsub : ∀ y ∈ (List.range (zs.length + 1)).map (wx w), y ∈ zs := fun y hy => by
            obtain ⟨i, hi, rfl⟩ := List.mem_map.mp hy
            rw [List.mem_range] at hi
            rcases Nat.lt_or_ge i j with q | q
            · exact hall i (by rw [← e]; exact q)
            · have : i = j := by omega
              subst this; exact hm
          have := nodup_len wx_nodup hsub
          simp at this
          omega
        · exact hno
      simp [d_law_name_s5]
      rw [outs_02 hd2.noBo]
      refine hK _ _ ⟨?_, ?_, lets_wx hlw, hno, wx_end (by omega)⟩ hd2
      · rw [wx_len]; omega
      · rw [wx_len]; omega

/-- drawn names -/
structure NamesP (zs : List Str) : Prop where
  nd : zs.Nodup
  le : zs.length ≤ 8
  g : ∀ z ∈ zs, goodN z = true
  l : ∀ z ∈ zs, z.length ≤ 12
  x : ∀ z ∈ zs, EndX z
theorem NamesP.lim {zs : List Str} (h : NamesP zs) : ∀ z ∈ zs, z.length ≤ Cs.lim := fun z hz => Nat.le_trans (h.l z hz) (by decide)
theorem good_none : ∀ {zs sn : List Str}, (∀ z ∈ zs, goodN z = true) → zs.Nodup → (∀ z ∈ zs, z ∉ sn) → firstBad sn zs = none
  | [], _, _, _, _ => rfl
  | z :: zs, sn, h1, h2, h3 => by
    obtain ⟨n1, n2⟩ := List.nodup_cons.mp h2
    rw [firstBad, if_neg (by rw [h1 z (by simp)]; simp), if_neg (h3 z (by simp))]
    refine good_none (fun y hy => h1 y (by simp [hy])) n2 fun y hy hm => ?_
    rcases List.mem_append.mp hm with q | q
    · exact h3 y (by simp [hy]) q
    · rw [List.mem_singleton.mp q] at hy
      exact n1 hy
theorem NamesP.none {zs : List Str} (h : NamesP zs) : firstBad [] zs = Option.none := good_none h.g h.nd (by simp)
def Ins (n : Nat) (k : Nat) (ρ : En) : Prop := ∃ (d : D) (zs : List Str) (x : Sl), BoxP d ∧ zs.length = k ∧ NamesP zs ∧ ρ = [.dt d, .dt (.int n), .dt (.lst .ow (zs.map D.str)), x]
theorem NamesP.snoc {zs : List Str} {z : Str} (h : NamesP zs) (hl : zs.length < 8) (hz : NameP zs z) : NamesP (zs ++ [z]) := by
  obtain ⟨h1, h2, h3, h4, h5⟩ := hz
  refine ⟨List.nodup_append.mpr ⟨h.nd, by simp, fun a ha b hb e => ?_⟩, by simp; omega, fun y hy => ?_, fun y hy => ?_, fun y hy => ?_⟩
  · rw [List.mem_singleton.mp hb] at e
    exact h4 (by rw [← e]; exact ha)
  · rcases List.mem_append.mp hy with q | q
    · exact h.g y q
    · rw [List.mem_singleton.mp q]; exact good_lets h1 (by omega) h3
  · rcases List.mem_append.mp hy with q | q
    · exact h.l y q
    · rw [List.mem_singleton.mp q]; omega
  · rcases List.mem_append.mp hy with q | q
    · exact h.x y q
    · rw [List.mem_singleton.mp q]; exact h5
theorem names_w {d : D} {n : Nat} {K : D → En → Prop} {E : XK0} (hd : BoxP d) (hn : n ≤ 8) (hK : ∀ (zs : List Str) d', zs.length = n → NamesP zs → BoxP d' → K (.lst .ow (zs.map D.str)) [.dt d', .un]) : resW (m_law_names [d, .int n]) K E := by
  rw [m_law_names_def]
  refine resW_run rfl ?_
  unfold d_law_names
  simp [post_seq, frm, lim]
  refine ⟨by omega, for_inv (Ins n) ⟨d, [], _, hd, rfl, ⟨.nil, by simp, by simp, by simp, by simp⟩, rfl⟩ ?_ ?_⟩
  · rintro k dd ρ hk ⟨d2, zs, x, hd2, hl, hz, rfl⟩
    obtain ⟨hk1, rfl⟩ := rng_get hk
    unfold d_law_names_b2
    simp
    refine law_name_w hd2 (by omega) fun z d3 hz3 hd3 => ?_
    simp [lim]
    exact ⟨by omega, d3, zs ++ [z], _, hd3, by simp [hl], hz.snoc (by omega) hz3, by simp; rfl⟩
  · rintro ρ ⟨d2, zs, x, hd2, hl, hz, rfl⟩
    simp at hl
    simp
    rw [outs_02 hd2.noBo]
    exact hK zs d2 hl hz hd2

abbrev ip (q : Nat × Nat) : D := .tup [.int q.1, .int q.2]
theorem allFs_ip {p : Fl → Bool} : ∀ {qs : List (Nat × Nat)}, allFs p (qs.map ip) = true
  | [] => rfl
  | q :: qs => by rw [List.map_cons, allFs, allFs_ip]; rfl
theorem mapFs_ip {g : Fl → Fl} : ∀ {qs : List (Nat × Nat)}, mapFs g (qs.map ip) = qs.map ip
  | [] => by rw [List.map_nil, mapFs]
  | q :: qs => by rw [List.map_cons, mapFs, mapFs_ip, mapF_t, mapFs, mapFs, mapFs, mapF_int, mapF_int]
def QsP (n : Nat) (qs : List (Nat × Nat)) : Prop := ∀ q ∈ qs, q.1 < n ∧ q.2 < n
/-- the pairs by their names -/
def nmd (zs : List Str) (q : Nat × Nat) : Str × Str := (zs.getD q.1 "", zs.getD q.2 "")
theorem at_str {zs : List Str} {i : Nat} (h : i < zs.length) : L2.atI (zs.map D.str) (i : Int) = some (.str (zs.getD i "")) := by
  rw [atI_n, List.getElem?_map, List.getElem?_eq_getElem h, List.getD_eq_getElem?_getD, List.getElem?_eq_getElem h]
  rfl
def nms (zs : List Str) (qs : List (Nat × Nat)) : List (Str × Str) := qs.map (nmd zs)

def Idp (n c : Nat) (k : Nat) (ρ : En) : Prop := ∃ (d : D) (qs : List (Nat × Nat)) (x4 x5 : Sl), BoxP d ∧ qs.length = k ∧ QsP n qs ∧ ρ = [.dt d, .dt (.int n), .dt (.int c), .dt (.lst .ow (qs.map ip)), x4, x5]
theorem drawn_e {d : D} {n c : Nat} {ni ci : Int} {K : D → En → Prop} {E : XK0} (hd : BoxP d) (hni : (n : Int) = ni) (hci : (c : Int) = ci) (hn : n ≤ 1000) (hc : c ≤ 1000) (hK : ∀ (qs : List (Nat × Nat)) d', qs.length = c * min n 1 → QsP n qs → BoxP d' → K (.lst .ow (qs.map ip)) [.dt d', .un, .un]) : resW (m_law_drawn_pairs [d, .int ni, .int ci]) K E := by
  rw [m_law_drawn_pairs_def]
  refine resW_run rfl ?_
  subst hni hci
  unfold d_law_drawn_pairs
  have hmin : pMin (.int (n : Int)) (.int 1) = .sc (.int ((min n 1 : Nat) : Int)) := by
    unfold pMin
    dsimp only
    by_cases h : (1 : Int) < (n : Int)
    · rw [if_pos h]; congr 2; omega
    · rw [if_neg h]; congr 2; omega
  have hmul : (c : Int) * ((min n 1 : Nat) : Int) = ((c * min n 1 : Nat) : Int) := by simp
  have hle : c * min n 1 ≤ c := by
    rcases Nat.eq_zero_or_pos n with h | h
    · subst h; simp
    · rw [Nat.min_eq_right h]; simp
  have hr1 : (-(2 ^ 64) < (c : Int) ∧ (c : Int) < 2 ^ 64) := by omega
  have hmul2 : pMul (.int (c : Int)) (.int ((min n 1 : Nat) : Int)) = .sc (.int ((c * min n 1 : Nat) : Int)) := by
    rw [pMul_i, if_pos (.inl hr1), hmul]
  simp only [post_seq, frm, post_asg, post_lst, post_nil, List.map, List.replicate, List.append, seqK_nx, post_for, post_rg1, post_op2vv, post_cp, post_ret]
  simp [lim, hmin, hmul2]
  refine ⟨by omega, for_inv (Idp n c) ⟨d, [], _, _, hd, rfl, by simp [QsP], rfl⟩ ?_ ?_⟩
  · rintro k dd ρ hk ⟨d2, qs, x4, x5, hd2, hl, hq, rfl⟩
    obtain ⟨hk1, rfl⟩ := rng_get hk
    have hpos : 0 < n := by
      rcases Nat.eq_zero_or_pos n with h | h
      · subst h; simp at hk1
      · exact h
    unfold d_law_drawn_pairs_b2
    simp [post_seq]
    refine take_w hd2 (by omega) (by omega) fun i d3 i0 i1 hd3 => ?_
    simp
    refine take_w hd3 (by omega) (by omega) fun j d4 j0 j1 hd4 => ?_
    obtain ⟨a, rfl⟩ : ∃ m : Nat, i = (m : Int) := ⟨i.toNat, by omega⟩
    obtain ⟨b, rfl⟩ : ∃ m : Nat, j = (m : Int) := ⟨j.toNat, by omega⟩
    simp [lim]
    refine ⟨by omega, d4, qs ++ [(a, b)], _, _, hd4, by simp [hl], fun q hq' => ?_, by simp; exact ⟨rfl, rfl⟩⟩
    rcases List.mem_append.mp hq' with z | z
    · exact hq q z
    · rw [List.mem_singleton.mp z]; exact ⟨by omega, by omega⟩
  · rintro ρ ⟨d2, qs, x4, x5, hd2, hl, hq, rfl⟩
    rw [rng_len] at hl
    simp
    rw [outs_03 hd2.noBo]
    exact ⟨allFs_ip, hK qs d2 hl hq hd2⟩
theorem drawn_w {d : D} {n c : Nat} {ni ci : Int} {K : D → En → Prop} {E : XK0} (hd : BoxP d) (hni : (n : Int) = ni) (hci : (c : Int) = ci) (hn : n ≤ 1000) (hc : c ≤ 1000) (hK : ∀ (qs : List (Nat × Nat)) d', qs.length ≤ c → QsP n qs → BoxP d' → K (.lst .ow (qs.map ip)) [.dt d', .un, .un]) : resW (m_law_drawn_pairs [d, .int ni, .int ci]) K E :=
  drawn_e hd hni hci hn hc fun qs d' hl => hK qs d' (by
    rcases Nat.eq_zero_or_pos n with h | h
    · subst h
      have : c * min 0 1 = 0 := by simp
      omega
    · have : c * min n 1 = c := by rw [Nat.min_eq_right h, Nat.mul_one]
      omega)

def Inm (zs : List Str) (qs : List (Nat × Nat)) (o1 o2 : Fl) (k : Nat) (acc : List D) (ρ : En) : Prop := acc = (nms zs (qs.take k)).map pr2 ∧ ρ = [.dt (.lst o1 (zs.map D.str)), .dt (.lst o2 (qs.map ip)), .un]
theorem named_w {o1 o2 : Fl} {zs : List Str} {qs : List (Nat × Nat)} {K : D → En → Prop} {E : XK0} (hq : QsP zs.length qs) (hl : qs.length ≤ 1000) (h : K (.lst .ow ((nms zs qs).map pr2)) [.un, .un]) : resW (m_law_named [.lst o1 (zs.map D.str), .lst o2 (qs.map ip)]) K E := by
  rw [m_law_named_def]
  refine resW_run rfl ?_
  unfold d_law_named
  have hno : noOw (flLend o2) = true := by cases o2 <;> rfl
  simp [frm, mapFs_ip, allFs_ip, hno, post_lc, noOwAt]
  refine (lc_inv (Inm zs qs o1 (flLend o2)) ⟨by simp [nms], rfl⟩ ?_).mp ?_ (fun _ _ _ _ z => z.elim)
  · rintro k acc d ρ hk ⟨rfl, rfl⟩
    obtain ⟨hk1, rfl⟩ := getE_map hk
    obtain ⟨q1, q2⟩ := hq _ (List.getElem_mem hk1)
    have htk : qs.take (k + 1) = qs.take k ++ [qs[k]] := (List.take_append_getElem hk1).symm
    generalize qs[k] = q at *
    simp [at_str q1, at_str q2, lim]
    refine ⟨by simp [nms]; omega, ?_, rfl⟩
    rw [htk]
    simp [nms, nmd]
  · rintro acc ρ ⟨rfl, rfl⟩
    rw [List.length_map, List.take_length]
    simp [rst, noBoAt, flwOk]
    exact h

abbrev bls (n : Nat) (P : Nat → Bool) : List D := (List.range n).map fun b => D.bl (P b)
abbrev matL (p : Fl) (n k : Nat) (R : Nat → Nat → Bool) : List D := (List.range k).map fun a => D.lst p (bls n (R a))
abbrev matD (o p : Fl) (n : Nat) (R : Nat → Nat → Bool) : D := .lst o (matL p n n R)
def baseQ (qs : List (Nat × Nat)) : Nat → Nat → Bool := fun a b => decide (a = b) || qs.any fun q => decide (q.1 = a) && decide (q.2 = b)
theorem allFs_bls {p : Fl → Bool} {P : Nat → Bool} : ∀ {n : Nat}, allFs p (bls n P) = true
  | 0 => rfl
  | n + 1 => by
    show allFs p ((List.range (n + 1)).map _) = true
    rw [List.range_succ, List.map_append, allFs_append, allFs_bls]
    rfl
theorem mapFs_bls {g : Fl → Fl} {P : Nat → Bool} : ∀ {n : Nat}, mapFs g (bls n P) = bls n P
  | 0 => by
    show mapFs g [] = []
    rw [mapFs]
  | n + 1 => by
    show mapFs g ((List.range (n + 1)).map _) = (List.range (n + 1)).map _
    rw [List.range_succ, List.map_append, mapFs_append, mapFs_bls]
    simp
theorem mapFs_mat {g : Fl → Fl} {p : Fl} {n : Nat} {R : Nat → Nat → Bool} : ∀ {k : Nat}, mapFs g (matL p n k R) = matL (g p) n k R
  | 0 => by
    show mapFs g [] = []
    rw [mapFs]
  | k + 1 => by
    show mapFs g ((List.range (k + 1)).map _) = (List.range (k + 1)).map _
    rw [List.range_succ, List.map_append, List.map_append, mapFs_append, mapFs_mat, List.map_singleton, List.map_singleton, mapFs_cns, mapFs_nil, mapF_l, mapFs_bls]
theorem allFs_mat {p : Fl → Bool} {q : Fl} {n : Nat} {R : Nat → Nat → Bool} (h : p q = true) : ∀ {k : Nat}, allFs p (matL q n k R) = true
  | 0 => rfl
  | k + 1 => by
    show allFs p ((List.range (k + 1)).map _) = true
    rw [List.range_succ, List.map_append, allFs_append, allFs_mat h, List.map_singleton, allFs_cns, allFs_nil, allF_l, h, allFs_bls]
    rfl
theorem bls_get {n i : Nat} {P : Nat → Bool} (h : i < n) : (bls n P)[i]? = some (.bl (P i)) := by simp [h]
theorem mat_get {p : Fl} {n k i : Nat} {R : Nat → Nat → Bool} (h : i < k) : (matL p n k R)[i]? = some (.lst p (bls n (R i))) := by simp [h]
theorem mat_at {p : Fl} {n k i : Nat} {R : Nat → Nat → Bool} (h : i < k) : L2.atI (matL p n k R) (i : Int) = some (.lst p (bls n (R i))) := by rw [atI_n, mat_get h]
theorem bls_at {n i : Nat} {P : Nat → Bool} (h : i < n) : L2.atI (bls n P) (i : Int) = some (.bl (P i)) := by rw [atI_n, bls_get h]
theorem bls_len {n : Nat} {P : Nat → Bool} : (bls n P).length = n := by simp
theorem mat_len {p : Fl} {n k : Nat} {R : Nat → Nat → Bool} : (matL p n k R).length = k := by simp
theorem mat_congr {p : Fl} {n k : Nat} {R S : Nat → Nat → Bool} (h : ∀ i, i < k → ∀ j, j < n → R i j = S i j) : matL p n k R = matL p n k S := by
  apply List.map_congr_left
  intro i hi
  have hi := List.mem_range.mp hi
  congr 1
  apply List.map_congr_left
  intro j hj
  rw [h i hi j (List.mem_range.mp hj)]
def upR (R : Nat → Nat → Bool) (a b : Nat) : Nat → Nat → Bool := fun i j => R i j || (decide (i = a) && decide (j = b))
theorem mat_set {n a b : Nat} {R : Nat → Nat → Bool} (ha : a < n) (hb : b < n) : setAt2 (.int (a : Int)) (.int (b : Int)) (.bl true) (matL .ow n n R) = some (matL .ow n n (upR R a b)) := by
  unfold setAt2
  rw [inner_n (mat_get ha) allFs_bls]
  dsimp only [Option.bind_some]
  rw [setAt_n, if_pos ⟨by rw [bls_len]; exact hb, allFs_bls, rfl⟩]
  dsimp only [Option.map_some]
  congr 1
  apply List.ext_getElem?
  intro i
  by_cases hi : i < n
  · rw [mat_get hi, List.getElem?_set]
    by_cases e : a = i
    · subst e
      rw [if_pos rfl, if_pos (by rw [mat_len]; exact hi)]
      congr 2
      apply List.ext_getElem?
      intro j
      by_cases hj : j < n
      · rw [bls_get hj, List.getElem?_set]
        by_cases e2 : b = j
        · subst e2
          rw [if_pos rfl, if_pos (by rw [bls_len]; exact hj)]
          simp [upR]
        · rw [if_neg e2, bls_get hj]
          have : ¬ j = b := fun z => e2 z.symm
          simp [upR, this]
      · rw [List.getElem?_eq_none (by rw [List.length_set, bls_len]; omega), List.getElem?_eq_none (by rw [bls_len]; omega)]
    · rw [if_neg e, mat_get hi]
      have : ¬ i = a := fun z => e z.symm
      have e3 : upR R a b i = R i := by funext j; simp [upR, this]
      rw [e3]
  · rw [List.getElem?_eq_none (by rw [List.length_set, mat_len]; omega), List.getElem?_eq_none (by rw [mat_len]; omega)]
theorem mat_in {n a : Nat} {R : Nat → Nat → Bool} (ha : a < n) : inner (.int (a : Int)) (matL .ow n n R) = some (a, bls n (R a)) := inner_n (mat_get ha) allFs_bls
@[simp] theorem post_truv {f : M D} {Q : Bool → En → Prop} {X : XK0} {ρ : En} : Post Q X (dTru (.v f) ρ) = Post (fun d ρ1 => opW (tru d) fun b => Q b ρ1) X (f ρ) := by
  unfold dTru
  rw [post_bnd]
  congr 1
  funext d ρ1
  cases tru d <;> rfl
@[simp] theorem tru_bl {b : Bool} : tru (.bl b) = some b := rfl

/-- slots of the closure -/
def Ecl (n : Nat) (e : D) (m : D) (x3 x4 x5 x6 : Sl) : En := [.dt (.int n), .dt e, .dt m, x3, x4, x5, x6]
def Ic1 (n : Nat) (e : D) (k : Nat) (ρ : En) : Prop := ∃ x3, ρ = Ecl n e (.lst .ow (matL .ow n k fun a b => decide (a = b))) x3 .un .un .un
def Ic1b (n k : Nat) (e m : D) (j : Nat) (acc : List D) (ρ : En) : Prop := acc = bls j (fun b => decide (k = b)) ∧ ρ = Ecl n e m (.dt (.int k)) .un .un .un
def Ic2 (n : Nat) (e : D) (qs : List (Nat × Nat)) (x3 : Sl) (k : Nat) (ρ : En) : Prop := ∃ x5, ρ = Ecl n e (matD .ow .ow n (baseQ (qs.take k))) x3 .un x5 .un ∧ noBoAt [5, 1005, 2] ρ = true
def prtQ (S : Nat → Nat → Bool) (m a k : Nat) : Nat → Nat → Bool := fun i j => if i < a then stp S m i j else if i = a then (S i j || (decide (j < k) && (S i m && S m j))) else S i j
def Ic3 (n : Nat) (e : D) (R : Nat → Nat → Bool) (x5 : Sl) (k : Nat) (ρ : En) : Prop := ∃ x3 x4 x6, ρ = Ecl n e (matD .ow .ow n ((List.range k).foldl stp R)) x3 x4 x5 x6
def Ic4 (n : Nat) (e : D) (S : Nat → Nat → Bool) (m : Nat) (x5 : Sl) (a : Nat) (ρ : En) : Prop := ∃ x3 x4, ρ = Ecl n e (matD .ow .ow n (prtQ S m a 0)) x3 x4 x5 (.dt (.int m))
def Ic5 (n : Nat) (e : D) (S : Nat → Nat → Bool) (m a : Nat) (x5 : Sl) (b : Nat) (ρ : En) : Prop := ∃ x4, ρ = Ecl n e (matD .ow .ow n (prtQ S m a b)) (.dt (.int a)) x4 x5 (.dt (.int m))
theorem prtQ_rm {S : Nat → Nat → Bool} {m a k j : Nat} : prtQ S m a k m j = S m j := by
  unfold prtQ stp
  split
  · cases h1 : S m j <;> cases h2 : S m m <;> simp
  · split
    · cases h1 : S m j <;> simp
    · rfl
theorem baseQ_snoc {qs : List (Nat × Nat)} {q : Nat × Nat} : baseQ (qs ++ [q]) = upR (baseQ qs) q.1 q.2 := by
  funext a b
  have e1 : decide (q.1 = a) = decide (a = q.1) := by simp [eq_comm]
  have e2 : decide (q.2 = b) = decide (b = q.2) := by simp [eq_comm]
  simp [baseQ, upR, e1, e2, Bool.or_assoc]
theorem closed_w {e : D} {n : Nat} {o : Fl} {qs : List (Nat × Nat)} {K : D → En → Prop} {E : XK0} (he : e = .lst o (qs.map ip)) (hn : n ≤ 1000) (hq : QsP n qs) (h : K (matD .ow .ow n (warsh n (baseQ qs))) [.un, .un]) : resW (m_law_closed [.int n, e]) K E := by
  generalize hni : (n : Int) = ni
  rw [m_law_closed_def]
  refine resW_run rfl ?_
  subst hni
  unfold d_law_closed
  rw [post_seq]
  simp [d_law_closed_s1, frm, lim]
  rw [post_seq]
  simp [d_law_closed_s2]
  refine ⟨by omega, for_inv (Ic1 n e) ⟨_, rfl⟩ ?_ ?_⟩
  · rintro k d ρ hk ⟨x3, rfl⟩
    obtain ⟨hk1, rfl⟩ := rng_get hk
    unfold d_law_closed_b2 Ecl
    simp [post_lc, noOwAt]
    refine ⟨by omega, (lc_inv (Ic1b n k e (.lst .ow (matL .ow n k fun a b => decide (a = b)))) ⟨rfl, rfl⟩ ?_).mp ?_ (fun _ _ _ _ z => z.elim)⟩
    · rintro j acc d ρ hj ⟨rfl, rfl⟩
      obtain ⟨hj1, rfl⟩ := rng_get hj
      simp [Ecl, lim]
      refine ⟨by omega, ?_, rfl⟩
      have e : ((k : Int) == (j : Int)) = decide (k = j) := by
        by_cases q : k = j
        · subst q; simp
        · have : ¬ (k : Int) = (j : Int) := by omega
          simp [q, this]
      rw [e]
      unfold bls
      rw [List.range_succ, List.map_append]
      rfl
    · rintro acc ρ ⟨rfl, rfl⟩
      simp [rst, Ecl, lim]
      refine ⟨by omega, .dt (.int k), ?_⟩
      unfold Ecl matL
      rw [List.range_succ, List.map_append]
      rfl
  · rintro ρ ⟨x3, rfl⟩
    rw [rng_len]
    simp only [seqK_nx]
    rw [post_seq]
    subst he
    have hno : noOw (flLend o) = true := by cases o <;> rfl
    simp [d_law_closed_s3, Ecl, mapFs_ip, allFs_ip, hno]
    refine for_inv (Ic2 n (.lst (flLend o) (qs.map ip)) qs x3) ⟨.un, ?_, by simp [noBoAt]; exact allFs_mat rfl⟩ ?_ ?_
    · have e0 : baseQ (qs.take 0) = fun a b => decide (a = b) := by funext a b; simp [baseQ]
      rw [e0]
      rfl
    · rintro k d ρ hk ⟨x5, rfl, hnb⟩
      obtain ⟨hk1, rfl⟩ := getE_map hk
      obtain ⟨q1, q2⟩ := hq _ (List.getElem_mem hk1)
      have htk : qs.take (k + 1) = qs.take k ++ [qs[k]] := (List.take_append_getElem hk1).symm
      generalize qs[k] = q at *
      have ein := mat_in (R := baseQ (qs.take k)) q1
      have est := mat_set (R := baseQ (qs.take k)) q1 q2
      unfold d_law_closed_b4 Ecl matD
      simp [ein, est]
      refine ⟨.dt (ip q), ?_, by simp [noBoAt]; exact allFs_mat rfl⟩
      rw [htk, baseQ_snoc]
      rfl
    · rintro ρ ⟨x5, rfl, hnb⟩
      rw [List.length_map, List.take_length] at hnb ⊢
      refine ⟨⟨rfl, hnb⟩, ?_⟩
      simp [Ecl]
      rw [post_seq]
      generalize baseQ qs = R at *
      simp [d_law_closed_s4]
      refine ⟨by omega, for_inv (Ic3 n (.lst o (qs.map ip)) R x5) ⟨_, _, _, rfl⟩ ?_ ?_⟩
      · rintro m d ρ hm ⟨x3, x4, x6, rfl⟩
        obtain ⟨hm1, rfl⟩ := rng_get hm
        generalize hS : (List.range m).foldl stp R = S at *
        unfold d_law_closed_b6 Ecl
        simp
        refine ⟨by omega, for_inv (Ic4 n (.lst o (qs.map ip)) S m x5) ⟨x3, x4, ?_⟩ ?_ ?_⟩
        · have e0 : prtQ S m 0 0 = S := by funext i j; simp [prtQ]
          rw [e0]
          rfl
        · rintro a d ρ ha ⟨x3, x4, rfl⟩
          obtain ⟨ha1, rfl⟩ := rng_get ha
          have er := mat_at (p := .bo) (n := n) (R := prtQ S m a 0) ha1
          have eb := bls_at (P := prtQ S m a 0 a) hm1
          have e1 : prtQ S m a 0 a = S a := by funext j; simp [prtQ]
          rw [e1] at er eb
          unfold d_law_closed_b7 Ecl matD
          simp [mapFs_mat, er, eb, allFs_bls, noBoAt]
          by_cases hc : S a m = true
          · simp [hc]
            refine ⟨by omega, for_inv (Ic5 n (.lst o (qs.map ip)) S m a x5) ⟨_, rfl⟩ ?_ ?_⟩
            · rintro b d ρ hb ⟨x4, rfl⟩
              obtain ⟨hb1, rfl⟩ := rng_get hb
              have er := mat_at (p := .bo) (n := n) (R := prtQ S m a b) hm1
              have e2 : prtQ S m a b m = S m := by funext j; exact prtQ_rm
              rw [e2] at er
              have eb := bls_at (P := S m) hb1
              unfold d_law_closed_b9 Ecl matD
              simp [mapFs_mat, er, eb, allFs_bls, noBoAt]
              have hnext : ∀ i j, prtQ S m a (b + 1) i j = (prtQ S m a b i j || (decide (i = a) && (decide (j = b) && S m b))) := fun i j => by
                unfold prtQ
                by_cases q1 : i < a
                · have : ¬ i = a := by omega
                  simp [q1, this]
                · by_cases q2 : i = a
                  · subst q2
                    by_cases q3 : j = b
                    · subst q3
                      simp [hc]
                    · have : (decide (j < b + 1)) = decide (j < b) := by congr 1; apply propext; omega
                      simp [q3, this]
                  · simp [q1, q2]
              by_cases hb2 : S m b = true
              · have ein := mat_in (R := prtQ S m a b) ha1
                have est := mat_set (R := prtQ S m a b) ha1 hb1
                simp [hb2, ein, est]
                refine ⟨.dt (.int b), ?_⟩
                have : upR (prtQ S m a b) a b = prtQ S m a (b + 1) := by
                  funext i j
                  rw [hnext]
                  simp [upR, hb2]
                rw [this]
                rfl
              · have hb2 : S m b = false := by simpa using hb2
                simp [hb2]
                refine ⟨.dt (.int b), ?_⟩
                have : prtQ S m a b = prtQ S m a (b + 1) := by
                  funext i j
                  rw [hnext]
                  simp [hb2]
                rw [← this]
                rfl
            · rintro ρ ⟨x4, rfl⟩
              rw [rng_len]
              refine ⟨.dt (.int a), x4, ?_⟩
              unfold Ecl matD
              rw [mat_congr (S := prtQ S m (a + 1) 0)]
              · rfl
              intro i hi j hj
              unfold prtQ
              by_cases q1 : i < a
              · have : i < a + 1 := by omega
                simp [q1, this]
              · by_cases q2 : i = a
                · subst q2; simp [stp, hj]
                · have q3 : ¬ i < a + 1 := by omega
                  simp [q1, q2, q3]
          · have hc : S a m = false := by simpa using hc
            simp [hc]
            refine ⟨.dt (.int a), x4, ?_⟩
            have : prtQ S m a 0 = prtQ S m (a + 1) 0 := by
              funext i j
              unfold prtQ
              by_cases q1 : i < a
              · have : i < a + 1 := by omega
                simp [q1, this]
              · by_cases q2 : i = a
                · subst q2; simp [stp, hc]
                · have q3 : ¬ i < a + 1 := by omega
                  simp [q1, q2, q3]
            rw [← this]
            rfl
        · rintro ρ ⟨x3, x4, rfl⟩
          rw [rng_len]
          refine ⟨x3, x4, .dt (.int m), ?_⟩
          rw [warsh_succ, hS]
          unfold Ecl matD
          rw [mat_congr (S := stp S m)]
          · rfl
          intro i hi j hj
          unfold prtQ
          simp [hi]
      · rintro ρ ⟨x3, x4, x6, rfl⟩
        rw [rng_len]
        simp [d_law_closed_s5, Ecl]
        exact ⟨allFs_mat rfl, h⟩

theorem idx_getD {zs : List Str} {i : Nat} (hnd : zs.Nodup) (h : i < zs.length) : zs.idxOf (zs.getD i "") = i := by
  rw [List.getD_eq_getElem?_getD, List.getElem?_eq_getElem h]
  exact List.Nodup.idxOf_getElem hnd i h
theorem base_nms {zs : List Str} {qs : List (Nat × Nat)} (hnd : zs.Nodup) (hq : QsP zs.length qs) : baseR zs (nms zs qs) = baseQ qs := by
  funext a b
  unfold baseR baseQ nms
  congr 1
  rw [List.any_map]
  induction qs with
  | nil => rfl
  | cons q qs ih =>
    obtain ⟨h1, h2⟩ := hq q (by simp)
    rw [List.any_cons, List.any_cons, ih fun x hx => hq x (by simp [hx])]
    congr 1
    show (decide (zs.idxOf (zs.getD q.1 "") = a) && decide (zs.idxOf (zs.getD q.2 "") = b)) = _
    rw [idx_getD hnd h1, idx_getD hnd h2]
theorem nms_mem {zs : List Str} {qs : List (Nat × Nat)} (hq : QsP zs.length qs) : ∀ p ∈ nms zs qs, p.1 ∈ zs ∧ p.2 ∈ zs := by
  intro p hp
  obtain ⟨q, hq', rfl⟩ := List.mem_map.mp hp
  obtain ⟨h1, h2⟩ := hq q hq'
  constructor
  · show zs.getD q.1 "" ∈ zs
    rw [List.getD_eq_getElem?_getD, List.getElem?_eq_getElem h1]
    exact List.getElem_mem h1
  · show zs.getD q.2 "" ∈ zs
    rw [List.getD_eq_getElem?_getD, List.getElem?_eq_getElem h2]
    exact List.getElem_mem h2
theorem allStr_map : ∀ {zs : List Str}, allStr (zs.map D.str) = some zs
  | [] => rfl
  | z :: zs => by rw [List.map_cons, allStr, allStr_map]; rfl
theorem ixS_idx {z : Str} : ∀ {zs : List Str}, z ∈ zs → ixS z zs = some (zs.idxOf z)
  | [], h => by cases h
  | y :: zs, h => by
    unfold ixS
    by_cases e : y = z
    · subst e; simp
    · rw [if_neg e, ixS_idx ((List.mem_cons.mp h).resolve_left fun q => e q.symm), List.idxOf_cons]
      have : (y == z) = false := by simpa using e
      rw [this]
      rfl
def tixW (d e : D) (K : D → Prop) : Prop := match d with
  | .tup xs => (match allStr xs, e with
    | some ys, .str z => (match ixS z ys with
      | some j => K (.int (j : Int))
      | none => False)
    | _, _ => False)
  | _ => False
@[simp] theorem post_tix {f g : M D} {Q : D → En → Prop} {X : XK0} {ρ : En} : Post Q X (dTix f g ρ) = Post (fun x ρ1 => tuW x fun xs => Post (fun y ρ2 => tixW (.tup xs) y fun d => Q d ρ2) X (g ρ1)) X (f ρ) := by
  unfold dTix
  rw [post_bnd]
  congr 1
  funext x ρ1
  cases x with
  | tup xs =>
    dsimp only [tuW_t]
    rw [post_bnd]
    congr 1
    funext y ρ2
    unfold tixW
    dsimp only
    cases allStr xs with
    | none => rfl
    | some ys =>
      cases y with
      | str z =>
        dsimp only
        cases ixS z ys <;> rfl
      | _ => rfl
  | _ => rfl
theorem tixW_s {zs : List Str} {z : Str} {K : D → Prop} (h : z ∈ zs) : tixW (.tup (zs.map D.str)) (.str z) K = K (.int (zs.idxOf z : Int)) := by
  unfold tixW
  dsimp only
  rw [allStr_map]
  dsimp only
  rw [ixS_idx h]
/-- an order: its makes and its rows -/
structure OrdP (zs : List Str) (rows : List Int) (R : Nat → Nat → Bool) : Prop where
  r : IsRows rows zs.length R
  nd : zs.Nodup
  le : zs.length ≤ 12
theorem lk_n {o : Fl} {zs : List Str} {rows : List Int} : pFld "Order" "names" (ordD o zs rows) = .sc (.tup (zs.map D.str)) := by
  rw [pFld_o]
  simp [look]
theorem lk_r {o : Fl} {zs : List Str} {rows : List Int} : pFld "Order" "rows" (ordD o zs rows) = .sc (.tup (rows.map D.int)) := by
  rw [pFld_o]
  have : ¬ (Str.ofString "rows" == Str.ofString "names") = true := by decide +kernel
  simp [look, this]
theorem has_w {o : Fl} {zs : List Str} {rows : List Int} {R : Nat → Nat → Bool} {u v : Str} {K : D → En → Prop} {E : XK0} (ho : OrdP zs rows R) (hu : u ∈ zs) (hv : v ∈ zs) (h : K (.bl (R (zs.idxOf u) (zs.idxOf v))) [.un, .un, .un]) : resW (m_Order_has [ordD o zs rows, .str u, .str v]) K E := by
  rw [m_Order_has_def]
  refine resW_run rfl ?_
  unfold d_Order_has
  have i1 : zs.idxOf u < rows.length := by rw [ho.r.1]; exact List.idxOf_lt_length_of_mem hu
  have e1 := getE_int i1
  have ht := (ho.r.2 _ _ (List.getElem?_eq_getElem i1)).test (zs.idxOf v)
  simp [post_seq, frm, lk_n, lk_r, tixW_s hu, tixW_s hv, e1]
  rw [ht]
  exact h
theorem ord_obj {o : Fl} {zs : List Str} {rows : List Int} {m : Str} (h : (m == "names") = false) (h2 : (m == "rows") = false) : isObj "Order" m (ordD o zs rows) = true := by
  unfold isObj
  simp only [List.all_cons, List.all_nil, h, h2]
  rfl
theorem stp_sub {R : Nat → Nat → Bool} {m a b : Nat} (h : R a b = true) : stp R m a b = true := by simp [stp, h]
theorem fold_sub {R : Nat → Nat → Bool} {a b : Nat} (h : R a b = true) : ∀ {m : Nat}, (List.range m).foldl stp R a b = true
  | 0 => h
  | m + 1 => by
    rw [warsh_succ]
    exact stp_sub (fold_sub h)
theorem fold_tr {R : Nat → Nat → Bool} : ∀ {m k i j : Nat}, k < m → (List.range m).foldl stp R i k = true → (List.range m).foldl stp R k j = true → (List.range m).foldl stp R i j = true
  | 0, _, _, _, h, _, _ => by omega
  | m + 1, k, i, j, hk, h1, h2 => by
    rw [warsh_succ] at h1 h2 ⊢
    have ih : ∀ {k i j : Nat}, k < m → (List.range m).foldl stp R i k = true → (List.range m).foldl stp R k j = true → (List.range m).foldl stp R i j = true := fun hk h1 h2 => fold_tr hk h1 h2
    generalize (List.range m).foldl stp R = S at *
    have via : S i m = true → S m j = true → stp S m i j = true := fun x y => by simp [stp, x, y]
    unfold stp at h1 h2
    rcases Nat.lt_or_ge k m with q | q
    · rcases (Bool.or_eq_true _ _ ▸ h1 : S i k = true ∨ (S i m && S m k) = true) with a | a
      · rcases (Bool.or_eq_true _ _ ▸ h2 : S k j = true ∨ (S k m && S m j) = true) with b | b
        · exact stp_sub (ih q a b)
        · have b := Bool.and_eq_true_iff.mp b
          exact via (ih q a b.1) b.2
      · have a := Bool.and_eq_true_iff.mp a
        rcases (Bool.or_eq_true _ _ ▸ h2 : S k j = true ∨ (S k m && S m j) = true) with b | b
        · exact via a.1 (ih q a.2 b)
        · have b := Bool.and_eq_true_iff.mp b
          exact via a.1 b.2
    · have e : k = m := by omega
      subst e
      refine via ?_ ?_
      · rcases (Bool.or_eq_true _ _ ▸ h1 : S i k = true ∨ (S i k && S k k) = true) with a | a
        · exact a
        · exact (Bool.and_eq_true_iff.mp a).1
      · rcases (Bool.or_eq_true _ _ ▸ h2 : S k j = true ∨ (S k k && S k j) = true) with a | a
        · exact a
        · exact (Bool.and_eq_true_iff.mp a).2
/-- a relation on the places below n that is closed -/
structure Clo (n : Nat) (R : Nat → Nat → Bool) : Prop where
  rf : ∀ i, i < n → R i i = true
  tr : ∀ i, i < n → ∀ k, k < n → ∀ j, j < n → R i k = true → R k j = true → R i j = true
theorem warsh_sub {R : Nat → Nat → Bool} {n i j : Nat} (h : R i j = true) : warsh n R i j = true := fold_sub h
theorem warsh_tr {R : Nat → Nat → Bool} {n k i j : Nat} (hk : k < n) (h1 : warsh n R i k = true) (h2 : warsh n R k j = true) : warsh n R i j = true := fold_tr hk h1 h2
theorem warsh_clo {R : Nat → Nat → Bool} {n : Nat} (h : ∀ i, i < n → R i i = true) : Clo n (warsh n R) := ⟨fun i hi => warsh_sub (h i hi), fun _ _ k hk _ _ h1 h2 => warsh_tr hk h1 h2⟩
theorem baseR_rf {zs : List Str} {ps : List (Str × Str)} {i : Nat} : baseR zs ps i i = true := by simp [baseR]

structure OrdG (zs : List Str) (rows : List Int) (R : Nat → Nat → Bool) : Prop where
  o : OrdP zs rows R
  c : Clo zs.length R
  z : ∀ i j, i < zs.length → zs.length ≤ j → R i j = false
structure GoodZ (zs : List Str) : Prop where
  n : firstBad [] zs = none
  l : ∀ z ∈ zs, z.length ≤ lim
  le : zs.length ≤ 12
theorem GoodZ.nd {zs : List Str} (h : GoodZ zs) : zs.Nodup := (firstBad_none h.n).2.1
theorem fold_out {R : Nat → Nat → Bool} {n : Nat} (h : ∀ i j, i < n → n ≤ j → R i j = false) : ∀ {m : Nat}, m ≤ n → ∀ i j, i < n → n ≤ j → (List.range m).foldl stp R i j = false
  | 0, _, i, j, hi, hj => h i j hi hj
  | m + 1, hm, i, j, hi, hj => by
    rw [warsh_succ]
    have h1 := fold_out h (m := m) (by omega) i j hi hj
    have h2 := fold_out h (m := m) (by omega) m j (by omega) hj
    generalize (List.range m).foldl stp R = S at *
    simp [stp, h1, h2]
theorem base_out {zs : List Str} {ps : List (Str × Str)} (hps : ∀ p ∈ ps, p.1 ∈ zs ∧ p.2 ∈ zs) (i j : Nat) (hi : i < zs.length) (hj : zs.length ≤ j) : baseR zs ps i j = false := by
  unfold baseR
  have e : ¬ i = j := by omega
  simp only [e, decide_false, Bool.false_or]
  rw [List.any_eq_false]
  intro p hp
  have h2 := List.idxOf_lt_length_of_mem (hps p hp).2
  have : ¬ zs.idxOf p.2 = j := by omega
  simp [this]
theorem order_g {d e : D} {zs : List Str} {ps : List (Str × Str)} {K : D → En → Prop} {E : XK0} (hd : SeqD d (zs.map D.str)) (he : SeqD e (ps.map pr2)) (gz : GoodZ zs) (hps : ∀ p ∈ ps, p.1 ∈ zs ∧ p.2 ∈ zs)
    (h1 : ∀ rows, OrdG zs rows (warsh zs.length (baseR zs ps)) → K (ordD .ow zs rows) [.un, .un]) : mkW (m_Order___init__ [.obj .ow "Order" [] [], d, e]) K E := by
  refine order_w hd he gz.l (fun rows h12 _ _ hr => h1 rows ⟨⟨hr, gz.nd, h12⟩, warsh_clo fun _ _ => baseR_rf, fold_out (base_out hps) (Nat.le_refl _)⟩) (fun h => ?_) (fun c z _ h => ?_) (fun n _ _ h => ?_)
  · have := gz.le; omega
  · rw [gz.n] at h; cases h
  · rw [firstUnk_none hps] at h; cases h

theorem OrdG.congr {zs : List Str} {rows : List Int} {R S : Nat → Nat → Bool} (h : OrdG zs rows R) (e : ∀ i, i < zs.length → ∀ j, j < zs.length → R i j = S i j) (z : ∀ i j, i < zs.length → zs.length ≤ j → S i j = false) : OrdG zs rows S := by
  have e2 : ∀ i, i < zs.length → S i = R i := fun i hi => by
    funext j
    rcases Nat.lt_or_ge j zs.length with q | q
    · exact (e i hi j q).symm
    · rw [z i j hi q, h.z i j hi q]
  exact ⟨⟨h.o.r.congr e2, h.o.nd, h.o.le⟩, ⟨fun i hi => by rw [e2 i hi]; exact h.c.rf i hi, fun i hi k hk j hj => by rw [e2 i hi, e2 k hk]; exact h.c.tr i hi k hk j hj⟩, z⟩

theorem NamesP.good {zs : List Str} (h : NamesP zs) : GoodZ zs := ⟨h.none, h.lim, by have := h.le; omega⟩

theorem BitsOf.inj {r q : Int} {P S : Nat → Bool} (h : BitsOf r P) (g : BitsOf q S) (e : ∀ j, P j = S j) : r = q := by
  obtain ⟨a, rfl, ha⟩ := h
  obtain ⟨b, rfl, hb⟩ := g
  have : a = b := Nat.eq_of_testBit_eq fun j => by rw [ha, hb, e]
  rw [this]
abbrev BS := List (Str × List Int)
def lk (z : Str) : BS → Option (List Int)
  | [] => none
  | p :: bs => if p.1 = z then some p.2 else lk z bs
@[simp] theorem noBoAt_nil {ρ : En} : noBoAt [] ρ = true := by simp [noBoAt]
theorem noOw_lend {o : Fl} : noOw (flLend o) = true := by cases o <;> rfl
theorem outs_02 {d : D} {x : Sl} {r : En} (h : allF noBo d = true) : outs [0] 2 (.dt d :: x :: r) = [.dt d, .un] := by
  simp [outs, List.range_succ, h]
theorem outs_04 {d : D} {x y z : Sl} {r : En} (h : allF noBo d = true) : outs [0] 4 (.dt d :: x :: y :: z :: r) = [.dt d, .un, .un, .un] := by
  simp [outs, List.range_succ, h]
@[simp] theorem allFs_snoc {p : Fl → Bool} {d : D} : ∀ {xs : List D}, allFs p (xs ++ [d]) = (allFs p xs && allF p d)
  | [] => by simp [allFs]
  | x :: xs => by rw [List.cons_append, allFs, allFs_snoc, allFs, Bool.and_assoc]
theorem is_int_w {i : Int} {K : D → En → Prop} {E : XK0} (h : K (.bl true) [.un]) : resW (m_law_is_int [.int i]) K E := by
  rw [m_law_is_int_def]
  refine resW_run rfl ?_
  unfold d_law_is_int
  simp [frm, pIsi, isi]
  exact h
abbrev nmW (zs : List Str) (w : List Nat) : List Str := w.map fun i => zs.getD i ""
theorem nmW_at {zs : List Str} {w : List Nat} {k : Nat} (hk : k < w.length) : L2.atI ((nmW zs w).map D.str) (k : Int) = some (.str (zs.getD (w.getD k 0) "")) := by
  rw [atI_n, List.getElem?_map, List.getElem?_map, List.getElem?_eq_getElem hk, List.getD_eq_getElem?_getD (l := w), List.getElem?_eq_getElem hk]
  rfl
abbrev nat0 (w : List Nat) : List D := w.map fun i : Nat => D.int (i : Int)
theorem nat0_at {w : List Nat} {k : Nat} (hk : k < w.length) : L2.atI (nat0 w) (k : Int) = some (.int ((w.getD k 0 : Nat) : Int)) := by
  rw [atI_n, List.getElem?_map, List.getElem?_eq_getElem hk, List.getD_eq_getElem?_getD, List.getElem?_eq_getElem hk]
  rfl
theorem int_list_w {o : Fl} {ns : List Int} {K : D → En → Prop} {E : XK0} (hl : ns.length ≤ 1000) (h : K (.bl true) [.un]) : resW (m_law_int_list [.lst o (ns.map D.int)]) K E := by
  rw [m_law_int_list_def]
  refine resW_run rfl ?_
  unfold d_law_int_list
  simp [frm, pIsi, isi, post_lc, noOwAt, noOw_lend]
  refine (lc_filt (xs := ns) (fun _ => false) D.int (by simp [lim]; omega) ?_).mp ?_ (fun _ _ _ _ z => z.elim)
  · intro i hi
    simp
    refine is_int_w ?_
    simp
  · rintro acc ρ ⟨rfl, rfl⟩
    simp [rst, noBoAt, flwOk]
    have e0 : List.filter (fun _ => false) ns = [] := List.filter_eq_nil_iff.mpr fun _ _ => by simp
    rw [e0]
    have e1 : pEq (.lst .ow (List.map D.int [])) (.lst .ow []) = .sc (.bl true) := qEqlI (xs := []) (ys := [])
    rw [e1]
    simp
    exact h

def inN (N : List Int) (n : Int) : Bool := decide (n ∈ N)
theorem any_intsD {n : Int} : ∀ {ns : List Int}, ((ns.map D.int).any fun y => eqD y (.int n)) = inN ns n
  | [] => rfl
  | y :: ns => by
    rw [List.map_cons, List.any_cons, any_intsD, qi]
    unfold inN
    by_cases h : y = n
    · subst h; simp
    · have h' : ¬ n = y := fun e => h e.symm
      simp [h, h']
theorem pIn_li {o : Fl} {n : Int} {ns : List Int} : pIn (.int n) (.lst o (ns.map D.int)) = .sc (.bl (inN ns n)) := by
  unfold pIn
  dsimp only
  rw [if_pos (by simp [deps_ints]), any_intsD]
theorem check_known_l {d : D} {o : Fl} {zs xs : List Str} {K : D → En → Prop} {E : XK0} (hd : SeqD d (zs.map D.str))
    (h1 : (∀ x ∈ xs, x ∈ zs) → K .non [.un, .un]) (h2 : ∀ n, firstUnk zs xs = some n → E "UnknownMake" ["name"] [.str n] [.un, .un]) : resW (m_check_known [d, .lst o (xs.map D.str)]) K E := by
  rw [m_check_known_def]
  refine resW_run rfl ?_
  unfold d_check_known
  simp [frm]
  refine ⟨by cases o <;> rfl, for_scanN (fun k => match xs[k]? with | some x => !decide (x ∈ zs) | none => false) (fun ρ => ∃ x2, (x2 = .un ∨ ∃ y : Str, x2 = .dt (.str y)) ∧ ρ = [.dt d, .dt (.lst (flLend o) (xs.map D.str)), x2]) ⟨_, .inl rfl, rfl⟩ ?_ ?_⟩
  · rintro k e ρ hk hb ⟨x2, hx2, rfl⟩
    obtain ⟨x, hx, rfl⟩ := map_get hk
    unfold d_check_known_b1
    rw [hx]
    by_cases hm : x ∈ zs
    · simp [hd.notIn, hm]
    · simp [hd.notIn, hm]
      have hu := firstUnk_at hx (fun j y hj hy => by
        have := hb j hj
        rw [hy] at this
        simpa using this) hm
      first
        | exact h2 x hu
        | exact ⟨by simp [noBoAt], h2 x hu⟩
  · rintro ρ hn ⟨x2, hx2, rfl⟩
    rw [List.length_map] at hn
    have hz : ∀ x ∈ xs, x ∈ zs := fun x hx => by
      obtain ⟨k, hk, e⟩ := List.mem_iff_getElem.mp hx
      have := hn k hk
      rw [List.getElem?_eq_getElem hk, e] at this
      simpa using this
    simp [flwOk]
    first
      | exact h1 hz
      | (rcases hx2 with rfl | ⟨y, rfl⟩ <;> exact ⟨by simp [noBoAt], h1 hz⟩)

@[simp] theorem allFs_nat0 {p : Fl → Bool} {w : List Nat} : allFs p (nat0 w) = true := by
  have : nat0 w = (w.map fun i : Nat => (i : Int)).map D.int := by unfold nat0; rw [List.map_map]; rfl
  rw [this]
  exact allFs_ints
@[simp] theorem mapFs_nat0 {g : Fl → Fl} {w : List Nat} : mapFs g (nat0 w) = nat0 w := by
  have : nat0 w = (w.map fun i : Nat => (i : Int)).map D.int := by unfold nat0; rw [List.map_map]; rfl
  rw [this]
  exact mapFs_ints
abbrev N1 (o : Fl) (w : List Nat) : D := .lst o (nat0 w)
@[simp] theorem allFs_N1 {p : Fl → Bool} {o : Fl} : ∀ {xss : List (List Nat)}, allFs p (xss.map (N1 o)) = (xss.isEmpty || p o)
  | [] => rfl
  | x :: xss => by
    rw [List.map_cons, allFs, allFs_N1, allF_l, allFs_nat0]
    cases p o <;> simp
@[simp] theorem mapFs_N1 {g : Fl → Fl} {o : Fl} : ∀ {xss : List (List Nat)}, mapFs g (xss.map (N1 o)) = xss.map (N1 (g o))
  | [] => by rw [List.map_nil, mapFs]; rfl
  | x :: xss => by rw [List.map_cons, mapFs, mapFs_N1, mapF_l, mapFs_nat0]; rfl
def rkA (R : Nat → Nat → Bool) (cs : List Nat) (h l : Nat) : Bool := R (cs.getD h 0) (cs.getD l 0) && (decide (l < h) || !R (cs.getD l 0) (cs.getD h 0))
def bel (R : Nat → Nat → Bool) (cs : List Nat) (h : Nat) : List Nat := (List.range cs.length).filter fun l => rkA R cs h l
def CsP (n : Nat) (cs : List Nat) : Prop := ∀ c ∈ cs, c < n
theorem CsP.at {n i : Nat} {cs : List Nat} (h : CsP n cs) (hi : i < cs.length) : cs.getD i 0 < n := by
  rw [List.getD_eq_getElem?_getD, List.getElem?_eq_getElem hi]
  exact h _ (List.getElem_mem hi)
theorem bel_lt {R : Nat → Nat → Bool} {cs : List Nat} {h : Nat} : ∀ l ∈ bel R cs h, l < cs.length := fun l hl => List.mem_range.mp (List.mem_filter.mp hl).1
theorem ranks_w {o p : Fl} {zs : List Str} {rows : List Int} {R : Nat → Nat → Bool} {cs : List Nat} {a b : Nat} {K : D → En → Prop} {E : XK0} (ho : OrdP zs rows R) (hc : CsP zs.length cs) (ha : a < cs.length) (hb : b < cs.length) (h : K (.bl (rkA R cs a b)) [.un, .un, .un, .un]) :
    resW (m_ranks_above [ordD o zs rows, .lst p ((nmW zs cs).map D.str), .int a, .int b]) K E := by
  rw [m_ranks_above_def]
  refine resW_run rfl ?_
  unfold d_ranks_above
  have e1 := nmW_at (zs := zs) ha
  have e2 := nmW_at (zs := zs) hb
  have g : ∀ i, i < zs.length → zs.getD i "" ∈ zs := fun i hi => by
    rw [List.getD_eq_getElem?_getD, List.getElem?_eq_getElem hi]
    exact List.getElem_mem hi
  have ca := hc.at ha
  have cb := hc.at hb
  have ob : ∀ o, isObj "Order" "has" (ordD o zs rows) = true := fun o => ord_obj (by decide +kernel) (by decide +kernel)
  have i1 := idx_getD ho.nd ca
  have i2 := idx_getD ho.nd cb
  have g1 := g _ ca
  have g2 := g _ cb
  unfold rkA at h
  generalize cs.getD a 0 = ia at *
  generalize cs.getD b 0 = ib at *
  generalize zs.getD ia "" = u at *
  generalize zs.getD ib "" = v at *
  generalize (nmW zs cs).map D.str = cl at *
  have hw := fun {o : Fl} {u v : Str} {K : D → En → Prop} {E : XK0} h1 h2 h => has_w (o := o) (u := u) (v := v) (K := K) (E := E) ho h1 h2 h
  rw [post_seq]
  simp [frm, e1, e2, ob]
  refine hw g1 g2 ?_
  rw [i1, i2]
  cases h1 : R ia ib with
  | false =>
    rw [h1] at h
    simpa using h
  | true =>
    rw [h1] at h
    by_cases hba : b < a
    · simp [hba] at h ⊢
      exact h
    · simp [hba] at h ⊢
      refine hw g2 g1 ?_
      rw [i1, i2]
      simpa using h
abbrev belD (o p : Fl) (n : Nat) (B : Nat → List Nat) : D := .lst o ((List.range n).map fun h => N1 p (B h))
theorem below_w {o p : Fl} {zs : List Str} {rows : List Int} {R : Nat → Nat → Bool} {cs : List Nat} {K : D → En → Prop} {E : XK0} (ho : OrdP zs rows R) (hc : CsP zs.length cs) (hl : cs.length ≤ 100) (h : K (belD .ow .ow cs.length (bel R cs)) [.un, .un]) :
    resW (m_below_lists [ordD o zs rows, .lst p ((nmW zs cs).map D.str)]) K E := by
  rw [m_below_lists_def]
  refine resW_run rfl ?_
  unfold d_below_lists
  have rw_ := fun {o p : Fl} {a b : Nat} {K : D → En → Prop} {E : XK0} ha hb h => ranks_w (o := o) (p := p) (a := a) (b := b) (K := K) (E := E) ho hc ha hb h
  have hln : ((nmW zs cs).map D.str).length = cs.length := by simp
  have hfs : ∀ g, mapFs g ((nmW zs cs).map D.str) = (nmW zs cs).map D.str := fun g => by simp [-List.map_map]
  generalize (nmW zs cs).map D.str = cl at *
  rw [post_seq]
  simp [frm]
  rw [post_seq]
  simp [hln]
  refine ⟨by omega, for_inv (fun k ρ => ∃ x3, ρ = [.dt (ordD o zs rows), .dt (.lst p cl), .dt (.lst .ow ((List.range k).map fun h => N1 .ow (bel R cs h))), x3, .un]) ⟨.un, by simp⟩ ?_ ?_⟩
  · rintro k d ρ hk ⟨x3, rfl⟩
    obtain ⟨hk1, rfl⟩ := rng_get hk
    unfold d_below_lists_b2
    rw [tgW_one]
    refine ⟨by simp, ?_⟩
    simp [post_lc, noOwAt, hln]
    refine ⟨by omega, (lc_filt (xs := List.range cs.length) (fun l => rkA R cs k l) (fun l => D.int (l : Int)) (by simp [lim]; omega) ?_).mp ?_ (fun _ _ _ _ z => z.elim)⟩
    · intro l hl
      have hl2 := List.mem_range.mp hl
      have hk2 : k < cs.length := by omega
      simp [hfs]
      refine rw_ hk2 hl2 ?_
      simp
    · rintro acc ρ ⟨rfl, rfl⟩
      simp [rst, lim, List.range_succ, bel, N1]
      omega
  · rintro ρ ⟨x3, rfl⟩
    have hb : ∀ {m : Nat}, allFs noBo ((List.range m).map fun h => N1 .ow (bel R cs h)) = true := fun {m} => by
      generalize List.range m = l
      induction l with
      | nil => rfl
      | cons x xs ih => simp [allFs, ih]
    simp [hb]
    exact h

abbrev Fo := Nat → Option Nat
def updF (F : Fo) (i v : Nat) : Fo := fun j => if j = i then some v else F j
section
variable {bel : Nat → List Nat} {U O : Fo} {T T' : Nat → Bool} {h : Nat} {p : List (Nat × Nat)}
end
theorem range_set {n i : Nat} {f : Nat → D} {d : D} (h : i < n) : ((List.range n).map f).set i d = (List.range n).map fun j => if j = i then d else f j := by
  apply List.ext_getElem
  · simp
  · intro j h1 h2
    rw [List.getElem_set, List.getElem_map, List.getElem_map, List.getElem_range]
    by_cases e : i = j
    · rw [if_pos e, if_pos e.symm]
    · rw [if_neg e, if_neg fun z => e z.symm]
theorem set_r {n i : Nat} {f : Nat → D} {d : D} (h : i < n) (ha : allFs noOw ((List.range n).map f) = true) (hd : allF noOw d = true) : setAt (.int (i : Int)) d ((List.range n).map f) = some ((List.range n).map fun j => if j = i then d else f j) := by
  unfold setAt
  dsimp only
  have e : L2.ixN ((List.range n).map f).length (i : Int) = some i := by
    rw [List.length_map, List.length_range]
    unfold L2.ixN
    rw [if_pos (by omega), if_pos (by omega)]
    simp
  rw [e]
  dsimp only
  rw [if_pos ⟨ha, hd⟩, range_set h]
theorem bel_mf {g : Fl → Fl} {p : Fl} {n : Nat} {B : Nat → List Nat} : mapFs g ((List.range n).map fun h => N1 p (B h)) = (List.range n).map fun h => N1 (g p) (B h) := by
  generalize List.range n = l
  induction l with
  | nil => rfl
  | cons x xs ih => rw [List.map_cons, mapFs, ih, List.map_cons]; simp [mapF]
theorem bel_at {p : Fl} {n h : Nat} {B : Nat → List Nat} (hh : h < n) : L2.atI ((List.range n).map fun h => N1 p (B h)) (h : Int) = some (N1 p (B h)) := by
  rw [atI_n, List.getElem?_map, List.getElem?_range hh]; rfl
def SlJ (x : Sl) : Prop := x = .un ∨ ∃ i : Int, x = .dt (.int i)
theorem bel_fs {f : Fl → Bool} {q : Fl} {n : Nat} {B : Nat → List Nat} (h : f q = true) : allFs f ((List.range n).map fun h => N1 q (B h)) = true := by
  generalize List.range n = l
  induction l with
  | nil => rfl
  | cons x xs ih => simp [allFs, ih, h]
section
variable {n : Nat} {B : Nat → List Nat} {U O : Fo} {Q : Nat → Prop} {R Bl : Nat → Bool} {W : List Nat} {P : Nat → Prop}
end
theorem nats_fs {p : Fl → Bool} {w : List Nat} : allFs p (w.map fun (i : Nat) => D.int (i : Int)) = true := by
  induction w with
  | nil => rfl
  | cons x xs ih => simp [allFs, ih]
structure Sto (n : Nat) (lt : Nat → Nat → Bool) : Prop where
  ir : ∀ i, i < n → lt i i = false
  tr : ∀ i j k, i < n → j < n → k < n → lt i j = true → lt j k = true → lt i k = true
theorem rk_sto {n : Nat} {R : Nat → Nat → Bool} {cs : List Nat} (c : Clo n R) (hc : CsP n cs) : Sto cs.length (rkA R cs) := by
  refine ⟨fun i hi => ?_, fun i j k hi hj hk h1 h2 => ?_⟩
  · unfold rkA
    rw [c.rf _ (hc.at hi)]
    simp
  · have gi := hc.at hi
    have gj := hc.at hj
    have gk := hc.at hk
    unfold rkA at h1 h2 ⊢
    rw [Bool.and_eq_true] at h1 h2 ⊢
    refine ⟨c.tr _ gi _ gj _ gk h1.1 h2.1, ?_⟩
    cases e : R (cs.getD k 0) (cs.getD i 0) with
    | false => simp
    | true =>
      have e1 := c.tr _ gk _ gi _ gj e h1.1
      have e2 := c.tr _ gj _ gk _ gi h2.1 e
      have a1 := h1.2
      have a2 := h2.2
      rw [e2] at a1
      rw [e1] at a2
      simp at a1 a2 ⊢
      omega
theorem nd_lenN : ∀ {S T : List Nat}, S.Nodup → (∀ n ∈ S, n ∈ T) → S.length ≤ T.length
  | [], _, _, _ => Nat.zero_le _
  | a :: S, T, hn, hs => by
    have hn' := List.nodup_cons.mp hn
    have h1 := nd_lenN (S := S) (T := T.erase a) hn'.2 fun n hm => (List.mem_erase_of_ne fun e => hn'.1 (by rw [← e]; exact hm)).mpr (hs n (List.mem_cons_of_mem _ hm))
    have h2 := List.length_erase_of_mem (hs a List.mem_cons_self)
    have h3 := List.length_pos_of_mem (hs a List.mem_cons_self)
    rw [List.length_cons]
    omega
inductive Chn (O : Fo) : Nat → List Nat → Prop
  | last {a : Nat} : O a = none → Chn O a [a]
  | step {a x : Nat} {L : List Nat} : O a = some x → Chn O x L → Chn O a (a :: L)
section
variable {n : Nat} {lt : Nat → Nat → Bool} {U O : Fo}
theorem flt_less {p q : Nat → Bool} {x : Nat} (hpq : ∀ y, y < n → p y = true → q y = true) (hx : x < n) (h1 : q x = true) (h2 : p x = false) : ((List.range n).filter p).length < ((List.range n).filter q).length := by
  have e : (List.range n).filter p = ((List.range n).filter q).filter p := by
    rw [List.filter_filter]
    refine List.filter_congr fun i hi => ?_
    cases h : p i with
    | true => rw [hpq i (List.mem_range.mp hi) h]; rfl
    | false => simp
  rw [e]
  exact List.length_filter_lt_length_iff_exists.mpr ⟨x, List.mem_filter.mpr ⟨List.mem_range.mpr hx, h1⟩, by rw [h2]; simp⟩
end
theorem chairs_w {b : D} {o : Fl} {zs : List Str} {m : Nat} {K : D → En → Prop} {E : XK0} (hb : BoxP b) (hz : zs.length ≤ 1000) (hm : m ≤ 1000) (h : ∀ cs b', BoxP b' → CsP zs.length cs → cs.length ≤ m → K (.lst .ow ((nmW zs cs).map D.str)) [.dt b', .un, .un]) :
    resW (m_law_chairs [b, .lst o (zs.map D.str), .int (m : Int)]) K E := by
  rw [m_law_chairs_def]
  refine resW_run rfl ?_
  unfold d_law_chairs
  rw [post_seq]
  by_cases h0 : zs = []
  · subst h0
    simp [frm]
    have := h [] b hb (fun _ z => by cases z) (Nat.zero_le _)
    rw [outs_03 hb.noBo]
    exact this
  · have hpos : 0 < zs.length := List.length_pos_iff.mpr h0
    simp [frm, h0]
    simp [post_lc, noOwAt]
    refine take_w hb (by omega) (by omega) fun c b c0 c1 hb => ?_
    obtain ⟨c, rfl⟩ : ∃ m : Nat, c = (m : Int) := ⟨c.toNat, by omega⟩
    simp
    refine ⟨by omega, (lc_inv (fun j acc ρ => ∃ (b : D) (cs : List Nat), BoxP b ∧ CsP zs.length cs ∧ cs.length = j ∧ acc = (nmW zs cs).map D.str ∧ ρ = [.dt b, .dt (.lst o (zs.map D.str)), .dt (.int (m : Int)), .un]) ⟨b, [], hb, fun _ z => (by cases z), rfl, rfl, rfl⟩ ?_).mp ?_ (fun _ _ _ _ z => z.elim)⟩
    · rintro j acc d ρ hj ⟨b, cs, hb, hc, hl, rfl, rfl⟩
      obtain ⟨hj1, rfl⟩ := rng_get hj
      simp
      refine take_w hb (by omega) (by omega) fun i b i0 i1 hb => ?_
      obtain ⟨i, rfl⟩ : ∃ m : Nat, i = (m : Int) := ⟨i.toNat, by omega⟩
      have hi : i < zs.length := by omega
      have e1 : L2.atI (zs.map D.str) (i : Int) = some (.str (zs.getD i "")) := by
        rw [atI_n, List.getElem?_map, List.getElem?_eq_getElem hi, List.getD_eq_getElem?_getD, List.getElem?_eq_getElem hi]; rfl
      have hx : (nmW zs (cs ++ [i])).map D.str = (nmW zs cs).map D.str ++ [.str (zs.getD i "")] := by simp
      generalize hnm : zs.getD i "" = nm at *
      simp [e1, lim]
      refine ⟨by omega, b, hb, cs ++ [i], fun x hx => ?_, by simp [hl], ?_, rfl⟩
      · rcases List.mem_append.mp hx with z | z
        · exact hc x z
        · rw [List.mem_singleton.mp z]; exact hi
      · rw [← hnm]; simp
    · rintro acc ρ ⟨b, cs, hb, hc, hl, rfl, rfl⟩
      rw [rng_len] at hl
      have := h cs b hb hc (by omega)
      simp [rst, -List.map_map]
      rw [outs_03 hb.noBo]
      exact this
theorem cutI_take {xs : List Int} {k : Nat} (hk : k ≤ xs.length) : cutI xs none (some (k : Int)) = xs.take k := by
  unfold cutI
  rw [HT.sIx_nat, HT.sIx_none, Nat.min_eq_left hk]
  simp
end Lw
namespace Lw
open Cs
open PySem (Str)
/-! dicts with texts as keys and numbers as values, key by key -/
theorem put_len {z : Str} {d : D} {ks : List Str} {ds : List D} (h : ks.length = ds.length) : (putD z d ks ds).1.length = (putD z d ks ds).2.length ∧ (putD z d ks ds).1.length ≤ ks.length + 1 := by
  unfold putD
  split
  · simp [h]
  · simp [h]
theorem zip_no {z : Str} {d : D} : ∀ {ks : List Str} {ds : List D}, ks.length = ds.length → z ∉ ks → List.zipWith (fun k' x => if k' = z then d else x) ks ds = ds
  | [], [], _, _ => rfl
  | [], _ :: _, h, _ => by simp at h
  | _ :: _, [], h, _ => by simp at h
  | k :: ks, y :: xs, h, hz => by
    rw [List.zipWith_cons_cons, zip_no (by simpa using h) fun q => hz (List.mem_cons_of_mem _ q), if_neg fun q => hz (by rw [q]; exact List.mem_cons_self)]
theorem look_zip {z x : Str} {d : D} : ∀ {ks : List Str} {ds : List D}, ks.length = ds.length → z ∈ ks → look x ks (List.zipWith (fun k' x => if k' = z then d else x) ks ds) = if x = z then some d else look x ks ds
  | [], _, _, h => by cases h
  | k :: ks, [], h, _ => by simp at h
  | k :: ks, y :: xs, h, hz => by
    rw [List.zipWith_cons_cons]
    unfold look
    by_cases e : k = x
    · subst e
      simp
      by_cases q : k = z
      · simp [q]
      · simp [q]
    · have e' : (x == k) = false := by simpa using fun q => e q.symm
      rw [e']
      simp only [Bool.false_eq_true, if_false]
      by_cases hz2 : z ∈ ks
      · exact look_zip (by simpa using h) hz2
      · have hk : z = k := by
          rcases List.mem_cons.mp hz with q | q
          · exact q
          · exact absurd q hz2
        have hx : x ≠ z := fun q => e (by rw [← hk, q])
        rw [if_neg hx]
        rw [zip_no (by simpa using h) hz2]
theorem look_app {z x : Str} {d : D} : ∀ {ks : List Str} {ds : List D}, ks.length = ds.length → z ∉ ks → look x (ks ++ [z]) (ds ++ [d]) = if x = z then some d else look x ks ds
  | [], [], _, _ => by
    rw [List.nil_append, List.nil_append]
    unfold look
    by_cases h : x = z
    · subst h; simp
    · have h2 : (x == z) = false := by simpa using h
      rw [h2, if_neg h]
      rfl
  | [], _ :: _, h, _ => by simp at h
  | _ :: _, [], h, _ => by simp at h
  | k :: ks, y :: xs, h, hz => by
    rw [List.cons_append, List.cons_append]
    unfold look
    have ih := look_app (z := z) (x := x) (d := d) (ks := ks) (ds := xs) (by simpa using h) fun q => hz (List.mem_cons_of_mem _ q)
    by_cases e : k = x
    · subst e
      have : k ≠ z := fun q => hz (by rw [q]; exact List.mem_cons_self)
      simp [this]
    · have e' : (x == k) = false := by simpa using fun q => e q.symm
      rw [e']
      exact ih
theorem look_put {z x : Str} {d : D} {ks : List Str} {ds : List D} (h : ks.length = ds.length) : look x (putD z d ks ds).1 (putD z d ks ds).2 = if x = z then some d else look x ks ds := by
  unfold putD
  split
  · rename_i hz
    exact look_zip h hz
  · rename_i hz
    exact look_app h hz
theorem put_nd {z : Str} {d : D} {ks : List Str} {ds : List D} (h : ks.Nodup) : (putD z d ks ds).1.Nodup := by
  unfold putD
  split
  · exact h
  · rename_i hz
    exact List.nodup_append.mpr ⟨h, List.nodup_cons.mpr ⟨fun q => (by cases q), .nil⟩, fun a ha b hb e => hz (by rw [← List.mem_singleton.mp hb, ← e]; exact ha)⟩
theorem put_ints {z : Str} {v : Int} {ks : List Str} {hv : List Int} : ∃ hv' : List Int, (putD z (.int v) ks (hv.map D.int)).2 = hv'.map D.int := by
  unfold putD
  split
  · refine ⟨List.zipWith (fun k' x => if k' = z then v else x) ks hv, ?_⟩
    show List.zipWith _ ks (hv.map D.int) = _
    rw [List.zipWith_map_right, List.map_zipWith]
    congr 1
    funext a b
    split <;> rfl
  · exact ⟨hv ++ [v], by simp⟩
/-- one step: the dict with one key set -/
theorem put_dk {z : Str} {v : Int} {ks : List Str} {hv : List Int} (h : ks.length = hv.length) : ∃ (ks' : List Str) (hv' : List Int), putD z (.int v) ks (hv.map D.int) = (ks', hv'.map D.int) ∧ ks'.length = hv'.length ∧ ks'.length ≤ ks.length + 1 ∧ (ks.Nodup → ks'.Nodup) ∧ ∀ x, look x ks' (hv'.map D.int) = if x = z then some (.int v) else look x ks (hv.map D.int) := by
  obtain ⟨hv', e⟩ := put_ints (z := z) (v := v) (ks := ks) (hv := hv)
  obtain ⟨l1, l2⟩ := put_len (z := z) (d := .int v) (ks := ks) (ds := hv.map D.int) (by simpa using h)
  have lk := fun x => look_put (z := z) (x := x) (d := .int v) (ks := ks) (ds := hv.map D.int) (by simpa using h)
  rw [e] at l1 lk
  exact ⟨_, hv', by rw [← e], by simpa using l1, l2, put_nd, lk⟩
end Lw
namespace Lw
open Cs
open PySem (Str)
/-! levels, counted from below: pure part -/
section
variable {n : Nat} {lt : Nat → Nat → Bool} {own Lv : Nat → Int} {U : Fo} {P : List Nat}
def updI (F : Nat → Int) (i : Nat) (v : Int) : Nat → Int := fun j => if j = i then v else F j
structure Tlv (n : Nat) (lt : Nat → Nat → Bool) (own Lv : Nat → Int) (U : Fo) (P : List Nat) : Prop where
  lo : ∀ i ∈ P, i < n
  dn : ∀ i ∈ P, ∀ j, j < n → lt i j = true → j ∈ P
  ge : ∀ i ∈ P, ∀ j, j < n → lt i j = true → Lv j + own i ≤ Lv i
  un : ∀ i ∈ P, (U i = none ∧ Lv i = own i) ∨ ∃ j, j < n ∧ lt i j = true ∧ U i = some j ∧ Lv i = Lv j + own i
  z : ∀ i, i ∉ P → Lv i = 0 ∧ U i = none
theorem Tlv.zero : Tlv n lt own (fun _ => 0) (fun _ => none) [] := ⟨by simp, by simp, by simp, by simp, fun _ _ => ⟨rfl, rfl⟩⟩
/-- what the look at the chairs below has found -/
def Bas (Lv : Nat → Int) (U : Fo) (i : Nat) (T : List Nat) (b : Int) (U' : Fo) : Prop :=
  (U' = U ∧ b = 0 ∧ ∀ j ∈ T, Lv j ≤ 0) ∨ ∃ j ∈ T, U' = updF U i j ∧ b = Lv j ∧ ∀ y ∈ T, Lv y ≤ b
theorem Bas.zero {i : Nat} : Bas Lv U i [] 0 U := .inl ⟨rfl, rfl, fun _ h => by cases h⟩
theorem Bas.old {i l : Nat} {T : List Nat} {b : Int} {U' : Fo} (h : Bas Lv U i T b U') (e : ¬ Lv l > b) : Bas Lv U i (T ++ [l]) b U' := by
  rcases h with ⟨h1, h2, h3⟩ | ⟨j, hj, h1, h2, h3⟩
  · refine .inl ⟨h1, h2, fun y hy => ?_⟩
    rcases List.mem_append.mp hy with z | z
    · exact h3 y z
    · rw [List.mem_singleton.mp z]; omega
  · refine .inr ⟨j, List.mem_append_left _ hj, h1, h2, fun y hy => ?_⟩
    rcases List.mem_append.mp hy with z | z
    · exact h3 y z
    · rw [List.mem_singleton.mp z]; omega
theorem Bas.new {i l : Nat} {T : List Nat} {b : Int} {U' : Fo} (h : Bas Lv U i T b U') (e : Lv l > b) : Bas Lv U i (T ++ [l]) (Lv l) (updF U' i l) := by
  have hu : updF U' i l = updF U i l := by
    rcases h with ⟨h1, _⟩ | ⟨j, _, h1, _⟩
    · rw [h1]
    · rw [h1]
      funext x
      unfold updF
      split <;> rfl
  have hb : ∀ y ∈ T, Lv y ≤ b := by
    rcases h with ⟨_, h2, h3⟩ | ⟨j, _, _, _, h3⟩
    · rw [h2]; exact h3
    · exact h3
  refine .inr ⟨l, by simp, hu, rfl, fun y hy => ?_⟩
  rcases List.mem_append.mp hy with z | z
  · have := hb y z; omega
  · rw [List.mem_singleton.mp z]; exact Int.le_refl _
theorem Tlv.step {i : Nat} {b : Int} {U' : Fo} (t : Tlv n lt own Lv U P) (hs : Sto n lt) (hi : i < n) (hp : i ∉ P) (hd : ∀ j, j < n → lt i j = true → j ∈ P) (hb : Bas Lv U i ((List.range n).filter fun l => lt i l) b U') : Tlv n lt own (updI Lv i (b + own i)) U' (P ++ [i]) := by
  have old : ∀ j, j ∈ P → updI Lv i (b + own i) j = Lv j := fun j hj => by
    unfold updI
    rw [if_neg fun e => hp (by rw [← e]; exact hj)]
  have new : updI Lv i (b + own i) i = b + own i := by unfold updI; rw [if_pos rfl]
  have oldU : ∀ j, j ≠ i → U' j = U j := fun j hj => by
    rcases hb with ⟨h1, _⟩ | ⟨x, _, h1, _⟩
    · rw [h1]
    · rw [h1]; unfold updF; rw [if_neg hj]
  have hm : ∀ j, j < n → lt i j = true → j ∈ (List.range n).filter fun l => lt i l := fun j h1 h2 => List.mem_filter.mpr ⟨List.mem_range.mpr h1, h2⟩
  have hbl : ∀ j, j < n → lt i j = true → Lv j ≤ b := fun j h1 h2 => by
    rcases hb with ⟨_, h3, h4⟩ | ⟨_, _, _, _, h4⟩
    · rw [h3]; exact h4 j (hm j h1 h2)
    · exact h4 j (hm j h1 h2)
  refine ⟨fun y hy => ?_, fun y hy j h1 h2 => ?_, fun y hy j h1 h2 => ?_, fun y hy => ?_, fun y hy => ?_⟩
  · rcases List.mem_append.mp hy with z | z
    · exact t.lo y z
    · rw [List.mem_singleton.mp z]; exact hi
  · rcases List.mem_append.mp hy with z | z
    · exact List.mem_append_left _ (t.dn y z j h1 h2)
    · rw [List.mem_singleton.mp z] at h2
      exact List.mem_append_left _ (hd j h1 h2)
  · rcases List.mem_append.mp hy with z | z
    · rw [old y z, old j (t.dn y z j h1 h2)]
      exact t.ge y z j h1 h2
    · rw [List.mem_singleton.mp z] at h2 ⊢
      rw [new, old j (hd j h1 h2)]
      have := hbl j h1 h2
      omega
  · rcases List.mem_append.mp hy with z | z
    · rw [old y z, oldU y fun e => hp (by rw [← e]; exact z)]
      rcases t.un y z with h | ⟨j, h1, h2, h3, h4⟩
      · exact .inl h
      · exact .inr ⟨j, h1, h2, h3, by rw [old j (t.dn y z j h1 h2)]; exact h4⟩
    · rw [List.mem_singleton.mp z, new]
      rcases hb with ⟨h1, h2, _⟩ | ⟨j, hj, h1, h2, _⟩
      · exact .inl ⟨by rw [h1]; exact (t.z i hp).2, by omega⟩
      · have hj2 := List.mem_filter.mp hj
        have hjn := List.mem_range.mp hj2.1
        refine .inr ⟨j, hjn, hj2.2, by rw [h1]; unfold updF; rw [if_pos rfl], ?_⟩
        rw [old j (hd j hjn hj2.2), h2]
  · have h1 : y ∉ P := fun z => hy (List.mem_append_left _ z)
    have h2 : y ≠ i := fun e => hy (by rw [e]; simp)
    refine ⟨?_, by rw [oldU y h2]; exact (t.z y h1).2⟩
    unfold updI
    rw [if_neg h2]
    exact (t.z y h1).1
/-- the chain under a chair, and its height -/
theorem Tlv.chn (t : Tlv n lt own Lv U P) (hs : Sto n lt) : ∀ m a, a ∈ P → ((List.range n).filter fun y => lt a y).length ≤ m → ∃ L, Chn U a L ∧ (∀ y ∈ L, y < n ∧ (y = a ∨ lt a y = true)) ∧ (L.Pairwise fun p q => lt p q = true) ∧ (L.map own).sum = Lv a := by
  intro m
  induction m with
  | zero =>
    intro a ha hm
    rcases t.un a ha with ⟨h1, h2⟩ | ⟨j, h1, h2, h3, h4⟩
    · exact ⟨[a], .last h1, fun y hy => by rw [List.mem_singleton.mp hy]; exact ⟨t.lo a ha, .inl rfl⟩, List.pairwise_singleton _ _, by simp [h2]⟩
    · have := List.length_pos_of_mem (List.mem_filter (p := fun y => lt a y).mpr ⟨List.mem_range.mpr h1, h2⟩)
      omega
  | succ m ih =>
    intro a ha hm
    rcases t.un a ha with ⟨h1, h2⟩ | ⟨j, h1, h2, h3, h4⟩
    · exact ⟨[a], .last h1, fun y hy => by rw [List.mem_singleton.mp hy]; exact ⟨t.lo a ha, .inl rfl⟩, List.pairwise_singleton _ _, by simp [h2]⟩
    · have han := t.lo a ha
      have hl := flt_less (n := n) (p := fun y => lt j y) (q := fun y => lt a y) (fun y hy e => hs.tr a j y han h1 hy h2 e) h1 h2 (hs.ir j h1)
      obtain ⟨L, c, l1, l2, l3⟩ := ih j (t.dn a ha j h1 h2) (by omega)
      have hay : ∀ y ∈ L, lt a y = true := fun y hy => by
        obtain ⟨k1, k2⟩ := l1 y hy
        rcases k2 with rfl | k2
        · exact h2
        · exact hs.tr a j y han h1 k1 h2 k2
      refine ⟨a :: L, .step h3 c, fun y hy => ?_, List.pairwise_cons.mpr ⟨hay, l2⟩, ?_⟩
      · rcases List.mem_cons.mp hy with rfl | z
        · exact ⟨han, .inl rfl⟩
        · exact ⟨(l1 y z).1, .inr (hay y z)⟩
      · rw [List.map_cons, List.sum_cons, l3, h4]
        omega
/-- what tallest_stack returns -/
structure Tal (n : Nat) (lt : Nat → Nat → Bool) (own : Nat → Int) (h : Int) (S : List Nat) (Lv : Nat → Int) : Prop where
  lo : ∀ y ∈ S, y < n
  st : S.Pairwise fun p q => lt q p = true
  sm : (S.map own).sum = h
  mx : ∀ i, i < n → Lv i ≤ h
  e0 : n = 0 → h = 0
  at_ : n ≠ 0 → ∃ i, i < n ∧ Lv i = h
  ge : ∀ i, i < n → ∀ j, j < n → lt i j = true → Lv j + own i ≤ Lv i
  un : ∀ i, i < n → Lv i = own i ∨ ∃ j, j < n ∧ lt i j = true ∧ Lv i = Lv j + own i
theorem Tal.nil : Tal 0 lt own 0 [] Lv := by
  refine ⟨by simp, List.Pairwise.nil, rfl, fun i h => by omega, fun _ => rfl, fun h => absurd rfl h, fun i h => by omega, fun i h => by omega⟩
theorem Tlv.tal {a : Nat} {L : List Nat} (t : Tlv n lt own Lv U P) (hP : ∀ i, i < n → i ∈ P) (ha : a < n) (hm : ∀ i ∈ P, Lv i ≤ Lv a) (l1 : ∀ y ∈ L, y < n) (l2 : L.Pairwise fun p q => lt p q = true) (l3 : (L.map own).sum = Lv a) : Tal n lt own (Lv a) L.reverse Lv := by
  refine ⟨fun y hy => l1 y (List.mem_reverse.mp hy), List.pairwise_reverse.mpr l2, ?_, fun i hi => hm i (hP i hi), fun e => by omega, fun _ => ⟨a, ha, rfl⟩, fun i hi => t.ge i (hP i hi), fun i hi => ?_⟩
  · rw [List.map_reverse, List.sum_reverse, l3]
  · rcases t.un i (hP i hi) with h | ⟨j, h1, h2, _, h4⟩
    · exact .inl h.2
    · exact .inr ⟨j, h1, h2, h4⟩
end
/-! the order in which tallest_stack goes -/
theorem srtK_nat {n : Nat} {key : Int → Int} : ∃ P : List Nat, srtK n key = P.map (fun (i : Nat) => (i : Int)) ∧ P.Perm (List.range n) ∧ P.Pairwise fun (a b : Nat) => key (a : Int) ≤ key (b : Int) := by
  have hp : (srtK n key).Perm ((List.range n).map fun (i : Nat) => (i : Int)) := List.mergeSort_perm _ _
  have hs : (srtK n key).Pairwise fun a b => kle key a b = true := List.pairwise_mergeSort (le := kle key) (fun a b c h1 h2 => by
    have h1 := of_decide_eq_true h1
    have h2 := of_decide_eq_true h2
    exact decide_eq_true (by omega)) (fun a b => by
      rw [Bool.or_eq_true]
      rcases Int.le_total (key a) (key b) with z | z
      · exact .inl (decide_eq_true z)
      · exact .inr (decide_eq_true z)) _
  generalize srtK n key = l at *
  have h0 : ∀ x ∈ l, 0 ≤ x := fun x hx => by
    obtain ⟨i, _, rfl⟩ := List.mem_map.mp (hp.mem_iff.mp hx)
    exact Int.natCast_nonneg i
  have e : l = (l.map Int.toNat).map (fun (i : Nat) => (i : Int)) := by
    rw [List.map_map]
    conv => lhs; rw [← List.map_id l]
    exact List.map_congr_left fun x hx => (Int.toNat_of_nonneg (h0 x hx)).symm
  refine ⟨l.map Int.toNat, e, ?_, ?_⟩
  · have := hp.map Int.toNat
    rw [List.map_map] at this
    rw [show (List.range n) = (List.range n).map (Int.toNat ∘ fun (i : Nat) => (i : Int)) from ?_]
    · exact this
    · conv => lhs; rw [← List.map_id (List.range n)]
      exact List.map_congr_left fun x _ => rfl
  · rw [e] at hs
    rw [List.pairwise_map] at hs
    exact hs.imp fun h => of_decide_eq_true h
end Lw
namespace Lw
open Cs
open PySem (Str)
theorem lv_at {n i : Nat} {Lv : Nat → Int} (h : i < n) : L2.atI ((List.range n).map fun i => D.int (Lv i)) (i : Int) = some (.int (Lv i)) := by
  rw [atI_n, List.getElem?_map, List.getElem?_range h]; rfl
theorem lv_fs {p : Fl → Bool} {n : Nat} {Lv : Nat → Int} : allFs p ((List.range n).map fun i => D.int (Lv i)) = true := by
  generalize List.range n = l
  induction l with
  | nil => rfl
  | cons x xs ih => simp [allFs, ih]
theorem lv_mf {g : Fl → Fl} {n : Nat} {Lv : Nat → Int} : mapFs g ((List.range n).map fun i => D.int (Lv i)) = (List.range n).map fun i => D.int (Lv i) := by
  generalize List.range n = l
  induction l with
  | nil => rfl
  | cons x xs ih => rw [List.map_cons, mapFs, ih]; rfl
theorem set_lv {n i : Nat} {v : Int} {Lv : Nat → Int} (h : i < n) : setAt (.int (i : Int)) (.int v) ((List.range n).map fun i => D.int (Lv i)) = some ((List.range n).map fun j => D.int (updI Lv i v j)) := by
  rw [set_r h lv_fs rfl]
  congr 1
  refine List.map_congr_left fun j _ => ?_
  unfold updI
  by_cases e : j = i
  · rw [if_pos e, if_pos e]
  · rw [if_neg e, if_neg e]
theorem ints_mf {g : Fl → Fl} {ys : List Int} : mapFs g (ys.map D.int) = ys.map D.int := by
  induction ys with
  | nil => rfl
  | cons x xs ih => rw [List.map_cons, mapFs, ih]; rfl
theorem ints_fs {p : Fl → Bool} {ys : List Int} : allFs p (ys.map D.int) = true := by
  induction ys with
  | nil => rfl
  | cons x xs ih => simp [allFs, ih]
theorem prec_of {n k : Nat} {lt : Nat → Nat → Bool} {P : List Nat} (hs : Sto n lt) (hp : P.Perm (List.range n)) (hP : P.Pairwise fun (a b : Nat) => ((List.range n).filter fun l => lt a l).length ≤ ((List.range n).filter fun l => lt b l).length) (hk : k < P.length) : P[k] < n ∧ P[k] ∉ P.take k ∧ ∀ j, j < n → lt P[k] j = true → j ∈ P.take k := by
  have hn : P[k] < n := List.mem_range.mp (hp.mem_iff.mp (List.getElem_mem hk))
  have e : P = P.take k ++ P[k] :: P.drop (k + 1) := by
    rw [List.getElem_cons_drop, List.take_append_drop]
  have nd : P.Nodup := hp.nodup_iff.mpr List.nodup_range
  generalize P[k] = i at *
  refine ⟨hn, fun z => ?_, fun j hj h => ?_⟩
  · rw [e] at nd
    exact (List.nodup_append.mp nd).2.2 i z i (by simp) rfl
  · have hm : j ∈ P := hp.mem_iff.mpr (List.mem_range.mpr hj)
    rw [e] at hm hP
    rcases List.mem_append.mp hm with z | z
    · exact z
    · exfalso
      rcases List.mem_cons.mp z with rfl | z
      · rw [hs.ir j hj] at h; cases h
      · have := (List.pairwise_cons.mp (List.pairwise_append.mp hP).2.1).1 j z
        have h2 := flt_less (n := n) (p := fun y => lt j y) (q := fun y => lt i y) (fun y hy e => hs.tr i j y hn hj hy h e) hj h (hs.ir j hj)
        omega
end Lw
namespace Lw
open Cs
open PySem (Str)
def SlT (x : Sl) : Prop := x = .un ∨ ∃ z : Str, x = .dt (.str z)
def Iht (o p : Fl) (zs xs ws : List Str) (k : Nat) (ρ : En) : Prop := ∃ (b : D) (hk : List Str) (hv : List Int) (x5 x6 : Sl), BoxP b ∧ SlT x5 ∧ SlJ x6 ∧ hk.Nodup ∧ hk.length = hv.length ∧ hk.length ≤ k + 1 ∧ (∀ z ∈ ws.take k, z ∈ xs → ∃ v : Int, 1 ≤ v ∧ look z hk (hv.map D.int) = some (.int v)) ∧ ρ = [.dt b, .dt (.lst o (zs.map D.str)), .dt (.lst p (xs.map D.str)), .dt (.dct .ow hk (hv.map D.int)), .dt (.lst .bo (ws.map D.str)), x5, x6]
theorem Iht.put {o p : Fl} {zs xs ws : List Str} {k : Nat} {b : D} {hk : List Str} {hv : List Int} {z : Str} {v : Int} (hb : BoxP b) (h1 : hk.Nodup) (h2 : hk.length = hv.length) (h3 : hk.length ≤ k + 1) (h4 : ∀ z ∈ ws.take k, z ∈ xs → ∃ v : Int, 1 ≤ v ∧ look z hk (hv.map D.int) = some (.int v)) (hw : ws.take (k + 1) = ws.take k ++ [z]) (hv1 : 1 ≤ v) :
    Iht o p zs xs ws (k + 1) [.dt b, .dt (.lst o (zs.map D.str)), .dt (.lst p (xs.map D.str)), .dt (.dct .ow (putD z (.int v) hk (hv.map D.int)).1 (putD z (.int v) hk (hv.map D.int)).2), .dt (.lst .bo (ws.map D.str)), .dt (.str z), .dt (.int v)] := by
  obtain ⟨hk', hv', e, e1, e2, e3, e4⟩ := put_dk (z := z) (v := v) h2
  rw [e]
  refine ⟨b, hk', hv', _, _, hb, .inr ⟨z, rfl⟩, .inr ⟨v, rfl⟩, e3 h1, e1, by omega, fun y hy hx => ?_, rfl⟩
  rw [e4]
  by_cases q : y = z
  · rw [if_pos q]
    exact ⟨v, hv1, rfl⟩
  · rw [if_neg q]
    rw [hw] at hy
    rcases List.mem_append.mp hy with z1 | z1
    · exact h4 y z1 hx
    · exact absurd (List.mem_singleton.mp z1) q
theorem Iht.skip {o p : Fl} {zs xs ws : List Str} {k : Nat} {b : D} {hk : List Str} {hv : List Int} {z : Str} {v : Int} (hb : BoxP b) (h1 : hk.Nodup) (h2 : hk.length = hv.length) (h3 : hk.length ≤ k + 1) (h4 : ∀ z ∈ ws.take k, z ∈ xs → ∃ v : Int, 1 ≤ v ∧ look z hk (hv.map D.int) = some (.int v)) (hw : ws.take (k + 1) = ws.take k ++ [z]) (hx : z ∉ xs) :
    Iht o p zs xs ws (k + 1) [.dt b, .dt (.lst o (zs.map D.str)), .dt (.lst p (xs.map D.str)), .dt (.dct .ow hk (hv.map D.int)), .dt (.lst .bo (ws.map D.str)), .dt (.str z), .dt (.int v)] := by
  refine ⟨b, hk, hv, _, _, hb, .inr ⟨z, rfl⟩, .inr ⟨v, rfl⟩, h1, h2, by omega, fun y hy hx' => ?_, rfl⟩
  rw [hw] at hy
  rcases List.mem_append.mp hy with z1 | z1
  · exact h4 y z1 hx'
  · rw [List.mem_singleton.mp z1] at hx'
    exact absurd hx' hx
theorem heights_w {b : D} {o p : Fl} {zs xs : List Str} {K : D → En → Prop} {E : XK0} (hb : BoxP b) (hz : zs.length ≤ 100)
    (h : ∀ (hk : List Str) (hv : List Int) b', BoxP b' → hk.Nodup → hk.length = hv.length → hk.length ≤ zs.length + 1 → (∀ z ∈ zs, z ∈ xs → ∃ v : Int, 1 ≤ v ∧ look z hk (hv.map D.int) = some (.int v)) → K (.dct .ow hk (hv.map D.int)) [.dt b', .un, .un]) :
    resW (m_law_heights [b, .lst o (zs.map D.str), .lst p (xs.map D.str)]) K E := by
  rw [m_law_heights_def]
  refine resW_run rfl ?_
  unfold d_law_heights
  rw [post_seq]
  simp [d_law_heights_s1, dDisp0, frm]
  rw [post_seq]
  simp [d_law_heights_s2]
  rw [post_seq]
  simp [d_law_heights_s3]
  refine take_w hb (by omega) (by omega) fun t b t0 t1 hb => ?_
  have hgo : ∀ ws : List Str, (∀ z ∈ zs, z ∈ ws) → ws.length = zs.length → Post (flK [0] 3 K) (fun c ks xs ρ => E c ks xs (outs [0] 3 ρ)) (dSeq d_law_heights_s4 (dSeq d_law_heights_s5 d_law_heights_s6) [.dt b, .dt (.lst o (zs.map D.str)), .dt (.lst p (xs.map D.str)), .dt (.dct .ow [] []), .dt (.lst .ow (ws.map D.str)), .un, .un]) := fun ws hw hl => by
    rw [post_seq]
    simp [d_law_heights_s4]
    refine take_w hb (by omega) (by omega) fun t b t0 t1 hb => ?_
    have hgo2 : ∀ (hk0 : List Str) (hv0 : List Int), hk0.Nodup → hk0.length = hv0.length → hk0.length ≤ 1 → Post (flK [0] 3 K) (fun c ks xs ρ => E c ks xs (outs [0] 3 ρ)) (dSeq d_law_heights_s5 d_law_heights_s6 [.dt b, .dt (.lst o (zs.map D.str)), .dt (.lst p (xs.map D.str)), .dt (.dct .ow hk0 (hv0.map D.int)), .dt (.lst .ow (ws.map D.str)), .un, .un]) := fun hk0 hv0 n0 l0 m0 => by
      rw [post_seq]
      simp [d_law_heights_s5, itemsOf]
      refine for_inv (Iht o p zs xs ws) ⟨b, hk0, hv0, .un, .un, hb, .inl rfl, .inl rfl, n0, l0, by omega, by simp, rfl⟩ ?_ ?_
      · rintro k d ρ hj ⟨b, hk, hv, x5, x6, hb, h5, h6, h1, h2, h3, h4, rfl⟩
        obtain ⟨hk1, rfl⟩ := getE_map hj
        have htk : ws.take (k + 1) = ws.take k ++ [ws[k]] := (List.take_append_getElem hk1).symm
        generalize ws[k] = z at *
        rw [tgW_one]
        refine ⟨by simp, ?_⟩
        unfold d_law_heights_b7
        rw [post_seq]
        simp
        refine take_w hb (by omega) (by omega) fun u b u0 u1 hb => ?_
        try simp
        refine take_w hb (by omega) (by omega) fun v b v0 v1 hb => ?_
        try simp
        refine ⟨by decide, take_w hb (by omega) (by omega) fun t b t0 t1 hb => ?_⟩
        have ev : ∃ w : Int, 1 ≤ w ∧ L2.atI [D.int (1 + u), D.int (1 + v)] t = some (.int w) := by
          have : t = 0 ∨ t = 1 := by omega
          rcases this with rfl | rfl
          · exact ⟨1 + u, by omega, rfl⟩
          · exact ⟨1 + v, by omega, rfl⟩
        obtain ⟨w, hw1, ew⟩ := ev
        have hll : hk.length < lim := by
          simp only [lim]
          omega
        simp [ew]
        by_cases hx : z ∈ xs
        · simp [hx, hll]
          exact Iht.put hb h1 h2 h3 h4 htk hw1
        · simp [hx]
          refine take_w hb (by omega) (by omega) fun t b t0 t1 hb => ?_
          by_cases ht : t = 0
          · subst ht
            simp [hll]
            exact Iht.put hb h1 h2 h3 h4 htk hw1
          · simp [ht]
            exact Iht.skip hb h1 h2 h3 h4 htk hx
      · rintro ρ ⟨b, hk, hv, x5, x6, hb, h5, h6, h1, h2, h3, h4, rfl⟩
        rw [List.length_map, List.take_length] at h4
        rw [List.length_map] at h3
        have := h hk hv b hb h1 h2 (by omega) fun z hz hx => h4 z (hw z hz) hx
        simp [d_law_heights_s6]
        rw [outs_03 hb.noBo]
        refine ⟨⟨rfl, ?_⟩, this⟩
        have hbo := hb.noBo
        rcases h5 with rfl | ⟨y5, rfl⟩ <;> rcases h6 with rfl | ⟨y6, rfl⟩ <;> simp [noBoAt, ints_fs, hbo]
    by_cases ht : t = 1
    · subst ht
      simp
      exact hgo2 ["zzzzzzzz"] [7] (by decide) rfl (Nat.le_refl _)
    · simp [ht]
      exact hgo2 [] [] .nil rfl (Nat.zero_le _)
  by_cases ht : t = 1
  · subst ht
    simp
    rw [← List.map_reverse]
    exact hgo _ (fun z hz => List.mem_reverse.mpr hz) (by simp)
  · simp [ht]
    exact hgo _ (fun z hz => hz) rfl
end Lw
namespace Lw
open Cs
open PySem (Str)
/-! the levels are there, and there is one way only -/
theorem bas_ex {Lv : Nat → Int} {U : Fo} {i : Nat} : ∀ (m : Nat) (T : List Nat), T.length = m → ∃ b U', Bas Lv U i T b U' := by
  intro m
  induction m with
  | zero =>
    intro T h
    rw [List.length_eq_zero_iff.mp h]
    exact ⟨_, _, .zero⟩
  | succ m ih =>
    intro T h
    rcases List.eq_nil_or_concat T with rfl | ⟨ws, l, rfl⟩
    · cases h
    · rw [List.concat_eq_append] at *
      obtain ⟨b, U', h⟩ := ih ws (by simpa using h)
      by_cases g : Lv l > b
      · exact ⟨_, _, h.new g⟩
      · exact ⟨_, _, h.old g⟩
theorem lv_ex {n : Nat} {lt : Nat → Nat → Bool} {own : Nat → Int} (hs : Sto n lt) : ∃ Lv U P, Tlv n lt own Lv U P ∧ ∀ i, i < n → i ∈ P := by
  obtain ⟨P, _, p1, p2⟩ := srtK_nat (n := n) (key := fun j => (((List.range n).filter fun l => lt j.toNat l).length : Int))
  have p2 : P.Pairwise fun (a b : Nat) => ((List.range n).filter fun l => lt a l).length ≤ ((List.range n).filter fun l => lt b l).length := p2.imp fun {a b} h => by
    simp at h
    exact h
  have key : ∀ k, k ≤ P.length → ∃ Lv U, Tlv n lt own Lv U (P.take k) := by
    intro k
    induction k with
    | zero => intro _; exact ⟨_, _, .zero⟩
    | succ k ih =>
      intro hk
      obtain ⟨Lv, U, t⟩ := ih (by omega)
      have hk1 : k < P.length := by omega
      obtain ⟨h1, h2, h3⟩ := prec_of hs p1 p2 hk1
      obtain ⟨b, U', hb⟩ := bas_ex (Lv := Lv) (U := U) (i := P[k]) _ ((List.range n).filter fun l => lt P[k] l) rfl
      have := t.step hs h1 h2 h3 hb
      rw [List.take_append_getElem hk1] at this
      exact ⟨_, _, this⟩
  obtain ⟨Lv, U, t⟩ := key P.length (Nat.le_refl _)
  rw [List.take_length] at t
  exact ⟨Lv, U, P, t, fun i hi => p1.mem_iff.mpr (List.mem_range.mpr hi)⟩
/-- levels -/
structure LvP (n : Nat) (lt : Nat → Nat → Bool) (own Lv : Nat → Int) : Prop where
  ge : ∀ i, i < n → ∀ j, j < n → lt i j = true → Lv j + own i ≤ Lv i
  un : ∀ i, i < n → Lv i = own i ∨ ∃ j, j < n ∧ lt i j = true ∧ Lv i = Lv j + own i
theorem Tal.lvp {n : Nat} {lt : Nat → Nat → Bool} {own Lv : Nat → Int} {h : Int} {S : List Nat} (t : Tal n lt own h S Lv) : LvP n lt own Lv := ⟨t.ge, t.un⟩
theorem lvp_ex {n : Nat} {lt : Nat → Nat → Bool} {own : Nat → Int} (hs : Sto n lt) : ∃ Lv, LvP n lt own Lv := by
  obtain ⟨Lv, U, P, t, hP⟩ := lv_ex (own := own) hs
  refine ⟨Lv, fun i hi => t.ge i (hP i hi), fun i hi => ?_⟩
  rcases t.un i (hP i hi) with h | ⟨j, h1, h2, _, h4⟩
  · exact .inl h.2
  · exact .inr ⟨j, h1, h2, h4⟩
theorem LvP.own_le {n : Nat} {lt : Nat → Nat → Bool} {own Lv : Nat → Int} (h : LvP n lt own Lv) (hs : Sto n lt) (ho : ∀ i, i < n → 0 ≤ own i) : ∀ m i, i < n → ((List.range n).filter fun y => lt i y).length ≤ m → own i ≤ Lv i := by
  intro m
  induction m with
  | zero =>
    intro i hi hm
    rcases h.un i hi with e | ⟨j, h1, h2, _⟩
    · omega
    · have := List.length_pos_of_mem (List.mem_filter (p := fun y => lt i y).mpr ⟨List.mem_range.mpr h1, h2⟩)
      omega
  | succ m ih =>
    intro i hi hm
    rcases h.un i hi with e | ⟨j, h1, h2, e⟩
    · omega
    · have hl := flt_less (n := n) (p := fun y => lt j y) (q := fun y => lt i y) (fun y hy z => hs.tr i j y hi h1 hy h2 z) h1 h2 (hs.ir j h1)
      have := ih j h1 (by omega)
      have := ho j h1
      omega
theorem LvP.pos {n : Nat} {lt : Nat → Nat → Bool} {own Lv : Nat → Int} (h : LvP n lt own Lv) (hs : Sto n lt) (ho : ∀ i, i < n → 0 ≤ own i) {i : Nat} (hi : i < n) : own i ≤ Lv i := h.own_le hs ho _ i hi (Nat.le_refl _)
theorem LvP.uniq {n : Nat} {lt : Nat → Nat → Bool} {own Lv Lw : Nat → Int} (h : LvP n lt own Lv) (h' : LvP n lt own Lw) (hs : Sto n lt) (ho : ∀ i, i < n → 0 ≤ own i) : ∀ m i, i < n → ((List.range n).filter fun y => lt i y).length ≤ m → Lv i = Lw i := by
  intro m
  induction m with
  | zero =>
    intro i hi hm
    have no : ∀ j, j < n → lt i j = true → False := fun j h1 h2 => by
      have := List.length_pos_of_mem (List.mem_filter (p := fun y => lt i y).mpr ⟨List.mem_range.mpr h1, h2⟩)
      omega
    rcases h.un i hi with e | ⟨j, h1, h2, _⟩
    · rcases h'.un i hi with e' | ⟨j, h1, h2, _⟩
      · omega
      · exact (no j h1 h2).elim
    · exact (no j h1 h2).elim
  | succ m ih =>
    intro i hi hm
    have lo : ∀ j, j < n → lt i j = true → Lv j = Lw j := fun j h1 h2 => by
      have hl := flt_less (n := n) (p := fun y => lt j y) (q := fun y => lt i y) (fun y hy z => hs.tr i j y hi h1 hy h2 z) h1 h2 (hs.ir j h1)
      exact ih j h1 (by omega)
    have p1 := h.pos hs ho hi
    have p2 := h'.pos hs ho hi
    rcases h.un i hi with e | ⟨j, h1, h2, e⟩
    · rcases h'.un i hi with e' | ⟨j, h1, h2, e'⟩
      · omega
      · have := h.ge i hi j h1 h2
        have := lo j h1 h2
        omega
    · have g := h'.ge i hi j h1 h2
      have l := lo j h1 h2
      rcases h'.un i hi with e' | ⟨j', h1', h2', e'⟩
      · omega
      · have g' := h.ge i hi j' h1' h2'
        have l' := lo j' h1' h2'
        omega
/-- the law's own levels on their way: k rounds done, in this one a chairs and of the next one b chairs below -/
structure Stt (n : Nat) (lt : Nat → Nat → Bool) (own Lv f : Nat → Int) (k a b : Nat) : Prop where
  lo : ∀ i, i < n → own i ≤ f i
  hi : ∀ i, i < n → f i ≤ Lv i
  eq1 : ∀ i, i < n → ((List.range n).filter fun y => lt i y).length < k → f i = Lv i
  eq2 : ∀ i, i < n → i < a → ((List.range n).filter fun y => lt i y).length ≤ k → f i = Lv i
  ed : ((List.range n).filter fun y => lt a y).length ≤ k → ∀ j, j < n → j < b → lt a j = true → Lv j + own a ≤ f a
section
variable {n k a b : Nat} {lt : Nat → Nat → Bool} {own Lv f : Nat → Int}
theorem Stt.zero (h : LvP n lt own Lv) (hs : Sto n lt) (ho : ∀ i, i < n → 0 ≤ own i) : Stt n lt own Lv own 0 0 0 := ⟨fun i _ => Int.le_refl _, fun i hi => h.pos hs ho hi, fun i _ z => by omega, fun i _ z => by omega, fun _ j _ z => by omega⟩
theorem Stt.no (t : Stt n lt own Lv f k a b) (h : lt a b = false) : Stt n lt own Lv f k a (b + 1) := ⟨t.lo, t.hi, t.eq1, t.eq2, fun c j h1 h2 h3 => by
  by_cases e : j = b
  · rw [e, h] at h3; cases h3
  · exact t.ed c j h1 (by omega) h3⟩
theorem Stt.up (t : Stt n lt own Lv f k a b) (h : LvP n lt own Lv) (hs : Sto n lt) (ha : a < n) (hb : b < n) (hl : lt a b = true) : Stt n lt own Lv (updI f a (max (f a) (f b + own a))) k a (b + 1) := by
  have g1 := h.ge a ha b hb hl
  have g2 := t.hi b hb
  have g3 := t.hi a ha
  have g4 := t.lo a ha
  have new : updI f a (max (f a) (f b + own a)) a = max (f a) (f b + own a) := by unfold updI; rw [if_pos rfl]
  have old : ∀ i, i ≠ a → updI f a (max (f a) (f b + own a)) i = f i := fun i e => by unfold updI; rw [if_neg e]
  refine ⟨fun i hi => ?_, fun i hi => ?_, fun i hi c => ?_, fun i hi h1 c => ?_, fun c j h1 h2 h3 => ?_⟩
  · by_cases e : i = a
    · subst e; rw [new]; omega
    · rw [old i e]; exact t.lo i hi
  · by_cases e : i = a
    · subst e; rw [new]; omega
    · rw [old i e]; exact t.hi i hi
  · by_cases e : i = a
    · subst e
      have := t.eq1 i hi c
      rw [new]; omega
    · rw [old i e]; exact t.eq1 i hi c
  · rw [old i (by omega)]; exact t.eq2 i hi h1 c
  · rw [new]
    by_cases e : j = b
    · subst e
      have hlt := flt_less (n := n) (p := fun y => lt j y) (q := fun y => lt a y) (fun y hy z => hs.tr a j y ha hb hy hl z) hb hl (hs.ir j hb)
      have := t.eq1 j hb (by omega)
      omega
    · have := t.ed c j h1 (by omega) h3
      omega
theorem Stt.row (t : Stt n lt own Lv f k a n) (h : LvP n lt own Lv) (ha : a < n) : Stt n lt own Lv f k (a + 1) 0 := ⟨t.lo, t.hi, t.eq1, fun i hi h1 c => by
  by_cases e : i = a
  · subst e
    have g3 := t.hi i hi
    have g4 := t.lo i hi
    rcases h.un i hi with e | ⟨j, h1, h2, e⟩
    · omega
    · have := t.ed c j h1 h1 h2
      omega
  · exact t.eq2 i hi (by omega) c, fun _ j _ z => by omega⟩
theorem Stt.rnd (t : Stt n lt own Lv f k n 0) : Stt n lt own Lv f (k + 1) 0 0 := ⟨t.lo, t.hi, fun i hi c => t.eq2 i hi hi (by omega), fun i _ z => by omega, fun _ j _ z => by omega⟩
theorem Stt.fin (t : Stt n lt own Lv f n 0 0) (hs : Sto n lt) : ∀ i, i < n → f i = Lv i := fun i hi => t.eq1 i hi (by
  have := flt_less (n := n) (p := fun y => lt i y) (q := fun _ => true) (fun _ _ _ => rfl) hi rfl (hs.ir i hi)
  have e : (List.range n).filter (fun _ => true) = List.range n := List.filter_eq_self.mpr fun _ _ => rfl
  rw [e, List.length_range] at this
  exact this)
end
end Lw
namespace Lw
open Cs
open PySem (Str)
/-! the law's own levels -/
theorem above_w {n : Nat} {R : Nat → Nat → Bool} {cs : List Nat} {o1 o2 : Fl} {i j : Nat} {K : D → En → Prop} {E : XK0} (hc : CsP n cs) (hi : i < cs.length) (hj : j < cs.length) (h : K (.bl (rkA R cs i j)) [.un, .un, .un, .un]) :
    resW (m_law_above [matD o1 o1 n R, .lst o2 (nat0 cs), .int (i : Int), .int (j : Int)]) K E := by
  rw [m_law_above_def]
  refine resW_run rfl ?_
  unfold d_law_above
  have nl : noOw (flLend o1) = true := by cases o1 <;> rfl
  have f1 := nat0_at (w := cs) hi
  have f0 := nat0_at (w := cs) hj
  have q1 := hc.at hi
  have q0 := hc.at hj
  have hr : rkA R cs i j = (R (cs.getD i 0) (cs.getD j 0) && (decide (j < i) || !R (cs.getD j 0) (cs.getD i 0))) := rfl
  generalize cs.getD i 0 = ia at *
  generalize cs.getD j 0 = ib at *
  have m1 := mat_at (p := flLend o1) (n := n) (R := R) q1
  have m2 := bls_at (P := R ia) q0
  have m3 := mat_at (p := flLend o1) (n := n) (R := R) q0
  have m4 := bls_at (P := R ib) q1
  simp [frm, mapFs_mat, f1, f0, m1, m2, m3, m4, nl, allFs_bls]
  rw [hr] at h
  cases z1 : R ia ib with
  | false => rw [z1] at h; simpa [flwOk] using h
  | true =>
    rw [z1] at h
    by_cases z2 : j < i
    · simpa [flwOk, z2] using h
    · simpa [flwOk, z2] using h
abbrev Flv (n : Nat) (R : Nat → Nat → Bool) (cs : List Nat) (own : Nat → Int) (o1 o2 o3 : Fl) (f : Nat → Int) (x4 x5 x6 : Sl) : En := [.dt (matD o1 o1 n R), .dt (.lst o2 (nat0 cs)), .dt (.lst o3 ((List.range cs.length).map fun i => D.int (own i))), .dt (.lst .ow ((List.range cs.length).map fun i => D.int (f i))), x4, x5, x6]
def Ilv (n : Nat) (R : Nat → Nat → Bool) (cs : List Nat) (own Lv : Nat → Int) (o1 o2 o3 : Fl) (k a b : Nat) (ρ : En) : Prop := ∃ f x4 x5 x6, Stt cs.length (rkA R cs) own Lv f k a b ∧ ρ = Flv n R cs own o1 o2 o3 f x4 x5 x6
def Jlv (n : Nat) (R : Nat → Nat → Bool) (cs : List Nat) (own Lv : Nat → Int) (o1 o2 o3 : Fl) (k a : Nat) (x4 : Sl) (b : Nat) (ρ : En) : Prop := ∃ f x6, Stt cs.length (rkA R cs) own Lv f k a b ∧ ρ = Flv n R cs own o1 o2 o3 f x4 (.dt (.int (a : Int))) x6
theorem levels_w {n : Nat} {R : Nat → Nat → Bool} {cs : List Nat} {own Lv : Nat → Int} {o1 o2 o3 : Fl} {K : D → En → Prop} {E : XK0} (hc : CsP n cs) (hl : cs.length ≤ 100) (hs : Sto cs.length (rkA R cs)) (ho : ∀ i, i < cs.length → 0 ≤ own i) (hv : LvP cs.length (rkA R cs) own Lv)
    (h : K (.lst .ow ((List.range cs.length).map fun i => D.int (Lv i))) [.un, .un, .un]) : resW (m_law_levels [matD o1 o1 n R, .lst o2 (nat0 cs), .lst o3 ((List.range cs.length).map fun i => D.int (own i))]) K E := by
  rw [m_law_levels_def]
  refine resW_run rfl ?_
  unfold d_law_levels
  rw [post_seq]
  simp [frm, lv_mf, lv_fs, mapFs_mat]
  rw [post_seq]
  simp
  refine ⟨by omega, for_inv (fun k ρ => Ilv n R cs own Lv o1 o2 o3 k 0 0 ρ) ⟨own, _, _, _, .zero hv hs ho, rfl⟩ ?_ ?_⟩
  · rintro k d ρ hk ⟨f, x4, x5, x6, t, rfl⟩
    obtain ⟨hk1, rfl⟩ := rng_get hk
    rw [tgW_one]
    refine ⟨by simp, ?_⟩
    unfold d_law_levels_b2
    simp
    refine ⟨by omega, for_inv (fun a ρ => Ilv n R cs own Lv o1 o2 o3 k a 0 ρ) ⟨f, _, _, _, t, rfl⟩ ?_ ?_⟩
    · rintro a d ρ ha ⟨f, x4, x5, x6, t, rfl⟩
      obtain ⟨ha1, rfl⟩ := rng_get ha
      have ha2 : a < cs.length := by omega
      rw [tgW_one]
      refine ⟨by simp, ?_⟩
      unfold d_law_levels_b3
      simp
      refine ⟨by omega, for_inv (fun b ρ => Jlv n R cs own Lv o1 o2 o3 k a x4 b ρ) ⟨f, _, t, rfl⟩ ?_ ?_⟩
      · rintro b d ρ hb ⟨f, x6, t, rfl⟩
        obtain ⟨hb1, rfl⟩ := rng_get hb
        have hb2 : b < cs.length := by omega
        rw [tgW_one]
        refine ⟨by simp, ?_⟩
        unfold d_law_levels_b4
        by_cases e : a = b
        · subst e
          simp
          exact ⟨f, _, t.no (hs.ir a ha2), rfl⟩
        · have e' : ¬ (a : Int) = (b : Int) := by omega
          have e1 := lv_at (Lv := f) ha2
          have e2 := lv_at (Lv := f) hb2
          have e3 := lv_at (Lv := own) ha2
          simp [e', mapFs_mat]
          refine above_w hc ha2 hb2 ?_
          cases z : rkA R cs a b with
          | false =>
            simp
            exact ⟨f, _, t.no z, rfl⟩
          | true =>
            have em : ∀ x y : Int, pMax (.int x) (.int y) = .sc (.int (max x y)) := fun x y => by
              unfold pMax
              dsimp only
              by_cases g : y > x
              · rw [if_pos g, Int.max_eq_right (by omega)]
              · rw [if_neg g, Int.max_eq_left (by omega)]
            simp [e1, e2, e3, em, set_lv ha2]
            exact ⟨_, _, t.up hv hs ha2 hb2 z, rfl⟩
      · rintro ρ ⟨f, x6, t, rfl⟩
        rw [rng_len] at t
        refine ⟨f, _, _, _, Stt.row (by simpa using t) hv ha2, rfl⟩
    · rintro ρ ⟨f, x4, x5, x6, t, rfl⟩
      rw [rng_len] at t
      refine ⟨f, _, _, _, Stt.rnd (by simpa using t), rfl⟩
  · rintro ρ ⟨f, x4, x5, x6, t, rfl⟩
    rw [rng_len] at t
    have := Stt.fin (by simpa using t) hs
    have e : (List.range cs.length).map (fun i => D.int (f i)) = (List.range cs.length).map fun i => D.int (Lv i) := List.map_congr_left fun i hi => by rw [this i (List.mem_range.mp hi)]
    rw [seqK_nx]
    simp
    rw [e]
    exact ⟨lv_fs, h⟩
end Lw
namespace Lw
open Cs
open PySem (Str)
/-! stacks, checked -/
def idxT (n : Nat) (xs : List Int) : Bool := decide xs.Nodup && xs.all fun x => decide (0 ≤ x ∧ x < (n : Int))
theorem idxT_pre {n : Nat} {ys zs : List Int} (h : idxT n (ys ++ zs) = true) : idxT n ys = true := by
  unfold idxT at h ⊢
  obtain ⟨h1, h2⟩ := Bool.and_eq_true_iff.mp h
  rw [List.all_append] at h2
  rw [decide_eq_true (List.nodup_append.mp (of_decide_eq_true h1)).1, (Bool.and_eq_true_iff.mp h2).1]
  rfl
theorem idxT_snoc {n : Nat} {ys : List Int} {x : Int} : idxT n (ys ++ [x]) = (idxT n ys && (decide (0 ≤ x ∧ x < (n : Int)) && !decide (x ∈ ys))) := by
  unfold idxT
  rw [List.all_append]
  by_cases h1 : ys.Nodup <;> by_cases h2 : x ∈ ys
  · rw [decide_eq_true h2, decide_eq_false (p := (ys ++ [x]).Nodup) fun z => (List.nodup_append.mp z).2.2 x h2 x (by simp) rfl]
    simp
  · rw [decide_eq_false h2, decide_eq_true (p := (ys ++ [x]).Nodup) (List.nodup_append.mpr ⟨h1, by simp, fun a ha b hb e => h2 (by rw [List.mem_singleton.mp hb] at e; rw [← e]; exact ha)⟩), decide_eq_true h1]
    simp
  · rw [decide_eq_false h1, decide_eq_false (p := (ys ++ [x]).Nodup) fun z => h1 (List.nodup_append.mp z).1]
    simp
  · rw [decide_eq_false h1, decide_eq_false (p := (ys ++ [x]).Nodup) fun z => h1 (List.nodup_append.mp z).1]
    simp
theorem idxT_bad {n k : Nat} {xs : List Int} (h : idxT n (xs.take k) = false) : idxT n xs = false := by
  cases e : idxT n xs with
  | false => rfl
  | true =>
    rw [← List.take_append_drop k xs] at e
    rw [idxT_pre e] at h
    cases h
theorem indexesT_w {o : Fl} {xs : List Int} {n : Nat} {ni : Int} {K : D → En → Prop} {E : XK0} (hni : (n : Int) = ni) (hl : xs.length ≤ 1000) (h : K (.bl (idxT n xs)) [.un, .un]) : resW (m_law_indexes [.lst o (xs.map D.int), .int ni]) K E := by
  rw [m_law_indexes_def]
  refine resW_run rfl ?_
  unfold d_law_indexes
  have nl : noOw (flLend o) = true := by cases o <;> rfl
  rw [post_seq]
  simp [frm]
  refine int_list_w hl ?_
  simp
  rw [post_seq]
  simp
  refine ⟨by omega, ?_⟩
  refine for_inv (fun k ρ => ∃ x2, ρ = [.dt (.lst o (xs.map D.int)), .dt (.int ni), x2] ∧ idxT n (xs.take k) = true) ⟨.un, rfl, by simp [idxT]⟩ ?_ ?_
  · rintro k d ρ hk ⟨x2, rfl, hV⟩
    obtain ⟨hk1, rfl⟩ := rng_get hk
    have e1 := getE_int hk1
    have ht : xs.take (k + 1) = xs.take k ++ [xs[k]] := (List.take_append_getElem hk1).symm
    have hs := idxT_snoc (n := n) (ys := xs.take k) (x := xs[k])
    rw [← ht, hV] at hs
    have hbad := idxT_bad (n := n) (k := k + 1) (xs := xs)
    generalize xs[k] = x at *
    rw [tgW_one]
    refine ⟨by simp, ?_⟩
    unfold d_law_indexes_b3
    simp [e1, nl]
    rw [cutI_take (by omega), pIn_li]
    simp only [prW, blW_bl]
    have bad : (decide (0 ≤ x ∧ x < (n : Int)) && !decide (x ∈ xs.take k)) = false → K (.bl false) [.un, .un] := fun z => by
      rw [z, Bool.and_false] at hs
      rw [hbad hs] at h
      exact h
    by_cases c1 : x < 0
    · rw [if_pos c1]
      refine bad ?_
      rw [decide_eq_false (by omega)]
      rfl
    · rw [if_neg c1]
      by_cases c2 : ni ≤ x
      · rw [if_pos c2]
        refine bad ?_
        rw [decide_eq_false (by omega)]
        rfl
      · rw [if_neg c2]
        by_cases c3 : x ∈ xs.take k
        · rw [if_pos (by simp [inN, c3])]
          exact bad (by simp [c3])
        · rw [if_neg (by simp [inN, c3]), hs, decide_eq_true (by omega)]
          simp [c3]
  · rintro ρ ⟨x2, rfl, hV⟩
    rw [rng_len, List.take_length] at hV
    rw [hV] at h
    dsimp only [seqK, flK]
    simp
    exact h
theorem are_chairsT_w {o p : Fl} {xs : List Int} {ds : List D} {K : D → En → Prop} {E : XK0} (hl : xs.length ≤ 1000) (h : K (.bl (idxT ds.length xs)) [.un, .un]) : resW (m_are_chairs [.lst o (xs.map D.int), .lst p ds]) K E := by
  rw [m_are_chairs_def]
  refine resW_run rfl ?_
  unfold d_are_chairs
  have nl : noOw (flLend o) = true := by cases o <;> rfl
  rw [post_seq]
  simp [frm]
  rw [post_seq]
  simp
  refine ⟨nl, ?_⟩
  refine for_inv (fun k ρ => ∃ x3, ρ = [.dt (.lst (flLend o) (xs.map D.int)), .dt (.lst p ds), .dt (.lst .ow ((xs.take k).map D.int)), x3] ∧ idxT ds.length (xs.take k) = true ∧ (x3 = .un ∨ ∃ z : Int, x3 = .dt (.int z))) ⟨.un, rfl, by simp [idxT], .inl rfl⟩ ?_ ?_
  · rintro k d ρ hk ⟨x3, rfl, hV, h3⟩
    obtain ⟨x, hx, rfl⟩ := map_get hk
    have hk1 := (List.getElem?_eq_some_iff.mp hx).1
    have ht : xs.take (k + 1) = xs.take k ++ [x] := take_snoc hx
    have hs := idxT_snoc (n := ds.length) (ys := xs.take k) (x := x)
    rw [← ht, hV] at hs
    have hbad := idxT_bad (n := ds.length) (k := k + 1) (xs := xs)
    rw [tgW_one]
    refine ⟨by simp, ?_⟩
    unfold d_are_chairs_b2
    rw [post_seq]
    have bad : (decide (0 ≤ x ∧ x < (ds.length : Int)) && !decide (x ∈ xs.take k)) = false → K (.bl false) [.un, .un] := fun z => by
      rw [z, Bool.and_false] at hs
      rw [hbad hs] at h
      exact h
    have hyl : (xs.take k).length ≤ 1000 := by rw [List.length_take]; omega
    have htm : (xs.take k).map D.int ++ [D.int x] = (xs.take (k + 1)).map D.int := by rw [ht]; simp
    generalize xs.take k = ys at *
    simp [pIn_li]
    by_cases c1 : 0 ≤ x
    · rw [if_pos c1]
      by_cases c2 : x < (ds.length : Int)
      · rw [if_pos c2]
        by_cases c3 : x ∈ ys
        · rw [if_pos (by simp [inN, c3])]
          exact ⟨⟨rfl, by simp [noBoAt]⟩, bad (by simp [c3])⟩
        · rw [if_neg (by simp [inN, c3])]
          refine ⟨by simp only [lim]; omega, _, ⟨?_, rfl⟩, ?_, .inr ⟨x, rfl⟩⟩
          · rw [List.map_take] at htm
            exact htm
          · rw [hs, decide_eq_true ⟨c1, c2⟩]
            simp [c3]
      · rw [if_neg c2]
        exact ⟨⟨rfl, by simp [noBoAt]⟩, bad (by rw [decide_eq_false fun z => c2 z.2]; rfl)⟩
    · rw [if_neg c1]
      exact ⟨⟨rfl, by simp [noBoAt]⟩, bad (by rw [decide_eq_false fun z => c1 z.1]; rfl)⟩
  · rintro ρ ⟨x3, rfl, hV, h3⟩
    rw [List.length_map, List.take_length] at hV
    rw [hV] at h
    refine ⟨⟨rfl, by rcases h3 with rfl | ⟨z, rfl⟩ <;> simp [noBoAt]⟩, ?_⟩
    dsimp only [seqK, flK]
    simp
    exact h
end Lw
namespace Lw
open Cs
open PySem (Str)
def stB4 (R : Nat → Nat → Bool) (cs s : List Nat) (m : Nat) : Bool := (List.range m).all fun k => R (cs.getD (s.getD (k + 1) 0) 0) (cs.getD (s.getD k 0) 0)
theorem stB_snoc {R : Nat → Nat → Bool} {cs s : List Nat} {m : Nat} : stB4 R cs s (m + 1) = (stB4 R cs s m && R (cs.getD (s.getD (m + 1) 0) 0) (cs.getD (s.getD m 0) 0)) := by
  unfold stB4
  rw [List.range_succ, List.all_append]
  simp
theorem stB_bad {R : Nat → Nat → Bool} {cs s : List Nat} {m n : Nat} (h : stB4 R cs s m = false) (hn : m ≤ n) : stB4 R cs s n = false := by
  cases e : stB4 R cs s n with
  | false => rfl
  | true =>
    unfold stB4 at e h
    rw [List.all_eq_true] at e
    rw [List.all_eq_false] at h
    obtain ⟨k, hk, hb⟩ := h
    exact absurd (e k (List.mem_range.mpr (Nat.lt_of_lt_of_le (List.mem_range.mp hk) hn))) hb
theorem lstandsT_w {n : Nat} {R : Nat → Nat → Bool} {cs s : List Nat} {o1 o2 o3 : Fl} {K : D → En → Prop} {E : XK0} (hc : CsP n cs) (hl : s.length ≤ 1000) (hs : ∀ x ∈ s, x < cs.length) (h : K (.bl (stB4 R cs s (s.length - 1))) [.un, .un, .un]) :
    resW (m_law_stands [matD o1 o1 n R, .lst o2 (nat0 cs), .lst o3 (nat0 s)]) K E := by
  rw [m_law_stands_def]
  refine resW_run rfl ?_
  unfold d_law_stands
  have nl : noOw (flLend o1) = true := by cases o1 <;> rfl
  rw [post_seq]
  simp [frm]
  refine ⟨by omega, for_inv (fun k ρ => ∃ x3, ρ = [.dt (matD o1 o1 n R), .dt (.lst o2 (nat0 cs)), .dt (.lst o3 (nat0 s)), x3] ∧ stB4 R cs s k = true) ⟨.un, rfl, rfl⟩ ?_ ?_⟩
  · rintro k d ρ hk ⟨x3, rfl, hV⟩
    obtain ⟨hk1, rfl⟩ := rng_get hk
    have hk2 : k + 1 < s.length := by omega
    rw [tgW_one]
    refine ⟨by simp, ?_⟩
    unfold d_law_stands_b1
    simp [mapFs_mat]
    have ga : ∀ i, i < s.length → s.getD i 0 < cs.length ∧ s.getD i 0 ∈ s := fun i hi => by
      rw [List.getD_eq_getElem?_getD, List.getElem?_eq_getElem hi]
      exact ⟨hs _ (List.getElem_mem hi), List.getElem_mem hi⟩
    have hsn := stB_snoc (R := R) (cs := cs) (s := s) (m := k)
    rw [hV] at hsn
    have hbad := fun z => stB_bad (R := R) (cs := cs) (s := s) (m := k + 1) (n := s.length - 1) z (by omega)
    have k2 : ((k + 1 : Nat) : Int) = (k : Int) + 1 := by omega
    have e1 := nat0_at (w := s) hk2
    rw [k2] at e1
    have e0 := nat0_at (w := s) (k := k) (by omega)
    have k1 : (1 : Int) + (k : Int) = (k : Int) + 1 := by omega
    have k0 : (k : Int) + 1 - 1 = (k : Int) := by omega
    obtain ⟨g1, _⟩ := ga (k + 1) hk2
    obtain ⟨g0, _⟩ := ga k (by omega)
    generalize s.getD (k + 1) 0 = a at *
    generalize s.getD k 0 = b at *
    have f1 := nat0_at (w := cs) g1
    have f0 := nat0_at (w := cs) g0
    have q1 := hc.at g1
    have q0 := hc.at g0
    generalize cs.getD a 0 = ia at *
    generalize cs.getD b 0 = ib at *
    have m1 := mat_at (p := flLend o1) (n := n) (R := R) q1
    have m2 := bls_at (P := R ia) q0
    rw [k1, k0]
    simp [e1, e0, f1, f0, m1, m2, nl, allFs_bls]
    by_cases hr : R ia ib = true
    · rw [if_pos hr, hsn, hr]
      rfl
    · rw [if_neg hr]
      have hr2 : R ia ib = false := by simpa using hr
      rw [hr2, Bool.and_false] at hsn
      rw [hbad hsn] at h
      exact h
  · rintro ρ ⟨x3, rfl, hV⟩
    rw [rng_len] at hV
    rw [hV] at h
    simp
    exact h
end Lw
namespace Lw
open Cs
open PySem (Str)
theorem pstandsT_w {o p q : Fl} {zs : List Str} {rows : List Int} {R : Nat → Nat → Bool} {cs s : List Nat} {K : D → En → Prop} {E : XK0} (ho : OrdP zs rows R) (hc : CsP zs.length cs) (hl : s.length ≤ 1000) (hs : ∀ x ∈ s, x < cs.length) (h : K (.bl (stB4 R cs s (s.length - 1))) [.un, .un, .un]) :
    resW (m_stands [ordD o zs rows, .lst p ((nmW zs cs).map D.str), .lst q (nat0 s)]) K E := by
  rw [m_stands_def]
  refine resW_run rfl ?_
  unfold d_stands
  have ob : ∀ o, isObj "Order" "has" (ordD o zs rows) = true := fun o => ord_obj (by decide +kernel) (by decide +kernel)
  have g : ∀ i, i < zs.length → zs.getD i "" ∈ zs := fun i hi => by
    rw [List.getD_eq_getElem?_getD, List.getElem?_eq_getElem hi]
    exact List.getElem_mem hi
  rw [post_seq]
  simp [frm, -List.map_map]
  refine ⟨by omega, for_inv (fun k ρ => ∃ x3, ρ = [.dt (ordD o zs rows), .dt (.lst p ((nmW zs cs).map D.str)), .dt (.lst q (nat0 s)), x3] ∧ stB4 R cs s k = true) ⟨.un, rfl, rfl⟩ ?_ ?_⟩
  · rintro k d ρ hk ⟨x3, rfl, hV⟩
    obtain ⟨hk1, rfl⟩ := rng_get hk
    have hk2 : k + 1 < s.length := by omega
    rw [tgW_one]
    refine ⟨by simp, ?_⟩
    unfold d_stands_b1
    have ga : ∀ i, i < s.length → s.getD i 0 < cs.length := fun i hi => by
      rw [List.getD_eq_getElem?_getD, List.getElem?_eq_getElem hi]
      exact hs _ (List.getElem_mem hi)
    have hsn := stB_snoc (R := R) (cs := cs) (s := s) (m := k)
    rw [hV] at hsn
    have hbad := fun z => stB_bad (R := R) (cs := cs) (s := s) (m := k + 1) (n := s.length - 1) z (by omega)
    have k2 : ((k + 1 : Nat) : Int) = (k : Int) + 1 := by omega
    have e1 := nat0_at (w := s) hk2
    rw [k2] at e1
    have e0 := nat0_at (w := s) (k := k) (by omega)
    have k1 : (1 : Int) + (k : Int) = (k : Int) + 1 := by omega
    have k0 : (k : Int) + 1 - 1 = (k : Int) := by omega
    have g1 := ga (k + 1) hk2
    have g0 := ga k (by omega)
    generalize s.getD (k + 1) 0 = a at *
    generalize s.getD k 0 = b at *
    have f1 := nmW_at (zs := zs) g1
    have f0 := nmW_at (zs := zs) g0
    have q1 := hc.at g1
    have q0 := hc.at g0
    generalize cs.getD a 0 = ia at *
    generalize cs.getD b 0 = ib at *
    have i1 := idx_getD ho.nd q1
    have i2 := idx_getD ho.nd q0
    have m1 := g _ q1
    have m2 := g _ q0
    generalize zs.getD ia "" = u at *
    generalize zs.getD ib "" = v at *
    generalize (nmW zs cs).map D.str = cl at *
    rw [k1]
    simp [k0, e1, e0, f1, f0, ob]
    refine has_w ho m1 m2 ?_
    rw [i1, i2]
    show (if R ia ib = true then stB4 R cs s (k + 1) = true else K (.bl false) [.un, .un, .un])
    by_cases hr : R ia ib = true
    · rw [if_pos hr, hsn, hr]
      rfl
    · rw [if_neg hr]
      have hr2 : R ia ib = false := by simpa using hr
      rw [hr2, Bool.and_false] at hsn
      rw [hbad hsn] at h
      exact h
  · rintro ρ ⟨x3, rfl, hV⟩
    rw [rng_len] at hV
    rw [hV] at h
    simp
    exact h
end Lw
namespace Lw
open Cs
open PySem (Str)
/-! heights of chairs; a tallest stack as a list -/
def ownN (hk : List Str) (hv : List Int) (z : Str) : Int := match look z hk (hv.map D.int) with
  | some (.int v) => v
  | _ => 0
theorem ownN_of {hk : List Str} {hv : List Int} {z : Str} {v : Int} (h : look z hk (hv.map D.int) = some (.int v)) : ownN hk hv z = v := by
  unfold ownN
  rw [h]
theorem own_map {zs : List Str} {cs : List Nat} {f : Str → Int} : (nmW zs cs).map (fun z => D.int (f z)) = (List.range cs.length).map fun i => D.int (f (zs.getD (cs.getD i 0) "")) := by
  apply List.ext_getElem
  · simp
  · intro i h1 h2
    simp at h1
    simp [List.getElem?_eq_getElem h1]
theorem tal_nd {n : Nat} {lt : Nat → Nat → Bool} {own Lv : Nat → Int} {h : Int} {S : List Nat} (t : Tal n lt own h S Lv) (hs : Sto n lt) : S.Nodup ∧ S.length ≤ n := by
  have hn : S.Nodup := List.Pairwise.imp_of_mem (fun {u v} hu hv z e => by
    subst e
    rw [hs.ir u (t.lo u hu)] at z
    cases z) t.st
  have := nd_lenN hn (T := List.range n) fun y hy => List.mem_range.mpr (t.lo y hy)
  rw [List.length_range] at this
  exact ⟨hn, this⟩
theorem tal_stb {R : Nat → Nat → Bool} {cs : List Nat} {own Lv : Nat → Int} {h : Int} {S : List Nat} (t : Tal cs.length (rkA R cs) own h S Lv) : stB4 R cs S (S.length - 1) = true := by
  unfold stB4
  rw [List.all_eq_true]
  intro k hk
  have hk := List.mem_range.mp hk
  have h1 : k < S.length := by omega
  have h2 : k + 1 < S.length := by omega
  have := List.pairwise_iff_getElem.mp t.st k (k + 1) h1 h2 (by omega)
  have e1 : S.getD k 0 = S[k] := by rw [List.getD_eq_getElem?_getD, List.getElem?_eq_getElem h1]; rfl
  have e2 : S.getD (k + 1) 0 = S[k + 1] := by rw [List.getD_eq_getElem?_getD, List.getElem?_eq_getElem h2]; rfl
  rw [e1, e2]
  exact (Bool.and_eq_true_iff.mp this).1
end Lw
namespace Lw
open Cs
open PySem (Str)
/-! whole numbers that are places -/
def natL (xs : List Int) : List Nat := xs.map Int.toNat
theorem natL_len {xs : List Int} : (natL xs).length = xs.length := List.length_map ..
theorem idxT_nat {n : Nat} {xs : List Int} (h : idxT n xs = true) : xs.map D.int = nat0 (natL xs) ∧ (natL xs).Nodup ∧ ∀ x ∈ natL xs, x < n := by
  unfold idxT at h
  obtain ⟨h1, h2⟩ := Bool.and_eq_true_iff.mp h
  have nd := of_decide_eq_true h1
  rw [List.all_eq_true] at h2
  have hx : ∀ x ∈ xs, 0 ≤ x ∧ x < (n : Int) := fun x hx => of_decide_eq_true (h2 x hx)
  clear h h1 h2
  induction xs with
  | nil => exact ⟨rfl, .nil, fun _ z => by cases z⟩
  | cons x xs ih =>
    obtain ⟨i1, i2⟩ := List.nodup_cons.mp nd
    obtain ⟨j1, j2, j3⟩ := ih i2 fun y hy => hx y (List.mem_cons_of_mem _ hy)
    have hx0 := hx x List.mem_cons_self
    refine ⟨?_, ?_, ?_⟩
    · show D.int x :: xs.map D.int = D.int ((x.toNat : Nat) : Int) :: nat0 (natL xs)
      rw [j1, Int.toNat_of_nonneg hx0.1]
    · show (x.toNat :: natL xs).Nodup
      refine List.nodup_cons.mpr ⟨fun z => ?_, j2⟩
      obtain ⟨y, hy, e⟩ := List.mem_map.mp z
      have := hx y (List.mem_cons_of_mem _ hy)
      exact i1 (by rw [show x = y by omega]; exact hy)
    · intro y hy
      rcases List.mem_cons.mp hy with rfl | hy
      · omega
      · exact j3 y hy
end Lw
namespace Lw
open Cs
open PySem (Str)
/-! the check of a tallest stack: what is due, and the law's own check -/
def rowD (n : Nat) (lt : Nat → Nat → Bool) (own lv : Nat → Int) (h : Int) (i : Nat) : Bool := !((decide (lv i < own i) || decide (lv i > h)) || (List.range n).any fun j => lt i j && decide (lv i < lv j + own i))
def dueD (R : Nat → Nat → Bool) (cs : List Nat) (own : Nat → Int) (h : Int) (xs lv : List Int) : Bool :=
  (idxT cs.length xs && stB4 R cs (natL xs) (xs.length - 1)) && ((decide (((natL xs).map own).sum = h) && decide (lv.length = cs.length)) && (List.range cs.length).all fun i => rowD cs.length (rkA R cs) own (fun j => lv.getD j 0) h i)
theorem lvD_at {lv : List Int} {i : Nat} (h : i < lv.length) : L2.atI (lv.map D.int) (i : Int) = some (.int (lv.getD i 0)) := by
  rw [atI_n, List.getElem?_map, List.getElem?_eq_getElem h, List.getD_eq_getElem?_getD, List.getElem?_eq_getElem h]; rfl
abbrev Fdw (n : Nat) (R : Nat → Nat → Bool) (cs : List Nat) (own : Nat → Int) (h : Int) (w : List Nat) (lv : List Int) (o1 o2 o3 o4 o5 : Fl) (x7 x8 x9 : Sl) : En := [.dt (matD o1 o1 n R), .dt (.lst o2 (nat0 cs)), .dt (.lst o3 ((List.range cs.length).map fun i => D.int (own i))), .dt (.int h), .dt (.lst o4 (nat0 w)), .dt (.lst o5 (lv.map D.int)), .dt (.int (cs.length : Int)), x7, x8, x9]
theorem due_w {n : Nat} {R : Nat → Nat → Bool} {cs : List Nat} {own : Nat → Int} {h : Int} {xs lv : List Int} {o1 o2 o3 o4 o5 : Fl} {K : D → En → Prop} {E : XK0} (hc : CsP n cs) (hl : cs.length ≤ 100) (hx : xs.length ≤ 100) (hv : lv.length ≤ 100) (hs : Sto cs.length (rkA R cs))
    (hK : K (.bl (dueD R cs own h xs lv)) [.un, .un, .un, .un, .un, .un]) : resW (m_law_due [matD o1 o1 n R, .lst o2 (nat0 cs), .lst o3 ((List.range cs.length).map fun i => D.int (own i)), .int h, .lst o4 (xs.map D.int), .lst o5 (lv.map D.int)]) K E := by
  rw [m_law_due_def]
  refine resW_run rfl ?_
  unfold d_law_due
  rw [post_seq]
  simp [d_law_due_s1, frm]
  rw [post_seq]
  simp [d_law_due_s2, ints_mf, mapFs_mat]
  refine indexesT_w rfl (by omega) ?_
  cases c1 : idxT cs.length xs with
  | false =>
    have e : dueD R cs own h xs lv = false := by unfold dueD; rw [c1]; rfl
    rw [e] at hK
    simp
    exact hK
  | true =>
    obtain ⟨e1, e2, e3⟩ := idxT_nat c1
    have eD : dueD R cs own h xs lv = (stB4 R cs (natL xs) (xs.length - 1) && ((decide (((natL xs).map own).sum = h) && decide (lv.length = cs.length)) && (List.range cs.length).all fun i => rowD cs.length (rkA R cs) own (fun j => lv.getD j 0) h i)) := by unfold dueD; rw [c1, Bool.true_and]
    rw [eD] at hK
    have hw : (natL xs).length = xs.length := natL_len
    rw [← hw] at hK hx
    simp [e1]
    generalize natL xs = w at *
    refine lstandsT_w hc (by omega) e3 ?_
    generalize stB4 R cs w (w.length - 1) = B at *
    cases B with
    | false =>
      rw [Bool.false_and] at hK
      simp
      exact hK
    | true =>
      rw [Bool.true_and] at hK
      simp
      rw [post_seq]
      have hlc : ∀ i ∈ w, L2.atI ((List.range cs.length).map fun i => D.int (own i)) (i : Int) = some (.int (own i)) := fun i hi => lv_at (e3 i hi)
      have hsm : pSumI (.lst .ow (w.map fun i => D.int (own i))) = .sc (.int (w.map own).sum) := by
        rw [show w.map (fun i => D.int (own i)) = (w.map own).map D.int from by rw [List.map_map]; rfl, pSumI_i]
      have nl : ∀ q, noOw (flLend q) = true := fun q => by cases q <;> rfl
      simp [d_law_due_s3, post_lc, noOwAt, itemsOf, nats_fs, nl]
      refine (lc_maps (xs := w) (fun i => D.int (own i)) (by simp [lim]; omega) ?_).mp ?_ (fun _ _ _ _ z => z.elim)
      · intro i hi
        simp [hlc i hi]
      rintro acc ρ ⟨rfl, rfl⟩
      simp [rst, hsm, noBoAt]
      by_cases c3 : (w.map own).sum = h
      · rw [decide_eq_true c3, Bool.true_and] at hK
        simp [c3]
        by_cases c4 : lv.length = cs.length
        · rw [decide_eq_true c4, Bool.true_and] at hK
          have c4' : (lv.length : Int) = (cs.length : Int) := by omega
          simp [c4']
          rw [post_seq]
          simp [d_law_due_s4]
          have hall : (List.range cs.length).all (fun i => rowD cs.length (rkA R cs) own (fun j => lv.getD j 0) h i) = !(List.range cs.length).any fun i => !rowD cs.length (rkA R cs) own (fun j => lv.getD j 0) h i := by rw [List.not_any_eq_all_not]; simp
          rw [hall] at hK
          have hnoK : (List.range cs.length).any (fun i => !rowD cs.length (rkA R cs) own (fun j => lv.getD j 0) h i) = true → K (.bl false) [.un, .un, .un, .un, .un, .un] := fun z => by rw [z] at hK; exact hK
          rw [rng_map]
          refine ⟨by omega, for_scan (xs := List.range cs.length) (f := fun (i : Nat) => D.int (i : Int)) (fun i => !rowD cs.length (rkA R cs) own (fun j => lv.getD j 0) h i) (fun ρ => ∃ x8 x9, ρ = Fdw n R cs own h w lv o1 o2 o3 o4 o5 .un x8 x9) ⟨_, _, rfl⟩ ?_ ?_⟩
          · rintro i ρ hi ⟨x8, x9, rfl⟩
            have hin := List.mem_range.mp hi
            rw [tgW_one]
            refine ⟨by simp, ?_⟩
            unfold d_law_due_b6
            have hbad : ∀ z : rowD cs.length (rkA R cs) own (fun j => lv.getD j 0) h i = false, K (.bl false) [.un, .un, .un, .un, .un, .un] := fun z => hnoK (List.any_eq_true.mpr ⟨i, hi, by rw [z]; rfl⟩)
            have hrow : rowD cs.length (rkA R cs) own (fun j => lv.getD j 0) h i = !((decide (lv.getD i 0 < own i) || decide (lv.getD i 0 > h)) || (List.range cs.length).any fun j => rkA R cs i j && decide (lv.getD i 0 < lv.getD j 0 + own i)) := rfl
            generalize rowD cs.length (rkA R cs) own (fun j => lv.getD j 0) h i = rw_ at *
            have f1 := lvD_at (lv := lv) (i := i) (by omega)
            have f2 := lv_at (Lv := own) hin
            rw [post_seq]
            simp [f1, f2, -List.getD_eq_getElem?_getD]
            by_cases g1 : lv.getD i 0 < own i
            · rw [if_pos g1]
              refine hbad ?_
              rw [hrow, decide_eq_true g1]
              rfl
            · rw [if_neg g1]
              rw [decide_eq_false g1, Bool.false_or] at hrow
              by_cases g2 : h < lv.getD i 0
              · rw [if_pos g2]
                refine hbad ?_
                rw [hrow, decide_eq_true g2]
                rfl
              · rw [if_neg g2]
                rw [decide_eq_false g2, Bool.false_or] at hrow
                rw [rng_map]
                refine ⟨by omega, for_scan (xs := List.range cs.length) (f := fun (i : Nat) => D.int (i : Int)) (fun j => rkA R cs i j && decide (lv.getD i 0 < lv.getD j 0 + own i)) (fun ρ => ∃ x9, ρ = Fdw n R cs own h w lv o1 o2 o3 o4 o5 .un (.dt (.int (i : Int))) x9) ⟨_, rfl⟩ ?_ ?_⟩
                · rintro j ρ hj ⟨x9, rfl⟩
                  have hjn := List.mem_range.mp hj
                  rw [tgW_one]
                  refine ⟨by simp, ?_⟩
                  unfold d_law_due_b9
                  have f3 := lvD_at (lv := lv) (i := j) (by omega)
                  have hb2 : (rkA R cs i j && decide (lv.getD i 0 < lv.getD j 0 + own i)) = true → K (.bl false) [.un, .un, .un, .un, .un, .un] := fun z => by
                    refine hbad ?_
                    rw [hrow, List.any_eq_true.mpr ⟨j, hj, z⟩]
                    rfl
                  by_cases e : i = j
                  · subst e
                    rw [hs.ir i hin]
                    simp
                  · have e' : ¬ (i : Int) = (j : Int) := by omega
                    simp [e', mapFs_mat, ints_mf, lv_mf]
                    refine above_w hc hin hjn ?_
                    cases z : rkA R cs i j with
                    | false => simp
                    | true =>
                      rw [z, Bool.true_and] at hb2
                      simp [f1, f2, f3, -List.getD_eq_getElem?_getD]
                      by_cases g3 : lv.getD i 0 < lv.getD j 0 + own i
                      · rw [if_pos g3]
                        exact hb2 (decide_eq_true g3)
                      · rw [if_neg g3]
                        simp only [List.getD_eq_getElem?_getD] at g3
                        first | omega | (simp; omega)
                · rintro ρ hany ⟨x9, rfl⟩
                  rw [hany] at hrow
                  exact ⟨hrow, _, _, rfl⟩
          · rintro ρ hany ⟨x8, x9, rfl⟩
            rw [hany] at hK
            try rw [seqK_nx]
            simp [d_law_due_s5]
            exact hK
        · rw [decide_eq_false c4, Bool.false_and] at hK
          have c4' : ¬ (lv.length : Int) = (cs.length : Int) := by omega
          simp [c4']
          exact hK
      · rw [decide_eq_false c3, Bool.false_and, Bool.false_and] at hK
        simp [c3]
        exact hK
end Lw
namespace Lw
open Cs
open PySem (Str)
/-! the program's own check of a tallest stack -/
abbrev Fct (n : Nat) (R : Nat → Nat → Bool) (od cl hd : D) (h : Int) (o4 o5 : Fl) (w : List Nat) (lv : List Int) (cs : List Nat) (x6 : Sl) (b : Fl) (x8 x9 x10 : Sl) : En := [.dt od, .dt cl, .dt hd, .dt (.int h), .dt (.lst o4 (nat0 w)), .dt (.lst o5 (lv.map D.int)), x6, .dt (belD b b cs.length (bel R cs)), x8, x9, x10]
theorem ctal_w {o p q o4 o5 : Fl} {zs : List Str} {rows : List Int} {R : Nat → Nat → Bool} {cs : List Nat} {hk : List Str} {hv : List Int} {own : Nat → Int} {h : Int} {xs lv : List Int} {K : D → En → Prop} {E : XK0} (ho : OrdG zs rows R) (hc : CsP zs.length cs) (hl : cs.length ≤ 25) (hx : xs.length ≤ 100) (hv1 : lv.length ≤ 100)
    (hlk : ∀ i, i < cs.length → look (zs.getD (cs.getD i 0) "") hk (hv.map D.int) = some (.int (own i)))
    (hK : K (.bl (dueD R cs own h xs lv)) [.un, .un, .un, .un, .un, .un]) : resW (m_check_tallest [ordD o zs rows, .lst p ((nmW zs cs).map D.str), .dct q hk (hv.map D.int), .int h, .lst o4 (xs.map D.int), .lst o5 (lv.map D.int)]) K E := by
  rw [m_check_tallest_def]
  refine resW_run rfl ?_
  unfold d_check_tallest
  have g : ∀ i, i < zs.length → zs.getD i "" ∈ zs := fun i hi => by
    rw [List.getD_eq_getElem?_getD, List.getElem?_eq_getElem hi]
    exact List.getElem_mem hi
  have hmem : ∀ x ∈ nmW zs cs, x ∈ zs := fun x hx => by
    obtain ⟨i, hi, rfl⟩ := List.mem_map.mp hx
    exact g _ (hc i hi)
  have hs := rk_sto ho.c hc
  have hln : ((nmW zs cs).map D.str).length = cs.length := by simp
  have hfs : ∀ g, mapFs g ((nmW zs cs).map D.str) = (nmW zs cs).map D.str := fun g => by simp [-List.map_map]
  have hat : ∀ i, i < cs.length → L2.atI ((nmW zs cs).map D.str) (i : Int) = some (.str (zs.getD (cs.getD i 0) "")) := fun i hi => by
    rw [atI_n]
    simp [List.getElem?_eq_getElem hi]
  have hbw := fun {o p : Fl} {K : D → En → Prop} {E : XK0} h => below_w (o := o) (p := p) (K := K) (E := E) ho.o hc (by omega) h
  have hckk := fun {d : D} {o : Fl} {K : D → En → Prop} {E : XK0} hd h1 h2 => check_known_l (d := d) (o := o) (zs := zs) (xs := nmW zs cs) (K := K) (E := E) hd h1 h2
  have hac := fun {o p : Fl} {K : D → En → Prop} {E : XK0} h => are_chairsT_w (o := o) (p := p) (xs := xs) (ds := (nmW zs cs).map D.str) (K := K) (E := E) (by omega) h
  rw [hln] at hac
  have hst := fun {o p q : Fl} {w : List Nat} {K : D → En → Prop} {E : XK0} hw hs h => pstandsT_w (o := o) (p := p) (q := q) (s := w) (K := K) (E := E) ho.o hc hw hs h
  have hff := @allFs_strs noBo (nmW zs cs)
  have hff2 := @allFs_strs noOw (nmW zs cs)
  have nl : ∀ q, noOw (flLend q) = true := fun q => by cases q <;> rfl
  have hun : ∀ n, firstUnk zs (nmW zs cs) ≠ some n := fun n e => by
    rw [firstUnk_mem hmem] at e; cases e
  generalize hcl : (nmW zs cs).map D.str = cl at *
  rw [post_seq]
  simp [d_check_tallest_s1, frm, hfs, lk_n, ints_mf]
  refine hckk (.inr rfl) (fun _ => ?_) (fun n e => absurd e (hun n))
  rw [post_seq]
  simp [d_check_tallest_s2, hfs, ints_mf]
  refine hac ?_
  cases c1 : idxT cs.length xs with
  | false =>
    have e : dueD R cs own h xs lv = false := by unfold dueD; rw [c1]; rfl
    rw [e] at hK
    simp
    exact hK
  | true =>
    obtain ⟨e1, e2, e3⟩ := idxT_nat c1
    have eD : dueD R cs own h xs lv = (stB4 R cs (natL xs) (xs.length - 1) && ((decide (((natL xs).map own).sum = h) && decide (lv.length = cs.length)) && (List.range cs.length).all fun i => rowD cs.length (rkA R cs) own (fun j => lv.getD j 0) h i)) := by unfold dueD; rw [c1, Bool.true_and]
    rw [eD] at hK
    have hw : (natL xs).length = xs.length := natL_len
    rw [← hw] at hK hx
    simp [e1]
    generalize natL xs = w at *
    refine hst (by omega) e3 ?_
    generalize stB4 R cs w (w.length - 1) = B at *
    cases B with
    | false =>
      rw [Bool.false_and] at hK
      simp
      exact hK
    | true =>
      rw [Bool.true_and] at hK
      simp
      rw [post_seq]
      have hsm : pSumI (.lst .ow (w.map fun i => D.int (own i))) = .sc (.int (w.map own).sum) := by
        rw [show w.map (fun i => D.int (own i)) = (w.map own).map D.int from by rw [List.map_map]; rfl, pSumI_i]
      have nl : ∀ q, noOw (flLend q) = true := fun q => by cases q <;> rfl
      simp [d_check_tallest_s3, post_lc, noOwAt, itemsOf, nats_fs, nl]
      refine (lc_maps (xs := w) (fun i => D.int (own i)) (by simp [lim]; omega) ?_).mp ?_ (fun _ _ _ _ z => z.elim)
      · intro i hi
        have h1 := hat i (e3 i hi)
        have h2 := hlk i (e3 i hi)
        generalize zs.getD (cs.getD i 0) "" = z at *
        simp [h1, pDix, h2]
      rintro acc ρ ⟨rfl, rfl⟩
      simp [rst, hsm, noBoAt]
      by_cases c3 : (w.map own).sum = h
      · rw [decide_eq_true c3, Bool.true_and] at hK
        simp [c3, hln]
        by_cases c4 : lv.length = cs.length
        · rw [decide_eq_true c4, Bool.true_and] at hK
          have c4' : (lv.length : Int) = (cs.length : Int) := by omega
          simp [c4']
          rw [post_seq]
          simp [d_check_tallest_s4, hfs]
          refine hbw ?_
          try simp
          rw [post_seq]
          simp [d_check_tallest_s5, hln]
          have hall : (List.range cs.length).all (fun i => rowD cs.length (rkA R cs) own (fun j => lv.getD j 0) h i) = !(List.range cs.length).any fun i => !rowD cs.length (rkA R cs) own (fun j => lv.getD j 0) h i := by rw [List.not_any_eq_all_not]; simp
          rw [hall] at hK
          have hnoK : (List.range cs.length).any (fun i => !rowD cs.length (rkA R cs) own (fun j => lv.getD j 0) h i) = true → K (.bl false) [.un, .un, .un, .un, .un, .un] := fun z => by rw [z] at hK; exact hK
          rw [rng_map]
          refine ⟨by omega, for_scan (xs := List.range cs.length) (f := fun (i : Nat) => D.int (i : Int)) (fun i => !rowD cs.length (rkA R cs) own (fun j => lv.getD j 0) h i) (fun ρ => ∃ x8 x9 x10, SlJ x10 ∧ ρ = Fct zs.length R (ordD o zs rows) (.lst p cl) (.dct q hk (hv.map D.int)) h o4 o5 w lv cs .un .ow x8 x9 x10) ⟨_, _, _, .inl rfl, rfl⟩ ?_ ?_⟩
          · rintro i ρ hi ⟨x8, x9, x10, h10, rfl⟩
            have hin := List.mem_range.mp hi
            rw [tgW_one]
            refine ⟨by simp, ?_⟩
            unfold d_check_tallest_b7
            have hbad : ∀ z : rowD cs.length (rkA R cs) own (fun j => lv.getD j 0) h i = false, K (.bl false) [.un, .un, .un, .un, .un, .un] := fun z => hnoK (List.any_eq_true.mpr ⟨i, hi, by rw [z]; rfl⟩)
            have hany : ((List.range cs.length).any fun j => rkA R cs i j && decide (lv.getD i 0 < lv.getD j 0 + own i)) = (bel R cs i).any fun j => decide (lv.getD i 0 < lv.getD j 0 + own i) := by
              unfold bel
              rw [List.any_filter]
            have hrow : rowD cs.length (rkA R cs) own (fun j => lv.getD j 0) h i = !((decide (lv.getD i 0 < own i) || decide (lv.getD i 0 > h)) || (bel R cs i).any fun j => decide (lv.getD i 0 < lv.getD j 0 + own i)) := by rw [← hany]; rfl
            have hB : ∀ l ∈ bel R cs i, l < cs.length := fun l hl => bel_lt l hl
            generalize rowD cs.length (rkA R cs) own (fun j => lv.getD j 0) h i = rw_ at *
            have f1 := lvD_at (lv := lv) (i := i) (by omega)
            have f2 := hat i hin
            have f3 := hlk i hin
            have eb := fun p => bel_at (p := p) (B := bel R cs) hin
            have nlB : ∀ q, allFs noOw ((List.range cs.length).map fun h => N1 (flLend q) (bel R cs h)) = true := fun q => bel_fs (nl q)
            generalize zs.getD (cs.getD i 0) "" = z at *
            rw [post_seq]
            simp [f2, f3, pDix]
            rw [post_seq]
            simp [f1, -List.getD_eq_getElem?_getD]
            by_cases g1 : own i ≤ lv.getD i 0
            · rw [if_pos g1]
              by_cases g2 : lv.getD i 0 ≤ h
              · rw [if_pos g2]
                rw [decide_eq_false (by omega : ¬ lv.getD i 0 < own i), Bool.false_or, decide_eq_false (by omega : ¬ lv.getD i 0 > h), Bool.false_or] at hrow
                simp [bel_mf, eb, nl, itemsOf, mapFs_nat0, nlB, -List.getD_eq_getElem?_getD]
                refine for_scan (xs := bel R cs i) (f := fun (i : Nat) => D.int (i : Int)) (fun j => decide (lv.getD i 0 < lv.getD j 0 + own i)) (fun ρ => ∃ x10, SlJ x10 ∧ ρ = Fct zs.length R (ordD o zs rows) (.lst p cl) (.dct q hk (hv.map D.int)) h o4 o5 w lv cs .un .bo (.dt (.int (i : Int))) (.dt (.int (own i))) x10) ⟨_, h10, rfl⟩ ?_ ?_
                · rintro j ρ hj ⟨x10, h10, rfl⟩
                  have hjn := hB j hj
                  rw [tgW_one]
                  refine ⟨by simp, ?_⟩
                  unfold d_check_tallest_b11
                  have f3 := lvD_at (lv := lv) (i := j) (by omega)
                  have hb2 : decide (lv.getD i 0 < lv.getD j 0 + own i) = true → K (.bl false) [.un, .un, .un, .un, .un, .un] := fun z => by
                    refine hbad ?_
                    rw [hrow, List.any_eq_true.mpr ⟨j, hj, z⟩]
                    rfl
                  simp [f1, f3, -List.getD_eq_getElem?_getD]
                  by_cases g3 : lv.getD i 0 < lv.getD j 0 + own i
                  · rw [if_pos g3]
                    refine ⟨⟨rfl, ?_⟩, hb2 (decide_eq_true g3)⟩
                    simp [noBoAt]
                  · rw [if_neg g3]
                    exact ⟨by omega, .inr ⟨_, rfl⟩⟩
                · rintro ρ hany ⟨x10, h10, rfl⟩
                  rw [hany] at hrow
                  refine ⟨⟨rfl, ?_⟩, hrow, _, _, _, h10, rfl⟩
                  rcases h10 with rfl | ⟨a, rfl⟩ <;> simp [noBoAt]
              · rw [if_neg g2]
                refine hbad ?_
                rw [hrow, decide_eq_true (by omega : lv.getD i 0 > h), Bool.or_true]
                rfl
            · rw [if_neg g1]
              refine hbad ?_
              rw [hrow, decide_eq_true (by omega : lv.getD i 0 < own i)]
              rfl
          · rintro ρ hany ⟨x8, x9, x10, h10, rfl⟩
            rw [hany] at hK
            try rw [seqK_nx]
            simp [d_check_tallest_s6]
            exact hK
        · rw [decide_eq_false c4, Bool.false_and] at hK
          have c4' : ¬ (lv.length : Int) = (cs.length : Int) := by omega
          simp [c4']
          exact hK
      · rw [decide_eq_false c3, Bool.false_and, Bool.false_and] at hK
        simp [c3]
        exact hK
end Lw
namespace Lw
open Cs
open PySem (Str)
/-! a stack grown from drawn chairs -/
theorem srtL_nat {L : List Nat} {key : Int → Int} : ∃ P : List Nat, srtL (L.map fun (i : Nat) => (i : Int)) key = P.map (fun (i : Nat) => (i : Int)) ∧ P.Perm L := by
  have hp : (srtL (L.map fun (i : Nat) => (i : Int)) key).Perm (L.map fun (i : Nat) => (i : Int)) := List.mergeSort_perm _ _
  generalize srtL (L.map fun (i : Nat) => (i : Int)) key = l at *
  have h0 : ∀ x ∈ l, 0 ≤ x := fun x hx => by
    obtain ⟨i, _, rfl⟩ := List.mem_map.mp (hp.mem_iff.mp hx)
    exact Int.natCast_nonneg i
  have e : l = (l.map Int.toNat).map (fun (i : Nat) => (i : Int)) := by
    rw [List.map_map]
    conv => lhs; rw [← List.map_id l]
    exact List.map_congr_left fun x hx => (Int.toNat_of_nonneg (h0 x hx)).symm
  refine ⟨l.map Int.toNat, e, ?_⟩
  have := hp.map Int.toNat
  rw [List.map_map] at this
  rw [show L = L.map (Int.toNat ∘ fun (i : Nat) => (i : Int)) from ?_]
  · exact this
  · conv => lhs; rw [← List.map_id L]
    exact List.map_congr_left fun x _ => rfl
theorem grown_w {b : D} {n : Nat} {R : Nat → Nat → Bool} {cs : List Nat} {lv : List Int} {o1 o2 o3 : Fl} {K : D → En → Prop} {E : XK0} (hb : BoxP b) (hc : CsP n cs) (hl : cs.length ≤ 100) (hv : lv.length = cs.length)
    (h : ∀ S b', BoxP b' → (∀ x ∈ S, x < cs.length) → S.length ≤ cs.length → K (.lst .ow (nat0 S)) [.dt b', .un, .un, .un]) : resW (m_law_grown [b, matD o1 o1 n R, .lst o2 (nat0 cs), .lst o3 (lv.map D.int)]) K E := by
  rw [m_law_grown_def]
  refine resW_run rfl ?_
  unfold d_law_grown
  rw [post_seq]
  simp [frm, d_law_grown_s1, post_lc, noOwAt]
  refine ⟨by omega, (lc_inv (fun j acc ρ => ∃ (b : D) (S : List Nat), BoxP b ∧ (∀ x ∈ S, x < j) ∧ S.length ≤ j ∧ acc = nat0 S ∧ ρ = [.dt b, .dt (matD o1 o1 n R), .dt (.lst o2 (nat0 cs)), .dt (.lst o3 (lv.map D.int)), .un, .un, .un]) ⟨b, [], hb, by simp, Nat.le_refl _, rfl, rfl⟩ ?_).mp ?_ (fun _ _ _ _ z => z.elim)⟩
  · rintro j acc d ρ hj ⟨b, S, hb, hS, hSl, rfl, rfl⟩
    obtain ⟨hj1, rfl⟩ := rng_get hj
    simp
    refine take_w hb (by omega) (by omega) fun i b i0 i1 hb => ?_
    simp
    by_cases g : 0 < i
    · rw [if_pos g]
      refine ⟨by simp only [lim]; omega, b, hb, S ++ [j], fun x hx => ?_, by simp; omega, by simp, rfl⟩
      rcases List.mem_append.mp hx with z | z
      · have := hS x z; omega
      · rw [List.mem_singleton.mp z]; omega
    · rw [if_neg g]
      exact ⟨b, hb, S, fun x hx => by have := hS x hx; omega, by omega, rfl, rfl⟩
  · rintro acc ρ ⟨b, S, hb, hS, hSl, rfl, rfl⟩
    rw [rng_len] at hS hSl
    have hS : ∀ x ∈ S, x < cs.length := fun x hx => by have := hS x hx; omega
    have hSl : S.length ≤ cs.length := by omega
    have e1 : nat0 S = (S.map fun (i : Nat) => (i : Int)).map D.int := by simp
    have hbn : ∀ m ∈ S.map (fun (i : Nat) => (i : Int)), 0 ≤ m ∧ m < (lv.length : Int) := fun m hm => by
      obtain ⟨x, hx, rfl⟩ := List.mem_map.mp hm
      have := hS x hx
      omega
    obtain ⟨P, hP1, hP2⟩ := srtL_nat (L := S) (key := fun m => lv.getD m.toNat 0)
    have hsl : (S.map fun (i : Nat) => (i : Int)).length ≤ 100000 := by simp; omega
    simp only [rst]
    rw [e1]
    generalize S.map (fun (i : Nat) => (i : Int)) = Si at *
    have hso : ∀ ρ : En, slot 5 ρ = some (.lst .ow (Si.map D.int)) → slot 3 ρ = some (.lst o3 (lv.map D.int)) → dSrtIx 3 5 ρ = .ok (.lst .ow (nat0 P)) ρ := fun ρ h5 h3 => by
      unfold dSrtIx
      rw [h5, h3]
      dsimp only
      rw [allInt_ints, allInt_ints]
      dsimp only
      rw [if_pos ⟨hbn, hsl⟩, hP1, List.map_map]
      rfl
    simp
    rw [post_seq]
    simp [d_law_grown_s2]
    rw [hso _ rfl rfl]
    have hPS : ∀ x ∈ P, x < cs.length := fun x hx => hS x (hP2.mem_iff.mp hx)
    have hPl : P.length ≤ cs.length := by rw [hP2.length_eq]; exact hSl
    have hpo : ∀ (Q : D → En → Prop) (X : XK0) (d : D) (ρ : En), Post Q X (Out.ok d ρ) = Q d ρ := fun _ _ _ _ => rfl
    rw [hpo]
    simp
    rw [post_seq]
    simp [d_law_grown_s3]
    rw [post_seq]
    simp [d_law_grown_s4, itemsOf, nats_fs, mapFs_nat0]
    refine for_inv (fun k ρ => ∃ T x4, (∀ x ∈ T, x < cs.length) ∧ T.length ≤ k ∧ SlJ x4 ∧ ρ = [.dt b, .dt (matD o1 o1 n R), .dt (.lst o2 (nat0 cs)), .dt (.lst o3 (lv.map D.int)), x4, .dt (.lst .bo (nat0 P)), .dt (.lst .ow (nat0 T))]) ⟨[], _, by simp, Nat.le_refl _, .inl rfl, rfl⟩ ?_ ?_
    · rintro k d ρ hk ⟨T, x4, hT, hTl, h4, rfl⟩
      obtain ⟨hk1, rfl⟩ := getE_map hk
      have ha := hPS _ (List.getElem_mem hk1)
      generalize P[k] = a at *
      rw [tgW_one]
      refine ⟨by simp, ?_⟩
      unfold d_law_grown_b4
      have e2 : nat0 T ++ [D.int (a : Int)] = nat0 (T ++ [a]) := by simp
      have hTa : ∀ x ∈ T ++ [a], x < cs.length := fun x hx => by
        rcases List.mem_append.mp hx with z | z
        · exact hT x z
        · rw [List.mem_singleton.mp z]; exact ha
      have hst := fun {o1 o2 o3 : Fl} {K : D → En → Prop} {E : XK0} h => lstandsT_w (n := n) (R := R) (cs := cs) (s := T ++ [a]) (o1 := o1) (o2 := o2) (o3 := o3) (K := K) (E := E) hc (by simp; omega) hTa h
      have hpa : pAdd (.lst .ow (nat0 T)) (.lst .ow [.int (a : Int)]) = .nl (nat0 (T ++ [a])) := by
        rw [pAdd_l, if_pos ⟨⟨by decide, by decide⟩, ⟨nats_fs, rfl⟩, by simp [lim]; omega⟩, e2]
      simp [mapFs_mat, -List.map_append, hpa]
      refine ⟨by decide, hst ?_⟩
      have hno : ∃ T1, (∀ x ∈ T1, x < cs.length) ∧ T1.length ≤ k + 1 ∧ ∃ x, SlJ x ∧ Sl.dt (D.int (a : Int)) = x ∧ nat0 T = nat0 T1 := ⟨T, hT, by omega, _, .inr ⟨_, rfl⟩, rfl, rfl⟩
      have hye : ∃ T1, (∀ x ∈ T1, x < cs.length) ∧ T1.length ≤ k + 1 ∧ ∃ x, SlJ x ∧ Sl.dt (D.int (a : Int)) = x ∧ nat0 T ++ [D.int (a : Int)] = nat0 T1 := ⟨T ++ [a], hTa, by simp; omega, _, .inr ⟨_, rfl⟩, rfl, e2⟩
      generalize stB4 R cs (T ++ [a]) ((T ++ [a]).length - 1) = B
      cases B with
      | false => simpa using hno
      | true => simpa using ⟨(by simp only [lim]; omega : T.length < lim), hye⟩
    · rintro ρ ⟨T, x4, hT, hTl, h4, rfl⟩
      rw [show (nat0 P).length = P.length from by simp] at hTl
      refine ⟨⟨rfl, ?_⟩, ?_⟩
      · rcases h4 with rfl | ⟨i, rfl⟩ <;> simp [noBoAt, nats_fs]
      rw [seqK_nx]
      simp [d_law_grown_s5]
      have := h T b hb hT (by omega)
      rw [outs_04 hb.noBo]
      exact this
end Lw
namespace Lw
open Cs
open PySem (Str)
def FzA (o : Fl) : Prop := o = .ow ∨ o = .fr
theorem pNeV_47 {o p : Fl} {xs : List D} {hk : List Str} {hv ys zs : List Int} (h1 : o ≠ .ro) (h2 : p ≠ .ro) (nd : hk.Nodup) (hx : samDs 4 xs xs = true) : pNeV (.lst o [.lst .fr xs, .dct .fr hk (hv.map D.int), .lst .fr (ys.map D.int), .lst .fr (zs.map D.int)]) (.lst p [.lst .fr xs, .dct .fr hk (hv.map D.int), .lst .fr (ys.map D.int), .lst .fr (zs.map D.int)]) = .sc (.bl false) := by
  have e : ∀ n (hv : List Int), samDs n (hv.map D.int) (hv.map D.int) = true := fun n hv => by
    induction hv with
    | nil => rfl
    | cons x xs ih => rw [List.map_cons, samDs, ih]; simp [samD]
  unfold pNeV
  dsimp only
  rw [if_pos ⟨h1, h2, by simp [samDs, samD, hx, e, nd]⟩]
theorem sam_strs {n : Nat} {xs : List Str} : samDs n (xs.map D.str) (xs.map D.str) = true := by
  induction xs with
  | nil => rfl
  | cons x xs ih => rw [List.map_cons, samDs, ih]; simp [samD]
abbrev Flaw (sc b : D) (ni : Int) (zs : List Str) (qs : List (Nat × Nat)) (rows : List Int) (R : Nat → Nat → Bool) (cl : List D) (cs : List Nat) (hk : List Str) (hv : List Int) (own : Nat → Int) (o : Fl) (x12 x13 x14 x16 x17 x18 x19 x20 : Sl) : En := [.dt sc, .dt b, .dt (.int ni), .dt (.lst .ow (zs.map D.str)), .dt (.lst .ow (qs.map ip)), .dt (ordD .ow zs rows), .dt (matD .ow .ow zs.length R), .dt (.lst o cl), .un, .dt (.lst .ow (nat0 cs)), .dt (.dct o hk (hv.map D.int)), .dt (.lst .ow ((List.range cs.length).map fun i => D.int (own i))), x12, x13, x14, .un, x16, x17, x18, x19, x20]
theorem law_true : ∀ ns : List Int, ns.length ≤ 63 → ∃ os, m_law [scr ns] = .ok (.bl true) os := by
  intro ns hns
  apply ok_of_resW
  rw [m_law_def]
  refine resW_run rfl ?_
  have hlend : mapF flLend (scr ns) = scr ns := by simp [scr]
  have hbox : ∀ {K : D → En → Prop} {E : XK0}, (∀ d, BoxP d → K d [.un]) → resW (m_law_box [scr ns]) K E := fun h => box_w hns h
  generalize scr ns = sc at *
  unfold d_law
  rw [post_seq]
  simp [d_law_s1, frm, hlend]
  refine hbox fun b hb => ?_
  rw [post_seq]
  simp [d_law_s2]
  refine take_w hb (by omega) (by omega) fun r b r0 r1 hb => ?_
  obtain ⟨n, hn⟩ : ∃ m : Nat, 1 + r = (m : Int) := ⟨(1 + r).toNat, by omega⟩
  simp only [seqK_nx, wb_io, wb_v, wb_0, hd1_c, List.tail, List.set]
  try simp
  rw [hn]
  rw [post_seq]
  simp [d_law_s3]
  refine names_w hb (by omega) fun zs b hl hz hb => ?_
  subst hl
  try simp
  have hle : zs.length ≤ 6 := by omega
  clear hn
  generalize hni : (zs.length : Int) = ni at *
  rw [post_seq]
  simp [d_law_s4]
  refine take_w hb (by omega) (by omega) fun r b r0' r1' hb => ?_
  obtain ⟨c, rfl⟩ : ∃ m : Nat, r = (m : Int) := ⟨r.toNat, by omega⟩
  try simp
  generalize hci : (c : Int) = ci at *
  refine drawn_w hb hni hci (by omega) (by omega) fun qs b hc1 hq hb => ?_
  try simp
  rw [post_seq]
  simp [d_law_s5, mapFs_ip]
  refine named_w hq (by omega) ?_
  have gz := hz.good
  refine order_g (.inl ⟨_, rfl⟩) (.inl ⟨_, rfl⟩) gz (nms_mem hq) fun rows hr => ?_
  rw [base_nms hz.nd hq] at hr
  try simp
  rw [post_seq]
  simp [d_law_s6, mapFs_ip]
  rw [← hni]
  refine closed_w rfl (by omega) hq ?_
  rw [hni]
  generalize warsh zs.length (baseQ qs) = R at *
  try simp
  rw [post_seq]
  simp [d_law_s7]
  refine chairs_w (m := 6) hb (by omega) (by omega) fun cs b hb hc hcl => ?_
  try simp [-List.map_map]
  have l1 : ∀ o z, z ∈ zs → lixD (.lst o (zs.map D.str)) (.str z) = some (.int (zs.idxOf z : Int)) := fun o z hz => by
    unfold lixD
    dsimp only
    rw [allStr_map]
    dsimp only
    rw [ixS_idx hz]
    rfl
  have g : ∀ i, i < zs.length → zs.getD i "" ∈ zs := fun i hi => by
    rw [List.getD_eq_getElem?_getD, List.getElem?_eq_getElem hi]
    exact List.getElem_mem hi
  rw [post_seq]
  have hpl : List.map D.str (nmW zs cs) = cs.map fun i => D.str (zs.getD i "") := by rw [List.map_map]; rfl
  simp [d_law_s8, post_lc, noOwAt, -List.map_map]
  rw [hpl]
  refine (lc_maps (xs := cs) (fun i : Nat => D.int (i : Int)) (by simp [lim]; omega) ?_).mp ?_ (fun _ _ _ _ z => z.elim)
  · intro i hi
    have hil := hc i hi
    have hm := g i hil
    have hix := idx_getD hz.nd hil
    have l2 := l1 .ow _ hm
    rw [hix] at l2
    generalize zs.getD i "" = z at *
    simp [l2, isLst]
  rintro acc ρ ⟨rfl, rfl⟩
  rw [← hpl]
  simp [rst, noBoAt, flwOk, nats_fs, -List.map_map]
  rw [post_seq]
  simp [d_law_s9, -List.map_map]
  refine heights_w hb (by omega) fun hk hv b hb nd hhl hh5 hh => ?_
  try simp [-List.map_map]
  have hN : ∀ z ∈ nmW zs cs, look z hk (hv.map D.int) = some (.int (ownN hk hv z)) ∧ 1 ≤ ownN hk hv z := fun z hz => by
    obtain ⟨i, hi, e⟩ := List.mem_map.mp hz
    obtain ⟨v, h1, h2⟩ := hh z (by rw [← e]; exact g i (hc i hi)) hz
    rw [ownN_of h2]
    exact ⟨h2, h1⟩
  rw [post_seq]
  simp [d_law_s10, post_lc, noOwAt, -List.map_map]
  refine (lc_maps (xs := nmW zs cs) (fun z => D.int (ownN hk hv z)) (by simp [lim]; omega) ?_).mp ?_ (fun _ _ _ _ z => z.elim)
  · intro z hz
    simp [pDix, (hN z hz).1]
  rintro acc ρ ⟨rfl, rfl⟩
  have hnm : ∀ i, i < cs.length → zs.getD (cs.getD i 0) "" ∈ nmW zs cs := fun i hi => List.mem_map.mpr ⟨cs.getD i 0, by rw [List.getD_eq_getElem?_getD, List.getElem?_eq_getElem hi]; exact List.getElem_mem hi, rfl⟩
  rw [own_map]
  obtain ⟨own, hown⟩ : ∃ own : Nat → Int, own = fun i => ownN hk hv (zs.getD (cs.getD i 0) "") := ⟨_, rfl⟩
  rw [show (fun i => D.int (ownN hk hv (zs.getD (cs.getD i 0) ""))) = fun i => D.int (own i) from by rw [hown]]
  have hlk : ∀ i, i < cs.length → look (zs.getD (cs.getD i 0) "") hk (hv.map D.int) = some (.int (own i)) := fun i hi => by
    rw [hown]; exact (hN _ (hnm i hi)).1
  have hop : ∀ i, i < cs.length → 1 ≤ own i := fun i hi => by rw [hown]; exact (hN _ (hnm i hi)).2
  have hs := rk_sto hr.c hc
  obtain ⟨Lv, hLv⟩ := lvp_ex (own := own) hs
  have hlv := fun {o1 o2 o3 : Fl} {K : D → En → Prop} {E : XK0} h => levels_w (n := zs.length) (R := R) (cs := cs) (own := own) (Lv := Lv) (o1 := o1) (o2 := o2) (o3 := o3) (K := K) (E := E) hc (by omega) hs (fun i hi => by have := hop i hi; omega) hLv h
  have hmf : ∀ f : Fl → Fl, mapFs f ((nmW zs cs).map D.str) = (nmW zs cs).map D.str := fun f => by simp [-List.map_map]
  have hpn := fun {o p : Fl} {xs lv : List Int} h1 h2 => pNeV_47 (o := o) (p := p) (hk := hk) (hv := hv) (xs := (nmW zs cs).map D.str) (ys := xs) (zs := lv) h1 h2 nd sam_strs
  have hcl2 : ((nmW zs cs).map D.str).length = cs.length := by simp
  have hfn : ∀ q, allFs q ((nmW zs cs).map D.str) = true := fun q => @allFs_strs q (nmW zs cs)
  have hct := fun {o p q o4 o5 : Fl} {h : Int} {xs lv : List Int} {K : D → En → Prop} {E : XK0} hx hv1 hK => ctal_w (o := o) (p := p) (q := q) (o4 := o4) (o5 := o5) (h := h) (xs := xs) (lv := lv) (own := own) (K := K) (E := E) hr hc (by omega) hx hv1 hlk hK
  have hdu := fun {o1 o2 o3 o4 o5 : Fl} {h : Int} {xs lv : List Int} {K : D → En → Prop} {E : XK0} hx hv1 hK => due_w (n := zs.length) (R := R) (cs := cs) (o1 := o1) (o2 := o2) (o3 := o3) (o4 := o4) (o5 := o5) (h := h) (xs := xs) (lv := lv) (own := own) (K := K) (E := E) hc (by omega) hx hv1 hs hK
  generalize (nmW zs cs).map D.str = cl at *
  simp [rst, noBoAt, flwOk, lv_fs]
  rw [post_seq]
  simp [d_law_s11]
  refine for_inv (fun k ρ => ∃ o b x12 x16 x17 x18 x20, FzA o ∧ BoxP b ∧ ρ = Flaw sc b ni zs qs rows R cl cs hk hv own o x12 .un .un x16 x17 x18 .un x20) ⟨.ow, b, _, _, _, _, _, .inl rfl, hb, rfl⟩ ?_ ?_
  · rintro k d ρ hj ⟨o, b, x12, x16, x17, x18, x20, ho, hb, rfl⟩
    obtain ⟨hk1, rfl⟩ := rng_get hj
    rw [tgW_one]
    refine ⟨by simp, ?_⟩
    unfold d_law_b11
    rw [post_seq]
    simp [d_law_b11_1, mapFs_mat, lv_mf]
    refine hlv ?_
    have hL2 : (List.range cs.length).map (fun i => D.int (Lv i)) = ((List.range cs.length).map Lv).map D.int := by rw [List.map_map]; rfl
    rw [hL2]
    have hll : ((List.range cs.length).map Lv).length = cs.length := by simp
    generalize (List.range cs.length).map Lv = lv at *
    try simp
    rw [post_seq]
    simp [d_law_b11_2, mapFs_mat, ints_mf, ints_fs]
    refine grown_w hb hc (by omega) hll fun S b hb hS hSl => ?_
    try simp
    obtain ⟨xs, hxs, hxl⟩ : ∃ xs : List Int, nat0 S = xs.map D.int ∧ xs.length ≤ 6 := ⟨S.map fun (i : Nat) => (i : Int), by rw [List.map_map]; rfl, by simp; omega⟩
    have hmx : ∃ m, pMaxI (.lst .ow (lv.map D.int ++ [.int 0])) = .sc (.int m) := by
      have e : lv.map D.int ++ [.int 0] = (lv ++ [0]).map D.int := by simp
      rw [e]
      cases z : lv ++ [0] with
      | nil => simp at z
      | cons a l => exact ⟨_, pMaxI_i⟩
    obtain ⟨m, hmx⟩ := hmx
    have hpa : pAdd (.lst .ow (lv.map D.int)) (.lst .ow [.int 0]) = .nl (lv.map D.int ++ [.int 0]) := by
      rw [pAdd_l, if_pos ⟨⟨by decide, by decide⟩, ⟨ints_fs, rfl⟩, by simp [lim]; omega⟩]
    rw [post_seq]
    refine Post.imp (okk := fun fl ρ => fl = .nx ∧ ∃ b h, BoxP b ∧ ρ = Flaw sc b ni zs qs rows R cl cs hk hv own o (.dt (.int (0 + (k : Int)))) (.dt (.lst .ow (lv.map D.int))) (.dt (.lst .ow (xs.map D.int))) (.dt (.int h)) x17 x18 .un x20) (exk := N0) ?_ ?_ (fun _ _ _ _ z => z.elim)
    · simp [d_law_b11_3, post_lc, noOwAt, ints_fs, ints_mf, itemsOf, nats_fs]
      have hlc : ∀ i ∈ S, L2.atI ((List.range cs.length).map fun i => D.int (own i)) (i : Int) = some (.int (own i)) := fun i hi => lv_at (hS i hi)
      have hsm : pSumI (.lst .ow (S.map fun i => D.int (own i))) = .sc (.int (S.map own).sum) := by
        rw [show S.map (fun i => D.int (own i)) = (S.map own).map D.int from by rw [List.map_map]; rfl, pSumI_i]
      refine (lc_maps (xs := S) (fun i => D.int (own i)) (by simp [lim]; omega) ?_).mp ?_ (fun _ _ _ _ z => z.elim)
      · intro i hi
        simp [hlc i hi]
      rintro acc ρ ⟨rfl, rfl⟩
      simp [rst, hsm, hpa, hmx]
      refine ⟨by decide, by decide, take_w hb (by omega) (by omega) fun r b r0 r1 hb => ?_⟩
      have hr2 : ∃ x : Int, pIx (.lst .ow [.int (S.map own).sum, .int m]) (.int r) = .sc (.int x) := by
        rcases (by omega : r = 0 ∨ r = 1) with rfl | rfl
        · exact ⟨_, rfl⟩
        · exact ⟨_, rfl⟩
      obtain ⟨x, hx⟩ := hr2
      rw [hx]
      simp
      exact ⟨⟨rfl, by simp [noBoAt, hb.noBo]⟩, b, hb, rfl, hxs⟩
    rintro fl ρ ⟨rfl, b, h, hb, rfl⟩
    rw [seqK_nx]
    rw [post_seq]
    simp [d_law_b11_4]
    refine take_w hb (by omega) (by omega) fun way b _ _ hb => ?_
    clear hxs hmx hpa
    try simp
    rw [post_seq]
    refine Post.imp (okk := fun fl ρ => fl = .nx ∧ ∃ (b : D) (lv2 : List Int), BoxP b ∧ lv2.length = lv.length ∧ ρ = Flaw sc b ni zs qs rows R cl cs hk hv own o (.dt (.int (0 + (k : Int)))) (.dt (.lst .ow (lv2.map D.int))) (.dt (.lst .ow (xs.map D.int))) (.dt (.int h)) (.dt (.int way)) x18 .un x20) (exk := N0) ?_ ?_ (fun _ _ _ _ z => z.elim)
    · simp [d_law_b11_5, hcl2]
      by_cases g1 : way = 1
      · rw [if_pos g1]
        by_cases g2 : 0 < cs.length
        · rw [if_pos g2]
          refine take_w hb (by omega) (by omega) fun r b r0 r1 hb => ?_
          have hgr : lv[r.toNat]? = some (lv.getD r.toNat 0) := by
            rw [List.getD_eq_getElem?_getD, List.getElem?_eq_getElem (by omega)]; rfl
          simp [augN, allInt_ints, r0, hgr, -List.getD_eq_getElem?_getD]
          refine take_w hb (by omega) (by omega) fun r2 b _ _ hb => ?_
          simp [-List.getD_eq_getElem?_getD]
          obtain ⟨i, rfl⟩ : ∃ i : Nat, r = (i : Int) := ⟨r.toNat, by omega⟩
          have hset := fun v => setAt_ints (ns := lv) (i := i) (v := v) (by omega)
          rw [hset]
          simp only [mlW]
          exact ⟨b, hb, _, by simp, rfl, rfl⟩
        · rw [if_neg g2]
          exact ⟨_, hb, lv, rfl, rfl, rfl⟩
      · rw [if_neg g1]
        exact ⟨_, hb, lv, rfl, rfl, rfl⟩
    rintro fl ρ ⟨rfl, b, lv, hb, hlv2, rfl⟩
    rw [seqK_nx]
    rw [post_seq]
    refine Post.imp (okk := fun fl ρ => fl = .nx ∧ ∃ (b : D) (h2 : Int), BoxP b ∧ ρ = Flaw sc b ni zs qs rows R cl cs hk hv own o (.dt (.int (0 + (k : Int)))) (.dt (.lst .ow (lv.map D.int))) (.dt (.lst .ow (xs.map D.int))) (.dt (.int h2)) (.dt (.int way)) x18 .un x20) (exk := N0) ?_ ?_ (fun _ _ _ _ z => z.elim)
    · simp [d_law_b11_6]
      by_cases g1 : way = 2
      · rw [if_pos g1]
        refine take_w hb (by omega) (by omega) fun r b r0 r1 hb => ?_
        simp
        exact hb
      · rw [if_neg g1]
        exact hb
    rintro fl ρ ⟨rfl, b, h, hb, rfl⟩
    rw [seqK_nx]
    rw [post_seq]
    refine Post.imp (okk := fun fl ρ => fl = .nx ∧ ∃ (b : D) (ys : List Int), BoxP b ∧ ys.length ≤ 7 ∧ ρ = Flaw sc b ni zs qs rows R cl cs hk hv own o (.dt (.int (0 + (k : Int)))) (.dt (.lst .ow (lv.map D.int))) (.dt (.lst .ow (ys.map D.int))) (.dt (.int h)) (.dt (.int way)) x18 .un x20) (exk := N0) ?_ ?_ (fun _ _ _ _ z => z.elim)
    · simp [d_law_b11_7, hcl2]
      by_cases g1 : way = 3
      · rw [if_pos g1]
        refine ⟨by decide, take_w hb (by omega) (by omega) fun r b r0 r1 hb => ?_⟩
        have hr2 : ∃ x : Int, pIx (.lst .ow [.int (-1), .int cs.length, .int 0, .int (-cs.length)]) (.int r) = .sc (.int x) := by
          rcases (by omega : r = 0 ∨ r = 1 ∨ r = 2 ∨ r = 3) with rfl | rfl | rfl | rfl
          · exact ⟨_, rfl⟩
          · exact ⟨_, rfl⟩
          · exact ⟨_, rfl⟩
          · exact ⟨_, rfl⟩
        obtain ⟨x, hx⟩ := hr2
        rw [hx]
        have hpa : pAdd (.lst .ow (xs.map D.int)) (.lst .ow [.int x]) = .nl ((xs ++ [x]).map D.int) := by
          rw [pAdd_l, if_pos ⟨⟨by decide, by decide⟩, ⟨ints_fs, rfl⟩, by simp [lim]; omega⟩]
          simp
        simp [hpa, -List.map_append]
        exact ⟨by decide, _, hb, xs ++ [x], by simp; omega, rfl, rfl⟩
      · rw [if_neg g1]
        exact ⟨_, hb, xs, by omega, rfl, rfl⟩
    rintro fl ρ ⟨rfl, b, xs, hb, hxl, rfl⟩
    rw [seqK_nx]
    rw [post_seq]
    refine Post.imp (okk := fun fl ρ => fl = .nx ∧ ∃ (b : D) (lv2 : List Int), BoxP b ∧ lv2.length ≤ lv.length ∧ ρ = Flaw sc b ni zs qs rows R cl cs hk hv own o (.dt (.int (0 + (k : Int)))) (.dt (.lst .ow (lv2.map D.int))) (.dt (.lst .ow (xs.map D.int))) (.dt (.int h)) (.dt (.int way)) x18 .un x20) (exk := N0) ?_ ?_ (fun _ _ _ _ z => z.elim)
    · simp [d_law_b11_8]
      by_cases g1 : way = 4
      · rw [if_pos g1]
        refine ⟨_, hb, _, ?_, rfl, rfl⟩
        unfold cutI
        simp
        omega
      · rw [if_neg g1]
        exact ⟨_, hb, lv, Nat.le_refl _, rfl, rfl⟩
    rintro fl ρ ⟨rfl, b, lv, hb, hlv3, rfl⟩
    rw [seqK_nx]
    rw [post_seq]
    refine Post.imp (okk := fun fl ρ => fl = .nx ∧ ∃ (b : D) (lv2 : List Int), BoxP b ∧ lv2.length ≤ lv.length + 1 ∧ ρ = Flaw sc b ni zs qs rows R cl cs hk hv own o (.dt (.int (0 + (k : Int)))) (.dt (.lst .ow (lv2.map D.int))) (.dt (.lst .ow (xs.map D.int))) (.dt (.int h)) (.dt (.int way)) x18 .un x20) (exk := N0) ?_ ?_ (fun _ _ _ _ z => z.elim)
    · simp [d_law_b11_9]
      by_cases g1 : way = 5
      · rw [if_pos g1]
        exact ⟨by simp only [lim]; omega, _, hb, lv ++ [1], by simp, rfl, by simp⟩
      · rw [if_neg g1]
        exact ⟨_, hb, lv, by omega, rfl, rfl⟩
    rintro fl ρ ⟨rfl, b, lv, hb, hlv4, rfl⟩
    rw [seqK_nx]
    rw [post_seq]
    simp [d_law_b11_10, mapFs_mat, ints_mf, lv_mf, nats_fs, mapFs_nat0]
    refine hdu (by omega) (by omega) ?_
    obtain ⟨B, hB⟩ : ∃ B, B = dueD R cs own h xs lv := ⟨_, rfl⟩
    rw [← hB]
    try simp
    rw [post_seq]
    have nlo : noOw (flLend o) = true := by rcases ho with rfl | rfl <;> rfl
    simp [d_law_b11_11, dDcp, ints_fs, ints_mf, hmf, hfn, nlo]
    refine ⟨by decide, ⟨rfl, by simp [noBoAt, hfn, ints_fs]⟩, ?_⟩
    rw [post_seq]
    simp [d_law_b11_12]
    refine ⟨hfn _, hct (by omega) (by omega) ?_⟩
    rw [← hB]
    simp [d_law_b11_13, hmf, hfn, nlo]
    have hfz : flFrz (flFrz o) = .fr ∧ flFrz o = .fr := by rcases ho with rfl | rfl <;> exact ⟨rfl, rfl⟩
    rw [hfz.1, hfz.2]
    rw [hpn (by decide) (by decide)]
    have e1 : pIsi .bool (.bl B) = .sc (.bl true) := rfl
    have e2 : pNe (.bl B) (.bl B) = .sc (.bl false) := by cases B <;> rfl
    rw [e1]
    simp [e2]
    exact ⟨by decide, _, .inr rfl, _, hb, rfl, rfl⟩
  · rintro ρ ⟨o, b, x12, x16, x17, x18, x20, ho, hb, rfl⟩
    try rw [seqK_nx]
    simp [d_law_s12]
end Lw
namespace Lw
open PySem L2 Evl PyProof.Rows Cs
theorem exm_of {K : PySem.W.Frag} {A C : Addr} {b : Bool} (h1 : PySem.W.subIn K (.ref C) (.type "BaseException") = some true) (h2 : PySem.W.isClsIn K C = true) (h3 : PySem.W.typeIn K (.ref C) = some (.type "type")) (h4 : PySem.W.subIn K (.ref A) (.ref C) = some b) : PySem.W.exmOne K (.ref A) (.ref C) = some b := by
  have e1 : (PySem.W.subIn K (.ref C) (.type "BaseException") == some true) = true := by rw [h1] <;> rfl
  have e2 : ((PySem.W.clsIn K C).isSome && PySem.W.typeIn K (.ref C) == some (.type "type")) = true := by
    have h2' : (PySem.W.clsIn K C).isSome = true := h2
    rw [h2', h3] <;> rfl
  show (if (PySem.W.subIn K (.ref C) (.type "BaseException") == some true) = true then (if ((PySem.W.clsIn K C).isSome && PySem.W.typeIn K (.ref C) == some (.type "type")) = true then PySem.W.subIn K (.ref A) (.ref C) else none) else none) = some b
  rw [if_pos e1, if_pos e2]
  exact h4
theorem all_mk {P : Program} {w : World} {K : PySem.W.Frag} {h : Heap} {mg : Str → Option Value} {fa f_law_box f_law_take f_law_name f_law_names f_law_drawn_pairs f_law_named f_check_name f_check_makes f_check_known f_check_pairs f_closed_rows f_rows_of f_Order___init__ f_law_closed f_law_chairs f_law_heights f_law_above f_law_levels f_law_stands f_law_grown f_law_is_int f_law_int_list f_law_indexes f_law_due f_are_chairs f_Order_has f_stands f_ranks_above f_below_lists f_check_tallest f_law C_Full C_InvalidName C_DuplicateMake C_UnknownMake C_Order fi_Full fi_InvalidName fi_DuplicateMake fi_UnknownMake pp_Order_makes fp_Order_makes ca_law_grown tp_law_grown : Addr} {od1 an1 od2 an2 od3 an3 od4 an4 od5 an5 od6 an6 od7 an7 od8 an8 od9 an9 od10 an10 od11 an11 od12 an12 od13 an13 od14 an14 od15 an15 od16 an16 od17 an17 od18 an18 od19 an19 od20 an20 od21 an21 od22 an22 od23 an23 od24 an24 od25 an25 od26 an26 od27 an27 od28 an28 od29 an29 od30 an30 od31 an31 od32 an32 od33 an33 od34 an34 od35 an35 od36 an36 : Option Addr} {sl1 sl2 sl3 sl4 sl5 sl6 sl7 sl8 sl9 sl10 sl11 sl12 sl13 sl14 sl15 sl16 sl17 sl18 sl19 sl20 sl21 sl22 sl23 sl24 sl25 sl26 sl27 sl28 sl29 sl30 sl31 sl32 sl33 sl34 sl35 sl36 : Array (Option Value)} {oc1 kV1 dc1 pm1 ct1 cd1 oc2 kV2 dc2 pm2 ct2 cd2 oc3 kV3 dc3 pm3 ct3 cd3 oc4 kV4 dc4 pm4 ct4 cd4 oc5 kV5 dc5 pm5 ct5 cd5 oc6 kV6 dc6 pm6 ct6 cd6 oc7 kV7 dc7 pm7 ct7 cd7 oc8 kV8 dc8 pm8 ct8 cd8 oc9 kV9 dc9 pm9 ct9 cd9 oc10 kV10 dc10 pm10 ct10 cd10 oc11 kV11 dc11 pm11 ct11 cd11 oc12 kV12 dc12 pm12 ct12 cd12 oc13 kV13 dc13 pm13 ct13 cd13 oc14 kV14 dc14 pm14 ct14 cd14 oc15 kV15 dc15 pm15 ct15 cd15 oc16 kV16 dc16 pm16 ct16 cd16 oc17 kV17 dc17 pm17 ct17 cd17 oc18 kV18 dc18 pm18 ct18 cd18 oc19 kV19 dc19 pm19 ct19 cd19 oc20 kV20 dc20 pm20 ct20 oc21 kV21 dc21 pm21 ct21 cd21 oc22 kV22 dc22 pm22 ct22 cd22 oc23 kV23 dc23 pm23 ct23 cd23 oc24 kV24 dc24 pm24 ct24 cd24 oc25 kV25 dc25 pm25 ct25 cd25 oc26 kV26 dc26 pm26 ct26 cd26 oc27 kV27 dc27 pm27 ct27 cd27 oc28 kV28 dc28 pm28 ct28 cd28 oc29 kV29 dc29 pm29 ct29 cd29 oc30 kV30 dc30 pm30 ct30 cd30 oc31 kV31 dc31 pm31 ct31 cd31 oc32 kV32 dc32 pm32 ct32 cd32 oc33 kV33 dc33 pm33 ct33 cd33 oc34 kV34 dc34 pm34 ct34 cd34 oc35 kV35 dc35 pm35 ct35 cd35 oc36 kV36 dc36 pm36 ct36 cd36 : Value} {nm_Full q_Full : Str} {N_Full B_Full : Addr} {bs_Full su_Full : List Value} {sn_Full : List Str} {ab_Full : Bool} {co_Full : Option Bool} {dd_Full : Option Addr} {m0_Full m1_Full m2_Full m3_Full m5_Full : Option Value} {nm_InvalidName q_InvalidName : Str} {N_InvalidName B_InvalidName : Addr} {bs_InvalidName su_InvalidName : List Value} {sn_InvalidName : List Str} {ab_InvalidName : Bool} {co_InvalidName : Option Bool} {dd_InvalidName : Option Addr} {m0_InvalidName m1_InvalidName m2_InvalidName m3_InvalidName m5_InvalidName : Option Value} {nm_DuplicateMake q_DuplicateMake : Str} {N_DuplicateMake B_DuplicateMake : Addr} {bs_DuplicateMake su_DuplicateMake : List Value} {sn_DuplicateMake : List Str} {ab_DuplicateMake : Bool} {co_DuplicateMake : Option Bool} {dd_DuplicateMake : Option Addr} {m0_DuplicateMake m1_DuplicateMake m2_DuplicateMake m3_DuplicateMake m5_DuplicateMake : Option Value} {nm_UnknownMake q_UnknownMake : Str} {N_UnknownMake B_UnknownMake : Addr} {bs_UnknownMake su_UnknownMake : List Value} {sn_UnknownMake : List Str} {ab_UnknownMake : Bool} {co_UnknownMake : Option Bool} {dd_UnknownMake : Option Addr} {m0_UnknownMake m1_UnknownMake m2_UnknownMake m3_UnknownMake m5_UnknownMake : Option Value} {dT13 : Addr} {dN13 : Nat} {dO13 : Value} {dD13 : Option Addr} {dS13 : Array (Option Value)} {dE13_0 : Addr} {tk_LETTERS : Tok} {tk_LONGEST_NAME : Tok} {tk_MOST_MAKES : Tok} {pr_Order_makes : List Value} (X : K.In h) (G : h.Ns mainGlobals mg) (hfa : mg "law" = some (.ref fa))
    (g_Order : PySem.W.nsIn K mainGlobals "Order" = some (some (.ref C_Order)))
    (a1 : PySem.W.nsIn K mainGlobals "_law_box" = some (some (.ref f_law_box)))
    (l1 : K.lookup f_law_box = some ⟨oc1, od1, .func (PySem.W.fnOf "_law_box" "_law_box" (defArgs (topS 33)) (defBody (topS 33)) (defScope (topS 33)) .none kV1 dc1 pm1 an1 cd1 ct1), sl1⟩)
    (c1 : PySem.W.codeIn K cd1 "_law_box" = true)
    (k1 : PySem.W.keepIn K (.ref f_law_box) = true)
    (a2 : PySem.W.nsIn K mainGlobals "_law_take" = some (some (.ref f_law_take)))
    (l2 : K.lookup f_law_take = some ⟨oc2, od2, .func (PySem.W.fnOf "_law_take" "_law_take" (defArgs (topS 32)) (defBody (topS 32)) (defScope (topS 32)) .none kV2 dc2 pm2 an2 cd2 ct2), sl2⟩)
    (c2 : PySem.W.codeIn K cd2 "_law_take" = true)
    (k2 : PySem.W.keepIn K (.ref f_law_take) = true)
    (a3 : PySem.W.nsIn K mainGlobals "_law_name" = some (some (.ref f_law_name)))
    (l3 : K.lookup f_law_name = some ⟨oc3, od3, .func (PySem.W.fnOf "_law_name" "_law_name" (defArgs (topS 34)) (defBody (topS 34)) (defScope (topS 34)) .none kV3 dc3 pm3 an3 cd3 ct3), sl3⟩)
    (c3 : PySem.W.codeIn K cd3 "_law_name" = true)
    (k3 : PySem.W.keepIn K (.ref f_law_name) = true)
    (a4 : PySem.W.nsIn K mainGlobals "_law_names" = some (some (.ref f_law_names)))
    (l4 : K.lookup f_law_names = some ⟨oc4, od4, .func (PySem.W.fnOf "_law_names" "_law_names" (defArgs (topS 35)) (defBody (topS 35)) (defScope (topS 35)) .none kV4 dc4 pm4 an4 cd4 ct4), sl4⟩)
    (c4 : PySem.W.codeIn K cd4 "_law_names" = true)
    (k4 : PySem.W.keepIn K (.ref f_law_names) = true)
    (a5 : PySem.W.nsIn K mainGlobals "_law_drawn_pairs" = some (some (.ref f_law_drawn_pairs)))
    (l5 : K.lookup f_law_drawn_pairs = some ⟨oc5, od5, .func (PySem.W.fnOf "_law_drawn_pairs" "_law_drawn_pairs" (defArgs (topS 36)) (defBody (topS 36)) (defScope (topS 36)) .none kV5 dc5 pm5 an5 cd5 ct5), sl5⟩)
    (c5 : PySem.W.codeIn K cd5 "_law_drawn_pairs" = true)
    (k5 : PySem.W.keepIn K (.ref f_law_drawn_pairs) = true)
    (a6 : PySem.W.nsIn K mainGlobals "_law_named" = some (some (.ref f_law_named)))
    (l6 : K.lookup f_law_named = some ⟨oc6, od6, .func (PySem.W.fnOf "_law_named" "_law_named" (defArgs (topS 37)) (defBody (topS 37)) (defScope (topS 37)) .none kV6 dc6 pm6 an6 cd6 ct6), sl6⟩)
    (c6 : PySem.W.codeIn K cd6 "_law_named" = true)
    (k6 : PySem.W.keepIn K (.ref f_law_named) = true)
    (a7 : PySem.W.nsIn K mainGlobals "check_name" = some (some (.ref f_check_name)))
    (l7 : K.lookup f_check_name = some ⟨oc7, od7, .func (PySem.W.fnOf "check_name" "check_name" (defArgs (topS 12)) (defBody (topS 12)) (defScope (topS 12)) .none kV7 dc7 pm7 an7 cd7 ct7), sl7⟩)
    (c7 : PySem.W.codeIn K cd7 "check_name" = true)
    (k7 : PySem.W.keepIn K (.ref f_check_name) = true)
    (a8 : PySem.W.nsIn K mainGlobals "check_makes" = some (some (.ref f_check_makes)))
    (l8 : K.lookup f_check_makes = some ⟨oc8, od8, .func (PySem.W.fnOf "check_makes" "check_makes" (defArgs (topS 13)) (defBody (topS 13)) (defScope (topS 13)) .none kV8 dc8 pm8 an8 cd8 ct8), sl8⟩)
    (c8 : PySem.W.codeIn K cd8 "check_makes" = true)
    (k8 : PySem.W.keepIn K (.ref f_check_makes) = true)
    (a9 : PySem.W.nsIn K mainGlobals "check_known" = some (some (.ref f_check_known)))
    (l9 : K.lookup f_check_known = some ⟨oc9, od9, .func (PySem.W.fnOf "check_known" "check_known" (defArgs (topS 14)) (defBody (topS 14)) (defScope (topS 14)) .none kV9 dc9 pm9 an9 cd9 ct9), sl9⟩)
    (c9 : PySem.W.codeIn K cd9 "check_known" = true)
    (k9 : PySem.W.keepIn K (.ref f_check_known) = true)
    (a10 : PySem.W.nsIn K mainGlobals "check_pairs" = some (some (.ref f_check_pairs)))
    (l10 : K.lookup f_check_pairs = some ⟨oc10, od10, .func (PySem.W.fnOf "check_pairs" "check_pairs" (defArgs (topS 15)) (defBody (topS 15)) (defScope (topS 15)) .none kV10 dc10 pm10 an10 cd10 ct10), sl10⟩)
    (c10 : PySem.W.codeIn K cd10 "check_pairs" = true)
    (k10 : PySem.W.keepIn K (.ref f_check_pairs) = true)
    (a11 : PySem.W.nsIn K mainGlobals "closed_rows" = some (some (.ref f_closed_rows)))
    (l11 : K.lookup f_closed_rows = some ⟨oc11, od11, .func (PySem.W.fnOf "closed_rows" "closed_rows" (defArgs (topS 17)) (defBody (topS 17)) (defScope (topS 17)) .none kV11 dc11 pm11 an11 cd11 ct11), sl11⟩)
    (c11 : PySem.W.codeIn K cd11 "closed_rows" = true)
    (k11 : PySem.W.keepIn K (.ref f_closed_rows) = true)
    (a12 : PySem.W.nsIn K mainGlobals "rows_of" = some (some (.ref f_rows_of)))
    (l12 : K.lookup f_rows_of = some ⟨oc12, od12, .func (PySem.W.fnOf "rows_of" "rows_of" (defArgs (topS 18)) (defBody (topS 18)) (defScope (topS 18)) .none kV12 dc12 pm12 an12 cd12 ct12), sl12⟩)
    (c12 : PySem.W.codeIn K cd12 "rows_of" = true)
    (k12 : PySem.W.keepIn K (.ref f_rows_of) = true)
    (a13 : PySem.W.findIn K (.ref C_Order) "__init__" = some (some (.ref f_Order___init__)))
    (i13 : PySem.W.isFn K (.ref f_Order___init__) = true)
    (l13 : K.lookup f_Order___init__ = some ⟨oc13, od13, .func (PySem.W.fnOf "__init__" "Order.__init__" (defArgs (cls_st 19 1)) (defBody (cls_st 19 1)) (defScope (cls_st 19 1)) (.ref dT13) kV13 dc13 pm13 an13 cd13 ct13), sl13⟩)
    (c13 : PySem.W.codeIn K cd13 "Order.__init__" = true)
    (k13 : PySem.W.keepIn K (.ref f_Order___init__) = true)
    (d13 : K.lookup dT13 = some ⟨dO13, dD13, .seq #[.ref dE13_0] dN13, dS13⟩)
    (a14 : PySem.W.nsIn K mainGlobals "_law_closed" = some (some (.ref f_law_closed)))
    (l14 : K.lookup f_law_closed = some ⟨oc14, od14, .func (PySem.W.fnOf "_law_closed" "_law_closed" (defArgs (topS 38)) (defBody (topS 38)) (defScope (topS 38)) .none kV14 dc14 pm14 an14 cd14 ct14), sl14⟩)
    (c14 : PySem.W.codeIn K cd14 "_law_closed" = true)
    (k14 : PySem.W.keepIn K (.ref f_law_closed) = true)
    (a15 : PySem.W.nsIn K mainGlobals "_law_chairs" = some (some (.ref f_law_chairs)))
    (l15 : K.lookup f_law_chairs = some ⟨oc15, od15, .func (PySem.W.fnOf "_law_chairs" "_law_chairs" (defArgs (topS 39)) (defBody (topS 39)) (defScope (topS 39)) .none kV15 dc15 pm15 an15 cd15 ct15), sl15⟩)
    (c15 : PySem.W.codeIn K cd15 "_law_chairs" = true)
    (k15 : PySem.W.keepIn K (.ref f_law_chairs) = true)
    (a16 : PySem.W.nsIn K mainGlobals "_law_heights" = some (some (.ref f_law_heights)))
    (l16 : K.lookup f_law_heights = some ⟨oc16, od16, .func (PySem.W.fnOf "_law_heights" "_law_heights" (defArgs (topS 40)) (defBody (topS 40)) (defScope (topS 40)) .none kV16 dc16 pm16 an16 cd16 ct16), sl16⟩)
    (c16 : PySem.W.codeIn K cd16 "_law_heights" = true)
    (k16 : PySem.W.keepIn K (.ref f_law_heights) = true)
    (a17 : PySem.W.nsIn K mainGlobals "_law_above" = some (some (.ref f_law_above)))
    (l17 : K.lookup f_law_above = some ⟨oc17, od17, .func (PySem.W.fnOf "_law_above" "_law_above" (defArgs (topS 31)) (defBody (topS 31)) (defScope (topS 31)) .none kV17 dc17 pm17 an17 cd17 ct17), sl17⟩)
    (c17 : PySem.W.codeIn K cd17 "_law_above" = true)
    (k17 : PySem.W.keepIn K (.ref f_law_above) = true)
    (a18 : PySem.W.nsIn K mainGlobals "_law_levels" = some (some (.ref f_law_levels)))
    (l18 : K.lookup f_law_levels = some ⟨oc18, od18, .func (PySem.W.fnOf "_law_levels" "_law_levels" (defArgs (topS 41)) (defBody (topS 41)) (defScope (topS 41)) .none kV18 dc18 pm18 an18 cd18 ct18), sl18⟩)
    (c18 : PySem.W.codeIn K cd18 "_law_levels" = true)
    (k18 : PySem.W.keepIn K (.ref f_law_levels) = true)
    (a19 : PySem.W.nsIn K mainGlobals "_law_stands" = some (some (.ref f_law_stands)))
    (l19 : K.lookup f_law_stands = some ⟨oc19, od19, .func (PySem.W.fnOf "_law_stands" "_law_stands" (defArgs (topS 30)) (defBody (topS 30)) (defScope (topS 30)) .none kV19 dc19 pm19 an19 cd19 ct19), sl19⟩)
    (c19 : PySem.W.codeIn K cd19 "_law_stands" = true)
    (k19 : PySem.W.keepIn K (.ref f_law_stands) = true)
    (a20 : PySem.W.nsIn K mainGlobals "_law_grown" = some (some (.ref f_law_grown)))
    (l20 : K.lookup f_law_grown = some ⟨oc20, od20, .func (PySem.W.fnOf "_law_grown" "_law_grown" (defArgs (topS 43)) (defBody (topS 43)) (defScope (topS 43)) .none kV20 dc20 pm20 an20 (.ref ca_law_grown) ct20), sl20⟩)
    (c20 : PySem.W.codeIn K (.ref ca_law_grown) "_law_grown" = true)
    (k20 : PySem.W.keepIn K (.ref f_law_grown) = true)
    (th_law_grown : PySem.W.codeHdIn K ca_law_grown tp_law_grown = true)
    (tn_law_grown : K.lookup tp_law_grown = none)
    (tz_law_grown : h.get? tp_law_grown = some { cls := .none, data := .fields #[] })
    (a21 : PySem.W.nsIn K mainGlobals "_law_is_int" = some (some (.ref f_law_is_int)))
    (l21 : K.lookup f_law_is_int = some ⟨oc21, od21, .func (PySem.W.fnOf "_law_is_int" "_law_is_int" (defArgs (topS 27)) (defBody (topS 27)) (defScope (topS 27)) .none kV21 dc21 pm21 an21 cd21 ct21), sl21⟩)
    (c21 : PySem.W.codeIn K cd21 "_law_is_int" = true)
    (k21 : PySem.W.keepIn K (.ref f_law_is_int) = true)
    (a22 : PySem.W.nsIn K mainGlobals "_law_int_list" = some (some (.ref f_law_int_list)))
    (l22 : K.lookup f_law_int_list = some ⟨oc22, od22, .func (PySem.W.fnOf "_law_int_list" "_law_int_list" (defArgs (topS 28)) (defBody (topS 28)) (defScope (topS 28)) .none kV22 dc22 pm22 an22 cd22 ct22), sl22⟩)
    (c22 : PySem.W.codeIn K cd22 "_law_int_list" = true)
    (k22 : PySem.W.keepIn K (.ref f_law_int_list) = true)
    (a23 : PySem.W.nsIn K mainGlobals "_law_indexes" = some (some (.ref f_law_indexes)))
    (l23 : K.lookup f_law_indexes = some ⟨oc23, od23, .func (PySem.W.fnOf "_law_indexes" "_law_indexes" (defArgs (topS 29)) (defBody (topS 29)) (defScope (topS 29)) .none kV23 dc23 pm23 an23 cd23 ct23), sl23⟩)
    (c23 : PySem.W.codeIn K cd23 "_law_indexes" = true)
    (k23 : PySem.W.keepIn K (.ref f_law_indexes) = true)
    (a24 : PySem.W.nsIn K mainGlobals "_law_due" = some (some (.ref f_law_due)))
    (l24 : K.lookup f_law_due = some ⟨oc24, od24, .func (PySem.W.fnOf "_law_due" "_law_due" (defArgs (topS 42)) (defBody (topS 42)) (defScope (topS 42)) .none kV24 dc24 pm24 an24 cd24 ct24), sl24⟩)
    (c24 : PySem.W.codeIn K cd24 "_law_due" = true)
    (k24 : PySem.W.keepIn K (.ref f_law_due) = true)
    (a25 : PySem.W.nsIn K mainGlobals "are_chairs" = some (some (.ref f_are_chairs)))
    (l25 : K.lookup f_are_chairs = some ⟨oc25, od25, .func (PySem.W.fnOf "are_chairs" "are_chairs" (defArgs (topS 23)) (defBody (topS 23)) (defScope (topS 23)) .none kV25 dc25 pm25 an25 cd25 ct25), sl25⟩)
    (c25 : PySem.W.codeIn K cd25 "are_chairs" = true)
    (k25 : PySem.W.keepIn K (.ref f_are_chairs) = true)
    (a26 : PySem.W.findIn K (.ref C_Order) "has" = some (some (.ref f_Order_has)))
    (i26 : PySem.W.isFn K (.ref f_Order_has) = true)
    (l26 : K.lookup f_Order_has = some ⟨oc26, od26, .func (PySem.W.fnOf "has" "Order.has" (defArgs (cls_st 19 5)) (defBody (cls_st 19 5)) (defScope (cls_st 19 5)) .none kV26 dc26 pm26 an26 cd26 ct26), sl26⟩)
    (c26 : PySem.W.codeIn K cd26 "Order.has" = true)
    (k26 : PySem.W.keepIn K (.ref f_Order_has) = true)
    (a27 : PySem.W.nsIn K mainGlobals "stands" = some (some (.ref f_stands)))
    (l27 : K.lookup f_stands = some ⟨oc27, od27, .func (PySem.W.fnOf "stands" "stands" (defArgs (topS 24)) (defBody (topS 24)) (defScope (topS 24)) .none kV27 dc27 pm27 an27 cd27 ct27), sl27⟩)
    (c27 : PySem.W.codeIn K cd27 "stands" = true)
    (k27 : PySem.W.keepIn K (.ref f_stands) = true)
    (a28 : PySem.W.nsIn K mainGlobals "ranks_above" = some (some (.ref f_ranks_above)))
    (l28 : K.lookup f_ranks_above = some ⟨oc28, od28, .func (PySem.W.fnOf "ranks_above" "ranks_above" (defArgs (topS 21)) (defBody (topS 21)) (defScope (topS 21)) .none kV28 dc28 pm28 an28 cd28 ct28), sl28⟩)
    (c28 : PySem.W.codeIn K cd28 "ranks_above" = true)
    (k28 : PySem.W.keepIn K (.ref f_ranks_above) = true)
    (a29 : PySem.W.nsIn K mainGlobals "below_lists" = some (some (.ref f_below_lists)))
    (l29 : K.lookup f_below_lists = some ⟨oc29, od29, .func (PySem.W.fnOf "below_lists" "below_lists" (defArgs (topS 22)) (defBody (topS 22)) (defScope (topS 22)) .none kV29 dc29 pm29 an29 cd29 ct29), sl29⟩)
    (c29 : PySem.W.codeIn K cd29 "below_lists" = true)
    (k29 : PySem.W.keepIn K (.ref f_below_lists) = true)
    (a30 : PySem.W.nsIn K mainGlobals "check_tallest" = some (some (.ref f_check_tallest)))
    (l30 : K.lookup f_check_tallest = some ⟨oc30, od30, .func (PySem.W.fnOf "check_tallest" "check_tallest" (defArgs (topS 25)) (defBody (topS 25)) (defScope (topS 25)) .none kV30 dc30 pm30 an30 cd30 ct30), sl30⟩)
    (c30 : PySem.W.codeIn K cd30 "check_tallest" = true)
    (k30 : PySem.W.keepIn K (.ref f_check_tallest) = true)
    (a31 : PySem.W.nsIn K mainGlobals "law" = some (some (.ref f_law)))
    (l31 : K.lookup f_law = some ⟨oc31, od31, .func (PySem.W.fnOf "law" "law" (defArgs (topS 44)) (defBody (topS 44)) (defScope (topS 44)) .none kV31 dc31 pm31 an31 cd31 ct31), sl31⟩)
    (c31 : PySem.W.codeIn K cd31 "law" = true)
    (k31 : PySem.W.keepIn K (.ref f_law) = true)
    (g_Full : PySem.W.nsIn K mainGlobals "Full" = some (some (.ref C_Full)))
    (g_InvalidName : PySem.W.nsIn K mainGlobals "InvalidName" = some (some (.ref C_InvalidName)))
    (g_DuplicateMake : PySem.W.nsIn K mainGlobals "DuplicateMake" = some (some (.ref C_DuplicateMake)))
    (g_UnknownMake : PySem.W.nsIn K mainGlobals "UnknownMake" = some (some (.ref C_UnknownMake)))
    (e_Full : PySem.W.subIn K (.ref C_Full) (.type "BaseException") = some true)
    (ty_Full : PySem.W.typeIn K (.ref C_Full) = some (.type "type"))
    (e_InvalidName : PySem.W.subIn K (.ref C_InvalidName) (.type "BaseException") = some true)
    (ty_InvalidName : PySem.W.typeIn K (.ref C_InvalidName) = some (.type "type"))
    (e_DuplicateMake : PySem.W.subIn K (.ref C_DuplicateMake) (.type "BaseException") = some true)
    (ty_DuplicateMake : PySem.W.typeIn K (.ref C_DuplicateMake) = some (.type "type"))
    (e_UnknownMake : PySem.W.subIn K (.ref C_UnknownMake) (.type "BaseException") = some true)
    (ty_UnknownMake : PySem.W.typeIn K (.ref C_UnknownMake) = some (.type "type"))
    (xl_Full : K.lookup C_Full = some (excClassObj nm_Full q_Full C_Full N_Full bs_Full (.ref B_Full :: [.type "ValueError", .type "Exception", .type "BaseException", .type "object"]) true sn_Full su_Full ab_Full co_Full dd_Full m0_Full m1_Full m2_Full m3_Full m5_Full "ValueError.__new__"))
    (sa_Full : PySem.W.findIn K (.ref C_Full) "__setattr__" = some (some (.builtin "object.__setattr__")))
    (kc_Full : PySem.W.keepIn K (.ref C_Full) = true)
    (nf_Full_most : PySem.W.findIn K (.ref C_Full) "most" = some none)
    (i_Full : PySem.W.findIn K (.ref C_Full) "__init__" = some (some (.ref fi_Full)))
    (t_Full : PySem.W.typeIn K (.ref fi_Full) = some (.type "function"))
    (l32 : K.lookup fi_Full = some ⟨oc32, od32, .func (PySem.W.fnOf "__init__" "Full.__init__" (defArgs (cls_st 6 0)) (defBody (cls_st 6 0)) (defScope (cls_st 6 0)) .none kV32 dc32 pm32 an32 cd32 ct32), sl32⟩)
    (c32 : PySem.W.codeIn K cd32 "Full.__init__" = true)
    (k32 : PySem.W.keepIn K (.ref fi_Full) = true)
    (xl_InvalidName : K.lookup C_InvalidName = some (excClassObj nm_InvalidName q_InvalidName C_InvalidName N_InvalidName bs_InvalidName (.ref B_InvalidName :: [.type "ValueError", .type "Exception", .type "BaseException", .type "object"]) true sn_InvalidName su_InvalidName ab_InvalidName co_InvalidName dd_InvalidName m0_InvalidName m1_InvalidName m2_InvalidName m3_InvalidName m5_InvalidName "ValueError.__new__"))
    (sa_InvalidName : PySem.W.findIn K (.ref C_InvalidName) "__setattr__" = some (some (.builtin "object.__setattr__")))
    (kc_InvalidName : PySem.W.keepIn K (.ref C_InvalidName) = true)
    (nf_InvalidName_name : PySem.W.findIn K (.ref C_InvalidName) "name" = some none)
    (i_InvalidName : PySem.W.findIn K (.ref C_InvalidName) "__init__" = some (some (.ref fi_InvalidName)))
    (t_InvalidName : PySem.W.typeIn K (.ref fi_InvalidName) = some (.type "function"))
    (l33 : K.lookup fi_InvalidName = some ⟨oc33, od33, .func (PySem.W.fnOf "__init__" "InvalidName.__init__" (defArgs (cls_st 3 0)) (defBody (cls_st 3 0)) (defScope (cls_st 3 0)) .none kV33 dc33 pm33 an33 cd33 ct33), sl33⟩)
    (c33 : PySem.W.codeIn K cd33 "InvalidName.__init__" = true)
    (k33 : PySem.W.keepIn K (.ref fi_InvalidName) = true)
    (xl_DuplicateMake : K.lookup C_DuplicateMake = some (excClassObj nm_DuplicateMake q_DuplicateMake C_DuplicateMake N_DuplicateMake bs_DuplicateMake (.ref B_DuplicateMake :: [.type "ValueError", .type "Exception", .type "BaseException", .type "object"]) true sn_DuplicateMake su_DuplicateMake ab_DuplicateMake co_DuplicateMake dd_DuplicateMake m0_DuplicateMake m1_DuplicateMake m2_DuplicateMake m3_DuplicateMake m5_DuplicateMake "ValueError.__new__"))
    (sa_DuplicateMake : PySem.W.findIn K (.ref C_DuplicateMake) "__setattr__" = some (some (.builtin "object.__setattr__")))
    (kc_DuplicateMake : PySem.W.keepIn K (.ref C_DuplicateMake) = true)
    (nf_DuplicateMake_name : PySem.W.findIn K (.ref C_DuplicateMake) "name" = some none)
    (i_DuplicateMake : PySem.W.findIn K (.ref C_DuplicateMake) "__init__" = some (some (.ref fi_DuplicateMake)))
    (t_DuplicateMake : PySem.W.typeIn K (.ref fi_DuplicateMake) = some (.type "function"))
    (l34 : K.lookup fi_DuplicateMake = some ⟨oc34, od34, .func (PySem.W.fnOf "__init__" "DuplicateMake.__init__" (defArgs (cls_st 4 0)) (defBody (cls_st 4 0)) (defScope (cls_st 4 0)) .none kV34 dc34 pm34 an34 cd34 ct34), sl34⟩)
    (c34 : PySem.W.codeIn K cd34 "DuplicateMake.__init__" = true)
    (k34 : PySem.W.keepIn K (.ref fi_DuplicateMake) = true)
    (xl_UnknownMake : K.lookup C_UnknownMake = some (excClassObj nm_UnknownMake q_UnknownMake C_UnknownMake N_UnknownMake bs_UnknownMake (.ref B_UnknownMake :: [.type "ValueError", .type "Exception", .type "BaseException", .type "object"]) true sn_UnknownMake su_UnknownMake ab_UnknownMake co_UnknownMake dd_UnknownMake m0_UnknownMake m1_UnknownMake m2_UnknownMake m3_UnknownMake m5_UnknownMake "ValueError.__new__"))
    (sa_UnknownMake : PySem.W.findIn K (.ref C_UnknownMake) "__setattr__" = some (some (.builtin "object.__setattr__")))
    (kc_UnknownMake : PySem.W.keepIn K (.ref C_UnknownMake) = true)
    (nf_UnknownMake_name : PySem.W.findIn K (.ref C_UnknownMake) "name" = some none)
    (i_UnknownMake : PySem.W.findIn K (.ref C_UnknownMake) "__init__" = some (some (.ref fi_UnknownMake)))
    (t_UnknownMake : PySem.W.typeIn K (.ref fi_UnknownMake) = some (.type "function"))
    (l35 : K.lookup fi_UnknownMake = some ⟨oc35, od35, .func (PySem.W.fnOf "__init__" "UnknownMake.__init__" (defArgs (cls_st 5 0)) (defBody (cls_st 5 0)) (defScope (cls_st 5 0)) .none kV35 dc35 pm35 an35 cd35 ct35), sl35⟩)
    (c35 : PySem.W.codeIn K cd35 "UnknownMake.__init__" = true)
    (k35 : PySem.W.keepIn K (.ref fi_UnknownMake) = true)
    (pg_Order : PySem.W.plainGet K C_Order Str.empty = true)
    (hd_Order : PySem.W.hasDictIn K C_Order = true)
    (po_Order : PySem.W.plainOver K C_Order = true)
    (sa_Order : PySem.W.findIn K (.ref C_Order) "__setattr__" = some (some (.builtin "object.__setattr__")))
    (kk_LETTERS : PySem.W.nsIn K mainGlobals "LETTERS" = some (some (.str "abcdefghijklmnopqrstuvwxyz" tk_LETTERS)))
    (kk_LONGEST_NAME : PySem.W.nsIn K mainGlobals "LONGEST_NAME" = some (some (.int 12 tk_LONGEST_NAME)))
    (kk_MOST_MAKES : PySem.W.nsIn K mainGlobals "MOST_MAKES" = some (some (.int 12 tk_MOST_MAKES)))
    (nf_Order_names : PySem.W.findIn K (.ref C_Order) "names" = some none)
    (nf_Order_rows : PySem.W.findIn K (.ref C_Order) "rows" = some none)
    (mk_Order : PySem.W.makesIn K C_Order = true)
    (kc_Order : PySem.W.keepIn K (.ref C_Order) = true)
    (pa_Order_makes : PySem.W.findIn K (.ref C_Order) "makes" = some (some (.ref pp_Order_makes)))
    (pg_Order_makes : PySem.W.specialIn K (.ref pp_Order_makes) "__get__" = some (some (.builtin "property.__get__")))
    (pt_Order_makes : PySem.W.takesIn K (.ref pp_Order_makes) = some true)
    (pc_Order_makes : PySem.W.recIn K pp_Order_makes "property" = some (.ref fp_Order_makes :: pr_Order_makes))
    (l36 : K.lookup fp_Order_makes = some ⟨oc36, od36, .func (PySem.W.fnOf "makes" "Order.makes" (defArgs (cls_st 19 4)) (defBody (cls_st 19 4)) (defScope (cls_st 19 4)) .none kV36 dc36 pm36 an36 cd36 ct36), sl36⟩)
    (c36 : PySem.W.codeIn K cd36 "Order.makes" = true)
    (k36 : PySem.W.keepIn K (.ref fp_Order_makes) = true)
    (z0 : PySem.W.nsIn K mainGlobals "bool" = some none)
    (z1 : PySem.W.nsIn K mainGlobals "dict" = some none)
    (z2 : PySem.W.nsIn K mainGlobals "enumerate" = some none)
    (z3 : PySem.W.nsIn K mainGlobals "int" = some none)
    (z4 : PySem.W.nsIn K mainGlobals "isinstance" = some none)
    (z5 : PySem.W.nsIn K mainGlobals "len" = some none)
    (z6 : PySem.W.nsIn K mainGlobals "list" = some none)
    (z7 : PySem.W.nsIn K mainGlobals "max" = some none)
    (z8 : PySem.W.nsIn K mainGlobals "min" = some none)
    (z9 : PySem.W.nsIn K mainGlobals "range" = some none)
    (z10 : PySem.W.nsIn K mainGlobals "sorted" = some none)
    (z11 : PySem.W.nsIn K mainGlobals "sum" = some none)
    (z12 : PySem.W.nsIn K mainGlobals "tuple" = some none)
    (hm : ∀ ns : List Int, ns.length ≤ 63 → ∃ os, m_law [scr ns] = .ok (.bl true) os) :
    ∃ (fd : FuncData) (cs : List (Addr × Addr)) (sp : Sp), (∀ p ∈ cs, h.get? p.2 = some { cls := .none, data := .fields #[] }) ∧ (∀ p ∈ cs, K.lookup p.2 = none) ∧ (∀ p ∈ cs, PySem.W.CodeHd h p.1 p.2) ∧ (∀ (s : Shared) (u : Value), BindsTo s fd ⟨[u], []⟩ [("_law_script", u)]) ∧
      (∀ (H : Hp) (a : Addr) (ns : List Int), ns.length ≤ 63 → (∀ z ∈ ns, Builtin.Int.intBits z ≤ 1048576) → (∀ p ∈ cs, H p.2 = some (.tbl #[])) → SqL K H a (ns.map V.int) → sp [.ref a] H (fun v _ => v = .bl true) fun _ _ _ => False) ∧
      ∀ base : Heap, K.In base → base.Ns mainGlobals mg → (∀ p ∈ cs, LamX.TabB base mg p.1 p.2) → FnOk P w K mg base (L2N.CX P w) 7 fa fd ["_law_script"] sp := by
  have e := hfa.symm.trans (PySem.W.mg_of X G a31)
  cases e
  have F1 := fun_mk (st := (topS 33)) l1 c1 k1
  have B1 := F1.binds (ps := ["_law_script"]) fun _ _ _ _ _ _ us hl => match us, hl with | [_], _ => rfl
  have F2 := fun_mk (st := (topS 32)) l2 c2 k2
  have B2 := F2.binds (ps := ["_law_box_here", "_law_many"]) fun _ _ _ _ _ _ us hl => match us, hl with | [_, _], _ => rfl
  have F3 := fun_mk (st := (topS 34)) l3 c3 k3
  have B3 := F3.binds (ps := ["_law_box_here", "_law_names_here"]) fun _ _ _ _ _ _ us hl => match us, hl with | [_, _], _ => rfl
  have F4 := fun_mk (st := (topS 35)) l4 c4 k4
  have B4 := F4.binds (ps := ["_law_box_here", "_law_size"]) fun _ _ _ _ _ _ us hl => match us, hl with | [_, _], _ => rfl
  have F5 := fun_mk (st := (topS 36)) l5 c5 k5
  have B5 := F5.binds (ps := ["_law_box_here", "_law_size", "_law_count"]) fun _ _ _ _ _ _ us hl => match us, hl with | [_, _, _], _ => rfl
  have F6 := fun_mk (st := (topS 37)) l6 c6 k6
  have B6 := F6.binds (ps := ["_law_names_here", "_law_pairs"]) fun _ _ _ _ _ _ us hl => match us, hl with | [_, _], _ => rfl
  have F7 := fun_mk (st := (topS 12)) l7 c7 k7
  have B7 := F7.binds (ps := ["name"]) fun _ _ _ _ _ _ us hl => match us, hl with | [_], _ => rfl
  have F8 := fun_mk (st := (topS 13)) l8 c8 k8
  have B8 := F8.binds (ps := ["makes"]) fun _ _ _ _ _ _ us hl => match us, hl with | [_], _ => rfl
  have F9 := fun_mk (st := (topS 14)) l9 c9 k9
  have B9 := F9.binds (ps := ["makes", "names"]) fun _ _ _ _ _ _ us hl => match us, hl with | [_, _], _ => rfl
  have F10 := fun_mk (st := (topS 15)) l10 c10 k10
  have B10 := F10.binds (ps := ["makes", "pairs"]) fun _ _ _ _ _ _ us hl => match us, hl with | [_, _], _ => rfl
  have F11 := fun_mk (st := (topS 17)) l11 c11 k11
  have B11 := F11.binds (ps := ["rows"]) fun _ _ _ _ _ _ us hl => match us, hl with | [_], _ => rfl
  have F12 := fun_mk (st := (topS 18)) l12 c12 k12
  have B12 := F12.binds (ps := ["names", "pairs"]) fun _ _ _ _ _ _ us hl => match us, hl with | [_, _], _ => rfl
  have F13 : FunD K "__init__" "Order.__init__" (defArgs (cls_st 19 1)) (defBody (cls_st 19 1)) (defScope (cls_st 19 1)) [.ref dE13_0] [] f_Order___init__ (PySem.W.fnOf "__init__" "Order.__init__" (defArgs (cls_st 19 1)) (defBody (cls_st 19 1)) (defScope (cls_st 19 1)) (.ref dT13) kV13 dc13 pm13 an13 cd13 ct13) := ⟨⟨_, _, _, _, _, _, _, _, _, _, rfl, l13, c13, .inr ⟨(by simp), dT13, _, [.ref dE13_0], dN13, rfl, d13, rfl, (.cons rfl .nil)⟩, .inl rfl⟩, k13⟩
  have B13 := bindsAll F13 (ps := ["self", "makes", "pairs"]) 3 (by simp) rfl fun _ _ _ _ _ _ _ us its h1 h2 => match us, h1, its, h2 with | [_, _, _], _, [_], _ => ⟨_, rfl, rfl⟩
  have F14 := fun_mk (st := (topS 38)) l14 c14 k14
  have B14 := F14.binds (ps := ["_law_size", "_law_pairs"]) fun _ _ _ _ _ _ us hl => match us, hl with | [_, _], _ => rfl
  have F15 := fun_mk (st := (topS 39)) l15 c15 k15
  have B15 := F15.binds (ps := ["_law_box_here", "_law_names_here", "_law_most"]) fun _ _ _ _ _ _ us hl => match us, hl with | [_, _, _], _ => rfl
  have F16 := fun_mk (st := (topS 40)) l16 c16 k16
  have B16 := F16.binds (ps := ["_law_box_here", "_law_names_here", "_law_chairs_here"]) fun _ _ _ _ _ _ us hl => match us, hl with | [_, _, _], _ => rfl
  have F17 := fun_mk (st := (topS 31)) l17 c17 k17
  have B17 := F17.binds (ps := ["_law_reach", "_law_places", "_law_i", "_law_j"]) fun _ _ _ _ _ _ us hl => match us, hl with | [_, _, _, _], _ => rfl
  have F18 := fun_mk (st := (topS 41)) l18 c18 k18
  have B18 := F18.binds (ps := ["_law_reach", "_law_places", "_law_own"]) fun _ _ _ _ _ _ us hl => match us, hl with | [_, _, _], _ => rfl
  have F19 := fun_mk (st := (topS 30)) l19 c19 k19
  have B19 := F19.binds (ps := ["_law_reach", "_law_places", "_law_stack"]) fun _ _ _ _ _ _ us hl => match us, hl with | [_, _, _], _ => rfl
  have F20 := fun_mk (st := (topS 43)) l20 c20 k20
  have B20 := F20.binds (ps := ["_law_box_here", "_law_reach", "_law_places", "_law_levels_here"]) fun _ _ _ _ _ _ us hl => match us, hl with | [_, _, _, _], _ => rfl
  have F21 := fun_mk (st := (topS 27)) l21 c21 k21
  have B21 := F21.binds (ps := ["_law_value"]) fun _ _ _ _ _ _ us hl => match us, hl with | [_], _ => rfl
  have F22 := fun_mk (st := (topS 28)) l22 c22 k22
  have B22 := F22.binds (ps := ["_law_value"]) fun _ _ _ _ _ _ us hl => match us, hl with | [_], _ => rfl
  have F23 := fun_mk (st := (topS 29)) l23 c23 k23
  have B23 := F23.binds (ps := ["_law_value", "_law_many"]) fun _ _ _ _ _ _ us hl => match us, hl with | [_, _], _ => rfl
  have F24 := fun_mk (st := (topS 42)) l24 c24 k24
  have B24 := F24.binds (ps := ["_law_reach", "_law_places", "_law_own", "_law_height", "_law_stack", "_law_levels_here"]) fun _ _ _ _ _ _ us hl => match us, hl with | [_, _, _, _, _, _], _ => rfl
  have F25 := fun_mk (st := (topS 23)) l25 c25 k25
  have B25 := F25.binds (ps := ["indexes", "chairs"]) fun _ _ _ _ _ _ us hl => match us, hl with | [_, _], _ => rfl
  have F26 := fun_mk (st := (cls_st 19 5)) l26 c26 k26
  have B26 := F26.binds (ps := ["self", "upper", "lower"]) fun _ _ _ _ _ _ us hl => match us, hl with | [_, _, _], _ => rfl
  have F27 := fun_mk (st := (topS 24)) l27 c27 k27
  have B27 := F27.binds (ps := ["order", "chairs", "stack"]) fun _ _ _ _ _ _ us hl => match us, hl with | [_, _, _], _ => rfl
  have F28 := fun_mk (st := (topS 21)) l28 c28 k28
  have B28 := F28.binds (ps := ["order", "chairs", "one", "other"]) fun _ _ _ _ _ _ us hl => match us, hl with | [_, _, _, _], _ => rfl
  have F29 := fun_mk (st := (topS 22)) l29 c29 k29
  have B29 := F29.binds (ps := ["order", "chairs"]) fun _ _ _ _ _ _ us hl => match us, hl with | [_, _], _ => rfl
  have F30 := fun_mk (st := (topS 25)) l30 c30 k30
  have B30 := F30.binds (ps := ["order", "chairs", "heights", "height", "stack", "levels"]) fun _ _ _ _ _ _ us hl => match us, hl with | [_, _, _, _, _, _], _ => rfl
  have F31 := fun_mk (st := (topS 44)) l31 c31 k31
  have B31 := F31.binds (ps := ["_law_script"]) fun _ _ _ _ _ _ us hl => match us, hl with | [_], _ => rfl
  have F32 := fun_mk (st := (cls_st 6 0)) l32 c32 k32
  have B32 := F32.binds (ps := ["self", "most"]) fun _ _ _ _ _ _ us hl => match us, hl with | [_, _], _ => rfl
  have F33 := fun_mk (st := (cls_st 3 0)) l33 c33 k33
  have B33 := F33.binds (ps := ["self", "name"]) fun _ _ _ _ _ _ us hl => match us, hl with | [_, _], _ => rfl
  have F34 := fun_mk (st := (cls_st 4 0)) l34 c34 k34
  have B34 := F34.binds (ps := ["self", "name"]) fun _ _ _ _ _ _ us hl => match us, hl with | [_, _], _ => rfl
  have F35 := fun_mk (st := (cls_st 5 0)) l35 c35 k35
  have B35 := F35.binds (ps := ["self", "name"]) fun _ _ _ _ _ _ us hl => match us, hl with | [_, _], _ => rfl
  have F36 := fun_mk (st := (cls_st 19 4)) l36 c36 k36
  have B36 := F36.binds (ps := ["self"]) fun _ _ _ _ _ _ us hl => match us, hl with | [_], _ => rfl
  have T : ∀ base : Heap, (∀ p ∈ ([(ca_law_grown, tp_law_grown)] : List (Addr × Addr)), LamX.TabB base mg p.1 p.2) → Txt K mg base f_law_box f_law_take f_law_name f_law_names f_law_drawn_pairs f_law_named f_check_name f_check_makes f_check_known f_check_pairs f_closed_rows f_rows_of f_Order___init__ f_law_closed f_law_chairs f_law_heights f_law_above f_law_levels f_law_stands f_law_grown f_law_is_int f_law_int_list f_law_indexes f_law_due f_are_chairs f_Order_has f_stands f_ranks_above f_below_lists f_check_tallest fa C_Full C_InvalidName C_DuplicateMake C_UnknownMake C_Order fi_Full fi_InvalidName fi_DuplicateMake fi_UnknownMake pp_Order_makes fp_Order_makes ca_law_grown tp_law_grown _ _ _ _ _ _ _ _ _ _ _ _ _ _ _ _ _ _ _ _ _ _ _ _ _ _ _ _ _ _ _ _ _ _ _ _ := fun base htb =>
    { b_bool := PySem.W.mg_none_of X G z0,
      b_dict := PySem.W.mg_none_of X G z1,
      b_enumerate := PySem.W.mg_none_of X G z2,
      b_int := PySem.W.mg_none_of X G z3,
      b_isinstance := PySem.W.mg_none_of X G z4,
      b_len := PySem.W.mg_none_of X G z5,
      b_list := PySem.W.mg_none_of X G z6,
      b_max := PySem.W.mg_none_of X G z7,
      b_min := PySem.W.mg_none_of X G z8,
      b_range := PySem.W.mg_none_of X G z9,
      b_sorted := PySem.W.mg_none_of X G z10,
      b_sum := PySem.W.mg_none_of X G z11,
      b_tuple := PySem.W.mg_none_of X G z12,
      F_law_box := F1,
      a_law_box := B1,
      g_law_box := PySem.W.mg_of X G a1,
      F_law_take := F2,
      a_law_take := B2,
      g_law_take := PySem.W.mg_of X G a2,
      F_law_name := F3,
      a_law_name := B3,
      g_law_name := PySem.W.mg_of X G a3,
      F_law_names := F4,
      a_law_names := B4,
      g_law_names := PySem.W.mg_of X G a4,
      F_law_drawn_pairs := F5,
      a_law_drawn_pairs := B5,
      g_law_drawn_pairs := PySem.W.mg_of X G a5,
      F_law_named := F6,
      a_law_named := B6,
      g_law_named := PySem.W.mg_of X G a6,
      F_check_name := F7,
      a_check_name := B7,
      g_check_name := PySem.W.mg_of X G a7,
      F_check_makes := F8,
      a_check_makes := B8,
      g_check_makes := PySem.W.mg_of X G a8,
      F_check_known := F9,
      a_check_known := B9,
      g_check_known := PySem.W.mg_of X G a9,
      F_check_pairs := F10,
      a_check_pairs := B10,
      g_check_pairs := PySem.W.mg_of X G a10,
      F_closed_rows := F11,
      a_closed_rows := B11,
      g_closed_rows := PySem.W.mg_of X G a11,
      F_rows_of := F12,
      a_rows_of := B12,
      g_rows_of := PySem.W.mg_of X G a12,
      F_Order___init__ := ⟨_, F13⟩,
      a_Order___init__ := B13,
      kp_Order___init__ := k13,
      F_law_closed := F14,
      a_law_closed := B14,
      g_law_closed := PySem.W.mg_of X G a14,
      F_law_chairs := F15,
      a_law_chairs := B15,
      g_law_chairs := PySem.W.mg_of X G a15,
      F_law_heights := F16,
      a_law_heights := B16,
      g_law_heights := PySem.W.mg_of X G a16,
      F_law_above := F17,
      a_law_above := B17,
      g_law_above := PySem.W.mg_of X G a17,
      F_law_levels := F18,
      a_law_levels := B18,
      g_law_levels := PySem.W.mg_of X G a18,
      F_law_stands := F19,
      a_law_stands := B19,
      g_law_stands := PySem.W.mg_of X G a19,
      F_law_grown := F20,
      a_law_grown := B20,
      g_law_grown := PySem.W.mg_of X G a20,
      F_law_is_int := F21,
      a_law_is_int := B21,
      g_law_is_int := PySem.W.mg_of X G a21,
      F_law_int_list := F22,
      a_law_int_list := B22,
      g_law_int_list := PySem.W.mg_of X G a22,
      F_law_indexes := F23,
      a_law_indexes := B23,
      g_law_indexes := PySem.W.mg_of X G a23,
      F_law_due := F24,
      a_law_due := B24,
      g_law_due := PySem.W.mg_of X G a24,
      F_are_chairs := F25,
      a_are_chairs := B25,
      g_are_chairs := PySem.W.mg_of X G a25,
      F_Order_has := F26,
      a_Order_has := B26,
      F_stands := F27,
      a_stands := B27,
      g_stands := PySem.W.mg_of X G a27,
      F_ranks_above := F28,
      a_ranks_above := B28,
      g_ranks_above := PySem.W.mg_of X G a28,
      F_below_lists := F29,
      a_below_lists := B29,
      g_below_lists := PySem.W.mg_of X G a29,
      F_check_tallest := F30,
      a_check_tallest := B30,
      g_check_tallest := PySem.W.mg_of X G a30,
      F_law := F31,
      a_law := B31,
      g_law := PySem.W.mg_of X G a31,
      g_Full := PySem.W.mg_of X G g_Full,
      c_Full := rfl,
      g_InvalidName := PySem.W.mg_of X G g_InvalidName,
      c_InvalidName := rfl,
      g_DuplicateMake := PySem.W.mg_of X G g_DuplicateMake,
      c_DuplicateMake := rfl,
      g_UnknownMake := PySem.W.mg_of X G g_UnknownMake,
      c_UnknownMake := rfl,
      g_Order := PySem.W.mg_of X G g_Order,
      c_Order := rfl,
      x_Full := ⟨⟨_, _, _, _, _, _, _, _, _, _, _, _, _, _, _, xl_Full, rfl⟩, sa_Full, e_Full, ty_Full, kc_Full⟩,
      nf_Full := by intro f q; simp only [List.mem_cons, List.not_mem_nil, or_false] at q; rcases q with rfl <;> first | exact nf_Full_most,
      i_Full := i_Full,
      t_Full := t_Full,
      F_Full := F32,
      a_Full := B32,
      x_InvalidName := ⟨⟨_, _, _, _, _, _, _, _, _, _, _, _, _, _, _, xl_InvalidName, rfl⟩, sa_InvalidName, e_InvalidName, ty_InvalidName, kc_InvalidName⟩,
      nf_InvalidName := by intro f q; simp only [List.mem_cons, List.not_mem_nil, or_false] at q; rcases q with rfl <;> first | exact nf_InvalidName_name,
      i_InvalidName := i_InvalidName,
      t_InvalidName := t_InvalidName,
      F_InvalidName := F33,
      a_InvalidName := B33,
      x_DuplicateMake := ⟨⟨_, _, _, _, _, _, _, _, _, _, _, _, _, _, _, xl_DuplicateMake, rfl⟩, sa_DuplicateMake, e_DuplicateMake, ty_DuplicateMake, kc_DuplicateMake⟩,
      nf_DuplicateMake := by intro f q; simp only [List.mem_cons, List.not_mem_nil, or_false] at q; rcases q with rfl <;> first | exact nf_DuplicateMake_name,
      i_DuplicateMake := i_DuplicateMake,
      t_DuplicateMake := t_DuplicateMake,
      F_DuplicateMake := F34,
      a_DuplicateMake := B34,
      x_UnknownMake := ⟨⟨_, _, _, _, _, _, _, _, _, _, _, _, _, _, _, xl_UnknownMake, rfl⟩, sa_UnknownMake, e_UnknownMake, ty_UnknownMake, kc_UnknownMake⟩,
      nf_UnknownMake := by intro f q; simp only [List.mem_cons, List.not_mem_nil, or_false] at q; rcases q with rfl <;> first | exact nf_UnknownMake_name,
      i_UnknownMake := i_UnknownMake,
      t_UnknownMake := t_UnknownMake,
      F_UnknownMake := F35,
      a_UnknownMake := B35,
      cl_Order := ⟨pg_Order, hd_Order, po_Order, sa_Order⟩,
      k_LETTERS := ⟨_, PySem.W.mg_of X G kk_LETTERS⟩,
      k_LONGEST_NAME := ⟨_, PySem.W.mg_of X G kk_LONGEST_NAME⟩,
      k_MOST_MAKES := ⟨_, PySem.W.mg_of X G kk_MOST_MAKES⟩,
      fl_Order_names := fun C q => by cases (show some C_Order = some C from q); exact ⟨⟨pg_Order, hd_Order, po_Order, sa_Order⟩, nf_Order_names⟩,
      fl_Order_rows := fun C q => by cases (show some C_Order = some C from q); exact ⟨⟨pg_Order, hd_Order, po_Order, sa_Order⟩, nf_Order_rows⟩,
      m_Order_has := ⟨a26, i26, k26⟩,
      mk_Order := ⟨mk_Order, a13, i13, kc_Order⟩,
      p_Order_makes := ⟨pa_Order_makes, pg_Order_makes, pt_Order_makes, ⟨_, pc_Order_makes⟩⟩,
      pF_Order_makes := F36,
      pb_Order_makes := B36,
      cd_law_grown := rfl,
      tb_law_grown := htb (ca_law_grown, tp_law_grown) (by simp) }
  refine ⟨PySem.W.fnOf "law" "law" (defArgs (topS 44)) (defBody (topS 44)) (defScope (topS 44)) .none kV31 dc31 pm31 an31 cd31 ct31, [(ca_law_grown, tp_law_grown)], spLawU K 63 [(tp_law_grown, "_law_grown.<locals>.<lambda>")], ?_, ?_, ?_, fun s u => .of_eq rfl, fun H a ns hl _ hT hS => ⟨a, ns, rfl, hS, hl, ?_, fun _ => rfl⟩, fun base _ _ htb => law_fnT hm (ok_law (T base htb))⟩
  · simp only [List.forall_mem_cons, List.forall_mem_nil, and_true]
    exact ⟨tz_law_grown, fun _ z => nomatch z⟩
  · simp only [List.forall_mem_cons, List.forall_mem_nil, and_true]
    exact ⟨tn_law_grown, fun _ z => nomatch z⟩
  · simp only [List.forall_mem_cons, List.forall_mem_nil, and_true]
    exact ⟨PySem.W.codeHd_of_K X th_law_grown, fun _ z => nomatch z⟩
  · intro p hp
    simp only [List.mem_cons, List.not_mem_nil, or_false] at hp
    subst hp
    exact LamX.TabS.nil (hT (ca_law_grown, tp_law_grown) (by simp))
end Lw
open PySem PySem.W PyProof.Rows
set_option maxHeartbeats 0 in
theorem PySem.Challenge.cw_chairstack_k47_check_of_tallest_holds : PySem.Challenge.rw_chairstack_k47_check_of_tallest.Holds := by
  refine Lw.law_top ?_
  k_fill
  refine LamX.walk_ofTs (l := PySem.Challenge.rw_chairstack_k47_check_of_tallest) (n := 63) (k := 7) (x := "_law_script") (CX := fun w => L2N.CX PySem.Challenge.rw_chairstack_k47_check_of_tallest.prog w) rfl (by decide) rfl ⟨rfl, by decide, by decide⟩ (fun w h Y => Cs.in_tail Y (by kernel_rfl)) ?F (fun _ _ _ _ _ h => Cs.cx_false h)
  case F =>
    intro w mg fa h Y KX G hmg
    refine' Lw.all_mk (ca_law_grown := 428) (tp_law_grown := 426) KX G hmg ?g_Order ?a1 ?l1 ?c1 ?k1 ?a2 ?l2 ?c2 ?k2 ?a3 ?l3 ?c3 ?k3 ?a4 ?l4 ?c4 ?k4 ?a5 ?l5 ?c5 ?k5 ?a6 ?l6 ?c6 ?k6 ?a7 ?l7 ?c7 ?k7 ?a8 ?l8 ?c8 ?k8 ?a9 ?l9 ?c9 ?k9 ?a10 ?l10 ?c10 ?k10 ?a11 ?l11 ?c11 ?k11 ?a12 ?l12 ?c12 ?k12 ?a13 ?i13 ?l13 ?c13 ?k13 ?d13 ?a14 ?l14 ?c14 ?k14 ?a15 ?l15 ?c15 ?k15 ?a16 ?l16 ?c16 ?k16 ?a17 ?l17 ?c17 ?k17 ?a18 ?l18 ?c18 ?k18 ?a19 ?l19 ?c19 ?k19 ?a20 ?l20 ?c20 ?k20 ?th_law_grown ?tn_law_grown ?tz_law_grown ?a21 ?l21 ?c21 ?k21 ?a22 ?l22 ?c22 ?k22 ?a23 ?l23 ?c23 ?k23 ?a24 ?l24 ?c24 ?k24 ?a25 ?l25 ?c25 ?k25 ?a26 ?i26 ?l26 ?c26 ?k26 ?a27 ?l27 ?c27 ?k27 ?a28 ?l28 ?c28 ?k28 ?a29 ?l29 ?c29 ?k29 ?a30 ?l30 ?c30 ?k30 ?a31 ?l31 ?c31 ?k31 ?g_Full ?g_InvalidName ?g_DuplicateMake ?g_UnknownMake ?e_Full ?ty_Full ?e_InvalidName ?ty_InvalidName ?e_DuplicateMake ?ty_DuplicateMake ?e_UnknownMake ?ty_UnknownMake ?xl_Full ?sa_Full ?kc_Full ?nf_Full_most ?i_Full ?t_Full ?l32 ?c32 ?k32 ?xl_InvalidName ?sa_InvalidName ?kc_InvalidName ?nf_InvalidName_name ?i_InvalidName ?t_InvalidName ?l33 ?c33 ?k33 ?xl_DuplicateMake ?sa_DuplicateMake ?kc_DuplicateMake ?nf_DuplicateMake_name ?i_DuplicateMake ?t_DuplicateMake ?l34 ?c34 ?k34 ?xl_UnknownMake ?sa_UnknownMake ?kc_UnknownMake ?nf_UnknownMake_name ?i_UnknownMake ?t_UnknownMake ?l35 ?c35 ?k35 ?pg_Order ?hd_Order ?po_Order ?sa_Order ?kk_LETTERS ?kk_LONGEST_NAME ?kk_MOST_MAKES ?nf_Order_names ?nf_Order_rows ?mk_Order ?kc_Order ?pa_Order_makes ?pg_Order_makes ?pt_Order_makes ?pc_Order_makes ?l36 ?c36 ?k36 ?z0 ?z1 ?z2 ?z3 ?z4 ?z5 ?z6 ?z7 ?z8 ?z9 ?z10 ?z11 ?z12 Lw.law_true
    (case tz_law_grown => exact Cs.in_head Y)
    (case g_Order => first | k_is | rfl | kernel_rfl)
    (case a1 => first | k_is | rfl | kernel_rfl)
    (case l1 => first | k_is | rfl | kernel_rfl)
    (case c1 => first | k_is | rfl | kernel_rfl)
    (case k1 => first | k_is | rfl | kernel_rfl)
    (case a2 => first | k_is | rfl | kernel_rfl)
    (case l2 => first | k_is | rfl | kernel_rfl)
    (case c2 => first | k_is | rfl | kernel_rfl)
    (case k2 => first | k_is | rfl | kernel_rfl)
    (case a3 => first | k_is | rfl | kernel_rfl)
    (case l3 => first | k_is | rfl | kernel_rfl)
    (case c3 => first | k_is | rfl | kernel_rfl)
    (case k3 => first | k_is | rfl | kernel_rfl)
    (case a4 => first | k_is | rfl | kernel_rfl)
    (case l4 => first | k_is | rfl | kernel_rfl)
    (case c4 => first | k_is | rfl | kernel_rfl)
    (case k4 => first | k_is | rfl | kernel_rfl)
    (case a5 => first | k_is | rfl | kernel_rfl)
    (case l5 => first | k_is | rfl | kernel_rfl)
    (case c5 => first | k_is | rfl | kernel_rfl)
    (case k5 => first | k_is | rfl | kernel_rfl)
    (case a6 => first | k_is | rfl | kernel_rfl)
    (case l6 => first | k_is | rfl | kernel_rfl)
    (case c6 => first | k_is | rfl | kernel_rfl)
    (case k6 => first | k_is | rfl | kernel_rfl)
    (case a7 => first | k_is | rfl | kernel_rfl)
    (case l7 => first | k_is | rfl | kernel_rfl)
    (case c7 => first | k_is | rfl | kernel_rfl)
    (case k7 => first | k_is | rfl | kernel_rfl)
    (case a8 => first | k_is | rfl | kernel_rfl)
    (case l8 => first | k_is | rfl | kernel_rfl)
    (case c8 => first | k_is | rfl | kernel_rfl)
    (case k8 => first | k_is | rfl | kernel_rfl)
    (case a9 => first | k_is | rfl | kernel_rfl)
    (case l9 => first | k_is | rfl | kernel_rfl)
    (case c9 => first | k_is | rfl | kernel_rfl)
    (case k9 => first | k_is | rfl | kernel_rfl)
    (case a10 => first | k_is | rfl | kernel_rfl)
    (case l10 => first | k_is | rfl | kernel_rfl)
    (case c10 => first | k_is | rfl | kernel_rfl)
    (case k10 => first | k_is | rfl | kernel_rfl)
    (case a11 => first | k_is | rfl | kernel_rfl)
    (case l11 => first | k_is | rfl | kernel_rfl)
    (case c11 => first | k_is | rfl | kernel_rfl)
    (case k11 => first | k_is | rfl | kernel_rfl)
    (case a12 => first | k_is | rfl | kernel_rfl)
    (case l12 => first | k_is | rfl | kernel_rfl)
    (case c12 => first | k_is | rfl | kernel_rfl)
    (case k12 => first | k_is | rfl | kernel_rfl)
    (case a13 => first | k_is | rfl | kernel_rfl)
    (case i13 => first | k_is | rfl | kernel_rfl)
    (case l13 => first | k_is | rfl | kernel_rfl)
    (case c13 => first | k_is | rfl | kernel_rfl)
    (case k13 => first | k_is | rfl | kernel_rfl)
    (case d13 => first | k_is | rfl | kernel_rfl)
    (case a14 => first | k_is | rfl | kernel_rfl)
    (case l14 => first | k_is | rfl | kernel_rfl)
    (case c14 => first | k_is | rfl | kernel_rfl)
    (case k14 => first | k_is | rfl | kernel_rfl)
    (case a15 => first | k_is | rfl | kernel_rfl)
    (case l15 => first | k_is | rfl | kernel_rfl)
    (case c15 => first | k_is | rfl | kernel_rfl)
    (case k15 => first | k_is | rfl | kernel_rfl)
    (case a16 => first | k_is | rfl | kernel_rfl)
    (case l16 => first | k_is | rfl | kernel_rfl)
    (case c16 => first | k_is | rfl | kernel_rfl)
    (case k16 => first | k_is | rfl | kernel_rfl)
    (case a17 => first | k_is | rfl | kernel_rfl)
    (case l17 => first | k_is | rfl | kernel_rfl)
    (case c17 => first | k_is | rfl | kernel_rfl)
    (case k17 => first | k_is | rfl | kernel_rfl)
    (case a18 => first | k_is | rfl | kernel_rfl)
    (case l18 => first | k_is | rfl | kernel_rfl)
    (case c18 => first | k_is | rfl | kernel_rfl)
    (case k18 => first | k_is | rfl | kernel_rfl)
    (case a19 => first | k_is | rfl | kernel_rfl)
    (case l19 => first | k_is | rfl | kernel_rfl)
    (case c19 => first | k_is | rfl | kernel_rfl)
    (case k19 => first | k_is | rfl | kernel_rfl)
    (case a20 => first | k_is | rfl | kernel_rfl)
    (case l20 => first | k_is | rfl | kernel_rfl)
    (case c20 => first | k_is | rfl | kernel_rfl)
    (case k20 => first | k_is | rfl | kernel_rfl)
    (case th_law_grown => first | k_is | rfl | kernel_rfl)
    (case tn_law_grown => first | k_is | rfl | kernel_rfl)
    (case a21 => first | k_is | rfl | kernel_rfl)
    (case l21 => first | k_is | rfl | kernel_rfl)
    (case c21 => first | k_is | rfl | kernel_rfl)
    (case k21 => first | k_is | rfl | kernel_rfl)
    (case a22 => first | k_is | rfl | kernel_rfl)
    (case l22 => first | k_is | rfl | kernel_rfl)
    (case c22 => first | k_is | rfl | kernel_rfl)
    (case k22 => first | k_is | rfl | kernel_rfl)
    (case a23 => first | k_is | rfl | kernel_rfl)
    (case l23 => first | k_is | rfl | kernel_rfl)
    (case c23 => first | k_is | rfl | kernel_rfl)
    (case k23 => first | k_is | rfl | kernel_rfl)
    (case a24 => first | k_is | rfl | kernel_rfl)
    (case l24 => first | k_is | rfl | kernel_rfl)
    (case c24 => first | k_is | rfl | kernel_rfl)
    (case k24 => first | k_is | rfl | kernel_rfl)
    (case a25 => first | k_is | rfl | kernel_rfl)
    (case l25 => first | k_is | rfl | kernel_rfl)
    (case c25 => first | k_is | rfl | kernel_rfl)
    (case k25 => first | k_is | rfl | kernel_rfl)
    (case a26 => first | k_is | rfl | kernel_rfl)
    (case i26 => first | k_is | rfl | kernel_rfl)
    (case l26 => first | k_is | rfl | kernel_rfl)
    (case c26 => first | k_is | rfl | kernel_rfl)
    (case k26 => first | k_is | rfl | kernel_rfl)
    (case a27 => first | k_is | rfl | kernel_rfl)
    (case l27 => first | k_is | rfl | kernel_rfl)
    (case c27 => first | k_is | rfl | kernel_rfl)
    (case k27 => first | k_is | rfl | kernel_rfl)
    (case a28 => first | k_is | rfl | kernel_rfl)
    (case l28 => first | k_is | rfl | kernel_rfl)
    (case c28 => first | k_is | rfl | kernel_rfl)
    (case k28 => first | k_is | rfl | kernel_rfl)
    (case a29 => first | k_is | rfl | kernel_rfl)
    (case l29 => first | k_is | rfl | kernel_rfl)
    (case c29 => first | k_is | rfl | kernel_rfl)
    (case k29 => first | k_is | rfl | kernel_rfl)
    (case a30 => first | k_is | rfl | kernel_rfl)
    (case l30 => first | k_is | rfl | kernel_rfl)
    (case c30 => first | k_is | rfl | kernel_rfl)
    (case k30 => first | k_is | rfl | kernel_rfl)
    (case a31 => first | k_is | rfl | kernel_rfl)
    (case l31 => first | k_is | rfl | kernel_rfl)
    (case c31 => first | k_is | rfl | kernel_rfl)
    (case k31 => first | k_is | rfl | kernel_rfl)
    (case g_Full => first | k_is | rfl | kernel_rfl)
    (case g_InvalidName => first | k_is | rfl | kernel_rfl)
    (case g_DuplicateMake => first | k_is | rfl | kernel_rfl)
    (case g_UnknownMake => first | k_is | rfl | kernel_rfl)
    (case e_Full => first | k_is | rfl | kernel_rfl)
    (case ty_Full => first | k_is | rfl | kernel_rfl)
    (case e_InvalidName => first | k_is | rfl | kernel_rfl)
    (case ty_InvalidName => first | k_is | rfl | kernel_rfl)
    (case e_DuplicateMake => first | k_is | rfl | kernel_rfl)
    (case ty_DuplicateMake => first | k_is | rfl | kernel_rfl)
    (case e_UnknownMake => first | k_is | rfl | kernel_rfl)
    (case ty_UnknownMake => first | k_is | rfl | kernel_rfl)
    (case xl_Full => first | k_is | rfl | kernel_rfl)
    (case sa_Full => first | k_is | rfl | kernel_rfl)
    (case kc_Full => first | k_is | rfl | kernel_rfl)
    (case nf_Full_most => first | k_is | rfl | kernel_rfl)
    (case i_Full => first | k_is | rfl | kernel_rfl)
    (case t_Full => first | k_is | rfl | kernel_rfl)
    (case l32 => first | k_is | rfl | kernel_rfl)
    (case c32 => first | k_is | rfl | kernel_rfl)
    (case k32 => first | k_is | rfl | kernel_rfl)
    (case xl_InvalidName => first | k_is | rfl | kernel_rfl)
    (case sa_InvalidName => first | k_is | rfl | kernel_rfl)
    (case kc_InvalidName => first | k_is | rfl | kernel_rfl)
    (case nf_InvalidName_name => first | k_is | rfl | kernel_rfl)
    (case i_InvalidName => first | k_is | rfl | kernel_rfl)
    (case t_InvalidName => first | k_is | rfl | kernel_rfl)
    (case l33 => first | k_is | rfl | kernel_rfl)
    (case c33 => first | k_is | rfl | kernel_rfl)
    (case k33 => first | k_is | rfl | kernel_rfl)
    (case xl_DuplicateMake => first | k_is | rfl | kernel_rfl)
    (case sa_DuplicateMake => first | k_is | rfl | kernel_rfl)
    (case kc_DuplicateMake => first | k_is | rfl | kernel_rfl)
    (case nf_DuplicateMake_name => first | k_is | rfl | kernel_rfl)
    (case i_DuplicateMake => first | k_is | rfl | kernel_rfl)
    (case t_DuplicateMake => first | k_is | rfl | kernel_rfl)
    (case l34 => first | k_is | rfl | kernel_rfl)
    (case c34 => first | k_is | rfl | kernel_rfl)
    (case k34 => first | k_is | rfl | kernel_rfl)
    (case xl_UnknownMake => first | k_is | rfl | kernel_rfl)
    (case sa_UnknownMake => first | k_is | rfl | kernel_rfl)
    (case kc_UnknownMake => first | k_is | rfl | kernel_rfl)
    (case nf_UnknownMake_name => first | k_is | rfl | kernel_rfl)
    (case i_UnknownMake => first | k_is | rfl | kernel_rfl)
    (case t_UnknownMake => first | k_is | rfl | kernel_rfl)
    (case l35 => first | k_is | rfl | kernel_rfl)
    (case c35 => first | k_is | rfl | kernel_rfl)
    (case k35 => first | k_is | rfl | kernel_rfl)
    (case pg_Order => first | k_is | rfl | kernel_rfl)
    (case hd_Order => first | k_is | rfl | kernel_rfl)
    (case po_Order => first | k_is | rfl | kernel_rfl)
    (case sa_Order => first | k_is | rfl | kernel_rfl)
    (case kk_LETTERS => first | k_is | rfl | kernel_rfl)
    (case kk_LONGEST_NAME => first | k_is | rfl | kernel_rfl)
    (case kk_MOST_MAKES => first | k_is | rfl | kernel_rfl)
    (case nf_Order_names => first | k_is | rfl | kernel_rfl)
    (case nf_Order_rows => first | k_is | rfl | kernel_rfl)
    (case mk_Order => first | k_is | rfl | kernel_rfl)
    (case kc_Order => first | k_is | rfl | kernel_rfl)
    (case pa_Order_makes => first | k_is | rfl | kernel_rfl)
    (case pg_Order_makes => first | k_is | rfl | kernel_rfl)
    (case pt_Order_makes => first | k_is | rfl | kernel_rfl)
    (case pc_Order_makes => first | k_is | rfl | kernel_rfl)
    (case l36 => first | k_is | rfl | kernel_rfl)
    (case c36 => first | k_is | rfl | kernel_rfl)
    (case k36 => first | k_is | rfl | kernel_rfl)
    (case z0 => first | k_is | rfl | kernel_rfl)
    (case z1 => first | k_is | rfl | kernel_rfl)
    (case z2 => first | k_is | rfl | kernel_rfl)
    (case z3 => first | k_is | rfl | kernel_rfl)
    (case z4 => first | k_is | rfl | kernel_rfl)
    (case z5 => first | k_is | rfl | kernel_rfl)
    (case z6 => first | k_is | rfl | kernel_rfl)
    (case z7 => first | k_is | rfl | kernel_rfl)
    (case z8 => first | k_is | rfl | kernel_rfl)
    (case z9 => first | k_is | rfl | kernel_rfl)
    (case z10 => first | k_is | rfl | kernel_rfl)
    (case z11 => first | k_is | rfl | kernel_rfl)
    (case z12 => first | k_is | rfl | kernel_rfl)

