import PyProof.Rows.All
import Wide.All
import OpenK.AllK
import KE.OsRunLaw
import Wide.FinOn
import HandS.ExcCtx
import HandS.HotCalls
import HandS.ForMost
import HandS.Exc
import HandS.Evl
import HandS.Lambda
import HandS.Deep
import HandS.IsInst
import HandS.ForExc
import HandS.Defaults
import HandS.Walk
import HandS.Property
import HandS.TryMany
import HandS.ExcInit
import HandS.ExcField
import HandS.Iter
import PyProof.LongRange
import KE.GoesMore
import PyProof.EnumFor
import HandS.DictComp
import HandS.Strs
import PyProof.InstSpecial
import PyProof.InstNe
import OpenK.KMeth
import OpenK.KOps
import HandS.ExcOwn
import PyProof.ExcBaseAll.ValueError
import HandS.Style
import HandS.ClsMeth
import HandS.CallSlots
import HandS.Star
import HandS.Dict
import HandS.SortInts
import KE.KSuper
import HandS.More
import HandS.FStr
import HandS.TupAny
import KE.DatumOrd
import HandS.Conv
import HandS.MakeKw
import PyProof.Seq
import PyProof.TupleIter
import PyProof.StrLoop
import PyProof.WalkInts
import PyProof.WalksMore
import HandS.RevRange
import KE.SortKeyHeap
import KE.KNestM
import HandS.EndTab
import KE.KRevSl
import HandS.OwnEq
import HandS.DeepEq
import HandS.ListItems
import KE.KDictList
import HandS.SetFor
import HandS.List
import PyProof.Runs
import PyProof.GenQ
import PyProof.AtCode
import PyProof.Rows.RowBridgeG
import HandS.GenList
import PySem.Challenge.RW_chairstack_k08_lowest_first
set_option Elab.async false
set_option linter.all false
set_option maxRecDepth 100000
set_option maxHeartbeats 4000000
namespace Lw
section
local macro_rules
  | `(tactic| k_head) => `(tactic| k_headL)
set_option maxHeartbeats 0
open_top law_top for PySem.Challenge.rw_chairstack_k08_lowest_first
end
end Lw
namespace Cs
open PySem L2 Evl
inductive Fl where
  | fr | ow | bo | ro
  deriving DecidableEq
inductive D where
  | non
  | bl (b : Bool)
  | int (i : Int)
  | str (s : Str)
  | cls (c : Str)
  | tup (xs : List D)
  | lst (o : Fl) (xs : List D)
  | dct (o : Fl) (ks : List Str) (vs : List D)
  | obj (o : Fl) (c : Str) (ks : List Str) (vs : List D)
mutual
def mapF (g : Fl → Fl) : D → D
  | .non => .non
  | .bl b => .bl b
  | .int i => .int i
  | .str s => .str s
  | .cls c => .cls c
  | .tup xs => .tup (mapFs g xs)
  | .lst o xs => .lst (g o) (mapFs g xs)
  | .dct o ks vs => .dct (g o) ks (mapFs g vs)
  | .obj o c ks vs => .obj (g o) c ks (mapFs g vs)
def mapFs (g : Fl → Fl) : List D → List D
  | [] => []
  | d :: ds => mapF g d :: mapFs g ds
end
mutual
def allF (p : Fl → Bool) : D → Bool
  | .non => true
  | .bl _ => true
  | .int _ => true
  | .str _ => true
  | .cls _ => true
  | .tup xs => allFs p xs
  | .lst o xs => p o && allFs p xs
  | .dct o _ vs => p o && allFs p vs
  | .obj o _ _ vs => p o && allFs p vs
def allFs (p : Fl → Bool) : List D → Bool
  | [] => true
  | d :: ds => allF p d && allFs p ds
end
theorem allF_lst {p : Fl → Bool} {o : Fl} {xs : List D} (h : allF p (.lst o xs) = true) : p o = true ∧ allFs p xs = true := by
  rw [allF] at h
  exact Bool.and_eq_true_iff.mp h
theorem allF_dct {p : Fl → Bool} {o : Fl} {ks : List Str} {xs : List D} (h : allF p (.dct o ks xs) = true) : p o = true ∧ allFs p xs = true := by
  rw [allF] at h
  exact Bool.and_eq_true_iff.mp h
theorem allF_obj {p : Fl → Bool} {o : Fl} {c : Str} {ks : List Str} {xs : List D} (h : allF p (.obj o c ks xs) = true) : p o = true ∧ allFs p xs = true := by
  rw [allF] at h
  exact Bool.and_eq_true_iff.mp h
theorem allF_tup {p : Fl → Bool} {xs : List D} (h : allF p (.tup xs) = true) : allFs p xs = true := by
  rw [allF] at h
  exact h
theorem allFs_cons {p : Fl → Bool} {x : D} {xs : List D} (h : allFs p (x :: xs) = true) : allF p x = true ∧ allFs p xs = true := by
  rw [allFs] at h
  exact Bool.and_eq_true_iff.mp h
def flFrz : Fl → Fl
  | .ow => .fr
  | o => o
def flLend : Fl → Fl
  | .ow => .bo
  | o => o
def noOw : Fl → Bool
  | .ow => false
  | _ => true
def noBo : Fl → Bool
  | .bo => false
  | _ => true
abbrev frz (d : D) : D := mapF flFrz d
abbrev lend (d : D) : D := mapF flLend d
def StT (K : PySem.W.Frag) (H : Hp) (a : Addr) (vs : List V) : Prop :=
  (∃ o : Obj, H a = some (.frz o (.tup vs)) ∧ o.dict = none) ∨
    ∃ (o : Obj) (its : Array Value) (n : Nat), K.lookup a = some o ∧ o.cls = .type "tuple" ∧ o.data = .seq its n ∧ its.size ≤ sizeLine ∧ Vals vs its.toList ∧ o.dict = none
theorem StT.mono {K : PySem.W.Frag} {H H' : Hp} {a : Addr} {vs : List V} (e : Ex H H') (h : StT K H a vs) : StT K H' a vs := by
  rcases h with ⟨o, h, d⟩ | h
  · exact .inl ⟨o, e _ _ h, d⟩
  · exact .inr h
theorem StT.sq {K : PySem.W.Frag} {H : Hp} {a : Addr} {vs : List V} (h : StT K H a vs) : SqT K H a vs := by
  rcases h with ⟨o, h, _⟩ | ⟨o, its, n, h1, h2, h3, h4, h5, _⟩
  · exact .inl (.inr ⟨o, h⟩)
  · exact .inr ⟨o, its, n, h1, h2, h3, h4, h5⟩
structure Tx where
  K : PySem.W.Frag
  C : Str → Option Addr
  P : Hp
  X : Option Addr
  tb : List (Addr × Str) := []
mutual
inductive Rep (T : Tx) (B H F : Hp) : D → V → List Addr → Prop
  | non : Rep T B H F .non .non []
  | bl (b : Bool) : Rep T B H F (.bl b) (.bl b) []
  | int (i : Int) : Rep T B H F (.int i) (.int i) []
  | str (s : Str) (hs : PyData.strOk s = true) : Rep T B H F (.str s) (.str s) []
  | cls {c : Str} {a : Addr} (h : T.C c = some a) : Rep T B H F (.cls c) (.ref a) []
  | tup {ds : List D} {a : Addr} {vs : List V} {fp : List Addr} (h : StT T.K F a vs) (r : Reps T B H F ds vs fp) : Rep T B H F (.tup ds) (.ref a) fp
  | lstF {ds : List D} {a : Addr} {vs : List V} (h : F a = some (.lst vs)) (r : Reps T B H F ds vs []) : Rep T B H F (.lst .fr ds) (.ref a) []
  | lstR {ds : List D} {a : Addr} {vs : List V} (h : SqL T.K F a vs) (r : Reps T B H F ds vs []) : Rep T B H F (.lst .ro ds) (.ref a) []
  | lstB {ds : List D} {a : Addr} {vs : List V} (h : B a = some (.lst vs)) (r : Reps T B H F ds vs []) : Rep T B H F (.lst .bo ds) (.ref a) []
  | lstO {ds : List D} {a : Addr} {vs : List V} {fp gp : List Addr} (h : H a = some (.lst vs)) (r : Reps T B H F ds vs fp) (e : gp = a :: fp) : Rep T B H F (.lst .ow ds) (.ref a) gp
  | dctF {ks : List Str} {ds : List D} {a : Addr} {vs : List V} (h : F a = some (.dK ((ks.map Sum.inr).zip vs))) (hl : ks.length = vs.length) (r : Reps T B H F ds vs []) : Rep T B H F (.dct .fr ks ds) (.ref a) []
  | dctB {ks : List Str} {ds : List D} {a : Addr} {vs : List V} (h : B a = some (.dK ((ks.map Sum.inr).zip vs))) (hl : ks.length = vs.length) (r : Reps T B H F ds vs []) : Rep T B H F (.dct .bo ks ds) (.ref a) []
  | dctO {ks : List Str} {ds : List D} {a : Addr} {vs : List V} {fp gp : List Addr} (h : H a = some (.dK ((ks.map Sum.inr).zip vs))) (hl : ks.length = vs.length) (r : Reps T B H F ds vs fp) (e : gp = a :: fp) : Rep T B H F (.dct .ow ks ds) (.ref a) gp
  | objF {c : Str} {ks : List Str} {ds : List D} {C a dx : Addr} {vs : List V} (hc : T.C c = some C) (h : F a = some (.ins C dx (ks.zip vs))) (hd : F dx = some (.own a)) (hl : ks.length = vs.length) (r : Reps T B H F ds vs []) : Rep T B H F (.obj .fr c ks ds) (.ref a) []
  | objB {c : Str} {ks : List Str} {ds : List D} {C a dx : Addr} {vs : List V} (hc : T.C c = some C) (h : B a = some (.ins C dx (ks.zip vs))) (hd : B dx = some (.own a)) (hl : ks.length = vs.length) (r : Reps T B H F ds vs []) : Rep T B H F (.obj .bo c ks ds) (.ref a) []
  | objO {c : Str} {ks : List Str} {ds : List D} {C a dx : Addr} {vs : List V} {fp gp : List Addr} (hc : T.C c = some C) (h : H a = some (.ins C dx (ks.zip vs))) (hd : H dx = some (.own a)) (hl : ks.length = vs.length) (r : Reps T B H F ds vs fp) (e : gp = a :: dx :: fp) : Rep T B H F (.obj .ow c ks ds) (.ref a) gp
inductive Reps (T : Tx) (B H F : Hp) : List D → List V → List Addr → Prop
  | nil : Reps T B H F [] [] []
  | cons {d : D} {ds : List D} {v : V} {vs : List V} {f g fp : List Addr} (r : Rep T B H F d v f) (rs : Reps T B H F ds vs g) (e : fp = f ++ g) : Reps T B H F (d :: ds) (v :: vs) fp
end
section
variable {T : Tx} {B B' H H' F F' : Hp}
theorem Reps.len : ∀ {ds : List D} {vs : List V} {fp : List Addr}, Reps T B H F ds vs fp → ds.length = vs.length
  | _, _, _, .nil => rfl
  | _, _, _, .cons _ rs _ => by
    rw [List.length_cons, List.length_cons, Reps.len rs]
mutual
theorem Rep.dom : ∀ {d : D} {v : V} {fp : List Addr}, Rep T B H F d v fp → ∀ a ∈ fp, ∃ o, H a = some o
  | _, _, _, .non, _, h => by cases h
  | _, _, _, .bl _, _, h => by cases h
  | _, _, _, .int _, _, h => by cases h
  | _, _, _, .str _ _, _, h => by cases h
  | _, _, _, .cls _, _, h => by cases h
  | _, _, _, .tup _ r, x, h => Reps.dom r x h
  | _, _, _, .lstF _ _, _, h => by cases h
  | _, _, _, .lstR _ _, _, h => by cases h
  | _, _, _, .lstB _ _, _, h => by cases h
  | _, _, _, .lstO q r e, x, h => by
    subst e
    rcases List.mem_cons.mp h with rfl | h
    · exact ⟨_, q⟩
    · exact Reps.dom r x h
  | _, _, _, .dctF _ _ _, _, h => by cases h
  | _, _, _, .dctB _ _ _, _, h => by cases h
  | _, _, _, .dctO q _ r e, x, h => by
    subst e
    rcases List.mem_cons.mp h with rfl | h
    · exact ⟨_, q⟩
    · exact Reps.dom r x h
  | _, _, _, .objF _ _ _ _ _, _, h => by cases h
  | _, _, _, .objB _ _ _ _ _, _, h => by cases h
  | _, _, _, .objO _ q q2 _ r e, x, h => by
    subst e
    rcases List.mem_cons.mp h with rfl | h
    · exact ⟨_, q⟩
    · rcases List.mem_cons.mp h with rfl | h
      · exact ⟨_, q2⟩
      · exact Reps.dom r x h
theorem Reps.dom : ∀ {ds : List D} {vs : List V} {fp : List Addr}, Reps T B H F ds vs fp → ∀ a ∈ fp, ∃ o, H a = some o
  | _, _, _, .nil, _, h => by cases h
  | _, _, _, .cons r rs e, x, h => by
    subst e
    rcases List.mem_append.mp h with h | h
    · exact Rep.dom r x h
    · exact Reps.dom rs x h
end
def Nt (o : HO) : Prop := ∀ ps, o ≠ .tbl ps
def Nm (o : HO) : Prop := Nt o ∧ ∀ φ, o ≠ .ext φ
mutual
theorem Rep.nm : ∀ {d : D} {v : V} {fp : List Addr}, Rep T B H F d v fp → ∀ a ∈ fp, ∀ o, H a = some o → Nm o
  | _, _, _, .non, _, h => by cases h
  | _, _, _, .bl b, _, h => by cases h
  | _, _, _, .int i, _, h => by cases h
  | _, _, _, .str s hs, _, h => by cases h
  | _, _, _, .cls _, _, h => by cases h
  | _, _, _, .tup _ r, x, h => Reps.nm r x h
  | _, _, _, .lstF _ _, _, h => by cases h
  | _, _, _, .lstR _ _, _, h => by cases h
  | _, _, _, .lstB _ _, _, h => by cases h
  | _, _, _, .lstO q r e, x, h => by
    subst e
    rcases List.mem_cons.mp h with rfl | h
    · intro o z
      rw [q] at z
      cases z
      exact ⟨fun _ e => (by cases e), fun _ e => (by cases e)⟩
    · exact Reps.nm r x h
  | _, _, _, .dctF _ _ _, _, h => by cases h
  | _, _, _, .dctB _ _ _, _, h => by cases h
  | _, _, _, .dctO q _ r e, x, h => by
    subst e
    rcases List.mem_cons.mp h with rfl | h
    · intro o z
      rw [q] at z
      cases z
      exact ⟨fun _ e => (by cases e), fun _ e => (by cases e)⟩
    · exact Reps.nm r x h
  | _, _, _, .objF _ _ _ _ _, _, h => by cases h
  | _, _, _, .objB _ _ _ _ _, _, h => by cases h
  | _, _, _, .objO _ q q2 _ r e, x, h => by
    subst e
    rcases List.mem_cons.mp h with rfl | h
    · intro o z
      rw [q] at z
      cases z
      exact ⟨fun _ e => (by cases e), fun _ e => (by cases e)⟩
    · rcases List.mem_cons.mp h with rfl | h
      · intro o z
        rw [q2] at z
        cases z
        exact ⟨fun _ e => (by cases e), fun _ e => (by cases e)⟩
      · exact Reps.nm r x h
theorem Reps.nm : ∀ {ds : List D} {vs : List V} {fp : List Addr}, Reps T B H F ds vs fp → ∀ a ∈ fp, ∀ o, H a = some o → Nm o
  | _, _, _, .nil, _, h => by cases h
  | _, _, _, .cons r rs e, x, h => by
    subst e
    rcases List.mem_append.mp h with h | h
    · exact Rep.nm r x h
    · exact Reps.nm rs x h
end
theorem Rep.nt {d : D} {v : V} {fp : List Addr} (r : Rep T B H F d v fp) : ∀ a ∈ fp, ∀ o, H a = some o → Nt o := fun a ha o e => (r.nm a ha o e).1
theorem Reps.nt {d : List D} {v : List V} {fp : List Addr} (r : Reps T B H F d v fp) : ∀ a ∈ fp, ∀ o, H a = some o → Nt o := fun a ha o e => (r.nm a ha o e).1
mutual
theorem Rep.mono (eB : Ex B B') (eF : Ex F F') : ∀ {d : D} {v : V} {fp : List Addr}, Rep T B H F d v fp → (∀ a ∈ fp, ∀ o, H a = some o → H' a = some o) → Rep T B' H' F' d v fp
  | _, _, _, .non, _ => .non
  | _, _, _, .bl b, _ => .bl b
  | _, _, _, .int i, _ => .int i
  | _, _, _, .str s hs, _ => .str s hs
  | _, _, _, .cls h, _ => .cls h
  | _, _, _, .tup h r, k => .tup (h.mono eF) (Reps.mono eB eF r k)
  | _, _, _, .lstF h r, k => .lstF (eF _ _ h) (Reps.mono eB eF r k)
  | _, _, _, .lstR h r, k => .lstR (ex_l eF h) (Reps.mono eB eF r k)
  | _, _, _, .lstB h r, k => .lstB (eB _ _ h) (Reps.mono eB eF r k)
  | _, _, _, .lstO h r e, k => by
    subst e
    exact .lstO (k _ List.mem_cons_self _ h) (Reps.mono eB eF r fun a q => k a (List.mem_cons_of_mem _ q)) rfl
  | _, _, _, .dctF h l r, k => .dctF (eF _ _ h) l (Reps.mono eB eF r k)
  | _, _, _, .dctB h l r, k => .dctB (eB _ _ h) l (Reps.mono eB eF r k)
  | _, _, _, .dctO h l r e, k => by
    subst e
    exact .dctO (k _ List.mem_cons_self _ h) l (Reps.mono eB eF r fun a q => k a (List.mem_cons_of_mem _ q)) rfl
  | _, _, _, .objF c h h2 l r, k => .objF c (eF _ _ h) (eF _ _ h2) l (Reps.mono eB eF r k)
  | _, _, _, .objB c h h2 l r, k => .objB c (eB _ _ h) (eB _ _ h2) l (Reps.mono eB eF r k)
  | _, _, _, .objO c h h2 l r e, k => by
    subst e
    exact .objO c (k _ List.mem_cons_self _ h) (k _ (List.mem_cons_of_mem _ List.mem_cons_self) _ h2) l (Reps.mono eB eF r fun a q => k a (List.mem_cons_of_mem _ (List.mem_cons_of_mem _ q))) rfl
theorem Reps.mono (eB : Ex B B') (eF : Ex F F') : ∀ {ds : List D} {vs : List V} {fp : List Addr}, Reps T B H F ds vs fp → (∀ a ∈ fp, ∀ o, H a = some o → H' a = some o) → Reps T B' H' F' ds vs fp
  | _, _, _, .nil, _ => .nil
  | _, _, _, .cons r rs e, k => by
    subst e
    exact .cons (Rep.mono eB eF r fun a q => k a (List.mem_append.mpr (.inl q))) (Reps.mono eB eF rs fun a q => k a (List.mem_append.mpr (.inr q))) rfl
end
mutual
theorem Rep.frz (eF : Ex F F') : ∀ {d : D} {v : V} {fp : List Addr}, Rep T B H F d v fp → (∀ a ∈ fp, ∀ o, H a = some o → F' a = some o) → Rep T B H' F' (mapF flFrz d) v []
  | _, _, _, .non, _ => .non
  | _, _, _, .bl b, _ => .bl b
  | _, _, _, .int i, _ => .int i
  | _, _, _, .str s hs, _ => .str s hs
  | _, _, _, .cls h, _ => .cls h
  | _, _, _, .tup h r, k => .tup (h.mono eF) (Reps.frz eF r k)
  | _, _, _, .lstF h r, k => .lstF (eF _ _ h) (Reps.frz eF r k)
  | _, _, _, .lstR h r, k => .lstR (ex_l eF h) (Reps.frz eF r k)
  | _, _, _, .lstB h r, k => .lstB h (Reps.frz eF r k)
  | _, _, _, .lstO h r e, k => by
    subst e
    exact .lstF (k _ List.mem_cons_self _ h) (Reps.frz eF r fun a q => k a (List.mem_cons_of_mem _ q))
  | _, _, _, .dctF h l r, k => .dctF (eF _ _ h) l (Reps.frz eF r k)
  | _, _, _, .dctB h l r, k => .dctB h l (Reps.frz eF r k)
  | _, _, _, .dctO h l r e, k => by
    subst e
    exact .dctF (k _ List.mem_cons_self _ h) l (Reps.frz eF r fun a q => k a (List.mem_cons_of_mem _ q))
  | _, _, _, .objF c h h2 l r, k => .objF c (eF _ _ h) (eF _ _ h2) l (Reps.frz eF r k)
  | _, _, _, .objB c h h2 l r, k => .objB c h h2 l (Reps.frz eF r k)
  | _, _, _, .objO c h h2 l r e, k => by
    subst e
    exact .objF c (k _ List.mem_cons_self _ h) (k _ (List.mem_cons_of_mem _ List.mem_cons_self) _ h2) l (Reps.frz eF r fun a q => k a (List.mem_cons_of_mem _ (List.mem_cons_of_mem _ q)))
theorem Reps.frz (eF : Ex F F') : ∀ {ds : List D} {vs : List V} {fp : List Addr}, Reps T B H F ds vs fp → (∀ a ∈ fp, ∀ o, H a = some o → F' a = some o) → Reps T B H' F' (mapFs flFrz ds) vs []
  | _, _, _, .nil, _ => .nil
  | _, _, _, .cons r rs e, k => by
    subst e
    exact .cons (Rep.frz eF r fun a q => k a (List.mem_append.mpr (.inl q))) (Reps.frz eF rs fun a q => k a (List.mem_append.mpr (.inr q))) rfl
end
mutual
theorem Rep.lend (eB : Ex B B') : ∀ {d : D} {v : V} {fp : List Addr}, Rep T B H F d v fp → (∀ a ∈ fp, ∀ o, H a = some o → B' a = some o) → Rep T B' H' F (mapF flLend d) v []
  | _, _, _, .non, _ => .non
  | _, _, _, .bl b, _ => .bl b
  | _, _, _, .int i, _ => .int i
  | _, _, _, .str s hs, _ => .str s hs
  | _, _, _, .cls h, _ => .cls h
  | _, _, _, .tup h r, k => .tup h (Reps.lend eB r k)
  | _, _, _, .lstF h r, k => .lstF h (Reps.lend eB r k)
  | _, _, _, .lstR h r, k => .lstR h (Reps.lend eB r k)
  | _, _, _, .lstB h r, k => .lstB (eB _ _ h) (Reps.lend eB r k)
  | _, _, _, .lstO h r e, k => by
    subst e
    exact .lstB (k _ List.mem_cons_self _ h) (Reps.lend eB r fun a q => k a (List.mem_cons_of_mem _ q))
  | _, _, _, .dctF h l r, k => .dctF h l (Reps.lend eB r k)
  | _, _, _, .dctB h l r, k => .dctB (eB _ _ h) l (Reps.lend eB r k)
  | _, _, _, .dctO h l r e, k => by
    subst e
    exact .dctB (k _ List.mem_cons_self _ h) l (Reps.lend eB r fun a q => k a (List.mem_cons_of_mem _ q))
  | _, _, _, .objF c h h2 l r, k => .objF c h h2 l (Reps.lend eB r k)
  | _, _, _, .objB c h h2 l r, k => .objB c (eB _ _ h) (eB _ _ h2) l (Reps.lend eB r k)
  | _, _, _, .objO c h h2 l r e, k => by
    subst e
    exact .objB c (k _ List.mem_cons_self _ h) (k _ (List.mem_cons_of_mem _ List.mem_cons_self) _ h2) l (Reps.lend eB r fun a q => k a (List.mem_cons_of_mem _ (List.mem_cons_of_mem _ q)))
theorem Reps.lend (eB : Ex B B') : ∀ {ds : List D} {vs : List V} {fp : List Addr}, Reps T B H F ds vs fp → (∀ a ∈ fp, ∀ o, H a = some o → B' a = some o) → Reps T B' H' F (mapFs flLend ds) vs []
  | _, _, _, .nil, _ => .nil
  | _, _, _, .cons r rs e, k => by
    subst e
    exact .cons (Rep.lend eB r fun a q => k a (List.mem_append.mpr (.inl q))) (Reps.lend eB rs fun a q => k a (List.mem_append.mpr (.inr q))) rfl
end
mutual
theorem Rep.noB : ∀ {d : D} {v : V} {fp : List Addr}, Rep T B H F d v fp → allF noBo d = true → Rep T B' H F d v fp
  | _, _, _, .non, _ => .non
  | _, _, _, .bl b, _ => .bl b
  | _, _, _, .int i, _ => .int i
  | _, _, _, .str s hs, _ => .str s hs
  | _, _, _, .cls h, _ => .cls h
  | _, _, _, .tup h r, n => .tup h (Reps.noB r (allF_tup n))
  | _, _, _, .lstF h r, n => .lstF h (Reps.noB r (allF_lst n).2)
  | _, _, _, .lstR h r, n => .lstR h (Reps.noB r (allF_lst n).2)
  | _, _, _, .lstB _ _, n => nomatch (allF_lst n).1
  | _, _, _, .lstO h r e, n => .lstO h (Reps.noB r (allF_lst n).2) e
  | _, _, _, .dctF h l r, n => .dctF h l (Reps.noB r (allF_dct n).2)
  | _, _, _, .dctB _ _ _, n => nomatch (allF_dct n).1
  | _, _, _, .dctO h l r e, n => .dctO h l (Reps.noB r (allF_dct n).2) e
  | _, _, _, .objF c h h2 l r, n => .objF c h h2 l (Reps.noB r (allF_obj n).2)
  | _, _, _, .objB _ _ _ _ _, n => nomatch (allF_obj n).1
  | _, _, _, .objO c h h2 l r e, n => .objO c h h2 l (Reps.noB r (allF_obj n).2) e
theorem Reps.noB : ∀ {ds : List D} {vs : List V} {fp : List Addr}, Reps T B H F ds vs fp → allFs noBo ds = true → Reps T B' H F ds vs fp
  | _, _, _, .nil, _ => .nil
  | _, _, _, .cons r rs e, n => .cons (Rep.noB r (allFs_cons n).1) (Reps.noB rs (allFs_cons n).2) e
end
mutual
theorem Rep.noO : ∀ {d : D} {v : V} {fp : List Addr}, Rep T B H F d v fp → allF noOw d = true → fp = []
  | _, _, _, .non, _ => rfl
  | _, _, _, .bl b, _ => rfl
  | _, _, _, .int i, _ => rfl
  | _, _, _, .str s hs, _ => rfl
  | _, _, _, .cls h, _ => rfl
  | _, _, _, .tup h r, n => Reps.noO r (allF_tup n)
  | _, _, _, .lstF h r, n => rfl
  | _, _, _, .lstR h r, n => rfl
  | _, _, _, .lstB _ _, n => rfl
  | _, _, _, .lstO h r e, n => nomatch (allF_lst n).1
  | _, _, _, .dctF h l r, n => rfl
  | _, _, _, .dctB _ _ _, n => rfl
  | _, _, _, .dctO h l r e, n => nomatch (allF_dct n).1
  | _, _, _, .objF c h h2 l r, n => rfl
  | _, _, _, .objB _ _ _ _ _, n => rfl
  | _, _, _, .objO c h h2 l r e, n => nomatch (allF_obj n).1
theorem Reps.noO : ∀ {ds : List D} {vs : List V} {fp : List Addr}, Reps T B H F ds vs fp → allFs noOw ds = true → fp = []
  | _, _, _, .nil, _ => rfl
  | _, _, _, .cons r rs e, n => by rw [e, Rep.noO r (allFs_cons n).1, Reps.noO rs (allFs_cons n).2]; rfl
end
end
end Cs
namespace Cs
open PySem L2 Evl
inductive Sl where
  | un
  | exn
  | dt (d : D)
abbrev En := List Sl
inductive Out (α : Type) where
  | ok (a : α) (ρ : En)
  | exc (c : Str) (ks : List Str) (xs : List D) (ρ : En)
  | bad
abbrev M (α : Type) := En → Out α
inductive Flw where
  | nx
  | bk
  | ct
  | rt (d : D)
inductive Res where
  | ok (d : D) (os : En)
  | exc (c : Str) (ks : List Str) (xs : List D) (os : En)
  | bad
def bnd {α β : Type} (f : M α) (k : α → M β) : M β := fun ρ =>
  match f ρ with
  | .ok a ρ' => k a ρ'
  | .exc c ks xs ρ' => .exc c ks xs ρ'
  | .bad => .bad
def ret {α : Type} (a : α) : M α := fun ρ => .ok a ρ
def bad {α : Type} : M α := fun _ => .bad
theorem bnd_ok {α β : Type} {f : M α} {k : α → M β} {ρ ρ' : En} {a : α} (h : f ρ = .ok a ρ') : bnd f k ρ = k a ρ' := by
  unfold bnd
  rw [h]
theorem bnd_exc {α β : Type} {f : M α} {k : α → M β} {ρ ρ' : En} {c : Str} {ks : List Str} {xs : List D} (h : f ρ = .exc c ks xs ρ') : bnd f k ρ = .exc c ks xs ρ' := by
  unfold bnd
  rw [h]
theorem bnd_bad {α β : Type} {f : M α} {k : α → M β} {ρ : En} (h : f ρ = .bad) : bnd f k ρ = .bad := by
  unfold bnd
  rw [h]
theorem nmH {H : Hp} {p : Addr} {o : HO} (h : H p = some o) (n : Nm o := by exact ⟨fun _ e => (by cases e), fun _ e => (by cases e)⟩) : ∀ u, H p = some u → Nm u := fun u e => by
  rw [h] at e
  cases e
  exact n
structure XT (T : Tx) (B H F : Hp) : Prop where
  ntF : ∀ a o, F a = some o → Nt o
  ntB : ∀ a o, B a = some o → Nt o
  tb : LamX.Tabs T.tb H
  ta : ∀ a ps, H a = some (.tbl ps) → ∃ q, (a, q) ∈ T.tb
structure Rel (T : Tx) (σ : L2.St) (B H F : Hp) (ρ : En) (φ : Nat → List Addr) : Prop where
  len : ρ.length = σ.length
  exB : Ex B H
  exF : Ex F H
  exP : Ex T.P F
  sl : ∀ (i : Nat) d, ρ[i]? = some (.dt d) → ∃ v, σ[i]? = some (some v) ∧ Rep T B H F d v (φ i)
  xn : ∀ i : Nat, ρ[i]? = some .exn → ∃ a, T.X = some a ∧ σ[i]? = some (some (.ref a))
  em : ∀ i : Nat, (∀ d, ρ[i]? ≠ some (.dt d)) → φ i = []
  nd : ∀ i, (φ i).Nodup
  dj : ∀ i j a, i ≠ j → a ∈ φ i → a ∉ φ j
  ap : ∀ i a, a ∈ φ i → F a = none ∧ B a = none
  xt : XT T B H F
def O (φ : Nat → List Addr) : Addr → Prop := fun a => ∃ i, a ∈ φ i
abbrev Or2 (O1 : Addr → Prop) (g : List Addr) : Addr → Prop := fun a => O1 a ∨ a ∈ g
structure KO (H' : Hp) (a : Addr) (o : HO) : Prop where
  there : ∃ u, H' a = some u
  st : Nt o → H' a = some o
theorem KO.off {H' : Hp} {a p : Addr} {o u : HO} (k : KO H' a o) (n : a ≠ p) : KO (upd H' p u) a o := ⟨by rw [upd_ne n]; exact k.there, fun z => by rw [upd_ne n]; exact k.st z⟩
theorem KO.of {H' : Hp} {a : Addr} {o : HO} (h : H' a = some o) : KO H' a o := ⟨⟨_, h⟩, fun _ => h⟩
structure Step (H F : Hp) (O1 : Addr → Prop) (H' F' : Hp) (O2 : Addr → Prop) : Prop where
  keep : ∀ a o, H a = some o → ¬ O1 a → KO H' a o
  ext : Ex F F'
  fn : ∀ a o, F' a = some o → F a = none → O1 a ∨ H a = none
  on : ∀ a, O2 a → O1 a ∨ H a = none
structure Tmp (T : Tx) (B H F : Hp) (φ : Nat → List Addr) (d : D) (v : V) (g : List Addr) : Prop where
  rep : Rep T B H F d v g
  nd : g.Nodup
  ap : ∀ a ∈ g, F a = none ∧ B a = none
  dj : ∀ a ∈ g, ¬ O φ a
structure Tmps (T : Tx) (B H F : Hp) (φ : Nat → List Addr) (ds : List D) (vs : List V) (g : List Addr) : Prop where
  rep : Reps T B H F ds vs g
  nd : g.Nodup
  ap : ∀ a ∈ g, F a = none ∧ B a = none
  dj : ∀ a ∈ g, ¬ O φ a
def XRep (T : Tx) (F : Hp) (c : Str) (ks : List Str) (xs : List D) (cls : Value) (dd : Option Addr) : Prop :=
  ∃ C, T.C c = some C ∧ cls = .ref C ∧ (ks = [] ∨ ∃ d fs vs, dd = some d ∧ F d = some (.xd fs) ∧ Reps T (fun _ => none) (fun _ => none) F xs vs [] ∧ ks.length = vs.length ∧ ∀ (i : Nat) k v, ks[i]? = some k → vs[i]? = some v → fs.lookup k = some v)
section
variable {T : Tx} {σ : L2.St} {B H F H1 F1 H2 F2 H' F' : Hp} {ρ ρ' : En} {φ φ1 φ2 φ' : Nat → List Addr} {O1 O2 O3 : Addr → Prop}
theorem ta_upd {T : Tx} {H : Hp} {p : Addr} {o : HO} (x : ∀ a ps, H a = some (.tbl ps) → ∃ q, (a, q) ∈ T.tb) (n : Nt o) : ∀ a ps, upd H p o a = some (.tbl ps) → ∃ q, (a, q) ∈ T.tb := fun a ps e => by
  by_cases z : a = p
  · subst z
    rw [upd_same] at e
    cases e
    exact absurd rfl (n ps)
  · rw [upd_ne z] at e
    exact x a ps e
theorem XT.new {T : Tx} {p : Addr} {o : HO} (x : XT T B H F) (h : H p = none) (n : Nt o) : XT T B (upd H p o) F := ⟨x.ntF, x.ntB, x.tb.ext (Ex.new h), ta_upd x.ta n⟩
theorem XT.newF {T : Tx} {p : Addr} {o : HO} (x : XT T B H F) (h : H p = none) (n : Nt o) : XT T B (upd H p o) (upd F p o) := ⟨fun a u e => by
  by_cases z : a = p
  · subst z
    rw [upd_same] at e
    cases e
    exact n
  · rw [upd_ne z] at e
    exact x.ntF a u e, x.ntB, x.tb.ext (Ex.new h), ta_upd x.ta n⟩
theorem XT.upd {T : Tx} {p : Addr} {o : HO} (x : XT T B H F) (hm : ∀ u, H p = some u → Nm u) (no : Nt o) : XT T B (upd H p o) F := ⟨x.ntF, x.ntB, fun t ht => by
  obtain ⟨ps, h1, h2, h3⟩ := x.tb t ht
  refine ⟨ps, ?_, h2, fun pos cv hc => ?_⟩
  · rw [upd_ne fun z => (hm _ (by rw [← z]; exact h1)).1 ps rfl]
    exact h1
  · obtain ⟨c, e1, e2⟩ := h3 pos cv hc
    refine ⟨c, e1, ?_⟩
    rw [upd_ne fun z => (hm _ (by rw [← z]; exact e2)).2 _ rfl]
    exact e2, ta_upd x.ta no⟩
theorem Step.refl : Step H F O1 H F O1 := ⟨fun _ _ h _ => .of h, Ex.refl F, fun a o h n => (by rw [h] at n; cases n), fun _ h => .inl h⟩
theorem KO.trans {H1 H2 : Hp} {a : Addr} {o : HO} (k : KO H1 a o) (h : ∀ u, H1 a = some u → KO H2 a u) : KO H2 a o := by
  obtain ⟨u, hu⟩ := k.there
  exact ⟨(h u hu).there, fun n => (h o (k.st n)).st n⟩
theorem Step.trans (s : Step H F O1 H1 F1 O2) (t : Step H1 F1 O2 H2 F2 O3) : Step H F O1 H2 F2 O3 := by
  have back : ∀ a, H1 a = none → O1 a ∨ H a = none := fun a h => by
    cases e : H a with
    | none => exact .inr rfl
    | some o =>
      by_cases q : O1 a
      · exact .inl q
      · obtain ⟨u, hu⟩ := (s.keep a o e q).there
        rw [hu] at h; cases h
  refine ⟨fun a o h n => (s.keep a o h n).trans fun u hu => t.keep a u hu fun q => ?_, s.ext.trans t.ext, fun a o h n => ?_, fun a h => ?_⟩
  · rcases s.on a q with z | z
    · exact n z
    · rw [h] at z; cases z
  · cases e : F1 a with
    | some o' => exact s.fn a o' e n
    | none =>
      rcases t.fn a o h e with z | z
      · exact s.on a z
      · exact back a z
  · rcases t.on a h with z | z
    · exact s.on a z
    · exact back a z
theorem Step.frame {g : List Addr} (s : Step H F O1 H1 F1 O2) : Step H F (Or2 O1 g) H1 F1 (Or2 O2 g) :=
  ⟨fun a o h n => s.keep a o h fun z => n (.inl z), s.ext, fun a o h n => (s.fn a o h n).imp .inl id, fun a h => by
    rcases h with h | h
    · exact (s.on a h).imp .inl id
    · exact .inl (.inr h)⟩
theorem Step.drop (s : Step H F O1 H1 F1 O2) (h : ∀ a, O3 a → O2 a) : Step H F O1 H1 F1 O3 := ⟨s.keep, s.ext, s.fn, fun a q => s.on a (h a q)⟩
theorem Step.new {p : Addr} {o : HO} (h : H p = none) : Step H F O1 (upd H p o) F O1 := ⟨fun a u e _ => .of (by rw [upd_ne (ne_of_none e h)]; exact e), Ex.refl F, fun a u e n => (by rw [e] at n; cases n), fun _ q => .inl q⟩
theorem Tmp.dom {d : D} {v : V} {g : List Addr} (t : Tmp T B H F φ d v g) : ∀ a ∈ g, ∃ o, H a = some o := t.rep.dom
theorem Rel.dom (r : Rel T σ B H F ρ φ) {a : Addr} (h : O φ a) : ∃ o, H a = some o := by
  obtain ⟨i, h⟩ := h
  by_cases q : ∃ d, ρ[i]? = some (.dt d)
  · obtain ⟨d, q⟩ := q
    obtain ⟨v, _, rp⟩ := r.sl i d q
    exact rp.dom a h
  · rw [r.em i fun d z => q ⟨d, z⟩] at h
    cases h
theorem Rel.nmO (r : Rel T σ B H F ρ φ) {a : Addr} {o : HO} (h : O φ a) (e : H a = some o) : Nm o := by
  obtain ⟨i, h⟩ := h
  by_cases q : ∃ d, ρ[i]? = some (.dt d)
  · obtain ⟨d, q⟩ := q
    obtain ⟨v, _, rp⟩ := r.sl i d q
    exact rp.nm a h o e
  · rw [r.em i fun d z => q ⟨d, z⟩] at h
    cases h
theorem Rel.ntO (r : Rel T σ B H F ρ φ) {a : Addr} {o : HO} (h : O φ a) (e : H a = some o) : Nt o := (r.nmO h e).1
theorem Tmp.step {d : D} {v : V} {g : List Addr} (t : Tmp T B H F φ d v g) (s : Step H F (O φ) H1 F1 (O φ1)) : Tmp T B H1 F1 φ1 d v g := by
  refine ⟨t.rep.mono (Ex.refl B) s.ext fun a ha o e => (s.keep a o e (t.dj a ha)).st (t.rep.nt a ha o e), t.nd, fun a ha => ⟨?_, (t.ap a ha).2⟩, fun a ha q => ?_⟩
  · cases e : F1 a with
    | none => rfl
    | some o =>
      rcases s.fn a o e (t.ap a ha).1 with z | z
      · exact absurd z (t.dj a ha)
      · obtain ⟨o', e'⟩ := t.dom a ha
        rw [e'] at z; cases z
  · rcases s.on a q with z | z
    · exact t.dj a ha z
    · obtain ⟨o', e'⟩ := t.dom a ha
      rw [e'] at z; cases z
theorem Tmps.step {ds : List D} {vs : List V} {g : List Addr} (t : Tmps T B H F φ ds vs g) (s : Step H F (O φ) H1 F1 (O φ1)) : Tmps T B H1 F1 φ1 ds vs g := by
  refine ⟨t.rep.mono (Ex.refl B) s.ext fun a ha o e => (s.keep a o e (t.dj a ha)).st (t.rep.nt a ha o e), t.nd, fun a ha => ⟨?_, (t.ap a ha).2⟩, fun a ha q => ?_⟩
  · cases e : F1 a with
    | none => rfl
    | some o =>
      rcases s.fn a o e (t.ap a ha).1 with z | z
      · exact absurd z (t.dj a ha)
      · obtain ⟨o', e'⟩ := t.rep.dom a ha
        rw [e'] at z; cases z
  · rcases s.on a q with z | z
    · exact t.dj a ha z
    · obtain ⟨o', e'⟩ := t.rep.dom a ha
      rw [e'] at z; cases z
theorem Tmp.apart {d : D} {v : V} {g g2 : List Addr} (t : Tmp T B H F φ d v g) (s : Step H F (O φ) H1 F1 (Or2 (O φ1) g2)) : ∀ a ∈ g, a ∉ g2 := fun a ha q => by
  rcases s.on a (.inr q) with z | z
  · exact t.dj a ha z
  · obtain ⟨o', e'⟩ := t.dom a ha
    rw [e'] at z; cases z
theorem Tmp.flat {d : D} {v : V} (r : Rep T B H F d v []) : Tmp T B H F φ d v [] := ⟨r, .nil, fun _ h => (by cases h), fun _ h => (by cases h)⟩
theorem Tmps.flat {ds : List D} {vs : List V} (r : Reps T B H F ds vs []) : Tmps T B H F φ ds vs [] := ⟨r, .nil, fun _ h => (by cases h), fun _ h => (by cases h)⟩
theorem Rel.new (r : Rel T σ B H F ρ φ) {p : Addr} {o : HO} (h : H p = none) (n : Nt o := by intro _ e; cases e) : Rel T σ B (upd H p o) F ρ φ :=
  ⟨r.len, r.exB.trans (Ex.new h), r.exF.trans (Ex.new h), r.exP, fun i d q => by
    obtain ⟨v, e, rp⟩ := r.sl i d q
    exact ⟨v, e, rp.mono (Ex.refl B) (Ex.refl F) fun a _ o q => Ex.new h a o q⟩, r.xn, r.em, r.nd, r.dj, r.ap, r.xt.new h n⟩
theorem Rel.newF (r : Rel T σ B H F ρ φ) {p : Addr} {o : HO} (h : H p = none) (n : Nt o := by intro _ e; cases e) : Rel T σ B (upd H p o) (upd F p o) ρ φ := by
  have hF : F p = none := by
    cases e : F p with
    | none => rfl
    | some u => rw [r.exF p u e] at h; cases h
  refine ⟨r.len, r.exB.trans (Ex.new h), fun a u e => ?_, r.exP.trans (Ex.new hF), fun i d q => ?_, r.xn, r.em, r.nd, r.dj, fun i a q => ?_, r.xt.newF h n⟩
  · by_cases z : a = p
    · subst z; rw [upd_same] at e ⊢; exact e
    · rw [upd_ne z] at e ⊢; exact r.exF a u e
  · obtain ⟨v, e, rp⟩ := r.sl i d q
    exact ⟨v, e, rp.mono (Ex.refl B) (Ex.new hF) fun a _ o q => Ex.new h a o q⟩
  · obtain ⟨o', e'⟩ := r.dom ⟨i, q⟩
    exact ⟨by rw [upd_ne (ne_of_none e' h)]; exact (r.ap i a q).1, (r.ap i a q).2⟩
theorem Step.newF {p : Addr} {o : HO} (h : H p = none) (eF : Ex F H) : Step H F O1 (upd H p o) (upd F p o) O1 := by
  have hF : F p = none := by
    cases e : F p with
    | none => rfl
    | some u => rw [eF p u e] at h; cases h
  refine ⟨fun a u e _ => .of (by rw [upd_ne (ne_of_none e h)]; exact e), Ex.new hF, fun a u e n => ?_, fun _ q => .inl q⟩
  by_cases z : a = p
  · subst z; exact .inr h
  · rw [upd_ne z] at e; rw [e] at n; cases n
theorem Rel.freeF (r : Rel T σ B H F ρ φ) {p : Addr} (h : H p = none) : F p = none := by
  cases e : F p with
  | none => rfl
  | some u => rw [r.exF p u e] at h; cases h
theorem Rel.freeB (r : Rel T σ B H F ρ φ) {p : Addr} (h : H p = none) : B p = none := by
  cases e : B p with
  | none => rfl
  | some u => rw [r.exB p u e] at h; cases h
theorem Rel.freeO (r : Rel T σ B H F ρ φ) {p : Addr} (h : H p = none) : ¬ O φ p := fun q => by
  obtain ⟨o, e⟩ := r.dom q
  rw [e] at h; cases h
def ovl (H F : Hp) (g : List Addr) : Hp := fun a => if a ∈ g then H a else F a
theorem ovl_in {g : List Addr} {a : Addr} (h : a ∈ g) : ovl H F g a = H a := by
  unfold ovl
  rw [if_pos h]
theorem ovl_out {g : List Addr} {a : Addr} (h : a ∉ g) : ovl H F g a = F a := by
  unfold ovl
  rw [if_neg h]
theorem ovl_ex {g : List Addr} (h : ∀ a ∈ g, F a = none) : Ex F (ovl H F g) := fun a o e => by
  rw [ovl_out fun z => by rw [h a z] at e; cases e]
  exact e
theorem ovl_sub {g : List Addr} (h : Ex F H) : Ex (ovl H F g) H := fun a o e => by
  by_cases z : a ∈ g
  · rw [ovl_in z] at e; exact e
  · rw [ovl_out z] at e; exact h a o e
theorem XT.ovlB {T : Tx} {g : List Addr} (x : XT T B H F) (h3 : ∀ a ∈ g, ∀ o, H a = some o → Nt o) : XT T (ovl H B g) H F := ⟨x.ntF, fun a o e => by
  by_cases z : a ∈ g
  · rw [ovl_in z] at e
    exact h3 a z o e
  · rw [ovl_out z] at e
    exact x.ntB a o e, x.tb, x.ta⟩
theorem Rel.ovl (r : Rel T σ B H F ρ φ) {g : List Addr} (h1 : ∀ a ∈ g, F a = none) (h2 : ∀ a ∈ g, ¬ O φ a) (h3 : ∀ a ∈ g, ∀ o, H a = some o → Nt o) : Rel T σ B H (ovl H F g) ρ φ :=
  ⟨r.len, r.exB, ovl_sub r.exF, r.exP.trans (ovl_ex h1), fun i d q => by
    obtain ⟨v, e, rp⟩ := r.sl i d q
    exact ⟨v, e, rp.mono (Ex.refl B) (ovl_ex h1) fun _ _ _ q => q⟩, r.xn, r.em, r.nd, r.dj, fun i a q => ⟨by
    rw [ovl_out fun z => h2 a z ⟨i, q⟩]
    exact (r.ap i a q).1, (r.ap i a q).2⟩, ⟨fun a o e => by
    by_cases z : a ∈ g
    · rw [ovl_in z] at e
      exact h3 a z o e
    · rw [ovl_out z] at e
      exact r.xt.ntF a o e, r.xt.ntB, r.xt.tb, r.xt.ta⟩⟩
theorem Tmp.frz {d : D} {v : V} {g : List Addr} (t : Tmp T B H F φ d v g) : Rep T B H (ovl H F g) (mapF flFrz d) v [] := t.rep.frz (ovl_ex fun a h => (t.ap a h).1) fun a ha o e => by rw [ovl_in ha]; exact e
theorem Step.frz {g : List Addr} (s : Step H F O1 H1 F1 (Or2 O2 g)) : Step H F O1 H1 (Cs.ovl H1 F1 g) O2 → Step H F O1 H1 (Cs.ovl H1 F1 g) O2 := id
theorem Step.ovl {g : List Addr} (s : Step H F O1 H1 F1 (Or2 O2 g)) (h : ∀ a ∈ g, F1 a = none) : Step H F O1 H1 (Cs.ovl H1 F1 g) O2 :=
  ⟨s.keep, s.ext.trans (ovl_ex h), fun a o e n => by
    by_cases z : a ∈ g
    · exact s.on a (.inr z)
    · rw [ovl_out z] at e; exact s.fn a o e n, fun a q => s.on a (.inl q)⟩
end
end Cs
namespace Cs
open PySem L2 Evl
section
variable {H F H1 F1 H2 F2 : Hp} {O1 O2 O3 : Addr → Prop}
theorem Step.or0 (s : Step H F O1 H1 F1 O2) : Step H F O1 H1 F1 (Or2 O2 []) := s.drop fun a h => by
  rcases h with h | h
  · exact h
  · cases h
theorem Step.no {g : List Addr} (s : Step H F O1 H1 F1 (Or2 O2 g)) : Step H F O1 H1 F1 O2 := s.drop fun a h => .inl h
theorem Step.two {g g1 : List Addr} (s : Step H F O1 H1 F1 (Or2 O2 g)) (t : Step H1 F1 O2 H2 F2 (Or2 O3 g1)) : Step H F O1 H2 F2 (Or2 O3 (g1 ++ g)) :=
  (s.trans (t.frame (g := g))).drop fun a h => by
    rcases h with h | h
    · exact .inl (.inl h)
    · rcases List.mem_append.mp h with h | h
      · exact .inl (.inr h)
      · exact .inr h
end
structure S5 where
  σ : L2.St
  H : Hp
  F : Hp
  ρ : En
  φ : Nat → List Addr
abbrev Okk (T : Tx) (B : Hp) (s : S5) : Prop := Rel T s.σ B s.H s.F s.ρ s.φ
structure Goes (tc : List Nat) (s s' : S5) (g : List Addr) : Prop where
  step : Step s.H s.F (O s.φ) s'.H s'.F (Or2 (O s'.φ) g)
  fix : ∀ j, j ∉ tc → s'.ρ[j]? = s.ρ[j]? ∧ s'.φ j = s.φ j ∧ ∀ a ∈ s.φ j, s'.H a = s.H a
  sg : ∀ j, j + 1000 ∉ tc → s'.σ[j]? = s.σ[j]?
section
variable {tc tc1 tc2 : List Nat} {s s1 s2 : S5} {g g1 g2 : List Addr}
theorem Goes.refl : Goes tc s s [] := ⟨Step.refl.or0, fun j _ => ⟨rfl, rfl, fun _ _ => rfl⟩, fun _ _ => rfl⟩
theorem Goes.trans (a : Goes tc1 s s1 g1) (b : Goes tc2 s1 s2 g2) : Goes (tc1 ++ tc2) s s2 (g2 ++ g1) :=
  ⟨a.step.two b.step, fun j h => by
    have h1 : j ∉ tc1 := fun z => h (List.mem_append.mpr (.inl z))
    have h2 : j ∉ tc2 := fun z => h (List.mem_append.mpr (.inr z))
    obtain ⟨x1, x2, x4⟩ := a.fix j h1
    obtain ⟨y1, y2, y4⟩ := b.fix j h2
    exact ⟨y1.trans x1, y2.trans x2, fun c hc => (y4 c (by rw [x2]; exact hc)).trans (x4 c hc)⟩, fun j h =>
    (b.sg j fun z => h (List.mem_append.mpr (.inr z))).trans (a.sg j fun z => h (List.mem_append.mpr (.inl z)))⟩
theorem Goes.wk (a : Goes tc1 s s1 g1) (h : ∀ j ∈ tc1, j ∈ tc) : Goes tc s s1 g1 := ⟨a.step, fun j q => a.fix j fun z => q (h j z), fun j q => a.sg j fun z => q (h _ z)⟩
theorem Goes.less (a : Goes tc s s1 g1) (h : ∀ c ∈ g, c ∈ g1) : Goes tc s s1 g := ⟨a.step.drop fun c q => q.imp id (h c), a.fix, a.sg⟩
theorem Goes.drop0 (a : Goes tc s s1 g1) : Goes tc s s1 [] := a.less fun _ h => by cases h
theorem Goes.trans0 (a : Goes tc1 s s1 g1) (b : Goes tc2 s1 s2 g2) : Goes (tc1 ++ tc2) s s2 g2 := (a.trans b).less fun _ h => List.mem_append.mpr (.inl h)
end
def Post {α : Type} (okk : α → En → Prop) (exk : Str → List Str → List D → En → Prop) : Out α → Prop
  | .ok a ρ => okk a ρ
  | .exc c ks xs ρ => exk c ks xs ρ
  | .bad => False
theorem Post.bnd {α β : Type} {okk : β → En → Prop} {exk : Str → List Str → List D → En → Prop} {f : M α} {k : α → M β} {ρ : En} (h : Post okk exk (bnd f k ρ)) :
    Post (fun a ρ1 => f ρ = .ok a ρ1 ∧ Post okk exk (k a ρ1)) exk (f ρ) := by
  unfold Cs.bnd at h
  cases e : f ρ with
  | ok a ρ1 => rw [e] at h; exact ⟨rfl, h⟩
  | exc c ks xs ρ1 => rw [e] at h; exact h
  | bad => rw [e] at h; exact h
theorem Post.imp {α : Type} {okk okk' : α → En → Prop} {exk exk' : Str → List Str → List D → En → Prop} {o : Out α} (h : Post okk exk o) (h1 : ∀ a ρ, okk a ρ → okk' a ρ) (h2 : ∀ c ks xs ρ, exk c ks xs ρ → exk' c ks xs ρ) : Post okk' exk' o := by
  cases o with
  | ok a ρ => exact h1 _ _ h
  | exc c ks xs ρ => exact h2 _ _ _ _ h
  | bad => exact h
structure Gx where
  C : Str → Option Addr
  P : Hp
  X : Option Addr
  tb : List (Addr × Str) := []
abbrev tx (X : Cx) (G : Gx) : Tx := ⟨X.K, G.C, G.P, G.X, G.tb⟩
def okE (T : Tx) (B : Hp) (tc : List Nat) (s : S5) (Q : VK) : D → En → Prop := fun d ρ => ∀ v s' g, s'.ρ = ρ → s'.σ = s.σ → Okk T B s' → Tmp T B s'.H s'.F s'.φ d v g → Goes tc s s' g → Q v s'.H
def okA (T : Tx) (B : Hp) (tc : List Nat) (s : S5) (Q : List V → Hp → Prop) : List D → En → Prop := fun ds ρ => ∀ vs s' g, s'.ρ = ρ → s'.σ = s.σ → Okk T B s' → Tmps T B s'.H s'.F s'.φ ds vs g → Goes tc s s' g → Q vs s'.H
def okT (T : Tx) (B : Hp) (tc : List Nat) (s : S5) (Q : Bool → Hp → Prop) : Bool → En → Prop := fun c ρ => ∀ s', s'.ρ = ρ → s'.σ = s.σ → Okk T B s' → Goes tc s s' [] → Q c s'.H
def exE (T : Tx) (W : WX) (B : Hp) (tc : List Nat) (s : S5) : Str → List Str → List D → En → Prop := fun c ks xs ρ => ∀ cls dd s', s'.ρ = ρ → s'.σ = s.σ → Okk T B s' → XRep T s'.F c ks xs cls dd → Goes tc s s' [] → W cls dd s'.σ s'.H
def okS (T : Tx) (B : Hp) (tc : List Nat) (s : S5) (E : Ends) : Flw → En → Prop := fun fl ρ => match fl with
  | .nx => ∀ s', s'.ρ = ρ → Okk T B s' → Goes tc s s' [] → E.nx s'.σ s'.H
  | .bk => ∀ s', s'.ρ = ρ → Okk T B s' → Goes tc s s' [] → E.bk s'.σ s'.H
  | .ct => ∀ s', s'.ρ = ρ → Okk T B s' → Goes tc s s' [] → E.ct s'.σ s'.H
  | .rt d => ∀ v s' g, s'.ρ = ρ → Okk T B s' → Tmp T B s'.H s'.F s'.φ d v g → Goes tc s s' g → E.rt v s'.H
def exS (T : Tx) (W : WX) (B : Hp) (tc : List Nat) (s : S5) : Str → List Str → List D → En → Prop := fun c ks xs ρ => ∀ cls dd s', s'.ρ = ρ → Okk T B s' → XRep T s'.F c ks xs cls dd → Goes tc s s' [] → W cls dd s'.σ s'.H
def tD (T : Tx) (W : WX) (tc : List Nat) (f : M D) : TE := fun σ H Q => ∃ B s, s.σ = σ ∧ s.H = H ∧ Okk T B s ∧ Post (okE T B tc s Q) (exE T W B tc s) (f s.ρ)
def tDs (T : Tx) (W : WX) (tc : List Nat) (f : M (List D)) : TA := fun σ H Q => ∃ B s, s.σ = σ ∧ s.H = H ∧ Okk T B s ∧ Post (okA T B tc s Q) (exE T W B tc s) (f s.ρ)
def tDT (T : Tx) (W : WX) (tc : List Nat) (f : M Bool) : TT := fun σ H Q => ∃ B s, s.σ = σ ∧ s.H = H ∧ Okk T B s ∧ Post (okT T B tc s Q) (exE T W B tc s) (f s.ρ)
def tDS (T : Tx) (W : WX) (tc : List Nat) (f : M Flw) : TS := fun E σ H => ∃ B s, s.σ = σ ∧ s.H = H ∧ Okk T B s ∧ Post (okS T B tc s E) (exS T W B tc s) (f s.ρ)
section
variable {X : Cx}
theorem pe_mono {e : Expr} {t t' : TE} (h : PE X e t) (i : ∀ σ H Q, t' σ H Q → t σ H Q) : PE X e t' := ⟨fun pins s σ H Q I q => h.run pins s σ H Q I (i σ H Q q)⟩
theorem pt_mono {e : Expr} {t t' : TT} (h : PT X e t) (i : ∀ σ H Q, t' σ H Q → t σ H Q) : PT X e t' := ⟨fun pins s σ H Q I q => h.run pins s σ H Q I (i σ H Q q)⟩
theorem pw_mono {e : Expr} {t t' : TT} (h : PW X e t) (i : ∀ σ H Q, t' σ H Q → t σ H Q) : PW X e t' := ⟨fun wh pins s σ H Q I q => h.run wh pins s σ H Q I (i σ H Q q)⟩
theorem pa_mono {es : List Expr} {t t' : TA} (h : PA X es t) (i : ∀ σ H Q, t' σ H Q → t σ H Q) : PA X es t' := ⟨fun pos pins s σ H Q I q => h.run pos pins s σ H Q I (i σ H Q q)⟩
theorem ps_mono {st : Stmt} {t t' : TS} (h : PS X st t) (i : ∀ D σ H, t' D σ H → t D σ H) : PS X st t' := ⟨fun pins s σ H D I q => h.run pins s σ H D I (i D σ H q)⟩
theorem pss_mono {st : List Stmt} {t t' : TS} (h : PSs X st t) (i : ∀ D σ H, t' D σ H → t D σ H) : PSs X st t' := ⟨fun pins s σ H D I q => h.run pins s σ H D I (i D σ H q)⟩
end
abbrev GE (X : Cx) (G : Gx) (W : WX) (tc : List Nat) (e : Expr) (f : M D) : Prop := PE X e (tD (tx X G) W tc f)
abbrev GA (X : Cx) (G : Gx) (W : WX) (tc : List Nat) (es : List Expr) (f : M (List D)) : Prop := PA X es (tDs (tx X G) W tc f)
abbrev GT (X : Cx) (G : Gx) (W : WX) (tc : List Nat) (e : Expr) (f : M Bool) : Prop := PT X e (tDT (tx X G) W tc f)
abbrev GW (X : Cx) (G : Gx) (W : WX) (tc : List Nat) (e : Expr) (f : M Bool) : Prop := PW X e (tDT (tx X G) W tc f)
abbrev GS (X : Cx) (G : Gx) (W : WX) (tc : List Nat) (st : Stmt) (f : M Flw) : Prop := PS X st (tDS (tx X G) W tc f)
abbrev GSs (X : Cx) (G : Gx) (W : WX) (tc : List Nat) (st : List Stmt) (f : M Flw) : Prop := PSs X st (tDS (tx X G) W tc f)
section
variable {T : Tx} {B : Hp} {s s1 s2 s' : S5} {W : WX} {tc tc1 tc2 : List Nat} {ρ : En} {g0 : List Addr}
theorem exE.re {c : Str} {ks : List Str} {xs : List D} (a : Goes tc1 s s1 g0) (hσ : s1.σ = s.σ) (h : exE T W B (tc1 ++ tc2) s c ks xs ρ) : exE T W B tc2 s1 c ks xs ρ := fun cls dd s' e1 e2 r x t =>
  h cls dd s' e1 (e2.trans hσ) r x (a.trans0 t)
theorem seqE {β : Type} {f : M D} {k : D → M β} {Q1 : VK} {okk : β → En → Prop} (r : Okk T B s) (hp : Post okk (exE T W B (tc1 ++ tc2) s) (bnd f k s.ρ))
    (hk : ∀ d v s1 g, f s.ρ = .ok d s1.ρ → s1.σ = s.σ → Okk T B s1 → Tmp T B s1.H s1.F s1.φ d v g → Goes tc1 s s1 g → Post okk (exE T W B (tc1 ++ tc2) s) (k d s1.ρ) → Q1 v s1.H) : tD T W tc1 f s.σ s.H Q1 :=
  ⟨B, s, rfl, rfl, r, hp.bnd.imp (fun d ρ1 ⟨e, h⟩ v s1 g e1 e2 r1 t a => by
    subst e1
    exact hk d v s1 g e e2 r1 t a h) fun _ _ _ _ h cls dd s' e1 e2 r' x t => h cls dd s' e1 e2 r' x (t.wk fun j q => List.mem_append.mpr (.inl q))⟩
theorem seqE1 {β : Type} {f : M D} {k : D → M β} {Q1 : VK} {okk : β → En → Prop} (r : Okk T B s) (hp : Post okk (exE T W B tc1 s) (bnd f k s.ρ))
    (hk : ∀ d v s1 g, f s.ρ = .ok d s1.ρ → s1.σ = s.σ → Okk T B s1 → Tmp T B s1.H s1.F s1.φ d v g → Goes tc1 s s1 g → Post okk (exE T W B tc1 s) (k d s1.ρ) → Q1 v s1.H) : tD T W tc1 f s.σ s.H Q1 :=
  ⟨B, s, rfl, rfl, r, hp.bnd.imp (fun d ρ1 ⟨e, h⟩ v s1 g e1 e2 r1 t a => by
    subst e1
    exact hk d v s1 g e e2 r1 t a h) fun _ _ _ _ h => h⟩
theorem seqE2 {β : Type} {f : M D} {k : D → M β} {Q1 : VK} {okk : β → En → Prop} {s0 : S5} (a0 : Goes tc1 s0 s g0) (hσ : s.σ = s0.σ) (r : Okk T B s) (hp : Post okk (exE T W B (tc1 ++ tc2) s0) (bnd f k s.ρ))
    (hk : ∀ d v s1 g, f s.ρ = .ok d s1.ρ → s1.σ = s.σ → Okk T B s1 → Tmp T B s1.H s1.F s1.φ d v g → Goes tc2 s s1 g → Post okk (exE T W B (tc1 ++ tc2) s0) (k d s1.ρ) → Q1 v s1.H) : tD T W tc2 f s.σ s.H Q1 :=
  ⟨B, s, rfl, rfl, r, hp.bnd.imp (fun d ρ1 ⟨e, h⟩ v s1 g e1 e2 r1 t a => by
    subst e1
    exact hk d v s1 g e e2 r1 t a h) fun _ _ _ _ h => exE.re a0 hσ h⟩
theorem seqA1 {β : Type} {f : M (List D)} {k : List D → M β} {Q1 : List V → Hp → Prop} {okk : β → En → Prop} (r : Okk T B s) (hp : Post okk (exE T W B tc1 s) (bnd f k s.ρ))
    (hk : ∀ d v s1 g, f s.ρ = .ok d s1.ρ → s1.σ = s.σ → Okk T B s1 → Tmps T B s1.H s1.F s1.φ d v g → Goes tc1 s s1 g → Post okk (exE T W B tc1 s) (k d s1.ρ) → Q1 v s1.H) : tDs T W tc1 f s.σ s.H Q1 :=
  ⟨B, s, rfl, rfl, r, hp.bnd.imp (fun d ρ1 ⟨e, h⟩ v s1 g e1 e2 r1 t a => by
    subst e1
    exact hk d v s1 g e e2 r1 t a h) fun _ _ _ _ h => h⟩
theorem seqA2 {β : Type} {f : M (List D)} {k : List D → M β} {Q1 : List V → Hp → Prop} {okk : β → En → Prop} {s0 : S5} (a0 : Goes tc1 s0 s g0) (hσ : s.σ = s0.σ) (r : Okk T B s) (hp : Post okk (exE T W B (tc1 ++ tc2) s0) (bnd f k s.ρ))
    (hk : ∀ d v s1 g, f s.ρ = .ok d s1.ρ → s1.σ = s.σ → Okk T B s1 → Tmps T B s1.H s1.F s1.φ d v g → Goes tc2 s s1 g → Post okk (exE T W B (tc1 ++ tc2) s0) (k d s1.ρ) → Q1 v s1.H) : tDs T W tc2 f s.σ s.H Q1 :=
  ⟨B, s, rfl, rfl, r, hp.bnd.imp (fun d ρ1 ⟨e, h⟩ v s1 g e1 e2 r1 t a => by
    subst e1
    exact hk d v s1 g e e2 r1 t a h) fun _ _ _ _ h => exE.re a0 hσ h⟩
theorem seqT {β : Type} {f : M Bool} {k : Bool → M β} {Q1 : Bool → Hp → Prop} {okk : β → En → Prop} (r : Okk T B s) (hp : Post okk (exE T W B (tc1 ++ tc2) s) (bnd f k s.ρ))
    (hk : ∀ d s1, f s.ρ = .ok d s1.ρ → s1.σ = s.σ → Okk T B s1 → Goes tc1 s s1 [] → Post okk (exE T W B (tc1 ++ tc2) s) (k d s1.ρ) → Q1 d s1.H) : tDT T W tc1 f s.σ s.H Q1 :=
  ⟨B, s, rfl, rfl, r, hp.bnd.imp (fun d ρ1 ⟨e, h⟩ s1 e1 e2 r1 a => by
    subst e1
    exact hk d s1 e e2 r1 a h) fun _ _ _ _ h cls dd s' e1 e2 r' x t => h cls dd s' e1 e2 r' x (t.wk fun j q => List.mem_append.mpr (.inl q))⟩
theorem Tmp.go {d : D} {v : V} {g g1 : List Addr} (t : Tmp T B s.H s.F s.φ d v g) (a : Goes tc s s1 g1) : Tmp T B s1.H s1.F s1.φ d v g := t.step a.step.no
theorem Tmps.go {d : List D} {v : List V} {g g1 : List Addr} (t : Tmps T B s.H s.F s.φ d v g) (a : Goes tc s s1 g1) : Tmps T B s1.H s1.F s1.φ d v g := t.step a.step.no
end
def slot (i : Nat) (ρ : En) : Option D := match ρ[i]? with
  | some (.dt d) => some d
  | _ => none
theorem slot_some {i : Nat} {ρ : En} {d : D} (h : slot i ρ = some d) : ρ[i]? = some (.dt d) := by
  unfold slot at h
  split at h
  · rename_i e; cases h; exact e
  · cases h
def dCp (i : Nat) : M D := fun ρ => match slot i ρ with
  | some d => if allF noOw d = true then .ok d ρ else .bad
  | none => .bad
def dMv (i : Nat) : M D := fun ρ => match slot i ρ with
  | some d => .ok d (ρ.set i .un)
  | none => .bad
def dFz (f : M D) : M D := bnd f fun d => ret (mapF flFrz d)
section
variable {X : Cx} {G : Gx} {W : WX} {i : Nat} {x : Str} {pos : Pos}
theorem g_int {n : Int} {j : Nat} : GE X G W [] (.Constant (.int n) j pos) (ret (.int n)) :=
  pe_mono pe_int fun σ H Q ⟨B, s, e1, e2, r, h⟩ => by
    subst e1 e2
    exact h _ s [] rfl rfl r (Tmp.flat (.int n)) Goes.refl
theorem g_bl {n : Bool} {j : Nat} : GE X G W [] (.Constant (.bool n) j pos) (ret (.bl n)) :=
  pe_mono pe_bl fun σ H Q ⟨B, s, e1, e2, r, h⟩ => by
    subst e1 e2
    exact h _ s [] rfl rfl r (Tmp.flat (.bl n)) Goes.refl
theorem g_str {n : Str} {j : Nat} (hs : PyData.strOk n = true := by decide +kernel) : GE X G W [] (.Constant (.str n) j pos) (ret (.str n)) :=
  pe_mono pe_str fun σ H Q ⟨B, s, e1, e2, r, h⟩ => by
    subst e1 e2
    exact h _ s [] rfl rfl r (Tmp.flat (.str n hs)) Goes.refl
theorem g_cp (hv : PE X (.Name x pos) (tVar i)) : GE X G W [] (.Name x pos) (dCp i) :=
  pe_mono hv fun σ H Q ⟨B, s, e1, e2, r, h⟩ => by
    subst e1 e2
    unfold dCp at h
    cases e : slot i s.ρ with
    | none => rw [e] at h; exact h.elim
    | some d =>
      rw [e] at h
      dsimp only at h
      split at h
      · rename_i hn
        obtain ⟨v, e2, rp⟩ := r.sl i d (slot_some e)
        have z := rp.noO hn
        rw [z] at rp
        exact ⟨v, e2, h v s [] rfl rfl r (Tmp.flat rp) Goes.refl⟩
      · exact h.elim
abbrev S5.take (s : S5) (i : Nat) : S5 := { s with ρ := s.ρ.set i .un, φ := fun j => if j = i then [] else s.φ j }
theorem Rel.take {T : Tx} {σ : L2.St} {B H F : Hp} {ρ : En} {φ : Nat → List Addr} {i : Nat} (r : Rel T σ B H F ρ φ) : Rel T σ B H F (ρ.set i .un) (fun j => if j = i then [] else φ j) := by
  refine ⟨by rw [List.length_set]; exact r.len, r.exB, r.exF, r.exP, fun j d q => ?_, fun j q => ?_, fun j q => ?_, fun j => ?_, fun j k a hn h1 h2 => ?_, fun j a h => ?_, r.xt⟩
  · by_cases z : j = i
    · subst z
      by_cases hl : j < ρ.length
      · rw [List.getElem?_set_self hl] at q; cases q
      · rw [List.getElem?_eq_none (by rw [List.length_set]; omega)] at q; cases q
    · rw [List.getElem?_set_ne (fun e => z e.symm)] at q
      rw [if_neg z]
      exact r.sl j d q
  · by_cases z : j = i
    · subst z
      by_cases hl : j < ρ.length
      · rw [List.getElem?_set_self hl] at q; cases q
      · rw [List.getElem?_eq_none (by rw [List.length_set]; omega)] at q; cases q
    · rw [List.getElem?_set_ne (fun e => z e.symm)] at q
      exact r.xn j q
  · split
    · rfl
    · rename_i z
      rw [List.getElem?_set_ne (fun e => z e.symm)] at q
      exact r.em j q
  · split
    · exact .nil
    · exact r.nd j
  · split at h1
    · cases h1
    · split at h2
      · cases h2
      · exact r.dj j k a hn h1 h2
  · split at h
    · cases h
    · exact r.ap j a h
theorem take_tmp {T : Tx} {B : Hp} {s : S5} {i : Nat} {d : D} {v : V} (r : Okk T B s) (rp : Rep T B s.H s.F d v (s.φ i)) : Tmp T B s.H s.F (s.take i).φ d v (s.φ i) :=
  ⟨rp, r.nd i, r.ap i, fun a ha q => by
    obtain ⟨j, q⟩ := q
    dsimp only at q
    split at q
    · cases q
    · rename_i z
      exact r.dj j i a z q ha⟩
theorem take_goes {s : S5} {i : Nat} : Goes [i] s (s.take i) (s.φ i) :=
  ⟨Step.refl.drop fun a q => by
    rcases q with ⟨j, q⟩ | q
    · dsimp only at q
      split at q
      · cases q
      · exact ⟨j, q⟩
    · exact ⟨i, q⟩, fun j h => by
    have z : j ≠ i := fun e => h (by rw [e]; exact List.mem_singleton.mpr rfl)
    exact ⟨List.getElem?_set_ne (fun e => z e.symm), if_neg z, fun _ _ => rfl⟩, fun _ _ => rfl⟩
theorem g_mv (hv : PE X (.Name x pos) (tVar i)) : GE X G W [i] (.Name x pos) (dMv i) :=
  pe_mono hv fun σ H Q ⟨B, s, e1, e2, r, h⟩ => by
    subst e1 e2
    unfold dMv at h
    cases e : slot i s.ρ with
    | none => rw [e] at h; exact h.elim
    | some d =>
      rw [e] at h
      obtain ⟨v, e2, rp⟩ := r.sl i d (slot_some e)
      exact ⟨v, e2, h v (s.take i) (s.φ i) rfl rfl r.take (take_tmp r rp) take_goes⟩
abbrev S5.ovl (s : S5) (g : List Addr) : S5 := { s with F := Cs.ovl s.H s.F g }
theorem Goes.ovl {tc : List Nat} {s s1 : S5} {g : List Addr} (a : Goes tc s s1 g) (h : ∀ a ∈ g, s1.F a = none) : Goes tc s (s1.ovl g) [] := ⟨(a.step.ovl h).or0, a.fix, a.sg⟩
theorem g_fz {tc : List Nat} {e : Expr} {f : M D} (h : GE X G W tc e f) : GE X G W tc e (dFz f) :=
  pe_mono h fun σ H Q ⟨B, s, e1, e2, r, hp⟩ => by
    subst e1 e2
    refine seqE1 r hp fun d v s1 g _ hs r1 t a h => ?_
    have z : okE (tx X G) B tc s Q (mapF flFrz d) s1.ρ := h
    exact z v (s1.ovl g) [] rfl hs (r1.ovl (fun a q => (t.ap a q).1) t.dj t.rep.nt) (Tmp.flat t.frz) (a.ovl fun a q => (t.ap a q).1)
end
end Cs
namespace Cs
open PySem L2 Evl
inductive PR where
  | sc (d : D)
  | nl (ds : List D)
  | nt (ds : List D)
  | bad
def pr : PR → M D
  | .sc d => ret d
  | .nl ds => ret (.lst .ow ds)
  | .nt ds => ret (.tup ds)
  | .bad => bad
def PrOk (T : Tx) (B H F : Hp) (rd : Hp → VK → Prop) : PR → Prop
  | .sc d => ∃ v, Rep T B H F d v [] ∧ ∀ Q : VK, Q v H → rd H Q
  | .nl ds => ∃ vs, Reps T B H F ds vs [] ∧ ∀ Q : VK, (∀ p, H p = none → Q (.ref p) (upd H p (.lst vs))) → rd H Q
  | .nt ds => ∃ vs, Reps T B H F ds vs [] ∧ ∀ Q : VK, (∀ p (o : Obj), o.dict = none → H p = none → Q (.ref p) (upd H p (.frz o (.tup vs)))) → rd H Q
  | .bad => True
section
variable {T : Tx} {B : Hp} {s s1 s2 s' : S5} {W : WX} {tc tc1 tc2 : List Nat} {g : List Addr} {Q : VK}
abbrev S5.new (s : S5) (p : Addr) (o : HO) : S5 := { s with H := upd s.H p o }
abbrev S5.newF (s : S5) (p : Addr) (o : HO) : S5 := { s with H := upd s.H p o, F := upd s.F p o }
theorem goes_new {p : Addr} {o : HO} (r : Okk T B s) (h : s.H p = none) : Goes [] s (s.new p o) [p] :=
  ⟨⟨fun a u e _ => .of (show upd s.H p o a = some u by rw [upd_ne (ne_of_none e h)]; exact e), Ex.refl _, fun a u e n => (by rw [e] at n; cases n), fun a q => by
    rcases q with q | q
    · exact .inl q
    · rw [List.mem_singleton.mp q]; exact .inr h⟩, fun j _ => ⟨rfl, rfl, fun a ha => by
    obtain ⟨o', e⟩ := r.dom ⟨j, ha⟩
    exact upd_ne (ne_of_none e h)⟩, fun _ _ => rfl⟩
theorem goes_newF {p : Addr} {o : HO} (r : Okk T B s) (h : s.H p = none) : Goes [] s (s.newF p o) [] :=
  ⟨(Step.newF h r.exF).or0, fun j _ => ⟨rfl, rfl, fun a ha => by
    obtain ⟨o', e⟩ := r.dom ⟨j, ha⟩
    exact upd_ne (ne_of_none e h)⟩, fun _ _ => rfl⟩
theorem tmp_newL {p : Addr} {ds : List D} {vs : List V} (r : Okk T B s) (h : s.H p = none) (rp : Reps T B s.H s.F ds vs []) : Tmp T B (s.new p (.lst vs)).H s.F s.φ (.lst .ow ds) (.ref p) [p] :=
  ⟨.lstO upd_same (rp.mono (Ex.refl B) (Ex.refl _) fun a q => by cases q) rfl, List.nodup_cons.mpr ⟨fun q => (by cases q), List.Pairwise.nil⟩, fun a q => by
    rw [List.mem_singleton.mp q]
    exact ⟨r.freeF h, r.freeB h⟩, fun a q => by
    rw [List.mem_singleton.mp q]
    exact r.freeO h⟩
theorem tmp_newT {p : Addr} {ds : List D} {vs : List V} {o : Obj} (ho : o.dict = none) (r : Okk T B s) (h : s.H p = none) (rp : Reps T B s.H s.F ds vs []) : Tmp T B (s.newF p (.frz o (.tup vs))).H (s.newF p (.frz o (.tup vs))).F s.φ (.tup ds) (.ref p) [] :=
  Tmp.flat (.tup (.inl ⟨o, upd_same, ho⟩) (rp.mono (Ex.refl B) (Ex.new (r.freeF h)) fun a q => by cases q))
theorem pr_fin {rd : Hp → VK → Prop} {p : PR} (hσ : s1.σ = s.σ) (r1 : Okk T B s1) (a : Goes tc s s1 g) (h : PrOk T B s1.H s1.F rd p) (hp : Post (okE T B tc s Q) (exE T W B tc s) (pr p s1.ρ)) : rd s1.H Q := by
  cases p with
  | sc d =>
    obtain ⟨v, rp, k⟩ := h
    exact k Q (hp v s1 [] rfl hσ r1 (Tmp.flat rp) a.drop0)
  | nl ds =>
    obtain ⟨vs, rp, k⟩ := h
    refine k Q fun p hp' => hp (.ref p) (s1.new p (.lst vs)) [p] rfl hσ (r1.new hp') (tmp_newL r1 hp' rp) ?_
    have z := a.trans0 (goes_new (o := .lst vs) r1 hp')
    rw [List.append_nil] at z
    exact z
  | nt ds =>
    obtain ⟨vs, rp, k⟩ := h
    refine k Q fun p o ho hp' => hp (.ref p) (s1.newF p (.frz o (.tup vs))) [] rfl hσ (r1.newF hp') (tmp_newT ho r1 hp' rp) ?_
    have z := a.trans0 (goes_newF (o := .frz o (.tup vs)) r1 hp')
    rw [List.append_nil] at z
    exact z
  | bad => exact hp.elim
end
inductive Opd where
  | v (f : M D)
  | p (i : Nat)
def dPk (i : Nat) : M D := fun ρ => match slot i ρ with
  | some d => .ok d ρ
  | none => .bad
def rdO (T : Tx) (W : WX) (tc : List Nat) : Opd → TE
  | .v f => tD T W tc f
  | .p i => tVar i
def Opd.fits : Opd → List Nat → Prop
  | .v _, _ => True
  | .p _, tc => tc = []
structure GO (X : Cx) (G : Gx) (W : WX) (tc : List Nat) (e : Expr) (o : Opd) : Prop where
  pe : PE X e (rdO (tx X G) W tc o)
  fits : o.fits tc
theorem go_v {X : Cx} {G : Gx} {W : WX} {tc : List Nat} {e : Expr} {f : M D} (h : GE X G W tc e f) : GO X G W tc e (.v f) := ⟨h, trivial⟩
theorem go_p {X : Cx} {G : Gx} {W : WX} {e : Expr} {i : Nat} (h : PE X e (tVar i)) : GO X G W [] e (.p i) := ⟨h, rfl⟩
def dB (f : M D) : M Bool := bnd f fun d => match d with
  | .bl b => ret b
  | _ => bad
def dOp1 (p : D → PR) : Opd → M D
  | .v f => bnd f fun x => pr (p x)
  | .p i => bnd (dPk i) fun x => pr (p x)
def dOp2 (p : D → D → PR) : Opd → Opd → M D
  | .v f, .v g => bnd f fun x => bnd g fun y => pr (p x y)
  | .p i, .v g => bnd (dPk i) fun _ => bnd g fun y => bnd (dPk i) fun x => pr (p x y)
  | .v f, .p j => bnd f fun x => bnd (dPk j) fun y => pr (p x y)
  | .p i, .p j => bnd (dPk i) fun x => bnd (dPk j) fun y => pr (p x y)
def P1 (T : Tx) (r : V → Hp → VK → Prop) (p : D → PR) : Prop := ∀ B H F d v g, Ex F H → Ex B H → Rep T B H F d v g → PrOk T B H F (r v) (p d)
def P2 (T : Tx) (r : R2) (p : D → D → PR) : Prop := ∀ B H F d v g e u k, Ex F H → Ex B H → Rep T B H F d v g → Rep T B H F e u k → PrOk T B H F (r v u) (p d e)
theorem pk_bnd {β : Type} {i : Nat} {k : D → M β} {okk : β → En → Prop} {exk : Str → List Str → List D → En → Prop} {ρ : En} (h : Post okk exk (bnd (dPk i) k ρ)) : ∃ d, slot i ρ = some d ∧ Post okk exk (k d ρ) := by
  cases e : slot i ρ with
  | none =>
    have z : dPk i ρ = .bad := by unfold dPk; rw [e]
    rw [bnd_bad z] at h
    exact h.elim
  | some d =>
    have z : dPk i ρ = .ok d ρ := by unfold dPk; rw [e]
    rw [bnd_ok z] at h
    exact ⟨d, rfl, h⟩
section
variable {T : Tx} {W : WX} {tc t1 t2 : List Nat}
theorem tun_core {r : V → Hp → VK → Prop} {p : D → PR} {o : Opd} (hr : P1 T r p) (hf : o.fits tc) {σ : L2.St} {H : Hp} {Q : VK} (h : tD T W tc (dOp1 p o) σ H Q) : tUn r (rdO T W tc o) σ H Q := by
  obtain ⟨B, s, e1, e2, rl, h⟩ := h
  subst e1 e2
  cases o with
  | v f => exact seqE1 rl h fun d v s1 g _ hs r1 t a h => pr_fin hs r1 a (hr B s1.H s1.F d v g r1.exF r1.exB t.rep) h
  | p i =>
    obtain ⟨d, e, h⟩ := pk_bnd h
    obtain ⟨v, e2, rp⟩ := rl.sl i d (slot_some e)
    exact ⟨v, e2, pr_fin rfl rl Goes.refl (hr B s.H s.F d v _ rl.exF rl.exB rp) h⟩
theorem top_core {r : R2} {p : D → D → PR} {o1 o2 : Opd} (hr : P2 T r p) (hf1 : o1.fits t1) (hf2 : o2.fits t2) {σ : L2.St} {H : Hp} {Q : VK} (h : tD T W (t1 ++ t2) (dOp2 p o1 o2) σ H Q) : tOp r (rdO T W t1 o1) (rdO T W t2 o2) σ H Q := by
  obtain ⟨B, s, e1, e2, rl, h⟩ := h
  subst e1 e2
  cases o1 with
  | v f =>
    cases o2 with
    | v f2 =>
      refine seqE rl h fun d v s1 g _ hs r1 t a h => ?_
      show tD T W t2 f2 s.σ s1.H _
      rw [← hs]
      refine seqE2 a hs r1 h fun d2 v2 s2 g2 _ hs2 r2 t2 a2 h => ?_
      exact pr_fin (hs2.trans hs) r2 (a.trans a2) (hr B s2.H s2.F d v g d2 v2 g2 r2.exF r2.exB (t.go a2).rep t2.rep) h
    | p j =>
      have z : t2 = [] := hf2
      subst z
      rw [List.append_nil] at h
      refine seqE1 rl h fun d v s1 g _ hs r1 t a h => ?_
      obtain ⟨d2, e, h⟩ := pk_bnd h
      obtain ⟨v2, e2, rp⟩ := r1.sl j d2 (slot_some e)
      rw [hs] at e2
      exact ⟨v2, e2, pr_fin hs r1 a (hr B s1.H s1.F d v g d2 v2 _ r1.exF r1.exB t.rep rp) h⟩
  | p i =>
    have z : t1 = [] := hf1
    subst z
    rw [List.nil_append] at h
    cases o2 with
    | v f2 =>
      obtain ⟨d0, e0, h⟩ := pk_bnd h
      obtain ⟨v0, e00, _⟩ := rl.sl i d0 (slot_some e0)
      refine ⟨v0, e00, seqE1 rl h fun d2 v2 s1 g _ hs r1 t a h => ?_⟩
      obtain ⟨d, e, h⟩ := pk_bnd h
      obtain ⟨v, e2, rp⟩ := r1.sl i d (slot_some e)
      have ev : v = v0 := by
        rw [hs, e00] at e2
        cases e2
        rfl
      subst ev
      exact pr_fin hs r1 a (hr B s1.H s1.F d v _ d2 v2 g r1.exF r1.exB rp t.rep) h
    | p j =>
      have z : t2 = [] := hf2
      subst z
      obtain ⟨d, e, h⟩ := pk_bnd h
      obtain ⟨d2, e', h⟩ := pk_bnd h
      obtain ⟨v, e2, rp⟩ := rl.sl i d (slot_some e)
      obtain ⟨v2, e2', rp2⟩ := rl.sl j d2 (slot_some e')
      exact ⟨v, e2, v2, e2', pr_fin rfl rl Goes.refl (hr B s.H s.F d v _ d2 v2 _ rl.exF rl.exB rp rp2) h⟩
theorem tB_core {f : M D} {σ : L2.St} {H : Hp} {Q : Bool → Hp → Prop} (h : tDT T W tc (dB f) σ H Q) : tD T W tc f σ H (fun x H1 => ∃ c, x = .bl c ∧ Q c H1) := by
  obtain ⟨B, s, e1, e2, rl, h⟩ := h
  subst e1 e2
  refine seqE1 rl h fun d v s1 g _ hs r1 t a h => ?_
  cases d with
  | bl b =>
    obtain ⟨rp, _, _, _⟩ := t
    cases rp
    exact ⟨b, rfl, h s1 rfl hs r1 a.drop0⟩
  | _ => exact h.elim
end
section
variable {X : Cx} {G : Gx} {W : WX} {tc t1 t2 : List Nat} {e a b : Expr} {pos : Pos}
theorem tun_of {r : V → Hp → VK → Prop} {p : D → PR} {o : Opd} (hr : P1 (tx X G) r p) (ho : GO X G W tc e o) {t : Expr} (hpe : ∀ ta, PE X e ta → PE X t (tUn r ta)) : GE X G W tc t (dOp1 p o) :=
  pe_mono (hpe _ ho.pe) fun _ _ _ h => tun_core hr ho.fits h
theorem top_of {r : R2} {p : D → D → PR} {o1 o2 : Opd} (hr : P2 (tx X G) r p) (h1 : GO X G W t1 a o1) (h2 : GO X G W t2 b o2) {t : Expr} (hpe : ∀ ta tb, PE X a ta → PE X b tb → PE X t (tOp r ta tb)) : GE X G W (t1 ++ t2) t (dOp2 p o1 o2) :=
  pe_mono (hpe _ _ h1.pe h2.pe) fun _ _ _ h => top_core hr h1.fits h2.fits h
theorem topT_of {r : R2} {p : D → D → PR} {o1 o2 : Opd} (hr : P2 (tx X G) r p) (h1 : GO X G W t1 a o1) (h2 : GO X G W t2 b o2) {t : Expr} (hpe : ∀ ta tb, PE X a ta → PE X b tb → PT X t (tTest (tOp r ta tb))) : GT X G W (t1 ++ t2) t (dB (dOp2 p o1 o2)) :=
  pt_mono (hpe _ _ h1.pe h2.pe) fun _ _ _ h => top_core hr h1.fits h2.fits (tB_core h)
end
end Cs
namespace Cs
open PySem L2 Evl
theorem op_alt {X : Cx} {f : Value → Value → Sem Value} {r1 r2 : R2} (h1 : OpR X f r1) (h2 : OpR X f r2) : OpR X f (fun x y H Q => r1 x y H Q ∨ r2 x y H Q) :=
  fun pins s σ H x y v u Q I rx ry h => h.elim (h1 pins s σ H x y v u Q I rx ry) (h2 pins s σ H x y v u Q I rx ry)
mutual
def toPy : D → PyData
  | .non => .none
  | .bl b => .bool b
  | .int i => .int i
  | .str s => .str s
  | .tup xs => .tuple (toPys xs)
  | .lst _ xs => .list (toPys xs)
  | .cls _ => .none
  | .dct _ _ _ => .none
  | .obj _ _ _ _ => .none
def toPys : List D → List PyData
  | [] => []
  | d :: ds => toPy d :: toPys ds
end
mutual
def dep : D → Nat
  | .non => 0
  | .bl _ => 0
  | .int _ => 0
  | .str _ => 0
  | .tup xs => deps xs + 1
  | .lst _ xs => deps xs + 1
  | .cls _ => 1000
  | .dct _ _ _ => 1000
  | .obj _ _ _ _ => 1000
def deps : List D → Nat
  | [] => 0
  | d :: ds => max (dep d) (deps ds)
end
mutual
theorem dep_py : ∀ d : D, dep d < 1000 → (toPy d).depth = dep d
  | .non, _ => by rw [toPy, dep, PyData.depth]
  | .bl _, _ => by rw [toPy, dep, PyData.depth]
  | .int _, _ => by rw [toPy, dep, PyData.depth]
  | .str _, _ => by rw [toPy, dep, PyData.depth]
  | .tup xs, h => by
    rw [dep] at h
    rw [toPy, dep, PyData.depth, deps_py xs (by omega)]
  | .lst _ xs, h => by
    rw [dep] at h
    rw [toPy, dep, PyData.depth, deps_py xs (by omega)]
  | .cls _, h => by rw [dep] at h; omega
  | .dct _ _ _, h => by rw [dep] at h; omega
  | .obj _ _ _ _, h => by rw [dep] at h; omega
theorem deps_py : ∀ xs : List D, deps xs < 1000 → PyData.depthAll (toPys xs) = deps xs
  | [], _ => by rw [toPys, deps, PyData.depthAll]
  | x :: xs, h => by
    rw [deps] at h
    rw [toPys, deps, PyData.depthAll, dep_py x (by omega), deps_py xs (by omega)]
end
section
variable {T : Tx} {B H F : Hp}
mutual
theorem Rep.dp (eF : Ex F H) (eB : Ex B H) : ∀ {d : D} {v : V} {g : List Addr}, Rep T B H F d v g → dep d < 1000 → Dp T.K H v (toPy d) ∧ (toPy d).canLay0 = true
  | _, _, _, .non, _ => by rw [toPy, PyData.canLay0]; exact ⟨.non, rfl⟩
  | _, _, _, .bl b, _ => by rw [toPy, PyData.canLay0]; exact ⟨.bl b, rfl⟩
  | _, _, _, .int i, _ => by rw [toPy, PyData.canLay0]; exact ⟨.int i, rfl⟩
  | _, _, _, .str s hs, _ => by rw [toPy, PyData.canLay0]; exact ⟨.str s, hs⟩
  | _, _, _, .cls _, h => by rw [dep] at h; omega
  | _, _, _, .tup q r, h => by
    rw [dep] at h
    obtain ⟨a, b⟩ := Reps.dp eF eB r (by omega)
    rw [toPy, PyData.canLay0]
    exact ⟨.tup (ex_t eF q.sq) a, b⟩
  | _, _, _, .lstF q r, h => by
    rw [dep] at h
    obtain ⟨a, b⟩ := Reps.dp eF eB r (by omega)
    rw [toPy, PyData.canLay0]
    exact ⟨.lst (sq_of (eF _ _ q)) a, b⟩
  | _, _, _, .lstR q r, h => by
    rw [dep] at h
    obtain ⟨a, b⟩ := Reps.dp eF eB r (by omega)
    rw [toPy, PyData.canLay0]
    exact ⟨.lst (ex_l eF q) a, b⟩
  | _, _, _, .lstB q r, h => by
    rw [dep] at h
    obtain ⟨a, b⟩ := Reps.dp eF eB r (by omega)
    rw [toPy, PyData.canLay0]
    exact ⟨.lst (sq_of (eB _ _ q)) a, b⟩
  | _, _, _, .lstO q r _, h => by
    rw [dep] at h
    obtain ⟨a, b⟩ := Reps.dp eF eB r (by omega)
    rw [toPy, PyData.canLay0]
    exact ⟨.lst (sq_of q) a, b⟩
  | _, _, _, .dctF _ _ _, h => by rw [dep] at h; omega
  | _, _, _, .dctB _ _ _, h => by rw [dep] at h; omega
  | _, _, _, .dctO _ _ _ _, h => by rw [dep] at h; omega
  | _, _, _, .objF _ _ _ _ _, h => by rw [dep] at h; omega
  | _, _, _, .objB _ _ _ _ _, h => by rw [dep] at h; omega
  | _, _, _, .objO _ _ _ _ _ _, h => by rw [dep] at h; omega
theorem Reps.dp (eF : Ex F H) (eB : Ex B H) : ∀ {ds : List D} {vs : List V} {g : List Addr}, Reps T B H F ds vs g → deps ds < 1000 → DpAll T.K H vs (toPys ds) ∧ PyData.canLayAll0 (toPys ds) = true
  | _, _, _, .nil, _ => by rw [toPys, PyData.canLayAll0]; exact ⟨.nil, rfl⟩
  | _, _, _, .cons r rs _, h => by
    rw [deps] at h
    obtain ⟨a, b⟩ := Rep.dp eF eB r (by omega)
    obtain ⟨a2, b2⟩ := Reps.dp eF eB rs (by omega)
    rw [toPys, PyData.canLayAll0]
    exact ⟨.cons a a2, by rw [b, b2]; rfl⟩
end
theorem Rep.shaped (eF : Ex F H) (eB : Ex B H) {d : D} {v : V} {g : List Addr} (r : Rep T B H F d v g) (h : dep d ≤ 60) : Dp T.K H v (toPy d) ∧ SeqAt.shaped (toPy d) = true := by
  obtain ⟨a, b⟩ := r.dp eF eB (by omega)
  refine ⟨a, ?_⟩
  unfold SeqAt.shaped
  rw [b, dep_py d (by omega), decide_eq_true (by omega : dep d ≤ 64)]
  rfl
theorem Rep.list (eF : Ex F H) (eB : Ex B H) {o : Fl} {ds : List D} {v : V} {g : List Addr} (r : Rep T B H F (.lst o ds) v g) : ∃ a vs g', v = .ref a ∧ SqL T.K H a vs ∧ Reps T B H F ds vs g' ∧ (o ≠ .ro → H a = some (.lst vs)) := by
  cases r with
  | lstF h r => exact ⟨_, _, _, rfl, sq_of (eF _ _ h), r, fun _ => eF _ _ h⟩
  | lstR h r => exact ⟨_, _, _, rfl, ex_l eF h, r, fun z => absurd rfl z⟩
  | lstB h r => exact ⟨_, _, _, rfl, sq_of (eB _ _ h), r, fun _ => eB _ _ h⟩
  | lstO h r e => exact ⟨_, _, _, rfl, sq_of h, r, fun _ => h⟩
theorem Rep.tuple (eF : Ex F H) {ds : List D} {v : V} {g : List Addr} (r : Rep T B H F (.tup ds) v g) : ∃ a vs g', v = .ref a ∧ SqT T.K H a vs ∧ Reps T B H F ds vs g' := by
  cases r with
  | tup h r => exact ⟨_, _, _, rfl, ex_t eF h.sq, r⟩
theorem Reps.noOw {ds : List D} {vs : List V} {g : List Addr} (r : Reps T B H F ds vs g) (h : allFs Cs.noOw ds = true) : Reps T B H F ds vs [] := by
  have z := r.noO h
  rw [z] at r
  exact r
theorem Reps.append {ds es : List D} {vs us : List V} : Reps T B H F ds vs [] → Reps T B H F es us [] → Reps T B H F (ds ++ es) (vs ++ us) [] := by
  intro a b
  induction ds generalizing vs with
  | nil => cases a; exact b
  | cons d ds ih =>
    cases a with
    | cons r rs e =>
      obtain ⟨e1, e2⟩ := List.append_eq_nil_iff.mp e.symm
      subst e1 e2
      exact .cons r (ih rs) rfl
theorem Reps.get {ds : List D} {vs : List V} {g : List Addr} {i : Nat} {d : D} : Reps T B H F ds vs g → ds[i]? = some d → ∃ v g', vs[i]? = some v ∧ Rep T B H F d v g' := by
  intro a b
  induction ds generalizing vs g i with
  | nil => simp at b
  | cons x ds ih =>
    cases a with
    | cons r rs e =>
      cases i with
      | zero =>
        have e1 : x = d := by simpa using b
        subst e1
        exact ⟨_, _, rfl, r⟩
      | succ i =>
        obtain ⟨v, g', h1, h2⟩ := ih rs (by simpa using b)
        exact ⟨v, g', by simpa using h1, h2⟩
theorem rep_v {d : D} {v : V} {g : List Addr} (r : Rep T B H F d v g) (h : allF Cs.noOw d = true) : Rep T B H F d v [] := by
  have z := r.noO h
  rw [z] at r
  exact r
end
abbrev lim : Nat := 100000
theorem lim_le {n : Nat} (h : n ≤ lim) : n ≤ sizeLine := Nat.le_trans h (by decide)
theorem lim_lt {n : Nat} (h : n < lim) : n < sizeLine := Nat.lt_of_lt_of_le h (by decide)
def eqD (d e : D) : Bool := PyData.eqv (toPy d) (toPy e)
def pAdd : D → D → PR
  | .int i, .int j => .sc (.int (i + j))
  | .str a, .str b => if a.length + b.length ≤ lim then .sc (.str (a ++ b)) else .bad
  | .lst o xs, .lst o' ys => if (o ≠ .ro ∧ o' ≠ .ro) ∧ (allFs noOw xs = true ∧ allFs noOw ys = true) ∧ xs.length + ys.length ≤ lim then .nl (xs ++ ys) else .bad
  | _, _ => .bad
def pSub : D → D → PR
  | .int i, .int j => .sc (.int (i - j))
  | _, _ => .bad
def pMul : D → D → PR
  | .int i, .int j => if (-(2 ^ 64) < i ∧ i < 2 ^ 64) ∨ (-(2 ^ 64) < j ∧ j < 2 ^ 64) then .sc (.int (i * j)) else .bad
  | _, _ => .bad
def pFdiv : D → D → PR
  | .int i, .int j => if 0 < j ∧ j < 1073741824 then .sc (.int (i / j)) else .bad
  | _, _ => .bad
def pMod : D → D → PR
  | .int i, .int j => if 0 < j then .sc (.int (i % j)) else .bad
  | _, _ => .bad
def pPow : D → D → PR
  | .int i, .int j => if 0 ≤ j ∧ j ≤ 1000000 ∧ i.natAbs < 2 ^ 64 then .sc (.int (i ^ j.toNat)) else .bad
  | _, _ => .bad
def pShl : D → D → PR
  | .int i, .int j => if 0 ≤ j ∧ j ≤ 1000000 ∧ i.natAbs < 2 ^ 64 then .sc (.int (i * 2 ^ j.toNat)) else .bad
  | _, _ => .bad
def pShr : D → D → PR
  | .int i, .int j => if 0 ≤ j then .sc (.int (i / 2 ^ j.toNat)) else .bad
  | _, _ => .bad
def pBand : D → D → PR
  | .int i, .int j => .sc (.int (Builtin.bitAnd i j))
  | _, _ => .bad
def pBor : D → D → PR
  | .int i, .int j => .sc (.int (Builtin.bitOr i j))
  | _, _ => .bad
def pEq (d e : D) : PR := if dep d ≤ 60 ∧ dep e ≤ 60 then .sc (.bl (eqD d e)) else .bad
def pNe (d e : D) : PR := if dep d ≤ 60 ∧ dep e ≤ 60 then .sc (.bl (!eqD d e)) else .bad
def pLt : D → D → PR
  | .int i, .int j => .sc (.bl (decide (i < j)))
  | _, _ => .bad
def pLe : D → D → PR
  | .int i, .int j => .sc (.bl (decide (i ≤ j)))
  | _, _ => .bad
def pGt : D → D → PR
  | .int i, .int j => .sc (.bl (decide (j < i)))
  | _, _ => .bad
def pGe : D → D → PR
  | .int i, .int j => .sc (.bl (decide (j ≤ i)))
  | _, _ => .bad
def flat : D → Bool
  | .non => true
  | .bl _ => true
  | .int _ => true
  | .str _ => true
  | _ => false
def pIn (d : D) : D → PR
  | .lst _ xs => if dep d ≤ 60 ∧ deps xs ≤ 59 then .sc (.bl (xs.any fun y => eqD y d)) else .bad
  | .tup xs => if flat d = true ∧ xs.all flat = true then .sc (.bl (xs.any fun y => eqD y d)) else .bad
  | .str z => match d with
    | .str c => if c.cps.size = 1 then .sc (.bl (decide (c.cps.getD 0 0 ∈ z.cps.toList))) else .bad
    | _ => .bad
  | _ => .bad
def pNotIn (d : D) : D → PR
  | .lst _ xs => if dep d ≤ 60 ∧ deps xs ≤ 59 then .sc (.bl (!xs.any fun y => eqD y d)) else .bad
  | .tup xs => if flat d = true ∧ xs.all flat = true then .sc (.bl (!xs.any fun y => eqD y d)) else .bad
  | .str z => match d with
    | .str c => if c.cps.size = 1 then .sc (.bl (!decide (c.cps.getD 0 0 ∈ z.cps.toList))) else .bad
    | _ => .bad
  | _ => .bad
def pIx : D → D → PR
  | .lst _ xs, .int i => match atI xs i with
    | some d => if allF noOw d = true then .sc d else .bad
    | none => .bad
  | .tup xs, .int i => match atI xs i with
    | some d => if allF noOw d = true then .sc d else .bad
    | none => .bad
  | .str z, .int i => if z.length ≤ lim then match atI z.cps.toList i with
    | some c => .sc (.str ⟨#[c]⟩)
    | none => .bad
    else .bad
  | _, _ => .bad
theorem strOk_append {a b : Str} (ha : PyData.strOk a = true) (hb : PyData.strOk b = true) : PyData.strOk (a ++ b) = true := by
  unfold PyData.strOk at *
  have e : (a ++ b).cps = a.cps ++ b.cps := rfl
  rw [e, Array.all_append, ha, hb]
  rfl
theorem strOk_sign {z : Str} {c : Nat} (h : PyData.strOk z = true) (hc : c ∈ z.cps.toList) : PyData.strOk ⟨#[c]⟩ = true := by
  unfold PyData.strOk at *
  rw [Array.all_eq_true'] at h
  have := h c (by simpa using hc)
  simpa using this
section
variable {T : Tx}
theorem p2_int {g : Int → Int → V} {gd : Int → Int → D} {p : D → D → PR} (hp : ∀ i j, p (.int i) (.int j) = .sc (gd i j)) (hn : ∀ d e, (∀ i j, ¬ (d = .int i ∧ e = .int j)) → p d e = .bad) (hg : ∀ B H F i j, Rep T B H F (gd i j) (g i j) []) : P2 T (rI0 g) p := by
  intro B H F d v k e u k' eF eB r1 r2
  by_cases hd : ∃ i j, d = .int i ∧ e = .int j
  · obtain ⟨i, j, rfl, rfl⟩ := hd
    cases r1
    cases r2
    rw [hp]
    exact ⟨g i j, hg B H F i j, fun Q q => ⟨i, j, rfl, rfl, q⟩⟩
  · rw [hn d e fun i j z => hd ⟨i, j, z⟩]
    trivial
theorem p2_intC {C : Int → Int → Prop} {g : Int → Int → V} {gd : Int → Int → D} {p : D → D → PR} (hp : ∀ i j, p (.int i) (.int j) = .bad ∨ (C i j ∧ p (.int i) (.int j) = .sc (gd i j))) (hn : ∀ d e, (∀ i j, ¬ (d = .int i ∧ e = .int j)) → p d e = .bad) (hg : ∀ B H F i j, Rep T B H F (gd i j) (g i j) []) : P2 T (rI C g) p := by
  intro B H F d v k e u k' eF eB r1 r2
  by_cases hd : ∃ i j, d = .int i ∧ e = .int j
  · obtain ⟨i, j, rfl, rfl⟩ := hd
    cases r1
    cases r2
    rcases hp i j with h | ⟨c, h⟩
    · rw [h]; trivial
    · rw [h]
      exact ⟨g i j, hg B H F i j, fun Q q => ⟨i, j, rfl, rfl, c, q⟩⟩
  · rw [hn d e fun i j z => hd ⟨i, j, z⟩]
    trivial
end
end Cs
namespace Cs
open PySem L2 Evl
section
variable {X : Cx} {G : Gx} {W : WX} {t1 t2 : List Nat} {a b : Expr} {o1 o2 : Opd} {pos : Pos}
def rAddA : R2 := fun x y H Q => rI0 (fun i j => V.int (i + j)) x y H Q ∨ ((∃ i j, x = .str i ∧ y = .str j ∧ i.length + j.length ≤ sizeLine ∧ Q (.str (i ++ j)) H) ∨ rCat x y H Q)
theorem op_addA : OpR X (binaryOp .Add) rAddA := op_alt op_add (op_alt op_add_str op_cat)
theorem p2_add {T : Tx} : P2 T rAddA pAdd := by
  intro B H F d v g e u k eF eB r1 r2
  cases d with
  | int i =>
    cases e with
    | int j =>
      cases r1; cases r2
      exact ⟨_, .int _, fun Q q => .inl ⟨i, j, rfl, rfl, q⟩⟩
    | _ => trivial
  | str x =>
    cases e with
    | str y =>
      unfold pAdd
      try dsimp only
      split
      · rename_i hl
        cases r1 with
        | str _ h1 =>
          cases r2 with
          | str _ h2 => exact ⟨_, .str _ (strOk_append h1 h2), fun Q q => .inr (.inl ⟨x, y, rfl, rfl, lim_le hl, q⟩)⟩
      · trivial
    | _ => trivial
  | lst o xs =>
    cases e with
    | lst o' ys =>
      unfold pAdd
      try dsimp only
      split
      · rename_i hl
        obtain ⟨⟨n1, n2⟩, ⟨w1, w2⟩, hl⟩ := hl
        obtain ⟨p, vs, g1, rfl, _, rp, hh⟩ := r1.list eF eB
        obtain ⟨q, us, g2, rfl, _, rq, hh2⟩ := r2.list eF eB
        refine ⟨vs ++ us, (rp.noOw w1).append (rq.noOw w2), fun Q k => .inr (.inr ⟨p, q, vs, us, rfl, rfl, hh n1, hh2 n2, ?_, k⟩)⟩
        rw [← rp.len, ← rq.len]
        exact lim_le hl
      · trivial
    | _ => trivial
  | _ => trivial
theorem g_add (h1 : GO X G W t1 a o1) (h2 : GO X G W t2 b o2) : GE X G W (t1 ++ t2) (.BinOp a .Add b pos) (dOp2 pAdd o1 o2) := top_of p2_add h1 h2 fun _ _ ha hb => pe_op op_addA ha hb
theorem p2_sub {T : Tx} : P2 T (rI0 fun i j => .int (i - j)) pSub := p2_int (gd := fun i j => .int (i - j)) (fun _ _ => rfl) (fun d e h => by cases d <;> cases e <;> first | rfl | exact absurd ⟨rfl, rfl⟩ (h _ _)) fun _ _ _ _ _ => .int _
theorem g_sub (h1 : GO X G W t1 a o1) (h2 : GO X G W t2 b o2) : GE X G W (t1 ++ t2) (.BinOp a .Sub b pos) (dOp2 pSub o1 o2) := top_of p2_sub h1 h2 fun _ _ ha hb => pe_op op_sub ha hb
theorem p2_mul {T : Tx} : P2 T (rI CMul fun i j => .int (i * j)) pMul := p2_intC (gd := fun i j => .int (i * j)) (fun i j => by
  unfold pMul
  try dsimp only
  split
  · rename_i h; exact .inr ⟨h, rfl⟩
  · exact .inl rfl) (fun d e h => by cases d <;> cases e <;> first | rfl | exact absurd ⟨rfl, rfl⟩ (h _ _)) fun _ _ _ _ _ => .int _
theorem g_mul (h1 : GO X G W t1 a o1) (h2 : GO X G W t2 b o2) : GE X G W (t1 ++ t2) (.BinOp a .Mult b pos) (dOp2 pMul o1 o2) := top_of p2_mul h1 h2 fun _ _ ha hb => pe_op op_mul ha hb
theorem p2_fdiv {T : Tx} : P2 T (rI CDiv fun i j => .int (i / j)) pFdiv := p2_intC (gd := fun i j => .int (i / j)) (fun i j => by
  unfold pFdiv
  try dsimp only
  split
  · rename_i h; exact .inr ⟨h, rfl⟩
  · exact .inl rfl) (fun d e h => by cases d <;> cases e <;> first | rfl | exact absurd ⟨rfl, rfl⟩ (h _ _)) fun _ _ _ _ _ => .int _
theorem g_fdiv (h1 : GO X G W t1 a o1) (h2 : GO X G W t2 b o2) : GE X G W (t1 ++ t2) (.BinOp a .FloorDiv b pos) (dOp2 pFdiv o1 o2) := top_of p2_fdiv h1 h2 fun _ _ ha hb => pe_op op_fdiv ha hb
theorem p2_mod {T : Tx} : P2 T (rI (fun _ j => 0 < j) fun i j => .int (i % j)) pMod := p2_intC (gd := fun i j => .int (i % j)) (fun i j => by
  unfold pMod
  try dsimp only
  split
  · rename_i h; exact .inr ⟨h, rfl⟩
  · exact .inl rfl) (fun d e h => by cases d <;> cases e <;> first | rfl | exact absurd ⟨rfl, rfl⟩ (h _ _)) fun _ _ _ _ _ => .int _
theorem g_mod (h1 : GO X G W t1 a o1) (h2 : GO X G W t2 b o2) : GE X G W (t1 ++ t2) (.BinOp a .Mod b pos) (dOp2 pMod o1 o2) := top_of p2_mod h1 h2 fun _ _ ha hb => pe_op op_mod ha hb
theorem p2_pow {T : Tx} : P2 T (rI CPow fun i j => .int (i ^ j.toNat)) pPow := p2_intC (gd := fun i j => .int (i ^ j.toNat)) (fun i j => by
  unfold pPow
  try dsimp only
  split
  · rename_i h; exact .inr ⟨h, rfl⟩
  · exact .inl rfl) (fun d e h => by cases d <;> cases e <;> first | rfl | exact absurd ⟨rfl, rfl⟩ (h _ _)) fun _ _ _ _ _ => .int _
theorem g_pow (h1 : GO X G W t1 a o1) (h2 : GO X G W t2 b o2) : GE X G W (t1 ++ t2) (.BinOp a .Pow b pos) (dOp2 pPow o1 o2) := top_of p2_pow h1 h2 fun _ _ ha hb => pe_op op_pow ha hb
theorem p2_shl {T : Tx} : P2 T (rI CPow fun i j => .int (i * 2 ^ j.toNat)) pShl := p2_intC (gd := fun i j => .int (i * 2 ^ j.toNat)) (fun i j => by
  unfold pShl
  try dsimp only
  split
  · rename_i h; exact .inr ⟨h, rfl⟩
  · exact .inl rfl) (fun d e h => by cases d <;> cases e <;> first | rfl | exact absurd ⟨rfl, rfl⟩ (h _ _)) fun _ _ _ _ _ => .int _
theorem g_shl (h1 : GO X G W t1 a o1) (h2 : GO X G W t2 b o2) : GE X G W (t1 ++ t2) (.BinOp a .LShift b pos) (dOp2 pShl o1 o2) := top_of p2_shl h1 h2 fun _ _ ha hb => pe_op op_shl ha hb
theorem p2_shr {T : Tx} : P2 T (rI (fun _ j => 0 ≤ j) fun i j => .int (i / 2 ^ j.toNat)) pShr := p2_intC (gd := fun i j => .int (i / 2 ^ j.toNat)) (fun i j => by
  unfold pShr
  try dsimp only
  split
  · rename_i h; exact .inr ⟨h, rfl⟩
  · exact .inl rfl) (fun d e h => by cases d <;> cases e <;> first | rfl | exact absurd ⟨rfl, rfl⟩ (h _ _)) fun _ _ _ _ _ => .int _
theorem g_shr (h1 : GO X G W t1 a o1) (h2 : GO X G W t2 b o2) : GE X G W (t1 ++ t2) (.BinOp a .RShift b pos) (dOp2 pShr o1 o2) := top_of p2_shr h1 h2 fun _ _ ha hb => pe_op op_shr ha hb
theorem p2_band {T : Tx} : P2 T (rI0 fun i j => .int (Builtin.bitAnd i j)) pBand := p2_int (gd := fun i j => .int (Builtin.bitAnd i j)) (fun _ _ => rfl) (fun d e h => by cases d <;> cases e <;> first | rfl | exact absurd ⟨rfl, rfl⟩ (h _ _)) fun _ _ _ _ _ => .int _
theorem g_band (h1 : GO X G W t1 a o1) (h2 : GO X G W t2 b o2) : GE X G W (t1 ++ t2) (.BinOp a .BitAnd b pos) (dOp2 pBand o1 o2) := top_of p2_band h1 h2 fun _ _ ha hb => pe_op op_and ha hb
theorem p2_bor {T : Tx} : P2 T (rI0 fun i j => .int (Builtin.bitOr i j)) pBor := p2_int (gd := fun i j => .int (Builtin.bitOr i j)) (fun _ _ => rfl) (fun d e h => by cases d <;> cases e <;> first | rfl | exact absurd ⟨rfl, rfl⟩ (h _ _)) fun _ _ _ _ _ => .int _
theorem g_bor (h1 : GO X G W t1 a o1) (h2 : GO X G W t2 b o2) : GE X G W (t1 ++ t2) (.BinOp a .BitOr b pos) (dOp2 pBor o1 o2) := top_of p2_bor h1 h2 fun _ _ ha hb => pe_op op_or ha hb
theorem p2_eq {T : Tx} : P2 T (rEqD T.K) pEq := by
  intro B H F d v g e u k eF eB r1 r2
  unfold pEq
  try dsimp only
  split
  · rename_i h
    obtain ⟨h1, s1⟩ := r1.shaped eF eB h.1
    obtain ⟨h2, s2⟩ := r2.shaped eF eB h.2
    exact ⟨_, .bl _, fun Q q => ⟨_, _, h1, h2, s1, s2, q⟩⟩
  · trivial
theorem p2_ne {T : Tx} : P2 T (rNeD T.K) pNe := by
  intro B H F d v g e u k eF eB r1 r2
  unfold pNe
  try dsimp only
  split
  · rename_i h
    obtain ⟨h1, s1⟩ := r1.shaped eF eB h.1
    obtain ⟨h2, s2⟩ := r2.shaped eF eB h.2
    exact ⟨_, .bl _, fun Q q => ⟨_, _, h1, h2, s1, s2, q⟩⟩
  · trivial
theorem g_eq (hu : X.A.units + 65 < cLine) (h1 : GO X G W t1 a o1) (h2 : GO X G W t2 b o2) : GE X G W (t1 ++ t2) (.Compare a [.Eq] [b] pos) (dOp2 pEq o1 o2) := top_of p2_eq h1 h2 fun _ _ ha hb => pe_cmpR (op_eqD (by omega)) ha hb (nomark _)
theorem gt_eq (hu : X.A.units + 65 < cLine) (h1 : GO X G W t1 a o1) (h2 : GO X G W t2 b o2) : GT X G W (t1 ++ t2) (.Compare a [.Eq] [b] pos) (dB (dOp2 pEq o1 o2)) := topT_of p2_eq h1 h2 fun _ _ ha hb => pt_cmpR (op_eqD (by omega)) ha hb (nomark _)
theorem gt_ne (hu : X.A.units + 65 < cLine) (h1 : GO X G W t1 a o1) (h2 : GO X G W t2 b o2) : GT X G W (t1 ++ t2) (.Compare a [.NotEq] [b] pos) (dB (dOp2 pNe o1 o2)) := topT_of p2_ne h1 h2 fun _ _ ha hb => pt_cmpR (op_neD (by omega)) ha hb (nomark _)
theorem p2_lt {T : Tx} : P2 T (rI0 fun i j => .bl (decide (i < j))) pLt := p2_int (gd := fun i j => .bl (decide (i < j))) (fun _ _ => rfl) (fun d e h => by cases d <;> cases e <;> first | rfl | exact absurd ⟨rfl, rfl⟩ (h _ _)) fun _ _ _ _ _ => .bl _
theorem gt_lt (h1 : GO X G W t1 a o1) (h2 : GO X G W t2 b o2) : GT X G W (t1 ++ t2) (.Compare a [.Lt] [b] pos) (dB (dOp2 pLt o1 o2)) := topT_of p2_lt h1 h2 fun _ _ ha hb => pt_cmpR op_lt ha hb (nomark _)
theorem p2_le {T : Tx} : P2 T (rI0 fun i j => .bl (decide (i ≤ j))) pLe := p2_int (gd := fun i j => .bl (decide (i ≤ j))) (fun _ _ => rfl) (fun d e h => by cases d <;> cases e <;> first | rfl | exact absurd ⟨rfl, rfl⟩ (h _ _)) fun _ _ _ _ _ => .bl _
theorem p2_gt {T : Tx} : P2 T (rI0 fun i j => .bl (decide (j < i))) pGt := p2_int (gd := fun i j => .bl (decide (j < i))) (fun _ _ => rfl) (fun d e h => by cases d <;> cases e <;> first | rfl | exact absurd ⟨rfl, rfl⟩ (h _ _)) fun _ _ _ _ _ => .bl _
theorem gt_gt (h1 : GO X G W t1 a o1) (h2 : GO X G W t2 b o2) : GT X G W (t1 ++ t2) (.Compare a [.Gt] [b] pos) (dB (dOp2 pGt o1 o2)) := topT_of p2_gt h1 h2 fun _ _ ha hb => pt_cmpR op_gt ha hb (nomark _)
theorem p2_ge {T : Tx} : P2 T (rI0 fun i j => .bl (decide (j ≤ i))) pGe := p2_int (gd := fun i j => .bl (decide (j ≤ i))) (fun _ _ => rfl) (fun d e h => by cases d <;> cases e <;> first | rfl | exact absurd ⟨rfl, rfl⟩ (h _ _)) fun _ _ _ _ _ => .bl _
theorem gt_ge (h1 : GO X G W t1 a o1) (h2 : GO X G W t2 b o2) : GT X G W (t1 ++ t2) (.Compare a [.GtE] [b] pos) (dB (dOp2 pGe o1 o2)) := topT_of p2_ge h1 h2 fun _ _ ha hb => pt_cmpR op_ge ha hb (nomark _)
theorem flat_v {T : Tx} {B H F : Hp} {d : D} {v : V} {g : List Addr} (r : Rep T B H F d v g) (h : flat d = true) : flatV v = true := by
  cases r <;> first | rfl | (simp [flat] at h; done)
theorem eq_v {T : Tx} {B H F : Hp} {d e : D} {v u : V} {g k : List Addr} (r : Rep T B H F d v g) (q : Rep T B H F e u k) (h : flat d = true) (h2 : flat e = true) : eqV v u = eqD d e := by
  cases r <;> cases q <;> first | (simp [flat] at h; done) | (simp [flat] at h2; done) | (simp [eqV, eqD, toPy, PyData.eqv]; done)
theorem any_v {T : Tx} {B H F : Hp} {d : D} {v : V} {g : List Addr} (r : Rep T B H F d v g) (h : flat d = true) : ∀ {xs : List D} {vs : List V} {k : List Addr}, Reps T B H F xs vs k → xs.all flat = true → vs.all flatV = true ∧ inV v vs = xs.any fun y => eqD y d
  | _, _, _, .nil, _ => ⟨rfl, rfl⟩
  | _, _, _, .cons (d := y) (ds := ys) (v := w) (vs := ws) q qs e, hx => by
    have hx' : flat y = true ∧ ys.all flat = true := by simpa using hx
    obtain ⟨a1, a2⟩ := any_v r h qs hx'.2
    refine ⟨by rw [List.all_cons, flat_v q hx'.1, a1]; rfl, ?_⟩
    unfold inV at a2 ⊢
    rw [List.any_cons, List.any_cons, eq_v q r hx'.1 h, a2]
theorem any_py {d : D} : ∀ xs : List D, ((toPys xs).any fun z => PyData.eqv z (toPy d)) = xs.any fun y => eqD y d
  | [] => rfl
  | x :: xs => by
    rw [toPys, List.any_cons, List.any_cons, any_py xs]
    rfl
def rInA (K : PySem.W.Frag) : R2 := fun x y H Q => rInD K x y H Q ∨ (rIn K false x y H Q ∨ ∃ (c : Nat) (z : Str), x = .str ⟨#[c]⟩ ∧ y = .str z ∧ Q (.bl (decide (c ∈ z.cps.toList))) H)
def rNotInA (K : PySem.W.Frag) : R2 := fun x y H Q => rNotInD K x y H Q ∨ (rIn K true x y H Q ∨ ∃ (c : Nat) (z : Str), x = .str ⟨#[c]⟩ ∧ y = .str z ∧ Q (.bl (!decide (c ∈ z.cps.toList))) H)
theorem one_sign {c : Str} (h : c.cps.size = 1) : c = ⟨#[c.cps.getD 0 0]⟩ := by
  obtain ⟨⟨l⟩⟩ := c
  match l, h with
  | [x], _ => rfl
theorem p2_in {T : Tx} : P2 T (rInA T.K) pIn := by
  intro B H F d v g e u k eF eB r1 r2
  cases e with
  | lst o xs =>
    unfold pIn
    try dsimp only
    split
    · rename_i h
      obtain ⟨h1, s1⟩ := r1.shaped eF eB h.1
      obtain ⟨h2, s2⟩ := r2.shaped eF eB (by rw [dep]; omega)
      rw [toPy] at h2 s2
      refine ⟨_, .bl _, fun Q q => .inl ⟨_, _, h1, h2, s1, s2, ?_⟩⟩
      rw [any_py]
      exact q
    · trivial
  | tup xs =>
    unfold pIn
    try dsimp only
    split
    · rename_i h
      obtain ⟨p, vs, g', rfl, sq, rs⟩ := r2.tuple eF
      obtain ⟨a1, a2⟩ := any_v r1 h.1 rs h.2
      refine ⟨_, .bl _, fun Q q => .inr (.inl ⟨p, vs, rfl, .inr sq, flat_v r1 h.1, a1, ?_⟩)⟩
      show Q (.bl (inV v vs)) H
      rw [a2]
      exact q
    · trivial
  | str z =>
    cases d with
    | str c =>
      unfold pIn
      dsimp only
      split
      · rename_i h
        cases r1
        cases r2
        refine ⟨_, .bl _, fun Q q => .inr (.inr ⟨_, z, congrArg V.str (one_sign h), rfl, q⟩)⟩
      · trivial
    | _ => trivial
  | _ => trivial
theorem p2_notIn {T : Tx} : P2 T (rNotInA T.K) pNotIn := by
  intro B H F d v g e u k eF eB r1 r2
  cases e with
  | lst o xs =>
    unfold pNotIn
    try dsimp only
    split
    · rename_i h
      obtain ⟨h1, s1⟩ := r1.shaped eF eB h.1
      obtain ⟨h2, s2⟩ := r2.shaped eF eB (by rw [dep]; omega)
      rw [toPy] at h2 s2
      refine ⟨_, .bl _, fun Q q => .inl ⟨_, _, h1, h2, s1, s2, ?_⟩⟩
      rw [any_py]
      exact q
    · trivial
  | tup xs =>
    unfold pNotIn
    try dsimp only
    split
    · rename_i h
      obtain ⟨p, vs, g', rfl, sq, rs⟩ := r2.tuple eF
      obtain ⟨a1, a2⟩ := any_v r1 h.1 rs h.2
      refine ⟨_, .bl _, fun Q q => .inr (.inl ⟨p, vs, rfl, .inr sq, flat_v r1 h.1, a1, ?_⟩)⟩
      show Q (.bl (!inV v vs)) H
      rw [a2]
      exact q
    · trivial
  | str z =>
    cases d with
    | str c =>
      unfold pNotIn
      dsimp only
      split
      · rename_i h
        cases r1
        cases r2
        refine ⟨_, .bl _, fun Q q => .inr (.inr ⟨_, z, congrArg V.str (one_sign h), rfl, q⟩)⟩
      · trivial
    | _ => trivial
  | _ => trivial
theorem gt_in (hu : X.A.units + 65 < cLine) (h1 : GO X G W t1 a o1) (h2 : GO X G W t2 b o2) (hm : behindInMarks .In b = false := by rfl) : GT X G W (t1 ++ t2) (.Compare a [.In] [b] pos) (dB (dOp2 pIn o1 o2)) :=
  topT_of p2_in h1 h2 fun _ _ ha hb => pt_cmpR (op_alt (op_inD hu) (op_alt op_in_seq op_in_sign)) ha hb hm
theorem gt_notIn (hu : X.A.units + 65 < cLine) (h1 : GO X G W t1 a o1) (h2 : GO X G W t2 b o2) (hm : behindInMarks .NotIn b = false := by rfl) : GT X G W (t1 ++ t2) (.Compare a [.NotIn] [b] pos) (dB (dOp2 pNotIn o1 o2)) :=
  topT_of p2_notIn h1 h2 fun _ _ ha hb => pt_cmpR (op_alt (op_notInD hu) (op_alt op_notIn_seq op_notIn_sign)) ha hb hm
theorem Reps.atI {T : Tx} {B H F : Hp} {ds : List D} {vs : List V} {g : List Addr} {i : Int} {d : D} (r : Reps T B H F ds vs g) (h : atI ds i = some d) : ∃ v g', L2.atI vs i = some v ∧ Rep T B H F d v g' := by
  unfold L2.atI at h ⊢
  rw [← r.len]
  cases e : ixN ds.length i with
  | none => rw [e] at h; cases h
  | some j =>
    rw [e] at h
    obtain ⟨v, g', h1, h2⟩ := r.get h
    exact ⟨v, g', h1, h2⟩
theorem atI_mem {α : Type} {xs : List α} {i : Int} {c : α} (h : atI xs i = some c) : c ∈ xs := by
  obtain ⟨j, _, h2, _⟩ := atI_get h
  exact List.mem_of_getElem? h2
theorem p2_ix {T : Tx} : P2 T (rIx T.K) pIx := by
  intro B H F d v g e u k eF eB r1 r2
  cases d with
  | lst o xs =>
    cases e with
    | int i =>
      unfold pIx
      dsimp only
      cases ea : L2.atI xs i with
      | none => trivial
      | some d =>
        dsimp only
        split
        · rename_i hn
          obtain ⟨p, vs, g1, rfl, sq, rp, _⟩ := r1.list eF eB
          obtain ⟨w, g', h1, h2⟩ := rp.atI ea
          cases r2
          exact ⟨w, rep_v h2 hn, fun Q q => .inl ⟨p, vs, i, w, rfl, rfl, sq, h1, q⟩⟩
        · trivial
    | _ => trivial
  | tup xs =>
    cases e with
    | int i =>
      unfold pIx
      dsimp only
      cases ea : L2.atI xs i with
      | none => trivial
      | some d =>
        dsimp only
        split
        · rename_i hn
          obtain ⟨p, vs, g1, rfl, sq, rp⟩ := r1.tuple eF
          obtain ⟨w, g', h1, h2⟩ := rp.atI ea
          cases r2
          exact ⟨w, rep_v h2 hn, fun Q q => .inr (.inl ⟨p, vs, i, w, rfl, rfl, sq, h1, q⟩)⟩
        · trivial
    | _ => trivial
  | str z =>
    cases e with
    | int i =>
      unfold pIx
      dsimp only
      split
      · rename_i hl
        cases ea : L2.atI z.cps.toList i with
        | none => trivial
        | some c =>
          cases r2
          cases r1 with
          | str _ hs => exact ⟨_, .str _ (strOk_sign hs (atI_mem ea)), fun Q q => .inr (.inr ⟨z, i, c, rfl, rfl, lim_le hl, ea, q⟩)⟩
      · trivial
    | _ => trivial
  | _ => trivial
theorem g_ix (h1 : GO X G W t1 a o1) (h2 : GO X G W t2 b o2) (hs : PlainIx b := by intro _ _; rfl) : GE X G W (t1 ++ t2) (.Subscript a b pos) (dOp2 pIx o1 o2) := top_of p2_ix h1 h2 fun _ _ ha hb => pe_ix ix_seq ha hb hs
end
end Cs
namespace Cs
open PySem L2 Evl
def dNot (f : M Bool) : M Bool := bnd f fun b => ret (!b)
def dAnd (f g : M Bool) : M Bool := bnd f fun b => if b = true then g else ret false
def dOr (f g : M Bool) : M Bool := bnd f fun b => if b = true then ret true else g
def dNotV (f : M D) : M D := bnd (dB f) fun b => ret (.bl (!b))
def dAndV (f g : M D) : M D := bnd (dB f) fun b => if b = true then g else ret (.bl false)
def dOrV (f g : M D) : M D := bnd (dB f) fun b => if b = true then ret (.bl true) else g
def dIfE (c : M Bool) (f g : M D) : M D := bnd c fun b => if b = true then f else g
def tru : D → Option Bool
  | .non => some false
  | .bl b => some b
  | .int i => some (i != 0)
  | .str s => if s.length ≤ lim then some ((s.length : Int) != 0) else none
  | .lst _ xs => some (!xs.isEmpty)
  | .tup xs => some (!xs.isEmpty)
  | .dct _ ks _ => some (!ks.isEmpty)
  | _ => none
def dTru : Opd → M Bool
  | .v f => bnd f fun d => match tru d with
    | some b => ret b
    | none => bad
  | .p i => bnd (dPk i) fun d => match tru d with
    | some b => ret b
    | none => bad
section
variable {T : Tx} {B H F : Hp}
theorem isEmpty_reps {ds : List D} {vs : List V} {g : List Addr} (r : Reps T B H F ds vs g) : (!ds.isEmpty) = !vs.isEmpty := by
  cases r <;> rfl
theorem zip_empty : ∀ {ks : List Str} {vs : List V}, ks.length = vs.length → (!ks.isEmpty) = !((ks.map (Sum.inr : Str → Key)).zip vs).isEmpty
  | [], [], _ => rfl
  | _ :: _, _ :: _, _ => rfl
theorem tru_ok {d : D} {v : V} {g : List Addr} {b : Bool} (eF : Ex F H) (eB : Ex B H) (r : Rep T B H F d v g) (h : tru d = some b) : TruV T.K v H b := by
  cases r with
  | non => exact (Option.some.inj h).symm
  | bl c => exact (Option.some.inj h).symm
  | int i => exact (Option.some.inj h).symm
  | str s hs =>
    unfold tru at h
    dsimp only at h
    split at h
    · rename_i hl; exact ⟨lim_le hl, (Option.some.inj h).symm⟩
    · cases h
  | cls _ => cases h
  | tup q r => exact .inr (.inl ⟨_, ex_t eF q.sq, by rw [← isEmpty_reps r]; exact (Option.some.inj h).symm⟩)
  | lstF q r => exact .inl ⟨_, sq_of (eF _ _ q), by rw [← isEmpty_reps r]; exact (Option.some.inj h).symm⟩
  | lstR q r => exact .inl ⟨_, ex_l eF q, by rw [← isEmpty_reps r]; exact (Option.some.inj h).symm⟩
  | lstB q r => exact .inl ⟨_, sq_of (eB _ _ q), by rw [← isEmpty_reps r]; exact (Option.some.inj h).symm⟩
  | lstO q r e => exact .inl ⟨_, sq_of q, by rw [← isEmpty_reps r]; exact (Option.some.inj h).symm⟩
  | dctF q l r => exact .inr (.inr ⟨_, eF _ _ q, (Option.some.inj h).symm.trans (zip_empty l)⟩)
  | dctB q l r => exact .inr (.inr ⟨_, eB _ _ q, (Option.some.inj h).symm.trans (zip_empty l)⟩)
  | dctO q l r e => exact .inr (.inr ⟨_, q, (Option.some.inj h).symm.trans (zip_empty l)⟩)
  | objF _ _ _ _ _ => cases h
  | objB _ _ _ _ _ => cases h
  | objO _ _ _ _ _ _ => cases h
end
section
variable {X : Cx} {G : Gx} {W : WX} {tc t1 t2 t3 : List Nat} {a b c : Expr} {pos : Pos} {rest : List Expr} {f g : M Bool} {u w : M D}
theorem gt_val (h : GE X G W tc a u) (he : ∀ whole, isTrue a X.env whole = (do let v ← whole; standAt a.pos; holding [v] (truthy v)) := by intro _; rfl) : GT X G W tc a (dB u) := pt_mono (pt_val h he) fun _ _ _ h => tB_core h
theorem gt_tru {o : Opd} (h : GO X G W tc a o) (he : ∀ whole, isTrue a X.env whole = (do let v ← whole; standAt a.pos; holding [v] (truthy v)) := by intro _; rfl) : GT X G W tc a (dTru o) :=
  pt_mono (pt_truth h.pe he) fun σ H Q ⟨B, s, e1, e2, rl, hp⟩ => by
    subst e1 e2
    cases o with
    | v f =>
      refine seqE1 rl hp fun d v s1 g _ hs r1 t a h => ?_
      cases e : tru d with
      | none => rw [e] at h; exact h.elim
      | some b =>
        rw [e] at h
        exact ⟨b, tru_ok r1.exF r1.exB t.rep e, h s1 rfl hs r1 a.drop0⟩
    | p i =>
      obtain ⟨d, ed, hp⟩ := pk_bnd hp
      obtain ⟨v, e2, rp⟩ := rl.sl i d (slot_some ed)
      refine ⟨v, e2, ?_⟩
      cases e : tru d with
      | none => rw [e] at hp; exact hp.elim
      | some b =>
        rw [e] at hp
        exact ⟨b, tru_ok rl.exF rl.exB rp e, hp s rfl rfl rl (Goes.refl)⟩
theorem gt_not (h : GT X G W tc a f) : GT X G W tc (.UnaryOp .Not a pos) (dNot f) :=
  pt_mono (pt_not h) fun σ H Q ⟨B, s, e1, e2, rl, hp⟩ => by
    subst e1 e2
    refine ⟨B, s, rfl, rfl, rl, hp.bnd.imp (fun d ρ1 ⟨_, h⟩ => h) fun _ _ _ _ h => h⟩
theorem gw_one (op : BoolOp) (h : GT X G W tc a f) : GW X G W tc (.BoolOp op [a] pos) f := by
  cases op with
  | And => exact pw_and1 h
  | Or => exact pw_or1 h
theorem exE.wk {T : Tx} {B : Hp} {s : S5} {cc : Str} {ks : List Str} {xs : List D} {ρ : En} {u1 u2 : List Nat} (hw : ∀ j ∈ u1, j ∈ u2) (h : exE T W B u2 s cc ks xs ρ) : exE T W B u1 s cc ks xs ρ := fun cls dd s' e1 e2 r x t => h cls dd s' e1 e2 r x (t.wk hw)
theorem memL {j : Nat} {u1 u2 : List Nat} (h : j ∈ u1) : j ∈ u1 ++ u2 := List.mem_append.mpr (.inl h)
theorem memR {j : Nat} {u1 u2 : List Nat} (h : j ∈ u2) : j ∈ u1 ++ u2 := List.mem_append.mpr (.inr h)
theorem seqTT {T : Tx} {B : Hp} {s : S5} {k : Bool → M Bool} {Q Q1 : Bool → Hp → Prop} (r : Okk T B s) (hp : Post (okT T B (t1 ++ t2) s Q) (exE T W B (t1 ++ t2) s) (bnd f k s.ρ))
    (hk : ∀ d s1, s1.σ = s.σ → Okk T B s1 → Post (okT T B t2 s1 Q) (exE T W B t2 s1) (k d s1.ρ) → Q1 d s1.H) : tDT T W t1 f s.σ s.H Q1 :=
  seqT r hp fun d s1 _ hs r1 a h => hk d s1 hs r1 (h.imp (fun c ρ q s' e1 e2 r' b => q s' e1 (e2.trans hs) r' (a.trans0 b)) fun _ _ _ _ q => exE.re a hs q)
theorem gw_and (h1 : GT X G W t1 a f) (h2 : GW X G W t2 (.BoolOp .And (b :: rest) pos) g) : GW X G W (t1 ++ t2) (.BoolOp .And (a :: b :: rest) pos) (dAnd f g) :=
  pw_mono (pw_and h1 h2) fun σ H Q ⟨B, s, e1, e2, rl, hp⟩ => by
    subst e1 e2
    refine seqTT rl hp fun d s1 hs r1 h => ?_
    cases d with
    | true => exact ⟨B, s1, hs, rfl, r1, h⟩
    | false => exact h s1 rfl rfl r1 Goes.refl
theorem gw_or (h1 : GT X G W t1 a f) (h2 : GW X G W t2 (.BoolOp .Or (b :: rest) pos) g) : GW X G W (t1 ++ t2) (.BoolOp .Or (a :: b :: rest) pos) (dOr f g) :=
  pw_mono (pw_or h1 h2) fun σ H Q ⟨B, s, e1, e2, rl, hp⟩ => by
    subst e1 e2
    refine seqTT rl hp fun d s1 hs r1 h => ?_
    cases d with
    | false => exact ⟨B, s1, hs, rfl, r1, h⟩
    | true => exact h s1 rfl rfl r1 Goes.refl
theorem gt_w (h : GW X G W tc a f) : GT X G W tc a f := h.pt
theorem seqBE {T : Tx} {B : Hp} {s : S5} {k : Bool → M D} {Q : VK} {Q1 : VK} (r : Okk T B s) (hp : Post (okE T B (t1 ++ t2) s Q) (exE T W B (t1 ++ t2) s) (bnd (dB u) k s.ρ))
    (hk : ∀ c s1, s1.σ = s.σ → Okk T B s1 → Post (okE T B t2 s1 Q) (exE T W B t2 s1) (k c s1.ρ) → Q1 (.bl c) s1.H) : tD T W t1 u s.σ s.H Q1 := by
  have hp2 : Post (okE T B (t1 ++ t2) s Q) (exE T W B (t1 ++ t2) s) (bnd u (fun d => bnd (match d with | .bl b => ret b | _ => bad) k) s.ρ) := by
    have e : bnd (dB u) k s.ρ = bnd u (fun d => bnd (match d with | .bl b => ret b | _ => bad) k) s.ρ := by
      unfold dB bnd
      cases u s.ρ <;> rfl
    rw [← e]
    exact hp
  refine seqE r hp2 fun d v s1 g _ hs r1 t a h => ?_
  cases d with
  | bl c =>
    obtain ⟨rp, _, _, _⟩ := t
    cases rp
    exact hk c s1 hs r1 (h.imp (fun c ρ q v s' g' e1 e2 r' t' b => q v s' g' e1 (e2.trans hs) r' t' (a.trans0 b)) fun _ _ _ _ q => exE.re a hs q)
  | _ => exact h.elim
theorem g_notV (h : GE X G W tc a u) : GE X G W tc (.UnaryOp .Not a pos) (dNotV u) :=
  pe_mono (pe_not h) fun σ H Q ⟨B, s, e1, e2, rl, hp⟩ => by
    subst e1 e2
    rw [← List.append_nil tc] at hp
    exact seqBE rl hp fun c s1 hs r1 h => ⟨c, rfl, h _ s1 [] rfl rfl r1 (Tmp.flat (.bl _)) Goes.refl⟩
theorem g_oneV (op : BoolOp) (h : GE X G W tc a u) : GE X G W tc (.BoolOp op [a] pos) u := pe_one h
theorem g_andV (h1 : GE X G W t1 a u) (h2 : GE X G W t2 (.BoolOp .And (b :: rest) pos) w) : GE X G W (t1 ++ t2) (.BoolOp .And (a :: b :: rest) pos) (dAndV u w) :=
  pe_mono (pe_and h1 h2) fun σ H Q ⟨B, s, e1, e2, rl, hp⟩ => by
    subst e1 e2
    refine seqBE rl hp fun c s1 hs r1 h => ⟨c, rfl, ?_⟩
    cases c with
    | true => exact ⟨B, s1, hs, rfl, r1, h⟩
    | false => exact h _ s1 [] rfl rfl r1 (Tmp.flat (.bl _)) Goes.refl
theorem okE.wk {T : Tx} {B : Hp} {s : S5} {Q : VK} {d : D} {ρ : En} {u1 u2 : List Nat} (hw : ∀ j ∈ u1, j ∈ u2) (h : okE T B u2 s Q d ρ) : okE T B u1 s Q d ρ := fun v s' g e1 e2 r t a => h v s' g e1 e2 r t (a.wk hw)
def dNil : M (List D) := ret []
def dCons (f : M D) (fs : M (List D)) : M (List D) := bnd f fun d => bnd fs fun ds => ret (d :: ds)
theorem ga_nil : GA X G W [] [] dNil := pa_mono pa_nil fun σ H Q ⟨B, s, e1, e2, rl, hp⟩ => by
  subst e1 e2
  exact hp [] s [] rfl rfl rl (Tmps.flat .nil) Goes.refl
theorem Tmp.cons {T : Tx} {B H F : Hp} {φ : Nat → List Addr} {d : D} {ds : List D} {v : V} {vs : List V} {g g2 : List Addr} (t : Tmp T B H F φ d v g) (ts : Tmps T B H F φ ds vs g2) (ap : ∀ x ∈ g, x ∉ g2) : Tmps T B H F φ (d :: ds) (v :: vs) (g ++ g2) :=
  ⟨.cons t.rep ts.rep rfl, List.nodup_append.mpr ⟨t.nd, ts.nd, fun x hx y hy e => ap x hx (e ▸ hy)⟩, fun x hx => (List.mem_append.mp hx).elim (t.ap x) (ts.ap x), fun x hx => (List.mem_append.mp hx).elim (t.dj x) (ts.dj x)⟩
theorem ga_cons {es : List Expr} {fs : M (List D)} (h1 : GE X G W t1 a u) (h2 : GA X G W t2 es fs) (hs : starEach (a :: es) X.env = (false, eval a X.env) :: starEach es X.env := by rfl) : GA X G W (t1 ++ t2) (a :: es) (dCons u fs) :=
  pa_mono (pa_cons h1 h2 hs) fun σ H Q ⟨B, s, e1, e2, rl, hp⟩ => by
    subst e1 e2
    refine seqE rl hp fun d v s1 g _ hs r1 t a h => ?_
    show tDs _ _ _ _ s.σ s1.H _
    rw [← hs]
    refine seqA2 a hs r1 h fun ds vs s2 g2 _ hs2 r2 ts a2 h => ?_
    refine h (v :: vs) s2 (g ++ g2) rfl (hs2.trans hs) r2 ((t.go a2).cons ts fun x hx q => t.apart a2.step x hx q) ((a.trans a2).less fun x hx => ?_)
    rcases List.mem_append.mp hx with z | z
    · exact List.mem_append.mpr (.inr z)
    · exact List.mem_append.mpr (.inl z)
def dLst (fs : M (List D)) : M D := bnd fs fun ds => if ds.length ≤ lim then ret (.lst .ow ds) else bad
def dTup (fs : M (List D)) : M D := bnd fs fun ds => if ds.length ≤ lim then ret (.tup ds) else bad
theorem g_lst {es : List Expr} {fs : M (List D)} (h : GA X G W tc es fs) : GE X G W tc (.List es pos) (dLst fs) :=
  pe_mono (pe_lst h) fun σ H Q ⟨B, s, e1, e2, rl, hp⟩ => by
    subst e1 e2
    refine seqA1 rl hp fun ds vs s1 g _ hs r1 ts a h => ?_
    split at h
    · rename_i hl
      refine ⟨by rw [← ts.rep.len]; exact lim_le hl, fun p hp' => ?_⟩
      have e0 : ∀ x ∈ g, x ≠ p := fun x hx => by
        obtain ⟨o, e⟩ := ts.rep.dom x hx
        exact ne_of_none e hp'
      refine h (.ref p) (s1.new p (.lst vs)) (p :: g) rfl hs (r1.new hp') ⟨.lstO upd_same (ts.rep.mono (Ex.refl B) (Ex.refl _) fun x hx o q => Ex.new hp' x o q) rfl, List.nodup_cons.mpr ⟨fun q => e0 p q rfl, ts.nd⟩, fun x hx => ?_, fun x hx => ?_⟩ ?_
      · rcases List.mem_cons.mp hx with rfl | hx
        · exact ⟨r1.freeF hp', r1.freeB hp'⟩
        · exact ts.ap x hx
      · rcases List.mem_cons.mp hx with rfl | hx
        · exact r1.freeO hp'
        · exact ts.dj x hx
      · have z := a.trans (goes_new (o := .lst vs) r1 hp')
        rw [List.append_nil] at z
        exact z
    · exact h.elim
def tTupZ (t : TA) : TE := fun σ H Q => t σ H fun xs H1 => xs.length ≤ sizeLine ∧ ∀ p (o : Obj), o.dict = none → H1 p = none → Q (.ref p) (upd H1 p (.frz o (.tup xs)))
theorem pe_tupZ {es : List Expr} {t : TA} {x1} (h : PA X es t) : PE X (.Tuple es x1 pos) (tTupZ t) := by
  constructor
  intro pins s σ H Q I hq
  apply wpAny_Tuple_spliced
  refine thn (h.run pos pins s σ H _ I hq) ?_
  rintro us s1 ⟨xs, H1, I1, r, z, q⟩
  have hn : H1 s1.heap.objs.size = none := I1.hok.fresh (Nat.le_refl _)
  have hg : (s1.heap.push ({ cls := .type "tuple", data := .seq us.toArray } : Obj)).get? s1.heap.objs.size = some { cls := .type "tuple", data := .seq us.toArray } := Heap.get?_push_size _ rfl
  have hk : ∀ b u, s1.heap.get? b = some u → (s1.heap.push ({ cls := .type "tuple", data := .seq us.toArray } : Obj)).get? b = some u := fun b u e => Heap.get?_push_of_some _ e
  have J := I1.laid (t' := s1.toks) (o := .frz { cls := .type "tuple", data := .seq us.toArray } (.tup xs)) hk (Nat.le_refl _) ⟨hg, z, us, r, _, hg, rfl, _, rfl⟩
  exact ⟨by rw [← r.length]; exact z, .ref s1.heap.objs.size, _, J, rfl, q _ _ rfl hn⟩
theorem g_tup {es : List Expr} {fs : M (List D)} {x1} (h : GA X G W tc es fs) : GE X G W tc (.Tuple es x1 pos) (dTup fs) :=
  pe_mono (pe_tupZ h) fun σ H Q ⟨B, s, e1, e2, rl, hp⟩ => by
    subst e1 e2
    refine seqA1 rl hp fun ds vs s1 g _ hs r1 ts a h => ?_
    split at h
    · rename_i hl
      refine ⟨by rw [← ts.rep.len]; exact lim_le hl, fun p o ho hp' => ?_⟩
      refine h (.ref p) (s1.newF p (.frz o (.tup vs))) g rfl hs (r1.newF hp') ⟨.tup (.inl ⟨o, upd_same, ho⟩) (ts.rep.mono (Ex.refl B) (Ex.new (r1.freeF hp')) fun x hx o q => Ex.new hp' x o q), ts.nd, fun x hx => ⟨?_, (ts.ap x hx).2⟩, ts.dj⟩ ?_
      · obtain ⟨o, e⟩ := ts.rep.dom x hx
        show upd s1.F p (.frz _ (.tup vs)) x = none
        rw [upd_ne (ne_of_none e hp')]
        exact (ts.ap x hx).1
      · have z := a.trans (goes_newF (o := .frz o (.tup vs)) r1 hp')
        rw [List.append_nil] at z
        exact z
    · exact h.elim
end
end Cs
namespace Cs
open PySem L2 Evl
def dExpr (f : M D) : M Flw := bnd f fun _ => ret .nx
def dRet (f : M D) : M Flw := bnd f fun d => ret (.rt d)
def dNx : M Flw := ret .nx
def dPut (i : Nat) (d : D) : M Flw := fun ρ => if i < ρ.length then .ok .nx (ρ.set i (.dt d)) else .bad
def dAsg (i : Nat) (f : M D) : M Flw := bnd f (dPut i)
def dIf (c : M Bool) (f g : M Flw) : M Flw := bnd c fun b => if b = true then f else g
def thenF (g : M Flw) : Flw → M Flw
  | .nx => g
  | .bk => ret .bk
  | .ct => ret .ct
  | .rt d => ret (.rt d)
def dSeq (f g : M Flw) : M Flw := bnd f (thenF g)
section
variable {T : Tx} {B : Hp} {s s1 s2 : S5} {W : WX} {tc tc1 tc2 t1 t2 : List Nat} {ρ : En} {g0 : List Addr} {E : Ends}
theorem exS.toE {c : Str} {ks : List Str} {xs : List D} (h : exS T W B tc s c ks xs ρ) : exE T W B tc s c ks xs ρ := fun cls dd s' e1 _ r x t => h cls dd s' e1 r x t
theorem exS.wk {c : Str} {ks : List Str} {xs : List D} (hw : ∀ j ∈ t1, j ∈ t2) (h : exS T W B t2 s c ks xs ρ) : exS T W B t1 s c ks xs ρ := fun cls dd s' e1 r x t => h cls dd s' e1 r x (t.wk hw)
theorem okS.wk {fl : Flw} (hw : ∀ j ∈ t1, j ∈ t2) (h : okS T B t2 s E fl ρ) : okS T B t1 s E fl ρ := by
  cases fl with
  | nx => exact fun s' e r t => h s' e r (t.wk hw)
  | bk => exact fun s' e r t => h s' e r (t.wk hw)
  | ct => exact fun s' e r t => h s' e r (t.wk hw)
  | rt d => exact fun v s' g e r x t => h v s' g e r x (t.wk hw)
theorem exS.re {c : Str} {ks : List Str} {xs : List D} (a : Goes t1 s s1 g0) (h : exS T W B (t1 ++ t2) s c ks xs ρ) : exS T W B t2 s1 c ks xs ρ := fun cls dd s' e1 r x t => h cls dd s' e1 r x (a.trans0 t)
theorem okS.re {fl : Flw} (a : Goes t1 s s1 g0) (h : okS T B (t1 ++ t2) s E fl ρ) : okS T B t2 s1 E fl ρ := by
  cases fl with
  | nx => exact fun s' e r t => h s' e r (a.trans0 t)
  | bk => exact fun s' e r t => h s' e r (a.trans0 t)
  | ct => exact fun s' e r t => h s' e r (a.trans0 t)
  | rt d => exact fun v s' g e r x t => h v s' g e r x (a.trans0 t)
theorem seqES {f : M D} {k : D → M Flw} {Q1 : VK} (r : Okk T B s) (hp : Post (okS T B tc s E) (exS T W B tc s) (bnd f k s.ρ)) (hw : ∀ j ∈ t1, j ∈ tc)
    (hk : ∀ d v s1 g, f s.ρ = .ok d s1.ρ → s1.σ = s.σ → Okk T B s1 → Tmp T B s1.H s1.F s1.φ d v g → Goes t1 s s1 g → Post (okS T B tc s E) (exS T W B tc s) (k d s1.ρ) → Q1 v s1.H) : tD T W t1 f s.σ s.H Q1 :=
  ⟨B, s, rfl, rfl, r, hp.bnd.imp (fun d ρ1 ⟨e, h⟩ v s1 g e1 e2 r1 t a => by
    subst e1
    exact hk d v s1 g e e2 r1 t a h) fun _ _ _ _ h => (h.wk hw).toE⟩
theorem seqTS {f : M Bool} {k : Bool → M Flw} {Q1 : Bool → Hp → Prop} (r : Okk T B s) (hp : Post (okS T B (t1 ++ t2) s E) (exS T W B (t1 ++ t2) s) (bnd f k s.ρ))
    (hk : ∀ d s1, s1.σ = s.σ → Okk T B s1 → Post (okS T B t2 s1 E) (exS T W B t2 s1) (k d s1.ρ) → Q1 d s1.H) : tDT T W t1 f s.σ s.H Q1 :=
  ⟨B, s, rfl, rfl, r, hp.bnd.imp (fun d ρ1 ⟨e, h⟩ s1 e1 e2 r1 a => by
    subst e1
    exact hk d s1 e2 r1 (h.imp (fun _ _ q => q.re a) fun _ _ _ _ q => q.re a)) fun _ _ _ _ h => (h.wk fun _ => memL).toE⟩
theorem Rel.put {σ : L2.St} {H F : Hp} {φ : Nat → List Addr} {i : Nat} {d : D} {v : V} {g : List Addr} (r : Rel T σ B H F ρ φ) (t : Tmp T B H F φ d v g) (hi : i < ρ.length) :
    Rel T (σ.set i (some v)) B H F (ρ.set i (.dt d)) (fun j => if j = i then g else φ j) := by
  refine ⟨by rw [List.length_set, List.length_set]; exact r.len, r.exB, r.exF, r.exP, fun j e q => ?_, fun j q => ?_, fun j q => ?_, fun j => ?_, fun j k a hn h1 h2 => ?_, fun j a h => ?_, r.xt⟩
  · by_cases z : j = i
    · subst z
      rw [List.getElem?_set_self hi] at q
      cases q
      refine ⟨v, List.getElem?_set_self (by rw [← r.len]; exact hi), ?_⟩
      rw [if_pos rfl]
      exact t.rep
    · rw [List.getElem?_set_ne (fun e => z e.symm)] at q
      obtain ⟨w, e2, rp⟩ := r.sl j e q
      refine ⟨w, by rw [List.getElem?_set_ne (fun e => z e.symm)]; exact e2, ?_⟩
      rw [if_neg z]
      exact rp
  · by_cases z : j = i
    · subst z
      rw [List.getElem?_set_self hi] at q
      cases q
    · rw [List.getElem?_set_ne (fun e => z e.symm)] at q
      obtain ⟨a, e1, e2⟩ := r.xn j q
      exact ⟨a, e1, by rw [List.getElem?_set_ne (fun e => z e.symm)]; exact e2⟩
  · split
    · rename_i z
      subst z
      exact absurd (List.getElem?_set_self hi) (q d)
    · rename_i z
      rw [List.getElem?_set_ne (fun e => z e.symm)] at q
      exact r.em j q
  · split
    · exact t.nd
    · exact r.nd j
  · split at h1
    · split at h2
      · rename_i z1 z2; exact hn (z1.trans z2.symm)
      · exact t.dj a h1 ⟨k, h2⟩
    · split at h2
      · exact t.dj a h2 ⟨j, h1⟩
      · exact r.dj j k a hn h1 h2
  · split at h
    · exact t.ap a h
    · exact r.ap j a h
abbrev S5.put (s : S5) (i : Nat) (v : V) (d : D) (g : List Addr) : S5 := { s with σ := s.σ.set i (some v), ρ := s.ρ.set i (.dt d), φ := fun j => if j = i then g else s.φ j }
theorem Goes.put {i : Nat} {d : D} {v : V} {g : List Addr} (a : Goes tc s s1 g) : Goes (tc ++ [i, i + 1000]) s (s1.put i v d g) [] :=
  ⟨a.step.drop fun x q => (by
    rcases q with ⟨j, q⟩ | q
    · dsimp only at q
      split at q
      · exact .inr q
      · exact .inl ⟨j, q⟩
    · cases q), fun j h => by
    have h1 : j ∉ tc := fun z => h (memL z)
    have h2 : j ≠ i := fun z => h (memR (by rw [z]; exact List.mem_cons_self))
    obtain ⟨x1, x2, x4⟩ := a.fix j h1
    exact ⟨(List.getElem?_set_ne fun e => h2 e.symm).trans x1, (if_neg h2).trans x2, x4⟩, fun j h => by
    have h1 : j + 1000 ∉ tc := fun z => h (memL z)
    have h2 : j ≠ i := fun z => h (memR (by rw [z]; exact List.mem_cons_of_mem _ List.mem_cons_self))
    exact (List.getElem?_set_ne fun e => h2 e.symm).trans (a.sg j h1)⟩
theorem asg_core {i : Nat} {f : M D} {σ : L2.St} {H : Hp} (h : tDS T W (tc ++ [i, i + 1000]) (dAsg i f) E σ H) : tAsg (tD T W tc f) (gName i) E σ H := by
  obtain ⟨B, s, e1, e2, rl, hp⟩ := h
  subst e1 e2
  refine seqES rl hp (fun _ => memL) fun d v s1 g _ hs r1 t a h => ?_
  unfold dPut at h
  split at h
  · rename_i hi
    have z := h (s1.put i v d g) rfl (r1.put t hi) a.put
    show E.nx (s.σ.set i (some v)) s1.H
    rw [← hs]
    exact z
  · exact h.elim
end
section
variable {X : Cx} {G : Gx} {W : WX} {tc t1 t2 t3 : List Nat} {a b c : Expr} {pos pos' : Pos} {rest : List Stmt} {st : Stmt} {u w : M D} {f g : M Flw}
theorem gs_expr (h : GE X G W tc a u) (hs : swapsWith a none pos.line X.env = pure false := by rfl) : GS X G W tc (.Expr a pos) (dExpr u) :=
  ps_mono (ps_expr h hs) fun E σ H ⟨B, s, e1, e2, rl, hp⟩ => by
    subst e1 e2
    refine seqES rl hp (fun _ h => h) fun d v s1 g _ hs r1 t a h => ?_
    have z := h s1 rfl r1 a.drop0
    rw [hs] at z
    exact z
theorem gs_ret (h : GE X G W tc a u) : GS X G W tc (.Return (some a) pos) (dRet u) :=
  ps_mono (ps_ret h) fun E σ H ⟨B, s, e1, e2, rl, hp⟩ => by
    subst e1 e2
    exact seqES rl hp (fun _ h => h) fun d v s1 g _ hs r1 t a h => h v s1 g rfl r1 t a
theorem gs_break : GS X G W [] (.Break pos) (ret .bk) :=
  ps_mono ps_break fun E σ H ⟨B, s, e1, e2, rl, hp⟩ => by
    subst e1 e2
    exact hp s rfl rl Goes.refl
theorem gs_asg {i : Nat} {x : Str} (h : GE X G W tc a u) (hN : X.N.Nodup) (hi : X.N[i]? = some x) (hx : Loc X.env.scope x) (hs : swapsWith a (some (.Name x pos')) pos.line X.env = pure false := by rfl)
    (hf : X.fn x = true ∨ X.env.scope.names.lookup x = some .local := by first | exact .inl rfl | exact .inr rfl) : GS X G W (tc ++ [i, i + 1000]) (.Assign [.Name x pos'] a pos) (dAsg i u) :=
  ps_mono (ps_set hN hi hx h hs hf) fun E σ H h => asg_core h
theorem gs_if {sa sb : List Stmt} {k : M Bool} (h0 : GT X G W t1 c k) (h1 : GSs X G W t2 sa f) (h2 : GSs X G W t3 sb g) : GS X G W (t1 ++ (t2 ++ t3)) (.If c sa sb pos) (dIf k f g) :=
  ps_mono (ps_if h0 h1 h2) fun E σ H ⟨B, s, e1, e2, rl, hp⟩ => by
    subst e1 e2
    refine seqTS rl hp fun d s1 hs r1 h => ?_
    cases d with
    | true => exact ⟨B, s1, hs, rfl, r1, h.imp (fun _ _ q => q.wk fun _ => memL) fun _ _ _ _ q => q.wk fun _ => memL⟩
    | false => exact ⟨B, s1, hs, rfl, r1, h.imp (fun _ _ q => q.wk fun _ => memR) fun _ _ _ _ q => q.wk fun _ => memR⟩
theorem gss_nil : GSs X G W [] [] dNx :=
  pss_mono pss_nil fun E σ H ⟨B, s, e1, e2, rl, hp⟩ => by
    subst e1 e2
    exact hp s rfl rl Goes.refl
theorem gss_one (h : GS X G W tc st f) : GSs X G W tc [st] f := pss_one h
theorem gss_cons (h1 : GS X G W t1 st f) (h2 : GSs X G W t2 rest g) : GSs X G W (t1 ++ t2) (st :: rest) (dSeq f g) :=
  pss_mono (pss_cons h1 h2) fun E σ H ⟨B, s, e1, e2, rl, hp⟩ => by
    subst e1 e2
    refine ⟨B, s, rfl, rfl, rl, hp.bnd.imp (fun fl ρ1 ⟨_, h⟩ => ?_) fun _ _ _ _ h => h.wk fun _ => memL⟩
    cases fl with
    | nx => exact fun s1 e r1 a => ⟨B, s1, rfl, rfl, r1, by
        subst e
        exact (show Post _ _ (g s1.ρ) from h).imp (fun _ _ q => q.re a) fun _ _ _ _ q => q.re a⟩
    | bk => exact fun s1 e r1 a => (show okS _ _ _ _ _ .bk ρ1 from h) s1 e r1 (a.wk fun _ => memL)
    | ct => exact fun s1 e r1 a => (show okS _ _ _ _ _ .ct ρ1 from h) s1 e r1 (a.wk fun _ => memL)
    | rt d => exact fun v s1 g e r1 t a => (show okS _ _ _ _ _ (.rt d) ρ1 from h) v s1 g e r1 t (a.wk fun _ => memL)
theorem gss_wk {ss : List Stmt} (h : GSs X G W t1 ss f) (hw : ∀ j ∈ t1, j ∈ t2) : GSs X G W t2 ss f :=
  pss_mono h fun E σ H ⟨B, s, e1, e2, rl, hp⟩ => ⟨B, s, e1, e2, rl, hp.imp (fun _ _ q => q.wk hw) fun _ _ _ _ q => q.wk hw⟩
def fgt (is : List Nat) (ρ : En) : En := is.foldl (fun r i => r.set i .un) ρ
end
end Cs
namespace Cs
open PySem L2 Evl PyProof.Rows
def outs (pr : List Nat) (n : Nat) (ρ : En) : En := (List.range n).map fun i => if i ∈ pr then (match ρ[i]? with
  | some (.dt d) => if allF noBo d = true then .dt d else .un
  | _ => .un) else .un
def frm (N : Nat) (ds : List D) : En := ds.map Sl.dt ++ List.replicate (N - ds.length) .un
def run (f : M Flw) (pr : List Nat) (N n : Nat) (ds : List D) : Res := if ds.length = n then
  (match f (frm N ds) with
  | .ok .nx ρ => .ok .non (outs pr n ρ)
  | .ok (.rt d) ρ => if allF noBo d = true then .ok d (outs pr n ρ) else .bad
  | .exc c ks xs ρ => .exc c ks xs (outs pr n ρ)
  | _ => .bad) else .bad
def NoB (os : En) : Prop := ∀ (i : Nat) d, os[i]? = some (Sl.dt d) → allF noBo d = true
def spM (T : Tx) (m : List D → Res) : Sp := fun vs H Q E => ∃ B s ds, s.σ = vs.map some ∧ s.H = H ∧ s.ρ = ds.map Sl.dt ∧ Okk T B s ∧
  (match m ds with
  | .ok d os => ∀ v s' g, s'.ρ = os → s'.σ = s.σ → Okk T B s' → Tmp T B s'.H s'.F s'.φ d v g → allF noBo d = true → NoB os → Step s.H s.F (O s.φ) s'.H s'.F (Or2 (O s'.φ) g) → Q v s'.H
  | .exc c ks xs os => ∀ cls dd s', s'.ρ = os → s'.σ = s.σ → Okk T B s' → XRep T s'.F c ks xs cls dd → NoB os → Step s.H s.F (O s.φ) s'.H s'.F (O s'.φ) → E cls dd s'.H
  | .bad => False)
section
variable {T : Tx} {B : Hp}
theorem outs_get {pr : List Nat} {n : Nat} {ρ : En} {i : Nat} {d : D} (h : (outs pr n ρ)[i]? = some (.dt d)) : i < n ∧ i ∈ pr ∧ ρ[i]? = some (.dt d) ∧ allF noBo d = true := by
  unfold outs at h
  rw [List.getElem?_map] at h
  cases e : (List.range n)[i]? with
  | none => rw [e] at h; cases h
  | some j =>
    obtain ⟨hj, ej⟩ := List.getElem?_eq_some_iff.mp e
    rw [List.getElem_range] at ej
    subst ej
    rw [List.length_range] at hj
    rw [e, Option.map_some] at h
    have h := Option.some.inj h
    split at h
    · rename_i hp
      split at h
      · rename_i d' ed
        split at h
        · rename_i hn
          cases h
          exact ⟨hj, hp, ed, hn⟩
        · cases h
      · cases h
    · cases h
theorem outs_exn {pr : List Nat} {n : Nat} {ρ : En} {i : Nat} : (outs pr n ρ)[i]? ≠ some .exn := by
  unfold outs
  rw [List.getElem?_map]
  cases e : (List.range n)[i]? with
  | none => intro h; cases h
  | some j =>
    rw [Option.map_some]
    intro h
    have h := Option.some.inj h
    split at h
    · split at h
      · split at h <;> cases h
      · cases h
    · cases h
theorem back_rel {s : S5} {pr : List Nat} {vs : List V} {σ0 : L2.St} (r : Okk T B s) (h0 : σ0 = vs.map some) (hk : ∀ i ∈ pr, i < vs.length → s.σ[i]? = σ0[i]?) :
    Rel T σ0 B s.H s.F (outs pr vs.length s.ρ) (fun i => if (match (outs pr vs.length s.ρ)[i]? with | some (.dt _) => true | _ => false) = true then s.φ i else []) := by
  refine ⟨?_, r.exB, r.exF, r.exP, fun i d q => ?_, fun i q => absurd q outs_exn, fun i q => ?_, fun i => ?_, fun i j a hn h1 h2 => ?_, fun i a h => ?_, r.xt⟩
  · rw [h0, List.length_map]
    unfold outs
    rw [List.length_map, List.length_range]
  · obtain ⟨h1, h2, h3, h4⟩ := outs_get q
    obtain ⟨v, e, rp⟩ := r.sl i d h3
    refine ⟨v, by rw [← hk i h2 h1]; exact e, ?_⟩
    rw [q]
    exact rp
  · cases e : (outs pr vs.length s.ρ)[i]? with
    | none => rfl
    | some x =>
      cases x with
      | un => rfl
      | exn => rfl
      | dt d => exact absurd e (q d)
  · split
    · exact r.nd i
    · exact .nil
  · split at h1
    · split at h2
      · exact r.dj i j a hn h1 h2
      · cases h2
    · cases h1
  · split at h
    · exact r.ap i a h
    · cases h
theorem back_O {s : S5} {pr : List Nat} {n : Nat} {a : Addr} (h : O (fun i => if (match (outs pr n s.ρ)[i]? with | some (.dt _) => true | _ => false) = true then s.φ i else []) a) : O s.φ a := by
  obtain ⟨i, h⟩ := h
  dsimp only at h
  split at h
  · exact ⟨i, h⟩
  · cases h
theorem wide_rel {s : S5} {vs : List V} {ds : List D} {N : List Str} (r : Okk T B s) (hσ : s.σ = vs.map some) (hρ : s.ρ = ds.map Sl.dt) : Rel T (L2.start N vs) B s.H s.F (frm N.length ds) s.φ := by
  have hl : ds.length = vs.length := by
    have := r.len
    rw [hσ, hρ, List.length_map, List.length_map] at this
    exact this
  have get : ∀ (i : Nat) x, (frm N.length ds)[i]? = some x → x = .un ∨ s.ρ[i]? = some x := fun i x h => by
    unfold frm at h
    by_cases hi : i < ds.length
    · rw [List.getElem?_append_left (by rw [List.length_map]; exact hi)] at h
      rw [hρ]
      exact .inr h
    · rw [List.getElem?_append_right (by rw [List.length_map]; omega)] at h
      exact .inl (List.eq_of_mem_replicate (List.mem_of_getElem? h))
  refine ⟨?_, r.exB, r.exF, r.exP, fun i d q => ?_, fun i q => ?_, fun i q => ?_, r.nd, r.dj, r.ap, r.xt⟩
  · unfold frm L2.start
    rw [List.length_append, List.length_append, List.length_map, List.length_map, List.length_replicate, List.length_replicate, hl]
  · rcases get i _ q with z | z
    · cases z
    · obtain ⟨v, e, rp⟩ := r.sl i d z
      refine ⟨v, ?_, rp⟩
      unfold L2.start
      rw [hσ] at e
      rw [List.getElem?_append_left (List.getElem?_eq_some_iff.mp e).1]
      exact e
  · rcases get i _ q with z | z
    · cases z
    · rw [hρ, List.getElem?_map] at z
      cases e : ds[i]? with
      | none => rw [e] at z; cases z
      | some d => rw [e] at z; cases z
  · refine r.em i fun d z => ?_
    refine q d ?_
    unfold frm
    rw [hρ] at z
    rw [List.getElem?_append_left (List.getElem?_eq_some_iff.mp z).1]
    exact z
end
theorem fn_den {P : Program} {w : World} {K : PySem.W.Frag} {mg : Str → Option Value} {base : Heap} {x qual : Str} {st : Stmt} {f : Addr} {fd : FuncData} {N ps : List Str} {k : Nat} {G : Gx} {tc pr : List Nat} {den : M Flw}
    {dvs : List V} {kws : List (Str × V)} (F : FunD K x qual (defArgs st) (defBody st) (defScope st) dvs kws f fd) (S : FnScope N ps (defScope st)) (hpr : ∀ i ∈ pr, i + 1000 ∉ tc)
    (hd : ∀ (cdv : Value) (A : Around) (outer : List Env) (s : Shared) (H : Hp) (E : XK), Room k (A.deeper (envOfC qual (defScope st) s.heap.objs.size f cdv)) →
      GSs (cxOf (L2N.CX P w) P w K mg base N qual (defScope st) f cdv A outer s H E) G (fun cls d _ H => E cls d H) tc (defBody st) den) :
    FnOk P w K mg base (L2N.CX P w) (k + 1) f fd ps (spM ⟨K, G.C, G.P, G.X, G.tb⟩ (run den pr N.length ps.length)) := by
  refine F.ok S (fun vs H Q E h => ?_) (fun cdv A outer s H vs Q E hr h => ⟨_, hd cdv A outer s H E hr, ?_⟩)
  · obtain ⟨B, s, ds, e1, e2, e3, r, h⟩ := h
    have hl := r.len
    rw [e1, e3, List.length_map, List.length_map] at hl
    unfold run at h
    by_cases hn : ds.length = ps.length
    · rw [← hl]
      exact hn
    · rw [if_neg hn] at h
      exact h.elim
  · obtain ⟨B, s0, ds, e1, e2, e3, r, h⟩ := h
    have hl := r.len
    rw [e1, e3, List.length_map, List.length_map] at hl
    unfold run at h
    by_cases hn : ds.length = ps.length
    · rw [if_pos hn] at h
      rw [hl] at hn
      let s1 : S5 := { σ := L2.start N vs, H := s0.H, F := s0.F, ρ := frm N.length ds, φ := s0.φ }
      have r1 : Okk ⟨K, G.C, G.P, G.X, G.tb⟩ B s1 := wide_rel (s := s0) r e1 e3
      have hst : ∀ i, i < vs.length → (L2.start N vs)[i]? = s0.σ[i]? := fun i hi => by
        unfold L2.start
        rw [List.getElem?_append_left (by rw [List.length_map]; exact hi), e1]
      have way : ∀ s' : S5, Okk ⟨K, G.C, G.P, G.X, G.tb⟩ B s' → (∀ i ∈ pr, s'.σ[i]? = (L2.start N vs)[i]?) → Rel ⟨K, G.C, G.P, G.X, G.tb⟩ s0.σ B s'.H s'.F (outs pr ps.length s'.ρ) (fun i => if (match (outs pr ps.length s'.ρ)[i]? with | some (.dt _) => true | _ => false) = true then s'.φ i else []) := fun s' r' hk => by
        rw [← hn]
        exact back_rel r' e1 fun i hi hl => (hk i hi).trans (hst i hl)
      refine ⟨B, s1, rfl, e2, r1, ?_⟩
      show Post _ _ (den (frm N.length ds))
      cases e : den (frm N.length ds) with
      | bad => rw [e] at h; exact h.elim
      | exc c ks xs ρ =>
        rw [e] at h
        intro cls dd s' e4 r' x a
        subst e4
        exact h cls dd { s' with σ := s0.σ, ρ := outs pr ps.length s'.ρ, φ := _ } rfl rfl (way s' r' fun i hi => a.sg i (hpr i hi)) x (fun i d q => (outs_get q).2.2.2) (a.step.drop fun b q => .inl (back_O q))
      | ok fl ρ =>
        rw [e] at h
        cases fl with
        | nx =>
          intro s' e4 r' a
          subst e4
          exact h .non { s' with σ := s0.σ, ρ := outs pr ps.length s'.ρ, φ := _ } [] rfl rfl (way s' r' fun i hi => a.sg i (hpr i hi)) (Tmp.flat .non) rfl (fun i d q => (outs_get q).2.2.2) (a.step.drop fun b q => q.imp back_O id)
        | rt d =>
          dsimp only at h
          by_cases hb : allF noBo d = true
          · rw [if_pos hb] at h
            intro v s' g e4 r' t a
            subst e4
            exact h v { s' with σ := s0.σ, ρ := outs pr ps.length s'.ρ, φ := _ } g rfl rfl (way s' r' fun i hi => a.sg i (hpr i hi)) ⟨t.rep, t.nd, t.ap, fun b hb q => t.dj b hb (back_O q)⟩ hb (fun i d q => (outs_get q).2.2.2) (a.step.drop fun b q => q.imp back_O id)
          · rw [if_neg hb] at h
            exact h.elim
        | bk => exact h.elim
        | ct => exact h.elim
    · rw [if_neg hn] at h
      exact h.elim
end Cs
namespace Cs
open PySem L2 Evl PyProof.Rows
inductive Ar where
  | v (f : M D)
  | l (i : Nat)
  | io (i : Nat)
abbrev Arg := Ar × List Nat
def rdA (T : Tx) (W : WX) : Arg → TE
  | (.v f, tc) => tD T W tc f
  | (.l i, _) => tVar i
  | (.io i, _) => tVar i
def tRs (T : Tx) (W : WX) : List Arg → TA
  | [] => tNil
  | a :: r => tCons (rdA T W a) (tRs T W r)
def tcs : List Arg → List Nat
  | [] => []
  | (.v _, tc) :: r => tc ++ tcs r
  | (.l _, _) :: r => tcs r
  | (.io _, _) :: r => tcs r
def ios : List Arg → List Nat
  | [] => []
  | (.io i, _) :: r => i :: ios r
  | (.v _, _) :: r => ios r
  | (.l _, _) :: r => ios r
def lns : List Arg → List Nat
  | [] => []
  | (.l i, _) :: r => i :: lns r
  | (.v _, _) :: r => lns r
  | (.io _, _) :: r => lns r
def dArs : List Arg → M (List (Option D))
  | [] => ret []
  | (.v f, _) :: r => bnd f fun d => bnd (dArs r) fun ds => ret (some d :: ds)
  | (.l i, _) :: r => bnd (dPk i) fun _ => bnd (dArs r) fun ds => ret (none :: ds)
  | (.io i, _) :: r => bnd (dPk i) fun _ => bnd (dArs r) fun ds => ret (none :: ds)
def argD (ρ : En) : List Arg → List (Option D) → Option (List D)
  | [], [] => some []
  | (.v _, _) :: r, some d :: ds => (argD ρ r ds).map (d :: ·)
  | (.l i, _) :: r, none :: ds => (slot i ρ).bind fun d => (argD ρ r ds).map (mapF flLend d :: ·)
  | (.io i, _) :: r, none :: ds => (slot i ρ).bind fun d => (argD ρ r ds).map (d :: ·)
  | _, _ => none
def hd1 : En → Sl
  | [] => .un
  | o :: _ => o
def wb : List Arg → En → En → En
  | [], _, ρ => ρ
  | (.io i, _) :: r, os, ρ => (wb r os.tail ρ).set i (hd1 os)
  | (.v _, _) :: r, os, ρ => wb r os.tail ρ
  | (.l _, _) :: r, os, ρ => wb r os.tail ρ
def wbF : List Arg → (Nat → List Addr) → (Nat → List Addr) → Nat → List Addr
  | [], _, φ => φ
  | (.io i, _) :: r, ψ, φ => fun j => if j = i then ψ 0 else wbF r (fun k => ψ (k + 1)) φ j
  | (.v _, _) :: r, ψ, φ => wbF r (fun k => ψ (k + 1)) φ
  | (.l _, _) :: r, ψ, φ => wbF r (fun k => ψ (k + 1)) φ
inductive Its (T : Tx) (B : Hp) (s : S5) : List Arg → List (Option D) → List V → List Addr → Prop
  | nil : Its T B s [] [] [] []
  | v {f : M D} {tc : List Nat} {r : List Arg} {d : D} {ds : List (Option D)} {x : V} {vs : List V} {g1 g2 : List Addr} (h : Rep T B s.H s.F d x g1) (t : Its T B s r ds vs g2) : Its T B s ((.v f, tc) :: r) (some d :: ds) (x :: vs) (g1 ++ g2)
  | l {i : Nat} {tc : List Nat} {r : List Arg} {ds : List (Option D)} {x : V} {vs : List V} {g : List Addr} (h : s.σ[i]? = some (some x)) (t : Its T B s r ds vs g) : Its T B s ((.l i, tc) :: r) (none :: ds) (x :: vs) g
  | io {i : Nat} {tc : List Nat} {r : List Arg} {ds : List (Option D)} {x : V} {vs : List V} {g : List Addr} (h : s.σ[i]? = some (some x)) (t : Its T B s r ds vs g) : Its T B s ((.io i, tc) :: r) (none :: ds) (x :: vs) g
structure ItsT (T : Tx) (B : Hp) (s : S5) (ars : List Arg) (ods : List (Option D)) (vs : List V) (g : List Addr) : Prop where
  its : Its T B s ars ods vs g
  nd : g.Nodup
  ap : ∀ a ∈ g, s.F a = none ∧ B a = none
  dj : ∀ a ∈ g, ¬ O s.φ a
theorem bnd_assoc {α β γ : Type} (f : M α) (g : α → M β) (h : β → M γ) (ρ : En) : bnd (bnd f g) h ρ = bnd f (fun a => bnd (g a) h) ρ := by
  unfold bnd
  cases f ρ <;> rfl
section
variable {T : Tx} {B : Hp} {W : WX}
theorem args_core {β : Type} {s0 : S5} {U : List Nat} {okk : β → En → Prop} : ∀ {ars : List Arg} {k : List (Option D) → M β} {s : S5} {u : List Nat} {g0 : List Addr} {Q1 : List V → Hp → Prop}, Goes u s0 s g0 → s.σ = s0.σ → (∀ j ∈ u, j ∈ U) → (∀ j ∈ tcs ars, j ∈ U) → Okk T B s →
    Post okk (exE T W B U s0) (bnd (dArs ars) k s.ρ) →
    (∀ ods vs s1 g, Okk T B s1 → s1.σ = s.σ → ItsT T B s1 ars ods vs g → Goes (tcs ars) s s1 g → Post okk (exE T W B U s0) (k ods s1.ρ) → Q1 vs s1.H) → tRs T W ars s.σ s.H Q1
  | [], k, s, u, g0, Q1, a0, hσ, hu, hU, r, hp, hk => hk [] [] s [] r rfl ⟨.nil, .nil, fun _ h => (by cases h), fun _ h => (by cases h)⟩ Goes.refl hp
  | (.v f, tc) :: r', k, s, u, g0, Q1, a0, hσ, hu, hU, r, hp, hk => by
    have hp1 : Post okk (exE T W B U s0) (bnd f (fun d => bnd (dArs r') fun ds => k (some d :: ds)) s.ρ) := by
      have e : bnd (dArs ((.v f, tc) :: r')) k s.ρ = bnd f (fun d => bnd (dArs r') fun ds => k (some d :: ds)) s.ρ := by
        show bnd (bnd f fun d => bnd (dArs r') fun ds => ret (some d :: ds)) k s.ρ = _
        rw [bnd_assoc]
        congr 1
        funext d ρ
        rw [bnd_assoc]
        rfl
      rw [← e]
      exact hp
    refine ⟨B, s, rfl, rfl, r, hp1.bnd.imp (fun d ρ1 ⟨_, h⟩ x s1 g e1 e2 r1 t a => ?_) fun _ _ _ _ h cls dd s' e1 e2 r' x t => h cls dd s' e1 (e2.trans hσ) r' x ((a0.trans0 t).wk fun j q => ?_)⟩
    · subst e1
      show tRs T W r' s.σ s1.H _
      rw [← e2]
      refine args_core (a0.trans0 a) (e2.trans hσ) (fun j q => (List.mem_append.mp q).elim (hu j) fun z => hU j (memL z)) (fun j q => hU j (memR q)) r1 h fun ods vs s2 g2 r2 e3 it a2 h2 => ?_
      have t2 := t.go a2
      refine hk (some d :: ods) (x :: vs) s2 (g ++ g2) r2 (e3.trans e2) ⟨.v t2.rep it.its, List.nodup_append.mpr ⟨t2.nd, it.nd, fun p hp q hq e => t.apart a2.step p hp (e ▸ hq)⟩, fun p hp => (List.mem_append.mp hp).elim (t2.ap p) (it.ap p), fun p hp => (List.mem_append.mp hp).elim (t2.dj p) (it.dj p)⟩ ((a.trans a2).less fun p hp => ?_) h2
      rcases List.mem_append.mp hp with z | z
      · exact List.mem_append.mpr (.inr z)
      · exact List.mem_append.mpr (.inl z)
    · rcases List.mem_append.mp q with z | z
      · exact hu j z
      · exact hU j (memL z)
  | (.l i, tc) :: r', k, s, u, g0, Q1, a0, hσ, hu, hU, r, hp, hk => by
    have hp1 : Post okk (exE T W B U s0) (bnd (dPk i) (fun _ => bnd (dArs r') fun ds => k (none :: ds)) s.ρ) := by
      have e : bnd (dArs ((.l i, tc) :: r')) k s.ρ = bnd (dPk i) (fun _ => bnd (dArs r') fun ds => k (none :: ds)) s.ρ := by
        show bnd (bnd (dPk i) fun _ => bnd (dArs r') fun ds => ret (none :: ds)) k s.ρ = _
        rw [bnd_assoc]
        congr 1
        funext d ρ
        rw [bnd_assoc]
        rfl
      rw [← e]
      exact hp
    obtain ⟨d, e, hp2⟩ := pk_bnd hp1
    obtain ⟨x, ex, _⟩ := r.sl i d (slot_some e)
    refine ⟨x, ex, ?_⟩
    refine args_core a0 hσ hu hU r hp2 fun ods vs s2 g2 r2 e3 it a2 h2 => hk (none :: ods) (x :: vs) s2 g2 r2 e3 ⟨.l (by rw [e3]; exact ex) it.its, it.nd, it.ap, it.dj⟩ a2 h2
  | (.io i, tc) :: r', k, s, u, g0, Q1, a0, hσ, hu, hU, r, hp, hk => by
    have hp1 : Post okk (exE T W B U s0) (bnd (dPk i) (fun _ => bnd (dArs r') fun ds => k (none :: ds)) s.ρ) := by
      have e : bnd (dArs ((.io i, tc) :: r')) k s.ρ = bnd (dPk i) (fun _ => bnd (dArs r') fun ds => k (none :: ds)) s.ρ := by
        show bnd (bnd (dPk i) fun _ => bnd (dArs r') fun ds => ret (none :: ds)) k s.ρ = _
        rw [bnd_assoc]
        congr 1
        funext d ρ
        rw [bnd_assoc]
        rfl
      rw [← e]
      exact hp
    obtain ⟨d, e, hp2⟩ := pk_bnd hp1
    obtain ⟨x, ex, _⟩ := r.sl i d (slot_some e)
    refine ⟨x, ex, ?_⟩
    refine args_core a0 hσ hu hU r hp2 fun ods vs s2 g2 r2 e3 it a2 h2 => hk (none :: ods) (x :: vs) s2 g2 r2 e3 ⟨.io (by rw [e3]; exact ex) it.its, it.nd, it.ap, it.dj⟩ a2 h2
theorem entry {s : S5} {L : List Addr} (r : Okk T B s) (hL1 : ∀ a ∈ L, B a = none) : ∀ {ars : List Arg} {ods : List (Option D)} {vs : List V} {g : List Addr} {ds : List D}, Its T B s ars ods vs g → g.Nodup → (∀ a ∈ g, ¬ O s.φ a) → (ios ars).Nodup → (∀ i ∈ lns ars, ∀ a ∈ s.φ i, a ∈ L) → argD s.ρ ars ods = some ds →
    ∃ φ0 : Nat → List Addr, (∀ (k : Nat) d, ds[k]? = some d → ∃ v, vs[k]? = some v ∧ Rep T (ovl s.H B L) s.H s.F d v (φ0 k)) ∧ (∀ k, ds.length ≤ k → φ0 k = []) ∧ (∀ k, (φ0 k).Nodup) ∧ (∀ k l a, k ≠ l → a ∈ φ0 k → a ∉ φ0 l) ∧ (∀ a, O φ0 a → a ∈ g ∨ ∃ i ∈ ios ars, a ∈ s.φ i) ∧ ds.length = vs.length
  | _, _, _, _, ds, .nil, _, _, _, _, e => by
    have e : ds = [] := (Option.some.inj e).symm
    subst e
    exact ⟨fun _ => [], fun k d h => (by simp at h), fun _ _ => rfl, fun _ => List.Pairwise.nil, fun _ _ _ _ h => (by cases h), fun a ⟨_, h⟩ => (by cases h), rfl⟩
  | _, _, _, _, ds, .v (d := d) (g1 := g1) (g2 := g2) h t, nd, dj, ni, hl, e => by
    obtain ⟨n1, n2, n3⟩ := List.nodup_append.mp nd
    unfold argD at e
    obtain ⟨ds', e1, e2⟩ := Option.map_eq_some_iff.mp e
    subst e2
    obtain ⟨φ0, p1, p2, p3, p4, p5, p6⟩ := entry r hL1 t n2 (fun a q => dj a (List.mem_append.mpr (.inr q))) ni hl e1
    have ex := ovl_ex (H := s.H) (F := B) hL1
    have apart : ∀ a ∈ g1, ¬ O φ0 a := fun a ha q => by
      rcases p5 a q with z | ⟨i, _, z⟩
      · exact n3 a ha a z rfl
      · exact dj a (List.mem_append.mpr (.inl ha)) ⟨i, z⟩
    refine ⟨fun k => match k with | 0 => g1 | k + 1 => φ0 k, fun k d' h' => ?_, fun k hk => ?_, fun k => ?_, fun k l a hn h1 h2 => ?_, fun a ⟨k, q⟩ => ?_, by rw [List.length_cons, List.length_cons, p6]⟩
    · cases k with
      | zero =>
        have z : d = d' := by simpa using h'
        subst z
        exact ⟨_, rfl, h.mono ex (Ex.refl _) fun _ _ _ q => q⟩
      | succ k =>
        obtain ⟨v, q1, q2⟩ := p1 k d' (by simpa using h')
        exact ⟨v, by simpa using q1, q2⟩
    · cases k with
      | zero => rw [List.length_cons] at hk; omega
      | succ k => exact p2 k (by rw [List.length_cons] at hk; omega)
    · cases k with
      | zero => exact n1
      | succ k => exact p3 k
    · cases k with
      | zero =>
        cases l with
        | zero => exact hn rfl
        | succ l => exact apart a h1 ⟨l, h2⟩
      | succ k =>
        cases l with
        | zero => exact apart a h2 ⟨k, h1⟩
        | succ l => exact p4 k l a (fun z => hn (by rw [z])) h1 h2
    · cases k with
      | zero => exact .inl (List.mem_append.mpr (.inl q))
      | succ k => exact (p5 a ⟨k, q⟩).imp (fun z => List.mem_append.mpr (.inr z)) id
  | _, _, _, _, ds, .l (i := i) h t, nd, dj, ni, hl, e => by
    unfold argD at e
    obtain ⟨d0, e0, e⟩ := Option.bind_eq_some_iff.mp e
    obtain ⟨ds', e1, e2⟩ := Option.map_eq_some_iff.mp e
    subst e2
    obtain ⟨φ0, p1, p2, p3, p4, p5, p6⟩ := entry r hL1 t nd dj ni (fun j q => hl j (List.mem_cons_of_mem _ q)) e1
    obtain ⟨v, ev, rp⟩ := r.sl i d0 (slot_some e0)
    rw [h] at ev
    cases ev
    have ex := ovl_ex (H := s.H) (F := B) hL1
    refine ⟨fun k => match k with | 0 => [] | k + 1 => φ0 k, fun k d' h' => ?_, fun k hk => ?_, fun k => ?_, fun k l a hn h1 h2 => ?_, fun a ⟨k, q⟩ => ?_, by rw [List.length_cons, List.length_cons, p6]⟩
    · cases k with
      | zero =>
        have z : mapF flLend d0 = d' := by simpa using h'
        subst z
        exact ⟨_, rfl, rp.lend ex fun a ha o q => by rw [ovl_in (hl i List.mem_cons_self a ha)]; exact q⟩
      | succ k =>
        obtain ⟨v, q1, q2⟩ := p1 k d' (by simpa using h')
        exact ⟨v, by simpa using q1, q2⟩
    · cases k with
      | zero => rfl
      | succ k => exact p2 k (by rw [List.length_cons] at hk; omega)
    · cases k with
      | zero => exact .nil
      | succ k => exact p3 k
    · cases k with
      | zero => cases h1
      | succ k =>
        cases l with
        | zero => cases h2
        | succ l => exact p4 k l a (fun z => hn (by rw [z])) h1 h2
    · cases k with
      | zero => cases q
      | succ k => exact p5 a ⟨k, q⟩
  | _, _, _, _, ds, .io (i := i) h t, nd, dj, ni, hl, e => by
    unfold argD at e
    obtain ⟨d0, e0, e⟩ := Option.bind_eq_some_iff.mp e
    obtain ⟨ds', e1, e2⟩ := Option.map_eq_some_iff.mp e
    subst e2
    obtain ⟨m1, m2⟩ := List.nodup_cons.mp ni
    obtain ⟨φ0, p1, p2, p3, p4, p5, p6⟩ := entry r hL1 t nd dj m2 hl e1
    obtain ⟨v, ev, rp⟩ := r.sl i d0 (slot_some e0)
    rw [h] at ev
    cases ev
    have ex := ovl_ex (H := s.H) (F := B) hL1
    have apart : ∀ a ∈ s.φ i, ¬ O φ0 a := fun a ha q => by
      rcases p5 a q with z | ⟨j, hj, z⟩
      · exact dj a z ⟨i, ha⟩
      · exact r.dj i j a (fun y => m1 (by rw [y]; exact hj)) ha z
    refine ⟨fun k => match k with | 0 => s.φ i | k + 1 => φ0 k, fun k d' h' => ?_, fun k hk => ?_, fun k => ?_, fun k l a hn h1 h2 => ?_, fun a ⟨k, q⟩ => ?_, by rw [List.length_cons, List.length_cons, p6]⟩
    · cases k with
      | zero =>
        have z : d0 = d' := by simpa using h'
        subst z
        exact ⟨_, rfl, rp.mono ex (Ex.refl _) fun _ _ _ q => q⟩
      | succ k =>
        obtain ⟨v, q1, q2⟩ := p1 k d' (by simpa using h')
        exact ⟨v, by simpa using q1, q2⟩
    · cases k with
      | zero => rw [List.length_cons] at hk; omega
      | succ k => exact p2 k (by rw [List.length_cons] at hk; omega)
    · cases k with
      | zero => exact r.nd i
      | succ k => exact p3 k
    · cases k with
      | zero =>
        cases l with
        | zero => exact hn rfl
        | succ l => exact apart a h1 ⟨l, h2⟩
      | succ k =>
        cases l with
        | zero => exact apart a h2 ⟨k, h1⟩
        | succ l => exact p4 k l a (fun z => hn (by rw [z])) h1 h2
    · cases k with
      | zero => exact .inr ⟨i, List.mem_cons_self, q⟩
      | succ k => exact (p5 a ⟨k, q⟩).imp id fun ⟨j, hj, z⟩ => ⟨j, List.mem_cons_of_mem _ hj, z⟩
theorem wb_at {s : S5} {ρ : En} {φ : Nat → List Addr} : ∀ {ars : List Arg} {ods : List (Option D)} {vs : List V} {g : List Addr} {os : En} {ψ : Nat → List Addr}, Its T B s ars ods vs g → ∀ j : Nat,
    (j ∉ ios ars ∧ (wb ars os ρ)[j]? = ρ[j]? ∧ wbF ars ψ φ j = φ j) ∨
      (j ∈ ios ars ∧ ∃ (k : Nat) (v : V) (tc : List Nat), ars[k]? = some (.io j, tc) ∧ wbF ars ψ φ j = ψ k ∧ vs[k]? = some v ∧ s.σ[j]? = some (some v) ∧ (wb ars os ρ)[j]? = (if j < ρ.length then some ((os[k]?).getD .un) else none))
  | _, _, _, _, os, ψ, .nil, j => .inl ⟨fun h => (by cases h), rfl, rfl⟩
  | _, _, _, _, os, ψ, .v h t, j => by
    rcases wb_at (ρ := ρ) (φ := φ) (os := os.tail) (ψ := fun k => ψ (k + 1)) t j with ⟨h1, h2, h3⟩ | ⟨h1, k, v, tc, h2, h3, h4, h5, h6⟩
    · exact .inl ⟨h1, h2, h3⟩
    · refine .inr ⟨h1, k + 1, v, tc, by simpa using h2, h3, by simpa using h4, h5, ?_⟩
      rw [show wb _ os ρ = wb _ os.tail ρ from rfl, h6, List.getElem?_tail]
  | _, _, _, _, os, ψ, .l h t, j => by
    rcases wb_at (ρ := ρ) (φ := φ) (os := os.tail) (ψ := fun k => ψ (k + 1)) t j with ⟨h1, h2, h3⟩ | ⟨h1, k, v, tc, h2, h3, h4, h5, h6⟩
    · exact .inl ⟨h1, h2, h3⟩
    · refine .inr ⟨h1, k + 1, v, tc, by simpa using h2, h3, by simpa using h4, h5, ?_⟩
      rw [show wb _ os ρ = wb _ os.tail ρ from rfl, h6, List.getElem?_tail]
  | _, _, _, _, os, ψ, .io (i := i) (tc := tc0) (r := r) h t, j => by
    have hlen : ∀ (l : List Arg) (os : En), (wb l os ρ).length = ρ.length := by
      intro l
      induction l with
      | nil => intro _; rfl
      | cons a l ih =>
        intro os
        obtain ⟨a, b⟩ := a
        cases a with
        | v f => exact ih _
        | l i => exact ih _
        | io i =>
          show ((wb l os.tail ρ).set i (hd1 os)).length = _
          rw [List.length_set]
          exact ih _
    by_cases z : j = i
    · subst z
      refine .inr ⟨List.mem_cons_self, 0, _, tc0, rfl, by show (if j = j then ψ 0 else _) = _; rw [if_pos rfl], rfl, h, ?_⟩
      show ((wb r os.tail ρ).set j (hd1 os))[j]? = _
      by_cases hj : j < ρ.length
      · rw [List.getElem?_set_self (by rw [hlen]; exact hj), if_pos hj]
        cases os <;> rfl
      · rw [if_neg hj, List.getElem?_eq_none (by rw [List.length_set, hlen]; omega)]
    · rcases wb_at (ρ := ρ) (φ := φ) (os := os.tail) (ψ := fun k => ψ (k + 1)) t j with ⟨h1, h2, h3⟩ | ⟨h1, k, v, tc, h2, h3, h4, h5, h6⟩
      · refine .inl ⟨fun q => ?_, ?_, ?_⟩
        · rcases List.mem_cons.mp q with q | q
          · exact z q
          · exact h1 q
        · show ((wb r os.tail ρ).set i (hd1 os))[j]? = _
          rw [List.getElem?_set_ne fun e => z e.symm]
          exact h2
        · show (if j = i then ψ 0 else _) = _
          rw [if_neg z]
          exact h3
      · refine .inr ⟨List.mem_cons_of_mem _ h1, k + 1, v, tc, by simpa using h2, ?_, by simpa using h4, h5, ?_⟩
        · show (if j = i then ψ 0 else _) = _
          rw [if_neg z]
          exact h3
        · show ((wb r os.tail ρ).set i (hd1 os))[j]? = _
          rw [List.getElem?_set_ne fun e => z e.symm, h6, List.getElem?_tail]
theorem Step.more {H F H1 F1 : Hp} {O1 O2 O3 : Addr → Prop} (s : Step H F O1 H1 F1 O2) (h : ∀ a, O1 a → O3 a) : Step H F O3 H1 F1 O2 :=
  ⟨fun a o e n => s.keep a o e fun z => n (h a z), s.ext, fun a o e n => (s.fn a o e n).imp (h a) id, fun a q => (s.on a q).imp (h a) id⟩
theorem after {s s' : S5} {ars : List Arg} {ods : List (Option D)} {vs : List V} {g gr : List Addr} {φ0 : Nat → List Addr} {B0 : Hp} {os : En} (r : Okk T B s) (it : ItsT T B s ars ods vs g) (p5 : ∀ a, O φ0 a → a ∈ g ∨ ∃ i ∈ ios ars, a ∈ s.φ i)
    (exB : Ex B s.H) (hB0 : ∀ a, B0 a = none → B a = none) (r' : Okk T B0 s') (e1 : s'.σ = vs.map some) (e2 : s'.ρ = os) (nb : NoB os) (st : Step s.H s.F (O φ0) s'.H s'.F (Or2 (O s'.φ) gr)) :
    Rel T s.σ B s'.H s'.F (wb ars os s.ρ) (wbF ars s'.φ s.φ) ∧ Step s.H s.F (Or2 (O s.φ) g) s'.H s'.F (Or2 (O (wbF ars s'.φ s.φ)) gr) ∧ (∀ j, j ∉ ios ars → (wb ars os s.ρ)[j]? = s.ρ[j]? ∧ wbF ars s'.φ s.φ j = s.φ j ∧ ∀ a ∈ s.φ j, s'.H a = s.H a) := by
  have W2 := fun j => wb_at (s := s) (ρ := s.ρ) (φ := s.φ) (os := os) (ψ := s'.φ) it.its j
  have far : ∀ j, j ∉ ios ars → ∀ a ∈ s.φ j, ¬ O φ0 a := fun j hj a ha q => by
    rcases p5 a q with z | ⟨i, hi, z⟩
    · exact it.dj a z ⟨j, ha⟩
    · exact r.dj i j a (fun y => hj (by rw [← y]; exact hi)) z ha
  have farB : ∀ a o, B a = some o → ¬ O φ0 a := fun a o e q => by
    rcases p5 a q with z | ⟨i, _, z⟩
    · rw [(it.ap a z).2] at e; cases e
    · rw [(r.ap i a z).2] at e; cases e
  have keepB : Ex B s'.H := fun a o e => (st.keep a o (exB a o e) (farB a o e)).st (r.xt.ntB a o e)
  have new : ∀ j, j ∉ ios ars → ∀ a ∈ s.φ j, ¬ O s'.φ a ∧ a ∉ gr ∧ s'.F a = none := fun j hj a ha => by
    obtain ⟨o, e⟩ := r.dom ⟨j, ha⟩
    have n : ¬ (O φ0 a ∨ s.H a = none) := fun z => z.elim (far j hj a ha) fun z => by rw [e] at z; cases z
    refine ⟨fun q => n (st.on a (.inl q)), fun q => n (st.on a (.inr q)), ?_⟩
    cases ef : s'.F a with
    | none => rfl
    | some o' => exact absurd (st.fn a o' ef (r.ap j a ha).1) n
  have len : (wb ars os s.ρ).length = s.ρ.length := by
    have z : ∀ (l : List Arg) (os : En), (wb l os s.ρ).length = s.ρ.length := by
      intro l
      induction l with
      | nil => intro _; rfl
      | cons a l ih =>
        intro os
        obtain ⟨a, b⟩ := a
        cases a with
        | v f => exact ih _
        | l i => exact ih _
        | io i =>
          show ((wb l os.tail s.ρ).set i (hd1 os)).length = _
          rw [List.length_set]
          exact ih _
    exact z ars os
  have ioAt : ∀ (k : Nat) x, os[k]? = some x → s'.ρ[k]? = some x := fun k x h => by rw [e2]; exact h
  refine ⟨⟨len.trans r.len, keepB, r'.exF, r'.exP, fun j d q => ?_, fun j q => ?_, fun j q => ?_, fun j => ?_, fun j k a hn h1 h2 => ?_, fun j a h => ?_, ⟨r'.xt.ntF, r.xt.ntB, r'.xt.tb, r'.xt.ta⟩⟩, ⟨?_, st.ext, ?_, ?_⟩, fun j hj => ?_⟩
  · -- a slot's data
    rcases W2 j with ⟨h1, h2, h3⟩ | ⟨h1, k, v, tc, h2, h3, h4, h5, h6⟩
    · rw [h2] at q
      obtain ⟨v, e, rp⟩ := r.sl j d q
      rw [h3]
      exact ⟨v, e, rp.mono (Ex.refl B) st.ext fun a ha o e => (st.keep a o e (far j h1 a ha)).st (rp.nt a ha o e)⟩
    · rw [h6] at q
      split at q
      · have q := Option.some.inj q
        cases eo : os[k]? with
        | none => rw [eo] at q; cases q
        | some x =>
          rw [eo, Option.getD_some] at q
          subst q
          obtain ⟨v', e, rp⟩ := r'.sl k d (ioAt k _ eo)
          rw [e1, List.getElem?_map, h4] at e
          cases e
          rw [h3]
          exact ⟨v, h5, rp.noB (nb k d eo)⟩
      · cases q
  · rcases W2 j with ⟨h1, h2, h3⟩ | ⟨h1, k, v, tc, h2, h3, h4, h5, h6⟩
    · rw [h2] at q
      exact r.xn j q
    · rw [h6] at q
      split at q
      · have q := Option.some.inj q
        cases eo : os[k]? with
        | none => rw [eo] at q; cases q
        | some x =>
          rw [eo, Option.getD_some] at q
          subst q
          obtain ⟨a, ea, eb⟩ := r'.xn k (ioAt k _ eo)
          rw [e1, List.getElem?_map, h4] at eb
          cases eb
          exact ⟨a, ea, h5⟩
      · cases q
  · rcases W2 j with ⟨h1, h2, h3⟩ | ⟨h1, k, v, tc, h2, h3, h4, h5, h6⟩
    · rw [h2] at q
      rw [h3]
      exact r.em j q
    · rw [h3]
      refine r'.em k fun d z => ?_
      rw [e2] at z
      rw [h6, z] at q
      have hj : j < s.ρ.length := by
        rw [r.len]
        exact (List.getElem?_eq_some_iff.mp h5).1
      rw [if_pos hj] at q
      exact q d rfl
  · rcases W2 j with ⟨h1, h2, h3⟩ | ⟨h1, k, v, tc, h2, h3, h4, h5, h6⟩
    · rw [h3]; exact r.nd j
    · rw [h3]; exact r'.nd k
  · rcases W2 j with ⟨x1, x2, x3⟩ | ⟨x1, kj, v, tc, x2, x3, x4, x5, x6⟩
    · rw [x3] at h1
      rcases W2 k with ⟨y1, y2, y3⟩ | ⟨y1, kk, w, tc', y2, y3, y4, y5, y6⟩
      · rw [y3] at h2
        exact r.dj j k a hn h1 h2
      · rw [y3] at h2
        exact (new j x1 a h1).1 ⟨kk, h2⟩
    · rw [x3] at h1
      rcases W2 k with ⟨y1, y2, y3⟩ | ⟨y1, kk, w, tc', y2, y3, y4, y5, y6⟩
      · rw [y3] at h2
        exact (new k y1 a h2).1 ⟨kj, h1⟩
      · rw [y3] at h2
        refine r'.dj kj kk a (fun z => hn ?_) h1 h2
        subst z
        rw [x2] at y2
        cases y2
        rfl
  · rcases W2 j with ⟨x1, x2, x3⟩ | ⟨x1, kj, v, tc, x2, x3, x4, x5, x6⟩
    · rw [x3] at h
      exact ⟨(new j x1 a h).2.2, (r.ap j a h).2⟩
    · rw [x3] at h
      exact ⟨(r'.ap kj a h).1, hB0 a (r'.ap kj a h).2⟩
  · exact fun a o e n => st.keep a o e fun q => n ((p5 a q).elim .inr fun ⟨i, _, z⟩ => .inl ⟨i, z⟩)
  · exact fun a o e n => (st.fn a o e n).imp (fun q => (p5 a q).elim .inr fun ⟨i, _, z⟩ => .inl ⟨i, z⟩) id
  · intro a q
    rcases q with ⟨j, q⟩ | q
    · rcases W2 j with ⟨x1, x2, x3⟩ | ⟨x1, kj, v, tc, x2, x3, x4, x5, x6⟩
      · rw [x3] at q
        exact .inl (.inl ⟨j, q⟩)
      · rw [x3] at q
        exact (st.on a (.inl ⟨kj, q⟩)).imp (fun q => (p5 a q).elim .inr fun ⟨i, _, z⟩ => .inl ⟨i, z⟩) id
    · exact (st.on a (.inr q)).imp (fun q => (p5 a q).elim .inr fun ⟨i, _, z⟩ => .inl ⟨i, z⟩) id
  · rcases W2 j with ⟨x1, x2, x3⟩ | ⟨x1, _⟩
    · refine ⟨x2, x3, fun a ha => ?_⟩
      obtain ⟨o, e⟩ := r.dom ⟨j, ha⟩
      rw [e]
      exact (st.keep a o e (far j hj a ha)).st (r.ntO ⟨j, ha⟩ e)
    · exact absurd x1 hj
def callD (m : List D → Res) (ars : List Arg) (ods : List (Option D)) : M D := fun ρ => match argD ρ ars ods with
  | none => .bad
  | some ds => match m ds with
    | .ok d os => .ok d (wb ars os ρ)
    | .exc c ks xs os => .exc c ks xs (wb ars os ρ)
    | .bad => .bad
theorem call_fin {m : List D → Res} {ars : List Arg} {s s1 : S5} {ods : List (Option D)} {vs : List V} {g : List Addr} {Q : VK} (hn : (ios ars).Nodup) (hl : ∀ i ∈ lns ars, i ∉ ios ars) (r1 : Okk T B s1) (e3 : s1.σ = s.σ) (it : ItsT T B s1 ars ods vs g) (a : Goes (tcs ars) s s1 g)
    (h : Post (okE T B (tcs ars ++ ios ars) s Q) (exE T W B (tcs ars ++ ios ars) s) (callD m ars ods s1.ρ)) : spM T m vs s1.H Q (WE W s.σ) := by
  have hL1 : ∀ x ∈ (lns ars).flatMap s1.φ, B x = none := fun x hx => by
    obtain ⟨i, _, hi⟩ := List.mem_flatMap.mp hx
    exact (r1.ap i x hi).2
  have h : Post (okE T B (tcs ars ++ ios ars) s Q) (exE T W B (tcs ars ++ ios ars) s) (match argD s1.ρ ars ods with
    | none => .bad
    | some ds => match m ds with
      | .ok d os => .ok d (wb ars os s1.ρ)
      | .exc c ks xs os => .exc c ks xs (wb ars os s1.ρ)
      | .bad => .bad) := h
  cases ed : argD s1.ρ ars ods with
  | none => rw [ed] at h; exact h.elim
  | some ds =>
    rw [ed] at h
    obtain ⟨φ0, p1, p2, p3, p4, p5, p6⟩ := entry r1 hL1 it.its it.nd it.dj hn (fun i hi x hx => List.mem_flatMap.mpr ⟨i, hi, hx⟩) ed
    have exB0 : Ex (ovl s1.H B ((lns ars).flatMap s1.φ)) s1.H := ovl_sub r1.exB
    have hB0 : ∀ x, ovl s1.H B ((lns ars).flatMap s1.φ) x = none → B x = none := fun x e => by
      by_cases z : x ∈ (lns ars).flatMap s1.φ
      · exact hL1 x z
      · rw [ovl_out z] at e; exact e
    have apart : ∀ x, O φ0 x → x ∉ (lns ars).flatMap s1.φ := fun x q z => by
      obtain ⟨i, hi, hx⟩ := List.mem_flatMap.mp z
      rcases p5 x q with y | ⟨j, hj, y⟩
      · exact it.dj x y ⟨i, hx⟩
      · exact r1.dj i j x (fun w => hl i hi (by rw [w]; exact hj)) hx y
    let s2 : S5 := { σ := vs.map some, H := s1.H, F := s1.F, ρ := ds.map Sl.dt, φ := φ0 }
    have r2 : Okk T (ovl s1.H B ((lns ars).flatMap s1.φ)) s2 := by
      refine ⟨by show (ds.map Sl.dt).length = (vs.map some).length; rw [List.length_map, List.length_map, p6], exB0, r1.exF, r1.exP, fun k d q => ?_, fun k q => ?_, fun k q => ?_, p3, p4, fun k x q => ?_, r1.xt.ovlB fun a ha o e => by
        obtain ⟨j, _, hj⟩ := List.mem_flatMap.mp ha
        exact r1.ntO ⟨j, hj⟩ e⟩
      · have q : (ds.map Sl.dt)[k]? = some (.dt d) := q
        rw [List.getElem?_map] at q
        cases e : ds[k]? with
        | none => rw [e] at q; cases q
        | some d' =>
          rw [e] at q
          cases q
          obtain ⟨v, q1, q2⟩ := p1 k d e
          exact ⟨v, by show (vs.map some)[k]? = _; rw [List.getElem?_map, q1]; rfl, q2⟩
      · have q : (ds.map Sl.dt)[k]? = some .exn := q
        rw [List.getElem?_map] at q
        cases e : ds[k]? with
        | none => rw [e] at q; cases q
        | some d' => rw [e] at q; cases q
      · refine p2 k ?_
        cases e : ds[k]? with
        | none => exact List.getElem?_eq_none_iff.mp e
        | some d' =>
          refine absurd ?_ (q d')
          show (ds.map Sl.dt)[k]? = _
          rw [List.getElem?_map, e]
          rfl
      · have na : x ∉ (lns ars).flatMap s1.φ := apart x ⟨k, q⟩
        rcases p5 x ⟨k, q⟩ with z | ⟨i, _, z⟩
        · exact ⟨(it.ap x z).1, by rw [ovl_out na]; exact (it.ap x z).2⟩
        · exact ⟨(r1.ap i x z).1, by rw [ovl_out na]; exact (r1.ap i x z).2⟩
    refine ⟨_, s2, ds, rfl, rfl, rfl, r2, ?_⟩
    dsimp only at h
    cases em : m ds with
    | bad => rw [em] at h; exact h.elim
    | ok d os =>
      rw [em] at h
      intro v s' gr x1 x2 r' t nd nb st
      obtain ⟨q1, q2, q3⟩ := after r1 it p5 r1.exB hB0 r' x2 x1 nb st
      refine h v { σ := s1.σ, H := s'.H, F := s'.F, ρ := wb ars os s1.ρ, φ := wbF ars s'.φ s1.φ } gr rfl e3 q1 ⟨t.rep.noB nd, t.nd, fun x hx => ⟨(t.ap x hx).1, hB0 x (t.ap x hx).2⟩, fun x hx q => ?_⟩ ⟨a.step.trans q2, fun j hj => ?_, fun j hj => ?_⟩
      · obtain ⟨j, q⟩ := q
        rcases wb_at (s := s1) (ρ := s1.ρ) (φ := s1.φ) (os := os) (ψ := s'.φ) it.its j with ⟨y1, y2, y3⟩ | ⟨y1, k, w, tc, y2, y3, y4, y5, y6⟩
        · have q : x ∈ wbF ars s'.φ s1.φ j := q
          rw [y3] at q
          obtain ⟨o, e⟩ := r1.dom ⟨j, q⟩
          rcases st.on x (.inr hx) with z | z
          · rcases p5 x z with z | ⟨i, hi, z⟩
            · exact it.dj x z ⟨j, q⟩
            · exact r1.dj i j x (fun y => y1 (by rw [← y]; exact hi)) z q
          · rw [show s2.H x = s1.H x from rfl, e] at z; cases z
        · have q : x ∈ wbF ars s'.φ s1.φ j := q
          rw [y3] at q
          exact t.dj x hx ⟨k, q⟩
      · obtain ⟨b1, b2, b3⟩ := a.fix j fun z => hj (memL z)
        obtain ⟨c1, c2, c3⟩ := q3 j fun z => hj (memR z)
        exact ⟨c1.trans b1, c2.trans b2, fun x hx => (c3 x (by rw [b2]; exact hx)).trans (b3 x hx)⟩
      · exact a.sg j fun z => hj (memL z)
    | exc c ks xs os =>
      rw [em] at h
      intro cls dd s' x1 x2 r' xr nb st
      obtain ⟨q1, q2, q3⟩ := after r1 it p5 r1.exB hB0 r' x2 x1 nb st.or0
      have z := h cls dd { σ := s1.σ, H := s'.H, F := s'.F, ρ := wb ars os s1.ρ, φ := wbF ars s'.φ s1.φ } rfl e3 q1 xr ⟨a.step.trans q2, fun j hj => ?_, fun j hj => ?_⟩
      · show W cls dd s.σ s'.H
        rw [← e3]
        exact z
      · obtain ⟨b1, b2, b3⟩ := a.fix j fun z => hj (memL z)
        obtain ⟨c1, c2, c3⟩ := q3 j fun z => hj (memR z)
        exact ⟨c1.trans b1, c2.trans b2, fun x hx => (c3 x (by rw [b2]; exact hx)).trans (b3 x hx)⟩
      · exact a.sg j fun z => hj (memL z)
def dCall (m : List D → Res) (ars : List Arg) : M D := bnd (dArs ars) fun ods => callD m ars ods
theorem call_core {m : List D → Res} {ars : List Arg} {σ : L2.St} {H : Hp} {Q : VK} (hn : (ios ars).Nodup) (hl : ∀ i ∈ lns ars, i ∉ ios ars) (h : tD T W (tcs ars ++ ios ars) (dCall m ars) σ H Q) : tCallS (spM T m) (WE W) (tRs T W ars) σ H Q := by
  obtain ⟨B, s, e1, e2, r, hp⟩ := h
  subst e1 e2
  exact args_core (s0 := s) (u := []) (g0 := []) Goes.refl rfl (fun _ h => by cases h) (fun j q => memL q) r hp fun ods vs s1 g r1 e3 it a h => call_fin hn hl r1 e3 it a h
end
section
variable {X : Cx} {G : Gx} {W : WX} {tc : List Nat} {a e : Expr} {es : List Expr} {pos p : Pos}
abbrev GR (X : Cx) (G : Gx) (W : WX) (es : List Expr) (ars : List Arg) : Prop := PA X es (tRs (tx X G) W ars)
theorem gr_nil : GR X G W [] [] := pa_nil
theorem gr_v {f : M D} {ars : List Arg} (h1 : GE X G W tc a f) (h2 : GR X G W es ars) (hs : starEach (a :: es) X.env = (false, eval a X.env) :: starEach es X.env := by rfl) : GR X G W (a :: es) ((.v f, tc) :: ars) := pa_cons h1 h2 hs
theorem gr_l {i : Nat} {ars : List Arg} (h1 : PE X a (tVar i)) (h2 : GR X G W es ars) (hs : starEach (a :: es) X.env = (false, eval a X.env) :: starEach es X.env := by rfl) : GR X G W (a :: es) ((.l i, []) :: ars) := pa_cons h1 h2 hs
theorem gr_io {i : Nat} {ars : List Arg} (h1 : PE X a (tVar i)) (h2 : GR X G W es ars) (hs : starEach (a :: es) X.env = (false, eval a X.env) :: starEach es X.env := by rfl) : GR X G W (a :: es) ((.io i, []) :: ars) := pa_cons h1 h2 hs
theorem g_call {k : Nat} {f : Addr} {fd : FuncData} {ps : List Str} {m : List D → Res} {x : Str} {ars : List Arg} (tk : L2N.Takes X W) (F : FnOk X.prog X.w X.K X.mg X.base (L2N.CX X.prog X.w) k f fd ps (spM (tx X G) m)) (hr : Room k X.A) (hg : Gl X x) (hm : X.mg x = some (.ref f)) (hk : PySem.W.keepIn X.K (.ref f) = true) (hb : Binds X.K fd ps [])
    (ha : GR X G W (e :: es) ars) (hn : (ios ars).Nodup := by decide) (hl : ∀ i ∈ lns ars, i ∉ ios ars := by decide) (hdb : (x == ("__debug__" : Str)) = false := by decide) (he : starEach (e :: es) X.env = (false, eval e X.env) :: starEach es X.env := by rfl) (hpl : (backTo pos (starEach es X.env)).any (·.1) = false := by rfl) :
    GE X G W (tcs ars ++ ios ars) (.Call (.Name x p) (e :: es) [] pos) (dCall m ars) :=
  pe_mono (pe_callS F hr hg hm hk hb (fun σ => L2N.passAt tk σ) ha hdb he hpl) fun σ H Q h => call_core hn hl h
end
end Cs
namespace Cs
open PySem L2 Evl PyProof.Rows
structure Src (T : Tx) (B : Hp) (J : It) (n : Nat) (Gd : Hp → Prop) (Y : Nat → Hp → V → Hp → Prop) (F0 : Hp) (items : List D) : Prop where
  w : Walk J n Gd Y
  len : items.length = n
  g : ∀ s : S5, Okk T B s → Ex F0 s.F → Gd s.H
  y : ∀ (i : Nat) (x : V) (H' : Hp) (s : S5), i < n → Okk T B s → Ex F0 s.F → Y i s.H x H' → ∃ d s', items[i]? = some d ∧ s'.H = H' ∧ s'.σ = s.σ ∧ s'.ρ = s.ρ ∧ Okk T B s' ∧ Goes [] s s' [] ∧ Rep T B s'.H s'.F d x []
def okI (T : Tx) (B : Hp) (tc : List Nat) (s : S5) (R : It → Hp → Prop) : List D → En → Prop := fun ds ρ => ∀ J n Gd Y s', s'.ρ = ρ → s'.σ = s.σ → Okk T B s' → Goes tc s s' [] → Src T B J n Gd Y s'.F ds → R J s'.H
def tDI (T : Tx) (W : WX) (tc : List Nat) (f : M (List D)) : TI := fun σ H R => ∃ B s, s.σ = σ ∧ s.H = H ∧ Okk T B s ∧ Post (okI T B tc s R) (exE T W B tc s) (f s.ρ)
abbrev GI (X : Cx) (G : Gx) (W : WX) (tc : List Nat) (tg iter : Expr) (f : M (List D)) : Prop := PI X tg iter (tDI (tx X G) W tc f)
theorem pi_mono {X : Cx} {tg e : Expr} {t t' : TI} (h : PI X tg e t) (i : ∀ σ H R, t' σ H R → t σ H R) : PI X tg e t' := ⟨fun pins s σ H R I q => h.run pins s σ H R I (i σ H R q)⟩
theorem pi_alt {X : Cx} {tg e : Expr} {t u : TI} (h1 : PI X tg e t) (h2 : PI X tg e u) : PI X tg e (fun σ H R => t σ H R ∨ u σ H R) := ⟨fun pins s σ H R I q => q.elim (h1.run pins s σ H R I) (h2.run pins s σ H R I)⟩
def signs (z : Str) : List D := z.cps.toList.map fun c => .str ⟨#[c]⟩
def itemsOf : D → Option (List D)
  | .lst _ xs => some xs
  | .tup xs => some xs
  | .str z => some (signs z)
  | _ => none
def dIt (f : M D) : M (List D) := bnd (dFz f) fun d => match itemsOf d with
  | some ds => ret ds
  | none => bad
mutual
theorem frz_noOw : ∀ d : D, allF noOw (mapF flFrz d) = true
  | .non => by rw [mapF, allF]
  | .bl _ => by rw [mapF, allF]
  | .int _ => by rw [mapF, allF]
  | .str _ => by rw [mapF, allF]
  | .cls _ => by rw [mapF, allF]
  | .tup xs => by rw [mapF, allF]; exact frzs_noOw xs
  | .lst o xs => by rw [mapF, allF, frzs_noOw xs]; cases o <;> rfl
  | .dct o ks xs => by rw [mapF, allF, frzs_noOw xs]; cases o <;> rfl
  | .obj o c ks xs => by rw [mapF, allF, frzs_noOw xs]; cases o <;> rfl
theorem frzs_noOw : ∀ ds : List D, allFs noOw (mapFs flFrz ds) = true
  | [] => by rw [mapFs, allFs]
  | d :: ds => by rw [mapFs, allFs, frz_noOw d, frzs_noOw ds]; rfl
end
theorem Rep.listS {T : Tx} {B H F : Hp} {o : Fl} {ds : List D} {v : V} (r : Rep T B H F (.lst o ds) v []) : ∃ a vs, v = .ref a ∧ Reps T B H F ds vs [] ∧ ∀ H2 F2, Ex F F2 → Ex F2 H2 → Ex B H2 → SqL T.K H2 a vs := by
  cases r with
  | lstF h r => exact ⟨_, _, rfl, r, fun H2 F2 e1 e2 _ => sq_of (e2 _ _ (e1 _ _ h))⟩
  | lstR h r => exact ⟨_, _, rfl, r, fun H2 F2 e1 e2 _ => ex_l e2 (ex_l e1 h)⟩
  | lstB h r => exact ⟨_, _, rfl, r, fun H2 F2 _ _ e => sq_of (e _ _ h)⟩
  | lstO h r e => cases e
theorem Rep.tupS {T : Tx} {B H F : Hp} {ds : List D} {v : V} (r : Rep T B H F (.tup ds) v []) : ∃ a vs, v = .ref a ∧ Reps T B H F ds vs [] ∧ ∀ H2 F2, Ex F F2 → Ex F2 H2 → SqT T.K H2 a vs := by
  cases r with
  | tup h r => exact ⟨_, _, rfl, r, fun H2 F2 e1 e2 => ex_t e2 (ex_t e1 h.sq)⟩
section
variable {T : Tx} {B : Hp} {s : S5}
theorem Reps.get0 {H F : Hp} {i : Nat} {d : D} : ∀ {ds : List D} {vs : List V}, Reps T B H F ds vs [] → ds[i]? = some d → ∃ v, vs[i]? = some v ∧ Rep T B H F d v [] := by
  intro ds
  induction ds generalizing i with
  | nil => intro vs _ b; simp at b
  | cons x ds ih =>
    intro vs a b
    cases a with
    | cons r rs e =>
      obtain ⟨e1, e2⟩ := List.append_eq_nil_iff.mp e.symm
      subst e1 e2
      cases i with
      | zero =>
        have e1 : x = d := by simpa using b
        subst e1
        exact ⟨_, rfl, r⟩
      | succ i =>
        obtain ⟨v, h1, h2⟩ := ih rs (by simpa using b)
        exact ⟨v, by simpa using h1, h2⟩
theorem src_at {a : Addr} {vs : List V} {ds : List D} {J : It} {Gd : Hp → Prop} (w : Walk J vs.length Gd (YAt vs)) (h : ∀ s1 : S5, Okk T B s1 → Ex s.F s1.F → Gd s1.H) (rp : Reps T B s.H s.F ds vs []) : Src T B J vs.length Gd (YAt vs) s.F ds := by
  refine ⟨w, rp.len, fun s1 r e => h s1 r e, fun i x H' s1 hi r e y => ?_⟩
  obtain ⟨e1, e2⟩ := y
  cases ed : ds[i]? with
  | none =>
    rw [List.getElem?_eq_none_iff, rp.len] at ed
    rw [List.getElem?_eq_none ed] at e2
    cases e2
  | some d =>
    obtain ⟨v, q1, q2⟩ := (rp.mono (H' := s1.H) (Ex.refl B) e fun a q => (by cases q)).get0 ed
    rw [e2] at q1
    cases q1
    exact ⟨d, s1, rfl, e1.symm, rfl, rfl, r, Goes.refl, q2⟩
def rng (lo : Int) (n : Nat) : List D := (List.range n).map fun (i : Nat) => .int (lo + (i : Int))
theorem src_range {lo : Int} {n : Nat} : Src T B (Itr lo n) n (fun _ => True) (YFn fun i => .int (lo + i)) s.F (rng lo n) := by
  refine ⟨walk_range, by simp [rng], fun _ _ _ => trivial, fun i x H' s1 hi r e y => ?_⟩
  obtain ⟨e1, e2⟩ := y
  subst e2
  exact ⟨.int (lo + (i : Int)), s1, by simp [rng, hi], e1.symm, rfl, rfl, r, Goes.refl, .int _⟩
theorem src_str {z : Str} (hz : PyData.strOk z = true) : Src T B (L2.Its z) z.cps.size (fun _ => True) (fun i H v H' => H' = H ∧ ∃ c, z.cps[i]? = some c ∧ v = .str ⟨#[c]⟩) s.F (signs z) := by
  refine ⟨walk_str, by simp [signs], fun _ _ _ => trivial, fun i x H' s1 hi r e y => ?_⟩
  obtain ⟨e1, c, ec, e2⟩ := y
  subst e2
  refine ⟨.str ⟨#[c]⟩, s1, by simp [signs, ec], e1.symm, rfl, rfl, r, Goes.refl, .str _ (strOk_sign hz ?_)⟩
  exact Array.mem_def.mp (Array.mem_of_getElem? ec)
end
section
variable {X : Cx} {G : Gx} {W : WX} {tc t1 t2 : List Nat} {tg e a b : Expr} {pos p : Pos} {f u w : M D}
theorem dFz_frz {f : M D} {ρ ρ1 : En} {d : D} (h : dFz f ρ = .ok d ρ1) : allF noOw d = true := by
  unfold dFz at h
  cases e : f ρ with
  | bad => rw [bnd_bad e] at h; cases h
  | exc c ks xs ρ' => rw [bnd_exc e] at h; cases h
  | ok d' ρ' =>
    rw [bnd_ok e] at h
    cases h
    exact frz_noOw d'
theorem gi_seq (h0 : GE X G W tc e f) : GI X G W tc tg e (dIt f) := by
  have h := g_fz h0
  refine pi_mono (pi_alt (pi_list h) (pi_alt (pi_tup h) (pi_str h))) fun σ H R ⟨B, s, e1, e2, rl, hp⟩ => ?_
  subst e1 e2
  cases ef : dFz f s.ρ with
  | bad => unfold dIt at hp; rw [bnd_bad ef] at hp; exact hp.elim
  | exc c ks xs ρ =>
    unfold dIt at hp
    rw [bnd_exc ef] at hp
    exact .inl ⟨B, s, rfl, rfl, rl, by rw [ef]; exact hp⟩
  | ok d ρ =>
    have hp' := hp
    unfold dIt at hp'
    rw [bnd_ok ef] at hp'
    have hn := dFz_frz ef
    cases d with
    | lst o xs =>
      refine .inl (seqE1 rl hp fun d v s1 g ed hs r1 t a h => ?_)
      rw [ef] at ed
      cases ed
      have z := rep_v t.rep hn
      obtain ⟨p, vs, rfl, rp, sq⟩ := z.listS
      exact ⟨p, rfl, ⟨vs, sq s1.H s1.F (Ex.refl _) r1.exF r1.exB⟩, h _ _ _ _ s1 rfl hs r1 a.drop0 (src_at (a := p) walk_list (fun s3 r3 e3 => sq s3.H s3.F e3 r3.exF r3.exB) rp)⟩
    | tup xs =>
      refine .inr (.inl (seqE1 rl hp fun d v s1 g ed hs r1 t a h => ?_))
      rw [ef] at ed
      cases ed
      have z := rep_v t.rep hn
      obtain ⟨p, vs, rfl, rp, sq⟩ := z.tupS
      exact ⟨p, rfl, ⟨vs, sq s1.H s1.F (Ex.refl _) r1.exF⟩, h _ _ _ _ s1 rfl hs r1 a.drop0 (src_at (a := p) walk_tup (fun s3 r3 e3 => sq s3.H s3.F e3 r3.exF) rp)⟩
    | str z =>
      refine .inr (.inr (seqE1 rl hp fun d v s1 g ed hs r1 t a h => ?_))
      rw [ef] at ed
      cases ed
      obtain ⟨rp, _, _, _⟩ := t
      cases rp with
      | str _ hz => exact ⟨z, rfl, h _ _ _ _ s1 rfl hs r1 a.drop0 (src_str hz)⟩
    | _ => exact hp'.elim
def dRg1 (f : M D) : M (List D) := bnd f fun d => match d with
  | .int j => if -1000000 ≤ j ∧ j ≤ 1000000 then ret (rng 0 j.toNat) else bad
  | _ => bad
def dRg2 (f g : M D) : M (List D) := bnd f fun d => bnd g fun e => match d, e with
  | .int i, .int j => if (-1000000 ≤ i ∧ i ≤ 1000000) ∧ -1000000 ≤ j ∧ j ≤ 1000000 then ret (rng i (j - i).toNat) else bad
  | _, _ => bad
theorem gi_range1 (hg : Gl X "range") (hm : X.mg "range" = none) (ha : GE X G W tc a f) (hs : starEach [a] X.env = [(false, eval a X.env)] := by rfl) : GI X G W tc tg (.Call (.Name "range" p) [a] [] pos) (dRg1 f) :=
  pi_mono (pi_range1 hg hm (pa_cons ha pa_nil hs) hs) fun σ H R ⟨B, s, e1, e2, rl, hp⟩ => by
    subst e1 e2
    refine seqE1 rl hp fun d v s1 g _ hs r1 t a h => ?_
    cases d with
    | int j =>
      obtain ⟨rp, _, _, _⟩ := t
      cases rp
      dsimp only at h
      split at h
      · rename_i hj
        exact ⟨j, rfl, by omega, by omega, h _ _ _ _ s1 rfl hs r1 a.drop0 src_range⟩
      · exact h.elim
    | _ => exact h.elim
end
inductive Tg where
  | one (j : Nat)
  | tup (js : List Nat)
def slots : List Nat → List Nat
  | [] => []
  | j :: js => j :: (j + 1000) :: slots js
def Tg.tc : Tg → List Nat
  | .one j => slots [j]
  | .tup js => slots js
def dPuts : List Nat → List D → M Flw
  | [], [] => ret .nx
  | j :: js, d :: ds => fun ρ => if j < ρ.length then dPuts js ds (ρ.set j (.dt d)) else .bad
  | _, _ => bad
def dTg : Tg → D → M Flw
  | .one j, d => dPuts [j] [d]
  | .tup js, .tup ds => dPuts js ds
  | .tup _, _ => bad
def gNames : List Nat → TGs
  | [] => gNil
  | j :: js => gCons (gName j) (gNames js)
def tgR (K : PySem.W.Frag) : Tg → TG
  | .one j => gName j
  | .tup js => gTup K js.length (gNames js)
section
variable {T : Tx} {B : Hp}
theorem puts_core {K1 : L2.St → Hp → Prop} : ∀ {js : List Nat} {ds : List D} {vs : List V} {s : S5} {ρ2 : En}, Okk T B s → Reps T B s.H s.F ds vs [] → dPuts js ds s.ρ = .ok .nx ρ2 → (∀ s2 : S5, s2.ρ = ρ2 → s2.H = s.H → s2.F = s.F → Okk T B s2 → Goes (slots js) s s2 [] → K1 s2.σ s2.H) → gNames js vs s.σ s.H K1
  | [], [], _, s, ρ2, r, .nil, e, h => by
    cases e
    exact ⟨rfl, h s rfl rfl rfl r Goes.refl⟩
  | j :: js, d :: ds, _, s, ρ2, r, .cons (v := v) (vs := vs) r1 rs e0, e, h => by
    obtain ⟨e1, e2⟩ := List.append_eq_nil_iff.mp e0.symm
    subst e1 e2
    unfold dPuts at e
    split at e
    · rename_i hj
      have r2 : Okk T B (s.put j v d []) := r.put (Tmp.flat r1) hj
      have g2 : Goes [j, j + 1000] s (s.put j v d []) [] := Goes.put (tc := []) (Goes.refl)
      refine ⟨v, vs, rfl, puts_core (s := s.put j v d []) r2 rs e fun s2 q1 q2 q3 q4 q5 => h s2 q1 q2 q3 q4 (g2.trans0 q5)⟩
    · cases e
  | [], _ :: _, _, _, _, _, _, e, _ => by cases e
  | _ :: _, [], _, _, _, _, _, e, _ => by cases e
theorem tg_core {K1 : L2.St → Hp → Prop} {tg : Tg} {d : D} {v : V} {s : S5} {ρ2 : En} (r : Okk T B s) (rp : Rep T B s.H s.F d v []) (e : dTg tg d s.ρ = .ok .nx ρ2) (h : ∀ s2 : S5, s2.ρ = ρ2 → s2.H = s.H → s2.F = s.F → Okk T B s2 → Goes tg.tc s s2 [] → K1 s2.σ s2.H) : tgR T.K tg v s.σ s.H K1 := by
  cases tg with
  | one j =>
    have z := puts_core (js := [j]) (ds := [d]) (vs := [v]) r (.cons rp .nil rfl) e h
    obtain ⟨v', r', e', q⟩ := z
    cases e'
    exact q.2
  | tup js =>
    cases d with
    | tup ds =>
      obtain ⟨a, vs, rfl, rs, sq⟩ := rp.tupS
      have hl : ∀ {js : List Nat} {ds : List D} {ρ ρ2 : En}, dPuts js ds ρ = .ok .nx ρ2 → js.length = ds.length := by
        intro js
        induction js with
        | nil => intro ds ρ ρ2 h; cases ds with
          | nil => rfl
          | cons _ _ => cases h
        | cons j js ih => intro ds ρ ρ2 h; cases ds with
          | nil => cases h
          | cons d ds =>
            unfold dPuts at h
            split at h
            · rw [List.length_cons, List.length_cons, ih h]
            · cases h
      exact ⟨a, vs, rfl, sq s.H s.F (Ex.refl _) r.exF, by rw [← rs.len, hl e], puts_core r rs e h⟩
    | _ => cases e
end
def forL (tg : Tg) (fg : List Nat) (body : M Flw) : List D → M Flw
  | [] => ret .nx
  | d :: ds => fun ρ => match dTg tg d ρ with
    | .ok .nx ρ1 => (match body ρ1 with
      | .ok .nx ρ2 => forL tg fg body ds (fgt fg ρ2)
      | .ok .ct ρ2 => forL tg fg body ds (fgt fg ρ2)
      | .ok .bk ρ2 => .ok .nx (fgt fg ρ2)
      | .ok (.rt r) ρ2 => .ok (.rt r) ρ2
      | .exc c ks xs ρ2 => .exc c ks xs ρ2
      | .bad => .bad)
    | _ => .bad
def dFor (src : M (List D)) (tg : Tg) (fg : List Nat) (body : M Flw) : M Flw := bnd src (forL tg fg body)
section
variable {T : Tx} {B : Hp}
theorem fgt_core : ∀ {is : List Nat} {s : S5}, Okk T B s → ∃ s2 : S5, s2.ρ = fgt is s.ρ ∧ s2.σ = s.σ ∧ s2.H = s.H ∧ s2.F = s.F ∧ Okk T B s2 ∧ Goes is s s2 []
  | [], s, r => ⟨s, rfl, rfl, rfl, rfl, r, Goes.refl⟩
  | i :: is, s, r => by
    obtain ⟨s2, h1, h2, h3, h4, h5, h6⟩ := fgt_core (is := is) (s := s.take i) r.take
    exact ⟨s2, h1, h2, h3, h4, h5, ((take_goes (i := i)).trans0 h6).wk fun j q => q⟩
end
section
variable {X : Cx} {G : Gx} {W : WX} {tc t1 tb : List Nat} {tge iter : Expr} {pos p : Pos} {body : List Stmt} {src : M (List D)} {f : M Flw}
theorem for_core {tg : Tg} {fg : List Nat} (hf : ∀ j ∈ fg, j ∈ tg.tc ++ tb) {E : Ends} {σ : L2.St} {H : Hp} : tDS (tx X G) W (t1 ++ (tg.tc ++ tb)) (dFor src tg fg f) E σ H → tFor (tDI (tx X G) W t1 src) (tgR X.K tg) (tDS (tx X G) W tb f) E σ H :=
  fun ⟨B, s, e1, e2, rl, hp⟩ => by
    subst e1 e2
    refine ⟨B, s, rfl, rfl, rl, hp.bnd.imp (fun ds ρ1 ⟨_, h⟩ J n Gd Y s1 q1 q2 r1 a sr => ?_) fun _ _ _ _ h => (h.wk fun _ => memL).toE⟩
    subst q1
    have h1 : Post (okS (tx X G) B (tg.tc ++ tb) s1 E) (exS (tx X G) W B (tg.tc ++ tb) s1) (forL tg fg f ds s1.ρ) := h.imp (fun _ _ q => q.re a) fun _ _ _ _ q => q.re a
    refine for_it sr.w (fun k σ H => ∃ s2 : S5, s2.σ = σ ∧ s2.H = H ∧ Okk (tx X G) B s2 ∧ Goes (tg.tc ++ tb) s1 s2 [] ∧ Post (okS (tx X G) B (tg.tc ++ tb) s1 E) (exS (tx X G) W B (tg.tc ++ tb) s1) (forL tg fg f (ds.drop k) s2.ρ))
      ⟨s1, q2, rfl, r1, Goes.refl, h1⟩ (fun k σ H _ ⟨s2, x1, x2, x3, x4, x5⟩ => ?_) (fun k x σ H H' hk ⟨s2, x1, x2, x3, x4, x5⟩ y => ?_) (fun σ H ⟨s2, x1, x2, x3, x4, x5⟩ => ?_)
    · rw [← x2]
      exact sr.g s2 x3 x4.step.ext
    · subst x1 x2
      obtain ⟨d, s3, y1, y2, y3, y4, y5, y6, y7⟩ := sr.y k x H' s2 hk x3 x4.step.ext y
      subst y2
      have hd : ds.drop k = d :: ds.drop (k + 1) := by
        obtain ⟨hl, e⟩ := List.getElem?_eq_some_iff.mp y1
        rw [← e]
        exact List.drop_eq_getElem_cons hl
      rw [hd] at x5
      unfold forL at x5
      rw [← y4] at x5
      cases et : dTg tg d s3.ρ with
      | bad => rw [et] at x5; exact x5.elim
      | exc c ks xs ρ => rw [et] at x5; exact x5.elim
      | ok fl ρ2 =>
        rw [et] at x5
        cases fl with
        | nx =>
          dsimp only at x5
          rw [← y3]
          refine tg_core (T := tx X G) y5 y7 et fun s4 z1 z2 z3 z4 z5 => ?_
          have g4 : Goes (tg.tc ++ tb) s1 s4 [] := ((x4.trans0 y6).trans0 z5).wk fun j q => by
            rcases List.mem_append.mp q with q | q
            · rcases List.mem_append.mp q with q | q
              · exact q
              · cases q
            · exact memL q
          subst z1
          have more : ∀ s5 : S5, Okk (tx X G) B s5 → Goes tb s4 s5 [] → ∃ s6 : S5, s6.ρ = fgt fg s5.ρ ∧ s6.σ = s5.σ ∧ s6.H = s5.H ∧ Okk (tx X G) B s6 ∧ Goes (tg.tc ++ tb) s1 s6 [] := fun s5 r5 g5 => by
            obtain ⟨s6, w1, w2, w3, _, w5, w6⟩ := fgt_core (is := fg) r5
            refine ⟨s6, w1, w2, w3, w5, ((g4.trans0 g5).trans0 w6).wk fun j q => ?_⟩
            rcases List.mem_append.mp q with q | q
            · rcases List.mem_append.mp q with q | q
              · exact q
              · exact memR q
            · exact hf j q
          refine ⟨B, s4, rfl, rfl, z4, ?_⟩
          have g5 : ∀ {s5 : S5} {g : List Addr}, Goes tb s4 s5 g → Goes (tg.tc ++ tb) s1 s5 g := fun q => (g4.trans0 q).wk fun j z => (List.mem_append.mp z).elim id memR
          cases eb : f s4.ρ with
          | bad => rw [eb] at x5; exact x5.elim
          | exc c ks xs ρ =>
            rw [eb] at x5
            exact fun cls dd s5 w1 w2 w3 w4 => x5 cls dd s5 w1 w2 w3 (g5 w4)
          | ok fl ρ3 =>
            rw [eb] at x5
            cases fl with
            | nx =>
              intro s5 w1 w2 w3
              subst w1
              obtain ⟨s6, v1, v2, v3, v4, v5⟩ := more s5 w2 w3
              exact ⟨s6, v2, v3, v4, v5, by rw [v1]; exact x5⟩
            | ct =>
              intro s5 w1 w2 w3
              subst w1
              obtain ⟨s6, v1, v2, v3, v4, v5⟩ := more s5 w2 w3
              exact ⟨s6, v2, v3, v4, v5, by rw [v1]; exact x5⟩
            | bk =>
              intro s5 w1 w2 w3
              subst w1
              obtain ⟨s6, v1, v2, v3, v4, v5⟩ := more s5 w2 w3
              have z := x5 s6 v1 v4 v5
              rw [v2, v3] at z
              exact z
            | rt r => exact fun v s5 g w1 w2 w3 w4 => x5 v s5 g w1 w2 w3 (g5 w4)
        | bk => exact x5.elim
        | ct => exact x5.elim
        | rt r => exact x5.elim
    · rw [← sr.len, List.drop_length] at x5
      have z := x5 s2 rfl x3 x4
      rw [x1, x2] at z
      exact z
theorem gs_for {tg : Tg} {fg : List Nat} (po : PassesOwn (model X.prog X.w) X.A X.env X.xe) (hc : X.calm = true) (hi : GI X G W t1 tge iter src) (hg : PG X tge (tgR X.K tg)) (hb : GSs X G W tb body f) (hf : ∀ j ∈ fg, j ∈ tg.tc ++ tb := by decide)
    (hs : ∀ x, foldedSetIterable iter X.env x = pure x := by intro _; rfl) : GS X G W (t1 ++ (tg.tc ++ tb)) (.For tge iter body [] pos) (dFor src tg fg f) :=
  ps_mono (ps_for po hc hi hg hb hs) fun E σ H h => for_core hf h
end
end Cs
namespace Cs
open PySem L2 Evl PyProof.Rows
inductive Ty where
  | int | bool | str | list | tuple | dict
def Ty.nm : Ty → String
  | .int => "int"
  | .bool => "bool"
  | .str => "str"
  | .list => "list"
  | .tuple => "tuple"
  | .dict => "dict"
def pLen : D → PR
  | .lst _ xs => .sc (.int xs.length)
  | .tup xs => .sc (.int xs.length)
  | .str s => if s.length ≤ lim then .sc (.int s.length) else .bad
  | _ => .bad
def pList : D → PR
  | .lst _ xs => if allFs noOw xs = true then .nl xs else .bad
  | .tup xs => if allFs noOw xs = true then .nl xs else .bad
  | _ => .bad
def pTuple : D → PR
  | .lst _ xs => if allFs noOw xs = true then .nt xs else .bad
  | .tup xs => if allFs noOw xs = true then .sc (.tup xs) else .bad
  | _ => .bad
def pInt : D → PR
  | .int i => .sc (.int i)
  | .bl k => .sc (.int (if k then 1 else 0))
  | _ => .bad
def pNeg : D → PR
  | .int i => .sc (.int (-i))
  | _ => .bad
def isi : Ty → D → Option Bool
  | t, .non => some false
  | .bool, .bl _ => some true
  | .int, .bl _ => some true
  | _, .bl _ => some false
  | .int, .int _ => some true
  | _, .int _ => some false
  | .str, .str _ => some true
  | _, .str _ => some false
  | .list, .lst _ _ => some true
  | _, .lst _ _ => some false
  | .tuple, .tup _ => some true
  | _, .tup _ => some false
  | .dict, .dct _ _ _ => some true
  | _, .dct _ _ _ => some false
  | _, _ => none
def pIsi (t : Ty) (d : D) : PR := match isi t d with
  | some b => .sc (.bl b)
  | none => .bad
def pMin : D → D → PR
  | .int i, .int j => .sc (.int (if j < i then j else i))
  | _, _ => .bad
section
variable {T : Tx}
theorem p1_len : P1 T (fun x H Q => ∃ y n, [x] = [y] ∧ LenV T.K y H n ∧ Q (.int n) H) pLen := by
  intro B H F d v g eF eB r
  cases d with
  | lst o xs =>
    obtain ⟨p, vs, g1, rfl, sq, rp, _⟩ := r.list eF eB
    refine ⟨_, .int _, fun Q q => ⟨_, vs.length, rfl, .inl ⟨vs, sq, rfl⟩, ?_⟩⟩
    rw [← rp.len]
    exact q
  | tup xs =>
    obtain ⟨p, vs, g1, rfl, sq, rp⟩ := r.tuple eF
    refine ⟨_, .int _, fun Q q => ⟨_, vs.length, rfl, .inr ⟨vs, sq, rfl⟩, ?_⟩⟩
    rw [← rp.len]
    exact q
  | str s =>
    unfold pLen
    dsimp only
    split
    · rename_i hl
      cases r
      exact ⟨_, .int _, fun Q q => ⟨_, s.length, rfl, ⟨lim_le hl, rfl⟩, q⟩⟩
    · trivial
  | _ => trivial
theorem p1_list : P1 T (fun x H Q => ∃ p ys, [x] = [V.ref p] ∧ (SqL T.K H p ys ∨ SqT T.K H p ys) ∧ ∀ l, H l = none → Q (.ref l) (upd H l (.lst ys))) pList := by
  intro B H F d v g eF eB r
  cases d with
  | lst o xs =>
    unfold pList
    dsimp only
    split
    · rename_i hn
      obtain ⟨p, vs, g1, rfl, sq, rp, _⟩ := r.list eF eB
      exact ⟨vs, rp.noOw hn, fun Q k => ⟨p, vs, rfl, .inl sq, k⟩⟩
    · trivial
  | tup xs =>
    unfold pList
    dsimp only
    split
    · rename_i hn
      obtain ⟨p, vs, g1, rfl, sq, rp⟩ := r.tuple eF
      exact ⟨vs, rp.noOw hn, fun Q k => ⟨p, vs, rfl, .inr sq, k⟩⟩
    · trivial
  | _ => trivial
def rTupZ (K : PySem.W.Frag) : List V → Hp → VK → Prop := fun xs H Q => ∃ p ys, xs = [.ref p] ∧ ((SqL K H p ys ∧ ∀ l (o : Obj), o.dict = none → H l = none → Q (.ref l) (upd H l (.frz o (.tup ys)))) ∨ (SqT K H p ys ∧ Q (.ref p) H))
theorem call_tupZ {X : Cx} : CallR X (.type "tuple") (rTupZ X.K) := by
  rintro pins s σ H xs us Q I r ⟨p, ys, rfl, h⟩
  obtain ⟨u, rfl, rx⟩ := vals1 r
  cases rx
  rcases h with ⟨sq, q⟩ | ⟨sq, q⟩
  · obtain ⟨its, r', pl, hz⟩ := I.list sq
    have hlen := r'.length
    refine call_tuple_list pl.isList ?_ (by simp only [List.size_toArray] <;> omega)
    intro h' kp
    have I1 : Inv X pins σ H { s with heap := h' } := I.kept (t' := s.toks) kp
    have hg : (h'.push ({ cls := .type "tuple", data := .seq its.toArray } : Obj)).get? h'.objs.size = some { cls := .type "tuple", data := .seq its.toArray } := Heap.get?_push_size _ rfl
    have hk : ∀ b u, h'.get? b = some u → (h'.push ({ cls := .type "tuple", data := .seq its.toArray } : Obj)).get? b = some u := fun b u e => Heap.get?_push_of_some _ e
    have J := I1.laid (t' := s.toks) (o := .frz { cls := .type "tuple", data := .seq its.toArray } (.tup ys)) hk (Nat.le_refl _) ⟨hg, hz, its, r', _, hg, rfl, _, rfl⟩
    exact ⟨.ref h'.objs.size, _, J, rfl, q _ _ rfl (I1.hok.fresh (Nat.le_refl _))⟩
  · obtain ⟨its, r', pl, hz⟩ := I.tuple sq
    exact call_tuple_same pl ⟨.ref p, H, I, rfl, q⟩
theorem p1_tuple : P1 T (fun x H Q => rTupZ T.K [x] H Q) pTuple := by
  intro B H F d v g eF eB r
  cases d with
  | lst o xs =>
    unfold pTuple
    dsimp only
    split
    · rename_i hn
      obtain ⟨p, vs, g1, rfl, sq, rp, _⟩ := r.list eF eB
      exact ⟨vs, rp.noOw hn, fun Q k => ⟨p, vs, rfl, .inl ⟨sq, k⟩⟩⟩
    · trivial
  | tup xs =>
    unfold pTuple
    dsimp only
    split
    · rename_i hn
      have z := rep_v r (show allF noOw (.tup xs) = true by rw [allF]; exact hn)
      obtain ⟨p, vs, g1, rfl, sq, rp⟩ := r.tuple eF
      exact ⟨_, z, fun Q k => ⟨p, vs, rfl, .inr ⟨sq, k⟩⟩⟩
    · trivial
  | _ => trivial
theorem p1_int : P1 T (fun x H Q => (∃ i, [x] = [V.int i] ∧ Q (.int i) H) ∨ ∃ k, [x] = [V.bl k] ∧ Q (.int (if k then 1 else 0)) H) pInt := by
  intro B H F d v g eF eB r
  cases d with
  | int i => cases r; exact ⟨_, .int _, fun Q q => .inl ⟨i, rfl, q⟩⟩
  | bl k => cases r; exact ⟨_, .int _, fun Q q => .inr ⟨k, rfl, q⟩⟩
  | _ => trivial
theorem p2_min : P2 T (fun x y H Q => ∃ i j, [x, y] = [V.int i, .int j] ∧ Q (.int (if j < i then j else i)) H) pMin := by
  intro B H F d v g e u k eF eB r1 r2
  cases d with
  | int i =>
    cases e with
    | int j => cases r1; cases r2; exact ⟨_, .int _, fun Q q => ⟨i, j, rfl, q⟩⟩
    | _ => trivial
  | _ => trivial
theorem ty_list {K : PySem.W.Frag} {H : Hp} {p : Addr} {vs : List V} (h : SqL K H p vs) : TyX K H (.ref p) (.type "list") := by
  rcases h with (h | ⟨o, h⟩) | ⟨o, its, n, h1, h2, _⟩
  · exact .base (.lst h)
  · exact .base (.frz h)
  · exact .kList h1 h2
theorem ty_tup {K : PySem.W.Frag} {H : Hp} {p : Addr} {vs : List V} (h : SqT K H p vs) : TyX K H (.ref p) (.type "tuple") := by
  rcases h with (h | ⟨o, h⟩) | ⟨o, its, n, h1, h2, _⟩
  · exact .base (.tup h)
  · exact .fTuple h
  · exact .kTuple h1 h2
theorem p1_isi (t : Ty) : P1 T (fun x H Q => rIsi T.K [x, .ty t.nm] H Q) (pIsi t) := by
  intro B H F d v g eF eB r
  unfold pIsi
  cases ei : isi t d with
  | none => trivial
  | some b =>
    refine ⟨_, .bl b, fun Q q => ?_⟩
    cases r with
    | non => exact ⟨_, _, _, _, b, rfl, .ty _, .base .non, kit_ty (by cases t <;> cases ei <;> decide +kernel), q⟩
    | bl c => exact ⟨_, _, _, _, b, rfl, .ty _, .base (.bl c), kit_ty (by cases t <;> cases ei <;> decide +kernel), q⟩
    | int c => exact ⟨_, _, _, _, b, rfl, .ty _, .base (.int c), kit_ty (by cases t <;> cases ei <;> decide +kernel), q⟩
    | str c _ => exact ⟨_, _, _, _, b, rfl, .ty _, .base (.str c), kit_ty (by cases t <;> cases ei <;> decide +kernel), q⟩
    | cls _ => cases t <;> cases ei
    | tup h _ => exact ⟨_, _, _, _, b, rfl, .ty _, ty_tup (ex_t eF h.sq), kit_ty (by cases t <;> cases ei <;> decide +kernel), q⟩
    | lstF h _ => exact ⟨_, _, _, _, b, rfl, .ty _, ty_list (sq_of (eF _ _ h)), kit_ty (by cases t <;> cases ei <;> decide +kernel), q⟩
    | lstR h _ => exact ⟨_, _, _, _, b, rfl, .ty _, ty_list (ex_l eF h), kit_ty (by cases t <;> cases ei <;> decide +kernel), q⟩
    | lstB h _ => exact ⟨_, _, _, _, b, rfl, .ty _, ty_list (sq_of (eB _ _ h)), kit_ty (by cases t <;> cases ei <;> decide +kernel), q⟩
    | lstO h _ _ => exact ⟨_, _, _, _, b, rfl, .ty _, ty_list (sq_of h), kit_ty (by cases t <;> cases ei <;> decide +kernel), q⟩
    | dctF h _ _ => exact ⟨_, _, _, _, b, rfl, .ty _, .base (.dK (eF _ _ h)), kit_ty (by cases t <;> cases ei <;> decide +kernel), q⟩
    | dctB h _ _ => exact ⟨_, _, _, _, b, rfl, .ty _, .base (.dK (eB _ _ h)), kit_ty (by cases t <;> cases ei <;> decide +kernel), q⟩
    | dctO h _ _ _ => exact ⟨_, _, _, _, b, rfl, .ty _, .base (.dK h), kit_ty (by cases t <;> cases ei <;> decide +kernel), q⟩
    | objF _ _ _ _ _ => cases t <;> cases ei
    | objB _ _ _ _ _ => cases t <;> cases ei
    | objO _ _ _ _ _ _ => cases t <;> cases ei
end
section
variable {X : Cx} {G : Gx} {W : WX} {tc t1 t2 : List Nat} {a b : Expr} {o o1 o2 : Opd} {pos p p2 : Pos}
theorem g_len (hg : Gl X "len") (hm : X.mg "len" = none) (h : GO X G W tc a o) (hs : starEach [a] X.env = (false, eval a X.env) :: starEach [] X.env := by rfl) : GE X G W tc (.Call (.Name "len" p) [a] [] pos) (dOp1 pLen o) :=
  tun_of p1_len h fun _ h => pe_callB call_len hg hm PySem.boot_len (pa_cons h pa_nil hs) (by decide) (by decide) hs
theorem g_list (hg : Gl X "list") (hm : X.mg "list" = none) (h : GO X G W tc a o) (hs : starEach [a] X.env = (false, eval a X.env) :: starEach [] X.env := by rfl) : GE X G W tc (.Call (.Name "list" p) [a] [] pos) (dOp1 pList o) :=
  tun_of p1_list h fun _ h => pe_callTy call_list_of hg hm (by decide +kernel) (pa_cons h pa_nil hs) (by decide) (by decide) hs
theorem g_tuple (hg : Gl X "tuple") (hm : X.mg "tuple" = none) (h : GO X G W tc a o) (hs : starEach [a] X.env = (false, eval a X.env) :: starEach [] X.env := by rfl) : GE X G W tc (.Call (.Name "tuple" p) [a] [] pos) (dOp1 pTuple o) :=
  tun_of p1_tuple h fun _ h => pe_callTy call_tupZ hg hm (by decide +kernel) (pa_cons h pa_nil hs) (by decide) (by decide) hs
theorem g_intC (hg : Gl X "int") (hm : X.mg "int" = none) (h : GO X G W tc a o) (hs : starEach [a] X.env = (false, eval a X.env) :: starEach [] X.env := by rfl) : GE X G W tc (.Call (.Name "int" p) [a] [] pos) (dOp1 pInt o) :=
  tun_of p1_int h fun _ h => pe_callTy call_int1 hg hm (by decide +kernel) (pa_cons h pa_nil hs) (by decide) (by decide) hs
theorem g_min (hc : X.calm = true) (hg : Gl X "min") (hm : X.mg "min" = none) (h1 : GO X G W t1 a o1) (h2 : GO X G W t2 b o2) (hs : starEach [a, b] X.env = (false, eval a X.env) :: starEach [b] X.env := by rfl) (hs2 : starEach [b] X.env = (false, eval b X.env) :: starEach [] X.env := by rfl)
    (hpl : (backTo pos (starEach [b] X.env)).any (·.1) = false := by rfl) : GE X G W (t1 ++ t2) (.Call (.Name "min" p) [a, b] [] pos) (dOp2 pMin o1 o2) :=
  top_of p2_min h1 h2 fun _ _ h1 h2 => pe_callB (call_min2 hc) hg hm (by decide +kernel) (pa_cons h1 (pa_cons h2 pa_nil hs2) hs) (by decide) (by decide) hs hpl
theorem g_isi (t : Ty) {x : Str} (hg : Gl X "isinstance") (hm : X.mg "isinstance" = none) (hg2 : Gl X x) (hm2 : X.mg x = none) (hx : bootBuiltins x = some (.type t.nm)) (hn : x ≠ "__name__") (hd : (x == ("__debug__" : Str)) = false) (h : GO X G W tc a o)
    (hs : starEach [a, .Name x p2] X.env = (false, eval a X.env) :: starEach [.Name x p2] X.env := by rfl) (hs2 : starEach [.Name x p2] X.env = (false, eval (.Name x p2) X.env) :: starEach [] X.env := by rfl)
    (hpl : (backTo pos (starEach [.Name x p2] X.env)).any (·.1) = false := by rfl) : GE X G W tc (.Call (.Name "isinstance" p) [a, .Name x p2] [] pos) (dOp1 (pIsi t) o) :=
  tun_of (p1_isi t) h fun _ h => pe_callB call_isi hg hm (by decide +kernel) (pa_cons h (pa_cons (pe_bltn (v := .ty t.nm) hg2 hm2 hx rfl hn hd) pa_nil hs2) hs) (by decide) (by decide) hs hpl
end
end Cs
namespace Cs
open PySem L2 Evl PyProof.Rows
section
variable {T : Tx} {B : Hp} {s : S5}
abbrev S5.mut (s : S5) (i : Nat) (p : Addr) (o : HO) (d' : D) (g : List Addr) : S5 := { s with H := upd s.H p o, ρ := s.ρ.set i (.dt d'), φ := fun j => if j = i then g else s.φ j }
theorem mut_ok {i : Nat} {d d' : D} {v : V} {p : Addr} {o : HO} {g gt : List Addr} (r : Okk T B s) (hs : s.ρ[i]? = some (.dt d)) (hv : s.σ[i]? = some (some v)) (hp : p ∈ s.φ i)
    (rp : Rep T B (upd s.H p o) s.F d' v g) (gn : g.Nodup) (gg : ∀ a ∈ g, a ∈ s.φ i ∨ a ∈ gt) (gap : ∀ a ∈ gt, s.F a = none ∧ B a = none) (gdj : ∀ a ∈ gt, ¬ O s.φ a) (no : Nt o := by intro _ e; cases e) : Okk T B (s.mut i p o d' g) := by
  obtain ⟨hF, hB⟩ := r.ap i p hp
  have ne : ∀ j a, j ≠ i → a ∈ s.φ j → a ≠ p := fun j a hj ha e => r.dj j i a hj ha (by rw [e]; exact hp)
  have exU : ∀ (Z : Hp), Z p = none → Ex Z s.H → Ex Z (upd s.H p o) := fun Z hz e a u q => by
    rw [upd_ne (fun z => by rw [z, hz] at q; cases q)]
    exact e a u q
  have hi : i < s.ρ.length := (List.getElem?_eq_some_iff.mp hs).1
  refine ⟨by show (s.ρ.set i _).length = _; rw [List.length_set]; exact r.len, exU B hB r.exB, exU s.F hF r.exF, r.exP, fun j e q => ?_, fun j q => ?_, fun j q => ?_, fun j => ?_, fun j k a hn h1 h2 => ?_, fun j a h => ?_, r.xt.upd (fun u e => r.nmO ⟨i, hp⟩ e) no⟩
  · by_cases z : j = i
    · subst z
      have q : (s.ρ.set j (.dt d'))[j]? = some (.dt e) := q
      rw [List.getElem?_set_self hi] at q
      cases q
      refine ⟨v, hv, ?_⟩
      show Rep T B (upd s.H p o) s.F d' v (if j = j then g else s.φ j)
      rw [if_pos rfl]
      exact rp
    · have q : (s.ρ.set i (.dt d'))[j]? = some (.dt e) := q
      rw [List.getElem?_set_ne (fun e => z e.symm)] at q
      obtain ⟨w, e2, rq⟩ := r.sl j e q
      refine ⟨w, e2, ?_⟩
      show Rep T B (upd s.H p o) s.F e w (if j = i then g else s.φ j)
      rw [if_neg z]
      exact rq.mono (Ex.refl B) (Ex.refl _) fun a ha u q => by rw [upd_ne (ne j a z ha)]; exact q
  · by_cases z : j = i
    · subst z
      have q : (s.ρ.set j (.dt d'))[j]? = some .exn := q
      rw [List.getElem?_set_self hi] at q
      cases q
    · have q : (s.ρ.set i (.dt d'))[j]? = some .exn := q
      rw [List.getElem?_set_ne (fun e => z e.symm)] at q
      exact r.xn j q
  · show (if j = i then g else s.φ j) = []
    by_cases z : j = i
    · subst z
      exact absurd (show (s.ρ.set j (.dt d'))[j]? = some (.dt d') from List.getElem?_set_self hi) (q d')
    · rw [if_neg z]
      refine r.em j fun e h => q e ?_
      show (s.ρ.set i (.dt d'))[j]? = _
      rw [List.getElem?_set_ne (fun e => z e.symm)]
      exact h
  · show (if j = i then g else s.φ j).Nodup
    split
    · exact gn
    · exact r.nd j
  · have h1 : a ∈ (if j = i then g else s.φ j) := h1
    have h2 : a ∈ (if k = i then g else s.φ k) := h2
    split at h1
    · rename_i z
      split at h2
      · rename_i z2; exact hn (z.trans z2.symm)
      · rename_i z2
        rcases gg a h1 with y | y
        · exact r.dj i k a (fun e => z2 e.symm) y h2
        · exact gdj a y ⟨k, h2⟩
    · rename_i z
      split at h2
      · rcases gg a h2 with y | y
        · exact r.dj i j a (fun e => z e.symm) y h1
        · exact gdj a y ⟨j, h1⟩
      · exact r.dj j k a hn h1 h2
  · have h : a ∈ (if j = i then g else s.φ j) := h
    split at h
    · rcases gg a h with y | y
      · exact r.ap i a y
      · exact gap a y
    · exact r.ap j a h
theorem mut_goes {i : Nat} {d' : D} {p : Addr} {o : HO} {g gt : List Addr} {tc : List Nat} {s0 : S5} (r : Okk T B s) (a : Goes tc s0 s gt) (hp : p ∈ s.φ i) (gg : ∀ a ∈ g, a ∈ s.φ i ∨ a ∈ gt) : Goes (tc ++ [i]) s0 (s.mut i p o d' g) [] := by
  refine ⟨⟨fun x u e n => ?_, a.step.ext, a.step.fn, fun x q => ?_⟩, fun j h => ?_, fun j h => a.sg j fun z => h (memL z)⟩
  · have e2 := a.step.keep x u e n
    show KO (upd s.H p o) x u
    refine e2.off fun z => ?_
    · subst z
      rcases a.step.on x (.inl ⟨i, hp⟩) with y | y
      · exact n y
      · rw [e] at y; cases y
  · rcases q with ⟨j, q⟩ | q
    · have q : x ∈ (if j = i then g else s.φ j) := q
      split at q
      · rcases gg x q with y | y
        · exact a.step.on x (.inl ⟨i, y⟩)
        · exact a.step.on x (.inr y)
      · exact a.step.on x (.inl ⟨j, q⟩)
    · cases q
  · have h1 : j ∉ tc := fun z => h (memL z)
    have h2 : j ≠ i := fun z => h (memR (by rw [z]; exact List.mem_cons_self))
    obtain ⟨x1, x2, x3⟩ := a.fix j h1
    refine ⟨(List.getElem?_set_ne fun e => h2 e.symm).trans x1, (if_neg h2).trans x2, fun x hx => ?_⟩
    show upd s.H p o x = _
    rw [upd_ne fun z => ?_]
    · exact x3 x hx
    · subst z
      exact r.dj j i x h2 (by rw [x2]; exact hx) hp
theorem Reps.snoc {H F : Hp} {ds : List D} {vs : List V} {fp g : List Addr} {d : D} {v : V} : Reps T B H F ds vs fp → Rep T B H F d v g → Reps T B H F (ds ++ [d]) (vs ++ [v]) (fp ++ g) := by
  intro a b
  induction ds generalizing vs fp with
  | nil =>
    cases a
    exact .cons b .nil (by simp)
  | cons x ds ih =>
    cases a with
    | cons r rs e =>
      subst e
      exact .cons r (ih rs) (by simp)
end
def slotL (i : Nat) (ρ : En) : Option (List D) := match slot i ρ with
  | some (.lst .ow xs) => some xs
  | _ => none
theorem slotL_some {i : Nat} {ρ : En} {xs : List D} (h : slotL i ρ = some xs) : ρ[i]? = some (.dt (.lst .ow xs)) := by
  unfold slotL at h
  split at h
  · rename_i ys e
    cases h
    exact slot_some e
  · cases h
def dMutL (i : Nat) (op : List D → Option (List D)) : M Flw := fun ρ => match slotL i ρ with
  | some xs => (match op xs with
    | some ys => .ok .nx (ρ.set i (.dt (.lst .ow ys)))
    | none => .bad)
  | none => .bad
def dIsL (i : Nat) (k : M Flw) : M Flw := fun ρ => match slotL i ρ with
  | some _ => k ρ
  | none => .bad
def dApp (i : Nat) (f : M D) : M Flw := dIsL i (bnd f fun d => dMutL i fun xs => if xs.length < lim then some (xs ++ [d]) else none)
def dExt (i : Nat) (f : M D) : M Flw := dIsL i (bnd f fun d => dMutL i fun xs => match d with
  | .lst o ys => if (o ≠ .ro ∧ allFs noOw ys = true) ∧ xs.length + ys.length ≤ lim then some (xs ++ ys) else none
  | _ => none)
def dClr (i : Nat) : M Flw := dMutL i fun _ => some []
def dRev (i : Nat) : M Flw := dMutL i fun xs => if allFs noOw xs = true then some xs.reverse else none
section
variable {T : Tx} {B : Hp} {s : S5}
theorem isL_core {i : Nat} {k : M Flw} {okk : Flw → En → Prop} {exk : Str → List Str → List D → En → Prop} (r : Okk T B s) (h : Post okk exk (dIsL i k s.ρ)) : ∃ p vs, s.σ[i]? = some (some (.ref p)) ∧ s.H p = some (.lst vs) ∧ Post okk exk (k s.ρ) := by
  unfold dIsL at h
  cases e : slotL i s.ρ with
  | none => rw [e] at h; exact h.elim
  | some xs =>
    rw [e] at h
    obtain ⟨v, ev, rp⟩ := r.sl i _ (slotL_some e)
    cases rp with
    | lstO q _ _ => exact ⟨_, _, ev, q, h⟩
theorem mutL_open {i : Nat} {op : List D → Option (List D)} {okk : Flw → En → Prop} {exk : Str → List Str → List D → En → Prop} (r : Okk T B s) (h : Post okk exk (dMutL i op s.ρ)) :
    ∃ p vs fp xs ys, s.ρ[i]? = some (.dt (.lst .ow xs)) ∧ s.σ[i]? = some (some (.ref p)) ∧ s.H p = some (.lst vs) ∧ Reps T B s.H s.F xs vs fp ∧ s.φ i = p :: fp ∧ op xs = some ys ∧ okk .nx (s.ρ.set i (.dt (.lst .ow ys))) := by
  unfold dMutL at h
  cases e : slotL i s.ρ with
  | none => rw [e] at h; exact h.elim
  | some xs =>
    rw [e] at h
    dsimp only at h
    cases eo : op xs with
    | none => rw [eo] at h; exact h.elim
    | some ys =>
      rw [eo] at h
      obtain ⟨v, ev, rp⟩ := r.sl i _ (slotL_some e)
      generalize eg : s.φ i = gp at rp
      cases rp with
      | lstO q rs eq => exact ⟨_, _, _, xs, ys, slotL_some e, ev, q, rs, eq, eo, h⟩
end
section
variable {X : Cx} {G : Gx} {W : WX} {tc t1 t2 : List Nat} {a b e : Expr} {pos pos' apos cpos p p2 : Pos} {u w : M D} {i : Nat} {x : Str}
theorem app_core {T : Tx} {i : Nat} {σ : L2.St} {H : Hp} {E : Ends} (h : tDS T W (tc ++ [i]) (dApp i u) E σ H) : tDrop (tBM T.K "list" rAppend (tVar i) (tCons (tD T W tc u) tNil)) E σ H := by
  obtain ⟨B, s, e1, e2, r, hp⟩ := h
  subst e1 e2
  obtain ⟨p, vs, ev, hl, hp⟩ := isL_core r hp
  refine ⟨.ref p, ev, .inl ⟨rfl, vs, sq_of hl⟩, ?_⟩
  refine seqES r hp (fun _ => memL) fun d v s1 g _ hs r1 t a h => ?_
  obtain ⟨p1, vs1, fp, xs, ys, q1, q2, q3, q4, q5, q6, q7⟩ := mutL_open r1 h
  rw [hs, ev] at q2
  cases q2
  split at q6
  · rename_i hlen
    cases q6
    have hnd := r1.nd i
    rw [q5] at hnd
    obtain ⟨n1, n2⟩ := List.nodup_cons.mp hnd
    have pg : p ∉ g := fun z => t.dj p z ⟨i, by rw [q5]; exact List.mem_cons_self⟩
    have dg : ∀ x ∈ fp, x ∉ g := fun x hx z => t.dj x z ⟨i, by rw [q5]; exact List.mem_cons_of_mem _ hx⟩
    have keep : ∀ x, x ≠ p → ∀ o, s1.H x = some o → upd s1.H p (.lst (vs1 ++ [v])) x = some o := fun x hx o q => by rw [upd_ne hx]; exact q
    have hok := mut_ok (gt := g) (o := .lst (vs1 ++ [v])) (d' := .lst .ow (xs ++ [d])) (g := p :: (fp ++ g)) r1 q1 (by rw [hs]; exact ev) (by rw [q5]; exact List.mem_cons_self)
      (.lstO upd_same ((q4.mono (Ex.refl B) (Ex.refl _) fun x hx => keep x fun z => n1 (by rw [← z]; exact hx)).snoc (t.rep.mono (Ex.refl B) (Ex.refl _) fun x hx => keep x fun z => pg (by rw [← z]; exact hx))) rfl)
      (List.nodup_cons.mpr ⟨fun z => (List.mem_append.mp z).elim n1 pg, List.nodup_append.mpr ⟨n2, t.nd, fun x hx y hy e => dg x hx (by rw [e]; exact hy)⟩⟩)
      (fun x hx => by
        rcases List.mem_cons.mp hx with z | z
        · exact .inl (by rw [q5, z]; exact List.mem_cons_self)
        · rcases List.mem_append.mp z with z | z
          · exact .inl (by rw [q5]; exact List.mem_cons_of_mem _ z)
          · exact .inr z) t.ap t.dj
    refine ⟨p, vs1, v, rfl, rfl, q3, by rw [← q4.len]; exact lim_lt hlen, ?_⟩
    have z := q7 _ rfl hok (mut_goes r1 a (by rw [q5]; exact List.mem_cons_self) fun x hx => by
        rcases List.mem_cons.mp hx with z | z
        · exact .inl (by rw [q5, z]; exact List.mem_cons_self)
        · rcases List.mem_append.mp z with z | z
          · exact .inl (by rw [q5]; exact List.mem_cons_of_mem _ z)
          · exact .inr z)
    rw [show (s1.mut i p _ _ _).σ = s.σ from hs] at z
    exact z
  · cases q6
theorem gs_app (hv : PE X (.Name x p) (tVar i)) (h : GE X G W tc a u) (hs : starEach [a] X.env = (false, eval a X.env) :: starEach [] X.env := by rfl)
    (hbase : attributeBase (.Name x p) "append" X.env (eval (.Name x p) X.env) = eval (.Name x p) X.env := by rfl) (hline : (apos.endLine == cpos.line) = true := by rfl)
    (hfew : ((backTo cpos (starEach [a] X.env)).all (fun x => !x.1) && (backToKw cpos (keywordEach [] X.env)).all (fun x => x.1.isSome)
      && decide ([a].length + ([] : List Keyword).length + (if ([] : List Keyword).isEmpty then 0 else 1) < 30)) = true := by rfl)
    (hsw : swapsWith (.Call (.Attribute (.Name x p) "append" apos) [a] [] cpos) none pos.line X.env = pure false := by rfl) : GS X G W (tc ++ [i]) (.Expr (.Call (.Attribute (.Name x p) "append" apos) [a] [] cpos) pos) (dApp i u) :=
  ps_mono (ps_expr (pe_bm PySem.F.plainAttrs_list PySem.F.slot_list_append PySem.F.type_list_append mt_append hv (pa_cons h pa_nil hs) hbase hfew hline hs rfl) hsw) fun E σ H h => app_core h
def setAt (k : D) (d : D) (xs : List D) : Option (List D) := match k with
  | .int j => (match ixN xs.length j with
    | some n => if allFs noOw xs = true ∧ allF noOw d = true then some (xs.set n d) else none
    | none => none)
  | _ => none
def dSet (i : Nat) (fk fe : M D) : M Flw := bnd (dFz fe) fun d => bnd (dPk i) fun _ => bnd fk fun k => dMutL i (setAt k d)
theorem Reps.set {T : Tx} {B H F : Hp} {d : D} {v : V} (h : Rep T B H F d v []) : ∀ {ds : List D} {vs : List V} (k : Nat), Reps T B H F ds vs [] → Reps T B H F (ds.set k d) (vs.set k v) []
  | _, _, _, .nil => .nil
  | _, _, 0, .cons r rs e => by
    obtain ⟨e1, e2⟩ := List.append_eq_nil_iff.mp e.symm
    subst e1 e2
    exact .cons h rs rfl
  | _, _, k + 1, .cons r rs e => by
    obtain ⟨e1, e2⟩ := List.append_eq_nil_iff.mp e.symm
    subst e1 e2
    exact .cons r (Reps.set h k rs) rfl
theorem set_core {T : Tx} {i : Nat} {σ : L2.St} {H : Hp} {E : Ends} (h : tDS T W (t1 ++ (t2 ++ [i])) (dSet i w u) E σ H) : tAsg (tD T W t1 (dFz u)) (gSub (tVar i) (tD T W t2 w) rSetL) E σ H := by
  obtain ⟨B, s, e1, e2, r, hp⟩ := h
  subst e1 e2
  refine seqES r hp (fun _ => memL) fun d v s1 g ed hs r1 t a h => ?_
  have hn := dFz_frz ed
  have rd := rep_v t.rep hn
  obtain ⟨d0, e0, h⟩ := pk_bnd h
  obtain ⟨v0, ev0, _⟩ := r1.sl i d0 (slot_some e0)
  refine ⟨v0, by rw [← hs]; exact ev0, ?_⟩
  have h' : Post (okS T B (t2 ++ [i]) s1 E) (exS T W B (t2 ++ [i]) s1) (bnd w (fun k => dMutL i (setAt k d)) s1.ρ) := h.imp (fun _ _ q => q.re a) fun _ _ _ _ q => q.re a
  rw [← hs]
  refine seqES r1 h' (fun _ => memL) fun k vk s2 g2 _ hs2 r2 tk a2 h2 => ?_
  obtain ⟨p1, vs1, fp, xs, ys, q1, q2, q3, q4, q5, q6, q7⟩ := mutL_open r2 h2
  rw [hs2, ev0] at q2
  cases q2
  unfold setAt at q6
  cases k with
  | int j =>
    obtain ⟨rk, _, _, _⟩ := tk
    cases rk
    dsimp only at q6
    cases ej : ixN xs.length j with
    | none => rw [ej] at q6; cases q6
    | some n =>
      rw [ej] at q6
      dsimp only at q6
      split at q6
      · rename_i hh
        cases q6
        have q4' := q4.noOw hh.1
        have efp : fp = [] := q4.noO hh.1
        subst efp
        have rd2 := rd.mono (H' := s2.H) (Ex.refl B) a2.step.ext fun x hx => (by cases hx)
        have hok := mut_ok (gt := []) (o := .lst (vs1.set n v)) (d' := .lst .ow (xs.set n d)) (g := [p1]) r2 q1 (by rw [hs2]; exact ev0) (by rw [q5]; exact List.mem_cons_self)
          (.lstO upd_same ((Reps.set rd2 n q4').mono (Ex.refl B) (Ex.refl _) fun x hx => (by cases hx)) rfl) (List.nodup_cons.mpr ⟨fun z => (by cases z), List.Pairwise.nil⟩)
          (fun x hx => .inl (by rw [q5]; exact hx)) (fun _ h => (by cases h)) (fun _ h => (by cases h))
        refine ⟨p1, vs1, j, n, rfl, rfl, q3, by rw [← q4.len]; exact ej, ?_⟩
        have z := q7 _ rfl hok (mut_goes r2 a2.drop0 (by rw [q5]; exact List.mem_cons_self) fun x hx => .inl (by rw [q5]; exact hx))
        show E.nx s1.σ (upd s2.H p1 (.lst (vs1.set n v)))
        rw [← hs2]
        exact z
      · cases q6
  | _ => cases q6
theorem gs_set (hv : PE X (.Name x p) (tVar i)) (hk : GE X G W t2 b w) (he : GE X G W t1 a u) (hs : swapsWithSole [.Subscript (.Name x p) b pos'] a pos.line X.env = pure false := by rfl) (hw : swappedStores [.Subscript (.Name x p) b pos'] a X.env = pure none := by rfl)
    (h1 : (assignEach [.Subscript (.Name x p) b pos'] X.env).map (·.2) = [assign (.Subscript (.Name x p) b pos') X.env] := by rfl)
    (ha : ∀ v, assign (.Subscript (.Name x p) b pos') X.env v = (do
      let ov ← holding [v] (eval (.Name x p) X.env)
      let iv ← holding [v, ov] (eval b X.env)
      standAt pos'
      holding [v, ov, iv] (setItem ov iv v)
      release [v, ov, iv] []) := by intro _; rfl) : GS X G W (t1 ++ (t2 ++ [i])) (.Assign [.Subscript (.Name x p) b pos'] a pos) (dSet i w u) :=
  ps_mono (ps_asg (g_fz he) (pg_sub hv hk set_list ha) hs hw h1) fun E σ H h => set_core h
def inner (j : D) (xs : List D) : Option (Nat × List D) := match j with
  | .int m => (match ixN xs.length m with
    | some n => (match xs[n]? with
      | some (.lst .ow ys) => if allFs noOw ys = true then some (n, ys) else none
      | _ => none)
    | none => none)
  | _ => none
theorem inner_some {j : D} {xs ys : List D} {n : Nat} (h : inner j xs = some (n, ys)) : ∃ m, j = .int m ∧ ixN xs.length m = some n ∧ xs[n]? = some (.lst .ow ys) ∧ allFs noOw ys = true := by
  unfold inner at h
  split at h
  · rename_i m
    split at h
    · rename_i n' e1
      split at h
      · rename_i ys' e2
        split at h
        · rename_i hn
          cases h
          exact ⟨m, rfl, e1, e2, hn⟩
        · cases h
      · cases h
    · cases h
  · cases h
def setAt2 (j k : D) (d : D) (xs : List D) : Option (List D) := (inner j xs).bind fun (n, ys) => (setAt k d ys).map fun zs => xs.set n (.lst .ow zs)
def dIn2 (i : Nat) (j : D) (k : M Flw) : M Flw := fun ρ => match (slotL i ρ).bind (inner j) with
  | some _ => k ρ
  | none => .bad
def dSet2 (i : Nat) (fj fk fe : M D) : M Flw := bnd (dFz fe) fun d => bnd (dPk i) fun _ => bnd fj fun j => dIn2 i j (bnd fk fun k => dMutL i (setAt2 j k d))
theorem Rep.ow_inv {T : Tx} {B H F : Hp} {ds : List D} {v : V} {gp : List Addr} (r : Rep T B H F (.lst .ow ds) v gp) : ∃ a vs fp, v = .ref a ∧ H a = some (.lst vs) ∧ Reps T B H F ds vs fp ∧ gp = a :: fp := by
  cases r with
  | lstO q rs eq => exact ⟨_, _, _, rfl, q, rs, eq⟩
theorem Reps.inner {T : Tx} {B H F : Hp} : ∀ {ds : List D} {vs : List V} {fp : List Addr} (n : Nat) {zs : List D}, Reps T B H F ds vs fp → fp.Nodup → ds[n]? = some (.lst .ow zs) → allFs Cs.noOw zs = true →
    ∃ p1 us, vs[n]? = some (.ref p1) ∧ H p1 = some (.lst us) ∧ Reps T B H F zs us [] ∧ p1 ∈ fp ∧ ∀ (ws : List V) (ys : List D), Reps T B H F ys ws [] → Reps T B (L2.upd H p1 (.lst ws)) F (ds.set n (.lst .ow ys)) vs fp
  | _, _, _, n, zs, .nil, _, e, _ => by simp at e
  | _, _, _, 0, zs, .cons (g := g) r rs e, nd, e1, hn => by
    have e1 := Option.some.inj e1
    subst e1
    cases r with
    | lstO q rz eq =>
      have z := rz.noO hn
      subst z eq e
      rename_i a us
      refine ⟨a, us, rfl, q, rz, List.mem_append.mpr (.inl List.mem_cons_self), fun ws ys hy => ?_⟩
      have na : a ∉ g := fun z => (List.nodup_cons.mp nd).1 z
      exact .cons (.lstO upd_same (hy.mono (Ex.refl B) (Ex.refl F) fun x hx => (by cases hx)) rfl) (rs.mono (Ex.refl B) (Ex.refl F) fun x hx o q => by rw [upd_ne fun z => na (by rw [← z]; exact hx)]; exact q) rfl
  | _, _, _, n + 1, zs, .cons (f := f) r rs e, nd, e1, hn => by
    subst e
    obtain ⟨n1, n2, n3⟩ := List.nodup_append.mp nd
    obtain ⟨p1, us, h1, h2, h3, h4, h5⟩ := Reps.inner n rs n2 (by simpa using e1) hn
    refine ⟨p1, us, by simpa using h1, h2, h3, List.mem_append.mpr (.inr h4), fun ws ys hy => ?_⟩
    have np : p1 ∉ f := fun z => n3 p1 z p1 h4 rfl
    exact .cons (r.mono (Ex.refl B) (Ex.refl F) fun x hx o q => by rw [upd_ne fun z => np (by rw [← z]; exact hx)]; exact q) (h5 ws ys hy) rfl
theorem atI_ix {α : Type} {xs : List α} {j : Int} {n : Nat} {v : α} (h : ixN xs.length j = some n) (hv : xs[n]? = some v) : L2.atI xs j = some v := by
  unfold L2.atI
  rw [h]
  exact hv
theorem set2_core {T : Tx} {i : Nat} {σ : L2.St} {H : Hp} {E : Ends} {t3 : List Nat} {f : M D} (ht : i ∉ t3) (h : tDS T W (t1 ++ (t2 ++ (t3 ++ [i]))) (dSet2 i w f u) E σ H) : tAsg (tD T W t1 (dFz u)) (gSub (tOp (rIx T.K) (tVar i) (tD T W t2 w)) (tD T W t3 f) rSetL) E σ H := by
  obtain ⟨B, s, e1, e2, r, hp⟩ := h
  subst e1 e2
  refine seqES r hp (fun _ => memL) fun d v s1 g ed hs r1 t a h => ?_
  have hn := dFz_frz ed
  have rd := rep_v t.rep hn
  obtain ⟨d0, e0, h⟩ := pk_bnd h
  obtain ⟨v0, ev0, _⟩ := r1.sl i d0 (slot_some e0)
  rw [← hs]
  refine ⟨v0, ev0, ?_⟩
  have h' : Post (okS T B (t2 ++ (t3 ++ [i])) s1 E) (exS T W B (t2 ++ (t3 ++ [i])) s1) (bnd w (fun j => dIn2 i j (bnd f fun k => dMutL i (setAt2 j k d))) s1.ρ) := h.imp (fun _ _ q => q.re a) fun _ _ _ _ q => q.re a
  refine seqES r1 h' (fun _ => memL) fun j vj s2 g2 _ hs2 r2 tj a2 h2 => ?_
  have h2' : Post (okS T B (t3 ++ [i]) s2 E) (exS T W B (t3 ++ [i]) s2) (dIn2 i j (bnd f fun k => dMutL i (setAt2 j k d)) s2.ρ) := h2.imp (fun _ _ q => q.re a2) fun _ _ _ _ q => q.re a2
  unfold dIn2 at h2'
  cases eb : (slotL i s2.ρ).bind (inner j) with
  | none => rw [eb] at h2'; exact h2'.elim
  | some ny =>
    rw [eb] at h2'
    obtain ⟨n, ys⟩ := ny
    obtain ⟨xs, ex, ei⟩ := Option.bind_eq_some_iff.mp eb
    obtain ⟨m, rfl, em, en, hy⟩ := inner_some ei
    obtain ⟨rj, _, _, _⟩ := tj
    cases rj
    have esl := slotL_some ex
    obtain ⟨v2, ev2, rp⟩ := r2.sl i _ esl
    rw [hs2, ev0] at ev2
    cases ev2
    have nd := r2.nd i
    obtain ⟨pa, vs, fp, rfl, q, rs, eg⟩ := rp.ow_inv
    · rw [eg] at nd
      obtain ⟨p1, us, x1, x2, x3, x4, x5⟩ := rs.inner n (List.nodup_cons.mp nd).2 en hy
      refine .inl ⟨pa, vs, m, .ref p1, rfl, rfl, sq_of q, atI_ix (by rw [← rs.len]; exact em) x1, ?_⟩
      rw [← hs2]
      refine seqES r2 h2' (fun _ => memL) fun k vk s3 g3 _ hs3 r3 tk a3 h3 => ?_
      obtain ⟨f1, f2, f3⟩ := a3.fix i ht
      obtain ⟨pb, vs1, fp1, xs1, ys1, q1, q2, q3, q4, q5, q6, q7⟩ := mutL_open r3 h3
      rw [f1, esl] at q1
      cases q1
      rw [hs3, hs2, ev0] at q2
      cases q2
      have hH : s3.H pa = s2.H pa := f3 pa (by rw [eg]; exact List.mem_cons_self)
      rw [hH, q] at q3
      cases q3
      rw [f2, eg] at q5
      cases q5
      unfold setAt2 at q6
      rw [ei] at q6
      obtain ⟨zs, ez, e6⟩ := Option.map_eq_some_iff.mp q6
      subst e6
      obtain ⟨p1', us', y1, y2, y3, y4, y5⟩ := q4.inner n (List.nodup_cons.mp nd).2 en hy
      rw [x1] at y1
      cases y1
      unfold setAt at ez
      cases k with
      | int jj =>
        obtain ⟨rk, _, _, _⟩ := tk
        cases rk
        dsimp only at ez
        cases ej : ixN ys.length jj with
        | none => rw [ej] at ez; cases ez
        | some nn =>
          rw [ej] at ez
          dsimp only at ez
          split at ez
          · cases ez
            have rd2 := rd.mono (H' := s3.H) (Ex.refl B) (a2.trans a3).step.ext fun x hx => (by cases hx)
            have nw := y5 (us'.set nn v) (ys.set nn d) (Reps.set rd2 nn y3)
            have pne : pa ≠ p1 := fun z => (List.nodup_cons.mp nd).1 (by rw [z]; exact y4)
            have hp1 : p1 ∈ s3.φ i := by rw [f2, eg]; exact List.mem_cons_of_mem _ y4
            have hok := mut_ok (gt := []) (p := p1) (o := .lst (us'.set nn v)) (d' := .lst .ow (xs.set n (.lst .ow (ys.set nn d)))) (g := pa :: fp) r3 (by rw [f1]; exact esl) (by rw [hs3, hs2]; exact ev0) hp1
              (.lstO (by rw [upd_ne pne, hH]; exact q) nw rfl) nd (fun x hx => .inl (by rw [f2, eg]; exact hx)) (fun _ h => (by cases h)) (fun _ h => (by cases h))
            refine ⟨p1, us', jj, nn, rfl, rfl, y2, by rw [← y3.len]; exact ej, ?_⟩
            have z := q7 _ rfl hok (mut_goes r3 a3.drop0 hp1 fun x hx => .inl (by rw [f2, eg]; exact hx))
            show E.nx s2.σ (L2.upd s3.H p1 (.lst (us'.set nn v)))
            rw [← hs3]
            exact z
          · cases ez
      | _ => cases ez
theorem gs_set2 {c : Expr} {pos2 : Pos} {t3 : List Nat} {f : M D} (hv : PE X (.Name x p) (tVar i)) (hj : GE X G W t2 b w) (hk : GE X G W t3 c f) (he : GE X G W t1 a u) (ht : i ∉ t3 := by decide) (hpi : PlainIx b := by intro _ _; rfl)
    (hs : swapsWithSole [.Subscript (.Subscript (.Name x p) b pos2) c pos'] a pos.line X.env = pure false := by rfl) (hw : swappedStores [.Subscript (.Subscript (.Name x p) b pos2) c pos'] a X.env = pure none := by rfl)
    (h1 : (assignEach [.Subscript (.Subscript (.Name x p) b pos2) c pos'] X.env).map (·.2) = [assign (.Subscript (.Subscript (.Name x p) b pos2) c pos') X.env] := by rfl)
    (ha : ∀ v, assign (.Subscript (.Subscript (.Name x p) b pos2) c pos') X.env v = (do
      let ov ← holding [v] (eval (.Subscript (.Name x p) b pos2) X.env)
      let iv ← holding [v, ov] (eval c X.env)
      standAt pos'
      holding [v, ov, iv] (setItem ov iv v)
      release [v, ov, iv] []) := by intro _; rfl) : GS X G W (t1 ++ (t2 ++ (t3 ++ [i]))) (.Assign [.Subscript (.Subscript (.Name x p) b pos2) c pos'] a pos) (dSet2 i w f u) :=
  ps_mono (ps_asg (g_fz he) (pg_sub (pe_ix ix_seq hv hj hpi) hk set_list ha) hs hw h1) fun E σ H h => set2_core ht h
end
end Cs
namespace Cs
open PySem L2 Evl PyProof.Rows
def look (f : Str) : List Str → List D → Option D
  | k :: ks, d :: ds => if f == k then some d else look f ks ds
  | _, _ => none
def pFld (c f : Str) : D → PR
  | .obj _ c' ks ds => if c' = c then (match look f ks ds with
    | some d => if allF noOw d = true then .sc d else .bad
    | none => .bad) else .bad
  | _ => .bad
section
variable {T : Tx} {B H F : Hp}
theorem Rep.objS (eF : Ex F H) (eB : Ex B H) {o : Fl} {c : Str} {ks : List Str} {ds : List D} {v : V} {g : List Addr} (r : Rep T B H F (.obj o c ks ds) v g) : ∃ a dx C vs g', v = .ref a ∧ T.C c = some C ∧ H a = some (.ins C dx (ks.zip vs)) ∧ H dx = some (.own a) ∧ ks.length = vs.length ∧ Reps T B H F ds vs g' := by
  cases r with
  | objF hc h hd hl r => exact ⟨_, _, _, _, _, rfl, hc, eF _ _ h, eF _ _ hd, hl, r⟩
  | objB hc h hd hl r => exact ⟨_, _, _, _, _, rfl, hc, eB _ _ h, eB _ _ hd, hl, r⟩
  | objO hc h hd hl r e => exact ⟨_, _, _, _, _, rfl, hc, h, hd, hl, r⟩
theorem look_at {f : Str} : ∀ {ks : List Str} {ds : List D} {vs : List V} {g : List Addr} {d : D}, Reps T B H F ds vs g → look f ks ds = some d → ∃ v g', (ks.zip vs).lookup f = some v ∧ Rep T B H F d v g'
  | [], _, _, _, _, _, h => by unfold look at h; cases h
  | k :: ks, _, _, _, _, .nil, h => by unfold look at h; cases h
  | k :: ks, _, _, _, d, .cons (v := v) r rs e, h => by
    unfold look at h
    rw [List.zip_cons_cons, List.lookup_cons]
    cases hk : f == k with
    | true =>
      rw [hk, if_pos rfl] at h
      cases h
      exact ⟨v, _, rfl, r⟩
    | false =>
      rw [hk, if_neg Bool.false_ne_true] at h
      exact look_at rs h
end
structure ClsF (K : PySem.W.Frag) (C : Addr) (f : Str) : Prop where
  c : Cls K C
  n : NoAttr K C f
theorem p1_fld {T : Tx} {c f : Str} (hc : ∀ C, T.C c = some C → ClsF T.K C f) : P1 T (fun x H1 Q => ∃ a C dx fs v, x = .ref a ∧ H1 a = some (.ins C dx fs) ∧ Cls T.K C ∧ NoAttr T.K C f ∧ fs.lookup f = some v ∧ Q v H1) (pFld c f) := by
  intro B H F d v g eF eB r
  cases d with
  | obj o c' ks ds =>
    unfold pFld
    dsimp only
    split
    · rename_i e
      subst e
      cases el : look f ks ds with
      | none => trivial
      | some d =>
        dsimp only
        split
        · rename_i hn
          obtain ⟨a, dx, C, vs, g', rfl, h1, h2, h3, h4, rs⟩ := r.objS eF eB
          obtain ⟨w, g2, q1, q2⟩ := look_at (ks := ks) rs el
          exact ⟨w, rep_v q2 hn, fun Q q => ⟨a, C, dx, _, w, rfl, h2, (hc C h1).c, (hc C h1).n, q1, q⟩⟩
        · trivial
    · trivial
  | _ => trivial
section
variable {X : Cx} {G : Gx} {W : WX} {tc t1 t2 : List Nat} {a b e : Expr} {o : Opd} {pos pos' apos p p2 : Pos} {u w : M D} {i : Nat} {x : Str}
theorem g_fld {c f : Str} (hc : ∀ C, G.C c = some C → ClsF X.K C f) (h : GO X G W tc e o) (hb : attributeBase e f X.env (eval e X.env) = eval e X.env := by rfl) : GE X G W tc (.Attribute e f pos) (dOp1 (pFld c f) o) :=
  tun_of (p1_fld (T := tx X G) hc) h fun _ h => pe_fld h hb
end
def putL (f : Str) (d : D) : List Str → List D → List Str × List D
  | k :: ks, x :: xs => if k = f then (k :: ks, d :: xs) else (k :: (putL f d ks xs).1, x :: (putL f d ks xs).2)
  | _, _ => ([f], [d])
section
variable {T : Tx} {B H F : Hp}
theorem put_at {f : Str} {d : D} {v : V} {g : List Addr} (rd : Rep T B H F d v g) (ng : g.Nodup) : ∀ {ks : List Str} {ds : List D} {vs : List V} {fp : List Addr}, Reps T B H F ds vs fp → ks.length = vs.length → fp.Nodup → (∀ a ∈ fp, a ∉ g) →
    ∃ vs' fp', Reps T B H F (putL f d ks ds).2 vs' fp' ∧ (putL f d ks ds).1.zip vs' = putF f v (ks.zip vs) ∧ (putL f d ks ds).1.length = vs'.length ∧ fp'.Nodup ∧ (∀ a ∈ fp', a ∈ fp ∨ a ∈ g) ∧ vs'.length ≤ vs.length + 1
  | [], _, _, _, .nil, _, _, _ => ⟨[v], g, .cons rd .nil (by simp), rfl, rfl, ng, fun a h => .inr h, by simp⟩
  | [], _, _, _, .cons _ _ _, hl, _, _ => by simp at hl
  | _ :: _, _, _, _, .nil, hl, _, _ => by simp at hl
  | k :: ks, x :: xs, _, _, .cons (f := f1) (g := g1) (v := w) (vs := ws) r rs e, hl, nd, dj => by
    subst e
    obtain ⟨n1, n2, n3⟩ := List.nodup_append.mp nd
    unfold putL
    by_cases hk : k = f
    · rw [if_pos hk]
      refine ⟨v :: ws, g ++ g1, .cons rd rs rfl, ?_, by simpa using hl, List.nodup_append.mpr ⟨ng, n2, fun a ha b hb e => dj b (List.mem_append.mpr (.inr hb)) (by rw [← e]; exact ha)⟩, fun a h => ?_, by simp⟩
      · rw [List.zip_cons_cons, List.zip_cons_cons]
        unfold putF
        rw [if_pos hk]
      · rcases List.mem_append.mp h with z | z
        · exact .inr z
        · exact .inl (List.mem_append.mpr (.inr z))
    · rw [if_neg hk]
      obtain ⟨vs', fp', q1, q2, q3, q4, q5, q6⟩ := put_at rd ng (ks := ks) rs (by simpa using hl) n2 fun a h => dj a (List.mem_append.mpr (.inr h))
      refine ⟨w :: vs', f1 ++ fp', .cons r q1 rfl, ?_, by simpa using q3, List.nodup_append.mpr ⟨n1, q4, fun a ha b hb e => ?_⟩, fun a h => ?_, by simp; omega⟩
      · rw [List.zip_cons_cons, List.zip_cons_cons]
        unfold putF
        rw [if_neg hk]
        exact congrArg _ q2
      · subst e
        rcases q5 a hb with z | z
        · exact n3 a ha a z rfl
        · exact dj a (List.mem_append.mpr (.inl ha)) z
      · rcases List.mem_append.mp h with z | z
        · exact .inl (List.mem_append.mpr (.inl z))
        · exact (q5 a z).imp (fun z => List.mem_append.mpr (.inr z)) id
end
def setF (c f : Str) (d : D) : D → Option D
  | .obj .ow c' ks ds => if c' = c ∧ ks.length < 900 then some (.obj .ow c (putL f d ks ds).1 (putL f d ks ds).2) else none
  | _ => none
def dSetF (i : Nat) (c f : Str) (u : M D) : M Flw := bnd u fun d ρ => match slot i ρ with
  | some o => (match setF c f d o with
    | some o' => .ok .nx (ρ.set i (.dt o'))
    | none => .bad)
  | none => .bad
section
variable {X : Cx} {G : Gx} {W : WX} {tc t1 t2 : List Nat} {a b e : Expr} {pos pos' apos p p2 : Pos} {u w : M D} {i : Nat} {x : Str}
theorem setF_core {T : Tx} {c f : Str} {σ : L2.St} {H : Hp} {E : Ends} (hc : ∀ C, T.C c = some C → ClsF T.K C f) (h : tDS T W (tc ++ [i]) (dSetF i c f u) E σ H) : sFld T.K (tVar i) (tD T W tc u) f E σ H := by
  obtain ⟨B, s, e1, e2, r, hp⟩ := h
  subst e1 e2
  refine seqES r hp (fun _ => memL) fun d v s1 g _ hs r1 t a h => ?_
  have h : Post (okS T B (tc ++ [i]) s E) (exS T W B (tc ++ [i]) s) (match slot i s1.ρ with
    | some o => (match setF c f d o with
      | some o' => .ok .nx (s1.ρ.set i (.dt o'))
      | none => .bad)
    | none => .bad) := h
  cases eo : slot i s1.ρ with
  | none => rw [eo] at h; exact h.elim
  | some o =>
    rw [eo] at h
    dsimp only at h
    cases ef : setF c f d o with
    | none => rw [ef] at h; exact h.elim
    | some o' =>
      rw [ef] at h
      obtain ⟨vo, evo, rp⟩ := r1.sl i o (slot_some eo)
      unfold setF at ef
      split at ef
      · rename_i c' ks ds
        split at ef
        · rename_i hcc
          obtain ⟨rfl, hkl⟩ := hcc
          cases ef
          have nd := r1.nd i
          have hobj : ∃ C ad dx vs fp, vo = .ref ad ∧ T.C c' = some C ∧ s1.H ad = some (.ins C dx (ks.zip vs)) ∧ s1.H dx = some (.own ad) ∧ ks.length = vs.length ∧ Reps T B s1.H s1.F ds vs fp ∧ s1.φ i = ad :: dx :: fp := by
            generalize s1.φ i = gp at rp
            cases rp with
            | objO q1 q2 q3 q4 q5 q6 => exact ⟨_, _, _, _, _, rfl, q1, q2, q3, q4, q5, q6⟩
          obtain ⟨C, ad, dx, vs, fp, rfl, q1, q2, q3, q4, q5, q6⟩ := hobj
          rw [q6] at nd
          obtain ⟨n1, n2⟩ := List.nodup_cons.mp nd
          obtain ⟨n3, n4⟩ := List.nodup_cons.mp n2
          have dfg : ∀ y ∈ ad :: dx :: fp, y ∉ g := fun y hy z => t.dj y z ⟨i, by rw [q6]; exact hy⟩
          obtain ⟨vs', fp', z1, z2, z3, z4, z5, z6⟩ := put_at (f := f) t.rep t.nd q5 q4 n4 fun y hy => dfg y (List.mem_cons_of_mem _ (List.mem_cons_of_mem _ hy))
          refine ⟨.ref ad, by rw [← hs]; exact evo, ad, C, dx, ks.zip vs, rfl, q2, (hc C q1).c, (hc C q1).n, ?_, ?_⟩
          · rw [List.length_zip]
            omega
          · have adx : dx ≠ ad := fun z => n1 (by rw [← z]; exact List.mem_cons_self)
            have keep : ∀ y, y ≠ ad → ∀ o, s1.H y = some o → upd s1.H ad (.ins C dx (putF f v (ks.zip vs))) y = some o := fun y hy o q => by rw [upd_ne hy]; exact q
            have ina : ∀ y ∈ fp', y ∈ ad :: dx :: fp ∨ y ∈ g := fun y hy => (z5 y hy).imp (fun z => List.mem_cons_of_mem _ (List.mem_cons_of_mem _ z)) id
            have nfa : ∀ y ∈ fp', y ≠ ad ∧ y ≠ dx := fun y hy => by
              rcases z5 y hy with z | z
              · exact ⟨fun e => n1 (by rw [← e]; exact List.mem_cons_of_mem _ z), fun e => n3 (by rw [← e]; exact z)⟩
              · exact ⟨fun e => dfg ad List.mem_cons_self (by rw [← e]; exact z), fun e => dfg dx (List.mem_cons_of_mem _ List.mem_cons_self) (by rw [← e]; exact z)⟩
            have hok := mut_ok (gt := g) (p := ad) (o := .ins C dx (putF f v (ks.zip vs))) (d' := .obj .ow c' (putL f d ks ds).1 (putL f d ks ds).2) (g := ad :: dx :: fp') r1 (slot_some eo) evo (by rw [q6]; exact List.mem_cons_self)
              (.objO q1 (by rw [upd_same, z2]) (by rw [upd_ne adx]; exact q3) z3 (z1.mono (Ex.refl B) (Ex.refl _) fun y hy => keep y (nfa y hy).1) rfl)
              (List.nodup_cons.mpr ⟨fun z => (List.mem_cons.mp z).elim (fun e => adx e.symm) fun z => (nfa ad z).1 rfl, List.nodup_cons.mpr ⟨fun z => (nfa dx z).2 rfl, z4⟩⟩)
              (fun y hy => by
                rw [q6]
                rcases List.mem_cons.mp hy with e | hy
                · exact .inl (by rw [e]; exact List.mem_cons_self)
                · rcases List.mem_cons.mp hy with e | hy
                  · exact .inl (by rw [e]; exact List.mem_cons_of_mem _ List.mem_cons_self)
                  · exact ina y hy) t.ap t.dj
            have z := h _ rfl hok (mut_goes r1 a (by rw [q6]; exact List.mem_cons_self) fun y hy => by
                rw [q6]
                rcases List.mem_cons.mp hy with e | hy
                · exact .inl (by rw [e]; exact List.mem_cons_self)
                · rcases List.mem_cons.mp hy with e | hy
                  · exact .inl (by rw [e]; exact List.mem_cons_of_mem _ List.mem_cons_self)
                  · exact ina y hy)
            rw [show (s1.mut i ad _ _ _).σ = s.σ from hs] at z
            exact z
        · cases ef
      · cases ef
theorem gs_setF {c f : Str} (hc : ∀ C, G.C c = some C → ClsF X.K C f) (hv : PE X (.Name x p) (tVar i)) (h : GE X G W tc a u) (hs : swapsWith a (some (.Attribute (.Name x p) f pos')) pos.line X.env = pure false := by rfl) : GS X G W (tc ++ [i]) (.Assign [.Attribute (.Name x p) f pos'] a pos) (dSetF i c f u) :=
  ps_mono (ps_fld hv h hs) fun E σ H h => setF_core (T := tx X G) hc h
theorem pe_methZ {m : Str} {C f : Addr} {k : Nat} {fd : FuncData} {ps : List Str} {sp : Sp} {E : L2.St → XK} {o : Expr} {es : List Expr} {ta : TE} {t : TA} {pl : Sem Bool} (he : PE X o ta) (c : Cls X.K C) (hm : Meth X.K C m f) (F : FnOk X.prog X.w X.K X.mg X.base (L2N.CX X.prog X.w) k f fd ps sp) (hr : Room k X.A) (hb : Binds X.K fd ps [])
    (hx : ∀ σ, PassesAt (L2N.CX X.prog X.w) X σ (E σ)) (ha : PA X (a :: es) t) (hst : starEach (a :: es) X.env = (false, eval a X.env) :: starEach es X.env) (hpl : (backTo pos (starEach es X.env)).any (·.1) = false)
    (ht : eval (.Call (.Attribute o m apos) (a :: es) [] pos) X.env = (do
      let ov ← eval o X.env
      standAt apos.atName
      let (f, first) ← holding [ov] (getMethod ov m pl)
      callWith pos f first (backTo pos (starEach (a :: es) X.env)) (backToKw pos (keywordEach [] X.env)))) :
    PE X (.Call (.Attribute o m apos) (a :: es) [] pos) (fun σ H Q => ta σ H fun y H1 => ∃ q dx fs, y = .ref q ∧ H1 q = some (.ins C dx fs) ∧ fs.lookup m = none ∧ t σ H1 fun vs H2 => sp (y :: vs) H2 Q (E σ)) := by
  constructor
  intro pins s σ H Q I h
  refine PySem.W.methodCall_KW (pl := pl) (thn (he.run pins s σ H _ I h) ?_) ht
  rintro v s1 ⟨y, H1, I1, ry, q, dx, fs, ey, eq, hno, hq⟩
  subst ey
  obtain rfl : v = Value.ref q := ry
  refine getmeth_ok I1 eq c hm hno (PySem.W.callWith_K (first := [.ref q]) (h₀ := X.base) I.ok.mod.kin hm.kp (thn (ha.run pos pins s1 σ H1 _ I1 hq) ?_) hst hpl)
  rintro us s2 ⟨vs, H2, I2, rv, q2⟩
  exact ⟨I2.kIn, run_fnS (us := .ref q :: us) (vs := .ref q :: vs) F hr hb (hx σ) I2 (.cons rfl rv) q2⟩
def isObj (c m : Str) : D → Bool
  | .obj _ c' ks _ => c' == c && ks.all (fun k => !(m == k))
  | _ => false
def chk (c m : Str) (a : Arg) (k : M D) : M D := match a with
  | (.l i, _) => fun ρ => match slot i ρ with
    | some d => if isObj c m d = true then k ρ else .bad
    | none => .bad
  | (.io i, _) => fun ρ => match slot i ρ with
    | some d => if isObj c m d = true then k ρ else .bad
    | none => .bad
  | (.v f, _) => fun ρ => match f ρ with
    | .ok d _ => if isObj c m d = true then k ρ else .bad
    | .exc _ _ _ _ => k ρ
    | .bad => .bad
def dMeth (c m : Str) (mn : List D → Res) (r : Arg) (ars : List Arg) : M D := chk c m r (dCall mn (r :: ars))
theorem isObj_at {T : Tx} {B H F : Hp} {c m : Str} {d : D} {v : V} {g : List Addr} (eF : Ex F H) (eB : Ex B H) (r : Rep T B H F d v g) (h : isObj c m d = true) : ∃ q C dx fs, v = .ref q ∧ T.C c = some C ∧ H q = some (.ins C dx fs) ∧ fs.lookup m = none := by
  cases d with
  | obj o c' ks ds =>
    have h := Bool.and_eq_true_iff.mp h
    have ec : c' = c := by simpa using h.1
    subst ec
    obtain ⟨a, dx, C, vs, g', rfl, h1, h2, h3, h4, rs⟩ := r.objS eF eB
    refine ⟨a, C, dx, _, rfl, h1, h2, ?_⟩
    have : ∀ {ks : List Str} {vs : List V}, ks.all (fun k => !(m == k)) = true → (ks.zip vs).lookup m = none := by
      intro ks
      induction ks with
      | nil => intro vs _; rfl
      | cons k ks ih =>
        intro vs hk
        cases vs with
        | nil => rfl
        | cons v vs =>
          rw [List.all_cons] at hk
          have hk := Bool.and_eq_true_iff.mp hk
          rw [List.zip_cons_cons, List.lookup_cons]
          have z : (m == k) = false := by simpa using hk.1
          rw [z]
          exact ih hk.2
    exact this h.2
  | _ => cases h
theorem meth_core {T : Tx} {c m : Str} {C : Addr} {mn : List D → Res} {r : Arg} {ars : List Arg} {σ : L2.St} {H : Hp} {Q : VK} (hC : T.C c = some C) (hn : (ios (r :: ars)).Nodup) (hl : ∀ i ∈ lns (r :: ars), i ∉ ios (r :: ars)) (h : tD T W (tcs (r :: ars) ++ ios (r :: ars)) (dMeth c m mn r ars) σ H Q) :
    rdA T W r σ H fun y H1 => ∃ q dx fs, y = .ref q ∧ H1 q = some (.ins C dx fs) ∧ fs.lookup m = none ∧ tRs T W ars σ H1 fun vs H2 => spM T mn (y :: vs) H2 Q (WE W σ) := by
  obtain ⟨B, s, e1, e2, rl, hp⟩ := h
  subst e1 e2
  obtain ⟨rk, tcr⟩ := r
  cases rk with
  | l i =>
    have hp : Post (okE T B _ s Q) (exE T W B _ s) (match slot i s.ρ with
      | some d => if isObj c m d = true then dCall mn ((.l i, tcr) :: ars) s.ρ else .bad
      | none => .bad) := hp
    cases es : slot i s.ρ with
    | none => rw [es] at hp; exact hp.elim
    | some d =>
      rw [es] at hp
      dsimp only at hp
      split at hp
      · rename_i ho
        obtain ⟨v, ev, rp⟩ := rl.sl i d (slot_some es)
        obtain ⟨q, C', dx, fs, rfl, hC', hq, hlk⟩ := isObj_at rl.exF rl.exB rp ho
        rw [hC] at hC'
        cases hC'
        refine ⟨.ref q, ev, q, dx, fs, rfl, hq, hlk, ?_⟩
        have hp1 : Post (okE T B (tcs ((.l i, tcr) :: ars) ++ ios ((.l i, tcr) :: ars)) s Q) (exE T W B (tcs ((.l i, tcr) :: ars) ++ ios ((.l i, tcr) :: ars)) s) (bnd (dArs ars) (fun ods => callD mn ((.l i, tcr) :: ars) (none :: ods)) s.ρ) := by
          have e : dCall mn ((.l i, tcr) :: ars) s.ρ = bnd (dArs ars) (fun ods => callD mn ((.l i, tcr) :: ars) (none :: ods)) s.ρ := by
            show bnd (bnd (dPk i) fun _ => bnd (dArs ars) fun ds => ret (none :: ds)) _ s.ρ = _
            rw [bnd_assoc, bnd_ok (show dPk i s.ρ = .ok d s.ρ by unfold dPk; rw [es]), bnd_assoc]
            rfl
          rw [← e]
          exact hp
        exact args_core (s0 := s) (u := []) (g0 := []) Goes.refl rfl (fun _ h => by cases h) (fun j z => memL z) rl hp1 fun ods vs s1 g r1 e3 it a h => call_fin hn hl r1 e3 ⟨.l (by rw [e3]; exact ev) it.its, it.nd, it.ap, it.dj⟩ a h
      · exact hp.elim
  | io i =>
    have hp : Post (okE T B _ s Q) (exE T W B _ s) (match slot i s.ρ with
      | some d => if isObj c m d = true then dCall mn ((.io i, tcr) :: ars) s.ρ else .bad
      | none => .bad) := hp
    cases es : slot i s.ρ with
    | none => rw [es] at hp; exact hp.elim
    | some d =>
      rw [es] at hp
      dsimp only at hp
      split at hp
      · rename_i ho
        obtain ⟨v, ev, rp⟩ := rl.sl i d (slot_some es)
        obtain ⟨q, C', dx, fs, rfl, hC', hq, hlk⟩ := isObj_at rl.exF rl.exB rp ho
        rw [hC] at hC'
        cases hC'
        refine ⟨.ref q, ev, q, dx, fs, rfl, hq, hlk, ?_⟩
        have hp1 : Post (okE T B (tcs ((.io i, tcr) :: ars) ++ ios ((.io i, tcr) :: ars)) s Q) (exE T W B (tcs ((.io i, tcr) :: ars) ++ ios ((.io i, tcr) :: ars)) s) (bnd (dArs ars) (fun ods => callD mn ((.io i, tcr) :: ars) (none :: ods)) s.ρ) := by
          have e : dCall mn ((.io i, tcr) :: ars) s.ρ = bnd (dArs ars) (fun ods => callD mn ((.io i, tcr) :: ars) (none :: ods)) s.ρ := by
            show bnd (bnd (dPk i) fun _ => bnd (dArs ars) fun ds => ret (none :: ds)) _ s.ρ = _
            rw [bnd_assoc, bnd_ok (show dPk i s.ρ = .ok d s.ρ by unfold dPk; rw [es]), bnd_assoc]
            rfl
          rw [← e]
          exact hp
        exact args_core (s0 := s) (u := []) (g0 := []) Goes.refl rfl (fun _ h => by cases h) (fun j z => memL z) rl hp1 fun ods vs s1 g r1 e3 it a h => call_fin hn hl r1 e3 ⟨.io (by rw [e3]; exact ev) it.its, it.nd, it.ap, it.dj⟩ a h
      · exact hp.elim
  | v f =>
    have hp : Post (okE T B _ s Q) (exE T W B _ s) (match f s.ρ with
      | .ok d _ => if isObj c m d = true then dCall mn ((.v f, tcr) :: ars) s.ρ else .bad
      | .exc _ _ _ _ => dCall mn ((.v f, tcr) :: ars) s.ρ
      | .bad => .bad) := hp
    have ecall : dCall mn ((.v f, tcr) :: ars) s.ρ = bnd f (fun d => bnd (dArs ars) fun ods => callD mn ((.v f, tcr) :: ars) (some d :: ods)) s.ρ := by
      show bnd (bnd f fun d => bnd (dArs ars) fun ds => ret (some d :: ds)) _ s.ρ = _
      rw [bnd_assoc]
      congr 1
      funext d ρ
      rw [bnd_assoc]
      rfl
    cases ef : f s.ρ with
    | bad => rw [ef] at hp; exact hp.elim
    | exc c ks xs ρ =>
      rw [ef] at hp
      dsimp only at hp
      rw [ecall, bnd_exc ef] at hp
      refine ⟨B, s, rfl, rfl, rl, ?_⟩
      rw [ef]
      exact fun cls dd s' q1 q2 q3 q4 q5 => hp cls dd s' q1 q2 q3 q4 (q5.wk fun j z => memL (memL z))
    | ok d ρ =>
      rw [ef] at hp
      dsimp only at hp
      split at hp
      · rename_i ho
        rw [ecall, bnd_ok ef] at hp
        refine ⟨B, s, rfl, rfl, rl, ?_⟩
        rw [ef]
        intro v s1 g q1 q2 r1 t a
        subst q1
        obtain ⟨q, C', dx, fs, rfl, hC', hq, hlk⟩ := isObj_at r1.exF r1.exB t.rep ho
        rw [hC] at hC'
        cases hC'
        refine ⟨q, dx, fs, rfl, hq, hlk, ?_⟩
        rw [← q2]
        refine args_core (s0 := s) (u := tcr) (g0 := g) a q2 (fun j z => memL (memL z)) (fun j z => memL (memR z)) r1 hp fun ods vs s2 g2 r2 e3 it a2 h => ?_
        have t2 := t.go a2
        have z := call_fin (s := s) hn hl r2 (e3.trans q2) ⟨.v t2.rep it.its, List.nodup_append.mpr ⟨t2.nd, it.nd, fun x hx y hy e => t.apart a2.step x hx (e ▸ hy)⟩, fun x hx => (List.mem_append.mp hx).elim (t2.ap x) (it.ap x), fun x hx => (List.mem_append.mp hx).elim (t2.dj x) (it.dj x)⟩ ((a.trans a2).less fun x hx => ?_) h
        · rw [q2]
          exact z
        · rcases List.mem_append.mp hx with z | z
          · exact List.mem_append.mpr (.inr z)
          · exact List.mem_append.mpr (.inl z)
      · exact hp.elim
abbrev GR1 (X : Cx) (G : Gx) (W : WX) (e : Expr) (r : Arg) : Prop := PE X e (rdA (tx X G) W r)
theorem g_meth {c m : Str} {C f : Addr} {k : Nat} {fd : FuncData} {ps : List Str} {mn : List D → Res} {o : Expr} {es : List Expr} {r : Arg} {ars : List Arg} {pl : Sem Bool} (tk : L2N.Takes X W) (hC : G.C c = some C) (cl : Cls X.K C) (hm : Meth X.K C m f) (F : FnOk X.prog X.w X.K X.mg X.base (L2N.CX X.prog X.w) k f fd ps (spM (tx X G) mn))
    (hr : Room k X.A) (hb : Binds X.K fd ps []) (ho : GR1 X G W o r) (ha : GR X G W (a :: es) ars) (hn : (ios (r :: ars)).Nodup := by decide) (hl : ∀ i ∈ lns (r :: ars), i ∉ ios (r :: ars) := by decide)
    (hst : starEach (a :: es) X.env = (false, eval a X.env) :: starEach es X.env := by rfl) (hpl : (backTo pos (starEach es X.env)).any (·.1) = false := by rfl)
    (ht : eval (.Call (.Attribute o m apos) (a :: es) [] pos) X.env = (do
      let ov ← eval o X.env
      standAt apos.atName
      let (f, first) ← holding [ov] (getMethod ov m pl)
      callWith pos f first (backTo pos (starEach (a :: es) X.env)) (backToKw pos (keywordEach [] X.env))) := by rfl) :
    GE X G W (tcs (r :: ars) ++ ios (r :: ars)) (.Call (.Attribute o m apos) (a :: es) [] pos) (dMeth c m mn r ars) :=
  pe_mono (pe_methZ ho cl hm F hr hb (fun σ => L2N.passAt tk σ) ha hst hpl ht) fun σ H Q h => meth_core hC hn hl h
end
end Cs
namespace Cs
open PySem L2 Evl PyProof.Rows
def dMake (c : Str) (m : List D → Res) (ars : List Arg) : M D := bnd (dArs ars) fun ods ρ => match argD ρ ars ods with
  | none => .bad
  | some ds => match m (.obj .ow c [] [] :: ds) with
    | .ok .non (.dt o :: os) => .ok o (wb ars os ρ)
    | .exc c ks xs (_ :: os) => .exc c ks xs (wb ars os ρ)
    | _ => .bad
section
variable {T : Tx} {B : Hp} {W : WX}
theorem Its.mono {s s' : S5} (hσ : s'.σ = s.σ) (eH : ∀ a o, s.H a = some o → s'.H a = some o) (eF : Ex s.F s'.F) : ∀ {ars : List Arg} {ods : List (Option D)} {vs : List V} {g : List Addr}, Its T B s ars ods vs g → Its T B s' ars ods vs g
  | _, _, _, _, .nil => .nil
  | _, _, _, _, .v h t => .v (h.mono (Ex.refl B) eF fun a _ o q => eH a o q) (Its.mono hσ eH eF t)
  | _, _, _, _, .l h t => .l (by rw [hσ]; exact h) (Its.mono hσ eH eF t)
  | _, _, _, _, .io h t => .io (by rw [hσ]; exact h) (Its.mono hσ eH eF t)
theorem make_fin {m : List D → Res} {c : Str} {C : Addr} {ars : List Arg} {s s1 : S5} {ods : List (Option D)} {vs : List V} {g : List Addr} {Q : VK} (hC : T.C c = some C) (hn : (ios ars).Nodup) (hl : ∀ i ∈ lns ars, i ∉ ios ars) (r1 : Okk T B s1) (e3 : s1.σ = s.σ) (it : ItsT T B s1 ars ods vs g) (a : Goes (tcs ars) s s1 g)
    (h : Post (okE T B (tcs ars ++ ios ars) s Q) (exE T W B (tcs ars ++ ios ars) s) (match argD s1.ρ ars ods with
      | none => .bad
      | some ds => match m (.obj .ow c [] [] :: ds) with
        | .ok .non (.dt o :: os) => .ok o (wb ars os s1.ρ)
        | .exc c ks xs (_ :: os) => .exc c ks xs (wb ars os s1.ρ)
        | _ => .bad)) {x dx : Addr} (hx : s1.H x = none) (hdx : s1.H dx = none) (hne : dx ≠ x) :
    spM T m (.ref x :: vs) (upd (upd s1.H dx (.own x)) x (.ins C dx [])) (fun v H2 => v = .non ∧ Q (.ref x) H2) (WE W s.σ) := by
  have hx' : upd s1.H dx (.own x) x = none := by rw [upd_ne (fun z => hne z.symm)]; exact hx
  let sx : S5 := { s1 with H := upd (upd s1.H dx (.own x)) x (.ins C dx []) }
  have rx : Okk T B sx := (r1.new (o := .own x) hdx).new (o := .ins C dx []) hx'
  have eH : ∀ b o, s1.H b = some o → sx.H b = some o := fun b o q => by
    show upd (upd s1.H dx (.own x)) x (.ins C dx []) b = some o
    rw [upd_ne (ne_of_none q hx), upd_ne (ne_of_none q hdx)]
    exact q
  let ars' : List Arg := (.v bad, []) :: ars
  have fx : ∀ b, b ∈ [x, dx] → s1.H b = none := fun b hb => by
    rcases List.mem_cons.mp hb with z | z
    · rw [z]; exact hx
    · rw [List.mem_singleton.mp z]; exact hdx
  have rself : Rep T B sx.H sx.F (.obj .ow c [] []) (.ref x) [x, dx] := .objO hC upd_same (by show upd (upd s1.H dx (.own x)) x _ dx = _; rw [upd_ne hne, upd_same]) rfl .nil rfl
  have it' : ItsT T B sx ars' (some (.obj .ow c [] []) :: ods) (.ref x :: vs) ([x, dx] ++ g) := by
    refine ⟨.v rself (Its.mono (s := s1) (s' := sx) rfl eH (Ex.refl _) it.its), List.nodup_append.mpr ⟨List.nodup_cons.mpr ⟨fun z => hne (List.mem_singleton.mp z).symm, List.nodup_cons.mpr ⟨fun z => (by cases z), List.Pairwise.nil⟩⟩, it.nd, fun p hp q hq e => ?_⟩, fun p hp => ?_, fun p hp => ?_⟩
    · subst e
      have z := fx p hp
      obtain ⟨o, eo⟩ : ∃ o, s1.H p = some o := by
        have : ∀ {ars : List Arg} {ods : List (Option D)} {vs : List V} {g : List Addr}, Its T B s1 ars ods vs g → ∀ p ∈ g, ∃ o, s1.H p = some o := by
          intro ars ods vs g h
          induction h with
          | nil => intro p hp; cases hp
          | v h t ih => intro p hp; exact (List.mem_append.mp hp).elim (h.dom p) (ih p)
          | l h t ih => exact ih
          | io h t ih => exact ih
        exact this it.its p hq
      rw [z] at eo; cases eo
    · rcases List.mem_append.mp hp with z | z
      · exact ⟨r1.freeF (fx p z), r1.freeB (fx p z)⟩
      · exact it.ap p z
    · rcases List.mem_append.mp hp with z | z
      · exact r1.freeO (fx p z)
      · exact it.dj p z
  have hL1 : ∀ y ∈ (lns ars).flatMap s1.φ, B y = none := fun y hy => by
    obtain ⟨i, _, hi⟩ := List.mem_flatMap.mp hy
    exact (r1.ap i y hi).2
  cases ed : argD s1.ρ ars ods with
  | none => rw [ed] at h; exact h.elim
  | some ds =>
    rw [ed] at h
    have ed' : argD sx.ρ ars' (some (.obj .ow c [] []) :: ods) = some (.obj .ow c [] [] :: ds) := by
      show (argD s1.ρ ars ods).map _ = _
      rw [ed]
      rfl
    obtain ⟨φ0, p1, p2, p3, p4, p5, p6⟩ := entry (s := sx) (L := (lns ars).flatMap s1.φ) rx hL1 it'.its it'.nd it'.dj hn (fun i hi y hy => List.mem_flatMap.mpr ⟨i, hi, hy⟩) ed'
    have exB0 : Ex (ovl sx.H B ((lns ars).flatMap s1.φ)) sx.H := ovl_sub rx.exB
    have hB0 : ∀ y, ovl sx.H B ((lns ars).flatMap s1.φ) y = none → B y = none := fun y e => by
      by_cases z : y ∈ (lns ars).flatMap s1.φ
      · exact hL1 y z
      · rw [ovl_out z] at e; exact e
    have apart : ∀ y, O φ0 y → y ∉ (lns ars).flatMap s1.φ := fun y q z => by
      obtain ⟨i, hi, hy⟩ := List.mem_flatMap.mp z
      rcases p5 y q with w | ⟨j, hj, w⟩
      · exact it'.dj y w ⟨i, hy⟩
      · exact r1.dj i j y (fun w => hl i hi (by rw [w]; exact hj)) hy w
    let s2 : S5 := { σ := (V.ref x :: vs).map some, H := sx.H, F := sx.F, ρ := (D.obj .ow c [] [] :: ds).map Sl.dt, φ := φ0 }
    have r2 : Okk T (ovl sx.H B ((lns ars).flatMap s1.φ)) s2 := by
      refine ⟨by show ((D.obj .ow c [] [] :: ds).map Sl.dt).length = ((V.ref x :: vs).map some).length; rw [List.length_map, List.length_map, p6], exB0, rx.exF, rx.exP, fun k d q => ?_, fun k q => ?_, fun k q => ?_, p3, p4, fun k y q => ?_, rx.xt.ovlB fun a ha o e => by
        obtain ⟨j, _, hj⟩ := List.mem_flatMap.mp ha
        exact rx.ntO ⟨j, hj⟩ e⟩
      · have q : ((D.obj .ow c [] [] :: ds).map Sl.dt)[k]? = some (.dt d) := q
        rw [List.getElem?_map] at q
        cases e : (D.obj .ow c [] [] :: ds)[k]? with
        | none => rw [e] at q; cases q
        | some d' =>
          rw [e] at q
          cases q
          obtain ⟨v, q1, q2⟩ := p1 k d e
          exact ⟨v, by show ((V.ref x :: vs).map some)[k]? = _; rw [List.getElem?_map, q1]; rfl, q2⟩
      · have q : ((D.obj .ow c [] [] :: ds).map Sl.dt)[k]? = some .exn := q
        rw [List.getElem?_map] at q
        cases e : (D.obj .ow c [] [] :: ds)[k]? with
        | none => rw [e] at q; cases q
        | some d' => rw [e] at q; cases q
      · refine p2 k ?_
        cases e : (D.obj .ow c [] [] :: ds)[k]? with
        | none => exact List.getElem?_eq_none_iff.mp e
        | some d' =>
          refine absurd ?_ (q d')
          show ((D.obj .ow c [] [] :: ds).map Sl.dt)[k]? = _
          rw [List.getElem?_map, e]
          rfl
      · have na : y ∉ (lns ars).flatMap s1.φ := apart y ⟨k, q⟩
        rcases p5 y ⟨k, q⟩ with z | ⟨i, _, z⟩
        · exact ⟨(it'.ap y z).1, by rw [ovl_out na]; exact (it'.ap y z).2⟩
        · exact ⟨(r1.ap i y z).1, by rw [ovl_out na]; exact (r1.ap i y z).2⟩
    refine ⟨_, s2, _, rfl, rfl, rfl, r2, ?_⟩
    have a0 : Goes (tcs ars) s sx g := ⟨⟨fun b o e n => (a.step.keep b o e n).trans fun u hu => .of (eH b u hu), a.step.ext, a.step.fn, a.step.on⟩, fun j hj => by
      obtain ⟨b1, b2, b3⟩ := a.fix j hj
      refine ⟨b1, b2, fun y hy => ?_⟩
      obtain ⟨o, eo⟩ := r1.dom ⟨j, by rw [b2]; exact hy⟩
      rw [← b3 y hy, eo]
      exact eH y o eo, a.sg⟩
    have new2 : ∀ y, y ∈ [x, dx] → (O s.φ y ∨ s.H y = none) := fun y hy => by
      cases e : s.H y with
      | none => exact .inr rfl
      | some o =>
        by_cases z : O s.φ y
        · exact .inl z
        · obtain ⟨u, this⟩ := (a.step.keep y o e z).there
          rw [fx y hy] at this; cases this
    have g3 : ∀ {H' F' : Hp} {O2 : Addr → Prop}, Step sx.H sx.F (Or2 (O sx.φ) ([x, dx] ++ g)) H' F' O2 → Step s.H s.F (O s.φ) H' F' O2 := fun {H' F' O2} st => by
      have z : Step s.H s.F (O s.φ) sx.H sx.F (Or2 (O sx.φ) ([x, dx] ++ g)) := ⟨a0.step.keep, a0.step.ext, a0.step.fn, fun y q => by
        rcases q with q | q
        · exact a0.step.on y (.inl q)
        · rcases List.mem_append.mp q with q | q
          · exact new2 y q
          · exact a0.step.on y (.inr q)⟩
      exact z.trans st
    dsimp only at h
    cases em : m (.obj .ow c [] [] :: ds) with
    | bad => rw [em] at h; exact h.elim
    | ok d os =>
      rw [em] at h
      cases d with
      | non =>
        match os, h with
        | .dt o :: os', h =>
          intro v s' gr x1 x2 r' t nd nb st
          obtain ⟨q1, q2, q3⟩ := after (s := sx) (ars := ars') (gr := s'.φ 0) rx it' p5 rx.exB hB0 r' x2 x1 nb (st.drop fun y q => q.elim .inl fun z => .inl ⟨0, z⟩)
          obtain ⟨rv, _, _, _⟩ := t
          cases rv
          obtain ⟨v0, ev0, rp0⟩ := r'.sl 0 o (by rw [x1]; rfl)
          rw [x2] at ev0
          cases ev0
          refine ⟨rfl, h (.ref x) { σ := s1.σ, H := s'.H, F := s'.F, ρ := wb ars os' s1.ρ, φ := wbF ars' s'.φ s1.φ } (s'.φ 0) rfl e3 q1 ⟨rp0.noB (nb 0 o rfl), r'.nd 0, fun y hy => ⟨(r'.ap 0 y hy).1, hB0 y (r'.ap 0 y hy).2⟩, fun y hy q => ?_⟩ ⟨g3 q2, fun j hj => ?_, fun j hj => ?_⟩⟩
          · obtain ⟨j, q⟩ := q
            rcases wb_at (s := sx) (ρ := s1.ρ) (φ := s1.φ) (os := .dt o :: os') (ψ := s'.φ) it'.its j with ⟨y1, y2, y3⟩ | ⟨y1, k, w, tc, y2, y3, y4, y5, y6⟩
            · have q : y ∈ wbF ars' s'.φ s1.φ j := q
              rw [y3] at q
              obtain ⟨o', e⟩ := r1.dom ⟨j, q⟩
              rcases st.on y (.inl ⟨0, hy⟩) with z | z
              · rcases p5 y z with z | ⟨i, hi, z⟩
                · exact it'.dj y z ⟨j, q⟩
                · exact r1.dj i j y (fun w => y1 (by rw [← w]; exact hi)) z q
              · rw [show s2.H y = sx.H y from rfl, eH y o' e] at z; cases z
            · have q : y ∈ wbF ars' s'.φ s1.φ j := q
              rw [y3] at q
              refine r'.dj 0 k y (fun z => ?_) hy q
              subst z
              cases y2
          · obtain ⟨b1, b2, b3⟩ := a0.fix j fun z => hj (memL z)
            obtain ⟨c1, c2, c3⟩ := q3 j fun z => hj (memR z)
            exact ⟨c1.trans b1, c2.trans b2, fun y hy => (c3 y (by rw [show sx.φ j = s.φ j from b2]; exact hy)).trans (b3 y hy)⟩
          · exact a0.sg j fun z => hj (memL z)
        | .un :: os', h => exact h.elim
        | .exn :: os', h => exact h.elim
        | [], h => exact h.elim
      | _ => exact h.elim
    | exc c' ks xs os =>
      rw [em] at h
      match os, h with
      | [], h => exact h.elim
      | o :: os', h =>
        intro cls dd s' x1 x2 r' xr nb st
        obtain ⟨q1, q2, q3⟩ := after (s := sx) (ars := ars') rx it' p5 rx.exB hB0 r' x2 x1 nb st.or0
        have z := h cls dd { σ := s1.σ, H := s'.H, F := s'.F, ρ := wb ars os' s1.ρ, φ := wbF ars' s'.φ s1.φ } rfl e3 q1 xr ⟨g3 q2, fun j hj => ?_, fun j hj => ?_⟩
        · show W cls dd s.σ s'.H
          rw [← e3]
          exact z
        · obtain ⟨b1, b2, b3⟩ := a0.fix j fun z => hj (memL z)
          obtain ⟨c1, c2, c3⟩ := q3 j fun z => hj (memR z)
          exact ⟨c1.trans b1, c2.trans b2, fun y hy => (c3 y (by rw [show sx.φ j = s.φ j from b2]; exact hy)).trans (b3 y hy)⟩
        · exact a0.sg j fun z => hj (memL z)
end
section
variable {X : Cx} {G : Gx} {W : WX} {tc : List Nat} {a e : Expr} {es : List Expr} {pos p : Pos}
theorem pe_makeZ {x : Str} {C f : Addr} {k : Nat} {fd : FuncData} {ps : List Str} {sp : Sp} {E : L2.St → XK} {t : TA} (M : Mk X.K C f) (F : FnOk X.prog X.w X.K X.mg X.base (L2N.CX X.prog X.w) k f fd ps sp) (hr : Room (k + 1) X.A) (hg : Gl X x) (hm : X.mg x = some (.ref C)) (hb : Binds X.K fd ps [])
    (hx : ∀ σ, PassesAt (L2N.CX X.prog X.w) X σ (E σ)) (ha : PA X (a :: es) t) (hdb : (x == ("__debug__" : Str)) = false) (he : starEach (a :: es) X.env = (false, eval a X.env) :: starEach es X.env) (hpl : (backTo pos (starEach es X.env)).any (·.1) = false) :
    PE X (.Call (.Name x p) (a :: es) [] pos) (fun σ H Q => t σ H fun vs H1 => ∀ y dx, H1 y = none → H1 dx = none → dx ≠ y → sp (.ref y :: vs) (upd (upd H1 dx (.own y)) y (.ins C dx [])) (fun v H2 => v = .non ∧ Q (.ref y) H2) (E σ)) := by
  constructor
  intro pins s σ H Q I h
  refine wpAny_Call_Name_kw (ld_glob I hg hm ?_ hdb)
  refine PySem.W.callWith_K (h₀ := X.base) I.ok.mod.kin M.kp (thn (ha.run pos pins s σ H _ I h) ?_) he hpl
  rintro us s1 ⟨vs, H1, I1, r, q⟩
  refine ⟨I1.kIn, ?_⟩
  have hq := q (s1.heap.objs.size + 1) s1.heap.objs.size (I1.hok.fresh (Nat.le_succ _)) (I1.hok.fresh (Nat.le_refl _)) (Nat.ne_of_lt (Nat.lt_succ_self _))
  have I2 := Inv.made (C := C) I1
  have hl : (Value.ref (s1.heap.objs.size + 1) :: us).length = ps.length := by
    have z := F.len _ _ _ _ hq
    rw [List.length_cons] at z ⊢
    rw [← r.length]
    exact z
  have b := hb _ (Value.ref (s1.heap.objs.size + 1) :: us) I2.kIn (by rw [List.append_nil]; exact hl)
  rw [List.append_nil] at b
  refine wpAny_call (make_map (f := f) I1.kIn M.makes M.init (beq_iff_eq.mp M.fn) (codeAny_mono (F.run _ X.stack _ _ ⟨Value.ref (s1.heap.objs.size + 1) :: us, []⟩ (Value.ref (s1.heap.objs.size + 1) :: us) (V.ref (s1.heap.objs.size + 1) :: vs) _ (E σ) (hr.make C us []) (I2.env0.make C us []) b (.cons rfl r) hq) ?_))
  intro res s' hq'
  cases res with
  | error er => exact hx σ pins _ _ er s' I2 hq'
  | ok fl =>
    cases fl with
    | ret u =>
      obtain ⟨v, H', I3, rv, ev, q3⟩ := I2.after hq'
      subst ev
      exact ⟨rv, V.ref (s1.heap.objs.size + 1), H', I3, rfl, q3⟩
    | next => exact hq'.elim
    | brk => exact hq'.elim
    | cont => exact hq'.elim
theorem g_make {c : Str} {C f : Addr} {k : Nat} {fd : FuncData} {ps : List Str} {mn : List D → Res} {ars : List Arg} (tk : L2N.Takes X W) (hC : G.C c = some C) (M : Mk X.K C f) (F : FnOk X.prog X.w X.K X.mg X.base (L2N.CX X.prog X.w) k f fd ps (spM (tx X G) mn)) (hr : Room (k + 1) X.A) (hg : Gl X c) (hm : X.mg c = some (.ref C)) (hb : Binds X.K fd ps [])
    (ha : GR X G W (a :: es) ars) (hn : (ios ars).Nodup := by decide) (hl : ∀ i ∈ lns ars, i ∉ ios ars := by decide) (hdb : (c == ("__debug__" : Str)) = false := by decide) (he : starEach (a :: es) X.env = (false, eval a X.env) :: starEach es X.env := by rfl) (hpl : (backTo pos (starEach es X.env)).any (·.1) = false := by rfl) :
    GE X G W (tcs ars ++ ios ars) (.Call (.Name c p) (a :: es) [] pos) (dMake c mn ars) :=
  pe_mono (pe_makeZ M F hr hg hm hb (fun σ => L2N.passAt tk σ) ha hdb he hpl) fun σ H Q ⟨B, s, e1, e2, r, hp⟩ => by
    subst e1 e2
    exact args_core (s0 := s) (u := []) (g0 := []) Goes.refl rfl (fun _ h => by cases h) (fun j q => memL q) r hp fun ods vs s1 g r1 e3 it a h x dx hx hdx hne => make_fin (T := tx X G) hC hn hl r1 e3 it a h hx hdx hne
end
end Cs
namespace Cs
open PySem L2 Evl PyProof.Rows
section
variable {X : Cx}
end
end Cs
namespace Cs
open PySem L2 Evl PyProof.Rows
section
variable {T T' : Tx} {B H F : Hp}
mutual
theorem Rep.tx (eK : T.K = T'.K) (eC : T.C = T'.C) : ∀ {d : D} {v : V} {fp : List Addr}, Rep T B H F d v fp → Rep T' B H F d v fp
  | _, _, _, .non => .non
  | _, _, _, .bl b => .bl b
  | _, _, _, .int i => .int i
  | _, _, _, .str s hs => .str s hs
  | _, _, _, .cls h => .cls (by rw [← eC]; exact h)
  | _, _, _, .tup h r => .tup (by rw [← eK]; exact h) (Reps.tx eK eC r)
  | _, _, _, .lstF h r => .lstF h (Reps.tx eK eC r)
  | _, _, _, .lstR h r => .lstR (by rw [← eK]; exact h) (Reps.tx eK eC r)
  | _, _, _, .lstB h r => .lstB h (Reps.tx eK eC r)
  | _, _, _, .lstO h r e => .lstO h (Reps.tx eK eC r) e
  | _, _, _, .dctF h l r => .dctF h l (Reps.tx eK eC r)
  | _, _, _, .dctB h l r => .dctB h l (Reps.tx eK eC r)
  | _, _, _, .dctO h l r e => .dctO h l (Reps.tx eK eC r) e
  | _, _, _, .objF c h h2 l r => .objF (by rw [← eC]; exact c) h h2 l (Reps.tx eK eC r)
  | _, _, _, .objB c h h2 l r => .objB (by rw [← eC]; exact c) h h2 l (Reps.tx eK eC r)
  | _, _, _, .objO c h h2 l r e => .objO (by rw [← eC]; exact c) h h2 l (Reps.tx eK eC r) e
theorem Reps.tx (eK : T.K = T'.K) (eC : T.C = T'.C) : ∀ {ds : List D} {vs : List V} {fp : List Addr}, Reps T B H F ds vs fp → Reps T' B H F ds vs fp
  | _, _, _, .nil => .nil
  | _, _, _, .cons r rs e => .cons (Rep.tx eK eC r) (Reps.tx eK eC rs) e
end
theorem Rep.to {TB TB' : List (Addr × Str)} {K : PySem.W.Frag} {C : Str → Option Addr} {P P' : Hp} {X X' : Option Addr} {B H F : Hp} {d : D} {v : V} {fp : List Addr} (h : Rep ⟨K, C, P, X, TB⟩ B H F d v fp) : Rep ⟨K, C, P', X', TB'⟩ B H F d v fp := Rep.tx (T := ⟨K, C, P, X, TB⟩) (T' := ⟨K, C, P', X', TB'⟩) rfl rfl h
theorem Reps.to {TB TB' : List (Addr × Str)} {K : PySem.W.Frag} {C : Str → Option Addr} {P P' : Hp} {X X' : Option Addr} {B H F : Hp} {d : List D} {v : List V} {fp : List Addr} (h : Reps ⟨K, C, P, X, TB⟩ B H F d v fp) : Reps ⟨K, C, P', X', TB'⟩ B H F d v fp := Reps.tx (T := ⟨K, C, P, X, TB⟩) (T' := ⟨K, C, P', X', TB'⟩) rfl rfl h
end
section
variable {X : Cx} {G : Gx} {W : WX} {tc tb : List Nat}
theorem Rel.exn {T : Tx} {σ : L2.St} {B H F : Hp} {ρ : En} {φ : Nat → List Addr} {a : Addr} {i : Nat} (hX : T.X = some a) (r : Rel T σ B H F ρ φ) (hi : i < ρ.length) : Rel T (σ.set i (some (.ref a))) B H F (ρ.set i .exn) (fun j => if j = i then [] else φ j) := by
  have z := r.take (i := i)
  refine ⟨by rw [List.length_set, List.length_set]; exact r.len, r.exB, r.exF, r.exP, fun j d q => ?_, fun j q => ?_, fun j q => ?_, z.nd, z.dj, z.ap, r.xt⟩
  · by_cases e : j = i
    · subst e
      rw [List.getElem?_set_self hi] at q; cases q
    · rw [List.getElem?_set_ne fun y => e y.symm] at q
      obtain ⟨v, ev, rp⟩ := r.sl j d q
      exact ⟨v, by rw [List.getElem?_set_ne fun y => e y.symm]; exact ev, by rw [if_neg e]; exact rp⟩
  · by_cases e : j = i
    · subst e
      exact ⟨a, hX, List.getElem?_set_self (by rw [← r.len]; exact hi)⟩
    · rw [List.getElem?_set_ne fun y => e y.symm] at q
      obtain ⟨b, e1, e2⟩ := r.xn j q
      exact ⟨b, e1, by rw [List.getElem?_set_ne fun y => e y.symm]; exact e2⟩
  · by_cases e : j = i
    · rw [if_pos e]
    · rw [if_neg e]
      refine r.em j fun d h => q d ?_
      rw [List.getElem?_set_ne fun y => e y.symm]
      exact h
end
end Cs
namespace Cs
open PySem L2 Evl PyProof.Rows
structure XEnd (a C dx : Addr) (fs : List (Str × V)) (H H' : Hp) : Prop where
  obj : H' a = some (exo a C (some dx))
  dic : H' dx = some (exd dx fs)
  oth : ∀ b, b ≠ a → b ≠ dx → H' b = H b
def spXP (K : PySem.W.Frag) (ks : List Str) : Sp := fun vs H Q _ => ∃ a C xs, vs = .ref a :: xs ∧ xs.length = ks.length ∧ OexC K C ∧ (∀ f ∈ ks, PySem.W.findIn K (.ref C) f = some none) ∧ H a = some (exo a C none) ∧
  ∀ dx H', H dx = none → XEnd a C dx ((ks.zip xs).reverse) H H' → Q .non H'
section
variable {X : Cx}
inductive InitS (X : Cx) : Nat → List Stmt → List Str → Prop
  | nil {n : Nat} : InitS X n [] []
  | cons {n : Nat} {st : Stmt} {f : Str} {r : List Stmt} {ks : List Str} (h : PS X st (tOst X.K f (tVar 0) (tVar n))) (t : InitS X (n + 1) r ks) : InitS X n (st :: r) (f :: ks)
theorem init_rest {a C : Addr} (T : OexC X.K C) : ∀ {n : Nat} {sts : List Stmt} {ks : List Str}, InitS X n sts ks → PSs X sts (fun D σ H => ∃ dx fs xs, σ[0]? = some (some (.ref a)) ∧ H a = some (exo a C (some dx)) ∧ H dx = some (exd dx fs) ∧ dx ≠ a ∧ fs.length + ks.length ≤ 900 ∧ (∀ f ∈ ks, PySem.W.findIn X.K (.ref C) f = some none) ∧ xs.length = ks.length ∧ (∀ (i : Nat) v, xs[i]? = some v → σ[n + i]? = some (some v)) ∧ ∀ H', XEnd a C dx ((ks.zip xs).reverse ++ fs) H H' → D.nx σ H')
  | _, _, _, .nil => pss_mono pss_nil fun D σ H ⟨dx, fs, xs, h0, h1, h2, hne, _, _, h3, _, hq⟩ => by
    obtain rfl : xs = [] := List.length_eq_zero_iff.mp h3
    exact hq H ⟨h1, h2, fun _ _ _ => rfl⟩
  | n, _, _, .cons (f := f) (ks := ks) h t => pss_mono (pss_cons h (init_rest T t)) fun D σ H ⟨dx, fs, xs, h0, h1, h2, hne, h9, hf, h3, h4, hq⟩ => by
    cases xs with
    | nil => cases h3
    | cons x xs =>
      refine ⟨x, h4 0 x rfl, .ref a, h0, a, C, rfl, T, hf f List.mem_cons_self, .inr ⟨dx, fs, h1, h2, by simp only [List.length_cons] at h9; omega, dx, (f, x) :: fs, xs, h0, ?_, upd_same, hne, ?_, fun g hg => hf g (List.mem_cons_of_mem _ hg), Nat.succ.inj h3, fun i v e => ?_, fun H' z => hq H' ⟨z.obj, ?_, fun b b1 b2 => ?_⟩⟩⟩
      · rw [upd_ne fun z => hne z.symm]; exact h1
      · simp only [List.length_cons] at h9 ⊢; omega
      · have z := h4 (i + 1) v e
        rw [← z]
        congr 1
        omega
      · have y := z.dic
        rw [List.zip_cons_cons, List.reverse_cons, List.append_assoc]
        exact y
      · rw [z.oth b b1 b2, upd_ne b2]
end
theorem fn_xinit {P : Program} {w : World} {K : PySem.W.Frag} {mg : Str → Option Value} {base : Heap} {x qual : Str} {st : Stmt} {f : Addr} {fd : FuncData} {ks : List Str}
    (F : Fun K x qual st f fd) (S : FnScope ("self" :: ks) ("self" :: ks) (defScope st)) (h9 : ks.length < 900) (h0 : ks ≠ [])
    (hd : ∀ (cdv : Value) (A : Around) (outer : List Env) (s : Shared) (H : Hp) (E : XK), InitS (cxOf CX0 P w K mg base ("self" :: ks) qual (defScope st) f cdv A outer s H E).nox 1 (defBody st) ks) :
    FnOk P w K mg base CX0 1 f fd ("self" :: ks) (spXP K ks) := by
  refine F.ok S (fun vs H Q E ⟨a, C, xs, e, hl, _⟩ => by rw [e, List.length_cons, List.length_cons, hl]) (fun cdv A outer s H vs Q E hr ⟨a, C, xs, e, hl, T, hf, ha, hq⟩ => ?_)
  subst e
  have I := hd cdv A outer s H E
  have hs : ∀ (i : Nat) v, xs[i]? = some v → (L2.start ("self" :: ks) (V.ref a :: xs))[1 + i]? = some (some v) := fun i v e => by
    unfold L2.start
    have hi : i < xs.length := by
      rcases Nat.lt_or_ge i xs.length with z | z
      · exact z
      · rw [List.getElem?_eq_none z] at e; cases e
    rw [List.getElem?_append_left (by rw [List.length_map, List.length_cons]; omega), List.getElem?_map, Nat.add_comm, List.getElem?_cons_succ, e]
    rfl
  cases ks with
  | nil => exact absurd rfl h0
  | cons g ks =>
    cases xs with
    | nil => cases hl
    | cons y xs =>
      revert I
      generalize defBody st = sts
      intro I
      cases I with
      | cons h t =>
        refine ⟨_, pss_cons h (init_rest (a := a) (C := C) (X := (cxOf CX0 P w K mg base ("self" :: g :: ks) qual (defScope st) f cdv A outer s H E).nox) T t), ?_⟩
        refine ⟨y, hs 0 y rfl, .ref a, rfl, a, C, rfl, T, hf g List.mem_cons_self, .inl ⟨ha, fun dx hdx hne => ⟨dx, [(g, y)], xs, rfl, upd_same, ?_, hne, ?_, fun z hz => hf z (List.mem_cons_of_mem _ hz), Nat.succ.inj hl, fun i v e => ?_, fun H' z => hq dx H' hdx ⟨z.obj, ?_, fun b b1 b2 => ?_⟩⟩⟩⟩
        · rw [upd_ne hne]; exact upd_same
        · simp only [List.length_cons, List.length_nil] at h9 ⊢; omega
        · have z := hs (i + 1) v e
          rw [← z]
          congr 1
          omega
        · have y := z.dic
          rw [List.zip_cons_cons, List.reverse_cons]
          exact y
        · rw [z.oth b b1 b2, upd_ne b1, upd_ne b2]
def dRaise (c : Str) (ks : List Str) (f : M (List D)) : M Flw := bnd f fun ds ρ => if ds.length = ks.length ∧ allFs noBo ds = true then .exc c ks (mapFs flFrz ds) ρ else .bad
theorem lookup_zip : ∀ {ks : List Str} {vs : List V} {i : Nat} {k : Str} {v : V}, ks.Nodup → ks[i]? = some k → vs[i]? = some v → (ks.zip vs).lookup k = some v
  | [], _, _, _, _, _, h, _ => by simp at h
  | _ :: _, [], _, _, _, _, _, h => by simp at h
  | a :: ks, b :: vs, 0, k, v, _, h1, h2 => by
    cases Option.some.inj h1
    cases Option.some.inj h2
    simp [List.lookup]
  | a :: ks, b :: vs, i + 1, k, v, hn, h1, h2 => by
    have h1 : ks[i]? = some k := h1
    have h2 : vs[i]? = some v := h2
    have hne : k ≠ a := fun e => (List.nodup_cons.mp hn).1 (by rw [← e]; exact List.mem_of_getElem? h1)
    have e : (k == a) = false := by simpa using hne
    rw [List.zip_cons_cons, List.lookup_cons, e]
    exact lookup_zip (List.nodup_cons.mp hn).2 h1 h2
theorem lookup_app {k : Str} : ∀ {l m : List (Str × V)}, (l ++ m).lookup k = (l.lookup k).or (m.lookup k)
  | [], m => by simp
  | (a, b) :: l, m => by
    rw [List.cons_append, List.lookup_cons, List.lookup_cons]
    cases e : k == a with
    | true => rfl
    | false => exact lookup_app
theorem lookup_rev : ∀ {ks : List Str} {vs : List V}, ks.length = vs.length → ks.Nodup → ∀ k, (ks.zip vs).reverse.lookup k = (ks.zip vs).lookup k
  | [], _, _, _, _ => rfl
  | _ :: _, [], h, _, _ => by cases h
  | a :: ks, b :: vs, h, hn, k => by
    rw [List.zip_cons_cons, List.reverse_cons, lookup_app, lookup_rev (Nat.succ.inj h) (List.nodup_cons.mp hn).2, List.lookup_cons, List.lookup_cons]
    cases e : k == a with
    | false => simp [List.lookup]
    | true =>
      have e : k = a := by simpa using e
      subst e
      have z : (ks.zip vs).lookup k = none := by
        rw [List.lookup_eq_none_iff]
        intro p hp
        have hm := (List.of_mem_zip hp).1
        have : k ≠ p.1 := fun e => (List.nodup_cons.mp hn).1 (by rw [e]; exact hm)
        simpa using this
      rw [z]
      rfl
theorem oex_call {X : Cx} {CX : CXT} {C fI : Addr} {k : Nat} {fd : FuncData} {ps : List Str} {sp : Sp} {pins : List (Addr × Obj)} {σ : L2.St} {Q : XK} {Z : Hp} {t0 : Shared} {us : List Value} {vs : List V}
    (T : OexC X.K C) (iC : PySem.W.findIn X.K (.ref C) "__init__" = some (some (.ref fI))) (tI : PySem.W.typeIn X.K (.ref fI) = some (.type "function")) (F1 : FnOk X.prog X.w X.K X.mg X.base CX k fI fd ps sp) (hr : Room (k + 1) X.A) (hb : Binds X.K fd ps []) (hx : Passes CX X (fun _ _ _ => False))
    (J : Inv X pins σ Z t0) (rv : Vals vs us) (h9 : vs.length ≤ 1000)
    (hq : ∀ a, Z a = none → sp (.ref a :: vs) (upd Z a (exo a C none)) (fun v Y => v = .non ∧ ∃ (d : Addr) (fs : List (Str × V)), Y a = some (exo a C (some d)) ∧ Y d = some (exd d fs) ∧ Z d = none ∧ Q (.ref C) (some d) (upd (del Y a) d (.xd fs))) (fun _ _ _ => False)) :
    wpAny (model X.prog X.w) X.A (call (.ref C) us) (L2N.MkP X pins σ Q) X.xe t0 := by
  obtain ⟨nm, qn, N, bs, bm, sn, sub, ab, col, dd, k0, k1, k2, k3, k5, hC, hbm⟩ := T.cls
  obtain ⟨hh, gg, dr, tk, os⟩ := t0
  let y : Addr := hh.objs.size + 1
  let h2 : Heap := (hh.push (PySem.W.kdv_tup us)).push (PySem.HandSPX.excO C hh.objs.size)
  have up2 : ∀ b o, hh.get? b = some o → h2.get? b = some o := fun b o e => Heap.get?_push_of_some _ (Heap.get?_push_of_some _ e)
  have le : hh.objs.size ≤ y := Nat.le_succ _
  have at2 : h2.get? y = some (PySem.HandSPX.excO C hh.objs.size) := by
    show ((hh.push (PySem.W.kdv_tup us)).push (PySem.HandSPX.excO C hh.objs.size)).get? (hh.objs.size + 1) = _
    heap_get
  have sq := hq y (J.hok.fresh le)
  have J2 : Inv X pins σ (upd Z y (exo y C none)) ⟨h2, gg, dr, tk, os⟩ := J.laid (t' := tk) (a := y) (o := exo y C none) (h' := h2) up2 le (exo_ok at2)
  have rv2 : Vals (V.ref y :: vs) (Value.ref y :: us) := .cons rfl rv
  have ln : (Value.ref y :: us).length = ps.length := by
    rw [← rv2.length]
    exact F1.len _ _ _ _ sq
  have lu : us.length ≤ sizeLine := by
    have := rv.length
    rw [sizeLine_eq]
    omega
  have body := F1.run _ X.stack _ _ ⟨Value.ref y :: us, []⟩ (Value.ref y :: us) _ _ (fun _ _ _ => False) (hr.make C us []) (J2.env0.make C us []) (by have z := hb _ (Value.ref y :: us) J2.kIn (by simpa using ln); simpa using z) rv2 sq
  refine wpAny_call (PySem.HandSPX.call_own F.excBase_ValueError (fun Y => PySem.HandSPX.refsVE_contains Y bm hbm) (J.kIn _ _ hC) (PySem.W.looks_findIn J.kIn iC) (fun self => PySem.W.bind_fn J.kIn self tI) lu (codeAny_mono body fun r t hr2 => ?_))
  cases r with
  | error er => exact hx pins σ _ _ er t J2 hr2
  | ok fl =>
    cases fl with
    | next => exact hr2.elim
    | brk => exact hr2.elim
    | cont => exact hr2.elim
    | ret u =>
      obtain ⟨v, H2, os2, bare2, un2, hok2, rel, ev, d, fs, ea, ed, hd1, q2⟩ := hr2
      subst ev
      obtain ⟨h3, g3, d3, t3, os3⟩ := t
      obtain ⟨tt, G, I, kG, ge, hoe, na⟩ := mk_end0 (d2 := d3) (t2 := t3) J le up2 un2 hok2 os2 bare2 ea ed hd1
      exact ⟨rel, ⟨y, _, _, ⟨G, g3, d3, t3, os3⟩, _, .ref C, some d, rfl, I, kG, ge, hoe, ⟨rfl, rfl, fun w e => by cases e; rfl⟩, rfl, rfl, na, rfl, bare2, raises_own T.exC T.tyC, q2⟩⟩
theorem pmk_new {X : Cx} {CX : CXT} {x : Str} {C fI : Addr} {k : Nat} {fd : FuncData} {ps : List Str} {sp : Sp} {e : Expr} {es : List Expr} {p pos : Pos} {ta : TA} (T : OexC X.K C) (iC : PySem.W.findIn X.K (.ref C) "__init__" = some (some (.ref fI))) (tI : PySem.W.typeIn X.K (.ref fI) = some (.type "function"))
    (F1 : FnOk X.prog X.w X.K X.mg X.base CX k fI fd ps sp) (hr : Room (k + 1) X.A) (hb : Binds X.K fd ps []) (hx : Passes CX X (fun _ _ _ => False)) (hg : Gl X x) (hm : X.mg x = some (.ref C)) (ha : PA X (e :: es) ta)
    (hdb : (x == ("__debug__" : Str)) = false) (he : starEach (e :: es) X.env = (false, eval e X.env) :: starEach es X.env) (hpl : (backTo pos (starEach es X.env)).any (·.1) = false) :
    L2N.PMk X (.Call (.Name x p) (e :: es) [] pos) (tMkO C sp [] ta) := by
  intro pins s σ H Q I h
  refine wpAny_Call_Name_kw (ld_glob I hg hm ?_ hdb)
  refine PySem.W.callWith_K (h₀ := X.base) I.ok.mod.kin T.kC (thn (ha.run pos pins s σ H _ I h) fun us s1 ⟨vs, H1, I1, r1, hz, q1⟩ => ⟨I1.kIn, ?_⟩) he hpl
  exact oex_call T iC tI F1 hr hb hx I1 r1 hz fun a ha => by
    have z := q1 a ha
    rw [List.append_nil] at z
    exact z
section
variable {X : Cx} {G : Gx} {W : WX} {tc : List Nat} {e : Expr} {es : List Expr} {p pos pos2 : Pos}
theorem Reps.noB2 {T : Tx} {B B' H H' F : Hp} {ds : List D} {vs : List V} (h : Reps T B H F ds vs []) (hb : allFs noBo ds = true) : Reps T B' H' F ds vs [] :=
  (h.noB (B' := B') hb).mono (Ex.refl _) (Ex.refl _) fun _ z => by cases z
theorem Tmps.frz {T : Tx} {B H F : Hp} {φ : Nat → List Addr} {d : List D} {v : List V} {g : List Addr} (t : Tmps T B H F φ d v g) : Reps T B H (ovl H F g) (mapFs flFrz d) v [] := t.rep.frz (ovl_ex fun a h => (t.ap a h).1) fun a ha o e => by rw [ovl_in ha]; exact e
mutual
theorem noBo_frz : ∀ {d : D}, allF noBo d = true → allF noBo (mapF flFrz d) = true
  | .non, _ => rfl
  | .bl _, _ => rfl
  | .int _, _ => rfl
  | .str _, _ => rfl
  | .cls _, _ => rfl
  | .tup xs, h => by
    unfold mapF allF
    exact noBos_frz (allF_tup h)
  | .lst o xs, h => by
    have ⟨h1, h2⟩ := allF_lst h
    unfold mapF allF
    rw [noBos_frz h2, Bool.and_true]
    cases o <;> first | rfl | exact h1
  | .dct o ks xs, h => by
    have ⟨h1, h2⟩ := allF_dct h
    unfold mapF allF
    rw [noBos_frz h2, Bool.and_true]
    cases o <;> first | rfl | exact h1
  | .obj o c ks xs, h => by
    have ⟨h1, h2⟩ := allF_obj h
    unfold mapF allF
    rw [noBos_frz h2, Bool.and_true]
    cases o <;> first | rfl | exact h1
theorem noBos_frz : ∀ {d : List D}, allFs noBo d = true → allFs noBo (mapFs flFrz d) = true
  | [], _ => rfl
  | d :: ds, h => by
    have ⟨h1, h2⟩ := allFs_cons h
    unfold mapFs allFs
    rw [noBo_frz h1, noBos_frz h2]
    rfl
end
theorem gs_raise {c : Str} {ks : List Str} {C fI : Addr} {fd : FuncData} {f : M (List D)} (hc : X.calm = true) (tk : L2N.Takes X W) (hC : G.C c = some C) (T : OexC X.K C) (hf : ∀ f ∈ ks, PySem.W.findIn X.K (.ref C) f = some none) (iC : PySem.W.findIn X.K (.ref C) "__init__" = some (some (.ref fI))) (tI : PySem.W.typeIn X.K (.ref fI) = some (.type "function"))
    (F : FnOk X.prog X.w X.K X.mg X.base CX0 1 fI fd ("self" :: ks) (spXP X.K ks)) (hr : Room 2 X.A) (hb : L2.Binds X.K fd ("self" :: ks) []) (hg : Gl X c) (hm : X.mg c = some (.ref C)) (ha : GA X G W tc (e :: es) f) (hnd : ks.Nodup := by decide) (h9 : ks.length ≤ 900 := by decide)
    (hdb : (c == ("__debug__" : Str)) = false := by decide) (he : starEach (e :: es) X.env = (false, eval e X.env) :: starEach es X.env := by rfl) (hpl : (backTo pos (starEach es X.env)).any (·.1) = false := by rfl) :
    GS X G W tc (.Raise (some (.Call (.Name c p) (e :: es) [] pos)) none pos2) (dRaise c ks f) :=
  ps_mono (L2N.ps_raise hc tk (pmk_new T iC tI F hr hb pass0 hg hm ha hdb he hpl)) fun D σ H ⟨B, s, e1, e2, r, hp⟩ => by
    subst e1 e2
    refine ⟨B, s, rfl, rfl, r, ?_⟩
    have hp : Post (okS (tx X G) B tc s D) (exS (tx X G) W B tc s) (bnd f (fun ds ρ => if ds.length = ks.length ∧ allFs noBo ds = true then .exc c ks (mapFs flFrz ds) ρ else .bad) s.ρ) := hp
    refine hp.bnd.imp (fun ds ρ1 ⟨e, h⟩ vs s1 g e1 e2 r1 t a => ?_) fun _ _ _ _ h cls dd s' q1 q2 q3 q4 q5 => h cls dd s' q1 q3 q4 q5
    subst e1
    split at h
    · rename_i hh
      obtain ⟨hl, hnb⟩ := hh
      have hlv : vs.length = ks.length := by rw [← t.rep.len]; exact hl
      refine ⟨by omega, fun x hx => ?_⟩
      rw [List.append_nil]
      refine ⟨x, C, vs, rfl, hlv, T, hf, upd_same, fun dx H' hdx z => ⟨rfl, dx, _, z.obj, z.dic, ?_, ?_⟩⟩
      · by_cases q : dx = x
        · rw [q]; exact hx
        · rw [upd_ne q] at hdx; exact hdx
      · have hne : dx ≠ x := fun q => by
          rw [q, upd_same] at hdx; cases hdx
        have hdx1 : s1.H dx = none := by rw [upd_ne hne] at hdx; exact hdx
        have eH : upd (del H' x) dx (.xd ((ks.zip vs).reverse)) = upd s1.H dx (.xd ((ks.zip vs).reverse)) := by
          funext b
          by_cases q : b = dx
          · rw [q, upd_same, upd_same]
          · rw [upd_ne q, upd_ne q]
            unfold del
            by_cases q2 : b = x
            · rw [if_pos q2, q2, hx]
            · rw [if_neg q2, z.oth b q2 q, upd_ne q2]
        rw [eH]
        have r2 := (r1.ovl (g := g) (fun a q => (t.ap a q).1) t.dj t.rep.nt).newF (p := dx) (o := .xd ((ks.zip vs).reverse)) hdx1
        have a2 : Goes tc s (s1.ovl g) [] := a.ovl fun a q => (t.ap a q).1
        let s3 : S5 := { s1 with H := upd s1.H dx (.xd ((ks.zip vs).reverse)), F := upd (ovl s1.H s1.F g) dx (.xd ((ks.zip vs).reverse)) }
        have a3 : Goes [] (s1.ovl g) s3 [] := by
          refine ⟨(Step.newF hdx1 (ovl_sub r1.exF)).or0, fun j _ => ⟨rfl, rfl, fun b hb => ?_⟩, fun _ _ => rfl⟩
          obtain ⟨o, eo⟩ := r1.dom ⟨j, hb⟩
          exact upd_ne (ne_of_none eo hdx1)
        have hFd : (ovl s1.H s1.F g) dx = none := by
          cases e : ovl s1.H s1.F g dx with
          | none => rfl
          | some u => rw [ovl_sub r1.exF dx u e] at hdx1; cases hdx1
        rw [← e2]
        refine h (.ref C) (some dx) s3 rfl r2 ⟨C, hC, rfl, .inr ⟨dx, _, vs, rfl, upd_same, ?_, hlv.symm, fun i k v h1 h2 => ?_⟩⟩ ((a2.trans0 a3).wk fun j z => (List.mem_append.mp z).elim id fun z => by cases z)
        · exact (t.frz.noB2 (H' := fun _ => none) (noBos_frz hnb)).mono (Ex.refl _) (Ex.new hFd) fun _ z => by cases z
        · rw [lookup_rev hlv.symm hnd]
          exact lookup_zip hnd h1 h2
    · exact h.elim
end
end Cs
namespace Cs
open PySem L2 Evl PyProof.Rows
theorem wipe_in {σ : L2.St} : ∀ {vs : List Nat} {j : Nat}, j ∈ vs → j < σ.length → (wipe σ vs)[j]? = some none
  | i :: vs, j, h, hl => by
    show ((wipe σ vs).set i none)[j]? = _
    have hlen : ∀ vs : List Nat, (wipe σ vs).length = σ.length := fun vs => by
      induction vs with
      | nil => rfl
      | cons i vs ih => show ((wipe σ vs).set i none).length = _; rw [List.length_set, ih]
    by_cases e : i = j
    · subst e
      exact List.getElem?_set_self (by rw [hlen]; exact hl)
    · rw [List.getElem?_set_ne e]
      exact wipe_in ((List.mem_cons.mp h).resolve_left fun z => e z.symm) hl
theorem wipe_len {σ : L2.St} : ∀ {vs : List Nat}, (wipe σ vs).length = σ.length
  | [] => rfl
  | i :: vs => by show ((wipe σ vs).set i none).length = _; rw [List.length_set, wipe_len]
theorem wipe_out {σ : L2.St} : ∀ {vs : List Nat} {j : Nat}, j ∉ vs → (wipe σ vs)[j]? = σ[j]?
  | [], _, _ => rfl
  | i :: vs, j, h => by
    show ((wipe σ vs).set i none)[j]? = _
    rw [List.getElem?_set_ne fun z => h (by rw [z]; exact List.mem_cons_self)]
    exact wipe_out fun z => h (List.mem_cons_of_mem _ z)
theorem wipe_eq {σ τ : L2.St} {vs : List Nat} (hl : τ.length = σ.length) (h : ∀ j, j ∉ vs → τ[j]? = σ[j]?) : wipe τ vs = wipe σ vs := by
  apply List.ext_getElem?
  intro j
  by_cases e : j ∈ vs
  · by_cases hj : j < σ.length
    · rw [wipe_in e hj, wipe_in e (by rw [hl]; exact hj)]
    · rw [List.getElem?_eq_none (by rw [wipe_len]; omega), List.getElem?_eq_none (by rw [wipe_len]; omega)]
  · rw [wipe_out e, wipe_out e, h j e]
theorem wipe_wipe {σ : L2.St} {vs : List Nat} : wipe (wipe σ vs) vs = wipe σ vs := wipe_eq wipe_len fun j h => wipe_out h
def noOwAt (own : List Nat) (ρ : En) : Bool := own.all fun i => match ρ[i]? with
  | some (.dt d) => allF noOw d
  | _ => true
def rst (own : List Nat) (ρ0 ρ : En) : En := match own with
  | [] => ρ
  | i :: r => rst r ρ0 (match ρ0[i]? with
    | some x => ρ.set i x
    | none => ρ)
def lcL (tg : Tg) (own : List Nat) (cond : M Bool) (elt : M D) : List D → List D → En → Out (List D)
  | acc, [], ρ => .ok acc ρ
  | acc, d :: ds, ρ => match dTg tg d ρ with
    | .ok .nx ρ1 => (match cond ρ1 with
      | .ok true ρ2 => (match elt ρ2 with
        | .ok x ρ3 => if acc.length < lim then lcL tg own cond elt (acc ++ [x]) ds (fgt own ρ3) else .bad
        | _ => .bad)
      | .ok false ρ2 => lcL tg own cond elt acc ds (fgt own ρ2)
      | _ => .bad)
    | _ => .bad
def lcEnd (own : List Nat) (ρ0 : En) : Out (List D) → Out D
  | .ok xs ρ => .ok (.lst .ow xs) (rst own ρ0 ρ)
  | _ => .bad
def dLc (src : M (List D)) (tg : Tg) (own : List Nat) (cond : M Bool) (elt : M D) : M D := bnd src fun ds ρ =>
  if noOwAt own ρ = true then lcEnd own ρ (lcL tg own cond elt [] ds (fgt own ρ)) else .bad
section
variable {T : Tx} {B : Hp}
structure Acc (T : Tx) (B : Hp) (p : Addr) (s : S5) (xs : List D) (vs : List V) (g : List Addr) : Prop where
  t : Tmps T B s.H s.F s.φ xs vs g
  h : s.H p = some (.lst vs)
  pg : p ∉ g
  f : s.F p = none
  b : B p = none
  o : ¬ O s.φ p
theorem Acc.go {p : Addr} {s s1 : S5} {xs : List D} {vs : List V} {g g1 tc : List Nat} (c : Acc T B p s xs vs g) (a : Goes tc s s1 g1) : Acc T B p s1 xs vs g ∧ p ∉ g1 := by
  have hp : ∀ q : s.H p = none, False := fun q => by rw [c.h] at q; cases q
  refine ⟨⟨c.t.go a, (a.step.keep p _ c.h c.o).st fun _ e => (by cases e), c.pg, ?_, c.b, fun q => (a.step.on p (.inl q)).elim c.o hp⟩, fun q => (a.step.on p (.inr q)).elim c.o hp⟩
  cases e : s1.F p with
  | none => rfl
  | some u => exact ((a.step.fn p u e c.f).elim c.o hp).elim
theorem Acc.same {p : Addr} {s s1 : S5} {xs : List D} {vs : List V} {g : List Addr} (c : Acc T B p s xs vs g) (h1 : s1.H = s.H) (h2 : s1.F = s.F) (h3 : ∀ a, O s1.φ a → O s.φ a) : Acc T B p s1 xs vs g :=
  ⟨⟨by rw [h1, h2]; exact c.t.rep, c.t.nd, fun a ha => by rw [h2]; exact c.t.ap a ha, fun a ha q => c.t.dj a ha (h3 a q)⟩, by rw [h1]; exact c.h, c.pg, by rw [h2]; exact c.f, c.b, fun q => c.o (h3 p q)⟩
theorem Goes.poke {tc : List Nat} {s0 s : S5} {p : Addr} {o : HO} {g : List Addr} (r0 : Okk T B s0) (hp : s0.H p = none) (a : Goes tc s0 s g) : Goes tc s0 { s with H := upd s.H p o } g :=
  ⟨⟨fun b u e n => (a.step.keep b u e n).off (ne_of_none e hp), a.step.ext, a.step.fn, a.step.on⟩, fun j hj => by
    obtain ⟨x1, x2, x3⟩ := a.fix j hj
    refine ⟨x1, x2, fun b hb => ?_⟩
    obtain ⟨u, e⟩ := r0.dom ⟨j, hb⟩
    exact (upd_ne (ne_of_none e hp)).trans (x3 b hb), a.sg⟩
theorem Rel.poke {σ : L2.St} {H F : Hp} {ρ : En} {φ : Nat → List Addr} {p : Addr} {o : HO} (r : Rel T σ B H F ρ φ) (hF : F p = none) (hB : B p = none) (ho : ¬ O φ p) (hm : ∀ u, H p = some u → Nm u) (no : Nt o := by intro _ e; cases e) : Rel T σ B (upd H p o) F ρ φ := by
  refine ⟨r.len, fun a u e => ?_, fun a u e => ?_, r.exP, fun i d q => ?_, r.xn, r.em, r.nd, r.dj, r.ap, r.xt.upd hm no⟩
  · rw [upd_ne fun z => by rw [z, hB] at e; cases e]; exact r.exB a u e
  · rw [upd_ne fun z => by rw [z, hF] at e; cases e]; exact r.exF a u e
  · obtain ⟨v, e, rp⟩ := r.sl i d q
    exact ⟨v, e, rp.mono (Ex.refl B) (Ex.refl F) fun a ha o' e' => by rw [upd_ne fun z => ho ⟨i, by rw [← z]; exact ha⟩]; exact e'⟩
theorem Acc.push {p : Addr} {s s1 : S5} {xs : List D} {vs : List V} {g g1 tc : List Nat} {d : D} {v : V} (c : Acc T B p s xs vs g) (a : Goes tc s s1 g1) (t : Tmp T B s1.H s1.F s1.φ d v g1) : Acc T B p { s1 with H := upd s1.H p (.lst (vs ++ [v])) } (xs ++ [d]) (vs ++ [v]) (g ++ g1) := by
  obtain ⟨c1, hp1⟩ := c.go a
  have hH : ∀ b, b ≠ p → upd s1.H p (.lst (vs ++ [v])) b = s1.H b := fun b hb => upd_ne hb
  refine ⟨⟨?_, List.nodup_append.mpr ⟨c1.t.nd, t.nd, fun x hx y hy e => ?_⟩, fun b hb => ?_, fun b hb => ?_⟩, upd_same, fun q => (List.mem_append.mp q).elim c1.pg hp1, c1.f, c1.b, c1.o⟩
  · have h1 : Reps T B (upd s1.H p (.lst (vs ++ [v]))) s1.F xs vs g := c1.t.rep.mono (Ex.refl B) (Ex.refl _) fun b hb o e => by rw [hH b fun z => c1.pg (by rw [← z]; exact hb)]; exact e
    have h2 : Rep T B (upd s1.H p (.lst (vs ++ [v]))) s1.F d v g1 := t.rep.mono (Ex.refl B) (Ex.refl _) fun b hb o e => by rw [hH b fun z => hp1 (by rw [← z]; exact hb)]; exact e
    exact h1.snoc h2
  · subst e
    rcases a.step.on x (.inr hy) with z | z
    · exact c.t.dj x hx z
    · obtain ⟨o, e⟩ := c.t.rep.dom x hx
      rw [e] at z; cases z
  · exact (List.mem_append.mp hb).elim (c1.t.ap b) (t.ap b)
  · exact (List.mem_append.mp hb).elim (c1.t.dj b) (t.dj b)
theorem fgt_get : ∀ {is : List Nat} {ρ : En} {j : Nat}, j ∉ is → (fgt is ρ)[j]? = ρ[j]?
  | [], _, _, _ => rfl
  | i :: is, ρ, j, h => by
    show (fgt is (ρ.set i .un))[j]? = _
    rw [fgt_get fun z => h (List.mem_cons_of_mem _ z), List.getElem?_set_ne fun z => h (by rw [z]; exact List.mem_cons_self)]
theorem fgt_len : ∀ {is : List Nat} {ρ : En}, (fgt is ρ).length = ρ.length
  | [], _ => rfl
  | i :: is, ρ => by
    show (fgt is (ρ.set i .un)).length = _
    rw [fgt_len, List.length_set]
theorem fgt_un : ∀ {is : List Nat} {ρ : En} {j : Nat}, (j ∈ is ∨ ρ[j]? = some .un) → ∀ x, (fgt is ρ)[j]? = some x → x = .un
  | [], ρ, j, h, x, e => by
    rcases h with h | h
    · cases h
    · have e : ρ[j]? = some x := e
      rw [h] at e; cases e; rfl
  | i :: is, ρ, j, h, x, e => by
    have e : (fgt is (ρ.set i .un))[j]? = some x := e
    by_cases z : j = i
    · subst z
      by_cases hl : j < ρ.length
      · exact fgt_un (.inr (List.getElem?_set_self hl)) x e
      · rw [List.getElem?_eq_none (by rw [fgt_len, List.length_set]; omega)] at e; cases e
    · refine fgt_un ?_ x e
      rcases h with h | h
      · exact .inl ((List.mem_cons.mp h).resolve_left z)
      · exact .inr (by rw [List.getElem?_set_ne fun q => z q.symm]; exact h)
theorem Rel.sig {σ τ : L2.St} {H F : Hp} {ρ : En} {φ : Nat → List Addr} {own : List Nat} (r : Rel T σ B H F ρ φ) (hl : τ.length = σ.length) (ho : ∀ j ∈ own, ∀ x, ρ[j]? = some x → x = .un) (h : ∀ j, j ∉ own → τ[j]? = σ[j]?) : Rel T τ B H F ρ φ := by
  refine ⟨r.len.trans hl.symm, r.exB, r.exF, r.exP, fun i d q => ?_, fun i q => ?_, r.em, r.nd, r.dj, r.ap, r.xt⟩
  · have hi : i ∉ own := fun z => by cases ho i z _ q
    obtain ⟨v, e, rp⟩ := r.sl i d q
    exact ⟨v, by rw [h i hi]; exact e, rp⟩
  · have hi : i ∉ own := fun z => by cases ho i z _ q
    obtain ⟨a, e1, e2⟩ := r.xn i q
    exact ⟨a, e1, by rw [h i hi]; exact e2⟩
theorem into_own {s : S5} {own : List Nat} (r : Okk T B s) : ∃ s1 : S5, s1.ρ = fgt own s.ρ ∧ s1.σ = wipe s.σ own ∧ s1.H = s.H ∧ s1.F = s.F ∧ Okk T B s1 ∧ (∀ j, j ∉ own → s1.φ j = s.φ j) ∧ ∀ a, O s1.φ a → O s.φ a := by
  obtain ⟨s2, h1, h2, h3, h4, h5, h6⟩ := fgt_core (is := own) r
  refine ⟨{ s2 with σ := wipe s.σ own }, h1, rfl, h3, h4, ?_, fun j hj => (h6.fix j hj).2.1, fun a q => ?_⟩
  · refine Rel.sig (own := own) h5 (by rw [wipe_len, h2]) (fun j hj x e => ?_) fun j hj => by rw [wipe_out hj, h2]
    rw [h1] at e
    exact fgt_un (.inl hj) x e
  · rcases h6.step.on a (.inl q) with z | z
    · exact z
    · obtain ⟨o, e⟩ := h5.dom q
      rw [h3] at e
      rw [e] at z; cases z
theorem rst_len {ρ0 : En} : ∀ {own : List Nat} {ρ : En}, (rst own ρ0 ρ).length = ρ.length
  | [], _ => rfl
  | i :: r, ρ => by
    unfold rst
    rw [rst_len]
    split
    · rw [List.length_set]
    · rfl
theorem rst_out {ρ0 : En} : ∀ {own : List Nat} {ρ : En} {j : Nat}, (j ∉ own ∨ ρ[j]? = ρ0[j]?) → (rst own ρ0 ρ)[j]? = if j ∈ own then ρ0[j]? else ρ[j]?
  | [], ρ, j, _ => by rw [if_neg (fun z => by cases z)]; rfl
  | i :: r, ρ, j, h => by
    unfold rst
    by_cases e : j = i
    · subst e
      rcases h with h | h
      · exact absurd List.mem_cons_self h
      · rw [if_pos List.mem_cons_self]
        have z : (match ρ0[j]? with | some x => ρ.set j x | none => ρ)[j]? = ρ0[j]? := by
          split
          · rename_i x hx
            by_cases hl : j < ρ.length
            · rw [List.getElem?_set_self hl, hx]
            · rw [List.getElem?_eq_none (by omega)] at h
              rw [← h] at hx; cases hx
          · exact h
        rw [rst_out (.inr z), z]
        split <;> rfl
    · have z : (match ρ0[i]? with | some x => ρ.set i x | none => ρ)[j]? = ρ[j]? := by
        split
        · exact List.getElem?_set_ne fun q => e q.symm
        · rfl
      have hm : j ∈ i :: r ↔ j ∈ r := ⟨fun q => (List.mem_cons.mp q).resolve_left e, List.mem_cons_of_mem _⟩
      rw [rst_out (h.imp (fun q p => q (hm.mpr p)) fun q => z.trans q), z]
      by_cases q : j ∈ r
      · rw [if_pos q, if_pos (hm.mpr q)]
      · rw [if_neg q, if_neg fun p => q (hm.mp p)]
theorem rst_in {ρ0 : En} : ∀ {own : List Nat} {ρ : En} {j : Nat}, ρ.length = ρ0.length → j ∈ own → (rst own ρ0 ρ)[j]? = ρ0[j]?
  | i :: r, ρ, j, hl, h => by
    unfold rst
    have hl2 : (match ρ0[i]? with | some x => ρ.set i x | none => ρ).length = ρ0.length := by
      split
      · rw [List.length_set]; exact hl
      · exact hl
    by_cases q : j ∈ r
    · exact rst_in hl2 q
    · have e : j = i := (List.mem_cons.mp h).resolve_right q
      subst e
      rw [rst_out (.inl q), if_neg q]
      split
      · rename_i x hx
        have hj : j < ρ0.length := by
          rcases Nat.lt_or_ge j ρ0.length with z | z
          · exact z
          · rw [List.getElem?_eq_none z] at hx; cases hx
        rw [List.getElem?_set_self (by omega), hx]
      · rename_i hx
        rw [hx, List.getElem?_eq_none]
        rw [List.getElem?_eq_none_iff] at hx
        omega
theorem rst_no {ρ0 : En} {own : List Nat} {ρ : En} {j : Nat} (h : j ∉ own) : (rst own ρ0 ρ)[j]? = ρ[j]? := by
  rw [rst_out (.inl h), if_neg h]
theorem outof_own {s0 s : S5} {own tc to : List Nat} {g : List Addr} (r0 : Okk T B s0) (hn : noOwAt own s0.ρ = true) (r : Okk T B s) (hσ : ∀ j, j ∉ own → s.σ[j]? = s0.σ[j]?) (hu : ∀ j ∈ own, ∀ x, s.ρ[j]? = some x → x = .un) (hlen : s.ρ.length = s0.ρ.length)
    (st : Step s0.H s0.F (O s0.φ) s.H s.F (Or2 (O s.φ) g)) (fx : ∀ j, j ∉ tc → j ∉ own → s.ρ[j]? = s0.ρ[j]? ∧ s.φ j = s0.φ j ∧ ∀ a ∈ s0.φ j, s.H a = s0.H a) (hsub : ∀ j ∈ tc, j ∈ to ∨ j ∈ own) :
    ∃ s1 : S5, s1.ρ = rst own s0.ρ s.ρ ∧ s1.σ = s0.σ ∧ s1.H = s.H ∧ s1.F = s.F ∧ s1.φ = s.φ ∧ Okk T B s1 ∧ Goes to s0 s1 g := by
  have hφ : ∀ j ∈ own, s.φ j = [] := fun j hj => r.em j fun d q => by cases hu j hj _ q
  have hφ0 : ∀ j ∈ own, s0.φ j = [] := fun j hj => by
    by_cases q : ∃ d, s0.ρ[j]? = some (.dt d)
    · obtain ⟨d, q⟩ := q
      obtain ⟨v, _, rp⟩ := r0.sl j d q
      have z := List.all_eq_true.mp hn j hj
      rw [q] at z
      exact rp.noO z
    · exact r0.em j fun d z => q ⟨d, z⟩
  refine ⟨{ s with σ := s0.σ, ρ := rst own s0.ρ s.ρ }, rfl, rfl, rfl, rfl, rfl, ?_, st, fun j hj => ?_, fun _ _ => rfl⟩
  · refine ⟨by rw [rst_len, hlen]; exact r0.len, r.exB, r.exF, r.exP, fun j d q => ?_, fun j q => ?_, fun j q => ?_, r.nd, r.dj, r.ap, r.xt⟩
    · by_cases hj : j ∈ own
      · rw [rst_in hlen hj] at q
        obtain ⟨v, e, rp⟩ := r0.sl j d q
        refine ⟨v, e, ?_⟩
        rw [hφ0 j hj] at rp
        rw [show s.φ j = [] from hφ j hj]
        exact rp.mono (Ex.refl B) st.ext fun _ z => by cases z
      · rw [rst_no hj] at q
        obtain ⟨v, e, rp⟩ := r.sl j d q
        exact ⟨v, by rw [← hσ j hj]; exact e, rp⟩
    · by_cases hj : j ∈ own
      · rw [rst_in hlen hj] at q
        exact r0.xn j q
      · rw [rst_no hj] at q
        obtain ⟨a, e1, e2⟩ := r.xn j q
        exact ⟨a, e1, by rw [← hσ j hj]; exact e2⟩
    · by_cases hj : j ∈ own
      · exact hφ j hj
      · refine r.em j fun d z => q d ?_
        rw [rst_no hj]
        exact z
  · by_cases ho : j ∈ own
    · refine ⟨rst_in hlen ho, ?_, fun a ha => ?_⟩
      · show s.φ j = s0.φ j
        rw [hφ j ho, hφ0 j ho]
      · rw [hφ0 j ho] at ha; cases ha
    · obtain ⟨x1, x2, x3⟩ := fx j (fun z => (hsub j z).elim hj ho) ho
      exact ⟨by show (rst own s0.ρ s.ρ)[j]? = _; rw [rst_no ho]; exact x1, x2, x3⟩
structure In (own tc : List Nat) (s0 s : S5) (g : List Addr) : Prop where
  st : Step s0.H s0.F (O s0.φ) s.H s.F (Or2 (O s.φ) g)
  fx : ∀ j, j ∉ tc → j ∉ own → s.ρ[j]? = s0.ρ[j]? ∧ s.φ j = s0.φ j ∧ ∀ a ∈ s0.φ j, s.H a = s0.H a
  sg : ∀ j, j ∉ own → s.σ[j]? = s0.σ[j]?
variable {own tc : List Nat}
theorem In.go {s0 s s1 : S5} {g g1 t : List Addr} (i : In own tc s0 s g) (a : Goes t s s1 g1) (ht : ∀ j ∈ t, j ∈ tc) (hs : ∀ j, j ∉ own → s1.σ[j]? = s.σ[j]?) : In own tc s0 s1 (g1 ++ g) :=
  ⟨i.st.two a.step, fun j h1 h2 => by
    obtain ⟨x1, x2, x3⟩ := i.fx j h1 h2
    obtain ⟨y1, y2, y3⟩ := a.fix j fun z => h1 (ht j z)
    exact ⟨y1.trans x1, y2.trans x2, fun b hb => (y3 b (by rw [x2]; exact hb)).trans (x3 b hb)⟩, fun j h => (hs j h).trans (i.sg j h)⟩
theorem In.less {s0 s : S5} {g g1 : List Addr} (i : In own tc s0 s g) (h : ∀ a ∈ g1, a ∈ g) : In own tc s0 s g1 := ⟨i.st.drop fun a q => q.imp id (h a), i.fx, i.sg⟩
theorem In.poke {s0 s : S5} {g : List Addr} {p : Addr} {o : HO} (r0 : Okk T B s0) (hp : s0.H p = none) (i : In own tc s0 s g) : In own tc s0 { s with H := upd s.H p o } g :=
  ⟨⟨fun b u e n => (i.st.keep b u e n).off (ne_of_none e hp), i.st.ext, i.st.fn, i.st.on⟩, fun j h1 h2 => by
    obtain ⟨x1, x2, x3⟩ := i.fx j h1 h2
    refine ⟨x1, x2, fun b hb => ?_⟩
    obtain ⟨u, e⟩ := r0.dom ⟨j, hb⟩
    exact (upd_ne (ne_of_none e hp)).trans (x3 b hb), i.sg⟩
theorem In.next {s0 s : S5} {g : List Addr} (r : Okk T B s) (i : In own tc s0 s g) (hl : s.σ.length = s0.σ.length) : ∃ s1 : S5, s1.ρ = fgt own s.ρ ∧ s1.σ = wipe s0.σ own ∧ s1.H = s.H ∧ s1.F = s.F ∧ Okk T B s1 ∧ In own tc s0 s1 g ∧ ∀ a, O s1.φ a → O s.φ a := by
  obtain ⟨s1, h1, h2, h3, h4, h5, h6, h7⟩ := into_own (own := own) r
  have hw : wipe s.σ own = wipe s0.σ own := wipe_eq hl i.sg
  refine ⟨s1, h1, h2.trans hw, h3, h4, h5, ⟨?_, fun j q1 q2 => ?_, fun j q => ?_⟩, h7⟩
  · rw [h3, h4]
    exact i.st.drop fun a q => q.imp (h7 a) id
  · obtain ⟨x1, x2, x3⟩ := i.fx j q1 q2
    rw [h1, fgt_get q2, h3, h6 j q2]
    exact ⟨x1, x2, x3⟩
  · rw [h2, wipe_out q]
    exact i.sg j q
end
abbrev GTs (X : Cx) (G : Gx) (W : WX) (tc : List Nat) (e : List Expr) (f : M Bool) : Prop := PTs X e (tDT (tx X G) W tc f)
def dYes : M Bool := ret true
section
variable {X : Cx} {G : Gx} {W : WX} {tc : List Nat} {e : Expr}
theorem gts_nil : GTs X G W [] [] dYes := ⟨fun pins s σ H Q I h => pts_nil.run pins s σ H Q I (by
  obtain ⟨B, s, e1, e2, r, h⟩ := h
  subst e1 e2
  exact h s rfl rfl r Goes.refl)⟩
theorem gts_one {f : M Bool} (h : GT X G W tc e f) : GTs X G W tc [e] f := pts_one h
end
theorem Step.drop2 {H F H1 F1 : Hp} {O1 O2 O3 : Addr → Prop} (s : Step H F O1 H1 F1 O2) (h : ∀ a, O3 a → O2 a ∨ H a = none) : Step H F O1 H1 F1 O3 := ⟨s.keep, s.ext, s.fn, fun a q => (h a q).elim (s.on a) .inr⟩
theorem dPuts_len : ∀ {js : List Nat} {ds : List D} {ρ ρ2 : En} {fl : Flw}, dPuts js ds ρ = .ok fl ρ2 → ρ2.length = ρ.length
  | [], [], _, _, _, h => by cases h; rfl
  | j :: js, d :: ds, ρ, ρ2, fl, h => by
    unfold dPuts at h
    split at h
    · rw [dPuts_len h, List.length_set]
    · cases h
  | [], _ :: _, _, _, _, h => by cases h
  | _ :: _, [], _, _, _, h => by cases h
theorem dTg_len {tg : Tg} {d : D} {ρ ρ2 : En} {fl : Flw} (h : dTg tg d ρ = .ok fl ρ2) : ρ2.length = ρ.length := by
  cases tg with
  | one j => exact dPuts_len h
  | tup js =>
    cases d with
    | tup ds => exact dPuts_len h
    | _ => cases h
abbrev W0 : WX := fun _ _ _ _ => False
section
variable {T : Tx} {W : WX} {t1 tt te to own : List Nat} {src : M (List D)} {cond : M Bool} {elt : M D} {tg : Tg}
theorem tgs_sg {s s2 : S5} {g : List Addr} (a : Goes tg.tc s s2 g) (h : ∀ x ∈ tg.tc, 1000 ≤ x → x - 1000 ∈ own) : ∀ j, j ∉ own → s2.σ[j]? = s.σ[j]? := fun j hj => a.sg j fun z => hj (by
  have y := h (j + 1000) z (by omega)
  rwa [Nat.add_sub_cancel] at y)
theorem cmp_core {σ : L2.St} {H : Hp} {Q : VK} (htg : ∀ x ∈ tg.tc, 1000 ≤ x → x - 1000 ∈ own) (hsub : ∀ j ∈ tg.tc ++ (tt ++ te), j ∈ to ∨ j ∈ own) (h : tD T W (t1 ++ to) (dLc src tg own cond elt) σ H Q) :
    tLc (tDI T W t1 src) (tgR T.K tg) (tDT T W0 tt cond) (tD T W0 te elt) own σ H Q := by
  obtain ⟨B, sb, e1, e2, rb, hp⟩ := h
  subst e1 e2
  have hp : Post (okE T B (t1 ++ to) sb Q) (exE T W B (t1 ++ to) sb) (bnd src (fun ds ρ => if noOwAt own ρ = true then lcEnd own ρ (lcL tg own cond elt [] ds (fgt own ρ)) else .bad) sb.ρ) := hp
  refine ⟨B, sb, rfl, rfl, rb, hp.bnd.imp (fun ds ρ1 ⟨_, h⟩ J n Gd Y s0 q1 q2 r0 a0 sr p hp0 => ?_) fun _ _ _ _ h cls dd s' x1 x2 x3 x4 x5 => h cls dd s' x1 x2 x3 x4 (x5.wk fun _ => memL)⟩
  subst q1
  split at h
  case isFalse => exact h.elim
  rename_i hno
  rw [← q2]
  let Pv : Nat → Hp → Prop := fun k H => ∃ s acc vs g, s.H = H ∧ s.σ = wipe s0.σ own ∧ Okk T B s ∧ Acc T B p s acc vs g ∧ In own (tg.tc ++ (tt ++ te)) s0 s (p :: g) ∧ (∀ j ∈ own, ∀ x, s.ρ[j]? = some x → x = .un) ∧ s.σ.length = s0.σ.length ∧
    Post (okE T B (t1 ++ to) sb Q) (exE T W B (t1 ++ to) sb) (lcEnd own s0.ρ (lcL tg own cond elt acc (ds.drop k) s.ρ))
  refine lc_it sr.w Pv ?_ (fun k H _ hk => ?_) (fun k x H H' hk hP y => ?_) (fun H hP => ?_)
  · -- the start
    obtain ⟨s1, h1, h2, h3, h4, h5, h6, h7⟩ := into_own (own := own) r0
    refine ⟨{ s1 with H := upd s1.H p (.lst []) }, [], [], [], by show upd s1.H p _ = _; rw [h3], h2, ?_, ⟨⟨.nil, .nil, fun _ z => (by cases z), fun _ z => (by cases z)⟩, upd_same, fun z => (by cases z), ?_, ?_, ?_⟩, ⟨?_, fun j q1 q2 => ?_, fun j q => ?_⟩, fun j hj x e => ?_, ?_, ?_⟩
    · exact h5.new (by rw [h3]; exact hp0)
    · show s1.F p = none
      rw [h4]; exact r0.freeF hp0
    · exact r0.freeB hp0
    · exact fun q => r0.freeO hp0 (h7 _ q)
    · show Step s0.H s0.F (O s0.φ) (upd s1.H p _) s1.F _
      rw [h3, h4]
      refine (Step.new hp0).drop2 fun a q => ?_
      rcases q with q | q
      · exact .inl (h7 a q)
      · rw [List.mem_singleton.mp q]; exact .inr hp0
    · refine ⟨?_, h6 j q2, fun b hb => ?_⟩
      · show s1.ρ[j]? = _
        rw [h1, fgt_get q2]
      · obtain ⟨u, e⟩ := r0.dom ⟨j, hb⟩
        show upd s1.H p _ b = _
        rw [upd_ne (ne_of_none e hp0), h3]
    · show s1.σ[j]? = _
      rw [h2, wipe_out q]
    · have e : s1.ρ[j]? = some x := e
      rw [h1] at e
      exact fgt_un (.inl hj) x e
    · show s1.σ.length = _
      rw [h2, wipe_len]
    · show Post _ _ (lcEnd own s0.ρ (lcL tg own cond elt [] (ds.drop 0) s1.ρ))
      rw [h1]
      exact h
  · obtain ⟨s, acc, vs, g, x1, x2, x3, x4, x5, x6, x7, x8⟩ := hk
    rw [← x1]
    exact sr.g s x3 x5.st.ext
  · obtain ⟨s, acc, vs, g, x1, x2, x3, x4, x5, x6, x7, x8⟩ := hP
    subst x1
    obtain ⟨d, s3, y1, y2, y3, y4, y5, y6, y7⟩ := sr.y k x H' s hk x3 x5.st.ext y
    subst y2
    have hd : ds.drop k = d :: ds.drop (k + 1) := by
      obtain ⟨hl, e⟩ := List.getElem?_eq_some_iff.mp y1
      rw [← e]
      exact List.drop_eq_getElem_cons hl
    rw [hd] at x8
    unfold lcL at x8
    rw [← y4] at x8
    have c3 := (x4.go y6).1
    have i3 : In own (tg.tc ++ (tt ++ te)) s0 s3 (p :: g) := x5.go y6 (fun _ z => by cases z) fun j _ => by rw [y3]
    cases et : dTg tg d s3.ρ with
    | bad => rw [et] at x8; exact x8.elim
    | exc c ks xs ρ => rw [et] at x8; exact x8.elim
    | ok fl ρ2 =>
      rw [et] at x8
      cases fl with
      | bk => exact x8.elim
      | ct => exact x8.elim
      | rt r => exact x8.elim
      | nx =>
        dsimp only at x8
        rw [← x2, ← y3]
        refine tg_core (T := T) y5 y7 et fun s4 z1 z2 z3 z4 z5 => ?_
        have hsg4 := tgs_sg z5 htg
        have c4 := (c3.go z5).1
        have i4 : In own (tg.tc ++ (tt ++ te)) s0 s4 (p :: g) := i3.go z5 (fun j z => memL z) hsg4
        have hl4 : s4.σ.length = s3.σ.length := by rw [← z4.len, ← y5.len, z1]; exact dTg_len et
        have hl40 : s4.σ.length = s0.σ.length := by rw [hl4, y3, x7]
        refine ⟨(wipe_eq hl4 hsg4).trans (by rw [y3, x2, wipe_wipe]), ?_⟩
        subst z1
        refine ⟨B, s4, rfl, rfl, z4, ?_⟩
        cases ec : cond s4.ρ with
        | bad => rw [ec] at x8; exact x8.elim
        | exc c ks xs ρ => rw [ec] at x8; exact x8.elim
        | ok b ρ5 =>
          rw [ec] at x8
          intro s5 w1 w2 w3 w4
          subst w1
          have c5 := (c4.go w4).1
          have i5 : In own (tg.tc ++ (tt ++ te)) s0 s5 (p :: g) := i4.go w4 (fun j z => memR (memL z)) fun j _ => by rw [w2]
          cases b with
          | false =>
            rw [if_neg Bool.false_ne_true]
            obtain ⟨s6, v1, v2, v3, v4, v5, v6, v7⟩ := i5.next w3 (by rw [w2, hl40])
            exact ⟨s6, acc, vs, g, v3, v2, v5, c5.same v3 v4 v7, v6, fun j hj x e => fgt_un (.inl hj) x (by rw [← v1]; exact e), by rw [v2, wipe_len], by rw [v1]; exact x8⟩
          | true =>
            rw [if_pos rfl, ← w2]
            refine ⟨B, s5, rfl, rfl, w3, ?_⟩
            dsimp only at x8
            cases ee : elt s5.ρ with
            | bad => rw [ee] at x8; exact x8.elim
            | exc c ks xs ρ => rw [ee] at x8; exact x8.elim
            | ok d6 ρ6 =>
              rw [ee] at x8
              intro v6 s6 g6 u1 u2 u3 u4 u5
              subst u1
              dsimp only at x8
              split at x8
              case isFalse => exact x8.elim
              rename_i hlim
              have c6 := c5.go u5
              refine ⟨vs, c6.1.h, ?_, ?_⟩
              · have z := c5.t.rep.len
                rw [← z, sizeLine_eq]
                unfold lim at hlim
                omega
              · let s7 : S5 := { s6 with H := upd s6.H p (.lst (vs ++ [v6])) }
                have c7 : Acc T B p s7 (acc ++ [d6]) (vs ++ [v6]) (g ++ g6) := c5.push u5 u4
                have r7 : Okk T B s7 := u3.poke c6.1.f c6.1.b c6.1.o (nmH c6.1.h)
                have i6 : In own (tg.tc ++ (tt ++ te)) s0 s6 (g6 ++ (p :: g)) := i5.go u5 (fun j z => memR (memR z)) fun j _ => by rw [u2]
                have i7 : In own (tg.tc ++ (tt ++ te)) s0 s7 (p :: (g ++ g6)) := (i6.poke (p := p) (o := .lst (vs ++ [v6])) r0 hp0).less fun a ha => by
                  rcases List.mem_cons.mp ha with z | z
                  · rw [z]; exact memR List.mem_cons_self
                  · rcases List.mem_append.mp z with z | z
                    · exact memR (List.mem_cons_of_mem _ z)
                    · exact memL z
                obtain ⟨s8, v1, v2, v3, v4, v5, v6', v7⟩ := i7.next r7 (by show s6.σ.length = _; rw [u2, w2, hl40])
                exact ⟨s8, acc ++ [d6], _, _, v3, v2, v5, c7.same v3 v4 v7, v6', fun j hj x e => fgt_un (.inl hj) x (by rw [← v1]; exact e), by rw [v2, wipe_len], by rw [v1]; exact x8⟩
  · obtain ⟨s, acc, vs, g, x1, x2, x3, x4, x5, x6, x7, x8⟩ := hP
    subst x1
    rw [← sr.len, List.drop_length] at x8
    unfold lcL lcEnd at x8
    obtain ⟨s1, h1, h2, h3, h4, h5, h6, h7⟩ := outof_own (own := own) r0 hno x3 x5.sg x6 (by rw [x3.len, x7, r0.len]) x5.st x5.fx hsub
    have t1 : Tmp T B s1.H s1.F s1.φ (.lst .ow acc) (.ref p) (p :: g) := by
      rw [h3, h4, h5]
      exact ⟨.lstO x4.h x4.t.rep rfl, List.nodup_cons.mpr ⟨x4.pg, x4.t.nd⟩, fun a ha => by
        rcases List.mem_cons.mp ha with z | z
        · rw [z]; exact ⟨x4.f, x4.b⟩
        · exact x4.t.ap a z, fun a ha => by
        rcases List.mem_cons.mp ha with z | z
        · rw [z]; exact x4.o
        · exact x4.t.dj a z⟩
    have z := x8 (.ref p) s1 (p :: g) h1 (h2.trans q2) h6 t1 ((a0.trans0 h7).wk fun j z => z)
    rw [h3] at z
    exact z
end
section
variable {X : Cx} {G : Gx} {W : WX} {t1 tt te to : List Nat} {src : M (List D)} {cond : M Bool} {elt : M D} {tg : Tg} {eltE tgE iter : Expr} {ifs : List Expr} {scope : Scope} {own : List (Str × Nat)} {pos : Pos}
abbrev blkT (X : Cx) (scope : Scope) (J : Cx → Prop) : Prop := ∀ (s : Shared) (H : Hp) (C : Addr) (cl : List (Str × Addr)) (fp : List Addr), J (X.blk s H scope (compEnvC scope cl C X.env) fp)
theorem g_lc (hc : X.calm = true) (hN : X.N.Nodup) (hi : GI X G W t1 tgE iter src) (ok : BlkOk X.N X.env.scope scope own) (hg : blkT X scope fun Y => PG Y tgE (tgR X.K tg)) (ht : blkT X scope fun Y => GTs Y G W0 tt ifs cond) (he : blkT X scope fun Y => GE Y G W0 te eltE elt)
    (htg : ∀ x ∈ tg.tc, 1000 ≤ x → x - 1000 ∈ own.map (·.2) := by decide) (hsub : ∀ j ∈ tg.tc ++ (tt ++ te), j ∈ to ∨ j ∈ own.map (·.2) := by decide) (hs : ∀ x, foldedSetIterable iter X.env x = pure x := by intro _; rfl) :
    GE X G W (t1 ++ to) (.ListComp eltE [⟨tgE, iter, ifs, 0⟩] scope pos) (dLc src tg (own.map (·.2)) cond elt) :=
  pe_mono (pe_lc hc hN hi ok hg ht he hs) fun σ H Q h => cmp_core (T := tx X G) htg hsub h
theorem gs_setLc {i : Nat} {y : Str} {py spos : Pos} (hc : X.calm = true) (hN : X.N.Nodup) (hy : X.N[i]? = some y) (hyl : X.env.scope.names.lookup y = some .local) (hsw : swapsWith (.ListComp eltE [⟨tgE, iter, ifs, 0⟩] scope pos) (some (.Name y py)) spos.line X.env = pure true) (hi : GI X G W t1 tgE iter src) (ok : BlkOk X.N X.env.scope scope own) (hg : blkT X scope fun Y => PG Y tgE (tgR X.K tg)) (ht : blkT X scope fun Y => GTs Y G W0 tt ifs cond) (he : blkT X scope fun Y => GE Y G W0 te eltE elt)
    (htg : ∀ x ∈ tg.tc, 1000 ≤ x → x - 1000 ∈ own.map (·.2) := by decide) (hsub : ∀ j ∈ tg.tc ++ (tt ++ te), j ∈ to ∨ j ∈ own.map (·.2) := by decide) (hs : ∀ x, foldedSetIterable iter X.env x = pure x := by intro _; rfl) :
    GS X G W ((t1 ++ to) ++ [i, i + 1000]) (.Assign [.Name y py] (.ListComp eltE [⟨tgE, iter, ifs, 0⟩] scope pos) spos) (dAsg i (dLc src tg (own.map (·.2)) cond elt)) :=
  ps_mono (ps_setLc hc hN hy hyl hsw hi ok hg ht he hs) fun E σ H h => by
    obtain z := asg_core (T := tx X G) h
    exact cmp_core (T := tx X G) htg hsub z
end
end Cs
namespace Cs
open PySem L2 Evl PyProof.Rows
section
variable {T : Tx} {B : Hp} {own tc own1 : List Nat}
variable {tt te : List Nat} {cond : M Bool} {elt : M D} {tg : Tg}
structure Turn (T : Tx) (B : Hp) (own tc own1 : List Nat) (p : Addr) (s0 : S5) (σ1 : L2.St) (s : S5) (acc : List D) (vs : List V) (g : List Addr) : Prop where
  σ : s.σ = wipe σ1 own1
  r : Okk T B s
  c : Acc T B p s acc vs g
  i : In own tc s0 s (p :: g)
end
section
variable {T : Tx} {W : WX} {t1 tt te ts tt1 to tc own own1 : List Nat} {src src1 : M (List D)} {cond cond1 : M Bool} {elt : M D} {tg tg1 : Tg}
end
section
variable {X : Cx} {G : Gx} {W : WX} {t1 tt te ts tt1 to : List Nat} {src src1 : M (List D)} {cond cond1 : M Bool} {elt : M D} {tg tg1 : Tg} {eltE tgE iter tgE1 iter1 : Expr} {ifs ifs1 : List Expr} {scope : Scope} {own : List (Str × Nat)} {own1 : List Nat} {pos : Pos}
end
end Cs
namespace Cs
open PySem L2 Evl PyProof.Rows
def noBoAt (tc : List Nat) (ρ : En) : Bool := tc.all fun i => (match ρ[i]? with
  | some (.dt d) => allF noBo d
  | _ => true) && (decide (i < 1000) || (match ρ[i - 1000]? with
  | some (.dt d) => allF noBo d
  | _ => true))
def dLend (i : Nat) (tc : List Nat) (f : M D) : M D := fun ρ => match slot i ρ with
  | some d => (match f (ρ.set i (.dt (mapF flLend d))) with
    | .ok r ρ' => if allF noBo r = true ∧ noBoAt tc ρ' = true then .ok r (ρ'.set i (.dt d)) else .bad
    | .exc c ks xs ρ' => if noBoAt tc ρ' = true then .exc c ks xs (ρ'.set i (.dt d)) else .bad
    | .bad => .bad)
  | none => .bad
def dLendT (i : Nat) (tc : List Nat) (f : M Bool) : M Bool := fun ρ => match slot i ρ with
  | some d => (match f (ρ.set i (.dt (mapF flLend d))) with
    | .ok r ρ' => if noBoAt tc ρ' = true then .ok r (ρ'.set i (.dt d)) else .bad
    | .exc c ks xs ρ' => if noBoAt tc ρ' = true then .exc c ks xs (ρ'.set i (.dt d)) else .bad
    | .bad => .bad)
  | none => .bad
def flwOk : Flw → Bool
  | .rt d => allF noBo d
  | _ => true
def dLendS (i : Nat) (tc : List Nat) (f : M Flw) : M Flw := fun ρ => match slot i ρ with
  | some d => (match f (ρ.set i (.dt (mapF flLend d))) with
    | .ok r ρ' => if flwOk r = true ∧ noBoAt tc ρ' = true then .ok r (ρ'.set i (.dt d)) else .bad
    | .exc c ks xs ρ' => if noBoAt tc ρ' = true then .exc c ks xs (ρ'.set i (.dt d)) else .bad
    | .bad => .bad)
  | none => .bad
section
variable {T : Tx} {B : Hp} {i : Nat} {tc : List Nat}
abbrev S5.lent (s : S5) (i : Nat) (d : D) : S5 := { s with ρ := s.ρ.set i (.dt (mapF flLend d)), φ := fun j => if j = i then [] else s.φ j }
theorem slot_lt {ρ : En} {d : D} (h : slot i ρ = some d) : i < ρ.length := by
  have z := slot_some h
  rcases Nat.lt_or_ge i ρ.length with q | q
  · exact q
  · rw [List.getElem?_eq_none q] at z; cases z
theorem lend_in {s : S5} {d : D} (r : Okk T B s) (e : slot i s.ρ = some d) : Okk T (ovl s.H B (s.φ i)) (s.lent i d) := by
  have hB : ∀ a ∈ s.φ i, B a = none := fun a ha => (r.ap i a ha).2
  have hi := slot_lt e
  have z := r.take (i := i)
  refine ⟨by show (s.ρ.set i _).length = _; rw [List.length_set]; exact r.len, ovl_sub r.exB, r.exF, r.exP, fun j d' q => ?_, fun j q => ?_, fun j q => ?_, z.nd, z.dj, fun j a ha => ?_, r.xt.ovlB fun a ha o e => r.ntO ⟨i, ha⟩ e⟩
  · by_cases h : j = i
    · subst h
      have q : (s.ρ.set j (.dt (mapF flLend d)))[j]? = some (.dt d') := q
      rw [List.getElem?_set_self hi] at q
      cases q
      obtain ⟨v, ev, rp⟩ := r.sl j d (slot_some e)
      exact ⟨v, ev, by show Rep _ _ _ _ _ _ (if j = j then [] else _); rw [if_pos rfl]; exact rp.lend (ovl_ex hB) fun a ha o e => by rw [ovl_in ha]; exact e⟩
    · have q : (s.ρ.set i (.dt (mapF flLend d)))[j]? = some (.dt d') := q
      rw [List.getElem?_set_ne fun y => h y.symm] at q
      obtain ⟨v, ev, rp⟩ := r.sl j d' q
      exact ⟨v, ev, by show Rep _ _ _ _ _ _ (if j = i then [] else _); rw [if_neg h]; exact rp.mono (ovl_ex hB) (Ex.refl _) fun _ _ _ q => q⟩
  · have q : (s.ρ.set i (.dt (mapF flLend d)))[j]? = some .exn := q
    by_cases h : j = i
    · subst h
      rw [List.getElem?_set_self hi] at q; cases q
    · rw [List.getElem?_set_ne fun y => h y.symm] at q
      exact r.xn j q
  · show (if j = i then [] else s.φ j) = []
    by_cases h : j = i
    · rw [if_pos h]
    · rw [if_neg h]
      refine r.em j fun d' q' => q d' ?_
      show (s.ρ.set i _)[j]? = _
      rw [List.getElem?_set_ne fun y => h y.symm]
      exact q'
  · have ha : a ∈ (if j = i then [] else s.φ j) := ha
    by_cases h : j = i
    · rw [if_pos h] at ha; cases ha
    · rw [if_neg h] at ha
      exact ⟨(r.ap j a ha).1, by rw [ovl_out fun y => r.dj j i a h ha y]; exact (r.ap j a ha).2⟩
theorem noBoAt_get {ρ : En} (h : noBoAt tc ρ = true) {j : Nat} {d : D} (hj : j ∈ tc ∨ j + 1000 ∈ tc) (e : ρ[j]? = some (.dt d)) : allF noBo d = true := by
  rcases hj with hj | hj
  · have z := List.all_eq_true.mp h j hj
    rw [Bool.and_eq_true] at z
    have y := z.1
    rw [e] at y
    exact y
  · have z := List.all_eq_true.mp h (j + 1000) hj
    rw [Bool.and_eq_true] at z
    have y := z.2
    rw [Nat.add_sub_cancel, e] at y
    exact y
theorem lend_out {s s' : S5} {d : D} {g : List Addr} (r : Okk T B s) (e : slot i s.ρ = some d) (hi : i ∉ tc) (hi2 : i + 1000 ∉ tc) (r' : Okk T (ovl s.H B (s.φ i)) s') (a : Goes tc (s.lent i d) s' g) (hg : ∀ x ∈ g, ovl s.H B (s.φ i) x = none) (hn : noBoAt tc s'.ρ = true) :
    ∃ s2 : S5, s2.ρ = s'.ρ.set i (.dt d) ∧ s2.σ = s'.σ ∧ s2.H = s'.H ∧ s2.F = s'.F ∧ Okk T B s2 ∧ Goes tc s s2 g ∧ ∀ x, O s2.φ x → O s'.φ x ∨ x ∈ s.φ i := by
  have hB : ∀ a ∈ s.φ i, B a = none := fun a ha => (r.ap i a ha).2
  have hlt := slot_lt e
  obtain ⟨f1, f2, f3⟩ := a.fix i hi
  have f1 : s'.ρ[i]? = (s.ρ.set i (.dt (mapF flLend d)))[i]? := f1
  have f2 : s'.φ i = if i = i then [] else s.φ i := f2
  rw [if_pos rfl] at f2
  rw [List.getElem?_set_self hlt] at f1
  have hlt' : i < s'.ρ.length := by
    rcases Nat.lt_or_ge i s'.ρ.length with q | q
    · exact q
    · rw [List.getElem?_eq_none q] at f1; cases f1
  have cell : ∀ x ∈ s.φ i, s'.H x = s.H x := fun x hx => by
    obtain ⟨o, eo⟩ := r.dom ⟨i, hx⟩
    rw [eo]
    exact r'.exB x o (by rw [ovl_in hx]; exact eo)
  have some' : ∀ x ∈ s.φ i, ovl s.H B (s.φ i) x ≠ none := fun x hx z => by
    obtain ⟨o, eo⟩ := r.dom ⟨i, hx⟩
    rw [ovl_in hx, eo] at z; cases z
  have hO1 : ∀ x, O (s.lent i d).φ x → O s.φ x := fun x ⟨j, q⟩ => by
    have q : x ∈ (if j = i then [] else s.φ j) := q
    split at q
    · cases q
    · exact ⟨j, q⟩
  have hO2 : ∀ x, x ∈ s.φ i → ¬ O (s.lent i d).φ x := fun x hx ⟨j, q⟩ => by
    have q : x ∈ (if j = i then [] else s.φ j) := q
    split at q
    · cases q
    · rename_i h
      exact r.dj j i x h q hx
  have Bn : ∀ x, ovl s.H B (s.φ i) x = none → B x = none := fun x z => by
    by_cases h : x ∈ s.φ i
    · exact absurd z (some' x h)
    · rw [ovl_out h] at z; exact z
  have BB : Ex B (ovl s.H B (s.φ i)) := ovl_ex hB
  refine ⟨{ s' with ρ := s'.ρ.set i (.dt d), φ := fun j => if j = i then s.φ i else s'.φ j }, rfl, rfl, rfl, rfl, ?_, ⟨⟨fun x o h n => a.step.keep x o h fun z => n (hO1 x z), a.step.ext, fun x o h n => (a.step.fn x o h n).imp (hO1 x) id, fun x q => ?_⟩, fun j hj => ?_, a.sg⟩, fun x ⟨j, q⟩ => ?_⟩
  · refine ⟨by show (s'.ρ.set i _).length = _; rw [List.length_set]; exact r'.len, BB.trans r'.exB, r'.exF, r'.exP, fun j d' q => ?_, fun j q => ?_, fun j q => ?_, fun j => ?_, fun j k x hn h1 h2 => ?_, fun j x hx => ?_, ⟨r'.xt.ntF, r.xt.ntB, r'.xt.tb, r'.xt.ta⟩⟩
    · have q : (s'.ρ.set i (.dt d))[j]? = some (.dt d') := q
      by_cases h : j = i
      · subst h
        rw [List.getElem?_set_self hlt'] at q
        cases q
        obtain ⟨v, ev, rp⟩ := r.sl j d (slot_some e)
        refine ⟨v, (a.sg j hi2).trans ev, ?_⟩
        show Rep _ _ _ _ _ _ (if j = j then _ else _)
        rw [if_pos rfl]
        exact rp.mono (Ex.refl B) a.step.ext fun x hx o eo => by rw [cell x hx]; exact eo
      · rw [List.getElem?_set_ne fun y => h y.symm] at q
        show ∃ v, _ ∧ Rep _ _ _ _ _ _ (if j = i then _ else _)
        rw [if_neg h]
        by_cases hj : j ∈ tc ∨ j + 1000 ∈ tc
        · obtain ⟨v, ev, rp⟩ := r'.sl j d' q
          exact ⟨v, ev, rp.noB (noBoAt_get hn hj q)⟩
        · have h1 : j ∉ tc := fun z => hj (.inl z)
          have h2 : j + 1000 ∉ tc := fun z => hj (.inr z)
          obtain ⟨y1, y2, y3⟩ := a.fix j h1
          have y1 : s'.ρ[j]? = (s.ρ.set i (.dt (mapF flLend d)))[j]? := y1
          rw [List.getElem?_set_ne fun y => h y.symm, q] at y1
          have y2 : s'.φ j = if j = i then [] else s.φ j := y2
          rw [if_neg h] at y2
          have y3 : ∀ x ∈ (if j = i then [] else s.φ j), s'.H x = s.H x := y3
          rw [if_neg h] at y3
          obtain ⟨v, ev, rp⟩ := r.sl j d' y1.symm
          refine ⟨v, (a.sg j h2).trans ev, ?_⟩
          rw [y2]
          exact rp.mono (Ex.refl B) a.step.ext fun x hx o eo => by rw [y3 x hx]; exact eo
    · have q : (s'.ρ.set i (.dt d))[j]? = some .exn := q
      by_cases h : j = i
      · subst h
        rw [List.getElem?_set_self hlt'] at q; cases q
      · rw [List.getElem?_set_ne fun y => h y.symm] at q
        exact r'.xn j q
    · show (if j = i then s.φ i else s'.φ j) = []
      by_cases h : j = i
      · exfalso
        subst h
        exact q d (List.getElem?_set_self hlt')
      · rw [if_neg h]
        refine r'.em j fun d' q' => q d' ?_
        show (s'.ρ.set i _)[j]? = _
        rw [List.getElem?_set_ne fun y => h y.symm]
        exact q'
    · show (if j = i then s.φ i else s'.φ j).Nodup
      split
      · exact r.nd i
      · exact r'.nd j
    · have h1 : x ∈ (if j = i then s.φ i else s'.φ j) := h1
      have h2 : x ∈ (if k = i then s.φ i else s'.φ k) := h2
      by_cases p1 : j = i
      · by_cases p2 : k = i
        · exact hn (p1.trans p2.symm)
        · rw [if_pos p1] at h1
          rw [if_neg p2] at h2
          exact some' x h1 (r'.ap k x h2).2
      · by_cases p2 : k = i
        · rw [if_neg p1] at h1
          rw [if_pos p2] at h2
          exact some' x h2 (r'.ap j x h1).2
        · rw [if_neg p1] at h1
          rw [if_neg p2] at h2
          exact r'.dj j k x hn h1 h2
    · have hx : x ∈ (if j = i then s.φ i else s'.φ j) := hx
      by_cases p1 : j = i
      · rw [if_pos p1] at hx
        refine ⟨?_, hB x hx⟩
        cases ef : s'.F x with
        | none => rfl
        | some o =>
          exfalso
          rcases a.step.fn x o ef (r.ap i x hx).1 with z | z
          · exact hO2 x hx z
          · obtain ⟨o', eo⟩ := r.dom ⟨i, hx⟩
            have z : s.H x = none := z
            rw [eo] at z; cases z
      · rw [if_neg p1] at hx
        exact ⟨(r'.ap j x hx).1, Bn x (r'.ap j x hx).2⟩
  · rcases q with ⟨j, q⟩ | q
    · have q : x ∈ (if j = i then s.φ i else s'.φ j) := q
      by_cases p1 : j = i
      · rw [if_pos p1] at q
        exact .inl ⟨i, q⟩
      · rw [if_neg p1] at q
        exact (a.step.on x (.inl ⟨j, q⟩)).imp (hO1 x) id
    · exact (a.step.on x (.inr q)).imp (hO1 x) id
  · by_cases h : j = i
    · subst h
      refine ⟨?_, ?_, cell⟩
      · show (s'.ρ.set j _)[j]? = _
        rw [List.getElem?_set_self hlt']
        exact (slot_some e).symm
      · show (if j = j then s.φ j else _) = _
        rw [if_pos rfl]
    · obtain ⟨y1, y2, y3⟩ := a.fix j hj
      have y1 : s'.ρ[j]? = (s.ρ.set i (.dt (mapF flLend d)))[j]? := y1
      rw [List.getElem?_set_ne fun y => h y.symm] at y1
      have y2 : s'.φ j = if j = i then [] else s.φ j := y2
      rw [if_neg h] at y2
      have y3 : ∀ x ∈ (if j = i then [] else s.φ j), s'.H x = s.H x := y3
      rw [if_neg h] at y3
      refine ⟨?_, ?_, y3⟩
      · show (s'.ρ.set i _)[j]? = _
        rw [List.getElem?_set_ne fun y => h y.symm]
        exact y1
      · show (if j = i then _ else s'.φ j) = _
        rw [if_neg h]
        exact y2
  · have q : x ∈ (if j = i then s.φ i else s'.φ j) := q
    by_cases p1 : j = i
    · rw [if_pos p1] at q; exact .inr q
    · rw [if_neg p1] at q; exact .inl ⟨j, q⟩
theorem lend_tmp {s s' s2 : S5} {d : D} {v : V} {g : List Addr} (r : Okk T B s) (h1 : s2.H = s'.H) (h2 : s2.F = s'.F) (h3 : ∀ x, O s2.φ x → O s'.φ x ∨ x ∈ s.φ i) (t : Tmp T (ovl s.H B (s.φ i)) s'.H s'.F s'.φ d v g) (hn : allF noBo d = true) : Tmp T B s2.H s2.F s2.φ d v g := by
  have some' : ∀ x ∈ s.φ i, ovl s.H B (s.φ i) x ≠ none := fun x hx z => by
    obtain ⟨o, eo⟩ := r.dom ⟨i, hx⟩
    rw [ovl_in hx, eo] at z; cases z
  refine ⟨by rw [h1, h2]; exact t.rep.noB hn, t.nd, fun x hx => ⟨by rw [h2]; exact (t.ap x hx).1, ?_⟩, fun x hx q => ?_⟩
  · have z := (t.ap x hx).2
    by_cases h : x ∈ s.φ i
    · exact absurd z (some' x h)
    · rw [ovl_out h] at z; exact z
  · rcases h3 x q with z | z
    · exact t.dj x hx z
    · exact some' x z (t.ap x hx).2
end
section
variable {X : Cx} {G : Gx} {W : WX} {tc : List Nat} {i : Nat} {e : Expr} {st : Stmt} {sts : List Stmt}
theorem lendE_core {T : Tx} {f : M D} (hi : i ∉ tc) (hi2 : i + 1000 ∉ tc) {σ : L2.St} {H : Hp} {Q : VK} (h : tD T W tc (dLend i tc f) σ H Q) : tD T W tc f σ H Q := by
  obtain ⟨B, s, e1, e2, r, hp⟩ := h
  subst e1 e2
  unfold dLend at hp
  cases es : slot i s.ρ with
  | none => rw [es] at hp; exact hp.elim
  | some d =>
    rw [es] at hp
    dsimp only at hp
    refine ⟨_, s.lent i d, rfl, rfl, lend_in r es, ?_⟩
    show Post _ _ (f (s.ρ.set i (.dt (mapF flLend d))))
    cases ef : f (s.ρ.set i (.dt (mapF flLend d))) with
    | bad => rw [ef] at hp; exact hp.elim
    | ok d' ρ' =>
      rw [ef] at hp
      dsimp only at hp
      split at hp
      case isFalse => exact hp.elim
      rename_i hh
      intro v s' g q1 q2 q3 q4 q5
      subst q1
      obtain ⟨s2, w1, w2, w3, w4, w5, w6, w7⟩ := lend_out r es hi hi2 q3 q5 (fun x hx => (q4.ap x hx).2) hh.2
      have z := hp v s2 g w1 (w2.trans q2) w5 (lend_tmp r w3 w4 w7 q4 hh.1) w6
      rw [w3] at z
      exact z
    | exc c ks xs ρ' =>
      rw [ef] at hp
      dsimp only at hp
      split at hp
      case isFalse => exact hp.elim
      rename_i hh
      intro cls dd s' q1 q2 q3 q4 q5
      subst q1
      obtain ⟨s2, w1, w2, w3, w4, w5, w6, w7⟩ := lend_out r es hi hi2 q3 q5 (fun x hx => by cases hx) hh
      have z := hp cls dd s2 w1 (w2.trans q2) w5 (by rw [w4]; exact q4) w6
      rw [w2, w3] at z
      exact z
theorem lendT_core {T : Tx} {f : M Bool} (hi : i ∉ tc) (hi2 : i + 1000 ∉ tc) {σ : L2.St} {H : Hp} {Q : Bool → Hp → Prop} (h : tDT T W tc (dLendT i tc f) σ H Q) : tDT T W tc f σ H Q := by
  obtain ⟨B, s, e1, e2, r, hp⟩ := h
  subst e1 e2
  unfold dLendT at hp
  cases es : slot i s.ρ with
  | none => rw [es] at hp; exact hp.elim
  | some d =>
    rw [es] at hp
    dsimp only at hp
    refine ⟨_, s.lent i d, rfl, rfl, lend_in r es, ?_⟩
    show Post _ _ (f (s.ρ.set i (.dt (mapF flLend d))))
    cases ef : f (s.ρ.set i (.dt (mapF flLend d))) with
    | bad => rw [ef] at hp; exact hp.elim
    | ok d' ρ' =>
      rw [ef] at hp
      dsimp only at hp
      split at hp
      case isFalse => exact hp.elim
      rename_i hh
      intro s' q1 q2 q3 q5
      subst q1
      obtain ⟨s2, w1, w2, w3, w4, w5, w6, w7⟩ := lend_out r es hi hi2 q3 q5 (fun x hx => by cases hx) hh
      have z := hp s2 w1 (w2.trans q2) w5 w6
      rw [w3] at z
      exact z
    | exc c ks xs ρ' =>
      rw [ef] at hp
      dsimp only at hp
      split at hp
      case isFalse => exact hp.elim
      rename_i hh
      intro cls dd s' q1 q2 q3 q4 q5
      subst q1
      obtain ⟨s2, w1, w2, w3, w4, w5, w6, w7⟩ := lend_out r es hi hi2 q3 q5 (fun x hx => by cases hx) hh
      have z := hp cls dd s2 w1 (w2.trans q2) w5 (by rw [w4]; exact q4) w6
      rw [w2, w3] at z
      exact z
theorem lendS_core {T : Tx} {f : M Flw} (hi : i ∉ tc) (hi2 : i + 1000 ∉ tc) {σ : L2.St} {H : Hp} {E : Ends} (h : tDS T W tc (dLendS i tc f) E σ H) : tDS T W tc f E σ H := by
  obtain ⟨B, s, e1, e2, r, hp⟩ := h
  subst e1 e2
  unfold dLendS at hp
  cases es : slot i s.ρ with
  | none => rw [es] at hp; exact hp.elim
  | some d =>
    rw [es] at hp
    dsimp only at hp
    refine ⟨_, s.lent i d, rfl, rfl, lend_in r es, ?_⟩
    show Post _ _ (f (s.ρ.set i (.dt (mapF flLend d))))
    cases ef : f (s.ρ.set i (.dt (mapF flLend d))) with
    | bad => rw [ef] at hp; exact hp.elim
    | ok fl ρ' =>
      rw [ef] at hp
      dsimp only at hp
      split at hp
      case isFalse => exact hp.elim
      rename_i hh
      cases fl with
      | rt d' =>
        intro v s' g q1 q3 q4 q5
        subst q1
        obtain ⟨s2, w1, w2, w3, w4, w5, w6, w7⟩ := lend_out r es hi hi2 q3 q5 (fun x hx => (q4.ap x hx).2) hh.2
        have z := hp v s2 g w1 w5 (lend_tmp r w3 w4 w7 q4 hh.1) w6
        rw [w3] at z
        exact z
      | nx =>
        intro s' q1 q3 q5
        subst q1
        obtain ⟨s2, w1, w2, w3, w4, w5, w6, w7⟩ := lend_out r es hi hi2 q3 q5 (fun x hx => by cases hx) hh.2
        have z := hp s2 w1 w5 w6
        rw [w2, w3] at z
        exact z
      | bk =>
        intro s' q1 q3 q5
        subst q1
        obtain ⟨s2, w1, w2, w3, w4, w5, w6, w7⟩ := lend_out r es hi hi2 q3 q5 (fun x hx => by cases hx) hh.2
        have z := hp s2 w1 w5 w6
        rw [w2, w3] at z
        exact z
      | ct =>
        intro s' q1 q3 q5
        subst q1
        obtain ⟨s2, w1, w2, w3, w4, w5, w6, w7⟩ := lend_out r es hi hi2 q3 q5 (fun x hx => by cases hx) hh.2
        have z := hp s2 w1 w5 w6
        rw [w2, w3] at z
        exact z
    | exc c ks xs ρ' =>
      rw [ef] at hp
      dsimp only at hp
      split at hp
      case isFalse => exact hp.elim
      rename_i hh
      intro cls dd s' q1 q3 q4 q5
      subst q1
      obtain ⟨s2, w1, w2, w3, w4, w5, w6, w7⟩ := lend_out r es hi hi2 q3 q5 (fun x hx => by cases hx) hh
      have z := hp cls dd s2 w1 w5 (by rw [w4]; exact q4) w6
      rw [w2, w3] at z
      exact z
theorem g_lend {f : M D} (h : GE X G W tc e f) (hi : i ∉ tc := by decide) (hi2 : i + 1000 ∉ tc := by decide) : GE X G W tc e (dLend i tc f) := pe_mono h fun _ _ _ q => lendE_core hi hi2 q
theorem gt_lend {f : M Bool} (h : GT X G W tc e f) (hi : i ∉ tc := by decide) (hi2 : i + 1000 ∉ tc := by decide) : GT X G W tc e (dLendT i tc f) := pt_mono h fun _ _ _ q => lendT_core hi hi2 q
theorem gs_lend {f : M Flw} (h : GS X G W tc st f) (hi : i ∉ tc := by decide) (hi2 : i + 1000 ∉ tc := by decide) : GS X G W tc st (dLendS i tc f) := ps_mono h fun _ _ _ q => lendS_core hi hi2 q
def dFs (i : Nat) : M D := fun ρ => match slot i ρ with
  | some d => .ok (mapF flFrz d) (ρ.set i (.dt (mapF flFrz d)))
  | none => .bad
end
end Cs
namespace Cs
open PySem L2 Evl PyProof.Rows
def rngC (lo c : Int) (n : Nat) : List D := (List.range n).map fun (i : Nat) => .int (lo + (i : Int) * c)
def szC (i j c : Int) : Nat := (Builtin.Range.rangeSize i j c).toNat
def dRg3 (f g h : M D) : M (List D) := bnd f fun d => bnd g fun e => bnd h fun k => match d, e, k with
  | .int i, .int j, .int c => if (-1000000 ≤ i ∧ i ≤ 1000000) ∧ (-1000000 ≤ j ∧ j ≤ 1000000) ∧ ((c ≠ 0 ∧ -1000000 ≤ c ∧ c ≤ 1000000) ∨ (2 ^ 64 ≤ c ∧ c ≤ 2 ^ 200)) then ret (rngC i c (szC i j c)) else bad
  | _, _, _ => bad
section
variable {T : Tx} {B : Hp} {s : S5}
end
section
variable {X : Cx} {G : Gx} {W : WX} {t1 t2 t3 : List Nat} {tg a b c : Expr} {pos p : Pos} {f g h : M D}
end
section
variable {X : Cx} {G : Gx} {W : WX} {t1 t2 t3 tc : List Nat} {e : Expr} {lo hi : Option Expr} {pos p2 : Pos} {f : M D} {g h : M (Option Int)}
def tDO (T : Tx) (W : WX) (tc : List Nat) (f : M (Option Int)) : TO := fun σ H Q => ∃ B s, s.σ = σ ∧ s.H = H ∧ Okk T B s ∧ Post (fun o ρ => ∀ s', s'.ρ = ρ → s'.σ = s.σ → Okk T B s' → Goes tc s s' [] → Q o s'.H) (exE T W B tc s) (f s.ρ)
abbrev GO2 (X : Cx) (G : Gx) (W : WX) (tc : List Nat) (e : Option Expr) (f : M (Option Int)) : Prop := PO X e (tDO (tx X G) W tc f)
def dPart (f : M D) : M (Option Int) := bnd f fun d => match d with
  | .int i => ret (some i)
  | _ => bad
theorem po_mono {t t' : TO} (h : PO X lo t) (i : ∀ σ H Q, t' σ H Q → t σ H Q) : PO X lo t' := ⟨fun pins s σ H Q I q => h.run pins s σ H Q I (i σ H Q q)⟩
theorem go2_none : GO2 X G W [] none (ret none) := po_mono po_none fun σ H Q ⟨B, s, e1, e2, r, h⟩ => by
  subst e1 e2
  exact h s rfl rfl r Goes.refl
theorem go2_some (he : GE X G W tc e f) : GO2 X G W tc (some e) (dPart f) := po_mono (po_some he) fun σ H Q ⟨B, s, e1, e2, r, h⟩ => by
  subst e1 e2
  refine seqE1 (okk := fun o ρ => ∀ s', s'.ρ = ρ → s'.σ = s.σ → Okk (tx X G) B s' → Goes tc s s' [] → Q o s'.H) r h fun d v s1 g _ hs r1 t a h => ?_
  cases d with
  | int i =>
    obtain ⟨rp, _, _, _⟩ := t
    cases rp
    exact ⟨i, rfl, h s1 rfl hs r1 a.drop0⟩
  | _ => exact h.elim
def cutD (xs : List D) (lo hi : Option Int) : List D := (xs.drop (HT.sIx xs.length 0 lo)).take (HT.sIx xs.length xs.length hi - HT.sIx xs.length 0 lo)
def dSl (f : M D) (g h : M (Option Int)) : M D := bnd f fun d => bnd g fun lo => bnd h fun hi => match d with
  | .lst _ xs => if allF noOw d = true then ret (.lst .ow (cutD xs lo hi)) else bad
  | _ => bad
theorem Reps.drop {T : Tx} {B H F : Hp} : ∀ {n : Nat} {xs : List D} {vs : List V}, Reps T B H F xs vs [] → Reps T B H F (xs.drop n) (vs.drop n) []
  | 0, _, _, h => h
  | _ + 1, _, _, .nil => .nil
  | n + 1, _, _, .cons r rs e => by
    obtain ⟨rfl, rfl⟩ := List.append_eq_nil_iff.mp e.symm
    exact Reps.drop (n := n) rs
theorem Reps.take {T : Tx} {B H F : Hp} : ∀ {n : Nat} {xs : List D} {vs : List V}, Reps T B H F xs vs [] → Reps T B H F (xs.take n) (vs.take n) []
  | 0, _, _, _ => .nil
  | _ + 1, _, _, .nil => .nil
  | n + 1, _, _, .cons r rs e => by
    obtain ⟨rfl, rfl⟩ := List.append_eq_nil_iff.mp e.symm
    exact .cons r (Reps.take (n := n) rs) rfl
theorem g_slice (h1 : GE X G W t1 e f) (h2 : GO2 X G W t2 lo g) (h3 : GO2 X G W t3 hi h) : GE X G W (t1 ++ (t2 ++ t3)) (.Subscript e (.Slice lo hi none p2) pos) (dSl f g h) :=
  pe_mono (pe_slice sl_list h1 h2 h3) fun σ H Q ⟨B, s, e1, e2, r, hp⟩ => by
    subst e1 e2
    refine seqE r hp fun d v s1 g1 _ hs r1 t a hp1 => ?_
    rw [← hs]
    refine ⟨B, s1, rfl, rfl, r1, hp1.bnd.imp (fun lo ρ2 ⟨_, h4⟩ s2 q1 q2 r2 a2 => ?_) fun _ _ _ _ z cls dd s' q1 q2 q3 q4 q5 => z cls dd s' q1 (q2.trans hs) q3 q4 ((a.trans0 q5).wk fun j w => by
      rcases List.mem_append.mp w with w | w
      · exact memL w
      · exact memR (memL w))⟩
    subst q1
    have a12 := a.trans0 a2
    rw [← q2]
    refine ⟨B, s2, rfl, rfl, r2, h4.bnd.imp (fun hi ρ3 ⟨_, h5⟩ s3 q3 q4 r3 a3 => ?_) fun _ _ _ _ z cls dd s' w1 w2 w3 w4 w5 => z cls dd s' w1 (w2.trans (q2.trans hs)) w3 w4 ((a12.trans0 w5).wk fun j w => by rw [List.append_assoc] at w; exact w)⟩
    subst q3
    have a123 : Goes (t1 ++ (t2 ++ t3)) s s3 [] := (a12.trans0 a3).wk fun j w => by rw [List.append_assoc] at w; exact w
    cases d with
    | lst o xs =>
      dsimp only at h5
      split at h5
      case isFalse => exact h5.elim
      rename_i hn
      have z := rep_v t.rep hn
      obtain ⟨p, vs, rfl, rp, sq⟩ := z.listS
      have e13 : Ex s1.F s3.F := a2.step.ext.trans a3.step.ext
      refine ⟨p, vs, rfl, sq s3.H s3.F e13 r3.exF r3.exB, fun q hq => ?_⟩
      have rq : Reps (tx X G) B s3.H s3.F (cutD xs lo hi) (cutV vs lo hi) [] := by
        unfold cutD cutV
        rw [rp.len]
        exact (rp.drop.take).mono (Ex.refl B) e13 fun _ z => by cases z
      have z := a123.trans0 (goes_new (o := .lst (cutV vs lo hi)) r3 hq)
      rw [List.append_nil] at z
      exact h5 (.ref q) (s3.new q (.lst (cutV vs lo hi))) [q] rfl (q4.trans (q2.trans hs)) (r3.new hq) (tmp_newL r3 hq rq) z
    | _ => exact h5.elim
end
end Cs
namespace Cs
open PySem L2 Evl PyProof.Rows
def appAt2 (j d : D) (xs : List D) : Option (List D) := (inner j xs).bind fun (n, ys) => if ys.length < lim ∧ allF noOw d = true then some (xs.set n (.lst .ow (ys ++ [d]))) else none
def dApp2 (i : Nat) (fj fe : M D) : M Flw := bnd (dPk i) fun _ => bnd fj fun j => dIn2 i j (bnd (dFz fe) fun d => dMutL i (appAt2 j d))
section
variable {X : Cx} {G : Gx} {W : WX} {tc t1 t2 : List Nat} {a b e : Expr} {pos pos2 pos' apos cpos p p2 : Pos} {u w : M D} {i : Nat} {x : Str}
end
end Cs
namespace Cs
open PySem L2 Evl PyProof.Rows
abbrev P0 : Hp := fun _ => none
def scr (ns : List Int) : D := .lst .ro (ns.map D.int)
def spLaw (K : PySem.W.Frag) (n : Nat) : Sp := fun vs H Q _ => ∃ (a : Addr) (ns : List Int), vs = [.ref a] ∧ SqL K H a (ns.map V.int) ∧ ns.length ≤ n ∧ ∀ H', Q (.bl true) H'
theorem reps_ints {T : Tx} {B H F : Hp} : ∀ ns : List Int, Reps T B H F (ns.map D.int) (ns.map V.int) []
  | [] => .nil
  | n :: ns => .cons (.int n) (reps_ints ns) rfl
def noTb (H : Hp) : Hp := fun a => match H a with
  | some (.tbl _) => none
  | x => x
theorem noTb_ex {H : Hp} : Ex (noTb H) H := fun a o e => by
  unfold noTb at e
  split at e
  · cases e
  · exact e
theorem noTb_nt {H : Hp} : ∀ a o, noTb H a = some o → Nt o := fun a o e ps z => by
  subst z
  unfold noTb at e
  split at e
  · cases e
  · rename_i h
    exact h ps e
theorem noTb_of {H : Hp} {a : Addr} {o : HO} (h : H a = some o) (n : Nt o) : noTb H a = some o := by
  unfold noTb
  rw [h]
  split
  · rename_i ps e
    cases e
    exact absurd rfl (n ps)
  · rfl
theorem noTb_sq {K : PySem.W.Frag} {H : Hp} {a : Addr} {vs : List V} (h : SqL K H a vs) : SqL K (noTb H) a vs := by
  rcases h with (h | ⟨o, h⟩) | h
  · exact .inl (.inl (noTb_of h fun _ e => by cases e))
  · exact .inl (.inr ⟨o, noTb_of h fun _ e => by cases e⟩)
  · exact .inr h
def spLawT (K : PySem.W.Frag) (n : Nat) (TB : List (Addr × Str)) : Sp := fun vs H Q _ => ∃ (a : Addr) (ns : List Int), vs = [.ref a] ∧ SqL K H a (ns.map V.int) ∧ ns.length ≤ n ∧ (LamX.Tabs TB H ∧ ∀ a ps, H a = some (.tbl ps) → ∃ q, (a, q) ∈ TB) ∧ ∀ H', Q (.bl true) H'
def spLawU (K : PySem.W.Frag) (n : Nat) (TB : List (Addr × Str)) : Sp := fun vs H Q _ => ∃ (a : Addr) (ns : List Int), vs = [.ref a] ∧ SqL K H a (ns.map V.int) ∧ ns.length ≤ n ∧ LamX.Tabs TB H ∧ ∀ H', Q (.bl true) H'
def cutT (TB : List (Addr × Str)) (H : Hp) : Hp := fun b => match H b with
  | some (.tbl ps) => if b ∈ TB.map (·.1) then some (.tbl ps) else none
  | x => x
theorem cutT_nt {TB : List (Addr × Str)} {H : Hp} {b : Addr} {o : HO} (h : H b = some o) (n : Nt o) : cutT TB H b = some o := by
  unfold cutT
  rw [h]
  split
  · rename_i ps e
    cases e
    exact absurd rfl (n ps)
  · rfl
theorem cutT_of {TB : List (Addr × Str)} {H : Hp} {b : Addr} {o : HO} (h : cutT TB H b = some o) : H b = some o := by
  unfold cutT at h
  split at h
  · rename_i ps e
    split at h
    · rw [e]
      exact h
    · cases h
  · exact h
theorem cutT_n {TB : List (Addr × Str)} {H : Hp} {b : Addr} (h : H b = none) : cutT TB H b = none := by
  unfold cutT
  rw [h]
theorem cutT_tabs {TB : List (Addr × Str)} {H : Hp} (t : LamX.Tabs TB H) : LamX.Tabs TB (cutT TB H) := fun p hp => by
  obtain ⟨ps, h1, h2, h3⟩ := t p hp
  refine ⟨ps, ?_, h2, fun pos cv hc => ?_⟩
  · unfold cutT
    rw [h1]
    exact if_pos (List.mem_map.mpr ⟨p, hp, rfl⟩)
  · obtain ⟨c, e1, e2⟩ := h3 pos cv hc
    exact ⟨c, e1, cutT_nt e2 fun _ z => by unfold LamX.CodeO at z; cases z⟩
theorem cutT_sq {TB : List (Addr × Str)} {K : PySem.W.Frag} {H : Hp} {a : Addr} {vs : List V} (h : SqL K H a vs) : SqL K (cutT TB H) a vs := by
  rcases h with (h | ⟨o, h⟩) | h
  · exact .inl (.inl (cutT_nt h fun _ e => by cases e))
  · exact .inl (.inr ⟨o, cutT_nt h fun _ e => by cases e⟩)
  · exact .inr h
theorem cutT_hok {P : Program} {w : World} {TB : List (Addr × Str)} {H : Hp} {h : Heap} (x : HOk P w H h) : HOk P w (cutT TB H) h := fun a o e =>
  (x a o (cutT_of e)).stay (fun _ _ _ q => q) (fun b q => cutT_nt q fun _ z => by cases z) fun b xs q => cutT_nt q fun _ z => by cases z
theorem sp_impT {TB : List (Addr × Str)} {K : PySem.W.Frag} {C : Str → Option Addr} {m : List D → Res} {n : Nat} (hm : ∀ ns : List Int, ns.length ≤ n → ∃ os, m [scr ns] = .ok (.bl true) os) {vs : List V} {H : Hp} {Q : VK} {E : XK} (h : spLawT K n TB vs H Q E) : spM ⟨K, C, P0, none, TB⟩ m vs H Q E := by
  obtain ⟨a, ns, rfl, hS, hl, hT, hQ⟩ := h
  obtain ⟨os, e⟩ := hm ns hl
  refine ⟨fun _ => none, ⟨[some (.ref a)], H, noTb H, [.dt (scr ns)], fun _ => []⟩, [scr ns], rfl, rfl, rfl, ⟨rfl, fun _ _ z => (by cases z), noTb_ex, fun _ _ z => (by cases z), fun i d q => ?_, fun i q => ?_, fun _ _ => rfl, fun _ => .nil, fun _ _ _ _ z => (by cases z), fun _ _ z => (by cases z), ⟨noTb_nt, fun _ _ z => (by cases z), hT.1, hT.2⟩⟩, ?_⟩
  · cases i with
    | zero =>
      cases q
      exact ⟨.ref a, rfl, .lstR (noTb_sq hS) (reps_ints ns)⟩
    | succ i => simp at q
  · cases i with
    | zero => cases q
    | succ i => simp at q
  · rw [e]
    intro v s' g q1 q2 q3 q4 q5 q6 q7
    obtain ⟨rp, _, _, _⟩ := q4
    cases rp
    exact hQ s'.H
theorem law_fnT {P : Program} {w : World} {K : PySem.W.Frag} {mg : Str → Option Value} {base : Heap} {k : Nat} {f : Addr} {fd : FuncData} {ps : List Str} {C : Str → Option Addr} {m : List D → Res} {n : Nat} {TB : List (Addr × Str)} (hm : ∀ ns : List Int, ns.length ≤ n → ∃ os, m [scr ns] = .ok (.bl true) os)
    (F : FnOk P w K mg base (L2N.CX P w) k f fd ps (spM ⟨K, C, P0, none, TB⟩ m)) : FnOk P w K mg base (L2N.CX P w) k f fd ps (spLawU K n TB) := by
  have start : ∀ {vs : List V} {H : Hp} {Q : VK} {E : XK}, spLawU K n TB vs H Q E → spM ⟨K, C, P0, none, TB⟩ m vs (cutT TB H) (fun v _ => v = .bl true) (fun _ _ _ => False) := fun {vs H Q E} ⟨a, ns, h1, h2, h3, h4, h5⟩ =>
    sp_impT hm ⟨a, ns, h1, cutT_sq h2, h3, ⟨cutT_tabs h4, fun b qs e => by
      unfold cutT at e
      split at e
      · split at e
        · rename_i hb
          obtain ⟨p, hp, z⟩ := List.mem_map.mp hb
          exact ⟨p.2, by rw [← z]; exact hp⟩
        · cases e
      · rename_i hx
        exact absurd e (hx qs)⟩, fun _ => rfl⟩
  refine ⟨fun vs H Q E h => F.len vs _ _ _ (start h), fun A outer s H args us vs Q E hr e0 hb hv h => ?_⟩
  have e1 : Env0 P w K mg base A outer s (cutT TB H) := ⟨e0.frames, e0.mod, fun b o e => ⟨(e0.bs b o e).1, cutT_n (e0.bs b o e).2⟩, e0.bsz, e0.funs, fun b hb => cutT_n (e0.frf b hb), cutT_hok e0.hok, e0.bare⟩
  refine codeAny_mono (F.run A outer s (cutT TB H) args us vs _ _ hr e1 hb hv (start h)) fun r s' hq => ?_
  cases r with
  | error e =>
    obtain ⟨_, _, _, _, _, _, _, _, _, _, _, _, z⟩ := hq
    exact z.elim
  | ok fl =>
    cases fl with
    | next => exact hq
    | brk => exact hq
    | cont => exact hq
    | ret u =>
      obtain ⟨v, H2, q1, q2, q3, q4, q5, q6⟩ := hq
      obtain ⟨a, ns, h1, h2, h3, h4, h5⟩ := h
      have dead : ∀ b qs, H b = some (.tbl qs) → cutT TB H b = none → H2 b = none ∧ ∀ o, s.heap.get? b = some o → s'.heap.get? b = some o := fun b qs e z => by
        have nf : b ∉ frs outer := fun hb => by rw [e0.frf b hb] at e; cases e
        have hob : s.heap.get? b = some { cls := .none, data := .fields qs } := e0.hok b _ e
        exact ⟨q3.free b _ hob z (by simp), fun o ho => q3.keep b o ho z nf (by simp)⟩
      let H' : Hp := fun b => match H b with
        | some (.tbl qs) => if cutT TB H b = none then some (.tbl qs) else H2 b
        | _ => H2 b
      have same : ∀ b, (∀ qs, H b = some (.tbl qs) → cutT TB H b ≠ none) → H' b = H2 b := fun b hb => by
        show (match H b with
          | some (.tbl qs) => if cutT TB H b = none then some (.tbl qs) else H2 b
          | _ => H2 b) = H2 b
        split
        · rename_i qs e
          exact if_neg (hb qs e)
        · rfl
      have isd : ∀ b qs, H b = some (.tbl qs) → cutT TB H b = none → H' b = some (.tbl qs) := fun b qs e z => by
        show (match H b with
          | some (.tbl qs) => if cutT TB H b = none then some (.tbl qs) else H2 b
          | _ => H2 b) = some (.tbl qs)
        rw [e]
        exact if_pos z
      have ofN : ∀ b, H b = none → H' b = H2 b := fun b e => same b fun qs z => by rw [e] at z; cases z
      have lift : ∀ b o, H2 b = some o → H' b = some o := fun b o e => by
        rw [same b fun qs z y => by rw [(dead b qs z y).1] at e; cases e]
        exact e
      refine ⟨v, H', q1, q2, ⟨fun b o e n => q3.keep b o e (cutT_n n), fun b o e n => q3.slot b o e (cutT_n n), fun b o e n hx => by rw [ofN b n]; exact q3.free b o e (cutT_n n) hx, q3.there, fun b xs e => lift _ _ (q3.tups b xs (cutT_nt e fun _ z => by cases z)), fun b o u e => lift _ _ (q3.frzs b o u (cutT_nt e fun _ z => by cases z)), fun b qs e => ?_⟩, fun b o e => ?_, q5, by rw [q6]; exact h5 H'⟩
      · cases z : cutT TB H b with
        | none => exact ⟨#[], by rw [isd b qs e z]; simp⟩
        | some u =>
          have z2 := cutT_of z
          rw [e] at z2
          cases z2
          obtain ⟨more, z3⟩ := q3.tbls b qs z
          exact ⟨more, lift _ _ z3⟩
      · by_cases hd : ∃ qs, H b = some (.tbl qs) ∧ cutT TB H b = none
        · obtain ⟨qs, z1, z2⟩ := hd
          rw [isd b qs z1 z2] at e
          cases e
          exact (dead b qs z1 z2).2 _ (e0.hok b _ z1)
        · rw [same b fun qs z y => hd ⟨qs, z, y⟩] at e
          exact (q4 b o e).stay (fun _ _ _ q => q) (fun c q => lift _ _ q) fun c xs q => lift _ _ q
theorem cx_false {P : Program} {w : World} {H : Hp} {s : Shared} {e : Value} {s' : Shared} (h : L2N.CX P w [] H s (fun _ _ _ => False) e s') : False := by
  obtain ⟨_, _, _, _, _, _, _, _, _, _, _, _, z⟩ := h
  exact z
theorem _root_.L2.Fun.toD {K : PySem.W.Frag} {x qual : Str} {st : Stmt} {f : Addr} {fd : FuncData} (F : Fun K x qual st f fd) : FunD K x qual (defArgs st) (defBody st) (defScope st) [] [] f fd := by
  obtain ⟨⟨oc, od, kV, doc, pm, an, cdv, ct, osl, e, lk, hcd⟩, kp⟩ := F
  exact ⟨⟨oc, od, .none, kV, doc, pm, an, cdv, ct, osl, e, lk, hcd, .inl ⟨rfl, rfl⟩, .inl rfl⟩, kp⟩
theorem fn_den2D {P : Program} {w : World} {K : PySem.W.Frag} {mg : Str → Option Value} {base : Heap} {x qual : Str} {st : Stmt} {f : Addr} {fd : FuncData} {N ps : List Str} {k : Nat} {G : Gx} {tc pr : List Nat} {den : M Flw}
    {dvs : List V} {kws : List (Str × V)} (F : FunD K x qual (defArgs st) (defBody st) (defScope st) dvs kws f fd) (S : FnScope N ps (defScope st)) (hpr : ∀ i ∈ pr, i + 1000 ∉ tc)
    (hd : ∀ (cdv : Value) (A : Around) (outer : List Env) (s : Shared) (H : Hp) (E : XK), Room k (A.deeper (envOfC qual (defScope st) s.heap.objs.size f cdv)) →
      L2N.Takes (cxOf (L2N.CX P w) P w K mg base N qual (defScope st) f cdv A outer s H E) (fun cls d _ H => E cls d H) → PassesOwn (model P w) (cxOf (L2N.CX P w) P w K mg base N qual (defScope st) f cdv A outer s H E).A (cxOf (L2N.CX P w) P w K mg base N qual (defScope st) f cdv A outer s H E).env (cxOf (L2N.CX P w) P w K mg base N qual (defScope st) f cdv A outer s H E).xe →
      (cxOf (L2N.CX P w) P w K mg base N qual (defScope st) f cdv A outer s H E).A.units + 65 < cLine →
      GSs (cxOf (L2N.CX P w) P w K mg base N qual (defScope st) f cdv A outer s H E) G (fun cls d _ H => E cls d H) tc (defBody st) den) :
    FnOk P w K mg base (L2N.CX P w) (k + 1) f fd ps (spM ⟨K, G.C, G.P, G.X, G.tb⟩ (run den pr N.length ps.length)) :=
  fn_den F S hpr fun cdv A outer s H E hr => hd cdv A outer s H E hr (L2N.takes_of rfl rfl rfl rfl) (passes_of rfl) (by have := hr.un; show (A.deeper (envOfC qual (defScope st) s.heap.objs.size f cdv)).units + 65 < cLine; omega)
theorem fn_den2 {P : Program} {w : World} {K : PySem.W.Frag} {mg : Str → Option Value} {base : Heap} {x qual : Str} {st : Stmt} {f : Addr} {fd : FuncData} {N ps : List Str} {k : Nat} {G : Gx} {tc pr : List Nat} {den : M Flw}
    (F : Fun K x qual st f fd) (S : FnScope N ps (defScope st)) (hpr : ∀ i ∈ pr, i + 1000 ∉ tc)
    (hd : ∀ (cdv : Value) (A : Around) (outer : List Env) (s : Shared) (H : Hp) (E : XK), Room k (A.deeper (envOfC qual (defScope st) s.heap.objs.size f cdv)) →
      L2N.Takes (cxOf (L2N.CX P w) P w K mg base N qual (defScope st) f cdv A outer s H E) (fun cls d _ H => E cls d H) → PassesOwn (model P w) (cxOf (L2N.CX P w) P w K mg base N qual (defScope st) f cdv A outer s H E).A (cxOf (L2N.CX P w) P w K mg base N qual (defScope st) f cdv A outer s H E).env (cxOf (L2N.CX P w) P w K mg base N qual (defScope st) f cdv A outer s H E).xe →
      (cxOf (L2N.CX P w) P w K mg base N qual (defScope st) f cdv A outer s H E).A.units + 65 < cLine →
      GSs (cxOf (L2N.CX P w) P w K mg base N qual (defScope st) f cdv A outer s H E) G (fun cls d _ H => E cls d H) tc (defBody st) den) :
    FnOk P w K mg base (L2N.CX P w) (k + 1) f fd ps (spM ⟨K, G.C, G.P, G.X, G.tb⟩ (run den pr N.length ps.length)) :=
  fn_den2D F.toD S hpr hd
def cls (l : List (Str × Addr)) : Str → Option Addr := fun s => l.lookup s
end Cs
namespace Cs
open L2
section
variable {α β : Type} {Q : α → En → Prop} {X : PySem.Str → List PySem.Str → List D → En → Prop} {ρ : En}
def slW (o : Option D) (K : D → Prop) : Prop := match o with
  | some d => K d
  | none => False
def prW (p : PR) (K : D → Prop) : Prop := match p with
  | .sc d => K d
  | .nl ds => K (.lst .ow ds)
  | .nt ds => K (.tup ds)
  | .bad => False
def blW (d : D) (K : Bool → Prop) : Prop := match d with
  | .bl b => K b
  | _ => False
@[simp] theorem slW_some {d : D} {K : D → Prop} : slW (some d) K = K d := rfl
@[simp] theorem slW_none {K : D → Prop} : slW none K = False := rfl
@[simp] theorem prW_sc {d : D} {K : D → Prop} : prW (.sc d) K = K d := rfl
@[simp] theorem prW_nl {d : List D} {K : D → Prop} : prW (.nl d) K = K (.lst .ow d) := rfl
@[simp] theorem prW_nt {d : List D} {K : D → Prop} : prW (.nt d) K = K (.tup d) := rfl
@[simp] theorem prW_bad {K : D → Prop} : prW .bad K = False := rfl
@[simp] theorem prW_if {c : Prop} [Decidable c] {p : PR} {K : D → Prop} : prW (if c then p else .bad) K = (c ∧ prW p K) := by
  by_cases h : c <;> simp [h]
@[simp] theorem blW_bl {b : Bool} {K : Bool → Prop} : blW (.bl b) K = K b := rfl
@[simp] theorem slot_zero {d : D} {r : En} : slot 0 (.dt d :: r) = some d := rfl
@[simp] theorem slot_succ {i : Nat} {s : Sl} {r : En} : slot (i + 1) (s :: r) = slot i r := rfl
@[simp] theorem post_ok {a : α} : Post Q X (.ok a ρ) = Q a ρ := rfl
@[simp] theorem post_exc {c : PySem.Str} {ks : List PySem.Str} {xs : List D} : Post Q X (.exc c ks xs ρ : Out α) = X c ks xs ρ := rfl
@[simp] theorem post_badO : Post Q X (.bad : Out α) = False := rfl
@[simp] theorem post_ret {a : α} : Post Q X (ret a ρ) = Q a ρ := rfl
@[simp] theorem post_bad : Post Q X (bad ρ : Out α) = False := rfl
@[simp] theorem post_bnd {f : M β} {k : β → M α} : Post Q X (bnd f k ρ) = Post (fun a ρ1 => Post Q X (k a ρ1)) X (f ρ) := by
  unfold bnd
  cases f ρ <;> rfl
@[simp] theorem post_pk {i : Nat} {Q : D → En → Prop} : Post Q X (dPk i ρ) = slW (slot i ρ) fun d => Q d ρ := by
  unfold dPk
  cases slot i ρ <;> rfl
@[simp] theorem post_cp {i : Nat} {Q : D → En → Prop} : Post Q X (dCp i ρ) = slW (slot i ρ) fun d => allF noOw d = true ∧ Q d ρ := by
  unfold dCp
  cases slot i ρ with
  | none => rfl
  | some d =>
    by_cases h : allF noOw d = true <;> simp [h]
@[simp] theorem post_mv {i : Nat} {Q : D → En → Prop} : Post Q X (dMv i ρ) = slW (slot i ρ) fun d => Q d (ρ.set i .un) := by
  unfold dMv
  cases slot i ρ <;> rfl
@[simp] theorem post_fs {i : Nat} {Q : D → En → Prop} : Post Q X (dFs i ρ) = slW (slot i ρ) fun d => Q (mapF flFrz d) (ρ.set i (.dt (mapF flFrz d))) := by
  unfold dFs
  cases slot i ρ <;> rfl
@[simp] theorem post_fz {f : M D} {Q : D → En → Prop} : Post Q X (dFz f ρ) = Post (fun d ρ1 => Q (mapF flFrz d) ρ1) X (f ρ) := by
  unfold dFz
  rw [post_bnd]
  rfl
@[simp] theorem post_pr {p : PR} {Q : D → En → Prop} : Post Q X (pr p ρ) = prW p fun d => Q d ρ := by cases p <;> rfl
@[simp] theorem post_op1v {p : D → PR} {f : M D} {Q : D → En → Prop} : Post Q X (dOp1 p (.v f) ρ) = Post (fun x ρ1 => prW (p x) fun d => Q d ρ1) X (f ρ) := by
  unfold dOp1; simp
@[simp] theorem post_op1p {p : D → PR} {i : Nat} {Q : D → En → Prop} : Post Q X (dOp1 p (.p i) ρ) = slW (slot i ρ) fun x => prW (p x) fun d => Q d ρ := by
  unfold dOp1; simp
@[simp] theorem post_op2vv {p : D → D → PR} {f g : M D} {Q : D → En → Prop} : Post Q X (dOp2 p (.v f) (.v g) ρ) = Post (fun x ρ1 => Post (fun y ρ2 => prW (p x y) fun d => Q d ρ2) X (g ρ1)) X (f ρ) := by
  unfold dOp2; simp
@[simp] theorem post_op2pv {p : D → D → PR} {i : Nat} {g : M D} {Q : D → En → Prop} : Post Q X (dOp2 p (.p i) (.v g) ρ) = slW (slot i ρ) fun _ => Post (fun y ρ2 => slW (slot i ρ2) fun x => prW (p x y) fun d => Q d ρ2) X (g ρ) := by
  unfold dOp2; simp
@[simp] theorem post_op2vp {p : D → D → PR} {f : M D} {j : Nat} {Q : D → En → Prop} : Post Q X (dOp2 p (.v f) (.p j) ρ) = Post (fun x ρ1 => slW (slot j ρ1) fun y => prW (p x y) fun d => Q d ρ1) X (f ρ) := by
  unfold dOp2; simp
@[simp] theorem post_op2pp {p : D → D → PR} {i j : Nat} {Q : D → En → Prop} : Post Q X (dOp2 p (.p i) (.p j) ρ) = slW (slot i ρ) fun x => slW (slot j ρ) fun y => prW (p x y) fun d => Q d ρ := by
  unfold dOp2; simp
@[simp] theorem post_B {f : M D} {Q : Bool → En → Prop} : Post Q X (dB f ρ) = Post (fun d ρ1 => blW d fun b => Q b ρ1) X (f ρ) := by
  unfold dB
  rw [post_bnd]
  congr 1
  funext d ρ1
  cases d <;> rfl
@[simp] theorem post_not {f : M Bool} {Q : Bool → En → Prop} : Post Q X (dNot f ρ) = Post (fun b ρ1 => Q (!b) ρ1) X (f ρ) := by
  unfold dNot; simp
@[simp] theorem post_and {f g : M Bool} {Q : Bool → En → Prop} : Post Q X (dAnd f g ρ) = Post (fun b ρ1 => if b = true then Post Q X (g ρ1) else Q false ρ1) X (f ρ) := by
  unfold dAnd
  rw [post_bnd]
  congr 1
  funext b ρ1
  cases b <;> simp
@[simp] theorem post_or {f g : M Bool} {Q : Bool → En → Prop} : Post Q X (dOr f g ρ) = Post (fun b ρ1 => if b = true then Q true ρ1 else Post Q X (g ρ1)) X (f ρ) := by
  unfold dOr
  rw [post_bnd]
  congr 1
  funext b ρ1
  cases b <;> simp
@[simp] theorem post_notV {f : M D} {Q : D → En → Prop} : Post Q X (dNotV f ρ) = Post (fun d ρ1 => blW d fun b => Q (.bl (!b)) ρ1) X (f ρ) := by
  unfold dNotV; simp
@[simp] theorem post_andV {f g : M D} {Q : D → En → Prop} : Post Q X (dAndV f g ρ) = Post (fun d ρ1 => blW d fun b => if b = true then Post Q X (g ρ1) else Q (.bl false) ρ1) X (f ρ) := by
  unfold dAndV
  rw [post_bnd, post_B]
  congr 1
  funext d ρ1
  congr 1
  funext b
  cases b <;> simp
@[simp] theorem post_orV {f g : M D} {Q : D → En → Prop} : Post Q X (dOrV f g ρ) = Post (fun d ρ1 => blW d fun b => if b = true then Q (.bl true) ρ1 else Post Q X (g ρ1)) X (f ρ) := by
  unfold dOrV
  rw [post_bnd, post_B]
  congr 1
  funext d ρ1
  congr 1
  funext b
  cases b <;> simp
@[simp] theorem post_ifE {c : M Bool} {f g : M D} {Q : D → En → Prop} : Post Q X (dIfE c f g ρ) = Post (fun b ρ1 => if b = true then Post Q X (f ρ1) else Post Q X (g ρ1)) X (c ρ) := by
  unfold dIfE
  rw [post_bnd]
  congr 1
  funext b ρ1
  cases b <;> simp
@[simp] theorem post_nil {Q : List D → En → Prop} : Post Q X (dNil ρ) = Q [] ρ := rfl
@[simp] theorem post_cons {f : M D} {g : M (List D)} {Q : List D → En → Prop} : Post Q X (dCons f g ρ) = Post (fun d ρ1 => Post (fun ds ρ2 => Q (d :: ds) ρ2) X (g ρ1)) X (f ρ) := by
  unfold dCons; simp
variable {Q : Flw → En → Prop}
def seqK (Q : Flw → En → Prop) (X : PySem.Str → List PySem.Str → List D → En → Prop) (g : M Flw) : Flw → En → Prop
  | .nx, ρ => Post Q X (g ρ)
  | fl, ρ => Q fl ρ
@[simp] theorem seqK_nx {g : M Flw} : seqK Q X g .nx ρ = Post Q X (g ρ) := rfl
@[simp] theorem seqK_bk {g : M Flw} : seqK Q X g .bk ρ = Q .bk ρ := rfl
@[simp] theorem seqK_ct {g : M Flw} : seqK Q X g .ct ρ = Q .ct ρ := rfl
@[simp] theorem seqK_rt {g : M Flw} {d : D} : seqK Q X g (.rt d) ρ = Q (.rt d) ρ := rfl
theorem post_seq {f g : M Flw} : Post Q X (dSeq f g ρ) = Post (seqK Q X g) X (f ρ) := by
  unfold dSeq
  rw [post_bnd]
  congr 1
  funext fl ρ1
  cases fl <;> rfl
@[simp] theorem post_asg {i : Nat} {f : M D} : Post Q X (dAsg i f ρ) = Post (fun d ρ1 => i < ρ1.length ∧ Q .nx (ρ1.set i (.dt d))) X (f ρ) := by
  unfold dAsg
  rw [post_bnd]
  congr 1
  funext d ρ1
  unfold dPut
  by_cases h : i < ρ1.length <;> simp [h]
@[simp] theorem post_expr {f : M D} : Post Q X (dExpr f ρ) = Post (fun _ ρ1 => Q .nx ρ1) X (f ρ) := by
  unfold dExpr; simp
@[simp] theorem post_dret {f : M D} : Post Q X (dRet f ρ) = Post (fun d ρ1 => Q (.rt d) ρ1) X (f ρ) := by
  unfold dRet; simp
@[simp] theorem post_nx : Post Q X (dNx ρ) = Q .nx ρ := rfl
@[simp] theorem post_if {c : M Bool} {f g : M Flw} : Post Q X (dIf c f g ρ) = Post (fun b ρ1 => if b = true then Post Q X (f ρ1) else Post Q X (g ρ1)) X (c ρ) := by
  unfold dIf
  rw [post_bnd]
  congr 1
  funext b ρ1
  cases b <;> simp
def mlW (o : Option (List D)) (K : List D → Prop) : Prop := match o with
  | some d => K d
  | none => False
@[simp] theorem mlW_some {d : List D} {K : List D → Prop} : mlW (some d) K = K d := rfl
@[simp] theorem mlW_none {K : List D → Prop} : mlW none K = False := rfl
@[simp] theorem slotL_zero {d : List D} {r : En} : slotL 0 (.dt (.lst .ow d) :: r) = some d := rfl
@[simp] theorem slotL_succ {i : Nat} {s : Sl} {r : En} : slotL (i + 1) (s :: r) = slotL i r := rfl
@[simp] theorem post_mutL {i : Nat} {op : List D → Option (List D)} : Post Q X (dMutL i op ρ) = mlW (slotL i ρ) fun xs => mlW (op xs) fun ys => Q .nx (ρ.set i (.dt (.lst .ow ys))) := by
  unfold dMutL
  cases slotL i ρ with
  | none => rfl
  | some xs => dsimp only [mlW_some]; cases op xs <;> rfl
@[simp] theorem post_isL {i : Nat} {k : M Flw} : Post Q X (dIsL i k ρ) = mlW (slotL i ρ) fun _ => Post Q X (k ρ) := by
  unfold dIsL
  cases slotL i ρ <;> rfl
@[simp] theorem post_app {i : Nat} {f : M D} : Post Q X (dApp i f ρ) = mlW (slotL i ρ) fun _ => Post (fun d ρ1 => mlW (slotL i ρ1) fun xs => xs.length < lim ∧ Q .nx (ρ1.set i (.dt (.lst .ow (xs ++ [d]))))) X (f ρ) := by
  unfold dApp
  simp only [post_isL, post_bnd, post_mutL]
  congr 1
  funext _
  congr 1
  funext d ρ1
  congr 1
  funext xs
  by_cases h : xs.length < lim <;> simp [h]
@[simp] theorem post_set {i : Nat} {fk fe : M D} : Post Q X (dSet i fk fe ρ) = Post (fun d ρ1 => slW (slot i ρ1) fun _ => Post (fun k ρ2 => mlW (slotL i ρ2) fun xs => mlW (setAt k (mapF flFrz d) xs) fun ys => Q .nx (ρ2.set i (.dt (.lst .ow ys)))) X (fk ρ1)) X (fe ρ) := by
  unfold dSet; simp
@[simp] theorem post_for {src : M (List D)} {tg : Tg} {fg : List Nat} {body : M Flw} : Post Q X (dFor src tg fg body ρ) = Post (fun ds ρ1 => Post Q X (forL tg fg body ds ρ1)) X (src ρ) := by
  unfold dFor; simp
@[simp] theorem post_lendS {i : Nat} {tc : List Nat} {f : M Flw} : Post Q X (dLendS i tc f ρ) = slW (slot i ρ) fun d => Post (fun r ρ' => (flwOk r = true ∧ noBoAt tc ρ' = true) ∧ Q r (ρ'.set i (.dt d))) (fun c ks xs ρ' => noBoAt tc ρ' = true ∧ X c ks xs (ρ'.set i (.dt d))) (f (ρ.set i (.dt (mapF flLend d)))) := by
  unfold dLendS
  cases slot i ρ with
  | none => rfl
  | some d =>
    dsimp only [slW_some]
    cases f (ρ.set i (.dt (mapF flLend d))) with
    | bad => rfl
    | ok r ρ' => dsimp only; by_cases h : flwOk r = true ∧ noBoAt tc ρ' = true <;> simp [h]
    | exc c ks xs ρ' => dsimp only; by_cases h : noBoAt tc ρ' = true <;> simp [h]
@[simp] theorem post_lendT {i : Nat} {tc : List Nat} {f : M Bool} {Q : Bool → En → Prop} : Post Q X (dLendT i tc f ρ) = slW (slot i ρ) fun d => Post (fun r ρ' => noBoAt tc ρ' = true ∧ Q r (ρ'.set i (.dt d))) (fun c ks xs ρ' => noBoAt tc ρ' = true ∧ X c ks xs (ρ'.set i (.dt d))) (f (ρ.set i (.dt (mapF flLend d)))) := by
  unfold dLendT
  cases slot i ρ with
  | none => rfl
  | some d =>
    dsimp only [slW_some]
    cases f (ρ.set i (.dt (mapF flLend d))) with
    | bad => rfl
    | ok r ρ' => dsimp only; by_cases h : noBoAt tc ρ' = true <;> simp [h]
    | exc c ks xs ρ' => dsimp only; by_cases h : noBoAt tc ρ' = true <;> simp [h]
@[simp] theorem post_lendE {i : Nat} {tc : List Nat} {f : M D} {Q : D → En → Prop} : Post Q X (dLend i tc f ρ) = slW (slot i ρ) fun d => Post (fun r ρ' => (allF noBo r = true ∧ noBoAt tc ρ' = true) ∧ Q r (ρ'.set i (.dt d))) (fun c ks xs ρ' => noBoAt tc ρ' = true ∧ X c ks xs (ρ'.set i (.dt d))) (f (ρ.set i (.dt (mapF flLend d)))) := by
  unfold dLend
  cases slot i ρ with
  | none => rfl
  | some d =>
    dsimp only [slW_some]
    cases f (ρ.set i (.dt (mapF flLend d))) with
    | bad => rfl
    | ok r ρ' => dsimp only; by_cases h : allF noBo r = true ∧ noBoAt tc ρ' = true <;> simp [h]
    | exc c ks xs ρ' => dsimp only; by_cases h : noBoAt tc ρ' = true <;> simp [h]
@[simp] theorem post_raise {c : PySem.Str} {ks : List PySem.Str} {f : M (List D)} : Post Q X (dRaise c ks f ρ) = Post (fun ds ρ1 => (ds.length = ks.length ∧ allFs noBo ds = true) ∧ X c ks (mapFs flFrz ds) ρ1) X (f ρ) := by
  unfold dRaise
  rw [post_bnd]
  congr 1
  funext ds ρ1
  by_cases h : ds.length = ks.length ∧ allFs noBo ds = true <;> simp [h]
end
end Cs
namespace Cs
open L2
abbrev N0 : PySem.Str → List PySem.Str → List D → En → Prop := fun _ _ _ _ => False
@[simp] theorem outs_nil {n : Nat} {ρ : En} : outs [] n ρ = List.replicate n .un := by
  unfold outs
  simp [List.map_const']
section
variable {i j : Int} {K : D → Prop}
@[simp] theorem pAdd_i : pAdd (.int i) (.int j) = .sc (.int (i + j)) := rfl
@[simp] theorem pSub_i : pSub (.int i) (.int j) = .sc (.int (i - j)) := rfl
@[simp] theorem pMul_i : pMul (.int i) (.int j) = if (-(2 ^ 64) < i ∧ i < 2 ^ 64) ∨ (-(2 ^ 64) < j ∧ j < 2 ^ 64) then .sc (.int (i * j)) else .bad := rfl
@[simp] theorem pFdiv_i : pFdiv (.int i) (.int j) = if 0 < j ∧ j < 1073741824 then .sc (.int (i / j)) else .bad := rfl
@[simp] theorem pMod_i : pMod (.int i) (.int j) = if 0 < j then .sc (.int (i % j)) else .bad := rfl
@[simp] theorem pPow_i : pPow (.int i) (.int j) = if 0 ≤ j ∧ j ≤ 1000000 ∧ i.natAbs < 2 ^ 64 then .sc (.int (i ^ j.toNat)) else .bad := rfl
@[simp] theorem pLt_i : pLt (.int i) (.int j) = .sc (.bl (decide (i < j))) := rfl
@[simp] theorem pLe_i : pLe (.int i) (.int j) = .sc (.bl (decide (i ≤ j))) := rfl
@[simp] theorem pGt_i : pGt (.int i) (.int j) = .sc (.bl (decide (j < i))) := rfl
@[simp] theorem pGe_i : pGe (.int i) (.int j) = .sc (.bl (decide (j ≤ i))) := rfl
end
def eqDs : List D → List D → Bool
  | [], [] => true
  | x :: xs, y :: ys => eqD x y && eqDs xs ys
  | _, _ => false
@[simp] theorem eqD_ii {i j : Int} : eqD (.int i) (.int j) = (i == j) := by unfold eqD toPy; rw [PySem.PyData.eqv]
@[simp] theorem eqD_bb {i j : Bool} : eqD (.bl i) (.bl j) = (i == j) := by unfold eqD toPy; rw [PySem.PyData.eqv]
@[simp] theorem eqD_ss {i j : PySem.Str} : eqD (.str i) (.str j) = (i == j) := by unfold eqD toPy; rw [PySem.PyData.eqv]
theorem eqvAll_is : ∀ {xs ys : List D}, PySem.PyData.eqvAll (toPys xs) (toPys ys) = eqDs xs ys
  | [], [] => by rw [toPys, PySem.PyData.eqvAll, eqDs]
  | x :: xs, y :: ys => by rw [toPys, toPys, PySem.PyData.eqvAll, eqDs, eqvAll_is]; rfl
  | [], y :: ys => by rw [toPys, toPys, PySem.PyData.eqvAll, eqDs] <;> simp
  | x :: xs, [] => by rw [toPys, toPys, PySem.PyData.eqvAll, eqDs] <;> simp
@[simp] theorem eqD_ll {o o' : Fl} {xs ys : List D} : eqD (.lst o xs) (.lst o' ys) = eqDs xs ys := by
  unfold eqD toPy
  rw [PySem.PyData.eqv, eqvAll_is]
@[simp] theorem eqD_tt {xs ys : List D} : eqD (.tup xs) (.tup ys) = eqDs xs ys := by
  unfold eqD toPy
  rw [PySem.PyData.eqv, eqvAll_is]
@[simp] theorem pEq_ii {i j : Int} : pEq (.int i) (.int j) = .sc (.bl (i == j)) := by
  unfold pEq
  rw [if_pos ⟨Nat.zero_le _, Nat.zero_le _⟩, eqD_ii]
@[simp] theorem pNe_ii {i j : Int} : pNe (.int i) (.int j) = .sc (.bl (!(i == j))) := by
  unfold pNe
  rw [if_pos ⟨Nat.zero_le _, Nat.zero_le _⟩, eqD_ii]
@[simp] theorem dep_int {i : Int} : dep (.int i) = 0 := rfl
@[simp] theorem dep_lst {o : Fl} {xs : List D} : dep (.lst o xs) = deps xs + 1 := by rw [dep]
@[simp] theorem atI_0 {α : Type} {xs : List α} : L2.atI xs 0 = xs[0]? := by
  unfold L2.atI L2.ixN
  cases xs with
  | nil => rfl
  | cons x xs => simp
theorem atI_n {α : Type} {xs : List α} {n : Nat} : L2.atI xs (n : Int) = xs[n]? := by
  unfold L2.atI L2.ixN
  by_cases h : n < xs.length
  · simp [h]
  · simp [h]
@[simp] theorem atI_1 {α : Type} {xs : List α} : L2.atI xs 1 = xs[1]? := atI_n (n := 1)
@[simp] theorem atI_2 {α : Type} {xs : List α} : L2.atI xs 2 = xs[2]? := atI_n (n := 2)
@[simp] theorem atI_3 {α : Type} {xs : List α} : L2.atI xs 3 = xs[3]? := atI_n (n := 3)
def ixW (o : Option D) : PR := match o with
  | some d => if allF noOw d = true then .sc d else .bad
  | none => .bad
@[simp] theorem ixW_some {d : D} : ixW (some d) = if allF noOw d = true then .sc d else .bad := rfl
@[simp] theorem pIx_l {o : Fl} {xs : List D} {i : Int} : pIx (.lst o xs) (.int i) = ixW (L2.atI xs i) := rfl
@[simp] theorem pIx_t {xs : List D} {i : Int} : pIx (.tup xs) (.int i) = ixW (L2.atI xs i) := rfl
@[simp] theorem allF_int {p : Fl → Bool} {i : Int} : allF p (.int i) = true := rfl
@[simp] theorem allF_bl {p : Fl → Bool} {i : Bool} : allF p (.bl i) = true := rfl
@[simp] theorem allF_str {p : Fl → Bool} {i : PySem.Str} : allF p (.str i) = true := rfl
@[simp] theorem allF_non {p : Fl → Bool} : allF p .non = true := rfl
@[simp] theorem allF_l {p : Fl → Bool} {o : Fl} {xs : List D} : allF p (.lst o xs) = (p o && allFs p xs) := by rw [allF]
@[simp] theorem allF_t {p : Fl → Bool} {xs : List D} : allF p (.tup xs) = allFs p xs := by rw [allF]
@[simp] theorem allFs_nil {p : Fl → Bool} : allFs p [] = true := rfl
@[simp] theorem allFs_cns {p : Fl → Bool} {x : D} {xs : List D} : allFs p (x :: xs) = (allF p x && allFs p xs) := by rw [allFs]
@[simp] theorem allFs_ints {p : Fl → Bool} : ∀ {cs : List Int}, allFs p (cs.map D.int) = true
  | [] => rfl
  | c :: cs => by rw [List.map_cons, allFs, allFs_ints]; rfl
@[simp] theorem mapF_int {g : Fl → Fl} {i : Int} : mapF g (.int i) = .int i := by rw [mapF]
@[simp] theorem mapF_l {g : Fl → Fl} {o : Fl} {xs : List D} : mapF g (.lst o xs) = .lst (g o) (mapFs g xs) := by rw [mapF]
@[simp] theorem mapFs_nil {g : Fl → Fl} : mapFs g [] = [] := by rw [mapFs]
@[simp] theorem mapFs_cns {g : Fl → Fl} {x : D} {xs : List D} : mapFs g (x :: xs) = mapF g x :: mapFs g xs := by rw [mapFs]
@[simp] theorem mapFs_ints {g : Fl → Fl} : ∀ {cs : List Int}, mapFs g (cs.map D.int) = cs.map D.int
  | [] => by rw [List.map_nil, mapFs]
  | c :: cs => by rw [List.map_cons, mapFs, mapFs_ints, mapF_int]
@[simp] theorem pLen_l {o : Fl} {xs : List D} : pLen (.lst o xs) = .sc (.int xs.length) := rfl
@[simp] theorem pInt_i {i : Int} : pInt (.int i) = .sc (.int i) := rfl
@[simp] theorem pInt_b {i : Bool} : pInt (.bl i) = .sc (.int (if i then 1 else 0)) := rfl
@[simp] theorem pNeg_i {i : Int} : pNeg (.int i) = .sc (.int (-i)) := rfl
@[simp] theorem pList_l {o : Fl} {xs : List D} : pList (.lst o xs) = if allFs noOw xs = true then .nl xs else .bad := rfl
@[simp] theorem noOw_fr : noOw .fr = true := rfl
@[simp] theorem noOw_bo : noOw .bo = true := rfl
@[simp] theorem noOw_ro : noOw .ro = true := rfl
@[simp] theorem noOw_ow : noOw .ow = false := rfl
@[simp] theorem noBo_fr : noBo .fr = true := rfl
@[simp] theorem noBo_bo : noBo .bo = false := rfl
@[simp] theorem noBo_ro : noBo .ro = true := rfl
@[simp] theorem noBo_ow : noBo .ow = true := rfl
@[simp] theorem flFrz_fr : flFrz .fr = .fr := rfl
@[simp] theorem flFrz_ow : flFrz .ow = .fr := rfl
@[simp] theorem flFrz_bo : flFrz .bo = .bo := rfl
@[simp] theorem flFrz_ro : flFrz .ro = .ro := rfl
@[simp] theorem flLend_fr : flLend .fr = .fr := rfl
@[simp] theorem flLend_ow : flLend .ow = .bo := rfl
@[simp] theorem flLend_bo : flLend .bo = .bo := rfl
@[simp] theorem flLend_ro : flLend .ro = .ro := rfl
theorem setAt_n {n : Nat} {d : D} {xs : List D} : setAt (.int (n : Int)) d xs = if n < xs.length ∧ allFs noOw xs = true ∧ allF noOw d = true then some (xs.set n d) else none := by
  unfold setAt
  dsimp only
  unfold L2.ixN
  by_cases h : n < xs.length
  · have h1 : (0 : Int) ≤ n := by omega
    have h2 : (n : Int) < xs.length := by omega
    rw [if_pos h1, if_pos h2]
    dsimp only [Int.toNat_natCast]
    simp only [h, true_and, Int.toNat_natCast]
  · have h1 : (0 : Int) ≤ n := by omega
    have h2 : ¬ (n : Int) < xs.length := by omega
    rw [if_pos h1, if_neg h2, if_neg fun z => h z.1]
@[simp] theorem setAt_0 {d : D} {xs : List D} : setAt (.int 0) d xs = if 0 < xs.length ∧ allFs noOw xs = true ∧ allF noOw d = true then some (xs.set 0 d) else none := setAt_n (n := 0)
@[simp] theorem setAt_1 {d : D} {xs : List D} : setAt (.int 1) d xs = if 1 < xs.length ∧ allFs noOw xs = true ∧ allF noOw d = true then some (xs.set 1 d) else none := setAt_n (n := 1)
@[simp] theorem setAt_2 {d : D} {xs : List D} : setAt (.int 2) d xs = if 2 < xs.length ∧ allFs noOw xs = true ∧ allF noOw d = true then some (xs.set 2 d) else none := setAt_n (n := 2)
@[simp] theorem setAt_3 {d : D} {xs : List D} : setAt (.int 3) d xs = if 3 < xs.length ∧ allFs noOw xs = true ∧ allF noOw d = true then some (xs.set 3 d) else none := setAt_n (n := 3)
@[simp] theorem mlW_if {c : Prop} [Decidable c] {p : List D} {K : List D → Prop} : mlW (if c then some p else none) K = (c ∧ K p) := by
  by_cases h : c <;> simp [h]
end Cs
namespace Cs
open L2
section
variable {α : Type} {X : PySem.Str → List PySem.Str → List D → En → Prop} {ρ : En}
theorem Post.mp {Q Q' : α → En → Prop} {X X' : PySem.Str → List PySem.Str → List D → En → Prop} {o : Out α} (h : Post Q X o) (h1 : ∀ a ρ, Q a ρ → Q' a ρ) (h2 : ∀ c ks xs ρ, X c ks xs ρ → X' c ks xs ρ) : Post Q' X' o := h.imp h1 h2
def argW (o : Option (List D)) (K : List D → Prop) : Prop := match o with
  | some ds => K ds
  | none => False
def resW (r : Res) (K : D → En → Prop) (E : PySem.Str → List PySem.Str → List D → En → Prop) : Prop := match r with
  | .ok d os => K d os
  | .exc c ks xs os => E c ks xs os
  | .bad => False
@[simp] theorem argW_some {d : List D} {K : List D → Prop} : argW (some d) K = K d := rfl
@[simp] theorem resW_ok {d : D} {os : En} {K : D → En → Prop} {E : PySem.Str → List PySem.Str → List D → En → Prop} : resW (.ok d os) K E = K d os := rfl
@[simp] theorem resW_exc {c : PySem.Str} {ks : List PySem.Str} {xs : List D} {os : En} {K : D → En → Prop} {E : PySem.Str → List PySem.Str → List D → En → Prop} : resW (.exc c ks xs os) K E = E c ks xs os := rfl
@[simp] theorem post_call {m : List D → Res} {ars : List Arg} {Q : D → En → Prop} : Post Q X (dCall m ars ρ) = Post (fun ods ρ1 => argW (argD ρ1 ars ods) fun ds => resW (m ds) (fun d os => Q d (wb ars os ρ1)) (fun c ks xs os => X c ks xs (wb ars os ρ1))) X (dArs ars ρ) := by
  unfold dCall
  rw [post_bnd]
  congr 1
  funext ods ρ1
  unfold callD
  cases argD ρ1 ars ods with
  | none => rfl
  | some ds =>
    dsimp only [argW_some]
    cases m ds <;> rfl
section
variable {Q : List (Option D) → En → Prop} {r : List Arg} {tc : List Nat}
@[simp] theorem post_ars0 : Post Q X (dArs [] ρ) = Q [] ρ := rfl
@[simp] theorem post_arsv {f : M D} : Post Q X (dArs ((.v f, tc) :: r) ρ) = Post (fun d ρ1 => Post (fun ds ρ2 => Q (some d :: ds) ρ2) X (dArs r ρ1)) X (f ρ) := by
  rw [dArs]; simp
@[simp] theorem post_arsl {i : Nat} : Post Q X (dArs ((.l i, tc) :: r) ρ) = slW (slot i ρ) fun _ => Post (fun ds ρ2 => Q (none :: ds) ρ2) X (dArs r ρ) := by
  rw [dArs]; simp
@[simp] theorem post_arsio {i : Nat} : Post Q X (dArs ((.io i, tc) :: r) ρ) = slW (slot i ρ) fun _ => Post (fun ds ρ2 => Q (none :: ds) ρ2) X (dArs r ρ) := by
  rw [dArs]; simp
@[simp] theorem argD_0 : argD ρ [] [] = some [] := by rw [argD]
@[simp] theorem argD_v {f : M D} {d : D} {ds : List (Option D)} : argD ρ ((.v f, tc) :: r) (some d :: ds) = (argD ρ r ds).map (d :: ·) := by rw [argD]
@[simp] theorem argD_l {i : Nat} {ds : List (Option D)} : argD ρ ((.l i, tc) :: r) (none :: ds) = (slot i ρ).bind fun d => (argD ρ r ds).map (mapF flLend d :: ·) := by rw [argD]
@[simp] theorem argD_io {i : Nat} {ds : List (Option D)} : argD ρ ((.io i, tc) :: r) (none :: ds) = (slot i ρ).bind fun d => (argD ρ r ds).map (d :: ·) := by rw [argD]
@[simp] theorem wb_0 {os : En} : wb [] os ρ = ρ := by rw [wb]
@[simp] theorem wb_v {f : M D} {os : En} : wb ((.v f, tc) :: r) os ρ = wb r os.tail ρ := by rw [wb]
@[simp] theorem wb_l {i : Nat} {os : En} : wb ((.l i, tc) :: r) os ρ = wb r os.tail ρ := by rw [wb]
@[simp] theorem wb_io {i : Nat} {os : En} : wb ((.io i, tc) :: r) os ρ = (wb r os.tail ρ).set i (hd1 os) := by rw [wb]
@[simp] theorem hd1_c {s : Sl} {os : En} : hd1 (s :: os) = s := rfl
end
def forK (I : En → Prop) (Q : Flw → En → Prop) (fg : List Nat) : Flw → En → Prop
  | .nx, ρ => I (fgt fg ρ)
  | .ct, ρ => I (fgt fg ρ)
  | .bk, ρ => Q .nx (fgt fg ρ)
  | .rt r, ρ => Q (.rt r) ρ
@[simp] theorem forK_nx {I : En → Prop} {Q : Flw → En → Prop} {fg : List Nat} : forK I Q fg .nx ρ = I (fgt fg ρ) := rfl
@[simp] theorem forK_ct {I : En → Prop} {Q : Flw → En → Prop} {fg : List Nat} : forK I Q fg .ct ρ = I (fgt fg ρ) := rfl
@[simp] theorem forK_bk {I : En → Prop} {Q : Flw → En → Prop} {fg : List Nat} : forK I Q fg .bk ρ = Q .nx (fgt fg ρ) := rfl
@[simp] theorem forK_rt {I : En → Prop} {Q : Flw → En → Prop} {fg : List Nat} {d : D} : forK I Q fg (.rt d) ρ = Q (.rt d) ρ := rfl
@[simp] theorem fgt_nil : fgt [] ρ = ρ := rfl
@[simp] theorem fgt_cns {i : Nat} {is : List Nat} : fgt (i :: is) ρ = fgt is (ρ.set i .un) := rfl
def tgW (o : Out Flw) (K : En → Prop) : Prop := match o with
  | .ok .nx ρ => K ρ
  | _ => False
@[simp] theorem tgW_one {j : Nat} {d : D} {K : En → Prop} : tgW (dTg (.one j) d ρ) K = (j < ρ.length ∧ K (ρ.set j (.dt d))) := by
  show tgW (dPuts [j] [d] ρ) K = _
  unfold dPuts
  by_cases h : j < ρ.length
  · rw [if_pos h]
    simp only [h, true_and]
    rfl
  · rw [if_neg h]
    simp only [h, false_and]
    rfl
@[simp] theorem tgW_puts0 {K : En → Prop} : tgW (dPuts [] [] ρ) K = K ρ := rfl
@[simp] theorem tgW_puts {j : Nat} {js : List Nat} {d : D} {ds : List D} {K : En → Prop} : tgW (dPuts (j :: js) (d :: ds) ρ) K = (j < ρ.length ∧ tgW (dPuts js ds (ρ.set j (.dt d))) K) := by
  rw [dPuts]
  dsimp only
  by_cases h : j < ρ.length
  · rw [if_pos h]
    simp only [h, true_and]
  · rw [if_neg h]
    simp only [h, false_and]
    rfl
@[simp] theorem tgW_tup {js : List Nat} {ds : List D} {K : En → Prop} : tgW (dTg (.tup js) (.tup ds) ρ) K = tgW (dPuts js ds ρ) K := rfl
theorem for_inv {Q : Flw → En → Prop} {tg : Tg} {fg : List Nat} {body : M Flw} : ∀ {ds : List D} {ρ : En} (I : Nat → En → Prop), I 0 ρ → (∀ k d ρ, ds[k]? = some d → I k ρ → tgW (dTg tg d ρ) fun ρ1 => Post (forK (I (k + 1)) Q fg) X (body ρ1)) → (∀ ρ, I ds.length ρ → Q .nx ρ) → Post Q X (forL tg fg body ds ρ)
  | [], ρ, I, h0, _, hd => by
    unfold forL
    exact hd ρ h0
  | d :: ds, ρ, I, h0, hs, hd => by
    have z := hs 0 d ρ rfl h0
    unfold forL
    cases et : dTg tg d ρ with
    | bad => rw [et] at z; exact z.elim
    | exc c ks xs ρ1 => rw [et] at z; exact z.elim
    | ok fl ρ1 =>
      rw [et] at z
      cases fl with
      | bk => exact z.elim
      | ct => exact z.elim
      | rt r => exact z.elim
      | nx =>
        have z : Post (forK (I 1) Q fg) X (body ρ1) := z
        dsimp only
        cases eb : body ρ1 with
        | bad => rw [eb] at z; exact z.elim
        | exc c ks xs ρ2 => rw [eb] at z; exact z
        | ok fl ρ2 =>
          rw [eb] at z
          have next : I 1 (fgt fg ρ2) → Post Q X (forL tg fg body ds (fgt fg ρ2)) := fun z => for_inv (fun k => I (k + 1)) z (fun k d ρ e h => hs (k + 1) d ρ e h) fun ρ h => hd ρ h
          cases fl with
          | nx => exact next z
          | ct => exact next z
          | bk => exact z
          | rt r => exact z
theorem post_lc {src : M (List D)} {tg : Tg} {own : List Nat} {cond : M Bool} {elt : M D} {Q : D → En → Prop} : Post Q X (dLc src tg own cond elt ρ) = Post (fun ds ρ1 => noOwAt own ρ1 = true ∧ Post (fun xs ρ2 => Q (.lst .ow xs) (rst own ρ1 ρ2)) N0 (lcL tg own cond elt [] ds (fgt own ρ1))) X (src ρ) := by
  unfold dLc
  rw [post_bnd]
  congr 1
  funext ds ρ1
  by_cases h : noOwAt own ρ1 = true
  · simp only [h, if_true, true_and]
    cases lcL tg own cond elt [] ds (fgt own ρ1) <;> rfl
  · rw [if_neg h]
    simp only [h]
    simp
theorem lc_inv {tg : Tg} {own : List Nat} {cond : M Bool} {elt : M D} : ∀ {ds acc : List D} {ρ : En} (I : Nat → List D → En → Prop), I 0 acc ρ → (∀ k acc d ρ, ds[k]? = some d → I k acc ρ → tgW (dTg tg d ρ) fun ρ1 => Post (fun b ρ2 => if b = true then Post (fun x ρ3 => acc.length < lim ∧ I (k + 1) (acc ++ [x]) (fgt own ρ3)) N0 (elt ρ2) else I (k + 1) acc (fgt own ρ2)) N0 (cond ρ1)) → Post (fun acc ρ => I ds.length acc ρ) N0 (lcL tg own cond elt acc ds ρ)
  | [], acc, ρ, I, h0, _ => by
    unfold lcL
    exact h0
  | d :: ds, acc, ρ, I, h0, hs => by
    have z := hs 0 acc d ρ rfl h0
    unfold lcL
    cases et : dTg tg d ρ with
    | bad => rw [et] at z; exact z.elim
    | exc c ks xs ρ1 => rw [et] at z; exact z.elim
    | ok fl ρ1 =>
      rw [et] at z
      cases fl with
      | bk => exact z.elim
      | ct => exact z.elim
      | rt r => exact z.elim
      | nx =>
        have z : Post (fun b ρ2 => if b = true then Post (fun x ρ3 => acc.length < lim ∧ I 1 (acc ++ [x]) (fgt own ρ3)) N0 (elt ρ2) else I 1 acc (fgt own ρ2)) N0 (cond ρ1) := z
        dsimp only
        cases eb : cond ρ1 with
        | bad => rw [eb] at z; exact z.elim
        | exc c ks xs ρ2 => rw [eb] at z; exact z.elim
        | ok b ρ2 =>
          rw [eb] at z
          cases b with
          | false => exact lc_inv (fun k => I (k + 1)) z fun k acc d ρ e h => hs (k + 1) acc d ρ e h
          | true =>
            have z : Post (fun x ρ3 => acc.length < lim ∧ I 1 (acc ++ [x]) (fgt own ρ3)) N0 (elt ρ2) := z
            dsimp only
            cases ee : elt ρ2 with
            | bad => rw [ee] at z; exact z.elim
            | exc c ks xs ρ3 => rw [ee] at z; exact z.elim
            | ok x ρ3 =>
              rw [ee] at z
              dsimp only
              rw [if_pos z.1]
              exact lc_inv (fun k => I (k + 1)) z.2 fun k acc d ρ e h => hs (k + 1) acc d ρ e h
@[simp] theorem post_rg1 {f : M D} {Q : List D → En → Prop} : Post Q X (dRg1 f ρ) = Post (fun d ρ1 => ∃ j, d = .int j ∧ (-1000000 ≤ j ∧ j ≤ 1000000) ∧ Q (rng 0 j.toNat) ρ1) X (f ρ) := by
  unfold dRg1
  rw [post_bnd]
  congr 1
  funext d ρ1
  cases d with
  | int j =>
    dsimp only
    apply propext
    constructor
    · intro h
      split at h
      · rename_i hh; exact ⟨j, rfl, hh, h⟩
      · exact h.elim
    · rintro ⟨j', e, hh, h⟩
      cases e
      rw [if_pos hh]
      exact h
  | _ =>
    apply propext
    constructor
    · intro h; exact h.elim
    · rintro ⟨_, e, _⟩; cases e
@[simp] theorem post_it {f : M D} {Q : List D → En → Prop} : Post Q X (dIt f ρ) = Post (fun d ρ1 => mlW (itemsOf (mapF flFrz d)) fun ds => Q ds ρ1) X (f ρ) := by
  unfold dIt
  rw [post_bnd, post_fz]
  congr 1
  funext d ρ1
  cases itemsOf (mapF flFrz d) <;> rfl
@[simp] theorem itemsOf_l {o : Fl} {xs : List D} : itemsOf (.lst o xs) = some xs := rfl
@[simp] theorem itemsOf_t {xs : List D} : itemsOf (.tup xs) = some xs := rfl
theorem rng_get {lo : Int} {n k : Nat} {d : D} (h : (rng lo n)[k]? = some d) : k < n ∧ d = .int (lo + (k : Int)) := by
  unfold rng at h
  rw [List.getElem?_map] at h
  by_cases hk : k < n
  · rw [List.getElem?_range hk] at h
    exact ⟨hk, (Option.some.inj h).symm⟩
  · rw [List.getElem?_eq_none (by rw [List.length_range]; omega)] at h
    cases h
@[simp] theorem rng_len {lo : Int} {n : Nat} : (rng lo n).length = n := by simp [rng]
@[simp] theorem post_yes {Q : Bool → En → Prop} : Post Q X (dYes ρ) = Q true ρ := rfl
@[simp] theorem post_lst {f : M (List D)} {Q : D → En → Prop} : Post Q X (dLst f ρ) = Post (fun ds ρ1 => ds.length ≤ lim ∧ Q (.lst .ow ds) ρ1) X (f ρ) := by
  unfold dLst
  rw [post_bnd]
  congr 1
  funext ds ρ1
  by_cases h : ds.length ≤ lim <;> simp [h]
end
end Cs
namespace Cs
open L2
section
variable {α : Type} {X : PySem.Str → List PySem.Str → List D → En → Prop} {ρ : En}
def flK (pr : List Nat) (n : Nat) (K : D → En → Prop) : Flw → En → Prop
  | .nx, ρ => K .non (outs pr n ρ)
  | .rt d, ρ => allF noBo d = true ∧ K d (outs pr n ρ)
  | _, _ => False
@[simp] theorem flK_nx {pr : List Nat} {n : Nat} {K : D → En → Prop} : flK pr n K .nx ρ = K .non (outs pr n ρ) := rfl
@[simp] theorem flK_rt {pr : List Nat} {n : Nat} {K : D → En → Prop} {d : D} : flK pr n K (.rt d) ρ = (allF noBo d = true ∧ K d (outs pr n ρ)) := rfl
theorem resW_run {f : M Flw} {pr : List Nat} {N n : Nat} {ds : List D} {K : D → En → Prop} {E : PySem.Str → List PySem.Str → List D → En → Prop} (hl : ds.length = n)
    (h : Post (flK pr n K) (fun c ks xs ρ => E c ks xs (outs pr n ρ)) (f (frm N ds))) : resW (Cs.run f pr N n ds) K E := by
  unfold Cs.run
  rw [if_pos hl]
  cases e : f (frm N ds) with
  | bad => rw [e] at h; exact h.elim
  | exc c ks xs ρ => rw [e] at h; exact h
  | ok fl ρ =>
    rw [e] at h
    cases fl with
    | nx => exact h
    | bk => exact h.elim
    | ct => exact h.elim
    | rt d =>
      have h : allF noBo d = true ∧ K d (outs pr n ρ) := h
      dsimp only
      rw [if_pos h.1]
      exact h.2
theorem ok_of_resW {r : Res} {d0 : D} (h : resW r (fun d _ => d = d0) N0) : ∃ os, r = .ok d0 os := by
  cases r with
  | ok d os => exact ⟨os, by rw [show d = d0 from h]⟩
  | exc c ks xs os => exact h.elim
  | bad => exact h.elim
theorem post_ite {c : Prop} [Decidable c] {f : M α} {Q : α → En → Prop} : Post Q X ((if c then f else bad) ρ) = (c ∧ Post Q X (f ρ)) := by
  by_cases h : c
  · rw [if_pos h]; simp only [h, true_and]
  · rw [if_neg h]; simp only [h, false_and]; rfl
def intW (d : D) (K : Int → Prop) : Prop := match d with
  | .int i => K i
  | _ => False
@[simp] theorem intW_i {i : Int} {K : Int → Prop} : intW (.int i) K = K i := rfl
def cutW (d : D) (lo hi : Option Int) (K : D → Prop) : Prop := match d with
  | .lst _ xs => allF noOw d = true ∧ K (.lst .ow (cutD xs lo hi))
  | _ => False
@[simp] theorem cutW_l {o : Fl} {xs : List D} {lo hi : Option Int} {K : D → Prop} : cutW (.lst o xs) lo hi K = (allF noOw (.lst o xs) = true ∧ K (.lst .ow (cutD xs lo hi))) := rfl
@[simp] theorem post_part {f : M D} {Q : Option Int → En → Prop} : Post Q X (dPart f ρ) = Post (fun d ρ1 => intW d fun i => Q (some i) ρ1) X (f ρ) := by
  unfold dPart
  rw [post_bnd]
  congr 1
  funext d ρ1
  cases d <;> rfl
@[simp] theorem post_sl {f : M D} {g h : M (Option Int)} {Q : D → En → Prop} : Post Q X (dSl f g h ρ) = Post (fun d ρ1 => Post (fun lo ρ2 => Post (fun hi ρ3 => cutW d lo hi fun e => Q e ρ3) X (h ρ2)) X (g ρ1)) X (f ρ) := by
  unfold dSl
  simp only [post_bnd]
  congr 1
  funext d ρ1
  congr 1
  funext lo ρ2
  congr 1
  funext hi ρ3
  cases d with
  | lst o xs =>
    dsimp only [cutW_l]
    rw [post_ite]
    rfl
  | _ => rfl
@[simp] theorem post_rg3 {f g h : M D} {Q : List D → En → Prop} : Post Q X (dRg3 f g h ρ) = Post (fun d ρ1 => Post (fun e ρ2 => Post (fun k ρ3 => intW d fun i => intW e fun j => intW k fun c => ((-1000000 ≤ i ∧ i ≤ 1000000) ∧ (-1000000 ≤ j ∧ j ≤ 1000000) ∧ ((c ≠ 0 ∧ -1000000 ≤ c ∧ c ≤ 1000000) ∨ (2 ^ 64 ≤ c ∧ c ≤ 2 ^ 200))) ∧ Q (rngC i c (szC i j c)) ρ3) X (h ρ2)) X (g ρ1)) X (f ρ) := by
  unfold dRg3
  simp only [post_bnd]
  congr 1
  funext d ρ1
  congr 1
  funext e ρ2
  congr 1
  funext k ρ3
  cases d with
  | int i =>
    cases e with
    | int j =>
      cases k with
      | int c =>
        dsimp only [intW_i]
        rw [post_ite]
        rfl
      | _ => rfl
    | _ => rfl
  | _ =>
    cases e <;> cases k <;> rfl
@[simp] theorem rngC_len {lo c : Int} {n : Nat} : (rngC lo c n).length = n := by simp [rngC]
def inW (o : Option (Nat × List D)) (K : Nat → List D → Prop) : Prop := match o with
  | some (n, ys) => K n ys
  | none => False
@[simp] theorem inW_some {n : Nat} {ys : List D} {K : Nat → List D → Prop} : inW (some (n, ys)) K = K n ys := rfl
variable {Q : Flw → En → Prop}
@[simp] theorem post_in2 {i : Nat} {j : D} {k : M Flw} : Post Q X (dIn2 i j k ρ) = inW ((slotL i ρ).bind (inner j)) fun _ _ => Post Q X (k ρ) := by
  unfold dIn2
  cases e : (slotL i ρ).bind (inner j) with
  | none => rfl
  | some x => rfl
@[simp] theorem post_app2 {i : Nat} {fj fe : M D} : Post Q X (dApp2 i fj fe ρ) = slW (slot i ρ) fun _ => Post (fun j ρ1 => inW ((slotL i ρ1).bind (inner j)) fun _ _ => Post (fun d ρ2 => mlW (slotL i ρ2) fun xs => mlW (appAt2 j (mapF flFrz d) xs) fun ys => Q .nx (ρ2.set i (.dt (.lst .ow ys)))) X (fe ρ1)) X (fj ρ) := by
  unfold dApp2
  simp
@[simp] theorem post_set2 {i : Nat} {fj fk fe : M D} : Post Q X (dSet2 i fj fk fe ρ) = Post (fun d ρ1 => slW (slot i ρ1) fun _ => Post (fun j ρ2 => inW ((slotL i ρ2).bind (inner j)) fun _ _ => Post (fun k ρ3 => mlW (slotL i ρ3) fun xs => mlW (setAt2 j k (mapF flFrz d) xs) fun ys => Q .nx (ρ3.set i (.dt (.lst .ow ys)))) X (fk ρ2)) X (fj ρ1)) X (fe ρ) := by
  unfold dSet2
  simp
theorem inner_n {n : Nat} {xs ys : List D} (h : xs[n]? = some (.lst .ow ys)) (h2 : allFs noOw ys = true) : inner (.int (n : Int)) xs = some (n, ys) := by
  have hl : n < xs.length := by
    rcases Nat.lt_or_ge n xs.length with q | q
    · exact q
    · rw [List.getElem?_eq_none q] at h; cases h
  unfold inner
  dsimp only
  have e : L2.ixN xs.length (n : Int) = some n := by
    unfold L2.ixN
    have h1 : (0 : Int) ≤ n := by omega
    have h2 : (n : Int) < xs.length := by omega
    rw [if_pos h1, if_pos h2]
    simp
  rw [e]
  dsimp only
  rw [h]
  dsimp only
  rw [if_pos h2]
end
end Cs
namespace Cs
open PySem L2 Evl PyProof.Rows
abbrev tupIt (t : Addr) : Obj := { cls := .type "tuple_iterator", data := .fields #[.ref t, .int 0 0] }
abbrev enumOb (h : Heap) : Obj := { cls := .type "enumerate", data := .fields #[.none, .bool false, .ref h.objs.size, rawInt 0, .none, .none] }
theorem enum_newT (t : Addr) (its : Array Value) (n : Nat) (dc : Option Addr) (sl : Array (Option Value)) :
    Meets (Builtin.«enumerate.__new__» ⟨[.type "enumerate", .ref t], []⟩) fun _ R s =>
      s.heap.get? t = some { cls := .type "tuple", dict := dc, data := .seq its n, slots := sl } ∧
      R (.ok (.ret (.ref (s.heap.push (tupIt t)).objs.size))) { s with heap := (s.heap.push (tupIt t)).push (enumOb s.heap) } := by
  refine .of_wp ?_
  rintro prog w A R ⟨hp, g, d, tk, os⟩ ⟨ht, h⟩
  have hsub := sub_enumerate
  have hT : Heap.IsTuple (Shared.heap ⟨hp, g, d, tk, os⟩) t its := ⟨_, ht, rfl, n, rfl⟩
  wp_walk using AutoSeq1.wpAny_loadPart' ht
  refine wpAny_stack_any fun st => wpAny_pure ?_
  split
  · rename_i c _ _ _ _ _
    cases (c == Value.type "enumerate") <;>
      (wp_walk using AutoSeq1.wpAny_loadPart' ht, wpAny_pyIter_tuple hT
       exact ⟨_, rfl, h⟩)
  · wp_walk using AutoSeq1.wpAny_loadPart' ht, wpAny_pyIter_tuple hT
    exact ⟨_, rfl, h⟩
theorem call_enumT {prog : Program} {w : World} {A : Around} {E : Value → Shared → Prop} {s : Shared} {t : Addr} {its : Array Value} {Q : Value → Shared → Prop} (hT : s.heap.IsTuple t its)
    (h : ∀ h' : Heap, IsEnum h' (s.heap.objs.size + 1) s.heap.objs.size 0 .none → h'.IsTupleIter s.heap.objs.size t 0 → (∀ b o, s.heap.get? b = some o → h'.get? b = some o) → Q (.ref (s.heap.objs.size + 1)) { s with heap := h' }) :
    wpAny (model prog w) A (call (.type "enumerate") [.ref t]) Q E s := by
  obtain ⟨⟨c, dc, dt, sl⟩, ht, hc, n, hd⟩ := hT
  have hc : c = .type "tuple" := hc
  have hd : dt = .seq its n := hd
  subst hc hd
  have hz : (s.heap.push (tupIt t)).objs.size = s.heap.objs.size + 1 := Heap.size_push ..
  have ge : ((s.heap.push (tupIt t)).push (enumOb s.heap)).get? (s.heap.objs.size + 1) = some (enumOb s.heap) := by
    rw [← hz]
    exact Heap.get?_push_size _ rfl
  have gi : ((s.heap.push (tupIt t)).push (enumOb s.heap)).get? s.heap.objs.size = some (tupIt t) := Heap.get?_push_of_some _ (Heap.get?_push_size _ rfl)
  refine callType_new F.called_enumerate (by decide) (F.typeCall_enumerate_1 _) (F.newCall_enumerate_1 _) (fun ob => F.args_object_init_2 ob _) F.entry_enumerate_new (enum_newT t its n dc sl) ⟨ht, ?_⟩
  show _ ∧ _
  rw [hz]
  exact ⟨⟨_, ge, rfl⟩, h _ ge ⟨_, gi, rfl, rfl⟩ fun b o e => Heap.get?_push_of_some _ (Heap.get?_push_of_some _ e)⟩
def ItE (K : PySem.W.Frag) (a : Addr) : It where
  go := fun i H => ∃ (xs : List V) (x : V), SqT K H a xs ∧ xs[i]? = some x
  yld := fun i H v H' => ∃ (q : Addr) (o : Obj) (x : V), v = .ref q ∧ o.dict = none ∧ H q = none ∧ H' = upd H q (.frz o (.tup [.int (i : Nat), x])) ∧ ∀ xs, SqT K H a xs → xs[i]? = some x
  stop := fun i H => ∃ xs : List V, SqT K H a xs ∧ xs.length = i
theorem turn_enumT {P : Program} {w : World} {K : PySem.W.Frag} {elts : List Expr} {kk : Nat} {tpos : Pos} (a e it : Addr) :
    L2.Turn P w K (.Tuple elts kk tpos) (ItE K a) [e, it] e (fun i h => (∃ old, IsEnum h e it ((i : Nat) : Int) old) ∧ h.IsTupleIter it a i ∧ e ≠ it ∧ a ≠ it ∧ a ≠ e) where
  mem := by simp
  obj := by
    rintro i h ⟨⟨old, he⟩, ⟨o, ho, hc, hd⟩, _⟩ b hb
    rcases List.mem_cons.mp hb with z | z
    · rw [z]; exact ⟨_, he, fun v q => nomatch q⟩
    · rw [List.mem_singleton.mp z]; exact ⟨o, ho, fun v q => by rw [hd] at q; cases q⟩
  keep := by
    rintro i h h' ⟨⟨old, he⟩, ⟨o, ho, r⟩, hne⟩ k
    exact ⟨⟨old, k e (by simp) _ he⟩, ⟨o, k it (by simp) o ho, r⟩, hne⟩
  item := by
    intro X hP hw hK hc i pins s σ H E I hf st hg
    subst hP hw hK
    obtain ⟨⟨old, he⟩, hit, hne, hai, hae⟩ := st
    obtain ⟨xs, x, hq, hx⟩ := hg
    obtain ⟨its, rv, p, hz⟩ := I.tuple hq
    obtain ⟨u, hu, ru⟩ := rv.get hx
    have hel : e < s.heap.objs.size := Heap.lt_size he
    have hil : it < s.heap.objs.size := by obtain ⟨_, q, _⟩ := hit; exact Heap.lt_size q
    have hlt : i < its.toArray.size := by
      rcases Nat.lt_or_ge i its.length with z | z
      · simpa using z
      · rw [List.getElem?_eq_none z] at hu; cases hu
    have Dr := Draws.tuple (prog := X.prog) (w := X.w) (A := X.A.in1) (I.ok.hd hc) it a hai its.toArray
    refine wpAny_pyNext_enum_itemD Dr he ⟨hit, p⟩ hlt hne (by simp; exact ⟨hne, fun z => hae z.symm⟩) fun v h' tk hv ho hst hT hsz hk => ?_
    have ev : v = u := by
      have z : (its.toArray)[i]? = some u := by simpa using hu
      rw [z] at hv
      cases hv
      rfl
    subst ev
    refine ⟨_, rfl, wpAny_letOwnedTupleGo_enum (s := { s with heap := h', toks := tk + 1 }) ho fun h2 he' sb => ?_⟩
    have gT : h2.get? s.heap.objs.size = some { cls := .type "tuple", data := .seq #[.int i tk, v] } := (sb.2 _ (Nat.ne_of_gt hel)).trans hT
    have new : ObjOk X.prog X.w (upd H s.heap.objs.size (.frz { cls := .type "tuple", data := .seq #[.int i tk, v] } (.tup [.int (i : Nat), x]))) h2 s.heap.objs.size (.frz { cls := .type "tuple", data := .seq #[.int i tk, v] } (.tup [.int (i : Nat), x])) :=
      ⟨gT, by show 2 ≤ sizeLine; decide, [.int i tk, v], .cons ⟨_, rfl⟩ (.cons ru .nil), ⟨_, gT, rfl, _, rfl⟩⟩
    have I1 := I.turnedNew (t' := tk + 1) (ch := [e, it]) (fun b ob hb q => (sb.2 b fun z => hb (by simp [z])).trans (hk b ob (fun z => hb (by simp [z])) (fun z => hb (by simp [z])) q)) hf (Nat.le_refl _) new
    refine ⟨.ref s.heap.objs.size, _, I1, rfl, ⟨_, _, x, rfl, rfl, I.hok.fresh (Nat.le_refl _), rfl, fun ys hy => by rw [I.tuple_inj hy hq]; exact hx⟩, ⟨⟨v, ?_⟩, ?_, hne, hai, hae⟩, fun b hb => ?_⟩
    · have e1 : ((i + 1 : Nat) : Int) = (i : Int) + 1 := by omega
      rw [e1]
      exact he'
    · obtain ⟨⟨o, ho, r⟩, _⟩ := hst
      exact ⟨o, (sb.2 it (Ne.symm hne)).trans ho, r⟩
    · have hb' : b < s.heap.objs.size := by
        rcases List.mem_cons.mp hb with z | z
        · rw [z]; exact hel
        · rw [List.mem_singleton.mp z]; exact hil
      rw [upd_ne (Nat.ne_of_lt hb')]
      exact (hf b hb).1
  done := by
    intro X hP hw hK hc i pins s σ H E I hf st hg
    subst hP hw hK
    obtain ⟨⟨old, he⟩, hit, hne, hai, hae⟩ := st
    obtain ⟨xs, hq, hx⟩ := hg
    obtain ⟨its, rv, p, hz⟩ := I.tuple hq
    obtain ⟨f0, f1, f2, f3, f4, f5⟩ := hf it (by simp)
    have hl := rv.length
    have Dr := Draws.tuple (prog := X.prog) (w := X.w) (A := X.A.in1) (I.ok.hd hc) it a hai (its.toArray)
    refine wpAny_pyNext_enum_endD Dr he (i := i) ⟨?_, p⟩ fun h' eb => ⟨rfl, I.turned (t' := s.toks) (fun b o hb q => eb b o hb q) f0 f1 f3 f4 f5⟩
    have : its.toArray.size = i := by simp; omega
    rw [this]
    exact hit
  self := fun A i s Q E st h => let ⟨⟨_, he⟩, _⟩ := st; wpAny_pyIter_enum he h
def iEnumT (K : PySem.W.Frag) (te : TE) : TI := fun σ H R => te σ H fun v H1 => ∃ a xs, [v] = [V.ref a] ∧ SqT K H1 a xs ∧ R (ItE K a) H1
theorem pi_enumT {X : Cx} {e : Expr} {te : TE} {p pos tpos : Pos} {elts : List Expr} {kk : Nat} (hg : Gl X "enumerate") (hm : X.mg "enumerate" = none) (he : PE X e te) (hs : starEach [e] X.env = (false, eval e X.env) :: starEach [] X.env := by rfl) :
    PI X (.Tuple elts kk tpos) (.Call (.Name "enumerate" p) [e] [] pos) (iEnumT X.K te) := by
  have ha : PA X [e] (tCons te tNil) := pa_cons he pa_nil hs
  constructor
  intro pins s σ H R I h
  have h : tCons te tNil σ H (fun vs H1 => ∃ a xs, vs = [.ref a] ∧ SqT X.K H1 a xs ∧ R (ItE X.K a) H1) := h
  refine Call_ (ld_blt I hg hm boot_enumerate (callWith_type1 (thn (ha.run pos pins s σ H _ I h) ?_) hs rfl))
  rintro us s1 ⟨vs, H1, I1, r1, a, xs, rfl, hq, q⟩
  cases r1 with
  | cons r rr =>
    cases rr
    cases r
    obtain ⟨its, rv, pt, hz⟩ := I1.tuple hq
    have ha1 : a < s1.heap.objs.size := by obtain ⟨o, e, _⟩ := pt; exact Heap.lt_size e
    refine call_enumT pt fun h' he hit hk => wpAny_pyIter_enum he ?_
    have I2 := I1.kept (t' := s1.toks) hk
    refine ⟨s1.heap.objs.size + 1, [s1.heap.objs.size + 1, s1.heap.objs.size], _, _, H1, rfl, I2, turn_enumT a (s1.heap.objs.size + 1) s1.heap.objs.size, ⟨⟨.none, he⟩, hit, Nat.succ_ne_self _, Nat.ne_of_lt ha1, Nat.ne_of_lt (Nat.lt_succ_of_lt ha1)⟩, fun b hb => ?_, q⟩
    have hle : s1.heap.objs.size ≤ b := by
      rcases List.mem_cons.mp hb with z | z
      · rw [z]; exact Nat.le_add_right _ _
      · rw [List.mem_singleton.mp z]; exact Nat.le_refl _
    exact I1.fpOk hle (I1.hok.fresh hle)
def YPr (xs : List V) : Nat → Hp → V → Hp → Prop := fun i H v H' => ∃ (q : Addr) (o : Obj) (x : V), v = .ref q ∧ o.dict = none ∧ H q = none ∧ H' = upd H q (.frz o (.tup [.int (i : Nat), x])) ∧ xs[i]? = some x
theorem walk_enumT {K : PySem.W.Frag} {a : Addr} {xs : List V} : Walk (ItE K a) xs.length (fun H => SqT K H a xs) (YPr xs) := by
  refine ⟨fun i _ hi q => ⟨xs, xs[i], q, by simp [hi]⟩, fun _ q => ⟨xs, q, rfl⟩, ?_⟩
  rintro i H v H' _ q ⟨p, o, x, h1, h2, h3, h4, h5⟩
  exact ⟨p, o, x, h1, h2, h3, h4, h5 xs q⟩
def numb (k : Nat) : List D → List D
  | [] => []
  | d :: ds => .tup [.int (k : Int), d] :: numb (k + 1) ds
theorem numb_get : ∀ {ds : List D} {k i : Nat}, (numb k ds)[i]? = ds[i]?.map fun d => .tup [.int ((k + i : Nat) : Int), d]
  | [], k, i => by simp [numb]
  | d :: ds, k, 0 => by simp [numb]
  | d :: ds, k, i + 1 => by
    rw [numb, List.getElem?_cons_succ, List.getElem?_cons_succ, numb_get]
    congr 2
    funext d
    congr 4
    omega
theorem numb_len : ∀ {ds : List D} {k : Nat}, (numb k ds).length = ds.length
  | [], _ => rfl
  | d :: ds, k => by rw [numb, List.length_cons, List.length_cons, numb_len]
def dEnT (f : M D) : M (List D) := bnd (dFz f) fun d => match d with
  | .tup xs => ret (numb 0 xs)
  | _ => bad
theorem src_enumT {T : Tx} {B : Hp} {s : S5} {a : Addr} {vs : List V} {ds : List D} (h : ∀ s1 : S5, Okk T B s1 → Ex s.F s1.F → SqT T.K s1.H a vs) (rp : Reps T B s.H s.F ds vs []) : Src T B (ItE T.K a) vs.length (fun H => SqT T.K H a vs) (YPr vs) s.F (numb 0 ds) := by
  refine ⟨walk_enumT, by rw [numb_len, rp.len], h, ?_⟩
  rintro i x H' s1 hi r e ⟨q, o, y, rfl, ho, hq, rfl, hy⟩
  cases ed : ds[i]? with
  | none =>
    rw [List.getElem?_eq_none_iff, rp.len] at ed
    rw [List.getElem?_eq_none ed] at hy
    cases hy
  | some d =>
    obtain ⟨v, q1, q2⟩ := (rp.mono (H' := s1.H) (Ex.refl B) e fun a q => (by cases q)).get0 ed
    rw [hy] at q1
    cases q1
    refine ⟨.tup [.int (i : Int), d], s1.newF q (.frz o (.tup [.int (i : Nat), y])), ?_, rfl, rfl, rfl, r.newF hq, goes_newF r hq, ?_⟩
    · rw [numb_get, ed]
      simp
    · exact (tmp_newT ho r hq (.cons (.int _) (.cons q2 .nil rfl) rfl)).rep
section
variable {X : Cx} {G : Gx} {W : WX} {tc : List Nat} {e : Expr} {f : M D} {p pos tpos : Pos} {elts : List Expr} {kk : Nat}
theorem gi_enumT (hg : Gl X "enumerate") (hm : X.mg "enumerate" = none) (h0 : GE X G W tc e f) (hs : starEach [e] X.env = (false, eval e X.env) :: starEach [] X.env := by rfl) : GI X G W tc (.Tuple elts kk tpos) (.Call (.Name "enumerate" p) [e] [] pos) (dEnT f) :=
  pi_mono (pi_enumT hg hm (g_fz h0) hs) fun σ H R ⟨B, s, e1, e2, rl, hp⟩ => by
    subst e1 e2
    refine seqE1 rl hp fun d v s1 g ed hs r1 t a h => ?_
    cases d with
    | tup xs =>
      have z := rep_v t.rep (dFz_frz ed)
      obtain ⟨q, vs, rfl, rp, sq⟩ := z.tupS
      exact ⟨q, vs, rfl, sq s1.H s1.F (Ex.refl _) r1.exF, h _ _ _ _ s1 rfl hs r1 a.drop0 (src_enumT (fun s3 r3 e3 => sq s3.H s3.F e3 r3.exF) rp)⟩
    | _ => exact h.elim
end
end Cs
namespace Cs
open PySem L2 Evl PyProof.Rows
def putD (k : Str) (d : D) (ks : List Str) (ds : List D) : List Str × List D :=
  if k ∈ ks then (ks, List.zipWith (fun k' x => if k' = k then d else x) ks ds) else (ks ++ [k], ds ++ [d])
abbrev kz (ks : List Str) (vs : List V) : List (Key × V) := (ks.map Sum.inr).zip vs
theorem kz_any {k : Str} : ∀ {ks : List Str} {vs : List V}, ks.length = vs.length → ((kz ks vs).any fun kv => decide (kv.1 = Sum.inr k)) = decide (k ∈ ks)
  | [], [], _ => by simp [kz]
  | a :: ks, v :: vs, h => by
    have e : kz (a :: ks) (v :: vs) = (Sum.inr a, v) :: kz ks vs := rfl
    rw [e, List.any_cons, kz_any (by simpa using h)]
    by_cases q : a = k
    · subst q; simp
    · have q' : ¬ k = a := fun z => q z.symm
      simp [q, q']
  | [], _ :: _, h => by simp at h
  | _ :: _, [], h => by simp at h
theorem kz_map {k : Str} {v : V} : ∀ {ks : List Str} {vs : List V}, (kz ks vs).map (fun kv => if kv.1 = Sum.inr k then (kv.1, v) else kv) = kz ks (List.zipWith (fun k' x => if k' = k then v else x) ks vs)
  | [], vs => by simp [kz]
  | _ :: _, [] => by simp [kz]
  | a :: ks, w :: vs => by
    have e : kz (a :: ks) (w :: vs) = (Sum.inr a, w) :: kz ks vs := rfl
    rw [e, List.map_cons, kz_map, List.zipWith_cons_cons]
    have e2 : ∀ (w : V) (us : List V), kz (a :: ks) (w :: us) = (Sum.inr a, w) :: kz ks us := fun _ _ => rfl
    rw [e2]
    congr 1
    by_cases q : a = k
    · rw [if_pos (by rw [q]), if_pos q]
    · rw [if_neg fun z => q (by cases z; rfl), if_neg q]
theorem kz_app {ks : List Str} {vs : List V} {k : Str} {v : V} (h : ks.length = vs.length) : kz ks vs ++ [(Sum.inr k, v)] = kz (ks ++ [k]) (vs ++ [v]) := by
  unfold kz
  rw [List.map_append, List.zip_append (by simpa using h)]
  rfl
theorem reps_zw {T : Tx} {B H F : Hp} {k : Str} {d : D} {v : V} (rd : Rep T B H F d v []) : ∀ {ks : List Str} {ds : List D} {vs : List V}, Reps T B H F ds vs [] → Reps T B H F (List.zipWith (fun k' x => if k' = k then d else x) ks ds) (List.zipWith (fun k' x => if k' = k then v else x) ks vs) []
  | [], _, _, _ => by rw [List.zipWith_nil_left, List.zipWith_nil_left]; exact .nil
  | _ :: _, _, _, .nil => by rw [List.zipWith_nil_right, List.zipWith_nil_right]; exact .nil
  | a :: ks, _, _, .cons r rs e => by
    obtain ⟨e1, e2⟩ := List.append_eq_nil_iff.mp e.symm
    subst e1 e2
    rw [List.zipWith_cons_cons, List.zipWith_cons_cons]
    refine .cons (f := []) ?_ (reps_zw rd rs) rfl
    by_cases q : a = k
    · rw [if_pos q, if_pos q]; exact rd
    · rw [if_neg q, if_neg q]; exact r
theorem put_rep {T : Tx} {B H F : Hp} {k : Str} {d : D} {v : V} {ks : List Str} {ds : List D} {vs : List V} (rd : Rep T B H F d v []) (rs : Reps T B H F ds vs []) (hl : ks.length = vs.length) :
    ∃ vs', Reps T B H F (putD k d ks ds).2 vs' [] ∧ kz (putD k d ks ds).1 vs' = putK (kz ks vs) (Sum.inr k) v ∧ (putD k d ks ds).1.length = vs'.length ∧ (putD k d ks ds).1.length ≤ ks.length + 1 := by
  unfold putD putK
  rw [kz_any hl]
  by_cases q : k ∈ ks
  · rw [if_pos q, if_pos (by simpa using q), kz_map]
    exact ⟨_, reps_zw rd rs, rfl, by simp [List.length_zipWith, hl], by simp⟩
  · rw [if_neg q, if_neg (by simpa using q), kz_app hl]
    exact ⟨_, rs.append (.cons rd .nil rfl), rfl, by simp [hl], by simp⟩
def dcL (tg : Tg) (own : List Nat) (cond : M Bool) (key val : M D) : List Str × List D → List D → En → Out (List Str × List D)
  | acc, [], ρ => .ok acc ρ
  | acc, d :: ds, ρ => match dTg tg d ρ with
    | .ok .nx ρ1 => (match cond ρ1 with
      | .ok true ρ2 => (match key ρ2 with
        | .ok (.str k) ρ3 => (match val ρ3 with
          | .ok x ρ4 => if acc.1.length < lim ∧ allF noOw x = true then dcL tg own cond key val (putD k x acc.1 acc.2) ds (fgt own ρ4) else .bad
          | _ => .bad)
        | _ => .bad)
      | .ok false ρ2 => dcL tg own cond key val acc ds (fgt own ρ2)
      | _ => .bad)
    | _ => .bad
def dcEnd (own : List Nat) (ρ0 : En) : Out (List Str × List D) → Out D
  | .ok xs ρ => .ok (.dct .ow xs.1 xs.2) (rst own ρ0 ρ)
  | _ => .bad
def dDc (src : M (List D)) (tg : Tg) (own : List Nat) (cond : M Bool) (key val : M D) : M D := bnd src fun ds ρ =>
  if noOwAt own ρ = true then dcEnd own ρ (dcL tg own cond key val ([], []) ds (fgt own ρ)) else .bad
section
variable {T : Tx} {B : Hp}
structure AccD (T : Tx) (B : Hp) (p : Addr) (s : S5) (ks : List Str) (xs : List D) (vs : List V) : Prop where
  t : Reps T B s.H s.F xs vs []
  h : s.H p = some (.dK (kz ks vs))
  l : ks.length = vs.length
  f : s.F p = none
  b : B p = none
  o : ¬ O s.φ p
theorem AccD.go {p : Addr} {s s1 : S5} {ks : List Str} {xs : List D} {vs : List V} {g1 tc : List Nat} (c : AccD T B p s ks xs vs) (a : Goes tc s s1 g1) : AccD T B p s1 ks xs vs ∧ p ∉ g1 := by
  have hp : ∀ q : s.H p = none, False := fun q => by rw [c.h] at q; cases q
  refine ⟨⟨c.t.mono (Ex.refl B) a.step.ext fun _ q => (by cases q), (a.step.keep p _ c.h c.o).st fun _ e => (by cases e), c.l, ?_, c.b, fun q => (a.step.on p (.inl q)).elim c.o hp⟩, fun q => (a.step.on p (.inr q)).elim c.o hp⟩
  cases e : s1.F p with
  | none => rfl
  | some u => exact ((a.step.fn p u e c.f).elim c.o hp).elim
theorem AccD.same {p : Addr} {s s1 : S5} {ks : List Str} {xs : List D} {vs : List V} (c : AccD T B p s ks xs vs) (h1 : s1.H = s.H) (h2 : s1.F = s.F) (h3 : ∀ a, O s1.φ a → O s.φ a) : AccD T B p s1 ks xs vs :=
  ⟨by rw [h1, h2]; exact c.t, by rw [h1]; exact c.h, c.l, by rw [h2]; exact c.f, c.b, fun q => c.o (h3 p q)⟩
end
section
variable {T : Tx} {W : WX} {t1 tt tk te to own : List Nat} {src : M (List D)} {cond : M Bool} {key val : M D} {tg : Tg}
theorem dc_core2 {σ : L2.St} {H : Hp} {Q : VK} (htg : ∀ x ∈ tg.tc, 1000 ≤ x → x - 1000 ∈ own) (hsub : ∀ j ∈ tg.tc ++ (tt ++ (tk ++ te)), j ∈ to ∨ j ∈ own) (h : tD T W (t1 ++ to) (dDc src tg own cond key val) σ H Q) :
    tDc (tDI T W t1 src) (tgR T.K tg) (tDT T W0 tt cond) (tD T W0 tk key) (tD T W0 te val) own σ H Q := by
  obtain ⟨B, sb, e1, e2, rb, hp⟩ := h
  subst e1 e2
  have hp : Post (okE T B (t1 ++ to) sb Q) (exE T W B (t1 ++ to) sb) (bnd src (fun ds ρ => if noOwAt own ρ = true then dcEnd own ρ (dcL tg own cond key val ([], []) ds (fgt own ρ)) else .bad) sb.ρ) := hp
  refine ⟨B, sb, rfl, rfl, rb, hp.bnd.imp (fun ds ρ1 ⟨_, h⟩ J n Gd Y s0 q1 q2 r0 a0 sr p hp0 => ?_) fun _ _ _ _ h cls dd s' x1 x2 x3 x4 x5 => h cls dd s' x1 x2 x3 x4 (x5.wk fun _ => memL)⟩
  subst q1
  split at h
  case isFalse => exact h.elim
  rename_i hno
  rw [← q2]
  let TT := tg.tc ++ (tt ++ (tk ++ te))
  let Pv : Nat → Hp → Prop := fun k H => ∃ s ks acc vs, s.H = H ∧ s.σ = wipe s0.σ own ∧ Okk T B s ∧ AccD T B p s ks acc vs ∧ In own TT s0 s [p] ∧ (∀ j ∈ own, ∀ x, s.ρ[j]? = some x → x = .un) ∧ s.σ.length = s0.σ.length ∧
    Post (okE T B (t1 ++ to) sb Q) (exE T W B (t1 ++ to) sb) (dcEnd own s0.ρ (dcL tg own cond key val (ks, acc) (ds.drop k) s.ρ))
  have start : Pv 0 (upd s0.H p (.dK [])) := by
    obtain ⟨s1, h1, h2, h3, h4, h5, h6, h7⟩ := into_own (own := own) r0
    refine ⟨{ s1 with H := upd s1.H p (.dK []) }, [], [], [], by show upd s1.H p _ = _; rw [h3], h2, ?_, ⟨.nil, upd_same, rfl, ?_, ?_, ?_⟩, ⟨?_, fun j q1 q2 => ?_, fun j q => ?_⟩, fun j hj x e => ?_, ?_, ?_⟩
    · exact h5.new (by rw [h3]; exact hp0)
    · show s1.F p = none
      rw [h4]; exact r0.freeF hp0
    · exact r0.freeB hp0
    · exact fun q => r0.freeO hp0 (h7 _ q)
    · show Step s0.H s0.F (O s0.φ) (upd s1.H p _) s1.F _
      rw [h3, h4]
      refine (Step.new hp0).drop2 fun a q => ?_
      rcases q with q | q
      · exact .inl (h7 a q)
      · rw [List.mem_singleton.mp q]; exact .inr hp0
    · refine ⟨?_, h6 j q2, fun b hb => ?_⟩
      · show s1.ρ[j]? = _
        rw [h1, fgt_get q2]
      · obtain ⟨u, e⟩ := r0.dom ⟨j, hb⟩
        show upd s1.H p _ b = _
        rw [upd_ne (ne_of_none e hp0), h3]
    · show s1.σ[j]? = _
      rw [h2, wipe_out q]
    · have e : s1.ρ[j]? = some x := e
      rw [h1] at e
      exact fgt_un (.inl hj) x e
    · show s1.σ.length = _
      rw [h2, wipe_len]
    · show Post _ _ (dcEnd own s0.ρ (dcL tg own cond key val ([], []) (ds.drop 0) s1.ρ))
      rw [h1]
      exact h
  refine ⟨fun i m H => m = n - i ∧ i ≤ n ∧ Pv i H, ⟨n, by simp, Nat.zero_le _, start⟩, ?_⟩
  rintro k m H1 ⟨rfl, hi, hP⟩
  obtain ⟨s, ks, acc, vs, x1, x2, x3, x4, x5, x6, x7, x8⟩ := hP
  subst x1
  have hG : Gd s.H := sr.g s x3 x5.st.ext
  by_cases hk : k < n
  · refine .inr ⟨sr.w.goes k _ hk hG, Pv (k + 1), fun H' p' => ⟨n - (k + 1), by omega, rfl, hk, p'⟩, fun x H' yl => ?_⟩
    obtain ⟨d, s3, y1, y2, y3, y4, y5, y6, y7⟩ := sr.y k x H' s hk x3 x5.st.ext (sr.w.yields k _ x H' hk hG yl)
    subst y2
    have hd : ds.drop k = d :: ds.drop (k + 1) := by
      obtain ⟨hl, e⟩ := List.getElem?_eq_some_iff.mp y1
      rw [← e]
      exact List.drop_eq_getElem_cons hl
    rw [hd] at x8
    unfold dcL at x8
    rw [← y4] at x8
    have c3 := (x4.go y6).1
    have i3 : In own TT s0 s3 [p] := x5.go y6 (fun _ z => by cases z) fun j _ => by rw [y3]
    cases et : dTg tg d s3.ρ with
    | bad => rw [et] at x8; exact x8.elim
    | exc c ks xs ρ => rw [et] at x8; exact x8.elim
    | ok fl ρ2 =>
      rw [et] at x8
      cases fl with
      | bk => exact x8.elim
      | ct => exact x8.elim
      | rt r => exact x8.elim
      | nx =>
        dsimp only at x8
        rw [← x2, ← y3]
        refine tg_core (T := T) y5 y7 et fun s4 z1 z2 z3 z4 z5 => ?_
        have hsg4 := tgs_sg z5 htg
        have c4 := (c3.go z5).1
        have i4 : In own TT s0 s4 [p] := i3.go z5 (fun j z => memL z) hsg4
        have hl4 : s4.σ.length = s3.σ.length := by rw [← z4.len, ← y5.len, z1]; exact dTg_len et
        have hl40 : s4.σ.length = s0.σ.length := by rw [hl4, y3, x7]
        refine ⟨(wipe_eq hl4 hsg4).trans (by rw [y3, x2, wipe_wipe]), ?_⟩
        subst z1
        refine ⟨B, s4, rfl, rfl, z4, ?_⟩
        cases ec : cond s4.ρ with
        | bad => rw [ec] at x8; exact x8.elim
        | exc c ks xs ρ => rw [ec] at x8; exact x8.elim
        | ok b ρ5 =>
          rw [ec] at x8
          intro s5 w1 w2 w3 w4
          subst w1
          have c5 := (c4.go w4).1
          have i5 : In own TT s0 s5 [p] := i4.go w4 (fun j z => memR (memL z)) fun j _ => by rw [w2]
          cases b with
          | false =>
            rw [if_neg Bool.false_ne_true]
            obtain ⟨s6, v1, v2, v3, v4, v5, v6, v7⟩ := i5.next w3 (by rw [w2, hl40])
            exact ⟨s6, ks, acc, vs, v3, v2, v5, c5.same v3 v4 v7, v6, fun j hj x e => fgt_un (.inl hj) x (by rw [← v1]; exact e), by rw [v2, wipe_len], by rw [v1]; exact x8⟩
          | true =>
            rw [if_pos rfl, ← w2]
            refine ⟨B, s5, rfl, rfl, w3, ?_⟩
            dsimp only at x8
            cases ek : key s5.ρ with
            | bad => rw [ek] at x8; exact x8.elim
            | exc c ks xs ρ => rw [ek] at x8; exact x8.elim
            | ok dk ρk =>
              rw [ek] at x8
              intro vk sk gk u1 u2 u3 u4 u5
              subst u1
              cases dk with
              | str kk =>
                obtain ⟨rk, _, _, _⟩ := u4
                cases rk
                rw [← u2]
                refine ⟨B, sk, rfl, rfl, u3, ?_⟩
                dsimp only at x8
                have ck := (c5.go u5).1
                have ik : In own TT s0 sk [p] := i5.go u5 (fun j z => memR (memR (memL z))) fun j _ => by rw [u2]
                cases ee : val sk.ρ with
                | bad => rw [ee] at x8; exact x8.elim
                | exc c ks xs ρ => rw [ee] at x8; exact x8.elim
                | ok d6 ρ6 =>
                  rw [ee] at x8
                  intro v6 s6 g6 u1 u2' u3' u4 u5'
                  subst u1
                  dsimp only at x8
                  split at x8
                  case isFalse => exact x8.elim
                  rename_i hlim
                  have c6 := ck.go u5'
                  have g0 : g6 = [] := u4.rep.noO hlim.2
                  subst g0
                  refine ⟨kz ks vs, Sum.inr kk, rfl, c6.1.h, ?_, ?_⟩
                  · unfold kz
                    rw [List.length_zip, List.length_map, ← c6.1.l, Nat.min_self, sizeLine_eq]
                    have := hlim.1
                    unfold lim at this
                    omega
                  · obtain ⟨vs', p1, p2, p3, p4⟩ := put_rep (k := kk) u4.rep c6.1.t c6.1.l
                    rw [← p2]
                    let s7 : S5 := { s6 with H := upd s6.H p (.dK (kz (putD kk d6 ks acc).1 vs')) }
                    have c7 : AccD T B p s7 (putD kk d6 ks acc).1 (putD kk d6 ks acc).2 vs' := ⟨p1.mono (Ex.refl B) (Ex.refl _) fun _ q => (by cases q), upd_same, p3, c6.1.f, c6.1.b, c6.1.o⟩
                    have r7 : Okk T B s7 := u3'.poke c6.1.f c6.1.b c6.1.o (nmH c6.1.h)
                    have i6 : In own TT s0 s6 ([] ++ [p]) := ik.go u5' (fun j z => memR (memR (memR z))) fun j _ => by rw [u2']
                    have i7 : In own TT s0 s7 [p] := i6.poke (p := p) (o := .dK (kz (putD kk d6 ks acc).1 vs')) r0 hp0
                    obtain ⟨s8, v1, v2, v3, v4, v5, v6', v7⟩ := i7.next r7 (by show s6.σ.length = _; rw [u2', u2, w2, hl40])
                    exact ⟨s8, _, _, _, v3, v2, v5, c7.same v3 v4 v7, v6', fun j hj x e => fgt_un (.inl hj) x (by rw [← v1]; exact e), by rw [v2, wipe_len], by rw [v1]; exact x8⟩
              | _ => exact x8.elim
  · have ekn : k = n := by omega
    subst ekn
    refine .inl ⟨sr.w.stops _ hG, ?_⟩
    rw [← sr.len, List.drop_length] at x8
    unfold dcL dcEnd at x8
    obtain ⟨s1, h1, h2, h3, h4, h5, h6, h7⟩ := outof_own (own := own) r0 hno x3 x5.sg x6 (by rw [x3.len, x7, r0.len]) x5.st x5.fx hsub
    have t1 : Tmp T B s1.H s1.F s1.φ (.dct .ow ks acc) (.ref p) [p] := by
      rw [h3, h4, h5]
      exact ⟨.dctO x4.h x4.l x4.t rfl, List.nodup_cons.mpr ⟨fun z => (by cases z), .nil⟩, fun a ha => by
        rw [List.mem_singleton.mp ha]; exact ⟨x4.f, x4.b⟩, fun a ha => by
        rw [List.mem_singleton.mp ha]; exact x4.o⟩
    have z := x8 (.ref p) s1 [p] h1 (h2.trans q2) h6 t1 ((a0.trans0 h7).wk fun j z => z)
    rw [h3] at z
    exact z
end
section
variable {X : Cx} {G : Gx} {W : WX} {t1 tt tk te to : List Nat} {src : M (List D)} {cond : M Bool} {key val : M D} {tg : Tg} {kE vE tgE iter : Expr} {ifs : List Expr} {scope : Scope} {own : List (Str × Nat)} {pos : Pos}
theorem g_dc (hc : X.calm = true) (hN : X.N.Nodup) (hi : GI X G W t1 tgE iter src) (ok : BlkOk X.N X.env.scope scope own) (hg : blkT X scope fun Y => PG Y tgE (tgR X.K tg)) (ht : blkT X scope fun Y => GTs Y G W0 tt ifs cond) (hk : blkT X scope fun Y => GE Y G W0 tk kE key) (he : blkT X scope fun Y => GE Y G W0 te vE val)
    (htg : ∀ x ∈ tg.tc, 1000 ≤ x → x - 1000 ∈ own.map (·.2) := by decide) (hsub : ∀ j ∈ tg.tc ++ (tt ++ (tk ++ te)), j ∈ to ∨ j ∈ own.map (·.2) := by decide) (hs : ∀ x, foldedSetIterable iter X.env x = pure x := by intro _; rfl) :
    GE X G W (t1 ++ to) (.DictComp kE vE [⟨tgE, iter, ifs, 0⟩] scope pos) (dDc src tg (own.map (·.2)) cond key val) :=
  pe_mono (pe_dc hc hN hi ok hg ht hk he hs) fun σ H Q h => dc_core2 (T := tx X G) htg hsub h
end
end Cs
namespace Cs
open PySem L2 Evl PyProof.Rows
theorem ps_setDc {X : Cx} {i : Nat} {y : Str} {py pos spos : Pos} {kE vE tg iter : Expr} {ifs : List Expr} {scope : Scope} {own : List (Str × Nat)} {wi : TI} {g : TG} {tt : TT} {tk te : TE} (hc : X.calm = true) (hN : X.N.Nodup) (hy : X.N[i]? = some y)
    (hyl : X.env.scope.names.lookup y = some .local) (hsw : swapsWith (.DictComp kE vE [⟨tg, iter, ifs, 0⟩] scope pos) (some (.Name y py)) spos.line X.env = pure true) (hi : PI X tg iter wi) (ok : BlkOk X.N X.env.scope scope own)
    (hg : blkT X scope fun Y => PG Y tg g) (ht : blkT X scope fun Y => PTs Y ifs tt) (hk : blkT X scope fun Y => PE Y kE tk) (he : blkT X scope fun Y => PE Y vE te) (hs : ∀ x, foldedSetIterable iter X.env x = pure x := by intro _; rfl) :
    PS X (.Assign [.Name y py] (.DictComp kE vE [⟨tg, iter, ifs, 0⟩] scope pos) spos) (tAsg (tDc wi g tt tk te (own.map (·.2))) (gName i)) := by
  constructor
  intro pins s σ H D I h
  rw [exec_Assign_Name_used _ _ _ _ hsw]
  refine wpAny_bind (wpAny_standAt (wpAny_bind ?_))
  show wpAny _ X.A (do let _ ← comprehension (.DictComp kE vE [⟨tg, iter, ifs, 0⟩] scope pos) scope X.env (firstIterPos [⟨tg, iter, ifs, 0⟩] pos) newDict false (eval iter X.env) (some (assign (.Name y py) X.env))) _ _ s
  have h : tDc wi g tt tk te (own.map (·.2)) σ H (fun x H1 => gName i x σ H1 D.nx) := h
  have core := dc_core (pos := pos) (use := some (assign (.Name y py) X.env)) (pos' := firstIterPos [⟨tg, iter, ifs, 0⟩] pos) (Qf := fun _ s' => SP X pins D .next s') hc hN I hi ok hg ht hk he hs h
  refine wpAny_bind (thn (core ?_) fun _ s' hq => wpAny_pure (wpAny_pure hq))
  intro L C s' m H' I' q hn f
  show wpAny _ _ (assign (.Name y py) X.env (.ref L)) _ _ _
  refine wpAny_assign_Name (store_ok2 (v := V.ref L) I' hN hy (.inl hyl) rfl ?_ (.inr hyl))
  rintro s2 I2 ⟨a, sb, ha⟩
  obtain ⟨f0, f1, f2, f3, f4, f5⟩ := f
  have haC : C ≠ a := ha.elim (fun z => by rw [z]; exact f1) fun z e => f4 y a z e.symm
  exact ⟨m, hn.sameBut sb haC, fun h3 sb3 => ⟨_, H', I2.turned (t' := s2.toks) (fun b o hb e => (sb3.2 b hb).trans e) f0 f1 f3 f4 f5, q⟩⟩
theorem swD_true {kE vE : Expr} {gs : List Comprehension} {scope : Scope} {pos py : Pos} {y : Str} {l : Nat} {env : Env} (hk : env.scope.kind = .function) (hy : env.scope.names.lookup y = some .local) (hl : (py.line == pos.line) = true)
    (ha : (scope.names.any fun (n, k) => n == y && (k == .local || k == .cell)) = false) : swapsWith (.DictComp kE vE gs scope pos) (some (.Name y py)) l env = pure true := by
  have e1 : env.kindOf y = some .local := hy
  have e2 : env.blockKind = .function := by unfold Env.blockKind; rw [hk]; rfl
  unfold swapsWith
  simp only [e1, e2, ha, hl, Expr.pos]
  rfl
section
variable {X : Cx} {G : Gx} {W : WX} {t1 tt tk te to : List Nat} {src : M (List D)} {cond : M Bool} {key val : M D} {tg : Tg} {kE vE tgE iter : Expr} {ifs : List Expr} {scope : Scope} {own : List (Str × Nat)} {pos : Pos}
theorem gs_setDc {i : Nat} {y : Str} {py spos : Pos} (hc : X.calm = true) (hN : X.N.Nodup) (hy : X.N[i]? = some y) (hyl : X.env.scope.names.lookup y = some .local) (hsw : swapsWith (.DictComp kE vE [⟨tgE, iter, ifs, 0⟩] scope pos) (some (.Name y py)) spos.line X.env = pure true)
    (hi : GI X G W t1 tgE iter src) (ok : BlkOk X.N X.env.scope scope own) (hg : blkT X scope fun Y => PG Y tgE (tgR X.K tg)) (ht : blkT X scope fun Y => GTs Y G W0 tt ifs cond) (hk : blkT X scope fun Y => GE Y G W0 tk kE key) (he : blkT X scope fun Y => GE Y G W0 te vE val)
    (htg : ∀ x ∈ tg.tc, 1000 ≤ x → x - 1000 ∈ own.map (·.2) := by decide) (hsub : ∀ j ∈ tg.tc ++ (tt ++ (tk ++ te)), j ∈ to ∨ j ∈ own.map (·.2) := by decide) (hs : ∀ x, foldedSetIterable iter X.env x = pure x := by intro _; rfl) :
    GS X G W ((t1 ++ to) ++ [i, i + 1000]) (.Assign [.Name y py] (.DictComp kE vE [⟨tgE, iter, ifs, 0⟩] scope pos) spos) (dAsg i (dDc src tg (own.map (·.2)) cond key val)) :=
  ps_mono (ps_setDc hc hN hy hyl hsw hi ok hg ht hk he hs) fun E σ H h => dc_core2 (T := tx X G) htg hsub (asg_core (T := tx X G) h)
end
end Cs
namespace Cs
open PySem L2 Evl PyProof.Rows
section
variable {X : Cx} {G : Gx} {W : WX} {tc t1 t2 t3 : List Nat} {a b c e : Expr} {pos p : Pos} {f g h u w : M D} {o o1 o2 : Opd} {x : Str}
theorem g_glI {n : Int} (hg : Gl X x) (hm : ∃ t : Tok, X.mg x = some (.int n t)) (hd : (x == ("__debug__" : Str)) = false := by decide) : GE X G W [] (.Name x pos) (ret (.int n)) :=
  pe_mono (pe_glob (v := .int n) hg hm.choose_spec ⟨_, rfl⟩ hd) fun σ H Q ⟨B, s, e1, e2, r, h⟩ => by
    subst e1 e2
    exact h _ s [] rfl rfl r (Tmp.flat (.int n)) Goes.refl
theorem g_glS {z : Str} (hg : Gl X x) (hm : ∃ t : Tok, X.mg x = some (.str z t)) (hz : PyData.strOk z = true := by decide +kernel) (hd : (x == ("__debug__" : Str)) = false := by decide) : GE X G W [] (.Name x pos) (ret (.str z)) :=
  pe_mono (pe_glob (v := .str z) hg hm.choose_spec ⟨_, rfl⟩ hd) fun σ H Q ⟨B, s, e1, e2, r, h⟩ => by
    subst e1 e2
    exact h _ s [] rfl rfl r (Tmp.flat (.str z hz)) Goes.refl
def chn (p q : D → D → PR) (h : M D) (x y : D) : M D := match p x y with
  | .sc (.bl true) => bnd h fun z => pr (q y z)
  | .sc (.bl false) => ret (.bl false)
  | _ => bad
def dChn (p q : D → D → PR) (f g h : M D) : M D := bnd f fun x => bnd g fun y => chn p q h x y
theorem tD_wk {T : Tx} {u1 u2 : List Nat} (hw : ∀ j ∈ u1, j ∈ u2) {σ : L2.St} {H : Hp} {Q : VK} (h : tD T W u2 f σ H Q) : tD T W u1 f σ H Q := by
  obtain ⟨B, s, e1, e2, rl, hp⟩ := h
  exact ⟨B, s, e1, e2, rl, hp.imp (fun _ _ z => z.wk hw) fun _ _ _ _ z => exE.wk hw z⟩
theorem chn_core {T : Tx} {r r' : R2} {p q : D → D → PR} (hr : P2 T r p) (hr' : P2 T r' q) {σ : L2.St} {H : Hp} {Q : VK} (hh : tD T W (t1 ++ (t2 ++ t3)) (dChn p q f g h) σ H Q) : tChain r r' (tD T W t1 f) (tD T W t2 g) (tD T W t3 h) σ H Q := by
  obtain ⟨B, s, e1, e2, rl, hp⟩ := hh
  subst e1 e2
  refine seqE rl hp fun d v s1 g1 _ hs r1 tA a1 hp => ?_
  rw [← hs]
  refine tD_wk (u2 := t2 ++ t3) (fun j hj => memL hj) (seqE2 (tc2 := t2 ++ t3) a1 hs r1 hp fun d2 v2 s2 g2 _ hs2 r2 tB a2 hp => ?_)
  have z := hr B s2.H s2.F d v g1 d2 v2 g2 r2.exF r2.exB (tA.go a2).rep tB.rep
  have a12 := a1.trans a2
  unfold chn at hp
  cases ep : p d d2 with
  | sc dd =>
    rw [ep] at hp z
    cases dd with
    | bl bb =>
      obtain ⟨v3, rp3, k3⟩ := z
      cases rp3
      refine k3 _ ⟨bb, rfl, ?_⟩
      cases bb with
      | false =>
        rw [if_neg Bool.false_ne_true]
        exact hp (.bl false) s2 [] rfl (hs2.trans hs) r2 (Tmp.flat (.bl false)) a12.drop0
      | true =>
        rw [if_pos rfl, ← hs2]
        have hp3 := hp.imp (fun _ _ z => z) fun _ _ _ _ z => exE.wk (u1 := (t1 ++ (t2 ++ t3)) ++ t3) (fun j hj => (List.mem_append.mp hj).elim id fun q => memR (memR q)) z
        refine seqE2 (tc2 := t3) a12 (hs2.trans hs) r2 hp3 fun d4 v4 s4 g4 _ hs4 r4 tC a4 hp => ?_
        have a124 := (a12.trans a4).wk (tc := t1 ++ (t2 ++ t3)) fun j hj => (List.mem_append.mp hj).elim id fun q => memR (memR q)
        have hp : Post (okE T B (t1 ++ (t2 ++ t3)) s Q) (exE T W B ((t1 ++ (t2 ++ t3)) ++ t3) s) (pr (q d2 d4) s4.ρ) := hp
        have hp5 := hp.imp (fun _ _ z => z) fun _ _ _ _ z => exE.wk (u1 := t1 ++ (t2 ++ t3)) (fun j hj => memL hj) z
        exact pr_fin ((hs4.trans hs2).trans hs) r4 a124 (hr' B s4.H s4.F d2 v2 g2 d4 v4 g4 r4.exF r4.exB (tB.go a4).rep tC.rep) hp5
    | _ => exact hp.elim
  | nl ds => rw [ep] at hp; exact hp.elim
  | nt ds => rw [ep] at hp; exact hp.elim
  | bad => rw [ep] at hp; exact hp.elim
theorem gt_chain {op op' : CmpOp} {r r' : R2} {p q : D → D → PR} (ho : OpR X (compareOp op) r) (ho' : OpR X (compareOp op') r') (hr : P2 (tx X G) r p) (hr' : P2 (tx X G) r' q) (h1 : GE X G W t1 a f) (h2 : GE X G W t2 b g) (h3 : GE X G W t3 c h)
    (hm : lastMarks [op, op'] [b, c] = false := by with_unfolding_all rfl) : GT X G W (t1 ++ (t2 ++ t3)) (.Compare a [op, op'] [b, c] pos) (dB (dChn p q f g h)) :=
  pt_mono (pt_chain ho ho' h1 h2 h3 hm) fun _ _ _ z => chn_core hr hr' (tB_core z)
def pDix : D → D → PR
  | .dct _ ks ds, .str k => (match look k ks ds with
    | some d => if allF noOw d = true then .sc d else .bad
    | none => .bad)
  | _, _ => .bad
theorem look_kz {T : Tx} {B H F : Hp} {k : Str} : ∀ {ks : List Str} {ds : List D} {vs : List V} {g : List Addr} {d : D}, Reps T B H F ds vs g → look k ks ds = some d → ∃ v g', valV (kz ks vs) (Sum.inr k) = some v ∧ Rep T B H F d v g'
  | [], _, _, _, _, _, h => by simp [look] at h
  | _ :: _, [], _, _, _, _, h => by simp [look] at h
  | a :: ks, x :: xs, _, _, d, .cons (v := v) (vs := vs) r rs e, h => by
    have e2 : kz (a :: ks) (v :: vs) = (Sum.inr a, v) :: kz ks vs := rfl
    rw [e2]
    unfold look at h
    by_cases q : k = a
    · subst q
      rw [if_pos (beq_self_eq_true k)] at h
      cases h
      exact ⟨v, _, valV_pos rfl, r⟩
    · rw [if_neg (by simpa using q)] at h
      obtain ⟨v', g', h1, h2⟩ := look_kz rs h
      refine ⟨v', g', ?_, h2⟩
      unfold valV at h1 ⊢
      rw [List.find?_cons_of_neg (by simp; exact fun z => q z.symm)]
      exact h1
theorem Rep.dctS {T : Tx} {B H F : Hp} (eF : Ex F H) (eB : Ex B H) {o : Fl} {ks : List Str} {ds : List D} {v : V} {g : List Addr} (r : Rep T B H F (.dct o ks ds) v g) : ∃ a vs g', v = .ref a ∧ H a = some (.dK (kz ks vs)) ∧ ks.length = vs.length ∧ Reps T B H F ds vs g' := by
  cases r with
  | dctF h l r => exact ⟨_, _, _, rfl, eF _ _ h, l, r⟩
  | dctB h l r => exact ⟨_, _, _, rfl, eB _ _ h, l, r⟩
  | dctO h l r e => exact ⟨_, _, _, rfl, h, l, r⟩
theorem p2_dix {T : Tx} : P2 T (fun x y H Q => ∃ a v, x = .ref a ∧ DGet H a y (some v) ∧ Q v H) pDix := by
  intro B H F d v g e u k eF eB r q
  cases d with
  | dct o ks ds =>
    cases e with
    | str z =>
      cases q
      unfold pDix
      dsimp only
      cases el : look z ks ds with
      | none => trivial
      | some dd =>
        dsimp only
        split
        · rename_i hn
          obtain ⟨aa, vs, g', rfl, hd, hl, rp⟩ := r.dctS eF eB
          obtain ⟨vv, g2, h1, h2⟩ := look_kz rp el
          refine ⟨vv, rep_v h2 hn, fun Q hq => ⟨aa, vv, rfl, ?_, hq⟩⟩
          rw [← h1]
          exact DGet.k (k := Sum.inr z) hd
        · trivial
    | _ => trivial
  | _ => cases e <;> trivial
theorem g_dix (hu : X.A.units + 65 < cLine) (h1 : GO X G W t1 a o1) (h2 : GO X G W t2 b o2) (hs : NoSl b := by intro _ _; rfl) : GE X G W (t1 ++ t2) (.Subscript a b pos) (dOp2 pDix o1 o2) :=
  top_of p2_dix h1 h2 fun _ _ ha hb => pe_dget (by omega) ha hb hs
end
end Cs
namespace Cs
open PySem L2 Evl PyProof.Rows
theorem StT.is {X : Cx} {pins : List (Addr × Obj)} {σ : L2.St} {H : Hp} {s : Shared} {p : Addr} {vs : List V} (I : Inv X pins σ H s) (h : StT X.K H p vs) : s.TypeIs (.ref p) "tuple" ∧ ∀ a, Value.ref p = .ref a → ∃ ob, s.heap.get? a = some ob ∧ ob.dict = none := by
  rcases h with ⟨o, h, hd⟩ | ⟨o, its, n, h1, h2, _, _, _, hd⟩
  · obtain ⟨e, _, _, _, ⟨o', e', hc, _⟩⟩ := (show ObjOk X.prog X.w H s.heap p (.frz o (.tup vs)) from I.hok p _ h)
    rw [e] at e'
    cases e'
    exact ⟨⟨o, e, hc⟩, fun a q => by cases q; exact ⟨o, e, hd⟩⟩
  · exact ⟨⟨o, I.kIn p o h1, h2⟩, fun a q => by cases q; exact ⟨o, I.kIn p o h1, hd⟩⟩
def tTM (K : PySem.W.Frag) (r : V → List V → Hp → VK → Prop) (to : TE) (t : TA) : TE := fun σ H Q => to σ H fun x H1 => (∃ p vs, x = .ref p ∧ StT K H1 p vs) ∧ t σ H1 fun xs H2 => r x xs H2 Q
theorem pe_tm {X : Cx} {o e : Expr} {es : List Expr} {to : TE} {t : TA} {name : Str} {apos cpos : Pos} {id : String} {r : V → List V → Hp → VK → Prop} (slot : Slot "tuple" name id) (hty : typeOf (.builtin id) = pure (.type "method_descriptor")) (hm : MtR X id r) (ho : PE X o to) (ha : PA X (e :: es) t)
    (hbase : attributeBase o name X.env (eval o X.env) = eval o X.env := by rfl)
    (hfew : ((backTo cpos (starEach (e :: es) X.env)).all (fun x => !x.1) && (backToKw cpos (keywordEach [] X.env)).all (fun x => x.1.isSome) && decide ((e :: es).length + ([] : List Keyword).length + (if ([] : List Keyword).isEmpty then 0 else 1) < 30)) = true := by rfl)
    (hline : (apos.endLine == cpos.line) = true := by rfl) (hs : starEach (e :: es) X.env = (false, eval e X.env) :: starEach es X.env := by rfl) (hplain : (backTo cpos (starEach es X.env)).any (·.1) = false := by rfl) :
    PE X (.Call (.Attribute o name apos) (e :: es) [] cpos) (tTM X.K r to t) := by
  constructor
  intro pins s σ H Q I h
  refine wpAny_Call_method_late hbase hfew hline rfl (thn (ho.run pins s σ H _ I h) ?_)
  rintro v s1 ⟨x, H1, I1, r1, ⟨p, vs, rfl, st⟩, q1⟩
  cases r1
  obtain ⟨h1, h2⟩ := st.is I1
  refine ⟨"tuple", id, PySem.F.plainAttrs_tuple, slot, hty, h1, h2, ?_⟩
  have hA := ha.run cpos pins s1 σ H1 _ I1 q1
  rw [hs] at hA ⊢
  refine Calls.callWith_builtin (by show (false || (backTo cpos (starEach es X.env)).any (·.1)) = false; rw [hplain] <;> rfl) (Calls.evalArgs_plain (thn hA ?_))
  rintro us s2 ⟨vs, H2, I2, r2, q2⟩
  exact hm pins s2 σ H2 (.ref p) vs _ us Q I2 rfl r2 q2
def allStr : List D → Option (List Str)
  | [] => some []
  | .str z :: ds => (allStr ds).map (z :: ·)
  | _ => none
def ixS (z : Str) : List Str → Option Nat
  | [] => none
  | y :: ys => if y = z then some 0 else (ixS z ys).map (· + 1)
theorem ixS_some {z : Str} : ∀ {ys : List Str} {j : Nat}, ixS z ys = some j → ys[j]? = some z ∧ ∀ m, m < j → ys[m]? ≠ some z
  | [], j, h => by cases h
  | y :: ys, j, h => by
    unfold ixS at h
    split at h
    · rename_i e
      cases h
      exact ⟨by rw [e]; rfl, fun m hm => by omega⟩
    · rename_i e
      cases ej : ixS z ys with
      | none => rw [ej] at h; cases h
      | some i =>
        rw [ej] at h
        cases h
        obtain ⟨h1, h2⟩ := ixS_some ej
        refine ⟨h1, fun m hm => ?_⟩
        cases m with
        | zero => intro q; exact e (by simpa using q)
        | succ m => exact h2 m (Nat.lt_of_succ_lt_succ hm)
theorem allStr_reps {T : Tx} {B H F : Hp} : ∀ {ds : List D} {vs : List V} {g : List Addr} {ys : List Str}, Reps T B H F ds vs g → allStr ds = some ys → vs = ys.map V.str
  | _, _, _, ys, .nil, h => by
    cases (show some [] = some ys from h)
    rfl
  | d :: ds, _, _, ys, .cons r rs e, h => by
    cases d with
    | str z =>
      unfold allStr at h
      cases ea : allStr ds with
      | none => rw [ea] at h; cases h
      | some zs =>
        rw [ea] at h
        cases h
        cases r
        rw [allStr_reps rs ea]
        rfl
    | _ => cases h
def dTix (f g : M D) : M D := bnd f fun x => match x with
  | .tup xs => bnd g fun y => (match allStr xs, y with
    | some ys, .str z => (match ixS z ys with
      | some j => ret (.int (j : Int))
      | none => bad)
    | _, _ => bad)
  | _ => bad
section
variable {X : Cx} {G : Gx} {W : WX} {t1 t2 : List Nat} {o e : Expr} {apos cpos : Pos} {f g : M D}
theorem g_tix (h1 : GE X G W t1 o f) (h2 : GE X G W t2 e g) (hbase : attributeBase o "index" X.env (eval o X.env) = eval o X.env := by rfl)
    (hfew : ((backTo cpos (starEach [e] X.env)).all (fun x => !x.1) && (backToKw cpos (keywordEach [] X.env)).all (fun x => x.1.isSome) && decide ([e].length + ([] : List Keyword).length + (if ([] : List Keyword).isEmpty then 0 else 1) < 30)) = true := by rfl)
    (hline : (apos.endLine == cpos.line) = true := by rfl) (hs : starEach [e] X.env = (false, eval e X.env) :: starEach [] X.env := by rfl) (hplain : (backTo cpos (starEach [] X.env)).any (·.1) = false := by rfl) :
    GE X G W (t1 ++ t2) (.Call (.Attribute o "index" apos) [e] [] cpos) (dTix f g) :=
  pe_mono (pe_tm PySem.F.slot_tuple_index PySem.F.type_tuple_index mt_tup_index h1 (pa_cons h2 pa_nil hs) hbase hfew hline hs hplain) fun σ H Q ⟨B, s, e1, e2, rl, hp⟩ => by
    subst e1 e2
    refine seqE rl hp fun d v s1 g1 _ hs1 r1 tA a1 hp => ?_
    cases d with
    | tup xs =>
      obtain ⟨rp, nd, ap, dj⟩ := tA
      have rp0 := rp
      cases rp with
      | tup st rs =>
        rename_i a vs
        refine ⟨⟨a, vs, rfl, st.mono r1.exF⟩, ?_⟩
        have tA : Tmp (tx X G) B s1.H s1.F s1.φ (.tup xs) (.ref a) g1 := ⟨rp0, nd, ap, dj⟩
        show tD (tx X G) W t2 g s.σ s1.H _
        rw [← hs1]
        refine seqE2 a1 hs1 r1 hp fun d2 v2 s2 g2 _ hs2 r2 tB a2 hp => ?_
        cases ea : allStr xs with
        | none => rw [ea] at hp; exact hp.elim
        | some ys =>
          rw [ea] at hp
          cases d2 with
          | str z =>
            dsimp only at hp
            cases ej : ixS z ys with
            | none => rw [ej] at hp; exact hp.elim
            | some j =>
              rw [ej] at hp
              obtain ⟨h3, h4⟩ := ixS_some ej
              obtain ⟨rp2, _, _, _⟩ := tB
              cases rp2
              have ev := allStr_reps rs ea
              have hok : okE (tx X G) B (t1 ++ t2) s Q (.int (j : Int)) s2.ρ := hp
              refine ⟨a, ys, z, j, rfl, rfl, ?_, h3, h4, hok (.int j) s2 [] rfl (hs2.trans hs1) r2 (Tmp.flat (.int _)) (a1.trans a2).drop0⟩
              have z1 := (st.mono (a2.step.ext)).sq
              rw [ev] at z1
              exact ex_t r2.exF z1
          | _ => exact hp.elim
    | _ => exact hp.elim
end
end Cs
namespace Cs
open PySem L2 Evl PyProof.Rows
def clrAt2 (j : D) (xs : List D) : Option (List D) := (inner j xs).bind fun (n, _) => some (xs.set n (.lst .ow []))
def dClr2 (i : Nat) (fj : M D) : M Flw := bnd (dPk i) fun _ => bnd fj fun j => dMutL i (clrAt2 j)
section
variable {X : Cx} {G : Gx} {W : WX} {t2 : List Nat} {b : Expr} {pos pos2 apos cpos p : Pos} {w : M D} {i : Nat} {x : Str}
end
end Cs
namespace Cs
open PySem L2 Evl PyProof.Rows
section
variable {X : Cx} {a b : Expr} {ta tb : TE} {pos : Pos} {r : L2.St → R2}
end
structure Spc (K : PySem.W.Frag) (C : Addr) (m : Str) (f : Addr) : Prop where
  at_ : PySem.W.findIn K (.ref C) m = some (some (.ref f))
  fn : PySem.W.typeIn K (.ref f) = some (.type "function")
theorem Spc.of {K : PySem.W.Frag} {C f : Addr} {m : Str} (h : Meth K C m f) : Spc K C m f := ⟨h.at_, beq_iff_eq.mp h.fn⟩
section
variable {X : Cx} {C f : Addr} {k : Nat} {fd : FuncData} {ps : List Str} {sp : Sp} {E : L2.St → XK}
end
end Cs
namespace Cs
open PySem L2 Evl PyProof.Rows
def isIns (c : Str) : D → Bool
  | .obj _ c' _ _ => c' == c
  | _ => false
def okC : List (Option Str) → List D → Bool
  | [], _ => true
  | none :: r, _ :: ds => okC r ds
  | some c :: r, d :: ds => isIns c d && okC r ds
  | _ :: _, [] => false
def sw2 {α : Type} : Bool → List α → List α
  | true, [a, b] => [b, a]
  | _, l => l
def dOwn (cks : List (Option Str)) (sw : Bool) (mn : List D → Res) (ars : List Arg) : M D := bnd (dArs ars) fun ods ρ => match argD ρ ars ods with
  | none => .bad
  | some ds => if okC cks ds = true then callD mn (sw2 sw ars) (sw2 sw ods) ρ else .bad
section
variable {T : Tx} {B : Hp} {W : WX}
theorem Its.cut {s : S5} {a : Arg} {r : List Arg} {ods : List (Option D)} {vs : List V} {g : List Addr} (h : Its T B s (a :: r) ods vs g) : ∃ x ods' u vs' g1 g2, ods = x :: ods' ∧ vs = u :: vs' ∧ g = g1 ++ g2 ∧ Its T B s r ods' vs' g2 ∧
    ∀ {r' : List Arg} {ods2 : List (Option D)} {vs2 : List V} {g' : List Addr}, Its T B s r' ods2 vs2 g' → Its T B s (a :: r') (x :: ods2) (u :: vs2) (g1 ++ g') := by
  cases h with
  | v h t => exact ⟨_, _, _, _, _, _, rfl, rfl, rfl, t, fun q => .v h q⟩
  | l h t => exact ⟨_, _, _, _, [], _, rfl, rfl, rfl, t, fun q => .l h q⟩
  | io h t => exact ⟨_, _, _, _, [], _, rfl, rfl, rfl, t, fun q => .io h q⟩
theorem ItsT.sw {s : S5} {ars : List Arg} {ods : List (Option D)} {vs : List V} {g : List Addr} (h : ItsT T B s ars ods vs g) (sw : Bool) (hl : sw = true → ars.length = 2) : ∃ g', ItsT T B s (sw2 sw ars) (sw2 sw ods) (sw2 sw vs) g' ∧ ∀ x, x ∈ g' → x ∈ g := by
  cases sw with
  | false =>
    have e : ∀ {α : Type} (l : List α), sw2 false l = l := fun l => by unfold sw2; split <;> first | rfl | contradiction
    rw [e, e, e]
    exact ⟨g, h, fun _ q => q⟩
  | true =>
    have hl := hl rfl
    match ars, hl with
    | [a, b], _ =>
      obtain ⟨it, nd, ap, dj⟩ := h
      obtain ⟨x, ods', u, vs', g1, g2, rfl, rfl, rfl, it2, k1⟩ := it.cut
      obtain ⟨y, ods2, w, vs2, g3, g4, rfl, rfl, rfl, it3, k2⟩ := it2.cut
      cases it3
      refine ⟨g3 ++ (g1 ++ []), ⟨k2 (k1 .nil), ?_, fun z q => ap z ?_, fun z q => dj z ?_⟩, fun z q => ?_⟩
      · have nd := nd
        simp only [List.append_nil] at nd ⊢
        exact (List.perm_append_comm (l₁ := g1) (l₂ := g3)).nodup_iff.mp nd
      all_goals
        simp only [List.append_nil, List.mem_append] at q ⊢
        exact q.symm
def onlyIf (P : D → Bool) (mn : List D → Res) : List D → Res := fun ds => match mn ds with
  | .ok d os => if P d = true then .ok d os else .bad
  | r => r
def negR (mn : List D → Res) : List D → Res := fun ds => match mn ds with
  | .ok (.bl b) os => .ok (.bl (!b)) os
  | .ok _ _ => .bad
  | r => r
def isBl : D → Bool
  | .bl _ => true
  | _ => false
def isLn : D → Bool
  | .int n => decide (0 ≤ n) && decide (n < 9223372036854775808)
  | _ => false
end
section
variable {X : Cx} {G : Gx} {W : WX} {a b : Expr} {r1 r2 : Arg} {pos p : Pos} {c : Str} {C f : Addr} {k : Nat} {fd : FuncData} {ps : List Str} {mn : List D → Res}
end
end Cs
namespace Cs
open PySem L2 Evl PyProof.Rows
theorem bindsAll {K : PySem.W.Frag} {x qual : Str} {params : Arguments} {body : List Stmt} {scope : Scope} {dvs : List V} {f : Addr} {fd : FuncData} {ps : List Str} (F : FunD K x qual params body scope dvs [] f fd) (n : Nat) (hd : dvs ≠ []) (hn : n = ps.length)
    (h : ∀ (T : Addr) (kV doc pm : Value) (an : Option Addr) (cdv ct : Value) (us its : List Value), us.length = n → its.length = dvs.length →
      ∃ k, bindArgs (PySem.W.fnOf x qual params body scope (.ref T) kV doc pm an cdv ct) ⟨us, []⟩ = seqItems? (.ref T) >>= k ∧ k (some its.toArray) = pure (ps.zip us)) : Binds K fd ps [] := by
  obtain ⟨ds, hv, hb⟩ := F.binds1 (ps := ps) n dvs.length hd (by omega) fun T kV doc pm an cdv ct us its h1 h2 => by
    obtain ⟨k, e1, e2⟩ := h T kV doc pm an cdv ct us its h1 h2
    refine ⟨k, e1, ?_⟩
    rw [e2, ← h2, List.drop_length, List.append_nil]
  rw [List.drop_length] at hv
  cases hv
  exact hb
theorem gs_tc {X : Cx} {G : Gx} {W : WX} {st : Stmt} {f : M Flw} (tc : List Nat) (h : GS X G W tc st f) : GS X G W tc st f := h
end Cs
namespace Cs
open L2
abbrev L1 (o : Fl) (xs : List Int) : D := .lst o (xs.map D.int)
@[simp] theorem allFs_L1 {p : Fl → Bool} {o : Fl} : ∀ {xss : List (List Int)}, allFs p (xss.map (L1 o)) = (xss.isEmpty || p o)
  | [] => rfl
  | x :: xss => by
    rw [List.map_cons, allFs, allFs_L1, allF_l, allFs_ints]
    cases p o <;> simp
@[simp] theorem mapFs_L1 {g : Fl → Fl} {o : Fl} : ∀ {xss : List (List Int)}, mapFs g (xss.map (L1 o)) = xss.map (L1 (g o))
  | [] => by rw [List.map_nil, mapFs]; rfl
  | x :: xss => by rw [List.map_cons, mapFs, mapFs_L1, mapF_l, mapFs_ints]; rfl
theorem mapFs_append {g : Fl → Fl} : ∀ {xs ys : List D}, mapFs g (xs ++ ys) = mapFs g xs ++ mapFs g ys
  | [], ys => by rw [mapFs]; rfl
  | x :: xs, ys => by rw [List.cons_append, mapFs, mapFs, mapFs_append]; rfl
theorem allFs_append {p : Fl → Bool} : ∀ {xs ys : List D}, allFs p (xs ++ ys) = (allFs p xs && allFs p ys)
  | [], ys => by rw [allFs]; rfl
  | x :: xs, ys => by rw [List.cons_append, allFs, allFs, allFs_append, Bool.and_assoc]
theorem atI_ints {cs : List Int} {i : Int} (h0 : 0 ≤ i) (h1 : i < cs.length) : ∃ c, L2.atI (cs.map D.int) i = some (.int c) := by
  obtain ⟨n, rfl⟩ : ∃ n : Nat, i = (n : Int) := ⟨i.toNat, by omega⟩
  have hn : n < cs.length := by omega
  refine ⟨cs[n], ?_⟩
  rw [atI_n, List.getElem?_map, List.getElem?_eq_getElem hn]
  rfl
theorem outs_02 {d : D} {x : Sl} {r : En} (h : allF noBo d = true) : outs [0] 2 (.dt d :: x :: r) = [.dt d, .un] := by
  simp [outs, List.range_succ, h]
def cutI {α : Type} (xs : List α) (lo hi : Option Int) : List α := (xs.drop (HT.sIx xs.length 0 lo)).take (HT.sIx xs.length xs.length hi - HT.sIx xs.length 0 lo)
@[simp] theorem cutD_ints {xs : List Int} {lo hi : Option Int} : cutD (xs.map D.int) lo hi = (cutI xs lo hi).map D.int := by
  unfold cutD cutI
  rw [List.length_map, List.map_take, List.map_drop]
def box (cs : List Int) (at_ big seed : Int) : D := .lst .ow [.lst .fr (cs.map D.int), .int at_, .int big, .int seed]
def BoxP (d : D) : Prop := ∃ cs a b s, d = box cs a b s ∧ 0 ≤ a ∧ 0 ≤ b
theorem BoxP.noBo {d : D} (h : BoxP d) : allF noBo d = true := by
  obtain ⟨cs, a, b, s, rfl, _, _⟩ := h
  simp [box]
end Cs
namespace Cs
open L2
open PySem (Str)
abbrev XK0 := Str → List Str → List D → En → Prop
section
variable {α : Type} {X : XK0} {ρ : En} {p : Fl → Bool} {g : Fl → Fl}
@[simp] theorem allFs_strs : ∀ {zs : List Str}, allFs p (zs.map D.str) = true
  | [] => rfl
  | z :: zs => by rw [List.map_cons, allFs, allFs_strs]; rfl
@[simp] theorem mapF_str {z : Str} : mapF g (.str z) = .str z := by rw [mapF]
@[simp] theorem mapF_bl {b : Bool} : mapF g (.bl b) = .bl b := by rw [mapF]
@[simp] theorem mapF_non : mapF g .non = .non := by rw [mapF]
@[simp] theorem mapF_t {xs : List D} : mapF g (.tup xs) = .tup (mapFs g xs) := by rw [mapF]
@[simp] theorem mapF_o {o : Fl} {c : Str} {ks : List Str} {xs : List D} : mapF g (.obj o c ks xs) = .obj (g o) c ks (mapFs g xs) := by rw [mapF]
@[simp] theorem mapF_d {o : Fl} {ks : List Str} {xs : List D} : mapF g (.dct o ks xs) = .dct (g o) ks (mapFs g xs) := by rw [mapF]
@[simp] theorem allF_o {o : Fl} {c : Str} {ks : List Str} {xs : List D} : allF p (.obj o c ks xs) = (p o && allFs p xs) := by rw [allF]
@[simp] theorem allF_d {o : Fl} {ks : List Str} {xs : List D} : allF p (.dct o ks xs) = (p o && allFs p xs) := by rw [allF]
@[simp] theorem mapFs_strs : ∀ {zs : List Str}, mapFs g (zs.map D.str) = zs.map D.str
  | [] => by rw [List.map_nil, mapFs]
  | z :: zs => by rw [List.map_cons, mapFs, mapFs_strs, mapF_str]
abbrev pr2 (p : Str × Str) : D := .tup [.str p.1, .str p.2]
@[simp] theorem allFs_pr2 : ∀ {ps : List (Str × Str)}, allFs p (ps.map pr2) = true
  | [] => rfl
  | z :: zs => by rw [List.map_cons, allFs, allFs_pr2]; rfl
@[simp] theorem mapFs_pr2 : ∀ {ps : List (Str × Str)}, mapFs g (ps.map pr2) = ps.map pr2
  | [] => by rw [List.map_nil, mapFs]
  | z :: zs => by rw [List.map_cons, mapFs, mapFs_pr2, mapF_t, mapFs, mapFs, mapFs, mapF_str, mapF_str]
@[simp] theorem pLen_t {xs : List D} : pLen (.tup xs) = .sc (.int xs.length) := rfl
@[simp] theorem pLen_s {z : Str} : pLen (.str z) = if z.length ≤ lim then .sc (.int z.length) else .bad := rfl
@[simp] theorem pList_t {xs : List D} : pList (.tup xs) = if allFs noOw xs = true then .nl xs else .bad := rfl
@[simp] theorem pTuple_l {o : Fl} {xs : List D} : pTuple (.lst o xs) = if allFs noOw xs = true then .nt xs else .bad := rfl
@[simp] theorem pTuple_t {xs : List D} : pTuple (.tup xs) = if allFs noOw xs = true then .sc (.tup xs) else .bad := rfl
@[simp] theorem pAdd_s {a b : Str} : pAdd (.str a) (.str b) = if a.length + b.length ≤ lim then .sc (.str (a ++ b)) else .bad := rfl
@[simp] theorem itemsOf_s {z : Str} : itemsOf (.str z) = some (signs z) := rfl
def sgW (o : Option Nat) : PR := match o with
  | some c => .sc (.str ⟨#[c]⟩)
  | none => .bad
@[simp] theorem sgW_some {c : Nat} : sgW (some c) = .sc (.str ⟨#[c]⟩) := rfl
@[simp] theorem pIx_s {z : Str} {i : Int} : pIx (.str z) (.int i) = if z.length ≤ lim then sgW (L2.atI z.cps.toList i) else .bad := rfl
@[simp] theorem dep_str {z : Str} : dep (.str z) = 0 := rfl
@[simp] theorem dep_bl {z : Bool} : dep (.bl z) = 0 := rfl
@[simp] theorem dep_non : dep .non = 0 := rfl
@[simp] theorem dep_tup {xs : List D} : dep (.tup xs) = deps xs + 1 := by rw [dep]
@[simp] theorem deps_nil : deps [] = 0 := rfl
@[simp] theorem deps_cons {x : D} {xs : List D} : deps (x :: xs) = max (dep x) (deps xs) := by rw [deps]
@[simp] theorem deps_strs : ∀ {zs : List Str}, deps (zs.map D.str) = 0
  | [] => rfl
  | z :: zs => by rw [List.map_cons, deps, deps_strs]; rfl
theorem any_strs {z : Str} : ∀ {zs : List Str}, ((zs.map D.str).any fun y => eqD y (.str z)) = decide (z ∈ zs)
  | [] => rfl
  | y :: zs => by
    rw [List.map_cons, List.any_cons, any_strs, eqD_ss]
    by_cases h : y = z
    · subst h; simp
    · have h' : ¬ z = y := fun e => h e.symm
      simp [h, h']
@[simp] theorem pIn_ls {o : Fl} {z : Str} {zs : List Str} : pIn (.str z) (.lst o (zs.map D.str)) = .sc (.bl (decide (z ∈ zs))) := by
  unfold pIn
  dsimp only
  rw [if_pos (by simp), any_strs]
@[simp] theorem pNotIn_ls {o : Fl} {z : Str} {zs : List Str} : pNotIn (.str z) (.lst o (zs.map D.str)) = .sc (.bl (!decide (z ∈ zs))) := by
  unfold pNotIn
  dsimp only
  rw [if_pos (by simp), any_strs]
theorem all_flat : ∀ {zs : List Str}, (zs.map D.str).all flat = true
  | [] => rfl
  | z :: zs => by rw [List.map_cons, List.all_cons, all_flat]; rfl
@[simp] theorem pIn_ts {z : Str} {zs : List Str} : pIn (.str z) (.tup (zs.map D.str)) = .sc (.bl (decide (z ∈ zs))) := by
  unfold pIn
  dsimp only
  rw [if_pos ⟨rfl, all_flat⟩, any_strs]
@[simp] theorem pNotIn_ts {z : Str} {zs : List Str} : pNotIn (.str z) (.tup (zs.map D.str)) = .sc (.bl (!decide (z ∈ zs))) := by
  unfold pNotIn
  dsimp only
  rw [if_pos ⟨rfl, all_flat⟩, any_strs]
@[simp] theorem pNotIn_sg {c : Nat} {z : Str} : pNotIn (.str ⟨#[c]⟩) (.str z) = .sc (.bl (!decide (c ∈ z.cps.toList))) := by
  unfold pNotIn
  dsimp only
  rw [if_pos (show #[c].size = 1 from rfl)]
  rfl
theorem signs_get {z : Str} {k : Nat} {d : D} (h : (signs z)[k]? = some d) : ∃ c, z.cps.toList[k]? = some c ∧ d = .str ⟨#[c]⟩ := by
  unfold signs at h
  rw [List.getElem?_map] at h
  cases e : z.cps.toList[k]? with
  | none => rw [e] at h; cases h
  | some c => rw [e] at h; exact ⟨c, rfl, (Option.some.inj h).symm⟩
@[simp] theorem signs_len {z : Str} : (signs z).length = z.length := by simp [signs, Str.length]
@[simp] theorem cutD_strs {xs : List Str} {lo hi : Option Int} : cutD (xs.map D.str) lo hi = (cutI xs lo hi).map D.str := by
  unfold cutD cutI
  rw [List.length_map, List.map_take, List.map_drop]
@[simp] theorem pShl_i {i j : Int} : pShl (.int i) (.int j) = if 0 ≤ j ∧ j ≤ 1000000 ∧ i.natAbs < 2 ^ 64 then .sc (.int (i * 2 ^ j.toNat)) else .bad := rfl
@[simp] theorem pShr_i {i j : Int} : pShr (.int i) (.int j) = if 0 ≤ j then .sc (.int (i / 2 ^ j.toNat)) else .bad := rfl
@[simp] theorem pBand_i {i j : Int} : pBand (.int i) (.int j) = .sc (.int (PySem.Builtin.bitAnd i j)) := rfl
@[simp] theorem pBor_i {i j : Int} : pBor (.int i) (.int j) = .sc (.int (PySem.Builtin.bitOr i j)) := rfl
@[simp] theorem post_tup {f : M (List D)} {Q : D → En → Prop} : Post Q X (dTup f ρ) = Post (fun ds ρ1 => ds.length ≤ lim ∧ Q (.tup ds) ρ1) X (f ρ) := by
  unfold dTup
  rw [post_bnd]
  congr 1
  funext ds ρ1
  rw [post_ite]
  rfl
def chW (p : PR) (K : Bool → Prop) : Prop := match p with
  | .sc (.bl b) => K b
  | _ => False
@[simp] theorem chW_bl {b : Bool} {K : Bool → Prop} : chW (.sc (.bl b)) K = K b := rfl
@[simp] theorem post_chn {p q : D → D → PR} {f g h : M D} {Q : D → En → Prop} : Post Q X (dChn p q f g h ρ) = Post (fun x ρ1 => Post (fun y ρ2 => chW (p x y) fun b => if b = true then Post (fun z ρ3 => prW (q y z) fun d => Q d ρ3) X (h ρ2) else Q (.bl false) ρ2) X (g ρ1)) X (f ρ) := by
  unfold dChn
  simp only [post_bnd]
  congr 1
  funext x ρ1
  congr 1
  funext y ρ2
  unfold chn
  cases p x y with
  | sc d =>
    cases d with
    | bl b => cases b <;> simp
    | _ => rfl
  | _ => rfl
def opW {α : Type} (o : Option α) (K : α → Prop) : Prop := match o with
  | some d => K d
  | none => False
@[simp] theorem opW_some {α : Type} {d : α} {K : α → Prop} : opW (some d) K = K d := rfl
@[simp] theorem opW_none {α : Type} {K : α → Prop} : opW (none : Option α) K = False := rfl
@[simp] theorem opW_if {α : Type} {c : Prop} [Decidable c] {d : α} {K : α → Prop} : opW (if c then some d else none) K = (c ∧ K d) := by
  by_cases h : c <;> simp [h]
@[simp] theorem post_setF {i : Nat} {c f : Str} {u : M D} {Q : Flw → En → Prop} : Post Q X (dSetF i c f u ρ) = Post (fun d ρ1 => slW (slot i ρ1) fun o => opW (setF c f d o) fun o' => Q .nx (ρ1.set i (.dt o'))) X (u ρ) := by
  unfold dSetF
  rw [post_bnd]
  congr 1
  funext d ρ1
  cases slot i ρ1 with
  | none => rfl
  | some o =>
    dsimp only [slW_some]
    cases setF c f d o <;> rfl
@[simp] theorem setF_o {c f c' : Str} {d : D} {ks : List Str} {ds : List D} : setF c f d (.obj .ow c' ks ds) = if c' = c ∧ ks.length < 900 then some (.obj .ow c (putL f d ks ds).1 (putL f d ks ds).2) else none := rfl
def mkW (r : Res) (K : D → En → Prop) (E : XK0) : Prop := match r with
  | .ok .non (.dt o :: os) => K o os
  | .exc c ks xs (_ :: os) => E c ks xs os
  | _ => False
@[simp] theorem post_make {c : Str} {m : List D → Res} {ars : List Arg} {Q : D → En → Prop} : Post Q X (dMake c m ars ρ) = Post (fun ods ρ1 => argW (argD ρ1 ars ods) fun ds => mkW (m (.obj .ow c [] [] :: ds)) (fun o os => Q o (wb ars os ρ1)) (fun c ks xs os => X c ks xs (wb ars os ρ1))) X (dArs ars ρ) := by
  unfold dMake
  rw [post_bnd]
  congr 1
  funext ods ρ1
  cases argD ρ1 ars ods with
  | none => rfl
  | some ds =>
    dsimp only [argW_some]
    cases m (.obj .ow c [] [] :: ds) with
    | bad => rfl
    | ok d os =>
      cases d <;> first | rfl | skip
      cases os with
      | nil => rfl
      | cons s os => cases s <;> rfl
    | exc c ks xs os => cases os <;> rfl
theorem mkW_of {r : Res} {K : D → En → Prop} {E : XK0} (h : resW r (fun d os => d = .non ∧ ∃ o os', os = .dt o :: os' ∧ K o os') (fun c ks xs os => ∃ s os', os = s :: os' ∧ E c ks xs os')) : mkW r K E := by
  cases r with
  | bad => exact h.elim
  | ok d os =>
    obtain ⟨rfl, o, os', rfl, h⟩ := h
    exact h
  | exc c ks xs os =>
    obtain ⟨s, os', rfl, h⟩ := h
    exact h
@[simp] theorem post_methL {c m : Str} {mn : List D → Res} {i : Nat} {tc : List Nat} {ars : List Arg} {Q : D → En → Prop} : Post Q X (dMeth c m mn (.l i, tc) ars ρ) = slW (slot i ρ) fun d => isObj c m d = true ∧ Post Q X (dCall mn ((.l i, tc) :: ars) ρ) := by
  show Post Q X (match slot i ρ with
    | some d => if isObj c m d = true then dCall mn ((.l i, tc) :: ars) ρ else .bad
    | none => .bad) = _
  cases slot i ρ with
  | none => rfl
  | some d =>
    dsimp only [slW_some]
    by_cases h : isObj c m d = true
    · rw [if_pos h]; simp only [h, true_and]
    · rw [if_neg h]; simp only [h]; simp
@[simp] theorem post_methIO {c m : Str} {mn : List D → Res} {i : Nat} {tc : List Nat} {ars : List Arg} {Q : D → En → Prop} : Post Q X (dMeth c m mn (.io i, tc) ars ρ) = slW (slot i ρ) fun d => isObj c m d = true ∧ Post Q X (dCall mn ((.io i, tc) :: ars) ρ) := by
  show Post Q X (match slot i ρ with
    | some d => if isObj c m d = true then dCall mn ((.io i, tc) :: ars) ρ else .bad
    | none => .bad) = _
  cases slot i ρ with
  | none => rfl
  | some d =>
    dsimp only [slW_some]
    by_cases h : isObj c m d = true
    · rw [if_pos h]; simp only [h, true_and]
    · rw [if_neg h]; simp only [h]; simp
theorem pFld_o {o : Fl} {c f : Str} {ks : List Str} {ds : List D} : pFld c f (.obj o c ks ds) = ixW (look f ks ds) := by
  unfold pFld
  dsimp only
  rw [if_pos rfl]
  rfl
def tuW (d : D) (K : List D → Prop) : Prop := match d with
  | .tup xs => K xs
  | _ => False
@[simp] theorem tuW_t {xs : List D} {K : List D → Prop} : tuW (.tup xs) K = K xs := rfl
@[simp] theorem post_enT {f : M D} {Q : List D → En → Prop} : Post Q X (dEnT f ρ) = Post (fun d ρ1 => tuW (mapF flFrz d) fun xs => Q (numb 0 xs) ρ1) X (f ρ) := by
  unfold dEnT
  rw [post_bnd, post_fz]
  congr 1
  funext d ρ1
  cases mapF flFrz d <;> rfl
theorem post_dc {src : M (List D)} {tg : Tg} {own : List Nat} {cond : M Bool} {key val : M D} {Q : D → En → Prop} : Post Q X (dDc src tg own cond key val ρ) = Post (fun ds ρ1 => noOwAt own ρ1 = true ∧ Post (fun xs ρ2 => Q (.dct .ow xs.1 xs.2) (rst own ρ1 ρ2)) N0 (dcL tg own cond key val ([], []) ds (fgt own ρ1))) X (src ρ) := by
  unfold dDc
  rw [post_bnd]
  congr 1
  funext ds ρ1
  by_cases h : noOwAt own ρ1 = true
  · simp only [h, if_true, true_and]
    cases dcL tg own cond key val ([], []) ds (fgt own ρ1) <;> rfl
  · rw [if_neg h]
    simp only [h]
    simp
def stW (d : D) (K : Str → Prop) : Prop := match d with
  | .str z => K z
  | _ => False
@[simp] theorem stW_s {z : Str} {K : Str → Prop} : stW (.str z) K = K z := rfl
theorem dc_inv {tg : Tg} {own : List Nat} {cond : M Bool} {key val : M D} : ∀ {ds : List D} {acc : List Str × List D} {ρ : En} (I : Nat → List Str × List D → En → Prop), I 0 acc ρ → (∀ k acc d ρ, ds[k]? = some d → I k acc ρ → tgW (dTg tg d ρ) fun ρ1 => Post (fun b ρ2 => if b = true then Post (fun kk ρ3 => stW kk fun z => Post (fun x ρ4 => (acc.1.length < lim ∧ allF noOw x = true) ∧ I (k + 1) (putD z x acc.1 acc.2) (fgt own ρ4)) N0 (val ρ3)) N0 (key ρ2) else I (k + 1) acc (fgt own ρ2)) N0 (cond ρ1)) → Post (fun acc ρ => I ds.length acc ρ) N0 (dcL tg own cond key val acc ds ρ)
  | [], acc, ρ, I, h0, _ => by
    unfold dcL
    exact h0
  | d :: ds, acc, ρ, I, h0, hs => by
    have z := hs 0 acc d ρ rfl h0
    unfold dcL
    cases et : dTg tg d ρ with
    | bad => rw [et] at z; exact z.elim
    | exc c ks xs ρ1 => rw [et] at z; exact z.elim
    | ok fl ρ1 =>
      rw [et] at z
      cases fl with
      | bk => exact z.elim
      | ct => exact z.elim
      | rt r => exact z.elim
      | nx =>
        have z : Post _ N0 (cond ρ1) := z
        dsimp only
        cases eb : cond ρ1 with
        | bad => rw [eb] at z; exact z.elim
        | exc c ks xs ρ2 => rw [eb] at z; exact z.elim
        | ok b ρ2 =>
          rw [eb] at z
          cases b with
          | false => exact dc_inv (fun k => I (k + 1)) z fun k acc d ρ e h => hs (k + 1) acc d ρ e h
          | true =>
            have z : Post _ N0 (key ρ2) := z
            dsimp only
            cases ek : key ρ2 with
            | bad => rw [ek] at z; exact z.elim
            | exc c ks xs ρ3 => rw [ek] at z; exact z.elim
            | ok kk ρ3 =>
              rw [ek] at z
              cases kk with
              | str zz =>
                have z : Post _ N0 (val ρ3) := z
                dsimp only
                cases ee : val ρ3 with
                | bad => rw [ee] at z; exact z.elim
                | exc c ks xs ρ4 => rw [ee] at z; exact z.elim
                | ok x ρ4 =>
                  rw [ee] at z
                  dsimp only
                  rw [if_pos z.1]
                  exact dc_inv (fun k => I (k + 1)) z.2 fun k acc d ρ e h => hs (k + 1) acc d ρ e h
              | _ => exact z.elim
theorem post_forL_nil {tg : Tg} {fg : List Nat} {body : M Flw} {Q : Flw → En → Prop} : Post Q X (forL tg fg body [] ρ) = Q .nx ρ := by
  unfold forL
  rfl
theorem post_forL_cons {tg : Tg} {fg : List Nat} {body : M Flw} {Q : Flw → En → Prop} {d : D} {ds : List D} : Post Q X (forL tg fg body (d :: ds) ρ) = tgW (dTg tg d ρ) (fun ρ1 => Post (forK (fun ρ2 => Post Q X (forL tg fg body ds ρ2)) Q fg) X (body ρ1)) := by
  rw [forL]
  dsimp only
  cases dTg tg d ρ with
  | bad => rfl
  | exc c ks xs ρ1 => rfl
  | ok fl ρ1 =>
    cases fl with
    | bk => rfl
    | ct => rfl
    | rt r => rfl
    | nx =>
      dsimp only
      show _ = Post _ X (body ρ1)
      cases body ρ1 with
      | bad => rfl
      | exc c ks xs ρ2 => rfl
      | ok fl ρ2 => cases fl <;> rfl
@[simp] theorem post_clr2 {i : Nat} {fj : M D} {Q : Flw → En → Prop} : Post Q X (dClr2 i fj ρ) = slW (slot i ρ) fun _ => Post (fun j ρ1 => mlW (slotL i ρ1) fun xs => mlW (clrAt2 j xs) fun ys => Q .nx (ρ1.set i (.dt (.lst .ow ys)))) X (fj ρ) := by
  unfold dClr2
  simp
@[simp] theorem pDix_d {o : Fl} {ks : List Str} {ds : List D} {k : Str} : pDix (.dct o ks ds) (.str k) = ixW (look k ks ds) := rfl
end
end Cs
namespace Cs
open PySem L2 Evl PyProof.Rows
section
variable {X : Str → List Str → List D → En → Prop} {ρ : En}
@[simp] theorem post_own {cks : List (Option Str)} {sw : Bool} {m : List D → Res} {ars : List Arg} {Q : D → En → Prop} : Post Q X (dOwn cks sw m ars ρ) = Post (fun ods ρ1 => argW (argD ρ1 ars ods) fun ds => okC cks ds = true ∧ argW (argD ρ1 (sw2 sw ars) (sw2 sw ods)) fun ds' => resW (m ds') (fun d os => Q d (wb (sw2 sw ars) os ρ1)) (fun c ks xs os => X c ks xs (wb (sw2 sw ars) os ρ1))) X (dArs ars ρ) := by
  unfold dOwn
  rw [post_bnd]
  congr 1
  funext ods ρ1
  cases argD ρ1 ars ods with
  | none => rfl
  | some ds =>
    dsimp only [argW_some]
    by_cases h : okC cks ds = true
    · rw [if_pos h]
      unfold callD
      cases argD ρ1 (sw2 sw ars) (sw2 sw ods) with
      | none => simp [h]; exact fun z => z
      | some ds' =>
        dsimp only [argW_some]
        cases m ds' <;> simp [h] <;> first | rfl | exact fun z => z
    · rw [if_neg h]
      simp [h]
@[simp] theorem sw2_f {α : Type} {l : List α} : sw2 false l = l := by unfold sw2; split <;> first | rfl | contradiction
@[simp] theorem sw2_t {α : Type} {a b : α} : sw2 true [a, b] = [b, a] := rfl
@[simp] theorem okC_0 {ds : List D} : okC [] ds = true := by unfold okC; rfl
@[simp] theorem okC_n {r : List (Option Str)} {d : D} {ds : List D} : okC (none :: r) (d :: ds) = okC r ds := by rw [okC]
@[simp] theorem okC_s {c : Str} {r : List (Option Str)} {d : D} {ds : List D} : okC (some c :: r) (d :: ds) = (isIns c d && okC r ds) := by rw [okC]
@[simp] theorem isIns_o {o : Fl} {c : Str} {ks : List Str} {ds : List D} : isIns c (.obj o c ks ds) = true := by simp [isIns]
@[simp] theorem resW_only {P : D → Bool} {m : List D → Res} {ds : List D} {K : D → En → Prop} : resW (onlyIf P m ds) K X = resW (m ds) (fun d os => P d = true ∧ K d os) X := by
  unfold onlyIf
  cases m ds with
  | ok d os =>
    dsimp only
    by_cases h : P d = true
    · rw [if_pos h]; simp [h]
    · rw [if_neg h]; simp [h]; exact fun z => z
  | exc c ks xs os => rfl
  | bad => rfl
def notW (d : D) (K : D → Prop) : Prop := match d with
  | .bl b => K (.bl (!b))
  | _ => False
@[simp] theorem notW_b {b : Bool} {K : D → Prop} : notW (.bl b) K = K (.bl (!b)) := rfl
@[simp] theorem resW_neg {m : List D → Res} {ds : List D} {K : D → En → Prop} : resW (negR m ds) K X = resW (m ds) (fun d os => notW d fun e => K e os) X := by
  unfold negR
  cases m ds with
  | ok d os => cases d <;> rfl
  | exc c ks xs os => rfl
  | bad => rfl
@[simp] theorem isBl_b {b : Bool} : isBl (.bl b) = true := rfl
@[simp] theorem isLn_n {n : Nat} : isLn (.int (n : Int)) = decide (n < 9223372036854775808) := by
  unfold isLn
  have : (0 : Int) ≤ (n : Int) := by omega
  simp [this]
  omega
end
end Cs
namespace Cs
open PySem L2 Evl PyProof.Rows
def dForO (i j : Nat) (fg : List Nat) (body : M Flw) : M Flw := fun ρ => match slotL i ρ with
  | some xs => forL (.one j) fg body xs (ρ.set i .un)
  | none => .bad
section
variable {T : Tx} {B : Hp} {tc : List Nat} {s s1 : S5}
theorem Goes.putK {i : Nat} {d : D} {v : V} {g g2 : List Addr} (a : Goes tc s s1 (g ++ g2)) : Goes (tc ++ [i, i + 1000]) s (s1.put i v d g) g2 := by
  have z : Goes (tc ++ [i, i + 1000]) s (s1.put i v d g) [] := Goes.put (a.less fun c h => List.mem_append.mpr (.inl h))
  refine ⟨a.step.drop fun x q => ?_, z.fix, z.sg⟩
  rcases q with ⟨j, q⟩ | q
  · dsimp only at q
    split at q
    · exact .inr (List.mem_append.mpr (.inl q))
    · exact .inl ⟨j, q⟩
  · exact .inr (List.mem_append.mpr (.inr q))
end
section
variable {X : Cx} {G : Gx} {W : WX} {tb : List Nat} {tge : Expr} {pos p : Pos} {body : List Stmt} {f : M Flw} {i j : Nat} {x : Str}
@[simp] theorem post_forO {i j : Nat} {fg : List Nat} {body : M Flw} {Q : Flw → En → Prop} {X : Str → List Str → List D → En → Prop} {ρ : En} : Post Q X (dForO i j fg body ρ) = mlW (slotL i ρ) fun xs => Post Q X (forL (.one j) fg body xs (ρ.set i .un)) := by
  unfold dForO
  cases slotL i ρ <;> rfl
end
end Cs
namespace Cs
open PySem L2 Evl PyProof.Rows
section
variable {X : Cx} {G : Gx} {W : WX} {i : Nat} {x : Str} {p apos cpos pos : Pos}
end
section
variable {Q : Flw → En → Prop} {X : Str → List Str → List D → En → Prop} {ρ : En} {i : Nat}
@[simp] theorem post_rev : Post Q X (dRev i ρ) = mlW (slotL i ρ) fun xs => allFs noOw xs = true ∧ Q .nx (ρ.set i (.dt (.lst .ow xs.reverse))) := by
  unfold dRev
  rw [post_mutL]
  congr 1
  funext xs
  by_cases h : allFs noOw xs = true <;> simp [h]
@[simp] theorem post_clr : Post Q X (dClr i ρ) = mlW (slotL i ρ) fun xs => Q .nx (ρ.set i (.dt (.lst .ow []))) := by
  unfold dClr
  rw [post_mutL]
  rfl
def extW (d : D) (K : Fl → List D → Prop) : Prop := match d with
  | .lst o ys => K o ys
  | _ => False
@[simp] theorem extW_l {o : Fl} {ys : List D} {K : Fl → List D → Prop} : extW (.lst o ys) K = K o ys := rfl
@[simp] theorem post_ext {f : M D} : Post Q X (dExt i f ρ) = mlW (slotL i ρ) fun _ => Post (fun d ρ1 => mlW (slotL i ρ1) fun xs => extW d fun o ys => ((o ≠ .ro ∧ allFs noOw ys = true) ∧ xs.length + ys.length ≤ lim) ∧ Q .nx (ρ1.set i (.dt (.lst .ow (xs ++ ys))))) X (f ρ) := by
  unfold dExt
  simp only [post_isL, post_bnd, post_mutL]
  congr 1
  funext _
  congr 1
  funext d ρ1
  congr 1
  funext xs
  cases d with
  | lst o ys =>
    dsimp only [extW_l]
    by_cases h : (o ≠ .ro ∧ allFs noOw ys = true) ∧ xs.length + ys.length ≤ lim
    · rw [if_pos h]; simp [h]
    · rw [if_neg h]; simp only [h]; simp
  | _ => rfl
end
end Cs
namespace Cs
open PySem L2 Evl PyProof.Rows
section
variable {T : Tx} {W : WX}
end
section
variable {X : Cx} {G : Gx} {W : WX} {a e : Expr} {es : List Expr} {pos p apos : Pos}
end
end Cs
namespace Cs
open PySem L2 Evl PyProof.Rows
section
variable {CX : CXT} {P : Program} {w : World} {K : PySem.W.Frag} {mg : Str → Option Value} {base : Heap} {k : Nat} {f : Addr} {name qual : Str} {params : Arguments} {body : List Stmt} {scope : Scope} {dV kV doc pm cdv ct oc : Value} {an od : Option Addr}
  {osl : Array (Option Value)} {N ps : List Str} {sp : Sp}
end
end Cs
namespace Cs
open PySem L2 Evl PyProof.Rows
section
variable {T : Tx} {B : Hp}
end
end Cs
namespace Cs
open PySem L2 Evl PyProof.Rows
section
variable {X : Cx} {G : Gx} {W : WX} {tc : List Nat} {a e : Expr} {es : List Expr} {pos p apos sp_ : Pos}
end
end Cs
namespace Cs
open PySem L2 Evl PyProof.Rows
def fix (f : Str) : List Str → Option Nat
  | [] => none
  | k :: ks => if f == k then some 0 else (fix f ks).map (· + 1)
def fldL (c f : Str) : D → Option (Nat × List D)
  | .obj .ow c' ks ds => if c' = c then (fix f ks).bind fun n => (match ds[n]? with
    | some (.lst .ow ys) => if allFs noOw ys = true then some (n, ys) else none
    | _ => none) else none
  | _ => none
def appF (c f : Str) (d : D) : D → Option D
  | .obj .ow c' ks ds => (fldL c f (.obj .ow c' ks ds)).bind fun (n, ys) => if ys.length < lim ∧ allF noOw d = true then some (.obj .ow c' ks (ds.set n (.lst .ow (ys ++ [d])))) else none
  | _ => none
def dAppF (i : Nat) (c f : Str) (u : M D) : M Flw := fun ρ => match (slot i ρ).bind (fldL c f) with
  | none => .bad
  | some _ => bnd (dFz u) (fun d ρ1 => match (slot i ρ1).bind (appF c f d) with
    | some o => .ok .nx (ρ1.set i (.dt o))
    | none => .bad) ρ
section
variable {X : Cx} {G : Gx} {W : WX} {tc t1 : List Nat} {a e : Expr} {pos pos2 apos cpos p : Pos} {u : M D} {i : Nat} {x : Str}
def augF (c f : Str) (d : D) : D → Option D
  | .obj .ow c' ks ds => if c' = c ∧ ks.length < 900 then (match look f ks ds, d with
    | some (.int i), .int j => some (.obj .ow c' (putL f (.int (i + j)) ks ds).1 (putL f (.int (i + j)) ks ds).2)
    | _, _ => none) else none
  | _ => none
def dAugC (i : Nat) (c f : Str) (j : Int) : M Flw := fun ρ => match (slot i ρ).bind (augF c f (.int j)) with
  | some o => .ok .nx (ρ.set i (.dt o))
  | none => .bad
def noX (m : List D → Res) : List D → Res := fun ds => match m ds with
  | .exc _ _ _ _ => .bad
  | r => r
end
end Cs
namespace Cs
open PySem L2 Evl PyProof.Rows
section
variable {X : Cx} {G : Gx} {W : WX} {p : Pos}
end
section
variable {Q : Flw → En → Prop} {X : XK0} {ρ : En} {i : Nat}
@[simp] theorem post_appF {c f : Str} {u : M D} : Post Q X (dAppF i c f u ρ) = opW ((slot i ρ).bind (fldL c f)) fun _ => Post (fun d ρ1 => opW ((slot i ρ1).bind (appF c f (mapF flFrz d))) fun o => Q .nx (ρ1.set i (.dt o))) X (u ρ) := by
  unfold dAppF
  cases (slot i ρ).bind (fldL c f) with
  | none => rfl
  | some n =>
    dsimp only [opW_some]
    rw [post_bnd, post_fz]
    congr 1
    funext d ρ1
    cases (slot i ρ1).bind (appF c f (mapF flFrz d)) <;> rfl
@[simp] theorem post_augC {c f : Str} {j : Int} : Post Q X (dAugC i c f j ρ) = opW ((slot i ρ).bind (augF c f (.int j))) fun o => Q .nx (ρ.set i (.dt o)) := by
  unfold dAugC
  cases (slot i ρ).bind (augF c f (.int j)) <;> rfl
@[simp] theorem resW_noX {m : List D → Res} {ds : List D} {K : D → En → Prop} : resW (noX m ds) K X = resW (m ds) K N0 := by
  unfold noX
  cases m ds <;> rfl
end
end Cs
namespace Cs
open PySem L2 Evl PyProof.Rows
section
variable {X : Cx} {G : Gx} {W : WX} {t1 tt te to : List Nat} {src : M (List D)} {cond : M Bool} {elt : M D} {tg : Tg} {eltE tgE iter : Expr} {ifs : List Expr} {scope : Scope} {own : List (Str × Nat)} {pos : Pos}
theorem gs_setLcL {i k : Nat} {y : Str} {py spos : Pos} (hc : X.calm = true) (hN : X.N.Nodup) (hy : X.N[i]? = some y) (hyl : X.env.scope.names.lookup y = some .local) (hsw : swapsWith (.ListComp eltE [⟨tgE, iter, ifs, 0⟩] scope pos) (some (.Name y py)) spos.line X.env = pure true) (hi : GI X G W t1 tgE iter src) (ok : BlkOk X.N X.env.scope scope own) (hg : blkT X scope fun Y => PG Y tgE (tgR X.K tg)) (ht : blkT X scope fun Y => GTs Y G W0 tt ifs cond) (he : blkT X scope fun Y => GE Y G W0 te eltE elt)
    (htg : ∀ x ∈ tg.tc, 1000 ≤ x → x - 1000 ∈ own.map (·.2) := by decide) (hsub : ∀ j ∈ tg.tc ++ (tt ++ te), j ∈ to ∨ j ∈ own.map (·.2) := by decide) (hk : k ∉ t1 ++ to := by decide) (hk2 : k + 1000 ∉ t1 ++ to := by decide) (hs : ∀ x, foldedSetIterable iter X.env x = pure x := by intro _; rfl) :
    GS X G W ((t1 ++ to) ++ [i, i + 1000]) (.Assign [.Name y py] (.ListComp eltE [⟨tgE, iter, ifs, 0⟩] scope pos) spos) (dAsg i (dLend k (t1 ++ to) (dLc src tg (own.map (·.2)) cond elt))) :=
  ps_mono (ps_setLc hc hN hy hyl hsw hi ok hg ht he hs) fun E σ H h => by
    obtain z := asg_core (T := tx X G) h
    exact cmp_core (T := tx X G) htg hsub (lendE_core hk hk2 z)
end
end Cs
namespace Cs
open PySem L2 Evl PyProof.Rows
def pInD : D → D → PR
  | .str z, .dct _ ks _ => .sc (.bl (decide (z ∈ ks)))
  | _, _ => .bad
def pNotInD : D → D → PR
  | .str z, .dct _ ks _ => .sc (.bl (!decide (z ∈ ks)))
  | _, _ => .bad
section
variable {X : Cx} {G : Gx} {W : WX} {t1 t2 : List Nat} {a b : Expr} {pos pos' p : Pos} {o1 o2 : Opd}
end
def putS (k d : D) : D → Option D
  | .dct .ow ks ds => (match k with
    | .str z => if ks.length < lim ∧ allFs noOw ds = true then some (.dct .ow (putD z d ks ds).1 (putD z d ks ds).2) else none
    | _ => none)
  | _ => none
def dMutD (i : Nat) (k d : D) : M Flw := fun ρ => match (slot i ρ).bind (putS k d) with
  | some o => .ok .nx (ρ.set i (.dt o))
  | none => .bad
def dDPut (i : Nat) (fk fe : M D) : M Flw := bnd (dFz fe) fun d => bnd (dPk i) fun _ => bnd fk fun k => dMutD i k d
section
variable {T : Tx} {W : WX} {t1 t2 : List Nat} {u w : M D} {i : Nat} {σ : L2.St} {H : Hp} {E : Ends}
end
section
variable {X : Cx} {G : Gx} {W : WX} {t1 t2 : List Nat} {a b : Expr} {x : Str} {pos pos' p : Pos} {i : Nat} {u w : M D}
end
def getN (k : D) : D → Option D
  | .dct _ ks ds => (match k with
    | .str z => (match look z ks ds with
      | some x => if allF noOw x = true then some x else none
      | none => some .non)
    | _ => none)
  | _ => none
def isDct : D → Bool
  | .dct _ _ _ => true
  | _ => false
def dGetN (i : Nat) (w : M D) : M D := bnd (dPk i) fun d0 => if isDct d0 = true then bnd w fun k ρ1 => (match (slot i ρ1).bind (getN k) with
  | some d => .ok d ρ1
  | none => .bad) else bad
section
variable {T : Tx} {W : WX} {t1 t2 : List Nat} {u w : M D} {i : Nat} {σ : L2.St} {H : Hp} {Q : VK}
end
def dDisp1 (fk fv : M D) : M D := bnd fk fun k => bnd (dFz fv) fun d => match k with
  | .str z => ret (.dct .ow [z] [d])
  | _ => bad
section
variable {T : Tx} {W : WX} {t1 t2 : List Nat} {u w : M D} {σ : L2.St} {H : Hp} {Q : VK}
end
section
variable {X : Cx} {G : Gx} {W : WX} {t1 t2 : List Nat} {a b : Expr} {x : Str} {pos p apos : Pos} {i n : Nat} {pn : Pos} {u w : M D}
end
end Cs
namespace Cs
open PySem L2 Evl PyProof.Rows
def allInt : List D → Option (List Int)
  | [] => some []
  | .int i :: xs => (allInt xs).map (i :: ·)
  | _ :: _ => none
theorem allInt_ints : ∀ {ns : List Int}, allInt (ns.map D.int) = some ns
  | [] => rfl
  | n :: ns => by rw [List.map_cons, allInt, allInt_ints]; rfl
def insI (i : Int) : List Int → List Int
  | [] => [i]
  | j :: js => if i ≤ j then i :: j :: js else j :: insI i js
def srtI : List Int → List Int
  | [] => []
  | i :: is => insI i (srtI is)
def pSort : D → PR
  | .lst _ xs => (match allInt xs with
    | some ns => .nl ((srtI ns).map D.int)
    | none => .bad)
  | _ => .bad
section
variable {X : Cx} {G : Gx} {W : WX} {tc : List Nat} {a : Expr} {o : Opd} {pos p : Pos}
end
@[simp] theorem pSort_i {o : Fl} {ns : List Int} : pSort (.lst o (ns.map D.int)) = .nl ((srtI ns).map D.int) := by
  unfold pSort
  dsimp only
  rw [allInt_ints]
end Cs
namespace Cs
open PySem L2 Evl PyProof.Rows
section
open PySem.W
variable {CX : CXT} {P : Program} {w : World} {K : PySem.W.Frag} {mg : Str → Option Value} {base : Heap} {N : List Str} {qual sv m : Str} {scope : Scope} {f cda cc Dc C g : Addr} {A : Around} {outer : List Env} {s0 : Shared} {H0 : Hp} {E0 : XK} {E : L2.St → XK} {fd fdg : FuncData} {L : Addr}
end
section
variable {CX : CXT} {P : Program} {w : World} {K : PySem.W.Frag} {mg : Str → Option Value} {base : Heap} {N : List Str} {qual sv m c : Str} {scope : Scope} {f cda cc Dc C g : Addr} {A : Around} {outer : List Env} {s0 : Shared} {H0 : Hp} {E0 : XK} {fd fdg : FuncData} {L : Addr} {G : Gx} {W : WX}
end
structure FunK (K : PySem.W.Frag) (x qual : Str) (st : Stmt) (f : Addr) (fd : FuncData) (cda cc : Addr) : Prop where
  ex : ∃ (oc : Value) (od : Option Addr) (kV doc pm : Value) (an : Option Addr) (ct : Value) (osl : Array (Option Value)),
    fd = PySem.W.ksFn x qual (defArgs st) (defBody st) (defScope st) .none kV doc pm an (.ref cda) ct cc ∧ K.lookup f = some ⟨oc, od, .func fd, osl⟩ ∧ PySem.W.codeIn K (.ref cda) qual = true
  kp : PySem.W.keepIn K (.ref f) = true
end Cs
namespace Cs
open PySem L2 Evl PyProof.Rows
def dBad : M Flw := fun _ => .bad
@[simp] theorem post_dbad {Q : Flw → En → Prop} {X : XK0} {ρ : En} : Post Q X (dBad ρ) = False := rfl
theorem FunK.binds {K : PySem.W.Frag} {x qual : Str} {st : Stmt} {f cda cc : Addr} {fd : FuncData} {ps : List Str} (F : FunK K x qual st f fd cda cc)
    (h : ∀ (kV doc pm : Value) (an : Option Addr) (ct : Value) (us : List Value), us.length = ps.length → bindArgs (PySem.W.ksFn x qual (defArgs st) (defBody st) (defScope st) .none kV doc pm an (.ref cda) ct cc) ⟨us, []⟩ = pure (ps.zip us)) : L2.Binds K fd ps [] := by
  obtain ⟨oc, od, kV, doc, pm, an, ct, osl, rfl, lk, hcd⟩ := F.ex
  exact .all (h kV doc pm an ct)
end Cs
namespace Cs
open PySem L2 Evl PyProof.Rows
section
variable {X : XK0} {ρ : En} {i : Nat} {w u : M D}
def strW (d : D) (K : Str → Prop) : Prop := match d with
  | .str z => K z
  | _ => False
@[simp] theorem strW_s {z : Str} {K : Str → Prop} : strW (.str z) K = K z := rfl
@[simp] theorem post_disp1 {Q : D → En → Prop} : Post Q X (dDisp1 w u ρ) = Post (fun k ρ1 => Post (fun d ρ2 => strW k fun z => Q (.dct .ow [z] [mapF flFrz d]) ρ2) X (u ρ1)) X (w ρ) := by
  unfold dDisp1
  rw [post_bnd]
  congr 1
  funext k ρ1
  rw [post_bnd, post_fz]
  congr 1
  funext d ρ2
  cases k <;> rfl
theorem post_dpk {α : Type} {k : D → M α} {Q : α → En → Prop} : Post Q X (bnd (dPk i) k ρ) = slW (slot i ρ) fun d => Post Q X (k d ρ) := by
  rw [post_bnd]
  unfold dPk
  cases slot i ρ <;> rfl
@[simp] theorem post_dput {Q : Flw → En → Prop} : Post Q X (dDPut i w u ρ) = Post (fun d ρ1 => slW (slot i ρ1) fun _ => Post (fun k ρ2 => opW ((slot i ρ2).bind (putS k (mapF flFrz d))) fun o => Q .nx (ρ2.set i (.dt o))) X (w ρ1)) X (u ρ) := by
  unfold dDPut
  rw [post_bnd, post_fz]
  congr 1
  funext d ρ1
  rw [post_dpk]
  congr 1
  funext d0
  rw [post_bnd]
  congr 1
  funext k ρ2
  unfold dMutD
  cases (slot i ρ2).bind (putS k (mapF flFrz d)) <;> rfl
@[simp] theorem post_getN {Q : D → En → Prop} : Post Q X (dGetN i w ρ) = slW (slot i ρ) fun d0 => isDct d0 = true ∧ Post (fun k ρ1 => opW ((slot i ρ1).bind (getN k)) fun d => Q d ρ1) X (w ρ) := by
  unfold dGetN
  rw [post_dpk]
  congr 1
  funext d0
  by_cases h : isDct d0 = true
  · rw [if_pos h, post_bnd]
    simp only [h, true_and]
    congr 1
    funext k ρ1
    cases (slot i ρ1).bind (getN k) <;> rfl
  · rw [if_neg h]
    exact propext ⟨fun z => z.elim, fun z => absurd z.1 h⟩
@[simp] theorem pInD_s {o : Fl} {z : Str} {ks : List Str} {ds : List D} : pInD (.str z) (.dct o ks ds) = .sc (.bl (decide (z ∈ ks))) := rfl
@[simp] theorem pNotInD_s {o : Fl} {z : Str} {ks : List Str} {ds : List D} : pNotInD (.str z) (.dct o ks ds) = .sc (.bl (!decide (z ∈ ks))) := rfl
@[simp] theorem putS_s {z : Str} {d : D} {ks : List Str} {ds : List D} : putS (.str z) d (.dct .ow ks ds) = if ks.length < lim ∧ allFs noOw ds = true then some (.dct .ow (putD z d ks ds).1 (putD z d ks ds).2) else none := rfl
@[simp] theorem isDct_d {o : Fl} {ks : List Str} {ds : List D} : isDct (.dct o ks ds) = true := rfl
end
end Cs
namespace Cs
open PySem L2 Evl PyProof.Rows
theorem map_get {α : Type} {f : α → D} {xs : List α} {k : Nat} {d : D} (h : (xs.map f)[k]? = some d) : ∃ x, xs[k]? = some x ∧ d = f x := by
  rw [List.getElem?_map] at h
  cases e : xs[k]? with
  | none => rw [e] at h; cases h
  | some x => rw [e] at h; exact ⟨x, rfl, (Option.some.inj h).symm⟩
theorem take_snoc {α : Type} {xs : List α} {k : Nat} {x : α} (h : xs[k]? = some x) : xs.take (k + 1) = xs.take k ++ [x] := by
  rw [List.take_succ, h]
  rfl
theorem lc_filt {α : Type} {tg : Tg} {own : List Nat} {cond : M Bool} {elt : M D} {xs : List α} {f : α → D} {A : En} (p : α → Bool) (g : α → D) (hl : xs.length ≤ lim)
    (hs : ∀ x, x ∈ xs → tgW (dTg tg (f x) A) fun ρ1 => Post (fun b ρ2 => b = p x ∧ if b = true then Post (fun e ρ3 => e = g x ∧ fgt own ρ3 = A) N0 (elt ρ2) else fgt own ρ2 = A) N0 (cond ρ1)) :
    Post (fun acc ρ => acc = (xs.filter p).map g ∧ ρ = A) N0 (lcL tg own cond elt [] (xs.map f) A) := by
  refine (lc_inv (fun k acc ρ => acc = ((xs.take k).filter p).map g ∧ ρ = A) ⟨by simp, rfl⟩ ?_).imp (fun acc ρ h => ?_) fun _ _ _ _ h => h
  · rintro k acc d ρ hk ⟨rfl, rfl⟩
    obtain ⟨x, hx, rfl⟩ := map_get hk
    have z := hs x (List.mem_of_getElem? hx)
    have hlt : k < xs.length := (List.getElem?_eq_some_iff.mp hx).1
    have hfl : ((xs.take k).filter p).length ≤ k := by
      have h1 := List.length_filter_le p (xs.take k)
      rw [List.length_take] at h1
      omega
    rw [take_snoc hx, List.filter_append]
    generalize (xs.take k).filter p = fl at *
    revert z
    generalize dTg tg (f x) ρ = o
    intro z
    cases o with
    | bad => exact z.elim
    | exc c ks xs ρ1 => exact z.elim
    | ok fl2 ρ1 =>
      cases fl2 with
      | bk => exact z.elim
      | ct => exact z.elim
      | rt r => exact z.elim
      | nx =>
        refine Post.imp (show Post _ N0 (cond ρ1) from z) (fun b ρ2 ⟨e, h⟩ => ?_) fun _ _ _ _ h => h
        cases b with
        | true =>
          rw [if_pos rfl] at h ⊢
          refine h.imp (fun e2 ρ3 ⟨e3, e4⟩ => ⟨by rw [List.length_map]; omega, ?_, e4⟩) fun _ _ _ _ h => h
          subst e3
          rw [List.map_append, List.filter_cons, ← e]
          simp
        | false =>
          rw [if_neg Bool.false_ne_true] at h ⊢
          refine ⟨?_, h⟩
          rw [List.filter_cons, ← e]
          simp
  · rw [List.length_map, List.take_length] at h
    exact h
theorem lc_maps {α : Type} {tg : Tg} {own : List Nat} {cond : M Bool} {elt : M D} {xs : List α} {f : α → D} {A : En} (g : α → D) (hl : xs.length ≤ lim)
    (hs : ∀ x, x ∈ xs → tgW (dTg tg (f x) A) fun ρ1 => Post (fun b ρ2 => b = true ∧ Post (fun e ρ3 => e = g x ∧ fgt own ρ3 = A) N0 (elt ρ2)) N0 (cond ρ1)) :
    Post (fun acc ρ => acc = xs.map g ∧ ρ = A) N0 (lcL tg own cond elt [] (xs.map f) A) := by
  refine (lc_filt (fun _ => true) g hl fun x hx => ?_).imp (fun acc ρ h => ?_) fun _ _ _ _ h => h
  · have z := hs x hx
    revert z
    generalize dTg tg (f x) A = o
    intro z
    cases o with
    | bad => exact z.elim
    | exc c ks xs ρ1 => exact z.elim
    | ok fl2 ρ1 =>
      cases fl2 with
      | bk => exact z.elim
      | ct => exact z.elim
      | rt r => exact z.elim
      | nx =>
        refine Post.imp (show Post _ N0 (cond ρ1) from z) (fun b ρ2 ⟨e, h⟩ => ⟨e, ?_⟩) fun _ _ _ _ h => h
        rw [e, if_pos rfl]
        exact h
  · rw [List.filter_eq_self.mpr (fun _ _ => rfl)] at h
    exact h
theorem for_scan {α : Type} {X : XK0} {Q : Flw → En → Prop} {tg : Tg} {fg : List Nat} {body : M Flw} {xs : List α} {f : α → D} {ρ : En} (bad : α → Bool) (I : En → Prop) (h0 : I ρ)
    (hs : ∀ x ρ, x ∈ xs → I ρ → tgW (dTg tg (f x) ρ) fun ρ1 => Post (forK (fun ρ2 => bad x = false ∧ I ρ2) Q fg) X (body ρ1))
    (hd : ∀ ρ, xs.any bad = false → I ρ → Q .nx ρ) : Post Q X (forL tg fg body (xs.map f) ρ) := by
  refine for_inv (fun k ρ => (xs.take k).any bad = false ∧ I ρ) ⟨by simp, h0⟩ ?_ fun ρ h => hd ρ (by have := h.1; rwa [List.length_map, List.take_length] at this) h.2
  rintro k d ρ hk ⟨hb, hi⟩
  obtain ⟨x, hx, rfl⟩ := map_get hk
  have z := hs x ρ (List.mem_of_getElem? hx) hi
  rw [take_snoc hx, List.any_append, hb]
  have e : (fun ρ2 : En => bad x = false ∧ I ρ2) = fun ρ2 => ((false || [x].any bad) = false ∧ I ρ2) := by
    funext ρ2
    simp
  rw [e] at z
  exact z
@[simp] theorem mapFs_nats {g : Fl → Fl} : ∀ {xs : List Nat}, mapFs g (xs.map fun i : Nat => D.int (i : Int)) = xs.map fun i : Nat => D.int (i : Int)
  | [] => by rw [List.map_nil, mapFs]
  | z :: zs => by rw [List.map_cons, mapFs, mapFs_nats]; rfl
@[simp] theorem allFs_nats {p : Fl → Bool} : ∀ {xs : List Nat}, allFs p (xs.map fun i : Nat => D.int (i : Int)) = true
  | [] => rfl
  | z :: zs => by rw [List.map_cons, allFs, allFs_nats]; rfl
theorem rng_map {n : Nat} : rng 0 n = (List.range n).map fun (k : Nat) => D.int (k : Int) := by
  unfold rng
  apply List.map_congr_left
  intro k _
  simp
@[simp] theorem post_rg2 {X : XK0} {ρ : En} {f g : M D} {Q : List D → En → Prop} : Post Q X (dRg2 f g ρ) = Post (fun d ρ1 => Post (fun e ρ2 => intW d fun i => intW e fun j => ((-1000000 ≤ i ∧ i ≤ 1000000) ∧ (-1000000 ≤ j ∧ j ≤ 1000000)) ∧ Q (rng i (j - i).toNat) ρ2) X (g ρ1)) X (f ρ) := by
  unfold dRg2
  rw [post_bnd]
  congr 1
  funext d ρ1
  rw [post_bnd]
  congr 1
  funext e ρ2
  cases d with
  | int i =>
    cases e with
    | int j =>
      show Post Q X ((if (-1000000 ≤ i ∧ i ≤ 1000000) ∧ -1000000 ≤ j ∧ j ≤ 1000000 then ret (rng i (j - i).toNat) else bad) ρ2) = _
      by_cases h : (-1000000 ≤ i ∧ i ≤ 1000000) ∧ -1000000 ≤ j ∧ j ≤ 1000000
      · rw [if_pos h]
        exact propext ⟨fun z => ⟨h, z⟩, fun z => z.2⟩
      · rw [if_neg h]
        exact propext ⟨fun z => z.elim, fun z => absurd z.1 h⟩
    | _ => rfl
  | _ => rfl
end Cs
namespace Cs
open PySem L2 Evl PyProof.Rows
def isLst : D → Bool
  | .lst _ _ => true
  | _ => false
def lixD (d e : D) : Option D := match d, e with
  | .lst _ xs, .str z => (match allStr xs with
    | some ys => (ixS z ys).map fun j => .int (j : Int)
    | none => none)
  | _, _ => none
def dLix (i : Nat) (w : M D) : M D := bnd (dPk i) fun d0 => if isLst d0 = true then bnd w fun k ρ1 => (match (slot i ρ1).bind (fun d => lixD d k) with
  | some d => .ok d ρ1
  | none => .bad) else bad
section
variable {X : Cx} {G : Gx} {W : WX} {t2 : List Nat} {e : Expr} {x : Str} {p apos cpos : Pos} {w : M D} {i : Nat}
end
section
variable {X : XK0} {ρ : En} {i : Nat} {w : M D}
@[simp] theorem post_lix {Q : D → En → Prop} : Post Q X (dLix i w ρ) = slW (slot i ρ) fun d0 => isLst d0 = true ∧ Post (fun k ρ1 => opW ((slot i ρ1).bind fun d => lixD d k) fun d => Q d ρ1) X (w ρ) := by
  unfold dLix
  rw [post_dpk]
  congr 1
  funext d0
  by_cases h : isLst d0 = true
  · rw [if_pos h, post_bnd]
    simp only [h, true_and]
    congr 1
    funext k ρ1
    cases (slot i ρ1).bind (fun d => lixD d k) <;> rfl
  · rw [if_neg h]
    exact propext ⟨fun z => z.elim, fun z => absurd z.1 h⟩
@[simp] theorem isLst_l {o : Fl} {xs : List D} : isLst (.lst o xs) = true := rfl
end
end Cs
namespace Cs
open PySem L2 Evl
theorem strE {a b : String} : (Str.ofString a = Str.ofString b) ↔ a = b := by
  constructor
  · intro h
    rw [Str.ofString_eq_toList, Str.ofString_eq_toList] at h
    have h2 : a.toList.map Char.toNat = b.toList.map Char.toNat := by
      have := congrArg (fun s : Str => s.cps.toList) h
      simpa using this
    have inj : ∀ {x y : List Char}, x.map Char.toNat = y.map Char.toNat → x = y := by
      intro x
      induction x with
      | nil => intro y h; cases y with
        | nil => rfl
        | cons _ _ => cases h
      | cons c cs ih => intro y h; cases y with
        | nil => cases h
        | cons e es =>
          simp only [List.map_cons, List.cons.injEq] at h
          rw [ih h.2, Char.toNat_inj.mp h.1]
    exact String.toList_inj.mp (inj h2)
  · rintro rfl; rfl
theorem strB {a b : String} : (Str.ofString a == Str.ofString b) = (a == b) := by
  rw [Bool.eq_iff_iff, beq_iff_eq, beq_iff_eq]
  exact strE
theorem qNe {d e : D} {b : Bool} (h1 : dep d ≤ 60) (h2 : dep e ≤ 60) (h : eqD d e = b) : pNe d e = .sc (.bl (!b)) := by
  unfold pNe
  rw [if_pos ⟨h1, h2⟩, h]
theorem qs (i j : Str) : eqD (.str i) (.str j) = decide (i = j) := by rw [eqD_ss]; by_cases h : i = j <;> simp [h]
theorem qNes {x y : Str} : pNe (.str x) (.str y) = .sc (.bl (!decide (x = y))) := qNe (by rw [dep]; omega) (by rw [dep]; omega) (qs x y)
example : ¬ (Str.ofString "abc" = Str.ofString "abd") := by simp [strE]
example : (Str.ofString "abc" == Str.ofString "abd") = false := by simp [strB]
end Cs
namespace Cs
open PySem L2 Evl PyProof.Rows
section
variable {X : Cx} {G : Gx} {W : WX} {tc t1 t2 : List Nat} {e : Expr} {pos : Pos}
end
section
variable {X : Cx} {G : Gx} {W : WX} {tc t1 t2 : List Nat} {e : Expr} {o : Opd} {pos : Pos}
def dJs : List (M D) → Str → M D
  | [], acc => ret (.str acc)
  | f :: fs, acc => bnd f fun d => match d with
    | .str y => if acc.length + y.length ≤ lim then dJs fs (acc ++ y) else bad
    | _ => bad
def dJoin (fs : List (M D)) : M D := dJs fs Str.empty
end
def jsW (d : D) (K : Str → Prop) : Prop := match d with
  | .str y => K y
  | _ => False
@[simp] theorem jsW_s {y : Str} {K : Str → Prop} : jsW (.str y) K = K y := rfl
section
variable {Q : D → En → Prop} {X : Str → List Str → List D → En → Prop} {ρ : En}
@[simp] theorem post_js_nil {acc : Str} : Post Q X (dJs [] acc ρ) = Q (.str acc) ρ := rfl
@[simp] theorem post_js_cons {f : M D} {fs : List (M D)} {acc : Str} : Post Q X (dJs (f :: fs) acc ρ) = Post (fun d ρ1 => jsW d fun y => acc.length + y.length ≤ lim ∧ Post Q X (dJs fs (acc ++ y) ρ1)) X (f ρ) := by
  rw [dJs, post_bnd]
  congr 1
  funext d ρ1
  cases d <;> try rfl
  rename_i y
  show Post Q X ((if acc.length + y.length ≤ lim then dJs fs (acc ++ y) else bad) ρ1) = _
  unfold jsW
  dsimp only
  by_cases h : acc.length + y.length ≤ lim
  · rw [if_pos h]; simp [h]
  · rw [if_neg h]; simp [h]
@[simp] theorem post_join {fs : List (M D)} : Post Q X (dJoin fs ρ) = Post Q X (dJs fs Str.empty ρ) := rfl
end
section
variable {X : Cx} {G : Gx} {W : WX} {tc : List Nat} {a : Expr} {o : Opd} {pos p p2 : Pos} {x : Str}
end
end Cs
namespace Cs
open PySem L2 Evl PyProof.Rows
section
variable {X : Cx} {G : Gx} {W : WX} {t1 t2 t3 tc : List Nat} {e : Expr} {lo hi : Option Expr} {pos p2 : Pos} {f : M D} {g h : M (Option Int)}
def dSlT (f : M D) (g h : M (Option Int)) : M D := bnd f fun d => bnd g fun lo => bnd h fun hi => match d with
  | .tup xs => if allFs noOw xs = true then ret (.tup (cutD xs lo hi)) else bad
  | _ => bad
end
def cutTW (d : D) (lo hi : Option Int) (K : D → Prop) : Prop := match d with
  | .tup xs => allFs noOw xs = true ∧ K (.tup (cutD xs lo hi))
  | _ => False
@[simp] theorem cutTW_t {xs : List D} {lo hi : Option Int} {K : D → Prop} : cutTW (.tup xs) lo hi K = (allFs noOw xs = true ∧ K (.tup (cutD xs lo hi))) := rfl
@[simp] theorem post_slT {f : M D} {g h : M (Option Int)} {Q : D → En → Prop} {X : Str → List Str → List D → En → Prop} {ρ : En} : Post Q X (dSlT f g h ρ) = Post (fun d ρ1 => Post (fun lo ρ2 => Post (fun hi ρ3 => cutTW d lo hi fun e => Q e ρ3) X (h ρ2)) X (g ρ1)) X (f ρ) := by
  unfold dSlT
  simp only [post_bnd]
  congr 1
  funext d ρ1
  congr 1
  funext lo ρ2
  congr 1
  funext hi ρ3
  cases d <;> try rfl
  rename_i xs
  show Post Q X ((if allFs noOw xs = true then ret (.tup (cutD xs lo hi)) else bad) ρ3) = _
  unfold cutTW
  dsimp only
  by_cases hn : allFs noOw xs = true
  · rw [if_pos hn]; simp [hn]
  · rw [if_neg hn]; simp [hn]
@[simp] theorem cutD_14 {a b c d : D} : cutD [a, b, c, d] (some 1) none = [b, c, d] := by
  have e1 : HT.sIx 4 0 (some 1) = 1 := by decide +kernel
  have e2 : HT.sIx 4 4 none = 4 := by decide +kernel
  unfold cutD
  simp [e1, e2]
def dFg (fg : List Nat) (f : M Flw) : M Flw := fun ρ => match f ρ with
  | .ok r ρ1 => .ok r (fgt fg ρ1)
  | .exc c ks xs ρ1 => .exc c ks xs ρ1
  | .bad => .bad
@[simp] theorem post_fg {fg : List Nat} {f : M Flw} {Q : Flw → En → Prop} {X : Str → List Str → List D → En → Prop} {ρ : En} : Post Q X (dFg fg f ρ) = Post (fun r ρ1 => Q r (fgt fg ρ1)) X (f ρ) := by
  unfold dFg
  cases f ρ <;> rfl
section
variable {X : Cx} {G : Gx} {W : WX} {tc : List Nat} {st : Stmt} {f : M Flw}
end
end Cs
namespace Cs
open PySem L2 Evl PyProof.Rows
def dAsgT (tg : Tg) (f : M D) : M Flw := bnd f fun d ρ => match dTg tg (mapF flFrz d) ρ with
  | .ok .nx ρ1 => .ok .nx ρ1
  | _ => .bad
section
variable {X : Cx} {G : Gx} {W : WX} {tc : List Nat} {a tge : Expr} {pos : Pos} {u : M D}
end
@[simp] theorem post_asgT {tg : Tg} {f : M D} {Q : Flw → En → Prop} {X : Str → List Str → List D → En → Prop} {ρ : En} : Post Q X (dAsgT tg f ρ) = Post (fun d ρ1 => tgW (dTg tg (mapF flFrz d) ρ1) fun ρ2 => Q .nx ρ2) X (f ρ) := by
  unfold dAsgT
  rw [post_bnd]
  congr 1
  funext d ρ1
  cases dTg tg (mapF flFrz d) ρ1 with
  | bad => rfl
  | exc c ks xs ρ => rfl
  | ok fl ρ => cases fl <;> rfl
def dPop (i : Nat) : M D := fun ρ => match slotL i ρ with
  | some xs => if allFs noOw xs = true then (match xs.getLast? with
    | some d => .ok d (ρ.set i (.dt (.lst .ow xs.dropLast)))
    | none => .bad) else .bad
  | none => .bad
theorem Reps.last {T : Tx} {B H F : Hp} : ∀ {ds : List D} {vs : List V} {d : D}, Reps T B H F ds vs [] → ds.getLast? = some d → ∃ v, vs[vs.length - 1]? = some v ∧ Rep T B H F d v [] ∧ Reps T B H F ds.dropLast vs.dropLast []
  | [], _, _, .nil, h => by cases h
  | [x], _, d, .cons (v := v) r .nil e, h => by
    obtain ⟨e1, e2⟩ := List.append_eq_nil_iff.mp e.symm
    subst e1
    cases h
    exact ⟨v, rfl, r, .nil⟩
  | x :: y :: ds, _, d, .cons (v := v) r (.cons (v := v2) (vs := vs) r2 rs e2) e, h => by
    obtain ⟨z1, z2⟩ := List.append_eq_nil_iff.mp e.symm
    subst z1 z2
    obtain ⟨w, h1, h2, h3⟩ := Reps.last (ds := y :: ds) (vs := v2 :: vs) (.cons r2 rs e2) (by simpa using h)
    refine ⟨w, ?_, h2, .cons r h3 rfl⟩
    simpa using h1
section
variable {X : Cx} {G : Gx} {W : WX} {i : Nat} {x : Str} {p apos cpos : Pos}
end
def popW (o : Option (List D)) (K : D → List D → Prop) : Prop := match o with
  | some xs => allFs noOw xs = true ∧ (match xs.getLast? with
    | some d => K d xs.dropLast
    | none => False)
  | none => False
@[simp] theorem post_pop {i : Nat} {Q : D → En → Prop} {X : Str → List Str → List D → En → Prop} {ρ : En} : Post Q X (dPop i ρ) = popW (slotL i ρ) fun d xs => Q d (ρ.set i (.dt (.lst .ow xs))) := by
  unfold dPop popW
  cases slotL i ρ with
  | none => rfl
  | some xs =>
    dsimp only
    by_cases h : allFs noOw xs = true
    · rw [if_pos h]
      cases xs.getLast? with
      | none => simp [h]
      | some d => simp [h]
    · rw [if_neg h]
      simp [h]
end Cs
namespace Cs
open PySem L2 Evl PyProof.Rows
def ltL : List Int → List Int → Bool
  | [], [] => false
  | [], _ :: _ => true
  | _ :: _, [] => false
  | x :: xs, y :: ys => if x = y then ltL xs ys else decide (x < y)
def pLtL : D → D → PR
  | .lst _ xs, .lst _ ys => (match allInt xs, allInt ys with
    | some ns, some ms => .sc (.bl (ltL ns ms))
    | _, _ => .bad)
  | _, _ => .bad
section
variable {X : Cx} {G : Gx} {W : WX} {t1 t2 : List Nat} {a b : Expr} {o1 o2 : Opd} {pos : Pos}
end
@[simp] theorem pLtL_i {o o2 : Fl} {ns ms : List Int} : pLtL (.lst o (ns.map D.int)) (.lst o2 (ms.map D.int)) = .sc (.bl (ltL ns ms)) := by
  unfold pLtL
  dsimp only
  rw [allInt_ints, allInt_ints]
end Cs
namespace Cs
open PySem L2 Evl PyProof.Rows
abbrev KB := List (Str × Bool)
section
variable {X : Cx}
end
@[simp] def cpL : KB → List D → Option (List D)
  | [], [] => some []
  | (_, false) :: ks, d :: ds => (cpL ks ds).map (d :: ·)
  | (_, true) :: ks, .lst _ xs :: ds => (cpL ks ds).map (.lst .fr xs :: ·)
  | _, _ => none
def dRaiseL (c : Str) (ks : KB) (f : M (List D)) : M Flw := bnd f fun ds ρ => if allFs noBo ds = true then (match cpL ks (mapFs flFrz ds) with
  | some es => .exc c (ks.map (·.1)) es ρ
  | none => .bad) else .bad
theorem Goes.newF {s : S5} {p : Addr} {o : HO} (hp : s.H p = none) (e : ∀ a, O s.φ a → ∃ o, s.H a = some o) (eF : Ex s.F s.H) : Goes [] s { s with H := upd s.H p o, F := upd s.F p o } [] :=
  ⟨(Step.newF hp eF).or0, fun j _ => ⟨rfl, rfl, fun b hb => by
    obtain ⟨o, eo⟩ := e b ⟨j, hb⟩
    exact upd_ne (ne_of_none eo hp)⟩, fun _ _ => rfl⟩
section
variable {T : Tx} {B : Hp} {a C : Addr}
end
section
variable {X : Cx} {G : Gx} {W : WX} {tc : List Nat} {e : Expr} {es : List Expr} {p pos pos2 : Pos}
end
@[simp] theorem post_raiseL {X : XK0} {Q : Flw → En → Prop} {c : Str} {ks : KB} {f : M (List D)} {ρ : En} : Post Q X (dRaiseL c ks f ρ) = Post (fun ds ρ1 => allFs noBo ds = true ∧ match cpL ks (mapFs flFrz ds) with
    | some es => X c (ks.map (·.1)) es ρ1
    | none => False) X (f ρ) := by
  unfold dRaiseL
  rw [post_bnd]
  congr 1
  funext ds ρ1
  by_cases h : allFs noBo ds = true
  · simp only [h, if_true, true_and]
    cases cpL ks (mapFs flFrz ds) <;> rfl
  · rw [if_neg h]
    simp only [h]
    simp
end Cs
namespace Cs
open PySem L2 Evl PyProof.Rows
def pLrg : D → PR
  | .int j => if 0 ≤ j ∧ j ≤ 100000 then .nl (rng 0 j.toNat) else .bad
  | _ => .bad
def rLrg : V → Hp → VK → Prop := fun x H Q => ∃ n, x = .int n ∧ RgOk 0 n ∧ ∀ q, H q = none → Q (.ref q) (upd H q (.lst (rgV 0 n)))
theorem reps_rng {T : Tx} {B H F : Hp} {lo : Int} : ∀ {ks : List Nat}, Reps T B H F (ks.map fun (i : Nat) => D.int (lo + (i : Int))) (ks.map fun i => V.int (lo + (i : Nat))) []
  | [] => .nil
  | k :: ks => .cons (.int _) reps_rng rfl
theorem p1_lrg {T : Tx} : P1 T rLrg pLrg := by
  intro B H F d v g eF eB r
  cases d with
  | int j =>
    cases r
    unfold pLrg
    dsimp only
    split
    · rename_i h
      refine ⟨rgV 0 j, ?_, fun Q k => ⟨j, rfl, RgOk.of_le (Int.le_refl _) (by omega) (by omega) h.1, k⟩⟩
      unfold rng rgV
      rw [show (j - 0).toNat = j.toNat from by rw [Int.sub_zero]]
      exact reps_rng
    · trivial
  | _ => trivial
section
variable {X : Cx} {G : Gx} {W : WX} {tc : List Nat} {a : Expr} {o : Opd} {p p2 pos pos2 : Pos}
theorem g_lrg (hc : X.calm = true) (hg : Gl X "list") (hm : X.mg "list" = none) (hg2 : Gl X "range") (hm2 : X.mg "range" = none) (h : GO X G W tc a o) (na : starEach [a] X.env = (false, eval a X.env) :: starEach [] X.env := by rfl) (nb : starEach [.Call (.Name "range" p2) [a] [] pos2] X.env = (false, eval (.Call (.Name "range" p2) [a] [] pos2) X.env) :: starEach [] X.env := by rfl) :
    GE X G W tc (.Call (.Name "list" p) [.Call (.Name "range" p2) [a] [] pos2] [] pos) (dOp1 pLrg o) :=
  tun_of p1_lrg h fun _ ha => pe_listRg hc hg hm (prg_1 hg2 hm2 ha na) nb
end
@[simp] theorem pLrg_i {j : Int} : pLrg (.int j) = if 0 ≤ j ∧ j ≤ 100000 then .nl (rng 0 j.toNat) else .bad := rfl
end Cs
namespace Cs
open PySem L2 Evl PyProof.Rows
section
variable {X : Cx} {G : Gx} {W : WX} {a e : Expr} {es : List Expr} {pos p : Pos}
def isFn (i : Nat) (c : Str) : En → Prop := fun ρ => slot i ρ = some (.cls c)
end
end Cs
namespace Cs
open PySem L2 Evl PyProof.Rows
def allIL : List D → Option (List (List Int))
  | [] => some []
  | .lst .fr ys :: xs => (match allInt ys, allIL xs with
    | some a, some r => some (a :: r)
    | _, _ => none)
  | _ :: _ => none
def minL (x : List Int) (xs : List (List Int)) : List Int := xs.foldl (fun a y => if ltL y a then y else a) x
theorem allIL_lists : ∀ {nss : List (List Int)}, allIL (nss.map fun a => D.lst .fr (a.map D.int)) = some nss
  | [] => rfl
  | n :: ns => by
    rw [List.map_cons, allIL, allInt_ints, allIL_lists]
def pMinL : D → PR
  | .lst _ xs => (match allIL xs with
    | some (n :: ns) => .sc (.lst .fr ((minL n ns).map .int))
    | _ => .bad)
  | _ => .bad
@[simp] theorem pMinL_i {o : Fl} {n : List Int} {ns : List (List Int)} : pMinL (.lst o ((n :: ns).map fun a => D.lst .fr (a.map D.int))) = .sc (.lst .fr ((minL n ns).map .int)) := by
  unfold pMinL
  dsimp only
  rw [allIL_lists]
inductive ILs (H : Hp) : List (List Int) → List V → Prop
  | nil : ILs H [] []
  | cons {a : Addr} {n : List Int} {ns : List (List Int)} {vs : List V} (h : H a = some (.lst (n.map V.int))) (t : ILs H ns vs) : ILs H (n :: ns) (.ref a :: vs)
theorem ILs.mono {H H2 : Hp} (e : Ex H H2) : ∀ {ns : List (List Int)} {vs : List V}, ILs H ns vs → ILs H2 ns vs
  | _, _, .nil => .nil
  | _, _, .cons h t => .cons (e _ _ h) (t.mono e)
theorem ILs.at {H : Hp} : ∀ {nss : List (List Int)} {vs : List V}, ILs H nss vs → ∀ {i : Nat} {n : List Int} {w : V}, nss[i]? = some n → vs[i]? = some w → ∃ a, w = .ref a ∧ H a = some (.lst (n.map V.int))
  | _, _, .nil, i, n, w, h, _ => by simp at h
  | _, _, .cons (a := a) h t, i, n, w, h1, h2 => by
    cases i with
    | zero =>
      simp at h1 h2
      subst h1 h2
      exact ⟨a, rfl, h⟩
    | succ j =>
      simp at h1 h2
      exact t.at h1 h2
def P1A (T : Tx) (r : V → Hp → VK → Prop) (p : D → PR) : Prop := ∀ B H F d v g, Ex F H → Ex B H → Rep T B H F d v g → p d = .bad ∨ ∃ e, p d = .sc e ∧ ∃ S : V → Prop, (∀ w, S w → Rep T B H F e w []) ∧ ∀ Q : VK, (∀ w, S w → Q w H) → r v H Q
section
variable {T : Tx} {W : WX} {tc : List Nat}
theorem tun_coreA {r : V → Hp → VK → Prop} {p : D → PR} {o : Opd} (hr : P1A T r p) (hf : o.fits tc) {σ : L2.St} {H : Hp} {Q : VK} (h : tD T W tc (dOp1 p o) σ H Q) : tUn r (rdO T W tc o) σ H Q := by
  obtain ⟨B, s, e1, e2, rl, h⟩ := h
  subst e1 e2
  cases o with
  | v f =>
    refine seqE1 rl h fun d v s1 g _ hs r1 t a h => ?_
    rcases hr B s1.H s1.F d v g r1.exF r1.exB t.rep with z | ⟨e, z, S, hS, k⟩
    · rw [z] at h
      exact h.elim
    · rw [z] at h
      exact k Q fun w hw => pr_fin (rd := fun H Q => Q w H) hs r1 a (p := .sc e) ⟨w, hS w hw, fun Q q => q⟩ h
  | p i =>
    obtain ⟨d, e, h⟩ := pk_bnd h
    obtain ⟨v, e2, rp⟩ := rl.sl i d (slot_some e)
    refine ⟨v, e2, ?_⟩
    rcases hr B s.H s.F d v _ rl.exF rl.exB rp with z | ⟨e', z, S, hS, k⟩
    · rw [z] at h
      exact h.elim
    · rw [z] at h
      exact k Q fun w hw => pr_fin (rd := fun H Q => Q w H) rfl rl Goes.refl (p := .sc e') ⟨w, hS w hw, fun Q q => q⟩ h
end
section
variable {X : Cx} {G : Gx} {W : WX} {tc : List Nat} {a : Expr} {o : Opd} {pos p : Pos}
end
section
variable {T : Tx} {W : WX} {tc : List Nat}
end
section
variable {X : Cx} {G : Gx} {W : WX} {tc : List Nat} {a : Expr} {f : M D} {pos p : Pos}
end
end Cs
namespace Cs
open PySem PySem.Spec L2 Evl PyProof.Rows
section
open HotX
variable {prog : Program} {w : World} {A : Around} {E : Value → Shared → Prop} {s : Shared} {x1 itr src : Addr} {k : Nat} {xs : Array Value} {Q : Option Value → Shared → Prop}
end
end Cs
namespace Cs
open PySem PySem.Spec L2 Evl PyProof.Rows
open L2H (TurnH PIEH PIH HotC RoomH Hot1 PinOk FnH cxH)
section
variable {P : Program} {w : World} {K : PySem.W.Frag} {tg : Expr}
end
section
variable {X : Cx} {tg : Expr}
end
end Cs
namespace Cs
open PySem PySem.Spec L2 Evl PyProof.Rows
open L2H (TurnH PIEH PIH HotC RoomH Hot1 PinOk FnH cxH)
section
variable {X : Cx} {pins : List (Addr × Obj)} {σ : L2.St} {H : Hp} {s : Shared} {scope : Scope} {own : List (Str × Nat)} {fp : List Addr}
end
section
variable {X : Cx} {elt tg iter : Expr} {ifs : List Expr} {scope : Scope} {own : List (Str × Nat)} {pos pos' : Pos} {wi : TI} {g : TG} {tt : TT} {te : TE} {use : Option (Value → Sem Unit)}
end
end Cs
namespace Cs
open PySem PySem.Spec L2 Evl PyProof.Rows
open L2H (TurnH PIEH PIH HotC RoomH Hot1 PinOk FnH cxH)
theorem takesN {X : Cx} : L2N.Takes X (fun _ _ _ _ => False) := by
  rintro _ _ ⟨_, _, _, _, _, _, _, _, _, _, _, _, _, _, _, _, h⟩
  exact h.elim
section
variable {X : Cx} {G : Gx} {W : WX} {tc t1 t2 tb : List Nat} {a b e tge iter : Expr} {es : List Expr} {body : List Stmt} {pos p : Pos} {f u w : M D} {src : M (List D)} {g : M Flw}
end
section
variable {X : Cx} {G : Gx} {W : WX} {t1 tt te to : List Nat} {src : M (List D)} {cond : M Bool} {elt : M D} {tg : Tg} {eltE tgE iter : Expr} {ifs : List Expr} {scope : Scope} {own : List (Str × Nat)} {pos : Pos}
end
end Cs
namespace Cs
open PySem PySem.Spec L2 Evl PyProof.Rows
open L2H (TurnH PIEH PIH HotC RoomH Hot1 PinOk FnH cxH)
section
open HotX
end
section
variable {X : Cx} {G : Gx} {W : WX} {tc t1 t2 : List Nat} {a b : Expr} {o o1 o2 : Opd} {pos p p2 : Pos}
end
section
variable {X : Cx} {elt tg iter : Expr} {ifs : List Expr} {scope : Scope} {own : List (Str × Nat)} {pos spos py : Pos} {wi : TI} {g : TG} {tt : TT} {te : TE} {i : Nat} {y : Str}
end
section
variable {X : Cx} {G : Gx} {W : WX} {t1 tt te to : List Nat} {src : M (List D)} {cond : M Bool} {elt : M D} {tg : Tg} {eltE tgE iter : Expr} {ifs : List Expr} {scope : Scope} {own : List (Str × Nat)} {pos : Pos}
end
end Cs
namespace Cs
open PySem L2 Evl PyProof.Rows
open PySem.W
section
variable {CX : CXT} {P : Program} {w : World} {K : PySem.W.Frag} {mg : Str → Option Value} {base : Heap} {k : Nat} {f : Addr} {name qual : Str} {params : Arguments} {body : List Stmt} {scope : Scope} {dV kV doc pm cdv ct oc : Value} {an od : Option Addr}
  {osl : Array (Option Value)} {N ps : List Str} {sp : Sp}
end
def mvK (m : List D → Res) : List D → Res
  | [] => .bad
  | d0 :: t => match t.getLast? with
    | none => .bad
    | some dw => if allFs noOw t = true then (match m (d0 :: dw :: t.dropLast) with
      | .ok d os => .ok d (os.take 1 ++ List.replicate t.length Sl.un)
      | .exc c ks xs os => .exc c ks xs (os.take 1 ++ List.replicate t.length Sl.un)
      | .bad => .bad) else .bad
section
variable {T : Tx} {B : Hp}
end
section
variable {X : Cx} {G : Gx} {W : WX} {tc : List Nat} {a e : Expr} {es : List Expr} {p pos kpos : Pos}
end
@[simp] theorem mvK_cons {m : List D → Res} {d0 dw : D} {t : List D} : mvK m (d0 :: (t ++ [dw])) = if allFs noOw (t ++ [dw]) = true then (match m (d0 :: dw :: t) with
  | .ok d os => .ok d (os.take 1 ++ List.replicate (t ++ [dw]).length Sl.un)
  | .exc c ks xs os => .exc c ks xs (os.take 1 ++ List.replicate (t ++ [dw]).length Sl.un)
  | .bad => .bad) else .bad := by
  unfold mvK
  simp only [List.getLast?_append, List.getLast?_singleton, Option.some_or, List.dropLast_concat]
end Cs
namespace Cs
open PySem L2 Evl PyProof.Rows
inductive Stp where
  | it (n : Nat)
  | fd (c f : Str)
  | sq (p q : Stp)
def pix (f : Str) : List Str → Option Nat
  | [] => none
  | k :: ks => if f = k then some 0 else (pix f ks).map (· + 1)
def pick : Stp → D → Option D
  | .it n, .lst .ow ds => ds[n]?
  | .fd c f, .obj .ow c' ks ds => if c' = c then (pix f ks).bind fun n => ds[n]? else none
  | .sq p q, d => (pick p d).bind (pick q)
  | _, _ => none
def put : Stp → D → D → D
  | .it n, .lst o ds, x => .lst o (ds.set n x)
  | .fd c f, .obj o c' ks ds, x => .obj o c' ks (ds.set ((pix f ks).getD 0) x)
  | .sq p q, d, x => (match pick p d with
    | some y => put p d (put q y x)
    | none => d)
  | _, d, _ => d
def RdP (T : Tx) : Stp → Hp → V → V → Prop
  | .it n, H, v, x => ∃ a vs, v = .ref a ∧ H a = some (.lst vs) ∧ vs[n]? = some x
  | .fd c f, H, v, x => ∃ a C dx fs, v = .ref a ∧ T.C c = some C ∧ H a = some (.ins C dx fs) ∧ fs.lookup f = some x
  | .sq p q, H, v, x => ∃ y, RdP T p H v y ∧ RdP T q H y x
section
variable {T : Tx} {B H F : Hp}
theorem Reps.split : ∀ {ds : List D} {vs : List V} {g : List Addr} {n : Nat} {d : D}, Reps T B H F ds vs g → ds[n]? = some d → ∃ v gr gk, vs[n]? = some v ∧ (g.Perm (gr ++ gk)) ∧ Rep T B H F d v gk ∧
    ∀ {H' F' : Hp} {d' : D} {gk' : List Addr}, (∀ a ∈ gr, ∀ o, H a = some o → H' a = some o) → Ex F F' → Rep T B H' F' d' v gk' → ∃ g', Reps T B H' F' (ds.set n d') vs g' ∧ g'.Perm (gr ++ gk')
  | _, _, _, n, d, .nil, h => by simp at h
  | _, _, _, 0, d, .cons (d := d0) (ds := ds) (v := v0) (vs := vs) (f := f) (g := g) r rs e, h => by
    cases h
    subst e
    refine ⟨v0, g, f, rfl, List.perm_append_comm, r, fun hk hf r' => ⟨_, .cons r' (rs.mono (Ex.refl B) hf fun a ha o q => hk a ha o q) rfl, List.perm_append_comm⟩⟩
  | _, _, _, n + 1, d, .cons (d := d0) (ds := ds) (v := v0) (vs := vs) (f := f) (g := g) r rs e, h => by
    have h : ds[n]? = some d := h
    subst e
    obtain ⟨v, gr, gk, h1, h2, h3, h4⟩ := Reps.split rs h
    refine ⟨v, f ++ gr, gk, h1, ?_, h3, fun hk hf r' => ?_⟩
    · rw [List.append_assoc]
      exact h2.append_left f
    · obtain ⟨g', q1, q2⟩ := h4 (fun a ha o q => hk a (List.mem_append_right _ ha) o q) hf r'
      refine ⟨f ++ g', .cons (r.mono (Ex.refl B) hf fun a ha o q => hk a (List.mem_append_left _ ha) o q) q1 rfl, ?_⟩
      rw [List.append_assoc]
      exact q2.append_left f
end
def fS (s : S5) (i : Nat) (x : D) (vx : V) (gx : List Addr) : S5 := { s with σ := s.σ.set i (some vx), ρ := s.ρ.set i (.dt x), φ := fun j => if j = i then gx else s.φ j }
section
variable {T : Tx} {B : Hp} {s s0 s1 s' : S5} {i : Nat} {d x x' : D} {v vx : V} {gr gx g g0 : List Addr} {u tc : List Nat}
end
section
variable {T : Tx} {B : Hp} {W : WX}
end
section
variable {X : Cx} {G : Gx} {W : WX} {a e : Expr} {es : List Expr} {pos p0 apos : Pos}
end
section
variable {X : Cx} {G : Gx} {W : WX} {a b e : Expr} {es : List Expr} {pos p0 apos : Pos}
end
def hdW (os : En) (K : D → Prop) : Prop := match os with
  | .dt x :: _ => K x
  | _ => False
@[simp] theorem hdW_c {x : D} {os : En} {K : D → Prop} : hdW (.dt x :: os) K = K x := rfl
section
variable {Xx : XK0} {ρ : En} {Q : D → En → Prop}
end
inductive PAr where
  | a (r : Arg)
  | p (i : Nat) (q : Stp)
def own : List PAr → List Nat
  | [] => []
  | .a (.l i, _) :: r => i :: own r
  | .a (.io i, _) :: r => i :: own r
  | .a (.v _, _) :: r => own r
  | .p _ _ :: r => own r
section
variable {T : Tx} {B : Hp} {W : WX}
end
structure Fd where
  i : Nat
  q : Stp
  d : D
  x : D
  v : L2.V
  vx : L2.V
  gr : List Addr
  gx : List Addr
structure FD (T : Tx) (B : Hp) (s : S5) (f : Fd) : Prop where
  sl : s.ρ[f.i]? = some (.dt f.d)
  ev : s.σ[f.i]? = some (some f.v)
  pk : pick f.q f.d = some f.x
  pm : (s.φ f.i).Perm (f.gr ++ f.gx)
  rx : Rep T B s.H s.F f.x f.vx f.gx
  dm : ∀ a ∈ s.φ f.i, ∃ o, s.H a = some o
  rd : ∀ {H' : Hp}, (∀ a ∈ f.gr, ∀ o, s.H a = some o → H' a = some o) → RdP T f.q H' f.v f.vx
  rb : ∀ {H' F' : Hp} {x' : D} {gx' : List Addr}, (∀ a ∈ f.gr, ∀ o, s.H a = some o → H' a = some o) → Ex s.F F' → Rep T B H' F' x' f.vx gx' → ∃ g', Rep T B H' F' (put f.q f.d x') f.v g' ∧ g'.Perm (f.gr ++ gx')
abbrev fS1 (s : S5) (f : Fd) : S5 := fS s f.i f.x f.vx f.gx
section
variable {T : Tx} {B : Hp} {W : WX}
theorem FD.next {s : S5} {f f2 : Fd} (h : FD T B s f2) (hn : f2.i ≠ f.i) : FD T B (fS1 s f) f2 := by
  refine ⟨?_, ?_, h.pk, ?_, h.rx, ?_, h.rd, h.rb⟩
  · show (s.ρ.set f.i _)[f2.i]? = _
    rw [List.getElem?_set_ne (Ne.symm hn)]
    exact h.sl
  · show (s.σ.set f.i _)[f2.i]? = _
    rw [List.getElem?_set_ne (Ne.symm hn)]
    exact h.ev
  · show (if f2.i = f.i then _ else s.φ f2.i).Perm _
    rw [if_neg hn]
    exact h.pm
  · intro a ha
    have ha : a ∈ (if f2.i = f.i then f.gx else s.φ f2.i) := ha
    rw [if_neg hn] at ha
    exact h.dm a ha
end
section
variable {T : Tx} {B : Hp} {W : WX}
end
section
variable {T : Tx} {W : WX}
end
section
variable {T : Tx} {B : Hp} {W : WX}
end
section
variable {X : Cx} {G : Gx} {W : WX} {tc : List Nat} {a e : Expr} {es : List Expr} {pos p : Pos}
end
section
variable {X : Cx} {G : Gx} {W : WX} {t2 : List Nat} {es : List Expr} {pos : Pos}
end
section
variable {Xx : XK0} {ρ : En}
end
end Cs
namespace Cs
open PySem L2 Evl PyProof.Rows
def allBl : List D → Option (List Bool)
  | [] => some []
  | .bl b :: xs => (allBl xs).map (b :: ·)
  | _ => none
theorem allBl_map : ∀ {xs : List D} {bs : List Bool}, allBl xs = some bs → xs = bs.map D.bl
  | [], bs, h => by cases h; rfl
  | .bl b :: xs, bs, h => by
    unfold allBl at h
    obtain ⟨bs', e1, e2⟩ := Option.map_eq_some_iff.mp h
    subst e2
    rw [allBl_map e1]
    rfl
  | .non :: _, _, h => by cases h
  | .int _ :: _, _, h => by cases h
  | .str _ :: _, _, h => by cases h
  | .cls _ :: _, _, h => by cases h
  | .tup _ :: _, _, h => by cases h
  | .lst _ _ :: _, _, h => by cases h
  | .dct _ _ _ :: _, _, h => by cases h
  | .obj _ _ _ _ :: _, _, h => by cases h
theorem allBl_bls : ∀ bs : List Bool, allBl (bs.map D.bl) = some bs
  | [] => rfl
  | b :: bs => by
    show (allBl (bs.map D.bl)).map (b :: ·) = _
    rw [allBl_bls bs]
    rfl
theorem repsB_eq {T : Tx} {B H F : Hp} : ∀ {bs : List Bool} {vs : List V} {g : List Addr}, Reps T B H F (bs.map D.bl) vs g → vs = bs.map V.bl
  | [], _, _, .nil => rfl
  | b :: bs, _, _, .cons r rs e => by
    cases r
    rw [repsB_eq rs]
    rfl
def pAnyB : D → PR
  | .lst _ xs => (match allBl xs with
    | some bs => .sc (.bl (bs.any id))
    | none => .bad)
  | _ => .bad
def pAllB : D → PR
  | .lst _ xs => (match allBl xs with
    | some bs => .sc (.bl (bs.all id))
    | none => .bad)
  | _ => .bad
@[simp] theorem pAnyB_b {o : Fl} {bs : List Bool} : pAnyB (.lst o (bs.map D.bl)) = .sc (.bl (bs.any id)) := by
  unfold pAnyB
  dsimp only
  rw [allBl_bls]
@[simp] theorem pAllB_b {o : Fl} {bs : List Bool} : pAllB (.lst o (bs.map D.bl)) = .sc (.bl (bs.all id)) := by
  unfold pAllB
  dsimp only
  rw [allBl_bls]
theorem p1_anyB {T : Tx} : P1A T (fun x H Q => rAny T.K [x] H Q) pAnyB := by
  intro B H F d v g eF eB r
  cases d with
  | lst o xs =>
    unfold pAnyB
    dsimp only
    cases ea : allBl xs with
    | none => exact .inl rfl
    | some bs =>
      have hx := allBl_map ea
      subst hx
      obtain ⟨p, vs, g1, rfl, sq, rp, _⟩ := r.list eF eB
      have := repsB_eq rp
      subst this
      exact .inr ⟨_, rfl, fun w => w = .bl (bs.any id), fun w hw => by subst hw; exact .bl _, fun Q q => ⟨p, bs, rfl, sq, q _ rfl⟩⟩
  | _ => exact .inl rfl
section
variable {X : Cx} {G : Gx} {W : WX} {tc : List Nat} {a : Expr} {o : Opd} {pos p : Pos}
theorem g_anyB (hc : X.calm = true) (hg : Gl X "any") (hm : X.mg "any" = none) (h : GO X G W tc a o) (hs : starEach [a] X.env = (false, eval a X.env) :: starEach [] X.env := by rfl) : GE X G W tc (.Call (.Name "any" p) [a] [] pos) (dOp1 pAnyB o) :=
  pe_mono (pe_callB (cr_any hc) hg hm (by decide +kernel) (pa_cons h.pe pa_nil hs) (by decide) (by decide) hs) fun _ _ _ z => tun_coreA (r := fun x H Q => rAny X.K [x] H Q) p1_anyB h.fits z
end
end Cs
namespace Cs
open PySem PySem.Spec L2 Evl PyProof.Rows Calls
def IntAt (n : Int) (s : Shared) (u : Value) (s' : Shared) : Prop := ∃ (h' : Heap) (tk : Nat) (t : Tok), s' = { s with heap := h', toks := tk } ∧ (∀ b o, s.heap.get? b = some o → h'.get? b = some o) ∧ u = .int n t
theorem IntAt.pure {n : Int} {s : Shared} {u : Value} {s' : Shared} (h : IntAt n s u s') : PySem.W.KeyPure (.int n) s u s' := by
  obtain ⟨h', tk, t, e1, e2, e3⟩ := h
  exact ⟨h', tk, e1, e2, by rw [e3]; exact .int n t⟩
section
variable {prog : Program} {w : World} {A : Around} {s : Shared} {f c' : Addr} {q : Str} {params : Arguments} {body : Expr} {scope : Scope} {cl : List (Str × Addr)} {pm ctv : Value} {a : Str} {v : Value} {n : Int}
variable {mg : Str → Option Value} {L p : Addr} {x : Str} {j : Int} {its : Array Value} {u : Value} {p1 p2 p3 p4 p5 : Pos} {E : Value → Shared → Prop}
end
end Cs
namespace Cs
open PySem PySem.Spec L2 Evl PyProof.Rows Calls PySem.W
section
variable {prog : Program} {w : World} {A : Around} {s : Shared} {l f : Addr} {key : Int → Int} {ns : List Int} {E : Value → Shared → Prop}
end
end Cs
namespace Cs
open PySem PySem.Spec L2 Evl PyProof.Rows Calls PySem.W
section
variable {X : Cx} {T : List (Addr × Str)} {c P : Addr} {params : Arguments} {body : Expr} {scope : Scope} {a x : Str} {pins : List (Addr × Obj)} {σ : L2.St} {H : Hp} {s : Shared} {i : Nat}
end
end Cs
namespace Cs
open PySem L2 Evl PyProof.Rows
section
variable {T : Tx} {B : Hp} {s s1 : S5} {tc : List Nat} {g : List Addr}
abbrev S5.at (s : S5) (H2 : Hp) : S5 := { s with H := H2 }
end
section
variable {X : Cx} {G : Gx} {W : WX} {tc : List Nat} {ea : Expr} {f : M D} {c P : Addr} {params : Arguments} {scope : Scope} {a x : Str} {i : Nat} {p1 p2 p3 p4 lp kp b1 b2 b3 b4 b5 : Pos}
end
end Cs
namespace GqN
open PySem PySem.SeqAt GQ
open AutoSeq1 (wpAny_loadPart')
open MeetsSeq MeetsSeq2 MeetsSeq3 SeqRoads2
section
variable {prog : Program} {w : World} {A : Around} {R : Result → Shared → Prop}
end
section
variable {prog : Program} {w : World} {A : Around} {E : Value → Shared → Prop} {s : Shared}
end
end GqN
namespace Cs
open PySem L2 Evl PyProof.Rows
section
variable {X : Cx} {n : Nat} {D : Eqv}
end
section
variable {T : Tx} {B : Hp} {s s1 : S5} {W : WX} {tc t1 t2 : List Nat} {g : List Addr} {Q : VK}
end
section
variable {T : Tx} {B H F : Hp}
theorem Rep.dict (eF : Ex F H) (eB : Ex B H) {o : Fl} {ks : List Str} {ds : List D} {v : V} {g : List Addr} (r : Rep T B H F (.dct o ks ds) v g) :
    ∃ a vs g', v = .ref a ∧ H a = some (.dK ((ks.map Sum.inr).zip vs)) ∧ ks.length = vs.length ∧ Reps T B H F ds vs g' := by
  cases r with
  | dctF h l r => exact ⟨_, _, _, rfl, eF _ _ h, l, r⟩
  | dctB h l r => exact ⟨_, _, _, rfl, eB _ _ h, l, r⟩
  | dctO h l r e => exact ⟨_, _, _, rfl, h, l, r⟩
end
section
variable {X : Cx} {n : Nat}
end
section
variable {T : Tx}
end
section
variable {X : Cx} {G : Gx} {W : WX} {t1 t2 : List Nat} {a b : Expr} {pos : Pos} {o1 o2 : Opd}
end
end Cs
namespace Cs
open PySem L2 Evl PyProof.Rows
open PySem.W
theorem law_fn0 {P : Program} {w : World} {K : PySem.W.Frag} {mg : Str → Option Value} {base : Heap} {k : Nat} {f : Addr} {fd : FuncData} {ps : List Str} {C : Str → Option Addr} {m : List D → Res} {n : Nat} (hm : ∀ ns : List Int, ns.length ≤ n → ∃ os, m [scr ns] = .ok (.bl true) os)
    (F : FnOk P w K mg base (L2N.CX P w) k f fd ps (spM ⟨K, C, P0, none, []⟩ m)) : FnOk P w K mg base (L2N.CX P w) k f fd ps (spLaw K n) :=
  (law_fnT (TB := []) hm F).imp fun vs H Q E ⟨a, ns, h1, h2, h3, h4⟩ => ⟨a, ns, h1, h2, h3, (fun p hp => by cases hp), h4⟩
section
variable {X : Cx} {G : Gx} {W : WX} {tc : List Nat} {a e : Expr} {es : List Expr} {p pos kpos apos : Pos}
end
end Cs
namespace Cs
open PySem L2 Evl PyProof.Rows
def cntD (d e : D) : Option D := match d, e with
  | .lst _ xs, .int k => (allInt xs).map fun ns => .int ((ns.count k : Nat) : Int)
  | _, _ => none
def dCnt (i : Nat) (w : M D) : M D := bnd (dPk i) fun d0 => if isLst d0 = true then bnd w fun k ρ1 => (match (slot i ρ1).bind (fun d => cntD d k) with
  | some d => .ok d ρ1
  | none => .bad) else bad
section
variable {X : Cx} {G : Gx} {W : WX} {t2 : List Nat} {e : Expr} {x : Str} {p apos cpos : Pos} {w : M D} {i : Nat}
end
section
variable {X : XK0} {ρ : En} {i : Nat} {w : M D}
@[simp] theorem post_cnt {Q : D → En → Prop} : Post Q X (dCnt i w ρ) = slW (slot i ρ) fun d0 => isLst d0 = true ∧ Post (fun k ρ1 => opW ((slot i ρ1).bind fun d => cntD d k) fun d => Q d ρ1) X (w ρ) := by
  unfold dCnt
  rw [post_dpk]
  congr 1
  funext d0
  by_cases h : isLst d0 = true
  · rw [if_pos h, post_bnd]
    simp only [h, true_and]
    congr 1
    funext k ρ1
    cases (slot i ρ1).bind (fun d => cntD d k) <;> rfl
  · rw [if_neg h]
    exact propext ⟨fun z => z.elim, fun z => absurd z.1 h⟩
@[simp] theorem cntD_i {o : Fl} {ns : List Int} {k : Int} : cntD (.lst o (ns.map D.int)) (.int k) = some (.int ((ns.count k : Nat) : Int)) := by
  unfold cntD
  dsimp only
  rw [allInt_ints]
  rfl
end
def dAppC (f u : M D) : M Flw := bnd f fun d => match d with
  | .lst .ow xs => bnd u fun _ => if xs.length < lim then ret .nx else bad
  | _ => bad
section
variable {T : Tx} {B : Hp} {s s1 s2 : S5} {W : WX} {tc t1 t2 : List Nat} {g : List Addr} {p : Addr} {o : HO} {f u : M D}
end
section
variable {X : Cx} {G : Gx} {W : WX} {t1 t2 : List Nat} {e a : Expr} {pos apos cpos : Pos} {f u : M D}
end
section
variable {X : XK0} {ρ : En} {f u : M D} {Q : Flw → En → Prop}
def appCW (d : D) (K : Nat → Prop) : Prop := match d with
  | .lst .ow xs => K xs.length
  | _ => False
@[simp] theorem appCW_l {xs : List D} {K : Nat → Prop} : appCW (.lst .ow xs) K = K xs.length := rfl
@[simp] theorem post_appC : Post Q X (dAppC f u ρ) = Post (fun d ρ1 => appCW d fun n => Post (fun _ ρ2 => n < lim ∧ Q .nx ρ2) X (u ρ1)) X (f ρ) := by
  unfold dAppC
  rw [post_bnd]
  congr 1
  funext d ρ1
  cases d with
  | lst o xs =>
    cases o with
    | ow =>
      show Post Q X (bnd u _ ρ1) = _
      rw [post_bnd, appCW_l]
      congr 1
      funext e ρ2
      by_cases h : xs.length < lim
      · rw [if_pos h]; simp only [h, true_and]; rfl
      · rw [if_neg h]; exact propext ⟨fun z => z.elim, fun z => absurd z.1 h⟩
    | _ => rfl
  | _ => rfl
end
def pRep : D → D → PR
  | .lst o xs, .int k => if o ≠ .ro ∧ allFs noOw xs = true ∧ (-(2 ^ 63) ≤ k ∧ k < 2 ^ 63) ∧ xs.length * k.toNat ≤ lim then .nl (List.replicate k.toNat xs).flatten else .bad
  | _, _ => .bad
theorem flatten_one {α : Type} {x : α} : ∀ n : Nat, (List.replicate n [x]).flatten = List.replicate n x
  | 0 => rfl
  | n + 1 => by rw [List.replicate_succ, List.flatten_cons, flatten_one n]; rfl
@[simp] theorem pRep_one {o : Fl} {d : D} {k : Int} : pRep (.lst o [d]) (.int k) = if o ≠ .ro ∧ allF noOw d = true ∧ (-(2 ^ 63) ≤ k ∧ k < 2 ^ 63) ∧ k.toNat ≤ lim then .nl (List.replicate k.toNat d) else .bad := by
  unfold pRep
  dsimp only
  rw [flatten_one]
  simp [allFs]
end Cs
namespace Cs
open PySem
def NoGen (fs : List Frame) : Prop := splitAtGen fs = none
theorem noGen_ret {k : Result → Sem PySem.Fin} {h : Option Value} {g : Bool} {l : List Value} {c : Code} {p : Pos} {kp : List Value} {fs : List Frame} : NoGen (.ret k h g l c p kp :: fs) ↔ NoGen fs := by
  show (splitAtGen fs).map _ = none ↔ splitAtGen fs = none
  cases splitAtGen fs <;> simp
theorem noGen_gen {g : Nat} {k : GenResult → Sem PySem.Fin} {l : List Value} {c : Code} {p : Pos} {fs : List Frame} : ¬ NoGen (.gen g k l c p :: fs) := fun h => by
  have h : (some ([], (g, k, c, p), fs) : Option (List Frame × (Nat × (GenResult → Sem PySem.Fin) × Code × Pos) × List Frame)) = none := h
  cases h
theorem noGen_app : ∀ {fs gs : List Frame}, NoGen fs → NoGen gs → NoGen (fs ++ gs)
  | [], _, _, h => h
  | .gen .. :: fs, _, h, _ => absurd h noGen_gen
  | .ret .. :: fs, gs, h, h2 => noGen_ret.mpr (noGen_app (noGen_ret.mp h) h2)
def GoodS : GenState → Prop
  | .suspended _ _ _ _ fs _ => NoGen fs
  | _ => True
def IsP (y : GenState) : Prop := ∃ l c p fs cl, y = .suspended (fun _ => .unsupported "") l c p fs cl ∧ NoGen fs
def pfr (f : Frame) : Frame := .ret (fun _ => .unsupported "") none false [] f.where_.1 f.where_.2 []
def psn : GenState → GenState
  | .suspended _ l c p fs cl => .suspended (fun _ => .unsupported "") l c p (fs.map pfr) cl
  | x => x
theorem noGen_pfr : ∀ fs : List Frame, NoGen (fs.map pfr)
  | [] => rfl
  | f :: fs => noGen_ret.mpr (noGen_pfr fs)
theorem psn_seen (x : GenState) : (psn x).seen = x.seen := by
  cases x with
  | suspended k l c p fs cl =>
    show (GenStatus.suspended, some ((c, p) :: (fs.map pfr).map Frame.where_)) = (GenStatus.suspended, some ((c, p) :: fs.map Frame.where_))
    rw [List.map_map]
    rfl
  | _ => rfl
theorem psn_good (x : GenState) : GoodS (psn x) := by
  cases x with
  | suspended k l c p fs cl => exact noGen_pfr fs
  | _ => trivial
structure PW (G P : Array GenState) : Prop where
  sz : G.size = P.size
  ok : ∀ (i : Nat) (x y : GenState), G[i]? = some x → P[i]? = some y → GoodS y ∧ y.seen = x.seen ∧ y.bare = x.bare ∧ (x = y ∨ IsP y)
def Kp (G P G' P' : Array GenState) : Prop := ∀ (i : Nat) (x y : GenState), G[i]? = some x → P[i]? = some y → IsP y → G'[i]? = some x ∧ P'[i]? = some y
theorem Kp.refl {G P : Array GenState} : Kp G P G P := fun _ _ _ h1 h2 _ => ⟨h1, h2⟩
theorem Kp.trans {G P G1 P1 G2 P2 : Array GenState} (a : Kp G P G1 P1) (b : Kp G1 P1 G2 P2) : Kp G P G2 P2 :=
  fun i x y h1 h2 h3 => let ⟨q1, q2⟩ := a i x y h1 h2 h3; b i x y q1 q2 h3
def GoodE : End → Prop
  | .ret _ => True
  | .susp _ _ _ _ _ _ fs => NoGen fs
theorem goodE_state {e : End} (h : GoodE e) : GoodS e.genState := by
  cases e with
  | ret r => trivial
  | susp v g l k c p fs => exact h
theorem setIf_get {G : Array GenState} {g i : Nat} {x : GenState} : (G.setIfInBounds g x)[i]? = if i = g ∧ g < G.size then some x else G[i]? := by
  by_cases h : i = g
  · subst h
    by_cases q : i < G.size
    · simp [q]
    · simp [q]
  · rw [if_neg (fun z => h z.1), Array.getElem?_setIfInBounds_ne (Ne.symm h)]
theorem PW.set {G P : Array GenState} (w : PW G P) {g : Nat} {z : GenState} (hz : GoodS z) : PW (G.setIfInBounds g z) (P.setIfInBounds g z) := by
  refine ⟨by simp [w.sz], fun i x y h1 h2 => ?_⟩
  rw [setIf_get] at h1 h2
  by_cases q : i = g ∧ g < G.size
  · rw [if_pos q] at h1
    rw [if_pos ⟨q.1, by rw [← w.sz]; exact q.2⟩] at h2
    cases h1
    cases h2
    exact ⟨hz, rfl, rfl, .inl rfl⟩
  · rw [if_neg q] at h1
    rw [if_neg (by rw [← w.sz]; exact q)] at h2
    exact w.ok i x y h1 h2
theorem Kp.set {G P G1 P1 : Array GenState} (a : Kp G P G1 P1) {g : Nat} {z y0 : GenState} (hy : P[g]? = some y0) (hn : ¬ IsP y0) : Kp G P (G1.setIfInBounds g z) (P1.setIfInBounds g z) := by
  intro i x y h1 h2 h3
  have hne : i ≠ g := fun e => by
    subst e
    rw [hy] at h2
    cases h2
    exact hn h3
  rw [setIf_get, setIf_get, if_neg (fun z => hne z.1), if_neg (fun z => hne z.1)]
  exact a i x y h1 h2 h3
theorem PW.push {G P : Array GenState} (w : PW G P) {c : Code} : PW (G.push (.fresh c)) (P.push (.fresh c)) := by
  refine ⟨by simp [w.sz], fun i x y h1 h2 => ?_⟩
  rw [Array.getElem?_push] at h1 h2
  by_cases q : i = G.size
  · rw [if_pos q] at h1
    rw [if_pos (by rw [← w.sz]; exact q)] at h2
    cases h1
    cases h2
    exact ⟨trivial, rfl, rfl, .inl rfl⟩
  · rw [if_neg q] at h1
    rw [if_neg (by rw [← w.sz]; exact q)] at h2
    exact w.ok i x y h1 h2
theorem Kp.push {G P : Array GenState} (w : PW G P) {c : Code} : Kp G P (G.push (.fresh c)) (P.push (.fresh c)) := by
  intro i x y h1 h2 _
  have hl := (Array.getElem?_eq_some_iff.mp h1).1
  have hl2 := (Array.getElem?_eq_some_iff.mp h2).1
  rw [Array.getElem?_push, Array.getElem?_push, if_neg (by omega), if_neg (by omega)]
  exact ⟨h1, h2⟩
theorem PW.at {G P : Array GenState} (w : PW G P) {g : Nat} {y : GenState} (h : P[g]? = some y) : ∃ x, G[g]? = some x ∧ GoodS y ∧ y.seen = x.seen ∧ y.bare = x.bare ∧ (x = y ∨ IsP y) := by
  have hl := (Array.getElem?_eq_some_iff.mp h).1
  have hl2 : g < G.size := by rw [w.sz]; exact hl
  exact ⟨G[g], Array.getElem?_eq_getElem hl2, w.ok g _ _ (Array.getElem?_eq_getElem hl2) h⟩
theorem PW.same {G P : Array GenState} (w : PW G P) {g : Nat} {y : GenState} (h : P[g]? = some y) (n : ¬ IsP y) : G[g]? = some y := by
  obtain ⟨x, h1, _, _, _, h2⟩ := w.at h
  rcases h2 with rfl | h2
  · exact h1
  · exact absurd h2 n
theorem noRun0 {M : Model} {Γ : Ctx} {p : Pos} {w : String} {s s' : Shared} {e : End} : ¬ Runs M Γ p (.unsupported w) [] s e s' := fun h => by cases h
theorem noRun {M : Model} {Γ : Ctx} {p : Pos} {w : String} {s s' : Shared} {e : End} {fs : List Frame} : ¬ Runs M Γ p (.unsupported w) fs s e s' := fun h => by
  cases h with
  | segRet a b => exact noRun0 a
  | segGen a b => exact noRun0 a
  | segSuspOut a b => exact noRun0 b
  | segSuspGen a b c d => exact noRun0 b
theorem notP {M : Model} {Γ : Ctx} {p : Pos} {k : Resume → Sem PySem.Fin} {r : Resume} {s s' : Shared} {e : End} {fs : List Frame} {l : List Value} {c : Code} {q : Pos} {cl : Bool} (hr : Runs M Γ p (k r) fs s e s') : ¬ IsP (.suspended k l c q fs cl) := fun z => by
  obtain ⟨_, _, _, _, _, z, _⟩ := z
  cases z
  exact noRun hr
def Lf (s : Shared) (G : Array GenState) : Shared := { s with gens := G }
theorem unpoison {M : Model} {Γ : Ctx} {p : Pos} {t : Sem PySem.Fin} {fs : List Frame} {s s' : Shared} {e : End} (h : Runs M Γ p t fs s e s') :
    ∀ G, NoGen fs → PW G s.gens → ∃ G', Runs M Γ p t fs (Lf s G) e (Lf s' G') ∧ PW G' s'.gens ∧ Kp G s.gens G' s'.gens ∧ GoodE e := by
  induction h with
  | done => exact fun G _ hw => ⟨G, .done, hw, .refl, trivial⟩
  | raise => exact fun G _ hw => ⟨G, .raise, hw, .refl, trivial⟩
  | again hq _ ih => exact fun G hf hw => let ⟨G', r, a⟩ := ih G hf hw; ⟨G', .again hq r, a⟩
  | rule _ ih => exact fun G hf hw => let ⟨G', r, a⟩ := ih G hf hw; ⟨G', .rule r, a⟩
  | «at» _ ih => exact fun G hf hw => let ⟨G', r, a⟩ := ih G hf hw; ⟨G', .at r, a⟩
  | load hq _ ih => exact fun G hf hw => let ⟨G', r, a⟩ := ih G hf hw; ⟨G', .load hq r, a⟩
  | update hq _ ih => exact fun G hf hw => let ⟨G', r, a⟩ := ih G hf hw; ⟨G', .update hq r, a⟩
  | loadIfAlive _ ih => exact fun G hf hw => let ⟨G', r, a⟩ := ih G hf hw; ⟨G', .loadIfAlive r, a⟩
  | point _ ih => exact fun G hf hw => let ⟨G', r, a⟩ := ih G hf hw; ⟨G', .point r, a⟩
  | alloc _ ih => exact fun G hf hw => let ⟨G', r, a⟩ := ih G hf hw; ⟨G', .alloc r, a⟩
  | fresh _ ih => exact fun G hf hw => let ⟨G', r, a⟩ := ih G hf hw; ⟨G', .fresh r, a⟩
  | ask _ ih => exact fun G hf hw => let ⟨G', r, a⟩ := ih G hf hw; ⟨G', .ask r, a⟩
  | choose hq _ ih => exact fun G hf hw => let ⟨G', r, a⟩ := ih G hf hw; ⟨G', .choose hq r, a⟩
  | os _ ih => exact fun G hf hw => let ⟨G', r, a⟩ := ih G hf hw; ⟨G', .os r, a⟩
  | handled _ ih => exact fun G hf hw => let ⟨G', r, a⟩ := ih G hf hw; ⟨G', .handled r, a⟩
  | genState hq _ ih =>
    intro G hf hw
    obtain ⟨x, h1, _, h2, _, _⟩ := hw.at hq
    obtain ⟨G', r, a⟩ := ih G hf hw
    rw [h2] at r
    exact ⟨G', .genState h1 r, a⟩
  | stack _ ih => exact fun G hf hw => let ⟨G', r, a⟩ := ih G hf hw; ⟨G', .stack r, a⟩
  | thread _ ih => exact fun G hf hw => let ⟨G', r, a⟩ := ih G hf hw; ⟨G', .thread r, a⟩
  | newGen _ ih =>
    intro G hf hw
    obtain ⟨G', r, a, b, c⟩ := ih (G.push (.fresh _)) hf hw.push
    rw [← hw.sz] at r
    exact ⟨G', .newGen r, a, (Kp.push hw).trans b, c⟩
  | call _ _ ih1 ih2 =>
    intro G hf hw
    obtain ⟨G1, r1, a1, b1, _⟩ := ih1 G rfl hw
    obtain ⟨G2, r2, a2, b2, c2⟩ := ih2 G1 rfl a1
    exact ⟨G2, .call r1 r2, a2, b1.trans b2, c2⟩
  | callSusp _ ih1 =>
    intro G hf hw
    obtain ⟨G1, r1, a1, b1, c1⟩ := ih1 G rfl hw
    exact ⟨G1, .callSusp r1, a1, b1, noGen_app c1 (noGen_ret.mpr rfl)⟩
  | yield => exact fun G _ hw => ⟨G, .yield, hw, .refl, rfl⟩
  | resumeFresh hq _ hu _ ih1 ih2 =>
    intro G hf hw
    have np : ∀ c, ¬ IsP (.fresh c) := fun c z => by obtain ⟨_, _, _, _, _, z, _⟩ := z; cases z
    have h1 := hw.same hq (np _)
    obtain ⟨G1, r1, a1, b1, c1⟩ := ih1 _ rfl (hw.set (z := .running) trivial)
    obtain ⟨G2, r2, a2, b2, c2⟩ := ih2 _ rfl (a1.set (goodE_state c1))
    exact ⟨G2, .resumeFresh h1 r1 hu r2, a2, ((((Kp.refl).set hq (np _)).trans b1).set hq (np _)).trans b2, c2⟩
  | resumeSuspended hq hr hu _ ih1 ih2 =>
    intro G hf hw
    obtain ⟨x, h1, h2, h3, _, h4⟩ := hw.at hq
    obtain rfl := h4.resolve_right (notP hr)
    obtain ⟨G1, r1, a1, b1, c1⟩ := ih1 _ h2 (hw.set (z := .running) trivial)
    obtain ⟨G2, r2, a2, b2, c2⟩ := ih2 _ rfl (a1.set (goodE_state c1))
    exact ⟨G2, .resumeSuspended h1 r1 hu r2, a2, ((((Kp.refl).set hq (notP hr)).trans b1).set hq (notP hr)).trans b2, c2⟩
  | resumeJustStarted hq hv _ ih =>
    intro G hf hw
    have np : ∀ c, ¬ IsP (.fresh c) := fun c z => by obtain ⟨_, _, _, _, _, z, _⟩ := z; cases z
    obtain ⟨G', r, a⟩ := ih G hf hw
    exact ⟨G', .resumeJustStarted (hw.same hq (np _)) hv r, a⟩
  | resumeThrowFresh hq _ ih =>
    intro G hf hw
    have np : ∀ c, ¬ IsP (.fresh c) := fun c z => by obtain ⟨_, _, _, _, _, z, _⟩ := z; cases z
    obtain ⟨G', r, a, b, c⟩ := ih _ hf (hw.set (z := .finished) trivial)
    exact ⟨G', .resumeThrowFresh (hw.same hq (np _)) r, a, ((Kp.refl).set hq (np _)).trans b, c⟩
  | resumeRunning hq _ ih =>
    intro G hf hw
    have np : ¬ IsP .running := fun z => by obtain ⟨_, _, _, _, _, z, _⟩ := z; cases z
    obtain ⟨G', r, a⟩ := ih G hf hw
    exact ⟨G', .resumeRunning (hw.same hq np) r, a⟩
  | resumeFinished hq _ ih =>
    intro G hf hw
    have np : ¬ IsP .finished := fun z => by obtain ⟨_, _, _, _, _, z, _⟩ := z; cases z
    obtain ⟨G', r, a⟩ := ih G hf hw
    exact ⟨G', .resumeFinished (hw.same hq np) r, a⟩
  | segRet _ _ ih1 ih2 =>
    intro G hf hw
    obtain ⟨G1, r1, a1, b1, _⟩ := ih1 G rfl hw
    obtain ⟨G2, r2, a2, b2, c2⟩ := ih2 G1 (noGen_ret.mp hf) a1
    exact ⟨G2, .segRet r1 r2, a2, b1.trans b2, c2⟩
  | segGen _ _ ih1 ih2 => exact fun G hf hw => absurd hf noGen_gen
  | segSuspOut hq _ ih =>
    intro G hf hw
    obtain ⟨G1, r1, a1, b1, c1⟩ := ih G rfl hw
    exact ⟨G1, .segSuspOut hq r1, a1, b1, noGen_app c1 hf⟩
  | segSuspGen hq _ _ _ _ _ =>
    intro G hf hw
    unfold NoGen at hf
    rw [hq] at hf
    cases hf
theorem psn_bare (x : GenState) : (psn x).bare = x.bare := by cases x <;> rfl
theorem psn_or (x : GenState) : x = psn x ∨ IsP (psn x) := by
  cases x with
  | suspended k l c p fs cl => exact .inr ⟨_, _, _, _, _, rfl, noGen_pfr fs⟩
  | _ => exact .inl rfl
theorem PW.psn (G : Array GenState) : PW G (G.map psn) := by
  refine ⟨by simp, fun i x y h1 h2 => ?_⟩
  rw [Array.getElem?_map, h1] at h2
  cases h2
  exact ⟨psn_good x, psn_seen x, psn_bare x, psn_or x⟩
theorem wakes_un {M : Model} {Γ : Ctx} {p : Pos} {g : Nat} {r : Resume} {s s' : Shared} {res : GenResult} (h : Wakes M Γ p g r s res s') {G : Array GenState} (hw : PW G s.gens) :
    ∃ G', Wakes M Γ p g r (Lf s G) res (Lf s' G') ∧ PW G' s'.gens ∧ Kp G s.gens G' s'.gens := by
  unfold Wakes at h
  have np : ∀ c, ¬ IsP (.fresh c) := fun c z => by obtain ⟨_, _, _, _, _, z, _⟩ := z; cases z
  have np1 : ¬ IsP .running := fun z => by obtain ⟨_, _, _, _, _, z, _⟩ := z; cases z
  have np2 : ¬ IsP .finished := fun z => by obtain ⟨_, _, _, _, _, z, _⟩ := z; cases z
  have eg : (Lf s G).gens[g]? = G[g]? := rfl
  cases hq : s.gens[g]? with
  | none => rw [hq] at h; exact h.elim
  | some st =>
    rw [hq] at h
    cases st with
    | fresh c =>
      have h1 := hw.same hq (np c)
      cases r with
      | send v =>
        by_cases hv : v = .none
        · subst hv
          obtain ⟨e₁, s₁, hr, hu, rfl, rfl⟩ := h
          obtain ⟨G1, r1, a1, b1, c1⟩ := unpoison hr _ rfl (hw.set (z := .running) trivial)
          refine ⟨G1.setIfInBounds g e₁.genState, ?_, a1.set (goodE_state c1), (((Kp.refl).set hq (np c)).trans b1).set hq (np c)⟩
          unfold Wakes
          rw [eg, h1]
          exact ⟨e₁, _, r1, hu, rfl, rfl⟩
        · have h : res = .justStarted ∧ s' = s := by
            cases v <;> first | exact absurd rfl hv | exact h
          obtain ⟨rfl, rfl⟩ := h
          refine ⟨G, ?_, hw, .refl⟩
          unfold Wakes
          rw [eg, h1]
          cases v <;> first | exact absurd rfl hv | exact ⟨rfl, rfl⟩
      | throw x =>
        obtain ⟨rfl, rfl⟩ := h
        refine ⟨G.setIfInBounds g .finished, ?_, hw.set trivial, (Kp.refl).set hq (np c)⟩
        unfold Wakes
        rw [eg, h1]
        exact ⟨rfl, rfl⟩
    | suspended k l c q fs cl =>
      obtain ⟨e₁, s₁, hr, hu, rfl, rfl⟩ := h
      obtain ⟨x, h1, h2, h3, _, h4⟩ := hw.at hq
      obtain rfl := h4.resolve_right (notP hr)
      obtain ⟨G1, r1, a1, b1, c1⟩ := unpoison hr _ h2 (hw.set (z := .running) trivial)
      refine ⟨G1.setIfInBounds g e₁.genState, ?_, a1.set (goodE_state c1), (((Kp.refl).set hq (notP hr)).trans b1).set hq (notP hr)⟩
      unfold Wakes
      rw [eg, h1]
      exact ⟨e₁, _, r1, hu, rfl, rfl⟩
    | running =>
      obtain ⟨rfl, rfl⟩ := h
      refine ⟨G, ?_, hw, .refl⟩
      unfold Wakes
      rw [eg, hw.same hq np1]
      exact ⟨rfl, rfl⟩
    | finished =>
      obtain ⟨rfl, rfl⟩ := h
      refine ⟨G, ?_, hw, .refl⟩
      unfold Wakes
      rw [eg, hw.same hq np2]
      exact ⟨rfl, rfl⟩
def UnQ {α : Type} (G0 P0 : Array GenState) (Q : α → Pos → Shared → Prop) : α → Pos → Shared → Prop := fun a p s => ∃ P', Q a p (Lf s P') ∧ PW s.gens P' ∧ Kp G0 P0 s.gens P'
theorem wp_un {α : Type} {M : Model} {Γ : Ctx} {G0 P0 : Array GenState} {Q : α → Pos → Shared → Prop} {E : Value → Pos → Shared → Prop} (t : Sem α) : ∀ (p : Pos) (s : Shared) (G : Array GenState), Sem.wp M Γ t Q E p s → PW G s.gens → Kp G0 P0 G s.gens → Sem.wp M Γ t (UnQ G0 P0 Q) (UnQ G0 P0 E) p (Lf s G) := by
  induction t with
  | pure a =>
    intro p s G h hw hk
    rw [Sem.wp] at h ⊢
    exact ⟨s.gens, h, hw, hk⟩
  | raise a =>
    intro p s G h hw hk
    rw [Sem.wp] at h ⊢
    exact ⟨s.gens, h, hw, hk⟩
  | unsupported w =>
    intro p s G h hw hk
    rw [Sem.wp] at h
    exact h.elim
  | finish w =>
    intro p s G h hw hk
    rw [Sem.wp] at h
    exact h.elim
  | rule tag k ih =>
    intro p s G h hw hk
    rw [Sem.wp] at h ⊢
    exact ih () p s G h hw hk
  | «at» q k ih =>
    intro p s G h hw hk
    rw [Sem.wp] at h ⊢
    exact ih () q s G h hw hk
  | load a part k ih =>
    intro p s G h hw hk
    rw [Sem.wp] at h ⊢
    obtain ⟨o, h1, h2⟩ := h
    exact ⟨o, h1, ih o p s G h2 hw hk⟩
  | update a part f k ih =>
    intro p s G h hw hk
    rw [Sem.wp] at h ⊢
    exact ⟨h.1, ih () p { s with heap := s.heap.update a f } G h.2 hw hk⟩
  | alloc o k ih =>
    intro p s G h hw hk
    rw [Sem.wp] at h ⊢
    exact ih _ p { s with heap := s.heap.push o } G h hw hk
  | loadIfAlive a k ih =>
    intro p s G h hw hk
    rw [Sem.wp] at h ⊢
    exact ih _ p s G h hw hk
  | point l k ih =>
    intro p s G h hw hk
    rw [Sem.wp] at h ⊢
    exact ih () p s G h hw hk
  | register a k ih =>
    intro p s G h hw hk
    rw [Sem.wp] at h
    exact h.elim
  | fresh k ih =>
    intro p s G h hw hk
    rw [Sem.wp] at h ⊢
    exact ih _ p { s with toks := s.toks + 1 } G h hw hk
  | ask k ih =>
    intro p s G h hw hk
    rw [Sem.wp] at h ⊢
    exact ih _ p s G h hw hk
  | choose src n k ih =>
    intro p s G h hw hk
    rw [Sem.wp] at h ⊢
    exact ⟨h.1, ih _ p { s with drawn := s.drawn.bump src } G h.2 hw hk⟩
  | os q l k ih =>
    intro p s G h hw hk
    rw [Sem.wp] at h ⊢
    exact ih _ p { s with os := (Os.step s.os q).1 } G h hw hk
  | call c hh g l k ih =>
    intro p s G h hw hk
    rw [Sem.wp] at h ⊢
    obtain ⟨r, s1, h1, h2⟩ := h
    obtain ⟨G1, r1, a1, b1, _⟩ := unpoison h1 G rfl hw
    exact ⟨r, Lf s1 G1, r1, ih r p s1 G1 h2 a1 (hk.trans b1)⟩
  | handled own k ih =>
    intro p s G h hw hk
    rw [Sem.wp] at h ⊢
    exact ih _ p s G h hw hk
  | newGen c k ih =>
    intro p s G h hw hk
    rw [Sem.wp] at h ⊢
    have z := ih _ p { s with gens := s.gens.push (.fresh c) } (G.push (.fresh c)) h hw.push (hk.trans (Kp.push hw))
    rw [← hw.sz] at z
    exact z
  | genState g k ih =>
    intro p s G h hw hk
    rw [Sem.wp] at h ⊢
    obtain ⟨st, h1, h2⟩ := h
    obtain ⟨x, q1, _, q2, _, _⟩ := hw.at h1
    rw [q2] at h2
    exact ⟨x, q1, ih _ p s G h2 hw hk⟩
  | resume g r l k ih =>
    intro p s G h hw hk
    rw [Sem.wp] at h ⊢
    obtain ⟨res, s1, h1, h2⟩ := h
    obtain ⟨G1, r1, a1, b1⟩ := wakes_un h1 hw
    exact ⟨res, Lf s1 G1, r1, ih res p s1 G1 h2 a1 (hk.trans b1)⟩
  | yield v g l k ih =>
    intro p s G h hw hk
    rw [Sem.wp] at h
    exact h.elim
  | stack k ih =>
    intro p s G h hw hk
    rw [Sem.wp] at h ⊢
    exact ih _ p s G h hw hk
  | fork c k ih =>
    intro p s G h hw hk
    rw [Sem.wp] at h
    exact h.elim
  | thread k ih =>
    intro p s G h hw hk
    rw [Sem.wp] at h ⊢
    exact ih _ p s G h hw hk
  | await a tk tm l k ih =>
    intro p s G h hw hk
    rw [Sem.wp] at h
    exact h.elim
def Sleep (G G' : Array GenState) : Prop := ∀ (i : Nat) (k : Resume → Sem PySem.Fin) (l : List Value) (c : Code) (p : Pos) (fs : List Frame) (cl : Bool), G[i]? = some (.suspended k l c p fs cl) → G'[i]? = some (.suspended k l c p fs cl)
theorem kp_sleep {G G' P' : Array GenState} (h : Kp G (G.map psn) G' P') : Sleep G G' := fun i k l c p fs cl e => by
  have e2 : (G.map psn)[i]? = some (psn (.suspended k l c p fs cl)) := by
    rw [Array.getElem?_map, e]
    rfl
  exact (h i _ _ e e2 ⟨_, _, _, _, _, rfl, noGen_pfr fs⟩).1
open PyProof.Rows in
theorem bare_psn {G : Array GenState} (h : AllBare G) : AllBare (G.map psn) := fun y hy => by
  obtain ⟨x, hx, rfl⟩ := Array.mem_map.mp hy
  rw [psn_bare]
  exact h x hx
open PyProof.Rows in
theorem PW.bare {G P : Array GenState} (w : PW G P) (h : AllBare P) : AllBare G := fun x hx => by
  obtain ⟨i, hi⟩ := Array.getElem?_of_mem hx
  have hl := (Array.getElem?_eq_some_iff.mp hi).1
  have hl2 : i < P.size := by rw [← w.sz]; exact hl
  have e := Array.getElem?_eq_getElem hl2
  obtain ⟨_, _, b, _⟩ := w.ok i _ _ hi e
  rw [← b]
  exact h _ (Array.mem_of_getElem? e)
end Cs
namespace Cs
open PySem GenW
open Sem (wp)
def Sg (M : Model) (A : Around) (Φ : End → Shared → Prop) (c : Code) (t : Sem PySem.Fin) (fs : List Frame) (s : Shared) : Prop :=
  ∀ Γ p, Γ.code = c → Γ.Woken A → ∃ e s', Runs M Γ p t fs s e s' ∧ Φ e s'
section
variable {M : Model} {A : Around} {Φ : End → Shared → Prop} {c : Code} {fs : List Frame} {s : Shared}
theorem sg_wrap {α : Type} {m : Sem α} {K : α → Sem PySem.Fin} {H : Value → Sem PySem.Fin} {gd lv}
    (h : wpAny M (A.over c fs) m (fun a s' => Sg M A Φ c (K a) fs s') (fun x s' => Sg M A Φ c (H x) fs s') s) : Sg M A Φ c (m.wrap K H gd lv) fs s := by
  rintro Γ p rfl hΓ
  exact runs_wrap_of_wp K H gd lv m (h (Γ.over fs) p (hΓ.over fs)) (fun a p' s' h' => h' Γ p' rfl hΓ) (fun x p' s' h' => h' Γ p' rfl hΓ)
theorem sg_at {p' : Pos} {k : Unit → Sem PySem.Fin} (h : Sg M A Φ c (k ()) fs s) : Sg M A Φ c (.at p' k) fs s :=
  sg_wrap (m := standAt p') (K := k) (H := .raise) (gd := id) (lv := id) (wpAny_standAt h)
theorem sg_point {l : List Value} {k : Unit → Sem PySem.Fin} (h : Sg M A Φ c (k ()) fs s) : Sg M A Φ c (.point l k) fs s :=
  sg_wrap (m := point) (K := k) (H := .raise) (gd := id) (lv := fun _ => l) (wpAny_point h)
theorem sg_call {c' : Code} {h g l} {k : Result → Sem PySem.Fin} (hc : ∀ p, Sg M A Φ c' (M.den c') (.ret k h g l c p [] :: fs) s) : Sg M A Φ c (.call c' h g l k) fs s := by
  rintro Γ p rfl hΓ
  obtain ⟨e, s', hr, he⟩ := hc p (Γ.goto c') p rfl (hΓ.goto c')
  exact ⟨e, s', runs_call_seg hr, he⟩
theorem sg_leaf {k h g l c₁ p₁ kp} (r : Result) (hk : Sg M A Φ c₁ (k r) fs s) : Sg M A Φ c (leafOf r) (.ret k h g l c₁ p₁ kp :: fs) s := by
  rintro Γ p rfl hΓ
  obtain ⟨e, s', hr, he⟩ := hk (Γ.goto c₁) p₁ rfl (hΓ.goto c₁)
  exact ⟨e, s', Runs.pop r hr, he⟩
theorem sg_again {c' : Code} (hq : c'.quiet = true) (hc : Sg M A Φ c' (M.den c') fs s) : Sg M A Φ c (.pure (.again c')) fs s := by
  rintro Γ p rfl hΓ
  obtain ⟨e, s', hr, he⟩ := hc (Γ.goto c') p rfl (hΓ.goto c')
  exact ⟨e, s', Runs.head (c₁ := c') (fun _ _ x => .again hq x) hr, he⟩
theorem sg_end (r : Result) (h : Φ (.ret r) s) : Sg M A Φ c (leafOf r) [] s := by
  rintro Γ p rfl _
  exact ⟨.ret r, s, Runs.leaf r, h⟩
theorem sg_yield {v g l} {k : Resume → Sem PySem.Fin} (hfs : splitAtGen fs = none) (h : ∀ p, Φ (.susp v g l k c p fs) s) : Sg M A Φ c (.yield v g l k) fs s := by
  rintro Γ p rfl _
  exact ⟨_, s, Runs.yield' fs hfs, h p⟩
end
section
variable {M : Model} {A : Around} {Φ : End → Shared → Prop} {c : Code} {fs : List Frame} {s : Shared} {env : Env} {K : Flow → Sem PySem.Fin} {H : Value → Sem PySem.Fin} {gd : Bool → Bool} {lv : List Value → List Value}
theorem sg_execs_cons {st : Stmt} {rest : List Stmt}
    (h : Sg M A Φ c ((exec st env).wrap (fun f => match f with | .next => (execs rest env).wrap K H gd lv | f => K f) H gd lv) fs s) : Sg M A Φ c ((execs (st :: rest) env).wrap K H gd lv) fs s := by
  rw [execs_cons_wrap]; exact h
theorem execs_app_wrap : ∀ (a b : List Stmt) (K : Flow → Sem PySem.Fin), (execs (a ++ b) env).wrap K H gd lv = (execs a env).wrap (fun f => match f with | .next => (execs b env).wrap K H gd lv | f => K f) H gd lv
  | [], b, K => rfl
  | st :: a, b, K => by
    rw [List.cons_append, execs_cons_wrap, execs_cons_wrap]
    refine Sem.wrap_congr _ _ _ (fun f => ?_) (fun _ => rfl)
    cases f with
    | next => exact execs_app_wrap a b K
    | _ => rfl
theorem sg_Expr_Yield {e : Expr} {ypos pos : Pos} (hfs : splitAtGen fs = none) (hgd : gd false = false) (hfg : fs.any Frame.guarded = false)
    (h : wpAny M (A.over c fs) (eval e env) (fun v s' => ∀ (k : Resume → Sem PySem.Fin) (l : List Value) (p : Pos), k (.send .none) = K .next → (End.susp v (gd false) l k c p fs).quiet = true → Φ (.susp v (gd false) l k c p fs) s')
      (fun x s' => Sg M A Φ c (H x) fs s') s) (hco : env.scope.isCoroutine = false := by rfl) (hi : interactive env = false := by rfl) :
    Sg M A Φ c ((exec (.Expr (.Yield (some e) ypos) pos) env).wrap K H gd lv) fs s := by
  rw [exec_Expr env _ pos hi rfl]
  show Sg M A Φ c (.at pos fun _ => ((eval e env >>= fun v => (standAt ypos >>= fun _ => yieldOut env v)) >>= fun x =>
    dropValue (.Yield (some e) ypos) pos x).wrap K H gd lv) fs s
  have hy : ∀ v, yieldOut env v = yieldValue v := fun v => by simp only [yieldOut, hco, Bool.false_eq_true, if_false]
  simp only [hy]
  refine sg_at ?_
  rw [Sem.bind_eq_wrap', Sem.bind_eq_wrap', Sem.wrap_wrap, Sem.wrap_wrap]
  refine sg_wrap (wpAny_mono h (fun v s' h' => ?_) fun _ _ x => x)
  refine sg_at (sg_yield hfs fun p => h' _ _ p ?_ ?_)
  · rfl
  · simp [End.quiet, hgd, hfg]
theorem sg_While {test : Expr} {body orelse : List Stmt} {pos : Pos}
    (h : ∀ p, Sg M A Φ (.whileLoop test body orelse env) (M.den (.whileLoop test body orelse env))
      (.ret (fun r => ((match r with | .ok f => (.pure f : Sem Flow) | .error e => .raise e).onRaise fun (x : Value) => do
        if (← field x 1) == Value.none then unsupported "frame.own-activation:exception-without-traceback"
        setFlight x env.frame).wrap K H gd lv) none (gd false) (lv []) c p [] :: fs) s) :
    Sg M A Φ c ((exec (.While test body orelse pos) env).wrap K H gd lv) fs s :=
  sg_at (sg_call h)
end
section
variable {prog : Program} {w : World} {A : Around} {Φ : End → Shared → Prop} {fs : List Frame} {s : Shared} {env : Env}
theorem sg_whileLoop {test : Expr} {body orelse : List Stmt}
    (h : wpAny (model prog w) (A.over (.whileLoop test body orelse env) fs) (isTrue test env (eval test env)) (fun b s' =>
        if b = true then
          Sg (model prog w) A Φ (.whileLoop test body orelse env) ((execs body env).wrap (fun f => match f with
            | .next | .cont => .pure (.again (.whileLoop test body orelse env))
            | .brk => .pure (.done .next)
            | .ret v => .pure (.done (.ret v))) (fun e => (do noteFrame e env; theTreesLotGoes e : Sem Unit).wrap (fun _ => .raise e) .raise id id) id id) fs s'
        else Sg (model prog w) A Φ (.whileLoop test body orelse env) ((execs orelse env).wrap (fun f => .pure (.done f)) (fun e => (do noteFrame e env; theTreesLotGoes e : Sem Unit).wrap (fun _ => .raise e) .raise id id) id id) fs s')
      (fun x s' => Sg (model prog w) A Φ (.whileLoop test body orelse env) ((do noteFrame x env; theTreesLotGoes x : Sem Unit).wrap (fun _ => .raise x) .raise id id) fs s') s) :
    Sg (model prog w) A Φ (.whileLoop test body orelse env) ((model prog w).den (.whileLoop test body orelse env)) fs s := by
  show Sg _ A Φ _ ((whileTurn test body orelse env).onRaise (fun x => do noteFrame x env; theTreesLotGoes x)) fs s
  unfold whileTurn
  rw [Sem.onRaise_eq_wrap, Sem.bind_eq_wrap', Sem.wrap_wrap]
  refine sg_wrap (wpAny_mono h (fun b s' hb => ?_) fun x s' hx => ?_)
  · cases b with
    | true =>
      rw [if_pos rfl] at hb
      show Sg _ A Φ _ (Sem.wrap _ _ _ _ (if true = true then _ else _)) fs s'
      rw [if_pos rfl, Sem.bind_eq_wrap', Sem.wrap_wrap]
      rw [Sem.wrap_congr (execs body env) _ _ (K' := fun f => match f with
            | .next | .cont => .pure (.again (.whileLoop test body orelse env))
            | .brk => .pure (.done .next)
            | .ret v => .pure (.done (.ret v))) (H' := (fun e => (do noteFrame e env; theTreesLotGoes e : Sem Unit).wrap (fun _ => .raise e) .raise id id))
        (fun f => by cases f <;> rfl)
        (fun e => by first | exact Sem.bind_eq_wrap _ _ | (show (do noteFrame e env; theTreesLotGoes e : Sem Unit).bind (fun _ => .raise e) = _; rw [Sem.bind_eq_wrap]))]
      exact hb
    | false =>
      rw [if_neg Bool.false_ne_true] at hb
      show Sg _ A Φ _ (Sem.wrap _ _ _ _ (if false = true then _ else _)) fs s'
      rw [if_neg Bool.false_ne_true, Sem.bind_eq_wrap', Sem.wrap_wrap]
      rw [Sem.wrap_congr (execs orelse env) _ _ (K' := fun f => (.pure (.done f) : Sem PySem.Fin)) (H' := (fun e => (do noteFrame e env; theTreesLotGoes e : Sem Unit).wrap (fun _ => .raise e) .raise id id))
        (fun f => by rfl)
        (fun e => by first | exact Sem.bind_eq_wrap _ _ | (show (do noteFrame e env; theTreesLotGoes e : Sem Unit).bind (fun _ => .raise e) = _; rw [Sem.bind_eq_wrap]))]
      exact hb
  · first
      | (rw [← Sem.bind_eq_wrap] at hx; exact hx)
      | (show Sg _ A Φ _ ((do noteFrame x env; theTreesLotGoes x : Sem Unit).bind fun _ => .raise x) fs s'; rw [Sem.bind_eq_wrap]; exact hx)
theorem sg_func {body : List Stmt}
    (h : Sg (model prog w) A Φ (.func body env) ((execs body env).wrap (fun f => .pure (.done (.ret (match f with | .ret v => v | _ => .none))))
      (fun e => (leaving env e).wrap (fun _ => .raise e) .raise id id) id id) fs s) :
    Sg (model prog w) A Φ (.func body env) ((model prog w).den (.func body env)) fs s := by
  show Sg _ A Φ _ (.point [] fun _ => ((execs body env).onRaise (leaving env)) >>= _) fs s
  refine sg_point ?_
  rw [Sem.onRaise_eq_wrap, Sem.bind_eq_wrap', Sem.wrap_wrap]
  rw [Sem.wrap_congr (execs body env) _ _ (K' := fun f => .pure (.done (.ret (match f with | .ret v => v | _ => .none))))
    (H' := fun e => (leaving env e).wrap (fun _ => .raise e) .raise id id) (fun f => by cases f <;> rfl)
    (fun e => by rw [Sem.bind_eq_wrap, Sem.wrap_wrap]; rfl)]
  exact h
end
def Gs (M : Model) (A : Around) (Φ : End → Shared → Prop) (gs : GenState) (s : Shared) : Prop := match gs with
  | .fresh c => Sg M A Φ c (M.den c) [] s
  | .suspended k _ c _ fs _ => Sg M A Φ c (k (.send .none)) fs s
  | _ => False
section
variable {M : Model} {A : Around} {E : Value → Shared → Prop} {s : Shared}
theorem wpAny_resume1 {g : Nat} {gs : GenState} {Φ : End → Shared → Prop} {l : List Value} {α : Type} {k : GenResult → Sem α} {Q : α → Shared → Prop} (hg : s.gens[g]? = some gs) (hgo : Gs M A Φ gs (s.setGen g .running))
    (hΦ : ∀ e s₁, Φ e s₁ → e.quiet = true ∧ wpAny M A (k e.result) Q E (s₁.setGen g e.genState)) : wpAny M A (.resume g (.send .none) l k) Q E s := by
  intro Γ p hΓ
  rw [Sem.wp_resume]
  have hB : ∀ c, (Γ.wake c p).Woken A := fun c => hΓ.wake c p
  cases gs with
  | fresh c =>
    obtain ⟨e₁, s₁, hr, he⟩ := hgo (Γ.wake c p) p rfl (hB c)
    obtain ⟨h1, h2⟩ := hΦ e₁ s₁ he
    exact ⟨_, _, by unfold Wakes; rw [hg]; exact ⟨e₁, s₁, hr, h1, rfl, rfl⟩, h2 Γ p hΓ⟩
  | suspended k₀ l₀ c₀ p₀ fs₀ cl =>
    obtain ⟨e₁, s₁, hr, he⟩ := hgo (Γ.wake c₀ p) p₀ rfl (hB c₀)
    obtain ⟨h1, h2⟩ := hΦ e₁ s₁ he
    exact ⟨_, _, by unfold Wakes; rw [hg]; exact ⟨e₁, s₁, hr, h1, rfl, rfl⟩, h2 Γ p hΓ⟩
  | running => exact hgo.elim
  | finished => exact hgo.elim
end
section
variable {P : Program} {w : World} {A : Around} {E : Value → Shared → Prop} {s : Shared}
theorem next_gen1 {a : Addr} {g : Nat} {gs : GenState} {Φ : End → Shared → Prop} {Q : Option Value → Shared → Prop} (hh : A.handled = none)
    (hl : s.heap.NoLimit) (hroom : A.depth < recursionLimit) (hg : s.heap.IsGen a g) (hgs : s.gens[g]? = some gs) (hgo : Gs (model P w) A.in1 Φ gs (s.setGen g .running))
    (hΦ : ∀ e s₁, Φ e s₁ → e.quiet = true ∧ match e with
      | .susp v _ _ _ _ _ _ => Q (some v) (s₁.setGen g e.genState)
      | .ret r => (r = .ok (.ret .none) ∨ r = .ok .next) ∧ ∀ h', (∀ b o, s₁.heap.get? b = some o → h'.get? b = some o) → Q none { s₁.setGen g .finished with heap := h' }) :
    wpAny (model P w) A (pyNext (.ref a)) Q E s := by
  unfold pyNext
  refine wpAny_bind (wpAny_attempt (wpAny_callSpecial?_slot (name := Str.ofString "__next__") hg.typeIs slot_gen_next
    (wpAny_call_entry slot_gen_next hg.typeIs entry_gen_next ?_ (args_gen_next _))))
  show wpAny _ A.in1 (Builtin.Generator.genWake (.ref a) (.send .none)) _ _ s
  unfold Builtin.Generator.genWake
  refine wpAny_bind (wpAny_holding (wpAny_genNumber hg (wpAny_bind (wpAny_genState hgs ?_))))
  cases gs with
  | running => exact hgo.elim
  | finished => exact hgo.elim
  | _ =>
    refine wpAny_bind (wpAny_roomToWake hl hroom ?_)
    show wpAny _ A.in1 (.resume g (.send .none) [] _) _ _ s
    refine wpAny_resume1 hgs hgo fun e s₁ he => ?_
    obtain ⟨h1, h2⟩ := hΦ e s₁ he
    refine ⟨h1, ?_⟩
    cases e with
    | ret r =>
      obtain ⟨hr, hp⟩ := h2
      have hres : End.result (.ret r) = .returned .none := by
        rcases hr with hr | hr <;> rw [hr] <;> rfl
      first | rw [hres] | simp only [hres]
      show wpAny _ A.in1 (newExc (.type "StopIteration") [] >>= _) _ _ _
      refine wpAny_bind ?_
      simp only [newExc, newTuple]
      refine wpAny_bind (wpAny_newObj_type ?_ (by size_fits))
      refine wpAny_bind (m := firstArgMember _ _) (wpAny_of_eq (a := Value.none) (by first | rfl | (simp only [firstArgMember]; rfl)) ?_)
      refine wpAny_newObj_type ?_ (by size_fits)
      simp only [raiseNew]
      refine wpAny_bind (wpAny_bind (wpAny_handled ?_))
      first | rw [show A.in1.handled = none from hh] | rw [hh]
      refine wpAny_throw ?_
      refine wpAny_bind (wpAny_isInstance (T := "StopIteration") (b := true) ⟨_, Heap.get?_push_size _ rfl, rfl⟩ isSubtype_stop ?_)
      exact wpAny_pure (hp _ fun b o hb => Heap.get?_push_of_some _ (Heap.get?_push_of_some _ hb))
    | susp v g l k c p fs => exact wpAny_pure ⟨v, rfl, wpAny_pure h2⟩
theorem sleep_wpAny {M : Model} {α : Type} {t : Sem α} {Q : α → Shared → Prop} {E : Value → Shared → Prop} (hb : PyProof.Rows.AllBare s.gens)
    (h : PyProof.Rows.AllBare (s.gens.map psn) → wpAny M A t Q E (Lf s (s.gens.map psn))) : wpAny M A t (fun a s' => Sleep s.gens s'.gens ∧ ∃ P', Q a (Lf s' P') ∧ (PyProof.Rows.AllBare P' → PyProof.Rows.AllBare s'.gens)) (fun e s' => Sleep s.gens s'.gens ∧ ∃ P', E e (Lf s' P') ∧ (PyProof.Rows.AllBare P' → PyProof.Rows.AllBare s'.gens)) s := fun Γ p hΓ => by
  have z := wp_un (G0 := s.gens) (P0 := s.gens.map psn) t p _ s.gens (h (bare_psn hb) Γ p hΓ) (PW.psn s.gens) .refl
  refine Sem.wp_mono _ _ _ (fun a p' s' q => ?_) (fun a p' s' q => ?_) _ _ z
  · obtain ⟨P', q1, q2, q3⟩ := q
    exact ⟨kp_sleep q3, P', q1, q2.bare⟩
  · obtain ⟨P', q1, q2, q3⟩ := q
    exact ⟨kp_sleep q3, P', q1, q2.bare⟩
end
end Cs
namespace Cs
open PySem L2 Evl PyProof.Rows GenW
def cutS (s : Shared) (L : Nat) : Shared := { s with heap := ⟨s.heap.objs.extract 0 L, s.heap.life⟩ }
structure Cut (s0 s : Shared) : Prop where
  os : s0.os = s.os
  get : ∀ b o, s0.heap.get? b = some o ↔ (b < s0.heap.objs.size ∧ s.heap.get? b = some o)
theorem cut_ok {s : Shared} {L : Nat} (h : L ≤ s.heap.objs.size) : (cutS s L).heap.objs.size = L ∧ Cut (cutS s L) s := by
  have hsz : (cutS s L).heap.objs.size = L := by
    show (s.heap.objs.extract 0 L).size = L
    rw [Array.size_extract]
    omega
  refine ⟨hsz, rfl, fun b o => ?_⟩
  rw [hsz]
  have e : (cutS s L).heap.objs[b]? = if b < L then s.heap.objs[b]? else none := by
    show (s.heap.objs.extract 0 L)[b]? = _
    rw [Array.getElem?_extract, Nat.min_eq_left h]
    simp only [Nat.zero_add, Nat.sub_zero]
  unfold Heap.get?
  rw [e]
  by_cases hb : b < L
  · rw [if_pos hb]
    exact ⟨fun h => ⟨hb, h⟩, fun h => h.2⟩
  · rw [if_neg hb]
    exact ⟨fun h => (by cases h), fun h => absurd h.1 hb⟩
def shade (L : Nat) (fp : List Addr) (H : Hp) (h : Heap) : Hp := fun b => match H b with
  | some o => some o
  | none => if L < b ∧ b ∉ fp ∧ (h.get? b).isSome = true then some (.ext fun h' => h'.get? b = h.get? b) else none
section
variable {L : Nat} {fp : List Addr} {H H' : Hp} {h h' : Heap} {b : Addr} {o : HO}
theorem shade_some (e : H b = some o) : shade L fp H h b = some o := by
  unfold shade
  rw [e]
theorem shade_ex : Ex H (shade L fp H h) := fun _ _ e => shade_some e
theorem shade_le (e : H b = none) (hb : ¬ L < b ∨ b ∈ fp) : shade L fp H h b = none := by
  unfold shade
  rw [e]
  dsimp only
  rw [if_neg fun z => hb.elim (fun y => y z.1) fun y => z.2.1 y]
theorem shade_none (e : shade L fp H h b = none) : H b = none := by
  cases q : H b with
  | none => rfl
  | some o => rw [shade_some q] at e; cases e
theorem shade_new {ob : Obj} (e : H b = none) (hb : L < b) (hf : b ∉ fp) (eo : h.get? b = some ob) : shade L fp H h b = some (.ext fun h' => h'.get? b = h.get? b) := by
  unfold shade
  rw [e]
  dsimp only
  rw [if_pos ⟨hb, hf, by rw [eo]; rfl⟩]
theorem shade_cases (e : shade L fp H h b = some o) : H b = some o ∨ (H b = none ∧ o = .ext fun h' => h'.get? b = h.get? b) := by
  cases q : H b with
  | some u => rw [shade_some q] at e; cases e; exact .inl rfl
  | none =>
    unfold shade at e
    rw [q] at e
    dsimp only at e
    split at e
    · cases e
      exact .inr ⟨rfl, rfl⟩
    · cases e
theorem hok_shade {P : Program} {w : World} (x : HOk P w H h) : HOk P w (shade L fp H h) h := fun b u e => by
  rcases shade_cases e with q | ⟨q, rfl⟩
  · exact (x b u q).stay (fun _ _ _ z => z) (fun _ z => shade_some z) fun _ _ z => shade_some z
  · have hb : (h.get? b).isSome = true := by
      unfold shade at e
      rw [q] at e
      dsimp only at e
      split at e
      · rename_i z; exact z.2.2
      · cases e
    obtain ⟨ob, eo⟩ := Option.isSome_iff_exists.mp hb
    refine ⟨rfl, ⟨ob, eo⟩, fun h1 h2 p st => ?_⟩
    have p : h1.get? b = h.get? b := p
    show h2.get? b = h.get? b
    rw [eo] at p ⊢
    exact st ob p
def unsh (H Hs Hs' : Hp) : Hp := fun b => match H b, Hs b with
  | none, some _ => none
  | _, _ => Hs' b
theorem unsh_or {Hs Hs' : Hp} {b : Addr} : unsh H Hs Hs' b = Hs' b ∨ (unsh H Hs Hs' b = none ∧ H b = none ∧ ∃ o, Hs b = some o) := by
  unfold unsh
  cases h1 : H b with
  | some o => exact .inl rfl
  | none =>
    cases h2 : Hs b with
    | some o => exact .inr ⟨rfl, rfl, o, rfl⟩
    | none => exact .inl rfl
theorem unsh_of {Hs Hs' : Hp} {b : Addr} (h : H b ≠ none ∨ Hs b = none) : unsh H Hs Hs' b = Hs' b := by
  rcases unsh_or (H := H) (Hs := Hs) (Hs' := Hs') (b := b) with q | ⟨_, q2, o, q3⟩
  · exact q
  · rcases h with h | h
    · exact absurd q2 h
    · rw [q3] at h; cases h
theorem unsh_at {Hs Hs' : Hp} {b : Addr} {o o' : HO} (h1 : H b = none) (h2 : Hs b = some o) : unsh H Hs Hs' b = none := by
  unfold unsh
  rw [h1, h2]
end
def LocAt (N : List Str) (env : Env) (σ : L2.St) (h : Heap) : Prop := ∃ m, h.Ns env.locals m ∧ ∀ (i : Nat) (x : Str) (v : V), N[i]? = some x → σ[i]? = some (some v) → Vis env.scope x → ∃ u, RelV v u ∧ Look env h m x u
structure GSc (N P : List Str) (sc : Scope) : Prop where
  kind : sc.kind = .function
  co : sc.isCoroutine = false
  gen : sc.isGenerator = true
  nd : N.Nodup
  pre : N.take P.length = P
  par : ∀ x ∈ P, sc.names.lookup x = some .local ∨ sc.names.lookup x = some .cell
  nofree : ∀ y ∈ sc.names, y.2 ≠ .free
theorem GSc.to {N P : List Str} {sc : Scope} (S : GSc N P sc) : GScope N P sc := ⟨S.kind, S.co, S.gen, S.nd, S.pre, S.par, S.nofree⟩
def cellL (L : Nat) (sc : Scope) : List (Str × Addr) := cellsFrom (L + 1) sc.names []
theorem cells_ge : ∀ {names : List (Str × NameKind)} {n m : Nat} {acc : List (Str × Addr)} {q : Str × Addr}, m ≤ n → (∀ p ∈ acc, m ≤ p.2) → q ∈ cellsFrom n names acc → m ≤ q.2
  | [], _, _, _, _, _, ha, h => ha _ h
  | (x, k) :: l, n, m, acc, q, hn, ha, h => by
    unfold cellsFrom at h
    split at h
    · refine cells_ge (n := n + 1) (by omega) (fun p hp => ?_) h
      rcases List.mem_cons.mp hp with rfl | hp
      · exact hn
      · exact ha p hp
    · exact cells_ge hn ha h
theorem cells_one : ∀ {names : List (Str × NameKind)} {n : Nat} {acc : List (Str × Addr)} {x y : Str} {c : Addr}, (∀ p ∈ acc, p.2 < n) → (∀ x y c, (x, c) ∈ acc → (y, c) ∈ acc → x = y) →
    (x, c) ∈ cellsFrom n names acc → (y, c) ∈ cellsFrom n names acc → x = y
  | [], _, _, _, _, _, _, hi, h1, h2 => hi _ _ _ h1 h2
  | (z, k) :: r, n, acc, x, y, c, hl, hi, h1, h2 => by
    unfold cellsFrom at h1 h2
    split at h1
    · rename_i hk
      rw [if_pos hk] at h2
      refine cells_one (n := n + 1) (fun p hp => ?_) (fun x y c a b => ?_) h1 h2
      · rcases List.mem_cons.mp hp with rfl | hp
        · exact Nat.lt_succ_self _
        · exact Nat.lt_succ_of_lt (hl p hp)
      · rcases List.mem_cons.mp a with e | a
        · cases e
          rcases List.mem_cons.mp b with e | b
          · cases e; rfl
          · exact absurd (hl _ b) (Nat.lt_irrefl _)
        · rcases List.mem_cons.mp b with e | b
          · cases e; exact absurd (hl _ a) (Nat.lt_irrefl _)
          · exact hi x y c a b
    · rename_i hk
      rw [if_neg hk] at h2
      exact cells_one hl hi h1 h2
theorem cellL_gt {L : Nat} {sc : Scope} {q : Str × Addr} (h : q ∈ cellL L sc) : L < q.2 := cells_ge (Nat.le_refl _) (fun _ z => by cases z) h
def cellA (L : Nat) (sc : Scope) : List Addr := ((cellL L sc).filter fun q => decide ((cellL L sc).lookup q.1 = some q.2)).map (·.2)
theorem mem_cellA {L : Nat} {sc : Scope} {x : Str} {c : Addr} (h : (cellL L sc).lookup x = some c) : c ∈ cellA L sc :=
  List.mem_map.mpr ⟨(x, c), List.mem_filter.mpr ⟨PySem.mem_of_lookup h, decide_eq_true h⟩, rfl⟩
theorem of_cellA {L : Nat} {sc : Scope} {c : Addr} (h : c ∈ cellA L sc) : ∃ x, (cellL L sc).lookup x = some c := by
  obtain ⟨q, hq, rfl⟩ := List.mem_map.mp h
  exact ⟨q.1, of_decide_eq_true (List.mem_filter.mp hq).2⟩
def CellAt' (L : Nat) (sc : Scope) (H : Hp) (h : Heap) : Prop := ∀ x c, (cellL L sc).lookup x = some c → (∃ v, h.IsCell c v) ∧ H c = none
def gx (P : Program) (w : World) (K : PySem.W.Frag) (mg : Str → Option Value) (base : Heap) (N : List Str) (qual : Str) (sc : Scope) (f : Addr) (cdv : Value) (A : Around) (outer : List Env) (s : Shared) (H : Hp) : Cx :=
  { cxOf (L2N.CX P w) P w K mg base N qual sc f cdv A outer s H (fun _ _ _ => False) with xe := fun _ _ => False }
abbrev WF : WX := fun _ _ _ _ => False
section
variable {P : Program} {w : World} {K : PySem.W.Frag} {mg : Str → Option Value} {base : Heap} {N ps : List Str} {qual : Str} {sc : Scope} {f : Addr} {cdv : Value} {A : Around} {outer : List Env} {s0 s s' : Shared} {H H' : Hp} {σ : L2.St} {fp : List Addr}
theorem gx_takes : L2N.Takes (gx P w K mg base N qual sc f cdv A outer s0 H) WF := fun u s' ⟨_, _, _, _, _, _, _, _, _, _, _, _, _, _, _, _, w⟩ => w
theorem gx_owns : PassesOwn (model P w) (gx P w K mg base N qual sc f cdv A outer s0 H).A (gx P w K mg base N qual sc f cdv A outer s0 H).env (gx P w K mg base N qual sc f cdv A outer s0 H).xe := fun _ _ h => h.elim
theorem funs_cut (cut : Cut s0 s) : ∀ {l : List Env}, (∀ b ∈ frs l, b < s0.heap.objs.size) → s.heap.FunFrames base l → s0.heap.FunFrames base l
  | [], _, _ => trivial
  | env :: l, hs, ⟨hk, ⟨L, o, hf, hn, ho, hd⟩, hr⟩ => by
    have hm : L ∈ frs (env :: l) := by
      unfold frs
      rw [List.filterMap_cons, hf]
      exact List.mem_cons_self
    refine ⟨hk, ⟨L, o, hf, hn, (cut.get L o).mpr ⟨hs L hm, ho⟩, hd⟩, funs_cut cut (fun b hb => hs b ?_) hr⟩
    unfold frs
    rw [List.filterMap_cons, hf]
    exact List.mem_cons_of_mem _ hb
theorem inv_rebase (S : GSc N ps sc) (hd : A.handled = none) (e0 : Env0 P w K mg base A outer s H) (cut : Cut s0 s) (hb : base.objs.size ≤ s0.heap.objs.size) (hfr : ∀ b ∈ frs outer, b < s0.heap.objs.size)
    (hH : H s0.heap.objs.size = none) (loc : LocAt N (envOfC qual sc s0.heap.objs.size f cdv) σ s.heap) (hlen : σ.length = N.length) (hcl : CellAt' s0.heap.objs.size sc H s.heap) (hfp : ∀ x c, (cellL s0.heap.objs.size sc).lookup x = some c → c ∈ fp) :
    Inv (gx P w K mg base N qual sc f cdv A outer s0 (shade s0.heap.objs.size fp H s.heap)) [] σ (shade s0.heap.objs.size fp H s.heap) s := by
  have hsh : ∀ b, b ≤ s0.heap.objs.size → H b = none → shade s0.heap.objs.size fp H s.heap b = none := fun b h e => shade_le e (.inl (by omega))
  refine ⟨⟨e0.mod, S.kind, rfl, rfl, Nat.le_refl _, fun y z c h1 h2 => cells_one (acc := []) (fun _ z => by cases z) (fun _ _ _ z => by cases z) (PySem.mem_of_lookup h1) (PySem.mem_of_lookup h2), fun y hy => ?_, fun y c _ h => Nat.le_of_lt (cellL_gt (PySem.mem_of_lookup h)), fun _ => hd, Around.frames_deeper e0.frames, .inr ⟨rfl, rfl⟩, fun b z => (by cases z), fun b o e => ?_, hb, fun b _ _ z => (by cases z), fun b z => (by cases z), funs_cut cut hfr e0.funs, fun b h => ?_⟩,
    cut.os.symm, e0.bare, Un.kept fun b o e => ((cut.get b o).mp e).2, loc, fun y c h => (hcl y c h).1, hsh _ (Nat.le_refl _) hH, fun y c h => shade_le (hcl y c h).2 (.inr (hfp _ _ h)), fun p hp => (by cases hp), hok_shade e0.hok, hlen⟩
  · have hy : sc.names.lookup y = some .cell ∨ sc.names.lookup y = some .free := hy
    rcases hy with hy | hy
    · exact cell_has hy
    · exact absurd rfl (S.nofree _ (PySem.mem_of_lookup hy))
  · have hlt : b < s0.heap.objs.size := Nat.lt_of_lt_of_le (Heap.lt_size e) hb
    exact ⟨(cut.get b o).mpr ⟨hlt, (e0.bs b o e).1⟩, hsh b (Nat.le_of_lt hlt) (e0.bs b o e).2⟩
  · exact hsh b (Nat.le_of_lt (hfr b h)) (e0.frf b h)
end
section
variable {T : Tx} {B H F H' F' : Hp} {σ : L2.St} {ρ : En} {φ : Nat → List Addr} {O1 O2 : Addr → Prop}
theorem Rel.side (r : Rel T σ B H F ρ φ) (st : Step H F O1 H' F' O2) (exF : Ex F' H') (xt : XT T B H' F') (dj : ∀ a, O φ a → ¬ O1 a) (djB : ∀ a, O1 a → B a = none) : Rel T σ B H' F' ρ φ ∧ ∀ a, O φ a → ¬ O2 a := by
  have far : ∀ a, O φ a → F' a = none ∧ ¬ O2 a := fun a h => by
    obtain ⟨o, e⟩ := r.dom h
    obtain ⟨i, hi⟩ := id h
    refine ⟨?_, fun q => ?_⟩
    · cases ef : F' a with
      | none => rfl
      | some o' =>
        rcases st.fn a o' ef (r.ap i a hi).1 with z | z
        · exact absurd z (dj a h)
        · rw [e] at z; cases z
    · rcases st.on a q with z | z
      · exact dj a h z
      · rw [e] at z; cases z
  refine ⟨⟨r.len, fun a o e => (st.keep a o (r.exB a o e) fun q => ?_).st (r.xt.ntB a o e), exF, r.exP.trans st.ext, fun i d q => ?_, r.xn, r.em, r.nd, r.dj, fun i a h => ⟨(far a ⟨i, h⟩).1, (r.ap i a h).2⟩, xt⟩, fun a h => (far a h).2⟩
  · rw [djB a q] at e; cases e
  · obtain ⟨v, e1, rp⟩ := r.sl i d q
    exact ⟨v, e1, rp.mono (Ex.refl B) st.ext fun a ha o e => (st.keep a o e (dj a ⟨i, ha⟩)).st (rp.nt a ha o e)⟩
theorem Rel.shaded (r : Rel T σ B H F ρ φ) {L : Nat} {fp : List Addr} {h : Heap} : Rel T σ B (shade L fp H h) F ρ φ :=
  ⟨r.len, r.exB.trans shade_ex, r.exF.trans shade_ex, r.exP, fun i d q => by
    obtain ⟨v, e1, rp⟩ := r.sl i d q
    exact ⟨v, e1, rp.mono (Ex.refl B) (Ex.refl F) fun a _ o e => shade_some e⟩, r.xn, r.em, r.nd, r.dj, r.ap, ⟨r.xt.ntF, r.xt.ntB, r.xt.tb.ext shade_ex, fun a ps e => by
    rcases shade_cases e with q | ⟨_, q⟩
    · exact r.xt.ta a ps q
    · cases q⟩⟩
theorem XT.noT {T : Tx} {B H F : Hp} (x : XT T B H F) (hT : T.tb = []) : ∀ a o, H a = some o → Nt o := fun a o h ps e => by
  subst e
  obtain ⟨q, hq⟩ := x.ta a ps h
  rw [hT] at hq
  cases hq
end
end Cs
namespace Cs
open PySem L2 Evl PyProof.Rows GenW
inductive GOut (S : Type) where
  | bad
  | done
  | yld (d : D) (s : S)
def toG : Out (Option D) → GOut En
  | .ok (some d) ρ => .yld d ρ
  | .ok none _ => .done
  | _ => .bad
def gNx (f : M Flw) (k : M (Option D)) : M (Option D) := bnd f fun fl => match fl with
  | .nx => k
  | _ => bad
def gHead (c : M Bool) (f1 : M Flw) (y : M D) : M (Option D) := bnd c fun b => if b = true then gNx f1 (bnd y fun d => ret (some d)) else ret none
theorem objOk_has {P : Program} {w : World} {H : Hp} {h : Heap} {a : Addr} {o : HO} (x : ObjOk P w H h a o) : ∃ ob, h.get? a = some ob := by
  cases o with
  | lst xs => obtain ⟨_, _, _, _, e⟩ := x; exact ⟨_, e⟩
  | tup xs => obtain ⟨_, _, _, ob, e, _⟩ := x; exact ⟨_, e⟩
  | dK kvs => obtain ⟨_, _, _, _, o, _, _, e, _⟩ := x; exact ⟨_, e⟩
  | dT kvs => obtain ⟨_, _, _, _, o, _, _, e, _⟩ := x; exact ⟨_, e⟩
  | set S n => obtain ⟨o, _, _, _, e, _⟩ := x; exact ⟨_, e⟩
  | ins C dx fs => obtain ⟨_, _, _, e, _⟩ := x; exact ⟨_, e⟩
  | own y => exact x
  | xd fs => obtain ⟨_, ⟨_, _, _, e, _⟩, _⟩ := x; exact ⟨_, e⟩
  | rng lo hi => obtain ⟨_, _, _, e⟩ := x; exact ⟨_, e⟩
  | frz ob u => obtain ⟨e, _⟩ := x; exact ⟨_, e⟩
  | tbl ps => exact ⟨_, (show h.get? a = some _ from x)⟩
  | met f y => exact ⟨_, (show h.get? a = some _ from x)⟩
  | ext φ => obtain ⟨_, e, _⟩ := x; exact e
def ow (L : Nat) (g : S5) : List Addr := ((List.range g.ρ.length).flatMap g.φ).filter fun a => decide (L < a)
theorem mem_ow {T : Tx} {B : Hp} {L : Nat} {g : S5} {a : Addr} (r : Okk T B g) (h : O g.φ a) (hL : L < a) : a ∈ ow L g := by
  obtain ⟨i, hi⟩ := h
  refine List.mem_filter.mpr ⟨List.mem_flatMap.mpr ⟨i, List.mem_range.mpr ?_, hi⟩, decide_eq_true hL⟩
  by_cases hl : i < g.ρ.length
  · exact hl
  · rw [r.em i fun d z => hl (List.getElem?_eq_some_iff.mp z).1] at hi
    cases hi
theorem of_ow {L : Nat} {g : S5} {a : Addr} (h : a ∈ ow L g) : O g.φ a ∧ L < a := by
  obtain ⟨h1, h2⟩ := List.mem_filter.mp h
  obtain ⟨i, _, hi⟩ := List.mem_flatMap.mp h1
  exact ⟨⟨i, hi⟩, of_decide_eq_true h2⟩
structure GP where
  P : Program
  w : World
  K : PySem.W.Frag
  mg : Str → Option Value
  base : Heap
  N : List Str
  qual : Str
  sc : Scope
  f : Addr
  cdv : Value
  A : Around
  outer : List Env
  L : Nat
  a : Addr
  G : Gx
abbrev GP.T (p : GP) : Tx := ⟨p.K, p.G.C, p.G.P, p.G.X, p.G.tb⟩
abbrev GP.env (p : GP) : Env := envOfC p.qual p.sc p.L p.f p.cdv
abbrev GP.M (p : GP) : Model := model p.P p.w
def GP.fp (p : GP) (priv : List (Addr × Obj)) : List Addr := cellA p.L p.sc ++ priv.map (·.1)
theorem GP.fp_c {p : GP} {priv : List (Addr × Obj)} : ∀ x c, (cellL p.L p.sc).lookup x = some c → c ∈ p.fp priv := fun x c h => List.mem_append_left _ (mem_cellA h)
structure Asl (p : GP) (B : Hp) (g : S5) (s : Shared) : Prop where
  e0 : Env0 p.P p.w p.K p.mg p.base p.A p.outer s g.H
  hL : p.L < s.heap.objs.size
  hb : p.base.objs.size ≤ p.L
  hfr : ∀ b ∈ frs p.outer, b < p.L
  hH : g.H p.L = none
  loc : LocAt p.N p.env g.σ s.heap
  len : g.σ.length = p.N.length
  rel : Okk p.T B g
  cl : CellAt' p.L p.sc g.H s.heap
  ga : p.L < p.a ∧ (∃ o, s.heap.get? p.a = some o ∧ ∀ v, o.data ≠ .cell v) ∧ g.H p.a = none
structure Trn (p : GP) (fp : List Addr) (B : Hp) (g : S5) (s : Shared) (g' : S5) (gv : List Addr) (s' : Shared) : Prop where
  os : s'.os = s.os
  bare : AllBare s'.gens
  un : Un (frs p.outer) (p.L :: (fp ++ ow p.L g)) g.H g'.H s.heap s'.heap
  hok : HOk p.P p.w g'.H s'.heap
  step : Step g.H g.F (O g.φ) g'.H g'.F (Or2 (O g'.φ) gv)
  hH : g'.H p.L = none
  loc : LocAt p.N p.env g'.σ s'.heap
  len : g'.σ.length = p.N.length
  rel : Okk p.T B g'
  cl : CellAt' p.L p.sc g'.H s'.heap
abbrev S5.sh (g : S5) (L : Nat) (fp : List Addr) (h : Heap) : S5 := { g with H := shade L fp g.H h }
abbrev S5.un (h : S5) (g : S5) (L : Nat) (fp : List Addr) (hp : Heap) : S5 := { h with H := unsh g.H (shade L fp g.H hp) h.H }
section
variable {p : GP} {fp : List Addr} {B : Hp} {g h : S5} {s s0 s' : Shared} {gv : List Addr} {tc : List Nat} {pins : List (Addr × Obj)}
theorem unsh_safe {T : Tx} {L : Nat} {hp : Heap} (rel : Okk T B g) (a : Goes tc (g.sh L fp hp) h gv) {b : Addr} (hb : O h.φ b ∨ b ∈ gv ∨ ∃ o, h.F b = some o) : unsh g.H (shade L fp g.H hp) h.H b = h.H b := by
  have own : O g.φ b → g.H b ≠ none := fun q e => by
    obtain ⟨o, e'⟩ := rel.dom q
    rw [e'] at e; cases e
  have fin : O g.φ b ∨ shade L fp g.H hp b = none → unsh g.H (shade L fp g.H hp) h.H b = h.H b := fun z => z.elim (fun q => unsh_of (.inl (own q))) fun q => unsh_of (.inr q)
  rcases hb with hb | hb | ⟨o, hb⟩
  · exact fin (a.step.on b (.inl hb))
  · exact fin (a.step.on b (.inr hb))
  · cases e : g.F b with
    | some u => exact unsh_of (.inl (by rw [rel.exF b u e]; exact fun z => by cases z))
    | none => exact fin (a.step.fn b o hb e)
theorem keep_sh {T : Tx} {L : Nat} {hp : Heap} (rel : Okk T B g) (a : Goes tc (g.sh L fp hp) h gv) : ∀ b o, g.H b = none → shade L fp g.H hp b = some o → h.H b = some o := fun b o n e => (a.step.keep b o e fun q => by
    obtain ⟨u, e'⟩ := rel.dom q
    rw [n] at e'; cases e').st (by
    rcases shade_cases e with z | ⟨_, z⟩
    · rw [n] at z; cases z
    · subst z; exact fun ps q => by cases q)
theorem hok_un {T : Tx} {L : Nat} {hp hp' : Heap} {P : Program} {w : World} (rel : Okk T B g) (a : Goes tc (g.sh L fp hp) h gv) (x : HOk P w h.H hp') : HOk P w (unsh g.H (shade L fp g.H hp) h.H) hp' := fun b u e => by
  have back : ∀ c v, h.H c = some v → (∀ φ, v ≠ .ext φ) → unsh g.H (shade L fp g.H hp) h.H c = some v := fun c v ec ne => by
    rcases unsh_or (H := g.H) (Hs := shade L fp g.H hp) (Hs' := h.H) (b := c) with q | ⟨_, q2, o, q3⟩
    · rw [q]; exact ec
    · have e3 := keep_sh rel a c o q2 q3
      rw [ec] at e3
      cases e3
      rcases shade_cases q3 with y | ⟨_, y⟩
      · rw [q2] at y; cases y
      · exact absurd y (ne _)
  rcases unsh_or (H := g.H) (Hs := shade L fp g.H hp) (Hs' := h.H) (b := b) with q | ⟨q1, _⟩
  · rw [q] at e
    exact (x b u e).stay (fun _ _ _ z => z) (fun c z => back c _ z fun _ y => by cases y) fun c xs z => back c _ z fun _ y => by cases y
  · rw [q1] at e; cases e
theorem step_un {T : Tx} {L : Nat} {hp : Heap} (hT : T.tb = []) (rel : Okk T B g) (r : Okk T B h) (a : Goes tc (g.sh L fp hp) h gv) : Step g.H g.F (O g.φ) (unsh g.H (shade L fp g.H hp) h.H) h.F (Or2 (O h.φ) gv) := by
  refine ⟨fun b o e n => ?_, a.step.ext, fun b o e n => ?_, fun b q => ?_⟩
  · refine .of ?_
    rw [unsh_of (.inl (by rw [e]; exact fun z => by cases z))]
    exact (a.step.keep b o (shade_some e) n).st (rel.xt.noT hT b o e)
  · exact (a.step.fn b o e n).imp id fun z => shade_none z
  · exact (a.step.on b q).imp id fun z => shade_none z
theorem rel_un {T : Tx} {L : Nat} {hp : Heap} (hT : T.tb = []) (rel : Okk T B g) (r : Okk T B h) (a : Goes tc (g.sh L fp hp) h gv) : Okk T B (h.un g L fp hp) := by
  have some_un : ∀ b o, g.H b = some o → unsh g.H (shade L fp g.H hp) h.H b = h.H b := fun b o e => unsh_of (.inl (by rw [e]; exact fun z => by cases z))
  refine ⟨r.len, fun b o e => ?_, fun b o e => ?_, r.exP, fun i d q => ?_, r.xn, r.em, r.nd, r.dj, r.ap, r.xt.ntF, r.xt.ntB, (fun t ht => by rw [hT] at ht; cases ht), fun b ps e => ?_⟩
  · show unsh _ _ _ b = _
    rw [some_un b o (rel.exB b o e)]
    exact r.exB b o e
  · show unsh _ _ _ b = _
    rw [unsh_safe rel a (.inr (.inr ⟨o, e⟩))]
    exact r.exF b o e
  · obtain ⟨v, e1, rp⟩ := r.sl i d q
    exact ⟨v, e1, rp.mono (Ex.refl B) (Ex.refl h.F) fun b hb o e => (unsh_safe rel a (.inl ⟨i, hb⟩)).trans e⟩
  · have e : unsh g.H (shade L fp g.H hp) h.H b = _ := e
    rcases unsh_or (H := g.H) (Hs := shade L fp g.H hp) (Hs' := h.H) (b := b) with q | ⟨q1, _⟩
    · rw [q] at e
      exact r.xt.ta b ps e
    · rw [q1] at e; cases e
theorem turned (hT : p.G.tb = []) (S : GSc p.N ps p.sc) (asl : Asl p B g s) (hs0 : s0.heap.objs.size = p.L) (cut : Cut s0 s)
    (I : Inv (gx p.P p.w p.K p.mg p.base p.N p.qual p.sc p.f p.cdv p.A p.outer s0 (shade p.L fp g.H s.heap)) pins h.σ h.H s') (r : Okk p.T B h) (a : Goes tc (g.sh p.L fp s.heap) h gv) :
    Trn p fp B g s (h.un g p.L fp s.heap) gv s' := by
  have keepS := keep_sh (B := B) asl.rel a
  have exN : ∀ b : Addr, b ∉ (gx p.P p.w p.K p.mg p.base p.N p.qual p.sc p.f p.cdv p.A p.outer s0 (shade p.L fp g.H s.heap)).ex := fun b z => by cases z
  have low : ∀ b o, b < p.L → s.heap.get? b = some o → s0.heap.get? b = some o := fun b o hb e => (cut.get b o).mpr ⟨by rw [hs0]; exact hb, e⟩
  have lowN : ∀ b, b ≤ p.L → g.H b = none → shade p.L fp g.H s.heap b = none := fun b hb n => shade_le n (.inl (by omega))
  have some_un : ∀ b o, g.H b = some o → unsh g.H (shade p.L fp g.H s.heap) h.H b = h.H b := fun b o e => unsh_of (.inl (by rw [e]; exact fun z => by cases z))
  have keepU : ∀ b o, s.heap.get? b = some o → g.H b = none → b ∉ frs p.outer → b ∉ p.L :: (fp ++ ow p.L g) → s'.heap.get? b = some o := fun b o e n hb hc => by
    rcases Nat.lt_trichotomy b p.L with z | z | z
    · exact I.base.keep b o (low b o z e) (lowN b (Nat.le_of_lt z) n) hb (exN b)
    · exact absurd (by rw [z]; exact List.mem_cons_self) hc
    · have hf : b ∉ fp := fun q => hc (List.mem_cons_of_mem _ (List.mem_append_left _ q))
      have e1 := keepS b _ n (shade_new n z hf e)
      obtain ⟨e2, _⟩ := I.hok b _ e1
      have e2 : s'.heap.get? b = s.heap.get? b := e2
      rw [e2, e]
  refine ⟨I.os.trans cut.os, I.bare, ⟨keepU, fun b o e n hb hc => ?_, fun b o e n hc => ?_, fun b o e hc => ?_, fun b xs e => ?_, fun b o u e => ?_, fun b ps e => ?_⟩, hok_un asl.rel a I.hok, step_un hT asl.rel r a, ?_, ?_, I.len, rel_un hT asl.rel r a, fun x c e => ⟨?_, ?_⟩⟩
  · exact I.base.slot b o (low b o (asl.hfr b hb) e) (lowN b (Nat.le_of_lt (asl.hfr b hb)) n) hb (exN b)
  · rcases Nat.lt_trichotomy b p.L with z | z | z
    · have e1 := I.base.free b o (low b o z e) (lowN b (Nat.le_of_lt z) n) (exN b)
      rcases unsh_or (H := g.H) (Hs := shade p.L fp g.H s.heap) (Hs' := h.H) (b := b) with q | q
      · exact q.trans e1
      · exact q.1
    · exact absurd (by rw [z]; exact List.mem_cons_self) hc
    · exact unsh_at (o' := .tup []) n (shade_new n z (fun q => hc (List.mem_cons_of_mem _ (List.mem_append_left _ q))) e)
  · rcases Nat.lt_trichotomy b p.L with z | z | z
    · exact I.base.there b o (low b o z e) (exN b)
    · exact absurd (by rw [z]; exact List.mem_cons_self) hc
    · cases q : g.H b with
      | none =>
        have e1 := keepS b _ q (shade_new q z (fun y => hc (List.mem_cons_of_mem _ (List.mem_append_left _ y))) e)
        obtain ⟨_, e2, _⟩ := I.hok b _ e1
        exact e2
      | some u =>
        have no : ¬ O g.φ b := fun y => hc (List.mem_cons_of_mem _ (List.mem_append_right _ (mem_ow asl.rel y z)))
        exact objOk_has (I.hok b u ((a.step.keep b u (shade_some q) no).st (asl.rel.xt.noT hT b u q)))
  · exact (some_un b _ e).trans (I.base.tups b xs (shade_some e))
  · exact (some_un b _ e).trans (I.base.frzs b o u (shade_some e))
  · obtain ⟨more, q⟩ := I.base.tbls b ps (shade_some e)
    exact ⟨more, (some_un b _ e).trans q⟩
  · have e1 : h.H s0.heap.objs.size = none := I.free
    rw [hs0] at e1
    rcases unsh_or (H := g.H) (Hs := shade p.L fp g.H s.heap) (Hs' := h.H) (b := p.L) with q | q
    · exact q.trans e1
    · exact q.1
  · have z : LocAt p.N (envOfC p.qual p.sc s0.heap.objs.size p.f p.cdv) h.σ s'.heap := I.loc
    rw [hs0] at z
    exact z
  · refine I.cell x c ?_
    show (cellL s0.heap.objs.size p.sc).lookup x = some c
    rw [hs0]
    exact e
  · have e1 : h.H c = none := I.freeC x c (by
      show (cellL s0.heap.objs.size p.sc).lookup x = some c
      rw [hs0]
      exact e)
    rcases unsh_or (H := g.H) (Hs := shade p.L fp g.H s.heap) (Hs' := h.H) (b := c) with q | q
    · exact q.trans e1
    · exact q.1
theorem tmp_un {T : Tx} {L : Nat} {hp : Heap} (rel : Okk T B g) (a : Goes tc (g.sh L fp hp) h gv) {d : D} {u : V} (t : Tmp T B h.H h.F h.φ d u gv) : Tmp T B (h.un g L fp hp).H h.F h.φ d u gv :=
  ⟨t.rep.mono (Ex.refl B) (Ex.refl h.F) fun b hb o e => by
    show unsh _ _ _ b = _
    rw [unsh_safe rel a (.inr (.inl hb))]
    exact e, t.nd, t.ap, t.dj⟩
end
end Cs
namespace Cs
open PySem L2 Evl PyProof.Rows GenW
section
variable {X : Cx} {G : Gx} {tc : List Nat} {pins : List (Addr × Obj)} {B : Hp} {h : S5} {s : Shared} {ρ1 : En}
theorem run_gt {test : Expr} {dc : M Bool} {b : Bool} (k : GT X G WF tc test dc) (hx : ∀ e s, ¬ X.xe e s) (I : Inv X pins h.σ h.H s) (r : Okk (tx X G) B h) (e : dc h.ρ = .ok b ρ1) :
    wpAny (model X.prog X.w) X.A (isTrue test X.env (eval test X.env)) (fun b' s' => b' = b ∧ ∃ h1 : S5, h1.ρ = ρ1 ∧ Inv X pins h1.σ h1.H s' ∧ Okk (tx X G) B h1 ∧ Goes tc h h1 []) (fun _ _ => False) s := by
  refine wpAny_mono (k.run pins s h.σ h.H (fun b' H' => b' = b ∧ ∃ h1 : S5, h1.ρ = ρ1 ∧ h1.σ = h.σ ∧ h1.H = H' ∧ Okk (tx X G) B h1 ∧ Goes tc h h1 []) I ⟨B, h, rfl, rfl, r, ?_⟩) (fun b' s' q => ?_) fun x s' q => hx x s' q
  · rw [e]
    exact fun s' e1 e2 r' a => ⟨rfl, s', e1, e2, rfl, r', a⟩
  · obtain ⟨H', I', e1, h1, q1, q2, q3, q4, q5⟩ := q
    subst q3
    rw [← q2] at I'
    exact ⟨e1, h1, q1, I', q4, q5⟩
theorem run_gss {st : List Stmt} {f : M Flw} (k : GSs X G WF tc st f) (hx : ∀ e s, ¬ X.xe e s) (I : Inv X pins h.σ h.H s) (r : Okk (tx X G) B h) (e : f h.ρ = .ok .nx ρ1) :
    wpAny (model X.prog X.w) X.A (execs st X.env) (fun fl s' => fl = .next ∧ ∃ h1 : S5, h1.ρ = ρ1 ∧ Inv X pins h1.σ h1.H s' ∧ Okk (tx X G) B h1 ∧ Goes tc h h1 []) (fun _ _ => False) s := by
  refine wpAny_mono (k.run pins s h.σ h.H { nx := fun σ' H' => ∃ h1 : S5, h1.ρ = ρ1 ∧ h1.σ = σ' ∧ h1.H = H' ∧ Okk (tx X G) B h1 ∧ Goes tc h h1 [], rt := fun _ _ => False } I ⟨B, h, rfl, rfl, r, ?_⟩) (fun fl s' q => ?_) fun x s' q => hx x s' q
  · rw [e]
    exact fun s' e1 r' a => ⟨s', e1, rfl, rfl, r', a⟩
  · cases fl with
    | next =>
      obtain ⟨σ', H', I', h1, q1, q2, q3, q4, q5⟩ := q
      subst q2 q3
      exact ⟨rfl, h1, q1, I', q4, q5⟩
    | brk => obtain ⟨σ', H', I', q⟩ := q; exact q.elim
    | cont => obtain ⟨σ', H', I', q⟩ := q; exact q.elim
    | ret u => obtain ⟨v, σ', H', I', _, q⟩ := q; exact q.elim
theorem run_ge {x : Expr} {f : M D} {d : D} (k : GE X G WF tc x f) (hx : ∀ e s, ¬ X.xe e s) (I : Inv X pins h.σ h.H s) (r : Okk (tx X G) B h) (e : f h.ρ = .ok d ρ1) :
    wpAny (model X.prog X.w) X.A (eval x X.env) (fun u s' => ∃ (h1 : S5) (v : V) (gv : List Addr), h1.ρ = ρ1 ∧ Inv X pins h1.σ h1.H s' ∧ Okk (tx X G) B h1 ∧ Goes tc h h1 gv ∧ Tmp (tx X G) B h1.H h1.F h1.φ d v gv ∧ RelV v u) (fun _ _ => False) s := by
  refine wpAny_mono (k.run pins s h.σ h.H (fun v H' => ∃ (h1 : S5) (gv : List Addr), h1.ρ = ρ1 ∧ h1.σ = h.σ ∧ h1.H = H' ∧ Okk (tx X G) B h1 ∧ Goes tc h h1 gv ∧ Tmp (tx X G) B h1.H h1.F h1.φ d v gv) I ⟨B, h, rfl, rfl, r, ?_⟩) (fun u s' q => ?_) fun x s' q => hx x s' q
  · rw [e]
    exact fun v s' g e1 e2 r' t a => ⟨s', g, e1, e2, rfl, r', a, t⟩
  · obtain ⟨v, H', I', rv, h1, gv, q1, q2, q3, q4, q5, q6⟩ := q
    subst q3
    rw [← q2] at I'
    exact ⟨h1, v, gv, q1, I', q4, q5, q6, rv⟩
end
structure Wp (X : Cx) (G : Gx) (test : Expr) (S1 : List Stmt) (e : Expr) (S2 : List Stmt) (t1 t2 t3 t4 : List Nat) (dc : M Bool) (d1 : M Flw) (dy : M D) (d2 : M Flw) : Prop where
  c : GT X G WF t1 test dc
  s1 : GSs X G WF t2 S1 d1
  y : GE X G WF t3 e dy
  s2 : GSs X G WF t4 S2 d2
abbrev wBody (S1 : List Stmt) (e : Expr) (yp pos : Pos) (S2 : List Stmt) : List Stmt := S1 ++ (.Expr (.Yield (some e) yp) pos :: S2)
def resK (env : Env) (test : Expr) (body S2 : List Stmt) : Sem PySem.Fin := (execs S2 env).wrap (fun f => match f with
  | .next | .cont => .pure (.again (.whileLoop test body [] env))
  | .brk => .pure (.done .next)
  | .ret v => .pure (.done (.ret v))) (fun e => (do noteFrame e env; theTreesLotGoes e : Sem Unit).wrap (fun _ => .raise e) .raise id id) id id
section
variable {X : Cx} {G : Gx} {A : Around} {Φ : End → Shared → Prop} {fs : List Frame} {test e : Expr} {S1 S2 : List Stmt} {yp pos : Pos} {t1 t2 t3 t4 : List Nat} {dc : M Bool} {d1 : M Flw} {dy : M D} {d2 : M Flw} {B : Hp} {h : S5} {s : Shared}
theorem sg_head (W : Wp X G test S1 e S2 t1 t2 t3 t4 dc d1 dy d2) (hx : ∀ e s, ¬ X.xe e s) (hov : A.over (.whileLoop test (wBody S1 e yp pos S2) [] X.env) fs = X.A) (hfs : splitAtGen fs = none) (hfg : fs.any Frame.guarded = false)
    (hco : X.env.scope.isCoroutine = false) (hi : interactive X.env = false) {o : Option D} {ρ4 : En} (I : Inv X [] h.σ h.H s) (r : Okk (tx X G) B h) (ho : gHead dc d1 dy h.ρ = .ok o ρ4)
    (hdone : o = none → ∀ (s' : Shared) (h' : S5), h'.ρ = ρ4 → Inv X [] h'.σ h'.H s' → Okk (tx X G) B h' → Goes (t1 ++ (t2 ++ t3)) h h' [] → Sg (model X.prog X.w) A Φ (.whileLoop test (wBody S1 e yp pos S2) [] X.env) (.pure (.done .next)) fs s')
    (hyld : ∀ d, o = some d → ∀ (s' : Shared) (h' : S5) (v : V) (u : Value) (gv : List Addr) (k : Resume → Sem PySem.Fin) (l : List Value) (q : Pos), h'.ρ = ρ4 → Inv X [] h'.σ h'.H s' → Okk (tx X G) B h' → Goes (t1 ++ (t2 ++ t3)) h h' gv → Tmp (tx X G) B h'.H h'.F h'.φ d v gv → RelV v u →
      k (.send .none) = resK X.env test (wBody S1 e yp pos S2) S2 → (End.susp u false l k (.whileLoop test (wBody S1 e yp pos S2) [] X.env) q fs).quiet = true → Φ (.susp u false l k (.whileLoop test (wBody S1 e yp pos S2) [] X.env) q fs) s') :
    Sg (model X.prog X.w) A Φ (.whileLoop test (wBody S1 e yp pos S2) [] X.env) ((model X.prog X.w).den (.whileLoop test (wBody S1 e yp pos S2) [] X.env)) fs s := by
  unfold gHead at ho
  cases e1 : dc h.ρ with
  | bad => rw [bnd_bad e1] at ho; cases ho
  | exc c ks xs ρ => rw [bnd_exc e1] at ho; cases ho
  | ok b ρ1 =>
    rw [bnd_ok e1] at ho
    refine sg_whileLoop ?_
    rw [hov]
    refine wpAny_mono (run_gt W.c hx I r e1) (fun b' s1 ⟨eb, h1, q1, I1, r1, a1⟩ => ?_) fun _ _ z => z.elim
    subst eb
    subst q1
    cases b' with
    | false =>
      rw [if_neg Bool.false_ne_true] at ho ⊢
      have z := Out.ok.inj ho
      obtain ⟨z1, z2⟩ := z
      exact hdone z1.symm s1 h1 z2 I1 r1 (a1.wk fun j q => memL q)
    | true =>
      rw [if_pos rfl] at ho ⊢
      unfold gNx at ho
      cases e2 : d1 h1.ρ with
      | bad => rw [bnd_bad e2] at ho; cases ho
      | exc c ks xs ρ => rw [bnd_exc e2] at ho; cases ho
      | ok fl ρ2 =>
        rw [bnd_ok e2] at ho
        cases fl with
        | bk => cases ho
        | ct => cases ho
        | rt d => cases ho
        | nx =>
          dsimp only at ho
          rw [execs_app_wrap]
          refine sg_wrap ?_
          rw [hov]
          refine wpAny_mono (run_gss W.s1 hx I1 r1 e2) (fun fl s2 ⟨ef, h2, q2, I2, r2, a2⟩ => ?_) fun _ _ z => z.elim
          subst ef
          subst q2
          cases e3 : dy h2.ρ with
          | bad => rw [bnd_bad e3] at ho; cases ho
          | exc c ks xs ρ => rw [bnd_exc e3] at ho; cases ho
          | ok d ρ3 =>
            rw [bnd_ok e3] at ho
            have z := Out.ok.inj ho
            obtain ⟨z1, z2⟩ := z
            show Sg _ _ _ _ ((execs (.Expr (.Yield (some e) yp) pos :: S2) X.env).wrap _ _ id id) fs s2
            refine sg_execs_cons (sg_Expr_Yield hfs rfl hfg ?_ hco hi)
            rw [hov]
            refine wpAny_mono (run_ge W.y hx I2 r2 e3) (fun u s3 ⟨h3, v, gv, q3, I3, r3, a3, t, rv⟩ => ?_) fun _ _ z => z.elim
            intro k l q ek eq
            exact hyld d z1.symm s3 h3 v u gv k l q (q3.trans z2) I3 r3 (a1.trans0 (a2.trans0 a3)) t rv ek eq
theorem sg_res (W : Wp X G test S1 e S2 t1 t2 t3 t4 dc d1 dy d2) (hx : ∀ e s, ¬ X.xe e s) (hov : A.over (.whileLoop test (wBody S1 e yp pos S2) [] X.env) fs = X.A) (hfs : splitAtGen fs = none) (hfg : fs.any Frame.guarded = false)
    (hco : X.env.scope.isCoroutine = false) (hi : interactive X.env = false) {o : Option D} {ρ4 : En} (I : Inv X [] h.σ h.H s) (r : Okk (tx X G) B h) (ho : gNx d2 (gHead dc d1 dy) h.ρ = .ok o ρ4)
    (hdone : o = none → ∀ (s' : Shared) (h' : S5), h'.ρ = ρ4 → Inv X [] h'.σ h'.H s' → Okk (tx X G) B h' → Goes (t4 ++ (t1 ++ (t2 ++ t3))) h h' [] → Sg (model X.prog X.w) A Φ (.whileLoop test (wBody S1 e yp pos S2) [] X.env) (.pure (.done .next)) fs s')
    (hyld : ∀ d, o = some d → ∀ (s' : Shared) (h' : S5) (v : V) (u : Value) (gv : List Addr) (k : Resume → Sem PySem.Fin) (l : List Value) (q : Pos), h'.ρ = ρ4 → Inv X [] h'.σ h'.H s' → Okk (tx X G) B h' → Goes (t4 ++ (t1 ++ (t2 ++ t3))) h h' gv → Tmp (tx X G) B h'.H h'.F h'.φ d v gv → RelV v u →
      k (.send .none) = resK X.env test (wBody S1 e yp pos S2) S2 → (End.susp u false l k (.whileLoop test (wBody S1 e yp pos S2) [] X.env) q fs).quiet = true → Φ (.susp u false l k (.whileLoop test (wBody S1 e yp pos S2) [] X.env) q fs) s') :
    Sg (model X.prog X.w) A Φ (.whileLoop test (wBody S1 e yp pos S2) [] X.env) (resK X.env test (wBody S1 e yp pos S2) S2) fs s := by
  unfold gNx at ho
  cases e1 : d2 h.ρ with
  | bad => rw [bnd_bad e1] at ho; cases ho
  | exc c ks xs ρ => rw [bnd_exc e1] at ho; cases ho
  | ok fl ρ1 =>
    rw [bnd_ok e1] at ho
    cases fl with
    | bk => cases ho
    | ct => cases ho
    | rt d => cases ho
    | nx =>
      dsimp only at ho
      unfold resK
      refine sg_wrap ?_
      rw [hov]
      refine wpAny_mono (run_gss W.s2 hx I r e1) (fun fl s1 ⟨ef, h1, q1, I1, r1, a1⟩ => ?_) fun _ _ z => z.elim
      subst ef
      subst q1
      show Sg _ _ _ _ (.pure (.again (.whileLoop test (wBody S1 e yp pos S2) [] X.env))) fs s1
      refine sg_again rfl (sg_head W hx hov hfs hfg hco hi I1 r1 ho (fun hn s' h' y1 y2 y3 y4 => hdone hn s' h' y1 y2 y3 (a1.trans0 y4)) fun d hd s' h' v u gv k l q y1 y2 y3 y4 => hyld d hd s' h' v u gv k l q y1 y2 y3 (a1.trans0 y4))
end
structure Priv (p : GP) (H : Hp) (s : Shared) (priv : List (Addr × Obj)) : Prop where
  all : ∀ q ∈ priv, p.L < q.1 ∧ q.1 ≠ p.a ∧ s.heap.get? q.1 = some q.2 ∧ H q.1 = none ∧ ∀ v, q.2.data ≠ .cell v
def TEnd {S : Type} (p : GP) (st : S → En) (Nx : S → Hp → GenState → L2.St → List (Addr × Obj) → Prop) (fp : List Addr) (B : Hp) (g : S5) (s : Shared) (o : GOut S) (e : End) (s' : Shared) : Prop := e.quiet = true ∧
  match e with
  | .susp v _ _ _ _ _ _ => ∃ (d : D) (x : S) (g' : S5) (gv : List Addr) (u : V) (priv' : List (Addr × Obj)), o = .yld d x ∧ g'.ρ = st x ∧ Trn p fp B g s g' gv s' ∧ Tmp p.T B g'.H g'.F g'.φ d u gv ∧ RelV u v ∧ Priv p g'.H s' priv' ∧ Nx x g'.F e.genState g'.σ priv'
  | .ret r => o = .done ∧ (r = .ok (.ret .none) ∨ r = .ok .next) ∧ ∃ g', Trn p fp B g s g' [] s'
def Ready {S : Type} (p : GP) (B : Hp) (st : S → En) (step : S → GOut S) : Nat → Hp → En → GOut S → GenState → L2.St → List (Addr × Obj) → Prop
  | 0, _, _, _, _, _, _ => True
  | n + 1, Fl, ρ, o, gs, σ, priv => o ≠ .bad → ∀ (g : S5) (s : Shared), Asl p B g s → g.σ = σ → g.ρ = ρ → Ex Fl g.F → Priv p g.H s priv →
    Gs p.M p.A (TEnd p st (fun x Fl' gs' σ' priv' => Ready p B st step n Fl' (st x) (step x) gs' σ' priv') (p.fp priv) B g s o) gs s
structure FsOk (p : GP) (c : Code) (fs : List Frame) : Prop where
  over : p.A.over c fs = p.A.deeper p.env
  split : splitAtGen fs = none
  guard : fs.any Frame.guarded = false
  fin : ∀ (Φ : End → Shared → Prop) (s : Shared), Φ (.ret (.ok (.ret .none))) s → Sg p.M p.A Φ c (.pure (.done .next)) fs s
abbrev GP.X (p : GP) (s0 : Shared) (H : Hp) : Cx := gx p.P p.w p.K p.mg p.base p.N p.qual p.sc p.f p.cdv p.A p.outer s0 H
section
variable {p : GP} {ps : List Str} {test e : Expr} {S1 S2 : List Stmt} {yp pos : Pos} {t1 t2 t3 t4 : List Nat} {dc : M Bool} {d1 : M Flw} {dy : M D} {d2 : M Flw}
theorem toG_ok {o : Out (Option D)} (h : toG o ≠ .bad) : ∃ x ρ, o = .ok x ρ ∧ ((x = none ∧ toG o = .done) ∨ ∃ d, x = some d ∧ toG o = .yld d ρ) := by
  cases o with
  | bad => exact absurd rfl h
  | exc c ks xs ρ => exact absurd rfl h
  | ok x ρ =>
    refine ⟨x, ρ, rfl, ?_⟩
    cases x with
    | none => exact .inl ⟨rfl, rfl⟩
    | some d => exact .inr ⟨d, rfl, rfl⟩
theorem while_ready {B : Hp} (hT : p.G.tb = []) (S : GSc p.N ps p.sc) (hd : p.A.handled = none) (hi : interactive p.env = false)
    (W : ∀ (s0 : Shared) (H : Hp), s0.heap.objs.size = p.L → Wp (p.X s0 H) p.G test S1 e S2 t1 t2 t3 t4 dc d1 dy d2) {fs : List Frame} (F : FsOk p (.whileLoop test (wBody S1 e yp pos S2) [] p.env) fs) :
    ∀ (n : Nat) (Fl : Hp) (ρ : En) (k : Resume → Sem PySem.Fin) (l : List Value) (q : Pos) (cl : Bool) (σ : L2.St), k (.send .none) = resK p.env test (wBody S1 e yp pos S2) S2 →
      Ready p B id (fun ρ => toG (gNx d2 (gHead dc d1 dy) ρ)) n Fl ρ (toG (gNx d2 (gHead dc d1 dy) ρ)) (.suspended k l (.whileLoop test (wBody S1 e yp pos S2) [] p.env) q fs cl) σ []
  | 0, _, _, _, _, _, _, _, _ => trivial
  | n + 1, Fl, ρ, k, l, q, cl, σ, ek => by
    intro ho g s asl eσ eρ _ _
    subst eσ eρ
    obtain ⟨x, ρ4, eo, hcase⟩ := toG_ok ho
    obtain ⟨c1, c2⟩ := cut_ok (Nat.le_of_lt asl.hL)
    generalize hs0 : cutS s p.L = s0 at c1 c2
    have hE : (p.X s0 (shade p.L (p.fp []) g.H s.heap)).env = p.env := by
      show envOfC p.qual p.sc s0.heap.objs.size p.f p.cdv = _
      rw [c1]
    have hA : (p.X s0 (shade p.L (p.fp []) g.H s.heap)).A = p.A.deeper p.env := by
      show p.A.deeper (envOfC p.qual p.sc s0.heap.objs.size p.f p.cdv) = _
      rw [c1]
    have I : Inv (p.X s0 (shade p.L (p.fp []) g.H s.heap)) [] g.σ (shade p.L (p.fp []) g.H s.heap) s := by
      have z := inv_rebase (P := p.P) (w := p.w) (K := p.K) (mg := p.mg) (base := p.base) (qual := p.qual) (f := p.f) (cdv := p.cdv) (fp := p.fp []) S hd asl.e0 c2 (by rw [c1]; exact asl.hb) (by rw [c1]; exact asl.hfr) (by rw [c1]; exact asl.hH) (by rw [c1]; exact asl.loc) asl.len (by rw [c1]; exact asl.cl) (by rw [c1]; exact p.fp_c)
      rw [c1] at z
      exact z
    have r0 : Okk p.T B (g.sh p.L (p.fp []) s.heap) := asl.rel.shaded
    show Sg p.M p.A _ (.whileLoop test (wBody S1 e yp pos S2) [] p.env) (k (.send .none)) fs s
    rw [ek, ← hE]
    refine sg_res (h := g.sh p.L (p.fp []) s.heap) (W s0 _ c1) (fun _ _ z => z) (by rw [hE, hA]; exact F.over) F.split F.guard S.co (by rw [hE]; exact hi) I r0 eo (fun hn s' h' y1 y2 y3 y4 => ?_) fun d hdd s' h' v u gv k' l' q' y1 y2 y3 y4 y5 y6 y7 y8 => ?_
    · rw [hE]
      refine F.fin _ s' ⟨rfl, ?_⟩
      rcases hcase with ⟨_, e2⟩ | ⟨d, e2, _⟩
      · exact ⟨e2, .inl rfl, _, turned hT S asl c1 c2 y2 y3 y4⟩
      · rw [hn] at e2; cases e2
    · rcases hcase with ⟨e2, _⟩ | ⟨d', e2, e4⟩
      · rw [hdd] at e2; cases e2
      · rw [hdd] at e2
        cases e2
        refine ⟨y8, d, ρ4, h'.un g p.L (p.fp []) s.heap, gv, v, [], e4, y1, turned hT S asl c1 c2 y2 y3 y4, tmp_un asl.rel y4 y5, y6, ⟨fun _ z => by cases z⟩, ?_⟩
        rw [hE] at y7
        rw [hE]
        exact while_ready hT S hd hi W F n _ ρ4 k' l' q' _ h'.σ y7
end
end Cs
namespace Cs
open PySem L2 Evl PyProof.Rows GenW
abbrev wBack (env : Env) : Result → Sem Flow := fun r => (match r with | .ok f => (.pure f : Sem Flow) | .error e => .raise e).onRaise (cameBack env)
def wFs (env : Env) (body : List Stmt) (K : Flow → Sem PySem.Fin) (J : Value → Sem PySem.Fin) (q : Pos) : List Frame :=
  [.ret (fun r => (wBack env r).wrap K J id id) none false [] (.func body env) q []]
theorem wFs_ok {p : GP} {body : List Stmt} {K : Flow → Sem PySem.Fin} {J : Value → Sem PySem.Fin} {q : Pos} {c : Code} (hw : c.weight = 0) (hu : c.cUnits = 0) (hK : K .next = .pure (.done (.ret .none))) : FsOk p c (wFs p.env body K J q) where
  over := (over_loop hw hu).trans over_func
  split := rfl
  guard := rfl
  fin := fun Φ s h => by
    refine sg_leaf (.ok .next) ?_
    show Sg p.M p.A Φ (.func body p.env) (K .next) [] s
    rw [hK]
    exact sg_end (.ok (.ret .none)) h
section
variable {p : GP} {ps : List Str} {test e : Expr} {S0 S1 S2 : List Stmt} {yp pos wpos : Pos} {t0 t1 t2 t3 t4 : List Nat} {d0 : M Flw} {dc : M Bool} {d1 : M Flw} {dy : M D} {d2 : M Flw}
theorem while_fresh {B : Hp} (hT : p.G.tb = []) (S : GSc p.N ps p.sc) (hd : p.A.handled = none) (hi : interactive p.env = false)
    (W0 : ∀ (s0 : Shared) (H : Hp), s0.heap.objs.size = p.L → GSs (p.X s0 H) p.G WF t0 S0 d0) (W : ∀ (s0 : Shared) (H : Hp), s0.heap.objs.size = p.L → Wp (p.X s0 H) p.G test S1 e S2 t1 t2 t3 t4 dc d1 dy d2)
    {body : List Stmt} (hbd : body = S0 ++ [.While test (wBody S1 e yp pos S2) [] wpos]) (n : Nat) (Fl : Hp) (ρ : En) (σ : L2.St) :
    Ready p B id (fun ρ => toG (gNx d2 (gHead dc d1 dy) ρ)) n Fl ρ (toG (gNx d0 (gHead dc d1 dy) ρ)) (.fresh (.func body p.env)) σ [] := by
  cases n with
  | zero => trivial
  | succ n =>
    intro ho g s asl eσ eρ _ _
    subst eσ eρ
    obtain ⟨x, ρ4, eo, hcase⟩ := toG_ok ho
    obtain ⟨c1, c2⟩ := cut_ok (Nat.le_of_lt asl.hL)
    generalize hs0 : cutS s p.L = s0 at c1 c2
    have hE : (p.X s0 (shade p.L (p.fp []) g.H s.heap)).env = p.env := by
      show envOfC p.qual p.sc s0.heap.objs.size p.f p.cdv = _
      rw [c1]
    have hA : (p.X s0 (shade p.L (p.fp []) g.H s.heap)).A = p.A.deeper p.env := by
      show p.A.deeper (envOfC p.qual p.sc s0.heap.objs.size p.f p.cdv) = _
      rw [c1]
    have I : Inv (p.X s0 (shade p.L (p.fp []) g.H s.heap)) [] g.σ (shade p.L (p.fp []) g.H s.heap) s := by
      have z := inv_rebase (P := p.P) (w := p.w) (K := p.K) (mg := p.mg) (base := p.base) (qual := p.qual) (f := p.f) (cdv := p.cdv) (fp := p.fp []) S hd asl.e0 c2 (by rw [c1]; exact asl.hb) (by rw [c1]; exact asl.hfr) (by rw [c1]; exact asl.hH) (by rw [c1]; exact asl.loc) asl.len (by rw [c1]; exact asl.cl) (by rw [c1]; exact p.fp_c)
      rw [c1] at z
      exact z
    have r0 : Okk p.T B (g.sh p.L (p.fp []) s.heap) := asl.rel.shaded
    show Sg p.M p.A _ (.func body p.env) (p.M.den (.func body p.env)) [] s
    unfold gNx at eo
    cases e0 : d0 g.ρ with
    | bad => rw [bnd_bad e0] at eo; cases eo
    | exc c ks xs ρ => rw [bnd_exc e0] at eo; cases eo
    | ok fl ρ1 =>
      rw [bnd_ok e0] at eo
      cases fl with
      | bk => cases eo
      | ct => cases eo
      | rt d => cases eo
      | nx =>
        dsimp only at eo
        refine sg_func ?_
        rw [hbd, execs_app_wrap]
        refine sg_wrap ?_
        rw [← hbd, over_func, ← hA, ← hE]
        refine wpAny_mono (run_gss (h := g.sh p.L (p.fp []) s.heap) (W0 s0 _ c1) (fun _ _ z => z) I r0 e0) (fun fl s1 ⟨ef, h1, q1, I1, r1, a1⟩ => ?_) fun _ _ z => z.elim
        subst ef
        subst q1
        show Sg _ _ _ _ ((execs [.While test (wBody S1 e yp pos S2) [] wpos] _).wrap _ _ id id) [] s1
        refine sg_execs_cons (sg_While fun q => ?_)
        have F : FsOk p (.whileLoop test (wBody S1 e yp pos S2) [] p.env) (wFs p.env body _ _ q) := wFs_ok (c := .whileLoop test (wBody S1 e yp pos S2) [] p.env)
          (K := fun f => match f with
            | .next => (execs [] p.env).wrap (fun f => .pure (.done (.ret (match f with | .ret v => v | _ => .none)))) (fun e => (leaving p.env e).wrap (fun _ => .raise e) .raise id id) id id
            | f => (.pure (.done (.ret (match f with | .ret v => v | _ => .none))) : Sem PySem.Fin)) (J := fun e => (leaving p.env e).wrap (fun _ => .raise e) .raise id id) (body := body) (q := q) rfl rfl rfl
        rw [hE]
        show Sg p.M p.A _ (.whileLoop test (wBody S1 e yp pos S2) [] p.env) (p.M.den (.whileLoop test (wBody S1 e yp pos S2) [] p.env)) (wFs p.env body _ _ q) s1
        rw [← hE]
        refine sg_head (W s0 _ c1) (fun _ _ z => z) (by rw [hE, hA]; exact F.over) rfl rfl S.co (by rw [hE]; exact hi) I1 r1 eo (fun hn s' h' y1 y2 y3 y4 => ?_) fun d hdd s' h' v u gv k' l' q' y1 y2 y3 y4 y5 y6 y7 y8 => ?_
        · rw [hE]
          refine F.fin _ s' ⟨rfl, ?_⟩
          rcases hcase with ⟨_, e2⟩ | ⟨d, e2, _⟩
          · exact ⟨e2, .inl rfl, _, turned hT S asl c1 c2 y2 y3 (a1.trans0 y4)⟩
          · rw [hn] at e2; cases e2
        · rcases hcase with ⟨e2, _⟩ | ⟨d', e2, e4⟩
          · rw [hdd] at e2; cases e2
          · rw [hdd] at e2
            cases e2
            have y4' := a1.trans0 y4
            refine ⟨y8, d, ρ4, h'.un g p.L (p.fp []) s.heap, gv, v, [], e4, y1, turned hT S asl c1 c2 y2 y3 y4', tmp_un asl.rel y4' y5, y6, ⟨fun _ z => by cases z⟩, ?_⟩
            rw [hE] at y7
            rw [hE]
            exact while_ready hT S hd hi W F n _ ρ4 k' l' q' _ h'.σ y7
end
theorem LocAt.kept {N : List Str} {env : Env} {σ : L2.St} {h h' : Heap} (l : LocAt N env σ h) (k : ∀ b o, h.get? b = some o → h'.get? b = some o) : LocAt N env σ h' := by
  obtain ⟨m, hn, hl⟩ := l
  refine ⟨m, hn.at fun o e => k _ o e, fun i x v e1 e2 e3 => ?_⟩
  obtain ⟨u, r, q⟩ := hl i x v e1 e2 e3
  refine ⟨u, r, ?_⟩
  rcases q with q | ⟨k1, c, e, z⟩
  · exact .inl q
  · exact .inr ⟨k1, c, e, z.keeps k⟩
theorem LocAt.at {N : List Str} {qual : Str} {sc : Scope} {L f : Addr} {cdv : Value} {σ : L2.St} {h h' : Heap} (l : LocAt N (envOfC qual sc L f cdv) σ h) (k : ∀ o, h.get? L = some o → h'.get? L = some o) (kc : ∀ x c v, (cellL L sc).lookup x = some c → h.IsCell c v → h'.IsCell c v) : LocAt N (envOfC qual sc L f cdv) σ h' := by
  obtain ⟨m, hn, hl⟩ := l
  refine ⟨m, hn.at k, fun i x v e1 e2 e3 => ?_⟩
  obtain ⟨u, r, q⟩ := hl i x v e1 e2 e3
  refine ⟨u, r, ?_⟩
  rcases q with q | ⟨k1, c, e, z⟩
  · exact .inl q
  · exact .inr ⟨k1, c, e, kc x c _ e z⟩
structure Made (N : List Str) (qual : Str) (sc : Scope) (body : List Stmt) (f : Addr) (cdv : Value) (s : Shared) (vs : List V) (u : Value) (s' : Shared) : Prop where
  ex : ∃ a, u = .ref a ∧ s.heap.objs.size < a ∧ s'.heap.IsGen a s.gens.size
  lt : s.heap.objs.size < s'.heap.objs.size
  gs : s'.gens[s.gens.size]? = some (.fresh (.func body (envOfC qual sc s.heap.objs.size f cdv)))
  os : s'.os = s.os
  bare : AllBare s'.gens
  keep : ∀ b o, s.heap.get? b = some o → s'.heap.get? b = some o
  loc : LocAt N (envOfC qual sc s.heap.objs.size f cdv) (start N vs) s'.heap
  cl : ∀ x c, (cellL s.heap.objs.size sc).lookup x = some c → ∃ v, s'.heap.IsCell c v
structure GDef (P : Program) (w : World) (K : PySem.W.Frag) (mg : Str → Option Value) (base : Heap) (N ps : List Str) (qual : Str) (sc : Scope) (body : List Stmt) (f : Addr) (fd : FuncData) (cdv : Value) : Prop where
  S : GSc N ps sc
  run : ∀ (A : Around) (outer : List Env) (s : Shared) (H : Hp) (args : Args) (us : List Value) (vs : List V), A.handled = none → A.depth < recursionLimit → Env0 P w K mg base A outer s H → vs.length = ps.length → BindsTo s fd args (ps.zip us) → Vals vs us →
    codeAny (model P w) A (.call (.ref f) args) (fun r s' => ∃ u, r = .ok (.ret u) ∧ Made N qual sc body f cdv s vs u s') s
theorem gdef_of {P : Program} {w : World} {K : PySem.W.Frag} {mg : Str → Option Value} {base : Heap} {x qual : Str} {st : Stmt} {f : Addr} {fd : FuncData} {N ps : List Str} (F : Fun K x qual st f fd) (S : GSc N ps (defScope st)) :
    ∃ cdv, GDef P w K mg base N ps qual (defScope st) (defBody st) f fd cdv := by
  obtain ⟨oc, od, kV, doc, pm, an, cdv, ct, osl, rfl, lk, hcd⟩ := F.ex
  refine ⟨cdv, S, fun A outer s H args us vs hh hdp e0 hl hb r => ?_⟩
  have KX : K.In s.heap := e0.mod.kin.keeps fun b o e => (e0.bs b o e).1
  have lim : s.heap.NoLimit := e0.mod.nolimit.keeps fun b o e => (e0.bs b o e).1
  have hkind : ∀ y ∈ ps.zip us, (defScope st).names.lookup y.1 = some .local ∨ ((defScope st).names.lookup y.1 = some .cell ∧ ((cellsFrom (s.heap.objs.size + 1) (defScope st).names []).lookup y.1).isSome = true) := fun ⟨n, v⟩ hy => (S.par n (List.of_mem_zip hy).1).imp id fun k => ⟨k, PySem.W.cellsFrom_some _ _ _ (.inl k)⟩
  refine codeAny_call_generator hdp (KX _ _ lk) rfl S.co S.gen rfl (PySem.W.codeRec_of KX hcd) (hb _ _ _ _ ?_)
  refine wpAny_newFunctionEnv_cells S.kind hkind fun env he s1 x => ?_
  subst he
  have lim1 : s1.heap.NoLimit := lim.keeps x.toInCall.keep
  refine ⟨lim1, _, rfl, ?_⟩
  have I1 : Inv (gcxOf P w K mg base N qual (defScope st) f cdv A outer s H (fun _ _ _ => False) []) [] (start N vs) H s1 := inv_startG S.to hh e0 hl r x
  obtain ⟨h1, tk, es1, hk1⟩ := x.done
  have gen1 : s1.gens = s.gens := by rw [es1]
  have os1 : s1.os = s.os := by rw [es1]
  have lt1 : s.heap.objs.size < s1.heap.objs.size := x.toInCall.ns.lt
  refine ⟨⟨s1.heap.objs.size, rfl, lt1, ?_⟩, ?_, ?_, os1, ?_, fun b o e => Heap.get?_push_of_some _ (x.toInCall.keep b o e), ?_, ?_⟩
  · rw [← gen1]
    exact ⟨_, _, _, Heap.get?_push_size _ rfl, rfl, rfl, rfl⟩
  · show _ < (s1.heap.push _).objs.size
    rw [Heap.size_push]
    omega
  · rw [← gen1]
    exact Array.getElem?_push_size ..
  · exact AllBare.push (by rw [gen1]; exact e0.bare) rfl
  · have z : LocAt N (envOfC qual (defScope st) s.heap.objs.size f cdv) (start N vs) s1.heap := I1.loc
    exact z.kept fun b o e => Heap.get?_push_of_some _ e
  · intro y c e
    exact ⟨_, (x.cell y c e).keeps fun b o e => Heap.get?_push_of_some _ e⟩
end Cs
namespace Cs
open PySem L2 Evl PyProof.Rows GenW
structure PGn (X : Cx) (iter : Expr) (ta : TA) (N ps : List Str) (qual : Str) (sc : Scope) (body : List Stmt) (f : Addr) (cdv : Value) : Prop where
  run : ∀ (pins : List (Addr × Obj)) (s : Shared) (σ : L2.St) (H : Hp) (R : List V → Hp → Prop), Inv X pins σ H s → ta σ H (fun vs H1 => vs.length = ps.length ∧ R vs H1) →
    wpAny (model X.prog X.w) X.A (eval iter X.env) (fun u s1 => ∃ (vs : List V) (H1 : Hp) (sc' : Shared), Inv X pins σ H1 sc' ∧ Made N qual sc body f cdv sc' vs u s1 ∧ R vs H1) X.xe s
section
variable {X : Cx} {N ps : List Str} {qual : Str} {sc : Scope} {body : List Stmt} {f : Addr} {fd : FuncData} {cdv : Value} {k : Nat}
theorem PGn.mono {iter : Expr} {ta tb : TA} (h : PGn X iter ta N ps qual sc body f cdv) (i : ∀ σ H Q, tb σ H Q → ta σ H Q) : PGn X iter tb N ps qual sc body f cdv := ⟨fun pins s σ H R I q => h.run pins s σ H R I (i _ _ _ q)⟩
theorem run_gdef {pins : List (Addr × Obj)} {σ : L2.St} {H : Hp} {s : Shared} {us : List Value} {vs : List V} {R : List V → Hp → Prop} {E1 : Value → Shared → Prop} (D : GDef X.prog X.w X.K X.mg X.base N ps qual sc body f fd cdv) (hr : Room k X.A) (hb : Binds X.K fd ps [])
    (I : Inv X pins σ H s) (r : Vals vs us) (hl : vs.length = ps.length) (h : R vs H) :
    wpAny (model X.prog X.w) X.A (call (.ref f) us) (fun u s1 => ∃ (vs : List V) (H1 : Hp) (sc' : Shared), Inv X pins σ H1 sc' ∧ Made N qual sc body f cdv sc' vs u s1 ∧ R vs H1) E1 s := by
  have hl2 : (us ++ []).length = ps.length := by rw [List.append_nil, ← r.length]; exact hl
  have hb2 := hb s us I.kIn hl2
  rw [List.append_nil] at hb2
  refine wpAny_call (codeAny_mono (D.run X.A X.stack s H ⟨us, []⟩ us vs hr.hd hr.depth I.env0 hl hb2 r) fun r' s' hq => ?_)
  obtain ⟨u, rfl, mk⟩ := hq
  exact ⟨vs, H, s, I, mk, h⟩
def tRcv (C : Addr) (m : Str) (ta : TE) : TA := fun σ H Q => ta σ H fun x H1 => ∃ a dx fs, x = .ref a ∧ H1 a = some (.ins C dx fs) ∧ fs.lookup m = none ∧ Q [x] H1
theorem pgn_meth0 {o : Expr} {C : Addr} {m : Str} {ta : TE} {apos pos : Pos} {pl : Sem Bool} (D : GDef X.prog X.w X.K X.mg X.base N ps qual sc body f fd cdv) (he : PE X o ta) (c : Cls X.K C) (hm : Meth X.K C m f) (hr : Room k X.A) (hb : Binds X.K fd ps [])
    (ht : eval (.Call (.Attribute o m apos) [] [] pos) X.env = (do
      let ov ← eval o X.env
      standAt apos.atName
      let (f, first) ← holding [ov] (getMethod ov m pl)
      callWith pos f first (backTo pos (starEach [] X.env)) (backToKw pos (keywordEach [] X.env))) := by rfl) :
    PGn X (.Call (.Attribute o m apos) [] [] pos) (tRcv C m ta) N ps qual sc body f cdv := by
  refine ⟨fun pins s σ H R I h => ?_⟩
  refine PySem.W.methodCall_KW (pl := pl) (thn (he.run pins s σ H _ I h) fun u s1 ⟨x, H1, I1, rx, a, dx, fs, ex, ea, l, hl, q⟩ => ?_) ht
  subst ex
  obtain rfl : u = Value.ref a := rx
  refine getmeth_ok I1 ea c hm l ?_
  exact PySem.W.callWith_K0 (first := [.ref a]) I1.kIn hm.kp (run_gdef (us := [.ref a]) (vs := [.ref a]) D hr hb I1 (.cons rfl .nil) hl q)
end
abbrev GG (X : Cx) (G : Gx) (W : WX) (tc : List Nat) (iter : Expr) (f : M (List D)) (N ps : List Str) (qual : Str) (sc : Scope) (body : List Stmt) (fa : Addr) (cdv : Value) : Prop := PGn X iter (tDs (tx X G) W tc f) N ps qual sc body fa cdv
def dRcv (c m : Str) (u : M D) : M (List D) := bnd u fun d => if isObj c m d = true then ret [d] else bad
section
variable {X : Cx} {G : Gx} {W : WX} {tc : List Nat} {N ps : List Str} {qual : Str} {sc : Scope} {body : List Stmt} {f : Addr} {fd : FuncData} {cdv : Value} {k : Nat}
theorem gg_meth0 {o : Expr} {C : Addr} {c m : Str} {u : M D} {apos pos : Pos} {pl : Sem Bool} (D : GDef X.prog X.w X.K X.mg X.base N ps qual sc body f fd cdv) (hC : G.C c = some C) (he : GE X G W tc o u) (cl : Cls X.K C) (hm : Meth X.K C m f) (hr : Room k X.A) (hb : Binds X.K fd ps [])
    (ht : eval (.Call (.Attribute o m apos) [] [] pos) X.env = (do
      let ov ← eval o X.env
      standAt apos.atName
      let (f, first) ← holding [ov] (getMethod ov m pl)
      callWith pos f first (backTo pos (starEach [] X.env)) (backToKw pos (keywordEach [] X.env))) := by rfl) :
    GG X G W tc (.Call (.Attribute o m apos) [] [] pos) (dRcv c m u) N ps qual sc body f cdv :=
  (pgn_meth0 D he cl hm hr hb ht).mono fun σ H Q ⟨B, s, e1, e2, rl, hp⟩ => by
    subst e1 e2
    refine seqE1 rl hp fun d v s1 g _ hs r1 t a h => ?_
    split at h
    · rename_i ho
      obtain ⟨q, C', dx, fs, rfl, hC', hq, hlk⟩ := isObj_at r1.exF r1.exB t.rep ho
      have hC' : G.C c = some C' := hC'
      rw [hC] at hC'
      cases hC'
      exact ⟨q, dx, fs, rfl, hq, hlk, h _ s1 (g ++ []) rfl hs r1 ⟨.cons t.rep .nil rfl, by rw [List.append_nil]; exact t.nd, by rw [List.append_nil]; exact t.ap, by rw [List.append_nil]; exact t.dj⟩ (by rw [List.append_nil]; exact a)⟩
    · exact h.elim
end
def forG {S : Type} (step : S → GOut S) (tg : Tg) (fg : List Nat) (body : M Flw) : Nat → GOut S → M Flw
  | _, .bad => bad
  | _, .done => ret .nx
  | 0, .yld _ _ => bad
  | n + 1, .yld d x => fun ρ => match dTg tg (mapF flFrz d) ρ with
    | .ok .nx ρ1 => (match body ρ1 with
      | .ok .nx ρ2 => forG step tg fg body n (step x) (fgt fg ρ2)
      | .ok .ct ρ2 => forG step tg fg body n (step x) (fgt fg ρ2)
      | .ok .bk ρ2 => .ok .nx (fgt fg ρ2)
      | .ok (.rt r) ρ2 => .ok (.rt r) ρ2
      | _ => .bad)
    | _ => .bad
def dForG {S : Type} (f : M (List D)) (m : Nat) (start : List D → GOut S) (step : S → GOut S) (tg : Tg) (fg : List Nat) (body : M Flw) (fuel : Nat) : M Flw := bnd f fun ds => if ds.length = m ∧ allFs noOw ds = true then forG step tg fg body fuel (start ds) else bad
theorem inv_lf {X : Cx} {pins : List (Addr × Obj)} {σ : L2.St} {H : Hp} {s : Shared} {P : Array GenState} (I : Inv X pins σ H s) (h : AllBare P) : Inv X pins σ H (Lf s P) :=
  ⟨I.ok, I.os, h, I.base, I.loc, I.cell, I.free, I.freeC, I.pin, I.hok, I.len⟩
theorem inv_unlf {X : Cx} {pins : List (Addr × Obj)} {σ : L2.St} {H : Hp} {s : Shared} {P : Array GenState} (I : Inv X pins σ H (Lf s P)) (h : AllBare s.gens) : Inv X pins σ H s :=
  ⟨I.ok, I.os, h, I.base, I.loc, I.cell, I.free, I.freeC, I.pin, I.hok, I.len⟩
theorem rel_args {T : Tx} {B H F : Hp} {ds : List D} {vs : List V} (exB : Ex B H) (exF : Ex F H) (exP : Ex T.P F) (xt : XT T B H F) (r : Reps T B H F ds vs []) : Okk T B ⟨vs.map some, H, F, ds.map .dt, fun _ => []⟩ := by
  refine ⟨by rw [List.length_map, List.length_map]; exact r.len, exB, exF, exP, fun i d q => ?_, fun i q => ?_, fun _ _ => rfl, fun _ => .nil, fun _ _ _ _ z => (by cases z), fun _ _ z => (by cases z), xt⟩
  · have q : (ds.map Sl.dt)[i]? = some (.dt d) := q
    rw [List.getElem?_map] at q
    cases e : ds[i]? with
    | none => rw [e] at q; cases q
    | some d' =>
      rw [e] at q
      have q := Option.some.inj q
      cases q
      obtain ⟨v, h1, h2⟩ := r.get0 e
      exact ⟨v, by show (vs.map some)[i]? = _; rw [List.getElem?_map, h1]; rfl, h2⟩
  · have q : (ds.map Sl.dt)[i]? = some .exn := q
    rw [List.getElem?_map] at q
    cases e : ds[i]? with
    | none => rw [e] at q; cases q
    | some d' => rw [e] at q; have q := Option.some.inj q; cases q
structure Two (T : Tx) (B : Hp) (tc : List Nat) (c1 c g : S5) : Prop where
  rc : Okk T B c
  rg : Okk T B g
  eH : g.H = c.H
  eF : g.F = c.F
  sep : ∀ a, O g.φ a → ¬ O c.φ a
  st : Step c1.H c1.F (O c1.φ) c.H c.F (fun a => O c.φ a ∨ O g.φ a)
  fix : ∀ j, j ∉ tc → c.ρ[j]? = c1.ρ[j]? ∧ c.φ j = c1.φ j ∧ ∀ a ∈ c1.φ j, c.H a = c1.H a
  sg : ∀ j, j + 1000 ∉ tc → c.σ[j]? = c1.σ[j]?
theorem Two.goes {T : Tx} {B : Hp} {tc : List Nat} {c1 c g : S5} (w : Two T B tc c1 c g) : Goes tc c1 c [] :=
  ⟨w.st.drop fun a h => h.elim .inl fun z => (by cases z), w.fix, w.sg⟩
theorem Step.wider {H F H' F' : Hp} {P O1 O2 : Addr → Prop} (s : Step H F O1 H' F' O2) : Step H F (fun a => P a ∨ O1 a) H' F' (fun a => P a ∨ O2 a) :=
  ⟨fun a o e n => s.keep a o e fun z => n (.inr z), s.ext, fun a o e n => (s.fn a o e n).imp .inr id, fun a q => q.elim (fun z => .inl (.inl z)) fun z => (s.on a z).imp .inr id⟩
theorem Two.turn {T : Tx} (hT : T.tb = []) {B : Hp} {tc : List Nat} {c1 c g g' : S5} {gv : List Addr} {d : D} {u : V} (w : Two T B tc c1 c g) (st : Step g.H g.F (O g.φ) g'.H g'.F (Or2 (O g'.φ) gv)) (r' : Okk T B g') (t : Tmp T B g'.H g'.F g'.φ d u gv) :
    Two T B tc c1 { c with H := g'.H, F := ovl g'.H g'.F gv } { g' with F := ovl g'.H g'.F gv } ∧ Rep T B g'.H (ovl g'.H g'.F gv) (mapF flFrz d) u [] := by
  have st2 : Step c.H c.F (O g.φ) g'.H g'.F (Or2 (O g'.φ) gv) := by rw [← w.eH, ← w.eF]; exact st
  have exF1 : Ex (ovl g'.H g'.F gv) g'.H := ovl_sub r'.exF
  have st3 : Step c.H c.F (O g.φ) g'.H (ovl g'.H g'.F gv) (O g'.φ) := st2.ovl fun a h => (t.ap a h).1
  have hB : ∀ a, O g.φ a → B a = none := fun a ⟨i, h⟩ => (w.rg.ap i a h).2
  have ro := r'.ovl (fun a h => (t.ap a h).1) t.dj t.rep.nt
  obtain ⟨rc, sep⟩ := Rel.side w.rc st3 exF1 ro.xt (fun a h z => w.sep a z h) hB
  refine ⟨⟨rc, ro, rfl, rfl, fun a h z => sep a z h, ?_, fun j hj => ?_, w.sg⟩, t.frz⟩
  · exact w.st.trans st3.wider
  · obtain ⟨x1, x2, x3⟩ := w.fix j hj
    refine ⟨x1, x2, fun a ha => ?_⟩
    have ha' : O c.φ a := ⟨j, by rw [x2]; exact ha⟩
    obtain ⟨o, e⟩ := w.rc.dom ha'
    rw [← x3 a ha, e]
    exact (st2.keep a o e fun z => w.sep a z ha').st (w.rc.xt.noT hT a o e)
theorem Two.last {T : Tx} (hT : T.tb = []) {B : Hp} {tc : List Nat} {c1 c g g' : S5} (w : Two T B tc c1 c g) (st : Step g.H g.F (O g.φ) g'.H g'.F (Or2 (O g'.φ) [])) (r' : Okk T B g') :
    Okk T B { c with H := g'.H, F := g'.F } ∧ Goes tc c1 { c with H := g'.H, F := g'.F } [] := by
  have st2 : Step c.H c.F (O g.φ) g'.H g'.F (O g'.φ) := by rw [← w.eH, ← w.eF]; exact st.no
  have hB : ∀ a, O g.φ a → B a = none := fun a ⟨i, h⟩ => (w.rg.ap i a h).2
  obtain ⟨rc, sep⟩ := Rel.side w.rc st2 r'.exF r'.xt (fun a h z => w.sep a z h) hB
  refine ⟨rc, (w.st.trans st2.wider).drop (fun a h => h.elim .inl fun z => (by cases z)), fun j hj => ?_, w.sg⟩
  obtain ⟨x1, x2, x3⟩ := w.fix j hj
  refine ⟨x1, x2, fun a ha => ?_⟩
  have ha' : O c.φ a := ⟨j, by rw [x2]; exact ha⟩
  obtain ⟨o, e⟩ := w.rc.dom ha'
  rw [← x3 a ha, e]
  exact (st2.keep a o e fun z => w.sep a z ha').st (w.rc.xt.noT hT a o e)
theorem Two.go {T : Tx} {B : Hp} {tc tc2 : List Nat} {c1 c g c2 : S5} (w : Two T B tc c1 c g) (a : Goes tc2 c c2 []) (r : Okk T B c2) (h : ∀ j ∈ tc2, j ∈ tc) : Two T B tc c1 c2 { g with H := c2.H, F := c2.F } := by
  have st : Step g.H g.F (O c.φ) c2.H c2.F (O c2.φ) := by rw [w.eH, w.eF]; exact a.step.no
  have hB : ∀ a, O c.φ a → B a = none := fun a ⟨i, h⟩ => (w.rc.ap i a h).2
  obtain ⟨rg, sep⟩ := Rel.side w.rg st r.exF r.xt w.sep hB
  refine ⟨r, rg, rfl, rfl, sep, ?_, fun j hj => ?_, fun j hj => (a.sg j fun z => hj (h _ z)).trans (w.sg j hj)⟩
  · have z : Step c.H c.F (fun a => O g.φ a ∨ O c.φ a) c2.H c2.F (fun a => O g.φ a ∨ O c2.φ a) := Step.wider a.step.no
    have z2 : Step c.H c.F (fun a => O c.φ a ∨ O g.φ a) c2.H c2.F (fun a => O c2.φ a ∨ O g.φ a) := ⟨fun b o e n => z.keep b o e fun y => n y.symm, z.ext, fun b o e n => (z.fn b o e n).imp Or.symm id, fun b q => (z.on b q.symm).imp Or.symm id⟩
    exact w.st.trans z2
  · obtain ⟨x1, x2, x3⟩ := w.fix j hj
    obtain ⟨y1, y2, y3⟩ := a.fix j fun z => hj (h j z)
    exact ⟨y1.trans x1, y2.trans x2, fun b hb => (y3 b (by rw [x2]; exact hb)).trans (x3 b hb)⟩
end Cs
namespace Cs
open PySem L2 Evl PyProof.Rows GenW
abbrev gpOf (X : Cx) (N : List Str) (qual : Str) (sc : Scope) (f : Addr) (cdv : Value) (L a : Addr) (G : Gx) : GP := ⟨X.prog, X.w, X.K, X.mg, X.base, N, qual, sc, f, cdv, X.A.in1, X.stack, L, a, G⟩
section
variable {X : Cx} {G : Gx} {W : WX} {S : Type} {st : S → En} {step : S → GOut S} {start : List D → GOut S} {tg : Tg} {fg t1 tb : List Nat} {tge iter : Expr} {body gbody : List Stmt} {pos : Pos} {src : M (List D)} {fb : M Flw} {fuel k : Nat}
  {N ps : List Str} {qual : Str} {sc : Scope} {f : Addr} {cdv : Value}
structure Below (X : Cx) (pins : List (Addr × Obj)) (L : Nat) : Prop where
  s0 : X.s_0.heap.objs.size ≤ L
  loc : X.env.locals ≤ L
  cell : ∀ x c, X.env.cells.lookup x = some c → c ≤ L
  pin : ∀ q ∈ X.pn ++ pins, q.1 ≤ L
theorem inv_shade {pins : List (Addr × Obj)} {σ : L2.St} {H : Hp} {s : Shared} {L : Nat} (I : Inv X pins σ H s) (b : Below X pins L) : Inv X pins σ (shade L [] H s.heap) s :=
  ⟨I.ok, I.os, I.bare, ⟨I.base.keep, I.base.slot, fun a o e n hx => shade_le (I.base.free a o e n hx) (.inl fun z => absurd (Nat.lt_of_lt_of_le (Heap.lt_size e) b.s0) (by omega)), I.base.there, fun a xs e => shade_some (I.base.tups a xs e), fun a o u e => shade_some (I.base.frzs a o u e), fun a ps e => by
    obtain ⟨more, q⟩ := I.base.tbls a ps e
    exact ⟨more, shade_some q⟩⟩, I.loc, I.cell, shade_le I.free (.inl fun z => absurd b.loc (Nat.not_le.mpr z)), fun x c e => shade_le (I.freeC x c e) (.inl fun z => absurd (b.cell x c e) (Nat.not_le.mpr z)), fun q hq => by
    obtain ⟨z1, z2, z3⟩ := I.pin q hq
    exact ⟨z1, shade_le z2 (.inl fun z => absurd (b.pin q hq) (Nat.not_le.mpr z)), z3⟩, hok_shade I.hok, I.len⟩
theorem inv_unshade {pins : List (Addr × Obj)} {T : Tx} {B : Hp} {tc : List Nat} {g h : S5} {gv : List Addr} {hp : Heap} {s : Shared} {L : Nat} {σ : L2.St} (rel : Okk T B g) (a : Goes tc (g.sh L [] hp) h gv) (I : Inv X pins σ h.H s) : Inv X pins σ (unsh g.H (shade L [] g.H hp) h.H) s := by
  have no : ∀ b, h.H b = none → unsh g.H (shade L [] g.H hp) h.H b = none := fun b e => by
    rcases unsh_or (H := g.H) (Hs := shade L [] g.H hp) (Hs' := h.H) (b := b) with q | q
    · exact q.trans e
    · exact q.1
  have so : ∀ b o, h.H b = some o → (∀ φ, o ≠ .ext φ) → unsh g.H (shade L [] g.H hp) h.H b = some o := fun b o e ne => by
    rcases unsh_or (H := g.H) (Hs := shade L [] g.H hp) (Hs' := h.H) (b := b) with q | ⟨_, q2, u, q3⟩
    · exact q.trans e
    · have e3 := keep_sh rel a b u q2 q3
      rw [e] at e3
      cases e3
      rcases shade_cases q3 with y | ⟨_, y⟩
      · rw [q2] at y; cases y
      · exact absurd y (ne _)
  exact ⟨I.ok, I.os, I.bare, ⟨I.base.keep, I.base.slot, fun b o e n hx => no b (I.base.free b o e n hx), I.base.there, fun b xs e => so _ _ (I.base.tups b xs e) fun _ z => (by cases z), fun b o u e => so _ _ (I.base.frzs b o u e) fun _ z => (by cases z), fun b ps e => by
    obtain ⟨more, q⟩ := I.base.tbls b ps e
    exact ⟨more, so _ _ q fun _ z => by cases z⟩⟩, I.loc, I.cell, no _ I.free, fun x c e => no _ (I.freeC x c e), fun q hq => by
    obtain ⟨z1, z2, z3⟩ := I.pin q hq
    exact ⟨z1, no _ z2, z3⟩, hok_un rel a I.hok, I.len⟩
theorem goes_un {T : Tx} {B : Hp} {tc : List Nat} {g h : S5} {gv : List Addr} {hp : Heap} {L : Nat} (hT : T.tb = []) (rel : Okk T B g) (r : Okk T B h) (a : Goes tc (g.sh L [] hp) h gv) : Goes tc g (h.un g L [] hp) gv := by
  refine ⟨step_un hT rel r a, fun j hj => ?_, a.sg⟩
  obtain ⟨x1, x2, x3⟩ := a.fix j hj
  refine ⟨x1, x2, fun b hb => ?_⟩
  obtain ⟨o, e⟩ := rel.dom ⟨j, hb⟩
  show unsh _ _ _ b = _
  rw [unsh_of (.inl (by rw [e]; exact fun z => by cases z)), x3 b hb, e]
  exact shade_some e
theorem gs_forG (hT : G.tb = []) (po : PassesOwn (model X.prog X.w) X.A X.env X.xe) (hc : X.calm = true) (hr : Room k X.A) (GS0 : GSc N ps sc) (hi : GG X G W t1 iter src N ps qual sc gbody f cdv)
    (hrd : ∀ (B : Hp) (L a : Addr) (ds : List D) (σ0 : L2.St), Ready (gpOf X N qual sc f cdv L a G) B st step (fuel + 1) (fun _ => none) (frm N.length ds) (start ds) (.fresh (.func gbody (envOfC qual sc L f cdv))) σ0 [])
    (hg : PG X.nox tge (tgR X.K tg)) (hb : GSs X.nox G WF tb body fb) (hf : ∀ j ∈ fg, j ∈ tg.tc ++ tb := by decide) (hs : ∀ x, foldedSetIterable iter X.env x = pure x := by intro _; rfl) :
    GS X G W (t1 ++ (tg.tc ++ tb)) (.For tge iter body [] pos) (dForG src ps.length start step tg fg fb fuel) := by
  refine ⟨fun pins s0 σ H E I h => ?_⟩
  obtain ⟨B, c0, e1, e2, rl, hp⟩ := h
  subst e1 e2
  refine wpAny_For (thn (hi.run pins s0 c0.σ c0.H (fun vs H1 => ∃ (c1 : S5) (ds : List D), c1.H = H1 ∧ c1.σ = c0.σ ∧ Okk (tx X G) B c1 ∧ Reps (tx X G) B c1.H c1.F ds vs [] ∧ ds.length = ps.length ∧
    Post (okS (tx X G) B (tg.tc ++ tb) c1 E) (exS (tx X G) W B (tg.tc ++ tb) c1) (forG step tg fg fb fuel (start ds) c1.ρ)) I ⟨B, c0, rfl, rfl, rl, ?_⟩) fun u s1 ⟨vs, H1, sc', I1, mk, c1, ds, q1, q2, r1, rs, hl, hP⟩ => ?_) hs
  · refine hp.bnd.imp (fun ds ρ1 ⟨_, h⟩ vs c1 g q1 q2 r1 t a => ?_) fun _ _ _ _ h => (h.wk fun _ => memL).toE
    subst q1
    by_cases hd : ds.length = ps.length ∧ allFs noOw ds = true
    · rw [if_pos hd] at h
      exact ⟨by rw [← t.rep.len]; exact hd.1, c1, ds, rfl, q2, r1, t.rep.noOw hd.2, hd.1, h.imp (fun _ _ q => q.re a) fun _ _ _ _ q => q.re a⟩
    · rw [if_neg hd] at h
      exact h.elim
  subst q1
  obtain ⟨a, rfl, ha, hisg⟩ := mk.ex
  refine wpAny_pyIter_gen hisg ?_
  have Isc : Inv X pins c1.σ c1.H sc' := by rw [q2]; exact I1
  have I1' : Inv X pins c1.σ c1.H s1 := Isc.call' (ch := []) mk.os (Un.kept mk.keep) (Isc.hok.kept mk.keep) mk.bare fun b z => (by cases z)
  have young : ∀ b, sc'.heap.objs.size ≤ b → X.s_0.heap.objs.size ≤ b ∧ b ≠ X.env.locals ∧ (∀ x c, X.env.cells.lookup x = some c → c ≠ b) ∧ (∀ q ∈ X.pn ++ pins, q.1 ≠ b) ∧ b ∉ X.fs := fun b hb => by
    refine ⟨Nat.le_trans Isc.sz hb, Nat.ne_of_gt (Nat.lt_of_lt_of_le Isc.lt hb), fun x c e z => ?_, fun q hq z => ?_, Isc.nofs hb⟩
    · obtain ⟨v, o, ho, _⟩ := Isc.cell x c e
      have h1 := Heap.lt_size ho
      rw [z] at h1
      exact absurd (Nat.lt_of_lt_of_le h1 hb) (Nat.lt_irrefl _)
    · have h1 := Heap.lt_size (Isc.pin q hq).1
      rw [z] at h1
      exact absurd (Nat.lt_of_lt_of_le h1 hb) (Nat.lt_irrefl _)
  have frL : ∀ b ∈ frs X.stack, b < sc'.heap.objs.size := fun b hb => by
    by_cases z : b < sc'.heap.objs.size
    · exact z
    · obtain ⟨_, y2, _, _, y5⟩ := young b (Nat.le_of_not_lt z)
      rcases List.mem_cons.mp (Isc.stkSub b hb) with q | q
      · exact absurd q y2
      · exact absurd q y5
  obtain ⟨go, nm, qn, hgo, hgc, hgd, hgsl⟩ := hisg
  have hgnc : ∀ v, go.data ≠ .cell v := fun v z => by rw [hgd] at z; cases z
  generalize hgn : sc'.gens.size = gn at mk hgd
  refine codeAny_forLoop_any (fun n s3 => ∃ (c g : S5) (o : GOut S) (gs : GenState) (priv : List (Addr × Obj)) (Fl : Hp), Inv X pins c.σ c.H s3 ∧ Two (tx X G) B (tg.tc ++ tb) c1 c g ∧
      Post (okS (tx X G) B (tg.tc ++ tb) c1 E) (exS (tx X G) W B (tg.tc ++ tb) c1) (forG step tg fg fb n o c.ρ) ∧ s3.gens[gn]? = some gs ∧ Ready (gpOf X N qual sc f cdv sc'.heap.objs.size a G) B st step (n + 1) Fl g.ρ o gs g.σ priv ∧ Ex Fl g.F ∧
      s3.heap.get? a = some go ∧ c.H a = none ∧ c.H sc'.heap.objs.size = none ∧ LocAt N (envOfC qual sc sc'.heap.objs.size f cdv) g.σ s3.heap ∧ g.σ.length = N.length ∧ CellAt' sc'.heap.objs.size sc c.H s3.heap ∧ Priv (gpOf X N qual sc f cdv sc'.heap.objs.size a G) c.H s3 priv) ?_ fuel
    ⟨c1, ⟨L2.start N vs, c1.H, c1.F, frm N.length ds, fun _ => []⟩, start ds, _, [], fun _ => none, I1', ?_, hP, by rw [← hgn]; exact mk.gs, hrd _ _ _ _ _, fun _ _ z => (by cases z), hgo, Isc.hok.fresh (Nat.le_of_lt ha), Isc.hok.fresh (Nat.le_refl _), mk.loc, ?_, fun x c e => ⟨mk.cl x c e, Isc.hok.fresh (Nat.le_of_lt (cellL_gt (PySem.mem_of_lookup e)))⟩, ⟨fun _ z => (by cases z)⟩⟩
  · rintro n s3 ⟨c, g, o, gs, priv, Fl, I3, w, hP3, hgs3, hrdy, hFl, hgo3, haN, hLN, hloc, hlen, hcl, hpriv⟩
    have hob : o ≠ .bad := fun e => by
      subst e
      cases n <;> exact hP3
    obtain ⟨mL, ⟨oL, esL, epL, hoL, hdL, _⟩, _⟩ := id hloc
    have hgl : gn < s3.gens.size := (Array.getElem?_eq_some_iff.mp hgs3).1
    have asl : Asl (gpOf X N qual sc f cdv sc'.heap.objs.size a G) B g (s3.setGen gn .running) := by
      have e0 := I3.env0.in1
      refine ⟨?_, Heap.lt_size hoL, Nat.le_trans Isc.ok.bsz Isc.sz, frL, by rw [w.eH]; exact hLN, hloc, hlen, w.rg, by rw [w.eH]; exact hcl, ha, ⟨go, hgo3, hgnc⟩, by rw [w.eH]; exact haN⟩
      rw [w.eH]
      exact ⟨e0.frames, e0.mod, e0.bs, e0.bsz, e0.funs, e0.frf, e0.hok, allBare_setGen e0.bare rfl⟩
    have hgo1 := hrdy hob g (s3.setGen gn .running) asl rfl rfl hFl (by rw [w.eH]; exact ⟨hpriv.all⟩)
    have nea : a ∉ sc'.heap.objs.size :: ((gpOf X N qual sc f cdv sc'.heap.objs.size a G).fp priv ++ ow sc'.heap.objs.size g) := fun z => by
      rcases List.mem_cons.mp z with z | z
      · rw [z] at ha; exact Nat.lt_irrefl _ ha
      · rcases List.mem_append.mp z with z | z
        · rcases List.mem_append.mp z with z | z
          · obtain ⟨x, ex⟩ := of_cellA z
            obtain ⟨⟨v, o', ho', hd'⟩, _⟩ := hcl x a ex
            have ho' : s3.heap.get? a = some o' := ho'
            rw [hgo3] at ho'
            cases ho'
            exact hgnc v hd'
          · obtain ⟨q, hq, eq⟩ := List.mem_map.mp z
            exact (hpriv.all q hq).2.1 eq
        · obtain ⟨o', eo'⟩ := w.rg.dom (of_ow z).1
          rw [w.eH, haN] at eo'
          cases eo'
    have hch : ∀ b ∈ sc'.heap.objs.size :: ((gpOf X N qual sc f cdv sc'.heap.objs.size a G).fp priv ++ ow sc'.heap.objs.size g), (b ∈ X.ex ∨ X.s_0.heap.objs.size ≤ b) ∧ b ≠ X.env.locals ∧ (∀ x c, X.env.cells.lookup x = some c → c ≠ b) ∧ ∀ q ∈ X.pn ++ pins, q.1 ≠ b := fun b hb => by
      have hle : sc'.heap.objs.size ≤ b := by
        rcases List.mem_cons.mp hb with z | z
        · rw [z]; exact Nat.le_refl _
        · rcases List.mem_append.mp z with z | z
          · rcases List.mem_append.mp z with z | z
            · obtain ⟨x, ex⟩ := of_cellA z
              exact Nat.le_of_lt (cellL_gt (PySem.mem_of_lookup ex))
            · obtain ⟨q, hq, eq⟩ := List.mem_map.mp z
              rw [← eq]
              exact Nat.le_of_lt (hpriv.all q hq).1
          · exact Nat.le_of_lt (of_ow z).2
      obtain ⟨y1, y2, y3, y4, _⟩ := young b hle
      exact ⟨.inr y1, y2, y3, y4⟩
    refine wpAny_passesOwn po (thn (wpAny_gsz (n := gn + 1) hgl (next_gen1 (gs := gs) (I3.ok.hd hc) I3.nolimit hr.depth ⟨go, nm, qn, hgo3, hgc, hgd, hgsl⟩ hgs3 hgo1
      (Q := fun r s4 => gn + 1 ≤ s4.gens.size → match r with
        | none => o = .done ∧ ∃ c' : S5, c'.ρ = c.ρ ∧ Inv X pins c'.σ c'.H s4 ∧ Okk (tx X G) B c' ∧ Goes (tg.tc ++ tb) c1 c' []
        | some v => ∃ (d : D) (x : S) (u : V) (gs' : GenState) (priv' : List (Addr × Obj)) (c' g' : S5) (Fl' : Hp), o = .yld d x ∧ c'.ρ = c.ρ ∧ Inv X pins c'.σ c'.H s4 ∧ Two (tx X G) B (tg.tc ++ tb) c1 c' g' ∧ Rep (tx X G) B c'.H c'.F (mapF flFrz d) u [] ∧ RelV u v ∧ s4.gens[gn]? = some gs' ∧
            (∃ k l c p fs cl, gs' = .suspended k l c p fs cl) ∧ Ready (gpOf X N qual sc f cdv sc'.heap.objs.size a G) B st step n Fl' g'.ρ (step x) gs' g'.σ priv' ∧ Ex Fl' c'.F ∧ s4.heap.get? a = some go ∧ c'.H a = none ∧ c'.H sc'.heap.objs.size = none ∧
            LocAt N (envOfC qual sc sc'.heap.objs.size f cdv) g'.σ s4.heap ∧ g'.σ.length = N.length ∧ CellAt' sc'.heap.objs.size sc c'.H s4.heap ∧ Priv (gpOf X N qual sc f cdv sc'.heap.objs.size a G) c'.H s4 priv') fun e s4 he => ?_)) fun r s4 hq => ?_)
    · obtain ⟨hq, he⟩ := he
      refine ⟨hq, ?_⟩
      cases e with
      | susp v g0 l0 k0 c0' p0 fs0 =>
        obtain ⟨d, x, g', gv, u, priv', eo, eρ, tr, t, rv, pv, rdy⟩ := he
        intro hsz
        obtain ⟨w2, rp⟩ := w.turn hT tr.step tr.rel t
        have I4 : Inv X pins c.σ g'.H (s4.setGen gn (End.susp v g0 l0 k0 c0' p0 fs0).genState) := I3.call' (ch := sc'.heap.objs.size :: ((gpOf X N qual sc f cdv sc'.heap.objs.size a G).fp priv ++ ow sc'.heap.objs.size g)) tr.os (by have z := tr.un; rw [w.eH] at z; exact z) tr.hok (allBare_setGen tr.bare (End.bare_of_quiet hq)) hch
        have hsz1 : gn < s4.gens.size := by
          have q : (s4.setGen gn (End.susp v g0 l0 k0 c0' p0 fs0).genState).gens.size = s4.gens.size := setGen_size _ _ _
          rw [q] at hsz
          omega
        refine ⟨d, x, u, _, priv', { c with H := g'.H, F := ovl g'.H g'.F gv }, { g' with F := ovl g'.H g'.F gv }, g'.F, eo, rfl, I4, w2, rp, rv, setGen_at hsz1, ⟨_, _, _, _, _, _, rfl⟩, ?_, ovl_ex fun b hb => (t.ap b hb).1, ?_, ?_, tr.hH, tr.loc, tr.len, tr.cl, ⟨pv.all⟩⟩
        · show Ready _ _ _ _ n _ g'.ρ _ _ _ _
          rw [eρ]
          exact rdy
        · exact tr.un.keep a go hgo3 (by rw [w.eH]; exact haN) (fun z => Nat.lt_irrefl _ (Nat.lt_trans (frL a z) ha)) nea
        · exact tr.un.free a go hgo3 (by rw [w.eH]; exact haN) nea
      | ret r =>
        obtain ⟨eo, hr', g', tr⟩ := he
        refine ⟨hr', fun h' hk hsz => ⟨eo, ?_⟩⟩
        obtain ⟨rc, gz⟩ := w.last hT tr.step tr.rel
        have I4 : Inv X pins c.σ g'.H (s4.setGen gn .finished) := I3.call' (ch := sc'.heap.objs.size :: ((gpOf X N qual sc f cdv sc'.heap.objs.size a G).fp priv ++ ow sc'.heap.objs.size g)) tr.os (by have z := tr.un; rw [w.eH] at z; exact z) tr.hok (allBare_setGen tr.bare rfl) hch
        exact ⟨{ c with H := g'.H, F := g'.F }, rfl, I4.kept (t' := (s4.setGen gn .finished).toks) hk, rc, gz⟩
    · cases r with
      | none =>
        obtain ⟨eo, c', eρ, I4, rc, gz⟩ := hq
        subst eo
        have hP4 : okS (tx X G) B (tg.tc ++ tb) c1 E .nx c.ρ := by cases n <;> exact hP3
        exact wpAny_execs_nil ⟨c'.σ, c'.H, I4, hP4 c' eρ rc gz⟩
      | some v =>
        obtain ⟨d, x, u, gs', priv', c', g', Fl', eo, eρ, I4, w4, rp, rv, hgs4, ⟨k1, l1, cc1, p1, fs1, cl1, egs⟩, rdy, hFl4, hgo4, haN4, hLN4, hloc4, hlen4, hcl4, hpriv4⟩ := hq
        subst eo
        cases n with
        | zero => exact hP3.elim
        | succ n =>
          unfold forG at hP3
          rw [← eρ] at hP3
          refine wpAny_passesOwn po (go_of (n := "generator") hgo4 hgc hgd (by decide) ?_)
          cases et : dTg tg (mapF flFrz d) c'.ρ with
          | bad => rw [et] at hP3; exact hP3.elim
          | exc c ks xs ρ => rw [et] at hP3; exact hP3.elim
          | ok fl ρ1 =>
            rw [et] at hP3
            cases fl with
            | bk => exact hP3.elim
            | ct => exact hP3.elim
            | rt d => exact hP3.elim
            | nx =>
              dsimp only at hP3
              obtain ⟨mL4, ⟨oL4, esL4, epL4, hoL4, hdL4, _⟩, _⟩ := id hloc4
              have bel : Below X pins sc'.heap.objs.size := ⟨Isc.sz, Nat.le_of_lt Isc.lt, fun x c e => by
                obtain ⟨v, z⟩ := Isc.cell x c e
                exact Nat.le_of_lt z.lt, fun q hq => Nat.le_of_lt (Heap.lt_size (Isc.pin q hq).1)⟩
              have I4s : Inv X pins c'.σ (shade sc'.heap.objs.size [] c'.H s4.heap) s4 := inv_shade I4 bel
              have I5 : Inv X (pins ++ [(sc'.heap.objs.size, oL4)]) c'.σ (shade sc'.heap.objs.size [] c'.H s4.heap) s4 := I4s.pins_of fun q hq => by
                rcases List.mem_append.mp hq with hq | hq
                · exact I4s.pin q (List.mem_append_right _ hq)
                · obtain ⟨_, y2, _, _, y5⟩ := young sc'.heap.objs.size (Nat.le_refl _)
                  rw [List.mem_singleton.mp hq]
                  exact ⟨hoL4, shade_le hLN4 (.inl (Nat.lt_irrefl _)), y2, y5, fun v z => by rw [hdL4] at z; cases z⟩
              have htg : tgR X.K tg u (c'.sh sc'.heap.objs.size [] s4.heap).σ (c'.sh sc'.heap.objs.size [] s4.heap).H (fun σ H => ∃ c5 : S5, c5.σ = σ ∧ c5.H = H ∧ c5.ρ = ρ1 ∧ Okk (tx X G) B c5 ∧ Goes tg.tc (c'.sh sc'.heap.objs.size [] s4.heap) c5 []) :=
                tg_core (T := tx X G) (s := c'.sh sc'.heap.objs.size [] s4.heap) w4.rc.shaded (rp.mono (Ex.refl B) (Ex.refl _) fun _ z => by cases z) et fun s2 z1 z2 z3 z4 z5 => ⟨s2, rfl, rfl, z1, z4, z5⟩
              have A1 := sleep_wpAny (A := X.A) I5.bare fun hb' => hg.run _ (Lf s4 (s4.gens.map psn)) c'.σ (shade sc'.heap.objs.size [] c'.H s4.heap) u v _ ((inv_lf I5 hb').wish _) rv htg
              refine wpAny_mono A1 (fun _ s5 ⟨sl5, P5, ⟨σ5, H5, I5', c5, z1, z2, z3, r5, g5⟩, hb5⟩ => ?_) fun e s' ⟨_, _, z, _⟩ => z.elim
              subst z1 z2
              have I6 : Inv X (pins ++ [(sc'.heap.objs.size, oL4)]) c5.σ c5.H s5 := inv_unlf I5'.unwish (hb5 I5'.bare)
              rw [← z3] at hP3
              let EE : Ends := { nx := (fun σ H => ∃ (c7 : S5), fb c5.ρ = .ok .nx c7.ρ ∧ c7.σ = σ ∧ c7.H = H ∧ Okk (tx X G) B c7 ∧ Goes tb c5 c7 []), ct := (fun σ H => ∃ (c7 : S5), fb c5.ρ = .ok .ct c7.ρ ∧ c7.σ = σ ∧ c7.H = H ∧ Okk (tx X G) B c7 ∧ Goes tb c5 c7 []), bk := (fun σ H => ∃ (c7 : S5), fb c5.ρ = .ok .bk c7.ρ ∧ c7.σ = σ ∧ c7.H = H ∧ Okk (tx X G) B c7 ∧ Goes tb c5 c7 []), rt := (fun v H => ∃ (c7 : S5) (d : D) (gv : List Addr), fb c5.ρ = .ok (.rt d) c7.ρ ∧ c7.H = H ∧ Okk (tx X G) B c7 ∧ Tmp (tx X G) B c7.H c7.F c7.φ d v gv ∧ Goes tb c5 c7 gv) }
              have hD : tDS (tx X G) WF tb fb EE c5.σ c5.H := by
                refine ⟨B, c5, rfl, rfl, r5, ?_⟩
                cases eb : fb c5.ρ with
                | bad => rw [eb] at hP3; exact hP3.elim
                | exc c ks xs ρ => rw [eb] at hP3; exact hP3.elim
                | ok fl ρ2 =>
                  cases fl with
                  | nx => exact fun s' y1 y2 y3 => ⟨s', by rw [eb, y1], rfl, rfl, y2, y3⟩
                  | ct => exact fun s' y1 y2 y3 => ⟨s', by rw [eb, y1], rfl, rfl, y2, y3⟩
                  | bk => exact fun s' y1 y2 y3 => ⟨s', by rw [eb, y1], rfl, rfl, y2, y3⟩
                  | rt d => exact fun v s' gv y1 y2 y3 y4 => ⟨s', d, gv, by rw [eb, y1], rfl, y2, y3, y4⟩
              have A2 := sleep_wpAny (A := X.A) I6.bare fun hb' => hb.run _ (Lf s5 (s5.gens.map psn)) c5.σ c5.H EE ((inv_lf I6 hb').wish _) hD
              refine wpAny_mono A2 (fun fl s7 ⟨sl7, P7, q7, hb7⟩ => ?_) fun e s' ⟨_, _, z, _⟩ => z.elim
              have hgs7 : s7.gens[gn]? = some gs' := by
                subst egs
                exact sl7 _ _ _ _ _ _ _ (sl5 _ _ _ _ _ _ _ hgs4)
              have again : ∀ (c7 : S5) (H7 : Hp) (σ7 : L2.St), c7.σ = σ7 → c7.H = H7 → Inv X.nox (pins ++ [(sc'.heap.objs.size, oL4)]) σ7 H7 (Lf s7 P7) → Okk (tx X G) B c7 → Goes tb c5 c7 [] →
                  ∃ c8 : S5, c8.ρ = fgt fg c7.ρ ∧ Inv X pins c8.σ c8.H s7 ∧ Two (tx X G) B (tg.tc ++ tb) c1 c8 { g' with H := c8.H, F := c8.F } ∧ Ex Fl' c8.F ∧ s7.heap.get? a = some go ∧ c8.H a = none ∧ c8.H sc'.heap.objs.size = none ∧
                    LocAt N (envOfC qual sc sc'.heap.objs.size f cdv) g'.σ s7.heap ∧ CellAt' sc'.heap.objs.size sc c8.H s7.heap ∧ Priv (gpOf X N qual sc f cdv sc'.heap.objs.size a G) c8.H s7 priv' := fun c7 H7 σ7 x1 x2 I7 r7 g7 => by
                subst x1 x2
                have I7' : Inv X (pins ++ [(sc'.heap.objs.size, oL4)]) c7.σ c7.H s7 := inv_unlf I7.unwish (hb7 I7.bare)
                have gg := g5.trans0 g7
                have gu := goes_un hT w4.rc r7 gg
                have ru := rel_un hT w4.rc r7 gg
                have Iu := inv_unshade w4.rc gg I7'
                have sh7 : ∀ b o, sc'.heap.objs.size < b → c'.H b = none → s4.heap.get? b = some o → unsh c'.H (shade sc'.heap.objs.size [] c'.H s4.heap) c7.H b = none ∧ s7.heap.get? b = some o := fun b o hb n e => by
                  have e1 := shade_new (fp := []) n hb (fun z => by cases z) e
                  have e2 := keep_sh w4.rc gg b _ n e1
                  have e3 : s7.heap.get? b = s4.heap.get? b := (I7'.hok b _ e2).1
                  exact ⟨unsh_at (o' := .tup []) n e1, e3.trans e⟩
                obtain ⟨c8, v1, v2, v3, v4, v5, v6⟩ := fgt_core (is := fg) ru
                have w7 := w4.go gu ru fun j hj => hj
                have w8 := w7.go v6 v5 fun j hj => hf j hj
                have pinL := Iu.pin (sc'.heap.objs.size, oL4) (List.mem_append_right _ (List.mem_append_right _ List.mem_cons_self))
                refine ⟨c8, v1, by rw [v2, v3]; exact Iu.unpinned, w8, (hFl4.trans gu.step.ext).trans v6.step.ext, (sh7 a go ha haN4 hgo4).2, ?_, ?_, hloc4.at (fun o' ho' => ?_) (fun x c v e z => ?_), fun x c e => ?_, ⟨fun q hq => ?_⟩⟩
                · rw [v3]; exact (sh7 a go ha haN4 hgo4).1
                · rw [v3]; exact pinL.2.1
                · have hoL4' : s4.heap.get? sc'.heap.objs.size = some oL4 := hoL4
                  rw [hoL4'] at ho'
                  cases ho'
                  exact pinL.1
                · obtain ⟨o', ho', hd'⟩ := z
                  exact ⟨o', (sh7 c o' (cellL_gt (PySem.mem_of_lookup e)) (hcl4 x c e).2 ho').2, hd'⟩
                · obtain ⟨⟨v, o', ho', hd'⟩, n'⟩ := hcl4 x c e
                  obtain ⟨y1, y2⟩ := sh7 c o' (cellL_gt (PySem.mem_of_lookup e)) n' ho'
                  exact ⟨⟨v, o', y2, hd'⟩, by rw [v3]; exact y1⟩
                · obtain ⟨z1, z2, z3, z4, z5⟩ := hpriv4.all q hq
                  obtain ⟨y1, y2⟩ := sh7 q.1 q.2 z1 z4 z3
                  exact ⟨z1, z2, y2, by rw [v3]; exact y1, z5⟩
              cases fl with
              | next =>
                obtain ⟨σ7, H7, I7, c7, eb, x1, x2, r7, g7⟩ := q7
                obtain ⟨c8, v1, I8, w8, uF, u1, u2, u3, u4, u6, u5⟩ := again c7 H7 σ7 x1 x2 I7 r7 g7
                rw [eb] at hP3
                exact ⟨n, Nat.lt_succ_self n, c8, _, _, gs', priv', Fl', I8, w8, by rw [v1]; exact hP3, hgs7, rdy, uF, u1, u2, u3, u4, hlen4, u6, u5⟩
              | cont =>
                obtain ⟨σ7, H7, I7, c7, eb, x1, x2, r7, g7⟩ := q7
                obtain ⟨c8, v1, I8, w8, uF, u1, u2, u3, u4, u6, u5⟩ := again c7 H7 σ7 x1 x2 I7 r7 g7
                rw [eb] at hP3
                exact ⟨n, Nat.lt_succ_self n, c8, _, _, gs', priv', Fl', I8, w8, by rw [v1]; exact hP3, hgs7, rdy, uF, u1, u2, u3, u4, hlen4, u6, u5⟩
              | brk =>
                obtain ⟨σ7, H7, I7, c7, eb, x1, x2, r7, g7⟩ := q7
                obtain ⟨c8, v1, I8, w8, _⟩ := again c7 H7 σ7 x1 x2 I7 r7 g7
                rw [eb] at hP3
                exact ⟨c8.σ, c8.H, I8, hP3 c8 v1 w8.rc w8.goes⟩
              | ret u7 =>
                obtain ⟨v7, σ7, H7, I7, rv7, c7, d7, gv, eb, x2, r7, t7, g7⟩ := q7
                subst x2
                rw [eb] at hP3
                have I7' : Inv X (pins ++ [(sc'.heap.objs.size, oL4)]) σ7 c7.H s7 := inv_unlf I7.unwish (hb7 I7.bare)
                have gg := g5.trans0 g7
                have gu := goes_un hT w4.rc r7 gg
                have ru := rel_un hT w4.rc r7 gg
                have Iu := inv_unshade w4.rc gg I7'
                have gz : Goes (tg.tc ++ tb) c1 (c7.un c' sc'.heap.objs.size [] s4.heap) gv := (w4.goes.trans0 gu).wk fun j z => (List.mem_append.mp z).elim id id
                exact ⟨v7, σ7, _, Iu.unpinned, rv7, hP3 v7 (c7.un c' sc'.heap.objs.size [] s4.heap) gv rfl ru (tmp_un w4.rc gg t7) gz⟩
  · refine ⟨r1, wide_rel (s := ⟨vs.map some, c1.H, c1.F, ds.map .dt, fun _ => []⟩) (rel_args r1.exB r1.exF r1.exP r1.xt rs) rfl rfl, rfl, rfl, fun a ⟨i, h⟩ => (by cases h), Step.refl.drop fun a h => h.elim id fun ⟨i, h⟩ => (by cases h), fun j _ => ⟨rfl, rfl, fun _ _ => rfl⟩, fun j _ => rfl⟩
  · show (L2.start N vs).length = N.length
    have hps : ps.length ≤ N.length := by
      have := congrArg List.length GS0.pre
      rw [List.length_take] at this
      omega
    have hvl : vs.length = ps.length := by rw [← rs.len]; exact hl
    unfold L2.start
    rw [List.length_append, List.length_map, List.length_replicate]
    omega
end
end Cs
namespace Cs
open PySem L2 Evl PyProof.Rows GenW
section
variable {M : Model} {A : Around} {Φ : End → Shared → Prop} {c : Code} {fs : List Frame} {s : Shared}
end
section
variable {X : Cx} {G : Gx} {A : Around} {Φ : End → Shared → Prop} {fs : List Frame} {tge e : Expr} {yp pos : Pos} {tg : Tg} {t1 tc : List Nat} {dy : M D} {B F0 : Hp} {h : S5} {s : Shared} {J : It} {n : Nat} {Gd : Hp → Prop} {Y : Nat → Hp → V → Hp → Prop} {items : List D} {fp : List Addr} {it : Addr} {tn : Nat → Heap → Prop}
end
end Cs
namespace Cs
open PySem L2 Evl PyProof.Rows GenW
section
variable {p : GP} {ps : List Str} {tge iter e : Expr} {yp pos fpos : Pos} {tg : Tg} {t1 tc : List Nat} {dy : M D} {src : M (List D)} {B : Hp}
end
end Cs
namespace Cs
open PySem L2 Evl PyProof.Rows GenW
def wTest : Stmt → Expr
  | .While t _ _ _ => t
  | _ => .Constant .none 0 ⟨0, 0, 0, 0⟩
def wBd : Stmt → List Stmt
  | .While _ b _ _ => b
  | .For _ _ b _ _ => b
  | _ => []
def wPos : Stmt → Pos
  | .While _ _ _ q => q
  | .For _ _ _ _ q => q
  | _ => ⟨0, 0, 0, 0⟩
def yEx : Stmt → Expr
  | .Expr (.Yield (some e) _) _ => e
  | _ => .Constant .none 0 ⟨0, 0, 0, 0⟩
def yPs : Stmt → Pos
  | .Expr (.Yield (some _) q) _ => q
  | _ => ⟨0, 0, 0, 0⟩
def yQs : Stmt → Pos
  | .Expr _ q => q
  | _ => ⟨0, 0, 0, 0⟩
def bAt (b : List Stmt) (i : Nat) : Stmt := b.getD i (.Pass ⟨0, 0, 0, 0⟩)
section
variable {P : Program} {w : World} {K : PySem.W.Frag} {mg : Str → Option Value} {base : Heap} {N ps : List Str} {qual : Str} {st : Stmt} {f : Addr} {G : Gx} {k : Nat}
theorem while_rd {t0 t1 t2 t3 t4 : List Nat} {d0 : M Flw} {dc : M Bool} {d1 : M Flw} {dy : M D} {d2 : M Flw} (m j : Nat) (S : GSc N ps (defScope st))
    (hW : ∀ (cdv : Value) (A : Around) (outer : List Env) (s0 : Shared) (H : Hp), Room k (A.deeper (envOfC qual (defScope st) s0.heap.objs.size f cdv)) → L2N.Takes (gx P w K mg base N qual (defScope st) f cdv A outer s0 H) WF →
      PassesOwn (model P w) (gx P w K mg base N qual (defScope st) f cdv A outer s0 H).A (gx P w K mg base N qual (defScope st) f cdv A outer s0 H).env (gx P w K mg base N qual (defScope st) f cdv A outer s0 H).xe →
      (gx P w K mg base N qual (defScope st) f cdv A outer s0 H).A.units + 65 < cLine →
      GSs (gx P w K mg base N qual (defScope st) f cdv A outer s0 H) G WF t0 ((defBody st).take m) d0 ∧
        Wp (gx P w K mg base N qual (defScope st) f cdv A outer s0 H) G (wTest (bAt (defBody st) m)) ((wBd (bAt (defBody st) m)).take j) (yEx (bAt (wBd (bAt (defBody st) m)) j)) ((wBd (bAt (defBody st) m)).drop (j + 1)) t1 t2 t3 t4 dc d1 dy d2)
    (hbd : defBody st = (defBody st).take m ++ [.While (wTest (bAt (defBody st) m)) (wBody ((wBd (bAt (defBody st) m)).take j) (yEx (bAt (wBd (bAt (defBody st) m)) j)) (yPs (bAt (wBd (bAt (defBody st) m)) j)) (yQs (bAt (wBd (bAt (defBody st) m)) j)) ((wBd (bAt (defBody st) m)).drop (j + 1))) [] (wPos (bAt (defBody st) m))] := by rfl)
    (hi : ∀ (L : Addr) (cdv : Value), interactive (envOfC qual (defScope st) L f cdv) = false := by intro _ _; rfl) (hT : G.tb = [] := by rfl)
    (cdv : Value) (A : Around) (outer : List Env) (hr : Room (k + 1) A) (B : Hp) (L a : Addr) (n : Nat) (Fl : Hp) (ρ : En) (σ : L2.St) :
    Ready ⟨P, w, K, mg, base, N, qual, defScope st, f, cdv, A, outer, L, a, G⟩ B id (fun ρ => toG (gNx d2 (gHead dc d1 dy) ρ)) n Fl ρ (toG (gNx d0 (gHead dc d1 dy) ρ)) (.fresh (.func (defBody st) (envOfC qual (defScope st) L f cdv))) σ [] := by
  have hu : ∀ s0 H, (gx P w K mg base N qual (defScope st) f cdv A outer s0 H).A.units + 65 < cLine := fun s0 H => by
    have := (hr.deeper (envOfC qual (defScope st) s0.heap.objs.size f cdv)).un
    show (A.deeper (envOfC qual (defScope st) s0.heap.objs.size f cdv)).units + 65 < cLine
    omega
  exact while_fresh (p := ⟨P, w, K, mg, base, N, qual, defScope st, f, cdv, A, outer, L, a, G⟩) hT S hr.hd (hi L cdv) (fun s0 H _ => (hW cdv A outer s0 H (hr.deeper _) gx_takes gx_owns (hu s0 H)).1) (fun s0 H _ => (hW cdv A outer s0 H (hr.deeper _) gx_takes gx_owns (hu s0 H)).2) hbd n Fl ρ σ
end
section
variable {X : Cx} {G : Gx} {W : WX} {S : Type} {sf : S → En} {step : S → GOut S} {start : List D → GOut S} {tg : Tg} {fg t1 tb : List Nat} {tge iter : Expr} {body gbody : List Stmt} {pos : Pos} {src : M (List D)} {fb : M Flw} {fuel k kg : Nat}
  {N ps : List Str} {qual : Str} {sc : Scope} {f : Addr} {fd : FuncData}
theorem gs_forG2 (po : PassesOwn (model X.prog X.w) X.A X.env X.xe) (hc : X.calm = true) (hr : Room (k + 1) X.A) (hD : ∃ cdv, GDef X.prog X.w X.K X.mg X.base N ps qual sc gbody f fd cdv) (hi : ∀ cdv, GDef X.prog X.w X.K X.mg X.base N ps qual sc gbody f fd cdv → GG X G W t1 iter src N ps qual sc gbody f cdv)
    (hrd : ∀ (cdv : Value) (A : Around) (outer : List Env), Room k A → ∀ (B : Hp) (L a : Addr) (n : Nat) (Fl : Hp) (ds : List D) (σ0 : L2.St), Ready ⟨X.prog, X.w, X.K, X.mg, X.base, N, qual, sc, f, cdv, A, outer, L, a, G⟩ B sf step n Fl (frm N.length ds) (start ds) (.fresh (.func gbody (envOfC qual sc L f cdv))) σ0 [])
    (hg : PG X.nox tge (tgR X.K tg)) (hb : L2N.Takes X.nox WF → PassesOwn (model X.prog X.w) X.A X.env X.nox.xe → GSs X.nox G WF tb body fb) (hf : ∀ j ∈ fg, j ∈ tg.tc ++ tb := by decide) (hs : ∀ x, foldedSetIterable iter X.env x = pure x := by intro _; rfl) (hT : G.tb = [] := by rfl) :
    GS X G W (t1 ++ (tg.tc ++ tb)) (.For tge iter body [] pos) (dForG src ps.length start step tg fg fb fuel) := by
  obtain ⟨cdv, D⟩ := hD
  exact gs_forG (fuel := fuel) hT po hc hr D.S (hi cdv D) (fun B L a ds σ0 => hrd cdv X.A.in1 X.stack hr.in1 B L a _ _ ds σ0) hg (hb (fun _ _ ⟨_, _, _, _, _, _, _, _, _, _, _, _, _, _, _, _, w⟩ => w) fun _ _ h => h.elim) hf hs
end
end Cs
namespace Cs
open PySem L2 Evl PyProof.Rows
def GenL {S : Type} (step : S → GOut S) : List D → GOut S → Prop
  | [], o => o = .done
  | d :: ds, o => ∃ x, o = .yld d x ∧ GenL step ds (step x)
section
variable {S : Type} {step : S → GOut S} {start : List D → GOut S} {tg : Tg} {fg : List Nat} {body : M Flw} {fuel m : Nat} {f : M (List D)} {Q : Flw → En → Prop} {X : XK0} {ρ : En}
@[simp] theorem post_dForG : Post Q X (dForG f m start step tg fg body fuel ρ) = Post (fun ds ρ1 => (ds.length = m ∧ allFs noOw ds = true) ∧ Post Q X (forG step tg fg body fuel (start ds) ρ1)) X (f ρ) := by
  unfold dForG
  rw [post_bnd]
  congr 1
  funext ds ρ1
  by_cases h : ds.length = m ∧ allFs noOw ds = true
  · rw [if_pos h]
    simp [h]
  · rw [if_neg h]
    simp [h]
theorem forG_forL : ∀ {ds : List D} {fuel : Nat} {o : GOut S} {ρ : En}, GenL step ds o → ds.length ≤ fuel → Post Q N0 (forL tg fg body (ds.map (mapF flFrz)) ρ) → Post Q X (forG step tg fg body fuel o ρ)
  | [], n, _, ρ, rfl, _, h => by
    cases n <;> exact h
  | d :: ds, 0, _, ρ, _, hl, _ => by simp at hl
  | d :: ds, n + 1, _, ρ, ⟨x, rfl, hs⟩, hl, h => by
    unfold forG
    rw [List.map_cons] at h
    unfold forL at h
    cases e1 : dTg tg (mapF flFrz d) ρ with
    | bad => rw [e1] at h; exact h.elim
    | exc c ks xs ρ1 => rw [e1] at h; exact h.elim
    | ok fl ρ1 =>
      rw [e1] at h
      cases fl with
      | bk => exact h.elim
      | ct => exact h.elim
      | rt d => exact h.elim
      | nx =>
        dsimp only at h ⊢
        cases e2 : body ρ1 with
        | bad => rw [e2] at h; exact h.elim
        | exc c ks xs ρ2 => rw [e2] at h; exact h.elim
        | ok fl ρ2 =>
          rw [e2] at h
          have hl' : ds.length ≤ n := by simp at hl; omega
          cases fl with
          | nx => exact forG_forL hs hl' h
          | ct => exact forG_forL hs hl' h
          | bk => exact h
          | rt d => exact h
end
end Cs
namespace Cs
open PySem L2 Evl PyProof.Rows
@[simp] theorem post_gNx {Q : Option D → En → Prop} {X : XK0} {f : M Flw} {k : M (Option D)} {ρ : En} : Post Q X (gNx f k ρ) = Post (fun fl ρ1 => match fl with
    | .nx => Post Q X (k ρ1)
    | _ => False) X (f ρ) := by
  unfold gNx
  rw [post_bnd]
  congr 1
  funext fl ρ1
  cases fl <;> rfl
@[simp] theorem post_gHead {Q : Option D → En → Prop} {X : XK0} {c : M Bool} {f1 : M Flw} {y : M D} {ρ : En} : Post Q X (gHead c f1 y ρ) = Post (fun b ρ1 => if b = true then Post (fun fl ρ2 => match fl with
    | .nx => Post (fun d ρ3 => Q (some d) ρ3) X (y ρ2)
    | _ => False) X (f1 ρ1) else Q none ρ1) X (c ρ) := by
  unfold gHead
  rw [post_bnd]
  congr 1
  funext b ρ1
  cases b with
  | true =>
    rw [if_pos rfl, if_pos rfl, post_gNx]
    congr 1
    funext fl ρ2
    cases fl with
    | nx =>
      dsimp only
      rw [post_bnd]
      rfl
    | _ => rfl
  | false => rfl
theorem toG_of {f : Out (Option D)} {P : Option D → En → Prop} (h : Post P N0 f) : ∃ o ρ, P o ρ ∧ toG f = match o with
    | some d => .yld d ρ
    | none => .done := by
  cases f with
  | bad => exact h.elim
  | exc c ks xs ρ => exact h.elim
  | ok o ρ =>
    refine ⟨o, ρ, h, ?_⟩
    cases o <;> rfl
end Cs
namespace Lw
open PySem L2 Evl PyProof.Rows Cs
noncomputable def d_law_box : M Flw :=
  (dLendS 0 [] (dRet (dLst (dCons (dFz (dOp1 pList (.v (dSl (dCp 0) (ret none) (dPart (ret (.int 63))))))) (dCons (ret (.int 0)) (dCons (ret (.int 0)) (dCons (ret (.int 0)) dNil)))))))
theorem m_law_box_ex : ∃ m : List D → Res, m = run d_law_box [] 1 1 := ⟨_, rfl⟩
noncomputable def m_law_box : List D → Res := Classical.choose m_law_box_ex
theorem m_law_box_def : m_law_box = run d_law_box [] 1 1 := Classical.choose_spec m_law_box_ex
noncomputable def d_law_take_s1 : M Flw :=
  (dIf (dAnd (dB (dOp2 pEq (.v (dOp2 pIx (.p 0) (.v (ret (.int 2))))) (.v (ret (.int 0))))) (dB (dOp2 pLt (.v (dOp2 pIx (.p 0) (.v (ret (.int 1))))) (.v (dOp1 pLen (.v (dOp2 pIx (.p 0) (.v (ret (.int 0)))))))))) (dSeq (dAsg 2 (dOp2 pIx (.v (dOp2 pIx (.p 0) (.v (ret (.int 0))))) (.v (dOp2 pIx (.p 0) (.v (ret (.int 1)))))))
  (dSeq (dSet 0 (ret (.int 1)) (dOp2 pAdd (.v (dOp2 pIx (.p 0) (.v (ret (.int 1))))) (.v (ret (.int 1)))))
  (dIf (dB (dOp2 pGe (.v (dCp 2)) (.v (dOp2 pPow (.v (ret (.int 10))) (.v (ret (.int 18))))))) (dSet 0 (ret (.int 2)) (dOp2 pSub (.v (dCp 2)) (.v (dOp2 pPow (.v (ret (.int 10))) (.v (ret (.int 18))))))) (dSet 0 (ret (.int 3)) (dOp2 pMod (.v (dOp1 pInt (.v (dOp2 pAdd (.v (dOp2 pAdd (.v (dOp2 pMul (.v (dOp2 pIx (.p 0) (.v (ret (.int 3))))) (.v (ret (.int 69621))))) (.v (dCp 2)))) (.v (ret (.int 7))))))) (.v (ret (.int 2147483647)))))))) dNx)
noncomputable def d_law_take_s2 : M Flw :=
  (dIf (dB (dOp2 pGt (.v (dOp2 pIx (.p 0) (.v (ret (.int 2))))) (.v (ret (.int 0))))) (dSeq (dAsg 3 (dOp2 pMod (.v (dOp1 pInt (.v (dOp2 pIx (.p 0) (.v (ret (.int 2))))))) (.v (dCp 1))))
  (dSeq (dSet 0 (ret (.int 2)) (dOp2 pFdiv (.v (dOp2 pIx (.p 0) (.v (ret (.int 2))))) (.v (dCp 1))))
  (dRet (dCp 3)))) dNx)
noncomputable def d_law_take_s3 : M Flw :=
  (dSet 0 (ret (.int 3)) (dOp2 pMod (.v (dOp1 pInt (.v (dOp2 pMul (.v (dOp2 pIx (.p 0) (.v (ret (.int 3))))) (.v (ret (.int 48271))))))) (.v (ret (.int 2147483647)))))
noncomputable def d_law_take_s4 : M Flw :=
  (dRet (dOp2 pMod (.v (dOp2 pFdiv (.v (dOp1 pInt (.v (dOp2 pIx (.p 0) (.v (ret (.int 3))))))) (.v (ret (.int 16))))) (.v (dCp 1))))
noncomputable def d_law_take : M Flw :=
  (dSeq d_law_take_s1
  (dSeq d_law_take_s2
  (dSeq d_law_take_s3
  d_law_take_s4)))
theorem m_law_take_ex : ∃ m : List D → Res, m = run d_law_take [0] 4 2 := ⟨_, rfl⟩
noncomputable def m_law_take : List D → Res := Classical.choose m_law_take_ex
theorem m_law_take_def : m_law_take = run d_law_take [0] 4 2 := Classical.choose_spec m_law_take_ex
noncomputable def d_law_name_s1 : M Flw :=
  (dAsg 2 (ret (.str "abcdefghijklmnopqrstuvwxyz")))
noncomputable def d_law_name_s2 : M Flw :=
  (dAsg 3 (ret (.str "")))
noncomputable def d_law_name_b3 : M Flw :=
  (dAsg 3 (dOp2 pAdd (.v (dCp 3)) (.v (dOp2 pIx (.v (dCp 2)) (.v (dCall m_law_take [(.io 0, []), (.v (ret (.int 26)), [])]))))))
noncomputable def d_law_name_s3 : M Flw :=
  (dFor (dRg1 (dOp2 pAdd (.v (ret (.int 1))) (.v (dCall m_law_take [(.io 0, []), (.v (ret (.int 4)), [])])))) (.one 4) [] d_law_name_b3)
noncomputable def d_law_name_b5 : M Flw :=
  (dIf (dB (dOp2 pIn (.v (dCp 3)) (.p 1))) (dAsg 3 (dOp2 pAdd (.v (dCp 3)) (.v (ret (.str "x"))))) dNx)
noncomputable def d_law_name_s4 : M Flw :=
  (dFor (dRg1 (dOp1 pLen (.p 1))) (.one 4) [] d_law_name_b5)
noncomputable def d_law_name_s5 : M Flw :=
  (dRet (dCp 3))
noncomputable def d_law_name : M Flw :=
  (dSeq d_law_name_s1
  (dSeq d_law_name_s2
  (dSeq d_law_name_s3
  (dSeq d_law_name_s4
  d_law_name_s5))))
theorem m_law_name_ex : ∃ m : List D → Res, m = run d_law_name [0] 5 2 := ⟨_, rfl⟩
noncomputable def m_law_name : List D → Res := Classical.choose m_law_name_ex
theorem m_law_name_def : m_law_name = run d_law_name [0] 5 2 := Classical.choose_spec m_law_name_ex
noncomputable def d_law_names_b2 : M Flw :=
  (dApp 2 (dCall m_law_name [(.io 0, []), (.l 2, [])]))
noncomputable def d_law_names : M Flw :=
  (dSeq (dAsg 2 (dLst dNil))
  (dSeq (dFor (dRg1 (dCp 1)) (.one 3) [] d_law_names_b2)
  (dRet (dMv 2))))
theorem m_law_names_ex : ∃ m : List D → Res, m = run d_law_names [0] 4 2 := ⟨_, rfl⟩
noncomputable def m_law_names : List D → Res := Classical.choose m_law_names_ex
theorem m_law_names_def : m_law_names = run d_law_names [0] 4 2 := Classical.choose_spec m_law_names_ex
noncomputable def d_law_drawn_pairs_b2 : M Flw :=
  (dSeq (dAsg 5 (dCall m_law_take [(.io 0, []), (.v (dCp 1), [])]))
  (dApp 3 (dTup (dCons (dCp 5) (dCons (dCall m_law_take [(.io 0, []), (.v (dCp 1), [])]) dNil)))))
noncomputable def d_law_drawn_pairs : M Flw :=
  (dSeq (dAsg 3 (dLst dNil))
  (dSeq (dFor (dRg1 (dOp2 pMul (.v (dCp 2)) (.v (dOp2 pMin (.v (dCp 1)) (.v (ret (.int 1))))))) (.one 4) [] d_law_drawn_pairs_b2)
  (dRet (dMv 3))))
theorem m_law_drawn_pairs_ex : ∃ m : List D → Res, m = run d_law_drawn_pairs [0] 6 3 := ⟨_, rfl⟩
noncomputable def m_law_drawn_pairs : List D → Res := Classical.choose m_law_drawn_pairs_ex
theorem m_law_drawn_pairs_def : m_law_drawn_pairs = run d_law_drawn_pairs [0] 6 3 := Classical.choose_spec m_law_drawn_pairs_ex
noncomputable def d_law_named : M Flw :=
  (dLendS 1 [1002] (dRet (dLc (dIt (dCp 1)) (.one 2) [2] dYes (dTup (dCons (dOp2 pIx (.p 0) (.v (dOp2 pIx (.v (dCp 2)) (.v (ret (.int 0)))))) (dCons (dOp2 pIx (.p 0) (.v (dOp2 pIx (.v (dCp 2)) (.v (ret (.int 1)))))) dNil))))))
theorem m_law_named_ex : ∃ m : List D → Res, m = run d_law_named [] 3 2 := ⟨_, rfl⟩
noncomputable def m_law_named : List D → Res := Classical.choose m_law_named_ex
theorem m_law_named_def : m_law_named = run d_law_named [] 3 2 := Classical.choose_spec m_law_named_ex
noncomputable def d_check_name_b3 : M Flw :=
  (dIf (dB (dOp2 pNotIn (.v (dCp 1)) (.v (ret (.str "abcdefghijklmnopqrstuvwxyz"))))) (dRaise "InvalidName" ["name"] (dCons (dCp 0) dNil)) dNx)
noncomputable def d_check_name : M Flw :=
  (dSeq (dIf (dNot (dB (dChn pLe pLe (ret (.int 1)) (dOp1 pLen (.v (dCp 0))) (ret (.int 12))))) (dRaise "InvalidName" ["name"] (dCons (dCp 0) dNil)) dNx)
  (dFor (dIt (dCp 0)) (.one 1) [] d_check_name_b3))
theorem m_check_name_ex : ∃ m : List D → Res, m = run d_check_name [] 2 1 := ⟨_, rfl⟩
noncomputable def m_check_name : List D → Res := Classical.choose m_check_name_ex
theorem m_check_name_def : m_check_name = run d_check_name [] 2 1 := Classical.choose_spec m_check_name_ex
noncomputable def d_check_makes_b4 : M Flw :=
  (dSeq (dExpr (dCall m_check_name [(.v (dCp 2), [])]))
  (dSeq (dIf (dB (dOp2 pIn (.v (dCp 2)) (.p 1))) (dRaise "DuplicateMake" ["name"] (dCons (dCp 2) dNil)) dNx)
  (dApp 1 (dCp 2))))
noncomputable def d_check_makes : M Flw :=
  (dSeq (dIf (dB (dOp2 pGt (.v (dOp1 pLen (.p 0))) (.v (ret (.int 12))))) (dRaise "Full" ["most"] (dCons (ret (.int 12)) dNil)) dNx)
  (dSeq (dAsg 1 (dLst dNil))
  (dLendS 0 [2, 1002, 1] (dFor (dIt (dCp 0)) (.one 2) [] d_check_makes_b4))))
theorem m_check_makes_ex : ∃ m : List D → Res, m = run d_check_makes [] 3 1 := ⟨_, rfl⟩
noncomputable def m_check_makes : List D → Res := Classical.choose m_check_makes_ex
theorem m_check_makes_def : m_check_makes = run d_check_makes [] 3 1 := Classical.choose_spec m_check_makes_ex
noncomputable def d_check_known_b1 : M Flw :=
  (dIf (dB (dOp2 pNotIn (.v (dCp 2)) (.p 0))) (dRaise "UnknownMake" ["name"] (dCons (dCp 2) dNil)) dNx)
noncomputable def d_check_known : M Flw :=
  (dFor (dIt (dCp 1)) (.one 2) [] d_check_known_b1)
theorem m_check_known_ex : ∃ m : List D → Res, m = run d_check_known [] 3 2 := ⟨_, rfl⟩
noncomputable def m_check_known : List D → Res := Classical.choose m_check_known_ex
theorem m_check_known_def : m_check_known = run d_check_known [] 3 2 := Classical.choose_spec m_check_known_ex
noncomputable def d_check_pairs_b1 : M Flw :=
  (dExpr (dCall m_check_known [(.l 0, []), (.v (dTup (dCons (dCp 2) (dCons (dCp 3) dNil))), [])]))
noncomputable def d_check_pairs : M Flw :=
  (dLendS 1 [2, 1002, 3, 1003] (dFor (dIt (dCp 1)) (.tup [2, 3]) [] d_check_pairs_b1))
theorem m_check_pairs_ex : ∃ m : List D → Res, m = run d_check_pairs [] 4 2 := ⟨_, rfl⟩
noncomputable def m_check_pairs : List D → Res := Classical.choose m_check_pairs_ex
theorem m_check_pairs_def : m_check_pairs = run d_check_pairs [] 4 2 := Classical.choose_spec m_check_pairs_ex
noncomputable def d_closed_rows_b4 : M Flw :=
  (dIf (dB (dOp2 pEq (.v (dOp2 pBand (.v (dOp2 pShr (.v (dOp2 pIx (.p 1) (.v (dCp 4)))) (.v (dCp 2)))) (.v (ret (.int 1))))) (.v (ret (.int 1))))) (dSet 1 (dCp 4) (dOp2 pBor (.v (dOp2 pIx (.p 1) (.v (dCp 4)))) (.v (dCp 3)))) dNx)
noncomputable def d_closed_rows_b2 : M Flw :=
  (dSeq (dAsg 3 (dOp2 pIx (.p 1) (.v (dCp 2))))
  (dFor (dRg1 (dOp1 pLen (.p 1))) (.one 4) [] d_closed_rows_b4))
noncomputable def d_closed_rows : M Flw :=
  (dSeq (dAsg 1 (dOp1 pList (.p 0)))
  (dSeq (dFor (dRg1 (dOp1 pLen (.p 1))) (.one 2) [] d_closed_rows_b2)
  (dRet (dMv 1))))
theorem m_closed_rows_ex : ∃ m : List D → Res, m = run d_closed_rows [] 5 1 := ⟨_, rfl⟩
noncomputable def m_closed_rows : List D → Res := Classical.choose m_closed_rows_ex
theorem m_closed_rows_def : m_closed_rows = run d_closed_rows [] 5 1 := Classical.choose_spec m_closed_rows_ex
noncomputable def d_rows_of_s1 : M Flw :=
  (dAsg 4 (dDc (dEnT (dCp 0)) (.tup [2, 3]) [2, 3] dYes (dCp 3) (dCp 2)))
noncomputable def d_rows_of_s2 : M Flw :=
  (dAsg 5 (dLc (dRg1 (dOp1 pLen (.v (dCp 0)))) (.one 2) [2] dYes (dOp2 pShl (.v (ret (.int 1))) (.v (dCp 2)))))
noncomputable def d_rows_of_b3 : M Flw :=
  (dSeq (dAsg 2 (dOp2 pDix (.p 4) (.v (dCp 6))))
  (dSet 5 (dCp 2) (dOp2 pBor (.v (dOp2 pIx (.p 5) (.v (dCp 2)))) (.v (dOp2 pShl (.v (ret (.int 1))) (.v (dOp2 pDix (.p 4) (.v (dCp 7)))))))))
noncomputable def d_rows_of_s3 : M Flw :=
  (dLendS 1 [6, 1006, 7, 1007, 2, 1002, 5] (dFor (dIt (dCp 1)) (.tup [6, 7]) [] d_rows_of_b3))
noncomputable def d_rows_of_s4 : M Flw :=
  (dRet (dOp1 pTuple (.v (dCall m_closed_rows [(.l 5, [])]))))
noncomputable def d_rows_of : M Flw :=
  (dSeq d_rows_of_s1
  (dSeq d_rows_of_s2
  (dSeq d_rows_of_s3
  d_rows_of_s4)))
theorem m_rows_of_ex : ∃ m : List D → Res, m = run d_rows_of [] 8 2 := ⟨_, rfl⟩
noncomputable def m_rows_of : List D → Res := Classical.choose m_rows_of_ex
theorem m_rows_of_def : m_rows_of = run d_rows_of [] 8 2 := Classical.choose_spec m_rows_of_ex
noncomputable def d_Order___init___s1 : M Flw :=
  (dExpr (dCall m_check_makes [(.l 1, [])]))
noncomputable def d_Order___init___s2 : M Flw :=
  (dExpr (dCall m_check_pairs [(.l 1, []), (.l 2, [])]))
noncomputable def d_Order___init___s3 : M Flw :=
  (dSetF 0 "Order" "names" (dOp1 pTuple (.p 1)))
noncomputable def d_Order___init___s4 : M Flw :=
  (dSetF 0 "Order" "rows" (dCall m_rows_of [(.v (dOp1 (pFld "Order" "names") (.p 0)), []), (.l 2, [])]))
noncomputable def d_Order___init__ : M Flw :=
  (dSeq d_Order___init___s1
  (dSeq d_Order___init___s2
  (dSeq d_Order___init___s3
  d_Order___init___s4)))
theorem m_Order___init___ex : ∃ m : List D → Res, m = run d_Order___init__ [0] 3 3 := ⟨_, rfl⟩
noncomputable def m_Order___init__ : List D → Res := Classical.choose m_Order___init___ex
theorem m_Order___init___def : m_Order___init__ = run d_Order___init__ [0] 3 3 := Classical.choose_spec m_Order___init___ex
noncomputable def d_law_closed_s1 : M Flw :=
  (dAsg 2 (dLst dNil))
noncomputable def d_law_closed_b2 : M Flw :=
  (dApp 2 (dLc (dRg1 (dCp 0)) (.one 4) [4] dYes (dOp2 pEq (.v (dCp 3)) (.v (dCp 4)))))
noncomputable def d_law_closed_s2 : M Flw :=
  (dFor (dRg1 (dCp 0)) (.one 3) [] d_law_closed_b2)
noncomputable def d_law_closed_b4 : M Flw :=
  (dSet2 2 (dOp2 pIx (.v (dCp 5)) (.v (ret (.int 0)))) (dOp2 pIx (.v (dCp 5)) (.v (ret (.int 1)))) (ret (.bl true)))
noncomputable def d_law_closed_s3 : M Flw :=
  (dLendS 1 [5, 1005, 2] (dFor (dIt (dCp 1)) (.one 5) [] d_law_closed_b4))
noncomputable def d_law_closed_b9 : M Flw :=
  (dIf (dLendT 2 [] (dTru (.v (dOp2 pIx (.v (dOp2 pIx (.p 2) (.v (dCp 6)))) (.v (dCp 4)))))) (dSet2 2 (dCp 3) (dCp 4) (ret (.bl true))) dNx)
noncomputable def d_law_closed_b7 : M Flw :=
  (dIf (dLendT 2 [] (dTru (.v (dOp2 pIx (.v (dOp2 pIx (.p 2) (.v (dCp 3)))) (.v (dCp 6)))))) (dFor (dRg1 (dCp 0)) (.one 4) [] d_law_closed_b9) dNx)
noncomputable def d_law_closed_b6 : M Flw :=
  (dFor (dRg1 (dCp 0)) (.one 3) [] d_law_closed_b7)
noncomputable def d_law_closed_s4 : M Flw :=
  (dFor (dRg1 (dCp 0)) (.one 6) [] d_law_closed_b6)
noncomputable def d_law_closed_s5 : M Flw :=
  (dRet (dMv 2))
noncomputable def d_law_closed : M Flw :=
  (dSeq d_law_closed_s1
  (dSeq d_law_closed_s2
  (dSeq d_law_closed_s3
  (dSeq d_law_closed_s4
  d_law_closed_s5))))
theorem m_law_closed_ex : ∃ m : List D → Res, m = run d_law_closed [] 7 2 := ⟨_, rfl⟩
noncomputable def m_law_closed : List D → Res := Classical.choose m_law_closed_ex
theorem m_law_closed_def : m_law_closed = run d_law_closed [] 7 2 := Classical.choose_spec m_law_closed_ex
noncomputable def d_law_ready_b1 : M Flw :=
  (dIf (dLendT 0 [] (dAnd (dTru (.v (dOp2 pIx (.v (dOp2 pIx (.p 0) (.v (dCp 2)))) (.v (dCp 3))))) (dNot (dTru (.v (dOp2 pIx (.v (dOp2 pIx (.p 0) (.v (dCp 3)))) (.v (dCp 2)))))))) (dRet (ret (.bl false))) dNx)
noncomputable def d_law_ready : M Flw :=
  (dSeq (dLendS 1 [3, 1003] (dFor (dIt (dCp 1)) (.one 3) [] d_law_ready_b1))
  (dRet (ret (.bl true))))
theorem m_law_ready_ex : ∃ m : List D → Res, m = run d_law_ready [] 4 3 := ⟨_, rfl⟩
noncomputable def m_law_ready : List D → Res := Classical.choose m_law_ready_ex
theorem m_law_ready_def : m_law_ready = run d_law_ready [] 4 3 := Classical.choose_spec m_law_ready_ex
noncomputable def d_Order_has : M Flw :=
  (dSeq (dAsg 3 (dTix (dOp1 (pFld "Order" "names") (.p 0)) (dCp 1)))
  (dRet (dOp2 pEq (.v (dOp2 pBand (.v (dOp2 pShr (.v (dOp2 pIx (.v (dOp1 (pFld "Order" "rows") (.p 0))) (.v (dCp 3)))) (.v (dTix (dOp1 (pFld "Order" "names") (.p 0)) (dCp 2))))) (.v (ret (.int 1))))) (.v (ret (.int 1))))))
theorem m_Order_has_ex : ∃ m : List D → Res, m = run d_Order_has [] 4 3 := ⟨_, rfl⟩
noncomputable def m_Order_has : List D → Res := Classical.choose m_Order_has_ex
theorem m_Order_has_def : m_Order_has = run d_Order_has [] 4 3 := Classical.choose_spec m_Order_has_ex
noncomputable def d_Order_lowest_first_b4 : M Flw :=
  (dIf (dLendT 1 [1004] (dNot (dB (dOp1 pAnyB (.v (dLc (dIt (dCp 1)) (.one 4) [4] dYes (dAndV (dMeth "Order" "has" m_Order_has (.l 0, []) [(.v (dCp 3), []), (.v (dCp 4), [])]) (dNotV (dMeth "Order" "has" m_Order_has (.l 0, []) [(.v (dCp 4), []), (.v (dCp 3), [])]))))))))) (dSeq (dAsg 2 (dCp 3))
  (ret .bk)) dNx)
noncomputable def d_Order_lowest_first_g0 : M Flw :=
  (dAsg 1 (dOp1 pList (.v (dOp1 (pFld "Order" "names") (.p 0)))))
noncomputable def d_Order_lowest_first_gc : M Bool :=
  (dTru (.p 1))
noncomputable def d_Order_lowest_first_g1 : M Flw :=
  (dSeq (dAsg 2 (dOp2 pIx (.p 1) (.v (ret (.int 0)))))
  (dSeq (dLendS 1 [3, 1003, 1004, 2, 1002] (dFor (dIt (dCp 1)) (.one 3) [] d_Order_lowest_first_b4))
  (dAsg 1 (dLend 1 [1003] (dLc (dIt (dCp 1)) (.one 3) [3] (dB (dOp2 pNe (.v (dCp 3)) (.v (dCp 2)))) (dCp 3))))))
noncomputable def d_Order_lowest_first_gy : M D :=
  (dCp 2)
noncomputable def d_Order_lowest_first_g2 : M Flw :=
  dNx
noncomputable def gs_Order_lowest_first : List D → GOut En := fun ds => toG (gNx d_Order_lowest_first_g0 (gHead d_Order_lowest_first_gc d_Order_lowest_first_g1 d_Order_lowest_first_gy) (frm 5 ds))
noncomputable def gn_Order_lowest_first : En → GOut En := fun ρ => toG (gNx d_Order_lowest_first_g2 (gHead d_Order_lowest_first_gc d_Order_lowest_first_g1 d_Order_lowest_first_gy) ρ)
noncomputable def d_law_are_names_b3 : M Flw :=
  (dIf (dOr (dNot (dB (dOp1 (pIsi .str) (.v (dOp2 pIx (.p 0) (.v (dCp 2))))))) (dB (dOp2 pNe (.v (dOp2 pIx (.p 0) (.v (dCp 2)))) (.v (dOp2 pIx (.p 1) (.v (dCp 2))))))) (dRet (ret (.bl false))) dNx)
noncomputable def d_law_are_names : M Flw :=
  (dSeq (dIf (dOr (dNot (dB (dOp1 (pIsi .list) (.p 0)))) (dB (dOp2 pNe (.v (dOp1 pLen (.p 0))) (.v (dOp1 pLen (.p 1)))))) (dRet (ret (.bl false))) dNx)
  (dSeq (dFor (dRg1 (dOp1 pLen (.p 1))) (.one 2) [] d_law_are_names_b3)
  (dRet (ret (.bl true)))))
theorem m_law_are_names_ex : ∃ m : List D → Res, m = run d_law_are_names [] 3 2 := ⟨_, rfl⟩
noncomputable def m_law_are_names : List D → Res := Classical.choose m_law_are_names_ex
theorem m_law_are_names_def : m_law_are_names = run d_law_are_names [] 3 2 := Classical.choose_spec m_law_are_names_ex
noncomputable def d_law_s1 : M Flw :=
  (dAsg 1 (dCall m_law_box [(.l 0, [])]))
noncomputable def d_law_s2 : M Flw :=
  (dAsg 2 (dCall m_law_take [(.io 1, []), (.v (ret (.int 8)), [])]))
noncomputable def d_law_s3 : M Flw :=
  (dAsg 3 (dCall m_law_names [(.io 1, []), (.v (dCp 2), [])]))
noncomputable def d_law_s4 : M Flw :=
  (dAsg 4 (dCall m_law_drawn_pairs [(.io 1, []), (.v (dCp 2), []), (.v (dCall m_law_take [(.io 1, []), (.v (ret (.int 13)), [])]), [1])]))
noncomputable def d_law_s5 : M Flw :=
  (dAsg 5 (dMake "Order" m_Order___init__ [(.l 3, []), (.v (dCall m_law_named [(.l 3, []), (.l 4, [])]), [])]))
noncomputable def d_law_s6 : M Flw :=
  (dAsg 6 (dCall m_law_closed [(.v (dCp 2), []), (.l 4, [])]))
noncomputable def d_law_s7 : M Flw :=
  (dAsg 7 (dLst dNil))
noncomputable def d_law_s8 : M Flw :=
  (dAsg 8 (dOp1 pLrg (.v (dCp 2))))
noncomputable def d_law_b9_1 : M Flw :=
  (dLendS 8 [1010, 11, 1011] (dAsg 11 (dOp2 pIx (.v (dLc (dIt (dCp 8)) (.one 10) [10] (dB (dCall m_law_ready [(.l 6, []), (.l 8, []), (.v (dCp 10), [])])) (dCp 10))) (.v (ret (.int 0))))))
noncomputable def d_law_b9_2 : M Flw :=
  (dAsg 8 (dLend 8 [1010] (dLc (dIt (dCp 8)) (.one 10) [10] (dB (dOp2 pNe (.v (dCp 10)) (.v (dCp 11)))) (dCp 10))))
noncomputable def d_law_b9_3 : M Flw :=
  (dApp 7 (dOp2 pIx (.p 3) (.v (dCp 11))))
noncomputable abbrev d_law_b9_2t : M Flw :=
  (dSeq d_law_b9_2 d_law_b9_3)
noncomputable def d_law_b9 : M Flw :=
  (dSeq d_law_b9_1
  (dSeq d_law_b9_2
  d_law_b9_3))
noncomputable def d_law_s9 : M Flw :=
  (dFor (dRg1 (dCp 2)) (.one 9) [] d_law_b9)
noncomputable def d_law_b13_1 : M Flw :=
  (dAsg 12 (dLst dNil))
noncomputable def d_law_b15 : M Flw :=
  (dSeq (dApp 12 (dCp 13))
  (dIf (dB (dOp2 pGt (.v (dOp1 pLen (.p 12))) (.v (dCp 2)))) (dRet (ret (.bl false))) dNx))
noncomputable def d_law_b13_2 : M Flw :=
  (dLendS 5 [13, 1013, 12] (dForG (dRcv "Order" "lowest_first" (dCp 5)) 1 gs_Order_lowest_first gn_Order_lowest_first (.one 13) [] d_law_b15 4096))
noncomputable def d_law_b13_3 : M Flw :=
  (dIf (dNot (dB (dCall m_law_are_names [(.l 12, []), (.l 7, [])]))) (dRet (ret (.bl false))) dNx)
noncomputable abbrev d_law_b13_2t : M Flw :=
  (dSeq d_law_b13_2 d_law_b13_3)
noncomputable def d_law_b13 : M Flw :=
  (dSeq d_law_b13_1
  (dSeq d_law_b13_2
  d_law_b13_3))
noncomputable def d_law_s10 : M Flw :=
  (dFor (dRg1 (ret (.int 2))) (.one 9) [12] d_law_b13)
noncomputable def d_law_s11 : M Flw :=
  (dRet (ret (.bl true)))
noncomputable abbrev d_law_s10t : M Flw :=
  (dSeq d_law_s10 d_law_s11)
noncomputable abbrev d_law_s9t : M Flw :=
  (dSeq d_law_s9 d_law_s10t)
noncomputable abbrev d_law_s8t : M Flw :=
  (dSeq d_law_s8 d_law_s9t)
noncomputable abbrev d_law_s7t : M Flw :=
  (dSeq d_law_s7 d_law_s8t)
noncomputable abbrev d_law_s6t : M Flw :=
  (dSeq d_law_s6 d_law_s7t)
noncomputable abbrev d_law_s5t : M Flw :=
  (dSeq d_law_s5 d_law_s6t)
noncomputable abbrev d_law_s4t : M Flw :=
  (dSeq d_law_s4 d_law_s5t)
noncomputable abbrev d_law_s3t : M Flw :=
  (dSeq d_law_s3 d_law_s4t)
noncomputable abbrev d_law_s2t : M Flw :=
  (dSeq d_law_s2 d_law_s3t)
noncomputable def d_law : M Flw :=
  (dSeq d_law_s1
  (dSeq d_law_s2
  (dSeq d_law_s3
  (dSeq d_law_s4
  (dSeq d_law_s5
  (dSeq d_law_s6
  (dSeq d_law_s7
  (dSeq d_law_s8
  (dSeq d_law_s9
  (dSeq d_law_s10
  d_law_s11))))))))))
theorem m_law_ex : ∃ m : List D → Res, m = run d_law [] 14 1 := ⟨_, rfl⟩
noncomputable def m_law : List D → Res := Classical.choose m_law_ex
theorem m_law_def : m_law = run d_law [] 14 1 := Classical.choose_spec m_law_ex
def topS (i : Nat) : Stmt := PySem.Challenge.pw_chairstack_k08_lowest_first.main.body.getD i (.Pass ⟨0, 0, 0, 0⟩)
def clsB : Stmt → List Stmt
  | .ClassDef (body := b) .. => b
  | _ => []
def cls_st (i j : Nat) : Stmt := (clsB (topS i)).getD j (.Pass ⟨0, 0, 0, 0⟩)
structure Txt (K : PySem.W.Frag) (mg : Str → Option Value) (f_law_box f_law_take f_law_name f_law_names f_law_drawn_pairs f_law_named f_check_name f_check_makes f_check_known f_check_pairs f_closed_rows f_rows_of f_Order___init__ f_law_closed f_law_ready f_Order_has f_Order_lowest_first f_law_are_names f_law Y1 Y2 Y0 Y4 Y3 fi_Full fi_InvalidName fi_DuplicateMake fi_UnknownMake : Addr) (fd_law_box fd_law_take fd_law_name fd_law_names fd_law_drawn_pairs fd_law_named fd_check_name fd_check_makes fd_check_known fd_check_pairs fd_closed_rows fd_rows_of fd_Order___init__ fd_law_closed fd_law_ready fd_Order_has fd_Order_lowest_first fd_law_are_names fd_law fdi_Full fdi_InvalidName fdi_DuplicateMake fdi_UnknownMake : FuncData) : Prop where
  b_any : mg "any" = none
  b_enumerate : mg "enumerate" = none
  b_int : mg "int" = none
  b_isinstance : mg "isinstance" = none
  b_len : mg "len" = none
  b_list : mg "list" = none
  b_min : mg "min" = none
  b_range : mg "range" = none
  b_str : mg "str" = none
  b_tuple : mg "tuple" = none
  k_LETTERS : ∃ t : Tok, mg "LETTERS" = some (.str "abcdefghijklmnopqrstuvwxyz" t)
  k_LONGEST_NAME : ∃ t : Tok, mg "LONGEST_NAME" = some (.int 12 t)
  k_MOST_MAKES : ∃ t : Tok, mg "MOST_MAKES" = some (.int 12 t)
  F_law_box : Fun K "_law_box" "_law_box" (topS 21) f_law_box fd_law_box
  g_law_box : mg "_law_box" = some (.ref f_law_box)
  a_law_box : L2.Binds K fd_law_box ["_law_script"] []
  F_law_take : Fun K "_law_take" "_law_take" (topS 22) f_law_take fd_law_take
  g_law_take : mg "_law_take" = some (.ref f_law_take)
  a_law_take : L2.Binds K fd_law_take ["_law_box_here", "_law_many"] []
  F_law_name : Fun K "_law_name" "_law_name" (topS 23) f_law_name fd_law_name
  g_law_name : mg "_law_name" = some (.ref f_law_name)
  a_law_name : L2.Binds K fd_law_name ["_law_box_here", "_law_names_here"] []
  F_law_names : Fun K "_law_names" "_law_names" (topS 24) f_law_names fd_law_names
  g_law_names : mg "_law_names" = some (.ref f_law_names)
  a_law_names : L2.Binds K fd_law_names ["_law_box_here", "_law_size"] []
  F_law_drawn_pairs : Fun K "_law_drawn_pairs" "_law_drawn_pairs" (topS 25) f_law_drawn_pairs fd_law_drawn_pairs
  g_law_drawn_pairs : mg "_law_drawn_pairs" = some (.ref f_law_drawn_pairs)
  a_law_drawn_pairs : L2.Binds K fd_law_drawn_pairs ["_law_box_here", "_law_size", "_law_count"] []
  F_law_named : Fun K "_law_named" "_law_named" (topS 26) f_law_named fd_law_named
  g_law_named : mg "_law_named" = some (.ref f_law_named)
  a_law_named : L2.Binds K fd_law_named ["_law_names_here", "_law_pairs"] []
  F_check_name : Fun K "check_name" "check_name" (topS 12) f_check_name fd_check_name
  g_check_name : mg "check_name" = some (.ref f_check_name)
  a_check_name : L2.Binds K fd_check_name ["name"] []
  F_check_makes : Fun K "check_makes" "check_makes" (topS 13) f_check_makes fd_check_makes
  g_check_makes : mg "check_makes" = some (.ref f_check_makes)
  a_check_makes : L2.Binds K fd_check_makes ["makes"] []
  F_check_known : Fun K "check_known" "check_known" (topS 14) f_check_known fd_check_known
  g_check_known : mg "check_known" = some (.ref f_check_known)
  a_check_known : L2.Binds K fd_check_known ["makes", "names"] []
  F_check_pairs : Fun K "check_pairs" "check_pairs" (topS 15) f_check_pairs fd_check_pairs
  g_check_pairs : mg "check_pairs" = some (.ref f_check_pairs)
  a_check_pairs : L2.Binds K fd_check_pairs ["makes", "pairs"] []
  F_closed_rows : Fun K "closed_rows" "closed_rows" (topS 17) f_closed_rows fd_closed_rows
  g_closed_rows : mg "closed_rows" = some (.ref f_closed_rows)
  a_closed_rows : L2.Binds K fd_closed_rows ["rows"] []
  F_rows_of : Fun K "rows_of" "rows_of" (topS 18) f_rows_of fd_rows_of
  g_rows_of : mg "rows_of" = some (.ref f_rows_of)
  a_rows_of : L2.Binds K fd_rows_of ["names", "pairs"] []
  F_Order___init__ : ∃ dvs : List V, FunD K "__init__" "Order.__init__" (defArgs (cls_st 19 1)) (defBody (cls_st 19 1)) (defScope (cls_st 19 1)) dvs [] f_Order___init__ fd_Order___init__
  kp_Order___init__ : PySem.W.keepIn K (.ref f_Order___init__) = true
  a_Order___init__ : L2.Binds K fd_Order___init__ ["self", "makes", "pairs"] []
  F_law_closed : Fun K "_law_closed" "_law_closed" (topS 27) f_law_closed fd_law_closed
  g_law_closed : mg "_law_closed" = some (.ref f_law_closed)
  a_law_closed : L2.Binds K fd_law_closed ["_law_size", "_law_pairs"] []
  F_law_ready : Fun K "_law_ready" "_law_ready" (topS 29) f_law_ready fd_law_ready
  g_law_ready : mg "_law_ready" = some (.ref f_law_ready)
  a_law_ready : L2.Binds K fd_law_ready ["_law_reach", "_law_left", "_law_a"] []
  F_Order_has : Fun K "has" "Order.has" (cls_st 19 5) f_Order_has fd_Order_has
  a_Order_has : L2.Binds K fd_Order_has ["self", "upper", "lower"] []
  F_Order_lowest_first : Fun K "lowest_first" "Order.lowest_first" (cls_st 19 15) f_Order_lowest_first fd_Order_lowest_first
  a_Order_lowest_first : L2.Binds K fd_Order_lowest_first ["self"] []
  F_law_are_names : Fun K "_law_are_names" "_law_are_names" (topS 28) f_law_are_names fd_law_are_names
  g_law_are_names : mg "_law_are_names" = some (.ref f_law_are_names)
  a_law_are_names : L2.Binds K fd_law_are_names ["_law_value", "_law_expected"] []
  F_law : Fun K "law" "law" (topS 30) f_law fd_law
  g_law : mg "law" = some (.ref f_law)
  a_law : L2.Binds K fd_law ["_law_script"] []
  g_Full : mg "Full" = some (.ref Y1)
  c_Full : cls [("Full", Y1), ("InvalidName", Y2), ("DuplicateMake", Y0), ("UnknownMake", Y4), ("Order", Y3)] "Full" = some Y1
  g_InvalidName : mg "InvalidName" = some (.ref Y2)
  c_InvalidName : cls [("Full", Y1), ("InvalidName", Y2), ("DuplicateMake", Y0), ("UnknownMake", Y4), ("Order", Y3)] "InvalidName" = some Y2
  g_DuplicateMake : mg "DuplicateMake" = some (.ref Y0)
  c_DuplicateMake : cls [("Full", Y1), ("InvalidName", Y2), ("DuplicateMake", Y0), ("UnknownMake", Y4), ("Order", Y3)] "DuplicateMake" = some Y0
  g_UnknownMake : mg "UnknownMake" = some (.ref Y4)
  c_UnknownMake : cls [("Full", Y1), ("InvalidName", Y2), ("DuplicateMake", Y0), ("UnknownMake", Y4), ("Order", Y3)] "UnknownMake" = some Y4
  g_Order : mg "Order" = some (.ref Y3)
  c_Order : cls [("Full", Y1), ("InvalidName", Y2), ("DuplicateMake", Y0), ("UnknownMake", Y4), ("Order", Y3)] "Order" = some Y3
  x_Full : OexC K Y1
  nf_Full : ∀ f ∈ (["most"] : List Str), PySem.W.findIn K (.ref Y1) f = some none
  i_Full : PySem.W.findIn K (.ref Y1) "__init__" = some (some (.ref fi_Full))
  t_Full : PySem.W.typeIn K (.ref fi_Full) = some (.type "function")
  F_Full : Fun K "__init__" "Full.__init__" (cls_st 6 0) fi_Full fdi_Full
  a_Full : L2.Binds K fdi_Full ["self", "most"] []
  x_InvalidName : OexC K Y2
  nf_InvalidName : ∀ f ∈ (["name"] : List Str), PySem.W.findIn K (.ref Y2) f = some none
  i_InvalidName : PySem.W.findIn K (.ref Y2) "__init__" = some (some (.ref fi_InvalidName))
  t_InvalidName : PySem.W.typeIn K (.ref fi_InvalidName) = some (.type "function")
  F_InvalidName : Fun K "__init__" "InvalidName.__init__" (cls_st 3 0) fi_InvalidName fdi_InvalidName
  a_InvalidName : L2.Binds K fdi_InvalidName ["self", "name"] []
  x_DuplicateMake : OexC K Y0
  nf_DuplicateMake : ∀ f ∈ (["name"] : List Str), PySem.W.findIn K (.ref Y0) f = some none
  i_DuplicateMake : PySem.W.findIn K (.ref Y0) "__init__" = some (some (.ref fi_DuplicateMake))
  t_DuplicateMake : PySem.W.typeIn K (.ref fi_DuplicateMake) = some (.type "function")
  F_DuplicateMake : Fun K "__init__" "DuplicateMake.__init__" (cls_st 4 0) fi_DuplicateMake fdi_DuplicateMake
  a_DuplicateMake : L2.Binds K fdi_DuplicateMake ["self", "name"] []
  x_UnknownMake : OexC K Y4
  nf_UnknownMake : ∀ f ∈ (["name"] : List Str), PySem.W.findIn K (.ref Y4) f = some none
  i_UnknownMake : PySem.W.findIn K (.ref Y4) "__init__" = some (some (.ref fi_UnknownMake))
  t_UnknownMake : PySem.W.typeIn K (.ref fi_UnknownMake) = some (.type "function")
  F_UnknownMake : Fun K "__init__" "UnknownMake.__init__" (cls_st 5 0) fi_UnknownMake fdi_UnknownMake
  a_UnknownMake : L2.Binds K fdi_UnknownMake ["self", "name"] []
  cl_Order : Cls K Y3
  fl_Order_names : ∀ C, cls [("Full", Y1), ("InvalidName", Y2), ("DuplicateMake", Y0), ("UnknownMake", Y4), ("Order", Y3)] "Order" = some C → ClsF K C "names"
  fl_Order_rows : ∀ C, cls [("Full", Y1), ("InvalidName", Y2), ("DuplicateMake", Y0), ("UnknownMake", Y4), ("Order", Y3)] "Order" = some C → ClsF K C "rows"
  m_Order_has : Meth K Y3 "has" f_Order_has
  m_Order_lowest_first : Meth K Y3 "lowest_first" f_Order_lowest_first
  mk_Order : Mk K Y3 f_Order___init__
abbrev Gz (Y1 Y2 Y0 Y4 Y3 : Addr) : Gx := ⟨cls [("Full", Y1), ("InvalidName", Y2), ("DuplicateMake", Y0), ("UnknownMake", Y4), ("Order", Y3)], P0, none, []⟩
section
variable {P : Program} {w : World} {K : PySem.W.Frag} {mg : Str → Option Value} {base : Heap} {f_law_box f_law_take f_law_name f_law_names f_law_drawn_pairs f_law_named f_check_name f_check_makes f_check_known f_check_pairs f_closed_rows f_rows_of f_Order___init__ f_law_closed f_law_ready f_Order_has f_Order_lowest_first f_law_are_names f_law Y1 Y2 Y0 Y4 Y3 fi_Full fi_InvalidName fi_DuplicateMake fi_UnknownMake : Addr} {fd_law_box fd_law_take fd_law_name fd_law_names fd_law_drawn_pairs fd_law_named fd_check_name fd_check_makes fd_check_known fd_check_pairs fd_closed_rows fd_rows_of fd_Order___init__ fd_law_closed fd_law_ready fd_Order_has fd_Order_lowest_first fd_law_are_names fd_law fdi_Full fdi_InvalidName fdi_DuplicateMake fdi_UnknownMake : FuncData}
theorem sc_law_box : FnScope ["_law_script"] ["_law_script"] (defScope (topS 21)) := ⟨rfl, rfl, rfl, by decide +kernel, rfl, by decide +kernel, by decide +kernel⟩
theorem ok_law_box (T : Txt K mg f_law_box f_law_take f_law_name f_law_names f_law_drawn_pairs f_law_named f_check_name f_check_makes f_check_known f_check_pairs f_closed_rows f_rows_of f_Order___init__ f_law_closed f_law_ready f_Order_has f_Order_lowest_first f_law_are_names f_law Y1 Y2 Y0 Y4 Y3 fi_Full fi_InvalidName fi_DuplicateMake fi_UnknownMake fd_law_box fd_law_take fd_law_name fd_law_names fd_law_drawn_pairs fd_law_named fd_check_name fd_check_makes fd_check_known fd_check_pairs fd_closed_rows fd_rows_of fd_Order___init__ fd_law_closed fd_law_ready fd_Order_has fd_Order_lowest_first fd_law_are_names fd_law fdi_Full fdi_InvalidName fdi_DuplicateMake fdi_UnknownMake) : FnOk P w K mg base (L2N.CX P w) 1 f_law_box fd_law_box ["_law_script"] (spM ⟨K, cls [("Full", Y1), ("InvalidName", Y2), ("DuplicateMake", Y0), ("UnknownMake", Y4), ("Order", Y3)], P0, none, []⟩ m_law_box) := by
  have sc := sc_law_box
  have z := fn_den2 (P := P) (w := w) (mg := mg) (base := base) (G := (Gz Y1 Y2 Y0 Y4 Y3)) (tc := []) (den := d_law_box) (pr := []) (k := 0) T.F_law_box sc_law_box (by decide) fun cdv A outer s H E hr tk po hu => (gss_one (gs_lend (i := 0) (gs_ret (g_lst (ga_cons (g_fz (g_list (by rfl) T.b_list (go_v (g_slice (g_cp (pv 0)) go2_none (go2_some g_int))))) (ga_cons g_int (ga_cons g_int (ga_cons g_int ga_nil))))))))
  rw [m_law_box_def]
  exact z
theorem sc_law_take : FnScope ["_law_box_here", "_law_many", "_law_cell", "_law_drawn"] ["_law_box_here", "_law_many"] (defScope (topS 22)) := ⟨rfl, rfl, rfl, by decide +kernel, rfl, by decide +kernel, by decide +kernel⟩
theorem ok_law_take (T : Txt K mg f_law_box f_law_take f_law_name f_law_names f_law_drawn_pairs f_law_named f_check_name f_check_makes f_check_known f_check_pairs f_closed_rows f_rows_of f_Order___init__ f_law_closed f_law_ready f_Order_has f_Order_lowest_first f_law_are_names f_law Y1 Y2 Y0 Y4 Y3 fi_Full fi_InvalidName fi_DuplicateMake fi_UnknownMake fd_law_box fd_law_take fd_law_name fd_law_names fd_law_drawn_pairs fd_law_named fd_check_name fd_check_makes fd_check_known fd_check_pairs fd_closed_rows fd_rows_of fd_Order___init__ fd_law_closed fd_law_ready fd_Order_has fd_Order_lowest_first fd_law_are_names fd_law fdi_Full fdi_InvalidName fdi_DuplicateMake fdi_UnknownMake) : FnOk P w K mg base (L2N.CX P w) 1 f_law_take fd_law_take ["_law_box_here", "_law_many"] (spM ⟨K, cls [("Full", Y1), ("InvalidName", Y2), ("DuplicateMake", Y0), ("UnknownMake", Y4), ("Order", Y3)], P0, none, []⟩ m_law_take) := by
  have sc := sc_law_take
  have z := fn_den2 (P := P) (w := w) (mg := mg) (base := base) (G := (Gz Y1 Y2 Y0 Y4 Y3)) (tc := [2, 1002, 0, 0, 0, 3, 1003, 0, 0]) (den := d_law_take) (pr := [0]) (k := 0) T.F_law_take sc_law_take (by decide) fun cdv A outer s H E hr tk po hu => (gss_cons (gs_if (gt_w (gw_and (gt_eq hu (go_v (g_ix (go_p (pv 0)) (go_v g_int))) (go_v g_int)) (gw_one .And (gt_lt (go_v (g_ix (go_p (pv 0)) (go_v g_int))) (go_v (g_len (by rfl) T.b_len (go_v (g_ix (go_p (pv 0)) (go_v g_int))))))))) (gss_cons (gs_asg (i := 2) (g_ix (go_v (g_ix (go_p (pv 0)) (go_v g_int))) (go_v (g_ix (go_p (pv 0)) (go_v g_int)))) sc.nd rfl (by first | exact .inl rfl | exact .inr rfl))
  (gss_cons (gs_set (i := 0) (pv 0) g_int (g_add (go_v (g_ix (go_p (pv 0)) (go_v g_int))) (go_v g_int)))
  (gss_one (gs_if (gt_ge (go_v (g_cp (pv 2))) (go_v (g_pow (go_v g_int) (go_v g_int)))) (gss_one (gs_set (i := 0) (pv 0) g_int (g_sub (go_v (g_cp (pv 2))) (go_v (g_pow (go_v g_int) (go_v g_int)))))) (gss_one (gs_set (i := 0) (pv 0) g_int (g_mod (go_v (g_intC (by rfl) T.b_int (go_v (g_add (go_v (g_add (go_v (g_mul (go_v (g_ix (go_p (pv 0)) (go_v g_int))) (go_v g_int))) (go_v (g_cp (pv 2))))) (go_v g_int))))) (go_v g_int)))))))) gss_nil)
  (gss_cons (gs_if (gt_gt (go_v (g_ix (go_p (pv 0)) (go_v g_int))) (go_v g_int)) (gss_cons (gs_asg (i := 3) (g_mod (go_v (g_intC (by rfl) T.b_int (go_v (g_ix (go_p (pv 0)) (go_v g_int))))) (go_v (g_cp (pv 1)))) sc.nd rfl (by first | exact .inl rfl | exact .inr rfl))
  (gss_cons (gs_set (i := 0) (pv 0) g_int (g_fdiv (go_v (g_ix (go_p (pv 0)) (go_v g_int))) (go_v (g_cp (pv 1)))))
  (gss_one (gs_ret (g_cp (pv 3)))))) gss_nil)
  (gss_cons (gs_set (i := 0) (pv 0) g_int (g_mod (go_v (g_intC (by rfl) T.b_int (go_v (g_mul (go_v (g_ix (go_p (pv 0)) (go_v g_int))) (go_v g_int))))) (go_v g_int)))
  (gss_one (gs_ret (g_mod (go_v (g_fdiv (go_v (g_intC (by rfl) T.b_int (go_v (g_ix (go_p (pv 0)) (go_v g_int))))) (go_v g_int))) (go_v (g_cp (pv 1)))))))))
  rw [m_law_take_def]
  exact z
theorem sc_law_name : FnScope ["_law_box_here", "_law_names_here", "_law_letters", "_law_word", "_law_k"] ["_law_box_here", "_law_names_here"] (defScope (topS 23)) := ⟨rfl, rfl, rfl, by decide +kernel, rfl, by decide +kernel, by decide +kernel⟩
theorem ok_law_name (T : Txt K mg f_law_box f_law_take f_law_name f_law_names f_law_drawn_pairs f_law_named f_check_name f_check_makes f_check_known f_check_pairs f_closed_rows f_rows_of f_Order___init__ f_law_closed f_law_ready f_Order_has f_Order_lowest_first f_law_are_names f_law Y1 Y2 Y0 Y4 Y3 fi_Full fi_InvalidName fi_DuplicateMake fi_UnknownMake fd_law_box fd_law_take fd_law_name fd_law_names fd_law_drawn_pairs fd_law_named fd_check_name fd_check_makes fd_check_known fd_check_pairs fd_closed_rows fd_rows_of fd_Order___init__ fd_law_closed fd_law_ready fd_Order_has fd_Order_lowest_first fd_law_are_names fd_law fdi_Full fdi_InvalidName fdi_DuplicateMake fdi_UnknownMake) : FnOk P w K mg base (L2N.CX P w) 2 f_law_name fd_law_name ["_law_box_here", "_law_names_here"] (spM ⟨K, cls [("Full", Y1), ("InvalidName", Y2), ("DuplicateMake", Y0), ("UnknownMake", Y4), ("Order", Y3)], P0, none, []⟩ m_law_name) := by
  have sc := sc_law_name
  have z := fn_den2 (P := P) (w := w) (mg := mg) (base := base) (G := (Gz Y1 Y2 Y0 Y4 Y3)) (tc := [2, 1002, 3, 1003, 0, 4, 1004, 0, 3, 1003, 4, 1004, 3, 1003]) (den := d_law_name) (pr := [0]) (k := 1) T.F_law_name sc_law_name (by decide) fun cdv A outer s H E hr tk po hu => (gss_cons (gs_asg (i := 2) g_str sc.nd rfl (by first | exact .inl rfl | exact .inr rfl))
  (gss_cons (gs_asg (i := 3) g_str sc.nd rfl (by first | exact .inl rfl | exact .inr rfl))
  (gss_cons (gs_for (tg := (.one 4)) (fg := []) po rfl (gi_range1 (by rfl) T.b_range (g_add (go_v g_int) (go_v (g_call tk (ok_law_take T) (hr.mono (by decide)) (by rfl) T.g_law_take T.F_law_take.kp T.a_law_take (gr_io (pv 0) (gr_v g_int gr_nil)))))) (pg_name (i := 4) sc.nd rfl (by first | exact .inl rfl | exact .inr rfl)) (gss_one (gs_asg (i := 3) (g_add (go_v (g_cp (pv 3))) (go_v (g_ix (go_v (g_cp (pv 2))) (go_v (g_call tk (ok_law_take T) (hr.mono (by decide)) (by rfl) T.g_law_take T.F_law_take.kp T.a_law_take (gr_io (pv 0) (gr_v g_int gr_nil))))))) sc.nd rfl (by first | exact .inl rfl | exact .inr rfl))))
  (gss_cons (gs_for (tg := (.one 4)) (fg := []) po rfl (gi_range1 (by rfl) T.b_range (g_len (by rfl) T.b_len (go_p (pv 1)))) (pg_name (i := 4) sc.nd rfl (by first | exact .inl rfl | exact .inr rfl)) (gss_one (gs_if (gt_in hu (go_v (g_cp (pv 3))) (go_p (pv 1))) (gss_one (gs_asg (i := 3) (g_add (go_v (g_cp (pv 3))) (go_v g_str)) sc.nd rfl (by first | exact .inl rfl | exact .inr rfl))) gss_nil)))
  (gss_one (gs_ret (g_cp (pv 3))))))))
  rw [m_law_name_def]
  exact z
theorem sc_law_names : FnScope ["_law_box_here", "_law_size", "_law_names_here", "_law_k"] ["_law_box_here", "_law_size"] (defScope (topS 24)) := ⟨rfl, rfl, rfl, by decide +kernel, rfl, by decide +kernel, by decide +kernel⟩
theorem ok_law_names (T : Txt K mg f_law_box f_law_take f_law_name f_law_names f_law_drawn_pairs f_law_named f_check_name f_check_makes f_check_known f_check_pairs f_closed_rows f_rows_of f_Order___init__ f_law_closed f_law_ready f_Order_has f_Order_lowest_first f_law_are_names f_law Y1 Y2 Y0 Y4 Y3 fi_Full fi_InvalidName fi_DuplicateMake fi_UnknownMake fd_law_box fd_law_take fd_law_name fd_law_names fd_law_drawn_pairs fd_law_named fd_check_name fd_check_makes fd_check_known fd_check_pairs fd_closed_rows fd_rows_of fd_Order___init__ fd_law_closed fd_law_ready fd_Order_has fd_Order_lowest_first fd_law_are_names fd_law fdi_Full fdi_InvalidName fdi_DuplicateMake fdi_UnknownMake) : FnOk P w K mg base (L2N.CX P w) 3 f_law_names fd_law_names ["_law_box_here", "_law_size"] (spM ⟨K, cls [("Full", Y1), ("InvalidName", Y2), ("DuplicateMake", Y0), ("UnknownMake", Y4), ("Order", Y3)], P0, none, []⟩ m_law_names) := by
  have sc := sc_law_names
  have z := fn_den2 (P := P) (w := w) (mg := mg) (base := base) (G := (Gz Y1 Y2 Y0 Y4 Y3)) (tc := [2, 1002, 3, 1003, 0, 2, 2]) (den := d_law_names) (pr := [0]) (k := 2) T.F_law_names sc_law_names (by decide) fun cdv A outer s H E hr tk po hu => (gss_cons (gs_asg (i := 2) (g_lst ga_nil) sc.nd rfl (by first | exact .inl rfl | exact .inr rfl))
  (gss_cons (gs_for (tg := (.one 3)) (fg := []) po rfl (gi_range1 (by rfl) T.b_range (g_cp (pv 1))) (pg_name (i := 3) sc.nd rfl (by first | exact .inl rfl | exact .inr rfl)) (gss_one (gs_app (i := 2) (pv 2) (g_call tk (ok_law_name T) (hr.mono (by decide)) (by rfl) T.g_law_name T.F_law_name.kp T.a_law_name (gr_io (pv 0) (gr_l (pv 2) gr_nil))))))
  (gss_one (gs_ret (g_mv (pv 2))))))
  rw [m_law_names_def]
  exact z
theorem sc_law_drawn_pairs : FnScope ["_law_box_here", "_law_size", "_law_count", "_law_pairs", "_law_k", "_law_upper"] ["_law_box_here", "_law_size", "_law_count"] (defScope (topS 25)) := ⟨rfl, rfl, rfl, by decide +kernel, rfl, by decide +kernel, by decide +kernel⟩
theorem ok_law_drawn_pairs (T : Txt K mg f_law_box f_law_take f_law_name f_law_names f_law_drawn_pairs f_law_named f_check_name f_check_makes f_check_known f_check_pairs f_closed_rows f_rows_of f_Order___init__ f_law_closed f_law_ready f_Order_has f_Order_lowest_first f_law_are_names f_law Y1 Y2 Y0 Y4 Y3 fi_Full fi_InvalidName fi_DuplicateMake fi_UnknownMake fd_law_box fd_law_take fd_law_name fd_law_names fd_law_drawn_pairs fd_law_named fd_check_name fd_check_makes fd_check_known fd_check_pairs fd_closed_rows fd_rows_of fd_Order___init__ fd_law_closed fd_law_ready fd_Order_has fd_Order_lowest_first fd_law_are_names fd_law fdi_Full fdi_InvalidName fdi_DuplicateMake fdi_UnknownMake) : FnOk P w K mg base (L2N.CX P w) 2 f_law_drawn_pairs fd_law_drawn_pairs ["_law_box_here", "_law_size", "_law_count"] (spM ⟨K, cls [("Full", Y1), ("InvalidName", Y2), ("DuplicateMake", Y0), ("UnknownMake", Y4), ("Order", Y3)], P0, none, []⟩ m_law_drawn_pairs) := by
  have sc := sc_law_drawn_pairs
  have z := fn_den2 (P := P) (w := w) (mg := mg) (base := base) (G := (Gz Y1 Y2 Y0 Y4 Y3)) (tc := [3, 1003, 4, 1004, 0, 5, 1005, 3, 3]) (den := d_law_drawn_pairs) (pr := [0]) (k := 1) T.F_law_drawn_pairs sc_law_drawn_pairs (by decide) fun cdv A outer s H E hr tk po hu => (gss_cons (gs_asg (i := 3) (g_lst ga_nil) sc.nd rfl (by first | exact .inl rfl | exact .inr rfl))
  (gss_cons (gs_for (tg := (.one 4)) (fg := []) po rfl (gi_range1 (by rfl) T.b_range (g_mul (go_v (g_cp (pv 2))) (go_v (g_min rfl (by rfl) T.b_min (go_v (g_cp (pv 1))) (go_v g_int))))) (pg_name (i := 4) sc.nd rfl (by first | exact .inl rfl | exact .inr rfl)) (gss_wk (t2 := [0, 5, 1005, 3]) (gss_cons (gs_asg (i := 5) (g_call tk (ok_law_take T) (hr.mono (by decide)) (by rfl) T.g_law_take T.F_law_take.kp T.a_law_take (gr_io (pv 0) (gr_v (g_cp (pv 1)) gr_nil))) sc.nd rfl (by first | exact .inl rfl | exact .inr rfl))
  (gss_one (gs_app (i := 3) (pv 3) (g_tup (ga_cons (g_cp (pv 5)) (ga_cons (g_call tk (ok_law_take T) (hr.mono (by decide)) (by rfl) T.g_law_take T.F_law_take.kp T.a_law_take (gr_io (pv 0) (gr_v (g_cp (pv 1)) gr_nil))) ga_nil)))))) (by decide)))
  (gss_one (gs_ret (g_mv (pv 3))))))
  rw [m_law_drawn_pairs_def]
  exact z
theorem sc_law_named : FnScope ["_law_names_here", "_law_pairs", "_law_pair"] ["_law_names_here", "_law_pairs"] (defScope (topS 26)) := ⟨rfl, rfl, rfl, by decide +kernel, rfl, by decide +kernel, by decide +kernel⟩
theorem ok_law_named (T : Txt K mg f_law_box f_law_take f_law_name f_law_names f_law_drawn_pairs f_law_named f_check_name f_check_makes f_check_known f_check_pairs f_closed_rows f_rows_of f_Order___init__ f_law_closed f_law_ready f_Order_has f_Order_lowest_first f_law_are_names f_law Y1 Y2 Y0 Y4 Y3 fi_Full fi_InvalidName fi_DuplicateMake fi_UnknownMake fd_law_box fd_law_take fd_law_name fd_law_names fd_law_drawn_pairs fd_law_named fd_check_name fd_check_makes fd_check_known fd_check_pairs fd_closed_rows fd_rows_of fd_Order___init__ fd_law_closed fd_law_ready fd_Order_has fd_Order_lowest_first fd_law_are_names fd_law fdi_Full fdi_InvalidName fdi_DuplicateMake fdi_UnknownMake) : FnOk P w K mg base (L2N.CX P w) 1 f_law_named fd_law_named ["_law_names_here", "_law_pairs"] (spM ⟨K, cls [("Full", Y1), ("InvalidName", Y2), ("DuplicateMake", Y0), ("UnknownMake", Y4), ("Order", Y3)], P0, none, []⟩ m_law_named) := by
  have sc := sc_law_named
  have z := fn_den2 (P := P) (w := w) (mg := mg) (base := base) (G := (Gz Y1 Y2 Y0 Y4 Y3)) (tc := [1002]) (den := d_law_named) (pr := []) (k := 0) T.F_law_named sc_law_named (by decide) fun cdv A outer s H E hr tk po hu => (gss_one (gs_lend (i := 1) (gs_ret (g_lc (own := [("_law_pair", 2)]) (tg := (.one 2)) (to := [1002]) rfl sc.nd (gi_seq (g_cp (pv 1))) (blkOk_by (N := ["_law_names_here", "_law_pairs", "_law_pair"]) (sc := defScope (topS 26)) (by decide +kernel)) (fun _ _ _ _ _ => (pg_name (i := 2) sc.nd rfl (by first | exact .inl rfl | exact .inr rfl))) (fun _ _ _ _ _ => gts_nil) (fun _ _ _ _ _ => (g_tup (ga_cons (g_ix (go_p (pv 0)) (go_v (g_ix (go_v (g_cp (pv 2))) (go_v g_int)))) (ga_cons (g_ix (go_p (pv 0)) (go_v (g_ix (go_v (g_cp (pv 2))) (go_v g_int)))) ga_nil))))))))
  rw [m_law_named_def]
  exact z
theorem okx_Full (T : Txt K mg f_law_box f_law_take f_law_name f_law_names f_law_drawn_pairs f_law_named f_check_name f_check_makes f_check_known f_check_pairs f_closed_rows f_rows_of f_Order___init__ f_law_closed f_law_ready f_Order_has f_Order_lowest_first f_law_are_names f_law Y1 Y2 Y0 Y4 Y3 fi_Full fi_InvalidName fi_DuplicateMake fi_UnknownMake fd_law_box fd_law_take fd_law_name fd_law_names fd_law_drawn_pairs fd_law_named fd_check_name fd_check_makes fd_check_known fd_check_pairs fd_closed_rows fd_rows_of fd_Order___init__ fd_law_closed fd_law_ready fd_Order_has fd_Order_lowest_first fd_law_are_names fd_law fdi_Full fdi_InvalidName fdi_DuplicateMake fdi_UnknownMake) : FnOk P w K mg base CX0 1 fi_Full fdi_Full ["self", "most"] (spXP K ["most"]) :=
  fn_xinit T.F_Full ⟨rfl, rfl, rfl, by decide +kernel, rfl, by decide +kernel, by decide +kernel⟩ (by decide) (by decide) fun _ _ _ _ _ _ => (.cons (ps_ost (pv 0) (pv 1)) .nil)
theorem okx_InvalidName (T : Txt K mg f_law_box f_law_take f_law_name f_law_names f_law_drawn_pairs f_law_named f_check_name f_check_makes f_check_known f_check_pairs f_closed_rows f_rows_of f_Order___init__ f_law_closed f_law_ready f_Order_has f_Order_lowest_first f_law_are_names f_law Y1 Y2 Y0 Y4 Y3 fi_Full fi_InvalidName fi_DuplicateMake fi_UnknownMake fd_law_box fd_law_take fd_law_name fd_law_names fd_law_drawn_pairs fd_law_named fd_check_name fd_check_makes fd_check_known fd_check_pairs fd_closed_rows fd_rows_of fd_Order___init__ fd_law_closed fd_law_ready fd_Order_has fd_Order_lowest_first fd_law_are_names fd_law fdi_Full fdi_InvalidName fdi_DuplicateMake fdi_UnknownMake) : FnOk P w K mg base CX0 1 fi_InvalidName fdi_InvalidName ["self", "name"] (spXP K ["name"]) :=
  fn_xinit T.F_InvalidName ⟨rfl, rfl, rfl, by decide +kernel, rfl, by decide +kernel, by decide +kernel⟩ (by decide) (by decide) fun _ _ _ _ _ _ => (.cons (ps_ost (pv 0) (pv 1)) .nil)
theorem sc_check_name : FnScope ["name", "letter"] ["name"] (defScope (topS 12)) := ⟨rfl, rfl, rfl, by decide +kernel, rfl, by decide +kernel, by decide +kernel⟩
theorem ok_check_name (T : Txt K mg f_law_box f_law_take f_law_name f_law_names f_law_drawn_pairs f_law_named f_check_name f_check_makes f_check_known f_check_pairs f_closed_rows f_rows_of f_Order___init__ f_law_closed f_law_ready f_Order_has f_Order_lowest_first f_law_are_names f_law Y1 Y2 Y0 Y4 Y3 fi_Full fi_InvalidName fi_DuplicateMake fi_UnknownMake fd_law_box fd_law_take fd_law_name fd_law_names fd_law_drawn_pairs fd_law_named fd_check_name fd_check_makes fd_check_known fd_check_pairs fd_closed_rows fd_rows_of fd_Order___init__ fd_law_closed fd_law_ready fd_Order_has fd_Order_lowest_first fd_law_are_names fd_law fdi_Full fdi_InvalidName fdi_DuplicateMake fdi_UnknownMake) : FnOk P w K mg base (L2N.CX P w) 3 f_check_name fd_check_name ["name"] (spM ⟨K, cls [("Full", Y1), ("InvalidName", Y2), ("DuplicateMake", Y0), ("UnknownMake", Y4), ("Order", Y3)], P0, none, []⟩ m_check_name) := by
  have sc := sc_check_name
  have z := fn_den2 (P := P) (w := w) (mg := mg) (base := base) (G := (Gz Y1 Y2 Y0 Y4 Y3)) (tc := [1, 1001]) (den := d_check_name) (pr := []) (k := 2) T.F_check_name sc_check_name (by decide) fun cdv A outer s H E hr tk po hu => (gss_cons (gs_if (gt_not (gt_chain op_le op_le p2_le p2_le g_int (g_len (by rfl) T.b_len (go_v (g_cp (pv 0)))) (g_glI (by rfl) T.k_LONGEST_NAME))) (gss_one (gs_raise rfl tk T.c_InvalidName T.x_InvalidName T.nf_InvalidName T.i_InvalidName T.t_InvalidName (okx_InvalidName T) (hr.mono (by decide)) T.a_InvalidName (by rfl) T.g_InvalidName (ga_cons (g_cp (pv 0)) ga_nil))) gss_nil)
  (gss_one (gs_for (tg := (.one 1)) (fg := []) po rfl (gi_seq (g_cp (pv 0))) (pg_name (i := 1) sc.nd rfl (by first | exact .inl rfl | exact .inr rfl)) (gss_one (gs_if (gt_notIn hu (go_v (g_cp (pv 1))) (go_v (g_glS (by rfl) T.k_LETTERS))) (gss_one (gs_raise rfl tk T.c_InvalidName T.x_InvalidName T.nf_InvalidName T.i_InvalidName T.t_InvalidName (okx_InvalidName T) (hr.mono (by decide)) T.a_InvalidName (by rfl) T.g_InvalidName (ga_cons (g_cp (pv 0)) ga_nil))) gss_nil)))))
  rw [m_check_name_def]
  exact z
theorem okx_DuplicateMake (T : Txt K mg f_law_box f_law_take f_law_name f_law_names f_law_drawn_pairs f_law_named f_check_name f_check_makes f_check_known f_check_pairs f_closed_rows f_rows_of f_Order___init__ f_law_closed f_law_ready f_Order_has f_Order_lowest_first f_law_are_names f_law Y1 Y2 Y0 Y4 Y3 fi_Full fi_InvalidName fi_DuplicateMake fi_UnknownMake fd_law_box fd_law_take fd_law_name fd_law_names fd_law_drawn_pairs fd_law_named fd_check_name fd_check_makes fd_check_known fd_check_pairs fd_closed_rows fd_rows_of fd_Order___init__ fd_law_closed fd_law_ready fd_Order_has fd_Order_lowest_first fd_law_are_names fd_law fdi_Full fdi_InvalidName fdi_DuplicateMake fdi_UnknownMake) : FnOk P w K mg base CX0 1 fi_DuplicateMake fdi_DuplicateMake ["self", "name"] (spXP K ["name"]) :=
  fn_xinit T.F_DuplicateMake ⟨rfl, rfl, rfl, by decide +kernel, rfl, by decide +kernel, by decide +kernel⟩ (by decide) (by decide) fun _ _ _ _ _ _ => (.cons (ps_ost (pv 0) (pv 1)) .nil)
theorem sc_check_makes : FnScope ["makes", "seen", "name"] ["makes"] (defScope (topS 13)) := ⟨rfl, rfl, rfl, by decide +kernel, rfl, by decide +kernel, by decide +kernel⟩
theorem ok_check_makes (T : Txt K mg f_law_box f_law_take f_law_name f_law_names f_law_drawn_pairs f_law_named f_check_name f_check_makes f_check_known f_check_pairs f_closed_rows f_rows_of f_Order___init__ f_law_closed f_law_ready f_Order_has f_Order_lowest_first f_law_are_names f_law Y1 Y2 Y0 Y4 Y3 fi_Full fi_InvalidName fi_DuplicateMake fi_UnknownMake fd_law_box fd_law_take fd_law_name fd_law_names fd_law_drawn_pairs fd_law_named fd_check_name fd_check_makes fd_check_known fd_check_pairs fd_closed_rows fd_rows_of fd_Order___init__ fd_law_closed fd_law_ready fd_Order_has fd_Order_lowest_first fd_law_are_names fd_law fdi_Full fdi_InvalidName fdi_DuplicateMake fdi_UnknownMake) : FnOk P w K mg base (L2N.CX P w) 4 f_check_makes fd_check_makes ["makes"] (spM ⟨K, cls [("Full", Y1), ("InvalidName", Y2), ("DuplicateMake", Y0), ("UnknownMake", Y4), ("Order", Y3)], P0, none, []⟩ m_check_makes) := by
  have sc := sc_check_makes
  have z := fn_den2 (P := P) (w := w) (mg := mg) (base := base) (G := (Gz Y1 Y2 Y0 Y4 Y3)) (tc := [1, 1001, 2, 1002, 1]) (den := d_check_makes) (pr := []) (k := 3) T.F_check_makes sc_check_makes (by decide) fun cdv A outer s H E hr tk po hu => (gss_cons (gs_if (gt_gt (go_v (g_len (by rfl) T.b_len (go_p (pv 0)))) (go_v (g_glI (by rfl) T.k_MOST_MAKES))) (gss_one (gs_raise rfl tk T.c_Full T.x_Full T.nf_Full T.i_Full T.t_Full (okx_Full T) (hr.mono (by decide)) T.a_Full (by rfl) T.g_Full (ga_cons (g_glI (by rfl) T.k_MOST_MAKES) ga_nil))) gss_nil)
  (gss_cons (gs_asg (i := 1) (g_lst ga_nil) sc.nd rfl (by first | exact .inl rfl | exact .inr rfl))
  (gss_one (gs_lend (i := 0) (gs_for (tg := (.one 2)) (fg := []) po rfl (gi_seq (g_cp (pv 0))) (pg_name (i := 2) sc.nd rfl (by first | exact .inl rfl | exact .inr rfl)) (gss_cons (gs_expr (g_call tk (ok_check_name T) (hr.mono (by decide)) (by rfl) T.g_check_name T.F_check_name.kp T.a_check_name (gr_v (g_cp (pv 2)) gr_nil)))
  (gss_cons (gs_if (gt_in hu (go_v (g_cp (pv 2))) (go_p (pv 1))) (gss_one (gs_raise rfl tk T.c_DuplicateMake T.x_DuplicateMake T.nf_DuplicateMake T.i_DuplicateMake T.t_DuplicateMake (okx_DuplicateMake T) (hr.mono (by decide)) T.a_DuplicateMake (by rfl) T.g_DuplicateMake (ga_cons (g_cp (pv 2)) ga_nil))) gss_nil)
  (gss_one (gs_app (i := 1) (pv 1) (g_cp (pv 2)))))))))))
  rw [m_check_makes_def]
  exact z
theorem okx_UnknownMake (T : Txt K mg f_law_box f_law_take f_law_name f_law_names f_law_drawn_pairs f_law_named f_check_name f_check_makes f_check_known f_check_pairs f_closed_rows f_rows_of f_Order___init__ f_law_closed f_law_ready f_Order_has f_Order_lowest_first f_law_are_names f_law Y1 Y2 Y0 Y4 Y3 fi_Full fi_InvalidName fi_DuplicateMake fi_UnknownMake fd_law_box fd_law_take fd_law_name fd_law_names fd_law_drawn_pairs fd_law_named fd_check_name fd_check_makes fd_check_known fd_check_pairs fd_closed_rows fd_rows_of fd_Order___init__ fd_law_closed fd_law_ready fd_Order_has fd_Order_lowest_first fd_law_are_names fd_law fdi_Full fdi_InvalidName fdi_DuplicateMake fdi_UnknownMake) : FnOk P w K mg base CX0 1 fi_UnknownMake fdi_UnknownMake ["self", "name"] (spXP K ["name"]) :=
  fn_xinit T.F_UnknownMake ⟨rfl, rfl, rfl, by decide +kernel, rfl, by decide +kernel, by decide +kernel⟩ (by decide) (by decide) fun _ _ _ _ _ _ => (.cons (ps_ost (pv 0) (pv 1)) .nil)
theorem sc_check_known : FnScope ["makes", "names", "name"] ["makes", "names"] (defScope (topS 14)) := ⟨rfl, rfl, rfl, by decide +kernel, rfl, by decide +kernel, by decide +kernel⟩
theorem ok_check_known (T : Txt K mg f_law_box f_law_take f_law_name f_law_names f_law_drawn_pairs f_law_named f_check_name f_check_makes f_check_known f_check_pairs f_closed_rows f_rows_of f_Order___init__ f_law_closed f_law_ready f_Order_has f_Order_lowest_first f_law_are_names f_law Y1 Y2 Y0 Y4 Y3 fi_Full fi_InvalidName fi_DuplicateMake fi_UnknownMake fd_law_box fd_law_take fd_law_name fd_law_names fd_law_drawn_pairs fd_law_named fd_check_name fd_check_makes fd_check_known fd_check_pairs fd_closed_rows fd_rows_of fd_Order___init__ fd_law_closed fd_law_ready fd_Order_has fd_Order_lowest_first fd_law_are_names fd_law fdi_Full fdi_InvalidName fdi_DuplicateMake fdi_UnknownMake) : FnOk P w K mg base (L2N.CX P w) 3 f_check_known fd_check_known ["makes", "names"] (spM ⟨K, cls [("Full", Y1), ("InvalidName", Y2), ("DuplicateMake", Y0), ("UnknownMake", Y4), ("Order", Y3)], P0, none, []⟩ m_check_known) := by
  have sc := sc_check_known
  have z := fn_den2 (P := P) (w := w) (mg := mg) (base := base) (G := (Gz Y1 Y2 Y0 Y4 Y3)) (tc := [2, 1002]) (den := d_check_known) (pr := []) (k := 2) T.F_check_known sc_check_known (by decide) fun cdv A outer s H E hr tk po hu => (gss_one (gs_for (tg := (.one 2)) (fg := []) po rfl (gi_seq (g_cp (pv 1))) (pg_name (i := 2) sc.nd rfl (by first | exact .inl rfl | exact .inr rfl)) (gss_one (gs_if (gt_notIn hu (go_v (g_cp (pv 2))) (go_p (pv 0))) (gss_one (gs_raise rfl tk T.c_UnknownMake T.x_UnknownMake T.nf_UnknownMake T.i_UnknownMake T.t_UnknownMake (okx_UnknownMake T) (hr.mono (by decide)) T.a_UnknownMake (by rfl) T.g_UnknownMake (ga_cons (g_cp (pv 2)) ga_nil))) gss_nil))))
  rw [m_check_known_def]
  exact z
theorem sc_check_pairs : FnScope ["makes", "pairs", "upper", "lower"] ["makes", "pairs"] (defScope (topS 15)) := ⟨rfl, rfl, rfl, by decide +kernel, rfl, by decide +kernel, by decide +kernel⟩
theorem ok_check_pairs (T : Txt K mg f_law_box f_law_take f_law_name f_law_names f_law_drawn_pairs f_law_named f_check_name f_check_makes f_check_known f_check_pairs f_closed_rows f_rows_of f_Order___init__ f_law_closed f_law_ready f_Order_has f_Order_lowest_first f_law_are_names f_law Y1 Y2 Y0 Y4 Y3 fi_Full fi_InvalidName fi_DuplicateMake fi_UnknownMake fd_law_box fd_law_take fd_law_name fd_law_names fd_law_drawn_pairs fd_law_named fd_check_name fd_check_makes fd_check_known fd_check_pairs fd_closed_rows fd_rows_of fd_Order___init__ fd_law_closed fd_law_ready fd_Order_has fd_Order_lowest_first fd_law_are_names fd_law fdi_Full fdi_InvalidName fdi_DuplicateMake fdi_UnknownMake) : FnOk P w K mg base (L2N.CX P w) 4 f_check_pairs fd_check_pairs ["makes", "pairs"] (spM ⟨K, cls [("Full", Y1), ("InvalidName", Y2), ("DuplicateMake", Y0), ("UnknownMake", Y4), ("Order", Y3)], P0, none, []⟩ m_check_pairs) := by
  have sc := sc_check_pairs
  have z := fn_den2 (P := P) (w := w) (mg := mg) (base := base) (G := (Gz Y1 Y2 Y0 Y4 Y3)) (tc := [2, 1002, 3, 1003]) (den := d_check_pairs) (pr := []) (k := 3) T.F_check_pairs sc_check_pairs (by decide) fun cdv A outer s H E hr tk po hu => (gss_one (gs_lend (i := 1) (gs_for (tg := (.tup [2, 3])) (fg := []) po rfl (gi_seq (g_cp (pv 1))) (pg_tup rfl (pgs_cons (pg_name (i := 2) sc.nd rfl (by first | exact .inl rfl | exact .inr rfl)) (pgs_cons (pg_name (i := 3) sc.nd rfl (by first | exact .inl rfl | exact .inr rfl)) pgs_nil))) (gss_one (gs_expr (g_call tk (ok_check_known T) (hr.mono (by decide)) (by rfl) T.g_check_known T.F_check_known.kp T.a_check_known (gr_l (pv 0) (gr_v (g_tup (ga_cons (g_cp (pv 2)) (ga_cons (g_cp (pv 3)) ga_nil))) gr_nil))))))))
  rw [m_check_pairs_def]
  exact z
theorem sc_closed_rows : FnScope ["rows", "closed", "middle", "through", "upper"] ["rows"] (defScope (topS 17)) := ⟨rfl, rfl, rfl, by decide +kernel, rfl, by decide +kernel, by decide +kernel⟩
theorem ok_closed_rows (T : Txt K mg f_law_box f_law_take f_law_name f_law_names f_law_drawn_pairs f_law_named f_check_name f_check_makes f_check_known f_check_pairs f_closed_rows f_rows_of f_Order___init__ f_law_closed f_law_ready f_Order_has f_Order_lowest_first f_law_are_names f_law Y1 Y2 Y0 Y4 Y3 fi_Full fi_InvalidName fi_DuplicateMake fi_UnknownMake fd_law_box fd_law_take fd_law_name fd_law_names fd_law_drawn_pairs fd_law_named fd_check_name fd_check_makes fd_check_known fd_check_pairs fd_closed_rows fd_rows_of fd_Order___init__ fd_law_closed fd_law_ready fd_Order_has fd_Order_lowest_first fd_law_are_names fd_law fdi_Full fdi_InvalidName fdi_DuplicateMake fdi_UnknownMake) : FnOk P w K mg base (L2N.CX P w) 1 f_closed_rows fd_closed_rows ["rows"] (spM ⟨K, cls [("Full", Y1), ("InvalidName", Y2), ("DuplicateMake", Y0), ("UnknownMake", Y4), ("Order", Y3)], P0, none, []⟩ m_closed_rows) := by
  have sc := sc_closed_rows
  have z := fn_den2 (P := P) (w := w) (mg := mg) (base := base) (G := (Gz Y1 Y2 Y0 Y4 Y3)) (tc := [1, 1001, 2, 1002, 3, 1003, 4, 1004, 1, 1]) (den := d_closed_rows) (pr := []) (k := 0) T.F_closed_rows sc_closed_rows (by decide) fun cdv A outer s H E hr tk po hu => (gss_cons (gs_asg (i := 1) (g_list (by rfl) T.b_list (go_p (pv 0))) sc.nd rfl (by first | exact .inl rfl | exact .inr rfl))
  (gss_cons (gs_for (tg := (.one 2)) (fg := []) po rfl (gi_range1 (by rfl) T.b_range (g_len (by rfl) T.b_len (go_p (pv 1)))) (pg_name (i := 2) sc.nd rfl (by first | exact .inl rfl | exact .inr rfl)) (gss_cons (gs_asg (i := 3) (g_ix (go_p (pv 1)) (go_v (g_cp (pv 2)))) sc.nd rfl (by first | exact .inl rfl | exact .inr rfl))
  (gss_one (gs_for (tg := (.one 4)) (fg := []) po rfl (gi_range1 (by rfl) T.b_range (g_len (by rfl) T.b_len (go_p (pv 1)))) (pg_name (i := 4) sc.nd rfl (by first | exact .inl rfl | exact .inr rfl)) (gss_one (gs_if (gt_eq hu (go_v (g_band (go_v (g_shr (go_v (g_ix (go_p (pv 1)) (go_v (g_cp (pv 4))))) (go_v (g_cp (pv 2))))) (go_v g_int))) (go_v g_int)) (gss_one (gs_set (i := 1) (pv 1) (g_cp (pv 4)) (g_bor (go_v (g_ix (go_p (pv 1)) (go_v (g_cp (pv 4))))) (go_v (g_cp (pv 3)))))) gss_nil))))))
  (gss_one (gs_ret (g_mv (pv 1))))))
  rw [m_closed_rows_def]
  exact z
theorem sc_rows_of : FnScope ["names", "pairs", "at", "name", "place", "rows", "upper", "lower"] ["names", "pairs"] (defScope (topS 18)) := ⟨rfl, rfl, rfl, by decide +kernel, rfl, by decide +kernel, by decide +kernel⟩
theorem ok_rows_of (T : Txt K mg f_law_box f_law_take f_law_name f_law_names f_law_drawn_pairs f_law_named f_check_name f_check_makes f_check_known f_check_pairs f_closed_rows f_rows_of f_Order___init__ f_law_closed f_law_ready f_Order_has f_Order_lowest_first f_law_are_names f_law Y1 Y2 Y0 Y4 Y3 fi_Full fi_InvalidName fi_DuplicateMake fi_UnknownMake fd_law_box fd_law_take fd_law_name fd_law_names fd_law_drawn_pairs fd_law_named fd_check_name fd_check_makes fd_check_known fd_check_pairs fd_closed_rows fd_rows_of fd_Order___init__ fd_law_closed fd_law_ready fd_Order_has fd_Order_lowest_first fd_law_are_names fd_law fdi_Full fdi_InvalidName fdi_DuplicateMake fdi_UnknownMake) : FnOk P w K mg base (L2N.CX P w) 2 f_rows_of fd_rows_of ["names", "pairs"] (spM ⟨K, cls [("Full", Y1), ("InvalidName", Y2), ("DuplicateMake", Y0), ("UnknownMake", Y4), ("Order", Y3)], P0, none, []⟩ m_rows_of) := by
  have sc := sc_rows_of
  have z := fn_den2 (P := P) (w := w) (mg := mg) (base := base) (G := (Gz Y1 Y2 Y0 Y4 Y3)) (tc := [1002, 1003, 4, 1004, 1002, 5, 1005, 6, 1006, 7, 1007, 2, 1002, 5]) (den := d_rows_of) (pr := []) (k := 1) T.F_rows_of sc_rows_of (by decide) fun cdv A outer s H E hr tk po hu => (gss_cons (gs_tc (tc := [1002, 1003, 4, 1004]) (by first | exact (gs_setDc (i := 4) (own := [("at", 2), ("name", 3)]) (tg := (.tup [2, 3])) (to := [1002, 1003]) rfl sc.nd rfl rfl (swD_true rfl rfl rfl (by decide +kernel)) (gi_enumT (by rfl) T.b_enumerate (g_cp (pv 0))) (blkOk_by (N := ["names", "pairs", "at", "name", "place", "rows", "upper", "lower"]) (sc := defScope (topS 18)) (by decide +kernel)) (fun _ _ _ _ _ => (pg_tup rfl (pgs_cons (pg_name (i := 2) sc.nd rfl (by first | exact .inl rfl | exact .inr rfl)) (pgs_cons (pg_name (i := 3) sc.nd rfl (by first | exact .inl rfl | exact .inr rfl)) pgs_nil)))) (fun _ _ _ _ _ => gts_nil) (fun _ _ _ _ _ => (g_cp (pv 3))) (fun _ _ _ _ _ => (g_cp (pv 2)))) | exact (gs_asg (i := 4) (g_dc (own := [("at", 2), ("name", 3)]) (tg := (.tup [2, 3])) (to := [1002, 1003]) rfl sc.nd (gi_enumT (by rfl) T.b_enumerate (g_cp (pv 0))) (blkOk_by (N := ["names", "pairs", "at", "name", "place", "rows", "upper", "lower"]) (sc := defScope (topS 18)) (by decide +kernel)) (fun _ _ _ _ _ => (pg_tup rfl (pgs_cons (pg_name (i := 2) sc.nd rfl (by first | exact .inl rfl | exact .inr rfl)) (pgs_cons (pg_name (i := 3) sc.nd rfl (by first | exact .inl rfl | exact .inr rfl)) pgs_nil)))) (fun _ _ _ _ _ => gts_nil) (fun _ _ _ _ _ => (g_cp (pv 3))) (fun _ _ _ _ _ => (g_cp (pv 2)))) sc.nd rfl (by first | exact .inl rfl | exact .inr rfl))))
  (gss_cons (gs_tc (tc := [1002, 5, 1005]) (by first | exact (gs_setLc (i := 5) (own := [("at", 2)]) (tg := (.one 2)) (to := [1002]) rfl sc.nd rfl rfl (sw_true rfl rfl rfl (by decide +kernel)) (gi_range1 (by rfl) T.b_range (g_len (by rfl) T.b_len (go_v (g_cp (pv 0))))) (blkOk_by (N := ["names", "pairs", "at", "name", "place", "rows", "upper", "lower"]) (sc := defScope (topS 18)) (by decide +kernel)) (fun _ _ _ _ _ => (pg_name (i := 2) sc.nd rfl (by first | exact .inl rfl | exact .inr rfl))) (fun _ _ _ _ _ => gts_nil) (fun _ _ _ _ _ => (g_shl (go_v g_int) (go_v (g_cp (pv 2)))))) | exact (gs_asg (i := 5) (g_lc (own := [("at", 2)]) (tg := (.one 2)) (to := [1002]) rfl sc.nd (gi_range1 (by rfl) T.b_range (g_len (by rfl) T.b_len (go_v (g_cp (pv 0))))) (blkOk_by (N := ["names", "pairs", "at", "name", "place", "rows", "upper", "lower"]) (sc := defScope (topS 18)) (by decide +kernel)) (fun _ _ _ _ _ => (pg_name (i := 2) sc.nd rfl (by first | exact .inl rfl | exact .inr rfl))) (fun _ _ _ _ _ => gts_nil) (fun _ _ _ _ _ => (g_shl (go_v g_int) (go_v (g_cp (pv 2)))))) sc.nd rfl (by first | exact .inl rfl | exact .inr rfl))))
  (gss_cons (gs_lend (i := 1) (gs_for (tg := (.tup [6, 7])) (fg := []) po rfl (gi_seq (g_cp (pv 1))) (pg_tup rfl (pgs_cons (pg_name (i := 6) sc.nd rfl (by first | exact .inl rfl | exact .inr rfl)) (pgs_cons (pg_name (i := 7) sc.nd rfl (by first | exact .inl rfl | exact .inr rfl)) pgs_nil))) (gss_cons (gs_asg (i := 2) (g_dix hu (go_p (pv 4)) (go_v (g_cp (pv 6)))) sc.nd rfl (by first | exact .inl rfl | exact .inr rfl))
  (gss_one (gs_set (i := 5) (pv 5) (g_cp (pv 2)) (g_bor (go_v (g_ix (go_p (pv 5)) (go_v (g_cp (pv 2))))) (go_v (g_shl (go_v g_int) (go_v (g_dix hu (go_p (pv 4)) (go_v (g_cp (pv 7)))))))))))))
  (gss_one (gs_ret (g_tuple (by rfl) T.b_tuple (go_v (g_call tk (ok_closed_rows T) (hr.mono (by decide)) (by rfl) T.g_closed_rows T.F_closed_rows.kp T.a_closed_rows (gr_l (pv 5) gr_nil)))))))))
  rw [m_rows_of_def]
  exact z
theorem sc_Order___init__ : FnScope ["self", "makes", "pairs"] ["self", "makes", "pairs"] (defScope (cls_st 19 1)) := ⟨rfl, rfl, rfl, by decide +kernel, rfl, by decide +kernel, by decide +kernel⟩
theorem ok_Order___init__ (T : Txt K mg f_law_box f_law_take f_law_name f_law_names f_law_drawn_pairs f_law_named f_check_name f_check_makes f_check_known f_check_pairs f_closed_rows f_rows_of f_Order___init__ f_law_closed f_law_ready f_Order_has f_Order_lowest_first f_law_are_names f_law Y1 Y2 Y0 Y4 Y3 fi_Full fi_InvalidName fi_DuplicateMake fi_UnknownMake fd_law_box fd_law_take fd_law_name fd_law_names fd_law_drawn_pairs fd_law_named fd_check_name fd_check_makes fd_check_known fd_check_pairs fd_closed_rows fd_rows_of fd_Order___init__ fd_law_closed fd_law_ready fd_Order_has fd_Order_lowest_first fd_law_are_names fd_law fdi_Full fdi_InvalidName fdi_DuplicateMake fdi_UnknownMake) : FnOk P w K mg base (L2N.CX P w) 5 f_Order___init__ fd_Order___init__ ["self", "makes", "pairs"] (spM ⟨K, cls [("Full", Y1), ("InvalidName", Y2), ("DuplicateMake", Y0), ("UnknownMake", Y4), ("Order", Y3)], P0, none, []⟩ m_Order___init__) := by
  have sc := sc_Order___init__
  obtain ⟨dvs, FD⟩ := T.F_Order___init__
  have z := fn_den2D (P := P) (w := w) (mg := mg) (base := base) (G := (Gz Y1 Y2 Y0 Y4 Y3)) (tc := [0, 0]) (den := d_Order___init__) (pr := [0]) (k := 4) FD sc_Order___init__ (by decide) fun cdv A outer s H E hr tk po hu => (gss_cons (gs_expr (g_call tk (ok_check_makes T) (hr.mono (by decide)) (by rfl) T.g_check_makes T.F_check_makes.kp T.a_check_makes (gr_l (pv 1) gr_nil)))
  (gss_cons (gs_expr (g_call tk (ok_check_pairs T) (hr.mono (by decide)) (by rfl) T.g_check_pairs T.F_check_pairs.kp T.a_check_pairs (gr_l (pv 1) (gr_l (pv 2) gr_nil))))
  (gss_cons (gs_setF (i := 0) (c := "Order") T.fl_Order_names (pv 0) (g_tuple (by rfl) T.b_tuple (go_p (pv 1))))
  (gss_one (gs_setF (i := 0) (c := "Order") T.fl_Order_rows (pv 0) (g_call tk (ok_rows_of T) (hr.mono (by decide)) (by rfl) T.g_rows_of T.F_rows_of.kp T.a_rows_of (gr_v (g_fld (c := "Order") T.fl_Order_names (go_p (pv 0))) (gr_l (pv 2) gr_nil))))))))
  rw [m_Order___init___def]
  exact z
theorem sc_law_closed : FnScope ["_law_size", "_law_pairs", "_law_reach", "_law_a", "_law_b", "_law_pair", "_law_m"] ["_law_size", "_law_pairs"] (defScope (topS 27)) := ⟨rfl, rfl, rfl, by decide +kernel, rfl, by decide +kernel, by decide +kernel⟩
theorem ok_law_closed (T : Txt K mg f_law_box f_law_take f_law_name f_law_names f_law_drawn_pairs f_law_named f_check_name f_check_makes f_check_known f_check_pairs f_closed_rows f_rows_of f_Order___init__ f_law_closed f_law_ready f_Order_has f_Order_lowest_first f_law_are_names f_law Y1 Y2 Y0 Y4 Y3 fi_Full fi_InvalidName fi_DuplicateMake fi_UnknownMake fd_law_box fd_law_take fd_law_name fd_law_names fd_law_drawn_pairs fd_law_named fd_check_name fd_check_makes fd_check_known fd_check_pairs fd_closed_rows fd_rows_of fd_Order___init__ fd_law_closed fd_law_ready fd_Order_has fd_Order_lowest_first fd_law_are_names fd_law fdi_Full fdi_InvalidName fdi_DuplicateMake fdi_UnknownMake) : FnOk P w K mg base (L2N.CX P w) 1 f_law_closed fd_law_closed ["_law_size", "_law_pairs"] (spM ⟨K, cls [("Full", Y1), ("InvalidName", Y2), ("DuplicateMake", Y0), ("UnknownMake", Y4), ("Order", Y3)], P0, none, []⟩ m_law_closed) := by
  have sc := sc_law_closed
  have z := fn_den2 (P := P) (w := w) (mg := mg) (base := base) (G := (Gz Y1 Y2 Y0 Y4 Y3)) (tc := [2, 1002, 3, 1003, 1004, 2, 5, 1005, 2, 6, 1006, 3, 1003, 4, 1004, 2, 2]) (den := d_law_closed) (pr := []) (k := 0) T.F_law_closed sc_law_closed (by decide) fun cdv A outer s H E hr tk po hu => (gss_cons (gs_asg (i := 2) (g_lst ga_nil) sc.nd rfl (by first | exact .inl rfl | exact .inr rfl))
  (gss_cons (gs_for (tg := (.one 3)) (fg := []) po rfl (gi_range1 (by rfl) T.b_range (g_cp (pv 0))) (pg_name (i := 3) sc.nd rfl (by first | exact .inl rfl | exact .inr rfl)) (gss_one (gs_app (i := 2) (pv 2) (g_lc (own := [("_law_b", 4)]) (tg := (.one 4)) (to := [1004]) rfl sc.nd (gi_range1 (by rfl) T.b_range (g_cp (pv 0))) (blkOk_by (N := ["_law_size", "_law_pairs", "_law_reach", "_law_a", "_law_b", "_law_pair", "_law_m"]) (sc := defScope (topS 27)) (by decide +kernel)) (fun _ _ _ _ _ => (pg_name (i := 4) sc.nd rfl (by first | exact .inl rfl | exact .inr rfl))) (fun _ _ _ _ _ => gts_nil) (fun _ _ _ _ _ => (g_eq hu (go_v (g_cp (pv 3))) (go_v (g_cp (pv 4)))))))))
  (gss_cons (gs_lend (i := 1) (gs_for (tg := (.one 5)) (fg := []) po rfl (gi_seq (g_cp (pv 1))) (pg_name (i := 5) sc.nd rfl (by first | exact .inl rfl | exact .inr rfl)) (gss_one (gs_set2 (i := 2) (pv 2) (g_ix (go_v (g_cp (pv 5))) (go_v g_int)) (g_ix (go_v (g_cp (pv 5))) (go_v g_int)) g_bl))))
  (gss_cons (gs_for (tg := (.one 6)) (fg := []) po rfl (gi_range1 (by rfl) T.b_range (g_cp (pv 0))) (pg_name (i := 6) sc.nd rfl (by first | exact .inl rfl | exact .inr rfl)) (gss_one (gs_for (tg := (.one 3)) (fg := []) po rfl (gi_range1 (by rfl) T.b_range (g_cp (pv 0))) (pg_name (i := 3) sc.nd rfl (by first | exact .inl rfl | exact .inr rfl)) (gss_one (gs_if (gt_lend (i := 2) (gt_tru (go_v (g_ix (go_v (g_ix (go_p (pv 2)) (go_v (g_cp (pv 3))))) (go_v (g_cp (pv 6))))))) (gss_one (gs_for (tg := (.one 4)) (fg := []) po rfl (gi_range1 (by rfl) T.b_range (g_cp (pv 0))) (pg_name (i := 4) sc.nd rfl (by first | exact .inl rfl | exact .inr rfl)) (gss_one (gs_if (gt_lend (i := 2) (gt_tru (go_v (g_ix (go_v (g_ix (go_p (pv 2)) (go_v (g_cp (pv 6))))) (go_v (g_cp (pv 4))))))) (gss_one (gs_set2 (i := 2) (pv 2) (g_cp (pv 3)) (g_cp (pv 4)) g_bl)) gss_nil)))) gss_nil)))))
  (gss_one (gs_ret (g_mv (pv 2))))))))
  rw [m_law_closed_def]
  exact z
theorem sc_law_ready : FnScope ["_law_reach", "_law_left", "_law_a", "_law_b"] ["_law_reach", "_law_left", "_law_a"] (defScope (topS 29)) := ⟨rfl, rfl, rfl, by decide +kernel, rfl, by decide +kernel, by decide +kernel⟩
theorem ok_law_ready (T : Txt K mg f_law_box f_law_take f_law_name f_law_names f_law_drawn_pairs f_law_named f_check_name f_check_makes f_check_known f_check_pairs f_closed_rows f_rows_of f_Order___init__ f_law_closed f_law_ready f_Order_has f_Order_lowest_first f_law_are_names f_law Y1 Y2 Y0 Y4 Y3 fi_Full fi_InvalidName fi_DuplicateMake fi_UnknownMake fd_law_box fd_law_take fd_law_name fd_law_names fd_law_drawn_pairs fd_law_named fd_check_name fd_check_makes fd_check_known fd_check_pairs fd_closed_rows fd_rows_of fd_Order___init__ fd_law_closed fd_law_ready fd_Order_has fd_Order_lowest_first fd_law_are_names fd_law fdi_Full fdi_InvalidName fdi_DuplicateMake fdi_UnknownMake) : FnOk P w K mg base (L2N.CX P w) 1 f_law_ready fd_law_ready ["_law_reach", "_law_left", "_law_a"] (spM ⟨K, cls [("Full", Y1), ("InvalidName", Y2), ("DuplicateMake", Y0), ("UnknownMake", Y4), ("Order", Y3)], P0, none, []⟩ m_law_ready) := by
  have sc := sc_law_ready
  have z := fn_den2 (P := P) (w := w) (mg := mg) (base := base) (G := (Gz Y1 Y2 Y0 Y4 Y3)) (tc := [3, 1003]) (den := d_law_ready) (pr := []) (k := 0) T.F_law_ready sc_law_ready (by decide) fun cdv A outer s H E hr tk po hu => (gss_cons (gs_lend (i := 1) (gs_for (tg := (.one 3)) (fg := []) po rfl (gi_seq (g_cp (pv 1))) (pg_name (i := 3) sc.nd rfl (by first | exact .inl rfl | exact .inr rfl)) (gss_one (gs_if (gt_lend (i := 0) (gt_w (gw_and (gt_tru (go_v (g_ix (go_v (g_ix (go_p (pv 0)) (go_v (g_cp (pv 2))))) (go_v (g_cp (pv 3)))))) (gw_one .And (gt_not (gt_tru (go_v (g_ix (go_v (g_ix (go_p (pv 0)) (go_v (g_cp (pv 3))))) (go_v (g_cp (pv 2))))))))))) (gss_one (gs_ret g_bl)) gss_nil))))
  (gss_one (gs_ret g_bl)))
  rw [m_law_ready_def]
  exact z
theorem sc_Order_has : FnScope ["self", "upper", "lower", "at"] ["self", "upper", "lower"] (defScope (cls_st 19 5)) := ⟨rfl, rfl, rfl, by decide +kernel, rfl, by decide +kernel, by decide +kernel⟩
theorem ok_Order_has (T : Txt K mg f_law_box f_law_take f_law_name f_law_names f_law_drawn_pairs f_law_named f_check_name f_check_makes f_check_known f_check_pairs f_closed_rows f_rows_of f_Order___init__ f_law_closed f_law_ready f_Order_has f_Order_lowest_first f_law_are_names f_law Y1 Y2 Y0 Y4 Y3 fi_Full fi_InvalidName fi_DuplicateMake fi_UnknownMake fd_law_box fd_law_take fd_law_name fd_law_names fd_law_drawn_pairs fd_law_named fd_check_name fd_check_makes fd_check_known fd_check_pairs fd_closed_rows fd_rows_of fd_Order___init__ fd_law_closed fd_law_ready fd_Order_has fd_Order_lowest_first fd_law_are_names fd_law fdi_Full fdi_InvalidName fdi_DuplicateMake fdi_UnknownMake) : FnOk P w K mg base (L2N.CX P w) 1 f_Order_has fd_Order_has ["self", "upper", "lower"] (spM ⟨K, cls [("Full", Y1), ("InvalidName", Y2), ("DuplicateMake", Y0), ("UnknownMake", Y4), ("Order", Y3)], P0, none, []⟩ m_Order_has) := by
  have sc := sc_Order_has
  have z := fn_den2 (P := P) (w := w) (mg := mg) (base := base) (G := (Gz Y1 Y2 Y0 Y4 Y3)) (tc := [3, 1003]) (den := d_Order_has) (pr := []) (k := 0) T.F_Order_has sc_Order_has (by decide) fun cdv A outer s H E hr tk po hu => (gss_cons (gs_asg (i := 3) (g_tix (g_fld (c := "Order") T.fl_Order_names (go_p (pv 0))) (g_cp (pv 1))) sc.nd rfl (by first | exact .inl rfl | exact .inr rfl))
  (gss_one (gs_ret (g_eq hu (go_v (g_band (go_v (g_shr (go_v (g_ix (go_v (g_fld (c := "Order") T.fl_Order_rows (go_p (pv 0)))) (go_v (g_cp (pv 3))))) (go_v (g_tix (g_fld (c := "Order") T.fl_Order_names (go_p (pv 0))) (g_cp (pv 2)))))) (go_v g_int))) (go_v g_int)))))
  rw [m_Order_has_def]
  exact z
theorem sc_Order_lowest_first : GSc ["self", "waiting", "lowest", "name", "other"] ["self"] (defScope (cls_st 19 15)) := ⟨rfl, rfl, rfl, by decide +kernel, rfl, by decide +kernel, by decide +kernel⟩
theorem gd_Order_lowest_first (T : Txt K mg f_law_box f_law_take f_law_name f_law_names f_law_drawn_pairs f_law_named f_check_name f_check_makes f_check_known f_check_pairs f_closed_rows f_rows_of f_Order___init__ f_law_closed f_law_ready f_Order_has f_Order_lowest_first f_law_are_names f_law Y1 Y2 Y0 Y4 Y3 fi_Full fi_InvalidName fi_DuplicateMake fi_UnknownMake fd_law_box fd_law_take fd_law_name fd_law_names fd_law_drawn_pairs fd_law_named fd_check_name fd_check_makes fd_check_known fd_check_pairs fd_closed_rows fd_rows_of fd_Order___init__ fd_law_closed fd_law_ready fd_Order_has fd_Order_lowest_first fd_law_are_names fd_law fdi_Full fdi_InvalidName fdi_DuplicateMake fdi_UnknownMake) : ∃ cdv, GDef P w K mg base ["self", "waiting", "lowest", "name", "other"] ["self"] "Order.lowest_first" (defScope (cls_st 19 15)) (defBody (cls_st 19 15)) f_Order_lowest_first fd_Order_lowest_first cdv := gdef_of T.F_Order_lowest_first sc_Order_lowest_first
theorem rd_Order_lowest_first (T : Txt K mg f_law_box f_law_take f_law_name f_law_names f_law_drawn_pairs f_law_named f_check_name f_check_makes f_check_known f_check_pairs f_closed_rows f_rows_of f_Order___init__ f_law_closed f_law_ready f_Order_has f_Order_lowest_first f_law_are_names f_law Y1 Y2 Y0 Y4 Y3 fi_Full fi_InvalidName fi_DuplicateMake fi_UnknownMake fd_law_box fd_law_take fd_law_name fd_law_names fd_law_drawn_pairs fd_law_named fd_check_name fd_check_makes fd_check_known fd_check_pairs fd_closed_rows fd_rows_of fd_Order___init__ fd_law_closed fd_law_ready fd_Order_has fd_Order_lowest_first fd_law_are_names fd_law fdi_Full fdi_InvalidName fdi_DuplicateMake fdi_UnknownMake) (cdv : Value) (A : Around) (outer : List Env) (hr : Room 2 A) (B : Hp) (L a : Addr) (n : Nat) (Fl : Hp) (ds : List D) (σ0 : L2.St) : Ready ⟨P, w, K, mg, base, ["self", "waiting", "lowest", "name", "other"], "Order.lowest_first", defScope (cls_st 19 15), f_Order_lowest_first, cdv, A, outer, L, a, (Gz Y1 Y2 Y0 Y4 Y3)⟩ B id gn_Order_lowest_first n Fl (frm 5 ds) (gs_Order_lowest_first ds) (.fresh (.func (defBody (cls_st 19 15)) (envOfC "Order.lowest_first" (defScope (cls_st 19 15)) L f_Order_lowest_first cdv))) σ0 [] := by
  have sc := sc_Order_lowest_first
  exact while_rd 1 3 (P := P) (w := w) (K := K) (mg := mg) (base := base) (N := ["self", "waiting", "lowest", "name", "other"]) (ps := ["self"]) (qual := "Order.lowest_first") (st := (cls_st 19 15)) (f := f_Order_lowest_first) (G := (Gz Y1 Y2 Y0 Y4 Y3)) (k := 1) (d0 := d_Order_lowest_first_g0) (dc := d_Order_lowest_first_gc) (d1 := d_Order_lowest_first_g1) (dy := d_Order_lowest_first_gy) (d2 := d_Order_lowest_first_g2) sc_Order_lowest_first (fun cdv A outer s H hr tk po hu => ⟨(gss_one (gs_asg (i := 1) (g_list (by rfl) T.b_list (go_v (g_fld (c := "Order") T.fl_Order_names (go_p (pv 0))))) sc.nd rfl (by first | exact .inl rfl | exact .inr rfl))), ⟨(gt_tru (go_p (pv 1))), (gss_cons (gs_asg (i := 2) (g_ix (go_p (pv 1)) (go_v g_int)) sc.nd rfl (by first | exact .inl rfl | exact .inr rfl))
  (gss_cons (gs_lend (i := 1) (gs_for (tg := (.one 3)) (fg := []) po rfl (gi_seq (g_cp (pv 1))) (pg_name (i := 3) sc.nd rfl (by first | exact .inl rfl | exact .inr rfl)) (gss_one (gs_if (gt_lend (i := 1) (gt_not (gt_val (g_anyB rfl (by rfl) T.b_any (go_v (g_lc (own := [("other", 4)]) (tg := (.one 4)) (to := [1004]) rfl sc.nd (gi_seq (g_cp (pv 1))) (blkOk_by (N := ["self", "waiting", "lowest", "name", "other"]) (sc := defScope (cls_st 19 15)) (by decide +kernel)) (fun _ _ _ _ _ => (pg_name (i := 4) sc.nd rfl (by first | exact .inl rfl | exact .inr rfl))) (fun _ _ _ _ _ => gts_nil) (fun _ _ _ _ _ => (g_andV (g_meth takesN T.c_Order T.cl_Order T.m_Order_has (ok_Order_has T) (hr.mono (by decide)) T.a_Order_has (pv 0) (gr_v (g_cp (pv 3)) (gr_v (g_cp (pv 4)) gr_nil))) (g_oneV .And (g_notV (g_meth takesN T.c_Order T.cl_Order T.m_Order_has (ok_Order_has T) (hr.mono (by decide)) T.a_Order_has (pv 0) (gr_v (g_cp (pv 4)) (gr_v (g_cp (pv 3)) gr_nil))))))))))))) (gss_cons (gs_asg (i := 2) (g_cp (pv 3)) sc.nd rfl (by first | exact .inl rfl | exact .inr rfl))
  (gss_one gs_break)) gss_nil))))
  (gss_one (gs_tc (tc := [1003, 1, 1001]) (by first | exact (gs_setLcL (i := 1) (k := 1) (own := [("name", 3)]) (tg := (.one 3)) (to := [1003]) rfl sc.nd rfl rfl (sw_true rfl rfl rfl (by decide +kernel)) (gi_seq (g_cp (pv 1))) (blkOk_by (N := ["self", "waiting", "lowest", "name", "other"]) (sc := defScope (cls_st 19 15)) (by decide +kernel)) (fun _ _ _ _ _ => (pg_name (i := 3) sc.nd rfl (by first | exact .inl rfl | exact .inr rfl))) (fun _ _ _ _ _ => (gts_one (gt_ne hu (go_v (g_cp (pv 3))) (go_v (g_cp (pv 2)))))) (fun _ _ _ _ _ => (g_cp (pv 3)))) | exact (gs_asg (i := 1) (g_lend (i := 1) (g_lc (own := [("name", 3)]) (tg := (.one 3)) (to := [1003]) rfl sc.nd (gi_seq (g_cp (pv 1))) (blkOk_by (N := ["self", "waiting", "lowest", "name", "other"]) (sc := defScope (cls_st 19 15)) (by decide +kernel)) (fun _ _ _ _ _ => (pg_name (i := 3) sc.nd rfl (by first | exact .inl rfl | exact .inr rfl))) (fun _ _ _ _ _ => (gts_one (gt_ne hu (go_v (g_cp (pv 3))) (go_v (g_cp (pv 2)))))) (fun _ _ _ _ _ => (g_cp (pv 3))))) sc.nd rfl (by first | exact .inl rfl | exact .inr rfl))))))), (g_cp (pv 2)), gss_nil⟩⟩) (by rfl) (by intro _ _; rfl) (by rfl) cdv A outer hr B L a n Fl (frm 5 ds) σ0
theorem sc_law_are_names : FnScope ["_law_value", "_law_expected", "_law_k"] ["_law_value", "_law_expected"] (defScope (topS 28)) := ⟨rfl, rfl, rfl, by decide +kernel, rfl, by decide +kernel, by decide +kernel⟩
theorem ok_law_are_names (T : Txt K mg f_law_box f_law_take f_law_name f_law_names f_law_drawn_pairs f_law_named f_check_name f_check_makes f_check_known f_check_pairs f_closed_rows f_rows_of f_Order___init__ f_law_closed f_law_ready f_Order_has f_Order_lowest_first f_law_are_names f_law Y1 Y2 Y0 Y4 Y3 fi_Full fi_InvalidName fi_DuplicateMake fi_UnknownMake fd_law_box fd_law_take fd_law_name fd_law_names fd_law_drawn_pairs fd_law_named fd_check_name fd_check_makes fd_check_known fd_check_pairs fd_closed_rows fd_rows_of fd_Order___init__ fd_law_closed fd_law_ready fd_Order_has fd_Order_lowest_first fd_law_are_names fd_law fdi_Full fdi_InvalidName fdi_DuplicateMake fdi_UnknownMake) : FnOk P w K mg base (L2N.CX P w) 1 f_law_are_names fd_law_are_names ["_law_value", "_law_expected"] (spM ⟨K, cls [("Full", Y1), ("InvalidName", Y2), ("DuplicateMake", Y0), ("UnknownMake", Y4), ("Order", Y3)], P0, none, []⟩ m_law_are_names) := by
  have sc := sc_law_are_names
  have z := fn_den2 (P := P) (w := w) (mg := mg) (base := base) (G := (Gz Y1 Y2 Y0 Y4 Y3)) (tc := [2, 1002]) (den := d_law_are_names) (pr := []) (k := 0) T.F_law_are_names sc_law_are_names (by decide) fun cdv A outer s H E hr tk po hu => (gss_cons (gs_if (gt_w (gw_or (gt_not (gt_val (g_isi .list (by rfl) T.b_isinstance (by rfl) T.b_list (by decide +kernel) (by decide) (by decide) (go_p (pv 0))))) (gw_one .Or (gt_ne hu (go_v (g_len (by rfl) T.b_len (go_p (pv 0)))) (go_v (g_len (by rfl) T.b_len (go_p (pv 1)))))))) (gss_one (gs_ret g_bl)) gss_nil)
  (gss_cons (gs_for (tg := (.one 2)) (fg := []) po rfl (gi_range1 (by rfl) T.b_range (g_len (by rfl) T.b_len (go_p (pv 1)))) (pg_name (i := 2) sc.nd rfl (by first | exact .inl rfl | exact .inr rfl)) (gss_one (gs_if (gt_w (gw_or (gt_not (gt_val (g_isi .str (by rfl) T.b_isinstance (by rfl) T.b_str (by decide +kernel) (by decide) (by decide) (go_v (g_ix (go_p (pv 0)) (go_v (g_cp (pv 2)))))))) (gw_one .Or (gt_ne hu (go_v (g_ix (go_p (pv 0)) (go_v (g_cp (pv 2))))) (go_v (g_ix (go_p (pv 1)) (go_v (g_cp (pv 2))))))))) (gss_one (gs_ret g_bl)) gss_nil)))
  (gss_one (gs_ret g_bl))))
  rw [m_law_are_names_def]
  exact z
theorem sc_law : FnScope ["_law_script", "_law_box_here", "_law_size", "_law_names_here", "_law_drawn", "_law_order", "_law_reach", "_law_expected", "_law_left", "_law_k", "_law_a", "_law_chosen", "_law_found", "_law_name_here"] ["_law_script"] (defScope (topS 30)) := ⟨rfl, rfl, rfl, by decide +kernel, rfl, by decide +kernel, by decide +kernel⟩
theorem ok_law (T : Txt K mg f_law_box f_law_take f_law_name f_law_names f_law_drawn_pairs f_law_named f_check_name f_check_makes f_check_known f_check_pairs f_closed_rows f_rows_of f_Order___init__ f_law_closed f_law_ready f_Order_has f_Order_lowest_first f_law_are_names f_law Y1 Y2 Y0 Y4 Y3 fi_Full fi_InvalidName fi_DuplicateMake fi_UnknownMake fd_law_box fd_law_take fd_law_name fd_law_names fd_law_drawn_pairs fd_law_named fd_check_name fd_check_makes fd_check_known fd_check_pairs fd_closed_rows fd_rows_of fd_Order___init__ fd_law_closed fd_law_ready fd_Order_has fd_Order_lowest_first fd_law_are_names fd_law fdi_Full fdi_InvalidName fdi_DuplicateMake fdi_UnknownMake) : FnOk P w K mg base (L2N.CX P w) 7 f_law fd_law ["_law_script"] (spM ⟨K, cls [("Full", Y1), ("InvalidName", Y2), ("DuplicateMake", Y0), ("UnknownMake", Y4), ("Order", Y3)], P0, none, []⟩ m_law) := by
  have sc := sc_law
  have z := fn_den2 (P := P) (w := w) (mg := mg) (base := base) (G := (Gz Y1 Y2 Y0 Y4 Y3)) (tc := [1, 1001, 1, 2, 1002, 1, 3, 1003, 1, 1, 4, 1004, 5, 1005, 6, 1006, 7, 1007, 8, 1008, 9, 1009, 1010, 11, 1011, 8, 1008, 7, 9, 1009, 12, 1012, 13, 1013]) (den := d_law) (pr := []) (k := 6) T.F_law sc_law (by decide) fun cdv A outer s H E hr tk po hu => (gss_cons (gs_asg (i := 1) (g_call tk (ok_law_box T) (hr.mono (by decide)) (by rfl) T.g_law_box T.F_law_box.kp T.a_law_box (gr_l (pv 0) gr_nil)) sc.nd rfl (by first | exact .inl rfl | exact .inr rfl))
  (gss_cons (gs_asg (i := 2) (g_call tk (ok_law_take T) (hr.mono (by decide)) (by rfl) T.g_law_take T.F_law_take.kp T.a_law_take (gr_io (pv 1) (gr_v g_int gr_nil))) sc.nd rfl (by first | exact .inl rfl | exact .inr rfl))
  (gss_cons (gs_asg (i := 3) (g_call tk (ok_law_names T) (hr.mono (by decide)) (by rfl) T.g_law_names T.F_law_names.kp T.a_law_names (gr_io (pv 1) (gr_v (g_cp (pv 2)) gr_nil))) sc.nd rfl (by first | exact .inl rfl | exact .inr rfl))
  (gss_cons (gs_asg (i := 4) (g_call tk (ok_law_drawn_pairs T) (hr.mono (by decide)) (by rfl) T.g_law_drawn_pairs T.F_law_drawn_pairs.kp T.a_law_drawn_pairs (gr_io (pv 1) (gr_v (g_cp (pv 2)) (gr_v (g_call tk (ok_law_take T) (hr.mono (by decide)) (by rfl) T.g_law_take T.F_law_take.kp T.a_law_take (gr_io (pv 1) (gr_v g_int gr_nil))) gr_nil)))) sc.nd rfl (by first | exact .inl rfl | exact .inr rfl))
  (gss_cons (gs_asg (i := 5) (g_make tk T.c_Order T.mk_Order (ok_Order___init__ T) (hr.mono (by decide)) (by rfl) T.g_Order T.a_Order___init__ (gr_l (pv 3) (gr_v (g_call tk (ok_law_named T) (hr.mono (by decide)) (by rfl) T.g_law_named T.F_law_named.kp T.a_law_named (gr_l (pv 3) (gr_l (pv 4) gr_nil))) gr_nil))) sc.nd rfl (by first | exact .inl rfl | exact .inr rfl))
  (gss_cons (gs_asg (i := 6) (g_call tk (ok_law_closed T) (hr.mono (by decide)) (by rfl) T.g_law_closed T.F_law_closed.kp T.a_law_closed (gr_v (g_cp (pv 2)) (gr_l (pv 4) gr_nil))) sc.nd rfl (by first | exact .inl rfl | exact .inr rfl))
  (gss_cons (gs_asg (i := 7) (g_lst ga_nil) sc.nd rfl (by first | exact .inl rfl | exact .inr rfl))
  (gss_cons (gs_asg (i := 8) (g_lrg rfl (by rfl) T.b_list (by rfl) T.b_range (go_v (g_cp (pv 2)))) sc.nd rfl (by first | exact .inl rfl | exact .inr rfl))
  (gss_cons (gs_for (tg := (.one 9)) (fg := []) po rfl (gi_range1 (by rfl) T.b_range (g_cp (pv 2))) (pg_name (i := 9) sc.nd rfl (by first | exact .inl rfl | exact .inr rfl)) (gss_wk (t2 := [1010, 11, 1011, 8, 1008, 7]) (gss_cons (gs_lend (i := 8) (gs_asg (i := 11) (g_ix (go_v (g_lc (own := [("_law_a", 10)]) (tg := (.one 10)) (to := [1010]) rfl sc.nd (gi_seq (g_cp (pv 8))) (blkOk_by (N := ["_law_script", "_law_box_here", "_law_size", "_law_names_here", "_law_drawn", "_law_order", "_law_reach", "_law_expected", "_law_left", "_law_k", "_law_a", "_law_chosen", "_law_found", "_law_name_here"]) (sc := defScope (topS 30)) (by decide +kernel)) (fun _ _ _ _ _ => (pg_name (i := 10) sc.nd rfl (by first | exact .inl rfl | exact .inr rfl))) (fun _ _ _ _ _ => (gts_one (gt_val (g_call takesN (ok_law_ready T) (hr.mono (by decide)) (by rfl) T.g_law_ready T.F_law_ready.kp T.a_law_ready (gr_l (pv 6) (gr_l (pv 8) (gr_v (g_cp (pv 10)) gr_nil))))))) (fun _ _ _ _ _ => (g_cp (pv 10))))) (go_v g_int)) sc.nd rfl (by first | exact .inl rfl | exact .inr rfl)))
  (gss_cons (gs_tc (tc := [1010, 8, 1008]) (by first | exact (gs_setLcL (i := 8) (k := 8) (own := [("_law_a", 10)]) (tg := (.one 10)) (to := [1010]) rfl sc.nd rfl rfl (sw_true rfl rfl rfl (by decide +kernel)) (gi_seq (g_cp (pv 8))) (blkOk_by (N := ["_law_script", "_law_box_here", "_law_size", "_law_names_here", "_law_drawn", "_law_order", "_law_reach", "_law_expected", "_law_left", "_law_k", "_law_a", "_law_chosen", "_law_found", "_law_name_here"]) (sc := defScope (topS 30)) (by decide +kernel)) (fun _ _ _ _ _ => (pg_name (i := 10) sc.nd rfl (by first | exact .inl rfl | exact .inr rfl))) (fun _ _ _ _ _ => (gts_one (gt_ne hu (go_v (g_cp (pv 10))) (go_v (g_cp (pv 11)))))) (fun _ _ _ _ _ => (g_cp (pv 10)))) | exact (gs_asg (i := 8) (g_lend (i := 8) (g_lc (own := [("_law_a", 10)]) (tg := (.one 10)) (to := [1010]) rfl sc.nd (gi_seq (g_cp (pv 8))) (blkOk_by (N := ["_law_script", "_law_box_here", "_law_size", "_law_names_here", "_law_drawn", "_law_order", "_law_reach", "_law_expected", "_law_left", "_law_k", "_law_a", "_law_chosen", "_law_found", "_law_name_here"]) (sc := defScope (topS 30)) (by decide +kernel)) (fun _ _ _ _ _ => (pg_name (i := 10) sc.nd rfl (by first | exact .inl rfl | exact .inr rfl))) (fun _ _ _ _ _ => (gts_one (gt_ne hu (go_v (g_cp (pv 10))) (go_v (g_cp (pv 11)))))) (fun _ _ _ _ _ => (g_cp (pv 10))))) sc.nd rfl (by first | exact .inl rfl | exact .inr rfl))))
  (gss_one (gs_app (i := 7) (pv 7) (g_ix (go_p (pv 3)) (go_v (g_cp (pv 11)))))))) (by decide)))
  (gss_cons (gs_for (tg := (.one 9)) (fg := [12]) po rfl (gi_range1 (by rfl) T.b_range g_int) (pg_name (i := 9) sc.nd rfl (by first | exact .inl rfl | exact .inr rfl)) (gss_wk (t2 := [12, 1012, 13, 1013]) (gss_cons (gs_asg (i := 12) (g_lst ga_nil) sc.nd rfl (by first | exact .inl rfl | exact .inr rfl))
  (gss_cons (gs_lend (i := 5) (gs_forG2 (tg := (.one 13)) (fg := []) (sf := id) (step := gn_Order_lowest_first) (start := gs_Order_lowest_first) (k := 2) po rfl (hr.mono (by decide)) (gd_Order_lowest_first T) (fun cdv D => gg_meth0 D T.c_Order (g_cp (pv 5)) T.cl_Order T.m_Order_lowest_first hr T.a_Order_lowest_first) (fun cdv A outer hr B L a n Fl ds σ0 => rd_Order_lowest_first T cdv A outer hr B L a n Fl ds σ0) (pg_name (i := 13) sc.nd rfl (by first | exact .inl rfl | exact .inr rfl)) (fun tk po => (gss_cons (gs_app (i := 12) (pv 12) (g_cp (pv 13)))
  (gss_one (gs_if (gt_gt (go_v (g_len (by rfl) T.b_len (go_p (pv 12)))) (go_v (g_cp (pv 2)))) (gss_one (gs_ret g_bl)) gss_nil))))))
  (gss_one (gs_if (gt_not (gt_val (g_call tk (ok_law_are_names T) (hr.mono (by decide)) (by rfl) T.g_law_are_names T.F_law_are_names.kp T.a_law_are_names (gr_l (pv 12) (gr_l (pv 7) gr_nil))))) (gss_one (gs_ret g_bl)) gss_nil)))) (by decide)))
  (gss_one (gs_ret g_bl))))))))))))
  rw [m_law_def]
  exact z
end
end Lw
namespace Lw
open Cs
open PySem (Str)
theorem box_w {ns : List Int} {K : D → En → Prop} {E : PySem.Str → List PySem.Str → List D → En → Prop} (hn : ns.length ≤ 63) (hK : ∀ d, BoxP d → K d [.un]) : resW (m_law_box [scr ns]) K E := by
  rw [m_law_box_def]
  refine resW_run rfl ?_
  unfold d_law_box scr
  simp [frm, flwOk, noBoAt, lim]
  exact hK _ ⟨_, 0, 0, 0, rfl, by omega, by omega⟩
theorem take_w {d : D} {m : Int} {K : D → En → Prop} {E : PySem.Str → List PySem.Str → List D → En → Prop} (hd : BoxP d) (hm : 0 < m) (hm2 : m < 1073741824) (hK : ∀ r d', 0 ≤ r → r < m → BoxP d' → K (.int r) [.dt d', .un]) : resW (m_law_take [d, .int m]) K E := by
  obtain ⟨cs, a, b, s, rfl, ha, hb⟩ := hd
  rw [m_law_take_def]
  refine resW_run rfl ?_
  have hmod : ∀ x : Int, 0 ≤ x % m ∧ x % m < m := fun x => ⟨Int.emod_nonneg x (by omega), Int.emod_lt_of_pos x hm⟩
  have hdiv : ∀ x : Int, 0 ≤ x → 0 ≤ x / m := fun x h => Int.ediv_nonneg h (by omega)
  have fin : ∀ r a' b' s' x ρ, 0 ≤ r → r < m → 0 ≤ a' → 0 ≤ b' → K (.int r) (outs [0] 2 (.dt (.lst .ow [.lst .fr (cs.map D.int), .int a', .int b', .int s']) :: x :: ρ)) := fun r a' b' s' x ρ h1 h2 h3 h4 => by
    rw [outs_02 (by simp)]
    exact hK _ _ h1 h2 ⟨cs, a', b', s', rfl, h3, h4⟩
  unfold d_law_take d_law_take_s1 d_law_take_s2 d_law_take_s3 d_law_take_s4 box
  by_cases h : b = 0 ∧ a < cs.length
  · obtain ⟨h1, h2⟩ := h
    obtain ⟨c, e⟩ := atI_ints ha h2
    subst h1
    by_cases h3 : 1000000000000000000 ≤ c
    · by_cases h4 : 1000000000000000000 < c
      · simp [post_seq, frm, h2, e, h3, h4, hm, hm2]
        refine fin _ _ _ _ _ _ (hmod _).1 (hmod _).2 ?_ (hdiv _ ?_) <;> omega
      · simp [post_seq, frm, h2, e, h3, h4, hm, hm2]
        refine fin _ _ _ _ _ _ (hmod _).1 (hmod _).2 ?_ ?_ <;> omega
    · simp [post_seq, frm, h2, e, h3, hm, hm2]
      refine fin _ _ _ _ _ _ (hmod _).1 (hmod _).2 ?_ ?_ <;> omega
  · by_cases h4 : 0 < b
    · have h5 : ¬ b = 0 := by omega
      simp [post_seq, frm, h4, h5, hm, hm2]
      refine fin _ _ _ _ _ _ (hmod _).1 (hmod _).2 ?_ (hdiv _ ?_) <;> omega
    · have h5 : b = 0 := by omega
      have h6 : ¬ a < cs.length := fun z => h ⟨h5, z⟩
      subst h5
      simp [post_seq, frm, h6, hm, hm2]
      refine fin _ _ _ _ _ _ (hmod _).1 (hmod _).2 ?_ ?_ <;> omega
abbrev abc : Str := "abcdefghijklmnopqrstuvwxyz"
def goodN (z : Str) : Bool := decide (1 ≤ z.length) && decide (z.length ≤ 12) && z.cps.toList.all fun c => decide (c ∈ abc.cps.toList)
def Icn (z : Str) (k : Nat) (ρ : En) : Prop := (∃ x, ρ = [.dt (.str z), x]) ∧ ∀ (j : Nat) c, j < k → z.cps.toList[j]? = some c → c ∈ abc.cps.toList
theorem good_of {z : Str} (h1 : 1 ≤ z.length) (h2 : z.length ≤ 12) (h : ∀ (j : Nat) c, j < z.length → z.cps.toList[j]? = some c → c ∈ abc.cps.toList) : goodN z = true := by
  unfold goodN
  simp only [h1, h2, decide_true, Bool.true_and, List.all_eq_true]
  intro c hc
  obtain ⟨j, hj⟩ := List.getElem?_of_mem hc
  have hl : j < z.length := by
    have := (List.getElem?_eq_some_iff.mp hj).1
    simpa [Str.length] using this
  exact decide_eq_true (h j c hl hj)
theorem bad_of {z : Str} {j c : Nat} (hj : z.cps.toList[j]? = some c) (h : c ∉ abc.cps.toList) : goodN z = false := by
  unfold goodN
  have : (z.cps.toList.all fun c => decide (c ∈ abc.cps.toList)) = false := by
    rw [Bool.eq_false_iff]
    intro z
    exact h (of_decide_eq_true (List.all_eq_true.mp z c (List.mem_of_getElem? hj)))
  rw [this, Bool.and_false]
theorem check_name_w {z : Str} {K : D → En → Prop} {E : XK0} (hz : z.length ≤ lim) (h1 : goodN z = true → K .non [.un]) (h2 : goodN z = false → E "InvalidName" ["name"] [.str z] [.un]) : resW (m_check_name [.str z]) K E := by
  rw [m_check_name_def]
  refine resW_run rfl ?_
  unfold d_check_name
  by_cases ha : 1 ≤ z.length
  · by_cases hb : z.length ≤ 12
    · have ha' : (1 : Int) ≤ (z.length : Int) := by omega
      have hb' : (z.length : Int) ≤ 12 := by omega
      simp [post_seq, frm, hz, ha', hb']
      refine for_inv (Icn z) ⟨⟨_, rfl⟩, fun j c hj => by omega⟩ ?_ ?_
      · rintro k d ρ hk ⟨⟨x, rfl⟩, hi⟩
        obtain ⟨c, hc, rfl⟩ := signs_get hk
        unfold d_check_name_b3
        by_cases hq : c ∈ abc.cps.toList
        · simp [hq]
          refine ⟨⟨_, rfl⟩, fun j c' hj hc' => ?_⟩
          rcases Nat.lt_or_ge j k with q | q
          · exact hi j c' q hc'
          · have : j = k := by omega
            subst this
            rw [hc] at hc'
            cases hc'
            exact hq
        · simp [hq]
          exact h2 (bad_of hc hq)
      · rintro ρ ⟨⟨x, rfl⟩, hi⟩
        rw [signs_len] at hi
        simp
        exact h1 (good_of ha hb hi)
    · have ha' : (1 : Int) ≤ (z.length : Int) := by omega
      have hb' : ¬ (z.length : Int) ≤ 12 := by omega
      simp [post_seq, frm, hz, ha', hb']
      exact h2 (by unfold goodN; simp [hb])
  · have ha' : ¬ (1 : Int) ≤ (z.length : Int) := by omega
    simp [post_seq, frm, hz, ha']
    exact h2 (by unfold goodN; simp [ha])
structure Stb (xs : List D) : Prop where
  m : ∀ g, mapFs g xs = xs
  a : ∀ p, allFs p xs = true
theorem stb_strs {zs : List Str} : Stb (zs.map D.str) := ⟨fun _ => mapFs_strs, fun _ => allFs_strs⟩
theorem stb_pr2 {zs : List (Str × Str)} : Stb (zs.map pr2) := ⟨fun _ => mapFs_pr2, fun _ => allFs_pr2⟩
def SeqD (d : D) (xs : List D) : Prop := (∃ o, d = .lst o xs) ∨ d = .tup xs
section
variable {d : D} {xs : List D}
theorem SeqD.lend (h : SeqD d xs) (st : Stb xs) : SeqD (mapF flLend d) xs := by
  rcases h with ⟨o, rfl⟩ | rfl
  · exact .inl ⟨flLend o, by rw [mapF_l, st.m]⟩
  · exact .inr (by rw [mapF_t, st.m])
theorem SeqD.len (h : SeqD d xs) : pLen d = .sc (.int xs.length) := by
  rcases h with ⟨o, rfl⟩ | rfl <;> rfl
theorem SeqD.items (h : SeqD d xs) (st : Stb xs) : itemsOf (mapF flFrz (mapF flLend d)) = some xs := by
  rcases h with ⟨o, rfl⟩ | rfl
  · rw [mapF_l, mapF_l, st.m, st.m]; rfl
  · rw [mapF_t, mapF_t, st.m, st.m]; rfl
theorem SeqD.noOw (h : SeqD d xs) (st : Stb xs) : allF noOw (mapF flLend d) = true := by
  rcases h with ⟨o, rfl⟩ | rfl
  · rw [mapF_l, allF_l, st.m, st.a]; cases o <;> rfl
  · rw [mapF_t, allF_t, st.m, st.a]
theorem SeqD.tup (h : SeqD d xs) (st : Stb xs) : pTuple d = .nt xs ∨ pTuple d = .sc (.tup xs) := by
  rcases h with ⟨o, rfl⟩ | rfl
  · left; rw [pTuple_l, if_pos (st.a _)]
  · right; rw [pTuple_t, if_pos (st.a _)]
theorem SeqD.notIn {z : Str} {zs : List Str} (h : SeqD d (zs.map D.str)) : pNotIn (.str z) d = .sc (.bl (!decide (z ∈ zs))) := by
  rcases h with ⟨o, rfl⟩ | rfl
  · exact pNotIn_ls
  · exact pNotIn_ts
end
theorem getE_map {α β : Type} {f : α → β} {xs : List α} {k : Nat} {y : β} (h : (xs.map f)[k]? = some y) : ∃ hk : k < xs.length, y = f xs[k] := by
  rw [List.getElem?_map] at h
  rcases Nat.lt_or_ge k xs.length with q | q
  · rw [List.getElem?_eq_getElem q] at h
    exact ⟨q, (Option.some.inj h).symm⟩
  · rw [List.getElem?_eq_none q] at h; cases h
def firstBad (seen : List Str) : List Str → Option (Str × Str)
  | [] => none
  | z :: zs => if goodN z = false then some ("InvalidName", z) else if z ∈ seen then some ("DuplicateMake", z) else firstBad (seen ++ [z]) zs
def Icm (d : D) (zs : List Str) (k : Nat) (ρ : En) : Prop := (∃ x, ρ = [.dt (mapF flLend d), .dt (.lst .ow ((zs.take k).map D.str)), x] ∧ (x = .un ∨ ∃ z, x = .dt (.str z))) ∧ firstBad [] zs = firstBad (zs.take k) (zs.drop k)
theorem check_makes_w {d : D} {zs : List Str} {K : D → En → Prop} {E : XK0} (hd : SeqD d (zs.map D.str)) (hl : ∀ z ∈ zs, z.length ≤ lim) (hb : allF noBo d = true ∨ True)
    (h1 : zs.length ≤ 12 → firstBad [] zs = none → K .non [.un]) (h2 : 12 < zs.length → E "Full" ["most"] [.int 12] [.un])
    (h3 : ∀ c z, zs.length ≤ 12 → firstBad [] zs = some (c, z) → E c ["name"] [.str z] [.un]) : resW (m_check_makes [d]) K E := by
  rw [m_check_makes_def]
  refine resW_run rfl ?_
  unfold d_check_makes
  by_cases hn : 12 < zs.length
  · have hn' : (12 : Int) < (zs.length : Int) := by omega
    simp [post_seq, frm, hd.len, hn', hn]
    exact h2 hn
  · have hn' : ¬ (12 : Int) < (zs.length : Int) := by omega
    simp [post_seq, frm, hd.len, hn', hn, lim, hd.items stb_strs, hd.noOw stb_strs]
    refine for_inv (Icm d zs) ⟨⟨.un, by simp, .inl rfl⟩, by simp⟩ ?_ ?_
    · rintro k dd ρ hk ⟨⟨x, rfl, hx⟩, hi⟩
      obtain ⟨hk1, rfl⟩ := getE_map hk
      have hz := hl _ (List.getElem_mem hk1)
      have hdr : zs.drop k = zs[k] :: zs.drop (k + 1) := List.drop_eq_getElem_cons hk1
      have htk : zs.take (k + 1) = zs.take k ++ [zs[k]] := (List.take_append_getElem hk1).symm
      have hlt : (zs.take k).length ≤ 12 := by rw [List.length_take]; omega
      generalize hzk : zs[k] = z at *
      generalize htt : zs.take k = sn at *
      rw [hdr, firstBad] at hi
      unfold d_check_makes_b4
      simp [post_seq]
      refine check_name_w hz (fun hg => ?_) (fun hg => ?_)
      · rw [if_neg (by rw [hg]; simp)] at hi
        by_cases hm : z ∈ sn
        · rw [if_pos hm] at hi
          simp [hm, noBoAt]
          exact h3 _ _ (by omega) hi
        · rw [if_neg hm] at hi
          simp [hm, noBoAt, lim]
          refine ⟨by omega, ⟨.dt (.str z), ?_, .inr ⟨_, rfl⟩⟩, ?_⟩
          · rw [htk, List.map_append]; rfl
          · rw [htk]; exact hi
      · rw [if_pos hg] at hi
        simp [noBoAt]
        exact h3 _ _ (by omega) hi
    · rintro ρ ⟨⟨x, rfl, hx⟩, hi⟩
      have hi : firstBad [] zs = none := by
        rw [hi, List.length_map, List.drop_length]
        rfl
      rcases hx with rfl | ⟨z, rfl⟩
      · simp [noBoAt, flwOk]
        exact h1 (by omega) hi
      · simp [noBoAt, flwOk]
        exact h1 (by omega) hi
def firstUnk (zs : List Str) : List Str → Option Str
  | [] => none
  | n :: ns => if n ∈ zs then firstUnk zs ns else some n
theorem check_known_w {d : D} {zs : List Str} {a b : Str} {K : D → En → Prop} {E : XK0} (hd : SeqD d (zs.map D.str))
    (h1 : a ∈ zs → b ∈ zs → K .non [.un, .un]) (h2 : ∀ n, firstUnk zs [a, b] = some n → E "UnknownMake" ["name"] [.str n] [.un, .un]) : resW (m_check_known [d, .tup [.str a, .str b]]) K E := by
  rw [m_check_known_def]
  refine resW_run rfl ?_
  unfold d_check_known
  simp [frm, post_forL_cons, post_forL_nil, d_check_known_b1, hd.notIn]
  by_cases ha : a ∈ zs
  · by_cases hb : b ∈ zs
    · simp [ha, hb]
      first
        | exact h1 ha hb
        | exact ⟨by simp [noBoAt, flwOk], h1 ha hb⟩
    · simp [ha, hb]
      first
        | exact h2 b (by simp [firstUnk, ha, hb])
        | exact ⟨by simp [noBoAt], h2 b (by simp [firstUnk, ha, hb])⟩
  · simp [ha]
    first
      | exact h2 a (by simp [firstUnk, ha])
      | exact ⟨by simp [noBoAt], h2 a (by simp [firstUnk, ha])⟩
def flatP : List (Str × Str) → List Str
  | [] => []
  | p :: ps => p.1 :: p.2 :: flatP ps
def Icp (d e : D) (zs : List Str) (ps : List (Str × Str)) (k : Nat) (ρ : En) : Prop := (∃ x y, ρ = [.dt d, .dt (mapF flLend e), x, y] ∧ noBoAt [2, 1002, 3, 1003] ρ = true) ∧ (∀ p ∈ ps.take k, p.1 ∈ zs ∧ p.2 ∈ zs) ∧ firstUnk zs (flatP ps) = firstUnk zs (flatP (ps.drop k))
theorem check_pairs_w {d e : D} {zs : List Str} {ps : List (Str × Str)} {K : D → En → Prop} {E : XK0} (hd : SeqD d (zs.map D.str)) (he : SeqD e (ps.map pr2))
    (h1 : (∀ p ∈ ps, p.1 ∈ zs ∧ p.2 ∈ zs) → K .non [.un, .un]) (h2 : ∀ n, firstUnk zs (flatP ps) = some n → E "UnknownMake" ["name"] [.str n] [.un, .un]) : resW (m_check_pairs [d, e]) K E := by
  rw [m_check_pairs_def]
  refine resW_run rfl ?_
  unfold d_check_pairs
  simp [frm, he.items stb_pr2, he.noOw stb_pr2]
  refine for_inv (Icp d e zs ps) ?_ ?_ ?_
  · exact ⟨⟨.un, .un, rfl, rfl⟩, by simp, by simp⟩
  · rintro k dd ρ hk ⟨⟨x, y, rfl, hn⟩, hall, hi⟩
    obtain ⟨hk1, rfl⟩ := getE_map hk
    have hdr : ps.drop k = ps[k] :: ps.drop (k + 1) := List.drop_eq_getElem_cons hk1
    have htk : ps.take (k + 1) = ps.take k ++ [ps[k]] := (List.take_append_getElem hk1).symm
    generalize hzk : ps[k] = z at *
    rw [hdr, flatP, firstUnk, firstUnk] at hi
    unfold d_check_pairs_b1
    simp [lim]
    refine check_known_w (hd.lend stb_strs) (fun ha hb => ?_) (fun n hn => ?_)
    · rw [if_pos ha, if_pos hb] at hi
      refine ⟨⟨_, _, rfl, by simp [noBoAt]⟩, ?_, hi⟩
      intro p hp
      rw [htk] at hp
      rcases List.mem_append.mp hp with q | q
      · exact hall _ q
      · rw [List.mem_singleton.mp q]; exact ⟨ha, hb⟩
    · simp [noBoAt]
      refine h2 n ?_
      rw [hi]
      unfold firstUnk at hn
      by_cases ha : z.1 ∈ zs
      · rw [if_pos ha] at hn ⊢
        unfold firstUnk at hn
        by_cases hb : z.2 ∈ zs
        · rw [if_pos hb] at hn
          cases hn
        · rw [if_neg hb] at hn ⊢
          exact hn
      · rw [if_neg ha] at hn ⊢
        exact hn
  · rintro ρ ⟨⟨x, y, rfl, hn⟩, hall, hi⟩
    rw [List.length_map, List.take_length] at hall
    simp [hn, flwOk]
    exact h1 hall
def BitsOf (r : Int) (P : Nat → Bool) : Prop := ∃ m : Nat, r = (m : Int) ∧ ∀ j, m.testBit j = P j
theorem bitNot2 (x : Int) : PySem.Builtin.bitNot (PySem.Builtin.bitNot x) = x := by
  unfold PySem.Builtin.bitNot
  omega
theorem bitNot_neg (a : Nat) : decide (0 ≤ PySem.Builtin.bitNot (a : Int)) = false := by
  unfold PySem.Builtin.bitNot
  rw [decide_eq_false_iff_not]
  omega
theorem bitOr_nat (a b : Nat) : PySem.Builtin.bitOr (a : Int) (b : Int) = ((a ||| b : Nat) : Int) := by
  unfold PySem.Builtin.bitOr PySem.Builtin.bitAnd
  rw [bitNot_neg, bitNot_neg]
  dsimp only
  rw [bitNot2, bitNot2, bitNot2]
  rfl
theorem bitAnd_one (a : Nat) : PySem.Builtin.bitAnd (a : Int) 1 = ((a % 2 : Nat) : Int) := by
  unfold PySem.Builtin.bitAnd
  have h : decide (0 ≤ (a : Int)) = true := by simp
  rw [h]
  show (((a : Int).toNat &&& 1 : Nat) : Int) = _
  rw [Int.toNat_natCast, Nat.and_one_is_mod]
theorem BitsOf.bor {r q : Int} {P S : Nat → Bool} (h : BitsOf r P) (g : BitsOf q S) : BitsOf (PySem.Builtin.bitOr r q) (fun j => P j || S j) := by
  obtain ⟨a, rfl, ha⟩ := h
  obtain ⟨b, rfl, hb⟩ := g
  exact ⟨a ||| b, bitOr_nat a b, fun j => by rw [Nat.testBit_or, ha, hb]⟩
theorem BitsOf.bit {j : Nat} : BitsOf (1 * 2 ^ j) (fun i => decide (j = i)) := ⟨2 ^ j, by simp, fun i => by rw [Nat.testBit_two_pow]⟩
theorem BitsOf.test {r : Int} {P : Nat → Bool} (h : BitsOf r P) (j : Nat) : (PySem.Builtin.bitAnd (r / 2 ^ j) 1 == 1) = P j := by
  obtain ⟨a, rfl, ha⟩ := h
  have e : (a : Int) / 2 ^ j = ((a / 2 ^ j : Nat) : Int) := by simp
  rw [e, bitAnd_one, ← ha j, Nat.testBit_eq_decide_div_mod_eq]
  by_cases q : a / 2 ^ j % 2 = 1
  · rw [q]; rfl
  · have : a / 2 ^ j % 2 = 0 := by omega
    rw [this]; rfl
def IsRows (rows : List Int) (n : Nat) (R : Nat → Nat → Bool) : Prop := rows.length = n ∧ ∀ (i : Nat) r, rows[i]? = some r → BitsOf r (R i)
def stp (R : Nat → Nat → Bool) (m : Nat) : Nat → Nat → Bool := fun a b => R a b || (R a m && R m b)
def warsh (n : Nat) (R : Nat → Nat → Bool) : Nat → Nat → Bool := (List.range n).foldl stp R
theorem warsh_succ {n : Nat} {R : Nat → Nat → Bool} : (List.range (n + 1)).foldl stp R = stp ((List.range n).foldl stp R) n := by
  rw [List.range_succ, List.foldl_append]
  rfl
def prt (R : Nat → Nat → Bool) (m k : Nat) : Nat → Nat → Bool := fun a b => if a < k then stp R m a b else R a b
theorem getE_int {rows : List Int} {k : Nat} (hk : k < rows.length) : L2.atI (rows.map D.int) (k : Int) = some (.int rows[k]) := by
  rw [atI_n, List.getElem?_map, List.getElem?_eq_getElem hk]
  rfl
def Icr (d : D) (n : Nat) (R : Nat → Nat → Bool) (k : Nat) (ρ : En) : Prop := ∃ rows x2 x3 x4, ρ = [.dt d, .dt (L1 .ow rows), x2, x3, x4] ∧ IsRows rows n ((List.range k).foldl stp R)
def Icr2 (d : D) (n m : Nat) (t : Int) (S : Nat → Nat → Bool) (k : Nat) (ρ : En) : Prop := ∃ rows x4, ρ = [.dt d, .dt (L1 .ow rows), .dt (.int m), .dt (.int t), x4] ∧ IsRows rows n (prt S m k)
theorem IsRows.set {rows : List Int} {n k : Nat} {R S : Nat → Nat → Bool} {r : Int} (h : IsRows rows n R) (hr : BitsOf r (S k)) (hs : ∀ i, i ≠ k → S i = R i) : IsRows (rows.set k r) n S := by
  refine ⟨by rw [List.length_set]; exact h.1, fun i q e => ?_⟩
  by_cases z : i = k
  · subst z
    rw [List.getElem?_set] at e
    split at e
    · split at e
      · cases e; exact hr
      · cases e
    · rename_i w; exact absurd rfl w
  · rw [List.getElem?_set_ne (fun w => z w.symm)] at e
    rw [hs i z]
    exact h.2 i q e
theorem IsRows.congr {rows : List Int} {n : Nat} {R S : Nat → Nat → Bool} (h : IsRows rows n R) (hs : ∀ i, i < n → S i = R i) : IsRows rows n S := by
  refine ⟨h.1, fun i q e => ?_⟩
  have hi : i < n := by rw [← h.1]; exact (List.getElem?_eq_some_iff.mp e).1
  rw [hs i hi]
  exact h.2 i q e
theorem closed_rows_w {o : Fl} {rows : List Int} {n : Nat} {R : Nat → Nat → Bool} {K : D → En → Prop} {E : XK0} (hn : n ≤ 1000) (h : IsRows rows n R) (h1 : ∀ rows', IsRows rows' n (warsh n R) → K (L1 .ow rows') [.un]) : resW (m_closed_rows [L1 o rows]) K E := by
  rw [m_closed_rows_def]
  refine resW_run rfl ?_
  unfold d_closed_rows
  have hl := h.1
  simp [post_seq, frm]
  refine ⟨by omega, for_inv (Icr (L1 o rows) n R) ⟨rows, _, _, _, rfl, h⟩ ?_ ?_⟩
  · rintro m d ρ hm ⟨rs, x2, x3, x4, rfl, hr⟩
    obtain ⟨hm1, rfl⟩ := rng_get hm
    have hrl := hr.1
    have hm2 : m < rs.length := by omega
    unfold d_closed_rows_b2
    have e := getE_int hm2
    simp [post_seq, e]
    refine ⟨by omega, for_inv (Icr2 (L1 o rows) n m rs[m] ((List.range m).foldl stp R)) ⟨rs, _, rfl, hr.congr fun i hi => by funext b; simp [prt]⟩ ?_ ?_⟩
    · rintro k d ρ hk ⟨qs, x4, rfl, hq⟩
      obtain ⟨hk1, rfl⟩ := rng_get hk
      have hql := hq.1
      have hk2 : k < qs.length := by omega
      have ek := getE_int hk2
      generalize hS : (List.range m).foldl stp R = S at *
      have hb := hq.2 k qs[k] (List.getElem?_eq_getElem hk2)
      have hthr := hr.2 m rs[m] (List.getElem?_eq_getElem hm2)
      have ht := hb.test m
      have e0 : prt S m k k = S k := by funext b; simp [prt]
      rw [e0] at ht hb
      unfold d_closed_rows_b4
      by_cases hc : S k m = true
      · rw [hc] at ht
        have ht' := eq_of_beq ht
        simp [ek, ht', hk2]
        have es : setAt (.int (k : Int)) (.int (PySem.Builtin.bitOr qs[k] rs[m])) (qs.map D.int) = some ((qs.set k (PySem.Builtin.bitOr qs[k] rs[m])).map D.int) := by
          rw [setAt_n, if_pos (by simp [hk2]), List.map_set]
        simp [es]
        refine ⟨qs.set k (PySem.Builtin.bitOr qs[k] rs[m]), .dt (.int k), by simp [List.map_set], hq.set ?_ fun i hi => ?_⟩
        · have := hb.bor hthr
          have e1 : prt S m (k + 1) k = fun j => S k j || S m j := by
            funext b; simp [prt, stp, hc]
          rw [e1]
          exact this
        · funext b
          have : (i < k + 1) = (i < k) := by apply propext; omega
          simp [prt, this]
      · have hc : S k m = false := by simpa using hc
        rw [hc] at ht
        have ht' : ¬ PySem.Builtin.bitAnd (qs[k] / 2 ^ m) 1 = 1 := fun z => by rw [z] at ht; cases ht
        simp [ek, ht']
        refine ⟨_, _, rfl, hq.congr fun i hi => ?_⟩
        funext b
        by_cases z : i = k
        · subst z; simp [prt, stp, hc]
        · have : (i < k + 1) = (i < k) := by apply propext; omega
          simp [prt, this]
    · rintro ρ ⟨qs, x4, rfl, hq⟩
      simp
      refine ⟨_, _, _, _, rfl, ?_⟩
      rw [warsh_succ]
      refine hq.congr fun i hi => ?_
      funext b
      have : i < rs.length := by omega
      simp [prt, this]
  · rintro ρ ⟨rs, x2, x3, x4, rfl, hr⟩
    simp
    refine h1 rs ?_
    rw [rng_len, hl] at hr
    exact hr
def ixs (n : Nat) : List D := (List.range n).map fun (i : Nat) => .int (i : Int)
def baseR (zs : List Str) (ps : List (Str × Str)) : Nat → Nat → Bool := fun a b => decide (a = b) || ps.any fun p => decide (zs.idxOf p.1 = a) && decide (zs.idxOf p.2 = b)
theorem look_ix {z : Str} : ∀ {zs : List Str} {k : Nat}, z ∈ zs → look z zs ((List.range' k zs.length).map fun (i : Nat) => D.int (i : Int)) = some (.int ((k + zs.idxOf z : Nat) : Int))
  | [], _, h => by cases h
  | y :: zs, k, h => by
    rw [List.length_cons, List.range'_succ, List.map_cons, look]
    by_cases e : z = y
    · subst e
      simp
    · have e' : ¬ (z == y) = true := by simpa using e
      rw [if_neg e', look_ix ((List.mem_cons.mp h).resolve_left e), List.idxOf_cons]
      have e2 : (y == z) = false := by simpa using fun q => e q.symm
      rw [e2]
      simp
      omega
theorem look_ixs {z : Str} {zs : List Str} (h : z ∈ zs) : look z zs (ixs zs.length) = some (.int (zs.idxOf z : Int)) := by
  unfold ixs
  rw [List.range_eq_range']
  have := look_ix (k := 0) h
  simpa using this
def Ipl (zs : List Str) (e : D) (k : Nat) (acc : List Str × List D) (ρ : En) : Prop := acc = (zs.take k, ixs k) ∧ ρ = [.dt (.tup (zs.map D.str)), .dt e, .un, .un, .un, .un, .un, .un]
def Irw (zs : List Str) (e pl : D) (k : Nat) (acc : List D) (ρ : En) : Prop := (∃ rows : List Int, acc = rows.map D.int ∧ rows.length = k ∧ ∀ (i : Nat) r, rows[i]? = some r → BitsOf r (fun b => decide (i = b))) ∧ ρ = [.dt (.tup (zs.map D.str)), .dt e, .un, .un, .dt pl, .un, .un, .un]
def Ipr (zs : List Str) (e : D) (ps : List (Str × Str)) (k : Nat) (ρ : En) : Prop := ∃ rows x2 x6 x7, ρ = [.dt (.tup (zs.map D.str)), .dt (mapF flLend e), x2, .un, .dt (.dct .ow zs (ixs zs.length)), .dt (L1 .ow rows), x6, x7] ∧ IsRows rows zs.length (baseR zs (ps.take k)) ∧ noBoAt [6, 1006, 7, 1007, 2, 1002, 5] ρ = true
theorem rows_of_w {e : D} {zs : List Str} {ps : List (Str × Str)} {K : D → En → Prop} {E : XK0} (he : SeqD e (ps.map pr2)) (hn : zs.length ≤ 1000) (hnd : zs.Nodup) (hps : ∀ p ∈ ps, p.1 ∈ zs ∧ p.2 ∈ zs)
    (h1 : ∀ rows, IsRows rows zs.length (warsh zs.length (baseR zs ps)) → K (.tup (rows.map D.int)) [.un, .un]) : resW (m_rows_of [.tup (zs.map D.str), e]) K E := by
  rw [m_rows_of_def]
  refine resW_run rfl ?_
  unfold d_rows_of
  rw [post_seq]
  simp [d_rows_of_s1, frm, post_dc, noOwAt]
  refine (dc_inv (Ipl zs e) ⟨by simp [ixs], rfl⟩ ?_).mp ?_ (fun _ _ _ _ z => z.elim)
  · rintro k acc d ρ hk ⟨rfl, rfl⟩
    rw [numb_get] at hk
    cases hz : (zs.map D.str)[k]? with
    | none => rw [hz] at hk; cases hk
    | some dd =>
      obtain ⟨hk1, rfl⟩ := getE_map hz
      rw [hz] at hk
      cases hk
      simp [lim]
      refine ⟨by omega, ?_, rfl⟩
      have hnin : zs[k] ∉ zs.take k := fun q => by
        obtain ⟨j, hj⟩ := List.getElem?_of_mem q
        have hj1 : j < (zs.take k).length := (List.getElem?_eq_some_iff.mp hj).1
        rw [List.length_take] at hj1
        rw [List.getElem?_take_of_lt (by omega)] at hj
        obtain ⟨h1, h2⟩ := List.getElem?_eq_some_iff.mp hj
        exact List.pairwise_iff_getElem.mp hnd j k h1 hk1 (by omega) h2
      unfold putD
      rw [if_neg hnin, List.take_append_getElem hk1]
      unfold ixs
      rw [List.range_succ, List.map_append]
      rfl
  · rintro acc ρ ⟨rfl, rfl⟩
    rw [numb_len, List.length_map, List.take_length]
    simp [rst]
    rw [post_seq]
    simp [d_rows_of_s2, post_lc, noOwAt]
    refine ⟨by omega, (lc_inv (Irw zs e (.dct .ow zs (ixs zs.length))) ⟨⟨[], rfl, rfl, by simp⟩, rfl⟩ ?_).mp ?_ (fun _ _ _ _ z => z.elim)⟩
    · rintro k acc d ρ hk ⟨⟨rows, rfl, hl, hb⟩, rfl⟩
      obtain ⟨hk1, rfl⟩ := rng_get hk
      simp [lim]
      refine ⟨by omega, by omega, ⟨rows ++ [1 * 2 ^ k], by simp, by simp [hl], fun i r hr => ?_⟩, rfl⟩
      rcases Nat.lt_or_ge i rows.length with q | q
      · rw [List.getElem?_append_left q] at hr
        exact hb i r hr
      · rw [List.getElem?_append_right q] at hr
        have : i - rows.length = 0 := by
          rcases Nat.eq_zero_or_pos (i - rows.length) with z | z
          · exact z
          · rw [List.getElem?_eq_none (by simp; omega)] at hr; cases hr
        rw [this] at hr
        cases hr
        have : i = k := by omega
        subst this
        exact BitsOf.bit
    · rintro acc ρ ⟨⟨rows, rfl, hl, hb⟩, rfl⟩
      rw [rng_len] at hl
      simp [rst]
      rw [post_seq]
      simp [d_rows_of_s3, he.items stb_pr2, he.noOw stb_pr2]
      refine for_inv (Ipr zs e ps) ⟨rows, _, _, _, rfl, ⟨by simpa using hl, fun i r hr => ?_⟩, by simp [noBoAt]⟩ ?_ ?_
      · have := hb i r hr
        have e1 : baseR zs (ps.take 0) i = fun b => decide (i = b) := by funext b; simp [baseR]
        rw [e1]
        exact this
      · rintro k dd ρ hk ⟨rs, x2, x6, x7, rfl, hr, hnb⟩
        obtain ⟨hk1, rfl⟩ := getE_map hk
        obtain ⟨m1, m2⟩ := hps _ (List.getElem_mem hk1)
        have htk : ps.take (k + 1) = ps.take k ++ [ps[k]] := (List.take_append_getElem hk1).symm
        generalize ps[k] = p at *
        have i1 : zs.idxOf p.1 < rs.length := by rw [hr.1]; exact List.idxOf_lt_length_of_mem m1
        have i2 : zs.idxOf p.2 < zs.length := List.idxOf_lt_length_of_mem m2
        have ea := getE_int i1
        have es : ∀ r : Int, setAt (.int (zs.idxOf p.1 : Int)) (.int r) (rs.map D.int) = some ((rs.set (zs.idxOf p.1) r).map D.int) := fun r => by
          rw [setAt_n, if_pos (by simp [i1]), List.map_set]
        unfold d_rows_of_b3
        simp [post_seq, look_ixs m1, look_ixs m2, ea, es]
        refine ⟨by omega, ?_⟩
        refine ⟨rs.set (zs.idxOf p.1) (PySem.Builtin.bitOr rs[zs.idxOf p.1] (1 * 2 ^ zs.idxOf p.2)), .dt (.int (zs.idxOf p.1 : Int)), .dt (.str p.1), .dt (.str p.2), by simp [List.map_set], hr.set ?_ fun i hi => ?_, by rw [← List.map_set]; simp [noBoAt, -List.map_set]⟩
        · have b1 := (hr.2 _ _ (List.getElem?_eq_getElem i1)).bor (BitsOf.bit (j := zs.idxOf p.2))
          have e1 : baseR zs (ps.take (k + 1)) (zs.idxOf p.1) = fun j => baseR zs (ps.take k) (zs.idxOf p.1) j || decide (zs.idxOf p.2 = j) := by
            funext j
            rw [htk]
            simp [baseR, Bool.or_assoc]
          rw [e1]
          exact b1
        · funext b
          have hi' : ¬ zs.idxOf p.1 = i := fun z => hi z.symm
          rw [htk]
          simp [baseR, hi']
      · rintro ρ ⟨rs, x2, x6, x7, rfl, hr, hnb⟩
        rw [List.length_map, List.take_length] at hr
        simp [hnb, flwOk]
        simp [d_rows_of_s4]
        refine closed_rows_w hn hr fun rows' hr' => ?_
        simp
        exact h1 rows' hr'
abbrev ordD (o : Fl) (zs : List Str) (rows : List Int) : D := .obj o "Order" ["names", "rows"] [.tup (zs.map D.str), .tup (rows.map D.int)]
theorem firstBad_none : ∀ {zs sn : List Str}, firstBad sn zs = none → (∀ z ∈ zs, goodN z = true) ∧ zs.Nodup ∧ ∀ z ∈ zs, z ∉ sn
  | [], _, _ => ⟨by simp, .nil, by simp⟩
  | z :: zs, sn, h => by
    unfold firstBad at h
    split at h
    · cases h
    · rename_i hg
      split at h
      · cases h
      · rename_i hm
        obtain ⟨h1, h2, h3⟩ := firstBad_none h
        refine ⟨fun y hy => ?_, List.nodup_cons.mpr ⟨fun q => ?_, h2⟩, fun y hy => ?_⟩
        · rcases List.mem_cons.mp hy with rfl | q
          · simpa using hg
          · exact h1 y q
        · exact h3 z q (List.mem_append.mpr (.inr (List.mem_singleton.mpr rfl)))
        · rcases List.mem_cons.mp hy with rfl | q
          · exact hm
          · exact fun w => h3 y q (List.mem_append.mpr (.inl w))
theorem firstUnk_none {zs : List Str} : ∀ {ps : List (Str × Str)}, (∀ p ∈ ps, p.1 ∈ zs ∧ p.2 ∈ zs) → firstUnk zs (flatP ps) = none
  | [], _ => rfl
  | p :: ps, h => by
    obtain ⟨h1, h2⟩ := h p (by simp)
    rw [flatP, firstUnk, firstUnk, if_pos h1, if_pos h2]
    exact firstUnk_none fun q hq => h q (by simp [hq])
theorem outs_03 {d : D} {x y : Sl} {r : En} (h : allF noBo d = true) : outs [0] 3 (.dt d :: x :: y :: r) = [.dt d, .un, .un] := by
  simp [outs, List.range_succ, h]
theorem ne_nr : ¬ (Str.ofString "names" = Str.ofString "rows") := by decide +kernel
theorem order_w {d e : D} {zs : List Str} {ps : List (Str × Str)} {K : D → En → Prop} {E : XK0} (hd : SeqD d (zs.map D.str)) (he : SeqD e (ps.map pr2)) (hl : ∀ z ∈ zs, z.length ≤ lim)
    (h1 : ∀ rows, zs.length ≤ 12 → firstBad [] zs = none → (∀ p ∈ ps, p.1 ∈ zs ∧ p.2 ∈ zs) → IsRows rows zs.length (warsh zs.length (baseR zs ps)) → K (ordD .ow zs rows) [.un, .un])
    (h2 : 12 < zs.length → E "Full" ["most"] [.int 12] [.un, .un])
    (h3 : ∀ c z, zs.length ≤ 12 → firstBad [] zs = some (c, z) → E c ["name"] [.str z] [.un, .un])
    (h4 : ∀ n, zs.length ≤ 12 → firstBad [] zs = none → firstUnk zs (flatP ps) = some n → E "UnknownMake" ["name"] [.str n] [.un, .un]) :
    mkW (m_Order___init__ [.obj .ow "Order" [] [], d, e]) K E := by
  rw [m_Order___init___def]
  refine mkW_of (resW_run rfl ?_)
  unfold d_Order___init__
  rw [post_seq]
  simp [d_Order___init___s1, frm]
  refine check_makes_w (hd.lend stb_strs) hl (.inr trivial) (fun hn hb => ?_) (fun hn => ?_) (fun c z hn hb => ?_)
  · rw [post_seq]
    simp [d_Order___init___s2]
    refine check_pairs_w (hd.lend stb_strs) (he.lend stb_pr2) (fun hall => ?_) (fun n hu => ?_)
    · rw [post_seq]
      obtain ⟨hg, hnd, _⟩ := firstBad_none hb
      have key : ∀ o : D, o = .obj .ow "Order" ["names"] [.tup (zs.map D.str)] → Post (flK [0] 3 fun d os => d = .non ∧ ∃ o os', os = .dt o :: os' ∧ K o os') (fun c ks xs ρ => ∃ s os', outs [0] 3 ρ = s :: os' ∧ E c ks xs os') (d_Order___init___s4 [.dt o, .dt d, .dt e]) := by
        rintro o rfl
        simp [d_Order___init___s4, pFld_o, look]
        refine rows_of_w (he.lend stb_pr2) (by omega) hnd hall fun rows hr => ?_
        simp [putL, ne_nr]
        rw [outs_03 (by simp)]
        exact ⟨_, _, rfl, h1 rows hn hb hall hr⟩
      rcases hd.tup stb_strs with q | q
      · simp [d_Order___init___s3, q, putL]
        exact key _ rfl
      · simp [d_Order___init___s3, q, putL]
        exact key _ rfl
    · rw [outs_03 (by simp)]
      exact ⟨_, _, rfl, h4 n hn hb hu⟩
  · rw [outs_03 (by simp)]
    exact ⟨_, _, rfl, h2 hn⟩
  · rw [outs_03 (by simp)]
    exact ⟨_, _, rfl, h3 c z hn hb⟩
theorem str_app {a b : Str} : (a ++ b).cps.toList = a.cps.toList ++ b.cps.toList := by
  show (a.cps ++ b.cps).toList = _
  simp
theorem str_len {a b : Str} : (a ++ b).length = a.length + b.length := by
  show (a.cps ++ b.cps).size = _
  simp [Str.length]
def wx (w : Str) : Nat → Str
  | 0 => w
  | j + 1 => wx w j ++ "x"
theorem wx_len {w : Str} : ∀ {j : Nat}, (wx w j).length = w.length + j
  | 0 => rfl
  | j + 1 => by
    rw [wx, str_len, wx_len]
    rfl
theorem nodup_len {α : Type} [BEq α] [LawfulBEq α] : ∀ {l zs : List α}, l.Nodup → (∀ x ∈ l, x ∈ zs) → l.length ≤ zs.length
  | [], _, _, _ => Nat.zero_le _
  | x :: l, zs, hn, h => by
    obtain ⟨h1, h2⟩ := List.nodup_cons.mp hn
    have hx := h x (by simp)
    have := nodup_len (l := l) (zs := zs.erase x) h2 fun y hy => (List.mem_erase_of_ne fun e => h1 (by rw [← e]; exact hy)).mpr (h y (by simp [hy]))
    rw [List.length_erase_of_mem hx] at this
    have hpos : 0 < zs.length := List.length_pos_of_mem hx
    rw [List.length_cons]
    omega
theorem wx_nodup {w : Str} {n : Nat} : ((List.range n).map (wx w)).Nodup := by
  unfold List.Nodup
  rw [List.pairwise_map]
  refine List.Pairwise.imp ?_ (List.nodup_range (n := n))
  intro a b hab e
  have := congrArg Str.length e
  rw [wx_len, wx_len] at this
  omega
def Lets (z : Str) : Prop := ∀ c ∈ z.cps.toList, c ∈ abc.cps.toList
theorem lets_app {a b : Str} (ha : Lets a) (hb : Lets b) : Lets (a ++ b) := fun c hc => by
  rw [str_app] at hc
  exact (List.mem_append.mp hc).elim (ha c) (hb c)
theorem lets_wx {w : Str} (h : Lets w) : ∀ {j : Nat}, Lets (wx w j)
  | 0 => h
  | j + 1 => lets_app (lets_wx h) (by unfold Lets; decide +kernel)
theorem good_lets {z : Str} (h1 : 1 ≤ z.length) (h2 : z.length ≤ 12) (h : Lets z) : goodN z = true := good_of h1 h2 fun j c _ hc => h c (List.mem_of_getElem? hc)
def EndX (z : Str) : Prop := z.length ≤ 4 ∨ ∃ w : Str, z = w ++ "x"
theorem wx_end {w : Str} (h : w.length ≤ 4) : ∀ {j : Nat}, EndX (wx w j)
  | 0 => .inl h
  | j + 1 => .inr ⟨wx w j, rfl⟩
def NameP (zs : List Str) (z : Str) : Prop := 1 ≤ z.length ∧ z.length ≤ 4 + zs.length ∧ Lets z ∧ z ∉ zs ∧ EndX z
def Iln (o : Fl) (zs : List Str) (k : Nat) (ρ : En) : Prop := ∃ d w x, BoxP d ∧ w.length = k ∧ Lets w ∧ ρ = [.dt d, .dt (.lst o (zs.map D.str)), .dt (.str abc), .dt (.str w), x]
def Iln2 (d : D) (o : Fl) (zs : List Str) (w : Str) (k : Nat) (ρ : En) : Prop := ∃ j x, j ≤ k ∧ ((j = k ∧ ∀ i, i < k → wx w i ∈ zs) ∨ wx w j ∉ zs) ∧ ρ = [.dt d, .dt (.lst o (zs.map D.str)), .dt (.str abc), .dt (.str (wx w j)), x]
theorem law_name_w {d : D} {o : Fl} {zs : List Str} {K : D → En → Prop} {E : XK0} (hd : BoxP d) (hn : zs.length ≤ 1000) (hK : ∀ z d', NameP zs z → BoxP d' → K (.str z) [.dt d', .un]) : resW (m_law_name [d, .lst o (zs.map D.str)]) K E := by
  rw [m_law_name_def]
  refine resW_run rfl ?_
  unfold d_law_name
  rw [post_seq]
  simp [d_law_name_s1, frm]
  rw [post_seq]
  simp [d_law_name_s2]
  rw [post_seq]
  simp [d_law_name_s3]
  refine take_w hd (by omega) (by omega) fun r d1 r0 r1 hd1 => ?_
  simp
  have hl0 : Lets "" := by unfold Lets; decide +kernel
  refine ⟨by omega, for_inv (Iln o zs) ⟨d1, "", _, hd1, by decide +kernel, hl0, rfl⟩ ?_ ?_⟩
  · rintro k dd ρ hk ⟨d2, w, x, hd2, hw, hlw, rfl⟩
    obtain ⟨hk1, rfl⟩ := rng_get hk
    unfold d_law_name_b3
    simp
    refine take_w hd2 (by omega) (by omega) fun i d3 i0 i1 hd3 => ?_
    obtain ⟨m, rfl⟩ : ∃ m : Nat, i = (m : Int) := ⟨i.toNat, by omega⟩
    have hm : m < abc.cps.toList.length := by
      have : abc.cps.toList.length = 26 := by decide +kernel
      omega
    obtain ⟨c, e, hc⟩ : ∃ c, L2.atI abc.cps.toList (m : Int) = some c ∧ c ∈ abc.cps.toList := ⟨abc.cps.toList[m], by rw [atI_n, List.getElem?_eq_getElem hm], List.getElem_mem hm⟩
    have hab : abc.length ≤ lim := by decide +kernel
    have hsg : Lets ⟨#[c]⟩ := fun y hy => by
      rw [List.mem_singleton.mp hy]
      exact hc
    have hl1 : (⟨#[c]⟩ : Str).length = 1 := rfl
    simp [e, hab]
    refine ⟨by rw [hl1]; unfold lim; omega, ?_⟩
    exact ⟨d3, w ++ ⟨#[c]⟩, _, hd3, by rw [str_len, hl1, hw], lets_app hlw hsg, rfl⟩
  · rintro ρ ⟨d2, w, x, hd2, hw, hlw, rfl⟩
    simp at hw
    simp
    rw [post_seq]
    simp [d_law_name_s4]
    refine ⟨by omega, for_inv (Iln2 d2 o zs w) ⟨0, _, by omega, .inl ⟨rfl, by omega⟩, rfl⟩ ?_ ?_⟩
    · rintro k dd ρ hk ⟨j, x, hj, hor, rfl⟩
      obtain ⟨hk1, rfl⟩ := rng_get hk
      unfold d_law_name_b5
      by_cases hm : wx w j ∈ zs
      · rcases hor with ⟨rfl, hall⟩ | hno
        · have hlx : (Str.ofString "x").length = 1 := by decide +kernel
          simp [hm, wx_len, hlx]
          refine ⟨by unfold lim; omega, j + 1, _, by omega, .inl ⟨rfl, fun i hi => ?_⟩, rfl⟩
          rcases Nat.lt_or_ge i j with q | q
          · exact hall i q
          · have : i = j := by omega
            subst this; exact hm
        · exact absurd hm hno
      · simp [hm]
        exact ⟨j, _, by omega, .inr hm, rfl⟩
    · rintro ρ ⟨j, x, hj, hor, rfl⟩
      rw [rng_len] at hj hor
      have hj' : j ≤ zs.length := by simpa using hj
      have hno : wx w j ∉ zs := by
        rcases hor with ⟨e, hall⟩ | hno
        · intro hm
          have hsub : ∀ y ∈ (List.range (zs.length + 1)).map (wx w), y ∈ zs := fun y hy => by
            obtain ⟨i, hi, rfl⟩ := List.mem_map.mp hy
            rw [List.mem_range] at hi
            rcases Nat.lt_or_ge i j with q | q
            · exact hall i (by rw [← e]; exact q)
            · have : i = j := by omega
              subst this; exact hm
          have := nodup_len wx_nodup hsub
          simp at this
          omega
        · exact hno
      simp [d_law_name_s5]
      rw [outs_02 hd2.noBo]
      refine hK _ _ ⟨?_, ?_, lets_wx hlw, hno, wx_end (by omega)⟩ hd2
      · rw [wx_len]; omega
      · rw [wx_len]; omega
structure NamesP (zs : List Str) : Prop where
  nd : zs.Nodup
  le : zs.length ≤ 8
  g : ∀ z ∈ zs, goodN z = true
  l : ∀ z ∈ zs, z.length ≤ 12
  x : ∀ z ∈ zs, EndX z
theorem NamesP.lim {zs : List Str} (h : NamesP zs) : ∀ z ∈ zs, z.length ≤ Cs.lim := fun z hz => Nat.le_trans (h.l z hz) (by decide)
theorem good_none : ∀ {zs sn : List Str}, (∀ z ∈ zs, goodN z = true) → zs.Nodup → (∀ z ∈ zs, z ∉ sn) → firstBad sn zs = none
  | [], _, _, _, _ => rfl
  | z :: zs, sn, h1, h2, h3 => by
    obtain ⟨n1, n2⟩ := List.nodup_cons.mp h2
    rw [firstBad, if_neg (by rw [h1 z (by simp)]; simp), if_neg (h3 z (by simp))]
    refine good_none (fun y hy => h1 y (by simp [hy])) n2 fun y hy hm => ?_
    rcases List.mem_append.mp hm with q | q
    · exact h3 y (by simp [hy]) q
    · rw [List.mem_singleton.mp q] at hy
      exact n1 hy
theorem NamesP.none {zs : List Str} (h : NamesP zs) : firstBad [] zs = Option.none := good_none h.g h.nd (by simp)
def Ins (n : Nat) (k : Nat) (ρ : En) : Prop := ∃ (d : D) (zs : List Str) (x : Sl), BoxP d ∧ zs.length = k ∧ NamesP zs ∧ ρ = [.dt d, .dt (.int n), .dt (.lst .ow (zs.map D.str)), x]
theorem NamesP.snoc {zs : List Str} {z : Str} (h : NamesP zs) (hl : zs.length < 8) (hz : NameP zs z) : NamesP (zs ++ [z]) := by
  obtain ⟨h1, h2, h3, h4, h5⟩ := hz
  refine ⟨List.nodup_append.mpr ⟨h.nd, by simp, fun a ha b hb e => ?_⟩, by simp; omega, fun y hy => ?_, fun y hy => ?_, fun y hy => ?_⟩
  · rw [List.mem_singleton.mp hb] at e
    exact h4 (by rw [← e]; exact ha)
  · rcases List.mem_append.mp hy with q | q
    · exact h.g y q
    · rw [List.mem_singleton.mp q]; exact good_lets h1 (by omega) h3
  · rcases List.mem_append.mp hy with q | q
    · exact h.l y q
    · rw [List.mem_singleton.mp q]; omega
  · rcases List.mem_append.mp hy with q | q
    · exact h.x y q
    · rw [List.mem_singleton.mp q]; exact h5
theorem names_w {d : D} {n : Nat} {K : D → En → Prop} {E : XK0} (hd : BoxP d) (hn : n ≤ 8) (hK : ∀ (zs : List Str) d', zs.length = n → NamesP zs → BoxP d' → K (.lst .ow (zs.map D.str)) [.dt d', .un]) : resW (m_law_names [d, .int n]) K E := by
  rw [m_law_names_def]
  refine resW_run rfl ?_
  unfold d_law_names
  simp [post_seq, frm, lim]
  refine ⟨by omega, for_inv (Ins n) ⟨d, [], _, hd, rfl, ⟨.nil, by simp, by simp, by simp, by simp⟩, rfl⟩ ?_ ?_⟩
  · rintro k dd ρ hk ⟨d2, zs, x, hd2, hl, hz, rfl⟩
    obtain ⟨hk1, rfl⟩ := rng_get hk
    unfold d_law_names_b2
    simp
    refine law_name_w hd2 (by omega) fun z d3 hz3 hd3 => ?_
    simp [lim]
    exact ⟨by omega, d3, zs ++ [z], _, hd3, by simp [hl], hz.snoc (by omega) hz3, by simp; rfl⟩
  · rintro ρ ⟨d2, zs, x, hd2, hl, hz, rfl⟩
    simp at hl
    simp
    rw [outs_02 hd2.noBo]
    exact hK zs d2 hl hz hd2
abbrev ip (q : Nat × Nat) : D := .tup [.int q.1, .int q.2]
theorem allFs_ip {p : Fl → Bool} : ∀ {qs : List (Nat × Nat)}, allFs p (qs.map ip) = true
  | [] => rfl
  | q :: qs => by rw [List.map_cons, allFs, allFs_ip]; rfl
theorem mapFs_ip {g : Fl → Fl} : ∀ {qs : List (Nat × Nat)}, mapFs g (qs.map ip) = qs.map ip
  | [] => by rw [List.map_nil, mapFs]
  | q :: qs => by rw [List.map_cons, mapFs, mapFs_ip, mapF_t, mapFs, mapFs, mapFs, mapF_int, mapF_int]
def QsP (n : Nat) (qs : List (Nat × Nat)) : Prop := ∀ q ∈ qs, q.1 < n ∧ q.2 < n
def nmd (zs : List Str) (q : Nat × Nat) : Str × Str := (zs.getD q.1 "", zs.getD q.2 "")
theorem at_str {zs : List Str} {i : Nat} (h : i < zs.length) : L2.atI (zs.map D.str) (i : Int) = some (.str (zs.getD i "")) := by
  rw [atI_n, List.getElem?_map, List.getElem?_eq_getElem h, List.getD_eq_getElem?_getD, List.getElem?_eq_getElem h]
  rfl
def nms (zs : List Str) (qs : List (Nat × Nat)) : List (Str × Str) := qs.map (nmd zs)
def Idp (n c : Nat) (k : Nat) (ρ : En) : Prop := ∃ (d : D) (qs : List (Nat × Nat)) (x4 x5 : Sl), BoxP d ∧ qs.length = k ∧ QsP n qs ∧ ρ = [.dt d, .dt (.int n), .dt (.int c), .dt (.lst .ow (qs.map ip)), x4, x5]
theorem drawn_e {d : D} {n c : Nat} {ni ci : Int} {K : D → En → Prop} {E : XK0} (hd : BoxP d) (hni : (n : Int) = ni) (hci : (c : Int) = ci) (hn : n ≤ 1000) (hc : c ≤ 1000) (hK : ∀ (qs : List (Nat × Nat)) d', qs.length = c * min n 1 → QsP n qs → BoxP d' → K (.lst .ow (qs.map ip)) [.dt d', .un, .un]) : resW (m_law_drawn_pairs [d, .int ni, .int ci]) K E := by
  rw [m_law_drawn_pairs_def]
  refine resW_run rfl ?_
  subst hni hci
  unfold d_law_drawn_pairs
  have hmin : pMin (.int (n : Int)) (.int 1) = .sc (.int ((min n 1 : Nat) : Int)) := by
    unfold pMin
    dsimp only
    by_cases h : (1 : Int) < (n : Int)
    · rw [if_pos h]; congr 2; omega
    · rw [if_neg h]; congr 2; omega
  have hmul : (c : Int) * ((min n 1 : Nat) : Int) = ((c * min n 1 : Nat) : Int) := by simp
  have hle : c * min n 1 ≤ c := by
    rcases Nat.eq_zero_or_pos n with h | h
    · subst h; simp
    · rw [Nat.min_eq_right h]; simp
  have hr1 : (-(2 ^ 64) < (c : Int) ∧ (c : Int) < 2 ^ 64) := by omega
  have hmul2 : pMul (.int (c : Int)) (.int ((min n 1 : Nat) : Int)) = .sc (.int ((c * min n 1 : Nat) : Int)) := by
    rw [pMul_i, if_pos (.inl hr1), hmul]
  simp only [post_seq, frm, post_asg, post_lst, post_nil, List.map, List.replicate, List.append, seqK_nx, post_for, post_rg1, post_op2vv, post_cp, post_ret]
  simp [lim, hmin, hmul2]
  refine ⟨by omega, for_inv (Idp n c) ⟨d, [], _, _, hd, rfl, by simp [QsP], rfl⟩ ?_ ?_⟩
  · rintro k dd ρ hk ⟨d2, qs, x4, x5, hd2, hl, hq, rfl⟩
    obtain ⟨hk1, rfl⟩ := rng_get hk
    have hpos : 0 < n := by
      rcases Nat.eq_zero_or_pos n with h | h
      · subst h; simp at hk1
      · exact h
    unfold d_law_drawn_pairs_b2
    simp [post_seq]
    refine take_w hd2 (by omega) (by omega) fun i d3 i0 i1 hd3 => ?_
    simp
    refine take_w hd3 (by omega) (by omega) fun j d4 j0 j1 hd4 => ?_
    obtain ⟨a, rfl⟩ : ∃ m : Nat, i = (m : Int) := ⟨i.toNat, by omega⟩
    obtain ⟨b, rfl⟩ : ∃ m : Nat, j = (m : Int) := ⟨j.toNat, by omega⟩
    simp [lim]
    refine ⟨by omega, d4, qs ++ [(a, b)], _, _, hd4, by simp [hl], fun q hq' => ?_, by simp; exact ⟨rfl, rfl⟩⟩
    rcases List.mem_append.mp hq' with z | z
    · exact hq q z
    · rw [List.mem_singleton.mp z]; exact ⟨by omega, by omega⟩
  · rintro ρ ⟨d2, qs, x4, x5, hd2, hl, hq, rfl⟩
    rw [rng_len] at hl
    simp
    rw [outs_03 hd2.noBo]
    exact ⟨allFs_ip, hK qs d2 hl hq hd2⟩
theorem drawn_w {d : D} {n c : Nat} {ni ci : Int} {K : D → En → Prop} {E : XK0} (hd : BoxP d) (hni : (n : Int) = ni) (hci : (c : Int) = ci) (hn : n ≤ 1000) (hc : c ≤ 1000) (hK : ∀ (qs : List (Nat × Nat)) d', qs.length ≤ c → QsP n qs → BoxP d' → K (.lst .ow (qs.map ip)) [.dt d', .un, .un]) : resW (m_law_drawn_pairs [d, .int ni, .int ci]) K E :=
  drawn_e hd hni hci hn hc fun qs d' hl => hK qs d' (by
    rcases Nat.eq_zero_or_pos n with h | h
    · subst h
      have : c * min 0 1 = 0 := by simp
      omega
    · have : c * min n 1 = c := by rw [Nat.min_eq_right h, Nat.mul_one]
      omega)
def Inm (zs : List Str) (qs : List (Nat × Nat)) (o1 o2 : Fl) (k : Nat) (acc : List D) (ρ : En) : Prop := acc = (nms zs (qs.take k)).map pr2 ∧ ρ = [.dt (.lst o1 (zs.map D.str)), .dt (.lst o2 (qs.map ip)), .un]
theorem named_w {o1 o2 : Fl} {zs : List Str} {qs : List (Nat × Nat)} {K : D → En → Prop} {E : XK0} (hq : QsP zs.length qs) (hl : qs.length ≤ 1000) (h : K (.lst .ow ((nms zs qs).map pr2)) [.un, .un]) : resW (m_law_named [.lst o1 (zs.map D.str), .lst o2 (qs.map ip)]) K E := by
  rw [m_law_named_def]
  refine resW_run rfl ?_
  unfold d_law_named
  have hno : noOw (flLend o2) = true := by cases o2 <;> rfl
  simp [frm, mapFs_ip, allFs_ip, hno, post_lc, noOwAt]
  refine (lc_inv (Inm zs qs o1 (flLend o2)) ⟨by simp [nms], rfl⟩ ?_).mp ?_ (fun _ _ _ _ z => z.elim)
  · rintro k acc d ρ hk ⟨rfl, rfl⟩
    obtain ⟨hk1, rfl⟩ := getE_map hk
    obtain ⟨q1, q2⟩ := hq _ (List.getElem_mem hk1)
    have htk : qs.take (k + 1) = qs.take k ++ [qs[k]] := (List.take_append_getElem hk1).symm
    generalize qs[k] = q at *
    simp [at_str q1, at_str q2, lim]
    refine ⟨by simp [nms]; omega, ?_, rfl⟩
    rw [htk]
    simp [nms, nmd]
  · rintro acc ρ ⟨rfl, rfl⟩
    rw [List.length_map, List.take_length]
    simp [rst, noBoAt, flwOk]
    exact h
abbrev bls (n : Nat) (P : Nat → Bool) : List D := (List.range n).map fun b => D.bl (P b)
abbrev matL (p : Fl) (n k : Nat) (R : Nat → Nat → Bool) : List D := (List.range k).map fun a => D.lst p (bls n (R a))
abbrev matD (o p : Fl) (n : Nat) (R : Nat → Nat → Bool) : D := .lst o (matL p n n R)
def baseQ (qs : List (Nat × Nat)) : Nat → Nat → Bool := fun a b => decide (a = b) || qs.any fun q => decide (q.1 = a) && decide (q.2 = b)
theorem allFs_bls {p : Fl → Bool} {P : Nat → Bool} : ∀ {n : Nat}, allFs p (bls n P) = true
  | 0 => rfl
  | n + 1 => by
    show allFs p ((List.range (n + 1)).map _) = true
    rw [List.range_succ, List.map_append, allFs_append, allFs_bls]
    rfl
theorem mapFs_bls {g : Fl → Fl} {P : Nat → Bool} : ∀ {n : Nat}, mapFs g (bls n P) = bls n P
  | 0 => by
    show mapFs g [] = []
    rw [mapFs]
  | n + 1 => by
    show mapFs g ((List.range (n + 1)).map _) = (List.range (n + 1)).map _
    rw [List.range_succ, List.map_append, mapFs_append, mapFs_bls]
    simp
theorem mapFs_mat {g : Fl → Fl} {p : Fl} {n : Nat} {R : Nat → Nat → Bool} : ∀ {k : Nat}, mapFs g (matL p n k R) = matL (g p) n k R
  | 0 => by
    show mapFs g [] = []
    rw [mapFs]
  | k + 1 => by
    show mapFs g ((List.range (k + 1)).map _) = (List.range (k + 1)).map _
    rw [List.range_succ, List.map_append, List.map_append, mapFs_append, mapFs_mat, List.map_singleton, List.map_singleton, mapFs_cns, mapFs_nil, mapF_l, mapFs_bls]
theorem allFs_mat {p : Fl → Bool} {q : Fl} {n : Nat} {R : Nat → Nat → Bool} (h : p q = true) : ∀ {k : Nat}, allFs p (matL q n k R) = true
  | 0 => rfl
  | k + 1 => by
    show allFs p ((List.range (k + 1)).map _) = true
    rw [List.range_succ, List.map_append, allFs_append, allFs_mat h, List.map_singleton, allFs_cns, allFs_nil, allF_l, h, allFs_bls]
    rfl
theorem bls_get {n i : Nat} {P : Nat → Bool} (h : i < n) : (bls n P)[i]? = some (.bl (P i)) := by simp [h]
theorem mat_get {p : Fl} {n k i : Nat} {R : Nat → Nat → Bool} (h : i < k) : (matL p n k R)[i]? = some (.lst p (bls n (R i))) := by simp [h]
theorem mat_at {p : Fl} {n k i : Nat} {R : Nat → Nat → Bool} (h : i < k) : L2.atI (matL p n k R) (i : Int) = some (.lst p (bls n (R i))) := by rw [atI_n, mat_get h]
theorem bls_at {n i : Nat} {P : Nat → Bool} (h : i < n) : L2.atI (bls n P) (i : Int) = some (.bl (P i)) := by rw [atI_n, bls_get h]
theorem bls_len {n : Nat} {P : Nat → Bool} : (bls n P).length = n := by simp
theorem mat_len {p : Fl} {n k : Nat} {R : Nat → Nat → Bool} : (matL p n k R).length = k := by simp
theorem mat_congr {p : Fl} {n k : Nat} {R S : Nat → Nat → Bool} (h : ∀ i, i < k → ∀ j, j < n → R i j = S i j) : matL p n k R = matL p n k S := by
  apply List.map_congr_left
  intro i hi
  have hi := List.mem_range.mp hi
  congr 1
  apply List.map_congr_left
  intro j hj
  rw [h i hi j (List.mem_range.mp hj)]
def upR (R : Nat → Nat → Bool) (a b : Nat) : Nat → Nat → Bool := fun i j => R i j || (decide (i = a) && decide (j = b))
theorem mat_set {n a b : Nat} {R : Nat → Nat → Bool} (ha : a < n) (hb : b < n) : setAt2 (.int (a : Int)) (.int (b : Int)) (.bl true) (matL .ow n n R) = some (matL .ow n n (upR R a b)) := by
  unfold setAt2
  rw [inner_n (mat_get ha) allFs_bls]
  dsimp only [Option.bind_some]
  rw [setAt_n, if_pos ⟨by rw [bls_len]; exact hb, allFs_bls, rfl⟩]
  dsimp only [Option.map_some]
  congr 1
  apply List.ext_getElem?
  intro i
  by_cases hi : i < n
  · rw [mat_get hi, List.getElem?_set]
    by_cases e : a = i
    · subst e
      rw [if_pos rfl, if_pos (by rw [mat_len]; exact hi)]
      congr 2
      apply List.ext_getElem?
      intro j
      by_cases hj : j < n
      · rw [bls_get hj, List.getElem?_set]
        by_cases e2 : b = j
        · subst e2
          rw [if_pos rfl, if_pos (by rw [bls_len]; exact hj)]
          simp [upR]
        · rw [if_neg e2, bls_get hj]
          have : ¬ j = b := fun z => e2 z.symm
          simp [upR, this]
      · rw [List.getElem?_eq_none (by rw [List.length_set, bls_len]; omega), List.getElem?_eq_none (by rw [bls_len]; omega)]
    · rw [if_neg e, mat_get hi]
      have : ¬ i = a := fun z => e z.symm
      have e3 : upR R a b i = R i := by funext j; simp [upR, this]
      rw [e3]
  · rw [List.getElem?_eq_none (by rw [List.length_set, mat_len]; omega), List.getElem?_eq_none (by rw [mat_len]; omega)]
theorem mat_in {n a : Nat} {R : Nat → Nat → Bool} (ha : a < n) : inner (.int (a : Int)) (matL .ow n n R) = some (a, bls n (R a)) := inner_n (mat_get ha) allFs_bls
@[simp] theorem post_truv {f : M D} {Q : Bool → En → Prop} {X : XK0} {ρ : En} : Post Q X (dTru (.v f) ρ) = Post (fun d ρ1 => opW (tru d) fun b => Q b ρ1) X (f ρ) := by
  unfold dTru
  rw [post_bnd]
  congr 1
  funext d ρ1
  cases tru d <;> rfl
@[simp] theorem tru_bl {b : Bool} : tru (.bl b) = some b := rfl
def Ecl (n : Nat) (e : D) (m : D) (x3 x4 x5 x6 : Sl) : En := [.dt (.int n), .dt e, .dt m, x3, x4, x5, x6]
def Ic1 (n : Nat) (e : D) (k : Nat) (ρ : En) : Prop := ∃ x3, ρ = Ecl n e (.lst .ow (matL .ow n k fun a b => decide (a = b))) x3 .un .un .un
def Ic1b (n k : Nat) (e m : D) (j : Nat) (acc : List D) (ρ : En) : Prop := acc = bls j (fun b => decide (k = b)) ∧ ρ = Ecl n e m (.dt (.int k)) .un .un .un
def Ic2 (n : Nat) (e : D) (qs : List (Nat × Nat)) (x3 : Sl) (k : Nat) (ρ : En) : Prop := ∃ x5, ρ = Ecl n e (matD .ow .ow n (baseQ (qs.take k))) x3 .un x5 .un ∧ noBoAt [5, 1005, 2] ρ = true
def prtQ (S : Nat → Nat → Bool) (m a k : Nat) : Nat → Nat → Bool := fun i j => if i < a then stp S m i j else if i = a then (S i j || (decide (j < k) && (S i m && S m j))) else S i j
def Ic3 (n : Nat) (e : D) (R : Nat → Nat → Bool) (x5 : Sl) (k : Nat) (ρ : En) : Prop := ∃ x3 x4 x6, ρ = Ecl n e (matD .ow .ow n ((List.range k).foldl stp R)) x3 x4 x5 x6
def Ic4 (n : Nat) (e : D) (S : Nat → Nat → Bool) (m : Nat) (x5 : Sl) (a : Nat) (ρ : En) : Prop := ∃ x3 x4, ρ = Ecl n e (matD .ow .ow n (prtQ S m a 0)) x3 x4 x5 (.dt (.int m))
def Ic5 (n : Nat) (e : D) (S : Nat → Nat → Bool) (m a : Nat) (x5 : Sl) (b : Nat) (ρ : En) : Prop := ∃ x4, ρ = Ecl n e (matD .ow .ow n (prtQ S m a b)) (.dt (.int a)) x4 x5 (.dt (.int m))
theorem prtQ_rm {S : Nat → Nat → Bool} {m a k j : Nat} : prtQ S m a k m j = S m j := by
  unfold prtQ stp
  split
  · cases h1 : S m j <;> cases h2 : S m m <;> simp
  · split
    · cases h1 : S m j <;> simp
    · rfl
theorem baseQ_snoc {qs : List (Nat × Nat)} {q : Nat × Nat} : baseQ (qs ++ [q]) = upR (baseQ qs) q.1 q.2 := by
  funext a b
  have e1 : decide (q.1 = a) = decide (a = q.1) := by simp [eq_comm]
  have e2 : decide (q.2 = b) = decide (b = q.2) := by simp [eq_comm]
  simp [baseQ, upR, e1, e2, Bool.or_assoc]
theorem closed_w {e : D} {n : Nat} {o : Fl} {qs : List (Nat × Nat)} {K : D → En → Prop} {E : XK0} (he : e = .lst o (qs.map ip)) (hn : n ≤ 1000) (hq : QsP n qs) (h : K (matD .ow .ow n (warsh n (baseQ qs))) [.un, .un]) : resW (m_law_closed [.int n, e]) K E := by
  generalize hni : (n : Int) = ni
  rw [m_law_closed_def]
  refine resW_run rfl ?_
  subst hni
  unfold d_law_closed
  rw [post_seq]
  simp [d_law_closed_s1, frm, lim]
  rw [post_seq]
  simp [d_law_closed_s2]
  refine ⟨by omega, for_inv (Ic1 n e) ⟨_, rfl⟩ ?_ ?_⟩
  · rintro k d ρ hk ⟨x3, rfl⟩
    obtain ⟨hk1, rfl⟩ := rng_get hk
    unfold d_law_closed_b2 Ecl
    simp [post_lc, noOwAt]
    refine ⟨by omega, (lc_inv (Ic1b n k e (.lst .ow (matL .ow n k fun a b => decide (a = b)))) ⟨rfl, rfl⟩ ?_).mp ?_ (fun _ _ _ _ z => z.elim)⟩
    · rintro j acc d ρ hj ⟨rfl, rfl⟩
      obtain ⟨hj1, rfl⟩ := rng_get hj
      simp [Ecl, lim]
      refine ⟨by omega, ?_, rfl⟩
      have e : ((k : Int) == (j : Int)) = decide (k = j) := by
        by_cases q : k = j
        · subst q; simp
        · have : ¬ (k : Int) = (j : Int) := by omega
          simp [q, this]
      rw [e]
      unfold bls
      rw [List.range_succ, List.map_append]
      rfl
    · rintro acc ρ ⟨rfl, rfl⟩
      simp [rst, Ecl, lim]
      refine ⟨by omega, .dt (.int k), ?_⟩
      unfold Ecl matL
      rw [List.range_succ, List.map_append]
      rfl
  · rintro ρ ⟨x3, rfl⟩
    rw [rng_len]
    simp only [seqK_nx]
    rw [post_seq]
    subst he
    have hno : noOw (flLend o) = true := by cases o <;> rfl
    simp [d_law_closed_s3, Ecl, mapFs_ip, allFs_ip, hno]
    refine for_inv (Ic2 n (.lst (flLend o) (qs.map ip)) qs x3) ⟨.un, ?_, by simp [noBoAt]; exact allFs_mat rfl⟩ ?_ ?_
    · have e0 : baseQ (qs.take 0) = fun a b => decide (a = b) := by funext a b; simp [baseQ]
      rw [e0]
      rfl
    · rintro k d ρ hk ⟨x5, rfl, hnb⟩
      obtain ⟨hk1, rfl⟩ := getE_map hk
      obtain ⟨q1, q2⟩ := hq _ (List.getElem_mem hk1)
      have htk : qs.take (k + 1) = qs.take k ++ [qs[k]] := (List.take_append_getElem hk1).symm
      generalize qs[k] = q at *
      have ein := mat_in (R := baseQ (qs.take k)) q1
      have est := mat_set (R := baseQ (qs.take k)) q1 q2
      unfold d_law_closed_b4 Ecl matD
      simp [ein, est]
      refine ⟨.dt (ip q), ?_, by simp [noBoAt]; exact allFs_mat rfl⟩
      rw [htk, baseQ_snoc]
      rfl
    · rintro ρ ⟨x5, rfl, hnb⟩
      rw [List.length_map, List.take_length] at hnb ⊢
      refine ⟨⟨rfl, hnb⟩, ?_⟩
      simp [Ecl]
      rw [post_seq]
      generalize baseQ qs = R at *
      simp [d_law_closed_s4]
      refine ⟨by omega, for_inv (Ic3 n (.lst o (qs.map ip)) R x5) ⟨_, _, _, rfl⟩ ?_ ?_⟩
      · rintro m d ρ hm ⟨x3, x4, x6, rfl⟩
        obtain ⟨hm1, rfl⟩ := rng_get hm
        generalize hS : (List.range m).foldl stp R = S at *
        unfold d_law_closed_b6 Ecl
        simp
        refine ⟨by omega, for_inv (Ic4 n (.lst o (qs.map ip)) S m x5) ⟨x3, x4, ?_⟩ ?_ ?_⟩
        · have e0 : prtQ S m 0 0 = S := by funext i j; simp [prtQ]
          rw [e0]
          rfl
        · rintro a d ρ ha ⟨x3, x4, rfl⟩
          obtain ⟨ha1, rfl⟩ := rng_get ha
          have er := mat_at (p := .bo) (n := n) (R := prtQ S m a 0) ha1
          have eb := bls_at (P := prtQ S m a 0 a) hm1
          have e1 : prtQ S m a 0 a = S a := by funext j; simp [prtQ]
          rw [e1] at er eb
          unfold d_law_closed_b7 Ecl matD
          simp [mapFs_mat, er, eb, allFs_bls, noBoAt]
          by_cases hc : S a m = true
          · simp [hc]
            refine ⟨by omega, for_inv (Ic5 n (.lst o (qs.map ip)) S m a x5) ⟨_, rfl⟩ ?_ ?_⟩
            · rintro b d ρ hb ⟨x4, rfl⟩
              obtain ⟨hb1, rfl⟩ := rng_get hb
              have er := mat_at (p := .bo) (n := n) (R := prtQ S m a b) hm1
              have e2 : prtQ S m a b m = S m := by funext j; exact prtQ_rm
              rw [e2] at er
              have eb := bls_at (P := S m) hb1
              unfold d_law_closed_b9 Ecl matD
              simp [mapFs_mat, er, eb, allFs_bls, noBoAt]
              have hnext : ∀ i j, prtQ S m a (b + 1) i j = (prtQ S m a b i j || (decide (i = a) && (decide (j = b) && S m b))) := fun i j => by
                unfold prtQ
                by_cases q1 : i < a
                · have : ¬ i = a := by omega
                  simp [q1, this]
                · by_cases q2 : i = a
                  · subst q2
                    by_cases q3 : j = b
                    · subst q3
                      simp [hc]
                    · have : (decide (j < b + 1)) = decide (j < b) := by congr 1; apply propext; omega
                      simp [q3, this]
                  · simp [q1, q2]
              by_cases hb2 : S m b = true
              · have ein := mat_in (R := prtQ S m a b) ha1
                have est := mat_set (R := prtQ S m a b) ha1 hb1
                simp [hb2, ein, est]
                refine ⟨.dt (.int b), ?_⟩
                have : upR (prtQ S m a b) a b = prtQ S m a (b + 1) := by
                  funext i j
                  rw [hnext]
                  simp [upR, hb2]
                rw [this]
                rfl
              · have hb2 : S m b = false := by simpa using hb2
                simp [hb2]
                refine ⟨.dt (.int b), ?_⟩
                have : prtQ S m a b = prtQ S m a (b + 1) := by
                  funext i j
                  rw [hnext]
                  simp [hb2]
                rw [← this]
                rfl
            · rintro ρ ⟨x4, rfl⟩
              rw [rng_len]
              refine ⟨.dt (.int a), x4, ?_⟩
              unfold Ecl matD
              rw [mat_congr (S := prtQ S m (a + 1) 0)]
              · rfl
              intro i hi j hj
              unfold prtQ
              by_cases q1 : i < a
              · have : i < a + 1 := by omega
                simp [q1, this]
              · by_cases q2 : i = a
                · subst q2; simp [stp, hj]
                · have q3 : ¬ i < a + 1 := by omega
                  simp [q1, q2, q3]
          · have hc : S a m = false := by simpa using hc
            simp [hc]
            refine ⟨.dt (.int a), x4, ?_⟩
            have : prtQ S m a 0 = prtQ S m (a + 1) 0 := by
              funext i j
              unfold prtQ
              by_cases q1 : i < a
              · have : i < a + 1 := by omega
                simp [q1, this]
              · by_cases q2 : i = a
                · subst q2; simp [stp, hc]
                · have q3 : ¬ i < a + 1 := by omega
                  simp [q1, q2, q3]
            rw [← this]
            rfl
        · rintro ρ ⟨x3, x4, rfl⟩
          rw [rng_len]
          refine ⟨x3, x4, .dt (.int m), ?_⟩
          rw [warsh_succ, hS]
          unfold Ecl matD
          rw [mat_congr (S := stp S m)]
          · rfl
          intro i hi j hj
          unfold prtQ
          simp [hi]
      · rintro ρ ⟨x3, x4, x6, rfl⟩
        rw [rng_len]
        simp [d_law_closed_s5, Ecl]
        exact ⟨allFs_mat rfl, h⟩
theorem idx_getD {zs : List Str} {i : Nat} (hnd : zs.Nodup) (h : i < zs.length) : zs.idxOf (zs.getD i "") = i := by
  rw [List.getD_eq_getElem?_getD, List.getElem?_eq_getElem h]
  exact List.Nodup.idxOf_getElem hnd i h
theorem base_nms {zs : List Str} {qs : List (Nat × Nat)} (hnd : zs.Nodup) (hq : QsP zs.length qs) : baseR zs (nms zs qs) = baseQ qs := by
  funext a b
  unfold baseR baseQ nms
  congr 1
  rw [List.any_map]
  induction qs with
  | nil => rfl
  | cons q qs ih =>
    obtain ⟨h1, h2⟩ := hq q (by simp)
    rw [List.any_cons, List.any_cons, ih fun x hx => hq x (by simp [hx])]
    congr 1
    show (decide (zs.idxOf (zs.getD q.1 "") = a) && decide (zs.idxOf (zs.getD q.2 "") = b)) = _
    rw [idx_getD hnd h1, idx_getD hnd h2]
theorem nms_mem {zs : List Str} {qs : List (Nat × Nat)} (hq : QsP zs.length qs) : ∀ p ∈ nms zs qs, p.1 ∈ zs ∧ p.2 ∈ zs := by
  intro p hp
  obtain ⟨q, hq', rfl⟩ := List.mem_map.mp hp
  obtain ⟨h1, h2⟩ := hq q hq'
  constructor
  · show zs.getD q.1 "" ∈ zs
    rw [List.getD_eq_getElem?_getD, List.getElem?_eq_getElem h1]
    exact List.getElem_mem h1
  · show zs.getD q.2 "" ∈ zs
    rw [List.getD_eq_getElem?_getD, List.getElem?_eq_getElem h2]
    exact List.getElem_mem h2
theorem allStr_map : ∀ {zs : List Str}, allStr (zs.map D.str) = some zs
  | [] => rfl
  | z :: zs => by rw [List.map_cons, allStr, allStr_map]; rfl
theorem ixS_idx {z : Str} : ∀ {zs : List Str}, z ∈ zs → ixS z zs = some (zs.idxOf z)
  | [], h => by cases h
  | y :: zs, h => by
    unfold ixS
    by_cases e : y = z
    · subst e; simp
    · rw [if_neg e, ixS_idx ((List.mem_cons.mp h).resolve_left fun q => e q.symm), List.idxOf_cons]
      have : (y == z) = false := by simpa using e
      rw [this]
      rfl
def tixW (d e : D) (K : D → Prop) : Prop := match d with
  | .tup xs => (match allStr xs, e with
    | some ys, .str z => (match ixS z ys with
      | some j => K (.int (j : Int))
      | none => False)
    | _, _ => False)
  | _ => False
@[simp] theorem post_tix {f g : M D} {Q : D → En → Prop} {X : XK0} {ρ : En} : Post Q X (dTix f g ρ) = Post (fun x ρ1 => tuW x fun xs => Post (fun y ρ2 => tixW (.tup xs) y fun d => Q d ρ2) X (g ρ1)) X (f ρ) := by
  unfold dTix
  rw [post_bnd]
  congr 1
  funext x ρ1
  cases x with
  | tup xs =>
    dsimp only [tuW_t]
    rw [post_bnd]
    congr 1
    funext y ρ2
    unfold tixW
    dsimp only
    cases allStr xs with
    | none => rfl
    | some ys =>
      cases y with
      | str z =>
        dsimp only
        cases ixS z ys <;> rfl
      | _ => rfl
  | _ => rfl
theorem tixW_s {zs : List Str} {z : Str} {K : D → Prop} (h : z ∈ zs) : tixW (.tup (zs.map D.str)) (.str z) K = K (.int (zs.idxOf z : Int)) := by
  unfold tixW
  dsimp only
  rw [allStr_map]
  dsimp only
  rw [ixS_idx h]
structure OrdP (zs : List Str) (rows : List Int) (R : Nat → Nat → Bool) : Prop where
  r : IsRows rows zs.length R
  nd : zs.Nodup
  le : zs.length ≤ 12
theorem lk_n {o : Fl} {zs : List Str} {rows : List Int} : pFld "Order" "names" (ordD o zs rows) = .sc (.tup (zs.map D.str)) := by
  rw [pFld_o]
  simp [look]
theorem lk_r {o : Fl} {zs : List Str} {rows : List Int} : pFld "Order" "rows" (ordD o zs rows) = .sc (.tup (rows.map D.int)) := by
  rw [pFld_o]
  have : ¬ (Str.ofString "rows" == Str.ofString "names") = true := by decide +kernel
  simp [look, this]
theorem has_w {o : Fl} {zs : List Str} {rows : List Int} {R : Nat → Nat → Bool} {u v : Str} {K : D → En → Prop} {E : XK0} (ho : OrdP zs rows R) (hu : u ∈ zs) (hv : v ∈ zs) (h : K (.bl (R (zs.idxOf u) (zs.idxOf v))) [.un, .un, .un]) : resW (m_Order_has [ordD o zs rows, .str u, .str v]) K E := by
  rw [m_Order_has_def]
  refine resW_run rfl ?_
  unfold d_Order_has
  have i1 : zs.idxOf u < rows.length := by rw [ho.r.1]; exact List.idxOf_lt_length_of_mem hu
  have e1 := getE_int i1
  have ht := (ho.r.2 _ _ (List.getElem?_eq_getElem i1)).test (zs.idxOf v)
  simp [post_seq, frm, lk_n, lk_r, tixW_s hu, tixW_s hv, e1]
  rw [ht]
  exact h
theorem ord_obj {o : Fl} {zs : List Str} {rows : List Int} {m : Str} (h : (m == "names") = false) (h2 : (m == "rows") = false) : isObj "Order" m (ordD o zs rows) = true := by
  unfold isObj
  simp only [List.all_cons, List.all_nil, h, h2]
  rfl
def Ian (o p : Fl) (xs : List Str) (k : Nat) (ρ : En) : Prop := ∃ x2, ρ = [.dt (.lst o (xs.map D.str)), .dt (.lst p (xs.map D.str)), x2]
theorem are_names_w {o p : Fl} {xs : List Str} {K : D → En → Prop} {E : XK0} (hl : xs.length ≤ 1000) (h : K (.bl true) [.un, .un]) : resW (m_law_are_names [.lst o (xs.map D.str), .lst p (xs.map D.str)]) K E := by
  rw [m_law_are_names_def]
  refine resW_run rfl ?_
  unfold d_law_are_names
  simp [post_seq, frm, pIsi, isi]
  refine ⟨by omega, for_inv (Ian o p xs) ⟨_, rfl⟩ ?_ ?_⟩
  · rintro k d ρ hk ⟨x2, rfl⟩
    have hk1 := (rng_get hk).1
    have hd := (rng_get hk).2
    rw [hd]
    clear hd hk
    have e := at_str hk1
    generalize xs.getD k "" = u at *
    unfold d_law_are_names_b3
    have hne : pNe (.str u) (.str u) = .sc (.bl false) := by
      unfold pNe
      rw [if_pos (by simp), eqD_ss]
      simp
    simp [e, pIsi, isi, hne]
    exact ⟨_, rfl⟩
  · rintro ρ ⟨x2, rfl⟩
    simp
    exact h
theorem stp_sub {R : Nat → Nat → Bool} {m a b : Nat} (h : R a b = true) : stp R m a b = true := by simp [stp, h]
theorem fold_tr {R : Nat → Nat → Bool} : ∀ {m k i j : Nat}, k < m → (List.range m).foldl stp R i k = true → (List.range m).foldl stp R k j = true → (List.range m).foldl stp R i j = true
  | 0, _, _, _, h, _, _ => by omega
  | m + 1, k, i, j, hk, h1, h2 => by
    rw [warsh_succ] at h1 h2 ⊢
    have ih : ∀ {k i j : Nat}, k < m → (List.range m).foldl stp R i k = true → (List.range m).foldl stp R k j = true → (List.range m).foldl stp R i j = true := fun hk h1 h2 => fold_tr hk h1 h2
    generalize (List.range m).foldl stp R = S at *
    have via : S i m = true → S m j = true → stp S m i j = true := fun x y => by simp [stp, x, y]
    unfold stp at h1 h2
    rcases Nat.lt_or_ge k m with q | q
    · rcases (Bool.or_eq_true _ _ ▸ h1 : S i k = true ∨ (S i m && S m k) = true) with a | a
      · rcases (Bool.or_eq_true _ _ ▸ h2 : S k j = true ∨ (S k m && S m j) = true) with b | b
        · exact stp_sub (ih q a b)
        · have b := Bool.and_eq_true_iff.mp b
          exact via (ih q a b.1) b.2
      · have a := Bool.and_eq_true_iff.mp a
        rcases (Bool.or_eq_true _ _ ▸ h2 : S k j = true ∨ (S k m && S m j) = true) with b | b
        · exact via a.1 (ih q a.2 b)
        · have b := Bool.and_eq_true_iff.mp b
          exact via a.1 b.2
    · have e : k = m := by omega
      subst e
      refine via ?_ ?_
      · rcases (Bool.or_eq_true _ _ ▸ h1 : S i k = true ∨ (S i k && S k k) = true) with a | a
        · exact a
        · exact (Bool.and_eq_true_iff.mp a).1
      · rcases (Bool.or_eq_true _ _ ▸ h2 : S k j = true ∨ (S k k && S k j) = true) with a | a
        · exact a
        · exact (Bool.and_eq_true_iff.mp a).2
theorem warsh_tr {R : Nat → Nat → Bool} {n k i j : Nat} (hk : k < n) (h1 : warsh n R i k = true) (h2 : warsh n R k j = true) : warsh n R i j = true := fold_tr hk h1 h2
theorem getD_mem {zs : List Str} {i : Nat} (h : i < zs.length) : zs.getD i "" ∈ zs := by
  rw [List.getD_eq_getElem?_getD, List.getElem?_eq_getElem h]
  exact List.getElem_mem h
theorem BitsOf.inj {r q : Int} {P S : Nat → Bool} (h : BitsOf r P) (g : BitsOf q S) (e : ∀ j, P j = S j) : r = q := by
  obtain ⟨a, rfl, ha⟩ := h
  obtain ⟨b, rfl, hb⟩ := g
  have : a = b := Nat.eq_of_testBit_eq fun j => by rw [ha, hb, e]
  rw [this]
@[simp] theorem noBoAt_nil {ρ : En} : noBoAt [] ρ = true := by simp [noBoAt]
theorem outs_02 {d : D} {x : Sl} {r : En} (h : allF noBo d = true) : outs [0] 2 (.dt d :: x :: r) = [.dt d, .un] := by
  simp [outs, List.range_succ, h]
@[simp] theorem allFs_snoc {p : Fl → Bool} {d : D} : ∀ {xs : List D}, allFs p (xs ++ [d]) = (allFs p xs && allF p d)
  | [] => by simp [allFs]
  | x :: xs => by rw [List.cons_append, allFs, allFs_snoc, allFs, Bool.and_assoc]
section
variable {X : XK0} {ρ : En}
@[simp] theorem post_methVl {c m : Str} {mn : List D → Res} {f : M D} {tc : List Nat} {ars : List Arg} {Q : D → En → Prop} : Post Q X (dMeth c m mn (.v f, tc) ars ρ) = (Post (fun d _ => isObj c m d = true) (fun _ _ _ _ => True) (f ρ) ∧ Post Q X (dCall mn ((.v f, tc) :: ars) ρ)) := by
  show Post Q X (match f ρ with
    | .ok d _ => if isObj c m d = true then dCall mn ((.v f, tc) :: ars) ρ else .bad
    | .exc _ _ _ _ => dCall mn ((.v f, tc) :: ars) ρ
    | .bad => .bad) = _
  cases f ρ with
  | ok d ρ1 =>
    show Post Q X (if isObj c m d = true then dCall mn ((.v f, tc) :: ars) ρ else .bad) = (isObj c m d = true ∧ _)
    by_cases h : isObj c m d = true
    · rw [if_pos h]
      simp only [h, true_and]
    · rw [if_neg h]
      simp only [h]
      show False = _
      simp
  | exc _ _ _ _ =>
    show _ = (True ∧ _)
    simp only [true_and]
  | bad =>
    show False = (False ∧ _)
    simp only [false_and]
end
end Lw
namespace Lw
open Cs
open PySem (Str)
def rdyL (R : Nat → Nat → Bool) (L : List Nat) (a : Nat) : Bool := !(L.any fun b => R a b && !R b a)
def pickL (R : Nat → Nat → Bool) (L : List Nat) : Nat := (L.find? (rdyL R L)).getD (L.headD 0)
def offL (L : List Nat) (c : Nat) : List Nat := L.filter fun x => decide (x ≠ c)
def lowL (R : Nat → Nat → Bool) : Nat → List Nat → List Nat
  | 0, _ => []
  | k + 1, L => pickL R L :: lowL R k (offL L (pickL R L))
theorem countP_lt08 {L : List Nat} {p q : Nat → Bool} (h : ∀ c ∈ L, p c = true → q c = true) {b : Nat} (hb : b ∈ L) (h1 : q b = true) (h2 : p b = false) : L.countP p < L.countP q := by
  induction L with
  | nil => cases hb
  | cons x L ih =>
    have le : L.countP p ≤ L.countP q := List.countP_mono_left fun c hc => h c (List.mem_cons_of_mem _ hc)
    rw [List.countP_cons, List.countP_cons]
    rcases List.mem_cons.mp hb with rfl | hb
    · rw [h1, h2]
      simp
      omega
    · have := ih (fun c hc => h c (List.mem_cons_of_mem _ hc)) hb
      cases hp : p x with
      | false => simp; omega
      | true =>
        rw [h x List.mem_cons_self hp]
        simp
        omega
theorem rdy_ex {R : Nat → Nat → Bool} {n : Nat} (tr : ∀ i j k, i < n → j < n → k < n → R i j = true → R j k = true → R i k = true) {L : List Nat} (hL : ∀ a ∈ L, a < n) :
    ∀ (k a : Nat), a ∈ L → L.countP (fun b => R a b && !R b a) ≤ k → ∃ c ∈ L, rdyL R L c = true := by
  intro k
  induction k with
  | zero =>
    intro a ha h
    refine ⟨a, ha, ?_⟩
    have z := List.countP_eq_zero.mp (Nat.le_zero.mp h)
    unfold rdyL
    rw [List.any_eq_false.mpr z]
    rfl
  | succ k ih =>
    intro a ha h
    cases hr : rdyL R L a with
    | true => exact ⟨a, ha, hr⟩
    | false =>
      unfold rdyL at hr
      have hr : (L.any fun b => R a b && !R b a) = true := by simpa using hr
      obtain ⟨b, hb, hab⟩ := List.any_eq_true.mp hr
      have h1 : R a b = true := by simp at hab; exact hab.1
      have h2 : R b a = false := by simp at hab; exact hab.2
      refine ih b hb ?_
      have := countP_lt08 (L := L) (p := fun c => R b c && !R c b) (q := fun c => R a c && !R c a) (fun c hc hp => ?_) hb (by simpa using ⟨h1, h2⟩) (by cases R b b <;> rfl)
      · omega
      · have y1 : R b c = true := by simp at hp; exact hp.1
        have y2 : R c b = false := by simp at hp; exact hp.2
        have y3 := tr a b c (hL a ha) (hL b hb) (hL c hc) h1 y1
        cases hca : R c a with
        | false => simp [y3]
        | true =>
          have := tr c a b (hL c hc) (hL a ha) (hL b hb) hca h1
          rw [y2] at this
          cases this
theorem pickL_mem {R : Nat → Nat → Bool} {L : List Nat} (h : L ≠ []) : pickL R L ∈ L := by
  unfold pickL
  cases e : L.find? (rdyL R L) with
  | some c => exact List.mem_of_find?_eq_some e
  | none =>
    cases L with
    | nil => exact absurd rfl h
    | cons x xs => simp
theorem pickL_get {R : Nat → Nat → Bool} {L : List Nat} {k : Nat} (hk : k < L.length) (h1 : (L.take k).any (rdyL R L) = false) (h2 : rdyL R L L[k] = true) : pickL R L = L[k] := by
  have : L.find? (rdyL R L) = some L[k] := by
    rw [List.find?_eq_some_iff_append]
    refine ⟨h2, L.take k, L.drop (k + 1), ?_, fun x hx => ?_⟩
    · rw [List.getElem_cons_drop, List.take_append_drop]
    · have := List.any_eq_false.mp h1 x hx
      simpa using this
  unfold pickL
  rw [this]
  rfl
theorem pickL_none {R : Nat → Nat → Bool} {L : List Nat} (h1 : L.any (rdyL R L) = false) : pickL R L = L.headD 0 := by
  have : L.find? (rdyL R L) = none := List.find?_eq_none.mpr fun x hx => by
    have := List.any_eq_false.mp h1 x hx
    simpa using this
  unfold pickL
  rw [this]
  rfl
theorem offL_len {L : List Nat} {c : Nat} (hn : L.Nodup) (hc : c ∈ L) : (offL L c).length + 1 = L.length := by
  unfold offL
  induction L with
  | nil => cases hc
  | cons x xs ih =>
    rw [List.nodup_cons] at hn
    rw [List.filter_cons]
    rcases List.mem_cons.mp hc with rfl | hc
    · have : xs.filter (fun x => decide (x ≠ c)) = xs := List.filter_eq_self.mpr fun y hy => by
        refine decide_eq_true fun e => ?_
        subst e
        exact hn.1 hy
      rw [if_neg (by simp), this, List.length_cons]
    · have hx : x ≠ c := fun e => by subst e; exact hn.1 hc
      rw [if_pos (decide_eq_true hx), List.length_cons, ih hn.2 hc, List.length_cons]
theorem offL_mem {L : List Nat} {c x : Nat} (h : x ∈ offL L c) : x ∈ L := (List.mem_filter.mp h).1
theorem offL_nd {L : List Nat} {c : Nat} (h : L.Nodup) : (offL L c).Nodup := h.filter _
theorem post_tr08 {i : Nat} {ρ : En} {o : Fl} {xs : List D} {Q : Bool → En → Prop} {X : XK0} (h : slot i ρ = some (.lst o xs)) (hq : Q (!xs.isEmpty) ρ) : Post Q X (dTru (.p i) ρ) := by
  unfold dTru dPk
  rw [post_bnd]
  simp [h, tru]
  exact hq
abbrev nmD (zs : List Str) (a : Nat) : D := .str (zs.getD a "")
abbrev Lo (o : Fl) (zs : List Str) (rows : List Int) (L : List Nat) (x2 x3 : Sl) : En := [.dt (ordD o zs rows), .dt (.lst .ow (L.map (nmD zs))), x2, x3, .un]
def StS (x : Sl) : Prop := x = .un ∨ ∃ s, x = .dt (.str s)
theorem allF_nm {p : Fl → Bool} {zs : List Str} : ∀ {L : List Nat}, allFs p (L.map (nmD zs)) = true
  | [] => rfl
  | z :: L => by rw [List.map_cons, allFs, allF_nm]; rfl
theorem mapF_nm {g : Fl → Fl} {zs : List Str} : ∀ {L : List Nat}, mapFs g (L.map (nmD zs)) = L.map (nmD zs)
  | [] => rfl
  | z :: L => by rw [List.map_cons, mapFs, mapF_nm]; rfl
def noR (R : Nat → Nat → Bool) (L : List Nat) (k : Nat) : Prop := (L.take k).any (rdyL R L) = false
def Ilo (o : Fl) (zs : List Str) (rows : List Int) (R : Nat → Nat → Bool) (L : List Nat) (y : Nat) (k : Nat) (ρ : En) : Prop := noR R L k ∧ ∃ x3, ρ = [.dt (ordD o zs rows), .dt (.lst .bo (L.map (nmD zs))), .dt (nmD zs y), x3, .un] ∧ StS x3
section
variable {o : Fl} {zs : List Str} {rows : List Int} {R : Nat → Nat → Bool}
theorem lo_head (hlo : flLend o = o) (ho : OrdP zs rows R) {L : List Nat} (hL : ∀ a ∈ L, a < zs.length) (hl : L.length ≤ 100) (x2 : Sl) {x3 : Sl} (h3 : StS x3) :
    (L = [] ∧ toG (gHead d_Order_lowest_first_gc d_Order_lowest_first_g1 d_Order_lowest_first_gy (Lo o zs rows L x2 x3)) = .done) ∨
    (L ≠ [] ∧ ∃ x3', StS x3' ∧ toG (gHead d_Order_lowest_first_gc d_Order_lowest_first_g1 d_Order_lowest_first_gy (Lo o zs rows L x2 x3)) = .yld (nmD zs (pickL R L)) (Lo o zs rows (offL L (pickL R L)) (.dt (nmD zs (pickL R L))) x3')) := by
  have hp : Post (fun r ρ => (L = [] ∧ r = none) ∨ (L ≠ [] ∧ ∃ x3', StS x3' ∧ r = some (nmD zs (pickL R L)) ∧ ρ = Lo o zs rows (offL L (pickL R L)) (.dt (nmD zs (pickL R L))) x3')) N0 (gHead d_Order_lowest_first_gc d_Order_lowest_first_g1 d_Order_lowest_first_gy (Lo o zs rows L x2 x3)) := by
    simp only [d_Order_lowest_first_gc, d_Order_lowest_first_g1, d_Order_lowest_first_gy, post_gHead]
    refine post_tr08 rfl ?_
    cases hE : L with
    | nil => simp
    | cons y ys =>
      rw [← hE]
      have hne : L ≠ [] := by rw [hE]; simp
      rw [if_pos (by rw [hE]; rfl)]
      have hhd : L.headD 0 = y := by rw [hE]; rfl
      have h0 : L2.atI (L.map (nmD zs)) 0 = some (nmD zs y) := by rw [hE, show (0 : Int) = ((0 : Nat) : Int) from rfl, atI_n]; rfl
      simp [post_seq, h0, mapF_nm, allF_nm]
      have obh : isObj "Order" "has" (ordD o zs rows) = true := ord_obj (by decide +kernel) (by decide +kernel)
      have hw : ∀ a b, a < zs.length → b < zs.length → ∀ {K : D → En → Prop} {E : XK0}, K (.bl (R a b)) [.un, .un, .un] → resW (m_Order_has [ordD o zs rows, .str (zs.getD a ""), .str (zs.getD b "")]) K E := fun a b ha hb K E h => has_w ho (getD_mem ha) (getD_mem hb) (by rw [idx_getD ho.nd ha, idx_getD ho.nd hb]; exact h)
      have fin : ∀ x3 c, pickL R L = c → StS x3 → c < zs.length → noBoAt [3, 1003, 1004, 2, 1002] [.dt (ordD o zs rows), .dt (.lst .bo (L.map (nmD zs))), .dt (nmD zs c), x3, .un] = true ∧ Post (fun fl ρ2 => match fl with
            | Flw.nx => slW (slot 2 ρ2) fun d => allF noOw d = true ∧ ¬L = [] ∧ ∃ x3', StS x3' ∧ d = nmD zs (pickL R L) ∧ ρ2 = Lo o zs rows (offL L (pickL R L)) (Sl.dt (nmD zs (pickL R L))) x3'
            | x => False) N0 (dAsg 1 (dLend 1 [1003] (dLc (dIt (dCp 1)) (Tg.one 3) [3] (dB (dOp2 pNe (Opd.v (dCp 3)) (Opd.v (dCp 2)))) (dCp 3))) [.dt (ordD o zs rows), .dt (.lst .ow (L.map (nmD zs))), .dt (nmD zs c), x3, .un]) := by
        intro x3 c hc hx hcl
        rw [hc]
        refine ⟨by rcases hx with rfl | ⟨t, rfl⟩ <;> simp [noBoAt], ?_⟩
        simp [mapF_nm, allF_nm, post_lc, noOwAt]
        refine ⟨by rcases hx with rfl | ⟨t, rfl⟩ <;> simp, ?_⟩
        refine (lc_filt (xs := L) (fun x => decide (x ≠ c)) (nmD zs) (by unfold lim; omega) fun a ham => ?_).mp ?_ (fun _ _ _ _ z => z.elim)
        · have hal := hL a ham
          have hne2 : (zs.getD a "" = zs.getD c "") ↔ a = c := ⟨fun e => by
            have := congrArg zs.idxOf e
            rwa [idx_getD ho.nd hal, idx_getD ho.nd hcl] at this, fun e => by rw [e]⟩
          rw [tgW_one]
          refine ⟨by simp, ?_⟩
          simp [qNes, hne2, -List.getD_eq_getElem?_getD]
        rintro acc ρ ⟨rfl, rfl⟩
        simp [rst, mapF_nm, allF_nm, hne]
        refine ⟨by rcases hx with rfl | ⟨t, rfl⟩ <;> simp [noBoAt], hx, ?_⟩
        unfold offL
        simp
      generalize (dAsg 1 (dLend 1 [1003] (dLc (dIt (dCp 1)) (Tg.one 3) [3] (dB (dOp2 pNe (Opd.v (dCp 3)) (Opd.v (dCp 2)))) (dCp 3)))) = F at *
      refine for_inv (Ilo o zs rows R L y) ⟨by simp [noR], _, rfl, h3⟩ ?_ ?_
      · rintro k d ρ hk ⟨hb, x3, rfl, hx⟩
        obtain ⟨hk1, rfl⟩ := getE_map hk
        have hak := hL _ (List.getElem_mem hk1)
        have hrd : rdyL R L L[k] = !(L.any fun b => R L[k] b && !R b L[k]) := rfl
        have hpk := pickL_get (R := R) hk1 hb
        have htk : rdyL R L L[k] = false → noR R L (k + 1) := fun h => by
          unfold noR at *
          rw [take_snoc (List.getElem?_eq_getElem hk1), List.any_append, hb]
          simp [h]
        generalize L[k] = a at *
        rw [tgW_one]
        refine ⟨by simp, ?_⟩
        unfold d_Order_lowest_first_b4
        simp [mapF_nm, allF_nm, post_lc, noOwAt]
        refine (lc_maps (xs := L) (fun b => D.bl (R a b && !R b a)) (by unfold lim; omega) fun b hbm => ?_).mp ?_ (fun _ _ _ _ z => z.elim)
        · have hbl := hL b hbm
          rw [tgW_one]
          refine ⟨by simp, ?_⟩
          simp [obh, hlo]
          refine hw a b hak hbl ?_
          cases h1 : R a b with
          | false => simp
          | true =>
            simp
            refine hw b a hbl hak ?_
            simp
        rintro acc ρ ⟨rfl, rfl⟩
        have hmm : (L.map fun b => D.bl (R a b && !R b a)) = (L.map fun b => R a b && !R b a).map D.bl := by rw [List.map_map]; rfl
        rw [hmm]
        simp [rst, -List.map_map]
        refine ⟨by simp [noBoAt], ?_⟩
        split
        · rename_i hh
          refine ⟨htk ?_, _, rfl, .inr ⟨_, rfl⟩⟩
          rw [hrd]
          simpa using hh
        · rename_i hh
          have hr1 : rdyL R L a = true := by
            rw [hrd]
            simpa using hh
          have hf := fin (.dt (nmD zs a)) a (hpk hr1) (.inr ⟨_, rfl⟩) hak
          rw [post_seq]
          simp
          refine ⟨⟨rfl, hf.1⟩, ?_⟩
          exact hf.2
      · rintro ρ ⟨hb, x3, rfl, hx⟩
        have hb : L.any (rdyL R L) = false := by
          have h2 : (L.take (L.map (nmD zs)).length).any (rdyL R L) = false := hb
          rwa [List.length_map, List.take_length] at h2
        have := fin x3 y ((pickL_none hb).trans hhd) hx (hL y (by rw [hE]; simp))
        refine ⟨⟨rfl, this.1⟩, ?_⟩
        rw [seqK_nx]
        exact this.2
  obtain ⟨r, ρ, h, e⟩ := toG_of hp
  rw [e]
  rcases h with ⟨h1, rfl⟩ | ⟨h1, x3', h3, rfl, rfl⟩
  · exact .inl ⟨h1, rfl⟩
  · exact .inr ⟨h1, x3', h3, rfl⟩
end
section
variable {o : Fl} {zs : List Str} {rows : List Int} {R : Nat → Nat → Bool}
theorem lo_all (hlo : flLend o = o) (ho : OrdP zs rows R) : ∀ {k : Nat} {L : List Nat} {x2 x3 : Sl}, (∀ a ∈ L, a < zs.length) → L.Nodup → L.length = k → k ≤ 100 → StS x3 →
    GenL gn_Order_lowest_first ((lowL R k L).map (nmD zs)) (toG (gHead d_Order_lowest_first_gc d_Order_lowest_first_g1 d_Order_lowest_first_gy (Lo o zs rows L x2 x3)))
  | 0, L, x2, x3, hL, hn, hk, h100, h3 => by
    rcases lo_head hlo ho hL (by omega) x2 h3 with ⟨_, e⟩ | ⟨h, _⟩
    · rw [e]
      rfl
    · exact absurd (List.length_eq_zero_iff.mp hk) h
  | k + 1, L, x2, x3, hL, hn, hk, h100, h3 => by
    rcases lo_head hlo ho hL (by omega) x2 h3 with ⟨h, _⟩ | ⟨h, x3', h3', e⟩
    · subst h; cases hk
    · have hm := pickL_mem (R := R) h
      have hl := offL_len hn hm
      rw [e]
      refine ⟨_, rfl, ?_⟩
      have e2 : gn_Order_lowest_first (Lo o zs rows (offL L (pickL R L)) (.dt (nmD zs (pickL R L))) x3') = toG (gHead d_Order_lowest_first_gc d_Order_lowest_first_g1 d_Order_lowest_first_gy (Lo o zs rows (offL L (pickL R L)) (.dt (nmD zs (pickL R L))) x3')) := rfl
      rw [e2]
      exact lo_all hlo ho (fun a ha => hL a (offL_mem ha)) (offL_nd hn) (by omega) (by omega) h3'
theorem lo_gen (hlo : flLend o = o) (ho : OrdP zs rows R) : GenL gn_Order_lowest_first ((lowL R zs.length (List.range zs.length)).map (nmD zs)) (gs_Order_lowest_first [ordD o zs rows]) := by
  have hle := ho.le
  have e : gs_Order_lowest_first [ordD o zs rows] = toG (gHead d_Order_lowest_first_gc d_Order_lowest_first_g1 d_Order_lowest_first_gy (Lo o zs rows (List.range zs.length) .un .un)) := by
    have hz : (List.range zs.length).map (nmD zs) = zs.map D.str := by
      apply List.ext_getElem
      · simp
      · intro i h1 h2
        have hi : i < zs.length := by simpa using h2
        simp [nmD, hi]
    have hp : Post (fun fl ρ => fl = .nx ∧ ρ = Lo o zs rows (List.range zs.length) .un .un) N0 (d_Order_lowest_first_g0 (frm 5 [ordD o zs rows])) := by
      simp [d_Order_lowest_first_g0, frm, lk_n, hz]
    unfold gs_Order_lowest_first gNx bnd
    cases e1 : d_Order_lowest_first_g0 (frm 5 [ordD o zs rows]) with
    | bad => rw [e1] at hp; exact hp.elim
    | exc c ks xs ρ => rw [e1] at hp; exact hp.elim
    | ok fl ρ =>
      rw [e1] at hp
      obtain ⟨rfl, rfl⟩ := hp
      rfl
  rw [e]
  exact lo_all hlo ho (fun a ha => List.mem_range.mp ha) List.nodup_range (List.length_range) (by omega) (.inl rfl)
end
end Lw
namespace Lw
open Cs
open PySem (Str)
abbrev natD (L : List Nat) : List D := L.map fun (i : Nat) => D.int (i : Int)
def Ird (n a : Nat) (R : Nat → Nat → Bool) (L : List Nat) (ρ : En) : Prop := ∃ x3, ρ = [.dt (matD .bo .bo n R), .dt (.lst .bo (natD L)), .dt (.int (a : Int)), x3] ∧ (x3 = .un ∨ ∃ i, x3 = .dt (.int i))
theorem ready_w {n a : Nat} {R : Nat → Nat → Bool} {L : List Nat} {K : D → En → Prop} {E : XK0} (hL : ∀ b ∈ L, b < n) (ha : a < n) (h : K (.bl (rdyL R L a)) [.un, .un, .un]) : resW (m_law_ready [matD .bo .bo n R, .lst .bo (natD L), .int (a : Int)]) K E := by
  rw [m_law_ready_def]
  refine resW_run rfl ?_
  unfold d_law_ready
  rw [post_seq]
  simp [frm]
  refine for_scan (xs := L) (fun b => R a b && !R b a) (Ird n a R L) ⟨_, rfl, .inl rfl⟩ ?_ ?_
  · rintro b ρ hb ⟨x3, rfl, hx⟩
    have hbn := hL b hb
    have e1 := mat_at (p := .bo) (n := n) (R := R) ha
    have e2 := mat_at (p := .bo) (n := n) (R := R) hbn
    rw [tgW_one]
    refine ⟨by simp, ?_⟩
    unfold d_law_ready_b1
    simp [mapFs_mat, e1, e2, bls_at ha, bls_at hbn]
    have hf : (R a b && !R b a) = true → rdyL R L a = false := fun h => by
      unfold rdyL
      rw [List.any_eq_true.mpr ⟨b, hb, h⟩]
      rfl
    cases h1 : R a b with
    | false =>
      simp [tru, allFs_bls]
      exact ⟨_, rfl, .inr ⟨_, rfl⟩⟩
    | true =>
      cases h2 : R b a with
      | true =>
        simp [tru, allFs_bls]
        exact ⟨_, rfl, .inr ⟨_, rfl⟩⟩
      | false =>
        rw [hf (by rw [h1, h2]; rfl)] at h
        simp [tru, allFs_bls]
        exact ⟨⟨rfl, by simp [noBoAt]⟩, h⟩
  · rintro ρ hb ⟨x3, rfl, hx⟩
    have hr : rdyL R L a = true := by unfold rdyL; rw [hb]; rfl
    rw [hr] at h
    refine ⟨⟨rfl, by rcases hx with rfl | ⟨t, rfl⟩ <;> simp [noBoAt]⟩, ?_⟩
    rw [seqK_nx]
    simp
    exact h
def Low8 (n : Nat) (R : Nat → Nat → Bool) (k : Nat) (dn L : List Nat) : Prop := lowL R n (List.range n) = dn ++ lowL R (n - k) L ∧ L.length = n - k ∧ L.Nodup ∧ (∀ a ∈ L, a < n) ∧ dn.length = k
theorem low8_next {n k : Nat} {R : Nat → Nat → Bool} {dn L : List Nat} (h : Low8 n R k dn L) (hk : k < n) : Low8 n R (k + 1) (dn ++ [pickL R L]) (offL L (pickL R L)) ∧ pickL R L < n ∧ pickL R L ∈ L := by
  obtain ⟨h1, h2, h3, h4, h5⟩ := h
  have hne : L ≠ [] := fun e => by subst e; simp at h2; omega
  have hm := pickL_mem (R := R) hne
  have hl := offL_len h3 hm
  refine ⟨⟨?_, by omega, offL_nd h3, fun a ha => h4 a (offL_mem ha), by rw [List.length_append, h5]; rfl⟩, h4 _ hm, hm⟩
  rw [h1, show n - k = (n - (k + 1)) + 1 from by omega, lowL, List.append_assoc]
  rfl
theorem pick_filt {n : Nat} {R : Nat → Nat → Bool} {L : List Nat} (tr : ∀ i j k, i < n → j < n → k < n → R i j = true → R j k = true → R i k = true) (hL : ∀ a ∈ L, a < n) (hne : L ≠ []) : ∃ t, L.filter (rdyL R L) = pickL R L :: t := by
  obtain ⟨c, hc, hr⟩ := rdy_ex tr hL _ _ (List.head_mem hne) (Nat.le_refl _)
  have h1 := List.head?_filter (p := rdyL R L) (l := L)
  cases e : L.filter (rdyL R L) with
  | nil =>
    have : c ∈ L.filter (rdyL R L) := List.mem_filter.mpr ⟨hc, hr⟩
    rw [e] at this
    cases this
  | cons x t =>
    rw [e] at h1
    refine ⟨t, ?_⟩
    unfold pickL
    rw [← h1]
    rfl
abbrev E8 (sc b : D) (zs : List Str) (qs : List (Nat × Nat)) (rows : List Int) (R : Nat → Nat → Bool) (dn L : List Nat) (x9 x10 x11 x12 x13 : Sl) : En := [.dt sc, .dt b, .dt (.int (zs.length : Int)), .dt (.lst .ow (zs.map D.str)), .dt (.lst .ow (qs.map ip)), .dt (ordD .ow zs rows), .dt (matD .ow .ow zs.length R), .dt (.lst .ow (dn.map (nmD zs))), .dt (.lst .ow (natD L)), x9, x10, x11, x12, x13]
def StI (x : Sl) : Prop := x = .un ∨ ∃ i, x = .dt (.int i)
def I8a (sc b : D) (zs : List Str) (qs : List (Nat × Nat)) (rows : List Int) (R : Nat → Nat → Bool) (k : Nat) (ρ : En) : Prop := ∃ dn L x9 x11, Low8 zs.length R k dn L ∧ StI x9 ∧ StI x11 ∧ ρ = E8 sc b zs qs rows R dn L x9 .un x11 .un .un
theorem turn8a {sc b : D} {zs : List Str} {qs : List (Nat × Nat)} {rows : List Int} {R : Nat → Nat → Bool} {dn L : List Nat} {x9 x11 : Sl} {k : Nat} {N : En → Prop} {Q : Flw → En → Prop} {X : XK0} (h12 : zs.length ≤ 12) (tr : ∀ i j k, i < zs.length → j < zs.length → k < zs.length → R i j = true → R j k = true → R i k = true) (hk : k < zs.length) (hl : Low8 zs.length R k dn L) (h11 : StI x11) (h9 : StI x9)
    (h : N (E8 sc b zs qs rows R (dn ++ [pickL R L]) (offL L (pickL R L)) x9 .un (.dt (.int (pickL R L : Nat))) .un .un)) : Post (forK N Q []) X (d_law_b9 (E8 sc b zs qs rows R dn L x9 .un x11 .un .un)) := by
  obtain ⟨hn, hp, hm⟩ := low8_next hl hk
  obtain ⟨l1, l2, l3, l4, l5⟩ := hl
  have hne : L ≠ [] := fun e => by subst e; cases hm
  obtain ⟨t, ht⟩ := pick_filt tr l4 hne
  unfold d_law_b9
  rw [post_seq]
  simp [d_law_b9_1, post_lc, noOwAt, mapFs_mat]
  refine (lc_filt (xs := L) (rdyL R L) (fun (i : Nat) => D.int (i : Int)) (by unfold lim; omega) fun a ham => ?_).mp ?_ (fun _ _ _ _ z => z.elim)
  · have hal := l4 a ham
    have hrw := fun {K : D → En → Prop} {E : XK0} h => ready_w (K := K) (E := E) (R := R) l4 hal h
    rw [tgW_one]
    refine ⟨by simp, ?_⟩
    simp [mapFs_mat]
    refine hrw ?_
    simp
  rintro acc ρ ⟨rfl, rfl⟩
  rw [ht]
  simp [rst]
  refine ⟨⟨rfl, by simp [noBoAt]⟩, ?_⟩
  rw [post_seq]
  simp [d_law_b9_2, post_lc, noOwAt]
  refine (lc_filt (xs := L) (fun x => decide (x ≠ pickL R L)) (fun (i : Nat) => D.int (i : Int)) (by unfold lim; omega) fun a ham => ?_).mp ?_ (fun _ _ _ _ z => z.elim)
  · rw [tgW_one]
    refine ⟨by simp, ?_⟩
    simp
    by_cases e : a = pickL R L
    · simp [e]
    · have : ¬ (a : Int) = (pickL R L : Nat) := by omega
      simp [e, this]
  rintro acc ρ ⟨rfl, rfl⟩
  simp [rst, d_law_b9_3, at_str hp, -List.getD_eq_getElem?_getD]
  refine ⟨by simp [noBoAt], by unfold lim; omega, ?_⟩
  have e1 : (dn ++ [pickL R L]).map (nmD zs) = dn.map (nmD zs) ++ [.str (zs.getD (pickL R L) "")] := by rw [List.map_append]; rfl
  have e2 : natD (offL L (pickL R L)) = (L.filter fun x => !decide (x = pickL R L)).map fun (i : Nat) => D.int (i : Int) := by
    unfold natD offL
    simp
  unfold E8 at h
  rw [e1, e2] at h
  exact h
theorem law_true : ∀ ns : List Int, ns.length ≤ 63 → ∃ os, m_law [scr ns] = .ok (.bl true) os := by
  intro ns hns
  apply ok_of_resW
  rw [m_law_def]
  refine resW_run rfl ?_
  have hlend : mapF flLend (scr ns) = scr ns := by simp [scr]
  have hbox : ∀ {K : D → En → Prop} {E : XK0}, (∀ d, BoxP d → K d [.un]) → resW (m_law_box [scr ns]) K E := fun h => box_w hns h
  generalize scr ns = sc at *
  unfold d_law
  rw [post_seq]
  simp [d_law_s1, frm, hlend]
  refine hbox fun b hb => ?_
  rw [post_seq]
  simp [d_law_s2]
  refine take_w hb (by omega) (by omega) fun r b r0 r1 hb => ?_
  obtain ⟨n, rfl⟩ : ∃ m : Nat, r = (m : Int) := ⟨r.toNat, by omega⟩
  simp only [seqK_nx, wb_io, wb_v, wb_0, hd1_c, List.tail, List.set]
  rw [post_seq]
  simp [d_law_s3]
  refine names_w hb (by omega) fun zs b hl hz hb => ?_
  subst hl
  simp
  have hle := hz.le
  generalize hni : (zs.length : Int) = ni at *
  rw [post_seq]
  simp [d_law_s4]
  refine take_w hb (by omega) (by omega) fun r b r0' r1' hb => ?_
  obtain ⟨c, rfl⟩ : ∃ m : Nat, r = (m : Int) := ⟨r.toNat, by omega⟩
  simp
  generalize hci : (c : Int) = ci at *
  refine drawn_w hb hni hci (by omega) (by omega) fun qs b hc hq hb => ?_
  simp
  rw [post_seq]
  simp [d_law_s5, mapFs_ip]
  refine named_w hq (by omega) ?_
  have hmem := nms_mem hq
  have hbase := base_nms hz.nd hq
  have hnone := hz.none
  have hun := firstUnk_none hmem
  have hmk : ∀ {d e : D} {K : D → En → Prop} {E : XK0}, SeqD d (zs.map D.str) → SeqD e ((nms zs qs).map pr2) → (∀ rows, OrdP zs rows (warsh zs.length (baseQ qs)) → K (ordD .ow zs rows) [.un, .un]) → mkW (m_Order___init__ [.obj .ow "Order" [] [], d, e]) K E := fun hd he hk => by
    refine order_w hd he hz.lim (fun rows h12 _ _ hr => hk rows ⟨by rw [← hbase]; exact hr, hz.nd, h12⟩) (fun h => ?_) (fun c z _ h => ?_) (fun n _ _ h => ?_)
    · omega
    · rw [hnone] at h; cases h
    · rw [hun] at h; cases h
  refine hmk (.inl ⟨_, rfl⟩) (.inl ⟨_, rfl⟩) fun rows hr => ?_
  try simp
  rw [post_seq]
  have cw : ∀ {o : Fl} {K : D → En → Prop} {E : XK0}, K (matD .ow .ow zs.length (warsh zs.length (baseQ qs))) [.un, .un] → resW (m_law_closed [.int ni, .lst o (qs.map ip)]) K E := by
    rw [← hni]
    exact fun h => closed_w rfl (by omega) hq h
  simp [d_law_s6, mapFs_ip]
  refine cw ?_
  try simp [mapFs_mat]
  try simp [mapFs_mat]
  rw [post_seq]
  simp [d_law_s7]
  rw [post_seq]
  subst hni
  have tr : ∀ i j k, i < zs.length → j < zs.length → k < zs.length → warsh zs.length (baseQ qs) i j = true → warsh zs.length (baseQ qs) j k = true → warsh zs.length (baseQ qs) i k = true := fun i j k _ hj _ h1 h2 => warsh_tr hj h1 h2
  generalize warsh zs.length (baseQ qs) = R at *
  have obl : ∀ o, isObj "Order" "lowest_first" (ordD o zs rows) = true := fun o => ord_obj (by decide +kernel) (by decide +kernel)
  have olg := lo_gen (o := .bo) rfl hr
  have h100 : (zs.length : Int) ≤ 100000 := by omega
  simp [d_law_s8, h100, rng_map]
  rw [post_seq]
  simp [d_law_s9]
  refine ⟨by omega, ?_⟩
  refine for_inv (I8a sc b zs qs rows R) ⟨[], List.range zs.length, _, _, ⟨by simp, by simp, List.nodup_range, fun a ha => List.mem_range.mp ha, rfl⟩, .inl rfl, .inl rfl, rfl⟩ ?_ ?_
  · rintro k d ρ hk ⟨dn, L, x9, x11, hl, h9, h11, rfl⟩
    obtain ⟨hk1, rfl⟩ := rng_get hk
    have hk1 : k < zs.length := by simpa using hk1
    rw [tgW_one]
    refine ⟨by simp, ?_⟩
    refine turn8a (x9 := .dt (.int (0 + (k : Int)))) (by omega) tr hk1 hl h11 (.inr ⟨_, rfl⟩) ?_
    exact ⟨_, _, _, _, (low8_next hl hk1).1, .inr ⟨_, rfl⟩, .inr ⟨_, rfl⟩, rfl⟩
  · rintro ρ ⟨dn, L, x9, x11, ⟨l1, l2, l3, l4, l5⟩, h9, h11, rfl⟩
    rw [rng_len] at l1 l2 l5
    have hsame : lowL R zs.length (List.range zs.length) = dn := by
      rw [l1, Nat.sub_self]
      simp [lowL]
    have hdl : dn.length = zs.length := l5
    rw [hsame] at olg
    rw [seqK_nx, post_seq]
    simp [d_law_s10]
    refine for_inv (fun k ρ => ∃ x9 x13, StI x9 ∧ StS x13 ∧ ρ = E8 sc b zs qs rows R dn L x9 .un x11 .un x13) ⟨_, _, h9, .inl rfl, rfl⟩ ?_ ?_
    · rintro k d ρ hk ⟨x9, x13, h9, h13, rfl⟩
      obtain ⟨hk1, rfl⟩ := rng_get hk
      rw [tgW_one]
      refine ⟨by simp, ?_⟩
      unfold d_law_b13
      rw [post_seq]
      simp [d_law_b13_1]
      rw [post_seq]
      simp [d_law_b13_2, dRcv, obl]
      refine forG_forL (ds := dn.map (nmD zs)) olg (by rw [List.length_map]; omega) ?_
      have efz : (dn.map (nmD zs)).map (mapF flFrz) = dn.map (nmD zs) := by rw [List.map_map]; rfl
      rw [efz]
      refine for_inv (fun m ρ => ∃ x13, StS x13 ∧ ρ = [.dt sc, .dt b, .dt (.int (zs.length : Int)), .dt (.lst .ow (zs.map D.str)), .dt (.lst .ow (qs.map ip)), .dt (ordD .bo zs rows), .dt (matD .ow .ow zs.length R), .dt (.lst .ow (dn.map (nmD zs))), .dt (.lst .ow (natD L)), .dt (.int (k : Int)), .un, x11, .dt (.lst .ow ((dn.take m).map (nmD zs))), x13]) ⟨_, h13, by simp⟩ ?_ ?_
      · rintro m d ρ hm ⟨x13, h13, rfl⟩
        obtain ⟨hm1, rfl⟩ := getE_map hm
        have etk : (dn.take (m + 1)).map (nmD zs) = (dn.take m).map (nmD zs) ++ [.str (zs.getD dn[m] "")] := by
          rw [take_snoc (List.getElem?_eq_getElem hm1), List.map_append]
          rfl
        rw [tgW_one]
        refine ⟨by simp, ?_⟩
        unfold d_law_b15
        rw [post_seq]
        simp [-List.getD_eq_getElem?_getD]
        refine ⟨by unfold lim; omega, by omega, .inr ⟨_, rfl⟩, ?_⟩
        rw [← List.map_take, ← List.map_take, etk]
      · rintro ρ ⟨x13, h13, rfl⟩
        refine ⟨⟨rfl, by rcases h13 with rfl | ⟨t, rfl⟩ <;> simp [noBoAt, allF_nm]⟩, ?_⟩
        rw [List.length_map, List.take_length, seqK_nx]
        have enm : dn.map (nmD zs) = (dn.map fun a => zs.getD a "").map D.str := by rw [List.map_map]; rfl
        simp [d_law_b13_3, mapF_nm, -List.map_map]
        rw [enm]
        refine are_names_w (by rw [List.length_map]; omega) ?_
        simp
        exact ⟨.inr ⟨_, rfl⟩, h13⟩
    · rintro ρ ⟨x9, x13, h9, h13, rfl⟩
      rw [seqK_nx]
      simp [d_law_s11]
end Lw
namespace Lw
open PySem L2 Evl PyProof.Rows Cs
theorem exm_of {K : PySem.W.Frag} {A C : Addr} {b : Bool} (h1 : PySem.W.subIn K (.ref C) (.type "BaseException") = some true) (h2 : PySem.W.isClsIn K C = true) (h3 : PySem.W.typeIn K (.ref C) = some (.type "type")) (h4 : PySem.W.subIn K (.ref A) (.ref C) = some b) : PySem.W.exmOne K (.ref A) (.ref C) = some b := by
  have e1 : (PySem.W.subIn K (.ref C) (.type "BaseException") == some true) = true := by rw [h1] <;> rfl
  have e2 : ((PySem.W.clsIn K C).isSome && PySem.W.typeIn K (.ref C) == some (.type "type")) = true := by
    have h2' : (PySem.W.clsIn K C).isSome = true := h2
    rw [h2', h3] <;> rfl
  show (if (PySem.W.subIn K (.ref C) (.type "BaseException") == some true) = true then (if ((PySem.W.clsIn K C).isSome && PySem.W.typeIn K (.ref C) == some (.type "type")) = true then PySem.W.subIn K (.ref A) (.ref C) else none) else none) = some b
  rw [if_pos e1, if_pos e2]
  exact h4
theorem all_mk {P : Program} {w : World} {K : PySem.W.Frag} {h : Heap} {mg : Str → Option Value} {fa f_law_box f_law_take f_law_name f_law_names f_law_drawn_pairs f_law_named f_check_name f_check_makes f_check_known f_check_pairs f_closed_rows f_rows_of f_Order___init__ f_law_closed f_law_ready f_Order_has f_Order_lowest_first f_law_are_names f_law Y1 Y2 Y0 Y4 Y3 fi_Full fi_InvalidName fi_DuplicateMake fi_UnknownMake : Addr} {od1 an1 od2 an2 od3 an3 od4 an4 od5 an5 od6 an6 od7 an7 od8 an8 od9 an9 od10 an10 od11 an11 od12 an12 od13 an13 od14 an14 od15 an15 od16 an16 od17 an17 od18 an18 od19 an19 od20 an20 od21 an21 od22 an22 od23 an23 : Option Addr} {sl1 sl2 sl3 sl4 sl5 sl6 sl7 sl8 sl9 sl10 sl11 sl12 sl13 sl14 sl15 sl16 sl17 sl18 sl19 sl20 sl21 sl22 sl23 : Array (Option Value)} {oc1 kV1 dc1 pm1 ct1 cd1 oc2 kV2 dc2 pm2 ct2 cd2 oc3 kV3 dc3 pm3 ct3 cd3 oc4 kV4 dc4 pm4 ct4 cd4 oc5 kV5 dc5 pm5 ct5 cd5 oc6 kV6 dc6 pm6 ct6 cd6 oc7 kV7 dc7 pm7 ct7 cd7 oc8 kV8 dc8 pm8 ct8 cd8 oc9 kV9 dc9 pm9 ct9 cd9 oc10 kV10 dc10 pm10 ct10 cd10 oc11 kV11 dc11 pm11 ct11 cd11 oc12 kV12 dc12 pm12 ct12 cd12 oc13 kV13 dc13 pm13 ct13 cd13 oc14 kV14 dc14 pm14 ct14 cd14 oc15 kV15 dc15 pm15 ct15 cd15 oc16 kV16 dc16 pm16 ct16 cd16 oc17 kV17 dc17 pm17 ct17 cd17 oc18 kV18 dc18 pm18 ct18 cd18 oc19 kV19 dc19 pm19 ct19 cd19 oc20 kV20 dc20 pm20 ct20 cd20 oc21 kV21 dc21 pm21 ct21 cd21 oc22 kV22 dc22 pm22 ct22 cd22 oc23 kV23 dc23 pm23 ct23 cd23 : Value} {nm_Full q_Full : Str} {N_Full B_Full : Addr} {bs_Full su_Full : List Value} {sn_Full : List Str} {ab_Full : Bool} {co_Full : Option Bool} {dd_Full : Option Addr} {m0_Full m1_Full m2_Full m3_Full m5_Full : Option Value} {nm_InvalidName q_InvalidName : Str} {N_InvalidName B_InvalidName : Addr} {bs_InvalidName su_InvalidName : List Value} {sn_InvalidName : List Str} {ab_InvalidName : Bool} {co_InvalidName : Option Bool} {dd_InvalidName : Option Addr} {m0_InvalidName m1_InvalidName m2_InvalidName m3_InvalidName m5_InvalidName : Option Value} {nm_DuplicateMake q_DuplicateMake : Str} {N_DuplicateMake B_DuplicateMake : Addr} {bs_DuplicateMake su_DuplicateMake : List Value} {sn_DuplicateMake : List Str} {ab_DuplicateMake : Bool} {co_DuplicateMake : Option Bool} {dd_DuplicateMake : Option Addr} {m0_DuplicateMake m1_DuplicateMake m2_DuplicateMake m3_DuplicateMake m5_DuplicateMake : Option Value} {nm_UnknownMake q_UnknownMake : Str} {N_UnknownMake B_UnknownMake : Addr} {bs_UnknownMake su_UnknownMake : List Value} {sn_UnknownMake : List Str} {ab_UnknownMake : Bool} {co_UnknownMake : Option Bool} {dd_UnknownMake : Option Addr} {m0_UnknownMake m1_UnknownMake m2_UnknownMake m3_UnknownMake m5_UnknownMake : Option Value} {dT13 : Addr} {dN13 : Nat} {dO13 : Value} {dD13 : Option Addr} {dS13 : Array (Option Value)} {dE13_0 : Addr} {tk_LETTERS : Tok} {tk_LONGEST_NAME : Tok} {tk_MOST_MAKES : Tok} (X : K.In h) (G : h.Ns mainGlobals mg) (hfa : mg "law" = some (.ref fa))
    (g_Order : PySem.W.nsIn K mainGlobals "Order" = some (some (.ref Y3)))
    (a1 : PySem.W.nsIn K mainGlobals "_law_box" = some (some (.ref f_law_box)))
    (l1 : K.lookup f_law_box = some ⟨oc1, od1, .func (PySem.W.fnOf "_law_box" "_law_box" (defArgs (topS 21)) (defBody (topS 21)) (defScope (topS 21)) .none kV1 dc1 pm1 an1 cd1 ct1), sl1⟩)
    (c1 : PySem.W.codeIn K cd1 "_law_box" = true)
    (k1 : PySem.W.keepIn K (.ref f_law_box) = true)
    (a2 : PySem.W.nsIn K mainGlobals "_law_take" = some (some (.ref f_law_take)))
    (l2 : K.lookup f_law_take = some ⟨oc2, od2, .func (PySem.W.fnOf "_law_take" "_law_take" (defArgs (topS 22)) (defBody (topS 22)) (defScope (topS 22)) .none kV2 dc2 pm2 an2 cd2 ct2), sl2⟩)
    (c2 : PySem.W.codeIn K cd2 "_law_take" = true)
    (k2 : PySem.W.keepIn K (.ref f_law_take) = true)
    (a3 : PySem.W.nsIn K mainGlobals "_law_name" = some (some (.ref f_law_name)))
    (l3 : K.lookup f_law_name = some ⟨oc3, od3, .func (PySem.W.fnOf "_law_name" "_law_name" (defArgs (topS 23)) (defBody (topS 23)) (defScope (topS 23)) .none kV3 dc3 pm3 an3 cd3 ct3), sl3⟩)
    (c3 : PySem.W.codeIn K cd3 "_law_name" = true)
    (k3 : PySem.W.keepIn K (.ref f_law_name) = true)
    (a4 : PySem.W.nsIn K mainGlobals "_law_names" = some (some (.ref f_law_names)))
    (l4 : K.lookup f_law_names = some ⟨oc4, od4, .func (PySem.W.fnOf "_law_names" "_law_names" (defArgs (topS 24)) (defBody (topS 24)) (defScope (topS 24)) .none kV4 dc4 pm4 an4 cd4 ct4), sl4⟩)
    (c4 : PySem.W.codeIn K cd4 "_law_names" = true)
    (k4 : PySem.W.keepIn K (.ref f_law_names) = true)
    (a5 : PySem.W.nsIn K mainGlobals "_law_drawn_pairs" = some (some (.ref f_law_drawn_pairs)))
    (l5 : K.lookup f_law_drawn_pairs = some ⟨oc5, od5, .func (PySem.W.fnOf "_law_drawn_pairs" "_law_drawn_pairs" (defArgs (topS 25)) (defBody (topS 25)) (defScope (topS 25)) .none kV5 dc5 pm5 an5 cd5 ct5), sl5⟩)
    (c5 : PySem.W.codeIn K cd5 "_law_drawn_pairs" = true)
    (k5 : PySem.W.keepIn K (.ref f_law_drawn_pairs) = true)
    (a6 : PySem.W.nsIn K mainGlobals "_law_named" = some (some (.ref f_law_named)))
    (l6 : K.lookup f_law_named = some ⟨oc6, od6, .func (PySem.W.fnOf "_law_named" "_law_named" (defArgs (topS 26)) (defBody (topS 26)) (defScope (topS 26)) .none kV6 dc6 pm6 an6 cd6 ct6), sl6⟩)
    (c6 : PySem.W.codeIn K cd6 "_law_named" = true)
    (k6 : PySem.W.keepIn K (.ref f_law_named) = true)
    (a7 : PySem.W.nsIn K mainGlobals "check_name" = some (some (.ref f_check_name)))
    (l7 : K.lookup f_check_name = some ⟨oc7, od7, .func (PySem.W.fnOf "check_name" "check_name" (defArgs (topS 12)) (defBody (topS 12)) (defScope (topS 12)) .none kV7 dc7 pm7 an7 cd7 ct7), sl7⟩)
    (c7 : PySem.W.codeIn K cd7 "check_name" = true)
    (k7 : PySem.W.keepIn K (.ref f_check_name) = true)
    (a8 : PySem.W.nsIn K mainGlobals "check_makes" = some (some (.ref f_check_makes)))
    (l8 : K.lookup f_check_makes = some ⟨oc8, od8, .func (PySem.W.fnOf "check_makes" "check_makes" (defArgs (topS 13)) (defBody (topS 13)) (defScope (topS 13)) .none kV8 dc8 pm8 an8 cd8 ct8), sl8⟩)
    (c8 : PySem.W.codeIn K cd8 "check_makes" = true)
    (k8 : PySem.W.keepIn K (.ref f_check_makes) = true)
    (a9 : PySem.W.nsIn K mainGlobals "check_known" = some (some (.ref f_check_known)))
    (l9 : K.lookup f_check_known = some ⟨oc9, od9, .func (PySem.W.fnOf "check_known" "check_known" (defArgs (topS 14)) (defBody (topS 14)) (defScope (topS 14)) .none kV9 dc9 pm9 an9 cd9 ct9), sl9⟩)
    (c9 : PySem.W.codeIn K cd9 "check_known" = true)
    (k9 : PySem.W.keepIn K (.ref f_check_known) = true)
    (a10 : PySem.W.nsIn K mainGlobals "check_pairs" = some (some (.ref f_check_pairs)))
    (l10 : K.lookup f_check_pairs = some ⟨oc10, od10, .func (PySem.W.fnOf "check_pairs" "check_pairs" (defArgs (topS 15)) (defBody (topS 15)) (defScope (topS 15)) .none kV10 dc10 pm10 an10 cd10 ct10), sl10⟩)
    (c10 : PySem.W.codeIn K cd10 "check_pairs" = true)
    (k10 : PySem.W.keepIn K (.ref f_check_pairs) = true)
    (a11 : PySem.W.nsIn K mainGlobals "closed_rows" = some (some (.ref f_closed_rows)))
    (l11 : K.lookup f_closed_rows = some ⟨oc11, od11, .func (PySem.W.fnOf "closed_rows" "closed_rows" (defArgs (topS 17)) (defBody (topS 17)) (defScope (topS 17)) .none kV11 dc11 pm11 an11 cd11 ct11), sl11⟩)
    (c11 : PySem.W.codeIn K cd11 "closed_rows" = true)
    (k11 : PySem.W.keepIn K (.ref f_closed_rows) = true)
    (a12 : PySem.W.nsIn K mainGlobals "rows_of" = some (some (.ref f_rows_of)))
    (l12 : K.lookup f_rows_of = some ⟨oc12, od12, .func (PySem.W.fnOf "rows_of" "rows_of" (defArgs (topS 18)) (defBody (topS 18)) (defScope (topS 18)) .none kV12 dc12 pm12 an12 cd12 ct12), sl12⟩)
    (c12 : PySem.W.codeIn K cd12 "rows_of" = true)
    (k12 : PySem.W.keepIn K (.ref f_rows_of) = true)
    (a13 : PySem.W.findIn K (.ref Y3) "__init__" = some (some (.ref f_Order___init__)))
    (i13 : PySem.W.isFn K (.ref f_Order___init__) = true)
    (l13 : K.lookup f_Order___init__ = some ⟨oc13, od13, .func (PySem.W.fnOf "__init__" "Order.__init__" (defArgs (cls_st 19 1)) (defBody (cls_st 19 1)) (defScope (cls_st 19 1)) (.ref dT13) kV13 dc13 pm13 an13 cd13 ct13), sl13⟩)
    (c13 : PySem.W.codeIn K cd13 "Order.__init__" = true)
    (k13 : PySem.W.keepIn K (.ref f_Order___init__) = true)
    (d13 : K.lookup dT13 = some ⟨dO13, dD13, .seq #[.ref dE13_0] dN13, dS13⟩)
    (a14 : PySem.W.nsIn K mainGlobals "_law_closed" = some (some (.ref f_law_closed)))
    (l14 : K.lookup f_law_closed = some ⟨oc14, od14, .func (PySem.W.fnOf "_law_closed" "_law_closed" (defArgs (topS 27)) (defBody (topS 27)) (defScope (topS 27)) .none kV14 dc14 pm14 an14 cd14 ct14), sl14⟩)
    (c14 : PySem.W.codeIn K cd14 "_law_closed" = true)
    (k14 : PySem.W.keepIn K (.ref f_law_closed) = true)
    (a15 : PySem.W.nsIn K mainGlobals "_law_ready" = some (some (.ref f_law_ready)))
    (l15 : K.lookup f_law_ready = some ⟨oc15, od15, .func (PySem.W.fnOf "_law_ready" "_law_ready" (defArgs (topS 29)) (defBody (topS 29)) (defScope (topS 29)) .none kV15 dc15 pm15 an15 cd15 ct15), sl15⟩)
    (c15 : PySem.W.codeIn K cd15 "_law_ready" = true)
    (k15 : PySem.W.keepIn K (.ref f_law_ready) = true)
    (a16 : PySem.W.findIn K (.ref Y3) "has" = some (some (.ref f_Order_has)))
    (i16 : PySem.W.isFn K (.ref f_Order_has) = true)
    (l16 : K.lookup f_Order_has = some ⟨oc16, od16, .func (PySem.W.fnOf "has" "Order.has" (defArgs (cls_st 19 5)) (defBody (cls_st 19 5)) (defScope (cls_st 19 5)) .none kV16 dc16 pm16 an16 cd16 ct16), sl16⟩)
    (c16 : PySem.W.codeIn K cd16 "Order.has" = true)
    (k16 : PySem.W.keepIn K (.ref f_Order_has) = true)
    (a17 : PySem.W.findIn K (.ref Y3) "lowest_first" = some (some (.ref f_Order_lowest_first)))
    (i17 : PySem.W.isFn K (.ref f_Order_lowest_first) = true)
    (l17 : K.lookup f_Order_lowest_first = some ⟨oc17, od17, .func (PySem.W.fnOf "lowest_first" "Order.lowest_first" (defArgs (cls_st 19 15)) (defBody (cls_st 19 15)) (defScope (cls_st 19 15)) .none kV17 dc17 pm17 an17 cd17 ct17), sl17⟩)
    (c17 : PySem.W.codeIn K cd17 "Order.lowest_first" = true)
    (k17 : PySem.W.keepIn K (.ref f_Order_lowest_first) = true)
    (a18 : PySem.W.nsIn K mainGlobals "_law_are_names" = some (some (.ref f_law_are_names)))
    (l18 : K.lookup f_law_are_names = some ⟨oc18, od18, .func (PySem.W.fnOf "_law_are_names" "_law_are_names" (defArgs (topS 28)) (defBody (topS 28)) (defScope (topS 28)) .none kV18 dc18 pm18 an18 cd18 ct18), sl18⟩)
    (c18 : PySem.W.codeIn K cd18 "_law_are_names" = true)
    (k18 : PySem.W.keepIn K (.ref f_law_are_names) = true)
    (a19 : PySem.W.nsIn K mainGlobals "law" = some (some (.ref f_law)))
    (l19 : K.lookup f_law = some ⟨oc19, od19, .func (PySem.W.fnOf "law" "law" (defArgs (topS 30)) (defBody (topS 30)) (defScope (topS 30)) .none kV19 dc19 pm19 an19 cd19 ct19), sl19⟩)
    (c19 : PySem.W.codeIn K cd19 "law" = true)
    (k19 : PySem.W.keepIn K (.ref f_law) = true)
    (g_Full : PySem.W.nsIn K mainGlobals "Full" = some (some (.ref Y1)))
    (g_InvalidName : PySem.W.nsIn K mainGlobals "InvalidName" = some (some (.ref Y2)))
    (g_DuplicateMake : PySem.W.nsIn K mainGlobals "DuplicateMake" = some (some (.ref Y0)))
    (g_UnknownMake : PySem.W.nsIn K mainGlobals "UnknownMake" = some (some (.ref Y4)))
    (e_Full : PySem.W.subIn K (.ref Y1) (.type "BaseException") = some true)
    (ty_Full : PySem.W.typeIn K (.ref Y1) = some (.type "type"))
    (e_InvalidName : PySem.W.subIn K (.ref Y2) (.type "BaseException") = some true)
    (ty_InvalidName : PySem.W.typeIn K (.ref Y2) = some (.type "type"))
    (e_DuplicateMake : PySem.W.subIn K (.ref Y0) (.type "BaseException") = some true)
    (ty_DuplicateMake : PySem.W.typeIn K (.ref Y0) = some (.type "type"))
    (e_UnknownMake : PySem.W.subIn K (.ref Y4) (.type "BaseException") = some true)
    (ty_UnknownMake : PySem.W.typeIn K (.ref Y4) = some (.type "type"))
    (xl_Full : K.lookup Y1 = some (excClassObj nm_Full q_Full Y1 N_Full bs_Full (.ref B_Full :: [.type "ValueError", .type "Exception", .type "BaseException", .type "object"]) true sn_Full su_Full ab_Full co_Full dd_Full m0_Full m1_Full m2_Full m3_Full m5_Full "ValueError.__new__"))
    (sa_Full : PySem.W.findIn K (.ref Y1) "__setattr__" = some (some (.builtin "object.__setattr__")))
    (kc_Full : PySem.W.keepIn K (.ref Y1) = true)
    (nf_Full_most : PySem.W.findIn K (.ref Y1) "most" = some none)
    (i_Full : PySem.W.findIn K (.ref Y1) "__init__" = some (some (.ref fi_Full)))
    (t_Full : PySem.W.typeIn K (.ref fi_Full) = some (.type "function"))
    (l20 : K.lookup fi_Full = some ⟨oc20, od20, .func (PySem.W.fnOf "__init__" "Full.__init__" (defArgs (cls_st 6 0)) (defBody (cls_st 6 0)) (defScope (cls_st 6 0)) .none kV20 dc20 pm20 an20 cd20 ct20), sl20⟩)
    (c20 : PySem.W.codeIn K cd20 "Full.__init__" = true)
    (k20 : PySem.W.keepIn K (.ref fi_Full) = true)
    (xl_InvalidName : K.lookup Y2 = some (excClassObj nm_InvalidName q_InvalidName Y2 N_InvalidName bs_InvalidName (.ref B_InvalidName :: [.type "ValueError", .type "Exception", .type "BaseException", .type "object"]) true sn_InvalidName su_InvalidName ab_InvalidName co_InvalidName dd_InvalidName m0_InvalidName m1_InvalidName m2_InvalidName m3_InvalidName m5_InvalidName "ValueError.__new__"))
    (sa_InvalidName : PySem.W.findIn K (.ref Y2) "__setattr__" = some (some (.builtin "object.__setattr__")))
    (kc_InvalidName : PySem.W.keepIn K (.ref Y2) = true)
    (nf_InvalidName_name : PySem.W.findIn K (.ref Y2) "name" = some none)
    (i_InvalidName : PySem.W.findIn K (.ref Y2) "__init__" = some (some (.ref fi_InvalidName)))
    (t_InvalidName : PySem.W.typeIn K (.ref fi_InvalidName) = some (.type "function"))
    (l21 : K.lookup fi_InvalidName = some ⟨oc21, od21, .func (PySem.W.fnOf "__init__" "InvalidName.__init__" (defArgs (cls_st 3 0)) (defBody (cls_st 3 0)) (defScope (cls_st 3 0)) .none kV21 dc21 pm21 an21 cd21 ct21), sl21⟩)
    (c21 : PySem.W.codeIn K cd21 "InvalidName.__init__" = true)
    (k21 : PySem.W.keepIn K (.ref fi_InvalidName) = true)
    (xl_DuplicateMake : K.lookup Y0 = some (excClassObj nm_DuplicateMake q_DuplicateMake Y0 N_DuplicateMake bs_DuplicateMake (.ref B_DuplicateMake :: [.type "ValueError", .type "Exception", .type "BaseException", .type "object"]) true sn_DuplicateMake su_DuplicateMake ab_DuplicateMake co_DuplicateMake dd_DuplicateMake m0_DuplicateMake m1_DuplicateMake m2_DuplicateMake m3_DuplicateMake m5_DuplicateMake "ValueError.__new__"))
    (sa_DuplicateMake : PySem.W.findIn K (.ref Y0) "__setattr__" = some (some (.builtin "object.__setattr__")))
    (kc_DuplicateMake : PySem.W.keepIn K (.ref Y0) = true)
    (nf_DuplicateMake_name : PySem.W.findIn K (.ref Y0) "name" = some none)
    (i_DuplicateMake : PySem.W.findIn K (.ref Y0) "__init__" = some (some (.ref fi_DuplicateMake)))
    (t_DuplicateMake : PySem.W.typeIn K (.ref fi_DuplicateMake) = some (.type "function"))
    (l22 : K.lookup fi_DuplicateMake = some ⟨oc22, od22, .func (PySem.W.fnOf "__init__" "DuplicateMake.__init__" (defArgs (cls_st 4 0)) (defBody (cls_st 4 0)) (defScope (cls_st 4 0)) .none kV22 dc22 pm22 an22 cd22 ct22), sl22⟩)
    (c22 : PySem.W.codeIn K cd22 "DuplicateMake.__init__" = true)
    (k22 : PySem.W.keepIn K (.ref fi_DuplicateMake) = true)
    (xl_UnknownMake : K.lookup Y4 = some (excClassObj nm_UnknownMake q_UnknownMake Y4 N_UnknownMake bs_UnknownMake (.ref B_UnknownMake :: [.type "ValueError", .type "Exception", .type "BaseException", .type "object"]) true sn_UnknownMake su_UnknownMake ab_UnknownMake co_UnknownMake dd_UnknownMake m0_UnknownMake m1_UnknownMake m2_UnknownMake m3_UnknownMake m5_UnknownMake "ValueError.__new__"))
    (sa_UnknownMake : PySem.W.findIn K (.ref Y4) "__setattr__" = some (some (.builtin "object.__setattr__")))
    (kc_UnknownMake : PySem.W.keepIn K (.ref Y4) = true)
    (nf_UnknownMake_name : PySem.W.findIn K (.ref Y4) "name" = some none)
    (i_UnknownMake : PySem.W.findIn K (.ref Y4) "__init__" = some (some (.ref fi_UnknownMake)))
    (t_UnknownMake : PySem.W.typeIn K (.ref fi_UnknownMake) = some (.type "function"))
    (l23 : K.lookup fi_UnknownMake = some ⟨oc23, od23, .func (PySem.W.fnOf "__init__" "UnknownMake.__init__" (defArgs (cls_st 5 0)) (defBody (cls_st 5 0)) (defScope (cls_st 5 0)) .none kV23 dc23 pm23 an23 cd23 ct23), sl23⟩)
    (c23 : PySem.W.codeIn K cd23 "UnknownMake.__init__" = true)
    (k23 : PySem.W.keepIn K (.ref fi_UnknownMake) = true)
    (pg_Order : PySem.W.plainGet K Y3 Str.empty = true)
    (hd_Order : PySem.W.hasDictIn K Y3 = true)
    (po_Order : PySem.W.plainOver K Y3 = true)
    (sa_Order : PySem.W.findIn K (.ref Y3) "__setattr__" = some (some (.builtin "object.__setattr__")))
    (kk_LETTERS : PySem.W.nsIn K mainGlobals "LETTERS" = some (some (.str "abcdefghijklmnopqrstuvwxyz" tk_LETTERS)))
    (kk_LONGEST_NAME : PySem.W.nsIn K mainGlobals "LONGEST_NAME" = some (some (.int 12 tk_LONGEST_NAME)))
    (kk_MOST_MAKES : PySem.W.nsIn K mainGlobals "MOST_MAKES" = some (some (.int 12 tk_MOST_MAKES)))
    (nf_Order_names : PySem.W.findIn K (.ref Y3) "names" = some none)
    (nf_Order_rows : PySem.W.findIn K (.ref Y3) "rows" = some none)
    (mk_Order : PySem.W.makesIn K Y3 = true)
    (kc_Order : PySem.W.keepIn K (.ref Y3) = true)
    (z0 : PySem.W.nsIn K mainGlobals "any" = some none)
    (z1 : PySem.W.nsIn K mainGlobals "enumerate" = some none)
    (z2 : PySem.W.nsIn K mainGlobals "int" = some none)
    (z3 : PySem.W.nsIn K mainGlobals "isinstance" = some none)
    (z4 : PySem.W.nsIn K mainGlobals "len" = some none)
    (z5 : PySem.W.nsIn K mainGlobals "list" = some none)
    (z6 : PySem.W.nsIn K mainGlobals "min" = some none)
    (z7 : PySem.W.nsIn K mainGlobals "range" = some none)
    (z8 : PySem.W.nsIn K mainGlobals "str" = some none)
    (z9 : PySem.W.nsIn K mainGlobals "tuple" = some none)
    (hm : ∀ ns : List Int, ns.length ≤ 63 → ∃ os, m_law [scr ns] = .ok (.bl true) os) :
    ∃ fd : FuncData, (∀ (s : Shared) (v : Value), BindsTo s fd ⟨[v], []⟩ [("_law_script", v)]) ∧ ∀ base : Heap, K.In base → base.Ns mainGlobals mg → FnOk P w K mg base (L2N.CX P w) 7 fa fd ["_law_script"] (spLaw K 63) := by
  have e := hfa.symm.trans (PySem.W.mg_of X G a19)
  cases e
  have F1 := fun_mk (st := (topS 21)) l1 c1 k1
  have B1 := F1.binds (ps := ["_law_script"]) fun _ _ _ _ _ _ us hl => match us, hl with | [_], _ => rfl
  have F2 := fun_mk (st := (topS 22)) l2 c2 k2
  have B2 := F2.binds (ps := ["_law_box_here", "_law_many"]) fun _ _ _ _ _ _ us hl => match us, hl with | [_, _], _ => rfl
  have F3 := fun_mk (st := (topS 23)) l3 c3 k3
  have B3 := F3.binds (ps := ["_law_box_here", "_law_names_here"]) fun _ _ _ _ _ _ us hl => match us, hl with | [_, _], _ => rfl
  have F4 := fun_mk (st := (topS 24)) l4 c4 k4
  have B4 := F4.binds (ps := ["_law_box_here", "_law_size"]) fun _ _ _ _ _ _ us hl => match us, hl with | [_, _], _ => rfl
  have F5 := fun_mk (st := (topS 25)) l5 c5 k5
  have B5 := F5.binds (ps := ["_law_box_here", "_law_size", "_law_count"]) fun _ _ _ _ _ _ us hl => match us, hl with | [_, _, _], _ => rfl
  have F6 := fun_mk (st := (topS 26)) l6 c6 k6
  have B6 := F6.binds (ps := ["_law_names_here", "_law_pairs"]) fun _ _ _ _ _ _ us hl => match us, hl with | [_, _], _ => rfl
  have F7 := fun_mk (st := (topS 12)) l7 c7 k7
  have B7 := F7.binds (ps := ["name"]) fun _ _ _ _ _ _ us hl => match us, hl with | [_], _ => rfl
  have F8 := fun_mk (st := (topS 13)) l8 c8 k8
  have B8 := F8.binds (ps := ["makes"]) fun _ _ _ _ _ _ us hl => match us, hl with | [_], _ => rfl
  have F9 := fun_mk (st := (topS 14)) l9 c9 k9
  have B9 := F9.binds (ps := ["makes", "names"]) fun _ _ _ _ _ _ us hl => match us, hl with | [_, _], _ => rfl
  have F10 := fun_mk (st := (topS 15)) l10 c10 k10
  have B10 := F10.binds (ps := ["makes", "pairs"]) fun _ _ _ _ _ _ us hl => match us, hl with | [_, _], _ => rfl
  have F11 := fun_mk (st := (topS 17)) l11 c11 k11
  have B11 := F11.binds (ps := ["rows"]) fun _ _ _ _ _ _ us hl => match us, hl with | [_], _ => rfl
  have F12 := fun_mk (st := (topS 18)) l12 c12 k12
  have B12 := F12.binds (ps := ["names", "pairs"]) fun _ _ _ _ _ _ us hl => match us, hl with | [_, _], _ => rfl
  have F13 : FunD K "__init__" "Order.__init__" (defArgs (cls_st 19 1)) (defBody (cls_st 19 1)) (defScope (cls_st 19 1)) [.ref dE13_0] [] f_Order___init__ (PySem.W.fnOf "__init__" "Order.__init__" (defArgs (cls_st 19 1)) (defBody (cls_st 19 1)) (defScope (cls_st 19 1)) (.ref dT13) kV13 dc13 pm13 an13 cd13 ct13) := ⟨⟨_, _, _, _, _, _, _, _, _, _, rfl, l13, c13, .inr ⟨(by simp), dT13, _, [.ref dE13_0], dN13, rfl, d13, rfl, (.cons rfl .nil)⟩, .inl rfl⟩, k13⟩
  have B13 := bindsAll F13 (ps := ["self", "makes", "pairs"]) 3 (by simp) rfl fun _ _ _ _ _ _ _ us its h1 h2 => match us, h1, its, h2 with | [_, _, _], _, [_], _ => ⟨_, rfl, rfl⟩
  have F14 := fun_mk (st := (topS 27)) l14 c14 k14
  have B14 := F14.binds (ps := ["_law_size", "_law_pairs"]) fun _ _ _ _ _ _ us hl => match us, hl with | [_, _], _ => rfl
  have F15 := fun_mk (st := (topS 29)) l15 c15 k15
  have B15 := F15.binds (ps := ["_law_reach", "_law_left", "_law_a"]) fun _ _ _ _ _ _ us hl => match us, hl with | [_, _, _], _ => rfl
  have F16 := fun_mk (st := (cls_st 19 5)) l16 c16 k16
  have B16 := F16.binds (ps := ["self", "upper", "lower"]) fun _ _ _ _ _ _ us hl => match us, hl with | [_, _, _], _ => rfl
  have F17 := fun_mk (st := (cls_st 19 15)) l17 c17 k17
  have B17 := F17.binds (ps := ["self"]) fun _ _ _ _ _ _ us hl => match us, hl with | [_], _ => rfl
  have F18 := fun_mk (st := (topS 28)) l18 c18 k18
  have B18 := F18.binds (ps := ["_law_value", "_law_expected"]) fun _ _ _ _ _ _ us hl => match us, hl with | [_, _], _ => rfl
  have F19 := fun_mk (st := (topS 30)) l19 c19 k19
  have B19 := F19.binds (ps := ["_law_script"]) fun _ _ _ _ _ _ us hl => match us, hl with | [_], _ => rfl
  have F20 := fun_mk (st := (cls_st 6 0)) l20 c20 k20
  have B20 := F20.binds (ps := ["self", "most"]) fun _ _ _ _ _ _ us hl => match us, hl with | [_, _], _ => rfl
  have F21 := fun_mk (st := (cls_st 3 0)) l21 c21 k21
  have B21 := F21.binds (ps := ["self", "name"]) fun _ _ _ _ _ _ us hl => match us, hl with | [_, _], _ => rfl
  have F22 := fun_mk (st := (cls_st 4 0)) l22 c22 k22
  have B22 := F22.binds (ps := ["self", "name"]) fun _ _ _ _ _ _ us hl => match us, hl with | [_, _], _ => rfl
  have F23 := fun_mk (st := (cls_st 5 0)) l23 c23 k23
  have B23 := F23.binds (ps := ["self", "name"]) fun _ _ _ _ _ _ us hl => match us, hl with | [_, _], _ => rfl
  have T : Txt K mg f_law_box f_law_take f_law_name f_law_names f_law_drawn_pairs f_law_named f_check_name f_check_makes f_check_known f_check_pairs f_closed_rows f_rows_of f_Order___init__ f_law_closed f_law_ready f_Order_has f_Order_lowest_first f_law_are_names fa Y1 Y2 Y0 Y4 Y3 fi_Full fi_InvalidName fi_DuplicateMake fi_UnknownMake _ _ _ _ _ _ _ _ _ _ _ _ _ _ _ _ _ _ _ _ _ _ _ :=
    { b_any := PySem.W.mg_none_of X G z0,
      b_enumerate := PySem.W.mg_none_of X G z1,
      b_int := PySem.W.mg_none_of X G z2,
      b_isinstance := PySem.W.mg_none_of X G z3,
      b_len := PySem.W.mg_none_of X G z4,
      b_list := PySem.W.mg_none_of X G z5,
      b_min := PySem.W.mg_none_of X G z6,
      b_range := PySem.W.mg_none_of X G z7,
      b_str := PySem.W.mg_none_of X G z8,
      b_tuple := PySem.W.mg_none_of X G z9,
      F_law_box := F1,
      a_law_box := B1,
      g_law_box := PySem.W.mg_of X G a1,
      F_law_take := F2,
      a_law_take := B2,
      g_law_take := PySem.W.mg_of X G a2,
      F_law_name := F3,
      a_law_name := B3,
      g_law_name := PySem.W.mg_of X G a3,
      F_law_names := F4,
      a_law_names := B4,
      g_law_names := PySem.W.mg_of X G a4,
      F_law_drawn_pairs := F5,
      a_law_drawn_pairs := B5,
      g_law_drawn_pairs := PySem.W.mg_of X G a5,
      F_law_named := F6,
      a_law_named := B6,
      g_law_named := PySem.W.mg_of X G a6,
      F_check_name := F7,
      a_check_name := B7,
      g_check_name := PySem.W.mg_of X G a7,
      F_check_makes := F8,
      a_check_makes := B8,
      g_check_makes := PySem.W.mg_of X G a8,
      F_check_known := F9,
      a_check_known := B9,
      g_check_known := PySem.W.mg_of X G a9,
      F_check_pairs := F10,
      a_check_pairs := B10,
      g_check_pairs := PySem.W.mg_of X G a10,
      F_closed_rows := F11,
      a_closed_rows := B11,
      g_closed_rows := PySem.W.mg_of X G a11,
      F_rows_of := F12,
      a_rows_of := B12,
      g_rows_of := PySem.W.mg_of X G a12,
      F_Order___init__ := ⟨_, F13⟩,
      a_Order___init__ := B13,
      kp_Order___init__ := k13,
      F_law_closed := F14,
      a_law_closed := B14,
      g_law_closed := PySem.W.mg_of X G a14,
      F_law_ready := F15,
      a_law_ready := B15,
      g_law_ready := PySem.W.mg_of X G a15,
      F_Order_has := F16,
      a_Order_has := B16,
      F_Order_lowest_first := F17,
      a_Order_lowest_first := B17,
      F_law_are_names := F18,
      a_law_are_names := B18,
      g_law_are_names := PySem.W.mg_of X G a18,
      F_law := F19,
      a_law := B19,
      g_law := PySem.W.mg_of X G a19,
      g_Full := PySem.W.mg_of X G g_Full,
      c_Full := rfl,
      g_InvalidName := PySem.W.mg_of X G g_InvalidName,
      c_InvalidName := rfl,
      g_DuplicateMake := PySem.W.mg_of X G g_DuplicateMake,
      c_DuplicateMake := rfl,
      g_UnknownMake := PySem.W.mg_of X G g_UnknownMake,
      c_UnknownMake := rfl,
      g_Order := PySem.W.mg_of X G g_Order,
      c_Order := rfl,
      x_Full := ⟨⟨_, _, _, _, _, _, _, _, _, _, _, _, _, _, _, xl_Full, rfl⟩, sa_Full, e_Full, ty_Full, kc_Full⟩,
      nf_Full := by intro f q; simp only [List.mem_cons, List.not_mem_nil, or_false] at q; rcases q with rfl <;> first | exact nf_Full_most,
      i_Full := i_Full,
      t_Full := t_Full,
      F_Full := F20,
      a_Full := B20,
      x_InvalidName := ⟨⟨_, _, _, _, _, _, _, _, _, _, _, _, _, _, _, xl_InvalidName, rfl⟩, sa_InvalidName, e_InvalidName, ty_InvalidName, kc_InvalidName⟩,
      nf_InvalidName := by intro f q; simp only [List.mem_cons, List.not_mem_nil, or_false] at q; rcases q with rfl <;> first | exact nf_InvalidName_name,
      i_InvalidName := i_InvalidName,
      t_InvalidName := t_InvalidName,
      F_InvalidName := F21,
      a_InvalidName := B21,
      x_DuplicateMake := ⟨⟨_, _, _, _, _, _, _, _, _, _, _, _, _, _, _, xl_DuplicateMake, rfl⟩, sa_DuplicateMake, e_DuplicateMake, ty_DuplicateMake, kc_DuplicateMake⟩,
      nf_DuplicateMake := by intro f q; simp only [List.mem_cons, List.not_mem_nil, or_false] at q; rcases q with rfl <;> first | exact nf_DuplicateMake_name,
      i_DuplicateMake := i_DuplicateMake,
      t_DuplicateMake := t_DuplicateMake,
      F_DuplicateMake := F22,
      a_DuplicateMake := B22,
      x_UnknownMake := ⟨⟨_, _, _, _, _, _, _, _, _, _, _, _, _, _, _, xl_UnknownMake, rfl⟩, sa_UnknownMake, e_UnknownMake, ty_UnknownMake, kc_UnknownMake⟩,
      nf_UnknownMake := by intro f q; simp only [List.mem_cons, List.not_mem_nil, or_false] at q; rcases q with rfl <;> first | exact nf_UnknownMake_name,
      i_UnknownMake := i_UnknownMake,
      t_UnknownMake := t_UnknownMake,
      F_UnknownMake := F23,
      a_UnknownMake := B23,
      cl_Order := ⟨pg_Order, hd_Order, po_Order, sa_Order⟩,
      k_LETTERS := ⟨_, PySem.W.mg_of X G kk_LETTERS⟩,
      k_LONGEST_NAME := ⟨_, PySem.W.mg_of X G kk_LONGEST_NAME⟩,
      k_MOST_MAKES := ⟨_, PySem.W.mg_of X G kk_MOST_MAKES⟩,
      fl_Order_names := fun C q => by cases (show some Y3 = some C from q); exact ⟨⟨pg_Order, hd_Order, po_Order, sa_Order⟩, nf_Order_names⟩,
      fl_Order_rows := fun C q => by cases (show some Y3 = some C from q); exact ⟨⟨pg_Order, hd_Order, po_Order, sa_Order⟩, nf_Order_rows⟩,
      m_Order_has := ⟨a16, i16, k16⟩,
      m_Order_lowest_first := ⟨a17, i17, k17⟩,
      mk_Order := ⟨mk_Order, a13, i13, kc_Order⟩ }
  exact ⟨PySem.W.fnOf "law" "law" (defArgs (topS 30)) (defBody (topS 30)) (defScope (topS 30)) .none kV19 dc19 pm19 an19 cd19 ct19, fun s v => .of_eq rfl, fun base _ _ => law_fn0 hm (ok_law T)⟩
end Lw
open PySem PySem.W PyProof.Rows
set_option maxHeartbeats 0 in
theorem PySem.Challenge.cw_chairstack_k08_lowest_first_holds : PySem.Challenge.rw_chairstack_k08_lowest_first.Holds := by
  refine Lw.law_top ?_
  k_fill
  refine L2.walk_of (l := PySem.Challenge.rw_chairstack_k08_lowest_first) (n := 63) (k := 7) (x := "_law_script") (CX := fun w => L2N.CX PySem.Challenge.rw_chairstack_k08_lowest_first.prog w) (sp := fun w => Cs.spLaw _ 63) rfl (by decide) rfl ⟨rfl, by decide, by decide⟩ (fun w h Y => PySem.W.kIn_of Y) ?F (fun _ _ a ns hl _ hS => ⟨a, ns, rfl, hS, hl, fun _ => rfl⟩) (fun _ _ _ _ _ h => Cs.cx_false h)
  case F =>
    intro w mg fa h KX G hmg
    refine' Lw.all_mk KX G hmg ?g_Order ?a1 ?l1 ?c1 ?k1 ?a2 ?l2 ?c2 ?k2 ?a3 ?l3 ?c3 ?k3 ?a4 ?l4 ?c4 ?k4 ?a5 ?l5 ?c5 ?k5 ?a6 ?l6 ?c6 ?k6 ?a7 ?l7 ?c7 ?k7 ?a8 ?l8 ?c8 ?k8 ?a9 ?l9 ?c9 ?k9 ?a10 ?l10 ?c10 ?k10 ?a11 ?l11 ?c11 ?k11 ?a12 ?l12 ?c12 ?k12 ?a13 ?i13 ?l13 ?c13 ?k13 ?d13 ?a14 ?l14 ?c14 ?k14 ?a15 ?l15 ?c15 ?k15 ?a16 ?i16 ?l16 ?c16 ?k16 ?a17 ?i17 ?l17 ?c17 ?k17 ?a18 ?l18 ?c18 ?k18 ?a19 ?l19 ?c19 ?k19 ?g_Full ?g_InvalidName ?g_DuplicateMake ?g_UnknownMake ?e_Full ?ty_Full ?e_InvalidName ?ty_InvalidName ?e_DuplicateMake ?ty_DuplicateMake ?e_UnknownMake ?ty_UnknownMake ?xl_Full ?sa_Full ?kc_Full ?nf_Full_most ?i_Full ?t_Full ?l20 ?c20 ?k20 ?xl_InvalidName ?sa_InvalidName ?kc_InvalidName ?nf_InvalidName_name ?i_InvalidName ?t_InvalidName ?l21 ?c21 ?k21 ?xl_DuplicateMake ?sa_DuplicateMake ?kc_DuplicateMake ?nf_DuplicateMake_name ?i_DuplicateMake ?t_DuplicateMake ?l22 ?c22 ?k22 ?xl_UnknownMake ?sa_UnknownMake ?kc_UnknownMake ?nf_UnknownMake_name ?i_UnknownMake ?t_UnknownMake ?l23 ?c23 ?k23 ?pg_Order ?hd_Order ?po_Order ?sa_Order ?kk_LETTERS ?kk_LONGEST_NAME ?kk_MOST_MAKES ?nf_Order_names ?nf_Order_rows ?mk_Order ?kc_Order ?z0 ?z1 ?z2 ?z3 ?z4 ?z5 ?z6 ?z7 ?z8 ?z9 Lw.law_true
    (case g_Order => first | k_is | rfl | kernel_rfl)
    (case a1 => first | k_is | rfl | kernel_rfl)
    (case l1 => first | k_is | rfl | kernel_rfl)
    (case c1 => first | k_is | rfl | kernel_rfl)
    (case k1 => first | k_is | rfl | kernel_rfl)
    (case a2 => first | k_is | rfl | kernel_rfl)
    (case l2 => first | k_is | rfl | kernel_rfl)
    (case c2 => first | k_is | rfl | kernel_rfl)
    (case k2 => first | k_is | rfl | kernel_rfl)
    (case a3 => first | k_is | rfl | kernel_rfl)
    (case l3 => first | k_is | rfl | kernel_rfl)
    (case c3 => first | k_is | rfl | kernel_rfl)
    (case k3 => first | k_is | rfl | kernel_rfl)
    (case a4 => first | k_is | rfl | kernel_rfl)
    (case l4 => first | k_is | rfl | kernel_rfl)
    (case c4 => first | k_is | rfl | kernel_rfl)
    (case k4 => first | k_is | rfl | kernel_rfl)
    (case a5 => first | k_is | rfl | kernel_rfl)
    (case l5 => first | k_is | rfl | kernel_rfl)
    (case c5 => first | k_is | rfl | kernel_rfl)
    (case k5 => first | k_is | rfl | kernel_rfl)
    (case a6 => first | k_is | rfl | kernel_rfl)
    (case l6 => first | k_is | rfl | kernel_rfl)
    (case c6 => first | k_is | rfl | kernel_rfl)
    (case k6 => first | k_is | rfl | kernel_rfl)
    (case a7 => first | k_is | rfl | kernel_rfl)
    (case l7 => first | k_is | rfl | kernel_rfl)
    (case c7 => first | k_is | rfl | kernel_rfl)
    (case k7 => first | k_is | rfl | kernel_rfl)
    (case a8 => first | k_is | rfl | kernel_rfl)
    (case l8 => first | k_is | rfl | kernel_rfl)
    (case c8 => first | k_is | rfl | kernel_rfl)
    (case k8 => first | k_is | rfl | kernel_rfl)
    (case a9 => first | k_is | rfl | kernel_rfl)
    (case l9 => first | k_is | rfl | kernel_rfl)
    (case c9 => first | k_is | rfl | kernel_rfl)
    (case k9 => first | k_is | rfl | kernel_rfl)
    (case a10 => first | k_is | rfl | kernel_rfl)
    (case l10 => first | k_is | rfl | kernel_rfl)
    (case c10 => first | k_is | rfl | kernel_rfl)
    (case k10 => first | k_is | rfl | kernel_rfl)
    (case a11 => first | k_is | rfl | kernel_rfl)
    (case l11 => first | k_is | rfl | kernel_rfl)
    (case c11 => first | k_is | rfl | kernel_rfl)
    (case k11 => first | k_is | rfl | kernel_rfl)
    (case a12 => first | k_is | rfl | kernel_rfl)
    (case l12 => first | k_is | rfl | kernel_rfl)
    (case c12 => first | k_is | rfl | kernel_rfl)
    (case k12 => first | k_is | rfl | kernel_rfl)
    (case a13 => first | k_is | rfl | kernel_rfl)
    (case i13 => first | k_is | rfl | kernel_rfl)
    (case l13 => first | k_is | rfl | kernel_rfl)
    (case c13 => first | k_is | rfl | kernel_rfl)
    (case k13 => first | k_is | rfl | kernel_rfl)
    (case d13 => first | k_is | rfl | kernel_rfl)
    (case a14 => first | k_is | rfl | kernel_rfl)
    (case l14 => first | k_is | rfl | kernel_rfl)
    (case c14 => first | k_is | rfl | kernel_rfl)
    (case k14 => first | k_is | rfl | kernel_rfl)
    (case a15 => first | k_is | rfl | kernel_rfl)
    (case l15 => first | k_is | rfl | kernel_rfl)
    (case c15 => first | k_is | rfl | kernel_rfl)
    (case k15 => first | k_is | rfl | kernel_rfl)
    (case a16 => first | k_is | rfl | kernel_rfl)
    (case i16 => first | k_is | rfl | kernel_rfl)
    (case l16 => first | k_is | rfl | kernel_rfl)
    (case c16 => first | k_is | rfl | kernel_rfl)
    (case k16 => first | k_is | rfl | kernel_rfl)
    (case a17 => first | k_is | rfl | kernel_rfl)
    (case i17 => first | k_is | rfl | kernel_rfl)
    (case l17 => first | k_is | rfl | kernel_rfl)
    (case c17 => first | k_is | rfl | kernel_rfl)
    (case k17 => first | k_is | rfl | kernel_rfl)
    (case a18 => first | k_is | rfl | kernel_rfl)
    (case l18 => first | k_is | rfl | kernel_rfl)
    (case c18 => first | k_is | rfl | kernel_rfl)
    (case k18 => first | k_is | rfl | kernel_rfl)
    (case a19 => first | k_is | rfl | kernel_rfl)
    (case l19 => first | k_is | rfl | kernel_rfl)
    (case c19 => first | k_is | rfl | kernel_rfl)
    (case k19 => first | k_is | rfl | kernel_rfl)
    (case g_Full => first | k_is | rfl | kernel_rfl)
    (case g_InvalidName => first | k_is | rfl | kernel_rfl)
    (case g_DuplicateMake => first | k_is | rfl | kernel_rfl)
    (case g_UnknownMake => first | k_is | rfl | kernel_rfl)
    (case e_Full => first | k_is | rfl | kernel_rfl)
    (case ty_Full => first | k_is | rfl | kernel_rfl)
    (case e_InvalidName => first | k_is | rfl | kernel_rfl)
    (case ty_InvalidName => first | k_is | rfl | kernel_rfl)
    (case e_DuplicateMake => first | k_is | rfl | kernel_rfl)
    (case ty_DuplicateMake => first | k_is | rfl | kernel_rfl)
    (case e_UnknownMake => first | k_is | rfl | kernel_rfl)
    (case ty_UnknownMake => first | k_is | rfl | kernel_rfl)
    (case xl_Full => first | k_is | rfl | kernel_rfl)
    (case sa_Full => first | k_is | rfl | kernel_rfl)
    (case kc_Full => first | k_is | rfl | kernel_rfl)
    (case nf_Full_most => first | k_is | rfl | kernel_rfl)
    (case i_Full => first | k_is | rfl | kernel_rfl)
    (case t_Full => first | k_is | rfl | kernel_rfl)
    (case l20 => first | k_is | rfl | kernel_rfl)
    (case c20 => first | k_is | rfl | kernel_rfl)
    (case k20 => first | k_is | rfl | kernel_rfl)
    (case xl_InvalidName => first | k_is | rfl | kernel_rfl)
    (case sa_InvalidName => first | k_is | rfl | kernel_rfl)
    (case kc_InvalidName => first | k_is | rfl | kernel_rfl)
    (case nf_InvalidName_name => first | k_is | rfl | kernel_rfl)
    (case i_InvalidName => first | k_is | rfl | kernel_rfl)
    (case t_InvalidName => first | k_is | rfl | kernel_rfl)
    (case l21 => first | k_is | rfl | kernel_rfl)
    (case c21 => first | k_is | rfl | kernel_rfl)
    (case k21 => first | k_is | rfl | kernel_rfl)
    (case xl_DuplicateMake => first | k_is | rfl | kernel_rfl)
    (case sa_DuplicateMake => first | k_is | rfl | kernel_rfl)
    (case kc_DuplicateMake => first | k_is | rfl | kernel_rfl)
    (case nf_DuplicateMake_name => first | k_is | rfl | kernel_rfl)
    (case i_DuplicateMake => first | k_is | rfl | kernel_rfl)
    (case t_DuplicateMake => first | k_is | rfl | kernel_rfl)
    (case l22 => first | k_is | rfl | kernel_rfl)
    (case c22 => first | k_is | rfl | kernel_rfl)
    (case k22 => first | k_is | rfl | kernel_rfl)
    (case xl_UnknownMake => first | k_is | rfl | kernel_rfl)
    (case sa_UnknownMake => first | k_is | rfl | kernel_rfl)
    (case kc_UnknownMake => first | k_is | rfl | kernel_rfl)
    (case nf_UnknownMake_name => first | k_is | rfl | kernel_rfl)
    (case i_UnknownMake => first | k_is | rfl | kernel_rfl)
    (case t_UnknownMake => first | k_is | rfl | kernel_rfl)
    (case l23 => first | k_is | rfl | kernel_rfl)
    (case c23 => first | k_is | rfl | kernel_rfl)
    (case k23 => first | k_is | rfl | kernel_rfl)
    (case pg_Order => first | k_is | rfl | kernel_rfl)
    (case hd_Order => first | k_is | rfl | kernel_rfl)
    (case po_Order => first | k_is | rfl | kernel_rfl)
    (case sa_Order => first | k_is | rfl | kernel_rfl)
    (case kk_LETTERS => first | k_is | rfl | kernel_rfl)
    (case kk_LONGEST_NAME => first | k_is | rfl | kernel_rfl)
    (case kk_MOST_MAKES => first | k_is | rfl | kernel_rfl)
    (case nf_Order_names => first | k_is | rfl | kernel_rfl)
    (case nf_Order_rows => first | k_is | rfl | kernel_rfl)
    (case mk_Order => first | k_is | rfl | kernel_rfl)
    (case kc_Order => first | k_is | rfl | kernel_rfl)
    (case z0 => first | k_is | rfl | kernel_rfl)
    (case z1 => first | k_is | rfl | kernel_rfl)
    (case z2 => first | k_is | rfl | kernel_rfl)
    (case z3 => first | k_is | rfl | kernel_rfl)
    (case z4 => first | k_is | rfl | kernel_rfl)
    (case z5 => first | k_is | rfl | kernel_rfl)
    (case z6 => first | k_is | rfl | kernel_rfl)
    (case z7 => first | k_is | rfl | kernel_rfl)
    (case z8 => first | k_is | rfl | kernel_rfl)
    (case z9 => first | k_is | rfl | kernel_rfl)
