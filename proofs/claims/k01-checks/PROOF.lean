import PyProof.Rows.All
import Wide.All
import OpenK.AllK
import Wide.FinOn
import HandS.ForExc
import HandS.Comp
import HandS.Iter
import HandS.Dict
import HandS.Text
import HandS.CallSlots
import HandS.IsInst
import HandS.Wide
import HandS.Deep
import HandS.Lambda
import HandS.EndTab
import HandS.Flow
import HandS.WordsExc
import HandS.Zip
import HandS.TupAny
import HandS.Conv
import HandS.Style
import KE.SortKeyHeap
import HandS.ExcInit
import HandS.HeadHook4
import HandS.HeadWalk
import HandS.TryMany
import HandS.HeadHook3
import KE.KStateDown
import Lean
import HandS.Base
import HandS.Call
import HandS.Ends
import HandS.More
import HandS.Words
import HandS.Defaults
import HandS.Head0
import HandS.Head1
import HandS.Head2
import HandS.HeadEnd
import HandS.HeadHook1
import HandS.HeadHook2
import PySem.Challenge.RW_borderwords_k01_checks_of_any_value
import HandS.ExcField
import HandS.SortKw
import KE.KSortKey
set_option Elab.async false
set_option linter.all false
set_option maxRecDepth 100000
set_option maxHeartbeats 4000000
/-! T1: trees: what values stand for, frames, steps -/
namespace TM
open PySem PySem.Spec PyProof.Rows L2

/-- the tables of code objects that defs of the program write, each with the name of the code in it; kt: written tuples are looked at, too -/
class Tbs where
  T : List (Addr × Str)
  kt : Bool
variable [Tbs]
/-- a tree: what a value stands for -/
inductive D where
  | non | bl (b : Bool) | int (i : Int) | str (s : Str)
  | lst (xs : List D) | fz (xs : List D) | tup (xs : List D) | dct (kvs : List (Key × D)) | ins (C : Addr) (fs : List (Str × D)) | opq (v : V)

abbrev St := L2.St
def Uni (S T : Addr → Prop) : Addr → Prop := fun a => S a ∨ T a
/-- written lists and tuples -/
def KL (K : PySem.W.Frag) (a : Addr) (xs : List V) : Prop :=
  ∃ (o : Obj) (its : Array Value) (n : Nat), K.lookup a = some o ∧ o.cls = .type "list" ∧ o.dict = none ∧ o.data = .seq its n ∧ its.size ≤ sizeLine ∧ Vals xs its.toList
def KT (K : PySem.W.Frag) (a : Addr) (xs : List V) : Prop :=
  ∃ (o : Obj) (its : Array Value) (n : Nat), K.lookup a = some o ∧ o.cls = .type "tuple" ∧ o.data = .seq its n ∧ its.size ≤ sizeLine ∧ Vals xs its.toList

def SL (N : Addr → Prop) (H : Hp) (a : Addr) (xs : List V) : Prop := ¬ N a ∧ H a = some (.lst xs)
section
variable (K : PySem.W.Frag)
def SF (N : Addr → Prop) (H : Hp) (a : Addr) (xs : List V) : Prop := (¬ N a ∧ Rd H a (.lst xs)) ∨ KL K a xs
def ST (N : Addr → Prop) (H : Hp) (a : Addr) (xs : List V) : Prop := (¬ N a ∧ H a = some (.tup xs)) ∨ (Tbs.kt = true ∧ KT K a xs)
mutual
/-- the value v stands for the tree d in the heap H, and nothing of it lies in N -/
def Rep (N : Addr → Prop) (H : Hp) : D → V → Prop
  | .non, v => v = .non
  | .bl b, v => v = .bl b
  | .int i, v => v = .int i
  | .str s, v => v = .str s
  | .opq u, v => v = u
  | .lst ds, v => ∃ a vs, v = .ref a ∧ SL N H a vs ∧ Reps N H ds vs
  | .fz ds, v => ∃ a vs, v = .ref a ∧ SF K N H a vs ∧ Reps N H ds vs
  | .tup ds, v => ∃ a vs, v = .ref a ∧ ST K N H a vs ∧ Reps N H ds vs
  | .dct ks, v => ∃ a kvs, v = .ref a ∧ ¬ N a ∧ H a = some (.dK kvs) ∧ RepK N H ks kvs
  | .ins C fs, v => ∃ a dx vfs, v = .ref a ∧ ¬ N a ∧ H a = some (.ins C dx vfs) ∧ RepF N H fs vfs
def Reps (N : Addr → Prop) (H : Hp) : List D → List V → Prop
  | [], vs => vs = []
  | d :: ds, vs => ∃ v r, vs = v :: r ∧ Rep N H d v ∧ Reps N H ds r
def RepK (N : Addr → Prop) (H : Hp) : List (Key × D) → List (Key × V) → Prop
  | [], vs => vs = []
  | (k, d) :: ds, vs => ∃ v r, vs = (k, v) :: r ∧ Rep N H d v ∧ RepK N H ds r
def RepF (N : Addr → Prop) (H : Hp) : List (Str × D) → List (Str × V) → Prop
  | [], vs => vs = []
  | (k, d) :: ds, vs => ∃ v r, vs = (k, v) :: r ∧ Rep N H d v ∧ RepF N H ds r
end
end
/-- no table of code objects -/
class Fix (o : HO) : Prop where
  no : ∀ ps, o ≠ .tbl ps
instance {xs : List V} : Fix (.lst xs) := ⟨fun _ z => nomatch z⟩
instance {xs : List V} : Fix (.tup xs) := ⟨fun _ z => nomatch z⟩
instance {xs : List (Key × V)} : Fix (.dK xs) := ⟨fun _ z => nomatch z⟩
instance {C d : Addr} {fs : List (Str × V)} : Fix (.ins C d fs) := ⟨fun _ z => nomatch z⟩
instance {fs : List (Str × V)} : Fix (.xd fs) := ⟨fun _ z => nomatch z⟩
instance {o : Obj} {u : HO} : Fix (.frz o u) := ⟨fun _ z => nomatch z⟩
/-- neither a table nor known by itself -/
class Plain (o : HO) : Prop extends Fix o where
  ne : ∀ φ, o ≠ .ext φ
instance {xs : List V} : Plain (.lst xs) := ⟨fun _ z => nomatch z⟩
instance {xs : List V} : Plain (.tup xs) := ⟨fun _ z => nomatch z⟩
instance {xs : List (Key × V)} : Plain (.dK xs) := ⟨fun _ z => nomatch z⟩
instance {C d : Addr} {fs : List (Str × V)} : Plain (.ins C d fs) := ⟨fun _ z => nomatch z⟩
/-- something stands at a, no table -/
def Liv (H : Hp) (a : Addr) : Prop := ∃ o, H a = some o ∧ ∀ ps, o ≠ .tbl ps
theorem Liv.of {H : Hp} {a : Addr} {o : HO} (h : H a = some o) [Fix o] : Liv H a := ⟨o, h, Fix.no⟩
theorem Liv.rd {H : Hp} {a : Addr} {o : HO} (h : Rd H a o) [Fix o] : Liv H a := by
  rcases h with h | ⟨u, h⟩
  · exact Liv.of h
  · exact Liv.of h
theorem Liv.no {H : Hp} {a : Addr} (h : Liv H a) (n : H a = none) : False := by
  obtain ⟨o, e, _⟩ := h
  rw [n] at e; cases e
/-- all but what lies in S is as it was; tables of code objects may grow -/
structure Keeps (S : Addr → Prop) (H H' : Hp) : Prop where
  obj : ∀ c o, H c = some o → ¬ S c → [Fix o] → H' c = some o
  tab : LamX.Tabs Tbs.T H → LamX.Tabs Tbs.T H'
instance {S : Addr → Prop} {H H' : Hp} : CoeFun (Keeps S H H') fun _ => ∀ c o, H c = some o → ¬ S c → [Fix o] → H' c = some o := ⟨fun k => k.obj⟩
theorem Keeps.dom {S : Addr → Prop} {H H' : Hp} (k : Keeps S H H') {c : Addr} (h : Liv H c) (n : ¬ S c) : Liv H' c := by
  obtain ⟨o, e, f⟩ := h
  haveI : Fix o := ⟨f⟩
  exact ⟨o, k.obj c o e n, f⟩
theorem Keeps.refl {S : Addr → Prop} {H : Hp} : Keeps S H H := ⟨fun _ _ h _ _ => h, fun h => h⟩
theorem Keeps.trans {S T : Addr → Prop} {H H1 H2 : Hp} (a : Keeps S H H1) (b : Keeps T H1 H2) (h : ∀ c, T c → S c) : Keeps S H H2 :=
  ⟨fun c o e n _ => b c o (a c o e n) fun z => n (h c z), fun t => b.tab (a.tab t)⟩
theorem Keeps.trans2 {S T : Addr → Prop} {H H1 H2 : Hp} (a : Keeps S H H1) (b : Keeps T H1 H2) (h : ∀ c, Liv H c → T c → S c) : Keeps S H H2 :=
  ⟨fun c o e n f => b c o (a c o e n) fun z => n (h c ⟨o, e, f.no⟩ z), fun t => b.tab (a.tab t)⟩
theorem Keeps.ofSame {S : Addr → Prop} {H H' : Hp} (h : ∀ c o, H c = some o → H' c = some o) : Keeps S H H' := ⟨fun c o e _ _ => h c o e, fun t => t.ext h⟩
theorem Keeps.ofExtN {S : Addr → Prop} {H H' : Hp} (h : LamX.ExtN H H') (t : LamX.Tabs Tbs.T H') : Keeps S H H' := ⟨fun c o e _ f => h c o e f.no, fun _ => t⟩
theorem Keeps.up {S : Addr → Prop} {H : Hp} {p : Addr} {o : HO} (h : H p = none) : Keeps S H (upd H p o) := .ofSame fun c u e => by rw [upd_ne (ne_of_none e h)]; exact e
theorem Keeps.same {S : Addr → Prop} {H H' : Hp} (h : Same H H') : Keeps S H H' := .ofSame h
theorem Keeps.weaken {S T : Addr → Prop} {H H' : Hp} (k : Keeps S H H') (h : ∀ c, S c → T c) : Keeps T H H' := ⟨fun c o e n _ => k c o e fun z => n (h c z), k.tab⟩
theorem Keeps.put {S : Addr → Prop} {H : Hp} {p : Addr} {o u : HO} (h : S p) (hp : H p = some u) [Plain u] : Keeps S H (upd H p o) :=
  ⟨fun c v e n _ => by rw [upd_ne (fun z => n (by rw [z]; exact h))]; exact e, fun tt pr hpr => by
    obtain ⟨ps, h1, h2, h3⟩ := tt pr hpr
    have n1 : pr.1 ≠ p := fun z => by
      rw [z, hp] at h1
      exact Fix.no (o := u) ps (Option.some.inj h1)
    refine ⟨ps, by rw [upd_ne n1]; exact h1, h2, fun pos cv hc => ?_⟩
    obtain ⟨c, e1, e2⟩ := h3 pos cv hc
    refine ⟨c, e1, ?_⟩
    rw [upd_ne (fun z => by
      rw [z, hp] at e2
      unfold LamX.CodeO at e2
      exact Plain.ne (o := u) _ (Option.some.inj e2))]
    exact e2⟩
section
variable {K : PySem.W.Frag} {N N' S : Addr → Prop} {H H' : Hp}
theorem Rd.keeps {a : Addr} {u : HO} (r : Rd H a u) (k : Keeps S H H') (n : ¬ S a) [Fix u] : Rd H' a u := by
  rcases r with r | ⟨o, r⟩
  · exact .inl (k _ _ r n)
  · exact .inr ⟨o, k.obj _ _ r n⟩
mutual
theorem Rep.mono (k : Keeps S H H') (hs : ∀ a, Liv H a → S a → N a) (hn : ∀ a, Liv H a → N' a → N a) : ∀ {d : D} {v : V}, Rep K N H d v → Rep K N' H' d v
  | .non, _, h => by simp only [Rep] at h ⊢; exact h
  | .bl _, _, h => by simp only [Rep] at h ⊢; exact h
  | .int _, _, h => by simp only [Rep] at h ⊢; exact h
  | .str _, _, h => by simp only [Rep] at h ⊢; exact h
  | .opq _, _, h => by simp only [Rep] at h ⊢; exact h
  | .lst ds, _, h => by
    simp only [Rep] at h ⊢
    obtain ⟨a, vs, e, r, q⟩ := h
    obtain ⟨n, r⟩ := r
    have ne : Liv H a := Liv.of r
    exact ⟨a, vs, e, ⟨fun z => n (hn a ne z), k _ _ r fun z => n (hs a ne z)⟩, Reps.mono k hs hn q⟩
  | .fz ds, _, h => by
    simp only [Rep] at h ⊢
    obtain ⟨a, vs, e, r, q⟩ := h
    refine ⟨a, vs, e, ?_, Reps.mono k hs hn q⟩
    rcases r with ⟨n, r⟩ | r
    · have ne : Liv H a := Liv.rd r
      exact .inl ⟨fun z => n (hn a ne z), Rd.keeps r k fun z => n (hs a ne z)⟩
    · exact .inr r
  | .tup ds, _, h => by
    simp only [Rep] at h ⊢
    obtain ⟨a, vs, e, r, q⟩ := h
    refine ⟨a, vs, e, ?_, Reps.mono k hs hn q⟩
    rcases r with ⟨n, r⟩ | r
    · have ne : Liv H a := Liv.of r
      exact .inl ⟨fun z => n (hn a ne z), k _ _ r fun z => n (hs a ne z)⟩
    · exact .inr r
  | .dct ks, _, h => by
    simp only [Rep] at h ⊢
    obtain ⟨a, kvs, e, n, r, q⟩ := h
    have ne : Liv H a := Liv.of r
    exact ⟨a, kvs, e, fun z => n (hn a ne z), k _ _ r fun z => n (hs a ne z), RepK.mono k hs hn q⟩
  | .ins C fs, _, h => by
    simp only [Rep] at h ⊢
    obtain ⟨a, dx, kvs, e, n, r, q⟩ := h
    have ne : Liv H a := Liv.of r
    exact ⟨a, dx, kvs, e, fun z => n (hn a ne z), k _ _ r fun z => n (hs a ne z), RepF.mono k hs hn q⟩
theorem Reps.mono (k : Keeps S H H') (hs : ∀ a, Liv H a → S a → N a) (hn : ∀ a, Liv H a → N' a → N a) : ∀ {ds : List D} {vs : List V}, Reps K N H ds vs → Reps K N' H' ds vs
  | [], _, h => by simp only [Reps] at h ⊢; exact h
  | _ :: _, _, h => by
    simp only [Reps] at h ⊢
    obtain ⟨v, r, e, h1, h2⟩ := h
    exact ⟨v, r, e, Rep.mono k hs hn h1, Reps.mono k hs hn h2⟩
theorem RepK.mono (k : Keeps S H H') (hs : ∀ a, Liv H a → S a → N a) (hn : ∀ a, Liv H a → N' a → N a) : ∀ {ds : List (Key × D)} {vs : List (Key × V)}, RepK K N H ds vs → RepK K N' H' ds vs
  | [], _, h => by simp only [RepK] at h ⊢; exact h
  | (_, _) :: _, _, h => by
    simp only [RepK] at h ⊢
    obtain ⟨v, r, e, h1, h2⟩ := h
    exact ⟨v, r, e, Rep.mono k hs hn h1, RepK.mono k hs hn h2⟩
theorem RepF.mono (k : Keeps S H H') (hs : ∀ a, Liv H a → S a → N a) (hn : ∀ a, Liv H a → N' a → N a) : ∀ {ds : List (Str × D)} {vs : List (Str × V)}, RepF K N H ds vs → RepF K N' H' ds vs
  | [], _, h => by simp only [RepF] at h ⊢; exact h
  | (_, _) :: _, _, h => by
    simp only [RepF] at h ⊢
    obtain ⟨v, r, e, h1, h2⟩ := h
    exact ⟨v, r, e, Rep.mono k hs hn h1, RepF.mono k hs hn h2⟩
end
theorem Reps.length : ∀ {ds : List D} {vs : List V}, Reps K N H ds vs → vs.length = ds.length
  | [], _, h => by simp only [Reps] at h; rw [h]; rfl
  | _ :: _, _, h => by
    simp only [Reps] at h
    obtain ⟨v, r, rfl, _, q⟩ := h
    simp [Reps.length q]
theorem Reps.get : ∀ {ds : List D} {vs : List V} {i : Nat} {d : D}, Reps K N H ds vs → ds[i]? = some d → ∃ v, vs[i]? = some v ∧ Rep K N H d v
  | [], _, _, _, _, e => by simp at e
  | d :: ds, _, 0, _, h, e => by
    simp only [Reps] at h
    obtain ⟨v, r, rfl, h1, _⟩ := h
    simp at e; subst e
    exact ⟨v, rfl, h1⟩
  | d :: ds, _, i + 1, x, h, e => by
    simp only [Reps] at h
    obtain ⟨v, r, rfl, _, h2⟩ := h
    obtain ⟨u, e1, e2⟩ := Reps.get (i := i) (d := x) h2 (by simpa using e)
    exact ⟨u, by simpa using e1, e2⟩
theorem Reps.append : ∀ {ds es : List D} {vs us : List V}, Reps K N H ds vs → Reps K N H es us → Reps K N H (ds ++ es) (vs ++ us)
  | [], _, _, _, h, q => by simp only [Reps] at h; subst h; exact q
  | _ :: _, _, _, _, h, q => by
    simp only [Reps] at h
    obtain ⟨v, r, rfl, h1, h2⟩ := h
    show Reps K N H (_ :: (_ ++ _)) (v :: (r ++ _))
    simp only [Reps]
    exact ⟨v, _, rfl, h1, Reps.append h2 q⟩
theorem Reps.of_get : ∀ {ds : List D} {vs : List V}, vs.length = ds.length → (∀ (i : Nat) d v, ds[i]? = some d → vs[i]? = some v → Rep K N H d v) → Reps K N H ds vs
  | [], vs, h, _ => by simp only [Reps]; exact List.length_eq_zero_iff.mp h
  | d :: ds, [], h, _ => by simp at h
  | d :: ds, v :: vs, h, q => by
    simp only [Reps]
    exact ⟨v, vs, rfl, q 0 d v rfl rfl, Reps.of_get (by simpa using h) fun i d v a b => q (i + 1) d v (by simpa using a) (by simpa using b)⟩
theorem Reps.cons {d : D} {v : V} {ds : List D} {vs : List V} (h : Rep K N H d v) (q : Reps K N H ds vs) : Reps K N H (d :: ds) (v :: vs) := by
  simp only [Reps]; exact ⟨v, vs, rfl, h, q⟩
theorem Reps.nil : Reps K N H [] [] := by simp only [Reps]
theorem SL.sq {a : Addr} {xs : List V} (h : SL N H a xs) : SqL K H a xs := .inl (.inl h.2)
theorem SF.sq {a : Addr} {xs : List V} (h : SF K N H a xs) : SqL K H a xs := by
  rcases h with ⟨_, h⟩ | h
  · exact .inl h
  · exact .inr h
theorem ST.sq {a : Addr} {xs : List V} (h : ST K N H a xs) : SqT K H a xs := by
  rcases h with ⟨_, h⟩ | h
  · exact .inl (.inl h)
  · exact .inr h.2
/-- the top object of the tree d stands at a, it may be written -/
def Top (K : PySem.W.Frag) (N : Addr → Prop) (H : Hp) (d : D) (a : Addr) : Prop :=
  match d with
  | .lst ds => ∃ vs, H a = some (.lst vs) ∧ Reps K N H ds vs
  | .dct ks => ∃ kvs, H a = some (.dK kvs) ∧ RepK K N H ks kvs
  | .ins C fs => ∃ dx vfs, H a = some (.ins C dx vfs) ∧ RepF K N H fs vfs
  | _ => False
theorem Top.rep {d : D} {a : Addr} (h : Top K N H d a) (hn : ∀ b, N' b → N b) (ha : ¬ N' a) : Rep K N' H d (.ref a) := by
  cases d with
  | lst ds =>
    obtain ⟨vs, e, r⟩ := h
    simp only [Rep]
    exact ⟨a, vs, rfl, ⟨ha, e⟩, r.mono (S := fun _ => False) Keeps.refl (fun _ _ z => z.elim) fun b _ z => hn b z⟩
  | dct ds =>
    obtain ⟨vs, e, r⟩ := h
    simp only [Rep]
    exact ⟨a, vs, rfl, ha, e, r.mono (S := fun _ => False) Keeps.refl (fun _ _ z => z.elim) fun b _ z => hn b z⟩
  | ins C ds =>
    obtain ⟨dx, vs, e, r⟩ := h
    simp only [Rep]
    exact ⟨a, dx, vs, rfl, ha, e, r.mono (S := fun _ => False) Keeps.refl (fun _ _ z => z.elim) fun b _ z => hn b z⟩
  | _ => exact (show False from h).elim
theorem Top.mono {d : D} {a : Addr} (h : Top K N H d a) (k : Keeps S H H') (hs : ∀ a, Liv H a → S a → N a) (hn : ∀ a, Liv H a → N' a → N a) (ha : ∀ o, H a = some o → [Fix o] → H' a = some o) : Top K N' H' d a := by
  cases d with
  | lst ds => obtain ⟨vs, e, r⟩ := h; exact ⟨vs, ha _ e, r.mono k hs hn⟩
  | dct ds => obtain ⟨vs, e, r⟩ := h; exact ⟨vs, ha _ e, r.mono k hs hn⟩
  | ins C ds => obtain ⟨dx, vs, e, r⟩ := h; exact ⟨dx, vs, ha _ e, r.mono k hs hn⟩
  | _ => exact (show False from h).elim
theorem Top.plain {d : D} {a : Addr} (h : Top K N H d a) : ∃ u, H a = some u ∧ Plain u := by
  cases d with
  | lst ds => obtain ⟨vs, e, r⟩ := h; exact ⟨_, e, inferInstance⟩
  | dct ds => obtain ⟨vs, e, r⟩ := h; exact ⟨_, e, inferInstance⟩
  | ins C ds => obtain ⟨dx, vs, e, r⟩ := h; exact ⟨_, e, inferInstance⟩
  | _ => exact (show False from h).elim
theorem Top.there {d : D} {a : Addr} (h : Top K N H d a) : Liv H a := by
  cases d with
  | lst ds => obtain ⟨vs, e, r⟩ := h; exact Liv.of e
  | dct ds => obtain ⟨vs, e, r⟩ := h; exact Liv.of e
  | ins C ds => obtain ⟨dx, vs, e, r⟩ := h; exact Liv.of e
  | _ => exact (show False from h).elim
end
end TM
set_option maxRecDepth 100000
set_option maxHeartbeats 4000000
/-! T2: the frame as trees, what an expression and a statement do to it -/
namespace TM
open PySem PySem.Spec PyProof.Rows L2

variable [Tbs]
/-- how a slot holds its tree: shared; owned, made here; owned by the caller, handed in -/
inductive SK | sh | ow | io
  deriving DecidableEq
abbrev SlD := Option (SK × D)
abbrev Env' := List SlD
/-- the addresses that slots own -/
def Own (σ : St) (δ : Env') (a : Addr) : Prop := ∃ (i : Nat) (k : SK) (d : D), δ[i]? = some (some (k, d)) ∧ k ≠ SK.sh ∧ σ[i]? = some (some (V.ref a))
/-- around a frame: N lies with the callers and is not looked at; He the heap at the entry; io the objects handed in to be changed -/
structure Ct where
  N : Addr → Prop
  He : Hp
  io : Nat → Addr → Prop
  hold : List (D × V)
def Ct.ioS (c : Ct) (a : Addr) : Prop := ∃ i, c.io i a
section
variable (K : PySem.W.Frag)
def Slk (N O : Addr → Prop) (c : Ct) (H : Hp) (i : Nat) (k : SK) (d : D) (v : V) : Prop :=
  match k with
  | .sh => Rep K (Uni N O) H d v
  | .ow => ∃ a, v = .ref a ∧ ¬ N a ∧ ¬ Liv c.He a ∧ Top K (Uni N O) H d a
  | .io => ∃ a, v = .ref a ∧ ¬ N a ∧ c.io i a ∧ Top K (Uni N O) H d a
structure EnvR (c : Ct) (σ : St) (δ : Env') (H : Hp) : Prop where
  len : δ.length = σ.length
  slot : ∀ (i : Nat) (k : SK) (d : D), δ[i]? = some (some (k, d)) → ∃ v, σ[i]? = some (some v) ∧ Slk K c.N (Own σ δ) c H i k d v
  inj : ∀ (i j : Nat) (k k' : SK) (d d' : D) (a : Addr), δ[i]? = some (some (k, d)) → δ[j]? = some (some (k', d')) → k ≠ .sh → k' ≠ .sh → σ[i]? = some (some (.ref a)) → σ[j]? = some (some (.ref a)) → i = j
  dom : ∀ a, c.N a → Liv H a
  keep : Keeps c.ioS c.He H
  ioD : ∀ a, c.ioS a → Liv H a ∧ ¬ c.N a ∧ Liv c.He a
  held : ∀ p ∈ c.hold, Rep K (Uni c.N (Own σ δ)) H p.1 p.2
  tab : LamX.Tabs Tbs.T H
/-- a value in hand: a tree (new or not), or the object of an owned slot -/
inductive RV | val (d : D) (new : Bool) | own (i : Nat)
def RVR (c : Ct) (σ : St) (δ : Env') (H : Hp) : RV → V → Prop
  | .val d false, v => Rep K (Uni c.N (Own σ δ)) H d v
  | .val d true, v => ∃ a, v = .ref a ∧ ¬ c.N a ∧ ¬ Liv c.He a ∧ ¬ Own σ δ a ∧ Top K (Uni (Uni c.N (Own σ δ)) (fun b => b = a)) H d a
  | .own i, v => σ[i]? = some (some v) ∧ ∃ k d, δ[i]? = some (some (k, d))
end
/-- what a step of the frame leaves -/
structure Stp (σ : St) (δ : Env') (H : Hp) (δ' : Env') (H' : Hp) : Prop where
  keeps : Keeps (Own σ δ) H H'
  own : ∀ a, Own σ δ' a → Own σ δ a
  shape : ∀ (i : Nat) (x : SK × D), δ[i]? = some (some x) → ∃ y, δ'[i]? = some (some y)
  dom : ∀ a, Liv H a → Liv H' a
theorem Stp.refl {σ : St} {δ : Env'} {H : Hp} : Stp σ δ H δ H := ⟨Keeps.refl, fun _ h => h, fun i x h => ⟨x, h⟩, fun _ h => h⟩
theorem Stp.trans {σ : St} {δ δ1 δ2 : Env'} {H H1 H2 : Hp} (a : Stp σ δ H δ1 H1) (b : Stp σ δ1 H1 δ2 H2) : Stp σ δ H δ2 H2 :=
  ⟨a.keeps.trans b.keeps a.own, fun c h => a.own c (b.own c h), fun i x h => by obtain ⟨y, e⟩ := a.shape i x h; exact b.shape i y e, fun c h => b.dom c (a.dom c h)⟩
section
variable {K : PySem.W.Frag} {c : Ct} {σ : St} {δ δ' : Env'} {H H' : Hp}
/-- a new object is laid: all stands -/
theorem EnvR.keeps (e : EnvR K c σ δ H) (k : Keeps (fun _ => False) H H') (hd : ∀ a, Liv H a → Liv H' a) : EnvR K c σ δ H' where
  len := e.len
  slot := fun i k' d hi => by
    obtain ⟨v, hv, r⟩ := e.slot i k' d hi
    refine ⟨v, hv, ?_⟩
    cases k' with
    | sh => exact Rep.mono k (fun _ _ z => z.elim) (fun _ _ z => z) r
    | ow => obtain ⟨a, h1, h2, h3, h4⟩ := r; exact ⟨a, h1, h2, h3, h4.mono k (fun _ _ z => z.elim) (fun _ _ z => z) fun o e _ => k _ _ e fun z => z⟩
    | io => obtain ⟨a, h1, h2, h3, h4⟩ := r; exact ⟨a, h1, h2, h3, h4.mono k (fun _ _ z => z.elim) (fun _ _ z => z) fun o e _ => k _ _ e fun z => z⟩
  inj := e.inj
  dom := fun a h => hd a (e.dom a h)
  keep := e.keep.trans k fun _ z => z.elim
  ioD := fun a h => ⟨hd a (e.ioD a h).1, (e.ioD a h).2⟩
  held := fun p hp => Rep.mono k (fun _ _ z => z.elim) (fun _ _ z => z) (e.held p hp)
  tab := k.tab e.tab
theorem upd_dom {H : Hp} {p : Addr} {o : HO} [Fix o] : ∀ a, Liv H a → Liv (upd H p o) a := fun a h => by
  by_cases e : a = p
  · subst e; exact Liv.of upd_same
  · obtain ⟨u, h1, h2⟩ := h
    exact ⟨u, by rw [upd_ne e]; exact h1, h2⟩
theorem EnvR.laid {p : Addr} {o : HO} [Fix o] (e : EnvR K c σ δ H) (hp : H p = none) : EnvR K c σ δ (upd H p o) := e.keeps (Keeps.up hp) upd_dom
theorem Stp.laid {p : Addr} {o : HO} [Fix o] (hp : H p = none) : Stp σ δ H δ (upd H p o) := ⟨Keeps.up hp, fun _ h => h, fun i x h => ⟨x, h⟩, upd_dom⟩
theorem EnvR.own_there (e : EnvR K c σ δ H) {a : Addr} (h : Own σ δ a) : Liv H a ∧ ¬ c.N a := by
  obtain ⟨i, k, d, hi, hk, hs⟩ := h
  obtain ⟨v, hv, r⟩ := e.slot i k d hi
  rw [hs] at hv
  cases Option.some.inj (Option.some.inj hv)
  cases k with
  | sh => exact absurd rfl hk
  | ow => obtain ⟨b, h1, h2, h3, h4⟩ := r; cases h1; exact ⟨h4.there, h2⟩
  | io => obtain ⟨b, h1, h2, h3, h4⟩ := r; cases h1; exact ⟨h4.there, h2⟩
theorem EnvR.new_dead (e : EnvR K c σ δ H) {p : Addr} (hp : ¬ Liv H p) : ¬ c.N p ∧ ¬ Liv c.He p ∧ ¬ Own σ δ p := by
  refine ⟨fun z => hp (e.dom p z), fun q => ?_, fun z => hp (e.own_there z).1⟩
  by_cases h : c.ioS p
  · exact hp (e.ioD p h).1
  · exact hp (e.keep.dom q h)
theorem EnvR.new_free (e : EnvR K c σ δ H) {p : Addr} (hp : H p = none) : ¬ c.N p ∧ ¬ Liv c.He p ∧ ¬ Own σ δ p := e.new_dead fun z => z.no hp
theorem RVR.mono {rv : RV} {v : V} (s : Stp σ δ H δ' H') (r : RVR K c σ δ H rv v) : RVR K c σ δ' H' rv v := by
  cases rv with
  | own i =>
    obtain ⟨h1, k, d, h2⟩ := r
    obtain ⟨y, h3⟩ := s.shape i _ h2
    exact ⟨h1, y.1, y.2, h3⟩
  | val d b =>
    cases b with
    | false => exact Rep.mono s.keeps (fun a _ z => .inr z) (fun a _ z => z.elim .inl fun q => .inr (s.own a q)) r
    | true =>
      obtain ⟨a, h1, h2, h3, h4, h5⟩ := r
      refine ⟨a, h1, h2, h3, fun z => h4 (s.own a z), h5.mono s.keeps (fun b _ z => .inl (.inr z)) (fun b _ z => ?_) fun o e _ => s.keeps a o e h4⟩
      rcases z with (z | z) | z
      · exact .inl (.inl z)
      · exact .inl (.inr (s.own b z))
      · exact .inr z
def Ct.plus (c : Ct) (a : Addr) : Ct := ⟨Uni c.N (fun b => b = a), c.He, c.io, c.hold⟩
/-- what is new lies apart from all that the frame has -/
theorem EnvR.plus {a : Addr} (e : EnvR K c σ δ H) (k : Keeps (fun _ => False) H H') (hd : ∀ b, Liv H b → Liv H' b) (ha : ¬ Liv H a) (ha' : Liv H' a) : EnvR K (c.plus a) σ δ H' := by
  have e' := e.keeps k hd
  have sub : ∀ b, Liv H b → Uni (c.plus a).N (Own σ δ) b → Uni c.N (Own σ δ) b := fun b hb z => by
    rcases z with (z | z) | z
    · exact .inl z
    · exact absurd hb (by rw [show b = a from z]; exact ha)
    · exact .inr z
  refine ⟨e'.len, fun i k' d hi => ?_, e'.inj, fun b z => z.elim (e'.dom b) fun q => by rw [q]; exact ha', e'.keep, fun b z => ⟨(e'.ioD b z).1, fun y => y.elim (e'.ioD b z).2.1 fun q => ha (by rw [← show b = a from q]; exact (e.ioD b z).1), (e'.ioD b z).2.2⟩, fun p hp => (e.held p hp).mono k (fun _ _ z => z.elim) sub, e'.tab⟩
  obtain ⟨v, hv, r⟩ := e.slot i k' d hi
  refine ⟨v, hv, ?_⟩
  cases k' with
  | sh => exact Rep.mono k (fun _ _ z => z.elim) sub r
  | ow =>
    obtain ⟨b, h1, h2, h3, h4⟩ := r
    exact ⟨b, h1, fun z => z.elim h2 fun q => ha (by rw [← show b = a from q]; exact h4.there), h3, h4.mono k (fun _ _ z => z.elim) sub fun o e _ => k _ _ e fun z => z⟩
  | io =>
    obtain ⟨b, h1, h2, h3, h4⟩ := r
    exact ⟨b, h1, fun z => z.elim h2 fun q => ha (by rw [← show b = a from q]; exact h4.there), h3, h4.mono k (fun _ _ z => z.elim) sub fun o e _ => k _ _ e fun z => z⟩
/-- a value in hand, and what is new in it lies apart -/
def RVX (K : PySem.W.Frag) (c : Ct) (σ : St) (δ : Env') (H : Hp) (rv : RV) (v : V) : Prop :=
  RVR K c σ δ H rv v ∧ ∀ d a, rv = .val d true → v = .ref a → EnvR K (c.plus a) σ δ H
/-- the tree of a value in hand -/
def RV.tree (δ : Env') : RV → Option D
  | .val d _ => some d
  | .own i => match δ[i]? with
    | some (some (_, d)) => some d
    | _ => none
/-- a value in hand, looked at -/
theorem RVR.look {rv : RV} {v : V} {d : D} (e : EnvR K c σ δ H) (r : RVR K c σ δ H rv v) (h : rv.tree δ = some d) : Rep K c.N H d v := by
  cases rv with
  | own i =>
    obtain ⟨h1, k, d', h2⟩ := r
    simp only [RV.tree, h2, Option.some.injEq] at h
    subst h
    obtain ⟨u, hu, q⟩ := e.slot i k d' h2
    rw [h1] at hu
    cases Option.some.inj (Option.some.inj hu)
    cases k with
    | sh => exact Rep.mono (S := fun _ => False) Keeps.refl (fun _ _ z => z.elim) (fun _ _ z => .inl z) q
    | ow => obtain ⟨a, h1, h2, h3, h4⟩ := q; subst h1; exact h4.rep (fun _ z => .inl z) h2
    | io => obtain ⟨a, h1, h2, h3, h4⟩ := q; subst h1; exact h4.rep (fun _ z => .inl z) h2
  | val d' b =>
    simp only [RV.tree, Option.some.injEq] at h
    subst h
    cases b with
    | false => exact Rep.mono (S := fun _ => False) Keeps.refl (fun _ _ z => z.elim) (fun _ _ z => .inl z) r
    | true => obtain ⟨a, h1, h2, h3, h4, h5⟩ := r; subst h1; exact h5.rep (fun _ z => .inl (.inl z)) h2
/-- a value in hand is given away: an owned slot's object is shared from now on -/
def give (δ : Env') : RV → Option (D × Env')
  | .val d _ => some (d, δ)
  | .own i => match δ[i]? with
    | some (some (.sh, d)) => some (d, δ)
    | some (some (.ow, d)) => some (d, δ.set i (some (.sh, d)))
    | _ => none
theorem getElem?_set_some {α : Type} {l : List α} {i j : Nat} {x y : α} (h : (l.set i x)[j]? = some y) : (j = i ∧ y = x ∧ i < l.length) ∨ (j ≠ i ∧ l[j]? = some y) := by
  by_cases e : i = j
  · subst e
    by_cases hl : i < l.length
    · rw [List.getElem?_set_self hl] at h
      exact .inl ⟨rfl, (Option.some.inj h).symm, hl⟩
    · rw [List.getElem?_eq_none (by simpa using hl)] at h; cases h
  · rw [List.getElem?_set_ne e] at h
    exact .inr ⟨fun z => e z.symm, h⟩
theorem EnvR.give {rv : RV} {v : V} {d : D} (e : EnvR K c σ δ H) (r : RVR K c σ δ H rv v) (h : TM.give δ rv = some (d, δ')) : EnvR K c σ δ' H ∧ Stp σ δ H δ' H ∧ Rep K (Uni c.N (Own σ δ')) H d v := by
  cases rv with
  | val d' b =>
    simp only [TM.give, Option.some.injEq, Prod.mk.injEq] at h
    obtain ⟨rfl, rfl⟩ := h
    refine ⟨e, .refl, ?_⟩
    cases b with
    | false => exact r
    | true => obtain ⟨a, h1, h2, h3, h4, h5⟩ := r; subst h1; exact h5.rep (fun _ z => .inl z) fun z => z.elim h2 h4
  | own i =>
    obtain ⟨h1, k, d', h2⟩ := r
    obtain ⟨u, hu, q⟩ := e.slot i k d' h2
    rw [h1] at hu
    cases Option.some.inj (Option.some.inj hu)
    cases k with
    | sh =>
      simp only [TM.give, h2, Option.some.injEq, Prod.mk.injEq] at h
      obtain ⟨rfl, rfl⟩ := h
      exact ⟨e, .refl, q⟩
    | io => simp [TM.give, h2] at h
    | ow =>
      simp only [TM.give, h2, Option.some.injEq, Prod.mk.injEq] at h
      obtain ⟨rfl, rfl⟩ := h
      obtain ⟨a, g1, g2, g3, g4⟩ := q
      subst g1
      have hi : i < δ.length := (List.getElem?_eq_some_iff.mp h2).1
      have own : ∀ b, Own σ (δ.set i (some (.sh, d'))) b → Own σ δ b ∧ b ≠ a := by
        rintro b ⟨j, k, x, e1, e2, e3⟩
        rcases getElem?_set_some e1 with ⟨rfl, e4, _⟩ | ⟨ne, e4⟩
        · cases Option.some.inj e4; exact absurd rfl e2
        · exact ⟨⟨j, k, x, e4, e2, e3⟩, fun z => ne (by subst z; exact e.inj j i _ _ _ _ _ e4 h2 e2 (by simp) e3 h1)⟩
      have rp : Rep K (Uni c.N (Own σ (δ.set i (some (.sh, d'))))) H d' (.ref a) := g4.rep (fun b z => z.elim .inl fun q => .inr (own b q).1) fun z => z.elim g2 fun q => (own a q).2 rfl
      refine ⟨⟨by simpa using e.len, fun j k x e1 => ?_, fun j l k k' x x' b e1 e2 e3 e4 e5 e6 => ?_, e.dom, e.keep, e.ioD, fun p hp => (e.held p hp).mono (S := fun _ => False) Keeps.refl (fun _ _ z => z.elim) fun b _ z => z.elim .inl fun q => .inr (own b q).1, e.tab⟩, ⟨Keeps.refl, fun b z => (own b z).1, fun j x e1 => ?_, fun _ h => h⟩, rp⟩
      · rcases getElem?_set_some e1 with ⟨rfl, e4, _⟩ | ⟨ne, e4⟩
        · cases Option.some.inj e4
          exact ⟨_, h1, rp⟩
        · obtain ⟨w, hw, q⟩ := e.slot j k x e4
          refine ⟨w, hw, ?_⟩
          have sub : ∀ b, Liv H b → Uni c.N (Own σ (δ.set i (some (.sh, d')))) b → Uni c.N (Own σ δ) b := fun b _ z => z.elim .inl fun q => .inr (own b q).1
          cases k with
          | sh => exact Rep.mono (S := fun _ => False) Keeps.refl (fun _ _ z => z.elim) sub q
          | ow => obtain ⟨b, q1, q2, q3, q4⟩ := q; exact ⟨b, q1, q2, q3, q4.mono (S := fun _ => False) Keeps.refl (fun _ _ z => z.elim) sub fun _ z => z⟩
          | io => obtain ⟨b, q1, q2, q3, q4⟩ := q; exact ⟨b, q1, q2, q3, q4.mono (S := fun _ => False) Keeps.refl (fun _ _ z => z.elim) sub fun _ z => z⟩
      · rcases getElem?_set_some e1 with ⟨rfl, e4, _⟩ | ⟨ne, e4⟩
        · cases Option.some.inj e4; exact absurd rfl e3
        · rcases getElem?_set_some e2 with ⟨rfl, e7, _⟩ | ⟨ne', e7⟩
          · cases Option.some.inj e7; exact absurd rfl e4
          · exact e.inj j l k k' x x' b e4 e7 e3 ‹_› e5 e6
      · by_cases hj : i = j
        · subst hj; exact ⟨_, List.getElem?_set_self hi⟩
        · exact ⟨x, by rw [List.getElem?_set_ne hj]; exact e1⟩
end
end TM
set_option maxRecDepth 100000
set_option maxHeartbeats 4000000
/-! T3: judgements over trees: expressions, tests, operands -/
namespace TM
open PySem PySem.Spec PyProof.Rows L2
variable [Tbs]

/-- an exception under way: its class, its attributes -/
structure Exc where
  C : Addr
  fs : List (Str × D)
inductive Res (α : Type) where
  | ok (a : α) (δ : Env') | err (x : Exc) (δ : Env') | bad
abbrev M (α : Type) := Env' → Res α
def bnd {α β : Type} (f : M α) (g : α → M β) : M β := fun δ => match f δ with
  | .ok a δ' => g a δ'
  | .err x δ' => .err x δ'
  | .bad => .bad
def ret' {α : Type} (a : α) : M α := fun δ => .ok a δ
def bad' {α : Type} : M α := fun _ => .bad
abbrev FE := M RV
abbrev FT := M Bool
abbrev FA := M (List RV)

section
variable (K : PySem.W.Frag)
def ExcR (M : Addr → Prop) (H : Hp) (fs : List (Str × D)) (d : Option Addr) : Prop :=
  (fs = [] ∧ d = none) ∨ ∃ dd vfs, d = some dd ∧ H dd = some (.xd vfs) ∧ RepF K M H fs vfs
/-- what follows a step with a result -/
def Post {α β : Type} (W : WX) (R : Ct → St → Env' → Hp → α → β → Prop) (c : Ct) (σ : St) (δ : Env') (H : Hp) (r : Res α) (Q : β → Hp → Prop) : Prop :=
  match r with
  | .ok a δ' => ∀ v H', EnvR K c σ δ' H' → Stp σ δ H δ' H' → R c σ δ' H' a v → Q v H'
  | .err x δ' => ∀ d H', EnvR K c σ δ' H' → Stp σ δ H δ' H' → ExcR K (Uni c.N (Own σ δ')) H' x.fs d → W (.ref x.C) d σ H'
  | .bad => False
def RVs (c : Ct) (σ : St) (δ : Env') (H : Hp) : List RV → List V → Prop := Paired (RVR K c σ δ H)
def tE (W : WX) (f : FE) : TE := fun σ H Q => ∃ c δ, EnvR K c σ δ H ∧ Post K W (RVX K) c σ δ H (f δ) Q
def tT (W : WX) (f : FT) : TT := fun σ H Q => ∃ c δ, EnvR K c σ δ H ∧ Post K W (fun _ _ _ _ a b => a = b) c σ δ H (f δ) Q
def tA (W : WX) (f : FA) : TA := fun σ H Q => ∃ c δ, EnvR K c σ δ H ∧ Post K W (RVs K) c σ δ H (f δ) Q
end
abbrev DE (X : Cx) (W : WX) (f : FE) (e : Expr) : Prop := PE X e (tE X.K W f)
abbrev DT (X : Cx) (W : WX) (f : FT) (e : Expr) : Prop := PT X e (tT X.K W f)
abbrev DA (X : Cx) (W : WX) (f : FA) (es : List Expr) : Prop := PA X es (tA X.K W f)
section
variable {X : Cx} {W : WX} {e a b : Expr} {es : List Expr} {K : PySem.W.Frag}
theorem pe_mono {t t' : TE} (h : PE X e t) (m : ∀ σ H Q, t' σ H Q → t σ H Q) : PE X e t' := ⟨fun pins s σ H Q I q => h.run pins s σ H Q I (m _ _ _ q)⟩
theorem pt_mono {t t' : TT} (h : PT X e t) (m : ∀ σ H Q, t' σ H Q → t σ H Q) : PT X e t' := ⟨fun pins s σ H Q I q => h.run pins s σ H Q I (m _ _ _ q)⟩
theorem pa_mono {t t' : TA} (h : PA X es t) (m : ∀ σ H Q, t' σ H Q → t σ H Q) : PA X es t' := ⟨fun pos pins s σ H Q I q => h.run pos pins s σ H Q I (m _ _ _ q)⟩
theorem ps_mono {st : Stmt} {t t' : TS} (h : PS X st t) (m : ∀ D σ H, t' D σ H → t D σ H) : PS X st t' := ⟨fun pins s σ H D I q => h.run pins s σ H D I (m _ _ _ q)⟩
theorem pss_mono {st : List Stmt} {t t' : TS} (h : PSs X st t) (m : ∀ D σ H, t' D σ H → t D σ H) : PSs X st t' := ⟨fun pins s σ H D I q => h.run pins s σ H D I (m _ _ _ q)⟩
/-- a step, then another one -/
theorem Post.bnd {α α' β β' : Type} {R : Ct → St → Env' → Hp → α → β → Prop} {R' : Ct → St → Env' → Hp → α' → β' → Prop} {c : Ct} {σ : St} {δ : Env'} {H : Hp} {f : M α} {g : α → M α'} {Q : β' → Hp → Prop}
    (h : Post K W R' c σ δ H (TM.bnd f g δ) Q) :
    Post K W R c σ δ H (f δ) fun v H1 => ∃ δ1 a, EnvR K c σ δ1 H1 ∧ Stp σ δ H δ1 H1 ∧ R c σ δ1 H1 a v ∧ Post K W R' c σ δ1 H1 (g a δ1) Q := by
  unfold TM.bnd at h
  unfold Post
  cases q : f δ with
  | bad => rw [q] at h; exact h
  | err x δ' => rw [q] at h; exact h
  | ok a δ' =>
    rw [q] at h
    intro v H' e s r
    refine ⟨δ', a, e, s, r, ?_⟩
    dsimp only at h
    cases q2 : g a δ' with
    | bad => rw [q2] at h; exact h
    | err x δ2 => rw [q2] at h; exact fun d H2 e2 s2 r2 => h d H2 e2 (s.trans s2) r2
    | ok a2 δ2 => rw [q2] at h; exact fun v2 H2 e2 s2 r2 => h v2 H2 e2 (s.trans s2) r2
theorem Post.imp {α β : Type} {R : Ct → St → Env' → Hp → α → β → Prop} {c : Ct} {σ : St} {δ : Env'} {H : Hp} {r : Res α} {Q Q' : β → Hp → Prop} (h : Post K W R c σ δ H r Q) (m : ∀ v H', Q v H' → Q' v H') : Post K W R c σ δ H r Q' := by
  unfold Post at h ⊢
  cases r with
  | bad => exact h
  | err x δ' => exact h
  | ok a δ' => exact fun v H' e s q => m _ _ (h v H' e s q)
end

/-! ### looking at values -/
section
variable (K : PySem.W.Frag)
/-- v stands for d; its own object may be an owned one, what is within avoids M -/
def Look (N M : Addr → Prop) (H : Hp) (d : D) (v : V) : Prop :=
  match d with
  | .lst ds => ∃ a vs, v = .ref a ∧ SL N H a vs ∧ Reps K M H ds vs
  | .dct ks => ∃ a kvs, v = .ref a ∧ ¬ N a ∧ H a = some (.dK kvs) ∧ RepK K M H ks kvs
  | .ins C fs => ∃ a dx vfs, v = .ref a ∧ ¬ N a ∧ H a = some (.ins C dx vfs) ∧ RepF K M H fs vfs
  | d => Rep K M H d v
/-- an answer: new (at a) or not -/
def NewR (M : Addr → Prop) (H H' : Hp) (d : D) (new : Bool) (w : V) : Prop :=
  match new with
  | true => ∃ a, w = .ref a ∧ H a = none ∧ Top K (Uni M (fun b => b = a)) H' d a
  | false => Rep K M H' d w
end
section
variable {K : PySem.W.Frag} {N M : Addr → Prop} {H H' : Hp} {c : Ct} {σ : St} {δ δ' : Env'}
theorem Rep.look {d : D} {v : V} (h : Rep K M H d v) (hn : ∀ a, N a → M a) : Look K N M H d v := by
  cases d with
  | lst ds =>
    simp only [Rep] at h
    obtain ⟨a, vs, e, r, q⟩ := h
    exact ⟨a, vs, e, ⟨fun y => r.1 (hn a y), r.2⟩, q⟩
  | dct ds =>
    simp only [Rep] at h
    obtain ⟨a, vs, e, n, r, q⟩ := h
    exact ⟨a, vs, e, fun z => n (hn a z), r, q⟩
  | ins C ds =>
    simp only [Rep] at h
    obtain ⟨a, dx, vs, e, n, r, q⟩ := h
    exact ⟨a, dx, vs, e, fun z => n (hn a z), r, q⟩
  | _ => exact h
theorem Top.look {d : D} {a : Addr} {M' : Addr → Prop} (h : Top K M' H d a) (hn : ¬ N a) (hm : ∀ b, M b → M' b) : Look K N M H d (.ref a) := by
  cases d with
  | lst ds =>
    obtain ⟨vs, e, r⟩ := h
    exact ⟨a, vs, rfl, ⟨hn, e⟩, r.mono (S := fun _ => False) Keeps.refl (fun _ _ z => z.elim) fun b _ z => hm b z⟩
  | dct ds =>
    obtain ⟨vs, e, r⟩ := h
    exact ⟨a, vs, rfl, hn, e, r.mono (S := fun _ => False) Keeps.refl (fun _ _ z => z.elim) fun b _ z => hm b z⟩
  | ins C ds =>
    obtain ⟨dx, vs, e, r⟩ := h
    exact ⟨a, dx, vs, rfl, hn, e, r.mono (S := fun _ => False) Keeps.refl (fun _ _ z => z.elim) fun b _ z => hm b z⟩
  | _ => exact (show False from h).elim
theorem RVR.see {rv : RV} {v : V} {d : D} (e : EnvR K c σ δ H) (r : RVR K c σ δ H rv v) (h : rv.tree δ = some d) : Look K c.N (Uni c.N (Own σ δ)) H d v := by
  cases rv with
  | own i =>
    obtain ⟨h1, k, d', h2⟩ := r
    simp only [RV.tree, h2, Option.some.injEq] at h
    subst h
    obtain ⟨u, hu, q⟩ := e.slot i k d' h2
    rw [h1] at hu
    cases Option.some.inj (Option.some.inj hu)
    cases k with
    | sh => exact Rep.look q fun _ z => .inl z
    | ow => obtain ⟨a, h1, h2, h3, h4⟩ := q; subst h1; exact h4.look h2 fun _ z => z
    | io => obtain ⟨a, h1, h2, h3, h4⟩ := q; subst h1; exact h4.look h2 fun _ z => z
  | val d' b =>
    simp only [RV.tree, Option.some.injEq] at h
    subst h
    cases b with
    | false => exact Rep.look r fun _ z => .inl z
    | true => obtain ⟨a, h1, h2, h3, h4, h5⟩ := r; subst h1; exact h5.look h2 fun _ z => .inl z
/-- an answer out of what was looked at is a value in hand -/
theorem EnvR.answer {d : D} {new : Bool} {w : V} (e : EnvR K c σ δ H) (k : Keeps (fun _ => False) H H') (hd : ∀ a, Liv H a → Liv H' a) (r : NewR K (Uni c.N (Own σ δ)) H H' d new w) :
    EnvR K c σ δ H' ∧ Stp σ δ H δ H' ∧ RVX K c σ δ H' (.val d new) w := by
  refine ⟨e.keeps k hd, ⟨k.weaken fun _ z => z.elim, fun _ h => h, fun i x h => ⟨x, h⟩, hd⟩, ?_, fun d' a e1 e2 => ?_⟩
  rotate_left
  · cases e1
    obtain ⟨b, h1, h2, h3⟩ := r
    rw [e2] at h1
    cases h1
    exact e.plus k hd (fun z => z.no h2) h3.there
  cases new with
  | false => exact r
  | true =>
    obtain ⟨a, h1, h2, h3⟩ := r
    obtain ⟨f1, f2, f3⟩ := e.new_free h2
    exact ⟨a, h1, f1, f2, f3, h3⟩
theorem Look.mono {S : Addr → Prop} {d : D} {v : V} (h : Look K N M H d v) (k : Keeps (fun _ => False) H H') : Look K N M H' d v := by
  cases d with
  | lst ds =>
    obtain ⟨a, vs, e, r, q⟩ := h
    exact ⟨a, vs, e, ⟨r.1, k _ _ r.2 fun z => z⟩, q.mono k (fun _ _ z => z.elim) fun _ _ z => z⟩
  | dct ds =>
    obtain ⟨a, vs, e, n, r, q⟩ := h
    exact ⟨a, vs, e, n, k _ _ r fun z => z, q.mono k (fun _ _ z => z.elim) fun _ _ z => z⟩
  | ins C ds =>
    obtain ⟨a, dx, vs, e, n, r, q⟩ := h
    exact ⟨a, dx, vs, e, n, k _ _ r fun z => z, q.mono k (fun _ _ z => z.elim) fun _ _ z => z⟩
  | _ => exact Rep.mono k (fun _ _ z => z.elim) (fun _ _ z => z) h
theorem NewR.list {vs : List V} {ds : List D} {p : Addr} (hp : H p = none) (r : Reps K M H ds vs) : NewR K M H (upd H p (.lst vs)) (.lst ds) true (.ref p) :=
  ⟨p, rfl, hp, vs, upd_same, r.mono (S := fun _ => False) (Keeps.up hp) (fun _ _ z => z.elim) fun b hb z => z.elim id fun q => (hb.no (by rw [show b = p from q]; exact hp)).elim⟩
theorem NewR.tup {vs : List V} {ds : List D} {p : Addr} (hp : H p = none) (hm : ¬ M p) (r : Reps K M H ds vs) : NewR K M H (upd H p (.tup vs)) (.tup ds) false (.ref p) := by
  show Rep K M _ _ _
  simp only [Rep]
  exact ⟨p, vs, rfl, .inl ⟨hm, upd_same⟩, r.mono (S := fun _ => False) (Keeps.up hp) (fun _ _ z => z.elim) fun b hb z => z⟩
end

/-! ### names, constants -/
def eVar (i : Nat) : FE := fun δ => match δ[i]? with
  | some (some (.sh, d)) => .ok (.val d false) δ
  | some (some (_, _)) => .ok (.own i) δ
  | _ => .bad
def eC (d : D) : FE := ret' (.val d false)
section
variable {X : Cx} {W : WX} {a b : Expr} {pos : Pos}
theorem de_var {i : Nat} {x : Str} (hN : X.N[i]? = some x) (hv : Vis X.env.scope x) (hd : (x == ("__debug__" : Str)) = false) (hcd : (x == ("__classdict__" : Str)) = false) : DE X W (eVar i) (.Name x pos) := by
  refine pe_mono (pe_var hN hv hd hcd) fun σ H Q ⟨c, δ, e, h⟩ => ?_
  unfold eVar at h
  split at h
  · rename_i d hs
    obtain ⟨v, hv, r⟩ := e.slot i .sh d hs
    exact ⟨v, hv, h v H e .refl ⟨r, fun _ _ z => nomatch z⟩⟩
  · rename_i k d _ hs
    obtain ⟨v, hv, r⟩ := e.slot i k d hs
    exact ⟨v, hv, h v H e .refl ⟨⟨hv, k, d, hs⟩, fun _ _ z => nomatch z⟩⟩
  · exact h.elim
theorem de_C {d : D} {v : V} {t : TE} (h : PE X a t) (ht : ∀ σ H Q, Q v H → t σ H Q) (hr : ∀ N H, Rep X.K N H d v) : DE X W (eC d) a :=
  pe_mono h fun σ H Q ⟨c, δ, e, q⟩ => ht σ H Q (q v H e .refl ⟨hr _ _, fun _ _ z => nomatch z⟩)
theorem de_int {i : Int} {j} : DE X W (eC (.int i)) (.Constant (.int i) j pos) := de_C pe_int (fun _ _ _ q => q) fun _ _ => by simp only [Rep]
theorem de_bl {i : Bool} {j} : DE X W (eC (.bl i)) (.Constant (.bool i) j pos) := de_C pe_bl (fun _ _ _ q => q) fun _ _ => by simp only [Rep]
theorem de_non {j} : DE X W (eC .non) (.Constant .none j pos) := de_C pe_non (fun _ _ _ q => q) fun _ _ => by simp only [Rep]
theorem de_str {i : Str} {j} : DE X W (eC (.str i)) (.Constant (.str i) j pos) := de_C pe_str (fun _ _ _ q => q) fun _ _ => by simp only [Rep]
theorem de_glob {x : Str} {d : D} {v : V} {u : Value} (hg : Gl X x) (hm : X.mg x = some u) (r : RelV v u) (hr : ∀ N H, Rep X.K N H d v) (hd : (x == ("__debug__" : Str)) = false) : DE X W (eC d) (.Name x pos) :=
  de_C (pe_glob hg hm r hd) (fun _ _ _ q => q) hr
end

/-! ### operations on looked at values -/
/-- an answer's tree and whether its object is new; none: not served -/
abbrev An := Option (D × Bool)
def fin (o : An) : FE := match o with
  | some (d, new) => ret' (.val d new)
  | none => bad'
/-- a rule by values gives what the trees' operation says -/
def Gives (K : PySem.W.Frag) (r : Hp → VK → Prop) (M : Addr → Prop) (H : Hp) (o : An) : Prop :=
  ∀ d new, o = some (d, new) → ∀ Q : VK, (∀ w H', Keeps (fun _ => False) H H' → (∀ a, Liv H a → Liv H' a) → NewR K M H H' d new w → Q w H') → r H Q
def Op2D (K : PySem.W.Frag) (r : R2) (g : D → D → An) : Prop := ∀ N M H x y u v, (∀ a, N a → M a) → (∀ p, H p = none → ¬ M p) → Look K N M H x u → Look K N M H y v → Gives K (r u v) M H (g x y)
def Op1D (K : PySem.W.Frag) (r : V → Hp → VK → Prop) (g : D → An) : Prop := ∀ N M H x u, (∀ a, N a → M a) → (∀ p, H p = none → ¬ M p) → Look K N M H x u → Gives K (r u) M H (g x)
inductive Looks' (K : PySem.W.Frag) (N M : Addr → Prop) (H : Hp) : List D → List V → Prop
  | nil : Looks' K N M H [] []
  | cons {d : D} {v : V} {ds : List D} {vs : List V} : Look K N M H d v → Looks' K N M H ds vs → Looks' K N M H (d :: ds) (v :: vs)
def OpND (K : PySem.W.Frag) (r : List V → Hp → VK → Prop) (g : List D → An) : Prop := ∀ N M H xs us, (∀ a, N a → M a) → (∀ p, H p = none → ¬ M p) → Looks' K N M H xs us → Gives K (r us) M H (g xs)
theorem Gives.same {K : PySem.W.Frag} {r : Hp → VK → Prop} {M : Addr → Prop} {H : Hp} {o : An} (h : ∀ d, o = some (d, false) → ∃ w, Rep K M H d w ∧ ∀ Q : VK, Q w H → r H Q) (h2 : ∀ d, o ≠ some (d, true)) : Gives K r M H o := fun d new e Q q => by
  cases new with
  | true => exact absurd e (h2 d)
  | false =>
    obtain ⟨w, hw, hr⟩ := h d e
    exact hr Q (q w H Keeps.refl (fun _ z => z) hw)
theorem Gives.none {K : PySem.W.Frag} {r : Hp → VK → Prop} {M : Addr → Prop} {H : Hp} : Gives K r M H none := fun _ _ e => nomatch e
def trees (δ : Env') (l : List RV) : Option (List D) := l.mapM fun rv => rv.tree δ
def e2 (g : D → D → An) (fa fb : FE) : FE := bnd fa fun ra => bnd fb fun rb δ => match ra.tree δ, rb.tree δ with
  | some x, some y => fin (g x y) δ
  | _, _ => .bad
def e1 (g : D → An) (fa : FE) : FE := bnd fa fun ra δ => match ra.tree δ with
  | some x => fin (g x) δ
  | none => .bad
def eN (g : List D → An) (fa : FA) : FE := bnd fa fun ra δ => match trees δ ra with
  | some xs => fin (g xs) δ
  | none => .bad
section
variable {X : Cx} {W : WX} {a b : Expr} {es : List Expr} {pos : Pos} {K : PySem.W.Frag}
theorem Post.fin {c : Ct} {σ : St} {δ : Env'} {H : Hp} {o : An} {Q : VK} {r : Hp → VK → Prop} (e : EnvR K c σ δ H) (g : Gives K r (Uni c.N (Own σ δ)) H o) (h : Post K W (RVX K) c σ δ H (TM.fin o δ) Q) : r H Q := by
  unfold TM.fin at h
  cases o with
  | none => exact (show False from h).elim
  | some p =>
    obtain ⟨d, new⟩ := p
    refine g d new rfl Q fun w H' k hd n => ?_
    obtain ⟨e', s', r'⟩ := e.answer k hd n
    exact h w H' e' s' r'
theorem EnvR.free {c : Ct} {σ : St} {δ : Env'} {H : Hp} (e : EnvR K c σ δ H) : ∀ p, H p = none → ¬ Uni c.N (Own σ δ) p := fun p hp z => z.elim (e.new_free hp).1 (e.new_free hp).2.2
theorem de_bin {fa fb : FE} {r : R2} {g : D → D → An} {op : Operator} (hr : OpR X (binaryOp op) r) (hg : Op2D X.K r g) (ha : DE X W fa a) (hb : DE X W fb b) : DE X W (e2 g fa fb) (.BinOp a op b pos) := by
  refine pe_mono (pe_op hr ha hb) fun σ H Q ⟨c, δ, e, h⟩ => ?_
  refine ⟨c, δ, e, (Post.bnd (R := RVX X.K) h).imp fun u H1 ⟨δ1, ra, e1, s1, r1, h1⟩ => ⟨c, δ1, e1, (Post.bnd (R := RVX X.K) h1).imp fun v H2 ⟨δ2, rb, e2, s2, r2, h2⟩ => ?_⟩⟩
  split at h2
  · rename_i x y hx hy
    exact Post.fin e2 (hg _ _ _ _ _ _ _ (fun _ z => .inl z) e2.free ((r1.1.mono s2).see e2 hx) (r2.1.see e2 hy)) h2
  · exact h2.elim
theorem de_cmp {fa fb : FE} {r : R2} {g : D → D → An} {op : CmpOp} (hr : OpR X (compareOp op) r) (hg : Op2D X.K r g) (ha : DE X W fa a) (hb : DE X W fb b) (hm : behindInMarks op b = false) : DE X W (e2 g fa fb) (.Compare a [op] [b] pos) := by
  refine pe_mono (pe_cmpR hr ha hb hm) fun σ H Q ⟨c, δ, e, h⟩ => ?_
  refine ⟨c, δ, e, (Post.bnd (R := RVX X.K) h).imp fun u H1 ⟨δ1, ra, e1, s1, r1, h1⟩ => ⟨c, δ1, e1, (Post.bnd (R := RVX X.K) h1).imp fun v H2 ⟨δ2, rb, e2, s2, r2, h2⟩ => ?_⟩⟩
  split at h2
  · rename_i x y hx hy
    exact Post.fin e2 (hg _ _ _ _ _ _ _ (fun _ z => .inl z) e2.free ((r1.1.mono s2).see e2 hx) (r2.1.see e2 hy)) h2
  · exact h2.elim
theorem de_un {fa : FE} {r : V → Hp → VK → Prop} {g : D → An} {op : UnaryOp} (hr : UnR X (unaryOp op) r) (hg : Op1D X.K r g) (ha : DE X W fa a) : DE X W (e1 g fa) (.UnaryOp op a pos) := by
  refine pe_mono (pe_un hr ha) fun σ H Q ⟨c, δ, e, h⟩ => ?_
  refine ⟨c, δ, e, (Post.bnd (R := RVX X.K) h).imp fun u H1 ⟨δ1, ra, e1, s1, r1, h1⟩ => ?_⟩
  split at h1
  · rename_i x hx
    exact Post.fin e1 (hg _ _ _ _ _ (fun _ z => .inl z) e1.free (r1.1.see e1 hx)) h1
  · exact h1.elim
theorem looks_of {c : Ct} {σ : St} {δ : Env'} {H : Hp} (e : EnvR K c σ δ H) : ∀ {rs : List RV} {vs : List V} {xs : List D}, RVs K c σ δ H rs vs → trees δ rs = some xs → Looks' K c.N (Uni c.N (Own σ δ)) H xs vs
  | [], _, xs, h, q => by
    cases h
    simp only [trees, List.mapM_nil, Option.pure_def, Option.some.injEq] at q
    subst q; exact .nil
  | r :: rs, _, xs, h, q => by
    cases h with
    | cons h1 h2 =>
      simp only [trees, List.mapM_cons, Option.bind_eq_bind, Option.pure_def] at q
      cases q1 : r.tree δ with
      | none => rw [q1] at q; cases q
      | some x =>
        rw [q1] at q
        simp only [Option.bind_some] at q
        cases q2 : trees δ rs with
        | none => rw [show List.mapM (fun rv => RV.tree δ rv) rs = trees δ rs from rfl, q2] at q; cases q
        | some ys =>
          rw [show List.mapM (fun rv => RV.tree δ rv) rs = trees δ rs from rfl, q2] at q
          simp only [Option.bind_some, Option.some.injEq] at q
          subst q
          exact .cons (h1.see e q1) (looks_of e h2 q2)
end
/-! ### operands -/
def aNil : FA := ret' []
def aCons (f : FE) (g : FA) : FA := bnd f fun r => bnd g fun rs => ret' (r :: rs)
section
variable {X : Cx} {W : WX} {a : Expr} {es : List Expr} {K : PySem.W.Frag}
theorem da_nil : DA X W aNil [] := pa_mono pa_nil fun σ H Q ⟨c, δ, e, h⟩ => h [] H e .refl .nil
theorem RVs.mono {c : Ct} {σ : St} {δ δ' : Env'} {H H' : Hp} (s : Stp σ δ H δ' H') {rs : List RV} {vs : List V} (h : RVs K c σ δ H rs vs) : RVs K c σ δ' H' rs vs := Paired.mapP h fun _ _ r => r.mono s
theorem da_cons {fa : FE} {g : FA} (ha : DE X W fa a) (hb : DA X W g es) (hs : starEach (a :: es) X.env = (false, eval a X.env) :: starEach es X.env) : DA X W (aCons fa g) (a :: es) := by
  refine pa_mono (pa_cons ha hb hs) fun σ H Q ⟨c, δ, e, h⟩ => ?_
  refine ⟨c, δ, e, (Post.bnd (R := RVX X.K) h).imp fun u H1 ⟨δ1, ra, e1, s1, r1, h1⟩ => ⟨c, δ1, e1, (Post.bnd (R := RVs X.K) h1).imp fun v H2 ⟨δ2, rb, e2, s2, r2, h2⟩ => ?_⟩⟩
  exact h2 _ _ e2 .refl (.cons (r1.1.mono s2) r2)
end
end TM
set_option maxRecDepth 100000
set_option maxHeartbeats 4000000
/-! T4: operations on trees -/
namespace TM
open PySem PySem.Spec PyProof.Rows L2
variable [Tbs]

abbrev SZ : Nat := 16777216
theorem sz_eq : sizeLine = SZ := sizeLine_eq
section
variable {K : PySem.W.Frag} {N M : Addr → Prop} {H : Hp} {u v : V}
theorem Look.lst {ds : List D} (h : Look K N M H (.lst ds) u) : ∃ a vs, u = .ref a ∧ (¬ N a ∧ H a = some (.lst vs)) ∧ Reps K M H ds vs := h
theorem Look.tup {ds : List D} (h : Look K N M H (.tup ds) u) : ∃ a vs, u = .ref a ∧ ST K M H a vs ∧ Reps K M H ds vs := by
  have h' : Rep K M H (.tup ds) u := h
  simpa only [Rep] using h'
theorem Look.fz {ds : List D} (h : Look K N M H (.fz ds) u) : ∃ a vs, u = .ref a ∧ SF K M H a vs ∧ Reps K M H ds vs := by
  have h' : Rep K M H (.fz ds) u := h
  simpa only [Rep] using h'
theorem Look.int {i : Int} (h : Look K N M H (.int i) u) : u = .int i := by have h' : Rep K M H (.int i) u := h; simpa only [Rep] using h'
theorem Look.str {i : Str} (h : Look K N M H (.str i) u) : u = .str i := by have h' : Rep K M H (.str i) u := h; simpa only [Rep] using h'
theorem Look.bl {i : Bool} (h : Look K N M H (.bl i) u) : u = .bl i := by have h' : Rep K M H (.bl i) u := h; simpa only [Rep] using h'
theorem Look.non (h : Look K N M H .non u) : u = .non := by have h' : Rep K M H .non u := h; simpa only [Rep] using h'
theorem rInt {i : Int} : Rep K M H (.int i) (.int i) := by simp only [Rep]
theorem rStr {i : Str} : Rep K M H (.str i) (.str i) := by simp only [Rep]
theorem rBl {i : Bool} : Rep K M H (.bl i) (.bl i) := by simp only [Rep]
theorem rNon : Rep K M H .non .non := by simp only [Rep]
/-- an answer that is a flat value -/
theorem gives_flat {r : Hp → VK → Prop} {d : D} {w : V} (hw : Rep K M H d w) (hr : ∀ Q : VK, Q w H → r H Q) : Gives K r M H (some (d, false)) :=
  Gives.same (fun d' e => by cases e; exact ⟨w, hw, hr⟩) fun d' e => by cases e
theorem gives_list {r : Hp → VK → Prop} {ds : List D} {vs : List V} (hw : Reps K M H ds vs) (hr : ∀ Q : VK, (∀ p, H p = none → Q (.ref p) (upd H p (.lst vs))) → r H Q) : Gives K r M H (some (.lst ds, true)) := fun d new e Q q => by
  cases e
  exact hr Q fun p hp => q _ _ (Keeps.up hp) upd_dom (NewR.list hp hw)
theorem gives_tup {r : Hp → VK → Prop} {ds : List D} {vs : List V} (hf : ∀ p, H p = none → ¬ M p) (hw : Reps K M H ds vs) (hr : ∀ Q : VK, (∀ p, H p = none → Q (.ref p) (upd H p (.tup vs))) → r H Q) : Gives K r M H (some (.tup ds, false)) := fun d new e Q q => by
  cases e
  exact hr Q fun p hp => q _ _ (Keeps.up hp) upd_dom (NewR.tup hp (hf p hp) hw)
end
/-! ### + - * // % and their kin -/
def rOr (r r' : R2) : R2 := fun x y H Q => r x y H Q ∨ r' x y H Q
def dAdd : D → D → An
  | .int i, .int j => some (.int (i + j), false)
  | .str s, .str t => if s.length + t.length ≤ SZ then some (.str (s ++ t), false) else none
  | .lst xs, .lst ys => if xs.length + ys.length ≤ SZ then some (.lst (xs ++ ys), true) else none
  | .tup (x :: xs), .tup [] => if xs.length + 1 ≤ SZ then some (.tup (x :: xs), false) else none
  | .tup (x :: xs), .tup (y :: ys) => if xs.length + 1 + (ys.length + 1) ≤ SZ then some (.tup (x :: xs ++ y :: ys), false) else none
  | _, _ => none
def rAdd (K : PySem.W.Frag) : R2 := rOr (rI0 fun i j => .int (i + j)) (rOr (fun x y H Q => ∃ i j, x = .str i ∧ y = .str j ∧ i.length + j.length ≤ sizeLine ∧ Q (.str (i ++ j)) H) (rOr rCat (rCatT K)))
theorem op_addD {X : Cx} : OpR X (binaryOp .Add) (rAdd X.K) := op_add.or (op_add_str.or (op_cat.or op_catT))
theorem add_g {K : PySem.W.Frag} : Op2D K (rAdd K) dAdd := by
  intro N M H x y u v hn hf hx hy
  unfold dAdd
  split
  · exact gives_flat rInt fun Q q => .inl ⟨_, _, hx.int, hy.int, q⟩
  · split
    · rename_i hz
      exact gives_flat rStr fun Q q => .inr (.inl ⟨_, _, hx.str, hy.str, by rw [sz_eq]; exact hz, q⟩)
    · exact Gives.none
  · split
    · rename_i hz
      obtain ⟨a, vs, rfl, ⟨_, ha⟩, hr⟩ := hx.lst
      obtain ⟨b, us, rfl, ⟨_, hb⟩, hs⟩ := hy.lst
      exact gives_list (hr.append hs) fun Q q => .inr (.inr (.inl ⟨_, _, _, _, rfl, rfl, ha, hb, by rw [sz_eq, hr.length, hs.length]; exact hz, q⟩))
    · exact Gives.none
  · rename_i x xs
    split
    · rename_i hz
      obtain ⟨a, vs, rfl, ha, hr⟩ := hx.tup
      obtain ⟨b, us, rfl, hb, hs⟩ := hy.tup
      have l1 := hr.length
      have l2 := hs.length
      have e2 : us = [] := List.length_eq_zero_iff.mp l2
      have rp : Rep K M H (.tup (x :: xs)) (.ref a) := by simp only [Rep]; exact ⟨a, vs, rfl, ha, hr⟩
      exact gives_flat rp fun Q q => .inr (.inr (.inr ⟨_, _, _, _, rfl, rfl, ha.sq, hb.sq, fun z => (by rw [z] at l1; cases l1), by rw [sz_eq, l1, l2]; exact hz, fun _ => q, fun z => absurd e2 z⟩))
    · exact Gives.none
  · rename_i x xs y ys
    split
    · rename_i hz
      obtain ⟨a, vs, rfl, ha, hr⟩ := hx.tup
      obtain ⟨b, us, rfl, hb, hs⟩ := hy.tup
      have l1 := hr.length
      have l2 := hs.length
      exact gives_tup hf (hr.append hs) fun Q q => .inr (.inr (.inr ⟨_, _, _, _, rfl, rfl, ha.sq, hb.sq, fun z => (by rw [z] at l1; cases l1), by rw [sz_eq, l1, l2]; exact hz, fun z => by (rw [z] at l2; cases l2), fun _ => q⟩))
    · exact Gives.none
  · exact Gives.none
/-- ints under a condition -/
def dI (C : Int → Int → Bool) (g : Int → Int → Int) : D → D → An
  | .int i, .int j => if C i j then some (.int (g i j), false) else none
  | _, _ => none
theorem dI_g {K : PySem.W.Frag} {C : Int → Int → Bool} {P : Int → Int → Prop} {g : Int → Int → Int} (h : ∀ i j, C i j = true → P i j) : Op2D K (rI P fun i j => .int (g i j)) (dI C g) := by
  intro N M H x y u v hn hf hx hy
  unfold dI
  split
  · split
    · rename_i hc
      exact gives_flat rInt fun Q q => ⟨_, _, hx.int, hy.int, h _ _ hc, q⟩
    · exact Gives.none
  · exact Gives.none
def dI0 (g : Int → Int → Int) : D → D → An
  | .int i, .int j => some (.int (g i j), false)
  | _, _ => none
theorem dI0_g {K : PySem.W.Frag} {g : Int → Int → Int} : Op2D K (rI0 fun i j => .int (g i j)) (dI0 g) := by
  intro N M H x y u v hn hf hx hy
  unfold dI0
  split
  · exact gives_flat rInt fun Q q => ⟨_, _, hx.int, hy.int, q⟩
  · exact Gives.none
abbrev B64 : Int := 18446744073709551616
def cMul (i j : Int) : Bool := (decide (-B64 < i) && decide (i < B64)) || (decide (-B64 < j) && decide (j < B64))
theorem cMul_ok : ∀ i j, cMul i j = true → CMul i j := fun i j h => by
  simpa [cMul, CMul, B64] using h
def dMul : D → D → An
  | .int i, .int j => if cMul i j then some (.int (i * j), false) else none
  | .lst xs, .int k => if decide (-9223372036854775808 ≤ k) && decide (k < 9223372036854775808) && decide (xs.length * k.toNat ≤ SZ) then some (.lst (List.replicate k.toNat xs).flatten, true) else none
  | _, _ => none
def rMul : R2 := rOr (rI CMul fun i j => .int (i * j)) rRep
theorem op_mulD {X : Cx} : OpR X (binaryOp .Mult) rMul := op_mul.or op_rep
theorem Reps.rep {K : PySem.W.Frag} {N : Addr → Prop} {H : Hp} {ds : List D} {vs : List V} (h : Reps K N H ds vs) : ∀ n : Nat, Reps K N H (List.replicate n ds).flatten (List.replicate n vs).flatten
  | 0 => by simp only [List.replicate, List.flatten_nil]; exact Reps.nil
  | n + 1 => by simp only [List.replicate_succ, List.flatten_cons]; exact h.append (Reps.rep h n)
theorem mul_g {K : PySem.W.Frag} : Op2D K rMul dMul := by
  intro N M H x y u v hn hf hx hy
  unfold dMul
  split
  · split
    · rename_i hc
      exact gives_flat rInt fun Q q => .inl ⟨_, _, hx.int, hy.int, cMul_ok _ _ hc, q⟩
    · exact Gives.none
  · split
    · rename_i hc
      simp only [Bool.and_eq_true, decide_eq_true_eq] at hc
      obtain ⟨a, vs, rfl, ⟨_, ha⟩, hr⟩ := hx.lst
      exact gives_list (hr.rep _) fun Q q => .inr ⟨_, _, _, rfl, hy.int, ha, hc.1.1, hc.1.2, by rw [sz_eq, hr.length]; exact hc.2, q⟩
    · exact Gives.none
  · exact Gives.none
def cDiv (i j : Int) : Bool := decide (0 < j) && decide (j < 1073741824)
theorem cDiv_ok : ∀ i j, cDiv i j = true → CDiv i j := fun i j h => by simpa [cDiv, CDiv] using h
def cMod (i j : Int) : Bool := decide (0 < j)
theorem cMod_ok : ∀ i j, cMod i j = true → (fun _ j => 0 < j) i j := fun i j h => by simpa [cMod] using h
def cPow (i j : Int) : Bool := decide (0 ≤ j) && decide (j ≤ 1000000) && decide (i.natAbs < 18446744073709551616)
theorem cPow_ok : ∀ i j, cPow i j = true → CPow i j := fun i j h => by
  have e : (2 : Nat) ^ 64 = 18446744073709551616 := by decide
  simp only [cPow, Bool.and_eq_true, decide_eq_true_eq] at h
  exact ⟨h.1.1, h.1.2, by rw [e]; exact h.2⟩
def cShr (i j : Int) : Bool := decide (0 ≤ j)
theorem cShr_ok : ∀ i j, cShr i j = true → (fun _ j => 0 ≤ j) i j := fun i j h => by simpa [cShr] using h
/-! ### == of data -/
mutual
def toP : D → Option PyData
  | .non => some .none
  | .bl b => some (.bool b)
  | .int i => some (.int i)
  | .str s => some (.str s)
  | .lst ds => (toPs ds).map .list
  | .tup ds => (toPs ds).map .tuple
  | _ => none
def toPs : List D → Option (List PyData)
  | [] => some []
  | d :: ds => match toP d, toPs ds with
    | some p, some ps => some (p :: ps)
    | _, _ => none
end
section
variable {K : PySem.W.Frag} {N M : Addr → Prop} {H : Hp}
mutual
theorem Rep.dp : ∀ {d : D} {v : V} {p : PyData}, Rep K N H d v → toP d = some p → Dp K H v p
  | .non, _, _, h, e => by simp only [Rep] at h; simp only [toP, Option.some.injEq] at e; subst h e; exact .non
  | .bl _, _, _, h, e => by simp only [Rep] at h; simp only [toP, Option.some.injEq] at e; subst h e; exact .bl _
  | .int _, _, _, h, e => by simp only [Rep] at h; simp only [toP, Option.some.injEq] at e; subst h e; exact .int _
  | .str _, _, _, h, e => by simp only [Rep] at h; simp only [toP, Option.some.injEq] at e; subst h e; exact .str _
  | .lst ds, _, _, h, e => by
    simp only [Rep] at h
    obtain ⟨a, vs, rfl, r, q⟩ := h
    simp only [toP, Option.map_eq_some_iff] at e
    obtain ⟨ps, e1, rfl⟩ := e
    exact .lst r.sq (Reps.dp q e1)
  | .tup ds, _, _, h, e => by
    simp only [Rep] at h
    obtain ⟨a, vs, rfl, r, q⟩ := h
    simp only [toP, Option.map_eq_some_iff] at e
    obtain ⟨ps, e1, rfl⟩ := e
    exact .tup r.sq (Reps.dp q e1)
  | .fz _, _, _, _, e => by simp [toP] at e
  | .dct _, _, _, _, e => by simp [toP] at e
  | .ins _ _, _, _, _, e => by simp [toP] at e
  | .opq _, _, _, _, e => by simp [toP] at e
theorem Reps.dp : ∀ {ds : List D} {vs : List V} {ps : List PyData}, Reps K N H ds vs → toPs ds = some ps → DpAll K H vs ps
  | [], _, _, h, e => by simp only [Reps] at h; simp only [toPs, Option.some.injEq] at e; subst h e; exact .nil
  | d :: ds, _, _, h, e => by
    simp only [Reps] at h
    obtain ⟨v, r, rfl, h1, h2⟩ := h
    simp only [toPs] at e
    split at e
    · rename_i p qs e1 e2
      cases e
      exact .cons (Rep.dp h1 e1) (Reps.dp h2 e2)
    · cases e
end
theorem Look.dp {d : D} {v : V} {p : PyData} (h : Look K N M H d v) (e : toP d = some p) : Dp K H v p := by
  cases d with
  | lst ds =>
    obtain ⟨a, vs, rfl, r, q⟩ := h
    simp only [toP, Option.map_eq_some_iff] at e
    obtain ⟨ps, e1, rfl⟩ := e
    exact .lst (SL.sq (N := N) r) (q.dp e1)
  | dct _ => simp [toP] at e
  | ins _ _ => simp [toP] at e
  | opq _ => simp [toP] at e
  | _ => exact Rep.dp (N := M) h e
end
def shp (d : D) : Option PyData := match toP d with
  | some p => if SeqAt.shaped p then some p else none
  | none => none
theorem shp_ok {d : D} {p : PyData} (h : shp d = some p) : toP d = some p ∧ SeqAt.shaped p = true := by
  unfold shp at h
  split at h
  · rename_i q e
    split at h
    · rename_i s
      cases h
      exact ⟨e, s⟩
    · cases h
  · cases h
def dEq (neg : Bool) (x y : D) : An := match shp x, shp y with
  | some p, some q => some (.bl (if neg then !PyData.eqv p q else PyData.eqv p q), false)
  | _, _ => none
theorem eq_g {K : PySem.W.Frag} : Op2D K (rEqD K) (dEq false) := by
  intro N M H x y u v hn hf hx hy
  unfold dEq
  split
  · rename_i p q e1 e2
    obtain ⟨a1, a2⟩ := shp_ok e1
    obtain ⟨b1, b2⟩ := shp_ok e2
    exact gives_flat rBl fun Q h => ⟨p, q, hx.dp a1, hy.dp b1, a2, b2, h⟩
  · exact Gives.none
theorem ne_g {K : PySem.W.Frag} : Op2D K (rNeD K) (dEq true) := by
  intro N M H x y u v hn hf hx hy
  unfold dEq
  split
  · rename_i p q e1 e2
    obtain ⟨a1, a2⟩ := shp_ok e1
    obtain ⟨b1, b2⟩ := shp_ok e2
    exact gives_flat rBl fun Q h => ⟨p, q, hx.dp a1, hy.dp b1, a2, b2, h⟩
  · exact Gives.none
/-! ### order of ints, of texts -/
def dCmp (g : Int → Int → Bool) (f : Str → Str → Bool) : D → D → An
  | .int i, .int j => some (.bl (g i j), false)
  | .str s, .str t => some (.bl (f s t), false)
  | _, _ => none
theorem cmp_g {K : PySem.W.Frag} {g : Int → Int → Bool} {f : Str → Str → Bool} : Op2D K (rOr (rI0 fun i j => .bl (g i j)) (fun x y H Q => ∃ i j, x = .str i ∧ y = .str j ∧ Q (.bl (f i j)) H)) (dCmp g f) := by
  intro N M H x y u v hn hf hx hy
  unfold dCmp
  split
  · exact gives_flat rBl fun Q q => .inl ⟨_, _, hx.int, hy.int, q⟩
  · exact gives_flat rBl fun Q q => .inr ⟨_, _, hx.str, hy.str, q⟩
  · exact Gives.none
def sLt (s t : Str) : Bool := decide (s.cps.toList < t.cps.toList)
def dLt : D → D → An := dCmp (fun i j => decide (i < j)) sLt
def dLe : D → D → An := dCmp (fun i j => decide (i ≤ j)) fun s t => !sLt t s
def dGt : D → D → An := dCmp (fun i j => decide (j < i)) fun s t => sLt t s
def dGe : D → D → An := dCmp (fun i j => decide (j ≤ i)) fun s t => !sLt s t
/-! ### is None -/
def isNon : D → Bool
  | .opq u => decide (u = .non)
  | .non => true
  | _ => false
def dIsN (neg : Bool) (x y : D) : An := match y with
  | .non => some (.bl (if neg then !isNon x else isNon x), false)
  | _ => none
theorem look_non {K : PySem.W.Frag} {N M : Addr → Prop} {H : Hp} {x : D} {u : V} (h : Look K N M H x u) : decide (u = .non) = isNon x := by
  cases x with
  | opq w => have h' : Rep K M H (.opq w) u := h; simp only [Rep] at h'; subst h'; rfl
  | non => rw [h.non]; rfl
  | bl b => rw [h.bl]; rfl
  | int b => rw [h.int]; rfl
  | str b => rw [h.str]; rfl
  | lst b => obtain ⟨a, vs, rfl, _⟩ := h.lst; rfl
  | tup b => obtain ⟨a, vs, rfl, _⟩ := h.tup; rfl
  | fz b => obtain ⟨a, vs, rfl, _⟩ := h.fz; rfl
  | dct b => obtain ⟨a, vs, rfl, _⟩ := h; rfl
  | ins b => obtain ⟨a, vs, _, rfl, _⟩ := h; rfl
theorem isN_g {K : PySem.W.Frag} : Op2D K (fun x y H Q => y = .non ∧ Q (.bl (decide (x = .non))) H) (dIsN false) := by
  intro N M H x y u v hn hf hx hy
  unfold dIsN
  split
  · have e := look_non hx
    exact gives_flat rBl fun Q q => ⟨hy.non, by rw [e]; exact q⟩
  · exact Gives.none
theorem notN_g {K : PySem.W.Frag} : Op2D K (fun x y H Q => y = .non ∧ Q (.bl (!decide (x = .non))) H) (dIsN true) := by
  intro N M H x y u v hn hf hx hy
  unfold dIsN
  split
  · have e := look_non hx
    exact gives_flat rBl fun Q q => ⟨hy.non, by rw [e]; exact q⟩
  · exact Gives.none
end TM
set_option maxRecDepth 100000
set_option maxHeartbeats 4000000
/-! T5: tests, truth, displays, items, slices, in -/
namespace TM
open PySem PySem.Spec PyProof.Rows L2
variable [Tbs]

/-! ### truth -/
def dTru : D → Option Bool
  | .non => some false
  | .bl b => some b
  | .int i => some (i != 0)
  | .str s => if s.length ≤ SZ then some ((s.length : Int) != 0) else none
  | .lst ds => some (!ds.isEmpty)
  | .tup ds => some (!ds.isEmpty)
  | .dct ks => some (!ks.isEmpty)
  | _ => none
theorem isEmpty_of_length {α β : Type} {l : List α} {m : List β} (h : l.length = m.length) : l.isEmpty = m.isEmpty := by
  cases l <;> cases m <;> simp at h <;> rfl
section
variable {K : PySem.W.Frag} {N M : Addr → Prop} {H : Hp}
theorem RepK.length : ∀ {ds : List (Key × D)} {vs : List (Key × V)}, RepK K N H ds vs → vs.length = ds.length
  | [], _, h => by simp only [RepK] at h; rw [h]; rfl
  | (_, _) :: _, _, h => by
    simp only [RepK] at h
    obtain ⟨v, r, rfl, _, q⟩ := h
    simp [RepK.length q]
theorem Look.tru {d : D} {v : V} {b : Bool} (h : Look K N M H d v) (e : dTru d = some b) : TruV K v H b := by
  cases d with
  | non => simp only [dTru, Option.some.injEq] at e; rw [h.non]; exact e.symm
  | bl i => simp only [dTru, Option.some.injEq] at e; rw [h.bl]; exact e.symm
  | int i => simp only [dTru, Option.some.injEq] at e; rw [h.int]; exact e.symm
  | str s =>
    simp only [dTru] at e
    split at e
    · rename_i hz; cases e; rw [h.str]; exact ⟨by rw [sz_eq]; exact hz, rfl⟩
    · cases e
  | lst ds =>
    simp only [dTru, Option.some.injEq] at e
    obtain ⟨a, vs, rfl, ⟨_, ha⟩, r⟩ := h.lst
    exact .inl ⟨vs, .inl (.inl ha), by rw [← e, isEmpty_of_length r.length]⟩
  | tup ds =>
    simp only [dTru, Option.some.injEq] at e
    obtain ⟨a, vs, rfl, ha, r⟩ := h.tup
    exact .inr (.inl ⟨vs, ha.sq, by rw [← e, isEmpty_of_length r.length]⟩)
  | dct ks =>
    simp only [dTru, Option.some.injEq] at e
    obtain ⟨a, kvs, rfl, _, ha, r⟩ := h
    exact .inr (.inr ⟨kvs, ha, by rw [← e, isEmpty_of_length r.length]⟩)
  | ins _ _ => cases e
  | fz _ => cases e
  | opq _ => cases e
end
def truM (r : RV) : FT := fun δ => match (r.tree δ).bind dTru with
  | some b => .ok b δ
  | none => .bad
def tTru (fa : FE) : FT := bnd fa truM
def isBl (r : RV) : FT := fun δ => match r with
  | .val (.bl b) false => .ok b δ
  | _ => .bad
def tBl (fa : FE) : FT := bnd fa isBl
def tNot' (f : FT) : FT := bnd f fun b => ret' (!b)
def tAnd' (f g : FT) : FT := bnd f fun b => if b then g else ret' false
def tOr' (f g : FT) : FT := bnd f fun b => if b then ret' true else g
def eIf (c : FT) (f g : FE) : FE := bnd c fun b => if b then f else g
def eTest (c : FT) : FE := bnd c fun b => ret' (.val (.bl b) false)
def eOr (f g : FE) : FE := bnd f fun r => bnd (truM r) fun b => if b then ret' r else g
def eAnd (f g : FE) : FE := bnd f fun r => bnd (truM r) fun b => if b then g else ret' r
def eNot (f : FE) : FE := bnd f fun r => bnd (truM r) fun b => ret' (.val (.bl (!b)) false)
section
variable {X : Cx} {W : WX} {a b e : Expr} {rest : List Expr} {pos : Pos} {fa fb fc : FE} {f g : FT} {K : PySem.W.Frag}
theorem truM_post {c : Ct} {σ : St} {δ : Env'} {H : Hp} {r : RV} {v : V} {β : Type} {R : Ct → St → Env' → Hp → α → β → Prop} {k : Bool → M α} {Q : β → Hp → Prop} (e : EnvR K c σ δ H) (hr : RVR K c σ δ H r v) (h : Post K W R c σ δ H (bnd (truM r) k δ) Q) :
    ∃ b, TruV K v H b ∧ Post K W R c σ δ H (k b δ) Q := by
  unfold bnd truM at h
  cases q : (r.tree δ).bind dTru with
  | none => rw [q] at h; exact h.elim
  | some b =>
    rw [q] at h
    obtain ⟨d, h1, h2⟩ := Option.bind_eq_some_iff.mp q
    exact ⟨b, (hr.see e h1).tru h2, h⟩
theorem rvBl {c : Ct} {σ : St} {δ : Env'} {H : Hp} {b : Bool} : RVX K c σ δ H (.val (.bl b) false) (.bl b) := by
  refine ⟨?_, fun _ _ z => nomatch z⟩
  show Rep K (Uni c.N (Own σ δ)) H (.bl b) (.bl b)
  simp only [Rep]
theorem dt_tru (he : ∀ whole, isTrue a X.env whole = (do let v ← whole; standAt a.pos; holding [v] (truthy v))) (ha : DE X W fa a) : DT X W (tTru fa) a := by
  refine pt_mono (pt_truth ha he) fun σ H Q ⟨c, δ, e, h⟩ => ⟨c, δ, e, (Post.bnd (R := RVX X.K) h).imp fun v H1 ⟨δ1, r, e1, s1, hr, h1⟩ => ?_⟩
  unfold truM at h1
  cases q : (r.tree δ1).bind dTru with
  | none => rw [q] at h1; exact h1.elim
  | some b =>
    rw [q] at h1
    obtain ⟨d, k1, k2⟩ := Option.bind_eq_some_iff.mp q
    exact ⟨b, (hr.1.see e1 k1).tru k2, h1 b H1 e1 .refl rfl⟩
theorem isBl_post {c : Ct} {σ : St} {δ : Env'} {H : Hp} {r : RV} {v : V} {Q : Bool → Hp → Prop} (e : EnvR K c σ δ H) (hr : RVR K c σ δ H r v) (h : Post K W (fun _ _ _ _ a b => a = b) c σ δ H (isBl r δ) Q) : ∃ k, v = .bl k ∧ Q k H := by
  unfold isBl at h
  split at h
  · rename_i b
    have h' : Rep K (Uni c.N (Own σ δ)) H (.bl b) v := hr
    simp only [Rep] at h'
    exact ⟨b, h', h b H e .refl rfl⟩
  · exact h.elim
theorem dt_cmp {r : R2} {g : D → D → An} {op : CmpOp} (hr : OpR X (compareOp op) r) (hg : Op2D X.K r g) (ha : DE X W fa a) (hb : DE X W fb b) (hm : behindInMarks op b = false) : DT X W (tBl (e2 g fa fb)) (.Compare a [op] [b] pos) := by
  refine pt_mono (pt_cmpR hr ha hb hm) fun σ H Q ⟨c, δ, e, h⟩ => ?_
  have h' := Post.bnd (R := RVX X.K) h
  refine ⟨c, δ, e, (Post.bnd (R := RVX X.K) h').imp fun u H1 ⟨δ1, ra, e1, s1, r1, h1⟩ => ⟨c, δ1, e1, (Post.bnd (R := RVX X.K) h1).imp fun v H2 ⟨δ2, rb, e2, s2, r2, h2⟩ => ?_⟩⟩
  split at h2
  · rename_i x y hx hy
    refine Post.fin e2 (hg _ _ _ _ _ _ _ (fun _ z => .inl z) e2.free ((r1.1.mono s2).see e2 hx) (r2.1.see e2 hy)) ((h2.imp) fun w H3 h3 => ?_)
    obtain ⟨δ3, rw', e3, s3, r3, h3⟩ := h3
    exact isBl_post e3 r3.1 h3
  · exact h2.elim
theorem dt_not (h : DT X W f a) : DT X W (tNot' f) (.UnaryOp .Not a pos) := by
  refine pt_mono (pt_not h) fun σ H Q ⟨c, δ, e, h⟩ => ⟨c, δ, e, (Post.bnd (R := fun _ _ _ _ a b => a = b) h).imp fun v H1 ⟨δ1, r, e1, s1, hr, h1⟩ => ?_⟩
  cases hr
  exact h1 _ H1 e1 .refl rfl
/-- a test whatever its 'whole' is -/
abbrev DW (X : Cx) (W : WX) (f : FT) (e : Expr) : Prop := PW X e (tT X.K W f)
theorem pw_mono {t t' : TT} (h : PW X e t) (m : ∀ σ H Q, t' σ H Q → t σ H Q) : PW X e t' := ⟨fun wh pins s σ H Q I q => h.run wh pins s σ H Q I (m _ _ _ q)⟩
theorem dw_and1 (ha : DT X W f a) : DW X W f (.BoolOp .And [a] pos) := pw_and1 ha
theorem dw_or1 (ha : DT X W f a) : DW X W f (.BoolOp .Or [a] pos) := pw_or1 ha
theorem dw_and (ha : DT X W f a) (hb : DW X W g (.BoolOp .And (b :: rest) pos)) : DW X W (tAnd' f g) (.BoolOp .And (a :: b :: rest) pos) := by
  refine pw_mono (pw_and ha hb) fun σ H Q ⟨c, δ, e, h⟩ => ⟨c, δ, e, (Post.bnd (R := fun _ _ _ _ a b => a = b) h).imp fun v H1 ⟨δ1, r, e1, s1, hr, h1⟩ => ?_⟩
  cases hr
  cases v with
  | true => rw [if_pos rfl] at h1 ⊢; exact ⟨c, δ1, e1, h1⟩
  | false => rw [if_neg Bool.false_ne_true] at h1 ⊢; exact h1 _ H1 e1 .refl rfl
theorem dw_or (ha : DT X W f a) (hb : DW X W g (.BoolOp .Or (b :: rest) pos)) : DW X W (tOr' f g) (.BoolOp .Or (a :: b :: rest) pos) := by
  refine pw_mono (pw_or ha hb) fun σ H Q ⟨c, δ, e, h⟩ => ⟨c, δ, e, (Post.bnd (R := fun _ _ _ _ a b => a = b) h).imp fun v H1 ⟨δ1, r, e1, s1, hr, h1⟩ => ?_⟩
  cases hr
  cases v with
  | true => rw [if_pos rfl] at h1 ⊢; exact h1 _ H1 e1 .refl rfl
  | false => rw [if_neg Bool.false_ne_true] at h1 ⊢; exact ⟨c, δ1, e1, h1⟩
theorem de_if (hc : DT X W f e) (ha : DE X W fa a) (hb : DE X W fb b) : DE X W (eIf f fa fb) (.IfExp e a b pos) := by
  refine pe_mono (pe_ifExp hc ha hb) fun σ H Q ⟨c, δ, e, h⟩ => ⟨c, δ, e, (Post.bnd (R := fun _ _ _ _ a b => a = b) h).imp fun v H1 ⟨δ1, r, e1, s1, hr, h1⟩ => ?_⟩
  cases hr
  cases v with
  | true => rw [if_pos rfl] at h1 ⊢; exact ⟨c, δ1, e1, h1⟩
  | false => rw [if_neg Bool.false_ne_true] at h1 ⊢; exact ⟨c, δ1, e1, h1⟩
theorem de_one {op} (h : DE X W fa a) : DE X W fa (.BoolOp op [a] pos) := pe_one h
theorem de_or (ha : DE X W fa a) (hb : DE X W fb (.BoolOp .Or (b :: rest) pos)) : DE X W (eOr fa fb) (.BoolOp .Or (a :: b :: rest) pos) := by
  refine pe_mono (pe_orT ha hb) fun σ H Q ⟨c, δ, e, h⟩ => ⟨c, δ, e, (Post.bnd (R := RVX X.K) h).imp fun v H1 ⟨δ1, r, e1, s1, hr, h1⟩ => ?_⟩
  obtain ⟨k, hk, h2⟩ := truM_post e1 hr.1 h1
  refine ⟨k, hk, ?_⟩
  cases k with
  | true => rw [if_pos rfl] at h2 ⊢; exact h2 v H1 e1 .refl hr
  | false => rw [if_neg Bool.false_ne_true] at h2 ⊢; exact ⟨c, δ1, e1, h2⟩
theorem de_and (ha : DE X W fa a) (hb : DE X W fb (.BoolOp .And (b :: rest) pos)) : DE X W (eAnd fa fb) (.BoolOp .And (a :: b :: rest) pos) := by
  refine pe_mono (pe_andT ha hb) fun σ H Q ⟨c, δ, e, h⟩ => ⟨c, δ, e, (Post.bnd (R := RVX X.K) h).imp fun v H1 ⟨δ1, r, e1, s1, hr, h1⟩ => ?_⟩
  obtain ⟨k, hk, h2⟩ := truM_post e1 hr.1 h1
  refine ⟨k, hk, ?_⟩
  cases k with
  | true => rw [if_pos rfl] at h2 ⊢; exact ⟨c, δ1, e1, h2⟩
  | false => rw [if_neg Bool.false_ne_true] at h2 ⊢; exact h2 v H1 e1 .refl hr
theorem de_not (ha : DE X W fa a) : DE X W (eNot fa) (.UnaryOp .Not a pos) := by
  refine pe_mono (pe_notT ha) fun σ H Q ⟨c, δ, e, h⟩ => ⟨c, δ, e, (Post.bnd (R := RVX X.K) h).imp fun v H1 ⟨δ1, r, e1, s1, hr, h1⟩ => ?_⟩
  obtain ⟨k, hk, h2⟩ := truM_post e1 hr.1 h1
  exact ⟨k, hk, h2 _ H1 e1 .refl rvBl⟩
/-- a op1 b op2 c -/
def eChain (g g' : D → D → An) (fa fb fc : FE) : FE := bnd fa fun ra => bnd fb fun rb => bnd (fun δ => match ra.tree δ, rb.tree δ with
  | some x, some y => fin (g x y) δ
  | _, _ => .bad) fun rk => bnd (isBl rk) fun k => if k then bnd fc fun rc δ => match rb.tree δ, rc.tree δ with
    | some y, some z => fin (g' y z) δ
    | _, _ => .bad
  else ret' (.val (.bl false) false)
theorem isBl_bnd {c : Ct} {σ : St} {δ : Env'} {H : Hp} {r : RV} {v : V} {β : Type} {R : Ct → St → Env' → Hp → α → β → Prop} {k : Bool → M α} {Q : β → Hp → Prop} (hr : RVR K c σ δ H r v) (h : Post K W R c σ δ H (bnd (isBl r) k δ) Q) :
    ∃ b, v = .bl b ∧ Post K W R c σ δ H (k b δ) Q := by
  cases r with
  | own i => exact (show False from h).elim
  | val d n =>
    cases d with
    | bl b =>
      cases n with
      | false =>
        have h' : Rep K (Uni c.N (Own σ δ)) H (.bl b) v := hr
        simp only [Rep] at h'
        exact ⟨b, h', h⟩
      | true => exact (show False from h).elim
    | _ => exact (show False from h).elim
theorem chain_t {r r' : R2} {g g' : D → D → An} (hg : Op2D X.K r g) (hg' : Op2D X.K r' g') {σ : St} {H : Hp} {Q : VK} (h : tE X.K W (eChain g g' fa fb fc) σ H Q) : tChain r r' (tE X.K W fa) (tE X.K W fb) (tE X.K W fc) σ H Q := by
  obtain ⟨c, δ, e, h⟩ := h
  refine ⟨c, δ, e, (Post.bnd (R := RVX X.K) h).imp fun u H1 ⟨δ1, ra, e1, s1, r1, h1⟩ => ⟨c, δ1, e1, (Post.bnd (R := RVX X.K) h1).imp fun v H2 ⟨δ2, rb, e2, s2, r2, h2⟩ => ?_⟩⟩
  have h3 := Post.bnd (R := RVX X.K) h2
  split at h3
  · rename_i x y hx hy
    refine Post.fin e2 (hg _ _ _ _ _ _ _ (fun _ z => .inl z) e2.free ((r1.1.mono s2).see e2 hx) (r2.1.see e2 hy)) (h3.imp fun w H3 h4 => ?_)
    obtain ⟨δ3, rk, e3, s3, r3, h5⟩ := h4
    obtain ⟨k, hk, h6⟩ := isBl_bnd r3.1 h5
    refine ⟨k, hk, ?_⟩
    cases k with
    | false => rw [if_neg Bool.false_ne_true] at h6 ⊢; exact h6 _ H3 e3 .refl rvBl
    | true =>
      rw [if_pos rfl] at h6 ⊢
      refine ⟨c, δ3, e3, (Post.bnd (R := RVX X.K) h6).imp fun z H4 ⟨δ4, rc, e4, s4, r4, h7⟩ => ?_⟩
      split at h7
      · rename_i y' z' hy' hz'
        exact Post.fin e4 (hg' _ _ _ _ _ _ _ (fun _ z => .inl z) e4.free (((r2.1.mono s3).mono s4).see e4 hy') (r4.1.see e4 hz')) h7
      · exact h7.elim
  · exact h3.elim
theorem de_chain {r r' : R2} {g g' : D → D → An} {op op' : CmpOp} {d : Expr} (hr : OpR X (compareOp op) r) (hr' : OpR X (compareOp op') r') (hg : Op2D X.K r g) (hg' : Op2D X.K r' g') (ha : DE X W fa a) (hb : DE X W fb b) (hc : DE X W fc d) (hm : lastMarks [op, op'] [b, d] = false) :
    DE X W (eChain g g' fa fb fc) (.Compare a [op, op'] [b, d] pos) := pe_mono (pe_chain hr hr' ha hb hc hm) fun σ H Q h => chain_t hg hg' h
theorem dt_chain {r r' : R2} {g g' : D → D → An} {op op' : CmpOp} {d : Expr} (hr : OpR X (compareOp op) r) (hr' : OpR X (compareOp op') r') (hg : Op2D X.K r g) (hg' : Op2D X.K r' g') (ha : DE X W fa a) (hb : DE X W fb b) (hc : DE X W fc d) (hm : lastMarks [op, op'] [b, d] = false) :
    DT X W (tBl (eChain g g' fa fb fc)) (.Compare a [op, op'] [b, d] pos) := by
  refine pt_mono (pt_chain hr hr' ha hb hc hm) fun σ H Q ⟨c, δ, e, h⟩ => ?_
  refine chain_t (W := W) hg hg' ⟨c, δ, e, (Post.bnd (R := RVX X.K) h).imp fun v H1 ⟨δ1, r, e1, s1, hr, h1⟩ => isBl_post e1 hr.1 h1⟩
end
/-! ### displays -/
/-- operands are given away, one after another -/
def gives : List RV → M (List D)
  | [] => ret' []
  | r :: rs => fun δ => match give δ r with
    | some (d, δ') => bnd (gives rs) (fun ds => ret' (d :: ds)) δ'
    | none => .bad
def eLst (f : FA) : FE := bnd f fun rs => bnd (gives rs) fun ds => if ds.length ≤ SZ then ret' (.val (.lst ds) true) else bad'
def eTup (f : FA) : FE := bnd f fun rs => bnd (gives rs) fun ds => if ds.length ≤ SZ then ret' (.val (.tup ds) false) else bad'
section
variable {K : PySem.W.Frag} {W : WX} {α β : Type} {R : Ct → St → Env' → Hp → α → β → Prop}
theorem Post.step {c : Ct} {σ : St} {δ δ' : Env'} {H H' : Hp} {r : Res α} {Q : β → Hp → Prop} (s : Stp σ δ H δ' H') (h : Post K W R c σ δ H r Q) : Post K W R c σ δ' H' r Q := by
  unfold Post at h ⊢
  cases r with
  | bad => exact h
  | err x δ2 => exact fun d H2 e2 s2 r2 => h d H2 e2 (s.trans s2) r2
  | ok a δ2 => exact fun v H2 e2 s2 r2 => h v H2 e2 (s.trans s2) r2
theorem gives_post {c : Ct} {σ : St} {H : Hp} {Q : β → Hp → Prop} : ∀ {rs : List RV} {vs : List V} {k : List D → M α} {δ : Env'}, EnvR K c σ δ H → RVs K c σ δ H rs vs → Post K W R c σ δ H (bnd (gives rs) k δ) Q →
    ∃ δ' ds, EnvR K c σ δ' H ∧ Stp σ δ H δ' H ∧ Reps K (Uni c.N (Own σ δ')) H ds vs ∧ Post K W R c σ δ' H (k ds δ') Q
  | [], _, k, δ, e, h, q => by
    cases h
    exact ⟨δ, [], e, .refl, Reps.nil, q⟩
  | r :: rs, _, k, δ, e, h, q => by
    cases h with
    | cons h1 h2 =>
      rename_i v vs
      have q' : Post K W R c σ δ H (match give δ r with | some (d, δ') => bnd (gives rs) (fun ds => k (d :: ds)) δ' | none => .bad) Q := by
        unfold bnd gives at q
        cases g : give δ r with
        | none => rw [g] at q; exact q
        | some p =>
          rw [g] at q
          unfold bnd
          unfold bnd at q
          dsimp only at q ⊢
          cases g2 : gives rs p.2 with
          | ok a δ2 => rw [g2] at q; exact q
          | err x δ2 => rw [g2] at q; exact q
          | bad => rw [g2] at q; exact q
      cases g : give δ r with
      | none => rw [g] at q'; exact q'.elim
      | some p =>
        obtain ⟨d, δ'⟩ := p
        rw [g] at q'
        obtain ⟨e1, s1, r1⟩ := e.give h1 g
        obtain ⟨δ2, ds, e2, s2, r2, q2⟩ := gives_post e1 (RVs.mono s1 h2) (Post.step s1 q')
        refine ⟨δ2, d :: ds, e2, s1.trans s2, Reps.cons (r1.mono (S := fun _ => False) Keeps.refl (fun _ _ z => z.elim) fun b _ z => z.elim .inl fun y => .inr (s2.own b y)) r2, q2⟩
end
section
variable {X : Cx} {W : WX} {es : List Expr} {pos : Pos} {f : FA}
theorem de_lst (h : DA X W f es) : DE X W (eLst f) (.List es pos) := by
  refine pe_mono (pe_lst h) fun σ H Q ⟨c, δ, e, h⟩ => ⟨c, δ, e, (Post.bnd (R := RVs X.K) h).imp fun vs H1 ⟨δ1, rs, e1, s1, hr, h1⟩ => ?_⟩
  obtain ⟨δ2, ds, e2, s2, r2, h2⟩ := gives_post e1 hr h1
  split at h2
  · rename_i hz
    refine ⟨by rw [sz_eq, r2.length]; exact hz, fun p hp => ?_⟩
    obtain ⟨e3, s3, r3⟩ := e2.answer (Keeps.up hp) upd_dom (NewR.list hp r2)
    exact h2 _ _ e3 s3 r3
  · exact h2.elim
theorem de_tup {k} (h : DA X W f es) : DE X W (eTup f) (.Tuple es k pos) := by
  refine pe_mono (pe_tup h) fun σ H Q ⟨c, δ, e, h⟩ => ⟨c, δ, e, (Post.bnd (R := RVs X.K) h).imp fun vs H1 ⟨δ1, rs, e1, s1, hr, h1⟩ => ?_⟩
  obtain ⟨δ2, ds, e2, s2, r2, h2⟩ := gives_post e1 hr h1
  split at h2
  · rename_i hz
    refine ⟨by rw [sz_eq, r2.length]; exact hz, fun p hp => ?_⟩
    obtain ⟨e3, s3, r3⟩ := e2.answer (Keeps.up hp) upd_dom (NewR.tup hp (e2.free p hp) r2)
    exact h2 _ _ e3 s3 r3
  · exact h2.elim
end
end TM
set_option maxRecDepth 100000
set_option maxHeartbeats 4000000
/-! T6: statements -/
namespace TM
open PySem PySem.Spec PyProof.Rows L2
variable [Tbs]

inductive SR where
  | nx (δ : Env') | rt (r : RV) (δ : Env') | bk (δ : Env') | ct (δ : Env') | er (x : Exc) (δ : Env') | bad
abbrev FS := Env' → SR
def bndS {α : Type} (f : M α) (g : α → FS) : FS := fun δ => match f δ with
  | .ok a δ' => g a δ'
  | .err x δ' => .er x δ'
  | .bad => .bad
def Ct.holding (c : Ct) (d : D) (v : V) : Ct := { c with hold := (d, v) :: c.hold }
section
variable (K : PySem.W.Frag)
def PostS (W : WX) (c : Ct) (r : SR) (D : Ends) : Prop :=
  match r with
  | .nx δ => ∀ σ H, EnvR K c σ δ H → D.nx σ H
  | .rt r δ => ∀ v σ H, EnvR K c σ δ H → RVX K c σ δ H r v → D.rt v H
  | .bk δ => ∀ σ H, EnvR K c σ δ H → D.bk σ H
  | .ct δ => ∀ σ H, EnvR K c σ δ H → D.ct σ H
  | .er x δ => ∀ d σ H, EnvR K c σ δ H → ExcR K (Uni c.N (Own σ δ)) H x.fs d → W (.ref x.C) d σ H
  | .bad => False
def tS (W : WX) (f : FS) : TS := fun D σ H => ∃ c δ, EnvR K c σ δ H ∧ PostS K W c (f δ) D
end
abbrev DS (X : Cx) (W : WX) (f : FS) (st : Stmt) : Prop := PS X st (tS X.K W f)
abbrev DSs (X : Cx) (W : WX) (f : FS) (st : List Stmt) : Prop := PSs X st (tS X.K W f)
section
variable {K : PySem.W.Frag} {c : Ct} {σ : St} {δ δ' : Env'} {H H' : Hp} {W : WX}
theorem Post.bndS {α β : Type} {R : Ct → St → Env' → Hp → α → β → Prop} {f : M α} {g : α → FS} {D : Ends} (h : PostS K W c (TM.bndS f g δ) D) :
    Post K W R c σ δ H (f δ) fun v H1 => ∃ δ1 a, EnvR K c σ δ1 H1 ∧ Stp σ δ H δ1 H1 ∧ R c σ δ1 H1 a v ∧ PostS K W c (g a δ1) D := by
  unfold TM.bndS at h
  unfold Post
  cases q : f δ with
  | bad => rw [q] at h; exact h
  | err x δ' => rw [q] at h; exact fun d H' e s r => h d σ H' e r
  | ok a δ' => rw [q] at h; exact fun v H' e s r => ⟨δ', a, e, s, r, h⟩
theorem EnvR.unhold {d : D} {v : V} (e : EnvR K (c.holding d v) σ δ H) : EnvR K c σ δ H := ⟨e.len, e.slot, e.inj, e.dom, e.keep, e.ioD, fun p hp => e.held p (List.mem_cons_of_mem _ hp), e.tab⟩
theorem EnvR.holding {d : D} {v : V} (e : EnvR K c σ δ H) (r : Rep K (Uni c.N (Own σ δ)) H d v) : EnvR K (c.holding d v) σ δ H := ⟨e.len, e.slot, e.inj, e.dom, e.keep, e.ioD, (fun p hp => by
  rcases List.mem_cons.mp hp with rfl | hp
  · exact r
  · exact e.held p hp), e.tab⟩
theorem EnvR.unplus {a : Addr} (e : EnvR K (c.plus a) σ δ H) : EnvR K c σ δ H := by
  have sub : ∀ b, Liv H b → Uni c.N (Own σ δ) b → Uni (c.plus a).N (Own σ δ) b := fun b _ z => z.elim (fun q => .inl (.inl q)) .inr
  refine ⟨e.len, fun i k d hi => ?_, e.inj, fun b z => e.dom b (.inl z), e.keep, fun b z => ⟨(e.ioD b z).1, fun y => (e.ioD b z).2.1 (.inl y), (e.ioD b z).2.2⟩, fun p hp => (e.held p hp).mono (S := fun _ => False) Keeps.refl (fun _ _ z => z.elim) sub, e.tab⟩
  obtain ⟨v, hv, r⟩ := e.slot i k d hi
  refine ⟨v, hv, ?_⟩
  cases k with
  | sh => exact Rep.mono (S := fun _ => False) Keeps.refl (fun _ _ z => z.elim) sub r
  | ow => obtain ⟨b, h1, h2, h3, h4⟩ := r; exact ⟨b, h1, fun z => h2 (.inl z), h3, h4.mono (S := fun _ => False) Keeps.refl (fun _ _ z => z.elim) sub fun _ z => z⟩
  | io => obtain ⟨b, h1, h2, h3, h4⟩ := r; exact ⟨b, h1, fun z => h2 (.inl z), h3, h4.mono (S := fun _ => False) Keeps.refl (fun _ _ z => z.elim) sub fun _ z => z⟩
/-- a shared value is stored -/
theorem EnvR.set_sh {i : Nat} {d : D} {v : V} (e : EnvR K c σ δ H) (hi : i < δ.length) (r : Rep K (Uni c.N (Own σ δ)) H d v) : EnvR K c (σ.set i (some v)) (δ.set i (some (.sh, d))) H := by
  have hi' : i < σ.length := by rw [← e.len]; exact hi
  have own : ∀ b, Own (σ.set i (some v)) (δ.set i (some (.sh, d))) b → Own σ δ b := by
    rintro b ⟨j, k, x, e1, e2, e3⟩
    rcases getElem?_set_some e1 with ⟨rfl, e4, _⟩ | ⟨ne, e4⟩
    · cases Option.some.inj e4; exact absurd rfl e2
    · rw [List.getElem?_set_ne (Ne.symm ne)] at e3
      exact ⟨j, k, x, e4, e2, e3⟩
  have sub : ∀ b, Liv H b → Uni c.N (Own (σ.set i (some v)) (δ.set i (some (.sh, d)))) b → Uni c.N (Own σ δ) b := fun b _ z => z.elim .inl fun q => .inr (own b q)
  refine ⟨by simpa using e.len, fun j k x e1 => ?_, fun j l k k' x x' b e1 e2 e3 e4 e5 e6 => ?_, e.dom, e.keep, e.ioD, fun p hp => (e.held p hp).mono (S := fun _ => False) Keeps.refl (fun _ _ z => z.elim) sub, e.tab⟩
  · rcases getElem?_set_some e1 with ⟨rfl, e4, _⟩ | ⟨ne, e4⟩
    · cases Option.some.inj e4
      exact ⟨v, List.getElem?_set_self hi', r.mono (S := fun _ => False) Keeps.refl (fun _ _ z => z.elim) sub⟩
    · obtain ⟨w, hw, q⟩ := e.slot j k x e4
      refine ⟨w, by rw [List.getElem?_set_ne (Ne.symm ne)]; exact hw, ?_⟩
      cases k with
      | sh => exact Rep.mono (S := fun _ => False) Keeps.refl (fun _ _ z => z.elim) sub q
      | ow => obtain ⟨b, q1, q2, q3, q4⟩ := q; exact ⟨b, q1, q2, q3, q4.mono (S := fun _ => False) Keeps.refl (fun _ _ z => z.elim) sub fun _ z => z⟩
      | io => obtain ⟨b, q1, q2, q3, q4⟩ := q; exact ⟨b, q1, q2, q3, q4.mono (S := fun _ => False) Keeps.refl (fun _ _ z => z.elim) sub fun _ z => z⟩
  · rcases getElem?_set_some e1 with ⟨rfl, e7, _⟩ | ⟨ne, e7⟩
    · cases Option.some.inj e7; exact absurd rfl e3
    · rcases getElem?_set_some e2 with ⟨rfl, e8, _⟩ | ⟨ne', e8⟩
      · cases Option.some.inj e8; exact absurd rfl e4
      · rw [List.getElem?_set_ne (Ne.symm ne)] at e5
        rw [List.getElem?_set_ne (Ne.symm ne')] at e6
        exact e.inj j l k k' x x' b e7 e8 e3 e4 e5 e6
/-- a new object is stored: the slot owns it -/
theorem EnvR.set_ow {i : Nat} {d : D} {a : Addr} (e : EnvR K (c.plus a) σ δ H) (hi : i < δ.length) (h1 : ¬ c.N a) (h2 : ¬ Liv c.He a) (h3 : ¬ Own σ δ a) (h4 : Top K (Uni (Uni c.N (Own σ δ)) (fun b => b = a)) H d a) :
    EnvR K c (σ.set i (some (.ref a))) (δ.set i (some (.ow, d))) H := by
  have hi' : i < σ.length := by rw [← e.len]; exact hi
  have own : ∀ b, Own (σ.set i (some (.ref a))) (δ.set i (some (.ow, d))) b → Own σ δ b ∨ b = a := by
    rintro b ⟨j, k, x, e1, e2, e3⟩
    rcases getElem?_set_some e1 with ⟨rfl, e4, _⟩ | ⟨ne, e4⟩
    · rw [List.getElem?_set_self hi'] at e3
      cases Option.some.inj (Option.some.inj e3)
      exact .inr rfl
    · rw [List.getElem?_set_ne (Ne.symm ne)] at e3
      exact .inl ⟨j, k, x, e4, e2, e3⟩
  have sub : ∀ b, Liv H b → Uni c.N (Own (σ.set i (some (.ref a))) (δ.set i (some (.ow, d)))) b → Uni (c.plus a).N (Own σ δ) b := fun b _ z => z.elim (fun q => .inl (.inl q)) fun q => (own b q).elim .inr fun y => .inl (.inr y)
  refine ⟨by simpa using e.len, fun j k x e1 => ?_, fun j l k k' x x' b e1 e2 e3 e4 e5 e6 => ?_, fun b z => e.dom b (.inl z), e.keep, fun b z => ⟨(e.ioD b z).1, fun y => (e.ioD b z).2.1 (.inl y), (e.ioD b z).2.2⟩, fun p hp => (e.held p hp).mono (S := fun _ => False) Keeps.refl (fun _ _ z => z.elim) sub, e.tab⟩
  · rcases getElem?_set_some e1 with ⟨rfl, e4, _⟩ | ⟨ne, e4⟩
    · cases Option.some.inj e4
      refine ⟨_, List.getElem?_set_self hi', a, rfl, h1, h2, h4.mono (S := fun _ => False) Keeps.refl (fun _ _ z => z.elim) (fun b _ z => ?_) fun _ z => z⟩
      exact z.elim (fun q => .inl (.inl q)) fun q => (own b q).elim (fun y => .inl (.inr y)) .inr
    · obtain ⟨w, hw, q⟩ := e.slot j k x e4
      refine ⟨w, by rw [List.getElem?_set_ne (Ne.symm ne)]; exact hw, ?_⟩
      cases k with
      | sh => exact Rep.mono (S := fun _ => False) Keeps.refl (fun _ _ z => z.elim) sub q
      | ow => obtain ⟨b, q1, q2, q3, q4⟩ := q; exact ⟨b, q1, fun z => q2 (.inl z), q3, q4.mono (S := fun _ => False) Keeps.refl (fun _ _ z => z.elim) sub fun _ z => z⟩
      | io => obtain ⟨b, q1, q2, q3, q4⟩ := q; exact ⟨b, q1, fun z => q2 (.inl z), q3, q4.mono (S := fun _ => False) Keeps.refl (fun _ _ z => z.elim) sub fun _ z => z⟩
  · rcases getElem?_set_some e1 with ⟨rfl, e7, _⟩ | ⟨ne, e7⟩
    · rcases getElem?_set_some e2 with ⟨rfl, e8, _⟩ | ⟨ne', e8⟩
      · rfl
      · rw [List.getElem?_set_self hi'] at e5
        cases Option.some.inj (Option.some.inj e5)
        rw [List.getElem?_set_ne (Ne.symm ne')] at e6
        exact absurd ⟨l, k', x', e8, e4, e6⟩ h3
    · rw [List.getElem?_set_ne (Ne.symm ne)] at e5
      rcases getElem?_set_some e2 with ⟨rfl, e8, _⟩ | ⟨ne', e8⟩
      · rw [List.getElem?_set_self hi'] at e6
        cases Option.some.inj (Option.some.inj e6)
        exact absurd ⟨j, k, x, e7, e3, e5⟩ h3
      · rw [List.getElem?_set_ne (Ne.symm ne')] at e6
        exact e.inj j l k k' x x' b e7 e8 e3 e4 e5 e6
def storeV (i : Nat) (r : RV) (δ : Env') : Option Env' :=
  if i < δ.length then
    match r with
    | .val d true => some (δ.set i (some (.ow, d)))
    | r => match give δ r with
      | some (d, δ1) => some (δ1.set i (some (.sh, d)))
      | none => none
  else none
theorem give_length {r : RV} {d : D} (h : give δ r = some (d, δ')) : δ'.length = δ.length := by
  cases r with
  | val d' n => simp only [give, Option.some.injEq, Prod.mk.injEq] at h; rw [← h.2]
  | own i =>
    simp only [give] at h
    split at h
    · simp only [Option.some.injEq, Prod.mk.injEq] at h; rw [← h.2]
    · simp only [Option.some.injEq, Prod.mk.injEq] at h; rw [← h.2]; simp
    · cases h
theorem EnvR.store {i : Nat} {r : RV} {v : V} (e : EnvR K c σ δ H) (x : RVX K c σ δ H r v) (h : storeV i r δ = some δ') : EnvR K c (σ.set i (some v)) δ' H := by
  unfold storeV at h
  split at h
  · rename_i hi
    split at h
    · rename_i d
      cases h
      obtain ⟨⟨a, h1, h2, h3, h4, h5⟩, q⟩ := x
      subst h1
      exact (q d a rfl rfl).set_ow hi h2 h3 h4 h5
    · split at h
      · rename_i d δ1 g
        cases h
        obtain ⟨e1, s1, r1⟩ := e.give x.1 g
        exact e1.set_sh (by rw [give_length g]; exact hi) r1
      · cases h
  · cases h
end
/-! ### the statements -/
def sSet (i : Nat) (f : FE) : FS := bndS f fun r δ => match storeV i r δ with
  | some δ' => .nx δ'
  | none => .bad
def sSeq (f g : FS) : FS := fun δ => match f δ with
  | .nx δ' => g δ'
  | r => r
def sNext : FS := fun δ => .nx δ
def sExpr (f : FE) : FS := bndS f fun _ δ => .nx δ
def sRet (f : FE) : FS := bndS f fun r δ => .rt r δ
def sRetN : FS := fun δ => .rt (.val .non false) δ
def sIf (c : FT) (f g : FS) : FS := bndS c fun b => if b then f else g
section
variable {X : Cx} {W : WX} {e : Expr} {st : Stmt} {rest a b : List Stmt} {pos pos' : Pos} {f g : FS} {fe : FE} {fc : FT}
theorem ds_set {i : Nat} {x : Str} (hN : X.N.Nodup) (hi : X.N[i]? = some x) (hx : Loc X.env.scope x) (he : DE X W fe e) (hs : swapsWith e (some (.Name x pos')) pos.line X.env = pure false) (hf : X.fn x = true ∨ X.env.scope.names.lookup x = some .local) :
    DS X W (sSet i fe) (.Assign [.Name x pos'] e pos) := by
  refine ps_mono (ps_set hN hi hx he hs hf) fun D σ H ⟨c, δ, e, h⟩ => ⟨c, δ, e, (Post.bndS (R := RVX X.K) h).imp fun v H1 ⟨δ1, r, e1, s1, hr, h1⟩ => ?_⟩
  split at h1
  · rename_i δ2 hs
    exact h1 _ _ (e1.store hr hs)
  · exact h1.elim
theorem dss_nil : DSs X W sNext [] := pss_mono pss_nil fun D σ H ⟨c, δ, e, h⟩ => h σ H e
theorem PostS.seq {K : PySem.W.Frag} {c : Ct} {δ : Env'} {D : Ends} (h : PostS K W c (sSeq f g δ) D) : PostS K W c (f δ) { D with nx := tS K W g D } := by
  unfold sSeq at h
  unfold PostS
  cases q : f δ with
  | nx δ' => rw [q] at h; exact fun σ H e => ⟨c, δ', e, h⟩
  | rt r δ' => rw [q] at h; exact h
  | bk δ' => rw [q] at h; exact h
  | ct δ' => rw [q] at h; exact h
  | er x δ' => rw [q] at h; exact h
  | bad => rw [q] at h; exact h
theorem dss_cons (h1 : DS X W f st) (h2 : DSs X W g rest) : DSs X W (sSeq f g) (st :: rest) :=
  pss_mono (pss_cons h1 h2) fun D σ H ⟨c, δ, e, h⟩ => ⟨c, δ, e, h.seq⟩
theorem dss_one (h1 : DS X W f st) : DSs X W f [st] := pss_one h1
theorem ds_pass : DS X W sNext (.Pass pos) := ps_mono ps_pass fun D σ H ⟨c, δ, e, h⟩ => h σ H e
theorem ds_doc {x j pos'} : DS X W sNext (.Expr (.Constant (.str x) j pos) pos') := ps_mono ps_doc fun D σ H ⟨c, δ, e, h⟩ => h σ H e
theorem ds_break : DS X W (fun δ => .bk δ) (.Break pos) := ps_mono ps_break fun D σ H ⟨c, δ, e, h⟩ => h σ H e
theorem ds_continue : DS X W (fun δ => .ct δ) (.Continue pos) := ps_mono ps_continue fun D σ H ⟨c, δ, e, h⟩ => h σ H e
theorem ds_expr (he : DE X W fe e) (hs : swapsWith e none pos.line X.env = pure false) : DS X W (sExpr fe) (.Expr e pos) := by
  refine ps_mono (ps_expr he hs) fun D σ H ⟨c, δ, e, h⟩ => ⟨c, δ, e, (Post.bndS (R := RVX X.K) h).imp fun v H1 ⟨δ1, r, e1, s1, hr, h1⟩ => h1 _ _ e1⟩
theorem ds_ret (he : DE X W fe e) : DS X W (sRet fe) (.Return (some e) pos) := by
  refine ps_mono (ps_ret he) fun D σ H ⟨c, δ, e, h⟩ => ⟨c, δ, e, (Post.bndS (R := RVX X.K) h).imp fun v H1 ⟨δ1, r, e1, s1, hr, h1⟩ => h1 _ _ _ e1 hr⟩
theorem rvNon {K : PySem.W.Frag} {c : Ct} {σ : St} {δ : Env'} {H : Hp} : RVX K c σ δ H (.val .non false) .non := by
  refine ⟨?_, fun _ _ z => nomatch z⟩
  show Rep K (Uni c.N (Own σ δ)) H .non .non
  simp only [Rep]
theorem ds_retN : DS X W sRetN (.Return none pos) := ps_mono ps_retN fun D σ H ⟨c, δ, e, h⟩ => h _ _ _ e rvNon
theorem ds_if (hc : DT X W fc e) (ha : DSs X W f a) (hb : DSs X W g b) : DS X W (sIf fc f g) (.If e a b pos) := by
  refine ps_mono (ps_if hc ha hb) fun D σ H ⟨c, δ, e, h⟩ => ⟨c, δ, e, (Post.bndS (R := fun _ _ _ _ a b => a = b) h).imp fun v H1 ⟨δ1, r, e1, s1, hr, h1⟩ => ?_⟩
  cases hr
  cases v with
  | true => rw [if_pos rfl] at h1 ⊢; exact ⟨c, δ1, e1, h1⟩
  | false => rw [if_neg Bool.false_ne_true] at h1 ⊢; exact ⟨c, δ1, e1, h1⟩
end
end TM
set_option maxRecDepth 100000
set_option maxHeartbeats 4000000
/-! T7: defs and their calls -/
namespace TM
open PySem PySem.Spec PyProof.Rows L2
variable [Tbs]

/-- an argument: shared, or an object handed in to be changed -/
inductive AD where
  | sh (d : D) | io (d : D)
def AD.slot : AD → SlD
  | .sh d => some (.sh, d)
  | .io d => some (.io, d)
abbrev slots (ads : List AD) : Env' := ads.map AD.slot
abbrev vsl (vs : List V) : St := vs.map some
/-- what a def hands back: a tree, whether it is new, what became of the arguments -/
inductive FR where
  | ok (d : D) (new : Bool) (fin : List AD) | er (x : Exc) (fin : List AD) | bad
abbrev FF := List AD → FR
section
variable (K : PySem.W.Frag)
def PostF (c : Ct) (vs : List V) (r : FR) (Q : VK) (E : XK) : Prop :=
  match r with
  | .ok d new fin => ∀ v H', EnvR K c (vsl vs) (slots fin) H' → RVX K c (vsl vs) (slots fin) H' (.val d new) v → Q v H'
  | .er x fin => ∀ d H', EnvR K c (vsl vs) (slots fin) H' → ExcR K (Uni c.N (Own (vsl vs) (slots fin))) H' x.fs d → E (.ref x.C) d H'
  | .bad => False
def IoIs (c : Ct) (vs : List V) (ads : List AD) : Prop := ∀ i a, c.io i a ↔ (vs[i]? = some (.ref a) ∧ ∃ d, ads[i]? = some (AD.io d))
def treeSp (n : Nat) (F : FF) : Sp := fun vs H Q E => ∃ c ads, vs.length = n ∧ c.He = H ∧ c.hold = [] ∧ IoIs c vs ads ∧ EnvR K c (vsl vs) (slots ads) H ∧ PostF K c vs (F ads) Q E
end
/-- what became of the arguments -/
def fins : Nat → List AD → Env' → Option (List AD)
  | _, [], _ => some []
  | i, .sh d :: ads, δ => (fins (i + 1) ads δ).map (.sh d :: ·)
  | i, .io _ :: ads, δ => match δ[i]? with
    | some (some (.io, d)) => (fins (i + 1) ads δ).map (.io d :: ·)
    | _ => none
def shares : List AD → List V → List (D × V)
  | .sh d :: ads, v :: vs => (d, v) :: shares ads vs
  | .io _ :: ads, _ :: vs => shares ads vs
  | _, _ => []
theorem shares_mem : ∀ {ads : List AD} {vs : List V} {i : Nat} {d : D} {v : V}, ads[i]? = some (.sh d) → vs[i]? = some v → (d, v) ∈ shares ads vs
  | [], _, _, _, _, h, _ => by simp at h
  | _ :: _, [], _, _, _, _, h => by simp at h
  | .sh x :: ads, u :: vs, 0, d, v, h, g => by
    simp at h g; subst h g; exact List.mem_cons_self
  | .sh x :: ads, u :: vs, i + 1, d, v, h, g => List.mem_cons_of_mem _ (shares_mem (i := i) (by simpa using h) (by simpa using g))
  | .io x :: ads, u :: vs, 0, d, v, h, g => by simp at h
  | .io x :: ads, u :: vs, i + 1, d, v, h, g => shares_mem (ads := ads) (i := i) (by simpa using h) (by simpa using g)
theorem mem_shares : ∀ {ads : List AD} {vs : List V} {p : D × V}, p ∈ shares ads vs → ∃ i : Nat, ads[i]? = some (AD.sh p.1) ∧ vs[i]? = some p.2
  | [], _, _, h => by simp [shares] at h
  | .sh _ :: _, [], _, h => by simp [shares] at h
  | .io _ :: _, [], _, h => by simp [shares] at h
  | .sh x :: ads, u :: vs, p, h => by
    rcases List.mem_cons.mp h with rfl | h
    · exact ⟨0, rfl, rfl⟩
    · obtain ⟨i, a, b⟩ := mem_shares h
      exact ⟨i + 1, by simpa using a, by simpa using b⟩
  | .io x :: ads, u :: vs, p, h => by
    obtain ⟨i, a, b⟩ := mem_shares (ads := ads) (vs := vs) h
    exact ⟨i + 1, by simpa using a, by simpa using b⟩
theorem fins_get : ∀ {ads fin : List AD} {j : Nat} {δ : Env'}, fins j ads δ = some fin → fin.length = ads.length ∧ ∀ i : Nat, (∀ d, ads[i]? = some (.sh d) → fin[i]? = some (.sh d)) ∧ ∀ d, ads[i]? = some (.io d) → ∃ d', fin[i]? = some (.io d') ∧ δ[j + i]? = some (some (.io, d'))
  | [], fin, j, δ, h => by simp only [fins, Option.some.injEq] at h; subst h; exact ⟨rfl, fun i => ⟨fun d e => by simp at e, fun d e => by simp at e⟩⟩
  | .sh x :: ads, fin, j, δ, h => by
    simp only [fins, Option.map_eq_some_iff] at h
    obtain ⟨f, h1, rfl⟩ := h
    obtain ⟨l, g⟩ := fins_get h1
    refine ⟨by simp [l], fun i => ?_⟩
    cases i with
    | zero => exact ⟨fun d e => by simpa using e, fun d e => by simp at e⟩
    | succ i => exact ⟨fun d e => by simpa using (g i).1 d (by simpa using e), fun d e => by
        obtain ⟨d', a, b⟩ := (g i).2 d (by simpa using e)
        exact ⟨d', by simpa using a, by rw [← b]; congr 1; omega⟩⟩
  | .io x :: ads, fin, j, δ, h => by
    simp only [fins] at h
    split at h
    · rename_i d hd
      simp only [Option.map_eq_some_iff] at h
      obtain ⟨f, h1, rfl⟩ := h
      obtain ⟨l, g⟩ := fins_get h1
      refine ⟨by simp [l], fun i => ?_⟩
      cases i with
      | zero => exact ⟨fun d e => by simp at e, fun d' e => ⟨d, rfl, hd⟩⟩
      | succ i => exact ⟨fun d e => by simpa using (g i).1 d (by simpa using e), fun d e => by
          obtain ⟨d', a, b⟩ := (g i).2 d (by simpa using e)
          exact ⟨d', by simpa using a, by rw [← b]; congr 1; omega⟩⟩
    · cases h
section
variable {K : PySem.W.Frag} {c : Ct} {vs : List V} {ads fin : List AD} {σ : St} {δ : Env'} {H : Hp}
theorem slots_get {ads : List AD} {i : Nat} {k : SK} {d : D} (h : (slots ads)[i]? = some (some (k, d))) : (k = .sh ∧ ads[i]? = some (.sh d)) ∨ (k = .io ∧ ads[i]? = some (.io d)) := by
  rw [List.getElem?_map] at h
  cases e : ads[i]? with
  | none => rw [e] at h; cases h
  | some a =>
    rw [e] at h
    cases a with
    | sh x => cases h; exact .inl ⟨rfl, rfl⟩
    | io x => cases h; exact .inr ⟨rfl, rfl⟩
theorem vsl_get {vs : List V} {i : Nat} {v : V} : (vsl vs)[i]? = some (some v) ↔ vs[i]? = some v := by
  rw [List.getElem?_map]
  cases vs[i]? <;> simp
theorem fins_io (hf : fins 0 ads δ = some fin) {i : Nat} {d : D} (h : fin[i]? = some (.io d)) : (∃ d0, ads[i]? = some (.io d0)) ∧ δ[i]? = some (some (.io, d)) := by
  obtain ⟨l, g⟩ := fins_get hf
  cases e : ads[i]? with
  | none => rw [List.getElem?_eq_none_iff] at e; rw [List.getElem?_eq_none (by omega)] at h; cases h
  | some a =>
    cases a with
    | sh x => rw [(g i).1 x e] at h; cases h
    | io x =>
      obtain ⟨d', a, b⟩ := (g i).2 x e
      rw [a] at h; cases h
      exact ⟨⟨x, rfl⟩, by simpa using b⟩
theorem fins_sh (hf : fins 0 ads δ = some fin) {i : Nat} {d : D} (h : fin[i]? = some (.sh d)) : ads[i]? = some (.sh d) := by
  obtain ⟨l, g⟩ := fins_get hf
  cases e : ads[i]? with
  | none => rw [List.getElem?_eq_none_iff] at e; rw [List.getElem?_eq_none (by omega)] at h; cases h
  | some a =>
    cases a with
    | sh x => rw [(g i).1 x e] at h; exact h
    | io x =>
      obtain ⟨d', a, b⟩ := (g i).2 x e
      rw [a] at h; cases h
def Ct.body (c : Ct) (ads : List AD) (vs : List V) : Ct := { c with hold := shares ads vs ++ c.hold }
theorem exit_own (hio : IoIs c vs ads) (e : EnvR K (c.body ads vs) σ δ H) (hf : fins 0 ads δ = some fin) {a : Addr} (h : Own (vsl vs) (slots fin) a) : ∃ (i : Nat) (d : D), fin[i]? = some (AD.io d) ∧ δ[i]? = some (some (SK.io, d)) ∧ σ[i]? = some (some (.ref a)) := by
  obtain ⟨i, k, d, h1, h2, h3⟩ := h
  rcases slots_get h1 with ⟨rfl, _⟩ | ⟨rfl, h4⟩
  · exact absurd rfl h2
  · obtain ⟨⟨d0, g1⟩, g2⟩ := fins_io hf h4
    obtain ⟨v, hv, b, hb, _, q, _⟩ := e.slot i .io d g2
    obtain ⟨q1, _⟩ := (hio i b).mp q
    rw [vsl_get] at h3
    rw [q1] at h3
    cases Option.some.inj h3
    subst hb
    exact ⟨i, d, h4, g2, hv⟩
/-- the frame is left: what the caller has of the arguments -/
theorem EnvR.exit {N2 : Addr → Prop} (e : EnvR K (c.body ads vs) σ δ H) (hl : vs.length = ads.length) (hio : IoIs c vs ads) (hf : fins 0 ads δ = some fin)
    (h1 : ∀ b, N2 b → c.N b ∨ (¬ c.ioS b ∧ Liv H b ∧ ∀ p ∈ (c.body ads vs).hold, Rep K (Uni (Uni c.N (Own σ δ)) (fun x => x = b)) H p.1 p.2) ∧ ∀ (i : Nat) (d : D) (x : Addr), δ[i]? = some (some (SK.io, d)) → σ[i]? = some (some (.ref x)) → Top K (Uni (Uni c.N (Own σ δ)) (fun x => x = b)) H d x)
    (h0 : ∀ b, c.N b → N2 b) (hone : (∀ b, N2 b → c.N b) ∨ ∃ b0, ∀ b, N2 b → c.N b ∨ b = b0) : EnvR K { c with N := N2 } (vsl vs) (slots fin) H := by
  have own := fun {a : Addr} => exit_own (a := a) hio e hf
  obtain ⟨l, _⟩ := fins_get hf
  have sub1 : ∀ b, Own (vsl vs) (slots fin) b → Own σ δ b := fun b hb => by
    obtain ⟨i, d, _, h2, h3⟩ := own hb
    exact ⟨i, .io, d, h2, by simp, h3⟩
  -- each tree avoids N2
  have rp : ∀ p ∈ (c.body ads vs).hold, Rep K (Uni N2 (Own (vsl vs) (slots fin))) H p.1 p.2 := fun p hp => by
    have base := e.held p hp
    rcases hone with ho | ⟨b0, ho⟩
    · exact base.mono (S := fun _ => False) Keeps.refl (fun _ _ z => z.elim) fun b _ z => z.elim (fun q => .inl (ho b q)) fun q => .inr (sub1 b q)
    · by_cases hb : N2 b0
      · rcases h1 b0 hb with q | ⟨⟨_, _, q⟩, _⟩
        · exact base.mono (S := fun _ => False) Keeps.refl (fun _ _ z => z.elim) fun b _ z => z.elim (fun y => (ho b y).elim .inl fun y2 => .inl (y2 ▸ q)) fun y => .inr (sub1 b y)
        · exact (q p hp).mono (S := fun _ => False) Keeps.refl (fun _ _ z => z.elim) fun b _ z => z.elim (fun y => (ho b y).elim (fun y2 => .inl (.inl y2)) fun y2 => .inr y2) fun y => .inl (.inr (sub1 b y))
      · exact base.mono (S := fun _ => False) Keeps.refl (fun _ _ z => z.elim) fun b _ z => z.elim (fun y => (ho b y).elim .inl fun y2 => absurd (y2 ▸ y) hb) fun y => .inr (sub1 b y)
  refine ⟨by simp [l, hl], fun i k d hi => ?_, fun i j k k' d d' a e1 e2 e3 e4 e5 e6 => ?_, fun b hb => ?_, e.keep, fun a ha => ?_, fun p hp => rp p (List.mem_append_right _ hp), e.tab⟩
  · rcases slots_get hi with ⟨rfl, h4⟩ | ⟨rfl, h4⟩
    · have h5 := fins_sh hf h4
      have hiv : i < vs.length := by rw [hl]; exact (List.getElem?_eq_some_iff.mp h5).1
      refine ⟨vs[i], by rw [vsl_get]; simp, ?_⟩
      exact rp (d, vs[i]) (List.mem_append_left _ (shares_mem h5 (by simp)))
    · obtain ⟨⟨d0, g1⟩, g2⟩ := fins_io hf h4
      obtain ⟨v, hv, b, hb, n, q, t⟩ := e.slot i .io d g2
      obtain ⟨q1, _⟩ := (hio i b).mp q
      subst hb
      refine ⟨.ref b, by rw [vsl_get]; exact q1, b, rfl, fun z => ?_, q, ?_⟩
      · rcases h1 b z with y | ⟨⟨y, _, _⟩, _⟩
        · exact n y
        · exact y ⟨i, q⟩
      · rcases hone with ho | ⟨b0, ho⟩
        · exact t.mono (S := fun _ => False) Keeps.refl (fun _ _ z => z.elim) (fun x _ z => z.elim (fun y => .inl (ho x y)) fun y => .inr (sub1 x y)) fun _ z => z
        · by_cases hb : N2 b0
          · rcases h1 b0 hb with y0 | ⟨_, y0⟩
            · exact t.mono (S := fun _ => False) Keeps.refl (fun _ _ z => z.elim) (fun x _ z => z.elim (fun y => (ho x y).elim .inl fun y2 => .inl (y2 ▸ y0)) fun y => .inr (sub1 x y)) fun _ z => z
            · exact (y0 i d b g2 hv).mono (S := fun _ => False) Keeps.refl (fun _ _ z => z.elim) (fun x _ z => z.elim (fun y => (ho x y).elim (fun y2 => .inl (.inl y2)) .inr) fun y => .inl (.inr (sub1 x y))) fun _ z => z
          · exact t.mono (S := fun _ => False) Keeps.refl (fun _ _ z => z.elim) (fun x _ z => z.elim (fun y => (ho x y).elim .inl fun y2 => absurd (y2 ▸ y) hb) fun y => .inr (sub1 x y)) fun _ z => z
  · rcases slots_get e1 with ⟨rfl, _⟩ | ⟨rfl, g1⟩
    · exact absurd rfl e3
    · rcases slots_get e2 with ⟨rfl, _⟩ | ⟨rfl, g2⟩
      · exact absurd rfl e4
      · obtain ⟨_, k1⟩ := fins_io hf g1
        obtain ⟨_, k2⟩ := fins_io hf g2
        obtain ⟨v1, hv1, b1, hb1, _, q1, _⟩ := e.slot i .io d k1
        obtain ⟨v2, hv2, b2, hb2, _, q2, _⟩ := e.slot j .io d' k2
        have r1 := ((hio i b1).mp q1).1
        have r2 := ((hio j b2).mp q2).1
        rw [vsl_get] at e5 e6
        rw [r1] at e5
        rw [r2] at e6
        cases Option.some.inj e5
        cases Option.some.inj e6
        subst hb1 hb2
        exact e.inj i j .io .io d d' _ k1 k2 (by simp) (by simp) hv1 hv2
  · rcases h1 b hb with y | ⟨⟨_, y, _⟩, _⟩
    · exact e.dom b y
    · exact y
  · obtain ⟨y1, y2, y3⟩ := e.ioD a ha
    exact ⟨y1, fun z => (h1 a z).elim y2 fun y => y.1.1 ha, y3⟩
end
end TM
set_option maxRecDepth 100000
set_option maxHeartbeats 4000000
/-! T8: a def by its body -/
namespace TM
open PySem PySem.Spec PyProof.Rows L2
variable [Tbs]

/-- what is handed back -/
def retV (δ : Env') : RV → Option (D × Bool)
  | .val d n => some (d, n)
  | .own i => match δ[i]? with
    | some (some (.sh, d)) => some (d, false)
    | some (some (.ow, d)) => some (d, true)
    | _ => none
def leave (ads : List AD) (r : SR) : FR := match r with
  | .nx δ => match fins 0 ads δ with
    | some fin => .ok .non false fin
    | none => .bad
  | .rt r δ => match retV δ r, fins 0 ads δ with
    | some (d, n), some fin => .ok d n fin
    | _, _ => .bad
  | .er x δ => match fins 0 ads δ with
    | some fin => .er x fin
    | none => .bad
  | _ => .bad
/-- a def's body run on arguments, m further names -/
def runF (m : Nat) (g : FS) : FF := fun ads => leave ads (g (slots ads ++ List.replicate m none))
section
variable {K : PySem.W.Frag} {c : Ct} {vs : List V} {ads fin : List AD} {σ : St} {δ : Env'} {H : Hp}
theorem Uni.left {S T : Addr → Prop} {a : Addr} (h : S a) : Uni S T a := .inl h
theorem EnvR.exit0 (e : EnvR K (c.body ads vs) σ δ H) (hl : vs.length = ads.length) (hio : IoIs c vs ads) (hf : fins 0 ads δ = some fin) : EnvR K c (vsl vs) (slots fin) H :=
  e.exit (N2 := c.N) hl hio hf (fun b h => .inl h) (fun b h => h) (.inl fun b h => h)
theorem own_sub (e : EnvR K (c.body ads vs) σ δ H) (hio : IoIs c vs ads) (hf : fins 0 ads δ = some fin) {a : Addr} (h : Own (vsl vs) (slots fin) a) : Own σ δ a := by
  obtain ⟨i, d, _, h2, h3⟩ := exit_own hio e hf h
  exact ⟨i, .io, d, h2, by simp, h3⟩
theorem exit_val {r : RV} {v : V} {d : D} {new : Bool} (e : EnvR K (c.body ads vs) σ δ H) (x : RVX K (c.body ads vs) σ δ H r v) (hl : vs.length = ads.length) (hio : IoIs c vs ads) (hf : fins 0 ads δ = some fin) (hr : retV δ r = some (d, new)) :
    RVX K c (vsl vs) (slots fin) H (.val d new) v := by
  have sub : ∀ a, Own (vsl vs) (slots fin) a → Own σ δ a := fun a h => own_sub e hio hf h
  have shared : ∀ {d : D} {v : V}, Rep K (Uni c.N (Own σ δ)) H d v → RVX K c (vsl vs) (slots fin) H (.val d false) v := fun {d v} q =>
    ⟨Rep.mono (S := fun _ => False) Keeps.refl (fun _ _ z => z.elim) (fun b _ z => z.elim .inl fun y => .inr (sub b y)) q, fun _ _ z => nomatch z⟩
  cases r with
  | val d' n =>
    simp only [retV, Option.some.injEq, Prod.mk.injEq] at hr
    obtain ⟨rfl, rfl⟩ := hr
    cases n with
    | false => exact shared x.1
    | true =>
      obtain ⟨⟨a, h1, h2, h3, h4, h5⟩, y⟩ := x
      subst h1
      have ea := y d' a rfl rfl
      refine ⟨⟨a, rfl, h2, h3, fun z => h4 (sub a z), h5.mono (S := fun _ => False) Keeps.refl (fun _ _ z => z.elim) (fun b _ z => ?_) fun _ z => z⟩, fun d2 a2 e1 e2 => ?_⟩
      · rcases z with (z | z) | z
        · exact .inl (.inl z)
        · exact .inl (.inr (sub b z))
        · exact .inr z
      · cases e1; cases e2
        have ea' : EnvR K ((c.plus a).body ads vs) σ δ H := ea
        exact ea'.exit0 (c := c.plus a) hl hio hf
  | own i =>
    obtain ⟨⟨h1, k, d', h2⟩, _⟩ := x
    obtain ⟨u, hu, q⟩ := e.slot i k d' h2
    rw [h1] at hu
    cases Option.some.inj (Option.some.inj hu)
    cases k with
    | sh =>
      simp only [retV, h2, Option.some.injEq, Prod.mk.injEq] at hr
      obtain ⟨rfl, rfl⟩ := hr
      exact shared q
    | io => simp [retV, h2] at hr
    | ow =>
      simp only [retV, h2, Option.some.injEq, Prod.mk.injEq] at hr
      obtain ⟨rfl, rfl⟩ := hr
      obtain ⟨a, g1, g2, g3, g4⟩ := q
      subst g1
      have ha : Own σ δ a := ⟨i, .ow, d', h2, by simp, h1⟩
      have nio : ∀ (j : Nat) (d : D) (b : Addr), δ[j]? = some (some (SK.io, d)) → σ[j]? = some (some (.ref b)) → b ≠ a := fun j d b k1 k2 z => by
        subst z
        have := e.inj i j .ow .io d' d b h2 k1 (by simp) (by simp) h1 k2
        subst this
        rw [h2] at k1
        cases k1
      have addA : ∀ b, Liv H b → Uni (Uni c.N (Own σ δ)) (fun x => x = a) b → Uni c.N (Own σ δ) b := fun b _ z => z.elim id fun y => by rw [y]; exact .inr ha
      have nios : ¬ c.ioS a := fun z => by
        obtain ⟨y1, y2, y3⟩ := e.ioD a z
        exact g3 y3
      refine ⟨⟨a, rfl, g2, g3, fun z => ?_, g4.mono (S := fun _ => False) Keeps.refl (fun _ _ z => z.elim) (fun b _ z => ?_) fun _ z => z⟩, fun d2 a2 e1 e2 => ?_⟩
      · obtain ⟨j, d, _, k1, k2⟩ := exit_own hio e hf z
        exact nio j d a k1 k2 rfl
      · rcases z with (z | z) | z
        · exact .inl z
        · exact .inr (sub b z)
        · rw [z]; exact .inr ha
      · cases e1; cases e2
        refine e.exit (N2 := (c.plus a).N) hl hio hf (fun b z => ?_) (fun b z => .inl z) (.inr ⟨a, fun b z => z⟩)
        rcases z with z | z
        · exact .inl z
        · refine .inr ?_
          have z' : b = a := z
          subst z'
          exact ⟨⟨nios, g4.there, fun p hp => (e.held p hp).mono (S := fun _ => False) Keeps.refl (fun _ _ z => z.elim) addA⟩, fun j d x k1 k2 => by
            obtain ⟨v, hv, b', hb, _, _, t⟩ := e.slot j .io d k1
            rw [k2] at hv
            cases Option.some.inj (Option.some.inj hv)
            cases hb
            exact t.mono (S := fun _ => False) Keeps.refl (fun _ _ z => z.elim) addA fun _ z => z⟩
/-- the frame at the entry -/
theorem EnvR.enter (e : EnvR K c (vsl vs) (slots ads) H) (hl : vs.length = ads.length) (m : Nat) : EnvR K (c.body ads vs) (vsl vs ++ List.replicate m none) (slots ads ++ List.replicate m none) H := by
  have hlen : (slots ads).length = (vsl vs).length := e.len
  have getD' : ∀ {i : Nat} {k : SK} {d : D}, (slots ads ++ List.replicate m none)[i]? = some (some (k, d)) → (slots ads)[i]? = some (some (k, d)) ∧ i < (slots ads).length := fun {i k d} h => by
    by_cases hi : i < (slots ads).length
    · rw [List.getElem?_append_left hi] at h; exact ⟨h, hi⟩
    · rw [List.getElem?_append_right (by omega)] at h
      rw [List.getElem?_replicate] at h
      split at h <;> cases h
  have getV : ∀ {i : Nat}, i < (slots ads).length → (vsl vs ++ List.replicate m none)[i]? = (vsl vs)[i]? := fun {i} h => List.getElem?_append_left (by omega)
  have own : ∀ b, Own (vsl vs ++ List.replicate m none) (slots ads ++ List.replicate m none) b → Own (vsl vs) (slots ads) b := by
    rintro b ⟨i, k, d, h1, h2, h3⟩
    obtain ⟨h4, h5⟩ := getD' h1
    rw [getV h5] at h3
    exact ⟨i, k, d, h4, h2, h3⟩
  have sub : ∀ b, Liv H b → Uni c.N (Own (vsl vs ++ List.replicate m none) (slots ads ++ List.replicate m none)) b → Uni c.N (Own (vsl vs) (slots ads)) b := fun b _ z => z.elim .inl fun y => .inr (own b y)
  refine ⟨by simp [hl], fun i k d h => ?_, fun i j k k' d d' a e1 e2 e3 e4 e5 e6 => ?_, e.dom, e.keep, e.ioD, fun p hp => ?_, e.tab⟩
  · obtain ⟨h1, h2⟩ := getD' h
    obtain ⟨v, hv, q⟩ := e.slot i k d h1
    refine ⟨v, by rw [getV h2]; exact hv, ?_⟩
    cases k with
    | sh => exact Rep.mono (S := fun _ => False) Keeps.refl (fun _ _ z => z.elim) sub q
    | ow => obtain ⟨b, q1, q2, q3, q4⟩ := q; exact ⟨b, q1, q2, q3, q4.mono (S := fun _ => False) Keeps.refl (fun _ _ z => z.elim) sub fun _ z => z⟩
    | io => obtain ⟨b, q1, q2, q3, q4⟩ := q; exact ⟨b, q1, q2, q3, q4.mono (S := fun _ => False) Keeps.refl (fun _ _ z => z.elim) sub fun _ z => z⟩
  · obtain ⟨g1, g2⟩ := getD' e1
    obtain ⟨g3, g4⟩ := getD' e2
    rw [getV g2] at e5
    rw [getV g4] at e6
    exact e.inj i j k k' d d' a g1 g3 e3 e4 e5 e6
  · rcases List.mem_append.mp hp with hp | hp
    · obtain ⟨i, h1, h2⟩ := mem_shares hp
      have h3 : (slots ads)[i]? = some (some (.sh, p.1)) := by rw [List.getElem?_map, h1]; rfl
      obtain ⟨v, hv, q⟩ := e.slot i .sh p.1 h3
      rw [vsl_get, h2] at hv
      cases Option.some.inj hv
      exact Rep.mono (S := fun _ => False) Keeps.refl (fun _ _ z => z.elim) sub q
    · exact (e.held p hp).mono (S := fun _ => False) Keeps.refl (fun _ _ z => z.elim) sub
/-- a body's reading, out of the promise -/
theorem tree_body {P : Program} {w : World} {mg : Str → Option Value} {base : Heap} {x : Str} {scope : Scope} {body : List Stmt} {f : Addr} {N : List Str} {n : Nat} {g : FS} {cdv : Value} {A : Around} {outer : List Env} {s : Shared} {H : Hp} {vs : List V} {Q : VK} {E : XK}
    (hb : DSs (cxOf (L2.CX P w) P w K mg base N x scope f cdv A outer s H E) (fun cls d _ H => E cls d H) g body) (h : treeSp K n (runF (N.length - n) g) vs H Q E) :
    ∃ t, PSs (cxOf (L2.CX P w) P w K mg base N x scope f cdv A outer s H E) body t ∧ t { nx := fun _ H' => Q .non H', rt := Q } (L2.start N vs) H := by
  obtain ⟨c, ads, hl, hHe, hh, hio, e, q⟩ := h
  have hla : vs.length = ads.length := by have := e.len; simpa using this.symm
  refine ⟨_, hb, c.body ads vs, slots ads ++ List.replicate (N.length - n) none, ?_, ?_⟩
  · have := e.enter hla (N.length - n)
    unfold L2.start
    rw [hl]
    exact this
  · unfold runF leave at q
    unfold PostS
    cases h2 : g (slots ads ++ List.replicate (N.length - n) none) with
    | nx δ =>
      rw [h2] at q
      intro σ H' e2
      dsimp only at q
      split at q
      · rename_i fin hf
        exact q .non H' (e2.exit0 hla hio hf) rvNon
      · exact q.elim
    | rt r δ =>
      rw [h2] at q
      intro v σ H' e2 x
      dsimp only at q
      split at q
      · rename_i d n fin hr' hf
        exact q v H' (e2.exit0 hla hio hf) (exit_val e2 x hla hio hf hr')
      · exact q.elim
    | er x δ =>
      rw [h2] at q
      intro d σ H' e2 hx
      dsimp only at q
      split at q
      · rename_i fin hf
        refine q d H' (e2.exit0 hla hio hf) ?_
        rcases hx with hx | ⟨dd, vfs, y1, y2, y3⟩
        · exact .inl hx
        · exact .inr ⟨dd, vfs, y1, y2, y3.mono (S := fun _ => False) Keeps.refl (fun _ _ z => z.elim) fun b _ z => z.elim .inl fun y => .inr (own_sub e2 hio hf y)⟩
      · exact q.elim
    | bk δ => rw [h2] at q; exact q.elim
    | ct δ => rw [h2] at q; exact q.elim
    | bad => rw [h2] at q; exact q.elim
/-- a def keeps the promise of its body -/
theorem fn_tree {P : Program} {w : World} {mg : Str → Option Value} {base : Heap} {x qual : Str} {st : Stmt} {f : Addr} {fd : FuncData} {N ps : List Str} {k : Nat} {g : FS} (F : Fun K x qual st f fd) (S : FnScope N ps (defScope st)) (hle : ps.length ≤ N.length)
    (hb : ∀ (cdv : Value) (A : Around) (outer : List Env) (s : Shared) (H : Hp) (E : XK), Room k (A.deeper (envOfC qual (defScope st) s.heap.objs.size f cdv)) →
      DSs (cxOf (L2.CX P w) P w K mg base N qual (defScope st) f cdv A outer s H E) (fun cls d _ H => E cls d H) g (defBody st)) :
    FnOk P w K mg base (L2.CX P w) (k + 1) f fd ps (treeSp K ps.length (runF (N.length - ps.length) g)) := by
  refine F.okX S (fun vs H Q E ⟨c, ads, h, _⟩ => h) fun cdv A outer s H vs Q E hr h => tree_body (hb cdv A outer s H E hr) h
end
end TM
set_option maxRecDepth 100000
set_option maxHeartbeats 4000000
/-! T9: a call -/
namespace TM
open PySem PySem.Spec PyProof.Rows L2
variable [Tbs]

def argOf (δ : Env') : RV → Option AD
  | .val d _ => some (.sh d)
  | .own j => match δ[j]? with
    | some (some (.sh, d)) => some (.sh d)
    | some (some (_, d)) => some (.io d)
    | _ => none
def argsOf (δ : Env') : List RV → Option (List AD)
  | [] => some []
  | r :: rs => match argOf δ r, argsOf δ rs with
    | some a, some as => some (a :: as)
    | _, _ => none
def ownIx : List RV → List Nat
  | [] => []
  | .own j :: rs => j :: ownIx rs
  | .val _ _ :: rs => ownIx rs
def putBack : Env' → List RV → List AD → Option Env'
  | δ, [], [] => some δ
  | δ, .val _ _ :: rs, _ :: as => putBack δ rs as
  | δ, .own j :: rs, a :: as => match δ[j]? with
    | some (some (.sh, _)) => putBack δ rs as
    | some (some (k, _)) => match a with
      | .io d => putBack (δ.set j (some (k, d))) rs as
      | _ => none
    | _ => none
  | _, _, _ => none
def callM (n : Nat) (F : FF) (rs : List RV) : FE := fun δ => match argsOf δ rs with
  | some ads => if decide (ads.length = n) && decide ((ownIx rs).Nodup) then
      match F ads with
      | .ok d new fin => match putBack δ rs fin with
        | some δ' => .ok (.val d new) δ'
        | none => .bad
      | .er x fin => match putBack δ rs fin with
        | some δ' => .err x δ'
        | none => .bad
      | .bad => .bad
    else .bad
  | none => .bad
def eCall (n : Nat) (F : FF) (fa : FA) : FE := bnd fa (callM n F)
theorem ownIx_mem : ∀ {rs : List RV} {i j : Nat}, rs[i]? = some (.own j) → j ∈ ownIx rs
  | [], _, _, h => by simp at h
  | .own k :: rs, 0, j, h => by simp at h; subst h; exact List.mem_cons_self
  | .own k :: rs, i + 1, j, h => List.mem_cons_of_mem _ (ownIx_mem (i := i) (by simpa using h))
  | .val _ _ :: rs, 0, j, h => by simp at h
  | .val _ _ :: rs, i + 1, j, h => ownIx_mem (rs := rs) (i := i) (by simpa using h)
theorem ownIx_inj : ∀ {rs : List RV} {i i' j : Nat}, (ownIx rs).Nodup → rs[i]? = some (.own j) → rs[i']? = some (.own j) → i = i'
  | [], _, _, _, _, h, _ => by simp at h
  | .own k :: rs, 0, 0, j, _, _, _ => rfl
  | .own k :: rs, 0, i' + 1, j, n, h, g => by
    simp at h; subst h
    exact absurd (ownIx_mem (rs := rs) (i := i') (by simpa using g)) (List.nodup_cons.mp n).1
  | .own k :: rs, i + 1, 0, j, n, h, g => by
    simp at g; subst g
    exact absurd (ownIx_mem (rs := rs) (i := i) (by simpa using h)) (List.nodup_cons.mp n).1
  | .own k :: rs, i + 1, i' + 1, j, n, h, g => by
    have := ownIx_inj (rs := rs) (i := i) (i' := i') (List.nodup_cons.mp n).2 (by simpa using h) (by simpa using g)
    omega
  | .val _ _ :: rs, 0, i', j, _, h, _ => by simp at h
  | .val _ _ :: rs, i + 1, 0, j, _, _, g => by simp at g
  | .val _ _ :: rs, i + 1, i' + 1, j, n, h, g => by
    have := ownIx_inj (rs := rs) (i := i) (i' := i') n (by simpa using h) (by simpa using g)
    omega
theorem argsOf_get {δ : Env'} : ∀ {rs : List RV} {ads : List AD}, argsOf δ rs = some ads → ads.length = rs.length ∧ ∀ (i : Nat) (a : AD), ads[i]? = some a → ∃ r, rs[i]? = some r ∧ argOf δ r = some a
  | [], ads, h => by simp only [argsOf, Option.some.injEq] at h; subst h; exact ⟨rfl, fun i a e => by simp at e⟩
  | r :: rs, ads, h => by
    simp only [argsOf] at h
    split at h
    · rename_i a as h1 h2
      cases h
      obtain ⟨l, g⟩ := argsOf_get h2
      refine ⟨by simp [l], fun i b e => ?_⟩
      cases i with
      | zero => simp at e; subst e; exact ⟨r, rfl, h1⟩
      | succ i => obtain ⟨r', q1, q2⟩ := g i b (by simpa using e); exact ⟨r', by simpa using q1, q2⟩
    · cases h
/-- the owned slots keep their kinds; what is put back -/
theorem putBack_get : ∀ {rs : List RV} {as : List AD} {δ δ' : Env'}, putBack δ rs as = some δ' → δ'.length = δ.length ∧
    (∀ (j : Nat) (x : SK × D), δ[j]? = some (some x) → ∃ y, δ'[j]? = some (some y)) ∧
    (∀ (j : Nat) (k : SK) (d : D), δ'[j]? = some (some (k, d)) → (∃ d0, δ[j]? = some (some (k, d0))) ∧ ((δ[j]? = some (some (k, d)) ∧ (k = .sh ∨ ∀ i : Nat, rs[i]? ≠ some (.own j))) ∨ (k ≠ .sh ∧ ∃ i : Nat, rs[i]? = some (.own j) ∧ as[i]? = some (.io d)))) ∧
    ∀ (i j : Nat) (k : SK) (d : D), rs[i]? = some (.own j) → δ[j]? = some (some (k, d)) → k ≠ .sh → ∃ d', as[i]? = some (.io d')
  | [], [], δ, δ', h => by
    simp only [putBack, Option.some.injEq] at h; subst h
    exact ⟨rfl, fun j x e => ⟨x, e⟩, fun j k d e => ⟨⟨d, e⟩, .inl ⟨e, .inr fun i z => by simp at z⟩⟩, fun i j k d z => by simp at z⟩
  | [], _ :: _, _, _, h => by simp [putBack] at h
  | .val _ _ :: _, [], _, _, h => by simp [putBack] at h
  | .own _ :: _, [], _, _, h => by simp [putBack] at h
  | .val x y :: rs, a :: as, δ, δ', h => by
    simp only [putBack] at h
    obtain ⟨l, s, g, q⟩ := putBack_get h
    refine ⟨l, s, fun j k d e => ?_, fun i j k d e1 e2 e3 => ?_⟩
    · obtain ⟨g1, g2⟩ := g j k d e
      refine ⟨g1, ?_⟩
      rcases g2 with ⟨z1, z2⟩ | ⟨z1, i, z2, z3⟩
      · refine .inl ⟨z1, z2.imp id fun y i => ?_⟩
        cases i with
        | zero => simp
        | succ i => simpa using y i
      · exact .inr ⟨z1, i + 1, by simpa using z2, by simpa using z3⟩
    · cases i with
      | zero => simp at e1
      | succ i => obtain ⟨d', z⟩ := q i j k d (by simpa using e1) e2 e3; exact ⟨d', by simpa using z⟩
  | .own m :: rs, a :: as, δ, δ', h => by
    simp only [putBack] at h
    split at h
    · rename_i d0 hm
      obtain ⟨l, s, g, q⟩ := putBack_get h
      refine ⟨l, s, fun j k d e => ?_, fun i j k d e1 e2 e3 => ?_⟩
      · obtain ⟨g1, g2⟩ := g j k d e
        refine ⟨g1, ?_⟩
        rcases g2 with ⟨z1, z2⟩ | ⟨z1, i, z2, z3⟩
        · refine .inl ⟨z1, ?_⟩
          by_cases hk : k = .sh
          · exact .inl hk
          · refine .inr fun i => ?_
            cases i with
            | zero =>
              intro z
              simp at z
              subst z
              rw [hm] at z1
              cases z1
              exact hk rfl
            | succ i => simpa using (z2.resolve_left hk) i
        · exact .inr ⟨z1, i + 1, by simpa using z2, by simpa using z3⟩
      · cases i with
        | zero =>
          simp at e1
          subst e1
          rw [hm] at e2
          cases e2
          exact absurd rfl e3
        | succ i => obtain ⟨d', z⟩ := q i j k d (by simpa using e1) e2 e3; exact ⟨d', by simpa using z⟩
    · rename_i k0 d0 hk0 hm
      split at h
      · rename_i d1
        obtain ⟨l, s, g, q⟩ := putBack_get h
        have hml : m < δ.length := (List.getElem?_eq_some_iff.mp hm).1
        have hk0' : k0 ≠ .sh := fun z => hk0 z
        refine ⟨by simpa using l, fun j x e => ?_, fun j k d e => ?_, fun i j k d e1 e2 e3 => ?_⟩
        · by_cases hj : m = j
          · subst hj; exact s m _ (List.getElem?_set_self hml)
          · exact s j x (by rw [List.getElem?_set_ne hj]; exact e)
        · obtain ⟨⟨d2, g1⟩, g2⟩ := g j k d e
          by_cases hj : m = j
          · subst hj
            rw [List.getElem?_set_self hml] at g1
            cases g1
            refine ⟨⟨d0, hm⟩, .inr ⟨hk0', ?_⟩⟩
            rcases g2 with ⟨z1, z2⟩ | ⟨z1, i, z2, z3⟩
            · rw [List.getElem?_set_self hml] at z1
              cases z1
              exact ⟨0, rfl, rfl⟩
            · exact ⟨i + 1, by simpa using z2, by simpa using z3⟩
          · rw [List.getElem?_set_ne hj] at g1
            refine ⟨⟨d2, g1⟩, ?_⟩
            rcases g2 with ⟨z1, z2⟩ | ⟨z1, i, z2, z3⟩
            · rw [List.getElem?_set_ne hj] at z1
              refine .inl ⟨z1, z2.imp id fun y i => ?_⟩
              cases i with
              | zero => simp [hj]
              | succ i => simpa using y i
            · exact .inr ⟨z1, i + 1, by simpa using z2, by simpa using z3⟩
        · cases i with
          | zero => exact ⟨d1, rfl⟩
          | succ i =>
            by_cases hj : m = j
            · subst hj
              rw [hm] at e2
              cases e2
              obtain ⟨d', z⟩ := q i m k0 d1 (by simpa using e1) (List.getElem?_set_self hml) e3
              exact ⟨d', by simpa using z⟩
            · obtain ⟨d', z⟩ := q i j k d (by simpa using e1) (by rw [List.getElem?_set_ne hj]; exact e2) e3
              exact ⟨d', by simpa using z⟩
      · cases h
    · cases h
section
variable {K : PySem.W.Frag} {c : Ct} {vs : List V} {rs : List RV} {ads fin : List AD} {σ : St} {δ δ' : Env'} {H H' : Hp}
theorem RVs.length (r : RVs K c σ δ H rs vs) : rs.length = vs.length := Paired.length r
theorem RVs.get : ∀ {rs : List RV} {vs : List V} {i : Nat} {r : RV}, RVs K c σ δ H rs vs → rs[i]? = some r → ∃ v, vs[i]? = some v ∧ RVR K c σ δ H r v
  | _, _, _, _, .nil, e => by simp at e
  | _, _, 0, _, .cons r _, e => by simp at e; subst e; exact ⟨_, rfl, r⟩
  | _, _, i + 1, x, .cons _ t, e => by
    obtain ⟨u, h1, h2⟩ := RVs.get (i := i) (r := x) t (by simpa using e)
    exact ⟨u, by simpa using h1, h2⟩
def passed (vs : List V) (ads : List AD) (a : Addr) : Prop := ∃ i : Nat, vs[i]? = some (.ref a) ∧ ∃ d, ads[i]? = some (.io d)
def Ct.callee (c : Ct) (σ : St) (δ : Env') (H : Hp) (vs : List V) (ads : List AD) : Ct := ⟨fun a => c.N a ∨ (Own σ δ a ∧ ¬ passed vs ads a), H, fun i a => vs[i]? = some (.ref a) ∧ ∃ d, ads[i]? = some (.io d), []⟩
theorem EnvR.lessN {N2 : Addr → Prop} (e : EnvR K c σ δ H) (h : ∀ b, N2 b → c.N b) : EnvR K { c with N := N2 } σ δ H := by
  have sub : ∀ b, Liv H b → Uni N2 (Own σ δ) b → Uni c.N (Own σ δ) b := fun b _ z => z.imp (h b) id
  refine ⟨e.len, fun i k d hi => ?_, e.inj, fun b z => e.dom b (h b z), e.keep, fun b z => ⟨(e.ioD b z).1, fun y => (e.ioD b z).2.1 (h b y), (e.ioD b z).2.2⟩, fun p hp => (e.held p hp).mono (S := fun _ => False) Keeps.refl (fun _ _ z => z.elim) sub, e.tab⟩
  obtain ⟨v, hv, r⟩ := e.slot i k d hi
  refine ⟨v, hv, ?_⟩
  cases k with
  | sh => exact Rep.mono (S := fun _ => False) Keeps.refl (fun _ _ z => z.elim) sub r
  | ow => obtain ⟨b, h1, h2, h3, h4⟩ := r; exact ⟨b, h1, fun z => h2 (h b z), h3, h4.mono (S := fun _ => False) Keeps.refl (fun _ _ z => z.elim) sub fun _ z => z⟩
  | io => obtain ⟨b, h1, h2, h3, h4⟩ := r; exact ⟨b, h1, fun z => h2 (h b z), h3, h4.mono (S := fun _ => False) Keeps.refl (fun _ _ z => z.elim) sub fun _ z => z⟩
/-- an argument handed in to be changed is an owned slot's object -/
theorem io_slot (r : RVs K c σ δ H rs vs) (ha : argsOf δ rs = some ads) {i : Nat} {d : D} (h : ads[i]? = some (.io d)) : ∃ (j : Nat) (k : SK), rs[i]? = some (.own j) ∧ k ≠ .sh ∧ δ[j]? = some (some (k, d)) ∧ ∃ v, vs[i]? = some v ∧ σ[j]? = some (some v) := by
  obtain ⟨rv, h1, h2⟩ := (argsOf_get ha).2 i _ h
  cases rv with
  | val d' n => simp [argOf] at h2
  | own j =>
    obtain ⟨v, hv, q, _⟩ := r.get h1
    simp only [argOf] at h2
    split at h2
    · cases h2
    · rename_i k d0 hk hj
      cases h2
      exact ⟨j, k, h1, fun z => hk z, hj, v, hv, q⟩
    · cases h2
theorem passed_own (r : RVs K c σ δ H rs vs) (ha : argsOf δ rs = some ads) {a : Addr} (h : passed vs ads a) : Own σ δ a := by
  obtain ⟨i, h1, d, h2⟩ := h
  obtain ⟨j, k, _, hk, hj, v, hv, q⟩ := io_slot r ha h2
  rw [h1] at hv
  cases Option.some.inj hv
  exact ⟨j, k, d, hj, hk, q⟩
theorem EnvR.call (e : EnvR K c σ δ H) (r : RVs K c σ δ H rs vs) (ha : argsOf δ rs = some ads) (hn : (ownIx rs).Nodup) : EnvR K (c.callee σ δ H vs ads) (vsl vs) (slots ads) H := by
  obtain ⟨l, g⟩ := argsOf_get ha
  have own : ∀ b, Own (vsl vs) (slots ads) b → passed vs ads b := by
    rintro b ⟨i, k, d, h1, h2, h3⟩
    rcases slots_get h1 with ⟨rfl, _⟩ | ⟨rfl, h4⟩
    · exact absurd rfl h2
    · exact ⟨i, vsl_get.mp h3, d, h4⟩
  have sub : ∀ b, Liv H b → Uni (c.callee σ δ H vs ads).N (Own (vsl vs) (slots ads)) b → Uni c.N (Own σ δ) b := fun b _ z => z.elim (fun y => y.imp id fun q => q.1) fun y => .inr (passed_own r ha (own b y))
  refine ⟨by simp [l, r.length], fun i k d h => ?_, fun i i' k k' d d' a e1 e2 e3 e4 e5 e6 => ?_, fun b z => z.elim (e.dom b) fun y => (e.own_there y.1).1, Keeps.refl, fun a ⟨i, z1, d, z2⟩ => ?_, (fun p hp => nomatch hp), e.tab⟩
  · rcases slots_get h with ⟨rfl, h4⟩ | ⟨rfl, h4⟩
    · obtain ⟨rv, h1, h2⟩ := g i _ h4
      obtain ⟨v, hv, q⟩ := r.get h1
      refine ⟨v, vsl_get.mpr hv, ?_⟩
      have q' : Rep K (Uni c.N (Own σ δ)) H d v := by
        cases rv with
        | val d' n =>
          simp only [argOf, Option.some.injEq, AD.sh.injEq] at h2
          subst h2
          cases n with
          | false => exact q
          | true => obtain ⟨a, y1, y2, y3, y4, y5⟩ := q; subst y1; exact y5.rep (fun b z => .inl z) fun z => z.elim y2 y4
        | own j =>
          obtain ⟨q1, _⟩ := q
          simp only [argOf] at h2
          split at h2
          · rename_i d0 hj
            cases h2
            obtain ⟨u, hu, y⟩ := e.slot j .sh d hj
            rw [q1] at hu
            cases Option.some.inj (Option.some.inj hu)
            exact y
          · cases h2
          · cases h2
      exact q'.mono (S := fun _ => False) Keeps.refl (fun _ _ z => z.elim) sub
    · obtain ⟨j, k, h1, hk, hj, v, hv, q⟩ := io_slot r ha h4
      obtain ⟨u, hu, y⟩ := e.slot j k d hj
      rw [q] at hu
      cases Option.some.inj (Option.some.inj hu)
      have y' : ∃ a, v = .ref a ∧ ¬ c.N a ∧ Top K (Uni c.N (Own σ δ)) H d a := by
        cases k with
        | sh => exact absurd rfl hk
        | ow => obtain ⟨a, y1, y2, _, y4⟩ := y; exact ⟨a, y1, y2, y4⟩
        | io => obtain ⟨a, y1, y2, _, y4⟩ := y; exact ⟨a, y1, y2, y4⟩
      obtain ⟨a, rfl, y2, y3⟩ := y'
      have pa : passed vs ads a := ⟨i, hv, d, h4⟩
      exact ⟨_, vsl_get.mpr hv, a, rfl, fun z => z.elim y2 fun z => z.2 pa, ⟨hv, d, h4⟩, y3.mono (S := fun _ => False) Keeps.refl (fun _ _ z => z.elim) sub fun _ z => z⟩
  · rcases slots_get e1 with ⟨rfl, _⟩ | ⟨rfl, g1⟩
    · exact absurd rfl e3
    · rcases slots_get e2 with ⟨rfl, _⟩ | ⟨rfl, g2⟩
      · exact absurd rfl e4
      · obtain ⟨j, k, h1, hk, hj, v, hv, q⟩ := io_slot r ha g1
        obtain ⟨j', k', h1', hk', hj', v', hv', q'⟩ := io_slot r ha g2
        rw [vsl_get] at e5 e6
        rw [hv] at e5
        rw [hv'] at e6
        cases Option.some.inj e5
        cases Option.some.inj e6
        have := e.inj j j' k k' d d' a hj hj' hk hk' q q'
        subst this
        exact ownIx_inj hn h1 h1'
  · have pa : passed vs ads a := ⟨i, z1, d, z2⟩
    have oa := passed_own r ha pa
    obtain ⟨t1, t2⟩ := e.own_there oa
    exact ⟨t1, fun z => z.elim t2 fun z => z.2 pa, t1⟩
/-- behind a call; P: what is new lies apart -/
theorem EnvR.called {P : Addr → Prop} (e : EnvR K c σ δ H) (r : RVs K c σ δ H rs vs) (ha : argsOf δ rs = some ads) (hp : putBack δ rs fin = some δ')
    (ef : EnvR K { c.callee σ δ H vs ads with N := Uni (c.callee σ δ H vs ads).N P } (vsl vs) (slots fin) H') (hP : ∀ b, P b → ¬ Liv H b) (hP' : ∀ b, P b → Liv H' b) :
    EnvR K { c with N := Uni c.N P } σ δ' H' ∧ Stp σ δ H δ' H' ∧ ∀ b, Uni c.N (Own σ δ') b → Uni (c.callee σ δ H vs ads).N (Own (vsl vs) (slots fin)) b := by
  obtain ⟨l, shp, g, q⟩ := putBack_get hp
  have po : ∀ a, passed vs ads a → Own σ δ a := fun a => passed_own r ha
  have own' : ∀ b, Own σ δ' b → Own σ δ b := by
    rintro b ⟨j, k, d, h1, h2, h3⟩
    obtain ⟨⟨d0, h4⟩, _⟩ := g j k d h1
    exact ⟨j, k, d0, h4, h2, h3⟩
  have keep : Keeps (passed vs ads) H H' := ef.keep.weaken fun a ⟨i, z1, z2⟩ => ⟨i, z1, z2⟩
  have dm : ∀ a, Liv H a → Liv H' a := fun a h => by
    by_cases pa : passed vs ads a
    · obtain ⟨i, z1, z2⟩ := pa
      exact (ef.ioD a ⟨i, z1, z2⟩).1
    · exact keep.dom h pa
  have big : ∀ b, Uni c.N (Own σ δ') b → Uni (c.callee σ δ H vs ads).N (Own (vsl vs) (slots fin)) b := fun b z => by
    rcases z with z | z
    · exact .inl (.inl z)
    · have ob := own' b z
      by_cases pb : passed vs ads b
      · obtain ⟨i, z1, d, z2⟩ := pb
        obtain ⟨j, k, h1, hk, hj, v, hv, q1⟩ := io_slot r ha z2
        obtain ⟨d', h2⟩ := q i j k d h1 hj hk
        exact .inr ⟨i, .io, d', by rw [List.getElem?_map, h2]; rfl, by simp, vsl_get.mpr z1⟩
      · exact .inl (.inr ⟨ob, pb⟩)
  -- what was not handed in stands, apart from P
  have sub : ∀ b, Liv H b → Uni (Uni c.N P) (Own σ δ') b → Uni c.N (Own σ δ) b := fun b hb z => by
    rcases z with (z | z) | z
    · exact .inl z
    · exact absurd hb (hP b z)
    · exact .inr (own' b z)
  have ps : ∀ a, Liv H a → passed vs ads a → Uni c.N (Own σ δ) a := fun a _ z => .inr (po a z)
  refine ⟨⟨by rw [l]; exact e.len, fun j k d h => ?_, fun i j k k' d d' a e1 e2 e3 e4 e5 e6 => ?_, fun b z => z.elim (fun y => dm b (e.dom b y)) (hP' b), e.keep.trans2 keep fun x hx z => ?_, fun a z => ⟨dm a (e.ioD a z).1, fun y => y.elim (e.ioD a z).2.1 fun y => hP a y (e.ioD a z).1, (e.ioD a z).2.2⟩, fun p hp => (e.held p hp).mono keep ps sub, ef.tab⟩, ⟨keep.weaken po, own', shp, dm⟩, big⟩
  · obtain ⟨⟨d0, h0⟩, h1⟩ := g j k d h
    rcases h1 with ⟨z1, z2⟩ | ⟨z1, i, z2, z3⟩
    · obtain ⟨v, hv, y⟩ := e.slot j k d z1
      refine ⟨v, hv, ?_⟩
      have np : ∀ a, v = .ref a → k ≠ .sh → ¬ passed vs ads a := fun a ea hk ⟨i, p1, d2, p2⟩ => by
        obtain ⟨j', k', h1', hk', hj', v', hv', q'⟩ := io_slot r ha p2
        rw [p1] at hv'
        cases Option.some.inj hv'
        subst ea
        have := e.inj j j' k k' d d2 a z1 hj' hk hk' hv q'
        subst this
        exact (z2.resolve_left hk) i h1'
      cases k with
      | sh => exact Rep.mono keep ps sub y
      | ow => obtain ⟨b, q1, q2, q3, q4⟩ := y; exact ⟨b, q1, fun z => z.elim q2 fun z => hP b z q4.there, q3, q4.mono keep ps sub fun o ho _ => keep b o ho (np b q1 (by simp))⟩
      | io => obtain ⟨b, q1, q2, q3, q4⟩ := y; exact ⟨b, q1, fun z => z.elim q2 fun z => hP b z q4.there, q3, q4.mono keep ps sub fun o ho _ => keep b o ho (np b q1 (by simp))⟩
    · obtain ⟨v, hv, y⟩ := ef.slot i .io d (by rw [List.getElem?_map, z3]; rfl)
      obtain ⟨a, rfl, y1, ⟨y2, d2, y3⟩, y4⟩ := y
      obtain ⟨v', hv', q1, _⟩ := r.get z2
      rw [y2] at hv'
      cases Option.some.inj hv'
      obtain ⟨u, hu, w⟩ := e.slot j k d0 h0
      rw [q1] at hu
      cases Option.some.inj (Option.some.inj hu)
      have t : Top K (Uni (Uni c.N P) (Own σ δ')) H' d a := y4.mono (S := fun _ => False) Keeps.refl (fun _ _ z => z.elim) (fun b _ z => by
        rcases z with (z | z) | z
        · exact .inl (.inl (.inl z))
        · exact .inl (.inr z)
        · exact (big b (.inr z)).elim (fun q => .inl (.inl q)) .inr) fun _ z => z
      refine ⟨_, q1, ?_⟩
      cases k with
      | sh => exact absurd rfl z1
      | ow => obtain ⟨b, q1, q2, q3, q4⟩ := w; cases q1; exact ⟨a, rfl, fun z => z.elim q2 fun z => hP a z q4.there, q3, t⟩
      | io => obtain ⟨b, q1, q2, q3, q4⟩ := w; cases q1; exact ⟨a, rfl, fun z => z.elim q2 fun z => hP a z q4.there, q3, t⟩
  · obtain ⟨⟨x, g1⟩, _⟩ := g i k d e1
    obtain ⟨⟨y, g2⟩, _⟩ := g j k' d' e2
    exact e.inj i j k k' x y a g1 g2 e3 e4 e5 e6
  · obtain ⟨j, k, d, p1, p2, p3⟩ := po x z
    obtain ⟨v, hv, y⟩ := e.slot j k d p1
    rw [p3] at hv
    cases Option.some.inj (Option.some.inj hv)
    cases k with
    | sh => exact absurd rfl p2
    | ow => obtain ⟨b, q1, q2, q3, q4⟩ := y; cases q1; exact absurd hx q3
    | io => obtain ⟨b, q1, q2, q3, q4⟩ := y; cases q1; exact ⟨j, q3⟩
/-- the promise of a callee is asked with what the caller has -/
theorem call_tree {n : Nat} {F : FF} {W : WX} {Q : VK} (e : EnvR K c σ δ H) (r : RVs K c σ δ H rs vs) (h : Post K W (RVX K) c σ δ H (callM n F rs δ) Q) : treeSp K n F vs H Q (WE W σ) := by
  unfold callM at h
  split at h
  · rename_i ads ha
    split at h
    · rename_i hc
      simp only [Bool.and_eq_true, decide_eq_true_eq] at hc
      obtain ⟨l, _⟩ := argsOf_get ha
      refine ⟨c.callee σ δ H vs ads, ads, by rw [← hc.1, l, r.length], rfl, rfl, fun i a => Iff.rfl, e.call r ha hc.2, ?_⟩
      have emp : ∀ {c' : Ct} {σ' : St} {δ2 : Env'} {H2 : Hp}, EnvR K c' σ' δ2 H2 → EnvR K { c' with N := Uni c'.N (fun _ => False) } σ' δ2 H2 := fun x => x.lessN fun b z => z.elim id fun y => y.elim
      unfold PostF
      cases hF : F ads with
      | bad => rw [hF] at h; exact h.elim
      | ok d new fin =>
        rw [hF] at h
        dsimp only at h
        split at h
        · rename_i δ' hp
          intro v H' ef x
          obtain ⟨e1, s1, big⟩ := e.called (P := fun _ => False) r ha hp (emp ef) (fun _ z => z.elim) fun _ z => z.elim
          have e1' : EnvR K c σ δ' H' := e1.lessN fun b z => .inl z
          refine h v H' e1' s1 ?_
          cases new with
          | false => exact ⟨Rep.mono (S := fun _ => False) Keeps.refl (fun _ _ z => z.elim) (fun b _ z => big b z) x.1, fun _ _ z => nomatch z⟩
          | true =>
            obtain ⟨⟨a, x1, x2, x3, x4, x5⟩, y⟩ := x
            subst x1
            have x3' : ¬ Liv H a := x3
            have ea := y d a rfl rfl
            obtain ⟨e2, _, _⟩ := e.called (P := fun b => b = a) r ha hp ea (fun b z => by rw [z]; exact x3') fun b z => by rw [z]; exact x5.there
            obtain ⟨f1, f2, f3⟩ := e.new_dead x3'
            refine ⟨⟨a, rfl, f1, f2, fun z => f3 (s1.own a z), x5.mono (S := fun _ => False) Keeps.refl (fun _ _ z => z.elim) (fun b _ z => z.imp (big b) id) fun _ z => z⟩, fun d2 a2 q1 q2 => ?_⟩
            cases q1; cases q2
            exact e2
        · exact h.elim
      | er x fin =>
        rw [hF] at h
        dsimp only at h
        split at h
        · rename_i δ' hp
          intro d H' ef hx
          obtain ⟨e1, s1, big⟩ := e.called (P := fun _ => False) r ha hp (emp ef) (fun _ z => z.elim) fun _ z => z.elim
          have e1' : EnvR K c σ δ' H' := e1.lessN fun b z => .inl z
          refine h d H' e1' s1 ?_
          rcases hx with hx | ⟨dd, vfs, y1, y2, y3⟩
          · exact .inl hx
          · exact .inr ⟨dd, vfs, y1, y2, y3.mono (S := fun _ => False) Keeps.refl (fun _ _ z => z.elim) fun b _ z => big b z⟩
        · exact h.elim
    · exact h.elim
  · exact h.elim
end
section
variable {X : Cx} {W : WX} {k n : Nat} {f : Addr} {fd : FuncData} {ps : List Str} {F : FF} {x : Str} {p pos : Pos} {e : Expr} {es : List Expr} {fa : FA}
theorem de_call (G : FnOk X.prog X.w X.K X.mg X.base (L2.CX X.prog X.w) k f fd ps (treeSp X.K n F)) (tk : Takes X W) (hr : Room k X.A) (hg : Gl X x) (hm : X.mg x = some (.ref f)) (hk : PySem.W.keepIn X.K (.ref f) = true) (hb : Binds X.K fd ps [])
    (ha : DA X W fa (e :: es)) (hdb : (x == ("__debug__" : Str)) = false) (he : starEach (e :: es) X.env = (false, eval e X.env) :: starEach es X.env) (hpl : (backTo pos (starEach es X.env)).any (·.1) = false) :
    DE X W (eCall n F fa) (.Call (.Name x p) (e :: es) [] pos) := by
  refine pe_mono (pe_callS (E := WE W) G hr hg hm hk hb (fun σ => passAt tk σ) ha hdb he hpl) fun σ H Q ⟨c, δ, e, h⟩ => ?_
  exact ⟨c, δ, e, (Post.bnd (R := RVs X.K) h).imp fun vs H1 ⟨δ1, rs, e1, s1, hr, h1⟩ => call_tree e1 hr h1⟩
end
end TM
set_option maxRecDepth 100000
set_option maxHeartbeats 4000000
/-! T10: what is walked; for -/
namespace TM
open PySem PySem.Spec PyProof.Rows L2
variable [Tbs]

/-- a context that holds more -/
def Ext (c c' : Ct) : Prop := ∃ hs, c' = { c with hold := hs ++ c.hold }
theorem Ext.refl {c : Ct} : Ext c c := ⟨[], rfl⟩
theorem Ext.holding {c : Ct} {d : D} {v : V} : Ext c (c.holding d v) := ⟨[(d, v)], rfl⟩
theorem Ext.trans {c c1 c2 : Ct} (a : Ext c c1) (b : Ext c1 c2) : Ext c c2 := by
  obtain ⟨hs, rfl⟩ := a
  obtain ⟨hs2, rfl⟩ := b
  exact ⟨hs2 ++ hs, by simp⟩
section
variable {K : PySem.W.Frag} {c c' : Ct} {σ : St} {δ δ' : Env'} {H H' : Hp} {W : WX}
theorem EnvR.back (e : EnvR K c' σ δ H) (x : Ext c c') : EnvR K c σ δ H := by
  obtain ⟨hs, rfl⟩ := x
  exact ⟨e.len, e.slot, e.inj, e.dom, e.keep, e.ioD, fun p hp => e.held p (List.mem_append_right _ hp), e.tab⟩
theorem RVX.back {r : RV} {v : V} (h : RVX K c' σ δ H r v) (x : Ext c c') : RVX K c σ δ H r v := by
  obtain ⟨hs, rfl⟩ := x
  refine ⟨?_, fun d a e1 e2 => (h.2 d a e1 e2).back (c := c.plus a) ⟨hs, rfl⟩⟩
  have h1 := h.1
  cases r with
  | own i => exact h1
  | val d n => cases n with
    | false => exact h1
    | true => exact h1
theorem ExtN {c c' : Ct} (x : Ext c c') : c'.N = c.N := by obtain ⟨hs, rfl⟩ := x; rfl
theorem PostS.fwd {r : SR} {D : Ends} (h : PostS K W c r D) (x : Ext c c') : PostS K W c' r D := by
  unfold PostS at h ⊢
  cases r with
  | nx δ => exact fun σ H e => h σ H (e.back x)
  | rt r δ => exact fun v σ H e y => h v σ H (e.back x) (y.back x)
  | bk δ => exact fun σ H e => h σ H (e.back x)
  | ct δ => exact fun σ H e => h σ H (e.back x)
  | er y δ => exact fun d σ H e z => h d σ H (e.back x) (by rw [ExtN x] at z; exact z)
  | bad => exact h
/-- an iterator yields the trees ds, one after another -/
structure Yields (K : PySem.W.Frag) (c : Ct) (J : It) (ds : List D) : Prop where
  go : ∀ i σ δ H, EnvR K c σ δ H → i < ds.length → J.go i H
  stop : ∀ σ δ H, EnvR K c σ δ H → J.stop ds.length H
  yld : ∀ i σ δ H x H' d, EnvR K c σ δ H → ds[i]? = some d → J.yld i H x H' → EnvR K c σ δ H' ∧ Keeps (fun _ => False) H H' ∧ (∀ a, Liv H a → Liv H' a) ∧ Rep K (Uni c.N (Own σ δ)) H' d x
/-! ### targets -/
abbrev FG := D → Env' → Option Env'
/-- σ' is σ but for the slots ts -/
def Tch (ts : List Nat) (σ σ' : St) : Prop := ∀ ws : List Nat, (∀ i ∈ ts, i ∈ ws) → L2.wipe σ' ws = L2.wipe σ ws
theorem wipe_get (σ : St) : ∀ (vs : List Nat) (j : Nat), (L2.wipe σ vs)[j]? = if j ∈ vs then (σ[j]?).map (fun _ => none) else σ[j]?
  | [], j => by simp [L2.wipe]
  | v :: vs, j => by
    unfold L2.wipe
    rw [List.getElem?_set, wipe_get σ vs j]
    by_cases h : v = j
    · subst h
      simp only [if_true, List.mem_cons, true_or, wipe_length]
      by_cases hv : v < σ.length
      · rw [if_pos hv, List.getElem?_eq_getElem hv]; rfl
      · rw [if_neg hv, List.getElem?_eq_none (by omega)]; rfl
    · rw [if_neg h]
      by_cases hj : j ∈ vs
      · rw [if_pos hj, if_pos (List.mem_cons_of_mem _ hj)]
      · rw [if_neg hj, if_neg (by simp only [List.mem_cons, not_or]; exact ⟨fun z => h z.symm, hj⟩)]
theorem Tch.set {σ : St} {i : Nat} {x : Option V} : Tch [i] σ (σ.set i x) := fun ws h => by
  refine List.ext_getElem? fun j => ?_
  rw [wipe_get, wipe_get]
  by_cases hj : j ∈ ws
  · rw [if_pos hj, if_pos hj, List.getElem?_set]
    split
    · rename_i e
      subst e
      split
      · rename_i hl; rw [List.getElem?_eq_getElem hl]; try rfl
      · rename_i hl; rw [List.getElem?_eq_none (by omega)]; try rfl
    · rfl
  · rw [if_neg hj, if_neg hj, List.getElem?_set_ne]
    rintro rfl
    exact hj (h _ (by simp))
theorem Tch.trans {ts us : List Nat} {σ σ1 σ2 : St} (a : Tch ts σ σ1) (b : Tch us σ1 σ2) : Tch (ts ++ us) σ σ2 := fun ws h => (b ws fun i hi => h i (List.mem_append_right _ hi)).trans (a ws fun i hi => h i (List.mem_append_left _ hi))
theorem Tch.refl {σ : St} : Tch [] σ σ := fun _ _ => rfl
def tG (K : PySem.W.Frag) (ts : List Nat) (a : FG) : TG := fun v σ H Q => ∃ c δ d δ', EnvR K c σ δ H ∧ Rep K (Uni c.N (Own σ δ)) H d v ∧ a d δ = some δ' ∧ ∀ σ', Tch ts σ σ' → EnvR K c σ' δ' H → Q σ' H
def tGs (K : PySem.W.Frag) (ts : List Nat) (a : List D → Env' → Option Env') : TGs := fun vs σ H Q => ∃ c δ ds δ', EnvR K c σ δ H ∧ Reps K (Uni c.N (Own σ δ)) H ds vs ∧ a ds δ = some δ' ∧ ∀ σ', Tch ts σ σ' → EnvR K c σ' δ' H → Q σ' H
abbrev DG (X : Cx) (ts : List Nat) (a : FG) (tg : Expr) : Prop := PG X tg (tG X.K ts a)
abbrev DGs (X : Cx) (ts : List Nat) (a : List D → Env' → Option Env') (tg : List Expr) : Prop := PGs X tg (tGs X.K ts a)
theorem pg_mono {X : Cx} {tg : Expr} {t t' : TG} (h : PG X tg t) (m : ∀ v σ H Q, t' v σ H Q → t v σ H Q) : PG X tg t' := ⟨fun pins s σ H v u Q I r q => h.run pins s σ H v u Q I r (m _ _ _ _ q)⟩
theorem pgs_mono {X : Cx} {tg : List Expr} {t t' : TGs} (h : PGs X tg t) (m : ∀ v σ H Q, t' v σ H Q → t v σ H Q) : PGs X tg t' := ⟨fun pins s σ H v u Q I r q => h.run pins s σ H v u Q I r (m _ _ _ _ q)⟩
def gSet (i : Nat) : FG := fun d δ => if i < δ.length then some (δ.set i (some (.sh, d))) else none
def gsNil : List D → Env' → Option Env' := fun ds δ => if ds.isEmpty then some δ else none
def gsCons (a : FG) (b : List D → Env' → Option Env') : List D → Env' → Option Env'
  | [], _ => none
  | d :: ds, δ => (a d δ).bind (b ds)
def gTupD (n : Nat) (b : List D → Env' → Option Env') : FG := fun d δ => match d with
  | .tup ds => if ds.length = n then b ds δ else none
  | _ => none
variable {X : Cx} {pos : Pos}
theorem dg_name {i : Nat} {x : Str} (hN : X.N.Nodup) (hi : X.N[i]? = some x) (hx : Loc X.env.scope x) (hf : X.fn x = true ∨ X.env.scope.names.lookup x = some .local) : DG X [i] (gSet i) (.Name x pos) := by
  refine pg_mono (pg_name hN hi hx hf) fun v σ H Q ⟨c, δ, d, δ', e, r, h, q⟩ => ?_
  unfold gSet at h
  split at h
  · rename_i hl
    cases h
    exact q _ Tch.set (e.set_sh hl r)
  · cases h
theorem dgs_nil : DGs X [] gsNil [] := by
  refine pgs_mono pgs_nil fun vs σ H Q ⟨c, δ, ds, δ', e, r, h, q⟩ => ?_
  unfold gsNil at h
  split at h
  · rename_i he
    cases h
    cases ds with
    | nil => simp only [Reps] at r; exact ⟨r, q _ Tch.refl e⟩
    | cons _ _ => simp at he
  · cases h
theorem Reps.hold {c : Ct} {σ : St} {δ : Env'} {H : Hp} (e : EnvR K c σ δ H) : ∀ {ds : List D} {vs : List V}, Reps K (Uni c.N (Own σ δ)) H ds vs → ∃ c', Ext c c' ∧ EnvR K c' σ δ H ∧ ∀ {σ2 : St} {δ2 : Env'} {H2 : Hp}, EnvR K c' σ2 δ2 H2 → Reps K (Uni c.N (Own σ2 δ2)) H2 ds vs
  | [], vs, r => ⟨c, .refl, e, fun _ => by simp only [Reps] at r ⊢; exact r⟩
  | d :: ds, vs, r => by
    simp only [Reps] at r
    obtain ⟨v, rest, rfl, r1, r2⟩ := r
    have e1 := e.holding (d := d) (v := v) r1
    obtain ⟨c', x, e2, k⟩ := Reps.hold (c := c.holding d v) e1 r2
    refine ⟨c', Ext.holding.trans x, e2, fun {σ2 δ2 H2} e3 => ?_⟩
    have e4 := e3.back x
    simp only [Reps]
    exact ⟨v, rest, rfl, e4.held (d, v) List.mem_cons_self, k e3⟩
theorem dgs_cons {e : Expr} {es : List Expr} {a : FG} {b : List D → Env' → Option Env'} {ts us : List Nat} (h1 : DG X ts a e) (h2 : DGs X us b es) (hs : (assignEach (e :: es) X.env).map (·.2) = assign e X.env :: (assignEach es X.env).map (·.2)) : DGs X (ts ++ us) (gsCons a b) (e :: es) := by
  refine pgs_mono (pgs_cons h1 h2 hs) fun vs σ H Q ⟨c, δ, ds, δ', e, r, h, q⟩ => ?_
  cases ds with
  | nil => cases h
  | cons d ds =>
    simp only [Reps] at r
    obtain ⟨v, rest, rfl, r1, r2⟩ := r
    obtain ⟨δ1, g1, g2⟩ := Option.bind_eq_some_iff.mp h
    obtain ⟨c', x, e', k⟩ := Reps.hold e r2
    refine ⟨v, rest, rfl, c', δ, d, δ1, e', by rw [ExtN x]; exact r1, g1, fun σ1 t1 e1 => ⟨c', δ1, ds, δ', e1, by rw [ExtN x]; exact k e1, g2, fun σ2 t2 e2 => q σ2 (t1.trans t2) (e2.back x)⟩⟩
theorem dg_tup {es : List Expr} {k : Nat} {b : List D → Env' → Option Env'} {n : Nat} {ts : List Nat} (hc : X.calm = true) (h : DGs X ts b es) (hn : (assignEach es X.env).length = n) (hst : (assignEach es X.env).findIdx? (·.1) = none) : DG X ts (gTupD n b) (.Tuple es k pos) := by
  refine pg_mono (pg_tup hc h hn hst) fun v σ H Q ⟨c, δ, d, δ', e, r, h, q⟩ => ?_
  unfold gTupD at h
  split at h
  · rename_i ds
    split at h
    · rename_i hl
      simp only [Rep] at r
      obtain ⟨a, vs, rfl, r1, r2⟩ := r
      exact ⟨a, vs, rfl, r1.sq, by rw [r2.length]; exact hl, c, δ, ds, δ', e, r2, h, q⟩
    · cases h
  · cases h
end
/-! ### what is walked -/
def tI (K : PySem.W.Frag) (W : WX) (f : M (List D)) : TI := fun σ H R => ∃ c δ, EnvR K c σ δ H ∧ match f δ with
  | .ok ds δ' => ∀ J c' H', Ext c c' → EnvR K c' σ δ' H' → Stp σ δ H δ' H' → (∀ c'' : Ct, (∀ p ∈ c'.hold, p ∈ c''.hold) → Yields K c'' J ds) → R J H'
  | .err x δ' => ∀ d H', EnvR K c σ δ' H' → Stp σ δ H δ' H' → ExcR K (Uni c.N (Own σ δ')) H' x.fs d → W (.ref x.C) d σ H'
  | .bad => False
abbrev DI (X : Cx) (W : WX) (tg : Expr) (f : M (List D)) (iter : Expr) : Prop := PI X tg iter (tI X.K W f)
theorem pi_mono {X : Cx} {tg e : Expr} {t t' : TI} (h : PI X tg e t) (m : ∀ σ H R, t' σ H R → t σ H R) : PI X tg e t' := ⟨fun pins s σ H R I q => h.run pins s σ H R I (m _ _ _ q)⟩
theorem pi_or {X : Cx} {tg e : Expr} {t t' : TI} (h : PI X tg e t) (h' : PI X tg e t') : PI X tg e (fun σ H R => t σ H R ∨ t' σ H R) := ⟨fun pins s σ H R I q => q.elim (h.run pins s σ H R I) (h'.run pins s σ H R I)⟩
def signs (s : Str) : List D := s.cps.toList.map fun c => .str ⟨#[c]⟩
def iterD : D → Option (List D)
  | .lst ds => some ds
  | .tup ds => some ds
  | .str s => some (signs s)
  | _ => none
/-- a value is given away, what is walked is the tree's items -/
def iSeq (f : FE) : M (List D) := bnd f fun r δ => match give δ r with
  | some (d, δ') => match iterD d with
    | some ds => .ok ds δ'
    | none => .bad
  | none => .bad
section
variable {K : PySem.W.Frag} {c : Ct} {σ : St} {δ δ' : Env'} {H H' : Hp} {W : WX}
theorem yields_list {a : Addr} {ds : List D} {v : V} (hc : (D.lst ds, V.ref a) ∈ c.hold) : Yields K c (Itl K a) ds := by
  have look : ∀ {σ δ H}, EnvR K c σ δ H → ∃ vs, H a = some (.lst vs) ∧ Reps K (Uni c.N (Own σ δ)) H ds vs := fun {σ δ H} e => by
    have h := e.held _ hc
    simp only [Rep] at h
    obtain ⟨b, vs, eb, ⟨_, r⟩, q⟩ := h
    cases eb
    exact ⟨vs, r, q⟩
  refine ⟨fun i σ δ H e hi => ?_, fun σ δ H e => ?_, fun i σ δ H x H' d e hd hy => ?_⟩
  · obtain ⟨vs, h, r⟩ := look e
    have hl := r.length
    exact ⟨vs, vs[i], SqL.of h, by simp⟩
  · obtain ⟨vs, h, r⟩ := look e
    exact ⟨vs, SqL.of h, by rw [r.length]; exact Nat.le_refl _⟩
  · obtain ⟨vs, h, r⟩ := look e
    obtain ⟨rfl, y⟩ := hy
    obtain ⟨v, h1, h2⟩ := r.get hd
    have := y vs (SqL.of h)
    rw [h1] at this
    cases this
    exact ⟨e, Keeps.refl, fun _ z => z, h2⟩
theorem yields_tup {a : Addr} {ds : List D} (hc : (D.tup ds, V.ref a) ∈ c.hold) : Yields K c (Itt K a) ds := by
  have look : ∀ {σ δ H}, EnvR K c σ δ H → ∃ vs, SqT K H a vs ∧ Reps K (Uni c.N (Own σ δ)) H ds vs := fun {σ δ H} e => by
    have h := e.held _ hc
    simp only [Rep] at h
    obtain ⟨b, vs, eb, r, q⟩ := h
    cases eb
    exact ⟨vs, r.sq, q⟩
  refine ⟨fun i σ δ H e hi => ?_, fun σ δ H e => ?_, fun i σ δ H x H' d e hd hy => ?_⟩
  · obtain ⟨vs, h, r⟩ := look e
    have hl := r.length
    exact ⟨vs, vs[i], h, by simp⟩
  · obtain ⟨vs, h, r⟩ := look e
    exact ⟨vs, h, by rw [r.length]; exact Nat.le_refl _⟩
  · obtain ⟨vs, h, r⟩ := look e
    obtain ⟨rfl, y⟩ := hy
    obtain ⟨v, h1, h2⟩ := r.get hd
    have := y vs h
    rw [h1] at this
    cases this
    exact ⟨e, Keeps.refl, fun _ z => z, h2⟩
theorem yields_str {s : Str} : Yields K c (Its s) (signs s) := by
  have hl : (signs s).length = s.cps.size := by simp [signs]
  refine ⟨fun i σ δ H e hi => by rw [hl] at hi; exact hi, fun σ δ H e => by show s.cps.size ≤ (signs s).length; rw [hl]; exact Nat.le_refl _, fun i σ δ H x H' d e hd hy => ?_⟩
  obtain ⟨rfl, c', h1, rfl⟩ := hy
  refine ⟨e, Keeps.refl, fun _ z => z, ?_⟩
  simp only [signs, List.getElem?_map, Array.getElem?_toList, h1, Option.map_some, Option.some.injEq] at hd
  subst hd
  simp only [Rep]
end
section
variable {X : Cx} {W : WX} {tg e : Expr} {f : FE} {pos p : Pos}
theorem di_seq (he : DE X W f e) : DI X W tg (iSeq f) e := by
  have hl := pi_list (tg := tg) he
  have ht := pi_tup (tg := tg) he
  have hs := pi_str (tg := tg) he
  refine pi_mono (pi_or hl (pi_or ht hs)) fun σ H R ⟨c, δ, e, h⟩ => ?_
  -- which one it is, the trees say
  have key : (∃ ds, ∀ r δ1 d δ2, f δ = .ok r δ1 → give δ1 r = some (d, δ2) → d = .lst ds) ∨ (∃ ds, ∀ r δ1 d δ2, f δ = .ok r δ1 → give δ1 r = some (d, δ2) → d = .tup ds) ∨ ∃ s, ∀ r δ1 d δ2, f δ = .ok r δ1 → give δ1 r = some (d, δ2) → d = .str s := by
    have h' := h
    unfold iSeq bnd at h'
    cases hf : f δ with
    | bad => rw [hf] at h'; exact h'.elim
    | err x δ' => exact .inl ⟨[], fun r δ1 d δ2 q => nomatch q⟩
    | ok r δ1 =>
      rw [hf] at h'
      dsimp only at h'
      cases hg : give δ1 r with
      | none => rw [hg] at h'; exact h'.elim
      | some p =>
        obtain ⟨d, δ2⟩ := p
        rw [hg] at h'
        dsimp only at h'
        cases d with
        | lst ds => exact .inl ⟨ds, fun r' δ1' d δ2' q1 q2 => by cases q1; rw [hg] at q2; cases q2; rfl⟩
        | tup ds => exact .inr (.inl ⟨ds, fun r' δ1' d δ2' q1 q2 => by cases q1; rw [hg] at q2; cases q2; rfl⟩)
        | str s => exact .inr (.inr ⟨s, fun r' δ1' d δ2' q1 q2 => by cases q1; rw [hg] at q2; cases q2; rfl⟩)
        | _ => exact h'.elim
  have run : ∀ {Z : V → Hp → Prop}, (∀ v H1 d r δ1 δ2, f δ = .ok r δ1 → give δ1 r = some (d, δ2) → Rep X.K c.N H1 d v → (∀ J ds, iterD d = some ds → (∀ c'', (d, v) ∈ c''.hold → Yields X.K c'' J ds) → R J H1) → Z v H1) → Post X.K W (RVX X.K) c σ δ H (f δ) Z := fun {Z} hz => by
    unfold iSeq bnd at h
    unfold Post
    cases hf : f δ with
    | bad => rw [hf] at h; exact h
    | err x δ' => rw [hf] at h; exact h
    | ok r δ1 =>
      rw [hf] at h
      dsimp only at h
      intro v H1 e1 s1 x
      cases hg : give δ1 r with
      | none => rw [hg] at h; exact h.elim
      | some p =>
        obtain ⟨d, δ2⟩ := p
        rw [hg] at h
        dsimp only at h
        obtain ⟨e2, s2, rp⟩ := e1.give x.1 hg
        refine hz v H1 d r δ1 δ2 hf hg (rp.mono (S := fun _ => False) Keeps.refl (fun _ _ z => z.elim) fun b _ z => .inl z) fun J ds hd hy => ?_
        rw [hd] at h
        dsimp only at h
        exact h J (c.holding d v) H1 .holding (e2.holding rp) (s1.trans s2) (fun c'' hc => hy c'' (hc _ List.mem_cons_self))
  rcases key with ⟨ds, hk⟩ | ⟨ds, hk⟩ | ⟨s, hk⟩
  · refine .inl ⟨c, δ, e, run fun v H1 d r δ1 δ2 q1 q2 rp hR => ?_⟩
    have := hk r δ1 d δ2 q1 q2
    subst this
    have rp' := rp
    simp only [Rep] at rp'
    obtain ⟨a, vs, rfl, ⟨_, ha⟩, _⟩ := rp'
    exact ⟨a, rfl, ⟨vs, SqL.of ha⟩, hR _ ds rfl fun c'' hc => yields_list (v := .ref a) hc⟩
  · refine .inr (.inl ⟨c, δ, e, run fun v H1 d r δ1 δ2 q1 q2 rp hR => ?_⟩)
    have := hk r δ1 d δ2 q1 q2
    subst this
    have rp' := rp
    simp only [Rep] at rp'
    obtain ⟨a, vs, rfl, ha, _⟩ := rp'
    exact ⟨a, rfl, ⟨vs, ha.sq⟩, hR _ ds rfl fun c'' hc => yields_tup hc⟩
  · refine .inr (.inr ⟨c, δ, e, run fun v H1 d r δ1 δ2 q1 q2 rp hR => ?_⟩)
    have := hk r δ1 d δ2 q1 q2
    subst this
    have rp' := rp
    simp only [Rep] at rp'
    exact ⟨s, rp', hR _ _ rfl fun c'' hc => yields_str⟩
end
/-! ### for -/
def forD (a : FG) (body : FS) : List D → FS
  | [], δ => .nx δ
  | d :: ds, δ => match a d δ with
    | some δ1 => match body δ1 with
      | .nx δ2 => forD a body ds δ2
      | .ct δ2 => forD a body ds δ2
      | .bk δ2 => .nx δ2
      | r => r
    | none => .bad
def sFor (f : M (List D)) (a : FG) (body : FS) : FS := bndS f fun ds => forD a body ds
theorem ds_for {X : Cx} {W : WX} {tg iter : Expr} {body : List Stmt} {f : M (List D)} {a : FG} {g : FS} {ts : List Nat} {pos : Pos} (hp : PassesOwn (model X.prog X.w) X.A X.env X.xe) (hc : X.calm = true) (hi : DI X W tg f iter) (hg : DG X ts a tg) (hb : DSs X W g body)
    (hs : ∀ x, foldedSetIterable iter X.env x = pure x) : DS X W (sFor f a g) (.For tg iter body [] pos) := by
  refine ps_mono (ps_for hp hc hi hg hb hs) fun D σ H ⟨c, δ, e, h⟩ => ⟨c, δ, e, ?_⟩
  unfold sFor bndS at h
  cases hf : f δ with
  | bad => rw [hf] at h; exact h
  | err x δ' => rw [hf] at h; exact fun d H' e1 s1 r1 => h d σ H' e1 r1
  | ok ds δ' =>
    rw [hf] at h
    dsimp only at h ⊢
    intro J c' H1 xc e1 s1 y'
    have y := y' c' fun _ z => z
    refine ⟨fun i m σ H => m = ds.length - i ∧ i ≤ ds.length ∧ ∃ δ, EnvR X.K c' σ δ H ∧ PostS X.K W c' (forD a g (ds.drop i) δ) D, ⟨_, rfl, Nat.zero_le _, δ', e1, by simpa using h.fwd xc⟩, ?_⟩
    rintro i m σ2 H2 ⟨rfl, hi2, δ2, e2, q⟩
    by_cases hlt : i < ds.length
    · refine .inr ⟨y.go i σ2 δ2 H2 e2 hlt, fun σ H => ∃ δ, EnvR X.K c' σ δ H ∧ PostS X.K W c' (forD a g (ds.drop (i + 1)) δ) D, fun σ' H' ⟨δ3, e3, q3⟩ => ⟨ds.length - (i + 1), by omega, rfl, by omega, δ3, e3, q3⟩, fun x H' hy => ?_⟩
      obtain ⟨e3, _, _, r3⟩ := y.yld i σ2 δ2 H2 x H' ds[i] e2 (by simp) hy
      rw [List.drop_eq_getElem_cons hlt] at q
      unfold forD at q
      cases ha : a ds[i] δ2 with
      | none => rw [ha] at q; exact q.elim
      | some δ4 =>
        rw [ha] at q
        dsimp only at q
        refine ⟨c', δ2, ds[i], δ4, e3, r3, ha, fun σ4 _ e4 => ⟨c', δ4, e4, ?_⟩⟩
        unfold PostS
        cases hgb : g δ4 with
        | nx δ5 => rw [hgb] at q; exact fun σ H e => ⟨δ5, e, q⟩
        | ct δ5 => rw [hgb] at q; exact fun σ H e => ⟨δ5, e, q⟩
        | bk δ5 => rw [hgb] at q; exact q
        | rt r δ5 => rw [hgb] at q; exact q
        | er x δ5 => rw [hgb] at q; exact q
        | bad => rw [hgb] at q; exact q
    · have hi3 : i = ds.length := by omega
      subst hi3
      refine .inl ⟨y.stop σ2 δ2 H2 e2, ?_⟩
      rw [List.drop_length] at q
      exact q σ2 H2 e2
end TM
set_option maxRecDepth 100000
set_option maxHeartbeats 4000000
/-! T11: list comprehensions -/
namespace TM
open PySem PySem.Spec PyProof.Rows L2
variable [Tbs]

def wipeE (δ : Env') : List Nat → Env'
  | [] => δ
  | v :: vs => (wipeE δ vs).set v none
theorem wipeE_get (δ : Env') : ∀ (vs : List Nat) (j : Nat), (wipeE δ vs)[j]? = if j ∈ vs then (δ[j]?).map (fun _ => none) else δ[j]?
  | [], j => by simp [wipeE]
  | v :: vs, j => by
    have hlen : ∀ vs : List Nat, (wipeE δ vs).length = δ.length := fun vs => by
      induction vs with
      | nil => rfl
      | cons v vs ih => unfold wipeE; rw [List.length_set]; exact ih
    unfold wipeE
    rw [List.getElem?_set, wipeE_get δ vs j]
    by_cases h : v = j
    · subst h
      simp only [if_true, List.mem_cons, true_or, hlen]
      by_cases hv : v < δ.length
      · rw [if_pos hv, List.getElem?_eq_getElem hv]; rfl
      · rw [if_neg hv, List.getElem?_eq_none (by omega)]; rfl
    · rw [if_neg h]
      by_cases hj : j ∈ vs
      · rw [if_pos hj, if_pos (List.mem_cons_of_mem _ hj)]
      · rw [if_neg hj, if_neg (by simp only [List.mem_cons, not_or]; exact ⟨fun z => h z.symm, hj⟩)]
theorem wipeE_len (δ : Env') (vs : List Nat) : (wipeE δ vs).length = δ.length := by
  induction vs with
  | nil => rfl
  | cons v vs ih => unfold wipeE; rw [List.length_set]; exact ih
theorem wipeE_some {δ : Env'} {vs : List Nat} {j : Nat} {x : SK × D} (h : (wipeE δ vs)[j]? = some (some x)) : j ∉ vs ∧ δ[j]? = some (some x) := by
  rw [wipeE_get] at h
  by_cases hj : j ∈ vs
  · rw [if_pos hj] at h
    cases e : δ[j]? with
    | none => rw [e] at h; cases h
    | some y => rw [e] at h; cases h
  · rw [if_neg hj] at h; exact ⟨hj, h⟩
/-- the slots of the block's names, put back as they were -/
def restore (vs : List Nat) (δ1 δ2 : Env') : Env' := δ2.mapIdx fun j x => if j ∈ vs then (δ1[j]?).getD none else x
theorem restore_get (vs : List Nat) (δ1 δ2 : Env') (j : Nat) : (restore vs δ1 δ2)[j]? = if j ∈ vs then (δ2[j]?).map (fun _ => (δ1[j]?).getD none) else δ2[j]? := by
  unfold restore
  rw [List.getElem?_mapIdx]
  by_cases h : j ∈ vs
  · rw [if_pos h]; simp [h]
  · rw [if_neg h]; simp [h]
def okSlots (vs : List Nat) (δ : Env') : Bool := vs.all fun v => match δ[v]? with
  | some none => true
  | some (some (.sh, _)) => true
  | _ => false
def lcD (a : FG) (t : FT) (f : FE) (vs : List Nat) : List D → List D → M (List D)
  | [], acc => ret' acc
  | d :: ds, acc => fun δ => match a d δ with
    | some δ1 => bnd t (fun b => if b then bnd f (fun r δ3 => match give δ3 r with
        | some (x, δ4) => if acc.length < SZ then lcD a t f vs ds (acc ++ [x]) (wipeE δ4 vs) else .bad
        | none => .bad)
      else fun δ2 => lcD a t f vs ds acc (wipeE δ2 vs)) δ1
    | none => .bad
def eLc (src : M (List D)) (a : FG) (t : FT) (f : FE) (vs : List Nat) : FE := bnd src fun ds δ1 => if okSlots vs δ1 then
    match lcD a t f vs ds [] (wipeE δ1 vs) with
    | .ok acc δ2 => .ok (.val (.lst acc) true) (restore vs δ1 δ2)
    | _ => .bad
  else .bad
abbrev DTs (X : Cx) (W : WX) (f : FT) (ifs : List Expr) : Prop := PTs X ifs (tT X.K W f)
theorem dts_nil {X : Cx} {W : WX} : DTs X W (ret' true) [] := ⟨fun pins s σ H Q I ⟨c, δ, e, h⟩ => pts_nil.run pins s σ H Q I (h true H e .refl rfl)⟩
theorem dts_one {X : Cx} {W : WX} {f : FT} {e : Expr} (h : DT X W f e) : DTs X W f [e] := pts_one h
section
variable {K : PySem.W.Frag} {c : Ct} {σ σ' : St} {δ δ' : Env'} {H H' : Hp} {vs : List Nat}
/-- the block's names forgotten -/
theorem EnvR.wipe (e : EnvR K c σ δ H) (h : L2.wipe σ vs = L2.wipe σ' vs) : EnvR K c (L2.wipe σ' vs) (wipeE δ vs) H ∧ (∀ a, Own (L2.wipe σ' vs) (wipeE δ vs) a → Own σ δ a) := by
  have at_ : ∀ {j : Nat} {x : SK × D}, (wipeE δ vs)[j]? = some (some x) → δ[j]? = some (some x) ∧ (L2.wipe σ' vs)[j]? = σ[j]? := fun {j x} hj => by
    obtain ⟨h1, h2⟩ := wipeE_some hj
    refine ⟨h2, ?_⟩
    rw [← h, wipe_get, if_neg h1]
  have own : ∀ a, Own (L2.wipe σ' vs) (wipeE δ vs) a → Own σ δ a := by
    rintro a ⟨j, k, d, h1, h2, h3⟩
    obtain ⟨g1, g2⟩ := at_ h1
    rw [g2] at h3
    exact ⟨j, k, d, g1, h2, h3⟩
  have sub : ∀ b, Liv H b → Uni c.N (Own (L2.wipe σ' vs) (wipeE δ vs)) b → Uni c.N (Own σ δ) b := fun b _ z => z.imp id (own b)
  refine ⟨⟨by rw [wipeE_len, ← h, wipe_length]; exact e.len, fun j k d hj => ?_, fun i j k k' d d' a e1 e2 e3 e4 e5 e6 => ?_, e.dom, e.keep, e.ioD, fun p hp => (e.held p hp).mono (S := fun _ => False) Keeps.refl (fun _ _ z => z.elim) sub, e.tab⟩, own⟩
  · obtain ⟨g1, g2⟩ := at_ hj
    obtain ⟨v, hv, q⟩ := e.slot j k d g1
    refine ⟨v, by rw [g2]; exact hv, ?_⟩
    cases k with
    | sh => exact Rep.mono (S := fun _ => False) Keeps.refl (fun _ _ z => z.elim) sub q
    | ow => obtain ⟨b, q1, q2, q3, q4⟩ := q; exact ⟨b, q1, q2, q3, q4.mono (S := fun _ => False) Keeps.refl (fun _ _ z => z.elim) sub fun _ z => z⟩
    | io => obtain ⟨b, q1, q2, q3, q4⟩ := q; exact ⟨b, q1, q2, q3, q4.mono (S := fun _ => False) Keeps.refl (fun _ _ z => z.elim) sub fun _ z => z⟩
  · obtain ⟨g1, g2⟩ := at_ e1
    obtain ⟨g3, g4⟩ := at_ e2
    rw [g2] at e5
    rw [g4] at e6
    exact e.inj i j k k' d d' a g1 g3 e3 e4 e5 e6
/-- behind the block: the names that it had are as they were -/
theorem EnvR.restored {δ1 δ2 : Env'} (e : EnvR K c (L2.wipe σ vs) δ2 H) (hl : δ1.length = σ.length) (hok : okSlots vs δ1 = true) (hh : ∀ v ∈ vs, ∀ d, δ1[v]? = some (some (.sh, d)) → ∃ u, σ[v]? = some (some u) ∧ (d, u) ∈ c.hold) :
    EnvR K c σ (restore vs δ1 δ2) H ∧ (∀ a, Own σ (restore vs δ1 δ2) a → Own (L2.wipe σ vs) δ2 a) := by
  have len2 : δ2.length = σ.length := by have := e.len; rw [wipe_length] at this; exact this
  have at_ : ∀ {j : Nat} {k : SK} {d : D}, (restore vs δ1 δ2)[j]? = some (some (k, d)) → (j ∈ vs ∧ k = .sh ∧ δ1[j]? = some (some (.sh, d))) ∨ (j ∉ vs ∧ δ2[j]? = some (some (k, d)) ∧ (L2.wipe σ vs)[j]? = σ[j]?) := fun {j k d} hj => by
    rw [restore_get] at hj
    by_cases hv : j ∈ vs
    · rw [if_pos hv] at hj
      have h1 := List.all_eq_true.mp hok j hv
      cases q : δ2[j]? with
      | none => rw [q] at hj; cases hj
      | some y =>
        rw [q] at hj
        cases q1 : δ1[j]? with
        | none => rw [q1] at hj; cases hj
        | some z =>
          rw [q1] at hj h1
          simp only [Option.map_some, Option.getD_some, Option.some.injEq] at hj
          subst hj
          cases k with
          | sh => exact .inl ⟨hv, rfl, rfl⟩
          | ow => cases h1
          | io => cases h1
    · rw [if_neg hv] at hj
      exact .inr ⟨hv, hj, by rw [wipe_get, if_neg hv]⟩
  have own : ∀ a, Own σ (restore vs δ1 δ2) a → Own (L2.wipe σ vs) δ2 a := by
    rintro a ⟨j, k, d, h1, h2, h3⟩
    rcases at_ h1 with ⟨_, rfl, _⟩ | ⟨g1, g2, g3⟩
    · exact absurd rfl h2
    · exact ⟨j, k, d, g2, h2, by rw [g3]; exact h3⟩
  have sub : ∀ b, Liv H b → Uni c.N (Own σ (restore vs δ1 δ2)) b → Uni c.N (Own (L2.wipe σ vs) δ2) b := fun b _ z => z.imp id (own b)
  have rlen : (restore vs δ1 δ2).length = δ2.length := by unfold restore; rw [List.length_mapIdx]
  refine ⟨⟨by rw [rlen, len2], fun j k d hj => ?_, fun i j k k' d d' a e1 e2 e3 e4 e5 e6 => ?_, e.dom, e.keep, e.ioD, fun p hp => (e.held p hp).mono (S := fun _ => False) Keeps.refl (fun _ _ z => z.elim) sub, e.tab⟩, own⟩
  · rcases at_ hj with ⟨g0, rfl, g1⟩ | ⟨g1, g2, g3⟩
    · obtain ⟨u, hu, hm⟩ := hh j g0 d g1
      exact ⟨u, hu, (e.held _ hm).mono (S := fun _ => False) Keeps.refl (fun _ _ z => z.elim) sub⟩
    · obtain ⟨v, hv, q⟩ := e.slot j k d g2
      refine ⟨v, by rw [← g3]; exact hv, ?_⟩
      cases k with
      | sh => exact Rep.mono (S := fun _ => False) Keeps.refl (fun _ _ z => z.elim) sub q
      | ow => obtain ⟨b, q1, q2, q3, q4⟩ := q; exact ⟨b, q1, q2, q3, q4.mono (S := fun _ => False) Keeps.refl (fun _ _ z => z.elim) sub fun _ z => z⟩
      | io => obtain ⟨b, q1, q2, q3, q4⟩ := q; exact ⟨b, q1, q2, q3, q4.mono (S := fun _ => False) Keeps.refl (fun _ _ z => z.elim) sub fun _ z => z⟩
  · rcases at_ e1 with ⟨_, rfl, _⟩ | ⟨_, g1, g2⟩
    · exact absurd rfl e3
    · rcases at_ e2 with ⟨_, rfl, _⟩ | ⟨_, g3, g4⟩
      · exact absurd rfl e4
      · exact e.inj i j k k' d d' a g1 g3 e3 e4 (by rw [g2]; exact e5) (by rw [g4]; exact e6)
/-- an object that lies apart is written -/
theorem EnvR.poke {o : HO} [Fix o] {a : Addr} (e : EnvR K c σ δ H) (ha : c.N a) (hHe : ¬ Liv c.He a) {u : HO} (hu : H a = some u) [Plain u] : EnvR K c σ δ (upd H a o) := by
  have k : Keeps (fun b => b = a) H (upd H a o) := Keeps.put rfl hu
  have sub : ∀ b, Liv H b → (fun b => b = a) b → Uni c.N (Own σ δ) b := fun b _ z => .inl (by rw [show b = a from z]; exact ha)
  refine ⟨e.len, fun i k' d hi => ?_, e.inj, fun b z => upd_dom b (e.dom b z), e.keep.trans2 k (fun x hx z => absurd hx (by rw [show x = a from z]; exact hHe)), fun b z => ⟨upd_dom b (e.ioD b z).1, (e.ioD b z).2⟩, fun p hp => (e.held p hp).mono k sub (fun _ _ z => z), k.tab e.tab⟩
  · obtain ⟨v, hv, r⟩ := e.slot i k' d hi
    refine ⟨v, hv, ?_⟩
    cases k' with
    | sh => exact Rep.mono k sub (fun _ _ z => z) r
    | ow => obtain ⟨b, h1, h2, h3, h4⟩ := r; exact ⟨b, h1, h2, h3, h4.mono k sub (fun _ _ z => z) fun u hu _ => k b u hu fun z => h2 (by rw [show b = a from z]; exact ha)⟩
    | io => obtain ⟨b, h1, h2, h3, h4⟩ := r; exact ⟨b, h1, h2, h3, h4.mono k sub (fun _ _ z => z) fun u hu _ => k b u hu fun z => h2 (by rw [show b = a from z]; exact ha)⟩
/-- trees that are held with their values -/
def Holds (c : Ct) (ds : List D) (vs : List V) : Prop := vs.length = ds.length ∧ ∀ (i : Nat) d v, ds[i]? = some d → vs[i]? = some v → (d, v) ∈ c.hold
theorem Holds.reps {ds : List D} {us : List V} (h : Holds c ds us) (e : EnvR K c σ δ H) : Reps K (Uni c.N (Own σ δ)) H ds us := Reps.of_get h.1 fun i d v h1 h2 => e.held _ (h.2 i d v h1 h2)
theorem Holds.ext {c' : Ct} {ds : List D} {us : List V} (h : Holds c ds us) (x : Ext c c') : Holds c' ds us := by
  obtain ⟨hs, rfl⟩ := x
  exact ⟨h.1, fun i d v h1 h2 => List.mem_append_right _ (h.2 i d v h1 h2)⟩
theorem Holds.snoc {ds : List D} {us : List V} {d : D} {v : V} (h : Holds c ds us) : Holds (c.holding d v) (ds ++ [d]) (us ++ [v]) := by
  refine ⟨by simp [h.1], fun i x y h1 h2 => ?_⟩
  by_cases hi : i < ds.length
  · rw [List.getElem?_append_left hi] at h1
    rw [List.getElem?_append_left (by rw [h.1]; exact hi)] at h2
    exact List.mem_cons_of_mem _ (h.2 i x y h1 h2)
  · rw [List.getElem?_append_right (by omega)] at h1
    rw [List.getElem?_append_right (by rw [h.1]; omega), h.1] at h2
    have : i - ds.length = 0 := by
      cases q : i - ds.length with
      | zero => rfl
      | succ n => rw [q] at h1; simp at h1
    rw [this] at h1 h2
    simp at h1 h2
    subst h1 h2
    exact List.mem_cons_self
end
end TM
set_option maxRecDepth 100000
set_option maxHeartbeats 4000000
/-! T12: list comprehensions, the rule -/
namespace TM
open PySem PySem.Spec PyProof.Rows L2
variable [Tbs]

/-- a target stores shared values alone -/
def GoodG (a : FG) : Prop := ∀ d δ δ', a d δ = some δ' → (∀ (j : Nat) (k : SK) (x : D), δ'[j]? = some (some (k, x)) → k ≠ .sh → δ[j]? = some (some (k, x))) ∧ ∀ (j : Nat) (y : SK × D), δ[j]? = some (some y) → ∃ z, δ'[j]? = some (some z)
def GoodGs (a : List D → Env' → Option Env') : Prop := ∀ d δ δ', a d δ = some δ' → (∀ (j : Nat) (k : SK) (x : D), δ'[j]? = some (some (k, x)) → k ≠ .sh → δ[j]? = some (some (k, x))) ∧ ∀ (j : Nat) (y : SK × D), δ[j]? = some (some y) → ∃ z, δ'[j]? = some (some z)
theorem good_set {i : Nat} : GoodG (gSet i) := fun d δ δ' h => by
  unfold gSet at h
  split at h
  · rename_i hi
    cases h
    refine ⟨fun j k x e n => ?_, fun j y e => ?_⟩
    · rcases getElem?_set_some e with ⟨_, e2, _⟩ | ⟨_, e2⟩
      · cases Option.some.inj e2; exact absurd rfl n
      · exact e2
    · by_cases hj : i = j
      · subst hj; exact ⟨_, List.getElem?_set_self hi⟩
      · exact ⟨y, by rw [List.getElem?_set_ne hj]; exact e⟩
  · cases h
theorem good_nil : GoodGs gsNil := fun d δ δ' h => by
  unfold gsNil at h
  split at h
  · cases h; exact ⟨fun j k x e _ => e, fun j y e => ⟨y, e⟩⟩
  · cases h
theorem good_cons {a : FG} {b : List D → Env' → Option Env'} (ha : GoodG a) (hb : GoodGs b) : GoodGs (gsCons a b) := fun d δ δ' h => by
  cases d with
  | nil => cases h
  | cons d ds =>
    obtain ⟨δ1, g1, g2⟩ := Option.bind_eq_some_iff.mp h
    obtain ⟨p1, p2⟩ := ha _ _ _ g1
    obtain ⟨q1, q2⟩ := hb _ _ _ g2
    exact ⟨fun j k x e n => p1 j k x (q1 j k x e n) n, fun j y e => by obtain ⟨z, e2⟩ := p2 j y e; exact q2 j z e2⟩
theorem good_tup {n : Nat} {b : List D → Env' → Option Env'} (hb : GoodGs b) : GoodG (gTupD n b) := fun d δ δ' h => by
  unfold gTupD at h
  split at h
  · split at h
    · exact hb _ _ _ h
    · cases h
  · cases h
theorem wipe_wipe (σ : St) (vs : List Nat) : L2.wipe (L2.wipe σ vs) vs = L2.wipe σ vs := by
  refine List.ext_getElem? fun j => ?_
  rw [wipe_get, wipe_get]
  by_cases h : j ∈ vs
  · rw [if_pos h, if_pos h]; cases σ[j]? <;> rfl
  · rw [if_neg h, if_neg h]
section
variable {K : PySem.W.Frag} {c : Ct} {σ : St} {δ : Env'} {H : Hp}
theorem hold_saved : ∀ (vs : List Nat) {c : Ct}, EnvR K c σ δ H → ∃ c1, Ext c c1 ∧ EnvR K c1 σ δ H ∧ ∀ v ∈ vs, ∀ d, δ[v]? = some (some (.sh, d)) → ∃ u, σ[v]? = some (some u) ∧ (d, u) ∈ c1.hold
  | [], c, e => ⟨c, .refl, e, fun v hv => nomatch hv⟩
  | v :: vs, c, e => by
    by_cases h : ∃ d, δ[v]? = some (some (SK.sh, d))
    · obtain ⟨d, hd⟩ := h
      obtain ⟨u, hu, r⟩ := e.slot v .sh d hd
      obtain ⟨c1, x, e1, k⟩ := hold_saved vs (e.holding (d := d) (v := u) r)
      refine ⟨c1, Ext.holding.trans x, e1, fun w hw d' hd' => ?_⟩
      rcases List.mem_cons.mp hw with rfl | hw
      · rw [hd] at hd'
        cases hd'
        obtain ⟨hs, rfl⟩ := x
        exact ⟨u, hu, List.mem_append_right _ List.mem_cons_self⟩
      · exact k w hw d' hd'
    · obtain ⟨c1, x, e1, k⟩ := hold_saved vs e
      refine ⟨c1, x, e1, fun w hw d' hd' => ?_⟩
      rcases List.mem_cons.mp hw with rfl | hw
      · exact absurd ⟨d', hd'⟩ h
      · exact k w hw d' hd'
abbrev WF : WX := fun _ _ _ _ => False
theorem Ext.plus {c c' : Ct} {a : Addr} (x : Ext c c') : Ext (c.plus a) (c'.plus a) := by obtain ⟨hs, rfl⟩ := x; exact ⟨hs, rfl⟩
theorem Ext.sub {c c' : Ct} (x : Ext c c') : ∀ p ∈ c.hold, p ∈ c'.hold := by obtain ⟨hs, rfl⟩ := x; exact fun p hp => List.mem_append_right _ hp
theorem lc_tree {W : WX} {src : M (List D)} {a : FG} {t : FT} {f : FE} {vs ts : List Nat} {Q : VK} (hts : ∀ i ∈ ts, i ∈ vs) (ga : GoodG a) (h : tE K W (eLc src a t f vs) σ H Q) : tLc (tI K W src) (tG K ts a) (tT K WF t) (tE K WF f) vs σ H Q := by
  obtain ⟨c, δ, e, h⟩ := h
  refine ⟨c, δ, e, ?_⟩
  unfold eLc bnd at h
  cases hsrc : src δ with
  | bad => rw [hsrc] at h; exact h
  | err x δ' => rw [hsrc] at h; exact h
  | ok ds δ1 =>
    rw [hsrc] at h
    dsimp only at h ⊢
    intro J c' H1 xc e1 s1 y
    intro Dn hDn
    by_cases hok : okSlots vs δ1 = true
    case neg => rw [if_neg hok] at h; exact h.elim
    rw [if_pos hok] at h
    cases hl : lcD a t f vs ds [] (wipeE δ1 vs) with
    | bad => rw [hl] at h; exact h.elim
    | err x δ' => rw [hl] at h; exact h.elim
    | ok accR δ2 =>
      rw [hl] at h
      dsimp only at h
      obtain ⟨c1, x1, e11, sv⟩ := hold_saved vs e1
      obtain ⟨f1, f2, f3⟩ := e11.new_free hDn
      have ep : EnvR K (c1.plus Dn) σ δ1 (upd H1 Dn (.lst [])) := e11.plus (Keeps.up hDn) upd_dom (fun z => z.no hDn) (Liv.of upd_same)
      have He1 : ¬ Liv (c1.plus Dn).He Dn := f2
      -- what holds between two turns
      let Z : List D → Hp → Prop := fun rest H => ∃ c2 δw acc us, Ext (c1.plus Dn) c2 ∧ EnvR K c2 (L2.wipe σ vs) δw H ∧ Holds c2 acc us ∧ H Dn = some (.lst us) ∧ lcD a t f vs rest acc δw = .ok accR δ2 ∧
        Keeps (Own σ δ1) H1 H ∧ (∀ b, Own (L2.wipe σ vs) δw b → Own σ δ1 b) ∧ (∀ b, Liv H1 b → Liv H b) ∧ ∀ (j : Nat) (x : SK × D), (wipeE δ1 vs)[j]? = some (some x) → ∃ z, δw[j]? = some (some z)
      refine ⟨fun i m H => m = ds.length - i ∧ i ≤ ds.length ∧ Z (ds.drop i) H, ⟨_, rfl, Nat.zero_le _, ?_⟩, ?_⟩
      · obtain ⟨w1, w2⟩ := ep.wipe (vs := vs) (σ' := σ) rfl
        exact ⟨c1.plus Dn, _, [], [], .refl, w1, ⟨rfl, fun i d v h => by simp at h⟩, upd_same, by simpa using hl, Keeps.up hDn, w2, upd_dom, fun j x hj => ⟨x, hj⟩⟩
      rintro i m H2 ⟨rfl, hi, c2, δw, acc, us, xc2, e2, hold, hD, hlc, kp, ow, dm, shp⟩
      have hN : c2.N Dn := by rw [ExtN xc2]; exact .inr rfl
      have hHe : ¬ Liv c2.He Dn := by obtain ⟨hs, rfl⟩ := xc2; exact He1
      have subh : ∀ p ∈ c'.hold, p ∈ c2.hold := fun p hp => xc2.sub p (x1.sub p hp)
      have y2 := y c2 subh
      by_cases hlt : i < ds.length
      · refine .inr ⟨y2.go i _ δw H2 e2 hlt, Z (ds.drop (i + 1)), fun H' hz => ⟨ds.length - (i + 1), by omega, rfl, by omega, hz⟩, fun x H' hy => ?_⟩
        obtain ⟨e3, k3, d3, r3⟩ := y2.yld i _ δw H2 x H' ds[i] e2 (by simp) hy
        rw [List.drop_eq_getElem_cons hlt] at hlc
        unfold lcD at hlc
        cases ha : a ds[i] δw with
        | none => rw [ha] at hlc; cases hlc
        | some δ3 =>
          rw [ha] at hlc
          dsimp only at hlc
          obtain ⟨g1, g2⟩ := ga _ _ _ ha
          refine ⟨c2, δw, ds[i], δ3, e3, r3, ha, fun σ2 tch e4 => ⟨?_, c2, δ3, e4, ?_⟩⟩
          · rw [tch vs hts, wipe_wipe]
          have weq : L2.wipe σ2 vs = L2.wipe σ vs := by rw [tch vs hts, wipe_wipe]
          have ow3 : ∀ b, Own σ2 δ3 b → Own (L2.wipe σ vs) δw b := by
            rintro b ⟨j, k, x, h1, h2, h3⟩
            have h4 := g1 j k x h1 h2
            obtain ⟨u, hu, _⟩ := e2.slot j k x h4
            have hj : j ∉ vs := fun z => by
              rw [wipe_get, if_pos z] at hu
              cases q : σ[j]? with
              | none => rw [q] at hu; cases hu
              | some w => rw [q] at hu; cases hu
            refine ⟨j, k, x, h4, h2, ?_⟩
            rw [← weq, wipe_get, if_neg hj]
            exact h3
          have hD3 : H' Dn = some (.lst us) := k3 _ _ hD fun z => z
          have nO : ∀ {σ : St} {δ : Env'} {H : Hp}, EnvR K c2 σ δ H → ¬ Own σ δ Dn := fun e z => (e.own_there z).2 hN
          unfold bnd at hlc
          unfold Post
          cases ht : t δ3 with
          | bad => rw [ht] at hlc; cases hlc
          | err x' δ' => rw [ht] at hlc; cases hlc
          | ok b δ4 =>
            rw [ht] at hlc
            dsimp only at hlc
            intro b' H3 e5 s5 hb
            subst hb
            have kp3 : Keeps (Own σ δ1) H1 H3 := (kp.trans k3 fun _ z => z.elim).trans s5.keeps fun q z => ow q (ow3 q z)
            have dm3 : ∀ q, Liv H1 q → Liv H3 q := fun q hq => s5.dom q (d3 q (dm q hq))
            have hD5 : H3 Dn = some (.lst us) := s5.keeps _ _ hD3 (nO e4)
            cases b with
            | false =>
              rw [if_neg Bool.false_ne_true] at hlc ⊢
              obtain ⟨w1, w2⟩ := e5.wipe (vs := vs) (σ' := σ) weq
              refine ⟨c2, _, acc, us, xc2, w1, hold, hD5, hlc, kp3, fun q z => ow q (ow3 q (s5.own q (w2 q z))), dm3, fun j x' hj => ?_⟩
              obtain ⟨z1, hz1⟩ := shp j x' hj
              obtain ⟨z2, hz2⟩ := g2 j z1 hz1
              obtain ⟨z3, hz3⟩ := s5.shape j z2 hz2
              have hjv : j ∉ vs := (wipeE_some hj).1
              exact ⟨z3, by rw [wipeE_get, if_neg hjv]; exact hz3⟩
            | true =>
              rw [if_pos rfl] at hlc ⊢
              refine ⟨c2, δ4, e5, ?_⟩
              unfold Post
              cases hf : f δ4 with
              | bad => rw [hf] at hlc; cases hlc
              | err x' δ' => rw [hf] at hlc; cases hlc
              | ok r δ5 =>
                rw [hf] at hlc
                dsimp only at hlc
                intro yv H4 e6 s6 x6
                cases hgv : give δ5 r with
                | none => rw [hgv] at hlc; cases hlc
                | some p =>
                  obtain ⟨xd, δ6⟩ := p
                  rw [hgv] at hlc
                  dsimp only at hlc
                  split at hlc
                  case isFalse => cases hlc
                  rename_i hsz
                  obtain ⟨e7, s7, rp⟩ := e6.give x6.1 hgv
                  have hD6 : H4 Dn = some (.lst us) := s6.keeps _ _ hD5 (nO e5)
                  have e8 : EnvR K (c2.holding xd yv) σ2 δ6 H4 := e7.holding rp
                  have e9 := e8.poke (o := .lst (us ++ [yv])) (a := Dn) hN hHe hD6
                  obtain ⟨w1, w2⟩ := e9.wipe (vs := vs) (σ' := σ) weq
                  refine ⟨us, hD6, by rw [sz_eq, hold.1]; exact hsz, c2.holding xd yv, _, acc ++ [xd], us ++ [yv], xc2.trans .holding, w1, hold.snoc, upd_same, hlc, (kp3.trans s6.keeps fun q z => ow q (ow3 q (s5.own q z))).trans2 (Keeps.put (S := fun b => b = Dn) rfl hD6) (fun q hq z => (hq.no (by rw [show q = Dn from z]; exact hDn)).elim), fun q z => ow q (ow3 q (s5.own q (s6.own q (s7.own q (w2 q z))))), fun q hq => upd_dom q (s7.dom q (s6.dom q (dm3 q hq))), fun j x' hj => ?_⟩
                  · obtain ⟨z1, hz1⟩ := shp j x' hj
                    obtain ⟨z2, hz2⟩ := g2 j z1 hz1
                    obtain ⟨z3, hz3⟩ := s5.shape j z2 hz2
                    obtain ⟨z4, hz4⟩ := s6.shape j z3 hz3
                    obtain ⟨z5, hz5⟩ := s7.shape j z4 hz4
                    have hjv : j ∉ vs := (wipeE_some hj).1
                    exact ⟨z5, by rw [wipeE_get, if_neg hjv]; exact hz5⟩
      · have hi3 : i = ds.length := by omega
        subst hi3
        refine .inl ⟨y2.stop _ δw H2 e2, ?_⟩
        rw [List.drop_length] at hlc
        unfold lcD ret' at hlc
        cases hlc
        have sv2 : ∀ v ∈ vs, ∀ d, δ1[v]? = some (some (SK.sh, d)) → ∃ u, σ[v]? = some (some u) ∧ (d, u) ∈ c2.hold := fun v hv d hd => by
          obtain ⟨u, hu, hm⟩ := sv v hv d hd
          exact ⟨u, hu, xc2.sub _ hm⟩
        obtain ⟨er, ro⟩ := e2.restored e11.len hok sv2
        have ecp : EnvR K (c.plus Dn) σ (restore vs δ1 δ2) H2 := (er.back xc2).back (xc.trans x1).plus
        have ec : EnvR K c σ (restore vs δ1 δ2) H2 := ecp.unplus
        have fN : ¬ c.N Dn := by rw [← ExtN (xc.trans x1)]; exact f1
        have fHe : ¬ Liv c.He Dn := by obtain ⟨hs, rfl⟩ := xc.trans x1; exact f2
        refine h (.ref Dn) H2 ec (s1.trans ⟨kp, fun b z => ow b (ro b z), fun j x' hj => ?_, dm⟩) ⟨⟨Dn, rfl, fN, fHe, fun z => (er.own_there z).2 hN, us, hD, ?_⟩, fun d a' q1 q2 => ?_⟩
        · have hl2 : δ2.length = δ1.length := by have g1 := e2.len; have g2 := e11.len; rw [wipe_length] at g1; omega
          have hjl : j < δ1.length := (List.getElem?_eq_some_iff.mp hj).1
          by_cases hjv : j ∈ vs
          · refine ⟨x', ?_⟩
            rw [restore_get, if_pos hjv, hj, List.getElem?_eq_getElem (by omega)]
            rfl
          · obtain ⟨z, hz⟩ := shp j x' (by rw [wipeE_get, if_neg hjv]; exact hj)
            exact ⟨z, by rw [restore_get, if_neg hjv]; exact hz⟩
        · refine (hold.reps er).mono (S := fun _ => False) Keeps.refl (fun _ _ z => z.elim) fun b _ z => ?_
          have hN2 : c2.N = Uni c.N (fun b => b = Dn) := by rw [ExtN xc2]; show Uni c1.N _ = _; rw [ExtN (xc.trans x1)]
          rw [hN2]
          rcases z with (z | z) | z
          · exact .inl (.inl z)
          · exact .inr z
          · exact .inl (.inr z)
        · cases q1; cases q2
          exact ecp
end
section
variable {X : Cx} {W : WX} {elt tg iter : Expr} {ifs : List Expr} {scope : Scope} {own : List (Str × Nat)} {pos spos py : Pos} {src : M (List D)} {a : FG} {t : FT} {f : FE} {ts : List Nat}
theorem de_lc (hc : X.calm = true) (hN : X.N.Nodup) (hi : DI X W tg src iter) (ok : BlkOk X.N X.env.scope scope own) (hts : ∀ i ∈ ts, i ∈ own.map (·.2)) (ga : GoodG a)
    (hg : ∀ (s : Shared) (H : Hp) (C : Addr) (cl : List (Str × Addr)) (fp : List Addr), DG (X.blk s H scope (compEnvC scope cl C X.env) fp) ts a tg) (ht : ∀ (s : Shared) (H : Hp) (C : Addr) (cl : List (Str × Addr)) (fp : List Addr), DTs (X.blk s H scope (compEnvC scope cl C X.env) fp) WF t ifs)
    (he : ∀ (s : Shared) (H : Hp) (C : Addr) (cl : List (Str × Addr)) (fp : List Addr), DE (X.blk s H scope (compEnvC scope cl C X.env) fp) WF f elt) (hs : ∀ x, foldedSetIterable iter X.env x = pure x) :
    DE X W (eLc src a t f (own.map (·.2))) (.ListComp elt [⟨tg, iter, ifs, 0⟩] scope pos) := pe_mono (pe_lc hc hN hi ok hg ht he hs) fun σ H Q h => lc_tree hts ga h
theorem ds_setLc {i : Nat} {y : Str} (hc : X.calm = true) (hN : X.N.Nodup) (hy : X.N[i]? = some y) (hyl : X.env.scope.names.lookup y = some .local)
    (hsw : swapsWith (.ListComp elt [⟨tg, iter, ifs, 0⟩] scope pos) (some (.Name y py)) spos.line X.env = pure true) (hi : DI X W tg src iter) (ok : BlkOk X.N X.env.scope scope own) (hts : ∀ i ∈ ts, i ∈ own.map (·.2)) (ga : GoodG a)
    (hg : ∀ (s : Shared) (H : Hp) (C : Addr) (cl : List (Str × Addr)) (fp : List Addr), DG (X.blk s H scope (compEnvC scope cl C X.env) fp) ts a tg) (ht : ∀ (s : Shared) (H : Hp) (C : Addr) (cl : List (Str × Addr)) (fp : List Addr), DTs (X.blk s H scope (compEnvC scope cl C X.env) fp) WF t ifs)
    (he : ∀ (s : Shared) (H : Hp) (C : Addr) (cl : List (Str × Addr)) (fp : List Addr), DE (X.blk s H scope (compEnvC scope cl C X.env) fp) WF f elt) (hs : ∀ x, foldedSetIterable iter X.env x = pure x) :
    DS X W (sSet i (eLc src a t f (own.map (·.2)))) (.Assign [.Name y py] (.ListComp elt [⟨tg, iter, ifs, 0⟩] scope pos) spos) := by
  refine ps_mono (ps_setLc (wi := tI X.K W src) (g := tG X.K ts a) (tt := tT X.K WF t) (te := tE X.K WF f) hc hN hy hyl hsw hi ok hg ht he hs) fun D σ H ⟨c, δ, e, h⟩ => ?_
  refine lc_tree hts ga ⟨c, δ, e, (Post.bndS (R := RVX X.K) h).imp fun v H1 ⟨δ1, r, e1, s1, hr, h1⟩ => ?_⟩
  split at h1
  · rename_i δ2 hs
    exact h1 _ _ (e1.store hr hs)
  · exact h1.elim
end
end TM
set_option maxRecDepth 100000
set_option maxHeartbeats 4000000
/-! T13: items, slices, in, built-ins -/
namespace TM
open PySem PySem.Spec PyProof.Rows L2
variable [Tbs]

section
variable {K : PySem.W.Frag} {N M : Addr → Prop} {H : Hp}
theorem Reps.atI {ds : List D} {vs : List V} {i : Int} {d : D} (r : Reps K M H ds vs) (h : L2.atI ds i = some d) : ∃ v, L2.atI vs i = some v ∧ Rep K M H d v := by
  unfold L2.atI at h ⊢
  rw [r.length]
  obtain ⟨j, h1, h2⟩ := Option.bind_eq_some_iff.mp h
  obtain ⟨v, h3, h4⟩ := r.get h2
  exact ⟨v, by rw [h1]; exact h3, h4⟩
end
def dIdx : D → D → An
  | .lst ds, .int i => (atI ds i).map fun d => (d, false)
  | .tup ds, .int i => (atI ds i).map fun d => (d, false)
  | .str s, .int i => if s.length ≤ SZ then (atI s.cps.toList i).map fun c => (.str ⟨#[c]⟩, false) else none
  | _, _ => none
def rIdx (K : PySem.W.Frag) : R2 := rOr (rIxL K) (rOr (rIxT K) rIxS)
theorem ix_D {X : Cx} : IxR X (rIdx X.K) := ix_list.or (ix_tup.or ix_str)
theorem idx_g {K : PySem.W.Frag} : Op2D K (rIdx K) dIdx := by
  intro N M H x y u v hn hf hx hy
  unfold dIdx
  split
  · rename_i ds i
    cases e : atI ds i with
    | none => exact Gives.none
    | some d =>
      obtain ⟨a, vs, rfl, ⟨_, ha⟩, hr⟩ := hx.lst
      obtain ⟨w, h1, h2⟩ := hr.atI e
      exact gives_flat h2 fun Q q => .inl ⟨_, _, _, _, rfl, hy.int, SqL.of ha, h1, q⟩
  · rename_i ds i
    cases e : atI ds i with
    | none => exact Gives.none
    | some d =>
      obtain ⟨a, vs, rfl, ha, hr⟩ := hx.tup
      obtain ⟨w, h1, h2⟩ := hr.atI e
      exact gives_flat h2 fun Q q => .inr (.inl ⟨_, _, _, _, rfl, hy.int, ha.sq, h1, q⟩)
  · rename_i s i
    split
    · rename_i hz
      cases e : atI s.cps.toList i with
      | none => exact Gives.none
      | some c => exact gives_flat rStr fun Q q => .inr (.inr ⟨_, _, _, hx.str, hy.int, by rw [sz_eq]; exact hz, e, q⟩)
    · exact Gives.none
  · exact Gives.none
section
variable {X : Cx} {W : WX} {a b : Expr} {pos : Pos}
theorem de_ix {fa fb : FE} {r : R2} {g : D → D → An} (hr : IxR X r) (hg : Op2D X.K r g) (ha : DE X W fa a) (hb : DE X W fb b) (hs : PlainIx b) : DE X W (e2 g fa fb) (.Subscript a b pos) := by
  refine pe_mono (pe_ix hr ha hb hs) fun σ H Q ⟨c, δ, e, h⟩ => ?_
  refine ⟨c, δ, e, (Post.bnd (R := RVX X.K) h).imp fun u H1 ⟨δ1, ra, e1, s1, r1, h1⟩ => ⟨c, δ1, e1, (Post.bnd (R := RVX X.K) h1).imp fun v H2 ⟨δ2, rb, e2, s2, r2, h2⟩ => ?_⟩⟩
  split at h2
  · rename_i x y hx hy
    exact Post.fin e2 (hg _ _ _ _ _ _ _ (fun _ z => .inl z) e2.free ((r1.1.mono s2).see e2 hx) (r2.1.see e2 hy)) h2
  · exact h2.elim
end
/-! ### slices -/
abbrev FO := M (Option Int)
def tO (K : PySem.W.Frag) (W : WX) (f : FO) : TO := fun σ H Q => ∃ c δ, EnvR K c σ δ H ∧ Post K W (fun _ _ _ _ a b => a = b) c σ δ H (f δ) Q
abbrev DO (X : Cx) (W : WX) (f : FO) (e : Option Expr) : Prop := PO X e (tO X.K W f)
def oNone : FO := ret' none
def oSome (f : FE) : FO := bnd f fun r δ => match r.tree δ with
  | some (.int i) => .ok (some i) δ
  | _ => .bad
def cutL {α : Type} (xs : List α) (lo hi : Option Int) : List α := (xs.drop (HT.sIx xs.length 0 lo)).take (HT.sIx xs.length xs.length hi - HT.sIx xs.length 0 lo)
def dSl : D → Option Int → Option Int → An
  | .lst ds, lo, hi => some (.lst (cutL ds lo hi), true)
  | .fz ds, lo, hi => some (.lst (cutL ds lo hi), true)
  | .tup ds, lo, hi => some (.tup (cutL ds lo hi), false)
  | .str s, lo, hi => if s.length ≤ SZ then some (.str (cutS s lo hi), false) else none
  | _, _, _ => none
def rSlD (K : PySem.W.Frag) : V → Option Int → Option Int → Hp → VK → Prop := fun x lo hi H Q => rSlL K x lo hi H Q ∨ rSlA K x lo hi H Q ∨ rSlS x lo hi H Q
theorem sl_D {X : Cx} : SlR X (rSlD X.K) := sl_list.or (sl_tupA.or sl_str)
section
variable {K : PySem.W.Frag} {N M : Addr → Prop} {H : Hp}
theorem Reps.take {ds : List D} {vs : List V} (r : Reps K M H ds vs) (n : Nat) : Reps K M H (ds.take n) (vs.take n) := by
  refine Reps.of_get (by simp [r.length]) fun i d v h1 h2 => ?_
  rw [List.getElem?_take] at h1 h2
  split at h1
  · rename_i hi
    rw [if_pos hi] at h2
    obtain ⟨w, h3, h4⟩ := r.get h1
    rw [h2] at h3; cases h3; exact h4
  · cases h1
theorem Reps.drop {ds : List D} {vs : List V} (r : Reps K M H ds vs) (n : Nat) : Reps K M H (ds.drop n) (vs.drop n) := by
  refine Reps.of_get (by simp [r.length]) fun i d v h1 h2 => ?_
  rw [List.getElem?_drop] at h1 h2
  obtain ⟨w, h3, h4⟩ := r.get h1
  rw [h2] at h3; cases h3; exact h4
theorem Reps.cut {ds : List D} {vs : List V} (r : Reps K M H ds vs) (lo hi : Option Int) : Reps K M H (cutL ds lo hi) (cutV vs lo hi) := by
  unfold cutL cutV
  rw [r.length]
  exact (r.drop _).take _
theorem sl_g {lo hi : Option Int} {x : D} {u : V} (hn : ∀ a, N a → M a) (hf : ∀ p, H p = none → ¬ M p) (hx : Look K N M H x u) : Gives K (fun H Q => rSlD K u lo hi H Q) M H (dSl x lo hi) := by
  unfold dSl
  split
  · obtain ⟨a, vs, rfl, ⟨_, ha⟩, hr⟩ := hx.lst
    exact gives_list (hr.cut lo hi) fun Q q => .inl ⟨_, _, rfl, SqL.of ha, q⟩
  · obtain ⟨a, vs, rfl, ha, hr⟩ := hx.fz
    exact gives_list (hr.cut lo hi) fun Q q => .inl ⟨_, _, rfl, ha.sq, q⟩
  · rename_i ds
    obtain ⟨a, vs, rfl, ha, hr⟩ := hx.tup
    intro d new e Q q
    cases e
    refine .inr (.inl ⟨_, _, rfl, ha.sq, fun hw => q _ H Keeps.refl (fun _ z => z) ?_, fun hw p hp => q _ _ (Keeps.up hp) upd_dom (NewR.tup hp (hf p hp) (hr.cut lo hi))⟩)
    show Rep K M H (.tup (cutL ds lo hi)) (.ref a)
    have hz : cutL ds lo hi = ds := by
      unfold cutL
      rw [hr.length] at hw
      rw [hw.1, hw.2]
      simp
    rw [hz]
    simp only [Rep]
    exact ⟨a, vs, rfl, ha, hr⟩
  · split
    · rename_i hz
      exact gives_flat rStr fun Q q => .inr (.inr ⟨_, hx.str, by rw [sz_eq]; exact hz, q⟩)
    · exact Gives.none
  · exact Gives.none
end
def eSl (fa : FE) (fl fh : FO) : FE := bnd fa fun r => bnd fl fun l => bnd fh fun u δ => match r.tree δ with
  | some x => fin (dSl x l u) δ
  | none => .bad
section
variable {X : Cx} {W : WX} {a : Expr} {lo hi : Option Expr} {pos p2 : Pos} {fa : FE} {fl fh : FO}
theorem po_mono {o : Option Expr} {t t' : TO} (h : PO X o t) (m : ∀ σ H Q, t' σ H Q → t σ H Q) : PO X o t' := ⟨fun pins s σ H Q I q => h.run pins s σ H Q I (m _ _ _ q)⟩
theorem do_none : DO X W oNone none := po_mono po_none fun σ H Q ⟨c, δ, e, h⟩ => h none H e .refl rfl
theorem do_some (ha : DE X W fa a) : DO X W (oSome fa) (some a) := by
  refine po_mono (po_some ha) fun σ H Q ⟨c, δ, e, h⟩ => ⟨c, δ, e, (Post.bnd (R := RVX X.K) h).imp fun v H1 ⟨δ1, r, e1, s1, hr, h1⟩ => ?_⟩
  split at h1
  · rename_i i hi
    exact ⟨i, (hr.1.see e1 hi).int, h1 _ H1 e1 .refl rfl⟩
  · exact h1.elim
theorem de_sl (ha : DE X W fa a) (hl : DO X W fl lo) (hh : DO X W fh hi) : DE X W (eSl fa fl fh) (.Subscript a (.Slice lo hi none p2) pos) := by
  refine pe_mono (pe_slice sl_D ha hl hh) fun σ H Q ⟨c, δ, e, h⟩ => ⟨c, δ, e, (Post.bnd (R := RVX X.K) h).imp fun v H1 ⟨δ1, r, e1, s1, hr, h1⟩ => ⟨c, δ1, e1, (Post.bnd (R := fun _ _ _ _ a b => a = b) h1).imp fun l H2 ⟨δ2, l', e2, s2, hl', h2⟩ => ⟨c, δ2, e2, (Post.bnd (R := fun _ _ _ _ a b => a = b) h2).imp fun u H3 ⟨δ3, u', e3, s3, hu', h3⟩ => ?_⟩⟩⟩
  subst hl' hu'
  split at h3
  · rename_i x hx
    exact Post.fin e3 (sl_g (fun _ z => .inl z) e3.free (((hr.1.mono s2).mono s3).see e3 hx)) h3
  · exact h3.elim
end
/-! ### in -/
def dIn (neg : Bool) (x y : D) : An := match y with
  | .str t => match x with
    | .str s => some (.bl (if neg then !(!(Builtin.Str.occurrences t s 0 t.length 1).isEmpty) else !(Builtin.Str.occurrences t s 0 t.length 1).isEmpty), false)
    | _ => none
  | .lst ds => match shp x, shp (.lst ds) with
    | some p, some (.list ps) => some (.bl (if neg then !ps.any fun z => PyData.eqv z p else ps.any fun z => PyData.eqv z p), false)
    | _, _ => none
  | .tup ds => match shp x, shp (.tup ds) with
    | some p, some (.tuple ps) => some (.bl (if neg then !ps.any fun z => PyData.eqv z p else ps.any fun z => PyData.eqv z p), false)
    | _, _ => none
  | _ => none
def rInT (K : PySem.W.Frag) (neg : Bool) : R2 := fun x y H Q => ∃ d ds, Dp K H x d ∧ Dp K H y (.tuple ds) ∧ SeqAt.shaped d = true ∧ SeqAt.shaped (.tuple ds) = true ∧ Q (.bl (if neg then !ds.any fun z => PyData.eqv z d else ds.any fun z => PyData.eqv z d)) H
theorem room_tup {A : Around} {xs : List PyData} {d : PyData} (sd : SeqAt.shaped d = true) (hu : A.units + 65 < cLine) : A.units + 1 + min (PyData.depthAll xs) d.depth < cLine := by
  have h := SeqAt.depth_of_shaped sd
  have h2 : min (PyData.depthAll xs) d.depth ≤ d.depth := Nat.min_le_right _ _
  omega
theorem op_inT {X : Cx} (hu : X.A.units + 65 < cLine) : OpR X (compareOp .In) (rInT X.K false) := by
  intro pins s σ H x y v u Q I rx ry h
  obtain ⟨d, ds, hd, he, sd, se, q⟩ := h
  obtain ⟨as, r1⟩ := Dp.reads I d x v hd rx
  obtain ⟨bs, r2⟩ := Dp.reads I (.tuple ds) y u he ry
  exact SeqAt.in_tuple_reads r2 r1 (SeqAt.canLay_of_shaped se) (SeqAt.canLay_of_shaped sd) (room_tup sd hu) ⟨.bl _, H, I, rfl, q⟩
theorem op_notInT {X : Cx} (hu : X.A.units + 65 < cLine) : OpR X (compareOp .NotIn) (rInT X.K true) := by
  intro pins s σ H x y v u Q I rx ry h
  obtain ⟨d, ds, hd, he, sd, se, q⟩ := h
  obtain ⟨as, r1⟩ := Dp.reads I d x v hd rx
  obtain ⟨bs, r2⟩ := Dp.reads I (.tuple ds) y u he ry
  exact SeqAt.notIn_tuple_reads r2 r1 (SeqAt.canLay_of_shaped se) (SeqAt.canLay_of_shaped sd) (room_tup sd hu) ⟨.bl _, H, I, rfl, q⟩
def rInA (K : PySem.W.Frag) : R2 := rOr (fun x y H Q => ∃ i j, x = .str i ∧ y = .str j ∧ Q (.bl (!(Builtin.Str.occurrences j i 0 j.length 1).isEmpty)) H) (rOr (rInD K) (rInT K false))
def rNotInA (K : PySem.W.Frag) : R2 := rOr (fun x y H Q => ∃ i j, x = .str i ∧ y = .str j ∧ Q (.bl (!(!(Builtin.Str.occurrences j i 0 j.length 1).isEmpty))) H) (rOr (rNotInD K) (rInT K true))
theorem op_inA {X : Cx} (hu : X.A.units + 65 < cLine) : OpR X (compareOp .In) (rInA X.K) := op_in_str.or ((op_inD hu).or (op_inT hu))
theorem op_notInA {X : Cx} (hu : X.A.units + 65 < cLine) : OpR X (compareOp .NotIn) (rNotInA X.K) := L2.op_notin_str.or ((op_notInD hu).or (op_notInT hu))
theorem in_g {K : PySem.W.Frag} : Op2D K (rInA K) (dIn false) := by
  intro N M H x y u v hn hf hx hy
  unfold dIn
  split
  · split
    · exact gives_flat rBl fun Q q => .inl ⟨_, _, hx.str, hy.str, q⟩
    · exact Gives.none
  · split
    · rename_i p ps e1 e2
      obtain ⟨a1, a2⟩ := shp_ok e1
      obtain ⟨b1, b2⟩ := shp_ok e2
      exact gives_flat rBl fun Q q => .inr (.inl ⟨_, _, hx.dp a1, hy.dp b1, a2, b2, q⟩)
    · exact Gives.none
  · split
    · rename_i p ps e1 e2
      obtain ⟨a1, a2⟩ := shp_ok e1
      obtain ⟨b1, b2⟩ := shp_ok e2
      exact gives_flat rBl fun Q q => .inr (.inr ⟨_, _, hx.dp a1, hy.dp b1, a2, b2, q⟩)
    · exact Gives.none
  · exact Gives.none
theorem notIn_g {K : PySem.W.Frag} : Op2D K (rNotInA K) (dIn true) := by
  intro N M H x y u v hn hf hx hy
  unfold dIn
  split
  · split
    · exact gives_flat rBl fun Q q => .inl ⟨_, _, hx.str, hy.str, q⟩
    · exact Gives.none
  · split
    · rename_i p ps e1 e2
      obtain ⟨a1, a2⟩ := shp_ok e1
      obtain ⟨b1, b2⟩ := shp_ok e2
      exact gives_flat rBl fun Q q => .inr (.inl ⟨_, _, hx.dp a1, hy.dp b1, a2, b2, q⟩)
    · exact Gives.none
  · split
    · rename_i p ps e1 e2
      obtain ⟨a1, a2⟩ := shp_ok e1
      obtain ⟨b1, b2⟩ := shp_ok e2
      exact gives_flat rBl fun Q q => .inr (.inr ⟨_, _, hx.dp a1, hy.dp b1, a2, b2, q⟩)
    · exact Gives.none
  · exact Gives.none
/-! ### built-ins by values -/
section
variable {X : Cx} {W : WX} {a : Expr} {es : List Expr} {pos p : Pos} {fa : FA} {x : Str} {id T : String} {r : List V → Hp → VK → Prop} {g : List D → An}
theorem cb_t (hg : OpND X.K r g) {σ : St} {H : Hp} {Q : VK} (h : tE X.K W (eN g fa) σ H Q) : tA X.K W fa σ H fun vs H1 => r vs H1 Q := by
  obtain ⟨c, δ, e, h⟩ := h
  refine ⟨c, δ, e, (Post.bnd (R := RVs X.K) h).imp fun vs H1 ⟨δ1, rs, e1, s1, hr, h1⟩ => ?_⟩
  split at h1
  · rename_i xs hx
    exact Post.fin e1 (hg _ _ _ _ _ (fun _ z => .inl z) e1.free (looks_of e1 hr hx)) h1
  · exact h1.elim
theorem de_bi (hc : CallR X (.builtin id) r) (hgv : OpND X.K r g) (hg : Gl X x) (hm : X.mg x = none) (hv : bootBuiltins x = some (.builtin id)) (ha : DA X W fa (a :: es)) (hn : x ≠ "__name__") (hdb : (x == ("__debug__" : Str)) = false)
    (he : starEach (a :: es) X.env = (false, eval a X.env) :: starEach es X.env) (hpl : (backTo pos (starEach es X.env)).any (·.1) = false) : DE X W (eN g fa) (.Call (.Name x p) (a :: es) [] pos) :=
  pe_mono (pe_callB hc hg hm hv ha hn hdb he hpl) fun σ H Q h => cb_t hgv h
theorem de_ty (hc : CallR X (.type T) r) (hgv : OpND X.K r g) (hg : Gl X x) (hm : X.mg x = none) (hv : bootBuiltins x = some (.type T)) (ha : DA X W fa (a :: es)) (hn : x ≠ "__name__") (hdb : (x == ("__debug__" : Str)) = false)
    (he : starEach (a :: es) X.env = (false, eval a X.env) :: starEach es X.env) (hpl : (backTo pos (starEach es X.env)).any (·.1) = false) : DE X W (eN g fa) (.Call (.Name x p) (a :: es) [] pos) :=
  pe_mono (pe_callTy hc hg hm hv ha hn hdb he hpl) fun σ H Q h => cb_t hgv h
end
def dLen : List D → An
  | [.str s] => if s.length ≤ SZ then some (.int s.length, false) else none
  | [.lst ds] => some (.int ds.length, false)
  | [.tup ds] => some (.int ds.length, false)
  | _ => none
section
variable {K : PySem.W.Frag} {N M : Addr → Prop} {H : Hp}
theorem Looks'.one {d : D} {vs : List V} (h : Looks' K N M H [d] vs) : ∃ v, vs = [v] ∧ Look K N M H d v := by
  cases h with
  | cons h1 h2 => cases h2; exact ⟨_, rfl, h1⟩
theorem Looks'.two {d d' : D} {vs : List V} (h : Looks' K N M H [d, d'] vs) : ∃ v v', vs = [v, v'] ∧ Look K N M H d v ∧ Look K N M H d' v' := by
  cases h with
  | cons h1 h2 =>
    obtain ⟨v', rfl, h3⟩ := h2.one
    exact ⟨_, _, rfl, h1, h3⟩
end
theorem len_g {K : PySem.W.Frag} : OpND K (fun xs H Q => ∃ x n, xs = [x] ∧ LenV K x H n ∧ Q (.int n) H) dLen := by
  intro N M H xs us hn hf hx
  unfold dLen
  split
  · obtain ⟨v, rfl, h⟩ := hx.one
    split
    · rename_i hz
      exact gives_flat rInt fun Q q => ⟨_, _, rfl, by rw [h.str]; exact ⟨by rw [sz_eq]; exact hz, rfl⟩, q⟩
    · exact Gives.none
  · obtain ⟨v, rfl, h⟩ := hx.one
    obtain ⟨a, vs, rfl, ⟨_, ha⟩, hr⟩ := h.lst
    exact gives_flat rInt fun Q q => ⟨_, _, rfl, .inl ⟨vs, SqL.of ha, hr.length.symm⟩, q⟩
  · obtain ⟨v, rfl, h⟩ := hx.one
    obtain ⟨a, vs, rfl, ha, hr⟩ := h.tup
    exact gives_flat rInt fun Q q => ⟨_, _, rfl, .inr ⟨vs, ha.sq, hr.length.symm⟩, q⟩
  · exact Gives.none
def dAbs : List D → An
  | [.int i] => some (.int (if i < 0 then -i else i), false)
  | _ => none
theorem abs_g {K : PySem.W.Frag} : OpND K (fun xs H Q => ∃ i, xs = [.int i] ∧ Q (.int (if i < 0 then -i else i)) H) dAbs := by
  intro N M H xs us hn hf hx
  unfold dAbs
  split
  · obtain ⟨v, rfl, h⟩ := hx.one
    exact gives_flat rInt fun Q q => ⟨_, by rw [h.int], q⟩
  · exact Gives.none
def dMax2 : List D → An
  | [.int i, .int j] => some (.int (if j > i then j else i), false)
  | _ => none
theorem max2_g {K : PySem.W.Frag} : OpND K (fun xs H Q => ∃ i j, xs = [.int i, .int j] ∧ Q (.int (if j > i then j else i)) H) dMax2 := by
  intro N M H xs us hn hf hx
  unfold dMax2
  split
  · obtain ⟨v, v', rfl, h, h'⟩ := hx.two
    exact gives_flat rInt fun Q q => ⟨_, _, by rw [h.int, h'.int], q⟩
  · exact Gives.none
def dMin2 : List D → An
  | [.int i, .int j] => some (.int (if j < i then j else i), false)
  | _ => none
theorem min2_g {K : PySem.W.Frag} : OpND K (fun xs H Q => ∃ i j, xs = [.int i, .int j] ∧ Q (.int (if j < i then j else i)) H) dMin2 := by
  intro N M H xs us hn hf hx
  unfold dMin2
  split
  · obtain ⟨v, v', rfl, h, h'⟩ := hx.two
    exact gives_flat rInt fun Q q => ⟨_, _, by rw [h.int, h'.int], q⟩
  · exact Gives.none
def dInt : List D → An
  | [.int i] => some (.int i, false)
  | [.bl k] => some (.int (if k then 1 else 0), false)
  | _ => none
theorem int_g {K : PySem.W.Frag} : OpND K (fun xs H Q => (∃ i, xs = [.int i] ∧ Q (.int i) H) ∨ ∃ k, xs = [.bl k] ∧ Q (.int (if k then 1 else 0)) H) dInt := by
  intro N M H xs us hn hf hx
  unfold dInt
  split
  · obtain ⟨v, rfl, h⟩ := hx.one
    exact gives_flat rInt fun Q q => .inl ⟨_, by rw [h.int], q⟩
  · obtain ⟨v, rfl, h⟩ := hx.one
    exact gives_flat rInt fun Q q => .inr ⟨_, by rw [h.bl], q⟩
  · exact Gives.none
def dStr : List D → An
  | [.int i] => if i.natAbs.log2 < 1920 then some (.str (toString i), false) else none
  | _ => none
theorem str_g {K : PySem.W.Frag} : OpND K (fun xs H Q => ∃ i, xs = [.int i] ∧ i.natAbs.log2 < 1920 ∧ Q (.str (toString i)) H) dStr := by
  intro N M H xs us hn hf hx
  unfold dStr
  split
  · obtain ⟨v, rfl, h⟩ := hx.one
    split
    · rename_i hz
      exact gives_flat rStr fun Q q => ⟨_, by rw [h.int], hz, q⟩
    · exact Gives.none
  · exact Gives.none
def dList : List D → An
  | [.lst ds] => some (.lst ds, true)
  | [.tup ds] => some (.lst ds, true)
  | _ => none
theorem list_g {K : PySem.W.Frag} : OpND K (fun xs H Q => ∃ p ys, xs = [.ref p] ∧ (SqL K H p ys ∨ SqT K H p ys) ∧ ∀ l, H l = none → Q (.ref l) (upd H l (.lst ys))) dList := by
  intro N M H xs us hn hf hx
  unfold dList
  split
  · obtain ⟨v, rfl, h⟩ := hx.one
    obtain ⟨a, vs, rfl, ⟨_, ha⟩, hr⟩ := h.lst
    exact gives_list hr fun Q q => ⟨_, _, rfl, .inl (SqL.of ha), q⟩
  · obtain ⟨v, rfl, h⟩ := hx.one
    obtain ⟨a, vs, rfl, ha, hr⟩ := h.tup
    exact gives_list hr fun Q q => ⟨_, _, rfl, .inr ha.sq, q⟩
  · exact Gives.none
def dTuple : List D → An
  | [.lst ds] => some (.tup ds, false)
  | [.tup ds] => some (.tup ds, false)
  | _ => none
theorem tuple_g {K : PySem.W.Frag} : OpND K (fun xs H Q => ∃ p ys, xs = [.ref p] ∧ ((SqL K H p ys ∧ ∀ l, H l = none → Q (.ref l) (upd H l (.tup ys))) ∨ (SqT K H p ys ∧ Q (.ref p) H))) dTuple := by
  intro N M H xs us hn hf hx
  unfold dTuple
  split
  · obtain ⟨v, rfl, h⟩ := hx.one
    obtain ⟨a, vs, rfl, ⟨_, ha⟩, hr⟩ := h.lst
    exact gives_tup hf hr fun Q q => ⟨_, _, rfl, .inl ⟨SqL.of ha, q⟩⟩
  · rename_i ds
    obtain ⟨v, rfl, h⟩ := hx.one
    obtain ⟨a, vs, rfl, ha, hr⟩ := h.tup
    have rp : Rep K M H (.tup ds) (.ref a) := by simp only [Rep]; exact ⟨a, vs, rfl, ha, hr⟩
    exact gives_flat rp fun Q q => ⟨_, _, rfl, .inr ⟨ha.sq, q⟩⟩
  · exact Gives.none
/-- all trees are truths -/
def bools : List D → Option (List Bool)
  | [] => some []
  | .bl b :: ds => (bools ds).map (b :: ·)
  | _ :: _ => none
theorem Reps.bools {K : PySem.W.Frag} {M : Addr → Prop} {H : Hp} : ∀ {ds : List D} {vs : List V} {bs : List Bool}, Reps K M H ds vs → TM.bools ds = some bs → vs = bs.map V.bl
  | [], vs, bs, r, h => by simp only [Reps] at r; simp only [TM.bools, Option.some.injEq] at h; subst r h; rfl
  | d :: ds, vs, bs, r, h => by
    simp only [Reps] at r
    obtain ⟨v, rest, rfl, r1, r2⟩ := r
    cases d with
    | bl b =>
      simp only [TM.bools, Option.map_eq_some_iff] at h
      obtain ⟨bs', h1, rfl⟩ := h
      simp only [Rep] at r1
      rw [r1, Reps.bools r2 h1]
      rfl
    | _ => cases h
def dAll : List D → An
  | [.lst ds] => (bools ds).map fun bs => (.bl (bs.all id), false)
  | _ => none
theorem all_g {K : PySem.W.Frag} : OpND K (rAll K) dAll := by
  intro N M H xs us hn hf hx
  unfold dAll
  split
  · rename_i ds
    obtain ⟨v, rfl, h⟩ := hx.one
    cases e : bools ds with
    | none => exact Gives.none
    | some bs =>
      obtain ⟨a, vs, rfl, ⟨_, ha⟩, hr⟩ := h.lst
      exact gives_flat rBl fun Q q => ⟨_, bs, rfl, by rw [← hr.bools e]; exact SqL.of ha, q⟩
  · exact Gives.none
def dAny : List D → An
  | [.lst ds] => (bools ds).map fun bs => (.bl (bs.any id), false)
  | _ => none
theorem any_g {K : PySem.W.Frag} : OpND K (rAny K) dAny := by
  intro N M H xs us hn hf hx
  unfold dAny
  split
  · rename_i ds
    obtain ⟨v, rfl, h⟩ := hx.one
    cases e : bools ds with
    | none => exact Gives.none
    | some bs =>
      obtain ⟨a, vs, rfl, ⟨_, ha⟩, hr⟩ := h.lst
      exact gives_flat rBl fun Q q => ⟨_, bs, rfl, by rw [← hr.bools e]; exact SqL.of ha, q⟩
  · exact Gives.none
end TM
set_option maxRecDepth 100000
set_option maxHeartbeats 4000000
/-! T14: more to walk; isinstance; owned objects changed -/
namespace TM
open PySem PySem.Spec PyProof.Rows L2 RZ
variable [Tbs]

/-! ### ranges -/
def rngD (lo : Int) (n : Nat) : List D := (List.range n).map fun i => .int (lo + (i : Nat))
theorem rngD_len {lo : Int} {n : Nat} : (rngD lo n).length = n := by simp [rngD]
theorem yields_rng {K : PySem.W.Frag} {c : Ct} {lo : Int} {n : Nat} : Yields K c (Itr lo n) (rngD lo n) := by
  refine ⟨fun i σ δ H e hi => by rw [rngD_len] at hi; exact hi, fun σ δ H e => by show n ≤ (rngD lo n).length; rw [rngD_len]; exact Nat.le_refl _, fun i σ δ H x H' d e hd hy => ?_⟩
  obtain ⟨rfl, rfl⟩ := hy
  refine ⟨e, Keeps.refl, fun _ z => z, ?_⟩
  have hi : i < n := by
    have := (List.getElem?_eq_some_iff.mp hd).1
    rw [rngD_len] at this; exact this
  simp only [rngD, List.getElem?_map, List.getElem?_range hi, Option.map_some, Option.some.injEq] at hd
  subst hd
  simp only [Rep]
abbrev B62 : Int := 4611686018427387904
def okR (i : Int) : Bool := decide (-B62 ≤ i) && decide (i < B62)
theorem okR_ok {i : Int} (h : okR i = true) : -(2 ^ 62) ≤ i ∧ i < 2 ^ 62 := by
  have e : (2 : Int) ^ 62 = B62 := by decide
  simp only [okR, Bool.and_eq_true, decide_eq_true_eq] at h
  rw [e]; exact h
def iRng1 (fa : FA) : M (List D) := bnd fa fun rs δ => match trees δ rs with
  | some [.int j] => if okR j then .ok (rngD 0 j.toNat) δ else .bad
  | _ => .bad
def iRng2 (fa : FA) : M (List D) := bnd fa fun rs δ => match trees δ rs with
  | some [.int i, .int j] => if okR i && okR j then .ok (rngD i (j - i).toNat) δ else .bad
  | _ => .bad
/-- places and items, from 0 on -/
def enumD (ds : List D) : List D := ds.mapIdx fun i d => .tup [.int (i : Nat), d]
def iEnumD (fa : FA) : M (List D) := bnd fa fun rs δ => match rs with
  | [r] => match give δ r with
    | some (.lst ds, δ') => .ok (enumD ds) δ'
    | _ => .bad
  | _ => .bad
def zipD (xs ys : List D) : List D := List.zipWith (fun x y => .tup [x, y]) xs ys
def iZipD (fa : FA) : M (List D) := bnd fa fun rs δ => match rs with
  | [r, r'] => match give δ r with
    | some (x, δ1) => match give δ1 r' with
      | some (y, δ2) => match x, y with
        | .lst xs, .lst ys => .ok (zipD xs ys) δ2
        | .tup xs, .tup ys => .ok (zipD xs ys) δ2
        | _, _ => .bad
      | none => .bad
    | none => .bad
  | _ => .bad
section
variable {K : PySem.W.Frag} {W : WX} {c : Ct} {σ : St} {δ : Env'} {H : Hp}
theorem walk_post {fa : FA} {k : List RV → M (List D)} {R : It → Hp → Prop} {Z : List V → Hp → Prop} (h : match bnd fa k δ with
      | .ok ds δ' => ∀ J c' H', Ext c c' → EnvR K c' σ δ' H' → Stp σ δ H δ' H' → (∀ c'' : Ct, (∀ p ∈ c'.hold, p ∈ c''.hold) → Yields K c'' J ds) → R J H'
      | .err x δ' => ∀ d H', EnvR K c σ δ' H' → Stp σ δ H δ' H' → ExcR K (Uni c.N (Own σ δ')) H' x.fs d → W (.ref x.C) d σ H'
      | .bad => False)
    (hz : ∀ vs H1 δ1 rs ds δ2, EnvR K c σ δ1 H1 → RVs K c σ δ1 H1 rs vs → k rs δ1 = .ok ds δ2 → (∀ J c' H', Ext c c' → EnvR K c' σ δ2 H' → Stp σ δ1 H1 δ2 H' → (∀ c'' : Ct, (∀ p ∈ c'.hold, p ∈ c''.hold) → Yields K c'' J ds) → R J H') → Z vs H1)
    (hk : ∀ rs δ1 x δ2, k rs δ1 ≠ .err x δ2) : Post K W (RVs K) c σ δ H (fa δ) Z := by
  unfold bnd at h
  unfold Post
  cases hf : fa δ with
  | bad => rw [hf] at h; exact h
  | err x δ' => rw [hf] at h; exact h
  | ok rs δ1 =>
    rw [hf] at h
    dsimp only at h
    intro vs H1 e1 s1 r1
    cases hk1 : k rs δ1 with
    | bad => rw [hk1] at h; exact h.elim
    | err x δ2 => exact absurd hk1 (hk _ _ _ _)
    | ok ds δ2 =>
      rw [hk1] at h
      exact hz vs H1 δ1 rs ds δ2 e1 r1 hk1 fun J c' H' xc e s y => h J c' H' xc e (s1.trans s) y
end
section
variable {X : Cx} {W : WX} {tg a b : Expr} {fa : FA} {p pos tpos : Pos} {elts : List Expr} {kk : Nat}
theorem di_range1 (hg : Gl X "range") (hm : X.mg "range" = none) (ha : DA X W fa [a]) (hs : starEach [a] X.env = [(false, eval a X.env)]) : DI X W tg (iRng1 fa) (.Call (.Name "range" p) [a] [] pos) := by
  refine pi_mono (pi_range1 hg hm ha hs) fun σ H R ⟨c, δ, e, h⟩ => ⟨c, δ, e, walk_post h (fun vs H1 δ1 rs ds δ2 e1 r1 hk hR => ?_) fun rs δ1 x δ2 q => ?_⟩
  · split at hk
    · rename_i j hj
      split at hk
      · rename_i hc
        cases hk
        obtain ⟨v, rfl, hv⟩ := (looks_of e1 r1 hj).one
        obtain ⟨h1, h2⟩ := okR_ok hc
        exact ⟨j, by rw [hv.int], h1, h2, hR _ c H1 .refl e1 .refl fun c'' _ => yields_rng⟩
      · cases hk
    · cases hk
  · split at q
    · split at q <;> cases q
    · cases q
theorem di_range2 (hg : Gl X "range") (hm : X.mg "range" = none) (ha : DA X W fa [a, b]) (hs : starEach [a, b] X.env = [(false, eval a X.env), (false, eval b X.env)]) (hs2 : starEach [b] X.env = [(false, eval b X.env)]) : DI X W tg (iRng2 fa) (.Call (.Name "range" p) [a, b] [] pos) := by
  refine pi_mono (pi_range2 hg hm ha hs hs2) fun σ H R ⟨c, δ, e, h⟩ => ⟨c, δ, e, walk_post h (fun vs H1 δ1 rs ds δ2 e1 r1 hk hR => ?_) fun rs δ1 x δ2 q => ?_⟩
  · split at hk
    · rename_i i j hj
      split at hk
      · rename_i hc
        cases hk
        obtain ⟨v, v', rfl, hv, hv'⟩ := (looks_of e1 r1 hj).two
        rw [Bool.and_eq_true] at hc
        obtain ⟨h1, h2⟩ := okR_ok hc.1
        obtain ⟨h3, h4⟩ := okR_ok hc.2
        exact ⟨i, j, by rw [hv.int, hv'.int], ⟨h1, h2, h3, h4⟩, hR _ c H1 .refl e1 .refl fun c'' _ => yields_rng⟩
      · cases hk
    · cases hk
  · split at q
    · split at q <;> cases q
    · cases q
theorem yields_enum {K : PySem.W.Frag} {c : Ct} {a : Addr} {ds : List D} (hc : (D.lst ds, V.ref a) ∈ c.hold) : Yields K c (Ite K a) (enumD ds) := by
  have look : ∀ {σ δ H}, EnvR K c σ δ H → ∃ vs, H a = some (.lst vs) ∧ Reps K (Uni c.N (Own σ δ)) H ds vs := fun {σ δ H} e => by
    have h := e.held _ hc
    simp only [Rep] at h
    obtain ⟨b, vs, eb, ⟨_, r⟩, q⟩ := h
    cases eb
    exact ⟨vs, r, q⟩
  have el : (enumD ds).length = ds.length := by simp [enumD]
  refine ⟨fun i σ δ H e hi => ?_, fun σ δ H e => ?_, fun i σ δ H x H' d e hd hy => ?_⟩
  · obtain ⟨vs, h, r⟩ := look e
    have hl := r.length
    rw [el] at hi
    exact ⟨vs, vs[i], SqL.of h, by simp⟩
  · obtain ⟨vs, h, r⟩ := look e
    exact ⟨vs, SqL.of h, by rw [r.length, el]; exact Nat.le_refl _⟩
  · obtain ⟨vs, h, r⟩ := look e
    obtain ⟨T, x', rfl, hT, rfl, y⟩ := hy
    simp only [enumD, List.getElem?_mapIdx, Option.map_eq_some_iff] at hd
    obtain ⟨d', hd', rfl⟩ := hd
    obtain ⟨v, h1, h2⟩ := r.get hd'
    have := y vs (SqL.of h)
    rw [h1] at this
    cases this
    refine ⟨e.laid hT, Keeps.up hT, upd_dom, ?_⟩
    exact NewR.tup hT (e.free T hT) (Reps.cons rInt (Reps.cons h2 Reps.nil))
theorem yields_zip {K : PySem.W.Frag} {c : Ct} {a b : Addr} {xs ys : List D} (hc : (D.lst xs, V.ref a) ∈ c.hold) (hc' : (D.lst ys, V.ref b) ∈ c.hold) : Yields K c (Itz K a b) (zipD xs ys) := by
  have look : ∀ {ds : List D} {a : Addr}, (D.lst ds, V.ref a) ∈ c.hold → ∀ {σ δ H}, EnvR K c σ δ H → ∃ vs, H a = some (.lst vs) ∧ Reps K (Uni c.N (Own σ δ)) H ds vs := fun {ds a} hc {σ δ H} e => by
    have h := e.held _ hc
    simp only [Rep] at h
    obtain ⟨b, vs, eb, ⟨_, r⟩, q⟩ := h
    cases eb
    exact ⟨vs, r, q⟩
  have el : (zipD xs ys).length = min xs.length ys.length := by simp [zipD]
  refine ⟨fun i σ δ H e hi => ?_, fun σ δ H e => ?_, fun i σ δ H x H' d e hd hy => ?_⟩
  · obtain ⟨vs, h, r⟩ := look hc e
    obtain ⟨us, h', r'⟩ := look hc' e
    have hl := r.length
    have hl' := r'.length
    rw [el] at hi
    exact ⟨vs, us, vs[i]'(by omega), us[i]'(by omega), SqL.of h, SqL.of h', by simp, by simp⟩
  · obtain ⟨vs, h, r⟩ := look hc e
    obtain ⟨us, h', r'⟩ := look hc' e
    exact ⟨vs, us, SqL.of h, SqL.of h', by rw [r.length, r'.length, el]; omega⟩
  · obtain ⟨vs, h, r⟩ := look hc e
    obtain ⟨us, h', r'⟩ := look hc' e
    obtain ⟨T, x', y', rfl, hT, rfl, f1, f2⟩ := hy
    simp only [zipD, List.getElem?_zipWith] at hd
    cases q1 : xs[i]? with
    | none => rw [q1] at hd; cases hd
    | some dx =>
      cases q2 : ys[i]? with
      | none => rw [q1, q2] at hd; cases hd
      | some dy =>
        rw [q1, q2] at hd
        cases hd
        obtain ⟨v, h1, h2⟩ := r.get q1
        obtain ⟨u, h3, h4⟩ := r'.get q2
        have g1 := f1 vs (SqL.of h)
        have g2 := f2 us (SqL.of h')
        rw [h1] at g1
        rw [h3] at g2
        cases g1
        cases g2
        exact ⟨e.laid hT, Keeps.up hT, upd_dom, NewR.tup hT (e.free T hT) (Reps.cons h2 (Reps.cons h4 Reps.nil))⟩
theorem yields_zipT {K : PySem.W.Frag} {c : Ct} {a b : Addr} {xs ys : List D} (hc : (D.tup xs, V.ref a) ∈ c.hold) (hc' : (D.tup ys, V.ref b) ∈ c.hold) : Yields K c (ItzT K a b) (zipD xs ys) := by
  have look : ∀ {ds : List D} {a : Addr}, (D.tup ds, V.ref a) ∈ c.hold → ∀ {σ δ H}, EnvR K c σ δ H → ∃ vs, SqT K H a vs ∧ Reps K (Uni c.N (Own σ δ)) H ds vs := fun {ds a} hc {σ δ H} e => by
    have h := e.held _ hc
    simp only [Rep] at h
    obtain ⟨b, vs, eb, r, q⟩ := h
    cases eb
    exact ⟨vs, r.sq, q⟩
  have el : (zipD xs ys).length = min xs.length ys.length := by simp [zipD]
  refine ⟨fun i σ δ H e hi => ?_, fun σ δ H e => ?_, fun i σ δ H x H' d e hd hy => ?_⟩
  · obtain ⟨vs, h, r⟩ := look hc e
    obtain ⟨us, h', r'⟩ := look hc' e
    have hl := r.length
    have hl' := r'.length
    rw [el] at hi
    exact ⟨vs, us, vs[i]'(by omega), us[i]'(by omega), h, h', by simp, by simp⟩
  · obtain ⟨vs, h, r⟩ := look hc e
    obtain ⟨us, h', r'⟩ := look hc' e
    exact ⟨vs, us, h, h', by rw [r.length, r'.length, el]; omega⟩
  · obtain ⟨vs, h, r⟩ := look hc e
    obtain ⟨us, h', r'⟩ := look hc' e
    obtain ⟨T, x', y', rfl, hT, rfl, f1, f2⟩ := hy
    simp only [zipD, List.getElem?_zipWith] at hd
    cases q1 : xs[i]? with
    | none => rw [q1] at hd; cases hd
    | some dx =>
      cases q2 : ys[i]? with
      | none => rw [q1, q2] at hd; cases hd
      | some dy =>
        rw [q1, q2] at hd
        cases hd
        obtain ⟨v, h1, h2⟩ := r.get q1
        obtain ⟨u, h3, h4⟩ := r'.get q2
        have g1 := f1 vs h
        have g2 := f2 us h'
        rw [h1] at g1
        rw [h3] at g2
        cases g1
        cases g2
        exact ⟨e.laid hT, Keeps.up hT, upd_dom, NewR.tup hT (e.free T hT) (Reps.cons h2 (Reps.cons h4 Reps.nil))⟩
theorem di_enum (hg : Gl X "enumerate") (hm : X.mg "enumerate" = none) (ha : DA X W fa [a]) (hs : starEach [a] X.env = [(false, eval a X.env)]) : DI X W (.Tuple elts kk tpos) (iEnumD fa) (.Call (.Name "enumerate" p) [a] [] pos) := by
  refine pi_mono (pi_enum hg hm ha hs) fun σ H R ⟨c, δ, e, h⟩ => ⟨c, δ, e, walk_post h (fun vs H1 δ1 rs ds δ2 e1 r1 hk hR => ?_) fun rs δ1 x δ2 q => ?_⟩
  · split at hk
    · rename_i r
      split at hk
      · rename_i xs δ' hgv
        cases hk
        cases r1 with
        | cons r1 r2 =>
          cases r2
          obtain ⟨e2, s2, rp⟩ := e1.give r1 hgv
          have rp' := rp
          simp only [Rep] at rp'
          obtain ⟨b, us, rfl, ⟨_, hb⟩, _⟩ := rp'
          exact ⟨b, us, rfl, SqL.of hb, hR _ _ H1 .holding (e2.holding rp) s2 fun c'' hc => yields_enum (hc _ List.mem_cons_self)⟩
      · cases hk
    · cases hk
  · split at q
    · split at q <;> cases q
    · cases q
theorem di_zip (hg : Gl X "zip") (hm : X.mg "zip" = none) (ha : DA X W fa [a, b]) (hs : starEach [a, b] X.env = (false, eval a X.env) :: starEach [b] X.env) (hpl : (backTo pos (starEach [b] X.env)).any (·.1) = false) : DI X W (.Tuple elts kk tpos) (iZipD fa) (.Call (.Name "zip" p) [a, b] [] pos) := by
  refine pi_mono (pi_zipA hg hm ha hs hpl) fun σ H R ⟨c, δ, e, h⟩ => ⟨c, δ, e, walk_post h (fun vs H1 δ1 rs ds δ2 e1 r1 hk hR => ?_) fun rs δ1 x δ2 q => ?_⟩
  · split at hk
    · rename_i r r'
      split at hk
      · rename_i x δ3 hg1
        split at hk
        · rename_i y δ4 hg2
          cases r1 with
          | cons r1 r2 =>
            cases r2 with
            | cons r2 r3 =>
              cases r3
              obtain ⟨e2, s2, rp⟩ := e1.give r1 hg1
              obtain ⟨e3, s3, rp2⟩ := e2.give (r2.mono s2) hg2
              have rp1 := rp.mono (S := fun _ => False) (N' := Uni c.N (Own σ δ4)) Keeps.refl (fun _ _ z => z.elim) fun b _ z => z.imp id (s3.own b)
              have e4 := (e3.holding rp1).holding rp2
              split at hk
              · cases hk
                have rp1' := rp1
                have rp2' := rp2
                simp only [Rep] at rp1' rp2'
                obtain ⟨a1, us, rfl, ⟨_, ha1⟩, _⟩ := rp1'
                obtain ⟨a2, ws, rfl, ⟨_, ha2⟩, _⟩ := rp2'
                exact ⟨a1, a2, us, ws, rfl, .inl ⟨SqL.of ha1, SqL.of ha2, hR _ _ H1 (Ext.holding.trans .holding) e4 (s2.trans s3) fun c'' hc => yields_zip (hc _ (List.mem_cons_of_mem _ List.mem_cons_self)) (hc _ List.mem_cons_self)⟩⟩
              · cases hk
                have rp1' := rp1
                have rp2' := rp2
                simp only [Rep] at rp1' rp2'
                obtain ⟨a1, us, rfl, ha1, _⟩ := rp1'
                obtain ⟨a2, ws, rfl, ha2, _⟩ := rp2'
                exact ⟨a1, a2, us, ws, rfl, .inr ⟨ha1.sq, ha2.sq, hR _ _ H1 (Ext.holding.trans .holding) e4 (s2.trans s3) fun c'' hc => yields_zipT (hc _ (List.mem_cons_of_mem _ List.mem_cons_self)) (hc _ List.mem_cons_self)⟩⟩
              · cases hk
        · cases hk
      · cases hk
    · cases hk
  · split at q
    · split at q
      · split at q
        · split at q <;> cases q
        · cases q
      · cases q
    · cases q
end
/-! ### isinstance -/
/-- a tree's type; own classes by cl -/
def tyD : D → Option Value
  | .non => some (.type "NoneType")
  | .bl _ => some (.type "bool")
  | .int _ => some (.type "int")
  | .str _ => some (.type "str")
  | .lst _ => some (.type "list")
  | .tup _ => some (.type "tuple")
  | .dct _ => some (.type "dict")
  | .ins C _ => some (.ref C)
  | .opq _ => none
  | .fz _ => none
/-- what the top says of classes: kit t u: is an instance of t one of u -/
abbrev Kit := Value → Value → Option Bool
def kitD : Kit
  | .type a, .type b => kitB a b
  | _, _ => none
def clsOf : V → Option Value
  | .ty n => some (.type n)
  | .ref C => some (.ref C)
  | _ => none
def clsAll : List D → Option (List Value)
  | [] => some []
  | .opq c :: r => match clsOf c, clsAll r with
    | some u, some us => some (u :: us)
    | _, _ => none
  | _ :: _ => none
def kitAll (kit : Kit) (t : Value) : List Value → Option Bool
  | [] => some false
  | u :: us => match kit t u with
    | some true => some true
    | some false => kitAll kit t us
    | none => none
def dIsi (kit : Kit) : List D → An
  | [x, .opq c] => match tyD x, clsOf c with
    | some t, some u => (kit t u).map fun b => (.bl b, false)
    | _, _ => none
  | [x, .tup (c :: cs)] => match tyD x, clsAll (c :: cs) with
    | some t, some us => (kitAll kit t us).map fun b => (.bl b, false)
    | _, _ => none
  | _ => none
/-- what is asked of the top: kit tells true, and own classes are plain -/
structure KitOk (K : PySem.W.Frag) (kit : Kit) : Prop where
  tell : ∀ t u b, kit t u = some b → PySem.W.kitOne K t u = some b
  own : ∀ C u b, kit (.ref C) u = some b → Cls K C ∧ PySem.W.findIn K (.ref C) "__class__" = some (some (.builtin "object.__class__")) ∧ PySem.W.specialIn K (.builtin "object.__class__") "__get__" = some (some (.builtin "getset_descriptor.__get__")) ∧
    PySem.W.takesIn K (.builtin "object.__class__") = some true ∧ PySem.W.mroIn K C (.type "object") = some true
theorem kitD_ok {K : PySem.W.Frag} : KitOk K kitD := by
  refine ⟨fun t u b h => ?_, fun C u b h => ?_⟩
  · unfold kitD at h
    split at h
    · exact kit_ty h
    · cases h
  · cases u <;> cases h
section
variable {K : PySem.W.Frag} {N M : Addr → Prop} {H : Hp} {kit : Kit}
theorem Look.ty {d : D} {v : V} {t : Value} (h : Look K N M H d v) (e : tyD d = some t) (ho : ∀ C, t = .ref C → ∃ u b, kit (.ref C) u = some b) (hk : KitOk K kit) : TyX K H v t := by
  cases d with
  | non => cases e; rw [h.non]; exact .base .non
  | bl b => cases e; rw [h.bl]; exact .base (.bl b)
  | int b => cases e; rw [h.int]; exact .base (.int b)
  | str b => cases e; rw [h.str]; exact .base (.str b)
  | lst b => cases e; obtain ⟨a, vs, rfl, ⟨_, ha⟩, _⟩ := h.lst; exact .base (.lst ha)
  | fz b => cases e
  | tup b =>
    cases e
    obtain ⟨a, vs, rfl, ha, _⟩ := h.tup
    rcases ha with ⟨_, ha⟩ | ⟨_, o, its, n, h1, h2, _⟩
    · exact .base (.tup ha)
    · exact .kTuple h1 h2
  | dct b => cases e; obtain ⟨a, vs, rfl, _, ha, _⟩ := h; exact .base (.dK ha)
  | ins C b =>
    cases e
    obtain ⟨a, dx, vs, rfl, _, ha, _⟩ := h
    obtain ⟨u, b, q⟩ := ho C rfl
    obtain ⟨q1, q2, q3, q4, q5⟩ := hk.own C u b q
    exact .base (.ins ha q1 q2 q3 q4 q5)
  | opq _ => cases e
theorem clsOf_ok {c : V} {u : Value} (h : clsOf c = some u) : ClsV c u := by
  unfold clsOf at h
  split at h
  · cases h; exact .ty _
  · cases h; exact .own _
  · cases h
theorem clsAll_ok : ∀ {cs : List D} {vs : List V} {us : List Value}, Reps K M H cs vs → clsAll cs = some us → Paired ClsV vs us
  | [], vs, us, r, h => by
    simp only [Reps] at r
    subst r
    cases h
    exact .nil
  | c :: cs, vs, us, r, h => by
    simp only [Reps] at r
    obtain ⟨v, rest, rfl, r1, r2⟩ := r
    cases c with
    | opq c =>
      simp only [Rep] at r1
      subst r1
      simp only [clsAll] at h
      split at h
      · rename_i u us' h1 h2
        cases h
        exact .cons (clsOf_ok h1) (clsAll_ok r2 h2)
      · cases h
    | _ => cases h
theorem kitAll_ok (hk : KitOk K kit) {t : Value} : ∀ {us : List Value} {b : Bool}, kitAll kit t us = some b → PySem.W.kitAny K t us = some b
  | [], b, h => by cases h; exact kitAny_nil
  | u :: us, b, h => by
    unfold kitAll at h
    cases q : kit t u with
    | none => rw [q] at h; cases h
    | some b' =>
      rw [q] at h
      cases b' with
      | true => cases h; exact kitAny_cons (hk.tell _ _ _ q) (fun z => nomatch z) fun _ => rfl
      | false => exact kitAny_cons (hk.tell _ _ _ q) (fun _ => kitAll_ok hk h) fun z => nomatch z
theorem kitAll_one {t : Value} {u : Value} {us : List Value} {b : Bool} (h : kitAll kit t (u :: us) = some b) : ∃ b', kit t u = some b' := by
  unfold kitAll at h
  cases q : kit t u with
  | none => rw [q] at h; cases h
  | some b' => exact ⟨b', rfl⟩
def rIsiA (K : PySem.W.Frag) : List V → Hp → VK → Prop := fun xs H Q => rIsi K xs H Q ∨ rIsiT K xs H Q ∨ rIsiK K xs H Q
theorem call_isiA {X : Cx} : CallR X (.builtin "isinstance") (rIsiA X.K) := by
  intro pins s σ H xs us Q I r h
  rcases h with h | h | h
  · exact call_isi pins s σ H xs us Q I r h
  · exact call_isiT pins s σ H xs us Q I r h
  · exact call_isiK pins s σ H xs us Q I r h
theorem isi_g (hk : KitOk K kit) : OpND K (rIsiA K) (dIsi kit) := by
  intro N M H xs us hn hf hx
  unfold dIsi
  split
  · rename_i x c
    obtain ⟨v, v', rfl, h, h'⟩ := hx.two
    split
    · rename_i t u e1 e2
      cases q : kit t u with
      | none => exact Gives.none
      | some b =>
        have h2 : Rep K M H (.opq c) v' := h'
        simp only [Rep] at h2
        subst h2
        exact gives_flat rBl fun Q k => .inl ⟨_, _, t, u, b, rfl, clsOf_ok e2, h.ty (kit := kit) e1 (fun C z => by subst z; exact ⟨u, b, q⟩) hk, hk.tell _ _ _ q, k⟩
    · exact Gives.none
  · rename_i x c cs
    obtain ⟨v, v', rfl, h, h'⟩ := hx.two
    split
    · rename_i t ws e1 e2
      cases q : kitAll kit t ws with
      | none => exact Gives.none
      | some b =>
        obtain ⟨a, ts, rfl, ha, hr⟩ := h'.tup
        have pr := clsAll_ok hr e2
        have own : ∀ C, t = .ref C → ∃ u b, kit (.ref C) u = some b := fun C z => by
          subst z
          cases ws with
          | nil =>
            cases c with
            | opq _ => unfold clsAll at e2; split at e2 <;> cases e2
            | _ => cases e2
          | cons u us => obtain ⟨b', hb⟩ := kitAll_one q; exact ⟨u, b', hb⟩
        rcases ha with ⟨_, ha⟩ | ⟨_, o, its, n, h1, h2, h3, _, h4⟩
        · exact gives_flat rBl fun Q k => .inr (.inl ⟨_, _, _, t, ws, b, rfl, ha, pr, h.ty (kit := kit) e1 own hk, kitAll_ok hk q, k⟩)
        · have ew := ClsV.all pr h4
          obtain ⟨oc, od, dt, sl⟩ := o
          dsimp only at h2 h3
          subst h2 h3
          exact gives_flat rBl fun Q k => .inr (.inr ⟨_, _, od, ws, n, sl, t, b, rfl, by rw [h1, ← ew], h.ty (kit := kit) e1 own hk, kitAll_ok hk q, k⟩)
    · exact Gives.none
  · exact Gives.none
end
end TM
set_option maxRecDepth 100000
set_option maxHeartbeats 4000000
/-! T15: owned objects changed; tuples of targets -/
namespace TM
open PySem PySem.Spec PyProof.Rows L2
variable [Tbs]

section
variable {K : PySem.W.Frag} {c : Ct} {σ : St} {δ : Env'} {H : Hp} {W : WX}
/-- an owned slot's object is written -/
theorem EnvR.write {i : Nat} {k : SK} {d d' : D} {a : Addr} {o : HO} [Fix o] (e : EnvR K c σ δ H) (hs : δ[i]? = some (some (k, d))) (hk : k ≠ .sh) (ha : σ[i]? = some (some (.ref a))) (ht : Top K (Uni c.N (Own σ δ)) (upd H a o) d' a) :
    EnvR K c σ (δ.set i (some (k, d'))) (upd H a o) ∧ Stp σ δ H (δ.set i (some (k, d'))) (upd H a o) := by
  have hi : i < δ.length := (List.getElem?_eq_some_iff.mp hs).1
  have oa : Own σ δ a := ⟨i, k, d, hs, hk, ha⟩
  have back : ∀ {j : Nat} {k' : SK} {x : D}, (δ.set i (some (k, d')))[j]? = some (some (k', x)) → (j = i ∧ k' = k ∧ x = d') ∨ (j ≠ i ∧ δ[j]? = some (some (k', x))) := fun {j k' x} h => by
    rcases getElem?_set_some h with ⟨rfl, e1, _⟩ | ⟨ne, e1⟩
    · cases e1; exact .inl ⟨rfl, rfl, rfl⟩
    · exact .inr ⟨ne, e1⟩
  have own : ∀ b, Own σ (δ.set i (some (k, d'))) b → Own σ δ b := by
    rintro b ⟨j, k', x, h1, h2, h3⟩
    rcases back h1 with ⟨rfl, rfl, _⟩ | ⟨_, e1⟩
    · exact ⟨j, k', d, hs, h2, h3⟩
    · exact ⟨j, k', x, e1, h2, h3⟩
  have own2 : ∀ b, Own σ δ b → Own σ (δ.set i (some (k, d'))) b := by
    rintro b ⟨j, k', x, h1, h2, h3⟩
    by_cases hj : i = j
    · subst hj
      rw [hs] at h1
      cases h1
      exact ⟨i, k, d', List.getElem?_set_self hi, h2, h3⟩
    · exact ⟨j, k', x, by rw [List.getElem?_set_ne hj]; exact h1, h2, h3⟩
  have kp : Keeps (fun b => b = a) H (upd H a o) := by
    obtain ⟨v, hv, r⟩ := e.slot i k d hs
    rw [ha] at hv
    cases Option.some.inj (Option.some.inj hv)
    have t : Top K (Uni c.N (Own σ δ)) H d a := by
      cases k with
      | sh => exact absurd rfl hk
      | ow => obtain ⟨b, q1, q2, q3, q4⟩ := r; cases q1; exact q4
      | io => obtain ⟨b, q1, q2, q3, q4⟩ := r; cases q1; exact q4
    obtain ⟨u, hu, pu⟩ := t.plain
    exact Keeps.put rfl hu
  have ps : ∀ b, Liv H b → (fun b => b = a) b → Uni c.N (Own σ δ) b := fun b _ z => .inr (by rw [show b = a from z]; exact oa)
  have sub : ∀ b, Liv H b → Uni c.N (Own σ (δ.set i (some (k, d')))) b → Uni c.N (Own σ δ) b := fun b _ z => z.imp id (own b)
  have na : ∀ {j : Nat} {k' : SK} {x : D} {b : Addr}, j ≠ i → δ[j]? = some (some (k', x)) → k' ≠ .sh → σ[j]? = some (some (.ref b)) → b ≠ a := fun {j k' x b} nj h1 h2 h3 z => nj (by subst z; exact e.inj j i k' k x d b h1 hs h2 hk h3 ha)
  refine ⟨⟨by simpa using e.len, fun j k' x h => ?_, fun j l k1 k2 d1 d2 b e1 e2 e3 e4 e5 e6 => ?_, fun b z => upd_dom b (e.dom b z), e.keep.trans2 kp fun x hx z => ?_, fun b z => ⟨upd_dom b (e.ioD b z).1, (e.ioD b z).2⟩, fun p hp => (e.held p hp).mono kp ps sub, kp.tab e.tab⟩, ⟨kp.weaken fun b z => by rw [show b = a from z]; exact oa, own, fun j x hj => ?_, upd_dom⟩⟩
  · rcases back h with ⟨rfl, rfl, rfl⟩ | ⟨ne, e1⟩
    · obtain ⟨v, hv, r⟩ := e.slot j k' d hs
      rw [ha] at hv
      cases Option.some.inj (Option.some.inj hv)
      refine ⟨_, ha, ?_⟩
      have ht' := ht.mono (S := fun _ => False) (N' := Uni c.N (Own σ (δ.set j (some (k', x))))) Keeps.refl (fun _ _ z => z.elim) (fun b _ z => z.imp id (own b)) fun _ z => z
      cases k' with
      | sh => exact absurd rfl hk
      | ow => obtain ⟨b, q1, q2, q3, q4⟩ := r; cases q1; exact ⟨a, rfl, q2, q3, ht'⟩
      | io => obtain ⟨b, q1, q2, q3, q4⟩ := r; cases q1; exact ⟨a, rfl, q2, q3, ht'⟩
    · obtain ⟨v, hv, r⟩ := e.slot j k' x e1
      refine ⟨v, hv, ?_⟩
      cases k' with
      | sh => exact Rep.mono kp ps sub r
      | ow => obtain ⟨b, q1, q2, q3, q4⟩ := r; subst q1; exact ⟨b, rfl, q2, q3, q4.mono kp ps sub fun u hu _ => kp b u hu (na ne e1 (by simp) hv)⟩
      | io => obtain ⟨b, q1, q2, q3, q4⟩ := r; subst q1; exact ⟨b, rfl, q2, q3, q4.mono kp ps sub fun u hu _ => kp b u hu (na ne e1 (by simp) hv)⟩
  · rcases back e1 with ⟨rfl, rfl, _⟩ | ⟨_, g1⟩
    · rcases back e2 with ⟨rfl, rfl, _⟩ | ⟨_, g2⟩
      · rfl
      · exact e.inj _ _ _ _ _ _ b hs g2 e3 e4 e5 e6
    · rcases back e2 with ⟨rfl, rfl, _⟩ | ⟨_, g2⟩
      · exact e.inj _ _ _ _ _ _ b g1 hs e3 e4 e5 e6
      · exact e.inj _ _ _ _ _ _ b g1 g2 e3 e4 e5 e6
  · have z' : x = a := z
    subst z'
    obtain ⟨v, hv, r⟩ := e.slot i k d hs
    rw [ha] at hv
    cases Option.some.inj (Option.some.inj hv)
    cases k with
    | sh => exact absurd rfl hk
    | ow => obtain ⟨b, q1, q2, q3, q4⟩ := r; cases q1; exact absurd hx q3
    | io => obtain ⟨b, q1, q2, q3, q4⟩ := r; cases q1; exact ⟨i, q3⟩
  · by_cases hj' : i = j
    · subst hj'; exact ⟨_, List.getElem?_set_self hi⟩
    · exact ⟨x, by rw [List.getElem?_set_ne hj']; exact hj⟩
/-- an owned slot's object as it stands -/
theorem EnvR.owned {i : Nat} {k : SK} {d : D} (e : EnvR K c σ δ H) (hs : δ[i]? = some (some (k, d))) (hk : k ≠ .sh) : ∃ a, σ[i]? = some (some (.ref a)) ∧ Top K (Uni c.N (Own σ δ)) H d a ∧ Own σ δ a ∧ ¬ c.N a := by
  obtain ⟨v, hv, r⟩ := e.slot i k d hs
  cases k with
  | sh => exact absurd rfl hk
  | ow => obtain ⟨b, q1, q2, q3, q4⟩ := r; subst q1; exact ⟨b, hv, q4, ⟨i, .ow, d, hs, by simp, hv⟩, q2⟩
  | io => obtain ⟨b, q1, q2, q3, q4⟩ := r; subst q1; exact ⟨b, hv, q4, ⟨i, .io, d, hs, by simp, hv⟩, q2⟩
end
/-! ### methods that change an owned list -/
/-- the object's tree and the arguments' trees: the new tree and the answer -/
abbrev Mt := List D → List D → Option (List D × D)
def isOwnL (i : Nat) (δ : Env') : Option (SK × List D) := match δ[i]? with
  | some (some (.ow, .lst ds)) => some (.ow, ds)
  | some (some (.io, .lst ds)) => some (.io, ds)
  | _ => none
def eMut (i : Nat) (m : Mt) (fa : FA) : FE := fun δ0 => match isOwnL i δ0 with
  | none => .bad
  | some _ => bnd fa (fun rs => bnd (gives rs) fun xs δ => match isOwnL i δ with
    | some (k, ds) => match m ds xs with
      | some (ds', r) => .ok (.val r false) (δ.set i (some (k, .lst ds')))
      | none => .bad
    | none => .bad) δ0
/-- the rule by values does what m says -/
def MutD (K : PySem.W.Frag) (r : V → List V → Hp → VK → Prop) (m : Mt) : Prop := ∀ (M : Addr → Prop) (H : Hp) (a : Addr) (ds xs ds' : List D) (res : D) (us ws : List V) (Q : VK), M a → H a = some (.lst us) → Reps K M H ds us → Reps K M H xs ws → m ds xs = some (ds', res) →
  (∀ us' w, Reps K M H ds' us' → Rep K M H res w → Q w (upd H a (.lst us'))) → r (.ref a) ws H Q
theorem isOwnL_some {i : Nat} {δ : Env'} {k : SK} {ds : List D} (h : isOwnL i δ = some (k, ds)) : δ[i]? = some (some (k, .lst ds)) ∧ k ≠ .sh := by
  unfold isOwnL at h
  split at h
  · rename_i e; cases h; exact ⟨e, by simp⟩
  · rename_i e; cases h; exact ⟨e, by simp⟩
  · cases h
section
variable {K : PySem.W.Frag} {W : WX} {i : Nat} {m : Mt} {fa : FA} {r : V → List V → Hp → VK → Prop} {σ : St} {H : Hp} {Q : VK}
theorem mut_t (hm : MutD K r m) (h : tE K W (eMut i m fa) σ H Q) : ∃ x, σ[i]? = some (some x) ∧ tyV K "list" x H ∧ tA K W fa σ H fun xs H2 => r x xs H2 Q := by
  obtain ⟨c, δ, e, h⟩ := h
  unfold eMut at h
  cases q0 : isOwnL i δ with
  | none => rw [q0] at h; exact h.elim
  | some p0 =>
    rw [q0] at h
    dsimp only at h
    obtain ⟨s0, k0⟩ := isOwnL_some (k := p0.1) (ds := p0.2) q0
    obtain ⟨a, ha, t0, o0, n0⟩ := e.owned s0 k0
    obtain ⟨us0, hu0, _⟩ := t0
    refine ⟨.ref a, ha, .inl ⟨rfl, us0, SqL.of hu0⟩, c, δ, e, (Post.bnd (R := RVs K) h).imp fun vs H1 ⟨δ1, rs, e1, s1, hr, h1⟩ => ?_⟩
    obtain ⟨δ2, xs, e2, s2, r2, h2⟩ := gives_post e1 hr h1
    cases q1 : isOwnL i δ2 with
    | none => rw [q1] at h2; exact h2.elim
    | some p =>
      obtain ⟨k, ds⟩ := p
      rw [q1] at h2
      dsimp only at h2
      obtain ⟨s3, k3⟩ := isOwnL_some q1
      obtain ⟨a', ha', t3, o3, n3⟩ := e2.owned s3 k3
      rw [ha] at ha'
      cases ha'
      obtain ⟨us, hu, hr3⟩ := t3
      cases q2 : m ds xs with
      | none => rw [q2] at h2; exact h2.elim
      | some p2 =>
        obtain ⟨ds', res⟩ := p2
        rw [q2] at h2
        dsimp only at h2
        refine hm (Uni c.N (Own σ δ2)) H1 a ds xs ds' res us vs Q (.inr o3) hu hr3 r2 q2 fun us' w y1 y2 => ?_
        have kp : Keeps (fun b => b = a) H1 (upd H1 a (.lst us')) := Keeps.put rfl hu
        have ps : ∀ b, Liv H1 b → (fun b => b = a) b → Uni c.N (Own σ δ2) b := fun b _ z => .inr (by rw [show b = a from z]; exact o3)
        obtain ⟨e4, s4⟩ := e2.write (d' := .lst ds') (o := .lst us') s3 k3 ha ⟨us', upd_same, y1.mono kp ps fun _ _ z => z⟩
        refine h2 w _ e4 s4 ⟨?_, fun _ _ z => nomatch z⟩
        exact (y2.mono kp ps (N' := Uni c.N (Own σ (δ2.set i (some (k, .lst ds'))))) fun b _ z => z.imp id (s4.own b))
end
section
variable {X : Cx} {W : WX} {i : Nat} {m : Mt} {fa : FA} {r : V → List V → Hp → VK → Prop} {x name : Str} {id : String} {e : Expr} {es : List Expr} {p apos cpos : Pos}
theorem de_mut (slot : Slot "list" name id) (pa : PlainAttrs "list") (hty : typeOf (.builtin id) = pure (.type "method_descriptor")) (hr : MtR X id r) (hm : MutD X.K r m) (hN : X.N[i]? = some x) (hv : Vis X.env.scope x) (hd : (x == ("__debug__" : Str)) = false) (hcd : (x == ("__classdict__" : Str)) = false)
    (ha : DA X W fa (e :: es)) (hbase : attributeBase (.Name x p) name X.env (eval (.Name x p) X.env) = eval (.Name x p) X.env)
    (hfew : ((backTo cpos (starEach (e :: es) X.env)).all (fun x => !x.1) && (backToKw cpos (keywordEach [] X.env)).all (fun x => x.1.isSome) && decide ((e :: es).length + ([] : List Keyword).length + (if ([] : List Keyword).isEmpty then 0 else 1) < 30)) = true)
    (hline : (apos.endLine == cpos.line) = true) (hs : starEach (e :: es) X.env = (false, eval e X.env) :: starEach es X.env) (hplain : (backTo cpos (starEach es X.env)).any (·.1) = false) :
    DE X W (eMut i m fa) (.Call (.Attribute (.Name x p) name apos) (e :: es) [] cpos) := by
  refine pe_mono (pe_bm pa slot hty hr (pe_var hN hv hd hcd) ha hbase hfew hline hs hplain) fun σ H Q h => ?_
  obtain ⟨x, h1, h2, h3⟩ := mut_t hm h
  exact ⟨x, h1, h2, h3⟩
theorem de_mut0 (slot : Slot "list" name id) (pa : PlainAttrs "list") (hty : typeOf (.builtin id) = pure (.type "method_descriptor")) (hr : MtR X id r) (hm : MutD X.K r m) (hN : X.N[i]? = some x) (hv : Vis X.env.scope x) (hd : (x == ("__debug__" : Str)) = false) (hcd : (x == ("__classdict__" : Str)) = false)
    (hbase : attributeBase (.Name x p) name X.env (eval (.Name x p) X.env) = eval (.Name x p) X.env) (hline : (apos.endLine == cpos.line) = true) :
    DE X W (eMut i m aNil) (.Call (.Attribute (.Name x p) name apos) [] [] cpos) := by
  refine pe_mono (pe_bm0 pa slot hty hr (pe_var hN hv hd hcd) hbase hline) fun σ H Q h => ?_
  obtain ⟨x, h1, h2, h3⟩ := mut_t hm h
  refine ⟨x, h1, h2, ?_⟩
  obtain ⟨c, δ, e, h4⟩ := h3
  exact h4 [] H e .refl .nil
end
def mAppend : Mt := fun ds xs => match xs with
  | [x] => if ds.length < SZ then some (ds ++ [x], .non) else none
  | _ => none
theorem append_m {K : PySem.W.Frag} : MutD K rAppend mAppend := by
  intro M H a ds xs ds' res us ws Q hMa ha hr hx hm hq
  unfold mAppend at hm
  split at hm
  · split at hm
    · rename_i x hz
      cases hm
      simp only [Reps] at hx
      obtain ⟨v, _, rfl, h1, rfl⟩ := hx
      exact ⟨a, us, v, rfl, rfl, ha, by rw [sz_eq, hr.length]; exact hz, hq _ _ (hr.append (Reps.cons h1 Reps.nil)) rNon⟩
    · cases hm
  · cases hm
def mExtend : Mt := fun ds xs => match xs with
  | [.lst ys] => if ds.length + ys.length ≤ SZ then some (ds ++ ys, .non) else none
  | _ => none
theorem extend_m {K : PySem.W.Frag} : MutD K rExtend mExtend := by
  intro M H a ds xs ds' res us ws Q hMa ha hr hx hm hq
  unfold mExtend at hm
  split at hm
  · rename_i ys
    split at hm
    · rename_i hz
      cases hm
      simp only [Reps] at hx
      obtain ⟨v, _, rfl, h1, rfl⟩ := hx
      simp only [Rep] at h1
      obtain ⟨b, zs, rfl, ⟨_, hb⟩, h2⟩ := h1
      exact ⟨a, b, us, zs, rfl, rfl, ha, hb, by rw [sz_eq, hr.length, h2.length]; exact hz, hq _ _ (hr.append h2) rNon⟩
    · cases hm
  · cases hm
def mPop : Mt := fun ds xs => match xs with
  | [] => (ds[ds.length - 1]?).map fun d => (ds.dropLast, d)
  | [.int i] => if decide (-9223372036854775808 ≤ i) && decide (i < 9223372036854775808) then
      match seqIndex? i ds.length with
      | some k => (ds[k]?).map fun d => (ds.eraseIdx k, d)
      | none => none
    else none
  | _ => none
def rPopA : V → List V → Hp → VK → Prop := fun x vs H Q => rPop x vs H Q ∨ rPopAt x vs H Q
theorem mt_popA {X : Cx} : MtR X "list.pop" rPopA := fun pins s σ H x xs v us Q I rx rs h => h.elim (mt_pop pins s σ H x xs v us Q I rx rs) (mt_popAt pins s σ H x xs v us Q I rx rs)
theorem Reps.erase {K : PySem.W.Frag} {M : Addr → Prop} {H : Hp} : ∀ {ds : List D} {vs : List V} (k : Nat), Reps K M H ds vs → Reps K M H (ds.eraseIdx k) (vs.eraseIdx k)
  | [], vs, k, r => by simp only [Reps] at r; subst r; exact Reps.nil
  | d :: ds, vs, 0, r => by
    simp only [Reps] at r
    obtain ⟨v, rest, rfl, r1, r2⟩ := r
    exact r2
  | d :: ds, vs, k + 1, r => by
    simp only [Reps] at r
    obtain ⟨v, rest, rfl, r1, r2⟩ := r
    exact Reps.cons r1 (Reps.erase k r2)
theorem pop_m {K : PySem.W.Frag} : MutD K rPopA mPop := by
  intro M H a ds xs ds' res us ws Q hMa ha hr hx hm hq
  unfold mPop at hm
  split at hm
  · simp only [Option.map_eq_some_iff, Prod.mk.injEq] at hm
    obtain ⟨d, h1, rfl, rfl⟩ := hm
    simp only [Reps] at hx
    subst hx
    obtain ⟨v, h2, h3⟩ := hr.get h1
    refine .inl ⟨a, us, v, rfl, rfl, ha, by rw [hr.length]; exact h2, hq _ _ ?_ h3⟩
    rw [List.dropLast_eq_take, List.dropLast_eq_take, hr.length]
    exact hr.take _
  · rename_i i
    split at hm
    · rename_i hc
      simp only [Bool.and_eq_true, decide_eq_true_eq] at hc
      split at hm
      · rename_i k hk
        simp only [Option.map_eq_some_iff, Prod.mk.injEq] at hm
        obtain ⟨d, h1, rfl, rfl⟩ := hm
        simp only [Reps] at hx
        obtain ⟨w, _, rfl, h0, rfl⟩ := hx
        simp only [Rep] at h0
        subst h0
        obtain ⟨v, h2, h3⟩ := hr.get h1
        exact .inr ⟨a, us, i, k, v, rfl, rfl, ha, hc.1, hc.2, by rw [hr.length]; exact hk, h2, hq _ _ (hr.erase k) h3⟩
      · cases hm
    · cases hm
  · cases hm
end TM
set_option maxRecDepth 100000
set_option maxHeartbeats 4000000
/-! T16: stores at a place; pairs of targets; dicts written; raise; calls by names -/
namespace TM
open PySem PySem.Spec PyProof.Rows L2
variable [Tbs]

theorem Reps.set {K : PySem.W.Frag} {M : Addr → Prop} {H : Hp} {ds : List D} {vs : List V} {d : D} {v : V} (r : Reps K M H ds vs) (j : Nat) (h : Rep K M H d v) : Reps K M H (ds.set j d) (vs.set j v) := by
  refine Reps.of_get (by simp [r.length]) fun i x y h1 h2 => ?_
  rw [List.getElem?_set] at h1 h2
  rw [r.length] at h2
  split at h1
  · rename_i e
    rw [if_pos e] at h2
    split at h1
    · rename_i hl
      rw [if_pos hl] at h2
      cases h1; cases h2; exact h
    · cases h1
  · rename_i e
    rw [if_neg e] at h2
    obtain ⟨w, h3, h4⟩ := r.get h1
    rw [h2] at h3; cases h3; exact h4
def sSetIt (i : Nat) (fi fv : FE) : FS := fun δ0 => match isOwnL i δ0 with
  | none => .bad
  | some _ => bndS fv (fun r => bndS fi fun ri δ => match ri.tree δ with
    | some (.int k) => match give δ r with
      | some (d, δ1) => match isOwnL i δ1 with
        | some (kd, ds) => match ixN ds.length k with
          | some j => .nx (δ1.set i (some (kd, .lst (ds.set j d))))
          | none => .bad
        | none => .bad
      | none => .bad
    | _ => .bad) δ0
section
variable {X : Cx} {W : WX} {i : Nat} {x : Str} {e b : Expr} {p pos spos : Pos} {fi fv : FE}
theorem ds_setIt (hN : X.N[i]? = some x) (hv : Vis X.env.scope x) (hd : (x == ("__debug__" : Str)) = false) (hcd : (x == ("__classdict__" : Str)) = false) (hb : DE X W fi b) (he : DE X W fv e)
    (ha : ∀ v, assign (.Subscript (.Name x p) b spos) X.env v = (do
      let ov ← holding [v] (eval (.Name x p) X.env)
      let iv ← holding [v, ov] (eval b X.env)
      standAt spos
      holding [v, ov, iv] (setItem ov iv v)
      release [v, ov, iv] []))
    (hs : swapsWithSole [.Subscript (.Name x p) b spos] e pos.line X.env = pure false) (hw : swappedStores [.Subscript (.Name x p) b spos] e X.env = pure none)
    (h1 : (assignEach [.Subscript (.Name x p) b spos] X.env).map (·.2) = [assign (.Subscript (.Name x p) b spos) X.env]) :
    DS X W (sSetIt i fi fv) (.Assign [.Subscript (.Name x p) b spos] e pos) := by
  refine ps_mono (ps_asg he (pg_sub (pe_var (i := i) hN hv hd hcd) hb set_list ha) hs hw h1) fun D σ H ⟨c, δ, e, h⟩ => ?_
  unfold sSetIt at h
  cases q0 : isOwnL i δ with
  | none => rw [q0] at h; exact h.elim
  | some p0 =>
    rw [q0] at h
    dsimp only at h
    obtain ⟨s0, k0⟩ := isOwnL_some (k := p0.1) (ds := p0.2) q0
    obtain ⟨a, ha, t0, o0, n0⟩ := e.owned s0 k0
    refine ⟨c, δ, e, (Post.bndS (R := RVX X.K) h).imp fun v H1 ⟨δ1, r, e1, s1, hr, h1⟩ => ⟨.ref a, ha, c, δ1, e1, (Post.bndS (R := RVX X.K) h1).imp fun iv H2 ⟨δ2, ri, e2, s2, hri, h2⟩ => ?_⟩⟩
    split at h2
    · rename_i k hk
      split at h2
      · rename_i d δ3 hg
        split at h2
        · rename_i kd ds hol
          split at h2
          · rename_i j hj
            obtain ⟨e3, s3, rp⟩ := e2.give (hr.1.mono s2) hg
            obtain ⟨g3, k3⟩ := isOwnL_some hol
            obtain ⟨a', ha', t3, o3, n3⟩ := e3.owned g3 k3
            rw [ha] at ha'
            cases ha'
            obtain ⟨us, hu, hr3⟩ := t3
            have kp : Keeps (fun b => b = a) H2 (upd H2 a (.lst (us.set j v))) := Keeps.put rfl hu
            have ps : ∀ b, Liv H2 b → (fun b => b = a) b → Uni c.N (Own σ δ3) b := fun b _ z => .inr (by rw [show b = a from z]; exact o3)
            obtain ⟨e4, s4⟩ := e3.write (d' := .lst (ds.set j d)) (o := .lst (us.set j v)) g3 k3 ha ⟨_, upd_same, (hr3.set j rp).mono kp ps fun _ _ z => z⟩
            exact ⟨a, us, k, j, rfl, (hri.1.see e2 hk).int, hu, by rw [hr3.length]; exact hj, h2 σ _ e4⟩
          · exact h2.elim
        · exact h2.elim
      · exact h2.elim
    · exact h2.elim
end
/-! ### several targets at once -/
def sAsgG (a : FG) (f : FE) : FS := bndS f fun r δ => match give δ r with
  | some (d, δ1) => match a d δ1 with
    | some δ2 => .nx δ2
    | none => .bad
  | none => .bad
theorem ds_asgG {X : Cx} {W : WX} {tg e : Expr} {f : FE} {a : FG} {ts : List Nat} {pos : Pos} (he : DE X W f e) (hg : DG X ts a tg) (hs : swapsWithSole [tg] e pos.line X.env = pure false) (hw : swappedStores [tg] e X.env = pure none)
    (h1 : (assignEach [tg] X.env).map (·.2) = [assign tg X.env]) : DS X W (sAsgG a f) (.Assign [tg] e pos) := by
  refine ps_mono (ps_asg he hg hs hw h1) fun D σ H ⟨c, δ, e, h⟩ => ⟨c, δ, e, (Post.bndS (R := RVX X.K) h).imp fun v H1 ⟨δ1, r, e1, s1, hr, h1⟩ => ?_⟩
  split at h1
  · rename_i d δ2 hgv
    split at h1
    · rename_i δ3 ha
      obtain ⟨e2, s2, rp⟩ := e1.give hr.1 hgv
      exact ⟨c, δ2, d, δ3, e2, rp, ha, fun σ' _ e3 => h1 σ' H1 e3⟩
    · exact h1.elim
  · exact h1.elim
/-- shared values are stored, one after another -/
def setShs : List Nat → List D → Env' → Option Env'
  | [], [], δ => some δ
  | i :: is, d :: ds, δ => if i < δ.length then setShs is ds (δ.set i (some (.sh, d))) else none
  | _, _, _ => none
def setVs : List Nat → List V → St → St
  | i :: is, v :: vs, σ => setVs is vs (σ.set i (some v))
  | _, _, σ => σ
section
variable {K : PySem.W.Frag} {c : Ct} {σ : St} {δ δ' : Env'} {H H' : Hp} {W : WX}
theorem EnvR.setShs : ∀ {is : List Nat} {ds : List D} {vs : List V} {c : Ct} {σ : St} {δ δ' : Env'}, EnvR K c σ δ H → Reps K (Uni c.N (Own σ δ)) H ds vs → TM.setShs is ds δ = some δ' → EnvR K c (setVs is vs σ) δ' H
  | [], [], vs, c, σ, δ, δ', e, r, h => by
    simp only [Reps] at r
    subst r
    cases h
    exact e
  | [], _ :: _, _, _, _, _, _, _, _, h => by cases h
  | _ :: _, [], _, _, _, _, _, _, _, h => by cases h
  | i :: is, d :: ds, vs, c, σ, δ, δ', e, r, h => by
    simp only [Reps] at r
    obtain ⟨v, rest, rfl, r1, r2⟩ := r
    simp only [TM.setShs] at h
    split at h
    · rename_i hi
      obtain ⟨c', x, e', k⟩ := Reps.hold e r2
      have e1 : EnvR K c' (σ.set i (some v)) (δ.set i (some (.sh, d))) H := e'.set_sh hi (by rw [ExtN x]; exact r1)
      exact (EnvR.setShs e1 (by have t := k e1; rw [← ExtN x] at t; exact t) h).back x
    · cases h
end
def sPar (is : List Nat) (fa : FA) : FS := bndS fa fun rs => bndS (gives rs) fun ds δ => match setShs is ds δ with
  | some δ' => .nx δ'
  | none => .bad
section
variable {K : PySem.W.Frag} {c : Ct} {σ : St} {δ δ' : Env'} {H H' : Hp} {W : WX}
theorem gives_postS {D : Ends} : ∀ {rs : List RV} {vs : List V} {k : List TM.D → FS} {δ : Env'}, EnvR K c σ δ H → RVs K c σ δ H rs vs → PostS K W c (bndS (gives rs) k δ) D →
    ∃ δ' ds, EnvR K c σ δ' H ∧ Stp σ δ H δ' H ∧ Reps K (Uni c.N (Own σ δ')) H ds vs ∧ PostS K W c (k ds δ') D
  | [], _, k, δ, e, h, q => by
    cases h
    exact ⟨δ, [], e, .refl, Reps.nil, q⟩
  | r :: rs, _, k, δ, e, h, q => by
    cases h with
    | cons h1 h2 =>
      have q' : PostS K W c (match give δ r with | some (d, δ') => bndS (gives rs) (fun ds => k (d :: ds)) δ' | none => .bad) D := by
        unfold bndS gives at q
        cases g : give δ r with
        | none => rw [g] at q; exact q
        | some p =>
          rw [g] at q
          unfold bndS
          dsimp only at q ⊢
          unfold bnd at q
          cases g2 : gives rs p.2 with
          | ok a δ2 => rw [g2] at q; exact q
          | err x δ2 => rw [g2] at q; exact q
          | bad => rw [g2] at q; exact q
      cases g : give δ r with
      | none => rw [g] at q'; exact q'.elim
      | some p =>
        obtain ⟨d, δ'⟩ := p
        rw [g] at q'
        obtain ⟨e1, s1, r1⟩ := e.give h1 g
        obtain ⟨δ2, ds, e2, s2, r2, q2⟩ := gives_postS e1 (RVs.mono s1 h2) q'
        exact ⟨δ2, d :: ds, e2, s1.trans s2, Reps.cons (r1.mono (S := fun _ => False) Keeps.refl (fun _ _ z => z.elim) fun b _ z => z.elim .inl fun y => .inr (s2.own b y)) r2, q2⟩
end
section
variable {X : Cx} {W : WX} {i j l : Nat} {x y z : Str} {a b d : Expr} {fa : FA} {px py pz pt pos : Pos} {kt k2 pt2}
theorem ds_par2 (hc : X.calm = true) (hN : X.N.Nodup) (hi : X.N[i]? = some x) (hj : X.N[j]? = some y) (hij : i ≠ j)
    (hx : X.env.scope.names.lookup x = some .local) (hy : X.env.scope.names.lookup y = some .local) (ha : DA X W fa [a, b])
    (hw : swappedStores [.Tuple [.Name x px, .Name y py] kt pt] (.Tuple [a, b] k2 pt2) X.env = pure (some [x, y]))
    (hs : swapsWithSole [.Tuple [.Name x px, .Name y py] kt pt] (.Tuple [a, b] k2 pt2) pos.line X.env = pure false) :
    DS X W (sPar [i, j] fa) (.Assign [.Tuple [.Name x px, .Name y py] kt pt] (.Tuple [a, b] k2 pt2) pos) := by
  refine ps_mono (ps_par hc hN hi hj hij hx hy ha hw hs) fun D σ H ⟨c, δ, e, h⟩ => ⟨c, δ, e, (Post.bndS (R := RVs X.K) h).imp fun vs H1 ⟨δ1, rs, e1, s1, hr, h1⟩ => ?_⟩
  obtain ⟨δ2, ds, e2, s2, r2, h2⟩ := gives_postS e1 hr h1
  cases q : setShs [i, j] ds δ2 with
  | none => rw [q] at h2; exact h2.elim
  | some δ3 =>
    rw [q] at h2
    have e3 := e2.setShs r2 q
    cases ds with
    | nil => cases q
    | cons d1 ds => cases ds with
      | nil => simp only [setShs] at q; split at q <;> cases q
      | cons d2 ds => cases ds with
        | cons _ _ => simp only [setShs] at q; split at q <;> (try (split at q <;> cases q)) <;> cases q
        | nil =>
          simp only [Reps] at r2
          obtain ⟨v, _, rfl, _, w, _, rfl, _, rfl⟩ := r2
          exact ⟨v, w, rfl, h2 _ _ e3⟩
end
section
variable {X : Cx} {W : WX} {i j l : Nat} {x y z : Str} {a b d : Expr} {fa : FA} {px py pz pt pos : Pos} {kt k2 pt2}
theorem ds_par3 (hc : X.calm = true) (hN : X.N.Nodup) (hi : X.N[i]? = some x) (hj : X.N[j]? = some y) (hl : X.N[l]? = some z) (hij : i ≠ j) (hil : i ≠ l) (hjl : j ≠ l)
    (hx : X.env.scope.names.lookup x = some .local) (hy : X.env.scope.names.lookup y = some .local) (hz : X.env.scope.names.lookup z = some .local) (ha : DA X W fa [a, b, d])
    (hw : swappedStores [.Tuple [.Name x px, .Name y py, .Name z pz] kt pt] (.Tuple [a, b, d] k2 pt2) X.env = pure (some [x, y, z]))
    (hs : swapsWithSole [.Tuple [.Name x px, .Name y py, .Name z pz] kt pt] (.Tuple [a, b, d] k2 pt2) pos.line X.env = pure false) :
    DS X W (sPar [i, j, l] fa) (.Assign [.Tuple [.Name x px, .Name y py, .Name z pz] kt pt] (.Tuple [a, b, d] k2 pt2) pos) := by
  refine ps_mono (ps_par3 hc hN hi hj hl hij hil hjl hx hy hz ha hw hs) fun D σ H ⟨c, δ, e, h⟩ => ⟨c, δ, e, (Post.bndS (R := RVs X.K) h).imp fun vs H1 ⟨δ1, rs, e1, s1, hr, h1⟩ => ?_⟩
  obtain ⟨δ2, ds, e2, s2, r2, h2⟩ := gives_postS e1 hr h1
  cases q : setShs [i, j, l] ds δ2 with
  | none => rw [q] at h2; exact h2.elim
  | some δ3 =>
    rw [q] at h2
    have e3 := e2.setShs r2 q
    cases ds with
    | nil => cases q
    | cons d1 ds => cases ds with
      | nil => simp only [setShs] at q; split at q <;> cases q
      | cons d2 ds => cases ds with
        | nil => simp only [setShs] at q; split at q <;> (try (split at q <;> cases q)) <;> cases q
        | cons d3 ds => cases ds with
          | cons _ _ => simp only [setShs] at q; split at q <;> (try (split at q <;> (try (split at q <;> cases q)) <;> cases q)) <;> cases q
          | nil =>
            simp only [Reps] at r2
            obtain ⟨v, _, rfl, _, w, _, rfl, _, u, _, rfl, _, rfl⟩ := r2
            exact ⟨v, w, u, rfl, h2 _ _ e3⟩
end
/-- an operand whose object no slot owns any more -/
def eGive (f : FE) : FE := bnd f fun r δ => match r with
  | .val d n => .ok (.val d n) δ
  | .own k => match give δ (.own k) with
    | some (d, δ') => .ok (.val d false) δ'
    | none => .bad
theorem de_give {X : Cx} {W : WX} {f : FE} {e : Expr} (h : DE X W f e) : DE X W (eGive f) e := by
  refine pe_mono h fun σ H Q ⟨c, δ, e, h⟩ => ⟨c, δ, e, ?_⟩
  unfold eGive bnd at h
  unfold Post at h ⊢
  cases q : f δ with
  | bad => rw [q] at h; exact h
  | err x δ' => rw [q] at h; exact h
  | ok r δ1 =>
    rw [q] at h
    dsimp only at h
    intro v H' e1 s1 x
    cases r with
    | val d n => exact h v H' e1 s1 x
    | own k =>
      dsimp only at h
      cases g : give δ1 (.own k) with
      | none => rw [g] at h; exact h.elim
      | some p =>
        rw [g] at h
        obtain ⟨e2, s2, rp⟩ := e1.give (d := p.1) (δ' := p.2) x.1 g
        exact h v H' e2 (s1.trans s2) ⟨rp, fun _ _ z => nomatch z⟩
end TM
set_option maxRecDepth 100000
set_option maxHeartbeats 4000000
/-! T17: list of a text, sorted lists of data, join, xs[::-1], wide // -/
namespace TM
open PySem PySem.Spec PyProof.Rows L2
variable [Tbs]
/-! ### // by a wide number -/
def cDivW (i j : Int) : Bool := decide (0 < j) && decide (j < 1606938044258990275541962092341162602522202993782792835301376)
theorem cDivW_ok : ∀ i j, cDivW i j = true → CDivW i j := fun i j h => by
  simp only [cDivW, Bool.and_eq_true, decide_eq_true_eq] at h
  refine wide_div (b := 200) h.1 ?_ (by decide) (by decide)
  have e : (2 : Nat) ^ 200 = 1606938044258990275541962092341162602522202993782792835301376 := by decide +kernel
  rw [e]
  omega
def dDiv : D → D → An := dI cDivW (· / ·)
theorem div_g {K : PySem.W.Frag} : Op2D K (rI CDivW fun i j => .int (i / j)) dDiv := dI_g cDivW_ok
def dMod : D → D → An := dI cMod (· % ·)
theorem mod_g {K : PySem.W.Frag} : Op2D K (rI (fun _ j => 0 < j) fun i j => .int (i % j)) dMod := dI_g cMod_ok
def dPow : D → D → An := dI cPow fun i j => i ^ j.toNat
/-! ### list of a text -/
theorem vals_of_get : ∀ {xs : List V} {us : List Value}, xs.length = us.length → (∀ (i : Nat) x u, xs[i]? = some x → us[i]? = some u → RelV x u) → Vals xs us
  | [], [], _, _ => .nil
  | [], _ :: _, h, _ => by simp at h
  | _ :: _, [], h, _ => by simp at h
  | x :: xs, u :: us, h, q => .cons (q 0 x u rfl rfl) (vals_of_get (by simpa using h) fun i y v h1 h2 => q (i + 1) y v (by simpa using h1) (by simpa using h2))
def rListA (K : PySem.W.Frag) : List V → Hp → VK → Prop := fun xs H Q => (∃ p ys, xs = [.ref p] ∧ (SqL K H p ys ∨ SqT K H p ys) ∧ ∀ l, H l = none → Q (.ref l) (upd H l (.lst ys))) ∨
  ∃ s : Str, xs = [.str s] ∧ s.length ≤ sizeLine ∧ ∀ l, H l = none → Q (.ref l) (upd H l (.lst (s.cps.toList.map fun c => V.str ⟨#[c]⟩)))
theorem call_listA {X : Cx} (hc : X.calm = true) : CallR X (.type "list") (rListA X.K) := by
  intro pins st σ H xs us Q I r h
  rcases h with h | ⟨x, rfl, hz, q⟩
  · exact call_list_of pins st σ H xs us Q I r h
  · obtain ⟨u, rfl, rx⟩ := vals1 r
    obtain ⟨t, rfl⟩ := rx
    refine call_list_str (I.ok.hd hc) x t (fun h' tk acc' c' kp e it => ?_) hz
    have vl : Vals (x.cps.toList.map fun c => V.str ⟨#[c]⟩) acc'.toList := by
      refine vals_of_get (by simp [it.1]) fun i y v h1 h2 => ?_
      rw [Array.getElem?_toList] at h2
      obtain ⟨c, u, e1, rfl⟩ := it.2 i v h2
      rw [List.getElem?_map, Array.getElem?_toList, e1] at h1
      cases h1
      exact ⟨u, rfl⟩
    exact ⟨.ref st.heap.objs.size, _, I.laid (t' := tk) kp (Nat.le_refl _) (show ObjOk X.prog X.w _ h' _ (.lst (x.cps.toList.map fun c => V.str ⟨#[c]⟩)) from ⟨by rw [List.length_map, Array.length_toList]; exact hz, acc'.toList, c', vl, by simpa using e⟩), rfl, q _ (I.hok.fresh (Nat.le_refl _))⟩
def dListA : List D → An
  | [.lst ds] => some (.lst ds, true)
  | [.tup ds] => some (.lst ds, true)
  | [.str s] => if s.length ≤ SZ then some (.lst (signs s), true) else none
  | _ => none
theorem reps_signs {K : PySem.W.Frag} {M : Addr → Prop} {H : Hp} : ∀ l : List Nat, Reps K M H (l.map fun c => .str ⟨#[c]⟩) (l.map fun c => V.str ⟨#[c]⟩)
  | [] => Reps.nil
  | c :: l => by
    rw [List.map_cons, List.map_cons]
    exact Reps.cons (by simp only [Rep]) (reps_signs l)
theorem listA_g {K : PySem.W.Frag} : OpND K (rListA K) dListA := by
  intro N M H xs us hn hf hx
  unfold dListA
  split
  · exact fun d new e Q q => .inl (list_g N M H _ us hn hf hx d new e Q q)
  · exact fun d new e Q q => .inl (list_g N M H _ us hn hf hx d new e Q q)
  · split
    · rename_i s hz
      obtain ⟨v, rfl, h1⟩ := hx.one
      cases h1.str
      exact gives_list (reps_signs _) fun Q q => .inr ⟨_, rfl, by rw [sz_eq]; exact hz, q⟩
    · exact Gives.none
  · exact Gives.none
/-! ### sorted -/
def rSortD (K : PySem.W.Frag) : List V → Hp → VK → Prop := fun xs H Q => ∃ (a : Addr) (β : Type) (bs : List β) (fv : β → V) (fp : β → PyData), xs = [.ref a] ∧ SqL K H a (bs.map fv) ∧ (∀ b ∈ bs, Dp K H (fv b) (fp b)) ∧
  PySem.W.AllAlike (bs.map fp) ∧ PySem.W.Sortable (bs.map fp) ∧ (∀ b ∈ bs, (fp b).depth ≤ 60) ∧ ∀ p, H p = none → Q (.ref p) (upd H p (.lst ((bs.mergeSort (PySem.W.dataLe false fp)).map fv)))
theorem each_of_vals {β : Type} {fv : β → V} : ∀ {bs : List β} {us : List Value}, Vals (bs.map fv) us → PySem.W.EachIs (fun v b => RelV (fv b) v) us bs
  | [], us, h => by cases h; exact .nil
  | b :: bs, us, h => by
    rw [List.map_cons] at h
    cases h with
    | cons h1 h2 => exact .cons h1 (each_of_vals h2)
theorem vals_of_each {β : Type} {fv : β → V} : ∀ {bs : List β} {us : List Value}, PySem.W.EachIs (fun v b => RelV (fv b) v) us bs → Vals (bs.map fv) us
  | [], _, .nil => .nil
  | _ :: _, _, .cons h1 h2 => .cons h1 (vals_of_each h2)
theorem each_mem {α β : Type} {R R' : α → β → Prop} : ∀ {as : List α} {bs : List β}, PySem.W.EachIs R as bs → (∀ a b, b ∈ bs → R a b → R' a b) → PySem.W.EachIs R' as bs
  | _, _, .nil, _ => .nil
  | _, _, .cons h1 h2, k => .cons (k _ _ (List.mem_cons_self) h1) (each_mem h2 fun a b hb => k a b (List.mem_cons_of_mem _ hb))
theorem call_sortD {X : Cx} (hu : X.A.units + 65 < cLine) : CallR X (.builtin "sorted") (rSortD X.K) := by
  intro pins s σ H vs us Q I r h
  obtain ⟨a, β, bs, fv, fp, rfl, hs, hd, hal, hk, hdp, q⟩ := h
  obtain ⟨its, rv, hl, hz⟩ := I.list hs
  rw [Vals.ref1 r]
  have e := each_of_vals rv
  have hlen := rv.length
  rw [List.length_map] at hlen
  refine PySem.W.sorted_data (R := fun v b => RelV (fv b) v) (enc := fp) (vs := its) (bs := bs) hl.isList e (each_mem e fun v b hb h => by obtain ⟨as, r1⟩ := Dp.reads I (fp b) (fv b) v (hd b hb) h; exact ⟨as, r1⟩) hal hk (by simpa using hz) (fun b hb => by have := hdp b hb; omega) fun out hlen hout => ?_
  obtain ⟨ep, he'⟩ := PyProof.Rows.sortedAll_at s.heap its out.toArray
  have vl := vals_of_each hout
  have hlen2 : ((bs.mergeSort (PySem.W.dataLe false fp)).map fv).length ≤ sizeLine := by rw [List.length_map, List.length_mergeSort]; simpa using hz
  exact ⟨.ref _, upd H (s.heap.objs.size + 1) (.lst ((bs.mergeSort (PySem.W.dataLe false fp)).map fv)), I.laid (t' := s.toks) (fun _ _ => PyProof.Rows.sortedAll_old) (Nat.le_succ _) ⟨hlen2, out, ep, vl, he'⟩, rfl, q _ (I.hok.fresh (Nat.le_succ _))⟩
/-- may these be sorted -/
def srtOk (ps : List PyData) : Bool := (ps.all fun d => ps.all fun d' => PySem.W.alike d d') && (ps.all fun d => decide (d.depth ≤ 60)) &&
  ((ps.all fun d => match d with | .tuple (_ :: _) => true | _ => false) || ps.all fun d => match d with | .none => false | .tuple _ => false | _ => true)
theorem srtOk_ok {ps : List PyData} (h : srtOk ps = true) : PySem.W.AllAlike ps ∧ PySem.W.Sortable ps ∧ ∀ d ∈ ps, d.depth ≤ 60 := by
  simp only [srtOk, Bool.and_eq_true, Bool.or_eq_true, List.all_eq_true, decide_eq_true_eq] at h
  obtain ⟨⟨h1, h2⟩, h3⟩ := h
  refine ⟨fun d hd d' hd' => h1 d hd d' hd', h3.imp (fun k d hd => ?_) (fun k d hd => ?_), h2⟩
  · have := k d hd
    split at this
    · exact ⟨_, _, rfl⟩
    · cases this
  · have := k d hd
    split at this
    · cases this
    · cases this
    · rename_i n1 n2
      exact ⟨n1, n2⟩
def encD (d : D) : PyData := (toP d).getD .none
def leD : D → D → Bool := PySem.W.dataLe false encD
def srtD (ds : List D) : Option (List D) := match toPs ds with
  | some ps => if srtOk ps then some (ds.mergeSort leD) else none
  | none => none
def dSorted : List D → An
  | [.lst ds] => (srtD ds).map fun r => (.lst r, true)
  | _ => none
section
variable {K : PySem.W.Frag} {N M : Addr → Prop} {H : Hp}
theorem toPs_map : ∀ {ds : List D} {ps : List PyData}, toPs ds = some ps → ps = ds.map encD ∧ ∀ d ∈ ds, toP d = some (encD d)
  | [], ps, h => by simp only [toPs, Option.some.injEq] at h; subst h; exact ⟨rfl, fun d hd => nomatch hd⟩
  | d :: ds, ps, h => by
    simp only [toPs] at h
    split at h
    · rename_i p qs h1 h2
      cases h
      obtain ⟨e1, e2⟩ := toPs_map h2
      have e3 : encD d = p := by unfold encD; rw [h1]; rfl
      refine ⟨by rw [e1, List.map_cons, e3], fun x hx => ?_⟩
      rcases List.mem_cons.mp hx with rfl | hx
      · rw [h1, e3]
      · exact e2 x hx
    · cases h
theorem Reps.zip_mem : ∀ {ds : List D} {vs : List V}, Reps K M H ds vs → (ds.zip vs).map (·.1) = ds ∧ (ds.zip vs).map (·.2) = vs ∧ ∀ p ∈ ds.zip vs, Rep K M H p.1 p.2
  | [], vs, h => by simp only [Reps] at h; subst h; exact ⟨rfl, rfl, fun p hp => nomatch hp⟩
  | d :: ds, _, h => by
    simp only [Reps] at h
    obtain ⟨v, r, rfl, h1, h2⟩ := h
    obtain ⟨e1, e2, e3⟩ := Reps.zip_mem h2
    refine ⟨by rw [List.zip_cons_cons, List.map_cons, e1], by rw [List.zip_cons_cons, List.map_cons, e2], fun p hp => ?_⟩
    rw [List.zip_cons_cons] at hp
    rcases List.mem_cons.mp hp with rfl | hp
    · exact h1
    · exact e3 p hp
theorem Reps.of_mem : ∀ {l : List (D × V)}, (∀ p ∈ l, Rep K M H p.1 p.2) → Reps K M H (l.map (·.1)) (l.map (·.2))
  | [], _ => Reps.nil
  | p :: l, h => by
    rw [List.map_cons, List.map_cons]
    exact Reps.cons (h p List.mem_cons_self) (Reps.of_mem fun q hq => h q (List.mem_cons_of_mem _ hq))
theorem merge_fst (bs : List (D × V)) (le : D → D → Bool) : (bs.mergeSort (fun a b => le a.1 b.1)).map (·.1) = (bs.map (·.1)).mergeSort le := List.map_mergeSort (fun a _ b _ => rfl)
theorem sorted_g : OpND K (rSortD K) dSorted := by
  intro N M H xs us hn hf hx
  unfold dSorted
  split
  · rename_i ds
    obtain ⟨v, rfl, h1⟩ := hx.one
    obtain ⟨a, vs, rfl, ⟨na, ha⟩, hr⟩ := h1.lst
    unfold srtD
    split
    · rename_i ps hp
      split
      · rename_i hok
        obtain ⟨k1, k2, k3⟩ := srtOk_ok hok
        obtain ⟨e1, e2⟩ := toPs_map hp
        obtain ⟨z1, z2, z3⟩ := hr.zip_mem
        have em : (ds.zip vs).map (fun b => encD b.1) = ps := by
          have t : (ds.zip vs).map (fun b => encD b.1) = ((ds.zip vs).map (·.1)).map encD := by rw [List.map_map]; rfl
          rw [t, z1, e1]
        have leq : (PySem.W.dataLe false fun b : D × V => encD b.1) = fun a b => leD a.1 b.1 := rfl
        have rp : Reps K M H (((ds.zip vs).mergeSort (fun a b => leD a.1 b.1)).map (·.1)) (((ds.zip vs).mergeSort (fun a b => leD a.1 b.1)).map (·.2)) := Reps.of_mem fun p hp => z3 p ((List.mem_mergeSort).mp hp)
        rw [merge_fst, z1] at rp
        refine gives_list rp fun Q q => ⟨a, D × V, ds.zip vs, (·.2), fun b => encD b.1, rfl, by rw [z2]; exact SL.sq (N := N) ⟨na, ha⟩, fun b hb => ?_, by rw [em]; exact k1, by rw [em]; exact k2, fun b hb => ?_, fun p hp => ?_⟩
        · exact (z3 b hb).dp (e2 b.1 (List.of_mem_zip hb).1)
        · exact k3 _ (by rw [← em]; exact List.mem_map_of_mem hb)
        · rw [leq]
          exact q p hp
      · exact Gives.none
    · exact Gives.none
  · exact Gives.none
end
end TM
set_option maxRecDepth 100000
set_option maxHeartbeats 4000000
/-! T18: methods of texts, calls by keywords, dict displays, xs[::-1] -/
namespace TM
open PySem PySem.Spec PyProof.Rows L2
variable [Tbs]
/-! ### methods of a text -/
def eS1 (g : Str → D → An) (fo fa : FE) : FE := bnd fo fun ro δ1 => match ro.tree δ1 with
  | some (.str s) => bnd fa (fun ra δ => match ra.tree δ with
    | some y => fin (g s y) δ
    | none => .bad) δ1
  | _ => .bad
def strsD : List D → Option (List Str)
  | [] => some []
  | .str s :: ds => (strsD ds).map (s :: ·)
  | _ :: _ => none
def itemsD : D → Option (List D)
  | .lst ds => some ds
  | .tup ds => some ds
  | _ => none
def dJoin (s : Str) (y : D) : An := match (itemsD y).bind strsD with
  | some ys => if (ys.map (·.length)).sum + ys.length * s.length ≤ SZ then some (.str (Txt.join s ys), false) else none
  | none => none
abbrev rJoin (K : PySem.W.Frag) : V → List V → Hp → VK → Prop := fun x xs H Q => ∃ a p, ∃ ys : List Str, x = .str a ∧ xs = [.ref p] ∧ (SqL K H p (ys.map V.str) ∨ SqT K H p (ys.map V.str)) ∧
  (ys.map (·.length)).sum + ys.length * a.length ≤ 16777216 ∧ Q (.str (Txt.join a ys)) H
def OpS (K : PySem.W.Frag) (r : V → List V → Hp → VK → Prop) (g : Str → D → An) : Prop := ∀ N M H s y v, (∀ a, N a → M a) → (∀ p, H p = none → ¬ M p) → Look K N M H y v → Gives K (r (.str s) [v]) M H (g s y)
theorem Reps.strs {K : PySem.W.Frag} {M : Addr → Prop} {H : Hp} : ∀ {ds : List D} {vs : List V} {ys : List Str}, Reps K M H ds vs → strsD ds = some ys → vs = ys.map V.str
  | [], vs, ys, r, h => by simp only [Reps] at r; simp only [strsD, Option.some.injEq] at h; subst r h; rfl
  | d :: ds, vs, ys, r, h => by
    simp only [Reps] at r
    obtain ⟨v, r', rfl, h1, h2⟩ := r
    cases d with
    | str s =>
      simp only [strsD, Option.map_eq_some_iff] at h
      obtain ⟨zs, h3, rfl⟩ := h
      simp only [Rep] at h1
      rw [h1, Reps.strs h2 h3]
      rfl
    | _ => simp [strsD] at h
theorem join_g {K : PySem.W.Frag} : OpS K (rJoin K) dJoin := by
  intro N M H s y v hn hf hy
  unfold dJoin
  split
  · rename_i ys hys
    split
    · rename_i hz
      obtain ⟨ds, h1, h2⟩ := Option.bind_eq_some_iff.mp hys
      cases y with
      | lst xs =>
        cases h1
        obtain ⟨a, vs, rfl, ⟨na, ha⟩, hr⟩ := hy.lst
        have e := hr.strs h2
        exact gives_flat rStr fun Q q => ⟨s, a, ys, rfl, rfl, .inl (by rw [← e]; exact SL.sq (N := N) ⟨na, ha⟩), hz, q⟩
      | tup xs =>
        cases h1
        obtain ⟨a, vs, rfl, ha, hr⟩ := hy.tup
        have e := hr.strs h2
        exact gives_flat rStr fun Q q => ⟨s, a, ys, rfl, rfl, .inr (by rw [← e]; exact ha.sq), hz, q⟩
      | _ => cases h1
    · exact Gives.none
  · exact Gives.none
section
variable {X : Cx} {W : WX} {o e : Expr} {fo fa : FE} {apos pos : Pos}
theorem s1_t {r : V → List V → Hp → VK → Prop} {g : Str → D → An} (hg : OpS X.K r g) {σ : St} {H : Hp} {Q : VK} (h : tE X.K W (eS1 g fo fa) σ H Q) : tM1 r (tE X.K W fo) (tE X.K W fa) σ H Q := by
  obtain ⟨c, δ, e, h⟩ := h
  refine ⟨c, δ, e, (Post.bnd (R := RVX X.K) h).imp fun u H1 ⟨δ1, ro, e1, s1, r1, h1⟩ => ?_⟩
  split at h1
  · rename_i s hs
    have hu : u = .str s := (r1.1.see e1 hs).str
    subst hu
    refine ⟨⟨s, rfl⟩, c, δ1, e1, (Post.bnd (R := RVX X.K) h1).imp fun v H2 ⟨δ2, ra, e2, s2, r2, h2⟩ => ?_⟩
    split at h2
    · rename_i y hy
      exact Post.fin e2 (hg _ _ _ s y v (fun _ z => .inl z) e2.free (r2.1.see e2 hy)) h2
    · exact h2.elim
  · exact h1.elim
theorem de_join (ho : DE X W fo o) (he : DE X W fa e) (hs : starEach [e] X.env = [(false, eval e X.env)]) (hbase : attributeBase o "join" X.env (eval o X.env) = eval o X.env) (hline : (apos.endLine == pos.line) = true) :
    DE X W (eS1 dJoin fo fa) (.Call (.Attribute o "join" apos) [e] [] pos) := pe_mono (pe_join ho he hs hbase hline) fun σ H Q h => s1_t join_g h
end
/-! ### calls by keywords -/
def pm {α : Type} (is : List Nat) (l : List α) : List α := is.filterMap (l[·]?)
def gk (m : Nat) (is : List Nat) {α : Type} (us ws : List α) : List α := if us.isEmpty && decide (ws.length = m) then pm is ws else []
theorem RVs.pm {K : PySem.W.Frag} {c : Ct} {σ : St} {δ : Env'} {H : Hp} {rs : List RV} {vs : List V} (r : RVs K c σ δ H rs vs) : ∀ is : List Nat, RVs K c σ δ H (TM.pm is rs) (TM.pm is vs)
  | [] => .nil
  | i :: is => by
    have hl := r.length
    have ih := RVs.pm r is
    unfold TM.pm at ih ⊢
    rw [List.filterMap_cons, List.filterMap_cons]
    cases h : rs[i]? with
    | none =>
      have h2 : vs[i]? = none := by rw [List.getElem?_eq_none_iff] at h ⊢; omega
      rw [h2]
      exact ih
    | some x =>
      obtain ⟨v, h1, h2⟩ := r.get h
      rw [h1]
      exact .cons h2 ih
theorem Vals.pm {vs : List V} {us : List Value} (r : Vals vs us) : ∀ is : List Nat, Vals (TM.pm is vs) (TM.pm is us)
  | [] => .nil
  | i :: is => by
    have hl := r.length
    have ih := Vals.pm r is
    unfold TM.pm at ih ⊢
    rw [List.filterMap_cons, List.filterMap_cons]
    cases h : vs[i]? with
    | none =>
      have h2 : us[i]? = none := by rw [List.getElem?_eq_none_iff] at h ⊢; omega
      rw [h2]
      exact ih
    | some x =>
      obtain ⟨v, h1, h2⟩ := Vals.get r h
      rw [h1]
      exact .cons h2 ih
theorem gk_rel (m : Nat) (is : List Nat) {vs : List V} {us : List Value} {zs : List V} {ws : List Value} (r : Vals vs us) (q : Vals zs ws) : Vals (gk m is vs zs) (gk m is us ws) := by
  unfold gk
  have e1 : vs.isEmpty = us.isEmpty := isEmpty_of_length r.length
  rw [e1, q.length]
  split
  · exact Vals.pm q is
  · exact .nil
theorem kbinds {K : PySem.W.Frag} {fd : FuncData} {p : Str} {ps ks : List Str} (m : Nat) (is : List Nat) (h : ∀ ws : List Value, ws.length = m → bindArgs fd ⟨[], ks.zip ws⟩ = pure ((p :: ps).zip (pm is ws))) : KBinds K fd (p :: ps) ks (gk m is) (gk m is) := by
  refine ⟨fun s us ws hK hl => ?_, fun r q => gk_rel m is r q⟩
  unfold gk at hl ⊢
  split at hl
  · rename_i hc
    simp only [Bool.and_eq_true, List.isEmpty_iff, decide_eq_true_eq] at hc
    obtain ⟨rfl, hm⟩ := hc
    rw [if_pos (by simp [hm])]
    exact .of_eq (h ws hm)
  · simp at hl
def eCallK (m n : Nat) (is : List Nat) (F : FF) (fa : FA) : FE := bnd fa fun rs => if rs.length = m then callM n F (pm is rs) else bad'
section
variable {X : Cx} {W : WX} {k n : Nat} {f : Addr} {fd : FuncData} {ps ks : List Str} {F : FF} {x : Str} {p pos kpos : Pos} {e : Expr} {es : List Expr} {fa : FA} {fe : FE} {kws : List Keyword} {nm : Option Str}
abbrev DK (X : Cx) (W : WX) (f : FA) (kws : List Keyword) : Prop := PK X kws (tA X.K W f)
theorem pk_mono {t t' : TA} (h : PK X kws t) (m : ∀ σ H Q, t' σ H Q → t σ H Q) : PK X kws t' := ⟨fun pos pins s σ H Q I q => h.run pos pins s σ H Q I (m _ _ _ q)⟩
theorem dk_nil : DK X W aNil [] := pk_mono pk_nil fun σ H Q ⟨c, δ, e, h⟩ => h [] H e .refl .nil
theorem dk_cons (ha : DE X W fe e) (hr : DK X W fa kws) : DK X W (aCons fe fa) (⟨nm, e, kpos⟩ :: kws) := by
  refine pk_mono (pk_cons ha hr) fun σ H Q ⟨c, δ, e, h⟩ => ?_
  refine ⟨c, δ, e, (Post.bnd (R := RVX X.K) h).imp fun u H1 ⟨δ1, ra, e1, s1, r1, h1⟩ => ⟨c, δ1, e1, (Post.bnd (R := RVs X.K) h1).imp fun v H2 ⟨δ2, rb, e2, s2, r2, h2⟩ => ?_⟩⟩
  exact h2 _ _ e2 .refl (.cons (r1.1.mono s2) r2)
theorem run_fnkS {CX : CXT} {sp : Sp} {E : St → XK} {g : List Value → List Value → List Value} {gV : List V → List V → List V} {pins : List (Addr × Obj)} {σ : St} {H : Hp} {s : Shared} {Q : VK} {us ws : List Value} {vs zs : List V} (F : FnOk X.prog X.w X.K X.mg X.base CX k f fd ps sp) (hr : Room k X.A) (hb : KBinds X.K fd ps ks g gV) (hx : PassesAt CX X σ (E σ))
    (I : Inv X pins σ H s) (r : Vals vs us) (rz : Vals zs ws) (h : sp (gV vs zs) H Q (E σ)) : wpAny (model X.prog X.w) X.A (call (.ref f) us (ks.zip ws)) (EP X pins σ Q) X.xe s := by
  have r2 := hb.rel r rz
  have hl : (g us ws).length = ps.length := by rw [← r2.length]; exact F.len _ _ _ _ h
  refine wpAny_call (codeAny_mono (F.run X.A X.stack s H ⟨us, ks.zip ws⟩ (g us ws) (gV vs zs) Q (E σ) hr I.env0 (hb.to s us ws I.kIn hl) r2 h) fun r s' hq => ?_)
  cases r with
  | error e => exact hx pins H s e s' I hq
  | ok fl =>
    cases fl with
    | ret u => exact I.after hq
    | next => exact False.elim hq
    | brk => exact False.elim hq
    | cont => exact False.elim hq
theorem pe_callK0S {CX : CXT} {sp : Sp} {E : St → XK} {tk : TA} {g : List Value → List Value → List Value} {gV : List V → List V → List V} (F : FnOk X.prog X.w X.K X.mg X.base CX k f fd ps sp) (hr : Room k X.A) (hg : Gl X x) (hm : X.mg x = some (.ref f)) (hk : PySem.W.keepIn X.K (.ref f) = true) (hb : KBinds X.K fd ps ks g gV)
    (hx : ∀ σ, PassesAt CX X σ (E σ)) (hkw : PK X kws tk) (hall : (backToKw pos (keywordEach kws X.env)).all (·.1.isSome) = true) (hks : (backToKw pos (keywordEach kws X.env)).filterMap (·.1) = ks)
    (hdb : (x == ("__debug__" : Str)) = false) (hpl : ((backTo pos (starEach [] X.env)).any (·.1) || (backToKw pos (keywordEach kws X.env)).any (·.1.isNone)) = false) :
    PE X (.Call (.Name x p) [] kws pos) (fun σ H Q => tk σ H fun zs H2 => sp (gV [] zs) H2 Q (E σ)) := by
  refine ⟨fun pins s σ H Q I h => ?_⟩
  refine wpAny_Call_Name_kw (ld_glob I hg hm ?_ hdb)
  refine PySem.W.callWith_KW0 (h₀ := X.base) I.ok.mod.kin hk hall ?_ hpl
  refine thn (hkw.run pos pins s σ H _ I h) fun ws s2 ⟨zs, H2, I2, rz, q2⟩ => ⟨I2.kIn, ?_⟩
  rw [hks]
  exact run_fnkS (us := []) (E := E) F hr hb (hx σ) I2 .nil rz q2
theorem de_callK {m : Nat} {is : List Nat} (G : FnOk X.prog X.w X.K X.mg X.base (L2.CX X.prog X.w) k f fd ps (treeSp X.K n F)) (tk : Takes X W) (hr : Room k X.A) (hg : Gl X x) (hm : X.mg x = some (.ref f)) (hk : PySem.W.keepIn X.K (.ref f) = true) (hb : KBinds X.K fd ps ks (gk m is) (gk m is))
    (ha : DK X W fa kws) (hall : (backToKw pos (keywordEach kws X.env)).all (·.1.isSome) = true) (hks : (backToKw pos (keywordEach kws X.env)).filterMap (·.1) = ks)
    (hdb : (x == ("__debug__" : Str)) = false) (hpl : ((backTo pos (starEach [] X.env)).any (·.1) || (backToKw pos (keywordEach kws X.env)).any (·.1.isNone)) = false) :
    DE X W (eCallK m n is F fa) (.Call (.Name x p) [] kws pos) := by
  refine pe_mono (pe_callK0S (E := WE W) G hr hg hm hk hb (fun σ => passAt tk σ) ha hall hks hdb hpl) fun σ H Q ⟨c, δ, e, h⟩ => ?_
  refine ⟨c, δ, e, (Post.bnd (R := RVs X.K) h).imp fun vs H1 ⟨δ1, rs, e1, s1, hr, h1⟩ => ?_⟩
  split at h1
  · rename_i hlen
    have e2 : gk m is [] vs = pm is vs := by
      unfold gk
      rw [if_pos (by simp [← hr.length, hlen])]
    rw [e2]
    exact call_tree e1 (hr.pm is) h1
  · exact h1.elim
end
/-! ### xs[::-1] -/
def dRev : D → An
  | .lst ds => some (.lst ds.reverse, true)
  | _ => none
theorem Reps.reverse {K : PySem.W.Frag} {M : Addr → Prop} {H : Hp} : ∀ {ds : List D} {vs : List V}, Reps K M H ds vs → Reps K M H ds.reverse vs.reverse
  | [], vs, h => by simp only [Reps] at h; subst h; exact Reps.nil
  | d :: ds, _, h => by
    simp only [Reps] at h
    obtain ⟨v, r, rfl, h1, h2⟩ := h
    rw [List.reverse_cons, List.reverse_cons]
    exact (Reps.reverse h2).append (Reps.cons h1 Reps.nil)
theorem rev_g {K : PySem.W.Frag} : Op1D K (fun x H Q => ∃ a xs, x = .ref a ∧ SqL K H a xs ∧ ∀ p, H p = none → Q (.ref p) (upd H p (.lst xs.reverse))) dRev := by
  intro N M H x u hn hf hx
  unfold dRev
  split
  · obtain ⟨a, vs, rfl, ⟨na, ha⟩, hr⟩ := hx.lst
    exact gives_list hr.reverse fun Q q => ⟨a, vs, rfl, SL.sq (N := N) ⟨na, ha⟩, q⟩
  · exact Gives.none
section
variable {X : Cx} {W : WX} {e : Expr} {f : FE} {k : Nat} {p1 p2 p3 pos : Pos}
theorem de_rev (he : DE X W f e) : DE X W (e1 dRev f) (.Subscript e (.Slice none none (some (.UnaryOp .USub (.Constant (.int 1) k p1) p2)) p3) pos) := by
  refine pe_mono (pe_revL he) fun σ H Q ⟨c, δ, e, h⟩ => ⟨c, δ, e, (Post.bnd (R := RVX X.K) h).imp fun u H1 ⟨δ1, ra, e1, s1, r1, h1⟩ => ?_⟩
  split at h1
  · rename_i x hx
    exact Post.fin e1 (rev_g _ _ _ _ _ (fun _ z => .inl z) e1.free (r1.1.see e1 hx)) h1
  · exact h1.elim
end
/-! ### dict displays -/
def putD (kvs : List (Key × D)) (k : Key) (v : D) : List (Key × D) :=
  if (kvs.any fun kv => decide (kv.1 = k)) = true then kvs.map (fun kv => if kv.1 = k then (kv.1, v) else kv) else kvs ++ [(k, v)]
def mergeD (kvs more : List (Key × D)) : List (Key × D) := more.foldl (fun acc kv => putD acc kv.1 kv.2) kvs
def pairsD : List D → Option (List (Key × D))
  | [] => some []
  | .int i :: d :: r => (pairsD r).map ((.inl i, d) :: ·)
  | .str s :: d :: r => (pairsD r).map ((.inr s, d) :: ·)
  | _ => none
def eDct (fa : FA) : FE := bnd fa fun rs => bnd (gives rs) fun ds => match pairsD ds with
  | some kds => if kds.length ≤ 15 then ret' (.val (.dct (mergeD [] kds)) true) else bad'
  | none => bad'
section
variable {K : PySem.W.Frag} {M : Addr → Prop} {H : Hp}
theorem RepK.cons {k : Key} {d : D} {v : V} {ds : List (Key × D)} {vs : List (Key × V)} (h : Rep K M H d v) (q : RepK K M H ds vs) : RepK K M H ((k, d) :: ds) ((k, v) :: vs) := by
  simp only [RepK]; exact ⟨v, vs, rfl, h, q⟩
theorem RepK.nil : RepK K M H [] [] := by simp only [RepK]
theorem RepK.snoc {k : Key} {d : D} {v : V} : ∀ {ds : List (Key × D)} {vs : List (Key × V)}, RepK K M H ds vs → Rep K M H d v → RepK K M H (ds ++ [(k, d)]) (vs ++ [(k, v)])
  | [], vs, h, q => by simp only [RepK] at h; subst h; exact RepK.cons q RepK.nil
  | (k', d') :: ds, _, h, q => by
    simp only [RepK] at h
    obtain ⟨v', r, rfl, h1, h2⟩ := h
    exact RepK.cons h1 (RepK.snoc h2 q)
theorem RepK.any {k : Key} : ∀ {ds : List (Key × D)} {vs : List (Key × V)}, RepK K M H ds vs → (vs.any fun kv => decide (kv.1 = k)) = (ds.any fun kv => decide (kv.1 = k))
  | [], vs, h => by simp only [RepK] at h; subst h; rfl
  | (k', d') :: ds, _, h => by
    simp only [RepK] at h
    obtain ⟨v', r, rfl, h1, h2⟩ := h
    rw [List.any_cons, List.any_cons, RepK.any h2]
theorem RepK.mapP {k : Key} {d : D} {v : V} (q : Rep K M H d v) : ∀ {ds : List (Key × D)} {vs : List (Key × V)}, RepK K M H ds vs → RepK K M H (ds.map fun kv => if kv.1 = k then (kv.1, d) else kv) (vs.map fun kv => if kv.1 = k then (kv.1, v) else kv)
  | [], vs, h => by simp only [RepK] at h; subst h; exact RepK.nil
  | (k', d') :: ds, _, h => by
    simp only [RepK] at h
    obtain ⟨v', r, rfl, h1, h2⟩ := h
    rw [List.map_cons, List.map_cons]
    by_cases e : k' = k
    · rw [if_pos e, if_pos e]; exact RepK.cons q (RepK.mapP q h2)
    · rw [if_neg e, if_neg e]; exact RepK.cons h1 (RepK.mapP q h2)
theorem RepK.put {k : Key} {d : D} {v : V} {ds : List (Key × D)} {vs : List (Key × V)} (h : RepK K M H ds vs) (q : Rep K M H d v) : RepK K M H (putD ds k d) (putK vs k v) := by
  unfold putD putK
  rw [h.any]
  split
  · exact RepK.mapP q h
  · exact h.snoc q
theorem RepK.merge : ∀ {ms : List (Key × D)} {ns : List (Key × V)} {ds : List (Key × D)} {vs : List (Key × V)}, RepK K M H ms ns → RepK K M H ds vs → RepK K M H (mergeD ds ms) (mergeK vs ns)
  | [], ns, ds, vs, h, q => by simp only [RepK] at h; subst h; exact q
  | (k, d) :: ms, _, ds, vs, h, q => by
    simp only [RepK] at h
    obtain ⟨v, r, rfl, h1, h2⟩ := h
    exact RepK.merge (ds := putD ds k d) (vs := putK vs k v) h2 (q.put h1)
def flat : List (V × V) → List V
  | [] => []
  | p :: r => p.1 :: p.2 :: flat r
theorem Reps.pairs : ∀ {ds : List D} {ps : List (V × V)} {kds : List (Key × D)}, Reps K M H ds (flat ps) → pairsD ds = some kds → ∃ kvs, RepK K M H kds kvs ∧ ps = kvs.map fun kv => (kV kv.1, kv.2)
  | [], ps, kds, r, h => by
    simp only [Reps] at r
    simp only [pairsD, Option.some.injEq] at h
    subst h
    cases ps with
    | nil => exact ⟨[], RepK.nil, rfl⟩
    | cons p r' => cases r
  | d :: [], ps, kds, r, h => by
    cases d <;> simp [pairsD] at h
  | d :: x :: ds, ps, kds, r, h => by
    cases ps with
    | nil => simp only [Reps, flat] at r; obtain ⟨_, _, z, _⟩ := r; cases z
    | cons p ps =>
      simp only [flat, Reps] at r
      obtain ⟨v, r', e1, h1, w, r2, e2, h2, h3⟩ := r
      cases e1
      cases e2
      cases d with
      | int i =>
        simp only [pairsD, Option.map_eq_some_iff] at h
        obtain ⟨kds', h4, rfl⟩ := h
        obtain ⟨kvs, q1, rfl⟩ := Reps.pairs h3 h4
        simp only [Rep] at h1
        exact ⟨(.inl i, p.2) :: kvs, RepK.cons h2 q1, by rw [List.map_cons]; show p :: _ = (V.int i, p.2) :: _; rw [← h1]⟩
      | str i =>
        simp only [pairsD, Option.map_eq_some_iff] at h
        obtain ⟨kds', h4, rfl⟩ := h
        obtain ⟨kvs, q1, rfl⟩ := Reps.pairs h3 h4
        simp only [Rep] at h1
        exact ⟨(.inr i, p.2) :: kvs, RepK.cons h2 q1, by rw [List.map_cons]; show p :: _ = (V.str i, p.2) :: _; rw [← h1]⟩
      | _ => simp [pairsD] at h
theorem gives_ok {c : Ct} {σ : St} {H : Hp} : ∀ {rs : List RV} {vs : List V} {δ : Env'}, EnvR K c σ δ H → RVs K c σ δ H rs vs → match gives rs δ with
    | .ok ds δ' => EnvR K c σ δ' H ∧ Stp σ δ H δ' H ∧ Reps K (Uni c.N (Own σ δ')) H ds vs
    | .err _ _ => False
    | .bad => True
  | [], _, δ, e, h => by
    cases h
    exact ⟨e, .refl, Reps.nil⟩
  | r :: rs, _, δ, e, h => by
    cases h with
    | cons h1 h2 =>
      unfold gives
      cases g : give δ r with
      | none => exact True.intro
      | some p =>
        obtain ⟨d, δ'⟩ := p
        obtain ⟨e1, s1, r1⟩ := e.give h1 g
        have ih := gives_ok e1 (RVs.mono s1 h2)
        dsimp only
        unfold bnd
        cases g2 : gives rs δ' with
        | bad => exact True.intro
        | err x δ2 => rw [g2] at ih; exact ih.elim
        | ok ds δ2 =>
          rw [g2] at ih
          obtain ⟨e2, s2, r2⟩ := ih
          exact ⟨e2, s1.trans s2, Reps.cons (r1.mono (S := fun _ => False) Keeps.refl (fun _ _ z => z.elim) fun b _ z => z.elim .inl fun y => .inr (s2.own b y)) r2⟩
end
section
variable {X : Cx} {W : WX} {k v : Expr} {ks : List (Option Expr)} {vs : List Expr} {fk fv : FE} {fa : FA} {pos : Pos}
def aPair (fk fv : FE) (fa : FA) : FA := bnd fk fun rk => bnd fv fun rv => bnd fa fun rs => ret' (rk :: rv :: rs)
def DP (X : Cx) (W : WX) (pos : Pos) (fa : FA) (keys : List (Option Expr)) (vals : List Expr) : Prop := ∃ trs, PPs X pos keys vals trs ∧ ∀ σ H (Q : List (V × V) → Hp → Prop), tA X.K W fa σ H (fun zs H' => ∀ ps, flat ps = zs → Q ps H') → tPairs trs σ H Q
theorem dp_nil : DP X W pos aNil [] [] := ⟨[], pps_nil, fun σ H Q ⟨c, δ, e, h⟩ => h [] H e .refl .nil [] rfl⟩
theorem dp_cons (hk : DE X W fk k) (hv : DE X W fv v) (hr : DP X W pos fa ks vs) : DP X W pos (aPair fk fv fa) (some k :: ks) (v :: vs) := by
  obtain ⟨trs, h1, h2⟩ := hr
  refine ⟨_, pps_cons hk hv h1, fun σ H Q ⟨c, δ, e, h⟩ => ?_⟩
  refine ⟨c, δ, e, (Post.bnd (R := RVX X.K) h).imp fun u H1 ⟨δ1, ra, e1, s1, r1, h1⟩ => ⟨c, δ1, e1, (Post.bnd (R := RVX X.K) h1).imp fun w H2 ⟨δ2, rb, e2, s2, r2, h2'⟩ => ?_⟩⟩
  refine h2 σ H2 (fun ps H' => Q ((u, w) :: ps) H') ⟨c, δ2, e2, (Post.bnd (R := RVs X.K) h2').imp fun zs H3 ⟨δ3, rc, e3, s3, r3, h3⟩ => ?_⟩
  exact fun ps hps => h3 _ _ e3 .refl (.cons (r1.1.mono (s2.trans s3)) (.cons (r2.1.mono s3) r3)) ((u, w) :: ps) (by rw [← hps]; rfl)
theorem de_dct {keys : List (Option Expr)} (h : DP X W pos fa keys vs) (hall : keys.all (·.isSome) = true) (hl : keys.length = vs.length) (h0 : keys ≠ []) (h15 : keys.length ≤ 15) : DE X W (eDct fa) (.Dict keys vs pos) := by
  obtain ⟨trs, hp, hk⟩ := h
  refine pe_mono (pe_disp hp hall hl h0 h15) fun σ H Q ⟨c, δ, e, h⟩ p hp => ?_
  have ep : EnvR X.K (c.plus p) σ δ (upd H p (.dK [])) := e.plus (Keeps.up hp) upd_dom (fun z => z.no hp) (Liv.of upd_same)
  obtain ⟨f1, f2, f3⟩ := e.new_free hp
  have s0 : Stp σ δ H δ (upd H p (.dK [])) := Stp.laid hp
  refine hk σ _ _ ⟨c.plus p, δ, ep, ?_⟩
  unfold eDct bnd at h
  unfold Post
  cases hf : fa δ with
  | bad => rw [hf] at h; exact h.elim
  | err x δ' =>
    rw [hf] at h
    intro d H' e' s' r'
    refine h d H' e'.unplus (s0.trans s') ?_
    rcases r' with r' | ⟨dd, vfs, y1, y2, y3⟩
    · exact .inl r'
    · exact .inr ⟨dd, vfs, y1, y2, y3.mono (S := fun _ => False) Keeps.refl (fun _ _ z => z.elim) fun b _ z => z.elim (fun y => .inl (.inl y)) .inr⟩
  | ok rs δ' =>
    rw [hf] at h
    dsimp only at h
    intro zs H' e' s' r' ps hps
    subst hps
    have hp' : H' p = some (.dK []) := s'.keeps p _ upd_same f3
    have g := gives_ok e' r'
    cases hg : gives rs δ' with
    | bad => rw [hg] at h; exact h.elim
    | err x δ2 => rw [hg] at g; exact g.elim
    | ok ds δ2 =>
      rw [hg] at h g
      obtain ⟨e2, s2, r2⟩ := g
      dsimp only at h
      cases hpd : pairsD ds with
      | none => rw [hpd] at h; exact h.elim
      | some kds =>
        rw [hpd] at h
        dsimp only at h
        split at h
        · rename_i h15'
          obtain ⟨kvs, q1, q2⟩ := Reps.pairs (ps := ps) r2 hpd
          have hlen : kvs.length = kds.length := q1.length
          refine ⟨hp', kvs, q2, by omega, ?_⟩
          have e3 := e2.poke (o := .dK (mergeK [] kvs)) (a := p) (.inr rfl) f2 hp'
          have kp : Keeps (fun b => b = p) H' (upd H' p (.dK (mergeK [] kvs))) := Keeps.put rfl hp'
          have s3 : Stp σ δ H δ2 (upd H' p (.dK (mergeK [] kvs))) :=
            ⟨((s0.trans (s'.trans s2)).keeps).trans2 kp (fun x hx z => (hx.no (by rw [show x = p from z]; exact hp)).elim), fun a z => (s'.trans s2).own a z, fun i x z => (s'.trans s2).shape i x z, fun a z => upd_dom a ((s0.trans (s'.trans s2)).dom a z)⟩
          refine h _ _ e3.unplus s3 ⟨⟨p, rfl, f1, f2, fun z => f3 ((s'.trans s2).own p z), mergeK [] kvs, upd_same, ?_⟩, fun d a z1 z2 => ?_⟩
          · refine (RepK.merge q1 RepK.nil).mono kp (fun b _ z => .inl (.inr z)) fun b _ z => ?_
            rcases z with (z | z) | z
            · exact .inl (.inl z)
            · exact .inr z
            · exact .inl (.inr z)
          · cases z1; cases z2
            exact e3
        · exact h.elim
def eDct0 : FE := ret' (.val (.dct []) true)
theorem de_dnew : DE X W eDct0 (.Dict [] [] pos) := pe_mono pe_dnewK fun σ H Q ⟨c, δ, e, h⟩ p hp => by
  obtain ⟨e3, s3, r3⟩ := e.answer (d := .dct []) (new := true) (w := .ref p) (Keeps.up hp) upd_dom ⟨p, rfl, hp, [], upd_same, RepK.nil⟩
  exact h _ _ e3 s3 r3
end
end TM
set_option maxRecDepth 100000
set_option maxHeartbeats 4000000
/-! T19: own errors: made, raised -/
namespace TM
open PySem PySem.Spec PyProof.Rows L2
variable [Tbs]
/-! ### what is asked of the class -/
def oexB (K : PySem.W.Frag) (C : Addr) : Bool := (match K.lookup C with
  | some ⟨.type c, _, .cls cd, sl⟩ => decide (c = "type") && (match cd.mro, sl.toList with
    | .ref C' :: bm, [_, _, _, _, some (.builtin n), _] => decide (C' = C) && (decide (n = "ValueError.__new__") && (!cd.hasDel && (cd.hasDict && PySem.HandSPX.refsVE bm)))
    | _, _ => false)
  | _ => false) && (He.eqO (PySem.W.findIn K (.ref C) "__setattr__") (some (some (.builtin "object.__setattr__"))) &&
  (decide (PySem.W.subIn K (.ref C) (.type "BaseException") = some true) && (decide (PySem.W.typeIn K (.ref C) = some (.type "type")) && PySem.W.keepIn K (.ref C))))
theorem oexB_ok {K : PySem.W.Frag} {C : Addr} (h : oexB K C = true) : OexC K C := by
  unfold oexB at h
  obtain ⟨h1, h⟩ := He.ba h
  obtain ⟨h2, h⟩ := He.ba h
  obtain ⟨h3, h⟩ := He.ba h
  obtain ⟨h4, h5⟩ := He.ba h
  refine ⟨?_, He.eqO_ok h2, of_decide_eq_true h3, of_decide_eq_true h4, h5⟩
  split at h1
  · rename_i c dd cd sl ho
    have q1 := He.ba h1
    clear h1
    obtain ⟨hc, q2⟩ := q1
    have ec := of_decide_eq_true hc
    clear hc
    subst ec
    split at q2
    · rename_i C' bm k0 k1 k2 k3 n k5 hm hs
      have q3 := He.ba q2
      clear q2
      obtain ⟨e1, q4⟩ := q3
      have q5 := He.ba q4
      clear q4
      obtain ⟨e2, q6⟩ := q5
      have q7 := He.ba q6
      clear q6
      obtain ⟨e3, q8⟩ := q7
      obtain ⟨e4, h1⟩ := He.ba q8
      have e1' := of_decide_eq_true e1
      have e2' := of_decide_eq_true e2
      clear e1 e2 q8
      subst e1' e2'
      obtain ⟨nm, bs, mro, ns, qn, hd, sn, sub, ab, col, del⟩ := cd
      dsimp only at hm e3 e4
      have e3' : del = false := by simpa using e3
      subst hm e3' e4
      have hsl : sl = #[k0, k1, k2, k3, some (.builtin "ValueError.__new__"), k5] := by
        obtain ⟨l⟩ := sl
        simp only at hs
        rw [hs]
      subst hsl
      exact ⟨nm, qn, ns, bs, bm, sn, sub, ab, col, dd, k0, k1, k2, k3, k5, ho, h1⟩
    · cases q2
  · cases h1
/-! ### __init__ that keeps its arguments -/
/-- self is an exception under way; its arguments are kept under these names -/
def spX (C : Addr) (ns : List Str) : Sp := fun vs H Q _ => ∃ a ws, vs = .ref a :: ws ∧ ws.length = ns.length ∧ H a = some (exo a C none) ∧
  ∀ dx H', H dx = none → dx ≠ a → H' a = some (exo a C (some dx)) → H' dx = some (exd dx (ns.zip ws).reverse) → (∀ b, b ≠ a → b ≠ dx → H' b = H b) → Q .non H'
section
variable {P : Program} {w : World} {K : PySem.W.Frag} {mg : Str → Option Value} {base : Heap}
theorem ok_x1 {qual : Str} {st : Stmt} {f C : Addr} {fd : FuncData} {n1 p1 : Str} {N : List Str} {e1 : Pos} {e2 : Pos} {e3 : Pos} {e4 : Pos} (F : Fun K "__init__" qual st f fd) (S : FnScope ["self", p1] ["self", p1] (defScope st))
    (hb : defBody st = [.Assign [.Attribute (.Name "self" e1) n1 e2] (.Name p1 e3) e4]) (T : OexC K C) (hno : PySem.W.findIn K (.ref C) n1 = some none) (hd : (p1 == ("__debug__" : Str)) = false) (hcd : (p1 == ("__classdict__" : Str)) = false)
    (hv0 : Vis (defScope st) "self") (hv1 : Vis (defScope st) p1)
    (hs : ∀ X : Cx, swapsWith (.Name p1 e3) (some (.Attribute (.Name "self" e1) n1 e2)) e4.line X.env = pure false) : FnOk P w K mg base (L2.CX P w) 1 f fd ["self", p1] (spX C [n1]) := by
  refine F.okX S (fun vs H Q E h => ?_) (fun cdv A outer s H vs Q E hr h => ?_)
  · obtain ⟨a, ws, rfl, hl, _⟩ := h
    simpa using hl
  · obtain ⟨a, ws, rfl, hl, ha, k⟩ := h
    match ws, hl with
    | [y], _ =>
      rw [hb]
      refine ⟨_, pss_one (ps_ost (pe_var (i := 0) rfl hv0) (pe_var (i := 1) rfl hv1 hd hcd) (hs _)), ?_⟩
      refine ⟨y, rfl, .ref a, rfl, a, C, rfl, T, hno, .inl ⟨ha, fun dx hdx ne => ?_⟩⟩
      exact k dx _ hdx ne upd_same (by rw [upd_ne ne, upd_same]; rfl) fun b h1 h2 => by rw [upd_ne h1, upd_ne h2]
theorem ok_x2 {qual : Str} {st : Stmt} {f C : Addr} {fd : FuncData} {n1 p1 n2 p2 : Str} {e1 e2 e3 e4 e1' e2' e3' e4' : Pos} (F : Fun K "__init__" qual st f fd) (S : FnScope ["self", p1, p2] ["self", p1, p2] (defScope st))
    (hb : defBody st = [.Assign [.Attribute (.Name "self" e1) n1 e2] (.Name p1 e3) e4, .Assign [.Attribute (.Name "self" e1') n2 e2'] (.Name p2 e3') e4']) (T : OexC K C) (hno : PySem.W.findIn K (.ref C) n1 = some none) (hno2 : PySem.W.findIn K (.ref C) n2 = some none)
    (hd : (p1 == ("__debug__" : Str)) = false) (hcd : (p1 == ("__classdict__" : Str)) = false) (hd2 : (p2 == ("__debug__" : Str)) = false) (hcd2 : (p2 == ("__classdict__" : Str)) = false)
    (hv0 : Vis (defScope st) "self") (hv1 : Vis (defScope st) p1) (hv2 : Vis (defScope st) p2)
    (hs : ∀ X : Cx, swapsWith (.Name p1 e3) (some (.Attribute (.Name "self" e1) n1 e2)) e4.line X.env = pure false)
    (hs2 : ∀ X : Cx, swapsWith (.Name p2 e3') (some (.Attribute (.Name "self" e1') n2 e2')) e4'.line X.env = pure false) : FnOk P w K mg base (L2.CX P w) 1 f fd ["self", p1, p2] (spX C [n1, n2]) := by
  refine F.okX S (fun vs H Q E h => ?_) (fun cdv A outer s H vs Q E hr h => ?_)
  · obtain ⟨a, ws, rfl, hl, _⟩ := h
    simpa using hl
  · obtain ⟨a, ws, rfl, hl, ha, k⟩ := h
    match ws, hl with
    | [y, z], _ =>
      rw [hb]
      refine ⟨_, pss_cons (ps_ost (pe_var (i := 0) rfl hv0) (pe_var (i := 1) rfl hv1 hd hcd) (hs _)) (pss_one (ps_ost (pe_var (i := 0) rfl hv0) (pe_var (i := 2) rfl hv2 hd2 hcd2) (hs2 _))), ?_⟩
      refine ⟨y, rfl, .ref a, rfl, a, C, rfl, T, hno, .inl ⟨ha, fun dx hdx ne => ?_⟩⟩
      refine ⟨z, rfl, .ref a, rfl, a, C, rfl, T, hno2, .inr ⟨dx, [(n1, y)], upd_same, by rw [upd_ne ne, upd_same], by simp, ?_⟩⟩
      exact k dx _ hdx ne (by rw [upd_ne (Ne.symm ne), upd_same]) upd_same fun b h1 h2 => by rw [upd_ne h2, upd_ne h1, upd_ne h2]
end
/-! ### raise C(e, ..) -/
def sRaise (C : Addr) (ns : List Str) (fa : FA) : FS := bndS fa fun rs => bndS (gives rs) fun ds δ => if ds.length = ns.length ∧ ds.length ≤ 1000 then .er ⟨C, (ns.zip ds).reverse⟩ δ else .bad
section
variable {K : PySem.W.Frag} {M : Addr → Prop} {H : Hp}
theorem RepF.cons {k : Str} {d : D} {v : V} {ds : List (Str × D)} {vs : List (Str × V)} (h : Rep K M H d v) (q : RepF K M H ds vs) : RepF K M H ((k, d) :: ds) ((k, v) :: vs) := by
  simp only [RepF]; exact ⟨v, vs, rfl, h, q⟩
theorem RepF.nil : RepF K M H [] [] := by simp only [RepF]
theorem RepF.append : ∀ {ds es : List (Str × D)} {vs us : List (Str × V)}, RepF K M H ds vs → RepF K M H es us → RepF K M H (ds ++ es) (vs ++ us)
  | [], _, _, _, h, q => by simp only [RepF] at h; subst h; exact q
  | (k, d) :: ds, _, _, _, h, q => by
    simp only [RepF] at h
    obtain ⟨v, r, rfl, h1, h2⟩ := h
    exact RepF.cons h1 (RepF.append h2 q)
theorem RepF.reverse : ∀ {ds : List (Str × D)} {vs : List (Str × V)}, RepF K M H ds vs → RepF K M H ds.reverse vs.reverse
  | [], _, h => by simp only [RepF] at h; subst h; exact RepF.nil
  | (k, d) :: ds, _, h => by
    simp only [RepF] at h
    obtain ⟨v, r, rfl, h1, h2⟩ := h
    rw [List.reverse_cons, List.reverse_cons]
    exact RepF.append (RepF.reverse h2) (RepF.cons h1 RepF.nil)
theorem Reps.fields : ∀ {ns : List Str} {ds : List D} {vs : List V}, Reps K M H ds vs → RepF K M H (ns.zip ds) (ns.zip vs)
  | [], _, _, _ => by simp only [List.zip_nil_left]; exact RepF.nil
  | _ :: _, [], vs, h => by simp only [Reps] at h; subst h; simp only [List.zip_nil_right]; exact RepF.nil
  | n :: ns, d :: ds, _, h => by
    simp only [Reps] at h
    obtain ⟨v, r, rfl, h1, h2⟩ := h
    rw [List.zip_cons_cons, List.zip_cons_cons]
    exact RepF.cons h1 (Reps.fields h2)
end
section
variable {X : Cx} {W : WX} {e : Expr} {es : List Expr} {fa : FA} {x : Str} {C fI : Addr} {k : Nat} {fd : FuncData} {ps ns : List Str} {p pos pos' : Pos}
theorem ds_raise (hc : X.calm = true) (tk : Takes X W) (T : OexC X.K C) (iC : PySem.W.findIn X.K (.ref C) "__init__" = some (some (.ref fI))) (tI : PySem.W.typeIn X.K (.ref fI) = some (.type "function"))
    (F1 : FnOk X.prog X.w X.K X.mg X.base (L2.CX X.prog X.w) k fI fd ps (spX C ns)) (hr : Room (k + 1) X.A) (hb : Binds X.K fd ps []) (hg : Gl X x) (hm : X.mg x = some (.ref C)) (ha : DA X W fa (e :: es))
    (hdb : (x == ("__debug__" : Str)) = false) (he : starEach (e :: es) X.env = (false, eval e X.env) :: starEach es X.env) (hpl : (backTo pos (starEach es X.env)).any (·.1) = false) :
    DS X W (sRaise C ns fa) (.Raise (some (.Call (.Name x p) (e :: es) [] pos)) none pos') := by
  refine ps_mono (ps_raise hc tk (pmk_oex (ds := []) (dvs := []) T iC tI F1 hr hb .nil passL hg hm ha hdb he hpl)) fun D σ H ⟨c, δ, e, h⟩ => ⟨c, δ, e, (Post.bndS (R := RVs X.K) h).imp fun vs H1 ⟨δ1, rs, e1, s1, hr, h1⟩ => ?_⟩
  obtain ⟨δ2, ds, e2, s2, r2, h2⟩ := gives_postS e1 hr h1
  split at h2
  · rename_i hl
    have hl2 := r2.length
    refine ⟨by omega, fun a ha => ?_⟩
    rw [List.append_nil]
    refine ⟨a, vs, rfl, by omega, upd_same, fun dx H' hdx ne g1 g2 g3 => ⟨rfl, dx, (ns.zip vs).reverse, g1, g2, by rw [upd_ne ne] at hdx; exact hdx, ?_⟩⟩
    have hdx1 : H1 dx = none := by rw [upd_ne ne] at hdx; exact hdx
    have eH : upd (del H' a) dx (.xd (ns.zip vs).reverse) = upd H1 dx (.xd (ns.zip vs).reverse) := by
      funext b
      by_cases hb : b = dx
      · rw [hb, upd_same, upd_same]
      · rw [upd_ne hb, upd_ne hb]
        by_cases hba : b = a
        · rw [hba, del_same, ha]
        · rw [del_ne hba, g3 b hba hb, upd_ne hba]
    rw [eH]
    refine h2 (some dx) σ _ (e2.keeps (Keeps.up hdx1) upd_dom) (.inr ⟨dx, _, rfl, upd_same, ?_⟩)
    exact (r2.mono (S := fun _ => False) (Keeps.up hdx1) (fun _ _ z => z.elim) fun _ _ z => z).fields.reverse
  · exact h2.elim
end
end TM
set_option maxRecDepth 100000
set_option maxHeartbeats 4000000
/-! T20: try with several clauses, each with or without a name -/
namespace TM
open PySem PySem.Spec PyProof.Rows L2
section
variable {X : Cx} {pins : List (Addr × Obj)} {σ : St} {H : Hp} {cls : Value} {d : Option Addr} {a : Addr} {B g : Heap} {s t : Shared}
/-- an exception has been caught and stands at a; g is the heap at which it was thrown, t the state behind it -/
structure Caught (X : Cx) (pins : List (Addr × Obj)) (σ : St) (H : Hp) (cls : Value) (d : Option Addr) (a : Addr) (B : Heap) (sI t : Shared) (h : Heap) : Prop where
  at0 : Inv X pins σ H sI
  low : ∀ b o, sI.heap.get? b = some o → b ∉ frs X.stack → B.get? b = some o
  up : sI.heap.UpToSlots h
  fly : HandSPX.FlyingZ B (X.env :: X.outer) a (Zc cls d) h
  new : H a = none
  os : t.os = sI.os
  bare : AllBare t.gens
  stk : X.stack = X.env :: X.outer
  frm : X.env.frame = some X.env.locals
theorem Caught.inv {h : Heap} {sI : Shared} (c : Caught X pins σ H cls d a B sI t h) : Inv X pins σ H { t with heap := h } :=
  Inv.landed (s' := { t with heap := h }) c.at0 c.low c.fly.1 c.up c.os c.bare
theorem Caught.next {h h2 : Heap} {sI : Shared} (c : Caught X pins σ H cls d a B sI t h) (f : HandSPX.FlyingZ B (X.env :: X.outer) a (Zc cls d) h2) (u : h.UpToSlots h2) : Caught X pins σ H cls d a B sI t h2 :=
  ⟨c.at0, c.low, c.up.trans u, f, c.new, c.os, c.bare, c.stk, c.frm⟩
/-- its object lies apart from all frames -/
theorem Caught.apart {h : Heap} {sI : Shared} (c : Caught X pins σ H cls d a B sI t h) : ∃ oe, h.get? a = some oe ∧ Zc cls d oe ∧ (∃ vs, oe.data = .fields vs) ∧ a ≠ X.env.locals ∧ a ∉ X.fs := by
  obtain ⟨oe, vs, e1, e2, e3⟩ := c.fly.there
  have away : a ∉ frs (X.env :: X.outer) := fun m => by
    obtain ⟨_, o2, e4, nf⟩ := c.fly.2.2.1.mem m
    have e5 : o2 = oe := Option.some.inj (e4.symm.trans e1)
    exact nf vs (by rw [e5]; exact e3)
  refine ⟨oe, e1, e2, ⟨vs, e3⟩, fun z => away ?_, fun m => away ?_⟩
  · exact List.mem_filterMap.mpr ⟨X.env, List.mem_cons_self, by rw [c.frm, z]⟩
  · obtain ⟨e, m1, m2⟩ := List.mem_filterMap.mp m
    exact List.mem_filterMap.mpr ⟨e, List.mem_cons_of_mem _ m1, m2⟩
/-- the state that a clause's suite begins with -/
theorem Caught.begin {h : Heap} {sI : Shared} (c : Caught X pins σ H cls d a B sI t h) : ∃ oe, Zc cls d oe ∧ (∃ vs, oe.data = .fields vs) ∧ Inv (X.suite a ((a, oe) :: (X.pn ++ pins))) [] σ H { t with heap := h } := by
  obtain ⟨oe, e1, e2, ⟨vs, e3⟩, n1, n2⟩ := c.apart
  exact ⟨oe, e2, ⟨vs, e3⟩, c.inv.suite e1 e3 c.new n1 n2⟩
/-- the class that a clause names is asked -/
theorem Caught.asks {h : Heap} {sI : Shared} (c : Caught X pins σ H cls d a B sI t h) {x : Str} {cv : Value} {b : Bool} {np : Pos} {E E2 : Value → Shared → Prop} {R : Bool → Shared → Prop} (n : Names X x cv) (m : PySem.W.exmOne X.K cls cv = some b)
    (k : R b { t with heap := h }) : wpAny (model X.prog X.w) (X.A.mark (some (.ref a))) (eval (.Name x np) X.env) (fun v s1 => wpAny (model X.prog X.w) (X.A.mark (some (.ref a))) (excMatches (.ref a) v) R E2 s1) E { t with heap := h } := by
  obtain ⟨oe, z1, z2, S⟩ := c.begin
  obtain ⟨oe', e1, e2, _⟩ := c.apart
  have ty : PySem.W.Looks (model X.prog X.w) h (typeOf (.ref a)) cls := fun A' Q' E' s' st q => wpAny_typeOf_ref (st _ _ e1) (by rw [e2.1]; exact q)
  have go := (PySem.W.exm_one (M := model X.prog X.w) c.inv.kIn ty m).here (s := { t with heap := h }) (A := X.A.mark (some (.ref a))) (Q := R) (E := E2) k
  obtain ⟨gl, nd, w | ⟨w, v, nn⟩⟩ := n
  · exact ld_glob (X := X.suite a ((a, oe) :: (X.pn ++ pins))) S gl w go nd
  · exact ld_blt (X := X.suite a ((a, oe) :: (X.pn ++ pins))) S gl w v go nn nd
/-- no clause takes it: it flies on -/
theorem Caught.flies {h : Heap} {sI : Shared} (c : Caught X pins σ H cls d a B sI t h) {W : WX} (tk : Takes X W) (w : W cls d σ H) {Q : Flow → Shared → Prop} : wpAny (model X.prog X.w) X.A (handleBy (.ref a) X.env []) Q X.xe { t with heap := h } := by
  refine wpAny_handleBy_nil ?_
  obtain ⟨f1, f2, f3, oe, vs, T, oT, _, g1, g2, g3, g4, g5⟩ := id c.fly
  have last : wpAny (model X.prog X.w) X.A (setFlight (.ref a) X.env.frame) (fun _ s4 => wpAny (model X.prog X.w) X.A (throw (.ref a) : Sem Flow) Q X.xe s4) X.xe { t with heap := h } := by
    rw [c.frm]
    exact HandSPX.setFlight_upZ c.fly fun h4 held u => wpAny_throw (tk _ _ ⟨a, B, sI, pins, σ, H, cls, d, rfl, c.at0, c.low, c.up.trans u, .inr (.inr (by rw [c.stk]; exact held)), c.new, c.os, c.bare, w⟩)
  unfold PySem.passOn
  refine wpAny_bind (wpAny_field g1 g3 g4 ?_)
  rw [if_neg (show ¬ ((Value.ref T == Value.none) = true) by simp)]
  first
    | exact wpAny_bind (wpAny_pure (wpAny_bind last))
    | exact wpAny_bind last
end
/-- the ends behind a clause's suite: its name is gone -/
def gone (i : Nat) (D : Ends) : Ends := ⟨fun τ G => D.nx (τ.set i none) G, D.rt, fun τ G => D.bk (τ.set i none) G, fun τ G => D.ct (τ.set i none) G⟩
abbrev Cls1 := Value × Option Nat × (Addr → Value → Option Addr → TS)
def goneO (o : Option Nat) (D : Ends) : Ends := match o with
  | none => D
  | some i => gone i D
def putO (o : Option Nat) (a : Addr) (σ : St) : St := match o with
  | none => σ
  | some i => σ.set i (some (.ref a))
/-- what the clauses wish of an exception, one after another -/
def wG (K : PySem.W.Frag) (Wout : WX) (D : Ends) : List Cls1 → WX
  | [] => Wout
  | (c, o, ts) :: r => fun cls d σ H => ∃ b, PySem.W.exmOne K cls c = some b ∧ (b = true → ∀ a, H a = none → ts a cls d (goneO o D) (putO o a σ) H) ∧ (b = false → wG K Wout D r cls d σ H)
def NameO (X : Cx) : Option Str → Option Nat → Prop
  | none, none => True
  | some n, some i => X.N.Nodup ∧ X.N[i]? = some n ∧ X.env.kindOf n = some .local
  | _, _ => False
inductive HdsG (X : Cx) : List ExceptHandler → List Cls1 → Prop
  | nil : HdsG X [] []
  | cons {x : Str} {n : Option Str} {o : Option Nat} {c : Value} {ts : Addr → Value → Option Addr → TS} {b0 : Stmt} {su : List Stmt} {p1 p2 : Pos} {hds : List ExceptHandler} {l : List Cls1} (hn : NameO X n o) (hc : Names X x c)
      (hs : ∀ (a : Addr) (oe : Obj) (cls : Value) (d : Option Addr) (pn : List (Addr × Obj)), Zc cls d oe → (∃ vs, oe.data = .fields vs) → PSs (X.suite a ((a, oe) :: pn)) (b0 :: su) (ts a cls d)) (r : HdsG X hds l) :
      HdsG X (.ExceptHandler (some (.Name x p1)) n (b0 :: su) p2 :: hds) ((c, o, ts) :: l)
section
variable {X : Cx} {body : List Stmt} {hds : List ExceptHandler} {l : List Cls1} {pos : Pos} {tb : WX → TS} {Wout : WX}
/-- the suite's end, out of the clause -/
theorem suite_out {pins : List (Addr × Obj)} {a : Addr} {oe : Obj} {f : Flow} {s : Shared} {D : Ends} (ok : X.Ok) (h : SP (X.suite a ((a, oe) :: (X.pn ++ pins))) [] D f s) : SP X pins D f s := by
  cases f with
  | ret u => obtain ⟨v, τ, G, S, r, q⟩ := h; exact ⟨v, τ, G, S.unsuite ok, r, q⟩
  | next => obtain ⟨τ, G, S, q⟩ := h; exact ⟨τ, G, S.unsuite ok, q⟩
  | brk => obtain ⟨τ, G, S, q⟩ := h; exact ⟨τ, G, S.unsuite ok, q⟩
  | cont => obtain ⟨τ, G, S, q⟩ := h; exact ⟨τ, G, S.unsuite ok, q⟩
theorem suite_gone {pins : List (Addr × Obj)} {i : Nat} {n : Str} {p : Pos} {f : Flow} {s : Shared} {D : Ends} (hn : NameO X (some n) (some i)) (h : SP X pins (gone i D) f s) :
    wpAny (model X.prog X.w) X.A (do bindName X.env n .none; unbindBehindTheSuite X.env n p) (fun _ s2 => SP X pins D f s2) X.xe s := by
  obtain ⟨h1, h2, h3⟩ := hn
  cases f with
  | ret u => obtain ⟨v, τ, G, S, r, q⟩ := h; exact gone_ok S h1 h2 h3 fun s2 J => ⟨v, _, G, J, r, q⟩
  | next => obtain ⟨τ, G, S, q⟩ := h; exact gone_ok S h1 h2 h3 fun s2 J => ⟨_, G, J, q⟩
  | brk => obtain ⟨τ, G, S, q⟩ := h; exact gone_ok S h1 h2 h3 fun s2 J => ⟨_, G, J, q⟩
  | cont => obtain ⟨τ, G, S, q⟩ := h; exact gone_ok S h1 h2 h3 fun s2 J => ⟨_, G, J, q⟩
theorem clauses (tk : Takes X Wout) (ok : X.Ok) {pins : List (Addr × Obj)} {σ : St} {H : Hp} {cls : Value} {d : Option Addr} {a : Addr} {B : Heap} {sI t : Shared} {h : Heap} {D : Ends} (ct : Caught X pins σ H cls d a B sI t h) (hh : HdsG X hds l) (w : wG X.K Wout D l cls d σ H) :
    wpAny (model X.prog X.w) X.A (handleBy (.ref a) X.env hds) (SP X pins D) X.xe { t with heap := h } := by
  induction hh with
  | nil => exact ct.flies tk w
  | @cons x n o c ts b0 su p1 p2 hds l hn hc hs r ih =>
    obtain ⟨b, m, yes, no⟩ := w
    refine wpAny_handleBy_cons (codeAny_handlers_test (ct.asks hc m ?_)) (by intro q; cases q)
    cases b with
    | false => exact ih (no rfl)
    | true =>
      cases n with
      | none =>
        cases o with
        | some i => exact hn.elim
        | none =>
          refine codeAny_handlers_suite (HandSPX.lands_againZ ct.fly fun h4 f4 u4 => ?_)
          obtain ⟨oe, z1, z2, S⟩ := (ct.next f4 u4).begin
          exact wpAny_mono ((hs a oe cls d _ z1 z2).run [] _ _ H _ S (yes rfl a ct.new)) (fun f s6 q => suite_out ok q) fun _ _ z => z.elim
      | some n =>
        cases o with
        | none => exact hn.elim
        | some i =>
          refine codeAny_handlers_suite_as (HandSPX.lands_againZ ct.fly fun h4 f4 u4 => ?_)
          obtain ⟨oe, z1, z2, S⟩ := (ct.next f4 u4).begin
          refine store_ok (X := X.suite a ((a, oe) :: (X.pn ++ pins))) (v := .ref a) S hn.1 hn.2.1 (.inl hn.2.2) rfl (fun s5 S5 => ?_) (.inr hn.2.2)
          exact wpAny_mono ((hs a oe cls d _ z1 z2).run [] s5 _ H _ S5 (yes rfl a ct.new)) (fun f s6 q => suite_gone hn (suite_out ok q)) fun _ _ z => z.elim
theorem ps_try_g (hs : X.stack = X.env :: X.outer) (hf : X.env.frame = some X.env.locals) (tk : Takes X Wout)
    (hb : ∀ (W : WX) (pn : List (Addr × Obj)) (xe : Value → Shared → Prop), Takes (X.tr pn xe) W → PassesOwn (model X.prog X.w) X.A X.env xe → PSs (X.tr pn xe) body (tb W))
    {h0 : ExceptHandler} (hh : HdsG X (h0 :: hds) l) : PS X (.Try body (h0 :: hds) [] [] pos) (fun D σ H => tb (wG X.K Wout D l) D σ H) := by
  refine ⟨fun pins s σ H D I h => wpAny_Try_except ?_⟩
  have ok := I.ok
  have hfr : X.A.frames = some (X.env :: X.outer) := by rw [ok.frames, hs]
  have run := (hb (wG X.K Wout D l) (X.pn ++ pins) (fun e s1 => wpAny (model X.prog X.w) X.A (noteFrame e X.env) (fun _ s2 => wpAny (model X.prog X.w) X.A (setFlight e none) (fun _ s3 =>
    wpAny (model X.prog X.w) X.A (handleBy e X.env (h0 :: hds)) (SP X pins D) X.xe s3) X.xe s2) X.xe s1) (fun u t xx => by
      obtain ⟨a, B, sI, pn2, τ, G, cls, d, rfl, J, low, up, sky, na, os, ag, w⟩ := xx
      rw [show (X.tr _ _).stack = X.env :: X.outer from hs] at sky
      exact Sky.land Zc.steady hfr hf sky fun h3 f3 u3 => clauses tk ok ⟨J.ofTry ok, low, up.trans u3, f3, na, os, ag, hs, hf⟩ hh w) PassesOwn.looking).run [] s σ H D (I.toTry _) h
  refine wpAny_mono run (fun f s1 q => ?_) fun _ _ z => z
  cases f with
  | next => obtain ⟨τ, G, J, q⟩ := q; exact wpAny_execs_nil ⟨τ, G, J.ofTry ok, q⟩
  | ret u => obtain ⟨v, τ, G, J, r, q⟩ := q; exact ⟨v, τ, G, J.ofTry ok, r, q⟩
  | brk => obtain ⟨τ, G, J, q⟩ := q; exact ⟨τ, G, J.ofTry ok, q⟩
  | cont => obtain ⟨τ, G, J, q⟩ := q; exact ⟨τ, G, J.ofTry ok, q⟩
end
end TM
set_option maxRecDepth 100000
set_option maxHeartbeats 4000000
/-! T21: what the top has written, by its address; two new lists at once -/
namespace TM
open PySem PySem.Spec PyProof.Rows L2
variable [Tbs]
/-! ### written values -/
/-- kn: what is known of written things -/
abbrev Kn := V → Option PyData
def KnOk (K : PySem.W.Frag) (kn : Kn) : Prop := ∀ u p, kn u = some p → ∀ H, Dp K H u p
def toPk (kn : Kn) : D → Option PyData
  | .opq u => kn u
  | d => toP d
def shpk (kn : Kn) (d : D) : Option PyData := match toPk kn d with
  | some p => if SeqAt.shaped p then some p else none
  | none => none
section
variable {K : PySem.W.Frag} {N M : Addr → Prop} {H : Hp} {kn : Kn}
theorem shpk_ok {d : D} {p : PyData} (h : shpk kn d = some p) : toPk kn d = some p ∧ SeqAt.shaped p = true := by
  unfold shpk at h
  split at h
  · rename_i q e
    split at h
    · rename_i s
      cases h
      exact ⟨e, s⟩
    · cases h
  · cases h
theorem Look.dpk (ok : KnOk K kn) {d : D} {v : V} {p : PyData} (h : Look K N M H d v) (e : toPk kn d = some p) : Dp K H v p := by
  cases d with
  | opq u =>
    have h' : Rep K M H (.opq u) v := h
    simp only [Rep] at h'
    subst h'
    exact ok _ _ e H
  | _ => exact Look.dp h e
end
def dEqK (kn : Kn) (neg : Bool) (x y : D) : An := match shpk kn x, shpk kn y with
  | some p, some q => some (.bl (if neg then !PyData.eqv p q else PyData.eqv p q), false)
  | _, _ => none
theorem eqK_g {K : PySem.W.Frag} {kn : Kn} (ok : KnOk K kn) : Op2D K (rEqD K) (dEqK kn false) := by
  intro N M H x y u v hn hf hx hy
  unfold dEqK
  split
  · rename_i p q e1 e2
    obtain ⟨a1, a2⟩ := shpk_ok e1
    obtain ⟨b1, b2⟩ := shpk_ok e2
    exact gives_flat rBl fun Q h => ⟨p, q, hx.dpk ok a1, hy.dpk ok b1, a2, b2, h⟩
  · exact Gives.none
theorem neK_g {K : PySem.W.Frag} {kn : Kn} (ok : KnOk K kn) : Op2D K (rNeD K) (dEqK kn true) := by
  intro N M H x y u v hn hf hx hy
  unfold dEqK
  split
  · rename_i p q e1 e2
    obtain ⟨a1, a2⟩ := shpk_ok e1
    obtain ⟨b1, b2⟩ := shpk_ok e2
    exact gives_flat rBl fun Q h => ⟨p, q, hx.dpk ok a1, hy.dpk ok b1, a2, b2, h⟩
  · exact Gives.none
/-- in a written tuple -/
def dInK (kn : Kn) (neg : Bool) (x y : D) : An := match shp x, shpk kn y with
  | some p, some (.tuple ps) => some (.bl (if neg then !ps.any fun z => PyData.eqv z p else ps.any fun z => PyData.eqv z p), false)
  | _, _ => none
theorem inK_g {K : PySem.W.Frag} {kn : Kn} (ok : KnOk K kn) (neg : Bool) : Op2D K (rInT K neg) (dInK kn neg) := by
  intro N M H x y u v hn hf hx hy
  unfold dInK
  split
  · rename_i p ps e1 e2
    obtain ⟨a1, a2⟩ := shp_ok e1
    obtain ⟨b1, b2⟩ := shpk_ok e2
    exact gives_flat rBl fun Q h => ⟨p, ps, hx.dp a1, hy.dpk ok b1, a2, b2, h⟩
  · exact Gives.none
/-! ### a written dict with text keys -/
def dTab (a : Addr) (tb : List (Str × D)) : D → D → An
  | .opq u, .str z => if u = .ref a then (tb.lookup z).map (·, false) else none
  | _, _ => none
theorem tab_g {K : PySem.W.Frag} {w : World} {a : Addr} {tb : List (Str × D)} (ok : ∀ z d, tb.lookup z = some d → ∃ v, KDct K w a z v ∧ ∀ M H, Rep K M H d v) : Op2D K (rIxD K w) (dTab a tb) := by
  intro N M H x y u v hn hf hx hy
  unfold dTab
  split
  · rename_i u0 z
    split
    · rename_i hu
      cases hl : tb.lookup z with
      | none => exact Gives.none
      | some d =>
        obtain ⟨r, k1, k2⟩ := ok z d hl
        have h' : Rep K M H (.opq u0) u := hx
        simp only [Rep] at h'
        exact gives_flat (k2 _ _) fun Q q => ⟨a, z, r, by rw [h', hu], hy.str, k1, q⟩
    · exact Gives.none
  · exact Gives.none
/-! ### i, j = a new list, anything -/
def sPar2F (i j : Nat) (fa fb : FE) : FS := bndS fa fun ra => match ra with
  | .val (.lst da) true => bndS fb fun rb δ => match storeV j rb δ with
    | some δ' => if i < δ'.length then .nx (δ'.set i (some (.ow, .lst da))) else .bad
    | none => .bad
  | _ => fun _ => .bad
section
variable {X : Cx} {W : WX} {i j : Nat} {x y : Str} {a b : Expr} {fa fb : FE} {px py pt pos : Pos} {kt k2 pt2}
theorem ds_par2F (hc : X.calm = true) (hN : X.N.Nodup) (hi : X.N[i]? = some x) (hj : X.N[j]? = some y) (hij : i ≠ j)
    (hx : X.env.scope.names.lookup x = some .local) (hy : X.env.scope.names.lookup y = some .local) (ha : DE X W fa a) (hb : DE X W fb b)
    (s1 : starEach (a :: [b]) X.env = (false, eval a X.env) :: starEach [b] X.env) (s2 : starEach (b :: []) X.env = (false, eval b X.env) :: starEach [] X.env)
    (hw : swappedStores [.Tuple [.Name x px, .Name y py] kt pt] (.Tuple [a, b] k2 pt2) X.env = pure (some [x, y]))
    (hs : swapsWithSole [.Tuple [.Name x px, .Name y py] kt pt] (.Tuple [a, b] k2 pt2) pos.line X.env = pure false) :
    DS X W (sPar2F i j fa fb) (.Assign [.Tuple [.Name x px, .Name y py] kt pt] (.Tuple [a, b] k2 pt2) pos) := by
  refine ps_mono (ps_par hc hN hi hj hij hx hy (pa_cons ha (pa_cons hb pa_nil s2) s1) hw hs) fun D σ H ⟨c, δ, e, h⟩ => ⟨c, δ, e, (Post.bndS (R := RVX X.K) h).imp fun v H1 ⟨δ1, ra, e1, st1, hr, h1⟩ => ?_⟩
  split at h1
  · rename_i da
    obtain ⟨⟨a0, rfl, n1, n2, n3, vs, t1, t2⟩, hp⟩ := hr
    have ep := hp _ a0 rfl rfl
    have t2' : Reps X.K (Uni (c.plus a0).N (Own σ δ1)) H1 da vs := t2.mono (S := fun _ => False) Keeps.refl (fun _ _ z => z.elim) fun q _ z => by
      rcases z with (z | z) | z
      · exact .inl (.inl z)
      · exact .inr z
      · exact .inl (.inr z)
    obtain ⟨c2, xc, e2, kk⟩ := Reps.hold ep t2'
    have hN2 : c2.N = (c.plus a0).N := ExtN xc
    refine ⟨c2, δ1, e2, ?_⟩
    unfold bndS at h1
    unfold Post
    cases hf : fb δ1 with
    | bad => rw [hf] at h1; exact h1.elim
    | err x δ' =>
      rw [hf] at h1
      intro d H' e' s' r'
      refine h1 d σ H' (e'.back xc).unplus ?_
      rcases r' with r' | ⟨dd, vfs, y1, y2, y3⟩
      · exact .inl r'
      · exact .inr ⟨dd, vfs, y1, y2, y3.mono (S := fun _ => False) Keeps.refl (fun _ _ z => z.elim) fun q _ z => z.elim (fun z => .inl (by rw [hN2]; exact .inl z)) .inr⟩
    | ok rb δ2 =>
      rw [hf] at h1
      dsimp only at h1
      intro w H2 e' s' r'
      split at h1
      · rename_i δ3 hst
        split at h1
        · rename_i hil
          have e3 := e'.store r' hst
          have e4 := e3.back xc
          have rs := kk e3
          have t1' : H2 a0 = some (.lst vs) := s'.keeps a0 _ t1 n3
          have e5 : EnvR X.K c ((σ.set j (some w)).set i (some (.ref a0))) (δ3.set i (some (.ow, .lst da))) H2 := e4.set_ow hil n1 n2 (fun z => (e4.own_there z).2 (.inr rfl)) ⟨vs, t1', rs.mono (S := fun _ => False) Keeps.refl (fun _ _ z => z.elim) fun q _ z => by
            rcases z with (z | z) | z
            · exact .inl (.inl z)
            · exact .inr z
            · exact .inl (.inr z)⟩
          exact ⟨.ref a0, w, rfl, by
            have := h1 _ _ e5
            rwa [List.set_comm _ _ (Ne.symm hij)] at this⟩
        · exact h1.elim
      · exact h1.elim
  · exact h1.elim
end
end TM
set_option maxRecDepth 100000
set_option maxHeartbeats 4000000
/-! T22: a def that calls a lambda handed in, and tells how it ended -/
namespace TM
open PySem PySem.Spec PyProof.Rows L2
variable [Tbs]
/-- what such a def makes of the lambda's end -/
def TTx (ok : Hp → VK → Prop) (er : Value → Option Addr → Hp → VK → Prop) : (XK → Hp → VK → Prop) → Hp → VK → Prop := fun tl H Q => tl (fun cls d H' => er cls d H' Q) H (fun _ H' => ok H' Q)
def eHeard (hok : An) (her : Exc → An) (fb : FE) : FE := fun δ => match fb δ with
  | .ok _ δ' => fin hok δ'
  | .err x δ' => fin (her x) δ'
  | .bad => .bad
section
variable {X : Cx} {W : WX} {fb : FE} {hok : An} {her : Exc → An} {ok : Hp → VK → Prop} {er : Value → Option Addr → Hp → VK → Prop}
theorem de_heard {x a : Str} {g c P : Addr} {k : Nat} {pg : Arguments} {bg : List Stmt} {sg : Scope} {dV kV doc pm cdv ct oc : Value} {an od : Option Addr} {osl : Array (Option Value)} {Ng : List Str}
    {params : Arguments} {body : Expr} {scope : Scope} {p lpos pos : Pos} (hg : Gl X x) (hm : X.mg x = some (.ref g)) (hk : PySem.W.keepIn X.K (.ref g) = true)
    (lk : X.K.lookup g = some ⟨oc, od, .func (PySem.W.fnOf x x pg bg sg dV kV doc pm an cdv ct), osl⟩) (hcg : PySem.W.codeIn X.K cdv x = true) (hb : L2.Binds X.K (PySem.W.fnOf x x pg bg sg dV kV doc pm an cdv ct) [a] []) (Sg : FnScope Ng [a] sg) (hNg : Ng[0]? = some a) (hva : Vis sg a)
    (hG : LamX.GivesTo X Ng x sg g cdv bg a (X.env.qual ++ "<lambda>") (TTx ok er))
    (gok : ∀ M H, (∀ p, H p = none → ¬ M p) → Gives X.K ok M H hok) (ger : ∀ M H (e : Exc) d, (∀ p, H p = none → ¬ M p) → ExcR X.K M H e.fs d → Gives X.K (er (.ref e.C) d) M H (her e))
    (TB : LamX.TabB X.base X.mg c P) (hcode : X.env.code = .ref c) (hmT : (P, X.env.qual ++ "<lambda>") ∈ Tbs.T) (hu : ∀ p ∈ Tbs.T, p.1 = P → p.2 = X.env.qual ++ "<lambda>") (hr : Room (k + 2) X.A) (L : LamX.LamS X.env.scope scope) (hdef : defaultsOf params X.env = ([], []))
    (hbind : ∀ (q : Str) (cl : List (Str × Addr)) (pm cv ctv : Value), bindArgs (PySem.W.kla_fn "<lambda>" q params body scope cl pm cv ctv) ⟨[], []⟩ = pure [])
    (hbody : ∀ (A : Around) (outer : List Env) (s : Shared) (H : Hp) (E : XK) (f c' : Addr), Room k (A.deeper (LamX.lamEnv X scope s.heap.objs.size f c')) → DE (LamX.lamCx X A outer s H E scope f c') (fun cls d _ H => E cls d H) fb body)
    (hdb : (x == ("__debug__" : Str)) = false) (hd : (a == ("__debug__" : Str)) = false) (hcd : (a == ("__classdict__" : Str)) = false) :
    DE X W (eHeard hok her fb) (.Call (.Name x p) [.Lambda params body scope lpos] [] pos) := by
  refine pe_mono (LamX.pe_lamcall (T := Tbs.T) (t := fun E => tE X.K (fun cls d _ H => E cls d H) fb) hg hm hk lk hcg hb Sg hNg hva hG TB hcode hmT hu hr L hdef hbind hbody hdb hd hcd) fun σ H Q ⟨c, δ, e, h⟩ => ⟨e.tab, fun H1 ext T1 => ?_⟩
  have kp : Keeps (fun _ => False) H H1 := Keeps.ofExtN ext T1
  have hdm : ∀ q, Liv H q → Liv H1 q := fun q z => kp.dom z fun z => z
  have e1 := e.keeps kp hdm
  have s1 : Stp σ δ H δ H1 := ⟨kp.weaken fun _ z => z.elim, fun _ z => z, fun i y z => ⟨y, z⟩, hdm⟩
  refine ⟨c, δ, e1, ?_⟩
  have h1 : Post X.K W (RVX X.K) c σ δ H1 (eHeard hok her fb δ) Q := Post.step s1 h
  unfold eHeard at h1
  unfold Post
  cases hf : fb δ with
  | bad => rw [hf] at h1; exact h1
  | ok r δ' =>
    rw [hf] at h1
    intro v H' e' s' _
    exact Post.fin e' (gok _ _ e'.free) (Post.step s' h1)
  | err y δ' =>
    rw [hf] at h1
    intro d H' e' s' hx
    exact Post.fin e' (ger _ _ _ _ e'.free hx) (Post.step s' h1)
end
end TM
set_option maxRecDepth 100000
set_option maxHeartbeats 4000000
/-! T23: the rules in short, their side facts found by themselves -/
namespace TM
open PySem PySem.Spec PyProof.Rows L2
variable [Tbs]
theorem hu65 {X : Cx} {k : Nat} (hr : Room k X.A) : X.A.units + 65 < cLine := by have := hr.un; omega
theorem hu64 {X : Cx} {k : Nat} (hr : Room k X.A) : X.A.units + 64 < cLine := by have := hr.un; omega
section
variable {X : Cx} {W : WX} {a b : Expr} {fa fb : FE} {pos p : Pos} {es : List Expr} {ff : FA} {k : Nat}
theorem xv (i : Nat) {x : Str} (hN : X.N[i]? = some x := by rfl) (hv : Vis X.env.scope x := by first | exact Or.inl rfl | exact Or.inr (Or.inl rfl) | exact Or.inr (Or.inr rfl)) (hd : (x == ("__debug__" : Str)) = false := by decide) (hcd : (x == ("__classdict__" : Str)) = false := by decide) :
    DE X W (eVar i) (.Name x pos) := de_var hN hv hd hcd
theorem xgs {x s : Str} (h : ∃ t, X.mg x = some (.str s t)) (hg : Gl X x := by rfl) (hd : (x == ("__debug__" : Str)) = false := by decide) : DE X W (eC (.str s)) (.Name x pos) := by
  obtain ⟨t, h⟩ := h
  exact de_glob (v := .str s) hg h ⟨t, rfl⟩ (fun _ _ => by simp only [Rep]) hd
theorem xgi {x : Str} {i : Int} (h : ∃ t, X.mg x = some (.int i t)) (hg : Gl X x := by rfl) (hd : (x == ("__debug__" : Str)) = false := by decide) : DE X W (eC (.int i)) (.Name x pos) := by
  obtain ⟨t, h⟩ := h
  exact de_glob (v := .int i) hg h ⟨t, rfl⟩ (fun _ _ => by simp only [Rep]) hd
theorem xgr {x : Str} {q : Addr} (h : X.mg x = some (.ref q)) (hg : Gl X x := by rfl) (hd : (x == ("__debug__" : Str)) = false := by decide) : DE X W (eC (.opq (.ref q))) (.Name x pos) :=
  de_glob (v := .ref q) hg h rfl (fun _ _ => by simp only [Rep]) hd
/-- a built-in class by its name -/
theorem xty (T : String) {x : Str} (hm : X.mg x = none) (hv : bootBuiltins x = some (.type T)) (hg : Gl X x := by rfl) (hn : x ≠ "__name__" := by decide) (hd : (x == ("__debug__" : Str)) = false := by decide) : DE X W (eC (.opq (.ty T))) (.Name x pos) :=
  de_C (pe_bltn (v := .ty T) hg hm hv rfl hn hd) (fun _ _ _ q => q) fun _ _ => by simp only [Rep]
/-! operators -/
theorem xAdd (ha : DE X W fa a) (hb : DE X W fb b) : DE X W (e2 dAdd fa fb) (.BinOp a .Add b pos) := de_bin op_addD add_g ha hb
def dSub : D → D → An := dI0 (· - ·)
theorem xSub (ha : DE X W fa a) (hb : DE X W fb b) : DE X W (e2 dSub fa fb) (.BinOp a .Sub b pos) := de_bin op_sub dI0_g ha hb
theorem xMul (ha : DE X W fa a) (hb : DE X W fb b) : DE X W (e2 dMul fa fb) (.BinOp a .Mult b pos) := de_bin op_mulD mul_g ha hb
theorem xDiv (ha : DE X W fa a) (hb : DE X W fb b) : DE X W (e2 dDiv fa fb) (.BinOp a .FloorDiv b pos) := de_bin op_fdivW div_g ha hb
theorem xMod (ha : DE X W fa a) (hb : DE X W fb b) : DE X W (e2 dMod fa fb) (.BinOp a .Mod b pos) := de_bin op_mod mod_g ha hb
theorem xPow (ha : DE X W fa a) (hb : DE X W fb b) : DE X W (e2 dPow fa fb) (.BinOp a .Pow b pos) := de_bin op_pow (dI_g cPow_ok) ha hb
def dNeg : D → An
  | .int i => some (.int (-i), false)
  | _ => none
theorem neg_g {K : PySem.W.Frag} : Op1D K (rU fun i => .int (-i)) dNeg := by
  intro N M H x u hn hf hx
  unfold dNeg
  split
  · exact gives_flat rInt fun Q q => ⟨_, hx.int, q⟩
  · exact Gives.none
theorem xNeg (ha : DE X W fa a) : DE X W (e1 dNeg fa) (.UnaryOp .USub a pos) := de_un un_neg neg_g ha
/-! comparisons: one lemma an operator, its rule and its law -/
structure CmpR (X : Cx) (op : CmpOp) (g : D → D → An) : Prop where
  ex : ∃ r : R2, OpR X (compareOp op) r ∧ Op2D X.K r g
theorem cEq (hr : Room k X.A) : CmpR X .Eq (dEq false) := ⟨_, op_eqD (hu64 hr), eq_g⟩
theorem cNe (hr : Room k X.A) : CmpR X .NotEq (dEq true) := ⟨_, op_neD (hu64 hr), ne_g⟩
theorem cEqK {kn : Kn} (ok : KnOk X.K kn) (hr : Room k X.A) : CmpR X .Eq (dEqK kn false) := ⟨_, op_eqD (hu64 hr), eqK_g ok⟩
theorem cNeK {kn : Kn} (ok : KnOk X.K kn) (hr : Room k X.A) : CmpR X .NotEq (dEqK kn true) := ⟨_, op_neD (hu64 hr), neK_g ok⟩
theorem cInK {kn : Kn} (ok : KnOk X.K kn) (hr : Room k X.A) : CmpR X .In (dInK kn false) := ⟨_, op_inT (hu65 hr), inK_g ok false⟩
theorem cNotInK {kn : Kn} (ok : KnOk X.K kn) (hr : Room k X.A) : CmpR X .NotIn (dInK kn true) := ⟨_, op_notInT (hu65 hr), inK_g ok true⟩
theorem cIn (hr : Room k X.A) : CmpR X .In (dIn false) := ⟨_, op_inA (hu65 hr), in_g⟩
theorem cNotIn (hr : Room k X.A) : CmpR X .NotIn (dIn true) := ⟨_, op_notInA (hu65 hr), notIn_g⟩
theorem cIs : CmpR X .Is (dIsN false) := ⟨_, op_isN, isN_g⟩
theorem cLt : CmpR X .Lt dLt := ⟨_, op_lt.or op_lt_str, cmp_g⟩
theorem cLe : CmpR X .LtE dLe := ⟨_, op_le.or op_le_str, cmp_g⟩
theorem cGt : CmpR X .Gt dGt := ⟨_, op_gt.or op_gt_str, cmp_g⟩
theorem cGe : CmpR X .GtE dGe := ⟨_, op_ge.or op_ge_str, cmp_g⟩
theorem xCmp {op : CmpOp} {g : D → D → An} (c : CmpR X op g) (ha : DE X W fa a) (hb : DE X W fb b) (hm : behindInMarks op b = false := by first | exact nobehind _ (by decide) (by decide) | rfl) : DE X W (e2 g fa fb) (.Compare a [op] [b] pos) := by
  obtain ⟨r, h1, h2⟩ := c.ex
  exact de_cmp h1 h2 ha hb hm
theorem tCmp {op : CmpOp} {g : D → D → An} (c : CmpR X op g) (ha : DE X W fa a) (hb : DE X W fb b) (hm : behindInMarks op b = false := by first | exact nobehind _ (by decide) (by decide) | rfl) : DT X W (tBl (e2 g fa fb)) (.Compare a [op] [b] pos) := by
  obtain ⟨r, h1, h2⟩ := c.ex
  exact dt_cmp h1 h2 ha hb hm
theorem xChain {op op' : CmpOp} {g g' : D → D → An} {d : Expr} {fd : FE} (c : CmpR X op g) (c' : CmpR X op' g') (ha : DE X W fa a) (hb : DE X W fb b) (hd : DE X W fd d) (hm : lastMarks [op, op'] [b, d] = false := by rfl) : DE X W (eChain g g' fa fb fd) (.Compare a [op, op'] [b, d] pos) := by
  obtain ⟨r, h1, h2⟩ := c.ex
  obtain ⟨r', h3, h4⟩ := c'.ex
  exact de_chain h1 h3 h2 h4 ha hb hd hm
theorem tChain2 {op op' : CmpOp} {g g' : D → D → An} {d : Expr} {fd : FE} (c : CmpR X op g) (c' : CmpR X op' g') (ha : DE X W fa a) (hb : DE X W fb b) (hd : DE X W fd d) (hm : lastMarks [op, op'] [b, d] = false := by rfl) : DT X W (tBl (eChain g g' fa fb fd)) (.Compare a [op, op'] [b, d] pos) := by
  obtain ⟨r, h1, h2⟩ := c.ex
  obtain ⟨r', h3, h4⟩ := c'.ex
  exact dt_chain h1 h3 h2 h4 ha hb hd hm
theorem tTr (ha : DE X W fa a) (he : ∀ whole, isTrue a X.env whole = (do let v ← whole; standAt a.pos; holding [v] (truthy v)) := by intro _; rfl) : DT X W (tTru fa) a := dt_tru he ha
theorem tW {f : FT} (h : DW X W f a) : DT X W f a := PW.pt h
/-! operands, indexes -/
theorem xc {f : FE} {g : FA} {e : Expr} (ha : DE X W f e) (hb : DA X W g es) (hs : starEach (e :: es) X.env = (false, eval e X.env) :: starEach es X.env := by rfl) : DA X W (aCons f g) (e :: es) := da_cons ha hb hs
theorem xIx (ha : DE X W fa a) (hb : DE X W fb b) (hs : PlainIx b := by intro _ _; rfl) : DE X W (e2 dIdx fa fb) (.Subscript a b pos) := de_ix ix_D idx_g ha hb hs
theorem xTab {q : Addr} {tb : List (Str × D)} (ok : ∀ z d, tb.lookup z = some d → ∃ v, KDct X.K X.w q z v ∧ ∀ M H, Rep X.K M H d v) (ha : DE X W fa a) (hb : DE X W fb b) (hs : PlainIx b := by intro _ _; rfl) : DE X W (e2 (dTab q tb) fa fb) (.Subscript a b pos) := de_ix ix_kdict (tab_g ok) ha hb hs
/-! built-in functions and classes -/
theorem xBi (id : String) {x : Str} {e : Expr} {r : List V → Hp → VK → Prop} {g : List D → An} (hc : CallR X (.builtin id) r) (hgv : OpND X.K r g) (hm : X.mg x = none) (hv : bootBuiltins x = some (.builtin id)) (ha : DA X W ff (e :: es)) (hg : Gl X x := by rfl) (hn : x ≠ "__name__" := by decide) (hdb : (x == ("__debug__" : Str)) = false := by decide)
    (he : starEach (e :: es) X.env = (false, eval e X.env) :: starEach es X.env := by rfl) (hpl : (backTo pos (starEach es X.env)).any (·.1) = false := by rfl) : DE X W (eN g ff) (.Call (.Name x p) (e :: es) [] pos) := de_bi hc hgv hg hm hv ha hn hdb he hpl
theorem xTy (T : String) {x : Str} {e : Expr} {r : List V → Hp → VK → Prop} {g : List D → An} (hc : CallR X (.type T) r) (hgv : OpND X.K r g) (hm : X.mg x = none) (hv : bootBuiltins x = some (.type T)) (ha : DA X W ff (e :: es)) (hg : Gl X x := by rfl) (hn : x ≠ "__name__" := by decide) (hdb : (x == ("__debug__" : Str)) = false := by decide)
    (he : starEach (e :: es) X.env = (false, eval e X.env) :: starEach es X.env := by rfl) (hpl : (backTo pos (starEach es X.env)).any (·.1) = false := by rfl) : DE X W (eN g ff) (.Call (.Name x p) (e :: es) [] pos) := de_ty hc hgv hg hm hv ha hn hdb he hpl
theorem xJoin {o e : Expr} {fo : FE} {apos : Pos} (ho : DE X W fo o) (he : DE X W fa e) (hs : starEach [e] X.env = [(false, eval e X.env)] := by rfl) (hbase : attributeBase o "join" X.env (eval o X.env) = eval o X.env := by rfl) (hline : (apos.endLine == pos.line) = true := by rfl) :
    DE X W (eS1 dJoin fo fa) (.Call (.Attribute o "join" apos) [e] [] pos) := de_join ho he hs hbase hline
end
/-! ### own defs -/
structure Dok (P : Program) (w : World) (K : PySem.W.Frag) (mg : Str → Option Value) (base : Heap) (k : Nat) (x : Str) (st : Stmt) (ps : List Str) (F : FF) : Prop where
  ex : ∃ f fd, Fun K x x st f fd ∧ FnOk P w K mg base (L2.CX P w) k f fd ps (treeSp K ps.length F) ∧ mg x = some (.ref f)
theorem Fun.kbinds {K : PySem.W.Frag} {x qual p : Str} {st : Stmt} {f : Addr} {fd : FuncData} {ps ks : List Str} (F : Fun K x qual st f fd) (m : Nat) (is : List Nat)
    (h : ∀ (kV doc pv : Value) (an : Option Addr) (cdv ct : Value) (ws : List Value), ws.length = m → bindArgs (PySem.W.fnOf x qual (defArgs st) (defBody st) (defScope st) .none kV doc pv an cdv ct) ⟨[], ks.zip ws⟩ = pure ((p :: ps).zip (pm is ws))) : KBinds K fd (p :: ps) ks (gk m is) (gk m is) := by
  obtain ⟨oc, od, kV, doc, pv, an, cdv, ct, osl, rfl, lk, hcd⟩ := F.ex
  exact TM.kbinds m is (h kV doc pv an cdv ct)
section
variable {X : Cx} {W : WX} {k : Nat} {x : Str} {st : Stmt} {ps : List Str} {F : FF} {p pos : Pos} {e : Expr} {es : List Expr} {fa : FA} {kws : List Keyword} {ks : List Str}
theorem xCall {n : Nat} (G : Dok X.prog X.w X.K X.mg X.base k x st ps F) (hb : ∀ (kV doc pm : Value) (an : Option Addr) (cdv ct : Value) (us : List Value), us.length = ps.length → bindArgs (PySem.W.fnOf x x (defArgs st) (defBody st) (defScope st) .none kV doc pm an cdv ct) ⟨us, []⟩ = pure (ps.zip us))
    (tk : Takes X W) (hr : Room k X.A) (ha : DA X W fa (e :: es)) (hg : Gl X x := by rfl) (hdb : (x == ("__debug__" : Str)) = false := by decide) (he : starEach (e :: es) X.env = (false, eval e X.env) :: starEach es X.env := by rfl) (hpl : (backTo pos (starEach es X.env)).any (·.1) = false := by rfl) (hn : ps.length = n := by rfl) :
    DE X W (eCall n F fa) (.Call (.Name x p) (e :: es) [] pos) := by
  subst hn
  obtain ⟨f, fd, F1, F2, F3⟩ := G.ex
  exact de_call F2 tk hr hg F3 F1.kp (F1.binds hb) ha hdb he hpl
theorem xCallK {q : Str} {n : Nat} (G : Dok X.prog X.w X.K X.mg X.base k x st (q :: ps) F) (m : Nat) (is : List Nat)
    (hb : ∀ (kV doc pv : Value) (an : Option Addr) (cdv ct : Value) (ws : List Value), ws.length = m → bindArgs (PySem.W.fnOf x x (defArgs st) (defBody st) (defScope st) .none kV doc pv an cdv ct) ⟨[], ks.zip ws⟩ = pure ((q :: ps).zip (pm is ws)))
    (tk : Takes X W) (hr : Room k X.A) (ha : DK X W fa kws) (hks : (backToKw pos (keywordEach kws X.env)).filterMap (·.1) = ks := by rfl) (hall : (backToKw pos (keywordEach kws X.env)).all (·.1.isSome) = true := by rfl) (hg : Gl X x := by rfl) (hdb : (x == ("__debug__" : Str)) = false := by decide)
    (hpl : ((backTo pos (starEach [] X.env)).any (·.1) || (backToKw pos (keywordEach kws X.env)).any (·.1.isNone)) = false := by rfl) (hn : ps.length + 1 = n := by rfl) :
    DE X W (eCallK m n is F fa) (.Call (.Name x p) [] kws pos) := by
  subst hn
  obtain ⟨f, fd, F1, F2, F3⟩ := G.ex
  exact de_callK F2 tk hr hg F3 F1.kp (Fun.kbinds F1 m is hb) ha hall hks hdb hpl
/-- a def by its body -/
theorem dok_of {P : Program} {w : World} {K : PySem.W.Frag} {mg : Str → Option Value} {base : Heap} {N : List Str} {g : FS} (h : ∃ f fd, Fun K x x st f fd ∧ mg x = some (.ref f)) (S : FnScope N ps (defScope st)) (hle : ps.length ≤ N.length)
    (hb : ∀ (f : Addr) (cdv : Value) (A : Around) (outer : List Env) (s : Shared) (H : Hp) (E : XK), Room k (A.deeper (envOfC x (defScope st) s.heap.objs.size f cdv)) →
      DSs (cxOf (L2.CX P w) P w K mg base N x (defScope st) f cdv A outer s H E) (fun cls d _ H => E cls d H) g (defBody st)) :
    Dok P w K mg base (k + 1) x st ps (runF (N.length - ps.length) g) := by
  obtain ⟨f, fd, F1, F3⟩ := h
  exact ⟨f, fd, F1, fn_tree F1 S hle fun cdv A outer s H E hr => hb f cdv A outer s H E hr, F3⟩
end
end TM
set_option maxRecDepth 100000
set_option maxHeartbeats 4000000
/-! T24: statements, walks, comprehensions in short -/
namespace TM
open PySem PySem.Spec PyProof.Rows L2
variable [Tbs]
def blkB (N : List Str) (sc scope : Scope) (own : List (Str × Nat)) : Bool := decide (scope.kind = .function) && (scope.names.all (fun y => decide (scope.names.lookup y.1 = some y.2)) && (own.all (fun p => decide (N[p.2]? = some p.1)) &&
  (scope.names.all (fun y => !decide (y.2 = .free) || (decide (sc.names.lookup y.1 = some .cell) || decide (sc.names.lookup y.1 = some .free))) &&
  scope.names.all fun y => !(decide (y.2 = .local) || decide (y.2 = .cell)) || (own.any (fun p => decide (p.1 = y.1)) || !N.any fun n => decide (n = y.1)))))
theorem blk_by {N : List Str} {sc scope : Scope} {own : List (Str × Nat)} (h : blkB N sc scope own = true) : BlkOk N sc scope own := by
  simp only [blkB, Bool.and_eq_true, Bool.or_eq_true, Bool.not_eq_true', List.all_eq_true, List.any_eq_true, decide_eq_true_eq, decide_eq_false_iff_not, List.any_eq_false, Bool.or_eq_false_iff] at h
  obtain ⟨h1, h2, h3, h4, h5⟩ := h
  refine ⟨h1, fun y hy => h2 y hy, fun p hp => h3 p hp, fun y hy e => ?_, fun y hy e => ?_⟩
  · rcases h4 y hy with z | z
    · exact absurd e z
    · exact z
  · rcases h5 y hy with z | ⟨p, hp, z⟩ | z
    · rcases e with e | e
      · exact absurd e z.1
      · exact absurd e z.2
    · exact .inl (List.mem_map.mpr ⟨p, hp, z⟩)
    · exact .inr fun m => z _ m rfl
section
variable {X : Cx} {W : WX} {a b e tg iter elt : Expr} {fa fb f : FE} {pos p py : Pos} {es ifs : List Expr} {ff : FA} {st : Stmt} {rest : List Stmt} {g g' : FS}
/-! statements -/
theorem yS (hN : X.N.Nodup) (i : Nat) {x : Str} (he : DE X W f e) (hi : X.N[i]? = some x := by rfl) (hx : Loc X.env.scope x := by first | exact Or.inl rfl | exact Or.inr rfl) (hs : swapsWith e (some (.Name x py)) pos.line X.env = pure false := by rfl)
    (hf : X.fn x = true ∨ X.env.scope.names.lookup x = some .local := by exact Or.inl rfl) : DS X W (sSet i f) (.Assign [.Name x py] e pos) := ds_set hN hi hx he hs hf
theorem yE (he : DE X W f e) (hs : swapsWith e none pos.line X.env = pure false := by rfl) : DS X W (sExpr f) (.Expr e pos) := ds_expr he hs
theorem yFor {body : List Stmt} {src : M (List D)} {ag : FG} {ts : List Nat} (hi : DI X W tg src iter) (hg : DG X ts ag tg) (hb : DSs X W g body) (hp : PassesOwn (model X.prog X.w) X.A X.env X.xe := by exact passes_of rfl) (hc : X.calm = true := by rfl) (hs : ∀ x, foldedSetIterable iter X.env x = pure x := by intro _; rfl) :
    DS X W (sFor src ag g) (.For tg iter body [] pos) := ds_for hp hc hi hg hb hs
theorem ySetIt (i : Nat) {x : Str} {fi fv : FE} {spos : Pos} (hb : DE X W fi b) (he : DE X W fv e) (hN : X.N[i]? = some x := by rfl) (hv : Vis X.env.scope x := by first | exact Or.inl rfl | exact Or.inr (Or.inl rfl) | exact Or.inr (Or.inr rfl)) (hd : (x == ("__debug__" : Str)) = false := by decide) (hcd : (x == ("__classdict__" : Str)) = false := by decide)
    (ha : ∀ v, assign (.Subscript (.Name x p) b spos) X.env v = (do
      let ov ← holding [v] (eval (.Name x p) X.env)
      let iv ← holding [v, ov] (eval b X.env)
      standAt spos
      holding [v, ov, iv] (setItem ov iv v)
      release [v, ov, iv] []) := by intro _; rfl)
    (hs : swapsWithSole [.Subscript (.Name x p) b spos] e pos.line X.env = pure false := by rfl) (hw : swappedStores [.Subscript (.Name x p) b spos] e X.env = pure none := by rfl)
    (h1 : (assignEach [.Subscript (.Name x p) b spos] X.env).map (·.2) = [assign (.Subscript (.Name x p) b spos) X.env] := by rfl) : DS X W (sSetIt i fi fv) (.Assign [.Subscript (.Name x p) b spos] e pos) := ds_setIt hN hv hd hcd hb he ha hs hw h1
theorem yPar2 (hN : X.N.Nodup) (i j : Nat) {x y : Str} {px pt : Pos} {kt k2 pt2} (ha : DA X W ff [a, b]) (hc : X.calm = true := by rfl) (hi : X.N[i]? = some x := by rfl) (hj : X.N[j]? = some y := by rfl) (hij : i ≠ j := by decide)
    (hx : X.env.scope.names.lookup x = some .local := by rfl) (hy : X.env.scope.names.lookup y = some .local := by rfl)
    (hw : swappedStores [.Tuple [.Name x px, .Name y py] kt pt] (.Tuple [a, b] k2 pt2) X.env = pure (some [x, y]) := by rfl)
    (hs : swapsWithSole [.Tuple [.Name x px, .Name y py] kt pt] (.Tuple [a, b] k2 pt2) pos.line X.env = pure false := by rfl) :
    DS X W (sPar [i, j] ff) (.Assign [.Tuple [.Name x px, .Name y py] kt pt] (.Tuple [a, b] k2 pt2) pos) := ds_par2 hc hN hi hj hij hx hy ha hw hs
theorem yPar2F (hN : X.N.Nodup) (i j : Nat) {x y : Str} {px pt : Pos} {kt k2 pt2} (ha : DE X W fa a) (hb : DE X W fb b) (hc : X.calm = true := by rfl) (hi : X.N[i]? = some x := by rfl) (hj : X.N[j]? = some y := by rfl) (hij : i ≠ j := by decide)
    (hx : X.env.scope.names.lookup x = some .local := by rfl) (hy : X.env.scope.names.lookup y = some .local := by rfl)
    (s1 : starEach (a :: [b]) X.env = (false, eval a X.env) :: starEach [b] X.env := by rfl) (s2 : starEach (b :: []) X.env = (false, eval b X.env) :: starEach [] X.env := by rfl)
    (hw : swappedStores [.Tuple [.Name x px, .Name y py] kt pt] (.Tuple [a, b] k2 pt2) X.env = pure (some [x, y]) := by rfl)
    (hs : swapsWithSole [.Tuple [.Name x px, .Name y py] kt pt] (.Tuple [a, b] k2 pt2) pos.line X.env = pure false := by rfl) :
    DS X W (sPar2F i j fa fb) (.Assign [.Tuple [.Name x px, .Name y py] kt pt] (.Tuple [a, b] k2 pt2) pos) := ds_par2F hc hN hi hj hij hx hy ha hb s1 s2 hw hs
/-! targets, walks -/
theorem gN (hN : X.N.Nodup) (i : Nat) {x : Str} (hi : X.N[i]? = some x := by rfl) (hx : Loc X.env.scope x := by first | exact Or.inl rfl | exact Or.inr rfl) (hf : X.fn x = true ∨ X.env.scope.names.lookup x = some .local := by first | exact Or.inl rfl | exact Or.inr rfl) : DG X [i] (gSet i) (.Name x pos) := dg_name hN hi hx hf
theorem gC {ag : FG} {bg : List D → Env' → Option Env'} {ts us : List Nat} (h1 : DG X ts ag e) (h2 : DGs X us bg es) (hs : (assignEach (e :: es) X.env).map (·.2) = assign e X.env :: (assignEach es X.env).map (·.2) := by rfl) : DGs X (ts ++ us) (gsCons ag bg) (e :: es) := dgs_cons h1 h2 hs
theorem gT (n : Nat) {k : Nat} {bg : List D → Env' → Option Env'} {ts : List Nat} (h : DGs X ts bg es) (hc : X.calm = true := by rfl) (hn : (assignEach es X.env).length = n := by rfl) (hst : (assignEach es X.env).findIdx? (·.1) = none := by rfl) : DG X ts (gTupD n bg) (.Tuple es k pos) := dg_tup hc h hn hst
theorem iR1 (hm : X.mg "range" = none) (ha : DA X W ff [a]) (hg : Gl X "range" := by rfl) (hs : starEach [a] X.env = [(false, eval a X.env)] := by rfl) : DI X W tg (iRng1 ff) (.Call (.Name "range" p) [a] [] pos) := di_range1 hg hm ha hs
theorem iR2 (hm : X.mg "range" = none) (ha : DA X W ff [a, b]) (hg : Gl X "range" := by rfl) (hs : starEach [a, b] X.env = [(false, eval a X.env), (false, eval b X.env)] := by rfl) (hs2 : starEach [b] X.env = [(false, eval b X.env)] := by rfl) : DI X W tg (iRng2 ff) (.Call (.Name "range" p) [a, b] [] pos) := di_range2 hg hm ha hs hs2
theorem iEn {elts : List Expr} {kk : Nat} {tpos : Pos} (hm : X.mg "enumerate" = none) (ha : DA X W ff [a]) (hg : Gl X "enumerate" := by rfl) (hs : starEach [a] X.env = [(false, eval a X.env)] := by rfl) : DI X W (.Tuple elts kk tpos) (iEnumD ff) (.Call (.Name "enumerate" p) [a] [] pos) := di_enum hg hm ha hs
theorem iZ {elts : List Expr} {kk : Nat} {tpos : Pos} (hm : X.mg "zip" = none) (ha : DA X W ff [a, b]) (hg : Gl X "zip" := by rfl) (hs : starEach [a, b] X.env = (false, eval a X.env) :: starEach [b] X.env := by rfl) (hpl : (backTo pos (starEach [b] X.env)).any (·.1) = false := by rfl) : DI X W (.Tuple elts kk tpos) (iZipD ff) (.Call (.Name "zip" p) [a, b] [] pos) := di_zip hg hm ha hs hpl
/-! comprehensions -/
abbrev Blk (X : Cx) (scope : Scope) (φ : Cx → Prop) : Prop := ∀ (s : Shared) (H : Hp) (C : Addr) (cl : List (Str × Addr)) (fp : List Addr), φ (X.blk s H scope (compEnvC scope cl C X.env) fp)
theorem xLc {scope : Scope} (own : List (Str × Nat)) {src : M (List D)} {ag : FG} {t : FT} {ts : List Nat} (hN : X.N.Nodup) (ga : GoodG ag) (hi : DI X W tg src iter) (hg : Blk X scope fun Y => DG Y ts ag tg) (ht : Blk X scope fun Y => DTs Y WF t ifs) (he : Blk X scope fun Y => DE Y WF f elt)
    (ok : blkB X.N X.env.scope scope own = true := by kernel_rfl) (hts : ∀ i ∈ ts, i ∈ own.map (·.2) := by decide) (hc : X.calm = true := by rfl) (hs : ∀ x, foldedSetIterable iter X.env x = pure x := by intro _; rfl) :
    DE X W (eLc src ag t f (own.map (·.2))) (.ListComp elt [⟨tg, iter, ifs, 0⟩] scope pos) := de_lc hc hN hi (blk_by ok) hts ga hg ht he hs
theorem ySLc {scope : Scope} (own : List (Str × Nat)) (i : Nat) {y : Str} {spos : Pos} {src : M (List D)} {ag : FG} {t : FT} {ts : List Nat} (hN : X.N.Nodup) (ga : GoodG ag) (hi : DI X W tg src iter) (hg : Blk X scope fun Y => DG Y ts ag tg) (ht : Blk X scope fun Y => DTs Y WF t ifs) (he : Blk X scope fun Y => DE Y WF f elt)
    (hy : X.N[i]? = some y := by rfl) (hyl : X.env.scope.names.lookup y = some .local := by rfl) (hsw : swapsWith (.ListComp elt [⟨tg, iter, ifs, 0⟩] scope pos) (some (.Name y py)) spos.line X.env = pure true := by rfl)
    (ok : blkB X.N X.env.scope scope own = true := by kernel_rfl) (hts : ∀ i ∈ ts, i ∈ own.map (·.2) := by decide) (hc : X.calm = true := by rfl) (hs : ∀ x, foldedSetIterable iter X.env x = pure x := by intro _; rfl) :
    DS X W (sSet i (eLc src ag t f (own.map (·.2)))) (.Assign [.Name y py] (.ListComp elt [⟨tg, iter, ifs, 0⟩] scope pos) spos) := ds_setLc hc hN hy hyl hsw hi (blk_by ok) hts ga hg ht he hs
/-! owned lists -/
theorem xApp (i : Nat) {x : Str} {apos : Pos} (ha : DE X W f a) (hN : X.N[i]? = some x := by rfl) (hv : Vis X.env.scope x := by first | exact Or.inl rfl | exact Or.inr (Or.inl rfl) | exact Or.inr (Or.inr rfl)) (hd : (x == ("__debug__" : Str)) = false := by decide) (hcd : (x == ("__classdict__" : Str)) = false := by decide)
    (hbase : attributeBase (.Name x p) "append" X.env (eval (.Name x p) X.env) = eval (.Name x p) X.env := by rfl)
    (hfew : ((backTo pos (starEach [a] X.env)).all (fun x => !x.1) && (backToKw pos (keywordEach [] X.env)).all (fun x => x.1.isSome) && decide (([a] : List Expr).length + ([] : List Keyword).length + (if ([] : List Keyword).isEmpty then 0 else 1) < 30)) = true := by rfl)
    (hline : (apos.endLine == pos.line) = true := by rfl) (hs : starEach [a] X.env = (false, eval a X.env) :: starEach [] X.env := by rfl) (hplain : (backTo pos (starEach [] X.env)).any (·.1) = false := by rfl) :
    DE X W (eMut i mAppend (aCons f aNil)) (.Call (.Attribute (.Name x p) "append" apos) [a] [] pos) :=
  de_mut F.slot_list_append F.plainAttrs_list F.type_list_append mt_append append_m hN hv hd hcd (da_cons ha da_nil hs) hbase hfew hline hs hplain
theorem xPop (i : Nat) {x : Str} {apos : Pos} (ha : DE X W f a) (hN : X.N[i]? = some x := by rfl) (hv : Vis X.env.scope x := by first | exact Or.inl rfl | exact Or.inr (Or.inl rfl) | exact Or.inr (Or.inr rfl)) (hd : (x == ("__debug__" : Str)) = false := by decide) (hcd : (x == ("__classdict__" : Str)) = false := by decide)
    (hbase : attributeBase (.Name x p) "pop" X.env (eval (.Name x p) X.env) = eval (.Name x p) X.env := by rfl)
    (hfew : ((backTo pos (starEach [a] X.env)).all (fun x => !x.1) && (backToKw pos (keywordEach [] X.env)).all (fun x => x.1.isSome) && decide (([a] : List Expr).length + ([] : List Keyword).length + (if ([] : List Keyword).isEmpty then 0 else 1) < 30)) = true := by rfl)
    (hline : (apos.endLine == pos.line) = true := by rfl) (hs : starEach [a] X.env = (false, eval a X.env) :: starEach [] X.env := by rfl) (hplain : (backTo pos (starEach [] X.env)).any (·.1) = false := by rfl) :
    DE X W (eMut i mPop (aCons f aNil)) (.Call (.Attribute (.Name x p) "pop" apos) [a] [] pos) :=
  de_mut F.slot_list_pop F.plainAttrs_list F.type_list_pop mt_popA pop_m hN hv hd hcd (da_cons ha da_nil hs) hbase hfew hline hs hplain
end
end TM
set_option maxRecDepth 100000
set_option maxHeartbeats 4000000
/-! T25: own errors and other things in short -/
namespace TM
open PySem PySem.Spec PyProof.Rows L2
variable [Tbs]
/-- an own error class: its object, the names of its fields -/
structure Err (P : Program) (w : World) (K : PySem.W.Frag) (mg : Str → Option Value) (base : Heap) (x : Str) (C : Addr) (ns : List Str) : Prop where
  ex : ∃ fI fd ps, OexC K C ∧ PySem.W.findIn K (.ref C) "__init__" = some (some (.ref fI)) ∧ PySem.W.typeIn K (.ref fI) = some (.type "function") ∧ FnOk P w K mg base (L2.CX P w) 1 fI fd ps (spX C ns) ∧ Binds K fd ps [] ∧ mg x = some (.ref C)
section
variable {X : Cx} {W : WX} {e : Expr} {es : List Expr} {fa : FA} {x : Str} {C : Addr} {ns : List Str} {p pos pos' : Pos}
theorem yRaise (G : Err X.prog X.w X.K X.mg X.base x C ns) (tk : Takes X W) (hr : Room 2 X.A) (ha : DA X W fa (e :: es)) (hc : X.calm = true := by rfl) (hg : Gl X x := by rfl) (hdb : (x == ("__debug__" : Str)) = false := by decide)
    (he : starEach (e :: es) X.env = (false, eval e X.env) :: starEach es X.env := by rfl) (hpl : (backTo pos (starEach es X.env)).any (·.1) = false := by rfl) :
    DS X W (sRaise C ns fa) (.Raise (some (.Call (.Name x p) (e :: es) [] pos)) none pos') := by
  obtain ⟨fI, fd, ps, h1, h2, h3, h4, h5, h6⟩ := G.ex
  exact ds_raise hc tk h1 h2 h3 h4 hr h5 hg h6 ha hdb he hpl
theorem cIsNot : CmpR X .IsNot (dIsN true) := ⟨_, op_notN, notN_g⟩
theorem yAsg {tg e : Expr} {f : FE} {a : FG} {ts : List Nat} (he : DE X W f e) (hg : DG X ts a tg) (hs : swapsWithSole [tg] e pos.line X.env = pure false := by rfl) (hw : swappedStores [tg] e X.env = pure none := by rfl)
    (h1 : (assignEach [tg] X.env).map (·.2) = [assign tg X.env] := by rfl) : DS X W (sAsgG a f) (.Assign [tg] e pos) := ds_asgG he hg hs hw h1
end
end TM
set_option maxRecDepth 100000
set_option maxHeartbeats 4000000
/-! T26: a def whose code object is known; a lambda handed in, in short -/
namespace TM
open PySem PySem.Spec PyProof.Rows L2
variable [Tbs]
/-- a def by its body, its code object told -/
theorem dok_ofC {P : Program} {w : World} {K : PySem.W.Frag} {mg : Str → Option Value} {base : Heap} {x : Str} {st : Stmt} {k : Nat} {N ps : List Str} {g : FS} (h : ∃ f fd, Fun K x x st f fd ∧ mg x = some (.ref f) ∧ f = He.ga K x) (S : FnScope N ps (defScope st))
    (hb : ∀ (f : Addr) (cdv : Value) (A : Around) (outer : List Env) (s : Shared) (H : Hp) (E : XK), cdv = .ref (He.codeOf K (x, none)) → Room k (A.deeper (envOfC x (defScope st) s.heap.objs.size f cdv)) →
      DSs (cxOf (L2.CX P w) P w K mg base N x (defScope st) f cdv A outer s H E) (fun cls d _ H => E cls d H) g (defBody st)) :
    Dok P w K mg base (k + 1) x st ps (runF (N.length - ps.length) g) := by
  obtain ⟨f, fd, F1, F3, ef⟩ := h
  refine ⟨f, fd, F1, ?_, F3⟩
  obtain ⟨oc, od, kV, doc, pv, an, cdv, ct, osl, efd, lk, hcd⟩ := F1.ex
  subst efd
  obtain ⟨c, ec⟩ := He.codeIn_ref hcd
  have ecd : cdv = .ref (He.codeOf K (x, none)) := by
    rw [He.codeOf_eq (p := (x, none)) (c := c) (by show K.lookup (He.ga K x) = _; rw [← ef]; exact lk) ec]
    exact ec
  exact fn_of lk hcd S (fun vs H Q E ⟨c, ads, h, _⟩ => h) fun A outer s H vs Q E hr h => tree_body (hb f cdv A outer s H E ecd hr) h
/-- what the caller of such a def knows of it, and of its own code object -/
structure Hrd (P : Program) (w : World) (K : PySem.W.Frag) (mg : Str → Option Value) (base : Heap) (me : Str) (x a : Str) (st : Stmt) (Ng : List Str) (ok : Hp → VK → Prop) (er : Value → Option Addr → Hp → VK → Prop) (hok : An) (her : Exc → An) : Prop where
  ex : ∃ g fd, Fun K x x st g fd ∧ mg x = some (.ref g)
  sc : FnScope Ng [a] (defScope st)
  at0 : Ng[0]? = some a
  vis : Vis (defScope st) a
  bnd : ∀ (kV doc pm : Value) (an : Option Addr) (cdv ct : Value) (us : List Value), us.length = [a].length → bindArgs (PySem.W.fnOf x x (defArgs st) (defBody st) (defScope st) .none kV doc pm an cdv ct) ⟨us, []⟩ = pure ([a].zip us)
  gives : ∀ (X : Cx) (g : Addr) (cdg : Value) (q : Str), X.K = K → X.mg = mg → LamX.GivesTo X Ng x (defScope st) g cdg (defBody st) a q (TTx ok er)
  gok : ∀ M H, (∀ p, H p = none → ¬ M p) → Gives K ok M H hok
  ger : ∀ M H (e : Exc) d, (∀ p, H p = none → ¬ M p) → ExcR K M H e.fs d → Gives K (er (.ref e.C) d) M H (her e)
  tab : LamX.TabB base mg (He.codeOf K (me, none)) (He.tabOf K (He.codeOf K (me, none)))
  mem : (He.tabOf K (He.codeOf K (me, none)), me ++ ".<locals>." ++ "<lambda>") ∈ Tbs.T
  one : ∀ p ∈ Tbs.T, p.1 = He.tabOf K (He.codeOf K (me, none)) → p.2 = me ++ ".<locals>." ++ "<lambda>"
section
variable {X : Cx} {W : WX} {fb : FE} {me x a : Str} {st : Stmt} {Ng : List Str} {ok : Hp → VK → Prop} {er : Value → Option Addr → Hp → VK → Prop} {hok : An} {her : Exc → An} {k : Nat} {params : Arguments} {body : Expr} {scope : Scope} {p lpos pos : Pos}
theorem xHeard (G : Hrd X.prog X.w X.K X.mg X.base me x a st Ng ok er hok her) (hcode : X.env.code = .ref (He.codeOf X.K (me, none))) (hr : Room (k + 2) X.A)
    (hbody : ∀ (A : Around) (outer : List Env) (s : Shared) (H : Hp) (E : XK) (f c' : Addr), Room k (A.deeper (LamX.lamEnv X scope s.heap.objs.size f c')) → DE (LamX.lamCx X A outer s H E scope f c') (fun cls d _ H => E cls d H) fb body)
    (hq : X.env.qual ++ "<lambda>" = me ++ ".<locals>." ++ "<lambda>" := by rfl) (hL : LamX.lamSB X.env.scope scope = true := by kernel_rfl) (hdef : defaultsOf params X.env = ([], []) := by rfl)
    (hbind : ∀ (q : Str) (cl : List (Str × Addr)) (pm cv ctv : Value), bindArgs (PySem.W.kla_fn "<lambda>" q params body scope cl pm cv ctv) ⟨[], []⟩ = pure [] := by intros; rfl) (hg : Gl X x := by rfl)
    (hdb : (x == ("__debug__" : Str)) = false := by decide) (hd : (a == ("__debug__" : Str)) = false := by decide) (hcd : (a == ("__classdict__" : Str)) = false := by decide) :
    DE X W (eHeard hok her fb) (.Call (.Name x p) [.Lambda params body scope lpos] [] pos) := by
  obtain ⟨g, fd, F1, F3⟩ := G.ex
  have hb := F1.binds G.bnd
  obtain ⟨oc, od, kV, doc, pv, an, cdv, ct, osl, efd, lk, hcg⟩ := F1.ex
  subst efd
  exact de_heard hg F3 F1.kp lk hcg hb G.sc G.at0 G.vis (G.gives X g cdv _ rfl rfl) G.gok G.ger G.tab hcode (by rw [hq]; exact G.mem) (by rw [hq]; exact G.one) hr (LamX.lamS_by hL) hdef hbind hbody hdb hd hcd
end
end TM
set_option maxRecDepth 100000
set_option maxHeartbeats 0
namespace Hd
open PySem PySem.Spec PyProof.Rows L2
abbrev top (i : Nat) : Stmt := PySem.Challenge.pw_borderwords_k01_checks_of_any_value.main.body.getD i (.Pass ⟨0, 0, 0, 0⟩)
def dd (x : Str) (i : Nat) : He.DefD := ⟨(x, none), x, x, defArgs (top i), defBody (top i), defScope (top i), [], []⟩
def dm (C m q : Str) (i j : Nat) : He.DefD := ⟨(C, some m), m, q, defArgs (inClass (top i) j), defBody (inClass (top i) j), defScope (inClass (top i) j), [], []⟩
def fn : List He.DefD := [dd "is_integer" 9, dd "is_within" 10, dd "is_name" 11, dd "is_cell" 12, dd "is_word" 13, dd "need_word" 14, dd "turned_word" 15, dd "first_twice" 16, dd "cell_key" 17, dd "cell_text" 18,
  dd "_law_store" 20, dd "_law_next" 21, dd "_law_name" 22, dd "_law_names" 23, dd "_law_value" 24, dd "_law_is_plain" 25, dd "_law_is_name" 26, dd "_law_is_cell" 27, dd "_law_value_right" 28, dd "_law_heard" 29, dd "_law_words_right" 30, dd "law" 31, dm "BadWord" "__init__" "BadWord.__init__" 2 0]
def fa : List He.Fa := [.glo "is_integer", .glo "is_within", .glo "is_name", .glo "is_cell", .glo "is_word", .glo "need_word", .glo "turned_word", .glo "first_twice", .glo "cell_key", .glo "cell_text",
  .glo "_law_store", .glo "_law_next", .glo "_law_name", .glo "_law_names", .glo "_law_value", .glo "_law_is_plain", .glo "_law_is_name", .glo "_law_is_cell", .glo "_law_value_right", .glo "_law_heard", .glo "_law_words_right", .glo "law",
  .glo "WordsError", .glo "BadWord", .str "LETTERS" "abcdefghijklmnopqrstuvwxyz", .str "DIGITS" "0123456789", .int "LONGEST" 12, .glo "WORDS", .glo "TURNED", .free "isinstance", .free "int", .free "bool", .free "str", .free "list", .free "tuple", .free "len", .free "all", .free "zip", .free "abs", .free "range", .free "max", .free "sorted", .free "enumerate"]
def ts : List He.Tab := [(fun K => He.ga K "TURNED", ["apart", "meets", "overlaps", "same", "deep", "rim", "holdsdeep", "holdsrim"])]
def tf : List He.Defn := [("_law_words_right", none)]
def exC (K : PySem.W.Frag) (C m p : Str) : Bool := TM.oexB K (He.ga K C) && (xfB K (He.ga K C) && (decide (PySem.W.findIn K (.ref (He.ga K C)) p = some none) && (decide (PySem.W.findIn K (.ref (He.ga K C)) m = some (some (.ref (He.fAd K (C, some m))))) &&
  (decide (PySem.W.typeIn K (.ref (He.fAd K (C, some m))) = some (.type "function")) && decide (PySem.W.exmOne K (.ref (He.ga K C)) (.ref (He.ga K C)) = some true)))))
def ex (K : PySem.W.Frag) : Bool := exC K "BadWord" "__init__" "part" && (He.tupB K "WORDS" [.str "apart", .str "meets", .str "overlaps", .str "same", .str "deep", .str "rim", .str "holdsdeep", .str "holdsrim"] &&
  He.valsB K (He.ga K "TURNED") [("apart", .str "apart"), ("meets", .str "meets"), ("overlaps", .str "overlaps"), ("same", .str "same"), ("deep", .str "holdsdeep"), ("rim", .str "holdsrim"), ("holdsdeep", .str "deep"), ("holdsrim", .str "rim")])
abbrev R : PySem.W.OpenRow := PySem.W.OpenLaw.row PySem.Challenge.rw_borderwords_k01_checks_of_any_value
abbrev hk : PySem.W.Hook := He.hookX 5 fa fn ts tf ex
def ob (s : PySem.W.SharedT) : He.AlX := He.obsX 5 fa fn ts tf ex (HandSHeadRun.getT s)
theorem ob_eq (s : PySem.W.SharedT) : ob s = hk.obs s.abs := He.obsX_eq (HandSHeadRun.getT_eq s)
def names : List Str := ["WordsError", "BadWord", "LETTERS", "DIGITS", "LONGEST", "WORDS", "TURNED", "is_integer", "is_within", "is_name", "is_cell", "is_word", "need_word", "turned_word", "first_twice", "cell_key", "cell_text",
  "_law_store", "_law_next", "_law_name", "_law_names", "_law_value", "_law_is_plain", "_law_is_name", "_law_is_cell", "_law_value_right", "_law_heard", "_law_words_right"]
theorem runF (w : World) : HandSHeadRun.RunEq R (PySem.W.view R.prog [31]) hk ob 20000 names (w.withFollow "special-get-raises" false) := by
  intro os
  kernel_rfl
theorem runT (w : World) : HandSHeadRun.RunEq R (PySem.W.view R.prog [31]) hk ob 20000 names (w.withFollow "special-get-raises" true) := by
  intro os
  kernel_rfl
theorem run (w : World) : HandSHeadRun.RunEq R (PySem.W.view R.prog [31]) hk ob 20000 names w := PySem.W.byRow2 "special-get-raises" runF runT w
end Hd
set_option maxRecDepth 100000
set_option maxHeartbeats 4000000
/-! U1: first_twice, by hand -/
namespace TM
open PySem PySem.Spec PyProof.Rows L2
variable [Tbs]
/-- the keys of a dict under way -/
structure DkK (κ : Type) [DecidableEq κ] (mk : List (κ × V) → HO) (KeyV : Hp → V → κ → Prop) : Prop where
  get : ∀ {H : Hp} {p : Addr} {kvs : List (κ × V)} {k : κ} {y : V}, H p = some (mk kvs) → KeyV H y k → DGet H p y (valV kvs k)
  put : ∀ {H : Hp} {p : Addr} {kvs : List (κ × V)} {k : κ} {y v : V}, H p = some (mk kvs) → KeyV H y k → kvs.length < sizeLine → DPut H p y v (upd H p (mk (putK kvs k v)))
  keep : ∀ {H H' : Hp} {y : V} {k : κ}, KeyV H y k → (∀ b o, H b = some o → H' b = some o) → KeyV H' y k
def keyOfD : D → Option Key
  | .int i => some (.inl i)
  | .str s => some (.inr s)
  | _ => none
def keysOfD : List D → Option (List Key)
  | [] => some []
  | d :: ds => match keyOfD d, keysOfD ds with
    | some k, some ks => some (k :: ks)
    | _, _ => none
def tkeyOfD : D → Option (List Key)
  | .tup ds => keysOfD ds
  | _ => none
def tkeysOfD : List D → Option (List (List Key))
  | [] => some []
  | d :: ds => match tkeyOfD d, tkeysOfD ds with
    | some k, some ks => some (k :: ks)
    | _, _ => none
/-- the first item whose key stood ahead -/
def ftD {κ : Type} [DecidableEq κ] : List κ → List D → List κ → D
  | _, [], _ => .non
  | _, _ :: _, [] => .non
  | seen, d :: ds, k :: ks => if k ∈ seen then d else ftD (seen ++ [k]) ds ks
def F_ft : FF := fun ads => match ads with
  | [.sh l] => match itemsD l with
    | some ds => if ds.length < SZ then
        match keysOfD ds with
        | some ks => .ok (ftD [] ds ks) false [.sh l]
        | none => match tkeysOfD ds with
          | some ks => .ok (ftD [] ds ks) false [.sh l]
          | none => .bad
      else .bad
    | none => .bad
  | _ => .bad
theorem dk_k : DkK Key .dK (fun _ y k => y = kV k) := ⟨fun e h => by subst h; exact DGet.k e, fun e h l => by subst h; exact DPut.k e l, fun h _ => h⟩
theorem dk_t : DkK (List Key) .dT (fun H y k => ∃ b, y = .ref b ∧ H b = some (.tup (k.map kV))) :=
  ⟨fun e ⟨b, h, g⟩ => by subst h; exact DGet.t e g, fun e ⟨b, h, g⟩ l => by subst h; exact DPut.t e g l, fun ⟨b, h, g⟩ k => ⟨b, h, k _ _ g⟩⟩
section
variable {K : PySem.W.Frag} {M : Addr → Prop} {H : Hp}
theorem key_rep {d : D} {v : V} {k : Key} (h : Rep K M H d v) (e : keyOfD d = some k) : v = kV k := by
  cases d with
  | int i => cases e; simp only [Rep] at h; exact h
  | str i => cases e; simp only [Rep] at h; exact h
  | _ => cases e
theorem keys_rep : ∀ {ds : List D} {vs : List V} {ks : List Key}, Reps K M H ds vs → keysOfD ds = some ks → vs = ks.map kV
  | [], vs, ks, h, e => by simp only [Reps] at h; cases e; exact h
  | d :: ds, vs, ks, h, e => by
    simp only [Reps] at h
    obtain ⟨v, r, rfl, h1, h2⟩ := h
    unfold keysOfD at e
    split at e
    · rename_i k ks' e1 e2
      cases e
      rw [key_rep h1 e1, keys_rep h2 e2]
      rfl
    · cases e
theorem keys_len : ∀ {ds : List D} {ks : List Key}, keysOfD ds = some ks → ks.length = ds.length
  | [], ks, e => by cases e; rfl
  | d :: ds, ks, e => by
    unfold keysOfD at e
    split at e
    · rename_i k ks' e1 e2
      cases e
      simp [keys_len e2]
    · cases e
theorem tkeys_len : ∀ {ds : List D} {ks : List (List Key)}, tkeysOfD ds = some ks → ks.length = ds.length
  | [], ks, e => by cases e; rfl
  | d :: ds, ks, e => by
    unfold tkeysOfD at e
    split at e
    · rename_i k ks' e1 e2
      cases e
      simp [tkeys_len e2]
    · cases e
theorem keys_at : ∀ {ds : List D} {vs : List V} {ks : List Key}, Reps K M H ds vs → keysOfD ds = some ks → ∀ (i : Nat) (v : V) (k : Key), vs[i]? = some v → ks[i]? = some k → v = kV k := by
  intro ds vs ks h e i v k h1 h2
  rw [keys_rep h e, List.getElem?_map, h2] at h1
  exact (Option.some.inj h1).symm
theorem tkeys_at (hkt : Tbs.kt = false) : ∀ {ds : List D} {vs : List V} {ks : List (List Key)}, Reps K M H ds vs → tkeysOfD ds = some ks → ∀ (i : Nat) (v : V) (k : List Key), vs[i]? = some v → ks[i]? = some k → ∃ b, v = .ref b ∧ H b = some (.tup (k.map kV))
  | [], vs, ks, h, e, i, v, k, h1, h2 => by cases e; simp at h2
  | d :: ds, vs, ks, h, e, i, v, k, h1, h2 => by
    simp only [Reps] at h
    obtain ⟨v0, r, rfl, g1, g2⟩ := h
    unfold tkeysOfD at e
    split at e
    · rename_i k0 ks' e1 e2
      cases e
      cases i with
      | zero =>
        simp only [List.getElem?_cons_zero, Option.some.injEq] at h1 h2
        subst h1 h2
        cases d with
        | tup xs =>
          simp only [Rep] at g1
          obtain ⟨a, ws, rfl, st, rs⟩ := g1
          rcases st with ⟨_, st⟩ | ⟨z, _⟩
          · exact ⟨a, rfl, by rw [st, keys_rep rs e1]⟩
          · rw [hkt] at z; cases z
        | _ => cases e1
      | succ i => exact tkeys_at hkt g2 e2 i v k (by simpa using h1) (by simpa using h2)
    · cases e
end
/-- what the walk asks behind the loop's head: the dict holds the keys so far -/
structure FtAt {κ : Type} [DecidableEq κ] (mk : List (κ × V) → HO) (ks : List κ) (H0 : Hp) (x : V) (p : Addr) (i : Nat) (σ : St) (H : Hp) : Prop where
  slot : ∃ o, σ = [some x, some (.ref p), o]
  old : ∀ b o, H0 b = some o → H b = some o
  dic : ∃ kvs : List (κ × V), H p = some (mk kvs) ∧ kvs.map (·.1) = ks.take i
theorem valV_mem {κ : Type} [DecidableEq κ] {kvs : List (κ × V)} {k : κ} : (valV kvs k).isSome = true ↔ k ∈ kvs.map (·.1) := by
  rw [← valV_any]
  simp [List.any_eq_true]
theorem ftD_at {κ : Type} [DecidableEq κ] : ∀ (i : Nat) {ds : List D} {ks seen : List κ}, ks.length = ds.length → (∀ j k, j < i → ks[j]? = some k → k ∉ seen ++ ks.take j) → i ≤ ds.length → ftD seen ds ks = ftD (seen ++ ks.take i) (ds.drop i) (ks.drop i)
  | 0, ds, ks, seen, hl, h, hi => by simp
  | i + 1, [], ks, seen, hl, h, hi => by simp at hi
  | i + 1, d :: ds, [], seen, hl, h, hi => by simp at hl
  | i + 1, d :: ds, k :: ks, seen, hl, h, hi => by
    have h0 := h 0 k (by omega) rfl
    simp only [List.take_zero, List.append_nil] at h0
    rw [ftD, if_neg h0]
    rw [ftD_at i (ds := ds) (ks := ks) (seen := seen ++ [k]) (by simpa using hl) (fun j k' hj e => by
      have := h (j + 1) k' (by omega) (by simpa using e)
      simpa using this) (by simpa using hi)]
    simp
end TM
set_option maxRecDepth 100000
set_option maxHeartbeats 4000000
namespace TM
open PySem PySem.Spec PyProof.Rows L2
variable [Tbs]
abbrev stFt : Stmt := Hd.top 16
theorem scFt : FnScope ["values", "seen", "value"] ["values"] (defScope stFt) := ⟨rfl, rfl, rfl, by decide +kernel, rfl, by decide +kernel, by decide +kernel⟩
section
variable {P : Program} {w : World} {K : PySem.W.Frag} {mg : Str → Option Value} {base : Heap}
/-- the end: the first item told twice, or None -/
theorem ft_end {c : Ct} {x : V} {l d : D} {H H' : Hp} {v : V} {Q : VK} {E : XK} (e : EnvR K c (vsl [x]) (slots [.sh l]) H) (old : ∀ b o, H b = some o → H' b = some o) (hv : Rep K (Uni c.N (Own (vsl [x]) (slots [.sh l]))) H d v)
    (q : PostF K c [x] (.ok d false [.sh l]) Q E) : Q v H' := by
  have k : Keeps (fun _ => False) H H' := Keeps.ofSame old
  have hd : ∀ a, Liv H a → Liv H' a := fun a h => k.dom h fun z => z
  exact q v H' (e.keeps k hd) ⟨hv.mono k (fun _ _ z => z.elim) fun _ _ z => z, fun _ _ z => nomatch z⟩
/-- a turn of the loop -/
theorem ft_step {κ : Type} [DecidableEq κ] {mk : List (κ × V) → HO} {KeyV : Hp → V → κ → Prop} (DK : DkK κ mk KeyV) {ks : List κ} {H0 H : Hp} {x y : V} {p : Addr} {i : Nat} {σ : St} {k : κ} (h : FtAt mk ks H0 x p i σ H) (hk : ks[i]? = some k) (hy : KeyV H0 y k) (hl : ks.length ≤ SZ) (hp : H0 p = none) :
    ∃ o : Option V, DGet H p y o ∧ (o.isSome = true ↔ k ∈ ks.take i) ∧ (o = none → ∃ H2, DPut H p y (.bl true) H2 ∧ FtAt mk ks H0 x p (i + 1) [some x, some (.ref p), some y] H2) := by
  obtain ⟨⟨o, rfl⟩, old, kvs, hd, hm⟩ := h
  have hy' := DK.keep hy old
  refine ⟨valV kvs k, DK.get hd hy', by rw [valV_mem, hm], fun ho => ?_⟩
  have hi : i < ks.length := (List.getElem?_eq_some_iff.mp hk).1
  have hlen : kvs.length = i := by
    have := congrArg List.length hm
    rw [List.length_map, List.length_take] at this
    omega
  refine ⟨_, DK.put hd hy' (by rw [sz_eq]; omega), ⟨_, rfl⟩, fun b ob e => ?_, putK kvs k (.bl true), upd_same, ?_⟩
  · rw [upd_ne (ne_of_none e hp)]; exact old b ob e
  · rw [putK_new _ ho, List.map_append, hm, List.take_add_one, hk]; rfl
abbrev ftIf : TS := tSeq (tIfS (tB (tDIn (tVar 2) (tVar 1))) (tRet (tVar 2)) tNext) (sDPut (tVar 1) (tVar 2) (tC (V.bl true)))
abbrev ftD0 (Q : VK) : Ends := { nx := fun _ H' => Q .non H', rt := Q }
/-- no item so far was told twice -/
def FtNo {κ : Type} [DecidableEq κ] (ks : List κ) (i : Nat) : Prop := ∀ j k, j < i → ks[j]? = some k → k ∉ ks.take j
theorem Same.up {H : Hp} {p : Addr} {o : HO} (h : H p = none) : Same H (upd H p o) := fun b u e => by rw [upd_ne (ne_of_none e h)]; exact e
theorem Same.seqT {H H' : Hp} {a : Addr} {xs : List V} (e : Same H H') (h : SqT K H a xs) : SqT K H' a xs := by
  rcases h with (h | ⟨o, h⟩) | h
  · exact .inl (.inl (e _ _ h))
  · exact .inl (.inr ⟨o, e _ _ h⟩)
  · exact .inr h
theorem ft_run {κ : Type} [DecidableEq κ] {mk : List (κ × V) → HO} {KeyV : Hp → V → κ → Prop} (DK : DkK κ mk KeyV) {c : Ct} {l : D} {ds : List D} {ks : List κ} {us : List V} {H : Hp} {x : V} {p : Addr} {Q : VK} {E : XK} {J : It}
    (e : EnvR K c (vsl [x]) (slots [.sh l]) H) (rs : Reps K (Uni c.N (Own (vsl [x]) (slots [.sh l]))) H ds us) (hks : ks.length = ds.length) (hsz : ds.length < SZ) (hk : ∀ (i : Nat) (v : V) (k : κ), us[i]? = some v → ks[i]? = some k → KeyV H v k)
    (q : PostF K c [x] (.ok (ftD [] ds ks) false [.sh l]) Q E) (hp : H p = none) :
    (∀ i y σ H2, us[i]? = some y → (FtAt mk ks H x p i σ H2 ∧ FtNo ks i) → ∀ D' : Ends, D'.rt = Q → D'.nx = (fun σ H2 => FtAt mk ks H x p (i + 1) σ H2 ∧ FtNo ks (i + 1)) → gName 2 y σ H2 fun σ2 H3 => ftIf D' σ2 H3) ∧
    (∀ σ H2, (FtAt mk ks H x p us.length σ H2 ∧ FtNo ks us.length) → Q .non H2) ∧ (FtAt mk ks H x p 0 [some x, some (.ref p), none] (upd H p (mk [])) ∧ FtNo ks 0) := by
  have hul : us.length = ds.length := rs.length
  refine ⟨fun i y σ H2 hi ⟨h, no⟩ D' hr hn => ?_, fun σ H2 ⟨h, no⟩ => ?_, ⟨⟨_, rfl⟩, fun b o e => by rw [upd_ne (ne_of_none e hp)]; exact e, [], upd_same, rfl⟩, fun j k hj => absurd hj (by omega)⟩
  · have hil : i < us.length := (List.getElem?_eq_some_iff.mp hi).1
    obtain ⟨k, hki⟩ : ∃ k, ks[i]? = some k := ⟨_, List.getElem?_eq_getElem (by omega)⟩
    obtain ⟨d, hdi⟩ : ∃ d, ds[i]? = some d := ⟨_, List.getElem?_eq_getElem (by omega)⟩
    obtain ⟨o, g1, g2, g3⟩ := ft_step DK h hki (hk i y k hi hki) (by omega) hp
    obtain ⟨⟨o', rfl⟩, old, _⟩ := h
    refine ⟨y, rfl, .ref p, rfl, p, o, rfl, g1, _, rfl, ?_⟩
    cases o with
    | some z =>
      have hm : k ∈ ks.take i := g2.mp rfl
      refine iteT ?_
      refine ⟨y, rfl, ?_⟩
      rw [hr]
      obtain ⟨v, hv, rv⟩ := rs.get hdi
      rw [hi] at hv
      cases Option.some.inj hv
      have ee : ftD [] ds ks = d := by
        rw [ftD_at i hks (fun j k' hj e' => by simpa using no j k' hj e') (by omega)]
        have h1 : ds.drop i = d :: ds.drop (i + 1) := List.drop_eq_getElem_cons (by omega) |>.trans (by rw [List.getElem?_eq_some_iff.mp hdi |>.2])
        have h2 : ks.drop i = k :: ks.drop (i + 1) := List.drop_eq_getElem_cons (by omega) |>.trans (by rw [List.getElem?_eq_some_iff.mp hki |>.2])
        rw [h1, h2, ftD, if_pos (by simpa using hm)]
      rw [ee] at q
      exact ft_end e old rv q
    | none =>
      have hm : k ∉ ks.take i := fun z => by have := g2.mpr z; cases this
      obtain ⟨H3, p1, p2⟩ := g3 rfl
      refine iteF ?_
      refine ⟨.ref p, rfl, y, rfl, p, H3, rfl, p1, ?_⟩
      rw [hn]
      refine ⟨p2, fun j k' hj e' => ?_⟩
      by_cases hji : j = i
      · subst hji
        rw [hki] at e'
        cases Option.some.inj e'
        exact hm
      · exact no j k' (by omega) e'
  · have ee : ftD [] ds ks = .non := by
      rw [ftD_at us.length hks (fun j k' hj e' => by simpa using no j k' hj e') (by omega), hul, List.drop_length]
      unfold ftD
      rfl
    obtain ⟨_, old, _⟩ := h
    rw [ee] at q
    exact ft_end e old (d := .non) (v := .non) rNon q
theorem ok_ft {f : Addr} {fd : FuncData} (F : Fun K "first_twice" "first_twice" stFt f fd) (hkt : Tbs.kt = false) : FnOk P w K mg base (L2.CX P w) 1 f fd ["values"] (treeSp K 1 F_ft) := by
  refine F.okX scFt (fun vs H Q E ⟨c, ads, h, _⟩ => h) fun cdv A outer s H vs Q E hr h => ?_
  obtain ⟨c, ads, hl, hHe, hh, hio, e, q⟩ := h
  have hu := hu_of hr
  have hla : vs.length = ads.length := by have := e.len; simpa using this.symm
  match vs, hl with
  | [x], _ =>
  match ads, hla with
  | [.io _], _ => exact q.elim
  | [.sh l], _ =>
  obtain ⟨x', hx', rx⟩ := e.slot 0 .sh l rfl
  have ex : x = x' := Option.some.inj (Option.some.inj hx')
  subst ex
  have rx : Rep K (Uni c.N (Own (vsl [x]) (slots [.sh l]))) H l x := rx
  unfold F_ft at q
  dsimp only at q
  cases l with
  | lst ds =>
    have rx' := rx
    simp only [Rep] at rx'
    obtain ⟨a, us, rfl, sl, rs⟩ := rx'
    dsimp only [itemsD] at q
    split at q
    · rename_i hsz
      split at q
      · rename_i ks hks
        refine ⟨_, pss_cons (ps_set (i := 1) scFt.nd rfl (Or.inl rfl) pe_dnewK rfl (Or.inl rfl)) (pss_cons (ps_for (passes_of rfl) rfl (pi_list (pv 0)) (pg_name (i := 2) scFt.nd rfl (Or.inl rfl) (Or.inl rfl))
          (pss_cons (ps_if (pt_cmp (pc_din hu (pv 2) (pv 1))) (pss_one (ps_ret (pv 2))) pss_nil) (pss_one (ps_dput hu (pv 1) (pv 2) pe_bl rfl)))) (pss_one (ps_ret pe_non))), ?_⟩
        intro p hp
        obtain ⟨r1, r2, r3⟩ := ft_run (J := Itl K a) dk_k e rs (keys_len hks) hsz (keys_at rs hks) q hp
        refine ⟨_, rfl, a, rfl, ⟨us, L2.Same.seq (Same.up hp) sl.sq⟩, for_list (K := K) (a := a) (xs := us) (fun i σ H2 => FtAt _ ks H (.ref a) p i σ H2 ∧ FtNo ks i) r3 (fun i σ H2 _ h => L2.Same.seq h.1.old sl.sq) (fun i y σ H2 hi h => r1 i y σ H2 hi h _ rfl rfl) fun σ H2 h => ?_⟩
        exact r2 σ H2 h
      · split at q
        · rename_i ks hks
          refine ⟨_, pss_cons (ps_set (i := 1) scFt.nd rfl (Or.inl rfl) pe_dnewT rfl (Or.inl rfl)) (pss_cons (ps_for (passes_of rfl) rfl (pi_list (pv 0)) (pg_name (i := 2) scFt.nd rfl (Or.inl rfl) (Or.inl rfl))
            (pss_cons (ps_if (pt_cmp (pc_din hu (pv 2) (pv 1))) (pss_one (ps_ret (pv 2))) pss_nil) (pss_one (ps_dput hu (pv 1) (pv 2) pe_bl rfl)))) (pss_one (ps_ret pe_non))), ?_⟩
          intro p hp
          obtain ⟨r1, r2, r3⟩ := ft_run (J := Itl K a) dk_t e rs (tkeys_len hks) hsz (tkeys_at hkt rs hks) q hp
          refine ⟨_, rfl, a, rfl, ⟨us, L2.Same.seq (Same.up hp) sl.sq⟩, for_list (K := K) (a := a) (xs := us) (fun i σ H2 => FtAt _ ks H (.ref a) p i σ H2 ∧ FtNo ks i) r3 (fun i σ H2 _ h => L2.Same.seq h.1.old sl.sq) (fun i y σ H2 hi h => r1 i y σ H2 hi h _ rfl rfl) fun σ H2 h => ?_⟩
          exact r2 σ H2 h
        · exact q.elim
    · exact q.elim
  | tup ds =>
    have rx' := rx
    simp only [Rep] at rx'
    obtain ⟨a, us, rfl, sl, rs⟩ := rx'
    dsimp only [itemsD] at q
    split at q
    · rename_i hsz
      split at q
      · rename_i ks hks
        refine ⟨_, pss_cons (ps_set (i := 1) scFt.nd rfl (Or.inl rfl) pe_dnewK rfl (Or.inl rfl)) (pss_cons (ps_for (passes_of rfl) rfl (pi_tup (pv 0)) (pg_name (i := 2) scFt.nd rfl (Or.inl rfl) (Or.inl rfl))
          (pss_cons (ps_if (pt_cmp (pc_din hu (pv 2) (pv 1))) (pss_one (ps_ret (pv 2))) pss_nil) (pss_one (ps_dput hu (pv 1) (pv 2) pe_bl rfl)))) (pss_one (ps_ret pe_non))), ?_⟩
        intro p hp
        obtain ⟨r1, r2, r3⟩ := ft_run (J := Itt K a) dk_k e rs (keys_len hks) hsz (keys_at rs hks) q hp
        refine ⟨_, rfl, a, rfl, ⟨us, Same.seqT (Same.up hp) sl.sq⟩, for_tup (K := K) (a := a) (xs := us) (fun i σ H2 => FtAt _ ks H (.ref a) p i σ H2 ∧ FtNo ks i) r3 (fun i σ H2 _ h => Same.seqT h.1.old sl.sq) (fun i y σ H2 hi h => r1 i y σ H2 hi h _ rfl rfl) fun σ H2 h => ?_⟩
        exact r2 σ H2 h
      · split at q
        · rename_i ks hks
          refine ⟨_, pss_cons (ps_set (i := 1) scFt.nd rfl (Or.inl rfl) pe_dnewT rfl (Or.inl rfl)) (pss_cons (ps_for (passes_of rfl) rfl (pi_tup (pv 0)) (pg_name (i := 2) scFt.nd rfl (Or.inl rfl) (Or.inl rfl))
            (pss_cons (ps_if (pt_cmp (pc_din hu (pv 2) (pv 1))) (pss_one (ps_ret (pv 2))) pss_nil) (pss_one (ps_dput hu (pv 1) (pv 2) pe_bl rfl)))) (pss_one (ps_ret pe_non))), ?_⟩
          intro p hp
          obtain ⟨r1, r2, r3⟩ := ft_run (J := Itt K a) dk_t e rs (tkeys_len hks) hsz (tkeys_at hkt rs hks) q hp
          refine ⟨_, rfl, a, rfl, ⟨us, Same.seqT (Same.up hp) sl.sq⟩, for_tup (K := K) (a := a) (xs := us) (fun i σ H2 => FtAt _ ks H (.ref a) p i σ H2 ∧ FtNo ks i) r3 (fun i σ H2 _ h => Same.seqT h.1.old sl.sq) (fun i y σ H2 hi h => r1 i y σ H2 hi h _ rfl rfl) fun σ H2 h => ?_⟩
          exact r2 σ H2 h
        · exact q.elim
    · exact q.elim
  | _ => exact q.elim
end
end TM
set_option maxRecDepth 100000
set_option maxHeartbeats 4000000
/-! U4: what a refusal tells -/
namespace TM
open PySem PySem.Spec PyProof.Rows L2
variable [Tbs]
/-- a wish that looks at frames of the right length alone -/
theorem takes_len {X : Cx} {W : WX} (tk : Takes X W) : Takes X (fun cls d σ H => σ.length = X.N.length → W cls d σ H) := fun u s' ⟨a, B, sI, pins, σ, H, cls, d, e, I, nb, up, sky, na, os, ag, w⟩ =>
  tk u s' ⟨a, B, sI, pins, σ, H, cls, d, e, I, nb, up, sky, na, os, ag, w I.len⟩
abbrev stHeard : Stmt := Hd.top 29
theorem scHeard : FnScope ["_law_ask", "error"] ["_law_ask"] (defScope stHeard) := ⟨rfl, rfl, rfl, by decide +kernel, rfl, by decide +kernel, by decide +kernel⟩
def okH : Hp → VK → Prop := fun H Q => ([] : List V).length ≤ sizeLine ∧ ∀ p, H p = none → Q (.ref p) (upd H p (.tup []))
def erH (K : PySem.W.Frag) (CB CW : Addr) : Value → Option Addr → Hp → VK → Prop := fun cls d H Q => ∃ b, PySem.W.exmOne K cls (.ref CB) = some b ∧
  (b = true → cls = .ref CB ∧ ∃ (dd : Addr) (fs : List (Str × V)) (v : V), d = some dd ∧ H dd = some (.xd fs) ∧ fs.lookup ("part" : Str) = some v ∧ ∀ p, H p = none → Q (.ref p) (upd H p (.tup [v]))) ∧
  (b = false → ∃ b2, PySem.W.exmOne K cls (.ref CW) = some b2 ∧ b2 = true ∧ ∀ p, H p = none → Q (.ref p) (upd H p (.tup [])))
theorem heard_gives {X : Cx} {g CB CW : Addr} {cdg : Value} {q : Str} (mB : X.mg "BadWord" = some (.ref CB)) (mW : X.mg "WordsError" = some (.ref CW)) (xf : XfC X.K CB) (hno : PySem.W.findIn X.K (.ref CB) "part" = some none) :
    LamX.GivesTo X ["_law_ask", "error"] "_law_heard" (defScope stHeard) g cdg (defBody stHeard) "_law_ask" q (TTx okH (erH X.K CB CW)) := by
  intro f c' s H Q tl act hc h
  refine ⟨_, pss_cons (ps_try_g (X := (cxOf C8.CX0 X.prog X.w X.K X.mg X.base ["_law_ask", "error"] "_law_heard" (defScope stHeard) g cdg X.A X.stack s H C8.E0).nox)
      (tb := fun W D σ H => ∃ Ech : XK, (∀ cls d σ' H', Ech cls d H' → σ'.length = 2 → W cls d σ' H') ∧ σ[0]? = some (some (.ref f)) ∧ H c' = some (LamX.CodeO c' q) ∧ tl Ech H fun _ H' => D.nx σ H')
      rfl rfl LamX.takes0 (fun W pn xe tk _ => ?_)
      (.cons (o := some 1) ⟨scHeard.nd, rfl, rfl⟩ ⟨rfl, by decide +kernel, .inl mB⟩ (fun a oe cls d pn hz hf => pss_one (ps_ret (pe_tup (pa_cons (pe_xf xf hno hz hf (pv 1)) pa_nil))))
        (.cons (o := none) True.intro ⟨rfl, by decide +kernel, .inl mW⟩ (fun a oe cls d pn hz hf => pss_one (ps_ret (pe_tup pa_nil))) .nil)))
    (pss_one (ps_ret (pe_tup pa_nil))), ?_⟩
  · refine ⟨fun pins s' σ H' D I h' => ?_⟩
    obtain ⟨Ech, hW, h1, h2, h3⟩ := h'
    exact (pss_one (ps_expr (act (fun cls d σ H => σ.length = 2 → W cls d σ H) pn xe Ech _ _ (takes_len tk) (fun cls d σ' H' z => hW cls d σ' H' z)) rfl)).run pins s' σ H' D I ⟨h1, h2, h3⟩
  · refine ⟨fun cls d H' => erH X.K CB CW cls d H' Q, fun cls d σ' H' ⟨b, e1, e2, e3⟩ hl => ⟨b, e1, fun hb a na => ?_, fun hb => ?_⟩, rfl, hc, ?_⟩
    · obtain ⟨ec, dd, fs, v, ed, eH, el, k⟩ := e2 hb
      match σ', hl with
      | [u0, u1], _ =>
        refine ⟨.ref a, rfl, rfl, ec, dd, fs, v, ed, eH, el, ?_⟩
        exact ⟨by show 1 ≤ sizeLine; rw [sz_eq]; decide, k⟩
    · obtain ⟨b2, e4, e5, k⟩ := e3 hb
      exact ⟨b2, e4, fun _ a na => ⟨by show 0 ≤ sizeLine; exact Nat.zero_le _, k⟩, fun z => by rw [e5] at z; cases z⟩
    · have h0 : tl (fun cls d H' => erH X.K CB CW cls d H' Q) H (fun _ H' => okH H' Q) := h
      exact h0
def hokH : An := some (.tup [], false)
def herH (CB : Addr) (x : Exc) : An := if x.C = CB then (x.fs.lookup ("part" : Str)).map fun d => (.tup [d], false) else none
theorem okH_g {K : PySem.W.Frag} (M : Addr → Prop) (H : Hp) (hf : ∀ p, H p = none → ¬ M p) : Gives K okH M H hokH :=
  gives_tup hf Reps.nil fun Q q => ⟨Nat.zero_le _, q⟩
theorem RepF.lookup {K : PySem.W.Frag} {M : Addr → Prop} {H : Hp} {k : Str} {d : D} : ∀ {ds : List (Str × D)} {vs : List (Str × V)}, RepF K M H ds vs → ds.lookup k = some d → ∃ v, vs.lookup k = some v ∧ Rep K M H d v
  | [], _, _, e => by cases e
  | (k', d') :: ds, _, h, e => by
    simp only [RepF] at h
    obtain ⟨v, r, rfl, h1, h2⟩ := h
    rw [List.lookup_cons] at e
    rw [List.lookup_cons]
    cases q : k == k' with
    | true => rw [q] at e; cases e; exact ⟨v, rfl, h1⟩
    | false => rw [q] at e; exact RepF.lookup h2 e
theorem erH_g {K : PySem.W.Frag} {CB CW : Addr} (he : PySem.W.exmOne K (.ref CB) (.ref CB) = some true) (M : Addr → Prop) (H : Hp) (x : Exc) (d : Option Addr) (hf : ∀ p, H p = none → ¬ M p) (hx : ExcR K M H x.fs d) : Gives K (erH K CB CW (.ref x.C) d) M H (herH CB x) := by
  unfold herH
  split
  · rename_i hC
    cases hl : x.fs.lookup ("part" : Str) with
    | none => exact Gives.none
    | some y =>
      rcases hx with ⟨e0, _⟩ | ⟨dd, vfs, e1, e2, e3⟩
      · rw [e0] at hl; cases hl
      · obtain ⟨v, g1, g2⟩ := e3.lookup hl
        refine gives_tup hf (Reps.cons g2 Reps.nil) fun Q q => ⟨true, by rw [hC]; exact he, fun _ => ⟨by rw [hC], dd, vfs, v, e1, e2, g1, q⟩, fun z => by cases z⟩
  · exact Gives.none
end TM
set_option maxRecDepth 100000
set_option maxHeartbeats 4000000
/-! U5: cells by their key, walked over the heap alone -/
namespace TM
open PySem PySem.Spec PyProof.Rows L2
abbrev stCk : Stmt := Hd.top 17
section
variable {prog : Program} {w : World} {A : Around} {s : Shared} {K : PySem.W.Frag} {mg mb : Str → Option Value} {f : Addr} {fd : FuncData}
theorem ck_pure (F : Fun K "cell_key" "cell_key" stCk f fd) (KI : K.In s.heap) (lim : s.heap.NoLimit) (hg : s.heap.Ns mainGlobals mg) (hb : s.heap.Ns builtinsNs mb) (hbb : ∀ x : Str, x ≠ "__name__" → mb x = bootBuiltins x) (nl : mg "len" = none) (nt : mg "tuple" = none)
    (room : A.depth < recursionLimit) {a : Addr} {its : Array Value} {ds : List PyData} (ht : IsTup s.heap a its) (hfit : (its.size : Int) < 2 ^ 63) (r : Reads s.heap (.ref a) (.tuple ds) []) :
    wpAny (model prog w) A (call (.ref f) [.ref a]) (PySem.W.KeyPure (.tuple [.int its.size, .tuple ds]) s) (fun _ _ => False) s := by
  obtain ⟨oc, od, kV, doc, pv, an, cdv, ct, osl, rfl, lk, hcd⟩ := F.ex
  refine wpAny_call (Att.call_fn (binds := [("cell", .ref a)]) KI lim lk hcd room (BindsTo.of_eq (by first | rfl | with_unfolding_all rfl)) (by first | rfl | decide | with_unfolding_all rfl) (fun s₁ IC => ?_) rfl rfl rfl)
  obtain ⟨h₁, tk₁, rfl⟩ := IC.toInCall.same
  have k : ∀ b o, s.heap.get? b = some o → h₁.get? b = some o := IC.toInCall.keep
  have hn := IC.toInCall.ns
  have cell : ∀ {h2 : Heap} {tk2 : Nat} {pos : Pos} {Q : Value → Shared → Prop} {E : Value → Shared → Prop}, (∀ b o, h₁.get? b = some o → h2.get? b = some o) → Q (.ref a) { s with heap := h2, toks := tk2 } →
      wpAny (model prog w) (A.deeper (envOfC "cell_key" (defScope stCk) s.heap.objs.size f cdv)) (eval (.Name "cell" pos) (envOfC "cell_key" (defScope stCk) s.heap.objs.size f cdv)) Q E { s with heap := h2, toks := tk2 } := fun {h2 tk2 pos Q E} kk q =>
    wpAny_Name (wpAny_loadName_local rfl rfl (hn.keeps kk) (by first | rfl | with_unfolding_all rfl | kernel_rfl) q) (by decide)
  have blt : ∀ {x : Str} {u : Value} {h2 : Heap} {tk2 : Nat} {pos : Pos} {Q : Value → Shared → Prop} {E : Value → Shared → Prop}, (envOfC "cell_key" (defScope stCk) s.heap.objs.size f cdv).kindOf x = some .globalImplicit → mg x = none → bootBuiltins x = some u → x ≠ "__name__" → (x == ("__debug__" : Str)) = false → (∀ b o, h₁.get? b = some o → h2.get? b = some o) →
      Q u { s with heap := h2, toks := tk2 } → wpAny (model prog w) (A.deeper (envOfC "cell_key" (defScope stCk) s.heap.objs.size f cdv)) (eval (.Name x pos) (envOfC "cell_key" (defScope stCk) s.heap.objs.size f cdv)) Q E { s with heap := h2, toks := tk2 } := fun {x u h2 tk2 pos Q E} kd hm hv hne hdb kk q =>
    Calls.Name_function_global rfl kd (Calls.loadGlobal_builtin (hg.keeps fun b o z => kk b o (k b o z)) hm (hb.keeps fun b o z => kk b o (k b o z)) ((hbb x hne).trans hv) q) hdb
  show wpAny _ _ (execs (defBody stCk) _) _ _ _
  refine wpAny_execs_cons (wpAny_Return_some (wpAny_Tuple_spliced ?_))
  show wpAny _ _ (spliced ((false, eval _ _) :: backTo _ (starEach _ _))) _ _ _
  refine Calls.spliced_cons (wpAny_Call_Name_kw (blt (x := "len") (u := .builtin "len") rfl nl (by decide +kernel) (by decide) (by decide) (fun _ _ z => z) ?_))
  refine PyProof.Rows.callWith_builtin1 ?_
  show wpAny _ _ (spliced ((false, eval _ _) :: backTo _ (starEach [] _))) _ _ _
  refine Calls.spliced_cons (cell (fun _ _ z => z) (Calls.spliced_nil ?_))
  refine len_tuple (ht.keeps k) hfit ?_
  show wpAny _ _ (spliced ((false, eval _ _) :: backTo _ (starEach [] _))) _ _ _
  refine Calls.spliced_cons (wpAny_Call_Name_kw (blt (x := "tuple") (u := .type "tuple") rfl nt (by decide +kernel) (by decide) (by decide) (fun _ _ z => z) ?_))
  refine PyProof.Rows.callWith_type1 ?_
  show wpAny _ _ (spliced ((false, eval _ _) :: backTo _ (starEach [] _))) _ _ _
  refine Calls.spliced_cons (cell (fun _ _ z => z) (Calls.spliced_nil ?_))
  refine call_tuple_same (ht.keeps k) (Calls.spliced_nil ?_)
  refine ⟨by rw [sizeLine_eq]; show 2 ≤ 16777216; omega, ?_⟩
  have kp : ∀ b o, s.heap.get? b = some o → (h₁.push { cls := .type "tuple", data := .seq #[Value.int its.size (tk₁ + 1), Value.ref a] }).get? b = some o := fun b o e => Heap.get?_push_of_some _ (k b o e)
  refine ⟨_, _, rfl, kp, Reads.tuple (as := []) (Heap.get?_push_size _ rfl) rfl rfl ?_⟩
  exact ReadsAll.cons (as := []) (bs := []) (Reads.int _ _) (ReadsAll.cons (as := []) (bs := []) (PyProof.Rows.Reads.keeps kp r) ReadsAll.nil)
end
end TM
set_option maxRecDepth 100000
set_option maxHeartbeats 4000000
/-! U6: sorted by cell_key -/
namespace TM
open PySem PySem.Spec PyProof.Rows L2
variable [Tbs]
mutual
/-- no list, no dict within -/
def flatP : PyData → Bool
  | .none => true
  | .bool _ => true
  | .int _ => true
  | .str _ => true
  | .tuple xs => flatPs xs
  | _ => false
def flatPs : List PyData → Bool
  | [] => true
  | x :: xs => flatP x && flatPs xs
end
mutual
theorem Reads.flat {h : Heap} : ∀ (d : PyData) (v : Value) (as : List Addr), Reads h v d as → flatP d = true → as = []
  | .none, _, _, .none, _ => rfl
  | .bool _, _, _, .bool _, _ => rfl
  | .int _, _, _, .int _ _, _ => rfl
  | .str _, _, _, .str _ _, _ => rfl
  | .tuple xs, _, _, .tuple _ _ _ r, e => ReadsAll.flat xs _ _ r (by simpa [flatP] using e)
  | .list _, _, _, _, e => by simp [flatP] at e
  | .dict _, _, _, _, e => by simp [flatP] at e
theorem ReadsAll.flat {h : Heap} : ∀ (ds : List PyData) (vs : List Value) (as : List Addr), ReadsAll h vs ds as → flatPs ds = true → as = []
  | [], _, _, .nil, _ => rfl
  | d :: ds, _, _, .cons r1 r2, e => by
    simp only [flatPs, Bool.and_eq_true] at e
    rw [Reads.flat d _ _ r1 e.1, ReadsAll.flat ds _ _ r2 e.2]
    rfl
end
def keyP : PyData → PyData
  | .tuple ds => .tuple [.int ds.length, .tuple ds]
  | _ => .none
def isTupP : PyData → Bool
  | .tuple _ => true
  | _ => false
def rSortCk (K : PySem.W.Frag) (f : Addr) : List V → List V → Hp → VK → Prop := fun vs zs H Q => ∃ (a : Addr) (bs : List (D × V)), vs = [.ref a] ∧ zs = [.ref f] ∧ SqL K H a (bs.map (·.2)) ∧ (∀ b ∈ bs, Dp K H b.2 (encD b.1) ∧ isTupP (encD b.1) = true ∧ flatP (encD b.1) = true) ∧
  PySem.W.AllAlike (bs.map fun b => keyP (encD b.1)) ∧ PySem.W.Sortable (bs.map fun b => keyP (encD b.1)) ∧ (∀ b ∈ bs, (keyP (encD b.1)).depth ≤ 60) ∧
  ∀ p, H p = none → Q (.ref p) (upd H p (.lst ((bs.mergeSort (PySem.W.dataLe false fun b => keyP (encD b.1))).map (·.2))))
theorem DpAll.len {K : PySem.W.Frag} {H : Hp} : ∀ {vs : List V} {ds : List PyData}, DpAll K H vs ds → vs.length = ds.length
  | _, _, .nil => rfl
  | _, _, .cons _ h => by simp [DpAll.len h]
theorem call_sortCk {X : Cx} {f : Addr} {fd : FuncData} (hr : Room 2 X.A) (F : Fun X.K "cell_key" "cell_key" stCk f fd) (nl : X.mg "len" = none) (nt : X.mg "tuple" = none) : CallRK X (.builtin "sorted") [Str.ofString "key"] (rSortCk X.K f) := by
  intro pins s σ H vs zs us ws Q I r rz h
  obtain ⟨a, bs, rfl, rfl, hs, hd, hal, hk, hdp, q⟩ := h
  obtain ⟨its, rv, hl, hz⟩ := I.list hs
  rw [Vals.ref1 r, Vals.ref1 rz]
  have e := each_of_vals rv
  have hlen := rv.length
  rw [List.length_map] at hlen
  have hu := hr.un
  show wpAny _ _ (call (.builtin "sorted") [.ref a] [(Str.ofString "key", .ref f)]) _ _ _
  refine PySem.W.sorted_key_data (b := false) (R := fun v b => RelV b.2 v) (fun b => keyP (encD b.1)) (vs := its) (bs := bs) hl.isList e hal hk (by simpa using hz) (fun b hb => by have := hdp b hb; omega) (PyProof.Rows.ksk_s1 _ _) (fun x => PyProof.Rows.ksk_l1 _ _) (fun x => PyProof.Rows.ksk_t1 f x) (fun v b hR hb h tk kp => ?_) fun out c h' tk kp fr hD hlen2 hout => ?_
  · obtain ⟨g1, g2, g3⟩ := hd b hb
    cases hp : encD b.1 with
    | tuple ds =>
      rw [hp] at g1 g3
      obtain ⟨as, r1⟩ := Dp.reads I _ _ v g1 hR
      have has := Reads.flat _ _ _ r1 g3
      subst has
      cases hv : b.2 with
      | ref t =>
        rw [hv] at g1 hR
        cases hR
        cases g1 with
        | tup hx hds =>
          obtain ⟨its2, rv2, pl, hz2⟩ := I.tuple hx
          have hl2 := rv2.length
          have hl3 := DpAll.len hds
          have hsz : (its2.toArray.size : Int) = (ds.length : Int) := by rw [List.size_toArray]; omega
          have bk : ∀ b o, X.base.get? b = some o → h.get? b = some o := fun b o z => kp b o (I.bk b o z)
          obtain ⟨mb, b1, b2⟩ := I.ok.mod.blt
          have hs0 : sizeLine = 16777216 := sizeLine_eq
          have go := ck_pure (prog := X.prog) (w := X.w) (A := X.A.in1.in1) (s := { s with heap := h, toks := tk }) F (PySem.W.Frag.In.keeps I.ok.mod.kin bk) (I.ok.mod.nolimit.keeps bk) (I.ok.mod.glob.keeps bk) (b1.keeps bk) b2 nl nt
            (by have := hr.dp; show X.A.depth < _; omega) (IsTup.keeps pl kp) (by rw [hsz]; omega) (PyProof.Rows.Reads.keeps kp r1)
          rw [hsz] at go
          exact go
      | _ => rw [hv] at g1; cases g1
    | _ => rw [hp] at g2; cases g2
  · have I1 : Inv X pins σ H { s with heap := h', toks := tk } := I.kept (t' := tk) kp
    have vl := vals_of_each hout
    have hn0 : H (s.heap.objs.size + 1) = none := I.hok.fresh (Nat.le_succ _)
    have I2 : Inv X pins σ (upd H (s.heap.objs.size + 1) (.lst ((bs.mergeSort (PySem.W.dataLe false fun b => keyP (encD b.1))).map (·.2)))) { s with heap := h', toks := tk } :=
      I.laid (t' := tk) kp (Nat.le_succ _) (show ObjOk X.prog X.w _ h' _ (.lst ((bs.mergeSort (PySem.W.dataLe false fun b => keyP (encD b.1))).map (·.2))) from ⟨by rw [List.length_map, List.length_mergeSort]; simpa using hz, out, c, vl, hD⟩)
    exact ⟨.ref _, _, I2, rfl, q _ hn0⟩
def leCk (a b : D) : Bool := PySem.W.dataLe false (fun d => keyP (encD d)) a b
def dSortCk : List D → An
  | [.lst ds] => match toPs ds with
    | some ps => if (ps.all fun p => isTupP p && flatP p) && srtOk (ps.map keyP) then some (.lst (ds.mergeSort leCk), true) else none
    | none => none
  | _ => none
theorem sortCk_g {K : PySem.W.Frag} {f : Addr} : OpND K (fun vs H Q => rSortCk K f vs [.ref f] H Q) dSortCk := by
  intro N M H xs us hn hf hx
  unfold dSortCk
  split
  · rename_i ds
    obtain ⟨v, rfl, h1⟩ := hx.one
    obtain ⟨a, vs, rfl, ⟨na, ha⟩, hr⟩ := h1.lst
    split
    · rename_i ps hp
      split
      · rename_i hc
        simp only [Bool.and_eq_true, List.all_eq_true] at hc
        obtain ⟨hc, hok⟩ := hc
        obtain ⟨k1, k2, k3⟩ := srtOk_ok hok
        obtain ⟨e1, e2⟩ := toPs_map hp
        obtain ⟨z1, z2, z3⟩ := hr.zip_mem
        have em : (ds.zip vs).map (fun b => keyP (encD b.1)) = ps.map keyP := by
          have t : (ds.zip vs).map (fun b => keyP (encD b.1)) = (((ds.zip vs).map (·.1)).map encD).map keyP := by rw [List.map_map, List.map_map]; rfl
          rw [t, z1, e1]
        have leq : (PySem.W.dataLe false fun b : D × V => keyP (encD b.1)) = fun a b => leCk a.1 b.1 := rfl
        have rp : Reps K M H (((ds.zip vs).mergeSort (fun a b => leCk a.1 b.1)).map (·.1)) (((ds.zip vs).mergeSort (fun a b => leCk a.1 b.1)).map (·.2)) := Reps.of_mem fun p hp => z3 p ((List.mem_mergeSort).mp hp)
        rw [merge_fst, z1] at rp
        refine gives_list rp fun Q q => ⟨a, ds.zip vs, rfl, rfl, by rw [z2]; exact SL.sq (N := N) ⟨na, ha⟩, fun b hb => ?_, by rw [em]; exact k1, by rw [em]; exact k2, fun b hb => ?_, fun p hp => ?_⟩
        · have hm := (List.of_mem_zip hb).1
          obtain ⟨c1, c2⟩ := hc (encD b.1) (by rw [e1]; exact List.mem_map_of_mem hm)
          exact ⟨(z3 b hb).dp (e2 b.1 hm), c1, c2⟩
        · exact k3 _ (by rw [← em]; exact List.mem_map_of_mem (f := fun b => keyP (encD b.1)) hb)
        · rw [leq]
          exact q p hp
      · exact Gives.none
    · exact Gives.none
  · exact Gives.none
section
variable {X : Cx} {W : WX} {e : Expr} {ff : FA} {f : Addr} {fd : FuncData} {p q kp pos : Pos}
theorem xSortCk (F : Fun X.K "cell_key" "cell_key" stCk f fd) (hm : X.mg "sorted" = none) (nl : X.mg "len" = none) (nt : X.mg "tuple" = none) (mk : X.mg "cell_key" = some (.ref f)) (hr : Room 2 X.A) (ha : DA X W ff [e]) (hg : Gl X "sorted" := by rfl) (hgk : Gl X "cell_key" := by rfl)
    (he : backTo pos (starEach [e] X.env) = (false, eval e X.env) :: backTo pos (starEach [] X.env) := by rfl) (hpl : (backTo pos (starEach [e] X.env)).any (·.1) = false := by rfl) :
    DE X W (eN dSortCk ff) (.Call (.Name "sorted" p) [e] [⟨some "key", .Name "cell_key" q, kp⟩] pos) := by
  refine pe_mono (pe_callBK (call_sortCk hr F nl nt) hg hm (by decide +kernel) ha (pk_cons (pe_glob (v := .ref f) hgk mk rfl (by decide)) pk_nil) (by decide) (by decide) he hpl rfl rfl rfl) fun σ H Q h => ?_
  exact cb_t sortCk_g h
end
end TM
set_option maxRecDepth 100000
set_option maxHeartbeats 4000000
namespace TM
open PySem PySem.Spec PyProof.Rows L2
variable [Tbs]
class Ad where
  WORDS : Addr
  TURNED : Addr
  BadWord : Addr
  WordsError : Addr
variable [Ad]
abbrev A_WORDS : Addr := Ad.WORDS
abbrev A_TURNED : Addr := Ad.TURNED
abbrev A_BadWord : Addr := Ad.BadWord
abbrev A_WordsError : Addr := Ad.WordsError
def words8 : List Str := ["apart", "meets", "overlaps", "same", "deep", "rim", "holdsdeep", "holdsrim"]
def kn : Kn := fun u => if u = .ref A_WORDS then some (.tuple (words8.map .str)) else none
def tb_TURNED : List (Str × D) := [("apart", .str "apart"), ("meets", .str "meets"), ("overlaps", .str "overlaps"), ("same", .str "same"), ("deep", .str "holdsdeep"), ("rim", .str "holdsrim"), ("holdsdeep", .str "deep"), ("holdsrim", .str "rim")]
structure Tx (w : World) (K : PySem.W.Frag) (mg : Str → Option Value) : Prop where
  f_abs : mg "abs" = none
  f_all : mg "all" = none
  f_bool : mg "bool" = none
  f_enumerate : mg "enumerate" = none
  f_int : mg "int" = none
  f_isinstance : mg "isinstance" = none
  f_len : mg "len" = none
  f_list : mg "list" = none
  f_max : mg "max" = none
  f_range : mg "range" = none
  f_sorted : mg "sorted" = none
  f_str : mg "str" = none
  f_tuple : mg "tuple" = none
  f_zip : mg "zip" = none
  LETTERS : ∃ t, mg "LETTERS" = some (.str "abcdefghijklmnopqrstuvwxyz" t)
  DIGITS : ∃ t, mg "DIGITS" = some (.str "0123456789" t)
  LONGEST : ∃ t, mg "LONGEST" = some (.int 12 t)
  WORDS : mg "WORDS" = some (.ref A_WORDS)
  TURNED : mg "TURNED" = some (.ref A_TURNED)
  kn : KnOk K TM.kn
  t_TURNED : ∀ z d, tb_TURNED.lookup z = some d → ∃ v, KDct K w A_TURNED z v ∧ ∀ M H, Rep K M H d v
section
variable {P : Program} {w : World} {K : PySem.W.Frag} {mg : Str → Option Value} {base : Heap}

/-! ### is_integer -/
theorem sc_is_integer : FnScope ["value"] ["value"] (defScope (Hd.top 9)) := ⟨rfl, rfl, rfl, by decide +kernel, rfl, by decide +kernel, by decide +kernel⟩
def g_is_integer : FS := (sRet ((eAnd ((eN (dIsi kitD) (aCons (eVar 0) (aCons ((eC (.opq (.ty "int")))) aNil)))) ((eNot ((eN (dIsi kitD) (aCons (eVar 0) (aCons ((eC (.opq (.ty "bool")))) aNil)))))))))
def F_is_integer : FF := runF 0 g_is_integer
theorem dk_is_integer (T : Tx w K mg) (h : ∃ f fd, Fun K "is_integer" "is_integer" (Hd.top 9) f fd ∧ mg "is_integer" = some (.ref f)) : Dok P w K mg base 2 "is_integer" (Hd.top 9) ["value"] F_is_integer :=
  dok_of h sc_is_integer (by decide) fun f cdv A outer s H E hr => have nd := sc_is_integer.nd
    by exact dss_one (by exact ds_ret (by exact de_and (by exact xBi "isinstance" call_isiA (isi_g kitD_ok) T.f_isinstance (by decide +kernel) (xc (by exact xv 0) (xc (by exact xty "int" T.f_int (by decide +kernel)) da_nil))) (de_one (by exact de_not (by exact xBi "isinstance" call_isiA (isi_g kitD_ok) T.f_isinstance (by decide +kernel) (xc (by exact xv 0) (xc (by exact xty "bool" T.f_bool (by decide +kernel)) da_nil)))))))

/-! ### is_within -/
theorem sc_is_within : FnScope ["value", "least", "most"] ["value", "least", "most"] (defScope (Hd.top 10)) := ⟨rfl, rfl, rfl, by decide +kernel, rfl, by decide +kernel, by decide +kernel⟩
def g_is_within : FS := (sSeq (sIf (tNot' (tTru ((eCall 1 F_is_integer (aCons (eVar 0) aNil))))) (sRet ((eC (.bl false)))) sNext) (sSeq (sIf (tAnd' (tBl (e2 (dIsN true) (eVar 1) ((eC .non)))) (tBl (e2 dLt (eVar 0) (eVar 1)))) (sRet ((eC (.bl false)))) sNext) (sRet ((eOr ((e2 (dIsN false) (eVar 2) ((eC .non)))) ((e2 dLe (eVar 0) (eVar 2))))))))
def F_is_within : FF := runF 0 g_is_within
theorem dk_is_within (T : Tx w K mg) (D_is_integer : Dok P w K mg base 2 "is_integer" (Hd.top 9) ["value"] F_is_integer) (h : ∃ f fd, Fun K "is_within" "is_within" (Hd.top 10) f fd ∧ mg "is_within" = some (.ref f)) : Dok P w K mg base 3 "is_within" (Hd.top 10) ["value", "least", "most"] F_is_within :=
  dok_of h sc_is_within (by decide) fun f cdv A outer s H E hr => have nd := sc_is_within.nd
    by exact dss_cons (by exact ds_if (by exact dt_not (by exact tTr (by exact xCall D_is_integer (fun _ _ _ _ _ _ us hl => match us, hl with | [_], _ => rfl) (takes_of rfl rfl rfl rfl) (hr.mono (by decide)) (xc (by exact xv 0) da_nil)))) (by exact dss_one (by exact ds_ret (by exact de_bl))) (by exact dss_nil)) (dss_cons (by exact ds_if (by exact tW (dw_and (by exact tCmp cIsNot (by exact xv 1) (by exact de_non)) (dw_and1 (by exact tCmp cLt (by exact xv 0) (by exact xv 1))))) (by exact dss_one (by exact ds_ret (by exact de_bl))) (by exact dss_nil)) (dss_one (by exact ds_ret (by exact de_or (by exact xCmp cIs (by exact xv 2) (by exact de_non)) (de_one (by exact xCmp cLe (by exact xv 0) (by exact xv 2)))))))

/-! ### is_name -/
theorem sc_is_name : FnScope ["value", "sign"] ["value"] (defScope (Hd.top 11)) := ⟨rfl, rfl, rfl, by decide +kernel, rfl, by decide +kernel, by decide +kernel⟩
def g_is_name : FS := (sSeq (sIf (tOr' (tNot' (tTru ((eN (dIsi kitD) (aCons (eVar 0) (aCons ((eC (.opq (.ty "str")))) aNil)))))) (tNot' (tBl (eChain dLe dLe ((eC (.int 1))) ((eN dLen (aCons (eVar 0) aNil))) ((eC (.int 12))))))) (sRet ((eC (.bl false)))) sNext) (sRet ((eAnd ((e2 (dIn false) ((e2 dIdx (eVar 0) ((eC (.int 0))))) ((eC (.str "abcdefghijklmnopqrstuvwxyz"))))) ((eN dAll (aCons ((eLc (iSeq (eVar 0)) (gSet 1) (ret' true) ((eOr ((e2 (dIn false) (eVar 1) ((eC (.str "abcdefghijklmnopqrstuvwxyz"))))) ((e2 (dIn false) (eVar 1) ((eC (.str "0123456789"))))))) [1])) aNil)))))))
def F_is_name : FF := runF 1 g_is_name
theorem dk_is_name (T : Tx w K mg) (h : ∃ f fd, Fun K "is_name" "is_name" (Hd.top 11) f fd ∧ mg "is_name" = some (.ref f)) : Dok P w K mg base 2 "is_name" (Hd.top 11) ["value"] F_is_name :=
  dok_of h sc_is_name (by decide) fun f cdv A outer s H E hr => have nd := sc_is_name.nd
    by exact dss_cons (by exact ds_if (by exact tW (dw_or (by exact dt_not (by exact tTr (by exact xBi "isinstance" call_isiA (isi_g kitD_ok) T.f_isinstance (by decide +kernel) (xc (by exact xv 0) (xc (by exact xty "str" T.f_str (by decide +kernel)) da_nil))))) (dw_or1 (by exact dt_not (by exact tChain2 cLe cLe (by exact de_int) (by exact xBi "len" call_len len_g T.f_len (by decide +kernel) (xc (by exact xv 0) da_nil)) (by exact xgi T.LONGEST)))))) (by exact dss_one (by exact ds_ret (by exact de_bl))) (by exact dss_nil)) (dss_one (by exact ds_ret (by exact de_and (by exact xCmp (cIn hr) (by exact xIx (by exact xv 0) (by exact de_int)) (by exact xgs T.LETTERS)) (de_one (by exact xBi "all" (cr_all rfl) all_g T.f_all (by decide +kernel) (xc (by exact xLc [("sign", 1)] nd good_set (by exact di_seq (by exact xv 0)) (fun _ _ _ _ _ => (gN nd 1)) (fun _ _ _ _ _ => dts_nil) (fun _ _ _ _ _ => by exact de_or (by exact xCmp (cIn hr) (by exact xv 1) (by exact xgs T.LETTERS)) (de_one (by exact xCmp (cIn hr) (by exact xv 1) (by exact xgs T.DIGITS))))) da_nil))))))

/-! ### is_cell -/
theorem sc_is_cell : FnScope ["value", "name", "one", "other"] ["value"] (defScope (Hd.top 12)) := ⟨rfl, rfl, rfl, by decide +kernel, rfl, by decide +kernel, by decide +kernel⟩
def g_is_cell : FS := (sSeq (sIf (tOr' (tNot' (tTru ((eN (dIsi kitD) (aCons (eVar 0) (aCons ((eTup (aCons ((eC (.opq (.ty "list")))) (aCons ((eC (.opq (.ty "tuple")))) aNil)))) aNil)))))) (tNot' (tTru ((eN dAll (aCons ((eLc (iSeq (eVar 0)) (gSet 1) (ret' true) ((eCall 1 F_is_name (aCons (eVar 1) aNil))) [1])) aNil)))))) (sRet ((eC (.bl false)))) sNext) (sRet ((eN dAll (aCons ((eLc (iZipD (aCons (eVar 0) (aCons ((eSl (eVar 0) (oSome ((eC (.int 1)))) oNone)) aNil))) (gTupD 2 (gsCons (gSet 2) (gsCons (gSet 3) gsNil))) (ret' true) ((e2 dLt (eVar 2) (eVar 3))) [2, 3])) aNil)))))
def F_is_cell : FF := runF 3 g_is_cell
theorem dk_is_cell (T : Tx w K mg) (D_is_name : Dok P w K mg base 2 "is_name" (Hd.top 11) ["value"] F_is_name) (h : ∃ f fd, Fun K "is_cell" "is_cell" (Hd.top 12) f fd ∧ mg "is_cell" = some (.ref f)) : Dok P w K mg base 3 "is_cell" (Hd.top 12) ["value"] F_is_cell :=
  dok_of h sc_is_cell (by decide) fun f cdv A outer s H E hr => have nd := sc_is_cell.nd
    by exact dss_cons (by exact ds_if (by exact tW (dw_or (by exact dt_not (by exact tTr (by exact xBi "isinstance" call_isiA (isi_g kitD_ok) T.f_isinstance (by decide +kernel) (xc (by exact xv 0) (xc (by exact de_tup (xc (by exact xty "list" T.f_list (by decide +kernel)) (xc (by exact xty "tuple" T.f_tuple (by decide +kernel)) da_nil))) da_nil))))) (dw_or1 (by exact dt_not (by exact tTr (by exact xBi "all" (cr_all rfl) all_g T.f_all (by decide +kernel) (xc (by exact xLc [("name", 1)] nd good_set (by exact di_seq (by exact xv 0)) (fun _ _ _ _ _ => (gN nd 1)) (fun _ _ _ _ _ => dts_nil) (fun _ _ _ _ _ => by exact xCall D_is_name (fun _ _ _ _ _ _ us hl => match us, hl with | [_], _ => rfl) (LamX.takes0) (hr.mono (by decide)) (xc (by exact xv 1) da_nil))) da_nil))))))) (by exact dss_one (by exact ds_ret (by exact de_bl))) (by exact dss_nil)) (dss_one (by exact ds_ret (by exact xBi "all" (cr_all rfl) all_g T.f_all (by decide +kernel) (xc (by exact xLc [("one", 2), ("other", 3)] nd (good_tup (good_cons good_set (good_cons good_set good_nil))) (by exact iZ T.f_zip (xc (by exact xv 0) (xc (by exact de_sl (by exact xv 0) (do_some (by exact de_int)) do_none) da_nil))) (fun _ _ _ _ _ => (gT 2 (gC (gN nd 2) (gC (gN nd 3) dgs_nil)))) (fun _ _ _ _ _ => dts_nil) (fun _ _ _ _ _ => by exact xCmp cLt (by exact xv 2) (by exact xv 3))) da_nil))))

/-! ### is_word -/
theorem sc_is_word : FnScope ["value"] ["value"] (defScope (Hd.top 13)) := ⟨rfl, rfl, rfl, by decide +kernel, rfl, by decide +kernel, by decide +kernel⟩
def g_is_word : FS := (sRet ((eAnd ((eN (dIsi kitD) (aCons (eVar 0) (aCons ((eC (.opq (.ty "str")))) aNil)))) ((e2 (dInK kn false) (eVar 0) ((eC (.opq (.ref A_WORDS)))))))))
def F_is_word : FF := runF 0 g_is_word
theorem dk_is_word (T : Tx w K mg) (h : ∃ f fd, Fun K "is_word" "is_word" (Hd.top 13) f fd ∧ mg "is_word" = some (.ref f)) : Dok P w K mg base 2 "is_word" (Hd.top 13) ["value"] F_is_word :=
  dok_of h sc_is_word (by decide) fun f cdv A outer s H E hr => have nd := sc_is_word.nd
    by exact dss_one (by exact ds_ret (by exact de_and (by exact xBi "isinstance" call_isiA (isi_g kitD_ok) T.f_isinstance (by decide +kernel) (xc (by exact xv 0) (xc (by exact xty "str" T.f_str (by decide +kernel)) da_nil))) (de_one (by exact xCmp (cInK T.kn hr) (by exact xv 0) (by exact xgr T.WORDS)))))

/-! ### need_word -/
theorem sc_need_word : FnScope ["value", "part"] ["value", "part"] (defScope (Hd.top 14)) := ⟨rfl, rfl, rfl, by decide +kernel, rfl, by decide +kernel, by decide +kernel⟩
def g_need_word : FS := (sIf (tNot' (tTru ((eCall 1 F_is_word (aCons (eVar 0) aNil))))) (sRaise A_BadWord ["part"] (aCons (eVar 1) aNil)) sNext)
def F_need_word : FF := runF 0 g_need_word
theorem dk_need_word (T : Tx w K mg) (D_is_word : Dok P w K mg base 2 "is_word" (Hd.top 13) ["value"] F_is_word) (E_BadWord : Err P w K mg base "BadWord" A_BadWord ["part"]) (h : ∃ f fd, Fun K "need_word" "need_word" (Hd.top 14) f fd ∧ mg "need_word" = some (.ref f)) : Dok P w K mg base 3 "need_word" (Hd.top 14) ["value", "part"] F_need_word :=
  dok_of h sc_need_word (by decide) fun f cdv A outer s H E hr => have nd := sc_need_word.nd
    by exact dss_one (by exact ds_if (by exact dt_not (by exact tTr (by exact xCall D_is_word (fun _ _ _ _ _ _ us hl => match us, hl with | [_], _ => rfl) (takes_of rfl rfl rfl rfl) (hr.mono (by decide)) (xc (by exact xv 0) da_nil)))) (by exact dss_one (by exact yRaise E_BadWord (takes_of rfl rfl rfl rfl) (hr.mono (by decide)) (xc (by exact xv 1) da_nil))) (by exact dss_nil))

/-! ### turned_word -/
theorem sc_turned_word : FnScope ["word"] ["word"] (defScope (Hd.top 15)) := ⟨rfl, rfl, rfl, by decide +kernel, rfl, by decide +kernel, by decide +kernel⟩
def g_turned_word : FS := (sSeq (sExpr ((eCall 2 F_need_word (aCons (eVar 0) (aCons ((eC (.str "word"))) aNil))))) (sRet ((e2 (dTab A_TURNED tb_TURNED) ((eC (.opq (.ref A_TURNED)))) (eVar 0)))))
def F_turned_word : FF := runF 0 g_turned_word
theorem dk_turned_word (T : Tx w K mg) (D_need_word : Dok P w K mg base 3 "need_word" (Hd.top 14) ["value", "part"] F_need_word) (h : ∃ f fd, Fun K "turned_word" "turned_word" (Hd.top 15) f fd ∧ mg "turned_word" = some (.ref f)) : Dok P w K mg base 4 "turned_word" (Hd.top 15) ["word"] F_turned_word :=
  dok_of h sc_turned_word (by decide) fun f cdv A outer s H E hr => have nd := sc_turned_word.nd
    by exact dss_cons (by exact yE (by exact xCall D_need_word (fun _ _ _ _ _ _ us hl => match us, hl with | [_, _], _ => rfl) (takes_of rfl rfl rfl rfl) (hr.mono (by decide)) (xc (by exact xv 0) (xc (by exact de_str) da_nil)))) (dss_one (by exact ds_ret (by exact xTab T.t_TURNED (by exact xgr T.TURNED) (by exact xv 0))))

/-! ### cell_key -/
theorem sc_cell_key : FnScope ["cell"] ["cell"] (defScope (Hd.top 17)) := ⟨rfl, rfl, rfl, by decide +kernel, rfl, by decide +kernel, by decide +kernel⟩
def g_cell_key : FS := (sRet ((eTup (aCons ((eN dLen (aCons (eVar 0) aNil))) (aCons ((eN dTuple (aCons (eVar 0) aNil))) aNil)))))
def F_cell_key : FF := runF 0 g_cell_key
theorem dk_cell_key (T : Tx w K mg) (h : ∃ f fd, Fun K "cell_key" "cell_key" (Hd.top 17) f fd ∧ mg "cell_key" = some (.ref f)) : Dok P w K mg base 2 "cell_key" (Hd.top 17) ["cell"] F_cell_key :=
  dok_of h sc_cell_key (by decide) fun f cdv A outer s H E hr => have nd := sc_cell_key.nd
    by exact dss_one (by exact ds_ret (by exact de_tup (xc (by exact xBi "len" call_len len_g T.f_len (by decide +kernel) (xc (by exact xv 0) da_nil)) (xc (by exact xTy "tuple" call_tuple_of tuple_g T.f_tuple (by decide +kernel) (xc (by exact xv 0) da_nil)) da_nil))))

/-! ### cell_text -/
theorem sc_cell_text : FnScope ["cell"] ["cell"] (defScope (Hd.top 18)) := ⟨rfl, rfl, rfl, by decide +kernel, rfl, by decide +kernel, by decide +kernel⟩
def g_cell_text : FS := (sRet ((eIf ((tBl (e2 dGt ((eN dLen (aCons (eVar 0) aNil))) ((eC (.int 0)))))) ((eS1 dJoin ((eC (.str "+"))) (eVar 0))) ((eC (.str "-"))))))
def F_cell_text : FF := runF 0 g_cell_text
theorem dk_cell_text (T : Tx w K mg) (h : ∃ f fd, Fun K "cell_text" "cell_text" (Hd.top 18) f fd ∧ mg "cell_text" = some (.ref f)) : Dok P w K mg base 2 "cell_text" (Hd.top 18) ["cell"] F_cell_text :=
  dok_of h sc_cell_text (by decide) fun f cdv A outer s H E hr => have nd := sc_cell_text.nd
    by exact dss_one (by exact ds_ret (by exact de_if (by exact tCmp cGt (by exact xBi "len" call_len len_g T.f_len (by decide +kernel) (xc (by exact xv 0) da_nil)) (by exact de_int)) (by exact xJoin (by exact de_str) (by exact xv 0)) (by exact de_str)))

/-! ### _law_store -/
theorem sc__law_store : FnScope ["_law_script", "_law_cell"] ["_law_script"] (defScope (Hd.top 20)) := ⟨rfl, rfl, rfl, by decide +kernel, rfl, by decide +kernel, by decide +kernel⟩
def g__law_store : FS := (sRet ((eLst (aCons ((eLc (iSeq ((eSl (eVar 0) oNone (oSome ((eC (.int 60))))))) (gSet 1) (ret' true) ((eN dInt (aCons (eVar 1) aNil))) [1])) (aCons ((eC (.int 0))) (aCons ((eC (.int 0))) aNil))))))
def F__law_store : FF := runF 1 g__law_store
theorem dk__law_store (T : Tx w K mg) (h : ∃ f fd, Fun K "_law_store" "_law_store" (Hd.top 20) f fd ∧ mg "_law_store" = some (.ref f)) : Dok P w K mg base 2 "_law_store" (Hd.top 20) ["_law_script"] F__law_store :=
  dok_of h sc__law_store (by decide) fun f cdv A outer s H E hr => have nd := sc__law_store.nd
    by exact dss_one (by exact ds_ret (by exact de_lst (xc (by exact xLc [("_law_cell", 1)] nd good_set (by exact di_seq (by exact de_sl (by exact xv 0) do_none (do_some (by exact de_int)))) (fun _ _ _ _ _ => (gN nd 1)) (fun _ _ _ _ _ => dts_nil) (fun _ _ _ _ _ => by exact xTy "int" call_int1 int_g T.f_int (by decide +kernel) (xc (by exact xv 1) da_nil))) (xc (by exact de_int) (xc (by exact de_int) da_nil)))))

/-! ### _law_next -/
theorem sc__law_next : FnScope ["_law_store_here", "_law_many", "_law_rest", "_law_at", "_law_cell", "_law_mixed"] ["_law_store_here", "_law_many"] (defScope (Hd.top 21)) := ⟨rfl, rfl, rfl, by decide +kernel, rfl, by decide +kernel, by decide +kernel⟩
def g__law_next : FS := (sSeq (sIf (tBl (e2 dGt ((e2 dIdx (eVar 0) ((eC (.int 2))))) ((eC (.int 0))))) (sSeq (sSet 2 ((eN dInt (aCons ((e2 dIdx (eVar 0) ((eC (.int 2))))) aNil)))) (sSeq (sSetIt 0 ((eC (.int 2))) ((e2 dDiv (eVar 2) (eVar 1)))) (sRet ((e2 dMod ((eN dInt (aCons (eVar 2) aNil))) (eVar 1)))))) sNext) (sSeq (sSet 3 ((e2 dIdx (eVar 0) ((eC (.int 1)))))) (sSeq (sSetIt 0 ((eC (.int 1))) ((e2 dAdd (eVar 3) ((eC (.int 1)))))) (sSeq (sSet 4 ((e2 dAdd ((e2 dMul ((eC (.int 60209))) (eVar 3))) ((eC (.int 1433)))))) (sSeq (sIf (tBl (e2 (dEq true) ((e2 dIdx (eVar 0) ((eC (.int 0))))) ((eLst aNil)))) (sSet 4 ((e2 dIdx ((e2 dIdx (eVar 0) ((eC (.int 0))))) ((e2 dMod ((eN dInt (aCons (eVar 3) aNil))) ((eN dLen (aCons ((e2 dIdx (eVar 0) ((eC (.int 0))))) aNil)))))))) sNext) (sSeq (sIf (tAnd' (tBl (e2 dLt (eVar 3) ((eN dLen (aCons ((e2 dIdx (eVar 0) ((eC (.int 0))))) aNil))))) (tBl (e2 dGe ((eN dAbs (aCons (eVar 4) aNil))) ((e2 dPow ((eC (.int 10))) ((eC (.int 18)))))))) (sSeq (sSet 2 ((e2 dAdd ((e2 dMul ((eC (.int 2))) ((e2 dSub ((eN dAbs (aCons ((eN dInt (aCons (eVar 4) aNil))) aNil))) ((e2 dPow ((eC (.int 10))) ((eC (.int 18))))))))) ((eN dInt (aCons ((e2 dLt (eVar 4) ((eC (.int 0))))) aNil)))))) (sSeq (sSetIt 0 ((eC (.int 2))) ((e2 dDiv (eVar 2) (eVar 1)))) (sRet ((e2 dMod ((eN dInt (aCons (eVar 2) aNil))) (eVar 1)))))) sNext) (sSeq (sSet 5 ((e2 dMod ((eN dInt (aCons ((e2 dPow ((e2 dAdd ((e2 dAdd ((e2 dMod ((eN dInt (aCons (eVar 4) aNil))) ((eC (.int 2147483549))))) ((e2 dMul ((eC (.int 78059))) (eVar 3))))) ((eC (.int 1433))))) ((eC (.int 5))))) aNil))) ((eC (.int 2147483647)))))) (sSeq (sSet 5 ((e2 dMod ((eN dInt (aCons ((e2 dPow ((e2 dAdd ((e2 dAdd ((e2 dMul (eVar 5) ((e2 dAdd ((e2 dMul ((eC (.int 2))) (eVar 3))) ((eC (.int 1777))))))) ((e2 dMul ((e2 dMul ((eC (.int 60209))) (eVar 3))) (eVar 3))))) ((eC (.int 78059))))) ((eC (.int 3))))) aNil))) ((eC (.int 2147483579)))))) (sRet ((e2 dMod ((eN dInt (aCons ((e2 dDiv (eVar 5) ((eC (.int 64))))) aNil))) (eVar 1))))))))))))
def F__law_next : FF := runF 4 g__law_next
theorem dk__law_next (T : Tx w K mg) (h : ∃ f fd, Fun K "_law_next" "_law_next" (Hd.top 21) f fd ∧ mg "_law_next" = some (.ref f)) : Dok P w K mg base 2 "_law_next" (Hd.top 21) ["_law_store_here", "_law_many"] F__law_next :=
  dok_of h sc__law_next (by decide) fun f cdv A outer s H E hr => have nd := sc__law_next.nd
    by exact dss_cons (by exact ds_if (by exact tCmp cGt (by exact xIx (by exact xv 0) (by exact de_int)) (by exact de_int)) (by exact dss_cons (by exact yS nd 2 (by exact xTy "int" call_int1 int_g T.f_int (by decide +kernel) (xc (by exact xIx (by exact xv 0) (by exact de_int)) da_nil))) (dss_cons (by exact ySetIt 0 (by exact de_int) (by exact xDiv (by exact xv 2) (by exact xv 1))) (dss_one (by exact ds_ret (by exact xMod (by exact xTy "int" call_int1 int_g T.f_int (by decide +kernel) (xc (by exact xv 2) da_nil)) (by exact xv 1)))))) (by exact dss_nil)) (dss_cons (by exact yS nd 3 (by exact xIx (by exact xv 0) (by exact de_int))) (dss_cons (by exact ySetIt 0 (by exact de_int) (by exact xAdd (by exact xv 3) (by exact de_int))) (dss_cons (by exact yS nd 4 (by exact xAdd (by exact xMul (by exact de_int) (by exact xv 3)) (by exact de_int))) (dss_cons (by exact ds_if (by exact tCmp (cNe hr) (by exact xIx (by exact xv 0) (by exact de_int)) (by exact de_lst da_nil)) (by exact dss_one (by exact yS nd 4 (by exact xIx (by exact xIx (by exact xv 0) (by exact de_int)) (by exact xMod (by exact xTy "int" call_int1 int_g T.f_int (by decide +kernel) (xc (by exact xv 3) da_nil)) (by exact xBi "len" call_len len_g T.f_len (by decide +kernel) (xc (by exact xIx (by exact xv 0) (by exact de_int)) da_nil)))))) (by exact dss_nil)) (dss_cons (by exact ds_if (by exact tW (dw_and (by exact tCmp cLt (by exact xv 3) (by exact xBi "len" call_len len_g T.f_len (by decide +kernel) (xc (by exact xIx (by exact xv 0) (by exact de_int)) da_nil))) (dw_and1 (by exact tCmp cGe (by exact xBi "abs" call_abs abs_g T.f_abs (by decide +kernel) (xc (by exact xv 4) da_nil)) (by exact xPow (by exact de_int) (by exact de_int)))))) (by exact dss_cons (by exact yS nd 2 (by exact xAdd (by exact xMul (by exact de_int) (by exact xSub (by exact xBi "abs" call_abs abs_g T.f_abs (by decide +kernel) (xc (by exact xTy "int" call_int1 int_g T.f_int (by decide +kernel) (xc (by exact xv 4) da_nil)) da_nil)) (by exact xPow (by exact de_int) (by exact de_int)))) (by exact xTy "int" call_int1 int_g T.f_int (by decide +kernel) (xc (by exact xCmp cLt (by exact xv 4) (by exact de_int)) da_nil)))) (dss_cons (by exact ySetIt 0 (by exact de_int) (by exact xDiv (by exact xv 2) (by exact xv 1))) (dss_one (by exact ds_ret (by exact xMod (by exact xTy "int" call_int1 int_g T.f_int (by decide +kernel) (xc (by exact xv 2) da_nil)) (by exact xv 1)))))) (by exact dss_nil)) (dss_cons (by exact yS nd 5 (by exact xMod (by exact xTy "int" call_int1 int_g T.f_int (by decide +kernel) (xc (by exact xPow (by exact xAdd (by exact xAdd (by exact xMod (by exact xTy "int" call_int1 int_g T.f_int (by decide +kernel) (xc (by exact xv 4) da_nil)) (by exact de_int)) (by exact xMul (by exact de_int) (by exact xv 3))) (by exact de_int)) (by exact de_int)) da_nil)) (by exact de_int))) (dss_cons (by exact yS nd 5 (by exact xMod (by exact xTy "int" call_int1 int_g T.f_int (by decide +kernel) (xc (by exact xPow (by exact xAdd (by exact xAdd (by exact xMul (by exact xv 5) (by exact xAdd (by exact xMul (by exact de_int) (by exact xv 3)) (by exact de_int))) (by exact xMul (by exact xMul (by exact de_int) (by exact xv 3)) (by exact xv 3))) (by exact de_int)) (by exact de_int)) da_nil)) (by exact de_int))) (dss_one (by exact ds_ret (by exact xMod (by exact xTy "int" call_int1 int_g T.f_int (by decide +kernel) (xc (by exact xDiv (by exact xv 5) (by exact de_int)) da_nil)) (by exact xv 1)))))))))))

/-! ### _law_name -/
theorem sc__law_name : FnScope ["_law_store_here", "_law_size", "_law_signs", "_law_first", "_law_few", "_law_at"] ["_law_store_here"] (defScope (Hd.top 22)) := ⟨rfl, rfl, rfl, by decide +kernel, rfl, by decide +kernel, by decide +kernel⟩
def g__law_name : FS := (sSeq (sAsgG (gTupD 2 (gsCons (gSet 1) (gsCons (gSet 2) gsNil))) ((eTup (aCons ((e2 dIdx ((eLst (aCons ((eC (.int 1))) (aCons ((eC (.int 2))) (aCons ((eC (.int 3))) (aCons ((eC (.int 12))) (aCons ((eC (.int 13))) (aCons ((eC (.int 0))) (aCons ((eC (.int 5))) aNil))))))))) ((eCall 2 F__law_next (aCons (eVar 0) (aCons ((eC (.int 7))) aNil)))))) (aCons ((eC (.str "abcdefghijklmnopqrstuvwxyz0123456789A_ +-."))) aNil))))) (sSeq (sSet 3 ((e2 dIdx ((eLst (aCons ((eC (.str "a"))) (aCons ((eC (.str "z"))) (aCons ((eC (.str "m"))) (aCons ((eC (.str "q"))) (aCons ((eC (.str "0"))) (aCons ((eC (.str "9"))) (aCons ((eC (.str "B"))) (aCons ((eC (.str "_"))) aNil)))))))))) ((eCall 2 F__law_next (aCons (eVar 0) (aCons ((eIf ((tBl (e2 (dEq false) ((eCall 2 F__law_next (aCons (eVar 0) (aCons ((eC (.int 2))) aNil)))) ((eC (.int 0)))))) ((eC (.int 5))) ((eC (.int 8))))) aNil))))))) (sSeq (sSet 4 ((eIf ((tBl (e2 dGt ((eCall 2 F__law_next (aCons (eVar 0) (aCons ((eC (.int 3))) aNil)))) ((eC (.int 0)))))) ((eC (.int 36))) ((eC (.int 42)))))) (sRet ((eSl ((e2 dAdd (eVar 3) ((eS1 dJoin ((eC (.str ""))) ((eLc (iRng1 (aCons ((eN dMax2 (aCons ((eC (.int 0))) (aCons ((e2 dSub (eVar 1) ((eC (.int 1))))) aNil)))) aNil)) (gSet 5) (ret' true) ((e2 dIdx (eVar 2) ((eCall 2 F__law_next (aCons (eVar 0) (aCons (eVar 4) aNil)))))) [5])))))) oNone (oSome (eVar 1))))))))
def F__law_name : FF := runF 5 g__law_name
theorem dk__law_name (T : Tx w K mg) (D__law_next : Dok P w K mg base 2 "_law_next" (Hd.top 21) ["_law_store_here", "_law_many"] F__law_next) (h : ∃ f fd, Fun K "_law_name" "_law_name" (Hd.top 22) f fd ∧ mg "_law_name" = some (.ref f)) : Dok P w K mg base 3 "_law_name" (Hd.top 22) ["_law_store_here"] F__law_name :=
  dok_of h sc__law_name (by decide) fun f cdv A outer s H E hr => have nd := sc__law_name.nd
    by exact dss_cons (by exact yAsg (by exact de_tup (xc (by exact xIx (by exact de_lst (xc (by exact de_int) (xc (by exact de_int) (xc (by exact de_int) (xc (by exact de_int) (xc (by exact de_int) (xc (by exact de_int) (xc (by exact de_int) da_nil)))))))) (by exact xCall D__law_next (fun _ _ _ _ _ _ us hl => match us, hl with | [_, _], _ => rfl) (takes_of rfl rfl rfl rfl) (hr.mono (by decide)) (xc (by exact xv 0) (xc (by exact de_int) da_nil)))) (xc (by exact de_str) da_nil))) (gT 2 (gC (gN nd 1) (gC (gN nd 2) dgs_nil)))) (dss_cons (by exact yS nd 3 (by exact xIx (by exact de_lst (xc (by exact de_str) (xc (by exact de_str) (xc (by exact de_str) (xc (by exact de_str) (xc (by exact de_str) (xc (by exact de_str) (xc (by exact de_str) (xc (by exact de_str) da_nil))))))))) (by exact xCall D__law_next (fun _ _ _ _ _ _ us hl => match us, hl with | [_, _], _ => rfl) (takes_of rfl rfl rfl rfl) (hr.mono (by decide)) (xc (by exact xv 0) (xc (by exact de_if (by exact tCmp (cEq hr) (by exact xCall D__law_next (fun _ _ _ _ _ _ us hl => match us, hl with | [_, _], _ => rfl) (takes_of rfl rfl rfl rfl) (hr.mono (by decide)) (xc (by exact xv 0) (xc (by exact de_int) da_nil))) (by exact de_int)) (by exact de_int) (by exact de_int)) da_nil))))) (dss_cons (by exact yS nd 4 (by exact de_if (by exact tCmp cGt (by exact xCall D__law_next (fun _ _ _ _ _ _ us hl => match us, hl with | [_, _], _ => rfl) (takes_of rfl rfl rfl rfl) (hr.mono (by decide)) (xc (by exact xv 0) (xc (by exact de_int) da_nil))) (by exact de_int)) (by exact de_int) (by exact de_int))) (dss_one (by exact ds_ret (by exact de_sl (by exact xAdd (by exact xv 3) (by exact xJoin (by exact de_str) (by exact xLc [("_law_at", 5)] nd good_set (by exact iR1 T.f_range (xc (by exact xBi "max" (call_max2 rfl) max2_g T.f_max (by decide +kernel) (xc (by exact de_int) (xc (by exact xSub (by exact xv 1) (by exact de_int)) da_nil))) da_nil)) (fun _ _ _ _ _ => (gN nd 5)) (fun _ _ _ _ _ => dts_nil) (fun _ _ _ _ _ => by exact xIx (by exact xv 2) (by exact xCall D__law_next (fun _ _ _ _ _ _ us hl => match us, hl with | [_, _], _ => rfl) (LamX.takes0) (hr.mono (by decide)) (xc (by exact xv 0) (xc (by exact xv 4) da_nil))))))) do_none (do_some (by exact xv 1)))))))

/-! ### _law_names -/
theorem sc__law_names : FnScope ["_law_store_here", "_law_found", "_law_at", "_law_way", "_law_name_here", "_law_odd"] ["_law_store_here"] (defScope (Hd.top 23)) := ⟨rfl, rfl, rfl, by decide +kernel, rfl, by decide +kernel, by decide +kernel⟩
def g__law_names : FS := (sSeq (sSet 1 ((eLc (iRng1 (aCons ((eCall 2 F__law_next (aCons (eVar 0) (aCons ((eC (.int 6))) aNil)))) aNil)) (gSet 2) (ret' true) ((e2 dIdx ((eLst (aCons ((eC (.str "a"))) (aCons ((eC (.str "b"))) (aCons ((eC (.str "c"))) (aCons ((eC (.str "lake"))) (aCons ((eC (.str "z9"))) (aCons ((eC (.str "town"))) (aCons ((eC (.str "a"))) aNil))))))))) ((eCall 2 F__law_next (aCons (eVar 0) (aCons ((eC (.int 7))) aNil)))))) [2]))) (sSeq (sSet 3 ((eCall 2 F__law_next (aCons (eVar 0) (aCons ((eC (.int 6))) aNil))))) (sSeq (sIf (tBl (e2 dLt (eVar 3) ((eC (.int 4))))) (sSet 1 ((eLc (iEnumD (aCons ((eN dSorted (aCons (eVar 1) aNil))) aNil)) (gTupD 2 (gsCons (gSet 2) (gsCons (gSet 4) gsNil))) (tBl (e2 (dIn true) (eVar 4) ((eSl ((eN dSorted (aCons (eVar 1) aNil))) oNone (oSome (eVar 2)))))) (eVar 4) [2, 4]))) sNext) (sSeq (sIf (tBl (e2 (dIn false) (eVar 3) ((eTup (aCons ((eC (.int 3))) (aCons ((eC (.int 5))) aNil)))))) (sSeq (sSet 2 ((eCall 2 F__law_next (aCons (eVar 0) (aCons ((e2 dAdd ((eN dLen (aCons (eVar 1) aNil))) ((eC (.int 1))))) aNil))))) (sSeq (sSet 5 ((e2 dIdx ((eLst (aCons ((eC .non)) (aCons ((eC (.int 5))) (aCons ((eC (.str "A"))) (aCons ((eC (.str ""))) (aCons ((eC (.bl true))) (aCons ((eLst (aCons ((eC (.str "a"))) aNil))) (aCons ((eC (.str "toolonganame0"))) (aCons ((eC (.str "b"))) aNil)))))))))) ((eCall 2 F__law_next (aCons (eVar 0) (aCons ((eC (.int 8))) aNil))))))) (sSet 1 ((e2 dAdd ((e2 dAdd ((eSl (eVar 1) oNone (oSome (eVar 2)))) ((eLst (aCons (eVar 5) aNil))))) ((eSl (eVar 1) (oSome (eVar 2)) oNone))))))) sNext) (sRet (eVar 1))))))
def F__law_names : FF := runF 5 g__law_names
theorem dk__law_names (T : Tx w K mg) (D__law_next : Dok P w K mg base 2 "_law_next" (Hd.top 21) ["_law_store_here", "_law_many"] F__law_next) (h : ∃ f fd, Fun K "_law_names" "_law_names" (Hd.top 23) f fd ∧ mg "_law_names" = some (.ref f)) : Dok P w K mg base 3 "_law_names" (Hd.top 23) ["_law_store_here"] F__law_names :=
  dok_of h sc__law_names (by decide) fun f cdv A outer s H E hr => have nd := sc__law_names.nd
    by exact dss_cons (by exact yS nd 1 (by exact xLc [("_law_at", 2)] nd good_set (by exact iR1 T.f_range (xc (by exact xCall D__law_next (fun _ _ _ _ _ _ us hl => match us, hl with | [_, _], _ => rfl) (takes_of rfl rfl rfl rfl) (hr.mono (by decide)) (xc (by exact xv 0) (xc (by exact de_int) da_nil))) da_nil)) (fun _ _ _ _ _ => (gN nd 2)) (fun _ _ _ _ _ => dts_nil) (fun _ _ _ _ _ => by exact xIx (by exact de_lst (xc (by exact de_str) (xc (by exact de_str) (xc (by exact de_str) (xc (by exact de_str) (xc (by exact de_str) (xc (by exact de_str) (xc (by exact de_str) da_nil)))))))) (by exact xCall D__law_next (fun _ _ _ _ _ _ us hl => match us, hl with | [_, _], _ => rfl) (LamX.takes0) (hr.mono (by decide)) (xc (by exact xv 0) (xc (by exact de_int) da_nil)))))) (dss_cons (by exact yS nd 3 (by exact xCall D__law_next (fun _ _ _ _ _ _ us hl => match us, hl with | [_, _], _ => rfl) (takes_of rfl rfl rfl rfl) (hr.mono (by decide)) (xc (by exact xv 0) (xc (by exact de_int) da_nil)))) (dss_cons (by exact ds_if (by exact tCmp cLt (by exact xv 3) (by exact de_int)) (by exact dss_one (by exact yS nd 1 (by exact xLc [("_law_at", 2), ("_law_name_here", 4)] nd (good_tup (good_cons good_set (good_cons good_set good_nil))) (by exact iEn T.f_enumerate (xc (by exact xBi "sorted" (call_sortD (hu65 hr)) sorted_g T.f_sorted (by decide +kernel) (xc (by exact xv 1) da_nil)) da_nil)) (fun _ _ _ _ _ => (gT 2 (gC (gN nd 2) (gC (gN nd 4) dgs_nil)))) (fun _ _ _ _ _ => dts_one (by exact tCmp (cNotIn hr) (by exact xv 4) (by exact de_sl (by exact xBi "sorted" (call_sortD (hu65 hr)) sorted_g T.f_sorted (by decide +kernel) (xc (by exact xv 1) da_nil)) do_none (do_some (by exact xv 2))))) (fun _ _ _ _ _ => by exact xv 4)))) (by exact dss_nil)) (dss_cons (by exact ds_if (by exact tCmp (cIn hr) (by exact xv 3) (by exact de_tup (xc (by exact de_int) (xc (by exact de_int) da_nil)))) (by exact dss_cons (by exact yS nd 2 (by exact xCall D__law_next (fun _ _ _ _ _ _ us hl => match us, hl with | [_, _], _ => rfl) (takes_of rfl rfl rfl rfl) (hr.mono (by decide)) (xc (by exact xv 0) (xc (by exact xAdd (by exact xBi "len" call_len len_g T.f_len (by decide +kernel) (xc (by exact xv 1) da_nil)) (by exact de_int)) da_nil)))) (dss_cons (by exact yS nd 5 (by exact xIx (by exact de_lst (xc (by exact de_non) (xc (by exact de_int) (xc (by exact de_str) (xc (by exact de_str) (xc (by exact de_bl) (xc (by exact de_lst (xc (by exact de_str) da_nil)) (xc (by exact de_str) (xc (by exact de_str) da_nil))))))))) (by exact xCall D__law_next (fun _ _ _ _ _ _ us hl => match us, hl with | [_, _], _ => rfl) (takes_of rfl rfl rfl rfl) (hr.mono (by decide)) (xc (by exact xv 0) (xc (by exact de_int) da_nil))))) (dss_one (by exact yS nd 1 (by exact xAdd (by exact xAdd (by exact de_sl (by exact xv 1) do_none (do_some (by exact xv 2))) (by exact de_lst (xc (by exact xv 5) da_nil))) (by exact de_sl (by exact xv 1) (do_some (by exact xv 2)) do_none)))))) (by exact dss_nil)) (dss_one (by exact ds_ret (by exact xv 1))))))

/-! ### _law_value -/
theorem sc__law_value : FnScope ["_law_store_here", "_law_way", "_law_some"] ["_law_store_here"] (defScope (Hd.top 24)) := ⟨rfl, rfl, rfl, by decide +kernel, rfl, by decide +kernel, by decide +kernel⟩
def g__law_value : FS := (sSeq (sSet 1 ((eCall 2 F__law_next (aCons (eVar 0) (aCons ((eC (.int 8))) aNil))))) (sSeq (sIf (tBl (e2 dLt (eVar 1) ((eC (.int 3))))) (sSeq (sSet 2 ((eCall 1 F__law_names (aCons (eVar 0) aNil)))) (sRet ((eIf ((tBl (e2 (dEq false) ((eCall 2 F__law_next (aCons (eVar 0) (aCons ((eC (.int 2))) aNil)))) ((eC (.int 0)))))) (eVar 2) ((eN dTuple (aCons (eVar 2) aNil))))))) sNext) (sSeq (sIf (tBl (e2 (dEq false) (eVar 1) ((eC (.int 3))))) (sRet ((e2 dSub ((eCall 2 F__law_next (aCons (eVar 0) (aCons ((eC (.int 9))) aNil)))) ((eC (.int 2)))))) sNext) (sSeq (sIf (tBl (e2 (dEq false) (eVar 1) ((eC (.int 4))))) (sRet ((e2 dSub ((eCall 2 F__law_next (aCons (eVar 0) (aCons ((e2 dPow ((eC (.int 10))) ((eC (.int 30))))) aNil)))) ((e2 dMul ((eC (.int 5))) ((e2 dPow ((eC (.int 10))) ((eC (.int 29)))))))))) sNext) (sSeq (sIf (tBl (e2 dLt (eVar 1) ((eC (.int 7))))) (sRet ((eCall 1 F__law_name (aCons (eVar 0) aNil)))) sNext) (sRet ((e2 dIdx ((eLst (aCons ((eC .non)) (aCons ((eC (.bl true))) (aCons ((eC (.bl false))) (aCons (eDct0) (aCons ((eDct (aPair ((eC (.str "a"))) ((eC (.int 1))) aNil))) (aCons ((eC (.str ""))) (aCons ((eLst (aCons ((eLst aNil)) aNil))) (aCons ((eTup (aCons ((eTup (aCons ((eC (.str "a"))) aNil))) aNil))) (aCons ((eC (.str "ab"))) (aCons ((eLst (aCons ((eC (.int 0))) aNil))) (aCons ((eC (.str "0"))) (aCons ((eTup (aCons ((eC (.bl true))) aNil))) aNil)))))))))))))) ((eCall 2 F__law_next (aCons (eVar 0) (aCons ((eC (.int 12))) aNil))))))))))))
def F__law_value : FF := runF 2 g__law_value
theorem dk__law_value (T : Tx w K mg) (D__law_name : Dok P w K mg base 3 "_law_name" (Hd.top 22) ["_law_store_here"] F__law_name) (D__law_names : Dok P w K mg base 3 "_law_names" (Hd.top 23) ["_law_store_here"] F__law_names) (D__law_next : Dok P w K mg base 2 "_law_next" (Hd.top 21) ["_law_store_here", "_law_many"] F__law_next) (h : ∃ f fd, Fun K "_law_value" "_law_value" (Hd.top 24) f fd ∧ mg "_law_value" = some (.ref f)) : Dok P w K mg base 4 "_law_value" (Hd.top 24) ["_law_store_here"] F__law_value :=
  dok_of h sc__law_value (by decide) fun f cdv A outer s H E hr => have nd := sc__law_value.nd
    by exact dss_cons (by exact yS nd 1 (by exact xCall D__law_next (fun _ _ _ _ _ _ us hl => match us, hl with | [_, _], _ => rfl) (takes_of rfl rfl rfl rfl) (hr.mono (by decide)) (xc (by exact xv 0) (xc (by exact de_int) da_nil)))) (dss_cons (by exact ds_if (by exact tCmp cLt (by exact xv 1) (by exact de_int)) (by exact dss_cons (by exact yS nd 2 (by exact xCall D__law_names (fun _ _ _ _ _ _ us hl => match us, hl with | [_], _ => rfl) (takes_of rfl rfl rfl rfl) (hr.mono (by decide)) (xc (by exact xv 0) da_nil))) (dss_one (by exact ds_ret (by exact de_if (by exact tCmp (cEq hr) (by exact xCall D__law_next (fun _ _ _ _ _ _ us hl => match us, hl with | [_, _], _ => rfl) (takes_of rfl rfl rfl rfl) (hr.mono (by decide)) (xc (by exact xv 0) (xc (by exact de_int) da_nil))) (by exact de_int)) (by exact xv 2) (by exact xTy "tuple" call_tuple_of tuple_g T.f_tuple (by decide +kernel) (xc (by exact xv 2) da_nil)))))) (by exact dss_nil)) (dss_cons (by exact ds_if (by exact tCmp (cEq hr) (by exact xv 1) (by exact de_int)) (by exact dss_one (by exact ds_ret (by exact xSub (by exact xCall D__law_next (fun _ _ _ _ _ _ us hl => match us, hl with | [_, _], _ => rfl) (takes_of rfl rfl rfl rfl) (hr.mono (by decide)) (xc (by exact xv 0) (xc (by exact de_int) da_nil))) (by exact de_int)))) (by exact dss_nil)) (dss_cons (by exact ds_if (by exact tCmp (cEq hr) (by exact xv 1) (by exact de_int)) (by exact dss_one (by exact ds_ret (by exact xSub (by exact xCall D__law_next (fun _ _ _ _ _ _ us hl => match us, hl with | [_, _], _ => rfl) (takes_of rfl rfl rfl rfl) (hr.mono (by decide)) (xc (by exact xv 0) (xc (by exact xPow (by exact de_int) (by exact de_int)) da_nil))) (by exact xMul (by exact de_int) (by exact xPow (by exact de_int) (by exact de_int)))))) (by exact dss_nil)) (dss_cons (by exact ds_if (by exact tCmp cLt (by exact xv 1) (by exact de_int)) (by exact dss_one (by exact ds_ret (by exact xCall D__law_name (fun _ _ _ _ _ _ us hl => match us, hl with | [_], _ => rfl) (takes_of rfl rfl rfl rfl) (hr.mono (by decide)) (xc (by exact xv 0) da_nil)))) (by exact dss_nil)) (dss_one (by exact ds_ret (by exact xIx (by exact de_lst (xc (by exact de_non) (xc (by exact de_bl) (xc (by exact de_bl) (xc (by exact de_dnew) (xc (by exact de_dct (dp_cons (by exact de_str) (by exact de_int) dp_nil) (by rfl) (by rfl) (by simp) (by decide)) (xc (by exact de_str) (xc (by exact de_lst (xc (by exact de_lst da_nil) da_nil)) (xc (by exact de_tup (xc (by exact de_tup (xc (by exact de_str) da_nil)) da_nil)) (xc (by exact de_str) (xc (by exact de_lst (xc (by exact de_int) da_nil)) (xc (by exact de_str) (xc (by exact de_tup (xc (by exact de_bl) da_nil)) da_nil))))))))))))) (by exact xCall D__law_next (fun _ _ _ _ _ _ us hl => match us, hl with | [_, _], _ => rfl) (takes_of rfl rfl rfl rfl) (hr.mono (by decide)) (xc (by exact xv 0) (xc (by exact de_int) da_nil))))))))))

/-! ### _law_is_plain -/
theorem sc__law_is_plain : FnScope ["_law_value_here"] ["_law_value_here"] (defScope (Hd.top 25)) := ⟨rfl, rfl, rfl, by decide +kernel, rfl, by decide +kernel, by decide +kernel⟩
def g__law_is_plain : FS := (sRet ((eAnd ((eN (dIsi kitD) (aCons (eVar 0) (aCons ((eC (.opq (.ty "int")))) aNil)))) ((eNot ((eN (dIsi kitD) (aCons (eVar 0) (aCons ((eC (.opq (.ty "bool")))) aNil)))))))))
def F__law_is_plain : FF := runF 0 g__law_is_plain
theorem dk__law_is_plain (T : Tx w K mg) (h : ∃ f fd, Fun K "_law_is_plain" "_law_is_plain" (Hd.top 25) f fd ∧ mg "_law_is_plain" = some (.ref f)) : Dok P w K mg base 2 "_law_is_plain" (Hd.top 25) ["_law_value_here"] F__law_is_plain :=
  dok_of h sc__law_is_plain (by decide) fun f cdv A outer s H E hr => have nd := sc__law_is_plain.nd
    by exact dss_one (by exact ds_ret (by exact de_and (by exact xBi "isinstance" call_isiA (isi_g kitD_ok) T.f_isinstance (by decide +kernel) (xc (by exact xv 0) (xc (by exact xty "int" T.f_int (by decide +kernel)) da_nil))) (de_one (by exact de_not (by exact xBi "isinstance" call_isiA (isi_g kitD_ok) T.f_isinstance (by decide +kernel) (xc (by exact xv 0) (xc (by exact xty "bool" T.f_bool (by decide +kernel)) da_nil)))))))

/-! ### _law_is_name -/
theorem sc__law_is_name : FnScope ["_law_value_here", "_law_sign"] ["_law_value_here"] (defScope (Hd.top 26)) := ⟨rfl, rfl, rfl, by decide +kernel, rfl, by decide +kernel, by decide +kernel⟩
def g__law_is_name : FS := (sSeq (sIf (tOr' (tNot' (tTru ((eN (dIsi kitD) (aCons (eVar 0) (aCons ((eC (.opq (.ty "str")))) aNil)))))) (tOr' (tBl (e2 dGt ((eN dLen (aCons (eVar 0) aNil))) ((eC (.int 12))))) (tBl (e2 (dIn true) ((eSl (eVar 0) oNone (oSome ((eC (.int 1)))))) ((eN dListA (aCons ((eC (.str "abcdefghijklmnopqrstuvwxyz"))) aNil))))))) (sRet ((eC (.bl false)))) sNext) (sRet ((e2 (dEq false) ((eLc (iSeq (eVar 0)) (gSet 1) (tBl (e2 (dIn true) (eVar 1) ((eC (.str "abcdefghijklmnopqrstuvwxyz0123456789"))))) (eVar 1) [1])) ((eLst aNil))))))
def F__law_is_name : FF := runF 1 g__law_is_name
theorem dk__law_is_name (T : Tx w K mg) (h : ∃ f fd, Fun K "_law_is_name" "_law_is_name" (Hd.top 26) f fd ∧ mg "_law_is_name" = some (.ref f)) : Dok P w K mg base 2 "_law_is_name" (Hd.top 26) ["_law_value_here"] F__law_is_name :=
  dok_of h sc__law_is_name (by decide) fun f cdv A outer s H E hr => have nd := sc__law_is_name.nd
    by exact dss_cons (by exact ds_if (by exact tW (dw_or (by exact dt_not (by exact tTr (by exact xBi "isinstance" call_isiA (isi_g kitD_ok) T.f_isinstance (by decide +kernel) (xc (by exact xv 0) (xc (by exact xty "str" T.f_str (by decide +kernel)) da_nil))))) (dw_or (by exact tCmp cGt (by exact xBi "len" call_len len_g T.f_len (by decide +kernel) (xc (by exact xv 0) da_nil)) (by exact de_int)) (dw_or1 (by exact tCmp (cNotIn hr) (by exact de_sl (by exact xv 0) do_none (do_some (by exact de_int))) (by exact xTy "list" (call_listA rfl) listA_g T.f_list (by decide +kernel) (xc (by exact de_str) da_nil))))))) (by exact dss_one (by exact ds_ret (by exact de_bl))) (by exact dss_nil)) (dss_one (by exact ds_ret (by exact xCmp (cEq hr) (by exact xLc [("_law_sign", 1)] nd good_set (by exact di_seq (by exact xv 0)) (fun _ _ _ _ _ => (gN nd 1)) (fun _ _ _ _ _ => dts_one (by exact tCmp (cNotIn hr) (by exact xv 1) (by exact de_str))) (fun _ _ _ _ _ => by exact xv 1)) (by exact de_lst da_nil))))

/-! ### _law_is_cell -/
theorem sc__law_is_cell : FnScope ["_law_value_here", "_law_name_here", "_law_at"] ["_law_value_here"] (defScope (Hd.top 27)) := ⟨rfl, rfl, rfl, by decide +kernel, rfl, by decide +kernel, by decide +kernel⟩
def g__law_is_cell : FS := (sSeq (sIf (tOr' (tNot' (tTru ((eN (dIsi kitD) (aCons (eVar 0) (aCons ((eTup (aCons ((eC (.opq (.ty "list")))) (aCons ((eC (.opq (.ty "tuple")))) aNil)))) aNil)))))) (tBl (e2 (dEq true) ((eLc (iSeq (eVar 0)) (gSet 1) (tNot' (tTru ((eCall 1 F__law_is_name (aCons (eVar 1) aNil))))) (eVar 1) [1])) ((eLst aNil))))) (sRet ((eC (.bl false)))) sNext) (sRet ((e2 (dEq false) ((eLc (iRng2 (aCons ((eC (.int 1))) (aCons ((eN dLen (aCons (eVar 0) aNil))) aNil))) (gSet 2) (tBl (e2 dGe ((e2 dIdx (eVar 0) ((e2 dSub (eVar 2) ((eC (.int 1))))))) ((e2 dIdx (eVar 0) (eVar 2))))) (eVar 2) [2])) ((eLst aNil))))))
def F__law_is_cell : FF := runF 2 g__law_is_cell
theorem dk__law_is_cell (T : Tx w K mg) (D__law_is_name : Dok P w K mg base 2 "_law_is_name" (Hd.top 26) ["_law_value_here"] F__law_is_name) (h : ∃ f fd, Fun K "_law_is_cell" "_law_is_cell" (Hd.top 27) f fd ∧ mg "_law_is_cell" = some (.ref f)) : Dok P w K mg base 3 "_law_is_cell" (Hd.top 27) ["_law_value_here"] F__law_is_cell :=
  dok_of h sc__law_is_cell (by decide) fun f cdv A outer s H E hr => have nd := sc__law_is_cell.nd
    by exact dss_cons (by exact ds_if (by exact tW (dw_or (by exact dt_not (by exact tTr (by exact xBi "isinstance" call_isiA (isi_g kitD_ok) T.f_isinstance (by decide +kernel) (xc (by exact xv 0) (xc (by exact de_tup (xc (by exact xty "list" T.f_list (by decide +kernel)) (xc (by exact xty "tuple" T.f_tuple (by decide +kernel)) da_nil))) da_nil))))) (dw_or1 (by exact tCmp (cNe hr) (by exact xLc [("_law_name_here", 1)] nd good_set (by exact di_seq (by exact xv 0)) (fun _ _ _ _ _ => (gN nd 1)) (fun _ _ _ _ _ => dts_one (by exact dt_not (by exact tTr (by exact xCall D__law_is_name (fun _ _ _ _ _ _ us hl => match us, hl with | [_], _ => rfl) (LamX.takes0) (hr.mono (by decide)) (xc (by exact xv 1) da_nil))))) (fun _ _ _ _ _ => by exact xv 1)) (by exact de_lst da_nil))))) (by exact dss_one (by exact ds_ret (by exact de_bl))) (by exact dss_nil)) (dss_one (by exact ds_ret (by exact xCmp (cEq hr) (by exact xLc [("_law_at", 2)] nd good_set (by exact iR2 T.f_range (xc (by exact de_int) (xc (by exact xBi "len" call_len len_g T.f_len (by decide +kernel) (xc (by exact xv 0) da_nil)) da_nil))) (fun _ _ _ _ _ => (gN nd 2)) (fun _ _ _ _ _ => dts_one (by exact tCmp cGe (by exact xIx (by exact xv 0) (by exact xSub (by exact xv 2) (by exact de_int))) (by exact xIx (by exact xv 0) (by exact xv 2)))) (fun _ _ _ _ _ => by exact xv 2)) (by exact de_lst da_nil))))

/-! ### _law_value_right -/
theorem sc__law_value_right : FnScope ["_law_value_here", "_law_least", "_law_most", "_law_plain", "_law_within", "_law_due", "_law_told", "_law_one", "_law_text"] ["_law_value_here", "_law_least", "_law_most"] (defScope (Hd.top 28)) := ⟨rfl, rfl, rfl, by decide +kernel, rfl, by decide +kernel, by decide +kernel⟩
def g__law_value_right : FS := (sSeq (sSet 3 ((eCall 1 F__law_is_plain (aCons (eVar 0) aNil)))) (sSeq (sSet 4 ((eAnd (eVar 3) ((eAnd ((eOr ((e2 (dIsN false) (eVar 1) ((eC .non)))) ((e2 dGe (eVar 0) (eVar 1))))) ((eOr ((e2 (dIsN false) (eVar 2) ((eC .non)))) ((e2 dLe (eVar 0) (eVar 2)))))))))) (sSeq (sSet 5 ((eLst (aCons (eVar 3) (aCons (eVar 4) (aCons (eVar 4) (aCons ((eCall 1 F__law_is_name (aCons (eVar 0) aNil))) (aCons ((eCall 1 F__law_is_cell (aCons (eVar 0) aNil))) aNil)))))))) (sSeq (sSet 6 ((eLst (aCons ((eCallK 1 1 [0] F_is_integer (aCons (eVar 0) aNil))) (aCons ((eCall 3 F_is_within (aCons (eVar 0) (aCons (eVar 1) (aCons (eVar 2) aNil))))) (aCons ((eCallK 3 3 [2, 1, 0] F_is_within (aCons (eVar 2) (aCons (eVar 1) (aCons (eVar 0) aNil))))) aNil)))))) (sSeq (sSet 6 ((e2 dAdd (eVar 6) ((eLst (aCons ((eCallK 1 1 [0] F_is_name (aCons (eVar 0) aNil))) (aCons ((eCallK 1 1 [0] F_is_cell (aCons (eVar 0) aNil))) aNil))))))) (sSeq (sIf (tOr' (tBl (e2 (dEq true) (eVar 6) (eVar 5))) (tOr' (tBl (e2 (dEq true) ((eLc (iSeq (eVar 6)) (gSet 7) (tNot' (tTru ((eN (dIsi kitD) (aCons (eVar 7) (aCons ((eC (.opq (.ty "bool")))) aNil)))))) (eVar 7) [7])) ((eLst aNil)))) (tBl (e2 (dEq true) ((eCall 1 F_is_integer (aCons (eVar 0) aNil))) (eVar 3))))) (sRet ((eC (.bl false)))) sNext) (sSeq (sIf (tNot' (tTru ((eCall 1 F__law_is_cell (aCons (eVar 0) aNil))))) (sRet ((eC (.bl true)))) sNext) (sSeq (sSet 8 ((eIf ((tBl (e2 (dEq false) ((eN dLen (aCons (eVar 0) aNil))) ((eC (.int 0)))))) ((eC (.str "-"))) ((eS1 dJoin ((eC (.str "+"))) (eVar 0)))))) (sRet ((eAnd ((e2 (dEq false) ((eCallK 1 1 [0] F_cell_key (aCons (eVar 0) aNil))) ((eTup (aCons ((eN dLen (aCons (eVar 0) aNil))) (aCons ((eN dTuple (aCons (eVar 0) aNil))) aNil)))))) ((eAnd ((e2 (dEq false) ((eCallK 1 1 [0] F_cell_text (aCons (eVar 0) aNil))) (eVar 8))) ((e2 (dEq false) ((eCall 1 F_cell_text (aCons ((eN dTuple (aCons (eVar 0) aNil))) aNil))) (eVar 8))))))))))))))))
def F__law_value_right : FF := runF 6 g__law_value_right
theorem dk__law_value_right (T : Tx w K mg) (D__law_is_cell : Dok P w K mg base 3 "_law_is_cell" (Hd.top 27) ["_law_value_here"] F__law_is_cell) (D__law_is_name : Dok P w K mg base 2 "_law_is_name" (Hd.top 26) ["_law_value_here"] F__law_is_name) (D__law_is_plain : Dok P w K mg base 2 "_law_is_plain" (Hd.top 25) ["_law_value_here"] F__law_is_plain) (D_cell_key : Dok P w K mg base 2 "cell_key" (Hd.top 17) ["cell"] F_cell_key) (D_cell_text : Dok P w K mg base 2 "cell_text" (Hd.top 18) ["cell"] F_cell_text) (D_is_cell : Dok P w K mg base 3 "is_cell" (Hd.top 12) ["value"] F_is_cell) (D_is_integer : Dok P w K mg base 2 "is_integer" (Hd.top 9) ["value"] F_is_integer) (D_is_name : Dok P w K mg base 2 "is_name" (Hd.top 11) ["value"] F_is_name) (D_is_within : Dok P w K mg base 3 "is_within" (Hd.top 10) ["value", "least", "most"] F_is_within) (h : ∃ f fd, Fun K "_law_value_right" "_law_value_right" (Hd.top 28) f fd ∧ mg "_law_value_right" = some (.ref f)) : Dok P w K mg base 4 "_law_value_right" (Hd.top 28) ["_law_value_here", "_law_least", "_law_most"] F__law_value_right :=
  dok_of h sc__law_value_right (by decide) fun f cdv A outer s H E hr => have nd := sc__law_value_right.nd
    by exact dss_cons (by exact yS nd 3 (by exact xCall D__law_is_plain (fun _ _ _ _ _ _ us hl => match us, hl with | [_], _ => rfl) (takes_of rfl rfl rfl rfl) (hr.mono (by decide)) (xc (by exact xv 0) da_nil))) (dss_cons (by exact yS nd 4 (by exact de_and (by exact xv 3) (de_and (by exact de_or (by exact xCmp cIs (by exact xv 1) (by exact de_non)) (de_one (by exact xCmp cGe (by exact xv 0) (by exact xv 1)))) (de_one (by exact de_or (by exact xCmp cIs (by exact xv 2) (by exact de_non)) (de_one (by exact xCmp cLe (by exact xv 0) (by exact xv 2)))))))) (dss_cons (by exact yS nd 5 (by exact de_lst (xc (by exact xv 3) (xc (by exact xv 4) (xc (by exact xv 4) (xc (by exact xCall D__law_is_name (fun _ _ _ _ _ _ us hl => match us, hl with | [_], _ => rfl) (takes_of rfl rfl rfl rfl) (hr.mono (by decide)) (xc (by exact xv 0) da_nil)) (xc (by exact xCall D__law_is_cell (fun _ _ _ _ _ _ us hl => match us, hl with | [_], _ => rfl) (takes_of rfl rfl rfl rfl) (hr.mono (by decide)) (xc (by exact xv 0) da_nil)) da_nil))))))) (dss_cons (by exact yS nd 6 (by exact de_lst (xc (by exact xCallK D_is_integer 1 [0] (fun _ _ _ _ _ _ ws hl => match ws, hl with | [_], _ => rfl) (takes_of rfl rfl rfl rfl) (hr.mono (by decide)) (dk_cons (by exact xv 0) dk_nil)) (xc (by exact xCall D_is_within (fun _ _ _ _ _ _ us hl => match us, hl with | [_, _, _], _ => rfl) (takes_of rfl rfl rfl rfl) (hr.mono (by decide)) (xc (by exact xv 0) (xc (by exact xv 1) (xc (by exact xv 2) da_nil)))) (xc (by exact xCallK D_is_within 3 [2, 1, 0] (fun _ _ _ _ _ _ ws hl => match ws, hl with | [_, _, _], _ => rfl) (takes_of rfl rfl rfl rfl) (hr.mono (by decide)) (dk_cons (by exact xv 2) (dk_cons (by exact xv 1) (dk_cons (by exact xv 0) dk_nil)))) da_nil))))) (dss_cons (by exact yS nd 6 (by exact xAdd (by exact xv 6) (by exact de_lst (xc (by exact xCallK D_is_name 1 [0] (fun _ _ _ _ _ _ ws hl => match ws, hl with | [_], _ => rfl) (takes_of rfl rfl rfl rfl) (hr.mono (by decide)) (dk_cons (by exact xv 0) dk_nil)) (xc (by exact xCallK D_is_cell 1 [0] (fun _ _ _ _ _ _ ws hl => match ws, hl with | [_], _ => rfl) (takes_of rfl rfl rfl rfl) (hr.mono (by decide)) (dk_cons (by exact xv 0) dk_nil)) da_nil))))) (dss_cons (by exact ds_if (by exact tW (dw_or (by exact tCmp (cNe hr) (by exact xv 6) (by exact xv 5)) (dw_or (by exact tCmp (cNe hr) (by exact xLc [("_law_one", 7)] nd good_set (by exact di_seq (by exact xv 6)) (fun _ _ _ _ _ => (gN nd 7)) (fun _ _ _ _ _ => dts_one (by exact dt_not (by exact tTr (by exact xBi "isinstance" call_isiA (isi_g kitD_ok) T.f_isinstance (by decide +kernel) (xc (by exact xv 7) (xc (by exact xty "bool" T.f_bool (by decide +kernel)) da_nil)))))) (fun _ _ _ _ _ => by exact xv 7)) (by exact de_lst da_nil)) (dw_or1 (by exact tCmp (cNe hr) (by exact xCall D_is_integer (fun _ _ _ _ _ _ us hl => match us, hl with | [_], _ => rfl) (takes_of rfl rfl rfl rfl) (hr.mono (by decide)) (xc (by exact xv 0) da_nil)) (by exact xv 3)))))) (by exact dss_one (by exact ds_ret (by exact de_bl))) (by exact dss_nil)) (dss_cons (by exact ds_if (by exact dt_not (by exact tTr (by exact xCall D__law_is_cell (fun _ _ _ _ _ _ us hl => match us, hl with | [_], _ => rfl) (takes_of rfl rfl rfl rfl) (hr.mono (by decide)) (xc (by exact xv 0) da_nil)))) (by exact dss_one (by exact ds_ret (by exact de_bl))) (by exact dss_nil)) (dss_cons (by exact yS nd 8 (by exact de_if (by exact tCmp (cEq hr) (by exact xBi "len" call_len len_g T.f_len (by decide +kernel) (xc (by exact xv 0) da_nil)) (by exact de_int)) (by exact de_str) (by exact xJoin (by exact de_str) (by exact xv 0)))) (dss_one (by exact ds_ret (by exact de_and (by exact xCmp (cEq hr) (by exact xCallK D_cell_key 1 [0] (fun _ _ _ _ _ _ ws hl => match ws, hl with | [_], _ => rfl) (takes_of rfl rfl rfl rfl) (hr.mono (by decide)) (dk_cons (by exact xv 0) dk_nil)) (by exact de_tup (xc (by exact xBi "len" call_len len_g T.f_len (by decide +kernel) (xc (by exact xv 0) da_nil)) (xc (by exact xTy "tuple" call_tuple_of tuple_g T.f_tuple (by decide +kernel) (xc (by exact xv 0) da_nil)) da_nil)))) (de_and (by exact xCmp (cEq hr) (by exact xCallK D_cell_text 1 [0] (fun _ _ _ _ _ _ ws hl => match ws, hl with | [_], _ => rfl) (takes_of rfl rfl rfl rfl) (hr.mono (by decide)) (dk_cons (by exact xv 0) dk_nil)) (by exact xv 8)) (de_one (by exact xCmp (cEq hr) (by exact xCall D_cell_text (fun _ _ _ _ _ _ us hl => match us, hl with | [_], _ => rfl) (takes_of rfl rfl rfl rfl) (hr.mono (by decide)) (xc (by exact xTy "tuple" call_tuple_of tuple_g T.f_tuple (by decide +kernel) (xc (by exact xv 0) da_nil)) da_nil)) (by exact xv 8))))))))))))))

/-! ### _law_words_right -/
theorem sc__law_words_right : FnScope ["_law_store_here", "_law_deep", "_law_rim", "_law_word", "_law_one", "_law_odd"] ["_law_store_here"] (defScope (Hd.top 30)) := ⟨rfl, rfl, rfl, by decide +kernel, rfl, by decide +kernel, by decide +kernel⟩
def g__law_words_right : FS := (sSeq (sPar [1, 2] (aCons ((eLst (aCons ((eC (.str "deep"))) (aCons ((eC (.str "holdsdeep"))) aNil)))) (aCons ((eLst (aCons ((eC (.str "rim"))) (aCons ((eC (.str "holdsrim"))) aNil)))) aNil))) (sSeq (sIf (tBl (e2 (dEqK kn true) ((eC (.opq (.ref A_WORDS)))) ((eTup (aCons ((eC (.str "apart"))) (aCons ((eC (.str "meets"))) (aCons ((eC (.str "overlaps"))) (aCons ((eC (.str "same"))) (aCons ((eC (.str "deep"))) (aCons ((eC (.str "rim"))) (aCons ((eC (.str "holdsdeep"))) (aCons ((eC (.str "holdsrim"))) aNil)))))))))))) (sRet ((eC (.bl false)))) sNext) (sSeq (sFor (iSeq ((eTup (aCons ((eC (.str "apart"))) (aCons ((eC (.str "meets"))) (aCons ((eC (.str "overlaps"))) (aCons ((eC (.str "same"))) aNil))))))) (gSet 3) (sIf (tBl (e2 (dEq true) ((eCall 1 F_turned_word (aCons (eVar 3) aNil))) (eVar 3))) (sRet ((eC (.bl false)))) sNext)) (sSeq (sIf (tBl (e2 (dEq true) ((eLc (iSeq ((e2 dAdd (eVar 1) (eVar 2)))) (gSet 4) (ret' true) ((eCallK 1 1 [0] F_turned_word (aCons (eVar 4) aNil))) [4])) ((e2 dAdd ((e1 dRev (eVar 1))) ((e1 dRev (eVar 2))))))) (sRet ((eC (.bl false)))) sNext) (sSeq (sSet 5 ((e2 dIdx ((eLst (aCons ((eC .non)) (aCons ((eC (.str "near"))) (aCons ((eC (.str ""))) (aCons ((eC (.str "Deep"))) (aCons ((eC (.str "holds deep"))) (aCons ((eC (.int 5))) (aCons ((eLst (aCons ((eC (.str "deep"))) aNil))) (aCons ((eTup (aCons ((eC (.str "meets"))) aNil))) (aCons ((eC (.bl true))) (aCons ((eC (.str "deep "))) aNil)))))))))))) ((eCall 2 F__law_next (aCons (eVar 0) (aCons ((eC (.int 10))) aNil))))))) (sRet ((e2 (dEq false) ((eHeard hokH (herH A_BadWord) ((eCall 1 F_turned_word (aCons (eVar 5) aNil))))) ((eTup (aCons ((eC (.str "word"))) aNil)))))))))))
def F__law_words_right : FF := runF 5 g__law_words_right
theorem dk__law_words_right (T : Tx w K mg) (D__law_next : Dok P w K mg base 2 "_law_next" (Hd.top 21) ["_law_store_here", "_law_many"] F__law_next) (D_turned_word : Dok P w K mg base 4 "turned_word" (Hd.top 15) ["word"] F_turned_word) (HH : Hrd P w K mg base "_law_words_right" "_law_heard" "_law_ask" (Hd.top 29) ["_law_ask", "error"] okH (erH K A_BadWord A_WordsError) hokH (herH A_BadWord)) (h : ∃ f fd, Fun K "_law_words_right" "_law_words_right" (Hd.top 30) f fd ∧ mg "_law_words_right" = some (.ref f) ∧ f = He.ga K "_law_words_right") : Dok P w K mg base 7 "_law_words_right" (Hd.top 30) ["_law_store_here"] F__law_words_right :=
  dok_ofC h sc__law_words_right fun f cdv A outer s H E ecd hr => have nd := sc__law_words_right.nd
    by exact dss_cons (by exact yPar2 nd 1 2 (xc (by exact de_lst (xc (by exact de_str) (xc (by exact de_str) da_nil))) (xc (by exact de_lst (xc (by exact de_str) (xc (by exact de_str) da_nil))) da_nil))) (dss_cons (by exact ds_if (by exact tCmp (cNeK T.kn hr) (by exact xgr T.WORDS) (by exact de_tup (xc (by exact de_str) (xc (by exact de_str) (xc (by exact de_str) (xc (by exact de_str) (xc (by exact de_str) (xc (by exact de_str) (xc (by exact de_str) (xc (by exact de_str) da_nil)))))))))) (by exact dss_one (by exact ds_ret (by exact de_bl))) (by exact dss_nil)) (dss_cons (by exact yFor (by exact di_seq (by exact de_tup (xc (by exact de_str) (xc (by exact de_str) (xc (by exact de_str) (xc (by exact de_str) da_nil)))))) (gN nd 3) (by exact dss_one (by exact ds_if (by exact tCmp (cNe hr) (by exact xCall D_turned_word (fun _ _ _ _ _ _ us hl => match us, hl with | [_], _ => rfl) (takes_of rfl rfl rfl rfl) (hr.mono (by decide)) (xc (by exact xv 3) da_nil)) (by exact xv 3)) (by exact dss_one (by exact ds_ret (by exact de_bl))) (by exact dss_nil)))) (dss_cons (by exact ds_if (by exact tCmp (cNe hr) (by exact xLc [("_law_one", 4)] nd good_set (by exact di_seq (by exact xAdd (by exact xv 1) (by exact xv 2))) (fun _ _ _ _ _ => (gN nd 4)) (fun _ _ _ _ _ => dts_nil) (fun _ _ _ _ _ => by exact xCallK D_turned_word 1 [0] (fun _ _ _ _ _ _ ws hl => match ws, hl with | [_], _ => rfl) (LamX.takes0) (hr.mono (by decide)) (dk_cons (by exact xv 4) dk_nil))) (by exact xAdd (by exact de_rev (by exact xv 1)) (by exact de_rev (by exact xv 2)))) (by exact dss_one (by exact ds_ret (by exact de_bl))) (by exact dss_nil)) (dss_cons (by exact yS nd 5 (by exact xIx (by exact de_lst (xc (by exact de_non) (xc (by exact de_str) (xc (by exact de_str) (xc (by exact de_str) (xc (by exact de_str) (xc (by exact de_int) (xc (by exact de_lst (xc (by exact de_str) da_nil)) (xc (by exact de_tup (xc (by exact de_str) da_nil)) (xc (by exact de_bl) (xc (by exact de_str) da_nil))))))))))) (by exact xCall D__law_next (fun _ _ _ _ _ _ us hl => match us, hl with | [_, _], _ => rfl) (takes_of rfl rfl rfl rfl) (hr.mono (by decide)) (xc (by exact xv 0) (xc (by exact de_int) da_nil))))) (dss_one (by exact ds_ret (by exact xCmp (cEq hr) (by exact xHeard (k := 4) HH ecd (hr.mono (by decide)) (fun _ _ _ _ _ _ _ hr => by exact xCall D_turned_word (fun _ _ _ _ _ _ us hl => match us, hl with | [_], _ => rfl) (takes_of rfl rfl rfl rfl) (hr.mono (by decide)) (xc (by exact xv 5) da_nil))) (by exact de_tup (xc (by exact de_str) da_nil)))))))))

/-! ### law -/
theorem sc_law : FnScope ["_law_script", "_law_store_here", "_law_turn", "_law_least", "_law_most", "_law_some", "_law_row", "_law_at", "_law_again", "_law_one", "_law_cells", "_law_left", "_law_mixed"] ["_law_script"] (defScope (Hd.top 31)) := ⟨rfl, rfl, rfl, by decide +kernel, rfl, by decide +kernel, by decide +kernel⟩
def g_law : FS := (sSeq (sSet 1 ((eCall 1 F__law_store (aCons (eVar 0) aNil)))) (sSeq (sFor (iRng1 (aCons ((eC (.int 12))) aNil)) (gSet 2) (sSeq (sSet 3 ((e2 dIdx ((eLst (aCons ((eC .non)) (aCons ((eC (.int 0))) (aCons ((e2 dSub ((eCall 2 F__law_next (aCons (eVar 1) (aCons ((eC (.int 9))) aNil)))) ((eC (.int 4))))) (aCons ((e1 dNeg ((e2 dPow ((eC (.int 10))) ((eC (.int 20))))))) aNil)))))) ((eCall 2 F__law_next (aCons (eVar 1) (aCons ((eC (.int 4))) aNil))))))) (sSeq (sSet 4 ((e2 dIdx ((eLst (aCons ((eC .non)) (aCons ((eC (.int 4))) (aCons ((e2 dSub ((eCall 2 F__law_next (aCons (eVar 1) (aCons ((eC (.int 9))) aNil)))) ((eC (.int 4))))) (aCons ((e2 dPow ((eC (.int 10))) ((eC (.int 20))))) aNil)))))) ((eCall 2 F__law_next (aCons (eVar 1) (aCons ((eC (.int 4))) aNil))))))) (sIf (tNot' (tTru ((eCall 3 F__law_value_right (aCons ((eCall 1 F__law_value (aCons (eVar 1) aNil))) (aCons (eVar 3) (aCons (eVar 4) aNil))))))) (sRet ((eC (.bl false)))) sNext)))) (sSeq (sSet 5 ((e2 dIdx ((eLst (aCons ((eLst (aCons ((eC (.int 0))) (aCons ((eC (.int 1))) (aCons ((e1 dNeg ((eC (.int 2))))) (aCons ((eC (.int 3))) aNil)))))) (aCons ((eLst (aCons ((eC (.str "a"))) (aCons ((eC (.str "b"))) (aCons ((eC (.str "a1"))) aNil))))) (aCons ((eLst (aCons ((eTup (aCons ((eC (.str "a"))) aNil))) (aCons ((eTup (aCons ((eC (.str "b"))) (aCons ((eC (.str "a"))) aNil)))) (aCons ((eTup aNil)) (aCons ((eTup (aCons ((eC (.str "a"))) (aCons ((eC (.str "b"))) aNil)))) aNil)))))) aNil))))) ((eCall 2 F__law_next (aCons (eVar 1) (aCons ((eC (.int 3))) aNil))))))) (sSeq (sSet 6 ((eLc (iRng1 (aCons ((eCall 2 F__law_next (aCons (eVar 1) (aCons ((eC (.int 6))) aNil)))) aNil)) (gSet 7) (ret' true) ((e2 dIdx (eVar 5) ((eCall 2 F__law_next (aCons (eVar 1) (aCons ((eN dLen (aCons (eVar 5) aNil))) aNil)))))) [7]))) (sSeq (sSet 8 ((eLc (iEnumD (aCons (eVar 6) aNil)) (gTupD 2 (gsCons (gSet 7) (gsCons (gSet 9) gsNil))) (tBl (e2 (dIn false) (eVar 9) ((eSl (eVar 6) oNone (oSome (eVar 7)))))) (eVar 9) [7, 9]))) (sSeq (sIf (tOr' (tBl (e2 (dEq true) ((eCallK 1 1 [0] F_ft (aCons (eVar 6) aNil))) ((eIf ((tBl (e2 (dEq true) (eVar 8) ((eLst aNil))))) ((e2 dIdx (eVar 8) ((eC (.int 0))))) ((eC .non)))))) (tOr' (tBl (e2 (dIsN true) ((eCall 1 F_ft (aCons (eVar 5) aNil))) ((eC .non)))) (tBl (e2 (dIsN true) ((eCall 1 F_ft (aCons ((eTup aNil)) aNil))) ((eC .non)))))) (sRet ((eC (.bl false)))) sNext) (sSeq (sSet 10 ((eLst (aCons ((eTup aNil)) (aCons ((eTup (aCons ((eC (.str "a"))) aNil))) (aCons ((eTup (aCons ((eC (.str "b"))) aNil))) (aCons ((eTup (aCons ((eC (.str "z9"))) aNil))) (aCons ((eTup (aCons ((eC (.str "a"))) (aCons ((eC (.str "b"))) aNil)))) (aCons ((eTup (aCons ((eC (.str "a"))) (aCons ((eC (.str "z9"))) aNil)))) (aCons ((eTup (aCons ((eC (.str "b"))) (aCons ((eC (.str "c"))) aNil)))) (aCons ((eTup (aCons ((eC (.str "a"))) (aCons ((eC (.str "b"))) (aCons ((eC (.str "c"))) aNil))))) aNil))))))))))) (sSeq (sPar2F 11 12 ((eN dListA (aCons (eVar 10) aNil))) ((eLst aNil))) (sSeq (sFor (iRng1 (aCons ((eN dLen (aCons (eVar 10) aNil))) aNil)) (gSet 2) (sExpr ((eMut 12 mAppend (aCons ((eMut 11 mPop (aCons ((eCall 2 F__law_next (aCons (eVar 1) (aCons ((eN dLen (aCons (eVar 11) aNil))) aNil)))) aNil))) aNil))))) (sRet ((eAnd ((e2 (dEq false) ((eN dSortCk (aCons (eVar 12) aNil))) (eVar 10))) ((eCall 1 F__law_words_right (aCons (eVar 1) aNil)))))))))))))))
def F_law : FF := runF 12 g_law
theorem dk_law (T : Tx w K mg) (D__law_next : Dok P w K mg base 2 "_law_next" (Hd.top 21) ["_law_store_here", "_law_many"] F__law_next) (D__law_store : Dok P w K mg base 2 "_law_store" (Hd.top 20) ["_law_script"] F__law_store) (D__law_value : Dok P w K mg base 4 "_law_value" (Hd.top 24) ["_law_store_here"] F__law_value) (D__law_value_right : Dok P w K mg base 4 "_law_value_right" (Hd.top 28) ["_law_value_here", "_law_least", "_law_most"] F__law_value_right) (D__law_words_right : Dok P w K mg base 7 "_law_words_right" (Hd.top 30) ["_law_store_here"] F__law_words_right) (D_first_twice : Dok P w K mg base 1 "first_twice" (Hd.top 16) ["values"] F_ft) (hCK : ∃ f fd, Fun K "cell_key" "cell_key" stCk f fd ∧ mg "cell_key" = some (.ref f)) (h : ∃ f fd, Fun K "law" "law" (Hd.top 31) f fd ∧ mg "law" = some (.ref f)) : Dok P w K mg base 8 "law" (Hd.top 31) ["_law_script"] F_law :=
  by
  obtain ⟨fck, fdck, FCK, mCK⟩ := hCK
  exact dok_of h sc_law (by decide) fun f cdv A outer s H E hr => have nd := sc_law.nd
    by exact dss_cons (by exact yS nd 1 (by exact xCall D__law_store (fun _ _ _ _ _ _ us hl => match us, hl with | [_], _ => rfl) (takes_of rfl rfl rfl rfl) (hr.mono (by decide)) (xc (by exact xv 0) da_nil))) (dss_cons (by exact yFor (by exact iR1 T.f_range (xc (by exact de_int) da_nil)) (gN nd 2) (by exact dss_cons (by exact yS nd 3 (by exact xIx (by exact de_lst (xc (by exact de_non) (xc (by exact de_int) (xc (by exact xSub (by exact xCall D__law_next (fun _ _ _ _ _ _ us hl => match us, hl with | [_, _], _ => rfl) (takes_of rfl rfl rfl rfl) (hr.mono (by decide)) (xc (by exact xv 1) (xc (by exact de_int) da_nil))) (by exact de_int)) (xc (by exact xNeg (by exact xPow (by exact de_int) (by exact de_int))) da_nil))))) (by exact xCall D__law_next (fun _ _ _ _ _ _ us hl => match us, hl with | [_, _], _ => rfl) (takes_of rfl rfl rfl rfl) (hr.mono (by decide)) (xc (by exact xv 1) (xc (by exact de_int) da_nil))))) (dss_cons (by exact yS nd 4 (by exact xIx (by exact de_lst (xc (by exact de_non) (xc (by exact de_int) (xc (by exact xSub (by exact xCall D__law_next (fun _ _ _ _ _ _ us hl => match us, hl with | [_, _], _ => rfl) (takes_of rfl rfl rfl rfl) (hr.mono (by decide)) (xc (by exact xv 1) (xc (by exact de_int) da_nil))) (by exact de_int)) (xc (by exact xPow (by exact de_int) (by exact de_int)) da_nil))))) (by exact xCall D__law_next (fun _ _ _ _ _ _ us hl => match us, hl with | [_, _], _ => rfl) (takes_of rfl rfl rfl rfl) (hr.mono (by decide)) (xc (by exact xv 1) (xc (by exact de_int) da_nil))))) (dss_one (by exact ds_if (by exact dt_not (by exact tTr (by exact xCall D__law_value_right (fun _ _ _ _ _ _ us hl => match us, hl with | [_, _, _], _ => rfl) (takes_of rfl rfl rfl rfl) (hr.mono (by decide)) (xc (by exact xCall D__law_value (fun _ _ _ _ _ _ us hl => match us, hl with | [_], _ => rfl) (takes_of rfl rfl rfl rfl) (hr.mono (by decide)) (xc (by exact xv 1) da_nil)) (xc (by exact xv 3) (xc (by exact xv 4) da_nil)))))) (by exact dss_one (by exact ds_ret (by exact de_bl))) (by exact dss_nil)))))) (dss_cons (by exact yS nd 5 (by exact xIx (by exact de_lst (xc (by exact de_lst (xc (by exact de_int) (xc (by exact de_int) (xc (by exact xNeg (by exact de_int)) (xc (by exact de_int) da_nil))))) (xc (by exact de_lst (xc (by exact de_str) (xc (by exact de_str) (xc (by exact de_str) da_nil)))) (xc (by exact de_lst (xc (by exact de_tup (xc (by exact de_str) da_nil)) (xc (by exact de_tup (xc (by exact de_str) (xc (by exact de_str) da_nil))) (xc (by exact de_tup da_nil) (xc (by exact de_tup (xc (by exact de_str) (xc (by exact de_str) da_nil))) da_nil))))) da_nil)))) (by exact xCall D__law_next (fun _ _ _ _ _ _ us hl => match us, hl with | [_, _], _ => rfl) (takes_of rfl rfl rfl rfl) (hr.mono (by decide)) (xc (by exact xv 1) (xc (by exact de_int) da_nil))))) (dss_cons (by exact yS nd 6 (by exact xLc [("_law_at", 7)] nd good_set (by exact iR1 T.f_range (xc (by exact xCall D__law_next (fun _ _ _ _ _ _ us hl => match us, hl with | [_, _], _ => rfl) (takes_of rfl rfl rfl rfl) (hr.mono (by decide)) (xc (by exact xv 1) (xc (by exact de_int) da_nil))) da_nil)) (fun _ _ _ _ _ => (gN nd 7)) (fun _ _ _ _ _ => dts_nil) (fun _ _ _ _ _ => by exact xIx (by exact xv 5) (by exact xCall D__law_next (fun _ _ _ _ _ _ us hl => match us, hl with | [_, _], _ => rfl) (LamX.takes0) (hr.mono (by decide)) (xc (by exact xv 1) (xc (by exact xBi "len" call_len len_g T.f_len (by decide +kernel) (xc (by exact xv 5) da_nil)) da_nil)))))) (dss_cons (by exact ySLc [("_law_at", 7), ("_law_one", 9)] 8 nd (good_tup (good_cons good_set (good_cons good_set good_nil))) (by exact iEn T.f_enumerate (xc (by exact xv 6) da_nil)) (fun _ _ _ _ _ => (gT 2 (gC (gN nd 7) (gC (gN nd 9) dgs_nil)))) (fun _ _ _ _ _ => dts_one (by exact tCmp (cIn hr) (by exact xv 9) (by exact de_sl (by exact xv 6) do_none (do_some (by exact xv 7))))) (fun _ _ _ _ _ => by exact xv 9)) (dss_cons (by exact ds_if (by exact tW (dw_or (by exact tCmp (cNe hr) (by exact xCallK D_first_twice 1 [0] (fun _ _ _ _ _ _ ws hl => match ws, hl with | [_], _ => rfl) (takes_of rfl rfl rfl rfl) (hr.mono (by decide)) (dk_cons (by exact xv 6) dk_nil)) (by exact de_if (by exact tCmp (cNe hr) (by exact xv 8) (by exact de_lst da_nil)) (by exact xIx (by exact xv 8) (by exact de_int)) (by exact de_non))) (dw_or (by exact tCmp cIsNot (by exact xCall D_first_twice (fun _ _ _ _ _ _ us hl => match us, hl with | [_], _ => rfl) (takes_of rfl rfl rfl rfl) (hr.mono (by decide)) (xc (by exact xv 5) da_nil)) (by exact de_non)) (dw_or1 (by exact tCmp cIsNot (by exact xCall D_first_twice (fun _ _ _ _ _ _ us hl => match us, hl with | [_], _ => rfl) (takes_of rfl rfl rfl rfl) (hr.mono (by decide)) (xc (by exact de_tup da_nil) da_nil)) (by exact de_non)))))) (by exact dss_one (by exact ds_ret (by exact de_bl))) (by exact dss_nil)) (dss_cons (by exact yS nd 10 (by exact de_lst (xc (by exact de_tup da_nil) (xc (by exact de_tup (xc (by exact de_str) da_nil)) (xc (by exact de_tup (xc (by exact de_str) da_nil)) (xc (by exact de_tup (xc (by exact de_str) da_nil)) (xc (by exact de_tup (xc (by exact de_str) (xc (by exact de_str) da_nil))) (xc (by exact de_tup (xc (by exact de_str) (xc (by exact de_str) da_nil))) (xc (by exact de_tup (xc (by exact de_str) (xc (by exact de_str) da_nil))) (xc (by exact de_tup (xc (by exact de_str) (xc (by exact de_str) (xc (by exact de_str) da_nil)))) da_nil)))))))))) (dss_cons (by exact yPar2F nd 11 12 (by exact xTy "list" (call_listA rfl) listA_g T.f_list (by decide +kernel) (xc (by exact xv 10) da_nil)) (by exact de_lst da_nil)) (dss_cons (by exact yFor (by exact iR1 T.f_range (xc (by exact xBi "len" call_len len_g T.f_len (by decide +kernel) (xc (by exact xv 10) da_nil)) da_nil)) (gN nd 2) (by exact dss_one (by exact yE (by exact xApp 12 (by exact xPop 11 (by exact xCall D__law_next (fun _ _ _ _ _ _ us hl => match us, hl with | [_, _], _ => rfl) (takes_of rfl rfl rfl rfl) (hr.mono (by decide)) (xc (by exact xv 1) (xc (by exact xBi "len" call_len len_g T.f_len (by decide +kernel) (xc (by exact xv 11) da_nil)) da_nil)))))))) (dss_one (by exact ds_ret (by exact de_and (by exact xCmp (cEq hr) (by exact xSortCk FCK T.f_sorted T.f_len T.f_tuple mCK (hr.mono (by decide)) (xc (by exact xv 12) da_nil)) (by exact xv 10)) (de_one (by exact xCall D__law_words_right (fun _ _ _ _ _ _ us hl => match us, hl with | [_], _ => rfl) (takes_of rfl rfl rfl rfl) (hr.mono (by decide)) (xc (by exact xv 1) da_nil))))))))))))))
end
end TM
set_option maxRecDepth 100000
set_option maxHeartbeats 4000000
/-! W1: what must hold that a step answers so: rules for a bare simp only -/
namespace TM
open PySem PySem.Spec PyProof.Rows L2
variable [Tbs]
/-! ### the words -/
def wp {α : Type} (f : M α) (δ : Env') (Q : α → Env' → Prop) (E : Exc → Env' → Prop) : Prop := match f δ with
  | .ok a δ' => Q a δ'
  | .err x δ' => E x δ'
  | .bad => False
def wpS (f : FS) (δ : Env') (N : Env' → Prop) (R : RV → Env' → Prop) (B C : Env' → Prop) (E : Exc → Env' → Prop) : Prop := match f δ with
  | .nx δ' => N δ'
  | .rt r δ' => R r δ'
  | .bk δ' => B δ'
  | .ct δ' => C δ'
  | .er x δ' => E x δ'
  | .bad => False
def wpF (r : FR) (K : D → Bool → List AD → Prop) (E : Exc → List AD → Prop) : Prop := match r with
  | .ok d n fin => K d n fin
  | .er x fin => E x fin
  | .bad => False
def opt {α : Type} (o : Option α) (k : α → Prop) : Prop := match o with
  | some a => k a
  | none => False
def opt2 {α β : Type} (o : Option (α × β)) (k : α → β → Prop) : Prop := match o with
  | some (a, b) => k a b
  | none => False
def ask (c A : Prop) : Prop := c ∧ A
def cnd (b : Bool) (A B : Prop) : Prop := match b with
  | true => A
  | false => B
theorem opt_some {α : Type} {a : α} {k : α → Prop} : opt (some a) k ↔ k a := Iff.rfl
theorem opt2_some {α β : Type} {a : α} {b : β} {k : α → β → Prop} : opt2 (some (a, b)) k ↔ k a b := Iff.rfl
theorem opt_none {α : Type} {k : α → Prop} : opt none k ↔ False := Iff.rfl
theorem opt2_none {α β : Type} {k : α → β → Prop} : opt2 none k ↔ False := Iff.rfl
theorem cnd_true {A B : Prop} : cnd true A B ↔ A := Iff.rfl
theorem cnd_false {A B : Prop} : cnd false A B ↔ B := Iff.rfl
theorem ask_true {A : Prop} : ask True A ↔ A := ⟨fun h => h.2, fun h => ⟨trivial, h⟩⟩
theorem opt_ite {α : Type} {c : Prop} [Decidable c] {a : α} {k : α → Prop} : opt (if c then some a else none) k ↔ ask c (k a) := by
  by_cases h : c
  · rw [if_pos h]; exact ⟨fun q => ⟨h, q⟩, fun q => q.2⟩
  · rw [if_neg h]; exact ⟨fun q => q.elim, fun q => h q.1⟩
theorem opt2_ite {α β : Type} {c : Prop} [Decidable c] {a : α} {b : β} {k : α → β → Prop} : opt2 (if c then some (a, b) else none) k ↔ ask c (k a b) := by
  by_cases h : c
  · rw [if_pos h]; exact ⟨fun q => ⟨h, q⟩, fun q => q.2⟩
  · rw [if_neg h]; exact ⟨fun q => q.elim, fun q => h q.1⟩
theorem cnd_split {b : Bool} {A B : Prop} (h : b = true → A) (h2 : b = false → B) : cnd b A B := by
  cases b
  · exact h2 rfl
  · exact h rfl
theorem opt_of {α : Type} {o : Option α} {k : α → Prop} (a : α) (h : o = some a) (q : k a) : opt o k := by rw [h]; exact q
theorem opt2_of {α β : Type} {o : Option (α × β)} {k : α → β → Prop} (a : α) (b : β) (h : o = some (a, b)) (q : k a b) : opt2 o k := by rw [h]; exact q
section
variable {α β : Type} {δ : Env'} {Q : α → Env' → Prop} {N : Env' → Prop} {R : RV → Env' → Prop} {B C : Env' → Prop} {E : Exc → Env' → Prop}
theorem wp_mono {Q' : α → Env' → Prop} {E' : Exc → Env' → Prop} {f : M α} (h : wp f δ Q' E') (m : ∀ a δ', Q' a δ' → Q a δ') (m2 : ∀ x δ', E' x δ' → E x δ') : wp f δ Q E := by
  unfold wp at h ⊢
  split at h
  · exact m _ _ h
  · exact m2 _ _ h
  · exact h.elim
/-- a test or an expression whose answer is said, nothing else is changed -/
theorem wp_is {f : M α} (a : α) (h : wp f δ (fun x δ' => x = a ∧ δ' = δ) fun _ _ => False) (q : Q a δ) : wp f δ Q E :=
  wp_mono h (fun x δ' ⟨e, e2⟩ => by rw [e, e2]; exact q) fun _ _ z => z.elim
theorem wpS_mono {f : FS} {N' R' B' C' E'} (h : wpS f δ N' R' B' C' E') (m : ∀ δ', N' δ' → N δ') (m2 : ∀ r δ', R' r δ' → R r δ') (m3 : ∀ δ', B' δ' → B δ') (m4 : ∀ δ', C' δ' → C δ') (m5 : ∀ x δ', E' x δ' → E x δ') : wpS f δ N R B C E := by
  unfold wpS at h ⊢
  split at h
  · exact m _ h
  · exact m2 _ _ h
  · exact m3 _ h
  · exact m4 _ h
  · exact m5 _ _ h
  · exact h.elim
theorem wpS_cut {f : FS} (N' : Env' → Prop) (h : wpS f δ N' R B C E) (m : ∀ δ', N' δ' → N δ') : wpS f δ N R B C E := wpS_mono h m (fun _ _ h => h) (fun _ h => h) (fun _ h => h) fun _ _ h => h
theorem wp_bnd {f : M β} {g : β → M α} : wp (bnd f g) δ Q E ↔ wp f δ (fun a δ' => wp (g a) δ' Q E) E := by
  unfold wp bnd
  cases f δ <;> rfl
theorem wp_ret {a : α} : wp (ret' a) δ Q E ↔ Q a δ := Iff.rfl
theorem wp_bad : wp (bad' : M α) δ Q E ↔ False := Iff.rfl
theorem wpS_bndS {f : M β} {g : β → FS} : wpS (bndS f g) δ N R B C E ↔ wp f δ (fun a δ' => wpS (g a) δ' N R B C E) E := by
  unfold wpS wp bndS
  cases f δ <;> rfl
theorem wpS_seq {f g : FS} : wpS (sSeq f g) δ N R B C E ↔ wpS f δ (fun δ' => wpS g δ' N R B C E) R B C E := by
  unfold wpS sSeq
  cases f δ <;> rfl
theorem wpS_if {c : FT} {f g : FS} : wpS (sIf c f g) δ N R B C E ↔ wp c δ (fun b δ' => cnd b (wpS f δ' N R B C E) (wpS g δ' N R B C E)) E := by
  unfold sIf
  rw [wpS_bndS]
  constructor <;> intro h <;> refine wp_mono h (fun b δ' h => ?_) (fun _ _ h => h) <;> cases b <;> exact h
theorem wpS_ret {f : FE} : wpS (sRet f) δ N R B C E ↔ wp f δ R E := by
  unfold sRet
  rw [wpS_bndS]
  rfl
theorem wpS_retN : wpS sRetN δ N R B C E ↔ R (.val .non false) δ := Iff.rfl
theorem wpS_nx : wpS sNext δ N R B C E ↔ N δ := Iff.rfl
theorem wpS_expr {f : FE} : wpS (sExpr f) δ N R B C E ↔ wp f δ (fun _ δ' => N δ') E := by
  unfold sExpr
  rw [wpS_bndS]
  rfl
/-- a step out of an optional one -/
theorem wp_opt {β : Type} {o : Option β} {k : β → Res α} {P : Prop} (h : ∀ b, wp (fun _ => k b) δ Q E ↔ wp (fun _ => k b) δ Q E) : True := trivial
theorem wpS_set {i : Nat} {f : FE} : wpS (sSet i f) δ N R B C E ↔ wp f δ (fun r δ1 => opt (storeV i r δ1) N) E := by
  unfold sSet
  rw [wpS_bndS]
  constructor <;> intro h <;> refine wp_mono h (fun r δ1 h => ?_) (fun _ _ h => h) <;> unfold wpS opt at * <;> cases q : storeV i r δ1 <;> simp only [q] at h ⊢ <;> exact h
theorem wpS_asgG {a : FG} {f : FE} : wpS (sAsgG a f) δ N R B C E ↔ wp f δ (fun r δ1 => opt2 (give δ1 r) fun d δ2 => opt (a d δ2) N) E := by
  unfold sAsgG
  rw [wpS_bndS]
  constructor <;> intro h <;> refine wp_mono h (fun r δ1 h => ?_) (fun _ _ h => h) <;> unfold wpS opt opt2 at * <;> rcases q : give δ1 r with _ | ⟨d, δ2⟩ <;> simp only [q] at h ⊢ <;> (try exact h) <;> cases q2 : a d δ2 <;> simp only [q2] at h ⊢ <;> exact h
theorem wpS_par {is : List Nat} {fa : FA} : wpS (sPar is fa) δ N R B C E ↔ wp fa δ (fun rs δ1 => wp (gives rs) δ1 (fun ds δ2 => opt (setShs is ds δ2) N) E) E := by
  unfold sPar
  rw [wpS_bndS]
  constructor <;> intro h <;> refine wp_mono h (fun r δ1 h => ?_) (fun _ _ h => h)
  · rw [wpS_bndS] at h
    refine wp_mono h (fun ds δ2 h => ?_) (fun _ _ h => h)
    unfold wpS opt at *
    cases q : setShs is ds δ2 <;> simp only [q] at h ⊢ <;> exact h
  · rw [wpS_bndS]
    refine wp_mono h (fun ds δ2 h => ?_) (fun _ _ h => h)
    unfold wpS opt at *
    cases q : setShs is ds δ2 <;> simp only [q] at h ⊢ <;> exact h
end
/-! ### expressions -/
section
variable {δ : Env'} {Q : RV → Env' → Prop} {E : Exc → Env' → Prop}
def vK (o : Option SlD) (i : Nat) (k : RV → Prop) : Prop := match o with
  | some (some (.sh, d)) => k (.val d false)
  | some (some (_, _)) => k (.own i)
  | _ => False
theorem vK_sh {d : D} {i : Nat} {k : RV → Prop} : vK (some (some (.sh, d))) i k ↔ k (.val d false) := Iff.rfl
theorem vK_ow {d : D} {i : Nat} {k : RV → Prop} : vK (some (some (.ow, d))) i k ↔ k (.own i) := Iff.rfl
theorem vK_io {d : D} {i : Nat} {k : RV → Prop} : vK (some (some (.io, d))) i k ↔ k (.own i) := Iff.rfl
theorem wp_var {i : Nat} : wp (eVar i) δ Q E ↔ vK δ[i]? i fun r => Q r δ := by
  unfold wp eVar vK
  rcases q : δ[i]? with _ | (_ | ⟨k, d⟩) <;> simp only []
  cases k <;> rfl
theorem wp_C {d : D} : wp (eC d) δ Q E ↔ Q (.val d false) δ := Iff.rfl
theorem wp_fin {o : An} : wp (fin o) δ Q E ↔ opt2 o fun d n => Q (.val d n) δ := by
  rcases o with _ | ⟨d, n⟩ <;> rfl
theorem wp_e2 {g : D → D → An} {fa fb : FE} : wp (e2 g fa fb) δ Q E ↔ wp fa δ (fun ra δ1 => wp fb δ1 (fun rb δ2 => opt (ra.tree δ2) fun x => opt (rb.tree δ2) fun y => opt2 (g x y) fun d n => Q (.val d n) δ2) E) E := by
  unfold e2
  rw [wp_bnd]
  constructor <;> intro h <;> refine wp_mono h (fun ra δ1 h => ?_) (fun _ _ h => h)
  · rw [wp_bnd] at h
    refine wp_mono h (fun rb δ2 h => ?_) (fun _ _ h => h)
    unfold wp opt at *
    cases q1 : ra.tree δ2 <;> simp only [q1] at h ⊢
    cases q2 : rb.tree δ2 <;> simp only [q2] at h ⊢
    exact wp_fin.mp h
  · rw [wp_bnd]
    refine wp_mono h (fun rb δ2 h => ?_) (fun _ _ h => h)
    unfold wp opt at *
    cases q1 : ra.tree δ2 <;> simp only [q1] at h ⊢ <;> (try exact h)
    cases q2 : rb.tree δ2 <;> simp only [q2] at h ⊢ <;> (try exact h)
    exact wp_fin.mpr h
theorem wp_e1 {g : D → An} {fa : FE} : wp (e1 g fa) δ Q E ↔ wp fa δ (fun ra δ1 => opt (ra.tree δ1) fun x => opt2 (g x) fun d n => Q (.val d n) δ1) E := by
  unfold e1
  rw [wp_bnd]
  constructor <;> intro h <;> refine wp_mono h (fun ra δ1 h => ?_) (fun _ _ h => h) <;> unfold wp opt at * <;> cases q1 : ra.tree δ1 <;> simp only [q1] at h ⊢ <;> (try exact h)
  · exact wp_fin.mp h
  · exact wp_fin.mpr h
theorem wp_N {g : List D → An} {fa : FA} : wp (eN g fa) δ Q E ↔ wp fa δ (fun rs δ1 => opt (trees δ1 rs) fun xs => opt2 (g xs) fun d n => Q (.val d n) δ1) E := by
  unfold eN
  rw [wp_bnd]
  constructor <;> intro h <;> refine wp_mono h (fun ra δ1 h => ?_) (fun _ _ h => h) <;> unfold wp opt at * <;> cases q1 : trees δ1 ra <;> simp only [q1] at h ⊢ <;> (try exact h)
  · exact wp_fin.mp h
  · exact wp_fin.mpr h
theorem wp_S1 {g : Str → D → An} {fo fa : FE} : wp (eS1 g fo fa) δ Q E ↔ wp fo δ (fun ro δ1 => opt (ro.tree δ1) fun s => opt (match s with | .str s => some s | _ => none) fun s => wp fa δ1 (fun ra δ2 => opt (ra.tree δ2) fun y => opt2 (g s y) fun d n => Q (.val d n) δ2) E) E := by
  unfold eS1
  rw [wp_bnd]
  have key : ∀ (s : Str) δ1, wp (bnd fa fun ra δ => match ra.tree δ with | some y => fin (g s y) δ | none => .bad) δ1 Q E ↔ wp fa δ1 (fun ra δ2 => opt (ra.tree δ2) fun y => opt2 (g s y) fun d n => Q (.val d n) δ2) E := fun s δ1 => wp_e1
  constructor <;> intro h <;> refine wp_mono h (fun ro δ1 h => ?_) (fun _ _ h => h)
  · unfold wp at h
    cases q1 : ro.tree δ1 with
    | none => simp only [q1] at h
    | some s =>
      cases s with
      | str s => simp only [q1] at h; exact (key s δ1).mp h
      | _ => simp only [q1] at h
  · cases q1 : ro.tree δ1 with
    | none => rw [q1] at h; exact h.elim
    | some s =>
      rw [q1] at h
      cases s with
      | str s =>
        have := (key s δ1).mpr h
        unfold wp at this ⊢
        simp only [q1]
        exact this
      | _ => exact h.elim
theorem wp_nil {Q : List RV → Env' → Prop} : wp aNil δ Q E ↔ Q [] δ := Iff.rfl
theorem wp_cons {f : FE} {g : FA} {Q : List RV → Env' → Prop} : wp (aCons f g) δ Q E ↔ wp f δ (fun r δ1 => wp g δ1 (fun rs δ2 => Q (r :: rs) δ2) E) E := by
  unfold aCons
  rw [wp_bnd]
  constructor <;> intro h <;> refine wp_mono h (fun ra δ1 h => ?_) (fun _ _ h => h)
  · rw [wp_bnd] at h; exact h
  · rw [wp_bnd]; exact h
theorem wp_pair {fk fv : FE} {g : FA} {Q : List RV → Env' → Prop} : wp (aPair fk fv g) δ Q E ↔ wp fk δ (fun rk δ1 => wp fv δ1 (fun rv δ2 => wp g δ2 (fun rs δ3 => Q (rk :: rv :: rs) δ3) E) E) E := by
  unfold aPair
  rw [wp_bnd]
  constructor <;> intro h <;> refine wp_mono h (fun ra δ1 h => ?_) (fun _ _ h => h)
  · rw [wp_bnd] at h
    refine wp_mono h (fun rb δ2 h => ?_) (fun _ _ h => h)
    rw [wp_bnd] at h; exact h
  · rw [wp_bnd]
    refine wp_mono h (fun rb δ2 h => ?_) (fun _ _ h => h)
    rw [wp_bnd]; exact h
theorem wp_gives0 {Q : List D → Env' → Prop} : wp (gives []) δ Q E ↔ Q [] δ := Iff.rfl
theorem wp_gives {r : RV} {rs : List RV} {Q : List D → Env' → Prop} : wp (gives (r :: rs)) δ Q E ↔ opt2 (give δ r) fun d δ1 => wp (gives rs) δ1 (fun ds δ2 => Q (d :: ds) δ2) E := by
  show wp (fun δ => match give δ r with
    | some (d, δ') => bnd (gives rs) (fun ds => ret' (d :: ds)) δ'
    | none => .bad) δ Q E ↔ _
  rcases q : give δ r with _ | ⟨d, δ1⟩
  · unfold wp; simp only [q]; rfl
  · have : wp (bnd (gives rs) (fun ds => ret' (d :: ds))) δ1 Q E ↔ _ := wp_bnd
    rw [opt2_some]
    refine Iff.trans ?_ this
    unfold wp; simp only [q]
theorem wp_lst {fa : FA} : wp (eLst fa) δ Q E ↔ wp fa δ (fun rs δ1 => wp (gives rs) δ1 (fun ds δ2 => ask (ds.length ≤ SZ) (Q (.val (.lst ds) true) δ2)) E) E := by
  unfold eLst
  rw [wp_bnd]
  constructor <;> intro h <;> refine wp_mono h (fun ra δ1 h => ?_) (fun _ _ h => h)
  · rw [wp_bnd] at h
    refine wp_mono h (fun ds δ2 h => ?_) (fun _ _ h => h)
    by_cases hl : ds.length ≤ SZ
    · rw [if_pos hl] at h; exact ⟨hl, h⟩
    · rw [if_neg hl] at h; exact h.elim
  · rw [wp_bnd]
    refine wp_mono h (fun ds δ2 h => ?_) (fun _ _ h => h)
    rw [if_pos h.1]; exact h.2
theorem wp_tup {fa : FA} : wp (eTup fa) δ Q E ↔ wp fa δ (fun rs δ1 => wp (gives rs) δ1 (fun ds δ2 => ask (ds.length ≤ SZ) (Q (.val (.tup ds) false) δ2)) E) E := by
  unfold eTup
  rw [wp_bnd]
  constructor <;> intro h <;> refine wp_mono h (fun ra δ1 h => ?_) (fun _ _ h => h)
  · rw [wp_bnd] at h
    refine wp_mono h (fun ds δ2 h => ?_) (fun _ _ h => h)
    by_cases hl : ds.length ≤ SZ
    · rw [if_pos hl] at h; exact ⟨hl, h⟩
    · rw [if_neg hl] at h; exact h.elim
  · rw [wp_bnd]
    refine wp_mono h (fun ds δ2 h => ?_) (fun _ _ h => h)
    rw [if_pos h.1]; exact h.2
theorem wp_dct0 : wp eDct0 δ Q E ↔ Q (.val (.dct []) true) δ := Iff.rfl
theorem wp_dct {fa : FA} : wp (eDct fa) δ Q E ↔ wp fa δ (fun rs δ1 => wp (gives rs) δ1 (fun ds δ2 => opt (pairsD ds) fun kds => ask (kds.length ≤ 15) (Q (.val (.dct (mergeD [] kds)) true) δ2)) E) E := by
  unfold eDct
  rw [wp_bnd]
  constructor <;> intro h <;> refine wp_mono h (fun ra δ1 h => ?_) (fun _ _ h => h)
  · rw [wp_bnd] at h
    refine wp_mono h (fun ds δ2 h => ?_) (fun _ _ h => h)
    cases q : pairsD ds with
    | none => rw [q] at h; exact h.elim
    | some kds =>
      rw [q] at h
      by_cases hl : kds.length ≤ 15
      · simp only [if_pos hl] at h; exact ⟨hl, h⟩
      · simp only [if_neg hl] at h; exact h.elim
  · rw [wp_bnd]
    refine wp_mono h (fun ds δ2 h => ?_) (fun _ _ h => h)
    cases q : pairsD ds with
    | none => rw [q] at h; exact h.elim
    | some kds =>
      rw [q] at h
      simp only [if_pos (show kds.length ≤ 15 from h.1)]
      exact h.2
/-! tests -/
theorem wp_bl {f : FE} {Q : Bool → Env' → Prop} : wp (tBl f) δ Q E ↔ wp f δ (fun r δ1 => opt (match r with | .val (.bl b) false => some b | _ => none) fun b => Q b δ1) E := by
  unfold tBl
  rw [wp_bnd]
  have key : ∀ (r : RV) δ1, wp (isBl r) δ1 Q E ↔ opt (match r with | .val (.bl b) false => some b | _ => none) fun b => Q b δ1 := fun r δ1 => by
    cases r with
    | own k => exact Iff.rfl
    | val d n => cases n <;> cases d <;> exact Iff.rfl
  constructor <;> intro h <;> refine wp_mono h (fun r δ1 h => ?_) (fun _ _ h => h)
  · exact (key r δ1).mp h
  · exact (key r δ1).mpr h
theorem wp_truM {r : RV} {Q : Bool → Env' → Prop} : wp (truM r) δ Q E ↔ opt ((r.tree δ).bind dTru) fun b => Q b δ := by
  unfold wp truM opt
  cases (r.tree δ).bind dTru <;> rfl
theorem wp_tru {f : FE} {Q : Bool → Env' → Prop} : wp (tTru f) δ Q E ↔ wp f δ (fun r δ1 => opt (r.tree δ1) fun d => opt (dTru d) fun b => Q b δ1) E := by
  unfold tTru
  rw [wp_bnd]
  constructor <;> intro h <;> refine wp_mono h (fun r δ1 h => ?_) (fun _ _ h => h)
  · rw [wp_truM] at h
    cases q : r.tree δ1 <;> rw [q] at h <;> exact h
  · rw [wp_truM]
    cases q : r.tree δ1 <;> rw [q] at h <;> exact h
theorem wp_and {f g : FT} {Q : Bool → Env' → Prop} : wp (tAnd' f g) δ Q E ↔ wp f δ (fun b δ1 => cnd b (wp g δ1 Q E) (Q false δ1)) E := by
  unfold tAnd'
  rw [wp_bnd]
  constructor <;> intro h <;> refine wp_mono h (fun b δ1 h => ?_) (fun _ _ h => h) <;> cases b <;> exact h
theorem wp_or {f g : FT} {Q : Bool → Env' → Prop} : wp (tOr' f g) δ Q E ↔ wp f δ (fun b δ1 => cnd b (Q true δ1) (wp g δ1 Q E)) E := by
  unfold tOr'
  rw [wp_bnd]
  constructor <;> intro h <;> refine wp_mono h (fun b δ1 h => ?_) (fun _ _ h => h) <;> cases b <;> exact h
theorem wp_not {f : FT} {Q : Bool → Env' → Prop} : wp (tNot' f) δ Q E ↔ wp f δ (fun b δ1 => Q (!b) δ1) E := by
  unfold tNot'
  rw [wp_bnd]
  rfl
theorem wp_test {f : FT} : wp (eTest f) δ Q E ↔ wp f δ (fun b δ1 => Q (.val (.bl b) false) δ1) E := by
  unfold eTest
  rw [wp_bnd]
  rfl
theorem wp_eNot {f : FE} : wp (eNot f) δ Q E ↔ wp f δ (fun r δ1 => opt (r.tree δ1) fun d => opt (dTru d) fun b => Q (.val (.bl (!b)) false) δ1) E := by
  unfold eNot
  rw [wp_bnd]
  constructor <;> intro h <;> refine wp_mono h (fun r δ1 h => ?_) (fun _ _ h => h)
  · rw [wp_bnd, wp_truM] at h
    cases q : r.tree δ1 <;> rw [q] at h <;> exact h
  · rw [wp_bnd, wp_truM]
    cases q : r.tree δ1 <;> rw [q] at h <;> exact h
theorem wp_eOr {f g : FE} : wp (eOr f g) δ Q E ↔ wp f δ (fun r δ1 => opt (r.tree δ1) fun d => opt (dTru d) fun b => cnd b (Q r δ1) (wp g δ1 Q E)) E := by
  unfold eOr
  rw [wp_bnd]
  constructor <;> intro h <;> refine wp_mono h (fun r δ1 h => ?_) (fun _ _ h => h)
  · rw [wp_bnd, wp_truM] at h
    cases q : r.tree δ1 <;> rw [q] at h <;> try exact h
    rename_i d
    show opt (dTru d) _
    change opt (dTru d) _ at h
    cases q2 : dTru d <;> rw [q2] at h <;> try exact h
    rename_i b
    cases b <;> exact h
  · rw [wp_bnd, wp_truM]
    cases q : r.tree δ1 <;> rw [q] at h <;> try exact h
    rename_i d
    show opt (dTru d) _
    change opt (dTru d) _ at h
    cases q2 : dTru d <;> rw [q2] at h <;> try exact h
    rename_i b
    cases b <;> exact h
theorem wp_eAnd {f g : FE} : wp (eAnd f g) δ Q E ↔ wp f δ (fun r δ1 => opt (r.tree δ1) fun d => opt (dTru d) fun b => cnd b (wp g δ1 Q E) (Q r δ1)) E := by
  unfold eAnd
  rw [wp_bnd]
  constructor <;> intro h <;> refine wp_mono h (fun r δ1 h => ?_) (fun _ _ h => h)
  · rw [wp_bnd, wp_truM] at h
    cases q : r.tree δ1 <;> rw [q] at h <;> try exact h
    rename_i d
    show opt (dTru d) _
    change opt (dTru d) _ at h
    cases q2 : dTru d <;> rw [q2] at h <;> try exact h
    rename_i b
    cases b <;> exact h
  · rw [wp_bnd, wp_truM]
    cases q : r.tree δ1 <;> rw [q] at h <;> try exact h
    rename_i d
    show opt (dTru d) _
    change opt (dTru d) _ at h
    cases q2 : dTru d <;> rw [q2] at h <;> try exact h
    rename_i b
    cases b <;> exact h
theorem wp_ifC {c : FT} {x y : D} : wp (eIf c (eC x) (eC y)) δ Q E ↔ wp c δ (fun b δ1 => Q (.val (bif b then x else y) false) δ1) E := by
  unfold eIf
  rw [wp_bnd]
  constructor <;> intro h <;> refine wp_mono h (fun b δ1 h => ?_) (fun _ _ h => h) <;> cases b <;> exact h
theorem wp_if {c : FT} {f g : FE} : wp (eIf c f g) δ Q E ↔ wp c δ (fun b δ1 => cnd b (wp f δ1 Q E) (wp g δ1 Q E)) E := by
  unfold eIf
  rw [wp_bnd]
  constructor <;> intro h <;> refine wp_mono h (fun b δ1 h => ?_) (fun _ _ h => h) <;> cases b <;> exact h
theorem wp_none {Q : Option Int → Env' → Prop} : wp oNone δ Q E ↔ Q none δ := Iff.rfl
theorem wp_some {f : FE} {Q : Option Int → Env' → Prop} : wp (oSome f) δ Q E ↔ wp f δ (fun r δ1 => opt (r.tree δ1) fun d => opt (match d with | .int i => some i | _ => none) fun i => Q (some i) δ1) E := by
  unfold oSome
  rw [wp_bnd]
  constructor <;> intro h <;> refine wp_mono h (fun r δ1 h => ?_) (fun _ _ h => h)
  · unfold wp at h
    cases q : r.tree δ1 with
    | none => simp only [q] at h
    | some d => cases d <;> simp only [q] at h <;> exact h
  · unfold wp
    cases q : r.tree δ1 with
    | none => rw [q] at h; exact h.elim
    | some d =>
      rw [q] at h
      cases d <;> simp only [q] <;> exact h
theorem wp_sl {fa : FE} {fl fh : FO} : wp (eSl fa fl fh) δ Q E ↔ wp fa δ (fun r δ1 => wp fl δ1 (fun l δ2 => wp fh δ2 (fun u δ3 => opt (r.tree δ3) fun x => opt2 (dSl x l u) fun d n => Q (.val d n) δ3) E) E) E := by
  unfold eSl
  rw [wp_bnd]
  constructor <;> intro h <;> refine wp_mono h (fun r δ1 h => ?_) (fun _ _ h => h)
  · rw [wp_bnd] at h
    refine wp_mono h (fun l δ2 h => ?_) (fun _ _ h => h)
    rw [wp_bnd] at h
    refine wp_mono h (fun u δ3 h => ?_) (fun _ _ h => h)
    unfold wp opt at *
    cases q1 : r.tree δ3 <;> simp only [q1] at h ⊢
    exact wp_fin.mp h
  · rw [wp_bnd]
    refine wp_mono h (fun l δ2 h => ?_) (fun _ _ h => h)
    rw [wp_bnd]
    refine wp_mono h (fun u δ3 h => ?_) (fun _ _ h => h)
    unfold wp opt at *
    cases q1 : r.tree δ3 <;> simp only [q1] at h ⊢ <;> (try exact h)
    exact wp_fin.mpr h
theorem wp_chain {g g' : D → D → An} {fa fb fc : FE} : wp (eChain g g' fa fb fc) δ Q E ↔ wp fa δ (fun ra δ1 => wp fb δ1 (fun rb δ2 => opt (ra.tree δ2) fun x => opt (rb.tree δ2) fun y => opt2 (g x y) fun d n =>
    opt (match d, n with | .bl b, false => some b | _, _ => none) fun b => cnd b (wp fc δ2 (fun rc δ3 => opt (rb.tree δ3) fun y => opt (rc.tree δ3) fun z => opt2 (g' y z) fun d n => Q (.val d n) δ3) E) (Q (.val (.bl false) false) δ2)) E) E := by
  unfold eChain
  rw [wp_bnd]
  have key : ∀ (ra rb : RV) (δ2 : Env'), wp (bnd (fun δ => match ra.tree δ, rb.tree δ with
  | some x, some y => fin (g x y) δ
  | _, _ => .bad) fun rk => bnd (isBl rk) fun k => if k then bnd fc fun rc δ => match rb.tree δ, rc.tree δ with
    | some y, some z => fin (g' y z) δ
    | _, _ => .bad
  else ret' (.val (.bl false) false)) δ2 Q E ↔ opt (ra.tree δ2) fun x => opt (rb.tree δ2) fun y => opt2 (g x y) fun d n =>
    opt (match d, n with | .bl b, false => some b | _, _ => none) fun b => cnd b (wp fc δ2 (fun rc δ3 => opt (rb.tree δ3) fun y => opt (rc.tree δ3) fun z => opt2 (g' y z) fun d n => Q (.val d n) δ3) E) (Q (.val (.bl false) false) δ2) := by
    intro ra rb δ2
    rw [wp_bnd]
    cases q1 : ra.tree δ2 with
    | none => simp only [wp, q1, opt]
    | some x =>
      cases q2 : rb.tree δ2 with
      | none => simp only [wp, q1, q2, opt]
      | some y =>
        have e : ∀ (k : RV → Env' → Prop), wp (fun δ => match ra.tree δ, rb.tree δ with
          | some x, some y => fin (g x y) δ
          | _, _ => .bad) δ2 k E ↔ wp (fin (g x y)) δ2 k E := fun k => by simp only [wp, q1, q2]
        rw [e, wp_fin, opt_some, opt_some]
        rcases q3 : g x y with _ | ⟨d, n⟩
        · rfl
        · rw [opt2_some, opt2_some, wp_bnd]
          cases d <;> cases n <;> first | rfl | skip
          rename_i b
          show wp (if b then _ else _) δ2 Q E ↔ cnd b _ _
          cases b
          · rfl
          · show wp (bnd fc _) δ2 Q E ↔ wp fc δ2 _ _
            rw [wp_bnd]
            constructor <;> intro h <;> refine wp_mono h (fun rc δ3 h => ?_) (fun _ _ h => h)
            · cases q4 : rb.tree δ3 with
              | none => simp only [wp, q4] at h
              | some y2 =>
                cases q5 : rc.tree δ3 with
                | none => simp only [wp, q4, q5] at h
                | some z => exact wp_fin.mp (by simpa only [wp, q4, q5] using h)
            · cases q4 : rb.tree δ3 with
              | none => rw [q4] at h; exact h.elim
              | some y2 =>
                cases q5 : rc.tree δ3 with
                | none => rw [q4, q5] at h; exact h.elim
                | some z =>
                  rw [q4, q5] at h
                  have := wp_fin (E := E).mpr h
                  simpa only [wp, q4, q5] using this
  constructor <;> intro h <;> refine wp_mono h (fun ra δ1 h => ?_) (fun _ _ h => h)
  · rw [wp_bnd] at h
    exact wp_mono h (fun rb δ2 h => (key ra rb δ2).mp h) (fun _ _ h => h)
  · rw [wp_bnd]
    exact wp_mono h (fun rb δ2 h => (key ra rb δ2).mpr h) (fun _ _ h => h)
/-! calls -/
def callK (n : Nat) (F : FF) (rs : List RV) (δ : Env') (Q : RV → Env' → Prop) (E : Exc → Env' → Prop) : Prop :=
  opt (argsOf δ rs) fun ads => ask (ads.length = n ∧ (ownIx rs).Nodup) (wpF (F ads) (fun d new fin => opt (putBack δ rs fin) fun δ' => Q (.val d new) δ') fun x fin => opt (putBack δ rs fin) fun δ' => E x δ')
theorem wp_callM {n : Nat} {F : FF} {rs : List RV} : wp (callM n F rs) δ Q E ↔ callK n F rs δ Q E := by
  unfold callK callM wp
  cases q : argsOf δ rs with
  | none => simp only [q]; rfl
  | some ads =>
    simp only [q, opt]
    by_cases hc : ads.length = n ∧ (ownIx rs).Nodup
    · have hc' : (decide (ads.length = n) && decide (ownIx rs).Nodup) = true := by simpa using hc
      simp only [hc', if_true]
      unfold ask wpF
      constructor
      · intro h
        refine ⟨hc, ?_⟩
        cases q2 : F ads with
        | ok d new fin => simp only [q2] at h ⊢; cases q3 : putBack δ rs fin <;> simp only [q3] at h ⊢ <;> exact h
        | er x fin => simp only [q2] at h ⊢; cases q3 : putBack δ rs fin <;> simp only [q3] at h ⊢ <;> exact h
        | bad => simp only [q2] at h
      · intro h
        have h := h.2
        cases q2 : F ads with
        | ok d new fin => simp only [q2] at h ⊢; cases q3 : putBack δ rs fin <;> simp only [q3] at h ⊢ <;> exact h
        | er x fin => simp only [q2] at h ⊢; cases q3 : putBack δ rs fin <;> simp only [q3] at h ⊢ <;> exact h
        | bad => simp only [q2] at h
    · have hc' : ¬ (decide (ads.length = n) && decide (ownIx rs).Nodup) = true := by simpa using hc
      simp only [if_neg hc']
      exact ⟨fun h => h.elim, fun h => hc h.1⟩
theorem wp_call {n : Nat} {F : FF} {fa : FA} : wp (eCall n F fa) δ Q E ↔ wp fa δ (fun rs δ1 => callK n F rs δ1 Q E) E := by
  unfold eCall
  rw [wp_bnd]
  constructor <;> intro h <;> refine wp_mono h (fun rs δ1 h => ?_) (fun _ _ h => h)
  · exact wp_callM.mp h
  · exact wp_callM.mpr h
theorem wp_callK {m n : Nat} {is : List Nat} {F : FF} {fa : FA} : wp (eCallK m n is F fa) δ Q E ↔ wp fa δ (fun rs δ1 => ask (rs.length = m) (callK n F (pm is rs) δ1 Q E)) E := by
  unfold eCallK
  rw [wp_bnd]
  constructor <;> intro h <;> refine wp_mono h (fun rs δ1 h => ?_) (fun _ _ h => h)
  · by_cases hm : rs.length = m
    · rw [if_pos hm] at h; exact ⟨hm, wp_callM.mp h⟩
    · rw [if_neg hm] at h; exact h.elim
  · rw [if_pos h.1]; exact wp_callM.mpr h.2
end
end TM
set_option maxRecDepth 100000
set_option maxHeartbeats 4000000
/-! W2: written frames: what is looked up, stored, handed on -/
namespace TM
open PySem PySem.Spec PyProof.Rows L2
variable [Tbs]
def setO (δ : Env') (i : Nat) (x : SlD) : Option Env' := if i < δ.length then some (δ.set i x) else none
theorem setO_0 {s x : SlD} {δ : Env'} : setO (s :: δ) 0 x = some (x :: δ) := by simp [setO]
theorem setO_s {s x : SlD} {δ : Env'} {i : Nat} : setO (s :: δ) (i + 1) x = (setO δ i x).map (s :: ·) := by
  unfold setO
  by_cases h : i < δ.length
  · rw [if_pos h, if_pos (by simpa using h)]; rfl
  · rw [if_neg h, if_neg (by simpa using h)]; rfl
section
variable {δ : Env'} {i : Nat} {d : D} {n : Bool} {rs : List RV} {as : List AD} {a : AD} {k : SK}
theorem store_new : storeV i (.val d true) δ = setO δ i (some (.ow, d)) := rfl
theorem store_old : storeV i (.val d false) δ = setO δ i (some (.sh, d)) := rfl
theorem gSet_eq : gSet i d δ = setO δ i (some (.sh, d)) := rfl
theorem gsNil_nil : gsNil [] δ = some δ := rfl
theorem gsCons_cons {a : FG} {b : List D → Env' → Option Env'} {d : D} {ds : List D} : gsCons a b (d :: ds) δ = (a d δ).bind (b ds) := rfl
theorem gTup_tup {b : List D → Env' → Option Env'} {n : Nat} {ds : List D} : gTupD n b (.tup ds) δ = if ds.length = n then b ds δ else none := rfl
theorem bind_map {α β γ : Type} {o : Option α} {f : α → β} {g : β → Option γ} : (o.map f).bind g = o.bind fun a => g (f a) := by cases o <;> rfl
theorem tree_val : RV.tree δ (.val d n) = some d := rfl
def dSlot : Option SlD → Option D
  | some (some (_, d)) => some d
  | _ => none
theorem dSlot_some : dSlot (some (some (k, d))) = some d := rfl
theorem tree_own : RV.tree δ (.own i) = dSlot δ[i]? := by
  rcases q : δ[i]? with _ | (_ | ⟨k, d⟩) <;> simp only [RV.tree, dSlot, q]
theorem trees_nil : trees δ [] = some [] := rfl
theorem trees_cons {r : RV} : trees δ (r :: rs) = (r.tree δ).bind fun d => (trees δ rs).map (d :: ·) := by
  show ((r :: rs).mapM fun rv => RV.tree δ rv) = _
  rw [List.mapM_cons]
  show (r.tree δ).bind _ = (r.tree δ).bind _
  cases r.tree δ with
  | none => rfl
  | some x =>
    show (List.mapM (fun rv => RV.tree δ rv) rs).bind _ = (trees δ rs).map _
    show (trees δ rs).bind _ = _
    cases trees δ rs <;> rfl
theorem give_val : give δ (.val d n) = some (d, δ) := rfl
def gvK (δ : Env') (i : Nat) : Option SlD → Option (D × Env')
  | some (some (.sh, d)) => some (d, δ)
  | some (some (.ow, d)) => some (d, δ.set i (some (.sh, d)))
  | _ => none
theorem gvK_sh : gvK δ i (some (some (.sh, d))) = some (d, δ) := rfl
theorem gvK_ow : gvK δ i (some (some (.ow, d))) = some (d, δ.set i (some (.sh, d))) := rfl
theorem give_own : give δ (.own i) = gvK δ i δ[i]? := by
  rcases q : δ[i]? with _ | (_ | ⟨k, d⟩) <;> first | (simp only [give, gvK, q]; done) | (cases k <;> simp only [give, gvK, q])
theorem store_own : storeV i (.own j) δ = (give δ (.own j)).bind fun p => setO p.2 i (some (.sh, p.1)) := by
  unfold storeV setO
  cases q : give δ (.own j) with
  | none => simp [q]
  | some p =>
    have := give_length q
    simp only [q, Option.bind_some, this]
theorem setShs_nil : setShs [] [] δ = some δ := rfl
theorem setShs_cons {is : List Nat} {ds : List D} : setShs (i :: is) (d :: ds) δ = (setO δ i (some (.sh, d))).bind (setShs is ds) := by
  show (if i < δ.length then _ else _) = _
  unfold setO
  split <;> rfl
/-- what is handed back -/
def rtK : Option SlD → Option (D × Bool)
  | some (some (.sh, d)) => some (d, false)
  | some (some (.ow, d)) => some (d, true)
  | _ => none
theorem rtK_sh : rtK (some (some (.sh, d))) = some (d, false) := rfl
theorem rtK_ow : rtK (some (some (.ow, d))) = some (d, true) := rfl
theorem retV_val : retV δ (.val d n) = some (d, n) := rfl
theorem retV_own : retV δ (.own i) = rtK δ[i]? := by
  rcases q : δ[i]? with _ | (_ | ⟨k, d⟩) <;> first | (simp only [retV, rtK, q]; done) | (cases k <;> simp only [retV, rtK, q])
theorem finsE_nil : fins i [] δ = some [] := rfl
theorem finsE_sh : fins i (.sh d :: as) δ = (fins (i + 1) as δ).map (.sh d :: ·) := rfl
def fnK : Option SlD → Option D
  | some (some (.io, d)) => some d
  | _ => none
theorem fnK_io : fnK (some (some (.io, d))) = some d := rfl
theorem finsE_io : fins i (.io d :: as) δ = (fnK δ[i]?).bind fun d' => (fins (i + 1) as δ).map (AD.io d' :: ·) := by
  show (match δ[i]? with
    | some (some (.io, d)) => (fins (i + 1) as δ).map (AD.io d :: ·)
    | _ => none) = _
  unfold fnK
  rcases δ[i]? with _ | (_ | ⟨k, d⟩) <;> first | rfl | (cases k <;> rfl)
/-- arguments -/
theorem args_nil : argsOf δ [] = some [] := rfl
theorem args_val : argsOf δ (.val d n :: rs) = (argsOf δ rs).map (.sh d :: ·) := by
  show (match argOf δ (.val d n), argsOf δ rs with
    | some a, some as => some (a :: as)
    | _, _ => none) = _
  cases argsOf δ rs <;> rfl
def agK : Option SlD → Option AD
  | some (some (.sh, d)) => some (.sh d)
  | some (some (_, d)) => some (.io d)
  | _ => none
theorem agK_sh : agK (some (some (.sh, d))) = some (.sh d) := rfl
theorem agK_ow : agK (some (some (.ow, d))) = some (.io d) := rfl
theorem agK_io : agK (some (some (.io, d))) = some (.io d) := rfl
theorem args_own : argsOf δ (.own i :: rs) = (agK δ[i]?).bind fun a => (argsOf δ rs).map (a :: ·) := by
  show (match argOf δ (.own i), argsOf δ rs with
    | some a, some as => some (a :: as)
    | _, _ => none) = _
  have e : argOf δ (.own i) = agK δ[i]? := by
    rcases q : δ[i]? with _ | (_ | ⟨k, d⟩) <;> first | (simp only [argOf, agK, q]; done) | (cases k <;> simp only [argOf, agK, q])
  rw [e]
  cases agK δ[i]? <;> cases argsOf δ rs <;> rfl
theorem ownIx_nil : ownIx [] = [] := rfl
theorem ownIx_own : ownIx (.own i :: rs) = i :: ownIx rs := rfl
theorem ownIx_val : ownIx (.val d n :: rs) = ownIx rs := rfl
theorem put_nil : putBack δ [] [] = some δ := rfl
theorem put_val : putBack δ (.val d n :: rs) (a :: as) = putBack δ rs as := rfl
def pbK (δ : Env') (i : Nat) : Option SlD → AD → Option Env'
  | some (some (.sh, _)), _ => some δ
  | some (some (k, _)), .io d => some (δ.set i (some (k, d)))
  | _, _ => none
theorem pbK_sh : pbK δ i (some (some (.sh, d))) a = some δ := rfl
theorem pbK_io {d' : D} : pbK δ i (some (some (.io, d))) (.io d') = some (δ.set i (some (.io, d'))) := rfl
theorem pbK_ow {d' : D} : pbK δ i (some (some (.ow, d))) (.io d') = some (δ.set i (some (.ow, d'))) := rfl
theorem put_own : putBack δ (.own i :: rs) (a :: as) = (pbK δ i δ[i]? a).bind fun δ' => putBack δ' rs as := by
  show (match δ[i]? with
    | some (some (.sh, _)) => putBack δ rs as
    | some (some (k, _)) => match a with
      | .io d => putBack (δ.set i (some (k, d))) rs as
      | _ => none
    | _ => none) = _
  unfold pbK
  rcases δ[i]? with _ | (_ | ⟨k, d⟩) <;> first | rfl | (cases k <;> cases a <;> rfl)
theorem set_0 {s x : SlD} : (s :: δ).set 0 x = x :: δ := rfl
theorem set_s {s x : SlD} : (s :: δ).set (i + 1) x = s :: δ.set i x := rfl
theorem get_0 {s : SlD} : (s :: δ)[0]? = some s := rfl
theorem get_s {s : SlD} : (s :: δ)[i + 1]? = δ[i]? := by simp
/-! ### a def's body -/
def bodyK (ads : List AD) (K : D → Bool → List AD → Prop) : RV → Env' → Prop := fun r δ => opt2 (retV δ r) fun d n => opt (fins 0 ads δ) (K d n)
theorem wpF_run {m : Nat} {g : FS} {ads : List AD} {K : D → Bool → List AD → Prop} {E : Exc → List AD → Prop} :
    wpF (runF m g ads) K E ↔ wpS g (slots ads ++ List.replicate m none) (fun δ => opt (fins 0 ads δ) (K .non false)) (fun r δ => opt2 (retV δ r) fun d n => opt (fins 0 ads δ) (K d n)) (fun _ => False) (fun _ => False) (fun x δ => opt (fins 0 ads δ) (E x)) := by
  unfold runF leave wpF wpS opt opt2
  cases g (slots ads ++ List.replicate m none) with
  | nx δ => simp only []; cases fins 0 ads δ <;> rfl
  | rt r δ => simp only []; rcases retV δ r with _ | ⟨d, n⟩ <;> cases fins 0 ads δ <;> rfl
  | er x δ => simp only []; cases fins 0 ads δ <;> rfl
  | _ => rfl
theorem wpF_ok {d : D} {n : Bool} {fin : List AD} {K : D → Bool → List AD → Prop} {E : Exc → List AD → Prop} : wpF (.ok d n fin) K E ↔ K d n fin := Iff.rfl
theorem wpF_er {x : Exc} {fin : List AD} {K : D → Bool → List AD → Prop} {E : Exc → List AD → Prop} : wpF (.er x fin) K E ↔ E x fin := Iff.rfl
theorem wpF_mono {r : FR} {K K' : D → Bool → List AD → Prop} {E E' : Exc → List AD → Prop} (h : wpF r K' E') (m : ∀ d n fin, K' d n fin → K d n fin) (m2 : ∀ x fin, E' x fin → E x fin) : wpF r K E := by
  unfold wpF at h ⊢
  cases r with
  | ok d n fin => exact m _ _ _ h
  | er x fin => exact m2 _ _ h
  | bad => exact h.elim
/-- an answer that is said outright -/
theorem wpF_eq {r : FR} {d : D} {n : Bool} {fin : List AD} (h : wpF r (fun d' n' fin' => d' = d ∧ n' = n ∧ fin' = fin) fun _ _ => False) : r = .ok d n fin := by
  unfold wpF at h
  cases r with
  | ok d' n' fin' => obtain ⟨rfl, rfl, rfl⟩ := h; rfl
  | er x fin => exact h.elim
  | bad => exact h.elim
theorem wpF_eqE {r : FR} {x : Exc} {fin : List AD} (h : wpF r (fun _ _ _ => False) (fun x' fin' => x' = x ∧ fin' = fin)) : r = .er x fin := by
  unfold wpF at h
  cases r with
  | ok d' n' fin' => exact h.elim
  | er x fin => obtain ⟨rfl, rfl⟩ := h; rfl
  | bad => exact h.elim
end
end TM
set_option maxRecDepth 100000
set_option maxHeartbeats 4000000
/-! W3: walks, comprehensions, lists changed, errors made and heard -/
namespace TM
open PySem PySem.Spec PyProof.Rows L2
variable [Tbs]
section
variable {δ : Env'} {E : Exc → Env' → Prop}
theorem wp_seqI {f : FE} {Q : List D → Env' → Prop} : wp (iSeq f) δ Q E ↔ wp f δ (fun r δ1 => opt2 (give δ1 r) fun d δ2 => opt (iterD d) fun ds => Q ds δ2) E := by
  unfold iSeq
  rw [wp_bnd]
  constructor <;> intro h <;> refine wp_mono h (fun r δ1 h => ?_) (fun _ _ h => h) <;> unfold wp opt opt2 at * <;> rcases q : give δ1 r with _ | ⟨d, δ2⟩ <;> simp only [q] at h ⊢ <;> (try exact h) <;> cases q2 : iterD d <;> simp only [q2] at h ⊢ <;> exact h
def rg1 : List D → Option (List D)
  | [.int j] => if okR j = true then some (rngD 0 j.toNat) else none
  | _ => none
def rg2 : List D → Option (List D)
  | [.int i, .int j] => if (okR i && okR j) = true then some (rngD i (j - i).toNat) else none
  | _ => none
theorem wp_rng1 {fa : FA} {Q : List D → Env' → Prop} : wp (iRng1 fa) δ Q E ↔ wp fa δ (fun rs δ1 => opt (trees δ1 rs) fun l => opt (rg1 l) fun ds => Q ds δ1) E := by
  unfold iRng1
  rw [wp_bnd]
  have key : ∀ rs δ1, wp (fun δ => match trees δ rs with
      | some [.int j] => if okR j then .ok (rngD 0 j.toNat) δ else .bad
      | _ => .bad) δ1 Q E ↔ opt (trees δ1 rs) fun l => opt (rg1 l) fun ds => Q ds δ1 := by
    intro rs δ1
    unfold wp opt rg1
    rcases q : trees δ1 rs with _ | (_ | ⟨d, _ | ⟨d2, l⟩⟩)
    · simp only [q]
    · simp only [q]
    · cases d <;> simp only [q]
      rename_i j
      by_cases h : okR j = true
      · simp only [h, if_true]
      · simp only [h, if_false, Bool.false_eq_true]
    · cases d <;> simp only [q]
  constructor <;> intro h <;> refine wp_mono h (fun r δ1 h => ?_) (fun _ _ h => h)
  · exact (key r δ1).mp h
  · exact (key r δ1).mpr h
theorem wp_rng2 {fa : FA} {Q : List D → Env' → Prop} : wp (iRng2 fa) δ Q E ↔ wp fa δ (fun rs δ1 => opt (trees δ1 rs) fun l => opt (rg2 l) fun ds => Q ds δ1) E := by
  unfold iRng2
  rw [wp_bnd]
  have key : ∀ rs δ1, wp (fun δ => match trees δ rs with
      | some [.int i, .int j] => if okR i && okR j then .ok (rngD i (j - i).toNat) δ else .bad
      | _ => .bad) δ1 Q E ↔ opt (trees δ1 rs) fun l => opt (rg2 l) fun ds => Q ds δ1 := by
    intro rs δ1
    unfold wp opt rg2
    rcases q : trees δ1 rs with _ | (_ | ⟨d, _ | ⟨d2, _ | ⟨d3, l⟩⟩⟩)
    · simp only [q]
    · simp only [q]
    · cases d <;> simp only [q]
    · cases d <;> (try simp only [q]) <;> cases d2 <;> simp only [q]
      rename_i i j
      by_cases h : (okR i && okR j) = true
      · simp only [h, if_true]
      · simp only [h, if_false, Bool.false_eq_true]
    · cases d <;> (try simp only [q]) <;> cases d2 <;> simp only [q]
  constructor <;> intro h <;> refine wp_mono h (fun r δ1 h => ?_) (fun _ _ h => h)
  · exact (key r δ1).mp h
  · exact (key r δ1).mpr h
def lstD : D → Option (List D)
  | .lst ds => some ds
  | _ => none
theorem wp_enum {f : FE} {Q : List D → Env' → Prop} : wp (iEnumD (aCons f aNil)) δ Q E ↔ wp f δ (fun r δ1 => opt2 (give δ1 r) fun d δ2 => opt (lstD d) fun ds => Q (enumD ds) δ2) E := by
  unfold iEnumD
  rw [wp_bnd, wp_cons]
  constructor <;> intro h <;> refine wp_mono h (fun r δ1 h => ?_) (fun _ _ h => h)
  · rw [wp_nil] at h
    unfold wp at h
    unfold opt2
    rcases q : give δ1 r with _ | ⟨d, δ2⟩ <;> simp only [q] at h ⊢
    cases d <;> exact h
  · rw [wp_nil]
    unfold wp
    unfold opt2 at h
    rcases q : give δ1 r with _ | ⟨d, δ2⟩ <;> simp only [q] at h ⊢ <;> (try exact h)
    cases d <;> exact h
def zip2 : D → D → Option (List D)
  | .lst xs, .lst ys => some (zipD xs ys)
  | .tup xs, .tup ys => some (zipD xs ys)
  | _, _ => none
theorem wp_zip {f g : FE} {Q : List D → Env' → Prop} : wp (iZipD (aCons f (aCons g aNil))) δ Q E ↔ wp f δ (fun r δ1 => wp g δ1 (fun r' δ2 => opt2 (give δ2 r) fun x δ3 => opt2 (give δ3 r') fun y δ4 => opt (zip2 x y) fun ds => Q ds δ4) E) E := by
  unfold iZipD
  rw [wp_bnd, wp_cons]
  constructor <;> intro h <;> refine wp_mono h (fun r δ1 h => ?_) (fun _ _ h => h)
  · rw [wp_cons] at h
    refine wp_mono h (fun r' δ2 h => ?_) (fun _ _ h => h)
    rw [wp_nil] at h
    unfold wp at h
    unfold opt2
    rcases q : give δ2 r with _ | ⟨x, δ3⟩ <;> simp only [q] at h ⊢
    rcases q2 : give δ3 r' with _ | ⟨y, δ4⟩ <;> simp only [q2] at h ⊢
    cases x <;> cases y <;> exact h
  · rw [wp_cons]
    refine wp_mono h (fun r' δ2 h => ?_) (fun _ _ h => h)
    rw [wp_nil]
    unfold wp
    unfold opt2 at h
    rcases q : give δ2 r with _ | ⟨x, δ3⟩ <;> simp only [q] at h ⊢ <;> (try exact h)
    rcases q2 : give δ3 r' with _ | ⟨y, δ4⟩ <;> simp only [q2] at h ⊢ <;> (try exact h)
    cases x <;> cases y <;> exact h
/-! for -/
def forK (a : FG) (body : FS) (ds : List D) (δ : Env') (N : Env' → Prop) (R : RV → Env' → Prop) (E : Exc → Env' → Prop) : Prop := wpS (forD a body ds) δ N R (fun _ => False) (fun _ => False) E
theorem forD_B {a : FG} {body : FS} {N : Env' → Prop} {R : RV → Env' → Prop} {B B' C C' : Env' → Prop} : ∀ {ds : List D} {δ : Env'}, wpS (forD a body ds) δ N R B C E → wpS (forD a body ds) δ N R B' C' E
  | [], _, h => h
  | d :: ds, δ, h => by
    unfold wpS at h ⊢
    simp only [forD] at h ⊢
    cases q : a d δ with
    | none => simp only [q] at h
    | some δ1 =>
      simp only [q] at h ⊢
      cases q2 : body δ1 with
      | nx δ2 => simp only [q2] at h ⊢; exact forD_B (ds := ds) h
      | ct δ2 => simp only [q2] at h ⊢; exact forD_B (ds := ds) h
      | bk δ2 => simp only [q2] at h ⊢; exact h
      | rt r δ2 => simp only [q2] at h ⊢; exact h
      | er x δ2 => simp only [q2] at h ⊢; exact h
      | bad => simp only [q2] at h
theorem wpS_for {m : M (List D)} {a : FG} {body : FS} {N : Env' → Prop} {R : RV → Env' → Prop} {B C : Env' → Prop} : wpS (sFor m a body) δ N R B C E ↔ wp m δ (fun ds δ1 => forK a body ds δ1 N R E) E := by
  unfold sFor
  rw [wpS_bndS]
  constructor <;> intro h <;> exact wp_mono h (fun ds δ1 h => forD_B h) (fun _ _ h => h)
theorem forK_nil {a : FG} {body : FS} {N : Env' → Prop} {R : RV → Env' → Prop} : forK a body [] δ N R E ↔ N δ := Iff.rfl
theorem forK_cons {a : FG} {body : FS} {d : D} {ds : List D} {N : Env' → Prop} {R : RV → Env' → Prop} : forK a body (d :: ds) δ N R E ↔ opt (a d δ) fun δ1 => wpS body δ1 (fun δ2 => forK a body ds δ2 N R E) R N (fun δ2 => forK a body ds δ2 N R E) E := by
  unfold forK opt wpS
  simp only [forD]
  cases a d δ with
  | none => rfl
  | some δ1 =>
    simp only []
    cases body δ1 <;> rfl
/-- a walk by what holds ahead of each turn -/
theorem forK_inv {a : FG} {body : FS} {ds : List D} {N : Env' → Prop} {R : RV → Env' → Prop} (I : List D → Env' → Prop) (h0 : I ds δ) (hn : ∀ δ', I [] δ' → N δ')
    (hc : ∀ d r δ', I (d :: r) δ' → opt (a d δ') fun δ1 => wpS body δ1 (I r) R N (I r) E) : forK a body ds δ N R E := by
  induction ds generalizing δ with
  | nil => exact hn _ h0
  | cons d ds ih =>
    rw [forK_cons]
    have := hc d ds δ h0
    unfold opt at this ⊢
    cases q : a d δ with
    | none => simp only [q] at this
    | some δ1 =>
      simp only [q] at this ⊢
      exact wpS_mono this (fun δ2 h => ih h) (fun _ _ h => h) (fun _ h => h) (fun δ2 h => ih h) fun _ _ h => h
/-! comprehensions -/
theorem wipe_0 : wipeE δ [] = δ := rfl
theorem wipe_s {v : Nat} {vs : List Nat} : wipeE δ (v :: vs) = (wipeE δ vs).set v none := rfl
def restS : List Nat → Env' → Env' → Env'
  | [], _, δ2 => δ2
  | v :: vs, δ1, δ2 => (restS vs δ1 δ2).set v ((δ1[v]?).getD none)
theorem restS_get {δ1 δ2 : Env'} : ∀ (vs : List Nat) (j : Nat), (restS vs δ1 δ2)[j]? = if j ∈ vs then (δ2[j]?).map (fun _ => (δ1[j]?).getD none) else δ2[j]?
  | [], j => by simp [restS]
  | v :: vs, j => by
    simp only [restS]
    by_cases e : v = j
    · subst e
      rw [List.getElem?_set_self', restS_get vs v]
      by_cases h : v ∈ vs <;> simp [h] <;> rfl
    · rw [List.getElem?_set_ne e, restS_get vs j]
      have e' : j ≠ v := fun z => e z.symm
      simp [e']
theorem restore_eq {vs : List Nat} {δ1 δ2 : Env'} : restore vs δ1 δ2 = restS vs δ1 δ2 := by
  apply List.ext_getElem?
  intro j
  rw [restore_get, restS_get]
theorem restS_0 {δ1 : Env'} : restS [] δ1 δ = δ := rfl
theorem restS_s {v : Nat} {vs : List Nat} {δ1 : Env'} : restS (v :: vs) δ1 δ = (restS vs δ1 δ).set v ((δ1[v]?).getD none) := rfl
def lcK (a : FG) (t : FT) (f : FE) (vs : List Nat) (ds : List D) (δ : Env') (Q : RV → Env' → Prop) : Prop :=
  okSlots vs δ = true ∧ wp (lcD a t f vs ds []) (wipeE δ vs) (fun acc δ2 => Q (.val (.lst acc) true) (restore vs δ δ2)) fun _ _ => False
theorem wp_lc {src : M (List D)} {a : FG} {t : FT} {f : FE} {vs : List Nat} {Q : RV → Env' → Prop} : wp (eLc src a t f vs) δ Q E ↔ wp src δ (fun ds δ1 => lcK a t f vs ds δ1 Q) E := by
  unfold eLc
  rw [wp_bnd]
  constructor <;> intro h <;> refine wp_mono h (fun ds δ1 h => ?_) (fun _ _ h => h)
  · unfold lcK
    unfold wp at h ⊢
    by_cases e : okSlots vs δ1 = true
    · simp only [e, if_true] at h
      refine ⟨e, ?_⟩
      cases q : lcD a t f vs ds [] (wipeE δ1 vs) <;> simp only [q] at h ⊢
      exact h
    · simp only [e, if_false, Bool.false_eq_true] at h
  · obtain ⟨e, h⟩ := h
    unfold wp at h ⊢
    simp only [e, if_true]
    cases q : lcD a t f vs ds [] (wipeE δ1 vs) <;> simp only [q] at h ⊢
    exact h
theorem lcD_inv {a : FG} {t : FT} {f : FE} {vs : List Nat} {Q : List D → Env' → Prop} (I : List D → List D → Env' → Prop)
    (hc : ∀ d r acc δ', I (d :: r) acc δ' → opt (a d δ') fun δ1 => wp t δ1 (fun b δ2 => cnd b (wp f δ2 (fun rv δ3 => opt2 (give δ3 rv) fun x δ4 => ask (acc.length < SZ) (I r (acc ++ [x]) (wipeE δ4 vs))) fun _ _ => False) (I r acc (wipeE δ2 vs))) fun _ _ => False)
    (hn : ∀ acc δ', I [] acc δ' → Q acc δ') : ∀ (ds acc : List D) (δ : Env'), I ds acc δ → wp (lcD a t f vs ds acc) δ Q fun _ _ => False
  | [], acc, δ, h => hn acc δ h
  | d :: ds, acc, δ, h => by
    have ih := lcD_inv (a := a) (t := t) (f := f) (vs := vs) I hc hn ds
    have h1 := hc d ds acc δ h
    unfold opt at h1
    show wp (fun δ => match a d δ with
      | some δ1 => bnd t (fun b => if b then bnd f (fun r δ3 => match give δ3 r with
          | some (x, δ4) => if acc.length < SZ then lcD a t f vs ds (acc ++ [x]) (wipeE δ4 vs) else .bad
          | none => .bad)
        else fun δ2 => lcD a t f vs ds acc (wipeE δ2 vs)) δ1
      | none => .bad) δ Q _
    cases q : a d δ with
    | none => rw [q] at h1; exact h1.elim
    | some δ1 =>
      rw [q] at h1
      have w : ∀ (X : M (List D)), wp X δ1 Q (fun _ _ => False) → wp (fun _ => X δ1) δ Q (fun _ _ => False) := fun X h => h
      unfold wp
      simp only [q]
      refine w _ ?_
      rw [wp_bnd]
      refine wp_mono h1 (fun b δ2 h2 => ?_) (fun _ _ h => h)
      cases b with
      | false => exact ih acc _ h2
      | true =>
        show wp (bnd f _) δ2 Q _
        rw [wp_bnd]
        refine wp_mono h2 (fun rv δ3 h3 => ?_) (fun _ _ h => h)
        unfold opt2 at h3
        unfold wp
        rcases q3 : give δ3 rv with _ | ⟨x, δ4⟩
        · rw [q3] at h3; exact h3.elim
        · rw [q3] at h3
          simp only [if_pos h3.1, q3]
          exact ih _ _ h3.2
/-- a comprehension by what holds ahead of each turn -/
theorem lcK_inv {a : FG} {t : FT} {f : FE} {vs : List Nat} {ds : List D} {Q : RV → Env' → Prop} (I : List D → List D → Env' → Prop) (hok : okSlots vs δ = true) (h0 : I ds [] (wipeE δ vs))
    (hc : ∀ d r acc δ', I (d :: r) acc δ' → opt (a d δ') fun δ1 => wp t δ1 (fun b δ2 => cnd b (wp f δ2 (fun rv δ3 => opt2 (give δ3 rv) fun x δ4 => ask (acc.length < SZ) (I r (acc ++ [x]) (wipeE δ4 vs))) fun _ _ => False) (I r acc (wipeE δ2 vs))) fun _ _ => False)
    (hn : ∀ acc δ', I [] acc δ' → Q (.val (.lst acc) true) (restS vs δ δ')) : lcK a t f vs ds δ Q :=
  ⟨hok, lcD_inv I hc (fun acc δ' h => by rw [restore_eq]; exact hn acc δ' h) ds [] _ h0⟩
theorem rest_wipe {vs : List Nat} : restS vs δ (wipeE δ vs) = δ := by
  apply List.ext_getElem?
  intro j
  rw [restS_get, wipeE_get]
  by_cases h : j ∈ vs
  · rw [if_pos h, if_pos h]
    cases δ[j]? <;> rfl
  · rw [if_neg h, if_neg h]
/-- a comprehension whose parts change nothing -/
theorem lcK_map {a : FG} {t : FT} {f : FE} {vs : List Nat} {ds : List D} {Q : RV → Env' → Prop} (g : D → Option D) (hok : okSlots vs δ = true) (hl : ds.length ≤ SZ)
    (hc : ∀ d ∈ ds, opt (a d (wipeE δ vs)) fun δ1 => wp t δ1 (fun b δ2 => cnd b (wp f δ2 (fun rv δ3 => opt2 (give δ3 rv) fun x δ4 => g d = some x ∧ wipeE δ4 vs = wipeE δ vs) fun _ _ => False) (g d = none ∧ wipeE δ2 vs = wipeE δ vs)) fun _ _ => False)
    (hq : Q (.val (.lst (ds.filterMap g)) true) δ) : lcK a t f vs ds δ Q := by
  refine lcK_inv (fun r acc δ' => δ' = wipeE δ vs ∧ ∃ p, ds = p ++ r ∧ acc = p.filterMap g ∧ acc.length ≤ p.length) hok ⟨rfl, [], rfl, rfl, by simp⟩ (fun d r acc δ' h => ?_) fun acc δ' h => ?_
  · obtain ⟨rfl, p, e, e2, e3⟩ := h
    have hd : d ∈ ds := by rw [e]; simp
    have h1 := hc d hd
    unfold opt at h1 ⊢
    cases q : a d (wipeE δ vs) with
    | none => rw [q] at h1; exact h1.elim
    | some δ1 =>
      rw [q] at h1
      refine wp_mono h1 (fun b δ2 h2 => ?_) (fun _ _ h => h)
      have e4 : ds = (p ++ [d]) ++ r := by rw [e]; simp
      cases b with
      | false =>
        obtain ⟨g1, g2⟩ := h2
        exact ⟨g2, p ++ [d], e4, by rw [List.filterMap_append, e2]; simp [g1], by simp; omega⟩
      | true =>
        refine wp_mono h2 (fun rv δ3 h3 => ?_) (fun _ _ h => h)
        unfold opt2 at h3 ⊢
        rcases q3 : give δ3 rv with _ | ⟨x, δ4⟩
        · rw [q3] at h3; exact h3.elim
        · rw [q3] at h3
          obtain ⟨g1, g2⟩ := h3
          have : p.length < ds.length := by rw [e]; simp
          exact ⟨by show _ < _; omega, g2, p ++ [d], e4, by rw [List.filterMap_append, e2]; simp [g1], by simp; omega⟩
  · obtain ⟨rfl, p, e, rfl, e3⟩ := h
    rw [List.append_nil] at e
    subst e
    rw [rest_wipe]; exact hq
/-! lists changed -/
def olK : Option SlD → Option (SK × List D)
  | some (some (.ow, .lst ds)) => some (.ow, ds)
  | some (some (.io, .lst ds)) => some (.io, ds)
  | _ => none
theorem olK_ow {ds : List D} : olK (some (some (.ow, .lst ds))) = some (.ow, ds) := rfl
theorem olK_io {ds : List D} : olK (some (some (.io, .lst ds))) = some (.io, ds) := rfl
theorem isOwnL_eq {i : Nat} : isOwnL i δ = olK δ[i]? := by
  unfold isOwnL olK
  rcases δ[i]? with _ | (_ | ⟨k, d⟩) <;> first | rfl | (cases k <;> cases d <;> rfl)
theorem wp_mut {i : Nat} {m : Mt} {fa : FA} {Q : RV → Env' → Prop} : wp (eMut i m fa) δ Q E ↔ opt (isOwnL i δ) fun _ => wp fa δ (fun rs δ1 => wp (gives rs) δ1 (fun xs δ2 => opt2 (isOwnL i δ2) fun k ds => opt2 (m ds xs) fun ds' r => Q (.val r false) (δ2.set i (some (k, .lst ds')))) E) E := by
  have key : wp (bnd fa (fun rs => bnd (gives rs) fun xs δ => match isOwnL i δ with
    | some (k, ds) => match m ds xs with
      | some (ds', r) => .ok (.val r false) (δ.set i (some (k, .lst ds')))
      | none => .bad
    | none => .bad)) δ Q E ↔ wp fa δ (fun rs δ1 => wp (gives rs) δ1 (fun xs δ2 => opt2 (isOwnL i δ2) fun k ds => opt2 (m ds xs) fun ds' r => Q (.val r false) (δ2.set i (some (k, .lst ds')))) E) E := by
    rw [wp_bnd]
    constructor <;> intro h <;> refine wp_mono h (fun rs δ1 h => ?_) (fun _ _ h => h)
    · rw [wp_bnd] at h
      refine wp_mono h (fun xs δ2 h => ?_) (fun _ _ h => h)
      unfold wp at h
      unfold opt2
      rcases q : isOwnL i δ2 with _ | ⟨k, ds⟩ <;> simp only [q] at h ⊢
      rcases q2 : m ds xs with _ | ⟨ds', r⟩ <;> simp only [q2] at h ⊢
      exact h
    · rw [wp_bnd]
      refine wp_mono h (fun xs δ2 h => ?_) (fun _ _ h => h)
      unfold opt2 at h
      unfold wp
      rcases q : isOwnL i δ2 with _ | ⟨k, ds⟩ <;> simp only [q] at h ⊢
      rcases q2 : m ds xs with _ | ⟨ds', r⟩ <;> simp only [q2] at h ⊢
      exact h
  unfold eMut opt
  cases q : isOwnL i δ with
  | none => simp only [wp, q]
  | some p =>
    refine Iff.trans ?_ key
    unfold wp
    simp only [q]
    try exact Iff.rfl
def asI : D → Option Int
  | .int i => some i
  | _ => none
theorem wpS_setIt {i : Nat} {fi fv : FE} {N : Env' → Prop} {R : RV → Env' → Prop} {B C : Env' → Prop} : wpS (sSetIt i fi fv) δ N R B C E ↔ opt (isOwnL i δ) fun _ => wp fv δ (fun r δ1 => wp fi δ1 (fun ri δ2 => opt (ri.tree δ2) fun x => opt (asI x) fun k => opt2 (give δ2 r) fun d δ3 => opt2 (isOwnL i δ3) fun kd ds => opt (ixN ds.length k) fun j => N (δ3.set i (some (kd, .lst (ds.set j d))))) E) E := by
  have key : wpS (bndS fv (fun r => bndS fi fun ri δ => match ri.tree δ with
    | some (.int k) => match give δ r with
      | some (d, δ1) => match isOwnL i δ1 with
        | some (kd, ds) => match ixN ds.length k with
          | some j => .nx (δ1.set i (some (kd, .lst (ds.set j d))))
          | none => .bad
        | none => .bad
      | none => .bad
    | _ => .bad)) δ N R B C E ↔ wp fv δ (fun r δ1 => wp fi δ1 (fun ri δ2 => opt (ri.tree δ2) fun x => opt (asI x) fun k => opt2 (give δ2 r) fun d δ3 => opt2 (isOwnL i δ3) fun kd ds => opt (ixN ds.length k) fun j => N (δ3.set i (some (kd, .lst (ds.set j d))))) E) E := by
    rw [wpS_bndS]
    constructor <;> intro h <;> refine wp_mono h (fun r δ1 h => ?_) (fun _ _ h => h)
    · rw [wpS_bndS] at h
      refine wp_mono h (fun ri δ2 h => ?_) (fun _ _ h => h)
      unfold wpS at h
      unfold opt opt2
      cases q : ri.tree δ2 with
      | none => simp only [q] at h
      | some x =>
        cases x with
        | int k =>
          simp only [q, asI] at h ⊢
          rcases q2 : give δ2 r with _ | ⟨d, δ3⟩ <;> simp only [q2] at h ⊢
          rcases q3 : isOwnL i δ3 with _ | ⟨kd, ds⟩ <;> simp only [q3] at h ⊢
          cases q4 : ixN ds.length k <;> simp only [q4] at h ⊢
          exact h
        | _ => simp only [q] at h
    · rw [wpS_bndS]
      refine wp_mono h (fun ri δ2 h => ?_) (fun _ _ h => h)
      unfold opt opt2 at h
      unfold wpS
      cases q : ri.tree δ2 with
      | none => simp only [q] at h
      | some x =>
        cases x with
        | int k =>
          simp only [q, asI] at h ⊢
          rcases q2 : give δ2 r with _ | ⟨d, δ3⟩ <;> simp only [q2] at h ⊢
          rcases q3 : isOwnL i δ3 with _ | ⟨kd, ds⟩ <;> simp only [q3] at h ⊢
          cases q4 : ixN ds.length k <;> simp only [q4] at h ⊢
          exact h
        | _ => simp only [q, asI] at h
  unfold sSetIt opt
  cases q : isOwnL i δ with
  | none => simp only [wpS, q]
  | some p =>
    refine Iff.trans ?_ key
    unfold wpS
    simp only [q]
    try exact Iff.rfl
def newL : RV → Option (List D)
  | .val (.lst ds) true => some ds
  | _ => none
theorem wpS_par2F {i j : Nat} {fa fb : FE} {N : Env' → Prop} {R : RV → Env' → Prop} {B C : Env' → Prop} : wpS (sPar2F i j fa fb) δ N R B C E ↔ wp fa δ (fun ra δ1 => opt (newL ra) fun da => wp fb δ1 (fun rb δ2 => opt (storeV j rb δ2) fun δ3 => opt (setO δ3 i (some (.ow, .lst da))) N) E) E := by
  unfold sPar2F
  rw [wpS_bndS]
  have key : ∀ da δ1, wpS (bndS fb fun rb δ => match storeV j rb δ with
    | some δ' => if i < δ'.length then .nx (δ'.set i (some (.ow, .lst da))) else .bad
    | none => .bad) δ1 N R B C E ↔ wp fb δ1 (fun rb δ2 => opt (storeV j rb δ2) fun δ3 => opt (setO δ3 i (some (.ow, .lst da))) N) E := by
    intro da δ1
    rw [wpS_bndS]
    constructor <;> intro h <;> refine wp_mono h (fun r δ2 h => ?_) (fun _ _ h => h)
    · unfold wpS at h
      unfold opt setO
      cases q : storeV j r δ2 with
      | none => simp only [q] at h
      | some δ3 =>
        simp only [q] at h ⊢
        by_cases e : i < δ3.length
        · simp only [e, if_true] at h ⊢; exact h
        · simp only [e, if_false] at h
    · unfold opt setO at h
      unfold wpS
      cases q : storeV j r δ2 with
      | none => simp only [q] at h
      | some δ3 =>
        simp only [q] at h ⊢
        by_cases e : i < δ3.length
        · simp only [e, if_true] at h ⊢; exact h
        · simp only [e, if_false] at h
  constructor <;> intro h <;> refine wp_mono h (fun r δ1 h => ?_) (fun _ _ h => h)
  · unfold newL
    split at h
    · exact (key _ _).mp h
    · exact h.elim
  · cases r with
    | own k => exact h.elim
    | val d n =>
      cases n with
      | false => cases d <;> exact h.elim
      | true =>
        cases d with
        | lst ds => exact (key _ _).mpr h
        | _ => exact h.elim
/-! errors -/
theorem wpS_raise {C : Addr} {ns : List Str} {fa : FA} {N : Env' → Prop} {R : RV → Env' → Prop} {B C' : Env' → Prop} : wpS (sRaise C ns fa) δ N R B C' E ↔ wp fa δ (fun rs δ1 => wp (gives rs) δ1 (fun ds δ2 => ask (ds.length = ns.length ∧ ds.length ≤ 1000) (E ⟨C, (ns.zip ds).reverse⟩ δ2)) E) E := by
  unfold sRaise
  rw [wpS_bndS]
  constructor <;> intro h <;> refine wp_mono h (fun rs δ1 h => ?_) (fun _ _ h => h)
  · rw [wpS_bndS] at h
    refine wp_mono h (fun ds δ2 h => ?_) (fun _ _ h => h)
    unfold wpS at h
    by_cases e : ds.length = ns.length ∧ ds.length ≤ 1000
    · simp only [if_pos e] at h
      exact ⟨e, h⟩
    · simp only [if_neg e] at h
  · rw [wpS_bndS]
    refine wp_mono h (fun ds δ2 h => ?_) (fun _ _ h => h)
    unfold wpS
    simp only [if_pos (show ds.length = ns.length ∧ ds.length ≤ 1000 from h.1)]; exact h.2
theorem wp_heard {hok : An} {her : Exc → An} {fb : FE} {Q : RV → Env' → Prop} : wp (eHeard hok her fb) δ Q E ↔ wp fb δ (fun _ δ' => opt2 hok fun d n => Q (.val d n) δ') fun x δ' => opt2 (her x) fun d n => Q (.val d n) δ' := by
  cases q : fb δ with
  | ok r δ' =>
    have := wp_fin (δ := δ') (o := hok) (Q := Q) (E := E)
    unfold wp at this
    simp only [wp, eHeard, q]; exact this
  | err x δ' =>
    have := wp_fin (δ := δ') (o := her x) (Q := Q) (E := E)
    unfold wp at this
    simp only [wp, eHeard, q]; exact this
  | bad => simp only [wp, eHeard, q]
end
end TM
set_option maxRecDepth 100000
set_option maxHeartbeats 4000000
/-! W4: the rules for simp: at written frames -/
namespace TM
open PySem PySem.Spec PyProof.Rows L2
variable [Tbs]
section
variable {α β : Type} {s : SlD} {δ : Env'} {E : Exc → Env' → Prop}
@[simp ↓] theorem cwp_bnd {f : M β} {g : β → M α} : wp (bnd f g) (s :: δ) Q E ↔ wp f (s :: δ) (fun a δ' => wp (g a) δ' Q E) E := wp_bnd
@[simp ↓] theorem cwp_ret {a : α} : wp (ret' a) (s :: δ) Q E ↔ Q a (s :: δ) := wp_ret
@[simp ↓] theorem cwp_bad : wp (bad' : M α) (s :: δ) Q E ↔ False := wp_bad
@[simp ↓] theorem cwpS_bndS {f : M β} {g : β → FS} : wpS (bndS f g) (s :: δ) N R B C E ↔ wp f (s :: δ) (fun a δ' => wpS (g a) δ' N R B C E) E := wpS_bndS
@[simp ↓] theorem cwpS_seq {f g : FS} : wpS (sSeq f g) (s :: δ) N R B C E ↔ wpS f (s :: δ) (fun δ' => wpS g δ' N R B C E) R B C E := wpS_seq
@[simp ↓] theorem cwpS_if {c : FT} {f g : FS} : wpS (sIf c f g) (s :: δ) N R B C E ↔ wp c (s :: δ) (fun b δ' => cnd b (wpS f δ' N R B C E) (wpS g δ' N R B C E)) E := wpS_if
@[simp ↓] theorem cwpS_ret {f : FE} : wpS (sRet f) (s :: δ) N R B C E ↔ wp f (s :: δ) R E := wpS_ret
@[simp ↓] theorem cwpS_retN : wpS sRetN (s :: δ) N R B C E ↔ R (.val .non false) (s :: δ) := wpS_retN
@[simp ↓] theorem cwpS_nx : wpS sNext (s :: δ) N R B C E ↔ N (s :: δ) := wpS_nx
@[simp ↓] theorem cwpS_expr {f : FE} : wpS (sExpr f) (s :: δ) N R B C E ↔ wp f (s :: δ) (fun _ δ' => N δ') E := wpS_expr
@[simp ↓] theorem cwpS_set {i : Nat} {f : FE} : wpS (sSet i f) (s :: δ) N R B C E ↔ wp f (s :: δ) (fun r δ1 => opt (storeV i r δ1) N) E := wpS_set
@[simp ↓] theorem cwpS_asgG {a : FG} {f : FE} : wpS (sAsgG a f) (s :: δ) N R B C E ↔ wp f (s :: δ) (fun r δ1 => opt2 (give δ1 r) fun d δ2 => opt (a d δ2) N) E := wpS_asgG
@[simp ↓] theorem cwpS_par {is : List Nat} {fa : FA} : wpS (sPar is fa) (s :: δ) N R B C E ↔ wp fa (s :: δ) (fun rs δ1 => wp (gives rs) δ1 (fun ds δ2 => opt (setShs is ds δ2) N) E) E := wpS_par
@[simp ↓] theorem cwp_var {i : Nat} : wp (eVar i) (s :: δ) Q E ↔ vK (s :: δ)[i]? i fun r => Q r (s :: δ) := wp_var
@[simp ↓] theorem cwp_C {d : D} : wp (eC d) (s :: δ) Q E ↔ Q (.val d false) (s :: δ) := wp_C
@[simp ↓] theorem cwp_e2 {g : D → D → An} {fa fb : FE} : wp (e2 g fa fb) (s :: δ) Q E ↔ wp fa (s :: δ) (fun ra δ1 => wp fb δ1 (fun rb δ2 => opt (ra.tree δ2) fun x => opt (rb.tree δ2) fun y => opt2 (g x y) fun d n => Q (.val d n) δ2) E) E := wp_e2
@[simp ↓] theorem cwp_e1 {g : D → An} {fa : FE} : wp (e1 g fa) (s :: δ) Q E ↔ wp fa (s :: δ) (fun ra δ1 => opt (ra.tree δ1) fun x => opt2 (g x) fun d n => Q (.val d n) δ1) E := wp_e1
@[simp ↓] theorem cwp_N {g : List D → An} {fa : FA} : wp (eN g fa) (s :: δ) Q E ↔ wp fa (s :: δ) (fun rs δ1 => opt (trees δ1 rs) fun xs => opt2 (g xs) fun d n => Q (.val d n) δ1) E := wp_N
@[simp ↓] theorem cwp_S1 {g : Str → D → An} {fo fa : FE} : wp (eS1 g fo fa) (s :: δ) Q E ↔ wp fo (s :: δ) (fun ro δ1 => opt (ro.tree δ1) fun s => opt (match s with | .str s => some s | _ => none) fun s => wp fa δ1 (fun ra δ2 => opt (ra.tree δ2) fun y => opt2 (g s y) fun d n => Q (.val d n) δ2) E) E := wp_S1
@[simp ↓] theorem cwp_nil {Q : List RV → Env' → Prop} : wp aNil (s :: δ) Q E ↔ Q [] (s :: δ) := wp_nil
@[simp ↓] theorem cwp_cons {f : FE} {g : FA} {Q : List RV → Env' → Prop} : wp (aCons f g) (s :: δ) Q E ↔ wp f (s :: δ) (fun r δ1 => wp g δ1 (fun rs δ2 => Q (r :: rs) δ2) E) E := wp_cons
@[simp ↓] theorem cwp_pair {fk fv : FE} {g : FA} {Q : List RV → Env' → Prop} : wp (aPair fk fv g) (s :: δ) Q E ↔ wp fk (s :: δ) (fun rk δ1 => wp fv δ1 (fun rv δ2 => wp g δ2 (fun rs δ3 => Q (rk :: rv :: rs) δ3) E) E) E := wp_pair
@[simp ↓] theorem cwp_gives0 {Q : List D → Env' → Prop} : wp (gives []) (s :: δ) Q E ↔ Q [] (s :: δ) := wp_gives0
@[simp ↓] theorem cwp_gives {r : RV} {rs : List RV} {Q : List D → Env' → Prop} : wp (gives (r :: rs)) (s :: δ) Q E ↔ opt2 (give (s :: δ) r) fun d δ1 => wp (gives rs) δ1 (fun ds δ2 => Q (d :: ds) δ2) E := wp_gives
@[simp ↓] theorem cwp_lst {fa : FA} : wp (eLst fa) (s :: δ) Q E ↔ wp fa (s :: δ) (fun rs δ1 => wp (gives rs) δ1 (fun ds δ2 => ask (ds.length ≤ 16777216) (Q (.val (.lst ds) true) δ2)) E) E := wp_lst
@[simp ↓] theorem cwp_tup {fa : FA} : wp (eTup fa) (s :: δ) Q E ↔ wp fa (s :: δ) (fun rs δ1 => wp (gives rs) δ1 (fun ds δ2 => ask (ds.length ≤ 16777216) (Q (.val (.tup ds) false) δ2)) E) E := wp_tup
@[simp ↓] theorem cwp_dct0 : wp eDct0 (s :: δ) Q E ↔ Q (.val (.dct []) true) (s :: δ) := wp_dct0
@[simp ↓] theorem cwp_dct {fa : FA} : wp (eDct fa) (s :: δ) Q E ↔ wp fa (s :: δ) (fun rs δ1 => wp (gives rs) δ1 (fun ds δ2 => opt (pairsD ds) fun kds => ask (kds.length ≤ 15) (Q (.val (.dct (mergeD [] kds)) true) δ2)) E) E := wp_dct
@[simp ↓] theorem cwp_bl {f : FE} {Q : Bool → Env' → Prop} : wp (tBl f) (s :: δ) Q E ↔ wp f (s :: δ) (fun r δ1 => opt (match r with | .val (.bl b) false => some b | _ => none) fun b => Q b δ1) E := wp_bl
@[simp ↓] theorem cwp_tru {f : FE} {Q : Bool → Env' → Prop} : wp (tTru f) (s :: δ) Q E ↔ wp f (s :: δ) (fun r δ1 => opt (r.tree δ1) fun d => opt (dTru d) fun b => Q b δ1) E := wp_tru
@[simp ↓] theorem cwp_not {f : FT} {Q : Bool → Env' → Prop} : wp (tNot' f) (s :: δ) Q E ↔ wp f (s :: δ) (fun b δ1 => Q (!b) δ1) E := wp_not
@[simp ↓] theorem cwp_test {f : FT} : wp (eTest f) (s :: δ) Q E ↔ wp f (s :: δ) (fun b δ1 => Q (.val (.bl b) false) δ1) E := wp_test
@[simp ↓] theorem cwp_eNot {f : FE} : wp (eNot f) (s :: δ) Q E ↔ wp f (s :: δ) (fun r δ1 => opt (r.tree δ1) fun d => opt (dTru d) fun b => Q (.val (.bl (!b)) false) δ1) E := wp_eNot
@[simp ↓] theorem cwp_eOr {f g : FE} : wp (eOr f g) (s :: δ) Q E ↔ wp f (s :: δ) (fun r δ1 => opt (r.tree δ1) fun d => opt (dTru d) fun b => cnd b (Q r δ1) (wp g δ1 Q E)) E := wp_eOr
@[simp ↓] theorem cwp_eAnd {f g : FE} : wp (eAnd f g) (s :: δ) Q E ↔ wp f (s :: δ) (fun r δ1 => opt (r.tree δ1) fun d => opt (dTru d) fun b => cnd b (wp g δ1 Q E) (Q r δ1)) E := wp_eAnd
@[simp ↓] theorem cwp_ifC {c : FT} {x y : D} : wp (eIf c (eC x) (eC y)) (s :: δ) Q E ↔ wp c (s :: δ) (fun b δ1 => Q (.val (bif b then x else y) false) δ1) E := wp_ifC
@[simp ↓] theorem cwp_none {Q : Option Int → Env' → Prop} : wp oNone (s :: δ) Q E ↔ Q none (s :: δ) := wp_none
@[simp ↓] theorem cwp_some {f : FE} {Q : Option Int → Env' → Prop} : wp (oSome f) (s :: δ) Q E ↔ wp f (s :: δ) (fun r δ1 => opt (r.tree δ1) fun d => opt (match d with | .int i => some i | _ => none) fun i => Q (some i) δ1) E := wp_some
@[simp ↓] theorem cwp_sl {fa : FE} {fl fh : FO} : wp (eSl fa fl fh) (s :: δ) Q E ↔ wp fa (s :: δ) (fun r δ1 => wp fl δ1 (fun l δ2 => wp fh δ2 (fun u δ3 => opt (r.tree δ3) fun x => opt2 (dSl x l u) fun d n => Q (.val d n) δ3) E) E) E := wp_sl
@[simp ↓] theorem cwp_chain {g g' : D → D → An} {fa fb fc : FE} : wp (eChain g g' fa fb fc) (s :: δ) Q E ↔ wp fa (s :: δ) (fun ra δ1 => wp fb δ1 (fun rb δ2 => opt (ra.tree δ2) fun x => opt (rb.tree δ2) fun y => opt2 (g x y) fun d n =>
    opt (match d, n with | .bl b, false => some b | _, _ => none) fun b => cnd b (wp fc δ2 (fun rc δ3 => opt (rb.tree δ3) fun y => opt (rc.tree δ3) fun z => opt2 (g' y z) fun d n => Q (.val d n) δ3) E) (Q (.val (.bl false) false) δ2)) E) E := wp_chain
@[simp ↓] theorem cwp_call {n : Nat} {F : FF} {fa : FA} : wp (eCall n F fa) (s :: δ) Q E ↔ wp fa (s :: δ) (fun rs δ1 => callK n F rs δ1 Q E) E := wp_call
@[simp ↓] theorem cwp_callK {m n : Nat} {is : List Nat} {F : FF} {fa : FA} : wp (eCallK m n is F fa) (s :: δ) Q E ↔ wp fa (s :: δ) (fun rs δ1 => ask (rs.length = m) (callK n F (pm is rs) δ1 Q E)) E := wp_callK
@[simp ↓] theorem cwp_seqI {f : FE} {Q : List D → Env' → Prop} : wp (iSeq f) (s :: δ) Q E ↔ wp f (s :: δ) (fun r δ1 => opt2 (give δ1 r) fun d δ2 => opt (iterD d) fun ds => Q ds δ2) E := wp_seqI
@[simp ↓] theorem cwp_rng1 {fa : FA} {Q : List D → Env' → Prop} : wp (iRng1 fa) (s :: δ) Q E ↔ wp fa (s :: δ) (fun rs δ1 => opt (trees δ1 rs) fun l => opt (rg1 l) fun ds => Q ds δ1) E := wp_rng1
@[simp ↓] theorem cwp_rng2 {fa : FA} {Q : List D → Env' → Prop} : wp (iRng2 fa) (s :: δ) Q E ↔ wp fa (s :: δ) (fun rs δ1 => opt (trees δ1 rs) fun l => opt (rg2 l) fun ds => Q ds δ1) E := wp_rng2
@[simp ↓] theorem cwp_enum {f : FE} {Q : List D → Env' → Prop} : wp (iEnumD (aCons f aNil)) (s :: δ) Q E ↔ wp f (s :: δ) (fun r δ1 => opt2 (give δ1 r) fun d δ2 => opt (lstD d) fun ds => Q (enumD ds) δ2) E := wp_enum
@[simp ↓] theorem cwp_zip {f g : FE} {Q : List D → Env' → Prop} : wp (iZipD (aCons f (aCons g aNil))) (s :: δ) Q E ↔ wp f (s :: δ) (fun r δ1 => wp g δ1 (fun r' δ2 => opt2 (give δ2 r) fun x δ3 => opt2 (give δ3 r') fun y δ4 => opt (zip2 x y) fun ds => Q ds δ4) E) E := wp_zip
@[simp ↓] theorem cforK_nil {a : FG} {body : FS} {N : Env' → Prop} {R : RV → Env' → Prop} : forK a body [] (s :: δ) N R E ↔ N (s :: δ) := forK_nil
@[simp ↓] theorem cwp_mut {i : Nat} {m : Mt} {fa : FA} {Q : RV → Env' → Prop} : wp (eMut i m fa) (s :: δ) Q E ↔ opt (isOwnL i (s :: δ)) fun _ => wp fa (s :: δ) (fun rs δ1 => wp (gives rs) δ1 (fun xs δ2 => opt2 (isOwnL i δ2) fun k ds => opt2 (m ds xs) fun ds' r => Q (.val r false) (δ2.set i (some (k, .lst ds')))) E) E := wp_mut
@[simp ↓] theorem cwpS_setIt {i : Nat} {fi fv : FE} {N : Env' → Prop} {R : RV → Env' → Prop} {B C : Env' → Prop} : wpS (sSetIt i fi fv) (s :: δ) N R B C E ↔ opt (isOwnL i (s :: δ)) fun _ => wp fv (s :: δ) (fun r δ1 => wp fi δ1 (fun ri δ2 => opt (ri.tree δ2) fun x => opt (asI x) fun k => opt2 (give δ2 r) fun d δ3 => opt2 (isOwnL i δ3) fun kd ds => opt (ixN ds.length k) fun j => N (δ3.set i (some (kd, .lst (ds.set j d))))) E) E := wpS_setIt
@[simp ↓] theorem cwpS_par2F {i j : Nat} {fa fb : FE} {N : Env' → Prop} {R : RV → Env' → Prop} {B C : Env' → Prop} : wpS (sPar2F i j fa fb) (s :: δ) N R B C E ↔ wp fa (s :: δ) (fun ra δ1 => opt (newL ra) fun da => wp fb δ1 (fun rb δ2 => opt (storeV j rb δ2) fun δ3 => opt (setO δ3 i (some (.ow, .lst da))) N) E) E := wpS_par2F
@[simp ↓] theorem cwpS_raise {C : Addr} {ns : List Str} {fa : FA} {N : Env' → Prop} {R : RV → Env' → Prop} {B C' : Env' → Prop} : wpS (sRaise C ns fa) (s :: δ) N R B C' E ↔ wp fa (s :: δ) (fun rs δ1 => wp (gives rs) δ1 (fun ds δ2 => ask (ds.length = ns.length ∧ ds.length ≤ 1000) (E ⟨C, (ns.zip ds).reverse⟩ δ2)) E) E := wpS_raise
@[simp ↓] theorem cwp_heard {hok : An} {her : Exc → An} {fb : FE} {Q : RV → Env' → Prop} : wp (eHeard hok her fb) (s :: δ) Q E ↔ wp fb (s :: δ) (fun _ δ' => opt2 hok fun d n => Q (.val d n) δ') fun x δ' => opt2 (her x) fun d n => Q (.val d n) δ' := wp_heard
end
@[simp ↓] theorem cwpS_for {s : SlD} {δ : Env'} {E : Exc → Env' → Prop} {m : M (List D)} {a : FG} {body : FS} {N : Env' → Prop} {R : RV → Env' → Prop} {B C : Env' → Prop} : wpS (sFor m a body) (s :: δ) N R B C E ↔ wp m (s :: δ) (fun ds δ1 => forK a body ds δ1 N R E) E := wpS_for
@[simp ↓] theorem cwp_lc {s : SlD} {δ : Env'} {E : Exc → Env' → Prop} {src : M (List D)} {a : FG} {t : FT} {f : FE} {vs : List Nat} {Q : RV → Env' → Prop} : wp (eLc src a t f vs) (s :: δ) Q E ↔ wp src (s :: δ) (fun ds δ1 => lcK a t f vs ds δ1 Q) E := wp_lc
@[simp] theorem opt_some' {α : Type} {a : α} {k : α → Prop} : opt (some a) k ↔ k a := Iff.rfl
@[simp ↓] theorem opt_some'' {α : Type} {a : α} {k : α → Prop} : opt (some a) k ↔ k a := Iff.rfl
@[simp ↓] theorem opt2_some' {α β : Type} {a : α} {b : β} {k : α → β → Prop} : opt2 (some (a, b)) k ↔ k a b := Iff.rfl
@[simp] theorem opt2_some'' {α β : Type} {a : α} {b : β} {k : α → β → Prop} : opt2 (some (a, b)) k ↔ k a b := Iff.rfl
@[simp ↓] theorem opt_none' {α : Type} {k : α → Prop} : opt none k ↔ False := Iff.rfl
@[simp ↓] theorem opt2_none' {α β : Type} {k : α → β → Prop} : opt2 none k ↔ False := Iff.rfl
@[simp ↓] theorem cnd_true' {A B : Prop} : cnd true A B ↔ A := Iff.rfl
@[simp ↓] theorem cnd_false' {A B : Prop} : cnd false A B ↔ B := Iff.rfl
@[simp ↓] theorem ask_true' {A : Prop} : ask True A ↔ A := ask_true
@[simp] theorem opt_ite' {α : Type} {c : Prop} [Decidable c] {a : α} {k : α → Prop} : opt (if c then some a else none) k ↔ ask c (k a) := opt_ite
@[simp] theorem opt2_ite' {α β : Type} {c : Prop} [Decidable c] {a : α} {b : β} {k : α → β → Prop} : opt2 (if c then some (a, b) else none) k ↔ ask c (k a b) := opt2_ite
theorem ask_of {c A : Prop} (h : c) (q : A) : ask c A := ⟨h, q⟩
section
variable {s : SlD} {δ : Env'} {d : D} {i : Nat} {n : Bool} {k : SK} {rs : List RV} {as : List AD} {a : AD}
@[simp ↓] theorem cvK_sh {k : RV → Prop} : vK (some (some (.sh, d))) i k ↔ k (.val d false) := Iff.rfl
@[simp ↓] theorem cvK_ow {k : RV → Prop} : vK (some (some (.ow, d))) i k ↔ k (.own i) := Iff.rfl
@[simp ↓] theorem cvK_io {k : RV → Prop} : vK (some (some (.io, d))) i k ↔ k (.own i) := Iff.rfl
@[simp] theorem csetO_0 {x : SlD} : setO (s :: δ) 0 x = some (x :: δ) := setO_0
@[simp] theorem csetO_s {x : SlD} : setO (s :: δ) (i + 1) x = (setO δ i x).map (s :: ·) := setO_s
@[simp] theorem cstore_new : storeV i (.val d true) (s :: δ) = setO (s :: δ) i (some (.ow, d)) := rfl
@[simp] theorem cstore_old : storeV i (.val d false) (s :: δ) = setO (s :: δ) i (some (.sh, d)) := rfl
@[simp] theorem cstore_own {j : Nat} : storeV i (.own j) (s :: δ) = (give (s :: δ) (.own j)).bind fun p => setO p.2 i (some (.sh, p.1)) := store_own
@[simp] theorem cgSet_eq : gSet i d (s :: δ) = setO (s :: δ) i (some (.sh, d)) := rfl
@[simp] theorem cgsNil_nil : gsNil [] δ = some δ := rfl
@[simp] theorem cgsCons_cons {a : FG} {b : List D → Env' → Option Env'} {ds : List D} : gsCons a b (d :: ds) δ = (a d δ).bind (b ds) := rfl
@[simp] theorem cgTup_tup {b : List D → Env' → Option Env'} {n : Nat} {ds : List D} : gTupD n b (.tup ds) δ = if ds.length = n then b ds δ else none := rfl
@[simp] theorem ctree_val : RV.tree δ (.val d n) = some d := rfl
@[simp] theorem cdSlot_some : dSlot (some (some (k, d))) = some d := rfl
@[simp] theorem ctree_own : RV.tree (s :: δ) (.own i) = dSlot (s :: δ)[i]? := tree_own
@[simp] theorem ctrees_nil : trees δ [] = some [] := rfl
@[simp] theorem ctrees_cons {r : RV} : trees (s :: δ) (r :: rs) = (r.tree (s :: δ)).bind fun d => (trees (s :: δ) rs).map (d :: ·) := trees_cons
@[simp] theorem cgive_val : give δ (.val d n) = some (d, δ) := rfl
@[simp] theorem cgvK_sh : gvK δ i (some (some (.sh, d))) = some (d, δ) := rfl
@[simp] theorem cgvK_ow : gvK δ i (some (some (.ow, d))) = some (d, δ.set i (some (.sh, d))) := rfl
@[simp] theorem cgive_own : give (s :: δ) (.own i) = gvK (s :: δ) i (s :: δ)[i]? := give_own
@[simp] theorem csetShs_nil : setShs [] [] δ = some δ := rfl
@[simp] theorem csetShs_cons {is : List Nat} {ds : List D} : setShs (i :: is) (d :: ds) δ = (setO δ i (some (.sh, d))).bind (setShs is ds) := setShs_cons
@[simp] theorem crtK_sh : rtK (some (some (.sh, d))) = some (d, false) := rfl
@[simp] theorem crtK_ow : rtK (some (some (.ow, d))) = some (d, true) := rfl
@[simp] theorem cretV_val : retV δ (.val d n) = some (d, n) := rfl
@[simp] theorem cretV_own : retV (s :: δ) (.own i) = rtK (s :: δ)[i]? := retV_own
@[simp] theorem cfins_nil : fins i [] δ = some [] := rfl
@[simp] theorem cfins_sh : fins i (.sh d :: as) (s :: δ) = (fins (i + 1) as (s :: δ)).map (.sh d :: ·) := rfl
@[simp] theorem cfnK_io : fnK (some (some (.io, d))) = some d := rfl
@[simp] theorem cfins_io : fins i (.io d :: as) (s :: δ) = (fnK (s :: δ)[i]?).bind fun d' => (fins (i + 1) as (s :: δ)).map (AD.io d' :: ·) := finsE_io
@[simp] theorem cargs_nil : argsOf δ [] = some [] := rfl
@[simp] theorem cargs_val : argsOf (s :: δ) (.val d n :: rs) = (argsOf (s :: δ) rs).map (.sh d :: ·) := args_val
@[simp] theorem cagK_sh : agK (some (some (.sh, d))) = some (.sh d) := rfl
@[simp] theorem cagK_ow : agK (some (some (.ow, d))) = some (.io d) := rfl
@[simp] theorem cagK_io : agK (some (some (.io, d))) = some (.io d) := rfl
@[simp] theorem cargs_own : argsOf (s :: δ) (.own i :: rs) = (agK (s :: δ)[i]?).bind fun a => (argsOf (s :: δ) rs).map (a :: ·) := args_own
@[simp] theorem cownIx_nil : ownIx [] = [] := rfl
@[simp] theorem cownIx_own : ownIx (.own i :: rs) = i :: ownIx rs := rfl
@[simp] theorem cownIx_val : ownIx (.val d n :: rs) = ownIx rs := rfl
@[simp] theorem cput_nil : putBack δ [] [] = some δ := rfl
@[simp] theorem cput_val : putBack δ (.val d n :: rs) (a :: as) = putBack δ rs as := rfl
@[simp] theorem cpbK_sh : pbK δ i (some (some (.sh, d))) a = some δ := rfl
@[simp] theorem cpbK_io {d' : D} : pbK δ i (some (some (.io, d))) (.io d') = some (δ.set i (some (.io, d'))) := rfl
@[simp] theorem cpbK_ow {d' : D} : pbK δ i (some (some (.ow, d))) (.io d') = some (δ.set i (some (.ow, d'))) := rfl
@[simp] theorem cput_own : putBack (s :: δ) (.own i :: rs) (a :: as) = (pbK (s :: δ) i (s :: δ)[i]? a).bind fun δ' => putBack δ' rs as := put_own
@[simp] theorem colK_ow {ds : List D} : olK (some (some (.ow, .lst ds))) = some (.ow, ds) := rfl
@[simp] theorem colK_io {ds : List D} : olK (some (some (.io, .lst ds))) = some (.io, ds) := rfl
@[simp] theorem cisOwnL_eq : isOwnL i (s :: δ) = olK (s :: δ)[i]? := isOwnL_eq
@[simp] theorem cnewL {ds : List D} : newL (.val (.lst ds) true) = some ds := rfl
@[simp] theorem casI {i : Int} : asI (.int i) = some i := rfl
@[simp] theorem cslot_sh : AD.slot (.sh d) = some (.sh, d) := rfl
@[simp] theorem cslot_io : AD.slot (.io d) = some (.io, d) := rfl
@[simp] theorem cwipe_0 : wipeE δ [] = δ := rfl
@[simp] theorem cwipe_s {v : Nat} {vs : List Nat} : wipeE (s :: δ) (v :: vs) = (wipeE (s :: δ) vs).set v none := rfl
@[simp] theorem crestS_0 {δ1 : Env'} : restS [] δ1 δ = δ := rfl
@[simp] theorem crestS_s {v : Nat} {vs : List Nat} {s1 : SlD} {δ1 : Env'} : restS (v :: vs) (s1 :: δ1) (s :: δ) = (restS vs (s1 :: δ1) (s :: δ)).set v (((s1 :: δ1)[v]?).getD none) := rfl
@[simp ↓] theorem cwpF_ok {d : D} {n : Bool} {fin : List AD} {K : D → Bool → List AD → Prop} {E : Exc → List AD → Prop} : wpF (.ok d n fin) K E ↔ K d n fin := Iff.rfl
@[simp ↓] theorem cwpF_er {x : Exc} {fin : List AD} {K : D → Bool → List AD → Prop} {E : Exc → List AD → Prop} : wpF (.er x fin) K E ↔ E x fin := Iff.rfl
@[simp ↓] theorem ccallK {n : Nat} {F : FF} {rs : List RV} {Q : RV → Env' → Prop} {E : Exc → Env' → Prop} : callK n F rs (s :: δ) Q E ↔ opt (argsOf (s :: δ) rs) fun ads => ask (ads.length = n ∧ (ownIx rs).Nodup) (wpF (F ads) (fun d new fin => opt (putBack (s :: δ) rs fin) fun δ' => Q (.val d new) δ') fun x fin => opt (putBack (s :: δ) rs fin) fun δ' => E x δ') := Iff.rfl
@[simp] theorem okSlots_0 {δ : Env'} : okSlots [] δ = true := rfl
def oks : Option SlD → Bool
  | some none => true
  | some (some (.sh, _)) => true
  | _ => false
@[simp] theorem oks_n : oks (some none) = true := rfl
@[simp] theorem oks_sh : oks (some (some (.sh, d))) = true := rfl
@[simp] theorem okSlots_s {v : Nat} {vs : List Nat} : okSlots (v :: vs) δ = (oks δ[v]? && okSlots vs δ) := by
  have e : oks δ[v]? = (match δ[v]? with
    | some none => true
    | some (some (.sh, _)) => true
    | _ => false) := by rcases δ[v]? with _ | (_ | ⟨k, d⟩) <;> first | rfl | (cases k <;> rfl)
  unfold okSlots
  rw [List.all_cons, e]
  try rfl
end
/-! operations -/
section
variable {i j : Int} {a b : Bool} {x y : Str} {xs ys : List D} {d : D}
@[simp] theorem aAdd_i : dAdd (.int i) (.int j) = some (.int (i + j), false) := rfl
@[simp] theorem aAdd_s : dAdd (.str x) (.str y) = if x.length + y.length ≤ 16777216 then some (.str (x ++ y), false) else none := rfl
@[simp] theorem aAdd_l : dAdd (.lst xs) (.lst ys) = if xs.length + ys.length ≤ 16777216 then some (.lst (xs ++ ys), true) else none := rfl
@[simp] theorem aSub : dSub (.int i) (.int j) = some (.int (i - j), false) := rfl
@[simp] theorem aNeg : dNeg (.int i) = some (.int (-i), false) := rfl
@[simp] theorem aMul {k : D → Bool → Prop} : opt2 (dMul (.int i) (.int j)) k ↔ ask ((-18446744073709551616 < i ∧ i < 18446744073709551616) ∨ (-18446744073709551616 < j ∧ j < 18446744073709551616)) (k (.int (i * j)) false) := by
  unfold dMul
  rw [opt2_ite]
  simp [cMul]
@[simp] theorem aDiv {k : D → Bool → Prop} : opt2 (dDiv (.int i) (.int j)) k ↔ ask (0 < j ∧ j < 1606938044258990275541962092341162602522202993782792835301376) (k (.int (i / j)) false) := by
  unfold dDiv dI
  simp only []
  rw [opt2_ite]
  simp [cDivW]
@[simp] theorem aMod {k : D → Bool → Prop} : opt2 (dMod (.int i) (.int j)) k ↔ ask (0 < j) (k (.int (i % j)) false) := by
  unfold dMod dI
  simp only []
  rw [opt2_ite]
  simp [cMod]
@[simp] theorem aPow {k : D → Bool → Prop} : opt2 (dPow (.int i) (.int j)) k ↔ ask (0 ≤ j ∧ j ≤ 1000000 ∧ i.natAbs < 18446744073709551616) (k (.int (i ^ j.toNat)) false) := by
  unfold dPow dI
  simp only []
  rw [opt2_ite]
  simp [cPow, and_assoc]
@[simp] theorem aLt_i : dLt (.int i) (.int j) = some (.bl (decide (i < j)), false) := rfl
@[simp] theorem aLe_i : dLe (.int i) (.int j) = some (.bl (decide (i ≤ j)), false) := rfl
@[simp] theorem aGt_i : dGt (.int i) (.int j) = some (.bl (decide (j < i)), false) := rfl
@[simp] theorem aGe_i : dGe (.int i) (.int j) = some (.bl (decide (j ≤ i)), false) := rfl
@[simp] theorem aLt_s : dLt (.str x) (.str y) = some (.bl (sLt x y), false) := rfl
@[simp] theorem aLe_s : dLe (.str x) (.str y) = some (.bl (!sLt y x), false) := rfl
@[simp] theorem aGt_s : dGt (.str x) (.str y) = some (.bl (sLt y x), false) := rfl
@[simp] theorem aGe_s : dGe (.str x) (.str y) = some (.bl (!sLt x y), false) := rfl
@[simp] theorem aIsN {n : Bool} : dIsN n d .non = some (.bl (if n then !isNon d else isNon d), false) := rfl
@[simp] theorem isNon_non : isNon .non = true := rfl
@[simp] theorem isNon_int : isNon (.int i) = false := rfl
@[simp] theorem isNon_str : isNon (.str x) = false := rfl
@[simp] theorem isNon_bl : isNon (.bl a) = false := rfl
@[simp] theorem isNon_lst : isNon (.lst xs) = false := rfl
@[simp] theorem isNon_tup : isNon (.tup xs) = false := rfl
@[simp] theorem aIdx_l : dIdx (.lst xs) (.int i) = (atI xs i).map fun d => (d, false) := rfl
@[simp] theorem aIdx_t : dIdx (.tup xs) (.int i) = (atI xs i).map fun d => (d, false) := rfl
@[simp] theorem aIdx_s : dIdx (.str x) (.int i) = if x.length ≤ 16777216 then (atI x.cps.toList i).map fun c => (.str ⟨#[c]⟩, false) else none := rfl
@[simp] theorem aLen_l : dLen [.lst xs] = some (.int xs.length, false) := rfl
@[simp] theorem aLen_t : dLen [.tup xs] = some (.int xs.length, false) := rfl
@[simp] theorem aLen_s : dLen [.str x] = if x.length ≤ 16777216 then some (.int x.length, false) else none := rfl
@[simp] theorem aAbs : dAbs [.int i] = some (.int (if i < 0 then -i else i), false) := rfl
@[simp] theorem aMax2 : dMax2 [.int i, .int j] = some (.int (if j > i then j else i), false) := rfl
@[simp] theorem aMin2 : dMin2 [.int i, .int j] = some (.int (if j < i then j else i), false) := rfl
@[simp] theorem aInt_i : dInt [.int i] = some (.int i, false) := rfl
@[simp] theorem aInt_b : dInt [.bl a] = some (.int (if a then 1 else 0), false) := rfl
@[simp] theorem aTuple_l : dTuple [.lst xs] = some (.tup xs, false) := rfl
@[simp] theorem aTuple_t : dTuple [.tup xs] = some (.tup xs, false) := rfl
@[simp] theorem aListA_l : dListA [.lst xs] = some (.lst xs, true) := rfl
@[simp] theorem aListA_t : dListA [.tup xs] = some (.lst xs, true) := rfl
@[simp] theorem aListA_s : dListA [.str x] = if x.length ≤ 16777216 then some (.lst (signs x), true) else none := rfl
@[simp] theorem aAll : dAll [.lst xs] = (bools xs).map fun bs => (.bl (bs.all id), false) := rfl
@[simp] theorem aAny : dAny [.lst xs] = (bools xs).map fun bs => (.bl (bs.any id), false) := rfl
@[simp] theorem aIter_l : iterD (.lst xs) = some xs := rfl
@[simp] theorem aIter_t : iterD (.tup xs) = some xs := rfl
@[simp] theorem aIter_s : iterD (.str x) = some (signs x) := rfl
@[simp] theorem aLstD : lstD (.lst xs) = some xs := rfl
@[simp] theorem aZip_l : zip2 (.lst xs) (.lst ys) = some (zipD xs ys) := rfl
@[simp] theorem aZip_t : zip2 (.tup xs) (.tup ys) = some (zipD xs ys) := rfl
@[simp] theorem aRg1 {k : List D → Prop} : opt (rg1 [.int j]) k ↔ ask (-4611686018427387904 ≤ j ∧ j < 4611686018427387904) (k (rngD 0 j.toNat)) := by
  unfold rg1
  rw [opt_ite]
  simp [okR]
@[simp] theorem aRg2 {k : List D → Prop} : opt (rg2 [.int i, .int j]) k ↔ ask ((-4611686018427387904 ≤ i ∧ i < 4611686018427387904) ∧ (-4611686018427387904 ≤ j ∧ j < 4611686018427387904)) (k (rngD i (j - i).toNat)) := by
  unfold rg2
  rw [opt_ite]
  simp [okR]
@[simp] theorem aSl_l {l u : Option Int} : dSl (.lst xs) l u = some (.lst (cutL xs l u), true) := rfl
@[simp] theorem aSl_f {l u : Option Int} : dSl (.fz xs) l u = some (.lst (cutL xs l u), true) := rfl
@[simp] theorem aSl_t {l u : Option Int} : dSl (.tup xs) l u = some (.tup (cutL xs l u), false) := rfl
@[simp] theorem aSl_s {l u : Option Int} : dSl (.str x) l u = if x.length ≤ 16777216 then some (.str (cutS x l u), false) else none := rfl
@[simp] theorem aRev : dRev (.lst xs) = some (.lst xs.reverse, true) := rfl
@[simp] theorem aTru_n : dTru .non = some false := rfl
@[simp] theorem aTru_b : dTru (.bl a) = some a := rfl
@[simp] theorem aTru_i : dTru (.int i) = some (i != 0) := rfl
@[simp] theorem aTru_l : dTru (.lst xs) = some (!xs.isEmpty) := rfl
@[simp] theorem aTru_t : dTru (.tup xs) = some (!xs.isEmpty) := rfl
@[simp] theorem aTru_s : dTru (.str x) = if x.length ≤ 16777216 then some ((x.length : Int) != 0) else none := rfl
@[simp] theorem aAppend : mAppend xs [d] = if xs.length < 16777216 then some (xs ++ [d], .non) else none := rfl
def subIn (x y : Str) : Bool := !(Builtin.Str.occurrences y x 0 y.length 1).isEmpty
@[simp] theorem aIn_s {n : Bool} : dIn n (.str x) (.str y) = some (.bl (if n then !subIn x y else subIn x y), false) := rfl
end
end TM
set_option maxRecDepth 100000
set_option maxHeartbeats 4000000
/-! W5: written places, equality of data -/
namespace TM
open PySem PySem.Spec PyProof.Rows L2
variable [Tbs]
section
variable {α : Type} {xs : List α} {n : Nat}
theorem ixN_nat {m : Nat} : ixN n (m : Int) = if m < n then some m else none := by
  unfold ixN
  rw [if_pos (Int.natCast_nonneg m)]
  by_cases h : m < n
  · rw [if_pos (by omega), if_pos h, Int.toNat_natCast]
  · rw [if_neg (by omega), if_neg h]
theorem atI_nat' {m : Nat} : atI xs (m : Int) = xs[m]? := by
  unfold atI
  rw [ixN_nat]
  by_cases h : m < xs.length
  · rw [if_pos h]; rfl
  · rw [if_neg h, List.getElem?_eq_none (by omega)]; rfl
@[simp] theorem catI_nat {m : Nat} : atI xs (m : Int) = xs[m]? := atI_nat'
@[simp] theorem catI_lit {m : Nat} : atI xs (no_index (OfNat.ofNat m)) = xs[(OfNat.ofNat m : Nat)]? := atI_nat' (m := m)
@[simp] theorem catI_0 : atI xs 0 = xs[0]? := atI_nat' (m := 0)
@[simp] theorem catI_1 : atI xs 1 = xs[1]? := atI_nat' (m := 1)
@[simp] theorem cixN_lit {m : Nat} : ixN n (no_index (OfNat.ofNat m)) = if (OfNat.ofNat m : Nat) < n then some (OfNat.ofNat m : Nat) else none := ixN_nat (m := m)
@[simp] theorem cixN_0 : ixN n 0 = if 0 < n then some 0 else none := ixN_nat (m := 0)
@[simp] theorem cixN_1 : ixN n 1 = if 1 < n then some 1 else none := ixN_nat (m := 1)
@[simp] theorem cixN_nat {m : Nat} : ixN n (m : Int) = if m < n then some m else none := ixN_nat
@[simp] theorem catI_s {m k : Nat} : atI xs ((m : Int) + no_index (OfNat.ofNat k)) = xs[m + (OfNat.ofNat k)]? := atI_nat' (m := m + k)
@[simp] theorem catI_s1 {m : Nat} : atI xs ((m : Int) + 1) = xs[m + 1]? := atI_nat' (m := m + 1)
@[simp] theorem catI_1s {m : Nat} : atI xs (1 + (m : Int)) = xs[m + 1]? := by rw [Int.add_comm]; exact atI_nat' (m := m + 1)
theorem atI_mem {i : Int} (h : 0 ≤ i) (h2 : i < xs.length) : ∃ x, atI xs i = some x ∧ x ∈ xs := by
  obtain ⟨m, rfl⟩ : ∃ m : Nat, i = m := ⟨i.toNat, by omega⟩
  have h3 : m < xs.length := by omega
  exact ⟨xs[m], by rw [atI_nat', List.getElem?_eq_getElem h3], List.getElem_mem h3⟩
theorem cut_take {m : Nat} : cutL xs none (some (m : Int)) = xs.take m := by
  unfold cutL
  rw [HT.sIx_none, HT.sIx_nat, List.drop_zero, Nat.sub_zero]
  by_cases h : m ≤ xs.length
  · rw [Nat.min_eq_left h]
  · rw [Nat.min_eq_right (by omega), List.take_of_length_le (by omega), List.take_of_length_le (by omega)]
theorem cut_drop {m : Nat} : cutL xs (some (m : Int)) none = xs.drop m := by
  unfold cutL
  rw [HT.sIx_none, HT.sIx_nat]
  by_cases h : m ≤ xs.length
  · rw [Nat.min_eq_left h, List.take_of_length_le (by simp)]
  · rw [Nat.min_eq_right (by omega), List.drop_of_length_le (by omega), List.drop_of_length_le (by omega)]; simp
@[simp] theorem ccut_take {m : Nat} : cutL xs none (some (m : Int)) = xs.take m := cut_take
@[simp] theorem ccut_take_l {m : Nat} : cutL xs none (some (no_index (OfNat.ofNat m))) = xs.take (OfNat.ofNat m) := cut_take (m := m)
@[simp] theorem ccut_take_1 : cutL xs none (some 1) = xs.take 1 := cut_take (m := 1)
@[simp] theorem ccut_take_0 : cutL xs none (some 0) = xs.take 0 := cut_take (m := 0)
@[simp] theorem ccut_drop {m : Nat} : cutL xs (some (m : Int)) none = xs.drop m := cut_drop
@[simp] theorem ccut_drop_l {m : Nat} : cutL xs (some (no_index (OfNat.ofNat m))) none = xs.drop (OfNat.ofNat m) := cut_drop (m := m)
@[simp] theorem ccut_drop_1 : cutL xs (some 1) none = xs.drop 1 := cut_drop (m := 1)
end
@[simp] theorem bif_int {b : Bool} {i j : Int} : (bif b then D.int i else D.int j) = D.int (bif b then i else j) := by cases b <;> rfl
@[simp] theorem bif_str {b : Bool} {i j : Str} : (bif b then D.str i else D.str j) = D.str (bif b then i else j) := by cases b <;> rfl
@[simp] theorem bif_lst {b : Bool} {i j : List D} : (bif b then D.lst i else D.lst j) = D.lst (bif b then i else j) := by cases b <;> rfl
/-! ### data -/
mutual
def dok : Nat → D → Bool
  | _, .non => true
  | _, .bl _ => true
  | _, .int _ => true
  | _, .str s => PyData.strOk s
  | n, .lst ds => match n with
    | 0 => false
    | n + 1 => doks n ds
  | n, .tup ds => match n with
    | 0 => false
    | n + 1 => doks n ds
  | _, _ => false
def doks : Nat → List D → Bool
  | _, [] => true
  | n, d :: ds => dok n d && doks n ds
end
mutual
def deq : D → D → Bool
  | .non, y => match y with
    | .non => true
    | _ => false
  | .bl a, y => match y with
    | .bl b => a == b
    | .int j => (if a then 1 else 0) == j
    | _ => false
  | .int i, y => match y with
    | .bl b => i == (if b then 1 else 0)
    | .int j => i == j
    | _ => false
  | .str s, y => match y with
    | .str t => s == t
    | _ => false
  | .lst xs, y => match y with
    | .lst ys => deqs xs ys
    | _ => false
  | .tup xs, y => match y with
    | .tup ys => deqs xs ys
    | _ => false
  | _, _ => false
def deqs : List D → List D → Bool
  | [], ys => match ys with
    | [] => true
    | _ => false
  | x :: xs, ys => match ys with
    | y :: ys => deq x y && deqs xs ys
    | [] => false
end
section
variable {n : Nat} {a b : Bool} {i j : Int} {x y : Str} {d e : D} {xs ys : List D}
@[simp] theorem dok_non : dok n .non = true := by simp only [dok]
@[simp] theorem dok_bl : dok n (.bl a) = true := by simp only [dok]
@[simp] theorem dok_int : dok n (.int i) = true := by simp only [dok]
@[simp] theorem dok_str : dok n (.str x) = PyData.strOk x := by simp only [dok]
@[simp] theorem dok_lst : dok (n + 1) (.lst xs) = doks n xs := by simp only [dok]
@[simp] theorem dok_tup : dok (n + 1) (.tup xs) = doks n xs := by simp only [dok]
@[simp] theorem doks_nil : doks n [] = true := by simp only [doks]
@[simp] theorem doks_cons : doks n (d :: xs) = (dok n d && doks n xs) := by simp only [doks]
theorem doks_all : doks n xs = xs.all (dok n) := by
  induction xs with
  | nil => simp
  | cons d xs ih => simp [ih]
@[simp] theorem deq_non : deq .non .non = true := by simp only [deq]
@[simp] theorem deq_bl : deq (.bl a) (.bl b) = (a == b) := by simp only [deq]
@[simp] theorem deq_int : deq (.int i) (.int j) = (i == j) := by simp only [deq]
@[simp] theorem deq_str : deq (.str x) (.str y) = (x == y) := by simp only [deq]
@[simp] theorem deq_lst : deq (.lst xs) (.lst ys) = deqs xs ys := by simp only [deq]
@[simp] theorem deq_tup : deq (.tup xs) (.tup ys) = deqs xs ys := by simp only [deq]
@[simp] theorem deqs_nil : deqs [] [] = true := by simp only [deqs]
@[simp] theorem deqs_cons : deqs (d :: xs) (e :: ys) = (deq d e && deqs xs ys) := by simp only [deqs]
@[simp] theorem deqs_nc : deqs [] (e :: ys) = false := by simp only [deqs]
@[simp] theorem deqs_cn : deqs (d :: xs) [] = false := by simp only [deqs]
@[simp] theorem deq_bi : deq (.bl a) (.int j) = ((if a then 1 else 0) == j) := by simp only [deq]
@[simp] theorem deq_ib : deq (.int i) (.bl b) = (i == (if b then 1 else 0)) := by simp only [deq]
@[simp] theorem deq_ns : deq .non (.str x) = false := by simp only [deq]
@[simp] theorem deq_ni : deq .non (.int i) = false := by simp only [deq]
@[simp] theorem deq_nb : deq .non (.bl a) = false := by simp only [deq]
@[simp] theorem deq_nl : deq .non (.lst xs) = false := by simp only [deq]
@[simp] theorem deq_nt : deq .non (.tup xs) = false := by simp only [deq]
@[simp] theorem deq_sn : deq (.str x) .non = false := by simp only [deq]
@[simp] theorem deq_si : deq (.str x) (.int i) = false := by simp only [deq]
@[simp] theorem deq_sb : deq (.str x) (.bl a) = false := by simp only [deq]
@[simp] theorem deq_sl : deq (.str x) (.lst xs) = false := by simp only [deq]
@[simp] theorem deq_st : deq (.str x) (.tup xs) = false := by simp only [deq]
@[simp] theorem deq_in : deq (.int i) .non = false := by simp only [deq]
@[simp] theorem deq_is : deq (.int i) (.str x) = false := by simp only [deq]
@[simp] theorem deq_il : deq (.int i) (.lst xs) = false := by simp only [deq]
@[simp] theorem deq_it : deq (.int i) (.tup xs) = false := by simp only [deq]
@[simp] theorem deq_bn : deq (.bl a) .non = false := by simp only [deq]
@[simp] theorem deq_bs : deq (.bl a) (.str x) = false := by simp only [deq]
@[simp] theorem deq_bll : deq (.bl a) (.lst xs) = false := by simp only [deq]
@[simp] theorem deq_blt : deq (.bl a) (.tup xs) = false := by simp only [deq]
@[simp] theorem deq_ln : deq (.lst xs) .non = false := by simp only [deq]
@[simp] theorem deq_ls : deq (.lst xs) (.str x) = false := by simp only [deq]
@[simp] theorem deq_li : deq (.lst xs) (.int i) = false := by simp only [deq]
@[simp] theorem deq_lb : deq (.lst xs) (.bl a) = false := by simp only [deq]
@[simp] theorem deq_lt : deq (.lst xs) (.tup ys) = false := by simp only [deq]
@[simp] theorem deq_tn : deq (.tup xs) .non = false := by simp only [deq]
@[simp] theorem deq_ts : deq (.tup xs) (.str x) = false := by simp only [deq]
@[simp] theorem deq_ti : deq (.tup xs) (.int i) = false := by simp only [deq]
@[simp] theorem deq_tb : deq (.tup xs) (.bl a) = false := by simp only [deq]
@[simp] theorem deq_tl : deq (.tup xs) (.lst ys) = false := by simp only [deq]
mutual
theorem dok_p : ∀ {d : D} {n : Nat}, dok n d = true → ∃ p, toP d = some p ∧ p.canLay0 = true ∧ p.depth ≤ n
  | .non, _, _ => ⟨_, rfl, rfl, Nat.zero_le _⟩
  | .bl _, _, _ => ⟨_, rfl, rfl, Nat.zero_le _⟩
  | .int _, _, _ => ⟨_, rfl, rfl, Nat.zero_le _⟩
  | .str s, _, h => ⟨_, rfl, by simpa [PyData.canLay0] using h, Nat.zero_le _⟩
  | .lst ds, n, h => by
    cases n with
    | zero => simp [dok] at h
    | succ n =>
      rw [dok_lst] at h
      obtain ⟨ps, h1, h2, h3⟩ := doks_p h
      exact ⟨.list ps, by simp [toP, h1], by simpa [PyData.canLay0] using h2, by simp [PyData.depth]; exact h3⟩
  | .tup ds, n, h => by
    cases n with
    | zero => simp [dok] at h
    | succ n =>
      rw [dok_tup] at h
      obtain ⟨ps, h1, h2, h3⟩ := doks_p h
      exact ⟨.tuple ps, by simp [toP, h1], by simpa [PyData.canLay0] using h2, by simp [PyData.depth]; exact h3⟩
  | .fz _, _, h => by simp [dok] at h
  | .dct _, _, h => by simp [dok] at h
  | .ins _ _, _, h => by simp [dok] at h
  | .opq _, _, h => by simp [dok] at h
theorem doks_p : ∀ {ds : List D} {n : Nat}, doks n ds = true → ∃ ps, toPs ds = some ps ∧ PyData.canLayAll0 ps = true ∧ PyData.depthAll ps ≤ n
  | [], _, _ => ⟨[], rfl, rfl, Nat.zero_le _⟩
  | d :: ds, n, h => by
    rw [doks_cons, Bool.and_eq_true] at h
    obtain ⟨p, h1, h2, h3⟩ := dok_p h.1
    obtain ⟨ps, h4, h5, h6⟩ := doks_p h.2
    exact ⟨p :: ps, by simp [toPs, h1, h4], by simp [PyData.canLayAll0, h2, h5], by simp [PyData.depthAll]; omega⟩
end
mutual
theorem deq_p : ∀ {d e : D} {p q : PyData}, toP d = some p → toP e = some q → PyData.eqv p q = deq d e
  | .non, e, p, q, h, h2 => by
    simp only [toP, Option.some.injEq] at h; subst h
    cases e <;> simp only [toP, Option.some.injEq, Option.map_eq_some_iff, reduceCtorEq] at h2 <;> first | (subst h2; rfl) | (obtain ⟨_, _, rfl⟩ := h2; rfl)
  | .bl _, e, p, q, h, h2 => by
    simp only [toP, Option.some.injEq] at h; subst h
    cases e <;> simp only [toP, Option.some.injEq, Option.map_eq_some_iff, reduceCtorEq] at h2 <;> first | (subst h2; rfl) | (obtain ⟨_, _, rfl⟩ := h2; rfl)
  | .int _, e, p, q, h, h2 => by
    simp only [toP, Option.some.injEq] at h; subst h
    cases e <;> simp only [toP, Option.some.injEq, Option.map_eq_some_iff, reduceCtorEq] at h2 <;> first | (subst h2; rfl) | (obtain ⟨_, _, rfl⟩ := h2; rfl)
  | .str _, e, p, q, h, h2 => by
    simp only [toP, Option.some.injEq] at h; subst h
    cases e <;> simp only [toP, Option.some.injEq, Option.map_eq_some_iff, reduceCtorEq] at h2 <;> first | (subst h2; rfl) | (obtain ⟨_, _, rfl⟩ := h2; rfl)
  | .lst ds, e, p, q, h, h2 => by
    simp only [toP, Option.map_eq_some_iff] at h
    obtain ⟨ps, h1, rfl⟩ := h
    cases e <;> simp only [toP, Option.some.injEq, Option.map_eq_some_iff, reduceCtorEq] at h2
    case lst es => obtain ⟨qs, h3, rfl⟩ := h2; simp only [PyData.eqv, deq]; exact deqs_p h1 h3
    all_goals first | (subst h2; rfl) | (obtain ⟨_, _, rfl⟩ := h2; rfl)
  | .tup ds, e, p, q, h, h2 => by
    simp only [toP, Option.map_eq_some_iff] at h
    obtain ⟨ps, h1, rfl⟩ := h
    cases e <;> simp only [toP, Option.some.injEq, Option.map_eq_some_iff, reduceCtorEq] at h2
    case tup es => obtain ⟨qs, h3, rfl⟩ := h2; simp only [PyData.eqv, deq]; exact deqs_p h1 h3
    all_goals first | (subst h2; rfl) | (obtain ⟨_, _, rfl⟩ := h2; rfl)
  | .fz _, _, _, _, h, _ => by simp [toP] at h
  | .dct _, _, _, _, h, _ => by simp [toP] at h
  | .ins _ _, _, _, _, h, _ => by simp [toP] at h
  | .opq _, _, _, _, h, _ => by simp [toP] at h
theorem deqs_p : ∀ {ds es : List D} {ps qs : List PyData}, toPs ds = some ps → toPs es = some qs → PyData.eqvAll ps qs = deqs ds es
  | [], es, ps, qs, h, h2 => by
    simp only [toPs, Option.some.injEq] at h; subst h
    cases es with
    | nil => simp only [toPs, Option.some.injEq] at h2; subst h2; rfl
    | cons e es =>
      simp only [toPs] at h2
      split at h2
      · cases h2; rfl
      · cases h2
  | d :: ds, es, ps, qs, h, h2 => by
    simp only [toPs] at h
    split at h
    · rename_i p ps' e1 e2
      cases h
      cases es with
      | nil => simp only [toPs, Option.some.injEq] at h2; subst h2; rfl
      | cons e es =>
        simp only [toPs] at h2
        split at h2
        · rename_i q qs' e3 e4
          cases h2
          simp only [PyData.eqvAll, deqs]
          rw [deq_p e1 e3, deqs_p e2 e4]
        · cases h2
    · cases h
end
theorem dok_shp (h : dok 64 d = true) : ∃ p, shp d = some p ∧ toP d = some p := by
  obtain ⟨p, h1, h2, h3⟩ := dok_p h
  exact ⟨p, by unfold shp; rw [h1]; simp [SeqAt.shaped, h2, h3], h1⟩
@[simp] theorem aEq {neg : Bool} (h : dok 64 d = true) (h2 : dok 64 e = true) : dEq neg d e = some (.bl (if neg then !deq d e else deq d e), false) := by
  obtain ⟨p, h1, h3⟩ := dok_shp h
  obtain ⟨q, h4, h5⟩ := dok_shp h2
  unfold dEq
  rw [h1, h4]
  simp only [deq_p h3 h5]
theorem any_p {x : D} {px : PyData} (hx : toP x = some px) : ∀ {ds : List D} {ps : List PyData}, toPs ds = some ps → (ps.any fun z => PyData.eqv z px) = ds.any fun z => deq z x
  | [], ps, h => by simp only [toPs, Option.some.injEq] at h; subst h; rfl
  | d :: ds, ps, h => by
    simp only [toPs] at h
    split at h
    · rename_i p ps' e1 e2
      cases h
      rw [List.any_cons, List.any_cons, deq_p e1 hx, any_p hx e2]
    · cases h
@[simp] theorem aIn_l {neg : Bool} (h : dok 64 d = true) (h2 : dok 64 (.lst xs) = true) : dIn neg d (.lst xs) = some (.bl (if neg then !xs.any fun z => deq z d else xs.any fun z => deq z d), false) := by
  obtain ⟨p, h1, h3⟩ := dok_shp h
  obtain ⟨q, h4, h5⟩ := dok_shp h2
  simp only [toP, Option.map_eq_some_iff] at h5
  obtain ⟨ps, h6, rfl⟩ := h5
  unfold dIn
  simp only [h1, h4, any_p h3 h6]
@[simp] theorem aIn_t {neg : Bool} (h : dok 64 d = true) (h2 : dok 64 (.tup xs) = true) : dIn neg d (.tup xs) = some (.bl (if neg then !xs.any fun z => deq z d else xs.any fun z => deq z d), false) := by
  obtain ⟨p, h1, h3⟩ := dok_shp h
  obtain ⟨q, h4, h5⟩ := dok_shp h2
  simp only [toP, Option.map_eq_some_iff] at h5
  obtain ⟨ps, h6, rfl⟩ := h5
  unfold dIn
  simp only [h1, h4, any_p h3 h6]
@[simp] theorem arr_mk {l : List Nat} : l.toArray = Array.mk l := rfl
@[simp] theorem sub_sign {z : Str} {c : Nat} : subIn ⟨⟨[c]⟩⟩ z = decide (c ∈ z.cps.toList) := StrLaws.found_one z c
end
@[simp] theorem cpm_0 {α : Type} {l : List α} : pm [] l = [] := rfl
@[simp] theorem cpm_s {α : Type} {l : List α} {i : Nat} {is : List Nat} : pm (i :: is) l = (l[i]?).toList ++ pm is l := by
  unfold pm
  rw [List.filterMap_cons]
  cases l[i]? <;> rfl
/-! ### cuts -/
section
variable {f : FS} {δ : Env'} {N : Env' → Prop} {R : RV → Env' → Prop} {B C : Env' → Prop} {E : Exc → Env' → Prop}
/-- f changes slot i alone -/
theorem wpS_slot (i : Nat) (P : D → Prop) (h : wpS f δ (fun δ' => ∃ d, P d ∧ δ' = δ.set i (some (.sh, d))) R B C E) (q : ∀ d, P d → N (δ.set i (some (.sh, d)))) : wpS f δ N R B C E :=
  wpS_cut _ h fun δ' ⟨d, hd, e⟩ => by rw [e]; exact q d hd
/-- f changes nothing -/
theorem wpS_still (h : wpS f δ (fun δ' => δ' = δ) R B C E) (q : N δ) : wpS f δ N R B C E :=
  wpS_cut _ h fun δ' e => by rw [e]; exact q
end
end TM
set_option maxRecDepth 100000
set_option maxHeartbeats 4000000
/-! W6: isinstance; comprehensions over typed lists -/
namespace TM
open PySem PySem.Spec PyProof.Rows L2
variable [Tbs]
section
variable {b : Bool} {i : Int} {x : Str} {xs : List D} {ks : List (Key × D)}
@[simp] theorem isi_non_int : dIsi kitD [.non, .opq (.ty "int")] = some (.bl false, false) := by
  have h : kitB "NoneType" "int" = some false := by decide +kernel
  simp only [dIsi, tyD, clsOf, kitD, h, Option.map_some]
@[simp] theorem isi_non_bool : dIsi kitD [.non, .opq (.ty "bool")] = some (.bl false, false) := by
  have h : kitB "NoneType" "bool" = some false := by decide +kernel
  simp only [dIsi, tyD, clsOf, kitD, h, Option.map_some]
@[simp] theorem isi_non_str : dIsi kitD [.non, .opq (.ty "str")] = some (.bl false, false) := by
  have h : kitB "NoneType" "str" = some false := by decide +kernel
  simp only [dIsi, tyD, clsOf, kitD, h, Option.map_some]
@[simp] theorem isi_non_list : dIsi kitD [.non, .opq (.ty "list")] = some (.bl false, false) := by
  have h : kitB "NoneType" "list" = some false := by decide +kernel
  simp only [dIsi, tyD, clsOf, kitD, h, Option.map_some]
@[simp] theorem isi_non_tuple : dIsi kitD [.non, .opq (.ty "tuple")] = some (.bl false, false) := by
  have h : kitB "NoneType" "tuple" = some false := by decide +kernel
  simp only [dIsi, tyD, clsOf, kitD, h, Option.map_some]
@[simp] theorem isi_non_dict : dIsi kitD [.non, .opq (.ty "dict")] = some (.bl false, false) := by
  have h : kitB "NoneType" "dict" = some false := by decide +kernel
  simp only [dIsi, tyD, clsOf, kitD, h, Option.map_some]
@[simp] theorem isi_non_seq : dIsi kitD [.non, .tup [.opq (.ty "list"), .opq (.ty "tuple")]] = some (.bl false, false) := by
  have h : kitAll kitD (.type "NoneType") [.type "list", .type "tuple"] = some false := by decide +kernel
  simp only [dIsi, tyD, clsAll, clsOf, h, Option.map_some]
@[simp] theorem isi_bl_int : dIsi kitD [(.bl b), .opq (.ty "int")] = some (.bl true, false) := by
  have h : kitB "bool" "int" = some true := by decide +kernel
  simp only [dIsi, tyD, clsOf, kitD, h, Option.map_some]
@[simp] theorem isi_bl_bool : dIsi kitD [(.bl b), .opq (.ty "bool")] = some (.bl true, false) := by
  have h : kitB "bool" "bool" = some true := by decide +kernel
  simp only [dIsi, tyD, clsOf, kitD, h, Option.map_some]
@[simp] theorem isi_bl_str : dIsi kitD [(.bl b), .opq (.ty "str")] = some (.bl false, false) := by
  have h : kitB "bool" "str" = some false := by decide +kernel
  simp only [dIsi, tyD, clsOf, kitD, h, Option.map_some]
@[simp] theorem isi_bl_list : dIsi kitD [(.bl b), .opq (.ty "list")] = some (.bl false, false) := by
  have h : kitB "bool" "list" = some false := by decide +kernel
  simp only [dIsi, tyD, clsOf, kitD, h, Option.map_some]
@[simp] theorem isi_bl_tuple : dIsi kitD [(.bl b), .opq (.ty "tuple")] = some (.bl false, false) := by
  have h : kitB "bool" "tuple" = some false := by decide +kernel
  simp only [dIsi, tyD, clsOf, kitD, h, Option.map_some]
@[simp] theorem isi_bl_dict : dIsi kitD [(.bl b), .opq (.ty "dict")] = some (.bl false, false) := by
  have h : kitB "bool" "dict" = some false := by decide +kernel
  simp only [dIsi, tyD, clsOf, kitD, h, Option.map_some]
@[simp] theorem isi_bl_seq : dIsi kitD [(.bl b), .tup [.opq (.ty "list"), .opq (.ty "tuple")]] = some (.bl false, false) := by
  have h : kitAll kitD (.type "bool") [.type "list", .type "tuple"] = some false := by decide +kernel
  simp only [dIsi, tyD, clsAll, clsOf, h, Option.map_some]
@[simp] theorem isi_int_int : dIsi kitD [(.int i), .opq (.ty "int")] = some (.bl true, false) := by
  have h : kitB "int" "int" = some true := by decide +kernel
  simp only [dIsi, tyD, clsOf, kitD, h, Option.map_some]
@[simp] theorem isi_int_bool : dIsi kitD [(.int i), .opq (.ty "bool")] = some (.bl false, false) := by
  have h : kitB "int" "bool" = some false := by decide +kernel
  simp only [dIsi, tyD, clsOf, kitD, h, Option.map_some]
@[simp] theorem isi_int_str : dIsi kitD [(.int i), .opq (.ty "str")] = some (.bl false, false) := by
  have h : kitB "int" "str" = some false := by decide +kernel
  simp only [dIsi, tyD, clsOf, kitD, h, Option.map_some]
@[simp] theorem isi_int_list : dIsi kitD [(.int i), .opq (.ty "list")] = some (.bl false, false) := by
  have h : kitB "int" "list" = some false := by decide +kernel
  simp only [dIsi, tyD, clsOf, kitD, h, Option.map_some]
@[simp] theorem isi_int_tuple : dIsi kitD [(.int i), .opq (.ty "tuple")] = some (.bl false, false) := by
  have h : kitB "int" "tuple" = some false := by decide +kernel
  simp only [dIsi, tyD, clsOf, kitD, h, Option.map_some]
@[simp] theorem isi_int_dict : dIsi kitD [(.int i), .opq (.ty "dict")] = some (.bl false, false) := by
  have h : kitB "int" "dict" = some false := by decide +kernel
  simp only [dIsi, tyD, clsOf, kitD, h, Option.map_some]
@[simp] theorem isi_int_seq : dIsi kitD [(.int i), .tup [.opq (.ty "list"), .opq (.ty "tuple")]] = some (.bl false, false) := by
  have h : kitAll kitD (.type "int") [.type "list", .type "tuple"] = some false := by decide +kernel
  simp only [dIsi, tyD, clsAll, clsOf, h, Option.map_some]
@[simp] theorem isi_str_int : dIsi kitD [(.str x), .opq (.ty "int")] = some (.bl false, false) := by
  have h : kitB "str" "int" = some false := by decide +kernel
  simp only [dIsi, tyD, clsOf, kitD, h, Option.map_some]
@[simp] theorem isi_str_bool : dIsi kitD [(.str x), .opq (.ty "bool")] = some (.bl false, false) := by
  have h : kitB "str" "bool" = some false := by decide +kernel
  simp only [dIsi, tyD, clsOf, kitD, h, Option.map_some]
@[simp] theorem isi_str_str : dIsi kitD [(.str x), .opq (.ty "str")] = some (.bl true, false) := by
  have h : kitB "str" "str" = some true := by decide +kernel
  simp only [dIsi, tyD, clsOf, kitD, h, Option.map_some]
@[simp] theorem isi_str_list : dIsi kitD [(.str x), .opq (.ty "list")] = some (.bl false, false) := by
  have h : kitB "str" "list" = some false := by decide +kernel
  simp only [dIsi, tyD, clsOf, kitD, h, Option.map_some]
@[simp] theorem isi_str_tuple : dIsi kitD [(.str x), .opq (.ty "tuple")] = some (.bl false, false) := by
  have h : kitB "str" "tuple" = some false := by decide +kernel
  simp only [dIsi, tyD, clsOf, kitD, h, Option.map_some]
@[simp] theorem isi_str_dict : dIsi kitD [(.str x), .opq (.ty "dict")] = some (.bl false, false) := by
  have h : kitB "str" "dict" = some false := by decide +kernel
  simp only [dIsi, tyD, clsOf, kitD, h, Option.map_some]
@[simp] theorem isi_str_seq : dIsi kitD [(.str x), .tup [.opq (.ty "list"), .opq (.ty "tuple")]] = some (.bl false, false) := by
  have h : kitAll kitD (.type "str") [.type "list", .type "tuple"] = some false := by decide +kernel
  simp only [dIsi, tyD, clsAll, clsOf, h, Option.map_some]
@[simp] theorem isi_lst_int : dIsi kitD [(.lst xs), .opq (.ty "int")] = some (.bl false, false) := by
  have h : kitB "list" "int" = some false := by decide +kernel
  simp only [dIsi, tyD, clsOf, kitD, h, Option.map_some]
@[simp] theorem isi_lst_bool : dIsi kitD [(.lst xs), .opq (.ty "bool")] = some (.bl false, false) := by
  have h : kitB "list" "bool" = some false := by decide +kernel
  simp only [dIsi, tyD, clsOf, kitD, h, Option.map_some]
@[simp] theorem isi_lst_str : dIsi kitD [(.lst xs), .opq (.ty "str")] = some (.bl false, false) := by
  have h : kitB "list" "str" = some false := by decide +kernel
  simp only [dIsi, tyD, clsOf, kitD, h, Option.map_some]
@[simp] theorem isi_lst_list : dIsi kitD [(.lst xs), .opq (.ty "list")] = some (.bl true, false) := by
  have h : kitB "list" "list" = some true := by decide +kernel
  simp only [dIsi, tyD, clsOf, kitD, h, Option.map_some]
@[simp] theorem isi_lst_tuple : dIsi kitD [(.lst xs), .opq (.ty "tuple")] = some (.bl false, false) := by
  have h : kitB "list" "tuple" = some false := by decide +kernel
  simp only [dIsi, tyD, clsOf, kitD, h, Option.map_some]
@[simp] theorem isi_lst_dict : dIsi kitD [(.lst xs), .opq (.ty "dict")] = some (.bl false, false) := by
  have h : kitB "list" "dict" = some false := by decide +kernel
  simp only [dIsi, tyD, clsOf, kitD, h, Option.map_some]
@[simp] theorem isi_lst_seq : dIsi kitD [(.lst xs), .tup [.opq (.ty "list"), .opq (.ty "tuple")]] = some (.bl true, false) := by
  have h : kitAll kitD (.type "list") [.type "list", .type "tuple"] = some true := by decide +kernel
  simp only [dIsi, tyD, clsAll, clsOf, h, Option.map_some]
@[simp] theorem isi_tup_int : dIsi kitD [(.tup xs), .opq (.ty "int")] = some (.bl false, false) := by
  have h : kitB "tuple" "int" = some false := by decide +kernel
  simp only [dIsi, tyD, clsOf, kitD, h, Option.map_some]
@[simp] theorem isi_tup_bool : dIsi kitD [(.tup xs), .opq (.ty "bool")] = some (.bl false, false) := by
  have h : kitB "tuple" "bool" = some false := by decide +kernel
  simp only [dIsi, tyD, clsOf, kitD, h, Option.map_some]
@[simp] theorem isi_tup_str : dIsi kitD [(.tup xs), .opq (.ty "str")] = some (.bl false, false) := by
  have h : kitB "tuple" "str" = some false := by decide +kernel
  simp only [dIsi, tyD, clsOf, kitD, h, Option.map_some]
@[simp] theorem isi_tup_list : dIsi kitD [(.tup xs), .opq (.ty "list")] = some (.bl false, false) := by
  have h : kitB "tuple" "list" = some false := by decide +kernel
  simp only [dIsi, tyD, clsOf, kitD, h, Option.map_some]
@[simp] theorem isi_tup_tuple : dIsi kitD [(.tup xs), .opq (.ty "tuple")] = some (.bl true, false) := by
  have h : kitB "tuple" "tuple" = some true := by decide +kernel
  simp only [dIsi, tyD, clsOf, kitD, h, Option.map_some]
@[simp] theorem isi_tup_dict : dIsi kitD [(.tup xs), .opq (.ty "dict")] = some (.bl false, false) := by
  have h : kitB "tuple" "dict" = some false := by decide +kernel
  simp only [dIsi, tyD, clsOf, kitD, h, Option.map_some]
@[simp] theorem isi_tup_seq : dIsi kitD [(.tup xs), .tup [.opq (.ty "list"), .opq (.ty "tuple")]] = some (.bl true, false) := by
  have h : kitAll kitD (.type "tuple") [.type "list", .type "tuple"] = some true := by decide +kernel
  simp only [dIsi, tyD, clsAll, clsOf, h, Option.map_some]
@[simp] theorem isi_dct_int : dIsi kitD [(.dct ks), .opq (.ty "int")] = some (.bl false, false) := by
  have h : kitB "dict" "int" = some false := by decide +kernel
  simp only [dIsi, tyD, clsOf, kitD, h, Option.map_some]
@[simp] theorem isi_dct_bool : dIsi kitD [(.dct ks), .opq (.ty "bool")] = some (.bl false, false) := by
  have h : kitB "dict" "bool" = some false := by decide +kernel
  simp only [dIsi, tyD, clsOf, kitD, h, Option.map_some]
@[simp] theorem isi_dct_str : dIsi kitD [(.dct ks), .opq (.ty "str")] = some (.bl false, false) := by
  have h : kitB "dict" "str" = some false := by decide +kernel
  simp only [dIsi, tyD, clsOf, kitD, h, Option.map_some]
@[simp] theorem isi_dct_list : dIsi kitD [(.dct ks), .opq (.ty "list")] = some (.bl false, false) := by
  have h : kitB "dict" "list" = some false := by decide +kernel
  simp only [dIsi, tyD, clsOf, kitD, h, Option.map_some]
@[simp] theorem isi_dct_tuple : dIsi kitD [(.dct ks), .opq (.ty "tuple")] = some (.bl false, false) := by
  have h : kitB "dict" "tuple" = some false := by decide +kernel
  simp only [dIsi, tyD, clsOf, kitD, h, Option.map_some]
@[simp] theorem isi_dct_dict : dIsi kitD [(.dct ks), .opq (.ty "dict")] = some (.bl true, false) := by
  have h : kitB "dict" "dict" = some true := by decide +kernel
  simp only [dIsi, tyD, clsOf, kitD, h, Option.map_some]
@[simp] theorem isi_dct_seq : dIsi kitD [(.dct ks), .tup [.opq (.ty "list"), .opq (.ty "tuple")]] = some (.bl false, false) := by
  have h : kitAll kitD (.type "dict") [.type "list", .type "tuple"] = some false := by decide +kernel
  simp only [dIsi, tyD, clsAll, clsOf, h, Option.map_some]
end
/-- values of Python's own types -/
def gd : D → Bool
  | .opq _ => false
  | .fz _ => false
  | .ins _ _ => false
  | _ => true
section
variable {δ : Env'} {α : Type} {enc : α → D}
theorem lcK_f {a : FG} {t : FT} {f : FE} {vs : List Nat} {xs : List α} {Q : RV → Env' → Prop} (g : α → Option D) (hl : xs.length ≤ 16777216) (hok : okSlots vs δ = true)
    (hc : ∀ x ∈ xs, opt (a (enc x) (wipeE δ vs)) fun δ1 => wp t δ1 (fun b δ2 => cnd b (wp f δ2 (fun rv δ3 => opt2 (give δ3 rv) fun y δ4 => g x = some y ∧ wipeE δ4 vs = wipeE δ vs) fun _ _ => False) (g x = none ∧ wipeE δ2 vs = wipeE δ vs)) fun _ _ => False)
    (hq : Q (.val (.lst (xs.filterMap g)) true) δ) : lcK a t f vs (xs.map enc) δ Q := by
  refine lcK_inv (fun r acc δ' => δ' = wipeE δ vs ∧ ∃ p q, xs = p ++ q ∧ r = q.map enc ∧ acc = p.filterMap g ∧ acc.length ≤ p.length) hok ⟨rfl, [], xs, rfl, rfl, rfl, by simp⟩ (fun d r acc δ' h => ?_) fun acc δ' h => ?_
  · obtain ⟨rfl, p, q, e, e0, e2, e3⟩ := h
    cases q with
    | nil => cases e0
    | cons x q =>
      rw [List.map_cons] at e0
      obtain ⟨rfl, rfl⟩ := List.cons.inj e0
      have hd : x ∈ xs := by rw [e]; simp
      have h1 := hc x hd
      unfold opt at h1 ⊢
      cases q0 : a (enc x) (wipeE δ vs) with
      | none => rw [q0] at h1; exact h1.elim
      | some δ1 =>
        rw [q0] at h1
        refine wp_mono h1 (fun b δ2 h2 => ?_) (fun _ _ h => h)
        have e4 : xs = (p ++ [x]) ++ q := by rw [e]; simp
        cases b with
        | false =>
          obtain ⟨g1, g2⟩ := h2
          exact ⟨g2, p ++ [x], q, e4, rfl, by rw [List.filterMap_append, e2]; simp [g1], by simp; omega⟩
        | true =>
          refine wp_mono h2 (fun rv δ3 h3 => ?_) (fun _ _ h => h)
          unfold opt2 at h3 ⊢
          rcases q3 : give δ3 rv with _ | ⟨y, δ4⟩
          · rw [q3] at h3; exact h3.elim
          · rw [q3] at h3
            obtain ⟨g1, g2⟩ := h3
            have : p.length < xs.length := by rw [e]; simp
            exact ⟨by show _ < 16777216; omega, g2, p ++ [x], q, e4, rfl, by rw [List.filterMap_append, e2]; simp [g1], by simp; omega⟩
  · obtain ⟨rfl, p, q, e, e0, rfl, e3⟩ := h
    have : q = [] := by
      cases q with
      | nil => rfl
      | cons x q => cases e0
    subst this
    rw [List.append_nil] at e
    subst e
    rw [rest_wipe]; exact hq
/-- no test -/
theorem lcK_m {a : FG} {t : FT} {f : FE} {vs : List Nat} {xs : List α} {Q : RV → Env' → Prop} (g : α → D) (hl : xs.length ≤ 16777216) (hok : okSlots vs δ = true)
    (hc : ∀ x ∈ xs, opt (a (enc x) (wipeE δ vs)) fun δ1 => wp t δ1 (fun b δ2 => cnd b (wp f δ2 (fun rv δ3 => opt2 (give δ3 rv) fun y δ4 => y = g x ∧ wipeE δ4 vs = wipeE δ vs) fun _ _ => False) False) fun _ _ => False)
    (hq : Q (.val (.lst (xs.map g)) true) δ) : lcK a t f vs (xs.map enc) δ Q := by
  refine lcK_f (fun x => some (g x)) hl hok (fun x hx => ?_) (by rw [List.filterMap_eq_map']; exact hq)
  have h := hc x hx
  unfold opt at h ⊢
  cases q0 : a (enc x) (wipeE δ vs) with
  | none => rw [q0] at h; exact h.elim
  | some δ1 =>
    rw [q0] at h
    refine wp_mono h (fun b δ2 h2 => ?_) fun _ _ h => h
    cases b with
    | false => exact h2.elim
    | true =>
      refine wp_mono h2 (fun rv δ3 h3 => ?_) fun _ _ h => h
      unfold opt2 at h3 ⊢
      rcases q3 : give δ3 rv with _ | ⟨y, δ4⟩
      · rw [q3] at h3; exact h3.elim
      · rw [q3] at h3
        exact ⟨by rw [h3.1], h3.2⟩
theorem lcK_d {a : FG} {t : FT} {f : FE} {vs : List Nat} {xs : List D} {Q : RV → Env' → Prop} (g : D → D) (hl : xs.length ≤ 16777216) (hok : okSlots vs δ = true)
    (hc : ∀ x ∈ xs, opt (a x (wipeE δ vs)) fun δ1 => wp t δ1 (fun b δ2 => cnd b (wp f δ2 (fun rv δ3 => opt2 (give δ3 rv) fun y δ4 => y = g x ∧ wipeE δ4 vs = wipeE δ vs) fun _ _ => False) False) fun _ _ => False)
    (hq : Q (.val (.lst (xs.map g)) true) δ) : lcK a t f vs xs δ Q := by
  have := lcK_m (enc := id) g hl hok hc hq
  rwa [List.map_id] at this
theorem lcK_df {a : FG} {t : FT} {f : FE} {vs : List Nat} {xs : List D} {Q : RV → Env' → Prop} (g : D → Option D) (hl : xs.length ≤ 16777216) (hok : okSlots vs δ = true)
    (hc : ∀ x ∈ xs, opt (a x (wipeE δ vs)) fun δ1 => wp t δ1 (fun b δ2 => cnd b (wp f δ2 (fun rv δ3 => opt2 (give δ3 rv) fun y δ4 => g x = some y ∧ wipeE δ4 vs = wipeE δ vs) fun _ _ => False) (g x = none ∧ wipeE δ2 vs = wipeE δ vs)) fun _ _ => False)
    (hq : Q (.val (.lst (xs.filterMap g)) true) δ) : lcK a t f vs xs δ Q := by
  have := lcK_f (enc := id) g hl hok hc hq
  rwa [List.map_id] at this
@[simp] theorem bools_cons {b : Bool} {xs : List D} : bools (.bl b :: xs) = (bools xs).map (b :: ·) := rfl
@[simp] theorem bools_nil : bools [] = some [] := rfl
@[simp] theorem deqs_nil_r {xs : List D} : deqs xs [] = xs.isEmpty := by cases xs <;> simp [deqs]
@[simp] theorem deqs_nil_l {xs : List D} : deqs [] xs = xs.isEmpty := by cases xs <;> simp [deqs]
theorem doks_of {n : Nat} {xs : List D} (h : ∀ x ∈ xs, dok n x = true) : doks n xs = true := by rw [doks_all]; simpa using h
theorem doks_mem {n : Nat} {xs : List D} (h : doks n xs = true) : ∀ x ∈ xs, dok n x = true := by rw [doks_all] at h; simpa using h
@[simp] theorem mk_len {l : List Nat} : (Str.mk ⟨l⟩).length = l.length := rfl
@[simp] theorem mk_ok {l : List Nat} : PyData.strOk ⟨⟨l⟩⟩ = l.all fun c => decide (c < 1114112) := by
  unfold PyData.strOk
  simp
theorem sIx_none {n d : Nat} : HT.sIx n d none = d := rfl
theorem mk_cut {l : List Nat} {lo hi : Option Int} : cutS ⟨⟨l⟩⟩ lo hi = ⟨⟨cutL l lo hi⟩⟩ := rfl
@[simp] theorem mk_take {l : List Nat} {k : Nat} : cutS ⟨⟨l⟩⟩ none (some (k : Int)) = ⟨⟨l.take k⟩⟩ := by rw [mk_cut, cut_take]
@[simp] theorem mk_take_l {l : List Nat} {k : Nat} : cutS ⟨⟨l⟩⟩ none (some (no_index (OfNat.ofNat k))) = ⟨⟨l.take (OfNat.ofNat k)⟩⟩ := mk_take (k := k)
@[simp] theorem mk_app {l m : List Nat} : (⟨⟨l⟩⟩ : Str) ++ ⟨⟨m⟩⟩ = ⟨⟨l ++ m⟩⟩ := by
  show Str.append _ _ = _
  unfold Str.append
  simp
@[simp] theorem mk_beq {l m : List Nat} : ((⟨⟨l⟩⟩ : Str) == ⟨⟨m⟩⟩) = (l == m) := by
  by_cases h : l = m
  · subst h; simp
  · have e : (⟨⟨l⟩⟩ : Str) ≠ ⟨⟨m⟩⟩ := fun z => h (by injection z with z; injection z)
    rw [beq_eq_false_iff_ne.mpr h, beq_eq_false_iff_ne.mpr e]
@[simp] theorem any_ff {β : Type} {xs : List β} : (xs.any fun _ => false) = false := by induction xs <;> simp_all
@[simp] theorem isEmpty_fm {β γ : Type} {f : β → Option γ} : ∀ {xs : List β}, (xs.filterMap f).isEmpty = xs.all fun x => (f x).isNone
  | [] => rfl
  | x :: xs => by
    rw [List.filterMap_cons, List.all_cons, ← isEmpty_fm]
    cases f x <;> simp
theorem ok_app {s t : Str} : PyData.strOk (s ++ t) = (PyData.strOk s && PyData.strOk t) := by
  obtain ⟨⟨s⟩⟩ := s
  obtain ⟨⟨t⟩⟩ := t
  rw [mk_app, mk_ok, mk_ok, mk_ok, List.all_append]
theorem ok_joinS {s : Str} (h : PyData.strOk s = true) : ∀ {ss : List Str}, (∀ x ∈ ss, PyData.strOk x = true) → PyData.strOk (Str.join s ss) = true
  | [], _ => by show PyData.strOk Str.empty = true; decide +kernel
  | [x], h2 => h2 x (by simp)
  | x :: y :: r, h2 => by
    show PyData.strOk (x ++ s ++ Str.join s (y :: r)) = true
    rw [ok_app, ok_app, h, h2 x (by simp)]
    exact ok_joinS h (ss := y :: r) fun z hz => h2 z (by simp at hz ⊢; exact .inr hz)
theorem ok_join {s : Str} (h : PyData.strOk s = true) {ss : List Str} (h2 : ∀ x ∈ ss, PyData.strOk x = true) : PyData.strOk (Txt.join s ss) = true := by
  rw [TL.join_eq]; exact ok_joinS h h2
theorem app_len {s t : Str} : (s ++ t).length = s.length + t.length := by
  obtain ⟨⟨s⟩⟩ := s
  obtain ⟨⟨t⟩⟩ := t
  rw [mk_app, mk_len, mk_len, mk_len, List.length_append]
theorem joinS_len {s : Str} : ∀ {ss : List Str}, (Str.join s ss).length ≤ (ss.map (·.length)).sum + ss.length * s.length
  | [] => by show Str.empty.length ≤ _; simp [Str.empty]
  | [x] => by show x.length ≤ _; simp
  | x :: y :: r => by
    show (x ++ s ++ Str.join s (y :: r)).length ≤ _
    have := joinS_len (s := s) (ss := y :: r)
    rw [app_len, app_len]
    rw [List.map_cons, List.sum_cons, List.length_cons, Nat.add_mul, Nat.one_mul]
    omega
theorem join_len {s : Str} {ss : List Str} : (Txt.join s ss).length ≤ (ss.map (·.length)).sum + ss.length * s.length := by
  rw [TL.join_eq]; exact joinS_len
theorem strs_mem {P : Str → Prop} : ∀ {xs : List D}, (∀ x ∈ xs, ∃ s, x = .str s ∧ P s) → ∃ ss : List Str, xs = ss.map .str ∧ ∀ s ∈ ss, P s
  | [], _ => ⟨[], rfl, fun _ h => nomatch h⟩
  | x :: xs, h => by
    obtain ⟨s, rfl, hs⟩ := h x (by simp)
    obtain ⟨ss, rfl, h2⟩ := strs_mem (xs := xs) fun y hy => h y (by simp [hy])
    exact ⟨s :: ss, rfl, fun t ht => by
      rcases List.mem_cons.mp ht with rfl | ht
      · exact hs
      · exact h2 t ht⟩
theorem sum_le {β : Type} {f : β → Nat} {m : Nat} : ∀ {xs : List β}, (∀ x ∈ xs, f x ≤ m) → (xs.map f).sum ≤ xs.length * m
  | [], _ => by simp
  | x :: xs, h => by
    have h1 := h x (by simp)
    have h2 := sum_le (f := f) (m := m) (xs := xs) fun y hy => h y (by simp [hy])
    rw [List.map_cons, List.sum_cons, List.length_cons, Nat.add_mul, Nat.one_mul]
    omega
theorem lit_cps {s : String} : (Str.ofString s).cps.toList = s.toList.map Char.toNat := by rw [Str.ofString_eq_toList]
@[simp] theorem ok_lit {s : String} : PyData.strOk (Str.ofString s) = true := by
  rw [Str.ofString_eq_toList]
  unfold PyData.strOk
  simp only [List.all_toArray, List.all_map, List.all_eq_true, Function.comp_def, decide_eq_true_eq]
  intro c _
  have := c.valid
  rcases this with h | h
  · exact Nat.lt_trans h (by decide)
  · exact h.2
theorem lit_inj {s t : String} (h : Str.ofString s = Str.ofString t) : s = t := by
  have e := congrArg (fun x : Str => x.cps.toList) h
  simp only [lit_cps] at e
  have : s.toList = t.toList := by
    refine List.map_inj_right (f := Char.toNat) (fun a b hab => ?_) |>.mp e
    exact Char.toNat_inj.mp hab
  exact String.toList_inj.mp this
@[simp] theorem lit_beq {s t : String} : (Str.ofString s == Str.ofString t) = decide (s = t) := by
  by_cases h : s = t
  · subst h; simp
  · have : Str.ofString s ≠ Str.ofString t := fun z => h (lit_inj z)
    rw [beq_eq_false_iff_ne.mpr this]; simp [h]
theorem lit_len {s : String} : (Str.ofString s).length = s.length := by
  show (Str.ofString s).cps.size = _
  rw [← Array.length_toList, lit_cps, List.length_map, String.length_toList]
/-- texts of signs there are -/
def okS : D → Bool
  | .str s => PyData.strOk s
  | _ => true
theorem strsD_map : ∀ {ss : List Str}, strsD (ss.map .str) = some ss
  | [] => rfl
  | s :: ss => by
    show (strsD (ss.map .str)).map (s :: ·) = _
    rw [strsD_map]; rfl
@[simp] theorem itemsD_l {xs : List D} : itemsD (.lst xs) = some xs := rfl
@[simp] theorem itemsD_t {xs : List D} : itemsD (.tup xs) = some xs := rfl
theorem aJoin {s : Str} {d : D} {ss : List Str} (h : d = .lst (ss.map .str) ∨ d = .tup (ss.map .str)) (hl : (ss.map (·.length)).sum + ss.length * s.length ≤ 16777216) : dJoin s d = some (.str (Txt.join s ss), false) := by
  unfold dJoin
  have : (itemsD d).bind strsD = some ss := by rcases h with rfl | rfl <;> exact strsD_map
  rw [this]
  simp only [if_pos (show (ss.map (·.length)).sum + ss.length * s.length ≤ SZ from hl)]
theorem bools_map {f : α → Bool} : ∀ {xs : List α}, bools (xs.map fun x => D.bl (f x)) = some (xs.map f)
  | [] => rfl
  | x :: xs => by
    rw [List.map_cons]
    show (bools _).map _ = _
    rw [bools_map]; rfl
@[simp] theorem cbools_map {f : α → Bool} {xs : List α} : bools (xs.map fun x => D.bl (f x)) = some (xs.map f) := bools_map
end
end TM
set_option maxRecDepth 100000
set_option maxHeartbeats 4000000
/-! W7: drawn places, comprehensions that draw -/
namespace TM
open PySem PySem.Spec PyProof.Rows L2
variable [Tbs]
theorem idx_mem {xs : List D} {i : Int} {k : D → Bool → Prop} (h0 : 0 ≤ i) (h1 : i < xs.length) (q : ∀ x ∈ xs, k x false) : opt2 ((atI xs i).map fun d => (d, false)) k := by
  obtain ⟨x, e, hx⟩ := atI_mem h0 h1
  rw [e]; exact q x hx
theorem sgn_mem {xs : List Nat} {i : Int} {k : D → Bool → Prop} (h0 : 0 ≤ i) (h1 : i < xs.length) (q : ∀ c ∈ xs, k (.str ⟨⟨[c]⟩⟩) false) : opt2 ((atI xs i).map fun c => (D.str ⟨⟨[c]⟩⟩, false)) k := by
  obtain ⟨x, e, hx⟩ := atI_mem h0 h1
  rw [e]; exact q x hx
theorem wp_lcD_nil {a : FG} {t : FT} {f : FE} {vs : List Nat} {acc : List D} {δ : Env'} {Q : List D → Env' → Prop} {E : Exc → Env' → Prop} : wp (lcD a t f vs [] acc) δ Q E ↔ Q acc δ := Iff.rfl
theorem wp_lcD_cons {a : FG} {t : FT} {f : FE} {vs : List Nat} {d : D} {ds acc : List D} {δ : Env'} {Q : List D → Env' → Prop} {E : Exc → Env' → Prop} : wp (lcD a t f vs (d :: ds) acc) δ Q E ↔ opt (a d δ) fun δ1 => wp t δ1 (fun b δ2 => cnd b (wp f δ2 (fun rv δ3 => opt2 (give δ3 rv) fun x δ4 => ask (acc.length < 16777216) (wp (lcD a t f vs ds (acc ++ [x])) (wipeE δ4 vs) Q E)) E) (wp (lcD a t f vs ds acc) (wipeE δ2 vs) Q E)) E := by
  show wp (fun δ => match a d δ with
      | some δ1 => bnd t (fun b => if b then bnd f (fun r δ3 => match give δ3 r with
          | some (x, δ4) => if acc.length < SZ then lcD a t f vs ds (acc ++ [x]) (wipeE δ4 vs) else .bad
          | none => .bad)
        else fun δ2 => lcD a t f vs ds acc (wipeE δ2 vs)) δ1
      | none => .bad) δ Q E ↔ _
  unfold opt
  cases q : a d δ with
  | none => simp only [wp, q]
  | some δ1 =>
    have w : ∀ (X : M (List D)), wp (fun _ => X δ1) δ Q E ↔ wp X δ1 Q E := fun X => Iff.rfl
    have e : wp (fun δ => match a d δ with
      | some δ1 => bnd t (fun b => if b then bnd f (fun r δ3 => match give δ3 r with
          | some (x, δ4) => if acc.length < SZ then lcD a t f vs ds (acc ++ [x]) (wipeE δ4 vs) else .bad
          | none => .bad)
        else fun δ2 => lcD a t f vs ds acc (wipeE δ2 vs)) δ1
      | none => .bad) δ Q E ↔ wp (bnd t (fun b => if b then bnd f (fun r δ3 => match give δ3 r with
          | some (x, δ4) => if acc.length < SZ then lcD a t f vs ds (acc ++ [x]) (wipeE δ4 vs) else .bad
          | none => .bad)
        else fun δ2 => lcD a t f vs ds acc (wipeE δ2 vs))) δ1 Q E := by simp only [wp, q]
    rw [e, wp_bnd]
    constructor <;> intro h <;> refine wp_mono h (fun b δ2 h => ?_) (fun _ _ h => h)
    · cases b with
      | false => exact h
      | true =>
        have h : wp (bnd f _) δ2 Q E := h
        rw [wp_bnd] at h
        refine wp_mono h (fun rv δ3 h => ?_) (fun _ _ h => h)
        unfold wp at h
        unfold opt2 ask
        rcases q3 : give δ3 rv with _ | ⟨x, δ4⟩
        · simp only [q3] at h
        · by_cases hl : acc.length < 16777216
          · simp only [q3, if_pos (show acc.length < SZ from hl)] at h
            exact ⟨hl, h⟩
          · simp only [q3, if_neg (show ¬ acc.length < SZ from hl)] at h
    · cases b with
      | false => exact h
      | true =>
        show wp (bnd f _) δ2 Q E
        rw [wp_bnd]
        refine wp_mono h (fun rv δ3 h => ?_) (fun _ _ h => h)
        unfold opt2 ask at h
        unfold wp
        rcases q3 : give δ3 rv with _ | ⟨x, δ4⟩
        · rw [q3] at h; exact h.elim
        · rw [q3] at h
          simp only [q3, if_pos (show acc.length < SZ from h.1)]
          exact h.2
theorem lcK_un {a : FG} {t : FT} {f : FE} {vs : List Nat} {ds : List D} {δ : Env'} {Q : RV → Env' → Prop} : lcK a t f vs ds δ Q ↔ ask (okSlots vs δ = true) (wp (lcD a t f vs ds []) (wipeE δ vs) (fun acc δ2 => Q (.val (.lst acc) true) (restS vs δ δ2)) fun _ _ => False) := by
  unfold lcK ask
  simp only [restore_eq]
theorem enumD_eq {ds : List D} : enumD ds = ds.zipIdx.map fun p => .tup [.int (p.2 : Nat), p.1] := by
  unfold enumD
  rw [List.mapIdx_eq_zipIdx_map]
theorem pop_nat {ds : List D} {k : Nat} (h : k < ds.length) (hl : ds.length < 1000000) : mPop ds [.int (k : Int)] = some (ds.eraseIdx k, ds[k]) := by
  have e : seqIndex? (k : Int) ds.length = some k := by
    unfold seqIndex?
    have h0 : ¬ (k : Int) < 0 := by omega
    simp only [if_neg h0]
    have h1 : (decide (0 ≤ (k : Int)) && decide ((k : Int) < (ds.length : Int))) = true := by simp; omega
    rw [if_pos h1]; simp
  have h2 : (decide (-9223372036854775808 ≤ (k : Int)) && decide ((k : Int) < 9223372036854775808)) = true := by simp; omega
  unfold mPop
  simp only [h2, if_true, e, List.getElem?_eq_getElem h, Option.map_some]
theorem erase_perm {α : Type} : ∀ {l : List α} {i : Nat} (h : i < l.length), (l[i] :: l.eraseIdx i).Perm l
  | a :: l, 0, _ => by simp
  | a :: l, i + 1, h => by
    have := erase_perm (l := l) (i := i) (by simpa using h)
    simp only [List.getElem_cons_succ, List.eraseIdx_cons_succ]
    exact (List.Perm.swap ..).trans (this.cons a)
/-- a comprehension each turn of which draws at most c times -/
theorem lcK_drawG {Pn : Nat → D → Prop} {a : FG} {t : FT} {f : FE} {vs : List Nat} {ds : List D} {d : D} {Q : RV → Env' → Prop} (Δ Δw : D → Env') (P : D → Prop) (c n : Nat) (hp : Pn n d) (hn : ds.length * c ≤ n) (hl : ds.length ≤ 16777216)
    (hok : okSlots vs (Δ d) = true) (hw : ∀ d, wipeE (Δ d) vs = Δw d) (hr : ∀ d', restS vs (Δ d) (Δw d') = Δ d')
    (hc : ∀ x ∈ ds, ∀ d m, Pn m d → c ≤ m → opt (a x (Δw d)) fun δ1 => wp t δ1 (fun b δ2 => cnd b (wp f δ2 (fun rv δ3 => opt2 (give δ3 rv) fun y δ4 => P y ∧ ∃ d', Pn (m - c) d' ∧ wipeE δ4 vs = Δw d') fun _ _ => False) (∃ d', Pn (m - c) d' ∧ wipeE δ2 vs = Δw d')) fun _ _ => False)
    (hq : ∀ ys d', (∀ y ∈ ys, P y) → ys.length ≤ ds.length → Pn (n - ds.length * c) d' → Q (.val (.lst ys) true) (Δ d')) : lcK a t f vs ds (Δ d) Q := by
  refine lcK_inv (fun r acc δ' => ∃ d' p, δ' = Δw d' ∧ ds = p ++ r ∧ Pn (n - p.length * c) d' ∧ (∀ y ∈ acc, P y) ∧ acc.length ≤ p.length) hok ⟨d, [], hw d, rfl, by simpa using hp, (fun _ h => nomatch h), by simp⟩ (fun x r acc δ' h => ?_) fun acc δ' h => ?_
  · obtain ⟨d', p, rfl, e, h1, h2, h3⟩ := h
    have hx : x ∈ ds := by rw [e]; simp
    have hlen : ds.length = p.length + (r.length + 1) := by rw [e]; simp
    have e5 : (p.length + 1) * c ≤ ds.length * c := Nat.mul_le_mul_right _ (by omega)
    rw [Nat.add_mul, Nat.one_mul] at e5
    have e4 : ds = (p ++ [x]) ++ r := by rw [e]; simp
    have e6 : (p ++ [x]).length * c = p.length * c + c := by rw [List.length_append, Nat.add_mul]; simp
    have q := hc x hx d' _ h1 (by omega)
    unfold opt at q ⊢
    cases q0 : a x (Δw d') with
    | none => rw [q0] at q; exact q.elim
    | some δ1 =>
      rw [q0] at q
      refine wp_mono q (fun b δ2 q1 => ?_) fun _ _ h => h
      cases b with
      | false =>
        obtain ⟨d2, q2, q3⟩ := q1
        exact ⟨d2, p ++ [x], q3, e4, by rw [e6]; rwa [Nat.sub_sub] at q2, h2, by simp; omega⟩
      | true =>
        refine wp_mono q1 (fun rv δ3 q2 => ?_) fun _ _ h => h
        unfold opt2 at q2 ⊢
        rcases q3 : give δ3 rv with _ | ⟨y, δ4⟩
        · rw [q3] at q2; exact q2.elim
        · rw [q3] at q2
          obtain ⟨hy, d2, q4, q5⟩ := q2
          exact ⟨by show _ < 16777216; omega, d2, p ++ [x], q5, e4, by rw [e6]; rwa [Nat.sub_sub] at q4, fun z hz => by
            rcases List.mem_append.mp hz with hz | hz
            · exact h2 z hz
            · rw [List.mem_singleton.mp hz]; exact hy, by simp; omega⟩
  · obtain ⟨d', p, rfl, e, h1, h2, h3⟩ := h
    rw [List.append_nil] at e
    subst e
    rw [hr]
    exact hq acc d' h2 h3 h1
theorem lcK_draw {Pn : Nat → D → Prop} {a : FG} {t : FT} {f : FE} {vs : List Nat} {ds : List D} {d : D} {δr δw : Env'} {Q : RV → Env' → Prop} (P : D → Prop) (c n : Nat) (hp : Pn n d) (hn : ds.length * c ≤ n) (hl : ds.length ≤ 16777216)
    (hok : okSlots vs (some (.io, d) :: δr) = true) (hw : ∀ d, wipeE (some (.io, d) :: δr) vs = some (.io, d) :: δw) (hr : ∀ d', restS vs (some (.io, d) :: δr) (some (.io, d') :: δw) = some (.io, d') :: δr)
    (hc : ∀ x ∈ ds, ∀ d m, Pn m d → c ≤ m → opt (a x (some (.io, d) :: δw)) fun δ1 => wp t δ1 (fun b δ2 => cnd b (wp f δ2 (fun rv δ3 => opt2 (give δ3 rv) fun y δ4 => P y ∧ ∃ d', Pn (m - c) d' ∧ wipeE δ4 vs = some (.io, d') :: δw) fun _ _ => False) (∃ d', Pn (m - c) d' ∧ wipeE δ2 vs = some (.io, d') :: δw)) fun _ _ => False)
    (hq : ∀ ys d', (∀ y ∈ ys, P y) → ys.length ≤ ds.length → Pn (n - ds.length * c) d' → Q (.val (.lst ys) true) (some (.io, d') :: δr)) : lcK a t f vs ds (some (.io, d) :: δr) Q :=
  lcK_drawG (fun d => some (.io, d) :: δr) (fun d => some (.io, d) :: δw) P c n hp hn hl hok hw hr hc hq
theorem lcK_draw1 {Pn : Nat → D → Prop} {a : FG} {t : FT} {f : FE} {vs : List Nat} {ds : List D} {d : D} {s0 s1 : SlD} {k : SK} {δr δw : Env'} {Q : RV → Env' → Prop} (P : D → Prop) (c n : Nat) (hp : Pn n d) (hn : ds.length * c ≤ n) (hl : ds.length ≤ 16777216)
    (hok : okSlots vs (s0 :: some (k, d) :: δr) = true) (hw : ∀ d, wipeE (s0 :: some (k, d) :: δr) vs = s1 :: some (k, d) :: δw) (hr : ∀ d', restS vs (s0 :: some (k, d) :: δr) (s1 :: some (k, d') :: δw) = s0 :: some (k, d') :: δr)
    (hc : ∀ x ∈ ds, ∀ d m, Pn m d → c ≤ m → opt (a x (s1 :: some (k, d) :: δw)) fun δ1 => wp t δ1 (fun b δ2 => cnd b (wp f δ2 (fun rv δ3 => opt2 (give δ3 rv) fun y δ4 => P y ∧ ∃ d', Pn (m - c) d' ∧ wipeE δ4 vs = s1 :: some (k, d') :: δw) fun _ _ => False) (∃ d', Pn (m - c) d' ∧ wipeE δ2 vs = s1 :: some (k, d') :: δw)) fun _ _ => False)
    (hq : ∀ ys d', (∀ y ∈ ys, P y) → ys.length ≤ ds.length → Pn (n - ds.length * c) d' → Q (.val (.lst ys) true) (s0 :: some (k, d') :: δr)) : lcK a t f vs ds (s0 :: some (k, d) :: δr) Q :=
  lcK_drawG (fun d => s0 :: some (k, d) :: δr) (fun d => s1 :: some (k, d) :: δw) P c n hp hn hl hok hw hr hc hq
end TM
set_option maxRecDepth 100000
set_option maxHeartbeats 4000000
namespace TM
open PySem PySem.Spec PyProof.Rows L2
variable [Tbs] [Ad]
abbrev pen (c : List Int) (a r : Int) : D := .lst [.lst (c.map D.int), .int a, .int r]
def Pen (n : Nat) (d : D) : Prop := ∃ (c : List Int) (a r : Int), d = pen c a r ∧ c.length ≤ 60 ∧ 0 ≤ a ∧ a + n ≤ 1000000 ∧ 0 ≤ r
theorem doks_ints {n : Nat} {c : List Int} : doks n (c.map D.int) = true := by
  rw [doks_all]; simp
theorem next_ok {n : Nat} {d : D} {m : Int} {K : D → Bool → List AD → Prop} {E : Exc → List AD → Prop} (hp : Pen (n + 1) d) (hm : 0 < m) (hm2 : m < 1606938044258990275541962092341162602522202993782792835301376)
    (k : ∀ v d', 0 ≤ v → v < m → Pen n d' → K (.int v) false [.io d', .sh (.int m)]) : wpF (F__law_next [.io d, .sh (.int m)]) K E := by
  obtain ⟨c, a, r, rfl, hc, ha, ha2, hr⟩ := hp
  unfold F__law_next
  rw [wpF_run]
  unfold g__law_next
  simp [slots, -cwpS_if]
  rw [wpS_if]
  simp [-cwpS_if]
  refine cnd_split (fun h => ?_) (fun h => ?_)
  · simp [hm, hm2]
    refine k _ _ (Int.emod_nonneg _ (by omega)) (Int.emod_lt_of_pos _ hm) ⟨c, a, r / m, rfl, hc, ha, by omega, Int.ediv_nonneg hr (by omega)⟩
  have hr0 : r = 0 := by simp at h; omega
  subst hr0
  refine wpS_slot 4 (fun d => ∃ x, d = .int x) ?_ ?_
  · simp [doks_ints]
    cases c with
    | nil => simp
    | cons c0 cs =>
      have h1 : 0 < ((cs.length : Int) + 1) := by omega
      obtain ⟨x, e1, e2⟩ := atI_mem (xs := (c0 :: cs).map D.int) (i := a % ((cs.length : Int) + 1)) (Int.emod_nonneg _ (by omega)) (by simp; exact Int.emod_lt_of_pos _ h1)
      obtain ⟨y, _, rfl⟩ := List.mem_map.mp e2
      simp only [List.map_cons] at e1
      simp [e1, h1]
  rintro _ ⟨x, rfl⟩
  have fin_ : ∀ (v r' : Int), 0 ≤ r' → 0 ≤ v → v < m → K (.int v) false [.io (pen c (a + 1) r'), .sh (.int m)] := fun v r' h1 h2 h3 => k v _ h2 h3 ⟨c, a + 1, r', rfl, hc, by omega, by omega, h1⟩
  have ha3 : a < 1000000 := by omega
  simp [-cwpS_if]
  rw [wpS_if, wp_and]
  simp
  have tail : ask ((x % 2147483549 + 78059 * a + 1433).natAbs < 18446744073709551616)
      (ask
        (-18446744073709551616 < (x % 2147483549 + 78059 * a + 1433) ^ 5 % 2147483647 ∧
            (x % 2147483549 + 78059 * a + 1433) ^ 5 % 2147483647 < 18446744073709551616 ∨
          -18446744073709551616 < 2 * a + 1777 ∧ 2 * a + 1777 < 18446744073709551616)
        (ask
          (-18446744073709551616 < 60209 * a ∧ 60209 * a < 18446744073709551616 ∨
            -18446744073709551616 < a ∧ a < 18446744073709551616)
          (ask
            (((x % 2147483549 + 78059 * a + 1433) ^ 5 % 2147483647 * (2 * a + 1777) + 60209 * a * a + 78059).natAbs <
              18446744073709551616)
            (ask (0 < m)
              (K
                (D.int
                  (((x % 2147483549 + 78059 * a + 1433) ^ 5 % 2147483647 * (2 * a + 1777) + 60209 * a * a + 78059) ^ 3 %
                        2147483579 /
                      64 %
                    m))
                false [AD.io (D.lst [D.lst (List.map D.int c), D.int (a + 1), D.int 0]), AD.sh (D.int m)]))))) := by
    have h1 := Int.emod_nonneg x (show (2147483549 : Int) ≠ 0 by omega)
    have h2 := Int.emod_lt_of_pos x (show (0 : Int) < 2147483549 by omega)
    generalize (x % 2147483549 + 78059 * a + 1433) ^ 5 = z
    have h3 := Int.emod_nonneg z (show (2147483647 : Int) ≠ 0 by omega)
    have h4 := Int.emod_lt_of_pos z (show (0 : Int) < 2147483647 by omega)
    have h5 : 0 ≤ 60209 * a * a := Int.mul_nonneg (by omega) ha
    have h6 : 60209 * a * a ≤ 60209 * 1000000 * 1000000 := Int.mul_le_mul (by omega) (by omega) ha (by omega)
    have h7 : 0 ≤ z % 2147483647 * (2 * a + 1777) := Int.mul_nonneg h3 (by omega)
    have h8 : z % 2147483647 * (2 * a + 1777) ≤ 2147483647 * 2001777 := Int.mul_le_mul (by omega) (by omega) (by omega) (by omega)
    refine ask_of (by omega) (ask_of (by omega) (ask_of (by omega) (ask_of ?_ (ask_of hm ?_))))
    · generalize z % 2147483647 * (2 * a + 1777) = u at *
      generalize 60209 * a * a = w at *
      omega
    · exact fin_ _ _ (by omega) (Int.emod_nonneg _ (by omega)) (Int.emod_lt_of_pos _ hm)
  refine cnd_split (fun h1 => cnd_split (fun h2 => ?_) fun _ => tail) fun _ => tail
  refine ask_of ⟨hm, hm2⟩ (ask_of hm ?_)
  refine fin_ _ _ (Int.ediv_nonneg ?_ (by omega)) (Int.emod_nonneg _ (by omega)) (Int.emod_lt_of_pos _ hm)
  simp only [decide_eq_true_eq] at h2
  have : 0 ≤ (if x < 0 then (1 : Int) else 0) := by split <;> omega
  omega
/-- fewer draws -/
theorem Pen.le {n m : Nat} {d : D} (h : Pen n d) (e : m ≤ n) : Pen m d := by
  obtain ⟨c, a, r, h1, h2, h3, h4, h5⟩ := h
  exact ⟨c, a, r, h1, h2, h3, by omega, h5⟩
end TM
set_option maxRecDepth 100000
set_option maxHeartbeats 4000000
namespace TM
open PySem PySem.Spec PyProof.Rows L2
variable [Tbs] [Ad]
def isInt : D → Bool
  | .int _ => true
  | _ => false
theorem is_integer_eq {d : D} (h : gd d = true) : F_is_integer [.sh d] = .ok (.bl (isInt d)) false [.sh d] := by
  apply wpF_eq
  unfold F_is_integer
  rw [wpF_run]
  unfold g_is_integer
  cases d <;> first | (simp [gd] at h; done) | simp [slots, isInt]
theorem plain_eq {d : D} (h : gd d = true) : F__law_is_plain [.sh d] = .ok (.bl (isInt d)) false [.sh d] := by
  apply wpF_eq
  unfold F__law_is_plain
  rw [wpF_run]
  unfold g__law_is_plain
  cases d <;> first | (simp [gd] at h; done) | simp [slots, isInt]
/-- a bound -/
def bnd? : Option Int → D
  | none => .non
  | some i => .int i
def withinB (d : D) (l m : Option Int) : Bool := match d with
  | .int i => (match l with | none => true | some a => decide (a ≤ i)) && match m with | none => true | some b => decide (i ≤ b)
  | _ => false
theorem is_within_eq {d : D} (h : gd d = true) {l m : Option Int} : F_is_within [.sh d, .sh (bnd? l), .sh (bnd? m)] = .ok (.bl (withinB d l m)) false [.sh d, .sh (bnd? l), .sh (bnd? m)] := by
  apply wpF_eq
  unfold F_is_within
  rw [wpF_run]
  unfold g_is_within
  cases d <;> first | (simp [gd] at h; done) | skip
  case int i =>
    cases l <;> cases m <;> simp [slots, is_integer_eq h, isInt, wp_and, bnd?, withinB]
    · refine cnd_split (fun h => ?_) fun h => ?_ <;> simp_all
    · refine cnd_split (fun h => ?_) fun h => ?_ <;> simp_all
      omega
  all_goals simp [slots, is_integer_eq h, isInt, withinB]
/-- small letters -/
def lows : List Nat := ("abcdefghijklmnopqrstuvwxyz" : Str).cps.toList
def digs : List Nat := ("0123456789" : Str).cps.toList
@[simp] theorem len_low : (Str.ofString "abcdefghijklmnopqrstuvwxyz").length = 26 := by decide +kernel
theorem lows_ok : ∀ c ∈ lows, c < 1114112 := by decide +kernel
theorem digs_ok : ∀ c ∈ digs, c < 1114112 := by decide +kernel
@[simp] theorem lit_lows : (Str.ofString "abcdefghijklmnopqrstuvwxyz").cps.toList = lows := by decide +kernel
@[simp] theorem lit_digs : (Str.ofString "0123456789").cps.toList = digs := by decide +kernel
@[simp] theorem lit_both : (Str.ofString "abcdefghijklmnopqrstuvwxyz0123456789").cps.toList = lows ++ digs := by decide +kernel
def nameL : List Nat → Bool
  | [] => false
  | c :: l => decide (l.length < 12) && (decide (c ∈ lows) && (c :: l).all fun c => decide (c ∈ lows) || decide (c ∈ digs))
def isName : D → Bool
  | .str s => nameL s.cps.toList
  | _ => false
def shortB : D → Bool
  | .str s => decide (s.length ≤ 16777216)
  | _ => true
theorem is_name_eq {d : D} (h : gd d = true) (h2 : shortB d = true) : F_is_name [.sh d] = .ok (.bl (isName d)) false [.sh d] := by
  apply wpF_eq
  unfold F_is_name
  rw [wpF_run]
  unfold g_is_name
  cases d <;> first | (simp [gd] at h; done) | skip
  case str s =>
    obtain ⟨⟨l⟩⟩ := s
    have hs : l.length ≤ 16777216 := of_decide_eq_true h2
    cases l with
    | nil => simp [slots, wp_or, isName, nameL]
    | cons c l =>
      have hs' : l.length + 1 ≤ 16777216 := hs
      simp [slots, wp_or, hs', isName, nameL]
      refine cnd_split (fun h => ?_) fun h => ?_
      · refine cnd_split (fun h2 => ?_) fun h2 => ?_
        · simp_all
          omega
        · refine cnd_split (fun h3 => ?_) fun h3 => ?_
          · refine lcK_m (xs := c :: l) (enc := fun c => .str ⟨#[c]⟩) (fun c => .bl (decide (c ∈ lows) || decide (c ∈ digs))) hs' (by simp) (fun x hx => ?_) ?_
            · simp
              refine cnd_split (fun h4 => ?_) fun h4 => ?_ <;> simp_all
            · simp
              simp_all
              intro _; omega
          · simp_all
      · simp_all
        omega
  all_goals simp [slots, isName, wp_or]
/-- an item of a list -/
def it (d : D) : Bool := gd d && shortB d && dok 60 d
theorem lname_eq {d : D} (h : gd d = true) (h2 : shortB d = true) (h3 : okS d = true) : F__law_is_name [.sh d] = .ok (.bl (isName d)) false [.sh d] := by
  apply wpF_eq
  unfold F__law_is_name
  rw [wpF_run]
  unfold g__law_is_name
  cases d <;> first | (simp [gd] at h; done) | skip
  case str s =>
    obtain ⟨⟨l⟩⟩ := s
    have hs : l.length ≤ 16777216 := of_decide_eq_true h2
    have lows1 : doks 63 (List.map (fun c => D.str ⟨⟨[c]⟩⟩) lows) = true := doks_of fun x hx => by
      obtain ⟨c, hc, rfl⟩ := List.mem_map.mp hx
      simpa using lows_ok c hc
    have lows2 : ∀ c, ((List.map (fun c => D.str ⟨⟨[c]⟩⟩) lows).any fun z => deq z (.str ⟨⟨[c]⟩⟩)) = decide (c ∈ lows) := fun c => by
      rw [List.any_map]
      by_cases h : c ∈ lows <;> simp [h, Function.comp_def]
      intro x hx e; exact h (e ▸ hx)
    have ok : l.all fun c => decide (c < 1114112) := by rw [← mk_ok]; exact h3
    cases l with
    | nil =>
      simp [slots, wp_or, isName, nameL, signs, lows1, Function.comp_def]
    | cons c l =>
      have hs' : l.length + 1 ≤ 16777216 := hs
      have okc : c < 1114112 := by simp at ok; exact ok.1
      simp [slots, wp_or, hs', isName, nameL, signs, lows1, lows2, okc]
      refine cnd_split (fun h => ?_) fun h => ?_
      · simp_all; omega
      · refine cnd_split (fun h4 => ?_) fun h4 => ?_
        · simp_all
        · refine lcK_f (xs := c :: l) (enc := fun c => .str ⟨⟨[c]⟩⟩) (fun c => if c ∈ lows ∨ c ∈ digs then none else some (.str ⟨⟨[c]⟩⟩)) hs' (by simp) (fun x hx => ?_) ?_
          · simp
            refine cnd_split (fun h5 => ?_) fun h5 => ?_ <;> simp_all
          · have d1 : ∀ m : List Nat, (m.all fun c => decide (c < 1114112)) = true → doks 63 (m.filterMap fun c => if c ∈ lows ∨ c ∈ digs then none else some (.str ⟨⟨[c]⟩⟩)) = true := fun m hm => by
              refine doks_of fun x hx => ?_
              obtain ⟨c', h6, h7⟩ := List.mem_filterMap.mp hx
              split at h7
              · cases h7
              · cases h7
                simp only [List.all_eq_true] at hm
                simpa using hm c' h6
            rw [List.all_cons, Bool.and_eq_true] at ok
            have d2 := d1 l ok.2
            have e : (fun c => (if c ∈ lows ∨ c ∈ digs then none else some (D.str ⟨⟨[c]⟩⟩) : Option D).isNone) = fun c => decide (c ∈ lows) || decide (c ∈ digs) := by
              funext c; by_cases h1 : c ∈ lows <;> by_cases h2 : c ∈ digs <;> simp [h1, h2]
            simp only [decide_eq_false_iff_not, Bool.not_eq_false', decide_eq_true_eq] at h4 h
            have h5 : l.length < 12 := by omega
            simp [d2, h4, e, h5]
  all_goals simp [slots, isName, wp_or]
def asc : List Str → Bool
  | a :: b :: r => sLt a b && asc (b :: r)
  | _ => true
def cellL (xs : List D) : Bool := match strsD xs with
  | some ss => (ss.all fun s => nameL s.cps.toList) && asc ss
  | none => false
def isCell : D → Bool
  | .lst xs => cellL xs
  | .tup xs => cellL xs
  | _ => false
def its : D → List D
  | .lst xs => xs
  | .tup xs => xs
  | _ => []
end TM
set_option maxRecDepth 100000
set_option maxHeartbeats 4000000
namespace TM
open PySem PySem.Spec PyProof.Rows L2
variable [Tbs] [Ad]
mutual
theorem dok_up : ∀ {d : D} {n m : Nat}, dok n d = true → n ≤ m → dok m d = true
  | .non, _, _, _, _ => by simp
  | .bl _, _, _, _, _ => by simp
  | .int _, _, _, _, _ => by simp
  | .str _, _, _, h, _ => by simpa using h
  | .lst ds, n, m, h, e => by
    cases n with
    | zero => simp [dok] at h
    | succ n =>
      obtain ⟨k, rfl⟩ : ∃ k, m = k + 1 := ⟨m - 1, by omega⟩
      rw [dok_lst] at h ⊢
      exact doks_up h (by omega)
  | .tup ds, n, m, h, e => by
    cases n with
    | zero => simp [dok] at h
    | succ n =>
      obtain ⟨k, rfl⟩ : ∃ k, m = k + 1 := ⟨m - 1, by omega⟩
      rw [dok_tup] at h ⊢
      exact doks_up h (by omega)
  | .fz _, _, _, h, _ => by simp [dok] at h
  | .dct _, _, _, h, _ => by simp [dok] at h
  | .ins _ _, _, _, h, _ => by simp [dok] at h
  | .opq _, _, _, h, _ => by simp [dok] at h
theorem doks_up : ∀ {ds : List D} {n m : Nat}, doks n ds = true → n ≤ m → doks m ds = true
  | [], _, _, _, _ => by simp
  | d :: ds, _, _, h, e => by
    rw [doks_cons, Bool.and_eq_true] at h ⊢
    exact ⟨dok_up h.1 e, doks_up h.2 e⟩
end
theorem it_gd {d : D} (h : it d = true) : gd d = true ∧ shortB d = true ∧ dok 60 d = true := by
  simp only [it, Bool.and_eq_true] at h; exact ⟨h.1.1, h.1.2, h.2⟩
theorem it_ok {d : D} (h : it d = true) : okS d = true := by
  have := (it_gd h).2.2
  cases d <;> first | rfl | (simpa [okS] using this)
theorem strs_of : ∀ {xs : List D}, xs.all isName = true → ∃ ss : List Str, xs = ss.map .str ∧ (ss.all fun s => nameL s.cps.toList) = true
  | [], _ => ⟨[], rfl, rfl⟩
  | x :: xs, h => by
    simp only [List.all_cons, Bool.and_eq_true] at h
    obtain ⟨ss, rfl, h2⟩ := strs_of h.2
    cases x <;> simp [isName] at h
    rename_i s
    exact ⟨s :: ss, rfl, by rw [List.all_cons, h2, Bool.and_true]; exact h.1⟩
theorem strsD_some : ∀ {xs : List D} {ss : List Str}, strsD xs = some ss → xs = ss.map .str
  | [], ss, h => by cases h; rfl
  | x :: xs, ss, h => by
    cases x <;> simp only [strsD, reduceCtorEq, Option.map_eq_some_iff] at h
    obtain ⟨r, h1, rfl⟩ := h
    rw [strsD_some h1]; rfl
theorem cellL_names {xs : List D} (h : xs.all isName = false) : cellL xs = false := by
  unfold cellL
  cases q : strsD xs with
  | none => rfl
  | some ss =>
    rw [strsD_some q] at h
    have : (ss.all fun s => nameL s.cps.toList) = false := by
      rw [← h, List.all_map]; rfl
    simp [this]
theorem cellL_strs {ss : List Str} (h : (ss.all fun s => nameL s.cps.toList) = true) : cellL (ss.map .str) = asc ss := by
  unfold cellL
  rw [strsD_map]
  simp only [h, Bool.true_and]
theorem asc_zip : ∀ {ss : List Str}, ((ss.zip ss.tail).all fun p => sLt p.1 p.2) = asc ss
  | [] => rfl
  | [_] => rfl
  | a :: b :: r => by
    have := asc_zip (ss := b :: r)
    simp only [List.tail_cons, List.zip_cons_cons, List.all_cons, asc] at this ⊢
    rw [this]
theorem zip_strs {ss ts : List Str} : zipD (ss.map .str) (ts.map .str) = (ss.zip ts).map fun p => .tup [.str p.1, .str p.2] := by
  unfold zipD
  rw [List.zipWith_map, List.zip, List.map_zipWith]
theorem is_cell_eq {d : D} (h : gd d = true) (hi : ∀ x ∈ its d, it x = true) (hl : (its d).length ≤ 16777216) : F_is_cell [.sh d] = .ok (.bl (isCell d)) false [.sh d] := by
  have gen : ∀ xs, (d = .lst xs ∨ d = .tup xs) → F_is_cell [.sh d] = .ok (.bl (isCell d)) false [.sh d] := fun xs hd => by
    have hi' : ∀ x ∈ xs, it x = true := by rcases hd with rfl | rfl <;> exact hi
    have hl' : xs.length ≤ 16777216 := by rcases hd with rfl | rfl <;> exact hl
    have hc : isCell d = cellL xs := by rcases hd with rfl | rfl <;> rfl
    apply wpF_eq
    unfold F_is_cell
    rw [wpF_run, hc]
    unfold g_is_cell
    rcases hd with rfl | rfl
    all_goals
      simp [slots, wp_or]
      refine lcK_d (fun x => .bl (isName x)) hl' (by simp) (fun x hx => ?_) ?_
      · obtain ⟨h1, h2, h3⟩ := it_gd (hi' x hx)
        simp [is_name_eq h1 h2]
      · simp
        refine cnd_split (fun h => ?_) fun h => ?_
        · have : xs.all isName = false := by
            by_cases e : xs.all isName = true
            · simp [Function.comp_def] at h e; obtain ⟨x, h1, h2⟩ := h; rw [e x h1] at h2; cases h2
            · simpa using e
          rw [cellL_names this]
        · have : xs.all isName = true := by
            simp [Function.comp_def] at h ⊢; exact h
          obtain ⟨ss, rfl, hss⟩ := strs_of this
          rw [cellL_strs hss, ← List.map_tail, zip_strs]
          refine lcK_m (xs := ss.zip ss.tail) (enc := fun p => .tup [.str p.1, .str p.2]) (fun p => .bl (sLt p.1 p.2)) ?_ ?_ (fun x hx => ?_) ?_
          · rw [List.length_zip]; rw [List.length_map] at hl'; omega
          · simp
          · simp
          · simp [Function.comp_def, asc_zip]
  cases d <;> first | (simp [gd] at h; done) | skip
  case lst xs => exact gen xs (.inl rfl)
  case tup xs => exact gen xs (.inr rfl)
  all_goals
    apply wpF_eq
    unfold F_is_cell
    rw [wpF_run]
    unfold g_is_cell
    simp [slots, isCell, wp_or]
/-- where a row does not ascend -/
def descG (ss : List Str) (i : Nat) : Option D := match ss[i]?, ss[i + 1]? with
  | some a, some b => if sLt a b then none else some (.int (1 + (i : Nat)))
  | _, _ => none
theorem asc_range : ∀ {ss : List Str}, ((List.range (ss.length - 1)).all fun i => (descG ss i).isNone) = asc ss
  | [] => rfl
  | [_] => rfl
  | a :: b :: r => by
    have ih := asc_range (ss := b :: r)
    have e : (a :: b :: r).length - 1 = r.length + 1 := by simp
    have e2 : (b :: r).length - 1 = r.length := by simp
    rw [e2] at ih
    rw [e, List.range_succ_eq_map, List.all_cons, List.all_map, asc, ← ih]
    congr 1
    · simp only [descG, List.getElem?_cons_zero, List.getElem?_cons_succ]
      cases sLt a b <;> rfl
    · congr 1
      funext i
      simp only [descG, Function.comp_def, Nat.succ_eq_add_one, List.getElem?_cons_succ]
      cases q1 : (b :: r)[i]? <;> simp
      cases q2 : r[i]? <;> simp
      split <;> rfl
/-- the law's own look at cells -/
theorem lcell_eq {d : D} (h : gd d = true) (hi : ∀ x ∈ its d, it x = true) (hl : (its d).length ≤ 16777215) : F__law_is_cell [.sh d] = .ok (.bl (isCell d)) false [.sh d] := by
  have gen : ∀ xs, (d = .lst xs ∨ d = .tup xs) → F__law_is_cell [.sh d] = .ok (.bl (isCell d)) false [.sh d] := fun xs hd => by
    have hi' : ∀ x ∈ xs, it x = true := by rcases hd with rfl | rfl <;> exact hi
    have hl' : xs.length ≤ 16777215 := by rcases hd with rfl | rfl <;> exact hl
    have hc : isCell d = cellL xs := by rcases hd with rfl | rfl <;> rfl
    apply wpF_eq
    unfold F__law_is_cell
    rw [wpF_run, hc]
    unfold g__law_is_cell
    have ok : doks 63 (xs.filterMap fun x => if isName x then none else some x) = true := doks_of fun y hy => by
      obtain ⟨z, h1, h2⟩ := List.mem_filterMap.mp hy
      split at h2
      · cases h2
      · cases h2
        exact dok_up (it_gd (hi' _ h1)).2.2 (by omega)
    rcases hd with rfl | rfl
    all_goals
      simp [slots, wp_or]
      refine lcK_df (fun x => if isName x then none else some x) (by omega) (by simp) (fun x hx => ?_) ?_
      · simp [lname_eq (it_gd (hi' x hx)).1 (it_gd (hi' x hx)).2.1 (it_ok (hi' x hx))]
        refine cnd_split (fun h => ?_) fun h => ?_ <;> simp_all
      · simp [ok]
        refine cnd_split (fun h => ?_) fun h => ?_
        · have : xs.all isName = false := by
            by_cases e : xs.all isName = true
            · simp at h e; obtain ⟨x, h1, h2⟩ := h; simp [e x h1] at h2
            · simpa using e
          rw [cellL_names this]
        · have : xs.all isName = true := by
            simp at h ⊢; intro x hx; have := h x hx; revert this; cases isName x <;> simp
          obtain ⟨ss, rfl, hss⟩ := strs_of this
          rw [cellL_strs hss]
          simp only [List.length_map] at hl'
          refine ask_of (by simp; omega) ?_
          rw [show rngD 1 ((ss.map D.str).length - 1) = (List.range (ss.length - 1)).map (fun i => D.int (1 + (i : Nat))) from by rw [List.length_map]; rfl]
          refine lcK_f (xs := List.range (ss.length - 1)) (enc := fun i => .int (1 + (i : Nat))) (descG ss) ?_ ?_ (fun i hi => ?_) ?_
          · simp; omega
          · simp
          · have hi2 := List.mem_range.mp hi
            have e1 : (1 + (i : Int) - 1) = ((i : Nat) : Int) := by omega
            have g1 : ss[i]? = some ss[i] := List.getElem?_eq_getElem (by omega)
            have g2 : ss[i + 1]? = some ss[i + 1] := List.getElem?_eq_getElem (by omega)
            simp [e1, g1, g2]
            refine cnd_split (fun h => ?_) fun h => ?_
            · simp [descG, g1, g2] at h ⊢; simp [h]
            · simp [descG, g1, g2] at h ⊢; simp [h]
          · have ok2 : doks 63 ((List.range (ss.length - 1)).filterMap (descG ss)) = true := doks_of fun y hy => by
              obtain ⟨z, h1, h2⟩ := List.mem_filterMap.mp hy
              unfold descG at h2
              split at h2
              · split at h2 <;> cases h2; simp
              · cases h2
            simp [ok2, asc_range]
  cases d <;> first | (simp [gd] at h; done) | skip
  case lst xs => exact gen xs (.inl rfl)
  case tup xs => exact gen xs (.inr rfl)
  all_goals
    apply wpF_eq
    unfold F__law_is_cell
    rw [wpF_run]
    unfold g__law_is_cell
    simp [slots, isCell, wp_or]
end TM
set_option maxRecDepth 100000
set_option maxHeartbeats 4000000
namespace TM
open PySem PySem.Spec PyProof.Rows L2
variable [Tbs] [Ad]
mutual
theorem deq_refl : ∀ {d : D} {n : Nat}, dok n d = true → deq d d = true
  | .non, _, _ => by simp
  | .bl _, _, _ => by simp
  | .int _, _, _ => by simp
  | .str _, _, h => by simp
  | .lst ds, n, h => by
    cases n with
    | zero => simp [dok] at h
    | succ n => rw [dok_lst] at h; rw [deq_lst]; exact deqs_refl h
  | .tup ds, n, h => by
    cases n with
    | zero => simp [dok] at h
    | succ n => rw [dok_tup] at h; rw [deq_tup]; exact deqs_refl h
  | .fz _, _, h => by simp [dok] at h
  | .dct _, _, h => by simp [dok] at h
  | .ins _ _, _, h => by simp [dok] at h
  | .opq _, _, h => by simp [dok] at h
theorem deqs_refl : ∀ {ds : List D} {n : Nat}, doks n ds = true → deqs ds ds = true
  | [], _, _ => by simp
  | d :: ds, _, h => by
    rw [doks_cons, Bool.and_eq_true] at h
    rw [deqs_cons, deq_refl h.1, deqs_refl h.2]; rfl
end
theorem cell_key_eq {d : D} {xs : List D} (h : d = .lst xs ∨ d = .tup xs) : F_cell_key [.sh d] = .ok (.tup [.int xs.length, .tup xs]) false [.sh d] := by
  apply wpF_eq
  unfold F_cell_key
  rw [wpF_run]
  unfold g_cell_key
  rcases h with rfl | rfl <;> simp [slots]
def textL (ss : List Str) : Str := if ss = [] then "-" else Txt.join "+" ss
theorem cell_text_eq {d : D} {ss : List Str} (h : d = .lst (ss.map .str) ∨ d = .tup (ss.map .str)) (hl : (ss.map (·.length)).sum + ss.length ≤ 16777216) : F_cell_text [.sh d] = .ok (.str (textL ss)) false [.sh d] := by
  apply wpF_eq
  unfold F_cell_text
  rw [wpF_run]
  unfold g_cell_text
  have e1 : ("+" : Str).length = 1 := by decide +kernel
  have hj := aJoin (s := "+") h (by rw [e1]; omega)
  cases ss with
  | nil => rcases h with rfl | rfl <;> (simp [slots, wp_if]; simp [textL])
  | cons s ss =>
    have h0 : (0 : Int) < (ss.length : Int) + 1 := by omega
    rcases h with rfl | rfl <;> (simp [slots, wp_if, h0]; simp only [List.map_cons] at hj; simp [hj, textL])
/-- what may be drawn -/
def val (d : D) : Prop := gd d = true ∧ (shortB d = true ∧ okS d = true) ∧ (∀ x ∈ its d, it x = true) ∧ (its d).length ≤ 100
theorem right_ok {d : D} (h : val d) {l m : Option Int} : F__law_value_right [.sh d, .sh (bnd? l), .sh (bnd? m)] = .ok (.bl true) false [.sh d, .sh (bnd? l), .sh (bnd? m)] := by
  obtain ⟨h1, ⟨h2, h2'⟩, h3, h4⟩ := h
  have hi := is_integer_eq h1
  have hp := plain_eq h1
  have hw := is_within_eq h1 (l := l) (m := m)
  have hn := is_name_eq h1 h2
  have hc := is_cell_eq h1 h3 (by omega)
  have hlc := lcell_eq h1 h3 (by omega)
  have hln : F__law_is_name [.sh d] = .ok (.bl (isName d)) false [.sh d] := lname_eq h1 h2 h2'
  apply wpF_eq
  unfold F__law_value_right
  rw [wpF_run]
  unfold g__law_value_right
  simp [slots, -cwpS_set]
  rw [wpS_set]
  simp [hp, -cwpS_set]
  refine wpS_slot 4 (fun x => x = .bl (withinB d l m)) ?_ ?_
  · rw [wpS_set]
    cases d <;> (try simp [isInt, withinB])
    rename_i i
    cases l with
    | none =>
      cases m with
      | none => simp [bnd?]
      | some b => by_cases p2 : i ≤ b <;> simp [bnd?, p2]
    | some a =>
      cases m with
      | none => by_cases p1 : a ≤ i <;> simp [bnd?, p1]
      | some b => by_cases p1 : a ≤ i <;> by_cases p2 : i ≤ b <;> simp [bnd?, p1, p2]
  rintro _ rfl
  simp [hln, hlc, hi, hw, hn, hc, hp, pm, -cwpS_if]
  have rf : ∀ bs : List Bool, deqs (bs.map D.bl) (bs.map D.bl) = true := fun bs => deqs_refl (n := 1) (doks_of fun x hx => by obtain ⟨b, _, rfl⟩ := List.mem_map.mp hx; simp)
  have rf1 := rf [isInt d, withinB d l m, withinB d l m, isName d, isCell d]
  simp only [List.map_cons, List.map_nil] at rf1
  rw [wpS_if, wp_or]
  simp [rf1, wp_or, -cwpS_if]
  refine lcK_df (fun _ => none) (by simp) ?_ (fun x hx => ?_) ?_
  · simp
  · have : ∃ b, x = .bl b := by
      simp at hx; rcases hx with rfl | rfl | rfl | rfl | rfl <;> exact ⟨_, rfl⟩
    obtain ⟨b, rfl⟩ := this
    simp
  have e0 : List.filterMap (fun _ : D => (none : Option D)) [D.bl (isInt d), D.bl (withinB d l m), D.bl (withinB d l m), D.bl (isName d), D.bl (isCell d)] = [] := rfl
  rw [e0]
  simp [hi, hlc]
  refine cnd_split (fun h => ?_) fun h => ?_
  · trivial
  have : isCell d = true := by simpa using h
  obtain ⟨ss, hd, hss⟩ : ∃ ss : List Str, (d = .lst (ss.map .str) ∨ d = .tup (ss.map .str)) ∧ (ss.all fun s => nameL s.cps.toList) = true := by
    have key : ∀ xs, cellL xs = true → ∃ ss : List Str, xs = ss.map .str ∧ (ss.all fun s => nameL s.cps.toList) = true := fun xs hx => by
      refine strs_of ?_
      cases q : xs.all isName with
      | true => rfl
      | false => rw [cellL_names q] at hx; cases hx
    cases d <;> simp only [isCell, reduceCtorEq, Bool.false_eq_true] at this
    · obtain ⟨ss, rfl, hq⟩ := key _ this; exact ⟨ss, .inl rfl, hq⟩
    · obtain ⟨ss, rfl, hq⟩ := key _ this; exact ⟨ss, .inr rfl, hq⟩
  have hs4 : ss.length ≤ 100 := by rcases hd with rfl | rfl <;> simpa [its] using h4
  have hl : (ss.map (·.length)).sum + ss.length ≤ 16777216 := by
    have : ∀ ss : List Str, (ss.all fun s => nameL s.cps.toList) = true → (ss.map (·.length)).sum ≤ 12 * ss.length := fun ss => by
      induction ss with
      | nil => intro _; simp
      | cons s ss ih =>
        intro h
        rw [List.all_cons, Bool.and_eq_true] at h
        have h5 := ih h.2
        have h6 : s.length ≤ 12 := by
          obtain ⟨⟨l⟩⟩ := s
          have := h.1
          cases l with
          | nil => simp
          | cons c l => simp only [nameL, Bool.and_eq_true, decide_eq_true_eq] at this; simp; omega
        simp; omega
    have := this ss hss
    omega
  have hd' : d = .lst (ss.map .str) ∨ d = .tup (ss.map .str) := hd
  have ck := cell_key_eq hd
  have ct := cell_text_eq hd hl
  have ct2 := cell_text_eq (.inr rfl) hl
  have okss : doks 62 (ss.map .str) = true := doks_of fun x hx => by
    have : it x = true := by rcases hd with rfl | rfl <;> exact h3 x hx
    exact dok_up (it_gd this).2.2 (by omega)
  have okt : dok 64 (.tup [.int (ss.map D.str).length, .tup (ss.map .str)]) = true := by simp [okss]
  have rft := deq_refl okt
  have oks : ∀ x ∈ ss, PyData.strOk x = true := fun x hx => by
    have := doks_mem okss (.str x) (List.mem_map.mpr ⟨x, hx, rfl⟩)
    simpa using this
  have tx : PyData.strOk (textL ss) = true := by
    unfold textL
    split
    · decide +kernel
    · exact ok_join (by decide +kernel) oks
  have e1 : ("+" : Str).length = 1 := by decide +kernel
  have hj := aJoin (s := "+") hd (by rw [e1]; omega)
  simp only [List.length_map] at rft okt
  simp only [deq_tup, deqs_cons, deq_int, Bool.and_eq_true, beq_self_eq_true, deqs_nil, true_and, and_true] at rft
  have tl : ss = [] → textL ss = "-" := fun h => by rw [h]; rfl
  have tl2 : ss ≠ [] → textL ss = Txt.join "+" ss := fun h => by unfold textL; rw [if_neg h]
  rcases hd with rfl | rfl
  all_goals
    by_cases h0 : ss = []
    · have t0 := tl h0
      subst h0
      simp only [t0] at *
      simp only [List.map_nil] at *
      simp [wp_if, ck, ct, ct2, tx]
    · have t0 := tl2 h0
      rw [t0] at ct ct2 tx
      have h6 : ((ss.length : Int) == 0) = false := by
        cases ss with
        | nil => exact absurd rfl h0
        | cons a b => simp; omega
      simp [wp_if, ck, ct, ct2, tx, hj, h6, okss, rft]
end TM
set_option maxRecDepth 100000
set_option maxHeartbeats 4000000
namespace TM
open PySem PySem.Spec PyProof.Rows L2
variable [Tbs] [Ad]
/-- one draw -/
theorem dr {n : Nat} {d : D} {m : Int} {K : D → Bool → List AD → Prop} {E : Exc → List AD → Prop} (hp : Pen n d) (hn : 1 ≤ n) (hm : 0 < m) (hm2 : m < 1606938044258990275541962092341162602522202993782792835301376)
    (k : ∀ v d', 0 ≤ v → v < m → Pen (n - 1) d' → K (.int v) false [.io d', .sh (.int m)]) : wpF (F__law_next [.io d, .sh (.int m)]) K E := by
  obtain ⟨j, rfl⟩ : ∃ j, n = j + 1 := ⟨n - 1, by omega⟩
  exact next_ok hp hm hm2 k
def txt (s : Str) : Prop := PyData.strOk s = true ∧ s.length ≤ 20
theorem name_ok {n : Nat} {d : D} {K : D → Bool → List AD → Prop} {E : Exc → List AD → Prop} (hp : Pen n d) (hn : 20 ≤ n) (k : ∀ s d', txt s → Pen (n - 20) d' → K (.str s) false [.io d']) : wpF (F__law_name [.io d]) K E := by
  unfold F__law_name
  rw [wpF_run]
  unfold g__law_name
  simp [slots]
  refine dr hp (by omega) (by omega) (by omega) fun v1 d1 h1 h2 p1 => ?_
  simp
  refine idx_mem h1 (by simpa using h2) fun x hx => ?_
  have hx' : ∃ j : Int, x = .int j ∧ 0 ≤ j ∧ j ≤ 13 := by
    simp at hx; rcases hx with rfl | rfl | rfl | rfl | rfl | rfl | rfl <;> exact ⟨_, rfl, by omega, by omega⟩
  obtain ⟨sz, rfl, z1, z2⟩ := hx'
  try simp
  refine dr p1 (by omega) (by omega) (by omega) fun v2 d2 h3 h4 p2 => ?_
  simp
  refine dr p2 (by omega) (by cases (v2 == 0) <;> simp) (by cases (v2 == 0) <;> simp) fun v3 d3 h5 h6 p3 => ?_
  simp
  refine idx_mem h5 (by revert h6; cases (v2 == 0) <;> simp <;> omega) fun x hx => ?_
  have hx' : ∃ c : Nat, x = .str ⟨⟨[c]⟩⟩ ∧ c < 1114112 := by
    simp at hx; rcases hx with rfl | rfl | rfl | rfl | rfl | rfl | rfl | rfl
    · exact ⟨97, congrArg D.str (by decide +kernel), by omega⟩
    · exact ⟨122, congrArg D.str (by decide +kernel), by omega⟩
    · exact ⟨109, congrArg D.str (by decide +kernel), by omega⟩
    · exact ⟨113, congrArg D.str (by decide +kernel), by omega⟩
    · exact ⟨48, congrArg D.str (by decide +kernel), by omega⟩
    · exact ⟨57, congrArg D.str (by decide +kernel), by omega⟩
    · exact ⟨66, congrArg D.str (by decide +kernel), by omega⟩
    · exact ⟨95, congrArg D.str (by decide +kernel), by omega⟩
  obtain ⟨c0, rfl, hc0⟩ := hx'
  try simp
  refine dr p3 (by omega) (by omega) (by omega) fun v4 d4 h7 h8 p4 => ?_
  simp
  have hsz : (if 1 < sz then sz - 1 else 0) ≤ 12 ∧ 0 ≤ (if 1 < sz then sz - 1 else 0) := by split <;> omega
  generalize (if 1 < sz then sz - 1 else 0) = q at hsz ⊢
  refine ask_of ⟨by omega, by omega⟩ ?_
  have hr : (rngD 0 q.toNat).length = q.toNat := rngD_len
  refine lcK_draw (fun y => ∃ s : Str, y = .str s ∧ PyData.strOk s = true ∧ s.length ≤ 1) 1 (n - 4) (p4.le (by omega)) (by omega) (by omega) (by simp) (δw := _) (fun _ => rfl) (fun _ => by simp) (fun x hx d m hp2 hm => ?_) fun ys d5 hy hl2 p5 => ?_
  · simp
    refine dr hp2 hm (by cases decide (0 < v4) <;> simp) (by cases decide (0 < v4) <;> simp) fun v5 d6 h9 h10 p6 => ?_
    simp
    refine sgn_mem h9 ?_ fun c hc => ?_
    · have : ("abcdefghijklmnopqrstuvwxyz0123456789A_ +-." : Str).cps.toList.length = 42 := by decide +kernel
      rw [this]
      revert h10; cases decide (0 < v4) <;> simp <;> omega
    · refine ⟨⟨⟨⟨[c]⟩⟩, rfl, ?_, by simp⟩, p6⟩
      have : ∀ c ∈ ("abcdefghijklmnopqrstuvwxyz0123456789A_ +-." : Str).cps.toList, c < 1114112 := by decide +kernel
      simpa using this c hc
  · simp
    obtain ⟨ss, rfl, hss⟩ := strs_mem hy
    have e0 : ("" : Str).length = 0 := by decide +kernel
    have e1 : (ss.map (·.length)).sum ≤ ss.length * 1 := sum_le fun s hs => (hss s hs).2
    rw [List.length_map] at hl2
    rw [aJoin (.inl rfl) (by rw [e0]; omega)]
    have l1 := join_len (s := "") (ss := ss)
    rw [e0] at l1
    have o1 : PyData.strOk (Txt.join "" ss) = true := ok_join (by decide +kernel) fun s hs => (hss s hs).1
    generalize Txt.join "" ss = z at l1 o1
    obtain ⟨⟨z⟩⟩ := z
    rw [mk_len] at l1
    obtain ⟨m, rfl⟩ : ∃ m : Nat, sz = m := ⟨sz.toNat, by omega⟩
    simp
    refine ask_of (by omega) (ask_of (by omega) (k _ _ ⟨?_, ?_⟩ (p5.le (by omega))))
    · simp only [mk_ok, List.all_eq_true] at o1 ⊢
      intro c hc
      have := List.mem_of_mem_take hc
      rcases List.mem_cons.mp this with rfl | h
      · simpa using hc0
      · exact o1 c h
    · simp; omega
end TM
set_option maxRecDepth 100000
set_option maxHeartbeats 4000000
namespace TM
open PySem PySem.Spec PyProof.Rows L2
variable [Tbs] [Ad]
theorem toPs_strs : ∀ {ss : List Str}, toPs (ss.map .str) = some (ss.map .str)
  | [] => rfl
  | s :: ss => by
    rw [List.map_cons, List.map_cons]
    simp only [toPs, toP, toPs_strs]
theorem sorted_strs {ss : List Str} : ∃ ss' : List Str, dSorted [.lst (ss.map .str)] = some (.lst (ss'.map .str), true) ∧ (∀ s ∈ ss', s ∈ ss) ∧ ss'.length = ss.length := by
  have h : srtOk (ss.map PyData.str) = true := by
    unfold srtOk
    simp only [Bool.and_eq_true, Bool.or_eq_true, List.all_eq_true, List.mem_map]
    refine ⟨⟨?_, ?_⟩, .inr ?_⟩
    · rintro _ ⟨x, _, rfl⟩ _ ⟨y, _, rfl⟩; rfl
    · rintro _ ⟨x, _, rfl⟩; rfl
    · rintro _ ⟨x, _, rfl⟩; rfl
  have hp := List.mergeSort_perm (ss.map D.str) leD
  obtain ⟨ss', e, hs⟩ : ∃ ss' : List Str, (ss.map D.str).mergeSort leD = ss'.map .str ∧ ∀ s ∈ ss', s ∈ ss := by
    refine strs_mem (P := fun s => s ∈ ss) fun x hx => ?_
    have := hp.mem_iff.mp hx
    obtain ⟨s, h1, rfl⟩ := List.mem_map.mp this
    exact ⟨s, rfl, h1⟩
  refine ⟨ss', ?_, hs, ?_⟩
  · show (srtD (ss.map .str)).map _ = _
    unfold srtD
    rw [toPs_strs]
    simp only [h, if_true, Option.map_some, e]
  · have := hp.length_eq
    rw [e, List.length_map, List.length_map] at this
    exact this
def nm (s : Str) : Prop := PyData.strOk s = true ∧ s.length ≤ 20
theorem nm_it {s : Str} (h : nm s) : it (.str s) = true := by
  simp [it, gd, shortB, h.1]
  have := h.2
  omega
theorem names_ok {n : Nat} {d : D} {K : D → Bool → List AD → Prop} {E : Exc → List AD → Prop} (hp : Pen n d) (hn : 20 ≤ n) (k : ∀ xs new d', (∀ x ∈ xs, it x = true) → xs.length ≤ 10 → Pen (n - 20) d' → K (.lst xs) new [.io d']) : wpF (F__law_names [.io d]) K E := by
  unfold F__law_names
  rw [wpF_run]
  unfold g__law_names
  simp [slots, -cwpS_if]
  refine dr hp (by omega) (by omega) (by omega) fun v1 d1 h1 h2 p1 => ?_
  simp [-cwpS_if]
  refine ask_of ⟨by omega, by omega⟩ ?_
  have hr : (rngD 0 v1.toNat).length = v1.toNat := rngD_len
  refine lcK_draw (fun y => ∃ s : Str, y = .str s ∧ nm s) 1 (n - 1) p1 (by omega) (by omega) (by simp) (δw := _) (fun _ => rfl) (fun _ => by simp) (fun x hx d m hp2 hm => ?_) fun ys d5 hy hl2 p5 => ?_
  · simp
    refine dr hp2 hm (by omega) (by omega) fun v5 d6 h9 h10 p6 => ?_
    simp
    refine idx_mem h9 (by simpa using h10) fun x hx => ?_
    refine ⟨?_, p6⟩
    simp at hx
    rcases hx with rfl | rfl | rfl | rfl | rfl | rfl | rfl <;> exact ⟨_, rfl, by decide +kernel, by decide +kernel⟩
  obtain ⟨ss, rfl, hss⟩ := strs_mem hy
  rw [List.length_map] at hl2
  simp [-cwpS_if]
  refine dr p5 (by omega) (by omega) (by omega) fun v2 d2 h3 h4 p2 => ?_
  simp [-cwpS_if]
  refine wpS_cut (fun δ' => ∃ ss : List Str, (∀ s ∈ ss, nm s) ∧ ss.length ≤ 6 ∧ δ' = [some (.io, d2), some (.ow, .lst (ss.map .str)), none, some (.sh, .int v2), none, none]) ?_ ?_
  · simp
    refine cnd_split (fun _ => ?_) fun _ => ?_
    · obtain ⟨ss', e1, e2, e3⟩ := sorted_strs (ss := ss)
      have nm' : ∀ s ∈ ss', nm s := fun s hs => hss s (e2 s hs)
      have en : enumD (ss'.map D.str) = ss'.zipIdx.map fun p => .tup [.int (p.2 : Nat), .str p.1] := by
        unfold enumD
        rw [List.mapIdx_eq_zipIdx_map, List.zipIdx_map, List.map_map]
        rfl
      simp [e1, en]
      refine lcK_f (fun p => if (((ss'.map D.str).take p.2).any fun z => deq z (.str p.1)) then none else some (.str p.1)) ?_ ?_ (fun p hx => ?_) ?_
      · simp; omega
      · simp
      · have hs : p.1 ∈ ss' := (List.mem_zipIdx' (x := p.1) (i := p.2) hx).2 ▸ List.getElem_mem _
        have ok1 : PyData.strOk p.1 = true := (nm' _ hs).1
        have ok2 : doks 63 ((ss'.map D.str).take p.2) = true := doks_of fun x hx => by
          obtain ⟨s, h1, rfl⟩ := List.mem_map.mp (List.mem_of_mem_take hx)
          simpa using (nm' s h1).1
        simp [e1, ok1, ok2]
        refine cnd_split (fun h => ?_) fun h => ?_
        · simpa using h
        · simpa using h
      · obtain ⟨ss3, e4, h4⟩ := strs_mem (P := nm) (xs := ss'.zipIdx.filterMap fun p => if (((ss'.map D.str).take p.2).any fun z => deq z (.str p.1)) then none else some (.str p.1)) fun x hx => by
          obtain ⟨p, h5, h6⟩ := List.mem_filterMap.mp hx
          have hs : p.1 ∈ ss' := (List.mem_zipIdx' (x := p.1) (i := p.2) h5).2 ▸ List.getElem_mem _
          split at h6
          · cases h6
          · cases h6; exact ⟨_, rfl, nm' _ hs⟩
        rw [e4]
        have l4 : ss3.length ≤ 6 := by
          have := congrArg List.length e4
          rw [List.length_map] at this
          have := List.length_filterMap_le (fun p : Str × Nat => if (((ss'.map D.str).take p.2).any fun z => deq z (.str p.1)) then none else some (D.str p.1)) ss'.zipIdx
          rw [List.length_zipIdx] at this
          omega
        simp
        exact ⟨ss3, h4, l4, rfl⟩
    · exact ⟨ss, hss, by omega, rfl⟩
  rintro _ ⟨ss2, hss2, hl3, rfl⟩
  simp
  refine cnd_split (fun _ => ?_) fun _ => ?_
  · refine dr p2 (by omega) (by omega) (by omega) fun v3 d3 h5 h6 p3 => ?_
    simp
    refine dr p3 (by omega) (by omega) (by omega) fun v4 d4 h7 h8 p4 => ?_
    simp
    refine idx_mem h7 (by simpa using h8) fun x hx => ?_
    have hx' : it x = true := by
      simp at hx
      rcases hx with rfl | rfl | rfl | rfl | rfl | rfl | rfl | rfl <;> decide +kernel
    obtain ⟨j, rfl⟩ : ∃ j : Nat, v3 = j := ⟨v3.toNat, by omega⟩
    simp
    refine ask_of (by omega) (ask_of (by omega) ?_)
    refine k _ _ _ (fun y hy => ?_) (by simp; omega) (p4.le (by omega))
    rcases List.mem_append.mp hy with h | h
    · obtain ⟨s, hs, rfl⟩ := List.mem_map.mp (List.mem_of_mem_take h)
      exact nm_it (hss2 s hs)
    · rcases List.mem_cons.mp h with rfl | h
      · exact hx'
      · obtain ⟨s, hs, rfl⟩ := List.mem_map.mp (List.mem_of_mem_drop h)
        exact nm_it (hss2 s hs)
  · refine k _ _ _ (fun x hx => ?_) (by simp; omega) (p2.le (by omega))
    obtain ⟨s, hs, rfl⟩ := List.mem_map.mp hx
    exact nm_it (hss2 s hs)
theorem val_lst {xs : List D} (h : ∀ x ∈ xs, it x = true) (hl : xs.length ≤ 10) : val (.lst xs) := ⟨rfl, ⟨rfl, rfl⟩, h, by show xs.length ≤ 100; omega⟩
theorem val_tup {xs : List D} (h : ∀ x ∈ xs, it x = true) (hl : xs.length ≤ 10) : val (.tup xs) := ⟨rfl, ⟨rfl, rfl⟩, h, by show xs.length ≤ 100; omega⟩
theorem value_ok {n : Nat} {d : D} {K : D → Bool → List AD → Prop} {E : Exc → List AD → Prop} (hp : Pen n d) (hn : 30 ≤ n) (k : ∀ x new d', val x → Pen (n - 30) d' → K x new [.io d']) : wpF (F__law_value [.io d]) K E := by
  unfold F__law_value
  rw [wpF_run]
  unfold g__law_value
  simp [slots]
  refine dr hp (by omega) (by omega) (by omega) fun v1 d1 h1 h2 p1 => ?_
  simp
  refine cnd_split (fun _ => ?_) fun _ => ?_
  · refine names_ok p1 (by omega) fun xs new d2 hx hl p2 => ?_
    cases new
    all_goals
      simp [wp_if]
      refine dr p2 (by omega) (by omega) (by omega) fun v3 d3 h5 h6 p3 => ?_
      simp
      refine cnd_split (fun _ => ?_) fun _ => ?_
      · exact k _ _ _ (val_lst hx hl) (p3.le (by omega))
      · exact k _ _ _ (val_tup hx hl) (p3.le (by omega))
  refine cnd_split (fun _ => ?_) fun _ => ?_
  · refine dr p1 (by omega) (by omega) (by omega) fun v3 d3 h5 h6 p3 => ?_
    simp
    exact k _ _ _ ⟨rfl, ⟨rfl, rfl⟩, (fun _ h => nomatch h), by show 0 ≤ 100; omega⟩ (p3.le (by omega))
  refine cnd_split (fun _ => ?_) fun _ => ?_
  · refine dr p1 (by omega) (by omega) (by omega) fun v3 d3 h5 h6 p3 => ?_
    simp
    exact k _ _ _ ⟨rfl, ⟨rfl, rfl⟩, (fun _ h => nomatch h), by show 0 ≤ 100; omega⟩ (p3.le (by omega))
  refine cnd_split (fun _ => ?_) fun _ => ?_
  · refine name_ok p1 (by omega) fun s d3 hs p3 => ?_
    simp
    have := hs.2
    exact k _ _ _ ⟨rfl, ⟨by simp [shortB]; omega, hs.1⟩, (fun _ h => nomatch h), by show 0 ≤ 100; omega⟩ (p3.le (by omega))
  · have e : pairsD [D.str (Str.ofString "a"), D.int 1] = some [(.inr "a", .int 1)] := rfl
    simp [e]
    refine dr p1 (by omega) (by omega) (by omega) fun v3 d3 h5 h6 p3 => ?_
    simp
    refine idx_mem h5 (by simpa using h6) fun x hx => ?_
    refine k _ _ _ ?_ (p3.le (by omega))
    simp at hx
    rcases hx with rfl | rfl | rfl | rfl | rfl | rfl | rfl | rfl | rfl | rfl | rfl | rfl <;> exact ⟨rfl, ⟨by decide +kernel, by decide +kernel⟩, by simp only [its, List.mem_cons, List.not_mem_nil, or_false, forall_eq, false_implies, implies_true]; try decide +kernel, by simp only [its, List.length_cons, List.length_nil]; omega⟩
end TM
set_option maxRecDepth 100000
set_option maxHeartbeats 4000000
namespace TM
open PySem PySem.Spec PyProof.Rows L2
variable [Tbs] [Ad]
theorem kn_W : shpk kn (.opq (.ref A_WORDS)) = some (.tuple (words8.map .str)) := by
  have e : kn (.ref A_WORDS) = some (.tuple (words8.map .str)) := by unfold kn; rw [if_pos rfl]
  have s : SeqAt.shaped (.tuple (words8.map .str)) = true := by decide +kernel
  show (match kn (.ref A_WORDS) with
    | some p => if SeqAt.shaped p then some p else none
    | none => none) = _
  rw [e]
  simp only [s, if_true]
def isWord : D → Bool
  | .str s => words8.any fun w => w == s
  | _ => false
theorem is_word_eq {d : D} (h : gd d = true) (h2 : okS d = true) : F_is_word [.sh d] = .ok (.bl (isWord d)) false [.sh d] := by
  apply wpF_eq
  unfold F_is_word
  rw [wpF_run]
  unfold g_is_word
  cases d <;> first | (simp [gd] at h; done) | skip
  case str s =>
    have e : dInK kn false (.str s) (.opq (.ref A_WORDS)) = some (.bl (words8.any fun w => w == s), false) := by
      have h3 : shp (.str s) = some (.str s) := by
        have h4 : PyData.strOk s = true := h2
        simp [shp, toP, SeqAt.shaped, PyData.canLay0, PyData.depth, h4]
      unfold dInK
      simp only [h3, kn_W]
      rw [List.any_map]
      rfl
    simp [slots, e, isWord]
  all_goals simp [slots, isWord]
theorem need_word_ok {d p : D} (h : gd d = true) (h2 : okS d = true) (h3 : isWord d = true) : F_need_word [.sh d, .sh p] = .ok .non false [.sh d, .sh p] := by
  apply wpF_eq
  unfold F_need_word
  rw [wpF_run]
  unfold g_need_word
  simp [slots, is_word_eq h h2, h3]
theorem need_word_er {d p : D} (h : gd d = true) (h2 : okS d = true) (h3 : isWord d = false) : F_need_word [.sh d, .sh p] = .er ⟨A_BadWord, [("part", p)]⟩ [.sh d, .sh p] := by
  apply wpF_eqE
  unfold F_need_word
  rw [wpF_run]
  unfold g_need_word
  simp [slots, is_word_eq h h2, h3]
theorem turned_er {d : D} (h : gd d = true) (h2 : okS d = true) (h3 : isWord d = false) : F_turned_word [.sh d] = .er ⟨A_BadWord, [("part", .str "word")]⟩ [.sh d] := by
  apply wpF_eqE
  unfold F_turned_word
  rw [wpF_run]
  unfold g_turned_word
  simp [slots, need_word_er h h2 h3]
theorem turned_ok {s t : Str} (h2 : PyData.strOk s = true) (h3 : isWord (.str s) = true) (h4 : tb_TURNED.lookup s = some (.str t)) : F_turned_word [.sh (.str s)] = .ok (.str t) false [.sh (.str s)] := by
  apply wpF_eq
  unfold F_turned_word
  rw [wpF_run]
  unfold g_turned_word
  have e : dTab A_TURNED tb_TURNED (.opq (.ref A_TURNED)) (.str s) = some (.str t, false) := by
    show (if V.ref A_TURNED = V.ref A_TURNED then _ else _) = _
    rw [if_pos rfl, h4]; rfl
  simp [slots, need_word_ok (d := .str s) rfl h2 h3, e]
@[simp] theorem tu1 : F_turned_word [.sh (.str "apart")] = .ok (.str "apart") false [.sh (.str "apart")] := turned_ok (by decide +kernel) (by decide +kernel) (by rfl)
@[simp] theorem tu2 : F_turned_word [.sh (.str "meets")] = .ok (.str "meets") false [.sh (.str "meets")] := turned_ok (by decide +kernel) (by decide +kernel) (by rfl)
@[simp] theorem tu3 : F_turned_word [.sh (.str "overlaps")] = .ok (.str "overlaps") false [.sh (.str "overlaps")] := turned_ok (by decide +kernel) (by decide +kernel) (by rfl)
@[simp] theorem tu4 : F_turned_word [.sh (.str "same")] = .ok (.str "same") false [.sh (.str "same")] := turned_ok (by decide +kernel) (by decide +kernel) (by rfl)
@[simp] theorem tu5 : F_turned_word [.sh (.str "deep")] = .ok (.str "holdsdeep") false [.sh (.str "deep")] := turned_ok (by decide +kernel) (by decide +kernel) (by rfl)
@[simp] theorem tu6 : F_turned_word [.sh (.str "rim")] = .ok (.str "holdsrim") false [.sh (.str "rim")] := turned_ok (by decide +kernel) (by decide +kernel) (by rfl)
@[simp] theorem tu7 : F_turned_word [.sh (.str "holdsdeep")] = .ok (.str "deep") false [.sh (.str "holdsdeep")] := turned_ok (by decide +kernel) (by decide +kernel) (by rfl)
@[simp] theorem tu8 : F_turned_word [.sh (.str "holdsrim")] = .ok (.str "rim") false [.sh (.str "holdsrim")] := turned_ok (by decide +kernel) (by decide +kernel) (by rfl)
theorem words_ok {n : Nat} {d : D} {K : D → Bool → List AD → Prop} {E : Exc → List AD → Prop} (hp : Pen n d) (hn : 1 ≤ n) (k : ∀ d', Pen (n - 1) d' → K (.bl true) false [.io d']) : wpF (F__law_words_right [.io d]) K E := by
  unfold F__law_words_right
  rw [wpF_run]
  unfold g__law_words_right
  have e1 : dEqK kn true (.opq (.ref A_WORDS)) (.tup [.str "apart", .str "meets", .str "overlaps", .str "same", .str "deep", .str "rim", .str "holdsdeep", .str "holdsrim"]) = some (.bl false, false) := by
    have h3 : shpk kn (.tup [.str "apart", .str "meets", .str "overlaps", .str "same", .str "deep", .str "rim", .str "holdsdeep", .str "holdsrim"]) = some (.tuple (words8.map .str)) := by
      have s : SeqAt.shaped (.tuple (words8.map .str)) = true := by decide +kernel
      show (if SeqAt.shaped (.tuple (words8.map .str)) = true then _ else _) = _
      rw [if_pos s]; rfl
    have h4 : PyData.eqv (.tuple (words8.map .str)) (.tuple (words8.map .str)) = true := by decide +kernel
    unfold dEqK
    simp only [kn_W, h3, h4]
    rfl
  simp [slots, e1, forK_cons, forK_nil, lcK_un, wp_lcD_cons, wp_lcD_nil]
  refine dr hp (by omega) (by omega) (by omega) fun v3 d3 h5 h6 p3 => ?_
  simp
  refine idx_mem h5 (by simpa using h6) fun x hx => ?_
  simp
  have hx' : gd x = true ∧ okS x = true ∧ isWord x = false := by
    simp at hx
    rcases hx with rfl | rfl | rfl | rfl | rfl | rfl | rfl | rfl | rfl | rfl <;> refine ⟨rfl, ?_, ?_⟩ <;> decide +kernel
  have e2 := turned_er hx'.1 hx'.2.1 hx'.2.2
  have e3 : herH A_BadWord ⟨A_BadWord, [("part", .str "word")]⟩ = some (.tup [.str "word"], false) := by
    unfold herH
    rw [if_pos rfl]
    rfl
  simp [e2, e3]
  exact k _ p3
end TM
set_option maxRecDepth 100000
set_option maxHeartbeats 4000000
namespace TM
open PySem PySem.Spec PyProof.Rows L2
variable [Tbs] [Ad]
theorem store_eq {ns : List Int} (h : ns.length ≤ 63) : F__law_store [.sh (.fz (ns.map .int))] = .ok (pen (ns.take 60) 0 0) true [.sh (.fz (ns.map .int))] := by
  apply wpF_eq
  unfold F__law_store
  rw [wpF_run]
  unfold g__law_store
  simp [slots]
  rw [← List.map_take]
  refine lcK_m (xs := ns.take 60) (enc := .int) .int ?_ ?_ (fun x hx => ?_) ?_
  · simp; omega
  · simp
  · simp
  · simp [pen]
theorem pen0 {ns : List Int} : Pen 1000000 (pen (ns.take 60) 0 0) := ⟨ns.take 60, 0, 0, rfl, by simp; omega, by omega, by omega, by omega⟩
/-! first twice -/
def agP (ds : List D) (p : D × Nat) : Option D := if ((ds.take p.2).any fun z => deq z p.1) then some p.1 else none
def agD (ds : List D) : List D := ds.zipIdx.filterMap (agP ds)
theorem ftD_eq {κ : Type} [DecidableEq κ] {key : D → Option κ} (hk : ∀ x y k l, key x = some k → key y = some l → deq x y = decide (k = l)) : ∀ (ds : List D) (ks : List κ) (pre : List D) (seen : List κ), pre.map key = seen.map some → ds.map key = ks.map some →
    ftD seen ds ks = ((ds.zipIdx pre.length).filterMap (agP (pre ++ ds))).head?.getD .non
  | [], ks, pre, seen, _, _ => by simp [ftD]
  | d :: ds, [], _, _, _, h => by simp at h
  | d :: ds, k :: ks, pre, seen, h, h2 => by
    simp only [List.map_cons, List.cons.injEq] at h2
    have m : ((pre.any fun z => deq z d) = true) = (k ∈ seen) := by
      simp only [List.any_eq_true, eq_iff_iff]
      constructor
      · rintro ⟨x, hx, e⟩
        obtain ⟨l, hl, e2⟩ : ∃ l ∈ seen, key x = some l := by
          have : key x ∈ pre.map key := List.mem_map.mpr ⟨x, hx, rfl⟩
          rw [h] at this
          obtain ⟨l, h3, h4⟩ := List.mem_map.mp this
          exact ⟨l, h3, h4.symm⟩
        rw [hk x d l k e2 h2.1] at e
        rw [← of_decide_eq_true e]; exact hl
      · intro hm
        have : some k ∈ seen.map some := List.mem_map.mpr ⟨k, hm, rfl⟩
        rw [← h] at this
        obtain ⟨x, h3, h4⟩ := List.mem_map.mp this
        exact ⟨x, h3, by rw [hk x d k k h4 h2.1]; simp⟩
    have t : (pre ++ d :: ds).take pre.length = pre := by simp
    rw [ftD, List.zipIdx_cons, List.filterMap_cons]
    unfold agP
    simp only [t]
    by_cases hm : k ∈ seen
    · have := m.mpr hm
      simp only [if_pos hm, this, if_true]
      rfl
    · have : ¬ (pre.any fun z => deq z d) = true := fun z => hm (m.mp z)
      simp only [if_neg hm, this, if_false, Bool.false_eq_true]
      have ih := ftD_eq hk ds ks (pre ++ [d]) (seen ++ [k]) (by simp [h, h2.1]) h2.2
      rw [ih]
      simp only [List.append_assoc, List.cons_append, List.nil_append, List.length_append, List.length_cons, List.length_nil]
      rfl
theorem keys_deq : ∀ x y k l, keyOfD x = some k → keyOfD y = some l → deq x y = decide (k = l) := by
  intro x y k l h1 h2
  cases x <;> simp only [keyOfD, reduceCtorEq, Option.some.injEq] at h1 <;> cases y <;> simp only [keyOfD, reduceCtorEq, Option.some.injEq] at h2 <;> subst h1 h2
  · simp; rfl
  · simp
  · simp
  · simp; rfl
theorem keysOf_map : ∀ {ds : List D} {ks : List Key}, keysOfD ds = some ks ↔ ds.map keyOfD = ks.map some
  | [], ks => by cases ks <;> simp [keysOfD]
  | d :: ds, ks => by
    have ih := @keysOf_map ds
    unfold keysOfD
    cases ks with
    | nil => cases q : keyOfD d <;> cases q2 : keysOfD ds <;> simp
    | cons k ks =>
      cases q : keyOfD d with
      | none => simp [q]
      | some k' =>
        cases q2 : keysOfD ds with
        | none =>
          simp [q]
          intro _ z
          have := ih.mpr z
          rw [q2] at this; cases this
        | some ks' =>
          have := (@ih ks').mp q2
          simp [q, this]
          intro _
          constructor
          · intro h; rw [h]
          · intro h; exact List.map_inj_right (fun _ _ z => Option.some.inj z) |>.mp h
theorem ks_deqs : ∀ {xs ys : List D} {ks ls : List Key}, keysOfD xs = some ks → keysOfD ys = some ls → deqs xs ys = decide (ks = ls)
  | [], ys, ks, ls, h1, h2 => by
    cases h1
    cases ys with
    | nil => cases h2; simp
    | cons y ys =>
      have := keysOf_map.mp h2
      cases ls with
      | nil => simp at this
      | cons l ls => simp
  | x :: xs, ys, ks, ls, h1, h2 => by
    have e1 := keysOf_map.mp h1
    cases ks with
    | nil => simp at e1
    | cons k ks =>
      simp only [List.map_cons, List.cons.injEq] at e1
      cases ys with
      | nil => cases h2; simp
      | cons y ys =>
        have e2 := keysOf_map.mp h2
        cases ls with
        | nil => simp at e2
        | cons l ls =>
          simp only [List.map_cons, List.cons.injEq] at e2
          rw [deqs_cons, keys_deq x y k l e1.1 e2.1, ks_deqs (keysOf_map.mpr e1.2) (keysOf_map.mpr e2.2)]
          by_cases h3 : k = l <;> by_cases h4 : ks = ls <;> simp [h3, h4]
theorem tkeys_deq : ∀ x y k l, tkeyOfD x = some k → tkeyOfD y = some l → deq x y = decide (k = l) := by
  intro x y k l h1 h2
  cases x <;> simp only [tkeyOfD, reduceCtorEq] at h1
  cases y <;> simp only [tkeyOfD, reduceCtorEq] at h2
  rw [deq_tup]; exact ks_deqs h1 h2
theorem tkeysOf_some : ∀ {ds : List D}, (∀ d ∈ ds, ∃ k, tkeyOfD d = some k) → ∃ ks, tkeysOfD ds = some ks ∧ ds.map tkeyOfD = ks.map some
  | [], _ => ⟨[], rfl, rfl⟩
  | d :: ds, h => by
    obtain ⟨k, hk⟩ := h d (by simp)
    obtain ⟨ks, h1, h2⟩ := tkeysOf_some (ds := ds) fun x hx => h x (by simp [hx])
    exact ⟨k :: ks, by simp [tkeysOfD, hk, h1], by simp [hk, h2]⟩
theorem keysOf_some : ∀ {ds : List D}, (∀ d ∈ ds, ∃ k, keyOfD d = some k) → ∃ ks, keysOfD ds = some ks
  | [], _ => ⟨[], rfl⟩
  | d :: ds, h => by
    obtain ⟨k, hk⟩ := h d (by simp)
    obtain ⟨ks, h1⟩ := keysOf_some (ds := ds) fun x hx => h x (by simp [hx])
    exact ⟨k :: ks, by simp [keysOfD, hk, h1]⟩
def keyed (ds : List D) : Prop := (∀ d ∈ ds, ∃ k, keyOfD d = some k) ∨ (∀ d ∈ ds, ∃ k, tkeyOfD d = some k)
theorem ft_eq {ds : List D} (h : keyed ds) (hl : ds.length < 16777216) : F_ft [.sh (.lst ds)] = .ok ((agD ds).head?.getD .non) false [.sh (.lst ds)] := by
  have hl' : ds.length < SZ := hl
  unfold F_ft
  simp only [itemsD, if_pos hl']
  have fin : ∀ (κ : Type) [DecidableEq κ] (key : D → Option κ) (hk : ∀ x y k l, key x = some k → key y = some l → deq x y = decide (k = l)) (ks : List κ), ds.map key = ks.map some → ftD [] ds ks = (agD ds).head?.getD .non := fun κ _ key hk ks e => by
    have := ftD_eq hk ds ks [] [] rfl e
    simpa [agD] using this
  cases q : keysOfD ds with
  | some ks => simp only [fin Key keyOfD keys_deq ks (keysOf_map.mp q)]
  | none =>
    rcases h with h | h
    · obtain ⟨ks, h1⟩ := keysOf_some h
      rw [q] at h1; cases h1
    · obtain ⟨ks, h1, h2⟩ := tkeysOf_some h
      simp only [h1, fin _ tkeyOfD tkeys_deq ks h2]
end TM
set_option maxRecDepth 100000
set_option maxHeartbeats 4000000
namespace TM
open PySem PySem.Spec PyProof.Rows L2
variable [Tbs] [Ad]
def cells8 : List D := [.tup [], .tup [.str "a"], .tup [.str "b"], .tup [.str "z9"], .tup [.str "a", .str "b"], .tup [.str "a", .str "z9"], .tup [.str "b", .str "c"], .tup [.str "a", .str "b", .str "c"]]
def c8 (i : Nat) : D := (cells8[i]?).getD .non
def ps8 : List PyData := (toPs cells8).getD []
theorem toPs8 : toPs cells8 = some ps8 := by rfl
theorem toPs_perm : ∀ {xs ys : List D}, xs.Perm ys → ∀ {qs}, toPs ys = some qs → ∃ ps, toPs xs = some ps ∧ ps.Perm qs := by
  intro xs ys h
  induction h with
  | nil => intro qs e; exact ⟨qs, e, .refl _⟩
  | cons x h ih =>
    intro qs e
    simp only [toPs] at e
    split at e
    · rename_i p qs' e1 e2
      cases e
      obtain ⟨ps, h1, h2⟩ := ih e2
      exact ⟨p :: ps, by simp only [toPs, e1, h1], h2.cons p⟩
    · cases e
  | swap x y l =>
    intro qs e
    simp only [toPs] at e
    split at e
    · rename_i p qs' e1 e2
      split at e2
      · rename_i q rs e3 e4
        cases e2
        cases e
        exact ⟨q :: p :: rs, by simp only [toPs, e1, e3, e4], .swap ..⟩
      · cases e2
    · cases e
  | trans h1 h2 ih1 ih2 =>
    intro qs e
    obtain ⟨ps, h3, h4⟩ := ih2 e
    obtain ⟨rs, h5, h6⟩ := ih1 h3
    exact ⟨rs, h5, h6.trans h4⟩
theorem srt8_ok : (ps8.all fun p => isTupP p && flatP p) = true ∧ srtOk (ps8.map keyP) = true := by decide +kernel
theorem srtOk_perm {ps qs : List PyData} (h : ps.Perm qs) (e : srtOk qs = true) : srtOk ps = true := by
  unfold srtOk at e ⊢
  simp only [Bool.and_eq_true, Bool.or_eq_true, List.all_eq_true] at e ⊢
  obtain ⟨⟨e1, e2⟩, e3⟩ := e
  exact ⟨⟨fun d hd d' hd' => e1 d (h.mem_iff.mp hd) d' (h.mem_iff.mp hd'), fun d hd => e2 d (h.mem_iff.mp hd)⟩, e3.imp (fun k d hd => k d (h.mem_iff.mp hd)) fun k d hd => k d (h.mem_iff.mp hd)⟩
theorem le8 : ((List.range 8).all fun i => (List.range 8).all fun j => leCk (c8 i) (c8 j) == decide (i ≤ j)) = true := by decide +kernel
theorem map_mergeSort8 {is : List Nat} (lt : ∀ i ∈ is, i < 8) : (is.map c8).mergeSort leCk = (is.mergeSort fun a b => decide (a ≤ b)).map c8 := by
  refine (List.map_mergeSort fun a ha b hb => ?_).symm
  have := le8
  simp only [List.all_eq_true, List.mem_range, beq_iff_eq] at this
  exact (this a (lt a ha) b (lt b hb)).symm
theorem sort8 {ds : List D} (h : ds.Perm cells8) : dSortCk [.lst ds] = some (.lst cells8, true) := by
  obtain ⟨ps, e1, e2⟩ := toPs_perm h toPs8
  have a1 : (ps.all fun p => isTupP p && flatP p) = true := by
    have := srt8_ok.1
    simp only [List.all_eq_true] at this ⊢
    exact fun p hp => this p (e2.mem_iff.mp hp)
  have a2 : srtOk (ps.map keyP) = true := srtOk_perm (e2.map _) srt8_ok.2
  unfold dSortCk
  simp only [e1, a1, a2, Bool.and_self, if_true]
  congr 2
  have c8map : cells8 = (List.range 8).map c8 := by rfl
  obtain ⟨is, h1, h2⟩ : ∃ is : List Nat, ds = is.map c8 ∧ is.Perm (List.range 8) := by
    rw [c8map] at h
    clear a1 a2 e1 e2
    generalize List.range 8 = r at h
    generalize e : r.map c8 = s at h
    induction h generalizing r with
    | nil => cases r <;> simp at e; exact ⟨[], rfl, .refl _⟩
    | cons x h ih =>
      cases r with
      | nil => simp at e
      | cons i r =>
        simp only [List.map_cons, List.cons.injEq] at e
        obtain ⟨is, h1, h2⟩ := ih r e.2
        exact ⟨i :: is, by simp [h1, e.1], h2.cons i⟩
    | swap x y l =>
      match r, e with
      | i :: j :: r, e =>
        simp only [List.map_cons, List.cons.injEq] at e
        exact ⟨j :: i :: r, by simp [e.1, e.2.1, e.2.2], .swap ..⟩
    | trans h3 h4 ih1 ih2 =>
      obtain ⟨is, h1, h2⟩ := ih2 r e
      obtain ⟨js, h5, h6⟩ := ih1 is h1.symm
      exact ⟨js, h5, h6.trans h2⟩
  subst h1
  have lt : ∀ i ∈ is, i < 8 := fun i hi => by simpa using h2.mem_iff.mp hi
  have := map_mergeSort8 (is := is) lt
  rw [this, c8map]
  refine congrArg (fun l => D.lst (List.map c8 l)) ?_
  refine List.Perm.eq_of_pairwise (le := fun a b => a ≤ b) (fun a b _ _ => Nat.le_antisymm) ?_ ?_ ((List.mergeSort_perm _ _).trans h2)
  · have := List.pairwise_mergeSort (le := fun a b : Nat => decide (a ≤ b)) (fun a b c => by simp; omega) (fun a b => by simp; omega) is
    exact this.imp (by simp)
  · decide
end TM
set_option maxRecDepth 100000
set_option maxHeartbeats 4000000
namespace TM
open PySem PySem.Spec PyProof.Rows L2
variable [Tbs] [Ad]
/-- a bound that may be drawn -/
theorem bound_of {x : D} {v : Int} {a b : Int} (h : x ∈ [D.non, .int a, .int v, .int b]) : ∃ l, x = bnd? l := by
  simp at h
  rcases h with rfl | rfl | rfl | rfl
  · exact ⟨none, rfl⟩
  · exact ⟨some _, rfl⟩
  · exact ⟨some _, rfl⟩
  · exact ⟨some _, rfl⟩
theorem law_eq {ns : List Int} (h : ns.length ≤ 63) : ∃ fin, F_law [.sh (.fz (ns.map .int))] = .ok (.bl true) false fin := by
  suffices hs : wpF (F_law [.sh (.fz (ns.map .int))]) (fun d n fin => d = .bl true ∧ n = false) fun _ _ => False by
    unfold wpF at hs
    split at hs
    · rename_i d n fin e
      obtain ⟨rfl, rfl⟩ := hs
      exact ⟨fin, e⟩
    · exact hs.elim
    · exact hs.elim
  unfold F_law
  rw [wpF_run]
  unfold g_law
  simp [slots, store_eq h]
  have hp0 := pen0 (ns := ns)
  refine forK_inv (fun r δ' => ∃ d x1 x2 x3 m, Pen m d ∧ 1000 + r.length * 40 ≤ m ∧ δ' = [some (.sh, .fz (ns.map .int)), some (.ow, d), x1, x2, x3, none, none, none, none, none, none, none, none]) ?_ (fun δ' h1 => ?_) (fun x r δ' h1 => ?_)
  · exact ⟨_, none, none, none, _, hp0, by rw [rngD_len]; decide, rfl⟩
  · obtain ⟨d, x1, x2, x3, m, p0, hm, rfl⟩ := h1
    simp
    refine dr p0 (by omega) (by omega) (by omega) fun v1 d1 h1 h2 p1 => ?_
    simp
    refine idx_mem h1 (by simpa using h2) fun x hx => ?_
    obtain ⟨xs, rfl, hx1, hx2, hx3, hx4, hx5⟩ : ∃ xs, x = .lst xs ∧ 0 < xs.length ∧ xs.length ≤ 4 ∧ doks 50 xs = true ∧ keyed xs ∧ F_ft [.sh (.lst xs)] = .ok .non false [.sh (.lst xs)] := by
      simp at hx
      rcases hx with rfl | rfl | rfl
      · exact ⟨_, rfl, by decide, by decide, by simp, .inl (by simp [keyOfD]), by rfl⟩
      · exact ⟨_, rfl, by decide, by decide, by simp, .inl (by simp [keyOfD]), by rfl⟩
      · exact ⟨_, rfl, by decide, by decide, by simp, .inr (by simp [tkeyOfD, keysOfD, keyOfD]), by rfl⟩
    simp
    refine dr p1 (by omega) (by omega) (by omega) fun v2 d2 h3 h4 p2 => ?_
    simp
    refine ask_of ⟨by omega, by omega⟩ ?_
    have hr : (rngD 0 v2.toNat).length = v2.toNat := rngD_len
    refine lcK_draw1 (fun y => y ∈ xs) 1 (m - 2) (p2.le (by omega)) (by omega) (by omega) (by simp) (s1 := _) (δw := _) (fun _ => rfl) (fun _ => by simp) (fun x hx d m hp2 hm => ?_) fun ys d3 hy hl2 p3 => ?_
    · simp
      refine dr hp2 hm (by omega) (by omega) fun v5 d6 h9 h10 p6 => ?_
      simp
      refine idx_mem h9 (by simpa using h10) fun x hx => ?_
      exact ⟨hx, p6⟩
    simp [enumD_eq]
    have yok : doks 50 ys = true := doks_of fun y hy2 => doks_mem hx3 y (hy y hy2)
    have yk : keyed ys := hx4.imp (fun h y hy2 => h y (hy y hy2)) fun h y hy2 => h y (hy y hy2)
    have yl : ys.length ≤ 6 := by omega
    have aok : doks 63 (agD ys) = true := doks_of fun y hy2 => by
      obtain ⟨p, h1, h2⟩ := List.mem_filterMap.mp hy2
      have hs : p.1 ∈ ys := (List.mem_zipIdx' (x := p.1) (i := p.2) h1).2 ▸ List.getElem_mem _
      unfold agP at h2
      split at h2
      · cases h2; exact dok_up (doks_mem yok _ hs) (by omega)
      · cases h2
    refine lcK_f (agP ys) ?_ ?_ (fun p hp => ?_) ?_
    · simp; omega
    · simp
    · have hs : p.1 ∈ ys := (List.mem_zipIdx' (x := p.1) (i := p.2) hp).2 ▸ List.getElem_mem _
      have ok1 : dok 64 p.1 = true := dok_up (doks_mem yok _ hs) (by omega)
      have ok2 : doks 63 (ys.take p.2) = true := doks_of fun x hx => dok_up (doks_mem yok _ (List.mem_of_mem_take hx)) (by omega)
      simp [ok1, ok2]
      refine cnd_split (fun h => ?_) fun h => ?_ <;> simp only [agP, h] <;> simp
    have ag : List.filterMap (agP ys) ys.zipIdx = agD ys := rfl
    rw [ag]
    have ft := ft_eq yk (by omega)
    have e0 : F_ft [.sh (.tup [])] = .ok .non false [.sh (.tup [])] := rfl
    have e1 : ∃ x, dEq true x x = some (.bl false, false) ∧ x = (agD ys).head?.getD .non := by
      refine ⟨_, ?_, rfl⟩
      have : dok 64 ((agD ys).head?.getD .non) = true := by
        cases q : agD ys with
        | nil => simp
        | cons a r => rw [q] at aok; simp at aok ⊢; exact dok_up aok.1 (by omega)
      rw [aEq this this, deq_refl this]; rfl
    obtain ⟨x0, e1, e2⟩ := e1
    rw [← e2] at ft
    cases q : agD ys
    all_goals
      rw [q] at e2 aok
      simp at e2
      subst e2
      try simp only [aEq, dok_non] at e1
      simp [wp_or, ft, wp_if, aok, hx5, e0, e1]
      refine forK_inv (fun r δ' => ∃ (d : D) (s2 s8 : SlD) (left mixed : List D) (m : Nat), Pen m d ∧ 10 + r.length ≤ m ∧ left.length = r.length ∧ (left ++ mixed).Perm cells8 ∧
        δ' = [some (.sh, .fz (ns.map .int)), some (.ow, d), s2, x2, x3, some (.sh, .lst xs), some (.sh, .lst ys), none, s8, none, some (.ow, .lst cells8), some (.ow, .lst left), some (.ow, .lst mixed)]) ?_ (fun δ' h1 => ?_) (fun x r δ' h1 => ?_)
      · exact ⟨d3, _, _, cells8, [], _, p3, by simp [rngD_len]; omega, rfl, by simp, rfl⟩
      · obtain ⟨d, s2, s8, left, mixed, m, p0, hm, hl, hp, rfl⟩ := h1
        have : left = [] := List.length_eq_zero_iff.mp hl
        subst this
        have s8 := sort8 hp
        have c8 : dok 64 (.lst cells8) = true := by simp [cells8]
        have c8' := deq_refl c8
        simp at s8 c8 c8'
        simp [s8, c8, c8']
        refine words_ok p0 (by omega) fun d' p' => ?_
        simp
      · obtain ⟨d, s2, s8, left, mixed, m, p0, hm, hl, hp, rfl⟩ := h1
        simp at hm hl
        simp
        refine dr p0 (by omega) (by omega) ?_ fun v5 d6 h9 h10 p6 => ?_
        · have := hp.length_eq
          simp [cells8] at this
          omega
        · obtain ⟨j, rfl⟩ : ∃ j : Nat, v5 = j := ⟨v5.toNat, by omega⟩
          have hj : j < left.length := by omega
          have l8 := hp.length_eq
          simp [cells8] at l8
          simp [pop_nat hj (by omega)]
          refine ask_of (by omega) ⟨_, _, _, _, _, _, p6, by omega, ?_, ?_, rfl, rfl, rfl, rfl, rfl⟩
          · rw [List.length_eraseIdx_of_lt hj]; omega
          · refine List.Perm.trans ?_ hp
            have q1 := erase_perm hj
            rw [← List.append_assoc]
            refine (List.perm_append_comm).trans ?_
            exact q1.append_right mixed
  · obtain ⟨d, x1, x2, x3, m, p0, hm, rfl⟩ := h1
    simp at hm
    simp
    refine dr p0 (by omega) (by omega) (by omega) fun v1 d1 h1 h2 p1 => ?_
    simp
    refine dr p1 (by omega) (by omega) (by omega) fun v2 d2 h3 h4 p2 => ?_
    simp
    refine idx_mem h3 (by simpa using h4) fun x hx => ?_
    obtain ⟨l, rfl⟩ := bound_of hx
    try simp
    refine dr p2 (by omega) (by omega) (by omega) fun v3 d3 h5 h6 p3 => ?_
    simp
    refine dr p3 (by omega) (by omega) (by omega) fun v4 d4 h7 h8 p4 => ?_
    simp
    refine idx_mem h7 (by simpa using h8) fun x hx => ?_
    obtain ⟨u, rfl⟩ := bound_of hx
    try simp
    refine value_ok p4 (by omega) fun x new d5 hv p5 => ?_
    simp [right_ok hv]
    exact ⟨_, _, _, _, _, p5, by omega, rfl, rfl, rfl, rfl⟩
end TM
set_option maxRecDepth 100000
set_option maxHeartbeats 4000000
/-! J1: k01: the facts by names, every def in its turn -/
namespace J1
open PySem PySem.Spec PyProof.Rows L2 TM
/-- the def whose lambda is handed on -/
abbrev me : Str := "_law_words_right"
abbrev tbs (K : PySem.W.Frag) : Tbs := ⟨[((He.cT K (me, none)).2, me ++ ".<locals>." ++ "<lambda>")], false⟩
abbrev ad (K : PySem.W.Frag) : Ad := ⟨He.ga K "WORDS", He.ga K "TURNED", He.ga K "BadWord", He.ga K "WordsError"⟩
section
variable {P : Program} {w : World} {K : PySem.W.Frag} {mg : Str → Option Value} {h base : Heap}
abbrev Says (w : World) (h : Heap) (K : PySem.W.Frag) : Prop := He.SaysX Hd.fa Hd.fn Hd.ts Hd.tf Hd.ex w h K
theorem dvn {dV : Value} (h : DflV K dV []) : dV = .none := by
  rcases h with ⟨_, h⟩ | ⟨h, _⟩
  · exact h
  · exact (h rfl).elim
theorem funOf {x q : Str} {st : Stmt} {f : Addr} {fd : FuncData} (F : FunD K x q (defArgs st) (defBody st) (defScope st) [] [] f fd) : Fun K x q st f fd := by
  obtain ⟨⟨oc, od, dV, kV, doc, pm, an, cdv, ct, osl, e, lk, hc, hd, _⟩, kp⟩ := F
  cases dvn hd
  exact ⟨⟨oc, od, kV, doc, pm, an, cdv, ct, osl, e, lk, hc⟩, kp⟩
theorem gl (c : Says w h K) (X : K.In h) (G : h.Ns mainGlobals mg) {x : Str} (i : Nat) (hi : Hd.fa[i]? = some (.glo x) := by rfl) : mg x = some (.ref (He.ga K x)) := He.glo_ok X G (c.t.d.fact i hi)
theorem fr (c : Says w h K) (X : K.In h) (G : h.Ns mainGlobals mg) {x : Str} (i : Nat) (hi : Hd.fa[i]? = some (.free x) := by rfl) : mg x = none := He.free_ok X G (c.t.d.fact i hi)
theorem df (c : Says w h K) (X : K.In h) (G : h.Ns mainGlobals mg) {x : Str} (i j : Nat) (hi : Hd.fn[i]? = some (Hd.dd x j) := by rfl) (hg : Hd.fa[i]? = some (.glo x) := by rfl) : ∃ f fd, Fun K x x (Hd.top j) f fd ∧ mg x = some (.ref f) ∧ f = He.ga K x := by
  obtain ⟨fd, F⟩ := c.t.d.def_ i hi
  exact ⟨_, fd, funOf F, gl c X G i hg, rfl⟩
theorem df2 (c : Says w h K) (X : K.In h) (G : h.Ns mainGlobals mg) {x : Str} (i j : Nat) (hi : Hd.fn[i]? = some (Hd.dd x j) := by rfl) (hg : Hd.fa[i]? = some (.glo x) := by rfl) : ∃ f fd, Fun K x x (Hd.top j) f fd ∧ mg x = some (.ref f) := by
  obtain ⟨f, fd, h1, h2, _⟩ := df c X G i j hi hg
  exact ⟨f, fd, h1, h2⟩
theorem vals_map : ∀ {vs : List Str} {H : Hp}, DpAll K H (vs.map V.str) (vs.map PyData.str)
  | [], _ => .nil
  | _ :: _, _ => .cons (.str _) vals_map
theorem lk_mem {β : Type} {z : Str} {d : β} : ∀ {l : List (Str × β)}, l.lookup z = some d → (z, d) ∈ l
  | [], e => by cases e
  | (y, t) :: r, e => by
    rw [List.lookup_cons] at e
    cases q : z == y with
    | true =>
      rw [q] at e
      cases e
      rw [beq_iff_eq.mp q]
      exact List.mem_cons_self
    | false =>
      rw [q] at e
      exact List.mem_cons_of_mem _ (lk_mem e)
theorem tx (c : Says w h K) (X : K.In h) (G : h.Ns mainGlobals mg) : letI := tbs K; letI := ad K; Tx w K mg := by
  letI := tbs K
  letI := ad K
  obtain ⟨_, m⟩ := He.ba c.more
  obtain ⟨hw, hv⟩ := He.ba m
  refine ⟨fr c X G 38, fr c X G 36, fr c X G 31, fr c X G 42, fr c X G 30, fr c X G 29, fr c X G 35, fr c X G 33, fr c X G 40, fr c X G 39, fr c X G 41, fr c X G 32, fr c X G 34, fr c X G 37,
    He.str_ok X G (c.t.d.fact 24), He.str_ok X G (c.t.d.fact 25), He.int_ok X G (c.t.d.fact 26), gl c X G 27, gl c X G 28, fun u p e H => ?_, fun z d e => ?_⟩
  · unfold TM.kn at e
    split at e
    · rename_i hu
      cases e
      rw [hu]
      exact .tup (He.tupB_ok hw H) (vals_map (vs := TM.words8))
    · cases e
  · obtain ⟨es, n, kd⟩ := c.t.tab 0
    have run : ∀ (y t : Str), ((y, He.Dv.str t) : Str × He.Dv) ∈ [(("apart" : Str), He.Dv.str "apart"), ("meets", .str "meets"), ("overlaps", .str "overlaps"), ("same", .str "same"), ("deep", .str "holdsdeep"), ("rim", .str "holdsrim"), ("holdsdeep", .str "deep"), ("holdsrim", .str "rim")] →
        ∃ v, KDct K w TM.A_TURNED y v ∧ ∀ M H, Rep K M H (.str t) v := fun y t hm => by
      obtain ⟨u, h1, h2⟩ := He.valsB_ok hv hm
      exact ⟨.str t, ⟨es, n, u, kd.at_, kd.lit, h1, h2⟩, fun M H => rStr⟩
    have hm := lk_mem e
    unfold TM.tb_TURNED at hm
    simp only [List.mem_cons, List.not_mem_nil, or_false, Prod.mk.injEq] at hm
    rcases hm with ⟨rfl, rfl⟩ | ⟨rfl, rfl⟩ | ⟨rfl, rfl⟩ | ⟨rfl, rfl⟩ | ⟨rfl, rfl⟩ | ⟨rfl, rfl⟩ | ⟨rfl, rfl⟩ | ⟨rfl, rfl⟩ <;> exact run _ _ (by simp)
/-! ### the error, the lambda's caller -/
theorem scBad : FnScope ["self", "part"] ["self", "part"] (defScope (inClass (Hd.top 2) 0)) := ⟨rfl, rfl, rfl, by decide +kernel, rfl, by decide +kernel, by decide +kernel⟩
theorem errB (c : Says w h K) (X : K.In h) (G : h.Ns mainGlobals mg) : letI := tbs K; letI := ad K; Err P w K mg base "BadWord" A_BadWord ["part"] := by
  letI := tbs K
  letI := ad K
  obtain ⟨m, _⟩ := He.ba c.more
  obtain ⟨h1, m⟩ := He.ba m
  obtain ⟨h2, m⟩ := He.ba m
  obtain ⟨h3, m⟩ := He.ba m
  obtain ⟨h4, m⟩ := He.ba m
  obtain ⟨h5, h6⟩ := He.ba m
  obtain ⟨fd, F⟩ := c.t.d.def_ 22 (d := Hd.dm "BadWord" "__init__" "BadWord.__init__" 2 0) rfl
  have F' : Fun K "__init__" "BadWord.__init__" (inClass (Hd.top 2) 0) _ fd := funOf F
  exact ⟨_, fd, ["self", "part"], oexB_ok h1, of_decide_eq_true h4, of_decide_eq_true h5, ok_x1 (N := []) F' scBad rfl (oexB_ok h1) (of_decide_eq_true h3) (by decide) (by decide) (.inl rfl) (.inl rfl) (fun _ => rfl),
    F'.binds fun _ _ _ _ _ _ us hl => match us, hl with | [_, _], _ => rfl, gl c X G 23⟩
theorem hrd (c : Says w h K) (X : K.In h) (G : h.Ns mainGlobals mg) (tb : LamX.TabB base mg (He.codeOf K (me, none)) (He.tabOf K (He.codeOf K (me, none)))) :
    letI := tbs K; letI := ad K; Hrd P w K mg base me "_law_heard" "_law_ask" (Hd.top 29) ["_law_ask", "error"] okH (erH K A_BadWord A_WordsError) hokH (herH A_BadWord) := by
  letI := tbs K
  letI := ad K
  obtain ⟨m, _⟩ := He.ba c.more
  obtain ⟨_, m⟩ := He.ba m
  obtain ⟨h2, m⟩ := He.ba m
  obtain ⟨h3, m⟩ := He.ba m
  obtain ⟨_, m⟩ := He.ba m
  obtain ⟨_, h6⟩ := He.ba m
  exact ⟨df2 c X G 19 29, scHeard, rfl, by first | exact .inl rfl | exact .inr (.inl rfl), fun _ _ _ _ _ _ us hl => match us, hl with | [_], _ => rfl,
    fun Y g cdg q eK em => by
      subst eK
      subst em
      exact heard_gives (gl c X G 23) (gl c X G 22) (xfB_ok h2) (of_decide_eq_true h3),
    fun M H hf => okH_g M H hf, fun M H e d hf hx => erH_g (of_decide_eq_true h6) M H e d hf hx, tb, List.mem_cons_self, fun p hp _ => by
      rcases List.mem_cons.mp hp with hp | hp
      · rw [hp]
      · cases hp⟩
/-! ### every def in its turn -/
theorem all (c : Says w h K) (X : K.In h) (G : h.Ns mainGlobals mg) (tb : LamX.TabB base mg (He.codeOf K (me, none)) (He.tabOf K (He.codeOf K (me, none)))) : letI := tbs K; letI := ad K; Dok P w K mg base 8 "law" (Hd.top 31) ["_law_script"] F_law := by
  letI := tbs K
  letI := ad K
  have T : Tx w K mg := tx c X G
  have EB : Err P w K mg base "BadWord" A_BadWord ["part"] := errB c X G
  have HH := hrd (P := P) c X G tb
  have is_integer := dk_is_integer (P := P) (base := base) T (df2 c X G 0 9)
  have is_name := dk_is_name (P := P) (base := base) T (df2 c X G 2 11)
  have is_cell := dk_is_cell T is_name (df2 c X G 3 12)
  have is_word := dk_is_word (P := P) (base := base) T (df2 c X G 4 13)
  have need_word := dk_need_word T is_word EB (df2 c X G 5 14)
  have turned_word := dk_turned_word T need_word (df2 c X G 6 15)
  have cell_key := dk_cell_key (P := P) (base := base) T (df2 c X G 8 17)
  have cell_text := dk_cell_text (P := P) (base := base) T (df2 c X G 9 18)
  have store := dk__law_store (P := P) (base := base) T (df2 c X G 10 20)
  have next := dk__law_next (P := P) (base := base) T (df2 c X G 11 21)
  have name := dk__law_name T next (df2 c X G 12 22)
  have names := dk__law_names T next (df2 c X G 13 23)
  have value := dk__law_value T name names next (df2 c X G 14 24)
  have is_plain := dk__law_is_plain (P := P) (base := base) T (df2 c X G 15 25)
  have lname := dk__law_is_name (P := P) (base := base) T (df2 c X G 16 26)
  have lcell := dk__law_is_cell T lname (df2 c X G 17 27)
  have is_within := dk_is_within T is_integer (df2 c X G 1 10)
  have right := dk__law_value_right T lcell lname is_plain cell_key cell_text is_cell is_integer is_name is_within (df2 c X G 18 28)
  have words := dk__law_words_right T next turned_word HH (df c X G 20 30)
  obtain ⟨ff, fdf, Ff, mf⟩ := df2 (x := "first_twice") c X G 7 16
  exact dk_law T next store value right words ⟨ff, fdf, Ff, ok_ft Ff rfl, mf⟩ (df2 c X G 8 17) (df2 c X G 21 31)
end
end J1
set_option maxRecDepth 100000
set_option maxHeartbeats 4000000
/-! J2: k01: from the plain law to the row -/
namespace J2
open PySem PySem.Spec PyProof.Rows L2 TM J1
section
variable {K : PySem.W.Frag}
/-- what the plain law says -/
def Plain : Prop := ∀ K : PySem.W.Frag, letI := tbs K; letI := ad K; ∀ ns : List Int, ns.length ≤ 63 → (∀ z ∈ ns, Builtin.Int.intBits z ≤ 1048576) → ∃ fin, F_law [.sh (.fz (ns.map .int))] = .ok (.bl true) false fin
theorem reps_ints [Tbs] {N : Addr → Prop} {H : Hp} : ∀ {ns : List Int}, Reps K N H (ns.map D.int) (ns.map V.int)
  | [] => Reps.nil
  | _ :: _ => Reps.cons rInt reps_ints
theorem start (h : Plain) {H : Hp} {a : Addr} {ns : List Int} (hl : ns.length ≤ 63) (hb : ∀ z ∈ ns, Builtin.Int.intBits z ≤ 1048576) (hT : H (He.cT K (me, none)).2 = some (.tbl #[])) (hS : SqL K H a (ns.map V.int)) :
    letI := tbs K; letI := ad K; treeSp K 1 F_law [.ref a] H (fun v _ => v = .bl true) fun _ _ _ => False := by
  letI := tbs K
  letI := ad K
  obtain ⟨fin, e⟩ := h K ns hl hb
  refine ⟨⟨fun _ => False, H, fun _ _ => False, []⟩, [.sh (.fz (ns.map .int))], rfl, rfl, rfl, fun i b => ⟨fun z => z.elim, fun ⟨_, d, z⟩ => ?_⟩, ?_, ?_⟩
  · cases i with
    | zero => cases z
    | succ i => cases z
  · have noOwn : ∀ b, ¬ Own (vsl [V.ref a]) (slots [.sh (.fz (ns.map D.int))]) b := fun b ⟨i, k, d, z1, z2, _⟩ => by
      cases i with
      | zero => cases z1; exact z2 rfl
      | succ i => cases z1
    refine ⟨rfl, fun i k d hi => ?_, fun i j k k' d d' b h1 _ h3 _ _ _ => ?_, fun b z => z.elim, Keeps.refl, fun b ⟨_, z⟩ => z.elim, (fun p hp => nomatch hp), ?_⟩
    · cases i with
      | zero =>
        cases hi
        refine ⟨.ref a, rfl, ?_⟩
        show Rep K _ H (.fz (ns.map D.int)) (.ref a)
        simp only [Rep]
        refine ⟨a, _, rfl, ?_, reps_ints⟩
        rcases hS with hS | hS
        · exact .inl ⟨fun z => z.elim id (noOwn a), hS⟩
        · exact .inr hS
      | succ i => cases hi
    · cases i with
      | zero => cases h1; exact (h3 rfl).elim
      | succ i => cases h1
    · intro p hp
      rcases List.mem_cons.mp hp with hp | hp
      · subst hp
        exact ⟨#[], hT, trivial, fun _ _ z => nomatch (show (none : Option Value) = some _ from z)⟩
      · cases hp
  · rw [e]
    intro v H' e1 r
    simpa only [RVR, Rep] using r.1
theorem same {x q : Str} {st : Stmt} {f : Addr} {fd fd' : FuncData} (F : Fun K x q st f fd) (G : Fun K x q st f fd') : fd = fd' := by
  obtain ⟨oc, od, kV, doc, pm, an, cdv, ct, osl, _, lk, _⟩ := F.ex
  obtain ⟨oc2, od2, kV2, doc2, pm2, an2, cdv2, ct2, osl2, _, lk2, _⟩ := G.ex
  cases lk.symm.trans lk2
  rfl
theorem walk (h0 : Plain) : PySem.W.WalkO (PySem.W.view Hd.R.prog [31]) Hd.names (PySem.W.XL (PySem.W.view Hd.R.prog [31]) []) Hd.hk.says Hd.R.toRowW (HandSHeadRun.topDef Hd.R.prog 31) [] (fun f vs => PySem.call f vs) := by
  refine LamX.walk_ofTsE (l := PySem.Challenge.rw_borderwords_k01_checks_of_any_value) (n := 63) (k := 8) (x := "_law_script") (CX := fun w => L2.CX PySem.Challenge.pw_borderwords_k01_checks_of_any_value w) rfl (by decide) (by kernel_rfl) ⟨rfl, by decide, by decide⟩ ?F ?X
  case X => exact fun _ _ _ _ _ ⟨_, _, _, _, _, _, _, _, _, _, _, _, z⟩ => z
  case F =>
    intro w mg fa h Y G hmg0
    obtain ⟨K, KX, c⟩ := Y
    have hmg : mg ("law" : Str) = some (.ref fa) := by
      have e : (HandSHeadRun.topDef Hd.R.prog 31).name = ("law" : Str) := by kernel_rfl
      rw [← e]
      exact hmg0
    obtain ⟨f, fd, F, m, ef⟩ := df (x := "law") c KX G 21 31
    subst ef
    cases hmg.symm.trans m
    refine ⟨K, KX, fd, [He.cT K (me, none)], (letI := tbs K; letI := ad K; treeSp K 1 F_law), fun p hp => ?_, fun p hp => ?_, fun p hp => ?_, ?_, fun H a ns hl hb hT hS => start h0 hl hb (hT _ List.mem_cons_self) hS, fun base KB GB tb => ?_⟩
    · rw [List.mem_singleton.mp hp]; exact c.empty _ List.mem_cons_self
    · rw [List.mem_singleton.mp hp]; exact c.out _ List.mem_cons_self
    · rw [List.mem_singleton.mp hp]; exact PySem.W.codeHd_of_K KX (c.hd _ List.mem_cons_self)
    · obtain ⟨fd', F'⟩ := c.t.d.def_ 21 (d := Hd.dd "law" 31) rfl
      have F2 : FunD K "law" "law" (defArgs (Hd.top 31)) (defBody (Hd.top 31)) (defScope (Hd.top 31)) [] [] (He.ga K "law") fd' := F'
      have e2 : fd = fd' := same F (funOf F2)
      subst e2
      have b := FunD.bindsA (ps := ["_law_script"]) F2 fun _ _ _ _ _ _ us hl => match us, hl with | [_], _ => rfl
      exact fun s u => b s [u] rfl
    · have A := all (P := PySem.Challenge.rw_borderwords_k01_checks_of_any_value.prog) c KX G (tb _ List.mem_cons_self)
      obtain ⟨f2, fd2, F2, G2, m2⟩ := (letI := tbs K; letI := ad K; A.ex)
      cases m.symm.trans m2
      have e2 : fd = fd2 := same F F2
      subst e2
      exact G2
theorem row (h0 : Plain) : PySem.Challenge.rw_borderwords_k01_checks_of_any_value.Holds := by
  w_on; o_law
  refine HandSHeadRun.head_any (r := Hd.R) (q := PySem.W.view Hd.R.prog [31]) (H := Hd.hk) (ob := Hd.ob) (M := 20000) (loose := Hd.names) (d := HandSHeadRun.topDef Hd.R.prog 31) (kwd := []) Hd.ob_eq
    (by kernel_rfl) (fun s => by kernel_rfl) Hd.run (by kernel_rfl) (by kernel_rfl) (by kernel_rfl) (by rfl) (by first | assumption | decide +kernel) (by decide +kernel) ⟨rfl, rfl, rfl, rfl, rfl, by decide +kernel⟩ ?hw ?hc
  case hw => w_witness2
  case hc => exact walk h0
end
end J2
namespace J2
open TM J1
theorem plain : Plain := fun K => letI := tbs K; letI := ad K; fun ns h _ => law_eq h
end J2
theorem PySem.Challenge.cw_borderwords_k01_checks_of_any_value_holds : PySem.Challenge.rw_borderwords_k01_checks_of_any_value.Holds :=
  J2.row J2.plain
