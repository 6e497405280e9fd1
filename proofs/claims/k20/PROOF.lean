import PyProof.Rows.All
import Wide.All
import OpenK.AllK
import Wide.FinOn
import HandS.ForMost
import HandS.Exc
import HandS.TryOnly
import HandS.ExcOwn
import HandS.WordsExc
import HandS.CallSlots
import HandS.IsInst
import HandS.Conv
import HandS.Style
import HandS.Dict
import HandS.Defaults
import HandS.Text
import HandS.Iter
import HandS.Steps
import HandS.ExcIs
import HandS.HeadHook2
import HandS.Lambda
import HandS.SortInts
import HandS.FStr
import PyProof.Rows.SetFrom
import PyProof.SetRoads
import HandS.TupAny
import HandS.Deep
import HandS.RevRange
import HandS.TupLen
import KE.KDictDisplayH
import KE.SortData
import HandS.TryMany
import HandS.HeadHook3
import HandS.ReplaceLit
import HandS.ReplaceList
import HandS.ReplaceDef
import PyProof.DictUpdate
import KE.GoesRaise
import KE.KAsSuite
import KE.KStateDown
import HandS.Head0
import HandS.Head1
import HandS.Head2
import HandS.HeadEnd
import HandS.HeadHook1
import PySem.Challenge.RW_chalkcave_k20_texts_that_write_no_chart
set_option Elab.async false
set_option linter.all false
set_option maxRecDepth 100000
set_option maxHeartbeats 8000000
set_option synthInstance.maxHeartbeats 400000
set_option synthInstance.maxSize 4000
namespace Mv
open PySem L2

structure Nv where
  ad : String → Addr
  K : PySem.W.Frag
instance : CoeFun Nv (fun _ => String → Addr) := ⟨Nv.ad⟩
inductive D where
  | non
  | bl (b : Bool)
  | int (i : Int)
  | str (s : Str)
  | lst (ds : List D)
  | tup (ds : List D)
  | dct (kvs : List (Key × D))
  | dctT (kvs : List (List Key × D))
  | ins (c : String) (fs : List (Str × D))

def imm : D → Bool
  | .non => true
  | .bl _ => true
  | .int _ => true
  | .str _ => true
  | .tup ds => immL ds
  | _ => false
where immL : List D → Bool
  | [] => true
  | d :: ds => imm d && immL ds
abbrev immL := imm.immL

variable (cl : Nv)
mutual
inductive Rep (H : Hp) (P : Addr → Prop) : D → V → Prop
  | non : Rep H P .non .non
  | bl (b) : Rep H P (.bl b) (.bl b)
  | int (i) : Rep H P (.int i) (.int i)
  | str (s) : Rep H P (.str s) (.str s)
  | lst {p vs ds} : H p = some (.lst vs) → P p → RepL H P ds vs → Rep H P (.lst ds) (.ref p)
  | tup {p vs ds} : H p = some (.tup vs) → RepL H P ds vs → Rep H P (.tup ds) (.ref p)
  | dct {p kvs kds} : H p = some (.dK kvs) → P p → RepK H P kds kvs → Rep H P (.dct kds) (.ref p)
  | dctT {p kvs kds} : H p = some (.dT kvs) → P p → RepT H P kds kvs → Rep H P (.dctT kds) (.ref p)
  | ins {p c dx fs fds} : H p = some (.ins (cl c) dx fs) → P p → RepF H P fds fs → Rep H P (.ins c fds) (.ref p)
inductive RepL (H : Hp) (P : Addr → Prop) : List D → List V → Prop
  | nil : RepL H P [] []
  | cons {d v ds vs} : Rep H P d v → RepL H P ds vs → RepL H P (d :: ds) (v :: vs)
inductive RepK (H : Hp) (P : Addr → Prop) : List (Key × D) → List (Key × V) → Prop
  | nil : RepK H P [] []
  | cons {k d v ds vs} : Rep H P d v → RepK H P ds vs → RepK H P ((k, d) :: ds) ((k, v) :: vs)
inductive RepT (H : Hp) (P : Addr → Prop) : List (List Key × D) → List (List Key × V) → Prop
  | nil : RepT H P [] []
  | cons {k d v ds vs} : Rep H P d v → RepT H P ds vs → RepT H P ((k, d) :: ds) ((k, v) :: vs)
inductive RepF (H : Hp) (P : Addr → Prop) : List (Str × D) → List (Str × V) → Prop
  | nil : RepF H P [] []
  | cons {k d v ds vs} : Rep H P d v → RepF H P ds vs → RepF H P ((k, d) :: ds) ((k, v) :: vs)
end
variable {cl : Nv}
section
variable {H H' : Hp} {P P' : Addr → Prop}
mutual
theorem Rep.mono (g : ∀ a o, H a = some o → P a → H' a = some o ∧ P' a) (t : ∀ a xs, H a = some (.tup xs) → H' a = some (.tup xs)) : ∀ {d : D} {v : V}, Rep cl H P d v → Rep cl H' P' d v
  | _, _, .non => .non
  | _, _, .bl b => .bl b
  | _, _, .int b => .int b
  | _, _, .str b => .str b
  | _, _, .lst h p r => .lst (g _ _ h p).1 (g _ _ h p).2 (RepL.mono g t r)
  | _, _, .tup h r => .tup (t _ _ h) (RepL.mono g t r)
  | _, _, .dct h p r => .dct (g _ _ h p).1 (g _ _ h p).2 (RepK.mono g t r)
  | _, _, .dctT h p r => .dctT (g _ _ h p).1 (g _ _ h p).2 (RepT.mono g t r)
  | _, _, .ins h p r => .ins (g _ _ h p).1 (g _ _ h p).2 (RepF.mono g t r)
theorem RepL.mono (g : ∀ a o, H a = some o → P a → H' a = some o ∧ P' a) (t : ∀ a xs, H a = some (.tup xs) → H' a = some (.tup xs)) : ∀ {d : List D} {v : List V}, RepL cl H P d v → RepL cl H' P' d v
  | _, _, .nil => .nil
  | _, _, .cons a b => .cons (Rep.mono g t a) (RepL.mono g t b)
theorem RepK.mono (g : ∀ a o, H a = some o → P a → H' a = some o ∧ P' a) (t : ∀ a xs, H a = some (.tup xs) → H' a = some (.tup xs)) : ∀ {d : List (Key × D)} {v : List (Key × V)}, RepK cl H P d v → RepK cl H' P' d v
  | _, _, .nil => .nil
  | _, _, .cons a b => .cons (Rep.mono g t a) (RepK.mono g t b)
theorem RepT.mono (g : ∀ a o, H a = some o → P a → H' a = some o ∧ P' a) (t : ∀ a xs, H a = some (.tup xs) → H' a = some (.tup xs)) : ∀ {d : List (List Key × D)} {v : List (List Key × V)}, RepT cl H P d v → RepT cl H' P' d v
  | _, _, .nil => .nil
  | _, _, .cons a b => .cons (Rep.mono g t a) (RepT.mono g t b)
theorem RepF.mono (g : ∀ a o, H a = some o → P a → H' a = some o ∧ P' a) (t : ∀ a xs, H a = some (.tup xs) → H' a = some (.tup xs)) : ∀ {d : List (Str × D)} {v : List (Str × V)}, RepF cl H P d v → RepF cl H' P' d v
  | _, _, .nil => .nil
  | _, _, .cons a b => .cons (Rep.mono g t a) (RepF.mono g t b)
end
theorem Rep.same (s : Same H H') {d : D} {v : V} (h : Rep cl H P d v) (q : ∀ a, P a → P' a) : Rep cl H' P' d v := h.mono (fun a o e p => ⟨s a o e, q a p⟩) fun a xs e => s a _ e
theorem RepL.same (s : Same H H') {d : List D} {v : List V} (h : RepL cl H P d v) (q : ∀ a, P a → P' a) : RepL cl H' P' d v := h.mono (fun a o e p => ⟨s a o e, q a p⟩) fun a xs e => s a _ e
theorem Rep.any {d : D} {v : V} (h : Rep cl H P d v) (q : ∀ a, P a → P' a) : Rep cl H P' d v := h.same (Same.refl H) q
theorem RepL.any {d : List D} {v : List V} (h : RepL cl H P d v) (q : ∀ a, P a → P' a) : RepL cl H P' d v := h.same (Same.refl H) q
mutual
theorem Rep.im : ∀ {d : D} {v : V}, imm d = true → Rep cl H P d v → Rep cl H P' d v
  | _, _, _, .non => .non
  | _, _, _, .bl b => .bl b
  | _, _, _, .int b => .int b
  | _, _, _, .str b => .str b
  | _, _, i, .lst h p r => nomatch i
  | _, _, i, .tup h r => .tup h (RepL.im i r)
  | _, _, i, .dct h p r => nomatch i
  | _, _, i, .dctT h p r => nomatch i
  | _, _, i, .ins h p r => nomatch i
theorem RepL.im : ∀ {d : List D} {v : List V}, immL d = true → RepL cl H P d v → RepL cl H P' d v
  | _, _, _, .nil => .nil
  | d :: ds, _, i, .cons a b => by
    have e : (imm d && immL ds) = true := i
    rw [Bool.and_eq_true] at e
    exact .cons (Rep.im e.1 a) (RepL.im e.2 b)
end
theorem RepL.length : ∀ {ds : List D} {vs : List V}, RepL cl H P ds vs → ds.length = vs.length
  | _, _, .nil => rfl
  | _, _, .cons _ r => congrArg (· + 1) (RepL.length r)
theorem RepL.get : ∀ {ds : List D} {vs : List V} {i : Nat} {d : D}, RepL cl H P ds vs → ds[i]? = some d → ∃ v, vs[i]? = some v ∧ Rep cl H P d v
  | _, _, _, _, .nil, e => by simp at e
  | _, _, 0, _, .cons r _, e => by simp at e; subst e; exact ⟨_, rfl, r⟩
  | _, _, i + 1, x, .cons _ t, e => by
    obtain ⟨u, h1, h2⟩ := RepL.get (i := i) (d := x) t (by simpa using e)
    exact ⟨u, by simpa using h1, h2⟩
theorem RepL.append : ∀ {ds es : List D} {vs ws : List V}, RepL cl H P ds vs → RepL cl H P es ws → RepL cl H P (ds ++ es) (vs ++ ws)
  | _, _, _, _, .nil, s => s
  | _, _, _, _, .cons r t, s => .cons r (RepL.append t s)
theorem RepL.take : ∀ {ds : List D} {vs : List V} (n : Nat), RepL cl H P ds vs → RepL cl H P (ds.take n) (vs.take n)
  | _, _, 0, _ => .nil
  | _, _, _ + 1, .nil => .nil
  | _, _, n + 1, .cons r t => .cons r (RepL.take n t)
theorem RepL.drop : ∀ {ds : List D} {vs : List V} (n : Nat), RepL cl H P ds vs → RepL cl H P (ds.drop n) (vs.drop n)
  | _, _, 0, r => r
  | _, _, _ + 1, .nil => .nil
  | _, _, n + 1, .cons _ t => RepL.drop n t
theorem RepL.set {d : D} {v : V} (r : Rep cl H P d v) : ∀ {ds : List D} {vs : List V} (i : Nat), RepL cl H P ds vs → RepL cl H P (ds.set i d) (vs.set i v)
  | _, _, _, .nil => .nil
  | _, _, 0, .cons _ t => .cons r t
  | _, _, i + 1, .cons q t => .cons q (RepL.set r i t)
theorem RepL.eraseIdx : ∀ {ds : List D} {vs : List V} (i : Nat), RepL cl H P ds vs → RepL cl H P (ds.eraseIdx i) (vs.eraseIdx i)
  | _, _, _, .nil => .nil
  | _, _, 0, .cons _ t => t
  | _, _, i + 1, .cons q t => .cons q (RepL.eraseIdx i t)
theorem RepL.reverse : ∀ {ds : List D} {vs : List V}, RepL cl H P ds vs → RepL cl H P ds.reverse vs.reverse
  | _, _, .nil => .nil
  | _, _, .cons (d := d) (v := v) q t => by
    rw [List.reverse_cons, List.reverse_cons]
    exact (RepL.reverse t).append (.cons q .nil)
theorem RepL.dropLast : ∀ {ds : List D} {vs : List V}, RepL cl H P ds vs → RepL cl H P ds.dropLast vs.dropLast := fun {ds vs} r => by
  rw [List.dropLast_eq_take, List.dropLast_eq_take, r.length]
  exact r.take _
theorem RepF.lookup {f : Str} : ∀ {ds : List (Str × D)} {vs : List (Str × V)}, RepF cl H P ds vs → (∀ d, ds.lookup f = some d → ∃ v, vs.lookup f = some v ∧ Rep cl H P d v) ∧ (ds.lookup f = none → vs.lookup f = none)
  | _, _, .nil => ⟨fun d h => by simp at h, fun _ => rfl⟩
  | (k, d) :: ds, (_, v) :: vs, .cons r t => by
    obtain ⟨h1, h2⟩ := RepF.lookup t
    by_cases e : f = k
    · subst e
      simp only [List.lookup, beq_self_eq_true]
      exact ⟨fun d' h => by injection h with h; subst h; exact ⟨v, rfl, r⟩, fun h => by cases h⟩
    · have e' : (f == k) = false := by simpa using e
      simp only [List.lookup, e']
      exact ⟨h1, h2⟩
theorem RepF.length : ∀ {ds : List (Str × D)} {vs : List (Str × V)}, RepF cl H P ds vs → ds.length = vs.length
  | _, _, .nil => rfl
  | _, _, .cons _ r => congrArg (· + 1) (RepF.length r)
def putD (f : Str) (d : D) : List (Str × D) → List (Str × D)
  | [] => [(f, d)]
  | (g, e) :: r => if g = f then (g, d) :: r else (g, e) :: putD f d r
end
end Mv

namespace Mv
open PySem L2

inductive Lb where
  | fo
  | ow (i : Nat)
  | bo (i : Nat)
  deriving DecidableEq
structure Om where
  lb : Addr → Option Lb
  pin : Nat → V × D
instance : CoeFun Om (fun _ => Addr → Option Lb) := ⟨Om.lb⟩
abbrev Fz (w : Om) : Addr → Prop := fun a => w a = none
abbrev Lf (w : Om) : Addr → Prop := fun a => w a = none ∨ w a = some .fo
abbrev An : Addr → Prop := fun _ => True
inductive Sh where
  | fz
  | ls (s : Sh)
  | tn
  | tc (s r : Sh)
  | tp (s : Sh)
  | dk
  | dt
  | io (n : Nat)
  | op (s : Sh)
  deriving DecidableEq
def fldT (n : Nat) (f : Str) : Sh := match n with
  | 1 => if f = ("kept" : Str) ∨ f = ("held" : Str) then .ls .fz else .fz
  | 2 => if f = ("book" : Str) then .io 1 else .fz
  | _ => .fz
inductive Mo where
  | un | pu | lo | sc | pn | ow (s : Sh) | bo (s : Sh)
  deriving DecidableEq
variable (cl : Nv)
mutual
inductive Tr (H : Hp) (P O : Addr → Prop) : Sh → D → V → List Addr → Prop
  | fz {d v} : Rep cl H P d v → Tr H P O .fz d v []
  | ls {s p vs ds A} : H p = some (.lst vs) → O p → TrL H P O s ds vs A → Tr H P O (.ls s) (.lst ds) (.ref p) (p :: A)
  | tp {s p vs ds A} : H p = some (.tup vs) → TrP H P O s ds vs A → Tr H P O (.tp s) (.tup ds) (.ref p) A
  | dk {p kvs kds} : H p = some (.dK kvs) → O p → RepK cl H P kds kvs → Tr H P O .dk (.dct kds) (.ref p) [p]
  | dt {p kvs kds} : H p = some (.dT kvs) → O p → RepT cl H P kds kvs → Tr H P O .dt (.dctT kds) (.ref p) [p]
  | io {n p c dx fs fds A} : H p = some (.ins (cl c) dx fs) → O p → TrF H P O n fds fs A → Tr H P O (.io n) (.ins c fds) (.ref p) (p :: A)
  | no {s} : Tr H P O (.op s) .non .non []
  | so {s d v A} : Tr H P O s d v A → Tr H P O (.op s) d v A
inductive TrL (H : Hp) (P O : Addr → Prop) : Sh → List D → List V → List Addr → Prop
  | nil {s} : TrL H P O s [] [] []
  | cons {s d v ds vs A B} : Tr H P O s d v A → TrL H P O s ds vs B → TrL H P O s (d :: ds) (v :: vs) (A ++ B)
inductive TrP (H : Hp) (P O : Addr → Prop) : Sh → List D → List V → List Addr → Prop
  | nil : TrP H P O .tn [] [] []
  | cons {s r d v ds vs A B} : Tr H P O s d v A → TrP H P O r ds vs B → TrP H P O (.tc s r) (d :: ds) (v :: vs) (A ++ B)
inductive TrF (H : Hp) (P O : Addr → Prop) : Nat → List (Str × D) → List (Str × V) → List Addr → Prop
  | nil {n} : TrF H P O n [] [] []
  | cons {n k d v ds vs A B} : Tr H P O (fldT n k) d v A → TrF H P O n ds vs B → TrF H P O n ((k, d) :: ds) ((k, v) :: vs) (A ++ B)
end
variable {cl : Nv}
section
variable {H H' : Hp} {P P' O O' : Addr → Prop}
mutual
theorem Tr.mono (g : ∀ a o, H a = some o → P a → H' a = some o ∧ P' a) (t : ∀ a xs, H a = some (.tup xs) → H' a = some (.tup xs)) : ∀ {s : Sh} {d : D} {v : V} {A : List Addr}, (∀ a ∈ A, ∀ o, H a = some o → O a → H' a = some o ∧ O' a) → Tr cl H P O s d v A → Tr cl H' P' O' s d v A
  | _, _, _, _, q, .fz r => .fz (r.mono g t)
  | _, _, _, _, q, .ls h o r => .ls (q _ List.mem_cons_self _ h o).1 (q _ List.mem_cons_self _ h o).2 (TrL.mono g t (fun a m => q a (List.mem_cons_of_mem _ m)) r)
  | _, _, _, _, q, .tp h r => .tp (t _ _ h) (TrP.mono g t q r)
  | _, _, _, _, q, .dk h o r => .dk (q _ List.mem_cons_self _ h o).1 (q _ List.mem_cons_self _ h o).2 (r.mono g t)
  | _, _, _, _, q, .dt h o r => .dt (q _ List.mem_cons_self _ h o).1 (q _ List.mem_cons_self _ h o).2 (r.mono g t)
  | _, _, _, _, q, .io h o r => .io (q _ List.mem_cons_self _ h o).1 (q _ List.mem_cons_self _ h o).2 (TrF.mono g t (fun a m => q a (List.mem_cons_of_mem _ m)) r)
  | _, _, _, _, q, .no => .no
  | _, _, _, _, q, .so r => .so (Tr.mono g t q r)
theorem TrL.mono (g : ∀ a o, H a = some o → P a → H' a = some o ∧ P' a) (t : ∀ a xs, H a = some (.tup xs) → H' a = some (.tup xs)) : ∀ {s : Sh} {d : List D} {v : List V} {A : List Addr}, (∀ a ∈ A, ∀ o, H a = some o → O a → H' a = some o ∧ O' a) → TrL cl H P O s d v A → TrL cl H' P' O' s d v A
  | _, _, _, _, q, .nil => .nil
  | _, _, _, _, q, .cons a b => .cons (Tr.mono g t (fun x m => q x (List.mem_append_left _ m)) a) (TrL.mono g t (fun x m => q x (List.mem_append_right _ m)) b)
theorem TrP.mono (g : ∀ a o, H a = some o → P a → H' a = some o ∧ P' a) (t : ∀ a xs, H a = some (.tup xs) → H' a = some (.tup xs)) : ∀ {s : Sh} {d : List D} {v : List V} {A : List Addr}, (∀ a ∈ A, ∀ o, H a = some o → O a → H' a = some o ∧ O' a) → TrP cl H P O s d v A → TrP cl H' P' O' s d v A
  | _, _, _, _, q, .nil => .nil
  | _, _, _, _, q, .cons a b => .cons (Tr.mono g t (fun x m => q x (List.mem_append_left _ m)) a) (TrP.mono g t (fun x m => q x (List.mem_append_right _ m)) b)
theorem TrF.mono (g : ∀ a o, H a = some o → P a → H' a = some o ∧ P' a) (t : ∀ a xs, H a = some (.tup xs) → H' a = some (.tup xs)) : ∀ {s : Nat} {d : List (Str × D)} {v : List (Str × V)} {A : List Addr}, (∀ a ∈ A, ∀ o, H a = some o → O a → H' a = some o ∧ O' a) → TrF cl H P O s d v A → TrF cl H' P' O' s d v A
  | _, _, _, _, q, .nil => .nil
  | _, _, _, _, q, .cons a b => .cons (Tr.mono g t (fun x m => q x (List.mem_append_left _ m)) a) (TrF.mono g t (fun x m => q x (List.mem_append_right _ m)) b)
end
mutual
theorem Tr.rep (g : ∀ a, P a → P' a) : ∀ {s : Sh} {d : D} {v : V} {A : List Addr}, (∀ a ∈ A, P' a) → Tr cl H P O s d v A → Rep cl H P' d v
  | _, _, _, _, q, .fz r => r.any g
  | _, _, _, _, q, .ls h o r => .lst h (q _ List.mem_cons_self) (TrL.rep g (fun a m => q a (List.mem_cons_of_mem _ m)) r)
  | _, _, _, _, q, .tp h r => .tup h (TrP.rep g q r)
  | _, _, _, _, q, .dk h o r => .dct h (q _ List.mem_cons_self) (r.mono (fun a o e z => ⟨e, g a z⟩) fun _ _ e => e)
  | _, _, _, _, q, .dt h o r => .dctT h (q _ List.mem_cons_self) (r.mono (fun a o e z => ⟨e, g a z⟩) fun _ _ e => e)
  | _, _, _, _, q, .io h o r => .ins h (q _ List.mem_cons_self) (TrF.rep g (fun a m => q a (List.mem_cons_of_mem _ m)) r)
  | _, _, _, _, q, .no => .non
  | _, _, _, _, q, .so r => Tr.rep g q r
theorem TrL.rep (g : ∀ a, P a → P' a) : ∀ {s : Sh} {d : List D} {v : List V} {A : List Addr}, (∀ a ∈ A, P' a) → TrL cl H P O s d v A → RepL cl H P' d v
  | _, _, _, _, q, .nil => .nil
  | _, _, _, _, q, .cons a b => .cons (Tr.rep g (fun x m => q x (List.mem_append_left _ m)) a) (TrL.rep g (fun x m => q x (List.mem_append_right _ m)) b)
theorem TrP.rep (g : ∀ a, P a → P' a) : ∀ {s : Sh} {d : List D} {v : List V} {A : List Addr}, (∀ a ∈ A, P' a) → TrP cl H P O s d v A → RepL cl H P' d v
  | _, _, _, _, q, .nil => .nil
  | _, _, _, _, q, .cons a b => .cons (Tr.rep g (fun x m => q x (List.mem_append_left _ m)) a) (TrP.rep g (fun x m => q x (List.mem_append_right _ m)) b)
theorem TrF.rep (g : ∀ a, P a → P' a) : ∀ {s : Nat} {d : List (Str × D)} {v : List (Str × V)} {A : List Addr}, (∀ a ∈ A, P' a) → TrF cl H P O s d v A → RepF cl H P' d v
  | _, _, _, _, q, .nil => .nil
  | _, _, _, _, q, .cons a b => .cons (Tr.rep g (fun x m => q x (List.mem_append_left _ m)) a) (TrF.rep g (fun x m => q x (List.mem_append_right _ m)) b)
end
def Ob (H : Hp) (O : Addr → Prop) (a : Addr) : Prop := O a ∧ ∃ o, H a = some o ∧ ∀ xs, o ≠ .tup xs
theorem mem_app {A B : List Addr} {Q : Addr → Prop} (h1 : ∀ a ∈ A, Q a) (h2 : ∀ a ∈ B, Q a) : ∀ a ∈ A ++ B, Q a := fun a m => (List.mem_append.mp m).elim (h1 a) (h2 a)
theorem mem_cn {p : Addr} {A : List Addr} {Q : Addr → Prop} (h1 : Q p) (h2 : ∀ a ∈ A, Q a) : ∀ a ∈ p :: A, Q a := fun a m => by
  rcases List.mem_cons.mp m with rfl | m
  · exact h1
  · exact h2 a m
mutual
theorem Tr.ob : ∀ {s : Sh} {d : D} {v : V} {A : List Addr}, Tr cl H P O s d v A → ∀ a ∈ A, Ob H O a
  | _, _, _, _, .fz r => fun a m => nomatch m
  | _, _, _, _, .ls h o r => mem_cn ⟨o, _, h, fun _ z => nomatch z⟩ (TrL.ob r)
  | _, _, _, _, .tp h r => TrP.ob r
  | _, _, _, _, .dk h o r => mem_cn ⟨o, _, h, fun _ z => nomatch z⟩ fun a m => nomatch m
  | _, _, _, _, .dt h o r => mem_cn ⟨o, _, h, fun _ z => nomatch z⟩ fun a m => nomatch m
  | _, _, _, _, .io h o r => mem_cn ⟨o, _, h, fun _ z => nomatch z⟩ (TrF.ob r)
  | _, _, _, _, .no => fun a m => nomatch m
  | _, _, _, _, .so r => Tr.ob r
theorem TrL.ob : ∀ {s : Sh} {d : List D} {v : List V} {A : List Addr}, TrL cl H P O s d v A → ∀ a ∈ A, Ob H O a
  | _, _, _, _, .nil => fun a m => nomatch m
  | _, _, _, _, .cons a b => mem_app (Tr.ob a) (TrL.ob b)
theorem TrP.ob : ∀ {s : Sh} {d : List D} {v : List V} {A : List Addr}, TrP cl H P O s d v A → ∀ a ∈ A, Ob H O a
  | _, _, _, _, .nil => fun a m => nomatch m
  | _, _, _, _, .cons a b => mem_app (Tr.ob a) (TrP.ob b)
theorem TrF.ob : ∀ {s : Nat} {d : List (Str × D)} {v : List (Str × V)} {A : List Addr}, TrF cl H P O s d v A → ∀ a ∈ A, Ob H O a
  | _, _, _, _, .nil => fun a m => nomatch m
  | _, _, _, _, .cons a b => mem_app (Tr.ob a) (TrF.ob b)
end
theorem TrL.length : ∀ {s : Sh} {ds : List D} {vs : List V} {A : List Addr}, TrL cl H P O s ds vs A → ds.length = vs.length
  | _, _, _, _, .nil => rfl
  | _, _, _, _, .cons _ r => congrArg (· + 1) (TrL.length r)
theorem TrP.length : ∀ {s : Sh} {ds : List D} {vs : List V} {A : List Addr}, TrP cl H P O s ds vs A → ds.length = vs.length
  | _, _, _, _, .nil => rfl
  | _, _, _, _, .cons _ r => congrArg (· + 1) (TrP.length r)
theorem TrF.length : ∀ {s : Nat} {ds : List (Str × D)} {vs : List (Str × V)} {A : List Addr}, TrF cl H P O s ds vs A → ds.length = vs.length
  | _, _, _, _, .nil => rfl
  | _, _, _, _, .cons _ r => congrArg (· + 1) (TrF.length r)
theorem TrL.append : ∀ {s : Sh} {ds es : List D} {vs us : List V} {A B : List Addr}, TrL cl H P O s ds vs A → TrL cl H P O s es us B → TrL cl H P O s (ds ++ es) (vs ++ us) (A ++ B)
  | _, _, _, _, _, _, _, .nil, q => q
  | _, _, _, _, _, _, _, .cons a r, q => by rw [List.append_assoc]; exact .cons a (TrL.append r q)
theorem TrL.fz : ∀ {ds : List D} {vs : List V}, RepL cl H P ds vs → TrL cl H P O .fz ds vs []
  | _, _, .nil => .nil
  | _, _, .cons a r => .cons (.fz a) (TrL.fz r)
theorem TrL.unfz : ∀ {ds : List D} {vs : List V} {A : List Addr}, TrL cl H P O .fz ds vs A → A = [] ∧ RepL cl H P ds vs
  | _, _, _, .nil => ⟨rfl, .nil⟩
  | _, _, _, .cons (.fz a) r => let ⟨e, q⟩ := TrL.unfz r; ⟨by rw [e]; rfl, .cons a q⟩
theorem Tr.lz {p : Addr} {vs : List V} {ds : List D} (h : H p = some (.lst vs)) (o : O p) (r : RepL cl H P ds vs) : Tr cl H P O (.ls .fz) (.lst ds) (.ref p) [p] := .ls h o (TrL.fz r)
theorem Tr.unlz {d : D} {v : V} {A : List Addr} (h : Tr cl H P O (.ls .fz) d v A) : ∃ p vs ds, v = .ref p ∧ d = .lst ds ∧ A = [p] ∧ H p = some (.lst vs) ∧ O p ∧ RepL cl H P ds vs := by
  cases h with
  | ls h o r => obtain ⟨rfl, q⟩ := r.unfz; exact ⟨_, _, _, rfl, rfl, rfl, h, o, q⟩
theorem TrL.foc : ∀ {s : Sh} {ds : List D} {vs : List V} {A : List Addr} {n : Nat} {d0 : D}, TrL cl H P O s ds vs A → ds[n]? = some d0 →
    ∃ v0 L A0 R, vs[n]? = some v0 ∧ A = L ++ A0 ++ R ∧ Tr cl H P O s d0 v0 A0 ∧ ∀ {H' : Hp} {P' O' : Addr → Prop} {d1 : D} {v1 : V} {A1 : List Addr}, (∀ a o, H a = some o → P a → H' a = some o ∧ P' a) → (∀ a xs, H a = some (.tup xs) → H' a = some (.tup xs)) →
      (∀ a ∈ L ++ R, ∀ o, H a = some o → O a → H' a = some o ∧ O' a) → Tr cl H' P' O' s d1 v1 A1 → TrL cl H' P' O' s (ds.set n d1) (vs.set n v1) (L ++ A1 ++ R)
  | _, _, _, _, _, _, .nil, e => by simp at e
  | _, _, _, _, 0, _, .cons (A := A) (B := B) a r, e => by
    cases (show _ = _ from Option.some.inj e)
    exact ⟨_, [], A, B, rfl, rfl, a, fun g t q x => .cons x (r.mono g t fun y m => q y m)⟩
  | _, _, _, _, n + 1, d0, .cons (A := A) (B := B) a r, e => by
    obtain ⟨v0, L, A0, R, h1, h2, h3, h4⟩ := TrL.foc (n := n) (d0 := d0) r (by simpa using e)
    refine ⟨v0, A ++ L, A0, R, by simpa using h1, by rw [h2]; simp [List.append_assoc], h3, fun g t q x => ?_⟩
    have z := TrL.cons (a.mono g t fun y m => q y (by simp [m])) (h4 g t (fun y m => q y (by
      rcases List.mem_append.mp m with m | m <;> simp [m])) x)
    rw [List.append_assoc, List.append_assoc]
    rw [List.append_assoc] at z
    exact z
theorem TrP.foc : ∀ {s s0 : Sh} {ds : List D} {vs : List V} {A : List Addr} {d0 : D}, TrP cl H P O (.tc s0 s) (d0 :: ds) vs A →
    ∃ v0 us A0 R, vs = v0 :: us ∧ A = A0 ++ R ∧ Tr cl H P O s0 d0 v0 A0 ∧ TrP cl H P O s ds us R
  | _, _, _, _, _, _, .cons a r => ⟨_, _, _, _, rfl, rfl, a, r⟩
theorem TrF.foc : ∀ {n : Nat} {ds : List (Str × D)} {vs : List (Str × V)} {A : List Addr} {f : Str} {d0 : D}, TrF cl H P O n ds vs A → ds.lookup f = some d0 →
    ∃ v0 L A0 R, vs.lookup f = some v0 ∧ A = L ++ A0 ++ R ∧ Tr cl H P O (fldT n f) d0 v0 A0 ∧ ∀ {H' : Hp} {P' O' : Addr → Prop} {d1 : D} {v1 : V} {A1 : List Addr}, (∀ a o, H a = some o → P a → H' a = some o ∧ P' a) → (∀ a xs, H a = some (.tup xs) → H' a = some (.tup xs)) →
      (∀ a ∈ L ++ R, ∀ o, H a = some o → O a → H' a = some o ∧ O' a) → Tr cl H' P' O' (fldT n f) d1 v1 A1 → TrF cl H' P' O' n (putD f d1 ds) (putF f v1 vs) (L ++ A1 ++ R)
  | _, _, _, _, _, _, .nil, e => by simp at e
  | n, (k, d) :: ds, (_, v) :: vs, _, f, d0, .cons (A := A) (B := B) a r, e => by
    by_cases hk : k = f
    · subst hk
      have e' : d = d0 := by simpa [List.lookup] using e
      subst e'
      refine ⟨v, [], A, B, by simp [List.lookup], rfl, a, fun {H'} {P'} {O'} {d1} {v1} {A1} g t q x => ?_⟩
      have z := TrF.cons (k := k) x (r.mono g t fun y m => q y m)
      have e1 : putD k d1 ((k, d) :: ds) = (k, d1) :: ds := by simp [putD]
      have e2 : putF k v1 ((k, v) :: vs) = (k, v1) :: vs := by simp [putF]
      rw [e1, e2]
      exact z
    · have hk2 : (f == k) = false := by simpa using fun z : f = k => hk z.symm
      obtain ⟨v0, L, A0, R, h1, h2, h3, h4⟩ := TrF.foc (f := f) (d0 := d0) r (by simpa [List.lookup, hk2] using e)
      refine ⟨v0, A ++ L, A0, R, by simpa [List.lookup, hk2] using h1, by rw [h2]; simp [List.append_assoc], h3, fun {H'} {P'} {O'} {d1} {v1} {A1} g t q x => ?_⟩
      have z := TrF.cons (k := k) (a.mono g t fun y m => q y (by simp [m])) (h4 g t (fun y m => q y (by
        rcases List.mem_append.mp m with m | m <;> simp [m])) x)
      have e1 : putD f d1 ((k, d) :: ds) = (k, d) :: putD f d1 ds := by simp [putD, hk]
      have e2 : putF f v1 ((k, v) :: vs) = (k, v) :: putF f v1 vs := by simp [putF, hk]
      rw [e1, e2, List.append_assoc, List.append_assoc]
      rw [List.append_assoc] at z
      exact z
theorem TrF.new : ∀ {n : Nat} {ds : List (Str × D)} {vs : List (Str × V)} {A A1 : List Addr} {f : Str} {d1 : D} {v1 : V}, TrF cl H P O n ds vs A → ds.lookup f = none → Tr cl H P O (fldT n f) d1 v1 A1 → TrF cl H P O n (putD f d1 ds) (putF f v1 vs) (A ++ A1)
  | _, _, _, _, A1, f, _, _, .nil, _, x => by
    have z := TrF.cons (k := f) x .nil
    rw [List.append_nil] at z
    exact z
  | n, (k, d) :: ds, (_, v) :: vs, _, A1, f, d1, v1, .cons (A := A) (B := B) a r, e, x => by
    have hk : k ≠ f := fun z => by subst z; simp [List.lookup] at e
    have hk2 : (f == k) = false := by simpa using fun z : f = k => hk z.symm
    have z := TrF.cons (k := k) a (TrF.new (f := f) r (by simpa [List.lookup, hk2] using e) x)
    have e1 : putD f d1 ((k, d) :: ds) = (k, d) :: putD f d1 ds := by simp [putD, hk]
    have e2 : putF f v1 ((k, v) :: vs) = (k, v) :: putF f v1 vs := by simp [putF, hk]
    rw [e1, e2, List.append_assoc]
    exact z
end
def ScAt (cl : Nv) (H : Hp) (w : Om) (p : Addr) (ns : List Int) : Prop :=
  (Rd H p (.lst (ns.map V.int)) ∧ (w p = none ∨ w p = some .fo)) ∨ ∃ (o : Obj) (its : Array Value) (n : Nat), cl.K.lookup p = some o ∧ o.cls = .type "list" ∧ o.dict = none ∧ o.data = .seq its n ∧ its.size ≤ sizeLine ∧ Vals (ns.map V.int) its.toList
theorem ScAt.sq {cl : Nv} {H : Hp} {w : Om} {p : Addr} {ns : List Int} (h : ScAt cl H w p ns) : SqL cl.K H p (ns.map V.int) := h.elim (fun z => .inl z.1) fun z => .inr z
def OwnT (cl : Nv) (H : Hp) (w : Om) (l : Lb) (s : Sh) (d : D) (v : V) : Prop := ∃ A : List Addr, A.Nodup ∧ Tr cl H (Fz w) (fun a => w a = some l) s d v A
def Own (cl : Nv) (H : Hp) (w : Om) (i : Nat) : Mo → D → V → Prop
  | .un, _, _ => True
  | .pu, d, v => Rep cl H (Fz w) d v
  | .lo, d, v => Rep cl H (Lf w) d v
  | .pn, d, v => (v = (w.pin i).1 ∧ d = (w.pin i).2) ∧ Rep cl H (Lf w) d v
  | .sc, d, v => ∃ (p : Addr) (ns : List Int), v = .ref p ∧ d = .lst (ns.map D.int) ∧ ScAt cl H w p ns
  | .ow s, d, v => OwnT cl H w (.ow i) s d v
  | .bo s, d, v => v = (w.pin i).1 ∧ OwnT cl H w (.bo i) s d v
def isTup : HO → Bool
  | .tup _ => true
  | _ => false
theorem isTup_of {o : HO} (h : ∀ xs, o ≠ .tup xs) : isTup o = false := by
  cases o with
  | tup xs => exact absurd rfl (h xs)
  | _ => rfl
def Wf (H : Hp) (w : Om) : Prop := ∀ a l, w a = some l → ∃ o, H a = some o ∧ isTup o = false
structure StOk (cl : Nv) (H : Hp) (w : Om) (ms : List Mo) (σ : L2.St) (env : List D) : Prop where
  wf : Wf H w
  ls : σ.length = ms.length
  le : env.length = ms.length
  sl : ∀ i m, ms[i]? = some m → m ≠ .un → ∃ v d, σ[i]? = some (some v) ∧ env[i]? = some d ∧ Own cl H w i m d v

section
variable {H H' : Hp} {w w' : Om} {ms : List Mo} {σ : L2.St} {env : List D}
theorem Wf.same (h : Wf H w) (s : Same H H') : Wf H' w := fun a l e => let ⟨o, q, n⟩ := h a l e; ⟨o, s a o q, n⟩
theorem Wf.fresh (h : Wf H w) {p : Addr} (n : H p = none) : w p = none := by
  cases e : w p with
  | none => rfl
  | some l => obtain ⟨o, q, _⟩ := h p l e; rw [n] at q; cases q
theorem Wf.tup (h : Wf H w) {p : Addr} {xs : List V} (n : H p = some (.tup xs)) : w p = none := by
  cases e : w p with
  | none => rfl
  | some l => obtain ⟨o, q, z⟩ := h p l e; rw [n] at q; cases q; cases z
structure Keep (H : Hp) (w : Om) (H' : Hp) (w' : Om) : Prop where
  fz : ∀ a o, H a = some o → w a = none → H' a = some o ∧ w' a = none
  fo : ∀ a o, H a = some o → w a = some .fo → H' a = some o ∧ w' a = some .fo
  pin : w'.pin = w.pin
theorem Keep.same (s : Same H H') : Keep H w H' w := ⟨fun a o e h => ⟨s a o e, h⟩, fun a o e h => ⟨s a o e, h⟩, rfl⟩
theorem Keep.trans {H1 : Hp} {w1 : Om} (a : Keep H w H1 w1) (b : Keep H1 w1 H' w') : Keep H w H' w' :=
  ⟨fun x o e h => let ⟨e1, h1⟩ := a.fz x o e h; b.fz x o e1 h1, fun x o e h => let ⟨e1, h1⟩ := a.fo x o e h; b.fo x o e1 h1, b.pin.trans a.pin⟩
theorem Keep.tup (k : Keep H w H' w') (wf : Wf H w) : ∀ a xs, H a = some (.tup xs) → H' a = some (.tup xs) := fun a xs e => (k.fz a _ e (wf.tup e)).1
theorem Keep.rep (k : Keep H w H' w') (wf : Wf H w) {d : D} {v : V} (h : Rep cl H (Fz w) d v) : Rep cl H' (Fz w') d v := h.mono (fun a o e q => k.fz a o e q) (k.tup wf)
theorem Keep.repLo (k : Keep H w H' w') (wf : Wf H w) {d : D} {v : V} (h : Rep cl H (Lf w) d v) : Rep cl H' (Lf w') d v :=
  h.mono (fun a o e q => q.elim (fun z => let ⟨x, y⟩ := k.fz a o e z; ⟨x, .inl y⟩) fun z => let ⟨x, y⟩ := k.fo a o e z; ⟨x, .inr y⟩) (k.tup wf)
theorem OwnT.keep {l : Lb} {s : Sh} {d : D} {v : V} (k : Keep H w H' w') (wf : Wf H w) (kt : ∀ a o, H a = some o → w a = some l → H' a = some o ∧ w' a = some l) (h : OwnT cl H w l s d v) : OwnT cl H' w' l s d v := by
  obtain ⟨A, nd, t⟩ := h
  exact ⟨A, nd, t.mono (fun a o e q => k.fz a o e q) (k.tup wf) fun a _ o e q => kt a o e q⟩
theorem Own.keep {i : Nat} {m : Mo} {d : D} {v : V} (k : Keep H w H' w') (wf : Wf H w) (kt : ∀ a o, (w a = some (.ow i) ∨ w a = some (.bo i)) → H a = some o → H' a = some o ∧ w' a = w a) (h : Own cl H w i m d v) : Own cl H' w' i m d v := by
  cases m with
  | un => trivial
  | pu => exact k.rep wf h
  | lo => exact k.repLo wf h
  | pn => exact ⟨by rw [k.pin]; exact h.1, k.repLo wf h.2⟩
  | sc =>
    obtain ⟨p, ns, e1, e2, e3⟩ := h
    refine ⟨p, ns, e1, e2, ?_⟩
    rcases e3 with ⟨r, l⟩ | z
    · left
      have key : ∀ o, H p = some o → H' p = some o ∧ (w' p = none ∨ w' p = some .fo) := fun o e => by
        rcases l with l | l
        · exact ⟨(k.fz p o e l).1, .inl (k.fz p o e l).2⟩
        · exact ⟨(k.fo p o e l).1, .inr (k.fo p o e l).2⟩
      rcases r with r | ⟨o, r⟩
      · exact ⟨.inl (key _ r).1, (key _ r).2⟩
      · exact ⟨.inr ⟨o, (key _ r).1⟩, (key _ r).2⟩
    · exact .inr z
  | ow s => exact OwnT.keep k wf (fun a o e q => ⟨(kt a o (.inl q) e).1, (kt a o (.inl q) e).2.trans q⟩) h
  | bo s => exact ⟨by rw [k.pin]; exact h.1, OwnT.keep k wf (fun a o e q => ⟨(kt a o (.inr q) e).1, (kt a o (.inr q) e).2.trans q⟩) h.2⟩
theorem StOk.same (h : StOk cl H w ms σ env) (s : Same H H') : StOk cl H' w ms σ env :=
  ⟨h.wf.same s, h.ls, h.le, fun i m e n => let ⟨v, d, a, b, c⟩ := h.sl i m e n; ⟨v, d, a, b, c.keep (Keep.same s) h.wf fun a o _ q => ⟨s a o q, rfl⟩⟩⟩
end

inductive RC where
  | pu | lo | an | fr (s : Sh) | al (js : List Nat)
def FrT (cl : Nv) (H H' : Hp) (w : Om) (s : Sh) (d : D) (v : V) : Prop := ∃ A : List Addr, A.Nodup ∧ (∀ a ∈ A, H a = none) ∧ Tr cl H' (fun a => w a = none ∧ a ∉ A) (fun _ => True) s d v A
def Res (cl : Nv) (H H' : Hp) (w : Om) : RC → D → V → Prop
  | .pu, d, v => Rep cl H' (Fz w) d v
  | .lo, d, v => Rep cl H' (Lf w) d v
  | .an, d, v => Rep cl H' An d v
  | .al _, d, v => Rep cl H' An d v
  | .fr s, d, v => FrT cl H H' w s d v
section
variable {H H1 H' : Hp} {w : Om} {d : D} {v : V}
theorem FrT.same {k : Sh} (s : Same H1 H') (h : FrT cl H H1 w k d v) : FrT cl H H' w k d v := by
  obtain ⟨A, nd, fr, t⟩ := h
  exact ⟨A, nd, fr, t.mono (fun a o e q => ⟨s a o e, q⟩) (fun a xs e => s a _ e) fun a _ o e q => ⟨s a o e, q⟩⟩
theorem FrT.l1 {p : Addr} {vs : List V} {ds : List D} (h : H p = none) (h2 : H' p = some (.lst vs)) (r : RepL cl H' (fun a => w a = none ∧ a ≠ p) ds vs) : FrT cl H H' w (.ls .fz) (.lst ds) (.ref p) :=
  ⟨[p], by simp, fun a m => by rw [List.mem_singleton.mp m]; exact h, .lz h2 trivial (r.any fun a z => ⟨z.1, by simpa using z.2⟩)⟩
theorem FrT.pu {k : Sh} (wf : Wf H w) (h : FrT cl H H' w k d v) : Rep cl H' (Fz w) d v := by
  obtain ⟨A, nd, fr, t⟩ := h
  exact t.rep (fun a z => z.1) fun a m => wf.fresh (fr a m)
theorem Res.same {c : RC} (s : Same H1 H') (h : Res cl H H1 w c d v) : Res cl H H' w c d v := by
  cases c with
  | pu => exact Rep.same s h fun _ z => z
  | lo => exact Rep.same s h fun _ z => z
  | an => exact Rep.same s h fun _ z => z
  | al js => exact Rep.same s h fun _ z => z
  | fr k => exact FrT.same s h
theorem Res.an {c : RC} (wf : Wf H w) (h : Res cl H H' w c d v) : Rep cl H' An d v := by
  cases c with
  | pu => exact Rep.any h fun _ _ => trivial
  | lo => exact Rep.any h fun _ _ => trivial
  | an => exact h
  | al js => exact h
  | fr k => exact (FrT.pu wf h).any fun _ _ => trivial
def toPu : RC → Bool
  | .pu => true
  | .fr _ => true
  | _ => false
theorem Res.pu {c : RC} (wf : Wf H w) (hc : toPu c = true) (h : Res cl H H' w c d v) : Rep cl H' (Fz w) d v := by
  cases c with
  | pu => exact h
  | lo => cases hc
  | an => cases hc
  | al js => cases hc
  | fr k => exact FrT.pu wf h
def toLo : RC → Bool
  | .an => false
  | .al _ => false
  | _ => true
theorem Res.lo {c : RC} (wf : Wf H w) (hc : toLo c = true) (h : Res cl H H' w c d v) : Rep cl H' (Lf w) d v := by
  cases c with
  | pu => exact Rep.any h fun _ z => .inl z
  | lo => exact h
  | an => cases hc
  | al js => cases hc
  | fr k => exact (FrT.pu wf h).any fun _ z => .inl z
end

inductive R (α : Type) where
  | ok (a : α)
  | ex (c : String)
abbrev M (α : Type) := Option (R α)
def bd {α β : Type} (a : M α) (k : α → M β) : M β :=
  match a with
  | none => none
  | some (.ex c) => some (.ex c)
  | some (.ok x) => k x
@[simp] theorem bd_ok {α β : Type} {x : α} {k : α → M β} : bd (some (.ok x)) k = k x := rfl
@[simp] theorem bd_ex {α β : Type} {c : String} {k : α → M β} : bd (some (.ex c)) k = some (.ex c) := rfl
@[simp] theorem bd_none {α β : Type} {k : α → M β} : bd none k = none := rfl
def Xc (cl : Nv) (W : WX) (σ : L2.St) (H : Hp) {α : Type} (r : R α) : Prop := ∀ x, r = .ex x → ∀ H', Same H H' → W (.ref (cl x)) none σ H'
theorem Xc.same {W : WX} {σ : L2.St} {H H' : Hp} {α : Type} {r : R α} (h : Xc cl W σ H r) (s : Same H H') : Xc cl W σ H' r := fun x e H2 s2 => h x e H2 (s.trans s2)
def SE (cl : Nv) (W : WX) (ms : List Mo) (c : RC) (te : TE) (f : List D → M D) : Prop :=
  ∀ H w σ env, StOk cl H w ms σ env → ∀ r, f env = some r → Xc cl W σ H r → ∀ Q : VK, (∀ d, r = .ok d → ∀ H' v, Same H H' → Res cl H H' w c d v → Q v H') → te σ H Q
def SEt (cl : Nv) (W : WX) (ms : List Mo) (tt : TT) (f : List D → M Bool) : Prop :=
  ∀ H w σ env, StOk cl H w ms σ env → ∀ r, f env = some r → Xc cl W σ H r → ∀ Q : Bool → Hp → Prop, (∀ b, r = .ok b → ∀ H', Same H H' → Q b H') → tt σ H Q
inductive ResL (cl : Nv) (H H' : Hp) (w : Om) : List RC → List D → List V → Prop
  | nil : ResL cl H H' w [] [] []
  | cons {c cs d ds v vs} : Res cl H H' w c d v → ResL cl H H' w cs ds vs → ResL cl H H' w (c :: cs) (d :: ds) (v :: vs)
def SEa (cl : Nv) (W : WX) (ms : List Mo) (cs : List RC) (ta : TA) (f : List D → M (List D)) : Prop :=
  ∀ H w σ env, StOk cl H w ms σ env → ∀ r, f env = some r → Xc cl W σ H r → ∀ Q : List V → Hp → Prop, (∀ ds, r = .ok ds → ∀ H' vs, Same H H' → ResL cl H H' w cs ds vs → Q vs H') → ta σ H Q
section
variable {W : WX} {ms : List Mo} {c c1 c2 c3 : RC} {te ta tb : TE} {f g : List D → M D} {H : Hp} {w : Om} {σ : L2.St} {env : List D}
theorem SE.bind (h : SE cl W ms c te f) (st : StOk cl H w ms σ env) {β : Type} {k : D → M β} {r : R β} (e : bd (f env) k = some r) (x : Xc cl W σ H r) {Q : VK}
    (q : ∀ d H' v, Same H H' → Res cl H H' w c d v → k d = some r → Q v H') : te σ H Q := by
  cases e1 : f env with
  | none => rw [e1] at e; cases e
  | some r1 =>
    rw [e1] at e
    cases r1 with
    | ex y =>
      have e' : r = .ex y := (Option.some.inj e).symm
      refine h H w σ env st _ e1 (fun z hz H' s => ?_) Q fun d hd => nomatch hd
      cases hz
      exact x y e' H' s
    | ok d =>
      refine h H w σ env st _ e1 (fun z hz => nomatch hz) Q fun d' hd H' v s r' => ?_
      cases hd
      exact q d H' v s r' e
theorem SE.bindE (h : SE cl W ms c te f) (st : StOk cl H w ms σ env) {β : Type} {k : D → M β} {r : R β} (e : bd (f env) k = some r) (x : Xc cl W σ H r) {Q : VK}
    (q : ∀ d H' v, f env = some (.ok d) → Same H H' → Res cl H H' w c d v → k d = some r → Q v H') : te σ H Q := by
  cases e1 : f env with
  | none => rw [e1] at e; cases e
  | some r1 =>
    rw [e1] at e
    cases r1 with
    | ex y =>
      have e' : r = .ex y := (Option.some.inj e).symm
      refine h H w σ env st _ e1 (fun z hz H' s => ?_) Q fun d hd => nomatch hd
      cases hz
      exact x y e' H' s
    | ok d =>
      refine h H w σ env st _ e1 (fun z hz => nomatch hz) Q fun d' hd H' v s r' => ?_
      cases hd
      exact q d H' v e1 s r' e
theorem SEt.bind {tt : TT} {ft : List D → M Bool} (h : SEt cl W ms tt ft) (st : StOk cl H w ms σ env) {β : Type} {k : Bool → M β} {r : R β} (e : bd (ft env) k = some r) (x : Xc cl W σ H r) {Q : Bool → Hp → Prop}
    (q : ∀ d H', Same H H' → k d = some r → Q d H') : tt σ H Q := by
  cases e1 : ft env with
  | none => rw [e1] at e; cases e
  | some r1 =>
    rw [e1] at e
    cases r1 with
    | ex y =>
      have e' : r = .ex y := (Option.some.inj e).symm
      refine h H w σ env st _ e1 (fun z hz H' s => ?_) Q fun d hd => nomatch hd
      cases hz
      exact x y e' H' s
    | ok d =>
      refine h H w σ env st _ e1 (fun z hz => nomatch hz) Q fun d' hd H' s => ?_
      cases hd
      exact q d H' s e
theorem SEa.bind {cs : List RC} {tas : TA} {fa : List D → M (List D)} (h : SEa cl W ms cs tas fa) (st : StOk cl H w ms σ env) {β : Type} {k : List D → M β} {r : R β} (e : bd (fa env) k = some r) (x : Xc cl W σ H r) {Q : List V → Hp → Prop}
    (q : ∀ d H' v, Same H H' → ResL cl H H' w cs d v → k d = some r → Q v H') : tas σ H Q := by
  cases e1 : fa env with
  | none => rw [e1] at e; cases e
  | some r1 =>
    rw [e1] at e
    cases r1 with
    | ex y =>
      have e' : r = .ex y := (Option.some.inj e).symm
      refine h H w σ env st _ e1 (fun z hz H' s => ?_) Q fun d hd => nomatch hd
      cases hz
      exact x y e' H' s
    | ok d =>
      refine h H w σ env st _ e1 (fun z hz => nomatch hz) Q fun d' hd H' v s r' => ?_
      cases hd
      exact q d H' v s r' e
end
end Mv

namespace Mv
open PySem L2
variable {cl : Nv}

def LIM : Nat := 1000000
theorem LIM_le {n : Nat} (h : n ≤ LIM) : n ≤ sizeLine := Nat.le_trans h (by rw [sizeLine_eq]; decide)
theorem LIM_lt {n : Nat} (h : n ≤ LIM) : n < sizeLine := Nat.lt_of_le_of_lt h (by rw [sizeLine_eq]; decide)
def lift {α : Type} (o : Option α) : M α := o.map R.ok
@[simp] theorem lift_some {α : Type} {x : α} : lift (some x) = some (.ok x) := rfl
@[simp] theorem lift_none {α : Type} : lift (none : Option α) = none := rfl
theorem lift_ok {α : Type} {o : Option α} {r : R α} (h : lift o = some r) : ∃ x, o = some x ∧ r = .ok x := by
  cases o with
  | none => cases h
  | some x => exact ⟨x, rfl, (Option.some.inj h).symm⟩

theorem OpR.or {X : Cx} {f : Value → Value → Sem Value} {r r' : R2} (h : OpR X f r) (h' : OpR X f r') : OpR X f (fun x y H Q => r x y H Q ∨ r' x y H Q) := by
  intro pins s σ H x y v u Q I rx ry q
  rcases q with q | q
  · exact h pins s σ H x y v u Q I rx ry q
  · exact h' pins s σ H x y v u Q I rx ry q
theorem CallR.or {X : Cx} {f : Value} {r r' : List V → Hp → VK → Prop} (h : CallR X f r) (h' : CallR X f r') : CallR X f (fun x H Q => r x H Q ∨ r' x H Q) := by
  intro pins s σ H x v Q I rx q
  rcases q with q | q
  · exact h pins s σ H x v Q I rx q
  · exact h' pins s σ H x v Q I rx q
def OpS (cl : Nv) (r : R2) (op : D → D → Option D) : Prop := ∀ (H : Hp) (w : Om) (d1 : D) (v1 : V) (d2 : D) (v2 : V) (z : D) (Q : VK), Wf H w → Rep cl H An d1 v1 → Rep cl H An d2 v2 → op d1 d2 = some z →
  (∀ H' v, Same H H' → Rep cl H' (Fz w) z v → Q v H') → r v1 v2 H Q
def UnS (cl : Nv) (r : V → Hp → VK → Prop) (op : D → Option D) : Prop := ∀ (H : Hp) (w : Om) (d1 : D) (v1 : V) (z : D) (Q : VK), Wf H w → Rep cl H An d1 v1 → op d1 = some z →
  (∀ H' v, Same H H' → Rep cl H' (Fz w) z v → Q v H') → r v1 H Q
def CaS (cl : Nv) (r : List V → Hp → VK → Prop) (cs : List RC) (c : RC) (op : List D → Option D) : Prop := ∀ (H0 H : Hp) (w : Om) (ds : List D) (vs : List V) (z : D) (Q : VK), Wf H w → Same H0 H → ResL cl H0 H w cs ds vs → op ds = some z →
  (∀ H' v, Same H H' → Res cl H0 H' w c z v → Q v H') → r vs H Q
def eOp (op : D → D → Option D) (f g : List D → M D) : List D → M D := fun env => bd (f env) fun x => bd (g env) fun y => lift (op x y)
def eUn (op : D → Option D) (f : List D → M D) : List D → M D := fun env => bd (f env) fun x => lift (op x)
def eVar (i : Nat) : List D → M D := fun env => lift env[i]?
def eC (d : D) : List D → M D := fun _ => some (.ok d)
def eImm (f : List D → M D) : List D → M D := fun env => bd (f env) fun x => if imm x = true then some (.ok x) else none
def eArgs : List (List D → M D) → List D → M (List D)
  | [], _ => some (.ok [])
  | f :: fs, env => bd (f env) fun x => bd (eArgs fs env) fun xs => some (.ok (x :: xs))
def eCall (op : List D → Option D) (fs : List (List D → M D)) : List D → M D := fun env => bd (eArgs fs env) fun xs => lift (op xs)

section
variable {W : WX} {ms : List Mo} {c c1 c2 c3 : RC} {te ta tb : TE} {f g : List D → M D}
theorem OwnT.rep {H : Hp} {w : Om} {l : Lb} {k : Sh} {d : D} {v : V} (h : OwnT cl H w l k d v) : Rep cl H An d v := by
  obtain ⟨A, _, t⟩ := h
  exact t.rep (fun _ _ => trivial) fun _ _ => trivial
def rdm : Mo → Bool
  | .un => false
  | .sc => false
  | _ => true
theorem rdm_un {m : Mo} (h : rdm m = true) : m ≠ .un := fun z => by subst z; exact nomatch h
theorem Own.rep {H : Hp} {w : Om} {i : Nat} {m : Mo} {d : D} {v : V} (hm : rdm m = true) (h : Own cl H w i m d v) : Rep cl H An d v := by
  cases m with
  | un => exact nomatch hm
  | sc => exact nomatch hm
  | pu => exact Rep.any h fun _ _ => trivial
  | lo => exact Rep.any h fun _ _ => trivial
  | pn => exact Rep.any h.2 fun _ _ => trivial
  | ow k => exact OwnT.rep h
  | bo k => exact OwnT.rep h.2
theorem SE.toPu (hc : toPu c = true) (h : SE cl W ms c te f) : SE cl W ms .pu te f := fun H w σ env st r e x Q q =>
  h H w σ env st r e x Q fun d hd H' v s rs => q d hd H' v s (Res.pu st.wf hc rs)
theorem SE.toLo (hc : toLo c = true) (h : SE cl W ms c te f) : SE cl W ms .lo te f := fun H w σ env st r e x Q q =>
  h H w σ env st r e x Q fun d hd H' v s rs => q d hd H' v s (Res.lo st.wf hc rs)
theorem se_imm (h : SE cl W ms c te f) : SE cl W ms .pu te (eImm f) := fun H w σ env st r e x Q q =>
  h.bind st e x fun d H' v s rs e => by
    by_cases i : imm d = true
    · rw [if_pos i] at e
      cases e
      exact q d rfl H' v s (Rep.im i (rs.an st.wf))
    · rw [if_neg i] at e
      cases e
theorem se_var {i : Nat} {m : Mo} (hm : ms[i]? = some m) (hn : rdm m = true) : SE cl W ms .an (tVar i) (eVar i) := fun H w σ env st r e x Q q => by
  obtain ⟨d, e1, rfl⟩ := lift_ok e
  obtain ⟨v, d', a, b, o⟩ := st.sl i m hm (rdm_un hn)
  rw [b] at e1
  cases e1
  exact ⟨v, a, q _ rfl H v (Same.refl H) (o.rep hn)⟩
theorem se_var_pu {i : Nat} (hm : ms[i]? = some .pu) : SE cl W ms .pu (tVar i) (eVar i) := fun H w σ env st r e x Q q => by
  obtain ⟨d, e1, rfl⟩ := lift_ok e
  obtain ⟨v, d', a, b, o⟩ := st.sl i _ hm (by decide)
  rw [b] at e1
  cases e1
  exact ⟨v, a, q _ rfl H v (Same.refl H) o⟩
theorem se_var_lo {i : Nat} (hm : ms[i]? = some .lo) : SE cl W ms .lo (tVar i) (eVar i) := fun H w σ env st r e x Q q => by
  obtain ⟨d, e1, rfl⟩ := lift_ok e
  obtain ⟨v, d', a, b, o⟩ := st.sl i _ hm (by decide)
  rw [b] at e1
  cases e1
  exact ⟨v, a, q _ rfl H v (Same.refl H) o⟩
theorem se_var_pn {i : Nat} (hm : ms[i]? = some .pn) : SE cl W ms .lo (tVar i) (eVar i) := fun H w σ env st r e x Q q => by
  obtain ⟨d, e1, rfl⟩ := lift_ok e
  obtain ⟨v, d', a, b, o⟩ := st.sl i _ hm (by decide)
  rw [b] at e1
  cases e1
  exact ⟨v, a, q _ rfl H v (Same.refl H) o.2⟩
theorem se_int {i : Int} : SE cl W ms .pu (tC (.int i)) (eC (.int i)) := fun H w σ env st r e x Q q => by
  cases e; exact q _ rfl H _ (Same.refl H) (.int i)
theorem se_bl {i : Bool} : SE cl W ms .pu (tC (.bl i)) (eC (.bl i)) := fun H w σ env st r e x Q q => by
  cases e; exact q _ rfl H _ (Same.refl H) (.bl i)
theorem se_str {i : Str} : SE cl W ms .pu (tC (.str i)) (eC (.str i)) := fun H w σ env st r e x Q q => by
  cases e; exact q _ rfl H _ (Same.refl H) (.str i)
theorem se_non : SE cl W ms .pu (tC .non) (eC .non) := fun H w σ env st r e x Q q => by
  cases e; exact q _ rfl H _ (Same.refl H) .non
theorem se_op {r : R2} {op : D → D → Option D} (ho : OpS cl r op) (ha : SE cl W ms c1 ta f) (hb : SE cl W ms c2 tb g) : SE cl W ms .pu (tOp r ta tb) (eOp op f g) := fun H w σ env st r e x Q q =>
  ha.bind st e x fun d1 H1 v1 s1 r1 e => hb.bind (st.same s1) e (x.same s1) fun d2 H2 v2 s2 r2 e => by
    obtain ⟨z, e1, rfl⟩ := lift_ok e
    have wf2 := (st.wf.same s1).same s2
    exact ho H2 w d1 v1 d2 v2 z Q wf2 ((r1.same s2).an st.wf) (r2.an (st.wf.same s1)) e1 fun H' v s r => q z rfl H' v ((s1.trans s2).trans s) r
theorem sea_nil : SEa cl W ms [] tNil (eArgs []) := fun H w σ env st r e x Q q => by
  cases e
  exact q [] rfl H [] (Same.refl H) .nil
theorem FrT.base {H0 H H' : Hp} {w : Om} {k : Sh} {d : D} {v : V} (s : Same H0 H) (h : FrT cl H H' w k d v) : FrT cl H0 H' w k d v := by
  obtain ⟨A, nd, fr, t⟩ := h
  exact ⟨A, nd, fun a m => s.free (fr a m), t⟩
theorem Res.base {H0 H H' : Hp} {w : Om} {c : RC} {d : D} {v : V} (s : Same H0 H) (h : Res cl H H' w c d v) : Res cl H0 H' w c d v := by
  cases c with
  | pu => exact h
  | lo => exact h
  | an => exact h
  | al js => exact h
  | fr k => exact FrT.base s h
theorem ResL.base {H0 H H' : Hp} {w : Om} (s : Same H0 H) : ∀ {cs : List RC} {d : List D} {v : List V}, ResL cl H H' w cs d v → ResL cl H0 H' w cs d v
  | _, _, _, .nil => .nil
  | _, _, _, .cons a b => .cons (a.base s) (ResL.base s b)
theorem sea_cons {cs : List RC} {fs : List (List D → M D)} {tr : TA} (ha : SE cl W ms c ta f) (hb : SEa cl W ms cs tr (eArgs fs)) : SEa cl W ms (c :: cs) (tCons ta tr) (eArgs (f :: fs)) := fun H w σ env st r e x Q q =>
  ha.bind st e x fun d1 H1 v1 s1 r1 e => hb.bind (st.same s1) e (x.same s1) fun d2 H2 v2 s2 r2 e => by
    cases e
    exact q _ rfl H2 _ (s1.trans s2) (.cons (r1.same s2) (r2.base s1))
def dAdd : D → D → Option D
  | .int i, .int j => some (.int (i + j))
  | .str a, .str b => if a.length + b.length ≤ LIM then some (.str (a ++ b)) else none
  | .lst a, .lst b => if a.length + b.length ≤ LIM ∧ immL a = true ∧ immL b = true then some (.lst (a ++ b)) else none
  | .tup a, .tup b => if a.length + b.length ≤ LIM ∧ immL a = true ∧ immL b = true ∧ a ≠ [] ∧ b ≠ [] then some (.tup (a ++ b)) else none
  | _, _ => none
def rAddA (K : PySem.W.Frag) : R2 := fun x y H Q => (rI0 (fun i j => .int (i + j))) x y H Q ∨ (∃ i j, x = .str i ∧ y = .str j ∧ i.length + j.length ≤ sizeLine ∧ Q (.str (i ++ j)) H) ∨ rCat x y H Q ∨ rCatT K x y H Q
theorem op_addA {X : Cx} : OpR X (binaryOp .Add) (rAddA X.K) := OpR.or op_add (OpR.or op_add_str (OpR.or op_cat op_catT))
theorem new_same {H : Hp} {p : Addr} {o : HO} (n : H p = none) : Same H (upd H p o) := fun b u e => by rw [upd_ne (ne_of_none e n)]; exact e
theorem ops_add {K : PySem.W.Frag} : OpS cl (rAddA K) dAdd := by
  intro H w d1 v1 d2 v2 z Q wf r1 r2 e q
  cases r1 with
  | int i =>
    cases r2 with
    | int j => cases e; exact .inl ⟨i, j, rfl, rfl, q H _ (Same.refl H) (.int _)⟩
    | _ => cases e
  | str a =>
    cases r2 with
    | str b =>
      simp only [dAdd] at e
      split at e
      · rename_i h
        cases e
        exact .inr (.inl ⟨a, b, rfl, rfl, LIM_le h, q H _ (Same.refl H) (.str _)⟩)
      · cases e
    | _ => cases e
  | @lst p vs ds h1 _ ra =>
    cases r2 with
    | @lst p2 vs2 ds2 h2 _ rb =>
      simp only [dAdd] at e
      split at e
      · rename_i h
        obtain ⟨h, i1, i2⟩ := h
        cases e
        refine .inr (.inr (.inl ⟨p, p2, vs, vs2, rfl, rfl, h1, h2, LIM_le (by rw [← ra.length, ← rb.length]; exact h), fun l hl => ?_⟩))
        have s := new_same (o := .lst (vs ++ vs2)) hl
        exact q _ _ s (.lst upd_same (wf.fresh hl) (((RepL.im i1 ra).append (RepL.im i2 rb)).same s fun _ z => z))
      · cases e
    | _ => cases e
  | @tup p vs ds h1 ra =>
    cases r2 with
    | @tup p2 vs2 ds2 h2 rb =>
      simp only [dAdd] at e
      split at e
      · rename_i h
        obtain ⟨h, i1, i2, n1, n2⟩ := h
        cases e
        have m1 : vs ≠ [] := fun z => n1 (List.length_eq_zero_iff.mp (by rw [ra.length, z]; rfl))
        have m2 : vs2 ≠ [] := fun z => n2 (List.length_eq_zero_iff.mp (by rw [rb.length, z]; rfl))
        refine .inr (.inr (.inr ⟨p, p2, vs, vs2, rfl, rfl, .inl (.inl h1), .inl (.inl h2), m1, LIM_le (by rw [← ra.length, ← rb.length]; exact h), fun z => absurd z m2, fun _ l hl => ?_⟩))
        have s := new_same (o := .tup (vs ++ vs2)) hl
        exact q _ _ s (.tup upd_same (((RepL.im i1 ra).append (RepL.im i2 rb)).same s fun _ z => z))
      · cases e
    | _ => cases e
  | _ => cases e
def dI0 (g : Int → Int → Int) : D → D → Option D
  | .int i, .int j => some (.int (g i j))
  | _, _ => none
theorem ops_I0 {g : Int → Int → Int} : OpS cl (rI0 fun i j => .int (g i j)) (dI0 g) := by
  intro H w d1 v1 d2 v2 z Q wf r1 r2 e q
  cases r1 with
  | int i =>
    cases r2 with
    | int j => cases e; exact ⟨i, j, rfl, rfl, q H _ (Same.refl H) (.int _)⟩
    | _ => cases e
  | _ => cases e
abbrev dSub := dI0 fun i j => i - j
def dIc (C : Int → Int → Prop) [∀ i j, Decidable (C i j)] (g : Int → Int → Int) : D → D → Option D
  | .int i, .int j => if C i j then some (.int (g i j)) else none
  | _, _ => none
theorem ops_Ic {C : Int → Int → Prop} [∀ i j, Decidable (C i j)] {g : Int → Int → Int} : OpS cl (rI C fun i j => .int (g i j)) (dIc C g) := by
  intro H w d1 v1 d2 v2 z Q wf r1 r2 e q
  cases r1 with
  | int i =>
    cases r2 with
    | int j =>
      simp only [dIc] at e
      split at e
      · rename_i h
        cases e
        exact ⟨i, j, rfl, rfl, h, q H _ (Same.refl H) (.int _)⟩
      · cases e
    | _ => cases e
  | _ => cases e
instance : ∀ i j, Decidable (CDiv i j) := fun i j => by unfold CDiv; infer_instance
instance : ∀ i j, Decidable (CMul i j) := fun i j => by unfold CMul; infer_instance
instance : ∀ i j, Decidable (CPow i j) := fun i j => by unfold CPow; infer_instance
abbrev dDiv := dIc CDiv fun i j => i / j
abbrev dMod := dIc (fun _ j => 0 < j) fun i j => i % j
abbrev dPow := dIc CPow fun i j => i ^ j.toNat
def dMul : D → D → Option D
  | .int i, .int j => if CMul i j then some (.int (i * j)) else none
  | .lst a, .int k => if a.length * k.toNat ≤ LIM ∧ immL a = true ∧ -(2 ^ 63) ≤ k ∧ k < 2 ^ 63 then some (.lst (List.replicate k.toNat a).flatten) else none
  | _, _ => none
def rMulA : R2 := fun x y H Q => (rI CMul fun i j => .int (i * j)) x y H Q ∨ rRep x y H Q
theorem op_mulA {X : Cx} : OpR X (binaryOp .Mult) rMulA := OpR.or op_mul op_rep
theorem repL_rep {H : Hp} {P : Addr → Prop} {ds : List D} {vs : List V} (r : RepL cl H P ds vs) : ∀ n, RepL cl H P (List.replicate n ds).flatten (List.replicate n vs).flatten
  | 0 => .nil
  | n + 1 => by
    rw [List.replicate_succ, List.replicate_succ, List.flatten_cons, List.flatten_cons]
    exact r.append (repL_rep r n)
theorem ops_mul : OpS cl rMulA dMul := by
  intro H w d1 v1 d2 v2 z Q wf r1 r2 e q
  cases r1 with
  | int i =>
    cases r2 with
    | int j =>
      simp only [dMul] at e
      split at e
      · rename_i h
        cases e
        exact .inl ⟨i, j, rfl, rfl, h, q H _ (Same.refl H) (.int _)⟩
      · cases e
    | _ => cases e
  | @lst p vs ds h1 _ ra =>
    cases r2 with
    | int k =>
      simp only [dMul] at e
      split at e
      · rename_i h
        obtain ⟨h, i1, b1, b2⟩ := h
        cases e
        refine .inr ⟨p, k, vs, rfl, rfl, h1, b1, b2, LIM_le (by rw [← ra.length]; exact h), fun l hl => ?_⟩
        have s := new_same (o := .lst (List.replicate k.toNat vs).flatten) hl
        exact q _ _ s (.lst upd_same (wf.fresh hl) ((repL_rep (RepL.im i1 ra) _).same s fun _ z => z))
      · cases e
    | _ => cases e
  | _ => cases e
def dNeg : D → Option D
  | .int i => some (.int (-i))
  | _ => none
def dB0 (g : Int → Int → Bool) : D → D → Option D
  | .int i, .int j => some (.bl (g i j))
  | _, _ => none
theorem ops_B0 {g : Int → Int → Bool} : OpS cl (rI0 fun i j => .bl (g i j)) (dB0 g) := by
  intro H w d1 v1 d2 v2 z Q wf r1 r2 e q
  cases r1 with
  | int i =>
    cases r2 with
    | int j => cases e; exact ⟨i, j, rfl, rfl, q H _ (Same.refl H) (.bl _)⟩
    | _ => cases e
  | _ => cases e
abbrev dLt := dB0 fun i j => decide (i < j)
abbrev dLe := dB0 fun i j => decide (i ≤ j)
abbrev dGt := dB0 fun i j => decide (j < i)
abbrev dGe := dB0 fun i j => decide (j ≤ i)
mutual
def toPy : D → PyData
  | .non => .none
  | .bl b => .bool b
  | .int i => .int i
  | .str s => .str s
  | .lst ds => .list (toPyL ds)
  | .tup ds => .tuple (toPyL ds)
  | .dct _ => .dict []
  | .dctT _ => .dict []
  | .ins _ _ => .dict []
def toPyL : List D → List PyData
  | [] => []
  | d :: ds => toPy d :: toPyL ds
end
mutual
theorem rep_dp {K : PySem.W.Frag} {H : Hp} {P : Addr → Prop} : ∀ {d : D} {v : V}, (toPy d).canLay0 = true → Rep cl H P d v → Dp K H v (toPy d)
  | _, _, _, .non => .non
  | _, _, _, .bl b => .bl b
  | _, _, _, .int b => .int b
  | _, _, _, .str b => .str b
  | _, _, i, .lst h p r => .lst (.inl (.inl h)) (repL_dp (by simpa [toPy, PyData.canLay0] using i) r)
  | _, _, i, .tup h r => .tup (.inl (.inl h)) (repL_dp (by simpa [toPy, PyData.canLay0] using i) r)
  | _, _, i, .dct h p r => by simp [toPy, PyData.canLay0] at i
  | _, _, i, .dctT h p r => by simp [toPy, PyData.canLay0] at i
  | _, _, i, .ins h p r => by simp [toPy, PyData.canLay0] at i
theorem repL_dp {K : PySem.W.Frag} {H : Hp} {P : Addr → Prop} : ∀ {d : List D} {v : List V}, PyData.canLayAll0 (toPyL d) = true → RepL cl H P d v → DpAll K H v (toPyL d)
  | _, _, _, .nil => .nil
  | d :: ds, _, i, .cons a b => by
    have e : (toPy d).canLay0 = true ∧ PyData.canLayAll0 (toPyL ds) = true := by simpa [toPyL, PyData.canLayAll0] using i
    exact .cons (rep_dp e.1 a) (repL_dp e.2 b)
end
def dEq (d e : D) : Option D := if SeqAt.shaped (toPy d) = true ∧ SeqAt.shaped (toPy e) = true then some (.bl (PyData.eqv (toPy d) (toPy e))) else none
def dNe (d e : D) : Option D := if SeqAt.shaped (toPy d) = true ∧ SeqAt.shaped (toPy e) = true then some (.bl (!PyData.eqv (toPy d) (toPy e))) else none
theorem ops_eq {K : PySem.W.Frag} : OpS cl (rEqD K) dEq := by
  intro H w d1 v1 d2 v2 z Q wf r1 r2 e q
  unfold dEq at e
  split at e
  · rename_i h
    cases e
    exact ⟨_, _, rep_dp (SeqAt.canLay_of_shaped h.1) r1, rep_dp (SeqAt.canLay_of_shaped h.2) r2, h.1, h.2, q H _ (Same.refl H) (.bl _)⟩
  · cases e
theorem ops_ne {K : PySem.W.Frag} : OpS cl (rNeD K) dNe := by
  intro H w d1 v1 d2 v2 z Q wf r1 r2 e q
  unfold dNe at e
  split at e
  · rename_i h
    cases e
    exact ⟨_, _, rep_dp (SeqAt.canLay_of_shaped h.1) r1, rep_dp (SeqAt.canLay_of_shaped h.2) r2, h.1, h.2, q H _ (Same.refl H) (.bl _)⟩
  · cases e
def isNon : D → Bool
  | .non => true
  | _ => false
theorem rep_non {H : Hp} {P : Addr → Prop} {d : D} {v : V} (h : Rep cl H P d v) : decide (v = .non) = isNon d := by
  cases h <;> simp [isNon]
def dIsN (d e : D) : Option D := if isNon e = true then some (.bl (isNon d)) else none
def dNotN (d e : D) : Option D := if isNon e = true then some (.bl (!isNon d)) else none
abbrev rIsN : R2 := fun x y H Q => y = .non ∧ Q (.bl (decide (x = .non))) H
abbrev rNotN : R2 := fun x y H Q => y = .non ∧ Q (.bl (!decide (x = .non))) H
theorem ops_isN : OpS cl rIsN dIsN := by
  intro H w d1 v1 d2 v2 z Q wf r1 r2 e q
  cases r2 with
  | non => cases e; exact ⟨rfl, by rw [rep_non r1]; exact q H _ (Same.refl H) (.bl _)⟩
  | _ => cases e
theorem ops_notN : OpS cl rNotN dNotN := by
  intro H w d1 v1 d2 v2 z Q wf r1 r2 e q
  cases r2 with
  | non => cases e; exact ⟨rfl, by rw [rep_non r1]; exact q H _ (Same.refl H) (.bl _)⟩
  | _ => cases e
end
end Mv

namespace Mv
open PySem L2
variable {cl : Nv}
section
variable {W : WX} {ms : List Mo} {c c1 c2 c3 : RC} {te ta tb : TE} {f g : List D → M D} {K : PySem.W.Frag}

def dIx : D → D → Option D
  | .lst ds, .int i => atI ds i
  | .tup ds, .int i => atI ds i
  | .str z, .int i => if z.length ≤ LIM then (atI z.cps.toList i).map fun c => .str ⟨#[c]⟩ else none
  | _, _ => none
theorem atI_get {α : Type} {xs : List α} {i : Int} {x : α} (h : atI xs i = some x) : ∃ j, ixN xs.length i = some j ∧ xs[j]? = some x := by
  unfold atI at h
  cases e : ixN xs.length i with
  | none => rw [e] at h; cases h
  | some j => rw [e] at h; exact ⟨j, rfl, h⟩
theorem atI_of {α : Type} {xs : List α} {i : Int} {x : α} {j : Nat} (h : ixN xs.length i = some j) (g : xs[j]? = some x) : atI xs i = some x := by
  unfold atI
  rw [h]
  exact g
theorem ix_step {H : Hp} {P : Addr → Prop} {d1 d2 z : D} {v1 v2 : V} {Q : VK} {P2 : Addr → Prop} (r1 : Rep cl H P d1 v1) (r2 : Rep cl H P2 d2 v2) (e : dIx d1 d2 = some z) (q : ∀ v, Rep cl H P z v → Q v H) : rIx K v1 v2 H Q := by
  cases r1 with
  | @lst p vs ds h1 _ ra =>
    cases r2 with
    | int i =>
      obtain ⟨j, h2, h3⟩ := atI_get (show atI ds i = some z from e)
      obtain ⟨v, h4, h5⟩ := ra.get h3
      exact .inl ⟨p, vs, i, v, rfl, rfl, .inl (.inl h1), atI_of (by rw [← ra.length]; exact h2) h4, q v h5⟩
    | _ => cases e
  | @tup p vs ds h1 ra =>
    cases r2 with
    | int i =>
      obtain ⟨j, h2, h3⟩ := atI_get (show atI ds i = some z from e)
      obtain ⟨v, h4, h5⟩ := ra.get h3
      exact .inr (.inl ⟨p, vs, i, v, rfl, rfl, .inl (.inl h1), atI_of (by rw [← ra.length]; exact h2) h4, q v h5⟩)
    | _ => cases e
  | str y =>
    cases r2 with
    | int i =>
      simp only [dIx] at e
      split at e
      · rename_i h
        obtain ⟨c, h1, rfl⟩ := Option.map_eq_some_iff.mp e
        exact .inr (.inr ⟨y, i, c, rfl, rfl, LIM_le h, h1, q _ (.str _)⟩)
      · cases e
    | _ => cases e
  | _ => cases e
def ixC : RC → RC
  | .lo => .lo
  | .an => .an
  | .al _ => .an
  | _ => .pu
theorem se_ix (ha : SE cl W ms c1 ta f) (hb : SE cl W ms c2 tb g) : SE cl W ms (ixC c1) (tOp (rIx K) ta tb) (eOp dIx f g) := fun H w σ env st r e x Q q =>
  ha.bind st e x fun d1 H1 v1 s1 r1 e => hb.bind (st.same s1) e (x.same s1) fun d2 H2 v2 s2 r2 e => by
    obtain ⟨z, e1, rfl⟩ := lift_ok e
    have r2' := r2.an (st.wf.same s1)
    have r1' := r1.same s2
    cases c1 with
    | pu => exact ix_step (P := Fz w) r1' r2' e1 fun v rv => q z rfl H2 v (s1.trans s2) rv
    | lo => exact ix_step (P := Lf w) r1' r2' e1 fun v rv => q z rfl H2 v (s1.trans s2) rv
    | an => exact ix_step (P := An) r1' r2' e1 fun v rv => q z rfl H2 v (s1.trans s2) rv
    | al js => exact ix_step (P := An) r1' r2' e1 fun v rv => q z rfl H2 v (s1.trans s2) rv
    | fr k => exact ix_step (P := Fz w) (FrT.pu st.wf r1') r2' e1 fun v rv => q z rfl H2 v (s1.trans s2) rv
def dLen : List D → Option D
  | [.lst ds] => some (.int ds.length)
  | [.tup ds] => some (.int ds.length)
  | [.str s] => if s.length ≤ LIM then some (.int s.length) else none
  | [.dct ks] => some (.int ks.length)
  | _ => none
def rLenA (K : PySem.W.Frag) : List V → Hp → VK → Prop := fun xs H Q => (∃ x n, xs = [x] ∧ LenV K x H n ∧ Q (.int n) H) ∨ (∃ a kvs, xs = [V.ref a] ∧ H a = some (.dK kvs) ∧ Q (.int kvs.length) H)
theorem call_lenA {X : Cx} : CallR X (.builtin "len") (rLenA X.K) := CallR.or call_len call_lenD
theorem RepK.length {H : Hp} {P : Addr → Prop} : ∀ {ds : List (Key × D)} {vs : List (Key × V)}, RepK cl H P ds vs → ds.length = vs.length
  | _, _, .nil => rfl
  | _, _, .cons _ r => congrArg (· + 1) (RepK.length r)
theorem ResL.one {H0 H : Hp} {w : Om} {ds : List D} {vs : List V} (wf : Wf H0 w) (h : ResL cl H0 H w [c] ds vs) : ∃ d v, ds = [d] ∧ vs = [v] ∧ Rep cl H An d v := by
  cases h with
  | cons a b => cases b; exact ⟨_, _, rfl, rfl, a.an wf⟩
def CaS0 (cl : Nv) (r : List V → Hp → VK → Prop) (cs : List RC) (c : RC) (op : List D → Option D) : Prop := ∀ (H0 H : Hp) (w : Om) (ds : List D) (vs : List V) (z : D) (Q : VK), Wf H0 w → Same H0 H → ResL cl H0 H w cs ds vs → op ds = some z →
  (∀ H' v, Same H H' → Res cl H0 H' w c z v → Q v H') → r vs H Q
theorem se_call0 {r : List V → Hp → VK → Prop} {cs : List RC} {op : List D → Option D} {fs : List (List D → M D)} {tr : TA} (ho : CaS0 cl r cs c op) (hb : SEa cl W ms cs tr (eArgs fs)) : SE cl W ms c (tCB r tr) (eCall op fs) := fun H w σ env st r e x Q q =>
  hb.bind st e x fun ds H1 vs s1 r1 e => by
    obtain ⟨z, e1, rfl⟩ := lift_ok e
    exact ho H H1 w ds vs z Q st.wf s1 r1 e1 fun H' v s r => q z rfl H' v (s1.trans s) r
theorem ca_len : CaS0 cl (rLenA K) [c] .pu dLen := by
  intro H0 H w ds vs z Q wf s r e q
  obtain ⟨d, v, rfl, rfl, rr⟩ := r.one wf
  cases rr with
  | @lst p vs ds h1 _ ra => cases e; exact .inl ⟨_, vs.length, rfl, .inl ⟨vs, .inl (.inl h1), rfl⟩, by rw [← ra.length]; exact q H _ (Same.refl H) (.int _)⟩
  | @tup p vs ds h1 ra => cases e; exact .inl ⟨_, vs.length, rfl, .inr ⟨vs, .inl (.inl h1), rfl⟩, by rw [← ra.length]; exact q H _ (Same.refl H) (.int _)⟩
  | str y =>
    simp only [dLen] at e
    split at e
    · rename_i h
      cases e
      exact .inl ⟨_, y.length, rfl, ⟨LIM_le h, rfl⟩, q H _ (Same.refl H) (.int _)⟩
    · cases e
  | @dct p kvs kds h1 _ ra => cases e; exact .inr ⟨_, kvs, rfl, h1, by rw [← ra.length]; exact q H _ (Same.refl H) (.int _)⟩
  | _ => cases e
def dList : List D → Option D
  | [.lst ds] => if immL ds = true then some (.lst ds) else none
  | [.tup ds] => if immL ds = true then some (.lst ds) else none
  | _ => none
abbrev rListA (K : PySem.W.Frag) : List V → Hp → VK → Prop := fun xs H Q => ∃ p ys, xs = [.ref p] ∧ (SqL K H p ys ∨ SqT K H p ys) ∧ ∀ l, H l = none → Q (.ref l) (upd H l (.lst ys))
theorem ca_list : CaS0 cl (rListA K) [c] (.fr (.ls .fz)) dList := by
  intro H0 H w ds vs z Q wf s r e q
  obtain ⟨d, v, rfl, rfl, rr⟩ := r.one wf
  cases rr with
  | @lst p vs ds h1 _ ra =>
    simp only [dList] at e
    split at e
    · rename_i i
      cases e
      refine ⟨p, vs, rfl, .inl (.inl (.inl h1)), fun l hl => ?_⟩
      have s2 := new_same (o := .lst vs) hl
      exact q _ _ s2 (FrT.l1 (s.free hl) upd_same ((RepL.im i ra).same s2 fun _ z => z))
    · cases e
  | @tup p vs ds h1 ra =>
    simp only [dList] at e
    split at e
    · rename_i i
      cases e
      refine ⟨p, vs, rfl, .inr (.inl (.inl h1)), fun l hl => ?_⟩
      have s2 := new_same (o := .lst vs) hl
      exact q _ _ s2 (FrT.l1 (s.free hl) upd_same ((RepL.im i ra).same s2 fun _ z => z))
    · cases e
  | _ => cases e
def dInt1 (g : Int → Int) : List D → Option D
  | [.int i] => some (.int (g i))
  | _ => none
def dInt2 (g : Int → Int → Int) : List D → Option D
  | [.int i, .int j] => some (.int (g i j))
  | _ => none
abbrev dAbs := dInt1 fun i => if i < 0 then -i else i
abbrev dMax2 := dInt2 fun i j => if j > i then j else i
abbrev dMin2 := dInt2 fun i j => if j < i then j else i
def cutD (xs : List D) (lo hi : Option Int) : List D := (xs.drop (HT.sIx xs.length 0 lo)).take (HT.sIx xs.length xs.length hi - HT.sIx xs.length 0 lo)
theorem bd_bd {α β γ : Type} {a : M α} {k : α → M β} {l : β → M γ} : bd (bd a k) l = bd a fun x => bd (k x) l := by
  cases a with
  | none => rfl
  | some r => cases r <;> rfl
def toI : D → M (Option Int)
  | .int i => some (.ok (some i))
  | _ => none
def eOpt : Option (List D → M D) → List D → M (Option Int)
  | none => fun _ => some (.ok none)
  | some f => fun env => bd (f env) toI
def SEo (cl : Nv) (W : WX) (ms : List Mo) (to : TO) (fo : Option (List D → M D)) : Prop :=
  ∀ H w σ env, StOk cl H w ms σ env → ∀ {β : Type} {k : Option Int → M β} {r : R β}, bd (eOpt fo env) k = some r → Xc cl W σ H r → ∀ Q : Option Int → Hp → Prop, (∀ o H', Same H H' → k o = some r → Q o H') → to σ H Q
theorem seo_none : SEo cl W ms tNoPart none := fun H w σ env st β k r e x Q q => q none H (Same.refl H) e
theorem seo_some (ha : SE cl W ms c ta f) : SEo cl W ms (tPart ta) (some f) := fun H w σ env st β k r e x Q q => by
  have e' : bd (f env) (fun d => bd (toI d) k) = some r := bd_bd.symm.trans e
  refine ha.bind st e' x fun d H' v s rv e2 => ?_
  have rv' := rv.an st.wf
  cases rv' with
  | int i => exact ⟨i, rfl, q _ _ s e2⟩
  | _ => cases e2
def dCut (d : D) (lo hi : Option Int) : Option D := match d with
  | .lst ds => if immL ds = true then some (.lst (cutD ds lo hi)) else none
  | _ => none
def eSl (f : List D → M D) (lo hi : Option (List D → M D)) : List D → M D := fun env => bd (f env) fun d => bd (eOpt lo env) fun l => bd (eOpt hi env) fun h => lift (dCut d l h)
theorem RepL.cut {H : Hp} {P : Addr → Prop} {ds : List D} {vs : List V} (r : RepL cl H P ds vs) (lo hi : Option Int) : RepL cl H P (cutD ds lo hi) (cutV vs lo hi) := by
  unfold cutD cutV
  rw [r.length]
  exact (r.drop _).take _
theorem se_sl {tl th : TO} {lo hi : Option (List D → M D)} (ha : SE cl W ms c ta f) (hl : SEo cl W ms tl lo) (hh : SEo cl W ms th hi) : SE cl W ms (.fr (.ls .fz)) (tSl (rSlL K) ta tl th) (eSl f lo hi) := fun H w σ env st r e x Q q =>
  ha.bind st e x fun d1 H1 v1 s1 r1 e => hl H1 w σ env (st.same s1) e (x.same s1) _ fun l H2 s2 e => hh H2 w σ env ((st.same s1).same s2) e ((x.same s1).same s2) _ fun h H3 s3 e => by
    obtain ⟨z, e1, rfl⟩ := lift_ok e
    have r1' := (r1.same (s2.trans s3)).an st.wf
    cases r1' with
    | @lst p vs ds h1 _ ra =>
      simp only [dCut] at e1
      split at e1
      · rename_i i
        cases e1
        refine ⟨p, vs, rfl, .inl (.inl h1), fun n hn => ?_⟩
        have s4 := new_same (o := .lst (cutV vs l h)) hn
        have s13 := (s1.trans (s2.trans s3))
        exact q _ rfl _ _ (s13.trans s4) (FrT.l1 (s13.free hn) upd_same ((RepL.cut (RepL.im i ra) l h).same s4 fun _ z => z))
      · cases e1
    | _ => cases e1
def dCutF (d : D) (lo hi : Option Int) : Option D := match d with
  | .lst ds => some (.lst (cutD ds lo hi))
  | _ => none
def eSlF (f : List D → M D) (lo hi : Option (List D → M D)) : List D → M D := fun env => bd (f env) fun d => bd (eOpt lo env) fun l => bd (eOpt hi env) fun h => lift (dCutF d l h)
def dRev : D → Option D
  | .lst ds => if immL ds = true then some (.lst ds.reverse) else none
  | _ => none
def allPu : List RC → Bool
  | [] => true
  | c :: cs => toPu c && allPu cs
theorem ResL.pus {H0 H : Hp} {w : Om} (wf : Wf H0 w) : ∀ {cs : List RC} {ds : List D} {vs : List V}, allPu cs = true → ResL cl H0 H w cs ds vs → RepL cl H (Fz w) ds vs
  | _, _, _, _, .nil => .nil
  | c :: cs, _, _, i, .cons a b => by
    have e : toPu c = true ∧ allPu cs = true := by simpa [allPu] using i
    exact .cons (a.pu wf e.1) (ResL.pus wf e.2 b)
def eLst (fs : List (List D → M D)) : List D → M D := fun env => bd (eArgs fs env) fun ds => if ds.length ≤ LIM then some (.ok (.lst ds)) else none
def eTup (fs : List (List D → M D)) : List D → M D := fun env => bd (eArgs fs env) fun ds => if ds.length ≤ LIM then some (.ok (.tup ds)) else none
theorem se_lst {cs : List RC} {fs : List (List D → M D)} {tr : TA} (hc : allPu cs = true) (hb : SEa cl W ms cs tr (eArgs fs)) : SE cl W ms (.fr (.ls .fz)) (tLst tr) (eLst fs) := fun H w σ env st r e x Q q =>
  hb.bind st e x fun ds H1 vs s1 r1 e => by
    split at e
    · rename_i h
      cases e
      have rp := r1.pus st.wf hc
      refine ⟨LIM_le (by rw [← rp.length]; exact h), fun n hn => ?_⟩
      have s4 := new_same (o := .lst vs) hn
      exact q _ rfl _ _ (s1.trans s4) (FrT.l1 (s1.free hn) upd_same (rp.mono (fun a o e1 z => ⟨s4 a o e1, z, ne_of_none e1 hn⟩) fun a xs e1 => s4 a _ e1))
    · cases e
def eT (f : List D → M D) : List D → M Bool := fun env => bd (f env) fun d => match d with
  | .bl b => some (.ok b)
  | _ => none
theorem set_B (ha : SE cl W ms c ta f) : SEt cl W ms (tB ta) (eT f) := fun H w σ env st r e x Q q =>
  ha.bind st e x fun d1 H1 v1 s1 r1 e => by
    have r1' := r1.an st.wf
    cases r1' with
    | bl b => cases e; exact ⟨b, rfl, q b rfl H1 s1⟩
    | _ => cases e
theorem set_T (ha : SE cl W ms c ta f) : SEt cl W ms (tTest ta) (eT f) := set_B ha
def eAnd (f g : List D → M Bool) : List D → M Bool := fun env => bd (f env) fun b => if b = true then g env else some (.ok false)
def eOr (f g : List D → M Bool) : List D → M Bool := fun env => bd (f env) fun b => if b = true then some (.ok true) else g env
def eNot (f : List D → M Bool) : List D → M Bool := fun env => bd (f env) fun b => some (.ok (!b))
section
variable {t u : TT} {ft fu : List D → M Bool}
theorem set_and (ha : SEt cl W ms t ft) (hb : SEt cl W ms u fu) : SEt cl W ms (tAnd t u) (eAnd ft fu) := fun H w σ env st r e x Q q =>
  ha.bind st e x fun b H1 s1 e => by
    cases b with
    | true =>
      rw [if_pos rfl] at e
      rw [if_pos rfl]
      exact hb H1 w σ env (st.same s1) r e (x.same s1) Q fun b hb H' s => q b hb H' (s1.trans s)
    | false =>
      cases e
      rw [if_neg Bool.false_ne_true]
      exact q _ rfl H1 s1
theorem set_or (ha : SEt cl W ms t ft) (hb : SEt cl W ms u fu) : SEt cl W ms (tOr t u) (eOr ft fu) := fun H w σ env st r e x Q q =>
  ha.bind st e x fun b H1 s1 e => by
    cases b with
    | true =>
      cases e
      rw [if_pos rfl]
      exact q _ rfl H1 s1
    | false =>
      rw [if_neg Bool.false_ne_true] at e
      rw [if_neg Bool.false_ne_true]
      exact hb H1 w σ env (st.same s1) r e (x.same s1) Q fun b hb H' s => q b hb H' (s1.trans s)
theorem set_not (ha : SEt cl W ms t ft) : SEt cl W ms (tNot t) (eNot ft) := fun H w σ env st r e x Q q =>
  ha.bind st e x fun b H1 s1 e => by
    cases e
    exact q _ rfl H1 s1
def eIf (t : List D → M Bool) (f g : List D → M D) : List D → M D := fun env => bd (t env) fun b => if b = true then f env else g env
theorem se_if (ht : SEt cl W ms t ft) (ha : SE cl W ms c ta f) (hb : SE cl W ms c tb g) : SE cl W ms c (tIf t ta tb) (eIf ft f g) := fun H w σ env st r e x Q q =>
  ht.bind st e x fun b H1 s1 e => by
    cases b with
    | true =>
      rw [if_pos rfl] at e
      rw [if_pos rfl]
      exact ha H1 w σ env (st.same s1) r e (x.same s1) Q fun d hd H' v s rs => q d hd H' v (s1.trans s) (rs.base s1)
    | false =>
      rw [if_neg Bool.false_ne_true] at e
      rw [if_neg Bool.false_ne_true]
      exact hb H1 w σ env (st.same s1) r e (x.same s1) Q fun d hd H' v s rs => q d hd H' v (s1.trans s) (rs.base s1)
end
def eAndV (f g : List D → M D) : List D → M D := fun env => bd (f env) fun d => match d with
  | .bl true => g env
  | .bl false => some (.ok (.bl false))
  | _ => none
def eOrV (f g : List D → M D) : List D → M D := fun env => bd (f env) fun d => match d with
  | .bl true => some (.ok (.bl true))
  | .bl false => g env
  | _ => none
def dNot : D → Option D
  | .bl b => some (.bl (!b))
  | _ => none
theorem se_andV (ha : SE cl W ms c1 ta f) (hb : SE cl W ms .pu tb g) : SE cl W ms .pu (tAndV ta tb) (eAndV f g) := fun H w σ env st r e x Q q =>
  ha.bind st e x fun d1 H1 v1 s1 r1 e => by
    have r1' := r1.an st.wf
    cases r1' with
    | bl b =>
      cases b with
      | true => exact ⟨true, rfl, by rw [if_pos rfl]; exact hb H1 w σ env (st.same s1) r e (x.same s1) Q fun d hd H' v s rs => q d hd H' v (s1.trans s) rs⟩
      | false => cases e; exact ⟨false, rfl, by rw [if_neg Bool.false_ne_true]; exact q _ rfl H1 _ s1 (.bl _)⟩
    | _ => cases e
end
end Mv

namespace Mv
open PySem L2
variable {cl : Nv}

inductive Out where
  | nx (e : List D)
  | rt (d : D) (e : List D)
  | bk (e : List D)
  | ct (e : List D)
  | ex (c : String) (e : List D)
structure Md where
  nx : List Mo
  bk : List Mo
  ct : List Mo
  rt : List Mo
  ex : List Mo
  rc : RC
structure Kp (H : Hp) (w : Om) (H' : Hp) (w' : Om) : Prop where
  keep : Keep H w H' w'
  bo1 : ∀ a i, w a = some (.bo i) → w' a = some (.bo i)
  bo2 : ∀ a i, w' a = some (.bo i) → ∃ b, w b = some (.bo i)
theorem Kp.same {H H' : Hp} {w : Om} (s : Same H H') : Kp H w H' w := ⟨Keep.same s, fun _ _ z => z, fun a _ z => ⟨a, z⟩⟩
theorem Kp.refl {H : Hp} {w : Om} : Kp H w H w := Kp.same (Same.refl H)
theorem Kp.trans {H H1 H' : Hp} {w w1 w' : Om} (a : Kp H w H1 w1) (b : Kp H1 w1 H' w') : Kp H w H' w' :=
  ⟨a.keep.trans b.keep, fun x i z => b.bo1 x i (a.bo1 x i z), fun x i z => let ⟨y, q⟩ := b.bo2 x i z; a.bo2 y i q⟩
def Ret (cl : Nv) (H : Hp) (w : Om) : RC → D → V → Prop
  | .pu, d, v => Rep cl H (Fz w) d v
  | .lo, d, v => Rep cl H (Lf w) d v
  | .an, d, v => Rep cl H An d v
  | .al js, d, v => ∃ (p : Addr) (v0 v1 : V) (d0 d1 : D) (j : Nat) (s : Sh), d = .tup [d0, d1] ∧ v = .ref p ∧ H p = some (.tup [v0, v1]) ∧ j ∈ js ∧ v0 = (w.pin j).1 ∧ OwnT cl H w (.bo j) s d0 v0 ∧ Rep cl H (Fz w) d1 v1
  | .fr k, d, v => ∃ i, OwnT cl H w (.ow i) k d v
theorem Ret.al_an {cl : Nv} {H : Hp} {w : Om} {js : List Nat} {d : D} {v : V} (h : Ret cl H w (.al js) d v) : Rep cl H An d v := by
  obtain ⟨p, v0, v1, d0, d1, j, s, rfl, rfl, hp, _, _, o, r⟩ := h
  exact .tup hp (.cons o.rep (.cons (r.any fun _ _ => trivial) .nil))
def Post (cl : Nv) (W : WX) (m : Md) (H : Hp) (w : Om) (D : Ends) : Out → Prop
  | .nx e => ∀ H' w' σ', StOk cl H' w' m.nx σ' e → Kp H w H' w' → D.nx σ' H'
  | .bk e => ∀ H' w' σ', StOk cl H' w' m.bk σ' e → Kp H w H' w' → D.bk σ' H'
  | .ct e => ∀ H' w' σ', StOk cl H' w' m.ct σ' e → Kp H w H' w' → D.ct σ' H'
  | .rt d e => ∀ H' w' σ' v, StOk cl H' w' m.rt σ' e → Kp H w H' w' → Ret cl H' w' m.rc d v → D.rt v H'
  | .ex c e => ∀ H' w' σ', StOk cl H' w' m.ex σ' e → Kp H w H' w' → W (.ref (cl c)) none σ' H'
def SS (cl : Nv) (W : WX) (ms : List Mo) (m : Md) (ts : TS) (g : List D → Option Out) : Prop :=
  ∀ H w σ env, StOk cl H w ms σ env → ∀ o, g env = some o → ∀ D : Ends, Post cl W m H w D o → ts D σ H
theorem Post.trans {W : WX} {m : Md} {H H1 : Hp} {w w1 : Om} {D : Ends} {o : Out} (k : Kp H w H1 w1) (h : Post cl W m H w D o) : Post cl W m H1 w1 D o := by
  cases o with
  | nx e => exact fun H' w' σ' st k' => h H' w' σ' st (k.trans k')
  | bk e => exact fun H' w' σ' st k' => h H' w' σ' st (k.trans k')
  | ct e => exact fun H' w' σ' st k' => h H' w' σ' st (k.trans k')
  | rt d e => exact fun H' w' σ' v st k' => h H' w' σ' v st (k.trans k')
  | ex c e => exact fun H' w' σ' st k' => h H' w' σ' st (k.trans k')

def wk : List Mo → List Mo → Bool
  | [], [] => true
  | a :: as, b :: bs => (decide (b = .un) || decide (a = b)) && wk as bs
  | _, _ => false
theorem wk_len : ∀ {a b : List Mo}, wk a b = true → a.length = b.length
  | [], [], _ => rfl
  | a :: as, b :: bs, h => by
    have e : (decide (b = .un) || decide (a = b)) = true ∧ wk as bs = true := by simpa [wk] using h
    exact congrArg (· + 1) (wk_len e.2)
theorem wk_get : ∀ {a b : List Mo} {i : Nat} {m : Mo}, wk a b = true → b[i]? = some m → m ≠ .un → a[i]? = some m
  | [], [], _, _, _, e, _ => by simp at e
  | a :: as, b :: bs, 0, m, h, e, n => by
    have q : (b = .un ∨ a = b) ∧ wk as bs = true := by simpa [wk] using h
    simp at e
    subst e
    rcases q.1 with z | z
    · exact absurd z n
    · rw [z] <;> rfl
  | a :: as, b :: bs, i + 1, m, h, e, n => by
    have q : (b = .un ∨ a = b) ∧ wk as bs = true := by simpa [wk] using h
    exact wk_get (i := i) q.2 (by simpa using e) n
  | [], _ :: _, _, _, h, _, _ => by simp [wk] at h
section
variable {H H' H1 : Hp} {w w' : Om} {ms ms' : List Mo} {σ : L2.St} {env : List D} {W : WX} {m : Md} {c c1 c2 : RC} {te ta tb : TE} {f g : List D → M D}
theorem StOk.weak (h : StOk cl H w ms σ env) (q : wk ms ms' = true) : StOk cl H w ms' σ env :=
  ⟨h.wf, h.ls.trans (wk_len q), h.le.trans (wk_len q), fun i m e n => h.sl i m (wk_get q e n) n⟩
theorem StOk.setPu {i : Nat} {d : D} {v : V} (h : StOk cl H w ms σ env) (r : Rep cl H (Fz w) d v) : StOk cl H w (ms.set i .pu) (σ.set i (some v)) (env.set i d) := by
  refine ⟨h.wf, by simp [h.ls], by simp [h.le], fun j m e n => ?_⟩
  by_cases hj : j = i
  · subst hj
    have hl : j < ms.length := by
      have := (List.getElem?_eq_some_iff.mp e).1
      simpa using this
    rw [List.getElem?_set_self hl] at e
    cases e
    exact ⟨v, d, List.getElem?_set_self (by rw [h.ls]; exact hl), List.getElem?_set_self (by rw [h.le]; exact hl), r⟩
  · rw [List.getElem?_set_ne (Ne.symm hj)] at e
    obtain ⟨v', d', a, b, o⟩ := h.sl j m e n
    exact ⟨v', d', by rw [List.getElem?_set_ne (Ne.symm hj)]; exact a, by rw [List.getElem?_set_ne (Ne.symm hj)]; exact b, o⟩
theorem StOk.setLo {i : Nat} {d : D} {v : V} (h : StOk cl H w ms σ env) (r : Rep cl H (Lf w) d v) : StOk cl H w (ms.set i .lo) (σ.set i (some v)) (env.set i d) := by
  refine ⟨h.wf, by simp [h.ls], by simp [h.le], fun j m e n => ?_⟩
  by_cases hj : j = i
  · subst hj
    have hl : j < ms.length := by
      have := (List.getElem?_eq_some_iff.mp e).1
      simpa using this
    rw [List.getElem?_set_self hl] at e
    cases e
    exact ⟨v, d, List.getElem?_set_self (by rw [h.ls]; exact hl), List.getElem?_set_self (by rw [h.le]; exact hl), r⟩
  · rw [List.getElem?_set_ne (Ne.symm hj)] at e
    obtain ⟨v', d', a, b, o⟩ := h.sl j m e n
    exact ⟨v', d', by rw [List.getElem?_set_ne (Ne.symm hj)]; exact a, by rw [List.getElem?_set_ne (Ne.symm hj)]; exact b, o⟩
def rlb (w : Om) (A : List Addr) (l : Option Lb) : Om := ⟨fun a => if a ∈ A then l else w a, w.pin⟩
theorem rlb_in {w : Om} {A : List Addr} {l : Option Lb} {a : Addr} (h : a ∈ A) : rlb w A l a = l := if_pos h
theorem rlb_out {w : Om} {A : List Addr} {l : Option Lb} {a : Addr} (h : a ∉ A) : rlb w A l a = w a := if_neg h
def Unl (ms : List Mo) (n : Nat) : Prop := ∀ m, ms[n]? = some m → m = .un
theorem Unl.len {ms : List Mo} : Unl ms ms.length := fun m h => by simp at h
theorem Unl.set {ms : List Mo} {i : Nat} : Unl (ms.set i .un) i := fun m h => by
  by_cases hi : i < ms.length
  · rw [List.getElem?_set_self hi] at h; exact (Option.some.inj h).symm
  · rw [List.getElem?_eq_none (by simpa using hi)] at h; cases h
theorem StOk.other (h : StOk cl H w ms σ env) (k : Keep H w H' w') (wf : Wf H' w') (hw : ∀ j m a o, ms[j]? = some m → m ≠ .un → (w a = some (.ow j) ∨ w a = some (.bo j)) → H a = some o → H' a = some o ∧ w' a = w a) : StOk cl H' w' ms σ env :=
  ⟨wf, h.ls, h.le, fun i m e n => let ⟨v, d, a, b, c⟩ := h.sl i m e n; ⟨v, d, a, b, c.keep k h.wf fun a o x q => hw i m a o e n x q⟩⟩
theorem StOk.relab {n : Nat} {A : List Addr} {l : Option Lb} (h : StOk cl H w ms σ env) (hn : Unl ms n) (ha : ∀ a ∈ A, w a = some (.ow n)) : StOk cl H (rlb w A l) ms σ env ∧ Keep H w H (rlb w A l) := by
  have out : ∀ a, w a ≠ some (.ow n) → rlb w A l a = w a := fun a z => rlb_out fun m => z (ha a m)
  have k : Keep H w H (rlb w A l) := ⟨fun a o e q => ⟨e, by rw [out a (by rw [q]; intro z; cases z)]; exact q⟩, fun a o e q => ⟨e, by rw [out a (by rw [q]; intro z; cases z)]; exact q⟩, rfl⟩
  refine ⟨h.other k (fun a x e => ?_) (fun j m a o e nn x q => ⟨q, out a ?_⟩), k⟩
  · by_cases m : a ∈ A
    · exact h.wf a _ (ha a m)
    · rw [rlb_out m] at e
      exact h.wf a x e
  · intro z
    rcases x with x | x
    · rw [x] at z
      cases z
      exact nn (hn m e)
    · rw [x] at z; cases z
theorem Kp.relab {n : Nat} {A : List Addr} {l : Option Lb} (k : Keep H w H (rlb w A l)) (ha : ∀ a ∈ A, w a = some (.ow n)) (hl : ∀ i, l = some (.bo i) → ∃ b, w b = some (.bo i)) : Kp H w H (rlb w A l) := by
  refine ⟨k, fun a i z => ?_, fun a i z => ?_⟩
  · rw [rlb_out fun m => by rw [ha a m] at z; cases z]; exact z
  · by_cases m : a ∈ A
    · rw [rlb_in m] at z; exact hl i z
    · rw [rlb_out m] at z; exact ⟨a, z⟩
theorem Tr.relab {n : Nat} {A : List Addr} {l : Option Lb} {O O' : Addr → Prop} {s : Sh} {d : D} {v : V} (ha : ∀ a ∈ A, w a = some (.ow n)) (h : Tr cl H (Fz w) O s d v A) (ho : ∀ a ∈ A, O' a) : Tr cl H (Fz (rlb w A l)) O' s d v A :=
  h.mono (fun a o e q => ⟨e, (rlb_out fun m => by have z := ha a m; rw [show w a = none from q] at z; cases z).trans q⟩) (fun _ _ e => e) fun a m o e _ => ⟨e, ho a m⟩
def Tmp (cl : Nv) (H : Hp) (w : Om) (ms : List Mo) (s : Sh) (d : D) (v : V) : Prop := ∃ n, Unl ms n ∧ OwnT cl H w (.ow n) s d v
theorem StOk.put {i : Nat} {mo : Mo} {d : D} {v : V} (h : StOk cl H w ms σ env) (o : Own cl H w i mo d v) : StOk cl H w (ms.set i mo) (σ.set i (some v)) (env.set i d) := by
  refine ⟨h.wf, by simp [h.ls], by simp [h.le], fun j m e n => ?_⟩
  by_cases hj : j = i
  · subst hj
    have hl : j < ms.length := by
      have := (List.getElem?_eq_some_iff.mp e).1
      simpa using this
    rw [List.getElem?_set_self hl] at e
    cases e
    exact ⟨v, d, List.getElem?_set_self (by rw [h.ls]; exact hl), List.getElem?_set_self (by rw [h.le]; exact hl), o⟩
  · rw [List.getElem?_set_ne (Ne.symm hj)] at e
    obtain ⟨v', d', a, b, o⟩ := h.sl j m e n
    exact ⟨v', d', by rw [List.getElem?_set_ne (Ne.symm hj)]; exact a, by rw [List.getElem?_set_ne (Ne.symm hj)]; exact b, o⟩
theorem StOk.labX {s : Sh} {d : D} {v : V} (h : StOk cl H w ms σ env) (sm : Same H H') (r : FrT cl H H' w s d v) : ∃ w', StOk cl H' w' ms σ env ∧ Kp H w H' w' ∧ Tmp cl H' w' ms s d v ∧ (∀ a o, H a = some o → w' a = w a) ∧ ∃ A : List Addr, A.Nodup ∧ (∀ a ∈ A, H a = none) ∧ Tr cl H' (Fz w') (fun a => w' a = some (.ow ms.length)) s d v A := by
  obtain ⟨A, nd, fr, t⟩ := r
  have wn : ∀ a ∈ A, w a = none := fun a m => h.wf.fresh (fr a m)
  have out : ∀ a o, H a = some o → rlb w A (some (.ow ms.length)) a = w a := fun a o e => rlb_out fun m => by rw [fr a m] at e; cases e
  have k : Keep H w H' (rlb w A (some (.ow ms.length))) := ⟨fun a o e q => ⟨sm _ _ e, (out a o e).trans q⟩, fun a o e q => ⟨sm _ _ e, (out a o e).trans q⟩, rfl⟩
  refine ⟨rlb w A (some (.ow ms.length)), h.other k (fun a x e => ?_) fun j m a o _ _ _ q => ⟨sm _ _ q, out a o q⟩, ⟨k, fun a i z => ?_, fun a i z => ?_⟩, ⟨ms.length, Unl.len, A, nd, t.mono (fun a o e q => ⟨e, (rlb_out q.2).trans q.1⟩) (fun _ _ e => e) fun a m o e _ => ⟨e, rlb_in m⟩⟩, out, A, nd, fr, t.mono (fun a o e q => ⟨e, (rlb_out q.2).trans q.1⟩) (fun _ _ e => e) fun a m o e _ => ⟨e, rlb_in m⟩⟩
  · by_cases m : a ∈ A
    · obtain ⟨_, o, e2, nt⟩ := t.ob a m
      exact ⟨o, e2, isTup_of nt⟩
    · rw [rlb_out m] at e
      exact (h.wf.same sm) a x e
  · rw [rlb_out fun m => by rw [wn a m] at z; cases z]; exact z
  · by_cases m : a ∈ A
    · rw [rlb_in m] at z; cases z
    · rw [rlb_out m] at z; exact ⟨a, z⟩
theorem StOk.lab {s : Sh} {d : D} {v : V} (h : StOk cl H w ms σ env) (sm : Same H H') (r : FrT cl H H' w s d v) : ∃ w', StOk cl H' w' ms σ env ∧ Kp H w H' w' ∧ Tmp cl H' w' ms s d v :=
  let ⟨w', a, b, c, _⟩ := h.labX sm r; ⟨w', a, b, c⟩
theorem StOk.take {i : Nat} {s : Sh} {d : D} {v : V} (h : StOk cl H w ms σ env) (t : Tmp cl H w ms s d v) : ∃ w', StOk cl H w' (ms.set i (.ow s)) (σ.set i (some v)) (env.set i d) ∧ Kp H w H w' := by
  obtain ⟨n, hn, A, nd, t⟩ := t
  have ha := fun a m => (t.ob a m).1
  obtain ⟨st, k⟩ := h.relab (l := some (.ow i)) hn ha
  exact ⟨_, st.put ⟨A, nd, t.relab ha fun a m => rlb_in m⟩, Kp.relab k ha fun j z => by cases z⟩
theorem StOk.frz {s : Sh} {d : D} {v : V} (h : StOk cl H w ms σ env) (t : Tmp cl H w ms s d v) : ∃ w', StOk cl H w' ms σ env ∧ Kp H w H w' ∧ Rep cl H (Fz w') d v := by
  obtain ⟨n, hn, A, nd, t⟩ := t
  have ha := fun a m => (t.ob a m).1
  obtain ⟨st, k⟩ := h.relab (l := none) hn ha
  exact ⟨_, st, Kp.relab k ha (fun j z => by cases z), (t.relab (O' := fun _ => True) (l := none) ha fun a m => trivial).rep (fun a z => z) fun a m => rlb_in m⟩
theorem StOk.out {i : Nat} {s : Sh} (h : StOk cl H w ms σ env) (hm : ms[i]? = some (.ow s)) : ∃ v d, σ[i]? = some (some v) ∧ env[i]? = some d ∧ StOk cl H w (ms.set i .un) σ env ∧ Tmp cl H w (ms.set i .un) s d v := by
  obtain ⟨v, d, a, b, o⟩ := h.sl i _ hm (by intro z; cases z)
  refine ⟨v, d, a, b, ⟨h.wf, by simp [h.ls], by simp [h.le], fun j m e n => ?_⟩, i, Unl.set, o⟩
  by_cases hj : j = i
  · subst hj
    exact absurd (Unl.set m e) n
  · rw [List.getElem?_set_ne (Ne.symm hj)] at e
    exact h.sl j m e n

def sSeq (a b : List D → Option Out) : List D → Option Out := fun env => match a env with
  | some (.nx e) => b e
  | o => o
def sX (r : M D) (env : List D) (k : D → Option Out) : Option Out := match r with
  | some (.ok d) => k d
  | some (.ex c) => some (.ex c env)
  | none => none
@[simp] theorem sX_ok {env : List D} {k : D → Option Out} {d : D} : sX (some (.ok d)) env k = k d := rfl
@[simp] theorem sX_ex {env : List D} {k : D → Option Out} {d : String} : sX (some (.ex d)) env k = some (.ex d env) := rfl
def sSet (i : Nat) (f : List D → M D) : List D → Option Out := fun env => sX (f env) env fun d => some (.nx (env.set i d))
def sRet (f : List D → M D) : List D → Option Out := fun env => sX (f env) env fun d => some (.rt d env)
def sNext : List D → Option Out := fun env => some (.nx env)
def sBrk : List D → Option Out := fun env => some (.bk env)
def sCnt : List D → Option Out := fun env => some (.ct env)
def sDrop (f : List D → M D) : List D → Option Out := fun env => sX (f env) env fun _ => some (.nx env)
def sIf (t : List D → M Bool) (a b : List D → Option Out) : List D → Option Out := fun env => match t env with
  | some (.ok true) => a env
  | some (.ok false) => b env
  | some (.ex c) => some (.ex c env)
  | none => none
theorem SE.stm (h : SE cl W ms c te f) (st : StOk cl H w ms σ env) {k : D → Option Out} {o : Out} (e : sX (f env) env k = some o) {D : Ends} (hx : wk ms m.ex = true) (p : Post cl W m H w D o) {Q : VK}
    (q : ∀ d H' v, Same H H' → Res cl H H' w c d v → k d = some o → Q v H') : te σ H Q := by
  cases e1 : f env with
  | none => rw [e1] at e; cases e
  | some r1 =>
    rw [e1] at e
    cases r1 with
    | ex y =>
      cases e
      refine h H w σ env st _ e1 (fun z hz H' s => ?_) Q fun d hd => nomatch hd
      cases hz
      exact p H' w σ ((st.same s).weak hx) (Kp.same s)
    | ok d =>
      refine h H w σ env st _ e1 (fun z hz => nomatch hz) Q fun d' hd H' v s r' => ?_
      cases hd
      exact q d H' v s r' e
theorem ss_seq {t1 t2 : TS} {g1 g2 : List D → Option Out} (ms1 : List Mo) (h1 : SS cl W ms { m with nx := ms1 } t1 g1) (h2 : SS cl W ms1 m t2 g2) : SS cl W ms m (tSeq t1 t2) (sSeq g1 g2) := by
  intro H w σ env st o e D p
  cases e1 : g1 env with
  | none => unfold sSeq at e; rw [e1] at e; cases e
  | some o1 =>
    refine h1 H w σ env st o1 e1 _ ?_
    unfold sSeq at e
    rw [e1] at e
    cases o1 with
    | nx e2 => exact fun H' w' σ' st' k => h2 H' w' σ' e2 st' o e D (p.trans k)
    | rt d e2 => cases e; exact p
    | bk e2 => cases e; exact p
    | ct e2 => cases e; exact p
    | ex x e2 => cases e; exact p
theorem ss_set {i : Nat} (hc : toPu c = true) (h : SE cl W ms c te f) (hx : wk ms m.ex = true) (hn : wk (ms.set i .pu) m.nx = true) : SS cl W ms m (tAsg te (gName i)) (sSet i f) := by
  intro H w σ env st o e D p
  refine h.stm st e hx p fun d H' v s r e => ?_
  cases e
  exact p H' w _ (((st.same s).setPu (r.pu st.wf hc)).weak hn) (Kp.same s)
theorem ss_setO {i : Nat} {k : Sh} (h : SE cl W ms (.fr k) te f) (hx : wk ms m.ex = true) (hn : wk (ms.set i (.ow k)) m.nx = true) : SS cl W ms m (tAsg te (gName i)) (sSet i f) := by
  intro H w σ env st o e D p
  refine h.stm st e hx p fun d H' v s r e => ?_
  cases e
  obtain ⟨w1, st1, k1, t1⟩ := st.lab s r
  obtain ⟨w2, st2, k2⟩ := st1.take (i := i) t1
  exact p H' w2 _ (st2.weak hn) (k1.trans k2)
theorem ss_ret (hc : toPu c = true) (h : SE cl W ms c te f) (hx : wk ms m.ex = true) (hr : wk ms m.rt = true) (hm : m.rc = .pu := by rfl) : SS cl W ms m (tRet te) (sRet f) := by
  intro H w σ env st o e D p
  refine h.stm st e hx p fun d H' v s r e => ?_
  cases e
  exact p H' w _ v ((st.same s).weak hr) (Kp.same s) (by rw [hm]; exact r.pu st.wf hc)
theorem ss_retO {i : Nat} {k : Sh} (hi : ms[i]? = some (.ow k)) (hr : wk ms m.rt = true) (hm : m.rc = .fr k := by rfl) : SS cl W ms m (tRet (tVar i)) (sRet (eVar i)) := by
  intro H w σ env st o e D p
  obtain ⟨v, d, a, b, r⟩ := st.sl i _ hi (by intro z; cases z)
  unfold sRet eVar at e
  rw [b] at e
  cases e
  exact ⟨v, a, p H w σ v (st.weak hr) Kp.refl (by rw [hm]; exact ⟨i, r⟩)⟩
theorem ss_retF {k : Sh} (h : SE cl W ms (.fr k) te f) (hx : wk ms m.ex = true) (hr : wk ms m.rt = true) (hm : m.rc = .fr k := by rfl) : SS cl W ms m (tRet te) (sRet f) := by
  intro H w σ env st o e D p
  refine h.stm st e hx p fun d H' v s r e => ?_
  cases e
  obtain ⟨w1, st1, k1, n, _, t1⟩ := st.lab s r
  exact p H' w1 _ v (st1.weak hr) k1 (by rw [hm]; exact ⟨n, t1⟩)
theorem ss_next (hn : wk ms m.nx = true) : SS cl W ms m tNext sNext := fun H w σ env st o e D p => by
  cases e
  exact p H w σ (st.weak hn) Kp.refl
theorem ss_drop (h : SE cl W ms c te f) (hx : wk ms m.ex = true) (hn : wk ms m.nx = true) : SS cl W ms m (tDrop te) (sDrop f) := by
  intro H w σ env st o e D p
  refine h.stm st e hx p fun d H' v s r e => ?_
  cases e
  exact p H' w _ ((st.same s).weak hn) (Kp.same s)
theorem ss_if {t : TT} {ft : List D → M Bool} {t1 t2 : TS} {g1 g2 : List D → Option Out} (ht : SEt cl W ms t ft) (h1 : SS cl W ms m t1 g1) (h2 : SS cl W ms m t2 g2) (hx : wk ms m.ex = true) : SS cl W ms m (tIfS t t1 t2) (sIf ft g1 g2) := by
  intro H w σ env st o e D p
  unfold sIf at e
  cases e1 : ft env with
  | none => rw [e1] at e; cases e
  | some r1 =>
    rw [e1] at e
    cases r1 with
    | ex y =>
      cases e
      refine ht H w σ env st _ e1 (fun z hz H' s => ?_) _ fun d hd => nomatch hd
      cases hz
      exact p H' w σ ((st.same s).weak hx) (Kp.same s)
    | ok b =>
      refine ht H w σ env st _ e1 (fun z hz => nomatch hz) _ fun d' hd H' s => ?_
      cases hd
      cases b with
      | true =>
        show (if true = true then t1 D σ H' else t2 D σ H')
        rw [if_pos rfl]
        exact h1 H' w σ env (st.same s) o e D (p.trans (Kp.same s))
      | false =>
        show (if false = true then t1 D σ H' else t2 D σ H')
        rw [if_neg Bool.false_ne_true]
        exact h2 H' w σ env (st.same s) o e D (p.trans (Kp.same s))
end
end Mv

namespace Mv
open PySem L2
variable {cl : Nv}
section
variable {H H' H1 : Hp} {w w' : Om} {ms ms' : List Mo} {σ : L2.St} {env : List D} {W : WX} {m : Md} {c c1 c2 : RC} {te ta tb ti : TE} {f g fi : List D → M D} {K : PySem.W.Frag}

def Plc (cl : Nv) (H : Hp) (w : Om) (ms : List Mo) (σ : L2.St) (env : List D) (i : Nat) (s : Sh) (d0 : D) (v0 : V) (Rf : D → D) : Prop :=
  ∃ mo s' l d v L A0 R, ms[i]? = some mo ∧ (mo = Mo.ow s' ∧ l = Lb.ow i ∨ mo = Mo.bo s' ∧ l = Lb.bo i ∧ v = (w.pin i).1) ∧ σ[i]? = some (some v) ∧ env[i]? = some d ∧ (L ++ A0 ++ R).Nodup ∧ (∀ a ∈ L ++ R, w a = some l) ∧ Tr cl H (Fz w) (fun a => w a = some l) s d0 v0 A0 ∧
    ∀ {H' : Hp} {P' O' : Addr → Prop} {d1 : D} {A1 : List Addr}, (∀ a o, H a = some o → w a = none → H' a = some o ∧ P' a) → (∀ a xs, H a = some (.tup xs) → H' a = some (.tup xs)) → (∀ a ∈ L ++ R, ∀ o, H a = some o → w a = some l → H' a = some o ∧ O' a) →
      Tr cl H' P' O' s d1 v0 A1 → Tr cl H' P' O' s' (Rf d1) v (L ++ A1 ++ R)
theorem Plc.same {i : Nat} {s : Sh} {d0 : D} {v0 : V} {Rf : D → D} (h : Plc cl H w ms σ env i s d0 v0 Rf) (sm : Same H H') (wf : Wf H w) : Plc cl H' w ms σ env i s d0 v0 Rf := by
  obtain ⟨mo, s', l, d, v, L, A0, R, h1, h2, h3, h4, h5, h6, h7, h8⟩ := h
  have hf : ∀ a o, H a = some o → H' a = some o := fun a o e => sm a o e
  refine ⟨mo, s', l, d, v, L, A0, R, h1, h2, h3, h4, h5, h6, h7.mono (fun a o e q => ⟨sm _ _ e, q⟩) (fun a xs e => sm _ _ e) (fun a m o e q => ⟨sm _ _ e, q⟩), fun {H2} {P'} {O'} {d1} {A1} g t q x => h8 (fun a o e z => g a o (sm _ _ e) z) (fun a xs e => t a xs (sm _ _ e)) (fun a ma o e z => q a ma o (sm _ _ e) z) x⟩
def SP (cl : Nv) (W : WX) (ms : List Mo) (i : Nat) (s : Sh) (te : TE) (f : List D → M D) (pf : List D → Option (D → D)) : Prop :=
  ∀ H w σ env, StOk cl H w ms σ env → ∀ r, f env = some r → Xc cl W σ H r → ∀ Q : VK, (∀ d, r = .ok d → ∀ H' v, Same H H' → (∃ Rf, pf env = some Rf ∧ Plc cl H' w ms σ env i s d v Rf) → Q v H') → te σ H Q
def pVar : List D → Option (D → D) := fun _ => some fun z => z
theorem StOk.plc {i : Nat} {s : Sh} {mo : Mo} (st : StOk cl H w ms σ env) (hm : ms[i]? = some mo) (hk : mo = .ow s ∨ mo = .bo s) : ∃ v d, σ[i]? = some (some v) ∧ env[i]? = some d ∧ Plc cl H w ms σ env i s d v fun z => z := by
  have hu : mo ≠ .un := by rcases hk with rfl | rfl <;> (intro z; cases z)
  obtain ⟨v, d, a, b, o⟩ := st.sl i _ hm hu
  have fin : ∀ l, (mo = Mo.ow s ∧ l = Lb.ow i ∨ mo = Mo.bo s ∧ l = Lb.bo i ∧ v = (w.pin i).1) → OwnT cl H w l s d v → Plc cl H w ms σ env i s d v (fun z => z) := fun l hl ⟨A, nd, t⟩ =>
    ⟨mo, s, l, d, v, [], A, [], hm, hl, a, b, by simpa using nd, fun a z => absurd z (by simp), t, fun {H2} {P'} {O'} {d1} {A1} _ _ _ x => by simpa using x⟩
  refine ⟨v, d, a, b, ?_⟩
  rcases hk with rfl | rfl
  · exact fin _ (.inl ⟨rfl, rfl⟩) o
  · exact fin _ (.inr ⟨rfl, rfl, o.1⟩) o.2
theorem sp_gen {i : Nat} {s : Sh} {mo : Mo} (hm : ms[i]? = some mo) (hk : mo = .ow s ∨ mo = .bo s) : SP cl W ms i s (tVar i) (eVar i) pVar := fun H w σ env st r e x Q q => by
  obtain ⟨d, e1, rfl⟩ := lift_ok e
  obtain ⟨v, d', a, b, pl⟩ := st.plc hm hk
  rw [b] at e1
  cases e1
  exact ⟨v, a, q _ rfl H v (Same.refl H) ⟨_, rfl, pl⟩⟩
theorem sp_var {i : Nat} {s : Sh} (hm : ms[i]? = some (.ow s)) : SP cl W ms i s (tVar i) (eVar i) pVar := sp_gen hm (.inl rfl)
theorem sp_varB {i : Nat} {s : Sh} (hm : ms[i]? = some (.bo s)) : SP cl W ms i s (tVar i) (eVar i) pVar := sp_gen hm (.inr rfl)
theorem SP.bind {i : Nat} {s : Sh} {pf : List D → Option (D → D)} (h : SP cl W ms i s te f pf) (st : StOk cl H w ms σ env) {β : Type} {k : D → M β} {r : R β} (e : bd (f env) k = some r) (x : Xc cl W σ H r) {Q : VK}
    (q : ∀ d H' v Rf, Same H H' → pf env = some Rf → f env = some (.ok d) → Plc cl H' w ms σ env i s d v Rf → k d = some r → Q v H') : te σ H Q := by
  cases e1 : f env with
  | none => rw [e1] at e; cases e
  | some r1 =>
    rw [e1] at e
    cases r1 with
    | ex y =>
      have e' : r = .ex y := (Option.some.inj e).symm
      refine h H w σ env st _ e1 (fun z hz H' s => ?_) Q fun d hd => nomatch hd
      cases hz
      exact x y e' H' s
    | ok d =>
      refine h H w σ env st _ e1 (fun z hz => nomatch hz) Q fun d' hd H' v s ⟨Rf, h1, h2⟩ => ?_
      cases hd
      exact q d H' v Rf s h1 e1 h2 e
theorem Plc.an {i : Nat} {s : Sh} {d0 : D} {v0 : V} {Rf : D → D} (h : Plc cl H w ms σ env i s d0 v0 Rf) : Rep cl H An d0 v0 := by
  obtain ⟨mo, s', l, d, v, L, A0, R, h1, h2, h3, h4, h5, h6, h7, h8⟩ := h
  exact h7.rep (fun _ _ => trivial) fun _ _ => trivial
theorem Plc.unop {i : Nat} {s : Sh} {d0 : D} {v0 : V} {Rf : D → D} (h : Plc cl H w ms σ env i (.op s) d0 v0 Rf) (hd : d0 ≠ .non) : Plc cl H w ms σ env i s d0 v0 Rf := by
  obtain ⟨mo, s', l, d, v, L, A0, R, h1, h2, h3, h4, h5, h6, h7, h8⟩ := h
  cases h7 with
  | no => exact absurd rfl hd
  | so t => exact ⟨mo, s', l, d, v, L, A0, R, h1, h2, h3, h4, h5, h6, t, fun g t q x => h8 g t q (.so x)⟩
def isOp (s a : Sh) : Bool := decide (s = a) || decide (s = .op a)
theorem Plc.op {i : Nat} {s a : Sh} {d0 : D} {v0 : V} {Rf : D → D} (hs : isOp s a = true) (h : Plc cl H w ms σ env i s d0 v0 Rf) (hd : d0 ≠ .non) : Plc cl H w ms σ env i a d0 v0 Rf := by
  have hs' : s = a ∨ s = .op a := by simpa [isOp] using hs
  rcases hs' with rfl | rfl
  · exact h
  · exact h.unop hd
theorem SP.an {i : Nat} {s : Sh} {pf : List D → Option (D → D)} (h : SP cl W ms i s te f pf) : SE cl W ms .an te f := fun H w σ env st r e x Q q =>
  h H w σ env st r e x Q fun d hd H' v s ⟨_, _, pl⟩ => q d hd H' v s pl.an
theorem SP.pu {i : Nat} {pf : List D → Option (D → D)} (h : SP cl W ms i .fz te f pf) : SE cl W ms .pu te f := fun H w σ env st r e x Q q =>
  h H w σ env st r e x Q fun d hd H' v s ⟨_, _, pl⟩ => q d hd H' v s (by
    obtain ⟨mo, s', l, d, v, L, A0, R, h1, h2, h3, h4, h5, h6, h7, h8⟩ := pl
    cases h7 with
    | fz r => exact r)
def pIx (f fi : List D → M D) (pf : List D → Option (D → D)) : List D → Option (D → D) := fun env => match pf env, f env, fi env with
  | some R, some (.ok (.lst ds)), some (.ok (.int k)) => (ixN ds.length k).map fun n z => R (.lst (ds.set n z))
  | _, _, _ => none
theorem set_self {α : Type} {xs : List α} {n : Nat} {x : α} (h : xs[n]? = some x) : xs.set n x = xs := by
  obtain ⟨h1, h2⟩ := List.getElem?_eq_some_iff.mp h
  subst h2
  exact List.set_getElem_self h1
theorem Plc.ix {i : Nat} {s : Sh} {ds : List D} {v0 : V} {Rf : D → D} {n : Nat} {d1 : D} (h : Plc cl H w ms σ env i (.ls s) (.lst ds) v0 Rf) (hn : ds[n]? = some d1) :
    ∃ p vs v1, v0 = .ref p ∧ H p = some (.lst vs) ∧ ds.length = vs.length ∧ vs[n]? = some v1 ∧ Plc cl H w ms σ env i s d1 v1 (fun z => Rf (.lst (ds.set n z))) := by
  obtain ⟨mo, s', l, d, v, L, A0, R, h1, h2, h3, h4, h5, h6, h7, h8⟩ := h
  cases h7 with
  | @ls _ p vs _ A00 hp op tl =>
    obtain ⟨v1, L2, A1, R2, k1, k2, k3, k4⟩ := tl.foc hn
    subst k2
    refine ⟨p, vs, v1, rfl, hp, tl.length, k1, mo, s', l, d, v, L ++ (p :: L2), A1, R2 ++ R, h1, h2, h3, h4, ?_, ?_, k3, fun {H2} {P'} {O'} {d2} {A2} g t q x => ?_⟩
    · have z : L ++ p :: (L2 ++ A1 ++ R2) ++ R = L ++ (p :: L2) ++ A1 ++ (R2 ++ R) := by simp [List.append_assoc]
      rw [← z]; exact h5
    · intro a ma
      have ob := tl.ob
      simp only [List.mem_append, List.mem_cons] at ma ob h6
      rcases ma with (ma | rfl | ma) | ma | ma
      · exact h6 a (.inl ma)
      · exact op
      · exact (ob a (.inl (.inl ma))).1
      · exact (ob a (.inr ma)).1
      · exact h6 a (.inr ma)
    · have hp2 := q p (by simp) _ hp op
      have z := h8 (A1 := p :: (L2 ++ A2 ++ R2)) (d1 := .lst (ds.set n d2)) (H' := H2) (P' := P') (O' := O') g t (fun a ma o e y => q a (by
        simp only [List.mem_append, List.mem_cons] at ma ⊢
        rcases ma with ma | ma
        · exact .inl (.inl ma)
        · exact .inr (.inr ma)) o e y) (.ls hp2.1 hp2.2 (by
          have k5 := k4 (v1 := v1) g t (fun a ma o e y => q a (by
            simp only [List.mem_append, List.mem_cons] at ma ⊢
            rcases ma with ma | ma
            · exact .inl (.inr (.inr ma))
            · exact .inr (.inl ma)) o e y) x
          rw [set_self k1] at k5
          exact k5))
      have z2 : L ++ p :: (L2 ++ A2 ++ R2) ++ R = L ++ (p :: L2) ++ A2 ++ (R2 ++ R) := by simp [List.append_assoc]
      rw [← z2]; exact z
theorem sp_ix {i : Nat} {s s0 : Sh} {pf : List D → Option (D → D)} (h : SP cl W ms i s0 te f pf) (hi : SE cl W ms c ti fi) (hs : isOp s0 (.ls s) = true := by rfl) : SP cl W ms i s (tOp (rIx K) te ti) (eOp dIx f fi) (pIx f fi pf) := fun H w σ env st r e x Q q =>
  h.bind st e x fun d1 H1 v1 Rf s1 hp hf pl e =>
    hi.bindE (st.same s1) e (x.same s1) fun d2 H2 v2 hfi s2 r2' e => by
      obtain ⟨z, e1, rfl⟩ := lift_ok e
      have pl2 := pl.same s2 (st.wf.same s1)
      have rv2 := r2'.an (st.wf.same s1)
      cases rv2 with
      | int k =>
        have hd : d1 ≠ .non := fun z => by subst z; cases e1
        have pl3 := pl2.op hs hd
        have hl : ∃ ds, d1 = .lst ds := by
          obtain ⟨mo, s', l, d, v, L, A0, R, h1, h2, h3, h4, h5, h6, h7, h8⟩ := pl3
          cases h7 with
          | ls hp op tl => exact ⟨_, rfl⟩
        obtain ⟨ds, rfl⟩ := hl
        obtain ⟨n, h2, h3⟩ := atI_get (show atI ds k = some z from e1)
        obtain ⟨p, vs, u, rfl, h4, h5, h6, pl4⟩ := pl3.ix h3
        exact .inl ⟨p, vs, k, u, rfl, rfl, .inl (.inl h4), atI_of (by rw [← h5]; exact h2) h6, q z rfl H2 u (s1.trans s2) ⟨_, by unfold pIx; rw [hp, hf, hfi]; show (ixN ds.length k).map _ = _; rw [h2]; rfl, pl4⟩⟩
      | _ => cases d1 <;> cases e1
def dFld (c : String) (n : Str) : D → Option D
  | .ins c' fs => if c' = c then fs.lookup n else none
  | _ => none
def pFd (n : Str) (f : List D → M D) (pf : List D → Option (D → D)) : List D → Option (D → D) := fun env => match pf env, f env with
  | some R, some (.ok (.ins c fs)) => some fun z => R (.ins c (putD n z fs))
  | _, _ => none
theorem putF_self {α : Type} {f : Str} {v : V} : ∀ {fs : List (Str × V)}, fs.lookup f = some v → putF f v fs = fs
  | [], h => by simp at h
  | (k, u) :: fs, h => by
    by_cases hk : k = f
    · subst hk
      have : u = v := by simpa [List.lookup] using h
      subst this
      simp [putF]
    · have hk2 : (f == k) = false := by simpa using fun z : f = k => hk z.symm
      have := putF_self (α := α) (f := f) (fs := fs) (by simpa [List.lookup, hk2] using h)
      simp [putF, hk, this]
theorem Plc.fd {i n : Nat} {nm : Str} {cc : String} {fds : List (Str × D)} {v0 : V} {Rf : D → D} {d1 : D} (h : Plc cl H w ms σ env i (.io n) (.ins cc fds) v0 Rf) (hn : fds.lookup nm = some d1) :
    ∃ p dx fs v1, v0 = .ref p ∧ H p = some (.ins (cl cc) dx fs) ∧ fs.lookup nm = some v1 ∧ Plc cl H w ms σ env i (fldT n nm) d1 v1 (fun z => Rf (.ins cc (putD nm z fds))) := by
  obtain ⟨mo, s', l, d, v, L, A0, R, h1, h2, h3, h4, h5, h6, h7, h8⟩ := h
  cases h7 with
  | @io _ p _ dx fs _ A00 hp op tl =>
    obtain ⟨v1, L2, A1, R2, k1, k2, k3, k4⟩ := tl.foc hn
    subst k2
    refine ⟨p, dx, fs, v1, rfl, hp, k1, mo, s', l, d, v, L ++ (p :: L2), A1, R2 ++ R, h1, h2, h3, h4, ?_, ?_, k3, fun {H2} {P'} {O'} {d2} {A2} g t q x => ?_⟩
    · have z : L ++ p :: (L2 ++ A1 ++ R2) ++ R = L ++ (p :: L2) ++ A1 ++ (R2 ++ R) := by simp [List.append_assoc]
      rw [← z]; exact h5
    · intro a ma
      have ob := tl.ob
      simp only [List.mem_append, List.mem_cons] at ma ob h6
      rcases ma with (ma | rfl | ma) | ma | ma
      · exact h6 a (.inl ma)
      · exact op
      · exact (ob a (.inl (.inl ma))).1
      · exact (ob a (.inr ma)).1
      · exact h6 a (.inr ma)
    · have hp2 := q p (by simp) _ hp op
      have z := h8 (A1 := p :: (L2 ++ A2 ++ R2)) (d1 := .ins cc (putD nm d2 fds)) (H' := H2) (P' := P') (O' := O') g t (fun a ma o e y => q a (by
        simp only [List.mem_append, List.mem_cons] at ma ⊢
        rcases ma with ma | ma
        · exact .inl (.inl ma)
        · exact .inr (.inr ma)) o e y) (.io hp2.1 hp2.2 (by
          have k5 := k4 (v1 := v1) g t (fun a ma o e y => q a (by
            simp only [List.mem_append, List.mem_cons] at ma ⊢
            rcases ma with ma | ma
            · exact .inl (.inr (.inr ma))
            · exact .inr (.inl ma)) o e y) x
          rw [putF_self (α := Unit) k1] at k5
          exact k5))
      have z2 : L ++ p :: (L2 ++ A2 ++ R2) ++ R = L ++ (p :: L2) ++ A2 ++ (R2 ++ R) := by simp [List.append_assoc]
      rw [← z2]; exact z
theorem Plc.io {i n : Nat} {d0 : D} {v0 : V} {Rf : D → D} (h : Plc cl H w ms σ env i (.io n) d0 v0 Rf) : ∃ c fs, d0 = .ins c fs := by
  obtain ⟨mo, s', l, d, v, L, A0, R, h1, h2, h3, h4, h5, h6, h7, h8⟩ := h
  cases h7 with
  | io hp op tl => exact ⟨_, _, rfl⟩
theorem Plc.ls {i : Nat} {s : Sh} {d0 : D} {v0 : V} {Rf : D → D} (h : Plc cl H w ms σ env i (.ls s) d0 v0 Rf) : ∃ ds p vs, d0 = .lst ds ∧ v0 = .ref p ∧ H p = some (.lst vs) ∧ ds.length = vs.length := by
  obtain ⟨mo, s', l, d, v, L, A0, R, h1, h2, h3, h4, h5, h6, h7, h8⟩ := h
  cases h7 with
  | ls hp op tl => exact ⟨_, _, _, rfl, rfl, hp, tl.length⟩
theorem Plc.wr {i n : Nat} {s : Sh} {d0 : D} {p : Addr} {Rf : D → D} {B : List Addr} {o' : HO} {d1 : D} (pl : Plc cl H w ms σ env i s d0 (.ref p) Rf) (st : StOk cl H w ms σ env) (hn : Unl ms n) (nt : isTup o' = false) (nb : B.Nodup) (hb : ∀ a ∈ B, w a = some (.ow n))
    (mk : ∀ l A0, l ≠ Lb.fo → A0.Nodup → Tr cl H (Fz w) (fun a => w a = some l) s d0 (.ref p) A0 → (∀ a ∈ A0, a ∉ B) → p ∈ A0 ∧ ((∀ {s2 : Sh} {d2 : D} {v2 : V} {A2 : List Addr}, p ∉ A2 → (∀ a ∈ A2, w a = some l ∨ a ∈ B) → (∀ {O : Addr → Prop}, Tr cl H (Fz w) O s2 d2 v2 A2 → Tr cl (upd H p o') (Fz (rlb w B (some l))) (fun a => rlb w B (some l) a = some l) s2 d2 v2 A2)) →
      (∀ {s2 : Sh} {d2 : List D} {v2 : List V} {A2 : List Addr}, p ∉ A2 → (∀ a ∈ A2, w a = some l ∨ a ∈ B) → (∀ {O : Addr → Prop}, TrL cl H (Fz w) O s2 d2 v2 A2 → TrL cl (upd H p o') (Fz (rlb w B (some l))) (fun a => rlb w B (some l) a = some l) s2 d2 v2 A2)) →
      (∀ {s2 : Nat} {d2 : List (Str × D)} {v2 : List (Str × V)} {A2 : List Addr}, p ∉ A2 → (∀ a ∈ A2, w a = some l ∨ a ∈ B) → (∀ {O : Addr → Prop}, TrF cl H (Fz w) O s2 d2 v2 A2 → TrF cl (upd H p o') (Fz (rlb w B (some l))) (fun a => rlb w B (some l) a = some l) s2 d2 v2 A2)) →
      (∀ {d v}, Rep cl H (Fz w) d v → Rep cl (upd H p o') (Fz (rlb w B (some l))) d v) → rlb w B (some l) p = some l →
      ∃ A1 : List Addr, A1.Nodup ∧ (∀ a ∈ A1, a ∈ A0 ∨ a ∈ B) ∧ Tr cl (upd H p o') (Fz (rlb w B (some l))) (fun a => rlb w B (some l) a = some l) s d1 (.ref p) A1)) :
    ∃ w1, StOk cl (upd H p o') w1 ms σ (env.set i (Rf d1)) ∧ Kp H w (upd H p o') w1 := by
  obtain ⟨mo, s', l, d, v, L, A0, R, h1, h2, h3, h4, h5, h6, h7, h8⟩ := pl
  have hu : mo ≠ .un := by rcases h2 with ⟨rfl, _⟩ | ⟨rfl, _⟩ <;> (intro z; cases z)
  have hl : l ≠ .ow n := by
    intro z
    subst z
    rcases h2 with ⟨rfl, e⟩ | ⟨rfl, e, _⟩
    · cases e
      exact hu (hn _ h1)
    · cases e
  have hfo : l ≠ .fo := by rcases h2 with ⟨_, e⟩ | ⟨_, e, _⟩ <;> (rw [e]; intro z; cases z)
  have nin : ∀ a, w a = some l → a ∉ B := fun a q m => by rw [hb a m] at q; cases q; exact hl rfl
  obtain ⟨hp, mk⟩ := mk l A0 hfo (List.nodup_append.mp (List.nodup_append.mp h5).1).2.1 h7 fun a m => nin a (h7.ob a m).1
  have hwp : w p = some l := (h7.ob p hp).1
  have out : ∀ a, a ∉ B → rlb w B (some l) a = w a := fun a m => rlb_out m
  have k : Keep H w (upd H p o') (rlb w B (some l)) := by
    refine ⟨fun a o e q => ⟨?_, ?_⟩, fun a o e q => ⟨?_, ?_⟩, rfl⟩
    · rw [upd_ne fun z : a = p => by subst z; rw [hwp] at q; cases q]; exact e
    · rw [out a fun m => by rw [hb a m] at q; cases q]; exact q
    · rw [upd_ne fun z : a = p => by subst z; rw [hwp] at q; exact hfo (Option.some.inj q)]; exact e
    · rw [out a fun m => by rw [hb a m] at q; cases q]; exact q
  have lb2 : ∀ a, w a = some l ∨ a ∈ B → rlb w B (some l) a = some l := fun a z => by
    by_cases m : a ∈ B
    · exact rlb_in m
    · rw [out a m]; exact z.resolve_right m
  have wf2 : Wf (upd H p o') (rlb w B (some l)) := fun a x e => by
    by_cases ha : a = p
    · subst ha; exact ⟨o', upd_same, nt⟩
    · rw [upd_ne ha]
      by_cases m : a ∈ B
      · exact st.wf a _ (hb a m)
      · rw [out a m] at e; exact st.wf a x e
  have fzn : ∀ a o, H a = some o → w a = none → upd H p o' a = some o ∧ rlb w B (some l) a = none := fun a o e q => k.fz a o e q
  obtain ⟨A1, n1, sub, t1⟩ := mk (fun {s2 d2 v2 A2} h1 h2 {O} t => t.mono (fun a o e q => fzn a o e q) (fun a xs e => k.tup st.wf a xs e) fun a m o e _ => ⟨by rw [upd_ne fun z : a = p => h1 (z ▸ m)]; exact e, lb2 a (h2 a m)⟩)
    (fun {s2 d2 v2 A2} h1 h2 {O} t => t.mono (fun a o e q => fzn a o e q) (fun a xs e => k.tup st.wf a xs e) fun a m o e _ => ⟨by rw [upd_ne fun z : a = p => h1 (z ▸ m)]; exact e, lb2 a (h2 a m)⟩)
    (fun {s2 d2 v2 A2} h1 h2 {O} t => t.mono (fun a o e q => fzn a o e q) (fun a xs e => k.tup st.wf a xs e) fun a m o e _ => ⟨by rw [upd_ne fun z : a = p => h1 (z ▸ m)]; exact e, lb2 a (h2 a m)⟩)
    (fun {d v} r => k.rep st.wf r) (lb2 p (.inl hwp))
  have pnL : p ∉ L ++ R := fun m => by
    rw [List.append_assoc, List.nodup_append] at h5
    rcases List.mem_append.mp m with m | m
    · exact h5.2.2 p m p (List.mem_append_left _ hp) rfl
    · exact (List.nodup_append.mp h5.2.1).2.2 p hp p m rfl
  have tr2 := h8 (H' := upd H p o') (P' := Fz (rlb w B (some l))) (O' := fun a => rlb w B (some l) a = some l) fzn (fun a xs e => k.tup st.wf a xs e) (fun a m o e q => ⟨by rw [upd_ne fun z : a = p => pnL (z ▸ m)]; exact e, lb2 a (.inl q)⟩) t1
  have nd2 : (L ++ A1 ++ R).Nodup := by
    rw [List.append_assoc, List.nodup_append] at h5 ⊢
    obtain ⟨q1, q2, q3⟩ := h5
    obtain ⟨q4, q5, q6⟩ := List.nodup_append.mp q2
    have low : ∀ a ∈ L ++ R, a ∉ A1 := fun a m m1 => by
      rcases sub a m1 with m2 | m2
      · rcases List.mem_append.mp m with m | m
        · exact q3 a m a (List.mem_append_left _ m2) rfl
        · exact q6 a m2 a m rfl
      · exact nin a (h6 a m) m2
    refine ⟨q1, List.nodup_append.mpr ⟨n1, q5, fun a m b m2 z => ?_⟩, fun a m b m2 z => ?_⟩
    · subst z; exact low a (List.mem_append_right _ m2) m
    · subst z
      rcases List.mem_append.mp m2 with m2 | m2
      · exact low a (List.mem_append_left _ m) m2
      · exact q3 a m a (List.mem_append_right _ m2) rfl
  have bo2 : ∀ a j, rlb w B (some l) a = some (.bo j) → ∃ b, w b = some (.bo j) := fun a j z => by
    by_cases m : a ∈ B
    · rw [rlb_in m] at z
      cases z
      exact ⟨p, hwp⟩
    · rw [out a m] at z; exact ⟨a, z⟩
  refine ⟨rlb w B (some l), ⟨wf2, st.ls, by simp [st.le], fun j mj e nn => ?_⟩, ⟨k, fun a j z => ?_, bo2⟩⟩
  · by_cases hj : j = i
    · subst hj
      rw [h1] at e
      cases e
      have hlt : j < env.length := (List.getElem?_eq_some_iff.mp h4).1
      refine ⟨v, Rf d1, h3, List.getElem?_set_self hlt, ?_⟩
      rcases h2 with ⟨rfl, e⟩ | ⟨rfl, e, e2⟩
      · subst e; exact ⟨_, nd2, tr2⟩
      · subst e; exact ⟨e2, _, nd2, tr2⟩
    · obtain ⟨v', d', a, b, o⟩ := st.sl j mj e nn
      refine ⟨v', d', a, by rw [List.getElem?_set_ne (Ne.symm hj)]; exact b, o.keep k st.wf fun a oa y ea => ⟨?_, ?_⟩⟩
      · rw [upd_ne fun z : a = p => ?_]
        · exact ea
        · subst z
          rw [hwp] at y
          rcases h2 with ⟨_, e⟩ | ⟨_, e, _⟩ <;> (subst e; rcases y with y | y <;> (injection y with y; first | (injection y with y; exact hj y.symm) | cases y))
      · refine out a fun m => ?_
        have z := hb a m
        rcases y with y | y
        · rw [y] at z
          cases z
          exact nn (hn _ e)
        · rw [y] at z; cases z
  · rw [out a fun m => by rw [hb a m] at z; cases z]; exact z
end
end Mv

namespace Mv
open PySem L2
variable {cl : Nv}
abbrev RE := Option (R D × List D)
def bnd63 (k : Int) : Bool := decide (-9223372036854775808 ≤ k) && decide (k < 9223372036854775808)
theorem bnd63_of {k : Int} (h : bnd63 k = true) : -(2 ^ 63) ≤ k ∧ k < 2 ^ 63 := by
  unfold bnd63 at h
  rw [Bool.and_eq_true, decide_eq_true_eq, decide_eq_true_eq] at h
  omega
theorem bnd63_ok {k : Int} (h0 : -1000000000000 ≤ k) (h1 : k ≤ 1000000000000) : bnd63 k = true := by
  unfold bnd63
  rw [Bool.and_eq_true, decide_eq_true_eq, decide_eq_true_eq]
  omega
def ResE (cl : Nv) (H : Hp) (w : Om) (ms : List Mo) : RC → D → V → Prop
  | .pu, d, v => Rep cl H (Fz w) d v
  | .lo, d, v => Rep cl H (Lf w) d v
  | .an, d, v => Rep cl H An d v
  | .al _, d, v => Rep cl H An d v
  | .fr s, d, v => Tmp cl H w ms s d v
def SEE (cl : Nv) (W : WX) (ms mn mx : List Mo) (c : RC) (te : TE) (f : List D → RE) : Prop :=
  ∀ H w σ env, StOk cl H w ms σ env → ∀ r e, f env = some (r, e) → (∀ x, r = .ex x → ∀ H' w', StOk cl H' w' mx σ e → Kp H w H' w' → W (.ref (cl x)) none σ H') → ∀ Q : VK,
    (∀ d, r = .ok d → ∀ H' w' v, StOk cl H' w' mn σ e → Kp H w H' w' → ResE cl H' w' mn c d v → Q v H') → te σ H Q
def pureE (f : List D → M D) : List D → RE := fun env => (f env).map fun r => (r, env)
section
variable {H H' H1 : Hp} {w w' : Om} {ms mn mx ms' m1 m2 : List Mo} {σ : L2.St} {env : List D} {W : WX} {m : Md} {c c1 c2 : RC} {te ta tb ti tg : TE} {f g fi : List D → M D} {fe ge : List D → RE} {K : PySem.W.Frag} {s : Sh} {i : Nat} {pf : List D → Option (D → D)}
def eMv (i : Nat) : List D → RE := fun env => env[i]?.map fun d => (.ok d, env)
def bE {β : Type} (a : RE) (k : D → List D → Option (R β × List D)) : Option (R β × List D) := match a with
  | none => none
  | some (.ex c, e) => some (.ex c, e)
  | some (.ok d, e) => k d e
@[simp] theorem bE_ok {β : Type} {d : D} {e : List D} {k : D → List D → Option (R β × List D)} : bE (some (.ok d, e)) k = k d e := rfl
@[simp] theorem bE_ex {β : Type} {d : String} {e : List D} {k : D → List D → Option (R β × List D)} : bE (some (.ex d, e)) k = some (.ex d, e) := rfl
theorem SEE.bind {β : Type} (h : SEE cl W ms mn mx c te fe) (st : StOk cl H w ms σ env) {k : D → List D → Option (R β × List D)} {r : R β} {e : List D} (he : bE (fe env) k = some (r, e)) (x : ∀ x, r = .ex x → ∀ H' w', StOk cl H' w' mx σ e → Kp H w H' w' → W (.ref (cl x)) none σ H') {Q : VK}
    (q : ∀ d e1 H' w' v, StOk cl H' w' mn σ e1 → Kp H w H' w' → ResE cl H' w' mn c d v → k d e1 = some (r, e) → Q v H') : te σ H Q := by
  cases e1 : fe env with
  | none => rw [e1] at he; cases he
  | some p =>
    obtain ⟨r1, e2⟩ := p
    rw [e1] at he
    cases r1 with
    | ex y =>
      cases he
      exact h H w σ env st _ _ e1 (fun z hz => by cases hz; exact x y rfl) Q fun d hd => nomatch hd
    | ok d =>
      exact h H w σ env st _ _ e1 (fun z hz => nomatch hz) Q fun d' hd H' w' v st' k' r' => by
        cases hd
        exact q d e2 H' w' v st' k' r' he
def sE (a : RE) (k : D → List D → Option Out) : Option Out := match a with
  | none => none
  | some (.ex c, e) => some (.ex c e)
  | some (.ok d, e) => k d e
@[simp] theorem sE_ok {d : D} {e : List D} {k : D → List D → Option Out} : sE (some (.ok d, e)) k = k d e := rfl
@[simp] theorem sE_ex {d : String} {e : List D} {k : D → List D → Option Out} : sE (some (.ex d, e)) k = some (.ex d e) := rfl
theorem SEE.stm (h : SEE cl W ms mn m.ex c te fe) (st : StOk cl H w ms σ env) {k : D → List D → Option Out} {o : Out} (he : sE (fe env) k = some o) {D : Ends} (p : Post cl W m H w D o) {Q : VK}
    (q : ∀ d e1 H' w' v, StOk cl H' w' mn σ e1 → Kp H w H' w' → ResE cl H' w' mn c d v → k d e1 = some o → Q v H') : te σ H Q := by
  cases e1 : fe env with
  | none => rw [e1] at he; cases he
  | some p1 =>
    obtain ⟨r1, e2⟩ := p1
    rw [e1] at he
    cases r1 with
    | ex y =>
      cases he
      exact h H w σ env st _ _ e1 (fun z hz H' w' st' k' => by cases hz; exact p H' w' σ st' k') Q fun d hd => nomatch hd
    | ok d =>
      exact h H w σ env st _ _ e1 (fun z hz => nomatch hz) Q fun d' hd H' w' v st' k' r' => by
        cases hd
        exact q d e2 H' w' v st' k' r' he
def sSetE (i : Nat) (fe : List D → RE) : List D → Option Out := fun env => sE (fe env) fun d e => some (.nx (e.set i d))
def sRetE (fe : List D → RE) : List D → Option Out := fun env => sE (fe env) fun d e => some (.rt d e)
def sDropE (fe : List D → RE) : List D → Option Out := fun env => sE (fe env) fun d e => some (.nx e)
theorem ss_setE (h : SEE cl W ms mn m.ex .pu te fe) (hn : wk (mn.set i .pu) m.nx = true) : SS cl W ms m (tAsg te (gName i)) (sSetE i fe) := by
  intro H w σ env st o e D p
  refine h.stm st e p fun d e1 H' w' v st' k r e => ?_
  cases e
  exact p H' w' _ ((st'.setPu r).weak hn) k
theorem SP.stm (h : SP cl W ms i s te f pf) (st : StOk cl H w ms σ env) {k : D → Option Out} {o : Out} (e : sX (f env) env k = some o) {D : Ends} (hx : wk ms m.ex = true) (p : Post cl W m H w D o) {Q : VK}
    (q : ∀ d H' v Rf, Same H H' → pf env = some Rf → Plc cl H' w ms σ env i s d v Rf → k d = some o → Q v H') : te σ H Q := by
  cases e1 : f env with
  | none => rw [e1] at e; cases e
  | some r1 =>
    rw [e1] at e
    cases r1 with
    | ex y =>
      cases e
      refine h H w σ env st _ e1 (fun z hz H' s => ?_) Q fun d hd => nomatch hd
      cases hz
      exact p H' w σ ((st.same s).weak hx) (Kp.same s)
    | ok d =>
      refine h H w σ env st _ e1 (fun z hz => nomatch hz) Q fun d' hd H' v s ⟨Rf, h1, h2⟩ => ?_
      cases hd
      exact q d H' v Rf s h1 h2 e
theorem Plc.wrL {d0 : D} {v0 : V} {Rf : D → D} (pl : Plc cl H w ms σ env i (.ls .fz) d0 v0 Rf) (st : StOk cl H w ms σ env) : ∃ p vs ds, v0 = .ref p ∧ d0 = .lst ds ∧ H p = some (.lst vs) ∧ RepL cl H (Fz w) ds vs ∧
    ∀ {vs' ds'}, RepL cl H (Fz w) ds' vs' → ∃ w1, StOk cl (upd H p (.lst vs')) w1 ms σ (env.set i (Rf (.lst ds'))) ∧ Kp H w (upd H p (.lst vs')) w1 := by
  have pl0 := pl
  obtain ⟨mo, s', l, d, v, L, A0, R, h1, h2, h3, h4, h5, h6, h7, h8⟩ := pl
  obtain ⟨p, vs, ds, rfl, rfl, rfl, e4, e5, r⟩ := h7.unlz
  refine ⟨p, vs, ds, rfl, rfl, e4, r, fun {vs' ds'} r' => ?_⟩
  refine pl0.wr (B := []) (d1 := .lst ds') st Unl.len rfl List.nodup_nil (fun a m => absurd m List.not_mem_nil) fun l A0 hl nd t nb => ?_
  obtain ⟨p', vs2, ds2, q1, q2, rfl, q4, q5, r2⟩ := t.unlz
  cases q1
  exact ⟨by simp, fun k1 k2 k3 k4 k5 => ⟨[p], by simp, fun a m => .inl m, .lz upd_same k5 (r'.mono (fun a o e q => ⟨by rw [upd_ne fun z : a = p => by subst z; rw [q5] at q; cases q]; exact e, (rlb_out List.not_mem_nil).trans q⟩) fun a xs e => by rw [upd_ne fun z : a = p => by subst z; rw [q4] at e; cases e]; exact e)⟩⟩
theorem Plc.wrT {d0 : D} {v0 : V} {Rf : D → D} {d1 : D} {v1 : V} (pl : Plc cl H w ms σ env i (.ls s) d0 v0 Rf) (st : StOk cl H w ms σ env) (t : Tmp cl H w ms s d1 v1) : ∃ p vs ds, v0 = .ref p ∧ d0 = .lst ds ∧ H p = some (.lst vs) ∧ ds.length = vs.length ∧
    (∃ w1, StOk cl (upd H p (.lst (vs ++ [v1]))) w1 ms σ (env.set i (Rf (.lst (ds ++ [d1])))) ∧ Kp H w (upd H p (.lst (vs ++ [v1]))) w1) ∧
    ∀ n, n < vs.length → ∃ w1, StOk cl (upd H p (.lst (vs.set n v1))) w1 ms σ (env.set i (Rf (.lst (ds.set n d1)))) ∧ Kp H w (upd H p (.lst (vs.set n v1))) w1 := by
  have pl0 := pl
  obtain ⟨n, hn, B, nB, tB⟩ := t
  obtain ⟨ds, p, vs, rfl, rfl, e4, el⟩ := pl.ls
  have hB := fun a m => (tB.ob a m).1
  refine ⟨p, vs, ds, rfl, rfl, e4, el, ?_, fun k hk => ?_⟩
  · refine pl0.wr (d1 := .lst (ds ++ [d1])) st hn rfl nB hB fun l A0 hl nd t nb => ?_
    cases t with
    | @ls _ _ vs2 _ A00 hp op tl =>
      rw [e4] at hp
      cases hp
      have nd2 := List.nodup_cons.mp nd
      refine ⟨by simp, fun k1 k2 k3 k4 k5 => ⟨p :: (A00 ++ B), ?_, fun a m => ?_, .ls upd_same k5 (TrL.append (k2 nd2.1 (fun a m => .inl (tl.ob a m).1) tl) (by
        have z := TrL.cons (k1 (fun m => nb p (by simp) m) (fun a m => .inr m) tB) (TrL.nil (s := s))
        rw [List.append_nil] at z
        exact z))⟩⟩
      · refine List.nodup_cons.mpr ⟨fun m => ?_, List.nodup_append.mpr ⟨nd2.2, nB, fun a m b m2 z => by subst z; exact nb a (List.mem_cons_of_mem _ m) m2⟩⟩
        rcases List.mem_append.mp m with m | m
        · exact nd2.1 m
        · exact nb p (by simp) m
      · rcases List.mem_cons.mp m with rfl | m
        · exact .inl (by simp)
        · rcases List.mem_append.mp m with m | m
          · exact .inl (List.mem_cons_of_mem _ m)
          · exact .inr m
  · have hk2 : k < ds.length := by rw [el]; exact hk
    refine pl0.wr (d1 := .lst (ds.set k d1)) st hn rfl nB hB fun l A0 hl nd t nb => ?_
    cases t with
    | @ls _ _ vs2 _ A00 hp op tl =>
      rw [e4] at hp
      cases hp
      have nd2 := List.nodup_cons.mp nd
      obtain ⟨u, L2, A1, R2, f1, f2, f3, f4⟩ := tl.foc (List.getElem?_eq_getElem hk2)
      subst f2
      refine ⟨by simp, fun k1 k2 k3 k4 k5 => ⟨p :: (L2 ++ B ++ R2), ?_, fun a m => ?_, .ls upd_same k5 (f4 (fun a o e q => ?_) (fun a xs e => ?_) (fun a m o e q => ?_) (k1 (fun m => nb p (by simp) m) (fun a m => .inr m) tB))⟩⟩
      · obtain ⟨q1, q2⟩ := nd2
        simp only [List.append_assoc] at q1 q2 ⊢
        obtain ⟨n1, n2, n3⟩ := List.nodup_append.mp q2
        obtain ⟨n4, n5, n6⟩ := List.nodup_append.mp n2
        refine List.nodup_cons.mpr ⟨fun m => ?_, List.nodup_append.mpr ⟨n1, List.nodup_append.mpr ⟨nB, n5, fun a m b m2 z => ?_⟩, fun a m b m2 z => ?_⟩⟩
        · simp only [List.mem_append] at m q1
          rcases m with m | m | m
          · exact q1 (.inl m)
          · exact nb p (by simp) m
          · exact q1 (.inr (.inr m))
        · subst z; exact nb a (by simp [m2]) m
        · subst z
          rcases List.mem_append.mp m2 with m2 | m2
          · exact nb a (by simp [m]) m2
          · exact n3 a m a (List.mem_append_right _ m2) rfl
      · simp only [List.mem_cons, List.mem_append] at m ⊢
        rcases m with rfl | (m | m) | m
        · exact .inl (.inl rfl)
        · exact .inl (.inr (.inl (.inl m)))
        · exact .inr m
        · exact .inl (.inr (.inr m))
      · have q : w a = none := q
        have ne : a ≠ p := fun z => by subst z; rw [op] at q; cases q
        exact ⟨by rw [upd_ne ne]; exact e, (rlb_out fun m => by rw [hB a m] at q; cases q).trans q⟩
      · rw [upd_ne fun z : a = p => by subst z; rw [e4] at e; cases e]; exact e
      · have ne : a ≠ p := fun z => by
          subst z
          apply nd2.1
          rcases List.mem_append.mp m with m | m <;> simp [m]
        refine ⟨by rw [upd_ne ne]; exact e, ?_⟩
        by_cases mb : a ∈ B
        · exact rlb_in mb
        · exact (rlb_out mb).trans q
def sAppP (i : Nat) (f : List D → M D) (pf : List D → Option (D → D)) (g : List D → M D) : List D → Option Out := fun env => sX (f env) env fun d => match d with
  | .lst ds => sX (g env) env fun x => match pf env with
    | some R => if ds.length < LIM then some (.nx (env.set i (R (.lst (ds ++ [x]))))) else none
    | none => none
  | _ => none
theorem lst_of {d : D} {k : List D → Option Out} {o : Out} (e : (match d with | .lst ds => k ds | _ => none) = some o) : ∃ ds, d = .lst ds ∧ k ds = some o := by
  cases d with
  | lst ds => exact ⟨ds, rfl, e⟩
  | _ => cases e
theorem ss_appP {s0 : Sh} (h : SP cl W ms i s0 ta f pf) (hc : toPu c = true) (hg : SE cl W ms c te g) (hx : wk ms m.ex = true) (hn : wk ms m.nx = true) (hs : isOp s0 (.ls .fz) = true := by rfl) :
    SS cl W ms m (tDrop (tBM K "list" rAppend ta (tCons te tNil))) (sAppP i f pf g) := by
  intro H w σ env st o e D p
  refine h.stm st e hx p fun d H1 v Rf s1 hp pl e => ?_
  obtain ⟨ds, rfl, e⟩ := lst_of e
  have pl1 := pl.op hs (by intro z; cases z)
  obtain ⟨p0, vs, ds', rfl, q0, e4, r, wr⟩ := pl1.wrL (st.same s1)
  cases q0
  refine ⟨.inl ⟨rfl, _, .inl (.inl e4)⟩, ?_⟩
  refine hg.stm (st.same s1) e hx (p.trans (Kp.same s1)) fun x H2 u s2 rr e => ?_
  have pl2 := pl1.same s2 (st.wf.same s1)
  obtain ⟨p1, vs1, ds1, q1, q2, e5, r2, wr2⟩ := pl2.wrL ((st.same s1).same s2)
  cases q1
  cases q2
  rw [hp] at e
  simp only at e
  split at e
  · rename_i hl
    cases e
    refine ⟨p0, vs1, u, rfl, rfl, e5, by rw [← r2.length]; exact LIM_lt (Nat.le_of_lt hl), ?_⟩
    obtain ⟨w1, z1, z2⟩ := wr2 (r2.append (.cons (rr.pu (st.wf.same s1) hc) .nil))
    exact p _ _ _ (z1.weak hn) ((Kp.same (s1.trans s2)).trans z2)
  · cases e
theorem Plc.lab {d0 : D} {v0 : V} {Rf : D → D} (pl : Plc cl H w ms σ env i s d0 v0 Rf) (wf : Wf H w) (sm : Same H H') (hw : ∀ a o, H a = some o → w' a = w a) (hp : w'.pin = w.pin) : Plc cl H' w' ms σ env i s d0 v0 Rf := by
  obtain ⟨mo, s', l, d, v, L, A0, R, h1, h2, h3, h4, h5, h6, h7, h8⟩ := pl
  have lb : ∀ a, w a = some l → w' a = some l := fun a q => by
    obtain ⟨o, e, _⟩ := wf a l q
    exact (hw a o e).trans q
  refine ⟨mo, s', l, d, v, L, A0, R, h1, by rw [hp]; exact h2, h3, h4, h5, fun a m => lb a (h6 a m), h7.mono (fun a o e q => ⟨sm _ _ e, (hw a o e).trans q⟩) (fun a xs e => sm _ _ e) (fun a m o e q => ⟨sm _ _ e, lb a q⟩), fun {H2} {P'} {O'} {d1} {A1} g t q x => h8 (fun a o e z => g a o (sm _ _ e) ((hw a o e).trans z)) (fun a xs e => t a xs (sm _ _ e)) (fun a ma o e z => q a ma o (sm _ _ e) (lb a z)) x⟩
theorem ss_appPT {s0 : Sh} (h : SP cl W ms i s0 ta f pf) (hg : SE cl W ms (.fr s) te g) (hx : wk ms m.ex = true) (hn : wk ms m.nx = true) (hs : isOp s0 (.ls s) = true := by rfl) :
    SS cl W ms m (tDrop (tBM K "list" rAppend ta (tCons te tNil))) (sAppP i f pf g) := by
  intro H w σ env st o e D p
  refine h.stm st e hx p fun d H1 v Rf s1 hp pl e => ?_
  obtain ⟨ds, rfl, e⟩ := lst_of e
  have pl1 := pl.op hs (by intro z; cases z)
  obtain ⟨ds', p0, vs, q0, rfl, e4, el⟩ := pl1.ls
  cases q0
  refine ⟨.inl ⟨rfl, _, .inl (.inl e4)⟩, ?_⟩
  refine hg.stm (st.same s1) e hx (p.trans (Kp.same s1)) fun x H2 u s2 rr e => ?_
  have pl2 := pl1.same s2 (st.wf.same s1)
  obtain ⟨w2, st3, k3, t3, hw, _⟩ := (st.same s1).labX s2 rr
  have pl3 := pl1.lab (st.wf.same s1) s2 hw k3.keep.pin
  obtain ⟨p1, vs1, ds1, q1, q2, e5, el2, ⟨w4, z1, z2⟩, _⟩ := pl3.wrT st3 t3
  cases q1
  cases q2
  rw [hp] at e
  simp only at e
  split at e
  · rename_i hl
    cases e
    refine ⟨p0, vs1, u, rfl, rfl, e5, by rw [← el2]; exact LIM_lt (Nat.le_of_lt hl), ?_⟩
    exact p _ _ _ (z1.weak hn) (((Kp.same s1).trans k3).trans z2)
  · cases e
def sAppE (i : Nat) (g : List D → RE) : List D → Option Out := fun env => match env[i]? with
  | some (.lst _) => sE (g env) fun x e => match e[i]? with
    | some (.lst ds) => if ds.length < LIM then some (.nx (e.set i (.lst (ds ++ [x])))) else none
    | _ => none
  | _ => none
def ePopP (i : Nat) (f : List D → M D) (pf : List D → Option (D → D)) : List D → RE := fun env => match f env with
  | some (.ok (.lst ds)) => match pf env, ds[ds.length - 1]? with
    | some R, some d => some (.ok d, env.set i (R (.lst ds.dropLast)))
    | _, _ => none
  | some (.ex c) => some (.ex c, env)
  | _ => none
def ePopAtP (i : Nat) (f fi : List D → M D) (pf : List D → Option (D → D)) : List D → RE := fun env => match f env with
  | some (.ok (.lst ds)) => match fi env with
    | some (.ok (.int k)) => if bnd63 k = true then match pf env, ixN ds.length k with
      | some R, some n => match ds[n]? with
        | some d => some (.ok d, env.set i (R (.lst (ds.eraseIdx n))))
        | none => none
      | _, _ => none else none
    | some (.ex c) => some (.ex c, env)
    | _ => none
  | some (.ex c) => some (.ex c, env)
  | _ => none
theorem see_popAtP {s0 : Sh} (h : SP cl W ms i s0 ta f pf) (hi : SE cl W ms c ti fi) (hx : wk ms mx = true) (hs : isOp s0 (.ls .fz) = true := by rfl) : SEE cl W ms ms mx .pu (tBM K "list" rPopAt ta (tCons ti tNil)) (ePopAtP i f fi pf) := fun H w σ env st r e he x Q q => by
  unfold ePopAtP at he
  cases hf : f env with
  | none => rw [hf] at he; cases he
  | some r1 =>
    rw [hf] at he
    cases r1 with
    | ex y =>
      cases he
      exact h H w σ env st _ hf (fun z hz H' s => by cases hz; exact x y rfl H' w ((st.same s).weak hx) (Kp.same s)) _ fun d hd => nomatch hd
    | ok d =>
      refine h H w σ env st _ hf (fun z hz => nomatch hz) _ fun d' hd H1 v s1 ⟨Rf, hp, pl⟩ => ?_
      cases hd
      cases d with
      | lst ds =>
        have pl1 := pl.op hs (by intro z; cases z)
        obtain ⟨p0, vs, ds', rfl, q0, e4, r, wr⟩ := pl1.wrL (st.same s1)
        cases q0
        refine ⟨.inl ⟨rfl, _, .inl (.inl e4)⟩, ?_⟩
        simp only at he
        cases hfi : fi env with
        | none => rw [hfi] at he; cases he
        | some r2 =>
          rw [hfi] at he
          cases r2 with
          | ex y =>
            cases he
            exact hi H1 w σ env (st.same s1) _ hfi (fun z hz H' s => by cases hz; exact x y rfl H' w (((st.same s1).same s).weak hx) (Kp.same (s1.trans s))) _ fun d hd => nomatch hd
          | ok q2 =>
            refine hi H1 w σ env (st.same s1) _ hfi (fun z hz => nomatch hz) _ fun d' hd H2 u s2 rr => ?_
            cases hd
            have rq := rr.an (st.wf.same s1)
            cases rq with
            | int k =>
              simp only at he
              have pl2 := pl1.same s2 (st.wf.same s1)
              obtain ⟨p1, vs1, ds1, q1, q2, e5, r2, wr2⟩ := pl2.wrL ((st.same s1).same s2)
              cases q1
              cases q2
              rw [hp] at he
              split at he
              · rename_i hb
                split at he
                · rename_i R2 n hR hn
                  cases hR
                  split at he
                  · rename_i d hd
                    cases he
                    obtain ⟨u, hu, ru⟩ := r2.get hd
                    refine ⟨p0, vs1, k, n, u, rfl, rfl, e5, (bnd63_of hb).1, (bnd63_of hb).2, (ixN_seq (by rw [← r2.length]; exact hn)).1, hu, ?_⟩
                    obtain ⟨w1, z1, z2⟩ := wr2 (r2.eraseIdx n)
                    exact q _ rfl _ w1 u z1 ((Kp.same (s1.trans s2)).trans z2) (z2.keep.rep ((st.wf.same s1).same s2) ru)
                  · cases he
                · cases he
              · cases he
            | _ => cases he
      | _ => cases he
def sPopDP (i : Nat) (f : List D → M D) (pf : List D → Option (D → D)) : List D → Option Out := fun env => sX (f env) env fun d => match d with
  | .lst ds => match pf env with
    | some R => if ds.length = 0 then none else some (.nx (env.set i (R (.lst ds.dropLast))))
    | none => none
  | _ => none
def sClrP (i : Nat) (f : List D → M D) (pf : List D → Option (D → D)) : List D → Option Out := fun env => sX (f env) env fun d => match d with
  | .lst ds => match pf env with
    | some R => some (.nx (env.set i (R (.lst []))))
    | none => none
  | _ => none
def sSetP (i : Nat) (f fi : List D → M D) (pf : List D → Option (D → D)) (g : List D → M D) : List D → Option Out := fun env => sX (g env) env fun x => sX (f env) env fun d => match d with
  | .lst ds => sX (fi env) env fun q => match pf env, q with
    | some R, .int k => match ixN ds.length k with
      | some n => some (.nx (env.set i (R (.lst (ds.set n x)))))
      | none => none
    | _, _ => none
  | _ => none
theorem ss_setP {s0 : Sh} (h : SP cl W ms i s0 ta f pf) (hc : toPu c = true) (hg : SE cl W ms c tg g) (hi : SE cl W ms c2 ti fi) (hx : wk ms m.ex = true) (hn : wk ms m.nx = true) (hs : isOp s0 (.ls .fz) = true := by rfl) :
    SS cl W ms m (tAsg tg (gSub ta ti rSetL)) (sSetP i f fi pf g) := by
  intro H w σ env st o e D p
  refine hg.stm st e hx p fun x H1 u s1 rr e => ?_
  refine h.stm (st.same s1) e hx (p.trans (Kp.same s1)) fun d H2 v Rf s2 hp pl e => ?_
  obtain ⟨ds, rfl, e⟩ := lst_of e
  have pl1 := pl.op hs (by intro z; cases z)
  refine hi.stm ((st.same s1).same s2) e hx ((p.trans (Kp.same s1)).trans (Kp.same s2)) fun q H3 u3 s3 rq e => ?_
  have pl2 := pl1.same s3 ((st.wf.same s1).same s2)
  obtain ⟨p1, vs1, ds1, rfl, q2, e5, r2, wr2⟩ := pl2.wrL (((st.same s1).same s2).same s3)
  cases q2
  have rq' := rq.an ((st.wf.same s1).same s2)
  rw [hp] at e
  cases rq' with
  | int k =>
    simp only at e
    split at e
    · rename_i n hn'
      cases e
      obtain ⟨w1, z1, z2⟩ := wr2 (RepL.set ((rr.pu st.wf hc).same (s2.trans s3) fun _ z => z) n r2)
      exact ⟨p1, vs1, k, n, rfl, rfl, e5, by rw [← r2.length]; exact hn', p _ _ _ (z1.weak hn) ((Kp.same (s1.trans (s2.trans s3))).trans z2)⟩
    · cases e
  | _ => simp only at e; cases e
end
end Mv

namespace Mv
open PySem L2
variable {cl : Nv}
section
variable {κ α : Type} [DecidableEq κ]
def valG (kvs : List (κ × α)) (k : κ) : Option α := (kvs.find? fun kv => decide (kv.1 = k)).map (·.2)
def putG (kvs : List (κ × α)) (k : κ) (v : α) : List (κ × α) :=
  if (kvs.any fun kv => decide (kv.1 = k)) = true then kvs.map (fun kv => if kv.1 = k then (kv.1, v) else kv) else kvs ++ [(k, v)]
end
def keyD : D → Option Key
  | .int i => some (.inl i)
  | .str s => some (.inr s)
  | _ => none
def keyL : List D → Option (List Key)
  | [] => some []
  | d :: ds => (keyD d).bind fun k => (keyL ds).map (k :: ·)
section
variable {H H' H1 : Hp} {P P' : Addr → Prop} {w w' : Om} {ms mn mx ms' : List Mo} {σ : L2.St} {env : List D} {W : WX} {m : Md} {c c1 c2 : RC} {te ta tb ti tg td ty tv : TE} {f g fi : List D → M D} {K : PySem.W.Frag} {i : Nat} {pf : List D → Option (D → D)}
theorem RepK.val {k : Key} : ∀ {ds : List (Key × D)} {vs : List (Key × V)}, RepK cl H P ds vs → (∀ d, valG ds k = some d → ∃ v, valV vs k = some v ∧ Rep cl H P d v) ∧ (valG ds k = none → valV vs k = none)
  | _, _, .nil => ⟨fun d h => by simp [valG] at h, fun _ => rfl⟩
  | (k', d') :: ds, (_, v') :: vs, .cons r t => by
    obtain ⟨h1, h2⟩ := RepK.val (k := k) t
    by_cases e : k' = k
    · exact ⟨fun d h => by
        have : d' = d := by simpa [valG, List.find?_cons, e] using h
        subst this
        exact ⟨v', by simp [valV, List.find?_cons, e], r⟩, fun h => by simp [valG, List.find?_cons, e] at h⟩
    · refine ⟨fun d h => ?_, fun h => ?_⟩
      · have : valG ds k = some d := by simpa [valG, List.find?_cons, e] using h
        obtain ⟨v, h3, h4⟩ := h1 d this
        exact ⟨v, by simpa [valV, List.find?_cons, e] using h3, h4⟩
      · have : valG ds k = none := by simpa [valG, List.find?_cons, e] using h
        simpa [valV, List.find?_cons, e] using h2 this
theorem RepT.val {k : List Key} : ∀ {ds : List (List Key × D)} {vs : List (List Key × V)}, RepT cl H P ds vs → (∀ d, valG ds k = some d → ∃ v, valV vs k = some v ∧ Rep cl H P d v) ∧ (valG ds k = none → valV vs k = none)
  | _, _, .nil => ⟨fun d h => by simp [valG] at h, fun _ => rfl⟩
  | (k', d') :: ds, (_, v') :: vs, .cons r t => by
    obtain ⟨h1, h2⟩ := RepT.val (k := k) t
    by_cases e : k' = k
    · exact ⟨fun d h => by
        have : d' = d := by simpa [valG, List.find?_cons, e] using h
        subst this
        exact ⟨v', by simp [valV, List.find?_cons, e], r⟩, fun h => by simp [valG, List.find?_cons, e] at h⟩
    · refine ⟨fun d h => ?_, fun h => ?_⟩
      · have : valG ds k = some d := by simpa [valG, List.find?_cons, e] using h
        obtain ⟨v, h3, h4⟩ := h1 d this
        exact ⟨v, by simpa [valV, List.find?_cons, e] using h3, h4⟩
      · have : valG ds k = none := by simpa [valG, List.find?_cons, e] using h
        simpa [valV, List.find?_cons, e] using h2 this
theorem RepK.any {k : Key} : ∀ {ds : List (Key × D)} {vs : List (Key × V)}, RepK cl H P ds vs → (ds.any fun kv => decide (kv.1 = k)) = vs.any fun kv => decide (kv.1 = k)
  | _, _, .nil => rfl
  | _ :: _, _ :: _, .cons r t => by rw [List.any_cons, List.any_cons, RepK.any t]
theorem RepT.any {k : List Key} : ∀ {ds : List (List Key × D)} {vs : List (List Key × V)}, RepT cl H P ds vs → (ds.any fun kv => decide (kv.1 = k)) = vs.any fun kv => decide (kv.1 = k)
  | _, _, .nil => rfl
  | _ :: _, _ :: _, .cons r t => by rw [List.any_cons, List.any_cons, RepT.any t]
theorem RepK.append : ∀ {ds es : List (Key × D)} {vs us : List (Key × V)}, RepK cl H P ds vs → RepK cl H P es us → RepK cl H P (ds ++ es) (vs ++ us)
  | _, _, _, _, .nil, q => q
  | _, _, _, _, .cons a r, q => .cons a (RepK.append r q)
theorem RepT.append : ∀ {ds es : List (List Key × D)} {vs us : List (List Key × V)}, RepT cl H P ds vs → RepT cl H P es us → RepT cl H P (ds ++ es) (vs ++ us)
  | _, _, _, _, .nil, q => q
  | _, _, _, _, .cons a r, q => .cons a (RepT.append r q)
theorem RepK.put {k : Key} {d : D} {v : V} (x : Rep cl H P d v) {ds : List (Key × D)} {vs : List (Key × V)} (r : RepK cl H P ds vs) : RepK cl H P (putG ds k d) (putK vs k v) := by
  unfold putG putK
  rw [r.any]
  split
  · have key : ∀ {ds : List (Key × D)} {vs : List (Key × V)}, RepK cl H P ds vs → RepK cl H P (ds.map fun kv => if kv.1 = k then (kv.1, d) else kv) (vs.map fun kv => if kv.1 = k then (kv.1, v) else kv) := by
      intro ds
      induction ds with
      | nil => intro vs r; cases r; exact .nil
      | cons a t ih =>
        intro vs r
        cases r with
        | @cons k' d' v' _ vs r1 r2 =>
          rw [List.map_cons, List.map_cons]
          by_cases e : k' = k
          · simp only [e, if_true]
            exact .cons x (ih r2)
          · simp only [e, if_false]
            exact .cons r1 (ih r2)
    exact key r
  · exact r.append (.cons x .nil)
theorem RepT.put {k : List Key} {d : D} {v : V} (x : Rep cl H P d v) {ds : List (List Key × D)} {vs : List (List Key × V)} (r : RepT cl H P ds vs) : RepT cl H P (putG ds k d) (putK vs k v) := by
  unfold putG putK
  rw [r.any]
  split
  · have key : ∀ {ds : List (List Key × D)} {vs : List (List Key × V)}, RepT cl H P ds vs → RepT cl H P (ds.map fun kv => if kv.1 = k then (kv.1, d) else kv) (vs.map fun kv => if kv.1 = k then (kv.1, v) else kv) := by
      intro ds
      induction ds with
      | nil => intro vs r; cases r; exact .nil
      | cons a t ih =>
        intro vs r
        cases r with
        | @cons k' d' v' _ vs r1 r2 =>
          rw [List.map_cons, List.map_cons]
          by_cases e : k' = k
          · simp only [e, if_true]
            exact .cons x (ih r2)
          · simp only [e, if_false]
            exact .cons r1 (ih r2)
    exact key r
  · exact r.append (.cons x .nil)
theorem RepT.length : ∀ {ds : List (List Key × D)} {vs : List (List Key × V)}, RepT cl H P ds vs → ds.length = vs.length
  | _, _, .nil => rfl
  | _, _, .cons _ r => congrArg (· + 1) (RepT.length r)
def dGet : D → D → Option (Option D)
  | .dct kds, y => (keyD y).map fun k => valG kds k
  | .dctT kds, .tup ds => (keyL ds).map fun k => valG kds k
  | _, _ => none
def dAtK (d y : D) : Option D := (dGet d y).bind id
def dInK (y d : D) : Option D := (dGet d y).map fun o => .bl o.isSome
def dNiK (y d : D) : Option D := (dGet d y).map fun o => .bl (!o.isSome)
def dGet1 (d y : D) : Option D := (dGet d y).map fun o => o.getD .non
theorem Plc.dk {d0 : D} {v0 : V} {Rf : D → D} (h : Plc cl H w ms σ env i .dk d0 v0 Rf) : ∃ p kds, v0 = .ref p ∧ d0 = .dct kds ∧ ∃ kvs, H p = some (.dK kvs) ∧ RepK cl H (Fz w) kds kvs ∧ kds.length = kvs.length := by
  obtain ⟨mo, s', l, d, v, L, A0, R, h1, h2, h3, h4, h5, h6, h7, h8⟩ := h
  cases h7 with
  | dk hp op tl => exact ⟨_, _, rfl, rfl, _, hp, tl, tl.length⟩
theorem Plc.dt {d0 : D} {v0 : V} {Rf : D → D} (h : Plc cl H w ms σ env i .dt d0 v0 Rf) : ∃ p kds, v0 = .ref p ∧ d0 = .dctT kds ∧ ∃ kvs, H p = some (.dT kvs) ∧ RepT cl H (Fz w) kds kvs ∧ kds.length = kvs.length := by
  obtain ⟨mo, s', l, d, v, L, A0, R, h1, h2, h3, h4, h5, h6, h7, h8⟩ := h
  cases h7 with
  | dt hp op tl => exact ⟨_, _, rfl, rfl, _, hp, tl, tl.length⟩
def isDct : D → Bool
  | .dct _ => true
  | .dctT _ => true
  | _ => false
def eGet1 (f g : List D → M D) : List D → M D := fun env => bd (f env) fun d => if isDct d = true then bd (g env) fun y => match dGet1 d y with
  | some z => if imm z = true then some (.ok z) else none
  | none => none else none
def dPut (d y x : D) : Option D := match d with
  | .dct kds => if kds.length < LIM then (keyD y).map fun k => .dct (putG kds k x) else none
  | .dctT kds => match y with
    | .tup ds => if kds.length < LIM then (keyL ds).map fun k => .dctT (putG kds k x) else none
    | _ => none
  | _ => none
def sDPutP (i : Nat) (f : List D → M D) (pf : List D → Option (D → D)) (fk fv : List D → M D) : List D → Option Out := fun env => sX (fv env) env fun x => sX (f env) env fun d => sX (fk env) env fun y => match pf env, dPut d y x with
  | some R, some d' => some (.nx (env.set i (R d')))
  | _, _ => none
def sFldP (i : Nat) (cc : String) (nm : Str) (f : List D → M D) (pf : List D → Option (D → D)) (g : List D → M D) : List D → Option Out := fun env => sX (g env) env fun x => sX (f env) env fun d => match d, pf env with
  | .ins c fs, some R => if c = cc ∧ fs.length < 900 then some (.nx (env.set i (R (.ins c (putD nm x fs))))) else none
  | _, _ => none
def sFldE (i : Nat) (cc : String) (nm : Str) (g : List D → RE) : List D → Option Out := fun env => sE (g env) fun x e => match e[i]? with
  | some (.ins c fs) => if c = cc ∧ fs.length < 900 then some (.nx (e.set i (.ins c (putD nm x fs)))) else none
  | _ => none
theorem Plc.wrF {n : Nat} {cc : String} {nm : Str} {d0 : D} {v0 : V} {Rf : D → D} {d1 : D} {v1 : V} (pl : Plc cl H w ms σ env i (.io n) d0 v0 Rf) (st : StOk cl H w ms σ env) (t : (fldT n nm = .fz ∧ Rep cl H (Fz w) d1 v1) ∨ Tmp cl H w ms (fldT n nm) d1 v1) : ∃ p c dx vs fs, v0 = .ref p ∧ d0 = .ins c fs ∧ H p = some (.ins (cl c) dx vs) ∧ fs.length = vs.length ∧
    ∃ w1, StOk cl (upd H p (.ins (cl c) dx (putF nm v1 vs))) w1 ms σ (env.set i (Rf (.ins c (putD nm d1 fs)))) ∧ Kp H w (upd H p (.ins (cl c) dx (putF nm v1 vs))) w1 := by
  have pl0 := pl
  obtain ⟨mo, s', l0, d, v, L, A0, R, h1, h2, h3, h4, h5, h6, h7, h8⟩ := pl
  cases h7 with
  | @io _ p c dx vs fs A00 hp op tl =>
    refine ⟨p, c, dx, vs, fs, rfl, rfl, hp, tl.length, ?_⟩
    have go : ∀ (nn : Nat) (B : List Addr) (hn : Unl ms nn) (nB : B.Nodup) (hB : ∀ a ∈ B, w a = some (.ow nn)), (∀ {l : Lb}, l ≠ .fo → (∀ a ∈ B, a ≠ p) → w p = some l → (∀ {s2 : Sh} {d2 : D} {v2 : V} {A2 : List Addr}, p ∉ A2 → (∀ a ∈ A2, w a = some l ∨ a ∈ B) → (∀ {O : Addr → Prop}, Tr cl H (Fz w) O s2 d2 v2 A2 → Tr cl (upd H p (.ins (cl c) dx (putF nm v1 vs))) (Fz (rlb w B (some l))) (fun a => rlb w B (some l) a = some l) s2 d2 v2 A2)) → Tr cl (upd H p (.ins (cl c) dx (putF nm v1 vs))) (Fz (rlb w B (some l))) (fun a => rlb w B (some l) a = some l) (fldT n nm) d1 v1 B) →
        ∃ w1, StOk cl (upd H p (.ins (cl c) dx (putF nm v1 vs))) w1 ms σ (env.set i (Rf (.ins c (putD nm d1 fs)))) ∧ Kp H w (upd H p (.ins (cl c) dx (putF nm v1 vs))) w1 := by
      intro nn B hn nB hB hT
      refine pl0.wr (d1 := .ins c (putD nm d1 fs)) st hn rfl nB hB fun l A0 hl nd t nb => ?_
      cases t with
      | @io _ _ c' dx' vs2 _ A00 hp' op' tl' =>
        rw [hp] at hp'
        injection hp' with hp'
        injection hp' with e1 e2 e3
        subst e2 e3
        have nd2 := List.nodup_cons.mp nd
        refine ⟨by simp, fun k1 k2 k3 k4 k5 => ?_⟩
        have tB := hT hl (fun a m z => nb p (by simp) (z ▸ m)) op' k1
        rw [← e1] at *
        cases hlk : fs.lookup nm with
        | none =>
          refine ⟨p :: (A00 ++ B), ?_, fun a m => ?_, .io upd_same k5 (TrF.new (k3 nd2.1 (fun a m => .inl (tl'.ob a m).1) tl') hlk tB)⟩
          · refine List.nodup_cons.mpr ⟨fun m => ?_, List.nodup_append.mpr ⟨nd2.2, nB, fun a m b m2 z => by subst z; exact nb a (List.mem_cons_of_mem _ m) m2⟩⟩
            rcases List.mem_append.mp m with m | m
            · exact nd2.1 m
            · exact nb p (by simp) m
          · rcases List.mem_cons.mp m with rfl | m
            · exact .inl (by simp)
            · rcases List.mem_append.mp m with m | m
              · exact .inl (List.mem_cons_of_mem _ m)
              · exact .inr m
        | some d9 =>
          obtain ⟨u, L2, A1, R2, f1, f2, f3, f4⟩ := tl'.foc hlk
          subst f2
          refine ⟨p :: (L2 ++ B ++ R2), ?_, fun a m => ?_, .io upd_same k5 (f4 (fun a o e q => ?_) (fun a xs e => ?_) (fun a m o e q => ?_) tB)⟩
          · obtain ⟨q1, q2⟩ := nd2
            simp only [List.append_assoc] at q1 q2 ⊢
            obtain ⟨n1, n2, n3⟩ := List.nodup_append.mp q2
            obtain ⟨n4, n5, n6⟩ := List.nodup_append.mp n2
            refine List.nodup_cons.mpr ⟨fun m => ?_, List.nodup_append.mpr ⟨n1, List.nodup_append.mpr ⟨nB, n5, fun a m b m2 z => ?_⟩, fun a m b m2 z => ?_⟩⟩
            · simp only [List.mem_append] at m q1
              rcases m with m | m | m
              · exact q1 (.inl m)
              · exact nb p (by simp) m
              · exact q1 (.inr (.inr m))
            · subst z; exact nb a (by simp [m2]) m
            · subst z
              rcases List.mem_append.mp m2 with m2 | m2
              · exact nb a (by simp [m]) m2
              · exact n3 a m a (List.mem_append_right _ m2) rfl
          · simp only [List.mem_cons, List.mem_append] at m ⊢
            rcases m with rfl | (m | m) | m
            · exact .inl (.inl rfl)
            · exact .inl (.inr (.inl (.inl m)))
            · exact .inr m
            · exact .inl (.inr (.inr m))
          · have q : w a = none := q
            have ne : a ≠ p := fun z => by subst z; rw [op'] at q; cases q
            exact ⟨by rw [upd_ne ne]; exact e, (rlb_out fun m => by rw [hB a m] at q; cases q).trans q⟩
          · rw [upd_ne fun z : a = p => by subst z; rw [hp] at e; cases e]; exact e
          · have ne : a ≠ p := fun z => by
              subst z
              apply nd2.1
              rcases List.mem_append.mp m with m | m <;> simp [m]
            refine ⟨by rw [upd_ne ne]; exact e, ?_⟩
            by_cases mb : a ∈ B
            · exact rlb_in mb
            · exact (rlb_out mb).trans q
    rcases t with ⟨hs, r⟩ | ⟨nn, hn, B, nB, tB⟩
    · refine go ms.length [] Unl.len List.nodup_nil (fun a m => absurd m List.not_mem_nil) fun {l} hl _ wp k1 => ?_
      rw [hs]
      exact k1 List.not_mem_nil (fun a m => absurd m List.not_mem_nil) (O := fun _ => True) (.fz r)
    · exact go nn B hn nB (fun a m => (tB.ob a m).1) fun {l} hl hne wp k1 => k1 (fun m => hne p m rfl) (fun a m => .inr m) tB
theorem ss_fldP {n : Nat} {cc : String} {nm : Str} (hC : Cls K (cl cc)) (hA : NoAttr K (cl cc) nm) (hf : fldT n nm = .fz) (h : SP cl W ms i (.io n) ta f pf) (hc : toPu c = true) (hg : SE cl W ms c tv g) (hx : wk ms m.ex = true) (hn : wk ms m.nx = true) :
    SS cl W ms m (sFld K ta tv nm) (sFldP i cc nm f pf g) := by
  intro H w σ env st o e D p
  refine hg.stm st e hx p fun x H1 u s1 rr e => ?_
  refine h.stm (st.same s1) e hx (p.trans (Kp.same s1)) fun d H2 v Rf s2 hp pl e => ?_
  have st2 := (st.same s1).same s2
  obtain ⟨p0, c0, dx, vs, fs, rfl, rfl, hH, hl, w1, z1, z2⟩ := pl.wrF (cc := cc) (nm := nm) st2 (.inl ⟨hf, (rr.pu st.wf hc).same s2 fun _ z => z⟩)
  rw [hp] at e
  simp only at e
  split at e
  · rename_i hq
    cases e
    obtain ⟨rfl, hq⟩ := hq
    exact ⟨p0, _, dx, vs, rfl, hH, hC, hA, by rw [← hl]; omega, p _ _ _ (z1.weak hn) ((Kp.same (s1.trans s2)).trans z2)⟩
  · cases e
def sFldAugP (i : Nat) (cc : String) (nm : Str) (f : List D → M D) (pf : List D → Option (D → D)) (g : List D → M D) : List D → Option Out := fun env => sX (f env) env fun d => match d with
  | .ins c fs => if c = cc ∧ fs.length < 900 then match fs.lookup nm with
    | some (.int a) => sX (g env) env fun x => match x, pf env with
      | .int b, some R => some (.nx (env.set i (R (.ins c (putD nm (.int (a + b)) fs)))))
      | _, _ => none
    | _ => none else none
  | _ => none
end
end Mv

namespace Mv
open PySem L2
variable {cl : Nv}
def bnd62 (k : Int) : Bool := decide (-4611686018427387904 ≤ k) && decide (k < 4611686018427387904)
theorem bnd62_of {k : Int} (h : bnd62 k = true) : -(2 ^ 62) ≤ k ∧ k < 2 ^ 62 := by
  unfold bnd62 at h
  rw [Bool.and_eq_true, decide_eq_true_eq, decide_eq_true_eq] at h
  omega
theorem bnd62_ok {k : Int} (h0 : -1000000000000 ≤ k) (h1 : k ≤ 1000000000000) : bnd62 k = true := by
  unfold bnd62
  rw [Bool.and_eq_true, decide_eq_true_eq, decide_eq_true_eq]
  omega
section
variable {H H' H1 : Hp} {w w' : Om} {ms ms' mn : List Mo} {σ : L2.St} {env : List D} {W : WX} {m : Md} {c c1 c2 : RC} {te ta tb ti tf : TE} {f g fi : List D → M D} {K : PySem.W.Frag} {tt : TT} {ft : List D → M Bool}
def forF (i : Nat) (b : List D → Option Out) : List D → List D → Option Out
  | [], env => some (.nx env)
  | d :: ds, env => match b (env.set i d) with
    | some (.nx e) => forF i b ds e
    | some (.ct e) => forF i b ds e
    | some (.bk e) => some (.nx e)
    | o => o
def sFor (i : Nat) (f : List D → M D) (b : List D → Option Out) : List D → Option Out := fun env => sX (f env) env fun d => match d with
  | .lst ds => forF i b ds env
  | _ => none
def bmo : RC → Mo
  | .lo => .lo
  | _ => .pu
theorem loop_core {tb : TS} {b : List D → Option Out} {i : Nat} {P0 : Om → Addr → Prop} {bm : Mo} (ml : List Mo)
    (hset : ∀ {H w σ env d v}, StOk cl H w ml σ env → Rep cl H (P0 w) d v → StOk cl H w (ml.set i bm) (σ.set i (some v)) (env.set i d))
    (hP : ∀ {H w H' w'}, Wf H w → Kp H w H' w' → ∀ {d v}, Rep cl H (P0 w) d v → Rep cl H' (P0 w') d v)
    (hb : SS cl W (ml.set i bm) { m with nx := ml, ct := ml, bk := m.nx } tb b) (hn : wk ml m.nx = true)
    {H w σ env} (st : StOk cl H w ml σ env) {a : Addr} {vs : List V} {ds : List D} (hH : Rep cl H (P0 w) (.lst ds) (.ref a)) {o : Out} (e : forF i b ds env = some o) {D : Ends} (p : Post cl W m H w D o) :
    ∃ Wn : Nat → Nat → L2.St → Hp → Prop, (∃ n, Wn 0 n σ H) ∧ ∀ k n σ' H', Wn k n σ' H' →
      ((Itl K a).stop k H' ∧ D.nx σ' H') ∨ ((Itl K a).go k H' ∧ ∃ N : L2.St → Hp → Prop, (∀ σ2 H2, N σ2 H2 → ∃ n', n' < n ∧ Wn (k + 1) n' σ2 H2) ∧ ∀ x H2, (Itl K a).yld k H' x H2 → gName i x σ' H2 fun σ3 H3 => tb { D with nx := N, ct := N, bk := D.nx } σ3 H3) := by
  let Wn : Nat → Nat → L2.St → Hp → Prop := fun k n σ' H' => n + k = ds.length ∧ ∃ w' env', StOk cl H' w' ml σ' env' ∧ Kp H w H' w' ∧ forF i b (ds.drop k) env' = some o
  refine ⟨Wn, ⟨ds.length, by simp, w, env, st, Kp.refl, by simpa using e⟩, fun k n σ' H' hW => ?_⟩
  obtain ⟨hk, w', env', st', kp, e'⟩ := hW
  have rep' := hP st.wf kp hH
  cases rep' with
  | @lst _ vs' _ h1 hp ra =>
    by_cases hlt : k < ds.length
    · right
      have hd : ds[k]? = some ds[k] := List.getElem?_eq_getElem hlt
      obtain ⟨v, hv, rv⟩ := ra.get hd
      refine ⟨⟨vs', v, .inl (.inl h1), hv⟩, fun σ2 H2 => Wn (k + 1) (n - 1) σ2 H2, fun σ2 H2 h => ⟨n - 1, by omega, h⟩, fun x H2 y => ?_⟩
      obtain ⟨rfl, y⟩ := y
      have hx := y vs' (.inl (.inl h1))
      rw [hv] at hx
      cases hx
      rw [List.drop_eq_getElem_cons hlt] at e'
      unfold forF at e'
      have st3 := hset st' rv
      cases e2 : b (env'.set i ds[k]) with
      | none => rw [e2] at e'; cases e'
      | some o2 =>
        rw [e2] at e'
        refine hb H2 w' _ _ st3 o2 e2 _ ?_
        cases o2 with
        | nx e3 => exact fun H3 w3 σ3 st3 k3 => ⟨by omega, w3, e3, st3, kp.trans k3, e'⟩
        | ct e3 => exact fun H3 w3 σ3 st3 k3 => ⟨by omega, w3, e3, st3, kp.trans k3, e'⟩
        | bk e3 => cases e'; exact p.trans kp
        | rt d e3 => cases e'; exact p.trans kp
        | ex c e3 => cases e'; exact p.trans kp
    · left
      have hz : ds.drop k = [] := List.drop_eq_nil_of_le (by omega)
      rw [hz] at e'
      cases e'
      exact ⟨⟨vs', .inl (.inl h1), by rw [← ra.length]; omega⟩, p H' w' σ' (st'.weak hn) kp⟩
theorem ss_for {tb : TS} {b : List D → Option Out} {i : Nat} (ml : List Mo) (hc : toPu c = true) (h : SE cl W ms c te f) (hx : wk ms m.ex = true) (hl : wk ms ml = true) (hn : wk ml m.nx = true)
    (hb : SS cl W (ml.set i .pu) { m with nx := ml, ct := ml, bk := m.nx } tb b) : SS cl W ms m (tFor (iList K te) (gName i) tb) (sFor i f b) := by
  intro H w σ env st o e D p
  refine h.stm st e hx p fun d H1 v s1 rr e => ?_
  have rp := rr.pu st.wf hc
  cases rp with
  | @lst a vs ds h1 hp ra =>
    refine ⟨a, rfl, ⟨vs, .inl (.inl h1)⟩, loop_core (K := K) (P0 := fun w => Fz w) (bm := .pu) (vs := vs) ml (fun st r => st.setPu r) (fun wf k => fun r => k.keep.rep wf r) hb hn ((st.same s1).weak hl) (.lst h1 hp ra) e (p.trans (Kp.same s1))⟩
  | _ => simp only at e; cases e
theorem ss_forLo {tb : TS} {b : List D → Option Out} {i : Nat} (ml : List Mo) (hc : toLo c = true) (h : SE cl W ms c te f) (hx : wk ms m.ex = true) (hl : wk ms ml = true) (hn : wk ml m.nx = true)
    (hb : SS cl W (ml.set i .lo) { m with nx := ml, ct := ml, bk := m.nx } tb b) : SS cl W ms m (tFor (iList K te) (gName i) tb) (sFor i f b) := by
  intro H w σ env st o e D p
  refine h.stm st e hx p fun d H1 v s1 rr e => ?_
  have rp := rr.lo st.wf hc
  cases rp with
  | @lst a vs ds h1 hp ra =>
    refine ⟨a, rfl, ⟨vs, .inl (.inl h1)⟩, loop_core (K := K) (P0 := fun w => Lf w) (bm := .lo) (vs := vs) ml (fun st r => st.setLo r) (fun wf k => fun r => k.keep.repLo wf r) hb hn ((st.same s1).weak hl) (.lst h1 hp ra) e (p.trans (Kp.same s1))⟩
  | _ => simp only at e; cases e
def rngL (lo : Int) : Nat → List D
  | 0 => []
  | n + 1 => .int lo :: rngL (lo + 1) n
theorem rngL_get : ∀ (n : Nat) (lo : Int) (k : Nat), k < n → (rngL lo n).drop k = .int (lo + k) :: (rngL lo n).drop (k + 1)
  | 0, _, _, h => absurd h (Nat.not_lt_zero _)
  | n + 1, lo, 0, _ => by simp [rngL]
  | n + 1, lo, k + 1, h => by
    have := rngL_get n (lo + 1) k (Nat.lt_of_succ_lt_succ h)
    show (rngL (lo + 1) n).drop k = _
    rw [this]
    have e : lo + 1 + (k : Int) = lo + ((k + 1 : Nat) : Int) := by push_cast; omega
    rw [e]
    rfl
theorem rngL_len : ∀ (n : Nat) (lo : Int), (rngL lo n).length = n
  | 0, _ => rfl
  | n + 1, lo => congrArg (· + 1) (rngL_len n (lo + 1))
def sRng (i : Nat) (fs : List (List D → M D)) (b : List D → Option Out) : List D → Option Out := fun env => match eArgs fs env with
  | some (.ok [.int j]) => if bnd62 j = true then forF i b (rngL 0 j.toNat) env else none
  | some (.ok [.int l, .int j]) => if bnd62 l = true ∧ bnd62 j = true then forF i b (rngL l (j - l).toNat) env else none
  | some (.ex c) => some (.ex c env)
  | _ => none
theorem range_core {tb : TS} {b : List D → Option Out} {i : Nat} (ml : List Mo) (hb : SS cl W (ml.set i .pu) { m with nx := ml, ct := ml, bk := m.nx } tb b) (hn : wk ml m.nx = true)
    {H w σ env} (st : StOk cl H w ml σ env) {lo : Int} {q : Nat} {o : Out} (e : forF i b (rngL lo q) env = some o) {D : Ends} (p : Post cl W m H w D o) :
    ∃ Wn : Nat → Nat → L2.St → Hp → Prop, (∃ n, Wn 0 n σ H) ∧ ∀ k n σ' H', Wn k n σ' H' →
      ((Itr lo q).stop k H' ∧ D.nx σ' H') ∨ ((Itr lo q).go k H' ∧ ∃ N : L2.St → Hp → Prop, (∀ σ2 H2, N σ2 H2 → ∃ n', n' < n ∧ Wn (k + 1) n' σ2 H2) ∧ ∀ x H2, (Itr lo q).yld k H' x H2 → gName i x σ' H2 fun σ3 H3 => tb { D with nx := N, ct := N, bk := D.nx } σ3 H3) := by
  let Wn : Nat → Nat → L2.St → Hp → Prop := fun k n σ' H' => n + k = q ∧ ∃ w' env', StOk cl H' w' ml σ' env' ∧ Kp H w H' w' ∧ forF i b ((rngL lo q).drop k) env' = some o
  refine ⟨Wn, ⟨q, by simp, w, env, st, Kp.refl, by simpa using e⟩, fun k n σ' H' hW => ?_⟩
  obtain ⟨hk, w', env', st', kp, e'⟩ := hW
  by_cases hlt : k < q
  · right
    refine ⟨hlt, fun σ2 H2 => Wn (k + 1) (n - 1) σ2 H2, fun σ2 H2 h => ⟨n - 1, by omega, h⟩, fun x H2 y => ?_⟩
    obtain ⟨rfl, rfl⟩ := y
    rw [rngL_get q lo k hlt] at e'
    unfold forF at e'
    have st3 := st'.setPu (i := i) (Rep.int (cl := cl) (H := H2) (P := Fz w') (lo + (k : Int)))
    cases e2 : b (env'.set i (.int (lo + (k : Int)))) with
    | none => rw [e2] at e'; cases e'
    | some o2 =>
      rw [e2] at e'
      refine hb H2 w' _ _ st3 o2 e2 _ ?_
      cases o2 with
      | nx e3 => exact fun H3 w3 σ3 st3 k3 => ⟨by omega, w3, e3, st3, kp.trans k3, e'⟩
      | ct e3 => exact fun H3 w3 σ3 st3 k3 => ⟨by omega, w3, e3, st3, kp.trans k3, e'⟩
      | bk e3 => cases e'; exact p.trans kp
      | rt d e3 => cases e'; exact p.trans kp
      | ex c e3 => cases e'; exact p.trans kp
  · left
    have hz : (rngL lo q).drop k = [] := List.drop_eq_nil_of_le (by rw [rngL_len]; omega)
    rw [hz] at e'
    cases e'
    exact ⟨by show q ≤ k; omega, p H' w' σ' (st'.weak hn) kp⟩
theorem SEa.stm {cs : List RC} {fs : List (List D → M D)} {tr : TA} (h : SEa cl W ms cs tr (eArgs fs)) {H w σ env} (st : StOk cl H w ms σ env) {r : R (List D)} (e : eArgs fs env = some r) {D : Ends} {o : Out} (hx : wk ms m.ex = true) (p : ∀ x, r = .ex x → Post cl W m H w D (.ex x env)) {Q : List V → Hp → Prop}
    (q : ∀ ds H' vs, r = .ok ds → Same H H' → ResL cl H H' w cs ds vs → Q vs H') : tr σ H Q := by
  refine h H w σ env st r e (fun x hx' H' s => ?_) Q fun ds hd H' vs s rs => q ds H' vs hd s rs
  exact p x hx' H' w σ ((st.same s).weak hx) (Kp.same s)
theorem ss_rng1 {tb : TS} {b : List D → Option Out} {i : Nat} {fs : List (List D → M D)} {tr : TA} (ml : List Mo) (h : SEa cl W ms [c] tr (eArgs fs)) (hx : wk ms m.ex = true) (hl : wk ms ml = true) (hn : wk ml m.nx = true)
    (hb : SS cl W (ml.set i .pu) { m with nx := ml, ct := ml, bk := m.nx } tb b) : SS cl W ms m (tFor (iRng1 tr) (gName i) tb) (sRng i fs b) := by
  intro H w σ env st o e D p
  unfold sRng at e
  cases e1 : eArgs fs env with
  | none => rw [e1] at e; cases e
  | some r =>
    rw [e1] at e
    refine h.stm (m := m) (o := o) st e1 hx (fun x hx' => by subst hx'; cases e; exact p) fun ds H1 vs hd s1 rs => ?_
    subst hd
    obtain ⟨d, v, rfl, rfl, rr⟩ := rs.one st.wf
    cases rr with
    | int j =>
      simp only at e
      split at e
      · rename_i hb2
        exact ⟨j, rfl, (bnd62_of hb2).1, (bnd62_of hb2).2, range_core ml hb hn ((st.same s1).weak hl) e (p.trans (Kp.same s1))⟩
      · cases e
    | _ => simp only at e; cases e
def whF (t : List D → M Bool) (b : List D → Option Out) : Nat → List D → Option Out
  | 0, _ => none
  | n + 1, env => match t env with
    | some (.ok true) => match b env with
      | some (.nx e) => whF t b n e
      | some (.ct e) => whF t b n e
      | some (.bk e) => some (.nx e)
      | o => o
    | some (.ok false) => some (.nx env)
    | some (.ex c) => some (.ex c env)
    | none => none
open Classical in
noncomputable def sWhile (t : List D → M Bool) (b : List D → Option Out) : List D → Option Out := fun env =>
  if h : ∃ n o, whF t b n env = some o then some (choose (choose_spec h)) else none
theorem whF_mono {t : List D → M Bool} {b : List D → Option Out} : ∀ {n k : Nat} {env : List D} {o : Out}, n ≤ k → whF t b n env = some o → whF t b k env = some o
  | 0, _, _, _, _, h => by cases h
  | n + 1, 0, _, _, hk, _ => absurd hk (Nat.not_succ_le_zero _)
  | n + 1, k + 1, env, o, hk, h => by
    unfold whF at h ⊢
    have hk' := Nat.le_of_succ_le_succ hk
    cases e1 : t env with
    | none => rw [e1] at h; cases h
    | some r =>
      rw [e1] at h
      cases r with
      | ex c => exact h
      | ok q =>
        cases q with
        | false => exact h
        | true =>
          simp only at h ⊢
          cases e2 : b env with
          | none => rw [e2] at h; cases h
          | some o2 =>
            rw [e2] at h
            cases o2 with
            | nx e => exact whF_mono hk' h
            | ct e => exact whF_mono hk' h
            | bk e => exact h
            | rt d e => exact h
            | ex c e => exact h
theorem sWhile_eq {t : List D → M Bool} {b : List D → Option Out} {n : Nat} {env : List D} {o : Out} (h : whF t b n env = some o) : sWhile t b env = some o := by
  have h' : ∃ n o, whF t b n env = some o := ⟨n, o, h⟩
  unfold sWhile
  rw [dif_pos h']
  have q := Classical.choose_spec (Classical.choose_spec h')
  have q1 := whF_mono (Nat.le_max_left n (Classical.choose h')) h
  have q2 := whF_mono (Nat.le_max_right n (Classical.choose h')) q
  rw [q1] at q2
  exact congrArg some (Option.some.inj q2).symm
theorem sWhile_of {t : List D → M Bool} {b : List D → Option Out} {env : List D} {o : Out} (h : sWhile t b env = some o) : ∃ n, whF t b n env = some o := by
  unfold sWhile at h
  split at h
  · rename_i h'
    refine ⟨Classical.choose h', ?_⟩
    rw [← h]
    exact Classical.choose_spec (Classical.choose_spec h')
  · cases h
theorem ss_while {t : TT} {ft : List D → M Bool} {tb : TS} {b : List D → Option Out} (ml : List Mo) (ht : SEt cl W ml t ft) (hl : wk ms ml = true) (hx : wk ml m.ex = true) (hn : wk ml m.nx = true)
    (hb : SS cl W ml { m with nx := ml, ct := ml, bk := m.nx } tb b) : SS cl W ms m (tWhile t tb) (sWhile ft b) := by
  intro H w σ env st o e D p
  obtain ⟨n0, e0⟩ := sWhile_of e
  let Wn : Nat → L2.St → Hp → Prop := fun n σ' H' => ∃ w' env', StOk cl H' w' ml σ' env' ∧ Kp H w H' w' ∧ whF ft b n env' = some o
  refine ⟨Wn, ⟨n0, w, env, st.weak hl, Kp.refl, e0⟩, fun n σ' H' hW => ?_⟩
  obtain ⟨w', env', st', kp, e'⟩ := hW
  cases n with
  | zero => cases e'
  | succ n =>
    unfold whF at e'
    cases e1 : ft env' with
    | none => rw [e1] at e'; cases e'
    | some r =>
      rw [e1] at e'
      cases r with
      | ex c =>
        cases e'
        refine ht H' w' σ' env' st' _ e1 (fun z hz H2 s => ?_) _ fun d hd => nomatch hd
        cases hz
        exact (p.trans kp) H2 w' σ' ((st'.same s).weak hx) (Kp.same s)
      | ok q =>
        refine ht H' w' σ' env' st' _ e1 (fun z hz => nomatch hz) _ fun d hd H2 s => ?_
        cases hd
        have kp2 := kp.trans (Kp.same s)
        cases q with
        | false =>
          cases e'
          show (if false = true then _ else D.nx σ' H2)
          rw [if_neg Bool.false_ne_true]
          exact p H2 w' σ' ((st'.same s).weak hn) kp2
        | true =>
          simp only at e'
          show (if true = true then _ else D.nx σ' H2)
          rw [if_pos rfl]
          refine ⟨fun σ2 H3 => Wn n σ2 H3, fun σ2 H3 h => ⟨n, Nat.lt_succ_self _, h⟩, ?_⟩
          cases e2 : b env' with
          | none => rw [e2] at e'; cases e'
          | some o2 =>
            rw [e2] at e'
            refine hb H2 w' _ _ (st'.same s) o2 e2 _ ?_
            cases o2 with
            | nx e3 => exact fun H3 w3 σ3 st3 k3 => ⟨w3, e3, st3, kp2.trans k3, e'⟩
            | ct e3 => exact fun H3 w3 σ3 st3 k3 => ⟨w3, e3, st3, kp2.trans k3, e'⟩
            | bk e3 => cases e'; exact p.trans kp2
            | rt d e3 => cases e'; exact p.trans kp2
            | ex c e3 => cases e'; exact p.trans kp2
def sAug (i : Nat) (g : Int → Int → Int) (f : List D → M D) : List D → Option Out := fun env => match env[i]? with
  | some (.int a) => sX (f env) env fun d => match d with
    | .int b => some (.nx (env.set i (.int (g a b))))
    | _ => none
  | _ => none
def setAll : List Nat → List D → List D → Option (List D)
  | [], [], env => some env
  | i :: is, d :: ds, env => setAll is ds (env.set i d)
  | _, _, _ => none
def gNames : List Nat → TGs
  | [] => gNil
  | i :: is => gCons (gName i) (gNames is)
def setMo (bm : Mo) : List Nat → List Mo → List Mo
  | [], ms => ms
  | i :: is, ms => setMo bm is (ms.set i bm)
def sUnp (is : List Nat) (f : List D → M D) : List D → Option Out := fun env => sX (f env) env fun d => match d with
  | .tup ds => (setAll is ds env).map Out.nx
  | _ => none
def forT (is : List Nat) (b : List D → Option Out) : List D → List D → Option Out
  | [], env => some (.nx env)
  | .tup xs :: ds, env => match setAll is xs env with
    | some env1 => match b env1 with
      | some (.nx e) => forT is b ds e
      | some (.ct e) => forT is b ds e
      | some (.bk e) => some (.nx e)
      | o => o
    | none => none
  | _, _ => none
def sForT (is : List Nat) (f : List D → M D) (b : List D → Option Out) : List D → Option Out := fun env => sX (f env) env fun d => match d with
  | .lst ds => forT is b ds env
  | _ => none
def setSh : List Nat → Sh → List Mo → List Mo
  | i :: is, .tc s r, ms => setSh is r (ms.set i (if s = .fz then .pu else .ow s))
  | _, _, ms => ms
def sUnpE (is : List Nat) (f : List D → RE) : List D → Option Out := fun env => sE (f env) fun d e => match d with
  | .tup ds => (setAll is ds e).map Out.nx
  | _ => none
def dn (k : Nat) (s : Sh) (l : List Mo) : List Mo := if l[k]? = some (.ow s) then l.set k .pn else l
def okM (a b : Mo) : Bool := match b with
  | .lo => false
  | .sc => false
  | .pn => decide (a = .pn)
  | _ => true
def okL : List Mo → List Mo → Bool
  | _, [] => true
  | a :: as, b :: bs => okM a b && okL as bs
  | [], _ => false
def okK (k : Nat) (s : Sh) (l : List Mo) : Bool := match l[k]? with
  | none => true
  | some .un => true
  | some (.ow s') => decide (s' = s)
  | _ => false
def okp (k : Nat) (s : Sh) (ms l : List Mo) : Bool := okL ms l && okK k s l
end
end Mv

namespace Mv
open PySem L2 PySem.Spec
variable {cl : Nv}

def bos : List Mo → List Mo
  | [] => []
  | .bo k :: r => .bo k :: bos r
  | _ :: r => .un :: bos r
def PsOk (cl : Nv) (H : Hp) (w : Om) (pm : List Mo) (vs : List V) (ds : List D) : Prop := ∀ (i : Nat) m, pm[i]? = some m → m ≠ .un → ∃ v d, vs[i]? = some v ∧ ds[i]? = some d ∧ Own cl H w i m d v
def BoOk (cl : Nv) (H : Hp) (w : Om) (pm : List Mo) (vs : List V) (e : List D) : Prop := ∀ (i : Nat) k v, pm[i]? = some (.bo k) → vs[i]? = some v → ∃ d, e[i]? = some d ∧ Own cl H w i (.bo k) d v
def spOf (cl : Nv) (pm : List Mo) (rc : RC) (G : List D → Option Out) : Sp := fun vs H Q E => ∃ w ds o, vs.length = pm.length ∧ ds.length = pm.length ∧ Wf H w ∧
  PsOk cl H w pm vs ds ∧ G ds = some o ∧ match o with
  | .rt d e => ∀ H' w' v, Kp H w H' w' → Wf H' w' → Ret cl H' w' rc d v → BoOk cl H' w' pm vs e → Q v H'
  | .ex c e => ∀ H' w', Kp H w H' w' → Wf H' w' → BoOk cl H' w' pm vs e → E (.ref (cl c)) none H'
  | _ => False
def fnOf (g : List D → Option Out) (n : Nat) (rp : Bool) : List D → Option Out := fun ds => match g (ds ++ List.replicate (n - ds.length) .non) with
  | some (.nx e) => if rp = true then some (.rt .non e) else none
  | some (.rt d e) => some (.rt d e)
  | some (.ex c e) => some (.ex c e)
  | _ => none
theorem bos_len : ∀ pm, (bos pm).length = pm.length
  | [] => rfl
  | m :: r => by cases m <;> exact congrArg (· + 1) (bos_len r)
theorem bos_get : ∀ {pm : List Mo} {i : Nat} {k : Sh}, pm[i]? = some (.bo k) → (bos pm)[i]? = some (.bo k)
  | [], _, _, h => by simp at h
  | m :: r, 0, k, h => by simp at h; subst h; rfl
  | m :: r, i + 1, k, h => by
    have ih := bos_get (pm := r) (i := i) (k := k) (by simpa using h)
    cases m <;> simpa [bos] using ih
def mdOf (pm : List Mo) (n : Nat) (rc : RC) : Md :=
  let e := bos pm ++ List.replicate (n - pm.length) .un
  ⟨e, [], [], e, e, rc⟩
def isPu : RC → Bool
  | .pu => true
  | _ => false
theorem start_get {N : List Str} {vs : List V} {i : Nat} {v : V} (h : vs[i]? = some v) : (L2.start N vs)[i]? = some (some v) := by
  unfold L2.start
  have hl := (List.getElem?_eq_some_iff.mp h).1
  rw [List.getElem?_append_left (by simpa using hl), List.getElem?_map, h]
  rfl
theorem body_ok {pm : List Mo} {rc : RC} {N : List Str} {t : TS} {g : List D → Option Out} (hl : pm.length ≤ N.length)
    {vs : List V} {H : Hp} {Q : VK} {E : XK} (hs : SS cl (fun cls d _ H => E cls d H) (pm ++ List.replicate (N.length - pm.length) .un) (mdOf pm N.length rc) t g) (h : spOf cl pm rc (fnOf g N.length (isPu rc)) vs H Q E) : t { nx := fun _ H' => Q .non H', rt := Q } (L2.start N vs) H := by
  obtain ⟨w, ds, o, l1, l2, wf, ps, hG, post⟩ := h
  unfold fnOf at hG
  have st : StOk cl H w (pm ++ List.replicate (N.length - pm.length) .un) (L2.start N vs) (ds ++ List.replicate (N.length - ds.length) .non) := by
    refine ⟨wf, ?_, ?_, fun i m e n => ?_⟩
    · unfold L2.start; simp [l1]
    · simp [l2]
    · by_cases hi : i < pm.length
      · rw [List.getElem?_append_left hi] at e
        obtain ⟨v, d, a, b, c⟩ := ps i m e n
        exact ⟨v, d, start_get a, by rw [List.getElem?_append_left (by rw [l2]; exact hi)]; exact b, c⟩
      · rw [List.getElem?_append_right (Nat.le_of_not_lt hi), List.getElem?_replicate] at e
        split at e <;> cases e
        exact absurd rfl n
  have bo : ∀ {H' : Hp} {w' : Om} {σ' : L2.St} {e : List D}, StOk cl H' w' (bos pm ++ List.replicate (N.length - pm.length) .un) σ' e → Kp H w H' w' → BoOk cl H' w' pm vs e := by
    intro H' w' σ' e st' kp i k v hi hv
    have hlt : i < pm.length := (List.getElem?_eq_some_iff.mp hi).1
    obtain ⟨v', d', a, b, c⟩ := st'.sl i (.bo k) (by rw [List.getElem?_append_left (by rw [bos_len]; exact hlt)]; exact bos_get hi) (by intro z; cases z)
    obtain ⟨v0, d0, a0, b0, c0⟩ := ps i (.bo k) hi (by intro z; cases z)
    rw [hv] at a0
    cases a0
    have e1 : v' = v := by rw [c.1, kp.keep.pin, ← c0.1]
    subst e1
    exact ⟨d', b, c⟩
  cases e1 : g (ds ++ List.replicate (N.length - ds.length) .non) with
  | none => rw [e1] at hG; cases hG
  | some o1 =>
    rw [e1] at hG
    refine hs H w _ _ st o1 e1 _ ?_
    cases o1 with
    | nx e =>
      simp only at hG
      split at hG
      · rename_i hp
        cases hG
        intro H' w' σ' st' kp
        refine post H' w' .non kp st'.wf ?_ (bo st' kp)
        cases rc with
        | pu => exact .non
        | _ => cases hp
      · cases hG
    | rt d e => cases hG; exact fun H' w' σ' v st' kp r => post H' w' v kp st'.wf r (bo st' kp)
    | ex c e => cases hG; exact fun H' w' σ' st' kp => post H' w' kp st'.wf (bo st' kp)
    | bk e => cases hG
    | ct e => cases hG
section
variable {P : Program} {w : World} {K : PySem.W.Frag} {mg : Str → Option Value} {base : Heap} {x qual : Str} {params : Arguments} {body : List Stmt} {scope : Scope} {f : Addr} {fd : FuncData}
theorem fn_ok {N ps : List Str} {k : Nat} {pm : List Mo} {rc : RC} {t : TS} {g : List D → Option Out} (F : FunD K x qual params body scope [] [] f fd) (S : FnScope N ps scope) (hp : pm.length = ps.length) (hl : pm.length ≤ N.length)
    (hs : ∀ W, SS cl W (pm ++ List.replicate (N.length - pm.length) .un) (mdOf pm N.length rc) t g)
    (hb : ∀ (cdv : Value) (A : Around) (outer : List Env) (s : Shared) (H : Hp) (E : XK), Room k (A.deeper (PyProof.Rows.envOfC qual scope s.heap.objs.size f cdv)) → PSs (cxOf CX0 P w K mg base N qual scope f cdv A outer s H E).nox body t) :
    FnOk P w K mg base CX0 (k + 1) f fd ps (spOf cl pm rc (fnOf g N.length (isPu rc))) := by
  refine F.ok S (fun vs H Q E h => ?_) (fun cdv A outer s H vs Q E hr h => ⟨t, PSs.nox (hb cdv A outer s H E hr), body_ok hl (hs _) h⟩)
  obtain ⟨w, ds, o, l1, _⟩ := h
  rw [l1, hp]
theorem fn_okX {N ps : List Str} {k : Nat} {pm : List Mo} {rc : RC} {t : WX → TS} {g : List D → Option Out} (F : FunD K x qual params body scope [] [] f fd) (S : FnScope N ps scope) (hp : pm.length = ps.length) (hl : pm.length ≤ N.length)
    (hs : ∀ W, SS cl W (pm ++ List.replicate (N.length - pm.length) .un) (mdOf pm N.length rc) (t W) g)
    (hb : ∀ (cdv : Value) (A : Around) (outer : List Env) (s : Shared) (H : Hp) (E : XK), Room k (A.deeper (PyProof.Rows.envOfC qual scope s.heap.objs.size f cdv)) → PSs (cxOf (L2.CX P w) P w K mg base N qual scope f cdv A outer s H E) body (t fun cls d _ H => E cls d H)) :
    FnOk P w K mg base (L2.CX P w) (k + 1) f fd ps (spOf cl pm rc (fnOf g N.length (isPu rc))) := by
  refine F.ok S (fun vs H Q E h => ?_) (fun cdv A outer s H vs Q E hr h => ⟨_, hb cdv A outer s H E hr, body_ok hl (hs _) h⟩)
  obtain ⟨w, ds, o, l1, _⟩ := h
  rw [l1, hp]
end

def lentL : Option Lb → Option Lb
  | none => none
  | some _ => some .fo
def lent (w : Om) (vs : List V) (ds : List D) : Om := ⟨fun a => lentL (w a), fun j => (vs.getD j .non, ds.getD j .non)⟩
theorem lent_none {w : Om} {a : Addr} {vs : List V} {ds : List D} : lent w vs ds a = none ↔ w a = none := by
  show lentL (w a) = none ↔ w a = none
  cases w a with
  | none => exact Iff.rfl
  | some l => exact ⟨fun z => absurd (show (some Lb.fo : Option Lb) = none from z) (by simp), fun z => absurd z (by simp)⟩
theorem lent_some {w : Om} {a : Addr} {l : Lb} {vs : List V} {ds : List D} (h : w a = some l) : lent w vs ds a = some .fo := by
  show lentL (w a) = some .fo
  rw [h] <;> rfl
theorem lent_fo {w : Om} {a : Addr} {l : Lb} {vs : List V} {ds : List D} (h : lent w vs ds a = some l) : l = .fo ∧ ∃ l', w a = some l' := by
  have h2 : lentL (w a) = some l := h
  cases q : w a with
  | none => rw [q] at h2; exact nomatch (show (none : Option Lb) = some l from h2)
  | some l' => rw [q] at h2; exact ⟨(Option.some.inj (show some Lb.fo = some l from h2)).symm, l', rfl⟩
def arg1 : RC → Mo → Bool
  | c, .pu => toPu c
  | _, .lo => true
  | _, .pn => true
  | _, .un => true
  | _, _ => false
def argOk : List RC → List Mo → Bool
  | [], [] => true
  | c :: cs, m :: ms => arg1 c m && argOk cs ms
  | _, _ => false
theorem argOk_cons {c : RC} {cs : List RC} {m : Mo} {ms : List Mo} (h : argOk (c :: cs) (m :: ms) = true) : arg1 c m = true ∧ argOk cs ms = true := Bool.and_eq_true_iff.mp h
def resC : RC → RC
  | .pu => .pu
  | .fr k => .fr k
  | _ => .an
section
variable {H0 H H' : Hp} {w w' : Om} {vs0 : List V} {ds0 : List D}
theorem args_len : ∀ {cs : List RC} {pm : List Mo} {ds : List D} {vs : List V}, argOk cs pm = true → ResL cl H0 H w cs ds vs → vs.length = pm.length ∧ ds.length = pm.length
  | [], [], _, _, _, .nil => ⟨rfl, rfl⟩
  | c :: cs, m :: ms, _, _, h, .cons a b => by
    obtain ⟨h1, h2⟩ := args_len (argOk_cons h).2 b
    exact ⟨congrArg (· + 1) h1, congrArg (· + 1) h2⟩
  | [], _ :: _, _, _, h, _ => nomatch h
  | _ :: _, [], _, _, h, _ => nomatch h
theorem rep_lent {d : D} {v : V} (h : Rep cl H An d v) : Rep cl H (Lf (lent w vs0 ds0)) d v := h.any fun a _ => by
  cases q : w a with
  | none => exact .inl (lent_none.mpr q)
  | some l => exact .inr (lent_some q)
theorem arg_own {c : RC} {m : Mo} {d : D} {v : V} (wf : Wf H0 w) (h : arg1 c m = true) (n : m ≠ .un) (a : Res cl H0 H w c d v) (j : Nat) (hv : vs0.getD j .non = v) (hd : ds0.getD j .non = d) : Own cl H (lent w vs0 ds0) j m d v := by
  cases m with
  | un => exact absurd rfl n
  | pu => exact (a.pu wf h).any fun x z => lent_none.mpr z
  | lo => exact rep_lent (a.an wf)
  | pn => exact ⟨⟨hv.symm, hd.symm⟩, rep_lent (a.an wf)⟩
  | sc => exact nomatch h
  | ow k => exact nomatch h
  | bo k => exact nomatch h
theorem args_at (wf : Wf H0 w) : ∀ {cs : List RC} {pm : List Mo} {ds : List D} {vs : List V}, argOk cs pm = true → ResL cl H0 H w cs ds vs → ∀ (i : Nat) m, pm[i]? = some m → m ≠ .un → ∃ v d, vs[i]? = some v ∧ ds[i]? = some d ∧ ∀ j, vs0.getD j .non = v → ds0.getD j .non = d → Own cl H (lent w vs0 ds0) j m d v
  | [], [], _, _, _, .nil, i, m, e, _ => by simp at e
  | c :: cs, m0 :: ms, _, _, h, .cons a b, 0, m, e, n => by
    have e' : m0 = m := Option.some.inj e
    subst e'
    exact ⟨_, _, rfl, rfl, fun j => arg_own wf (argOk_cons h).1 n a j⟩
  | c :: cs, m0 :: ms, _, _, h, .cons a b, i + 1, m, e, n => args_at wf (argOk_cons h).2 b i m e n
  | [], _ :: _, _, _, h, _, _, _, _, _ => nomatch h
  | _ :: _, [], _, _, h, _, _, _, _, _ => nomatch h
theorem kp_same (k : Kp H (lent w vs0 ds0) H' w') : Same H H' := fun a o e => by
  cases q : w a with
  | none => exact (k.keep.fz a o e (lent_none.mpr q)).1
  | some l => exact (k.keep.fo a o e (lent_some q)).1
theorem kp_none (wf : Wf H w) (k : Kp H (lent w vs0 ds0) H' w') {a : Addr} (h : w' a = none) : w a = none := by
  cases q : w a with
  | none => rfl
  | some l =>
    obtain ⟨o, e, _⟩ := wf a l q
    have z := (k.keep.fo a o e (lent_some q)).2
    rw [h] at z
    cases z
theorem kp_new (k : Kp H (lent w vs0 ds0) H' w') {a : Addr} {i : Nat} (h : w' a = some (.ow i)) : H a = none := by
  cases q : H a with
  | none => rfl
  | some o =>
    cases q2 : w a with
    | none =>
      have z := (k.keep.fz a o q (lent_none.mpr q2)).2
      rw [h] at z
      cases z
    | some l =>
      have z := (k.keep.fo a o q (lent_some q2)).2
      rw [h] at z
      cases z
theorem ret_res {rc : RC} {d : D} {v : V} (wf : Wf H w) (k : Kp H (lent w vs0 ds0) H' w') (h : Ret cl H' w' rc d v) : Res cl H H' w (resC rc) d v := by
  cases rc with
  | pu => exact Rep.any h fun a z => kp_none wf k z
  | lo => exact Rep.any h fun a z => trivial
  | an => exact h
  | al js => exact Ret.al_an h
  | fr s =>
    obtain ⟨i, A, nd, t⟩ := h
    have hA := fun a m => (t.ob a m).1
    exact ⟨A, nd, fun a m => kp_new k (hA a m), t.mono (fun a o e q => ⟨e, kp_none wf k q, fun m => by have z : w' a = some (.ow i) := (t.ob a m).1; rw [show w' a = none from q] at z; cases z⟩) (fun _ _ e => e) fun a m o e _ => ⟨e, trivial⟩⟩
end
def ofOut : Option Out → M D
  | some (.rt d _) => some (.ok d)
  | some (.ex c _) => some (.ex c)
  | _ => none
def ofOutN : Option Out → M D
  | some (.rt d _) => some (.ok d)
  | _ => none
def eFn (G : List D → Option Out) (fs : List (List D → M D)) : List D → M D := fun env => bd (eArgs fs env) fun ds => ofOut (G ds)
def eFnN (G : List D → Option Out) (fs : List (List D → M D)) : List D → M D := fun env => bd (eArgs fs env) fun ds => ofOutN (G ds)
section
variable {W : WX} {ms : List Mo} {c c1 c2 : RC} {te ta tb : TE} {f g : List D → M D} {pm : List Mo} {rc : RC} {G : List D → Option Out} {cs : List RC} {fs : List (List D → M D)} {tr : TA}
theorem getD_of {α : Type} {l : List α} {i : Nat} {x d : α} (h : l[i]? = some x) : l.getD i d = x := by rw [List.getD_eq_getElem?_getD, h] <;> rfl
theorem call_sp {H0 H : Hp} {w : Om} {ds : List D} {vs : List V} {o : Out} {Q : VK} {E : XK} (wf : Wf H0 w) (s : Same H0 H) (hc : argOk cs pm = true) (r : ResL cl H0 H w cs ds vs) (hG : G ds = some o)
    (q : match o with
      | .rt d _ => ∀ H' v, Same H H' → Res cl H H' w (resC rc) d v → Q v H'
      | .ex c _ => ∀ H', Same H H' → E (.ref (cl c)) none H'
      | _ => False) : spOf cl pm rc G vs H Q E := by
  have wf1 := wf.same s
  obtain ⟨l1, l2⟩ := args_len hc r
  refine ⟨lent w vs ds, ds, o, l1, l2, fun a l e => ?_, fun i m e n => ?_, hG, ?_⟩
  · obtain ⟨_, l', q⟩ := lent_fo e
    exact wf1 a l' q
  · obtain ⟨v, d, h1, h2, h3⟩ := args_at (vs0 := vs) (ds0 := ds) wf hc r i m e n
    exact ⟨v, d, h1, h2, h3 i (getD_of h1) (getD_of h2)⟩
  · cases o with
    | rt d e => exact fun H' w' v k _ rr _ => q H' v (kp_same k) (ret_res wf1 k rr)
    | ex c e => exact fun H' w' k _ _ => q H' (kp_same k)
    | nx e => exact q
    | bk e => exact q
    | ct e => exact q
theorem ofOut_ok {o : Option Out} {r : R D} (h : ofOut o = some r) : (∃ d e, o = some (.rt d e) ∧ r = .ok d) ∨ ∃ c e, o = some (.ex c e) ∧ r = .ex c := by
  cases o with
  | none => cases h
  | some o =>
    cases o with
    | rt d e => exact .inl ⟨d, e, rfl, (Option.some.inj h).symm⟩
    | ex c e => exact .inr ⟨c, e, rfl, (Option.some.inj h).symm⟩
    | _ => cases h
theorem ofOutN_ok {o : Option Out} {r : R D} (h : ofOutN o = some r) : ∃ d e, o = some (.rt d e) ∧ r = .ok d := by
  cases o with
  | none => cases h
  | some o =>
    cases o with
    | rt d e => exact ⟨d, e, rfl, (Option.some.inj h).symm⟩
    | _ => cases h
theorem se_fn (hc : argOk cs pm = true) (hb : SEa cl W ms cs tr (eArgs fs)) : SE cl W ms (resC rc) (tCallS (spOf cl pm rc G) (WE W) tr) (eFn G fs) := fun H w σ env st r e x Q q =>
  hb.bind st e x fun ds H1 vs s1 r1 e => by
    rcases ofOut_ok e with ⟨d, e', hG, rfl⟩ | ⟨c, e', hG, rfl⟩
    · exact call_sp st.wf s1 hc r1 hG fun H' v s rr => q d rfl H' v (s1.trans s) (rr.base s1)
    · exact call_sp st.wf s1 hc r1 hG fun H' s => x c rfl H' (s1.trans s)
theorem se_fnN {E : XK} (hc : argOk cs pm = true) (hb : SEa cl W ms cs tr (eArgs fs)) : SE cl W ms (resC rc) (tCall (spOf cl pm rc G) [] E tr) (eFnN G fs) := fun H w σ env st r e x Q q =>
  hb.bind st e x fun ds H1 vs s1 r1 e => by
    obtain ⟨d, e', hG, rfl⟩ := ofOutN_ok e
    show spOf cl pm rc G (vs ++ []) H1 Q E
    rw [List.append_nil]
    exact call_sp st.wf s1 hc r1 hG fun H' v s rr => q d rfl H' v (s1.trans s) (rr.base s1)
def insOf (c : String) (m : Str) : D → Bool
  | .ins c' fds => decide (c' = c) && (fds.lookup m).isNone
  | _ => false
theorem insOf_at {c : String} {m : Str} {o : D} {v : V} {H : Hp} {P : Addr → Prop} (h : insOf c m o = true) (r : Rep cl H P o v) : ∃ p dx vs, v = .ref p ∧ H p = some (.ins (cl c) dx vs) ∧ vs.lookup m = none := by
  cases r with
  | @ins p c' dx vs fds h1 _ rf =>
    have h2 : (decide (c' = c) && (fds.lookup m).isNone) = true := h
    obtain ⟨h3, h4⟩ := Bool.and_eq_true_iff.mp h2
    have h5 : c' = c := of_decide_eq_true h3
    subst h5
    have h6 : fds.lookup m = none := by
      cases q : fds.lookup m with
      | none => rfl
      | some z => rw [q] at h4; exact nomatch h4
    exact ⟨p, dx, vs, rfl, h1, rf.lookup.2 h6⟩
  | _ => exact nomatch h
def eMe (c : String) (m : Str) (G : List D → Option Out) (f : List D → M D) (fs : List (List D → M D)) : List D → M D := fun env => bd (f env) fun o => if insOf c m o = true then bd (eArgs fs env) fun ds => ofOut (G (o :: ds)) else none
def eMeN (c : String) (m : Str) (G : List D → Option Out) (f : List D → M D) (fs : List (List D → M D)) : List D → M D := fun env => bd (f env) fun o => if insOf c m o = true then bd (eArgs fs env) fun ds => ofOutN (G (o :: ds)) else none
def tMethS (C : Addr) (m : Str) (sp : Sp) (E : L2.St → XK) (ta : TE) (t : TA) : TE := fun σ H Q => ta σ H fun x H1 => ∃ a dx fs, x = .ref a ∧ H1 a = some (.ins C dx fs) ∧ fs.lookup m = none ∧ t σ H1 fun vs H2 => sp (x :: vs) H2 Q (E σ)
theorem se_meN {cc : String} {m : Str} {E : XK} (hc : argOk (c1 :: cs) pm = true) (ha : SE cl W ms c1 ta f) (hb : SEa cl W ms cs tr (eArgs fs)) : SE cl W ms (resC rc) (tMeth (cl cc) m (spOf cl pm rc G) [] E ta tr) (eMeN cc m G f fs) := fun H w σ env st r e0 x Q q =>
  ha.bind st e0 x fun o H1 v s1 r1 e1 => by
    by_cases hi : insOf cc m o = true
    · rw [if_pos hi] at e1
      obtain ⟨p, dx, vs, hv, h1, h2⟩ := insOf_at hi (r1.an st.wf)
      refine ⟨p, dx, vs, hv, h1, h2, ?_⟩
      refine hb.bind (st.same s1) e1 (x.same s1) fun ds H2 us s2 r2 e2 => ?_
      obtain ⟨d, e', hG, rfl⟩ := ofOutN_ok e2
      rw [List.append_nil]
      exact call_sp st.wf (s1.trans s2) hc (.cons (r1.same s2) (r2.base s1)) hG fun H' v s rr => q d rfl H' v ((s1.trans s2).trans s) (rr.base (s1.trans s2))
    · rw [if_neg hi] at e1
      exact nomatch e1
theorem fld_step {cc : String} {n : Str} {K : PySem.W.Frag} (hC : Cls K (cl cc)) (hn : NoAttr K (cl cc) n) {o z : D} {v : V} {H1 : Hp} {P : Addr → Prop} {Q : VK} (e1 : dFld cc n o = some z) (rr : Rep cl H1 P o v) (qq : ∀ u, Rep cl H1 P z u → Q u H1) :
    ∃ a C dx fs v', v = .ref a ∧ H1 a = some (.ins C dx fs) ∧ Cls K C ∧ NoAttr K C n ∧ fs.lookup n = some v' ∧ Q v' H1 := by
  cases rr with
  | @ins p c' dx vs fds h1 _ rf =>
    have e2 : (if c' = cc then fds.lookup n else none) = some z := e1
    by_cases hh : c' = cc
    · rw [if_pos hh] at e2
      subst hh
      obtain ⟨u, h2, h3⟩ := rf.lookup.1 z e2
      exact ⟨p, _, dx, vs, u, rfl, h1, hC, hn, h2, qq u h3⟩
    · rw [if_neg hh] at e2
      exact nomatch e2
  | _ => exact nomatch e1
theorem se_fld {cc : String} {n : Str} {K : PySem.W.Frag} (hC : Cls K (cl cc)) (hn : NoAttr K (cl cc) n) (ha : SE cl W ms c1 ta f) : SE cl W ms (ixC c1) (tFld K ta n) (eUn (dFld cc n) f) := fun H w σ env st r e x Q q =>
  ha.bind st e x fun o H1 v s1 r1 e => by
    obtain ⟨z, e1, rfl⟩ := lift_ok e
    cases c1 with
    | pu => exact fld_step (P := Fz w) hC hn e1 r1 fun u ru => q z rfl H1 u s1 ru
    | lo => exact fld_step (P := Lf w) hC hn e1 r1 fun u ru => q z rfl H1 u s1 ru
    | an => exact fld_step (P := An) hC hn e1 r1 fun u ru => q z rfl H1 u s1 ru
    | al js => exact fld_step (P := An) hC hn e1 r1 fun u ru => q z rfl H1 u s1 ru
    | fr k => exact fld_step (P := Fz w) hC hn e1 (FrT.pu st.wf r1) fun u ru => q z rfl H1 u s1 ru
end
end Mv

namespace Mv
open PySem L2 PySem.Spec
variable {cl : Nv}
inductive AK where
  | v (c : RC)
  | l (k : Nat) (s : Sh) (pf : List D → Option (D → D))
  | m (k : Nat) (s : Sh)
def AK.slot : AK → Option Nat
  | .v _ => none
  | .l k _ _ => some k
  | .m k _ => some k
def AK.res : AK → RC
  | .v c => c
  | _ => .an
section
variable {H H' H1 : Hp} {w w' : Om} {ms ms' mn mx : List Mo} {σ : L2.St} {env : List D} {W : WX} {m : Md} {c c1 c2 : RC} {te ta tb ti tf : TE} {f g fi : List D → M D} {K : PySem.W.Frag} {pf : List D → Option (D → D)} {pm : List Mo} {rc : RC} {G : List D → Option Out} {fs : List (List D → M D)} {tr : TA}
def PlcA (cl : Nv) (H : Hp) (w : Om) (ms : List Mo) (σ : L2.St) (env : List D) (i : Nat) (s : Sh) (d0 : D) (v0 : V) (Rf : D → D) (A0 : List Addr) : Prop :=
  ∃ mo s' l d v L R, ms[i]? = some mo ∧ (mo = Mo.ow s' ∧ l = Lb.ow i ∨ mo = Mo.bo s' ∧ l = Lb.bo i ∧ v = (w.pin i).1) ∧ σ[i]? = some (some v) ∧ env[i]? = some d ∧ (L ++ A0 ++ R).Nodup ∧ (∀ a ∈ L ++ R, w a = some l) ∧ Tr cl H (Fz w) (fun a => w a = some l) s d0 v0 A0 ∧
    ∀ {H' : Hp} {P' O' : Addr → Prop} {d1 : D} {A1 : List Addr}, (∀ a o, H a = some o → w a = none → H' a = some o ∧ P' a) → (∀ a xs, H a = some (.tup xs) → H' a = some (.tup xs)) → (∀ a ∈ L ++ R, ∀ o, H a = some o → w a = some l → H' a = some o ∧ O' a) →
      Tr cl H' P' O' s d1 v0 A1 → Tr cl H' P' O' s' (Rf d1) v (L ++ A1 ++ R)
def ArgA (cl : Nv) (H0 H : Hp) (w : Om) (ms : List Mo) (σ : L2.St) (env : List D) (A : List Addr) : AK → D → V → Prop
  | .v c, d, v => A = [] ∧ Res cl H0 H w c d v
  | .l k s pf, d, v => ∃ Rf, pf env = some Rf ∧ PlcA cl H w ms σ env k s d v Rf A
  | .m k s, d, v => ms[k]? = some (.ow s) ∧ A.Nodup ∧ Tr cl H (Fz w) (fun a => w a = some (.ow k)) s d v A
inductive ArgL (cl : Nv) (H0 H : Hp) (w : Om) (ms : List Mo) (σ : L2.St) (env : List D) : List AK → List D → List V → List (List Addr) → Prop
  | nil : ArgL cl H0 H w ms σ env [] [] [] []
  | cons {A k d v ks ds vs As} : ArgA cl H0 H w ms σ env A k d v → ArgL cl H0 H w ms σ env ks ds vs As → ArgL cl H0 H w ms σ env (k :: ks) (d :: ds) (v :: vs) (A :: As)
theorem PlcA.same {i : Nat} {s : Sh} {d0 : D} {v0 : V} {Rf : D → D} {A0 : List Addr} (h : PlcA cl H w ms σ env i s d0 v0 Rf A0) (sm : Same H H') : PlcA cl H' w ms σ env i s d0 v0 Rf A0 := by
  obtain ⟨mo, s', l, d, v, L, R, h1, h2, h3, h4, h5, h6, h7, h8⟩ := h
  refine ⟨mo, s', l, d, v, L, R, h1, h2, h3, h4, h5, h6, h7.mono (fun a o e q => ⟨sm _ _ e, q⟩) (fun a xs e => sm _ _ e) (fun a m o e q => ⟨sm _ _ e, q⟩), fun {H2} {P'} {O'} {d1} {A1} g t q x => h8 (fun a o e z => g a o (sm _ _ e) z) (fun a xs e => t a xs (sm _ _ e)) (fun a ma o e z => q a ma o (sm _ _ e) z) x⟩
theorem ArgA.base {H0 H1 : Hp} {A : List Addr} {k : AK} {d : D} {v : V} (s : Same H0 H1) (h : ArgA cl H1 H w ms σ env A k d v) : ArgA cl H0 H w ms σ env A k d v := by
  cases k with
  | v c => exact ⟨h.1, h.2.base s⟩
  | l k s pf => exact h
  | m k s => exact h
theorem ArgL.base {H0 H1 : Hp} (s : Same H0 H1) : ∀ {ks : List AK} {ds : List D} {vs : List V} {As : List (List Addr)}, ArgL cl H1 H w ms σ env ks ds vs As → ArgL cl H0 H w ms σ env ks ds vs As
  | _, _, _, _, .nil => .nil
  | _, _, _, _, .cons a b => .cons (a.base s) (ArgL.base s b)
theorem ArgA.same {H0 : Hp} {A : List Addr} {k : AK} {d : D} {v : V} (s : Same H H') (h : ArgA cl H0 H w ms σ env A k d v) : ArgA cl H0 H' w ms σ env A k d v := by
  cases k with
  | v c => exact ⟨h.1, h.2.same s⟩
  | l k s' pf => obtain ⟨Rf, h1, h2⟩ := h; exact ⟨Rf, h1, h2.same s⟩
  | m k s' => exact ⟨h.1, h.2.1, h.2.2.mono (fun a o e q => ⟨s _ _ e, q⟩) (fun a xs e => s _ _ e) fun a m o e q => ⟨s _ _ e, q⟩⟩
def SEL (cl : Nv) (W : WX) (ms : List Mo) (ks : List AK) (ta : TA) (f : List D → M (List D)) : Prop :=
  ∀ H w σ env, StOk cl H w ms σ env → ∀ r, f env = some r → Xc cl W σ H r → ∀ Q : List V → Hp → Prop, (∀ ds, r = .ok ds → ∀ H' vs As, Same H H' → ArgL cl H H' w ms σ env ks ds vs As → Q vs H') → ta σ H Q
theorem SEL.bind {ks : List AK} {fa : List D → M (List D)} (h : SEL cl W ms ks tr fa) (st : StOk cl H w ms σ env) {β : Type} {k : List D → M β} {r : R β} (e : bd (fa env) k = some r) (x : Xc cl W σ H r) {Q : List V → Hp → Prop}
    (q : ∀ d H' v As, Same H H' → ArgL cl H H' w ms σ env ks d v As → k d = some r → Q v H') : tr σ H Q := by
  cases e1 : fa env with
  | none => rw [e1] at e; cases e
  | some r1 =>
    rw [e1] at e
    cases r1 with
    | ex y =>
      have e' : r = .ex y := (Option.some.inj e).symm
      refine h H w σ env st _ e1 (fun z hz H' s => ?_) Q fun d hd => nomatch hd
      cases hz
      exact x y e' H' s
    | ok d =>
      refine h H w σ env st _ e1 (fun z hz => nomatch hz) Q fun d' hd H' v As s r' => ?_
      cases hd
      exact q d H' v As s r' e
theorem ArgL.at {H0 : Hp} : ∀ {ks : List AK} {ds : List D} {vs : List V} {As : List (List Addr)} {i : Nat} {k : AK}, ArgL cl H0 H w ms σ env ks ds vs As → ks[i]? = some k → ∃ d v A, ds[i]? = some d ∧ vs[i]? = some v ∧ As[i]? = some A ∧ ArgA cl H0 H w ms σ env A k d v
  | [], _, _, _, _, _, .nil, e => by simp at e
  | k :: ks, _, _, _, 0, k', .cons a b, e => by
    have : k = k' := Option.some.inj e
    subst this
    exact ⟨_, _, _, rfl, rfl, rfl, a⟩
  | k :: ks, _, _, _, i + 1, k', .cons a b, e => by
    have := ArgL.at (i := i) b (by simpa using e)
    simpa using this
theorem ArgL.len {H0 : Hp} : ∀ {ks : List AK} {ds : List D} {vs : List V} {As : List (List Addr)}, ArgL cl H0 H w ms σ env ks ds vs As → ds.length = ks.length ∧ vs.length = ks.length ∧ As.length = ks.length
  | _, _, _, _, .nil => ⟨rfl, rfl, rfl⟩
  | _, _, _, _, .cons a b => let ⟨x, y, z⟩ := ArgL.len b; ⟨congrArg (· + 1) x, congrArg (· + 1) y, congrArg (· + 1) z⟩
def dis : List AK → Bool
  | [] => true
  | k :: r => (match k.slot with
    | none => true
    | some x => r.all fun y => decide (y.slot ≠ some x)) && dis r
def lk (ms : List Mo) (k : Nat) : Lb := match ms[k]? with
  | some (.bo _) => .bo k
  | _ => .ow k
theorem ArgA.lb {H0 : Hp} {A : List Addr} {k : AK} {d : D} {v : V} {x : Nat} (h : ArgA cl H0 H w ms σ env A k d v) (hx : k.slot = some x) : ∀ a ∈ A, w a = some (lk ms x) := by
  cases k with
  | v c => cases hx
  | l k s pf =>
    cases hx
    obtain ⟨Rf, _, mo, s', l, d, v, L, R, h1, h2, h3, h4, h5, h6, h7, h8⟩ := h
    intro a m
    have := (h7.ob a m).1
    unfold lk
    rcases h2 with ⟨rfl, rfl⟩ | ⟨rfl, rfl, _⟩ <;> (rw [h1]; exact this)
  | m k s =>
    cases hx
    intro a m
    unfold lk
    rw [h.1]
    exact (h.2.2.ob a m).1
def lab1 (ks : List AK) (i : Nat) : Option Lb := match ks[i]? with
  | some (.l _ _ _) => some (.bo i)
  | some (.m _ _) => some (.ow i)
  | _ => none
def wcL (w : Om) (ks : List AK) (As : List (List Addr)) (vs : List V) (ds : List D) : Om := ⟨fun a => match As.findIdx? (fun A => decide (a ∈ A)) with
  | some i => lab1 ks i
  | none => lentL (w a), fun j => (vs.getD j .non, ds.getD j .non)⟩
structure WcF (cl : Nv) (w : Om) (ms : List Mo) (ks : List AK) (As : List (List Addr)) (wc : Om) : Prop where
  inn : ∀ (i : Nat) (k : AK) (A : List Addr) (a : Addr), ks[i]? = some k → As[i]? = some A → a ∈ A → wc a = lab1 ks i ∧ ∃ x, k.slot = some x ∧ w a = some (lk ms x)
  out : ∀ (a : Addr), (∀ (i : Nat) (A : List Addr), As[i]? = some A → a ∉ A) → wc a = lentL (w a)
  cas : ∀ (a : Addr), (∀ (i : Nat) (A : List Addr), As[i]? = some A → a ∉ A) ∨ ∃ (i : Nat) (k : AK) (A : List Addr), ks[i]? = some k ∧ As[i]? = some A ∧ a ∈ A
def arg1L : RC → Mo → Bool
  | c, .pu => toPu c
  | c, .lo => toLo c
  | c, .pn => toLo c
  | _, .un => true
  | _, _ => false
def akOk : AK → Mo → Bool
  | .v c, m => arg1L c m
  | .l _ s _, .bo s' => decide (s = s')
  | .m _ s, .ow s' => decide (s = s')
  | _, _ => false
def aksOk : List AK → List Mo → Bool
  | [], [] => true
  | k :: ks, m :: ms => akOk k m && aksOk ks ms
  | _, _ => false
def updL : List (Option (Nat × (List D → Option (D → D)))) → Nat → List D → List D → List D → Option (List D)
  | [], _, _, _, e' => some e'
  | none :: ks, j, e, env, e' => updL ks (j + 1) e env e'
  | some (k, pf) :: ks, j, e, env, e' => match pf env, e[j]? with
    | some R, some d => updL ks (j + 1) e env (e'.set k (R d))
    | _, _ => none
def AK.ld : AK → Option (Nat × (List D → Option (D → D)))
  | .l k _ pf => some (k, pf)
  | _ => none
def mvd : List AK → List Mo → List Mo
  | [], ms => ms
  | .m k _ :: r, ms => mvd r (ms.set k .un)
  | _ :: r, ms => mvd r ms
def backL (ms : List Mo) (ks : List AK) (w w' : Om) : Om := ⟨fun a => match w' a with
  | some (.bo i) => match ks[i]? with
    | some (.l k _ _) => some (lk ms k)
    | _ => some .fo
  | some (.ow _) => some (.ow ms.length)
  | some .fo => w a
  | none => none, w.pin⟩
end
end Mv

namespace Mv
open PySem L2 PySem.Spec
variable {cl : Nv}
section
variable {H H' H1 : Hp} {w w' : Om} {ms ms' mn mx : List Mo} {σ : L2.St} {env : List D} {W : WX} {m : Md} {c c1 c2 : RC} {te ta tb ti tf : TE} {f g fi : List D → M D} {K : PySem.W.Frag} {pf : List D → Option (D → D)} {pm : List Mo} {rc : RC} {G : List D → Option Out} {fs : List (List D → M D)} {tr : TA} {ks : List AK} {cs : List RC}
abbrev Lds := List (Option (Nat × (List D → Option (D → D))))
def behL (ls : Lds) (env : List D) : Option Out → RE
  | some (.rt d e) => (updL ls 0 e env env).map fun e' => (.ok d, e')
  | some (.ex c e) => (updL ls 0 e env env).map fun e' => (.ex c, e')
  | _ => none
def behLN (ls : Lds) (env : List D) : Option Out → RE
  | some (.rt d e) => (updL ls 0 e env env).map fun e' => (.ok d, e')
  | _ => none
def eCallL (G : List D → Option Out) (fs : List (List D → M D)) (ls : Lds) : List D → RE := fun env => match eArgs fs env with
  | some (.ok ds) => behL ls env (G ds)
  | some (.ex c) => some (.ex c, env)
  | none => none
def eCallLN (G : List D → Option Out) (fs : List (List D → M D)) (ls : Lds) : List D → RE := fun env => match eArgs fs env with
  | some (.ok ds) => behLN ls env (G ds)
  | some (.ex c) => some (.ex c, env)
  | none => none
def eMethL (cc : String) (mt : Str) (G : List D → Option Out) (f : List D → M D) (fs : List (List D → M D)) (ls : Lds) : List D → RE := fun env => match f env with
  | some (.ok o) => if insOf cc mt o = true then match eArgs fs env with
    | some (.ok ds) => behL ls env (G (o :: ds))
    | some (.ex c) => some (.ex c, env)
    | none => none else none
  | some (.ex c) => some (.ex c, env)
  | none => none
def eMethLN (cc : String) (mt : Str) (G : List D → Option Out) (f : List D → M D) (fs : List (List D → M D)) (ls : Lds) : List D → RE := fun env => match f env with
  | some (.ok o) => if insOf cc mt o = true then match eArgs fs env with
    | some (.ok ds) => behLN ls env (G (o :: ds))
    | some (.ex c) => some (.ex c, env)
    | none => none else none
  | some (.ex c) => some (.ex c, env)
  | none => none
def tMakeS (C : Addr) (sp : Sp) (E : L2.St → XK) (t : TA) : TE := fun σ H Q => t σ H fun vs H1 => ∀ x dx, H1 x = none → H1 dx = none → dx ≠ x →
  sp (.ref x :: vs) (upd (upd H1 dx (.own x)) x (.ins C dx [])) (fun v H2 => v = .non ∧ Q (.ref x) H2) (E σ)
def ofMk : Option Out → M D
  | some (.rt .non e) => lift e[0]?
  | some (.ex c _) => some (.ex c)
  | _ => none
def ofMkN : Option Out → M D
  | some (.rt .non e) => lift e[0]?
  | _ => none
def eMake (cc : String) (G : List D → Option Out) (fs : List (List D → M D)) : List D → M D := fun env => bd (eArgs fs env) fun ds => ofMk (G (.ins cc [] :: ds))
def eMakeN (cc : String) (G : List D → Option Out) (fs : List (List D → M D)) : List D → M D := fun env => bd (eArgs fs env) fun ds => ofMkN (G (.ins cc [] :: ds))
theorem ofMk_ok {o : Option Out} {r : R D} (h : ofMk o = some r) : (∃ e d, o = some (.rt .non e) ∧ e[0]? = some d ∧ r = .ok d) ∨ ∃ c e, o = some (.ex c e) ∧ r = .ex c := by
  cases o with
  | none => cases h
  | some o =>
    cases o with
    | rt d e =>
      cases d with
      | non =>
        obtain ⟨x, h1, rfl⟩ := lift_ok (show lift e[0]? = some r from h)
        exact .inl ⟨e, x, rfl, h1, rfl⟩
      | _ => cases h
    | ex c e => exact .inr ⟨c, e, rfl, (Option.some.inj h).symm⟩
    | _ => cases h
theorem make_sp {n : Nat} {cc : String} {H0 H : Hp} {w : Om} {ds : List D} {vs : List V} {o : Out} {Q : VK} {E : XK} {x dx : Addr} (wf : Wf H0 w) (s : Same H0 H) (hc : argOk cs pm = true) (r : ResL cl H0 H w cs ds vs) (hx : H x = none) (hdx : H dx = none) (ne : dx ≠ x) (hG : G (.ins cc [] :: ds) = some o)
    (q : match o with
      | .rt d e => d = .non ∧ ∃ d', e[0]? = some d' ∧ ∀ H', Same H H' → FrT cl H H' w (.io n) d' (.ref x) → Q (.ref x) H'
      | .ex c _ => ∀ H', Same H H' → E (.ref (cl c)) none H'
      | _ => False) : spOf cl (.bo (.io n) :: pm) .pu G (.ref x :: vs) (upd (upd H dx (.own x)) x (.ins (cl cc) dx [])) (fun v H2 => v = .non ∧ Q (.ref x) H2) E := by
  have wf1 := wf.same s
  obtain ⟨l1, l2⟩ := args_len hc r
  let H2 : Hp := upd (upd H dx (.own x)) x (.ins (cl cc) dx [])
  have sm : Same H H2 := fun a o e => by
    show upd (upd H dx (.own x)) x (.ins (cl cc) dx []) a = some o
    rw [upd_ne (ne_of_none e hx), upd_ne (ne_of_none e hdx)]; exact e
  let wc : Om := ⟨fun a => if a = x then some (.bo 0) else lentL (w a), fun j => ((V.ref x :: vs).getD j .non, (D.ins cc [] :: ds).getD j .non)⟩
  have wx : wc x = some (.bo 0) := if_pos rfl
  have wo : ∀ a, a ≠ x → wc a = lentL (w a) := fun a h => if_neg h
  have old : ∀ a o, H a = some o → wc a = lentL (w a) := fun a o e => wo a (ne_of_none e hx)
  have wnew : w x = none := wf1.fresh hx
  have back : ∀ {H' w'}, Kp H2 wc H' w' → Same H H' ∧ (∀ a, w' a = none → w a = none) ∧ (∀ a, w' a = some (.bo 0) → H a = none) := fun {H' w'} k => by
    have key : ∀ a o, H a = some o → H' a = some o ∧ (w a = none → w' a = none) ∧ (w a ≠ none → w' a = some .fo) := fun a o e => by
      cases q2 : w a with
      | none =>
        obtain ⟨z1, z2⟩ := k.keep.fz a o (sm a o e) (by rw [old a o e, q2]; rfl)
        exact ⟨z1, fun _ => z2, fun z => absurd rfl z⟩
      | some l =>
        obtain ⟨z1, z2⟩ := k.keep.fo a o (sm a o e) (by rw [old a o e, q2]; rfl)
        exact ⟨z1, (fun z => nomatch z), fun _ => z2⟩
    refine ⟨fun a o e => (key a o e).1, fun a z => ?_, fun a z => ?_⟩
    · cases q2 : w a with
      | none => rfl
      | some l =>
        obtain ⟨o, e, _⟩ := wf1 a l q2
        have := (key a o e).2.2 (by rw [q2]; intro z; cases z)
        rw [z] at this; cases this
    · cases q2 : H a with
      | none => rfl
      | some o =>
        obtain ⟨_, z1, z2⟩ := key a o q2
        by_cases q3 : w a = none
        · rw [z1 q3] at z; cases z
        · rw [z2 q3] at z; cases z
  refine ⟨wc, .ins cc [] :: ds, o, congrArg (· + 1) l1, congrArg (· + 1) l2, fun a l e => ?_, fun i m e nm => ?_, hG, ?_⟩
  · by_cases ha : a = x
    · subst ha
      exact ⟨_, upd_same, rfl⟩
    · rw [wo a ha] at e
      cases q2 : w a with
      | none => rw [q2] at e; cases e
      | some l' =>
        obtain ⟨o, e2, nt⟩ := wf1 a l' q2
        exact ⟨o, sm a o e2, nt⟩
  · cases i with
    | zero =>
      have : m = .bo (.io n) := (Option.some.inj e).symm
      subst this
      exact ⟨_, _, rfl, rfl, rfl, [x], by simp, .io upd_same wx .nil⟩
    | succ i =>
      obtain ⟨v, d, h1, h2, h3⟩ := args_at (vs0 := vs) (ds0 := ds) wf hc r i m (by simpa using e) nm
      refine ⟨v, d, by simpa using h1, by simpa using h2, ?_⟩
      have o1 := h3 i (getD_of h1) (getD_of h2)
      have lf : ∀ {d v}, Rep cl H (Lf (lent w vs ds)) d v → Rep cl H2 (Lf wc) d v := fun rr => rr.mono (fun a o e q => ⟨sm a o e, by
        rcases q with q | q
        · exact .inl ((old a o e).trans q)
        · exact .inr ((old a o e).trans q)⟩) fun a xs e => sm a _ e
      cases m with
      | un => trivial
      | pu => exact Rep.mono (fun a o e q => ⟨sm a o e, (old a o e).trans q⟩) (fun a xs e => sm a _ e) o1
      | lo => exact lf o1
      | pn =>
        obtain ⟨⟨y1, y2⟩, y3⟩ := o1
        refine ⟨⟨?_, ?_⟩, lf y3⟩
        · rw [y1]; show vs.getD i .non = (V.ref x :: vs).getD (i + 1) .non; simp
        · rw [y2]; show ds.getD i .non = (D.ins cc [] :: ds).getD (i + 1) .non; simp
      | sc =>
        exfalso
        obtain ⟨v', d', _, _, h3'⟩ := args_at (vs0 := vs) (ds0 := ds) wf hc r i .sc (by simpa using e) nm
        have : ∀ {cs : List RC} {pm : List Mo} {i : Nat}, argOk cs pm = true → pm[i]? = some .sc → False := by
          intro cs pm
          induction pm generalizing cs with
          | nil => intro i _ h; simp at h
          | cons m0 r ih =>
            intro i h h4
            cases cs with
            | nil => exact nomatch h
            | cons c0 cs =>
              cases i with
              | zero => cases h4; exact nomatch (argOk_cons h).1
              | succ i => exact ih (argOk_cons h).2 (by simpa using h4)
        exact this hc (by simpa using e)
      | ow s =>
        exfalso
        have : ∀ {cs : List RC} {pm : List Mo} {i : Nat}, argOk cs pm = true → pm[i]? = some (.ow s) → False := by
          intro cs pm
          induction pm generalizing cs with
          | nil => intro i _ h; simp at h
          | cons m0 r ih =>
            intro i h h4
            cases cs with
            | nil => exact nomatch h
            | cons c0 cs =>
              cases i with
              | zero => cases h4; exact nomatch (argOk_cons h).1
              | succ i => exact ih (argOk_cons h).2 (by simpa using h4)
        exact this hc (by simpa using e)
      | bo s =>
        exfalso
        have : ∀ {cs : List RC} {pm : List Mo} {i : Nat}, argOk cs pm = true → pm[i]? = some (.bo s) → False := by
          intro cs pm
          induction pm generalizing cs with
          | nil => intro i _ h; simp at h
          | cons m0 r ih =>
            intro i h h4
            cases cs with
            | nil => exact nomatch h
            | cons c0 cs =>
              cases i with
              | zero => cases h4; exact nomatch (argOk_cons h).1
              | succ i => exact ih (argOk_cons h).2 (by simpa using h4)
        exact this hc (by simpa using e)
  · cases o with
    | rt d e =>
      obtain ⟨rfl, d', he, q⟩ := q
      intro H' w' v kp wf' rr bo
      obtain ⟨b1, b2, b3⟩ := back kp
      have rr' : Rep cl H' (Fz w') .non v := rr
      cases rr'
      obtain ⟨d2, h1, h2⟩ := bo 0 (.io n) (.ref x) rfl rfl
      rw [he] at h1
      cases h1
      obtain ⟨_, A, nd, t⟩ := h2
      refine ⟨rfl, q H' b1 ⟨A, nd, fun a m => b3 a (t.ob a m).1, t.mono (fun a o e q => ⟨e, b2 a q, fun m => ?_⟩) (fun _ _ e => e) fun a m o e _ => ⟨e, trivial⟩⟩⟩
      have z : w' a = some (.bo 0) := (t.ob a m).1
      rw [show w' a = none from q] at z
      cases z
    | ex c e => exact fun H' w' k _ _ => q H' (back k).1
    | nx e => exact q
    | bk e => exact q
    | ct e => exact q
theorem se_make {n : Nat} {cc : String} (hc : argOk cs pm = true) (hb : SEa cl W ms cs tr (eArgs fs)) : SE cl W ms (.fr (.io n)) (tMakeS (cl cc) (spOf cl (.bo (.io n) :: pm) .pu G) (WE W) tr) (eMake cc G fs) := fun H w σ env st r e x Q q =>
  hb.bind st e x fun ds H1 vs s1 r1 e => by
    intro y dx hy hdx ne
    rcases ofMk_ok e with ⟨e', d, hG, he, rfl⟩ | ⟨c, e', hG, rfl⟩
    · exact make_sp st.wf s1 hc r1 hy hdx ne hG ⟨rfl, d, he, fun H' s fr => q d rfl H' _ (s1.trans s) (fr.base s1)⟩
    · exact make_sp st.wf s1 hc r1 hy hdx ne hG fun H' s => x c rfl H' (s1.trans s)
end
section
variable {X : Cx} {CX : CXT} {k : Nat} {f C : Addr} {fd : FuncData} {ps : List Str} {sp : Sp} {E : L2.St → XK} {x m : Str} {p pos apos : Pos} {e o : Expr} {es : List Expr} {ta : TE} {t : TA}
theorem run_makeS {pins : List (Addr × Obj)} {σ : L2.St} {H : Hp} {s : Shared} {Q : VK} {us : List Value} {vs : List V} (M : Mk X.K C f) (F : FnOk X.prog X.w X.K X.mg X.base CX k f fd ps sp) (hr : Room (k + 1) X.A) (hb : Binds X.K fd ps [])
    (hx : PassesAt CX X σ (E σ)) (I : Inv X pins σ H s) (r : Vals vs us)
    (h : ∀ x dx, H x = none → H dx = none → dx ≠ x → sp (.ref x :: vs) (upd (upd H dx (.own x)) x (.ins C dx [])) (fun v H2 => v = .non ∧ Q (.ref x) H2) (E σ)) :
    wpAny (model X.prog X.w) X.A (call (.ref C) us) (EP X pins σ Q) X.xe s := by
  have hq := h (s.heap.objs.size + 1) s.heap.objs.size (I.hok.fresh (Nat.le_succ _)) (I.hok.fresh (Nat.le_refl _)) (Nat.ne_of_lt (Nat.lt_succ_self _))
  have I2 := Inv.made (C := C) I
  have r2 : Vals (V.ref (s.heap.objs.size + 1) :: vs) (Value.ref (s.heap.objs.size + 1) :: us) := .cons rfl r
  have hl : (Value.ref (s.heap.objs.size + 1) :: us).length = ps.length := by
    have e := r2.length
    rw [F.len _ _ _ _ hq] at e
    exact e.symm
  have b := hb _ (Value.ref (s.heap.objs.size + 1) :: us) I2.kIn (by rw [List.append_nil]; exact hl)
  rw [List.append_nil] at b
  refine wpAny_call (make_map (f := f) I.kIn M.makes M.init (beq_iff_eq.mp M.fn) (codeAny_mono (F.run _ X.stack _ _ ⟨Value.ref (s.heap.objs.size + 1) :: us, []⟩ (Value.ref (s.heap.objs.size + 1) :: us) _ _ (E σ) (hr.make C us [])
    (I2.env0.make C us []) b r2 hq) fun r s' hq' => ?_))
  cases r with
  | error e => exact hx pins _ _ e s' I2 hq'
  | ok fl =>
    cases fl with
    | ret u =>
      obtain ⟨v, H', I3, rv, ev, q3⟩ := I2.after hq'
      subst ev
      exact ⟨rv, ⟨V.ref (s.heap.objs.size + 1), H', I3, rfl, q3⟩⟩
    | next => exact False.elim hq'
    | brk => exact False.elim hq'
    | cont => exact False.elim hq'
theorem pe_makeE (M : Mk X.K C f) (F : FnOk X.prog X.w X.K X.mg X.base CX k f fd ps sp) (hr : Room (k + 1) X.A) (hg : Gl X x) (hm : X.mg x = some (.ref C)) (hb : Binds X.K fd ps []) (hx : ∀ σ, PassesAt CX X σ (E σ))
    (ha : PA X (e :: es) t) (hdb : (x == ("__debug__" : Str)) = false := by decide) (he : starEach (e :: es) X.env = (false, eval e X.env) :: starEach es X.env := by rfl) (hpl : (backTo pos (starEach es X.env)).any (·.1) = false := by rfl) :
    PE X (.Call (.Name x p) (e :: es) [] pos) (tMakeS C sp E t) := by
  refine ⟨fun pins s σ H Q I h => ?_⟩
  refine wpAny_Call_Name_kw (ld_glob I hg hm ?_ hdb)
  refine PySem.W.callWith_K (h₀ := X.base) I.ok.mod.kin M.kp (thn (ha.run pos pins s σ H _ I h) fun us s1 ⟨vs, H1, I1, r, q⟩ => ⟨I1.kIn, ?_⟩) he hpl
  exact run_makeS M F hr hb (hx σ) I1 r q
end
end Mv

namespace Mv
open PySem L2
variable {cl : Nv}
def bndL (k : Int) : Bool := decide (-4611686018427387904 ≤ k) && decide (k ≤ 1000000)
theorem bndL_of {k : Int} (h : bndL k = true) : -(2 ^ 62) ≤ k ∧ k ≤ 1000000 := by
  unfold bndL at h
  rw [Bool.and_eq_true, decide_eq_true_eq, decide_eq_true_eq] at h
  omega
theorem bndL_ok {k : Int} (h0 : -1000000000000 ≤ k) (h1 : k ≤ 1000000) : bndL k = true := by
  unfold bndL
  rw [Bool.and_eq_true, decide_eq_true_eq, decide_eq_true_eq]
  omega
def okO {α : Type} : M α → Option α
  | some (.ok x) => some x
  | _ => none
@[simp] theorem okO_ok {α : Type} {x : α} : okO (some (.ok x)) = some x := rfl
theorem okO_some {α : Type} {m : M α} {x : α} (h : okO m = some x) : m = some (.ok x) := by
  cases m with
  | none => exact nomatch h
  | some r =>
    cases r with
    | ok y => exact congrArg (fun z => some (R.ok z)) (Option.some.inj h)
    | ex c => exact nomatch h
def lcF (i : Nat) (t : List D → M Bool) (g : List D → M D) : List D → List D → Option (List D)
  | [], _ => some []
  | d :: ds, env => (okO (t (env.set i d))).bind fun b => if b = true then (okO (g (env.set i d))).bind fun y => (lcF i t g ds env).map (y :: ·) else lcF i t g ds env
def tT : List D → M Bool := fun _ => some (.ok true)
abbrev WF : WX := fun _ _ _ _ => False
section
variable {H H' H1 : Hp} {w w' : Om} {ms ms' : List Mo} {σ : L2.St} {env : List D} {W : WX} {m : Md} {c c1 c2 : RC} {te ta tb tf : TE} {f g : List D → M D} {K : PySem.W.Frag} {tt : TT} {ft : List D → M Bool}
theorem set_yes : SEt cl W ms tYes tT := fun H w σ env st r e x Q q => by
  cases e
  exact q true rfl H (Same.refl H)
theorem StOk.mutO {p : Addr} {o' : HO} {q : Nat} (h : StOk cl H w ms σ env) (hp : w p = some (.ow q)) (hq : ms.length ≤ q) (nt : isTup o' = false) : StOk cl (upd H p o') w ms σ env ∧ Keep H w (upd H p o') w := by
  have k : Keep H w (upd H p o') w := by
    refine ⟨fun a o e z => ⟨?_, z⟩, fun a o e z => ⟨?_, z⟩, rfl⟩
    · rw [upd_ne fun y : a = p => by subst y; rw [hp] at z; cases z]; exact e
    · rw [upd_ne fun y : a = p => by subst y; rw [hp] at z; cases z]; exact e
  refine ⟨⟨fun a l e => ?_, h.ls, h.le, fun j mj e n => ?_⟩, k⟩
  · by_cases ha : a = p
    · subst ha; exact ⟨o', upd_same, nt⟩
    · rw [upd_ne ha]; exact h.wf a l e
  · obtain ⟨v', e', a, b, o⟩ := h.sl j mj e n
    refine ⟨v', e', a, b, o.keep k h.wf fun a oa y ea => ⟨?_, rfl⟩⟩
    have hj : j < ms.length := (List.getElem?_eq_some_iff.mp e).1
    rw [upd_ne ?_]
    · exact ea
    · intro z
      subst z
      rcases y with y1 | y1
      · rw [y1] at hp; injection hp with z1; injection z1 with z2; omega
      · rw [y1] at hp; injection hp with z1; cases z1
theorem StOk.gone {i : Nat} (h : StOk cl H w ms σ env) : StOk cl H w (ms.set i .un) (σ.set i none) env := by
  refine ⟨h.wf, by simp [h.ls], by simp [h.le], fun j m e n => ?_⟩
  by_cases hj : j = i
  · subst hj
    have hl : j < ms.length := by
      have := (List.getElem?_eq_some_iff.mp e).1
      simpa using this
    rw [List.getElem?_set_self hl] at e
    cases e
    exact absurd rfl n
  · rw [List.getElem?_set_ne (Ne.symm hj)] at e
    obtain ⟨v', d', a, b, o⟩ := h.sl j m e n
    exact ⟨v', d', by rw [List.getElem?_set_ne (Ne.symm hj)]; exact a, b, o⟩
def labD (w : Om) (D : Addr) (n : Nat) : Om := ⟨fun a => if a = D then some (.ow n) else w a, w.pin⟩
theorem labD_ne {w : Om} {D a : Addr} {n : Nat} (h : a ≠ D) : labD w D n a = w a := if_neg h
theorem labD_eq {w : Om} {D : Addr} {n : Nat} : labD w D n D = some (.ow n) := if_pos rfl
theorem StOk.relabelS (h : StOk cl H w ms σ env) (s : Same H H') (hw : ∀ a o, H a = some o → w' a = w a) (hp : w'.pin = w.pin) (wf : Wf H' w') : StOk cl H' w' ms σ env :=
  h.other ⟨fun a o e q => ⟨s a o e, (hw a o e).trans q⟩, fun a o e q => ⟨s a o e, (hw a o e).trans q⟩, hp⟩ wf fun j m a o _ _ _ e => ⟨s a o e, hw a o e⟩
def itOk (c : RC) (s : Sh) : Bool := match c with
  | .pu => decide (s = .fz)
  | .fr s' => decide (s = s') || decide (s = .fz)
  | _ => false
theorem lc_gen {J : It} {i : Nat} {s : Sh} {P0 : Om → Addr → Prop} {bm : Mo} {ds : List D} {ys : List D} {Q : VK}
    (hset : ∀ {H w σ env d v}, StOk cl H w (ms.set i .un) σ env → Rep cl H (P0 w) d v → StOk cl H w (ms.set i bm) (σ.set i (some v)) (env.set i d))
    (st : StOk cl H1 w ms σ env) (e : lcF i ft g ds env = some ys) (hlim : ds.length ≤ LIM)
    (hstop : ∀ k H', (∀ a o, H1 a = some o → H' a = some o) → ds.length ≤ k → J.stop k H')
    (hgo : ∀ (k : Nat) H' (w1 : Om) d, (∀ a o, H1 a = some o → H' a = some o) → (∀ a o, H1 a = some o → w1 a = w a) → ds[k]? = some d → J.go k H' ∧ ∀ x H2, J.yld k H' x H2 → H2 = H' ∧ Rep cl H' (P0 w1) d x)
    (ht : SEt cl WF (ms.set i bm) tt ft) (he : SE cl WF (ms.set i bm) c2 te g) (hc2 : itOk c2 s = true)
    (q : ∀ H' v, Same H1 H' → FrT cl H1 H' w (.ls s) (.lst ys) v → Q v H') :
    ∀ D, H1 D = none → ∃ Wn : Nat → Nat → Hp → Prop, (∃ m, Wn 0 m (upd H1 D (.lst []))) ∧ ∀ k n H, Wn k n H →
      (J.stop k H ∧ Q (.ref D) H) ∨ (J.go k H ∧ ∃ Nx : Hp → Prop, (∀ H', Nx H' → ∃ m', m' < n ∧ Wn (k + 1) m' H') ∧ ∀ x H', J.yld k H x H' → gName i x (wipe σ [i]) H' fun σ2 H2 => wipe σ2 [i] = wipe σ [i] ∧ tt σ2 H2 fun b H3 =>
        if b = true then te σ2 H3 fun y H4 => ∃ acc, H4 D = some (.lst acc) ∧ acc.length < sizeLine ∧ Nx (upd H4 D (.lst (acc ++ [y]))) else Nx H3) := by
  intro D hD
  have s0 : Same H1 (upd H1 D (.lst [])) := new_same hD
  have wf0 : Wf (upd H1 D (.lst [])) (labD w D ms.length) := fun a l z => by
    by_cases ha : a = D
    · subst ha; exact ⟨_, upd_same, rfl⟩
    · rw [labD_ne ha] at z
      rw [upd_ne ha]
      exact st.wf a l z
  have st0 := st.relabelS s0 (w' := labD w D ms.length) (fun a o z => labD_ne (ne_of_none z hD)) rfl wf0
  let Wn : Nat → Nat → Hp → Prop := fun k n H => n + k = ds.length ∧ ∃ w1 acc outs rest B, H D = some (.lst acc) ∧ acc.length ≤ k ∧ w1 D = some (.ow ms.length) ∧ (D :: B).Nodup ∧ (∀ a ∈ B, H1 a = none) ∧ TrL cl H (Fz w1) (fun a => w1 a = some (.ow ms.length)) s outs acc B ∧ StOk cl H w1 ms σ env ∧ (∀ a o, H1 a = some o → w1 a = w a) ∧ (∀ a o, H1 a = some o → H a = some o) ∧ lcF i ft g (ds.drop k) env = some rest ∧ outs ++ rest = ys
  refine ⟨Wn, ⟨ds.length, by simp, labD w D ms.length, [], [], ys, [], upd_same, Nat.le_refl _, labD_eq, by simp, fun a m => absurd m List.not_mem_nil, .nil, st0, fun a o z => labD_ne (ne_of_none z hD), fun a o z => s0 a o z, by simpa using e, rfl⟩, fun k n H hW => ?_⟩
  obtain ⟨hk, w1, acc, outs, rest, B, hHD, hacc, hwD, ndB, frB, rl, stk, hw1, old, erest, hys⟩ := hW
  by_cases hlt : k < ds.length
  · right
    have hd : ds[k]? = some ds[k] := List.getElem?_eq_getElem hlt
    obtain ⟨g1, g2⟩ := hgo k H w1 _ old hw1 hd
    refine ⟨g1, fun H' => Wn (k + 1) (n - 1) H', fun H' h => ⟨n - 1, by omega, h⟩, fun x H2 y => ?_⟩
    obtain ⟨rfl, rx⟩ := g2 x H2 y
    have w2 : wipe ((wipe σ [i]).set i (some x)) [i] = wipe σ [i] := by
      show (((σ.set i none).set i (some x)).set i none) = σ.set i none
      rw [List.set_set, List.set_set]
    refine ⟨w2, ?_⟩
    rw [List.drop_eq_getElem_cons hlt] at erest
    have erest' : (okO (ft (env.set i ds[k]))).bind (fun b => if b = true then (okO (g (env.set i ds[k]))).bind fun y => (lcF i ft g (ds.drop (k + 1)) env).map (y :: ·) else lcF i ft g (ds.drop (k + 1)) env) = some rest := erest
    have st3 : StOk cl H2 w1 (ms.set i bm) ((wipe σ [i]).set i (some x)) (env.set i ds[k]) := hset stk.gone rx
    cases eb : okO (ft (env.set i ds[k])) with
    | none => rw [eb] at erest'; exact nomatch erest'
    | some b =>
      rw [eb] at erest'
      have hft := okO_some eb
      refine ht H2 _ _ _ st3 _ hft (fun z hz => nomatch hz) _ fun b' hb' H3 s3 => ?_
      cases hb'
      have erest2 : (if b = true then (okO (g (env.set i ds[k]))).bind fun y => (lcF i ft g (ds.drop (k + 1)) env).map (y :: ·) else lcF i ft g (ds.drop (k + 1)) env) = some rest := erest'
      have mono3 : ∀ {H3 : Hp}, Same H2 H3 → TrL cl H3 (Fz w1) (fun a => w1 a = some (.ow ms.length)) s outs acc B := fun s3 => rl.mono (fun a o e q => ⟨s3 _ _ e, q⟩) (fun a xs e => s3 _ _ e) fun a m o e q => ⟨s3 _ _ e, q⟩
      cases b with
      | false =>
        rw [if_neg Bool.false_ne_true] at erest2
        rw [if_neg Bool.false_ne_true]
        exact ⟨by omega, w1, acc, outs, rest, B, s3 _ _ hHD, by omega, hwD, ndB, frB, mono3 s3, stk.same s3, hw1, fun a o z => s3 _ _ (old a o z), erest2, hys⟩
      | true =>
        rw [if_pos rfl] at erest2
        rw [if_pos rfl]
        cases eg : okO (g (env.set i ds[k])) with
        | none => rw [eg] at erest2; exact nomatch erest2
        | some yd =>
          rw [eg] at erest2
          have hg := okO_some eg
          have erest3 : (lcF i ft g (ds.drop (k + 1)) env).map (yd :: ·) = some rest := erest2
          obtain ⟨rest', er, rfl⟩ := Option.map_eq_some_iff.mp erest3
          refine he H3 _ _ _ (st3.same s3) _ hg (fun z hz => nomatch hz) _ fun d' hd' H4 yv s4 ry => ?_
          cases hd'
          have s34 := s3.trans s4
          have st4 := stk.same s34
          -- the new item, with labels
          have item : ∃ w5 A, StOk cl H4 w5 ms σ env ∧ (∀ a o, H3 a = some o → w5 a = w1 a) ∧ A.Nodup ∧ (∀ a ∈ A, H3 a = none) ∧ Tr cl H4 (Fz w5) (fun a => w5 a = some (.ow ms.length)) s yd yv A := by
            have puc : toPu c2 = true → s = .fz → ∃ w5 A, StOk cl H4 w5 ms σ env ∧ (∀ a o, H3 a = some o → w5 a = w1 a) ∧ A.Nodup ∧ (∀ a ∈ A, H3 a = none) ∧ Tr cl H4 (Fz w5) (fun a => w5 a = some (.ow ms.length)) s yd yv A := fun h1 h2 => by
              subst h2
              exact ⟨w1, [], st4, fun _ _ _ => rfl, List.nodup_nil, fun a m => absurd m List.not_mem_nil, .fz (ry.pu (stk.wf.same s3) h1)⟩
            cases c2 with
            | pu => exact puc rfl (of_decide_eq_true hc2)
            | lo => cases hc2
            | an => cases hc2
            | al js => cases hc2
            | fr s' =>
              have hh : s = s' ∨ s = .fz := by simpa [itOk] using hc2
              rcases hh with rfl | h2
              · obtain ⟨w5, a1, a2, a3, a4, A, a5, a6, a7⟩ := (stk.same s3).labX s4 ry
                exact ⟨w5, A, a1, a4, a5, a6, a7⟩
              · exact puc rfl h2
          obtain ⟨w5, A, st5, hw5, nA, frA, tA⟩ := item
          have hD3 : H3 D = some (.lst acc) := s3 _ _ hHD
          have hwD5 : w5 D = some (.ow ms.length) := (hw5 _ _ hD3).trans hwD
          obtain ⟨m1, m2⟩ := st5.mutO (o' := .lst (acc ++ [yv])) hwD5 (Nat.le_refl _) rfl
          have hAD : ∀ a ∈ A, a ≠ D := fun a m z => by subst z; rw [frA a m] at hD3; cases hD3
          have hBD : ∀ a ∈ B, a ≠ D := fun a m z => by subst z; exact (List.nodup_cons.mp ndB).1 m
          have hBe : ∀ a ∈ B, ∃ o, H3 a = some o := fun a m => by
            obtain ⟨_, o, e, _⟩ := rl.ob a m
            exact ⟨o, s3 _ _ e⟩
          have up : ∀ a, a ≠ D → upd H4 D (.lst (acc ++ [yv])) a = H4 a := fun a h => upd_ne h
          have fzU : ∀ a o, H4 a = some o → Fz w5 a → upd H4 D (.lst (acc ++ [yv])) a = some o ∧ Fz w5 a := fun a o e q => ⟨by rw [up a fun z => by subst z; rw [show w5 a = none from q] at hwD5; cases hwD5]; exact e, q⟩
          have tupU : ∀ a xs, H4 a = some (.tup xs) → upd H4 D (.lst (acc ++ [yv])) a = some (.tup xs) := fun a xs e => m2.tup st5.wf a xs e
          have t1 : TrL cl (upd H4 D (.lst (acc ++ [yv]))) (Fz w5) (fun a => w5 a = some (.ow ms.length)) s outs acc B := rl.mono (fun a o e q => ⟨by
            rw [up a fun z => by subst z; have q' : w1 a = none := q; rw [hwD] at q'; cases q']
            exact s34 _ _ e, (hw5 a o (s3 _ _ e)).trans q⟩) (fun a xs e => tupU a xs (s34 _ _ e)) fun a m o e q => ⟨by rw [up a (hBD a m)]; exact s34 _ _ e, (hw5 a o (s3 _ _ e)).trans q⟩
          have t2 : Tr cl (upd H4 D (.lst (acc ++ [yv]))) (Fz w5) (fun a => w5 a = some (.ow ms.length)) s yd yv A := tA.mono fzU tupU fun a m o e q => ⟨by rw [up a (hAD a m)]; exact e, q⟩
          refine ⟨acc, s34 _ _ hHD, LIM_lt (by omega), by omega, w5, acc ++ [yv], outs ++ [yd], rest', B ++ A, upd_same, by simp; omega, hwD5, ?_, fun a m => ?_, ?_, m1, fun a o z => (hw5 a o (s3 _ _ (old a o z))).trans (hw1 a o z), fun a o z => ?_, er, by simpa using hys⟩
          · obtain ⟨n1, n2⟩ := List.nodup_cons.mp ndB
            refine List.nodup_cons.mpr ⟨fun m => ?_, List.nodup_append.mpr ⟨n2, nA, fun a m b m2 z => ?_⟩⟩
            · rcases List.mem_append.mp m with m | m
              · exact n1 m
              · exact hAD D m rfl
            · subst z
              obtain ⟨o3, e3⟩ := hBe a m
              rw [frA a m2] at e3
              cases e3
          · rcases List.mem_append.mp m with m | m
            · exact frB a m
            · cases h : H1 a with
              | none => rfl
              | some o => have := s3 _ _ (old a o h); rw [frA a m] at this; cases this
          · have z := TrL.cons t2 (TrL.nil (s := s))
            rw [List.append_nil] at z
            exact t1.append z
          · rw [upd_ne (ne_of_none z hD)]
            exact s34 _ _ (old a o z)
  · left
    have hz : ds.drop k = [] := List.drop_eq_nil_of_le (by omega)
    rw [hz] at erest
    have er : rest = [] := (Option.some.inj (show some [] = some rest from erest)).symm
    subst er
    rw [List.append_nil] at hys
    subst hys
    refine ⟨hstop k H old (by omega), q H _ (fun a o z => old a o z) ⟨D :: B, ndB, mem_cn hD frB, .ls hHD trivial (rl.mono (fun a o e q => ⟨e, ?_, ?_⟩) (fun _ _ e => e) fun a m o e _ => ⟨e, trivial⟩)⟩⟩
    · cases h1 : H1 a with
      | none => exact st.wf.fresh h1
      | some o1 => rw [← hw1 a o1 h1]; exact q
    · intro m
      have q' : w1 a = none := q
      rcases List.mem_cons.mp m with rfl | m
      · rw [hwD] at q'; cases q'
      · have z : w1 a = some (.ow ms.length) := (rl.ob a m).1
        rw [q'] at z; cases z
def eLc (i : Nat) (f : List D → M D) (ft : List D → M Bool) (g : List D → M D) : List D → M D := fun env => bd (f env) fun d => match d with
  | .lst ds => if ds.length ≤ LIM then lift ((lcF i ft g ds env).map D.lst) else none
  | _ => none
theorem eLc_of {i : Nat} {ds : List D} {r : R D} (e : (if ds.length ≤ LIM then lift ((lcF i ft g ds env).map D.lst) else none) = some r) : ds.length ≤ LIM ∧ ∃ ys, lcF i ft g ds env = some ys ∧ r = .ok (.lst ys) := by
  by_cases h : ds.length ≤ LIM
  · rw [if_pos h] at e
    obtain ⟨z, e1, rfl⟩ := lift_ok e
    obtain ⟨ys, e2, rfl⟩ := Option.map_eq_some_iff.mp e1
    exact ⟨h, ys, e2, rfl⟩
  · rw [if_neg h] at e
    exact nomatch e
theorem se_lc {i : Nat} {s : Sh} (hc : toPu c1 = true) (h : SE cl W ms c1 tf f) (ht : SEt cl WF (ms.set i .pu) tt ft) (he : SE cl WF (ms.set i .pu) c2 te g) (hc2 : itOk c2 s = true) : SE cl W ms (.fr (.ls s)) (tLc (iList K tf) (gName i) tt te [i]) (eLc i f ft g) := fun H w σ env st r e x Q q =>
  h.bind st e x fun d H1 v s1 r1 e => by
    have rp := r1.pu st.wf hc
    cases rp with
    | @lst a vs ds h1 hp ra =>
      obtain ⟨hlim, ys, e1, rfl⟩ := eLc_of e
      refine ⟨a, rfl, ⟨vs, .inl (.inl h1)⟩, lc_gen (P0 := fun w => Fz w) (bm := .pu) (fun st r => by have z := st.setPu (i := i) r; rw [List.set_set] at z; exact z) (st.same s1) e1 hlim (fun k H' old hk => ⟨vs, .inl (.inl (old _ _ h1)), by rw [← ra.length]; exact hk⟩) (fun k H' w1 d old hw1 hd => ?_) ht he hc2 fun H' v s fr => q _ rfl H' v (s1.trans s) (fr.base s1)⟩
      obtain ⟨v, hv, rv⟩ := ra.get hd
      refine ⟨⟨vs, v, .inl (.inl (old _ _ h1)), hv⟩, fun x H2 y => ?_⟩
      obtain ⟨rfl, y⟩ := y
      have hx := y vs (.inl (.inl (old _ _ h1)))
      rw [hv] at hx
      cases hx
      exact ⟨rfl, rv.mono (fun a o z p => ⟨old a o z, (hw1 a o z).trans p⟩) fun a xs z => old a _ z⟩
    | _ => simp only at e; exact nomatch e
theorem se_lcLo {i : Nat} {s : Sh} (hc : toLo c1 = true) (h : SE cl W ms c1 tf f) (ht : SEt cl WF (ms.set i .lo) tt ft) (he : SE cl WF (ms.set i .lo) c2 te g) (hc2 : itOk c2 s = true) : SE cl W ms (.fr (.ls s)) (tLc (iList K tf) (gName i) tt te [i]) (eLc i f ft g) := fun H w σ env st r e x Q q =>
  h.bind st e x fun d H1 v s1 r1 e => by
    have rp := r1.lo st.wf hc
    cases rp with
    | @lst a vs ds h1 hp ra =>
      obtain ⟨hlim, ys, e1, rfl⟩ := eLc_of e
      refine ⟨a, rfl, ⟨vs, .inl (.inl h1)⟩, lc_gen (P0 := fun w => Lf w) (bm := .lo) (fun st r => by have z := st.setLo (i := i) r; rw [List.set_set] at z; exact z) (st.same s1) e1 hlim (fun k H' old hk => ⟨vs, .inl (.inl (old _ _ h1)), by rw [← ra.length]; exact hk⟩) (fun k H' w1 d old hw1 hd => ?_) ht he hc2 fun H' v s fr => q _ rfl H' v (s1.trans s) (fr.base s1)⟩
      obtain ⟨v, hv, rv⟩ := ra.get hd
      refine ⟨⟨vs, v, .inl (.inl (old _ _ h1)), hv⟩, fun x H2 y => ?_⟩
      obtain ⟨rfl, y⟩ := y
      have hx := y vs (.inl (.inl (old _ _ h1)))
      rw [hv] at hx
      cases hx
      exact ⟨rfl, rv.mono (fun a o z p => ⟨old a o z, p.elim (fun p => .inl ((hw1 a o z).trans p)) fun p => .inr ((hw1 a o z).trans p)⟩) fun a xs z => old a _ z⟩
    | _ => simp only at e; exact nomatch e
def eLcR (i : Nat) (fs : List (List D → M D)) (ft : List D → M Bool) (g : List D → M D) : List D → M D := fun env => bd (eArgs fs env) fun d => match d with
  | [.int j] => if bndL j = true then lift ((lcF i ft g (rngL 0 j.toNat) env).map D.lst) else none
  | [.int l, .int j] => if bnd62 l = true ∧ bnd62 j = true ∧ (j - l).toNat ≤ LIM then lift ((lcF i ft g (rngL l (j - l).toNat) env).map D.lst) else none
  | _ => none
theorem rng_gen {i : Nat} {s : Sh} {lo : Int} {n : Nat} {ys : List D} {Q : VK} (st : StOk cl H1 w ms σ env) (e : lcF i ft g (rngL lo n) env = some ys) (hlim : n ≤ LIM)
    (ht : SEt cl WF (ms.set i .pu) tt ft) (he : SE cl WF (ms.set i .pu) c2 te g) (hc2 : itOk c2 s = true) (q : ∀ H' v, Same H1 H' → FrT cl H1 H' w (.ls s) (.lst ys) v → Q v H') :
    ∀ D, H1 D = none → ∃ Wn : Nat → Nat → Hp → Prop, (∃ m, Wn 0 m (upd H1 D (.lst []))) ∧ ∀ k n' H, Wn k n' H →
      ((Itr lo n).stop k H ∧ Q (.ref D) H) ∨ ((Itr lo n).go k H ∧ ∃ Nx : Hp → Prop, (∀ H', Nx H' → ∃ m', m' < n' ∧ Wn (k + 1) m' H') ∧ ∀ x H', (Itr lo n).yld k H x H' → gName i x (wipe σ [i]) H' fun σ2 H2 => wipe σ2 [i] = wipe σ [i] ∧ tt σ2 H2 fun b H3 =>
        if b = true then te σ2 H3 fun y H4 => ∃ acc, H4 D = some (.lst acc) ∧ acc.length < sizeLine ∧ Nx (upd H4 D (.lst (acc ++ [y]))) else Nx H3) := by
  refine lc_gen (P0 := fun w => Fz w) (bm := .pu) (fun st r => by have z := st.setPu (i := i) r; rw [List.set_set] at z; exact z) st e (by rw [rngL_len]; exact hlim) (fun k H' old hk => by rw [rngL_len] at hk; exact hk) (fun k H' w1 d old hw1 hd => ?_) ht he hc2 q
  have hk : k < n := by have := (List.getElem?_eq_some_iff.mp hd).1; rw [rngL_len] at this; exact this
  have hd2 : d = .int (lo + k) := by
    have h2 := rngL_get n lo k hk
    have h3 : ((rngL lo n).drop k)[0]? = some (.int (lo + k)) := by rw [h2]; rfl
    rw [List.getElem?_drop, Nat.add_zero] at h3
    rw [h3] at hd
    exact (Option.some.inj hd).symm
  subst hd2
  exact ⟨hk, fun x H2 y => by obtain ⟨rfl, rfl⟩ := y; exact ⟨rfl, .int _⟩⟩
theorem se_lcR1 {i : Nat} {s : Sh} {fs : List (List D → M D)} {tr : TA} (h : SEa cl W ms [c1] tr (eArgs fs)) (ht : SEt cl WF (ms.set i .pu) tt ft) (he : SE cl WF (ms.set i .pu) c2 te g) (hc2 : itOk c2 s = true) : SE cl W ms (.fr (.ls s)) (tLc (iRng1 tr) (gName i) tt te [i]) (eLcR i fs ft g) := fun H w σ env st r e x Q q =>
  h.bind st e x fun d H1 vs s1 r1 e => by
    obtain ⟨d, v, rfl, rfl, rr⟩ := r1.one st.wf
    cases rr with
    | int j =>
      have e1 : (if bndL j = true then lift ((lcF i ft g (rngL 0 j.toNat) env).map D.lst) else none) = some r := e
      by_cases hj : bndL j = true
      · rw [if_pos hj] at e1
        obtain ⟨z, e2, rfl⟩ := lift_ok e1
        obtain ⟨ys, e3, rfl⟩ := Option.map_eq_some_iff.mp e2
        have hjb := bndL_of hj
        exact ⟨j, rfl, hjb.1, by omega, rng_gen (st.same s1) e3 (by unfold LIM; omega) ht he hc2 fun H' v s fr => q _ rfl H' v (s1.trans s) (fr.base s1)⟩
      · rw [if_neg hj] at e1
        exact nomatch e1
    | _ => exact nomatch e
theorem se_slSc {i : Nat} {th : TO} {hi : Option (List D → M D)} (hm : ms[i]? = some .sc) (hh : SEo cl W ms th hi) : SE cl W ms (.fr (.ls .fz)) (tSl (rSlL cl.K) (tVar i) tNoPart th) (eSl (eVar i) none hi) := fun H w σ env st r e x Q q => by
  obtain ⟨v, d, a, b, p, ns, rfl, rfl, sc⟩ := st.sl i .sc hm (by decide)
  refine ⟨_, a, ?_⟩
  have e2 : bd (eOpt hi env) (fun h => lift (dCut (.lst (ns.map D.int)) none h)) = some r := by
    unfold eSl eVar at e
    rw [b] at e
    exact e
  refine hh H w σ env st e2 x _ fun h H3 s3 e => ?_
  obtain ⟨z, e1, rfl⟩ := lift_ok e
  have im : ∀ l : List Int, immL (l.map D.int) = true := fun l => by
    induction l with
    | nil => rfl
    | cons y r ih => exact Bool.and_eq_true_iff.mpr ⟨rfl, ih⟩
  have e3 : some (D.lst (cutD (ns.map D.int) none h)) = some z := by
    have e4 : (if immL (ns.map D.int) = true then some (D.lst (cutD (ns.map D.int) none h)) else none) = some z := e1
    rw [if_pos (im ns)] at e4
    exact e4
  cases e3
  have rr : ∀ l : List Int, RepL cl H3 (Fz w) (l.map D.int) (l.map V.int) := fun l => by
    induction l with
    | nil => exact .nil
    | cons y r ih => exact .cons (.int y) ih
  have sq : SqL cl.K H3 p (ns.map V.int) := s3.seq sc.sq
  refine ⟨p, ns.map V.int, rfl, sq, fun n hn => ?_⟩
  have s4 := new_same (o := .lst (cutV (ns.map V.int) none h)) hn
  exact q _ rfl _ _ (s3.trans s4) (FrT.l1 (s3.free hn) upd_same ((RepL.im (by
    unfold cutD
    rw [← List.map_drop, ← List.map_take]
    exact im _) (RepL.cut (rr ns) none h)).same s4 fun _ z => z))
theorem se_fnSc {i : Nat} {rc : RC} {G : List D → Option Out} {E : XK} (hm : ms[i]? = some .sc) (hb : SE cl W ms c2 tb g) : SE cl W ms (resC rc) (tCall (spOf cl [.sc, .pn] rc G) [] E (tCons (tVar i) (tCons tb tNil))) (fun env => bd (lift env[i]?) fun s => bd (g env) fun y => ofOutN (G [s, y])) := fun H w σ env st r e x Q q => by
  obtain ⟨v, d, a, b, p, ns, rfl, rfl, sc⟩ := st.sl i .sc hm (by decide)
  have e0 : bd (lift env[i]?) (fun s => bd (g env) fun y => ofOutN (G [s, y])) = some r := e
  rw [b] at e0
  refine ⟨_, a, ?_⟩
  refine hb.bind st e0 x fun y H1 u s1 r1 e => ?_
  obtain ⟨d, e', hG, rfl⟩ := ofOutN_ok e
  have wf1 := st.wf.same s1
  show spOf cl [.sc, .pn] rc G ([V.ref p, u] ++ []) H1 Q E
  rw [List.append_nil]
  refine ⟨lent w [V.ref p, u] [D.lst (ns.map D.int), y], [_, y], .rt d e', rfl, rfl, fun a l e => ?_, fun k m e n => ?_, hG, fun H' w' v k _ rr _ => q d rfl H' v (s1.trans (kp_same k)) ((ret_res wf1 k rr).base s1)⟩
  · obtain ⟨_, l', q⟩ := lent_fo e
    exact wf1 a l' q
  · match k, e with
    | 0, e =>
      have e' : Mo.sc = m := Option.some.inj e
      subst e'
      refine ⟨_, _, rfl, rfl, p, ns, rfl, rfl, ?_⟩
      rcases sc with ⟨r, l⟩ | z
      · refine .inl ⟨?_, ?_⟩
        · rcases r with r | ⟨o, r⟩
          · exact .inl (s1 _ _ r)
          · exact .inr ⟨o, s1 _ _ r⟩
        · rcases l with l | l
          · exact .inl (lent_none.mpr l)
          · exact .inr (lent_some l)
      · exact .inr z
    | 1, e =>
      have e' : Mo.pn = m := Option.some.inj e
      subst e'
      exact ⟨_, _, rfl, rfl, ⟨rfl, rfl⟩, rep_lent (r1.an st.wf)⟩
    | k + 2, e => simp at e
def tyN : D → String
  | .non => "NoneType"
  | .bl _ => "bool"
  | .int _ => "int"
  | .str _ => "str"
  | .lst _ => "list"
  | .tup _ => "tuple"
  | .dct _ => "dict"
  | .dctT _ => "dict"
  | .ins _ _ => ""
def isTy (t n : String) : Bool := t == n || (t == "bool" && n == "int")
def kOk (n : String) : Bool := n == "bool" || n == "int" || n == "str" || n == "list" || n == "tuple"
theorem kit_at {t n : String} (ht : t = "NoneType" ∨ t = "bool" ∨ t = "int" ∨ t = "str" ∨ t = "list" ∨ t = "tuple" ∨ t = "dict") (hn : kOk n = true) : kitB t n = some (isTy t n) := by
  have hn' : n = "bool" ∨ n = "int" ∨ n = "str" ∨ n = "list" ∨ n = "tuple" := by
    simp only [kOk, Bool.or_eq_true, beq_iff_eq] at hn
    rcases hn with (((h | h) | h) | h) | h
    · exact .inl h
    · exact .inr (.inl h)
    · exact .inr (.inr (.inl h))
    · exact .inr (.inr (.inr (.inl h)))
    · exact .inr (.inr (.inr (.inr h)))
  rcases ht with rfl | rfl | rfl | rfl | rfl | rfl | rfl <;> rcases hn' with rfl | rfl | rfl | rfl | rfl <;> decide +kernel
def dIsi (n : String) : D → Option D
  | .ins _ _ => none
  | d => some (.bl (isTy (tyN d) n))
def tIsi (K : PySem.W.Frag) (n : String) (ta : TE) : TE := tCB (rIsi K) (tCons ta (tCons (tC (.ty n)) tNil))
theorem se_isi {n : String} (hn : kOk n = true) (ha : SE cl W ms c ta f) : SE cl W ms .pu (tIsi K n ta) (eUn (dIsi n) f) := fun H w σ env st r e x Q q =>
  ha.bind st e x fun d1 H1 v1 s1 r1 e => by
    obtain ⟨z, e1, rfl⟩ := lift_ok e
    have r1' := r1.an st.wf
    have fin : ∀ t, (t = "NoneType" ∨ t = "bool" ∨ t = "int" ∨ t = "str" ∨ t = "list" ∨ t = "tuple" ∨ t = "dict") → TyOf K H1 v1 (.type t) → z = .bl (isTy t n) → ∃ (x c : V) (t u : Value) (b : Bool), [v1, V.ty n] = [x, c] ∧ ClsV c u ∧ TyX K H1 x t ∧ PySem.W.kitOne K t u = some b ∧ Q (.bl b) H1 := by
      intro t ht ty hz
      subst hz
      exact ⟨v1, .ty n, .type t, .type n, isTy t n, rfl, .ty n, .base ty, kit_ty (kit_at ht hn), q _ rfl H1 _ s1 (.bl _)⟩
    show ∃ (x c : V) (t u : Value) (b : Bool), [v1, V.ty n] = [x, c] ∧ ClsV c u ∧ TyX K H1 x t ∧ PySem.W.kitOne K t u = some b ∧ Q (.bl b) H1
    cases r1' with
    | non => exact fin _ (.inl rfl) .non (Option.some.inj e1).symm
    | bl b => exact fin _ (.inr (.inl rfl)) (.bl b) (Option.some.inj e1).symm
    | int b => exact fin _ (.inr (.inr (.inl rfl))) (.int b) (Option.some.inj e1).symm
    | str b => exact fin _ (.inr (.inr (.inr (.inl rfl)))) (.str b) (Option.some.inj e1).symm
    | lst h1 _ ra => exact fin _ (.inr (.inr (.inr (.inr (.inl rfl))))) (.lst h1) (Option.some.inj e1).symm
    | tup h1 ra => exact fin _ (.inr (.inr (.inr (.inr (.inr (.inl rfl)))))) (.tup h1) (Option.some.inj e1).symm
    | dct h1 _ ra => exact fin _ (.inr (.inr (.inr (.inr (.inr (.inr rfl)))))) (.dK h1) (Option.some.inj e1).symm
    | dctT h1 _ ra => exact fin _ (.inr (.inr (.inr (.inr (.inr (.inr rfl)))))) (.dT h1) (Option.some.inj e1).symm
    | ins h1 _ ra => exact nomatch e1
end
end Mv

namespace Mv
open PySem L2
variable {cl : Nv}
def Cal (P : Program) (w : World) (cl : Nv) (mg : Str → Option Value) (base : Heap) (CX : CXT) (k : Nat) (x : Str) (ps : List Str) (sp : Sp) : Prop :=
  ∃ (f : Addr) (fd : FuncData), mg x = some (.ref f) ∧ PySem.W.keepIn cl.K (.ref f) = true ∧ Binds cl.K fd ps [] ∧ FnOk P w cl.K mg base CX k f fd ps sp
section
variable {H H' H1 : Hp} {w w' : Om} {ms ms' mn mx : List Mo} {σ : L2.St} {env : List D} {W : WX} {m : Md} {c c1 c2 : RC} {te ta tb tf ti tg : TE} {f g fi : List D → M D} {K : PySem.W.Frag} {tt : TT} {ft : List D → M Bool} {s : Sh} {i : Nat} {fe : List D → RE} {tr : TA} {fs : List (List D → M D)}
def eLcV (i : Nat) (f : List D → M D) (ft : List D → M Bool) (g : List D → M D) : List D → M D := fun env => bd (f env) fun d => match d with
  | .lst ds => if ds.length ≤ LIM then lift ((lcF i ft g ds.reverse env).map D.lst) else none
  | _ => none
theorem ss_frz {k : Nat} {t : TS} {g : List D → Option Out} (hm : ms[k]? = some (.ow s)) (h : SS cl W (ms.set k .pu) m t g) : SS cl W ms m t g := by
  intro H w σ env st o e D p
  obtain ⟨v, d, a, b, st2, t⟩ := st.out hm
  obtain ⟨w2, st3, k2, r⟩ := st2.frz t
  have hk : k < ms.length := (List.getElem?_eq_some_iff.mp hm).1
  have st4 := st3.put (i := k) (mo := .pu) (d := d) (v := v) r
  rw [List.set_set, set_self a, set_self b] at st4
  exact h H w2 σ env st4 o e D (p.trans k2)
def shs : List AK → Sh
  | [] => .tn
  | .m _ s :: r => .tc s (shs r)
  | _ :: r => .tc .fz (shs r)
def onlyM : List AK → Bool
  | [] => true
  | .m _ _ :: r => onlyM r
  | .v c :: r => toPu c && onlyM r
  | _ => false
noncomputable def sAppF (f g : List D → M D) : List D → Option Out := fun env => sX (f env) env fun d => match d with
  | .lst ds => if ds.length < LIM then sX (g env) env fun _ => some (.nx env) else none
  | _ => none
end
end Mv

namespace Mv
open PySem L2
variable {cl : Nv}
section
variable {W : WX} {ms : List Mo} {m : Md} {c c1 c2 c3 : RC} {te ta tb : TE} {f g : List D → M D} {K : PySem.W.Frag}
def chD (c : Nat) : D := .str ⟨#[c]⟩
def sForS (i : Nat) (f : List D → M D) (b : List D → Option Out) : List D → Option Out := fun env => sX (f env) env fun d => match d with
  | .str z => forF i b (z.cps.toList.map chD) env
  | _ => none
theorem str_core {tb : TS} {b : List D → Option Out} {i : Nat} (ml : List Mo) (hb : SS cl W (ml.set i .pu) { m with nx := ml, ct := ml, bk := m.nx } tb b) (hn : wk ml m.nx = true)
    {H w σ env} (st : StOk cl H w ml σ env) {z : Str} {o : Out} (e : forF i b (z.cps.toList.map chD) env = some o) {D : Ends} (p : Post cl W m H w D o) :
    ∃ Wn : Nat → Nat → L2.St → Hp → Prop, (∃ n, Wn 0 n σ H) ∧ ∀ k n σ' H', Wn k n σ' H' →
      ((Its z).stop k H' ∧ D.nx σ' H') ∨ ((Its z).go k H' ∧ ∃ N : L2.St → Hp → Prop, (∀ σ2 H2, N σ2 H2 → ∃ n', n' < n ∧ Wn (k + 1) n' σ2 H2) ∧ ∀ x H2, (Its z).yld k H' x H2 → gName i x σ' H2 fun σ3 H3 => tb { D with nx := N, ct := N, bk := D.nx } σ3 H3) := by
  have hlen : (z.cps.toList.map chD).length = z.cps.size := by simp
  let Wn : Nat → Nat → L2.St → Hp → Prop := fun k n σ' H' => n + k = z.cps.size ∧ ∃ w' env', StOk cl H' w' ml σ' env' ∧ Kp H w H' w' ∧ forF i b ((z.cps.toList.map chD).drop k) env' = some o
  refine ⟨Wn, ⟨z.cps.size, by simp, w, env, st, Kp.refl, by simpa using e⟩, fun k n σ' H' hW => ?_⟩
  obtain ⟨hk, w', env', st', kp, e'⟩ := hW
  by_cases hlt : k < z.cps.size
  · right
    refine ⟨hlt, fun σ2 H2 => Wn (k + 1) (n - 1) σ2 H2, fun σ2 H2 h => ⟨n - 1, by omega, h⟩, fun x H2 y => ?_⟩
    obtain ⟨rfl, c, hc, rfl⟩ := y
    have hc2 : (z.cps.toList.map chD)[k]? = some (chD c) := by rw [List.getElem?_map, Array.getElem?_toList, hc]; rfl
    obtain ⟨hk2, hk3⟩ := List.getElem?_eq_some_iff.mp hc2
    rw [List.drop_eq_getElem_cons hk2, hk3] at e'
    unfold forF at e'
    have st3 := st'.setPu (i := i) (Rep.str (cl := cl) (H := H2) (P := Fz w') (⟨#[c]⟩ : Str))
    cases e2 : b (env'.set i (chD c)) with
    | none => rw [e2] at e'; cases e'
    | some o2 =>
      rw [e2] at e'
      refine hb H2 w' _ _ st3 o2 e2 _ ?_
      cases o2 with
      | nx e3 => exact fun H3 w3 σ3 st3 k3 => ⟨by omega, w3, e3, st3, kp.trans k3, e'⟩
      | ct e3 => exact fun H3 w3 σ3 st3 k3 => ⟨by omega, w3, e3, st3, kp.trans k3, e'⟩
      | bk e3 => cases e'; exact p.trans kp
      | rt d e3 => cases e'; exact p.trans kp
      | ex c e3 => cases e'; exact p.trans kp
  · left
    have hz : (z.cps.toList.map chD).drop k = [] := List.drop_eq_nil_of_le (by rw [hlen]; omega)
    rw [hz] at e'
    cases e'
    exact ⟨by show z.cps.size ≤ k; omega, p H' w' σ' (st'.weak hn) kp⟩
theorem ss_forS {tb : TS} {b : List D → Option Out} {i : Nat} (ml : List Mo) (h : SE cl W ms c te f) (hx : wk ms m.ex = true) (hl : wk ms ml = true) (hn : wk ml m.nx = true)
    (hb : SS cl W (ml.set i .pu) { m with nx := ml, ct := ml, bk := m.nx } tb b) : SS cl W ms m (tFor (iStr te) (gName i) tb) (sForS i f b) := by
  intro H w σ env st o e D p
  refine h.stm st e hx p fun d H1 v s1 rr e => ?_
  have rp := rr.an st.wf
  cases rp with
  | str z => exact ⟨z, rfl, str_core ml hb hn ((st.same s1).weak hl) e (p.trans (Kp.same s1))⟩
  | _ => simp only at e; cases e
def oneC : D → Option Nat
  | .str s => match s.cps.toList with
    | [c] => some c
    | _ => none
  | _ => none
theorem oneC_ok {d : D} {v : V} {H : Hp} {P : Addr → Prop} {c : Nat} (r : Rep cl H P d v) (h : oneC d = some c) : v = .str ⟨#[c]⟩ := by
  cases r with
  | str s =>
    obtain ⟨cps⟩ := s
    obtain ⟨l⟩ := cps
    match l, h with
    | [x], h => cases h; rfl
    | [], h => cases h
    | _ :: _ :: _, h => cases h
  | _ => cases h
@[simp] theorem oneC_ch {c : Nat} : oneC (chD c) = some c := rfl
def rSgI : R2 := fun x y H Q => ∃ (c : Nat) (z : Str), x = .str ⟨#[c]⟩ ∧ y = .str z ∧ Q (.bl (decide (c ∈ z.cps.toList))) H
def rSgN : R2 := fun x y H Q => ∃ (c : Nat) (z : Str), x = .str ⟨#[c]⟩ ∧ y = .str z ∧ Q (.bl (!decide (c ∈ z.cps.toList))) H
def dSgI : D → D → Option D
  | d, .str z => (oneC d).map fun c => .bl (decide (c ∈ z.cps.toList))
  | _, _ => none
def dSgN : D → D → Option D
  | d, .str z => (oneC d).map fun c => .bl (!decide (c ∈ z.cps.toList))
  | _, _ => none
theorem ops_sgN : OpS cl rSgN dSgN := by
  intro H w d1 v1 d2 v2 z Q wf r1 r2 e q
  cases r2 with
  | str s =>
    obtain ⟨c, h, rfl⟩ := Option.map_eq_some_iff.mp (show (oneC d1).map (fun c => D.bl (!decide (c ∈ s.cps.toList))) = some z from e)
    exact ⟨c, s, oneC_ok r1 h, rfl, q H _ (Same.refl H) (.bl _)⟩
  | _ => cases e
def rFnd : V → List V → Hp → VK → Prop := fun x xs H Q => ∃ a b, x = .str a ∧ xs = [.str b] ∧ Q (.int (Txt.find a b)) H
def eFind (f g : List D → M D) : List D → M D := fun env => bd (f env) fun x => match x with
  | .str a => bd (g env) fun y => match y with
    | .str b => some (.ok (.int (Txt.find a b)))
    | _ => none
  | _ => none
def strL : List D → Option (List Str)
  | [] => some []
  | .str a :: r => (strL r).map (a :: ·)
  | _ => none
theorem strL_ok {H : Hp} {P : Addr → Prop} : ∀ {ds : List D} {vs : List V} {ys : List Str}, RepL cl H P ds vs → strL ds = some ys → vs = ys.map V.str
  | _, _, _, .nil, h => by cases h; rfl
  | _, _, _, .cons (d := d) a b, h => by
    cases a with
    | str s =>
      obtain ⟨zs, h2, rfl⟩ := Option.map_eq_some_iff.mp (show (strL _).map (s :: ·) = some _ from h)
      rw [strL_ok b h2]
      rfl
    | _ => cases h
@[simp] theorem strL_map (l : List Str) : strL (l.map D.str) = some l := by
  induction l with
  | nil => rfl
  | cons a r ih => show (strL (r.map D.str)).map (a :: ·) = _; rw [ih]; rfl
def rJn (K : PySem.W.Frag) : V → List V → Hp → VK → Prop := fun x xs H Q => ∃ a p, ∃ ys : List Str, x = .str a ∧ xs = [.ref p] ∧ (SqL K H p (ys.map V.str) ∨ SqT K H p (ys.map V.str)) ∧
    (ys.map (·.length)).sum + ys.length * a.length ≤ 16777216 ∧ Q (.str (Txt.join a ys)) H
def dJn (a : Str) (ds : List D) : Option D := (strL ds).bind fun ys => if (ys.map (·.length)).sum + ys.length * a.length ≤ 16777216 then some (.str (Txt.join a ys)) else none
def eJoin (f g : List D → M D) : List D → M D := fun env => bd (f env) fun x => match x with
  | .str a => bd (g env) fun y => match y with
    | .lst ds => lift (dJn a ds)
    | _ => none
  | _ => none
theorem se_join (ha : SE cl W ms c1 ta f) (hb : SE cl W ms c2 tb g) : SE cl W ms .pu (tM1 (rJn K) ta tb) (eJoin f g) := fun H w σ env st r e x Q q =>
  ha.bind st e x fun d1 H1 v1 s1 r1 e => by
    have r1' := r1.an st.wf
    cases r1' with
    | str a =>
      refine ⟨⟨a, rfl⟩, ?_⟩
      refine hb.bind (st.same s1) e (x.same s1) fun d2 H2 v2 s2 r2 e => ?_
      have r2' := r2.an (st.wf.same s1)
      cases r2' with
      | @lst p vs ds h1 hp ra =>
        obtain ⟨z, e1, rfl⟩ := lift_ok e
        unfold dJn at e1
        obtain ⟨ys, h2, h3⟩ := Option.bind_eq_some_iff.mp e1
        split at h3
        · rename_i hl
          cases h3
          have e2 := strL_ok ra h2
          subst e2
          exact ⟨a, p, ys, rfl, rfl, .inl (.inl (.inl h1)), hl, q _ rfl H2 _ (s1.trans s2) (.str _)⟩
        · cases h3
      | _ => cases e
    | _ => cases e
abbrev rIntA : List V → Hp → VK → Prop := fun xs H Q => (∃ i, xs = [.int i] ∧ Q (.int i) H) ∨ ∃ k, xs = [.bl k] ∧ Q (.int (if k then 1 else 0)) H
def dInt : List D → Option D
  | [.int i] => some (.int i)
  | [.bl k] => some (.int (if k then 1 else 0))
  | _ => none
def sRaise (x : String) : List D → Option Out := fun env => some (.ex x env)
def tRaise (W : WX) (C : Addr) : TS := fun _ σ H => W (.ref C) none σ H
theorem ss_raise {x : String} (hx : wk ms m.ex = true) : SS cl W ms m (tRaise W (cl x)) (sRaise x) := by
  intro H w σ env st o e D p
  cases e
  exact p H w σ (st.weak hx) Kp.refl
def sNo : List D → Option Out := fun _ => none
def tNo : TS := fun _ _ _ => False
end
end Mv

namespace Mv
open PySem L2
variable {cl : Nv}
def b1 (cl : Nv) : List V := [.ty "ValueError", .ref (cl "NoKind"), .ref (cl "NoWay"), .ref (cl "NoMark")]
def b2 (cl : Nv) : List V := [.ref (cl "NoEntry"), .ref (cl "NoHold"), .ref (cl "NoChamber"), .ref (cl "NoChart")]
def b3 (cl : Nv) : List V := [.ref (cl "NoCave"), .ref (cl "NoHome"), .ref (cl "Barred"), .ref (cl "Full")]
def c1 (x : String) : List Bool := [true, x == "NoKind", x == "NoWay", x == "NoMark"]
def c2 (x : String) : List Bool := [x == "NoEntry", x == "NoHold", x == "NoChamber", x == "NoChart"]
def c3 (x : String) : List Bool := [x == "NoCave", x == "NoHome", x == "Barred", x == "Full"]
def cvB (K : PySem.W.Frag) (D : Addr) : List V → List Bool → Bool
  | [], [] => true
  | .ty s :: r, b :: t => decide (PySem.W.kitOne K (.ref D) (.type s) = some b) && cvB K D r t
  | .ref p :: r, b :: t => decide (PySem.W.kitOne K (.ref D) (.ref p) = some b) && cvB K D r t
  | _, _ => false
def exOk (cl : Nv) (x : String) : Bool := decide (PySem.W.exmOne cl.K (.ref (cl x)) (.ref (cl "CaveError")) = some true) && (He.eqO (PySem.W.findIn cl.K (.ref (cl x)) "__getattribute__") (some (some (.builtin "BaseException.__getattribute__"))) &&
  (He.eqO (PySem.W.findIn cl.K (.ref (cl x)) "__getattr__") (some none) && (decide (PySem.W.subIn cl.K (.ref (cl x)) (.type "BaseException") = some true) && (PySem.W.hasDictIn cl.K (cl x) && (He.eqO (PySem.W.findIn cl.K (.ref (cl x)) "__class__") (some (some (.builtin "object.__class__"))) &&
  (He.eqO (PySem.W.specialIn cl.K (.builtin "object.__class__") "__get__") (some (some (.builtin "getset_descriptor.__get__"))) && (decide (PySem.W.takesIn cl.K (.builtin "object.__class__") = some true) && (decide (PySem.W.mroIn cl.K (cl x) (.type "object") = some true) &&
  (cvB cl.K (cl x) (b1 cl) (c1 x) && (cvB cl.K (cl x) (b2 cl) (c2 x) && cvB cl.K (cl x) (b3 cl) (c3 x)))))))))))
structure ExF (cl : Nv) (x : String) : Prop where
  exm : PySem.W.exmOne cl.K (.ref (cl x)) (.ref (cl "CaveError")) = some true
  exc : ExcC cl.K (cl x)
  k1 : cvB cl.K (cl x) (b1 cl) (c1 x) = true
  k2 : cvB cl.K (cl x) (b2 cl) (c2 x) = true
  k3 : cvB cl.K (cl x) (b3 cl) (c3 x) = true
theorem exF_of {x : String} (h : exOk cl x = true) : ExF cl x := by
  obtain ⟨h1, h⟩ := He.ba h
  obtain ⟨h2, h⟩ := He.ba h
  obtain ⟨h3, h⟩ := He.ba h
  obtain ⟨h4, h⟩ := He.ba h
  obtain ⟨h5, h⟩ := He.ba h
  obtain ⟨h6, h⟩ := He.ba h
  obtain ⟨h7, h⟩ := He.ba h
  obtain ⟨h8, h⟩ := He.ba h
  obtain ⟨h9, h⟩ := He.ba h
  obtain ⟨h10, h⟩ := He.ba h
  obtain ⟨h11, h12⟩ := He.ba h
  exact ⟨of_decide_eq_true h1, ⟨He.eqO_ok h2, He.eqO_ok h3, of_decide_eq_true h4, h5, He.eqO_ok h6, He.eqO_ok h7, of_decide_eq_true h8, of_decide_eq_true h9⟩, h10, h11, h12⟩
def tIsx (K : PySem.W.Frag) (D a : Addr) (i : Nat) (c : V) : TE := tCB (rIsE K D a) (tCons (tVar i) (tCons (tC c) tNil))
def tIsL (K : PySem.W.Frag) (D a : Addr) (i : Nat) : List V → TA
  | [] => tNil
  | c :: r => tCons (tIsx K D a i c) (tIsL K D a i r)
theorem isL_run {K : PySem.W.Frag} {D a : Addr} {i : Nat} {σ : L2.St} {H : Hp} (hσ : σ[i]? = some (some (.ref a))) : ∀ (l : List V) (bs : List Bool) {Q : List V → Hp → Prop}, cvB K D l bs = true → Q (bs.map V.bl) H → tIsL K D a i l σ H Q := by
  intro l
  induction l with
  | nil =>
    intro bs Q h q
    cases bs with
    | nil => exact q
    | cons b t => cases h
  | cons c r ih =>
    intro bs Q h q
    cases bs with
    | nil => cases c <;> cases h
    | cons b t =>
      cases c with
      | ty s =>
        obtain ⟨h1, h2⟩ := He.ba h
        exact ⟨_, hσ, .ty s, .type s, b, rfl, fun u ru => by cases ru; rfl, of_decide_eq_true h1, ih t h2 q⟩
      | ref p =>
        obtain ⟨h1, h2⟩ := He.ba h
        exact ⟨_, hσ, .ref p, .ref p, b, rfl, fun u ru => by cases ru; rfl, of_decide_eq_true h1, ih t h2 q⟩
      | _ => cases h
def tBad (K : PySem.W.Frag) (D a : Addr) (i j : Nat) (l1 l2 l3 : List V) : TS :=
  tSeq (tAsg (tLst (tIsL K D a i l1)) (gName j)) (tSeq (tAsg (tOp (rAddA K) (tVar j) (tLst (tIsL K D a i l2))) (gName j)) (tAsg (tOp (rAddA K) (tVar j) (tLst (tIsL K D a i l3))) (gName j)))
def bitsOf (x : String) : List Bool := c1 x ++ c2 x ++ c3 x
theorem repL_bl {H : Hp} {P : Addr → Prop} : ∀ bs : List Bool, RepL cl H P (bs.map D.bl) (bs.map V.bl)
  | [] => .nil
  | _ :: r => .cons (.bl _) (repL_bl r)
theorem immL_bl : ∀ bs : List Bool, immL (bs.map D.bl) = true
  | [] => rfl
  | _ :: r => immL_bl r
theorem StOk.setUnV {H : Hp} {w : Om} {ms : List Mo} {σ : L2.St} {env : List D} {i : Nat} {o : Option V} (h : StOk cl H w ms σ env) (hi : ms[i]? = some .un) : StOk cl H w ms (σ.set i o) env := by
  refine ⟨h.wf, by simp [h.ls], h.le, fun j m e n => ?_⟩
  by_cases hj : j = i
  · subst hj
    rw [hi] at e
    cases e
    exact absurd rfl n
  · obtain ⟨v', d', a, b, c⟩ := h.sl j m e n
    exact ⟨v', d', by rw [List.getElem?_set_ne (Ne.symm hj)]; exact a, b, c⟩
theorem dAdd_bl {a b : List Bool} (h : a.length + b.length ≤ 100) : dAdd (.lst (a.map D.bl)) (.lst (b.map D.bl)) = some (.lst ((a ++ b).map D.bl)) := by
  show (if (a.map D.bl).length + (b.map D.bl).length ≤ LIM ∧ immL (a.map D.bl) = true ∧ immL (b.map D.bl) = true then some (D.lst (a.map D.bl ++ b.map D.bl)) else none) = _
  rw [if_pos ⟨by simp [LIM]; omega, immL_bl a, immL_bl b⟩, ← List.map_append]
theorem lst_run {K : PySem.W.Frag} {C a : Addr} {i : Nat} {σ : L2.St} {H : Hp} {w : Om} {l : List V} {bs : List Bool} {Q : VK} (hσ : σ[i]? = some (some (.ref a))) (wf : Wf H w) (hl : bs.length ≤ 100) (k : cvB K C l bs = true)
    (q : ∀ H' v, Same H H' → Rep cl H' (Fz w) (.lst (bs.map D.bl)) v → Q v H') : tLst (tIsL K C a i l) σ H Q := by
  have lim : (bs.map V.bl).length ≤ sizeLine := LIM_le (by rw [List.length_map]; simp only [LIM]; omega)
  show tIsL K C a i l σ H _
  refine isL_run hσ l bs k ?_
  refine ⟨lim, fun p n => ?_⟩
  exact q _ _ (new_same n) (.lst upd_same (wf.fresh n) (repL_bl _))
theorem add_run {K : PySem.W.Frag} {C a : Addr} {i j : Nat} {σ : L2.St} {H : Hp} {w : Om} {l : List V} {as bs : List Bool} {v : V} {Q : VK} (hσ : σ[i]? = some (some (.ref a))) (wf : Wf H w) (hv : σ[j]? = some (some v)) (rv : Rep cl H (Fz w) (.lst (as.map D.bl)) v) (hl : as.length + bs.length ≤ 100) (k : cvB K C l bs = true)
    (q : ∀ H' v, Same H H' → Rep cl H' (Fz w) (.lst ((as ++ bs).map D.bl)) v → Q v H') : tOp (rAddA K) (tVar j) (tLst (tIsL K C a i l)) σ H Q := by
  show tVar j σ H _
  refine ⟨v, hv, ?_⟩
  refine lst_run (cl := cl) hσ wf (by omega) k fun H1 v1 s1 r1 => ?_
  exact ops_add (cl := cl) H1 w _ _ _ _ _ _ (wf.same s1) ((rv.same s1 fun _ z => z).any fun _ _ => trivial) (r1.any fun _ _ => trivial) (dAdd_bl hl) fun H2 v2 s2 r2 => q H2 v2 (s1.trans s2) r2
theorem bad_run {H : Hp} {w : Om} {ms : List Mo} {σ : L2.St} {env : List D} {i j : Nat} {x : String} {a : Addr} {Dn : Ends} (F : ExF cl x) (st : StOk cl H w ms σ env) (hσ : σ[i]? = some (some (.ref a))) (hij : j ≠ i) (hjl : j < ms.length)
    (q : ∀ H' v, StOk cl H' w (ms.set j .pu) (σ.set j (some v)) (env.set j (.lst ((bitsOf x).map D.bl))) → Same H H' → Dn.nx (σ.set j (some v)) H') : tBad cl.K (cl x) a i j (b1 cl) (b2 cl) (b3 cl) Dn σ H := by
  have hj : ∀ (o : Option V), (σ.set j o)[i]? = some (some (.ref a)) := fun o => by rw [List.getElem?_set_ne hij]; exact hσ
  have hjj : ∀ (v : V), (σ.set j (some v))[j]? = some (some v) := fun v => List.getElem?_set_self (by rw [st.ls]; exact hjl)
  have hss : ∀ (u v : V), (σ.set j (some u)).set j (some v) = σ.set j (some v) := fun u v => List.set_set ..
  unfold tBad tSeq tAsg gName
  refine lst_run (cl := cl) hσ st.wf (bs := c1 x) (Nat.le_of_ble_eq_true rfl) F.k1 fun H1 v1 s1 r1 => ?_
  refine add_run (cl := cl) (hj _) (st.wf.same s1) (hjj v1) r1 (bs := c2 x) (Nat.le_of_ble_eq_true rfl) F.k2 fun H2 v2 s2 r2 => ?_
  dsimp only
  rw [hss]
  refine add_run (cl := cl) (hj _) ((st.wf.same s1).same s2) (hjj v2) r2 (bs := c3 x) (Nat.le_of_ble_eq_true rfl) F.k3 fun H3 v3 s3 r3 => ?_
  rw [hss]
  exact q H3 v3 (((st.same s1).same s2).same s3 |>.setPu (i := j) r3) ((s1.trans s2).trans s3)
def wNo : WX := fun _ _ _ _ => False
def tsBad (cl : Nv) (L : List String) (i j : Nat) : Addr → Value → Option Addr → TS := fun a cls d Dn σ H => ∃ x, x ∈ L ∧ cls = .ref (cl x) ∧ d = none ∧ tBad cl.K (cl x) a i j (b1 cl) (b2 cl) (b3 cl) Dn σ H
def tTryBad (cl : Nv) (L : List String) (i j : Nat) (tb : WX → TS) : TS := fun Dn σ H => tb (wAs cl.K (.ref (cl "CaveError")) i (tsBad cl L i j) wNo Dn) Dn σ H
def exTo (j : Nat) (L : List String) : Option Out → Option Out
  | some (.ex c e) => if c ∈ L then some (.nx (e.set j (.lst ((bitsOf c).map D.bl)))) else none
  | o => o
def sTryBad (j : Nat) (L : List String) (g : List D → Option Out) : List D → Option Out := fun env => exTo j L (g env)
theorem ss_tryBad {W : WX} {ms : List Mo} {m : Md} {i j : Nat} (mx : List Mo) {L : List String} {tb : WX → TS} {g : List D → Option Out} (hi : mx[i]? = some .un) (hij : j ≠ i) (hj : j < mx.length) (hn : wk (mx.set j .pu) m.nx = true) (hnu : m.nx[i]? = some .un)
    (F : ∀ x ∈ L, ExF cl x) (hb : ∀ W', SS cl W' ms { m with ex := mx } (tb W') g) : SS cl W ms m (tTryBad cl L i j tb) (sTryBad j L g) := by
  intro H w σ env st o e Dn p
  unfold sTryBad at e
  cases eg : g env with
  | none => rw [eg] at e; cases e
  | some o1 =>
    rw [eg] at e
    refine hb _ H w σ env st o1 eg Dn ?_
    cases o1 with
    | nx e1 => cases e; exact p
    | rt d e1 => cases e; exact p
    | bk e1 => cases e; exact p
    | ct e1 => cases e; exact p
    | ex c e1 =>
      have e' : (if c ∈ L then some (Out.nx (e1.set j (.lst ((bitsOf c).map D.bl)))) else none) = some o := e
      split at e'
      · rename_i hc
        cases e'
        intro H' w' σ' st' kp
        have hl : i < σ'.length := by rw [st'.ls]; exact (List.getElem?_eq_some_iff.mp hi).1
        refine ⟨true, (F c hc).exm, fun _ a _ => ⟨c, hc, rfl, rfl, ?_⟩, fun q => nomatch q⟩
        refine bad_run (F c hc) (st'.setUnV hi (o := some (.ref a))) (List.getElem?_set_self hl) hij hj fun H2 v st2 s2 => ?_
        exact p H2 w' _ ((st2.weak hn).setUnV hnu) (kp.trans (Kp.same s2))
      · cases e'
theorem pss_known {X : Cx} {body : List Stmt} {L : List String} {t : String → TS} {cls : Value} {d : Option Addr} (h : ∀ x ∈ L, cls = .ref (cl x) → d = none → PSs X body (t x)) : PSs X body (fun Dn σ H => ∃ x, x ∈ L ∧ cls = .ref (cl x) ∧ d = none ∧ t x Dn σ H) :=
  ⟨fun pins s σ H Dn I ⟨x, hx, e1, e2, q⟩ => (h x hx e1 e2).run pins s σ H Dn I q⟩
def obsQ (n : Nat) (fa : List He.Fa) (fn : List He.DefD) (ex : PySem.W.Frag → Bool) (g : Addr → Option Obj) : He.AlD × Bool := (He.obsD fa fn (He.frG g (He.asD g n)), ex (He.frG g (He.asD g n)))
def hookQ (n : Nat) (fa : List He.Fa) (fn : List He.DefD) (ex : PySem.W.Frag → Bool) : PySem.W.Hook where
  α := He.AlD × Bool
  obs := fun s => obsQ n fa fn ex s.heap.get?
  val := fun _ => (He.valD fn, true)
  says := fun _ h => ∃ K : PySem.W.Frag, K.In h ∧ He.SaysD fa fn K ∧ ex K = true
  of := fun _ _ e => ⟨_, He.frG_in, congrArg (fun z : He.AlD × Bool => z.1) e, congrArg (fun z : He.AlD × Bool => z.2) e⟩
  keeps := fun _ _ _ ⟨K, hK, c⟩ k => ⟨K, PySem.W.Frag.In.keeps hK k, c⟩
theorem obsQ_eq {n : Nat} {fa : List He.Fa} {fn : List He.DefD} {ex : PySem.W.Frag → Bool} {g : Addr → Option Obj} {s : Shared} (h : ∀ a, g a = s.heap.get? a) : obsQ n fa fn ex g = (hookQ n fa fn ex).obs s := by
  have e : g = s.heap.get? := funext h
  rw [e] <;> rfl
def eSlS (f : List D → M D) (lo hi : Option (List D → M D)) : List D → M D := fun env => bd (f env) fun d => bd (eOpt lo env) fun l => bd (eOpt hi env) fun h => match d with
  | .str z => if z.length ≤ LIM then some (.ok (.str (cutS z l h))) else none
  | _ => none
theorem se_slS {W : WX} {ms : List Mo} {c : RC} {ta : TE} {f : List D → M D} {tl th : TO} {lo hi : Option (List D → M D)} (ha : SE cl W ms c ta f) (hl : SEo cl W ms tl lo) (hh : SEo cl W ms th hi) : SE cl W ms .pu (tSl rSlS ta tl th) (eSlS f lo hi) := fun H w σ env st r e x Q q =>
  ha.bind st e x fun d1 H1 v1 s1 r1 e => hl H1 w σ env (st.same s1) e (x.same s1) _ fun l H2 s2 e => hh H2 w σ env ((st.same s1).same s2) e ((x.same s1).same s2) _ fun h H3 s3 e => by
    have r1' := (r1.same (s2.trans s3)).an st.wf
    cases r1' with
    | str z =>
      have e' : (if z.length ≤ LIM then some (R.ok (D.str (cutS z l h))) else none) = some r := e
      split at e'
      · rename_i hz
        cases e'
        exact ⟨z, rfl, LIM_le hz, q _ rfl H3 _ (s1.trans (s2.trans s3)) (.str _)⟩
      · cases e'
    | _ => cases e
end Mv

namespace Mv
open PySem L2 PySem.Spec
variable {cl : Nv}
def CalM (P : Program) (w : World) (cl : Nv) (mg : Str → Option Value) (base : Heap) (CX : CXT) (k : Nat) (C : String) (m : Str) (ps : List Str) (sp : Sp) : Prop :=
  ∃ (f : Addr) (fd : FuncData), Meth cl.K (cl C) m f ∧ Binds cl.K fd ps [] ∧ FnOk P w cl.K mg base CX k f fd ps sp
def CalI (P : Program) (w : World) (cl : Nv) (mg : Str → Option Value) (base : Heap) (CX : CXT) (k : Nat) (C : String) (ps : List Str) (sp : Sp) : Prop :=
  ∃ (f : Addr) (fd : FuncData), mg (C : Str) = some (.ref (cl C)) ∧ Mk cl.K (cl C) f ∧ Binds cl.K fd ps [] ∧ FnOk P w cl.K mg base CX k f fd ps sp
section
variable {H H' H1 : Hp} {w w' : Om} {ms ms' mn mx : List Mo} {σ : L2.St} {env : List D} {W : WX} {m : Md} {c c1 c2 : RC} {te ta tb tf ti tg : TE} {f g fi : List D → M D} {fe : List D → RE} {t1 t2 : TS} {g1 g2 : List D → Option Out}
def sIfE (fe : List D → RE) (a b : List D → Option Out) : List D → Option Out := fun env => sE (fe env) fun d e => match d with
  | .bl true => a e
  | .bl false => b e
  | _ => none
def sIfEN (fe : List D → RE) (a b : List D → Option Out) : List D → Option Out := fun env => sE (fe env) fun d e => match d with
  | .bl true => b e
  | .bl false => a e
  | _ => none
def dListR : D → Option D
  | .int n => if bndL n = true then some (.lst (rngL 0 n.toNat)) else none
  | _ => none
theorem rngV {H : Hp} {P : Addr → Prop} : ∀ (n : Nat) (lo : Int), RepL cl H P (rngL lo n) ((List.range n).map fun i => V.int (lo + (i : Nat)))
  | 0, _ => .nil
  | n + 1, lo => by
    rw [List.range_succ_eq_map, List.map_cons, List.map_map]
    have e : (fun i : Nat => V.int (lo + (i : Nat))) ∘ Nat.succ = fun i : Nat => V.int ((lo + 1) + (i : Nat)) := by
      funext i
      show V.int (lo + ((i + 1 : Nat) : Int)) = _
      congr 1
      push_cast
      omega
    rw [e]
    refine .cons ?_ (rngV n (lo + 1))
    have : lo + ((0 : Nat) : Int) = lo := by omega
    rw [this]
    exact .int lo
theorem se_listR (ha : SE cl W ms c ta f) : SE cl W ms (.fr (.ls .fz)) (tLstRg (tRg1 ta)) (eUn dListR f) := fun H w σ env st r e x Q q =>
  ha.bind st e x fun d1 H1 v1 s1 r1 e => by
    obtain ⟨z, e1, rfl⟩ := lift_ok e
    have rr := r1.an st.wf
    cases rr with
    | int n =>
      have e2 : (if bndL n = true then some (D.lst (rngL 0 n.toNat)) else none) = some z := e1
      split at e2
      · rename_i hb
        cases e2
        have hb2 := bndL_of hb
        refine ⟨n, rfl, ⟨by decide, by decide, hb2.1, by omega, by omega⟩, fun p hp => ?_⟩
        have s2 := new_same (o := .lst (rgV 0 n)) hp
        refine q _ rfl _ _ (s1.trans s2) (FrT.l1 (s1.free hp) upd_same ?_)
        have : rgV 0 n = (List.range n.toNat).map fun i => V.int (0 + (i : Nat)) := by unfold rgV; rw [show (n - 0).toNat = n.toNat by rw [Int.sub_zero]]
        rw [this]
        exact rngV _ _
      · cases e2
    | _ => cases e1
theorem se_nilT {s : Sh} : SE cl W ms (.fr (.ls s)) (tLst tNil) (eLst []) := fun H w σ env st r e x Q q => by
  cases e
  refine ⟨Nat.zero_le _, fun p hp => q _ rfl _ _ (new_same hp) ⟨[p], by simp, fun a m => by rw [List.mem_singleton.mp m]; exact hp, .ls upd_same trivial .nil⟩⟩
end
end Mv

namespace Mv
open PySem L2
variable {cl : Nv}
section
variable {H H' H1 : Hp} {P O : Addr → Prop} {w w' : Om} {ms ms' : List Mo} {σ : L2.St} {env : List D} {W : WX} {m : Md} {c c1 c2 : RC} {te ta tb ti : TE} {f g fi : List D → M D} {K : PySem.W.Frag}
def shAt : Sh → Nat → Option Sh
  | .tc s _, 0 => some s
  | .tc _ r, n + 1 => shAt r n
  | _, _ => none
theorem TrP.focN : ∀ {n : Nat} {s : Sh} {ds : List D} {vs : List V} {A : List Addr} {d0 : D} {s0 : Sh}, shAt s n = some s0 → TrP cl H P O s ds vs A → ds[n]? = some d0 →
    ∃ v0 L A0 R, vs[n]? = some v0 ∧ A = L ++ A0 ++ R ∧ Tr cl H P O s0 d0 v0 A0 ∧ ∀ {H' : Hp} {P' O' : Addr → Prop} {d1 : D} {v1 : V} {A1 : List Addr}, (∀ a o, H a = some o → P a → H' a = some o ∧ P' a) → (∀ a xs, H a = some (.tup xs) → H' a = some (.tup xs)) →
      (∀ a ∈ L ++ R, ∀ o, H a = some o → O a → H' a = some o ∧ O' a) → Tr cl H' P' O' s0 d1 v1 A1 → TrP cl H' P' O' s (ds.set n d1) (vs.set n v1) (L ++ A1 ++ R)
  | _, _, _, _, _, _, _, hs, .nil, e => by simp at e
  | 0, _, _, _, _, _, _, hs, .cons (A := A) (B := B) a r, e => by
    cases (show _ = _ from Option.some.inj e)
    cases (show _ = _ from Option.some.inj hs)
    exact ⟨_, [], A, B, rfl, rfl, a, fun g t q x => .cons x (r.mono g t fun y m => q y m)⟩
  | n + 1, _, _, _, _, d0, s0, hs, .cons (A := A) (B := B) a r, e => by
    obtain ⟨v0, L, A0, R, h1, h2, h3, h4⟩ := TrP.focN (n := n) (d0 := d0) (s0 := s0) hs r (by simpa using e)
    refine ⟨v0, A ++ L, A0, R, by simpa using h1, by rw [h2]; simp [List.append_assoc], h3, fun g t q x => ?_⟩
    have z := TrP.cons (a.mono g t fun y m => q y (by simp [m])) (h4 g t (fun y m => q y (by
      rcases List.mem_append.mp m with m | m <;> simp [m])) x)
    rw [List.append_assoc, List.append_assoc]
    rw [List.append_assoc] at z
    exact z
theorem Plc.tp {i : Nat} {s s0 : Sh} {ds : List D} {v0 : V} {Rf : D → D} {n : Nat} {d1 : D} (h : Plc cl H w ms σ env i (.tp s) (.tup ds) v0 Rf) (hs : shAt s n = some s0) (hn : ds[n]? = some d1) :
    ∃ p vs v1, v0 = .ref p ∧ H p = some (.tup vs) ∧ vs[n]? = some v1 ∧ Plc cl H w ms σ env i s0 d1 v1 (fun z => Rf (.tup (ds.set n z))) := by
  obtain ⟨mo, s', l, d, v, L, A0, R, h1, h2, h3, h4, h5, h6, h7, h8⟩ := h
  cases h7 with
  | @tp _ p vs _ A00 hp tl =>
    have ob := tl.ob
    obtain ⟨v1, L2, A1, R2, k1, k2, k3, k4⟩ := tl.focN hs hn
    subst k2
    refine ⟨p, vs, v1, rfl, hp, k1, mo, s', l, d, v, L ++ L2, A1, R2 ++ R, h1, h2, h3, h4, ?_, ?_, k3, fun {H2} {P'} {O'} {d2} {A2} g t q x => ?_⟩
    · have z : L ++ (L2 ++ A1 ++ R2) ++ R = L ++ L2 ++ A1 ++ (R2 ++ R) := by simp [List.append_assoc]
      rw [← z]; exact h5
    · intro a ma
      simp only [List.mem_append] at ma ob h6
      rcases ma with (ma | ma) | ma | ma
      · exact h6 a (.inl ma)
      · exact (ob a (.inl (.inl ma))).1
      · exact (ob a (.inr ma)).1
      · exact h6 a (.inr ma)
    · have z := h8 (A1 := L2 ++ A2 ++ R2) (d1 := .tup (ds.set n d2)) (H' := H2) (P' := P') (O' := O') g t (fun a ma o e y => q a (by
        simp only [List.mem_append] at ma ⊢
        rcases ma with ma | ma
        · exact .inl (.inl ma)
        · exact .inr (.inr ma)) o e y) (.tp (t _ _ hp) (by
          have k5 := k4 (v1 := v1) g t (fun a ma o e y => q a (by
            simp only [List.mem_append] at ma ⊢
            rcases ma with ma | ma
            · exact .inl (.inr ma)
            · exact .inr (.inl ma)) o e y) x
          rw [set_self k1] at k5
          exact k5))
      have z2 : L ++ (L2 ++ A2 ++ R2) ++ R = L ++ L2 ++ A2 ++ (R2 ++ R) := by simp [List.append_assoc]
      rw [← z2]; exact z
def pTx (n : Nat) (f : List D → M D) (pf : List D → Option (D → D)) : List D → Option (D → D) := fun env => match pf env, f env with
  | some R, some (.ok (.tup ds)) => some fun z => R (.tup (ds.set n z))
  | _, _ => none
end
end Mv
namespace Mv
open PySem L2
variable {cl : Nv}
section
variable {H H' H1 : Hp} {P O : Addr → Prop} {w w' : Om} {ms ms' : List Mo} {σ : L2.St} {env : List D} {W : WX} {c c1 c2 : RC} {ta tb : TE} {f g : List D → M D} {K : PySem.W.Frag}
def intsD : List D → Option (List Int)
  | [] => some []
  | .int i :: r => (intsD r).map (i :: ·)
  | _ :: _ => none
def idxI (l : List Int) (x : Int) : Option Nat := l.findIdx? fun y => y == x
def dIndex : D → D → Option D
  | .lst ds, .int i => (intsD ds).bind fun l => (idxI l i).map fun n : Nat => .int (n : Int)
  | _, _ => none
def isLst : D → Bool
  | .lst _ => true
  | _ => false
def eIdx (f g : List D → M D) : List D → M D := fun env => bd (f env) fun d => if isLst d = true then bd (g env) fun y => lift (dIndex d y) else none
end
end Mv

namespace Mv
open PySem L2 PySem.Spec PyProof.Rows
variable {cl : Nv}
def toInts : List D → Option (List Int)
  | [] => some []
  | .int i :: r => (toInts r).map (i :: ·)
  | _ => none
def ins1 (x : Int) : List Int → List Int
  | [] => [x]
  | y :: r => if x ≤ y then x :: y :: r else y :: ins1 x r
def isort : List Int → List Int
  | [] => []
  | x :: r => ins1 x (isort r)
theorem toInts_ok {H : Hp} {P : Addr → Prop} : ∀ {ds : List D} {vs : List V} {ns : List Int}, RepL cl H P ds vs → toInts ds = some ns → vs = ns.map V.int
  | _, _, _, .nil, h => by cases h; rfl
  | .int i :: ds, _, _, .cons (.int _) b, h => by
    obtain ⟨ms, h1, rfl⟩ := Option.map_eq_some_iff.mp (show (toInts ds).map (i :: ·) = some _ from h)
    rw [toInts_ok b h1]
    rfl
def dSort : List D → Option D
  | [.lst ds] => (toInts ds).map fun ns => .lst ((isort ns).map D.int)
  | _ => none
section
variable {H H' H1 : Hp} {P P' : Addr → Prop} {w w' : Om} {ms mn mx ms' : List Mo} {σ : L2.St} {env : List D} {W : WX} {m : Md} {c c1 c2 : RC} {te ta tb ti tg td ty tv : TE} {f g fi fk : List D → M D} {K : PySem.W.Frag}
def dInL (neg : Bool) (x y : D) : Option D := match y with
  | .lst ds => (toInts ds).bind fun l => match x with
    | .int i => some (.bl (if neg then !decide (i ∈ l) else decide (i ∈ l)))
    | .non => some (.bl neg)
    | _ => none
  | _ => none
def ddp (ns : List Int) : List Int := firstMet (fun i => ns.getD i 0) ns.length
def dLenSet : D → Option D
  | .lst ds => (toInts ds).bind fun ns => if ns.length < 4000 then some (.int (ddp ns).length) else none
  | _ => none
def tLenSetN (K : PySem.W.Frag) (ta : TE) : TE := fun σ H Q => ta σ H fun x H1 => ∃ (l : Addr) (ns : List Int), x = V.ref l ∧ SqL K H1 l (ns.map V.int) ∧ ns.length < 4000 ∧ Q (.int (ddp ns).length) H1
theorem pe_lenSetN {X : Cx} {a : Expr} {ta : TE} {p p2 q pos : Pos} (hc : X.calm = true) (hg : Gl X "len") (hm : X.mg "len" = none) (hg2 : Gl X "set") (hm2 : X.mg "set" = none) (ha : PE X a ta)
    (na : starEach [a] X.env = (false, eval a X.env) :: starEach [] X.env := by rfl) : PE X (.Call (.Name "len" p) [.Call (.Name "set" p2) [a] [] q] [] pos) (tLenSetN X.K ta) := by
  refine ⟨fun pins s σ H Q I h => ?_⟩
  refine Call_ (ld_blt I hg hm PySem.boot_len ?_)
  refine PyProof.Rows.callWith_builtin1 (PyProof.Rows.args_cons ?_ rfl) rfl rfl
  refine Call_ (ld_blt I hg2 hm2 PyProof.Rows.boot_set ?_)
  refine PyProof.Rows.callWith_type1 (PyProof.Rows.args_cons (thn (ha.run pins s σ H _ I h) fun v s1 ⟨x, H1, I1, r1, q1⟩ => PyProof.Rows.args_nil ?_) na) na rfl
  obtain ⟨l, ns, rfl, hq, h1, q1⟩ := q1
  cases r1
  obtain ⟨its, r, pl, hz⟩ := I1.list hq
  have hl : its.toArray.size = ns.length := by rw [List.size_toArray, ← r.length, List.length_map]
  refine call_set_list (I1.ok.hd hc) pl.isList (ns := ns) (by simpa using r.ints) (by unfold scanBound; omega) fun h' tk hS hk => ?_
  rw [hl] at hS
  refine PyProof.Rows.args_nil ?_
  have hle := firstMet_length_le (fun i => ns.getD i 0) ns.length
  obtain ⟨o, es, ep, t, ho, hex, hd, _, _, _, hf, hn⟩ := hS
  have I2 : Inv X pins σ H1 { s1 with heap := h', toks := tk } := I1.kept fun b o e => hk b o (Heap.lt_size e) e
  refine call_len_set ho hex hd hf (by rw [hn] <;> omega) ⟨.int (ddp ns).length, H1, I2.tok _, ⟨_, by rw [hn] <;> rfl⟩, q1⟩
theorem se_lenSet (ha : SE cl W ms c ta f) : SE cl W ms .pu (tLenSetN K ta) (eUn dLenSet f) := fun H w σ env st r e x Q q =>
  ha.bind st e x fun d1 H1 v1 s1 r1 e => by
    obtain ⟨z, e1, rfl⟩ := lift_ok e
    have rr := r1.an st.wf
    cases rr with
    | @lst p vs ds h1 _ ra =>
      obtain ⟨ns, hn, e2⟩ := Option.bind_eq_some_iff.mp (show (toInts ds).bind (fun ns => if ns.length < 4000 then some (D.int (ddp ns).length) else none) = some z from e1)
      split at e2
      · rename_i hlt
        cases e2
        have hv := toInts_ok ra hn
        subst hv
        exact ⟨p, ns, rfl, .inl (.inl h1), hlt, q _ rfl H1 _ s1 (.int _)⟩
      · cases e2
    | _ => cases e1
def dAddF : D → D → Option D
  | .lst a, .lst b => if a.length + b.length ≤ LIM then some (.lst (a ++ b)) else none
  | _, _ => none
def dSng (d : D) : D → Option D := fun y => (keyD y).map fun k => .dct [(k, d)]
def dFmt : D → Option D
  | .str y => if y.length ≤ LIM then some (.str y) else none
  | .int i => if i.natAbs.log2 < 1920 then some (.str (toString i)) else none
  | _ => none
theorem se_fmt (ha : SE cl W ms c ta f) : SE cl W ms .pu (tFmt ta) (eUn dFmt f) := fun H w σ env st r e x Q q =>
  ha.bind st e x fun d1 H1 v1 s1 r1 e => by
    obtain ⟨z, e1, rfl⟩ := lift_ok e
    have rr := r1.an st.wf
    cases rr with
    | str y =>
      have e2 : (if y.length ≤ LIM then some (D.str y) else none) = some z := e1
      split at e2
      · rename_i h
        cases e2
        exact .inl ⟨y, rfl, LIM_le h, q _ rfl H1 _ s1 (.str y)⟩
      · cases e2
    | int i =>
      have e2 : (if i.natAbs.log2 < 1920 then some (D.str (toString i)) else none) = some z := e1
      split at e2
      · rename_i h
        cases e2
        exact .inr ⟨i, rfl, h, q _ rfl H1 _ s1 (.str _)⟩
      · cases e2
    | _ => cases e1
def eJs : List (List D → M D) → Str → List D → M D
  | [], acc, _ => some (.ok (.str acc))
  | f :: fs, acc, env => bd (f env) fun d => match d with
    | .str y => if (acc ++ y).length ≤ LIM then eJs fs (acc ++ y) env else none
    | _ => none
inductive SEj (cl : Nv) (W : WX) (ms : List Mo) : List TE → List (List D → M D) → Prop
  | nil : SEj cl W ms [] []
  | cons {c t f ts fs} (h : SE cl W ms c t f) (r : SEj cl W ms ts fs) : SEj cl W ms (t :: ts) (f :: fs)
theorem sej_run {ts : List TE} {fs : List (List D → M D)} (h : SEj cl W ms ts fs) : ∀ (acc : Str) (H : Hp), StOk cl H w ms σ env → ∀ r, eJs fs acc env = some r → Xc cl W σ H r → ∀ Q : Str → Hp → Prop, (∀ out H', r = .ok (.str out) → Same H H' → Q out H') → tJs ts acc σ H Q := by
  induction h with
  | nil =>
    intro acc H st r e x Q q
    cases e
    exact q acc H rfl (Same.refl H)
  | cons h hr ih =>
    intro acc H st r e x Q q
    refine h.bind st e x fun d H1 v s1 r1 e => ?_
    have rr := r1.an st.wf
    cases rr with
    | str y =>
      have e2 := e
      simp only [] at e2
      split at e2
      · rename_i hl
        exact ⟨y, rfl, LIM_le hl, ih _ _ (st.same s1) r e2 (x.same s1) Q fun out H' er s => q out H' er (s1.trans s)⟩
      · cases e2
    | _ => cases e
theorem se_js {ts : List TE} {fs : List (List D → M D)} (h : SEj cl W ms ts fs) : SE cl W ms .pu (fun σ H Q => tJs ts Str.empty σ H fun out H1 => Q (.str out) H1) (eJs fs Str.empty) := fun H w σ env st r e x Q q =>
  sej_run h _ H st r e x _ fun out H' er s => q _ er H' _ s (.str out)
abbrev tJoin (ts : List TE) : TE := fun σ H Q => tJs ts Str.empty σ H fun out H1 => Q (.str out) H1
def dStr : List D → Option D
  | [.int i] => if i.natAbs.log2 < 1920 then some (.str (toString i)) else none
  | _ => none
abbrev rStrI : List V → Hp → VK → Prop := fun xs H Q => ∃ i, xs = [V.int i] ∧ i.natAbs.log2 < 1920 ∧ Q (.str (toString i)) H
theorem ca_str : CaS0 cl rStrI [c] .pu dStr := by
  intro H0 H w ds vs z Q wf s r e q
  obtain ⟨d, v, rfl, rfl, rr⟩ := r.one wf
  cases rr with
  | int i =>
    have e2 : (if i.natAbs.log2 < 1920 then some (D.str (toString i)) else none) = some z := e
    split at e2
    · rename_i h
      cases e2
      exact ⟨i, rfl, h, q H _ (Same.refl H) (.str _)⟩
    · cases e2
  | _ => cases e
end
end Mv

namespace Mv
open PySem L2 PySem.Spec
variable {cl : Nv}
abbrev RB := Option (R Bool × List D)
def STE (cl : Nv) (W : WX) (ms mn mx : List Mo) (tt : TT) (ft : List D → RB) : Prop :=
  ∀ H w σ env, StOk cl H w ms σ env → ∀ r e, ft env = some (r, e) → (∀ x, r = .ex x → ∀ H' w', StOk cl H' w' mx σ e → Kp H w H' w' → W (.ref (cl x)) none σ H') → ∀ Q : Bool → Hp → Prop,
    (∀ b, r = .ok b → ∀ H' w', StOk cl H' w' mn σ e → Kp H w H' w' → Q b H') → tt σ H Q
def pureT (f : List D → M Bool) : List D → RB := fun env => (f env).map fun r => (r, env)
def eTE (fe : List D → RE) : List D → RB := fun env => bE (fe env) fun d e => match d with
  | .bl b => some (.ok b, e)
  | _ => none
def eNotE (ft : List D → RB) : List D → RB := fun env => match ft env with
  | some (.ok b, e) => some (.ok (!b), e)
  | o => o
def eOrE (fa fb : List D → RB) : List D → RB := fun env => match fa env with
  | some (.ok true, e) => some (.ok true, e)
  | some (.ok false, e) => fb e
  | o => o
def eAndE (fa fb : List D → RB) : List D → RB := fun env => match fa env with
  | some (.ok true, e) => fb e
  | some (.ok false, e) => some (.ok false, e)
  | o => o
def sIfT (ft : List D → RB) (a b : List D → Option Out) : List D → Option Out := fun env => match ft env with
  | none => none
  | some (.ex c, e) => some (.ex c e)
  | some (.ok c, e) => if c = true then a e else b e
def eOpE (op : D → D → Option D) (fa : List D → RE) (g : List D → M D) : List D → RE := fun env => bE (fa env) fun x e => match g e with
  | some (.ok y) => (op x y).map fun z => (.ok z, e)
  | some (.ex c) => some (.ex c, e)
  | none => none
section
variable {H H' H1 : Hp} {w w' : Om} {ms mn mx ms' : List Mo} {σ : L2.St} {env : List D} {W : WX} {m : Md} {c c1 c2 : RC} {te ta tb : TE} {tt ua ub : TT} {f g : List D → M D} {fe fa : List D → RE} {ft fb : List D → RB} {t1 t2 : TS} {g1 g2 : List D → Option Out}
theorem ResE.an {H : Hp} {w : Om} {ms : List Mo} {d : D} {v : V} (r : ResE cl H w ms c d v) : Rep cl H An d v := by
  cases c with
  | pu => exact Rep.any r fun _ _ => trivial
  | lo => exact Rep.any r fun _ _ => trivial
  | an => exact r
  | al js => exact r
  | fr s => obtain ⟨n, _, t⟩ := r; exact t.rep
end
def sForU (i : Nat) (f : List D → M D) (b : List D → Option Out) : List D → Option Out := fun env => sX (f env) env fun d => match d with
  | .tup ds => if immL ds = true then forF i b ds env else none
  | _ => none
section
variable {W : WX} {ms : List Mo} {m : Md} {c : RC} {te ta : TE} {f : List D → M D} {K : PySem.W.Frag}
def dCutT (d : D) (lo hi : Option Int) : Option D := match d with
  | .tup ds => if immL ds = true then some (.tup (cutD ds lo hi)) else none
  | _ => none
def eSlT (f : List D → M D) (lo hi : Option (List D → M D)) : List D → M D := fun env => bd (f env) fun d => bd (eOpt lo env) fun l => bd (eOpt hi env) fun h => lift (dCutT d l h)
end
section
variable {W : WX} {ms : List Mo} {ta : TE} {f : List D → M D} {K : PySem.W.Frag} {i : Nat} {pf : List D → Option (D → D)} {H : Hp} {w : Om} {σ : L2.St} {env : List D}
theorem Plc.lz {d0 : D} {v0 : V} {Rf : D → D} (h : Plc cl H w ms σ env i (.ls .fz) d0 v0 Rf) : ∃ p vs ds, v0 = .ref p ∧ d0 = .lst ds ∧ H p = some (.lst vs) ∧ RepL cl H (Fz w) ds vs := by
  obtain ⟨mo, s', l, d, v, L, A0, R, h1, h2, h3, h4, h5, h6, h7, h8⟩ := h
  obtain ⟨p, vs, ds, e1, e2, _, e4, _, e6⟩ := h7.unlz
  exact ⟨p, vs, ds, e1, e2, e4, e6⟩
def dListR2 : D → D → Option D
  | .int l, .int j => if bnd62 l = true ∧ bnd62 j = true ∧ (j - l).toNat ≤ LIM then some (.lst (rngL l (j - l).toNat)) else none
  | _, _ => none
def dListF : D → Option D
  | .lst ds => some (.lst ds)
  | _ => none
end
def tTryOne (cl : Nv) (x : String) (tb : WX → TS) (t2 : TS) : TS := fun Dn σ H => tb (wOnly cl.K (.ref (cl x)) (fun _ _ _ => t2) wNo Dn) Dn σ H
def sTryOne (x : String) (g g2 : List D → Option Out) : List D → Option Out := fun env => match g env with
  | some (.ex c e) => if c = x then g2 e else none
  | o => o
def exm1 (cl : Nv) (x : String) : Bool := PySem.W.exmOne cl.K (.ref (cl x)) (.ref (cl x)) == some true
end Mv

namespace L2
open PySem PySem.Spec PyProof.Rows
def tDisp1T (tk tv : TE) : TE := fun σ H Q => ∀ p, H p = none → tPairs [(tk, tv)] σ (upd H p (.dT [])) fun ps H2 => H2 p = some (.dT []) ∧ ∃ (k : List Key) (b : Addr) (v : V), ps = [(.ref b, v)] ∧ H2 b = some (.tup (k.map kV)) ∧ Q (.ref p) (upd H2 p (.dT [(k, v)]))
end L2
namespace Mv
open PySem L2 PySem.Spec PyProof.Rows
variable {cl : Nv}
theorem un65 {k : Nat} {A : Around} (r : Room k A) : A.units + 65 < cLine := by have := r.un; omega
def dInD (x y : D) : Option D := match y with
  | .lst ds => if SeqAt.shaped (toPy x) = true ∧ SeqAt.shaped (toPy (.lst ds)) = true then some (.bl ((toPyL ds).any fun z => PyData.eqv z (toPy x))) else none
  | _ => none
def dNiD (x y : D) : Option D := match y with
  | .lst ds => if SeqAt.shaped (toPy x) = true ∧ SeqAt.shaped (toPy (.lst ds)) = true then some (.bl (!(toPyL ds).any fun z => PyData.eqv z (toPy x))) else none
  | _ => none
theorem ops_inD {K : PySem.W.Frag} : OpS cl (rInD K) dInD := by
  intro H w d1 v1 d2 v2 z Q wf r1 r2 e q
  cases d2 with
  | lst ds =>
    have e2 : (if SeqAt.shaped (toPy d1) = true ∧ SeqAt.shaped (toPy (.lst ds)) = true then some (D.bl ((toPyL ds).any fun z => PyData.eqv z (toPy d1))) else none) = some z := e
    split at e2
    · rename_i h
      cases e2
      exact ⟨_, toPyL ds, rep_dp (SeqAt.canLay_of_shaped h.1) r1, rep_dp (d := .lst ds) (SeqAt.canLay_of_shaped h.2) r2, h.1, h.2, q H _ (Same.refl H) (.bl _)⟩
    · cases e2
  | _ => cases e
def dIndexD (d y : D) : Option D := match d with
  | .lst ds => if SeqAt.shaped (toPy y) = true ∧ SeqAt.shaped (toPy (.lst ds)) = true then ((toPyL ds).findIdx? fun z => PyData.eqv z (toPy y)).map fun n : Nat => .int (n : Int) else none
  | _ => none
def eIdxD (f g : List D → M D) : List D → M D := fun env => bd (f env) fun d => if isLst d = true then bd (g env) fun y => lift (dIndexD d y) else none
section
variable {H H' H1 : Hp} {w w' : Om} {ms mn mx ms' : List Mo} {σ : L2.St} {env : List D} {W : WX} {m : Md} {c c1 c2 : RC} {te ta tb ty : TE} {f g fk : List D → M D} {K : PySem.W.Frag}
def maxI : List Int → Int
  | [] => 0
  | [x] => x
  | x :: r => if maxI r < x then x else maxI r
def dMaxL : List D → Option D
  | [.lst ds] => (toInts ds).bind fun ns => if 0 < ns.length then some (.int (maxI ns)) else none
  | _ => none
def dLenT : List D → Option D
  | [.dctT kds] => some (.int (kds.length : Int))
  | _ => none
def dIsB : D → D → Option D
  | .bl a, .bl b => some (.bl (decide (a = b)))
  | _, _ => none
def dNotB : D → D → Option D
  | .bl a, .bl b => some (.bl (!decide (a = b)))
  | _, _ => none
def keyT : D → Option (List Key)
  | .tup ds => keyL ds
  | _ => none
def dSngT (d : D) : D → Option D := fun y => (keyT y).map fun k => .dctT [(k, d)]
def eMeth1N (cc : String) (mt : Str) (G : List D → Option Out) (k : Nat) (fa : List D → RE) : List D → RE := fun env => match env[k]? with
  | some o => if insOf cc mt o = true then bE (fa env) fun d e1 => match e1[k]? with
    | some o2 => behLN [some (k, pVar), none] e1 (G [o2, d])
    | none => none else none
  | none => none
end
def rngR (hi : Int) : Nat → List D
  | 0 => []
  | n + 1 => .int hi :: rngR (hi - 1) n
def sRevR (i : Nat) (fs : List (List D → M D)) (b : List D → Option Out) : List D → Option Out := match fs with
  | [fa, fb] => fun env => sX (fa env) env fun x => sX (fb env) env fun y => match x, y with
    | .int l, .int j => if bnd62 l = true ∧ bnd62 j = true then forF i b (rngR (j - 1) (j - l).toNat) env else none
    | _, _ => none
  | _ => fun _ => none
section
variable {W : WX} {ms : List Mo} {m : Md} {c c1 c2 : RC} {ta tb0 : TE} {f g : List D → M D}
end
end Mv

namespace Mv
open PySem L2 PySem.Spec
variable {cl : Nv}
section
variable {H H' H1 : Hp} {w w' : Om} {ms mn mx ms' : List Mo} {σ : L2.St} {env : List D} {W : WX} {m : Md} {c c1 c2 : RC} {te ta tb : TE} {f g : List D → M D} {fe fa : List D → RE} {K : PySem.W.Frag}
def eTup1E (fa : List D → RE) : List D → RE := fun env => bE (fa env) fun x e => some (.ok (.tup [x]), e)
def sRetAl (j : Nat) (fe : List D → RE) : List D → Option Out := fun env => sE (fe env) fun d e => (e[j]?).map fun d0 => Out.rt (.tup [d0, d]) e
def AlR (cl : Nv) (H' : Hp) (w' : Om) (ms : List Mo) (ks : List AK) (js : List Nat) (d : D) (v : V) : Prop :=
  ∃ (p : Addr) (v0 v1 : V) (d0 d1 : D) (j k : Nat) (s s0 : Sh) (pf : List D → Option (D → D)), d = .tup [d0, d1] ∧ v = .ref p ∧ H' p = some (.tup [v0, v1]) ∧ j ∈ js ∧ ks[j]? = some (.l k s0 pf) ∧ OwnT cl H' w' (lk ms k) s d0 v0 ∧ Rep cl H' (Fz w') d1 v1
def pinW (w : Om) (k : Nat) (v : V) (d : D) : Om := ⟨fun a => if w a = some (.ow k) then some .fo else w a, fun j => if j = k then (v, d) else w.pin j⟩
def dnM (k : Nat) (s : Sh) (m : Md) : Md := ⟨dn k s m.nx, dn k s m.bk, dn k s m.ct, dn k s m.rt, dn k s m.ex, m.rc⟩
def okpM (k : Nat) (s : Sh) (ms : List Mo) (m : Md) : Bool := okp k s ms m.nx && (okp k s ms m.bk && (okp k s ms m.ct && (okp k s ms m.rt && okp k s ms m.ex)))
def alOk (kb kt : Nat) (s : Sh) (ms : List Mo) (ks : List AK) (js : List Nat) : Bool := js.all fun j => match ks[j]? with
  | some (.l k _ _) => (decide (k = kb) || decide (k = kt)) && decide (ms[k]? = some (.ow s))
  | _ => false
end
end Mv

namespace Mv
open PySem L2
def iKeysL (td : TE) : TI := fun σ H R => td σ H fun x H1 => ∃ d kvs, x = .ref d ∧ H1 d = some (.dT kvs) ∧ ∀ o, R (Itkt d o kvs) (upd H1 d (.frz o (.dT kvs)))
def kD : Key → D
  | .inl i => .int i
  | .inr s => .str s
def dKeysT : D → Option D
  | .dctT kds => some (.lst (kds.map fun p => .tup (p.1.map kD)))
  | _ => none
variable {cl : Nv}
section
variable {H H' H1 : Hp} {w w' : Om} {ms ml : List Mo} {σ : L2.St} {env : List D} {W : WX} {m : Md} {c : RC} {te : TE} {f : List D → M D} {K : PySem.W.Frag}
end
end Mv

namespace Mv
open PySem L2
variable {cl : Nv}
def eFn1E (G : List D → Option Out) (f : List D → M D) (fe : List D → RE) : List D → RE := fun env => match f env with
  | some (.ok x) => bE (fe env) fun y e => (ofOutN (G [x, y])).map fun r => (r, e)
  | _ => none
section
variable {ms mn mx : List Mo} {W : WX} {ta tb : TE} {f : List D → M D} {fe : List D → RE}
end
end Mv

namespace Mv
open PySem L2
variable {cl : Nv}
def appC (c : Int) : D → Option D
  | .lst l => if l.length < LIM then some (.lst (l ++ [.int c])) else none
  | _ => none
def mapD (f : D → Option D) : List D → Option (List D)
  | [] => some []
  | d :: ds => (f d).bind fun x => (mapD f ds).map fun r => x :: r
def sForApp (i : Nat) (c : Int) : List D → Option Out := fun env => match env[i]? with
  | some (.lst ds) => (mapD (appC c) ds).map fun r => .nx (env.set i (.lst r))
  | _ => none
section
variable {ms : List Mo} {m : Md} {W : WX} {K : PySem.W.Frag}
end
end Mv
namespace Mv
open PySem L2
variable {cl : Nv}
def dAddL : D → D → Option D
  | .lst a, .lst b => if a.length + b.length ≤ LIM ∧ immL a = true ∧ immL b = true then some (.lst (a ++ b)) else none
  | _, _ => none
section
variable {W : WX} {ms : List Mo} {c1 c2 : RC} {ta tb : TE} {f g : List D → M D} {K : PySem.W.Frag}
end
end Mv
namespace Mv
open PySem L2
variable {cl : Nv}
section
variable {W : WX} {ms : List Mo} {c : RC} {ta : TE} {f : List D → M D} {K : PySem.W.Frag}
end
end Mv

namespace Mv
open PySem L2
variable {cl : Nv}
section
variable {ms mn mx : List Mo} {m : Md} {W : WX} {te : TE} {f : List D → M D} {fe : List D → RE} {s : Sh}
def eNn (f : List D → M D) : List D → M D := fun env => match f env with | some (.ok .non) => none | r => r
end
end Mv

namespace L2
open PySem PySem.Spec PyProof.Rows PySem.W
def rSortD (K : PySem.W.Frag) : List V → Hp → VK → Prop := fun vs H Q => ∃ (a : Addr) (us : List V) (ds : List PyData), vs = [V.ref a] ∧ SqL K H a us ∧ DpAll K H us ds ∧ AllAlike ds ∧ Sortable ds ∧ (∀ d ∈ ds, d.depth ≤ 60) ∧
  ∀ (p : Addr), H p = none → Q (.ref p) (upd H p (.lst (((us.zip ds).mergeSort (dataLe false fun z => z.2)).map (·.1))))
section
variable {X : Cx}
end
end L2
namespace Mv
open PySem L2 PySem.W PyProof.Rows
variable {cl : Nv}
def tup1 : D → Bool
  | .tup (_ :: _) => true
  | _ => false
def srtOk (ds : List D) : Bool := ds.all fun d => tup1 d && imm d && (toPy d).canLay0 && decide ((toPy d).depth ≤ 60) && ds.all fun e => alike (toPy d) (toPy e)
def dSortD : List D → Option D
  | [.lst ds] => if srtOk ds = true then some (.lst (ds.mergeSort (dataLe false toPy))) else none
  | _ => none
end Mv

namespace Mv
open PySem L2
variable {cl : Nv}
section
variable {H H' H1 : Hp} {w w' : Om} {ms : List Mo} {σ : L2.St} {env : List D} {W : WX} {m : Md} {K : PySem.W.Frag} {s : Sh} {i j : Nat}
def swN (i j k : Nat) : Nat := if k = i then j else if k = j then i else k
def swL (i j : Nat) : Option Lb → Option Lb
  | some (.ow k) => some (.ow (swN i j k))
  | o => o
def swO (i j : Nat) (w : Om) : Om := ⟨fun a => swL i j (w a), w.pin⟩
theorem StOk.any {x : Option V} (h : StOk cl H w ms σ env) (hj : ms[j]? = some .un) : StOk cl H w ms (σ.set j x) env := ⟨h.wf, by simp [h.ls], h.le, fun k mo e n => by
  by_cases kj : k = j
  · subst kj
    rw [hj] at e
    cases e
    exact absurd rfl n
  · rw [List.getElem?_set_ne (Ne.symm kj)]
    exact h.sl k mo e n⟩
def swD (i j : Nat) (e : List D) : List D := (e.set i (e.getD j .non)).set j (e.getD i .non)
def sSwp (i j : Nat) : List D → Option Out := fun env => some (.nx (swD i j env))
def rtOnly : Option Out → Option Out
  | some (.rt d e) => some (.rt d e)
  | _ => none
def sFor2 (i j : Nat) (fe : List D → RE) (ft : List D → RB) (gb : List D → Option Out) : List D → Option Out := fun env => match fe env with
  | some (.ok d2, e1) => match ft (swD i j (e1.set j d2)) with
    | some (.ok true, e2) => rtOnly (gb (swD i j e2))
    | some (.ok false, e2) => match ft (swD i j e2) with
      | some (.ok true, e3) => rtOnly (gb e3)
      | some (.ok false, e3) => some (.nx e3)
      | _ => none
    | _ => none
  | _ => none
end
end Mv

namespace Mv
open PySem L2
variable {cl : Nv}
section
variable {H H' : Hp} {w : Om} {ms : List Mo} {σ : L2.St} {env : List D} {W : WX} {c c1 c2 : RC} {ta tb : TE} {f g : List D → M D}
def rSpl : V → List V → Hp → VK → Prop := fun x xs H Q => ∃ a b, x = .str a ∧ xs = [.str b] ∧ (b.length == 0) = false ∧ a.length + 2 ≤ sizeLine ∧ rNewStrs (Txt.split a b) H Q
def splT (a b : Str) : Option (List Str) := if (b.length == 0) = false ∧ a.length + 2 ≤ LIM then some (Txt.split a b) else none
def eSpl (f g : List D → M D) : List D → M D := fun env => bd (f env) fun x => match x with
  | .str a => bd (g env) fun y => match y with
    | .str b => lift ((splT a b).map fun l => .lst (l.map D.str))
    | _ => none
  | _ => none
theorem repStrs {P : Addr → Prop} : ∀ l : List Str, RepL cl H P (l.map D.str) (l.map V.str)
  | [] => .nil
  | x :: l => .cons (.str x) (repStrs l)
theorem se_spl (ha : SE cl W ms c1 ta f) (hb : SE cl W ms c2 tb g) : SE cl W ms (.fr (.ls .fz)) (tM1 rSpl ta tb) (eSpl f g) := fun H w σ env st r e x Q q =>
  ha.bind st e x fun d1 H1 v1 s1 r1 e => by
    have r1' := r1.an st.wf
    cases r1' with
    | str a =>
      refine ⟨⟨a, rfl⟩, ?_⟩
      refine hb.bind (st.same s1) e (x.same s1) fun d2 H2 v2 s2 r2 e => ?_
      have r2' := r2.an (st.wf.same s1)
      cases r2' with
      | str b =>
        obtain ⟨z, e1, rfl⟩ := lift_ok e
        obtain ⟨l, e2, rfl⟩ := Option.map_eq_some_iff.mp e1
        unfold splT at e2
        split at e2
        · rename_i hl
          cases e2
          refine ⟨a, b, rfl, rfl, hl.1, LIM_le hl.2, fun p hp => ?_⟩
          have s3 := new_same (o := .lst ((Txt.split a b).map V.str)) hp
          refine q _ rfl _ _ ((s1.trans s2).trans s3) ?_
          refine FrT.l1 ?_ upd_same (repStrs _)
          cases hH : H p with
          | none => rfl
          | some o =>
            have := (s1.trans s2) p o hH
            rw [hp] at this
            cases this
        · cases e2
      | _ => cases e
    | _ => cases e
abbrev rIntS : List V → Hp → VK → Prop := fun xs H Q => ∃ a n, xs = [.str a] ∧ PySem.intText? a = some n ∧ a.length ≤ 640 ∧ Q (.int n) H
def intS (a : Str) : Option Int := if a.length ≤ 640 then PySem.intText? a else none
def dIntS : List D → Option D
  | [.str a] => (intS a).map D.int
  | _ => none
theorem ca_intS : CaS0 cl rIntS [c] .pu dIntS := by
  intro H0 H w ds vs z Q wf s r e q
  obtain ⟨d, v, rfl, rfl, rr⟩ := r.one wf
  cases rr with
  | str a =>
    obtain ⟨n, e1, rfl⟩ := Option.map_eq_some_iff.mp (show (intS a).map D.int = some z from e)
    unfold intS at e1
    split at e1
    · rename_i hl
      exact ⟨a, n, rfl, e1, hl, q H _ (Same.refl H) (.int _)⟩
    · cases e1
  | _ => cases e
end
end Mv

namespace Mv
open PySem L2
variable {cl : Nv}
section
variable {H H' : Hp} {w : Om} {ms : List Mo} {σ : L2.St} {env : List D} {W : WX} {m : Md} {c c1 c2 c3 : RC} {ta tb : TE}
def rngC (lo c : Int) : Nat → List D
  | 0 => []
  | n + 1 => .int lo :: rngC (lo + c) c n
def rgN (l j c : Int) : Option Nat := if c ≠ 0 ∧ c.natAbs < 1073741824 ∧ Builtin.Range.small l j c = true ∧ 0 ≤ Builtin.Range.rangeSize l j c then some (Builtin.Range.rangeSize l j c).toNat else none
def sRg3 (i : Nat) (fs : List (List D → M D)) (b : List D → Option Out) : List D → Option Out := fun env => match eArgs fs env with
  | some (.ok [.int l, .int j, .int c]) => (rgN l j c).bind fun n => forF i b (rngC l c n) env
  | some (.ex c) => some (.ex c env)
  | _ => none
end
end Mv

namespace Mv
open PySem L2
variable {cl : Nv}
section
variable {H H' : Hp} {w : Om} {ms mn mx : List Mo} {σ : L2.St} {env : List D} {W : WX} {m : Md} {c c1 c2 : RC} {ta te : TE} {f g : List D → M D} {fe : List D → RE}
def eJsE (z : Str) (fe : List D → RE) : List D → RE := fun env => if (Str.empty ++ z).length ≤ LIM then bE (fe env) fun d e => match dFmt d with
  | some (.str y) => if ((Str.empty ++ z) ++ y).length ≤ LIM then some (.ok (.str ((Str.empty ++ z) ++ y)), e) else none
  | _ => none else none
def hdL (cl : Nv) (l : List (String × Str)) : List (Value × (Addr → Value → Option Addr → TS)) := l.map fun p => (.ref (cl p.1), fun _ _ _ => tRet (tC (.str p.2)))
def tTryMany (cl : Nv) (l : List (String × Str)) (tb : WX → TS) : TS := fun Dn σ H => tb (wMany cl.K wNo Dn (hdL cl l)) Dn σ H
def lkS : List (String × Str) → String → Option Str
  | [], _ => none
  | (k, z) :: r, c => if c = k then some z else lkS r c
def sTryMany (l : List (String × Str)) (g : List D → Option Out) : List D → Option Out := fun env => match g env with
  | some (.ex c e) => (lkS l c).map fun z => .rt (.str z) e
  | o => o
def exmT (cl : Nv) (l : List String) : Bool := l.all fun c => l.all fun x => PySem.W.exmOne cl.K (.ref (cl c)) (.ref (cl x)) == some (decide (c = x))
abbrev rDig : V → List V → Hp → VK → Prop := fun x xs H Q => ∃ a, x = .str a ∧ xs = [] ∧ True ∧ Q (.bl (Txt.isdigit a)) H
def eDig (f : List D → M D) : List D → M D := fun env => bd (f env) fun d => match d with
  | .str a => some (.ok (.bl (Txt.isdigit a)))
  | _ => none
def asS : List (Str × Str) → Str → Option Str
  | [], _ => none
  | (k, z) :: r, c => if c = k then some z else asS r c
def tKGet (K : PySem.W.Frag) (d : Addr) (te : TE) : TE := fun σ H Q => te σ H fun y H2 => ∃ z r, y = .str z ∧ PySem.W.nsIn K d z = some r ∧ (r = none → Q .non H2) ∧ ∀ u, r = some u → ∃ v, RelV v u ∧ Q v H2
def KTab (K : PySem.W.Frag) (d : Addr) (tb : List (Str × Str)) : Prop := ∀ z, ∃ r, PySem.W.nsIn K d z = some r ∧ match asS tb z with
  | none => r = none
  | some s => ∃ t, r = some (.str s t)
def eKGet (tb : List (Str × Str)) (f : List D → M D) : List D → M D := fun env => bd (f env) fun y => match y with
  | .str z => some (.ok (match asS tb z with | some s => .str s | none => .non))
  | _ => none
def entB : List DictEntry → List (Str × Str) → Bool
  | [], [] => true
  | e :: es, (k, z) :: r => (match e.key, e.val with
    | .str x _, .str y _ => decide (x = k) && decide (y = z)
    | _, _ => false) && entB es r
  | _, _ => false
def tabB (K : PySem.W.Frag) (d : Addr) (tb : List (Str × Str)) : Bool := match K.lookup d with
  | some ⟨_, _, .dict es _, _⟩ => entB es.toList tb
  | _ => false
abbrev TabQ : Type := Str × List Str
def obsQT (n : Nat) (fa : List He.Fa) (fn : List He.DefD) (ex : PySem.W.Frag → Bool) (ts : List TabQ) (g : Addr → Option Obj) : (He.AlD × Bool) × List (Option (List (Option (Str × Int)))) := (obsQ n fa fn ex g, ts.map fun t => He.dicW (He.frG g (He.asD g n)) (He.ga (He.frG g (He.asD g n)) t.1))
def valQT (fn : List He.DefD) (ts : List TabQ) (w : World) : (He.AlD × Bool) × List (Option (List (Option (Str × Int)))) := ((He.valD fn, true), ts.map fun (t : TabQ) => some (He.keysIn w.params t.2))
def hookQT (n : Nat) (fa : List He.Fa) (fn : List He.DefD) (ex : PySem.W.Frag → Bool) (ts : List TabQ) : PySem.W.Hook where
  α := (He.AlD × Bool) × List (Option (List (Option (Str × Int))))
  obs := fun s => obsQT n fa fn ex ts s.heap.get?
  val := fun w => valQT fn ts w
  says := fun w h => ∃ K : PySem.W.Frag, K.In h ∧ He.SaysD fa fn K ∧ ex K = true ∧ (ts.map fun t => He.dicW K (He.ga K t.1)) = ts.map fun t => some (He.keysIn w.params t.2)
  of := fun _ _ e => ⟨_, He.frG_in, congrArg (fun z : (He.AlD × Bool) × List (Option (List (Option (Str × Int)))) => z.1.1) e, congrArg (fun z : (He.AlD × Bool) × List (Option (List (Option (Str × Int)))) => z.1.2) e, congrArg Prod.snd e⟩
  keeps := fun _ _ _ ⟨K, hK, c⟩ k => ⟨K, PySem.W.Frag.In.keeps hK k, c⟩
end
end Mv

namespace Mv
open PySem L2
variable {cl : Nv}
section
variable {H H' : Hp} {w : Om} {ms mn mo mx : List Mo} {σ : L2.St} {env : List D} {W : WX} {m : Md} {c c1 c2 : RC} {ta tb te : TE} {f g : List D → M D} {fe fa ge : List D → RE}
def eOpEE (op : D → D → Option D) (fa ge : List D → RE) : List D → RE := fun env => bE (fa env) fun x e => bE (ge e) fun y e2 => (op x y).map fun z => (.ok z, e2)
def eCall1E (op : List D → Option D) (fa : List D → RE) : List D → RE := fun env => bE (fa env) fun d e => (op [d]).map fun z => (.ok z, e)
def eLcS (i : Nat) (f : List D → M D) (ft : List D → M Bool) (g : List D → M D) : List D → M D := fun env => bd (f env) fun d => match d with
  | .str z => if (z.cps.toList.map chD).length ≤ LIM then lift ((lcF i ft g (z.cps.toList.map chD) env).map D.lst) else none
  | _ => none
def rMulS : R2 := fun x y H Q => ∃ a n, x = .str a ∧ y = .int n ∧ MulOk a n ∧ Q (.str (Txt.mul a n)) H
def dMulS : D → D → Option D
  | .str a, .int n => if 1 < n ∧ n ≤ 1000 ∧ a.length * n.toNat ≤ LIM then some (.str (Txt.mul a n)) else none
  | _, _ => none
end
end Mv

namespace Mv
open PySem L2
variable {cl : Nv}
def okE : RE → Option (D × List D)
  | some (.ok d, e) => some (d, e)
  | _ => none
def lcFE (i : Nat) (ge : List D → RE) : List D → List D → Option (List D × List D)
  | [], env => some ([], env)
  | d :: ds, env => (okE (ge (env.set i d))).bind fun p => (lcFE i ge ds p.2).map fun q => (p.1 :: q.1, q.2)
def eLcE (i : Nat) (fe : List D → RE) (ge : List D → RE) : List D → RE := fun env => bE (fe env) fun d e1 => match d with
  | .lst ds => if ds.length ≤ LIM then (lcFE i ge ds e1).map fun p => (.ok (.lst p.1), p.2) else none
  | _ => none
def noFo : Mo → Bool
  | .un => true
  | .pu => true
  | .ow _ => true
  | .bo _ => true
  | _ => false
section
variable {H H' H1 : Hp} {w w' w1 : Om} {ms mn mx m1 m2 m3 m4 : List Mo} {σ : L2.St} {env : List D} {W : WX} {c : RC} {te tf : TE} {fe ge : List D → RE} {K : PySem.W.Frag} {i : Nat}
def labF (w : Om) (D : Addr) : Om := ⟨fun a => if a = D then some .fo else w a, w.pin⟩
def labN (w : Om) (D : Addr) : Om := ⟨fun a => if a = D then none else w a, w.pin⟩
end
end Mv

namespace Mv
open PySem L2 PyProof.Rows
variable {cl : Nv}
def keysS (ps : List (Str × Int)) : List (Key × D) := ps.map fun p => (.inr p.1, .int p.2)
def keysV (ps : List (Str × Int)) : List (Key × V) := ps.map fun p => (.inr p.1, .int p.2)
def eDctS (ps : List (Str × Int)) : List D → M D := fun _ => some (.ok (.dct (keysS ps)))
def trsS (ps : List (Str × Int)) : List (TE × TE) := ps.map fun p => (tC (.str p.1), tC (.int p.2))
def tDUpd (td ty : TE) : TE := fun σ H Q => td σ H fun x H1 => ∃ a, x = .ref a ∧ IsD H1 a ∧ ty σ H1 fun y H2 => ∃ b kvs more, y = .ref b ∧ a ≠ b ∧ H2 a = some (.dK kvs) ∧ Rd H2 b (.dK more) ∧ kvs.length + more.length ≤ sizeLine ∧ Q .non (upd H2 a (.dK (mergeK kvs more)))
def mrgG (kds more : List (Key × D)) : List (Key × D) := more.foldl (fun acc kv => putG acc kv.1 kv.2) kds
def dMrg (d : D) (ps : List (Str × Int)) : Option D := match d with
  | .dct kds => if kds.length + ps.length ≤ LIM then some (.dct (mrgG kds (keysS ps))) else none
  | _ => none
def sDUpdP (i : Nat) (f : List D → M D) (pf : List D → Option (D → D)) (ps : List (Str × Int)) : List D → Option Out := fun env => sX (f env) env fun d => match pf env, dMrg d ps with
  | some R, some d' => some (.nx (env.set i (R d')))
  | _, _ => none
section
variable {H H' : Hp} {w : Om} {ms mn mo mx : List Mo} {σ : L2.St} {env : List D} {W : WX} {c c1 c2 : RC} {ta tb te : TE} {fa ge : List D → RE}
def eLst2E (fa ge : List D → RE) : List D → RE := fun env => bE (fa env) fun x e => bE (ge e) fun y e2 => some (.ok (.lst [x, y]), e2)
def eAndVE (fa ge : List D → RE) : List D → RE := fun env => bE (fa env) fun d e => match d with
  | .bl true => ge e
  | .bl false => some (.ok (.bl false), e)
  | _ => none
end
end Mv

namespace Mv
open PySem PySem.Spec L2 PyProof.Rows
variable {cl : Nv}
def tReplS (to : TE) (y : Str) (te : TE) : TE := fun σ H Q => to σ H fun v H1 => ∃ x, v = .str x ∧ te σ H1 fun u H2 => ∃ i : Int, u = .int i ∧ i.natAbs.log2 < 1920 ∧ (y == (toString i : Str)) = false ∧ x.length + (x.length + 1) * ((toString i : Str)).length ≤ 16777216 ∧ Q (.str (Txt.replace x y (toString i))) H2
section
variable {X : Cx} {o e : Expr} {te to : TE} {y : Str} {j : Nat} {c0 p1 p2 apos pos p : Pos}
end
def eReplS (f : List D → M D) (y : Str) (g : List D → M D) : List D → M D := fun env => bd (f env) fun a => match a with
  | .str x => bd (g env) fun b => match b with
    | .int i => if i.natAbs.log2 < 1920 ∧ (y == (toString i : Str)) = false ∧ x.length + (x.length + 1) * ((toString i : Str)).length ≤ LIM then some (.ok (.str (Txt.replace x y (toString i)))) else none
    | _ => none
  | _ => none
section
variable {W : WX} {ms : List Mo} {c1 c2 : RC} {ta tb : TE} {f g : List D → M D} {y : Str}
end
theorem PSsT.nox {X : Cx} {st : List Stmt} {t : TS} (h : PSsT X.nox st t) : PSsT X st t := fun pins s σ H D h0 I hw =>
  wpAny_mono (h pins s σ H D h0 (I.wish _) hw) (fun _ _ q => q.unwish) fun _ _ z => False.elim z
section
variable {P : Program} {w : World} {K : PySem.W.Frag} {mg : Str → Option Value} {base : Heap} {x qual : Str} {params : Arguments} {body : List Stmt} {scope : Scope} {f : Addr} {fd : FuncData}
end
end Mv

namespace L2
open PySem PySem.Spec PyProof.Rows
theorem setFlight_hereZ {M : Model} {A : Around} {E : Value → Shared → Prop} {s : Shared} {base : Heap} {l : List Env} {e L : Addr} {Z : Obj → Prop} {fl : Value} {Q : Unit → Shared → Prop} (hkb : base.StaysIn s.heap) (hl : s.heap.FunFrames base l) (ht : HandSPX.TracedZ s.heap base e Z fl)
    (h : ∀ h', base.StaysIn h' → h'.FunFrames base l → HandSPX.TracedZ h' base e Z (rawInt L) → s.heap.UpToSlots h' → Q () { s with heap := h' }) :
    wpAny M A (setFlight (.ref e) (some L)) Q E s := by
  obtain ⟨oe, vs, T, oT, ts, he, hz, hd, h1, hnT, hTe, hT, hdT, h3⟩ := ht
  have hsz : 3 < ts.size := (Array.getElem?_eq_some_iff.mp h3).1
  have other : ∀ b, b ≠ T → (s.heap.update T (Obj.mapFields (·.setIfInBounds 3 ((some L : Option Addr).elim Value.none fun f => rawInt f)))).get? b = s.heap.get? b :=
    fun b hb => Heap.get?_update_other _ _ (Ne.symm hb)
  have noT : ∀ b o, s.heap.get? b = some o → (∀ vs, o.data ≠ .fields vs) → b ≠ T := fun b o hb hnf q => by
    rw [q, hT] at hb
    cases hb
    exact hnf ts hdT
  unfold setFlight
  refine wpAny_bind (wpAny_field he hd h1 ?_)
  rw [if_pos (show (Value.ref T != Value.none) = true from by simp)]
  refine wpAny_setField hT hdT hsz (h _ (fun b o hbo => (other b fun q => by rw [q, hnT] at hbo; cases hbo).trans (hkb b o hbo))
    (hl.of_keeps fun b o hb hnf => ⟨o, (other b (noT b o hb hnf)).trans hb, rfl⟩) ?_ fun b o hb hnf => ⟨o.slots, (other b (noT b o hb hnf)).trans hb⟩)
  exact ⟨oe, vs, T, _, _, (other e (Ne.symm hTe)).trans he, hz, hd, h1, hnT, hTe, Heap.get?_update_self _ hT (Obj.isFreed_of_fields (Obj.data_mapFields hdT _)), Obj.data_mapFields hdT _, by simp [hsz]⟩
theorem blk_passes {X : Cx} {W : WX} {pins : List (Addr × Obj)} {σ : St} {H3 : Hp} {s3 : Shared} {scope : Scope} {ce : Env} {fp : List Addr} (tk : Takes X W) (hst : X.stack = X.env :: X.outer) (hf : X.env.frame = some X.env.locals) (I3 : Inv X pins σ H3 s3)
    (hch : ∀ b ∈ fp, (b ∈ X.ex ∨ X.s_0.heap.objs.size ≤ b) ∧ b ≠ X.env.locals ∧ (∀ x c, X.env.cells.lookup x = some c → c ≠ b) ∧ ∀ p ∈ X.pn ++ pins, p.1 ≠ b) (hcf : ce.frame = X.env.frame) (cL : ce.locals = s3.heap.objs.size) :
    ∀ σ', PassesAt (CX X.prog X.w) ((X.blk s3 H3 scope ce fp).tr [] (notedBy (model X.prog X.w) X.A ce (CompFails (model X.prog X.w) X.A X.xe ce))) σ' (WE W σ) := by
  intro σ' pins' H' s' e s'' J c
  obtain ⟨a, B, sI, pins2, σ2, H2, cls, d, rfl, J2, nb, up, sky, na, os, ag, w⟩ := XE.of_call (W := fun cls d _ H => W cls d σ H) J (fun _ _ _ h => h) c
  have fl : HandSPX.FlyingZ B X.stack a (Zc cls d) s''.heap := by
    obtain ⟨a', B', H'', cls', d', he, ⟨_, _, _, oe, vs, T, oT, ts, e1, e2, e3, e4, e5, e6, e7, e8, e9⟩, _⟩ := c
    cases he
    rcases sky with ⟨_, _, _, oe', vs', q1, q2, q3, q4⟩ | fl | ⟨_, _, _, oe', vs', T', oT', ts', q1, q2, q3, q4, q5, q6, q7, q8, q9⟩
    · rw [e1] at q1; cases q1; rw [e3] at q3; cases q3; rw [e4] at q4; cases q4
    · exact fl
    · rw [e1] at q1; cases q1; rw [e3] at q3; cases q3; rw [e4] at q4; cases q4; rw [e7] at q7; cases q7; rw [e8] at q8; cases q8; rw [e9] at q9; cases q9
  show wpAny (model X.prog X.w) X.A (noteFrame (.ref a) ce) _ _ s''
  rw [noteFrame_env _ hcf]
  have hfr : X.A.frames = some (X.env :: X.outer) := by rw [I3.ok.frames, hst]
  rw [hst] at fl
  refine HandSPX.looks_onZ Zc.steady hfr hf fl fun h' hh up' => ?_
  obtain ⟨m, hn, _⟩ := J2.loc
  have hn : sI.heap.Ns ce.locals m := hn
  have hn1 : s''.heap.Ns ce.locals m := hn.upToSlots up
  have hn2 : h'.Ns ce.locals m := hn1.upToSlots up'
  refine ⟨m, hn2, fun h₂ m₂ hn₂ hs₂ => ?_⟩
  have B2get : ∀ b o, (PySem.W.hideAll B [ce.locals]).get? b = some o → B.get? b = some o := fun b o e => PySem.W.of_hideAll _ e
  have B2none : (PySem.W.hideAll B [ce.locals]).get? ce.locals = none := PySem.W.hideAll_none _ (List.mem_singleton.mpr rfl)
  have nN : ∀ {b : Addr}, B.get? b = none → (PySem.W.hideAll B [ce.locals]).get? b = none := fun {b} e => by
    cases q : (PySem.W.hideAll B [ce.locals]).get? b with
    | none => rfl
    | some o => rw [B2get b o q] at e; cases e
  obtain ⟨f1, f2, f3, oe, vs, T, oT, ts, t1, t2, t3, t4, t5, t6, t7, t8, t9⟩ := hh
  have b2 : (PySem.W.hideAll B [ce.locals]).StaysIn h₂ := fun b o e => (hs₂.2 b (fun z => by rw [z, B2none] at e; cases e)).trans (f1 b o (B2get b o e))
  have f4 : h₂.FunFrames (PySem.W.hideAll B [ce.locals]) (X.env :: X.outer) := Heap.FunFrames.sameBut hs₂ hn₂ (funFrames_none f3 fun b hb => nN (f3.mem hb).1)
  obtain ⟨oL, es, ep, hoL, hdL, _⟩ := id hn2
  have neA : a ≠ ce.locals := fun q => by rw [q, hoL] at t1; cases t1; rw [hdL] at t3; cases t3
  have neT : T ≠ ce.locals := fun q => by rw [q, hoL] at t7; cases t7; rw [hdL] at t8; cases t8
  unfold PySem.passOn
  refine wpAny_bind (wpAny_field (s := { s'' with heap := h₂ }) ((hs₂.2 a neA).trans t1) t3 t4 ?_)
  rw [if_neg (show ¬ ((Value.ref T == Value.none) = true) from by simp)]
  rw [hcf, hf]
  refine wpAny_bind (setFlight_hereZ (s := { s'' with heap := h₂ }) (Z := Zc cls d) b2 f4 ⟨oe, vs, T, oT, ts, (hs₂.2 a neA).trans t1, t2, t3, t4, nN t5, t6, (hs₂.2 T neT).trans t7, t8, t9⟩ fun h₃ b3 f5 t3' k3 => ?_)
  refine wpAny_throw ?_
  have neS : ∀ b o, s3.heap.get? b = some o → b ∉ [ce.locals] := fun b o e hm => by
    rw [List.mem_singleton.mp hm, cL] at e
    exact absurd (Heap.lt_size e) (Nat.lt_irrefl _)
  have hok : HOk X.prog X.w H2 (PySem.W.hideAll sI.heap [ce.locals]) := fun b o q => (J2.hok b o q).stay (fun c u hc r => PySem.W.hideAll_get _ r fun hm => by
    have z : H2 ce.locals = none := J2.free
    rw [← List.mem_singleton.mp hm] at z
    rcases hc with hc | hc
    · rw [hc, q] at z; cases z
    · rw [hc] at z; cases z) (fun _ r => r) fun _ _ r => r
  have u : Un (frs X.stack) fp H3 H2 s3.heap (PySem.W.hideAll sI.heap [ce.locals]) := by
    have u0 : Un (frs X.stack) fp H3 H2 s3.heap sI.heap := J2.base
    refine ⟨fun b o e n h1 h2 => PySem.W.hideAll_get _ (u0.keep b o e n h1 h2) (neS b o e), fun b o e n h1 h2 => ?_, u0.free, fun b o e h2 => ?_, u0.tups, u0.frzs, u0.tbls⟩
    · obtain ⟨sl, q⟩ := u0.slot b o e n h1 h2
      exact ⟨sl, PySem.W.hideAll_get _ q (neS b o e)⟩
    · obtain ⟨o', q⟩ := u0.there b o e h2
      exact ⟨o', PySem.W.hideAll_get _ q (neS b o e)⟩
  refine tk _ _ ⟨a, PySem.W.hideAll B [ce.locals], { sI with heap := PySem.W.hideAll sI.heap [ce.locals] }, pins, σ, H2, cls, d, rfl, I3.call' (ch := fp) J2.os u hok J2.bare hch, fun b o e hb => ?_, fun b o e hnf => ?_, .inr (.inr ?_), na, os, ag, w⟩
  · have hm : b ∉ [ce.locals] := fun hm => by
      have z := PySem.W.hideAll_none (h := sI.heap) [ce.locals] hm
      rw [show (PySem.W.hideAll sI.heap [ce.locals]).get? b = some o from e] at z
      cases z
    exact PySem.W.hideAll_get _ (nb b o (PySem.W.of_hideAll _ e) hb) hm
  · have e : (PySem.W.hideAll sI.heap [ce.locals]).get? b = some o := e
    have hm : b ≠ ce.locals := fun hm => by
      have z := PySem.W.hideAll_none (h := sI.heap) (b := b) [ce.locals] (List.mem_singleton.mpr hm)
      rw [e] at z
      cases z
    obtain ⟨l1, q1⟩ := up b o (PySem.W.of_hideAll _ e) hnf
    obtain ⟨l2, q2⟩ := up' b _ q1 hnf
    obtain ⟨l3, q3⟩ := k3 b _ ((hs₂.2 b hm).trans q2) hnf
    exact ⟨l3, q3⟩
  · rw [hst]
    exact ⟨b3, nN f2, f5, t3'⟩
theorem pe_lcX {X : Cx} {W : WX} {elt tg iter : Expr} {scope : Scope} {own : List (Str × Nat)} {pos : Pos} {wi : TI} {g : TG} {te : St → TE} (hc : X.calm = true) (hN : X.N.Nodup) (tk : Takes X W) (hst : X.stack = X.env :: X.outer) (hf : X.env.frame = some X.env.locals) (hi : PI X tg iter wi) (ok : BlkOk X.N X.env.scope scope own)
    (hg : ∀ (s : Shared) (H : Hp) (C : Addr) (cl : List (Str × Addr)) (fp : List Addr) (xe : Value → Shared → Prop), PG ((X.blk s H scope (compEnvC scope cl C X.env) fp).tr [] xe) tg g)
    (he : ∀ (σ : St) (s : Shared) (H : Hp) (C : Addr) (cl : List (Str × Addr)) (fp : List Addr) (xe : Value → Shared → Prop), (∀ σ', PassesAt (CX X.prog X.w) ((X.blk s H scope (compEnvC scope cl C X.env) fp).tr [] xe) σ' (WE W σ)) → PE ((X.blk s H scope (compEnvC scope cl C X.env) fp).tr [] xe) elt (te σ))
    (hs : ∀ x, foldedSetIterable iter X.env x = pure x := by intro _; rfl) :
    PE X (.ListComp elt [⟨tg, iter, [], 0⟩] scope pos) (fun σ H Q => tLc wi g tYes (te σ) (own.map (·.2)) σ H Q) := by
  refine ⟨fun pins s σ H Q I h => ?_⟩
  rw [eval_ListComp]
  have hfree : ∀ y ∈ scope.names, y.2 = .free → ∃ c, X.env.cells.lookup y.1 = some c := fun y hy e => by
    rcases ok.free y hy e with k | k
    · exact I.ok.has _ (.inl k)
    · exact I.ok.has _ (.inr k)
  refine comprehension_at (use := none) rfl hs (closure_ok hfree) ok.kind (fun y hy e => by rw [ok.uniq y hy, e])
    (thn (hi.run pins s σ H _ I h) fun xv s1 hx => thn hx fun itv s2 h2 => ?_)
  obtain ⟨it, fp, tn, J, H2, e, I2, T, st2, f2, q⟩ := h2
  subst e
  refine wpAny_newObj_type (newEnv_comp ?_) (by show 0 ≤ sizeLine; decide)
  generalize hD : s2.heap.objs.size = D
  have hDn : H2 D = none := I2.hok.fresh (Nat.le_of_eq hD)
  obtain ⟨Wn, ⟨m0, w0⟩, turn⟩ := q D hDn
  generalize hs3 : ({ s2 with heap := s2.heap.push { cls := .type "list", data := .seq ([] : List Value).toArray } } : Shared) = s3
  have I3 : Inv X pins σ (upd H2 D (.lst [])) s3 := by
    rw [← hs3]
    refine I2.laid (t' := s2.toks) (fun b o e => Heap.get?_push_of_some _ e) (Nat.le_of_eq hD) ⟨Nat.zero_le _, [], 0, .nil, ?_⟩
    rw [← hD]
    exact Heap.get?_push_size _ rfl
  have h3 : s3.heap = s2.heap.push { cls := .type "list", data := .seq ([] : List Value).toArray } := by rw [← hs3]
  have sz : ∀ b ∈ fp, b < s2.heap.objs.size := fun b hb => by
    obtain ⟨o, e, _⟩ := T.obj _ _ st2 b hb
    exact Heap.lt_size e
  have f3 : ∀ b ∈ fp, FpOk X pins (upd H2 D (.lst [])) b ∧ b < s3.heap.objs.size := fun b hb => by
    have hlt := sz b hb
    refine ⟨⟨?_, (f2 b hb).2⟩, by rw [h3, Heap.size_push]; exact Nat.lt_succ_of_lt hlt⟩
    rw [upd_ne (by rw [← hD]; exact Nat.ne_of_lt hlt)]
    exact (f2 b hb).1
  have hch : ∀ b ∈ fp, (b ∈ X.ex ∨ X.s_0.heap.objs.size ≤ b) ∧ b ≠ X.env.locals ∧ (∀ x c, X.env.cells.lookup x = some c → c ≠ b) ∧ ∀ p ∈ X.pn ++ pins, p.1 ≠ b := fun b hb => ⟨(f3 b hb).1.2.2.2.1, (f3 b hb).1.2.1, (f3 b hb).1.2.2.2.2.1, (f3 b hb).1.2.2.2.2.2⟩
  have st3 : tn 0 s3.heap := T.keep _ _ _ st2 fun b _ o e => by rw [h3]; exact Heap.get?_push_of_some _ e
  have I4 := block_start I3 ok hN f3
  have pg := hg s3 (upd H2 D (.lst [])) s3.heap.objs.size (cellsFrom (s3.heap.objs.size + 1) scope.names (cloFrom X.env.cells scope.names [])) fp
  have pe := he σ s3 (upd H2 D (.lst [])) s3.heap.objs.size (cellsFrom (s3.heap.objs.size + 1) scope.names (cloFrom X.env.cells scope.names [])) fp
  show codeAny _ _ (.compStart (.ListComp elt [⟨tg, iter, [], 0⟩] scope pos) 0 (.ref it) (.ref D) (compEnvC scope (cellsFrom (s3.heap.objs.size + 1) scope.names (cloFrom X.env.cells scope.names [])) s3.heap.objs.size X.env)) (compEnds (model X.prog X.w) X.A X.xe none (EP X pins σ Q) (.ref D) (compEnvC scope (cellsFrom (s3.heap.objs.size + 1) scope.names (cloFrom X.env.cells scope.names [])) s3.heap.objs.size X.env)) { s3 with heap := pushCells (s3.heap.push { cls := .type "dict", data := .dict #[] }) scope.names }
  have nfp : ∀ b ∈ fp, (upd H2 D (.lst [])) b = none := fun b hb => (f3 b hb).1.1
  generalize hce : compEnvC scope (cellsFrom (s3.heap.objs.size + 1) scope.names (cloFrom X.env.cells scope.names [])) s3.heap.objs.size X.env = ce at I4 pg pe ⊢
  have cL : ce.locals = s3.heap.objs.size := by subst hce; rfl
  have cF : ce.frame = X.env.frame := by subst hce; rfl
  generalize hH3 : upd H2 D (.lst []) = H3 at I3 I4 pg pe w0 nfp f3
  generalize hs4 : ({ s3 with heap := pushCells (s3.heap.push { cls := .type "dict", data := .dict #[] }) scope.names } : Shared) = s4 at I4 ⊢
  have st4 : tn 0 s4.heap := T.keep _ _ _ st3 fun b _ o e => by rw [← hs4]; exact pushCells_keeps _ _ _ _ (Heap.get?_push_of_some _ e)
  have ps := blk_passes (scope := scope) (fp := fp) tk hst hf I3 hch cF cL
  generalize hxe : notedBy (model X.prog X.w) X.A ce (CompFails (model X.prog X.w) X.A X.xe ce) = xe at ps
  have pg := pg xe
  have pe := pe xe ps
  have I4 : Inv ((X.blk s3 H3 scope ce fp).tr [] xe) [] (wipe σ (own.map (·.2))) H3 s4 := I4.toTry xe
  have stat : ∀ {σ' : St} {H' : Hp} {s' : Shared}, Inv ((X.blk s3 H3 scope ce fp).tr [] xe) [] σ' H' s' → (∀ b ∈ fp, H' b = none) → ∀ b ∈ fp, FpOk ((X.blk s3 H3 scope ce fp).tr [] xe) [] H' b := fun {σ' H' s'} I' hn b hb =>
    ⟨hn b hb, (I'.ok.exf b hb).1, I'.ok.exfs b hb, .inl hb, fun x c e => (I'.ok.exf b hb).2 x c e, fun p hp => absurd (show p ∈ ([] : List (Addr × Obj)) ++ [] from hp) (by simp)⟩
  have loop : codeAny (model X.prog X.w) X.A (.compLoop (.ListComp elt [⟨tg, iter, [], 0⟩] scope pos) 0 (.ref it) (.ref D) ce) (compEnds (model X.prog X.w) X.A X.xe none (EP X pins σ Q) (.ref D) ce) s4 := by
    refine compLoop_any (fun n s' => ∃ i H', Inv ((X.blk s3 H3 scope ce fp).tr [] xe) [] (wipe σ (own.map (·.2))) H' s' ∧ tn i s'.heap ∧ (∀ b ∈ fp, H' b = none) ∧ Wn i n H') ?_ m0 ⟨0, H3, I4, st4, nfp, w0⟩
    rintro n s5 ⟨i, H5, I5, st5, n5, w5⟩
    rw [show (notedBy (model X.prog X.w) X.A ce fun e s' => compEnds (model X.prog X.w) X.A X.xe none (EP X pins σ Q) (Value.ref D) ce (Except.error e) s') = xe from hxe]
    rcases turn i n H5 w5 with ⟨stop, qq⟩ | ⟨go, Nx, hNx, step⟩
    · have td := T.done ((X.blk s3 H3 scope ce fp).tr [] xe) rfl rfl rfl hc i [] s5 _ H5 (fun _ _ => False) I5 (stat I5 n5) st5 stop
      refine thnF td fun r s6 ⟨hr, I6⟩ => ?_
      subst hr
      have I7 : Inv X pins σ H5 s6 := I3.call' (ch := fp) I6.os I6.base I6.hok I6.bare hch
      have nC : H5 s3.heap.objs.size = none := by
        have z : H5 ce.locals = none := I6.free
        rw [cL] at z
        exact z
      obtain ⟨m, hn, _⟩ := I6.loc
      have hn : s6.heap.Ns ce.locals m := hn
      refine ⟨m, hn, fun h'' sb => ?_⟩
      rw [cL] at sb
      obtain ⟨f0, f1, f2, f3, f4, f5⟩ := I3.fpOk (H' := H5) (Nat.le_refl _) nC
      exact ⟨.ref D, H5, I7.turned (t' := s6.toks) (fun b o hb e => (sb.2 b hb).trans e) f0 f1 f3 f4 f5, rfl, qq⟩
    · have ti := T.item ((X.blk s3 H3 scope ce fp).tr [] xe) rfl rfl rfl hc i [] s5 _ H5 (fun _ _ => False) I5 (stat I5 n5) st5 go
      refine thnF ti fun r s6 ⟨u, hr, h6⟩ => ?_
      subst hr
      refine thnF h6 fun _ s7 ⟨x, H7, I7, r7, y7, st7, n7⟩ => ?_
      have I7' := I7.pinned (stat I7 n7) (T.obj _ _ st7)
      refine thn (pg.run _ s7 _ H7 x u _ I7' r7 (step x H7 y7)) fun _ s8 ⟨σ8, H8, I8, hw8, q8⟩ => ?_
      refine wpAny_tests_nil ?_
      have fin : ∀ {s' : Shared} {H' : Hp}, Inv ((X.blk s3 H3 scope ce fp).tr [] xe) ([] ++ pinsAt fp s7.heap) σ8 H' s' → Nx H' → ∃ m, m < n ∧ ∃ i H', Inv ((X.blk s3 H3 scope ce fp).tr [] xe) [] (wipe σ (own.map (·.2))) H' s' ∧ tn i s'.heap ∧ (∀ b ∈ fp, H' b = none) ∧ Wn i m H' := fun {s' H'} I' nx => by
        obtain ⟨m', hm, w'⟩ := hNx H' nx
        have pin' : ∀ b ∈ fp, ∀ o, s7.heap.get? b = some o → s'.heap.get? b = some o ∧ H' b = none := fun b hb o e =>
          let z := I'.pin (b, o) (List.mem_append_right _ (List.mem_append_right _ (mem_pinsAt hb e)))
          ⟨z.1, z.2.1⟩
        have hl : (wipe σ (own.map (·.2))).length = σ8.length := by rw [← hw8, wipe_length]
        refine ⟨m', hm, i + 1, H', (I'.unpinned (pins := [])).weak hl (fun j v e => ?_), T.keep _ _ _ st7 fun b hb o e => (pin' b hb o e).1, fun b hb => ?_, w'⟩
        · rw [← hw8] at e
          exact (wipe_some e).1
        · obtain ⟨o, e, _⟩ := T.obj _ _ st7 b hb
          exact (pin' b hb o e).2
      unfold tYes at q8
      dsimp only at q8
      rw [if_pos rfl] at q8 ⊢
      refine thn (pe.run _ s8 σ8 H8 _ I8 q8) fun z s10 ⟨yv, H10, I10, r10, acc, hD10, hz10, nx⟩ => ?_
      exact app_ok (X := (X.blk s3 H3 scope ce fp).tr [] xe) I10 hD10 hz10 r10 fun s11 I11 => fin I11 nx
  exact codeAny_compStart_list loop (T.self X.A 0 _ _ _ st4 loop)
end L2

namespace Mv
open PySem L2
variable {cl : Nv}
abbrev Wc (W : WX) (σ0 : L2.St) : WX := fun cls d _ H => W cls d σ0 H
def tLcX (wi : TI) (g : TG) (te : L2.St → TE) (vs : List Nat) : TE := fun σ H Q => tLc wi g tYes (te σ) vs σ H Q
def lcFX (i : Nat) (g : List D → M D) : List D → List D → M (List D)
  | [], _ => some (.ok [])
  | d :: ds, env => bd (g (env.set i d)) fun y => bd (lcFX i g ds env) fun r => some (.ok (y :: r))
def eLcX (i : Nat) (f : List D → M D) (g : List D → M D) : List D → M D := fun env => bd (f env) fun d => match d with
  | .lst ds => if ds.length ≤ LIM then bd (lcFX i g ds env) fun r => some (.ok (.lst r)) else none
  | _ => none
section
variable {H : Hp} {w : Om} {ms : List Mo} {σ : L2.St} {env : List D} {W : WX} {c1 c2 : RC} {tf : TE} {te : L2.St → TE} {f g : List D → M D} {K : PySem.W.Frag} {i : Nat}
theorem se_lcX (hc : toPu c1 = true) (h : SE cl W ms c1 tf f) (he : ∀ σ0, SE cl (Wc W σ0) (ms.set i .pu) c2 (te σ0) g) (hc2 : toPu c2 = true) : SE cl W ms (.fr (.ls .fz)) (tLcX (iList K tf) (gName i) te [i]) (eLcX i f g) := fun H w σ env st r e x Q q =>
  h.bind st e x fun d H1 v s1 r1 e => by
    have rp := r1.pu st.wf hc
    cases rp with
    | @lst a vs ds h1 hp ra =>
      have e : (if ds.length ≤ LIM then bd (lcFX i g ds env) (fun r => some (R.ok (D.lst r))) else none) = some r := e
      have hlim : ds.length ≤ LIM := by
        by_cases z : ds.length ≤ LIM
        · exact z
        · rw [if_neg z] at e; cases e
      rw [if_pos hlim] at e
      have stH := st.same s1
      refine ⟨a, rfl, ⟨vs, .inl (.inl h1)⟩, fun D hD => ?_⟩
      have s0 : Same H1 (upd H1 D (.lst [])) := new_same hD
      have wf0 : Wf (upd H1 D (.lst [])) (labD w D ms.length) := fun a l z => by
        by_cases hz : a = D
        · subst hz; exact ⟨_, upd_same, rfl⟩
        · rw [labD_ne hz] at z
          rw [upd_ne hz]
          exact stH.wf a l z
      have st0 := stH.relabelS s0 (w' := labD w D ms.length) (fun a o z => labD_ne (ne_of_none z hD)) rfl wf0
      let Wn : Nat → Nat → Hp → Prop := fun k n H => n + k = ds.length ∧ ∃ (w1 : Om) (acc : List V) (outs : List Mv.D), H D = some (.lst acc) ∧ acc.length ≤ k ∧ w1 D = some (.ow ms.length) ∧ TrL cl H (Fz w1) (fun a => w1 a = some (.ow ms.length)) .fz outs acc [] ∧ StOk cl H w1 ms σ env ∧ (∀ a o, H1 a = some o → w1 a = w a) ∧ (∀ a o, H1 a = some o → H a = some o) ∧ bd (lcFX i g (ds.drop k) env) (fun r => some (R.ok (Mv.D.lst (outs ++ r)))) = some r
      refine ⟨Wn, ⟨ds.length, by simp, labD w D ms.length, [], [], upd_same, Nat.le_refl _, labD_eq, .nil, st0, fun a o z => labD_ne (ne_of_none z hD), fun a o z => s0 a o z, by simpa using e⟩, fun k n H hW => ?_⟩
      obtain ⟨hk, w1, acc, outs, hHD, hacc, hwD, rl, stk, hw1, old, erest⟩ := hW
      by_cases hlt : k < ds.length
      · right
        have hd : ds[k]? = some ds[k] := List.getElem?_eq_getElem hlt
        obtain ⟨xv, hxv, rxv⟩ := ra.get hd
        refine ⟨⟨vs, xv, .inl (.inl (old _ _ h1)), hxv⟩, fun H' => Wn (k + 1) (n - 1) H', fun H' h => ⟨n - 1, by omega, h⟩, fun u H2 y => ?_⟩
        obtain ⟨rfl, y⟩ := y
        have hx := y vs (.inl (.inl (old _ _ h1)))
        rw [hxv] at hx
        have hx2 : u = xv := (Option.some.inj hx).symm
        subst hx2
        have rx : Rep cl H2 (Fz w1) ds[k] u := rxv.mono (fun a o z p => ⟨old a o z, (hw1 a o z).trans p⟩) fun a xs z => old a _ z
        have w2 : wipe ((wipe σ [i]).set i (some u)) [i] = wipe σ [i] := by
          show (((σ.set i none).set i (some u)).set i none) = σ.set i none
          rw [List.set_set, List.set_set]
        refine ⟨w2, ?_⟩
        rw [List.drop_eq_getElem_cons hlt] at erest
        have st3 : StOk cl H2 w1 (ms.set i .pu) ((wipe σ [i]).set i (some u)) (env.set i ds[k]) := by
          have z := (stk.gone (i := i)).setPu (i := i) rx
          rw [List.set_set] at z
          exact z
        unfold tYes
        dsimp only
        rw [if_pos rfl]
        have erest2 : bd (bd (g (env.set i ds[k])) fun y => bd (lcFX i g (ds.drop (k + 1)) env) fun r => some (.ok (y :: r))) (fun r => some (R.ok (Mv.D.lst (outs ++ r)))) = some r := erest
        cases eg : g (env.set i ds[k]) with
        | none => rw [eg] at erest2; exact nomatch erest2
        | some gr =>
          rw [eg] at erest2
          cases gr with
          | ex c =>
            have er : r = .ex c := (Option.some.inj (show some (R.ex c) = some r from erest2)).symm
            subst er
            exact he σ H2 w1 _ _ st3 _ eg (fun y hy H' s => by cases hy; exact x c rfl H' ((s1.trans fun a o z => old a o z).trans s)) _ fun d' hd' => nomatch hd'
          | ok yd =>
            refine he σ H2 w1 _ _ st3 _ eg (fun z hz => nomatch hz) _ fun d' hd' H4 yv s4 ry => ?_
            cases hd'
            have erest3 : bd (lcFX i g (ds.drop (k + 1)) env) (fun r => some (R.ok (Mv.D.lst (outs ++ (yd :: r))))) = some r := by
              cases q1 : lcFX i g (ds.drop (k + 1)) env with
              | none => rw [q1] at erest2; exact nomatch erest2
              | some q2 =>
                rw [q1] at erest2
                cases q2 with
                | ok q3 => exact erest2
                | ex q3 => exact erest2
            have st4 := stk.same s4
            have ryp : Rep cl H4 (Fz w1) yd yv := ry.pu stk.wf hc2
            obtain ⟨m1, m2⟩ := st4.mutO (o' := .lst (acc ++ [yv])) hwD (Nat.le_refl _) rfl
            have fzU : ∀ a o, H4 a = some o → Fz w1 a → upd H4 D (.lst (acc ++ [yv])) a = some o ∧ Fz w1 a := fun a o e q => ⟨by rw [upd_ne fun z => by subst z; rw [show w1 a = none from q] at hwD; cases hwD]; exact e, q⟩
            have tupU : ∀ a xs, H4 a = some (.tup xs) → upd H4 D (.lst (acc ++ [yv])) a = some (.tup xs) := fun a xs e => m2.tup st4.wf a xs e
            have t1 : TrL cl (upd H4 D (.lst (acc ++ [yv]))) (Fz w1) (fun a => w1 a = some (.ow ms.length)) .fz outs acc [] := rl.mono (fun a o e q => ⟨by
              rw [upd_ne fun z => by subst z; have q' : w1 a = none := q; rw [hwD] at q'; cases q']
              exact s4 _ _ e, q⟩) (fun a xs e => tupU a xs (s4 _ _ e)) fun a m => absurd m List.not_mem_nil
            have t2 : TrL cl (upd H4 D (.lst (acc ++ [yv]))) (Fz w1) (fun a => w1 a = some (.ow ms.length)) .fz [yd] [yv] [] := TrL.cons (.fz (ryp.mono fzU tupU)) TrL.nil
            refine ⟨acc, s4 _ _ hHD, LIM_lt (by omega), by omega, w1, acc ++ [yv], outs ++ [yd], upd_same, by simp; omega, hwD, t1.append t2, m1, hw1, fun a o z => ?_, ?_⟩
            · rw [upd_ne (ne_of_none z hD)]
              exact s4 _ _ (old a o z)
            · have : (fun r => some (R.ok (Mv.D.lst (outs ++ [yd] ++ r)))) = (fun r => some (R.ok (Mv.D.lst (outs ++ (yd :: r))))) := funext fun r => by rw [List.append_assoc]; rfl
              rw [this]
              exact erest3
      · left
        have hz : ds.drop k = [] := List.drop_eq_nil_of_le (by omega)
        rw [hz] at erest
        have er : r = .ok (.lst (outs ++ [])) := (Option.some.inj (show some (R.ok (Mv.D.lst (outs ++ []))) = some r from erest)).symm
        rw [List.append_nil] at er
        subst er
        refine ⟨⟨vs, .inl (.inl (old _ _ h1)), by rw [← ra.length]; omega⟩, ?_⟩
        refine q _ rfl H _ (s1.trans fun a o z => old a o z) ?_
        have ff : FrT cl H1 H w (.ls .fz) (.lst outs) (.ref D) := by
          refine ⟨[D], by simp, mem_cn hD (fun a m => absurd m List.not_mem_nil), .ls hHD trivial (rl.mono (fun a o e q => ⟨e, ?_, ?_⟩) (fun _ _ e => e) fun a m => absurd m List.not_mem_nil)⟩
          · cases h1 : H1 a with
            | none => exact stH.wf.fresh h1
            | some o1 => rw [← hw1 a o1 h1]; exact q
          · intro m
            have q' : w1 a = none := q
            rcases List.mem_cons.mp m with rfl | m
            · rw [hwD] at q'; cases q'
            · cases m
        exact ff.base s1
    | _ => simp only at e; exact nomatch e
end
theorem pe_lcXT {X : Cx} {W : WX} {elt tg iter : Expr} {scope : Scope} {own : List (Str × Nat)} {pos : Pos} {wi : TI} {g : TG} {te : L2.St → TE} (hc : X.calm = true) (hN : X.N.Nodup) (tk : Takes X W) (hst : X.stack = X.env :: X.outer) (hf : X.env.frame = some X.env.locals) (hi : PI X tg iter wi) (ok : BlkOk X.N X.env.scope scope own)
    (hg : ∀ (s : Shared) (H : Hp) (C : Addr) (cl : List (Str × Addr)) (fp : List Addr) (xe : Value → Shared → Prop), PG ((X.blk s H scope (compEnvC scope cl C X.env) fp).tr [] xe) tg g)
    (he : ∀ (σ : L2.St) (s : Shared) (H : Hp) (C : Addr) (cl : List (Str × Addr)) (fp : List Addr) (xe : Value → Shared → Prop), (∀ σ', PassesAt (CX X.prog X.w) ((X.blk s H scope (compEnvC scope cl C X.env) fp).tr [] xe) σ' (WE W σ)) → PE ((X.blk s H scope (compEnvC scope cl C X.env) fp).tr [] xe) elt (te σ))
    (hs : ∀ x, foldedSetIterable iter X.env x = pure x := by intro _; rfl) :
    PE X (.ListComp elt [⟨tg, iter, [], 0⟩] scope pos) (tLcX wi g te (own.map (·.2))) := pe_lcX hc hN tk hst hf hi ok hg he hs
end Mv

namespace Mv
open PySem L2

@[simp] theorem getE0 {a : D} {l : List D} : (a :: l)[0]? = some a := rfl
@[simp] theorem dAdd_int {i j : Int} : dAdd (.int i) (.int j) = some (.int (i + j)) := rfl
@[simp] theorem dSub_int {i j : Int} : dSub (.int i) (.int j) = some (.int (i - j)) := rfl
@[simp] theorem dNeg_int {i : Int} : dNeg (.int i) = some (.int (-i)) := rfl
@[simp] theorem dLt_int {i j : Int} : dLt (.int i) (.int j) = some (.bl (decide (i < j))) := rfl
@[simp] theorem dLe_int {i j : Int} : dLe (.int i) (.int j) = some (.bl (decide (i ≤ j))) := rfl
@[simp] theorem dGt_int {i j : Int} : dGt (.int i) (.int j) = some (.bl (decide (j < i))) := rfl
@[simp] theorem dGe_int {i j : Int} : dGe (.int i) (.int j) = some (.bl (decide (j ≤ i))) := rfl
@[simp] theorem dNot_bl {b : Bool} : dNot (.bl b) = some (.bl (!b)) := rfl
theorem shaped_int {i : Int} : SeqAt.shaped (toPy (.int i)) = true := by simp [toPy, SeqAt.shaped, PyData.canLay0, PyData.depth]
theorem eq_intL : ∀ {a b : List Int}, PyData.eqvAll (toPyL (a.map D.int)) (toPyL (b.map D.int)) = decide (a = b)
  | [], [] => by simp [toPyL, PyData.eqvAll]
  | [], _ :: _ => by simp [toPyL, PyData.eqvAll]
  | _ :: _, [] => by simp [toPyL, PyData.eqvAll]
  | x :: a, y :: b => by
    have ih := eq_intL (a := a) (b := b)
    show (PyData.eqv (toPy (.int x)) (toPy (.int y)) && PyData.eqvAll (toPyL (a.map D.int)) (toPyL (b.map D.int))) = _
    rw [ih]
    show ((x == y) && decide (a = b)) = decide (x :: a = y :: b)
    by_cases h : x = y <;> by_cases h2 : a = b <;> simp [h, h2]
theorem lay_ints : ∀ (a : List Int), PyData.canLayAll0 (toPyL (a.map D.int)) = true ∧ PyData.depthAll (toPyL (a.map D.int)) = 0
  | [] => by simp [toPyL, PyData.canLayAll0, PyData.depthAll]
  | x :: a => by
    obtain ⟨h1, h2⟩ := lay_ints a
    refine ⟨?_, ?_⟩
    · show (PyData.canLay0 (toPy (.int x)) && PyData.canLayAll0 (toPyL (a.map D.int))) = true
      rw [h1] <;> rfl
    · show max (PyData.depth (toPy (.int x))) (PyData.depthAll (toPyL (a.map D.int))) = 0
      rw [h2] <;> rfl
theorem shaped_ints (a : List Int) : SeqAt.shaped (toPy (.lst (a.map D.int))) = true := by
  obtain ⟨h1, h2⟩ := lay_ints a
  show (PyData.canLayAll0 (toPyL (a.map D.int)) && decide (PyData.depthAll (toPyL (a.map D.int)) + 1 ≤ 64)) = true
  rw [h1, h2] <;> rfl
@[simp] theorem dEq_int {i j : Int} : dEq (.int i) (.int j) = some (.bl (decide (i = j))) := by
  unfold dEq
  rw [if_pos ⟨shaped_int, shaped_int⟩]
  show some (D.bl (i == j)) = _
  rw [Bool.beq_eq_decide_eq]
@[simp] theorem dNe_int {i j : Int} : dNe (.int i) (.int j) = some (.bl (!decide (i = j))) := by
  unfold dNe
  rw [if_pos ⟨shaped_int, shaped_int⟩]
  show some (D.bl (!(i == j))) = _
  rw [Bool.beq_eq_decide_eq]
abbrev iL (l : List Int) : D := .lst (l.map D.int)
@[simp] theorem dEq_ints {a b : List Int} : dEq (iL a) (iL b) = some (.bl (decide (a = b))) := by
  unfold dEq
  rw [if_pos ⟨shaped_ints a, shaped_ints b⟩]
  show some (D.bl (PyData.eqvAll (toPyL (a.map D.int)) (toPyL (b.map D.int)))) = _
  rw [eq_intL]
@[simp] theorem dNe_ints {a b : List Int} : dNe (iL a) (iL b) = some (.bl (!decide (a = b))) := by
  unfold dNe
  rw [if_pos ⟨shaped_ints a, shaped_ints b⟩]
  show some (D.bl (!PyData.eqvAll (toPyL (a.map D.int)) (toPyL (b.map D.int)))) = _
  rw [eq_intL]
theorem immL_ints (l : List Int) : immL (l.map D.int) = true := by
  induction l with
  | nil => rfl
  | cons y r ih => exact Bool.and_eq_true_iff.mpr ⟨rfl, ih⟩
@[simp] theorem imm_int {i : Int} : imm (.int i) = true := rfl
@[simp] theorem imm_bl {i : Bool} : imm (.bl i) = true := rfl
@[simp] theorem imm_str {i : Str} : imm (.str i) = true := rfl
@[simp] theorem imm_non : imm .non = true := rfl
@[simp] theorem dLen_ints {l : List Int} : dLen [iL l] = some (.int l.length) := by simp [dLen]
@[simp] theorem dList_ints {l : List Int} : dList [iL l] = some (iL l) := if_pos (immL_ints l)
@[simp] theorem dRev_ints {l : List Int} : dRev (iL l) = some (iL l.reverse) := by
  show (if immL (l.map D.int) = true then some (D.lst (l.map D.int).reverse) else none) = _
  rw [if_pos (immL_ints l), ← List.map_reverse]
def cutI (l : List Int) (lo hi : Option Int) : List Int := (l.drop (HT.sIx l.length 0 lo)).take (HT.sIx l.length l.length hi - HT.sIx l.length 0 lo)
@[simp] theorem dCut_ints {l : List Int} {lo hi : Option Int} : dCut (iL l) lo hi = some (iL (cutI l lo hi)) := by
  show (if immL (l.map D.int) = true then some (D.lst (cutD (l.map D.int) lo hi)) else none) = _
  rw [if_pos (immL_ints l)]
  unfold cutD cutI
  rw [← List.map_drop, ← List.map_take, List.length_map]
theorem rngL_map (n : Nat) (lo : Int) : rngL lo n = (List.range n).map fun k : Nat => D.int (lo + (k : Int)) := by
  apply List.ext_getElem?
  intro k
  by_cases h : k < n
  · have h2 := rngL_get n lo k h
    have h3 : ((rngL lo n).drop k)[0]? = some (.int (lo + k)) := by rw [h2]; rfl
    rw [List.getElem?_drop, Nat.add_zero] at h3
    rw [h3]
    simp [h]
  · rw [List.getElem?_eq_none (by rw [rngL_len]; omega), List.getElem?_eq_none (by simp; omega)]
theorem fn_rt {g : List D → Option Out} {n : Nat} {rp : Bool} {ds : List D} {d : D} {e : List D} (h : g (ds ++ List.replicate (n - ds.length) .non) = some (.rt d e)) : fnOf g n rp ds = some (.rt d e) := by
  unfold fnOf
  rw [h]
theorem fn_nx {g : List D → Option Out} {n : Nat} {ds : List D} {e : List D} (h : g (ds ++ List.replicate (n - ds.length) .non) = some (.nx e)) : fnOf g n true ds = some (.rt .non e) := by
  unfold fnOf
  rw [h]
  rfl
theorem law_sp {cl : Nv} {G : List D → Option Out} {H : Hp} {a : Addr} {ns : List Int} (hS : SqL cl.K H a (ns.map V.int)) (hG : ∃ e, G [iL ns] = some (.rt (.bl true) e)) :
    spOf cl [.sc] .pu G [.ref a] H (fun v _ => v = .bl true) fun _ _ _ => False := by
  obtain ⟨e, hG⟩ := hG
  refine ⟨⟨fun _ => none, fun _ => (.non, .non)⟩, [iL ns], _, rfl, rfl, fun _ _ z => absurd z (by simp), fun i m hi hm => ?_, hG, fun H' w' v k wf r _ => ?_⟩
  · match i, hi with
    | 0, hi =>
      have e' : Mo.sc = m := Option.some.inj hi
      subst e'
      refine ⟨_, _, rfl, rfl, a, ns, rfl, rfl, ?_⟩
      rcases hS with r | z
      · exact .inl ⟨r, .inl rfl⟩
      · exact .inr z
    | i + 1, hi => simp at hi
  · have r' : Rep cl H' (Fz w') (.bl true) v := r
    cases r'
    rfl
end Mv

namespace Mv
open PySem L2
abbrev eL {α : Type} (e : α → D) (l : List α) : D := .lst (l.map e)
def eO {α : Type} (e : α → D) : Option α → D
  | none => .non
  | some x => e x
abbrev eU (_ : Unit) : D := .non
abbrev e2 {α β : Type} (a : α → D) (b : β → D) (p : α × β) : D := .tup [a p.1, b p.2]
abbrev e3 {α β γ : Type} (a : α → D) (b : β → D) (c : γ → D) (p : α × β × γ) : D := .tup [a p.1, b p.2.1, c p.2.2]
abbrev e4 {α β γ δ : Type} (a : α → D) (b : β → D) (c : γ → D) (d : δ → D) (p : α × β × γ × δ) : D := .tup [a p.1, b p.2.1, c p.2.2.1, d p.2.2.2]
abbrev e5 {α β γ δ ε : Type} (a : α → D) (b : β → D) (c : γ → D) (d : δ → D) (f : ε → D) (p : α × β × γ × δ × ε) : D := .tup [a p.1, b p.2.1, c p.2.2.1, d p.2.2.2.1, f p.2.2.2.2]
def Ev {α : Type} (e : α → D) (x : Option α) (m : M D) : Prop := ∀ a, x = some a → m = some (.ok (e a))
def EvB (x : Option Bool) (m : M Bool) : Prop := ∀ a, x = some a → m = some (.ok a)
def EvL {α : Type} (e : α → D) (x : Option (List α)) (m : M (List D)) : Prop := ∀ l, x = some l → m = some (.ok (l.map e))
def Sm {Ω : Type} (Ro : Ω → Out → Prop) (T : Option Ω) (g : Option Out) : Prop := ∀ c, T = some c → ∃ o, g = some o ∧ Ro c o
def isLv : Out → Bool
  | .rt _ _ => true
  | .ex _ _ => true
  | _ => false
def RoF {σ : Type} (mk : σ → (Nat → D) → List D) (s : σ) (o : Out) : Prop := ∃ δ, o = .nx (mk s δ)
def RoX {Ω : Type} (Ro : Ω → Out → Prop) (c : Ω) (o : Out) : Prop := Ro c o ∧ isLv o = true
def RoC {σ Ω : Type} (mk : σ → (Nat → D) → List D) (Ro : Ω → Out → Prop) : σ ⊕ Ω → Out → Prop
  | .inl s, o => RoF mk s o
  | .inr c, o => RoX Ro c o
def onS {σ Ω γ : Type} (k : σ → Option γ) (j : Ω → Option γ) : σ ⊕ Ω → Option γ
  | .inl s => k s
  | .inr c => j c
@[simp] theorem onS_l {σ Ω γ : Type} {k : σ → Option γ} {j : Ω → Option γ} {s : σ} : onS k j (.inl s) = k s := rfl
@[simp] theorem onS_r {σ Ω γ : Type} {k : σ → Option γ} {j : Ω → Option γ} {s : Ω} : onS k j (.inr s) = j s := rfl
def thenC {σ Ω : Type} (L : Option (σ ⊕ Ω)) (K : σ → Option Ω) : Option Ω := L.bind (onS K some)
def forO {σ α : Type} (B : σ → α → Option σ) : List α → σ → Option σ
  | [], s => some s
  | x :: l, s => (B s x).bind fun t => forO B l t
def forC {σ α Ω : Type} (B : σ → α → Option (σ ⊕ Ω)) : List α → σ → Option (σ ⊕ Ω)
  | [], s => some (.inl s)
  | x :: l, s => (B s x).bind (onS (fun t => forC B l t) fun c => some (.inr c))
def whN {σ : Type} (t : σ → Option Bool) (B : σ → Option σ) : Nat → σ → Option σ
  | 0, _ => none
  | n + 1, s => (t s).bind fun c => if c = true then (B s).bind fun s' => whN t B n s' else some s
def whNC {σ Ω : Type} (t : σ → Option Bool) (B : σ → Option (σ ⊕ Ω)) : Nat → σ → Option (σ ⊕ Ω)
  | 0, _ => none
  | n + 1, s => (t s).bind fun c => if c = true then (B s).bind (onS (fun s' => whNC t B n s') fun c => some (.inr c)) else some (.inl s)
open Classical in
noncomputable def whO {σ : Type} (t : σ → Option Bool) (B : σ → Option σ) (s : σ) : Option σ := if h : ∃ n r, whN t B n s = some r then some (choose (choose_spec h)) else none
open Classical in
noncomputable def whC {σ Ω : Type} (t : σ → Option Bool) (B : σ → Option (σ ⊕ Ω)) (s : σ) : Option (σ ⊕ Ω) := if h : ∃ n r, whNC t B n s = some r then some (choose (choose_spec h)) else none
theorem whN_mono {σ : Type} {t : σ → Option Bool} {B : σ → Option σ} : ∀ {n k : Nat} {s r : σ}, n ≤ k → whN t B n s = some r → whN t B k s = some r
  | 0, _, _, _, _, h => by cases h
  | n + 1, 0, _, _, hk, _ => absurd hk (Nat.not_succ_le_zero _)
  | n + 1, k + 1, s, r, hk, h => by
    unfold whN at h ⊢
    cases e : t s with
    | none => rw [e] at h; cases h
    | some c =>
      rw [e] at h
      cases c with
      | false => exact h
      | true =>
        simp only [Option.bind_some, if_true] at h ⊢
        cases e1 : B s with
        | none => rw [e1] at h; cases h
        | some s' => rw [e1] at h; exact whN_mono (Nat.le_of_succ_le_succ hk) h
theorem whO_eq {σ : Type} {t : σ → Option Bool} {B : σ → Option σ} {n : Nat} {s r : σ} (h : whN t B n s = some r) : whO t B s = some r := by
  have h' : ∃ n r, whN t B n s = some r := ⟨n, r, h⟩
  unfold whO
  rw [dif_pos h']
  have q := Classical.choose_spec (Classical.choose_spec h')
  have q1 := whN_mono (Nat.le_max_left n (Classical.choose h')) h
  have q2 := whN_mono (Nat.le_max_right n (Classical.choose h')) q
  rw [q1] at q2
  exact congrArg some (Option.some.inj q2).symm
theorem whO_of {σ : Type} {t : σ → Option Bool} {B : σ → Option σ} {s r : σ} (h : whO t B s = some r) : ∃ n, whN t B n s = some r := by
  unfold whO at h
  split at h
  · rename_i h'
    refine ⟨Classical.choose h', ?_⟩
    rw [← h]
    exact Classical.choose_spec (Classical.choose_spec h')
  · cases h
section
variable {Ω σ α β : Type} {Ro : Ω → Out → Prop} {e : α → D} {X : Option α} {i : Nat} {f g fi : List D → M D} {rest a b s1 : List D → Option Out} {env : List D} {mk : σ → (Nat → D) → List D} {t : List D → M Bool} {C : Option Bool}
theorem sm_end {T : Option Ω} (h : Sm Ro T (sSeq a sNext env)) : Sm Ro T (a env) := fun c hc => by
  obtain ⟨o, h1, h2⟩ := h c hc
  refine ⟨o, ?_, h2⟩
  rw [← h1]
  unfold sSeq
  cases a env with
  | none => rfl
  | some o => cases o <;> rfl
theorem sm_next {c : Ω} (h : Ro c (.nx env)) : Sm Ro (some c) (sNext env) := fun _ hc => by cases hc; exact ⟨_, rfl, h⟩
theorem sm_if {A B : Option σ} {K : σ → Option Ω} (mk : σ → (Nat → D) → List D) (ht : EvB C (t env)) (ha : Sm (RoF mk) A (a env)) (hb : Sm (RoF mk) B (b env)) (k : ∀ s δ, Sm Ro (K s) (rest (mk s δ))) : Sm Ro ((C.bind fun c => if c = true then A else B).bind K) (sSeq (sIf t a b) rest env) := fun c hc => by
  obtain ⟨s, h1, h2⟩ := Option.bind_eq_some_iff.mp hc
  obtain ⟨y, h3, h4⟩ := Option.bind_eq_some_iff.mp h1
  have key : ∃ δ, sIf t a b env = some (.nx (mk s δ)) := by
    unfold sIf
    rw [ht y h3]
    cases y with
    | true =>
      obtain ⟨o, h5, δ, rfl⟩ := ha s (by simpa using h4)
      exact ⟨δ, h5⟩
    | false =>
      obtain ⟨o, h5, δ, rfl⟩ := hb s (by simpa using h4)
      exact ⟨δ, h5⟩
  obtain ⟨δ, h6⟩ := key
  obtain ⟨o, h7, h8⟩ := k s δ c h2
  refine ⟨o, ?_, h8⟩
  unfold sSeq
  rw [h6]
  exact h7
theorem sm_ifA {A B : Option Ω} (ht : EvB C (t env)) (ha : Sm (RoX Ro) A (a env)) (hb : Sm Ro B (sSeq b rest env)) : Sm Ro (C.bind fun c => if c = true then A else B) (sSeq (sIf t a b) rest env) := fun c hc => by
  obtain ⟨y, h3, h4⟩ := Option.bind_eq_some_iff.mp hc
  cases y with
  | true =>
    obtain ⟨o, h5, h6, h7⟩ := ha c (by simpa using h4)
    refine ⟨o, ?_, h6⟩
    unfold sSeq sIf
    rw [ht _ h3]
    simp only [h5]
    cases o with
    | rt d e => rfl
    | ex c e => rfl
    | _ => cases h7
  | false =>
    obtain ⟨o, h5, h6⟩ := hb c (by simpa using h4)
    refine ⟨o, ?_, h6⟩
    rw [← h5]
    unfold sSeq sIf
    rw [ht _ h3]
theorem sm_ifE {A B : Option Ω} (ht : EvB C (t env)) (ha : Sm Ro A (a env)) (hb : Sm Ro B (b env)) : Sm Ro (C.bind fun c => if c = true then A else B) (sIf t a b env) := fun c hc => by
  obtain ⟨y, h3, h4⟩ := Option.bind_eq_some_iff.mp hc
  cases y with
  | true =>
    obtain ⟨o, h5, h6⟩ := ha c (by simpa using h4)
    exact ⟨o, by unfold sIf; rw [ht _ h3]; exact h5, h6⟩
  | false =>
    obtain ⟨o, h5, h6⟩ := hb c (by simpa using h4)
    exact ⟨o, by unfold sIf; rw [ht _ h3]; exact h5, h6⟩
theorem sm_seqC {L : Option (σ ⊕ Ω)} {K : σ → Option Ω} (mk : σ → (Nat → D) → List D) (h : Sm (RoC mk Ro) L (a env)) (k : ∀ s δ, Sm Ro (K s) (rest (mk s δ))) : Sm Ro (thenC L K) (sSeq a rest env) := fun c hc => by
  obtain ⟨z, h1, h2⟩ := Option.bind_eq_some_iff.mp hc
  obtain ⟨o, h3, h4⟩ := h z h1
  cases z with
  | inl s =>
    obtain ⟨δ, rfl⟩ := h4
    obtain ⟨o, h5, h6⟩ := k s δ c h2
    refine ⟨o, ?_, h6⟩
    unfold sSeq
    rw [h3]
    exact h5
  | inr w =>
    cases h2
    obtain ⟨h5, h6⟩ := h4
    refine ⟨o, ?_, h5⟩
    unfold sSeq
    rw [h3]
    cases o with
    | rt d e => rfl
    | ex c e => rfl
    | _ => cases h6
theorem sm_seqF {O : Option σ} {K : σ → Option Ω} (mk : σ → (Nat → D) → List D) (h : Sm (RoF mk) O (a env)) (k : ∀ s δ, Sm Ro (K s) (rest (mk s δ))) : Sm Ro (O.bind K) (sSeq a rest env) := fun c hc => by
  obtain ⟨s, h1, h2⟩ := Option.bind_eq_some_iff.mp hc
  obtain ⟨o, h3, δ, rfl⟩ := h s h1
  obtain ⟨o, h5, h6⟩ := k s δ c h2
  refine ⟨o, ?_, h6⟩
  unfold sSeq
  rw [h3]
  exact h5
theorem forF_O {B : σ → α → Option σ} {b : List D → Option Out} (mk : σ → (Nat → D) → List D) (hb : ∀ s x δ, Sm (RoF mk) (B s x) (b ((mk s δ).set i (e x)))) : ∀ (l : List α) (s : σ) (δ : Nat → D), Sm (RoF mk) (forO B l s) (forF i b (l.map e) (mk s δ))
  | [], s, δ => fun c hc => by cases hc; exact ⟨_, rfl, δ, rfl⟩
  | x :: l, s, δ => fun c hc => by
    obtain ⟨t, h1, h2⟩ := Option.bind_eq_some_iff.mp hc
    obtain ⟨o, h3, δ', rfl⟩ := hb s x δ t h1
    obtain ⟨o, h4, h5⟩ := forF_O mk hb l t δ' c h2
    refine ⟨o, ?_, h5⟩
    show forF i b (e x :: l.map e) (mk s δ) = _
    unfold forF
    rw [h3]
    exact h4
theorem forF_C {B : σ → α → Option (σ ⊕ Ω)} {b : List D → Option Out} (mk : σ → (Nat → D) → List D) (hb : ∀ s x δ, Sm (RoC mk Ro) (B s x) (b ((mk s δ).set i (e x)))) : ∀ (l : List α) (s : σ) (δ : Nat → D), Sm (RoC mk Ro) (forC B l s) (forF i b (l.map e) (mk s δ))
  | [], s, δ => fun c hc => by cases hc; exact ⟨_, rfl, δ, rfl⟩
  | x :: l, s, δ => fun c hc => by
    obtain ⟨z, h1, h2⟩ := Option.bind_eq_some_iff.mp hc
    obtain ⟨o, h3, h4⟩ := hb s x δ z h1
    cases z with
    | inl t =>
      obtain ⟨δ', rfl⟩ := h4
      obtain ⟨o, h5, h6⟩ := forF_C mk hb l t δ' c h2
      refine ⟨o, ?_, h6⟩
      show forF i b (e x :: l.map e) (mk s δ) = _
      unfold forF
      rw [h3]
      exact h5
    | inr w =>
      cases h2
      obtain ⟨h5, h6⟩ := h4
      refine ⟨o, ?_, h5, h6⟩
      show forF i b (e x :: l.map e) (mk s δ) = _
      unfold forF
      rw [h3]
      cases o with
      | rt d e => rfl
      | ex c e => rfl
      | _ => cases h6
def rgI (lo : Int) (n : Nat) : List Int := (List.range n).map fun k : Nat => lo + (k : Int)
theorem rgI_map (lo : Int) (n : Nat) : (rgI lo n).map D.int = rngL lo n := by rw [rngL_map]; simp [rgI]
def rg1T (j : Int) : Option (List Int) := if bnd62 j = true then some (rgI 0 j.toNat) else none
def rg2T (l j : Int) : Option (List Int) := if bnd62 l = true ∧ bnd62 j = true then some (rgI l (j - l).toNat) else none
def Src (e : α → D) (X : Option (List α)) (i : Nat) (S : (List D → Option Out) → List D → Option Out) (env : List D) : Prop := ∀ l, X = some l → ∀ b, S b env = forF i b (l.map e) env
theorem src_list {X : Option (List α)} (h : Ev (eL e) X (f env)) : Src e X i (sFor i f) env := fun l hl b => by
  unfold sFor
  rw [h l hl]
  rfl
theorem src_str {X : Option Str} (h : Ev D.str X (f env)) : Src chD (X.map fun z => z.cps.toList) i (sForS i f) env := fun l hl b => by
  obtain ⟨z, h1, rfl⟩ := Option.map_eq_some_iff.mp hl
  unfold sForS
  rw [h z h1]
  rfl
theorem src_r1 {X : Option Int} (h : Ev D.int X (f env)) : Src D.int (X.bind rg1T) i (sRng i [f]) env := fun l hl b => by
  obtain ⟨j, h1, h2⟩ := Option.bind_eq_some_iff.mp hl
  unfold rg1T at h2
  split at h2
  · rename_i hb
    cases h2
    have h3 := h j h1
    unfold sRng eArgs eArgs
    rw [h3]
    simp only [bd_ok, hb, if_true, rgI_map]
  · cases h2
theorem sm_for {S : (List D → Option Out) → List D → Option Out} {X : Option (List α)} {B : σ → α → Option σ} {s0 : σ} {δ0 : Nat → D} {K : σ → Option Ω} {b : List D → Option Out} (mk : σ → (Nat → D) → List D) (hs : Src e X i S env) (h0 : env = mk s0 δ0) (hb : ∀ s x δ, Sm (RoF mk) (B s x) (b ((mk s δ).set i (e x)))) (k : ∀ s δ, Sm Ro (K s) (rest (mk s δ))) :
    Sm Ro ((X.bind fun l => forO B l s0).bind K) (sSeq (S b) rest env) := sm_seqF mk (fun c hc => by
  obtain ⟨l, h1, h2⟩ := Option.bind_eq_some_iff.mp hc
  rw [hs l h1, h0]
  exact forF_O mk hb l s0 δ0 c h2) k
theorem sm_forC {S : (List D → Option Out) → List D → Option Out} {X : Option (List α)} {B : σ → α → Option (σ ⊕ Ω)} {s0 : σ} {δ0 : Nat → D} {K : σ → Option Ω} {b : List D → Option Out} (mk : σ → (Nat → D) → List D) (hs : Src e X i S env) (h0 : env = mk s0 δ0) (hb : ∀ s x δ, Sm (RoC mk Ro) (B s x) (b ((mk s δ).set i (e x)))) (k : ∀ s δ, Sm Ro (K s) (rest (mk s δ))) :
    Sm Ro (thenC (X.bind fun l => forC B l s0) K) (sSeq (S b) rest env) := sm_seqC mk (fun c hc => by
  obtain ⟨l, h1, h2⟩ := Option.bind_eq_some_iff.mp hc
  rw [hs l h1, h0]
  exact forF_C mk hb l s0 δ0 c h2) k
theorem sm_while {B : σ → Option σ} {tt : σ → Option Bool} {s0 : σ} {δ0 : Nat → D} {K : σ → Option Ω} {b : List D → Option Out} (mk : σ → (Nat → D) → List D) (h0 : env = mk s0 δ0) (ht : ∀ s δ, EvB (tt s) (t (mk s δ))) (hb : ∀ s δ, Sm (RoF mk) (B s) (b (mk s δ))) (k : ∀ s δ, Sm Ro (K s) (rest (mk s δ))) :
    Sm Ro ((whO tt B s0).bind K) (sSeq (sWhile t b) rest env) := sm_seqF mk (fun c hc => by
  obtain ⟨n, h1⟩ := whO_of hc
  have key : ∀ (n : Nat) (s : σ) (δ : Nat → D), whN tt B n s = some c → ∃ δ', whF t b n (mk s δ) = some (.nx (mk c δ')) := by
    intro n
    induction n with
    | zero => intro s δ h; cases h
    | succ n ih =>
      intro s δ h
      obtain ⟨y, h2, h3⟩ := Option.bind_eq_some_iff.mp h
      unfold whF
      rw [ht s δ y h2]
      cases y with
      | false =>
        have : s = c := by simpa using h3
        subst this
        exact ⟨δ, rfl⟩
      | true =>
        obtain ⟨s', h4, h5⟩ := Option.bind_eq_some_iff.mp (show (B s).bind (fun s' => whN tt B n s') = some c from by simpa using h3)
        obtain ⟨o, h6, δ', rfl⟩ := hb s δ s' h4
        obtain ⟨δ2, h7⟩ := ih s' δ' h5
        refine ⟨δ2, ?_⟩
        simp only [h6]
        exact h7
  obtain ⟨δ', h2⟩ := key n s0 δ0 h1
  refine ⟨_, ?_, δ', rfl⟩
  rw [h0]
  exact sWhile_eq h2) k
end
end Mv

namespace Mv
open PySem L2
section
variable {α β γ : Type} {e e' : α → D} {ea : α → D} {eb : β → D} {ec : γ → D} {X : Option α} {Y : Option β} {f g : List D → M D} {env : List D} {i : Nat}
def toIntD : D → Option Int
  | .int i => some i
  | _ => none
def Im (e : α → D) : Prop := ∀ a, imm (e a) = true
theorem im_int : Im D.int := fun _ => rfl
theorem im_str : Im D.str := fun _ => rfl
theorem im_bl : Im D.bl := fun _ => rfl
theorem im_O (h : Im e) : Im (eO e) := fun a => by
  cases a with
  | none => rfl
  | some x => exact h x
theorem im_L (h : Im e) : ∀ l : List α, immL (l.map e) = true
  | [] => rfl
  | x :: l => Bool.and_eq_true_iff.mpr ⟨h x, im_L h l⟩
def mulT (i j : Int) : Option Int := if CMul i j then some (i * j) else none
theorem mulT_ok (a b c : Int) (h : mulT a b = some c) : dMul (.int a) (.int b) = some (.int c) := by
  unfold mulT at h
  split at h
  · rename_i hc; cases h; exact if_pos hc
  · cases h
def divT (i j : Int) : Option Int := if 0 < j ∧ j < 1073741824 then some (i / j) else none
theorem divT_ok (a b c : Int) (h : divT a b = some c) : dDiv (.int a) (.int b) = some (.int c) := by
  unfold divT at h
  split at h
  · rename_i hc; cases h; exact if_pos hc
  · cases h
def modT (i j : Int) : Option Int := if 0 < j then some (i % j) else none
theorem modT_ok (a b c : Int) (h : modT a b = some c) : dMod (.int a) (.int b) = some (.int c) := by
  unfold modT at h
  split at h
  · rename_i hc; cases h; exact if_pos hc
  · cases h
def addT (a b : List α) : Option (List α) := if a.length + b.length ≤ LIM then some (a ++ b) else none
theorem addT_ok (hi : Im e) (a b c : List α) (h : addT a b = some c) : dAdd (eL e a) (eL e b) = some (eL e c) := by
  unfold addT at h
  split at h
  · rename_i hl
    cases h
    show (if (a.map e).length + (b.map e).length ≤ LIM ∧ immL (a.map e) = true ∧ immL (b.map e) = true then some (D.lst (a.map e ++ b.map e)) else none) = _
    rw [if_pos ⟨by simpa using hl, im_L hi a, im_L hi b⟩, ← List.map_append]
  · cases h
def adsT (a b : Str) : Option Str := if a.length + b.length ≤ LIM then some (a ++ b) else none
theorem adsT_ok (a b c : Str) (h : adsT a b = some c) : dAdd (.str a) (.str b) = some (.str c) := by
  unfold adsT at h
  split at h
  · rename_i hl; cases h; exact if_pos hl
  · cases h
def repT (a : List α) (k : Int) : Option (List α) := if a.length * k.toNat ≤ LIM ∧ bnd63 k = true then some (List.replicate k.toNat a).flatten else none
def ixT (l : List α) (k : Int) : Option α := (ixN l.length k).bind fun n => l[n]?
theorem ixT_ok (a : List α) (k : Int) (c : α) (h : ixT a k = some c) : dIx (eL e a) (.int k) = some (e c) := by
  obtain ⟨n, h1, h2⟩ := Option.bind_eq_some_iff.mp h
  show atI (a.map e) k = _
  exact atI_of (by rw [List.length_map]; exact h1) (by rw [List.getElem?_map, h2]; rfl)
def cutL (l : List α) (lo hi : Option Int) : List α := (l.drop (HT.sIx l.length 0 lo)).take (HT.sIx l.length l.length hi - HT.sIx l.length 0 lo)
theorem cutL_map (l : List α) (lo hi : Option Int) : cutD (l.map e) lo hi = (cutL l lo hi).map e := by
  unfold cutD cutL
  rw [List.length_map, List.map_take, List.map_drop]
theorem ev_sl {X : Option (List α)} {lo hi : Option (List D → M D)} {l h : Option Int} (hi' : Im e) (hx : Ev (eL e) X (f env)) (hl : eOpt lo env = some (.ok l)) (hh : eOpt hi env = some (.ok h)) : Ev (eL e) (X.bind fun a => some (cutL a l h)) (eSl f lo hi env) := fun c hc => by
  obtain ⟨a, h1, h2⟩ := Option.bind_eq_some_iff.mp hc
  cases h2
  unfold eSl
  rw [hx a h1, bd_ok, hl, bd_ok, hh, bd_ok]
  show lift (if immL (a.map e) = true then some (D.lst (cutD (a.map e) l h)) else none) = _
  rw [if_pos (im_L hi' a), cutL_map]
  rfl
theorem dListR_ok (a : Int) (c : List Int) (h : (if bndL a = true then some (rgI 0 a.toNat) else none) = some c) : dListR (.int a) = some (eL D.int c) := by
  split at h
  · rename_i hb
    cases h
    show (if bndL a = true then some (D.lst (rngL 0 a.toNat)) else none) = _
    rw [if_pos hb, ← rgI_map]
  · cases h
def lrgT (a : Int) : Option (List Int) := if bndL a = true then some (rgI 0 a.toNat) else none
structure Eqb [DecidableEq α] (e : α → D) (n : Nat) : Prop where
  lay : ∀ a, (toPy (e a)).canLay0 = true
  dep : ∀ a, PyData.depth (toPy (e a)) ≤ n
  eqv : ∀ a b, PyData.eqv (toPy (e a)) (toPy (e b)) = decide (a = b)
theorem eqb_int : Eqb D.int 0 := ⟨fun _ => rfl, fun _ => Nat.le_refl _, fun a b => rfl⟩
theorem eqb_bl : Eqb D.bl 0 := ⟨fun _ => rfl, fun _ => Nat.le_refl _, fun a b => by cases a <;> cases b <;> rfl⟩
theorem eqb_O [DecidableEq α] {n : Nat} (h : Eqb e n) (hn : ∀ a, PyData.eqv .none (toPy (e a)) = false ∧ PyData.eqv (toPy (e a)) .none = false) : Eqb (eO e) n := ⟨fun a => by
  cases a with
  | none => rfl
  | some x => exact h.lay x, fun a => by
  cases a with
  | none => exact Nat.zero_le _
  | some x => exact h.dep x, fun a b => by
  cases a with
  | none =>
    cases b with
    | none => rfl
    | some y => exact (hn y).1.trans (by simp)
  | some x =>
    cases b with
    | none => exact (hn x).2.trans (by simp)
    | some y => exact (h.eqv x y).trans (by simp)⟩
theorem eqb_L [DecidableEq α] {n : Nat} (h : Eqb e n) : Eqb (eL e) (n + 1) := by
  have k1 : ∀ l : List α, PyData.canLayAll0 (toPyL (l.map e)) = true := fun l => by
    induction l with
    | nil => rfl
    | cons x l ih => show ((toPy (e x)).canLay0 && PyData.canLayAll0 (toPyL (l.map e))) = true; rw [h.lay, ih]; rfl
  have k2 : ∀ l : List α, PyData.depthAll (toPyL (l.map e)) ≤ n := fun l => by
    induction l with
    | nil => exact Nat.zero_le _
    | cons x l ih => show max (PyData.depth (toPy (e x))) (PyData.depthAll (toPyL (l.map e))) ≤ n; have := h.dep x; omega
  have k3 : ∀ a b : List α, PyData.eqvAll (toPyL (a.map e)) (toPyL (b.map e)) = decide (a = b) := fun a => by
    induction a with
    | nil => intro b; cases b <;> simp [toPyL, PyData.eqvAll]
    | cons x a ih =>
      intro b
      cases b with
      | nil => simp [toPyL, PyData.eqvAll]
      | cons y b =>
        show (PyData.eqv (toPy (e x)) (toPy (e y)) && PyData.eqvAll (toPyL (a.map e)) (toPyL (b.map e))) = _
        rw [ih, h.eqv]
        by_cases h1 : x = y <;> by_cases h2 : a = b <;> simp [h1, h2]
  exact ⟨k1, fun l => Nat.succ_le_succ (k2 l), k3⟩
theorem Eqb.le [DecidableEq α] {n k : Nat} (h : Eqb e n) (hk : n ≤ k) : Eqb e k := ⟨h.lay, fun a => Nat.le_trans (h.dep a) hk, h.eqv⟩
theorem Eqb.sh [DecidableEq α] {n : Nat} (h : Eqb e n) (hn : n ≤ 64) (a : α) : SeqAt.shaped (toPy (e a)) = true := by
  show ((toPy (e a)).canLay0 && decide (PyData.depth (toPy (e a)) ≤ 64)) = true
  rw [h.lay, decide_eq_true (Nat.le_trans (h.dep a) hn)] <;> rfl
theorem Eqb.eq [DecidableEq α] {n : Nat} (h : Eqb e n) (hn : n ≤ 64 := by decide) (a b : α) : dEq (e a) (e b) = some (.bl (decide (a = b))) := by
  unfold dEq
  rw [if_pos ⟨h.sh hn a, h.sh hn b⟩, h.eqv]
theorem Eqb.ne [DecidableEq α] {n : Nat} (h : Eqb e n) (hn : n ≤ 64 := by decide) (a b : α) : dNe (e a) (e b) = some (.bl (!decide (a = b))) := by
  unfold dNe
  rw [if_pos ⟨h.sh hn a, h.sh hn b⟩, h.eqv]
def seqT (a b : Str) : Option Bool := if PyData.strOk a = true ∧ PyData.strOk b = true then some (decide (a = b)) else none
def sneT (a b : Str) : Option Bool := if PyData.strOk a = true ∧ PyData.strOk b = true then some (!decide (a = b)) else none
theorem shaped_s {s : Str} (h : PyData.strOk s = true) : SeqAt.shaped (toPy (.str s)) = true := by simp [toPy, SeqAt.shaped, PyData.canLay0, PyData.depth, h]
theorem seqT_ok (a b : Str) (c : Bool) (h : seqT a b = some c) : dEq (.str a) (.str b) = some (.bl c) := by
  unfold seqT at h
  split at h
  · rename_i hq
    cases h
    unfold dEq
    rw [if_pos ⟨shaped_s hq.1, shaped_s hq.2⟩]
    show some (D.bl (a == b)) = _
    rw [Bool.beq_eq_decide_eq]
  · cases h
theorem sneT_ok (a b : Str) (c : Bool) (h : sneT a b = some c) : dNe (.str a) (.str b) = some (.bl c) := by
  unfold sneT at h
  split at h
  · rename_i hq
    cases h
    unfold dNe
    rw [if_pos ⟨shaped_s hq.1, shaped_s hq.2⟩]
    show some (D.bl (!(a == b))) = _
    rw [Bool.beq_eq_decide_eq]
  · cases h
def Nn (e : α → D) : Prop := ∀ a, isNon (e a) = false
theorem nn_L : Nn (eL e) := fun _ => rfl
theorem isN_ok (h : Nn e) (a : Option α) (b : Unit) : dIsN (eO e a) (eU b) = some (.bl a.isNone) := by
  cases a with
  | none => rfl
  | some x => show some (D.bl (isNon (e x))) = _; rw [h]; rfl
theorem notN_ok (h : Nn e) (a : Option α) (b : Unit) : dNotN (eO e a) (eU b) = some (.bl a.isSome) := by
  cases a with
  | none => rfl
  | some x => show some (D.bl (!isNon (e x))) = _; rw [h]; rfl
variable {t u : List D → M Bool} {A B : Option Bool}
end
section
variable {α β γ δ ε ρ : Type} {ea : α → D} {eb : β → D} {ec : γ → D} {ed : δ → D} {ee : ε → D} {er : ρ → D} {X : Option α} {Y : Option β} {Z : Option γ} {U : Option δ} {V' : Option ε} {f1 f2 f3 f4 f5 f6 : List D → M D} {env : List D}
def EvA (P : List D → Option ρ) (m : M (List D)) (X : Option ρ) : Prop := ∀ r, X = some r → ∃ ds, m = some (.ok ds) ∧ P ds = some r
def AA (X : Option (List D)) (m : M (List D)) : Prop := ∀ ds, X = some ds → m = some (.ok ds)
def Fn (er : ρ → D) (T : Option ρ) (o : Option Out) : Prop := ∀ r, T = some r → ∃ e, o = some (.rt (er r) e)
theorem sm_bind {Ω : Type} {Ro : Ω → Out → Prop} {T : α → Option Ω} {g : Option Out} (hx : ∀ a, X = some a → Sm Ro (T a) g) : Sm Ro (X.bind T) g := fun r hr => by
  obtain ⟨a, h1, h2⟩ := Option.bind_eq_some_iff.mp hr
  exact hx a h1 r h2
end
end Mv

namespace Mv
open PySem L2
section
variable {α β γ ρ Ω : Type} {Ro : Ω → Out → Prop} {e : α → D} {ea : α → D} {eb : β → D} {ec : γ → D} {er : ρ → D} {X : Option α} {Y : Option β} {f g fi fk : List D → M D} {env : List D} {i : Nat} {rest : List D → Option Out} {a b : List D → Option Out}
def mapO (y : α → Option β) : List α → Option (List β)
  | [] => some []
  | x :: l => (y x).bind fun z => (mapO y l).bind fun r => some (z :: r)
def filO (t : α → Option Bool) (y : α → Option β) : List α → Option (List β)
  | [] => some []
  | x :: l => (t x).bind fun c => if c = true then (y x).bind fun z => (filO t y l).bind fun r => some (z :: r) else filO t y l
theorem mapO_some {y : α → Option β} {z : α → β} : ∀ {l : List α}, (∀ x ∈ l, y x = some (z x)) → mapO y l = some (l.map z)
  | [], _ => rfl
  | x :: l, h => by
    unfold mapO
    rw [h x List.mem_cons_self, mapO_some fun w hw => h w (List.mem_cons_of_mem _ hw)]
    rfl
theorem filO_some {t : α → Option Bool} {p : α → Bool} {y : α → Option β} {z : α → β} : ∀ {l : List α}, (∀ x ∈ l, t x = some (p x) ∧ (p x = true → y x = some (z x))) → filO t y l = some ((l.filter p).map z)
  | [], _ => rfl
  | x :: l, h => by
    unfold filO
    obtain ⟨h1, h2⟩ := h x List.mem_cons_self
    rw [h1, filO_some fun w hw => h w (List.mem_cons_of_mem _ hw)]
    cases hp : p x with
    | true => simp [h2 hp, hp]
    | false => simp [hp]
theorem lcF_O {t : List D → M Bool} {T : α → Option Bool} {y : α → Option β} (ht : ∀ x, EvB (T x) (t (env.set i (ea x)))) (hg : ∀ x, Ev eb (y x) (g (env.set i (ea x)))) : ∀ (l : List α) (r : List β), filO T y l = some r → lcF i t g (l.map ea) env = some (r.map eb)
  | [], r, h => by cases h; rfl
  | x :: l, r, h => by
    obtain ⟨c, h1, h2⟩ := Option.bind_eq_some_iff.mp h
    show (okO (t (env.set i (ea x)))).bind (fun b => if b = true then (okO (g (env.set i (ea x)))).bind fun y => (lcF i t g (l.map ea) env).map (y :: ·) else lcF i t g (l.map ea) env) = _
    rw [ht x c h1]
    cases c with
    | false => exact lcF_O ht hg l r (by simpa using h2)
    | true =>
      obtain ⟨z, h3, h4⟩ := Option.bind_eq_some_iff.mp (show (y x).bind (fun z => (filO T y l).bind fun r => some (z :: r)) = some r from by simpa using h2)
      obtain ⟨r', h5, h6⟩ := Option.bind_eq_some_iff.mp h4
      cases h6
      show (okO (g (env.set i (ea x)))).bind (fun y => (lcF i t g (l.map ea) env).map (y :: ·)) = _
      rw [hg x z h3, lcF_O ht hg l r' h5]
      rfl
theorem filO_yes {y : α → Option β} : ∀ l : List α, filO (fun _ => some true) y l = mapO y l
  | [] => rfl
  | x :: l => by unfold filO mapO; simp only [Option.bind_some, if_true]; rw [filO_yes l]
theorem tT_ok {env : List D} : EvB (some true) (tT env) := fun c hc => by cases hc; rfl
def lcT (t : α → Option Bool) (y : α → Option β) (l : List α) : Option (List β) := if l.length ≤ LIM then filO t y l else none
def lcM (y : α → Option β) (l : List α) : Option (List β) := if l.length ≤ LIM then mapO y l else none
def lcP (y : α → β) (l : List α) : Option (List β) := if l.length ≤ LIM then some (l.map y) else none
theorem lcT_ok {y : α → Option β} {z : α → β} {t : α → Option Bool} {p : α → Bool} {l : List α} (hl : l.length ≤ LIM) (h : ∀ x ∈ l, t x = some (p x) ∧ (p x = true → y x = some (z x))) : lcT t y l = some ((l.filter p).map z) := by unfold lcT; rw [if_pos hl]; exact filO_some h
theorem lcM_ok {y : α → Option β} {z : α → β} {l : List α} (hl : l.length ≤ LIM) (h : ∀ x ∈ l, y x = some (z x)) : lcM y l = some (l.map z) := by unfold lcM; rw [if_pos hl]; exact mapO_some h
theorem lc_all {t : List D → M Bool} {T : α → Option Bool} {y : α → Option β} (ht : ∀ x, EvB (T x) (t (env.set i (ea x)))) (hg : ∀ x, Ev eb (y x) (g (env.set i (ea x)))) {l : List α} {r : List β} (h : lcT T y l = some r) {n : Nat} (hn : n = l.length) : (if n ≤ LIM then lift ((lcF i t g (l.map ea) env).map D.lst) else none) = some (.ok (eL eb r)) := by
  unfold lcT at h
  split at h
  · rename_i hl
    rw [if_pos (by rw [hn]; exact hl), lcF_O ht hg l r h]
    rfl
  · cases h
theorem ev_lcT {t : List D → M Bool} {T : α → Option Bool} {y : α → Option β} {X : Option (List α)} (hx : Ev (eL ea) X (f env)) (ht : ∀ x, EvB (T x) (t (env.set i (ea x)))) (hg : ∀ x, Ev eb (y x) (g (env.set i (ea x)))) : Ev (eL eb) (X.bind fun l => lcT T y l) (eLc i f t g env) := fun r hr => by
  obtain ⟨l, h1, h2⟩ := Option.bind_eq_some_iff.mp hr
  unfold eLc
  rw [hx l h1]
  exact lc_all ht hg h2 (by simp)
theorem lcM_T {y : α → Option β} {l : List α} : lcM y l = lcT (fun _ => some true) y l := by unfold lcM lcT; rw [filO_yes]
theorem lcP_M {y : α → β} {l : List α} : lcP y l = lcM (fun x => some (y x)) l := by unfold lcP lcM; rw [mapO_some fun _ _ => rfl]
theorem ev_lcM {y : α → Option β} {X : Option (List α)} (hx : Ev (eL ea) X (f env)) (hg : ∀ x, Ev eb (y x) (g (env.set i (ea x)))) : Ev (eL eb) (X.bind fun l => lcM y l) (eLc i f tT g env) := fun r hr => by
  obtain ⟨l, h1, h2⟩ := Option.bind_eq_some_iff.mp hr
  rw [lcM_T] at h2
  exact ev_lcT hx (fun _ => tT_ok) hg r (Option.bind_eq_some_iff.mpr ⟨l, h1, h2⟩)
theorem ev_lcP {y : α → β} {X : Option (List α)} (hx : Ev (eL ea) X (f env)) (hg : ∀ x, Ev eb (some (y x)) (g (env.set i (ea x)))) : Ev (eL eb) (X.bind fun l => lcP y l) (eLc i f tT g env) := fun r hr => by
  obtain ⟨l, h1, h2⟩ := Option.bind_eq_some_iff.mp hr
  rw [lcP_M] at h2
  exact ev_lcM hx hg r (Option.bind_eq_some_iff.mpr ⟨l, h1, h2⟩)
def lr1 (j : Int) : Option (List Int) := if bndL j = true then some (rgI 0 j.toNat) else none
def lr2 (l j : Int) : Option (List Int) := if bnd62 l = true ∧ bnd62 j = true ∧ (j - l).toNat ≤ LIM then some (rgI l (j - l).toNat) else none
theorem rgI_len (lo : Int) (n : Nat) : (rgI lo n).length = n := by simp [rgI]
theorem ev_lcR1T {t : List D → M Bool} {T : Int → Option Bool} {y : Int → Option β} {X : Option Int} (hx : Ev D.int X (f env)) (ht : ∀ x, EvB (T x) (t (env.set i (.int x)))) (hg : ∀ x, Ev eb (y x) (g (env.set i (.int x)))) : Ev (eL eb) (X.bind fun j => (lr1 j).bind fun l => filO T y l) (eLcR i [f] t g env) := fun r hr => by
  obtain ⟨j, h1, h2⟩ := Option.bind_eq_some_iff.mp hr
  obtain ⟨l, h3, h4⟩ := Option.bind_eq_some_iff.mp h2
  unfold lr1 at h3
  split at h3
  · rename_i hb
    cases h3
    unfold eLcR eArgs eArgs
    rw [hx j h1]
    simp only [bd_ok, hb, if_true]
    rw [← rgI_map, lcF_O (ea := D.int) ht hg _ r h4]
    rfl
  · cases h3
def Mkd (er : ρ → D) (T : Option ρ) (o : Option Out) : Prop := ∀ r, T = some r → ∃ e, o = some (.rt .non e) ∧ e[0]? = some (er r)
def appT (l : List α) (x : α) : Option (List α) := if l.length < LIM then some (l ++ [x]) else none
def setI (l : List α) (k : Int) (x : α) : List α := match ixN l.length k with
  | some n => l.set n x
  | none => l
def inR (l : List α) (k : Int) : Bool := (ixN l.length k).isSome
def setT (l : List α) (k : Int) (x : α) : Option (List α) := if inR l k = true then some (setI l k x) else none
def EvE (er : ρ → D) (mk : ρ → List D) (T : Option ρ) (r : RE) : Prop := ∀ c, T = some c → r = some (.ok (er c), mk c)
def popAtT (l : List α) (k : Int) : Option (α × List α) := if bnd63 k = true then (ixN l.length k).bind fun n => l[n]?.bind fun x => some (x, l.eraseIdx n) else none
def popT (l : List α) : Option (α × List α) := l[l.length - 1]?.bind fun x => some (x, l.dropLast)
def dropT (l : List α) : Option (List α) := if l.length = 0 then none else some l.dropLast
end
end Mv

namespace Mv
open PySem L2
abbrev Yi (m : M D) (d : D) : Prop := m = some (.ok d)
abbrev Te (m : M Bool) (b : Bool) : Prop := m = some (.ok b)
abbrev Ya (m : M (List D)) (ds : List D) : Prop := m = some (.ok ds)
section
variable {α β γ ρ Ω σ : Type} {Ro : Ω → Out → Prop} {e : α → D} {ea : α → D} {eb : β → D} {ec : γ → D} {er : ρ → D} {f g fi : List D → M D} {t u : List D → M Bool} {env env' : List D} {i : Nat} {rest a b : List D → Option Out} {d d' x y z : D} {fs : List (List D → M D)} {ds : List D} {A B c : Bool}
theorem yi_c : Yi (eC d env) d := rfl
theorem yi_var (h : env[i]? = some d) : Yi (eVar i env) d := by unfold Yi eVar; rw [h]; rfl
theorem yi_op {op : D → D → Option D} (h : Yi (f env) x) (h' : Yi (g env) y) (ho : op x y = some z) : Yi (eOp op f g env) z := by
  unfold Yi eOp; rw [h, bd_ok, h', bd_ok, ho]; rfl
theorem yi_un {op : D → Option D} (h : Yi (f env) x) (ho : op x = some z) : Yi (eUn op f env) z := by
  unfold Yi eUn; rw [h, bd_ok, ho]; rfl
theorem yi_imm (h : Yi (f env) x) (hi : imm x = true) : Yi (eImm f env) x := by
  unfold Yi eImm; rw [h, bd_ok, if_pos hi]
theorem ya_nil : Ya (eArgs [] env) [] := rfl
theorem ya_cons (h : Yi (f env) x) (h' : Ya (eArgs fs env) ds) : Ya (eArgs (f :: fs) env) (x :: ds) := by
  unfold Ya eArgs; rw [h, bd_ok, h']; rfl
theorem yi_lst (h : Ya (eArgs fs env) ds) (hl : ds.length ≤ 100 := by decide) : Yi (eLst fs env) (.lst ds) := by
  unfold Yi eLst; rw [h, bd_ok, if_pos (by unfold LIM; omega)]
theorem yi_call {op : List D → Option D} (h : Ya (eArgs fs env) ds) (ho : op ds = some z) : Yi (eCall op fs env) z := by
  unfold Yi eCall; rw [h, bd_ok, ho]; rfl
theorem yi_nm {v w : α} {m : M D} (h : some v = some w) (p : Yi m (e v)) : Yi m (e w) := by cases h; exact p
theorem yi_get {m : M D} {X : Option α} {v : α} (h : X = some v) (p : Yi m (eO e X)) : Yi m (e v) := by subst h; exact p
theorem yi_cv {m : M D} (p : Yi m d) (h : d = d') : Yi m d' := h ▸ p
theorem te_nm {m : M Bool} {v w : Bool} (h : some v = some w) (p : Te m v) : Te m w := by cases h; exact p
theorem bindE {X : Option α} {K : α → Option β} {r : β} {P : Prop} (h : X.bind K = some r) (k : ∀ x, X = some x → K x = some r → P) : P := by
  obtain ⟨a, h1, h2⟩ := Option.bind_eq_some_iff.mp h
  exact k a h1 h2
theorem te_T (h : Yi (f env) (.bl A)) : Te (eT f env) A := by unfold Te eT; rw [h]; rfl
theorem te_not (h : Te (t env) A) : Te (eNot t env) (!A) := by unfold Te eNot; rw [h]; rfl
theorem te_and (h : Te (t env) A) (h' : Te (u env) B) : Te (eAnd t u env) (A && B) := by
  unfold Te eAnd; rw [h]; cases A
  · rfl
  · exact h'
theorem te_or (h : Te (t env) A) (h' : Te (u env) B) : Te (eOr t u env) (A || B) := by
  unfold Te eOr; rw [h]; cases A
  · exact h'
  · rfl
theorem te_andB {Z : Option Bool} (h : Te (t env) A) (h' : ∀ b, Z = some b → Te (u env) b) (hc : (if A = true then Z else some false) = some c) : Te (eAnd t u env) c := by
  unfold Te eAnd; rw [h]
  cases A with
  | true => exact h' c (by simpa using hc)
  | false => cases (show some false = some c by simpa using hc); rfl
theorem te_orB {Z : Option Bool} (h : Te (t env) A) (h' : ∀ b, Z = some b → Te (u env) b) (hc : (if A = true then some true else Z) = some c) : Te (eOr t u env) c := by
  unfold Te eOr; rw [h]
  cases A with
  | false => exact h' c (by simpa using hc)
  | true => cases (show some true = some c by simpa using hc); rfl
theorem yi_andB {Z : Option Bool} (h : Yi (f env) (.bl A)) (h' : ∀ b, Z = some b → Yi (g env) (.bl b)) (hc : (if A = true then Z else some false) = some c) : Yi (eAndV f g env) (.bl c) := by
  unfold Yi eAndV; rw [h]
  cases A with
  | true => exact h' c (by simpa using hc)
  | false => cases (show some false = some c by simpa using hc); rfl
theorem yi_ifB {V W : Option α} {r : α} (h : Te (t env) A) (h1 : ∀ v, V = some v → Yi (f env) (e v)) (h2 : ∀ v, W = some v → Yi (g env) (e v)) (hr : (if A = true then V else W) = some r) : Yi (eIf t f g env) (e r) := by
  unfold Yi eIf; rw [h]
  cases A with
  | true => exact h1 r (by simpa using hr)
  | false => exact h2 r (by simpa using hr)
theorem yo_n : eOpt none env = some (.ok none) := rfl
theorem yo_s {k : Int} (h : Yi (f env) (.int k)) : eOpt (some f) env = some (.ok (some k)) := by
  show bd (f env) toI = _
  rw [h]
  rfl
theorem yi_sl {v : List α} {lo hi : Option (List D → M D)} {l h : Option Int} (hi' : Im e) (hx : Yi (f env) (eL e v)) (hl : eOpt lo env = some (.ok l)) (hh : eOpt hi env = some (.ok h)) : Yi (eSl f lo hi env) (eL e (cutL v l h)) :=
  ev_sl (X := some v) hi' (fun a ha => by cases ha; exact hx) hl hh _ rfl
def FnP (o : Option Out) (d : D) (P : List D → Prop) : Prop := ∃ e, o = some (.rt d e) ∧ P e
theorem yi_fnN {G : List D → Option Out} {P : List D → Prop} (h : Ya (eArgs fs env) ds) (hg : FnP (G ds) d P) : Yi (eFnN G fs env) d := by
  obtain ⟨e, h1, _⟩ := hg
  unfold Yi eFnN; rw [h, bd_ok, h1]; rfl
theorem yi_fn {G : List D → Option Out} {P : List D → Prop} (h : Ya (eArgs fs env) ds) (hg : FnP (G ds) d P) : Yi (eFn G fs env) d := by
  obtain ⟨e, h1, _⟩ := hg
  unfold Yi eFn; rw [h, bd_ok, h1]; rfl
theorem yi_meN {G : List D → Option Out} {P : List D → Prop} {cc : String} {mt : Str} (ho : Yi (f env) x) (hi : insOf cc mt x = true) (h : Ya (eArgs fs env) ds) (hg : FnP (G (x :: ds)) d P) : Yi (eMeN cc mt G f fs env) d := by
  obtain ⟨e, h1, _⟩ := hg
  unfold Yi eMeN; rw [ho, bd_ok, if_pos hi, h, bd_ok, h1]; rfl
theorem yi_mk {G : List D → Option Out} {cc : String} (h : Ya (eArgs fs env) ds) (hg : FnP (G (.ins cc [] :: ds)) .non fun e => e[0]? = some d) : Yi (eMake cc G fs env) d := by
  obtain ⟨e, h1, h2⟩ := hg
  unfold Yi eMake; rw [h, bd_ok, h1]; show lift e[0]? = _; rw [h2]; rfl
theorem yi_scr {G : List D → Option Out} {P : List D → Prop} {s : D} (hs : env[i]? = some s) (h : Yi (f env) y) (hg : FnP (G [s, y]) d P) : Yi ((fun env => bd (lift env[i]?) fun s => bd (f env) fun y => ofOutN (G [s, y])) env) d := by
  obtain ⟨e, h1, _⟩ := hg
  show bd (lift env[i]?) (fun s => bd (f env) fun y => ofOutN (G [s, y])) = _
  rw [hs]
  simp only [lift_some, bd_ok]
  rw [h, bd_ok, h1]; rfl
def lcFP (p : α → Bool) (y : α → β) (l : List α) : Option (List β) := if l.length ≤ LIM then some ((l.filter p).map y) else none
theorem yi_lcT {T : α → Option Bool} {Y : α → Option β} {l : List α} {r : List β} (hx : Yi (f env) (eL ea l)) (ht : ∀ x b, T x = some b → Te (t (env.set i (ea x))) b) (hg : ∀ x r, Y x = some r → Yi (g (env.set i (ea x))) (eb r)) (h : lcT T Y l = some r) : Yi (eLc i f t g env) (eL eb r) :=
  ev_lcT (X := some l) (fun a ha => by cases ha; exact hx) (fun x b hb => ht x b hb) (fun x r hr => hg x r hr) r h
theorem yi_lcM {Y : α → Option β} {l : List α} {r : List β} (hx : Yi (f env) (eL ea l)) (hg : ∀ x r, Y x = some r → Yi (g (env.set i (ea x))) (eb r)) (h : lcM Y l = some r) : Yi (eLc i f tT g env) (eL eb r) :=
  ev_lcM (X := some l) (fun a ha => by cases ha; exact hx) (fun x r hr => hg x r hr) r h
theorem yi_lcP {Y : α → β} {l : List α} {r : List β} (hx : Yi (f env) (eL ea l)) (hg : ∀ x, Yi (g (env.set i (ea x))) (eb (Y x))) (h : lcP Y l = some r) : Yi (eLc i f tT g env) (eL eb r) :=
  ev_lcP (X := some l) (fun a ha => by cases ha; exact hx) (fun x r hr => by cases hr; exact hg x) r h
theorem yi_lcR1 {T : Int → Option Bool} {Y : Int → Option β} {j : Int} {l : List Int} {r : List β} (hx : Yi (f env) (.int j)) (hl : lr1 j = some l) (ht : ∀ x b, T x = some b → Te (t (env.set i (.int x))) b) (hg : ∀ x r, Y x = some r → Yi (g (env.set i (.int x))) (eb r)) (h : filO T Y l = some r) : Yi (eLcR i [f] t g env) (eL eb r) :=
  ev_lcR1T (X := some j) (fun a ha => by cases ha; exact hx) (fun x b hb => ht x b hb) (fun x r hr => hg x r hr) r (by simp only [Option.bind_some, hl]; exact h)
theorem yi_lcR1M {Y : Int → Option β} {j : Int} {l : List Int} {r : List β} (hx : Yi (f env) (.int j)) (hl : lr1 j = some l) (hg : ∀ x r, Y x = some r → Yi (g (env.set i (.int x))) (eb r)) (h : mapO Y l = some r) : Yi (eLcR i [f] tT g env) (eL eb r) :=
  yi_lcR1 (T := fun _ => some true) hx hl (fun _ b h => by cases h; rfl) hg (by rw [filO_yes]; exact h)
theorem yi_lcR1P {Y : Int → β} {j : Int} {l : List Int} (hx : Yi (f env) (.int j)) (hl : lr1 j = some l) (hg : ∀ x, Yi (g (env.set i (.int x))) (eb (Y x))) : Yi (eLcR i [f] tT g env) (eL eb (l.map Y)) :=
  yi_lcR1M (Y := fun x => some (Y x)) hx hl (fun x r h => by cases h; exact hg x) (mapO_some fun _ _ => rfl)
structure Pt (env : List D) (f : List D → M D) (pf : List D → Option (D → D)) (d : D) (R : D → D) : Prop where
  val : Yi (f env) d
  wr : pf env = some R
theorem pt_var (h : env[i]? = some d) : Pt env (eVar i) pVar d fun z => z := ⟨yi_var h, rfl⟩
def ixn (n : Nat) (k : Int) : Nat := (ixN n k).getD 0
theorem pt_ix {pf : List D → Option (D → D)} {R : D → D} {l : List α} {v : α} {k : Int} (h : Pt env f pf (eL e l) R) (hk : Yi (fi env) (.int k)) (hx : ixT l k = some v) : Pt env (eOp dIx f fi) (pIx f fi pf) (e v) fun z => R (.lst ((l.map e).set (ixn l.length k) z)) := by
  refine ⟨yi_op h.val hk (ixT_ok l k v hx), ?_⟩
  obtain ⟨n, h1, h2⟩ := Option.bind_eq_some_iff.mp hx
  unfold pIx
  rw [h.wr, h.val, hk]
  simp only [List.length_map, h1, Option.map_some, ixn, Option.getD_some]
theorem sm_env {T : Option Ω} {g : List D → Option Out} (h : env = env') (k : Sm Ro T (g env')) : Sm Ro T (g env) := h ▸ k
theorem sn_set {T : Option Ω} (d : D) (env' : List D) (h : Yi (f env) d) (he : env.set i d = env') (k : Sm Ro T (rest env')) : Sm Ro T (sSeq (sSet i f) rest env) := fun c hc => by
  obtain ⟨o, h3, h4⟩ := k c hc
  refine ⟨o, ?_, h4⟩
  unfold sSeq sSet
  rw [h]
  show rest (env.set i d) = _
  rw [he]; exact h3
theorem sn_drop {T : Option Ω} (h : Yi (f env) d) (k : Sm Ro T (rest env)) : Sm Ro T (sSeq (sDrop f) rest env) := fun c hc => by
  obtain ⟨o, h3, h4⟩ := k c hc
  refine ⟨o, ?_, h4⟩
  unfold sSeq sDrop
  rw [h]; exact h3
theorem sn_ret {c : Ω} (d : D) (h : Yi (f env) d) (k : Ro c (.rt d env)) : Sm Ro (some c) (sRet f env) := fun c' hc => by
  cases hc
  refine ⟨_, ?_, k⟩
  unfold sRet
  rw [h]; rfl
theorem sn_fall {s : σ} (mk : σ → (Nat → D) → List D) (h : env = mk s fun j => env.getD j .non) : Sm (RoF mk) (some s) (sNext env) := sm_next ⟨_, congrArg _ h⟩
theorem sn_fallC {s : σ} (mk : σ → (Nat → D) → List D) (h : env = mk s fun j => env.getD j .non) : Sm (RoC mk Ro) (some (.inl s)) (sNext env) := sm_next ⟨_, congrArg _ h⟩
theorem rc_in {mk : σ → (Nat → D) → List D} {c : Ω} {o : Out} (h : Ro c o) (hl : isLv o = true) : RoC mk Ro (.inr c) o := ⟨h, hl⟩
theorem rx_in {c : Ω} {o : Out} (h : Ro c o) (hl : isLv o = true) : RoX Ro c o := ⟨h, hl⟩
theorem sn_if {P Q : Option σ} {K : σ → Option Ω} (mk : σ → (Nat → D) → List D) (ht : Te (t env) c) (ha : Sm (RoF mk) P (a env)) (hb : Sm (RoF mk) Q (b env)) (k : ∀ s δ, Sm Ro (K s) (rest (mk s δ))) : Sm Ro ((if c = true then P else Q).bind K) (sSeq (sIf t a b) rest env) :=
  sm_if (C := some c) mk (fun _ h => by cases h; exact ht) ha hb k
theorem sn_ifA {P Q : Option Ω} (ht : Te (t env) c) (ha : Sm (RoX Ro) P (a env)) (hb : Sm Ro Q (sSeq b rest env)) : Sm Ro (if c = true then P else Q) (sSeq (sIf t a b) rest env) :=
  sm_ifA (C := some c) (fun _ h => by cases h; exact ht) ha hb
theorem sn_ifE {P Q : Option Ω} (ht : Te (t env) c) (ha : Sm Ro P (a env)) (hb : Sm Ro Q (b env)) : Sm Ro (if c = true then P else Q) (sIf t a b env) :=
  sm_ifE (C := some c) (fun _ h => by cases h; exact ht) ha hb
theorem sn_skip {T : Option Ω} (k : Sm Ro T (rest env)) : Sm Ro T (sSeq sNext rest env) := k
def SrcE (e : α → D) (l : List α) (i : Nat) (S : (List D → Option Out) → List D → Option Out) (env : List D) : Prop := ∀ b, S b env = forF i b (l.map e) env
theorem sr_list {l : List α} (h : Yi (f env) (eL e l)) : SrcE e l i (sFor i f) env := fun b => src_list (X := some l) (fun a ha => by cases ha; exact h) l rfl b
theorem sr_str {z : Str} (h : Yi (f env) (.str z)) : SrcE chD z.cps.toList i (sForS i f) env := fun b => src_str (X := some z) (fun a ha => by cases ha; exact h) _ rfl b
theorem sr_r1 {j : Int} {l : List Int} (h : Yi (f env) (.int j)) (hl : rg1T j = some l) : SrcE D.int l i (sRng i [f]) env := fun b => src_r1 (X := some j) (fun a ha => by cases ha; exact h) l hl b
theorem sn_for {S : (List D → Option Out) → List D → Option Out} {l : List α} {B : σ → α → Option σ} {s0 : σ} {K : σ → Option Ω} {b : List D → Option Out} (mk : σ → (Nat → D) → List D) (hs : SrcE e l i S env) (h0 : env = mk s0 fun j => env.getD j .non) (hb : ∀ s x δ, Sm (RoF mk) (B s x) (b ((mk s δ).set i (e x)))) (k : ∀ s δ, Sm Ro (K s) (rest (mk s δ))) :
    Sm Ro ((forO B l s0).bind K) (sSeq (S b) rest env) :=
  sm_for (X := some l) mk (fun l' hl b => by cases hl; exact hs b) h0 hb k
theorem sn_forC {S : (List D → Option Out) → List D → Option Out} {l : List α} {B : σ → α → Option (σ ⊕ Ω)} {s0 : σ} {K : σ → Option Ω} {b : List D → Option Out} (mk : σ → (Nat → D) → List D) (hs : SrcE e l i S env) (h0 : env = mk s0 fun j => env.getD j .non) (hb : ∀ s x δ, Sm (RoC mk Ro) (B s x) (b ((mk s δ).set i (e x)))) (k : ∀ s δ, Sm Ro (K s) (rest (mk s δ))) :
    Sm Ro (thenC (forC B l s0) K) (sSeq (S b) rest env) :=
  sm_forC (X := some l) mk (fun l' hl b => by cases hl; exact hs b) h0 hb k
theorem sn_while {B : σ → Option σ} {tt : σ → Option Bool} {s0 : σ} {K : σ → Option Ω} {b : List D → Option Out} (mk : σ → (Nat → D) → List D) (h0 : env = mk s0 fun j => env.getD j .non) (ht : ∀ s δ c, tt s = some c → Te (t (mk s δ)) c) (hb : ∀ s δ, Sm (RoF mk) (B s) (b (mk s δ))) (k : ∀ s δ, Sm Ro (K s) (rest (mk s δ))) :
    Sm Ro ((whO tt B s0).bind K) (sSeq (sWhile t b) rest env) := sm_while mk h0 (fun s δ c h => ht s δ c h) hb k
theorem appT_of {l l' : List α} {v : α} (h : appT l v = some l') : l.length < LIM ∧ l' = l ++ [v] := by
  unfold appT at h
  split at h
  · rename_i hl; cases h; exact ⟨hl, rfl⟩
  · cases h
theorem sn_app {T : Option Ω} {pf : List D → Option (D → D)} {R : D → D} {l l' : List α} {v : α} (env' : List D) (hp : Pt env f pf (eL e l) R) (hg : Yi (g env) (e v)) (h : appT l v = some l') (he : env.set i (R (eL e l')) = env') (k : Sm Ro T (rest env')) : Sm Ro T (sSeq (sAppP i f pf g) rest env) := fun c hc => by
  obtain ⟨hl, rfl⟩ := appT_of h
  obtain ⟨o, h5, h6⟩ := k c hc
  refine ⟨o, ?_, h6⟩
  have : sAppP i f pf g env = some (.nx env') := by
    unfold sAppP
    rw [hp.val]
    simp only [sX_ok]
    rw [hg]
    simp only [sX_ok, hp.wr]
    rw [if_pos (by simpa using hl), ← he]
    simp [eL]
  unfold sSeq
  rw [this]
  exact h5
def sTT (l : List α) (k : Int) (v : α) : Option (List α) := (ixN l.length k).map fun n => l.set n v
theorem sn_set1 {T : Option Ω} {pf : List D → Option (D → D)} {R : D → D} {l l' : List α} {v : α} {k : Int} (env' : List D) (hg : Yi (g env) (e v)) (hp : Pt env f pf (eL e l) R) (hk : Yi (fi env) (.int k)) (h : sTT l k v = some l') (he : env.set i (R (eL e l')) = env') (k' : Sm Ro T (rest env')) : Sm Ro T (sSeq (sSetP i f fi pf g) rest env) := fun c hc => by
  obtain ⟨n, hn, rfl⟩ := Option.map_eq_some_iff.mp h
  obtain ⟨o, h5, h6⟩ := k' c hc
  refine ⟨o, ?_, h6⟩
  have : sSetP i f fi pf g env = some (.nx env') := by
    unfold sSetP
    rw [hg]
    simp only [sX_ok]
    rw [hp.val]
    simp only [sX_ok, eL]
    rw [hk]
    simp only [sX_ok, hp.wr, List.length_map, hn]
    rw [← he]
    simp [eL, List.map_set]
  unfold sSeq
  rw [this]
  exact h5
abbrev Ye (r : RE) (d : D) (env' : List D) : Prop := r = some (.ok d, env')
variable {fe : List D → RE}
theorem sn_setE {T : Option Ω} (env1 env' : List D) (h : Ye (fe env) d env1) (he : env1.set i d = env') (k : Sm Ro T (rest env')) : Sm Ro T (sSeq (sSetE i fe) rest env) := fun c hc => by
  obtain ⟨o, h3, h4⟩ := k c hc
  refine ⟨o, ?_, h4⟩
  unfold sSeq sSetE
  rw [h]
  show rest (env1.set i d) = _
  rw [he]; exact h3
theorem ye_popAt {pf : List D → Option (D → D)} {R : D → D} {l : List α} {k : Int} {p : α × List α} (env' : List D) (hp : Pt env f pf (eL e l) R) (hk : Yi (fi env) (.int k)) (h : popAtT l k = some p) (he : env.set i (R (eL e p.2)) = env') : Ye (ePopAtP i f fi pf env) (e p.1) env' := by
  unfold popAtT at h
  split at h
  · rename_i hb
    obtain ⟨n, h3, h4⟩ := Option.bind_eq_some_iff.mp h
    obtain ⟨x, h5, h6⟩ := Option.bind_eq_some_iff.mp h4
    cases h6
    unfold Ye ePopAtP
    rw [hp.val]
    simp only [eL]
    rw [hk]
    simp only [hb, if_true, hp.wr, List.length_map, h3, List.getElem?_map, h5, Option.map_some]
    rw [← he]
    have : ∀ (l : List α) (n : Nat), (l.map e).eraseIdx n = (l.eraseIdx n).map e := by
      intro l
      induction l with
      | nil => intro n; simp
      | cons x l ih => intro n; cases n with | zero => simp | succ n => simp [ih]
    rw [this]
  · cases h
theorem sn_fld {T : Option Ω} {pf : List D → Option (D → D)} {R : D → D} {cc : String} {nm : Str} {fl : List (Str × D)} (env' : List D) (hg : Yi (g env) x) (hp : Pt env f pf (.ins cc fl) R) (hl : fl.length < 900) (he : env.set i (R (.ins cc (putD nm x fl))) = env') (k : Sm Ro T (rest env')) : Sm Ro T (sSeq (sFldP i cc nm f pf g) rest env) := fun c hc => by
  obtain ⟨o, h3, h4⟩ := k c hc
  refine ⟨o, ?_, h4⟩
  have : sFldP i cc nm f pf g env = some (.nx env') := by
    unfold sFldP
    rw [hg]
    simp only [sX_ok]
    rw [hp.val]
    simp only [sX_ok, hp.wr, hl, and_self, if_true, true_and, he]
  unfold sSeq
  rw [this]
  exact h3
def RoV (er : ρ → D) (P : ρ → List D → Prop) (c : ρ) (o : Out) : Prop := ∃ e, o = .rt (er c) e ∧ P c e
def RoN (er : ρ → D) (P : ρ → List D → Prop) (c : ρ) (o : Out) : Prop := RoV er P c o ∨ (er c = .non ∧ ∃ e, o = .nx e ∧ P c e)
theorem rv {P : ρ → List D → Prop} {c : ρ} {e : List D} (h : P c e) : RoV er P c (.rt (er c) e) := ⟨e, rfl, h⟩
theorem fnV {n : Nat} {rp : Bool} {P : ρ → List D → Prop} {T : Option ρ} {r : ρ} {g : List D → Option Out} (h : Sm (RoV er P) T (g (ds ++ List.replicate (n - ds.length) .non))) (hT : T = some r) : FnP (fnOf g n rp ds) (er r) (P r) := by
  obtain ⟨o, h1, e, h2, h3⟩ := h r hT
  subst h2
  exact ⟨e, fn_rt h1, h3⟩
end
end Mv
namespace Mv
open PySem L2
section
variable {α : Type} {e : α → D}
theorem dLen_L (l : List α) : dLen [eL e l] = some (.int l.length) := by show some (D.int (l.map e).length) = _; rw [List.length_map]
theorem dList_L (h : Im e) (l : List α) : dList [eL e l] = some (eL e l) := by
  show (if immL (l.map e) = true then some (D.lst (l.map e)) else none) = _
  rw [if_pos (im_L h l)]
def lenS (s : Str) : Option Int := if s.length ≤ LIM then some s.length else none
theorem lenS_ok {s : Str} {n : Int} (h : lenS s = some n) : dLen [.str s] = some (.int n) := by
  unfold lenS at h
  split at h
  · rename_i hl; cases h; exact if_pos hl
  · cases h
theorem addT_e {l k r : List α} (hi : Im e) (h : addT l k = some r) : dAdd (eL e l) (eL e k) = some (eL e r) := addT_ok hi l k r h
end
end Mv

namespace Mv
open PySem L2
def Ok {α : Type} (T : Option α) (Q : α → Prop) : Prop := ∃ r, T = some r ∧ Q r
section
variable {α β σ Ω : Type} {X : Option α} {Q Q' : α → Prop} {R : β → Prop} {K : α → Option β}
theorem ok_some {r : α} (h : Q r) : Ok (some r) Q := ⟨r, rfl, h⟩
theorem ok_bind (h : Ok X Q) (k : ∀ x, Q x → Ok (K x) R) : Ok (X.bind K) R := by
  obtain ⟨x, rfl, q⟩ := h
  exact k x q
theorem ok_eq {x : α} (h : X = some x) (k : Ok (K x) R) : Ok (X.bind K) R := by subst h; exact k
theorem ok_mono (h : Ok X Q) (k : ∀ x, Q x → Q' x) : Ok X Q' := by
  obtain ⟨x, h, q⟩ := h
  exact ⟨x, h, k x q⟩
theorem ok_ite {c : Prop} [Decidable c] {A B : Option α} (h : c → Ok A Q) (h' : ¬c → Ok B Q) : Ok (if c then A else B) Q := by
  by_cases q : c
  · rw [if_pos q]; exact h q
  · rw [if_neg q]; exact h' q
theorem ok_forN {B : σ → α → Option σ} (I : Nat → σ → Prop) : ∀ (l : List α) (n : Nat) (s : σ), I n s → (∀ k (h : k < l.length) s, I (n + k) s → Ok (B s l[k]) (I (n + k + 1))) → Ok (forO B l s) (I (n + l.length))
  | [], n, s, h, _ => ok_some h
  | x :: l, n, s, h, hb => by
    refine ok_bind (hb 0 (Nat.zero_lt_succ _) s h) fun t ht => ?_
    have := ok_forN I l (n + 1) t ht fun k hk s hs => by
      have := hb (k + 1) (Nat.succ_lt_succ hk) s (by rw [← Nat.add_assoc, Nat.add_right_comm]; exact hs)
      rw [show n + 1 + k + 1 = n + (k + 1) + 1 by omega]
      exact this
    rw [show n + (x :: l).length = n + 1 + l.length by simp; omega]
    exact this
theorem ok_for {B : σ → α → Option σ} {l : List α} {s : σ} (I : Nat → σ → Prop) (h0 : I 0 s) (hb : ∀ k (h : k < l.length) s, I k s → Ok (B s l[k]) (I (k + 1))) : Ok (forO B l s) (I l.length) := by
  have := ok_forN I l 0 s h0 fun k h s hs => by rw [Nat.zero_add] at hs ⊢; exact hb k h s hs
  rw [Nat.zero_add] at this
  exact this
def orR (I : σ → Prop) (R : Ω → Prop) : σ ⊕ Ω → Prop
  | .inl s => I s
  | .inr c => R c
theorem ok_inl {I : σ → Prop} {R : Ω → Prop} {s : σ} (h : I s) : Ok (some (.inl s)) (orR I R) := ⟨_, rfl, h⟩
theorem ok_inr {I : σ → Prop} {R : Ω → Prop} {s : Ω} (h : R s) : Ok (some (.inr s)) (orR I R) := ⟨_, rfl, h⟩
theorem ok_then {L : Option (σ ⊕ Ω)} {K : σ → Option Ω} {I : σ → Prop} {R : Ω → Prop} (h : Ok L (orR I R)) (k : ∀ s, I s → Ok (K s) R) : Ok (thenC L K) R := by
  obtain ⟨z, rfl, q⟩ := h
  cases z with
  | inl s => exact k s q
  | inr c => exact ⟨c, rfl, q⟩
theorem ok_forCN {B : σ → α → Option (σ ⊕ Ω)} {R : Ω → Prop} (I : Nat → σ → Prop) : ∀ (l : List α) (n : Nat) (s : σ), I n s → (∀ k (h : k < l.length) s, I (n + k) s → Ok (B s l[k]) (orR (I (n + k + 1)) R)) → Ok (forC B l s) (orR (I (n + l.length)) R)
  | [], n, s, h, _ => ok_inl h
  | x :: l, n, s, h, hb => by
    obtain ⟨z, h1, q⟩ := hb 0 (Nat.zero_lt_succ _) s h
    unfold forC
    rw [show (x :: l)[0] = x from rfl] at h1
    rw [h1]
    cases z with
    | inr c => exact ok_inr q
    | inl t =>
      have := ok_forCN I l (n + 1) t q fun k hk s hs => by
        have := hb (k + 1) (Nat.succ_lt_succ hk) s (by rw [← Nat.add_assoc, Nat.add_right_comm]; exact hs)
        rw [show n + 1 + k + 1 = n + (k + 1) + 1 by omega]
        exact this
      rw [show n + (x :: l).length = n + 1 + l.length by simp; omega]
      exact this
theorem ok_forC {B : σ → α → Option (σ ⊕ Ω)} {l : List α} {s : σ} {R : Ω → Prop} (I : Nat → σ → Prop) (h0 : I 0 s) (hb : ∀ k (h : k < l.length) s, I k s → Ok (B s l[k]) (orR (I (k + 1)) R)) : Ok (forC B l s) (orR (I l.length) R) := by
  have := ok_forCN I l 0 s h0 fun k h s hs => by rw [Nat.zero_add] at hs ⊢; exact hb k h s hs
  rw [Nat.zero_add] at this
  exact this
theorem forC_pass {B : Unit → α → Option (Unit ⊕ Ω)} : ∀ {l : List α}, (∀ x ∈ l, B () x = some (.inl ())) → forC B l () = some (.inl ())
  | [], _ => rfl
  | x :: l, h => by
    unfold forC
    rw [h x List.mem_cons_self]
    exact forC_pass fun y hy => h y (List.mem_cons_of_mem _ hy)
theorem thenC_l {L : Option (σ ⊕ Ω)} {K : σ → Option Ω} {s : σ} (h : L = some (.inl s)) : thenC L K = K s := by rw [h]; rfl
@[simp] theorem thenC_inl {K : σ → Option Ω} {s : σ} : thenC (some (.inl s)) K = K s := rfl
@[simp] theorem thenC_inr {K : σ → Option Ω} {c : Ω} : thenC (some (.inr c)) K = some c := rfl
theorem whN_ok {t : σ → Option Bool} {B : σ → Option σ} (I : σ → Prop) (m : σ → Nat) (ht : ∀ s, I s → Ok (t s) fun c => c = true → Ok (B s) fun s' => I s' ∧ m s' < m s) : ∀ (n : Nat) (s : σ), m s < n → I s → Ok (whN t B n s) fun s => I s ∧ t s = some false
  | 0, s, h, _ => absurd h (Nat.not_lt_zero _)
  | n + 1, s, h, hi => by
    obtain ⟨c, h1, h2⟩ := ht s hi
    unfold whN
    rw [h1]
    cases c with
    | false => exact ok_some ⟨hi, h1⟩
    | true =>
      obtain ⟨s', h3, h4, h5⟩ := h2 rfl
      simp only [Option.bind_some, if_true]
      rw [h3]
      exact whN_ok I m ht n s' (by omega) h4
theorem ok_while {t : σ → Option Bool} {B : σ → Option σ} {s : σ} (I : σ → Prop) (m : σ → Nat) (h0 : I s) (ht : ∀ s, I s → Ok (t s) fun c => c = true → Ok (B s) fun s' => I s' ∧ m s' < m s) : Ok (whO t B s) fun s => I s ∧ t s = some false := by
  obtain ⟨r, h1, h2⟩ := whN_ok I m ht (m s + 1) s (Nat.lt_succ_self _) h0
  exact ⟨r, whO_eq h1, h2⟩
end
theorem modT_of {i j : Int} (h : 0 < j) : modT i j = some (i % j) := if_pos h
theorem divT_of {i j : Int} (h : 0 < j ∧ j < 1073741824) : divT i j = some (i / j) := if_pos h
theorem mulT_of {i j : Int} (h : CMul i j) : mulT i j = some (i * j) := if_pos h
theorem appT_of' {α : Type} {l : List α} {x : α} (h : l.length < LIM) : appT l x = some (l ++ [x]) := if_pos h
theorem lcP_of {α β : Type} {y : α → β} {l : List α} (h : l.length ≤ LIM) : lcP y l = some (l.map y) := if_pos h
theorem rg1T_of {j : Int} (h : bnd62 j = true) : rg1T j = some (rgI 0 j.toNat) := if_pos h
theorem lr1_of {j : Int} (h : bndL j = true) : lr1 j = some (rgI 0 j.toNat) := if_pos h
theorem lrgT_of {j : Int} (h : bndL j = true) : lrgT j = some (rgI 0 j.toNat) := if_pos h
theorem ixN_nn {n : Nat} {k : Int} (h0 : 0 ≤ k) (h : k.toNat < n) : ixN n k = some k.toNat := by
  unfold ixN
  rw [if_pos h0, if_pos (by omega)]
theorem ixT_of {α : Type} {l : List α} {k : Int} {x : α} (h0 : 0 ≤ k) (h : l[k.toNat]? = some x) : ixT l k = some x := by
  obtain ⟨h1, h2⟩ := List.getElem?_eq_some_iff.mp h
  unfold ixT
  rw [ixN_nn h0 h1]
  exact h
theorem ixT_lt {α : Type} {l : List α} {k : Int} (h0 : 0 ≤ k) (h : k.toNat < l.length) : ixT l k = some l[k.toNat] := ixT_of h0 (List.getElem?_eq_getElem h)
theorem ixn_of {n : Nat} {k : Int} (h0 : 0 ≤ k) (h : k.toNat < n) : ixn n k = k.toNat := by
  unfold ixn
  rw [ixN_nn h0 h]
  rfl
theorem sTT_of {α : Type} {l : List α} {k : Int} {v : α} (h0 : 0 ≤ k) (h : k.toNat < l.length) : sTT l k v = some (l.set k.toNat v) := by
  unfold sTT
  rw [ixN_nn h0 h]
  rfl
theorem popAtT_of {α : Type} {l : List α} {k : Int} (h0 : 0 ≤ k) (h : k.toNat < l.length) (hb : bnd63 k = true) : popAtT l k = some (l[k.toNat], l.eraseIdx k.toNat) := by
  unfold popAtT
  rw [if_pos hb, ixN_nn h0 h]
  show (l[k.toNat]?).bind _ = _
  rw [List.getElem?_eq_getElem h]
  rfl
theorem cutL_hi {α : Type} {l : List α} {k : Int} (h : 0 ≤ k) : cutL l none (some k) = l.take k.toNat := by
  unfold cutL HT.sIx
  simp only [if_neg (show ¬k < 0 by omega), List.drop_zero, Nat.sub_zero]
  by_cases q : k.toNat ≤ l.length
  · rw [Nat.min_eq_left q]
  · rw [Nat.min_eq_right (by omega), List.take_of_length_le (by omega), List.take_of_length_le (by omega)]
theorem cutL_lo {α : Type} {l : List α} {k : Int} (h : 0 ≤ k) : cutL l (some k) none = l.drop k.toNat := by
  unfold cutL HT.sIx
  simp only [if_neg (show ¬k < 0 by omega)]
  by_cases q : k.toNat ≤ l.length
  · rw [Nat.min_eq_left q, List.take_of_length_le (by simp)]
  · rw [Nat.min_eq_right (by omega), List.drop_of_length_le (by omega), List.drop_of_length_le (by omega), List.take_nil]
theorem cutL_mem {α : Type} {l : List α} {lo hi : Option Int} {x : α} (h : x ∈ cutL l lo hi) : x ∈ l := List.mem_of_mem_drop (List.mem_of_mem_take h)
theorem rgI_eq (lo : Int) (n : Nat) : rgI lo n = (List.range n).map fun k : Nat => lo + (k : Int) := rfl
@[simp] theorem rgI_length (lo : Int) (n : Nat) : (rgI lo n).length = n := rgI_len lo n
theorem rgI_get {lo : Int} {n k : Nat} (h : k < (rgI lo n).length) : (rgI lo n)[k] = lo + k := by
  have : (rgI lo n)[k]? = some (lo + k) := by
    rw [rgI_eq, List.getElem?_map, List.getElem?_range (by simpa using h)]
    rfl
  exact Option.some.inj ((List.getElem?_eq_getElem h).symm.trans this)
theorem rgI_mem {lo x : Int} {n : Nat} (h : x ∈ rgI lo n) : lo ≤ x ∧ x < lo + n := by
  rw [rgI_eq, List.mem_map] at h
  obtain ⟨k, h1, rfl⟩ := h
  have := List.mem_range.mp h1
  omega
end Mv
namespace Mv
open PySem L2
theorem bind_eq {α β : Type} {X : Option α} {K : α → Option β} {x : α} {r : β} (h : X = some x) (k : K x = some r) : X.bind K = some r := by subst h; exact k
theorem if_f {α : Type} {c : Bool} {A B : α} (h : c = false) : (if c = true then A else B) = B := if_neg (by rw [h]; decide)
theorem if_nt {α : Type} {A B : α} : (if (!true) = true then A else B) = B := rfl
end Mv
namespace Mv
end Mv
namespace Mv
end Mv

namespace Mv
open PySem L2
def caseE {α β : Type} (x : Except String α) (a : String → β) (b : α → β) : β := match x with
  | .error c => a c
  | .ok v => b v
@[simp] theorem caseE_ok {α β : Type} {a : String → β} {b : α → β} {v : α} : caseE (.ok v) a b = b v := rfl
@[simp] theorem caseE_er {α β : Type} {a : String → β} {b : α → β} {c : String} : caseE (.error c) a b = a c := rfl
def FnX (o : Option Out) (c : String) (Q : List D → Prop) : Prop := ∃ e, o = some (.ex c e) ∧ Q e
section
variable {α ρ L Ω σ : Type} {Ro : Ω → Out → Prop} {e : α → D} {er : ρ → D} {f g fi : List D → M D} {env env' : List D} {i : Nat} {rest a b : List D → Option Out} {d x : D} {fs : List (List D → M D)} {ds : List D} {c : String} {P : ρ → L → List D → Prop} {Q : L → List D → Prop} {fe : List D → RE}
theorem sm_case {X : Except String α} {A : String → Option Ω} {B : α → Option Ω} {g : Option Out} (ha : ∀ c, X = .error c → Sm Ro (A c) g) (hb : ∀ v, X = .ok v → Sm Ro (B v) g) : Sm Ro (caseE X A B) g := by
  cases X with
  | error c => exact ha c rfl
  | ok v => exact hb v rfl
def RoE (er : ρ → D) (P : ρ → L → List D → Prop) (Q : L → List D → Prop) (r : Except String ρ × L) (o : Out) : Prop := match r.1 with
  | .ok v => ∃ e, (o = .rt (er v) e ∨ (er v = .non ∧ o = .nx e)) ∧ P v r.2 e
  | .error c => ∃ e, o = .ex c e ∧ Q r.2 e
theorem re_ok {v : ρ} {l : L} {e : List D} (h : P v l e) : RoE er P Q (.ok v, l) (.rt (er v) e) := ⟨e, .inl rfl, h⟩
theorem re_end {v : ρ} {l : L} {e : List D} (h0 : er v = .non) (h : P v l e) : RoE er P Q (.ok v, l) (.nx e) := ⟨e, .inr ⟨h0, rfl⟩, h⟩
theorem re_ex {l : L} {e : List D} (h : Q l e) : RoE er P Q (.error c, l) (.ex c e) := ⟨e, rfl, h⟩
theorem fnE {n : Nat} {rp : Bool} {T : Option (Except String ρ × L)} {r : Except String ρ × L} {g : List D → Option Out} (h : Sm (RoE er P Q) T (g (ds ++ List.replicate (n - ds.length) .non))) (hT : T = some r) (hr : rp = true ∨ ∀ v, er v ≠ .non) :
    (∀ v, r.1 = .ok v → FnP (fnOf g n rp ds) (er v) (P v r.2)) ∧ ∀ c, r.1 = .error c → FnX (fnOf g n rp ds) c (Q r.2) := by
  obtain ⟨o, h1, h2⟩ := h r hT
  unfold RoE at h2
  constructor
  · intro v hv
    rw [hv] at h2
    obtain ⟨e, h3 | ⟨h0, h3⟩, h4⟩ := h2
    · subst h3
      exact ⟨e, fn_rt h1, h4⟩
    · subst h3
      rcases hr with rfl | hr
      · rw [h0]
        exact ⟨e, fn_nx h1, h4⟩
      · exact absurd h0 (hr v)
  · intro c hc
    rw [hc] at h2
    obtain ⟨e, h3, h4⟩ := h2
    subst h3
    refine ⟨e, ?_, h4⟩
    unfold fnOf
    rw [h1]
theorem yx_fn {G : List D → Option Out} {Q : List D → Prop} (h : Ya (eArgs fs env) ds) (hg : FnX (G ds) c Q) : eFn G fs env = some (.ex c) := by
  obtain ⟨e, h1, _⟩ := hg
  unfold eFn; rw [h, bd_ok, h1]; rfl
theorem yx_mk {G : List D → Option Out} {Q : List D → Prop} {cc : String} (h : Ya (eArgs fs env) ds) (hg : FnX (G (.ins cc [] :: ds)) c Q) : eMake cc G fs env = some (.ex c) := by
  obtain ⟨e, h1, _⟩ := hg
  unfold eMake; rw [h, bd_ok, h1]; rfl
def okT {ρ L : Type} (r : Except String ρ × L) : Option ρ := caseE r.1 (fun _ => none) some
def okLT {ρ L : Type} (r : Except String ρ × L) : Option (ρ × L) := caseE r.1 (fun _ => none) fun v => some (v, r.2)
theorem sx_set {w : Ω} (h : f env = some (.ex c)) (k : Ro w (.ex c env)) : Sm Ro (some w) (sSeq (sSet i f) rest env) := fun c' hc => by
  cases hc
  exact ⟨_, by unfold sSeq sSet; rw [h]; rfl, k⟩
theorem sx_drop {w : Ω} (h : f env = some (.ex c)) (k : Ro w (.ex c env)) : Sm Ro (some w) (sSeq (sDrop f) rest env) := fun c' hc => by
  cases hc
  exact ⟨_, by unfold sSeq sDrop; rw [h]; rfl, k⟩
theorem sx_ret {w : Ω} (h : f env = some (.ex c)) (k : Ro w (.ex c env)) : Sm Ro (some w) (sRet f env) := fun c' hc => by
  cases hc
  exact ⟨_, by unfold sRet; rw [h]; rfl, k⟩
theorem sx_raise {w : Ω} (k : Ro w (.ex c env)) : Sm Ro (some w) (sRaise c env) := fun c' hc => by
  cases hc
  exact ⟨_, rfl, k⟩
def RoT (mk : σ → (Nat → D) → List D) : σ ⊕ (String × σ) → Out → Prop
  | .inl s, o => ∃ δ, o = .nx (mk s δ)
  | .inr (c, s), o => ∃ δ, o = .ex c (mk s δ)
theorem sn_fallT {s : σ} (mk : σ → (Nat → D) → List D) (h : env = mk s fun j => env.getD j .non) : Sm (RoT mk) (some (.inl s)) (sNext env) := sm_next ⟨_, congrArg _ h⟩
theorem rt_ex {s : σ} (mk : σ → (Nat → D) → List D) (h : env = mk s fun j => env.getD j .non) : RoT mk (.inr (c, s)) (.ex c env) := ⟨_, congrArg _ h⟩
def tryB (LL : List String) (bad : List Bool) (T : Option (σ ⊕ (String × σ))) : Option (σ × List Bool) := T.bind fun z => match z with
  | .inl s => some (s, bad)
  | .inr (c, s) => if c ∈ LL then some (s, bitsOf c) else none
theorem sn_try {LL : List String} {bad : List Bool} {j : Nat} {T : Option (σ ⊕ (String × σ))} {K : σ × List Bool → Option Ω} (mk : σ → (Nat → D) → List D) (hb : Sm (RoT mk) T (a env)) (hj : ∀ s δ, mk s δ = (mk s δ).set j (eL D.bl bad)) (k : ∀ (p : σ × List Bool) δ, Sm Ro (K p) (rest ((mk p.1 δ).set j (eL D.bl p.2)))) : Sm Ro ((tryB LL bad T).bind K) (sSeq (sTryBad j LL a) rest env) := fun w hw => by
  obtain ⟨⟨s, bb⟩, h1, h2⟩ := Option.bind_eq_some_iff.mp hw
  obtain ⟨z, h3, h4⟩ := Option.bind_eq_some_iff.mp h1
  obtain ⟨o, h5, h6⟩ := hb z h3
  cases z with
  | inl s =>
    cases h4
    obtain ⟨δ, rfl⟩ := h6
    obtain ⟨o, h7, h8⟩ := k (s, bad) δ w h2
    refine ⟨o, ?_, h8⟩
    unfold sSeq sTryBad
    rw [h5]
    show rest (mk s δ) = _
    rw [hj]
    exact h7
  | inr cs =>
    obtain ⟨c, s⟩ := cs
    simp only at h4
    split at h4
    · rename_i hc
      cases h4
      obtain ⟨δ, rfl⟩ := h6
      obtain ⟨o, h7, h8⟩ := k (s, bitsOf c) δ w h2
      refine ⟨o, ?_, h8⟩
      unfold sSeq sTryBad
      rw [h5]
      show (match (if c ∈ LL then some (Out.nx ((mk s δ).set j (.lst ((bitsOf c).map D.bl)))) else none) with
        | some (.nx e) => rest e
        | o => o) = _
      rw [if_pos hc]
      exact h7
    · cases h4
end
end Mv

namespace Mv
open PySem L2
abbrev kI (i : Int) : Key := .inl i
abbrev kS (i : Str) : Key := .inr i
abbrev kII (p : Int × Int) : List Key := [.inl p.1, .inl p.2]
abbrev eK {α : Type} (e : α → D) (l : List (Int × α)) : D := .dct (l.map fun p => (kI p.1, e p.2))
abbrev eKS {α : Type} (e : α → D) (l : List (Str × α)) : D := .dct (l.map fun p => (kS p.1, e p.2))
abbrev eKT {α : Type} (e : α → D) (l : List ((Int × Int) × α)) : D := .dctT (l.map fun p => (kII p.1, e p.2))
section
variable {α κ κ' : Type} [DecidableEq κ] [DecidableEq κ'] {e : α → D} {f : κ → κ'}
end
section
variable {α κ : Type} [DecidableEq κ] {e : α → D}
def putT (l : List (κ × α)) (k : κ) (v : α) : Option (List (κ × α)) := if l.length < LIM then some (putG l k v) else none
structure Dk (eD : List (κ × α) → D) (ek : κ → D) (e : α → D) : Prop where
  get : ∀ l k, dGet (eD l) (ek k) = some ((valG l k).map e)
  isd : ∀ l, isDct (eD l) = true
  put : ∀ l k v l', putT l k v = some l' → dPut (eD l) (ek k) (e v) = some (eD l')
end
section
variable {α : Type} {e : α → D}
end
section
variable {α κ Ω : Type} [DecidableEq κ] {e : α → D} {eD : List (κ × α) → D} {ek : κ → D} {Ro : Ω → Out → Prop} {l l' : List (κ × α)} {k : κ} {v : α} {f g fk fv : List D → M D} {env : List D} {i : Nat} {rest : List D → Option Out}
end
end Mv
namespace Mv
open PySem L2
abbrev eH2 {α β : Type} (a : α → D) (b : β → D) (p : α × β) : D := .lst [a p.1, b p.2]
end Mv
namespace Mv
section
variable {α κ : Type} [DecidableEq κ]
end
end Mv
namespace Mv
open PySem L2
abbrev eH3 {α β γ : Type} (a : α → D) (b : β → D) (c : γ → D) (p : α × β × γ) : D := .lst [a p.1, b p.2.1, c p.2.2]
end Mv
namespace Mv
open PySem L2
end Mv
namespace Mv
open PySem L2
def idxT (l : List Int) (x : Int) : Option Int := (idxI l x).map fun n : Nat => (n : Int)
end Mv

namespace Mv
open PySem L2
theorem toInts_e : ∀ l : List Int, toInts (l.map D.int) = some l
  | [] => rfl
  | i :: r => by
    show (toInts (r.map D.int)).map (i :: ·) = _
    rw [toInts_e r]
    rfl
def inO (x : Option Int) (l : List Int) : Bool := match x with
  | none => false
  | some i => decide (i ∈ l)
def lenSetT (l : List Int) : Option Int := if l.length < 4000 then some ((ddp l).length : Int) else none
theorem dLenSet_ok (l : List Int) {r : Int} (h : lenSetT l = some r) : dLenSet (eL D.int l) = some (.int r) := by
  show (toInts (l.map D.int)).bind _ = _
  rw [toInts_e]
  unfold lenSetT at h
  show (if l.length < 4000 then some (D.int (ddp l).length) else none) = _
  split at h
  · rename_i c
    cases h
    rw [if_pos c]
  · cases h
theorem ddp_sd (ns : List Int) : ddp ns = ns.foldl PyProof.Rows.step_dedup [] := by
  unfold ddp PyProof.Rows.firstMet
  congr 1
  refine List.ext_getElem? fun i => ?_
  by_cases h : i < ns.length
  · simp [h, List.getD]
  · rw [List.getElem?_eq_none (by simpa using h), List.getElem?_eq_none (by omega)]
theorem sd_len : ∀ (ns acc : List Int), acc.Nodup → (ns.foldl PyProof.Rows.step_dedup acc).length ≤ acc.length + ns.length ∧ ((ns.foldl PyProof.Rows.step_dedup acc).length = acc.length + ns.length ↔ (acc ++ ns).Nodup)
  | [], acc, h => by simp [h]
  | x :: r, acc, h => by
    rw [List.foldl_cons]
    unfold PyProof.Rows.step_dedup
    by_cases c : acc.any (· == x) = true
    · rw [if_pos c]
      have ih := (sd_len r acc h).1
      have hx : x ∈ acc := by
        obtain ⟨y, hy, e⟩ := List.any_eq_true.mp c
        rw [← beq_iff_eq.mp e]; exact hy
      have hl : (x :: r).length = r.length + 1 := rfl
      unfold PyProof.Rows.step_dedup at ih
      refine ⟨by omega, ⟨fun e => by omega, fun n => ?_⟩⟩
      have := (List.nodup_append.mp n).2.2 x hx x (by simp)
      exact absurd rfl this
    · rw [if_neg c]
      have hx : x ∉ acc := fun m => c (List.any_eq_true.mpr ⟨x, m, beq_self_eq_true x⟩)
      have h2 : (acc ++ [x]).Nodup := List.nodup_append.mpr ⟨h, by simp, fun a ha b hb e => by
        rw [List.mem_singleton] at hb; subst hb; subst e; exact hx ha⟩
      have ih := sd_len r (acc ++ [x]) h2
      unfold PyProof.Rows.step_dedup at ih
      have hl : (acc ++ [x]).length = acc.length + 1 := by simp
      have hl2 : (x :: r).length = r.length + 1 := rfl
      have e2 : acc ++ [x] ++ r = acc ++ (x :: r) := by simp
      rw [hl, e2] at ih
      refine ⟨by omega, ?_⟩
      rw [← ih.2]
      omega
theorem lenSetT_of {l : List Int} (h : l.length < 4000) : lenSetT l = some ((ddp l).length : Int) := if_pos h
theorem ddp_nodup (l : List Int) : (ddp l).length = l.length ↔ l.Nodup := by
  have := (sd_len l [] .nil).2
  rw [ddp_sd]
  simpa using this
theorem forC_all {α Ω : Type} {B : Unit → α → Option (Unit ⊕ Ω)} {p : α → Bool} {w : Ω} : ∀ {l : List α}, (∀ x ∈ l, B () x = some (if p x = true then .inl () else .inr w)) → forC B l () = some (if l.all p = true then .inl () else .inr w)
  | [], _ => rfl
  | x :: l, h => by
    unfold forC
    rw [h x List.mem_cons_self, List.all_cons]
    cases hp : p x with
    | false => rfl
    | true => exact forC_all fun y hy => h y (List.mem_cons_of_mem _ hy)
def fmtI (i : Int) : Option Str := if i.natAbs.log2 < 1920 then some (toString i) else none
def fmtS (y : Str) : Option Str := if y.length ≤ LIM then some y else none
theorem fmtI_ok {i : Int} {r : Str} (h : fmtI i = some r) : dFmt (.int i) = some (.str r) := by
  unfold fmtI at h
  show (if i.natAbs.log2 < 1920 then some (D.str (toString i)) else none) = _
  split at h
  · rename_i c; cases h; rw [if_pos c]
  · cases h
theorem strI_ok {i : Int} {r : Str} (h : fmtI i = some r) : dStr [.int i] = some (.str r) := by
  unfold fmtI at h
  show (if i.natAbs.log2 < 1920 then some (D.str (toString i)) else none) = _
  split at h
  · rename_i c; cases h; rw [if_pos c]
  · cases h
def jsG : List Str → Str → Option Str
  | [], acc => some acc
  | y :: r, acc => if (acc ++ y).length ≤ LIM then jsG r (acc ++ y) else none
def jsT (l : List Str) : Option Str := jsG l Str.empty
theorem js_ok {env : List D} : ∀ {fs : List (List D → M D)} {ps : List Str} {acc r : Str}, Ya (eArgs fs env) (ps.map D.str) → jsG ps acc = some r → Yi (eJs fs acc env) (.str r)
  | [], [], _, _, _, h => by cases h; rfl
  | [], y :: ps, _, _, h, _ => by cases h
  | f :: fs, ps, acc, r, h, h2 => by
    unfold Ya eArgs at h
    cases e : f env with
    | none => rw [e] at h; cases h
    | some q =>
      rw [e] at h
      cases q with
      | ex c => cases h
      | ok d =>
        rw [bd_ok] at h
        cases e2 : eArgs fs env with
        | none => rw [e2] at h; cases h
        | some q2 =>
          rw [e2] at h
          cases q2 with
          | ex c => cases h
          | ok ds =>
            rw [bd_ok] at h
            cases ps with
            | nil => cases h
            | cons y ps =>
              cases h
              unfold Yi eJs
              rw [e, bd_ok]
              unfold jsG at h2
              split at h2
              · rename_i c
                show (if (acc ++ y).length ≤ LIM then eJs fs (acc ++ y) env else none) = _
                rw [if_pos c]
                exact js_ok e2 h2
              · cases h2
theorem yi_js {env : List D} {fs : List (List D → M D)} {ps : List Str} {r : Str} (h : Ya (eArgs fs env) (ps.map D.str)) (h2 : jsT ps = some r) : Yi (eJs fs Str.empty env) (.str r) := js_ok h h2
end Mv

namespace Mv
open PySem L2
section
variable {α σ Ω : Type} {Ro : Ω → Out → Prop} {T : Option (Bool × σ)} {mk : σ → List D} {o : RB} {t : List D → M Bool} {env env1 : List D} {fe fa : List D → RE} {ft fb ga gb : List D → RB} {b ba : Bool} {s : σ} {g : List D → M D} {rest a1 b1 : List D → Option Out}
def TeE (T : Option (Bool × σ)) (mk : σ → List D) (o : RB) : Prop := ∀ p, T = some p → o = some (.ok p.1, mk p.2)
end
def tryO {σ : Type} (x : String) (T : Option (σ ⊕ (String × σ))) (S : σ → Option σ) : Option σ := T.bind fun z => match z with
  | .inl s => some s
  | .inr (c, s) => if c = x then S s else none
abbrev e1 {α : Type} (f : α → D) (x : α) : D := .tup [f x]
def lrg2T (l j : Int) : Option (List Int) := if bnd62 l = true ∧ bnd62 j = true ∧ (j - l).toNat ≤ LIM then some (rgI l (j - l).toNat) else none
def toBoolD : D → Option Bool
  | .bl b => some b
  | _ => none
def toStrD : D → Option Str
  | .str b => some b
  | _ => none
def tupD : D → Option (List D)
  | .tup ds => if immL ds = true then some ds else none
  | _ => none
def immT (l : List D) : Option (List D) := if immL l = true then some l else none
def addD (a b : List D) : Option (List D) := if a.length + b.length ≤ LIM ∧ immL a = true ∧ immL b = true then some (a ++ b) else none
def cutD' (a : List D) (lo hi : Option Int) : Option (List D) := if immL a = true then some (cutL a lo hi) else none
def immD (x : D) : Option D := if imm x = true then some x else none
section
variable {Ω : Type} {Ro : Ω → Out → Prop} {f g : List D → M D} {env : List D} {c : String} {x : D} {fs : List (List D → M D)} {ds : List D} {a b rest : List D → Option Out} {t u : List D → M Bool}
end
def toI2D : D → Option (Int × Int)
  | .tup [.int a, .int b] => some (a, b)
  | _ => none
def toI3D : D → Option (Int × Int × Int)
  | .tup [.int a, .int b, .int c] => some (a, b, c)
  | _ => none
def toI4D : D → Option (Int × Int × Int × Int)
  | .tup [.int a, .int b, .int c, .int d] => some (a, b, c, d)
  | _ => none
end Mv

namespace Mv
open PySem L2
def maxT (l : List Int) : Option Int := if 0 < l.length then some (maxI l) else none
section
variable {α : Type} [DecidableEq α] {e : α → D}
theorem any_eqv {n : Nat} (h : Eqb e n) (x : α) (l : List α) : ((toPyL (l.map e)).any fun z => PyData.eqv z (toPy (e x))) = decide (x ∈ l) := by
  induction l with
  | nil => simp [toPyL]
  | cons y l ih =>
    show (PyData.eqv (toPy (e y)) (toPy (e x)) || _) = _
    rw [ih, h.eqv]
    by_cases q : y = x
    · subst q; simp
    · have q2 : ¬x = y := fun z => q z.symm
      simp [q, q2]
def inG (x : α) (l : List α) : Bool := decide (x ∈ l)
theorem inG_t {x : α} {l : List α} (h : x ∈ l) : inG x l = true := decide_eq_true h
theorem inG_f {x : α} {l : List α} (h : x ∉ l) : inG x l = false := decide_eq_false h
theorem dInD_ok {n : Nat} (h : Eqb e n) (hn : n + 1 ≤ 64 := by decide) (x : α) (l : List α) : dInD (e x) (eL e l) = some (.bl (inG x l)) := by
  show (if SeqAt.shaped (toPy (e x)) = true ∧ SeqAt.shaped (toPy (.lst (l.map e))) = true then some (D.bl ((toPyL (l.map e)).any fun z => PyData.eqv z (toPy (e x)))) else none) = _
  rw [if_pos ⟨h.sh (by omega) x, (eqb_L h).sh hn l⟩, any_eqv h]
  rfl
def idxG (l : List α) (x : α) : Option Int := (l.findIdx? fun y => decide (y = x)).map fun n : Nat => (n : Int)
end
def rgR (hi : Int) : Nat → List Int
  | 0 => []
  | n + 1 => hi :: rgR (hi - 1) n
def rgRT (l j : Int) : Option (List Int) := if bnd62 l = true ∧ bnd62 j = true then some (rgR (j - 1) (j - l).toNat) else none
end Mv

namespace Mv
open PySem L2
section
variable {Ω : Type} {Ro : Ω → Out → Prop} {fe : List D → RE} {env env1 : List D} {d d0 : D} {j : Nat} {c : Ω}
end
end Mv

namespace Mv
open PySem L2
end Mv

namespace Mv
open PySem L2
def appAllT (l : List (List Int)) (c : Int) : Option (List (List Int)) := if ∀ x ∈ l, x.length < LIM then some (l.map (· ++ [c])) else none
end Mv
namespace Mv
open PySem L2
end Mv

namespace Mv
open PySem L2
abbrev SO := {s : Str // PyData.strOk s = true}
def inST (x : Str) (l : List Str) : Option Bool := if PyData.strOk x = true ∧ ∀ y ∈ l, PyData.strOk y = true then some (decide (x ∈ l)) else none
section
variable {ρ L : Type} {er : ρ → D} {P : ρ → L → List D → Prop} {Q : L → List D → Prop} {ds : List D} {c : String}
def RoE2 (er : ρ → D) (P : ρ → L → List D → Prop) (Q : L → List D → Prop) (r : Except String ρ × L) (o : Out) : Prop := match r.1 with
  | .ok v => ∃ e, o = .rt (er v) e ∧ P v r.2 e
  | .error c => ∃ e, o = .ex c e ∧ Q r.2 e
end
end Mv

namespace Mv
open PySem L2 PySem.W
noncomputable def srtT (l : List D) : Option (List D) := if srtOk l = true then some (l.mergeSort (dataLe false toPy)) else none
end Mv

namespace Mv
open PySem L2
section
variable {Ω : Type} {Ro : Ω → Out → Prop} {T : Option Ω} {env env' : List D} {i j : Nat} {fe : List D → RE} {ft : List D → RB} {gb rest : List D → Option Out}
end
end Mv

namespace Mv
open PySem L2
section
variable {env : List D} {f g : List D → M D}
theorem yi_spl {a b : Str} {l : List Str} (ha : Yi (f env) (.str a)) (hb : Yi (g env) (.str b)) (h : splT a b = some l) : Yi (eSpl f g env) (eL D.str l) := by
  unfold Yi eSpl
  rw [ha, bd_ok]
  dsimp only
  rw [hb, bd_ok]
  dsimp only
  rw [h]
  rfl
theorem dIntS_ok {a : Str} {n : Int} (h : intS a = some n) : dIntS [.str a] = some (.int n) := by
  show (intS a).map D.int = _
  rw [h]
  rfl
def joinT (a : Str) (ys : List Str) : Option Str := if (ys.map (·.length)).sum + ys.length * a.length ≤ 16777216 then some (Txt.join a ys) else none
theorem yi_join {a r : Str} {ys : List Str} (ha : Yi (f env) (.str a)) (hb : Yi (g env) (eL D.str ys)) (h : joinT a ys = some r) : Yi (eJoin f g env) (.str r) := by
  unfold Yi eJoin
  rw [ha, bd_ok]
  dsimp only
  rw [hb, bd_ok]
  show lift (dJn a (ys.map D.str)) = _
  unfold dJn
  rw [strL_map]
  unfold joinT at h
  split at h
  · rename_i c
    cases h
    show lift (if _ then some (D.str (Txt.join a ys)) else none) = _
    rw [if_pos c]
    rfl
  · cases h
end
end Mv

namespace Mv
open PySem L2
section
variable {env : List D} {f g h : List D → M D} {i : Nat}
def rg3T (l j c : Int) : Option (List Int) := (rgN l j c).map fun n => (List.range n).map fun k : Nat => l + (k : Int) * c
end
end Mv

namespace Mv
open PySem L2
section
variable {α β ρ L Ω : Type} {Ro : Ω → Out → Prop} {ea : α → D} {eb : β → D} {er : ρ → D} {env env1 env2 : List D} {f g : List D → M D} {t : List D → M Bool} {fe fa ge : List D → RE} {i : Nat} {d x y z : D} {c : String}
def ixS (z : Str) (i : Int) : Option Str := if z.length ≤ LIM then (atI z.cps.toList i).map fun c => (⟨#[c]⟩ : Str) else none
theorem ixS_ok {z y : Str} {i : Int} (h : ixS z i = some y) : dIx (.str z) (.int i) = some (.str y) := by
  unfold ixS at h
  split at h
  · rename_i hl
    obtain ⟨c, h1, rfl⟩ := Option.map_eq_some_iff.mp h
    show (if z.length ≤ LIM then (atI z.cps.toList i).map fun c => D.str ⟨#[c]⟩ else none) = _
    rw [if_pos hl, h1]
    rfl
  · cases h
def slS (z : Str) (l h : Option Int) : Option Str := if z.length ≤ LIM then some (cutS z l h) else none
theorem yi_slS {a y : Str} {lo hi : Option (List D → M D)} {l h : Option Int} (hx : Yi (f env) (.str a)) (hl : eOpt lo env = some (.ok l)) (hh : eOpt hi env = some (.ok h)) (e : slS a l h = some y) : Yi (eSlS f lo hi env) (.str y) := by
  unfold slS at e
  split at e
  · rename_i q
    cases e
    unfold Yi eSlS
    rw [hx, bd_ok, hl, bd_ok, hh, bd_ok]
    show (if a.length ≤ LIM then some (R.ok (D.str (cutS a l h))) else none) = _
    rw [if_pos q]
  · cases e
def mulS (a : Str) (n : Int) : Option Str := if 1 < n ∧ n ≤ 1000 ∧ a.length * n.toNat ≤ LIM then some (Txt.mul a n) else none
def chS (z : Str) : List Str := z.cps.toList.map fun c => (⟨#[c]⟩ : Str)
def jsE2 (z y : Str) : Option Str := if (Str.empty ++ z).length ≤ LIM ∧ ((Str.empty ++ z) ++ y).length ≤ LIM then some ((Str.empty ++ z) ++ y) else none
def tryM (l : List (String × Str)) (T : Option (Except String Str × L)) : Option (Str × L) := T.bind fun r => caseE r.1 (fun c => (lkS l c).map fun z => (z, r.2)) fun v => some (v, r.2)
end
end Mv

namespace Mv
open PySem L2
section
variable {α β σ : Type} {ea : α → D} {eb : β → D} {fe ge : List D → RE} {env : List D} {i : Nat}
def lcME (B : α → σ → Option (β × σ)) : List α → σ → Option (List β × σ)
  | [], s => some ([], s)
  | x :: l, s => (B x s).bind fun p => (lcME B l p.2).bind fun q => some (p.1 :: q.1, q.2)
def lcMET (B : α → σ → Option (β × σ)) (l : List α) (s : σ) : Option (List β × σ) := if l.length ≤ LIM then lcME B l s else none
def lastD (ea : α → D) (z0 : D) : List α → D
  | [] => z0
  | x :: l => lastD ea (ea x) l
end
def slqT (a b : List Str) : Option Bool := if a.all PyData.strOk = true ∧ b.all PyData.strOk = true then some (decide (a = b)) else none
def slnT (a b : List Str) : Option Bool := if a.all PyData.strOk = true ∧ b.all PyData.strOk = true then some (!decide (a = b)) else none
section
variable {Ω : Type} {Ro : Ω → Out → Prop} {env : List D} {f g : List D → M D} {pf : List D → Option (D → D)} {rest : List D → Option Out} {fe : List D → RE} {i : Nat} {cc : String} {nm : Str} {c : String}
end
end Mv

namespace Mv
open PySem L2
section
variable {Ω : Type} {Ro : Ω → Out → Prop} {env env1 env2 : List D} {f g : List D → M D} {fe fa ge : List D → RE} {i : Nat} {rest : List D → Option Out} {x y z d : D}
def replT (a y : Str) (i : Int) : Option Str := if i.natAbs.log2 < 1920 ∧ (y == (toString i : Str)) = false ∧ a.length + (a.length + 1) * ((toString i : Str)).length ≤ LIM then some (Txt.replace a y (toString i)) else none
def mrgT (l ps : List (Str × Int)) : Option (List (Str × Int)) := if l.length + ps.length ≤ LIM then some (ps.foldl (fun acc p => putG acc p.1 p.2) l) else none
end
end Mv

namespace Mv
open PySem L2
def lcX {α β : Type} (B : α → Option (Except String β × Unit)) : List α → Option (Except String (List β) × Unit)
  | [] => some (.ok [], ())
  | x :: l => (B x).bind fun r => match r.1 with
    | .error c => some (.error c, ())
    | .ok v => (lcX B l).bind fun q => match q.1 with
      | .error c => some (.error c, ())
      | .ok vs => some (.ok (v :: vs), ())
def lcXT {α β : Type} (B : α → Option (Except String β × Unit)) (l : List α) : Option (Except String (List β) × Unit) := if l.length ≤ LIM then lcX B l else none
theorem lcX_run {α β : Type} {ea : α → D} {eb : β → D} {i : Nat} {g : List D → M D} {env : List D} {B : α → Option (Except String β × Unit)} (hb : ∀ x r, B x = some r → (∀ v, r.1 = .ok v → Yi (g (env.set i (ea x))) (eb v)) ∧ ∀ c, r.1 = .error c → g (env.set i (ea x)) = some (.ex c)) :
    ∀ (l : List α) (r : Except String (List β) × Unit), lcX B l = some r → (∀ v, r.1 = .ok v → lcFX i g (l.map ea) env = some (.ok (v.map eb))) ∧ ∀ c, r.1 = .error c → lcFX i g (l.map ea) env = some (.ex c)
  | [], r, h => by
    cases h
    exact ⟨fun v e => by cases e; rfl, fun c e => nomatch e⟩
  | x :: l, r, h => by
    obtain ⟨⟨r1, ⟨⟩⟩, h1, h2⟩ := Option.bind_eq_some_iff.mp h
    obtain ⟨b1, b2⟩ := hb x _ h1
    show (∀ v, r.1 = .ok v → (bd (g (env.set i (ea x))) fun y => bd (lcFX i g (l.map ea) env) fun r => some (.ok (y :: r))) = _) ∧ ∀ c, r.1 = .error c → (bd (g (env.set i (ea x))) fun y => bd (lcFX i g (l.map ea) env) fun r => some (.ok (y :: r))) = _
    cases r1 with
    | error c =>
      cases h2
      rw [b2 c rfl]
      exact ⟨fun v e => (nomatch e), fun c e => by cases e; rfl⟩
    | ok v =>
      have b1 : g (env.set i (ea x)) = some (.ok (eb v)) := b1 v rfl
      rw [b1]
      obtain ⟨⟨r2, ⟨⟩⟩, h3, h4⟩ := Option.bind_eq_some_iff.mp h2
      obtain ⟨c1, c2⟩ := lcX_run hb l _ h3
      cases r2 with
      | error c =>
        cases h4
        rw [c2 c rfl]
        exact ⟨fun v e => (nomatch e), fun c e => by cases e; rfl⟩
      | ok vs =>
        cases h4
        rw [c1 vs rfl]
        exact ⟨fun v e => by cases e; rfl, fun c e => nomatch e⟩
section
variable {α β : Type} {ea : α → D} {eb : β → D} {i : Nat} {f g : List D → M D} {env : List D} {B : α → Option (Except String β × Unit)} {l : List α} {r : Except String (List β) × Unit}
theorem yi_lcX {v : List β} (hx : Yi (f env) (eL ea l)) (hb : ∀ x r, B x = some r → (∀ v, r.1 = .ok v → Yi (g (env.set i (ea x))) (eb v)) ∧ ∀ c, r.1 = .error c → g (env.set i (ea x)) = some (.ex c)) (h : lcXT B l = some r) (hv : r.1 = .ok v) : Yi (eLcX i f g env) (eL eb v) := by
  unfold lcXT at h
  split at h
  · rename_i hl
    have hx : f env = some (.ok (eL ea l)) := hx
    show eLcX i f g env = _
    unfold eLcX
    rw [hx, bd_ok]
    show (if (l.map ea).length ≤ LIM then bd (lcFX i g (l.map ea) env) fun r => some (R.ok (D.lst r)) else none) = _
    rw [if_pos (by rw [List.length_map]; exact hl), (lcX_run hb l r h).1 v hv]
    rfl
  · cases h
theorem yx_lcX {c : String} (hx : Yi (f env) (eL ea l)) (hb : ∀ x r, B x = some r → (∀ v, r.1 = .ok v → Yi (g (env.set i (ea x))) (eb v)) ∧ ∀ c, r.1 = .error c → g (env.set i (ea x)) = some (.ex c)) (h : lcXT B l = some r) (hc : r.1 = .error c) : eLcX i f g env = some (.ex c) := by
  unfold lcXT at h
  split at h
  · rename_i hl
    have hx : f env = some (.ok (eL ea l)) := hx
    unfold eLcX
    rw [hx, bd_ok]
    show (if (l.map ea).length ≤ LIM then bd (lcFX i g (l.map ea) env) fun r => some (R.ok (D.lst r)) else none) = _
    rw [if_pos (by rw [List.length_map]; exact hl), (lcX_run hb l r h).2 c hc]
    rfl
  · cases h
end
section
variable {Ω : Type} {Ro : Ω → Out → Prop} {env : List D} {f g : List D → M D} {pf : List D → Option (D → D)} {rest : List D → Option Out} {i : Nat} {c : String}
theorem sx_app {α : Type} {e : α → D} {l : List α} {R : D → D} {w : Ω} (hp : Pt env f pf (eL e l) R) (h : g env = some (.ex c)) (k : Ro w (.ex c env)) : Sm Ro (some w) (sSeq (sAppP i f pf g) rest env) := fun c' hc => by
  cases hc
  refine ⟨_, ?_, k⟩
  have : sAppP i f pf g env = some (.ex c env) := by
    unfold sAppP
    rw [hp.val]
    show (sX (g env) env _) = _
    rw [h]
    rfl
  unfold sSeq
  rw [this]
end
end Mv

namespace Lw
open PySem PySem.Spec PyProof.Rows L2 Mv

def top (i : Nat) : Stmt := PySem.Challenge.pw_chalkcave_k20_texts_that_write_no_chart.main.body.getD i (.Pass ⟨0, 0, 0, 0⟩)
def inClass (st : Stmt) (j : Nat) : Stmt := match st with
  | .ClassDef (body := b) .. => b.getD j (.Pass ⟨0, 0, 0, 0⟩)
  | _ => .Pass ⟨0, 0, 0, 0⟩
abbrev sT_law_numbers : Stmt := top 27
abbrev sT_law_table : Stmt := top 28
abbrev sT_law_written : Stmt := top 30
abbrev sT_law_sign : Stmt := top 35
abbrev sT_law_odd : Stmt := top 36
abbrev sT_law_spoilt : Stmt := top 37
abbrev sT_law_number : Stmt := top 32
abbrev sT_law_line : Stmt := top 33
abbrev sT_law_read : Stmt := top 34
abbrev sT_count_of : Stmt := top 23
abbrev sT_entry_of : Stmt := top 24
abbrev sT_rows_fit : Stmt := top 17
abbrev sT_seen_back : Stmt := top 18
abbrev sT_Chart_init : Stmt := inClass (top 19) 0
abbrev sT_Chart_size : Stmt := inClass (top 19) 1
abbrev sT_Chart_table : Stmt := inClass (top 19) 4
abbrev sT_written : Stmt := top 22
abbrev sT_read_chart : Stmt := top 25
abbrev sT_law_due : Stmt := top 31
abbrev sT_law_same_table : Stmt := top 29
abbrev sT_law : Stmt := top 38
def dN : List He.DefD := [⟨("_law_numbers", none), "_law_numbers", "_law_numbers", defArgs sT_law_numbers, defBody sT_law_numbers, defScope sT_law_numbers, [], []⟩,
  ⟨("_law_table", none), "_law_table", "_law_table", defArgs sT_law_table, defBody sT_law_table, defScope sT_law_table, [], []⟩,
  ⟨("_law_written", none), "_law_written", "_law_written", defArgs sT_law_written, defBody sT_law_written, defScope sT_law_written, [], []⟩,
  ⟨("_law_sign", none), "_law_sign", "_law_sign", defArgs sT_law_sign, defBody sT_law_sign, defScope sT_law_sign, [], []⟩,
  ⟨("_law_odd", none), "_law_odd", "_law_odd", defArgs sT_law_odd, defBody sT_law_odd, defScope sT_law_odd, [], []⟩,
  ⟨("_law_spoilt", none), "_law_spoilt", "_law_spoilt", defArgs sT_law_spoilt, defBody sT_law_spoilt, defScope sT_law_spoilt, [], []⟩,
  ⟨("_law_number", none), "_law_number", "_law_number", defArgs sT_law_number, defBody sT_law_number, defScope sT_law_number, [], []⟩,
  ⟨("_law_line", none), "_law_line", "_law_line", defArgs sT_law_line, defBody sT_law_line, defScope sT_law_line, [], []⟩,
  ⟨("_law_read", none), "_law_read", "_law_read", defArgs sT_law_read, defBody sT_law_read, defScope sT_law_read, [], []⟩,
  ⟨("count_of", none), "count_of", "count_of", defArgs sT_count_of, defBody sT_count_of, defScope sT_count_of, [], []⟩,
  ⟨("entry_of", none), "entry_of", "entry_of", defArgs sT_entry_of, defBody sT_entry_of, defScope sT_entry_of, [], []⟩,
  ⟨("rows_fit", none), "rows_fit", "rows_fit", defArgs sT_rows_fit, defBody sT_rows_fit, defScope sT_rows_fit, [], []⟩,
  ⟨("seen_back", none), "seen_back", "seen_back", defArgs sT_seen_back, defBody sT_seen_back, defScope sT_seen_back, [], []⟩,
  ⟨("Chart", some "__init__"), "__init__", "Chart.__init__", defArgs sT_Chart_init, defBody sT_Chart_init, defScope sT_Chart_init, [], []⟩,
  ⟨("Chart", some "size"), "size", "Chart.size", defArgs sT_Chart_size, defBody sT_Chart_size, defScope sT_Chart_size, [], []⟩,
  ⟨("Chart", some "table"), "table", "Chart.table", defArgs sT_Chart_table, defBody sT_Chart_table, defScope sT_Chart_table, [], []⟩,
  ⟨("written", none), "written", "written", defArgs sT_written, defBody sT_written, defScope sT_written, [], []⟩,
  ⟨("read_chart", none), "read_chart", "read_chart", defArgs sT_read_chart, defBody sT_read_chart, defScope sT_read_chart, [], []⟩,
  ⟨("_law_due", none), "_law_due", "_law_due", defArgs sT_law_due, defBody sT_law_due, defScope sT_law_due, [], []⟩,
  ⟨("_law_same_table", none), "_law_same_table", "_law_same_table", defArgs sT_law_same_table, defBody sT_law_same_table, defScope sT_law_same_table, [], []⟩,
  ⟨("law", none), "law", "law", defArgs sT_law, defBody sT_law, defScope sT_law, [], []⟩]
def fA : List He.Fa := [.glo "_law_numbers", .glo "_law_table", .glo "_law_written", .glo "_law_sign", .glo "_law_odd", .glo "_law_spoilt", .glo "_law_number", .glo "_law_line", .glo "_law_read", .glo "count_of", .glo "entry_of", .glo "rows_fit", .glo "seen_back", .mkr "Chart", .meth "Chart" "size", .meth "Chart" "table", .glo "written", .glo "read_chart", .glo "_law_due", .glo "_law_same_table", .glo "law", .free "range", .free "len", .free "list", .free "str", .free "int", .free "set", .free "isinstance", .free "bool", .free "ValueError", .str "FIGURES" ("0123456789" : Str), .int "MOST_KINDS" 5, .int "MOST_CHAMBERS" 700, .glo "NoChart", .exc "NoChart", .glo "NoMark", .glo "NoWay", .glo "NoKind", .glo "NoChart", .glo "NoChamber", .glo "NoHold", .glo "NoEntry", .glo "Full", .glo "Barred", .glo "NoHome", .glo "NoCave", .glo "CaveError", .cls "Chart", .noat "Chart" "kinds", .noat "Chart" "outs", .noat "Chart" "ins", .glo "Chart"]
abbrev Rw : PySem.W.OpenRow := PySem.W.OpenLaw.row PySem.Challenge.rw_chalkcave_k20_texts_that_write_no_chart
def exq (K : PySem.W.Frag) : Bool := ((["NoChart"] : List String).all fun x => exOk ⟨fun x => He.ga K (x : Str), K⟩ x)
abbrev hk : PySem.W.Hook := hookQ 4 fA dN exq
def ob (s : PySem.W.SharedT) : He.AlD × Bool := obsQ 4 fA dN exq (HandSHeadRun.getT s)
theorem ob_eq (s : PySem.W.SharedT) : ob s = hk.obs s.abs := obsQ_eq (HandSHeadRun.getT_eq s)
def loose : List Str := [("_wall" : Str), ("CaveError" : Str), ("NoKind" : Str), ("NoWay" : Str), ("NoMark" : Str), ("NoEntry" : Str), ("NoHold" : Str), ("NoChamber" : Str), ("NoChart" : Str), ("NoCave" : Str), ("NoHome" : Str), ("Barred" : Str), ("Full" : Str), ("MOST_KINDS" : Str), ("MOST_CHAMBERS" : Str), ("rows_fit" : Str), ("seen_back" : Str), ("Chart" : Str), ("FIGURES" : Str), ("written" : Str), ("count_of" : Str), ("entry_of" : Str), ("read_chart" : Str), ("_law_numbers" : Str), ("_law_table" : Str), ("_law_same_table" : Str), ("_law_written" : Str), ("_law_due" : Str), ("_law_number" : Str), ("_law_line" : Str), ("_law_read" : Str), ("_law_sign" : Str), ("_law_odd" : Str), ("_law_spoilt" : Str)]
theorem run (w : World) : HandSHeadRun.RunEq Rw (PySem.W.view Rw.prog [38]) hk ob 8000 loose w := by
  intro os
  kernel_rfl
end Lw

namespace Lw
open PySem L2 Mv

noncomputable def g_law_numbers_b1 : List D → Option Out := (sIf (eT (eOp dGt (eVar 5) (eC (.int 0)))) (sSeq (sAppP 2 (eVar 2) pVar (eOp dMod (eVar 5) (eC (.int 1000)))) (sSet 5 (eOp dDiv (eVar 5) (eC (.int 1000))))) sNext)
noncomputable def g_law_numbers_b2 : List D → Option Out := (sSeq (sSet 3 (eOp dMod (eOp dAdd (eOp dAdd (eOp dMul (eVar 3) (eC (.int 48271))) (eOp dMod (eVar 4) (eC (.int 1000003)))) (eC (.int 11))) (eC (.int 2147483647)))) (sSeq (sSet 5 (eOp dSub (eVar 4) (eOp dPow (eC (.int 10)) (eC (.int 18))))) (sSeq (sIf (eT (eOp dLt (eVar 5) (eC (.int 0)))) (sAppP 2 (eVar 2) pVar (eOp dMod (eVar 4) (eC (.int 1000)))) sNext) (sRng 6 [(eC (.int 60))] g_law_numbers_b1))))
noncomputable def g_law_numbers_b3 : List D → Option Out := (sSeq (sSet 3 (eOp dMod (eOp dAdd (eOp dAdd (eOp dAdd (eOp dMul (eVar 3) (eVar 3)) (eOp dMul (eC (.int 69621)) (eVar 3))) (eOp dMul (eC (.int 7)) (eCall dLen [(eVar 2)]))) (eC (.int 5))) (eC (.int 2147483629)))) (sAppP 2 (eVar 2) pVar (eOp dMod (eOp dDiv (eVar 3) (eC (.int 1009))) (eC (.int 1000)))))
noncomputable def g_law_numbers_r1 : List D → Option Out := (sRet (eSl (eVar 2) none (some (eVar 1))))
noncomputable def g_law_numbers_r2 : List D → Option Out := (sSeq (sWhile (eT (eOp dLt (eCall dLen [(eVar 2)]) (eVar 1))) g_law_numbers_b3) g_law_numbers_r1)
noncomputable def g_law_numbers_r3 : List D → Option Out := (sSeq (sFor 4 (eSl (eVar 0) none (some (eC (.int 63)))) g_law_numbers_b2) g_law_numbers_r2)
noncomputable def g_law_numbers_r4 : List D → Option Out := (sSeq (sSet 3 (eC (.int 17))) g_law_numbers_r3)
noncomputable def g_law_numbers : List D → Option Out := (sSeq (sSet 2 (eLst [])) g_law_numbers_r4)
noncomputable def G_law_numbers : List D → Option Out := fnOf g_law_numbers 7 false
noncomputable def t_law_numbers (cl : Nv) : TS := (tSeq (tAsg (tLst tNil) (gName 2)) (tSeq (tAsg (tC (.int 17)) (gName 3)) (tSeq (tFor (iList cl.K (tSl (rSlL cl.K) (tVar 0) tNoPart (tPart (tC (.int 63))))) (gName 4) (tSeq (tAsg (tOp (rI (fun _ j => 0 < j) fun i j => .int (i % j)) (tOp (rAddA cl.K) (tOp (rAddA cl.K) (tOp rMulA (tVar 3) (tC (.int 48271))) (tOp (rI (fun _ j => 0 < j) fun i j => .int (i % j)) (tVar 4) (tC (.int 1000003)))) (tC (.int 11))) (tC (.int 2147483647))) (gName 3)) (tSeq (tAsg (tOp (rI0 fun i j => .int (i - j)) (tVar 4) (tOp (rI CPow fun i j => .int (i ^ j.toNat)) (tC (.int 10)) (tC (.int 18)))) (gName 5)) (tSeq (tIfS (tTest (tOp (rI0 fun i j => .bl (decide (i < j))) (tVar 5) (tC (.int 0)))) (tDrop (tBM cl.K "list" rAppend (tVar 2) (tCons (tOp (rI (fun _ j => 0 < j) fun i j => .int (i % j)) (tVar 4) (tC (.int 1000))) tNil))) tNext) (tFor (iRng1 (tCons (tC (.int 60)) tNil)) (gName 6) (tIfS (tTest (tOp (rI0 fun i j => .bl (decide (j < i))) (tVar 5) (tC (.int 0)))) (tSeq (tDrop (tBM cl.K "list" rAppend (tVar 2) (tCons (tOp (rI (fun _ j => 0 < j) fun i j => .int (i % j)) (tVar 5) (tC (.int 1000))) tNil))) (tAsg (tOp (rI CDiv fun i j => .int (i / j)) (tVar 5) (tC (.int 1000))) (gName 5))) tNext)))))) (tSeq (tWhile (tTest (tOp (rI0 fun i j => .bl (decide (i < j))) (tCB (rLenA cl.K) (tCons (tVar 2) tNil)) (tVar 1))) (tSeq (tAsg (tOp (rI (fun _ j => 0 < j) fun i j => .int (i % j)) (tOp (rAddA cl.K) (tOp (rAddA cl.K) (tOp (rAddA cl.K) (tOp rMulA (tVar 3) (tVar 3)) (tOp rMulA (tC (.int 69621)) (tVar 3))) (tOp rMulA (tC (.int 7)) (tCB (rLenA cl.K) (tCons (tVar 2) tNil)))) (tC (.int 5))) (tC (.int 2147483629))) (gName 3)) (tDrop (tBM cl.K "list" rAppend (tVar 2) (tCons (tOp (rI (fun _ j => 0 < j) fun i j => .int (i % j)) (tOp (rI CDiv fun i j => .int (i / j)) (tVar 3) (tC (.int 1009))) (tC (.int 1000))) tNil))))) (tRet (tSl (rSlL cl.K) (tVar 2) tNoPart (tPart (tVar 1))))))))
theorem ss_law_numbers (cl : Nv) (W : WX) : SS cl W [.sc, .pn, .un, .un, .un, .un, .un] (mdOf [.sc, .pn] 7 (.fr (.ls .fz))) (t_law_numbers cl) g_law_numbers := (ss_seq [.sc, .pn, (.ow (.ls .fz)), .un, .un, .un, .un] (ss_setO (se_nilT (s := .fz)) (by decide) (by decide)) (ss_seq [.sc, .pn, (.ow (.ls .fz)), .pu, .un, .un, .un] (ss_set rfl se_int (by decide) (by decide)) (ss_seq [.sc, .pn, (.ow (.ls .fz)), .pu, .un, .un, .un] (ss_for [.sc, .pn, (.ow (.ls .fz)), .pu, .un, .un, .un] rfl (se_slSc (by rfl) (seo_some se_int)) (by decide) (by decide) (by decide) (ss_seq [.sc, .pn, (.ow (.ls .fz)), .pu, .pu, .un, .un] (ss_set rfl (se_op ops_Ic (se_op ops_add (se_op ops_add (se_op ops_mul (se_var_pu (by rfl)) se_int) (se_op ops_Ic (se_var_pu (by rfl)) se_int)) se_int) se_int) (by decide) (by decide)) (ss_seq [.sc, .pn, (.ow (.ls .fz)), .pu, .pu, .pu, .un] (ss_set rfl (se_op ops_I0 (se_var_pu (by rfl)) (se_op ops_Ic se_int se_int)) (by decide) (by decide)) (ss_seq [.sc, .pn, (.ow (.ls .fz)), .pu, .pu, .pu, .un] (ss_if (set_T (se_op ops_B0 (se_var_pu (by rfl)) se_int)) (ss_appP (sp_var (s := (.ls .fz)) (by rfl)) rfl (se_op ops_Ic (se_var_pu (by rfl)) se_int) (by decide) (by decide)) (ss_next (by decide)) (by decide)) (ss_rng1 [.sc, .pn, (.ow (.ls .fz)), .pu, .pu, .pu, .un] (sea_cons se_int sea_nil) (by decide) (by decide) (by decide) (ss_if (set_T (se_op ops_B0 (se_var_pu (by rfl)) se_int)) (ss_seq [.sc, .pn, (.ow (.ls .fz)), .pu, .pu, .pu, .pu] (ss_appP (sp_var (s := (.ls .fz)) (by rfl)) rfl (se_op ops_Ic (se_var_pu (by rfl)) se_int) (by decide) (by decide)) (ss_set rfl (se_op ops_Ic (se_var_pu (by rfl)) se_int) (by decide) (by decide))) (ss_next (by decide)) (by decide))))))) (ss_seq [.sc, .pn, (.ow (.ls .fz)), .pu, .un, .un, .un] (ss_while [.sc, .pn, (.ow (.ls .fz)), .pu, .un, .un, .un] (set_T (se_op ops_B0 (se_call0 ca_len (sea_cons (se_var (m := (.ow (.ls .fz))) (by rfl) rfl) sea_nil)) (se_var_pn (by rfl)))) (by decide) (by decide) (by decide) (ss_seq [.sc, .pn, (.ow (.ls .fz)), .pu, .un, .un, .un] (ss_set rfl (se_op ops_Ic (se_op ops_add (se_op ops_add (se_op ops_add (se_op ops_mul (se_var_pu (by rfl)) (se_var_pu (by rfl))) (se_op ops_mul se_int (se_var_pu (by rfl)))) (se_op ops_mul se_int (se_call0 ca_len (sea_cons (se_var (m := (.ow (.ls .fz))) (by rfl) rfl) sea_nil)))) se_int) se_int) (by decide) (by decide)) (ss_appP (sp_var (s := (.ls .fz)) (by rfl)) rfl (se_op ops_Ic (se_op ops_Ic (se_var_pu (by rfl)) se_int) se_int) (by decide) (by decide)))) (ss_retF (se_sl (se_var (m := (.ow (.ls .fz))) (by rfl) rfl) seo_none (seo_some (se_var_pn (by rfl)))) (by decide) (by decide))))))
abbrev N_law_numbers : List Str := [("_law_script" : Str), ("_law_many" : Str), ("_law_row" : Str), ("_law_seed" : Str), ("_law_cell" : Str), ("_law_rest" : Str), ("_law_k" : Str)]
abbrev P_law_numbers : List Str := [("_law_script" : Str), ("_law_many" : Str)]

noncomputable def g_law_table_b1 : List D → Option Out := (sSeq (sSet 8 (eImm (eOp dIx (eVar 2) (eOp dAdd (eOp dMul (eVar 6) (eVar 1)) (eVar 5))))) (sSeq (sSetE 9 (ePopAtP 7 (eVar 7) (eOp dMod (eVar 8) (eCall dLen [(eVar 7)])) pVar)) (sSeq (sIf (eT (eOp dLt (eOp dMod (eOp dDiv (eVar 8) (eC (.int 100))) (eC (.int 10))) (eVar 3))) (sSet 9 (eC .non)) sNext) (sAppP 4 (eOp dIx (eVar 4) (eVar 5)) (pIx (eVar 4) (eVar 5) pVar) (eVar 9)))))
noncomputable def g_law_table_b2 : List D → Option Out := (sSeq (sSet 7 (eUn dListR (eVar 1))) (sRng 5 [(eVar 1)] g_law_table_b1))
noncomputable def g_law_table_r1 : List D → Option Out := (sRet (eVar 4))
noncomputable def g_law_table_r2 : List D → Option Out := (sSeq (sRng 6 [(eVar 0)] g_law_table_b2) g_law_table_r1)
noncomputable def g_law_table : List D → Option Out := (sSeq (sSet 4 (eLcR 5 [(eVar 1)] tT (eLst []))) g_law_table_r2)
noncomputable def G_law_table : List D → Option Out := fnOf g_law_table 10 false
noncomputable def t_law_table (cl : Nv) : TS := (tSeq (tAsg (tLc (iRng1 (tCons (tVar 1) tNil)) (gName 5) tYes (tLst tNil) [5]) (gName 4)) (tSeq (tFor (iRng1 (tCons (tVar 0) tNil)) (gName 6) (tSeq (tAsg (tLstRg (tRg1 (tVar 1))) (gName 7)) (tFor (iRng1 (tCons (tVar 1) tNil)) (gName 5) (tSeq (tAsg (tOp (rIx cl.K) (tVar 2) (tOp (rAddA cl.K) (tOp rMulA (tVar 6) (tVar 1)) (tVar 5))) (gName 8)) (tSeq (tAsg (tBM cl.K "list" rPopAt (tVar 7) (tCons (tOp (rI (fun _ j => 0 < j) fun i j => .int (i % j)) (tVar 8) (tCB (rLenA cl.K) (tCons (tVar 7) tNil))) tNil)) (gName 9)) (tSeq (tIfS (tTest (tOp (rI0 fun i j => .bl (decide (i < j))) (tOp (rI (fun _ j => 0 < j) fun i j => .int (i % j)) (tOp (rI CDiv fun i j => .int (i / j)) (tVar 8) (tC (.int 100))) (tC (.int 10))) (tVar 3))) (tAsg (tC .non) (gName 9)) tNext) (tDrop (tBM cl.K "list" rAppend (tOp (rIx cl.K) (tVar 4) (tVar 5)) (tCons (tVar 9) tNil))))))))) (tRet (tVar 4))))
theorem ss_law_table (cl : Nv) (W : WX) : SS cl W [.pn, .pn, .pn, .pn, .un, .un, .un, .un, .un, .un] (mdOf [.pn, .pn, .pn, .pn] 10 (.fr (.ls (.ls .fz)))) (t_law_table cl) g_law_table := (ss_seq [.pn, .pn, .pn, .pn, (.ow (.ls (.ls .fz))), .un, .un, .un, .un, .un] (ss_setO (se_lcR1 (s := (.ls .fz)) (sea_cons (se_var_pn (by rfl)) sea_nil) set_yes (se_nilT (s := .fz)) rfl) (by decide) (by decide)) (ss_seq [.pn, .pn, .pn, .pn, (.ow (.ls (.ls .fz))), .un, .un, .un, .un, .un] (ss_rng1 [.pn, .pn, .pn, .pn, (.ow (.ls (.ls .fz))), .un, .un, .un, .un, .un] (sea_cons (se_var_pn (by rfl)) sea_nil) (by decide) (by decide) (by decide) (ss_seq [.pn, .pn, .pn, .pn, (.ow (.ls (.ls .fz))), .un, .pu, (.ow (.ls .fz)), .un, .un] (ss_setO (se_listR (se_var_pn (by rfl))) (by decide) (by decide)) (ss_rng1 [.pn, .pn, .pn, .pn, (.ow (.ls (.ls .fz))), .un, .pu, (.ow (.ls .fz)), .un, .un] (sea_cons (se_var_pn (by rfl)) sea_nil) (by decide) (by decide) (by decide) (ss_seq [.pn, .pn, .pn, .pn, (.ow (.ls (.ls .fz))), .pu, .pu, (.ow (.ls .fz)), .pu, .un] (ss_set rfl (se_imm (se_ix (se_var_pn (by rfl)) (se_op ops_add (se_op ops_mul (se_var_pu (by rfl)) (se_var_pn (by rfl))) (se_var_pu (by rfl))))) (by decide) (by decide)) (ss_seq [.pn, .pn, .pn, .pn, (.ow (.ls (.ls .fz))), .pu, .pu, (.ow (.ls .fz)), .pu, .pu] (ss_setE (see_popAtP (sp_var (s := (.ls .fz)) (by rfl)) (se_op ops_Ic (se_var_pu (by rfl)) (se_call0 ca_len (sea_cons (se_var (m := (.ow (.ls .fz))) (by rfl) rfl) sea_nil))) (by decide)) (by decide)) (ss_seq [.pn, .pn, .pn, .pn, (.ow (.ls (.ls .fz))), .pu, .pu, (.ow (.ls .fz)), .pu, .pu] (ss_if (set_T (se_op ops_B0 (se_op ops_Ic (se_op ops_Ic (se_var_pu (by rfl)) se_int) se_int) (se_var_pn (by rfl)))) (ss_set rfl se_non (by decide) (by decide)) (ss_next (by decide)) (by decide)) (ss_appP (sp_ix (s := (.ls .fz)) (sp_var (s := (.ls (.ls .fz))) (by rfl)) (se_var_pu (by rfl))) rfl (se_var_pu (by rfl)) (by decide) (by decide)))))))) (ss_retO (k := (.ls (.ls .fz))) (by rfl) (by decide))))
abbrev N_law_table : List Str := [("_law_kinds" : Str), ("_law_size" : Str), ("_law_draws" : Str), ("_law_share" : Str), ("_law_table_here" : Str), ("_law_c" : Str), ("_law_k" : Str), ("_law_left" : Str), ("_law_d" : Str), ("_law_end" : Str)]
abbrev P_law_table : List Str := [("_law_kinds" : Str), ("_law_size" : Str), ("_law_draws" : Str), ("_law_share" : Str)]

noncomputable def g_law_written_b1 : List D → Option Out := (sAppP 2 (eVar 2) pVar (eJoin (eC (.str (" " : Str))) (eLc 4 (eVar 3) tT (eIf (eT (eOp dIsN (eVar 4) (eC .non))) (eC (.str ("-" : Str))) (eCall dStr [(eVar 4)])))))
noncomputable def g_law_written_r1 : List D → Option Out := (sRet (eJoin (eC (.str ("\n" : Str))) (eVar 2)))
noncomputable def g_law_written_r2 : List D → Option Out := (sSeq (sFor 3 (eVar 1) g_law_written_b1) g_law_written_r1)
noncomputable def g_law_written : List D → Option Out := (sSeq (sSet 2 (eLst [(eOp dAdd (eOp dAdd (eOp dAdd (eC (.str ("chart " : Str))) (eCall dStr [(eVar 0)])) (eC (.str (" " : Str)))) (eCall dStr [(eCall dLen [(eVar 1)])]))])) g_law_written_r2)
noncomputable def G_law_written : List D → Option Out := fnOf g_law_written 5 true
noncomputable def t_law_written (cl : Nv) : TS := (tSeq (tAsg (tLst (tCons (tOp (rAddA cl.K) (tOp (rAddA cl.K) (tOp (rAddA cl.K) (tC (.str ("chart " : Str))) (tCB rStrI (tCons (tVar 0) tNil))) (tC (.str (" " : Str)))) (tCB rStrI (tCons (tCB (rLenA cl.K) (tCons (tVar 1) tNil)) tNil))) tNil)) (gName 2)) (tSeq (tFor (iList cl.K (tVar 1)) (gName 3) (tDrop (tBM cl.K "list" rAppend (tVar 2) (tCons (tM1 (rJn cl.K) (tC (.str (" " : Str))) (tLc (iList cl.K (tVar 3)) (gName 4) tYes (tIf (tTest (tOp Mv.rIsN (tVar 4) (tC .non))) (tC (.str ("-" : Str))) (tCB rStrI (tCons (tVar 4) tNil))) [4])) tNil)))) (tRet (tM1 (rJn cl.K) (tC (.str ("\n" : Str))) (tVar 2)))))
theorem ss_law_written (cl : Nv) (W : WX) : SS cl W [.pn, .pn, .un, .un, .un] (mdOf [.pn, .pn] 5 .pu) (t_law_written cl) g_law_written := (ss_seq [.pn, .pn, (.ow (.ls .fz)), .un, .un] (ss_setO (se_lst rfl (sea_cons (se_op ops_add (se_op ops_add (se_op ops_add se_str (se_call0 ca_str (sea_cons (se_var_pn (by rfl)) sea_nil))) se_str) (se_call0 ca_str (sea_cons (se_call0 ca_len (sea_cons (se_var_pn (by rfl)) sea_nil)) sea_nil))) sea_nil)) (by decide) (by decide)) (ss_seq [.pn, .pn, (.ow (.ls .fz)), .un, .un] (ss_forLo [.pn, .pn, (.ow (.ls .fz)), .un, .un] rfl (se_var_pn (by rfl)) (by decide) (by decide) (by decide) (ss_appP (sp_var (s := (.ls .fz)) (by rfl)) rfl (se_join se_str (se_lcLo (s := .fz) rfl (se_var_lo (by rfl)) set_yes (se_if (set_T (se_op ops_isN (se_var_lo (by rfl)) se_non)) se_str (se_call0 ca_str (sea_cons (se_var_lo (by rfl)) sea_nil))) rfl)) (by decide) (by decide))) (ss_ret rfl (se_join se_str (se_var (m := (.ow (.ls .fz))) (by rfl) rfl)) (by decide) (by decide))))
abbrev N_law_written : List Str := [("_law_kinds" : Str), ("_law_table_here" : Str), ("_law_lines" : Str), ("_law_outs" : Str), ("_law_end" : Str)]
abbrev P_law_written : List Str := [("_law_kinds" : Str), ("_law_table_here" : Str)]

noncomputable def g_law_sign_r1 : List D → Option Out := (sRet (eOp dIx (eVar 1) (eOp dMod (eVar 0) (eC (.int 95)))))
noncomputable def g_law_sign_r2 : List D → Option Out := (sSeq (sSet 1 (eOp dAdd (eVar 1) (eC (.str ("abcdefghijklmnopqrstuvwxyz{|}~\n" : Str))))) g_law_sign_r1)
noncomputable def g_law_sign : List D → Option Out := (sSeq (sSet 1 (eC (.str (" !\"#$&'()*+,-./0123456789:;<=>?@ABCDEFGHIJKLMNOPQRSTUVWXYZ[\\]^_`" : Str)))) g_law_sign_r2)
noncomputable def G_law_sign : List D → Option Out := fnOf g_law_sign 2 true
noncomputable def t_law_sign (cl : Nv) : TS := (tSeq (tAsg (tC (.str (" !\"#$&'()*+,-./0123456789:;<=>?@ABCDEFGHIJKLMNOPQRSTUVWXYZ[\\]^_`" : Str))) (gName 1)) (tSeq (tAsg (tOp (rAddA cl.K) (tVar 1) (tC (.str ("abcdefghijklmnopqrstuvwxyz{|}~\n" : Str)))) (gName 1)) (tRet (tOp (rIx cl.K) (tVar 1) (tOp (rI (fun _ j => 0 < j) fun i j => .int (i % j)) (tVar 0) (tC (.int 95)))))))
theorem ss_law_sign (cl : Nv) (W : WX) : SS cl W [.pn, .un] (mdOf [.pn] 2 .pu) (t_law_sign cl) g_law_sign := (ss_seq [.pn, .pu] (ss_set rfl se_str (by decide) (by decide)) (ss_seq [.pn, .pu] (ss_set rfl (se_op ops_add (se_var_pu (by rfl)) se_str) (by decide) (by decide)) (ss_ret rfl (se_ix (se_var_pu (by rfl)) (se_op ops_Ic (se_var_pn (by rfl)) se_int)) (by decide) (by decide))))
abbrev N_law_sign : List Str := [("_law_d" : Str), ("_law_some" : Str)]
abbrev P_law_sign : List Str := [("_law_d" : Str)]

noncomputable def g_law_odd_r1 : List D → Option Out := (sRet (eOp dIx (eOp dAdd (eVar 1) (eLst [(eC (.str ("chart 6 1\n- - - - - -" : Str))), (eC (.str ("chart 7 1\n- - - - - - 0" : Str)))])) (eOp dMod (eVar 0) (eC (.int 16)))))
noncomputable def g_law_odd_r2 : List D → Option Out := (sSeq (sSet 1 (eOp dAdd (eVar 1) (eLst [(eC (.str ("Chart 1 1\n-" : Str))), (eC (.str ("chart 1 1\n1" : Str))), (eC (.str ("chart 1 1\n00" : Str))), (eC (.str ("chart 01 1\n0" : Str))), (eC (.str ("chart 1 1 \n0" : Str))), (eC (.str ("chart 1 1\n0" : Str)))]))) g_law_odd_r1)
noncomputable def g_law_odd : List D → Option Out := (sSeq (sSet 1 (eLst [(eC (.str ("" : Str))), (eC (.str ("chart" : Str))), (eC (.str ("chart 1 1" : Str))), (eC (.str ("chart 1 0" : Str))), (eC (.str ("chart 0 1\n" : Str))), (eC (.str ("chart 1 0\n" : Str))), (eC (.str ("chart 1 1\n" : Str))), (eC (.str ("chart 1 1\n-\n" : Str)))])) g_law_odd_r2)
noncomputable def G_law_odd : List D → Option Out := fnOf g_law_odd 2 true
noncomputable def t_law_odd (cl : Nv) : TS := (tSeq (tAsg (tLst (tCons (tC (.str ("" : Str))) (tCons (tC (.str ("chart" : Str))) (tCons (tC (.str ("chart 1 1" : Str))) (tCons (tC (.str ("chart 1 0" : Str))) (tCons (tC (.str ("chart 0 1\n" : Str))) (tCons (tC (.str ("chart 1 0\n" : Str))) (tCons (tC (.str ("chart 1 1\n" : Str))) (tCons (tC (.str ("chart 1 1\n-\n" : Str))) tNil))))))))) (gName 1)) (tSeq (tAsg (tOp (rAddA cl.K) (tVar 1) (tLst (tCons (tC (.str ("Chart 1 1\n-" : Str))) (tCons (tC (.str ("chart 1 1\n1" : Str))) (tCons (tC (.str ("chart 1 1\n00" : Str))) (tCons (tC (.str ("chart 01 1\n0" : Str))) (tCons (tC (.str ("chart 1 1 \n0" : Str))) (tCons (tC (.str ("chart 1 1\n0" : Str))) tNil)))))))) (gName 1)) (tRet (tOp (rIx cl.K) (tOp (rAddA cl.K) (tVar 1) (tLst (tCons (tC (.str ("chart 6 1\n- - - - - -" : Str))) (tCons (tC (.str ("chart 7 1\n- - - - - - 0" : Str))) tNil)))) (tOp (rI (fun _ j => 0 < j) fun i j => .int (i % j)) (tVar 0) (tC (.int 16)))))))
theorem ss_law_odd (cl : Nv) (W : WX) : SS cl W [.pn, .un] (mdOf [.pn] 2 .pu) (t_law_odd cl) g_law_odd := (ss_seq [.pn, .pu] (ss_set rfl (se_lst rfl (sea_cons se_str (sea_cons se_str (sea_cons se_str (sea_cons se_str (sea_cons se_str (sea_cons se_str (sea_cons se_str (sea_cons se_str sea_nil))))))))) (by decide) (by decide)) (ss_seq [.pn, .pu] (ss_set rfl (se_op ops_add (se_var_pu (by rfl)) (se_lst rfl (sea_cons se_str (sea_cons se_str (sea_cons se_str (sea_cons se_str (sea_cons se_str (sea_cons se_str sea_nil)))))))) (by decide) (by decide)) (ss_ret rfl (se_ix (se_op ops_add (se_var_pu (by rfl)) (se_lst rfl (sea_cons se_str (sea_cons se_str sea_nil)))) (se_op ops_Ic (se_var_pn (by rfl)) se_int)) (by decide) (by decide))))
abbrev N_law_odd : List Str := [("_law_d" : Str), ("_law_some" : Str)]
abbrev P_law_odd : List Str := [("_law_d" : Str)]

noncomputable def g_law_spoilt_r1 : List D → Option Out := (sRet (eImm (eVar 0)))
noncomputable def g_law_spoilt_r2 : List D → Option Out := (sSeq (sIf (eT (eOp dEq (eVar 7) (eC (.int 7)))) (sRet (eFnN G_law_odd [(eOp dIx (eVar 1) (eC (.int 2)))])) sNext) g_law_spoilt_r1)
noncomputable def g_law_spoilt_r3 : List D → Option Out := (sSeq (sIf (eT (eOp dEq (eVar 7) (eC (.int 6)))) (sRet (eOp dAdd (eVar 0) (eOp dIx (eLst [(eC (.str ("\n" : Str))), (eC (.str (" " : Str))), (eC (.str ("\n-" : Str))), (eC (.str ("0" : Str)))]) (eOp dMod (eOp dIx (eVar 1) (eC (.int 2))) (eC (.int 4)))))) sNext) g_law_spoilt_r2)
noncomputable def g_law_spoilt_r4 : List D → Option Out := (sSeq (sIf (eT (eOp dEq (eVar 7) (eC (.int 5)))) (sRet (eJoin (eC (.str ("\n" : Str))) (eOp dAdd (eSl (eVar 4) none (some (eVar 5))) (eSl (eVar 4) (some (eOp dAdd (eVar 5) (eC (.int 1)))) none)))) sNext) g_law_spoilt_r3)
noncomputable def g_law_spoilt_r5 : List D → Option Out := (sSeq (sIf (eT (eOp dEq (eVar 7) (eC (.int 4)))) (sRet (eJoin (eC (.str ("\n" : Str))) (eOp dAdd (eOp dAdd (eSl (eVar 4) none (some (eVar 5))) (eLst [(eOp dIx (eVar 4) (eVar 6))])) (eSl (eVar 4) (some (eOp dAdd (eVar 5) (eC (.int 1)))) none)))) sNext) g_law_spoilt_r4)
noncomputable def g_law_spoilt_r6 : List D → Option Out := (sSeq (sIf (eT (eOp dEq (eVar 7) (eC (.int 3)))) (sRet (eOp dAdd (eOp dAdd (eSlS (eVar 0) none (some (eVar 2))) (eVar 3)) (eSlS (eVar 0) (some (eOp dAdd (eVar 2) (eC (.int 1)))) none))) sNext) g_law_spoilt_r5)
noncomputable def g_law_spoilt_r7 : List D → Option Out := (sSeq (sIf (eT (eOp dEq (eVar 7) (eC (.int 2)))) (sRet (eOp dAdd (eSlS (eVar 0) none (some (eVar 2))) (eSlS (eVar 0) (some (eOp dAdd (eVar 2) (eC (.int 1)))) none))) sNext) g_law_spoilt_r6)
noncomputable def g_law_spoilt_r8 : List D → Option Out := (sSeq (sIf (eT (eOp dEq (eVar 7) (eC (.int 1)))) (sRet (eOp dAdd (eOp dAdd (eSlS (eVar 0) none (some (eVar 2))) (eVar 3)) (eSlS (eVar 0) (some (eVar 2)) none))) sNext) g_law_spoilt_r7)
noncomputable def g_law_spoilt_r9 : List D → Option Out := (sSeq (sSet 7 (eOp dMod (eOp dIx (eVar 1) (eC (.int 0))) (eC (.int 8)))) g_law_spoilt_r8)
noncomputable def g_law_spoilt_r10 : List D → Option Out := (sSeq (sSet 6 (eOp dMod (eOp dIx (eVar 1) (eC (.int 3))) (eCall dLen [(eVar 4)]))) g_law_spoilt_r9)
noncomputable def g_law_spoilt_r11 : List D → Option Out := (sSeq (sSet 5 (eOp dMod (eOp dIx (eVar 1) (eC (.int 1))) (eCall dLen [(eVar 4)]))) g_law_spoilt_r10)
noncomputable def g_law_spoilt_r12 : List D → Option Out := (sSeq (sSet 4 (eSpl (eVar 0) (eC (.str ("\n" : Str))))) g_law_spoilt_r11)
noncomputable def g_law_spoilt_r13 : List D → Option Out := (sSeq (sSet 3 (eFnN G_law_sign [(eOp dIx (eVar 1) (eC (.int 2)))])) g_law_spoilt_r12)
noncomputable def g_law_spoilt : List D → Option Out := (sSeq (sSet 2 (eOp dMod (eOp dIx (eVar 1) (eC (.int 1))) (eCall dLen [(eVar 0)]))) g_law_spoilt_r13)
noncomputable def G_law_spoilt : List D → Option Out := fnOf g_law_spoilt 8 true
noncomputable def t_law_spoilt (cl : Nv) : TS := (tSeq (tAsg (tOp (rI (fun _ j => 0 < j) fun i j => .int (i % j)) (tOp (rIx cl.K) (tVar 1) (tC (.int 1))) (tCB (rLenA cl.K) (tCons (tVar 0) tNil))) (gName 2)) (tSeq (tAsg (tCall (spOf cl [.pn] .pu G_law_sign) [] E0 (tCons (tOp (rIx cl.K) (tVar 1) (tC (.int 2))) tNil)) (gName 3)) (tSeq (tAsg (tM1 rSpl (tVar 0) (tC (.str ("\n" : Str)))) (gName 4)) (tSeq (tAsg (tOp (rI (fun _ j => 0 < j) fun i j => .int (i % j)) (tOp (rIx cl.K) (tVar 1) (tC (.int 1))) (tCB (rLenA cl.K) (tCons (tVar 4) tNil))) (gName 5)) (tSeq (tAsg (tOp (rI (fun _ j => 0 < j) fun i j => .int (i % j)) (tOp (rIx cl.K) (tVar 1) (tC (.int 3))) (tCB (rLenA cl.K) (tCons (tVar 4) tNil))) (gName 6)) (tSeq (tAsg (tOp (rI (fun _ j => 0 < j) fun i j => .int (i % j)) (tOp (rIx cl.K) (tVar 1) (tC (.int 0))) (tC (.int 8))) (gName 7)) (tSeq (tIfS (tTest (tOp (rEqD cl.K) (tVar 7) (tC (.int 1)))) (tRet (tOp (rAddA cl.K) (tOp (rAddA cl.K) (tSl rSlS (tVar 0) tNoPart (tPart (tVar 2))) (tVar 3)) (tSl rSlS (tVar 0) (tPart (tVar 2)) tNoPart))) tNext) (tSeq (tIfS (tTest (tOp (rEqD cl.K) (tVar 7) (tC (.int 2)))) (tRet (tOp (rAddA cl.K) (tSl rSlS (tVar 0) tNoPart (tPart (tVar 2))) (tSl rSlS (tVar 0) (tPart (tOp (rAddA cl.K) (tVar 2) (tC (.int 1)))) tNoPart))) tNext) (tSeq (tIfS (tTest (tOp (rEqD cl.K) (tVar 7) (tC (.int 3)))) (tRet (tOp (rAddA cl.K) (tOp (rAddA cl.K) (tSl rSlS (tVar 0) tNoPart (tPart (tVar 2))) (tVar 3)) (tSl rSlS (tVar 0) (tPart (tOp (rAddA cl.K) (tVar 2) (tC (.int 1)))) tNoPart))) tNext) (tSeq (tIfS (tTest (tOp (rEqD cl.K) (tVar 7) (tC (.int 4)))) (tRet (tM1 (rJn cl.K) (tC (.str ("\n" : Str))) (tOp (rAddA cl.K) (tOp (rAddA cl.K) (tSl (rSlL cl.K) (tVar 4) tNoPart (tPart (tVar 5))) (tLst (tCons (tOp (rIx cl.K) (tVar 4) (tVar 6)) tNil))) (tSl (rSlL cl.K) (tVar 4) (tPart (tOp (rAddA cl.K) (tVar 5) (tC (.int 1)))) tNoPart)))) tNext) (tSeq (tIfS (tTest (tOp (rEqD cl.K) (tVar 7) (tC (.int 5)))) (tRet (tM1 (rJn cl.K) (tC (.str ("\n" : Str))) (tOp (rAddA cl.K) (tSl (rSlL cl.K) (tVar 4) tNoPart (tPart (tVar 5))) (tSl (rSlL cl.K) (tVar 4) (tPart (tOp (rAddA cl.K) (tVar 5) (tC (.int 1)))) tNoPart)))) tNext) (tSeq (tIfS (tTest (tOp (rEqD cl.K) (tVar 7) (tC (.int 6)))) (tRet (tOp (rAddA cl.K) (tVar 0) (tOp (rIx cl.K) (tLst (tCons (tC (.str ("\n" : Str))) (tCons (tC (.str (" " : Str))) (tCons (tC (.str ("\n-" : Str))) (tCons (tC (.str ("0" : Str))) tNil))))) (tOp (rI (fun _ j => 0 < j) fun i j => .int (i % j)) (tOp (rIx cl.K) (tVar 1) (tC (.int 2))) (tC (.int 4)))))) tNext) (tSeq (tIfS (tTest (tOp (rEqD cl.K) (tVar 7) (tC (.int 7)))) (tRet (tCall (spOf cl [.pn] .pu G_law_odd) [] E0 (tCons (tOp (rIx cl.K) (tVar 1) (tC (.int 2))) tNil))) tNext) (tRet (tVar 0)))))))))))))))
theorem ss_law_spoilt (cl : Nv) (W : WX) : SS cl W [.pn, .pn, .un, .un, .un, .un, .un, .un] (mdOf [.pn, .pn] 8 .pu) (t_law_spoilt cl) g_law_spoilt := (ss_seq [.pn, .pn, .pu, .un, .un, .un, .un, .un] (ss_set rfl (se_op ops_Ic (se_ix (se_var_pn (by rfl)) se_int) (se_call0 ca_len (sea_cons (se_var_pn (by rfl)) sea_nil))) (by decide) (by decide)) (ss_seq [.pn, .pn, .pu, .pu, .un, .un, .un, .un] (ss_set rfl (se_fnN (pm := [.pn]) (rc := .pu) rfl (sea_cons (se_ix (se_var_pn (by rfl)) se_int) sea_nil)) (by decide) (by decide)) (ss_seq [.pn, .pn, .pu, .pu, .pu, .un, .un, .un] (ss_set rfl (se_spl (se_var_pn (by rfl)) se_str) (by decide) (by decide)) (ss_seq [.pn, .pn, .pu, .pu, .pu, .pu, .un, .un] (ss_set rfl (se_op ops_Ic (se_ix (se_var_pn (by rfl)) se_int) (se_call0 ca_len (sea_cons (se_var_pu (by rfl)) sea_nil))) (by decide) (by decide)) (ss_seq [.pn, .pn, .pu, .pu, .pu, .pu, .pu, .un] (ss_set rfl (se_op ops_Ic (se_ix (se_var_pn (by rfl)) se_int) (se_call0 ca_len (sea_cons (se_var_pu (by rfl)) sea_nil))) (by decide) (by decide)) (ss_seq [.pn, .pn, .pu, .pu, .pu, .pu, .pu, .pu] (ss_set rfl (se_op ops_Ic (se_ix (se_var_pn (by rfl)) se_int) se_int) (by decide) (by decide)) (ss_seq [.pn, .pn, .pu, .pu, .pu, .pu, .pu, .pu] (ss_if (set_T (se_op ops_eq (se_var_pu (by rfl)) se_int)) (ss_ret rfl (se_op ops_add (se_op ops_add (se_slS (se_var_pn (by rfl)) seo_none (seo_some (se_var_pu (by rfl)))) (se_var_pu (by rfl))) (se_slS (se_var_pn (by rfl)) (seo_some (se_var_pu (by rfl))) seo_none)) (by decide) (by decide)) (ss_next (by decide)) (by decide)) (ss_seq [.pn, .pn, .pu, .pu, .pu, .pu, .pu, .pu] (ss_if (set_T (se_op ops_eq (se_var_pu (by rfl)) se_int)) (ss_ret rfl (se_op ops_add (se_slS (se_var_pn (by rfl)) seo_none (seo_some (se_var_pu (by rfl)))) (se_slS (se_var_pn (by rfl)) (seo_some (se_op ops_add (se_var_pu (by rfl)) se_int)) seo_none)) (by decide) (by decide)) (ss_next (by decide)) (by decide)) (ss_seq [.pn, .pn, .pu, .pu, .pu, .pu, .pu, .pu] (ss_if (set_T (se_op ops_eq (se_var_pu (by rfl)) se_int)) (ss_ret rfl (se_op ops_add (se_op ops_add (se_slS (se_var_pn (by rfl)) seo_none (seo_some (se_var_pu (by rfl)))) (se_var_pu (by rfl))) (se_slS (se_var_pn (by rfl)) (seo_some (se_op ops_add (se_var_pu (by rfl)) se_int)) seo_none)) (by decide) (by decide)) (ss_next (by decide)) (by decide)) (ss_seq [.pn, .pn, .pu, .pu, .pu, .pu, .pu, .pu] (ss_if (set_T (se_op ops_eq (se_var_pu (by rfl)) se_int)) (ss_ret rfl (se_join se_str (se_op ops_add (se_op ops_add (se_sl (se_var_pu (by rfl)) seo_none (seo_some (se_var_pu (by rfl)))) (se_lst rfl (sea_cons (se_ix (se_var_pu (by rfl)) (se_var_pu (by rfl))) sea_nil))) (se_sl (se_var_pu (by rfl)) (seo_some (se_op ops_add (se_var_pu (by rfl)) se_int)) seo_none))) (by decide) (by decide)) (ss_next (by decide)) (by decide)) (ss_seq [.pn, .pn, .pu, .pu, .pu, .pu, .pu, .pu] (ss_if (set_T (se_op ops_eq (se_var_pu (by rfl)) se_int)) (ss_ret rfl (se_join se_str (se_op ops_add (se_sl (se_var_pu (by rfl)) seo_none (seo_some (se_var_pu (by rfl)))) (se_sl (se_var_pu (by rfl)) (seo_some (se_op ops_add (se_var_pu (by rfl)) se_int)) seo_none))) (by decide) (by decide)) (ss_next (by decide)) (by decide)) (ss_seq [.pn, .pn, .pu, .pu, .pu, .pu, .pu, .pu] (ss_if (set_T (se_op ops_eq (se_var_pu (by rfl)) se_int)) (ss_ret rfl (se_op ops_add (se_var_pn (by rfl)) (se_ix (se_lst rfl (sea_cons se_str (sea_cons se_str (sea_cons se_str (sea_cons se_str sea_nil))))) (se_op ops_Ic (se_ix (se_var_pn (by rfl)) se_int) se_int))) (by decide) (by decide)) (ss_next (by decide)) (by decide)) (ss_seq [.pn, .pn, .pu, .pu, .pu, .pu, .pu, .pu] (ss_if (set_T (se_op ops_eq (se_var_pu (by rfl)) se_int)) (ss_ret rfl (se_fnN (pm := [.pn]) (rc := .pu) rfl (sea_cons (se_ix (se_var_pn (by rfl)) se_int) sea_nil)) (by decide) (by decide)) (ss_next (by decide)) (by decide)) (ss_ret rfl (se_imm (se_var_pn (by rfl))) (by decide) (by decide)))))))))))))))
abbrev N_law_spoilt : List Str := [("_law_text" : Str), ("_law_draws" : Str), ("_law_at" : Str), ("_law_sign_here" : Str), ("_law_lines" : Str), ("_law_one" : Str), ("_law_two" : Str), ("_law_way" : Str)]
abbrev P_law_spoilt : List Str := [("_law_text" : Str), ("_law_draws" : Str)]

noncomputable def g_law_number_b1 : List D → Option Out := (sIf (eT (eOp dSgN (eVar 1) (eC (.str ("0123456789" : Str))))) (sRet (eC .non)) sNext)
noncomputable def g_law_number_r1 : List D → Option Out := (sRet (eCall dIntS [(eVar 0)]))
noncomputable def g_law_number_r2 : List D → Option Out := (sSeq (sForS 1 (eVar 0) g_law_number_b1) g_law_number_r1)
noncomputable def g_law_number : List D → Option Out := (sSeq (sIf (eOr (eT (eOp dEq (eVar 0) (eC (.str ("" : Str))))) (eOr (eT (eOp dGt (eCall dLen [(eVar 0)]) (eC (.int 3)))) (eAnd (eT (eOp dGt (eCall dLen [(eVar 0)]) (eC (.int 1)))) (eT (eOp dEq (eOp dIx (eVar 0) (eC (.int 0))) (eC (.str ("0" : Str)))))))) (sRet (eC .non)) sNext) g_law_number_r2)
noncomputable def G_law_number : List D → Option Out := fnOf g_law_number 2 true
noncomputable def t_law_number (cl : Nv) : TS := (tSeq (tIfS (tOr (tTest (tOp (rEqD cl.K) (tVar 0) (tC (.str ("" : Str))))) (tOr (tTest (tOp (rI0 fun i j => .bl (decide (j < i))) (tCB (rLenA cl.K) (tCons (tVar 0) tNil)) (tC (.int 3)))) (tAnd (tTest (tOp (rI0 fun i j => .bl (decide (j < i))) (tCB (rLenA cl.K) (tCons (tVar 0) tNil)) (tC (.int 1)))) (tTest (tOp (rEqD cl.K) (tOp (rIx cl.K) (tVar 0) (tC (.int 0))) (tC (.str ("0" : Str)))))))) (tRet (tC .non)) tNext) (tSeq (tFor (iStr (tVar 0)) (gName 1) (tIfS (tTest (tOp rSgN (tVar 1) (tC (.str ("0123456789" : Str))))) (tRet (tC .non)) tNext)) (tRet (tCB rIntS (tCons (tVar 0) tNil)))))
theorem ss_law_number (cl : Nv) (W : WX) : SS cl W [.pn, .un] (mdOf [.pn] 2 .pu) (t_law_number cl) g_law_number := (ss_seq [.pn, .un] (ss_if (set_or (set_T (se_op ops_eq (se_var_pn (by rfl)) se_str)) (set_or (set_T (se_op ops_B0 (se_call0 ca_len (sea_cons (se_var_pn (by rfl)) sea_nil)) se_int)) (set_and (set_T (se_op ops_B0 (se_call0 ca_len (sea_cons (se_var_pn (by rfl)) sea_nil)) se_int)) (set_T (se_op ops_eq (se_ix (se_var_pn (by rfl)) se_int) se_str))))) (ss_ret rfl se_non (by decide) (by decide)) (ss_next (by decide)) (by decide)) (ss_seq [.pn, .un] (ss_forS [.pn, .un] (se_var_pn (by rfl)) (by decide) (by decide) (by decide) (ss_if (set_T (se_op ops_sgN (se_var_pu (by rfl)) se_str)) (ss_ret rfl se_non (by decide) (by decide)) (ss_next (by decide)) (by decide))) (ss_ret rfl (se_call0 ca_intS (sea_cons (se_var_pn (by rfl)) sea_nil)) (by decide) (by decide))))
abbrev N_law_number : List Str := [("_law_word" : Str), ("_law_sign_here" : Str)]
abbrev P_law_number : List Str := [("_law_word" : Str)]

noncomputable def g_law_line_b1 : List D → Option Out := (sSeq (sSet 5 (eFnN G_law_number [(eVar 4)])) (sSeq (sIf (eAnd (eT (eOp dNe (eVar 4) (eC (.str ("-" : Str))))) (eOr (eT (eOp dIsN (eVar 5) (eC .non))) (eT (eOp dGe (eVar 5) (eVar 2))))) (sRet (eC .non)) sNext) (sAppP 3 (eVar 3) pVar (eVar 5))))
noncomputable def g_law_line_r1 : List D → Option Out := (sRet (eVar 3))
noncomputable def g_law_line_r2 : List D → Option Out := (sSeq (sIf (eT (eOp dNe (eCall dLen [(eVar 3)]) (eVar 1))) (sRet (eC .non)) sNext) g_law_line_r1)
noncomputable def g_law_line_r3 : List D → Option Out := (sSeq (sFor 4 (eSpl (eVar 0) (eC (.str (" " : Str)))) g_law_line_b1) g_law_line_r2)
noncomputable def g_law_line : List D → Option Out := (sSeq (sSet 3 (eLst [])) g_law_line_r3)
noncomputable def G_law_line : List D → Option Out := fnOf g_law_line 6 true
noncomputable def t_law_line (cl : Nv) : TS := (tSeq (tAsg (tLst tNil) (gName 3)) (tSeq (tFor (iList cl.K (tM1 rSpl (tVar 0) (tC (.str (" " : Str))))) (gName 4) (tSeq (tAsg (tCall (spOf cl [.pn] .pu G_law_number) [] E0 (tCons (tVar 4) tNil)) (gName 5)) (tSeq (tIfS (tAnd (tTest (tOp (rNeD cl.K) (tVar 4) (tC (.str ("-" : Str))))) (tOr (tTest (tOp Mv.rIsN (tVar 5) (tC .non))) (tTest (tOp (rI0 fun i j => .bl (decide (j ≤ i))) (tVar 5) (tVar 2))))) (tRet (tC .non)) tNext) (tDrop (tBM cl.K "list" rAppend (tVar 3) (tCons (tVar 5) tNil)))))) (tSeq (tIfS (tTest (tOp (rNeD cl.K) (tCB (rLenA cl.K) (tCons (tVar 3) tNil)) (tVar 1))) (tRet (tC .non)) tNext) (tRet (tVar 3)))))
theorem ss_law_line (cl : Nv) (W : WX) : SS cl W [.pn, .pn, .pn, .un, .un, .un] (mdOf [.pn, .pn, .pn] 6 .pu) (t_law_line cl) g_law_line := (ss_seq [.pn, .pn, .pn, (.ow (.ls .fz)), .un, .un] (ss_setO (se_nilT (s := .fz)) (by decide) (by decide)) (ss_seq [.pn, .pn, .pn, (.ow (.ls .fz)), .un, .un] (ss_for [.pn, .pn, .pn, (.ow (.ls .fz)), .un, .un] rfl (se_spl (se_var_pn (by rfl)) se_str) (by decide) (by decide) (by decide) (ss_seq [.pn, .pn, .pn, (.ow (.ls .fz)), .pu, .pu] (ss_set rfl (se_fnN (pm := [.pn]) (rc := .pu) rfl (sea_cons (se_var_pu (by rfl)) sea_nil)) (by decide) (by decide)) (ss_seq [.pn, .pn, .pn, (.ow (.ls .fz)), .pu, .pu] (ss_if (set_and (set_T (se_op ops_ne (se_var_pu (by rfl)) se_str)) (set_or (set_T (se_op ops_isN (se_var_pu (by rfl)) se_non)) (set_T (se_op ops_B0 (se_var_pu (by rfl)) (se_var_pn (by rfl)))))) (ss_ret rfl se_non (by decide) (by decide)) (ss_next (by decide)) (by decide)) (ss_appP (sp_var (s := (.ls .fz)) (by rfl)) rfl (se_var_pu (by rfl)) (by decide) (by decide))))) (ss_seq [.pn, .pn, .pn, (.ow (.ls .fz)), .un, .un] (ss_if (set_T (se_op ops_ne (se_call0 ca_len (sea_cons (se_var (m := (.ow (.ls .fz))) (by rfl) rfl) sea_nil)) (se_var_pn (by rfl)))) (ss_ret rfl se_non (by decide) (by decide)) (ss_next (by decide)) (by decide)) (ss_frz (k := 3) (s := (.ls .fz)) (by rfl) (ss_ret rfl (se_var_pu (by rfl)) (by decide) (by decide))))))
abbrev N_law_line : List Str := [("_law_line_here" : Str), ("_law_kinds" : Str), ("_law_size" : Str), ("_law_outs" : Str), ("_law_word" : Str), ("_law_end" : Str)]
abbrev P_law_line : List Str := [("_law_line_here" : Str), ("_law_kinds" : Str), ("_law_size" : Str)]

noncomputable def g_law_read_b1 : List D → Option Out := (sSeq (sSet 8 (eLc 9 (eVar 5) (eT (eOp dNotN (eOp dIx (eVar 9) (eVar 7)) (eC .non))) (eOp dIx (eVar 9) (eVar 7)))) (sIf (eT (eOp dNe (eUn dLenSet (eVar 8)) (eCall dLen [(eVar 8)]))) (sRet (eC .non)) sNext))
noncomputable def g_law_read_r1 : List D → Option Out := (sRet (eVar 5))
noncomputable def g_law_read_r2 : List D → Option Out := (sSeq (sRng 7 [(eVar 3)] g_law_read_b1) g_law_read_r1)
noncomputable def g_law_read_r3 : List D → Option Out := (sSeq (sIf (eT (eOp dInD (eC .non) (eVar 5))) (sRet (eC .non)) sNext) g_law_read_r2)
noncomputable def g_law_read_r4 : List D → Option Out := (sSeq (sSet 5 (eLc 6 (eSl (eVar 1) (some (eC (.int 1))) none) tT (eFnN G_law_line [(eVar 6), (eVar 3), (eVar 4)]))) g_law_read_r3)
noncomputable def g_law_read_r5 : List D → Option Out := (sSeq (sIf (eOr (eT (eOp dIsN (eVar 3) (eC .non))) (eOr (eT (eOp dIsN (eVar 4) (eC .non))) (eOr (eT (eOp dLt (eVar 3) (eC (.int 1)))) (eOr (eT (eOp dGt (eVar 3) (eC (.int 5)))) (eOr (eT (eOp dLt (eVar 4) (eC (.int 1)))) (eOr (eT (eOp dNe (eVar 4) (eOp dSub (eCall dLen [(eVar 1)]) (eC (.int 1))))) (eT (eOp dGt (eVar 4) (eC (.int 700)))))))))) (sRet (eC .non)) sNext) g_law_read_r4)
noncomputable def g_law_read_r6 : List D → Option Out := (sSeq (sSet 4 (eFnN G_law_number [(eOp dIx (eVar 2) (eC (.int 2)))])) g_law_read_r5)
noncomputable def g_law_read_r7 : List D → Option Out := (sSeq (sSet 3 (eFnN G_law_number [(eOp dIx (eVar 2) (eC (.int 1)))])) g_law_read_r6)
noncomputable def g_law_read_r8 : List D → Option Out := (sSeq (sIf (eOr (eT (eOp dNe (eCall dLen [(eVar 2)]) (eC (.int 3)))) (eT (eOp dNe (eOp dIx (eVar 2) (eC (.int 0))) (eC (.str ("chart" : Str)))))) (sRet (eC .non)) sNext) g_law_read_r7)
noncomputable def g_law_read_r9 : List D → Option Out := (sSeq (sSet 2 (eSpl (eOp dIx (eVar 1) (eC (.int 0))) (eC (.str (" " : Str))))) g_law_read_r8)
noncomputable def g_law_read : List D → Option Out := (sSeq (sSet 1 (eSpl (eVar 0) (eC (.str ("\n" : Str))))) g_law_read_r9)
noncomputable def G_law_read : List D → Option Out := fnOf g_law_read 10 true
noncomputable def t_law_read (cl : Nv) : TS := (tSeq (tAsg (tM1 rSpl (tVar 0) (tC (.str ("\n" : Str)))) (gName 1)) (tSeq (tAsg (tM1 rSpl (tOp (rIx cl.K) (tVar 1) (tC (.int 0))) (tC (.str (" " : Str)))) (gName 2)) (tSeq (tIfS (tOr (tTest (tOp (rNeD cl.K) (tCB (rLenA cl.K) (tCons (tVar 2) tNil)) (tC (.int 3)))) (tTest (tOp (rNeD cl.K) (tOp (rIx cl.K) (tVar 2) (tC (.int 0))) (tC (.str ("chart" : Str)))))) (tRet (tC .non)) tNext) (tSeq (tAsg (tCall (spOf cl [.pn] .pu G_law_number) [] E0 (tCons (tOp (rIx cl.K) (tVar 2) (tC (.int 1))) tNil)) (gName 3)) (tSeq (tAsg (tCall (spOf cl [.pn] .pu G_law_number) [] E0 (tCons (tOp (rIx cl.K) (tVar 2) (tC (.int 2))) tNil)) (gName 4)) (tSeq (tIfS (tOr (tTest (tOp Mv.rIsN (tVar 3) (tC .non))) (tOr (tTest (tOp Mv.rIsN (tVar 4) (tC .non))) (tOr (tTest (tOp (rI0 fun i j => .bl (decide (i < j))) (tVar 3) (tC (.int 1)))) (tOr (tTest (tOp (rI0 fun i j => .bl (decide (j < i))) (tVar 3) (tC (.int 5)))) (tOr (tTest (tOp (rI0 fun i j => .bl (decide (i < j))) (tVar 4) (tC (.int 1)))) (tOr (tTest (tOp (rNeD cl.K) (tVar 4) (tOp (rI0 fun i j => .int (i - j)) (tCB (rLenA cl.K) (tCons (tVar 1) tNil)) (tC (.int 1))))) (tTest (tOp (rI0 fun i j => .bl (decide (j < i))) (tVar 4) (tC (.int 700)))))))))) (tRet (tC .non)) tNext) (tSeq (tAsg (tLc (iList cl.K (tSl (rSlL cl.K) (tVar 1) (tPart (tC (.int 1))) tNoPart)) (gName 6) tYes (tCall (spOf cl [.pn, .pn, .pn] .pu G_law_line) [] E0 (tCons (tVar 6) (tCons (tVar 3) (tCons (tVar 4) tNil)))) [6]) (gName 5)) (tSeq (tIfS (tTest (tOp (rInD cl.K) (tC .non) (tVar 5))) (tRet (tC .non)) tNext) (tSeq (tFor (iRng1 (tCons (tVar 3) tNil)) (gName 7) (tSeq (tAsg (tLc (iList cl.K (tVar 5)) (gName 9) (tTest (tOp Mv.rNotN (tOp (rIx cl.K) (tVar 9) (tVar 7)) (tC .non))) (tOp (rIx cl.K) (tVar 9) (tVar 7)) [9]) (gName 8)) (tIfS (tTest (tOp (rNeD cl.K) (tLenSetN cl.K (tVar 8)) (tCB (rLenA cl.K) (tCons (tVar 8) tNil)))) (tRet (tC .non)) tNext))) (tRet (tVar 5)))))))))))
theorem ss_law_read (cl : Nv) (W : WX) : SS cl W [.pn, .un, .un, .un, .un, .un, .un, .un, .un, .un] (mdOf [.pn] 10 .pu) (t_law_read cl) g_law_read := (ss_seq [.pn, .pu, .un, .un, .un, .un, .un, .un, .un, .un] (ss_set rfl (se_spl (se_var_pn (by rfl)) se_str) (by decide) (by decide)) (ss_seq [.pn, .pu, .pu, .un, .un, .un, .un, .un, .un, .un] (ss_set rfl (se_spl (se_ix (se_var_pu (by rfl)) se_int) se_str) (by decide) (by decide)) (ss_seq [.pn, .pu, .pu, .un, .un, .un, .un, .un, .un, .un] (ss_if (set_or (set_T (se_op ops_ne (se_call0 ca_len (sea_cons (se_var_pu (by rfl)) sea_nil)) se_int)) (set_T (se_op ops_ne (se_ix (se_var_pu (by rfl)) se_int) se_str))) (ss_ret rfl se_non (by decide) (by decide)) (ss_next (by decide)) (by decide)) (ss_seq [.pn, .pu, .pu, .pu, .un, .un, .un, .un, .un, .un] (ss_set rfl (se_fnN (pm := [.pn]) (rc := .pu) rfl (sea_cons (se_ix (se_var_pu (by rfl)) se_int) sea_nil)) (by decide) (by decide)) (ss_seq [.pn, .pu, .pu, .pu, .pu, .un, .un, .un, .un, .un] (ss_set rfl (se_fnN (pm := [.pn]) (rc := .pu) rfl (sea_cons (se_ix (se_var_pu (by rfl)) se_int) sea_nil)) (by decide) (by decide)) (ss_seq [.pn, .pu, .pu, .pu, .pu, .un, .un, .un, .un, .un] (ss_if (set_or (set_T (se_op ops_isN (se_var_pu (by rfl)) se_non)) (set_or (set_T (se_op ops_isN (se_var_pu (by rfl)) se_non)) (set_or (set_T (se_op ops_B0 (se_var_pu (by rfl)) se_int)) (set_or (set_T (se_op ops_B0 (se_var_pu (by rfl)) se_int)) (set_or (set_T (se_op ops_B0 (se_var_pu (by rfl)) se_int)) (set_or (set_T (se_op ops_ne (se_var_pu (by rfl)) (se_op ops_I0 (se_call0 ca_len (sea_cons (se_var_pu (by rfl)) sea_nil)) se_int))) (set_T (se_op ops_B0 (se_var_pu (by rfl)) se_int)))))))) (ss_ret rfl se_non (by decide) (by decide)) (ss_next (by decide)) (by decide)) (ss_seq [.pn, .pu, .pu, .pu, .pu, .pu, .un, .un, .un, .un] (ss_set rfl (se_lc (s := .fz) rfl (se_sl (se_var_pu (by rfl)) (seo_some se_int) seo_none) set_yes (se_fnN (pm := [.pn, .pn, .pn]) (rc := .pu) rfl (sea_cons (se_var_pu (by rfl)) (sea_cons (se_var_pu (by rfl)) (sea_cons (se_var_pu (by rfl)) sea_nil)))) rfl) (by decide) (by decide)) (ss_seq [.pn, .pu, .pu, .pu, .pu, .pu, .un, .un, .un, .un] (ss_if (set_T (se_op ops_inD se_non (se_var_pu (by rfl)))) (ss_ret rfl se_non (by decide) (by decide)) (ss_next (by decide)) (by decide)) (ss_seq [.pn, .pu, .pu, .pu, .pu, .pu, .un, .un, .un, .un] (ss_rng1 [.pn, .pu, .pu, .pu, .pu, .pu, .un, .un, .un, .un] (sea_cons (se_var_pu (by rfl)) sea_nil) (by decide) (by decide) (by decide) (ss_seq [.pn, .pu, .pu, .pu, .pu, .pu, .un, .pu, .pu, .un] (ss_set rfl (se_lc (s := .fz) rfl (se_var_pu (by rfl)) (set_T (se_op ops_notN (se_ix (se_var_pu (by rfl)) (se_var_pu (by rfl))) se_non)) (se_ix (se_var_pu (by rfl)) (se_var_pu (by rfl))) rfl) (by decide) (by decide)) (ss_if (set_T (se_op ops_ne (se_lenSet (se_var_pu (by rfl))) (se_call0 ca_len (sea_cons (se_var_pu (by rfl)) sea_nil)))) (ss_ret rfl se_non (by decide) (by decide)) (ss_next (by decide)) (by decide)))) (ss_ret rfl (se_var_pu (by rfl)) (by decide) (by decide)))))))))))
abbrev N_law_read : List Str := [("_law_text" : Str), ("_law_lines" : Str), ("_law_head" : Str), ("_law_kinds" : Str), ("_law_size" : Str), ("_law_table_here" : Str), ("_law_line_here" : Str), ("_law_k" : Str), ("_law_ends" : Str), ("_law_outs" : Str)]
abbrev P_law_read : List Str := [("_law_text" : Str)]

noncomputable def g_count_of_b1 : List D → Option Out := (sIf (eT (eOp dSgN (eVar 1) (eC (.str ("0123456789" : Str))))) (sRaise "NoChart") sNext)
noncomputable def g_count_of_r1 : List D → Option Out := (sRet (eCall dIntS [(eVar 0)]))
noncomputable def g_count_of_r2 : List D → Option Out := (sSeq (sForS 1 (eVar 0) g_count_of_b1) g_count_of_r1)
noncomputable def g_count_of : List D → Option Out := (sSeq (sIf (eOr (eT (eOp dLt (eCall dLen [(eVar 0)]) (eC (.int 1)))) (eT (eOp dGt (eCall dLen [(eVar 0)]) (eC (.int 3))))) (sRaise "NoChart") sNext) g_count_of_r2)
noncomputable def G_count_of : List D → Option Out := fnOf g_count_of 2 true
noncomputable def t_count_of (cl : Nv) (W : WX) : TS := (tSeq (tIfS (tOr (tTest (tOp (rI0 fun i j => .bl (decide (i < j))) (tCB (rLenA cl.K) (tCons (tVar 0) tNil)) (tC (.int 1)))) (tTest (tOp (rI0 fun i j => .bl (decide (j < i))) (tCB (rLenA cl.K) (tCons (tVar 0) tNil)) (tC (.int 3))))) (tRaise W (cl "NoChart")) tNext) (tSeq (tFor (iStr (tVar 0)) (gName 1) (tIfS (tTest (tOp rSgN (tVar 1) (tC (.str ("0123456789" : Str))))) (tRaise W (cl "NoChart")) tNext)) (tRet (tCB rIntS (tCons (tVar 0) tNil)))))
theorem ss_count_of (cl : Nv) (W : WX) : SS cl W [.pn, .un] (mdOf [.pn] 2 .pu) (t_count_of cl W) g_count_of := (ss_seq [.pn, .un] (ss_if (set_or (set_T (se_op ops_B0 (se_call0 ca_len (sea_cons (se_var_pn (by rfl)) sea_nil)) se_int)) (set_T (se_op ops_B0 (se_call0 ca_len (sea_cons (se_var_pn (by rfl)) sea_nil)) se_int))) (ss_raise (by decide)) (ss_next (by decide)) (by decide)) (ss_seq [.pn, .un] (ss_forS [.pn, .un] (se_var_pn (by rfl)) (by decide) (by decide) (by decide) (ss_if (set_T (se_op ops_sgN (se_var_pu (by rfl)) se_str)) (ss_raise (by decide)) (ss_next (by decide)) (by decide))) (ss_ret rfl (se_call0 ca_intS (sea_cons (se_var_pn (by rfl)) sea_nil)) (by decide) (by decide))))
abbrev N_count_of : List Str := [("word" : Str), ("sign" : Str)]
abbrev P_count_of : List Str := [("word" : Str)]

noncomputable def g_entry_of_r1 : List D → Option Out := (sRet (eFn G_count_of [(eVar 0)]))
noncomputable def g_entry_of : List D → Option Out := (sSeq (sIf (eT (eOp dEq (eVar 0) (eC (.str ("-" : Str))))) (sRet (eC .non)) sNext) g_entry_of_r1)
noncomputable def G_entry_of : List D → Option Out := fnOf g_entry_of 1 true
noncomputable def t_entry_of (cl : Nv) (W : WX) : TS := (tSeq (tIfS (tTest (tOp (rEqD cl.K) (tVar 0) (tC (.str ("-" : Str))))) (tRet (tC .non)) tNext) (tRet (tCallS (spOf cl [.pn] .pu G_count_of) (WE W) (tCons (tVar 0) tNil))))
theorem ss_entry_of (cl : Nv) (W : WX) : SS cl W [.pn] (mdOf [.pn] 1 .pu) (t_entry_of cl W) g_entry_of := (ss_seq [.pn] (ss_if (set_T (se_op ops_eq (se_var_pn (by rfl)) se_str)) (ss_ret rfl se_non (by decide) (by decide)) (ss_next (by decide)) (by decide)) (ss_ret rfl (se_fn (pm := [.pn]) (rc := .pu) rfl (sea_cons (se_var_pn (by rfl)) sea_nil)) (by decide) (by decide)))
abbrev N_entry_of : List Str := [("word" : Str)]
abbrev P_entry_of : List Str := [("word" : Str)]

noncomputable def g_rows_fit_b1 : List D → Option Out := (sIf (eAnd (eT (eOp dNotN (eVar 3) (eC .non))) (eOr (eT (eOp dLt (eVar 3) (eC (.int 0)))) (eT (eOp dGe (eVar 3) (eCall dLen [(eVar 1)]))))) (sRet (eC (.bl false))) sNext)
noncomputable def g_rows_fit_b2 : List D → Option Out := (sSeq (sIf (eT (eOp dNe (eCall dLen [(eVar 2)]) (eVar 0))) (sRet (eC (.bl false))) sNext) (sFor 3 (eVar 2) g_rows_fit_b1))
noncomputable def g_rows_fit_r1 : List D → Option Out := (sRet (eC (.bl true)))
noncomputable def g_rows_fit : List D → Option Out := (sSeq (sFor 2 (eVar 1) g_rows_fit_b2) g_rows_fit_r1)
noncomputable def G_rows_fit : List D → Option Out := fnOf g_rows_fit 4 true
noncomputable def t_rows_fit (cl : Nv) : TS := (tSeq (tFor (iList cl.K (tVar 1)) (gName 2) (tSeq (tIfS (tTest (tOp (rNeD cl.K) (tCB (rLenA cl.K) (tCons (tVar 2) tNil)) (tVar 0))) (tRet (tC (.bl false))) tNext) (tFor (iList cl.K (tVar 2)) (gName 3) (tIfS (tAnd (tTest (tOp Mv.rNotN (tVar 3) (tC .non))) (tOr (tTest (tOp (rI0 fun i j => .bl (decide (i < j))) (tVar 3) (tC (.int 0)))) (tTest (tOp (rI0 fun i j => .bl (decide (j ≤ i))) (tVar 3) (tCB (rLenA cl.K) (tCons (tVar 1) tNil)))))) (tRet (tC (.bl false))) tNext)))) (tRet (tC (.bl true))))
theorem ss_rows_fit (cl : Nv) (W : WX) : SS cl W [.pn, .pn, .un, .un] (mdOf [.pn, .pn] 4 .pu) (t_rows_fit cl) g_rows_fit := (ss_seq [.pn, .pn, .un, .un] (ss_forLo [.pn, .pn, .un, .un] rfl (se_var_pn (by rfl)) (by decide) (by decide) (by decide) (ss_seq [.pn, .pn, .lo, .un] (ss_if (set_T (se_op ops_ne (se_call0 ca_len (sea_cons (se_var_lo (by rfl)) sea_nil)) (se_var_pn (by rfl)))) (ss_ret rfl se_bl (by decide) (by decide)) (ss_next (by decide)) (by decide)) (ss_forLo [.pn, .pn, .lo, .un] rfl (se_var_lo (by rfl)) (by decide) (by decide) (by decide) (ss_if (set_and (set_T (se_op ops_notN (se_var_lo (by rfl)) se_non)) (set_or (set_T (se_op ops_B0 (se_var_lo (by rfl)) se_int)) (set_T (se_op ops_B0 (se_var_lo (by rfl)) (se_call0 ca_len (sea_cons (se_var_pn (by rfl)) sea_nil)))))) (ss_ret rfl se_bl (by decide) (by decide)) (ss_next (by decide)) (by decide))))) (ss_ret rfl se_bl (by decide) (by decide)))
abbrev N_rows_fit : List Str := [("kinds" : Str), ("table" : Str), ("outs" : Str), ("end" : Str)]
abbrev P_rows_fit : List Str := [("kinds" : Str), ("table" : Str)]

noncomputable def g_seen_back_b1 : List D → Option Out := (sAppP 2 (eVar 2) pVar (eLcR 4 [(eVar 0)] tT (eC .non)))
noncomputable def g_seen_back_b2 : List D → Option Out := (sSeq (sSet 6 (eImm (eOp dIx (eOp dIx (eVar 1) (eVar 3)) (eVar 5)))) (sIf (eT (eOp dNotN (eVar 6) (eC .non))) (sSeq (sIf (eT (eOp dNotN (eOp dIx (eOp dIx (eVar 2) (eVar 6)) (eVar 5)) (eC .non))) (sRet (eC .non)) sNext) (sSetP 2 (eOp dIx (eVar 2) (eVar 6)) (eVar 5) (pIx (eVar 2) (eVar 6) pVar) (eVar 3))) sNext))
noncomputable def g_seen_back_b3 : List D → Option Out := (sRng 5 [(eVar 0)] g_seen_back_b2)
noncomputable def g_seen_back_r1 : List D → Option Out := (sRet (eVar 2))
noncomputable def g_seen_back_r2 : List D → Option Out := (sSeq (sRng 3 [(eCall dLen [(eVar 1)])] g_seen_back_b3) g_seen_back_r1)
noncomputable def g_seen_back_r3 : List D → Option Out := (sSeq (sRng 3 [(eCall dLen [(eVar 1)])] g_seen_back_b1) g_seen_back_r2)
noncomputable def g_seen_back : List D → Option Out := (sSeq (sSet 2 (eLst [])) g_seen_back_r3)
noncomputable def G_seen_back : List D → Option Out := fnOf g_seen_back 7 true
noncomputable def t_seen_back (cl : Nv) : TS := (tSeq (tAsg (tLst tNil) (gName 2)) (tSeq (tFor (iRng1 (tCons (tCB (rLenA cl.K) (tCons (tVar 1) tNil)) tNil)) (gName 3) (tDrop (tBM cl.K "list" rAppend (tVar 2) (tCons (tLc (iRng1 (tCons (tVar 0) tNil)) (gName 4) tYes (tC .non) [4]) tNil)))) (tSeq (tFor (iRng1 (tCons (tCB (rLenA cl.K) (tCons (tVar 1) tNil)) tNil)) (gName 3) (tFor (iRng1 (tCons (tVar 0) tNil)) (gName 5) (tSeq (tAsg (tOp (rIx cl.K) (tOp (rIx cl.K) (tVar 1) (tVar 3)) (tVar 5)) (gName 6)) (tIfS (tTest (tOp Mv.rNotN (tVar 6) (tC .non))) (tSeq (tIfS (tTest (tOp Mv.rNotN (tOp (rIx cl.K) (tOp (rIx cl.K) (tVar 2) (tVar 6)) (tVar 5)) (tC .non))) (tRet (tC .non)) tNext) (tAsg (tVar 3) (gSub (tOp (rIx cl.K) (tVar 2) (tVar 6)) (tVar 5) rSetL))) tNext)))) (tRet (tVar 2)))))
theorem ss_seen_back (cl : Nv) (W : WX) : SS cl W [.pn, .pn, .un, .un, .un, .un, .un] (mdOf [.pn, .pn] 7 .pu) (t_seen_back cl) g_seen_back := (ss_seq [.pn, .pn, (.ow (.ls (.ls .fz))), .un, .un, .un, .un] (ss_setO (se_nilT (s := (.ls .fz))) (by decide) (by decide)) (ss_seq [.pn, .pn, (.ow (.ls (.ls .fz))), .un, .un, .un, .un] (ss_rng1 [.pn, .pn, (.ow (.ls (.ls .fz))), .un, .un, .un, .un] (sea_cons (se_call0 ca_len (sea_cons (se_var_pn (by rfl)) sea_nil)) sea_nil) (by decide) (by decide) (by decide) (ss_appPT (s := (.ls .fz)) (sp_var (s := (.ls (.ls .fz))) (by rfl)) (se_lcR1 (s := .fz) (sea_cons (se_var_pn (by rfl)) sea_nil) set_yes se_non rfl) (by decide) (by decide))) (ss_seq [.pn, .pn, (.ow (.ls (.ls .fz))), .un, .un, .un, .un] (ss_rng1 [.pn, .pn, (.ow (.ls (.ls .fz))), .un, .un, .un, .un] (sea_cons (se_call0 ca_len (sea_cons (se_var_pn (by rfl)) sea_nil)) sea_nil) (by decide) (by decide) (by decide) (ss_rng1 [.pn, .pn, (.ow (.ls (.ls .fz))), .pu, .un, .un, .un] (sea_cons (se_var_pn (by rfl)) sea_nil) (by decide) (by decide) (by decide) (ss_seq [.pn, .pn, (.ow (.ls (.ls .fz))), .pu, .un, .pu, .pu] (ss_set rfl (se_imm (se_ix (se_ix (se_var_pn (by rfl)) (se_var_pu (by rfl))) (se_var_pu (by rfl)))) (by decide) (by decide)) (ss_if (set_T (se_op ops_notN (se_var_pu (by rfl)) se_non)) (ss_seq [.pn, .pn, (.ow (.ls (.ls .fz))), .pu, .un, .pu, .pu] (ss_if (set_T (se_op ops_notN (SP.pu (sp_ix (s := .fz) (sp_ix (s := (.ls .fz)) (sp_var (s := (.ls (.ls .fz))) (by rfl)) (se_var_pu (by rfl))) (se_var_pu (by rfl)))) se_non)) (ss_ret rfl se_non (by decide) (by decide)) (ss_next (by decide)) (by decide)) (ss_setP (sp_ix (s := (.ls .fz)) (sp_var (s := (.ls (.ls .fz))) (by rfl)) (se_var_pu (by rfl))) rfl (se_var_pu (by rfl)) (se_var_pu (by rfl)) (by decide) (by decide))) (ss_next (by decide)) (by decide))))) (ss_frz (k := 2) (s := (.ls (.ls .fz))) (by rfl) (ss_ret rfl (se_var_pu (by rfl)) (by decide) (by decide))))))
abbrev N_seen_back : List Str := [("kinds" : Str), ("table" : Str), ("ins" : Str), ("chamber" : Str), ("kind" : Str), ("at" : Str), ("end" : Str)]
abbrev P_seen_back : List Str := [("kinds" : Str), ("table" : Str)]

noncomputable def g_Chart_init_r1 : List D → Option Out := (sFldP 0 "Chart" "ins" (eVar 0) pVar (eVar 3))
noncomputable def g_Chart_init_r2 : List D → Option Out := (sSeq (sFldP 0 "Chart" "outs" (eVar 0) pVar (eLc 4 (eVar 2) tT (eCall dList [(eVar 4)]))) g_Chart_init_r1)
noncomputable def g_Chart_init_r3 : List D → Option Out := (sSeq (sFldP 0 "Chart" "kinds" (eVar 0) pVar (eImm (eVar 1))) g_Chart_init_r2)
noncomputable def g_Chart_init_r4 : List D → Option Out := (sSeq (sIf (eT (eOp dIsN (eVar 3) (eC .non))) (sRaise "NoChart") sNext) g_Chart_init_r3)
noncomputable def g_Chart_init_r5 : List D → Option Out := (sSeq (sSet 3 (eFnN G_seen_back [(eVar 1), (eVar 2)])) g_Chart_init_r4)
noncomputable def g_Chart_init_r6 : List D → Option Out := (sSeq (sIf (eNot (eT (eFnN G_rows_fit [(eVar 1), (eVar 2)]))) (sRaise "NoChart") sNext) g_Chart_init_r5)
noncomputable def g_Chart_init_r7 : List D → Option Out := (sSeq (sIf (eOr (eT (eOp dLt (eCall dLen [(eVar 2)]) (eC (.int 1)))) (eT (eOp dGt (eCall dLen [(eVar 2)]) (eC (.int 700))))) (sRaise "NoChart") sNext) g_Chart_init_r6)
noncomputable def g_Chart_init : List D → Option Out := (sSeq (sIf (eOr (eT (eOp dLt (eVar 1) (eC (.int 1)))) (eT (eOp dGt (eVar 1) (eC (.int 5))))) (sRaise "NoChart") sNext) g_Chart_init_r7)
noncomputable def G_Chart_init : List D → Option Out := fnOf g_Chart_init 5 true
noncomputable def t_Chart_init (cl : Nv) (W : WX) : TS := (tSeq (tIfS (tOr (tTest (tOp (rI0 fun i j => .bl (decide (i < j))) (tVar 1) (tC (.int 1)))) (tTest (tOp (rI0 fun i j => .bl (decide (j < i))) (tVar 1) (tC (.int 5))))) (tRaise W (cl "NoChart")) tNext) (tSeq (tIfS (tOr (tTest (tOp (rI0 fun i j => .bl (decide (i < j))) (tCB (rLenA cl.K) (tCons (tVar 2) tNil)) (tC (.int 1)))) (tTest (tOp (rI0 fun i j => .bl (decide (j < i))) (tCB (rLenA cl.K) (tCons (tVar 2) tNil)) (tC (.int 700))))) (tRaise W (cl "NoChart")) tNext) (tSeq (tIfS (tNot (tB (tCall (spOf cl [.pn, .pn] .pu G_rows_fit) [] E0 (tCons (tVar 1) (tCons (tVar 2) tNil))))) (tRaise W (cl "NoChart")) tNext) (tSeq (tAsg (tCall (spOf cl [.pn, .pn] .pu G_seen_back) [] E0 (tCons (tVar 1) (tCons (tVar 2) tNil))) (gName 3)) (tSeq (tIfS (tTest (tOp Mv.rIsN (tVar 3) (tC .non))) (tRaise W (cl "NoChart")) tNext) (tSeq (sFld cl.K (tVar 0) (tVar 1) "kinds") (tSeq (sFld cl.K (tVar 0) (tLc (iList cl.K (tVar 2)) (gName 4) tYes (tCB (rListA cl.K) (tCons (tVar 4) tNil)) [4]) "outs") (sFld cl.K (tVar 0) (tVar 3) "ins"))))))))
theorem ss_Chart_init (cl : Nv) (W : WX) (h0 : Cls cl.K (cl "Chart")) (h1 : NoAttr cl.K (cl "Chart") "kinds") (h2 : NoAttr cl.K (cl "Chart") "outs") (h3 : NoAttr cl.K (cl "Chart") "ins") : SS cl W [(.bo (.io 0)), .pn, .pn, .un, .un] (mdOf [(.bo (.io 0)), .pn, .pn] 5 .pu) (t_Chart_init cl W) g_Chart_init := (ss_seq [(.bo (.io 0)), .pn, .pn, .un, .un] (ss_if (set_or (set_T (se_op ops_B0 (se_var_pn (by rfl)) se_int)) (set_T (se_op ops_B0 (se_var_pn (by rfl)) se_int))) (ss_raise (by decide)) (ss_next (by decide)) (by decide)) (ss_seq [(.bo (.io 0)), .pn, .pn, .un, .un] (ss_if (set_or (set_T (se_op ops_B0 (se_call0 ca_len (sea_cons (se_var_pn (by rfl)) sea_nil)) se_int)) (set_T (se_op ops_B0 (se_call0 ca_len (sea_cons (se_var_pn (by rfl)) sea_nil)) se_int))) (ss_raise (by decide)) (ss_next (by decide)) (by decide)) (ss_seq [(.bo (.io 0)), .pn, .pn, .un, .un] (ss_if (set_not (set_B (se_fnN (pm := [.pn, .pn]) (rc := .pu) rfl (sea_cons (se_var_pn (by rfl)) (sea_cons (se_var_pn (by rfl)) sea_nil))))) (ss_raise (by decide)) (ss_next (by decide)) (by decide)) (ss_seq [(.bo (.io 0)), .pn, .pn, .pu, .un] (ss_set rfl (se_fnN (pm := [.pn, .pn]) (rc := .pu) rfl (sea_cons (se_var_pn (by rfl)) (sea_cons (se_var_pn (by rfl)) sea_nil))) (by decide) (by decide)) (ss_seq [(.bo (.io 0)), .pn, .pn, .pu, .un] (ss_if (set_T (se_op ops_isN (se_var_pu (by rfl)) se_non)) (ss_raise (by decide)) (ss_next (by decide)) (by decide)) (ss_seq [(.bo (.io 0)), .pn, .pn, .pu, .un] (ss_fldP (cc := "Chart") h0 h1 (show fldT 0 "kinds" = .fz from rfl) (sp_varB (s := (.io 0)) (by rfl)) rfl (se_imm (se_var_pn (by rfl))) (by decide) (by decide)) (ss_seq [(.bo (.io 0)), .pn, .pn, .pu, .un] (ss_fldP (cc := "Chart") h0 h2 (show fldT 0 "outs" = .fz from rfl) (sp_varB (s := (.io 0)) (by rfl)) rfl (se_lcLo (s := .fz) rfl (se_var_pn (by rfl)) set_yes (SE.toPu rfl (se_call0 ca_list (sea_cons (se_var_lo (by rfl)) sea_nil))) rfl) (by decide) (by decide)) (ss_fldP (cc := "Chart") h0 h3 (show fldT 0 "ins" = .fz from rfl) (sp_varB (s := (.io 0)) (by rfl)) rfl (se_var_pu (by rfl)) (by decide) (by decide)))))))))
abbrev N_Chart_init : List Str := [("self" : Str), ("kinds" : Str), ("table" : Str), ("ins" : Str), ("row" : Str)]
abbrev P_Chart_init : List Str := [("self" : Str), ("kinds" : Str), ("table" : Str)]

noncomputable def g_Chart_size : List D → Option Out := (sRet (eCall dLen [(eUn (dFld "Chart" "outs") (eVar 0))]))
noncomputable def G_Chart_size : List D → Option Out := fnOf g_Chart_size 1 true
noncomputable def t_Chart_size (cl : Nv) : TS := (tRet (tCB (rLenA cl.K) (tCons (tFld cl.K (tVar 0) "outs") tNil)))
theorem ss_Chart_size (cl : Nv) (W : WX) (h0 : Cls cl.K (cl "Chart")) (h1 : NoAttr cl.K (cl "Chart") "kinds") (h2 : NoAttr cl.K (cl "Chart") "outs") (h3 : NoAttr cl.K (cl "Chart") "ins") : SS cl W [.pn] (mdOf [.pn] 1 .pu) (t_Chart_size cl) g_Chart_size := (ss_ret rfl (se_call0 ca_len (sea_cons (se_fld (cc := "Chart") h0 h2 (se_var_pn (by rfl))) sea_nil)) (by decide) (by decide))
abbrev N_Chart_size : List Str := [("self" : Str)]
abbrev P_Chart_size : List Str := [("self" : Str)]

noncomputable def g_Chart_table : List D → Option Out := (sRet (eLc 1 (eUn (dFld "Chart" "outs") (eVar 0)) tT (eCall dList [(eVar 1)])))
noncomputable def G_Chart_table : List D → Option Out := fnOf g_Chart_table 2 false
noncomputable def t_Chart_table (cl : Nv) : TS := (tRet (tLc (iList cl.K (tFld cl.K (tVar 0) "outs")) (gName 1) tYes (tCB (rListA cl.K) (tCons (tVar 1) tNil)) [1]))
theorem ss_Chart_table (cl : Nv) (W : WX) (h0 : Cls cl.K (cl "Chart")) (h1 : NoAttr cl.K (cl "Chart") "kinds") (h2 : NoAttr cl.K (cl "Chart") "outs") (h3 : NoAttr cl.K (cl "Chart") "ins") : SS cl W [.pn, .un] (mdOf [.pn] 2 (.fr (.ls (.ls .fz)))) (t_Chart_table cl) g_Chart_table := (ss_retF (se_lcLo (s := (.ls .fz)) rfl (se_fld (cc := "Chart") h0 h2 (se_var_pn (by rfl))) set_yes (se_call0 ca_list (sea_cons (se_var_lo (by rfl)) sea_nil)) rfl) (by decide) (by decide))
abbrev N_Chart_table : List Str := [("self" : Str), ("row" : Str)]
abbrev P_Chart_table : List Str := [("self" : Str)]

noncomputable def g_written_b1 : List D → Option Out := (sIf (eT (eOp dIsN (eVar 5) (eC .non))) (sAppP 4 (eVar 4) pVar (eC (.str ("-" : Str)))) (sAppP 4 (eVar 4) pVar (eCall dStr [(eVar 5)])))
noncomputable def g_written_b2 : List D → Option Out := (sSeq (sSet 4 (eLst [])) (sSeq (sFor 5 (eVar 3) g_written_b1) (sAppP 2 (eVar 2) pVar (eJoin (eC (.str (" " : Str))) (eVar 4)))))
noncomputable def g_written_r1 : List D → Option Out := (sRet (eJoin (eC (.str ("\n" : Str))) (eVar 2)))
noncomputable def g_written_r2 : List D → Option Out := (sSeq (sFor 3 (eMeN "Chart" "table" G_Chart_table (eVar 0) []) g_written_b2) g_written_r1)
noncomputable def g_written_r3 : List D → Option Out := (sSeq (sSet 2 (eLst [(eJs [(eC (.str ("chart " : Str))), (eUn dFmt (eUn (dFld "Chart" "kinds") (eVar 0))), (eC (.str (" " : Str))), (eUn dFmt (eVar 1))] Str.empty)])) g_written_r2)
noncomputable def g_written : List D → Option Out := (sSeq (sSet 1 (eMeN "Chart" "size" G_Chart_size (eVar 0) [])) g_written_r3)
noncomputable def G_written : List D → Option Out := fnOf g_written 6 true
noncomputable def t_written (cl : Nv) : TS := (tSeq (tAsg (tMeth (cl "Chart") "size" (spOf cl [.pn] .pu G_Chart_size) [] E0 (tVar 0) tNil) (gName 1)) (tSeq (tAsg (tLst (tCons (tJoin [(tC (.str ("chart " : Str))), (tFmt (tFld cl.K (tVar 0) "kinds")), (tC (.str (" " : Str))), (tFmt (tVar 1))]) tNil)) (gName 2)) (tSeq (tFor (iList cl.K (tMeth (cl "Chart") "table" (spOf cl [.pn] (.fr (.ls (.ls .fz))) G_Chart_table) [] E0 (tVar 0) tNil)) (gName 3) (tSeq (tAsg (tLst tNil) (gName 4)) (tSeq (tFor (iList cl.K (tVar 3)) (gName 5) (tIfS (tTest (tOp Mv.rIsN (tVar 5) (tC .non))) (tDrop (tBM cl.K "list" rAppend (tVar 4) (tCons (tC (.str ("-" : Str))) tNil))) (tDrop (tBM cl.K "list" rAppend (tVar 4) (tCons (tCB rStrI (tCons (tVar 5) tNil)) tNil))))) (tDrop (tBM cl.K "list" rAppend (tVar 2) (tCons (tM1 (rJn cl.K) (tC (.str (" " : Str))) (tVar 4)) tNil)))))) (tRet (tM1 (rJn cl.K) (tC (.str ("\n" : Str))) (tVar 2))))))
theorem ss_written (cl : Nv) (W : WX) (h0 : Cls cl.K (cl "Chart")) (h1 : NoAttr cl.K (cl "Chart") "kinds") (h2 : NoAttr cl.K (cl "Chart") "outs") (h3 : NoAttr cl.K (cl "Chart") "ins") : SS cl W [.pn, .un, .un, .un, .un, .un] (mdOf [.pn] 6 .pu) (t_written cl) g_written := (ss_seq [.pn, .pu, .un, .un, .un, .un] (ss_set rfl (se_meN (pm := [.pn]) (rc := .pu) (cs := []) rfl (se_var_pn (by rfl)) sea_nil) (by decide) (by decide)) (ss_seq [.pn, .pu, (.ow (.ls .fz)), .un, .un, .un] (ss_setO (se_lst rfl (sea_cons (se_js (SEj.cons se_str (SEj.cons (se_fmt (se_fld (cc := "Chart") h0 h1 (se_var_pn (by rfl)))) (SEj.cons se_str (SEj.cons (se_fmt (se_var_pu (by rfl))) SEj.nil))))) sea_nil)) (by decide) (by decide)) (ss_seq [.pn, .pu, (.ow (.ls .fz)), .un, .un, .un] (ss_for [.pn, .pu, (.ow (.ls .fz)), .un, .un, .un] rfl (se_meN (pm := [.pn]) (rc := (.fr (.ls (.ls .fz)))) (cs := []) rfl (se_var_pn (by rfl)) sea_nil) (by decide) (by decide) (by decide) (ss_seq [.pn, .pu, (.ow (.ls .fz)), .pu, (.ow (.ls .fz)), .un] (ss_setO (se_nilT (s := .fz)) (by decide) (by decide)) (ss_seq [.pn, .pu, (.ow (.ls .fz)), .pu, (.ow (.ls .fz)), .un] (ss_for [.pn, .pu, (.ow (.ls .fz)), .pu, (.ow (.ls .fz)), .un] rfl (se_var_pu (by rfl)) (by decide) (by decide) (by decide) (ss_if (set_T (se_op ops_isN (se_var_pu (by rfl)) se_non)) (ss_appP (sp_var (s := (.ls .fz)) (by rfl)) rfl se_str (by decide) (by decide)) (ss_appP (sp_var (s := (.ls .fz)) (by rfl)) rfl (se_call0 ca_str (sea_cons (se_var_pu (by rfl)) sea_nil)) (by decide) (by decide)) (by decide))) (ss_appP (sp_var (s := (.ls .fz)) (by rfl)) rfl (se_join se_str (se_var (m := (.ow (.ls .fz))) (by rfl) rfl)) (by decide) (by decide))))) (ss_ret rfl (se_join se_str (se_var (m := (.ow (.ls .fz))) (by rfl) rfl)) (by decide) (by decide)))))
abbrev N_written : List Str := [("chart" : Str), ("many" : Str), ("lines" : Str), ("outs" : Str), ("words" : Str), ("end" : Str)]
abbrev P_written : List Str := [("chart" : Str)]

noncomputable def g_read_chart_b1 : List D → Option Out := (sAppP 4 (eVar 4) pVar (eLcX 6 (eSpl (eVar 5) (eC (.str (" " : Str)))) (eFn G_entry_of [(eVar 6)])))
noncomputable def g_read_chart_r1 : List D → Option Out := (sRet (eVar 7))
noncomputable def g_read_chart_r2 : List D → Option Out := (sSeq (sIf (eT (eOp dNe (eFnN G_written [(eVar 7)]) (eVar 0))) (sRaise "NoChart") sNext) g_read_chart_r1)
noncomputable def g_read_chart_r3 : List D → Option Out := (sSeq (sSet 7 (eMake "Chart" G_Chart_init [(eVar 3), (eVar 4)])) g_read_chart_r2)
noncomputable def g_read_chart_r4 : List D → Option Out := (sSeq (sFor 5 (eSl (eVar 1) (some (eC (.int 1))) none) g_read_chart_b1) g_read_chart_r3)
noncomputable def g_read_chart_r5 : List D → Option Out := (sSeq (sSet 4 (eLst [])) g_read_chart_r4)
noncomputable def g_read_chart_r6 : List D → Option Out := (sSeq (sDrop (eFn G_count_of [(eOp dIx (eVar 2) (eC (.int 2)))])) g_read_chart_r5)
noncomputable def g_read_chart_r7 : List D → Option Out := (sSeq (sSet 3 (eFn G_count_of [(eOp dIx (eVar 2) (eC (.int 1)))])) g_read_chart_r6)
noncomputable def g_read_chart_r8 : List D → Option Out := (sSeq (sIf (eOr (eT (eOp dNe (eCall dLen [(eVar 2)]) (eC (.int 3)))) (eT (eOp dNe (eOp dIx (eVar 2) (eC (.int 0))) (eC (.str ("chart" : Str)))))) (sRaise "NoChart") sNext) g_read_chart_r7)
noncomputable def g_read_chart_r9 : List D → Option Out := (sSeq (sSet 2 (eSpl (eOp dIx (eVar 1) (eC (.int 0))) (eC (.str (" " : Str))))) g_read_chart_r8)
noncomputable def g_read_chart : List D → Option Out := (sSeq (sSet 1 (eSpl (eVar 0) (eC (.str ("\n" : Str))))) g_read_chart_r9)
noncomputable def G_read_chart : List D → Option Out := fnOf g_read_chart 8 true
noncomputable def t_read_chart (cl : Nv) (W : WX) : TS := (tSeq (tAsg (tM1 rSpl (tVar 0) (tC (.str ("\n" : Str)))) (gName 1)) (tSeq (tAsg (tM1 rSpl (tOp (rIx cl.K) (tVar 1) (tC (.int 0))) (tC (.str (" " : Str)))) (gName 2)) (tSeq (tIfS (tOr (tTest (tOp (rNeD cl.K) (tCB (rLenA cl.K) (tCons (tVar 2) tNil)) (tC (.int 3)))) (tTest (tOp (rNeD cl.K) (tOp (rIx cl.K) (tVar 2) (tC (.int 0))) (tC (.str ("chart" : Str)))))) (tRaise W (cl "NoChart")) tNext) (tSeq (tAsg (tCallS (spOf cl [.pn] .pu G_count_of) (WE W) (tCons (tOp (rIx cl.K) (tVar 2) (tC (.int 1))) tNil)) (gName 3)) (tSeq (tDrop (tCallS (spOf cl [.pn] .pu G_count_of) (WE W) (tCons (tOp (rIx cl.K) (tVar 2) (tC (.int 2))) tNil))) (tSeq (tAsg (tLst tNil) (gName 4)) (tSeq (tFor (iList cl.K (tSl (rSlL cl.K) (tVar 1) (tPart (tC (.int 1))) tNoPart)) (gName 5) (tDrop (tBM cl.K "list" rAppend (tVar 4) (tCons (tLcX (iList cl.K (tM1 rSpl (tVar 5) (tC (.str (" " : Str))))) (gName 6) (fun s0 => (tCallS (spOf cl [.pn] .pu G_entry_of) (WE (Wc W s0)) (tCons (tVar 6) tNil))) [6]) tNil)))) (tSeq (tAsg (tMakeS (cl "Chart") (spOf cl (.bo (.io 0) :: [.pn, .pn]) .pu G_Chart_init) (WE W) (tCons (tVar 3) (tCons (tVar 4) tNil))) (gName 7)) (tSeq (tIfS (tTest (tOp (rNeD cl.K) (tCall (spOf cl [.pn] .pu G_written) [] E0 (tCons (tVar 7) tNil)) (tVar 0))) (tRaise W (cl "NoChart")) tNext) (tRet (tVar 7)))))))))))
theorem ss_read_chart (cl : Nv) (W : WX) (h0 : Cls cl.K (cl "Chart")) (h1 : NoAttr cl.K (cl "Chart") "kinds") (h2 : NoAttr cl.K (cl "Chart") "outs") (h3 : NoAttr cl.K (cl "Chart") "ins") : SS cl W [.pn, .un, .un, .un, .un, .un, .un, .un] (mdOf [.pn] 8 .pu) (t_read_chart cl W) g_read_chart := (ss_seq [.pn, .pu, .un, .un, .un, .un, .un, .un] (ss_set rfl (se_spl (se_var_pn (by rfl)) se_str) (by decide) (by decide)) (ss_seq [.pn, .pu, .pu, .un, .un, .un, .un, .un] (ss_set rfl (se_spl (se_ix (se_var_pu (by rfl)) se_int) se_str) (by decide) (by decide)) (ss_seq [.pn, .pu, .pu, .un, .un, .un, .un, .un] (ss_if (set_or (set_T (se_op ops_ne (se_call0 ca_len (sea_cons (se_var_pu (by rfl)) sea_nil)) se_int)) (set_T (se_op ops_ne (se_ix (se_var_pu (by rfl)) se_int) se_str))) (ss_raise (by decide)) (ss_next (by decide)) (by decide)) (ss_seq [.pn, .pu, .pu, .pu, .un, .un, .un, .un] (ss_set rfl (se_fn (pm := [.pn]) (rc := .pu) rfl (sea_cons (se_ix (se_var_pu (by rfl)) se_int) sea_nil)) (by decide) (by decide)) (ss_seq [.pn, .pu, .pu, .pu, .un, .un, .un, .un] (ss_drop (se_fn (pm := [.pn]) (rc := .pu) rfl (sea_cons (se_ix (se_var_pu (by rfl)) se_int) sea_nil)) (by decide) (by decide)) (ss_seq [.pn, .pu, .pu, .pu, (.ow (.ls .fz)), .un, .un, .un] (ss_setO (se_nilT (s := .fz)) (by decide) (by decide)) (ss_seq [.pn, .pu, .pu, .pu, (.ow (.ls .fz)), .un, .un, .un] (ss_for [.pn, .pu, .pu, .pu, (.ow (.ls .fz)), .un, .un, .un] rfl (se_sl (se_var_pu (by rfl)) (seo_some se_int) seo_none) (by decide) (by decide) (by decide) (ss_appP (sp_var (s := (.ls .fz)) (by rfl)) rfl (SE.toPu rfl (se_lcX rfl (se_spl (se_var_pu (by rfl)) se_str) (fun s0 => (se_fn (pm := [.pn]) (rc := .pu) rfl (sea_cons (se_var_pu (by rfl)) sea_nil))) rfl)) (by decide) (by decide))) (ss_seq [.pn, .pu, .pu, .pu, (.ow (.ls .fz)), .un, .un, .pu] (ss_set rfl (se_make (pm := [.pn, .pn]) rfl (sea_cons (se_var_pu (by rfl)) (sea_cons (se_var (m := (.ow (.ls .fz))) (by rfl) rfl) sea_nil))) (by decide) (by decide)) (ss_seq [.pn, .pu, .pu, .pu, (.ow (.ls .fz)), .un, .un, .pu] (ss_if (set_T (se_op ops_ne (se_fnN (pm := [.pn]) (rc := .pu) rfl (sea_cons (se_var_pu (by rfl)) sea_nil)) (se_var_pn (by rfl)))) (ss_raise (by decide)) (ss_next (by decide)) (by decide)) (ss_ret rfl (se_var_pu (by rfl)) (by decide) (by decide)))))))))))
abbrev N_read_chart : List Str := [("text" : Str), ("lines" : Str), ("head" : Str), ("kinds" : Str), ("table" : Str), ("line" : Str), ("word" : Str), ("chart" : Str)]
abbrev P_read_chart : List Str := [("text" : Str)]

noncomputable def g_law_due_r1 : List D → Option Out := (sRet (eOp dAdd (eLst [(eC (.bl true))]) (eLc 2 (eOp dAdd (eVar 1) (eLst [(eC (.str ("Full" : Str)))])) tT (eOp dEq (eVar 2) (eVar 0)))))
noncomputable def g_law_due : List D → Option Out := (sSeq (sSet 1 (eLst [(eC (.str ("NoKind" : Str))), (eC (.str ("NoWay" : Str))), (eC (.str ("NoMark" : Str))), (eC (.str ("NoEntry" : Str))), (eC (.str ("NoHold" : Str))), (eC (.str ("NoChamber" : Str))), (eC (.str ("NoChart" : Str))), (eC (.str ("NoCave" : Str))), (eC (.str ("NoHome" : Str))), (eC (.str ("Barred" : Str)))])) g_law_due_r1)
noncomputable def G_law_due : List D → Option Out := fnOf g_law_due 3 true
noncomputable def t_law_due (cl : Nv) : TS := (tSeq (tAsg (tLst (tCons (tC (.str ("NoKind" : Str))) (tCons (tC (.str ("NoWay" : Str))) (tCons (tC (.str ("NoMark" : Str))) (tCons (tC (.str ("NoEntry" : Str))) (tCons (tC (.str ("NoHold" : Str))) (tCons (tC (.str ("NoChamber" : Str))) (tCons (tC (.str ("NoChart" : Str))) (tCons (tC (.str ("NoCave" : Str))) (tCons (tC (.str ("NoHome" : Str))) (tCons (tC (.str ("Barred" : Str))) tNil))))))))))) (gName 1)) (tRet (tOp (rAddA cl.K) (tLst (tCons (tC (.bl true)) tNil)) (tLc (iList cl.K (tOp (rAddA cl.K) (tVar 1) (tLst (tCons (tC (.str ("Full" : Str))) tNil)))) (gName 2) tYes (tOp (rEqD cl.K) (tVar 2) (tVar 0)) [2]))))
theorem ss_law_due (cl : Nv) (W : WX) (h0 : Cls cl.K (cl "Chart")) (h1 : NoAttr cl.K (cl "Chart") "kinds") (h2 : NoAttr cl.K (cl "Chart") "outs") (h3 : NoAttr cl.K (cl "Chart") "ins") : SS cl W [.pn, .un, .un] (mdOf [.pn] 3 .pu) (t_law_due cl) g_law_due := (ss_seq [.pn, .pu, .un] (ss_set rfl (se_lst rfl (sea_cons se_str (sea_cons se_str (sea_cons se_str (sea_cons se_str (sea_cons se_str (sea_cons se_str (sea_cons se_str (sea_cons se_str (sea_cons se_str (sea_cons se_str sea_nil))))))))))) (by decide) (by decide)) (ss_ret rfl (se_op ops_add (se_lst rfl (sea_cons se_bl sea_nil)) (se_lc (s := .fz) rfl (se_op ops_add (se_var_pu (by rfl)) (se_lst rfl (sea_cons se_str sea_nil))) set_yes (se_op ops_eq (se_var_pu (by rfl)) (se_var_pn (by rfl))) rfl)) (by decide) (by decide)))
abbrev N_law_due : List Str := [("_law_want" : Str), ("_law_names" : Str), ("_law_name" : Str)]
abbrev P_law_due : List Str := [("_law_want" : Str)]

noncomputable def g_law_same_table_b1 : List D → Option Out := (sIf (eAnd (eT (eOp dNotN (eVar 3) (eC .non))) (eOr (eNot (eT (eUn (dIsi "int") (eVar 3)))) (eT (eUn (dIsi "bool") (eVar 3))))) (sRet (eC (.bl false))) sNext)
noncomputable def g_law_same_table_b2 : List D → Option Out := (sSeq (sIf (eNot (eT (eUn (dIsi "list") (eVar 2)))) (sRet (eC (.bl false))) sNext) (sFor 3 (eVar 2) g_law_same_table_b1))
noncomputable def g_law_same_table_r1 : List D → Option Out := (sRet (eC (.bl true)))
noncomputable def g_law_same_table_r2 : List D → Option Out := (sSeq (sFor 2 (eVar 0) g_law_same_table_b2) g_law_same_table_r1)
noncomputable def g_law_same_table : List D → Option Out := (sSeq (sIf (eOr (eNot (eT (eUn (dIsi "list") (eVar 0)))) (eT (eOp dNe (eVar 0) (eVar 1)))) (sRet (eC (.bl false))) sNext) g_law_same_table_r2)
noncomputable def G_law_same_table : List D → Option Out := fnOf g_law_same_table 4 true
noncomputable def t_law_same_table (cl : Nv) : TS := (tSeq (tIfS (tOr (tNot (tB (tIsi cl.K "list" (tVar 0)))) (tTest (tOp (rNeD cl.K) (tVar 0) (tVar 1)))) (tRet (tC (.bl false))) tNext) (tSeq (tFor (iList cl.K (tVar 0)) (gName 2) (tSeq (tIfS (tNot (tB (tIsi cl.K "list" (tVar 2)))) (tRet (tC (.bl false))) tNext) (tFor (iList cl.K (tVar 2)) (gName 3) (tIfS (tAnd (tTest (tOp Mv.rNotN (tVar 3) (tC .non))) (tOr (tNot (tB (tIsi cl.K "int" (tVar 3)))) (tB (tIsi cl.K "bool" (tVar 3))))) (tRet (tC (.bl false))) tNext)))) (tRet (tC (.bl true)))))
theorem ss_law_same_table (cl : Nv) (W : WX) (h0 : Cls cl.K (cl "Chart")) (h1 : NoAttr cl.K (cl "Chart") "kinds") (h2 : NoAttr cl.K (cl "Chart") "outs") (h3 : NoAttr cl.K (cl "Chart") "ins") : SS cl W [.pn, .pn, .un, .un] (mdOf [.pn, .pn] 4 .pu) (t_law_same_table cl) g_law_same_table := (ss_seq [.pn, .pn, .un, .un] (ss_if (set_or (set_not (set_B (se_isi rfl (se_var_pn (by rfl))))) (set_T (se_op ops_ne (se_var_pn (by rfl)) (se_var_pn (by rfl))))) (ss_ret rfl se_bl (by decide) (by decide)) (ss_next (by decide)) (by decide)) (ss_seq [.pn, .pn, .un, .un] (ss_forLo [.pn, .pn, .un, .un] rfl (se_var_pn (by rfl)) (by decide) (by decide) (by decide) (ss_seq [.pn, .pn, .lo, .un] (ss_if (set_not (set_B (se_isi rfl (se_var_lo (by rfl))))) (ss_ret rfl se_bl (by decide) (by decide)) (ss_next (by decide)) (by decide)) (ss_forLo [.pn, .pn, .lo, .un] rfl (se_var_lo (by rfl)) (by decide) (by decide) (by decide) (ss_if (set_and (set_T (se_op ops_notN (se_var_lo (by rfl)) se_non)) (set_or (set_not (set_B (se_isi rfl (se_var_lo (by rfl))))) (set_B (se_isi rfl (se_var_lo (by rfl)))))) (ss_ret rfl se_bl (by decide) (by decide)) (ss_next (by decide)) (by decide))))) (ss_ret rfl se_bl (by decide) (by decide))))
abbrev N_law_same_table : List Str := [("_law_found" : Str), ("_law_due_here" : Str), ("_law_outs" : Str), ("_law_end" : Str)]
abbrev P_law_same_table : List Str := [("_law_found" : Str), ("_law_due_here" : Str)]

noncomputable def g_law_r1 : List D → Option Out := (sRet (eAndV (eOp dEq (eVar 8) (eLst [])) (eAndV (eOp dEq (eUn (dFld "Chart" "kinds") (eVar 7)) (eCall dLen [(eOp dIx (eVar 6) (eC (.int 0)))])) (eFnN G_law_same_table [(eMeN "Chart" "table" G_Chart_table (eVar 7) []), (eVar 6)]))))
noncomputable def g_law_r2 : List D → Option Out := (sSeq (sIf (eT (eOp dIsN (eVar 6) (eC .non))) (sRet (eOp dEq (eVar 8) (eFnN G_law_due [(eC (.str ("NoChart" : Str)))]))) sNext) g_law_r1)
noncomputable def g_law_r3 : List D → Option Out := (sSeq (sTryBad 8 ["NoChart"] (sSet 7 (eFn G_read_chart [(eVar 5)]))) g_law_r2)
noncomputable def g_law_r4 : List D → Option Out := (sSeq (sSet 8 (eLst [])) g_law_r3)
noncomputable def g_law_r5 : List D → Option Out := (sSeq (sSet 7 (eC .non)) g_law_r4)
noncomputable def g_law_r6 : List D → Option Out := (sSeq (sSet 6 (eFnN G_law_read [(eVar 5)])) g_law_r5)
noncomputable def g_law_r7 : List D → Option Out := (sSeq (sSet 5 (eFnN G_law_spoilt [(eFnN G_law_written [(eVar 2), (eVar 4)]), (eSl (eVar 1) (some (eC (.int 5))) (some (eC (.int 9))))])) g_law_r6)
noncomputable def g_law_r8 : List D → Option Out := (sSeq (sSet 4 (eFnN G_law_table [(eVar 2), (eVar 3), (eSl (eVar 1) (some (eC (.int 50))) none), (eOp dMod (eOp dIx (eVar 1) (eC (.int 3))) (eC (.int 7)))])) g_law_r7)
noncomputable def g_law_r9 : List D → Option Out := (sSeq (sIf (eT (eOp dEq (eOp dMod (eOp dIx (eVar 1) (eC (.int 2))) (eC (.int 8))) (eC (.int 1)))) (sSet 3 (eOp dAdd (eC (.int 1)) (eOp dMod (eOp dIx (eVar 1) (eC (.int 1))) (eC (.int 30))))) sNext) g_law_r8)
noncomputable def g_law_r10 : List D → Option Out := (sSeq (sSet 3 (eOp dAdd (eC (.int 1)) (eOp dMod (eOp dIx (eVar 1) (eC (.int 1))) (eC (.int 9))))) g_law_r9)
noncomputable def g_law_r11 : List D → Option Out := (sSeq (sSet 2 (eOp dAdd (eC (.int 1)) (eOp dMod (eOp dIx (eVar 1) (eC (.int 0))) (eC (.int 5))))) g_law_r10)
noncomputable def g_law : List D → Option Out := (sSeq (sSet 1 (fun env => bd (lift env[0]?) fun s => bd ((eC (.int 210)) env) fun y => ofOutN (G_law_numbers [s, y]))) g_law_r11)
noncomputable def G_law : List D → Option Out := fnOf g_law 10 true
noncomputable def t_law (cl : Nv) : TS := (tSeq (tAsg (tCall (spOf cl [.sc, .pn] (.fr (.ls .fz)) G_law_numbers) [] E0 (tCons (tVar 0) (tCons (tC (.int 210)) tNil))) (gName 1)) (tSeq (tAsg (tOp (rAddA cl.K) (tC (.int 1)) (tOp (rI (fun _ j => 0 < j) fun i j => .int (i % j)) (tOp (rIx cl.K) (tVar 1) (tC (.int 0))) (tC (.int 5)))) (gName 2)) (tSeq (tAsg (tOp (rAddA cl.K) (tC (.int 1)) (tOp (rI (fun _ j => 0 < j) fun i j => .int (i % j)) (tOp (rIx cl.K) (tVar 1) (tC (.int 1))) (tC (.int 9)))) (gName 3)) (tSeq (tIfS (tTest (tOp (rEqD cl.K) (tOp (rI (fun _ j => 0 < j) fun i j => .int (i % j)) (tOp (rIx cl.K) (tVar 1) (tC (.int 2))) (tC (.int 8))) (tC (.int 1)))) (tAsg (tOp (rAddA cl.K) (tC (.int 1)) (tOp (rI (fun _ j => 0 < j) fun i j => .int (i % j)) (tOp (rIx cl.K) (tVar 1) (tC (.int 1))) (tC (.int 30)))) (gName 3)) tNext) (tSeq (tAsg (tCall (spOf cl [.pn, .pn, .pn, .pn] (.fr (.ls (.ls .fz))) G_law_table) [] E0 (tCons (tVar 2) (tCons (tVar 3) (tCons (tSl (rSlL cl.K) (tVar 1) (tPart (tC (.int 50))) tNoPart) (tCons (tOp (rI (fun _ j => 0 < j) fun i j => .int (i % j)) (tOp (rIx cl.K) (tVar 1) (tC (.int 3))) (tC (.int 7))) tNil))))) (gName 4)) (tSeq (tAsg (tCall (spOf cl [.pn, .pn] .pu G_law_spoilt) [] E0 (tCons (tCall (spOf cl [.pn, .pn] .pu G_law_written) [] E0 (tCons (tVar 2) (tCons (tVar 4) tNil))) (tCons (tSl (rSlL cl.K) (tVar 1) (tPart (tC (.int 5))) (tPart (tC (.int 9)))) tNil))) (gName 5)) (tSeq (tAsg (tCall (spOf cl [.pn] .pu G_law_read) [] E0 (tCons (tVar 5) tNil)) (gName 6)) (tSeq (tAsg (tC .non) (gName 7)) (tSeq (tAsg (tLst tNil) (gName 8)) (tSeq (tTryBad cl ["NoChart"] 9 8 (fun W => (tAsg (tCallS (spOf cl [.pn] .pu G_read_chart) (WE W) (tCons (tVar 5) tNil)) (gName 7)))) (tSeq (tIfS (tTest (tOp Mv.rIsN (tVar 6) (tC .non))) (tRet (tOp (rEqD cl.K) (tVar 8) (tCall (spOf cl [.pn] .pu G_law_due) [] E0 (tCons (tC (.str ("NoChart" : Str))) tNil)))) tNext) (tRet (tAndV (tOp (rEqD cl.K) (tVar 8) (tLst tNil)) (tAndV (tOp (rEqD cl.K) (tFld cl.K (tVar 7) "kinds") (tCB (rLenA cl.K) (tCons (tOp (rIx cl.K) (tVar 6) (tC (.int 0))) tNil))) (tCall (spOf cl [.pn, .pn] .pu G_law_same_table) [] E0 (tCons (tMeth (cl "Chart") "table" (spOf cl [.pn] (.fr (.ls (.ls .fz))) G_Chart_table) [] E0 (tVar 7) tNil) (tCons (tVar 6) tNil)))))))))))))))))
theorem ss_law (cl : Nv) (W : WX) (h0 : Cls cl.K (cl "Chart")) (h1 : NoAttr cl.K (cl "Chart") "kinds") (h2 : NoAttr cl.K (cl "Chart") "outs") (h3 : NoAttr cl.K (cl "Chart") "ins") (F : ∀ x ∈ (["NoChart"] : List String), ExF cl x) : SS cl W [.sc, .un, .un, .un, .un, .un, .un, .un, .un, .un] (mdOf [.sc] 10 .pu) (t_law cl) g_law := (ss_seq [.sc, .pu, .un, .un, .un, .un, .un, .un, .un, .un] (ss_set rfl (se_fnSc (rc := (.fr (.ls .fz))) (by rfl) se_int) (by decide) (by decide)) (ss_seq [.sc, .pu, .pu, .un, .un, .un, .un, .un, .un, .un] (ss_set rfl (se_op ops_add se_int (se_op ops_Ic (se_ix (se_var_pu (by rfl)) se_int) se_int)) (by decide) (by decide)) (ss_seq [.sc, .pu, .pu, .pu, .un, .un, .un, .un, .un, .un] (ss_set rfl (se_op ops_add se_int (se_op ops_Ic (se_ix (se_var_pu (by rfl)) se_int) se_int)) (by decide) (by decide)) (ss_seq [.sc, .pu, .pu, .pu, .un, .un, .un, .un, .un, .un] (ss_if (set_T (se_op ops_eq (se_op ops_Ic (se_ix (se_var_pu (by rfl)) se_int) se_int) se_int)) (ss_set rfl (se_op ops_add se_int (se_op ops_Ic (se_ix (se_var_pu (by rfl)) se_int) se_int)) (by decide) (by decide)) (ss_next (by decide)) (by decide)) (ss_seq [.sc, .pu, .pu, .pu, .pu, .un, .un, .un, .un, .un] (ss_set rfl (se_fnN (pm := [.pn, .pn, .pn, .pn]) (rc := (.fr (.ls (.ls .fz)))) rfl (sea_cons (se_var_pu (by rfl)) (sea_cons (se_var_pu (by rfl)) (sea_cons (se_sl (se_var_pu (by rfl)) (seo_some se_int) seo_none) (sea_cons (se_op ops_Ic (se_ix (se_var_pu (by rfl)) se_int) se_int) sea_nil))))) (by decide) (by decide)) (ss_seq [.sc, .pu, .pu, .pu, .pu, .pu, .un, .un, .un, .un] (ss_set rfl (se_fnN (pm := [.pn, .pn]) (rc := .pu) rfl (sea_cons (se_fnN (pm := [.pn, .pn]) (rc := .pu) rfl (sea_cons (se_var_pu (by rfl)) (sea_cons (se_var_pu (by rfl)) sea_nil))) (sea_cons (se_sl (se_var_pu (by rfl)) (seo_some se_int) (seo_some se_int)) sea_nil))) (by decide) (by decide)) (ss_seq [.sc, .pu, .pu, .pu, .pu, .pu, .pu, .un, .un, .un] (ss_set rfl (se_fnN (pm := [.pn]) (rc := .pu) rfl (sea_cons (se_var_pu (by rfl)) sea_nil)) (by decide) (by decide)) (ss_seq [.sc, .pu, .pu, .pu, .pu, .pu, .pu, .pu, .un, .un] (ss_set rfl se_non (by decide) (by decide)) (ss_seq [.sc, .pu, .pu, .pu, .pu, .pu, .pu, .pu, .pu, .un] (ss_set rfl (se_lst rfl sea_nil) (by decide) (by decide)) (ss_seq [.sc, .pu, .pu, .pu, .pu, .pu, .pu, .pu, .pu, .un] (ss_tryBad [.sc, .pu, .pu, .pu, .pu, .pu, .pu, .pu, .pu, .un] (by rfl) (by decide) (by decide) (by decide) (by rfl) F (fun W => (ss_set rfl (se_fn (pm := [.pn]) (rc := .pu) rfl (sea_cons (se_var_pu (by rfl)) sea_nil)) (by decide) (by decide)))) (ss_seq [.sc, .pu, .pu, .pu, .pu, .pu, .pu, .pu, .pu, .un] (ss_if (set_T (se_op ops_isN (se_var_pu (by rfl)) se_non)) (ss_ret rfl (se_op ops_eq (se_var_pu (by rfl)) (se_fnN (pm := [.pn]) (rc := .pu) rfl (sea_cons se_str sea_nil))) (by decide) (by decide)) (ss_next (by decide)) (by decide)) (ss_ret rfl (se_andV (se_op ops_eq (se_var_pu (by rfl)) (se_lst rfl sea_nil)) (se_andV (se_op ops_eq (se_fld (cc := "Chart") h0 h1 (se_var_pu (by rfl))) (se_call0 ca_len (sea_cons (se_ix (se_var_pu (by rfl)) se_int) sea_nil))) (se_fnN (pm := [.pn, .pn]) (rc := .pu) rfl (sea_cons (se_meN (pm := [.pn]) (rc := (.fr (.ls (.ls .fz)))) (cs := []) rfl (se_var_pu (by rfl)) sea_nil) (sea_cons (se_var_pu (by rfl)) sea_nil))))) (by decide) (by decide)))))))))))))
abbrev N_law : List Str := [("_law_script" : Str), ("_law_numbers_here" : Str), ("_law_kinds" : Str), ("_law_size" : Str), ("_law_table_here" : Str), ("_law_text" : Str), ("_law_due_here" : Str), ("_law_found" : Str), ("_law_bad" : Str), ("e" : Str)]
abbrev P_law : List Str := [("_law_script" : Str)]

end Lw

namespace Lw
open PySem L2 Mv
noncomputable def T_law_numbers_b2 (s12 : ((List Int) × Int)) (k : Int) : Option ((List Int) × Int) :=
  (if (decide ((0 : Int) < s12.2)) = true then
    (modT s12.2 (1000 : Int)).bind fun x16 =>
    (appT s12.1 x16).bind fun x17 =>
    (divT s12.2 (1000 : Int)).bind fun x18 =>
    some (x17, x18)
    else
    some (s12.1, s12.2)).bind fun s14 : ((List Int) × Int) =>
  some (s14.1, s14.2)
noncomputable def T_law_numbers_b1 (s1 : ((List Int) × Int)) (cell : Int) : Option ((List Int) × Int) :=
  (mulT s1.2 (48271 : Int)).bind fun x3 =>
  (modT cell (1000003 : Int)).bind fun x4 =>
  (modT ((x3 + x4) + (11 : Int)) (2147483647 : Int)).bind fun x5 =>
  (some (cell - (1000000000000000000 : Int))).bind fun x6 =>
  (if (decide (x6 < (0 : Int))) = true then
    (modT cell (1000 : Int)).bind fun x9 =>
    (appT s1.1 x9).bind fun x10 =>
    some x10
    else
    some s1.1).bind fun s7 : (List Int) =>
  (rg1T (60 : Int)).bind fun x11 =>
  (forO T_law_numbers_b2 x11 (s7, x6)).bind fun s12 : ((List Int) × Int) =>
  some (s12.1, x5)
noncomputable def T_law_numbers_t3 (many : Int) (s19 : ((List Int) × Int)) : Option Bool :=
  (some (decide ((s19.1.length : Int) < many)))
noncomputable def T_law_numbers_b3 (many : Int) (s19 : ((List Int) × Int)) : Option ((List Int) × Int) :=
  (mulT s19.2 s19.2).bind fun x22 =>
  (mulT (69621 : Int) s19.2).bind fun x23 =>
  (mulT (7 : Int) (s19.1.length : Int)).bind fun x24 =>
  (modT (((x22 + x23) + x24) + (5 : Int)) (2147483629 : Int)).bind fun x25 =>
  (divT x25 (1009 : Int)).bind fun x26 =>
  (modT x26 (1000 : Int)).bind fun x27 =>
  (appT s19.1 x27).bind fun x28 =>
  some (x28, x25)
noncomputable def T_law_numbers (script : (List Int)) (many : Int) : Option (List Int) :=
  (forO T_law_numbers_b1 (cutL script none (some (63 : Int))) (([] : (List Int)), (17 : Int))).bind fun s1 : ((List Int) × Int) =>
  (whO (T_law_numbers_t3 many) (T_law_numbers_b3 many) (s1.1, s1.2)).bind fun s19 : ((List Int) × Int) =>
  some (cutL s19.1 none (some many))
theorem ts_law_numbers (script : (List Int)) (many : Int) : Sm (RoV (eL D.int) (fun _ _ => True)) (T_law_numbers script many) (g_law_numbers [((eL D.int) script), (D.int many), .non, .non, .non, .non, .non]) := by
  unfold T_law_numbers
  exact (sn_set ((eL D.int) ([] : (List Int))) [((eL D.int) script), (D.int many), ((eL D.int) ([] : (List Int))), .non, .non, .non, .non] (yi_lst ya_nil) rfl (sn_set (D.int (17 : Int)) [((eL D.int) script), (D.int many), ((eL D.int) ([] : (List Int))), (D.int (17 : Int)), .non, .non, .non] yi_c rfl (sn_for (e := D.int) (B := T_law_numbers_b1) (s0 := (([] : (List Int)), (17 : Int))) (fun (s1 : ((List Int) × Int)) (δ2 : Nat → D) => [((eL D.int) script), (D.int many), ((eL D.int) s1.1), (D.int s1.2), (δ2 4), (δ2 5), (δ2 6)]) (sr_list (yi_sl im_int (yi_var rfl) yo_n (yo_s yi_c))) (by first | rfl | (simp [eL, List.map_set, List.map_append, List.map_map, Function.comp_def]; done) | (simp [eL, eO, List.map_set, List.map_append, List.map_map, Function.comp_def]; rfl)) (fun s1 cell δ2 => sm_env (env' := [((eL D.int) script), (D.int many), ((eL D.int) s1.1), (D.int s1.2), (D.int cell), (δ2 5), (δ2 6)]) rfl (sm_bind fun x3 h_x3 => (sm_bind fun x4 h_x4 => (sm_bind fun x5 h_x5 => (sn_set (D.int x5) [((eL D.int) script), (D.int many), ((eL D.int) s1.1), (D.int x5), (D.int cell), (δ2 5), (δ2 6)] (yi_op (yi_op (yi_op (yi_op (yi_var rfl) yi_c (mulT_ok _ _ _ h_x3)) (yi_op (yi_var rfl) yi_c (modT_ok _ _ _ h_x4)) rfl) yi_c rfl) yi_c (modT_ok _ _ _ h_x5)) rfl (sm_bind fun x6 h_x6 => (sn_set (D.int x6) [((eL D.int) script), (D.int many), ((eL D.int) s1.1), (D.int x5), (D.int cell), (D.int x6), (δ2 6)] (yi_nm (e := D.int) h_x6 (yi_op (yi_var rfl) (yi_op yi_c yi_c rfl) rfl)) rfl (sn_if (fun (s7 : (List Int)) (δ8 : Nat → D) => [((eL D.int) script), (D.int many), ((eL D.int) s7), (D.int x5), (D.int cell), (D.int x6), (δ2 6)]) (te_T (yi_op (yi_var rfl) yi_c rfl)) (sm_bind fun x9 h_x9 => (sm_bind fun x10 h_x10 => (sm_end (sn_app (e := D.int) (v := x9) [((eL D.int) script), (D.int many), ((eL D.int) x10), (D.int x5), (D.int cell), (D.int x6), (δ2 6)] (pt_var rfl) (yi_op (yi_var rfl) yi_c (modT_ok _ _ _ h_x9)) h_x10 (by first | rfl | (simp [eL, List.map_set, List.map_append, List.map_map, Function.comp_def]; done) | (simp [eL, eO, List.map_set, List.map_append, List.map_map, Function.comp_def]; rfl)) (sn_fall _ (by first | rfl | (simp [eL, List.map_set, List.map_append, List.map_map, Function.comp_def]; done) | (simp [eL, eO, List.map_set, List.map_append, List.map_map, Function.comp_def]; rfl))))))) (sn_fall _ (by first | rfl | (simp [eL, List.map_set, List.map_append, List.map_map, Function.comp_def]; done) | (simp [eL, eO, List.map_set, List.map_append, List.map_map, Function.comp_def]; rfl))) (fun s7 δ8 => (sm_bind fun x11 h_x11 => (sm_end (sn_for (e := D.int) (B := T_law_numbers_b2) (s0 := (s7, x6)) (fun (s12 : ((List Int) × Int)) (δ13 : Nat → D) => [((eL D.int) script), (D.int many), ((eL D.int) s12.1), (D.int x5), (D.int cell), (D.int s12.2), (δ13 6)]) (sr_r1 yi_c h_x11) (by first | rfl | (simp [eL, List.map_set, List.map_append, List.map_map, Function.comp_def]; done) | (simp [eL, eO, List.map_set, List.map_append, List.map_map, Function.comp_def]; rfl)) (fun s12 k δ13 => sm_env (env' := [((eL D.int) script), (D.int many), ((eL D.int) s12.1), (D.int x5), (D.int cell), (D.int s12.2), (D.int k)]) rfl (sm_end (sn_if (fun (s14 : ((List Int) × Int)) (δ15 : Nat → D) => [((eL D.int) script), (D.int many), ((eL D.int) s14.1), (D.int x5), (D.int cell), (D.int s14.2), (D.int k)]) (te_T (yi_op (yi_var rfl) yi_c rfl)) (sm_bind fun x16 h_x16 => (sm_bind fun x17 h_x17 => (sn_app (e := D.int) (v := x16) [((eL D.int) script), (D.int many), ((eL D.int) x17), (D.int x5), (D.int cell), (D.int s12.2), (D.int k)] (pt_var rfl) (yi_op (yi_var rfl) yi_c (modT_ok _ _ _ h_x16)) h_x17 (by first | rfl | (simp [eL, List.map_set, List.map_append, List.map_map, Function.comp_def]; done) | (simp [eL, eO, List.map_set, List.map_append, List.map_map, Function.comp_def]; rfl)) (sm_bind fun x18 h_x18 => (sm_end (sn_set (D.int x18) [((eL D.int) script), (D.int many), ((eL D.int) x17), (D.int x5), (D.int cell), (D.int x18), (D.int k)] (yi_op (yi_var rfl) yi_c (divT_ok _ _ _ h_x18)) rfl (sn_fall _ (by first | rfl | (simp [eL, List.map_set, List.map_append, List.map_map, Function.comp_def]; done) | (simp [eL, eO, List.map_set, List.map_append, List.map_map, Function.comp_def]; rfl))))))))) (sn_fall _ (by first | rfl | (simp [eL, List.map_set, List.map_append, List.map_map, Function.comp_def]; done) | (simp [eL, eO, List.map_set, List.map_append, List.map_map, Function.comp_def]; rfl))) (fun s14 δ15 => (sn_fall _ (by first | rfl | (simp [eL, List.map_set, List.map_append, List.map_map, Function.comp_def]; done) | (simp [eL, eO, List.map_set, List.map_append, List.map_map, Function.comp_def]; rfl))))))) (fun s12 δ13 => (sn_fall _ (by first | rfl | (simp [eL, List.map_set, List.map_append, List.map_map, Function.comp_def]; done) | (simp [eL, eO, List.map_set, List.map_append, List.map_map, Function.comp_def]; rfl)))))))))))))))) (fun s1 δ2 => (sn_while (tt := T_law_numbers_t3 many) (B := T_law_numbers_b3 many) (s0 := (s1.1, s1.2)) (fun (s19 : ((List Int) × Int)) (δ20 : Nat → D) => [((eL D.int) script), (D.int many), ((eL D.int) s19.1), (D.int s19.2), (δ2 4), (δ2 5), (δ2 6)]) (by first | rfl | (simp [eL, List.map_set, List.map_append, List.map_map, Function.comp_def]; done) | (simp [eL, eO, List.map_set, List.map_append, List.map_map, Function.comp_def]; rfl)) (fun s19 δ20 => (fun r21 h_r21 => (te_nm h_r21 (te_T (yi_op (yi_call (ya_cons (yi_var rfl) ya_nil) (dLen_L _)) (yi_var rfl) rfl))))) (fun s19 δ20 => (sm_bind fun x22 h_x22 => (sm_bind fun x23 h_x23 => (sm_bind fun x24 h_x24 => (sm_bind fun x25 h_x25 => (sn_set (D.int x25) [((eL D.int) script), (D.int many), ((eL D.int) s19.1), (D.int x25), (δ2 4), (δ2 5), (δ2 6)] (yi_op (yi_op (yi_op (yi_op (yi_op (yi_var rfl) (yi_var rfl) (mulT_ok _ _ _ h_x22)) (yi_op yi_c (yi_var rfl) (mulT_ok _ _ _ h_x23)) rfl) (yi_op yi_c (yi_call (ya_cons (yi_var rfl) ya_nil) (dLen_L _)) (mulT_ok _ _ _ h_x24)) rfl) yi_c rfl) yi_c (modT_ok _ _ _ h_x25)) rfl (sm_bind fun x26 h_x26 => (sm_bind fun x27 h_x27 => (sm_bind fun x28 h_x28 => (sm_end (sn_app (e := D.int) (v := x27) [((eL D.int) script), (D.int many), ((eL D.int) x28), (D.int x25), (δ2 4), (δ2 5), (δ2 6)] (pt_var rfl) (yi_op (yi_op (yi_var rfl) yi_c (divT_ok _ _ _ h_x26)) yi_c (modT_ok _ _ _ h_x27)) h_x28 (by first | rfl | (simp [eL, List.map_set, List.map_append, List.map_map, Function.comp_def]; done) | (simp [eL, eO, List.map_set, List.map_append, List.map_map, Function.comp_def]; rfl)) (sn_fall _ (by first | rfl | (simp [eL, List.map_set, List.map_append, List.map_map, Function.comp_def]; done) | (simp [eL, eO, List.map_set, List.map_append, List.map_map, Function.comp_def]; rfl)))))))))))))) (fun s19 δ20 => (sn_ret ((eL D.int) (cutL s19.1 none (some many))) (yi_sl im_int (yi_var rfl) yo_n (yo_s (yi_var rfl))) (rv trivial))))))))
theorem tf_law_numbers (script : (List Int)) (many : Int) {r : (List Int)} (h : T_law_numbers script many = some r) : FnP (G_law_numbers [((eL D.int) script), (D.int many)]) ((eL D.int) r) ((fun _ _ => True) r) := fnV (er := (eL D.int)) (P := (fun _ _ => True)) (ts_law_numbers script many) h
noncomputable def T_law_table_b2 (size : Int) (draws : (List Int)) (share : Int) (k : Int) (s9 : ((List (List (Option Int))) × (List Int))) (c : Int) : Option ((List (List (Option Int))) × (List Int)) :=
  (mulT k size).bind fun x11 =>
  (ixT draws (x11 + c)).bind fun x12 =>
  (modT x12 (s9.2.length : Int)).bind fun x13 =>
  (popAtT s9.2 x13).bind fun x14 =>
  (divT x12 (100 : Int)).bind fun x15 =>
    (modT x15 (10 : Int)).bind fun x16 =>
    (if (decide (x16 < share)) = true then
    some (none : (Option Int))
    else
    some (some x14.1)).bind fun s17 : (Option Int) =>
  (ixT s9.1 c).bind fun x19 =>
  (appT x19 s17).bind fun x20 =>
  some ((s9.1.set (ixn s9.1.length c) x20), x14.2)
noncomputable def T_law_table_b1 (size : Int) (draws : (List Int)) (share : Int) (s5 : (List (List (Option Int)))) (k : Int) : Option (List (List (Option Int))) :=
  (lrgT size).bind fun x7 =>
  (rg1T size).bind fun x8 =>
  (forO (T_law_table_b2 size draws share k) x8 (s5, x7)).bind fun s9 : ((List (List (Option Int))) × (List Int)) =>
  some s9.1
noncomputable def T_law_table (kinds : Int) (size : Int) (draws : (List Int)) (share : Int) : Option (List (List (Option Int))) :=
  (lr1 size).bind fun x1 =>
  (some (x1.map (fun c2 : Int => ([] : (List (Option Int)))))).bind fun x3 =>
  (rg1T kinds).bind fun x4 =>
  (forO (T_law_table_b1 size draws share) x4 x3).bind fun s5 : (List (List (Option Int))) =>
  some s5
theorem ts_law_table (kinds : Int) (size : Int) (draws : (List Int)) (share : Int) : Sm (RoV (eL (eL (eO D.int))) (fun _ _ => True)) (T_law_table kinds size draws share) (g_law_table [(D.int kinds), (D.int size), ((eL D.int) draws), (D.int share), .non, .non, .non, .non, .non, .non]) := by
  unfold T_law_table
  exact (sm_bind fun x1 h_x1 => (sm_bind fun x3 h_x3 => (sn_set ((eL (eL (eO D.int))) x3) [(D.int kinds), (D.int size), ((eL D.int) draws), (D.int share), ((eL (eL (eO D.int))) x3), .non, .non, .non, .non, .non] (yi_nm (e := (eL (eL (eO D.int)))) h_x3 (yi_lcR1P (eb := (eL (eO D.int))) (yi_var rfl) h_x1 (fun c2 => (yi_lst ya_nil)))) rfl (sm_bind fun x4 h_x4 => (sn_for (e := D.int) (B := T_law_table_b1 size draws share) (s0 := x3) (fun (s5 : (List (List (Option Int)))) (δ6 : Nat → D) => [(D.int kinds), (D.int size), ((eL D.int) draws), (D.int share), ((eL (eL (eO D.int))) s5), (δ6 5), (δ6 6), (δ6 7), (δ6 8), (δ6 9)]) (sr_r1 (yi_var rfl) h_x4) (by first | rfl | (simp [eL, List.map_set, List.map_append, List.map_map, Function.comp_def]; done) | (simp [eL, eO, List.map_set, List.map_append, List.map_map, Function.comp_def]; rfl)) (fun s5 k δ6 => sm_env (env' := [(D.int kinds), (D.int size), ((eL D.int) draws), (D.int share), ((eL (eL (eO D.int))) s5), (δ6 5), (D.int k), (δ6 7), (δ6 8), (δ6 9)]) rfl (sm_bind fun x7 h_x7 => (sn_set ((eL D.int) x7) [(D.int kinds), (D.int size), ((eL D.int) draws), (D.int share), ((eL (eL (eO D.int))) s5), (δ6 5), (D.int k), ((eL D.int) x7), (δ6 8), (δ6 9)] (yi_un (yi_var rfl) (dListR_ok _ _ h_x7)) rfl (sm_bind fun x8 h_x8 => (sm_end (sn_for (e := D.int) (B := T_law_table_b2 size draws share k) (s0 := (s5, x7)) (fun (s9 : ((List (List (Option Int))) × (List Int))) (δ10 : Nat → D) => [(D.int kinds), (D.int size), ((eL D.int) draws), (D.int share), ((eL (eL (eO D.int))) s9.1), (δ10 5), (D.int k), ((eL D.int) s9.2), (δ10 8), (δ10 9)]) (sr_r1 (yi_var rfl) h_x8) (by first | rfl | (simp [eL, List.map_set, List.map_append, List.map_map, Function.comp_def]; done) | (simp [eL, eO, List.map_set, List.map_append, List.map_map, Function.comp_def]; rfl)) (fun s9 c δ10 => sm_env (env' := [(D.int kinds), (D.int size), ((eL D.int) draws), (D.int share), ((eL (eL (eO D.int))) s9.1), (D.int c), (D.int k), ((eL D.int) s9.2), (δ10 8), (δ10 9)]) rfl (sm_bind fun x11 h_x11 => (sm_bind fun x12 h_x12 => (sn_set (D.int x12) [(D.int kinds), (D.int size), ((eL D.int) draws), (D.int share), ((eL (eL (eO D.int))) s9.1), (D.int c), (D.int k), ((eL D.int) s9.2), (D.int x12), (δ10 9)] (yi_imm (yi_op (yi_var rfl) (yi_op (yi_op (yi_var rfl) (yi_var rfl) (mulT_ok _ _ _ h_x11)) (yi_var rfl) rfl) (ixT_ok _ _ _ h_x12)) (im_int _)) rfl (sm_bind fun x13 h_x13 => (sm_bind fun x14 h_x14 => (sn_setE [(D.int kinds), (D.int size), ((eL D.int) draws), (D.int share), ((eL (eL (eO D.int))) s9.1), (D.int c), (D.int k), ((eL D.int) x14.2), (D.int x12), (δ10 9)] [(D.int kinds), (D.int size), ((eL D.int) draws), (D.int share), ((eL (eL (eO D.int))) s9.1), (D.int c), (D.int k), ((eL D.int) x14.2), (D.int x12), (D.int x14.1)] (ye_popAt (e := D.int) [(D.int kinds), (D.int size), ((eL D.int) draws), (D.int share), ((eL (eL (eO D.int))) s9.1), (D.int c), (D.int k), ((eL D.int) x14.2), (D.int x12), (δ10 9)] (pt_var rfl) (yi_op (yi_var rfl) (yi_call (ya_cons (yi_var rfl) ya_nil) (dLen_L _)) (modT_ok _ _ _ h_x13)) h_x14 (by first | rfl | (simp [eL, List.map_set, List.map_append, List.map_map, Function.comp_def]; done) | (simp [eL, eO, List.map_set, List.map_append, List.map_map, Function.comp_def]; rfl))) rfl (sm_bind fun x15 h_x15 => (sm_bind fun x16 h_x16 => (sn_if (fun (s17 : (Option Int)) (δ18 : Nat → D) => [(D.int kinds), (D.int size), ((eL D.int) draws), (D.int share), ((eL (eL (eO D.int))) s9.1), (D.int c), (D.int k), ((eL D.int) x14.2), (D.int x12), ((eO D.int) s17)]) (te_T (yi_op (yi_op (yi_op (yi_var rfl) yi_c (divT_ok _ _ _ h_x15)) yi_c (modT_ok _ _ _ h_x16)) (yi_var rfl) rfl)) (sm_end (sn_set (eU ()) [(D.int kinds), (D.int size), ((eL D.int) draws), (D.int share), ((eL (eL (eO D.int))) s9.1), (D.int c), (D.int k), ((eL D.int) x14.2), (D.int x12), (eU ())] yi_c rfl (sn_fall _ (by first | rfl | (simp [eL, List.map_set, List.map_append, List.map_map, Function.comp_def]; done) | (simp [eL, eO, List.map_set, List.map_append, List.map_map, Function.comp_def]; rfl))))) (sn_fall _ (by first | rfl | (simp [eL, List.map_set, List.map_append, List.map_map, Function.comp_def]; done) | (simp [eL, eO, List.map_set, List.map_append, List.map_map, Function.comp_def]; rfl))) (fun s17 δ18 => (sm_bind fun x19 h_x19 => (sm_bind fun x20 h_x20 => (sm_end (sn_app (e := (eO D.int)) (v := s17) [(D.int kinds), (D.int size), ((eL D.int) draws), (D.int share), ((eL (eL (eO D.int))) (s9.1.set (ixn s9.1.length c) x20)), (D.int c), (D.int k), ((eL D.int) x14.2), (D.int x12), ((eO D.int) s17)] (pt_ix (pt_var rfl) (yi_var rfl) h_x19) (yi_var rfl) h_x20 (by first | rfl | (simp [eL, List.map_set, List.map_append, List.map_map, Function.comp_def]; done) | (simp [eL, eO, List.map_set, List.map_append, List.map_map, Function.comp_def]; rfl)) (sn_fall _ (by first | rfl | (simp [eL, List.map_set, List.map_append, List.map_map, Function.comp_def]; done) | (simp [eL, eO, List.map_set, List.map_append, List.map_map, Function.comp_def]; rfl)))))))))))))))))) (fun s9 δ10 => (sn_fall _ (by first | rfl | (simp [eL, List.map_set, List.map_append, List.map_map, Function.comp_def]; done) | (simp [eL, eO, List.map_set, List.map_append, List.map_map, Function.comp_def]; rfl)))))))))) (fun s5 δ6 => (sn_ret ((eL (eL (eO D.int))) s5) (yi_var rfl) (rv trivial))))))))
theorem tf_law_table (kinds : Int) (size : Int) (draws : (List Int)) (share : Int) {r : (List (List (Option Int)))} (h : T_law_table kinds size draws share = some r) : FnP (G_law_table [(D.int kinds), (D.int size), ((eL D.int) draws), (D.int share)]) ((eL (eL (eO D.int))) r) ((fun _ _ => True) r) := fnV (er := (eL (eL (eO D.int)))) (P := (fun _ _ => True)) (ts_law_table kinds size draws share) h
noncomputable def T_law_written_b1 (s6 : (List Str)) (outs : (List (Option Int))) : Option (List Str) :=
  (lcM (fun c8 : (Option Int) => ((if c8.isNone = true then (some ("-" : Str)) else ((c8).bind fun x9 => (fmtI x9).bind fun x10 => some x10)).bind fun x13 => some x13)) outs).bind fun x15 =>
  (joinT (" " : Str) x15).bind fun x16 =>
  (appT s6 x16).bind fun x17 =>
  some x17
noncomputable def T_law_written (kinds : Int) (table_here : (List (List (Option Int)))) : Option Str :=
  (fmtI kinds).bind fun x1 =>
  (adsT ("chart " : Str) x1).bind fun x2 =>
  (adsT x2 (" " : Str)).bind fun x3 =>
  (fmtI (table_here.length : Int)).bind fun x4 =>
  (adsT x3 x4).bind fun x5 =>
  (forO T_law_written_b1 table_here ([x5])).bind fun s6 : (List Str) =>
  (joinT ("\n" : Str) s6).bind fun x18 =>
  some x18
theorem ts_law_written (kinds : Int) (table_here : (List (List (Option Int)))) : Sm (RoV D.str (fun _ _ => True)) (T_law_written kinds table_here) (g_law_written [(D.int kinds), ((eL (eL (eO D.int))) table_here), .non, .non, .non]) := by
  unfold T_law_written
  exact (sm_bind fun x1 h_x1 => (sm_bind fun x2 h_x2 => (sm_bind fun x3 h_x3 => (sm_bind fun x4 h_x4 => (sm_bind fun x5 h_x5 => (sn_set ((eL D.str) ([x5])) [(D.int kinds), ((eL (eL (eO D.int))) table_here), ((eL D.str) ([x5])), .non, .non] (yi_lst (ds := [(D.str x5)]) (ya_cons (x := (D.str x5)) (yi_op (yi_op (yi_op yi_c (yi_call (ya_cons (yi_var rfl) ya_nil) (strI_ok h_x1)) (adsT_ok _ _ _ h_x2)) yi_c (adsT_ok _ _ _ h_x3)) (yi_call (ya_cons (yi_call (ya_cons (yi_var rfl) ya_nil) (dLen_L _)) ya_nil) (strI_ok h_x4)) (adsT_ok _ _ _ h_x5)) ya_nil) (show 1 ≤ 100 from by decide)) rfl (sn_for (e := (eL (eO D.int))) (B := T_law_written_b1) (s0 := [x5]) (fun (s6 : (List Str)) (δ7 : Nat → D) => [(D.int kinds), ((eL (eL (eO D.int))) table_here), ((eL D.str) s6), (δ7 3), .non]) (sr_list (yi_var rfl)) (by first | rfl | (simp [eL, List.map_set, List.map_append, List.map_map, Function.comp_def]; done) | (simp [eL, eO, List.map_set, List.map_append, List.map_map, Function.comp_def]; rfl)) (fun s6 outs δ7 => sm_env (env' := [(D.int kinds), ((eL (eL (eO D.int))) table_here), ((eL D.str) s6), ((eL (eO D.int)) outs), .non]) rfl (sm_bind fun x15 h_x15 => (sm_bind fun x16 h_x16 => (sm_bind fun x17 h_x17 => (sm_end (sn_app (e := D.str) (v := x16) [(D.int kinds), ((eL (eL (eO D.int))) table_here), ((eL D.str) x17), ((eL (eO D.int)) outs), .non] (pt_var rfl) (yi_join yi_c (yi_lcM (ea := (eO D.int)) (eb := D.str) (yi_var rfl) (fun c8 => (fun r14 h_r14 => (bindE h_r14 fun x13 h_x13 h_r14_1 => (yi_nm (e := D.str) h_r14_1 (yi_ifB (e := D.str) (te_T (yi_op (yi_var rfl) yi_c (isN_ok (fun a => by first | rfl | (cases a; rfl)) c8 ()))) (fun r11 h_r11 => (yi_nm (e := D.str) h_r11 yi_c)) (fun r12 h_r12 => (bindE h_r12 fun x9 h_x9 h_r12_1 => (bindE h_r12_1 fun x10 h_x10 h_r12_2 => (yi_nm (e := D.str) h_r12_2 (yi_call (ya_cons (yi_get (e := D.int) h_x9 (yi_var rfl)) ya_nil) (strI_ok h_x10)))))) h_x13))))) h_x15) h_x16) h_x17 (by first | rfl | (simp [eL, List.map_set, List.map_append, List.map_map, Function.comp_def]; done) | (simp [eL, eO, List.map_set, List.map_append, List.map_map, Function.comp_def]; rfl)) (sn_fall _ (by first | rfl | (simp [eL, List.map_set, List.map_append, List.map_map, Function.comp_def]; done) | (simp [eL, eO, List.map_set, List.map_append, List.map_map, Function.comp_def]; rfl))))))))) (fun s6 δ7 => (sm_bind fun x18 h_x18 => (sn_ret (D.str x18) (yi_join yi_c (yi_var rfl) h_x18) (rv trivial)))))))))))
theorem tf_law_written (kinds : Int) (table_here : (List (List (Option Int)))) {r : Str} (h : T_law_written kinds table_here = some r) : FnP (G_law_written [(D.int kinds), ((eL (eL (eO D.int))) table_here)]) (D.str r) ((fun _ _ => True) r) := fnV (er := D.str) (P := (fun _ _ => True)) (ts_law_written kinds table_here) h
noncomputable def T_law_sign (d' : Int) : Option Str :=
  (adsT (" !\"#$&'()*+,-./0123456789:;<=>?@ABCDEFGHIJKLMNOPQRSTUVWXYZ[\\]^_`" : Str) ("abcdefghijklmnopqrstuvwxyz{|}~\n" : Str)).bind fun x1 =>
  (modT d' (95 : Int)).bind fun x2 =>
  (ixS x1 x2).bind fun x3 =>
  some x3
theorem ts_law_sign (d' : Int) : Sm (RoV D.str (fun _ _ => True)) (T_law_sign d') (g_law_sign [(D.int d'), .non]) := by
  unfold T_law_sign
  exact (sn_set (D.str (" !\"#$&'()*+,-./0123456789:;<=>?@ABCDEFGHIJKLMNOPQRSTUVWXYZ[\\]^_`" : Str)) [(D.int d'), (D.str (" !\"#$&'()*+,-./0123456789:;<=>?@ABCDEFGHIJKLMNOPQRSTUVWXYZ[\\]^_`" : Str))] yi_c rfl (sm_bind fun x1 h_x1 => (sn_set (D.str x1) [(D.int d'), (D.str x1)] (yi_op (yi_var rfl) yi_c (adsT_ok _ _ _ h_x1)) rfl (sm_bind fun x2 h_x2 => (sm_bind fun x3 h_x3 => (sn_ret (D.str x3) (yi_op (yi_var rfl) (yi_op (yi_var rfl) yi_c (modT_ok _ _ _ h_x2)) (ixS_ok h_x3)) (rv trivial)))))))
theorem tf_law_sign (d' : Int) {r : Str} (h : T_law_sign d' = some r) : FnP (G_law_sign [(D.int d')]) (D.str r) ((fun _ _ => True) r) := fnV (er := D.str) (P := (fun _ _ => True)) (ts_law_sign d') h
noncomputable def T_law_odd (d' : Int) : Option Str :=
  (some ([("" : Str), ("chart" : Str), ("chart 1 1" : Str), ("chart 1 0" : Str), ("chart 0 1\n" : Str), ("chart 1 0\n" : Str), ("chart 1 1\n" : Str), ("chart 1 1\n-\n" : Str)])).bind fun x1 =>
  (addT x1 ([("Chart 1 1\n-" : Str), ("chart 1 1\n1" : Str), ("chart 1 1\n00" : Str), ("chart 01 1\n0" : Str), ("chart 1 1 \n0" : Str), ("chart 1 1\n0" : Str)])).bind fun x2 =>
  (addT x2 ([("chart 6 1\n- - - - - -" : Str), ("chart 7 1\n- - - - - - 0" : Str)])).bind fun x3 =>
  (modT d' (16 : Int)).bind fun x4 =>
  (ixT x3 x4).bind fun x5 =>
  some x5
theorem ts_law_odd (d' : Int) : Sm (RoV D.str (fun _ _ => True)) (T_law_odd d') (g_law_odd [(D.int d'), .non]) := by
  unfold T_law_odd
  exact (sm_bind fun x1 h_x1 => (sn_set ((eL D.str) x1) [(D.int d'), ((eL D.str) x1)] (yi_nm (e := (eL D.str)) h_x1 (yi_lst (ds := [(D.str ("" : Str)), (D.str ("chart" : Str)), (D.str ("chart 1 1" : Str)), (D.str ("chart 1 0" : Str)), (D.str ("chart 0 1\n" : Str)), (D.str ("chart 1 0\n" : Str)), (D.str ("chart 1 1\n" : Str)), (D.str ("chart 1 1\n-\n" : Str))]) (ya_cons (x := (D.str ("" : Str))) yi_c (ya_cons (x := (D.str ("chart" : Str))) yi_c (ya_cons (x := (D.str ("chart 1 1" : Str))) yi_c (ya_cons (x := (D.str ("chart 1 0" : Str))) yi_c (ya_cons (x := (D.str ("chart 0 1\n" : Str))) yi_c (ya_cons (x := (D.str ("chart 1 0\n" : Str))) yi_c (ya_cons (x := (D.str ("chart 1 1\n" : Str))) yi_c (ya_cons (x := (D.str ("chart 1 1\n-\n" : Str))) yi_c ya_nil)))))))) (show 8 ≤ 100 from by decide))) rfl (sm_bind fun x2 h_x2 => (sn_set ((eL D.str) x2) [(D.int d'), ((eL D.str) x2)] (yi_op (x := ((eL D.str) x1)) (y := ((eL D.str) ([("Chart 1 1\n-" : Str), ("chart 1 1\n1" : Str), ("chart 1 1\n00" : Str), ("chart 01 1\n0" : Str), ("chart 1 1 \n0" : Str), ("chart 1 1\n0" : Str)]))) (yi_var rfl) (yi_lst (ds := [(D.str ("Chart 1 1\n-" : Str)), (D.str ("chart 1 1\n1" : Str)), (D.str ("chart 1 1\n00" : Str)), (D.str ("chart 01 1\n0" : Str)), (D.str ("chart 1 1 \n0" : Str)), (D.str ("chart 1 1\n0" : Str))]) (ya_cons (x := (D.str ("Chart 1 1\n-" : Str))) yi_c (ya_cons (x := (D.str ("chart 1 1\n1" : Str))) yi_c (ya_cons (x := (D.str ("chart 1 1\n00" : Str))) yi_c (ya_cons (x := (D.str ("chart 01 1\n0" : Str))) yi_c (ya_cons (x := (D.str ("chart 1 1 \n0" : Str))) yi_c (ya_cons (x := (D.str ("chart 1 1\n0" : Str))) yi_c ya_nil)))))) (show 6 ≤ 100 from by decide)) (addT_e im_str h_x2)) rfl (sm_bind fun x3 h_x3 => (sm_bind fun x4 h_x4 => (sm_bind fun x5 h_x5 => (sn_ret (D.str x5) (yi_op (yi_op (x := ((eL D.str) x2)) (y := ((eL D.str) ([("chart 6 1\n- - - - - -" : Str), ("chart 7 1\n- - - - - - 0" : Str)]))) (yi_var rfl) (yi_lst (ds := [(D.str ("chart 6 1\n- - - - - -" : Str)), (D.str ("chart 7 1\n- - - - - - 0" : Str))]) (ya_cons (x := (D.str ("chart 6 1\n- - - - - -" : Str))) yi_c (ya_cons (x := (D.str ("chart 7 1\n- - - - - - 0" : Str))) yi_c ya_nil)) (show 2 ≤ 100 from by decide)) (addT_e im_str h_x3)) (yi_op (yi_var rfl) yi_c (modT_ok _ _ _ h_x4)) (ixT_ok _ _ _ h_x5)) (rv trivial)))))))))
theorem tf_law_odd (d' : Int) {r : Str} (h : T_law_odd d' = some r) : FnP (G_law_odd [(D.int d')]) (D.str r) ((fun _ _ => True) r) := fnV (er := D.str) (P := (fun _ _ => True)) (ts_law_odd d') h
noncomputable def T_law_spoilt (text : Str) (draws : (List Int)) : Option Str :=
  (ixT draws (1 : Int)).bind fun x1 =>
  (lenS text).bind fun x2 =>
  (modT x1 x2).bind fun x3 =>
  (ixT draws (2 : Int)).bind fun x4 =>
  (T_law_sign x4).bind fun x5 =>
  (splT text ("\n" : Str)).bind fun x6 =>
  (ixT draws (1 : Int)).bind fun x7 =>
  (modT x7 (x6.length : Int)).bind fun x8 =>
  (ixT draws (3 : Int)).bind fun x9 =>
  (modT x9 (x6.length : Int)).bind fun x10 =>
  (ixT draws (0 : Int)).bind fun x11 =>
  (modT x11 (8 : Int)).bind fun x12 =>
  if (decide (x12 = (1 : Int))) = true then
    (slS text none (some x3)).bind fun x13 =>
    (adsT x13 x5).bind fun x14 =>
    (slS text (some x3) none).bind fun x15 =>
    (adsT x14 x15).bind fun x16 =>
    some x16
  else
  if (decide (x12 = (2 : Int))) = true then
    (slS text none (some x3)).bind fun x17 =>
    (slS text (some (x3 + (1 : Int))) none).bind fun x18 =>
    (adsT x17 x18).bind fun x19 =>
    some x19
  else
  if (decide (x12 = (3 : Int))) = true then
    (slS text none (some x3)).bind fun x20 =>
    (adsT x20 x5).bind fun x21 =>
    (slS text (some (x3 + (1 : Int))) none).bind fun x22 =>
    (adsT x21 x22).bind fun x23 =>
    some x23
  else
  if (decide (x12 = (4 : Int))) = true then
    (ixT x6 x10).bind fun x24 =>
    (addT (cutL x6 none (some x8)) ([x24])).bind fun x25 =>
    (addT x25 (cutL x6 (some (x8 + (1 : Int))) none)).bind fun x26 =>
    (joinT ("\n" : Str) x26).bind fun x27 =>
    some x27
  else
  if (decide (x12 = (5 : Int))) = true then
    (addT (cutL x6 none (some x8)) (cutL x6 (some (x8 + (1 : Int))) none)).bind fun x28 =>
    (joinT ("\n" : Str) x28).bind fun x29 =>
    some x29
  else
  if (decide (x12 = (6 : Int))) = true then
    (ixT draws (2 : Int)).bind fun x30 =>
    (modT x30 (4 : Int)).bind fun x31 =>
    (ixT ([("\n" : Str), (" " : Str), ("\n-" : Str), ("0" : Str)]) x31).bind fun x32 =>
    (adsT text x32).bind fun x33 =>
    some x33
  else
  if (decide (x12 = (7 : Int))) = true then
    (ixT draws (2 : Int)).bind fun x34 =>
    (T_law_odd x34).bind fun x35 =>
    some x35
  else
  some text
theorem ts_law_spoilt (text : Str) (draws : (List Int)) : Sm (RoV D.str (fun _ _ => True)) (T_law_spoilt text draws) (g_law_spoilt [(D.str text), ((eL D.int) draws), .non, .non, .non, .non, .non, .non]) := by
  unfold T_law_spoilt
  exact (sm_bind fun x1 h_x1 => (sm_bind fun x2 h_x2 => (sm_bind fun x3 h_x3 => (sn_set (D.int x3) [(D.str text), ((eL D.int) draws), (D.int x3), .non, .non, .non, .non, .non] (yi_op (yi_op (yi_var rfl) yi_c (ixT_ok _ _ _ h_x1)) (yi_call (ya_cons (yi_var rfl) ya_nil) (lenS_ok h_x2)) (modT_ok _ _ _ h_x3)) rfl (sm_bind fun x4 h_x4 => (sm_bind fun x5 h_x5 => (sn_set (D.str x5) [(D.str text), ((eL D.int) draws), (D.int x3), (D.str x5), .non, .non, .non, .non] (yi_fnN (ya_cons (x := (D.int x4)) (yi_op (yi_var rfl) yi_c (ixT_ok _ _ _ h_x4)) ya_nil) (tf_law_sign _ h_x5)) rfl (sm_bind fun x6 h_x6 => (sn_set ((eL D.str) x6) [(D.str text), ((eL D.int) draws), (D.int x3), (D.str x5), ((eL D.str) x6), .non, .non, .non] (yi_spl (yi_var rfl) yi_c h_x6) rfl (sm_bind fun x7 h_x7 => (sm_bind fun x8 h_x8 => (sn_set (D.int x8) [(D.str text), ((eL D.int) draws), (D.int x3), (D.str x5), ((eL D.str) x6), (D.int x8), .non, .non] (yi_op (yi_op (yi_var rfl) yi_c (ixT_ok _ _ _ h_x7)) (yi_call (ya_cons (yi_var rfl) ya_nil) (dLen_L _)) (modT_ok _ _ _ h_x8)) rfl (sm_bind fun x9 h_x9 => (sm_bind fun x10 h_x10 => (sn_set (D.int x10) [(D.str text), ((eL D.int) draws), (D.int x3), (D.str x5), ((eL D.str) x6), (D.int x8), (D.int x10), .non] (yi_op (yi_op (yi_var rfl) yi_c (ixT_ok _ _ _ h_x9)) (yi_call (ya_cons (yi_var rfl) ya_nil) (dLen_L _)) (modT_ok _ _ _ h_x10)) rfl (sm_bind fun x11 h_x11 => (sm_bind fun x12 h_x12 => (sn_set (D.int x12) [(D.str text), ((eL D.int) draws), (D.int x3), (D.str x5), ((eL D.str) x6), (D.int x8), (D.int x10), (D.int x12)] (yi_op (yi_op (yi_var rfl) yi_c (ixT_ok _ _ _ h_x11)) yi_c (modT_ok _ _ _ h_x12)) rfl (sn_ifA (te_T (yi_op (x := (D.int x12)) (y := (D.int (1 : Int))) (yi_var rfl) yi_c (Eqb.eq eqb_int (by decide) x12 (1 : Int)))) (sm_bind fun x13 h_x13 => (sm_bind fun x14 h_x14 => (sm_bind fun x15 h_x15 => (sm_bind fun x16 h_x16 => (sn_ret (D.str x16) (yi_op (yi_op (yi_slS (yi_var rfl) yo_n (yo_s (yi_var rfl)) h_x13) (yi_var rfl) (adsT_ok _ _ _ h_x14)) (yi_slS (yi_var rfl) (yo_s (yi_var rfl)) yo_n h_x15) (adsT_ok _ _ _ h_x16)) (rx_in (rv trivial) rfl)))))) (sn_skip (sn_ifA (te_T (yi_op (x := (D.int x12)) (y := (D.int (2 : Int))) (yi_var rfl) yi_c (Eqb.eq eqb_int (by decide) x12 (2 : Int)))) (sm_bind fun x17 h_x17 => (sm_bind fun x18 h_x18 => (sm_bind fun x19 h_x19 => (sn_ret (D.str x19) (yi_op (yi_slS (yi_var rfl) yo_n (yo_s (yi_var rfl)) h_x17) (yi_slS (yi_var rfl) (yo_s (yi_op (yi_var rfl) yi_c rfl)) yo_n h_x18) (adsT_ok _ _ _ h_x19)) (rx_in (rv trivial) rfl))))) (sn_skip (sn_ifA (te_T (yi_op (x := (D.int x12)) (y := (D.int (3 : Int))) (yi_var rfl) yi_c (Eqb.eq eqb_int (by decide) x12 (3 : Int)))) (sm_bind fun x20 h_x20 => (sm_bind fun x21 h_x21 => (sm_bind fun x22 h_x22 => (sm_bind fun x23 h_x23 => (sn_ret (D.str x23) (yi_op (yi_op (yi_slS (yi_var rfl) yo_n (yo_s (yi_var rfl)) h_x20) (yi_var rfl) (adsT_ok _ _ _ h_x21)) (yi_slS (yi_var rfl) (yo_s (yi_op (yi_var rfl) yi_c rfl)) yo_n h_x22) (adsT_ok _ _ _ h_x23)) (rx_in (rv trivial) rfl)))))) (sn_skip (sn_ifA (te_T (yi_op (x := (D.int x12)) (y := (D.int (4 : Int))) (yi_var rfl) yi_c (Eqb.eq eqb_int (by decide) x12 (4 : Int)))) (sm_bind fun x24 h_x24 => (sm_bind fun x25 h_x25 => (sm_bind fun x26 h_x26 => (sm_bind fun x27 h_x27 => (sn_ret (D.str x27) (yi_join yi_c (yi_op (x := ((eL D.str) x25)) (y := ((eL D.str) (cutL x6 (some (x8 + (1 : Int))) none))) (yi_op (x := ((eL D.str) (cutL x6 none (some x8)))) (y := ((eL D.str) ([x24]))) (yi_sl im_str (yi_var rfl) yo_n (yo_s (yi_var rfl))) (yi_lst (ds := [(D.str x24)]) (ya_cons (x := (D.str x24)) (yi_op (yi_var rfl) (yi_var rfl) (ixT_ok _ _ _ h_x24)) ya_nil) (show 1 ≤ 100 from by decide)) (addT_e im_str h_x25)) (yi_sl im_str (yi_var rfl) (yo_s (yi_op (yi_var rfl) yi_c rfl)) yo_n) (addT_e im_str h_x26)) h_x27) (rx_in (rv trivial) rfl)))))) (sn_skip (sn_ifA (te_T (yi_op (x := (D.int x12)) (y := (D.int (5 : Int))) (yi_var rfl) yi_c (Eqb.eq eqb_int (by decide) x12 (5 : Int)))) (sm_bind fun x28 h_x28 => (sm_bind fun x29 h_x29 => (sn_ret (D.str x29) (yi_join yi_c (yi_op (x := ((eL D.str) (cutL x6 none (some x8)))) (y := ((eL D.str) (cutL x6 (some (x8 + (1 : Int))) none))) (yi_sl im_str (yi_var rfl) yo_n (yo_s (yi_var rfl))) (yi_sl im_str (yi_var rfl) (yo_s (yi_op (yi_var rfl) yi_c rfl)) yo_n) (addT_e im_str h_x28)) h_x29) (rx_in (rv trivial) rfl)))) (sn_skip (sn_ifA (te_T (yi_op (x := (D.int x12)) (y := (D.int (6 : Int))) (yi_var rfl) yi_c (Eqb.eq eqb_int (by decide) x12 (6 : Int)))) (sm_bind fun x30 h_x30 => (sm_bind fun x31 h_x31 => (sm_bind fun x32 h_x32 => (sm_bind fun x33 h_x33 => (sn_ret (D.str x33) (yi_op (yi_var rfl) (yi_op (yi_lst (ds := [(D.str ("\n" : Str)), (D.str (" " : Str)), (D.str ("\n-" : Str)), (D.str ("0" : Str))]) (ya_cons (x := (D.str ("\n" : Str))) yi_c (ya_cons (x := (D.str (" " : Str))) yi_c (ya_cons (x := (D.str ("\n-" : Str))) yi_c (ya_cons (x := (D.str ("0" : Str))) yi_c ya_nil)))) (show 4 ≤ 100 from by decide)) (yi_op (yi_op (yi_var rfl) yi_c (ixT_ok _ _ _ h_x30)) yi_c (modT_ok _ _ _ h_x31)) (ixT_ok (e := D.str) ([("\n" : Str), (" " : Str), ("\n-" : Str), ("0" : Str)] : List Str) x31 _ h_x32)) (adsT_ok _ _ _ h_x33)) (rx_in (rv trivial) rfl)))))) (sn_skip (sn_ifA (te_T (yi_op (x := (D.int x12)) (y := (D.int (7 : Int))) (yi_var rfl) yi_c (Eqb.eq eqb_int (by decide) x12 (7 : Int)))) (sm_bind fun x34 h_x34 => (sm_bind fun x35 h_x35 => (sn_ret (D.str x35) (yi_fnN (ya_cons (x := (D.int x34)) (yi_op (yi_var rfl) yi_c (ixT_ok _ _ _ h_x34)) ya_nil) (tf_law_odd _ h_x35)) (rx_in (rv trivial) rfl)))) (sn_skip (sn_ret (D.str text) (yi_imm (yi_var rfl) (im_str _)) (rv trivial))))))))))))))))))))))))))))))))))
theorem tf_law_spoilt (text : Str) (draws : (List Int)) {r : Str} (h : T_law_spoilt text draws = some r) : FnP (G_law_spoilt [(D.str text), ((eL D.int) draws)]) (D.str r) ((fun _ _ => True) r) := fnV (er := D.str) (P := (fun _ _ => True)) (ts_law_spoilt text draws) h
noncomputable def T_law_number_b1 (s12 : Unit) (sign_here : Nat) : Option (Unit ⊕ (Option Int)) :=
  if (!decide (sign_here ∈ (("0123456789" : Str) : Str).cps.toList)) = true then
    some (.inr (none : (Option Int)))
  else
  some (.inl ())
noncomputable def T_law_number (word : Str) : Option (Option Int) :=
  (seqT word ("" : Str)).bind fun x1 =>
    (if x1 = true then some true else ((lenS word).bind fun x2 => (if (decide ((3 : Int) < x2)) = true then some true else ((lenS word).bind fun x3 => (if (decide ((1 : Int) < x3)) = true then ((ixS word (0 : Int)).bind fun x4 => (seqT x4 ("0" : Str)).bind fun x5 => some x5) else some false).bind fun x7 => some x7)).bind fun x9 => some x9)).bind fun x11 =>
    if x11 = true then
    some (none : (Option Int))
  else
  thenC (forC T_law_number_b1 word.cps.toList ()) fun s12 : Unit =>
  (intS word).bind fun x14 =>
  some (some x14)
theorem ts_law_number (word : Str) : Sm (RoV (eO D.int) (fun _ _ => True)) (T_law_number word) (g_law_number [(D.str word), .non]) := by
  unfold T_law_number
  exact (sm_bind fun x1 h_x1 => (sm_bind fun x11 h_x11 => (sn_ifA (te_orB (te_T (yi_op (yi_var rfl) yi_c (seqT_ok _ _ _ h_x1))) (fun r10 h_r10 => (bindE h_r10 fun x2 h_x2 h_r10_1 => (bindE h_r10_1 fun x9 h_x9 h_r10_2 => (te_nm h_r10_2 (te_orB (te_T (yi_op (yi_call (ya_cons (yi_var rfl) ya_nil) (lenS_ok h_x2)) yi_c rfl)) (fun r8 h_r8 => (bindE h_r8 fun x3 h_x3 h_r8_1 => (bindE h_r8_1 fun x7 h_x7 h_r8_2 => (te_nm h_r8_2 (te_andB (te_T (yi_op (yi_call (ya_cons (yi_var rfl) ya_nil) (lenS_ok h_x3)) yi_c rfl)) (fun r6 h_r6 => (bindE h_r6 fun x4 h_x4 h_r6_1 => (bindE h_r6_1 fun x5 h_x5 h_r6_2 => (te_nm h_r6_2 (te_T (yi_op (yi_op (yi_var rfl) yi_c (ixS_ok h_x4)) yi_c (seqT_ok _ _ _ h_x5))))))) h_x7))))) h_x9))))) h_x11) (sn_ret ((eO D.int) (none : (Option Int))) yi_c (rx_in (rv trivial) rfl)) (sn_skip (sn_forC (e := chD) (B := T_law_number_b1) (s0 := ()) (fun (s12 : Unit) (δ13 : Nat → D) => [(D.str word), (δ13 1)]) (sr_str (yi_var rfl)) (by first | rfl | (simp [eL, List.map_set, List.map_append, List.map_map, Function.comp_def]; done) | (simp [eL, eO, List.map_set, List.map_append, List.map_map, Function.comp_def]; rfl)) (fun s12 sign_here δ13 => sm_env (env' := [(D.str word), (chD sign_here)]) rfl (sm_end (sn_ifA (te_T (yi_op (x := (chD sign_here)) (y := (D.str ("0123456789" : Str))) (yi_var rfl) yi_c rfl)) (sn_ret ((eO D.int) (none : (Option Int))) yi_c (rx_in (rc_in (rv trivial) rfl) rfl)) (sn_skip (sn_fallC _ (by first | rfl | (simp [eL, List.map_set, List.map_append, List.map_map, Function.comp_def]; done) | (simp [eL, eO, List.map_set, List.map_append, List.map_map, Function.comp_def]; rfl))))))) (fun s12 δ13 => (sm_bind fun x14 h_x14 => (sn_ret ((eO D.int) (some x14)) (yi_call (ya_cons (yi_var rfl) ya_nil) (dIntS_ok h_x14)) (rv trivial)))))))))
theorem tf_law_number (word : Str) {r : (Option Int)} (h : T_law_number word = some r) : FnP (G_law_number [(D.str word)]) ((eO D.int) r) ((fun _ _ => True) r) := fnV (er := (eO D.int)) (P := (fun _ _ => True)) (ts_law_number word) h
noncomputable def T_law_line_b1 (size : Int) (s2 : (List (Option Int))) (word : Str) : Option ((List (Option Int)) ⊕ (Option (List (Option Int)))) :=
  (T_law_number word).bind fun x4 =>
  (sneT word ("-" : Str)).bind fun x5 =>
    (if x5 = true then ((if x4.isNone = true then some true else ((x4).bind fun x6 => some (decide (size ≤ x6)))).bind fun x8 => some x8) else some false).bind fun x10 =>
    if x10 = true then
    some (.inr (none : (Option (List (Option Int)))))
  else
  (appT s2 x4).bind fun x11 =>
  some (.inl x11)
noncomputable def T_law_line (line_here : Str) (kinds : Int) (size : Int) : Option (Option (List (Option Int))) :=
  (splT line_here (" " : Str)).bind fun x1 =>
  thenC (forC (T_law_line_b1 size) x1 ([] : (List (Option Int)))) fun s2 : (List (Option Int)) =>
  if (!decide ((s2.length : Int) = kinds)) = true then
    some (none : (Option (List (Option Int))))
  else
  some (some s2)
theorem ts_law_line (line_here : Str) (kinds : Int) (size : Int) : Sm (RoV (eO (eL (eO D.int))) (fun _ _ => True)) (T_law_line line_here kinds size) (g_law_line [(D.str line_here), (D.int kinds), (D.int size), .non, .non, .non]) := by
  unfold T_law_line
  exact (sn_set ((eL (eO D.int)) ([] : (List (Option Int)))) [(D.str line_here), (D.int kinds), (D.int size), ((eL (eO D.int)) ([] : (List (Option Int)))), .non, .non] (yi_lst ya_nil) rfl (sm_bind fun x1 h_x1 => (sn_forC (e := D.str) (B := T_law_line_b1 size) (s0 := ([] : (List (Option Int)))) (fun (s2 : (List (Option Int))) (δ3 : Nat → D) => [(D.str line_here), (D.int kinds), (D.int size), ((eL (eO D.int)) s2), (δ3 4), (δ3 5)]) (sr_list (yi_spl (yi_var rfl) yi_c h_x1)) (by first | rfl | (simp [eL, List.map_set, List.map_append, List.map_map, Function.comp_def]; done) | (simp [eL, eO, List.map_set, List.map_append, List.map_map, Function.comp_def]; rfl)) (fun s2 word δ3 => sm_env (env' := [(D.str line_here), (D.int kinds), (D.int size), ((eL (eO D.int)) s2), (D.str word), (δ3 5)]) rfl (sm_bind fun x4 h_x4 => (sn_set ((eO D.int) x4) [(D.str line_here), (D.int kinds), (D.int size), ((eL (eO D.int)) s2), (D.str word), ((eO D.int) x4)] (yi_fnN (ya_cons (x := (D.str word)) (yi_var rfl) ya_nil) (tf_law_number _ h_x4)) rfl (sm_bind fun x5 h_x5 => (sm_bind fun x10 h_x10 => (sn_ifA (te_andB (te_T (yi_op (yi_var rfl) yi_c (sneT_ok _ _ _ h_x5))) (fun r9 h_r9 => (bindE h_r9 fun x8 h_x8 h_r9_1 => (te_nm h_r9_1 (te_orB (te_T (yi_op (yi_var rfl) yi_c (isN_ok (fun a => by first | rfl | (cases a; rfl)) x4 ()))) (fun r7 h_r7 => (bindE h_r7 fun x6 h_x6 h_r7_1 => (te_nm h_r7_1 (te_T (yi_op (yi_get (e := D.int) h_x6 (yi_var rfl)) (yi_var rfl) rfl))))) h_x8)))) h_x10) (sn_ret ((eO (eL (eO D.int))) (none : (Option (List (Option Int))))) yi_c (rx_in (rc_in (rv trivial) rfl) rfl)) (sn_skip (sm_bind fun x11 h_x11 => (sm_end (sn_app (e := (eO D.int)) (v := x4) [(D.str line_here), (D.int kinds), (D.int size), ((eL (eO D.int)) x11), (D.str word), ((eO D.int) x4)] (pt_var rfl) (yi_var rfl) h_x11 (by first | rfl | (simp [eL, List.map_set, List.map_append, List.map_map, Function.comp_def]; done) | (simp [eL, eO, List.map_set, List.map_append, List.map_map, Function.comp_def]; rfl)) (sn_fallC _ (by first | rfl | (simp [eL, List.map_set, List.map_append, List.map_map, Function.comp_def]; done) | (simp [eL, eO, List.map_set, List.map_append, List.map_map, Function.comp_def]; rfl))))))))))))) (fun s2 δ3 => (sn_ifA (te_T (yi_op (x := (D.int (s2.length : Int))) (y := (D.int kinds)) (yi_call (ya_cons (yi_var rfl) ya_nil) (dLen_L _)) (yi_var rfl) (Eqb.ne eqb_int (by decide) (s2.length : Int) kinds))) (sn_ret ((eO (eL (eO D.int))) (none : (Option (List (Option Int))))) yi_c (rx_in (rv trivial) rfl)) (sn_skip (sn_ret ((eO (eL (eO D.int))) (some s2)) (yi_var rfl) (rv trivial))))))))
theorem tf_law_line (line_here : Str) (kinds : Int) (size : Int) {r : (Option (List (Option Int)))} (h : T_law_line line_here kinds size = some r) : FnP (G_law_line [(D.str line_here), (D.int kinds), (D.int size)]) ((eO (eL (eO D.int))) r) ((fun _ _ => True) r) := fnV (er := (eO (eL (eO D.int)))) (P := (fun _ _ => True)) (ts_law_line line_here kinds size) h
noncomputable def T_law_read_b1 (x33 : (List (Option (List (Option Int))))) (s36 : Unit) (k : Int) : Option (Unit ⊕ (Option (List (Option (List (Option Int)))))) :=
  (lcT (fun c38 : (Option (List (Option Int))) => ((c38).bind fun x39 => (ixT x39 k).bind fun x40 => some x40.isSome)) (fun c38 : (Option (List (Option Int))) => ((c38).bind fun x41 => (ixT x41 k).bind fun x42 => (x42).bind fun x43 => some x43)) x33).bind fun x46 =>
  (lenSetT x46).bind fun x47 =>
    if (!decide (x47 = (x46.length : Int))) = true then
    some (.inr (none : (Option (List (Option (List (Option Int)))))))
  else
  some (.inl ())
noncomputable def T_law_read (text : Str) : Option (Option (List (Option (List (Option Int))))) :=
  (splT text ("\n" : Str)).bind fun x1 =>
  (ixT x1 (0 : Int)).bind fun x2 =>
  (splT x2 (" " : Str)).bind fun x3 =>
  (if (!decide ((x3.length : Int) = (3 : Int))) = true then some true else ((ixT x3 (0 : Int)).bind fun x4 => (sneT x4 ("chart" : Str)).bind fun x5 => some x5)).bind fun x7 =>
    if x7 = true then
    some (none : (Option (List (Option (List (Option Int))))))
  else
  (ixT x3 (1 : Int)).bind fun x8 =>
  (T_law_number x8).bind fun x9 =>
  (ixT x3 (2 : Int)).bind fun x10 =>
  (T_law_number x10).bind fun x11 =>
  (if x9.isNone = true then some true else ((if x11.isNone = true then some true else ((x9).bind fun x12 => (if (decide (x12 < (1 : Int))) = true then some true else ((x9).bind fun x13 => (if (decide ((5 : Int) < x13)) = true then some true else ((x11).bind fun x14 => (if (decide (x14 < (1 : Int))) = true then some true else ((if (!decide (x11 = (some ((x1.length : Int) - (1 : Int))))) = true then some true else ((x11).bind fun x15 => some (decide ((700 : Int) < x15)))).bind fun x17 => some x17)).bind fun x19 => some x19)).bind fun x21 => some x21)).bind fun x23 => some x23)).bind fun x25 => some x25)).bind fun x27 =>
    if x27 = true then
    some (none : (Option (List (Option (List (Option Int))))))
  else
  (lcM (fun c28 : Str => ((x9).bind fun x29 => (x11).bind fun x30 => (T_law_line c28 x29 x30).bind fun x31 => some x31)) (cutL x1 (some (1 : Int)) none)).bind fun x33 =>
  if (inG (none : (Option (List (Option Int)))) x33) = true then
    some (none : (Option (List (Option (List (Option Int))))))
  else
  (x9).bind fun x34 =>
  (rg1T x34).bind fun x35 =>
  thenC (forC (T_law_read_b1 x33) x35 ()) fun s36 : Unit =>
  some (some x33)
theorem ts_law_read (text : Str) : Sm (RoV (eO (eL (eO (eL (eO D.int))))) (fun _ _ => True)) (T_law_read text) (g_law_read [(D.str text), .non, .non, .non, .non, .non, .non, .non, .non, .non]) := by
  unfold T_law_read
  exact (sm_bind fun x1 h_x1 => (sn_set ((eL D.str) x1) [(D.str text), ((eL D.str) x1), .non, .non, .non, .non, .non, .non, .non, .non] (yi_spl (yi_var rfl) yi_c h_x1) rfl (sm_bind fun x2 h_x2 => (sm_bind fun x3 h_x3 => (sn_set ((eL D.str) x3) [(D.str text), ((eL D.str) x1), ((eL D.str) x3), .non, .non, .non, .non, .non, .non, .non] (yi_spl (yi_op (yi_var rfl) yi_c (ixT_ok _ _ _ h_x2)) yi_c h_x3) rfl (sm_bind fun x7 h_x7 => (sn_ifA (te_orB (te_T (yi_op (x := (D.int (x3.length : Int))) (y := (D.int (3 : Int))) (yi_call (ya_cons (yi_var rfl) ya_nil) (dLen_L _)) yi_c (Eqb.ne eqb_int (by decide) (x3.length : Int) (3 : Int)))) (fun r6 h_r6 => (bindE h_r6 fun x4 h_x4 h_r6_1 => (bindE h_r6_1 fun x5 h_x5 h_r6_2 => (te_nm h_r6_2 (te_T (yi_op (yi_op (yi_var rfl) yi_c (ixT_ok _ _ _ h_x4)) yi_c (sneT_ok _ _ _ h_x5))))))) h_x7) (sn_ret ((eO (eL (eO (eL (eO D.int))))) (none : (Option (List (Option (List (Option Int))))))) yi_c (rx_in (rv trivial) rfl)) (sn_skip (sm_bind fun x8 h_x8 => (sm_bind fun x9 h_x9 => (sn_set ((eO D.int) x9) [(D.str text), ((eL D.str) x1), ((eL D.str) x3), ((eO D.int) x9), .non, .non, .non, .non, .non, .non] (yi_fnN (ya_cons (x := (D.str x8)) (yi_op (yi_var rfl) yi_c (ixT_ok _ _ _ h_x8)) ya_nil) (tf_law_number _ h_x9)) rfl (sm_bind fun x10 h_x10 => (sm_bind fun x11 h_x11 => (sn_set ((eO D.int) x11) [(D.str text), ((eL D.str) x1), ((eL D.str) x3), ((eO D.int) x9), ((eO D.int) x11), .non, .non, .non, .non, .non] (yi_fnN (ya_cons (x := (D.str x10)) (yi_op (yi_var rfl) yi_c (ixT_ok _ _ _ h_x10)) ya_nil) (tf_law_number _ h_x11)) rfl (sm_bind fun x27 h_x27 => (sn_ifA (te_orB (te_T (yi_op (yi_var rfl) yi_c (isN_ok (fun a => by first | rfl | (cases a; rfl)) x9 ()))) (fun r26 h_r26 => (bindE h_r26 fun x25 h_x25 h_r26_1 => (te_nm h_r26_1 (te_orB (te_T (yi_op (yi_var rfl) yi_c (isN_ok (fun a => by first | rfl | (cases a; rfl)) x11 ()))) (fun r24 h_r24 => (bindE h_r24 fun x12 h_x12 h_r24_1 => (bindE h_r24_1 fun x23 h_x23 h_r24_2 => (te_nm h_r24_2 (te_orB (te_T (yi_op (yi_get (e := D.int) h_x12 (yi_var rfl)) yi_c rfl)) (fun r22 h_r22 => (bindE h_r22 fun x13 h_x13 h_r22_1 => (bindE h_r22_1 fun x21 h_x21 h_r22_2 => (te_nm h_r22_2 (te_orB (te_T (yi_op (yi_get (e := D.int) h_x13 (yi_var rfl)) yi_c rfl)) (fun r20 h_r20 => (bindE h_r20 fun x14 h_x14 h_r20_1 => (bindE h_r20_1 fun x19 h_x19 h_r20_2 => (te_nm h_r20_2 (te_orB (te_T (yi_op (yi_get (e := D.int) h_x14 (yi_var rfl)) yi_c rfl)) (fun r18 h_r18 => (bindE h_r18 fun x17 h_x17 h_r18_1 => (te_nm h_r18_1 (te_orB (te_T (yi_op (x := ((eO D.int) x11)) (y := ((eO D.int) (some ((x1.length : Int) - (1 : Int))))) (yi_var rfl) (yi_op (yi_call (ya_cons (yi_var rfl) ya_nil) (dLen_L _)) yi_c rfl) (Eqb.ne (eqb_O eqb_int (fun _ => ⟨rfl, rfl⟩)) (by decide) x11 (some ((x1.length : Int) - (1 : Int)))))) (fun r16 h_r16 => (bindE h_r16 fun x15 h_x15 h_r16_1 => (te_nm h_r16_1 (te_T (yi_op (yi_get (e := D.int) h_x15 (yi_var rfl)) yi_c rfl))))) h_x17)))) h_x19))))) h_x21))))) h_x23))))) h_x25)))) h_x27) (sn_ret ((eO (eL (eO (eL (eO D.int))))) (none : (Option (List (Option (List (Option Int))))))) yi_c (rx_in (rv trivial) rfl)) (sn_skip (sm_bind fun x33 h_x33 => (sn_set ((eL (eO (eL (eO D.int)))) x33) [(D.str text), ((eL D.str) x1), ((eL D.str) x3), ((eO D.int) x9), ((eO D.int) x11), ((eL (eO (eL (eO D.int)))) x33), .non, .non, .non, .non] (yi_lcM (ea := D.str) (eb := (eO (eL (eO D.int)))) (yi_sl im_str (yi_var rfl) (yo_s yi_c) yo_n) (fun c28 => (fun r32 h_r32 => (bindE h_r32 fun x29 h_x29 h_r32_1 => (bindE h_r32_1 fun x30 h_x30 h_r32_2 => (bindE h_r32_2 fun x31 h_x31 h_r32_3 => (yi_nm (e := (eO (eL (eO D.int)))) h_r32_3 (yi_fnN (ya_cons (x := (D.str c28)) (yi_var rfl) (ya_cons (x := (D.int x29)) (yi_get (e := D.int) h_x29 (yi_var rfl)) (ya_cons (x := (D.int x30)) (yi_get (e := D.int) h_x30 (yi_var rfl)) ya_nil))) (tf_law_line _ _ _ h_x31)))))))) h_x33) rfl (sn_ifA (te_T (yi_op (x := ((eO (eL (eO D.int))) (none : (Option (List (Option Int)))))) (y := ((eL (eO (eL (eO D.int)))) x33)) yi_c (yi_var rfl) (dInD_ok (eqb_O (eqb_L (eqb_O eqb_int (fun _ => ⟨rfl, rfl⟩))) (fun _ => ⟨rfl, rfl⟩)) (by decide) _ _))) (sn_ret ((eO (eL (eO (eL (eO D.int))))) (none : (Option (List (Option (List (Option Int))))))) yi_c (rx_in (rv trivial) rfl)) (sn_skip (sm_bind fun x34 h_x34 => (sm_bind fun x35 h_x35 => (sn_forC (e := D.int) (B := T_law_read_b1 x33) (s0 := ()) (fun (s36 : Unit) (δ37 : Nat → D) => [(D.str text), ((eL D.str) x1), ((eL D.str) x3), ((eO D.int) x9), ((eO D.int) x11), ((eL (eO (eL (eO D.int)))) x33), .non, (δ37 7), (δ37 8), .non]) (sr_r1 (yi_get (e := D.int) h_x34 (yi_var rfl)) h_x35) (by first | rfl | (simp [eL, List.map_set, List.map_append, List.map_map, Function.comp_def]; done) | (simp [eL, eO, List.map_set, List.map_append, List.map_map, Function.comp_def]; rfl)) (fun s36 k δ37 => sm_env (env' := [(D.str text), ((eL D.str) x1), ((eL D.str) x3), ((eO D.int) x9), ((eO D.int) x11), ((eL (eO (eL (eO D.int)))) x33), .non, (D.int k), (δ37 8), .non]) rfl (sm_bind fun x46 h_x46 => (sn_set ((eL D.int) x46) [(D.str text), ((eL D.str) x1), ((eL D.str) x3), ((eO D.int) x9), ((eO D.int) x11), ((eL (eO (eL (eO D.int)))) x33), .non, (D.int k), ((eL D.int) x46), .non] (yi_lcT (ea := (eO (eL (eO D.int)))) (eb := D.int) (yi_var rfl) (fun c38 => (fun r45 h_r45 => (bindE h_r45 fun x39 h_x39 h_r45_1 => (bindE h_r45_1 fun x40 h_x40 h_r45_2 => (te_nm h_r45_2 (te_T (yi_op (yi_op (yi_get (e := (eL (eO D.int))) h_x39 (yi_var rfl)) (yi_var rfl) (ixT_ok _ _ _ h_x40)) yi_c (notN_ok (fun a => by first | rfl | (cases a; rfl)) x40 ())))))))) (fun c38 => (fun r44 h_r44 => (bindE h_r44 fun x41 h_x41 h_r44_1 => (bindE h_r44_1 fun x42 h_x42 h_r44_2 => (bindE h_r44_2 fun x43 h_x43 h_r44_3 => (yi_nm (e := D.int) h_r44_3 (yi_get (e := D.int) h_x43 (yi_op (yi_get (e := (eL (eO D.int))) h_x41 (yi_var rfl)) (yi_var rfl) (ixT_ok _ _ _ h_x42))))))))) h_x46) rfl (sm_bind fun x47 h_x47 => (sm_end (sn_ifA (te_T (yi_op (x := (D.int x47)) (y := (D.int (x46.length : Int))) (yi_un (yi_var rfl) (dLenSet_ok _ h_x47)) (yi_call (ya_cons (yi_var rfl) ya_nil) (dLen_L _)) (Eqb.ne eqb_int (by decide) x47 (x46.length : Int)))) (sn_ret ((eO (eL (eO (eL (eO D.int))))) (none : (Option (List (Option (List (Option Int))))))) yi_c (rx_in (rc_in (rv trivial) rfl) rfl)) (sn_skip (sn_fallC _ (by first | rfl | (simp [eL, List.map_set, List.map_append, List.map_map, Function.comp_def]; done) | (simp [eL, eO, List.map_set, List.map_append, List.map_map, Function.comp_def]; rfl)))))))))) (fun s36 δ37 => (sn_ret ((eO (eL (eO (eL (eO D.int))))) (some x33)) (yi_var rfl) (rv trivial)))))))))))))))))))))))))))
theorem tf_law_read (text : Str) {r : (Option (List (Option (List (Option Int)))))} (h : T_law_read text = some r) : FnP (G_law_read [(D.str text)]) ((eO (eL (eO (eL (eO D.int))))) r) ((fun _ _ => True) r) := fnV (er := (eO (eL (eO (eL (eO D.int)))))) (P := (fun _ _ => True)) (ts_law_read text) h
noncomputable def T_count_of_b1 (s5 : Unit) (sign : Nat) : Option (Unit ⊕ (Except String Int × Unit)) :=
  if (!decide (sign ∈ (("0123456789" : Str) : Str).cps.toList)) = true then
    some (.inr (.error "NoChart", ()))
  else
  some (.inl ())
noncomputable def T_count_of (word : Str) : Option (Except String Int × Unit) :=
  (lenS word).bind fun x1 =>
    (if (decide (x1 < (1 : Int))) = true then some true else ((lenS word).bind fun x2 => some (decide ((3 : Int) < x2)))).bind fun x4 =>
    if x4 = true then
    some (.error "NoChart", ())
  else
  thenC (forC T_count_of_b1 word.cps.toList ()) fun s5 : Unit =>
  (intS word).bind fun x7 =>
  some (.ok x7, ())
theorem ts_count_of (word : Str) : Sm (RoE D.int (fun (r : Int) (l : Unit) (e : List D) => True) (fun (l : Unit) (e : List D) => True)) (T_count_of word) (g_count_of [(D.str word), .non]) := by
  unfold T_count_of
  exact (sm_bind fun x1 h_x1 => (sm_bind fun x4 h_x4 => (sn_ifA (te_orB (te_T (yi_op (yi_call (ya_cons (yi_var rfl) ya_nil) (lenS_ok h_x1)) yi_c rfl)) (fun r3 h_r3 => (bindE h_r3 fun x2 h_x2 h_r3_1 => (te_nm h_r3_1 (te_T (yi_op (yi_call (ya_cons (yi_var rfl) ya_nil) (lenS_ok h_x2)) yi_c rfl))))) h_x4) (sx_raise (rx_in (re_ex trivial) rfl)) (sn_skip (sn_forC (e := chD) (B := T_count_of_b1) (s0 := ()) (fun (s5 : Unit) (δ6 : Nat → D) => [(D.str word), (δ6 1)]) (sr_str (yi_var rfl)) (by first | rfl | (simp [eL, List.map_set, List.map_append, List.map_map, Function.comp_def]; done) | (simp [eL, eO, List.map_set, List.map_append, List.map_map, Function.comp_def]; rfl)) (fun s5 sign δ6 => sm_env (env' := [(D.str word), (chD sign)]) rfl (sm_end (sn_ifA (te_T (yi_op (x := (chD sign)) (y := (D.str ("0123456789" : Str))) (yi_var rfl) yi_c rfl)) (sx_raise (rx_in (rc_in (re_ex trivial) rfl) rfl)) (sn_skip (sn_fallC _ (by first | rfl | (simp [eL, List.map_set, List.map_append, List.map_map, Function.comp_def]; done) | (simp [eL, eO, List.map_set, List.map_append, List.map_map, Function.comp_def]; rfl))))))) (fun s5 δ6 => (sm_bind fun x7 h_x7 => (sn_ret (D.int x7) (yi_call (ya_cons (yi_var rfl) ya_nil) (dIntS_ok h_x7)) (re_ok trivial)))))))))
theorem tf_count_of (word : Str) {r : Except String Int × Unit} (h : T_count_of word = some r) : (∀ v, r.1 = .ok v → FnP (G_count_of [(D.str word)]) (D.int v) ((fun (r : Int) (l : Unit) (e : List D) => True) v r.2)) ∧ ∀ c, r.1 = .error c → FnX (G_count_of [(D.str word)]) c ((fun (l : Unit) (e : List D) => True) r.2) := fnE (er := D.int) (P := (fun (r : Int) (l : Unit) (e : List D) => True)) (Q := (fun (l : Unit) (e : List D) => True)) (ts_count_of word) h (Or.inl rfl)
noncomputable def T_entry_of (word : Str) : Option (Except String (Option Int) × Unit) :=
  (seqT word ("-" : Str)).bind fun x1 =>
    if x1 = true then
    some (.ok (none : (Option Int)), ())
  else
  (T_count_of word).bind fun x2 =>
  caseE x2.1 (fun c_v3 => some (.error c_v3, ())) fun v3 =>
  some (.ok (some v3), ())
theorem ts_entry_of (word : Str) : Sm (RoE (eO D.int) (fun (r : (Option Int)) (l : Unit) (e : List D) => True) (fun (l : Unit) (e : List D) => True)) (T_entry_of word) (g_entry_of [(D.str word)]) := by
  unfold T_entry_of
  exact (sm_bind fun x1 h_x1 => (sn_ifA (te_T (yi_op (yi_var rfl) yi_c (seqT_ok _ _ _ h_x1))) (sn_ret ((eO D.int) (none : (Option Int))) yi_c (rx_in (re_ok trivial) rfl)) (sn_skip (sm_bind fun x2 h_x2 => (sm_case (fun c_v3 h_v3 => (sx_ret (yx_fn (ya_cons (x := (D.str word)) (yi_var rfl) ya_nil) ((tf_count_of _ h_x2).2 c_v3 h_v3)) (re_ex trivial))) (fun v3 h_v3 => (sn_ret ((eO D.int) (some v3)) (yi_fn (ya_cons (x := (D.str word)) (yi_var rfl) ya_nil) ((tf_count_of _ h_x2).1 v3 h_v3)) (re_ok trivial))))))))
theorem tf_entry_of (word : Str) {r : Except String (Option Int) × Unit} (h : T_entry_of word = some r) : (∀ v, r.1 = .ok v → FnP (G_entry_of [(D.str word)]) ((eO D.int) v) ((fun (r : (Option Int)) (l : Unit) (e : List D) => True) v r.2)) ∧ ∀ c, r.1 = .error c → FnX (G_entry_of [(D.str word)]) c ((fun (l : Unit) (e : List D) => True) r.2) := fnE (er := (eO D.int)) (P := (fun (r : (Option Int)) (l : Unit) (e : List D) => True)) (Q := (fun (l : Unit) (e : List D) => True)) (ts_entry_of word) h (Or.inl rfl)
noncomputable def T_rows_fit_b2 (table : (List (List (Option Int)))) (s3 : Unit) (end' : (Option Int)) : Option (Unit ⊕ (Unit ⊕ Bool)) :=
  (if end'.isSome = true then ((end').bind fun x5 => (if (decide (x5 < (0 : Int))) = true then some true else ((end').bind fun x6 => some (decide ((table.length : Int) ≤ x6)))).bind fun x8 => some x8) else some false).bind fun x10 =>
    if x10 = true then
    some (.inr (.inr false))
  else
  some (.inl ())
noncomputable def T_rows_fit_b1 (kinds : Int) (table : (List (List (Option Int)))) (s1 : Unit) (outs : (List (Option Int))) : Option (Unit ⊕ Bool) :=
  if (!decide ((outs.length : Int) = kinds)) = true then
    some (.inr false)
  else
  thenC (forC (T_rows_fit_b2 table) outs ()) fun s3 : Unit =>
  some (.inl ())
noncomputable def T_rows_fit (kinds : Int) (table : (List (List (Option Int)))) : Option Bool :=
  thenC (forC (T_rows_fit_b1 kinds table) table ()) fun s1 : Unit =>
  some true
theorem ts_rows_fit (kinds : Int) (table : (List (List (Option Int)))) : Sm (RoV D.bl (fun _ _ => True)) (T_rows_fit kinds table) (g_rows_fit [(D.int kinds), ((eL (eL (eO D.int))) table), .non, .non]) := by
  unfold T_rows_fit
  exact (sn_forC (e := (eL (eO D.int))) (B := T_rows_fit_b1 kinds table) (s0 := ()) (fun (s1 : Unit) (δ2 : Nat → D) => [(D.int kinds), ((eL (eL (eO D.int))) table), (δ2 2), (δ2 3)]) (sr_list (yi_var rfl)) (by first | rfl | (simp [eL, List.map_set, List.map_append, List.map_map, Function.comp_def]; done) | (simp [eL, eO, List.map_set, List.map_append, List.map_map, Function.comp_def]; rfl)) (fun s1 outs δ2 => sm_env (env' := [(D.int kinds), ((eL (eL (eO D.int))) table), ((eL (eO D.int)) outs), (δ2 3)]) rfl (sn_ifA (te_T (yi_op (x := (D.int (outs.length : Int))) (y := (D.int kinds)) (yi_call (ya_cons (yi_var rfl) ya_nil) (dLen_L _)) (yi_var rfl) (Eqb.ne eqb_int (by decide) (outs.length : Int) kinds))) (sn_ret (D.bl false) yi_c (rx_in (rc_in (rv trivial) rfl) rfl)) (sn_skip (sm_end (sn_forC (e := (eO D.int)) (B := T_rows_fit_b2 table) (s0 := ()) (fun (s3 : Unit) (δ4 : Nat → D) => [(D.int kinds), ((eL (eL (eO D.int))) table), ((eL (eO D.int)) outs), (δ4 3)]) (sr_list (yi_var rfl)) (by first | rfl | (simp [eL, List.map_set, List.map_append, List.map_map, Function.comp_def]; done) | (simp [eL, eO, List.map_set, List.map_append, List.map_map, Function.comp_def]; rfl)) (fun s3 end' δ4 => sm_env (env' := [(D.int kinds), ((eL (eL (eO D.int))) table), ((eL (eO D.int)) outs), ((eO D.int) end')]) rfl (sm_bind fun x10 h_x10 => (sm_end (sn_ifA (te_andB (te_T (yi_op (yi_var rfl) yi_c (notN_ok (fun a => by first | rfl | (cases a; rfl)) end' ()))) (fun r9 h_r9 => (bindE h_r9 fun x5 h_x5 h_r9_1 => (bindE h_r9_1 fun x8 h_x8 h_r9_2 => (te_nm h_r9_2 (te_orB (te_T (yi_op (yi_get (e := D.int) h_x5 (yi_var rfl)) yi_c rfl)) (fun r7 h_r7 => (bindE h_r7 fun x6 h_x6 h_r7_1 => (te_nm h_r7_1 (te_T (yi_op (yi_get (e := D.int) h_x6 (yi_var rfl)) (yi_call (ya_cons (yi_var rfl) ya_nil) (dLen_L _)) rfl))))) h_x8))))) h_x10) (sn_ret (D.bl false) yi_c (rx_in (rc_in (rc_in (rv trivial) rfl) rfl) rfl)) (sn_skip (sn_fallC _ (by first | rfl | (simp [eL, List.map_set, List.map_append, List.map_map, Function.comp_def]; done) | (simp [eL, eO, List.map_set, List.map_append, List.map_map, Function.comp_def]; rfl)))))))) (fun s3 δ4 => (sn_fallC _ (by first | rfl | (simp [eL, List.map_set, List.map_append, List.map_map, Function.comp_def]; done) | (simp [eL, eO, List.map_set, List.map_append, List.map_map, Function.comp_def]; rfl))))))))) (fun s1 δ2 => (sn_ret (D.bl true) yi_c (rv trivial))))
theorem tf_rows_fit (kinds : Int) (table : (List (List (Option Int)))) {r : Bool} (h : T_rows_fit kinds table = some r) : FnP (G_rows_fit [(D.int kinds), ((eL (eL (eO D.int))) table)]) (D.bl r) ((fun _ _ => True) r) := fnV (er := D.bl) (P := (fun _ _ => True)) (ts_rows_fit kinds table) h
noncomputable def T_seen_back_b1 (kinds : Int) (s2 : (List (List (Option Int)))) (chamber : Int) : Option (List (List (Option Int))) :=
  (lr1 kinds).bind fun x4 =>
  (appT s2 (x4.map (fun c5 : Int => (none : (Option Int))))).bind fun x6 =>
  some x6
noncomputable def T_seen_back_b3 (table : (List (List (Option Int)))) (chamber_2 : Int) (s11 : (List (List (Option Int)))) (at' : Int) : Option ((List (List (Option Int))) ⊕ ((List (List (Option Int))) ⊕ (Option (List (List (Option Int)))))) :=
  (ixT table chamber_2).bind fun x13 =>
  (ixT x13 at').bind fun x14 =>
  thenC (if x14.isSome = true then
    (x14).bind fun x17 =>
      (ixT s11 x17).bind fun x18 =>
      (ixT x18 at').bind fun x19 =>
      if x19.isSome = true then
      some (.inr (.inr (.inr (none : (Option (List (List (Option Int))))))))
    else
    (x14).bind fun x20 =>
    (ixT s11 x20).bind fun x21 =>
    (sTT x21 at' (some chamber_2)).bind fun x22 =>
    some (.inl (s11.set (ixn s11.length x20) x22))
    else
    some (.inl s11)) fun s15 : (List (List (Option Int))) =>
  some (.inl s15)
noncomputable def T_seen_back_b2 (kinds : Int) (table : (List (List (Option Int)))) (s8 : (List (List (Option Int)))) (chamber_2 : Int) : Option ((List (List (Option Int))) ⊕ (Option (List (List (Option Int))))) :=
  (rg1T kinds).bind fun x10 =>
  thenC (forC (T_seen_back_b3 table chamber_2) x10 s8) fun s11 : (List (List (Option Int))) =>
  some (.inl s11)
noncomputable def T_seen_back (kinds : Int) (table : (List (List (Option Int)))) : Option (Option (List (List (Option Int)))) :=
  (rg1T (table.length : Int)).bind fun x1 =>
  (forO (T_seen_back_b1 kinds) x1 ([] : (List (List (Option Int))))).bind fun s2 : (List (List (Option Int))) =>
  (rg1T (table.length : Int)).bind fun x7 =>
  thenC (forC (T_seen_back_b2 kinds table) x7 s2) fun s8 : (List (List (Option Int))) =>
  some (some s8)
theorem ts_seen_back (kinds : Int) (table : (List (List (Option Int)))) : Sm (RoV (eO (eL (eL (eO D.int)))) (fun _ _ => True)) (T_seen_back kinds table) (g_seen_back [(D.int kinds), ((eL (eL (eO D.int))) table), .non, .non, .non, .non, .non]) := by
  unfold T_seen_back
  exact (sn_set ((eL (eL (eO D.int))) ([] : (List (List (Option Int))))) [(D.int kinds), ((eL (eL (eO D.int))) table), ((eL (eL (eO D.int))) ([] : (List (List (Option Int))))), .non, .non, .non, .non] (yi_lst ya_nil) rfl (sm_bind fun x1 h_x1 => (sn_for (e := D.int) (B := T_seen_back_b1 kinds) (s0 := ([] : (List (List (Option Int))))) (fun (s2 : (List (List (Option Int)))) (δ3 : Nat → D) => [(D.int kinds), ((eL (eL (eO D.int))) table), ((eL (eL (eO D.int))) s2), (δ3 3), .non, .non, .non]) (sr_r1 (yi_call (ya_cons (yi_var rfl) ya_nil) (dLen_L _)) h_x1) (by first | rfl | (simp [eL, List.map_set, List.map_append, List.map_map, Function.comp_def]; done) | (simp [eL, eO, List.map_set, List.map_append, List.map_map, Function.comp_def]; rfl)) (fun s2 chamber δ3 => sm_env (env' := [(D.int kinds), ((eL (eL (eO D.int))) table), ((eL (eL (eO D.int))) s2), (D.int chamber), .non, .non, .non]) rfl (sm_bind fun x4 h_x4 => (sm_bind fun x6 h_x6 => (sm_end (sn_app (e := (eL (eO D.int))) (v := (x4.map (fun c5 : Int => (none : (Option Int))))) [(D.int kinds), ((eL (eL (eO D.int))) table), ((eL (eL (eO D.int))) x6), (D.int chamber), .non, .non, .non] (pt_var rfl) (yi_lcR1P (eb := (eO D.int)) (yi_var rfl) h_x4 (fun c5 => yi_c)) h_x6 (by first | rfl | (simp [eL, List.map_set, List.map_append, List.map_map, Function.comp_def]; done) | (simp [eL, eO, List.map_set, List.map_append, List.map_map, Function.comp_def]; rfl)) (sn_fall _ (by first | rfl | (simp [eL, List.map_set, List.map_append, List.map_map, Function.comp_def]; done) | (simp [eL, eO, List.map_set, List.map_append, List.map_map, Function.comp_def]; rfl)))))))) (fun s2 δ3 => (sm_bind fun x7 h_x7 => (sn_forC (e := D.int) (B := T_seen_back_b2 kinds table) (s0 := s2) (fun (s8 : (List (List (Option Int)))) (δ9 : Nat → D) => [(D.int kinds), ((eL (eL (eO D.int))) table), ((eL (eL (eO D.int))) s8), (δ9 3), .non, (δ9 5), (δ9 6)]) (sr_r1 (yi_call (ya_cons (yi_var rfl) ya_nil) (dLen_L _)) h_x7) (by first | rfl | (simp [eL, List.map_set, List.map_append, List.map_map, Function.comp_def]; done) | (simp [eL, eO, List.map_set, List.map_append, List.map_map, Function.comp_def]; rfl)) (fun s8 chamber_2 δ9 => sm_env (env' := [(D.int kinds), ((eL (eL (eO D.int))) table), ((eL (eL (eO D.int))) s8), (D.int chamber_2), .non, (δ9 5), (δ9 6)]) rfl (sm_bind fun x10 h_x10 => (sm_end (sn_forC (e := D.int) (B := T_seen_back_b3 table chamber_2) (s0 := s8) (fun (s11 : (List (List (Option Int)))) (δ12 : Nat → D) => [(D.int kinds), ((eL (eL (eO D.int))) table), ((eL (eL (eO D.int))) s11), (D.int chamber_2), .non, (δ12 5), (δ12 6)]) (sr_r1 (yi_var rfl) h_x10) (by first | rfl | (simp [eL, List.map_set, List.map_append, List.map_map, Function.comp_def]; done) | (simp [eL, eO, List.map_set, List.map_append, List.map_map, Function.comp_def]; rfl)) (fun s11 at' δ12 => sm_env (env' := [(D.int kinds), ((eL (eL (eO D.int))) table), ((eL (eL (eO D.int))) s11), (D.int chamber_2), .non, (D.int at'), (δ12 6)]) rfl (sm_bind fun x13 h_x13 => (sm_bind fun x14 h_x14 => (sn_set ((eO D.int) x14) [(D.int kinds), ((eL (eL (eO D.int))) table), ((eL (eL (eO D.int))) s11), (D.int chamber_2), .non, (D.int at'), ((eO D.int) x14)] (yi_imm (yi_op (yi_op (yi_var rfl) (yi_var rfl) (ixT_ok _ _ _ h_x13)) (yi_var rfl) (ixT_ok _ _ _ h_x14)) ((im_O im_int) _)) rfl (sm_end (sm_seqC (fun (s15 : (List (List (Option Int)))) (δ16 : Nat → D) => [(D.int kinds), ((eL (eL (eO D.int))) table), ((eL (eL (eO D.int))) s15), (D.int chamber_2), .non, (D.int at'), ((eO D.int) x14)]) (sn_ifE (te_T (yi_op (yi_var rfl) yi_c (notN_ok (fun a => by first | rfl | (cases a; rfl)) x14 ()))) (sm_bind fun x17 h_x17 => (sm_bind fun x18 h_x18 => (sm_bind fun x19 h_x19 => (sn_ifA (te_T (yi_op (yi_op (yi_op (yi_var rfl) (yi_get (e := D.int) h_x17 (yi_var rfl)) (ixT_ok _ _ _ h_x18)) (yi_var rfl) (ixT_ok _ _ _ h_x19)) yi_c (notN_ok (fun a => by first | rfl | (cases a; rfl)) x19 ()))) (sn_ret ((eO (eL (eL (eO D.int)))) (none : (Option (List (List (Option Int)))))) yi_c (rx_in (rc_in (rc_in (rc_in (rv trivial) rfl) rfl) rfl) rfl)) (sn_skip (sm_bind fun x20 h_x20 => (sm_bind fun x21 h_x21 => (sm_bind fun x22 h_x22 => (sm_end (sn_set1 (e := (eO D.int)) (v := (some chamber_2)) [(D.int kinds), ((eL (eL (eO D.int))) table), ((eL (eL (eO D.int))) (s11.set (ixn s11.length x20) x22)), (D.int chamber_2), .non, (D.int at'), ((eO D.int) x14)] (yi_var rfl) (pt_ix (pt_var rfl) (yi_get (e := D.int) h_x20 (yi_var rfl)) h_x21) (yi_var rfl) h_x22 (by first | rfl | (simp [eL, List.map_set, List.map_append, List.map_map, Function.comp_def]; done) | (simp [eL, eO, List.map_set, List.map_append, List.map_map, Function.comp_def]; rfl)) (sn_fallC _ (by first | rfl | (simp [eL, List.map_set, List.map_append, List.map_map, Function.comp_def]; done) | (simp [eL, eO, List.map_set, List.map_append, List.map_map, Function.comp_def]; rfl))))))))))))) (sn_fallC _ (by first | rfl | (simp [eL, List.map_set, List.map_append, List.map_map, Function.comp_def]; done) | (simp [eL, eO, List.map_set, List.map_append, List.map_map, Function.comp_def]; rfl)))) (fun s15 δ16 => (sn_fallC _ (by first | rfl | (simp [eL, List.map_set, List.map_append, List.map_map, Function.comp_def]; done) | (simp [eL, eO, List.map_set, List.map_append, List.map_map, Function.comp_def]; rfl)))))))))) (fun s11 δ12 => (sn_fallC _ (by first | rfl | (simp [eL, List.map_set, List.map_append, List.map_map, Function.comp_def]; done) | (simp [eL, eO, List.map_set, List.map_append, List.map_map, Function.comp_def]; rfl)))))))) (fun s8 δ9 => (sn_ret ((eO (eL (eL (eO D.int)))) (some s8)) (yi_var rfl) (rv trivial)))))))))
theorem tf_seen_back (kinds : Int) (table : (List (List (Option Int)))) {r : (Option (List (List (Option Int))))} (h : T_seen_back kinds table = some r) : FnP (G_seen_back [(D.int kinds), ((eL (eL (eO D.int))) table)]) ((eO (eL (eL (eO D.int)))) r) ((fun _ _ => True) r) := fnV (er := (eO (eL (eL (eO D.int))))) (P := (fun _ _ => True)) (ts_seen_back kinds table) h
structure S_Chart where
  kinds : Int
  outs : (List (List (Option Int)))
  ins : (List (List (Option Int)))
abbrev em_Chart (x : S_Chart) : D := .ins "Chart" [(("kinds" : Str), D.int x.kinds), (("outs" : Str), (eL (eL (eO D.int))) x.outs), (("ins" : Str), (eL (eL (eO D.int))) x.ins)]
theorem fl_Chart_kinds (x : S_Chart) : dFld "Chart" "kinds" (em_Chart x) = some (D.int x.kinds) := by rfl
theorem fl_Chart_outs (x : S_Chart) : dFld "Chart" "outs" (em_Chart x) = some ((eL (eL (eO D.int))) x.outs) := by rfl
theorem io_Chart_size (x : S_Chart) : insOf "Chart" "size" (em_Chart x) = true := by rfl
theorem io_Chart_table (x : S_Chart) : insOf "Chart" "table" (em_Chart x) = true := by rfl
noncomputable def T_Chart_init (kinds : Int) (table : (List (List (Option Int)))) : Option (Except String S_Chart × Unit) :=
  if ((decide (kinds < (1 : Int))) || (decide ((5 : Int) < kinds))) = true then
    some (.error "NoChart", ())
  else
  if ((decide ((table.length : Int) < (1 : Int))) || (decide ((700 : Int) < (table.length : Int)))) = true then
    some (.error "NoChart", ())
  else
  (T_rows_fit kinds table).bind fun x1 =>
    if (!x1) = true then
    some (.error "NoChart", ())
  else
  (T_seen_back kinds table).bind fun x2 =>
  if x2.isNone = true then
    some (.error "NoChart", ())
  else
  (lcP (fun c3 : (List (Option Int)) => c3) table).bind fun x4 =>
  (x2).bind fun x5 =>
  some (.ok ({ kinds := kinds, outs := x4, ins := x5 } : S_Chart), ())
theorem ts_Chart_init (kinds : Int) (table : (List (List (Option Int)))) : Sm (RoE (fun _ : S_Chart => D.non) (fun (r : S_Chart) (l : Unit) (e : List D) => e[0]? = some (em_Chart r)) (fun (l : Unit) (e : List D) => True)) (T_Chart_init kinds table) (g_Chart_init [(.ins "Chart" []), (D.int kinds), ((eL (eL (eO D.int))) table), .non, .non]) := by
  unfold T_Chart_init
  exact (sn_ifA (te_or (te_T (yi_op (yi_var rfl) yi_c rfl)) (te_T (yi_op (yi_var rfl) yi_c rfl))) (sx_raise (rx_in (re_ex trivial) rfl)) (sn_skip (sn_ifA (te_or (te_T (yi_op (yi_call (ya_cons (yi_var rfl) ya_nil) (dLen_L _)) yi_c rfl)) (te_T (yi_op (yi_call (ya_cons (yi_var rfl) ya_nil) (dLen_L _)) yi_c rfl))) (sx_raise (rx_in (re_ex trivial) rfl)) (sn_skip (sm_bind fun x1 h_x1 => (sn_ifA (te_not (te_T (yi_fnN (ya_cons (x := (D.int kinds)) (yi_var rfl) (ya_cons (x := ((eL (eL (eO D.int))) table)) (yi_var rfl) ya_nil)) (tf_rows_fit _ _ h_x1)))) (sx_raise (rx_in (re_ex trivial) rfl)) (sn_skip (sm_bind fun x2 h_x2 => (sn_set ((eO (eL (eL (eO D.int)))) x2) [(.ins "Chart" []), (D.int kinds), ((eL (eL (eO D.int))) table), ((eO (eL (eL (eO D.int)))) x2), .non] (yi_fnN (ya_cons (x := (D.int kinds)) (yi_var rfl) (ya_cons (x := ((eL (eL (eO D.int))) table)) (yi_var rfl) ya_nil)) (tf_seen_back _ _ h_x2)) rfl (sn_ifA (te_T (yi_op (yi_var rfl) yi_c (isN_ok nn_L x2 ()))) (sx_raise (rx_in (re_ex trivial) rfl)) (sn_skip (sn_fld (x := (D.int kinds)) (fl := []) [(.ins "Chart" [(("kinds" : Str), (D.int kinds))]), (D.int kinds), ((eL (eL (eO D.int))) table), ((eO (eL (eL (eO D.int)))) x2), .non] (yi_imm (yi_var rfl) (im_int _)) (pt_var rfl) (show 0 < 900 from by decide) rfl (sm_bind fun x4 h_x4 => (sn_fld (x := ((eL (eL (eO D.int))) x4)) (fl := [(("kinds" : Str), (D.int kinds))]) [(.ins "Chart" [(("kinds" : Str), (D.int kinds)), (("outs" : Str), ((eL (eL (eO D.int))) x4))]), (D.int kinds), ((eL (eL (eO D.int))) table), ((eO (eL (eL (eO D.int)))) x2), .non] (yi_lcP (ea := (eL (eO D.int))) (eb := (eL (eO D.int))) (yi_var rfl) (fun c3 => (yi_call (ya_cons (yi_var rfl) ya_nil) (dList_L (im_O im_int) _))) h_x4) (pt_var rfl) (show 1 < 900 from by decide) rfl (sm_bind fun x5 h_x5 => (sm_end (sn_fld (x := ((eL (eL (eO D.int))) x5)) (fl := [(("kinds" : Str), (D.int kinds)), (("outs" : Str), ((eL (eL (eO D.int))) x4))]) [(.ins "Chart" [(("kinds" : Str), (D.int kinds)), (("outs" : Str), ((eL (eL (eO D.int))) x4)), (("ins" : Str), ((eL (eL (eO D.int))) x5))]), (D.int kinds), ((eL (eL (eO D.int))) table), ((eO (eL (eL (eO D.int)))) x2), .non] (yi_get (e := (eL (eL (eO D.int)))) h_x5 (yi_var rfl)) (pt_var rfl) (show 2 < 900 from by decide) rfl (sm_next (re_end rfl (by exact rfl))))))))))))))))))))
theorem tf_Chart_init (kinds : Int) (table : (List (List (Option Int)))) {r : Except String S_Chart × Unit} (h : T_Chart_init kinds table = some r) : (∀ v, r.1 = .ok v → FnP (G_Chart_init [(.ins "Chart" []), (D.int kinds), ((eL (eL (eO D.int))) table)]) .non ((fun (r : S_Chart) (l : Unit) (e : List D) => e[0]? = some (em_Chart r)) v r.2)) ∧ ∀ c, r.1 = .error c → FnX (G_Chart_init [(.ins "Chart" []), (D.int kinds), ((eL (eL (eO D.int))) table)]) c ((fun (l : Unit) (e : List D) => True) r.2) := fnE (er := (fun _ : S_Chart => D.non)) (P := (fun (r : S_Chart) (l : Unit) (e : List D) => e[0]? = some (em_Chart r))) (Q := (fun (l : Unit) (e : List D) => True)) (ts_Chart_init kinds table) h (Or.inl rfl)
noncomputable def T_Chart_size (self : S_Chart) : Option Int :=
  some (self.outs.length : Int)
theorem ts_Chart_size (self : S_Chart) : Sm (RoV D.int (fun _ _ => True)) (T_Chart_size self) (g_Chart_size [(em_Chart self)]) := by
  unfold T_Chart_size
  exact (sn_ret (D.int (self.outs.length : Int)) (yi_call (ya_cons (yi_un (yi_var rfl) (fl_Chart_outs _)) ya_nil) (dLen_L _)) (rv trivial))
theorem tf_Chart_size (self : S_Chart) {r : Int} (h : T_Chart_size self = some r) : FnP (G_Chart_size [(em_Chart self)]) (D.int r) ((fun _ _ => True) r) := fnV (er := D.int) (P := (fun _ _ => True)) (ts_Chart_size self) h
noncomputable def T_Chart_table (self : S_Chart) : Option (List (List (Option Int))) :=
  (lcP (fun c1 : (List (Option Int)) => c1) self.outs).bind fun x2 =>
  some x2
theorem ts_Chart_table (self : S_Chart) : Sm (RoV (eL (eL (eO D.int))) (fun _ _ => True)) (T_Chart_table self) (g_Chart_table [(em_Chart self), .non]) := by
  unfold T_Chart_table
  exact (sm_bind fun x2 h_x2 => (sn_ret ((eL (eL (eO D.int))) x2) (yi_lcP (ea := (eL (eO D.int))) (eb := (eL (eO D.int))) (yi_un (yi_var rfl) (fl_Chart_outs _)) (fun c1 => (yi_call (ya_cons (yi_var rfl) ya_nil) (dList_L (im_O im_int) _))) h_x2) (rv trivial)))
theorem tf_Chart_table (self : S_Chart) {r : (List (List (Option Int)))} (h : T_Chart_table self = some r) : FnP (G_Chart_table [(em_Chart self)]) ((eL (eL (eO D.int))) r) ((fun _ _ => True) r) := fnV (er := (eL (eL (eO D.int)))) (P := (fun _ _ => True)) (ts_Chart_table self) h
noncomputable def T_written_b2 (s8 : (List Str)) (end' : (Option Int)) : Option (List Str) :=
  (if end'.isNone = true then
    (appT s8 ("-" : Str)).bind fun x12 =>
    some x12
    else
    (end').bind fun x13 =>
    (fmtI x13).bind fun x14 =>
    (appT s8 x14).bind fun x15 =>
    some x15).bind fun s10 : (List Str) =>
  some s10
noncomputable def T_written_b1 (s6 : (List Str)) (outs : (List (Option Int))) : Option (List Str) :=
  (forO T_written_b2 outs ([] : (List Str))).bind fun s8 : (List Str) =>
  (joinT (" " : Str) s8).bind fun x16 =>
  (appT s6 x16).bind fun x17 =>
  some x17
noncomputable def T_written (chart : S_Chart) : Option Str :=
  (T_Chart_size chart).bind fun x1 =>
  (fmtI chart.kinds).bind fun x2 =>
  (fmtI x1).bind fun x3 =>
  (jsT [("chart " : Str), x2, (" " : Str), x3]).bind fun x4 =>
  (T_Chart_table chart).bind fun x5 =>
  (forO T_written_b1 x5 ([x4])).bind fun s6 : (List Str) =>
  (joinT ("\n" : Str) s6).bind fun x18 =>
  some x18
theorem ts_written (chart : S_Chart) : Sm (RoV D.str (fun _ _ => True)) (T_written chart) (g_written [(em_Chart chart), .non, .non, .non, .non, .non]) := by
  unfold T_written
  exact (sm_bind fun x1 h_x1 => (sn_set (D.int x1) [(em_Chart chart), (D.int x1), .non, .non, .non, .non] (yi_meN (x := (em_Chart chart)) (yi_var rfl) (io_Chart_size _) ya_nil (tf_Chart_size _ h_x1)) rfl (sm_bind fun x2 h_x2 => (sm_bind fun x3 h_x3 => (sm_bind fun x4 h_x4 => (sn_set ((eL D.str) ([x4])) [(em_Chart chart), (D.int x1), ((eL D.str) ([x4])), .non, .non, .non] (yi_lst (ds := [(D.str x4)]) (ya_cons (x := (D.str x4)) (yi_js (ps := [("chart " : Str), x2, (" " : Str), x3]) (ya_cons (x := (D.str ("chart " : Str))) yi_c (ya_cons (x := (D.str x2)) (yi_un (yi_un (yi_var rfl) (fl_Chart_kinds _)) (fmtI_ok h_x2)) (ya_cons (x := (D.str (" " : Str))) yi_c (ya_cons (x := (D.str x3)) (yi_un (yi_var rfl) (fmtI_ok h_x3)) ya_nil)))) h_x4) ya_nil) (show 1 ≤ 100 from by decide)) rfl (sm_bind fun x5 h_x5 => (sn_for (e := (eL (eO D.int))) (B := T_written_b1) (s0 := [x4]) (fun (s6 : (List Str)) (δ7 : Nat → D) => [(em_Chart chart), (D.int x1), ((eL D.str) s6), (δ7 3), (δ7 4), (δ7 5)]) (sr_list (yi_meN (x := (em_Chart chart)) (yi_var rfl) (io_Chart_table _) ya_nil (tf_Chart_table _ h_x5))) (by first | rfl | (simp [eL, List.map_set, List.map_append, List.map_map, Function.comp_def]; done) | (simp [eL, eO, List.map_set, List.map_append, List.map_map, Function.comp_def]; rfl)) (fun s6 outs δ7 => sm_env (env' := [(em_Chart chart), (D.int x1), ((eL D.str) s6), ((eL (eO D.int)) outs), (δ7 4), (δ7 5)]) rfl (sn_set ((eL D.str) ([] : (List Str))) [(em_Chart chart), (D.int x1), ((eL D.str) s6), ((eL (eO D.int)) outs), ((eL D.str) ([] : (List Str))), (δ7 5)] (yi_lst ya_nil) rfl (sn_for (e := (eO D.int)) (B := T_written_b2) (s0 := ([] : (List Str))) (fun (s8 : (List Str)) (δ9 : Nat → D) => [(em_Chart chart), (D.int x1), ((eL D.str) s6), ((eL (eO D.int)) outs), ((eL D.str) s8), (δ9 5)]) (sr_list (yi_var rfl)) (by first | rfl | (simp [eL, List.map_set, List.map_append, List.map_map, Function.comp_def]; done) | (simp [eL, eO, List.map_set, List.map_append, List.map_map, Function.comp_def]; rfl)) (fun s8 end' δ9 => sm_env (env' := [(em_Chart chart), (D.int x1), ((eL D.str) s6), ((eL (eO D.int)) outs), ((eL D.str) s8), ((eO D.int) end')]) rfl (sm_end (sn_if (fun (s10 : (List Str)) (δ11 : Nat → D) => [(em_Chart chart), (D.int x1), ((eL D.str) s6), ((eL (eO D.int)) outs), ((eL D.str) s10), ((eO D.int) end')]) (te_T (yi_op (yi_var rfl) yi_c (isN_ok (fun a => by first | rfl | (cases a; rfl)) end' ()))) (sm_bind fun x12 h_x12 => (sm_end (sn_app (e := D.str) (v := ("-" : Str)) [(em_Chart chart), (D.int x1), ((eL D.str) s6), ((eL (eO D.int)) outs), ((eL D.str) x12), ((eO D.int) end')] (pt_var rfl) yi_c h_x12 (by first | rfl | (simp [eL, List.map_set, List.map_append, List.map_map, Function.comp_def]; done) | (simp [eL, eO, List.map_set, List.map_append, List.map_map, Function.comp_def]; rfl)) (sn_fall _ (by first | rfl | (simp [eL, List.map_set, List.map_append, List.map_map, Function.comp_def]; done) | (simp [eL, eO, List.map_set, List.map_append, List.map_map, Function.comp_def]; rfl)))))) (sm_bind fun x13 h_x13 => (sm_bind fun x14 h_x14 => (sm_bind fun x15 h_x15 => (sm_end (sn_app (e := D.str) (v := x14) [(em_Chart chart), (D.int x1), ((eL D.str) s6), ((eL (eO D.int)) outs), ((eL D.str) x15), ((eO D.int) end')] (pt_var rfl) (yi_call (ya_cons (yi_get (e := D.int) h_x13 (yi_var rfl)) ya_nil) (strI_ok h_x14)) h_x15 (by first | rfl | (simp [eL, List.map_set, List.map_append, List.map_map, Function.comp_def]; done) | (simp [eL, eO, List.map_set, List.map_append, List.map_map, Function.comp_def]; rfl)) (sn_fall _ (by first | rfl | (simp [eL, List.map_set, List.map_append, List.map_map, Function.comp_def]; done) | (simp [eL, eO, List.map_set, List.map_append, List.map_map, Function.comp_def]; rfl)))))))) (fun s10 δ11 => (sn_fall _ (by first | rfl | (simp [eL, List.map_set, List.map_append, List.map_map, Function.comp_def]; done) | (simp [eL, eO, List.map_set, List.map_append, List.map_map, Function.comp_def]; rfl))))))) (fun s8 δ9 => (sm_bind fun x16 h_x16 => (sm_bind fun x17 h_x17 => (sm_end (sn_app (e := D.str) (v := x16) [(em_Chart chart), (D.int x1), ((eL D.str) x17), ((eL (eO D.int)) outs), ((eL D.str) s8), (δ9 5)] (pt_var rfl) (yi_join yi_c (yi_var rfl) h_x16) h_x17 (by first | rfl | (simp [eL, List.map_set, List.map_append, List.map_map, Function.comp_def]; done) | (simp [eL, eO, List.map_set, List.map_append, List.map_map, Function.comp_def]; rfl)) (sn_fall _ (by first | rfl | (simp [eL, List.map_set, List.map_append, List.map_map, Function.comp_def]; done) | (simp [eL, eO, List.map_set, List.map_append, List.map_map, Function.comp_def]; rfl))))))))))) (fun s6 δ7 => (sm_bind fun x18 h_x18 => (sn_ret (D.str x18) (yi_join yi_c (yi_var rfl) h_x18) (rv trivial))))))))))))
theorem tf_written (chart : S_Chart) {r : Str} (h : T_written chart = some r) : FnP (G_written [(em_Chart chart)]) (D.str r) ((fun _ _ => True) r) := fnV (er := D.str) (P := (fun _ _ => True)) (ts_written chart) h
noncomputable def T_read_chart_b1 (s14 : (List (List (Option Int)))) (line : Str) : Option ((List (List (Option Int))) ⊕ (Except String S_Chart × Unit)) :=
  (splT line (" " : Str)).bind fun x16 =>
  (lcXT (fun c17 : Str => T_entry_of c17) x16).bind fun x18 =>
  caseE x18.1 (fun c_v19 => some (.inr (.error c_v19, ()))) fun v19 =>
  (appT s14 v19).bind fun x20 =>
  some (.inl x20)
noncomputable def T_read_chart (text : Str) : Option (Except String S_Chart × Unit) :=
  (splT text ("\n" : Str)).bind fun x1 =>
  (ixT x1 (0 : Int)).bind fun x2 =>
  (splT x2 (" " : Str)).bind fun x3 =>
  (if (!decide ((x3.length : Int) = (3 : Int))) = true then some true else ((ixT x3 (0 : Int)).bind fun x4 => (sneT x4 ("chart" : Str)).bind fun x5 => some x5)).bind fun x7 =>
    if x7 = true then
    some (.error "NoChart", ())
  else
  (ixT x3 (1 : Int)).bind fun x8 =>
  (T_count_of x8).bind fun x9 =>
  caseE x9.1 (fun c_v10 => some (.error c_v10, ())) fun v10 =>
  (ixT x3 (2 : Int)).bind fun x11 =>
  (T_count_of x11).bind fun x12 =>
  caseE x12.1 (fun c_v13 => some (.error c_v13, ())) fun v13 =>
  thenC (forC T_read_chart_b1 (cutL x1 (some (1 : Int)) none) ([] : (List (List (Option Int))))) fun s14 : (List (List (Option Int))) =>
  (T_Chart_init v10 s14).bind fun x21 =>
  caseE x21.1 (fun c_v22 => some (.error c_v22, ())) fun v22 =>
  (T_written v22).bind fun x23 =>
    (sneT x23 text).bind fun x24 =>
    if x24 = true then
    some (.error "NoChart", ())
  else
  some (.ok v22, ())
theorem ts_read_chart (text : Str) : Sm (RoE em_Chart (fun (r : S_Chart) (l : Unit) (e : List D) => True) (fun (l : Unit) (e : List D) => True)) (T_read_chart text) (g_read_chart [(D.str text), .non, .non, .non, .non, .non, .non, .non]) := by
  unfold T_read_chart
  exact (sm_bind fun x1 h_x1 => (sn_set ((eL D.str) x1) [(D.str text), ((eL D.str) x1), .non, .non, .non, .non, .non, .non] (yi_spl (yi_var rfl) yi_c h_x1) rfl (sm_bind fun x2 h_x2 => (sm_bind fun x3 h_x3 => (sn_set ((eL D.str) x3) [(D.str text), ((eL D.str) x1), ((eL D.str) x3), .non, .non, .non, .non, .non] (yi_spl (yi_op (yi_var rfl) yi_c (ixT_ok _ _ _ h_x2)) yi_c h_x3) rfl (sm_bind fun x7 h_x7 => (sn_ifA (te_orB (te_T (yi_op (x := (D.int (x3.length : Int))) (y := (D.int (3 : Int))) (yi_call (ya_cons (yi_var rfl) ya_nil) (dLen_L _)) yi_c (Eqb.ne eqb_int (by decide) (x3.length : Int) (3 : Int)))) (fun r6 h_r6 => (bindE h_r6 fun x4 h_x4 h_r6_1 => (bindE h_r6_1 fun x5 h_x5 h_r6_2 => (te_nm h_r6_2 (te_T (yi_op (yi_op (yi_var rfl) yi_c (ixT_ok _ _ _ h_x4)) yi_c (sneT_ok _ _ _ h_x5))))))) h_x7) (sx_raise (rx_in (re_ex trivial) rfl)) (sn_skip (sm_bind fun x8 h_x8 => (sm_bind fun x9 h_x9 => (sm_case (fun c_v10 h_v10 => (sx_set (yx_fn (ya_cons (x := (D.str x8)) (yi_op (yi_var rfl) yi_c (ixT_ok _ _ _ h_x8)) ya_nil) ((tf_count_of _ h_x9).2 c_v10 h_v10)) (re_ex trivial))) (fun v10 h_v10 => (sn_set (D.int v10) [(D.str text), ((eL D.str) x1), ((eL D.str) x3), (D.int v10), .non, .non, .non, .non] (yi_fn (ya_cons (x := (D.str x8)) (yi_op (yi_var rfl) yi_c (ixT_ok _ _ _ h_x8)) ya_nil) ((tf_count_of _ h_x9).1 v10 h_v10)) rfl (sm_bind fun x11 h_x11 => (sm_bind fun x12 h_x12 => (sm_case (fun c_v13 h_v13 => (sx_drop (yx_fn (ya_cons (x := (D.str x11)) (yi_op (yi_var rfl) yi_c (ixT_ok _ _ _ h_x11)) ya_nil) ((tf_count_of _ h_x12).2 c_v13 h_v13)) (re_ex trivial))) (fun v13 h_v13 => (sn_drop (yi_fn (ya_cons (x := (D.str x11)) (yi_op (yi_var rfl) yi_c (ixT_ok _ _ _ h_x11)) ya_nil) ((tf_count_of _ h_x12).1 v13 h_v13)) (sn_set ((eL (eL (eO D.int))) ([] : (List (List (Option Int))))) [(D.str text), ((eL D.str) x1), ((eL D.str) x3), (D.int v10), ((eL (eL (eO D.int))) ([] : (List (List (Option Int))))), .non, .non, .non] (yi_lst ya_nil) rfl (sn_forC (e := D.str) (B := T_read_chart_b1) (s0 := ([] : (List (List (Option Int))))) (fun (s14 : (List (List (Option Int)))) (δ15 : Nat → D) => [(D.str text), ((eL D.str) x1), ((eL D.str) x3), (D.int v10), ((eL (eL (eO D.int))) s14), (δ15 5), .non, .non]) (sr_list (yi_sl im_str (yi_var rfl) (yo_s yi_c) yo_n)) (by first | rfl | (simp [eL, List.map_set, List.map_append, List.map_map, Function.comp_def]; done) | (simp [eL, eO, List.map_set, List.map_append, List.map_map, Function.comp_def]; rfl)) (fun s14 line δ15 => sm_env (env' := [(D.str text), ((eL D.str) x1), ((eL D.str) x3), (D.int v10), ((eL (eL (eO D.int))) s14), (D.str line), .non, .non]) rfl (sm_bind fun x16 h_x16 => (sm_bind fun x18 h_x18 => (sm_case (fun c_v19 h_v19 => (sm_end (sx_app (e := (eL (eO D.int))) (pt_var rfl) (yx_lcX (ea := D.str) (eb := (eO D.int)) (yi_spl (yi_var rfl) yi_c h_x16) (fun c17 _ hr => ⟨fun v hv => (yi_fn (ya_cons (x := (D.str c17)) (yi_var rfl) ya_nil) ((tf_entry_of _ hr).1 v hv)), fun c hc => (yx_fn (ya_cons (x := (D.str c17)) (yi_var rfl) ya_nil) ((tf_entry_of _ hr).2 c hc))⟩) h_x18 h_v19) (rc_in (re_ex trivial) rfl)))) (fun v19 h_v19 => (sm_bind fun x20 h_x20 => (sm_end (sn_app (e := (eL (eO D.int))) (v := v19) [(D.str text), ((eL D.str) x1), ((eL D.str) x3), (D.int v10), ((eL (eL (eO D.int))) x20), (D.str line), .non, .non] (pt_var rfl) (yi_lcX (ea := D.str) (eb := (eO D.int)) (yi_spl (yi_var rfl) yi_c h_x16) (fun c17 _ hr => ⟨fun v hv => (yi_fn (ya_cons (x := (D.str c17)) (yi_var rfl) ya_nil) ((tf_entry_of _ hr).1 v hv)), fun c hc => (yx_fn (ya_cons (x := (D.str c17)) (yi_var rfl) ya_nil) ((tf_entry_of _ hr).2 c hc))⟩) h_x18 h_v19) h_x20 (by first | rfl | (simp [eL, List.map_set, List.map_append, List.map_map, Function.comp_def]; done) | (simp [eL, eO, List.map_set, List.map_append, List.map_map, Function.comp_def]; rfl)) (sn_fallC _ (by first | rfl | (simp [eL, List.map_set, List.map_append, List.map_map, Function.comp_def]; done) | (simp [eL, eO, List.map_set, List.map_append, List.map_map, Function.comp_def]; rfl))))))))))) (fun s14 δ15 => (sm_bind fun x21 h_x21 => (sm_case (fun c_v22 h_v22 => (sx_set (yx_mk (ya_cons (x := (D.int v10)) (yi_var rfl) (ya_cons (x := ((eL (eL (eO D.int))) s14)) (yi_var rfl) ya_nil)) ((tf_Chart_init _ _ h_x21).2 c_v22 h_v22)) (re_ex trivial))) (fun v22 h_v22 => (sn_set (em_Chart v22) [(D.str text), ((eL D.str) x1), ((eL D.str) x3), (D.int v10), ((eL (eL (eO D.int))) s14), (δ15 5), .non, (em_Chart v22)] (yi_mk (ya_cons (x := (D.int v10)) (yi_var rfl) (ya_cons (x := ((eL (eL (eO D.int))) s14)) (yi_var rfl) ya_nil)) ((tf_Chart_init _ _ h_x21).1 v22 h_v22)) rfl (sm_bind fun x23 h_x23 => (sm_bind fun x24 h_x24 => (sn_ifA (te_T (yi_op (yi_fnN (ya_cons (x := (em_Chart v22)) (yi_var rfl) ya_nil) (tf_written _ h_x23)) (yi_var rfl) (sneT_ok _ _ _ h_x24))) (sx_raise (rx_in (re_ex trivial) rfl)) (sn_skip (sn_ret (em_Chart v22) (yi_var rfl) (re_ok trivial)))))))))))))))))))))))))))))))
theorem tf_read_chart (text : Str) {r : Except String S_Chart × Unit} (h : T_read_chart text = some r) : (∀ v, r.1 = .ok v → FnP (G_read_chart [(D.str text)]) (em_Chart v) ((fun (r : S_Chart) (l : Unit) (e : List D) => True) v r.2)) ∧ ∀ c, r.1 = .error c → FnX (G_read_chart [(D.str text)]) c ((fun (l : Unit) (e : List D) => True) r.2) := fnE (er := em_Chart) (P := (fun (r : S_Chart) (l : Unit) (e : List D) => True)) (Q := (fun (l : Unit) (e : List D) => True)) (ts_read_chart text) h (Or.inl rfl)
noncomputable def T_law_due (want : Str) : Option (List Bool) :=
  (some ([("NoKind" : Str), ("NoWay" : Str), ("NoMark" : Str), ("NoEntry" : Str), ("NoHold" : Str), ("NoChamber" : Str), ("NoChart" : Str), ("NoCave" : Str), ("NoHome" : Str), ("Barred" : Str)])).bind fun x1 =>
  (addT x1 ([("Full" : Str)])).bind fun x2 =>
  (lcM (fun c3 : Str => ((seqT c3 want).bind fun x4 => some x4)) x2).bind fun x6 =>
  (addT ([true]) x6).bind fun x7 =>
  some x7
theorem ts_law_due (want : Str) : Sm (RoV (eL D.bl) (fun _ _ => True)) (T_law_due want) (g_law_due [(D.str want), .non, .non]) := by
  unfold T_law_due
  exact (sm_bind fun x1 h_x1 => (sn_set ((eL D.str) x1) [(D.str want), ((eL D.str) x1), .non] (yi_nm (e := (eL D.str)) h_x1 (yi_lst (ds := [(D.str ("NoKind" : Str)), (D.str ("NoWay" : Str)), (D.str ("NoMark" : Str)), (D.str ("NoEntry" : Str)), (D.str ("NoHold" : Str)), (D.str ("NoChamber" : Str)), (D.str ("NoChart" : Str)), (D.str ("NoCave" : Str)), (D.str ("NoHome" : Str)), (D.str ("Barred" : Str))]) (ya_cons (x := (D.str ("NoKind" : Str))) yi_c (ya_cons (x := (D.str ("NoWay" : Str))) yi_c (ya_cons (x := (D.str ("NoMark" : Str))) yi_c (ya_cons (x := (D.str ("NoEntry" : Str))) yi_c (ya_cons (x := (D.str ("NoHold" : Str))) yi_c (ya_cons (x := (D.str ("NoChamber" : Str))) yi_c (ya_cons (x := (D.str ("NoChart" : Str))) yi_c (ya_cons (x := (D.str ("NoCave" : Str))) yi_c (ya_cons (x := (D.str ("NoHome" : Str))) yi_c (ya_cons (x := (D.str ("Barred" : Str))) yi_c ya_nil)))))))))) (show 10 ≤ 100 from by decide))) rfl (sm_bind fun x2 h_x2 => (sm_bind fun x6 h_x6 => (sm_bind fun x7 h_x7 => (sn_ret ((eL D.bl) x7) (yi_op (x := ((eL D.bl) ([true]))) (y := ((eL D.bl) x6)) (yi_lst (ds := [(D.bl true)]) (ya_cons (x := (D.bl true)) yi_c ya_nil) (show 1 ≤ 100 from by decide)) (yi_lcM (ea := D.str) (eb := D.bl) (yi_op (x := ((eL D.str) x1)) (y := ((eL D.str) ([("Full" : Str)]))) (yi_var rfl) (yi_lst (ds := [(D.str ("Full" : Str))]) (ya_cons (x := (D.str ("Full" : Str))) yi_c ya_nil) (show 1 ≤ 100 from by decide)) (addT_e im_str h_x2)) (fun c3 => (fun r5 h_r5 => (bindE h_r5 fun x4 h_x4 h_r5_1 => (yi_nm (e := D.bl) h_r5_1 (yi_op (yi_var rfl) (yi_var rfl) (seqT_ok _ _ _ h_x4)))))) h_x6) (addT_e im_bl h_x7)) (rv trivial)))))))
theorem tf_law_due (want : Str) {r : (List Bool)} (h : T_law_due want = some r) : FnP (G_law_due [(D.str want)]) ((eL D.bl) r) ((fun _ _ => True) r) := fnV (er := (eL D.bl)) (P := (fun _ _ => True)) (ts_law_due want) h
noncomputable def T_law_same_table_b2 (s3 : Unit) (end' : (Option Int)) : Option (Unit ⊕ (Unit ⊕ Bool)) :=
  if (end'.isSome && ((!end'.isSome) || false)) = true then
    some (.inr (.inr false))
  else
  some (.inl ())
noncomputable def T_law_same_table_b1 (s1 : Unit) (outs : (List (Option Int))) : Option (Unit ⊕ Bool) :=
  if (!true) = true then
    some (.inr false)
  else
  thenC (forC T_law_same_table_b2 outs ()) fun s3 : Unit =>
  some (.inl ())
noncomputable def T_law_same_table (found : (List (List (Option Int)))) (due_here : (List (Option (List (Option Int))))) : Option Bool :=
  if ((!true) || (!decide ((found.map fun y : (List (Option Int)) => (some y)) = due_here))) = true then
    some false
  else
  thenC (forC T_law_same_table_b1 found ()) fun s1 : Unit =>
  some true
theorem ts_law_same_table (found : (List (List (Option Int)))) (due_here : (List (Option (List (Option Int))))) : Sm (RoV D.bl (fun _ _ => True)) (T_law_same_table found due_here) (g_law_same_table [((eL (eL (eO D.int))) found), ((eL (eO (eL (eO D.int)))) due_here), .non, .non]) := by
  unfold T_law_same_table
  exact (sn_ifA (te_or (te_not (te_T (yi_un (yi_var rfl) rfl))) (te_T (yi_op (x := ((eL (eO (eL (eO D.int)))) (found.map fun y : (List (Option Int)) => (some y)))) (y := ((eL (eO (eL (eO D.int)))) due_here)) (yi_cv (yi_var rfl) (by simp [eL, eO, List.map_map, Function.comp_def])) (yi_var rfl) (Eqb.ne (eqb_L (eqb_O (eqb_L (eqb_O eqb_int (fun _ => ⟨rfl, rfl⟩))) (fun _ => ⟨rfl, rfl⟩))) (by decide) (found.map fun y : (List (Option Int)) => (some y)) due_here)))) (sn_ret (D.bl false) yi_c (rx_in (rv trivial) rfl)) (sn_skip (sn_forC (e := (eL (eO D.int))) (B := T_law_same_table_b1) (s0 := ()) (fun (s1 : Unit) (δ2 : Nat → D) => [((eL (eL (eO D.int))) found), ((eL (eO (eL (eO D.int)))) due_here), (δ2 2), (δ2 3)]) (sr_list (yi_var rfl)) (by first | rfl | (simp [eL, List.map_set, List.map_append, List.map_map, Function.comp_def]; done) | (simp [eL, eO, List.map_set, List.map_append, List.map_map, Function.comp_def]; rfl)) (fun s1 outs δ2 => sm_env (env' := [((eL (eL (eO D.int))) found), ((eL (eO (eL (eO D.int)))) due_here), ((eL (eO D.int)) outs), (δ2 3)]) rfl (sn_ifA (te_not (te_T (yi_un (yi_var rfl) rfl))) (sn_ret (D.bl false) yi_c (rx_in (rc_in (rv trivial) rfl) rfl)) (sn_skip (sm_end (sn_forC (e := (eO D.int)) (B := T_law_same_table_b2) (s0 := ()) (fun (s3 : Unit) (δ4 : Nat → D) => [((eL (eL (eO D.int))) found), ((eL (eO (eL (eO D.int)))) due_here), ((eL (eO D.int)) outs), (δ4 3)]) (sr_list (yi_var rfl)) (by first | rfl | (simp [eL, List.map_set, List.map_append, List.map_map, Function.comp_def]; done) | (simp [eL, eO, List.map_set, List.map_append, List.map_map, Function.comp_def]; rfl)) (fun s3 end' δ4 => sm_env (env' := [((eL (eL (eO D.int))) found), ((eL (eO (eL (eO D.int)))) due_here), ((eL (eO D.int)) outs), ((eO D.int) end')]) rfl (sm_end (sn_ifA (te_and (te_T (yi_op (yi_var rfl) yi_c (notN_ok (fun a => by first | rfl | (cases a; rfl)) end' ()))) (te_or (te_not (te_T (yi_un (yi_var rfl) (by cases end' <;> rfl)))) (te_T (yi_un (yi_var rfl) (by cases end' <;> rfl))))) (sn_ret (D.bl false) yi_c (rx_in (rc_in (rc_in (rv trivial) rfl) rfl) rfl)) (sn_skip (sn_fallC _ (by first | rfl | (simp [eL, List.map_set, List.map_append, List.map_map, Function.comp_def]; done) | (simp [eL, eO, List.map_set, List.map_append, List.map_map, Function.comp_def]; rfl))))))) (fun s3 δ4 => (sn_fallC _ (by first | rfl | (simp [eL, List.map_set, List.map_append, List.map_map, Function.comp_def]; done) | (simp [eL, eO, List.map_set, List.map_append, List.map_map, Function.comp_def]; rfl))))))))) (fun s1 δ2 => (sn_ret (D.bl true) yi_c (rv trivial))))))
theorem tf_law_same_table (found : (List (List (Option Int)))) (due_here : (List (Option (List (Option Int))))) {r : Bool} (h : T_law_same_table found due_here = some r) : FnP (G_law_same_table [((eL (eL (eO D.int))) found), ((eL (eO (eL (eO D.int)))) due_here)]) (D.bl r) ((fun _ _ => True) r) := fnV (er := D.bl) (P := (fun _ _ => True)) (ts_law_same_table found due_here) h
noncomputable def T_law (script : (List Int)) : Option Bool :=
  (T_law_numbers script (210 : Int)).bind fun x1 =>
  (ixT x1 (0 : Int)).bind fun x2 =>
  (modT x2 (5 : Int)).bind fun x3 =>
  (ixT x1 (1 : Int)).bind fun x4 =>
  (modT x4 (9 : Int)).bind fun x5 =>
  (ixT x1 (2 : Int)).bind fun x6 =>
    (modT x6 (8 : Int)).bind fun x7 =>
    (if (decide (x7 = (1 : Int))) = true then
    (ixT x1 (1 : Int)).bind fun x10 =>
    (modT x10 (30 : Int)).bind fun x11 =>
    some ((1 : Int) + x11)
    else
    some ((1 : Int) + x5)).bind fun s8 : Int =>
  (ixT x1 (3 : Int)).bind fun x12 =>
  (modT x12 (7 : Int)).bind fun x13 =>
  (T_law_table ((1 : Int) + x3) s8 (cutL x1 (some (50 : Int)) none) x13).bind fun x14 =>
  (T_law_written ((1 : Int) + x3) x14).bind fun x15 =>
  (T_law_spoilt x15 (cutL x1 (some (5 : Int)) (some (9 : Int)))).bind fun x16 =>
  (T_law_read x16).bind fun x17 =>
  (tryB ["NoChart"] ([] : List Bool) (
    (T_read_chart x16).bind fun x21 =>
    caseE x21.1 (fun c_v22 => some (.inr (c_v22, (none : (Option S_Chart))))) fun v22 =>
    some (.inl (some v22)))).bind fun s20 : (Option S_Chart) × List Bool =>
  if x17.isNone = true then
    (T_law_due ("NoChart" : Str)).bind fun x23 =>
    some (decide (s20.2 = x23))
  else
  (if (decide (s20.2 = ([] : (List Bool)))) = true then ((s20.1).bind fun x24 => (x17).bind fun x25 => (ixT x25 (0 : Int)).bind fun x26 => (x26).bind fun x27 => (if (decide (x24.kinds = (x27.length : Int))) = true then ((s20.1).bind fun x28 => (T_Chart_table x28).bind fun x29 => (x17).bind fun x30 => (T_law_same_table x29 x30).bind fun x31 => some x31) else some false).bind fun x33 => some x33) else some false).bind fun x35 =>
  some x35
theorem ts_law (script : (List Int)) : Sm (RoV D.bl (fun _ _ => True)) (T_law script) (g_law [((eL D.int) script), .non, .non, .non, .non, .non, .non, .non, .non, .non]) := by
  unfold T_law
  exact (sm_bind fun x1 h_x1 => (sn_set ((eL D.int) x1) [((eL D.int) script), ((eL D.int) x1), .non, .non, .non, .non, .non, .non, .non, .non] (yi_scr rfl yi_c (tf_law_numbers _ _ h_x1)) rfl (sm_bind fun x2 h_x2 => (sm_bind fun x3 h_x3 => (sn_set (D.int ((1 : Int) + x3)) [((eL D.int) script), ((eL D.int) x1), (D.int ((1 : Int) + x3)), .non, .non, .non, .non, .non, .non, .non] (yi_op yi_c (yi_op (yi_op (yi_var rfl) yi_c (ixT_ok _ _ _ h_x2)) yi_c (modT_ok _ _ _ h_x3)) rfl) rfl (sm_bind fun x4 h_x4 => (sm_bind fun x5 h_x5 => (sn_set (D.int ((1 : Int) + x5)) [((eL D.int) script), ((eL D.int) x1), (D.int ((1 : Int) + x3)), (D.int ((1 : Int) + x5)), .non, .non, .non, .non, .non, .non] (yi_op yi_c (yi_op (yi_op (yi_var rfl) yi_c (ixT_ok _ _ _ h_x4)) yi_c (modT_ok _ _ _ h_x5)) rfl) rfl (sm_bind fun x6 h_x6 => (sm_bind fun x7 h_x7 => (sn_if (fun (s8 : Int) (δ9 : Nat → D) => [((eL D.int) script), ((eL D.int) x1), (D.int ((1 : Int) + x3)), (D.int s8), .non, .non, .non, .non, .non, .non]) (te_T (yi_op (x := (D.int x7)) (y := (D.int (1 : Int))) (yi_op (yi_op (yi_var rfl) yi_c (ixT_ok _ _ _ h_x6)) yi_c (modT_ok _ _ _ h_x7)) yi_c (Eqb.eq eqb_int (by decide) x7 (1 : Int)))) (sm_bind fun x10 h_x10 => (sm_bind fun x11 h_x11 => (sm_end (sn_set (D.int ((1 : Int) + x11)) [((eL D.int) script), ((eL D.int) x1), (D.int ((1 : Int) + x3)), (D.int ((1 : Int) + x11)), .non, .non, .non, .non, .non, .non] (yi_op yi_c (yi_op (yi_op (yi_var rfl) yi_c (ixT_ok _ _ _ h_x10)) yi_c (modT_ok _ _ _ h_x11)) rfl) rfl (sn_fall _ (by first | rfl | (simp [eL, List.map_set, List.map_append, List.map_map, Function.comp_def]; done) | (simp [eL, eO, List.map_set, List.map_append, List.map_map, Function.comp_def]; rfl))))))) (sn_fall _ (by first | rfl | (simp [eL, List.map_set, List.map_append, List.map_map, Function.comp_def]; done) | (simp [eL, eO, List.map_set, List.map_append, List.map_map, Function.comp_def]; rfl))) (fun s8 δ9 => (sm_bind fun x12 h_x12 => (sm_bind fun x13 h_x13 => (sm_bind fun x14 h_x14 => (sn_set ((eL (eL (eO D.int))) x14) [((eL D.int) script), ((eL D.int) x1), (D.int ((1 : Int) + x3)), (D.int s8), ((eL (eL (eO D.int))) x14), .non, .non, .non, .non, .non] (yi_fnN (ya_cons (x := (D.int ((1 : Int) + x3))) (yi_var rfl) (ya_cons (x := (D.int s8)) (yi_var rfl) (ya_cons (x := ((eL D.int) (cutL x1 (some (50 : Int)) none))) (yi_sl im_int (yi_var rfl) (yo_s yi_c) yo_n) (ya_cons (x := (D.int x13)) (yi_op (yi_op (yi_var rfl) yi_c (ixT_ok _ _ _ h_x12)) yi_c (modT_ok _ _ _ h_x13)) ya_nil)))) (tf_law_table _ _ _ _ h_x14)) rfl (sm_bind fun x15 h_x15 => (sm_bind fun x16 h_x16 => (sn_set (D.str x16) [((eL D.int) script), ((eL D.int) x1), (D.int ((1 : Int) + x3)), (D.int s8), ((eL (eL (eO D.int))) x14), (D.str x16), .non, .non, .non, .non] (yi_fnN (ya_cons (x := (D.str x15)) (yi_fnN (ya_cons (x := (D.int ((1 : Int) + x3))) (yi_var rfl) (ya_cons (x := ((eL (eL (eO D.int))) x14)) (yi_var rfl) ya_nil)) (tf_law_written _ _ h_x15)) (ya_cons (x := ((eL D.int) (cutL x1 (some (5 : Int)) (some (9 : Int))))) (yi_sl im_int (yi_var rfl) (yo_s yi_c) (yo_s yi_c)) ya_nil)) (tf_law_spoilt _ _ h_x16)) rfl (sm_bind fun x17 h_x17 => (sn_set ((eO (eL (eO (eL (eO D.int))))) x17) [((eL D.int) script), ((eL D.int) x1), (D.int ((1 : Int) + x3)), (D.int s8), ((eL (eL (eO D.int))) x14), (D.str x16), ((eO (eL (eO (eL (eO D.int))))) x17), .non, .non, .non] (yi_fnN (ya_cons (x := (D.str x16)) (yi_var rfl) ya_nil) (tf_law_read _ h_x17)) rfl (sn_set (eU ()) [((eL D.int) script), ((eL D.int) x1), (D.int ((1 : Int) + x3)), (D.int s8), ((eL (eL (eO D.int))) x14), (D.str x16), ((eO (eL (eO (eL (eO D.int))))) x17), (eU ()), .non, .non] yi_c rfl (sn_set ((eL D.bl) ([] : (List Bool))) [((eL D.int) script), ((eL D.int) x1), (D.int ((1 : Int) + x3)), (D.int s8), ((eL (eL (eO D.int))) x14), (D.str x16), ((eO (eL (eO (eL (eO D.int))))) x17), (eU ()), ((eL D.bl) ([] : (List Bool))), .non] (yi_lst ya_nil) rfl (sn_try (bad := ([] : List Bool)) (fun (s18 : (Option S_Chart)) (δ19 : Nat → D) => [((eL D.int) script), ((eL D.int) x1), (D.int ((1 : Int) + x3)), (D.int s8), ((eL (eL (eO D.int))) x14), (D.str x16), ((eO (eL (eO (eL (eO D.int))))) x17), ((eO em_Chart) s18), (eL D.bl ([] : List Bool)), .non]) (sm_bind fun x21 h_x21 => (sm_case (fun c_v22 h_v22 => (sm_end (sx_set (yx_fn (ya_cons (x := (D.str x16)) (yi_var rfl) ya_nil) ((tf_read_chart _ h_x21).2 c_v22 h_v22)) (rt_ex _ (by first | rfl | (simp [eL, List.map_set, List.map_append, List.map_map, Function.comp_def]; done) | (simp [eL, eO, List.map_set, List.map_append, List.map_map, Function.comp_def]; rfl)))))) (fun v22 h_v22 => (sm_end (sn_set (em_Chart v22) [((eL D.int) script), ((eL D.int) x1), (D.int ((1 : Int) + x3)), (D.int s8), ((eL (eL (eO D.int))) x14), (D.str x16), ((eO (eL (eO (eL (eO D.int))))) x17), (em_Chart v22), (eL D.bl ([] : List Bool)), .non] (yi_fn (ya_cons (x := (D.str x16)) (yi_var rfl) ya_nil) ((tf_read_chart _ h_x21).1 v22 h_v22)) rfl (sn_fallT _ (by first | rfl | (simp [eL, List.map_set, List.map_append, List.map_map, Function.comp_def]; done) | (simp [eL, eO, List.map_set, List.map_append, List.map_map, Function.comp_def]; rfl)))))))) (fun _ _ => rfl) (fun s20 δ19 => sm_env (env' := [((eL D.int) script), ((eL D.int) x1), (D.int ((1 : Int) + x3)), (D.int s8), ((eL (eL (eO D.int))) x14), (D.str x16), ((eO (eL (eO (eL (eO D.int))))) x17), ((eO em_Chart) s20.1), ((eL D.bl) s20.2), .non]) rfl (sn_ifA (te_T (yi_op (yi_var rfl) yi_c (isN_ok nn_L x17 ()))) (sm_bind fun x23 h_x23 => (sn_ret (D.bl (decide (s20.2 = x23))) (yi_op (x := ((eL D.bl) s20.2)) (y := ((eL D.bl) x23)) (yi_var rfl) (yi_fnN (ya_cons (x := (D.str ("NoChart" : Str))) yi_c ya_nil) (tf_law_due _ h_x23)) (Eqb.eq (eqb_L eqb_bl) (by decide) s20.2 x23)) (rx_in (rv trivial) rfl))) (sn_skip (sm_bind fun x35 h_x35 => (sn_ret (D.bl x35) (yi_andB (yi_op (x := ((eL D.bl) s20.2)) (y := ((eL D.bl) ([] : (List Bool)))) (yi_var rfl) (yi_lst ya_nil) (Eqb.eq (eqb_L eqb_bl) (by decide) s20.2 ([] : (List Bool)))) (fun r34 h_r34 => (bindE h_r34 fun x24 h_x24 h_r34_1 => (bindE h_r34_1 fun x25 h_x25 h_r34_2 => (bindE h_r34_2 fun x26 h_x26 h_r34_3 => (bindE h_r34_3 fun x27 h_x27 h_r34_4 => (bindE h_r34_4 fun x33 h_x33 h_r34_5 => (yi_nm (e := D.bl) h_r34_5 (yi_andB (yi_op (x := (D.int x24.kinds)) (y := (D.int (x27.length : Int))) (yi_un (yi_get (e := em_Chart) h_x24 (yi_var rfl)) (fl_Chart_kinds _)) (yi_call (ya_cons (yi_get (e := (eL (eO D.int))) h_x27 (yi_op (yi_get (e := (eL (eO (eL (eO D.int))))) h_x25 (yi_var rfl)) yi_c (ixT_ok _ _ _ h_x26))) ya_nil) (dLen_L _)) (Eqb.eq eqb_int (by decide) x24.kinds (x27.length : Int))) (fun r32 h_r32 => (bindE h_r32 fun x28 h_x28 h_r32_1 => (bindE h_r32_1 fun x29 h_x29 h_r32_2 => (bindE h_r32_2 fun x30 h_x30 h_r32_3 => (bindE h_r32_3 fun x31 h_x31 h_r32_4 => (yi_nm (e := D.bl) h_r32_4 (yi_fnN (ya_cons (x := ((eL (eL (eO D.int))) x29)) (yi_meN (x := (em_Chart x28)) (yi_get (e := em_Chart) h_x28 (yi_var rfl)) (io_Chart_table _) ya_nil (tf_Chart_table _ h_x29)) (ya_cons (x := ((eL (eO (eL (eO D.int)))) x30)) (yi_get (e := (eL (eO (eL (eO D.int))))) h_x30 (yi_var rfl)) ya_nil)) (tf_law_same_table _ _ h_x31)))))))) h_x33)))))))) h_x35) (rv trivial))))))))))))))))))))))))))))))
theorem tf_law (script : (List Int)) {r : Bool} (h : T_law script = some r) : FnP (G_law [((eL D.int) script)]) (D.bl r) ((fun _ _ => True) r) := fnV (er := D.bl) (P := (fun _ _ => True)) (ts_law script) h
end Lw

namespace Lw
open PySem L2 Mv
def NumOk (l : List Int) : Prop := ∀ x ∈ l, 0 ≤ x ∧ x < 1000
theorem LIM_eq : LIM = 1000000 := rfl
theorem cmul_r {i j : Int} (h0 : -1000000000000000000 < j) (h : j < 1000000000000000000) : CMul i j := Or.inr ⟨by omega, by omega⟩
theorem cmul_l {i j : Int} (h0 : -1000000000000000000 < i) (h : i < 1000000000000000000) : CMul i j := Or.inl ⟨by omega, by omega⟩
theorem NumOk.app {l : List Int} {x : Int} (h : NumOk l) (h0 : 0 ≤ x) (h1 : x < 1000) : NumOk (l ++ [x]) := fun y hy => by
  rcases List.mem_append.mp hy with q | q
  · exact h y q
  · rw [List.mem_singleton.mp q]; exact ⟨h0, h1⟩
theorem numbers_b2 (s : List Int × Int) (k : Int) (h : NumOk s.1) (hl : s.1.length < 900000) : Ok (T_law_numbers_b2 s k) fun t => NumOk t.1 ∧ t.1.length ≤ s.1.length + 1 := by
  unfold T_law_numbers_b2
  refine ok_bind (Q := fun t => NumOk t.1 ∧ t.1.length ≤ s.1.length + 1) ?_ fun t ht => ok_some ht
  refine ok_ite (fun _ => ?_) fun _ => ok_some ⟨h, Nat.le_succ _⟩
  refine ok_eq (modT_of (by decide)) (ok_eq (appT_of' (by rw [LIM_eq]; omega)) (ok_eq (divT_of (by decide)) (ok_some ⟨h.app (by omega) (by omega), by simp⟩)))
theorem numbers_b1 (s : List Int × Int) (c : Int) (h : NumOk s.1) (hl : s.1.length < 800000) : Ok (T_law_numbers_b1 s c) fun t => NumOk t.1 ∧ t.1.length ≤ s.1.length + 61 ∧ 0 ≤ t.2 ∧ t.2 < 2147483648 := by
  unfold T_law_numbers_b1
  refine ok_eq (mulT_of (cmul_r (by decide) (by decide))) (ok_eq (modT_of (by decide)) (ok_eq (modT_of (by decide)) (ok_eq rfl ?_)))
  refine ok_bind (Q := fun t => NumOk t ∧ t.length ≤ s.1.length + 1) ?_ fun t ht => ?_
  · refine ok_ite (fun _ => ?_) fun _ => ok_some ⟨h, Nat.le_succ _⟩
    exact ok_eq (modT_of (by decide)) (ok_eq (appT_of' (by rw [LIM_eq]; omega)) (ok_some ⟨h.app (by omega) (by omega), by simp⟩))
  refine ok_eq (rg1T_of (by decide)) ?_
  refine ok_bind (ok_for (fun n (t : List Int × Int) => NumOk t.1 ∧ t.1.length ≤ s.1.length + 1 + n) ⟨ht.1, ht.2⟩ fun k hk t ht => ?_) fun t ht => ok_some ⟨ht.1, ?_, ?_, ?_⟩
  · have q : k < 60 := by simpa using hk
    exact ok_mono (numbers_b2 t _ ht.1 (by omega)) fun u hu => ⟨hu.1, by omega⟩
  · have := ht.2
    have q : (rgI 0 (60 : Int).toNat).length = 60 := by simp
    rw [q] at this
    show t.1.length ≤ _
    omega
  · show 0 ≤ _ % _
    omega
  · show _ % _ < _
    omega
theorem numbers_ok (script : List Int) (many : Int) (h0 : 0 ≤ many) (h1 : many ≤ 100000) : Ok (T_law_numbers script many) fun r => r.length = many.toNat ∧ NumOk r := by
  unfold T_law_numbers
  have hc : (cutL script none (some 63)).length ≤ 63 := by
    rw [cutL_hi (by decide)]
    exact List.length_take_le _ _
  refine ok_bind (ok_for (fun n (t : List Int × Int) => NumOk t.1 ∧ t.1.length ≤ 61 * n ∧ 0 ≤ t.2 ∧ t.2 < 2147483648) ⟨fun x hx => (nomatch hx), Nat.le_refl _, by decide, by decide⟩ fun k hk t ht => ?_) fun t ht => ?_
  · exact ok_mono (numbers_b1 t _ ht.1 (by omega)) fun u hu => ⟨hu.1, by omega, hu.2.2⟩
  refine ok_bind (ok_while (fun t : List Int × Int => NumOk t.1 ∧ 0 ≤ t.2 ∧ t.2 < 2147483648) (fun t => many.toNat - t.1.length) ⟨ht.1, ht.2.2⟩ fun u hu => ?_) fun u hu => ok_some ?_
  · unfold T_law_numbers_t3
    refine ok_some fun q => ?_
    have q := of_decide_eq_true q
    unfold T_law_numbers_b3
    refine ok_eq (mulT_of (cmul_r (by omega) (by omega))) (ok_eq (mulT_of (cmul_l (by decide) (by decide))) (ok_eq (mulT_of (cmul_l (by decide) (by decide))) (ok_eq (modT_of (by decide)) (ok_eq (divT_of (by decide)) (ok_eq (modT_of (by decide)) (ok_eq (appT_of' (by rw [LIM_eq]; omega)) (ok_some ⟨⟨hu.1.app (by omega) (by omega), ?_, ?_⟩, ?_⟩)))))))
    · show 0 ≤ _ % _
      omega
    · show _ % _ < _
      omega
    · show many.toNat - List.length (_ ++ _) < _
      rw [List.length_append]
      simp only [List.length_cons, List.length_nil]
      omega
  · obtain ⟨⟨q1, q2⟩, q3⟩ := hu
    unfold T_law_numbers_t3 at q3
    have q4 : ¬((u.1.length : Int) < many) := of_decide_eq_false (Option.some.inj q3)
    refine ⟨?_, fun x hx => q1 x (cutL_mem hx)⟩
    rw [cutL_hi h0, List.length_take]
    omega
theorem NumOk.at {l : List Int} {n : Nat} {k : Int} (h : NumOk l) (hl : l.length = n) (h0 : 0 ≤ k) (hk : k.toNat < n) : ∃ x, ixT l k = some x ∧ 0 ≤ x ∧ x < 1000 := ⟨_, ixT_lt h0 (by omega), h _ (List.getElem_mem _)⟩

theorem nodup_er {l : List Int} {k : Nat} (h : l.Nodup) (hk : k < l.length) : l[k] ∉ l.eraseIdx k := by
  intro q
  obtain ⟨i, hi, h1, h2⟩ := List.mem_eraseIdx_iff_getElem.mp q
  exact h1 ((List.getElem_inj h).mp h2)
theorem rgI_nodup (lo : Int) (n : Nat) : (rgI lo n).Nodup := by
  rw [rgI_eq]
  unfold List.Nodup
  rw [List.pairwise_map]
  exact List.Pairwise.imp (fun {a b} h => by omega) (List.pairwise_lt_range (n := n))

abbrev Tb := List (List (Option Int))
def cel (t : Tb) (i k : Nat) : Option Int := ((t[i]?).bind fun r => r[k]?).bind id
structure Tab (kinds size : Nat) (t : Tb) : Prop where
  len : t.length = size
  row : ∀ r ∈ t, r.length = kinds
  val : ∀ i k v, cel t i k = some v → 0 ≤ v ∧ v.toNat < size
  inj : ∀ i j k v, cel t i k = some v → cel t j k = some v → i = j

theorem cel_app {t t' : Tb} {c : Nat → Option Int} {k : Nat} (hr : ∀ r ∈ t, r.length = k) (h : ∀ i, t'[i]? = t[i]?.map (· ++ [c i])) (i j : Nat) : cel t' i j = if j < k then cel t i j else if j = k ∧ i < t.length then c i else none := by
  unfold cel
  rw [h i]
  by_cases hi : i < t.length
  · rw [List.getElem?_eq_getElem hi]
    have := hr _ (List.getElem_mem hi)
    simp only [Option.map_some, Option.bind_some]
    by_cases hj : j < k
    · rw [if_pos hj, List.getElem?_append_left (by omega)]
    · rw [if_neg hj, List.getElem?_append_right (by omega)]
      by_cases e : j = k
      · rw [if_pos ⟨e, hi⟩, show j - (t[i]).length = 0 by omega]
        rfl
      · rw [if_neg (fun q => e q.1), List.getElem?_eq_none (by simp; omega)]
        rfl
  · rw [List.getElem?_eq_none (by omega)]
    simp only [Option.map_none, Option.bind_none]
    by_cases hj : j < k
    · rw [if_pos hj]
    · rw [if_neg hj, if_neg (fun q => hi q.2)]
theorem Tab.app {k size : Nat} {t t' : Tb} {c : Nat → Option Int} (h : Tab k size t) (e : ∀ i, t'[i]? = t[i]?.map (· ++ [c i])) (hv : ∀ i < size, ∀ v, c i = some v → 0 ≤ v ∧ v.toNat < size) (hi : ∀ i < size, ∀ j < size, ∀ v, c i = some v → c j = some v → i = j) : Tab (k + 1) size t' := by
  have hc := cel_app h.row e
  have hl : t'.length = t.length := by
    apply Nat.le_antisymm
    · rcases Nat.lt_or_ge t.length t'.length with q | q
      · have := e t.length
        rw [List.getElem?_eq_getElem q, List.getElem?_eq_none (Nat.le_refl _)] at this
        cases this
      · exact q
    · rcases Nat.lt_or_ge t'.length t.length with q | q
      · have := e t'.length
        rw [List.getElem?_eq_getElem q, List.getElem?_eq_none (Nat.le_refl _)] at this
        cases this
      · exact q
  refine ⟨hl.trans h.len, fun r hr => ?_, fun i j v hv' => ?_, fun i i' j v h1 h2 => ?_⟩
  · obtain ⟨i, hi, rfl⟩ := List.getElem_of_mem hr
    have := e i
    rw [List.getElem?_eq_getElem hi, List.getElem?_eq_getElem (by omega)] at this
    rw [Option.some.inj this, List.length_append, h.row _ (List.getElem_mem _)]
    rfl
  · rw [hc] at hv'
    by_cases hj : j < k
    · rw [if_pos hj] at hv'
      exact h.val i j v hv'
    · rw [if_neg hj] at hv'
      by_cases q : j = k ∧ i < t.length
      · rw [if_pos q] at hv'
        exact hv i (h.len ▸ q.2) v hv'
      · rw [if_neg q] at hv'; cases hv'
  · rw [hc] at h1 h2
    by_cases hj : j < k
    · rw [if_pos hj] at h1 h2
      exact h.inj i i' j v h1 h2
    · rw [if_neg hj] at h1 h2
      by_cases q : j = k ∧ i < t.length
      · by_cases q' : j = k ∧ i' < t.length
        · rw [if_pos q] at h1
          rw [if_pos q'] at h2
          exact hi i (h.len ▸ q.2) i' (h.len ▸ q'.2) v h1 h2
        · rw [if_neg q'] at h2; cases h2
      · rw [if_neg q] at h1; cases h1
def TbI (size c : Nat) (t0 : Tb) (s : Tb × List Int) : Prop := s.2.length = size - c ∧ s.2.Nodup ∧ (∀ v ∈ s.2, 0 ≤ v ∧ v.toNat < size) ∧ ∃ col : Nat → Option Int, (∀ i, s.1[i]? = if i < c then t0[i]?.map (· ++ [col i]) else t0[i]?) ∧ (∀ i < c, ∀ v, col i = some v → v ∉ s.2 ∧ 0 ≤ v ∧ v.toNat < size) ∧ (∀ i < c, ∀ j < c, ∀ v, col i = some v → col j = some v → i = j)
theorem table_b2 {size k c : Nat} {draws : List Int} {share : Int} {t0 : Tb} (hd : NumOk draws) (hs : size ≤ 1000) (hk : k ≤ 100) (hl : k * size + c < draws.length) (hc : c < size) (h0 : Tab k size t0) (s : Tb × List Int) (h : TbI size c t0 s) : Ok (T_law_table_b2 size draws share k s c) (TbI size (c + 1) t0) := by
  obtain ⟨h1, h2, h3, col, h4, h5, h6⟩ := h
  unfold T_law_table_b2
  have e : ((k : Int) * (size : Int) + (c : Int)) = ((k * size + c : Nat) : Int) := by simp
  obtain ⟨d, q1, q2, q3⟩ := hd.at (k := (k : Int) * (size : Int) + (c : Int)) rfl (by rw [e]; omega) (by rw [e]; omega)
  have hm : (d % (s.2.length : Int)).toNat < s.2.length := by
    have := Int.emod_lt_of_pos d (show (0 : Int) < s.2.length by omega)
    have := Int.emod_nonneg d (show (s.2.length : Int) ≠ 0 by omega)
    omega
  have hm0 := Int.emod_nonneg d (show (s.2.length : Int) ≠ 0 by omega)
  refine ok_eq (mulT_of (cmul_l (by omega) (by omega))) (ok_eq q1 (ok_eq (modT_of (by omega)) (ok_eq (popAtT_of hm0 hm (bnd63_ok (by omega) (by omega))) (ok_eq (divT_of (by decide)) (ok_eq (modT_of (by decide)) ?_)))))
  refine ok_bind (Q := fun z : Option Int => z = none ∨ z = some s.2[(d % (s.2.length : Int)).toNat]) (ok_ite (fun _ => ok_some (.inl rfl)) fun _ => ok_some (.inr rfl)) fun z hz => ?_
  have ht : s.1[c]? = t0[c]? := by rw [h4 c, if_neg (Nat.lt_irrefl _)]
  have hc0 : c < t0.length := by rw [h0.len]; exact hc
  have hc1 : c < s.1.length := by
    rw [List.getElem?_eq_getElem hc0] at ht
    exact (List.getElem?_eq_some_iff.mp ht).1
  have hr := h0.row _ (List.getElem_mem hc0)
  refine ok_eq (ixT_of (by omega) (by rw [Int.toNat_natCast, ht, List.getElem?_eq_getElem hc0])) (ok_eq (appT_of' (by rw [LIM_eq]; omega)) (ok_some ?_))
  rw [ixn_of (by omega) (by rw [Int.toNat_natCast]; exact hc1), Int.toNat_natCast]
  refine ⟨?_, ?_, fun v hv => h3 v (List.mem_of_mem_eraseIdx hv), fun i => if i = c then z else col i, fun i => ?_, fun i hi v hv => ?_, fun i hi j hj v hv hw => ?_⟩
  · show (List.eraseIdx _ _).length = _
    rw [List.length_eraseIdx, if_pos hm]
    omega
  · exact h2.sublist (List.eraseIdx_sublist _ _)
  · show (s.1.set c _)[i]? = _
    by_cases e : i = c
    · subst e
      rw [List.getElem?_set_self hc1, if_pos (Nat.lt_succ_self _), List.getElem?_eq_getElem hc0]
      simp
    · rw [List.getElem?_set_ne (Ne.symm e), h4 i]
      simp only [if_neg e]
      by_cases q : i < c
      · rw [if_pos q, if_pos (by omega)]
      · rw [if_neg q, if_neg (by omega)]
  · by_cases e : i = c
    · simp only [if_pos e] at hv
      rcases hz with rfl | rfl
      · cases hv
      · cases hv
        exact ⟨nodup_er h2 hm, h3 _ (List.getElem_mem _)⟩
    · simp only [if_neg e] at hv
      have := h5 i (by omega) v hv
      exact ⟨fun q => this.1 (List.mem_of_mem_eraseIdx q), this.2⟩
  · by_cases e : i = c
    · by_cases e' : j = c
      · omega
      · simp only [if_pos e] at hv
        simp only [if_neg e'] at hw
        rcases hz with rfl | rfl
        · cases hv
        · cases hv
          exact absurd (List.getElem_mem _) (h5 j (by omega) _ hw).1
    · by_cases e' : j = c
      · simp only [if_neg e] at hv
        simp only [if_pos e'] at hw
        rcases hz with rfl | rfl
        · cases hw
        · cases hw
          exact absurd (List.getElem_mem _) (h5 i (by omega) _ hv).1
      · simp only [if_neg e] at hv
        simp only [if_neg e'] at hw
        exact h6 i (by omega) j (by omega) v hv hw
theorem table_b1 {size k : Nat} {draws : List Int} {share : Int} (hd : NumOk draws) (hs : size ≤ 1000) (hk : k ≤ 100) (hl : (k + 1) * size ≤ draws.length) (t0 : Tb) (h0 : Tab k size t0) : Ok (T_law_table_b1 size draws share t0 k) (Tab (k + 1) size) := by
  unfold T_law_table_b1
  have e : ((size : Int)).toNat = size := Int.toNat_natCast _
  refine ok_eq (lrgT_of (bndL_ok (by omega) (by omega))) (ok_eq (rg1T_of (bnd62_ok (by omega) (by omega))) ?_)
  refine ok_bind (ok_for (fun c s => TbI size c t0 s) ⟨by simp, rgI_nodup _ _, fun v hv => ?_, fun _ => none, fun i => by rw [if_neg (Nat.not_lt_zero _)], fun i hi => absurd hi (Nat.not_lt_zero _), fun i hi => absurd hi (Nat.not_lt_zero _)⟩ fun c hc s hi => ?_) fun s hs' => ok_some ?_
  · have := rgI_mem hv
    omega
  · have hc' : c < size := by simpa using hc
    rw [rgI_get hc, Int.zero_add]
    refine table_b2 hd hs hk ?_ hc' h0 s hi
    rw [Nat.succ_mul] at hl
    omega
  · obtain ⟨_, _, _, col, h4, h5, h6⟩ := hs'
    have q : (rgI 0 ((size : Int)).toNat).length = size := by simp
    rw [q] at h4 h5 h6
    refine h0.app (c := col) (fun i => ?_) (fun i hi v hv => (h5 i hi v hv).2) fun i hi j hj v => h6 i hi j hj v
    rw [h4 i]
    by_cases q : i < size
    · rw [if_pos q]
    · rw [if_neg q, List.getElem?_eq_none (by rw [h0.len]; omega)]
      rfl
theorem cel_repl {n i k : Nat} : cel (List.replicate n []) i k = none := by
  unfold cel
  rw [List.getElem?_replicate]
  split <;> rfl
theorem table_ok {kinds size : Nat} {draws : List Int} {share : Int} (hd : NumOk draws) (hs : size ≤ 1000) (hk : kinds ≤ 100) (hl : kinds * size ≤ draws.length) : Ok (T_law_table kinds size draws share) (Tab kinds size) := by
  unfold T_law_table
  refine ok_eq (lr1_of (bndL_ok (by omega) (by omega))) (ok_eq (x := List.replicate size []) ?_ (ok_eq (rg1T_of (bnd62_ok (by omega) (by omega))) ?_))
  · exact congrArg some (List.map_const'.trans (by simp))
  refine ok_bind (ok_for (fun k t => Tab k size t) ?_ fun k hk' t ht => ?_) fun t ht => ok_some ?_
  · refine (?_ : Tab 0 size (List.replicate size []))
    exact ⟨by simp, fun r hr => by rw [(List.mem_replicate.mp hr).2]; rfl, fun i k v h => (by rw [cel_repl] at h; cases h), fun i j k v h => (by rw [cel_repl] at h; cases h)⟩
  · have hk2 : k < kinds := by simpa using hk'
    rw [rgI_get hk', Int.zero_add]
    refine table_b1 hd hs (by omega) (Nat.le_trans (Nat.mul_le_mul_right _ hk2) hl) t ht
  · have q : (rgI 0 ((kinds : Int)).toNat).length = kinds := by simp
    rw [q] at ht
    exact ht

theorem cel_mem {t : Tb} {i k : Nat} (hi : i < t.length) (hk : k < (t[i]).length) : cel t i k = (t[i])[k] := by
  unfold cel
  rw [List.getElem?_eq_getElem hi]
  show ((t[i])[k]?).bind id = _
  rw [List.getElem?_eq_getElem hk]
  rfl
theorem cel_some {t : Tb} {i k : Nat} {v : Int} (h : cel t i k = some v) : ∃ r, t[i]? = some r ∧ r[k]? = some (some v) := by
  unfold cel at h
  obtain ⟨x, h1, h2⟩ := Option.bind_eq_some_iff.mp h
  obtain ⟨r, h3, h4⟩ := Option.bind_eq_some_iff.mp h1
  have : x = some v := h2
  subst this
  exact ⟨r, h3, h4⟩
theorem cel_set {t : Tb} {n k : Nat} {r : List (Option Int)} {x : Option Int} (hn : t[n]? = some r) (hk : k < r.length) (i j : Nat) : cel (t.set n (r.set k x)) i j = if i = n ∧ j = k then x else cel t i j := by
  obtain ⟨h1, h2⟩ := List.getElem?_eq_some_iff.mp hn
  unfold cel
  by_cases e : i = n
  · subst e
    rw [List.getElem?_set_self h1, hn]
    simp only [Option.bind_some]
    by_cases q : j = k
    · subst q
      rw [List.getElem?_set_self hk]
      simp
    · rw [List.getElem?_set_ne (Ne.symm q), if_neg (fun z => q z.2)]
  · rw [List.getElem?_set_ne (Ne.symm e), if_neg (fun z => e z.1)]
theorem Tab.mem {kinds size : Nat} {t : Tb} (h : Tab kinds size t) {r : List (Option Int)} {v : Int} (hr : r ∈ t) (hv : some v ∈ r) : 0 ≤ v ∧ v.toNat < size := by
  obtain ⟨i, hi, rfl⟩ := List.getElem_of_mem hr
  obtain ⟨k, hk, e⟩ := List.getElem_of_mem hv
  exact h.val i k v ((cel_mem hi hk).trans e)
structure Inv (kinds size : Nat) (t b : Tb) : Prop where
  len : b.length = size
  row : ∀ r ∈ b, r.length = kinds
  iff : ∀ v k w, cel b v k = some w ↔ ∃ i : Nat, w = i ∧ cel t i k = some (v : Int)
theorem mem_set' {α : Type} {l : List α} {n : Nat} {x y : α} (h : y ∈ l.set n x) : y ∈ l ∨ y = x := List.mem_or_eq_of_mem_set h

theorem rows_fit_ok {kinds size : Nat} {t : Tb} (h : Tab kinds size t) : T_rows_fit kinds t = some true := by
  unfold T_rows_fit
  rw [thenC_l (s := ())]
  refine forC_pass fun r hr => ?_
  unfold T_rows_fit_b1
  rw [if_neg (by simp [h.row r hr])]
  rw [thenC_l (s := ())]
  refine forC_pass fun e he => ?_
  unfold T_rows_fit_b2
  cases e with
  | none => rfl
  | some v =>
    have := h.mem hr he
    have hl := h.len
    simp [show ¬v < 0 by omega, show ¬((t.length : Int) ≤ v) by omega]
def SbI (kinds size : Nat) (t : Tb) (i k : Nat) (b : Tb) : Prop := b.length = size ∧ (∀ r ∈ b, r.length = kinds) ∧ ∀ v k' w, cel b v k' = some w ↔ ∃ i' : Nat, w = i' ∧ (i' < i ∨ i' = i ∧ k' < k) ∧ cel t i' k' = some (v : Int)
theorem seen_b3 {kinds size i k : Nat} {t : Tb} (h : Tab kinds size t) (hi : i < size) (hk : k < kinds) (b : Tb) (hb : SbI kinds size t i k b) : Ok (T_seen_back_b3 t i b k) (orR (SbI kinds size t i (k + 1)) fun _ => False) := by
  obtain ⟨h1, h2, h3⟩ := hb
  have hi' : i < t.length := by rw [h.len]; exact hi
  have hr := h.row _ (List.getElem_mem hi')
  have hk' : k < (t[i]).length := by rw [hr]; exact hk
  have hc : cel t i k = (t[i])[k] := cel_mem hi' hk'
  unfold T_seen_back_b3
  refine ok_eq (ixT_of (by omega) (by rw [Int.toNat_natCast]; exact List.getElem?_eq_getElem hi')) (ok_eq (ixT_of (by omega) (by rw [Int.toNat_natCast]; exact List.getElem?_eq_getElem hk')) ?_)
  generalize (t[i])[k] = x at hc
  cases x with
  | none =>
    refine ok_inl ⟨h1, h2, fun v k' w => ?_⟩
    rw [h3]
    constructor
    · rintro ⟨i', q1, q2, q3⟩
      exact ⟨i', q1, by omega, q3⟩
    · rintro ⟨i', q1, q2, q3⟩
      refine ⟨i', q1, ?_, q3⟩
      rcases q2 with q2 | ⟨q2, q4⟩
      · exact .inl q2
      · by_cases e : k' = k
        · subst q2 e
          rw [hc] at q3; cases q3
        · exact .inr ⟨q2, by omega⟩
  | some v =>
    have hv := h.val i k v hc
    have hv' : v.toNat < b.length := by rw [h1]; exact hv.2
    have hr2 := h2 _ (List.getElem_mem hv')
    have hk2 : k < (b[v.toNat]).length := by rw [hr2]; exact hk
    have hn : (b[v.toNat])[k] = none := by
      cases e : (b[v.toNat])[k] with
      | none => rfl
      | some w =>
        obtain ⟨i', q1, q2, q3⟩ := (h3 v.toNat k w).mp ((cel_mem hv' hk2).trans e)
        rw [show ((v.toNat : Nat) : Int) = v by omega] at q3
        have := h.inj i' i k v q3 hc
        omega
    refine ok_then (I := SbI kinds size t i (k + 1)) ?_ fun s hs => ok_inl hs
    simp only [Option.isSome_some, if_true, Option.bind_some]
    rw [ixT_lt hv.1 hv']
    simp only [Option.bind_some]
    rw [ixT_of (x := none) (by omega) (by rw [Int.toNat_natCast, List.getElem?_eq_getElem hk2, hn])]
    simp only [Option.bind_some, Option.isSome_none, Bool.false_eq_true, if_false]
    rw [sTT_of (by omega) (by rw [Int.toNat_natCast]; exact hk2), Int.toNat_natCast]
    simp only [Option.bind_some]
    rw [ixn_of hv.1 hv']
    refine ok_inl ⟨by rw [List.length_set]; exact h1, fun r hr => ?_, fun v' k' w => ?_⟩
    · rcases mem_set' hr with q | q
      · exact h2 r q
      · rw [q, List.length_set]; exact hr2
    · rw [cel_set (List.getElem?_eq_getElem hv') hk2]
      by_cases e : v' = v.toNat ∧ k' = k
      · rw [if_pos e]
        obtain ⟨rfl, rfl⟩ := e
        rw [show ((v.toNat : Nat) : Int) = v by omega]
        constructor
        · intro q
          cases q
          exact ⟨i, rfl, .inr ⟨rfl, Nat.lt_succ_self _⟩, hc⟩
        · rintro ⟨i', q1, q2, q3⟩
          rw [q1, h.inj i' i k' v q3 hc]
      · rw [if_neg e, h3]
        constructor
        · rintro ⟨i', q1, q2, q3⟩
          exact ⟨i', q1, by omega, q3⟩
        · rintro ⟨i', q1, q2, q3⟩
          refine ⟨i', q1, ?_, q3⟩
          rcases q2 with q2 | ⟨q2, q4⟩
          · exact .inl q2
          · by_cases e' : k' = k
            · subst q2 e'
              rw [hc] at q3
              have : v = v' := Option.some.inj q3
              exact absurd ⟨by omega, rfl⟩ e
            · exact .inr ⟨q2, by omega⟩
theorem seen_ok {kinds size : Nat} {t : Tb} (h : Tab kinds size t) (hk : kinds ≤ 1000) (hs : size ≤ 1000) : Ok (T_seen_back kinds t) fun r => ∃ b, r = some b ∧ Inv kinds size t b := by
  unfold T_seen_back
  have hl := h.len
  have hn : (rgI 0 ((t.length : Int)).toNat).length = size := by simp [hl]
  refine ok_eq (rg1T_of (bnd62_ok (by omega) (by omega))) ?_
  refine ok_bind (ok_for (fun n (b : Tb) => b.length = n ∧ ∀ r ∈ b, r = List.replicate kinds none) ⟨rfl, fun r hr => nomatch hr⟩ fun n hn' b hb => ?_) fun b hb => ?_
  · unfold T_seen_back_b1
    refine ok_eq (lr1_of (bndL_ok (by omega) (by omega))) (ok_eq (appT_of' (by rw [LIM_eq, hb.1]; omega)) (ok_some ⟨by rw [List.length_append, hb.1]; rfl, fun r hr => ?_⟩))
    rcases List.mem_append.mp hr with q | q
    · exact hb.2 r q
    · rw [List.mem_singleton.mp q]
      exact List.map_const'.trans (by simp)
  rw [hn] at hb
  refine ok_eq (rg1T_of (bnd62_ok (by omega) (by omega))) ?_
  refine ok_then (I := SbI kinds size t size 0) ?_ fun s hs => ok_some ⟨s, rfl, hs.1, hs.2.1, fun v k w => ?_⟩
  · refine ok_mono (ok_forC (R := fun _ => False) (fun i s => SbI kinds size t i 0 s) ⟨hb.1, fun r hr => by rw [hb.2 r hr]; simp, fun v k w => ?_⟩ fun i hi s hs' => ?_) fun z hz => ?_
    · constructor
      · intro q
        obtain ⟨r, q1, q2⟩ := cel_some q
        rw [hb.2 r (List.mem_of_getElem? q1), List.getElem?_replicate] at q2
        split at q2 <;> cases q2
      · rintro ⟨i', _, q2, _⟩
        omega
    · rw [rgI_get hi, Int.zero_add]
      have hi2 : i < size := by rw [← hn]; exact hi
      unfold T_seen_back_b2
      refine ok_eq (rg1T_of (bnd62_ok (by omega) (by omega))) ?_
      refine ok_then (I := SbI kinds size t i kinds) ?_ fun u hu => ok_inl ⟨hu.1, hu.2.1, fun v k w => ?_⟩
      · refine ok_mono (ok_forC (R := fun _ => False) (fun k s => SbI kinds size t i k s) hs' fun k hk' u hu => ?_) fun z hz => ?_
        · rw [rgI_get hk', Int.zero_add]
          exact seen_b3 h hi2 (by simpa using hk') u hu
        · have q : (rgI 0 ((kinds : Int)).toNat).length = kinds := by simp
          rw [q] at hz
          cases z with
          | inl z => exact hz
          | inr z => exact hz.elim
      · rw [hu.2.2]
        constructor
        · rintro ⟨i', q1, q2, q3⟩
          exact ⟨i', q1, by omega, q3⟩
        · rintro ⟨i', q1, q2, q3⟩
          refine ⟨i', q1, ?_, q3⟩
          obtain ⟨r, q4, q5⟩ := cel_some q3
          obtain ⟨q6, _⟩ := List.getElem?_eq_some_iff.mp q5
          have := h.row r (List.mem_of_getElem? q4)
          omega
    · rw [hn] at hz
      cases z with
      | inl z => exact hz
      | inr z => exact hz.elim
  · rw [hs.2.2]
    constructor
    · rintro ⟨i', q1, q2, q3⟩
      exact ⟨i', q1, q3⟩
    · rintro ⟨i', q1, q3⟩
      obtain ⟨r, q4, q5⟩ := cel_some q3
      obtain ⟨q6, _⟩ := List.getElem?_eq_some_iff.mp q4
      exact ⟨i', q1, by omega, q3⟩
theorem Tab.set {kinds size n k : Nat} {t : Tb} {r : List (Option Int)} (h : Tab kinds size t) (hn : t[n]? = some r) (hk : k < r.length) : Tab kinds size (t.set n (r.set k none)) := by
  have hc := fun i j => cel_set (x := none) hn hk i j
  refine ⟨by rw [List.length_set]; exact h.len, fun q hq => ?_, fun i j v hv => ?_, fun i i' j v h1 h2 => ?_⟩
  · rcases mem_set' hq with z | z
    · exact h.row q z
    · rw [z, List.length_set]; exact h.row r (List.mem_of_getElem? hn)
  · rw [hc] at hv
    split at hv
    · cases hv
    · exact h.val i j v hv
  · rw [hc] at h1 h2
    split at h1
    · cases h1
    · split at h2
      · cases h2
      · exact h.inj i i' j v h1 h2

theorem chart_ok {kinds size : Nat} {t : Tb} (h : Tab kinds size t) (hk : 1 ≤ kinds ∧ kinds ≤ 5) (hs : 1 ≤ size ∧ size ≤ 700) : Ok (T_Chart_init kinds t) fun r => ∃ c, r = (.ok c, ()) ∧ c.kinds = kinds ∧ c.outs = t ∧ Inv kinds size t c.ins := by
  have hl := h.len
  unfold T_Chart_init
  obtain ⟨z, hz⟩ : ∃ z : Int, z = (t.length : Int) := ⟨_, rfl⟩
  rw [← hz]
  rw [if_neg (by simp; omega), if_neg (by simp; omega)]
  refine ok_eq (rows_fit_ok h) ?_
  rw [if_neg (by decide)]
  refine ok_bind (seen_ok h (by omega) (by omega)) fun r hr => ?_
  obtain ⟨b, rfl, hb⟩ := hr
  rw [if_neg (by simp), lcP_of (by rw [LIM_eq]; omega)]
  exact ok_some ⟨_, rfl, rfl, by simp, hb⟩
structure FitT (kinds size : Nat) (t : Tb) : Prop where
  len : t.length = size
  row : ∀ r ∈ t, r.length = kinds
  val : ∀ i k v, cel t i k = some v → 0 ≤ v ∧ v.toNat < size
def InjT (t : Tb) : Prop := ∀ i j k v, cel t i k = some v → cel t j k = some v → i = j
theorem FitT.tab {kinds size : Nat} {t : Tb} (h : FitT kinds size t) (j : InjT t) : Tab kinds size t := ⟨h.len, h.row, h.val, j⟩
def Prc (i k i' k' : Nat) : Prop := i' < i ∨ i' = i ∧ k' < k
def SbJ (kinds size : Nat) (t : Tb) (i k : Nat) (b : Tb) : Prop := (b.length = size ∧ (∀ r ∈ b, r.length = kinds) ∧ ∀ v k' w, cel b v k' = some w ↔ ∃ i' : Nat, w = i' ∧ Prc i k i' k' ∧ cel t i' k' = some (v : Int)) ∧ ∀ i1 i2 k' v, Prc i k i1 k' → Prc i k i2 k' → cel t i1 k' = some v → cel t i2 k' = some v → i1 = i2
theorem prc_s {i k i' k' : Nat} : Prc i (k + 1) i' k' ↔ Prc i k i' k' ∨ (i' = i ∧ k' = k) := by unfold Prc; omega
theorem seen_g3 {kinds size i k : Nat} {t : Tb} (h : FitT kinds size t) (hi : i < size) (hk : k < kinds) (b : Tb) (hb : SbJ kinds size t i k b) : Ok (T_seen_back_b3 t i b k) (orR (SbJ kinds size t i (k + 1)) fun z => z = .inr none) := by
  obtain ⟨⟨h1, h2, h3⟩, h4⟩ := hb
  have hi' : i < t.length := by rw [h.len]; exact hi
  have hr := h.row _ (List.getElem_mem hi')
  have hk' : k < (t[i]).length := by rw [hr]; exact hk
  have hc : cel t i k = (t[i])[k] := cel_mem hi' hk'
  unfold T_seen_back_b3
  refine ok_eq (ixT_of (by omega) (by rw [Int.toNat_natCast]; exact List.getElem?_eq_getElem hi')) (ok_eq (ixT_of (by omega) (by rw [Int.toNat_natCast]; exact List.getElem?_eq_getElem hk')) ?_)
  generalize (t[i])[k] = x at hc
  cases x with
  | none =>
    refine ok_inl ⟨⟨h1, h2, fun v k' w => ?_⟩, fun i1 i2 k' v a1 a2 c1 c2 => ?_⟩
    · rw [h3]
      constructor
      · rintro ⟨i', q1, q2, q3⟩
        exact ⟨i', q1, prc_s.mpr (.inl q2), q3⟩
      · rintro ⟨i', q1, q2, q3⟩
        refine ⟨i', q1, ?_, q3⟩
        rcases prc_s.mp q2 with q2 | ⟨rfl, rfl⟩
        · exact q2
        · rw [hc] at q3; cases q3
    · rcases prc_s.mp a1 with a1 | ⟨rfl, rfl⟩
      · rcases prc_s.mp a2 with a2 | ⟨rfl, rfl⟩
        · exact h4 i1 i2 k' v a1 a2 c1 c2
        · rw [hc] at c2; cases c2
      · rw [hc] at c1; cases c1
  | some v =>
    have hv := h.val i k v hc
    have hv' : v.toNat < b.length := by rw [h1]; exact hv.2
    have hr2 := h2 _ (List.getElem_mem hv')
    have hk2 : k < (b[v.toNat]).length := by rw [hr2]; exact hk
    refine ok_then (I := SbJ kinds size t i (k + 1)) ?_ fun s hs => ok_inl hs
    simp only [Option.isSome_some, if_true, Option.bind_some]
    rw [ixT_lt hv.1 hv']
    simp only [Option.bind_some]
    rw [ixT_of (x := (b[v.toNat])[k]) (by omega) (by rw [Int.toNat_natCast, List.getElem?_eq_getElem hk2])]
    simp only [Option.bind_some]
    cases hn : (b[v.toNat])[k] with
    | some w => exact ok_inr rfl
    | none =>
    have fresh : ∀ i', Prc i k i' k → cel t i' k = some v → False := fun i' q1 q2 => by
      have := (h3 v.toNat k (i' : Int)).mpr ⟨i', rfl, q1, by rw [q2]; congr 1; omega⟩
      rw [cel_mem hv' hk2, hn] at this
      cases this
    have J : ∀ i1 i2 k' u, Prc i (k + 1) i1 k' → Prc i (k + 1) i2 k' → cel t i1 k' = some u → cel t i2 k' = some u → i1 = i2 := fun i1 i2 k' u a1 a2 c1 c2 => by
      rcases prc_s.mp a1 with a1 | ⟨rfl, rfl⟩
      · rcases prc_s.mp a2 with a2 | ⟨rfl, rfl⟩
        · exact h4 i1 i2 k' u a1 a2 c1 c2
        · rw [hc] at c2; cases c2
          exact (fresh i1 a1 c1).elim
      · rcases prc_s.mp a2 with a2 | ⟨a2, _⟩
        · rw [hc] at c1; cases c1
          exact (fresh i2 a2 c2).elim
        · exact a2.symm
    simp only [Option.isSome_none, Bool.false_eq_true, if_false]
    rw [sTT_of (by omega) (by rw [Int.toNat_natCast]; exact hk2), Int.toNat_natCast]
    simp only [Option.bind_some]
    rw [ixn_of hv.1 hv']
    refine ok_inl ⟨⟨by rw [List.length_set]; exact h1, fun r hr => ?_, fun v' k' w => ?_⟩, J⟩
    · rcases mem_set' hr with q | q
      · exact h2 r q
      · rw [q, List.length_set]; exact hr2
    · rw [cel_set (List.getElem?_eq_getElem hv') hk2]
      by_cases e : v' = v.toNat ∧ k' = k
      · rw [if_pos e]
        obtain ⟨rfl, rfl⟩ := e
        rw [show ((v.toNat : Nat) : Int) = v by omega]
        constructor
        · intro q
          cases q
          exact ⟨i, rfl, prc_s.mpr (.inr ⟨rfl, rfl⟩), hc⟩
        · rintro ⟨i', q1, q2, q3⟩
          rw [q1, J i i' k' v (prc_s.mpr (.inr ⟨rfl, rfl⟩)) q2 hc q3]
      · rw [if_neg e, h3]
        constructor
        · rintro ⟨i', q1, q2, q3⟩
          exact ⟨i', q1, prc_s.mpr (.inl q2), q3⟩
        · rintro ⟨i', q1, q2, q3⟩
          refine ⟨i', q1, ?_, q3⟩
          rcases prc_s.mp q2 with q2 | ⟨rfl, rfl⟩
          · exact q2
          · rw [hc] at q3
            have : v = v' := Option.some.inj q3
            exact absurd ⟨by omega, rfl⟩ e
theorem seen_g {kinds size : Nat} {t : Tb} (h : FitT kinds size t) (hk : kinds ≤ 1000) (hs : size ≤ 1000) : Ok (T_seen_back kinds t) fun r => r = none ∨ InjT t := by
  unfold T_seen_back
  have hl := h.len
  have hn : (rgI 0 ((t.length : Int)).toNat).length = size := by simp [hl]
  refine ok_eq (rg1T_of (bnd62_ok (by omega) (by omega))) ?_
  refine ok_bind (ok_for (fun n (b : Tb) => b.length = n ∧ ∀ r ∈ b, r = List.replicate kinds none) ⟨rfl, fun r hr => nomatch hr⟩ fun n hn' b hb => ?_) fun b hb => ?_
  · unfold T_seen_back_b1
    refine ok_eq (lr1_of (bndL_ok (by omega) (by omega))) (ok_eq (appT_of' (by rw [LIM_eq, hb.1]; omega)) (ok_some ⟨by rw [List.length_append, hb.1]; rfl, fun r hr => ?_⟩))
    rcases List.mem_append.mp hr with q | q
    · exact hb.2 r q
    · rw [List.mem_singleton.mp q]
      exact List.map_const'.trans (by simp)
  rw [hn] at hb
  refine ok_eq (rg1T_of (bnd62_ok (by omega) (by omega))) ?_
  refine ok_then (I := SbJ kinds size t size 0) ?_ fun s hs => ok_some (.inr fun i j k v c1 c2 => ?_)
  · refine ok_mono (ok_forC (R := fun z : Option Tb => z = none) (fun i s => SbJ kinds size t i 0 s) ⟨⟨hb.1, fun r hr => by rw [hb.2 r hr]; simp, fun v k w => ?_⟩, fun i1 i2 k' v a1 => ?_⟩ fun i hi s hs' => ?_) fun z hz => ?_
    · constructor
      · intro q
        obtain ⟨r, q1, q2⟩ := cel_some q
        rw [hb.2 r (List.mem_of_getElem? q1), List.getElem?_replicate] at q2
        split at q2 <;> cases q2
      · rintro ⟨i', _, q2, _⟩
        unfold Prc at q2
        omega
    · unfold Prc at a1
      omega
    · rw [rgI_get hi, Int.zero_add]
      have hi2 : i < size := by rw [← hn]; exact hi
      unfold T_seen_back_b2
      refine ok_eq (rg1T_of (bnd62_ok (by omega) (by omega))) ?_
      have row : ∀ i' k' v, cel t i' k' = some v → k' < kinds := fun i' k' v q3 => by
        obtain ⟨r, q4, q5⟩ := cel_some q3
        obtain ⟨q6, _⟩ := List.getElem?_eq_some_iff.mp q5
        have := h.row r (List.mem_of_getElem? q4)
        omega
      have up : ∀ i' k' v, cel t i' k' = some v → (Prc (i + 1) 0 i' k' ↔ Prc i kinds i' k') := fun i' k' v q => by
        have := row i' k' v q
        unfold Prc
        omega
      refine ok_then (I := SbJ kinds size t i kinds) ?_ fun u hu => ok_inl ⟨⟨hu.1.1, hu.1.2.1, fun v k w => ?_⟩, fun i1 i2 k' v a1 a2 c1 c2 => hu.2 i1 i2 k' v ((up _ _ _ c1).mp a1) ((up _ _ _ c2).mp a2) c1 c2⟩
      · refine ok_mono (ok_forC (R := fun z : Tb ⊕ Option Tb => z = .inr none) (fun k s => SbJ kinds size t i k s) hs' fun k hk' u hu => ?_) fun z hz => ?_
        · rw [rgI_get hk', Int.zero_add]
          exact seen_g3 h hi2 (by simpa using hk') u hu
        · have q : (rgI 0 ((kinds : Int)).toNat).length = kinds := by simp
          rw [q] at hz
          cases z with
          | inl z => exact hz
          | inr z =>
            rw [show z = .inr none from hz]
            exact rfl
      · rw [hu.1.2.2]
        constructor
        · rintro ⟨i', q1, q2, q3⟩
          exact ⟨i', q1, (up _ _ _ q3).mpr q2, q3⟩
        · rintro ⟨i', q1, q2, q3⟩
          exact ⟨i', q1, (up _ _ _ q3).mp q2, q3⟩
    · rw [hn] at hz
      cases z with
      | inl z => exact hz
      | inr z => exact .inl hz
  · have at' : ∀ i k v, cel t i k = some v → Prc size 0 i k := fun i k v q => by
      obtain ⟨r, q4, q5⟩ := cel_some q
      obtain ⟨q6, _⟩ := List.getElem?_eq_some_iff.mp q4
      unfold Prc
      omega
    exact hs.2 i j k v (at' _ _ _ c1) (at' _ _ _ c2) c1 c2
def celB (n : Nat) : Option Int → Bool
  | none => true
  | some v => decide (0 ≤ v ∧ v < n)
def rowB (kinds : Int) (n : Nat) (r : List (Option Int)) : Bool := decide ((r.length : Int) = kinds) && r.all (celB n)
theorem rows_loop (kinds : Int) (t : Tb) : forC (T_rows_fit_b1 kinds t) t () = some (if t.all (rowB kinds t.length) = true then .inl () else .inr false) := forC_all fun r _ => by
  unfold T_rows_fit_b1 rowB
  by_cases q : (r.length : Int) = kinds
  · rw [if_neg (by simp [q]), decide_eq_true q, Bool.true_and]
    have : forC (T_rows_fit_b2 t) r () = some (if r.all (celB t.length) = true then .inl () else .inr (.inr false)) := forC_all fun e _ => by
      unfold T_rows_fit_b2
      cases e with
      | none => rfl
      | some v =>
        have e0 : celB t.length (some v) = decide (0 ≤ v ∧ v < t.length) := rfl
        rw [e0]
        by_cases q1 : v < 0
        · rw [decide_eq_false (show ¬(0 ≤ v ∧ v < (t.length : Int)) by omega)]
          simp [q1]
        · by_cases q2 : (t.length : Int) ≤ v
          · rw [decide_eq_false (show ¬(0 ≤ v ∧ v < (t.length : Int)) by omega)]
            simp [q1, q2]
          · rw [decide_eq_true (show 0 ≤ v ∧ v < (t.length : Int) by omega)]
            simp [q1, q2]
    rw [this]
    cases r.all (celB t.length) <;> rfl
  · rw [if_pos (by simp [q]), decide_eq_false q]
    rfl
theorem rows_fit_all (kinds : Int) (t : Tb) : T_rows_fit kinds t = some (t.all (rowB kinds t.length)) := by
  unfold T_rows_fit
  rw [rows_loop]
  cases t.all (rowB kinds t.length) <;> rfl
theorem fit_of {K : Nat} {t : Tb} (h : t.all (rowB K t.length) = true) : FitT K t.length t := by
  have hr : ∀ r ∈ t, r.length = K ∧ ∀ e ∈ r, celB t.length e = true := fun r hr => by
    have := List.all_eq_true.mp h r hr
    unfold rowB at this
    rw [Bool.and_eq_true] at this
    have q := of_decide_eq_true this.1
    exact ⟨by omega, List.all_eq_true.mp this.2⟩
  refine ⟨rfl, fun r m => (hr r m).1, fun i k v hv => ?_⟩
  obtain ⟨r, h1, h2⟩ := cel_some hv
  have := (hr r (List.mem_of_getElem? h1)).2 _ (List.mem_of_getElem? h2)
  have q := of_decide_eq_true (show decide (0 ≤ v ∧ v < t.length) = true from this)
  omega
def colL (t : Tb) (k : Nat) : List Int := (t.filter fun r => ((r[k]?).join).isSome).map fun r => ((r[k]?).join).getD 0
theorem colL_nd {t : Tb} {k : Nat} : (colL t k).Nodup ↔ ∀ i j v, cel t i k = some v → cel t j k = some v → i = j := by
  have ce : ∀ (i : Nat) (hi : i < t.length), cel t i k = (t[i][k]?).join := fun i hi => by
    unfold cel
    rw [List.getElem?_eq_getElem hi]
    rfl
  unfold colL List.Nodup
  rw [List.pairwise_map, List.pairwise_filter, List.pairwise_iff_getElem]
  constructor
  · intro h i j v c1 c2
    obtain ⟨r1, a1, _⟩ := cel_some c1
    obtain ⟨r2, a2, _⟩ := cel_some c2
    obtain ⟨l1, _⟩ := List.getElem?_eq_some_iff.mp a1
    obtain ⟨l2, _⟩ := List.getElem?_eq_some_iff.mp a2
    rw [ce i l1] at c1
    rw [ce j l2] at c2
    rcases Nat.lt_trichotomy i j with q | q | q
    · exact absurd (by rw [c1, c2]) (h i j l1 l2 q (by rw [c1]; rfl) (by rw [c2]; rfl))
    · exact q
    · exact absurd (by rw [c1, c2]) (h j i l2 l1 q (by rw [c2]; rfl) (by rw [c1]; rfl))
  · intro h i j hi hj hij c1 c2 e
    obtain ⟨v1, b1⟩ := Option.isSome_iff_exists.mp c1
    obtain ⟨v2, b2⟩ := Option.isSome_iff_exists.mp c2
    rw [b1, b2] at e
    have : v1 = v2 := e
    subst this
    have := h i j v1 ((ce i hi).trans b1) ((ce j hj).trans b2)
    omega
def GoodT (kinds : Int) (t : Tb) : Prop := 1 ≤ kinds ∧ kinds ≤ 5 ∧ 1 ≤ t.length ∧ t.length ≤ 700 ∧ t.all (rowB kinds t.length) = true ∧ InjT t
theorem chart_not {kinds : Int} {t : Tb} (hl : t.length ≤ 1000) (h : ¬GoodT kinds t) : T_Chart_init kinds t = some (.error "NoChart", ()) := by
  unfold T_Chart_init
  obtain ⟨z, hz⟩ : ∃ z : Int, z = (t.length : Int) := ⟨_, rfl⟩
  rw [← hz]
  by_cases q1 : kinds < 1 ∨ 5 < kinds
  · rw [if_pos (by simpa using q1)]
  rw [if_neg (by simpa using q1)]
  by_cases q2 : z < 1 ∨ 700 < z
  · rw [if_pos (by simpa using q2)]
  rw [if_neg (by simpa using q2), rows_fit_all]
  cases q3 : t.all (rowB kinds t.length) with
  | false => rfl
  | true =>
    refine bind_eq rfl ?_
    rw [if_nt]
    obtain ⟨K, rfl, hK⟩ : ∃ K : Nat, kinds = (K : Int) ∧ K ≤ 5 := ⟨kinds.toNat, by omega, by omega⟩
    obtain ⟨r, h1, h2⟩ := seen_g (fit_of q3) (by omega) hl
    refine bind_eq h1 ?_
    rcases h2 with rfl | h2
    · rfl
    · exact absurd ⟨by omega, by omega, by omega, by omega, q3, h2⟩ h

open SX in
open SX in
theorem fmt_S {n : Nat} (h : n < 1920) : fmtI (n : Int) = some (S (TL.numL n)) := by
  unfold fmtI
  rw [if_pos]
  · exact congrArg some (num_S n)
  · rw [Int.natAbs_natCast]
    exact Nat.lt_of_le_of_lt (Nat.log2_le_self n) h
open SX in
theorem join_len {a : List Nat} : ∀ ps : List (List Nat), (TL.joinL a ps).length ≤ (ps.map fun p => p.length + a.length).sum
  | [] => Nat.le_refl _
  | [p] => by simp [TL.joinL]
  | p :: q :: r => by
    have := join_len (a := a) (q :: r)
    show (p ++ (a ++ TL.joinL a (q :: r))).length ≤ _
    rw [List.length_append, List.length_append, List.map_cons, List.sum_cons]
    omega
theorem join_mem {a : List Nat} {x : Nat} : ∀ {ps : List (List Nat)}, x ∈ TL.joinL a ps → x ∈ a ∨ ∃ p ∈ ps, x ∈ p
  | [], h => (nomatch h)
  | [p], h => .inr ⟨p, List.mem_singleton.mpr rfl, h⟩
  | p :: q :: r, h => by
    rcases List.mem_append.mp (show x ∈ p ++ (a ++ TL.joinL a (q :: r)) from h) with h | h
    · exact .inr ⟨p, List.mem_cons_self, h⟩
    · rcases List.mem_append.mp h with h | h
      · exact .inl h
      · rcases join_mem (ps := q :: r) h with z | ⟨p', z1, z2⟩
        · exact .inl z
        · exact .inr ⟨p', List.mem_cons_of_mem _ z1, z2⟩
theorem sum_le {l : List Nat} {b : Nat} (h : ∀ x ∈ l, x ≤ b) : l.sum ≤ l.length * b := by
  induction l with
  | nil => exact Nat.zero_le _
  | cons x l ih =>
    have h1 := h x List.mem_cons_self
    have h2 := ih fun y hy => h y (List.mem_cons_of_mem _ hy)
    rw [List.sum_cons, List.length_cons, Nat.succ_mul]
    omega
open SX in
theorem joinT_S {a : List Nat} {ps : List (List Nat)} {b : Nat} (hb : ∀ p ∈ ps, p.length + a.length ≤ b) (hl : ps.length * b ≤ 16777216) : joinT (S a) (ps.map S) = some (S (TL.joinL a ps)) := by
  unfold joinT
  rw [if_pos, join_S]
  have : ((ps.map S).map (·.length)).sum + (ps.map S).length * (S a).length = (ps.map fun p => p.length + a.length).sum := by
    rw [lens, List.length_map, S_len]
    clear hb hl
    induction ps with
    | nil => exact Nat.zero_add _ ▸ Nat.zero_mul _ ▸ rfl
    | cons p ps ih =>
      simp only [List.map_cons, List.sum_cons, List.length_cons, Nat.succ_mul]
      omega
  rw [this]
  refine Nat.le_trans (sum_le (b := b) fun x hx => ?_) (by rw [List.length_map]; exact hl)
  obtain ⟨p, hp, rfl⟩ := List.mem_map.mp hx
  exact hb p hp
theorem join_bnd {a : List Nat} {ps : List (List Nat)} {b : Nat} (hb : ∀ p ∈ ps, p.length + a.length ≤ b) : (TL.joinL a ps).length ≤ ps.length * b := by
  refine Nat.le_trans (join_len ps) (Nat.le_trans (sum_le (b := b) fun x hx => ?_) (by rw [List.length_map]; exact Nat.le_refl _))
  obtain ⟨p, hp, rfl⟩ := List.mem_map.mp hx
  exact hb p hp
open SX in
theorem splT_S {a : List Nat} {c : Nat} (hc : c < 256) (hl : a.length + 2 ≤ LIM) : splT (S a) (S [c]) = some ((TL.spl [c] 0 [] a).map S) := by
  unfold splT
  rw [if_pos ⟨rfl, by rw [S_len]; exact hl⟩]
  exact congrArg some (split_S (by simp) (by simp [hc]))
open SX in
theorem splT_join {ps : List (List Nat)} {c : Nat} (hc : c < 256) (hne : ps ≠ []) (hp : ∀ p ∈ ps, c ∉ p) (hl : (TL.joinL [c] ps).length + 2 ≤ LIM) : splT (S (TL.joinL [c] ps)) (S [c]) = some (ps.map S) := by
  rw [splT_S hc hl, spl_join hne hp]
open SX in
theorem adsT_S {a b : List Nat} (h : a.length + b.length ≤ LIM) : adsT (S a) (S b) = some (S (a ++ b)) := by
  unfold adsT
  rw [if_pos (by rw [S_len, S_len]; exact h), S_cat]
open SX in
theorem strOk_S {a : List Nat} (h : ∀ x ∈ a, x < 128) : PyData.strOk (S a) = true := by
  unfold PyData.strOk
  rw [← Array.all_toList]
  refine List.all_eq_true.mpr fun x hx => decide_eq_true ?_
  have := h x hx
  omega
theorem forO_app {α β : Type} {B : List β → α → Option (List β)} {f : α → β} : ∀ {l : List α} {s : List β}, s.length + l.length ≤ LIM → (∀ s, ∀ x ∈ l, s.length < LIM → B s x = some (s ++ [f x])) → forO B l s = some (s ++ l.map f)
  | [], s, _, _ => by rw [List.map_nil, List.append_nil]; rfl
  | x :: l, s, hl, h => by
    rw [List.length_cons] at hl
    unfold forO
    refine bind_eq (h s x List.mem_cons_self (by omega)) ?_
    rw [forO_app (by rw [List.length_append]; simp only [List.length_cons, List.length_nil]; omega) fun s y hy => h s y (List.mem_cons_of_mem _ hy), List.append_assoc]
    rfl

open SX in
def entL : Option Int → List Nat
  | none => [45]
  | some v => TL.numL v.toNat
def rwC (r : List (Option Int)) : List Nat := TL.joinL [32] (r.map entL)
def headL (K S : Nat) : List (List Nat) := [[99, 104, 97, 114, 116], TL.numL K, TL.numL S]
def chL (K : Nat) (t : Tb) : List Nat := TL.joinL [10] (TL.joinL [32] (headL K t.length) :: t.map rwC)
theorem lit_chart : ("chart " : Str) = SX.S [99, 104, 97, 114, 116, 32] := by decide +kernel
theorem lit_ch5 : ("chart" : Str) = SX.S [99, 104, 97, 114, 116] := by decide +kernel
theorem lit_sp : (" " : Str) = SX.S [32] := by decide +kernel
theorem lit_mi : ("-" : Str) = SX.S [45] := by decide +kernel
theorem lit_nl : ("\n" : Str) = SX.S [10] := by decide +kernel
theorem num3 {n : Nat} (h : n ≤ 999) : (TL.numL n).length ≤ 3 := TL.numL_len (k := 3) (by decide) (by omega)
theorem ent_dig {e : Option Int} {x : Nat} (h : x ∈ entL e) : x = 45 ∨ 48 ≤ x ∧ x ≤ 57 := by
  cases e with
  | none => exact .inl (List.mem_singleton.mp h)
  | some v => exact .inr (TL.numL_digits _ x h)
structure Fit (t : Tb) : Prop where
  len : t.length ≤ 999
  row : ∀ r ∈ t, r.length ≤ 5
  val : ∀ r ∈ t, ∀ v, some v ∈ r → 0 ≤ v ∧ v ≤ 999
theorem Tab.fit {K S : Nat} {t : Tb} (h : Tab K S t) (hK : K ≤ 5) (hS : S ≤ 999) : Fit t := ⟨by rw [h.len]; exact hS, fun r hr => by rw [h.row r hr]; exact hK, fun r hr v hv => by have := h.mem hr hv; omega⟩
theorem ent_len {e : Option Int} (h : ∀ v, e = some v → 0 ≤ v ∧ v ≤ 999) : (entL e).length ≤ 3 := by
  cases e with
  | none => exact (by decide)
  | some v => exact num3 (by have := h v rfl; omega)
theorem rwC_len {t : Tb} (h : Fit t) {r : List (Option Int)} (hr : r ∈ t) : (rwC r).length ≤ 20 := by
  have := h.row r hr
  refine Nat.le_trans (join_bnd (b := 4) fun p hp => ?_) (by rw [List.length_map]; omega)
  obtain ⟨e, he, rfl⟩ := List.mem_map.mp hp
  have := ent_len (e := e) fun v hv => h.val r hr v (hv ▸ he)
  simp only [List.length_cons, List.length_nil]
  omega
theorem head_len {K n : Nat} (hK : K ≤ 999) (hn : n ≤ 999) : (TL.joinL [32] (headL K n)).length ≤ 18 := by
  refine Nat.le_trans (join_bnd (b := 6) fun p hp => ?_) (by unfold headL; simp)
  simp only [List.length_cons, List.length_nil]
  rcases List.mem_cons.mp hp with rfl | hp
  · exact (by decide)
  rcases List.mem_cons.mp hp with rfl | hp
  · have := num3 hK; omega
  · rw [List.mem_singleton.mp hp]
    have := num3 hn; omega
theorem head_mem {K n x : Nat} (hx : x ∈ TL.joinL [32] (headL K n)) : 32 ≤ x ∧ x < 128 := by
  rcases join_mem hx with z | ⟨p, hp, z⟩
  · rw [List.mem_singleton.mp z]; exact (by decide)
  rcases List.mem_cons.mp hp with rfl | hp
  · exact (by decide : ∀ y ∈ [99, 104, 97, 114, 116], 32 ≤ y ∧ y < 128) x z
  rcases List.mem_cons.mp hp with rfl | hp
  · have := TL.numL_digits _ x z; omega
  · rw [List.mem_singleton.mp hp] at z
    have := TL.numL_digits _ x z; omega
theorem rwC_mem {r : List (Option Int)} {x : Nat} (hx : x ∈ rwC r) : 32 ≤ x ∧ x < 128 := by
  rcases join_mem hx with z | ⟨p, hp, z⟩
  · rw [List.mem_singleton.mp z]; exact (by decide)
  obtain ⟨e, _, rfl⟩ := List.mem_map.mp hp
  have := ent_dig z; omega
theorem chL_mem {K : Nat} {t : Tb} {x : Nat} (hx : x ∈ chL K t) : x < 128 := by
  rcases join_mem hx with z | ⟨p, hp, z⟩
  · rw [List.mem_singleton.mp z]; exact (by decide)
  rcases List.mem_cons.mp hp with rfl | hp
  · exact (head_mem z).2
  · obtain ⟨r, _, rfl⟩ := List.mem_map.mp hp
    exact (rwC_mem z).2
theorem head_joined (K n : Nat) : TL.joinL [32] (headL K n) = [99, 104, 97, 114, 116, 32] ++ TL.numL K ++ [32] ++ TL.numL n := by
  show [99, 104, 97, 114, 116] ++ ([32] ++ (TL.numL K ++ ([32] ++ TL.numL n))) = _
  simp
theorem rowT {t : Tb} (h : Fit t) {r : List (Option Int)} (hr : r ∈ t) : joinT (" " : Str) (r.map fun e => SX.S (entL e)) = some (SX.S (rwC r)) := by
  have := h.row r hr
  have q := joinT_S (a := [32]) (ps := r.map entL) (b := 4) (fun p hp => by
    obtain ⟨e, he, rfl⟩ := List.mem_map.mp hp
    have := ent_len (e := e) fun v hv => h.val r hr v (hv ▸ he)
    simp only [List.length_cons, List.length_nil]
    omega) (by rw [List.length_map]; omega)
  rw [List.map_map] at q
  rw [lit_sp]
  exact q
theorem allT {K : Nat} {t : Tb} (h : Fit t) (hK : K ≤ 999) : joinT ("\n" : Str) (SX.S (TL.joinL [32] (headL K t.length)) :: t.map fun r => SX.S (rwC r)) = some (SX.S (chL K t)) := by
  have := h.len
  have q := joinT_S (a := [10]) (ps := TL.joinL [32] (headL K t.length) :: t.map rwC) (b := 21) (fun p hp => by
    simp only [List.length_cons, List.length_nil]
    rcases List.mem_cons.mp hp with rfl | hp
    · have := head_len hK h.len; omega
    · obtain ⟨r, hr, rfl⟩ := List.mem_map.mp hp
      have := rwC_len h hr; omega) (by rw [List.length_cons, List.length_map]; omega)
  rw [List.map_cons, List.map_map] at q
  rw [lit_nl]
  exact q
theorem ent_fmt {v : Int} (h : 0 ≤ v ∧ v ≤ 999) : fmtI v = some (SX.S (entL (some v))) := by
  have := fmt_S (n := v.toNat) (by omega)
  rwa [Int.toNat_of_nonneg h.1] at this
theorem written_b2 {e : Option Int} (h : ∀ v, e = some v → 0 ≤ v ∧ v ≤ 999) {s : List Str} (hs : s.length < LIM) : T_written_b2 s e = some (s ++ [SX.S (entL e)]) := by
  unfold T_written_b2
  cases e with
  | none =>
    rw [if_pos (show (none : Option Int).isNone = true from rfl), lit_mi]
    exact bind_eq (bind_eq (appT_of' hs) rfl) rfl
  | some v =>
    rw [if_neg (by simp)]
    exact bind_eq (bind_eq rfl (bind_eq (ent_fmt (h v rfl)) (bind_eq (appT_of' hs) rfl))) rfl
theorem written_ok {K : Nat} {t : Tb} {c : S_Chart} (h : Fit t) (hK : K ≤ 999) (h1 : c.kinds = K) (h2 : c.outs = t) : T_written c = some (SX.S (chL K t)) := by
  have hl := h.len
  have LE := LIM_eq
  have nK := num3 hK
  have nS := num3 hl
  unfold T_written
  refine bind_eq (x := (t.length : Int)) (by unfold T_Chart_size; rw [h2]) ?_
  rw [h1]
  refine bind_eq (fmt_S (n := K) (by omega)) (bind_eq (fmt_S (n := t.length) (by omega)) ?_)
  refine bind_eq (x := SX.S (TL.joinL [32] (headL K t.length))) ?_ ?_
  · rw [head_joined, lit_chart, lit_sp]
    unfold jsT jsG
    have e0 : (Str.empty ++ SX.S [99, 104, 97, 114, 116, 32]) = SX.S [99, 104, 97, 114, 116, 32] := by decide +kernel
    rw [e0, if_pos (by rw [SX.S_len]; simp only [List.length_cons, List.length_nil]; omega)]
    unfold jsG
    rw [SX.S_cat, if_pos (by rw [SX.S_len, List.length_append]; simp only [List.length_cons, List.length_nil]; omega)]
    unfold jsG
    rw [SX.S_cat, if_pos (by rw [SX.S_len, List.length_append, List.length_append]; simp only [List.length_cons, List.length_nil]; omega)]
    unfold jsG
    rw [SX.S_cat, if_pos (by rw [SX.S_len, List.length_append, List.length_append, List.length_append]; simp only [List.length_cons, List.length_nil]; omega)]
    rfl
  refine bind_eq (x := t) ?_ ?_
  · unfold T_Chart_table
    rw [h2]
    exact bind_eq (lcP_of (by omega)) (by simp)
  refine bind_eq (x := SX.S (TL.joinL [32] (headL K t.length)) :: t.map fun r => SX.S (rwC r)) ?_ (bind_eq (allT h hK) rfl)
  refine (forO_app (f := fun r => SX.S (rwC r)) (by simp only [List.length_cons, List.length_nil]; omega) fun s r hr hs => ?_).trans rfl
  unfold T_written_b1
  have := h.row r hr
  refine bind_eq (x := r.map fun e => SX.S (entL e)) ?_ (bind_eq (rowT h hr) (bind_eq (appT_of' hs) rfl))
  exact (forO_app (f := fun e => SX.S (entL e)) (by simp only [List.length_nil]; omega) fun s e he hs => written_b2 (fun v hv => h.val r hr v (hv ▸ he)) hs).trans rfl

theorem law_written {K : Nat} {t : Tb} (h : Fit t) (hK : K ≤ 999) : T_law_written K t = some (SX.S (chL K t)) := by
  have hl := h.len
  have LE := LIM_eq
  have nK := num3 hK
  have nS := num3 hl
  unfold T_law_written
  refine bind_eq (fmt_S (n := K) (by omega)) ?_
  rw [lit_chart]
  refine bind_eq (adsT_S (by simp only [List.length_cons, List.length_nil]; omega)) ?_
  have q := lit_sp
  refine bind_eq (x := SX.S ([99, 104, 97, 114, 116, 32] ++ TL.numL K ++ [32])) (by rw [q]; exact adsT_S (by simp only [List.length_append, List.length_cons, List.length_nil]; omega)) ?_
  refine bind_eq (fmt_S (n := t.length) (by omega)) ?_
  refine bind_eq (adsT_S (by simp only [List.length_append, List.length_cons, List.length_nil]; omega)) ?_
  rw [← head_joined]
  refine bind_eq (x := SX.S (TL.joinL [32] (headL K t.length)) :: t.map fun r => SX.S (rwC r)) ?_ (bind_eq (allT h hK) rfl)
  refine (forO_app (f := fun r => SX.S (rwC r)) (by simp only [List.length_cons, List.length_nil]; omega) fun s r hr hs => ?_).trans rfl
  unfold T_law_written_b1
  have := h.row r hr
  refine bind_eq (x := r.map fun e => SX.S (entL e)) ?_ (bind_eq (rowT h hr) (bind_eq (appT_of' hs) rfl))
  refine lcM_ok (by omega) fun e he => ?_
  cases e with
  | none => rw [if_pos (show (none : Option Int).isNone = true from rfl), lit_mi]; exact bind_eq rfl rfl
  | some v =>
    rw [if_neg (by simp)]
    exact bind_eq (bind_eq rfl (bind_eq (ent_fmt (h.val r hr v he)) rfl)) rfl

theorem figs : ("0123456789" : Str).cps.toList = [48, 49, 50, 51, 52, 53, 54, 55, 56, 57] := by decide +kernel
theorem fig_in {x : Nat} : decide (x ∈ (("0123456789" : Str) : Str).cps.toList) = decide (48 ≤ x ∧ x ≤ 57) := by
  rw [figs]
  refine decide_eq_decide.mpr ?_
  simp only [List.mem_cons, List.not_mem_nil, or_false]
  omega
theorem intS_num {n : Nat} (h : n ≤ 999) : intS (SX.S (TL.numL n)) = some (n : Int) := by
  have := num3 h
  unfold intS
  rw [if_pos (by rw [SX.S_len]; omega), ← SX.num_S]
  exact TL.int_num (by omega)

theorem lit_nil : (("" : Str)) = SX.S [] := by decide +kernel
theorem lit_0 : ("0" : Str) = SX.S [48] := by decide +kernel
theorem dn {p : Prop} [Decidable p] (h : ¬p) : ¬(decide p = true) := fun e => h (of_decide_eq_true e)
theorem sgn_S (x : Str) : x = SX.S (TL.tl x) := TL.ext_tl (TL.tl_mk _).symm
theorem S_inj {a b : List Nat} (h : SX.S a = SX.S b) : a = b := by
  have e2 := congrArg TL.tl h
  have e3 : TL.tl (SX.S a) = a := TL.tl_mk a
  have e4 : TL.tl (SX.S b) = b := TL.tl_mk b
  rw [e3, e4] at e2
  exact e2
theorem seq_S {a b : List Nat} (ha : ∀ x ∈ a, x < 128) (hb : ∀ x ∈ b, x < 128) : seqT (SX.S a) (SX.S b) = some (decide (a = b)) := by
  unfold seqT
  rw [if_pos ⟨strOk_S ha, strOk_S hb⟩]
  exact congrArg some (decide_eq_decide.mpr ⟨S_inj, congrArg _⟩)
theorem sne_S {a b : List Nat} (ha : ∀ x ∈ a, x < 128) (hb : ∀ x ∈ b, x < 128) : sneT (SX.S a) (SX.S b) = some (!decide (a = b)) := by
  unfold sneT
  rw [if_pos ⟨strOk_S ha, strOk_S hb⟩]
  exact congrArg some (congrArg not (decide_eq_decide.mpr ⟨S_inj, congrArg _⟩))
theorem num_dig {n c : Nat} (h : c ∈ TL.numL n) : 48 ≤ c ∧ c ≤ 57 := TL.numL_digits n c h
theorem num_head (n : Nat) : 10 ≤ n → (TL.numL n).head? ≠ some 48 := by
  induction n using Nat.strongRecOn with
  | _ n ih =>
    intro h
    rw [TL.numL_step h]
    by_cases q : n / 10 < 10
    · rw [TL.numL_lt q]
      intro e
      have := Option.some.inj e
      omega
    · have := ih (n / 10) (by omega) (by omega)
      cases e : TL.numL (n / 10) with
      | nil => exact absurd e (TL.numL_ne _)
      | cons x l =>
        rw [e] at this
        exact this
def numF (l : List Nat) : Bool := decide (1 ≤ l.length) && decide (l.length ≤ 3) && l.all (fun c => decide (48 ≤ c ∧ c ≤ 57)) && (decide (l.length = 1) || !decide (l.head? = some 48))
theorem numF_n {n : Nat} (h : n ≤ 999) : numF (TL.numL n) = true := by
  unfold numF
  have h1 : 1 ≤ (TL.numL n).length := List.length_pos_iff.mpr (TL.numL_ne n)
  have h2 : (TL.numL n).all (fun c => decide (48 ≤ c ∧ c ≤ 57)) = true := List.all_eq_true.mpr fun c hc => decide_eq_true (num_dig hc)
  rw [decide_eq_true h1, decide_eq_true (num3 h), h2]
  by_cases q : n < 10
  · rw [TL.numL_lt q]
    rfl
  · rw [decide_eq_false (num_head n (by omega))]
    simp
theorem numF_of {l : List Nat} (h : numF l = true) : ∃ n, n ≤ 999 ∧ l = TL.numL n := by
  unfold numF at h
  rw [Bool.and_eq_true, Bool.and_eq_true, Bool.and_eq_true, decide_eq_true_iff, decide_eq_true_iff] at h
  obtain ⟨⟨⟨h1, h2⟩, h3⟩, h4⟩ := h
  have hd : ∀ c ∈ l, 48 ≤ c ∧ c ≤ 57 := fun c hc => of_decide_eq_true (List.all_eq_true.mp h3 c hc)
  match l, h1, h2, hd, h4 with
  | [a], _, _, hd, _ =>
    have ha := hd a (by simp)
    refine ⟨a - 48, by omega, ?_⟩
    rw [TL.numL_lt (by omega)]
    congr 1
    omega
  | [a, b], _, _, hd, h4 =>
    have ha := hd a (by simp)
    have hb := hd b (by simp)
    have h0 : a ≠ 48 := by simpa using h4
    refine ⟨(a - 48) * 10 + (b - 48), by omega, ?_⟩
    rw [TL.numL_step (by omega), show ((a - 48) * 10 + (b - 48)) / 10 = a - 48 by omega, show ((a - 48) * 10 + (b - 48)) % 10 = b - 48 by omega, TL.numL_lt (by omega)]
    show [a, b] = [48 + (a - 48), 48 + (b - 48)]
    rw [show 48 + (a - 48) = a by omega, show 48 + (b - 48) = b by omega]
  | [a, b, c], _, _, hd, h4 =>
    have ha := hd a (by simp)
    have hb := hd b (by simp)
    have hc := hd c (by simp)
    have h0 : a ≠ 48 := by simpa using h4
    refine ⟨((a - 48) * 10 + (b - 48)) * 10 + (c - 48), by omega, ?_⟩
    rw [TL.numL_step (by omega), show (((a - 48) * 10 + (b - 48)) * 10 + (c - 48)) / 10 = (a - 48) * 10 + (b - 48) by omega, show (((a - 48) * 10 + (b - 48)) * 10 + (c - 48)) % 10 = c - 48 by omega,
      TL.numL_step (by omega), show ((a - 48) * 10 + (b - 48)) / 10 = a - 48 by omega, show ((a - 48) * 10 + (b - 48)) % 10 = b - 48 by omega, TL.numL_lt (by omega)]
    show [a, b, c] = [48 + (a - 48), 48 + (b - 48), 48 + (c - 48)]
    rw [show 48 + (a - 48) = a by omega, show 48 + (b - 48) = b by omega, show 48 + (c - 48) = c by omega]
structure Asc (l : List Nat) : Prop where
  asc : ∀ x ∈ l, x < 128
  len : l.length ≤ 900000
theorem Asc.lim {l : List Nat} (h : Asc l) : l.length ≤ LIM := by have := h.len; rw [LIM_eq]; omega
theorem Asc.num {n : Nat} (h : n ≤ 999) : Asc (TL.numL n) := ⟨fun x hx => by have := num_dig hx; omega, by have := num3 h; omega⟩
theorem lenS_S {l : List Nat} (h : Asc l) : lenS (SX.S l) = some (l.length : Int) := by
  unfold lenS
  rw [SX.S_len, if_pos h.lim]
theorem ix0_S {c : Nat} {l : List Nat} (h : Asc (c :: l)) : ixS (SX.S (c :: l)) 0 = some (SX.S [c]) := by
  unfold ixS
  rw [if_pos (by rw [SX.S_len]; exact h.lim)]
  have e : atI (c :: l) 0 = some c := atI_of (ixN_nn (by omega) (by simp)) rfl
  show (atI (c :: l) 0).map _ = _
  rw [e]
  rfl
theorem num_inj {m n : Nat} (hm : m ≤ 999) (hn : n ≤ 999) (e : TL.numL m = TL.numL n) : m = n := by
  have h1 := intS_num hm
  rw [e, intS_num hn] at h1
  have := Option.some.inj h1
  omega
open Classical in
noncomputable def numO (l : List Nat) : Option Int := if h : numF l = true then some ((numF_of h).choose : Int) else none
theorem numO_n {n : Nat} (h : n ≤ 999) : numO (TL.numL n) = some (n : Int) := by
  have hF := numF_n h
  unfold numO
  rw [dif_pos hF]
  obtain ⟨h1, h2⟩ := (numF_of hF).choose_spec
  exact congrArg (fun k : Nat => some (k : Int)) (num_inj h1 h h2.symm)
theorem numO_some {l : List Nat} {v : Int} (h : numO l = some v) : ∃ n : Nat, n ≤ 999 ∧ v = n ∧ l = TL.numL n := by
  unfold numO at h
  split at h
  · rename_i hF
    obtain ⟨h1, h2⟩ := (numF_of hF).choose_spec
    exact ⟨_, h1, (Option.some.inj h).symm, h2⟩
  · cases h
theorem number_S {l : List Nat} (h : Asc l) : T_law_number (SX.S l) = some (numO l) := by
  by_cases hF : numF l = true
  · obtain ⟨n, hn, rfl⟩ := numF_of hF
    rw [numO_n hn]
    unfold T_law_number
    have hs : seqT (SX.S (TL.numL n)) ("" : Str) = some (decide (TL.numL n = [])) := by
      rw [lit_nil]
      exact seq_S h.asc (fun x hx => nomatch hx)
    refine bind_eq hs ?_
    rw [if_neg (dn (TL.numL_ne n))]
    have hl := lenS_S h
    have h3 := num3 hn
    refine bind_eq (x := false) ?_ ?_
    · refine bind_eq hl (bind_eq ?_ rfl)
      rw [if_neg (dn (by omega))]
      refine bind_eq hl (bind_eq ?_ rfl)
      by_cases y : 1 < (TL.numL n).length
      · rw [if_pos (decide_eq_true (by omega))]
        have h10 : 10 ≤ n := by
          refine Nat.le_of_not_lt fun q => ?_
          rw [TL.numL_lt q] at y
          exact absurd y (by simp)
        have hh := num_head n h10
        cases e : TL.numL n with
        | nil => exact absurd e (TL.numL_ne n)
        | cons c l =>
          rw [e] at h hh
          have hc0 : seqT (SX.S [c]) ("0" : Str) = some (decide (c = 48)) := by
            rw [lit_0, seq_S (fun x hx => by rw [List.mem_singleton.mp hx]; exact h.asc c List.mem_cons_self) (by decide)]
            simp
          exact bind_eq (ix0_S h) (bind_eq hc0 (congrArg some (decide_eq_false fun z => hh (by rw [z]; rfl))))
      · rw [if_neg (dn (by omega))]
    rw [if_neg (by decide)]
    have key : forC T_law_number_b1 (SX.S (TL.numL n)).cps.toList () = some (.inl ()) := by
      refine (forC_all (p := fun c => decide (48 ≤ c ∧ c ≤ 57)) (w := none) fun c hc => ?_).trans ?_
      · unfold T_law_number_b1
        rw [fig_in]
        by_cases z : 48 ≤ c ∧ c ≤ 57
        · rw [decide_eq_true z]; rfl
        · rw [decide_eq_false z]; rfl
      · rw [if_pos (List.all_eq_true.mpr fun c hc => decide_eq_true (num_dig hc))]
    rw [key]
    show (intS (SX.S (TL.numL n))).bind _ = _
    exact bind_eq (intS_num hn) rfl
  · have e0 : numO l = none := by unfold numO; rw [dif_neg hF]
    rw [e0]
    unfold T_law_number
    have hs : seqT (SX.S l) ("" : Str) = some (decide (l = [])) := by
      rw [lit_nil]
      exact seq_S h.asc (fun x hx => nomatch hx)
    refine bind_eq hs ?_
    cases l with
    | nil =>
      rw [if_pos (decide_eq_true rfl)]
      rfl
    | cons c l =>
      rw [if_neg (dn (by simp))]
      have hc0 : seqT (SX.S [c]) ("0" : Str) = some (decide (c = 48)) := by
        rw [lit_0, seq_S (fun x hx => by rw [List.mem_singleton.mp hx]; exact h.asc c List.mem_cons_self) (by decide)]
        simp
      have hl := lenS_S h
      refine bind_eq (x := decide (3 < (c :: l).length) || (decide (1 < (c :: l).length) && decide (c = 48))) ?_ ?_
      · refine bind_eq hl (bind_eq ?_ rfl)
        by_cases q : 3 < (c :: l).length
        · rw [if_pos (decide_eq_true (by omega)), decide_eq_true q]
          rfl
        · rw [if_neg (dn (by omega)), decide_eq_false q]
          refine bind_eq hl (bind_eq ?_ rfl)
          by_cases y : 1 < (c :: l).length
          · rw [if_pos (decide_eq_true (by omega)), decide_eq_true y]
            exact bind_eq (ix0_S h) (bind_eq hc0 (by simp))
          · rw [if_neg (dn (by omega)), decide_eq_false y]
            rfl
      have key : forC T_law_number_b1 (SX.S (c :: l)).cps.toList () = some (if (c :: l).all (fun c => decide (48 ≤ c ∧ c ≤ 57)) = true then .inl () else .inr none) := by
        refine forC_all (p := fun c => decide (48 ≤ c ∧ c ≤ 57)) fun c hc => ?_
        unfold T_law_number_b1
        rw [fig_in]
        by_cases z : 48 ≤ c ∧ c ≤ 57
        · rw [decide_eq_true z]; rfl
        · rw [decide_eq_false z]; rfl
      by_cases z : (decide (3 < (c :: l).length) || (decide (1 < (c :: l).length) && decide (c = 48))) = true
      · rw [if_pos z]
      · rw [if_neg z, key]
        by_cases a : (c :: l).all (fun c => decide (48 ≤ c ∧ c ≤ 57)) = true
        · exfalso
          refine hF ?_
          rw [Bool.not_eq_true, Bool.or_eq_false_iff, decide_eq_false_iff_not, Bool.and_eq_false_iff, decide_eq_false_iff_not, decide_eq_false_iff_not] at z
          unfold numF
          have e1 : decide (1 ≤ (c :: l).length) = true := decide_eq_true (by simp)
          have e3 : decide ((c :: l).head? = some 48) = decide (c = 48) := decide_eq_decide.mpr (by simp)
          rw [e1, a, decide_eq_true (show (c :: l).length ≤ 3 by omega), e3]
          rcases z.2 with y | y
          · rw [decide_eq_true (show (c :: l).length = 1 by simp at y ⊢; omega)]
            rfl
          · rw [decide_eq_false y]
            simp
        · rw [if_neg a]
          rfl
theorem int_1 : ∀ a, a < 10 → (intS (SX.S [48 + a])).isSome = true := by decide +kernel
theorem int_2 : ∀ a, a < 10 → ∀ b, b < 10 → (intS (SX.S [48 + a, 48 + b])).isSome = true := by decide +kernel
theorem int_3 : ∀ a, a < 10 → ∀ b, b < 10 → ∀ c, c < 10 → (intS (SX.S [48 + a, 48 + b, 48 + c])).isSome = true := by decide +kernel
theorem int_any {l : List Nat} (h1 : 1 ≤ l.length) (h3 : l.length ≤ 3) (hd : ∀ c ∈ l, 48 ≤ c ∧ c ≤ 57) : ∃ v, intS (SX.S l) = some v := by
  refine Option.isSome_iff_exists.mp ?_
  match l, h1, h3, hd with
  | [a], _, _, hd =>
    have ha := hd a (by simp)
    have := int_1 (a - 48) (by omega)
    rwa [show 48 + (a - 48) = a by omega] at this
  | [a, b], _, _, hd =>
    have ha := hd a (by simp)
    have hb := hd b (by simp)
    have := int_2 (a - 48) (by omega) (b - 48) (by omega)
    rwa [show 48 + (a - 48) = a by omega, show 48 + (b - 48) = b by omega] at this
  | [a, b, c], _, _, hd =>
    have ha := hd a (by simp)
    have hb := hd b (by simp)
    have hc := hd c (by simp)
    have := int_3 (a - 48) (by omega) (b - 48) (by omega) (c - 48) (by omega)
    rwa [show 48 + (a - 48) = a by omega, show 48 + (b - 48) = b by omega, show 48 + (c - 48) = c by omega] at this
theorem count_key (l : List Nat) : forC T_count_of_b1 (SX.S l).cps.toList () = some (if l.all (fun c => decide (48 ≤ c ∧ c ≤ 57)) = true then .inl () else .inr (.error "NoChart", ())) := by
  refine forC_all (p := fun c => decide (48 ≤ c ∧ c ≤ 57)) fun c hc => ?_
  unfold T_count_of_b1
  rw [fig_in]
  by_cases z : 48 ≤ c ∧ c ≤ 57
  · rw [decide_eq_true z]; rfl
  · rw [decide_eq_false z]; rfl
theorem count_go {l : List Nat} (h : Asc l) (h1 : 1 ≤ l.length) (h3 : l.length ≤ 3) (hd : l.all (fun c => decide (48 ≤ c ∧ c ≤ 57)) = true) {v : Int} (hv : intS (SX.S l) = some v) : T_count_of (SX.S l) = some (.ok v, ()) := by
  have hl := lenS_S h
  unfold T_count_of
  refine bind_eq hl ?_
  refine bind_eq (x := false) ?_ ?_
  · rw [if_neg (dn (by omega))]
    exact bind_eq hl (congrArg some (decide_eq_false (by omega)))
  rw [if_neg (by decide), count_key, if_pos hd]
  show (intS (SX.S l)).bind _ = _
  exact bind_eq hv rfl
theorem count_any {l : List Nat} (h : Asc l) : T_count_of (SX.S l) = some (.error "NoChart", ()) ∨ ∃ v, T_count_of (SX.S l) = some (.ok v, ()) := by
  have hl := lenS_S h
  by_cases q : 1 ≤ l.length ∧ l.length ≤ 3
  · by_cases a : l.all (fun c => decide (48 ≤ c ∧ c ≤ 57)) = true
    · obtain ⟨v, hv⟩ := int_any q.1 q.2 fun c hc => of_decide_eq_true (List.all_eq_true.mp a c hc)
      exact .inr ⟨v, count_go h q.1 q.2 a hv⟩
    · refine .inl ?_
      unfold T_count_of
      refine bind_eq hl ?_
      refine bind_eq (x := false) ?_ ?_
      · rw [if_neg (dn (by omega))]
        exact bind_eq hl (congrArg some (decide_eq_false (by omega)))
      rw [if_neg (by decide), count_key, if_neg a]
      rfl
  · refine .inl ?_
    unfold T_count_of
    refine bind_eq hl ?_
    refine bind_eq (x := true) ?_ rfl
    by_cases z : (l.length : Int) < 1
    · rw [if_pos (decide_eq_true z)]
    · rw [if_neg (dn z)]
      exact bind_eq hl (congrArg some (decide_eq_true (by omega)))
theorem count_n {n : Nat} (h : n ≤ 999) : T_count_of (SX.S (TL.numL n)) = some (.ok (n : Int), ()) :=
  count_go (Asc.num h) (List.length_pos_iff.mpr (TL.numL_ne n)) (num3 h) (List.all_eq_true.mpr fun c hc => decide_eq_true (num_dig hc)) (intS_num h)
theorem mi_S {l : List Nat} (h : Asc l) : seqT (SX.S l) ("-" : Str) = some (decide (l = [45])) := by
  rw [lit_mi]
  exact seq_S h.asc (by decide)
theorem entry_any {l : List Nat} (h : Asc l) : T_entry_of (SX.S l) = some (.error "NoChart", ()) ∨ ∃ v, T_entry_of (SX.S l) = some (.ok v, ()) := by
  by_cases q : l = [45]
  · refine .inr ⟨none, ?_⟩
    unfold T_entry_of
    refine bind_eq (mi_S h) ?_
    rw [if_pos (decide_eq_true q)]
  · rcases count_any h with e | ⟨v, e⟩
    · refine .inl ?_
      unfold T_entry_of
      refine bind_eq (mi_S h) ?_
      rw [if_neg (dn q)]
      exact bind_eq e rfl
    · refine .inr ⟨some v, ?_⟩
      unfold T_entry_of
      refine bind_eq (mi_S h) ?_
      rw [if_neg (dn q)]
      exact bind_eq e rfl
theorem Asc.ent {e : Option Int} (h : ∀ v, e = some v → 0 ≤ v ∧ v ≤ 999) : Asc (entL e) := ⟨fun x hx => by have := ent_dig hx; omega, by have := ent_len h; omega⟩
theorem entry_e {e : Option Int} (h : ∀ v, e = some v → 0 ≤ v ∧ v ≤ 999) : T_entry_of (SX.S (entL e)) = some (.ok e, ()) := by
  have hA := Asc.ent h
  unfold T_entry_of
  refine bind_eq (mi_S hA) ?_
  cases e with
  | none => rw [if_pos (show decide (entL none = [45]) = true from decide_eq_true rfl)]
  | some v =>
    obtain ⟨n, rfl⟩ : ∃ n : Nat, v = n := ⟨v.toNat, by have := h v rfl; omega⟩
    have hn := h n rfl
    have e1 : entL (some (n : Int)) = TL.numL n := rfl
    rw [e1] at hA ⊢
    rw [if_neg (dn fun q => by have := num_dig (n := n) (c := 45) (by rw [q]; simp); omega)]
    exact bind_eq (count_n (by omega)) rfl

theorem spl_all (s : Nat) : ∀ (l acc : List Nat) (n : Nat), (∀ c ∈ acc, c < 128) → (∀ c ∈ l, c < 128) → acc.length + l.length ≤ n → (TL.spl [s] 0 acc l ≠ [] ∧ (TL.spl [s] 0 acc l).length ≤ l.length + 1 ∧ (∀ p ∈ TL.spl [s] 0 acc l, (∀ c ∈ p, c < 128) ∧ p.length ≤ n) ∧ TL.joinL [s] (TL.spl [s] 0 acc l) = acc ++ l)
  | [], acc, n, h1, _, h3 => by
    rw [TL.spl_nil]
    refine ⟨by simp, by simp, fun p hp => ?_, ?_⟩
    · rw [List.mem_singleton.mp hp]
      exact ⟨h1, by simp at h3; omega⟩
    · show acc = acc ++ []
      simp
  | c :: l, acc, n, h1, h2, h3 => by
    rw [List.length_cons] at h3
    have hl : ∀ d ∈ l, d < 128 := fun d hd => h2 d (List.mem_cons_of_mem _ hd)
    cases q : TL.pre [s] (c :: l) with
    | true =>
      have hc : c = s := by
        have q2 : ([c] == [s]) = true := q
        exact (List.cons.inj (eq_of_beq q2)).1
      rw [TL.spl_hit q]
      obtain ⟨a1, a2, a3, a4⟩ := spl_all s l [] n (fun _ h => nomatch h) hl (by simp; omega)
      show (acc :: TL.spl [s] 0 [] l) ≠ [] ∧ (acc :: TL.spl [s] 0 [] l).length ≤ _ ∧ (∀ p ∈ acc :: TL.spl [s] 0 [] l, _) ∧ TL.joinL [s] (acc :: TL.spl [s] 0 [] l) = _
      refine ⟨by simp, ?_, fun p hp => ?_, ?_⟩
      · rw [List.length_cons, List.length_cons]
        omega
      · rcases List.mem_cons.mp hp with rfl | hp
        · exact ⟨h1, by omega⟩
        · exact a3 p hp
      · generalize TL.spl [s] 0 [] l = ps at a1 a4
        cases ps with
        | nil => exact absurd rfl a1
        | cons p r =>
          show acc ++ ([s] ++ TL.joinL [s] (p :: r)) = _
          rw [a4, hc]
          rfl
    | false =>
      rw [TL.spl_miss q]
      obtain ⟨a1, a2, a3, a4⟩ := spl_all s l (acc ++ [c]) n (fun d hd => by
        rcases List.mem_append.mp hd with z | z
        · exact h1 d z
        · rw [List.mem_singleton.mp z]; exact h2 c List.mem_cons_self) hl (by simp; omega)
      exact ⟨a1, by rw [List.length_cons]; omega, a3, by rw [a4]; simp⟩
theorem asc_of {p : List Nat} {n : Nat} (h : (∀ x ∈ p, x < 128) ∧ p.length ≤ n) (hn : n ≤ 30000) : Asc p := ⟨h.1, by omega⟩
noncomputable def entO (S : Int) (p : List Nat) : Option (Option Int) := if p = [45] then some none else match numO p with
  | some v => if v < S then some (some v) else none
  | none => none
noncomputable def lineO (S : Int) : List (List Nat) → Option (List (Option Int))
  | [] => some []
  | p :: ps => match entO S p with
    | some e => (lineO S ps).map (e :: ·)
    | none => none
theorem numO_mi : numO [45] = none := by
  unfold numO
  rw [dif_neg (by decide)]
theorem entO_some {S : Int} {p : List Nat} {e : Option Int} (h : entO S p = some e) : p = entL e ∧ ∀ v, e = some v → 0 ≤ v ∧ v ≤ 999 ∧ v < S := by
  unfold entO at h
  split at h
  · rename_i q
    cases h
    exact ⟨q, fun v e => nomatch e⟩
  · split at h
    · rename_i v hv
      split at h
      · rename_i hs
        cases h
        obtain ⟨n, h1, rfl, h2⟩ := numO_some hv
        exact ⟨h2, fun v e => by cases e; omega⟩
      · cases h
    · cases h
theorem entO_e {S : Int} {e : Option Int} (h : ∀ v, e = some v → 0 ≤ v ∧ v ≤ 999 ∧ v < S) : entO S (entL e) = some e := by
  cases e with
  | none => exact if_pos rfl
  | some v =>
    obtain ⟨n, rfl⟩ : ∃ n : Nat, v = n := ⟨v.toNat, by have := h v rfl; omega⟩
    have hn := h n rfl
    have e1 : entL (some (n : Int)) = TL.numL n := rfl
    rw [e1]
    unfold entO
    rw [if_neg (fun q => by have := num_dig (n := n) (c := 45) (by rw [q]; simp); omega), numO_n (by omega)]
    exact if_pos hn.2.2
theorem lineO_some {S : Int} : ∀ {ps : List (List Nat)} {r : List (Option Int)}, lineO S ps = some r → ps = r.map entL ∧ ∀ v, some v ∈ r → 0 ≤ v ∧ v ≤ 999 ∧ v < S
  | [], r, h => by cases h; exact ⟨rfl, fun v h => nomatch h⟩
  | p :: ps, r, h => by
    unfold lineO at h
    split at h
    · rename_i e he
      obtain ⟨r', h1, rfl⟩ := Option.map_eq_some_iff.mp h
      obtain ⟨a1, a2⟩ := entO_some he
      obtain ⟨b1, b2⟩ := lineO_some h1
      refine ⟨by rw [List.map_cons, ← a1, ← b1], fun v hv => ?_⟩
      rcases List.mem_cons.mp hv with z | z
      · exact a2 v z.symm
      · exact b2 v z
    · cases h
theorem lineO_e {S : Int} : ∀ {r : List (Option Int)}, (∀ v, some v ∈ r → 0 ≤ v ∧ v ≤ 999 ∧ v < S) → lineO S (r.map entL) = some r
  | [], _ => rfl
  | e :: r, h => by
    show (match entO S (entL e) with | some e => (lineO S (r.map entL)).map (e :: ·) | none => none) = _
    rw [entO_e fun v hv => h v (by rw [← hv]; exact List.mem_cons_self), lineO_e fun v hv => h v (List.mem_cons_of_mem _ hv)]
    rfl
theorem b1_line {S : Int} {s : List (Option Int)} {p : List Nat} (hp : Asc p) (hs : s.length < LIM) : T_law_line_b1 S s (SX.S p) = some (match entO S p with | some e => .inl (s ++ [e]) | none => .inr none) := by
  unfold T_law_line_b1
  have hm : sneT (SX.S p) ("-" : Str) = some (!decide (p = [45])) := by
    rw [lit_mi]
    exact sne_S hp.asc (by decide)
  refine bind_eq (number_S hp) (bind_eq hm ?_)
  unfold entO
  by_cases q : p = [45]
  · rw [decide_eq_true q, if_pos q, q, numO_mi]
    exact bind_eq rfl (bind_eq (appT_of' hs) rfl)
  · rw [decide_eq_false q, if_neg q]
    cases e : numO p with
    | none => rfl
    | some v =>
      by_cases z : v < S
      · refine bind_eq (x := false) (bind_eq (bind_eq rfl (congrArg some (decide_eq_false (by omega)))) rfl) ?_
        rw [if_neg (by decide)]
        dsimp only
        rw [if_pos z]
        exact bind_eq (appT_of' hs) rfl
      · refine bind_eq (x := true) (bind_eq (bind_eq rfl (congrArg some (decide_eq_true (by omega)))) rfl) ?_
        rw [if_pos rfl]
        dsimp only
        rw [if_neg z]
theorem line_loop {S : Int} : ∀ (ps : List (List Nat)) (s : List (Option Int)), (∀ p ∈ ps, Asc p) → s.length + ps.length ≤ LIM → forC (T_law_line_b1 S) (ps.map SX.S) s = some (match lineO S ps with | some r => .inl (s ++ r) | none => .inr none)
  | [], s, _, _ => by
    show some (Sum.inl s) = some (.inl (s ++ []))
    rw [List.append_nil]
  | p :: ps, s, hp, hs => by
    rw [List.length_cons] at hs
    have h1 := b1_line (S := S) (s := s) (hp p List.mem_cons_self) (by omega)
    show forC (T_law_line_b1 S) (SX.S p :: ps.map SX.S) s = _
    unfold lineO
    cases e : entO S p with
    | none =>
      rw [e] at h1
      exact bind_eq h1 rfl
    | some x =>
      rw [e] at h1
      have h2 := line_loop (S := S) ps (s ++ [x]) (fun q hq => hp q (List.mem_cons_of_mem _ hq)) (by rw [List.length_append]; simp; omega)
      refine bind_eq h1 (h2.trans ?_)
      show some (match lineO S ps with | some r => Sum.inl ((s ++ [x]) ++ r) | none => Sum.inr none) = some (match (lineO S ps).map (x :: ·) with | some r => .inl (s ++ r) | none => .inr none)
      cases lineO S ps with
      | none => rfl
      | some r => simp

noncomputable def lineF (K : Nat) (S : Int) (l : List Nat) : Option (List (Option Int)) := match lineO S (TL.spl [32] 0 [] l) with
  | some r => if r.length = K then some r else none
  | none => none
theorem lineF_some {K : Nat} {S : Int} {l : List Nat} (h : ∀ x ∈ l, x < 128) {r : List (Option Int)} (e : lineF K S l = some r) : r.length = K ∧ l = rwC r ∧ ∀ v, some v ∈ r → 0 ≤ v ∧ v ≤ 999 ∧ v < S := by
  unfold lineF at e
  split at e
  · rename_i r' hr
    split at e
    · rename_i hk
      cases e
      obtain ⟨h1, h2⟩ := lineO_some hr
      refine ⟨hk, ?_, h2⟩
      have := (spl_all 32 l [] l.length (fun _ h => nomatch h) h (by simp)).2.2.2
      rw [h1] at this
      exact this.symm
    · cases e
  · cases e
theorem ent_sp {e : Option Int} : 32 ∉ entL e := fun h => by have := ent_dig h; omega
theorem lineF_e {K : Nat} {S : Int} {r : List (Option Int)} (hk : r.length = K) (h1 : 1 ≤ K) (h : ∀ v, some v ∈ r → 0 ≤ v ∧ v ≤ 999 ∧ v < S) : lineF K S (rwC r) = some r := by
  have e : TL.spl [32] 0 [] (rwC r) = r.map entL := TL.spl_join (by intro q; rw [List.map_eq_nil_iff] at q; rw [q] at hk; simp at hk; omega) fun p hp => by
    obtain ⟨x, _, rfl⟩ := List.mem_map.mp hp
    exact ent_sp
  unfold lineF
  rw [e, lineO_e h]
  exact if_pos hk
theorem law_line {K : Nat} {S : Int} {l : List Nat} (h : ∀ x ∈ l, x < 128) (hl : l.length ≤ 900) : T_law_line (SX.S l) K S = some (lineF K S l) := by
  obtain ⟨a1, a2, a3, _⟩ := spl_all 32 l [] 900 (fun _ h => nomatch h) h (by simpa using hl)
  unfold T_law_line
  rw [lit_sp]
  refine bind_eq (splT_S (by decide) (by rw [LIM_eq]; omega)) ?_
  unfold lineF
  rw [line_loop _ [] (fun p hp => asc_of (a3 p hp) (by omega)) (by rw [LIM_eq]; simp; omega)]
  cases lineO S (TL.spl [32] 0 [] l) with
  | none => rfl
  | some r =>
    show (if (!decide (((([] : List (Option Int)) ++ r).length : Int) = (K : Int))) = true then some none else some (some ([] ++ r))) = some (if r.length = K then some r else none)
    rw [List.nil_append]
    by_cases q : r.length = K
    · rw [if_pos q, if_neg (by simp [q])]
    · rw [if_neg q, if_pos (by simp; omega)]
theorem lcM_S {β : Type} {Y : Str → Option β} {f : List Nat → β} {ps : List (List Nat)} (hl : ps.length ≤ 900000) (h : ∀ p ∈ ps, Y (SX.S p) = some (f p)) : lcM Y (ps.map SX.S) = some (ps.map f) := by
  have LE := LIM_eq
  unfold lcM
  rw [if_pos (by rw [List.length_map]; omega)]
  clear hl
  induction ps with
  | nil => rfl
  | cons p ps ih =>
    show mapO Y (SX.S p :: ps.map SX.S) = _
    unfold mapO
    exact bind_eq (h p List.mem_cons_self) (bind_eq (ih fun q hq => h q (List.mem_cons_of_mem _ hq)) rfl)
theorem all_some {α : Type} : ∀ {l : List (Option α)}, none ∉ l → ∃ t : List α, l = t.map some
  | [], _ => ⟨[], rfl⟩
  | none :: l, h => absurd List.mem_cons_self h
  | some x :: l, h => by
    obtain ⟨t, rfl⟩ := all_some (l := l) fun z => h (List.mem_cons_of_mem _ z)
    exact ⟨x :: t, rfl⟩
theorem rows_of {K : Nat} {S : Int} : ∀ {tl : List (List Nat)} {t : Tb}, (∀ p ∈ tl, ∀ x ∈ p, x < 128) → tl.map (lineF K S) = t.map some → tl = t.map rwC ∧ ∀ r ∈ t, r.length = K ∧ ∀ v, some v ∈ r → 0 ≤ v ∧ v ≤ 999 ∧ v < S
  | [], [], _, _ => ⟨rfl, fun _ h => nomatch h⟩
  | p :: tl, r :: t, h, e => by
    rw [List.map_cons, List.map_cons, List.cons.injEq] at e
    obtain ⟨a1, a2, a3⟩ := lineF_some (h p List.mem_cons_self) e.1
    obtain ⟨b1, b2⟩ := rows_of (fun q hq => h q (List.mem_cons_of_mem _ hq)) e.2
    refine ⟨by rw [List.map_cons, ← a2, ← b1], fun x hx => ?_⟩
    rcases List.mem_cons.mp hx with rfl | hx
    · exact ⟨a1, a3⟩
    · exact b2 x hx
def ch5 : List Nat := [99, 104, 97, 114, 116]
structure Canon (l : List Nat) (K S : Nat) (t : Tb) : Prop where
  tab : Tab K S t
  k : 1 ≤ K ∧ K ≤ 5
  s : 1 ≤ S ∧ S ≤ 700
  eq : l = chL K t
theorem Canon.vals {l : List Nat} {K S : Nat} {t : Tb} (h : Canon l K S t) {r : List (Option Int)} (hr : r ∈ t) : r.length = K ∧ ∀ v, some v ∈ r → 0 ≤ v ∧ v ≤ 999 ∧ v < (S : Int) := by
  have := h.s
  exact ⟨h.tab.row r hr, fun v hv => by have := h.tab.mem hr hv; omega⟩
theorem Canon.lines {l : List Nat} {K S : Nat} {t : Tb} (h : Canon l K S t) : TL.spl [10] 0 [] l = TL.joinL [32] (headL K S) :: t.map rwC := by
  rw [h.eq]
  have e : chL K t = TL.joinL [10] (TL.joinL [32] (headL K S) :: t.map rwC) := by unfold chL; rw [h.tab.len]
  rw [e]
  refine TL.spl_join (by simp) fun p hp => ?_
  rcases List.mem_cons.mp hp with rfl | hp
  · exact fun z => by have := head_mem z; omega
  · obtain ⟨r, _, rfl⟩ := List.mem_map.mp hp
    exact fun z => by have := rwC_mem z; omega
theorem head_split (K S : Nat) : TL.spl [32] 0 [] (TL.joinL [32] (headL K S)) = headL K S := by
  refine TL.spl_join (by simp [headL]) fun p hp z => ?_
  rcases List.mem_cons.mp hp with rfl | hp
  · exact absurd z (by decide)
  rcases List.mem_cons.mp hp with rfl | hp
  · have := TL.numL_digits _ _ z; omega
  · rw [List.mem_singleton.mp hp] at z
    have := TL.numL_digits _ _ z; omega
theorem Canon.rows {l : List Nat} {K S : Nat} {t : Tb} (h : Canon l K S t) : (t.map rwC).map (lineF K S) = t.map some := by
  rw [List.map_map]
  exact List.map_congr_left fun r hr => lineF_e (h.vals hr).1 h.k.1 (h.vals hr).2
theorem len3 {α : Type} {l : List α} (h : l.length = 3) : ∃ a b c, l = [a, b, c] := by
  match l, h with
  | [a, b, c], _ => exact ⟨a, b, c, rfl⟩
theorem read_b1 {t : Tb} {K : Nat} (hr : ∀ r ∈ t, r.length = K) (hl : t.length ≤ 1000) {n : Nat} (hn : n < K) : T_law_read_b1 (t.map some) () (n : Int) = some (if (decide (colL t n).Nodup) = true then .inl () else .inr none) := by
  unfold T_law_read_b1
  have key : lcT (fun c38 : (Option (List (Option Int))) => ((c38).bind fun x39 => (ixT x39 (n : Int)).bind fun x40 => some x40.isSome)) (fun c38 : (Option (List (Option Int))) => ((c38).bind fun x41 => (ixT x41 (n : Int)).bind fun x42 => (x42).bind fun x43 => some x43)) (t.map some) = some (((t.map some).filter fun o : Option (List (Option Int)) => (((o.getD [])[n]?).join).isSome).map fun o => (((o.getD [])[n]?).join).getD 0) := lcT_ok (by rw [List.length_map, LIM_eq]; omega) fun o ho => by
    obtain ⟨r, hr', rfl⟩ := List.mem_map.mp ho
    have hrl := hr r hr'
    have i1 : ixT r (n : Int) = some ((r[n]?).join) := by
      refine (ixT_lt (by omega) (by rw [Int.toNat_natCast]; omega)).trans ?_
      simp only [Int.toNat_natCast]
      rw [List.getElem?_eq_getElem (by omega)]
      rfl
    refine ⟨bind_eq rfl (bind_eq i1 rfl), fun q => bind_eq rfl (bind_eq i1 ?_)⟩
    obtain ⟨v, hv⟩ := Option.isSome_iff_exists.mp q
    have hv : (r[n]?).join = some v := hv
    show ((r[n]?).join).bind _ = some (((r[n]?).join).getD 0)
    rw [hv]
    rfl
  have e : ((t.map some).filter fun o : Option (List (Option Int)) => (((o.getD [])[n]?).join).isSome).map (fun o => (((o.getD [])[n]?).join).getD 0) = colL t n := by
    unfold colL
    rw [List.filter_map, List.map_map]
    rfl
  rw [e] at key
  refine bind_eq key ?_
  have hcl : (colL t n).length ≤ 1000 := by
    unfold colL
    rw [List.length_map]
    exact Nat.le_trans (List.length_filter_le _ _) hl
  refine bind_eq (lenSetT_of (by omega)) ?_
  by_cases q : (colL t n).Nodup
  · rw [if_neg (by simp [(ddp_nodup _).mpr q]), if_pos (decide_eq_true q)]
  · rw [if_pos (by simp; exact fun e => q ((ddp_nodup _).mp (by omega))), if_neg (by simp [q])]

def chO (r : Option (List (Option (List (Option Int))))) (l : List Nat) : Prop := match r with
  | none => ∀ K S t, ¬Canon l K S t
  | some t' => ∃ K S t, Canon l K S t ∧ t' = t.map some
theorem rows_inj {K S : Nat} {t t' : Tb} (h : (t.map rwC).map (lineF K S) = t.map some) (h' : (t.map rwC).map (lineF K S) = t'.map some) : t = t' := by
  rw [h] at h'
  exact List.map_inj_right (fun _ _ e => Option.some.inj e) |>.mp h'
theorem read_law {l : List Nat} (h : ∀ x ∈ l, x < 128) (hl : l.length ≤ 690) : ∃ r, T_law_read (SX.S l) = some r ∧ chO r l := by
  obtain ⟨a1, a2, a3, a4⟩ := spl_all 10 l [] 690 (fun _ h => nomatch h) h (by simpa using hl)
  have hsp : splT (SX.S l) (SX.S [10]) = some ((TL.spl [10] 0 [] l).map SX.S) := splT_S (by decide) (by rw [LIM_eq]; omega)
  have hcan : ∀ {K S : Nat} {t : Tb}, Canon l K S t → TL.spl [10] 0 [] l = TL.joinL [32] (headL K S) :: t.map rwC := fun c => c.lines
  generalize TL.spl [10] 0 [] l = ls at *
  cases ls with
  | nil => exact absurd rfl a1
  | cons hd tl =>
    have hhd := a3 hd List.mem_cons_self
    obtain ⟨b1, b2, b3, b4⟩ := spl_all 32 hd [] 690 (fun _ h => nomatch h) hhd.1 (by simpa using hhd.2)
    have hsp2 : splT (SX.S hd) (SX.S [32]) = some ((TL.spl [32] 0 [] hd).map SX.S) := splT_S (by decide) (by rw [LIM_eq]; omega)
    have hcan2 : ∀ {K S : Nat} {t : Tb}, Canon l K S t → TL.spl [32] 0 [] hd = headL K S ∧ tl = t.map rwC := fun c => by
      have := hcan c
      rw [List.cons.injEq] at this
      rw [this.1]
      exact ⟨head_split _ _, this.2⟩
    generalize TL.spl [32] 0 [] hd = hw at *
    unfold T_law_read
    rw [lit_nl, lit_sp]
    by_cases q : ∃ b c, hw = [ch5, b, c]
    · obtain ⟨b, c, rfl⟩ := q
      have hb := b3 b (by simp)
      have hc := b3 c (by simp)
      have ca : ∀ x ∈ ch5, x < 128 := by decide
      -- the numbers of the head
      by_cases P : ∃ K n : Nat, numO b = some (K : Int) ∧ numO c = some (n : Int) ∧ 1 ≤ K ∧ K ≤ 5 ∧ 1 ≤ n ∧ n = tl.length ∧ n ≤ 700
      · obtain ⟨K, n, p1, p2, p3, p4, p5, p6, p7⟩ := P
        have htl : ∀ p ∈ tl, ∀ x ∈ p, x < 128 := fun p hp => (a3 p (List.mem_cons_of_mem _ hp)).1
        have hrow : lcM (fun c28 : Str => ((some (K : Int)).bind fun x29 => (some (n : Int)).bind fun x30 => (T_law_line c28 x29 x30).bind fun x31 => some x31)) (tl.map SX.S) = some (tl.map (lineF K n)) := lcM_S (by rw [List.length_cons] at a2; omega) fun p hp => by
          have := a3 p (List.mem_cons_of_mem _ hp)
          exact bind_eq rfl (bind_eq rfl (bind_eq (law_line this.1 (by omega)) rfl))
        -- no row is none
        by_cases N : none ∈ tl.map (lineF K n)
        · refine ⟨none, ?_, fun K' S' t c => ?_⟩
          · refine bind_eq hsp (bind_eq (ixT_of (by decide) rfl) (bind_eq hsp2 (bind_eq (x := false) ?_ ?_)))
            · rw [if_neg (by simp)]
              refine bind_eq (ixT_of (x := SX.S ch5) (by decide) rfl) (bind_eq (x := false) ?_ rfl)
              rw [lit_ch5]
              exact (sne_S ca ca).trans (by simp)
            rw [if_neg (by decide)]
            refine bind_eq (ixT_of (x := SX.S b) (by decide) rfl) (bind_eq (number_S (asc_of hb (by omega))) (bind_eq (ixT_of (x := SX.S c) (by decide) rfl) (bind_eq (number_S (asc_of hc (by omega))) ?_)))
            rw [p1, p2]
            refine bind_eq (x := false) ?_ ?_
            · rw [if_neg (fun e => nomatch e)]
              refine bind_eq (x := false) ?_ rfl
              rw [if_neg (fun e => nomatch e)]
              refine bind_eq rfl (bind_eq (x := false) ?_ rfl)
              rw [if_neg (dn (by omega))]
              refine bind_eq rfl (bind_eq (x := false) ?_ rfl)
              rw [if_neg (dn (by omega))]
              refine bind_eq rfl (bind_eq (x := false) ?_ rfl)
              rw [if_neg (dn (by omega))]
              refine bind_eq (x := false) ?_ rfl
              rw [if_neg (by rw [List.length_map, List.length_cons]; simp; omega)]
              exact bind_eq rfl (congrArg some (decide_eq_false (by omega)))
            rw [if_neg (by decide), cutL_lo (by decide)]
            refine bind_eq hrow ?_
            rw [if_pos (inG_t N)]
          · obtain ⟨d1, d2⟩ := hcan2 c
            unfold headL at d1
            simp only [List.cons.injEq, and_true] at d1
            have k1 := c.k; have s1 := c.s
            rw [d1.2.1, numO_n (by omega)] at p1
            rw [d1.2.2, numO_n (by omega)] at p2
            have e1 : K' = K := by have := Option.some.inj p1; omega
            have e2 : S' = n := by have := Option.some.inj p2; omega
            subst e1 e2
            rw [d2, c.rows] at N
            obtain ⟨x, _, hx⟩ := List.mem_map.mp N
            cases hx
        · obtain ⟨t, ht⟩ := all_some N
          obtain ⟨r1, r2⟩ := rows_of htl ht
          have hlen : t.length = n := by rw [p6, r1, List.length_map]
          have hloop : forC (T_law_read_b1 (t.map some)) (rgI 0 ((K : Int)).toNat) () = some (if (rgI 0 ((K : Int)).toNat).all (fun k => decide (colL t k.toNat).Nodup) = true then .inl () else .inr none) := forC_all fun k hk => by
            have hk' := rgI_mem hk
            obtain ⟨m, rfl, hm⟩ : ∃ m : Nat, k = (m : Int) ∧ m < K := ⟨k.toNat, by omega, by omega⟩
            rw [Int.toNat_natCast]
            exact read_b1 (fun r hr => (r2 r hr).1) (by omega) hm
          have run : ∀ {R : Option (List (Option (List (Option Int))))}, thenC (forC (T_law_read_b1 (t.map some)) (rgI 0 ((K : Int)).toNat) ()) (fun _ : Unit => some (some (t.map some))) = some R → ((splT (SX.S l) (SX.S [10])).bind fun x1 => T_law_read (SX.S l)) = some R := fun {R} hR => by
            refine bind_eq hsp ?_
            unfold T_law_read
            rw [lit_nl, lit_sp]
            refine bind_eq hsp (bind_eq (ixT_of (by decide) rfl) (bind_eq hsp2 (bind_eq (x := false) ?_ ?_)))
            · rw [if_neg (by simp)]
              refine bind_eq (ixT_of (x := SX.S ch5) (by decide) rfl) (bind_eq (x := false) ?_ rfl)
              rw [lit_ch5]
              exact (sne_S ca ca).trans (by simp)
            rw [if_neg (by decide)]
            refine bind_eq (ixT_of (x := SX.S b) (by decide) rfl) (bind_eq (number_S (asc_of hb (by omega))) (bind_eq (ixT_of (x := SX.S c) (by decide) rfl) (bind_eq (number_S (asc_of hc (by omega))) ?_)))
            rw [p1, p2]
            refine bind_eq (x := false) ?_ ?_
            · rw [if_neg (fun e => nomatch e)]
              refine bind_eq (x := false) ?_ rfl
              rw [if_neg (fun e => nomatch e)]
              refine bind_eq rfl (bind_eq (x := false) ?_ rfl)
              rw [if_neg (dn (by omega))]
              refine bind_eq rfl (bind_eq (x := false) ?_ rfl)
              rw [if_neg (dn (by omega))]
              refine bind_eq rfl (bind_eq (x := false) ?_ rfl)
              rw [if_neg (dn (by omega))]
              refine bind_eq (x := false) ?_ rfl
              rw [if_neg (by rw [List.length_map, List.length_cons]; simp; omega)]
              exact bind_eq rfl (congrArg some (decide_eq_false (by omega)))
            rw [if_neg (by decide), cutL_lo (by decide)]
            refine bind_eq hrow ?_
            rw [ht, if_neg (by rw [inG_f (by rw [← ht]; exact N)]; decide)]
            refine bind_eq rfl (bind_eq (rg1T_of (bnd62_ok (by omega) (by omega))) hR)
          have run2 : ∀ {R : Option (List (Option (List (Option Int))))}, thenC (forC (T_law_read_b1 (t.map some)) (rgI 0 ((K : Int)).toNat) ()) (fun _ : Unit => some (some (t.map some))) = some R → T_law_read (SX.S l) = some R := fun {R} hR => by
            have := run hR
            rw [hsp] at this
            exact this
          cases q4 : (rgI 0 ((K : Int)).toNat).all (fun k => decide (colL t k.toNat).Nodup) with
          | false =>
            rw [q4, if_neg (by decide)] at hloop
            have e0 := run2 (R := none) (by rw [hloop]; rfl)
            unfold T_law_read at e0
            rw [lit_nl, lit_sp] at e0
            refine ⟨none, e0, fun K' S' t' c => ?_⟩
            obtain ⟨d1, d2⟩ := hcan2 c
            unfold headL at d1
            simp only [List.cons.injEq, and_true] at d1
            have k1 := c.k; have s1 := c.s
            rw [d1.2.1, numO_n (by omega)] at p1
            rw [d1.2.2, numO_n (by omega)] at p2
            have e1 : K' = K := by have := Option.some.inj p1; omega
            have e2 : S' = n := by have := Option.some.inj p2; omega
            subst e1 e2
            rw [d2] at ht
            have et := rows_inj c.rows ht
            subst et
            have : (rgI 0 ((K' : Int)).toNat).all (fun k => decide (colL t' k.toNat).Nodup) = true := List.all_eq_true.mpr fun k _ => decide_eq_true (colL_nd.mpr fun i j v a b => c.tab.inj i j _ v a b)
            rw [this] at q4
            cases q4
          | true =>
            rw [q4, if_pos rfl] at hloop
            have e0 := run2 (R := some (t.map some)) (by rw [hloop]; rfl)
            unfold T_law_read at e0
            rw [lit_nl, lit_sp] at e0
            refine ⟨some (t.map some), e0, K, n, t, ⟨⟨hlen, fun r hr => (r2 r hr).1, fun i k v e => ?_, fun i j k v a b => ?_⟩, ⟨p3, p4⟩, ⟨p5, p7⟩, ?_⟩, rfl⟩
            · obtain ⟨r, h1, h2⟩ := cel_some e
              have := (r2 r (List.mem_of_getElem? h1)).2 v (List.mem_of_getElem? h2)
              omega
            · obtain ⟨r, h1, h2⟩ := cel_some a
              have hrl := (r2 r (List.mem_of_getElem? h1)).1
              have hk := (List.getElem?_eq_some_iff.mp h2).1
              have := List.all_eq_true.mp q4 (k : Int) (by rw [rgI_eq, List.mem_map]; exact ⟨k, List.mem_range.mpr (by omega), by omega⟩)
              have nd := of_decide_eq_true this
              rw [Int.toNat_natCast] at nd
              exact colL_nd.mp nd i j v a b
            · obtain ⟨m1, h1, h2, h3⟩ := numO_some p1
              obtain ⟨m2, g1, g2, g3⟩ := numO_some p2
              have e1 : m1 = K := by omega
              have e2 : m2 = n := by omega
              subst e1 e2
              have b4 : TL.joinL [32] [ch5, b, c] = hd := b4
              have a4 : TL.joinL [10] (hd :: tl) = l := a4
              rw [← a4, ← b4, r1, h3, g3]
              unfold chL headL
              rw [hlen]
              rfl
      · refine ⟨none, ?_, fun K' S' t c => ?_⟩
        · refine bind_eq hsp (bind_eq (ixT_of (by decide) rfl) (bind_eq hsp2 (bind_eq (x := false) ?_ ?_)))
          · rw [if_neg (by simp)]
            refine bind_eq (ixT_of (x := SX.S ch5) (by decide) rfl) (bind_eq (x := false) ?_ rfl)
            rw [lit_ch5]
            exact (sne_S ca ca).trans (by simp)
          rw [if_neg (by decide)]
          refine bind_eq (ixT_of (x := SX.S b) (by decide) rfl) (bind_eq (number_S (asc_of hb (by omega))) (bind_eq (ixT_of (x := SX.S c) (by decide) rfl) (bind_eq (number_S (asc_of hc (by omega))) ?_)))
          refine bind_eq (x := true) ?_ rfl
          cases p1 : numO b with
          | none => rfl
          | some vb =>
            rw [if_neg (fun e => nomatch e)]
            refine bind_eq (x := true) ?_ rfl
            cases p2 : numO c with
            | none => rfl
            | some vc =>
              obtain ⟨K, g1, rfl, _⟩ := numO_some p1
              obtain ⟨n, g2, rfl, _⟩ := numO_some p2
              rw [if_neg (fun e => nomatch e)]
              refine bind_eq rfl (bind_eq (x := true) ?_ rfl)
              by_cases z1 : (K : Int) < 1
              · rw [if_pos (decide_eq_true z1)]
              rw [if_neg (dn z1)]
              refine bind_eq rfl (bind_eq (x := true) ?_ rfl)
              by_cases z2 : (5 : Int) < K
              · rw [if_pos (decide_eq_true z2)]
              rw [if_neg (dn z2)]
              refine bind_eq rfl (bind_eq (x := true) ?_ rfl)
              by_cases z3 : (n : Int) < 1
              · rw [if_pos (decide_eq_true z3)]
              rw [if_neg (dn z3)]
              refine bind_eq (x := true) ?_ rfl
              by_cases z4 : n = tl.length
              · rw [if_neg (by rw [List.length_map, List.length_cons]; simp; omega)]
                refine bind_eq rfl (congrArg some (decide_eq_true ?_))
                by_cases z5 : n ≤ 700
                · exact absurd ⟨K, n, p1, p2, by omega, by omega, by omega, z4, z5⟩ P
                · omega
              · rw [if_pos (by rw [List.length_map, List.length_cons]; simp; omega)]
        · obtain ⟨d1, d2⟩ := hcan2 c
          unfold headL at d1
          simp only [List.cons.injEq, and_true] at d1
          have k1 := c.k; have s1 := c.s
          refine P ⟨K', S', by rw [d1.2.1, numO_n (by omega)], by rw [d1.2.2, numO_n (by omega)], by omega, by omega, by omega, ?_, by omega⟩
          rw [d2, List.length_map, c.tab.len]
    · refine ⟨none, ?_, fun K S t c => q ⟨_, _, (hcan2 c).1⟩⟩
      refine bind_eq hsp (bind_eq (ixT_of (by decide) rfl) (bind_eq hsp2 (bind_eq (x := true) ?_ rfl)))
      by_cases z : hw.length = 3
      · obtain ⟨a, b, c, rfl⟩ := len3 z
        rw [if_neg (by simp)]
        refine bind_eq (ixT_of (x := SX.S a) (by decide) rfl) (bind_eq (x := true) ?_ rfl)
        rw [lit_ch5]
        refine (sne_S (b3 a (by simp)).1 (by decide)).trans (congrArg some ?_)
        rw [Bool.not_eq_true', decide_eq_false_iff_not]
        intro e
        exact q ⟨b, c, by rw [e]; rfl⟩
      · rw [if_pos (by rw [List.length_map]; simp; omega)]

theorem lcX_any {β : Type} {B : Str → Option (Except String β × Unit)} : ∀ {ps : List (List Nat)}, (∀ p ∈ ps, B (SX.S p) = some (.error "NoChart", ()) ∨ ∃ v, B (SX.S p) = some (.ok v, ())) → lcX B (ps.map SX.S) = some (.error "NoChart", ()) ∨ ∃ vs, lcX B (ps.map SX.S) = some (.ok vs, ())
  | [], _ => .inr ⟨[], rfl⟩
  | p :: ps, h => by
    show lcX B (SX.S p :: ps.map SX.S) = _ ∨ ∃ vs, lcX B (SX.S p :: ps.map SX.S) = _
    unfold lcX
    rcases h p List.mem_cons_self with e | ⟨v, e⟩
    · exact .inl (by rw [e]; rfl)
    · rcases lcX_any (ps := ps) fun q hq => h q (List.mem_cons_of_mem _ hq) with e2 | ⟨vs, e2⟩
      · exact .inl (by rw [e, e2]; rfl)
      · exact .inr ⟨v :: vs, by rw [e, e2]; rfl⟩
theorem rd_any {p : List Nat} (h : ∀ x ∈ p, x < 128) (hp : p.length ≤ 690) {s : Tb} (hs : s.length < LIM) : T_read_chart_b1 s (SX.S p) = some (.inr (.error "NoChart", ())) ∨ ∃ r, T_read_chart_b1 s (SX.S p) = some (.inl (s ++ [r])) := by
  obtain ⟨a1, a2, a3, _⟩ := spl_all 32 p [] 690 (fun _ h => nomatch h) h (by simpa using hp)
  have hsp : splT (SX.S p) (" " : Str) = some ((TL.spl [32] 0 [] p).map SX.S) := by
    rw [lit_sp]
    exact splT_S (by decide) (by rw [LIM_eq]; omega)
  have hlim : ((TL.spl [32] 0 [] p).map SX.S).length ≤ LIM := by rw [List.length_map, LIM_eq]; omega
  rcases lcX_any (B := fun c : Str => T_entry_of c) (ps := TL.spl [32] 0 [] p) fun q hq => entry_any (asc_of (a3 q hq) (by omega)) with e | ⟨vs, e⟩
  · refine .inl ?_
    unfold T_read_chart_b1
    exact bind_eq hsp (bind_eq ((if_pos hlim).trans e) rfl)
  · refine .inr ⟨vs, ?_⟩
    unfold T_read_chart_b1
    exact bind_eq hsp (bind_eq ((if_pos hlim).trans e) (bind_eq (appT_of' hs) rfl))
theorem rd_loop : ∀ (tl : List (List Nat)) (s : Tb), (∀ p ∈ tl, (∀ x ∈ p, x < 128) ∧ p.length ≤ 690) → s.length + tl.length ≤ LIM → forC T_read_chart_b1 (tl.map SX.S) s = some (.inr (.error "NoChart", ())) ∨ ∃ t : Tb, t.length = tl.length ∧ forC T_read_chart_b1 (tl.map SX.S) s = some (.inl (s ++ t))
  | [], s, _, _ => .inr ⟨[], rfl, by rw [List.append_nil]; rfl⟩
  | p :: tl, s, h, hs => by
    rw [List.length_cons] at hs
    have hp := h p List.mem_cons_self
    show forC T_read_chart_b1 (SX.S p :: tl.map SX.S) s = _ ∨ ∃ t : Tb, _ ∧ forC T_read_chart_b1 (SX.S p :: tl.map SX.S) s = _
    rcases rd_any hp.1 hp.2 (s := s) (by omega) with e | ⟨r, e⟩
    · exact .inl (bind_eq e rfl)
    · rcases rd_loop tl (s ++ [r]) (fun q hq => h q (List.mem_cons_of_mem _ hq)) (by rw [List.length_append]; simp; omega) with e2 | ⟨t, t1, e2⟩
      · exact .inl (bind_eq e e2)
      · exact .inr ⟨r :: t, by simp [t1], by
        refine bind_eq e ?_
        show forC T_read_chart_b1 (tl.map SX.S) (s ++ [r]) = some (.inl (s ++ r :: t))
        rw [e2]
        simp⟩
theorem row_e {K S : Nat} {t : Tb} {l : List Nat} (c : Canon l K S t) {r : List (Option Int)} (hr : r ∈ t) {s : Tb} (hs : s.length < LIM) : T_read_chart_b1 s (SX.S (rwC r)) = some (.inl (s ++ [r])) := by
  have F := c.tab.fit c.k.2 (by have := c.s; omega)
  have hl := rwC_len F hr
  obtain ⟨v1, v2⟩ := c.vals hr
  have k1 := c.k
  have hsp : splT (SX.S (rwC r)) (" " : Str) = some ((r.map entL).map SX.S) := by
    rw [lit_sp]
    refine splT_join (by decide) (by intro q; rw [List.map_eq_nil_iff] at q; rw [q] at v1; simp at v1; omega) (fun p hp => ?_) (by rw [LIM_eq]; show (rwC r).length + 2 ≤ _; omega)
    obtain ⟨x, _, rfl⟩ := List.mem_map.mp hp
    exact ent_sp
  have e : lcX (fun c : Str => T_entry_of c) ((r.map entL).map SX.S) = some (.ok r, ()) := by
    have hr2 : ∀ e ∈ r, T_entry_of (SX.S (entL e)) = some (.ok e, ()) := fun e he => entry_e fun v hv => by
      have := v2 v (by rw [← hv]; exact he)
      omega
    clear hsp v2 v1 hl hr
    induction r with
    | nil => rfl
    | cons e r ih =>
      show lcX _ (SX.S (entL e) :: (r.map entL).map SX.S) = _
      unfold lcX
      rw [hr2 e List.mem_cons_self, ih fun x hx => hr2 x (List.mem_cons_of_mem _ hx)]
      rfl
  unfold T_read_chart_b1
  exact bind_eq hsp (bind_eq ((if_pos (by rw [List.length_map, List.length_map, LIM_eq]; omega)).trans e) (bind_eq (appT_of' hs) rfl))
theorem rows_e {K S : Nat} {t : Tb} {l : List Nat} (c : Canon l K S t) : ∀ (t' s : Tb), (∀ r ∈ t', r ∈ t) → s.length + t'.length ≤ LIM → forC T_read_chart_b1 ((t'.map rwC).map SX.S) s = some (.inl (s ++ t'))
  | [], s, _, _ => by rw [List.append_nil]; rfl
  | r :: t', s, h, hs => by
    rw [List.length_cons] at hs
    show forC T_read_chart_b1 (SX.S (rwC r) :: (t'.map rwC).map SX.S) s = _
    refine bind_eq (row_e c (h r List.mem_cons_self) (by omega)) ?_
    have := rows_e c t' (s ++ [r]) (fun x hx => h x (List.mem_cons_of_mem _ hx)) (by rw [List.length_append]; simp; omega)
    exact this.trans (by simp)
theorem chart_run {K S : Nat} {t : Tb} (hT : Tab K S t) (hk : 1 ≤ K ∧ K ≤ 5) (hs : 1 ≤ S ∧ S ≤ 700) {l : List Nat} (h : ∀ x ∈ l, x < 128) : ∃ c : S_Chart, c.kinds = K ∧ c.outs = t ∧ (((T_Chart_init K t).bind fun x21 =>
  caseE x21.1 (fun c_v22 => some (.error c_v22, ())) fun v22 =>
  (T_written v22).bind fun x23 =>
    (sneT x23 (SX.S l)).bind fun x24 =>
    if x24 = true then
    some (.error "NoChart", ())
  else
  some (.ok v22, ())) : Option (Except String S_Chart × Unit)) = some (if chL K t = l then (.ok c, ()) else (.error "NoChart", ())) := by
  obtain ⟨_, e1, c, rfl, c1, c2, _⟩ := chart_ok hT hk hs
  have F := hT.fit hk.2 (by omega)
  refine ⟨c, c1, c2, bind_eq e1 ?_⟩
  refine bind_eq (written_ok F (by omega) c1 c2) (bind_eq (sne_S (fun x hx => chL_mem hx) h) ?_)
  by_cases q : chL K t = l
  · rw [decide_eq_true q, if_neg (by decide), if_pos q]
  · rw [decide_eq_false q, if_pos (by decide), if_neg q]
theorem read_canon {K S : Nat} {t : Tb} {l : List Nat} (c : Canon l K S t) (h : ∀ x ∈ l, x < 128) (hl : l.length ≤ 690) : ∃ ch : S_Chart, T_read_chart (SX.S l) = some (.ok ch, ()) ∧ ch.kinds = K ∧ ch.outs = t := by
  have k1 := c.k
  have s1 := c.s
  have hlen := c.tab.len
  have a2 := (spl_all 10 l [] 690 (fun _ h => nomatch h) h (by simpa using hl)).2.1
  have hsp : splT (SX.S l) (SX.S [10]) = some ((TL.spl [10] 0 [] l).map SX.S) := splT_S (by decide) (by rw [LIM_eq]; omega)
  rw [c.lines] at hsp a2
  have hd := head_len (K := K) (n := S) (by omega) (by omega)
  have hsp2 : splT (SX.S (TL.joinL [32] (headL K S))) (SX.S [32]) = some ((headL K S).map SX.S) := by
    have := splT_S (a := TL.joinL [32] (headL K S)) (c := 32) (by decide) (by rw [LIM_eq]; omega)
    rw [head_split] at this
    exact this
  obtain ⟨ch, c1, c2, e⟩ := chart_run c.tab c.k c.s h
  refine ⟨ch, ?_, c1, c2⟩
  unfold T_read_chart
  rw [lit_nl, lit_sp]
  refine bind_eq hsp (bind_eq (ixT_of (by decide) rfl) (bind_eq hsp2 (bind_eq (x := false) ?_ ?_)))
  · rw [if_neg (by simp [headL])]
    refine bind_eq (ixT_of (x := SX.S ch5) (by decide) rfl) (bind_eq (x := false) ?_ rfl)
    rw [lit_ch5]
    exact (sne_S (a := ch5) (by decide) (by decide)).trans (by simp [ch5])
  rw [if_neg (by decide)]
  refine bind_eq (ixT_of (x := SX.S (TL.numL K)) (by decide) rfl) ?_
  have i2 : ixT ((headL K S).map SX.S) 2 = some (SX.S (TL.numL S)) := ixT_of (by decide) rfl
  rw [i2, cutL_lo (by decide)]
  refine bind_eq (count_n (by omega)) ?_
  show (T_count_of (SX.S (TL.numL S))).bind _ = _
  refine bind_eq (count_n (by omega)) ?_
  have hr := rows_e c t [] (fun _ h => h) (by rw [LIM_eq]; simp; omega)
  have hr : forC T_read_chart_b1 ((t.map rwC).map SX.S) ([] : Tb) = some (.inl t) := hr
  show thenC (forC T_read_chart_b1 ((t.map rwC).map SX.S) ([] : Tb)) _ = _
  rw [hr]
  refine Eq.trans e ?_
  rw [if_pos c.eq.symm]
theorem read_any {l : List Nat} (h : ∀ x ∈ l, x < 128) (hl : l.length ≤ 690) : T_read_chart (SX.S l) = some (.error "NoChart", ()) ∨ ∃ K S t, Canon l K S t := by
  obtain ⟨a1, a2, a3, a4⟩ := spl_all 10 l [] 690 (fun _ h => nomatch h) h (by simpa using hl)
  have hsp : splT (SX.S l) (SX.S [10]) = some ((TL.spl [10] 0 [] l).map SX.S) := splT_S (by decide) (by rw [LIM_eq]; omega)
  generalize TL.spl [10] 0 [] l = ls at *
  cases ls with
  | nil => exact absurd rfl a1
  | cons hd tl =>
    rw [List.length_cons] at a2
    have hhd := a3 hd List.mem_cons_self
    obtain ⟨b1, b2, b3, b4⟩ := spl_all 32 hd [] 690 (fun _ h => nomatch h) hhd.1 (by simpa using hhd.2)
    have hsp2 : splT (SX.S hd) (SX.S [32]) = some ((TL.spl [32] 0 [] hd).map SX.S) := splT_S (by decide) (by rw [LIM_eq]; omega)
    generalize TL.spl [32] 0 [] hd = hw at *
    by_cases q : ∃ b c, hw = [ch5, b, c]
    · obtain ⟨b, c, rfl⟩ := q
      have hb := asc_of (b3 b (by simp)) (by omega)
      have hc := asc_of (b3 c (by simp)) (by omega)
      -- up to the numbers
      have pre : ∀ {R : Except String S_Chart × Unit}, ((T_count_of (SX.S b)).bind fun x9 =>
          caseE x9.1 (fun c_v10 => some (.error c_v10, ())) fun v10 =>
          (T_count_of (SX.S c)).bind fun x12 =>
          caseE x12.1 (fun c_v13 => some (.error c_v13, ())) fun v13 =>
          thenC (forC T_read_chart_b1 (tl.map SX.S) ([] : (List (List (Option Int))))) fun s14 : (List (List (Option Int))) =>
          (T_Chart_init v10 s14).bind fun x21 =>
          caseE x21.1 (fun c_v22 => some (.error c_v22, ())) fun v22 =>
          (T_written v22).bind fun x23 =>
            (sneT x23 (SX.S l)).bind fun x24 =>
            if x24 = true then
            some (.error "NoChart", ())
          else
          some (.ok v22, ())) = some R → T_read_chart (SX.S l) = some R := fun {R} hR => by
        unfold T_read_chart
        rw [lit_nl, lit_sp]
        refine bind_eq hsp (bind_eq (ixT_of (by decide) rfl) (bind_eq hsp2 (bind_eq (x := false) ?_ ?_)))
        · rw [if_neg (by simp)]
          refine bind_eq (ixT_of (x := SX.S ch5) (by decide) rfl) (bind_eq (x := false) ?_ rfl)
          rw [lit_ch5]
          exact (sne_S (a := ch5) (by decide) (by decide)).trans (by simp [ch5])
        rw [if_neg (by decide)]
        refine bind_eq (ixT_of (x := SX.S b) (by decide) rfl) ?_
        have i2 : ixT ([ch5, b, c].map SX.S) 2 = some (SX.S c) := ixT_of (by decide) rfl
        rw [i2, cutL_lo (by decide)]
        exact hR
      rcases count_any hb with e1 | ⟨v1, e1⟩
      · exact .inl (pre (bind_eq e1 rfl))
      rcases count_any hc with e2 | ⟨v2, e2⟩
      · exact .inl (pre (bind_eq e1 (bind_eq e2 rfl)))
      rcases rd_loop tl [] (fun p hp => a3 p (List.mem_cons_of_mem _ hp)) (by rw [LIM_eq]; simp; omega) with e3 | ⟨t, t1, e3⟩
      · refine .inl (pre (bind_eq e1 (bind_eq e2 ?_)))
        show thenC (forC T_read_chart_b1 (tl.map SX.S) ([] : Tb)) _ = _
        rw [e3]
        rfl
      have e3 : forC T_read_chart_b1 (tl.map SX.S) ([] : Tb) = some (.inl t) := e3
      by_cases G : GoodT v1 t
      · obtain ⟨g1, g2, g3, g4, g5, g6⟩ := G
        obtain ⟨K, rfl⟩ : ∃ K : Nat, v1 = (K : Int) := ⟨v1.toNat, by omega⟩
        have hT := (fit_of g5).tab g6
        obtain ⟨ch, _, _, e4⟩ := chart_run hT ⟨by omega, by omega⟩ ⟨by omega, by omega⟩ h
        by_cases z : chL K t = l
        · exact .inr ⟨K, _, t, hT, ⟨by omega, by omega⟩, ⟨by omega, by omega⟩, z.symm⟩
        · refine .inl (pre (bind_eq e1 (bind_eq e2 ?_)))
          show thenC (forC T_read_chart_b1 (tl.map SX.S) ([] : Tb)) _ = _
          rw [e3]
          refine Eq.trans e4 ?_
          rw [if_neg z]
      · refine .inl (pre (bind_eq e1 (bind_eq e2 ?_)))
        show thenC (forC T_read_chart_b1 (tl.map SX.S) ([] : Tb)) _ = _
        rw [e3]
        show (T_Chart_init v1 t).bind _ = _
        exact bind_eq (chart_not (by omega) G) rfl
    · refine .inl ?_
      unfold T_read_chart
      rw [lit_nl, lit_sp]
      refine bind_eq hsp (bind_eq (ixT_of (by decide) rfl) (bind_eq hsp2 (bind_eq (x := true) ?_ rfl)))
      by_cases z : hw.length = 3
      · obtain ⟨a, b, c, rfl⟩ := len3 z
        rw [if_neg (by simp)]
        refine bind_eq (ixT_of (x := SX.S a) (by decide) rfl) (bind_eq (x := true) ?_ rfl)
        rw [lit_ch5]
        refine (sne_S (b3 a (by simp)).1 (by decide)).trans (congrArg some ?_)
        rw [Bool.not_eq_true', decide_eq_false_iff_not]
        intro e
        exact q ⟨b, c, by rw [e]; rfl⟩
      · rw [if_pos (by rw [List.length_map]; simp; omega)]

theorem md6 {a m : Int} (h : 0 < m) : ∃ x, modT a m = some x ∧ 0 ≤ x ∧ x < m := ⟨a % m, if_pos h, Int.emod_nonneg _ (by omega), Int.emod_lt_of_pos _ h⟩
theorem app_asc {a b : List Nat} (ha : ∀ c ∈ a, c < 128) (hb : ∀ c ∈ b, c < 128) : ∀ c ∈ a ++ b, c < 128 := fun c hc => (List.mem_append.mp hc).elim (ha c) (hb c)
theorem tk {a : List Nat} (ha : ∀ c ∈ a, c < 128) (n : Nat) : ∀ c ∈ a.take n, c < 128 := fun c hc => ha c (List.mem_of_mem_take hc)
theorem dp {a : List Nat} (ha : ∀ c ∈ a, c < 128) (n : Nat) : ∀ c ∈ a.drop n, c < 128 := fun c hc => ha c (List.mem_of_mem_drop hc)
theorem slS_to {l : List Nat} {i : Int} (h0 : 0 ≤ i) (h : l.length ≤ LIM) : slS (SX.S l) none (some i) = some (SX.S (l.take i.toNat)) := by
  unfold slS
  rw [if_pos (by rw [SX.S_len]; exact h)]
  exact congrArg some (TL.ext_tl (cutL_hi (l := l) h0))
theorem slS_from {l : List Nat} {i : Int} (h0 : 0 ≤ i) (h : l.length ≤ LIM) : slS (SX.S l) (some i) none = some (SX.S (l.drop i.toNat)) := by
  unfold slS
  rw [if_pos (by rw [SX.S_len]; exact h)]
  exact congrArg some (TL.ext_tl (cutL_lo (l := l) h0))
theorem ads6 {a b : List Nat} (ha : a.length ≤ 5000) (hb : b.length ≤ 5000) : adsT (SX.S a) (SX.S b) = some (SX.S (a ++ b)) := adsT_S (by rw [LIM_eq]; omega)
def SG95 : Str := (" !\"#$&'()*+,-./0123456789:;<=>?@ABCDEFGHIJKLMNOPQRSTUVWXYZ[\\]^_`abcdefghijklmnopqrstuvwxyz{|}~\n" : Str)
theorem sg_ads : adsT (" !\"#$&'()*+,-./0123456789:;<=>?@ABCDEFGHIJKLMNOPQRSTUVWXYZ[\\]^_`" : Str) ("abcdefghijklmnopqrstuvwxyz{|}~\n" : Str) = some SG95 := by decide +kernel
theorem sg_ix : ∀ n : Nat, n < 95 → ((ixS SG95 (n : Int)).map TL.tl).getD [] = [((TL.tl SG95).getD n 0)] ∧ (TL.tl SG95).getD n 0 < 128 := by decide +kernel
theorem sign_ok {d : Int} (hd : 0 ≤ d) : ∃ c, T_law_sign d = some (SX.S [c]) ∧ c < 128 := by
  obtain ⟨x, m, n1, n2⟩ := md6 (a := d) (m := 95) (by omega)
  obtain ⟨h1, h2⟩ := sg_ix x.toNat (by omega)
  rw [Int.toNat_of_nonneg n1] at h1
  refine ⟨_, ?_, h2⟩
  unfold T_law_sign
  refine bind_eq sg_ads (bind_eq m ?_)
  cases e : ixS SG95 x with
  | none =>
    rw [e] at h1
    cases h1
  | some z =>
    rw [e] at h1
    have h1 : TL.tl z = [((TL.tl SG95).getD x.toNat 0)] := h1
    rw [sgn_S z, h1]
    rfl
def ODD : List Str := [("" : Str), ("chart" : Str), ("chart 1 1" : Str), ("chart 1 0" : Str), ("chart 0 1\n" : Str), ("chart 1 0\n" : Str), ("chart 1 1\n" : Str), ("chart 1 1\n-\n" : Str), ("Chart 1 1\n-" : Str), ("chart 1 1\n1" : Str), ("chart 1 1\n00" : Str), ("chart 01 1\n0" : Str), ("chart 1 1 \n0" : Str), ("chart 1 1\n0" : Str), ("chart 6 1\n- - - - - -" : Str), ("chart 7 1\n- - - - - - 0" : Str)]
theorem odd_all : ∀ z ∈ ODD, (∀ c ∈ TL.tl z, c < 128) ∧ (TL.tl z).length ≤ 60 := by decide +kernel
theorem odd_ok {d : Int} (hd : 0 ≤ d) : ∃ z, T_law_odd d = some (SX.S z) ∧ (∀ c ∈ z, c < 128) ∧ z.length ≤ 690 := by
  obtain ⟨x, m, n1, n2⟩ := md6 (a := d) (m := 16) (by omega)
  have hx : x.toNat < ODD.length := by show _ < 16; omega
  obtain ⟨h1, h2⟩ := odd_all _ (List.getElem_mem hx)
  refine ⟨TL.tl ODD[x.toNat], ?_, h1, by omega⟩
  rw [← sgn_S]
  unfold T_law_odd
  refine bind_eq rfl (bind_eq (x := ODD.take 14) (if_pos (by rw [LIM_eq]; decide)) (bind_eq (x := ODD) (if_pos (by rw [LIM_eq]; decide)) (bind_eq m (bind_eq (ixT_lt n1 hx) rfl))))
structure Lns (l : List Nat) (ps : List (List Nat)) : Prop where
  spl : TL.spl [10] 0 [] l = ps
  asc : ∀ p ∈ ps, ∀ c ∈ p, c < 128
  len : ∀ p ∈ ps, p.length ≤ 20
  many : 1 ≤ ps.length ∧ ps.length ≤ 31
  tasc : ∀ c ∈ l, c < 128
  tlen : l.length ≤ 651
  tne : 1 ≤ l.length
theorem joinN {ps : List (List Nat)} (h : ∀ p ∈ ps, ∀ c ∈ p, c < 128) (hl : ∀ p ∈ ps, p.length ≤ 20) (hn : ps.length ≤ 31) : ∃ z, joinT ("\n" : Str) (ps.map SX.S) = some (SX.S z) ∧ (∀ c ∈ z, c < 128) ∧ z.length ≤ 690 := by
  have hb : ∀ p ∈ ps, p.length + [10].length ≤ 21 := fun p hp => by
    have := hl p hp
    simp only [List.length_cons, List.length_nil]
    omega
  have hm : ps.length * 21 ≤ 31 * 21 := Nat.mul_le_mul_right _ hn
  refine ⟨TL.joinL [10] ps, ?_, fun c hc => ?_, ?_⟩
  · rw [lit_nl]
    exact joinT_S hb (by omega)
  · rcases join_mem hc with z | ⟨p, z1, z2⟩
    · rw [List.mem_singleton.mp z]; omega
    · exact h p z1 c z2
  · have := join_bnd hb
    omega
theorem canon_lns {l : List Nat} {K S : Nat} {t : Tb} (c : Canon l K S t) (hS : S ≤ 30) : Lns l (TL.joinL [32] (headL K S) :: t.map rwC) := by
  have k1 := c.k
  have F := c.tab.fit k1.2 (by omega)
  have hd := head_len (K := K) (n := S) (by omega) (by omega)
  have hlen := c.tab.len
  have ha : ∀ p ∈ TL.joinL [32] (headL K S) :: t.map rwC, ∀ x ∈ p, x < 128 := fun p hp x hx => by
    rcases List.mem_cons.mp hp with rfl | hp
    · exact (head_mem hx).2
    · obtain ⟨r, _, rfl⟩ := List.mem_map.mp hp
      exact (rwC_mem hx).2
  have hl : ∀ p ∈ TL.joinL [32] (headL K S) :: t.map rwC, p.length ≤ 20 := fun p hp => by
    rcases List.mem_cons.mp hp with rfl | hp
    · omega
    · obtain ⟨r, hr, rfl⟩ := List.mem_map.mp hp
      exact rwC_len F hr
  have ht : ∀ x ∈ l, x < 128 := fun x hx => by rw [c.eq] at hx; exact chL_mem hx
  have ej : l = TL.joinL [10] (TL.joinL [32] (headL K S) :: t.map rwC) := by
    rw [c.eq]
    unfold chL
    rw [hlen]
  have hn : (TL.joinL [32] (headL K S) :: t.map rwC).length = S + 1 := by rw [List.length_cons, List.length_map, hlen]
  refine ⟨c.lines, ha, hl, by rw [hn]; omega, ht, ?_, ?_⟩
  · have hb : ∀ p ∈ TL.joinL [32] (headL K S) :: t.map rwC, p.length + [10].length ≤ 21 := fun p hp => by
      have := hl p hp
      simp only [List.length_cons, List.length_nil]
      omega
    have := join_bnd hb
    rw [← ej, hn] at this
    omega
  · refine List.length_pos_iff.mpr fun z => ?_
    have e := c.lines
    rw [z, TL.spl_nil, head_joined] at e
    have e2 := (List.cons.inj e).1
    exact nomatch e2
theorem spoilt_ok {l : List Nat} {ps : List (List Nat)} (L : Lns l ps) {dr : List Int} (hd : NumOk dr) (hdl : dr.length = 4) : ∃ z, T_law_spoilt (SX.S l) dr = some (SX.S z) ∧ (∀ c ∈ z, c < 128) ∧ z.length ≤ 690 := by
  obtain ⟨d0, i0, r0⟩ := hd.at hdl (k := 0) (by omega) (by omega)
  obtain ⟨d1, i1, r1⟩ := hd.at hdl (k := 1) (by omega) (by omega)
  obtain ⟨d2, i2, r2⟩ := hd.at hdl (k := 2) (by omega) (by omega)
  obtain ⟨d3, i3, r3⟩ := hd.at hdl (k := 3) (by omega) (by omega)
  have h := L.tasc
  have hl := L.tlen
  have hlp := L.tne
  have hA : Asc l := ⟨h, by omega⟩
  obtain ⟨x3, m3, n3⟩ := md6 (a := d1) (m := (l.length : Int)) (by omega)
  obtain ⟨sg, s1, s2⟩ := sign_ok (d := d2) (by omega)
  have hsp : splT (SX.S l) ("\n" : Str) = some (ps.map SX.S) := by
    rw [lit_nl, ← L.spl]
    exact splT_S (by decide) (by rw [LIM_eq]; omega)
  have hpl := L.many
  obtain ⟨x8, m8, n8⟩ := md6 (a := d1) (m := (ps.length : Int)) (by omega)
  obtain ⟨x10, m10, n10⟩ := md6 (a := d3) (m := (ps.length : Int)) (by omega)
  obtain ⟨x12, m12, n12⟩ := md6 (a := d0) (m := 8) (by omega)
  have m8' : modT d1 (((ps.map SX.S).length : Nat) : Int) = some x8 := by rw [List.length_map]; exact m8
  have m10' : modT d3 (((ps.map SX.S).length : Nat) : Int) = some x10 := by rw [List.length_map]; exact m10
  have hA1 : (l.take x3.toNat).length ≤ 651 := by rw [List.length_take]; omega
  have hA2 : (l.drop x3.toNat).length ≤ 651 := by rw [List.length_drop]; omega
  have hA3 : (l.drop (x3 + 1).toNat).length ≤ 651 := by rw [List.length_drop]; omega
  have hA12 : (l.take x3.toNat).length + (l.drop x3.toNat).length ≤ 651 := by rw [List.length_take, List.length_drop]; omega
  have hA13 : (l.take x3.toNat).length + (l.drop (x3 + 1).toNat).length ≤ 651 := by rw [List.length_take, List.length_drop]; omega
  have hsg : ∀ c ∈ [sg], c < 128 := fun c hc => by rw [List.mem_singleton.mp hc]; exact s2
  have go : ∀ {z : List Nat} {R : Option Str}, T_law_spoilt (SX.S l) dr = R → R = some (SX.S z) → (∀ c ∈ z, c < 128) → z.length ≤ 690 → ∃ z, T_law_spoilt (SX.S l) dr = some (SX.S z) ∧ (∀ c ∈ z, c < 128) ∧ z.length ≤ 690 := fun e1 e2 e3 e4 => ⟨_, e1.trans e2, e3, e4⟩
  refine Exists.imp (fun z q => ⟨?_, q.2⟩) (?_ : ∃ z : List Nat, (if (decide (x12 = (1 : Int))) = true then
    (slS (SX.S l) none (some x3)).bind fun x13 =>
    (adsT x13 (SX.S [sg])).bind fun x14 =>
    (slS (SX.S l) (some x3) none).bind fun x15 =>
    (adsT x14 x15).bind fun x16 =>
    some x16
  else
  if (decide (x12 = (2 : Int))) = true then
    (slS (SX.S l) none (some x3)).bind fun x17 =>
    (slS (SX.S l) (some (x3 + (1 : Int))) none).bind fun x18 =>
    (adsT x17 x18).bind fun x19 =>
    some x19
  else
  if (decide (x12 = (3 : Int))) = true then
    (slS (SX.S l) none (some x3)).bind fun x20 =>
    (adsT x20 (SX.S [sg])).bind fun x21 =>
    (slS (SX.S l) (some (x3 + (1 : Int))) none).bind fun x22 =>
    (adsT x21 x22).bind fun x23 =>
    some x23
  else
  if (decide (x12 = (4 : Int))) = true then
    (ixT (ps.map SX.S) x10).bind fun x24 =>
    (addT (cutL (ps.map SX.S) none (some x8)) ([x24])).bind fun x25 =>
    (addT x25 (cutL (ps.map SX.S) (some (x8 + (1 : Int))) none)).bind fun x26 =>
    (joinT ("\n" : Str) x26).bind fun x27 =>
    some x27
  else
  if (decide (x12 = (5 : Int))) = true then
    (addT (cutL (ps.map SX.S) none (some x8)) (cutL (ps.map SX.S) (some (x8 + (1 : Int))) none)).bind fun x28 =>
    (joinT ("\n" : Str) x28).bind fun x29 =>
    some x29
  else
  if (decide (x12 = (6 : Int))) = true then
    (ixT dr (2 : Int)).bind fun x30 =>
    (modT x30 (4 : Int)).bind fun x31 =>
    (ixT ([("\n" : Str), (" " : Str), ("\n-" : Str), ("0" : Str)]) x31).bind fun x32 =>
    (adsT (SX.S l) x32).bind fun x33 =>
    some x33
  else
  if (decide (x12 = (7 : Int))) = true then
    (ixT dr (2 : Int)).bind fun x34 =>
    (T_law_odd x34).bind fun x35 =>
    some x35
  else
  some (SX.S l)) = some (SX.S z) ∧ (∀ c ∈ z, c < 128) ∧ z.length ≤ 690)
  · unfold T_law_spoilt
    exact bind_eq i1 (bind_eq (lenS_S hA) (bind_eq m3 (bind_eq i2 (bind_eq s1 (bind_eq hsp (bind_eq i1 (bind_eq m8' (bind_eq i3 (bind_eq m10' (bind_eq i0 (bind_eq m12 q.1)))))))))))
  by_cases q1 : x12 = 1
  · rw [if_pos (decide_eq_true q1)]
    exact ⟨_, bind_eq (slS_to n3.1 hA.lim) (bind_eq (ads6 (by omega) (by simp)) (bind_eq (slS_from n3.1 hA.lim) (bind_eq (ads6 (by rw [List.length_append]; simp; omega) (by omega)) rfl))), app_asc (app_asc (tk h _) hsg) (dp h _), by rw [List.length_append, List.length_append, List.length_singleton]; omega⟩
  rw [if_neg (dn q1)]
  by_cases q2 : x12 = 2
  · rw [if_pos (decide_eq_true q2)]
    exact ⟨_, bind_eq (slS_to n3.1 hA.lim) (bind_eq (slS_from (by omega) hA.lim) (bind_eq (ads6 (by omega) (by omega)) rfl)), app_asc (tk h _) (dp h _), by rw [List.length_append]; omega⟩
  rw [if_neg (dn q2)]
  by_cases q3 : x12 = 3
  · rw [if_pos (decide_eq_true q3)]
    exact ⟨_, bind_eq (slS_to n3.1 hA.lim) (bind_eq (ads6 (by omega) (by simp)) (bind_eq (slS_from (by omega) hA.lim) (bind_eq (ads6 (by rw [List.length_append]; simp; omega) (by omega)) rfl))), app_asc (app_asc (tk h _) hsg) (dp h _), by rw [List.length_append, List.length_append, List.length_singleton]; omega⟩
  rw [if_neg (dn q3)]
  have c1 : cutL (ps.map SX.S) none (some x8) = (ps.take x8.toNat).map SX.S := by rw [cutL_hi n8.1, List.map_take]
  have c2 : cutL (ps.map SX.S) (some (x8 + 1)) none = (ps.drop (x8.toNat + 1)).map SX.S := by rw [cutL_lo (by omega), List.map_drop, show (x8 + 1).toNat = x8.toNat + 1 by omega]
  have mt : ∀ {p}, p ∈ ps.take x8.toNat → p ∈ ps := fun hp => List.mem_of_mem_take hp
  have md : ∀ {p}, p ∈ ps.drop (x8.toNat + 1) → p ∈ ps := fun hp => List.mem_of_mem_drop hp
  have lt : (ps.take x8.toNat).length = x8.toNat := by rw [List.length_take]; omega
  have ld : (ps.drop (x8.toNat + 1)).length = ps.length - (x8.toNat + 1) := List.length_drop
  by_cases q4 : x12 = 4
  · rw [if_pos (decide_eq_true q4), c1, c2]
    have hx : x10.toNat < ps.length := by omega
    have e25 : ixT (ps.map SX.S) x10 = some (SX.S ps[x10.toNat]) := ixT_of n10.1 (by rw [List.getElem?_map, List.getElem?_eq_getElem hx]; rfl)
    have hmem := List.getElem_mem hx
    have mem : ∀ p ∈ ps.take x8.toNat ++ [ps[x10.toNat]] ++ ps.drop (x8.toNat + 1), p ∈ ps := fun p hp => by
      rcases List.mem_append.mp hp with y | y
      · rcases List.mem_append.mp y with y | y
        · exact mt y
        · rw [List.mem_singleton.mp y]; exact hmem
      · exact md y
    obtain ⟨z, j1, j2, j3⟩ := joinN (ps := ps.take x8.toNat ++ [ps[x10.toNat]] ++ ps.drop (x8.toNat + 1)) (fun p hp => L.asc p (mem p hp)) (fun p hp => L.len p (mem p hp)) (by rw [List.length_append, List.length_append, lt, ld, List.length_singleton]; omega)
    rw [List.map_append, List.map_append] at j1
    refine ⟨z, bind_eq e25 (bind_eq (x := (ps.take x8.toNat).map SX.S ++ [SX.S ps[x10.toNat]]) (if_pos ?_) (bind_eq (x := (ps.take x8.toNat).map SX.S ++ [SX.S ps[x10.toNat]] ++ (ps.drop (x8.toNat + 1)).map SX.S) (if_pos ?_) (bind_eq j1 rfl))), j2, j3⟩
    · rw [List.length_map, lt, LIM_eq, List.length_singleton]
      omega
    · rw [List.length_append, List.length_map, List.length_map, lt, ld, LIM_eq, List.length_singleton]
      omega
  rw [if_neg (dn q4)]
  by_cases q5 : x12 = 5
  · rw [if_pos (decide_eq_true q5), c1, c2]
    have mem : ∀ p ∈ ps.take x8.toNat ++ ps.drop (x8.toNat + 1), p ∈ ps := fun p hp => (List.mem_append.mp hp).elim mt md
    obtain ⟨z, j1, j2, j3⟩ := joinN (ps := ps.take x8.toNat ++ ps.drop (x8.toNat + 1)) (fun p hp => L.asc p (mem p hp)) (fun p hp => L.len p (mem p hp)) (by rw [List.length_append, lt, ld]; omega)
    rw [List.map_append] at j1
    refine ⟨z, bind_eq (x := (ps.take x8.toNat).map SX.S ++ (ps.drop (x8.toNat + 1)).map SX.S) (if_pos ?_) (bind_eq j1 rfl), j2, j3⟩
    rw [List.length_map, List.length_map, lt, ld, LIM_eq]
    omega
  rw [if_neg (dn q5)]
  by_cases q6 : x12 = 6
  · rw [if_pos (decide_eq_true q6)]
    obtain ⟨x31, m31, n31⟩ := md6 (a := d2) (m := 4) (by omega)
    have tails : ∀ z ∈ [("\n" : Str), (" " : Str), ("\n-" : Str), ("0" : Str)], (∀ c ∈ TL.tl z, c < 128) ∧ (TL.tl z).length ≤ 3 := by decide +kernel
    have hx : x31.toNat < [("\n" : Str), (" " : Str), ("\n-" : Str), ("0" : Str)].length := by show _ < 4; omega
    obtain ⟨t1, t2⟩ := tails _ (List.getElem_mem hx)
    have e32 : ixT [("\n" : Str), (" " : Str), ("\n-" : Str), ("0" : Str)] x31 = some (SX.S (TL.tl [("\n" : Str), (" " : Str), ("\n-" : Str), ("0" : Str)][x31.toNat])) := by
      rw [← sgn_S]
      exact ixT_lt n31.1 hx
    exact ⟨_, bind_eq i2 (bind_eq m31 (bind_eq e32 (bind_eq (ads6 (by omega) (by omega)) rfl))), app_asc h t1, by rw [List.length_append]; omega⟩
  rw [if_neg (dn q6)]
  by_cases q7 : x12 = 7
  · rw [if_pos (decide_eq_true q7)]
    obtain ⟨z, z1, z2, z3⟩ := odd_ok (d := d2) (by omega)
    exact ⟨z, bind_eq i2 (bind_eq z1 rfl), z2, z3⟩
  rw [if_neg (dn q7)]
  exact ⟨l, rfl, h, by omega⟩
theorem due_chart : T_law_due ("NoChart" : Str) = some (bitsOf "NoChart") := by decide +kernel
theorem cutL_both {α : Type} {l : List α} {a b : Int} (ha : 0 ≤ a) (hab : a ≤ b) (hb : b ≤ l.length) : (cutL l (some a) (some b)).length = (b - a).toNat := by
  unfold cutL HT.sIx
  simp only [if_neg (show ¬a < 0 by omega), if_neg (show ¬b < 0 by omega)]
  rw [List.length_take, List.length_drop]
  omega
theorem table_of {c : S_Chart} {t : Tb} (h : c.outs = t) (hl : t.length ≤ 1000) : T_Chart_table c = some t := by
  unfold T_Chart_table
  rw [h]
  exact bind_eq (lcP_of (by rw [LIM_eq]; omega)) (by simp)
theorem same_table {t : Tb} : T_law_same_table t (t.map some) = some true := by
  unfold T_law_same_table
  rw [if_neg (by simp)]
  rw [thenC_l (s := ()) (forC_pass fun r _ => ?_)]
  unfold T_law_same_table_b1
  rw [if_nt]
  rw [thenC_l (s := ()) (forC_pass fun e _ => ?_)]
  unfold T_law_same_table_b2
  rw [if_f (by cases e <;> rfl)]
theorem law_ok (ns : List Int) : Ok (T_law ns) fun r => r = true := by
  unfold T_law
  refine ok_bind (numbers_ok ns 210 (by decide) (by decide)) fun x1 hx => ?_
  obtain ⟨hl, hn⟩ := hx
  have hl : x1.length = 210 := hl
  obtain ⟨a0, e0, _, _⟩ := hn.at hl (k := 0) (by decide) (by decide)
  obtain ⟨a1, e1, _, _⟩ := hn.at hl (k := 1) (by decide) (by decide)
  obtain ⟨a2, e2, _, _⟩ := hn.at hl (k := 2) (by decide) (by decide)
  obtain ⟨a3, e3, _, _⟩ := hn.at hl (k := 3) (by decide) (by decide)
  refine ok_eq e0 (ok_eq (modT_of (by decide)) (ok_eq e1 (ok_eq (modT_of (by decide)) (ok_eq e2 (ok_eq (modT_of (by decide)) ?_)))))
  generalize hx3 : a0 % 5 = x3
  obtain ⟨K, hK, hK1, hK2⟩ : ∃ K : Nat, (1 : Int) + x3 = K ∧ 1 ≤ K ∧ K ≤ 5 := ⟨(1 + x3).toNat, by omega, by omega, by omega⟩
  refine ok_bind (Q := fun s : Int => 1 ≤ s ∧ s ≤ 30) (ok_ite (fun _ => ok_eq e1 (ok_eq (modT_of (by decide)) (ok_some ⟨by omega, by omega⟩))) fun _ => ok_some ⟨by omega, by omega⟩) fun s hs => ?_
  obtain ⟨S, hS, hS1, hS2⟩ : ∃ S : Nat, s = (S : Int) ∧ 1 ≤ S ∧ S ≤ 30 := ⟨s.toNat, by omega, by omega, by omega⟩
  subst hS
  refine ok_eq e3 (ok_eq (modT_of (by decide)) ?_)
  have hd : NumOk (cutL x1 (some 50) none) := fun x hx => hn x (cutL_mem hx)
  have hd2 : (cutL x1 (some 50) none).length = 160 := by rw [cutL_lo (by decide), List.length_drop, hl]; decide
  have hm : K * S ≤ 5 * 30 := Nat.mul_le_mul hK2 hS2
  rw [hK]
  refine ok_bind (table_ok (kinds := K) (size := S) hd (by omega) (by omega) (by omega)) fun t ht => ?_
  have F := ht.fit hK2 (by omega)
  have cn : Canon (chL K t) K S t := ⟨ht, ⟨hK1, hK2⟩, ⟨hS1, by omega⟩, rfl⟩
  have hd3 : NumOk (cutL x1 (some (5 : Int)) (some (9 : Int))) := fun y hy => hn y (cutL_mem hy)
  obtain ⟨z, z1, z2, z3⟩ := spoilt_ok (canon_lns cn hS2) hd3 (by rw [cutL_both (by omega) (by omega) (by omega)]; rfl)
  refine ok_eq (law_written F (by omega)) (ok_eq z1 ?_)
  obtain ⟨r, g1, g2⟩ := read_law z2 z3
  refine ok_eq g1 ?_
  cases r with
  | none =>
    have hr : T_read_chart (SX.S z) = some (.error "NoChart", ()) := by
      rcases read_any z2 z3 with e | ⟨K', S', t', c⟩
      · exact e
      · exact absurd c (g2 K' S' t')
    refine ok_eq (x := ((none : Option S_Chart), bitsOf "NoChart")) ?_ ?_
    · rw [hr]
      refine Eq.trans (b := if "NoChart" ∈ ["NoChart"] then some ((none : Option S_Chart), bitsOf "NoChart") else none) rfl (if_pos ?_)
      exact (show "NoChart" ∈ ["NoChart"] by decide)
    · rw [if_pos (show (none : Option (List (Option (List (Option Int))))).isNone = true from rfl)]
      exact ok_eq due_chart ⟨_, rfl, decide_eq_true rfl⟩
  | some t' =>
    obtain ⟨K', S', t2, c, rfl⟩ := g2
    obtain ⟨ch, hr, h1, h2⟩ := read_canon c z2 z3
    refine ok_eq (x := (some ch, ([] : List Bool))) (by rw [hr]; rfl) ?_
    rw [if_neg (fun e => nomatch e), if_pos (decide_eq_true rfl)]
    have s1 := c.s
    have hlen := c.tab.len
    cases t2 with
    | nil => simp at hlen; omega
    | cons r0 t2 =>
      have hr0 := c.tab.row r0 List.mem_cons_self
      refine ok_eq (x := true) ?_ ⟨true, rfl, rfl⟩
      refine bind_eq rfl (bind_eq rfl (bind_eq (ixT_of (x := some r0) (by decide) rfl) (bind_eq rfl (bind_eq (x := true) ?_ rfl))))
      rw [if_pos (decide_eq_true (by rw [h1, hr0]))]
      exact bind_eq rfl (bind_eq (table_of h2 (by omega)) (bind_eq rfl (bind_eq same_table rfl)))
theorem law_eq (ns : List Int) : ∃ e, G_law [iL ns] = some (.rt (.bl true) e) := by
  obtain ⟨r, h, rfl⟩ := law_ok ns
  obtain ⟨e, h1, _⟩ := tf_law ns h
  exact ⟨e, h1⟩

end Lw

namespace Lw
open PySem PySem.Spec PyProof.Rows L2 Mv
structure Tx (cl : Nv) (mg : Str → Option Value) (w : World) : Prop where
  f_range : mg "range" = none
  f_len : mg "len" = none
  f_list : mg "list" = none
  f_str : mg "str" = none
  f_int : mg "int" = none
  f_set : mg "set" = none
  f_isinstance : mg "isinstance" = none
  f_bool : mg "bool" = none
  f_ValueError : mg "ValueError" = none
  c_FIGURES : ∃ t, mg "FIGURES" = some (.str ("0123456789" : Str) t)
  c_MOST_KINDS : ∃ t, mg "MOST_KINDS" = some (.int 5 t)
  c_MOST_CHAMBERS : ∃ t, mg "MOST_CHAMBERS" = some (.int 700 t)
  g_NoChart : mg "NoChart" = some (.ref (cl "NoChart"))
  x_NoChart : PySem.W.excIn cl.K (cl "NoChart") He.veBase "ValueError.__new__" = true ∧ PySem.W.keepIn cl.K (.ref (cl "NoChart")) = true ∧ PySem.W.subIn cl.K (.ref (cl "NoChart")) (.type "BaseException") = some true ∧ PySem.W.typeIn cl.K (.ref (cl "NoChart")) = some (.type "type")
  n_NoMark : mg "NoMark" = some (.ref (cl "NoMark"))
  n_NoWay : mg "NoWay" = some (.ref (cl "NoWay"))
  n_NoKind : mg "NoKind" = some (.ref (cl "NoKind"))
  n_NoChart : mg "NoChart" = some (.ref (cl "NoChart"))
  n_NoChamber : mg "NoChamber" = some (.ref (cl "NoChamber"))
  n_NoHold : mg "NoHold" = some (.ref (cl "NoHold"))
  n_NoEntry : mg "NoEntry" = some (.ref (cl "NoEntry"))
  n_Full : mg "Full" = some (.ref (cl "Full"))
  n_Barred : mg "Barred" = some (.ref (cl "Barred"))
  n_NoHome : mg "NoHome" = some (.ref (cl "NoHome"))
  n_NoCave : mg "NoCave" = some (.ref (cl "NoCave"))
  n_CaveError : mg "CaveError" = some (.ref (cl "CaveError"))
  k_Chart : Cls cl.K (cl "Chart")
  a_Chart_kinds : NoAttr cl.K (cl "Chart") "kinds"
  a_Chart_outs : NoAttr cl.K (cl "Chart") "outs"
  a_Chart_ins : NoAttr cl.K (cl "Chart") "ins"
  bad : ∀ x ∈ (["NoChart"] : List String), ExF cl x
  z : True
theorem sc_law_numbers : FnScope N_law_numbers P_law_numbers (defScope sT_law_numbers) := ⟨rfl, rfl, rfl, by decide +kernel, rfl, by decide +kernel, by decide +kernel⟩
theorem ok_law_numbers {P : Program} {w : World} {cl : Nv} {mg : Str → Option Value} {base : Heap} {f : Addr} {fd : FuncData} (F : FunD cl.K "_law_numbers" "_law_numbers" (defArgs sT_law_numbers) (defBody sT_law_numbers) (defScope sT_law_numbers) [] [] f fd) (T : Tx cl mg w)  : FnOk P w cl.K mg base CX0 1 f fd P_law_numbers (spOf cl [.sc, .pn] (.fr (.ls .fz)) G_law_numbers) := by
  have S := sc_law_numbers
  refine fn_ok (k := 0) (t := t_law_numbers cl) F S rfl (by decide) (fun W => ss_law_numbers cl W) fun cdv A outer s H E hr => ?_
  exact (pss_cons (ps_set (i := 2) S.nd rfl (by first | exact Or.inl rfl | exact Or.inr rfl) (pe_lst pa_nil)) (pss_cons (ps_set (i := 3) S.nd rfl (by first | exact Or.inl rfl | exact Or.inr rfl) pe_int) (pss_cons (ps_for PassesOwn.never rfl (pi_list (pe_slice sl_list (pv 0) po_none (po_some pe_int))) (pg_name (i := 4) S.nd rfl (by first | exact Or.inl rfl | exact Or.inr rfl)) (pss_cons (ps_set (i := 3) S.nd rfl (by first | exact Or.inl rfl | exact Or.inr rfl) (pe_op op_mod (pe_op op_addA (pe_op op_addA (pe_op op_mulA (pv 3) pe_int) (pe_op op_mod (pv 4) pe_int)) pe_int) pe_int)) (pss_cons (ps_set (i := 5) S.nd rfl (by first | exact Or.inl rfl | exact Or.inr rfl) (pe_op op_sub (pv 4) (pe_op op_pow pe_int pe_int))) (pss_cons (ps_if (pt_cmpR op_lt (pv 5) pe_int (nomark _)) (pss_one (ps_expr (pe_bm PySem.F.plainAttrs_list PySem.F.slot_list_append PySem.F.type_list_append mt_append (pv 2) (pa_cons (pe_op op_mod (pv 4) pe_int) pa_nil)))) pss_nil) (pss_one (ps_for PassesOwn.never rfl (pi_range1 rfl T.f_range (pa_cons pe_int pa_nil)) (pg_name (i := 6) S.nd rfl (by first | exact Or.inl rfl | exact Or.inr rfl)) (pss_one (ps_if (pt_cmpR op_gt (pv 5) pe_int (nomark _)) (pss_cons (ps_expr (pe_bm PySem.F.plainAttrs_list PySem.F.slot_list_append PySem.F.type_list_append mt_append (pv 2) (pa_cons (pe_op op_mod (pv 5) pe_int) pa_nil))) (pss_one (ps_set (i := 5) S.nd rfl (by first | exact Or.inl rfl | exact Or.inr rfl) (pe_op op_fdiv (pv 5) pe_int)))) pss_nil)))))))) (pss_cons (ps_while PassesOwn.never (pt_cmpR op_lt (pe_callB call_lenA (by rfl) T.f_len (by decide +kernel) (pa_cons (pv 2) pa_nil)) (pv 1) (nomark _)) (pss_cons (ps_set (i := 3) S.nd rfl (by first | exact Or.inl rfl | exact Or.inr rfl) (pe_op op_mod (pe_op op_addA (pe_op op_addA (pe_op op_addA (pe_op op_mulA (pv 3) (pv 3)) (pe_op op_mulA pe_int (pv 3))) (pe_op op_mulA pe_int (pe_callB call_lenA (by rfl) T.f_len (by decide +kernel) (pa_cons (pv 2) pa_nil)))) pe_int) pe_int)) (pss_one (ps_expr (pe_bm PySem.F.plainAttrs_list PySem.F.slot_list_append PySem.F.type_list_append mt_append (pv 2) (pa_cons (pe_op op_mod (pe_op op_fdiv (pv 3) pe_int) pe_int) pa_nil)))))) (pss_one (ps_ret (pe_slice sl_list (pv 2) po_none (po_some (pv 1)))))))))
theorem cal_law_numbers {P : Program} {w : World} {cl : Nv} {mg : Str → Option Value} {base : Heap} {f : Addr} {fd : FuncData} (F : FunD cl.K "_law_numbers" "_law_numbers" (defArgs sT_law_numbers) (defBody sT_law_numbers) (defScope sT_law_numbers) [] [] f fd) (T : Tx cl mg w)  (gm : mg "_law_numbers" = some (.ref f)) : Cal P w cl mg base CX0 1 "_law_numbers" P_law_numbers (spOf cl [.sc, .pn] (.fr (.ls .fz)) G_law_numbers) :=
  ⟨f, fd, gm, F.kp, F.bindsN fun _ _ _ _ _ _ us hl => (match us, hl with | [_, _], _ => rfl), ok_law_numbers F T ⟩

theorem sc_law_table : FnScope N_law_table P_law_table (defScope sT_law_table) := ⟨rfl, rfl, rfl, by decide +kernel, rfl, by decide +kernel, by decide +kernel⟩
theorem ok_law_table {P : Program} {w : World} {cl : Nv} {mg : Str → Option Value} {base : Heap} {f : Addr} {fd : FuncData} (F : FunD cl.K "_law_table" "_law_table" (defArgs sT_law_table) (defBody sT_law_table) (defScope sT_law_table) [] [] f fd) (T : Tx cl mg w)  : FnOk P w cl.K mg base CX0 1 f fd P_law_table (spOf cl [.pn, .pn, .pn, .pn] (.fr (.ls (.ls .fz))) G_law_table) := by
  have S := sc_law_table
  refine fn_ok (k := 0) (t := t_law_table cl) F S rfl (by decide) (fun W => ss_law_table cl W) fun cdv A outer s H E hr => ?_
  exact (pss_cons (ps_setLc (i := 4) (own := [(("_law_c" : Str), 5)]) (g := gName 5) rfl S.nd rfl rfl (sw_true rfl rfl rfl (by decide +kernel)) (pi_range1 rfl T.f_range (pa_cons (pv 1) pa_nil)) (blkOk_by (N := N_law_table) (sc := defScope sT_law_table) (own := [(("_law_c" : Str), 5)]) (by decide +kernel)) (fun _ _ _ _ _ => pg_name (i := 5) S.nd rfl (by first | exact Or.inl rfl | exact Or.inr rfl)) (fun _ _ _ _ _ => pts_nil) (fun _ _ _ _ _ => (pe_lst pa_nil))) (pss_cons (ps_for PassesOwn.never rfl (pi_range1 rfl T.f_range (pa_cons (pv 0) pa_nil)) (pg_name (i := 6) S.nd rfl (by first | exact Or.inl rfl | exact Or.inr rfl)) (pss_cons (ps_set (i := 7) S.nd rfl (by first | exact Or.inl rfl | exact Or.inr rfl) (pe_listRg rfl (by rfl) T.f_list (prg_1 (by rfl) T.f_range (pv 1)))) (pss_one (ps_for PassesOwn.never rfl (pi_range1 rfl T.f_range (pa_cons (pv 1) pa_nil)) (pg_name (i := 5) S.nd rfl (by first | exact Or.inl rfl | exact Or.inr rfl)) (pss_cons (ps_set (i := 8) S.nd rfl (by first | exact Or.inl rfl | exact Or.inr rfl) (pe_ix ix_seq (pv 2) (pe_op op_addA (pe_op op_mulA (pv 6) (pv 1)) (pv 5)) (fun _ _ => rfl))) (pss_cons (ps_set (i := 9) S.nd rfl (by first | exact Or.inl rfl | exact Or.inr rfl) (pe_bm PySem.F.plainAttrs_list PySem.F.slot_list_pop PySem.F.type_list_pop mt_popAt (pv 7) (pa_cons (pe_op op_mod (pv 8) (pe_callB call_lenA (by rfl) T.f_len (by decide +kernel) (pa_cons (pv 7) pa_nil))) pa_nil))) (pss_cons (ps_if (pt_cmpR op_lt (pe_op op_mod (pe_op op_fdiv (pv 8) pe_int) pe_int) (pv 3) (nomark _)) (pss_one (ps_set (i := 9) S.nd rfl (by first | exact Or.inl rfl | exact Or.inr rfl) pe_non)) pss_nil) (pss_one (ps_expr (pe_bm PySem.F.plainAttrs_list PySem.F.slot_list_append PySem.F.type_list_append mt_append (pe_ix ix_seq (pv 4) (pv 5) (fun _ _ => rfl)) (pa_cons (pv 9) pa_nil))))))))))) (pss_one (ps_ret (pv 4)))))
theorem cal_law_table {P : Program} {w : World} {cl : Nv} {mg : Str → Option Value} {base : Heap} {f : Addr} {fd : FuncData} (F : FunD cl.K "_law_table" "_law_table" (defArgs sT_law_table) (defBody sT_law_table) (defScope sT_law_table) [] [] f fd) (T : Tx cl mg w)  (gm : mg "_law_table" = some (.ref f)) : Cal P w cl mg base CX0 1 "_law_table" P_law_table (spOf cl [.pn, .pn, .pn, .pn] (.fr (.ls (.ls .fz))) G_law_table) :=
  ⟨f, fd, gm, F.kp, F.bindsN fun _ _ _ _ _ _ us hl => (match us, hl with | [_, _, _, _], _ => rfl), ok_law_table F T ⟩

theorem sc_law_written : FnScope N_law_written P_law_written (defScope sT_law_written) := ⟨rfl, rfl, rfl, by decide +kernel, rfl, by decide +kernel, by decide +kernel⟩
theorem ok_law_written {P : Program} {w : World} {cl : Nv} {mg : Str → Option Value} {base : Heap} {f : Addr} {fd : FuncData} (F : FunD cl.K "_law_written" "_law_written" (defArgs sT_law_written) (defBody sT_law_written) (defScope sT_law_written) [] [] f fd) (T : Tx cl mg w)  : FnOk P w cl.K mg base CX0 1 f fd P_law_written (spOf cl [.pn, .pn] .pu G_law_written) := by
  have S := sc_law_written
  refine fn_ok (k := 0) (t := t_law_written cl) F S rfl (by decide) (fun W => ss_law_written cl W) fun cdv A outer s H E hr => ?_
  exact (pss_cons (ps_set (i := 2) S.nd rfl (by first | exact Or.inl rfl | exact Or.inr rfl) (pe_lst (pa_cons (pe_op op_addA (pe_op op_addA (pe_op op_addA pe_str (pe_callTy call_str_int (by rfl) T.f_str (by decide +kernel) (pa_cons (pv 0) pa_nil))) pe_str) (pe_callTy call_str_int (by rfl) T.f_str (by decide +kernel) (pa_cons (pe_callB call_lenA (by rfl) T.f_len (by decide +kernel) (pa_cons (pv 1) pa_nil)) pa_nil))) pa_nil))) (pss_cons (ps_for PassesOwn.never rfl (pi_list (pv 1)) (pg_name (i := 3) S.nd rfl (by first | exact Or.inl rfl | exact Or.inr rfl)) (pss_one (ps_expr (pe_bm PySem.F.plainAttrs_list PySem.F.slot_list_append PySem.F.type_list_append mt_append (pv 2) (pa_cons (pe_m1 PySem.F.slot_str_join PySem.F.type_str_join mt_join pe_str (pe_lc (own := [(("_law_end" : Str), 4)]) (g := gName 4) rfl S.nd (pi_list (pv 3)) (blkOk_by (N := N_law_written) (sc := defScope sT_law_written) (own := [(("_law_end" : Str), 4)]) (by decide +kernel)) (fun _ _ _ _ _ => pg_name (i := 4) S.nd rfl (by first | exact Or.inl rfl | exact Or.inr rfl)) (fun _ _ _ _ _ => pts_nil) (fun _ _ _ _ _ => (pe_ifExp (pt_cmpR op_isN (pv 4) pe_non (nomark _)) pe_str (pe_callTy call_str_int (by rfl) T.f_str (by decide +kernel) (pa_cons (pv 4) pa_nil)))))) pa_nil))))) (pss_one (ps_ret (pe_m1 PySem.F.slot_str_join PySem.F.type_str_join mt_join pe_str (pv 2))))))
theorem cal_law_written {P : Program} {w : World} {cl : Nv} {mg : Str → Option Value} {base : Heap} {f : Addr} {fd : FuncData} (F : FunD cl.K "_law_written" "_law_written" (defArgs sT_law_written) (defBody sT_law_written) (defScope sT_law_written) [] [] f fd) (T : Tx cl mg w)  (gm : mg "_law_written" = some (.ref f)) : Cal P w cl mg base CX0 1 "_law_written" P_law_written (spOf cl [.pn, .pn] .pu G_law_written) :=
  ⟨f, fd, gm, F.kp, F.bindsN fun _ _ _ _ _ _ us hl => (match us, hl with | [_, _], _ => rfl), ok_law_written F T ⟩

theorem sc_law_sign : FnScope N_law_sign P_law_sign (defScope sT_law_sign) := ⟨rfl, rfl, rfl, by decide +kernel, rfl, by decide +kernel, by decide +kernel⟩
theorem ok_law_sign {P : Program} {w : World} {cl : Nv} {mg : Str → Option Value} {base : Heap} {f : Addr} {fd : FuncData} (F : FunD cl.K "_law_sign" "_law_sign" (defArgs sT_law_sign) (defBody sT_law_sign) (defScope sT_law_sign) [] [] f fd) (T : Tx cl mg w)  : FnOk P w cl.K mg base CX0 1 f fd P_law_sign (spOf cl [.pn] .pu G_law_sign) := by
  have S := sc_law_sign
  refine fn_ok (k := 0) (t := t_law_sign cl) F S rfl (by decide) (fun W => ss_law_sign cl W) fun cdv A outer s H E hr => ?_
  exact (pss_cons (ps_set (i := 1) S.nd rfl (by first | exact Or.inl rfl | exact Or.inr rfl) pe_str) (pss_cons (ps_set (i := 1) S.nd rfl (by first | exact Or.inl rfl | exact Or.inr rfl) (pe_op op_addA (pv 1) pe_str)) (pss_one (ps_ret (pe_ix ix_seq (pv 1) (pe_op op_mod (pv 0) pe_int) (fun _ _ => rfl))))))
theorem cal_law_sign {P : Program} {w : World} {cl : Nv} {mg : Str → Option Value} {base : Heap} {f : Addr} {fd : FuncData} (F : FunD cl.K "_law_sign" "_law_sign" (defArgs sT_law_sign) (defBody sT_law_sign) (defScope sT_law_sign) [] [] f fd) (T : Tx cl mg w)  (gm : mg "_law_sign" = some (.ref f)) : Cal P w cl mg base CX0 1 "_law_sign" P_law_sign (spOf cl [.pn] .pu G_law_sign) :=
  ⟨f, fd, gm, F.kp, F.bindsN fun _ _ _ _ _ _ us hl => (match us, hl with | [_], _ => rfl), ok_law_sign F T ⟩

theorem sc_law_odd : FnScope N_law_odd P_law_odd (defScope sT_law_odd) := ⟨rfl, rfl, rfl, by decide +kernel, rfl, by decide +kernel, by decide +kernel⟩
theorem ok_law_odd {P : Program} {w : World} {cl : Nv} {mg : Str → Option Value} {base : Heap} {f : Addr} {fd : FuncData} (F : FunD cl.K "_law_odd" "_law_odd" (defArgs sT_law_odd) (defBody sT_law_odd) (defScope sT_law_odd) [] [] f fd) (T : Tx cl mg w)  : FnOk P w cl.K mg base CX0 1 f fd P_law_odd (spOf cl [.pn] .pu G_law_odd) := by
  have S := sc_law_odd
  refine fn_ok (k := 0) (t := t_law_odd cl) F S rfl (by decide) (fun W => ss_law_odd cl W) fun cdv A outer s H E hr => ?_
  exact (pss_cons (ps_set (i := 1) S.nd rfl (by first | exact Or.inl rfl | exact Or.inr rfl) (pe_lst (pa_cons pe_str (pa_cons pe_str (pa_cons pe_str (pa_cons pe_str (pa_cons pe_str (pa_cons pe_str (pa_cons pe_str (pa_cons pe_str pa_nil)))))))))) (pss_cons (ps_set (i := 1) S.nd rfl (by first | exact Or.inl rfl | exact Or.inr rfl) (pe_op op_addA (pv 1) (pe_lst (pa_cons pe_str (pa_cons pe_str (pa_cons pe_str (pa_cons pe_str (pa_cons pe_str (pa_cons pe_str pa_nil))))))))) (pss_one (ps_ret (pe_ix ix_seq (pe_op op_addA (pv 1) (pe_lst (pa_cons pe_str (pa_cons pe_str pa_nil)))) (pe_op op_mod (pv 0) pe_int) (fun _ _ => rfl))))))
theorem cal_law_odd {P : Program} {w : World} {cl : Nv} {mg : Str → Option Value} {base : Heap} {f : Addr} {fd : FuncData} (F : FunD cl.K "_law_odd" "_law_odd" (defArgs sT_law_odd) (defBody sT_law_odd) (defScope sT_law_odd) [] [] f fd) (T : Tx cl mg w)  (gm : mg "_law_odd" = some (.ref f)) : Cal P w cl mg base CX0 1 "_law_odd" P_law_odd (spOf cl [.pn] .pu G_law_odd) :=
  ⟨f, fd, gm, F.kp, F.bindsN fun _ _ _ _ _ _ us hl => (match us, hl with | [_], _ => rfl), ok_law_odd F T ⟩

theorem sc_law_spoilt : FnScope N_law_spoilt P_law_spoilt (defScope sT_law_spoilt) := ⟨rfl, rfl, rfl, by decide +kernel, rfl, by decide +kernel, by decide +kernel⟩
theorem ok_law_spoilt {P : Program} {w : World} {cl : Nv} {mg : Str → Option Value} {base : Heap} {f : Addr} {fd : FuncData} (F : FunD cl.K "_law_spoilt" "_law_spoilt" (defArgs sT_law_spoilt) (defBody sT_law_spoilt) (defScope sT_law_spoilt) [] [] f fd) (T : Tx cl mg w) (hlaw_sign : Cal P w cl mg base CX0 1 "_law_sign" P_law_sign (spOf cl [.pn] .pu G_law_sign)) (hlaw_odd : Cal P w cl mg base CX0 1 "_law_odd" P_law_odd (spOf cl [.pn] .pu G_law_odd)) : FnOk P w cl.K mg base CX0 2 f fd P_law_spoilt (spOf cl [.pn, .pn] .pu G_law_spoilt) := by
  obtain ⟨flaw_sign, fdlaw_sign, glaw_sign, klaw_sign, blaw_sign, Glaw_sign⟩ := hlaw_sign
  obtain ⟨flaw_odd, fdlaw_odd, glaw_odd, klaw_odd, blaw_odd, Glaw_odd⟩ := hlaw_odd
  have S := sc_law_spoilt
  refine fn_ok (k := 1) (t := t_law_spoilt cl) F S rfl (by decide) (fun W => ss_law_spoilt cl W) fun cdv A outer s H E hr => ?_
  exact (pss_cons (ps_set (i := 2) S.nd rfl (by first | exact Or.inl rfl | exact Or.inr rfl) (pe_op op_mod (pe_ix ix_seq (pv 1) pe_int (fun _ _ => rfl)) (pe_callB call_lenA (by rfl) T.f_len (by decide +kernel) (pa_cons (pv 0) pa_nil)))) (pss_cons (ps_set (i := 3) S.nd rfl (by first | exact Or.inl rfl | exact Or.inr rfl) (pe_call Glaw_sign (hr.mono (by decide)) (by rfl) glaw_sign klaw_sign blaw_sign .nil pass0 (pa_cons (pe_ix ix_seq (pv 1) pe_int (fun _ _ => rfl)) pa_nil))) (pss_cons (ps_set (i := 4) S.nd rfl (by first | exact Or.inl rfl | exact Or.inr rfl) (pe_m1 PySem.F.slot_str_split PySem.F.type_str_split mt_split (pv 0) pe_str)) (pss_cons (ps_set (i := 5) S.nd rfl (by first | exact Or.inl rfl | exact Or.inr rfl) (pe_op op_mod (pe_ix ix_seq (pv 1) pe_int (fun _ _ => rfl)) (pe_callB call_lenA (by rfl) T.f_len (by decide +kernel) (pa_cons (pv 4) pa_nil)))) (pss_cons (ps_set (i := 6) S.nd rfl (by first | exact Or.inl rfl | exact Or.inr rfl) (pe_op op_mod (pe_ix ix_seq (pv 1) pe_int (fun _ _ => rfl)) (pe_callB call_lenA (by rfl) T.f_len (by decide +kernel) (pa_cons (pv 4) pa_nil)))) (pss_cons (ps_set (i := 7) S.nd rfl (by first | exact Or.inl rfl | exact Or.inr rfl) (pe_op op_mod (pe_ix ix_seq (pv 1) pe_int (fun _ _ => rfl)) pe_int)) (pss_cons (ps_if (pt_cmpR (op_eqD hr.units) (pv 7) pe_int (nomark _)) (pss_one (ps_ret (pe_op op_addA (pe_op op_addA (pe_slice sl_str (pv 0) po_none (po_some (pv 2))) (pv 3)) (pe_slice sl_str (pv 0) (po_some (pv 2)) po_none)))) pss_nil) (pss_cons (ps_if (pt_cmpR (op_eqD hr.units) (pv 7) pe_int (nomark _)) (pss_one (ps_ret (pe_op op_addA (pe_slice sl_str (pv 0) po_none (po_some (pv 2))) (pe_slice sl_str (pv 0) (po_some (pe_op op_addA (pv 2) pe_int)) po_none)))) pss_nil) (pss_cons (ps_if (pt_cmpR (op_eqD hr.units) (pv 7) pe_int (nomark _)) (pss_one (ps_ret (pe_op op_addA (pe_op op_addA (pe_slice sl_str (pv 0) po_none (po_some (pv 2))) (pv 3)) (pe_slice sl_str (pv 0) (po_some (pe_op op_addA (pv 2) pe_int)) po_none)))) pss_nil) (pss_cons (ps_if (pt_cmpR (op_eqD hr.units) (pv 7) pe_int (nomark _)) (pss_one (ps_ret (pe_m1 PySem.F.slot_str_join PySem.F.type_str_join mt_join pe_str (pe_op op_addA (pe_op op_addA (pe_slice sl_list (pv 4) po_none (po_some (pv 5))) (pe_lst (pa_cons (pe_ix ix_seq (pv 4) (pv 6) (fun _ _ => rfl)) pa_nil))) (pe_slice sl_list (pv 4) (po_some (pe_op op_addA (pv 5) pe_int)) po_none))))) pss_nil) (pss_cons (ps_if (pt_cmpR (op_eqD hr.units) (pv 7) pe_int (nomark _)) (pss_one (ps_ret (pe_m1 PySem.F.slot_str_join PySem.F.type_str_join mt_join pe_str (pe_op op_addA (pe_slice sl_list (pv 4) po_none (po_some (pv 5))) (pe_slice sl_list (pv 4) (po_some (pe_op op_addA (pv 5) pe_int)) po_none))))) pss_nil) (pss_cons (ps_if (pt_cmpR (op_eqD hr.units) (pv 7) pe_int (nomark _)) (pss_one (ps_ret (pe_op op_addA (pv 0) (pe_ix ix_seq (pe_lst (pa_cons pe_str (pa_cons pe_str (pa_cons pe_str (pa_cons pe_str pa_nil))))) (pe_op op_mod (pe_ix ix_seq (pv 1) pe_int (fun _ _ => rfl)) pe_int) (fun _ _ => rfl))))) pss_nil) (pss_cons (ps_if (pt_cmpR (op_eqD hr.units) (pv 7) pe_int (nomark _)) (pss_one (ps_ret (pe_call Glaw_odd (hr.mono (by decide)) (by rfl) glaw_odd klaw_odd blaw_odd .nil pass0 (pa_cons (pe_ix ix_seq (pv 1) pe_int (fun _ _ => rfl)) pa_nil)))) pss_nil) (pss_one (ps_ret (pv 0))))))))))))))))
theorem cal_law_spoilt {P : Program} {w : World} {cl : Nv} {mg : Str → Option Value} {base : Heap} {f : Addr} {fd : FuncData} (F : FunD cl.K "_law_spoilt" "_law_spoilt" (defArgs sT_law_spoilt) (defBody sT_law_spoilt) (defScope sT_law_spoilt) [] [] f fd) (T : Tx cl mg w) (hlaw_sign : Cal P w cl mg base CX0 1 "_law_sign" P_law_sign (spOf cl [.pn] .pu G_law_sign)) (hlaw_odd : Cal P w cl mg base CX0 1 "_law_odd" P_law_odd (spOf cl [.pn] .pu G_law_odd)) (gm : mg "_law_spoilt" = some (.ref f)) : Cal P w cl mg base CX0 2 "_law_spoilt" P_law_spoilt (spOf cl [.pn, .pn] .pu G_law_spoilt) :=
  ⟨f, fd, gm, F.kp, F.bindsN fun _ _ _ _ _ _ us hl => (match us, hl with | [_, _], _ => rfl), ok_law_spoilt F T hlaw_sign hlaw_odd⟩

theorem sc_law_number : FnScope N_law_number P_law_number (defScope sT_law_number) := ⟨rfl, rfl, rfl, by decide +kernel, rfl, by decide +kernel, by decide +kernel⟩
theorem ok_law_number {P : Program} {w : World} {cl : Nv} {mg : Str → Option Value} {base : Heap} {f : Addr} {fd : FuncData} (F : FunD cl.K "_law_number" "_law_number" (defArgs sT_law_number) (defBody sT_law_number) (defScope sT_law_number) [] [] f fd) (T : Tx cl mg w)  : FnOk P w cl.K mg base CX0 1 f fd P_law_number (spOf cl [.pn] .pu G_law_number) := by
  have S := sc_law_number
  refine fn_ok (k := 0) (t := t_law_number cl) F S rfl (by decide) (fun W => ss_law_number cl W) fun cdv A outer s H E hr => ?_
  exact (pss_cons (ps_if (PW.pt (pw_or (pt_cmpR (op_eqD hr.units) (pv 0) pe_str (nomark _)) (pw_or (pt_cmpR op_gt (pe_callB call_lenA (by rfl) T.f_len (by decide +kernel) (pa_cons (pv 0) pa_nil)) pe_int (nomark _)) (pw_or1 (PW.pt (pw_and (pt_cmpR op_gt (pe_callB call_lenA (by rfl) T.f_len (by decide +kernel) (pa_cons (pv 0) pa_nil)) pe_int (nomark _)) (pw_and1 (pt_cmpR (op_eqD hr.units) (pe_ix ix_seq (pv 0) pe_int (fun _ _ => rfl)) pe_str (nomark _))))))))) (pss_one (ps_ret pe_non)) pss_nil) (pss_cons (ps_for PassesOwn.never rfl (pi_str (pv 0)) (pg_name (i := 1) S.nd rfl (by first | exact Or.inl rfl | exact Or.inr rfl)) (pss_one (ps_if (pt_cmpR op_notIn_sign (pv 1) pe_str (by rfl)) (pss_one (ps_ret pe_non)) pss_nil))) (pss_one (ps_ret (pe_callTy call_int_str (by rfl) T.f_int (by decide +kernel) (pa_cons (pv 0) pa_nil))))))
theorem cal_law_number {P : Program} {w : World} {cl : Nv} {mg : Str → Option Value} {base : Heap} {f : Addr} {fd : FuncData} (F : FunD cl.K "_law_number" "_law_number" (defArgs sT_law_number) (defBody sT_law_number) (defScope sT_law_number) [] [] f fd) (T : Tx cl mg w)  (gm : mg "_law_number" = some (.ref f)) : Cal P w cl mg base CX0 1 "_law_number" P_law_number (spOf cl [.pn] .pu G_law_number) :=
  ⟨f, fd, gm, F.kp, F.bindsN fun _ _ _ _ _ _ us hl => (match us, hl with | [_], _ => rfl), ok_law_number F T ⟩

theorem sc_law_line : FnScope N_law_line P_law_line (defScope sT_law_line) := ⟨rfl, rfl, rfl, by decide +kernel, rfl, by decide +kernel, by decide +kernel⟩
theorem ok_law_line {P : Program} {w : World} {cl : Nv} {mg : Str → Option Value} {base : Heap} {f : Addr} {fd : FuncData} (F : FunD cl.K "_law_line" "_law_line" (defArgs sT_law_line) (defBody sT_law_line) (defScope sT_law_line) [] [] f fd) (T : Tx cl mg w) (hlaw_number : Cal P w cl mg base CX0 1 "_law_number" P_law_number (spOf cl [.pn] .pu G_law_number)) : FnOk P w cl.K mg base CX0 2 f fd P_law_line (spOf cl [.pn, .pn, .pn] .pu G_law_line) := by
  obtain ⟨flaw_number, fdlaw_number, glaw_number, klaw_number, blaw_number, Glaw_number⟩ := hlaw_number
  have S := sc_law_line
  refine fn_ok (k := 1) (t := t_law_line cl) F S rfl (by decide) (fun W => ss_law_line cl W) fun cdv A outer s H E hr => ?_
  exact (pss_cons (ps_set (i := 3) S.nd rfl (by first | exact Or.inl rfl | exact Or.inr rfl) (pe_lst pa_nil)) (pss_cons (ps_for PassesOwn.never rfl (pi_list (pe_m1 PySem.F.slot_str_split PySem.F.type_str_split mt_split (pv 0) pe_str)) (pg_name (i := 4) S.nd rfl (by first | exact Or.inl rfl | exact Or.inr rfl)) (pss_cons (ps_set (i := 5) S.nd rfl (by first | exact Or.inl rfl | exact Or.inr rfl) (pe_call Glaw_number (hr.mono (by decide)) (by rfl) glaw_number klaw_number blaw_number .nil pass0 (pa_cons (pv 4) pa_nil))) (pss_cons (ps_if (PW.pt (pw_and (pt_cmpR (op_neD hr.units) (pv 4) pe_str (nomark _)) (pw_and1 (PW.pt (pw_or (pt_cmpR op_isN (pv 5) pe_non (nomark _)) (pw_or1 (pt_cmpR op_ge (pv 5) (pv 2) (nomark _)))))))) (pss_one (ps_ret pe_non)) pss_nil) (pss_one (ps_expr (pe_bm PySem.F.plainAttrs_list PySem.F.slot_list_append PySem.F.type_list_append mt_append (pv 3) (pa_cons (pv 5) pa_nil))))))) (pss_cons (ps_if (pt_cmpR (op_neD hr.units) (pe_callB call_lenA (by rfl) T.f_len (by decide +kernel) (pa_cons (pv 3) pa_nil)) (pv 1) (nomark _)) (pss_one (ps_ret pe_non)) pss_nil) (pss_one (ps_ret (pv 3))))))
theorem cal_law_line {P : Program} {w : World} {cl : Nv} {mg : Str → Option Value} {base : Heap} {f : Addr} {fd : FuncData} (F : FunD cl.K "_law_line" "_law_line" (defArgs sT_law_line) (defBody sT_law_line) (defScope sT_law_line) [] [] f fd) (T : Tx cl mg w) (hlaw_number : Cal P w cl mg base CX0 1 "_law_number" P_law_number (spOf cl [.pn] .pu G_law_number)) (gm : mg "_law_line" = some (.ref f)) : Cal P w cl mg base CX0 2 "_law_line" P_law_line (spOf cl [.pn, .pn, .pn] .pu G_law_line) :=
  ⟨f, fd, gm, F.kp, F.bindsN fun _ _ _ _ _ _ us hl => (match us, hl with | [_, _, _], _ => rfl), ok_law_line F T hlaw_number⟩

theorem sc_law_read : FnScope N_law_read P_law_read (defScope sT_law_read) := ⟨rfl, rfl, rfl, by decide +kernel, rfl, by decide +kernel, by decide +kernel⟩
theorem ok_law_read {P : Program} {w : World} {cl : Nv} {mg : Str → Option Value} {base : Heap} {f : Addr} {fd : FuncData} (F : FunD cl.K "_law_read" "_law_read" (defArgs sT_law_read) (defBody sT_law_read) (defScope sT_law_read) [] [] f fd) (T : Tx cl mg w) (hlaw_number : Cal P w cl mg base CX0 1 "_law_number" P_law_number (spOf cl [.pn] .pu G_law_number)) (hlaw_line : Cal P w cl mg base CX0 2 "_law_line" P_law_line (spOf cl [.pn, .pn, .pn] .pu G_law_line)) : FnOk P w cl.K mg base CX0 3 f fd P_law_read (spOf cl [.pn] .pu G_law_read) := by
  obtain ⟨flaw_number, fdlaw_number, glaw_number, klaw_number, blaw_number, Glaw_number⟩ := hlaw_number
  obtain ⟨flaw_line, fdlaw_line, glaw_line, klaw_line, blaw_line, Glaw_line⟩ := hlaw_line
  have S := sc_law_read
  refine fn_ok (k := 2) (t := t_law_read cl) F S rfl (by decide) (fun W => ss_law_read cl W) fun cdv A outer s H E hr => ?_
  exact (pss_cons (ps_set (i := 1) S.nd rfl (by first | exact Or.inl rfl | exact Or.inr rfl) (pe_m1 PySem.F.slot_str_split PySem.F.type_str_split mt_split (pv 0) pe_str)) (pss_cons (ps_set (i := 2) S.nd rfl (by first | exact Or.inl rfl | exact Or.inr rfl) (pe_m1 PySem.F.slot_str_split PySem.F.type_str_split mt_split (pe_ix ix_seq (pv 1) pe_int (fun _ _ => rfl)) pe_str)) (pss_cons (ps_if (PW.pt (pw_or (pt_cmpR (op_neD hr.units) (pe_callB call_lenA (by rfl) T.f_len (by decide +kernel) (pa_cons (pv 2) pa_nil)) pe_int (nomark _)) (pw_or1 (pt_cmpR (op_neD hr.units) (pe_ix ix_seq (pv 2) pe_int (fun _ _ => rfl)) pe_str (nomark _))))) (pss_one (ps_ret pe_non)) pss_nil) (pss_cons (ps_set (i := 3) S.nd rfl (by first | exact Or.inl rfl | exact Or.inr rfl) (pe_call Glaw_number (hr.mono (by decide)) (by rfl) glaw_number klaw_number blaw_number .nil pass0 (pa_cons (pe_ix ix_seq (pv 2) pe_int (fun _ _ => rfl)) pa_nil))) (pss_cons (ps_set (i := 4) S.nd rfl (by first | exact Or.inl rfl | exact Or.inr rfl) (pe_call Glaw_number (hr.mono (by decide)) (by rfl) glaw_number klaw_number blaw_number .nil pass0 (pa_cons (pe_ix ix_seq (pv 2) pe_int (fun _ _ => rfl)) pa_nil))) (pss_cons (ps_if (PW.pt (pw_or (pt_cmpR op_isN (pv 3) pe_non (nomark _)) (pw_or (pt_cmpR op_isN (pv 4) pe_non (nomark _)) (pw_or (pt_cmpR op_lt (pv 3) pe_int (nomark _)) (pw_or (pt_cmpR op_gt (pv 3) pe_int (nomark _)) (pw_or (pt_cmpR op_lt (pv 4) pe_int (nomark _)) (pw_or (pt_cmpR (op_neD hr.units) (pv 4) (pe_op op_sub (pe_callB call_lenA (by rfl) T.f_len (by decide +kernel) (pa_cons (pv 1) pa_nil)) pe_int) (nomark _)) (pw_or1 (pt_cmpR op_gt (pv 4) pe_int (nomark _)))))))))) (pss_one (ps_ret pe_non)) pss_nil) (pss_cons (ps_setLc (i := 5) (own := [(("_law_line_here" : Str), 6)]) (g := gName 6) rfl S.nd rfl rfl (sw_true rfl rfl rfl (by decide +kernel)) (pi_list (pe_slice sl_list (pv 1) (po_some pe_int) po_none)) (blkOk_by (N := N_law_read) (sc := defScope sT_law_read) (own := [(("_law_line_here" : Str), 6)]) (by decide +kernel)) (fun _ _ _ _ _ => pg_name (i := 6) S.nd rfl (by first | exact Or.inl rfl | exact Or.inr rfl)) (fun _ _ _ _ _ => pts_nil) (fun _ _ _ _ _ => (pe_call Glaw_line (hr.mono (by decide)) (by rfl) glaw_line klaw_line blaw_line .nil pass0 (pa_cons (pv 6) (pa_cons (pv 3) (pa_cons (pv 4) pa_nil)))))) (pss_cons (ps_if (pt_cmpR (op_inD (un65 hr)) pe_non (pv 5) (by rfl)) (pss_one (ps_ret pe_non)) pss_nil) (pss_cons (ps_for PassesOwn.never rfl (pi_range1 rfl T.f_range (pa_cons (pv 3) pa_nil)) (pg_name (i := 7) S.nd rfl (by first | exact Or.inl rfl | exact Or.inr rfl)) (pss_cons (ps_setLc (i := 8) (own := [(("_law_outs" : Str), 9)]) (g := gName 9) rfl S.nd rfl rfl (sw_true rfl rfl rfl (by decide +kernel)) (pi_list (pv 5)) (blkOk_by (N := N_law_read) (sc := defScope sT_law_read) (own := [(("_law_outs" : Str), 9)]) (by decide +kernel)) (fun _ _ _ _ _ => pg_name (i := 9) S.nd rfl (by first | exact Or.inl rfl | exact Or.inr rfl)) (fun _ _ _ _ _ => pts_one (pt_cmpR op_notN (pe_ix ix_seq (pv 9) (pv 7) (fun _ _ => rfl)) pe_non (nomark _))) (fun _ _ _ _ _ => (pe_ix ix_seq (pv 9) (pv 7) (fun _ _ => rfl)))) (pss_one (ps_if (pt_cmpR (op_neD hr.units) (pe_lenSetN rfl (by rfl) T.f_len (by rfl) T.f_set (pv 8)) (pe_callB call_lenA (by rfl) T.f_len (by decide +kernel) (pa_cons (pv 8) pa_nil)) (nomark _)) (pss_one (ps_ret pe_non)) pss_nil)))) (pss_one (ps_ret (pv 5))))))))))))
theorem cal_law_read {P : Program} {w : World} {cl : Nv} {mg : Str → Option Value} {base : Heap} {f : Addr} {fd : FuncData} (F : FunD cl.K "_law_read" "_law_read" (defArgs sT_law_read) (defBody sT_law_read) (defScope sT_law_read) [] [] f fd) (T : Tx cl mg w) (hlaw_number : Cal P w cl mg base CX0 1 "_law_number" P_law_number (spOf cl [.pn] .pu G_law_number)) (hlaw_line : Cal P w cl mg base CX0 2 "_law_line" P_law_line (spOf cl [.pn, .pn, .pn] .pu G_law_line)) (gm : mg "_law_read" = some (.ref f)) : Cal P w cl mg base CX0 3 "_law_read" P_law_read (spOf cl [.pn] .pu G_law_read) :=
  ⟨f, fd, gm, F.kp, F.bindsN fun _ _ _ _ _ _ us hl => (match us, hl with | [_], _ => rfl), ok_law_read F T hlaw_number hlaw_line⟩

theorem sc_count_of : FnScope N_count_of P_count_of (defScope sT_count_of) := ⟨rfl, rfl, rfl, by decide +kernel, rfl, by decide +kernel, by decide +kernel⟩
theorem ok_count_of {P : Program} {w : World} {cl : Nv} {mg : Str → Option Value} {base : Heap} {f : Addr} {fd : FuncData} (F : FunD cl.K "count_of" "count_of" (defArgs sT_count_of) (defBody sT_count_of) (defScope sT_count_of) [] [] f fd) (T : Tx cl mg w)  : FnOk P w cl.K mg base (L2.CX P w) 1 f fd P_count_of (spOf cl [.pn] .pu G_count_of) := by
  have S := sc_count_of
  refine fn_okX (k := 0) (t := t_count_of cl) F S rfl (by decide) (fun W => ss_count_of cl W) fun cdv A outer s H E hr => ?_
  exact (pss_cons (ps_if (PW.pt (pw_or (pt_cmpR op_lt (pe_callB call_lenA (by rfl) T.f_len (by decide +kernel) (pa_cons (pv 0) pa_nil)) pe_int (nomark _)) (pw_or1 (pt_cmpR op_gt (pe_callB call_lenA (by rfl) T.f_len (by decide +kernel) (pa_cons (pv 0) pa_nil)) pe_int (nomark _))))) (pss_one (ps_raise rfl (takes_of rfl rfl rfl rfl) (pmk_own PySem.F.excBase_ValueError T.x_NoChart.1 T.g_NoChart T.x_NoChart.2.1 (raises_own T.x_NoChart.2.2.1 T.x_NoChart.2.2.2) (by exact rfl)))) pss_nil) (pss_cons (ps_for (passes_of rfl) rfl (pi_str (pv 0)) (pg_name (i := 1) S.nd rfl (by first | exact Or.inl rfl | exact Or.inr rfl)) (pss_one (ps_if (pt_cmpR op_notIn_sign (pv 1) (pe_glob rfl T.c_FIGURES.choose_spec ⟨_, rfl⟩) (by rfl)) (pss_one (ps_raise rfl (takes_of rfl rfl rfl rfl) (pmk_own PySem.F.excBase_ValueError T.x_NoChart.1 T.g_NoChart T.x_NoChart.2.1 (raises_own T.x_NoChart.2.2.1 T.x_NoChart.2.2.2) (by exact rfl)))) pss_nil))) (pss_one (ps_ret (pe_callTy call_int_str (by rfl) T.f_int (by decide +kernel) (pa_cons (pv 0) pa_nil))))))
theorem cal_count_of {P : Program} {w : World} {cl : Nv} {mg : Str → Option Value} {base : Heap} {f : Addr} {fd : FuncData} (F : FunD cl.K "count_of" "count_of" (defArgs sT_count_of) (defBody sT_count_of) (defScope sT_count_of) [] [] f fd) (T : Tx cl mg w)  (gm : mg "count_of" = some (.ref f)) : Cal P w cl mg base (L2.CX P w) 1 "count_of" P_count_of (spOf cl [.pn] .pu G_count_of) :=
  ⟨f, fd, gm, F.kp, F.bindsN fun _ _ _ _ _ _ us hl => (match us, hl with | [_], _ => rfl), ok_count_of F T ⟩

theorem sc_entry_of : FnScope N_entry_of P_entry_of (defScope sT_entry_of) := ⟨rfl, rfl, rfl, by decide +kernel, rfl, by decide +kernel, by decide +kernel⟩
theorem ok_entry_of {P : Program} {w : World} {cl : Nv} {mg : Str → Option Value} {base : Heap} {f : Addr} {fd : FuncData} (F : FunD cl.K "entry_of" "entry_of" (defArgs sT_entry_of) (defBody sT_entry_of) (defScope sT_entry_of) [] [] f fd) (T : Tx cl mg w) (hcount_of : Cal P w cl mg base (L2.CX P w) 1 "count_of" P_count_of (spOf cl [.pn] .pu G_count_of)) : FnOk P w cl.K mg base (L2.CX P w) 2 f fd P_entry_of (spOf cl [.pn] .pu G_entry_of) := by
  obtain ⟨fcount_of, fdcount_of, gcount_of, kcount_of, bcount_of, Gcount_of⟩ := hcount_of
  have S := sc_entry_of
  refine fn_okX (k := 1) (t := t_entry_of cl) F S rfl (by decide) (fun W => ss_entry_of cl W) fun cdv A outer s H E hr => ?_
  exact (pss_cons (ps_if (pt_cmpR (op_eqD hr.units) (pv 0) pe_str (nomark _)) (pss_one (ps_ret pe_non)) pss_nil) (pss_one (ps_ret (pe_callS Gcount_of (hr.mono (by decide)) (by rfl) gcount_of kcount_of bcount_of (fun σ => passAt (takes_of rfl rfl rfl rfl) σ) (pa_cons (pv 0) pa_nil)))))
theorem cal_entry_of {P : Program} {w : World} {cl : Nv} {mg : Str → Option Value} {base : Heap} {f : Addr} {fd : FuncData} (F : FunD cl.K "entry_of" "entry_of" (defArgs sT_entry_of) (defBody sT_entry_of) (defScope sT_entry_of) [] [] f fd) (T : Tx cl mg w) (hcount_of : Cal P w cl mg base (L2.CX P w) 1 "count_of" P_count_of (spOf cl [.pn] .pu G_count_of)) (gm : mg "entry_of" = some (.ref f)) : Cal P w cl mg base (L2.CX P w) 2 "entry_of" P_entry_of (spOf cl [.pn] .pu G_entry_of) :=
  ⟨f, fd, gm, F.kp, F.bindsN fun _ _ _ _ _ _ us hl => (match us, hl with | [_], _ => rfl), ok_entry_of F T hcount_of⟩

theorem sc_rows_fit : FnScope N_rows_fit P_rows_fit (defScope sT_rows_fit) := ⟨rfl, rfl, rfl, by decide +kernel, rfl, by decide +kernel, by decide +kernel⟩
theorem ok_rows_fit {P : Program} {w : World} {cl : Nv} {mg : Str → Option Value} {base : Heap} {f : Addr} {fd : FuncData} (F : FunD cl.K "rows_fit" "rows_fit" (defArgs sT_rows_fit) (defBody sT_rows_fit) (defScope sT_rows_fit) [] [] f fd) (T : Tx cl mg w)  : FnOk P w cl.K mg base CX0 1 f fd P_rows_fit (spOf cl [.pn, .pn] .pu G_rows_fit) := by
  have S := sc_rows_fit
  refine fn_ok (k := 0) (t := t_rows_fit cl) F S rfl (by decide) (fun W => ss_rows_fit cl W) fun cdv A outer s H E hr => ?_
  exact (pss_cons (ps_for PassesOwn.never rfl (pi_list (pv 1)) (pg_name (i := 2) S.nd rfl (by first | exact Or.inl rfl | exact Or.inr rfl)) (pss_cons (ps_if (pt_cmpR (op_neD hr.units) (pe_callB call_lenA (by rfl) T.f_len (by decide +kernel) (pa_cons (pv 2) pa_nil)) (pv 0) (nomark _)) (pss_one (ps_ret pe_bl)) pss_nil) (pss_one (ps_for PassesOwn.never rfl (pi_list (pv 2)) (pg_name (i := 3) S.nd rfl (by first | exact Or.inl rfl | exact Or.inr rfl)) (pss_one (ps_if (PW.pt (pw_and (pt_cmpR op_notN (pv 3) pe_non (nomark _)) (pw_and1 (PW.pt (pw_or (pt_cmpR op_lt (pv 3) pe_int (nomark _)) (pw_or1 (pt_cmpR op_ge (pv 3) (pe_callB call_lenA (by rfl) T.f_len (by decide +kernel) (pa_cons (pv 1) pa_nil)) (nomark _)))))))) (pss_one (ps_ret pe_bl)) pss_nil)))))) (pss_one (ps_ret pe_bl)))
theorem cal_rows_fit {P : Program} {w : World} {cl : Nv} {mg : Str → Option Value} {base : Heap} {f : Addr} {fd : FuncData} (F : FunD cl.K "rows_fit" "rows_fit" (defArgs sT_rows_fit) (defBody sT_rows_fit) (defScope sT_rows_fit) [] [] f fd) (T : Tx cl mg w)  (gm : mg "rows_fit" = some (.ref f)) : Cal P w cl mg base CX0 1 "rows_fit" P_rows_fit (spOf cl [.pn, .pn] .pu G_rows_fit) :=
  ⟨f, fd, gm, F.kp, F.bindsN fun _ _ _ _ _ _ us hl => (match us, hl with | [_, _], _ => rfl), ok_rows_fit F T ⟩

theorem sc_seen_back : FnScope N_seen_back P_seen_back (defScope sT_seen_back) := ⟨rfl, rfl, rfl, by decide +kernel, rfl, by decide +kernel, by decide +kernel⟩
theorem ok_seen_back {P : Program} {w : World} {cl : Nv} {mg : Str → Option Value} {base : Heap} {f : Addr} {fd : FuncData} (F : FunD cl.K "seen_back" "seen_back" (defArgs sT_seen_back) (defBody sT_seen_back) (defScope sT_seen_back) [] [] f fd) (T : Tx cl mg w)  : FnOk P w cl.K mg base CX0 1 f fd P_seen_back (spOf cl [.pn, .pn] .pu G_seen_back) := by
  have S := sc_seen_back
  refine fn_ok (k := 0) (t := t_seen_back cl) F S rfl (by decide) (fun W => ss_seen_back cl W) fun cdv A outer s H E hr => ?_
  exact (pss_cons (ps_set (i := 2) S.nd rfl (by first | exact Or.inl rfl | exact Or.inr rfl) (pe_lst pa_nil)) (pss_cons (ps_for PassesOwn.never rfl (pi_range1 rfl T.f_range (pa_cons (pe_callB call_lenA (by rfl) T.f_len (by decide +kernel) (pa_cons (pv 1) pa_nil)) pa_nil)) (pg_name (i := 3) S.nd rfl (by first | exact Or.inl rfl | exact Or.inr rfl)) (pss_one (ps_expr (pe_bm PySem.F.plainAttrs_list PySem.F.slot_list_append PySem.F.type_list_append mt_append (pv 2) (pa_cons (pe_lc (own := [(("kind" : Str), 4)]) (g := gName 4) rfl S.nd (pi_range1 rfl T.f_range (pa_cons (pv 0) pa_nil)) (blkOk_by (N := N_seen_back) (sc := defScope sT_seen_back) (own := [(("kind" : Str), 4)]) (by decide +kernel)) (fun _ _ _ _ _ => pg_name (i := 4) S.nd rfl (by first | exact Or.inl rfl | exact Or.inr rfl)) (fun _ _ _ _ _ => pts_nil) (fun _ _ _ _ _ => pe_non)) pa_nil))))) (pss_cons (ps_for PassesOwn.never rfl (pi_range1 rfl T.f_range (pa_cons (pe_callB call_lenA (by rfl) T.f_len (by decide +kernel) (pa_cons (pv 1) pa_nil)) pa_nil)) (pg_name (i := 3) S.nd rfl (by first | exact Or.inl rfl | exact Or.inr rfl)) (pss_one (ps_for PassesOwn.never rfl (pi_range1 rfl T.f_range (pa_cons (pv 0) pa_nil)) (pg_name (i := 5) S.nd rfl (by first | exact Or.inl rfl | exact Or.inr rfl)) (pss_cons (ps_set (i := 6) S.nd rfl (by first | exact Or.inl rfl | exact Or.inr rfl) (pe_ix ix_seq (pe_ix ix_seq (pv 1) (pv 3) (fun _ _ => rfl)) (pv 5) (fun _ _ => rfl))) (pss_one (ps_if (pt_cmpR op_notN (pv 6) pe_non (nomark _)) (pss_cons (ps_if (pt_cmpR op_notN (pe_ix ix_seq (pe_ix ix_seq (pv 2) (pv 6) (fun _ _ => rfl)) (pv 5) (fun _ _ => rfl)) pe_non (nomark _)) (pss_one (ps_ret pe_non)) pss_nil) (pss_one (ps_asg (pv 3) (pg_sub (pe_ix ix_seq (pv 2) (pv 6) (fun _ _ => rfl)) (pv 5) set_list)))) pss_nil)))))) (pss_one (ps_ret (pv 2))))))
theorem cal_seen_back {P : Program} {w : World} {cl : Nv} {mg : Str → Option Value} {base : Heap} {f : Addr} {fd : FuncData} (F : FunD cl.K "seen_back" "seen_back" (defArgs sT_seen_back) (defBody sT_seen_back) (defScope sT_seen_back) [] [] f fd) (T : Tx cl mg w)  (gm : mg "seen_back" = some (.ref f)) : Cal P w cl mg base CX0 1 "seen_back" P_seen_back (spOf cl [.pn, .pn] .pu G_seen_back) :=
  ⟨f, fd, gm, F.kp, F.bindsN fun _ _ _ _ _ _ us hl => (match us, hl with | [_, _], _ => rfl), ok_seen_back F T ⟩

theorem sc_Chart_init : FnScope N_Chart_init P_Chart_init (defScope sT_Chart_init) := ⟨rfl, rfl, rfl, by decide +kernel, rfl, by decide +kernel, by decide +kernel⟩
theorem ok_Chart_init {P : Program} {w : World} {cl : Nv} {mg : Str → Option Value} {base : Heap} {f : Addr} {fd : FuncData} (F : FunD cl.K "__init__" "Chart.__init__" (defArgs sT_Chart_init) (defBody sT_Chart_init) (defScope sT_Chart_init) [] [] f fd) (T : Tx cl mg w) (hrows_fit : Cal P w cl mg base CX0 1 "rows_fit" P_rows_fit (spOf cl [.pn, .pn] .pu G_rows_fit)) (hseen_back : Cal P w cl mg base CX0 1 "seen_back" P_seen_back (spOf cl [.pn, .pn] .pu G_seen_back)) : FnOk P w cl.K mg base (L2.CX P w) 2 f fd P_Chart_init (spOf cl [(.bo (.io 0)), .pn, .pn] .pu G_Chart_init) := by
  obtain ⟨frows_fit, fdrows_fit, grows_fit, krows_fit, brows_fit, Grows_fit⟩ := hrows_fit
  obtain ⟨fseen_back, fdseen_back, gseen_back, kseen_back, bseen_back, Gseen_back⟩ := hseen_back
  have S := sc_Chart_init
  refine fn_okX (k := 1) (t := t_Chart_init cl) F S rfl (by decide) (fun W => ss_Chart_init cl W T.k_Chart T.a_Chart_kinds T.a_Chart_outs T.a_Chart_ins) fun cdv A outer s H E hr => ?_
  exact (pss_cons (ps_if (PW.pt (pw_or (pt_cmpR op_lt (pv 1) pe_int (nomark _)) (pw_or1 (pt_cmpR op_gt (pv 1) (pe_glob rfl T.c_MOST_KINDS.choose_spec ⟨_, rfl⟩) (nomark _))))) (pss_one (ps_raise rfl (takes_of rfl rfl rfl rfl) (pmk_own PySem.F.excBase_ValueError T.x_NoChart.1 T.g_NoChart T.x_NoChart.2.1 (raises_own T.x_NoChart.2.2.1 T.x_NoChart.2.2.2) (by exact rfl)))) pss_nil) (pss_cons (ps_if (PW.pt (pw_or (pt_cmpR op_lt (pe_callB call_lenA (by rfl) T.f_len (by decide +kernel) (pa_cons (pv 2) pa_nil)) pe_int (nomark _)) (pw_or1 (pt_cmpR op_gt (pe_callB call_lenA (by rfl) T.f_len (by decide +kernel) (pa_cons (pv 2) pa_nil)) (pe_glob rfl T.c_MOST_CHAMBERS.choose_spec ⟨_, rfl⟩) (nomark _))))) (pss_one (ps_raise rfl (takes_of rfl rfl rfl rfl) (pmk_own PySem.F.excBase_ValueError T.x_NoChart.1 T.g_NoChart T.x_NoChart.2.1 (raises_own T.x_NoChart.2.2.1 T.x_NoChart.2.2.2) (by exact rfl)))) pss_nil) (pss_cons (ps_if (pt_not (pt_val (pe_call Grows_fit (hr.mono (by decide)) (by rfl) grows_fit krows_fit brows_fit .nil pass0 (pa_cons (pv 1) (pa_cons (pv 2) pa_nil))))) (pss_one (ps_raise rfl (takes_of rfl rfl rfl rfl) (pmk_own PySem.F.excBase_ValueError T.x_NoChart.1 T.g_NoChart T.x_NoChart.2.1 (raises_own T.x_NoChart.2.2.1 T.x_NoChart.2.2.2) (by exact rfl)))) pss_nil) (pss_cons (ps_set (i := 3) S.nd rfl (by first | exact Or.inl rfl | exact Or.inr rfl) (pe_call Gseen_back (hr.mono (by decide)) (by rfl) gseen_back kseen_back bseen_back .nil pass0 (pa_cons (pv 1) (pa_cons (pv 2) pa_nil)))) (pss_cons (ps_if (pt_cmpR op_isN (pv 3) pe_non (nomark _)) (pss_one (ps_raise rfl (takes_of rfl rfl rfl rfl) (pmk_own PySem.F.excBase_ValueError T.x_NoChart.1 T.g_NoChart T.x_NoChart.2.1 (raises_own T.x_NoChart.2.2.1 T.x_NoChart.2.2.2) (by exact rfl)))) pss_nil) (pss_cons (ps_fld (pv 0) (pv 1) rfl) (pss_cons (ps_fld (pv 0) (pe_lc (own := [(("row" : Str), 4)]) (g := gName 4) rfl S.nd (pi_list (pv 2)) (blkOk_by (N := N_Chart_init) (sc := defScope sT_Chart_init) (own := [(("row" : Str), 4)]) (by decide +kernel)) (fun _ _ _ _ _ => pg_name (i := 4) S.nd rfl (by first | exact Or.inl rfl | exact Or.inr rfl)) (fun _ _ _ _ _ => pts_nil) (fun _ _ _ _ _ => (pe_callTy call_list_of (by rfl) T.f_list (by decide +kernel) (pa_cons (pv 4) pa_nil)))) rfl) (pss_one (ps_fld (pv 0) (pv 3) rfl)))))))))
theorem cal_Chart_init {P : Program} {w : World} {cl : Nv} {mg : Str → Option Value} {base : Heap} {f : Addr} {fd : FuncData} (F : FunD cl.K "__init__" "Chart.__init__" (defArgs sT_Chart_init) (defBody sT_Chart_init) (defScope sT_Chart_init) [] [] f fd) (T : Tx cl mg w) (hrows_fit : Cal P w cl mg base CX0 1 "rows_fit" P_rows_fit (spOf cl [.pn, .pn] .pu G_rows_fit)) (hseen_back : Cal P w cl mg base CX0 1 "seen_back" P_seen_back (spOf cl [.pn, .pn] .pu G_seen_back)) (gm : mg "Chart" = some (.ref (cl "Chart"))) (mk : Mk cl.K (cl "Chart") f) : CalI P w cl mg base (L2.CX P w) 2 "Chart" P_Chart_init (spOf cl [(.bo (.io 0)), .pn, .pn] .pu G_Chart_init) :=
  ⟨f, fd, gm, mk, F.bindsN fun _ _ _ _ _ _ us hl => (match us, hl with | [_, _, _], _ => rfl), ok_Chart_init F T hrows_fit hseen_back⟩

theorem sc_Chart_size : FnScope N_Chart_size P_Chart_size (defScope sT_Chart_size) := ⟨rfl, rfl, rfl, by decide +kernel, rfl, by decide +kernel, by decide +kernel⟩
theorem ok_Chart_size {P : Program} {w : World} {cl : Nv} {mg : Str → Option Value} {base : Heap} {f : Addr} {fd : FuncData} (F : FunD cl.K "size" "Chart.size" (defArgs sT_Chart_size) (defBody sT_Chart_size) (defScope sT_Chart_size) [] [] f fd) (T : Tx cl mg w)  : FnOk P w cl.K mg base CX0 1 f fd P_Chart_size (spOf cl [.pn] .pu G_Chart_size) := by
  have S := sc_Chart_size
  refine fn_ok (k := 0) (t := t_Chart_size cl) F S rfl (by decide) (fun W => ss_Chart_size cl W T.k_Chart T.a_Chart_kinds T.a_Chart_outs T.a_Chart_ins) fun cdv A outer s H E hr => ?_
  exact (pss_one (ps_ret (pe_callB call_lenA (by rfl) T.f_len (by decide +kernel) (pa_cons (pe_fld (pv 0) rfl) pa_nil))))
theorem cal_Chart_size {P : Program} {w : World} {cl : Nv} {mg : Str → Option Value} {base : Heap} {f : Addr} {fd : FuncData} (F : FunD cl.K "size" "Chart.size" (defArgs sT_Chart_size) (defBody sT_Chart_size) (defScope sT_Chart_size) [] [] f fd) (T : Tx cl mg w)  (mt : Meth cl.K (cl "Chart") "size" f) : CalM P w cl mg base CX0 1 "Chart" "size" P_Chart_size (spOf cl [.pn] .pu G_Chart_size) :=
  ⟨f, fd, mt, F.bindsN fun _ _ _ _ _ _ us hl => (match us, hl with | [_], _ => rfl), ok_Chart_size F T ⟩

theorem sc_Chart_table : FnScope N_Chart_table P_Chart_table (defScope sT_Chart_table) := ⟨rfl, rfl, rfl, by decide +kernel, rfl, by decide +kernel, by decide +kernel⟩
theorem ok_Chart_table {P : Program} {w : World} {cl : Nv} {mg : Str → Option Value} {base : Heap} {f : Addr} {fd : FuncData} (F : FunD cl.K "table" "Chart.table" (defArgs sT_Chart_table) (defBody sT_Chart_table) (defScope sT_Chart_table) [] [] f fd) (T : Tx cl mg w)  : FnOk P w cl.K mg base CX0 1 f fd P_Chart_table (spOf cl [.pn] (.fr (.ls (.ls .fz))) G_Chart_table) := by
  have S := sc_Chart_table
  refine fn_ok (k := 0) (t := t_Chart_table cl) F S rfl (by decide) (fun W => ss_Chart_table cl W T.k_Chart T.a_Chart_kinds T.a_Chart_outs T.a_Chart_ins) fun cdv A outer s H E hr => ?_
  exact (pss_one (ps_ret (pe_lc (own := [(("row" : Str), 1)]) (g := gName 1) rfl S.nd (pi_list (pe_fld (pv 0) rfl)) (blkOk_by (N := N_Chart_table) (sc := defScope sT_Chart_table) (own := [(("row" : Str), 1)]) (by decide +kernel)) (fun _ _ _ _ _ => pg_name (i := 1) S.nd rfl (by first | exact Or.inl rfl | exact Or.inr rfl)) (fun _ _ _ _ _ => pts_nil) (fun _ _ _ _ _ => (pe_callTy call_list_of (by rfl) T.f_list (by decide +kernel) (pa_cons (pv 1) pa_nil))))))
theorem cal_Chart_table {P : Program} {w : World} {cl : Nv} {mg : Str → Option Value} {base : Heap} {f : Addr} {fd : FuncData} (F : FunD cl.K "table" "Chart.table" (defArgs sT_Chart_table) (defBody sT_Chart_table) (defScope sT_Chart_table) [] [] f fd) (T : Tx cl mg w)  (mt : Meth cl.K (cl "Chart") "table" f) : CalM P w cl mg base CX0 1 "Chart" "table" P_Chart_table (spOf cl [.pn] (.fr (.ls (.ls .fz))) G_Chart_table) :=
  ⟨f, fd, mt, F.bindsN fun _ _ _ _ _ _ us hl => (match us, hl with | [_], _ => rfl), ok_Chart_table F T ⟩

theorem sc_written : FnScope N_written P_written (defScope sT_written) := ⟨rfl, rfl, rfl, by decide +kernel, rfl, by decide +kernel, by decide +kernel⟩
theorem ok_written {P : Program} {w : World} {cl : Nv} {mg : Str → Option Value} {base : Heap} {f : Addr} {fd : FuncData} (F : FunD cl.K "written" "written" (defArgs sT_written) (defBody sT_written) (defScope sT_written) [] [] f fd) (T : Tx cl mg w) (hChart_size : CalM P w cl mg base CX0 1 "Chart" "size" P_Chart_size (spOf cl [.pn] .pu G_Chart_size)) (hChart_table : CalM P w cl mg base CX0 1 "Chart" "table" P_Chart_table (spOf cl [.pn] (.fr (.ls (.ls .fz))) G_Chart_table)) : FnOk P w cl.K mg base CX0 2 f fd P_written (spOf cl [.pn] .pu G_written) := by
  obtain ⟨fChart_size, fdChart_size, mChart_size, bChart_size, GChart_size⟩ := hChart_size
  obtain ⟨fChart_table, fdChart_table, mChart_table, bChart_table, GChart_table⟩ := hChart_table
  have S := sc_written
  refine fn_ok (k := 1) (t := t_written cl) F S rfl (by decide) (fun W => ss_written cl W T.k_Chart T.a_Chart_kinds T.a_Chart_outs T.a_Chart_ins) fun cdv A outer s H E hr => ?_
  exact (pss_cons (ps_set (i := 1) S.nd rfl (by first | exact Or.inl rfl | exact Or.inr rfl) (pe_meth0 (pv 0) T.k_Chart mChart_size GChart_size (hr.mono (by decide)) bChart_size .nil pass0)) (pss_cons (ps_set (i := 2) S.nd rfl (by first | exact Or.inl rfl | exact Or.inr rfl) (pe_lst (pa_cons (pe_joined (PJ.cons pe_str (PJ.cons (pe_fmt (pe_fld (pv 0) rfl)) (PJ.cons pe_str (PJ.cons (pe_fmt (pv 1)) PJ.nil))))) pa_nil))) (pss_cons (ps_for PassesOwn.never rfl (pi_list (pe_meth0 (pv 0) T.k_Chart mChart_table GChart_table (hr.mono (by decide)) bChart_table .nil pass0)) (pg_name (i := 3) S.nd rfl (by first | exact Or.inl rfl | exact Or.inr rfl)) (pss_cons (ps_set (i := 4) S.nd rfl (by first | exact Or.inl rfl | exact Or.inr rfl) (pe_lst pa_nil)) (pss_cons (ps_for PassesOwn.never rfl (pi_list (pv 3)) (pg_name (i := 5) S.nd rfl (by first | exact Or.inl rfl | exact Or.inr rfl)) (pss_one (ps_if (pt_cmpR op_isN (pv 5) pe_non (nomark _)) (pss_one (ps_expr (pe_bm PySem.F.plainAttrs_list PySem.F.slot_list_append PySem.F.type_list_append mt_append (pv 4) (pa_cons pe_str pa_nil)))) (pss_one (ps_expr (pe_bm PySem.F.plainAttrs_list PySem.F.slot_list_append PySem.F.type_list_append mt_append (pv 4) (pa_cons (pe_callTy call_str_int (by rfl) T.f_str (by decide +kernel) (pa_cons (pv 5) pa_nil)) pa_nil))))))) (pss_one (ps_expr (pe_bm PySem.F.plainAttrs_list PySem.F.slot_list_append PySem.F.type_list_append mt_append (pv 2) (pa_cons (pe_m1 PySem.F.slot_str_join PySem.F.type_str_join mt_join pe_str (pv 4)) pa_nil))))))) (pss_one (ps_ret (pe_m1 PySem.F.slot_str_join PySem.F.type_str_join mt_join pe_str (pv 2)))))))
theorem cal_written {P : Program} {w : World} {cl : Nv} {mg : Str → Option Value} {base : Heap} {f : Addr} {fd : FuncData} (F : FunD cl.K "written" "written" (defArgs sT_written) (defBody sT_written) (defScope sT_written) [] [] f fd) (T : Tx cl mg w) (hChart_size : CalM P w cl mg base CX0 1 "Chart" "size" P_Chart_size (spOf cl [.pn] .pu G_Chart_size)) (hChart_table : CalM P w cl mg base CX0 1 "Chart" "table" P_Chart_table (spOf cl [.pn] (.fr (.ls (.ls .fz))) G_Chart_table)) (gm : mg "written" = some (.ref f)) : Cal P w cl mg base CX0 2 "written" P_written (spOf cl [.pn] .pu G_written) :=
  ⟨f, fd, gm, F.kp, F.bindsN fun _ _ _ _ _ _ us hl => (match us, hl with | [_], _ => rfl), ok_written F T hChart_size hChart_table⟩

theorem sc_read_chart : FnScope N_read_chart P_read_chart (defScope sT_read_chart) := ⟨rfl, rfl, rfl, by decide +kernel, rfl, by decide +kernel, by decide +kernel⟩
theorem ok_read_chart {P : Program} {w : World} {cl : Nv} {mg : Str → Option Value} {base : Heap} {f : Addr} {fd : FuncData} (F : FunD cl.K "read_chart" "read_chart" (defArgs sT_read_chart) (defBody sT_read_chart) (defScope sT_read_chart) [] [] f fd) (T : Tx cl mg w) (hcount_of : Cal P w cl mg base (L2.CX P w) 1 "count_of" P_count_of (spOf cl [.pn] .pu G_count_of)) (hentry_of : Cal P w cl mg base (L2.CX P w) 2 "entry_of" P_entry_of (spOf cl [.pn] .pu G_entry_of)) (hChart_init : CalI P w cl mg base (L2.CX P w) 2 "Chart" P_Chart_init (spOf cl [(.bo (.io 0)), .pn, .pn] .pu G_Chart_init)) (hwritten : Cal P w cl mg base CX0 2 "written" P_written (spOf cl [.pn] .pu G_written)) : FnOk P w cl.K mg base (L2.CX P w) 4 f fd P_read_chart (spOf cl [.pn] .pu G_read_chart) := by
  obtain ⟨fcount_of, fdcount_of, gcount_of, kcount_of, bcount_of, Gcount_of⟩ := hcount_of
  obtain ⟨fentry_of, fdentry_of, gentry_of, kentry_of, bentry_of, Gentry_of⟩ := hentry_of
  obtain ⟨fChart_init, fdChart_init, gChart_init, MChart_init, bChart_init, GChart_init⟩ := hChart_init
  obtain ⟨fwritten, fdwritten, gwritten, kwritten, bwritten, Gwritten⟩ := hwritten
  have S := sc_read_chart
  refine fn_okX (k := 3) (t := t_read_chart cl) F S rfl (by decide) (fun W => ss_read_chart cl W T.k_Chart T.a_Chart_kinds T.a_Chart_outs T.a_Chart_ins) fun cdv A outer s H E hr => ?_
  exact (pss_cons (ps_set (i := 1) S.nd rfl (by first | exact Or.inl rfl | exact Or.inr rfl) (pe_m1 PySem.F.slot_str_split PySem.F.type_str_split mt_split (pv 0) pe_str)) (pss_cons (ps_set (i := 2) S.nd rfl (by first | exact Or.inl rfl | exact Or.inr rfl) (pe_m1 PySem.F.slot_str_split PySem.F.type_str_split mt_split (pe_ix ix_seq (pv 1) pe_int (fun _ _ => rfl)) pe_str)) (pss_cons (ps_if (PW.pt (pw_or (pt_cmpR (op_neD hr.units) (pe_callB call_lenA (by rfl) T.f_len (by decide +kernel) (pa_cons (pv 2) pa_nil)) pe_int (nomark _)) (pw_or1 (pt_cmpR (op_neD hr.units) (pe_ix ix_seq (pv 2) pe_int (fun _ _ => rfl)) pe_str (nomark _))))) (pss_one (ps_raise rfl (takes_of rfl rfl rfl rfl) (pmk_own PySem.F.excBase_ValueError T.x_NoChart.1 T.g_NoChart T.x_NoChart.2.1 (raises_own T.x_NoChart.2.2.1 T.x_NoChart.2.2.2) (by exact rfl)))) pss_nil) (pss_cons (ps_set (i := 3) S.nd rfl (by first | exact Or.inl rfl | exact Or.inr rfl) (pe_callS Gcount_of (hr.mono (by decide)) (by rfl) gcount_of kcount_of bcount_of (fun σ => passAt (takes_of rfl rfl rfl rfl) σ) (pa_cons (pe_ix ix_seq (pv 2) pe_int (fun _ _ => rfl)) pa_nil))) (pss_cons (ps_expr (pe_callS Gcount_of (hr.mono (by decide)) (by rfl) gcount_of kcount_of bcount_of (fun σ => passAt (takes_of rfl rfl rfl rfl) σ) (pa_cons (pe_ix ix_seq (pv 2) pe_int (fun _ _ => rfl)) pa_nil))) (pss_cons (ps_set (i := 4) S.nd rfl (by first | exact Or.inl rfl | exact Or.inr rfl) (pe_lst pa_nil)) (pss_cons (ps_for (passes_of rfl) rfl (pi_list (pe_slice sl_list (pv 1) (po_some pe_int) po_none)) (pg_name (i := 5) S.nd rfl (by first | exact Or.inl rfl | exact Or.inr rfl)) (pss_one (ps_expr (pe_bm PySem.F.plainAttrs_list PySem.F.slot_list_append PySem.F.type_list_append mt_append (pv 4) (pa_cons (pe_lcXT (own := [(("word" : Str), 6)]) (g := gName 6) rfl S.nd (takes_of rfl rfl rfl rfl) rfl rfl (pi_list (pe_m1 PySem.F.slot_str_split PySem.F.type_str_split mt_split (pv 5) pe_str)) (blkOk_by (N := N_read_chart) (sc := defScope sT_read_chart) (own := [(("word" : Str), 6)]) (by decide +kernel)) (fun _ _ _ _ _ _ => pg_name (i := 6) S.nd rfl (by first | exact Or.inl rfl | exact Or.inr rfl)) (fun _ _ _ _ _ _ _ hp => (pe_callS Gentry_of (hr.mono (by decide)) (by rfl) gentry_of kentry_of bentry_of hp (pa_cons (pv 6) pa_nil)))) pa_nil))))) (pss_cons (ps_set (i := 7) S.nd rfl (by first | exact Or.inl rfl | exact Or.inr rfl) (pe_makeE MChart_init GChart_init (hr.mono (by decide)) (by rfl) gChart_init bChart_init (fun σ => passAt (takes_of rfl rfl rfl rfl) σ) (pa_cons (pv 3) (pa_cons (pv 4) pa_nil)))) (pss_cons (ps_if (pt_cmpR (op_neD hr.units) (pe_call Gwritten (hr.mono (by decide)) (by rfl) gwritten kwritten bwritten .nil pass0 (pa_cons (pv 7) pa_nil)) (pv 0) (nomark _)) (pss_one (ps_raise rfl (takes_of rfl rfl rfl rfl) (pmk_own PySem.F.excBase_ValueError T.x_NoChart.1 T.g_NoChart T.x_NoChart.2.1 (raises_own T.x_NoChart.2.2.1 T.x_NoChart.2.2.2) (by exact rfl)))) pss_nil) (pss_one (ps_ret (pv 7))))))))))))
theorem cal_read_chart {P : Program} {w : World} {cl : Nv} {mg : Str → Option Value} {base : Heap} {f : Addr} {fd : FuncData} (F : FunD cl.K "read_chart" "read_chart" (defArgs sT_read_chart) (defBody sT_read_chart) (defScope sT_read_chart) [] [] f fd) (T : Tx cl mg w) (hcount_of : Cal P w cl mg base (L2.CX P w) 1 "count_of" P_count_of (spOf cl [.pn] .pu G_count_of)) (hentry_of : Cal P w cl mg base (L2.CX P w) 2 "entry_of" P_entry_of (spOf cl [.pn] .pu G_entry_of)) (hChart_init : CalI P w cl mg base (L2.CX P w) 2 "Chart" P_Chart_init (spOf cl [(.bo (.io 0)), .pn, .pn] .pu G_Chart_init)) (hwritten : Cal P w cl mg base CX0 2 "written" P_written (spOf cl [.pn] .pu G_written)) (gm : mg "read_chart" = some (.ref f)) : Cal P w cl mg base (L2.CX P w) 4 "read_chart" P_read_chart (spOf cl [.pn] .pu G_read_chart) :=
  ⟨f, fd, gm, F.kp, F.bindsN fun _ _ _ _ _ _ us hl => (match us, hl with | [_], _ => rfl), ok_read_chart F T hcount_of hentry_of hChart_init hwritten⟩

theorem sc_law_due : FnScope N_law_due P_law_due (defScope sT_law_due) := ⟨rfl, rfl, rfl, by decide +kernel, rfl, by decide +kernel, by decide +kernel⟩
theorem ok_law_due {P : Program} {w : World} {cl : Nv} {mg : Str → Option Value} {base : Heap} {f : Addr} {fd : FuncData} (F : FunD cl.K "_law_due" "_law_due" (defArgs sT_law_due) (defBody sT_law_due) (defScope sT_law_due) [] [] f fd) (T : Tx cl mg w)  : FnOk P w cl.K mg base CX0 1 f fd P_law_due (spOf cl [.pn] .pu G_law_due) := by
  have S := sc_law_due
  refine fn_ok (k := 0) (t := t_law_due cl) F S rfl (by decide) (fun W => ss_law_due cl W T.k_Chart T.a_Chart_kinds T.a_Chart_outs T.a_Chart_ins) fun cdv A outer s H E hr => ?_
  exact (pss_cons (ps_set (i := 1) S.nd rfl (by first | exact Or.inl rfl | exact Or.inr rfl) (pe_lst (pa_cons pe_str (pa_cons pe_str (pa_cons pe_str (pa_cons pe_str (pa_cons pe_str (pa_cons pe_str (pa_cons pe_str (pa_cons pe_str (pa_cons pe_str (pa_cons pe_str pa_nil)))))))))))) (pss_one (ps_ret (pe_op op_addA (pe_lst (pa_cons pe_bl pa_nil)) (pe_lc (own := [(("_law_name" : Str), 2)]) (g := gName 2) rfl S.nd (pi_list (pe_op op_addA (pv 1) (pe_lst (pa_cons pe_str pa_nil)))) (blkOk_by (N := N_law_due) (sc := defScope sT_law_due) (own := [(("_law_name" : Str), 2)]) (by decide +kernel)) (fun _ _ _ _ _ => pg_name (i := 2) S.nd rfl (by first | exact Or.inl rfl | exact Or.inr rfl)) (fun _ _ _ _ _ => pts_nil) (fun _ _ _ _ _ => (pe_cmpR (op_eqD hr.units) (pv 2) (pv 0) (nomark _))))))))
theorem cal_law_due {P : Program} {w : World} {cl : Nv} {mg : Str → Option Value} {base : Heap} {f : Addr} {fd : FuncData} (F : FunD cl.K "_law_due" "_law_due" (defArgs sT_law_due) (defBody sT_law_due) (defScope sT_law_due) [] [] f fd) (T : Tx cl mg w)  (gm : mg "_law_due" = some (.ref f)) : Cal P w cl mg base CX0 1 "_law_due" P_law_due (spOf cl [.pn] .pu G_law_due) :=
  ⟨f, fd, gm, F.kp, F.bindsN fun _ _ _ _ _ _ us hl => (match us, hl with | [_], _ => rfl), ok_law_due F T ⟩

theorem sc_law_same_table : FnScope N_law_same_table P_law_same_table (defScope sT_law_same_table) := ⟨rfl, rfl, rfl, by decide +kernel, rfl, by decide +kernel, by decide +kernel⟩
theorem ok_law_same_table {P : Program} {w : World} {cl : Nv} {mg : Str → Option Value} {base : Heap} {f : Addr} {fd : FuncData} (F : FunD cl.K "_law_same_table" "_law_same_table" (defArgs sT_law_same_table) (defBody sT_law_same_table) (defScope sT_law_same_table) [] [] f fd) (T : Tx cl mg w)  : FnOk P w cl.K mg base CX0 1 f fd P_law_same_table (spOf cl [.pn, .pn] .pu G_law_same_table) := by
  have S := sc_law_same_table
  refine fn_ok (k := 0) (t := t_law_same_table cl) F S rfl (by decide) (fun W => ss_law_same_table cl W T.k_Chart T.a_Chart_kinds T.a_Chart_outs T.a_Chart_ins) fun cdv A outer s H E hr => ?_
  exact (pss_cons (ps_if (PW.pt (pw_or (pt_not (pt_val (pe_callB call_isi (by rfl) T.f_isinstance (by decide +kernel) (pa_cons (pv 0) (pa_cons (pe_bltn (v := .ty "list") (by rfl) T.f_list (by decide +kernel) rfl) pa_nil))))) (pw_or1 (pt_cmpR (op_neD hr.units) (pv 0) (pv 1) (nomark _))))) (pss_one (ps_ret pe_bl)) pss_nil) (pss_cons (ps_for PassesOwn.never rfl (pi_list (pv 0)) (pg_name (i := 2) S.nd rfl (by first | exact Or.inl rfl | exact Or.inr rfl)) (pss_cons (ps_if (pt_not (pt_val (pe_callB call_isi (by rfl) T.f_isinstance (by decide +kernel) (pa_cons (pv 2) (pa_cons (pe_bltn (v := .ty "list") (by rfl) T.f_list (by decide +kernel) rfl) pa_nil))))) (pss_one (ps_ret pe_bl)) pss_nil) (pss_one (ps_for PassesOwn.never rfl (pi_list (pv 2)) (pg_name (i := 3) S.nd rfl (by first | exact Or.inl rfl | exact Or.inr rfl)) (pss_one (ps_if (PW.pt (pw_and (pt_cmpR op_notN (pv 3) pe_non (nomark _)) (pw_and1 (PW.pt (pw_or (pt_not (pt_val (pe_callB call_isi (by rfl) T.f_isinstance (by decide +kernel) (pa_cons (pv 3) (pa_cons (pe_bltn (v := .ty "int") (by rfl) T.f_int (by decide +kernel) rfl) pa_nil))))) (pw_or1 (pt_val (pe_callB call_isi (by rfl) T.f_isinstance (by decide +kernel) (pa_cons (pv 3) (pa_cons (pe_bltn (v := .ty "bool") (by rfl) T.f_bool (by decide +kernel) rfl) pa_nil)))))))))) (pss_one (ps_ret pe_bl)) pss_nil)))))) (pss_one (ps_ret pe_bl))))
theorem cal_law_same_table {P : Program} {w : World} {cl : Nv} {mg : Str → Option Value} {base : Heap} {f : Addr} {fd : FuncData} (F : FunD cl.K "_law_same_table" "_law_same_table" (defArgs sT_law_same_table) (defBody sT_law_same_table) (defScope sT_law_same_table) [] [] f fd) (T : Tx cl mg w)  (gm : mg "_law_same_table" = some (.ref f)) : Cal P w cl mg base CX0 1 "_law_same_table" P_law_same_table (spOf cl [.pn, .pn] .pu G_law_same_table) :=
  ⟨f, fd, gm, F.kp, F.bindsN fun _ _ _ _ _ _ us hl => (match us, hl with | [_, _], _ => rfl), ok_law_same_table F T ⟩

theorem sc_law : FnScope N_law P_law (defScope sT_law) := ⟨rfl, rfl, rfl, by decide +kernel, rfl, by decide +kernel, by decide +kernel⟩
theorem ok_law {P : Program} {w : World} {cl : Nv} {mg : Str → Option Value} {base : Heap} {f : Addr} {fd : FuncData} (F : FunD cl.K "law" "law" (defArgs sT_law) (defBody sT_law) (defScope sT_law) [] [] f fd) (T : Tx cl mg w) (hlaw_numbers : Cal P w cl mg base CX0 1 "_law_numbers" P_law_numbers (spOf cl [.sc, .pn] (.fr (.ls .fz)) G_law_numbers)) (hlaw_table : Cal P w cl mg base CX0 1 "_law_table" P_law_table (spOf cl [.pn, .pn, .pn, .pn] (.fr (.ls (.ls .fz))) G_law_table)) (hlaw_spoilt : Cal P w cl mg base CX0 2 "_law_spoilt" P_law_spoilt (spOf cl [.pn, .pn] .pu G_law_spoilt)) (hlaw_written : Cal P w cl mg base CX0 1 "_law_written" P_law_written (spOf cl [.pn, .pn] .pu G_law_written)) (hlaw_read : Cal P w cl mg base CX0 3 "_law_read" P_law_read (spOf cl [.pn] .pu G_law_read)) (hread_chart : Cal P w cl mg base (L2.CX P w) 4 "read_chart" P_read_chart (spOf cl [.pn] .pu G_read_chart)) (hlaw_due : Cal P w cl mg base CX0 1 "_law_due" P_law_due (spOf cl [.pn] .pu G_law_due)) (hlaw_same_table : Cal P w cl mg base CX0 1 "_law_same_table" P_law_same_table (spOf cl [.pn, .pn] .pu G_law_same_table)) (hChart_table : CalM P w cl mg base CX0 1 "Chart" "table" P_Chart_table (spOf cl [.pn] (.fr (.ls (.ls .fz))) G_Chart_table)) : FnOk P w cl.K mg base CX0 5 f fd P_law (spOf cl [.sc] .pu G_law) := by
  obtain ⟨flaw_numbers, fdlaw_numbers, glaw_numbers, klaw_numbers, blaw_numbers, Glaw_numbers⟩ := hlaw_numbers
  obtain ⟨flaw_table, fdlaw_table, glaw_table, klaw_table, blaw_table, Glaw_table⟩ := hlaw_table
  obtain ⟨flaw_spoilt, fdlaw_spoilt, glaw_spoilt, klaw_spoilt, blaw_spoilt, Glaw_spoilt⟩ := hlaw_spoilt
  obtain ⟨flaw_written, fdlaw_written, glaw_written, klaw_written, blaw_written, Glaw_written⟩ := hlaw_written
  obtain ⟨flaw_read, fdlaw_read, glaw_read, klaw_read, blaw_read, Glaw_read⟩ := hlaw_read
  obtain ⟨fread_chart, fdread_chart, gread_chart, kread_chart, bread_chart, Gread_chart⟩ := hread_chart
  obtain ⟨flaw_due, fdlaw_due, glaw_due, klaw_due, blaw_due, Glaw_due⟩ := hlaw_due
  obtain ⟨flaw_same_table, fdlaw_same_table, glaw_same_table, klaw_same_table, blaw_same_table, Glaw_same_table⟩ := hlaw_same_table
  obtain ⟨fChart_table, fdChart_table, mChart_table, bChart_table, GChart_table⟩ := hChart_table
  have S := sc_law
  refine fn_ok (k := 4) (t := t_law cl) F S rfl (by decide) (fun W => ss_law cl W T.k_Chart T.a_Chart_kinds T.a_Chart_outs T.a_Chart_ins T.bad) fun cdv A outer s H E hr => ?_
  exact (pss_cons (ps_set (i := 1) S.nd rfl (by first | exact Or.inl rfl | exact Or.inr rfl) (pe_call Glaw_numbers (hr.mono (by decide)) (by rfl) glaw_numbers klaw_numbers blaw_numbers .nil pass0 (pa_cons (pv 0) (pa_cons pe_int pa_nil)))) (pss_cons (ps_set (i := 2) S.nd rfl (by first | exact Or.inl rfl | exact Or.inr rfl) (pe_op op_addA pe_int (pe_op op_mod (pe_ix ix_seq (pv 1) pe_int (fun _ _ => rfl)) pe_int))) (pss_cons (ps_set (i := 3) S.nd rfl (by first | exact Or.inl rfl | exact Or.inr rfl) (pe_op op_addA pe_int (pe_op op_mod (pe_ix ix_seq (pv 1) pe_int (fun _ _ => rfl)) pe_int))) (pss_cons (ps_if (pt_cmpR (op_eqD hr.units) (pe_op op_mod (pe_ix ix_seq (pv 1) pe_int (fun _ _ => rfl)) pe_int) pe_int (nomark _)) (pss_one (ps_set (i := 3) S.nd rfl (by first | exact Or.inl rfl | exact Or.inr rfl) (pe_op op_addA pe_int (pe_op op_mod (pe_ix ix_seq (pv 1) pe_int (fun _ _ => rfl)) pe_int)))) pss_nil) (pss_cons (ps_set (i := 4) S.nd rfl (by first | exact Or.inl rfl | exact Or.inr rfl) (pe_call Glaw_table (hr.mono (by decide)) (by rfl) glaw_table klaw_table blaw_table .nil pass0 (pa_cons (pv 2) (pa_cons (pv 3) (pa_cons (pe_slice sl_list (pv 1) (po_some pe_int) po_none) (pa_cons (pe_op op_mod (pe_ix ix_seq (pv 1) pe_int (fun _ _ => rfl)) pe_int) pa_nil)))))) (pss_cons (ps_set (i := 5) S.nd rfl (by first | exact Or.inl rfl | exact Or.inr rfl) (pe_call Glaw_spoilt (hr.mono (by decide)) (by rfl) glaw_spoilt klaw_spoilt blaw_spoilt .nil pass0 (pa_cons (pe_call Glaw_written (hr.mono (by decide)) (by rfl) glaw_written klaw_written blaw_written .nil pass0 (pa_cons (pv 2) (pa_cons (pv 4) pa_nil))) (pa_cons (pe_slice sl_list (pv 1) (po_some pe_int) (po_some pe_int)) pa_nil)))) (pss_cons (ps_set (i := 6) S.nd rfl (by first | exact Or.inl rfl | exact Or.inr rfl) (pe_call Glaw_read (hr.mono (by decide)) (by rfl) glaw_read klaw_read blaw_read .nil pass0 (pa_cons (pv 5) pa_nil))) (pss_cons (ps_set (i := 7) S.nd rfl (by first | exact Or.inl rfl | exact Or.inr rfl) pe_non) (pss_cons (ps_set (i := 8) S.nd rfl (by first | exact Or.inl rfl | exact Or.inr rfl) (pe_lst pa_nil)) (pss_cons (ps_try_as (i := 9) (tb := fun W => (tAsg (tCallS (spOf cl [.pn] .pu G_read_chart) (WE W) (tCons (tVar 5) tNil)) (gName 7))) (ts := tsBad cl ["NoChart"] 9 8) (Wout := wNo) rfl rfl S.nd rfl rfl ⟨rfl, by decide, .inl T.n_CaveError⟩ takes0 (fun W pn xe tk _ => (pss_one (ps_set (i := 7) S.nd rfl (by first | exact Or.inl rfl | exact Or.inr rfl) (pe_callS Gread_chart (hr.mono (by decide)) (by rfl) gread_chart kread_chart bread_chart (fun σ => passAt tk σ) (pa_cons (pv 5) pa_nil))))) (fun a oe cls d pn hz hf => pss_known fun x hx e1 e2 => by subst e1 e2; exact (pss_cons (ps_set (i := 8) S.nd rfl (by first | exact Or.inl rfl | exact Or.inr rfl) (pe_lst (pa_cons (pe_callB (call_isE (T.bad x hx).exc hz hf) (by rfl) T.f_isinstance (by decide +kernel) (pa_cons (pv 9) (pa_cons (pe_bltn (v := .ty "ValueError") (by rfl) T.f_ValueError (by decide +kernel) rfl) pa_nil))) (pa_cons (pe_callB (call_isE (T.bad x hx).exc hz hf) (by rfl) T.f_isinstance (by decide +kernel) (pa_cons (pv 9) (pa_cons (pe_glob (by rfl) T.n_NoKind rfl) pa_nil))) (pa_cons (pe_callB (call_isE (T.bad x hx).exc hz hf) (by rfl) T.f_isinstance (by decide +kernel) (pa_cons (pv 9) (pa_cons (pe_glob (by rfl) T.n_NoWay rfl) pa_nil))) (pa_cons (pe_callB (call_isE (T.bad x hx).exc hz hf) (by rfl) T.f_isinstance (by decide +kernel) (pa_cons (pv 9) (pa_cons (pe_glob (by rfl) T.n_NoMark rfl) pa_nil))) pa_nil)))))) (pss_cons (ps_set (i := 8) S.nd rfl (by first | exact Or.inl rfl | exact Or.inr rfl) (pe_op op_addA (pv 8) (pe_lst (pa_cons (pe_callB (call_isE (T.bad x hx).exc hz hf) (by rfl) T.f_isinstance (by decide +kernel) (pa_cons (pv 9) (pa_cons (pe_glob (by rfl) T.n_NoEntry rfl) pa_nil))) (pa_cons (pe_callB (call_isE (T.bad x hx).exc hz hf) (by rfl) T.f_isinstance (by decide +kernel) (pa_cons (pv 9) (pa_cons (pe_glob (by rfl) T.n_NoHold rfl) pa_nil))) (pa_cons (pe_callB (call_isE (T.bad x hx).exc hz hf) (by rfl) T.f_isinstance (by decide +kernel) (pa_cons (pv 9) (pa_cons (pe_glob (by rfl) T.n_NoChamber rfl) pa_nil))) (pa_cons (pe_callB (call_isE (T.bad x hx).exc hz hf) (by rfl) T.f_isinstance (by decide +kernel) (pa_cons (pv 9) (pa_cons (pe_glob (by rfl) T.n_NoChart rfl) pa_nil))) pa_nil))))))) (pss_one (ps_set (i := 8) S.nd rfl (by first | exact Or.inl rfl | exact Or.inr rfl) (pe_op op_addA (pv 8) (pe_lst (pa_cons (pe_callB (call_isE (T.bad x hx).exc hz hf) (by rfl) T.f_isinstance (by decide +kernel) (pa_cons (pv 9) (pa_cons (pe_glob (by rfl) T.n_NoCave rfl) pa_nil))) (pa_cons (pe_callB (call_isE (T.bad x hx).exc hz hf) (by rfl) T.f_isinstance (by decide +kernel) (pa_cons (pv 9) (pa_cons (pe_glob (by rfl) T.n_NoHome rfl) pa_nil))) (pa_cons (pe_callB (call_isE (T.bad x hx).exc hz hf) (by rfl) T.f_isinstance (by decide +kernel) (pa_cons (pv 9) (pa_cons (pe_glob (by rfl) T.n_Barred rfl) pa_nil))) (pa_cons (pe_callB (call_isE (T.bad x hx).exc hz hf) (by rfl) T.f_isinstance (by decide +kernel) (pa_cons (pv 9) (pa_cons (pe_glob (by rfl) T.n_Full rfl) pa_nil))) pa_nil)))))))))))) (pss_cons (ps_if (pt_cmpR op_isN (pv 6) pe_non (nomark _)) (pss_one (ps_ret (pe_cmpR (op_eqD hr.units) (pv 8) (pe_call Glaw_due (hr.mono (by decide)) (by rfl) glaw_due klaw_due blaw_due .nil pass0 (pa_cons pe_str pa_nil)) (nomark _)))) pss_nil) (pss_one (ps_ret (pe_and (pe_cmpR (op_eqD hr.units) (pv 8) (pe_lst pa_nil) (nomark _)) (pe_and (pe_cmpR (op_eqD hr.units) (pe_fld (pv 7) rfl) (pe_callB call_lenA (by rfl) T.f_len (by decide +kernel) (pa_cons (pe_ix ix_seq (pv 6) pe_int (fun _ _ => rfl)) pa_nil)) (nomark _)) (pe_one (pe_call Glaw_same_table (hr.mono (by decide)) (by rfl) glaw_same_table klaw_same_table blaw_same_table .nil pass0 (pa_cons (pe_meth0 (pv 7) T.k_Chart mChart_table GChart_table (hr.mono (by decide)) bChart_table .nil pass0) (pa_cons (pv 6) pa_nil)))))))))))))))))))
theorem facts {P : Program} {w : World} {K : PySem.W.Frag} {h : Heap} {mg : Str → Option Value} {f : Addr} (X : K.In h) (G : h.Ns mainGlobals mg) (hfa : mg ("law" : Str) = some (.ref f)) (c : He.SaysD fA dN K) (cq : exq K = true) :
    ∃ fd : FuncData, (∀ (s : Shared) (v : Value), BindsTo s fd ⟨[v], []⟩ [("_law_script", v)]) ∧ ∀ base : Heap, K.In base → base.Ns mainGlobals mg → FnOk P w K mg base CX0 5 f fd ["_law_script"] (spOf ⟨fun x => He.ga K (x : Str), K⟩ [.sc] .pu G_law) := by
  let cl : Nv := ⟨fun x => He.ga K (x : Str), K⟩
  obtain ⟨fd0, F0⟩ := c.def_ 0 rfl
  have g0 := He.glo_ok X G (c.fact 0 (f := .glo "_law_numbers") rfl)
  obtain ⟨fd1, F1⟩ := c.def_ 1 rfl
  have g1 := He.glo_ok X G (c.fact 1 (f := .glo "_law_table") rfl)
  obtain ⟨fd2, F2⟩ := c.def_ 2 rfl
  have g2 := He.glo_ok X G (c.fact 2 (f := .glo "_law_written") rfl)
  obtain ⟨fd3, F3⟩ := c.def_ 3 rfl
  have g3 := He.glo_ok X G (c.fact 3 (f := .glo "_law_sign") rfl)
  obtain ⟨fd4, F4⟩ := c.def_ 4 rfl
  have g4 := He.glo_ok X G (c.fact 4 (f := .glo "_law_odd") rfl)
  obtain ⟨fd5, F5⟩ := c.def_ 5 rfl
  have g5 := He.glo_ok X G (c.fact 5 (f := .glo "_law_spoilt") rfl)
  obtain ⟨fd6, F6⟩ := c.def_ 6 rfl
  have g6 := He.glo_ok X G (c.fact 6 (f := .glo "_law_number") rfl)
  obtain ⟨fd7, F7⟩ := c.def_ 7 rfl
  have g7 := He.glo_ok X G (c.fact 7 (f := .glo "_law_line") rfl)
  obtain ⟨fd8, F8⟩ := c.def_ 8 rfl
  have g8 := He.glo_ok X G (c.fact 8 (f := .glo "_law_read") rfl)
  obtain ⟨fd9, F9⟩ := c.def_ 9 rfl
  have g9 := He.glo_ok X G (c.fact 9 (f := .glo "count_of") rfl)
  obtain ⟨fd10, F10⟩ := c.def_ 10 rfl
  have g10 := He.glo_ok X G (c.fact 10 (f := .glo "entry_of") rfl)
  obtain ⟨fd11, F11⟩ := c.def_ 11 rfl
  have g11 := He.glo_ok X G (c.fact 11 (f := .glo "rows_fit") rfl)
  obtain ⟨fd12, F12⟩ := c.def_ 12 rfl
  have g12 := He.glo_ok X G (c.fact 12 (f := .glo "seen_back") rfl)
  obtain ⟨fd13, F13⟩ := c.def_ 13 rfl
  have g13 := He.mkr_ok (c.fact 13 (f := .mkr "Chart") rfl)
  obtain ⟨fd14, F14⟩ := c.def_ 14 rfl
  have g14 := He.meth_ok (c.fact 14 (f := .meth "Chart" "size") rfl)
  obtain ⟨fd15, F15⟩ := c.def_ 15 rfl
  have g15 := He.meth_ok (c.fact 15 (f := .meth "Chart" "table") rfl)
  obtain ⟨fd16, F16⟩ := c.def_ 16 rfl
  have g16 := He.glo_ok X G (c.fact 16 (f := .glo "written") rfl)
  obtain ⟨fd17, F17⟩ := c.def_ 17 rfl
  have g17 := He.glo_ok X G (c.fact 17 (f := .glo "read_chart") rfl)
  obtain ⟨fd18, F18⟩ := c.def_ 18 rfl
  have g18 := He.glo_ok X G (c.fact 18 (f := .glo "_law_due") rfl)
  obtain ⟨fd19, F19⟩ := c.def_ 19 rfl
  have g19 := He.glo_ok X G (c.fact 19 (f := .glo "_law_same_table") rfl)
  obtain ⟨fd20, F20⟩ := c.def_ 20 rfl
  have g20 := He.glo_ok X G (c.fact 20 (f := .glo "law") rfl)
  have i_Chart_init := He.glo_ok X G (c.fact 51 (f := .glo "Chart") rfl)
  have T : Tx cl mg w := ⟨He.free_ok X G (c.fact 21 (f := .free "range") rfl), He.free_ok X G (c.fact 22 (f := .free "len") rfl), He.free_ok X G (c.fact 23 (f := .free "list") rfl), He.free_ok X G (c.fact 24 (f := .free "str") rfl), He.free_ok X G (c.fact 25 (f := .free "int") rfl), He.free_ok X G (c.fact 26 (f := .free "set") rfl), He.free_ok X G (c.fact 27 (f := .free "isinstance") rfl), He.free_ok X G (c.fact 28 (f := .free "bool") rfl), He.free_ok X G (c.fact 29 (f := .free "ValueError") rfl), He.str_ok X G (c.fact 30 (f := .str "FIGURES" ("0123456789" : Str)) rfl), He.int_ok X G (c.fact 31 (f := .int "MOST_KINDS" 5) rfl), He.int_ok X G (c.fact 32 (f := .int "MOST_CHAMBERS" 700) rfl), He.glo_ok X G (c.fact 33 (f := .glo "NoChart") rfl), He.exc_ok (c.fact 34 (f := .exc "NoChart") rfl), He.glo_ok X G (c.fact 35 (f := .glo "NoMark") rfl), He.glo_ok X G (c.fact 36 (f := .glo "NoWay") rfl), He.glo_ok X G (c.fact 37 (f := .glo "NoKind") rfl), He.glo_ok X G (c.fact 38 (f := .glo "NoChart") rfl), He.glo_ok X G (c.fact 39 (f := .glo "NoChamber") rfl), He.glo_ok X G (c.fact 40 (f := .glo "NoHold") rfl), He.glo_ok X G (c.fact 41 (f := .glo "NoEntry") rfl), He.glo_ok X G (c.fact 42 (f := .glo "Full") rfl), He.glo_ok X G (c.fact 43 (f := .glo "Barred") rfl), He.glo_ok X G (c.fact 44 (f := .glo "NoHome") rfl), He.glo_ok X G (c.fact 45 (f := .glo "NoCave") rfl), He.glo_ok X G (c.fact 46 (f := .glo "CaveError") rfl), He.cls_ok (c.fact 47 (f := .cls "Chart") rfl), He.noat_ok (c.fact 48 (f := .noat "Chart" "kinds") rfl), He.noat_ok (c.fact 49 (f := .noat "Chart" "outs") rfl), He.noat_ok (c.fact 50 (f := .noat "Chart" "ins") rfl), fun x hx => exF_of (List.all_eq_true.mp cq x hx), trivial⟩
  have e := hfa.symm.trans g20
  cases e
  have b := FunD.bindsA (ps := ["_law_script"]) F20 fun _ _ _ _ _ _ us hl => (match us, hl with | [_], _ => rfl)
  refine ⟨fd20, fun s v => b s [v] rfl, fun base _ _ => ?_⟩
  have c_law_numbers := cal_law_numbers (P := P) (w := w) (cl := cl) (base := base) F0 T  g0
  have c_law_table := cal_law_table (P := P) (w := w) (cl := cl) (base := base) F1 T  g1
  have c_law_written := cal_law_written (P := P) (w := w) (cl := cl) (base := base) F2 T  g2
  have c_law_sign := cal_law_sign (P := P) (w := w) (cl := cl) (base := base) F3 T  g3
  have c_law_odd := cal_law_odd (P := P) (w := w) (cl := cl) (base := base) F4 T  g4
  have c_law_spoilt := cal_law_spoilt (P := P) (w := w) (cl := cl) (base := base) F5 T c_law_sign c_law_odd g5
  have c_law_number := cal_law_number (P := P) (w := w) (cl := cl) (base := base) F6 T  g6
  have c_law_line := cal_law_line (P := P) (w := w) (cl := cl) (base := base) F7 T c_law_number g7
  have c_law_read := cal_law_read (P := P) (w := w) (cl := cl) (base := base) F8 T c_law_number c_law_line g8
  have c_count_of := cal_count_of (P := P) (w := w) (cl := cl) (base := base) F9 T  g9
  have c_entry_of := cal_entry_of (P := P) (w := w) (cl := cl) (base := base) F10 T c_count_of g10
  have c_rows_fit := cal_rows_fit (P := P) (w := w) (cl := cl) (base := base) F11 T  g11
  have c_seen_back := cal_seen_back (P := P) (w := w) (cl := cl) (base := base) F12 T  g12
  have c_Chart_init := cal_Chart_init (P := P) (w := w) (cl := cl) (base := base) F13 T c_rows_fit c_seen_back i_Chart_init g13
  have c_Chart_size := cal_Chart_size (P := P) (w := w) (cl := cl) (base := base) F14 T  g14
  have c_Chart_table := cal_Chart_table (P := P) (w := w) (cl := cl) (base := base) F15 T  g15
  have c_written := cal_written (P := P) (w := w) (cl := cl) (base := base) F16 T c_Chart_size c_Chart_table g16
  have c_read_chart := cal_read_chart (P := P) (w := w) (cl := cl) (base := base) F17 T c_count_of c_entry_of c_Chart_init c_written g17
  have c_law_due := cal_law_due (P := P) (w := w) (cl := cl) (base := base) F18 T  g18
  have c_law_same_table := cal_law_same_table (P := P) (w := w) (cl := cl) (base := base) F19 T  g19
  exact ok_law (cl := cl) F20 T c_law_numbers c_law_table c_law_spoilt c_law_written c_law_read c_read_chart c_law_due c_law_same_table c_Chart_table
end Lw
open PySem PySem.W PySem.Calls PyProof.Rows
set_option maxHeartbeats 0 in
theorem PySem.Challenge.cw_chalkcave_k20_texts_that_write_no_chart_holds : PySem.Challenge.rw_chalkcave_k20_texts_that_write_no_chart.Holds := by
  w_on; o_law
  refine HandSHeadRun.head_any (r := OpenLaw.row PySem.Challenge.rw_chalkcave_k20_texts_that_write_no_chart) (q := view (OpenLaw.row PySem.Challenge.rw_chalkcave_k20_texts_that_write_no_chart).prog [38]) (H := Lw.hk) (ob := Lw.ob) (M := 8000) (loose := Lw.loose) (d := HandSHeadRun.topDef (OpenLaw.row PySem.Challenge.rw_chalkcave_k20_texts_that_write_no_chart).prog 38) (kwd := []) Lw.ob_eq
    (by kernel_rfl) (fun s => by kernel_rfl) Lw.run (by kernel_rfl) (by kernel_rfl) (by kernel_rfl) (by rfl) (by first | assumption | decide +kernel) (by decide +kernel) ⟨rfl, rfl, rfl, rfl, rfl, by decide +kernel⟩ ?hw ?hc
  case hw => w_witness2
  case hc =>
    refine L2.walk_ofE (l := PySem.Challenge.rw_chalkcave_k20_texts_that_write_no_chart) (n := 63) (k := 5) (x := "_law_script") (CX := L2.CX0) rfl (by decide) (by kernel_rfl) ⟨rfl, by decide, by decide⟩ ?F (fun _ _ _ _ z => z)
    intro w mg fa h Y G hmg0
    obtain ⟨K, KX, c, cq⟩ := Y
    have hmg : mg ("law" : PySem.Str) = some (.ref fa) := by
      have e : (HandSHeadRun.topDef (OpenLaw.row PySem.Challenge.rw_chalkcave_k20_texts_that_write_no_chart).prog 38).name = ("law" : PySem.Str) := by kernel_rfl
      rw [← e]
      exact hmg0
    obtain ⟨fd, hb, hF⟩ := Lw.facts (P := (PySem.Challenge.rw_chalkcave_k20_texts_that_write_no_chart).prog) (w := w) KX G hmg c cq
    exact ⟨K, fd, _, KX, hb, fun H a ns _ _ hS => Mv.law_sp (cl := ⟨fun x => He.ga K (x : PySem.Str), K⟩) hS (Lw.law_eq ns), hF⟩

