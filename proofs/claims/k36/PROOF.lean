import PyProof.Rows.All
import Wide.All
import OpenK.AllK
import Wide.FinOn
import HandS.ForMost
import HandS.Exc
import HandS.TryOnly
import HandS.ExcOwn
import HandS.WordsExc
import HandS.CallSlots
import HandS.IsInst
import HandS.Conv
import HandS.Style
import HandS.Dict
import HandS.Defaults
import HandS.Text
import HandS.Iter
import HandS.Steps
import HandS.ExcIs
import HandS.HeadHook2
import HandS.Lambda
import HandS.SortInts
import HandS.FStr
import PyProof.Rows.SetFrom
import PyProof.SetRoads
import HandS.TupAny
import HandS.Deep
import HandS.RevRange
import HandS.TupLen
import KE.KDictDisplayH
import KE.SortData
import KE.KStateDown
import HandS.Head0
import HandS.Head1
import HandS.Head2
import HandS.HeadEnd
import HandS.HeadHook1
import PySem.Challenge.RW_chalkcave_k36_a_book_without_room
set_option Elab.async false
set_option linter.all false
set_option maxRecDepth 100000
set_option maxHeartbeats 8000000
set_option synthInstance.maxHeartbeats 400000
set_option synthInstance.maxSize 4000
namespace Mv
open PySem L2

structure Nv where
  ad : String → Addr
  K : PySem.W.Frag
instance : CoeFun Nv (fun _ => String → Addr) := ⟨Nv.ad⟩
inductive D where
  | non
  | bl (b : Bool)
  | int (i : Int)
  | str (s : Str)
  | lst (ds : List D)
  | tup (ds : List D)
  | dct (kvs : List (Key × D))
  | dctT (kvs : List (List Key × D))
  | ins (c : String) (fs : List (Str × D))

def imm : D → Bool
  | .non => true
  | .bl _ => true
  | .int _ => true
  | .str _ => true
  | .tup ds => immL ds
  | _ => false
where immL : List D → Bool
  | [] => true
  | d :: ds => imm d && immL ds
abbrev immL := imm.immL

variable (cl : Nv)
mutual
inductive Rep (H : Hp) (P : Addr → Prop) : D → V → Prop
  | non : Rep H P .non .non
  | bl (b) : Rep H P (.bl b) (.bl b)
  | int (i) : Rep H P (.int i) (.int i)
  | str (s) : Rep H P (.str s) (.str s)
  | lst {p vs ds} : H p = some (.lst vs) → P p → RepL H P ds vs → Rep H P (.lst ds) (.ref p)
  | tup {p vs ds} : H p = some (.tup vs) → RepL H P ds vs → Rep H P (.tup ds) (.ref p)
  | dct {p kvs kds} : H p = some (.dK kvs) → P p → RepK H P kds kvs → Rep H P (.dct kds) (.ref p)
  | dctT {p kvs kds} : H p = some (.dT kvs) → P p → RepT H P kds kvs → Rep H P (.dctT kds) (.ref p)
  | ins {p c dx fs fds} : H p = some (.ins (cl c) dx fs) → P p → RepF H P fds fs → Rep H P (.ins c fds) (.ref p)
inductive RepL (H : Hp) (P : Addr → Prop) : List D → List V → Prop
  | nil : RepL H P [] []
  | cons {d v ds vs} : Rep H P d v → RepL H P ds vs → RepL H P (d :: ds) (v :: vs)
inductive RepK (H : Hp) (P : Addr → Prop) : List (Key × D) → List (Key × V) → Prop
  | nil : RepK H P [] []
  | cons {k d v ds vs} : Rep H P d v → RepK H P ds vs → RepK H P ((k, d) :: ds) ((k, v) :: vs)
inductive RepT (H : Hp) (P : Addr → Prop) : List (List Key × D) → List (List Key × V) → Prop
  | nil : RepT H P [] []
  | cons {k d v ds vs} : Rep H P d v → RepT H P ds vs → RepT H P ((k, d) :: ds) ((k, v) :: vs)
inductive RepF (H : Hp) (P : Addr → Prop) : List (Str × D) → List (Str × V) → Prop
  | nil : RepF H P [] []
  | cons {k d v ds vs} : Rep H P d v → RepF H P ds vs → RepF H P ((k, d) :: ds) ((k, v) :: vs)
end
variable {cl : Nv}
section
variable {H H' : Hp} {P P' : Addr → Prop}
mutual
theorem Rep.mono (g : ∀ a o, H a = some o → P a → H' a = some o ∧ P' a) (t : ∀ a xs, H a = some (.tup xs) → H' a = some (.tup xs)) : ∀ {d : D} {v : V}, Rep cl H P d v → Rep cl H' P' d v
  | _, _, .non => .non
  | _, _, .bl b => .bl b
  | _, _, .int b => .int b
  | _, _, .str b => .str b
  | _, _, .lst h p r => .lst (g _ _ h p).1 (g _ _ h p).2 (RepL.mono g t r)
  | _, _, .tup h r => .tup (t _ _ h) (RepL.mono g t r)
  | _, _, .dct h p r => .dct (g _ _ h p).1 (g _ _ h p).2 (RepK.mono g t r)
  | _, _, .dctT h p r => .dctT (g _ _ h p).1 (g _ _ h p).2 (RepT.mono g t r)
  | _, _, .ins h p r => .ins (g _ _ h p).1 (g _ _ h p).2 (RepF.mono g t r)
theorem RepL.mono (g : ∀ a o, H a = some o → P a → H' a = some o ∧ P' a) (t : ∀ a xs, H a = some (.tup xs) → H' a = some (.tup xs)) : ∀ {d : List D} {v : List V}, RepL cl H P d v → RepL cl H' P' d v
  | _, _, .nil => .nil
  | _, _, .cons a b => .cons (Rep.mono g t a) (RepL.mono g t b)
theorem RepK.mono (g : ∀ a o, H a = some o → P a → H' a = some o ∧ P' a) (t : ∀ a xs, H a = some (.tup xs) → H' a = some (.tup xs)) : ∀ {d : List (Key × D)} {v : List (Key × V)}, RepK cl H P d v → RepK cl H' P' d v
  | _, _, .nil => .nil
  | _, _, .cons a b => .cons (Rep.mono g t a) (RepK.mono g t b)
theorem RepT.mono (g : ∀ a o, H a = some o → P a → H' a = some o ∧ P' a) (t : ∀ a xs, H a = some (.tup xs) → H' a = some (.tup xs)) : ∀ {d : List (List Key × D)} {v : List (List Key × V)}, RepT cl H P d v → RepT cl H' P' d v
  | _, _, .nil => .nil
  | _, _, .cons a b => .cons (Rep.mono g t a) (RepT.mono g t b)
theorem RepF.mono (g : ∀ a o, H a = some o → P a → H' a = some o ∧ P' a) (t : ∀ a xs, H a = some (.tup xs) → H' a = some (.tup xs)) : ∀ {d : List (Str × D)} {v : List (Str × V)}, RepF cl H P d v → RepF cl H' P' d v
  | _, _, .nil => .nil
  | _, _, .cons a b => .cons (Rep.mono g t a) (RepF.mono g t b)
end
theorem Rep.same (s : Same H H') {d : D} {v : V} (h : Rep cl H P d v) (q : ∀ a, P a → P' a) : Rep cl H' P' d v := h.mono (fun a o e p => ⟨s a o e, q a p⟩) fun a xs e => s a _ e
theorem RepL.same (s : Same H H') {d : List D} {v : List V} (h : RepL cl H P d v) (q : ∀ a, P a → P' a) : RepL cl H' P' d v := h.mono (fun a o e p => ⟨s a o e, q a p⟩) fun a xs e => s a _ e
theorem Rep.any {d : D} {v : V} (h : Rep cl H P d v) (q : ∀ a, P a → P' a) : Rep cl H P' d v := h.same (Same.refl H) q
theorem RepL.any {d : List D} {v : List V} (h : RepL cl H P d v) (q : ∀ a, P a → P' a) : RepL cl H P' d v := h.same (Same.refl H) q
mutual
theorem Rep.im : ∀ {d : D} {v : V}, imm d = true → Rep cl H P d v → Rep cl H P' d v
  | _, _, _, .non => .non
  | _, _, _, .bl b => .bl b
  | _, _, _, .int b => .int b
  | _, _, _, .str b => .str b
  | _, _, i, .lst h p r => nomatch i
  | _, _, i, .tup h r => .tup h (RepL.im i r)
  | _, _, i, .dct h p r => nomatch i
  | _, _, i, .dctT h p r => nomatch i
  | _, _, i, .ins h p r => nomatch i
theorem RepL.im : ∀ {d : List D} {v : List V}, immL d = true → RepL cl H P d v → RepL cl H P' d v
  | _, _, _, .nil => .nil
  | d :: ds, _, i, .cons a b => by
    have e : (imm d && immL ds) = true := i
    rw [Bool.and_eq_true] at e
    exact .cons (Rep.im e.1 a) (RepL.im e.2 b)
end
theorem RepL.length : ∀ {ds : List D} {vs : List V}, RepL cl H P ds vs → ds.length = vs.length
  | _, _, .nil => rfl
  | _, _, .cons _ r => congrArg (· + 1) (RepL.length r)
theorem RepL.get : ∀ {ds : List D} {vs : List V} {i : Nat} {d : D}, RepL cl H P ds vs → ds[i]? = some d → ∃ v, vs[i]? = some v ∧ Rep cl H P d v
  | _, _, _, _, .nil, e => by simp at e
  | _, _, 0, _, .cons r _, e => by simp at e; subst e; exact ⟨_, rfl, r⟩
  | _, _, i + 1, x, .cons _ t, e => by
    obtain ⟨u, h1, h2⟩ := RepL.get (i := i) (d := x) t (by simpa using e)
    exact ⟨u, by simpa using h1, h2⟩
theorem RepL.append : ∀ {ds es : List D} {vs ws : List V}, RepL cl H P ds vs → RepL cl H P es ws → RepL cl H P (ds ++ es) (vs ++ ws)
  | _, _, _, _, .nil, s => s
  | _, _, _, _, .cons r t, s => .cons r (RepL.append t s)
theorem RepL.take : ∀ {ds : List D} {vs : List V} (n : Nat), RepL cl H P ds vs → RepL cl H P (ds.take n) (vs.take n)
  | _, _, 0, _ => .nil
  | _, _, _ + 1, .nil => .nil
  | _, _, n + 1, .cons r t => .cons r (RepL.take n t)
theorem RepL.drop : ∀ {ds : List D} {vs : List V} (n : Nat), RepL cl H P ds vs → RepL cl H P (ds.drop n) (vs.drop n)
  | _, _, 0, r => r
  | _, _, _ + 1, .nil => .nil
  | _, _, n + 1, .cons _ t => RepL.drop n t
theorem RepL.set {d : D} {v : V} (r : Rep cl H P d v) : ∀ {ds : List D} {vs : List V} (i : Nat), RepL cl H P ds vs → RepL cl H P (ds.set i d) (vs.set i v)
  | _, _, _, .nil => .nil
  | _, _, 0, .cons _ t => .cons r t
  | _, _, i + 1, .cons q t => .cons q (RepL.set r i t)
theorem RepL.eraseIdx : ∀ {ds : List D} {vs : List V} (i : Nat), RepL cl H P ds vs → RepL cl H P (ds.eraseIdx i) (vs.eraseIdx i)
  | _, _, _, .nil => .nil
  | _, _, 0, .cons _ t => t
  | _, _, i + 1, .cons q t => .cons q (RepL.eraseIdx i t)
theorem RepL.reverse : ∀ {ds : List D} {vs : List V}, RepL cl H P ds vs → RepL cl H P ds.reverse vs.reverse
  | _, _, .nil => .nil
  | _, _, .cons (d := d) (v := v) q t => by
    rw [List.reverse_cons, List.reverse_cons]
    exact (RepL.reverse t).append (.cons q .nil)
theorem RepL.dropLast : ∀ {ds : List D} {vs : List V}, RepL cl H P ds vs → RepL cl H P ds.dropLast vs.dropLast := fun {ds vs} r => by
  rw [List.dropLast_eq_take, List.dropLast_eq_take, r.length]
  exact r.take _
theorem RepF.lookup {f : Str} : ∀ {ds : List (Str × D)} {vs : List (Str × V)}, RepF cl H P ds vs → (∀ d, ds.lookup f = some d → ∃ v, vs.lookup f = some v ∧ Rep cl H P d v) ∧ (ds.lookup f = none → vs.lookup f = none)
  | _, _, .nil => ⟨fun d h => by simp at h, fun _ => rfl⟩
  | (k, d) :: ds, (_, v) :: vs, .cons r t => by
    obtain ⟨h1, h2⟩ := RepF.lookup t
    by_cases e : f = k
    · subst e
      simp only [List.lookup, beq_self_eq_true]
      exact ⟨fun d' h => by injection h with h; subst h; exact ⟨v, rfl, r⟩, fun h => by cases h⟩
    · have e' : (f == k) = false := by simpa using e
      simp only [List.lookup, e']
      exact ⟨h1, h2⟩
theorem RepF.length : ∀ {ds : List (Str × D)} {vs : List (Str × V)}, RepF cl H P ds vs → ds.length = vs.length
  | _, _, .nil => rfl
  | _, _, .cons _ r => congrArg (· + 1) (RepF.length r)
def putD (f : Str) (d : D) : List (Str × D) → List (Str × D)
  | [] => [(f, d)]
  | (g, e) :: r => if g = f then (g, d) :: r else (g, e) :: putD f d r
end
end Mv

namespace Mv
open PySem L2

inductive Lb where
  | fo
  | ow (i : Nat)
  | bo (i : Nat)
  deriving DecidableEq
structure Om where
  lb : Addr → Option Lb
  pin : Nat → V × D
instance : CoeFun Om (fun _ => Addr → Option Lb) := ⟨Om.lb⟩
abbrev Fz (w : Om) : Addr → Prop := fun a => w a = none
abbrev Lf (w : Om) : Addr → Prop := fun a => w a = none ∨ w a = some .fo
abbrev An : Addr → Prop := fun _ => True
inductive Sh where
  | fz
  | ls (s : Sh)
  | tn
  | tc (s r : Sh)
  | tp (s : Sh)
  | dk
  | dt
  | io (n : Nat)
  | op (s : Sh)
  deriving DecidableEq
def fldT (n : Nat) (f : Str) : Sh := match n with
  | 1 => if f = ("kept" : Str) ∨ f = ("held" : Str) then .ls .fz else .fz
  | 2 => if f = ("book" : Str) then .io 1 else .fz
  | _ => .fz
inductive Mo where
  | un | pu | lo | sc | pn | ow (s : Sh) | bo (s : Sh)
  deriving DecidableEq
variable (cl : Nv)
mutual
inductive Tr (H : Hp) (P O : Addr → Prop) : Sh → D → V → List Addr → Prop
  | fz {d v} : Rep cl H P d v → Tr H P O .fz d v []
  | ls {s p vs ds A} : H p = some (.lst vs) → O p → TrL H P O s ds vs A → Tr H P O (.ls s) (.lst ds) (.ref p) (p :: A)
  | tp {s p vs ds A} : H p = some (.tup vs) → TrP H P O s ds vs A → Tr H P O (.tp s) (.tup ds) (.ref p) A
  | dk {p kvs kds} : H p = some (.dK kvs) → O p → RepK cl H P kds kvs → Tr H P O .dk (.dct kds) (.ref p) [p]
  | dt {p kvs kds} : H p = some (.dT kvs) → O p → RepT cl H P kds kvs → Tr H P O .dt (.dctT kds) (.ref p) [p]
  | io {n p c dx fs fds A} : H p = some (.ins (cl c) dx fs) → O p → TrF H P O n fds fs A → Tr H P O (.io n) (.ins c fds) (.ref p) (p :: A)
  | no {s} : Tr H P O (.op s) .non .non []
  | so {s d v A} : Tr H P O s d v A → Tr H P O (.op s) d v A
inductive TrL (H : Hp) (P O : Addr → Prop) : Sh → List D → List V → List Addr → Prop
  | nil {s} : TrL H P O s [] [] []
  | cons {s d v ds vs A B} : Tr H P O s d v A → TrL H P O s ds vs B → TrL H P O s (d :: ds) (v :: vs) (A ++ B)
inductive TrP (H : Hp) (P O : Addr → Prop) : Sh → List D → List V → List Addr → Prop
  | nil : TrP H P O .tn [] [] []
  | cons {s r d v ds vs A B} : Tr H P O s d v A → TrP H P O r ds vs B → TrP H P O (.tc s r) (d :: ds) (v :: vs) (A ++ B)
inductive TrF (H : Hp) (P O : Addr → Prop) : Nat → List (Str × D) → List (Str × V) → List Addr → Prop
  | nil {n} : TrF H P O n [] [] []
  | cons {n k d v ds vs A B} : Tr H P O (fldT n k) d v A → TrF H P O n ds vs B → TrF H P O n ((k, d) :: ds) ((k, v) :: vs) (A ++ B)
end
variable {cl : Nv}
section
variable {H H' : Hp} {P P' O O' : Addr → Prop}
mutual
theorem Tr.mono (g : ∀ a o, H a = some o → P a → H' a = some o ∧ P' a) (t : ∀ a xs, H a = some (.tup xs) → H' a = some (.tup xs)) : ∀ {s : Sh} {d : D} {v : V} {A : List Addr}, (∀ a ∈ A, ∀ o, H a = some o → O a → H' a = some o ∧ O' a) → Tr cl H P O s d v A → Tr cl H' P' O' s d v A
  | _, _, _, _, q, .fz r => .fz (r.mono g t)
  | _, _, _, _, q, .ls h o r => .ls (q _ List.mem_cons_self _ h o).1 (q _ List.mem_cons_self _ h o).2 (TrL.mono g t (fun a m => q a (List.mem_cons_of_mem _ m)) r)
  | _, _, _, _, q, .tp h r => .tp (t _ _ h) (TrP.mono g t q r)
  | _, _, _, _, q, .dk h o r => .dk (q _ List.mem_cons_self _ h o).1 (q _ List.mem_cons_self _ h o).2 (r.mono g t)
  | _, _, _, _, q, .dt h o r => .dt (q _ List.mem_cons_self _ h o).1 (q _ List.mem_cons_self _ h o).2 (r.mono g t)
  | _, _, _, _, q, .io h o r => .io (q _ List.mem_cons_self _ h o).1 (q _ List.mem_cons_self _ h o).2 (TrF.mono g t (fun a m => q a (List.mem_cons_of_mem _ m)) r)
  | _, _, _, _, q, .no => .no
  | _, _, _, _, q, .so r => .so (Tr.mono g t q r)
theorem TrL.mono (g : ∀ a o, H a = some o → P a → H' a = some o ∧ P' a) (t : ∀ a xs, H a = some (.tup xs) → H' a = some (.tup xs)) : ∀ {s : Sh} {d : List D} {v : List V} {A : List Addr}, (∀ a ∈ A, ∀ o, H a = some o → O a → H' a = some o ∧ O' a) → TrL cl H P O s d v A → TrL cl H' P' O' s d v A
  | _, _, _, _, q, .nil => .nil
  | _, _, _, _, q, .cons a b => .cons (Tr.mono g t (fun x m => q x (List.mem_append_left _ m)) a) (TrL.mono g t (fun x m => q x (List.mem_append_right _ m)) b)
theorem TrP.mono (g : ∀ a o, H a = some o → P a → H' a = some o ∧ P' a) (t : ∀ a xs, H a = some (.tup xs) → H' a = some (.tup xs)) : ∀ {s : Sh} {d : List D} {v : List V} {A : List Addr}, (∀ a ∈ A, ∀ o, H a = some o → O a → H' a = some o ∧ O' a) → TrP cl H P O s d v A → TrP cl H' P' O' s d v A
  | _, _, _, _, q, .nil => .nil
  | _, _, _, _, q, .cons a b => .cons (Tr.mono g t (fun x m => q x (List.mem_append_left _ m)) a) (TrP.mono g t (fun x m => q x (List.mem_append_right _ m)) b)
theorem TrF.mono (g : ∀ a o, H a = some o → P a → H' a = some o ∧ P' a) (t : ∀ a xs, H a = some (.tup xs) → H' a = some (.tup xs)) : ∀ {s : Nat} {d : List (Str × D)} {v : List (Str × V)} {A : List Addr}, (∀ a ∈ A, ∀ o, H a = some o → O a → H' a = some o ∧ O' a) → TrF cl H P O s d v A → TrF cl H' P' O' s d v A
  | _, _, _, _, q, .nil => .nil
  | _, _, _, _, q, .cons a b => .cons (Tr.mono g t (fun x m => q x (List.mem_append_left _ m)) a) (TrF.mono g t (fun x m => q x (List.mem_append_right _ m)) b)
end
mutual
theorem Tr.rep (g : ∀ a, P a → P' a) : ∀ {s : Sh} {d : D} {v : V} {A : List Addr}, (∀ a ∈ A, P' a) → Tr cl H P O s d v A → Rep cl H P' d v
  | _, _, _, _, q, .fz r => r.any g
  | _, _, _, _, q, .ls h o r => .lst h (q _ List.mem_cons_self) (TrL.rep g (fun a m => q a (List.mem_cons_of_mem _ m)) r)
  | _, _, _, _, q, .tp h r => .tup h (TrP.rep g q r)
  | _, _, _, _, q, .dk h o r => .dct h (q _ List.mem_cons_self) (r.mono (fun a o e z => ⟨e, g a z⟩) fun _ _ e => e)
  | _, _, _, _, q, .dt h o r => .dctT h (q _ List.mem_cons_self) (r.mono (fun a o e z => ⟨e, g a z⟩) fun _ _ e => e)
  | _, _, _, _, q, .io h o r => .ins h (q _ List.mem_cons_self) (TrF.rep g (fun a m => q a (List.mem_cons_of_mem _ m)) r)
  | _, _, _, _, q, .no => .non
  | _, _, _, _, q, .so r => Tr.rep g q r
theorem TrL.rep (g : ∀ a, P a → P' a) : ∀ {s : Sh} {d : List D} {v : List V} {A : List Addr}, (∀ a ∈ A, P' a) → TrL cl H P O s d v A → RepL cl H P' d v
  | _, _, _, _, q, .nil => .nil
  | _, _, _, _, q, .cons a b => .cons (Tr.rep g (fun x m => q x (List.mem_append_left _ m)) a) (TrL.rep g (fun x m => q x (List.mem_append_right _ m)) b)
theorem TrP.rep (g : ∀ a, P a → P' a) : ∀ {s : Sh} {d : List D} {v : List V} {A : List Addr}, (∀ a ∈ A, P' a) → TrP cl H P O s d v A → RepL cl H P' d v
  | _, _, _, _, q, .nil => .nil
  | _, _, _, _, q, .cons a b => .cons (Tr.rep g (fun x m => q x (List.mem_append_left _ m)) a) (TrP.rep g (fun x m => q x (List.mem_append_right _ m)) b)
theorem TrF.rep (g : ∀ a, P a → P' a) : ∀ {s : Nat} {d : List (Str × D)} {v : List (Str × V)} {A : List Addr}, (∀ a ∈ A, P' a) → TrF cl H P O s d v A → RepF cl H P' d v
  | _, _, _, _, q, .nil => .nil
  | _, _, _, _, q, .cons a b => .cons (Tr.rep g (fun x m => q x (List.mem_append_left _ m)) a) (TrF.rep g (fun x m => q x (List.mem_append_right _ m)) b)
end
def Ob (H : Hp) (O : Addr → Prop) (a : Addr) : Prop := O a ∧ ∃ o, H a = some o ∧ ∀ xs, o ≠ .tup xs
theorem mem_app {A B : List Addr} {Q : Addr → Prop} (h1 : ∀ a ∈ A, Q a) (h2 : ∀ a ∈ B, Q a) : ∀ a ∈ A ++ B, Q a := fun a m => (List.mem_append.mp m).elim (h1 a) (h2 a)
theorem mem_cn {p : Addr} {A : List Addr} {Q : Addr → Prop} (h1 : Q p) (h2 : ∀ a ∈ A, Q a) : ∀ a ∈ p :: A, Q a := fun a m => by
  rcases List.mem_cons.mp m with rfl | m
  · exact h1
  · exact h2 a m
mutual
theorem Tr.ob : ∀ {s : Sh} {d : D} {v : V} {A : List Addr}, Tr cl H P O s d v A → ∀ a ∈ A, Ob H O a
  | _, _, _, _, .fz r => fun a m => nomatch m
  | _, _, _, _, .ls h o r => mem_cn ⟨o, _, h, fun _ z => nomatch z⟩ (TrL.ob r)
  | _, _, _, _, .tp h r => TrP.ob r
  | _, _, _, _, .dk h o r => mem_cn ⟨o, _, h, fun _ z => nomatch z⟩ fun a m => nomatch m
  | _, _, _, _, .dt h o r => mem_cn ⟨o, _, h, fun _ z => nomatch z⟩ fun a m => nomatch m
  | _, _, _, _, .io h o r => mem_cn ⟨o, _, h, fun _ z => nomatch z⟩ (TrF.ob r)
  | _, _, _, _, .no => fun a m => nomatch m
  | _, _, _, _, .so r => Tr.ob r
theorem TrL.ob : ∀ {s : Sh} {d : List D} {v : List V} {A : List Addr}, TrL cl H P O s d v A → ∀ a ∈ A, Ob H O a
  | _, _, _, _, .nil => fun a m => nomatch m
  | _, _, _, _, .cons a b => mem_app (Tr.ob a) (TrL.ob b)
theorem TrP.ob : ∀ {s : Sh} {d : List D} {v : List V} {A : List Addr}, TrP cl H P O s d v A → ∀ a ∈ A, Ob H O a
  | _, _, _, _, .nil => fun a m => nomatch m
  | _, _, _, _, .cons a b => mem_app (Tr.ob a) (TrP.ob b)
theorem TrF.ob : ∀ {s : Nat} {d : List (Str × D)} {v : List (Str × V)} {A : List Addr}, TrF cl H P O s d v A → ∀ a ∈ A, Ob H O a
  | _, _, _, _, .nil => fun a m => nomatch m
  | _, _, _, _, .cons a b => mem_app (Tr.ob a) (TrF.ob b)
end
theorem TrL.length : ∀ {s : Sh} {ds : List D} {vs : List V} {A : List Addr}, TrL cl H P O s ds vs A → ds.length = vs.length
  | _, _, _, _, .nil => rfl
  | _, _, _, _, .cons _ r => congrArg (· + 1) (TrL.length r)
theorem TrP.length : ∀ {s : Sh} {ds : List D} {vs : List V} {A : List Addr}, TrP cl H P O s ds vs A → ds.length = vs.length
  | _, _, _, _, .nil => rfl
  | _, _, _, _, .cons _ r => congrArg (· + 1) (TrP.length r)
theorem TrF.length : ∀ {s : Nat} {ds : List (Str × D)} {vs : List (Str × V)} {A : List Addr}, TrF cl H P O s ds vs A → ds.length = vs.length
  | _, _, _, _, .nil => rfl
  | _, _, _, _, .cons _ r => congrArg (· + 1) (TrF.length r)
theorem TrL.append : ∀ {s : Sh} {ds es : List D} {vs us : List V} {A B : List Addr}, TrL cl H P O s ds vs A → TrL cl H P O s es us B → TrL cl H P O s (ds ++ es) (vs ++ us) (A ++ B)
  | _, _, _, _, _, _, _, .nil, q => q
  | _, _, _, _, _, _, _, .cons a r, q => by rw [List.append_assoc]; exact .cons a (TrL.append r q)
theorem TrL.fz : ∀ {ds : List D} {vs : List V}, RepL cl H P ds vs → TrL cl H P O .fz ds vs []
  | _, _, .nil => .nil
  | _, _, .cons a r => .cons (.fz a) (TrL.fz r)
theorem TrL.unfz : ∀ {ds : List D} {vs : List V} {A : List Addr}, TrL cl H P O .fz ds vs A → A = [] ∧ RepL cl H P ds vs
  | _, _, _, .nil => ⟨rfl, .nil⟩
  | _, _, _, .cons (.fz a) r => let ⟨e, q⟩ := TrL.unfz r; ⟨by rw [e]; rfl, .cons a q⟩
theorem Tr.lz {p : Addr} {vs : List V} {ds : List D} (h : H p = some (.lst vs)) (o : O p) (r : RepL cl H P ds vs) : Tr cl H P O (.ls .fz) (.lst ds) (.ref p) [p] := .ls h o (TrL.fz r)
theorem Tr.unlz {d : D} {v : V} {A : List Addr} (h : Tr cl H P O (.ls .fz) d v A) : ∃ p vs ds, v = .ref p ∧ d = .lst ds ∧ A = [p] ∧ H p = some (.lst vs) ∧ O p ∧ RepL cl H P ds vs := by
  cases h with
  | ls h o r => obtain ⟨rfl, q⟩ := r.unfz; exact ⟨_, _, _, rfl, rfl, rfl, h, o, q⟩
theorem TrL.foc : ∀ {s : Sh} {ds : List D} {vs : List V} {A : List Addr} {n : Nat} {d0 : D}, TrL cl H P O s ds vs A → ds[n]? = some d0 →
    ∃ v0 L A0 R, vs[n]? = some v0 ∧ A = L ++ A0 ++ R ∧ Tr cl H P O s d0 v0 A0 ∧ ∀ {H' : Hp} {P' O' : Addr → Prop} {d1 : D} {v1 : V} {A1 : List Addr}, (∀ a o, H a = some o → P a → H' a = some o ∧ P' a) → (∀ a xs, H a = some (.tup xs) → H' a = some (.tup xs)) →
      (∀ a ∈ L ++ R, ∀ o, H a = some o → O a → H' a = some o ∧ O' a) → Tr cl H' P' O' s d1 v1 A1 → TrL cl H' P' O' s (ds.set n d1) (vs.set n v1) (L ++ A1 ++ R)
  | _, _, _, _, _, _, .nil, e => by simp at e
  | _, _, _, _, 0, _, .cons (A := A) (B := B) a r, e => by
    cases (show _ = _ from Option.some.inj e)
    exact ⟨_, [], A, B, rfl, rfl, a, fun g t q x => .cons x (r.mono g t fun y m => q y m)⟩
  | _, _, _, _, n + 1, d0, .cons (A := A) (B := B) a r, e => by
    obtain ⟨v0, L, A0, R, h1, h2, h3, h4⟩ := TrL.foc (n := n) (d0 := d0) r (by simpa using e)
    refine ⟨v0, A ++ L, A0, R, by simpa using h1, by rw [h2]; simp [List.append_assoc], h3, fun g t q x => ?_⟩
    have z := TrL.cons (a.mono g t fun y m => q y (by simp [m])) (h4 g t (fun y m => q y (by
      rcases List.mem_append.mp m with m | m <;> simp [m])) x)
    rw [List.append_assoc, List.append_assoc]
    rw [List.append_assoc] at z
    exact z
theorem TrP.foc : ∀ {s s0 : Sh} {ds : List D} {vs : List V} {A : List Addr} {d0 : D}, TrP cl H P O (.tc s0 s) (d0 :: ds) vs A →
    ∃ v0 us A0 R, vs = v0 :: us ∧ A = A0 ++ R ∧ Tr cl H P O s0 d0 v0 A0 ∧ TrP cl H P O s ds us R
  | _, _, _, _, _, _, .cons a r => ⟨_, _, _, _, rfl, rfl, a, r⟩
theorem TrF.foc : ∀ {n : Nat} {ds : List (Str × D)} {vs : List (Str × V)} {A : List Addr} {f : Str} {d0 : D}, TrF cl H P O n ds vs A → ds.lookup f = some d0 →
    ∃ v0 L A0 R, vs.lookup f = some v0 ∧ A = L ++ A0 ++ R ∧ Tr cl H P O (fldT n f) d0 v0 A0 ∧ ∀ {H' : Hp} {P' O' : Addr → Prop} {d1 : D} {v1 : V} {A1 : List Addr}, (∀ a o, H a = some o → P a → H' a = some o ∧ P' a) → (∀ a xs, H a = some (.tup xs) → H' a = some (.tup xs)) →
      (∀ a ∈ L ++ R, ∀ o, H a = some o → O a → H' a = some o ∧ O' a) → Tr cl H' P' O' (fldT n f) d1 v1 A1 → TrF cl H' P' O' n (putD f d1 ds) (putF f v1 vs) (L ++ A1 ++ R)
  | _, _, _, _, _, _, .nil, e => by simp at e
  | n, (k, d) :: ds, (_, v) :: vs, _, f, d0, .cons (A := A) (B := B) a r, e => by
    by_cases hk : k = f
    · subst hk
      have e' : d = d0 := by simpa [List.lookup] using e
      subst e'
      refine ⟨v, [], A, B, by simp [List.lookup], rfl, a, fun {H'} {P'} {O'} {d1} {v1} {A1} g t q x => ?_⟩
      have z := TrF.cons (k := k) x (r.mono g t fun y m => q y m)
      have e1 : putD k d1 ((k, d) :: ds) = (k, d1) :: ds := by simp [putD]
      have e2 : putF k v1 ((k, v) :: vs) = (k, v1) :: vs := by simp [putF]
      rw [e1, e2]
      exact z
    · have hk2 : (f == k) = false := by simpa using fun z : f = k => hk z.symm
      obtain ⟨v0, L, A0, R, h1, h2, h3, h4⟩ := TrF.foc (f := f) (d0 := d0) r (by simpa [List.lookup, hk2] using e)
      refine ⟨v0, A ++ L, A0, R, by simpa [List.lookup, hk2] using h1, by rw [h2]; simp [List.append_assoc], h3, fun {H'} {P'} {O'} {d1} {v1} {A1} g t q x => ?_⟩
      have z := TrF.cons (k := k) (a.mono g t fun y m => q y (by simp [m])) (h4 g t (fun y m => q y (by
        rcases List.mem_append.mp m with m | m <;> simp [m])) x)
      have e1 : putD f d1 ((k, d) :: ds) = (k, d) :: putD f d1 ds := by simp [putD, hk]
      have e2 : putF f v1 ((k, v) :: vs) = (k, v) :: putF f v1 vs := by simp [putF, hk]
      rw [e1, e2, List.append_assoc, List.append_assoc]
      rw [List.append_assoc] at z
      exact z
theorem TrF.new : ∀ {n : Nat} {ds : List (Str × D)} {vs : List (Str × V)} {A A1 : List Addr} {f : Str} {d1 : D} {v1 : V}, TrF cl H P O n ds vs A → ds.lookup f = none → Tr cl H P O (fldT n f) d1 v1 A1 → TrF cl H P O n (putD f d1 ds) (putF f v1 vs) (A ++ A1)
  | _, _, _, _, A1, f, _, _, .nil, _, x => by
    have z := TrF.cons (k := f) x .nil
    rw [List.append_nil] at z
    exact z
  | n, (k, d) :: ds, (_, v) :: vs, _, A1, f, d1, v1, .cons (A := A) (B := B) a r, e, x => by
    have hk : k ≠ f := fun z => by subst z; simp [List.lookup] at e
    have hk2 : (f == k) = false := by simpa using fun z : f = k => hk z.symm
    have z := TrF.cons (k := k) a (TrF.new (f := f) r (by simpa [List.lookup, hk2] using e) x)
    have e1 : putD f d1 ((k, d) :: ds) = (k, d) :: putD f d1 ds := by simp [putD, hk]
    have e2 : putF f v1 ((k, v) :: vs) = (k, v) :: putF f v1 vs := by simp [putF, hk]
    rw [e1, e2, List.append_assoc]
    exact z
end
def ScAt (cl : Nv) (H : Hp) (w : Om) (p : Addr) (ns : List Int) : Prop :=
  (Rd H p (.lst (ns.map V.int)) ∧ (w p = none ∨ w p = some .fo)) ∨ ∃ (o : Obj) (its : Array Value) (n : Nat), cl.K.lookup p = some o ∧ o.cls = .type "list" ∧ o.dict = none ∧ o.data = .seq its n ∧ its.size ≤ sizeLine ∧ Vals (ns.map V.int) its.toList
theorem ScAt.sq {cl : Nv} {H : Hp} {w : Om} {p : Addr} {ns : List Int} (h : ScAt cl H w p ns) : SqL cl.K H p (ns.map V.int) := h.elim (fun z => .inl z.1) fun z => .inr z
def OwnT (cl : Nv) (H : Hp) (w : Om) (l : Lb) (s : Sh) (d : D) (v : V) : Prop := ∃ A : List Addr, A.Nodup ∧ Tr cl H (Fz w) (fun a => w a = some l) s d v A
def Own (cl : Nv) (H : Hp) (w : Om) (i : Nat) : Mo → D → V → Prop
  | .un, _, _ => True
  | .pu, d, v => Rep cl H (Fz w) d v
  | .lo, d, v => Rep cl H (Lf w) d v
  | .pn, d, v => (v = (w.pin i).1 ∧ d = (w.pin i).2) ∧ Rep cl H (Lf w) d v
  | .sc, d, v => ∃ (p : Addr) (ns : List Int), v = .ref p ∧ d = .lst (ns.map D.int) ∧ ScAt cl H w p ns
  | .ow s, d, v => OwnT cl H w (.ow i) s d v
  | .bo s, d, v => v = (w.pin i).1 ∧ OwnT cl H w (.bo i) s d v
def isTup : HO → Bool
  | .tup _ => true
  | _ => false
theorem isTup_of {o : HO} (h : ∀ xs, o ≠ .tup xs) : isTup o = false := by
  cases o with
  | tup xs => exact absurd rfl (h xs)
  | _ => rfl
def Wf (H : Hp) (w : Om) : Prop := ∀ a l, w a = some l → ∃ o, H a = some o ∧ isTup o = false
structure StOk (cl : Nv) (H : Hp) (w : Om) (ms : List Mo) (σ : L2.St) (env : List D) : Prop where
  wf : Wf H w
  ls : σ.length = ms.length
  le : env.length = ms.length
  sl : ∀ i m, ms[i]? = some m → m ≠ .un → ∃ v d, σ[i]? = some (some v) ∧ env[i]? = some d ∧ Own cl H w i m d v

section
variable {H H' : Hp} {w w' : Om} {ms : List Mo} {σ : L2.St} {env : List D}
theorem Wf.same (h : Wf H w) (s : Same H H') : Wf H' w := fun a l e => let ⟨o, q, n⟩ := h a l e; ⟨o, s a o q, n⟩
theorem Wf.fresh (h : Wf H w) {p : Addr} (n : H p = none) : w p = none := by
  cases e : w p with
  | none => rfl
  | some l => obtain ⟨o, q, _⟩ := h p l e; rw [n] at q; cases q
theorem Wf.tup (h : Wf H w) {p : Addr} {xs : List V} (n : H p = some (.tup xs)) : w p = none := by
  cases e : w p with
  | none => rfl
  | some l => obtain ⟨o, q, z⟩ := h p l e; rw [n] at q; cases q; cases z
structure Keep (H : Hp) (w : Om) (H' : Hp) (w' : Om) : Prop where
  fz : ∀ a o, H a = some o → w a = none → H' a = some o ∧ w' a = none
  fo : ∀ a o, H a = some o → w a = some .fo → H' a = some o ∧ w' a = some .fo
  pin : w'.pin = w.pin
theorem Keep.same (s : Same H H') : Keep H w H' w := ⟨fun a o e h => ⟨s a o e, h⟩, fun a o e h => ⟨s a o e, h⟩, rfl⟩
theorem Keep.trans {H1 : Hp} {w1 : Om} (a : Keep H w H1 w1) (b : Keep H1 w1 H' w') : Keep H w H' w' :=
  ⟨fun x o e h => let ⟨e1, h1⟩ := a.fz x o e h; b.fz x o e1 h1, fun x o e h => let ⟨e1, h1⟩ := a.fo x o e h; b.fo x o e1 h1, b.pin.trans a.pin⟩
theorem Keep.tup (k : Keep H w H' w') (wf : Wf H w) : ∀ a xs, H a = some (.tup xs) → H' a = some (.tup xs) := fun a xs e => (k.fz a _ e (wf.tup e)).1
theorem Keep.rep (k : Keep H w H' w') (wf : Wf H w) {d : D} {v : V} (h : Rep cl H (Fz w) d v) : Rep cl H' (Fz w') d v := h.mono (fun a o e q => k.fz a o e q) (k.tup wf)
theorem Keep.repLo (k : Keep H w H' w') (wf : Wf H w) {d : D} {v : V} (h : Rep cl H (Lf w) d v) : Rep cl H' (Lf w') d v :=
  h.mono (fun a o e q => q.elim (fun z => let ⟨x, y⟩ := k.fz a o e z; ⟨x, .inl y⟩) fun z => let ⟨x, y⟩ := k.fo a o e z; ⟨x, .inr y⟩) (k.tup wf)
theorem OwnT.keep {l : Lb} {s : Sh} {d : D} {v : V} (k : Keep H w H' w') (wf : Wf H w) (kt : ∀ a o, H a = some o → w a = some l → H' a = some o ∧ w' a = some l) (h : OwnT cl H w l s d v) : OwnT cl H' w' l s d v := by
  obtain ⟨A, nd, t⟩ := h
  exact ⟨A, nd, t.mono (fun a o e q => k.fz a o e q) (k.tup wf) fun a _ o e q => kt a o e q⟩
theorem Own.keep {i : Nat} {m : Mo} {d : D} {v : V} (k : Keep H w H' w') (wf : Wf H w) (kt : ∀ a o, (w a = some (.ow i) ∨ w a = some (.bo i)) → H a = some o → H' a = some o ∧ w' a = w a) (h : Own cl H w i m d v) : Own cl H' w' i m d v := by
  cases m with
  | un => trivial
  | pu => exact k.rep wf h
  | lo => exact k.repLo wf h
  | pn => exact ⟨by rw [k.pin]; exact h.1, k.repLo wf h.2⟩
  | sc =>
    obtain ⟨p, ns, e1, e2, e3⟩ := h
    refine ⟨p, ns, e1, e2, ?_⟩
    rcases e3 with ⟨r, l⟩ | z
    · left
      have key : ∀ o, H p = some o → H' p = some o ∧ (w' p = none ∨ w' p = some .fo) := fun o e => by
        rcases l with l | l
        · exact ⟨(k.fz p o e l).1, .inl (k.fz p o e l).2⟩
        · exact ⟨(k.fo p o e l).1, .inr (k.fo p o e l).2⟩
      rcases r with r | ⟨o, r⟩
      · exact ⟨.inl (key _ r).1, (key _ r).2⟩
      · exact ⟨.inr ⟨o, (key _ r).1⟩, (key _ r).2⟩
    · exact .inr z
  | ow s => exact OwnT.keep k wf (fun a o e q => ⟨(kt a o (.inl q) e).1, (kt a o (.inl q) e).2.trans q⟩) h
  | bo s => exact ⟨by rw [k.pin]; exact h.1, OwnT.keep k wf (fun a o e q => ⟨(kt a o (.inr q) e).1, (kt a o (.inr q) e).2.trans q⟩) h.2⟩
theorem StOk.same (h : StOk cl H w ms σ env) (s : Same H H') : StOk cl H' w ms σ env :=
  ⟨h.wf.same s, h.ls, h.le, fun i m e n => let ⟨v, d, a, b, c⟩ := h.sl i m e n; ⟨v, d, a, b, c.keep (Keep.same s) h.wf fun a o _ q => ⟨s a o q, rfl⟩⟩⟩
end

inductive RC where
  | pu | lo | an | fr (s : Sh) | al (js : List Nat)
def FrT (cl : Nv) (H H' : Hp) (w : Om) (s : Sh) (d : D) (v : V) : Prop := ∃ A : List Addr, A.Nodup ∧ (∀ a ∈ A, H a = none) ∧ Tr cl H' (fun a => w a = none ∧ a ∉ A) (fun _ => True) s d v A
def Res (cl : Nv) (H H' : Hp) (w : Om) : RC → D → V → Prop
  | .pu, d, v => Rep cl H' (Fz w) d v
  | .lo, d, v => Rep cl H' (Lf w) d v
  | .an, d, v => Rep cl H' An d v
  | .al _, d, v => Rep cl H' An d v
  | .fr s, d, v => FrT cl H H' w s d v
section
variable {H H1 H' : Hp} {w : Om} {d : D} {v : V}
theorem FrT.same {k : Sh} (s : Same H1 H') (h : FrT cl H H1 w k d v) : FrT cl H H' w k d v := by
  obtain ⟨A, nd, fr, t⟩ := h
  exact ⟨A, nd, fr, t.mono (fun a o e q => ⟨s a o e, q⟩) (fun a xs e => s a _ e) fun a _ o e q => ⟨s a o e, q⟩⟩
theorem FrT.l1 {p : Addr} {vs : List V} {ds : List D} (h : H p = none) (h2 : H' p = some (.lst vs)) (r : RepL cl H' (fun a => w a = none ∧ a ≠ p) ds vs) : FrT cl H H' w (.ls .fz) (.lst ds) (.ref p) :=
  ⟨[p], by simp, fun a m => by rw [List.mem_singleton.mp m]; exact h, .lz h2 trivial (r.any fun a z => ⟨z.1, by simpa using z.2⟩)⟩
theorem FrT.pu {k : Sh} (wf : Wf H w) (h : FrT cl H H' w k d v) : Rep cl H' (Fz w) d v := by
  obtain ⟨A, nd, fr, t⟩ := h
  exact t.rep (fun a z => z.1) fun a m => wf.fresh (fr a m)
theorem Res.same {c : RC} (s : Same H1 H') (h : Res cl H H1 w c d v) : Res cl H H' w c d v := by
  cases c with
  | pu => exact Rep.same s h fun _ z => z
  | lo => exact Rep.same s h fun _ z => z
  | an => exact Rep.same s h fun _ z => z
  | al js => exact Rep.same s h fun _ z => z
  | fr k => exact FrT.same s h
theorem Res.an {c : RC} (wf : Wf H w) (h : Res cl H H' w c d v) : Rep cl H' An d v := by
  cases c with
  | pu => exact Rep.any h fun _ _ => trivial
  | lo => exact Rep.any h fun _ _ => trivial
  | an => exact h
  | al js => exact h
  | fr k => exact (FrT.pu wf h).any fun _ _ => trivial
def toPu : RC → Bool
  | .pu => true
  | .fr _ => true
  | _ => false
theorem Res.pu {c : RC} (wf : Wf H w) (hc : toPu c = true) (h : Res cl H H' w c d v) : Rep cl H' (Fz w) d v := by
  cases c with
  | pu => exact h
  | lo => cases hc
  | an => cases hc
  | al js => cases hc
  | fr k => exact FrT.pu wf h
def toLo : RC → Bool
  | .an => false
  | .al _ => false
  | _ => true
theorem Res.lo {c : RC} (wf : Wf H w) (hc : toLo c = true) (h : Res cl H H' w c d v) : Rep cl H' (Lf w) d v := by
  cases c with
  | pu => exact Rep.any h fun _ z => .inl z
  | lo => exact h
  | an => cases hc
  | al js => cases hc
  | fr k => exact (FrT.pu wf h).any fun _ z => .inl z
end

inductive R (α : Type) where
  | ok (a : α)
  | ex (c : String)
abbrev M (α : Type) := Option (R α)
def bd {α β : Type} (a : M α) (k : α → M β) : M β :=
  match a with
  | none => none
  | some (.ex c) => some (.ex c)
  | some (.ok x) => k x
@[simp] theorem bd_ok {α β : Type} {x : α} {k : α → M β} : bd (some (.ok x)) k = k x := rfl
@[simp] theorem bd_ex {α β : Type} {c : String} {k : α → M β} : bd (some (.ex c)) k = some (.ex c) := rfl
@[simp] theorem bd_none {α β : Type} {k : α → M β} : bd none k = none := rfl
def Xc (cl : Nv) (W : WX) (σ : L2.St) (H : Hp) {α : Type} (r : R α) : Prop := ∀ x, r = .ex x → ∀ H', Same H H' → W (.ref (cl x)) none σ H'
theorem Xc.same {W : WX} {σ : L2.St} {H H' : Hp} {α : Type} {r : R α} (h : Xc cl W σ H r) (s : Same H H') : Xc cl W σ H' r := fun x e H2 s2 => h x e H2 (s.trans s2)
def SE (cl : Nv) (W : WX) (ms : List Mo) (c : RC) (te : TE) (f : List D → M D) : Prop :=
  ∀ H w σ env, StOk cl H w ms σ env → ∀ r, f env = some r → Xc cl W σ H r → ∀ Q : VK, (∀ d, r = .ok d → ∀ H' v, Same H H' → Res cl H H' w c d v → Q v H') → te σ H Q
def SEt (cl : Nv) (W : WX) (ms : List Mo) (tt : TT) (f : List D → M Bool) : Prop :=
  ∀ H w σ env, StOk cl H w ms σ env → ∀ r, f env = some r → Xc cl W σ H r → ∀ Q : Bool → Hp → Prop, (∀ b, r = .ok b → ∀ H', Same H H' → Q b H') → tt σ H Q
inductive ResL (cl : Nv) (H H' : Hp) (w : Om) : List RC → List D → List V → Prop
  | nil : ResL cl H H' w [] [] []
  | cons {c cs d ds v vs} : Res cl H H' w c d v → ResL cl H H' w cs ds vs → ResL cl H H' w (c :: cs) (d :: ds) (v :: vs)
def SEa (cl : Nv) (W : WX) (ms : List Mo) (cs : List RC) (ta : TA) (f : List D → M (List D)) : Prop :=
  ∀ H w σ env, StOk cl H w ms σ env → ∀ r, f env = some r → Xc cl W σ H r → ∀ Q : List V → Hp → Prop, (∀ ds, r = .ok ds → ∀ H' vs, Same H H' → ResL cl H H' w cs ds vs → Q vs H') → ta σ H Q
section
variable {W : WX} {ms : List Mo} {c c1 c2 c3 : RC} {te ta tb : TE} {f g : List D → M D} {H : Hp} {w : Om} {σ : L2.St} {env : List D}
theorem SE.bind (h : SE cl W ms c te f) (st : StOk cl H w ms σ env) {β : Type} {k : D → M β} {r : R β} (e : bd (f env) k = some r) (x : Xc cl W σ H r) {Q : VK}
    (q : ∀ d H' v, Same H H' → Res cl H H' w c d v → k d = some r → Q v H') : te σ H Q := by
  cases e1 : f env with
  | none => rw [e1] at e; cases e
  | some r1 =>
    rw [e1] at e
    cases r1 with
    | ex y =>
      have e' : r = .ex y := (Option.some.inj e).symm
      refine h H w σ env st _ e1 (fun z hz H' s => ?_) Q fun d hd => nomatch hd
      cases hz
      exact x y e' H' s
    | ok d =>
      refine h H w σ env st _ e1 (fun z hz => nomatch hz) Q fun d' hd H' v s r' => ?_
      cases hd
      exact q d H' v s r' e
theorem SE.bindE (h : SE cl W ms c te f) (st : StOk cl H w ms σ env) {β : Type} {k : D → M β} {r : R β} (e : bd (f env) k = some r) (x : Xc cl W σ H r) {Q : VK}
    (q : ∀ d H' v, f env = some (.ok d) → Same H H' → Res cl H H' w c d v → k d = some r → Q v H') : te σ H Q := by
  cases e1 : f env with
  | none => rw [e1] at e; cases e
  | some r1 =>
    rw [e1] at e
    cases r1 with
    | ex y =>
      have e' : r = .ex y := (Option.some.inj e).symm
      refine h H w σ env st _ e1 (fun z hz H' s => ?_) Q fun d hd => nomatch hd
      cases hz
      exact x y e' H' s
    | ok d =>
      refine h H w σ env st _ e1 (fun z hz => nomatch hz) Q fun d' hd H' v s r' => ?_
      cases hd
      exact q d H' v e1 s r' e
theorem SEt.bind {tt : TT} {ft : List D → M Bool} (h : SEt cl W ms tt ft) (st : StOk cl H w ms σ env) {β : Type} {k : Bool → M β} {r : R β} (e : bd (ft env) k = some r) (x : Xc cl W σ H r) {Q : Bool → Hp → Prop}
    (q : ∀ d H', Same H H' → k d = some r → Q d H') : tt σ H Q := by
  cases e1 : ft env with
  | none => rw [e1] at e; cases e
  | some r1 =>
    rw [e1] at e
    cases r1 with
    | ex y =>
      have e' : r = .ex y := (Option.some.inj e).symm
      refine h H w σ env st _ e1 (fun z hz H' s => ?_) Q fun d hd => nomatch hd
      cases hz
      exact x y e' H' s
    | ok d =>
      refine h H w σ env st _ e1 (fun z hz => nomatch hz) Q fun d' hd H' s => ?_
      cases hd
      exact q d H' s e
theorem SEa.bind {cs : List RC} {tas : TA} {fa : List D → M (List D)} (h : SEa cl W ms cs tas fa) (st : StOk cl H w ms σ env) {β : Type} {k : List D → M β} {r : R β} (e : bd (fa env) k = some r) (x : Xc cl W σ H r) {Q : List V → Hp → Prop}
    (q : ∀ d H' v, Same H H' → ResL cl H H' w cs d v → k d = some r → Q v H') : tas σ H Q := by
  cases e1 : fa env with
  | none => rw [e1] at e; cases e
  | some r1 =>
    rw [e1] at e
    cases r1 with
    | ex y =>
      have e' : r = .ex y := (Option.some.inj e).symm
      refine h H w σ env st _ e1 (fun z hz H' s => ?_) Q fun d hd => nomatch hd
      cases hz
      exact x y e' H' s
    | ok d =>
      refine h H w σ env st _ e1 (fun z hz => nomatch hz) Q fun d' hd H' v s r' => ?_
      cases hd
      exact q d H' v s r' e
end
end Mv

namespace Mv
open PySem L2
variable {cl : Nv}

def LIM : Nat := 1000000
theorem LIM_le {n : Nat} (h : n ≤ LIM) : n ≤ sizeLine := Nat.le_trans h (by rw [sizeLine_eq]; decide)
theorem LIM_lt {n : Nat} (h : n ≤ LIM) : n < sizeLine := Nat.lt_of_le_of_lt h (by rw [sizeLine_eq]; decide)
def lift {α : Type} (o : Option α) : M α := o.map R.ok
@[simp] theorem lift_some {α : Type} {x : α} : lift (some x) = some (.ok x) := rfl
@[simp] theorem lift_none {α : Type} : lift (none : Option α) = none := rfl
theorem lift_ok {α : Type} {o : Option α} {r : R α} (h : lift o = some r) : ∃ x, o = some x ∧ r = .ok x := by
  cases o with
  | none => cases h
  | some x => exact ⟨x, rfl, (Option.some.inj h).symm⟩

theorem OpR.or {X : Cx} {f : Value → Value → Sem Value} {r r' : R2} (h : OpR X f r) (h' : OpR X f r') : OpR X f (fun x y H Q => r x y H Q ∨ r' x y H Q) := by
  intro pins s σ H x y v u Q I rx ry q
  rcases q with q | q
  · exact h pins s σ H x y v u Q I rx ry q
  · exact h' pins s σ H x y v u Q I rx ry q
theorem CallR.or {X : Cx} {f : Value} {r r' : List V → Hp → VK → Prop} (h : CallR X f r) (h' : CallR X f r') : CallR X f (fun x H Q => r x H Q ∨ r' x H Q) := by
  intro pins s σ H x v Q I rx q
  rcases q with q | q
  · exact h pins s σ H x v Q I rx q
  · exact h' pins s σ H x v Q I rx q
def OpS (cl : Nv) (r : R2) (op : D → D → Option D) : Prop := ∀ (H : Hp) (w : Om) (d1 : D) (v1 : V) (d2 : D) (v2 : V) (z : D) (Q : VK), Wf H w → Rep cl H An d1 v1 → Rep cl H An d2 v2 → op d1 d2 = some z →
  (∀ H' v, Same H H' → Rep cl H' (Fz w) z v → Q v H') → r v1 v2 H Q
def UnS (cl : Nv) (r : V → Hp → VK → Prop) (op : D → Option D) : Prop := ∀ (H : Hp) (w : Om) (d1 : D) (v1 : V) (z : D) (Q : VK), Wf H w → Rep cl H An d1 v1 → op d1 = some z →
  (∀ H' v, Same H H' → Rep cl H' (Fz w) z v → Q v H') → r v1 H Q
def CaS (cl : Nv) (r : List V → Hp → VK → Prop) (cs : List RC) (c : RC) (op : List D → Option D) : Prop := ∀ (H0 H : Hp) (w : Om) (ds : List D) (vs : List V) (z : D) (Q : VK), Wf H w → Same H0 H → ResL cl H0 H w cs ds vs → op ds = some z →
  (∀ H' v, Same H H' → Res cl H0 H' w c z v → Q v H') → r vs H Q
def eOp (op : D → D → Option D) (f g : List D → M D) : List D → M D := fun env => bd (f env) fun x => bd (g env) fun y => lift (op x y)
def eUn (op : D → Option D) (f : List D → M D) : List D → M D := fun env => bd (f env) fun x => lift (op x)
def eVar (i : Nat) : List D → M D := fun env => lift env[i]?
def eC (d : D) : List D → M D := fun _ => some (.ok d)
def eImm (f : List D → M D) : List D → M D := fun env => bd (f env) fun x => if imm x = true then some (.ok x) else none
def eArgs : List (List D → M D) → List D → M (List D)
  | [], _ => some (.ok [])
  | f :: fs, env => bd (f env) fun x => bd (eArgs fs env) fun xs => some (.ok (x :: xs))
def eCall (op : List D → Option D) (fs : List (List D → M D)) : List D → M D := fun env => bd (eArgs fs env) fun xs => lift (op xs)

section
variable {W : WX} {ms : List Mo} {c c1 c2 c3 : RC} {te ta tb : TE} {f g : List D → M D}
theorem OwnT.rep {H : Hp} {w : Om} {l : Lb} {k : Sh} {d : D} {v : V} (h : OwnT cl H w l k d v) : Rep cl H An d v := by
  obtain ⟨A, _, t⟩ := h
  exact t.rep (fun _ _ => trivial) fun _ _ => trivial
def rdm : Mo → Bool
  | .un => false
  | .sc => false
  | _ => true
theorem rdm_un {m : Mo} (h : rdm m = true) : m ≠ .un := fun z => by subst z; exact nomatch h
theorem Own.rep {H : Hp} {w : Om} {i : Nat} {m : Mo} {d : D} {v : V} (hm : rdm m = true) (h : Own cl H w i m d v) : Rep cl H An d v := by
  cases m with
  | un => exact nomatch hm
  | sc => exact nomatch hm
  | pu => exact Rep.any h fun _ _ => trivial
  | lo => exact Rep.any h fun _ _ => trivial
  | pn => exact Rep.any h.2 fun _ _ => trivial
  | ow k => exact OwnT.rep h
  | bo k => exact OwnT.rep h.2
theorem SE.toPu (hc : toPu c = true) (h : SE cl W ms c te f) : SE cl W ms .pu te f := fun H w σ env st r e x Q q =>
  h H w σ env st r e x Q fun d hd H' v s rs => q d hd H' v s (Res.pu st.wf hc rs)
theorem SE.toLo (hc : toLo c = true) (h : SE cl W ms c te f) : SE cl W ms .lo te f := fun H w σ env st r e x Q q =>
  h H w σ env st r e x Q fun d hd H' v s rs => q d hd H' v s (Res.lo st.wf hc rs)
theorem se_imm (h : SE cl W ms c te f) : SE cl W ms .pu te (eImm f) := fun H w σ env st r e x Q q =>
  h.bind st e x fun d H' v s rs e => by
    by_cases i : imm d = true
    · rw [if_pos i] at e
      cases e
      exact q d rfl H' v s (Rep.im i (rs.an st.wf))
    · rw [if_neg i] at e
      cases e
theorem se_var {i : Nat} {m : Mo} (hm : ms[i]? = some m) (hn : rdm m = true) : SE cl W ms .an (tVar i) (eVar i) := fun H w σ env st r e x Q q => by
  obtain ⟨d, e1, rfl⟩ := lift_ok e
  obtain ⟨v, d', a, b, o⟩ := st.sl i m hm (rdm_un hn)
  rw [b] at e1
  cases e1
  exact ⟨v, a, q _ rfl H v (Same.refl H) (o.rep hn)⟩
theorem se_var_pu {i : Nat} (hm : ms[i]? = some .pu) : SE cl W ms .pu (tVar i) (eVar i) := fun H w σ env st r e x Q q => by
  obtain ⟨d, e1, rfl⟩ := lift_ok e
  obtain ⟨v, d', a, b, o⟩ := st.sl i _ hm (by decide)
  rw [b] at e1
  cases e1
  exact ⟨v, a, q _ rfl H v (Same.refl H) o⟩
theorem se_var_lo {i : Nat} (hm : ms[i]? = some .lo) : SE cl W ms .lo (tVar i) (eVar i) := fun H w σ env st r e x Q q => by
  obtain ⟨d, e1, rfl⟩ := lift_ok e
  obtain ⟨v, d', a, b, o⟩ := st.sl i _ hm (by decide)
  rw [b] at e1
  cases e1
  exact ⟨v, a, q _ rfl H v (Same.refl H) o⟩
theorem se_var_pn {i : Nat} (hm : ms[i]? = some .pn) : SE cl W ms .lo (tVar i) (eVar i) := fun H w σ env st r e x Q q => by
  obtain ⟨d, e1, rfl⟩ := lift_ok e
  obtain ⟨v, d', a, b, o⟩ := st.sl i _ hm (by decide)
  rw [b] at e1
  cases e1
  exact ⟨v, a, q _ rfl H v (Same.refl H) o.2⟩
theorem se_int {i : Int} : SE cl W ms .pu (tC (.int i)) (eC (.int i)) := fun H w σ env st r e x Q q => by
  cases e; exact q _ rfl H _ (Same.refl H) (.int i)
theorem se_bl {i : Bool} : SE cl W ms .pu (tC (.bl i)) (eC (.bl i)) := fun H w σ env st r e x Q q => by
  cases e; exact q _ rfl H _ (Same.refl H) (.bl i)
theorem se_str {i : Str} : SE cl W ms .pu (tC (.str i)) (eC (.str i)) := fun H w σ env st r e x Q q => by
  cases e; exact q _ rfl H _ (Same.refl H) (.str i)
theorem se_non : SE cl W ms .pu (tC .non) (eC .non) := fun H w σ env st r e x Q q => by
  cases e; exact q _ rfl H _ (Same.refl H) .non
theorem se_op {r : R2} {op : D → D → Option D} (ho : OpS cl r op) (ha : SE cl W ms c1 ta f) (hb : SE cl W ms c2 tb g) : SE cl W ms .pu (tOp r ta tb) (eOp op f g) := fun H w σ env st r e x Q q =>
  ha.bind st e x fun d1 H1 v1 s1 r1 e => hb.bind (st.same s1) e (x.same s1) fun d2 H2 v2 s2 r2 e => by
    obtain ⟨z, e1, rfl⟩ := lift_ok e
    have wf2 := (st.wf.same s1).same s2
    exact ho H2 w d1 v1 d2 v2 z Q wf2 ((r1.same s2).an st.wf) (r2.an (st.wf.same s1)) e1 fun H' v s r => q z rfl H' v ((s1.trans s2).trans s) r
theorem se_un {r : V → Hp → VK → Prop} {op : D → Option D} (ho : UnS cl r op) (ha : SE cl W ms c1 ta f) : SE cl W ms .pu (tUn r ta) (eUn op f) := fun H w σ env st r e x Q q =>
  ha.bind st e x fun d1 H1 v1 s1 r1 e => by
    obtain ⟨z, e1, rfl⟩ := lift_ok e
    exact ho H1 w d1 v1 z Q (st.wf.same s1) (r1.an st.wf) e1 fun H' v s r => q z rfl H' v (s1.trans s) r
theorem sea_nil : SEa cl W ms [] tNil (eArgs []) := fun H w σ env st r e x Q q => by
  cases e
  exact q [] rfl H [] (Same.refl H) .nil
theorem FrT.base {H0 H H' : Hp} {w : Om} {k : Sh} {d : D} {v : V} (s : Same H0 H) (h : FrT cl H H' w k d v) : FrT cl H0 H' w k d v := by
  obtain ⟨A, nd, fr, t⟩ := h
  exact ⟨A, nd, fun a m => s.free (fr a m), t⟩
theorem Res.base {H0 H H' : Hp} {w : Om} {c : RC} {d : D} {v : V} (s : Same H0 H) (h : Res cl H H' w c d v) : Res cl H0 H' w c d v := by
  cases c with
  | pu => exact h
  | lo => exact h
  | an => exact h
  | al js => exact h
  | fr k => exact FrT.base s h
theorem ResL.base {H0 H H' : Hp} {w : Om} (s : Same H0 H) : ∀ {cs : List RC} {d : List D} {v : List V}, ResL cl H H' w cs d v → ResL cl H0 H' w cs d v
  | _, _, _, .nil => .nil
  | _, _, _, .cons a b => .cons (a.base s) (ResL.base s b)
theorem sea_cons {cs : List RC} {fs : List (List D → M D)} {tr : TA} (ha : SE cl W ms c ta f) (hb : SEa cl W ms cs tr (eArgs fs)) : SEa cl W ms (c :: cs) (tCons ta tr) (eArgs (f :: fs)) := fun H w σ env st r e x Q q =>
  ha.bind st e x fun d1 H1 v1 s1 r1 e => hb.bind (st.same s1) e (x.same s1) fun d2 H2 v2 s2 r2 e => by
    cases e
    exact q _ rfl H2 _ (s1.trans s2) (.cons (r1.same s2) (r2.base s1))
def dAdd : D → D → Option D
  | .int i, .int j => some (.int (i + j))
  | .str a, .str b => if a.length + b.length ≤ LIM then some (.str (a ++ b)) else none
  | .lst a, .lst b => if a.length + b.length ≤ LIM ∧ immL a = true ∧ immL b = true then some (.lst (a ++ b)) else none
  | .tup a, .tup b => if a.length + b.length ≤ LIM ∧ immL a = true ∧ immL b = true ∧ a ≠ [] ∧ b ≠ [] then some (.tup (a ++ b)) else none
  | _, _ => none
def rAddA (K : PySem.W.Frag) : R2 := fun x y H Q => (rI0 (fun i j => .int (i + j))) x y H Q ∨ (∃ i j, x = .str i ∧ y = .str j ∧ i.length + j.length ≤ sizeLine ∧ Q (.str (i ++ j)) H) ∨ rCat x y H Q ∨ rCatT K x y H Q
theorem op_addA {X : Cx} : OpR X (binaryOp .Add) (rAddA X.K) := OpR.or op_add (OpR.or op_add_str (OpR.or op_cat op_catT))
theorem new_same {H : Hp} {p : Addr} {o : HO} (n : H p = none) : Same H (upd H p o) := fun b u e => by rw [upd_ne (ne_of_none e n)]; exact e
theorem ops_add {K : PySem.W.Frag} : OpS cl (rAddA K) dAdd := by
  intro H w d1 v1 d2 v2 z Q wf r1 r2 e q
  cases r1 with
  | int i =>
    cases r2 with
    | int j => cases e; exact .inl ⟨i, j, rfl, rfl, q H _ (Same.refl H) (.int _)⟩
    | _ => cases e
  | str a =>
    cases r2 with
    | str b =>
      simp only [dAdd] at e
      split at e
      · rename_i h
        cases e
        exact .inr (.inl ⟨a, b, rfl, rfl, LIM_le h, q H _ (Same.refl H) (.str _)⟩)
      · cases e
    | _ => cases e
  | @lst p vs ds h1 _ ra =>
    cases r2 with
    | @lst p2 vs2 ds2 h2 _ rb =>
      simp only [dAdd] at e
      split at e
      · rename_i h
        obtain ⟨h, i1, i2⟩ := h
        cases e
        refine .inr (.inr (.inl ⟨p, p2, vs, vs2, rfl, rfl, h1, h2, LIM_le (by rw [← ra.length, ← rb.length]; exact h), fun l hl => ?_⟩))
        have s := new_same (o := .lst (vs ++ vs2)) hl
        exact q _ _ s (.lst upd_same (wf.fresh hl) (((RepL.im i1 ra).append (RepL.im i2 rb)).same s fun _ z => z))
      · cases e
    | _ => cases e
  | @tup p vs ds h1 ra =>
    cases r2 with
    | @tup p2 vs2 ds2 h2 rb =>
      simp only [dAdd] at e
      split at e
      · rename_i h
        obtain ⟨h, i1, i2, n1, n2⟩ := h
        cases e
        have m1 : vs ≠ [] := fun z => n1 (List.length_eq_zero_iff.mp (by rw [ra.length, z]; rfl))
        have m2 : vs2 ≠ [] := fun z => n2 (List.length_eq_zero_iff.mp (by rw [rb.length, z]; rfl))
        refine .inr (.inr (.inr ⟨p, p2, vs, vs2, rfl, rfl, .inl (.inl h1), .inl (.inl h2), m1, LIM_le (by rw [← ra.length, ← rb.length]; exact h), fun z => absurd z m2, fun _ l hl => ?_⟩))
        have s := new_same (o := .tup (vs ++ vs2)) hl
        exact q _ _ s (.tup upd_same (((RepL.im i1 ra).append (RepL.im i2 rb)).same s fun _ z => z))
      · cases e
    | _ => cases e
  | _ => cases e
def dI0 (g : Int → Int → Int) : D → D → Option D
  | .int i, .int j => some (.int (g i j))
  | _, _ => none
theorem ops_I0 {g : Int → Int → Int} : OpS cl (rI0 fun i j => .int (g i j)) (dI0 g) := by
  intro H w d1 v1 d2 v2 z Q wf r1 r2 e q
  cases r1 with
  | int i =>
    cases r2 with
    | int j => cases e; exact ⟨i, j, rfl, rfl, q H _ (Same.refl H) (.int _)⟩
    | _ => cases e
  | _ => cases e
abbrev dSub := dI0 fun i j => i - j
def dIc (C : Int → Int → Prop) [∀ i j, Decidable (C i j)] (g : Int → Int → Int) : D → D → Option D
  | .int i, .int j => if C i j then some (.int (g i j)) else none
  | _, _ => none
theorem ops_Ic {C : Int → Int → Prop} [∀ i j, Decidable (C i j)] {g : Int → Int → Int} : OpS cl (rI C fun i j => .int (g i j)) (dIc C g) := by
  intro H w d1 v1 d2 v2 z Q wf r1 r2 e q
  cases r1 with
  | int i =>
    cases r2 with
    | int j =>
      simp only [dIc] at e
      split at e
      · rename_i h
        cases e
        exact ⟨i, j, rfl, rfl, h, q H _ (Same.refl H) (.int _)⟩
      · cases e
    | _ => cases e
  | _ => cases e
instance : ∀ i j, Decidable (CDiv i j) := fun i j => by unfold CDiv; infer_instance
instance : ∀ i j, Decidable (CMul i j) := fun i j => by unfold CMul; infer_instance
instance : ∀ i j, Decidable (CPow i j) := fun i j => by unfold CPow; infer_instance
abbrev dDiv := dIc CDiv fun i j => i / j
abbrev dMod := dIc (fun _ j => 0 < j) fun i j => i % j
abbrev dPow := dIc CPow fun i j => i ^ j.toNat
def dMul : D → D → Option D
  | .int i, .int j => if CMul i j then some (.int (i * j)) else none
  | .lst a, .int k => if a.length * k.toNat ≤ LIM ∧ immL a = true ∧ -(2 ^ 63) ≤ k ∧ k < 2 ^ 63 then some (.lst (List.replicate k.toNat a).flatten) else none
  | _, _ => none
def rMulA : R2 := fun x y H Q => (rI CMul fun i j => .int (i * j)) x y H Q ∨ rRep x y H Q
theorem op_mulA {X : Cx} : OpR X (binaryOp .Mult) rMulA := OpR.or op_mul op_rep
theorem repL_rep {H : Hp} {P : Addr → Prop} {ds : List D} {vs : List V} (r : RepL cl H P ds vs) : ∀ n, RepL cl H P (List.replicate n ds).flatten (List.replicate n vs).flatten
  | 0 => .nil
  | n + 1 => by
    rw [List.replicate_succ, List.replicate_succ, List.flatten_cons, List.flatten_cons]
    exact r.append (repL_rep r n)
theorem ops_mul : OpS cl rMulA dMul := by
  intro H w d1 v1 d2 v2 z Q wf r1 r2 e q
  cases r1 with
  | int i =>
    cases r2 with
    | int j =>
      simp only [dMul] at e
      split at e
      · rename_i h
        cases e
        exact .inl ⟨i, j, rfl, rfl, h, q H _ (Same.refl H) (.int _)⟩
      · cases e
    | _ => cases e
  | @lst p vs ds h1 _ ra =>
    cases r2 with
    | int k =>
      simp only [dMul] at e
      split at e
      · rename_i h
        obtain ⟨h, i1, b1, b2⟩ := h
        cases e
        refine .inr ⟨p, k, vs, rfl, rfl, h1, b1, b2, LIM_le (by rw [← ra.length]; exact h), fun l hl => ?_⟩
        have s := new_same (o := .lst (List.replicate k.toNat vs).flatten) hl
        exact q _ _ s (.lst upd_same (wf.fresh hl) ((repL_rep (RepL.im i1 ra) _).same s fun _ z => z))
      · cases e
    | _ => cases e
  | _ => cases e
def dNeg : D → Option D
  | .int i => some (.int (-i))
  | _ => none
theorem uns_neg : UnS cl (rU fun i => .int (-i)) dNeg := by
  intro H w d v z Q wf r e q
  cases r with
  | int i => cases e; exact ⟨i, rfl, q H _ (Same.refl H) (.int _)⟩
  | _ => cases e
def dB0 (g : Int → Int → Bool) : D → D → Option D
  | .int i, .int j => some (.bl (g i j))
  | _, _ => none
theorem ops_B0 {g : Int → Int → Bool} : OpS cl (rI0 fun i j => .bl (g i j)) (dB0 g) := by
  intro H w d1 v1 d2 v2 z Q wf r1 r2 e q
  cases r1 with
  | int i =>
    cases r2 with
    | int j => cases e; exact ⟨i, j, rfl, rfl, q H _ (Same.refl H) (.bl _)⟩
    | _ => cases e
  | _ => cases e
abbrev dLt := dB0 fun i j => decide (i < j)
abbrev dLe := dB0 fun i j => decide (i ≤ j)
abbrev dGt := dB0 fun i j => decide (j < i)
abbrev dGe := dB0 fun i j => decide (j ≤ i)
mutual
def toPy : D → PyData
  | .non => .none
  | .bl b => .bool b
  | .int i => .int i
  | .str s => .str s
  | .lst ds => .list (toPyL ds)
  | .tup ds => .tuple (toPyL ds)
  | .dct _ => .dict []
  | .dctT _ => .dict []
  | .ins _ _ => .dict []
def toPyL : List D → List PyData
  | [] => []
  | d :: ds => toPy d :: toPyL ds
end
mutual
theorem rep_dp {K : PySem.W.Frag} {H : Hp} {P : Addr → Prop} : ∀ {d : D} {v : V}, (toPy d).canLay0 = true → Rep cl H P d v → Dp K H v (toPy d)
  | _, _, _, .non => .non
  | _, _, _, .bl b => .bl b
  | _, _, _, .int b => .int b
  | _, _, _, .str b => .str b
  | _, _, i, .lst h p r => .lst (.inl (.inl h)) (repL_dp (by simpa [toPy, PyData.canLay0] using i) r)
  | _, _, i, .tup h r => .tup (.inl (.inl h)) (repL_dp (by simpa [toPy, PyData.canLay0] using i) r)
  | _, _, i, .dct h p r => by simp [toPy, PyData.canLay0] at i
  | _, _, i, .dctT h p r => by simp [toPy, PyData.canLay0] at i
  | _, _, i, .ins h p r => by simp [toPy, PyData.canLay0] at i
theorem repL_dp {K : PySem.W.Frag} {H : Hp} {P : Addr → Prop} : ∀ {d : List D} {v : List V}, PyData.canLayAll0 (toPyL d) = true → RepL cl H P d v → DpAll K H v (toPyL d)
  | _, _, _, .nil => .nil
  | d :: ds, _, i, .cons a b => by
    have e : (toPy d).canLay0 = true ∧ PyData.canLayAll0 (toPyL ds) = true := by simpa [toPyL, PyData.canLayAll0] using i
    exact .cons (rep_dp e.1 a) (repL_dp e.2 b)
end
def dEq (d e : D) : Option D := if SeqAt.shaped (toPy d) = true ∧ SeqAt.shaped (toPy e) = true then some (.bl (PyData.eqv (toPy d) (toPy e))) else none
def dNe (d e : D) : Option D := if SeqAt.shaped (toPy d) = true ∧ SeqAt.shaped (toPy e) = true then some (.bl (!PyData.eqv (toPy d) (toPy e))) else none
theorem ops_eq {K : PySem.W.Frag} : OpS cl (rEqD K) dEq := by
  intro H w d1 v1 d2 v2 z Q wf r1 r2 e q
  unfold dEq at e
  split at e
  · rename_i h
    cases e
    exact ⟨_, _, rep_dp (SeqAt.canLay_of_shaped h.1) r1, rep_dp (SeqAt.canLay_of_shaped h.2) r2, h.1, h.2, q H _ (Same.refl H) (.bl _)⟩
  · cases e
theorem ops_ne {K : PySem.W.Frag} : OpS cl (rNeD K) dNe := by
  intro H w d1 v1 d2 v2 z Q wf r1 r2 e q
  unfold dNe at e
  split at e
  · rename_i h
    cases e
    exact ⟨_, _, rep_dp (SeqAt.canLay_of_shaped h.1) r1, rep_dp (SeqAt.canLay_of_shaped h.2) r2, h.1, h.2, q H _ (Same.refl H) (.bl _)⟩
  · cases e
def isNon : D → Bool
  | .non => true
  | _ => false
theorem rep_non {H : Hp} {P : Addr → Prop} {d : D} {v : V} (h : Rep cl H P d v) : decide (v = .non) = isNon d := by
  cases h <;> simp [isNon]
def dIsN (d e : D) : Option D := if isNon e = true then some (.bl (isNon d)) else none
def dNotN (d e : D) : Option D := if isNon e = true then some (.bl (!isNon d)) else none
abbrev rIsN : R2 := fun x y H Q => y = .non ∧ Q (.bl (decide (x = .non))) H
abbrev rNotN : R2 := fun x y H Q => y = .non ∧ Q (.bl (!decide (x = .non))) H
theorem ops_isN : OpS cl rIsN dIsN := by
  intro H w d1 v1 d2 v2 z Q wf r1 r2 e q
  cases r2 with
  | non => cases e; exact ⟨rfl, by rw [rep_non r1]; exact q H _ (Same.refl H) (.bl _)⟩
  | _ => cases e
theorem ops_notN : OpS cl rNotN dNotN := by
  intro H w d1 v1 d2 v2 z Q wf r1 r2 e q
  cases r2 with
  | non => cases e; exact ⟨rfl, by rw [rep_non r1]; exact q H _ (Same.refl H) (.bl _)⟩
  | _ => cases e
end
end Mv

namespace Mv
open PySem L2
variable {cl : Nv}
section
variable {W : WX} {ms : List Mo} {c c1 c2 c3 : RC} {te ta tb : TE} {f g : List D → M D} {K : PySem.W.Frag}

def dIx : D → D → Option D
  | .lst ds, .int i => atI ds i
  | .tup ds, .int i => atI ds i
  | .str z, .int i => if z.length ≤ LIM then (atI z.cps.toList i).map fun c => .str ⟨#[c]⟩ else none
  | _, _ => none
theorem atI_get {α : Type} {xs : List α} {i : Int} {x : α} (h : atI xs i = some x) : ∃ j, ixN xs.length i = some j ∧ xs[j]? = some x := by
  unfold atI at h
  cases e : ixN xs.length i with
  | none => rw [e] at h; cases h
  | some j => rw [e] at h; exact ⟨j, rfl, h⟩
theorem atI_of {α : Type} {xs : List α} {i : Int} {x : α} {j : Nat} (h : ixN xs.length i = some j) (g : xs[j]? = some x) : atI xs i = some x := by
  unfold atI
  rw [h]
  exact g
theorem ix_step {H : Hp} {P : Addr → Prop} {d1 d2 z : D} {v1 v2 : V} {Q : VK} {P2 : Addr → Prop} (r1 : Rep cl H P d1 v1) (r2 : Rep cl H P2 d2 v2) (e : dIx d1 d2 = some z) (q : ∀ v, Rep cl H P z v → Q v H) : rIx K v1 v2 H Q := by
  cases r1 with
  | @lst p vs ds h1 _ ra =>
    cases r2 with
    | int i =>
      obtain ⟨j, h2, h3⟩ := atI_get (show atI ds i = some z from e)
      obtain ⟨v, h4, h5⟩ := ra.get h3
      exact .inl ⟨p, vs, i, v, rfl, rfl, .inl (.inl h1), atI_of (by rw [← ra.length]; exact h2) h4, q v h5⟩
    | _ => cases e
  | @tup p vs ds h1 ra =>
    cases r2 with
    | int i =>
      obtain ⟨j, h2, h3⟩ := atI_get (show atI ds i = some z from e)
      obtain ⟨v, h4, h5⟩ := ra.get h3
      exact .inr (.inl ⟨p, vs, i, v, rfl, rfl, .inl (.inl h1), atI_of (by rw [← ra.length]; exact h2) h4, q v h5⟩)
    | _ => cases e
  | str y =>
    cases r2 with
    | int i =>
      simp only [dIx] at e
      split at e
      · rename_i h
        obtain ⟨c, h1, rfl⟩ := Option.map_eq_some_iff.mp e
        exact .inr (.inr ⟨y, i, c, rfl, rfl, LIM_le h, h1, q _ (.str _)⟩)
      · cases e
    | _ => cases e
  | _ => cases e
def ixC : RC → RC
  | .lo => .lo
  | .an => .an
  | .al _ => .an
  | _ => .pu
theorem se_ix (ha : SE cl W ms c1 ta f) (hb : SE cl W ms c2 tb g) : SE cl W ms (ixC c1) (tOp (rIx K) ta tb) (eOp dIx f g) := fun H w σ env st r e x Q q =>
  ha.bind st e x fun d1 H1 v1 s1 r1 e => hb.bind (st.same s1) e (x.same s1) fun d2 H2 v2 s2 r2 e => by
    obtain ⟨z, e1, rfl⟩ := lift_ok e
    have r2' := r2.an (st.wf.same s1)
    have r1' := r1.same s2
    cases c1 with
    | pu => exact ix_step (P := Fz w) r1' r2' e1 fun v rv => q z rfl H2 v (s1.trans s2) rv
    | lo => exact ix_step (P := Lf w) r1' r2' e1 fun v rv => q z rfl H2 v (s1.trans s2) rv
    | an => exact ix_step (P := An) r1' r2' e1 fun v rv => q z rfl H2 v (s1.trans s2) rv
    | al js => exact ix_step (P := An) r1' r2' e1 fun v rv => q z rfl H2 v (s1.trans s2) rv
    | fr k => exact ix_step (P := Fz w) (FrT.pu st.wf r1') r2' e1 fun v rv => q z rfl H2 v (s1.trans s2) rv
def dLen : List D → Option D
  | [.lst ds] => some (.int ds.length)
  | [.tup ds] => some (.int ds.length)
  | [.str s] => if s.length ≤ LIM then some (.int s.length) else none
  | [.dct ks] => some (.int ks.length)
  | _ => none
def rLenA (K : PySem.W.Frag) : List V → Hp → VK → Prop := fun xs H Q => (∃ x n, xs = [x] ∧ LenV K x H n ∧ Q (.int n) H) ∨ (∃ a kvs, xs = [V.ref a] ∧ H a = some (.dK kvs) ∧ Q (.int kvs.length) H)
theorem call_lenA {X : Cx} : CallR X (.builtin "len") (rLenA X.K) := CallR.or call_len call_lenD
theorem RepK.length {H : Hp} {P : Addr → Prop} : ∀ {ds : List (Key × D)} {vs : List (Key × V)}, RepK cl H P ds vs → ds.length = vs.length
  | _, _, .nil => rfl
  | _, _, .cons _ r => congrArg (· + 1) (RepK.length r)
theorem ResL.one {H0 H : Hp} {w : Om} {ds : List D} {vs : List V} (wf : Wf H0 w) (h : ResL cl H0 H w [c] ds vs) : ∃ d v, ds = [d] ∧ vs = [v] ∧ Rep cl H An d v := by
  cases h with
  | cons a b => cases b; exact ⟨_, _, rfl, rfl, a.an wf⟩
theorem ResL.two {H0 H : Hp} {w : Om} {ds : List D} {vs : List V} (wf : Wf H0 w) (h : ResL cl H0 H w [c1, c2] ds vs) : ∃ d v e u, ds = [d, e] ∧ vs = [v, u] ∧ Rep cl H An d v ∧ Rep cl H An e u := by
  cases h with
  | cons a b =>
    cases b with
    | cons b2 b3 => cases b3; exact ⟨_, _, _, _, rfl, rfl, a.an wf, b2.an wf⟩
def CaS0 (cl : Nv) (r : List V → Hp → VK → Prop) (cs : List RC) (c : RC) (op : List D → Option D) : Prop := ∀ (H0 H : Hp) (w : Om) (ds : List D) (vs : List V) (z : D) (Q : VK), Wf H0 w → Same H0 H → ResL cl H0 H w cs ds vs → op ds = some z →
  (∀ H' v, Same H H' → Res cl H0 H' w c z v → Q v H') → r vs H Q
theorem se_call0 {r : List V → Hp → VK → Prop} {cs : List RC} {op : List D → Option D} {fs : List (List D → M D)} {tr : TA} (ho : CaS0 cl r cs c op) (hb : SEa cl W ms cs tr (eArgs fs)) : SE cl W ms c (tCB r tr) (eCall op fs) := fun H w σ env st r e x Q q =>
  hb.bind st e x fun ds H1 vs s1 r1 e => by
    obtain ⟨z, e1, rfl⟩ := lift_ok e
    exact ho H H1 w ds vs z Q st.wf s1 r1 e1 fun H' v s r => q z rfl H' v (s1.trans s) r
theorem ca_len : CaS0 cl (rLenA K) [c] .pu dLen := by
  intro H0 H w ds vs z Q wf s r e q
  obtain ⟨d, v, rfl, rfl, rr⟩ := r.one wf
  cases rr with
  | @lst p vs ds h1 _ ra => cases e; exact .inl ⟨_, vs.length, rfl, .inl ⟨vs, .inl (.inl h1), rfl⟩, by rw [← ra.length]; exact q H _ (Same.refl H) (.int _)⟩
  | @tup p vs ds h1 ra => cases e; exact .inl ⟨_, vs.length, rfl, .inr ⟨vs, .inl (.inl h1), rfl⟩, by rw [← ra.length]; exact q H _ (Same.refl H) (.int _)⟩
  | str y =>
    simp only [dLen] at e
    split at e
    · rename_i h
      cases e
      exact .inl ⟨_, y.length, rfl, ⟨LIM_le h, rfl⟩, q H _ (Same.refl H) (.int _)⟩
    · cases e
  | @dct p kvs kds h1 _ ra => cases e; exact .inr ⟨_, kvs, rfl, h1, by rw [← ra.length]; exact q H _ (Same.refl H) (.int _)⟩
  | _ => cases e
def dList : List D → Option D
  | [.lst ds] => if immL ds = true then some (.lst ds) else none
  | [.tup ds] => if immL ds = true then some (.lst ds) else none
  | _ => none
abbrev rListA (K : PySem.W.Frag) : List V → Hp → VK → Prop := fun xs H Q => ∃ p ys, xs = [.ref p] ∧ (SqL K H p ys ∨ SqT K H p ys) ∧ ∀ l, H l = none → Q (.ref l) (upd H l (.lst ys))
theorem ca_list : CaS0 cl (rListA K) [c] (.fr (.ls .fz)) dList := by
  intro H0 H w ds vs z Q wf s r e q
  obtain ⟨d, v, rfl, rfl, rr⟩ := r.one wf
  cases rr with
  | @lst p vs ds h1 _ ra =>
    simp only [dList] at e
    split at e
    · rename_i i
      cases e
      refine ⟨p, vs, rfl, .inl (.inl (.inl h1)), fun l hl => ?_⟩
      have s2 := new_same (o := .lst vs) hl
      exact q _ _ s2 (FrT.l1 (s.free hl) upd_same ((RepL.im i ra).same s2 fun _ z => z))
    · cases e
  | @tup p vs ds h1 ra =>
    simp only [dList] at e
    split at e
    · rename_i i
      cases e
      refine ⟨p, vs, rfl, .inr (.inl (.inl h1)), fun l hl => ?_⟩
      have s2 := new_same (o := .lst vs) hl
      exact q _ _ s2 (FrT.l1 (s.free hl) upd_same ((RepL.im i ra).same s2 fun _ z => z))
    · cases e
  | _ => cases e
def dInt1 (g : Int → Int) : List D → Option D
  | [.int i] => some (.int (g i))
  | _ => none
def dInt2 (g : Int → Int → Int) : List D → Option D
  | [.int i, .int j] => some (.int (g i j))
  | _ => none
abbrev dAbs := dInt1 fun i => if i < 0 then -i else i
abbrev dMax2 := dInt2 fun i j => if j > i then j else i
abbrev dMin2 := dInt2 fun i j => if j < i then j else i
theorem ca_int1 {g : Int → Int} : CaS0 cl (fun xs H Q => ∃ i, xs = [.int i] ∧ Q (.int (g i)) H) [c] .pu (dInt1 g) := by
  intro H0 H w ds vs z Q wf s r e q
  obtain ⟨d, v, rfl, rfl, rr⟩ := r.one wf
  cases rr with
  | int i => cases e; exact ⟨i, rfl, q H _ (Same.refl H) (.int _)⟩
  | _ => cases e
theorem ca_int2 {g : Int → Int → Int} : CaS0 cl (fun xs H Q => ∃ i j, xs = [.int i, .int j] ∧ Q (.int (g i j)) H) [c1, c2] .pu (dInt2 g) := by
  intro H0 H w ds vs z Q wf s r e q
  obtain ⟨d, v, d2, v2, rfl, rfl, rr, rr2⟩ := r.two wf
  cases rr with
  | int i =>
    cases rr2 with
    | int j => cases e; exact ⟨i, j, rfl, q H _ (Same.refl H) (.int _)⟩
    | _ => cases e
  | _ => cases e

def cutD (xs : List D) (lo hi : Option Int) : List D := (xs.drop (HT.sIx xs.length 0 lo)).take (HT.sIx xs.length xs.length hi - HT.sIx xs.length 0 lo)
theorem bd_bd {α β γ : Type} {a : M α} {k : α → M β} {l : β → M γ} : bd (bd a k) l = bd a fun x => bd (k x) l := by
  cases a with
  | none => rfl
  | some r => cases r <;> rfl
def toI : D → M (Option Int)
  | .int i => some (.ok (some i))
  | _ => none
def eOpt : Option (List D → M D) → List D → M (Option Int)
  | none => fun _ => some (.ok none)
  | some f => fun env => bd (f env) toI
def SEo (cl : Nv) (W : WX) (ms : List Mo) (to : TO) (fo : Option (List D → M D)) : Prop :=
  ∀ H w σ env, StOk cl H w ms σ env → ∀ {β : Type} {k : Option Int → M β} {r : R β}, bd (eOpt fo env) k = some r → Xc cl W σ H r → ∀ Q : Option Int → Hp → Prop, (∀ o H', Same H H' → k o = some r → Q o H') → to σ H Q
theorem seo_none : SEo cl W ms tNoPart none := fun H w σ env st β k r e x Q q => q none H (Same.refl H) e
theorem seo_some (ha : SE cl W ms c ta f) : SEo cl W ms (tPart ta) (some f) := fun H w σ env st β k r e x Q q => by
  have e' : bd (f env) (fun d => bd (toI d) k) = some r := bd_bd.symm.trans e
  refine ha.bind st e' x fun d H' v s rv e2 => ?_
  have rv' := rv.an st.wf
  cases rv' with
  | int i => exact ⟨i, rfl, q _ _ s e2⟩
  | _ => cases e2
def dCut (d : D) (lo hi : Option Int) : Option D := match d with
  | .lst ds => if immL ds = true then some (.lst (cutD ds lo hi)) else none
  | _ => none
def eSl (f : List D → M D) (lo hi : Option (List D → M D)) : List D → M D := fun env => bd (f env) fun d => bd (eOpt lo env) fun l => bd (eOpt hi env) fun h => lift (dCut d l h)
theorem RepL.cut {H : Hp} {P : Addr → Prop} {ds : List D} {vs : List V} (r : RepL cl H P ds vs) (lo hi : Option Int) : RepL cl H P (cutD ds lo hi) (cutV vs lo hi) := by
  unfold cutD cutV
  rw [r.length]
  exact (r.drop _).take _
theorem se_sl {tl th : TO} {lo hi : Option (List D → M D)} (ha : SE cl W ms c ta f) (hl : SEo cl W ms tl lo) (hh : SEo cl W ms th hi) : SE cl W ms (.fr (.ls .fz)) (tSl (rSlL K) ta tl th) (eSl f lo hi) := fun H w σ env st r e x Q q =>
  ha.bind st e x fun d1 H1 v1 s1 r1 e => hl H1 w σ env (st.same s1) e (x.same s1) _ fun l H2 s2 e => hh H2 w σ env ((st.same s1).same s2) e ((x.same s1).same s2) _ fun h H3 s3 e => by
    obtain ⟨z, e1, rfl⟩ := lift_ok e
    have r1' := (r1.same (s2.trans s3)).an st.wf
    cases r1' with
    | @lst p vs ds h1 _ ra =>
      simp only [dCut] at e1
      split at e1
      · rename_i i
        cases e1
        refine ⟨p, vs, rfl, .inl (.inl h1), fun n hn => ?_⟩
        have s4 := new_same (o := .lst (cutV vs l h)) hn
        have s13 := (s1.trans (s2.trans s3))
        exact q _ rfl _ _ (s13.trans s4) (FrT.l1 (s13.free hn) upd_same ((RepL.cut (RepL.im i ra) l h).same s4 fun _ z => z))
      · cases e1
    | _ => cases e1
def dCutF (d : D) (lo hi : Option Int) : Option D := match d with
  | .lst ds => some (.lst (cutD ds lo hi))
  | _ => none
def eSlF (f : List D → M D) (lo hi : Option (List D → M D)) : List D → M D := fun env => bd (f env) fun d => bd (eOpt lo env) fun l => bd (eOpt hi env) fun h => lift (dCutF d l h)
def dRev : D → Option D
  | .lst ds => if immL ds = true then some (.lst ds.reverse) else none
  | _ => none
def allPu : List RC → Bool
  | [] => true
  | c :: cs => toPu c && allPu cs
theorem ResL.pus {H0 H : Hp} {w : Om} (wf : Wf H0 w) : ∀ {cs : List RC} {ds : List D} {vs : List V}, allPu cs = true → ResL cl H0 H w cs ds vs → RepL cl H (Fz w) ds vs
  | _, _, _, _, .nil => .nil
  | c :: cs, _, _, i, .cons a b => by
    have e : toPu c = true ∧ allPu cs = true := by simpa [allPu] using i
    exact .cons (a.pu wf e.1) (ResL.pus wf e.2 b)
def eLst (fs : List (List D → M D)) : List D → M D := fun env => bd (eArgs fs env) fun ds => if ds.length ≤ LIM then some (.ok (.lst ds)) else none
def eTup (fs : List (List D → M D)) : List D → M D := fun env => bd (eArgs fs env) fun ds => if ds.length ≤ LIM then some (.ok (.tup ds)) else none
theorem se_lst {cs : List RC} {fs : List (List D → M D)} {tr : TA} (hc : allPu cs = true) (hb : SEa cl W ms cs tr (eArgs fs)) : SE cl W ms (.fr (.ls .fz)) (tLst tr) (eLst fs) := fun H w σ env st r e x Q q =>
  hb.bind st e x fun ds H1 vs s1 r1 e => by
    split at e
    · rename_i h
      cases e
      have rp := r1.pus st.wf hc
      refine ⟨LIM_le (by rw [← rp.length]; exact h), fun n hn => ?_⟩
      have s4 := new_same (o := .lst vs) hn
      exact q _ rfl _ _ (s1.trans s4) (FrT.l1 (s1.free hn) upd_same (rp.mono (fun a o e1 z => ⟨s4 a o e1, z, ne_of_none e1 hn⟩) fun a xs e1 => s4 a _ e1))
    · cases e
theorem se_tup {cs : List RC} {fs : List (List D → M D)} {tr : TA} (hc : allPu cs = true) (hb : SEa cl W ms cs tr (eArgs fs)) : SE cl W ms .pu (tTup tr) (eTup fs) := fun H w σ env st r e x Q q =>
  hb.bind st e x fun ds H1 vs s1 r1 e => by
    split at e
    · rename_i h
      cases e
      have rp := r1.pus st.wf hc
      refine ⟨LIM_le (by rw [← rp.length]; exact h), fun n hn => ?_⟩
      have s4 := new_same (o := .tup vs) hn
      exact q _ rfl _ _ (s1.trans s4) (.tup upd_same (rp.same s4 fun _ z => z))
    · cases e

def eT (f : List D → M D) : List D → M Bool := fun env => bd (f env) fun d => match d with
  | .bl b => some (.ok b)
  | _ => none
theorem set_B (ha : SE cl W ms c ta f) : SEt cl W ms (tB ta) (eT f) := fun H w σ env st r e x Q q =>
  ha.bind st e x fun d1 H1 v1 s1 r1 e => by
    have r1' := r1.an st.wf
    cases r1' with
    | bl b => cases e; exact ⟨b, rfl, q b rfl H1 s1⟩
    | _ => cases e
theorem set_T (ha : SE cl W ms c ta f) : SEt cl W ms (tTest ta) (eT f) := set_B ha
def eAnd (f g : List D → M Bool) : List D → M Bool := fun env => bd (f env) fun b => if b = true then g env else some (.ok false)
def eOr (f g : List D → M Bool) : List D → M Bool := fun env => bd (f env) fun b => if b = true then some (.ok true) else g env
def eNot (f : List D → M Bool) : List D → M Bool := fun env => bd (f env) fun b => some (.ok (!b))
section
variable {t u : TT} {ft fu : List D → M Bool}
theorem set_and (ha : SEt cl W ms t ft) (hb : SEt cl W ms u fu) : SEt cl W ms (tAnd t u) (eAnd ft fu) := fun H w σ env st r e x Q q =>
  ha.bind st e x fun b H1 s1 e => by
    cases b with
    | true =>
      rw [if_pos rfl] at e
      rw [if_pos rfl]
      exact hb H1 w σ env (st.same s1) r e (x.same s1) Q fun b hb H' s => q b hb H' (s1.trans s)
    | false =>
      cases e
      rw [if_neg Bool.false_ne_true]
      exact q _ rfl H1 s1
theorem set_or (ha : SEt cl W ms t ft) (hb : SEt cl W ms u fu) : SEt cl W ms (tOr t u) (eOr ft fu) := fun H w σ env st r e x Q q =>
  ha.bind st e x fun b H1 s1 e => by
    cases b with
    | true =>
      cases e
      rw [if_pos rfl]
      exact q _ rfl H1 s1
    | false =>
      rw [if_neg Bool.false_ne_true] at e
      rw [if_neg Bool.false_ne_true]
      exact hb H1 w σ env (st.same s1) r e (x.same s1) Q fun b hb H' s => q b hb H' (s1.trans s)
theorem set_not (ha : SEt cl W ms t ft) : SEt cl W ms (tNot t) (eNot ft) := fun H w σ env st r e x Q q =>
  ha.bind st e x fun b H1 s1 e => by
    cases e
    exact q _ rfl H1 s1
def eIf (t : List D → M Bool) (f g : List D → M D) : List D → M D := fun env => bd (t env) fun b => if b = true then f env else g env
end
def eAndV (f g : List D → M D) : List D → M D := fun env => bd (f env) fun d => match d with
  | .bl true => g env
  | .bl false => some (.ok (.bl false))
  | _ => none
def eOrV (f g : List D → M D) : List D → M D := fun env => bd (f env) fun d => match d with
  | .bl true => some (.ok (.bl true))
  | .bl false => g env
  | _ => none
def dNot : D → Option D
  | .bl b => some (.bl (!b))
  | _ => none
end
end Mv

namespace Mv
open PySem L2
variable {cl : Nv}

inductive Out where
  | nx (e : List D)
  | rt (d : D) (e : List D)
  | bk (e : List D)
  | ct (e : List D)
  | ex (c : String) (e : List D)
structure Md where
  nx : List Mo
  bk : List Mo
  ct : List Mo
  rt : List Mo
  ex : List Mo
  rc : RC
structure Kp (H : Hp) (w : Om) (H' : Hp) (w' : Om) : Prop where
  keep : Keep H w H' w'
  bo1 : ∀ a i, w a = some (.bo i) → w' a = some (.bo i)
  bo2 : ∀ a i, w' a = some (.bo i) → ∃ b, w b = some (.bo i)
theorem Kp.same {H H' : Hp} {w : Om} (s : Same H H') : Kp H w H' w := ⟨Keep.same s, fun _ _ z => z, fun a _ z => ⟨a, z⟩⟩
theorem Kp.refl {H : Hp} {w : Om} : Kp H w H w := Kp.same (Same.refl H)
theorem Kp.trans {H H1 H' : Hp} {w w1 w' : Om} (a : Kp H w H1 w1) (b : Kp H1 w1 H' w') : Kp H w H' w' :=
  ⟨a.keep.trans b.keep, fun x i z => b.bo1 x i (a.bo1 x i z), fun x i z => let ⟨y, q⟩ := b.bo2 x i z; a.bo2 y i q⟩
def Ret (cl : Nv) (H : Hp) (w : Om) : RC → D → V → Prop
  | .pu, d, v => Rep cl H (Fz w) d v
  | .lo, d, v => Rep cl H (Lf w) d v
  | .an, d, v => Rep cl H An d v
  | .al js, d, v => ∃ (p : Addr) (v0 v1 : V) (d0 d1 : D) (j : Nat) (s : Sh), d = .tup [d0, d1] ∧ v = .ref p ∧ H p = some (.tup [v0, v1]) ∧ j ∈ js ∧ v0 = (w.pin j).1 ∧ OwnT cl H w (.bo j) s d0 v0 ∧ Rep cl H (Fz w) d1 v1
  | .fr k, d, v => ∃ i, OwnT cl H w (.ow i) k d v
theorem Ret.al_an {cl : Nv} {H : Hp} {w : Om} {js : List Nat} {d : D} {v : V} (h : Ret cl H w (.al js) d v) : Rep cl H An d v := by
  obtain ⟨p, v0, v1, d0, d1, j, s, rfl, rfl, hp, _, _, o, r⟩ := h
  exact .tup hp (.cons o.rep (.cons (r.any fun _ _ => trivial) .nil))
def Post (cl : Nv) (W : WX) (m : Md) (H : Hp) (w : Om) (D : Ends) : Out → Prop
  | .nx e => ∀ H' w' σ', StOk cl H' w' m.nx σ' e → Kp H w H' w' → D.nx σ' H'
  | .bk e => ∀ H' w' σ', StOk cl H' w' m.bk σ' e → Kp H w H' w' → D.bk σ' H'
  | .ct e => ∀ H' w' σ', StOk cl H' w' m.ct σ' e → Kp H w H' w' → D.ct σ' H'
  | .rt d e => ∀ H' w' σ' v, StOk cl H' w' m.rt σ' e → Kp H w H' w' → Ret cl H' w' m.rc d v → D.rt v H'
  | .ex c e => ∀ H' w' σ', StOk cl H' w' m.ex σ' e → Kp H w H' w' → W (.ref (cl c)) none σ' H'
def SS (cl : Nv) (W : WX) (ms : List Mo) (m : Md) (ts : TS) (g : List D → Option Out) : Prop :=
  ∀ H w σ env, StOk cl H w ms σ env → ∀ o, g env = some o → ∀ D : Ends, Post cl W m H w D o → ts D σ H
theorem Post.trans {W : WX} {m : Md} {H H1 : Hp} {w w1 : Om} {D : Ends} {o : Out} (k : Kp H w H1 w1) (h : Post cl W m H w D o) : Post cl W m H1 w1 D o := by
  cases o with
  | nx e => exact fun H' w' σ' st k' => h H' w' σ' st (k.trans k')
  | bk e => exact fun H' w' σ' st k' => h H' w' σ' st (k.trans k')
  | ct e => exact fun H' w' σ' st k' => h H' w' σ' st (k.trans k')
  | rt d e => exact fun H' w' σ' v st k' => h H' w' σ' v st (k.trans k')
  | ex c e => exact fun H' w' σ' st k' => h H' w' σ' st (k.trans k')

def wk : List Mo → List Mo → Bool
  | [], [] => true
  | a :: as, b :: bs => (decide (b = .un) || decide (a = b)) && wk as bs
  | _, _ => false
theorem wk_len : ∀ {a b : List Mo}, wk a b = true → a.length = b.length
  | [], [], _ => rfl
  | a :: as, b :: bs, h => by
    have e : (decide (b = .un) || decide (a = b)) = true ∧ wk as bs = true := by simpa [wk] using h
    exact congrArg (· + 1) (wk_len e.2)
theorem wk_get : ∀ {a b : List Mo} {i : Nat} {m : Mo}, wk a b = true → b[i]? = some m → m ≠ .un → a[i]? = some m
  | [], [], _, _, _, e, _ => by simp at e
  | a :: as, b :: bs, 0, m, h, e, n => by
    have q : (b = .un ∨ a = b) ∧ wk as bs = true := by simpa [wk] using h
    simp at e
    subst e
    rcases q.1 with z | z
    · exact absurd z n
    · rw [z] <;> rfl
  | a :: as, b :: bs, i + 1, m, h, e, n => by
    have q : (b = .un ∨ a = b) ∧ wk as bs = true := by simpa [wk] using h
    exact wk_get (i := i) q.2 (by simpa using e) n
  | [], _ :: _, _, _, h, _, _ => by simp [wk] at h
section
variable {H H' H1 : Hp} {w w' : Om} {ms ms' : List Mo} {σ : L2.St} {env : List D} {W : WX} {m : Md} {c c1 c2 : RC} {te ta tb : TE} {f g : List D → M D}
theorem StOk.weak (h : StOk cl H w ms σ env) (q : wk ms ms' = true) : StOk cl H w ms' σ env :=
  ⟨h.wf, h.ls.trans (wk_len q), h.le.trans (wk_len q), fun i m e n => h.sl i m (wk_get q e n) n⟩
theorem StOk.setPu {i : Nat} {d : D} {v : V} (h : StOk cl H w ms σ env) (r : Rep cl H (Fz w) d v) : StOk cl H w (ms.set i .pu) (σ.set i (some v)) (env.set i d) := by
  refine ⟨h.wf, by simp [h.ls], by simp [h.le], fun j m e n => ?_⟩
  by_cases hj : j = i
  · subst hj
    have hl : j < ms.length := by
      have := (List.getElem?_eq_some_iff.mp e).1
      simpa using this
    rw [List.getElem?_set_self hl] at e
    cases e
    exact ⟨v, d, List.getElem?_set_self (by rw [h.ls]; exact hl), List.getElem?_set_self (by rw [h.le]; exact hl), r⟩
  · rw [List.getElem?_set_ne (Ne.symm hj)] at e
    obtain ⟨v', d', a, b, o⟩ := h.sl j m e n
    exact ⟨v', d', by rw [List.getElem?_set_ne (Ne.symm hj)]; exact a, by rw [List.getElem?_set_ne (Ne.symm hj)]; exact b, o⟩
theorem StOk.setLo {i : Nat} {d : D} {v : V} (h : StOk cl H w ms σ env) (r : Rep cl H (Lf w) d v) : StOk cl H w (ms.set i .lo) (σ.set i (some v)) (env.set i d) := by
  refine ⟨h.wf, by simp [h.ls], by simp [h.le], fun j m e n => ?_⟩
  by_cases hj : j = i
  · subst hj
    have hl : j < ms.length := by
      have := (List.getElem?_eq_some_iff.mp e).1
      simpa using this
    rw [List.getElem?_set_self hl] at e
    cases e
    exact ⟨v, d, List.getElem?_set_self (by rw [h.ls]; exact hl), List.getElem?_set_self (by rw [h.le]; exact hl), r⟩
  · rw [List.getElem?_set_ne (Ne.symm hj)] at e
    obtain ⟨v', d', a, b, o⟩ := h.sl j m e n
    exact ⟨v', d', by rw [List.getElem?_set_ne (Ne.symm hj)]; exact a, by rw [List.getElem?_set_ne (Ne.symm hj)]; exact b, o⟩
def rlb (w : Om) (A : List Addr) (l : Option Lb) : Om := ⟨fun a => if a ∈ A then l else w a, w.pin⟩
theorem rlb_in {w : Om} {A : List Addr} {l : Option Lb} {a : Addr} (h : a ∈ A) : rlb w A l a = l := if_pos h
theorem rlb_out {w : Om} {A : List Addr} {l : Option Lb} {a : Addr} (h : a ∉ A) : rlb w A l a = w a := if_neg h
def Unl (ms : List Mo) (n : Nat) : Prop := ∀ m, ms[n]? = some m → m = .un
theorem Unl.len {ms : List Mo} : Unl ms ms.length := fun m h => by simp at h
theorem Unl.set {ms : List Mo} {i : Nat} : Unl (ms.set i .un) i := fun m h => by
  by_cases hi : i < ms.length
  · rw [List.getElem?_set_self hi] at h; exact (Option.some.inj h).symm
  · rw [List.getElem?_eq_none (by simpa using hi)] at h; cases h
theorem StOk.other (h : StOk cl H w ms σ env) (k : Keep H w H' w') (wf : Wf H' w') (hw : ∀ j m a o, ms[j]? = some m → m ≠ .un → (w a = some (.ow j) ∨ w a = some (.bo j)) → H a = some o → H' a = some o ∧ w' a = w a) : StOk cl H' w' ms σ env :=
  ⟨wf, h.ls, h.le, fun i m e n => let ⟨v, d, a, b, c⟩ := h.sl i m e n; ⟨v, d, a, b, c.keep k h.wf fun a o x q => hw i m a o e n x q⟩⟩
theorem StOk.relab {n : Nat} {A : List Addr} {l : Option Lb} (h : StOk cl H w ms σ env) (hn : Unl ms n) (ha : ∀ a ∈ A, w a = some (.ow n)) : StOk cl H (rlb w A l) ms σ env ∧ Keep H w H (rlb w A l) := by
  have out : ∀ a, w a ≠ some (.ow n) → rlb w A l a = w a := fun a z => rlb_out fun m => z (ha a m)
  have k : Keep H w H (rlb w A l) := ⟨fun a o e q => ⟨e, by rw [out a (by rw [q]; intro z; cases z)]; exact q⟩, fun a o e q => ⟨e, by rw [out a (by rw [q]; intro z; cases z)]; exact q⟩, rfl⟩
  refine ⟨h.other k (fun a x e => ?_) (fun j m a o e nn x q => ⟨q, out a ?_⟩), k⟩
  · by_cases m : a ∈ A
    · exact h.wf a _ (ha a m)
    · rw [rlb_out m] at e
      exact h.wf a x e
  · intro z
    rcases x with x | x
    · rw [x] at z
      cases z
      exact nn (hn m e)
    · rw [x] at z; cases z
theorem Kp.relab {n : Nat} {A : List Addr} {l : Option Lb} (k : Keep H w H (rlb w A l)) (ha : ∀ a ∈ A, w a = some (.ow n)) (hl : ∀ i, l = some (.bo i) → ∃ b, w b = some (.bo i)) : Kp H w H (rlb w A l) := by
  refine ⟨k, fun a i z => ?_, fun a i z => ?_⟩
  · rw [rlb_out fun m => by rw [ha a m] at z; cases z]; exact z
  · by_cases m : a ∈ A
    · rw [rlb_in m] at z; exact hl i z
    · rw [rlb_out m] at z; exact ⟨a, z⟩
theorem Tr.relab {n : Nat} {A : List Addr} {l : Option Lb} {O O' : Addr → Prop} {s : Sh} {d : D} {v : V} (ha : ∀ a ∈ A, w a = some (.ow n)) (h : Tr cl H (Fz w) O s d v A) (ho : ∀ a ∈ A, O' a) : Tr cl H (Fz (rlb w A l)) O' s d v A :=
  h.mono (fun a o e q => ⟨e, (rlb_out fun m => by have z := ha a m; rw [show w a = none from q] at z; cases z).trans q⟩) (fun _ _ e => e) fun a m o e _ => ⟨e, ho a m⟩
def Tmp (cl : Nv) (H : Hp) (w : Om) (ms : List Mo) (s : Sh) (d : D) (v : V) : Prop := ∃ n, Unl ms n ∧ OwnT cl H w (.ow n) s d v
theorem StOk.put {i : Nat} {mo : Mo} {d : D} {v : V} (h : StOk cl H w ms σ env) (o : Own cl H w i mo d v) : StOk cl H w (ms.set i mo) (σ.set i (some v)) (env.set i d) := by
  refine ⟨h.wf, by simp [h.ls], by simp [h.le], fun j m e n => ?_⟩
  by_cases hj : j = i
  · subst hj
    have hl : j < ms.length := by
      have := (List.getElem?_eq_some_iff.mp e).1
      simpa using this
    rw [List.getElem?_set_self hl] at e
    cases e
    exact ⟨v, d, List.getElem?_set_self (by rw [h.ls]; exact hl), List.getElem?_set_self (by rw [h.le]; exact hl), o⟩
  · rw [List.getElem?_set_ne (Ne.symm hj)] at e
    obtain ⟨v', d', a, b, o⟩ := h.sl j m e n
    exact ⟨v', d', by rw [List.getElem?_set_ne (Ne.symm hj)]; exact a, by rw [List.getElem?_set_ne (Ne.symm hj)]; exact b, o⟩
theorem StOk.labX {s : Sh} {d : D} {v : V} (h : StOk cl H w ms σ env) (sm : Same H H') (r : FrT cl H H' w s d v) : ∃ w', StOk cl H' w' ms σ env ∧ Kp H w H' w' ∧ Tmp cl H' w' ms s d v ∧ (∀ a o, H a = some o → w' a = w a) ∧ ∃ A : List Addr, A.Nodup ∧ (∀ a ∈ A, H a = none) ∧ Tr cl H' (Fz w') (fun a => w' a = some (.ow ms.length)) s d v A := by
  obtain ⟨A, nd, fr, t⟩ := r
  have wn : ∀ a ∈ A, w a = none := fun a m => h.wf.fresh (fr a m)
  have out : ∀ a o, H a = some o → rlb w A (some (.ow ms.length)) a = w a := fun a o e => rlb_out fun m => by rw [fr a m] at e; cases e
  have k : Keep H w H' (rlb w A (some (.ow ms.length))) := ⟨fun a o e q => ⟨sm _ _ e, (out a o e).trans q⟩, fun a o e q => ⟨sm _ _ e, (out a o e).trans q⟩, rfl⟩
  refine ⟨rlb w A (some (.ow ms.length)), h.other k (fun a x e => ?_) fun j m a o _ _ _ q => ⟨sm _ _ q, out a o q⟩, ⟨k, fun a i z => ?_, fun a i z => ?_⟩, ⟨ms.length, Unl.len, A, nd, t.mono (fun a o e q => ⟨e, (rlb_out q.2).trans q.1⟩) (fun _ _ e => e) fun a m o e _ => ⟨e, rlb_in m⟩⟩, out, A, nd, fr, t.mono (fun a o e q => ⟨e, (rlb_out q.2).trans q.1⟩) (fun _ _ e => e) fun a m o e _ => ⟨e, rlb_in m⟩⟩
  · by_cases m : a ∈ A
    · obtain ⟨_, o, e2, nt⟩ := t.ob a m
      exact ⟨o, e2, isTup_of nt⟩
    · rw [rlb_out m] at e
      exact (h.wf.same sm) a x e
  · rw [rlb_out fun m => by rw [wn a m] at z; cases z]; exact z
  · by_cases m : a ∈ A
    · rw [rlb_in m] at z; cases z
    · rw [rlb_out m] at z; exact ⟨a, z⟩
theorem StOk.lab {s : Sh} {d : D} {v : V} (h : StOk cl H w ms σ env) (sm : Same H H') (r : FrT cl H H' w s d v) : ∃ w', StOk cl H' w' ms σ env ∧ Kp H w H' w' ∧ Tmp cl H' w' ms s d v :=
  let ⟨w', a, b, c, _⟩ := h.labX sm r; ⟨w', a, b, c⟩
theorem StOk.take {i : Nat} {s : Sh} {d : D} {v : V} (h : StOk cl H w ms σ env) (t : Tmp cl H w ms s d v) : ∃ w', StOk cl H w' (ms.set i (.ow s)) (σ.set i (some v)) (env.set i d) ∧ Kp H w H w' := by
  obtain ⟨n, hn, A, nd, t⟩ := t
  have ha := fun a m => (t.ob a m).1
  obtain ⟨st, k⟩ := h.relab (l := some (.ow i)) hn ha
  exact ⟨_, st.put ⟨A, nd, t.relab ha fun a m => rlb_in m⟩, Kp.relab k ha fun j z => by cases z⟩
theorem StOk.frz {s : Sh} {d : D} {v : V} (h : StOk cl H w ms σ env) (t : Tmp cl H w ms s d v) : ∃ w', StOk cl H w' ms σ env ∧ Kp H w H w' ∧ Rep cl H (Fz w') d v := by
  obtain ⟨n, hn, A, nd, t⟩ := t
  have ha := fun a m => (t.ob a m).1
  obtain ⟨st, k⟩ := h.relab (l := none) hn ha
  exact ⟨_, st, Kp.relab k ha (fun j z => by cases z), (t.relab (O' := fun _ => True) (l := none) ha fun a m => trivial).rep (fun a z => z) fun a m => rlb_in m⟩
theorem StOk.out {i : Nat} {s : Sh} (h : StOk cl H w ms σ env) (hm : ms[i]? = some (.ow s)) : ∃ v d, σ[i]? = some (some v) ∧ env[i]? = some d ∧ StOk cl H w (ms.set i .un) σ env ∧ Tmp cl H w (ms.set i .un) s d v := by
  obtain ⟨v, d, a, b, o⟩ := h.sl i _ hm (by intro z; cases z)
  refine ⟨v, d, a, b, ⟨h.wf, by simp [h.ls], by simp [h.le], fun j m e n => ?_⟩, i, Unl.set, o⟩
  by_cases hj : j = i
  · subst hj
    exact absurd (Unl.set m e) n
  · rw [List.getElem?_set_ne (Ne.symm hj)] at e
    exact h.sl j m e n

def sSeq (a b : List D → Option Out) : List D → Option Out := fun env => match a env with
  | some (.nx e) => b e
  | o => o
def sX (r : M D) (env : List D) (k : D → Option Out) : Option Out := match r with
  | some (.ok d) => k d
  | some (.ex c) => some (.ex c env)
  | none => none
@[simp] theorem sX_ok {env : List D} {k : D → Option Out} {d : D} : sX (some (.ok d)) env k = k d := rfl
@[simp] theorem sX_ex {env : List D} {k : D → Option Out} {d : String} : sX (some (.ex d)) env k = some (.ex d env) := rfl
def sSet (i : Nat) (f : List D → M D) : List D → Option Out := fun env => sX (f env) env fun d => some (.nx (env.set i d))
def sRet (f : List D → M D) : List D → Option Out := fun env => sX (f env) env fun d => some (.rt d env)
def sNext : List D → Option Out := fun env => some (.nx env)
def sBrk : List D → Option Out := fun env => some (.bk env)
def sCnt : List D → Option Out := fun env => some (.ct env)
def sDrop (f : List D → M D) : List D → Option Out := fun env => sX (f env) env fun _ => some (.nx env)
def sIf (t : List D → M Bool) (a b : List D → Option Out) : List D → Option Out := fun env => match t env with
  | some (.ok true) => a env
  | some (.ok false) => b env
  | some (.ex c) => some (.ex c env)
  | none => none
theorem SE.stm (h : SE cl W ms c te f) (st : StOk cl H w ms σ env) {k : D → Option Out} {o : Out} (e : sX (f env) env k = some o) {D : Ends} (hx : wk ms m.ex = true) (p : Post cl W m H w D o) {Q : VK}
    (q : ∀ d H' v, Same H H' → Res cl H H' w c d v → k d = some o → Q v H') : te σ H Q := by
  cases e1 : f env with
  | none => rw [e1] at e; cases e
  | some r1 =>
    rw [e1] at e
    cases r1 with
    | ex y =>
      cases e
      refine h H w σ env st _ e1 (fun z hz H' s => ?_) Q fun d hd => nomatch hd
      cases hz
      exact p H' w σ ((st.same s).weak hx) (Kp.same s)
    | ok d =>
      refine h H w σ env st _ e1 (fun z hz => nomatch hz) Q fun d' hd H' v s r' => ?_
      cases hd
      exact q d H' v s r' e
theorem ss_seq {t1 t2 : TS} {g1 g2 : List D → Option Out} (ms1 : List Mo) (h1 : SS cl W ms { m with nx := ms1 } t1 g1) (h2 : SS cl W ms1 m t2 g2) : SS cl W ms m (tSeq t1 t2) (sSeq g1 g2) := by
  intro H w σ env st o e D p
  cases e1 : g1 env with
  | none => unfold sSeq at e; rw [e1] at e; cases e
  | some o1 =>
    refine h1 H w σ env st o1 e1 _ ?_
    unfold sSeq at e
    rw [e1] at e
    cases o1 with
    | nx e2 => exact fun H' w' σ' st' k => h2 H' w' σ' e2 st' o e D (p.trans k)
    | rt d e2 => cases e; exact p
    | bk e2 => cases e; exact p
    | ct e2 => cases e; exact p
    | ex x e2 => cases e; exact p
theorem ss_set {i : Nat} (hc : toPu c = true) (h : SE cl W ms c te f) (hx : wk ms m.ex = true) (hn : wk (ms.set i .pu) m.nx = true) : SS cl W ms m (tAsg te (gName i)) (sSet i f) := by
  intro H w σ env st o e D p
  refine h.stm st e hx p fun d H' v s r e => ?_
  cases e
  exact p H' w _ (((st.same s).setPu (r.pu st.wf hc)).weak hn) (Kp.same s)
theorem ss_setO {i : Nat} {k : Sh} (h : SE cl W ms (.fr k) te f) (hx : wk ms m.ex = true) (hn : wk (ms.set i (.ow k)) m.nx = true) : SS cl W ms m (tAsg te (gName i)) (sSet i f) := by
  intro H w σ env st o e D p
  refine h.stm st e hx p fun d H' v s r e => ?_
  cases e
  obtain ⟨w1, st1, k1, t1⟩ := st.lab s r
  obtain ⟨w2, st2, k2⟩ := st1.take (i := i) t1
  exact p H' w2 _ (st2.weak hn) (k1.trans k2)
theorem ss_ret (hc : toPu c = true) (h : SE cl W ms c te f) (hx : wk ms m.ex = true) (hr : wk ms m.rt = true) (hm : m.rc = .pu := by rfl) : SS cl W ms m (tRet te) (sRet f) := by
  intro H w σ env st o e D p
  refine h.stm st e hx p fun d H' v s r e => ?_
  cases e
  exact p H' w _ v ((st.same s).weak hr) (Kp.same s) (by rw [hm]; exact r.pu st.wf hc)
theorem ss_retO {i : Nat} {k : Sh} (hi : ms[i]? = some (.ow k)) (hr : wk ms m.rt = true) (hm : m.rc = .fr k := by rfl) : SS cl W ms m (tRet (tVar i)) (sRet (eVar i)) := by
  intro H w σ env st o e D p
  obtain ⟨v, d, a, b, r⟩ := st.sl i _ hi (by intro z; cases z)
  unfold sRet eVar at e
  rw [b] at e
  cases e
  exact ⟨v, a, p H w σ v (st.weak hr) Kp.refl (by rw [hm]; exact ⟨i, r⟩)⟩
theorem ss_retF {k : Sh} (h : SE cl W ms (.fr k) te f) (hx : wk ms m.ex = true) (hr : wk ms m.rt = true) (hm : m.rc = .fr k := by rfl) : SS cl W ms m (tRet te) (sRet f) := by
  intro H w σ env st o e D p
  refine h.stm st e hx p fun d H' v s r e => ?_
  cases e
  obtain ⟨w1, st1, k1, n, _, t1⟩ := st.lab s r
  exact p H' w1 _ v (st1.weak hr) k1 (by rw [hm]; exact ⟨n, t1⟩)
theorem ss_next (hn : wk ms m.nx = true) : SS cl W ms m tNext sNext := fun H w σ env st o e D p => by
  cases e
  exact p H w σ (st.weak hn) Kp.refl
theorem ss_drop (h : SE cl W ms c te f) (hx : wk ms m.ex = true) (hn : wk ms m.nx = true) : SS cl W ms m (tDrop te) (sDrop f) := by
  intro H w σ env st o e D p
  refine h.stm st e hx p fun d H' v s r e => ?_
  cases e
  exact p H' w _ ((st.same s).weak hn) (Kp.same s)
theorem ss_if {t : TT} {ft : List D → M Bool} {t1 t2 : TS} {g1 g2 : List D → Option Out} (ht : SEt cl W ms t ft) (h1 : SS cl W ms m t1 g1) (h2 : SS cl W ms m t2 g2) (hx : wk ms m.ex = true) : SS cl W ms m (tIfS t t1 t2) (sIf ft g1 g2) := by
  intro H w σ env st o e D p
  unfold sIf at e
  cases e1 : ft env with
  | none => rw [e1] at e; cases e
  | some r1 =>
    rw [e1] at e
    cases r1 with
    | ex y =>
      cases e
      refine ht H w σ env st _ e1 (fun z hz H' s => ?_) _ fun d hd => nomatch hd
      cases hz
      exact p H' w σ ((st.same s).weak hx) (Kp.same s)
    | ok b =>
      refine ht H w σ env st _ e1 (fun z hz => nomatch hz) _ fun d' hd H' s => ?_
      cases hd
      cases b with
      | true =>
        show (if true = true then t1 D σ H' else t2 D σ H')
        rw [if_pos rfl]
        exact h1 H' w σ env (st.same s) o e D (p.trans (Kp.same s))
      | false =>
        show (if false = true then t1 D σ H' else t2 D σ H')
        rw [if_neg Bool.false_ne_true]
        exact h2 H' w σ env (st.same s) o e D (p.trans (Kp.same s))
end
end Mv

namespace Mv
open PySem L2
variable {cl : Nv}
section
variable {H H' H1 : Hp} {w w' : Om} {ms ms' : List Mo} {σ : L2.St} {env : List D} {W : WX} {m : Md} {c c1 c2 : RC} {te ta tb ti : TE} {f g fi : List D → M D} {K : PySem.W.Frag}

def Plc (cl : Nv) (H : Hp) (w : Om) (ms : List Mo) (σ : L2.St) (env : List D) (i : Nat) (s : Sh) (d0 : D) (v0 : V) (Rf : D → D) : Prop :=
  ∃ mo s' l d v L A0 R, ms[i]? = some mo ∧ (mo = Mo.ow s' ∧ l = Lb.ow i ∨ mo = Mo.bo s' ∧ l = Lb.bo i ∧ v = (w.pin i).1) ∧ σ[i]? = some (some v) ∧ env[i]? = some d ∧ (L ++ A0 ++ R).Nodup ∧ (∀ a ∈ L ++ R, w a = some l) ∧ Tr cl H (Fz w) (fun a => w a = some l) s d0 v0 A0 ∧
    ∀ {H' : Hp} {P' O' : Addr → Prop} {d1 : D} {A1 : List Addr}, (∀ a o, H a = some o → w a = none → H' a = some o ∧ P' a) → (∀ a xs, H a = some (.tup xs) → H' a = some (.tup xs)) → (∀ a ∈ L ++ R, ∀ o, H a = some o → w a = some l → H' a = some o ∧ O' a) →
      Tr cl H' P' O' s d1 v0 A1 → Tr cl H' P' O' s' (Rf d1) v (L ++ A1 ++ R)
theorem Plc.same {i : Nat} {s : Sh} {d0 : D} {v0 : V} {Rf : D → D} (h : Plc cl H w ms σ env i s d0 v0 Rf) (sm : Same H H') (wf : Wf H w) : Plc cl H' w ms σ env i s d0 v0 Rf := by
  obtain ⟨mo, s', l, d, v, L, A0, R, h1, h2, h3, h4, h5, h6, h7, h8⟩ := h
  have hf : ∀ a o, H a = some o → H' a = some o := fun a o e => sm a o e
  refine ⟨mo, s', l, d, v, L, A0, R, h1, h2, h3, h4, h5, h6, h7.mono (fun a o e q => ⟨sm _ _ e, q⟩) (fun a xs e => sm _ _ e) (fun a m o e q => ⟨sm _ _ e, q⟩), fun {H2} {P'} {O'} {d1} {A1} g t q x => h8 (fun a o e z => g a o (sm _ _ e) z) (fun a xs e => t a xs (sm _ _ e)) (fun a ma o e z => q a ma o (sm _ _ e) z) x⟩
def SP (cl : Nv) (W : WX) (ms : List Mo) (i : Nat) (s : Sh) (te : TE) (f : List D → M D) (pf : List D → Option (D → D)) : Prop :=
  ∀ H w σ env, StOk cl H w ms σ env → ∀ r, f env = some r → Xc cl W σ H r → ∀ Q : VK, (∀ d, r = .ok d → ∀ H' v, Same H H' → (∃ Rf, pf env = some Rf ∧ Plc cl H' w ms σ env i s d v Rf) → Q v H') → te σ H Q
def pVar : List D → Option (D → D) := fun _ => some fun z => z
theorem StOk.plc {i : Nat} {s : Sh} {mo : Mo} (st : StOk cl H w ms σ env) (hm : ms[i]? = some mo) (hk : mo = .ow s ∨ mo = .bo s) : ∃ v d, σ[i]? = some (some v) ∧ env[i]? = some d ∧ Plc cl H w ms σ env i s d v fun z => z := by
  have hu : mo ≠ .un := by rcases hk with rfl | rfl <;> (intro z; cases z)
  obtain ⟨v, d, a, b, o⟩ := st.sl i _ hm hu
  have fin : ∀ l, (mo = Mo.ow s ∧ l = Lb.ow i ∨ mo = Mo.bo s ∧ l = Lb.bo i ∧ v = (w.pin i).1) → OwnT cl H w l s d v → Plc cl H w ms σ env i s d v (fun z => z) := fun l hl ⟨A, nd, t⟩ =>
    ⟨mo, s, l, d, v, [], A, [], hm, hl, a, b, by simpa using nd, fun a z => absurd z (by simp), t, fun {H2} {P'} {O'} {d1} {A1} _ _ _ x => by simpa using x⟩
  refine ⟨v, d, a, b, ?_⟩
  rcases hk with rfl | rfl
  · exact fin _ (.inl ⟨rfl, rfl⟩) o
  · exact fin _ (.inr ⟨rfl, rfl, o.1⟩) o.2
theorem sp_gen {i : Nat} {s : Sh} {mo : Mo} (hm : ms[i]? = some mo) (hk : mo = .ow s ∨ mo = .bo s) : SP cl W ms i s (tVar i) (eVar i) pVar := fun H w σ env st r e x Q q => by
  obtain ⟨d, e1, rfl⟩ := lift_ok e
  obtain ⟨v, d', a, b, pl⟩ := st.plc hm hk
  rw [b] at e1
  cases e1
  exact ⟨v, a, q _ rfl H v (Same.refl H) ⟨_, rfl, pl⟩⟩
theorem sp_var {i : Nat} {s : Sh} (hm : ms[i]? = some (.ow s)) : SP cl W ms i s (tVar i) (eVar i) pVar := sp_gen hm (.inl rfl)
theorem sp_varB {i : Nat} {s : Sh} (hm : ms[i]? = some (.bo s)) : SP cl W ms i s (tVar i) (eVar i) pVar := sp_gen hm (.inr rfl)
theorem SP.bind {i : Nat} {s : Sh} {pf : List D → Option (D → D)} (h : SP cl W ms i s te f pf) (st : StOk cl H w ms σ env) {β : Type} {k : D → M β} {r : R β} (e : bd (f env) k = some r) (x : Xc cl W σ H r) {Q : VK}
    (q : ∀ d H' v Rf, Same H H' → pf env = some Rf → f env = some (.ok d) → Plc cl H' w ms σ env i s d v Rf → k d = some r → Q v H') : te σ H Q := by
  cases e1 : f env with
  | none => rw [e1] at e; cases e
  | some r1 =>
    rw [e1] at e
    cases r1 with
    | ex y =>
      have e' : r = .ex y := (Option.some.inj e).symm
      refine h H w σ env st _ e1 (fun z hz H' s => ?_) Q fun d hd => nomatch hd
      cases hz
      exact x y e' H' s
    | ok d =>
      refine h H w σ env st _ e1 (fun z hz => nomatch hz) Q fun d' hd H' v s ⟨Rf, h1, h2⟩ => ?_
      cases hd
      exact q d H' v Rf s h1 e1 h2 e
theorem Plc.an {i : Nat} {s : Sh} {d0 : D} {v0 : V} {Rf : D → D} (h : Plc cl H w ms σ env i s d0 v0 Rf) : Rep cl H An d0 v0 := by
  obtain ⟨mo, s', l, d, v, L, A0, R, h1, h2, h3, h4, h5, h6, h7, h8⟩ := h
  exact h7.rep (fun _ _ => trivial) fun _ _ => trivial
theorem Plc.unop {i : Nat} {s : Sh} {d0 : D} {v0 : V} {Rf : D → D} (h : Plc cl H w ms σ env i (.op s) d0 v0 Rf) (hd : d0 ≠ .non) : Plc cl H w ms σ env i s d0 v0 Rf := by
  obtain ⟨mo, s', l, d, v, L, A0, R, h1, h2, h3, h4, h5, h6, h7, h8⟩ := h
  cases h7 with
  | no => exact absurd rfl hd
  | so t => exact ⟨mo, s', l, d, v, L, A0, R, h1, h2, h3, h4, h5, h6, t, fun g t q x => h8 g t q (.so x)⟩
def isOp (s a : Sh) : Bool := decide (s = a) || decide (s = .op a)
theorem Plc.op {i : Nat} {s a : Sh} {d0 : D} {v0 : V} {Rf : D → D} (hs : isOp s a = true) (h : Plc cl H w ms σ env i s d0 v0 Rf) (hd : d0 ≠ .non) : Plc cl H w ms σ env i a d0 v0 Rf := by
  have hs' : s = a ∨ s = .op a := by simpa [isOp] using hs
  rcases hs' with rfl | rfl
  · exact h
  · exact h.unop hd
theorem SP.an {i : Nat} {s : Sh} {pf : List D → Option (D → D)} (h : SP cl W ms i s te f pf) : SE cl W ms .an te f := fun H w σ env st r e x Q q =>
  h H w σ env st r e x Q fun d hd H' v s ⟨_, _, pl⟩ => q d hd H' v s pl.an
theorem SP.pu {i : Nat} {pf : List D → Option (D → D)} (h : SP cl W ms i .fz te f pf) : SE cl W ms .pu te f := fun H w σ env st r e x Q q =>
  h H w σ env st r e x Q fun d hd H' v s ⟨_, _, pl⟩ => q d hd H' v s (by
    obtain ⟨mo, s', l, d, v, L, A0, R, h1, h2, h3, h4, h5, h6, h7, h8⟩ := pl
    cases h7 with
    | fz r => exact r)
def pIx (f fi : List D → M D) (pf : List D → Option (D → D)) : List D → Option (D → D) := fun env => match pf env, f env, fi env with
  | some R, some (.ok (.lst ds)), some (.ok (.int k)) => (ixN ds.length k).map fun n z => R (.lst (ds.set n z))
  | _, _, _ => none
theorem set_self {α : Type} {xs : List α} {n : Nat} {x : α} (h : xs[n]? = some x) : xs.set n x = xs := by
  obtain ⟨h1, h2⟩ := List.getElem?_eq_some_iff.mp h
  subst h2
  exact List.set_getElem_self h1
theorem Plc.ix {i : Nat} {s : Sh} {ds : List D} {v0 : V} {Rf : D → D} {n : Nat} {d1 : D} (h : Plc cl H w ms σ env i (.ls s) (.lst ds) v0 Rf) (hn : ds[n]? = some d1) :
    ∃ p vs v1, v0 = .ref p ∧ H p = some (.lst vs) ∧ ds.length = vs.length ∧ vs[n]? = some v1 ∧ Plc cl H w ms σ env i s d1 v1 (fun z => Rf (.lst (ds.set n z))) := by
  obtain ⟨mo, s', l, d, v, L, A0, R, h1, h2, h3, h4, h5, h6, h7, h8⟩ := h
  cases h7 with
  | @ls _ p vs _ A00 hp op tl =>
    obtain ⟨v1, L2, A1, R2, k1, k2, k3, k4⟩ := tl.foc hn
    subst k2
    refine ⟨p, vs, v1, rfl, hp, tl.length, k1, mo, s', l, d, v, L ++ (p :: L2), A1, R2 ++ R, h1, h2, h3, h4, ?_, ?_, k3, fun {H2} {P'} {O'} {d2} {A2} g t q x => ?_⟩
    · have z : L ++ p :: (L2 ++ A1 ++ R2) ++ R = L ++ (p :: L2) ++ A1 ++ (R2 ++ R) := by simp [List.append_assoc]
      rw [← z]; exact h5
    · intro a ma
      have ob := tl.ob
      simp only [List.mem_append, List.mem_cons] at ma ob h6
      rcases ma with (ma | rfl | ma) | ma | ma
      · exact h6 a (.inl ma)
      · exact op
      · exact (ob a (.inl (.inl ma))).1
      · exact (ob a (.inr ma)).1
      · exact h6 a (.inr ma)
    · have hp2 := q p (by simp) _ hp op
      have z := h8 (A1 := p :: (L2 ++ A2 ++ R2)) (d1 := .lst (ds.set n d2)) (H' := H2) (P' := P') (O' := O') g t (fun a ma o e y => q a (by
        simp only [List.mem_append, List.mem_cons] at ma ⊢
        rcases ma with ma | ma
        · exact .inl (.inl ma)
        · exact .inr (.inr ma)) o e y) (.ls hp2.1 hp2.2 (by
          have k5 := k4 (v1 := v1) g t (fun a ma o e y => q a (by
            simp only [List.mem_append, List.mem_cons] at ma ⊢
            rcases ma with ma | ma
            · exact .inl (.inr (.inr ma))
            · exact .inr (.inl ma)) o e y) x
          rw [set_self k1] at k5
          exact k5))
      have z2 : L ++ p :: (L2 ++ A2 ++ R2) ++ R = L ++ (p :: L2) ++ A2 ++ (R2 ++ R) := by simp [List.append_assoc]
      rw [← z2]; exact z
theorem sp_ix {i : Nat} {s s0 : Sh} {pf : List D → Option (D → D)} (h : SP cl W ms i s0 te f pf) (hi : SE cl W ms c ti fi) (hs : isOp s0 (.ls s) = true := by rfl) : SP cl W ms i s (tOp (rIx K) te ti) (eOp dIx f fi) (pIx f fi pf) := fun H w σ env st r e x Q q =>
  h.bind st e x fun d1 H1 v1 Rf s1 hp hf pl e =>
    hi.bindE (st.same s1) e (x.same s1) fun d2 H2 v2 hfi s2 r2' e => by
      obtain ⟨z, e1, rfl⟩ := lift_ok e
      have pl2 := pl.same s2 (st.wf.same s1)
      have rv2 := r2'.an (st.wf.same s1)
      cases rv2 with
      | int k =>
        have hd : d1 ≠ .non := fun z => by subst z; cases e1
        have pl3 := pl2.op hs hd
        have hl : ∃ ds, d1 = .lst ds := by
          obtain ⟨mo, s', l, d, v, L, A0, R, h1, h2, h3, h4, h5, h6, h7, h8⟩ := pl3
          cases h7 with
          | ls hp op tl => exact ⟨_, rfl⟩
        obtain ⟨ds, rfl⟩ := hl
        obtain ⟨n, h2, h3⟩ := atI_get (show atI ds k = some z from e1)
        obtain ⟨p, vs, u, rfl, h4, h5, h6, pl4⟩ := pl3.ix h3
        exact .inl ⟨p, vs, k, u, rfl, rfl, .inl (.inl h4), atI_of (by rw [← h5]; exact h2) h6, q z rfl H2 u (s1.trans s2) ⟨_, by unfold pIx; rw [hp, hf, hfi]; show (ixN ds.length k).map _ = _; rw [h2]; rfl, pl4⟩⟩
      | _ => cases d1 <;> cases e1
def dFld (c : String) (n : Str) : D → Option D
  | .ins c' fs => if c' = c then fs.lookup n else none
  | _ => none
def pFd (n : Str) (f : List D → M D) (pf : List D → Option (D → D)) : List D → Option (D → D) := fun env => match pf env, f env with
  | some R, some (.ok (.ins c fs)) => some fun z => R (.ins c (putD n z fs))
  | _, _ => none
theorem putF_self {α : Type} {f : Str} {v : V} : ∀ {fs : List (Str × V)}, fs.lookup f = some v → putF f v fs = fs
  | [], h => by simp at h
  | (k, u) :: fs, h => by
    by_cases hk : k = f
    · subst hk
      have : u = v := by simpa [List.lookup] using h
      subst this
      simp [putF]
    · have hk2 : (f == k) = false := by simpa using fun z : f = k => hk z.symm
      have := putF_self (α := α) (f := f) (fs := fs) (by simpa [List.lookup, hk2] using h)
      simp [putF, hk, this]
theorem Plc.fd {i n : Nat} {nm : Str} {cc : String} {fds : List (Str × D)} {v0 : V} {Rf : D → D} {d1 : D} (h : Plc cl H w ms σ env i (.io n) (.ins cc fds) v0 Rf) (hn : fds.lookup nm = some d1) :
    ∃ p dx fs v1, v0 = .ref p ∧ H p = some (.ins (cl cc) dx fs) ∧ fs.lookup nm = some v1 ∧ Plc cl H w ms σ env i (fldT n nm) d1 v1 (fun z => Rf (.ins cc (putD nm z fds))) := by
  obtain ⟨mo, s', l, d, v, L, A0, R, h1, h2, h3, h4, h5, h6, h7, h8⟩ := h
  cases h7 with
  | @io _ p _ dx fs _ A00 hp op tl =>
    obtain ⟨v1, L2, A1, R2, k1, k2, k3, k4⟩ := tl.foc hn
    subst k2
    refine ⟨p, dx, fs, v1, rfl, hp, k1, mo, s', l, d, v, L ++ (p :: L2), A1, R2 ++ R, h1, h2, h3, h4, ?_, ?_, k3, fun {H2} {P'} {O'} {d2} {A2} g t q x => ?_⟩
    · have z : L ++ p :: (L2 ++ A1 ++ R2) ++ R = L ++ (p :: L2) ++ A1 ++ (R2 ++ R) := by simp [List.append_assoc]
      rw [← z]; exact h5
    · intro a ma
      have ob := tl.ob
      simp only [List.mem_append, List.mem_cons] at ma ob h6
      rcases ma with (ma | rfl | ma) | ma | ma
      · exact h6 a (.inl ma)
      · exact op
      · exact (ob a (.inl (.inl ma))).1
      · exact (ob a (.inr ma)).1
      · exact h6 a (.inr ma)
    · have hp2 := q p (by simp) _ hp op
      have z := h8 (A1 := p :: (L2 ++ A2 ++ R2)) (d1 := .ins cc (putD nm d2 fds)) (H' := H2) (P' := P') (O' := O') g t (fun a ma o e y => q a (by
        simp only [List.mem_append, List.mem_cons] at ma ⊢
        rcases ma with ma | ma
        · exact .inl (.inl ma)
        · exact .inr (.inr ma)) o e y) (.io hp2.1 hp2.2 (by
          have k5 := k4 (v1 := v1) g t (fun a ma o e y => q a (by
            simp only [List.mem_append, List.mem_cons] at ma ⊢
            rcases ma with ma | ma
            · exact .inl (.inr (.inr ma))
            · exact .inr (.inl ma)) o e y) x
          rw [putF_self (α := Unit) k1] at k5
          exact k5))
      have z2 : L ++ p :: (L2 ++ A2 ++ R2) ++ R = L ++ (p :: L2) ++ A2 ++ (R2 ++ R) := by simp [List.append_assoc]
      rw [← z2]; exact z
theorem Plc.io {i n : Nat} {d0 : D} {v0 : V} {Rf : D → D} (h : Plc cl H w ms σ env i (.io n) d0 v0 Rf) : ∃ c fs, d0 = .ins c fs := by
  obtain ⟨mo, s', l, d, v, L, A0, R, h1, h2, h3, h4, h5, h6, h7, h8⟩ := h
  cases h7 with
  | io hp op tl => exact ⟨_, _, rfl⟩
theorem Plc.ls {i : Nat} {s : Sh} {d0 : D} {v0 : V} {Rf : D → D} (h : Plc cl H w ms σ env i (.ls s) d0 v0 Rf) : ∃ ds p vs, d0 = .lst ds ∧ v0 = .ref p ∧ H p = some (.lst vs) ∧ ds.length = vs.length := by
  obtain ⟨mo, s', l, d, v, L, A0, R, h1, h2, h3, h4, h5, h6, h7, h8⟩ := h
  cases h7 with
  | ls hp op tl => exact ⟨_, _, _, rfl, rfl, hp, tl.length⟩
theorem sp_fld {i n : Nat} {s : Sh} {cc : String} {nm : Str} {pf : List D → Option (D → D)} (hC : Cls K (cl cc)) (hn : NoAttr K (cl cc) nm) (hs : fldT n nm = s) (h : SP cl W ms i (.io n) te f pf) : SP cl W ms i s (tFld K te nm) (eUn (dFld cc nm) f) (pFd nm f pf) := fun H w σ env st r e x Q q =>
  h.bind st e x fun d1 H1 v1 Rf s1 hp hf pl e => by
    obtain ⟨z, e1, rfl⟩ := lift_ok e
    obtain ⟨c', fs, rfl⟩ := pl.io
    have e2 : (if c' = cc then fs.lookup nm else none) = some z := e1
    by_cases hh : c' = cc
    · rw [if_pos hh] at e2
      subst hh
      obtain ⟨p, dx, vs, u, rfl, h4, h6, pl4⟩ := pl.fd e2
      exact ⟨p, _, dx, vs, u, rfl, h4, hC, hn, h6, q z rfl H1 u s1 ⟨_, by unfold pFd; rw [hp, hf], by rw [← hs]; exact pl4⟩⟩
    · rw [if_neg hh] at e2
      cases e2
theorem Plc.wr {i n : Nat} {s : Sh} {d0 : D} {p : Addr} {Rf : D → D} {B : List Addr} {o' : HO} {d1 : D} (pl : Plc cl H w ms σ env i s d0 (.ref p) Rf) (st : StOk cl H w ms σ env) (hn : Unl ms n) (nt : isTup o' = false) (nb : B.Nodup) (hb : ∀ a ∈ B, w a = some (.ow n))
    (mk : ∀ l A0, l ≠ Lb.fo → A0.Nodup → Tr cl H (Fz w) (fun a => w a = some l) s d0 (.ref p) A0 → (∀ a ∈ A0, a ∉ B) → p ∈ A0 ∧ ((∀ {s2 : Sh} {d2 : D} {v2 : V} {A2 : List Addr}, p ∉ A2 → (∀ a ∈ A2, w a = some l ∨ a ∈ B) → (∀ {O : Addr → Prop}, Tr cl H (Fz w) O s2 d2 v2 A2 → Tr cl (upd H p o') (Fz (rlb w B (some l))) (fun a => rlb w B (some l) a = some l) s2 d2 v2 A2)) →
      (∀ {s2 : Sh} {d2 : List D} {v2 : List V} {A2 : List Addr}, p ∉ A2 → (∀ a ∈ A2, w a = some l ∨ a ∈ B) → (∀ {O : Addr → Prop}, TrL cl H (Fz w) O s2 d2 v2 A2 → TrL cl (upd H p o') (Fz (rlb w B (some l))) (fun a => rlb w B (some l) a = some l) s2 d2 v2 A2)) →
      (∀ {s2 : Nat} {d2 : List (Str × D)} {v2 : List (Str × V)} {A2 : List Addr}, p ∉ A2 → (∀ a ∈ A2, w a = some l ∨ a ∈ B) → (∀ {O : Addr → Prop}, TrF cl H (Fz w) O s2 d2 v2 A2 → TrF cl (upd H p o') (Fz (rlb w B (some l))) (fun a => rlb w B (some l) a = some l) s2 d2 v2 A2)) →
      (∀ {d v}, Rep cl H (Fz w) d v → Rep cl (upd H p o') (Fz (rlb w B (some l))) d v) → rlb w B (some l) p = some l →
      ∃ A1 : List Addr, A1.Nodup ∧ (∀ a ∈ A1, a ∈ A0 ∨ a ∈ B) ∧ Tr cl (upd H p o') (Fz (rlb w B (some l))) (fun a => rlb w B (some l) a = some l) s d1 (.ref p) A1)) :
    ∃ w1, StOk cl (upd H p o') w1 ms σ (env.set i (Rf d1)) ∧ Kp H w (upd H p o') w1 := by
  obtain ⟨mo, s', l, d, v, L, A0, R, h1, h2, h3, h4, h5, h6, h7, h8⟩ := pl
  have hu : mo ≠ .un := by rcases h2 with ⟨rfl, _⟩ | ⟨rfl, _⟩ <;> (intro z; cases z)
  have hl : l ≠ .ow n := by
    intro z
    subst z
    rcases h2 with ⟨rfl, e⟩ | ⟨rfl, e, _⟩
    · cases e
      exact hu (hn _ h1)
    · cases e
  have hfo : l ≠ .fo := by rcases h2 with ⟨_, e⟩ | ⟨_, e, _⟩ <;> (rw [e]; intro z; cases z)
  have nin : ∀ a, w a = some l → a ∉ B := fun a q m => by rw [hb a m] at q; cases q; exact hl rfl
  obtain ⟨hp, mk⟩ := mk l A0 hfo (List.nodup_append.mp (List.nodup_append.mp h5).1).2.1 h7 fun a m => nin a (h7.ob a m).1
  have hwp : w p = some l := (h7.ob p hp).1
  have out : ∀ a, a ∉ B → rlb w B (some l) a = w a := fun a m => rlb_out m
  have k : Keep H w (upd H p o') (rlb w B (some l)) := by
    refine ⟨fun a o e q => ⟨?_, ?_⟩, fun a o e q => ⟨?_, ?_⟩, rfl⟩
    · rw [upd_ne fun z : a = p => by subst z; rw [hwp] at q; cases q]; exact e
    · rw [out a fun m => by rw [hb a m] at q; cases q]; exact q
    · rw [upd_ne fun z : a = p => by subst z; rw [hwp] at q; exact hfo (Option.some.inj q)]; exact e
    · rw [out a fun m => by rw [hb a m] at q; cases q]; exact q
  have lb2 : ∀ a, w a = some l ∨ a ∈ B → rlb w B (some l) a = some l := fun a z => by
    by_cases m : a ∈ B
    · exact rlb_in m
    · rw [out a m]; exact z.resolve_right m
  have wf2 : Wf (upd H p o') (rlb w B (some l)) := fun a x e => by
    by_cases ha : a = p
    · subst ha; exact ⟨o', upd_same, nt⟩
    · rw [upd_ne ha]
      by_cases m : a ∈ B
      · exact st.wf a _ (hb a m)
      · rw [out a m] at e; exact st.wf a x e
  have fzn : ∀ a o, H a = some o → w a = none → upd H p o' a = some o ∧ rlb w B (some l) a = none := fun a o e q => k.fz a o e q
  obtain ⟨A1, n1, sub, t1⟩ := mk (fun {s2 d2 v2 A2} h1 h2 {O} t => t.mono (fun a o e q => fzn a o e q) (fun a xs e => k.tup st.wf a xs e) fun a m o e _ => ⟨by rw [upd_ne fun z : a = p => h1 (z ▸ m)]; exact e, lb2 a (h2 a m)⟩)
    (fun {s2 d2 v2 A2} h1 h2 {O} t => t.mono (fun a o e q => fzn a o e q) (fun a xs e => k.tup st.wf a xs e) fun a m o e _ => ⟨by rw [upd_ne fun z : a = p => h1 (z ▸ m)]; exact e, lb2 a (h2 a m)⟩)
    (fun {s2 d2 v2 A2} h1 h2 {O} t => t.mono (fun a o e q => fzn a o e q) (fun a xs e => k.tup st.wf a xs e) fun a m o e _ => ⟨by rw [upd_ne fun z : a = p => h1 (z ▸ m)]; exact e, lb2 a (h2 a m)⟩)
    (fun {d v} r => k.rep st.wf r) (lb2 p (.inl hwp))
  have pnL : p ∉ L ++ R := fun m => by
    rw [List.append_assoc, List.nodup_append] at h5
    rcases List.mem_append.mp m with m | m
    · exact h5.2.2 p m p (List.mem_append_left _ hp) rfl
    · exact (List.nodup_append.mp h5.2.1).2.2 p hp p m rfl
  have tr2 := h8 (H' := upd H p o') (P' := Fz (rlb w B (some l))) (O' := fun a => rlb w B (some l) a = some l) fzn (fun a xs e => k.tup st.wf a xs e) (fun a m o e q => ⟨by rw [upd_ne fun z : a = p => pnL (z ▸ m)]; exact e, lb2 a (.inl q)⟩) t1
  have nd2 : (L ++ A1 ++ R).Nodup := by
    rw [List.append_assoc, List.nodup_append] at h5 ⊢
    obtain ⟨q1, q2, q3⟩ := h5
    obtain ⟨q4, q5, q6⟩ := List.nodup_append.mp q2
    have low : ∀ a ∈ L ++ R, a ∉ A1 := fun a m m1 => by
      rcases sub a m1 with m2 | m2
      · rcases List.mem_append.mp m with m | m
        · exact q3 a m a (List.mem_append_left _ m2) rfl
        · exact q6 a m2 a m rfl
      · exact nin a (h6 a m) m2
    refine ⟨q1, List.nodup_append.mpr ⟨n1, q5, fun a m b m2 z => ?_⟩, fun a m b m2 z => ?_⟩
    · subst z; exact low a (List.mem_append_right _ m2) m
    · subst z
      rcases List.mem_append.mp m2 with m2 | m2
      · exact low a (List.mem_append_left _ m) m2
      · exact q3 a m a (List.mem_append_right _ m2) rfl
  have bo2 : ∀ a j, rlb w B (some l) a = some (.bo j) → ∃ b, w b = some (.bo j) := fun a j z => by
    by_cases m : a ∈ B
    · rw [rlb_in m] at z
      cases z
      exact ⟨p, hwp⟩
    · rw [out a m] at z; exact ⟨a, z⟩
  refine ⟨rlb w B (some l), ⟨wf2, st.ls, by simp [st.le], fun j mj e nn => ?_⟩, ⟨k, fun a j z => ?_, bo2⟩⟩
  · by_cases hj : j = i
    · subst hj
      rw [h1] at e
      cases e
      have hlt : j < env.length := (List.getElem?_eq_some_iff.mp h4).1
      refine ⟨v, Rf d1, h3, List.getElem?_set_self hlt, ?_⟩
      rcases h2 with ⟨rfl, e⟩ | ⟨rfl, e, e2⟩
      · subst e; exact ⟨_, nd2, tr2⟩
      · subst e; exact ⟨e2, _, nd2, tr2⟩
    · obtain ⟨v', d', a, b, o⟩ := st.sl j mj e nn
      refine ⟨v', d', a, by rw [List.getElem?_set_ne (Ne.symm hj)]; exact b, o.keep k st.wf fun a oa y ea => ⟨?_, ?_⟩⟩
      · rw [upd_ne fun z : a = p => ?_]
        · exact ea
        · subst z
          rw [hwp] at y
          rcases h2 with ⟨_, e⟩ | ⟨_, e, _⟩ <;> (subst e; rcases y with y | y <;> (injection y with y; first | (injection y with y; exact hj y.symm) | cases y))
      · refine out a fun m => ?_
        have z := hb a m
        rcases y with y | y
        · rw [y] at z
          cases z
          exact nn (hn _ e)
        · rw [y] at z; cases z
  · rw [out a fun m => by rw [hb a m] at z; cases z]; exact z
end
end Mv

namespace Mv
open PySem L2
variable {cl : Nv}
abbrev RE := Option (R D × List D)
def bnd63 (k : Int) : Bool := decide (-9223372036854775808 ≤ k) && decide (k < 9223372036854775808)
def ResE (cl : Nv) (H : Hp) (w : Om) (ms : List Mo) : RC → D → V → Prop
  | .pu, d, v => Rep cl H (Fz w) d v
  | .lo, d, v => Rep cl H (Lf w) d v
  | .an, d, v => Rep cl H An d v
  | .al _, d, v => Rep cl H An d v
  | .fr s, d, v => Tmp cl H w ms s d v
def SEE (cl : Nv) (W : WX) (ms mn mx : List Mo) (c : RC) (te : TE) (f : List D → RE) : Prop :=
  ∀ H w σ env, StOk cl H w ms σ env → ∀ r e, f env = some (r, e) → (∀ x, r = .ex x → ∀ H' w', StOk cl H' w' mx σ e → Kp H w H' w' → W (.ref (cl x)) none σ H') → ∀ Q : VK,
    (∀ d, r = .ok d → ∀ H' w' v, StOk cl H' w' mn σ e → Kp H w H' w' → ResE cl H' w' mn c d v → Q v H') → te σ H Q
def pureE (f : List D → M D) : List D → RE := fun env => (f env).map fun r => (r, env)
section
variable {H H' H1 : Hp} {w w' : Om} {ms mn mx ms' m1 m2 : List Mo} {σ : L2.St} {env : List D} {W : WX} {m : Md} {c c1 c2 : RC} {te ta tb ti tg : TE} {f g fi : List D → M D} {fe ge : List D → RE} {K : PySem.W.Frag} {s : Sh} {i : Nat} {pf : List D → Option (D → D)}
def eMv (i : Nat) : List D → RE := fun env => env[i]?.map fun d => (.ok d, env)
theorem see_mv (hm : ms[i]? = some (.ow s)) : SEE cl W ms (ms.set i .un) mx (.fr s) (tVar i) (eMv i) := fun H w σ env st r e he x Q q => by
  obtain ⟨v, d, a, b, st2, t⟩ := st.out hm
  unfold eMv at he
  rw [b] at he
  cases he
  exact ⟨v, a, q d rfl H w v st2 Kp.refl t⟩
def bE {β : Type} (a : RE) (k : D → List D → Option (R β × List D)) : Option (R β × List D) := match a with
  | none => none
  | some (.ex c, e) => some (.ex c, e)
  | some (.ok d, e) => k d e
@[simp] theorem bE_ok {β : Type} {d : D} {e : List D} {k : D → List D → Option (R β × List D)} : bE (some (.ok d, e)) k = k d e := rfl
@[simp] theorem bE_ex {β : Type} {d : String} {e : List D} {k : D → List D → Option (R β × List D)} : bE (some (.ex d, e)) k = some (.ex d, e) := rfl
theorem SEE.bind {β : Type} (h : SEE cl W ms mn mx c te fe) (st : StOk cl H w ms σ env) {k : D → List D → Option (R β × List D)} {r : R β} {e : List D} (he : bE (fe env) k = some (r, e)) (x : ∀ x, r = .ex x → ∀ H' w', StOk cl H' w' mx σ e → Kp H w H' w' → W (.ref (cl x)) none σ H') {Q : VK}
    (q : ∀ d e1 H' w' v, StOk cl H' w' mn σ e1 → Kp H w H' w' → ResE cl H' w' mn c d v → k d e1 = some (r, e) → Q v H') : te σ H Q := by
  cases e1 : fe env with
  | none => rw [e1] at he; cases he
  | some p =>
    obtain ⟨r1, e2⟩ := p
    rw [e1] at he
    cases r1 with
    | ex y =>
      cases he
      exact h H w σ env st _ _ e1 (fun z hz => by cases hz; exact x y rfl) Q fun d hd => nomatch hd
    | ok d =>
      exact h H w σ env st _ _ e1 (fun z hz => nomatch hz) Q fun d' hd H' w' v st' k' r' => by
        cases hd
        exact q d e2 H' w' v st' k' r' he
def sE (a : RE) (k : D → List D → Option Out) : Option Out := match a with
  | none => none
  | some (.ex c, e) => some (.ex c e)
  | some (.ok d, e) => k d e
@[simp] theorem sE_ok {d : D} {e : List D} {k : D → List D → Option Out} : sE (some (.ok d, e)) k = k d e := rfl
@[simp] theorem sE_ex {d : String} {e : List D} {k : D → List D → Option Out} : sE (some (.ex d, e)) k = some (.ex d e) := rfl
theorem SEE.stm (h : SEE cl W ms mn m.ex c te fe) (st : StOk cl H w ms σ env) {k : D → List D → Option Out} {o : Out} (he : sE (fe env) k = some o) {D : Ends} (p : Post cl W m H w D o) {Q : VK}
    (q : ∀ d e1 H' w' v, StOk cl H' w' mn σ e1 → Kp H w H' w' → ResE cl H' w' mn c d v → k d e1 = some o → Q v H') : te σ H Q := by
  cases e1 : fe env with
  | none => rw [e1] at he; cases he
  | some p1 =>
    obtain ⟨r1, e2⟩ := p1
    rw [e1] at he
    cases r1 with
    | ex y =>
      cases he
      exact h H w σ env st _ _ e1 (fun z hz H' w' st' k' => by cases hz; exact p H' w' σ st' k') Q fun d hd => nomatch hd
    | ok d =>
      exact h H w σ env st _ _ e1 (fun z hz => nomatch hz) Q fun d' hd H' w' v st' k' r' => by
        cases hd
        exact q d e2 H' w' v st' k' r' he
def sSetE (i : Nat) (fe : List D → RE) : List D → Option Out := fun env => sE (fe env) fun d e => some (.nx (e.set i d))
def sRetE (fe : List D → RE) : List D → Option Out := fun env => sE (fe env) fun d e => some (.rt d e)
def sDropE (fe : List D → RE) : List D → Option Out := fun env => sE (fe env) fun d e => some (.nx e)
theorem ss_setE (h : SEE cl W ms mn m.ex .pu te fe) (hn : wk (mn.set i .pu) m.nx = true) : SS cl W ms m (tAsg te (gName i)) (sSetE i fe) := by
  intro H w σ env st o e D p
  refine h.stm st e p fun d e1 H' w' v st' k r e => ?_
  cases e
  exact p H' w' _ ((st'.setPu r).weak hn) k
theorem ss_retE (h : SEE cl W ms mn m.ex .pu te fe) (hr : wk mn m.rt = true) (hm : m.rc = .pu := by rfl) : SS cl W ms m (tRet te) (sRetE fe) := by
  intro H w σ env st o e D p
  refine h.stm st e p fun d e1 H' w' v st' k r e => ?_
  cases e
  exact p H' w' _ v (st'.weak hr) k (by rw [hm]; exact r)
theorem ss_dropE (h : SEE cl W ms mn m.ex c te fe) (hn : wk mn m.nx = true) : SS cl W ms m (tDrop te) (sDropE fe) := by
  intro H w σ env st o e D p
  refine h.stm st e p fun d e1 H' w' v st' k r e => ?_
  cases e
  exact p H' w' _ (st'.weak hn) k
theorem SP.stm (h : SP cl W ms i s te f pf) (st : StOk cl H w ms σ env) {k : D → Option Out} {o : Out} (e : sX (f env) env k = some o) {D : Ends} (hx : wk ms m.ex = true) (p : Post cl W m H w D o) {Q : VK}
    (q : ∀ d H' v Rf, Same H H' → pf env = some Rf → Plc cl H' w ms σ env i s d v Rf → k d = some o → Q v H') : te σ H Q := by
  cases e1 : f env with
  | none => rw [e1] at e; cases e
  | some r1 =>
    rw [e1] at e
    cases r1 with
    | ex y =>
      cases e
      refine h H w σ env st _ e1 (fun z hz H' s => ?_) Q fun d hd => nomatch hd
      cases hz
      exact p H' w σ ((st.same s).weak hx) (Kp.same s)
    | ok d =>
      refine h H w σ env st _ e1 (fun z hz => nomatch hz) Q fun d' hd H' v s ⟨Rf, h1, h2⟩ => ?_
      cases hd
      exact q d H' v Rf s h1 h2 e
theorem Plc.wrL {d0 : D} {v0 : V} {Rf : D → D} (pl : Plc cl H w ms σ env i (.ls .fz) d0 v0 Rf) (st : StOk cl H w ms σ env) : ∃ p vs ds, v0 = .ref p ∧ d0 = .lst ds ∧ H p = some (.lst vs) ∧ RepL cl H (Fz w) ds vs ∧
    ∀ {vs' ds'}, RepL cl H (Fz w) ds' vs' → ∃ w1, StOk cl (upd H p (.lst vs')) w1 ms σ (env.set i (Rf (.lst ds'))) ∧ Kp H w (upd H p (.lst vs')) w1 := by
  have pl0 := pl
  obtain ⟨mo, s', l, d, v, L, A0, R, h1, h2, h3, h4, h5, h6, h7, h8⟩ := pl
  obtain ⟨p, vs, ds, rfl, rfl, rfl, e4, e5, r⟩ := h7.unlz
  refine ⟨p, vs, ds, rfl, rfl, e4, r, fun {vs' ds'} r' => ?_⟩
  refine pl0.wr (B := []) (d1 := .lst ds') st Unl.len rfl List.nodup_nil (fun a m => absurd m List.not_mem_nil) fun l A0 hl nd t nb => ?_
  obtain ⟨p', vs2, ds2, q1, q2, rfl, q4, q5, r2⟩ := t.unlz
  cases q1
  exact ⟨by simp, fun k1 k2 k3 k4 k5 => ⟨[p], by simp, fun a m => .inl m, .lz upd_same k5 (r'.mono (fun a o e q => ⟨by rw [upd_ne fun z : a = p => by subst z; rw [q5] at q; cases q]; exact e, (rlb_out List.not_mem_nil).trans q⟩) fun a xs e => by rw [upd_ne fun z : a = p => by subst z; rw [q4] at e; cases e]; exact e)⟩⟩
def sAppP (i : Nat) (f : List D → M D) (pf : List D → Option (D → D)) (g : List D → M D) : List D → Option Out := fun env => sX (f env) env fun d => match d with
  | .lst ds => sX (g env) env fun x => match pf env with
    | some R => if ds.length < LIM then some (.nx (env.set i (R (.lst (ds ++ [x]))))) else none
    | none => none
  | _ => none
theorem lst_of {d : D} {k : List D → Option Out} {o : Out} (e : (match d with | .lst ds => k ds | _ => none) = some o) : ∃ ds, d = .lst ds ∧ k ds = some o := by
  cases d with
  | lst ds => exact ⟨ds, rfl, e⟩
  | _ => cases e
theorem ss_appP {s0 : Sh} (h : SP cl W ms i s0 ta f pf) (hc : toPu c = true) (hg : SE cl W ms c te g) (hx : wk ms m.ex = true) (hn : wk ms m.nx = true) (hs : isOp s0 (.ls .fz) = true := by rfl) :
    SS cl W ms m (tDrop (tBM K "list" rAppend ta (tCons te tNil))) (sAppP i f pf g) := by
  intro H w σ env st o e D p
  refine h.stm st e hx p fun d H1 v Rf s1 hp pl e => ?_
  obtain ⟨ds, rfl, e⟩ := lst_of e
  have pl1 := pl.op hs (by intro z; cases z)
  obtain ⟨p0, vs, ds', rfl, q0, e4, r, wr⟩ := pl1.wrL (st.same s1)
  cases q0
  refine ⟨.inl ⟨rfl, _, .inl (.inl e4)⟩, ?_⟩
  refine hg.stm (st.same s1) e hx (p.trans (Kp.same s1)) fun x H2 u s2 rr e => ?_
  have pl2 := pl1.same s2 (st.wf.same s1)
  obtain ⟨p1, vs1, ds1, q1, q2, e5, r2, wr2⟩ := pl2.wrL ((st.same s1).same s2)
  cases q1
  cases q2
  rw [hp] at e
  simp only at e
  split at e
  · rename_i hl
    cases e
    refine ⟨p0, vs1, u, rfl, rfl, e5, by rw [← r2.length]; exact LIM_lt (Nat.le_of_lt hl), ?_⟩
    obtain ⟨w1, z1, z2⟩ := wr2 (r2.append (.cons (rr.pu (st.wf.same s1) hc) .nil))
    exact p _ _ _ (z1.weak hn) ((Kp.same (s1.trans s2)).trans z2)
  · cases e
theorem Plc.lab {d0 : D} {v0 : V} {Rf : D → D} (pl : Plc cl H w ms σ env i s d0 v0 Rf) (wf : Wf H w) (sm : Same H H') (hw : ∀ a o, H a = some o → w' a = w a) (hp : w'.pin = w.pin) : Plc cl H' w' ms σ env i s d0 v0 Rf := by
  obtain ⟨mo, s', l, d, v, L, A0, R, h1, h2, h3, h4, h5, h6, h7, h8⟩ := pl
  have lb : ∀ a, w a = some l → w' a = some l := fun a q => by
    obtain ⟨o, e, _⟩ := wf a l q
    exact (hw a o e).trans q
  refine ⟨mo, s', l, d, v, L, A0, R, h1, by rw [hp]; exact h2, h3, h4, h5, fun a m => lb a (h6 a m), h7.mono (fun a o e q => ⟨sm _ _ e, (hw a o e).trans q⟩) (fun a xs e => sm _ _ e) (fun a m o e q => ⟨sm _ _ e, lb a q⟩), fun {H2} {P'} {O'} {d1} {A1} g t q x => h8 (fun a o e z => g a o (sm _ _ e) ((hw a o e).trans z)) (fun a xs e => t a xs (sm _ _ e)) (fun a ma o e z => q a ma o (sm _ _ e) (lb a z)) x⟩
def sAppE (i : Nat) (g : List D → RE) : List D → Option Out := fun env => match env[i]? with
  | some (.lst _) => sE (g env) fun x e => match e[i]? with
    | some (.lst ds) => if ds.length < LIM then some (.nx (e.set i (.lst (ds ++ [x])))) else none
    | _ => none
  | _ => none
def ePopP (i : Nat) (f : List D → M D) (pf : List D → Option (D → D)) : List D → RE := fun env => match f env with
  | some (.ok (.lst ds)) => match pf env, ds[ds.length - 1]? with
    | some R, some d => some (.ok d, env.set i (R (.lst ds.dropLast)))
    | _, _ => none
  | some (.ex c) => some (.ex c, env)
  | _ => none
def ePopAtP (i : Nat) (f fi : List D → M D) (pf : List D → Option (D → D)) : List D → RE := fun env => match f env with
  | some (.ok (.lst ds)) => match fi env with
    | some (.ok (.int k)) => if bnd63 k = true then match pf env, ixN ds.length k with
      | some R, some n => match ds[n]? with
        | some d => some (.ok d, env.set i (R (.lst (ds.eraseIdx n))))
        | none => none
      | _, _ => none else none
    | some (.ex c) => some (.ex c, env)
    | _ => none
  | some (.ex c) => some (.ex c, env)
  | _ => none
def sPopDP (i : Nat) (f : List D → M D) (pf : List D → Option (D → D)) : List D → Option Out := fun env => sX (f env) env fun d => match d with
  | .lst ds => match pf env with
    | some R => if ds.length = 0 then none else some (.nx (env.set i (R (.lst ds.dropLast))))
    | none => none
  | _ => none
def sClrP (i : Nat) (f : List D → M D) (pf : List D → Option (D → D)) : List D → Option Out := fun env => sX (f env) env fun d => match d with
  | .lst ds => match pf env with
    | some R => some (.nx (env.set i (R (.lst []))))
    | none => none
  | _ => none
def sSetP (i : Nat) (f fi : List D → M D) (pf : List D → Option (D → D)) (g : List D → M D) : List D → Option Out := fun env => sX (g env) env fun x => sX (f env) env fun d => match d with
  | .lst ds => sX (fi env) env fun q => match pf env, q with
    | some R, .int k => match ixN ds.length k with
      | some n => some (.nx (env.set i (R (.lst (ds.set n x)))))
      | none => none
    | _, _ => none
  | _ => none
theorem ss_setP {s0 : Sh} (h : SP cl W ms i s0 ta f pf) (hc : toPu c = true) (hg : SE cl W ms c tg g) (hi : SE cl W ms c2 ti fi) (hx : wk ms m.ex = true) (hn : wk ms m.nx = true) (hs : isOp s0 (.ls .fz) = true := by rfl) :
    SS cl W ms m (tAsg tg (gSub ta ti rSetL)) (sSetP i f fi pf g) := by
  intro H w σ env st o e D p
  refine hg.stm st e hx p fun x H1 u s1 rr e => ?_
  refine h.stm (st.same s1) e hx (p.trans (Kp.same s1)) fun d H2 v Rf s2 hp pl e => ?_
  obtain ⟨ds, rfl, e⟩ := lst_of e
  have pl1 := pl.op hs (by intro z; cases z)
  refine hi.stm ((st.same s1).same s2) e hx ((p.trans (Kp.same s1)).trans (Kp.same s2)) fun q H3 u3 s3 rq e => ?_
  have pl2 := pl1.same s3 ((st.wf.same s1).same s2)
  obtain ⟨p1, vs1, ds1, rfl, q2, e5, r2, wr2⟩ := pl2.wrL (((st.same s1).same s2).same s3)
  cases q2
  have rq' := rq.an ((st.wf.same s1).same s2)
  rw [hp] at e
  cases rq' with
  | int k =>
    simp only at e
    split at e
    · rename_i n hn'
      cases e
      obtain ⟨w1, z1, z2⟩ := wr2 (RepL.set ((rr.pu st.wf hc).same (s2.trans s3) fun _ z => z) n r2)
      exact ⟨p1, vs1, k, n, rfl, rfl, e5, by rw [← r2.length]; exact hn', p _ _ _ (z1.weak hn) ((Kp.same (s1.trans (s2.trans s3))).trans z2)⟩
    · cases e
  | _ => simp only at e; cases e
end
end Mv

namespace Mv
open PySem L2
variable {cl : Nv}
section
variable {κ α : Type} [DecidableEq κ]
def valG (kvs : List (κ × α)) (k : κ) : Option α := (kvs.find? fun kv => decide (kv.1 = k)).map (·.2)
def putG (kvs : List (κ × α)) (k : κ) (v : α) : List (κ × α) :=
  if (kvs.any fun kv => decide (kv.1 = k)) = true then kvs.map (fun kv => if kv.1 = k then (kv.1, v) else kv) else kvs ++ [(k, v)]
end
def keyD : D → Option Key
  | .int i => some (.inl i)
  | .str s => some (.inr s)
  | _ => none
def keyL : List D → Option (List Key)
  | [] => some []
  | d :: ds => (keyD d).bind fun k => (keyL ds).map (k :: ·)
section
variable {H H' H1 : Hp} {P P' : Addr → Prop} {w w' : Om} {ms mn mx ms' : List Mo} {σ : L2.St} {env : List D} {W : WX} {m : Md} {c c1 c2 : RC} {te ta tb ti tg td ty tv : TE} {f g fi : List D → M D} {K : PySem.W.Frag} {i : Nat} {pf : List D → Option (D → D)}
theorem keyD_ok {d : D} {v : V} {k : Key} (r : Rep cl H P d v) (h : keyD d = some k) : v = kV k := by
  cases r with
  | int i => cases h; rfl
  | str s => cases h; rfl
  | _ => cases h
theorem keyL_ok : ∀ {ds : List D} {vs : List V} {ks : List Key}, RepL cl H P ds vs → keyL ds = some ks → vs = ks.map kV
  | _, _, _, .nil, h => by cases h; rfl
  | d :: ds, _, _, .cons a b, h => by
    obtain ⟨k, h1, h2⟩ := Option.bind_eq_some_iff.mp (show (keyD d).bind (fun k => (keyL ds).map (k :: ·)) = some _ from h)
    obtain ⟨ks, h3, rfl⟩ := Option.map_eq_some_iff.mp h2
    rw [keyD_ok a h1, keyL_ok b h3]
    rfl
theorem RepK.val {k : Key} : ∀ {ds : List (Key × D)} {vs : List (Key × V)}, RepK cl H P ds vs → (∀ d, valG ds k = some d → ∃ v, valV vs k = some v ∧ Rep cl H P d v) ∧ (valG ds k = none → valV vs k = none)
  | _, _, .nil => ⟨fun d h => by simp [valG] at h, fun _ => rfl⟩
  | (k', d') :: ds, (_, v') :: vs, .cons r t => by
    obtain ⟨h1, h2⟩ := RepK.val (k := k) t
    by_cases e : k' = k
    · exact ⟨fun d h => by
        have : d' = d := by simpa [valG, List.find?_cons, e] using h
        subst this
        exact ⟨v', by simp [valV, List.find?_cons, e], r⟩, fun h => by simp [valG, List.find?_cons, e] at h⟩
    · refine ⟨fun d h => ?_, fun h => ?_⟩
      · have : valG ds k = some d := by simpa [valG, List.find?_cons, e] using h
        obtain ⟨v, h3, h4⟩ := h1 d this
        exact ⟨v, by simpa [valV, List.find?_cons, e] using h3, h4⟩
      · have : valG ds k = none := by simpa [valG, List.find?_cons, e] using h
        simpa [valV, List.find?_cons, e] using h2 this
theorem RepT.val {k : List Key} : ∀ {ds : List (List Key × D)} {vs : List (List Key × V)}, RepT cl H P ds vs → (∀ d, valG ds k = some d → ∃ v, valV vs k = some v ∧ Rep cl H P d v) ∧ (valG ds k = none → valV vs k = none)
  | _, _, .nil => ⟨fun d h => by simp [valG] at h, fun _ => rfl⟩
  | (k', d') :: ds, (_, v') :: vs, .cons r t => by
    obtain ⟨h1, h2⟩ := RepT.val (k := k) t
    by_cases e : k' = k
    · exact ⟨fun d h => by
        have : d' = d := by simpa [valG, List.find?_cons, e] using h
        subst this
        exact ⟨v', by simp [valV, List.find?_cons, e], r⟩, fun h => by simp [valG, List.find?_cons, e] at h⟩
    · refine ⟨fun d h => ?_, fun h => ?_⟩
      · have : valG ds k = some d := by simpa [valG, List.find?_cons, e] using h
        obtain ⟨v, h3, h4⟩ := h1 d this
        exact ⟨v, by simpa [valV, List.find?_cons, e] using h3, h4⟩
      · have : valG ds k = none := by simpa [valG, List.find?_cons, e] using h
        simpa [valV, List.find?_cons, e] using h2 this
theorem RepK.any {k : Key} : ∀ {ds : List (Key × D)} {vs : List (Key × V)}, RepK cl H P ds vs → (ds.any fun kv => decide (kv.1 = k)) = vs.any fun kv => decide (kv.1 = k)
  | _, _, .nil => rfl
  | _ :: _, _ :: _, .cons r t => by rw [List.any_cons, List.any_cons, RepK.any t]
theorem RepT.any {k : List Key} : ∀ {ds : List (List Key × D)} {vs : List (List Key × V)}, RepT cl H P ds vs → (ds.any fun kv => decide (kv.1 = k)) = vs.any fun kv => decide (kv.1 = k)
  | _, _, .nil => rfl
  | _ :: _, _ :: _, .cons r t => by rw [List.any_cons, List.any_cons, RepT.any t]
theorem RepK.append : ∀ {ds es : List (Key × D)} {vs us : List (Key × V)}, RepK cl H P ds vs → RepK cl H P es us → RepK cl H P (ds ++ es) (vs ++ us)
  | _, _, _, _, .nil, q => q
  | _, _, _, _, .cons a r, q => .cons a (RepK.append r q)
theorem RepT.append : ∀ {ds es : List (List Key × D)} {vs us : List (List Key × V)}, RepT cl H P ds vs → RepT cl H P es us → RepT cl H P (ds ++ es) (vs ++ us)
  | _, _, _, _, .nil, q => q
  | _, _, _, _, .cons a r, q => .cons a (RepT.append r q)
theorem RepK.put {k : Key} {d : D} {v : V} (x : Rep cl H P d v) {ds : List (Key × D)} {vs : List (Key × V)} (r : RepK cl H P ds vs) : RepK cl H P (putG ds k d) (putK vs k v) := by
  unfold putG putK
  rw [r.any]
  split
  · have key : ∀ {ds : List (Key × D)} {vs : List (Key × V)}, RepK cl H P ds vs → RepK cl H P (ds.map fun kv => if kv.1 = k then (kv.1, d) else kv) (vs.map fun kv => if kv.1 = k then (kv.1, v) else kv) := by
      intro ds
      induction ds with
      | nil => intro vs r; cases r; exact .nil
      | cons a t ih =>
        intro vs r
        cases r with
        | @cons k' d' v' _ vs r1 r2 =>
          rw [List.map_cons, List.map_cons]
          by_cases e : k' = k
          · simp only [e, if_true]
            exact .cons x (ih r2)
          · simp only [e, if_false]
            exact .cons r1 (ih r2)
    exact key r
  · exact r.append (.cons x .nil)
theorem RepT.put {k : List Key} {d : D} {v : V} (x : Rep cl H P d v) {ds : List (List Key × D)} {vs : List (List Key × V)} (r : RepT cl H P ds vs) : RepT cl H P (putG ds k d) (putK vs k v) := by
  unfold putG putK
  rw [r.any]
  split
  · have key : ∀ {ds : List (List Key × D)} {vs : List (List Key × V)}, RepT cl H P ds vs → RepT cl H P (ds.map fun kv => if kv.1 = k then (kv.1, d) else kv) (vs.map fun kv => if kv.1 = k then (kv.1, v) else kv) := by
      intro ds
      induction ds with
      | nil => intro vs r; cases r; exact .nil
      | cons a t ih =>
        intro vs r
        cases r with
        | @cons k' d' v' _ vs r1 r2 =>
          rw [List.map_cons, List.map_cons]
          by_cases e : k' = k
          · simp only [e, if_true]
            exact .cons x (ih r2)
          · simp only [e, if_false]
            exact .cons r1 (ih r2)
    exact key r
  · exact r.append (.cons x .nil)
theorem RepT.length : ∀ {ds : List (List Key × D)} {vs : List (List Key × V)}, RepT cl H P ds vs → ds.length = vs.length
  | _, _, .nil => rfl
  | _, _, .cons _ r => congrArg (· + 1) (RepT.length r)
def dGet : D → D → Option (Option D)
  | .dct kds, y => (keyD y).map fun k => valG kds k
  | .dctT kds, .tup ds => (keyL ds).map fun k => valG kds k
  | _, _ => none
theorem dGet_ok {d y : D} {vd vy : V} {o : Option D} (rd : Rep cl H P d vd) (ry : Rep cl H P' y vy) (h : dGet d y = some o) : ∃ a vo, vd = .ref a ∧ DGet H a vy vo ∧ (∀ x, o = some x → ∃ v, vo = some v ∧ Rep cl H P x v) ∧ (o = none → vo = none) := by
  cases rd with
  | @dct p kvs kds h1 _ ra =>
    obtain ⟨k, h2, h3⟩ := Option.map_eq_some_iff.mp (show (keyD y).map (fun k => valG kds k) = some o from h)
    have hk := keyD_ok ry h2
    subst hk
    obtain ⟨q1, q2⟩ := ra.val (k := k)
    exact ⟨p, _, rfl, DGet.k h1, fun x hx => q1 x (h3.trans hx), fun hn => q2 (h3.trans hn)⟩
  | @dctT p kvs kds h1 _ ra =>
    cases ry with
    | @tup t us ds h4 rt =>
      obtain ⟨k, h2, h3⟩ := Option.map_eq_some_iff.mp (show (keyL ds).map (fun k => valG kds k) = some o from h)
      have hk := keyL_ok rt h2
      subst hk
      obtain ⟨q1, q2⟩ := ra.val (k := k)
      exact ⟨p, _, rfl, DGet.t h1 h4, fun x hx => q1 x (h3.trans hx), fun hn => q2 (h3.trans hn)⟩
    | _ => cases h
  | _ => cases h
def dAtK (d y : D) : Option D := (dGet d y).bind id
def dInK (y d : D) : Option D := (dGet d y).map fun o => .bl o.isSome
def dNiK (y d : D) : Option D := (dGet d y).map fun o => .bl (!o.isSome)
def dGet1 (d y : D) : Option D := (dGet d y).map fun o => o.getD .non
theorem Plc.dk {d0 : D} {v0 : V} {Rf : D → D} (h : Plc cl H w ms σ env i .dk d0 v0 Rf) : ∃ p kds, v0 = .ref p ∧ d0 = .dct kds ∧ ∃ kvs, H p = some (.dK kvs) ∧ RepK cl H (Fz w) kds kvs ∧ kds.length = kvs.length := by
  obtain ⟨mo, s', l, d, v, L, A0, R, h1, h2, h3, h4, h5, h6, h7, h8⟩ := h
  cases h7 with
  | dk hp op tl => exact ⟨_, _, rfl, rfl, _, hp, tl, tl.length⟩
theorem Plc.dt {d0 : D} {v0 : V} {Rf : D → D} (h : Plc cl H w ms σ env i .dt d0 v0 Rf) : ∃ p kds, v0 = .ref p ∧ d0 = .dctT kds ∧ ∃ kvs, H p = some (.dT kvs) ∧ RepT cl H (Fz w) kds kvs ∧ kds.length = kvs.length := by
  obtain ⟨mo, s', l, d, v, L, A0, R, h1, h2, h3, h4, h5, h6, h7, h8⟩ := h
  cases h7 with
  | dt hp op tl => exact ⟨_, _, rfl, rfl, _, hp, tl, tl.length⟩
theorem se_dgetT (hd : SP cl W ms i .dt td f pf) (hy : SE cl W ms c2 ty g) : SE cl W ms .pu (tDGet td ty) (eOp dAtK f g) := fun H w σ env st r e x Q q =>
  hd.bind st e x fun d H1 v1 Rf s1 hp hf pl e => hy.bind (st.same s1) e (x.same s1) fun y H2 v2 s2 r2 e => by
    obtain ⟨z, e1, rfl⟩ := lift_ok e
    obtain ⟨o, e2, e3⟩ := Option.bind_eq_some_iff.mp e1
    have e3' : o = some z := e3
    subst e3'
    have ry := r2.an (st.wf.same s1)
    obtain ⟨p, kds, rfl, rfl, kvs, h1, ra, _⟩ := (pl.same s2 (st.wf.same s1)).dt
    cases ry with
    | @tup t us ds h4 rt =>
      obtain ⟨k, h2, h3⟩ := Option.map_eq_some_iff.mp (show (keyL ds).map (fun k => valG kds k) = some _ from e2)
      have hk := keyL_ok rt h2
      subst hk
      obtain ⟨v, h6, h5⟩ := (ra.val (k := k)).1 z h3
      have := DGet.t (k := k) h1 h4
      rw [h6] at this
      exact ⟨p, v, rfl, this, q z rfl H2 v (s1.trans s2) h5⟩
    | _ => cases e2
theorem some_eq {o : Option D} {vo : Option V} (h3 : ∀ x, o = some x → ∃ v, vo = some v ∧ Rep cl H P x v) (h4 : o = none → vo = none) : o.isSome = vo.isSome := by
  cases o with
  | none => rw [h4 rfl] <;> rfl
  | some x => obtain ⟨v, rfl, _⟩ := h3 x rfl; rfl
theorem se_dni (hy : SE cl W ms c2 ty g) (hd : SE cl W ms c1 td f) : SE cl W ms .pu (tDNotIn ty td) (eOp dNiK g f) := fun H w σ env st r e x Q q =>
  hy.bind st e x fun y H1 v1 s1 r1 e => hd.bind (st.same s1) e (x.same s1) fun d H2 v2 s2 r2 e => by
    obtain ⟨z, e1, rfl⟩ := lift_ok e
    obtain ⟨o, e2, rfl⟩ := Option.map_eq_some_iff.mp e1
    have ry := (r1.same s2).an st.wf
    obtain ⟨a, vo, h1, h2, h3, h4⟩ := dGet_ok (r2.an (st.wf.same s1)) ry e2
    rw [some_eq h3 h4] at q
    exact ⟨a, vo, h1, h2, q _ rfl H2 _ (s1.trans s2) (.bl _)⟩
def isDct : D → Bool
  | .dct _ => true
  | .dctT _ => true
  | _ => false
def eGet1 (f g : List D → M D) : List D → M D := fun env => bd (f env) fun d => if isDct d = true then bd (g env) fun y => match dGet1 d y with
  | some z => if imm z = true then some (.ok z) else none
  | none => none else none
theorem se_dnewT : SE cl W ms (.fr .dt) tDNewT (eC (.dctT [])) := fun H w σ env st r e x Q q => by
  cases e
  intro p hp
  exact q _ rfl _ _ (new_same hp) ⟨[p], by simp, fun a m => by rw [List.mem_singleton.mp m]; exact hp, .dt upd_same trivial .nil⟩
def dPut (d y x : D) : Option D := match d with
  | .dct kds => if kds.length < LIM then (keyD y).map fun k => .dct (putG kds k x) else none
  | .dctT kds => match y with
    | .tup ds => if kds.length < LIM then (keyL ds).map fun k => .dctT (putG kds k x) else none
    | _ => none
  | _ => none
def sDPutP (i : Nat) (f : List D → M D) (pf : List D → Option (D → D)) (fk fv : List D → M D) : List D → Option Out := fun env => sX (fv env) env fun x => sX (f env) env fun d => sX (fk env) env fun y => match pf env, dPut d y x with
  | some R, some d' => some (.nx (env.set i (R d')))
  | _, _ => none
theorem ss_dputT {fk fv : List D → M D} (h : SP cl W ms i .dt td f pf) (hc : toPu c = true) (hv : SE cl W ms c tv fv) (hy : SE cl W ms c2 ty fk) (hx : wk ms m.ex = true) (hn : wk ms m.nx = true) : SS cl W ms m (sDPut td ty tv) (sDPutP i f pf fk fv) := by
  intro H w σ env st o e D p
  refine hv.stm st e hx p fun x H1 u s1 rr e => ?_
  refine h.stm (st.same s1) e hx (p.trans (Kp.same s1)) fun d H2 v Rf s2 hp pl e => ?_
  refine hy.stm ((st.same s1).same s2) e hx ((p.trans (Kp.same s1)).trans (Kp.same s2)) fun y H3 u3 s3 ry e => ?_
  have st3 := ((st.same s1).same s2).same s3
  have pl2 := pl.same s3 ((st.wf.same s1).same s2)
  obtain ⟨p0, kds, rfl, rfl, kvs, hH, ra, hl⟩ := pl2.dt
  rw [hp] at e
  have ry := ry.an ((st.wf.same s1).same s2)
  cases ry with
  | @tup t us ds h4 rt =>
    cases e1 : dPut (.dctT kds) (.tup ds) x with
    | none => rw [e1] at e; cases e
    | some d' =>
      rw [e1] at e
      cases e
      have e2 : (if kds.length < LIM then (keyL ds).map (fun k => Mv.D.dctT (putG kds k x)) else none) = some d' := e1
      split at e2
      · rename_i hlt
        obtain ⟨k, hk, rfl⟩ := Option.map_eq_some_iff.mp e2
        have hkv := keyL_ok rt hk
        subst hkv
        have rx := (rr.pu st.wf hc).same (s2.trans s3) fun _ z => z
        obtain ⟨w1, z1, z2⟩ := pl2.wr (B := []) (o' := .dT (putK kvs k u)) (d1 := .dctT (putG kds k x)) st3 Unl.len rfl List.nodup_nil (fun a m => absurd m List.not_mem_nil) fun l A0 hl nd t nb => by
          cases t with
          | dt hp2 op2 tl2 =>
            rw [hH] at hp2
            cases hp2
            refine ⟨by simp, fun k1 k2 k3 k4 k5 => ⟨[p0], by simp, fun a m => .inl m, .dt upd_same k5 ?_⟩⟩
            refine (tl2.put rx).mono (fun a o e q => ⟨?_, (rlb_out List.not_mem_nil).trans q⟩) fun a xs e => ?_
            · rw [upd_ne fun z : a = p0 => by subst z; have q : w a = none := q; rw [op2] at q; cases q]; exact e
            · rw [upd_ne fun z : a = p0 => by subst z; rw [hH] at e; cases e]; exact e
        exact ⟨p0, _, rfl, DPut.t hH h4 (by rw [← hl]; exact LIM_lt (Nat.le_of_lt hlt)), p _ _ _ (z1.weak hn) ((Kp.same (s1.trans (s2.trans s3))).trans z2)⟩
      · cases e2
  | _ =>
    have : ∀ d, dPut (.dctT kds) d x = none ∨ ∃ ds, d = .tup ds := fun d => by cases d <;> first | exact .inl rfl | exact .inr ⟨_, rfl⟩
    first
      | (cases e)
      | (simp only [dPut] at e; cases e)
def sFldP (i : Nat) (cc : String) (nm : Str) (f : List D → M D) (pf : List D → Option (D → D)) (g : List D → M D) : List D → Option Out := fun env => sX (g env) env fun x => sX (f env) env fun d => match d, pf env with
  | .ins c fs, some R => if c = cc ∧ fs.length < 900 then some (.nx (env.set i (R (.ins c (putD nm x fs))))) else none
  | _, _ => none
def sFldE (i : Nat) (cc : String) (nm : Str) (g : List D → RE) : List D → Option Out := fun env => sE (g env) fun x e => match e[i]? with
  | some (.ins c fs) => if c = cc ∧ fs.length < 900 then some (.nx (e.set i (.ins c (putD nm x fs)))) else none
  | _ => none
theorem Plc.wrF {n : Nat} {cc : String} {nm : Str} {d0 : D} {v0 : V} {Rf : D → D} {d1 : D} {v1 : V} (pl : Plc cl H w ms σ env i (.io n) d0 v0 Rf) (st : StOk cl H w ms σ env) (t : (fldT n nm = .fz ∧ Rep cl H (Fz w) d1 v1) ∨ Tmp cl H w ms (fldT n nm) d1 v1) : ∃ p c dx vs fs, v0 = .ref p ∧ d0 = .ins c fs ∧ H p = some (.ins (cl c) dx vs) ∧ fs.length = vs.length ∧
    ∃ w1, StOk cl (upd H p (.ins (cl c) dx (putF nm v1 vs))) w1 ms σ (env.set i (Rf (.ins c (putD nm d1 fs)))) ∧ Kp H w (upd H p (.ins (cl c) dx (putF nm v1 vs))) w1 := by
  have pl0 := pl
  obtain ⟨mo, s', l0, d, v, L, A0, R, h1, h2, h3, h4, h5, h6, h7, h8⟩ := pl
  cases h7 with
  | @io _ p c dx vs fs A00 hp op tl =>
    refine ⟨p, c, dx, vs, fs, rfl, rfl, hp, tl.length, ?_⟩
    have go : ∀ (nn : Nat) (B : List Addr) (hn : Unl ms nn) (nB : B.Nodup) (hB : ∀ a ∈ B, w a = some (.ow nn)), (∀ {l : Lb}, l ≠ .fo → (∀ a ∈ B, a ≠ p) → w p = some l → (∀ {s2 : Sh} {d2 : D} {v2 : V} {A2 : List Addr}, p ∉ A2 → (∀ a ∈ A2, w a = some l ∨ a ∈ B) → (∀ {O : Addr → Prop}, Tr cl H (Fz w) O s2 d2 v2 A2 → Tr cl (upd H p (.ins (cl c) dx (putF nm v1 vs))) (Fz (rlb w B (some l))) (fun a => rlb w B (some l) a = some l) s2 d2 v2 A2)) → Tr cl (upd H p (.ins (cl c) dx (putF nm v1 vs))) (Fz (rlb w B (some l))) (fun a => rlb w B (some l) a = some l) (fldT n nm) d1 v1 B) →
        ∃ w1, StOk cl (upd H p (.ins (cl c) dx (putF nm v1 vs))) w1 ms σ (env.set i (Rf (.ins c (putD nm d1 fs)))) ∧ Kp H w (upd H p (.ins (cl c) dx (putF nm v1 vs))) w1 := by
      intro nn B hn nB hB hT
      refine pl0.wr (d1 := .ins c (putD nm d1 fs)) st hn rfl nB hB fun l A0 hl nd t nb => ?_
      cases t with
      | @io _ _ c' dx' vs2 _ A00 hp' op' tl' =>
        rw [hp] at hp'
        injection hp' with hp'
        injection hp' with e1 e2 e3
        subst e2 e3
        have nd2 := List.nodup_cons.mp nd
        refine ⟨by simp, fun k1 k2 k3 k4 k5 => ?_⟩
        have tB := hT hl (fun a m z => nb p (by simp) (z ▸ m)) op' k1
        rw [← e1] at *
        cases hlk : fs.lookup nm with
        | none =>
          refine ⟨p :: (A00 ++ B), ?_, fun a m => ?_, .io upd_same k5 (TrF.new (k3 nd2.1 (fun a m => .inl (tl'.ob a m).1) tl') hlk tB)⟩
          · refine List.nodup_cons.mpr ⟨fun m => ?_, List.nodup_append.mpr ⟨nd2.2, nB, fun a m b m2 z => by subst z; exact nb a (List.mem_cons_of_mem _ m) m2⟩⟩
            rcases List.mem_append.mp m with m | m
            · exact nd2.1 m
            · exact nb p (by simp) m
          · rcases List.mem_cons.mp m with rfl | m
            · exact .inl (by simp)
            · rcases List.mem_append.mp m with m | m
              · exact .inl (List.mem_cons_of_mem _ m)
              · exact .inr m
        | some d9 =>
          obtain ⟨u, L2, A1, R2, f1, f2, f3, f4⟩ := tl'.foc hlk
          subst f2
          refine ⟨p :: (L2 ++ B ++ R2), ?_, fun a m => ?_, .io upd_same k5 (f4 (fun a o e q => ?_) (fun a xs e => ?_) (fun a m o e q => ?_) tB)⟩
          · obtain ⟨q1, q2⟩ := nd2
            simp only [List.append_assoc] at q1 q2 ⊢
            obtain ⟨n1, n2, n3⟩ := List.nodup_append.mp q2
            obtain ⟨n4, n5, n6⟩ := List.nodup_append.mp n2
            refine List.nodup_cons.mpr ⟨fun m => ?_, List.nodup_append.mpr ⟨n1, List.nodup_append.mpr ⟨nB, n5, fun a m b m2 z => ?_⟩, fun a m b m2 z => ?_⟩⟩
            · simp only [List.mem_append] at m q1
              rcases m with m | m | m
              · exact q1 (.inl m)
              · exact nb p (by simp) m
              · exact q1 (.inr (.inr m))
            · subst z; exact nb a (by simp [m2]) m
            · subst z
              rcases List.mem_append.mp m2 with m2 | m2
              · exact nb a (by simp [m]) m2
              · exact n3 a m a (List.mem_append_right _ m2) rfl
          · simp only [List.mem_cons, List.mem_append] at m ⊢
            rcases m with rfl | (m | m) | m
            · exact .inl (.inl rfl)
            · exact .inl (.inr (.inl (.inl m)))
            · exact .inr m
            · exact .inl (.inr (.inr m))
          · have q : w a = none := q
            have ne : a ≠ p := fun z => by subst z; rw [op'] at q; cases q
            exact ⟨by rw [upd_ne ne]; exact e, (rlb_out fun m => by rw [hB a m] at q; cases q).trans q⟩
          · rw [upd_ne fun z : a = p => by subst z; rw [hp] at e; cases e]; exact e
          · have ne : a ≠ p := fun z => by
              subst z
              apply nd2.1
              rcases List.mem_append.mp m with m | m <;> simp [m]
            refine ⟨by rw [upd_ne ne]; exact e, ?_⟩
            by_cases mb : a ∈ B
            · exact rlb_in mb
            · exact (rlb_out mb).trans q
    rcases t with ⟨hs, r⟩ | ⟨nn, hn, B, nB, tB⟩
    · refine go ms.length [] Unl.len List.nodup_nil (fun a m => absurd m List.not_mem_nil) fun {l} hl _ wp k1 => ?_
      rw [hs]
      exact k1 List.not_mem_nil (fun a m => absurd m List.not_mem_nil) (O := fun _ => True) (.fz r)
    · exact go nn B hn nB (fun a m => (tB.ob a m).1) fun {l} hl hne wp k1 => k1 (fun m => hne p m rfl) (fun a m => .inr m) tB
theorem ss_fldP {n : Nat} {cc : String} {nm : Str} (hC : Cls K (cl cc)) (hA : NoAttr K (cl cc) nm) (hf : fldT n nm = .fz) (h : SP cl W ms i (.io n) ta f pf) (hc : toPu c = true) (hg : SE cl W ms c tv g) (hx : wk ms m.ex = true) (hn : wk ms m.nx = true) :
    SS cl W ms m (sFld K ta tv nm) (sFldP i cc nm f pf g) := by
  intro H w σ env st o e D p
  refine hg.stm st e hx p fun x H1 u s1 rr e => ?_
  refine h.stm (st.same s1) e hx (p.trans (Kp.same s1)) fun d H2 v Rf s2 hp pl e => ?_
  have st2 := (st.same s1).same s2
  obtain ⟨p0, c0, dx, vs, fs, rfl, rfl, hH, hl, w1, z1, z2⟩ := pl.wrF (cc := cc) (nm := nm) st2 (.inl ⟨hf, (rr.pu st.wf hc).same s2 fun _ z => z⟩)
  rw [hp] at e
  simp only at e
  split at e
  · rename_i hq
    cases e
    obtain ⟨rfl, hq⟩ := hq
    exact ⟨p0, _, dx, vs, rfl, hH, hC, hA, by rw [← hl]; omega, p _ _ _ (z1.weak hn) ((Kp.same (s1.trans s2)).trans z2)⟩
  · cases e
theorem ss_fldPT {n : Nat} {cc : String} {nm : Str} {s : Sh} (hC : Cls K (cl cc)) (hA : NoAttr K (cl cc) nm) (hf : fldT n nm = s) (h : SP cl W ms i (.io n) ta f pf) (hg : SE cl W ms (.fr s) tv g) (hx : wk ms m.ex = true) (hn : wk ms m.nx = true) :
    SS cl W ms m (sFld K ta tv nm) (sFldP i cc nm f pf g) := by
  intro H w σ env st o e D p
  refine hg.stm st e hx p fun x H1 u s1 rr e => ?_
  obtain ⟨w1, st1, k1, t1⟩ := st.lab s1 rr
  refine h.stm st1 e hx (p.trans k1) fun d H2 v Rf s2 hp pl e => ?_
  have st2 := st1.same s2
  have t3 : Tmp cl H2 w1 ms s x u := by
    obtain ⟨n, hn, A, nd, t⟩ := t1
    exact ⟨n, hn, A, nd, t.mono (fun a o e q => ⟨s2 _ _ e, q⟩) (fun a xs e => s2 _ _ e) fun a _ o e q => ⟨s2 _ _ e, q⟩⟩
  obtain ⟨p0, c0, dx, vs, fs, rfl, rfl, hH, hl, w2, z1, z2⟩ := pl.wrF (cc := cc) (nm := nm) st2 (.inr (by rw [hf]; exact t3))
  rw [hp] at e
  simp only at e
  split at e
  · rename_i hq
    cases e
    obtain ⟨rfl, hq⟩ := hq
    exact ⟨p0, _, dx, vs, rfl, hH, hC, hA, by rw [← hl]; omega, p _ _ _ (z1.weak hn) ((k1.trans (Kp.same s2)).trans z2)⟩
  · cases e
theorem ss_fldE {n : Nat} {cc : String} {nm : Str} {s : Sh} {ge : List D → RE} {mo : Mo} (hC : Cls K (cl cc)) (hA : NoAttr K (cl cc) nm) (hf : fldT n nm = s) (hm : mn[i]? = some mo) (hk : mo = .ow (.io n) ∨ mo = .bo (.io n)) (hg : SEE cl W ms mn m.ex (.fr s) tv ge) (hn : wk mn m.nx = true) :
    SS cl W ms m (sFld K (tVar i) tv nm) (sFldE i cc nm ge) := by
  intro H w σ env st o e D p
  refine hg.stm st e p fun x e1 H' w' u st' k r' e => ?_
  obtain ⟨v2, d2, a2, b2, pl⟩ := st'.plc hm hk
  refine ⟨v2, a2, ?_⟩
  obtain ⟨p0, c0, dx, vs, fs, rfl, rfl, hH, hl, w2, z1, z2⟩ := pl.wrF (cc := cc) (nm := nm) st' (.inr (by rw [hf]; exact r'))
  rw [b2] at e
  simp only at e
  split at e
  · rename_i hq
    cases e
    obtain ⟨rfl, hq⟩ := hq
    exact ⟨p0, _, dx, vs, rfl, hH, hC, hA, by rw [← hl]; omega, p _ _ _ (z1.weak hn) (k.trans z2)⟩
  · cases e
def sFldAugP (i : Nat) (cc : String) (nm : Str) (f : List D → M D) (pf : List D → Option (D → D)) (g : List D → M D) : List D → Option Out := fun env => sX (f env) env fun d => match d with
  | .ins c fs => if c = cc ∧ fs.length < 900 then match fs.lookup nm with
    | some (.int a) => sX (g env) env fun x => match x, pf env with
      | .int b, some R => some (.nx (env.set i (R (.ins c (putD nm (.int (a + b)) fs)))))
      | _, _ => none
    | _ => none else none
  | _ => none
theorem ss_fldAugP {n : Nat} {cc : String} {nm : Str} (hC : Cls K (cl cc)) (hA : NoAttr K (cl cc) nm) (hf : fldT n nm = .fz) (h : SP cl W ms i (.io n) ta f pf) (hg : SE cl W ms c tv g) (hx : wk ms m.ex = true) (hn : wk ms m.nx = true) :
    SS cl W ms m (sFldAug K ta tv rAdd nm) (sFldAugP i cc nm f pf g) := by
  intro H w σ env st o e D p
  refine h.stm st e hx p fun d H1 v Rf s1 hp pl e => ?_
  obtain ⟨cq, fs, rfl⟩ := pl.io
  simp only at e
  split at e
  · rename_i hq
    cases hl : fs.lookup nm with
    | none => rw [hl] at e; cases e
    | some z =>
      rw [hl] at e
      cases z with
      | int a =>
        obtain ⟨p0, dx, vs, v1, rfl, hH, hv, pl1⟩ := pl.fd hl
        have hv1 : v1 = .int a := by
          have := pl1.an
          cases this
          rfl
        subst hv1
        refine ⟨p0, _, dx, vs, _, rfl, hH, by rw [hq.1]; exact hC, by rw [hq.1]; exact hA, hv, ?_⟩
        refine hg.stm (st.same s1) e hx (p.trans (Kp.same s1)) fun x H2 u s2 rr e => ?_
        have rx := rr.an (st.wf.same s1)
        cases rx with
        | int b =>
          simp only [hp] at e
          cases e
          have st2 := (st.same s1).same s2
          have pl2 := pl.same s2 (st.wf.same s1)
          obtain ⟨p1, c1, dx1, vs1, fs1, q1, q2, hH1, hl1, w2, z1, z2⟩ := pl2.wrF (cc := cq) (nm := nm) (d1 := .int (a + b)) (v1 := .int (a + b)) st2 (.inl ⟨hf, .int _⟩)
          cases q1
          cases q2
          exact ⟨a, b, rfl, rfl, dx1, vs1, hH1, by rw [← hl1]; have := hq.2; omega, p _ _ _ (z1.weak hn) ((Kp.same (s1.trans s2)).trans z2)⟩
        | _ => simp only at e; cases e
      | _ => simp only at e; cases e
  · cases e
end
end Mv

namespace Mv
open PySem L2
variable {cl : Nv}
def bnd62 (k : Int) : Bool := decide (-4611686018427387904 ≤ k) && decide (k < 4611686018427387904)
theorem bnd62_of {k : Int} (h : bnd62 k = true) : -(2 ^ 62) ≤ k ∧ k < 2 ^ 62 := by
  unfold bnd62 at h
  rw [Bool.and_eq_true, decide_eq_true_eq, decide_eq_true_eq] at h
  omega
theorem bnd62_ok {k : Int} (h0 : -1000000000000 ≤ k) (h1 : k ≤ 1000000000000) : bnd62 k = true := by
  unfold bnd62
  rw [Bool.and_eq_true, decide_eq_true_eq, decide_eq_true_eq]
  omega
section
variable {H H' H1 : Hp} {w w' : Om} {ms ms' mn : List Mo} {σ : L2.St} {env : List D} {W : WX} {m : Md} {c c1 c2 : RC} {te ta tb ti tf : TE} {f g fi : List D → M D} {K : PySem.W.Frag} {tt : TT} {ft : List D → M Bool}
def forF (i : Nat) (b : List D → Option Out) : List D → List D → Option Out
  | [], env => some (.nx env)
  | d :: ds, env => match b (env.set i d) with
    | some (.nx e) => forF i b ds e
    | some (.ct e) => forF i b ds e
    | some (.bk e) => some (.nx e)
    | o => o
def sFor (i : Nat) (f : List D → M D) (b : List D → Option Out) : List D → Option Out := fun env => sX (f env) env fun d => match d with
  | .lst ds => forF i b ds env
  | _ => none
def bmo : RC → Mo
  | .lo => .lo
  | _ => .pu
theorem loop_core {tb : TS} {b : List D → Option Out} {i : Nat} {P0 : Om → Addr → Prop} {bm : Mo} (ml : List Mo)
    (hset : ∀ {H w σ env d v}, StOk cl H w ml σ env → Rep cl H (P0 w) d v → StOk cl H w (ml.set i bm) (σ.set i (some v)) (env.set i d))
    (hP : ∀ {H w H' w'}, Wf H w → Kp H w H' w' → ∀ {d v}, Rep cl H (P0 w) d v → Rep cl H' (P0 w') d v)
    (hb : SS cl W (ml.set i bm) { m with nx := ml, ct := ml, bk := m.nx } tb b) (hn : wk ml m.nx = true)
    {H w σ env} (st : StOk cl H w ml σ env) {a : Addr} {vs : List V} {ds : List D} (hH : Rep cl H (P0 w) (.lst ds) (.ref a)) {o : Out} (e : forF i b ds env = some o) {D : Ends} (p : Post cl W m H w D o) :
    ∃ Wn : Nat → Nat → L2.St → Hp → Prop, (∃ n, Wn 0 n σ H) ∧ ∀ k n σ' H', Wn k n σ' H' →
      ((Itl K a).stop k H' ∧ D.nx σ' H') ∨ ((Itl K a).go k H' ∧ ∃ N : L2.St → Hp → Prop, (∀ σ2 H2, N σ2 H2 → ∃ n', n' < n ∧ Wn (k + 1) n' σ2 H2) ∧ ∀ x H2, (Itl K a).yld k H' x H2 → gName i x σ' H2 fun σ3 H3 => tb { D with nx := N, ct := N, bk := D.nx } σ3 H3) := by
  let Wn : Nat → Nat → L2.St → Hp → Prop := fun k n σ' H' => n + k = ds.length ∧ ∃ w' env', StOk cl H' w' ml σ' env' ∧ Kp H w H' w' ∧ forF i b (ds.drop k) env' = some o
  refine ⟨Wn, ⟨ds.length, by simp, w, env, st, Kp.refl, by simpa using e⟩, fun k n σ' H' hW => ?_⟩
  obtain ⟨hk, w', env', st', kp, e'⟩ := hW
  have rep' := hP st.wf kp hH
  cases rep' with
  | @lst _ vs' _ h1 hp ra =>
    by_cases hlt : k < ds.length
    · right
      have hd : ds[k]? = some ds[k] := List.getElem?_eq_getElem hlt
      obtain ⟨v, hv, rv⟩ := ra.get hd
      refine ⟨⟨vs', v, .inl (.inl h1), hv⟩, fun σ2 H2 => Wn (k + 1) (n - 1) σ2 H2, fun σ2 H2 h => ⟨n - 1, by omega, h⟩, fun x H2 y => ?_⟩
      obtain ⟨rfl, y⟩ := y
      have hx := y vs' (.inl (.inl h1))
      rw [hv] at hx
      cases hx
      rw [List.drop_eq_getElem_cons hlt] at e'
      unfold forF at e'
      have st3 := hset st' rv
      cases e2 : b (env'.set i ds[k]) with
      | none => rw [e2] at e'; cases e'
      | some o2 =>
        rw [e2] at e'
        refine hb H2 w' _ _ st3 o2 e2 _ ?_
        cases o2 with
        | nx e3 => exact fun H3 w3 σ3 st3 k3 => ⟨by omega, w3, e3, st3, kp.trans k3, e'⟩
        | ct e3 => exact fun H3 w3 σ3 st3 k3 => ⟨by omega, w3, e3, st3, kp.trans k3, e'⟩
        | bk e3 => cases e'; exact p.trans kp
        | rt d e3 => cases e'; exact p.trans kp
        | ex c e3 => cases e'; exact p.trans kp
    · left
      have hz : ds.drop k = [] := List.drop_eq_nil_of_le (by omega)
      rw [hz] at e'
      cases e'
      exact ⟨⟨vs', .inl (.inl h1), by rw [← ra.length]; omega⟩, p H' w' σ' (st'.weak hn) kp⟩
theorem ss_for {tb : TS} {b : List D → Option Out} {i : Nat} (ml : List Mo) (hc : toPu c = true) (h : SE cl W ms c te f) (hx : wk ms m.ex = true) (hl : wk ms ml = true) (hn : wk ml m.nx = true)
    (hb : SS cl W (ml.set i .pu) { m with nx := ml, ct := ml, bk := m.nx } tb b) : SS cl W ms m (tFor (iList K te) (gName i) tb) (sFor i f b) := by
  intro H w σ env st o e D p
  refine h.stm st e hx p fun d H1 v s1 rr e => ?_
  have rp := rr.pu st.wf hc
  cases rp with
  | @lst a vs ds h1 hp ra =>
    refine ⟨a, rfl, ⟨vs, .inl (.inl h1)⟩, loop_core (K := K) (P0 := fun w => Fz w) (bm := .pu) (vs := vs) ml (fun st r => st.setPu r) (fun wf k => fun r => k.keep.rep wf r) hb hn ((st.same s1).weak hl) (.lst h1 hp ra) e (p.trans (Kp.same s1))⟩
  | _ => simp only at e; cases e
theorem ss_forLo {tb : TS} {b : List D → Option Out} {i : Nat} (ml : List Mo) (hc : toLo c = true) (h : SE cl W ms c te f) (hx : wk ms m.ex = true) (hl : wk ms ml = true) (hn : wk ml m.nx = true)
    (hb : SS cl W (ml.set i .lo) { m with nx := ml, ct := ml, bk := m.nx } tb b) : SS cl W ms m (tFor (iList K te) (gName i) tb) (sFor i f b) := by
  intro H w σ env st o e D p
  refine h.stm st e hx p fun d H1 v s1 rr e => ?_
  have rp := rr.lo st.wf hc
  cases rp with
  | @lst a vs ds h1 hp ra =>
    refine ⟨a, rfl, ⟨vs, .inl (.inl h1)⟩, loop_core (K := K) (P0 := fun w => Lf w) (bm := .lo) (vs := vs) ml (fun st r => st.setLo r) (fun wf k => fun r => k.keep.repLo wf r) hb hn ((st.same s1).weak hl) (.lst h1 hp ra) e (p.trans (Kp.same s1))⟩
  | _ => simp only at e; cases e
def rngL (lo : Int) : Nat → List D
  | 0 => []
  | n + 1 => .int lo :: rngL (lo + 1) n
theorem rngL_get : ∀ (n : Nat) (lo : Int) (k : Nat), k < n → (rngL lo n).drop k = .int (lo + k) :: (rngL lo n).drop (k + 1)
  | 0, _, _, h => absurd h (Nat.not_lt_zero _)
  | n + 1, lo, 0, _ => by simp [rngL]
  | n + 1, lo, k + 1, h => by
    have := rngL_get n (lo + 1) k (Nat.lt_of_succ_lt_succ h)
    show (rngL (lo + 1) n).drop k = _
    rw [this]
    have e : lo + 1 + (k : Int) = lo + ((k + 1 : Nat) : Int) := by push_cast; omega
    rw [e]
    rfl
theorem rngL_len : ∀ (n : Nat) (lo : Int), (rngL lo n).length = n
  | 0, _ => rfl
  | n + 1, lo => congrArg (· + 1) (rngL_len n (lo + 1))
def sRng (i : Nat) (fs : List (List D → M D)) (b : List D → Option Out) : List D → Option Out := fun env => match eArgs fs env with
  | some (.ok [.int j]) => if bnd62 j = true then forF i b (rngL 0 j.toNat) env else none
  | some (.ok [.int l, .int j]) => if bnd62 l = true ∧ bnd62 j = true then forF i b (rngL l (j - l).toNat) env else none
  | some (.ex c) => some (.ex c env)
  | _ => none
theorem range_core {tb : TS} {b : List D → Option Out} {i : Nat} (ml : List Mo) (hb : SS cl W (ml.set i .pu) { m with nx := ml, ct := ml, bk := m.nx } tb b) (hn : wk ml m.nx = true)
    {H w σ env} (st : StOk cl H w ml σ env) {lo : Int} {q : Nat} {o : Out} (e : forF i b (rngL lo q) env = some o) {D : Ends} (p : Post cl W m H w D o) :
    ∃ Wn : Nat → Nat → L2.St → Hp → Prop, (∃ n, Wn 0 n σ H) ∧ ∀ k n σ' H', Wn k n σ' H' →
      ((Itr lo q).stop k H' ∧ D.nx σ' H') ∨ ((Itr lo q).go k H' ∧ ∃ N : L2.St → Hp → Prop, (∀ σ2 H2, N σ2 H2 → ∃ n', n' < n ∧ Wn (k + 1) n' σ2 H2) ∧ ∀ x H2, (Itr lo q).yld k H' x H2 → gName i x σ' H2 fun σ3 H3 => tb { D with nx := N, ct := N, bk := D.nx } σ3 H3) := by
  let Wn : Nat → Nat → L2.St → Hp → Prop := fun k n σ' H' => n + k = q ∧ ∃ w' env', StOk cl H' w' ml σ' env' ∧ Kp H w H' w' ∧ forF i b ((rngL lo q).drop k) env' = some o
  refine ⟨Wn, ⟨q, by simp, w, env, st, Kp.refl, by simpa using e⟩, fun k n σ' H' hW => ?_⟩
  obtain ⟨hk, w', env', st', kp, e'⟩ := hW
  by_cases hlt : k < q
  · right
    refine ⟨hlt, fun σ2 H2 => Wn (k + 1) (n - 1) σ2 H2, fun σ2 H2 h => ⟨n - 1, by omega, h⟩, fun x H2 y => ?_⟩
    obtain ⟨rfl, rfl⟩ := y
    rw [rngL_get q lo k hlt] at e'
    unfold forF at e'
    have st3 := st'.setPu (i := i) (Rep.int (cl := cl) (H := H2) (P := Fz w') (lo + (k : Int)))
    cases e2 : b (env'.set i (.int (lo + (k : Int)))) with
    | none => rw [e2] at e'; cases e'
    | some o2 =>
      rw [e2] at e'
      refine hb H2 w' _ _ st3 o2 e2 _ ?_
      cases o2 with
      | nx e3 => exact fun H3 w3 σ3 st3 k3 => ⟨by omega, w3, e3, st3, kp.trans k3, e'⟩
      | ct e3 => exact fun H3 w3 σ3 st3 k3 => ⟨by omega, w3, e3, st3, kp.trans k3, e'⟩
      | bk e3 => cases e'; exact p.trans kp
      | rt d e3 => cases e'; exact p.trans kp
      | ex c e3 => cases e'; exact p.trans kp
  · left
    have hz : (rngL lo q).drop k = [] := List.drop_eq_nil_of_le (by rw [rngL_len]; omega)
    rw [hz] at e'
    cases e'
    exact ⟨by show q ≤ k; omega, p H' w' σ' (st'.weak hn) kp⟩
theorem SEa.stm {cs : List RC} {fs : List (List D → M D)} {tr : TA} (h : SEa cl W ms cs tr (eArgs fs)) {H w σ env} (st : StOk cl H w ms σ env) {r : R (List D)} (e : eArgs fs env = some r) {D : Ends} {o : Out} (hx : wk ms m.ex = true) (p : ∀ x, r = .ex x → Post cl W m H w D (.ex x env)) {Q : List V → Hp → Prop}
    (q : ∀ ds H' vs, r = .ok ds → Same H H' → ResL cl H H' w cs ds vs → Q vs H') : tr σ H Q := by
  refine h H w σ env st r e (fun x hx' H' s => ?_) Q fun ds hd H' vs s rs => q ds H' vs hd s rs
  exact p x hx' H' w σ ((st.same s).weak hx) (Kp.same s)
theorem ss_rng1 {tb : TS} {b : List D → Option Out} {i : Nat} {fs : List (List D → M D)} {tr : TA} (ml : List Mo) (h : SEa cl W ms [c] tr (eArgs fs)) (hx : wk ms m.ex = true) (hl : wk ms ml = true) (hn : wk ml m.nx = true)
    (hb : SS cl W (ml.set i .pu) { m with nx := ml, ct := ml, bk := m.nx } tb b) : SS cl W ms m (tFor (iRng1 tr) (gName i) tb) (sRng i fs b) := by
  intro H w σ env st o e D p
  unfold sRng at e
  cases e1 : eArgs fs env with
  | none => rw [e1] at e; cases e
  | some r =>
    rw [e1] at e
    refine h.stm (m := m) (o := o) st e1 hx (fun x hx' => by subst hx'; cases e; exact p) fun ds H1 vs hd s1 rs => ?_
    subst hd
    obtain ⟨d, v, rfl, rfl, rr⟩ := rs.one st.wf
    cases rr with
    | int j =>
      simp only at e
      split at e
      · rename_i hb2
        exact ⟨j, rfl, (bnd62_of hb2).1, (bnd62_of hb2).2, range_core ml hb hn ((st.same s1).weak hl) e (p.trans (Kp.same s1))⟩
      · cases e
    | _ => simp only at e; cases e
def whF (t : List D → M Bool) (b : List D → Option Out) : Nat → List D → Option Out
  | 0, _ => none
  | n + 1, env => match t env with
    | some (.ok true) => match b env with
      | some (.nx e) => whF t b n e
      | some (.ct e) => whF t b n e
      | some (.bk e) => some (.nx e)
      | o => o
    | some (.ok false) => some (.nx env)
    | some (.ex c) => some (.ex c env)
    | none => none
open Classical in
noncomputable def sWhile (t : List D → M Bool) (b : List D → Option Out) : List D → Option Out := fun env =>
  if h : ∃ n o, whF t b n env = some o then some (choose (choose_spec h)) else none
theorem whF_mono {t : List D → M Bool} {b : List D → Option Out} : ∀ {n k : Nat} {env : List D} {o : Out}, n ≤ k → whF t b n env = some o → whF t b k env = some o
  | 0, _, _, _, _, h => by cases h
  | n + 1, 0, _, _, hk, _ => absurd hk (Nat.not_succ_le_zero _)
  | n + 1, k + 1, env, o, hk, h => by
    unfold whF at h ⊢
    have hk' := Nat.le_of_succ_le_succ hk
    cases e1 : t env with
    | none => rw [e1] at h; cases h
    | some r =>
      rw [e1] at h
      cases r with
      | ex c => exact h
      | ok q =>
        cases q with
        | false => exact h
        | true =>
          simp only at h ⊢
          cases e2 : b env with
          | none => rw [e2] at h; cases h
          | some o2 =>
            rw [e2] at h
            cases o2 with
            | nx e => exact whF_mono hk' h
            | ct e => exact whF_mono hk' h
            | bk e => exact h
            | rt d e => exact h
            | ex c e => exact h
theorem sWhile_eq {t : List D → M Bool} {b : List D → Option Out} {n : Nat} {env : List D} {o : Out} (h : whF t b n env = some o) : sWhile t b env = some o := by
  have h' : ∃ n o, whF t b n env = some o := ⟨n, o, h⟩
  unfold sWhile
  rw [dif_pos h']
  have q := Classical.choose_spec (Classical.choose_spec h')
  have q1 := whF_mono (Nat.le_max_left n (Classical.choose h')) h
  have q2 := whF_mono (Nat.le_max_right n (Classical.choose h')) q
  rw [q1] at q2
  exact congrArg some (Option.some.inj q2).symm
theorem sWhile_of {t : List D → M Bool} {b : List D → Option Out} {env : List D} {o : Out} (h : sWhile t b env = some o) : ∃ n, whF t b n env = some o := by
  unfold sWhile at h
  split at h
  · rename_i h'
    refine ⟨Classical.choose h', ?_⟩
    rw [← h]
    exact Classical.choose_spec (Classical.choose_spec h')
  · cases h
theorem ss_while {t : TT} {ft : List D → M Bool} {tb : TS} {b : List D → Option Out} (ml : List Mo) (ht : SEt cl W ml t ft) (hl : wk ms ml = true) (hx : wk ml m.ex = true) (hn : wk ml m.nx = true)
    (hb : SS cl W ml { m with nx := ml, ct := ml, bk := m.nx } tb b) : SS cl W ms m (tWhile t tb) (sWhile ft b) := by
  intro H w σ env st o e D p
  obtain ⟨n0, e0⟩ := sWhile_of e
  let Wn : Nat → L2.St → Hp → Prop := fun n σ' H' => ∃ w' env', StOk cl H' w' ml σ' env' ∧ Kp H w H' w' ∧ whF ft b n env' = some o
  refine ⟨Wn, ⟨n0, w, env, st.weak hl, Kp.refl, e0⟩, fun n σ' H' hW => ?_⟩
  obtain ⟨w', env', st', kp, e'⟩ := hW
  cases n with
  | zero => cases e'
  | succ n =>
    unfold whF at e'
    cases e1 : ft env' with
    | none => rw [e1] at e'; cases e'
    | some r =>
      rw [e1] at e'
      cases r with
      | ex c =>
        cases e'
        refine ht H' w' σ' env' st' _ e1 (fun z hz H2 s => ?_) _ fun d hd => nomatch hd
        cases hz
        exact (p.trans kp) H2 w' σ' ((st'.same s).weak hx) (Kp.same s)
      | ok q =>
        refine ht H' w' σ' env' st' _ e1 (fun z hz => nomatch hz) _ fun d hd H2 s => ?_
        cases hd
        have kp2 := kp.trans (Kp.same s)
        cases q with
        | false =>
          cases e'
          show (if false = true then _ else D.nx σ' H2)
          rw [if_neg Bool.false_ne_true]
          exact p H2 w' σ' ((st'.same s).weak hn) kp2
        | true =>
          simp only at e'
          show (if true = true then _ else D.nx σ' H2)
          rw [if_pos rfl]
          refine ⟨fun σ2 H3 => Wn n σ2 H3, fun σ2 H3 h => ⟨n, Nat.lt_succ_self _, h⟩, ?_⟩
          cases e2 : b env' with
          | none => rw [e2] at e'; cases e'
          | some o2 =>
            rw [e2] at e'
            refine hb H2 w' _ _ (st'.same s) o2 e2 _ ?_
            cases o2 with
            | nx e3 => exact fun H3 w3 σ3 st3 k3 => ⟨w3, e3, st3, kp2.trans k3, e'⟩
            | ct e3 => exact fun H3 w3 σ3 st3 k3 => ⟨w3, e3, st3, kp2.trans k3, e'⟩
            | bk e3 => cases e'; exact p.trans kp2
            | rt d e3 => cases e'; exact p.trans kp2
            | ex c e3 => cases e'; exact p.trans kp2
def sAug (i : Nat) (g : Int → Int → Int) (f : List D → M D) : List D → Option Out := fun env => match env[i]? with
  | some (.int a) => sX (f env) env fun d => match d with
    | .int b => some (.nx (env.set i (.int (g a b))))
    | _ => none
  | _ => none
def setAll : List Nat → List D → List D → Option (List D)
  | [], [], env => some env
  | i :: is, d :: ds, env => setAll is ds (env.set i d)
  | _, _, _ => none
def gNames : List Nat → TGs
  | [] => gNil
  | i :: is => gCons (gName i) (gNames is)
def setMo (bm : Mo) : List Nat → List Mo → List Mo
  | [], ms => ms
  | i :: is, ms => setMo bm is (ms.set i bm)
theorem unp_pu : ∀ {is : List Nat} {ms : List Mo} {σ : L2.St} {env : List D} {vs : List V} {ds : List D} {e : List D} {Q : L2.St → Hp → Prop}, StOk cl H w ms σ env → RepL cl H (Fz w) ds vs → setAll is ds env = some e →
    (∀ σ', StOk cl H w (setMo .pu is ms) σ' e → Q σ' H) → gNames is vs σ H Q
  | [], _, _, _, _, _, _, _, st, r, h, q => by
    cases r with
    | nil => cases h; exact ⟨rfl, q _ st⟩
    | cons _ _ => cases h
  | i :: is, _, _, _, _, _, _, _, st, r, h, q => by
    cases r with
    | nil => cases h
    | cons r1 r2 => exact ⟨_, _, rfl, unp_pu (st.setPu r1) r2 h q⟩
theorem unp_lo : ∀ {is : List Nat} {ms : List Mo} {σ : L2.St} {env : List D} {vs : List V} {ds : List D} {e : List D} {Q : L2.St → Hp → Prop}, StOk cl H w ms σ env → RepL cl H (Lf w) ds vs → setAll is ds env = some e →
    (∀ σ', StOk cl H w (setMo .lo is ms) σ' e → Q σ' H) → gNames is vs σ H Q
  | [], _, _, _, _, _, _, _, st, r, h, q => by
    cases r with
    | nil => cases h; exact ⟨rfl, q _ st⟩
    | cons _ _ => cases h
  | i :: is, _, _, _, _, _, _, _, st, r, h, q => by
    cases r with
    | nil => cases h
    | cons r1 r2 => exact ⟨_, _, rfl, unp_lo (st.setLo r1) r2 h q⟩
theorem setAll_len : ∀ {is : List Nat} {ds : List D} {env e : List D}, setAll is ds env = some e → ds.length = is.length
  | [], [], _, _, _ => rfl
  | [], _ :: _, _, _, h => by cases h
  | _ :: _, [], _, _, h => by cases h
  | i :: is, d :: ds, _, _, h => congrArg (· + 1) (setAll_len (is := is) (ds := ds) h)
def sUnp (is : List Nat) (f : List D → M D) : List D → Option Out := fun env => sX (f env) env fun d => match d with
  | .tup ds => (setAll is ds env).map Out.nx
  | _ => none
theorem ss_unp {is : List Nat} {n : Nat} (hi : is.length = n) (hc : toPu c = true) (h : SE cl W ms c te f) (hx : wk ms m.ex = true) (hn : wk (setMo .pu is ms) m.nx = true) : SS cl W ms m (tAsg te (gTup K n (gNames is))) (sUnp is f) := by
  intro H w σ env st o e D p
  refine h.stm st e hx p fun d H' v s r e => ?_
  have rp := r.pu st.wf hc
  cases rp with
  | @tup a vs ds h1 ra =>
    obtain ⟨e2, h2, rfl⟩ := Option.map_eq_some_iff.mp (show (setAll is ds env).map Out.nx = some o from e)
    exact ⟨a, vs, rfl, .inl (.inl h1), by rw [← ra.length, setAll_len h2, hi], unp_pu (st.same s) ra h2 fun σ' st' => p H' w σ' (st'.weak hn) (Kp.same s)⟩
  | _ => simp only at e; cases e
def forT (is : List Nat) (b : List D → Option Out) : List D → List D → Option Out
  | [], env => some (.nx env)
  | .tup xs :: ds, env => match setAll is xs env with
    | some env1 => match b env1 with
      | some (.nx e) => forT is b ds e
      | some (.ct e) => forT is b ds e
      | some (.bk e) => some (.nx e)
      | o => o
    | none => none
  | _, _ => none
def sForT (is : List Nat) (f : List D → M D) (b : List D → Option Out) : List D → Option Out := fun env => sX (f env) env fun d => match d with
  | .lst ds => forT is b ds env
  | _ => none
theorem loopT_core {tb : TS} {b : List D → Option Out} {is : List Nat} {nn : Nat} {P0 : Om → Addr → Prop} {bm : Mo} (ml : List Mo) (hi : is.length = nn)
    (hset : ∀ {H w} {ms : List Mo} {σ : L2.St} {env : List D} {vs : List V} {ds : List D} {e : List D} {Q : L2.St → Hp → Prop}, StOk cl H w ms σ env → RepL cl H (P0 w) ds vs → setAll is ds env = some e → (∀ σ', StOk cl H w (setMo bm is ms) σ' e → Q σ' H) → gNames is vs σ H Q)
    (hP : ∀ {H w H' w'}, Wf H w → Kp H w H' w' → ∀ {d v}, Rep cl H (P0 w) d v → Rep cl H' (P0 w') d v)
    (hb : SS cl W (setMo bm is ml) { m with nx := ml, ct := ml, bk := m.nx } tb b) (hn : wk ml m.nx = true)
    {H w σ env} (st : StOk cl H w ml σ env) {a : Addr} {vs : List V} {ds : List D} (hH : Rep cl H (P0 w) (.lst ds) (.ref a)) {o : Out} (e : forT is b ds env = some o) {D : Ends} (p : Post cl W m H w D o) :
    ∃ Wn : Nat → Nat → L2.St → Hp → Prop, (∃ n, Wn 0 n σ H) ∧ ∀ k n σ' H', Wn k n σ' H' →
      ((Itl K a).stop k H' ∧ D.nx σ' H') ∨ ((Itl K a).go k H' ∧ ∃ N : L2.St → Hp → Prop, (∀ σ2 H2, N σ2 H2 → ∃ n', n' < n ∧ Wn (k + 1) n' σ2 H2) ∧ ∀ x H2, (Itl K a).yld k H' x H2 → gTup K nn (gNames is) x σ' H2 fun σ3 H3 => tb { D with nx := N, ct := N, bk := D.nx } σ3 H3) := by
  let Wn : Nat → Nat → L2.St → Hp → Prop := fun k n σ' H' => n + k = ds.length ∧ ∃ w' env', StOk cl H' w' ml σ' env' ∧ Kp H w H' w' ∧ forT is b (ds.drop k) env' = some o
  refine ⟨Wn, ⟨ds.length, by simp, w, env, st, Kp.refl, by simpa using e⟩, fun k n σ' H' hW => ?_⟩
  obtain ⟨hk, w', env', st', kp, e'⟩ := hW
  have rep' := hP st.wf kp hH
  cases rep' with
  | @lst _ vs' _ h1 hp ra =>
    by_cases hlt : k < ds.length
    · right
      have hd : ds[k]? = some ds[k] := List.getElem?_eq_getElem hlt
      obtain ⟨v, hv, rv⟩ := ra.get hd
      refine ⟨⟨vs', v, .inl (.inl h1), hv⟩, fun σ2 H2 => Wn (k + 1) (n - 1) σ2 H2, fun σ2 H2 h => ⟨n - 1, by omega, h⟩, fun x H2 y => ?_⟩
      obtain ⟨rfl, y⟩ := y
      have hx := y vs' (.inl (.inl h1))
      rw [hv] at hx
      cases hx
      rw [List.drop_eq_getElem_cons hlt] at e'
      generalize ds[k] = dk at e' rv
      cases rv with
      | @tup ta us xs h2 rx =>
        unfold forT at e'
        cases es : setAll is xs env' with
        | none => rw [es] at e'; cases e'
        | some env1 =>
          rw [es] at e'
          simp only at e'
          refine ⟨ta, us, rfl, .inl (.inl h2), by rw [← rx.length, setAll_len es, hi], hset st' rx es fun σ3 st3 => ?_⟩
          cases e2 : b env1 with
          | none => rw [e2] at e'; cases e'
          | some o2 =>
            rw [e2] at e'
            refine hb H2 w' _ _ st3 o2 e2 _ ?_
            cases o2 with
            | nx e3 => exact fun H3 w3 σ3 st3 k3 => ⟨by omega, w3, e3, st3, kp.trans k3, e'⟩
            | ct e3 => exact fun H3 w3 σ3 st3 k3 => ⟨by omega, w3, e3, st3, kp.trans k3, e'⟩
            | bk e3 => cases e'; exact p.trans kp
            | rt d e3 => cases e'; exact p.trans kp
            | ex c e3 => cases e'; exact p.trans kp
      | _ => unfold forT at e'; cases e'
    · left
      have hz : ds.drop k = [] := List.drop_eq_nil_of_le (by omega)
      rw [hz] at e'
      unfold forT at e'
      cases e'
      exact ⟨⟨vs', .inl (.inl h1), by rw [← ra.length]; omega⟩, p H' w' σ' (st'.weak hn) kp⟩
theorem ss_forTLo {tb : TS} {b : List D → Option Out} {is : List Nat} {n : Nat} (ml : List Mo) (hi : is.length = n) (hc : toLo c = true) (h : SE cl W ms c te f) (hx : wk ms m.ex = true) (hl : wk ms ml = true) (hn : wk ml m.nx = true)
    (hb : SS cl W (setMo .lo is ml) { m with nx := ml, ct := ml, bk := m.nx } tb b) : SS cl W ms m (tFor (iList K te) (gTup K n (gNames is)) tb) (sForT is f b) := by
  intro H w σ env st o e D p
  refine h.stm st e hx p fun d H1 v s1 rr e => ?_
  have rp := rr.lo st.wf hc
  cases rp with
  | @lst a vs ds h1 hp ra =>
    refine ⟨a, rfl, ⟨vs, .inl (.inl h1)⟩, loopT_core (K := K) (P0 := fun w => Lf w) (bm := .lo) (vs := vs) ml hi (fun st r h q => unp_lo st r h q) (fun wf k => fun r => k.keep.repLo wf r) hb hn ((st.same s1).weak hl) (.lst h1 hp ra) e (p.trans (Kp.same s1))⟩
  | _ => simp only at e; cases e

def setSh : List Nat → Sh → List Mo → List Mo
  | i :: is, .tc s r, ms => setSh is r (ms.set i (if s = .fz then .pu else .ow s))
  | _, _, ms => ms
def sUnpE (is : List Nat) (f : List D → RE) : List D → Option Out := fun env => sE (f env) fun d e => match d with
  | .tup ds => (setAll is ds e).map Out.nx
  | _ => none
def dn (k : Nat) (s : Sh) (l : List Mo) : List Mo := if l[k]? = some (.ow s) then l.set k .pn else l
def okM (a b : Mo) : Bool := match b with
  | .lo => false
  | .sc => false
  | .pn => decide (a = .pn)
  | _ => true
def okL : List Mo → List Mo → Bool
  | _, [] => true
  | a :: as, b :: bs => okM a b && okL as bs
  | [], _ => false
def okK (k : Nat) (s : Sh) (l : List Mo) : Bool := match l[k]? with
  | none => true
  | some .un => true
  | some (.ow s') => decide (s' = s)
  | _ => false
def okp (k : Nat) (s : Sh) (ms l : List Mo) : Bool := okL ms l && okK k s l
end
end Mv

namespace Mv
open PySem L2 PySem.Spec
variable {cl : Nv}

def bos : List Mo → List Mo
  | [] => []
  | .bo k :: r => .bo k :: bos r
  | _ :: r => .un :: bos r
def PsOk (cl : Nv) (H : Hp) (w : Om) (pm : List Mo) (vs : List V) (ds : List D) : Prop := ∀ (i : Nat) m, pm[i]? = some m → m ≠ .un → ∃ v d, vs[i]? = some v ∧ ds[i]? = some d ∧ Own cl H w i m d v
def BoOk (cl : Nv) (H : Hp) (w : Om) (pm : List Mo) (vs : List V) (e : List D) : Prop := ∀ (i : Nat) k v, pm[i]? = some (.bo k) → vs[i]? = some v → ∃ d, e[i]? = some d ∧ Own cl H w i (.bo k) d v
def spOf (cl : Nv) (pm : List Mo) (rc : RC) (G : List D → Option Out) : Sp := fun vs H Q E => ∃ w ds o, vs.length = pm.length ∧ ds.length = pm.length ∧ Wf H w ∧
  PsOk cl H w pm vs ds ∧ G ds = some o ∧ match o with
  | .rt d e => ∀ H' w' v, Kp H w H' w' → Wf H' w' → Ret cl H' w' rc d v → BoOk cl H' w' pm vs e → Q v H'
  | .ex c e => ∀ H' w', Kp H w H' w' → Wf H' w' → BoOk cl H' w' pm vs e → E (.ref (cl c)) none H'
  | _ => False
def fnOf (g : List D → Option Out) (n : Nat) (rp : Bool) : List D → Option Out := fun ds => match g (ds ++ List.replicate (n - ds.length) .non) with
  | some (.nx e) => if rp = true then some (.rt .non e) else none
  | some (.rt d e) => some (.rt d e)
  | some (.ex c e) => some (.ex c e)
  | _ => none
theorem bos_len : ∀ pm, (bos pm).length = pm.length
  | [] => rfl
  | m :: r => by cases m <;> exact congrArg (· + 1) (bos_len r)
theorem bos_get : ∀ {pm : List Mo} {i : Nat} {k : Sh}, pm[i]? = some (.bo k) → (bos pm)[i]? = some (.bo k)
  | [], _, _, h => by simp at h
  | m :: r, 0, k, h => by simp at h; subst h; rfl
  | m :: r, i + 1, k, h => by
    have ih := bos_get (pm := r) (i := i) (k := k) (by simpa using h)
    cases m <;> simpa [bos] using ih
def mdOf (pm : List Mo) (n : Nat) (rc : RC) : Md :=
  let e := bos pm ++ List.replicate (n - pm.length) .un
  ⟨e, [], [], e, e, rc⟩
def isPu : RC → Bool
  | .pu => true
  | _ => false
theorem start_get {N : List Str} {vs : List V} {i : Nat} {v : V} (h : vs[i]? = some v) : (L2.start N vs)[i]? = some (some v) := by
  unfold L2.start
  have hl := (List.getElem?_eq_some_iff.mp h).1
  rw [List.getElem?_append_left (by simpa using hl), List.getElem?_map, h]
  rfl
theorem body_ok {pm : List Mo} {rc : RC} {N : List Str} {t : TS} {g : List D → Option Out} (hl : pm.length ≤ N.length)
    {vs : List V} {H : Hp} {Q : VK} {E : XK} (hs : SS cl (fun cls d _ H => E cls d H) (pm ++ List.replicate (N.length - pm.length) .un) (mdOf pm N.length rc) t g) (h : spOf cl pm rc (fnOf g N.length (isPu rc)) vs H Q E) : t { nx := fun _ H' => Q .non H', rt := Q } (L2.start N vs) H := by
  obtain ⟨w, ds, o, l1, l2, wf, ps, hG, post⟩ := h
  unfold fnOf at hG
  have st : StOk cl H w (pm ++ List.replicate (N.length - pm.length) .un) (L2.start N vs) (ds ++ List.replicate (N.length - ds.length) .non) := by
    refine ⟨wf, ?_, ?_, fun i m e n => ?_⟩
    · unfold L2.start; simp [l1]
    · simp [l2]
    · by_cases hi : i < pm.length
      · rw [List.getElem?_append_left hi] at e
        obtain ⟨v, d, a, b, c⟩ := ps i m e n
        exact ⟨v, d, start_get a, by rw [List.getElem?_append_left (by rw [l2]; exact hi)]; exact b, c⟩
      · rw [List.getElem?_append_right (Nat.le_of_not_lt hi), List.getElem?_replicate] at e
        split at e <;> cases e
        exact absurd rfl n
  have bo : ∀ {H' : Hp} {w' : Om} {σ' : L2.St} {e : List D}, StOk cl H' w' (bos pm ++ List.replicate (N.length - pm.length) .un) σ' e → Kp H w H' w' → BoOk cl H' w' pm vs e := by
    intro H' w' σ' e st' kp i k v hi hv
    have hlt : i < pm.length := (List.getElem?_eq_some_iff.mp hi).1
    obtain ⟨v', d', a, b, c⟩ := st'.sl i (.bo k) (by rw [List.getElem?_append_left (by rw [bos_len]; exact hlt)]; exact bos_get hi) (by intro z; cases z)
    obtain ⟨v0, d0, a0, b0, c0⟩ := ps i (.bo k) hi (by intro z; cases z)
    rw [hv] at a0
    cases a0
    have e1 : v' = v := by rw [c.1, kp.keep.pin, ← c0.1]
    subst e1
    exact ⟨d', b, c⟩
  cases e1 : g (ds ++ List.replicate (N.length - ds.length) .non) with
  | none => rw [e1] at hG; cases hG
  | some o1 =>
    rw [e1] at hG
    refine hs H w _ _ st o1 e1 _ ?_
    cases o1 with
    | nx e =>
      simp only at hG
      split at hG
      · rename_i hp
        cases hG
        intro H' w' σ' st' kp
        refine post H' w' .non kp st'.wf ?_ (bo st' kp)
        cases rc with
        | pu => exact .non
        | _ => cases hp
      · cases hG
    | rt d e => cases hG; exact fun H' w' σ' v st' kp r => post H' w' v kp st'.wf r (bo st' kp)
    | ex c e => cases hG; exact fun H' w' σ' st' kp => post H' w' kp st'.wf (bo st' kp)
    | bk e => cases hG
    | ct e => cases hG
section
variable {P : Program} {w : World} {K : PySem.W.Frag} {mg : Str → Option Value} {base : Heap} {x qual : Str} {params : Arguments} {body : List Stmt} {scope : Scope} {f : Addr} {fd : FuncData}
theorem fn_ok {N ps : List Str} {k : Nat} {pm : List Mo} {rc : RC} {t : TS} {g : List D → Option Out} (F : FunD K x qual params body scope [] [] f fd) (S : FnScope N ps scope) (hp : pm.length = ps.length) (hl : pm.length ≤ N.length)
    (hs : ∀ W, SS cl W (pm ++ List.replicate (N.length - pm.length) .un) (mdOf pm N.length rc) t g)
    (hb : ∀ (cdv : Value) (A : Around) (outer : List Env) (s : Shared) (H : Hp) (E : XK), Room k (A.deeper (PyProof.Rows.envOfC qual scope s.heap.objs.size f cdv)) → PSs (cxOf CX0 P w K mg base N qual scope f cdv A outer s H E).nox body t) :
    FnOk P w K mg base CX0 (k + 1) f fd ps (spOf cl pm rc (fnOf g N.length (isPu rc))) := by
  refine F.ok S (fun vs H Q E h => ?_) (fun cdv A outer s H vs Q E hr h => ⟨t, PSs.nox (hb cdv A outer s H E hr), body_ok hl (hs _) h⟩)
  obtain ⟨w, ds, o, l1, _⟩ := h
  rw [l1, hp]
theorem fn_okX {N ps : List Str} {k : Nat} {pm : List Mo} {rc : RC} {t : WX → TS} {g : List D → Option Out} (F : FunD K x qual params body scope [] [] f fd) (S : FnScope N ps scope) (hp : pm.length = ps.length) (hl : pm.length ≤ N.length)
    (hs : ∀ W, SS cl W (pm ++ List.replicate (N.length - pm.length) .un) (mdOf pm N.length rc) (t W) g)
    (hb : ∀ (cdv : Value) (A : Around) (outer : List Env) (s : Shared) (H : Hp) (E : XK), Room k (A.deeper (PyProof.Rows.envOfC qual scope s.heap.objs.size f cdv)) → PSs (cxOf (L2.CX P w) P w K mg base N qual scope f cdv A outer s H E) body (t fun cls d _ H => E cls d H)) :
    FnOk P w K mg base (L2.CX P w) (k + 1) f fd ps (spOf cl pm rc (fnOf g N.length (isPu rc))) := by
  refine F.ok S (fun vs H Q E h => ?_) (fun cdv A outer s H vs Q E hr h => ⟨_, hb cdv A outer s H E hr, body_ok hl (hs _) h⟩)
  obtain ⟨w, ds, o, l1, _⟩ := h
  rw [l1, hp]
end

def lentL : Option Lb → Option Lb
  | none => none
  | some _ => some .fo
def lent (w : Om) (vs : List V) (ds : List D) : Om := ⟨fun a => lentL (w a), fun j => (vs.getD j .non, ds.getD j .non)⟩
theorem lent_none {w : Om} {a : Addr} {vs : List V} {ds : List D} : lent w vs ds a = none ↔ w a = none := by
  show lentL (w a) = none ↔ w a = none
  cases w a with
  | none => exact Iff.rfl
  | some l => exact ⟨fun z => absurd (show (some Lb.fo : Option Lb) = none from z) (by simp), fun z => absurd z (by simp)⟩
theorem lent_some {w : Om} {a : Addr} {l : Lb} {vs : List V} {ds : List D} (h : w a = some l) : lent w vs ds a = some .fo := by
  show lentL (w a) = some .fo
  rw [h] <;> rfl
theorem lent_fo {w : Om} {a : Addr} {l : Lb} {vs : List V} {ds : List D} (h : lent w vs ds a = some l) : l = .fo ∧ ∃ l', w a = some l' := by
  have h2 : lentL (w a) = some l := h
  cases q : w a with
  | none => rw [q] at h2; exact nomatch (show (none : Option Lb) = some l from h2)
  | some l' => rw [q] at h2; exact ⟨(Option.some.inj (show some Lb.fo = some l from h2)).symm, l', rfl⟩
def arg1 : RC → Mo → Bool
  | c, .pu => toPu c
  | _, .lo => true
  | _, .pn => true
  | _, .un => true
  | _, _ => false
def argOk : List RC → List Mo → Bool
  | [], [] => true
  | c :: cs, m :: ms => arg1 c m && argOk cs ms
  | _, _ => false
theorem argOk_cons {c : RC} {cs : List RC} {m : Mo} {ms : List Mo} (h : argOk (c :: cs) (m :: ms) = true) : arg1 c m = true ∧ argOk cs ms = true := Bool.and_eq_true_iff.mp h
def resC : RC → RC
  | .pu => .pu
  | .fr k => .fr k
  | _ => .an
section
variable {H0 H H' : Hp} {w w' : Om} {vs0 : List V} {ds0 : List D}
theorem args_len : ∀ {cs : List RC} {pm : List Mo} {ds : List D} {vs : List V}, argOk cs pm = true → ResL cl H0 H w cs ds vs → vs.length = pm.length ∧ ds.length = pm.length
  | [], [], _, _, _, .nil => ⟨rfl, rfl⟩
  | c :: cs, m :: ms, _, _, h, .cons a b => by
    obtain ⟨h1, h2⟩ := args_len (argOk_cons h).2 b
    exact ⟨congrArg (· + 1) h1, congrArg (· + 1) h2⟩
  | [], _ :: _, _, _, h, _ => nomatch h
  | _ :: _, [], _, _, h, _ => nomatch h
theorem rep_lent {d : D} {v : V} (h : Rep cl H An d v) : Rep cl H (Lf (lent w vs0 ds0)) d v := h.any fun a _ => by
  cases q : w a with
  | none => exact .inl (lent_none.mpr q)
  | some l => exact .inr (lent_some q)
theorem arg_own {c : RC} {m : Mo} {d : D} {v : V} (wf : Wf H0 w) (h : arg1 c m = true) (n : m ≠ .un) (a : Res cl H0 H w c d v) (j : Nat) (hv : vs0.getD j .non = v) (hd : ds0.getD j .non = d) : Own cl H (lent w vs0 ds0) j m d v := by
  cases m with
  | un => exact absurd rfl n
  | pu => exact (a.pu wf h).any fun x z => lent_none.mpr z
  | lo => exact rep_lent (a.an wf)
  | pn => exact ⟨⟨hv.symm, hd.symm⟩, rep_lent (a.an wf)⟩
  | sc => exact nomatch h
  | ow k => exact nomatch h
  | bo k => exact nomatch h
theorem args_at (wf : Wf H0 w) : ∀ {cs : List RC} {pm : List Mo} {ds : List D} {vs : List V}, argOk cs pm = true → ResL cl H0 H w cs ds vs → ∀ (i : Nat) m, pm[i]? = some m → m ≠ .un → ∃ v d, vs[i]? = some v ∧ ds[i]? = some d ∧ ∀ j, vs0.getD j .non = v → ds0.getD j .non = d → Own cl H (lent w vs0 ds0) j m d v
  | [], [], _, _, _, .nil, i, m, e, _ => by simp at e
  | c :: cs, m0 :: ms, _, _, h, .cons a b, 0, m, e, n => by
    have e' : m0 = m := Option.some.inj e
    subst e'
    exact ⟨_, _, rfl, rfl, fun j => arg_own wf (argOk_cons h).1 n a j⟩
  | c :: cs, m0 :: ms, _, _, h, .cons a b, i + 1, m, e, n => args_at wf (argOk_cons h).2 b i m e n
  | [], _ :: _, _, _, h, _, _, _, _, _ => nomatch h
  | _ :: _, [], _, _, h, _, _, _, _, _ => nomatch h
theorem kp_same (k : Kp H (lent w vs0 ds0) H' w') : Same H H' := fun a o e => by
  cases q : w a with
  | none => exact (k.keep.fz a o e (lent_none.mpr q)).1
  | some l => exact (k.keep.fo a o e (lent_some q)).1
theorem kp_none (wf : Wf H w) (k : Kp H (lent w vs0 ds0) H' w') {a : Addr} (h : w' a = none) : w a = none := by
  cases q : w a with
  | none => rfl
  | some l =>
    obtain ⟨o, e, _⟩ := wf a l q
    have z := (k.keep.fo a o e (lent_some q)).2
    rw [h] at z
    cases z
theorem kp_new (k : Kp H (lent w vs0 ds0) H' w') {a : Addr} {i : Nat} (h : w' a = some (.ow i)) : H a = none := by
  cases q : H a with
  | none => rfl
  | some o =>
    cases q2 : w a with
    | none =>
      have z := (k.keep.fz a o q (lent_none.mpr q2)).2
      rw [h] at z
      cases z
    | some l =>
      have z := (k.keep.fo a o q (lent_some q2)).2
      rw [h] at z
      cases z
theorem ret_res {rc : RC} {d : D} {v : V} (wf : Wf H w) (k : Kp H (lent w vs0 ds0) H' w') (h : Ret cl H' w' rc d v) : Res cl H H' w (resC rc) d v := by
  cases rc with
  | pu => exact Rep.any h fun a z => kp_none wf k z
  | lo => exact Rep.any h fun a z => trivial
  | an => exact h
  | al js => exact Ret.al_an h
  | fr s =>
    obtain ⟨i, A, nd, t⟩ := h
    have hA := fun a m => (t.ob a m).1
    exact ⟨A, nd, fun a m => kp_new k (hA a m), t.mono (fun a o e q => ⟨e, kp_none wf k q, fun m => by have z : w' a = some (.ow i) := (t.ob a m).1; rw [show w' a = none from q] at z; cases z⟩) (fun _ _ e => e) fun a m o e _ => ⟨e, trivial⟩⟩
end
def ofOut : Option Out → M D
  | some (.rt d _) => some (.ok d)
  | some (.ex c _) => some (.ex c)
  | _ => none
def ofOutN : Option Out → M D
  | some (.rt d _) => some (.ok d)
  | _ => none
def eFn (G : List D → Option Out) (fs : List (List D → M D)) : List D → M D := fun env => bd (eArgs fs env) fun ds => ofOut (G ds)
def eFnN (G : List D → Option Out) (fs : List (List D → M D)) : List D → M D := fun env => bd (eArgs fs env) fun ds => ofOutN (G ds)
section
variable {W : WX} {ms : List Mo} {c c1 c2 : RC} {te ta tb : TE} {f g : List D → M D} {pm : List Mo} {rc : RC} {G : List D → Option Out} {cs : List RC} {fs : List (List D → M D)} {tr : TA}
theorem getD_of {α : Type} {l : List α} {i : Nat} {x d : α} (h : l[i]? = some x) : l.getD i d = x := by rw [List.getD_eq_getElem?_getD, h] <;> rfl
theorem call_sp {H0 H : Hp} {w : Om} {ds : List D} {vs : List V} {o : Out} {Q : VK} {E : XK} (wf : Wf H0 w) (s : Same H0 H) (hc : argOk cs pm = true) (r : ResL cl H0 H w cs ds vs) (hG : G ds = some o)
    (q : match o with
      | .rt d _ => ∀ H' v, Same H H' → Res cl H H' w (resC rc) d v → Q v H'
      | .ex c _ => ∀ H', Same H H' → E (.ref (cl c)) none H'
      | _ => False) : spOf cl pm rc G vs H Q E := by
  have wf1 := wf.same s
  obtain ⟨l1, l2⟩ := args_len hc r
  refine ⟨lent w vs ds, ds, o, l1, l2, fun a l e => ?_, fun i m e n => ?_, hG, ?_⟩
  · obtain ⟨_, l', q⟩ := lent_fo e
    exact wf1 a l' q
  · obtain ⟨v, d, h1, h2, h3⟩ := args_at (vs0 := vs) (ds0 := ds) wf hc r i m e n
    exact ⟨v, d, h1, h2, h3 i (getD_of h1) (getD_of h2)⟩
  · cases o with
    | rt d e => exact fun H' w' v k _ rr _ => q H' v (kp_same k) (ret_res wf1 k rr)
    | ex c e => exact fun H' w' k _ _ => q H' (kp_same k)
    | nx e => exact q
    | bk e => exact q
    | ct e => exact q
theorem ofOut_ok {o : Option Out} {r : R D} (h : ofOut o = some r) : (∃ d e, o = some (.rt d e) ∧ r = .ok d) ∨ ∃ c e, o = some (.ex c e) ∧ r = .ex c := by
  cases o with
  | none => cases h
  | some o =>
    cases o with
    | rt d e => exact .inl ⟨d, e, rfl, (Option.some.inj h).symm⟩
    | ex c e => exact .inr ⟨c, e, rfl, (Option.some.inj h).symm⟩
    | _ => cases h
theorem ofOutN_ok {o : Option Out} {r : R D} (h : ofOutN o = some r) : ∃ d e, o = some (.rt d e) ∧ r = .ok d := by
  cases o with
  | none => cases h
  | some o =>
    cases o with
    | rt d e => exact ⟨d, e, rfl, (Option.some.inj h).symm⟩
    | _ => cases h
theorem se_fnN {E : XK} (hc : argOk cs pm = true) (hb : SEa cl W ms cs tr (eArgs fs)) : SE cl W ms (resC rc) (tCall (spOf cl pm rc G) [] E tr) (eFnN G fs) := fun H w σ env st r e x Q q =>
  hb.bind st e x fun ds H1 vs s1 r1 e => by
    obtain ⟨d, e', hG, rfl⟩ := ofOutN_ok e
    show spOf cl pm rc G (vs ++ []) H1 Q E
    rw [List.append_nil]
    exact call_sp st.wf s1 hc r1 hG fun H' v s rr => q d rfl H' v (s1.trans s) (rr.base s1)
def insOf (c : String) (m : Str) : D → Bool
  | .ins c' fds => decide (c' = c) && (fds.lookup m).isNone
  | _ => false
theorem insOf_at {c : String} {m : Str} {o : D} {v : V} {H : Hp} {P : Addr → Prop} (h : insOf c m o = true) (r : Rep cl H P o v) : ∃ p dx vs, v = .ref p ∧ H p = some (.ins (cl c) dx vs) ∧ vs.lookup m = none := by
  cases r with
  | @ins p c' dx vs fds h1 _ rf =>
    have h2 : (decide (c' = c) && (fds.lookup m).isNone) = true := h
    obtain ⟨h3, h4⟩ := Bool.and_eq_true_iff.mp h2
    have h5 : c' = c := of_decide_eq_true h3
    subst h5
    have h6 : fds.lookup m = none := by
      cases q : fds.lookup m with
      | none => rfl
      | some z => rw [q] at h4; exact nomatch h4
    exact ⟨p, dx, vs, rfl, h1, rf.lookup.2 h6⟩
  | _ => exact nomatch h
def eMe (c : String) (m : Str) (G : List D → Option Out) (f : List D → M D) (fs : List (List D → M D)) : List D → M D := fun env => bd (f env) fun o => if insOf c m o = true then bd (eArgs fs env) fun ds => ofOut (G (o :: ds)) else none
def eMeN (c : String) (m : Str) (G : List D → Option Out) (f : List D → M D) (fs : List (List D → M D)) : List D → M D := fun env => bd (f env) fun o => if insOf c m o = true then bd (eArgs fs env) fun ds => ofOutN (G (o :: ds)) else none
def tMethS (C : Addr) (m : Str) (sp : Sp) (E : L2.St → XK) (ta : TE) (t : TA) : TE := fun σ H Q => ta σ H fun x H1 => ∃ a dx fs, x = .ref a ∧ H1 a = some (.ins C dx fs) ∧ fs.lookup m = none ∧ t σ H1 fun vs H2 => sp (x :: vs) H2 Q (E σ)
theorem se_me {cc : String} {m : Str} (hc : argOk (c1 :: cs) pm = true) (ha : SE cl W ms c1 ta f) (hb : SEa cl W ms cs tr (eArgs fs)) : SE cl W ms (resC rc) (tMethS (cl cc) m (spOf cl pm rc G) (WE W) ta tr) (eMe cc m G f fs) := fun H w σ env st r e0 x Q q =>
  ha.bind st e0 x fun o H1 v s1 r1 e1 => by
    by_cases hi : insOf cc m o = true
    · rw [if_pos hi] at e1
      obtain ⟨p, dx, vs, hv, h1, h2⟩ := insOf_at hi (r1.an st.wf)
      refine ⟨p, dx, vs, hv, h1, h2, ?_⟩
      refine hb.bind (st.same s1) e1 (x.same s1) fun ds H2 us s2 r2 e2 => ?_
      rcases ofOut_ok e2 with ⟨d, e', hG, rfl⟩ | ⟨c, e', hG, rfl⟩
      · exact call_sp st.wf (s1.trans s2) hc (.cons (r1.same s2) (r2.base s1)) hG fun H' v s rr => q d rfl H' v ((s1.trans s2).trans s) (rr.base (s1.trans s2))
      · exact call_sp st.wf (s1.trans s2) hc (.cons (r1.same s2) (r2.base s1)) hG fun H' s => x c rfl H' ((s1.trans s2).trans s)
    · rw [if_neg hi] at e1
      exact nomatch e1
theorem se_meN {cc : String} {m : Str} {E : XK} (hc : argOk (c1 :: cs) pm = true) (ha : SE cl W ms c1 ta f) (hb : SEa cl W ms cs tr (eArgs fs)) : SE cl W ms (resC rc) (tMeth (cl cc) m (spOf cl pm rc G) [] E ta tr) (eMeN cc m G f fs) := fun H w σ env st r e0 x Q q =>
  ha.bind st e0 x fun o H1 v s1 r1 e1 => by
    by_cases hi : insOf cc m o = true
    · rw [if_pos hi] at e1
      obtain ⟨p, dx, vs, hv, h1, h2⟩ := insOf_at hi (r1.an st.wf)
      refine ⟨p, dx, vs, hv, h1, h2, ?_⟩
      refine hb.bind (st.same s1) e1 (x.same s1) fun ds H2 us s2 r2 e2 => ?_
      obtain ⟨d, e', hG, rfl⟩ := ofOutN_ok e2
      rw [List.append_nil]
      exact call_sp st.wf (s1.trans s2) hc (.cons (r1.same s2) (r2.base s1)) hG fun H' v s rr => q d rfl H' v ((s1.trans s2).trans s) (rr.base (s1.trans s2))
    · rw [if_neg hi] at e1
      exact nomatch e1
theorem fld_step {cc : String} {n : Str} {K : PySem.W.Frag} (hC : Cls K (cl cc)) (hn : NoAttr K (cl cc) n) {o z : D} {v : V} {H1 : Hp} {P : Addr → Prop} {Q : VK} (e1 : dFld cc n o = some z) (rr : Rep cl H1 P o v) (qq : ∀ u, Rep cl H1 P z u → Q u H1) :
    ∃ a C dx fs v', v = .ref a ∧ H1 a = some (.ins C dx fs) ∧ Cls K C ∧ NoAttr K C n ∧ fs.lookup n = some v' ∧ Q v' H1 := by
  cases rr with
  | @ins p c' dx vs fds h1 _ rf =>
    have e2 : (if c' = cc then fds.lookup n else none) = some z := e1
    by_cases hh : c' = cc
    · rw [if_pos hh] at e2
      subst hh
      obtain ⟨u, h2, h3⟩ := rf.lookup.1 z e2
      exact ⟨p, _, dx, vs, u, rfl, h1, hC, hn, h2, qq u h3⟩
    · rw [if_neg hh] at e2
      exact nomatch e2
  | _ => exact nomatch e1
theorem se_fld {cc : String} {n : Str} {K : PySem.W.Frag} (hC : Cls K (cl cc)) (hn : NoAttr K (cl cc) n) (ha : SE cl W ms c1 ta f) : SE cl W ms (ixC c1) (tFld K ta n) (eUn (dFld cc n) f) := fun H w σ env st r e x Q q =>
  ha.bind st e x fun o H1 v s1 r1 e => by
    obtain ⟨z, e1, rfl⟩ := lift_ok e
    cases c1 with
    | pu => exact fld_step (P := Fz w) hC hn e1 r1 fun u ru => q z rfl H1 u s1 ru
    | lo => exact fld_step (P := Lf w) hC hn e1 r1 fun u ru => q z rfl H1 u s1 ru
    | an => exact fld_step (P := An) hC hn e1 r1 fun u ru => q z rfl H1 u s1 ru
    | al js => exact fld_step (P := An) hC hn e1 r1 fun u ru => q z rfl H1 u s1 ru
    | fr k => exact fld_step (P := Fz w) hC hn e1 (FrT.pu st.wf r1) fun u ru => q z rfl H1 u s1 ru
end
end Mv

namespace Mv
open PySem L2 PySem.Spec
variable {cl : Nv}
inductive AK where
  | v (c : RC)
  | l (k : Nat) (s : Sh) (pf : List D → Option (D → D))
  | m (k : Nat) (s : Sh)
def AK.slot : AK → Option Nat
  | .v _ => none
  | .l k _ _ => some k
  | .m k _ => some k
def AK.res : AK → RC
  | .v c => c
  | _ => .an
section
variable {H H' H1 : Hp} {w w' : Om} {ms ms' mn mx : List Mo} {σ : L2.St} {env : List D} {W : WX} {m : Md} {c c1 c2 : RC} {te ta tb ti tf : TE} {f g fi : List D → M D} {K : PySem.W.Frag} {pf : List D → Option (D → D)} {pm : List Mo} {rc : RC} {G : List D → Option Out} {fs : List (List D → M D)} {tr : TA}
def PlcA (cl : Nv) (H : Hp) (w : Om) (ms : List Mo) (σ : L2.St) (env : List D) (i : Nat) (s : Sh) (d0 : D) (v0 : V) (Rf : D → D) (A0 : List Addr) : Prop :=
  ∃ mo s' l d v L R, ms[i]? = some mo ∧ (mo = Mo.ow s' ∧ l = Lb.ow i ∨ mo = Mo.bo s' ∧ l = Lb.bo i ∧ v = (w.pin i).1) ∧ σ[i]? = some (some v) ∧ env[i]? = some d ∧ (L ++ A0 ++ R).Nodup ∧ (∀ a ∈ L ++ R, w a = some l) ∧ Tr cl H (Fz w) (fun a => w a = some l) s d0 v0 A0 ∧
    ∀ {H' : Hp} {P' O' : Addr → Prop} {d1 : D} {A1 : List Addr}, (∀ a o, H a = some o → w a = none → H' a = some o ∧ P' a) → (∀ a xs, H a = some (.tup xs) → H' a = some (.tup xs)) → (∀ a ∈ L ++ R, ∀ o, H a = some o → w a = some l → H' a = some o ∧ O' a) →
      Tr cl H' P' O' s d1 v0 A1 → Tr cl H' P' O' s' (Rf d1) v (L ++ A1 ++ R)
theorem Plc.named {i : Nat} {s : Sh} {d0 : D} {v0 : V} {Rf : D → D} (h : Plc cl H w ms σ env i s d0 v0 Rf) : ∃ A0, PlcA cl H w ms σ env i s d0 v0 Rf A0 := by
  obtain ⟨mo, s', l, d, v, L, A0, R, h1, h2, h3, h4, h5, h6, h7, h8⟩ := h
  exact ⟨A0, mo, s', l, d, v, L, R, h1, h2, h3, h4, h5, h6, h7, h8⟩
def ArgA (cl : Nv) (H0 H : Hp) (w : Om) (ms : List Mo) (σ : L2.St) (env : List D) (A : List Addr) : AK → D → V → Prop
  | .v c, d, v => A = [] ∧ Res cl H0 H w c d v
  | .l k s pf, d, v => ∃ Rf, pf env = some Rf ∧ PlcA cl H w ms σ env k s d v Rf A
  | .m k s, d, v => ms[k]? = some (.ow s) ∧ A.Nodup ∧ Tr cl H (Fz w) (fun a => w a = some (.ow k)) s d v A
inductive ArgL (cl : Nv) (H0 H : Hp) (w : Om) (ms : List Mo) (σ : L2.St) (env : List D) : List AK → List D → List V → List (List Addr) → Prop
  | nil : ArgL cl H0 H w ms σ env [] [] [] []
  | cons {A k d v ks ds vs As} : ArgA cl H0 H w ms σ env A k d v → ArgL cl H0 H w ms σ env ks ds vs As → ArgL cl H0 H w ms σ env (k :: ks) (d :: ds) (v :: vs) (A :: As)
theorem PlcA.same {i : Nat} {s : Sh} {d0 : D} {v0 : V} {Rf : D → D} {A0 : List Addr} (h : PlcA cl H w ms σ env i s d0 v0 Rf A0) (sm : Same H H') : PlcA cl H' w ms σ env i s d0 v0 Rf A0 := by
  obtain ⟨mo, s', l, d, v, L, R, h1, h2, h3, h4, h5, h6, h7, h8⟩ := h
  refine ⟨mo, s', l, d, v, L, R, h1, h2, h3, h4, h5, h6, h7.mono (fun a o e q => ⟨sm _ _ e, q⟩) (fun a xs e => sm _ _ e) (fun a m o e q => ⟨sm _ _ e, q⟩), fun {H2} {P'} {O'} {d1} {A1} g t q x => h8 (fun a o e z => g a o (sm _ _ e) z) (fun a xs e => t a xs (sm _ _ e)) (fun a ma o e z => q a ma o (sm _ _ e) z) x⟩
theorem ArgA.base {H0 H1 : Hp} {A : List Addr} {k : AK} {d : D} {v : V} (s : Same H0 H1) (h : ArgA cl H1 H w ms σ env A k d v) : ArgA cl H0 H w ms σ env A k d v := by
  cases k with
  | v c => exact ⟨h.1, h.2.base s⟩
  | l k s pf => exact h
  | m k s => exact h
theorem ArgL.base {H0 H1 : Hp} (s : Same H0 H1) : ∀ {ks : List AK} {ds : List D} {vs : List V} {As : List (List Addr)}, ArgL cl H1 H w ms σ env ks ds vs As → ArgL cl H0 H w ms σ env ks ds vs As
  | _, _, _, _, .nil => .nil
  | _, _, _, _, .cons a b => .cons (a.base s) (ArgL.base s b)
theorem ArgA.same {H0 : Hp} {A : List Addr} {k : AK} {d : D} {v : V} (s : Same H H') (h : ArgA cl H0 H w ms σ env A k d v) : ArgA cl H0 H' w ms σ env A k d v := by
  cases k with
  | v c => exact ⟨h.1, h.2.same s⟩
  | l k s' pf => obtain ⟨Rf, h1, h2⟩ := h; exact ⟨Rf, h1, h2.same s⟩
  | m k s' => exact ⟨h.1, h.2.1, h.2.2.mono (fun a o e q => ⟨s _ _ e, q⟩) (fun a xs e => s _ _ e) fun a m o e q => ⟨s _ _ e, q⟩⟩
def SEL (cl : Nv) (W : WX) (ms : List Mo) (ks : List AK) (ta : TA) (f : List D → M (List D)) : Prop :=
  ∀ H w σ env, StOk cl H w ms σ env → ∀ r, f env = some r → Xc cl W σ H r → ∀ Q : List V → Hp → Prop, (∀ ds, r = .ok ds → ∀ H' vs As, Same H H' → ArgL cl H H' w ms σ env ks ds vs As → Q vs H') → ta σ H Q
theorem SEL.bind {ks : List AK} {fa : List D → M (List D)} (h : SEL cl W ms ks tr fa) (st : StOk cl H w ms σ env) {β : Type} {k : List D → M β} {r : R β} (e : bd (fa env) k = some r) (x : Xc cl W σ H r) {Q : List V → Hp → Prop}
    (q : ∀ d H' v As, Same H H' → ArgL cl H H' w ms σ env ks d v As → k d = some r → Q v H') : tr σ H Q := by
  cases e1 : fa env with
  | none => rw [e1] at e; cases e
  | some r1 =>
    rw [e1] at e
    cases r1 with
    | ex y =>
      have e' : r = .ex y := (Option.some.inj e).symm
      refine h H w σ env st _ e1 (fun z hz H' s => ?_) Q fun d hd => nomatch hd
      cases hz
      exact x y e' H' s
    | ok d =>
      refine h H w σ env st _ e1 (fun z hz => nomatch hz) Q fun d' hd H' v As s r' => ?_
      cases hd
      exact q d H' v As s r' e
theorem sel_nil : SEL cl W ms [] tNil (eArgs []) := fun H w σ env st r e x Q q => by
  cases e
  exact q [] rfl H [] [] (Same.refl H) .nil
theorem sel_v {ks : List AK} (ha : SE cl W ms c ta f) (hb : SEL cl W ms ks tr (eArgs fs)) : SEL cl W ms (.v c :: ks) (tCons ta tr) (eArgs (f :: fs)) := fun H w σ env st r e x Q q =>
  ha.bind st e x fun d1 H1 v1 s1 r1 e => hb.bind (st.same s1) e (x.same s1) fun d2 H2 v2 As s2 r2 e => by
    cases e
    exact q _ rfl H2 _ ([] :: As) (s1.trans s2) (.cons ⟨rfl, r1.same s2⟩ (r2.base s1))
theorem sel_l {k : Nat} {s : Sh} {ks : List AK} (ha : SP cl W ms k s ta f pf) (hb : SEL cl W ms ks tr (eArgs fs)) : SEL cl W ms (.l k s pf :: ks) (tCons ta tr) (eArgs (f :: fs)) := fun H w σ env st r e x Q q =>
  ha.bind st e x fun d1 H1 v1 Rf s1 hp hf pl e => hb.bind (st.same s1) e (x.same s1) fun d2 H2 v2 As s2 r2 e => by
    cases e
    obtain ⟨A0, pa⟩ := (pl.same s2 (st.wf.same s1)).named
    exact q _ rfl H2 _ (A0 :: As) (s1.trans s2) (.cons ⟨Rf, hp, pa⟩ (r2.base s1))
theorem ArgL.at {H0 : Hp} : ∀ {ks : List AK} {ds : List D} {vs : List V} {As : List (List Addr)} {i : Nat} {k : AK}, ArgL cl H0 H w ms σ env ks ds vs As → ks[i]? = some k → ∃ d v A, ds[i]? = some d ∧ vs[i]? = some v ∧ As[i]? = some A ∧ ArgA cl H0 H w ms σ env A k d v
  | [], _, _, _, _, _, .nil, e => by simp at e
  | k :: ks, _, _, _, 0, k', .cons a b, e => by
    have : k = k' := Option.some.inj e
    subst this
    exact ⟨_, _, _, rfl, rfl, rfl, a⟩
  | k :: ks, _, _, _, i + 1, k', .cons a b, e => by
    have := ArgL.at (i := i) b (by simpa using e)
    simpa using this
theorem ArgL.len {H0 : Hp} : ∀ {ks : List AK} {ds : List D} {vs : List V} {As : List (List Addr)}, ArgL cl H0 H w ms σ env ks ds vs As → ds.length = ks.length ∧ vs.length = ks.length ∧ As.length = ks.length
  | _, _, _, _, .nil => ⟨rfl, rfl, rfl⟩
  | _, _, _, _, .cons a b => let ⟨x, y, z⟩ := ArgL.len b; ⟨congrArg (· + 1) x, congrArg (· + 1) y, congrArg (· + 1) z⟩
def dis : List AK → Bool
  | [] => true
  | k :: r => (match k.slot with
    | none => true
    | some x => r.all fun y => decide (y.slot ≠ some x)) && dis r
theorem dis_eq : ∀ {ks : List AK} {i j x : Nat} {a b : AK}, dis ks = true → ks[i]? = some a → ks[j]? = some b → a.slot = some x → b.slot = some x → i = j
  | [], _, _, _, _, _, _, e, _, _, _ => by simp at e
  | k :: r, 0, 0, _, _, _, _, _, _, _, _ => rfl
  | k :: r, 0, j + 1, x, a, b, h, e1, e2, f1, f2 => by
    have : k = a := Option.some.inj e1
    subst this
    have h2 : ((match k.slot with | none => true | some x => r.all fun y => decide (y.slot ≠ some x)) && dis r) = true := h
    rw [f1, Bool.and_eq_true] at h2
    have := of_decide_eq_true (List.all_eq_true.mp h2.1 b (List.mem_of_getElem? (i := j) (by simpa using e2)))
    exact absurd f2 this
  | k :: r, i + 1, 0, x, a, b, h, e1, e2, f1, f2 => by
    have : k = b := Option.some.inj e2
    subst this
    have h2 : ((match k.slot with | none => true | some x => r.all fun y => decide (y.slot ≠ some x)) && dis r) = true := h
    rw [f2, Bool.and_eq_true] at h2
    have := of_decide_eq_true (List.all_eq_true.mp h2.1 a (List.mem_of_getElem? (i := i) (by simpa using e1)))
    exact absurd f1 this
  | k :: r, i + 1, j + 1, x, a, b, h, e1, e2, f1, f2 => by
    have h2 : ((match k.slot with | none => true | some x => r.all fun y => decide (y.slot ≠ some x)) && dis r) = true := h
    rw [Bool.and_eq_true] at h2
    exact congrArg (· + 1) (dis_eq h2.2 (by simpa using e1) (by simpa using e2) f1 f2)
def lk (ms : List Mo) (k : Nat) : Lb := match ms[k]? with
  | some (.bo _) => .bo k
  | _ => .ow k
theorem lk_inj {ms : List Mo} {k k' : Nat} (h : lk ms k = lk ms k') : k = k' := by
  unfold lk at h
  split at h <;> split at h <;> first | (injection h) | cases h
theorem lk_fo {ms : List Mo} {k : Nat} : lk ms k ≠ .fo := by
  unfold lk
  split <;> (intro z; cases z)
theorem ArgA.lb {H0 : Hp} {A : List Addr} {k : AK} {d : D} {v : V} {x : Nat} (h : ArgA cl H0 H w ms σ env A k d v) (hx : k.slot = some x) : ∀ a ∈ A, w a = some (lk ms x) := by
  cases k with
  | v c => cases hx
  | l k s pf =>
    cases hx
    obtain ⟨Rf, _, mo, s', l, d, v, L, R, h1, h2, h3, h4, h5, h6, h7, h8⟩ := h
    intro a m
    have := (h7.ob a m).1
    unfold lk
    rcases h2 with ⟨rfl, rfl⟩ | ⟨rfl, rfl, _⟩ <;> (rw [h1]; exact this)
  | m k s =>
    cases hx
    intro a m
    unfold lk
    rw [h.1]
    exact (h.2.2.ob a m).1
def lab1 (ks : List AK) (i : Nat) : Option Lb := match ks[i]? with
  | some (.l _ _ _) => some (.bo i)
  | some (.m _ _) => some (.ow i)
  | _ => none
def wcL (w : Om) (ks : List AK) (As : List (List Addr)) (vs : List V) (ds : List D) : Om := ⟨fun a => match As.findIdx? (fun A => decide (a ∈ A)) with
  | some i => lab1 ks i
  | none => lentL (w a), fun j => (vs.getD j .non, ds.getD j .non)⟩
structure WcF (cl : Nv) (w : Om) (ms : List Mo) (ks : List AK) (As : List (List Addr)) (wc : Om) : Prop where
  inn : ∀ (i : Nat) (k : AK) (A : List Addr) (a : Addr), ks[i]? = some k → As[i]? = some A → a ∈ A → wc a = lab1 ks i ∧ ∃ x, k.slot = some x ∧ w a = some (lk ms x)
  out : ∀ (a : Addr), (∀ (i : Nat) (A : List Addr), As[i]? = some A → a ∉ A) → wc a = lentL (w a)
  cas : ∀ (a : Addr), (∀ (i : Nat) (A : List Addr), As[i]? = some A → a ∉ A) ∨ ∃ (i : Nat) (k : AK) (A : List Addr), ks[i]? = some k ∧ As[i]? = some A ∧ a ∈ A
theorem wcF {H0 : Hp} {ks : List AK} {ds : List D} {vs : List V} {As : List (List Addr)} (h : ArgL cl H0 H w ms σ env ks ds vs As) (hd : dis ks = true) : WcF cl w ms ks As (wcL w ks As vs ds) := by
  have slot : ∀ (i : Nat) (k : AK) (A : List Addr) (a : Addr), ks[i]? = some k → As[i]? = some A → a ∈ A → ∃ x, k.slot = some x ∧ w a = some (lk ms x) := fun i k A a e1 e2 m => by
    obtain ⟨d, v, A', h1, h2, h3, h4⟩ := h.at e1
    rw [e2] at h3
    cases h3
    cases hs : k.slot with
    | none =>
      cases k with
      | v c => rw [h4.1] at m; cases m
      | l k s pf => cases hs
      | m k s => cases hs
    | some x => exact ⟨x, rfl, h4.lb hs a m⟩
  have hlen := h.len.2.2
  have cas : ∀ (a : Addr), (∀ (i : Nat) (A : List Addr), As[i]? = some A → a ∉ A) ∨ ∃ (i : Nat) (k : AK) (A : List Addr), ks[i]? = some k ∧ As[i]? = some A ∧ a ∈ A := fun a => by
    by_cases q : ∃ (i : Nat) (A : List Addr), As[i]? = some A ∧ a ∈ A
    · obtain ⟨i, A, e, m⟩ := q
      have hi : i < ks.length := by rw [← hlen]; exact (List.getElem?_eq_some_iff.mp e).1
      exact .inr ⟨i, ks[i], A, List.getElem?_eq_getElem hi, e, m⟩
    · exact .inl fun i A e m => q ⟨i, A, e, m⟩
  refine ⟨fun i k A a e1 e2 m => ⟨?_, slot i k A a e1 e2 m⟩, fun a hno => ?_, cas⟩
  · show (match As.findIdx? (fun A => decide (a ∈ A)) with | some i => lab1 ks i | none => lentL (w a)) = _
    cases hf : As.findIdx? (fun A => decide (a ∈ A)) with
    | none =>
      rw [List.findIdx?_eq_none_iff] at hf
      have := hf A (List.mem_of_getElem? e2)
      simp at this
      exact absurd m this
    | some j =>
      rw [List.findIdx?_eq_some_iff_getElem] at hf
      obtain ⟨hj, hm, _⟩ := hf
      have hj2 : j < ks.length := by rw [← hlen]; exact hj
      have m2 : a ∈ As[j] := of_decide_eq_true hm
      obtain ⟨x, f1, f2⟩ := slot i k A a e1 e2 m
      obtain ⟨y, f3, f4⟩ := slot j ks[j] As[j] a (List.getElem?_eq_getElem hj2) (List.getElem?_eq_getElem hj) m2
      rw [f2] at f4
      have : x = y := lk_inj (Option.some.inj f4)
      subst this
      have := dis_eq hd e1 (List.getElem?_eq_getElem hj2) f1 f3
      subst this
      rfl
  · show (match As.findIdx? (fun A => decide (a ∈ A)) with | some i => lab1 ks i | none => lentL (w a)) = _
    cases hf : As.findIdx? (fun A => decide (a ∈ A)) with
    | none => rfl
    | some j =>
      rw [List.findIdx?_eq_some_iff_getElem] at hf
      obtain ⟨hj, hm, _⟩ := hf
      exact absurd (of_decide_eq_true hm) (hno j As[j] (List.getElem?_eq_getElem hj))
def arg1L : RC → Mo → Bool
  | c, .pu => toPu c
  | c, .lo => toLo c
  | c, .pn => toLo c
  | _, .un => true
  | _, _ => false
def akOk : AK → Mo → Bool
  | .v c, m => arg1L c m
  | .l _ s _, .bo s' => decide (s = s')
  | .m _ s, .ow s' => decide (s = s')
  | _, _ => false
def aksOk : List AK → List Mo → Bool
  | [], [] => true
  | k :: ks, m :: ms => akOk k m && aksOk ks ms
  | _, _ => false
theorem aksOk_at : ∀ {ks : List AK} {pm : List Mo} {i : Nat} {k : AK}, aksOk ks pm = true → ks[i]? = some k → ∃ m, pm[i]? = some m ∧ akOk k m = true
  | [], [], _, _, _, e => by simp at e
  | k :: ks, m :: ms, 0, k', h, e => by
    have h2 : (akOk k m && aksOk ks ms) = true := h
    rw [Bool.and_eq_true] at h2
    have : k = k' := Option.some.inj e
    subst this
    exact ⟨m, rfl, h2.1⟩
  | k :: ks, m :: ms, i + 1, k', h, e => by
    have h2 : (akOk k m && aksOk ks ms) = true := h
    rw [Bool.and_eq_true] at h2
    simpa using aksOk_at (i := i) h2.2 (by simpa using e)
  | [], _ :: _, _, _, h, _ => by simp [aksOk] at h
  | _ :: _, [], _, _, h, _ => by simp [aksOk] at h
theorem aksOk_len : ∀ {ks : List AK} {pm : List Mo}, aksOk ks pm = true → ks.length = pm.length
  | [], [], _ => rfl
  | k :: ks, m :: ms, h => by
    have h2 : (akOk k m && aksOk ks ms) = true := h
    rw [Bool.and_eq_true] at h2
    exact congrArg (· + 1) (aksOk_len h2.2)
  | [], _ :: _, h => by simp [aksOk] at h
  | _ :: _, [], h => by simp [aksOk] at h
def updL : List (Option (Nat × (List D → Option (D → D)))) → Nat → List D → List D → List D → Option (List D)
  | [], _, _, _, e' => some e'
  | none :: ks, j, e, env, e' => updL ks (j + 1) e env e'
  | some (k, pf) :: ks, j, e, env, e' => match pf env, e[j]? with
    | some R, some d => updL ks (j + 1) e env (e'.set k (R d))
    | _, _ => none
def AK.ld : AK → Option (Nat × (List D → Option (D → D)))
  | .l k _ pf => some (k, pf)
  | _ => none
def mvd : List AK → List Mo → List Mo
  | [], ms => ms
  | .m k _ :: r, ms => mvd r (ms.set k .un)
  | _ :: r, ms => mvd r ms
theorem mvd_len : ∀ {ks : List AK} {ms : List Mo}, (mvd ks ms).length = ms.length
  | [], _ => rfl
  | .m k s :: r, ms => by rw [show mvd (.m k s :: r) ms = mvd r (ms.set k .un) from rfl, mvd_len]; simp
  | .v _ :: r, ms => mvd_len (ks := r)
  | .l _ _ _ :: r, ms => mvd_len (ks := r)
theorem mvd_get : ∀ {ks : List AK} {ms : List Mo} {x : Nat} {m : Mo}, (mvd ks ms)[x]? = some m → m ≠ .un → ms[x]? = some m ∧ ∀ (i k : Nat) (s : Sh), ks[i]? = some (AK.m k s) → k ≠ x
  | [], _, _, _, e, _ => ⟨e, fun i k s h => by simp at h⟩
  | .m k s :: r, ms, x, m, e, n => by
    obtain ⟨h1, h2⟩ := mvd_get (ks := r) (show (mvd r (ms.set k .un))[x]? = some m from e) n
    have hk : k ≠ x := fun z => by subst z; exact n (Unl.set m h1)
    rw [List.getElem?_set_ne hk] at h1
    refine ⟨h1, fun i k' s' h => ?_⟩
    cases i with
    | zero => cases h; exact hk
    | succ i => exact h2 i k' s' (by simpa using h)
  | .v c :: r, ms, x, m, e, n => by
    obtain ⟨h1, h2⟩ := mvd_get (ks := r) (show (mvd r ms)[x]? = some m from e) n
    exact ⟨h1, fun i k' s' h => by cases i with | zero => cases h | succ i => exact h2 i k' s' (by simpa using h)⟩
  | .l k s pf :: r, ms, x, m, e, n => by
    obtain ⟨h1, h2⟩ := mvd_get (ks := r) (show (mvd r ms)[x]? = some m from e) n
    exact ⟨h1, fun i k' s' h => by cases i with | zero => cases h | succ i => exact h2 i k' s' (by simpa using h)⟩
theorem updL_get : ∀ {ks : List AK} {j : Nat} {e env e0 e' : List D}, dis ks = true → updL (ks.map AK.ld) j e env e0 = some e' → e'.length = e0.length ∧ (∀ (x : Nat), (∀ (i : Nat) (k : AK), ks[i]? = some k → k.ld.isSome = true → k.slot ≠ some x) → e'[x]? = e0[x]?) ∧
    ∀ (i k : Nat) (s : Sh) (pf : List D → Option (D → D)), ks[i]? = some (AK.l k s pf) → ∃ (R : D → D) (d : D), pf env = some R ∧ e[j + i]? = some d ∧ (k < e0.length → e'[k]? = some (R d))
  | [], _, _, _, _, _, _, h => by
    cases h
    exact ⟨rfl, fun x _ => rfl, fun i k s pf h => by simp at h⟩
  | .v c :: r, j, e, env, e0, e', hd, h => by
    have hd2 : dis r = true := by simpa [dis, AK.slot] using hd
    obtain ⟨h1, h2, h3⟩ := updL_get (ks := r) (j := j + 1) hd2 (show updL (r.map AK.ld) (j + 1) e env e0 = some e' from h)
    refine ⟨h1, fun x hx => h2 x fun i k hk => hx (i + 1) k (by simpa using hk), fun i k s pf hk => ?_⟩
    cases i with
    | zero => cases hk
    | succ i =>
      have := h3 i k s pf (by simpa using hk)
      rw [show j + 1 + i = j + (i + 1) by omega] at this
      exact this
  | .m q s :: r, j, e, env, e0, e', hd, h => by
    have hd2 : dis r = true := by
      have : ((r.all fun y => decide (y.slot ≠ some q)) && dis r) = true := hd
      rw [Bool.and_eq_true] at this
      exact this.2
    obtain ⟨h1, h2, h3⟩ := updL_get (ks := r) (j := j + 1) hd2 (show updL (r.map AK.ld) (j + 1) e env e0 = some e' from h)
    refine ⟨h1, fun x hx => h2 x fun i k hk => hx (i + 1) k (by simpa using hk), fun i k s pf hk => ?_⟩
    cases i with
    | zero => cases hk
    | succ i =>
      have := h3 i k s pf (by simpa using hk)
      rw [show j + 1 + i = j + (i + 1) by omega] at this
      exact this
  | .l q s pf :: r, j, e, env, e0, e', hd, h => by
    have hd3 : ((r.all fun y => decide (y.slot ≠ some q)) && dis r) = true := hd
    rw [Bool.and_eq_true] at hd3
    have h' : (match pf env, e[j]? with
      | some R, some d => updL (r.map AK.ld) (j + 1) e env (e0.set q (R d))
      | _, _ => none) = some e' := h
    split at h'
    · rename_i R d hR hd0
      obtain ⟨h1, h2, h3⟩ := updL_get (ks := r) (j := j + 1) hd3.2 h'
      refine ⟨by rw [h1]; simp, fun x hx => ?_, fun i k s' pf' hk => ?_⟩
      · rw [h2 x fun i k hk => hx (i + 1) k (by simpa using hk), List.getElem?_set_ne]
        intro z
        exact hx 0 _ rfl rfl (by rw [← z]; rfl)
      · cases i with
        | zero =>
          cases hk
          refine ⟨R, d, hR, hd0, fun hl => ?_⟩
          rw [h2 q fun i k hk _ => of_decide_eq_true (List.all_eq_true.mp hd3.1 k (List.mem_of_getElem? hk)), List.getElem?_set_self hl]
        | succ i =>
          obtain ⟨R', d', f1, f2, f3⟩ := h3 i k s' pf' (by simpa using hk)
          rw [show j + 1 + i = j + (i + 1) by omega] at f2
          exact ⟨R', d', f1, f2, fun hl => f3 (by simpa using hl)⟩
    · cases h'
def backL (ms : List Mo) (ks : List AK) (w w' : Om) : Om := ⟨fun a => match w' a with
  | some (.bo i) => match ks[i]? with
    | some (.l k _ _) => some (lk ms k)
    | _ => some .fo
  | some (.ow _) => some (.ow ms.length)
  | some .fo => w a
  | none => none, w.pin⟩
theorem call_back {H0 : Hp} {ks : List AK} {ds : List D} {vs : List V} {As : List (List Addr)} {wc : Om} {e env' : List D} (st : StOk cl H w ms σ env) (ar : ArgL cl H0 H w ms σ env ks ds vs As) (hd : dis ks = true) (hk : aksOk ks pm = true) (F : WcF cl w ms ks As wc) (hpin : wc.pin = fun j => (vs.getD j .non, ds.getD j .non))
    (kp : Kp H wc H' w') (wf' : Wf H' w') (bo : BoOk cl H' w' pm vs e) (hu : updL (ks.map AK.ld) 0 e env env = some env') : StOk cl H' (backL ms ks w w') (mvd ks ms) σ env' ∧ Kp H w H' (backL ms ks w w') ∧ (∀ a, w' a = none → backL ms ks w w' a = none) ∧ (∀ a i, w' a = some (.ow i) → backL ms ks w w' a = some (.ow ms.length)) := by
  generalize hw2 : backL ms ks w w' = w2
  have nz : ∀ a, w' a = none → w2 a = none := fun a q => by
    subst hw2
    show (match w' a with | some (.bo i) => _ | some (.ow _) => _ | some .fo => _ | none => _) = none
    rw [q]
  have no : ∀ a i, w' a = some (.ow i) → w2 a = some (.ow ms.length) := fun a i q => by
    subst hw2
    show (match w' a with | some (.bo i) => _ | some (.ow _) => _ | some .fo => _ | none => _) = _
    rw [q]
  have nf : ∀ a, w' a = some .fo → w2 a = w a := fun a q => by
    subst hw2
    show (match w' a with | some (.bo i) => _ | some (.ow _) => _ | some .fo => _ | none => _) = _
    rw [q]
  have nb : ∀ a i k s pf, w' a = some (.bo i) → ks[i]? = some (.l k s pf) → w2 a = some (lk ms k) := fun a i k s pf q e => by
    subst hw2
    show (match w' a with | some (.bo i) => (match ks[i]? with | some (.l k _ _) => some (lk ms k) | _ => some .fo) | some (.ow _) => _ | some .fo => _ | none => _) = _
    rw [q]
    simp only [e]
  have pin2 : w2.pin = w.pin := by subst hw2; rfl
  -- what the callee's labels say of ours
  have cn : ∀ a, w a = none → wc a = none := fun a q => by
    rcases F.cas a with h | ⟨i, k, A, h1, h2, h3⟩
    · rw [F.out a h, q]; rfl
    · obtain ⟨_, x, _, h4⟩ := F.inn i k A a h1 h2 h3
      rw [q] at h4; cases h4
  have cf : ∀ (a : Addr) (l : Lb), w a = some l → (∀ (i : Nat) (k : AK), ks[i]? = some k → ∀ (x : Nat), k.slot = some x → l ≠ lk ms x) → wc a = some .fo := fun a l q hl => by
    rcases F.cas a with h | ⟨i, k, A, h1, h2, h3⟩
    · rw [F.out a h, q]; rfl
    · obtain ⟨_, x, hx, h4⟩ := F.inn i k A a h1 h2 h3
      rw [q] at h4
      cases h4
      exact absurd rfl (hl i k h1 x hx)
  have cfo : ∀ a, w a = some .fo → wc a = some .fo := fun a q => cf a _ q fun i k _ x _ z => lk_fo z.symm
  have fzH : ∀ a o, H a = some o → w a = none → H' a = some o ∧ w2 a = none := fun a o e q => by
    obtain ⟨z1, z2⟩ := kp.keep.fz a o e (cn a q)
    exact ⟨z1, nz a z2⟩
  have foH : ∀ a o, H a = some o → wc a = some .fo → H' a = some o ∧ w2 a = w a := fun a o e q => by
    obtain ⟨z1, z2⟩ := kp.keep.fo a o e q
    exact ⟨z1, nf a z2⟩
  have tupH : ∀ a xs, H a = some (.tup xs) → H' a = some (.tup xs) := fun a xs e => (fzH a _ e (st.wf.tup e)).1
  have keep : Keep H w H' w2 := ⟨fzH, fun a o e q => by
    obtain ⟨z1, z2⟩ := foH a o e (cfo a q)
    exact ⟨z1, z2.trans q⟩, pin2⟩
  have boOf : ∀ a i, wc a = some (.bo i) → ∃ k s pf A, ks[i]? = some (.l k s pf) ∧ As[i]? = some A ∧ a ∈ A ∧ w a = some (lk ms k) := fun a i q => by
    rcases F.cas a with h | ⟨j, k, A, h1, h2, h3⟩
    · rw [F.out a h] at q
      cases hq : w a with
      | none => rw [hq] at q; cases q
      | some l => rw [hq] at q; cases q
    · obtain ⟨h4, x, hx, h5⟩ := F.inn j k A a h1 h2 h3
      rw [h4] at q
      unfold lab1 at q
      rw [h1] at q
      cases k with
      | v c => cases q
      | l k s pf => cases q; have hx' : k = x := Option.some.inj hx; subst hx'; exact ⟨k, s, pf, A, h1, h2, h3, h5⟩
      | m k s => cases q
  obtain ⟨ul1, ul2, ul3⟩ := updL_get hd hu
  refine ⟨⟨fun a l e => ?_, by rw [mvd_len]; exact st.ls, by rw [ul1, mvd_len]; exact st.le, fun x m ex nx => ?_⟩, ⟨keep, fun a x q => ?_, fun a x q => ?_⟩, nz, no⟩
  · cases q : w' a with
    | none => rw [nz a q] at e; cases e
    | some l' => exact wf' a l' q
  · obtain ⟨ex1, ex2⟩ := mvd_get ex nx
    by_cases hs : ∃ (i : Nat) (k : AK), ks[i]? = some k ∧ k.slot = some x
    · obtain ⟨i, k, hki, hkx⟩ := hs
      cases k with
      | v c => cases hkx
      | m k s =>
        have hx' : k = x := Option.some.inj hkx
        exact absurd hx' (ex2 i k s hki)
      | l k s pf =>
        have hx' : k = x := Option.some.inj hkx
        subst hx'
        obtain ⟨d0, v0, A0, a1, a2, a3, Rf, hR, mo, s', l, d, v, L, R, h1, h2, h3, h4, h5, h6, h7, h8⟩ := ar.at hki
        rw [h1] at ex1
        cases ex1
        obtain ⟨mp, hmp, hak⟩ := aksOk_at hk hki
        have hmp2 : mp = .bo s := by
          cases mp with
          | bo s2 => have : s = s2 := of_decide_eq_true hak; rw [this]
          | _ => cases hak
        subst hmp2
        obtain ⟨d1, he1, hv1, A1, nd1, t1⟩ := bo i s v0 hmp a2
        obtain ⟨R2, d2, f1, f2, f3⟩ := ul3 i k s pf hki
        rw [hR] at f1
        cases f1
        rw [Nat.zero_add, he1] at f2
        cases f2
        have hlk : lk ms k = l := by
          unfold lk
          rcases h2 with ⟨rfl, rfl⟩ | ⟨rfl, rfl, _⟩ <;> (rw [h1])
        have hlt : k < env.length := (List.getElem?_eq_some_iff.mp h4).1
        -- the rest of the slot's thing is untouched
        have rest : ∀ a ∈ L ++ R, wc a = some .fo := fun a ma => by
          rcases F.cas a with h | ⟨j, k2, A2, g1, g2, g3⟩
          · rw [F.out a h, h6 a ma]; rfl
          · obtain ⟨_, y, hy, g5⟩ := F.inn j k2 A2 a g1 g2 g3
            rw [h6 a ma, ← hlk] at g5
            have : k = y := lk_inj (Option.some.inj g5)
            subst this
            have : j = i := dis_eq hd g1 hki hy rfl
            subst this
            rw [a3] at g2
            cases g2
            exfalso
            rw [List.append_assoc, List.nodup_append] at h5
            rcases List.mem_append.mp ma with ma | ma
            · exact h5.2.2 a ma a (List.mem_append_left _ g3) rfl
            · exact (List.nodup_append.mp h5.2.1).2.2 a g3 a ma rfl
        have t2 : Tr cl H' (Fz w2) (fun a => w2 a = some l) s d1 v0 A1 := t1.mono (fun a o e q => ⟨e, nz a q⟩) (fun _ _ e => e) fun a m o e q => ⟨e, by rw [← hlk]; exact nb a i k s pf q hki⟩
        have t3 := h8 (H' := H') (P' := Fz w2) (O' := fun a => w2 a = some l) fzH tupH (fun a ma o e q => by
          obtain ⟨z1, z2⟩ := foH a o e (rest a ma)
          exact ⟨z1, z2.trans q⟩) t2
        have nd3 : (L ++ A1 ++ R).Nodup := by
          have low : ∀ a ∈ L ++ R, a ∉ A1 := fun a ma m1 => by
            have q : w' a = some (.bo i) := (t1.ob a m1).1
            have ob : ∃ o, H a = some o ∧ isTup o = false := st.wf a l (h6 a ma)
            obtain ⟨o, e, _⟩ := ob
            have := (kp.keep.fo a o e (rest a ma)).2
            rw [q] at this
            cases this
          rw [List.append_assoc, List.nodup_append] at h5 ⊢
          obtain ⟨q1, q2, q3⟩ := h5
          obtain ⟨q4, q5, q6⟩ := List.nodup_append.mp q2
          refine ⟨q1, List.nodup_append.mpr ⟨nd1, q5, fun a m b m2 z => ?_⟩, fun a m b m2 z => ?_⟩
          · subst z; exact low a (List.mem_append_right _ m2) m
          · subst z
            rcases List.mem_append.mp m2 with m2 | m2
            · exact low a (List.mem_append_left _ m) m2
            · exact q3 a m a (List.mem_append_right _ m2) rfl
        refine ⟨v, Rf d1, h3, f3 hlt, ?_⟩
        rcases h2 with ⟨rfl, rfl⟩ | ⟨rfl, rfl, h9⟩
        · exact ⟨_, nd3, t3⟩
        · exact ⟨by rw [pin2]; exact h9, _, nd3, t3⟩
    · have hs2 : ∀ (i : Nat) (k : AK), ks[i]? = some k → k.slot ≠ some x := fun i k h1 h2 => hs ⟨i, k, h1, h2⟩
      obtain ⟨v, d, b1, b2, b3⟩ := st.sl x m ex1 nx
      refine ⟨v, d, b1, by rw [ul2 x fun i k h1 _ => hs2 i k h1]; exact b2, b3.keep keep st.wf fun a o q e => ?_⟩
      have hl : ∀ l, w a = some l → (l = .ow x ∨ l = .bo x) → wc a = some .fo := fun l ql hl => cf a l ql fun i k h1 y hy z => by
        have : x = y := by
          unfold lk at z
          rcases hl with rfl | rfl <;> (split at z <;> first | (injection z) | cases z)
        subst this
        exact hs2 i k h1 hy
      rcases q with q | q
      · exact foH a o e (hl _ q (.inl rfl))
      · exact foH a o e (hl _ q (.inr rfl))
  · rcases F.cas a with h | ⟨i, k, A, h1, h2, h3⟩
    · have : wc a = some .fo := by rw [F.out a h, q]; rfl
      obtain ⟨o, e, _⟩ := st.wf a _ q
      rw [(foH a o e this).2]
      exact q
    · obtain ⟨h4, y, hy, h5⟩ := F.inn i k A a h1 h2 h3
      cases k with
      | v c => cases hy
      | l k s pf =>
        have hx' : k = y := Option.some.inj hy
        subst hx'
        have : wc a = some (.bo i) := by rw [h4]; unfold lab1; rw [h1]
        rw [nb a i k s pf (kp.bo1 a i this) h1, ← h5]
        exact q
      | m k s =>
        cases hy
        obtain ⟨d0, v0, A0, a1, a2, a3, a4⟩ := ar.at h1
        rw [a3] at h2
        cases h2
        have z : w a = some (.ow y) := (a4.2.2.ob a h3).1
        rw [q] at z
        cases z
  · cases q2 : w' a with
    | none => rw [nz a q2] at q; cases q
    | some l =>
      cases l with
      | fo => rw [nf a q2] at q; exact ⟨a, q⟩
      | ow n => rw [no a n q2] at q; cases q
      | bo i =>
        obtain ⟨b, hb⟩ := kp.bo2 a i q2
        obtain ⟨k, s, pf, A, h1, h2, h3, h4⟩ := boOf b i hb
        rw [nb a i k s pf q2 h1] at q
        exact ⟨b, h4.trans q⟩
theorem call_spL {H0 : Hp} {ks : List AK} {ds : List D} {vs : List V} {As : List (List Addr)} {o : Out} {Q : VK} {E : XK} (st : StOk cl H w ms σ env) (ar : ArgL cl H0 H w ms σ env ks ds vs As) (wf0 : Wf H0 w) (hd : dis ks = true) (hk : aksOk ks pm = true) (hG : G ds = some o)
    (q : match o with
      | .rt d e => ∃ env', updL (ks.map AK.ld) 0 e env env = some env' ∧ ∀ H' w' v, StOk cl H' w' (mvd ks ms) σ env' → Kp H w H' w' → ResE cl H' w' (mvd ks ms) (resC rc) d v → Q v H'
      | .ex c e => ∃ env', updL (ks.map AK.ld) 0 e env env = some env' ∧ ∀ H' w', StOk cl H' w' (mvd ks ms) σ env' → Kp H w H' w' → E (.ref (cl c)) none H'
      | _ => False) : spOf cl pm rc G vs H Q E := by
  have F := wcF ar hd
  obtain ⟨l1, l2, l3⟩ := ar.len
  have lp := aksOk_len hk
  have cn : ∀ a, w a = none → wcL w ks As vs ds a = none := fun a q => by
    rcases F.cas a with h | ⟨i, k, A, h1, h2, h3⟩
    · rw [F.out a h, q]; rfl
    · obtain ⟨_, x, _, h4⟩ := F.inn i k A a h1 h2 h3
      rw [q] at h4; cases h4
  have cfo : ∀ a, w a = some .fo → wcL w ks As vs ds a = some .fo := fun a q => by
    rcases F.cas a with h | ⟨i, k, A, h1, h2, h3⟩
    · rw [F.out a h, q]; rfl
    · obtain ⟨_, x, _, h4⟩ := F.inn i k A a h1 h2 h3
      rw [q] at h4
      exact absurd (Option.some.inj h4).symm lk_fo
  refine ⟨wcL w ks As vs ds, ds, o, l2.trans lp, l1.trans lp, fun a l e => ?_, fun i m e n => ?_, hG, ?_⟩
  · cases hq : w a with
    | none => rw [cn a hq] at e; cases e
    | some l' => exact st.wf a l' hq
  · have hi : i < ks.length := by rw [lp]; exact (List.getElem?_eq_some_iff.mp e).1
    have hki : ks[i]? = some ks[i] := List.getElem?_eq_getElem hi
    generalize ks[i] = k at hki
    obtain ⟨d, v, A, a1, a2, a3, a4⟩ := ar.at hki
    obtain ⟨mp, hmp, hak⟩ := aksOk_at hk hki
    rw [e] at hmp
    cases hmp
    refine ⟨v, d, a2, a1, ?_⟩
    have pv : ((wcL w ks As vs ds).pin i) = (v, d) := by
      show (vs.getD i .non, ds.getD i .non) = _
      rw [getD_of a2, getD_of a1]
    cases k with
    | v c =>
      have a5 := a4.2
      cases m with
      | un => trivial
      | pu => exact (a5.pu wf0 hak).any cn
      | lo => exact (a5.lo wf0 hak).any fun a q => q.elim (fun q => .inl (cn a q)) fun q => .inr (cfo a q)
      | pn => exact ⟨by rw [pv]; exact ⟨rfl, rfl⟩, (a5.lo wf0 hak).any fun a q => q.elim (fun q => .inl (cn a q)) fun q => .inr (cfo a q)⟩
      | _ => cases hak
    | l k s pf =>
      cases m with
      | bo s2 =>
        have : s = s2 := of_decide_eq_true hak
        subst this
        obtain ⟨Rf, hR, mo, s', l, d', v', L, R, h1, h2, h3, h4, h5, h6, h7, h8⟩ := a4
        refine ⟨by rw [pv], A, ?_, h7.mono (fun a o e q => ⟨e, cn a q⟩) (fun _ _ e => e) fun a m o e q => ⟨e, ?_⟩⟩
        · rw [List.append_assoc, List.nodup_append] at h5
          exact (List.nodup_append.mp h5.2.1).1
        · rw [(F.inn i _ A a hki a3 m).1]
          unfold lab1
          rw [hki]
      | _ => cases hak
    | m k s =>
      cases m with
      | ow s2 =>
        have : s = s2 := of_decide_eq_true hak
        subst this
        refine ⟨A, a4.2.1, a4.2.2.mono (fun a o e q => ⟨e, cn a q⟩) (fun _ _ e => e) fun a m o e q => ⟨e, ?_⟩⟩
        rw [(F.inn i _ A a hki a3 m).1]
        unfold lab1
        rw [hki]
      | _ => cases hak
  · cases o with
    | rt d e =>
      obtain ⟨env', hu, q⟩ := q
      intro H' w' v kp wf' r bo
      obtain ⟨s1, k1, nz, no⟩ := call_back st ar hd hk F rfl kp wf' bo hu
      refine q H' _ v s1 k1 ?_
      cases rc with
      | pu => exact Rep.any r nz
      | lo => exact Rep.any r fun _ _ => trivial
      | an => exact r
      | al js => exact Ret.al_an r
      | fr s =>
        obtain ⟨i, A, nd, t⟩ := r
        exact ⟨ms.length, fun m hm => by rw [← mvd_len (ks := ks)] at hm; simp at hm, A, nd, t.mono (fun a o e q => ⟨e, nz a q⟩) (fun _ _ e => e) fun a m o e q => ⟨e, no a i q⟩⟩
    | ex c e =>
      obtain ⟨env', hu, q⟩ := q
      intro H' w' kp wf' bo
      obtain ⟨s1, k1, nz, no⟩ := call_back st ar hd hk F rfl kp wf' bo hu
      exact q H' _ s1 k1
    | nx e => exact q
    | bk e => exact q
    | ct e => exact q
end
end Mv

namespace Mv
open PySem L2 PySem.Spec
variable {cl : Nv}
section
variable {H H' H1 : Hp} {w w' : Om} {ms ms' mn mx : List Mo} {σ : L2.St} {env : List D} {W : WX} {m : Md} {c c1 c2 : RC} {te ta tb ti tf : TE} {f g fi : List D → M D} {K : PySem.W.Frag} {pf : List D → Option (D → D)} {pm : List Mo} {rc : RC} {G : List D → Option Out} {fs : List (List D → M D)} {tr : TA} {ks : List AK} {cs : List RC}
abbrev Lds := List (Option (Nat × (List D → Option (D → D))))
def behL (ls : Lds) (env : List D) : Option Out → RE
  | some (.rt d e) => (updL ls 0 e env env).map fun e' => (.ok d, e')
  | some (.ex c e) => (updL ls 0 e env env).map fun e' => (.ex c, e')
  | _ => none
def behLN (ls : Lds) (env : List D) : Option Out → RE
  | some (.rt d e) => (updL ls 0 e env env).map fun e' => (.ok d, e')
  | _ => none
def eCallL (G : List D → Option Out) (fs : List (List D → M D)) (ls : Lds) : List D → RE := fun env => match eArgs fs env with
  | some (.ok ds) => behL ls env (G ds)
  | some (.ex c) => some (.ex c, env)
  | none => none
def eCallLN (G : List D → Option Out) (fs : List (List D → M D)) (ls : Lds) : List D → RE := fun env => match eArgs fs env with
  | some (.ok ds) => behLN ls env (G ds)
  | some (.ex c) => some (.ex c, env)
  | none => none
theorem behL_ok {ls : Lds} {o : Option Out} {r : R D} {e : List D} (h : behL ls env o = some (r, e)) : (∃ d e1, o = some (.rt d e1) ∧ updL ls 0 e1 env env = some e ∧ r = .ok d) ∨ ∃ c e1, o = some (.ex c e1) ∧ updL ls 0 e1 env env = some e ∧ r = .ex c := by
  cases o with
  | none => cases h
  | some o =>
    cases o with
    | rt d e1 =>
      obtain ⟨e', h1, h2⟩ := Option.map_eq_some_iff.mp (show (updL ls 0 e1 env env).map (fun e' => (R.ok d, e')) = some (r, e) from h)
      cases h2
      exact .inl ⟨d, e1, rfl, h1, rfl⟩
    | ex c e1 =>
      obtain ⟨e', h1, h2⟩ := Option.map_eq_some_iff.mp (show (updL ls 0 e1 env env).map (fun e' => (R.ex c, e')) = some (r, e) from h)
      cases h2
      exact .inr ⟨c, e1, rfl, h1, rfl⟩
    | _ => cases h
theorem behLN_ok {ls : Lds} {o : Option Out} {r : R D} {e : List D} (h : behLN ls env o = some (r, e)) : ∃ d e1, o = some (.rt d e1) ∧ updL ls 0 e1 env env = some e ∧ r = .ok d := by
  cases o with
  | none => cases h
  | some o =>
    cases o with
    | rt d e1 =>
      obtain ⟨e', h1, h2⟩ := Option.map_eq_some_iff.mp (show (updL ls 0 e1 env env).map (fun e' => (R.ok d, e')) = some (r, e) from h)
      cases h2
      exact ⟨d, e1, rfl, h1, rfl⟩
    | _ => cases h
theorem see_fnLN {E : XK} (hk : aksOk ks pm = true) (hd : dis ks = true) (hx : wk ms mx = true) (hb : SEL cl W ms ks tr (eArgs fs)) : SEE cl W ms (mvd ks ms) mx (resC rc) (tCall (spOf cl pm rc G) [] E tr) (eCallLN G fs (ks.map AK.ld)) := fun H w σ env st r e he x Q q => by
  unfold eCallLN at he
  cases h1 : eArgs fs env with
  | none => rw [h1] at he; cases he
  | some r1 =>
    rw [h1] at he
    cases r1 with
    | ex y =>
      cases he
      exact hb H w σ env st _ h1 (fun z hz H' s => by cases hz; exact x y rfl H' w ((st.same s).weak hx) (Kp.same s)) _ fun d hd => nomatch hd
    | ok ds =>
      refine hb H w σ env st _ h1 (fun z hz => nomatch hz) _ fun d' hd' H2 vs As s2 ar => ?_
      cases hd'
      obtain ⟨d, e1, hG, hu, rfl⟩ := behLN_ok he
      show spOf cl pm rc G (vs ++ []) H2 Q E
      rw [List.append_nil]
      exact call_spL (st.same s2) ar st.wf hd hk hG ⟨e, hu, fun H' w' v st' k r => q d rfl H' w' v st' ((Kp.same s2).trans k) r⟩
def eMethL (cc : String) (mt : Str) (G : List D → Option Out) (f : List D → M D) (fs : List (List D → M D)) (ls : Lds) : List D → RE := fun env => match f env with
  | some (.ok o) => if insOf cc mt o = true then match eArgs fs env with
    | some (.ok ds) => behL ls env (G (o :: ds))
    | some (.ex c) => some (.ex c, env)
    | none => none else none
  | some (.ex c) => some (.ex c, env)
  | none => none
def eMethLN (cc : String) (mt : Str) (G : List D → Option Out) (f : List D → M D) (fs : List (List D → M D)) (ls : Lds) : List D → RE := fun env => match f env with
  | some (.ok o) => if insOf cc mt o = true then match eArgs fs env with
    | some (.ok ds) => behLN ls env (G (o :: ds))
    | some (.ex c) => some (.ex c, env)
    | none => none else none
  | some (.ex c) => some (.ex c, env)
  | none => none
theorem see_meL {cc : String} {mt : Str} {k : Nat} {s : Sh} (hk : aksOk (.l k s pf :: ks) pm = true) (hd : dis (.l k s pf :: ks) = true) (hx : wk ms mx = true) (hx2 : wk (mvd ks ms) mx = true) (ha : SP cl W ms k s ta f pf) (hb : SEL cl W ms ks tr (eArgs fs)) :
    SEE cl W ms (mvd ks ms) mx (resC rc) (tMethS (cl cc) mt (spOf cl pm rc G) (WE W) ta tr) (eMethL cc mt G f fs (some (k, pf) :: ks.map AK.ld)) := fun H w σ env st r e he x Q q => by
  unfold eMethL at he
  cases h0 : f env with
  | none => rw [h0] at he; cases he
  | some r0 =>
    rw [h0] at he
    cases r0 with
    | ex y =>
      cases he
      exact ha H w σ env st _ h0 (fun z hz H' s => by cases hz; exact x y rfl H' w ((st.same s).weak hx) (Kp.same s)) _ fun d hd => nomatch hd
    | ok o =>
      refine ha H w σ env st _ h0 (fun z hz => nomatch hz) _ fun d' hd' H1 v1 s1 ⟨Rf, hp, pl⟩ => ?_
      cases hd'
      simp only at he
      split at he
      · rename_i hi
        obtain ⟨p0, dx, vs0, hv, e1, e2⟩ := insOf_at hi pl.an
        refine ⟨p0, dx, vs0, hv, e1, e2, ?_⟩
        cases h1 : eArgs fs env with
        | none => rw [h1] at he; cases he
        | some r1 =>
          rw [h1] at he
          cases r1 with
          | ex y =>
            cases he
            exact hb H1 w σ env (st.same s1) _ h1 (fun z hz H' s => by cases hz; exact x y rfl H' w (((st.same s1).same s).weak hx) (Kp.same (s1.trans s))) _ fun d hd => nomatch hd
          | ok ds =>
            refine hb H1 w σ env (st.same s1) _ h1 (fun z hz => nomatch hz) _ fun d' hd' H2 vs As s2 ar => ?_
            cases hd'
            obtain ⟨A0, pa⟩ := (pl.same s2 (st.wf.same s1)).named
            have ar2 : ArgL cl H1 H2 w ms σ env (.l k s pf :: ks) (o :: ds) (v1 :: vs) (A0 :: As) := .cons ⟨Rf, hp, pa⟩ ar
            rcases behL_ok he with ⟨d, e1, hG, hu, rfl⟩ | ⟨c, e1, hG, hu, rfl⟩
            · exact call_spL ((st.same s1).same s2) ar2 (st.wf.same s1) hd hk hG ⟨e, hu, fun H' w' v st' k r => q d rfl H' w' v st' ((Kp.same (s1.trans s2)).trans k) r⟩
            · exact call_spL (rc := rc) ((st.same s1).same s2) ar2 (st.wf.same s1) hd hk hG ⟨e, hu, fun H' w' st' k => x c rfl H' w' (st'.weak hx2) ((Kp.same (s1.trans s2)).trans k)⟩
      · cases he
theorem see_meLN {cc : String} {mt : Str} {k : Nat} {s : Sh} {E : XK} (hk : aksOk (.l k s pf :: ks) pm = true) (hd : dis (.l k s pf :: ks) = true) (hx : wk ms mx = true) (ha : SP cl W ms k s ta f pf) (hb : SEL cl W ms ks tr (eArgs fs)) :
    SEE cl W ms (mvd ks ms) mx (resC rc) (tMeth (cl cc) mt (spOf cl pm rc G) [] E ta tr) (eMethLN cc mt G f fs (some (k, pf) :: ks.map AK.ld)) := fun H w σ env st r e he x Q q => by
  unfold eMethLN at he
  cases h0 : f env with
  | none => rw [h0] at he; cases he
  | some r0 =>
    rw [h0] at he
    cases r0 with
    | ex y =>
      cases he
      exact ha H w σ env st _ h0 (fun z hz H' s => by cases hz; exact x y rfl H' w ((st.same s).weak hx) (Kp.same s)) _ fun d hd => nomatch hd
    | ok o =>
      refine ha H w σ env st _ h0 (fun z hz => nomatch hz) _ fun d' hd' H1 v1 s1 ⟨Rf, hp, pl⟩ => ?_
      cases hd'
      simp only at he
      split at he
      · rename_i hi
        obtain ⟨p0, dx, vs0, hv, e1, e2⟩ := insOf_at hi pl.an
        refine ⟨p0, dx, vs0, hv, e1, e2, ?_⟩
        cases h1 : eArgs fs env with
        | none => rw [h1] at he; cases he
        | some r1 =>
          rw [h1] at he
          cases r1 with
          | ex y =>
            cases he
            exact hb H1 w σ env (st.same s1) _ h1 (fun z hz H' s => by cases hz; exact x y rfl H' w (((st.same s1).same s).weak hx) (Kp.same (s1.trans s))) _ fun d hd => nomatch hd
          | ok ds =>
            refine hb H1 w σ env (st.same s1) _ h1 (fun z hz => nomatch hz) _ fun d' hd' H2 vs As s2 ar => ?_
            cases hd'
            obtain ⟨A0, pa⟩ := (pl.same s2 (st.wf.same s1)).named
            have ar2 : ArgL cl H1 H2 w ms σ env (.l k s pf :: ks) (o :: ds) (v1 :: vs) (A0 :: As) := .cons ⟨Rf, hp, pa⟩ ar
            obtain ⟨d, e1, hG, hu, rfl⟩ := behLN_ok he
            rw [List.append_nil]
            exact call_spL ((st.same s1).same s2) ar2 (st.wf.same s1) hd hk hG ⟨e, hu, fun H' w' v st' k r => q d rfl H' w' v st' ((Kp.same (s1.trans s2)).trans k) r⟩
      · cases he
def tMakeS (C : Addr) (sp : Sp) (E : L2.St → XK) (t : TA) : TE := fun σ H Q => t σ H fun vs H1 => ∀ x dx, H1 x = none → H1 dx = none → dx ≠ x →
  sp (.ref x :: vs) (upd (upd H1 dx (.own x)) x (.ins C dx [])) (fun v H2 => v = .non ∧ Q (.ref x) H2) (E σ)
def ofMk : Option Out → M D
  | some (.rt .non e) => lift e[0]?
  | some (.ex c _) => some (.ex c)
  | _ => none
def ofMkN : Option Out → M D
  | some (.rt .non e) => lift e[0]?
  | _ => none
def eMake (cc : String) (G : List D → Option Out) (fs : List (List D → M D)) : List D → M D := fun env => bd (eArgs fs env) fun ds => ofMk (G (.ins cc [] :: ds))
def eMakeN (cc : String) (G : List D → Option Out) (fs : List (List D → M D)) : List D → M D := fun env => bd (eArgs fs env) fun ds => ofMkN (G (.ins cc [] :: ds))
theorem ofMk_ok {o : Option Out} {r : R D} (h : ofMk o = some r) : (∃ e d, o = some (.rt .non e) ∧ e[0]? = some d ∧ r = .ok d) ∨ ∃ c e, o = some (.ex c e) ∧ r = .ex c := by
  cases o with
  | none => cases h
  | some o =>
    cases o with
    | rt d e =>
      cases d with
      | non =>
        obtain ⟨x, h1, rfl⟩ := lift_ok (show lift e[0]? = some r from h)
        exact .inl ⟨e, x, rfl, h1, rfl⟩
      | _ => cases h
    | ex c e => exact .inr ⟨c, e, rfl, (Option.some.inj h).symm⟩
    | _ => cases h
theorem ofMkN_ok {o : Option Out} {r : R D} (h : ofMkN o = some r) : ∃ e d, o = some (.rt .non e) ∧ e[0]? = some d ∧ r = .ok d := by
  cases o with
  | none => cases h
  | some o =>
    cases o with
    | rt d e =>
      cases d with
      | non =>
        obtain ⟨x, h1, rfl⟩ := lift_ok (show lift e[0]? = some r from h)
        exact ⟨e, x, rfl, h1, rfl⟩
      | _ => cases h
    | _ => cases h
theorem make_sp {n : Nat} {cc : String} {H0 H : Hp} {w : Om} {ds : List D} {vs : List V} {o : Out} {Q : VK} {E : XK} {x dx : Addr} (wf : Wf H0 w) (s : Same H0 H) (hc : argOk cs pm = true) (r : ResL cl H0 H w cs ds vs) (hx : H x = none) (hdx : H dx = none) (ne : dx ≠ x) (hG : G (.ins cc [] :: ds) = some o)
    (q : match o with
      | .rt d e => d = .non ∧ ∃ d', e[0]? = some d' ∧ ∀ H', Same H H' → FrT cl H H' w (.io n) d' (.ref x) → Q (.ref x) H'
      | .ex c _ => ∀ H', Same H H' → E (.ref (cl c)) none H'
      | _ => False) : spOf cl (.bo (.io n) :: pm) .pu G (.ref x :: vs) (upd (upd H dx (.own x)) x (.ins (cl cc) dx [])) (fun v H2 => v = .non ∧ Q (.ref x) H2) E := by
  have wf1 := wf.same s
  obtain ⟨l1, l2⟩ := args_len hc r
  let H2 : Hp := upd (upd H dx (.own x)) x (.ins (cl cc) dx [])
  have sm : Same H H2 := fun a o e => by
    show upd (upd H dx (.own x)) x (.ins (cl cc) dx []) a = some o
    rw [upd_ne (ne_of_none e hx), upd_ne (ne_of_none e hdx)]; exact e
  let wc : Om := ⟨fun a => if a = x then some (.bo 0) else lentL (w a), fun j => ((V.ref x :: vs).getD j .non, (D.ins cc [] :: ds).getD j .non)⟩
  have wx : wc x = some (.bo 0) := if_pos rfl
  have wo : ∀ a, a ≠ x → wc a = lentL (w a) := fun a h => if_neg h
  have old : ∀ a o, H a = some o → wc a = lentL (w a) := fun a o e => wo a (ne_of_none e hx)
  have wnew : w x = none := wf1.fresh hx
  have back : ∀ {H' w'}, Kp H2 wc H' w' → Same H H' ∧ (∀ a, w' a = none → w a = none) ∧ (∀ a, w' a = some (.bo 0) → H a = none) := fun {H' w'} k => by
    have key : ∀ a o, H a = some o → H' a = some o ∧ (w a = none → w' a = none) ∧ (w a ≠ none → w' a = some .fo) := fun a o e => by
      cases q2 : w a with
      | none =>
        obtain ⟨z1, z2⟩ := k.keep.fz a o (sm a o e) (by rw [old a o e, q2]; rfl)
        exact ⟨z1, fun _ => z2, fun z => absurd rfl z⟩
      | some l =>
        obtain ⟨z1, z2⟩ := k.keep.fo a o (sm a o e) (by rw [old a o e, q2]; rfl)
        exact ⟨z1, (fun z => nomatch z), fun _ => z2⟩
    refine ⟨fun a o e => (key a o e).1, fun a z => ?_, fun a z => ?_⟩
    · cases q2 : w a with
      | none => rfl
      | some l =>
        obtain ⟨o, e, _⟩ := wf1 a l q2
        have := (key a o e).2.2 (by rw [q2]; intro z; cases z)
        rw [z] at this; cases this
    · cases q2 : H a with
      | none => rfl
      | some o =>
        obtain ⟨_, z1, z2⟩ := key a o q2
        by_cases q3 : w a = none
        · rw [z1 q3] at z; cases z
        · rw [z2 q3] at z; cases z
  refine ⟨wc, .ins cc [] :: ds, o, congrArg (· + 1) l1, congrArg (· + 1) l2, fun a l e => ?_, fun i m e nm => ?_, hG, ?_⟩
  · by_cases ha : a = x
    · subst ha
      exact ⟨_, upd_same, rfl⟩
    · rw [wo a ha] at e
      cases q2 : w a with
      | none => rw [q2] at e; cases e
      | some l' =>
        obtain ⟨o, e2, nt⟩ := wf1 a l' q2
        exact ⟨o, sm a o e2, nt⟩
  · cases i with
    | zero =>
      have : m = .bo (.io n) := (Option.some.inj e).symm
      subst this
      exact ⟨_, _, rfl, rfl, rfl, [x], by simp, .io upd_same wx .nil⟩
    | succ i =>
      obtain ⟨v, d, h1, h2, h3⟩ := args_at (vs0 := vs) (ds0 := ds) wf hc r i m (by simpa using e) nm
      refine ⟨v, d, by simpa using h1, by simpa using h2, ?_⟩
      have o1 := h3 i (getD_of h1) (getD_of h2)
      have lf : ∀ {d v}, Rep cl H (Lf (lent w vs ds)) d v → Rep cl H2 (Lf wc) d v := fun rr => rr.mono (fun a o e q => ⟨sm a o e, by
        rcases q with q | q
        · exact .inl ((old a o e).trans q)
        · exact .inr ((old a o e).trans q)⟩) fun a xs e => sm a _ e
      cases m with
      | un => trivial
      | pu => exact Rep.mono (fun a o e q => ⟨sm a o e, (old a o e).trans q⟩) (fun a xs e => sm a _ e) o1
      | lo => exact lf o1
      | pn =>
        obtain ⟨⟨y1, y2⟩, y3⟩ := o1
        refine ⟨⟨?_, ?_⟩, lf y3⟩
        · rw [y1]; show vs.getD i .non = (V.ref x :: vs).getD (i + 1) .non; simp
        · rw [y2]; show ds.getD i .non = (D.ins cc [] :: ds).getD (i + 1) .non; simp
      | sc =>
        exfalso
        obtain ⟨v', d', _, _, h3'⟩ := args_at (vs0 := vs) (ds0 := ds) wf hc r i .sc (by simpa using e) nm
        have : ∀ {cs : List RC} {pm : List Mo} {i : Nat}, argOk cs pm = true → pm[i]? = some .sc → False := by
          intro cs pm
          induction pm generalizing cs with
          | nil => intro i _ h; simp at h
          | cons m0 r ih =>
            intro i h h4
            cases cs with
            | nil => exact nomatch h
            | cons c0 cs =>
              cases i with
              | zero => cases h4; exact nomatch (argOk_cons h).1
              | succ i => exact ih (argOk_cons h).2 (by simpa using h4)
        exact this hc (by simpa using e)
      | ow s =>
        exfalso
        have : ∀ {cs : List RC} {pm : List Mo} {i : Nat}, argOk cs pm = true → pm[i]? = some (.ow s) → False := by
          intro cs pm
          induction pm generalizing cs with
          | nil => intro i _ h; simp at h
          | cons m0 r ih =>
            intro i h h4
            cases cs with
            | nil => exact nomatch h
            | cons c0 cs =>
              cases i with
              | zero => cases h4; exact nomatch (argOk_cons h).1
              | succ i => exact ih (argOk_cons h).2 (by simpa using h4)
        exact this hc (by simpa using e)
      | bo s =>
        exfalso
        have : ∀ {cs : List RC} {pm : List Mo} {i : Nat}, argOk cs pm = true → pm[i]? = some (.bo s) → False := by
          intro cs pm
          induction pm generalizing cs with
          | nil => intro i _ h; simp at h
          | cons m0 r ih =>
            intro i h h4
            cases cs with
            | nil => exact nomatch h
            | cons c0 cs =>
              cases i with
              | zero => cases h4; exact nomatch (argOk_cons h).1
              | succ i => exact ih (argOk_cons h).2 (by simpa using h4)
        exact this hc (by simpa using e)
  · cases o with
    | rt d e =>
      obtain ⟨rfl, d', he, q⟩ := q
      intro H' w' v kp wf' rr bo
      obtain ⟨b1, b2, b3⟩ := back kp
      have rr' : Rep cl H' (Fz w') .non v := rr
      cases rr'
      obtain ⟨d2, h1, h2⟩ := bo 0 (.io n) (.ref x) rfl rfl
      rw [he] at h1
      cases h1
      obtain ⟨_, A, nd, t⟩ := h2
      refine ⟨rfl, q H' b1 ⟨A, nd, fun a m => b3 a (t.ob a m).1, t.mono (fun a o e q => ⟨e, b2 a q, fun m => ?_⟩) (fun _ _ e => e) fun a m o e _ => ⟨e, trivial⟩⟩⟩
      have z : w' a = some (.bo 0) := (t.ob a m).1
      rw [show w' a = none from q] at z
      cases z
    | ex c e => exact fun H' w' k _ _ => q H' (back k).1
    | nx e => exact q
    | bk e => exact q
    | ct e => exact q
theorem se_make {n : Nat} {cc : String} (hc : argOk cs pm = true) (hb : SEa cl W ms cs tr (eArgs fs)) : SE cl W ms (.fr (.io n)) (tMakeS (cl cc) (spOf cl (.bo (.io n) :: pm) .pu G) (WE W) tr) (eMake cc G fs) := fun H w σ env st r e x Q q =>
  hb.bind st e x fun ds H1 vs s1 r1 e => by
    intro y dx hy hdx ne
    rcases ofMk_ok e with ⟨e', d, hG, he, rfl⟩ | ⟨c, e', hG, rfl⟩
    · exact make_sp st.wf s1 hc r1 hy hdx ne hG ⟨rfl, d, he, fun H' s fr => q d rfl H' _ (s1.trans s) (fr.base s1)⟩
    · exact make_sp st.wf s1 hc r1 hy hdx ne hG fun H' s => x c rfl H' (s1.trans s)
theorem se_makeN {n : Nat} {cc : String} {E : XK} (hc : argOk cs pm = true) (hb : SEa cl W ms cs tr (eArgs fs)) : SE cl W ms (.fr (.io n)) (tMake (cl cc) (spOf cl (.bo (.io n) :: pm) .pu G) [] E tr) (eMakeN cc G fs) := fun H w σ env st r e x Q q =>
  hb.bind st e x fun ds H1 vs s1 r1 e => by
    intro y dx hy hdx ne
    obtain ⟨e', d, hG, he, rfl⟩ := ofMkN_ok e
    rw [List.append_nil]
    exact make_sp st.wf s1 hc r1 hy hdx ne hG ⟨rfl, d, he, fun H' s fr => q d rfl H' _ (s1.trans s) (fr.base s1)⟩
end
section
variable {X : Cx} {CX : CXT} {k : Nat} {f C : Addr} {fd : FuncData} {ps : List Str} {sp : Sp} {E : L2.St → XK} {x m : Str} {p pos apos : Pos} {e o : Expr} {es : List Expr} {ta : TE} {t : TA}
theorem pe_methE {pl : Sem Bool} (he : PE X o ta) (c : Cls X.K C) (hm : Meth X.K C m f) (F : FnOk X.prog X.w X.K X.mg X.base CX k f fd ps sp) (hr : Room k X.A) (hb : Binds X.K fd ps []) (hx : ∀ σ, PassesAt CX X σ (E σ)) (ha : PA X (e :: es) t)
    (hst : starEach (e :: es) X.env = (false, eval e X.env) :: starEach es X.env := by rfl) (hpl : (backTo pos (starEach es X.env)).any (·.1) = false := by rfl)
    (ht : eval (.Call (.Attribute o m apos) (e :: es) [] pos) X.env = (do
      let ov ← eval o X.env
      standAt apos.atName
      let (f, first) ← holding [ov] (getMethod ov m pl)
      callWith pos f first (backTo pos (starEach (e :: es) X.env)) (backToKw pos (keywordEach [] X.env))) := by rfl) :
    PE X (.Call (.Attribute o m apos) (e :: es) [] pos) (tMethS C m sp E ta t) := by
  refine ⟨fun pins s σ H Q I h => ?_⟩
  refine PySem.W.methodCall_KW (pl := pl) (thn (he.run pins s σ H _ I h) fun u s1 ⟨x, H1, I1, rx, a, dx, fs, ex, ea, l, q⟩ => ?_) ht
  subst ex
  obtain rfl : u = Value.ref a := rx
  refine getmeth_ok I1 ea c hm l ?_
  refine PySem.W.callWith_K (first := [.ref a]) (h₀ := X.base) I.ok.mod.kin hm.kp (thn (ha.run pos pins s1 σ H1 _ I1 q) fun us s2 ⟨vs, H2, I2, r, q2⟩ => ⟨I2.kIn, ?_⟩) hst hpl
  exact run_fnS (us := .ref a :: us) (vs := .ref a :: vs) F hr hb (hx σ) I2 (.cons rfl r) q2
theorem pe_methE0 {pl : Sem Bool} (he : PE X o ta) (c : Cls X.K C) (hm : Meth X.K C m f) (F : FnOk X.prog X.w X.K X.mg X.base CX k f fd ps sp) (hr : Room k X.A) (hb : Binds X.K fd ps []) (hx : ∀ σ, PassesAt CX X σ (E σ))
    (ht : eval (.Call (.Attribute o m apos) [] [] pos) X.env = (do
      let ov ← eval o X.env
      standAt apos.atName
      let (f, first) ← holding [ov] (getMethod ov m pl)
      callWith pos f first (backTo pos (starEach [] X.env)) (backToKw pos (keywordEach [] X.env))) := by rfl) :
    PE X (.Call (.Attribute o m apos) [] [] pos) (tMethS C m sp E ta tNil) := by
  refine ⟨fun pins s σ H Q I h => ?_⟩
  refine PySem.W.methodCall_KW (pl := pl) (thn (he.run pins s σ H _ I h) fun u s1 ⟨x, H1, I1, rx, a, dx, fs, ex, ea, l, q⟩ => ?_) ht
  subst ex
  obtain rfl : u = Value.ref a := rx
  refine getmeth_ok I1 ea c hm l ?_
  exact PySem.W.callWith_K0 (first := [.ref a]) I1.kIn hm.kp (run_fnS (us := [.ref a]) (vs := [.ref a]) F hr hb (hx σ) I1 (.cons rfl .nil) q)
theorem run_makeS {pins : List (Addr × Obj)} {σ : L2.St} {H : Hp} {s : Shared} {Q : VK} {us : List Value} {vs : List V} (M : Mk X.K C f) (F : FnOk X.prog X.w X.K X.mg X.base CX k f fd ps sp) (hr : Room (k + 1) X.A) (hb : Binds X.K fd ps [])
    (hx : PassesAt CX X σ (E σ)) (I : Inv X pins σ H s) (r : Vals vs us)
    (h : ∀ x dx, H x = none → H dx = none → dx ≠ x → sp (.ref x :: vs) (upd (upd H dx (.own x)) x (.ins C dx [])) (fun v H2 => v = .non ∧ Q (.ref x) H2) (E σ)) :
    wpAny (model X.prog X.w) X.A (call (.ref C) us) (EP X pins σ Q) X.xe s := by
  have hq := h (s.heap.objs.size + 1) s.heap.objs.size (I.hok.fresh (Nat.le_succ _)) (I.hok.fresh (Nat.le_refl _)) (Nat.ne_of_lt (Nat.lt_succ_self _))
  have I2 := Inv.made (C := C) I
  have r2 : Vals (V.ref (s.heap.objs.size + 1) :: vs) (Value.ref (s.heap.objs.size + 1) :: us) := .cons rfl r
  have hl : (Value.ref (s.heap.objs.size + 1) :: us).length = ps.length := by
    have e := r2.length
    rw [F.len _ _ _ _ hq] at e
    exact e.symm
  have b := hb _ (Value.ref (s.heap.objs.size + 1) :: us) I2.kIn (by rw [List.append_nil]; exact hl)
  rw [List.append_nil] at b
  refine wpAny_call (make_map (f := f) I.kIn M.makes M.init (beq_iff_eq.mp M.fn) (codeAny_mono (F.run _ X.stack _ _ ⟨Value.ref (s.heap.objs.size + 1) :: us, []⟩ (Value.ref (s.heap.objs.size + 1) :: us) _ _ (E σ) (hr.make C us [])
    (I2.env0.make C us []) b r2 hq) fun r s' hq' => ?_))
  cases r with
  | error e => exact hx pins _ _ e s' I2 hq'
  | ok fl =>
    cases fl with
    | ret u =>
      obtain ⟨v, H', I3, rv, ev, q3⟩ := I2.after hq'
      subst ev
      exact ⟨rv, ⟨V.ref (s.heap.objs.size + 1), H', I3, rfl, q3⟩⟩
    | next => exact False.elim hq'
    | brk => exact False.elim hq'
    | cont => exact False.elim hq'
theorem pe_makeE (M : Mk X.K C f) (F : FnOk X.prog X.w X.K X.mg X.base CX k f fd ps sp) (hr : Room (k + 1) X.A) (hg : Gl X x) (hm : X.mg x = some (.ref C)) (hb : Binds X.K fd ps []) (hx : ∀ σ, PassesAt CX X σ (E σ))
    (ha : PA X (e :: es) t) (hdb : (x == ("__debug__" : Str)) = false := by decide) (he : starEach (e :: es) X.env = (false, eval e X.env) :: starEach es X.env := by rfl) (hpl : (backTo pos (starEach es X.env)).any (·.1) = false := by rfl) :
    PE X (.Call (.Name x p) (e :: es) [] pos) (tMakeS C sp E t) := by
  refine ⟨fun pins s σ H Q I h => ?_⟩
  refine wpAny_Call_Name_kw (ld_glob I hg hm ?_ hdb)
  refine PySem.W.callWith_K (h₀ := X.base) I.ok.mod.kin M.kp (thn (ha.run pos pins s σ H _ I h) fun us s1 ⟨vs, H1, I1, r, q⟩ => ⟨I1.kIn, ?_⟩) he hpl
  exact run_makeS M F hr hb (hx σ) I1 r q
end
end Mv

namespace Mv
open PySem L2
variable {cl : Nv}
def bndL (k : Int) : Bool := decide (-4611686018427387904 ≤ k) && decide (k ≤ 1000000)
theorem bndL_of {k : Int} (h : bndL k = true) : -(2 ^ 62) ≤ k ∧ k ≤ 1000000 := by
  unfold bndL at h
  rw [Bool.and_eq_true, decide_eq_true_eq, decide_eq_true_eq] at h
  omega
theorem bndL_ok {k : Int} (h0 : -1000000000000 ≤ k) (h1 : k ≤ 1000000) : bndL k = true := by
  unfold bndL
  rw [Bool.and_eq_true, decide_eq_true_eq, decide_eq_true_eq]
  omega
def okO {α : Type} : M α → Option α
  | some (.ok x) => some x
  | _ => none
@[simp] theorem okO_ok {α : Type} {x : α} : okO (some (.ok x)) = some x := rfl
theorem okO_some {α : Type} {m : M α} {x : α} (h : okO m = some x) : m = some (.ok x) := by
  cases m with
  | none => exact nomatch h
  | some r =>
    cases r with
    | ok y => exact congrArg (fun z => some (R.ok z)) (Option.some.inj h)
    | ex c => exact nomatch h
def lcF (i : Nat) (t : List D → M Bool) (g : List D → M D) : List D → List D → Option (List D)
  | [], _ => some []
  | d :: ds, env => (okO (t (env.set i d))).bind fun b => if b = true then (okO (g (env.set i d))).bind fun y => (lcF i t g ds env).map (y :: ·) else lcF i t g ds env
def tT : List D → M Bool := fun _ => some (.ok true)
abbrev WF : WX := fun _ _ _ _ => False
section
variable {H H' H1 : Hp} {w w' : Om} {ms ms' : List Mo} {σ : L2.St} {env : List D} {W : WX} {m : Md} {c c1 c2 : RC} {te ta tb tf : TE} {f g : List D → M D} {K : PySem.W.Frag} {tt : TT} {ft : List D → M Bool}
theorem set_yes : SEt cl W ms tYes tT := fun H w σ env st r e x Q q => by
  cases e
  exact q true rfl H (Same.refl H)
theorem StOk.mutO {p : Addr} {o' : HO} {q : Nat} (h : StOk cl H w ms σ env) (hp : w p = some (.ow q)) (hq : ms.length ≤ q) (nt : isTup o' = false) : StOk cl (upd H p o') w ms σ env ∧ Keep H w (upd H p o') w := by
  have k : Keep H w (upd H p o') w := by
    refine ⟨fun a o e z => ⟨?_, z⟩, fun a o e z => ⟨?_, z⟩, rfl⟩
    · rw [upd_ne fun y : a = p => by subst y; rw [hp] at z; cases z]; exact e
    · rw [upd_ne fun y : a = p => by subst y; rw [hp] at z; cases z]; exact e
  refine ⟨⟨fun a l e => ?_, h.ls, h.le, fun j mj e n => ?_⟩, k⟩
  · by_cases ha : a = p
    · subst ha; exact ⟨o', upd_same, nt⟩
    · rw [upd_ne ha]; exact h.wf a l e
  · obtain ⟨v', e', a, b, o⟩ := h.sl j mj e n
    refine ⟨v', e', a, b, o.keep k h.wf fun a oa y ea => ⟨?_, rfl⟩⟩
    have hj : j < ms.length := (List.getElem?_eq_some_iff.mp e).1
    rw [upd_ne ?_]
    · exact ea
    · intro z
      subst z
      rcases y with y1 | y1
      · rw [y1] at hp; injection hp with z1; injection z1 with z2; omega
      · rw [y1] at hp; injection hp with z1; cases z1
theorem StOk.gone {i : Nat} (h : StOk cl H w ms σ env) : StOk cl H w (ms.set i .un) (σ.set i none) env := by
  refine ⟨h.wf, by simp [h.ls], by simp [h.le], fun j m e n => ?_⟩
  by_cases hj : j = i
  · subst hj
    have hl : j < ms.length := by
      have := (List.getElem?_eq_some_iff.mp e).1
      simpa using this
    rw [List.getElem?_set_self hl] at e
    cases e
    exact absurd rfl n
  · rw [List.getElem?_set_ne (Ne.symm hj)] at e
    obtain ⟨v', d', a, b, o⟩ := h.sl j m e n
    exact ⟨v', d', by rw [List.getElem?_set_ne (Ne.symm hj)]; exact a, b, o⟩
def labD (w : Om) (D : Addr) (n : Nat) : Om := ⟨fun a => if a = D then some (.ow n) else w a, w.pin⟩
theorem labD_ne {w : Om} {D a : Addr} {n : Nat} (h : a ≠ D) : labD w D n a = w a := if_neg h
theorem labD_eq {w : Om} {D : Addr} {n : Nat} : labD w D n D = some (.ow n) := if_pos rfl
theorem StOk.relabelS (h : StOk cl H w ms σ env) (s : Same H H') (hw : ∀ a o, H a = some o → w' a = w a) (hp : w'.pin = w.pin) (wf : Wf H' w') : StOk cl H' w' ms σ env :=
  h.other ⟨fun a o e q => ⟨s a o e, (hw a o e).trans q⟩, fun a o e q => ⟨s a o e, (hw a o e).trans q⟩, hp⟩ wf fun j m a o _ _ _ e => ⟨s a o e, hw a o e⟩
def itOk (c : RC) (s : Sh) : Bool := match c with
  | .pu => decide (s = .fz)
  | .fr s' => decide (s = s') || decide (s = .fz)
  | _ => false
theorem lc_gen {J : It} {i : Nat} {s : Sh} {P0 : Om → Addr → Prop} {bm : Mo} {ds : List D} {ys : List D} {Q : VK}
    (hset : ∀ {H w σ env d v}, StOk cl H w (ms.set i .un) σ env → Rep cl H (P0 w) d v → StOk cl H w (ms.set i bm) (σ.set i (some v)) (env.set i d))
    (st : StOk cl H1 w ms σ env) (e : lcF i ft g ds env = some ys) (hlim : ds.length ≤ LIM)
    (hstop : ∀ k H', (∀ a o, H1 a = some o → H' a = some o) → ds.length ≤ k → J.stop k H')
    (hgo : ∀ (k : Nat) H' (w1 : Om) d, (∀ a o, H1 a = some o → H' a = some o) → (∀ a o, H1 a = some o → w1 a = w a) → ds[k]? = some d → J.go k H' ∧ ∀ x H2, J.yld k H' x H2 → H2 = H' ∧ Rep cl H' (P0 w1) d x)
    (ht : SEt cl WF (ms.set i bm) tt ft) (he : SE cl WF (ms.set i bm) c2 te g) (hc2 : itOk c2 s = true)
    (q : ∀ H' v, Same H1 H' → FrT cl H1 H' w (.ls s) (.lst ys) v → Q v H') :
    ∀ D, H1 D = none → ∃ Wn : Nat → Nat → Hp → Prop, (∃ m, Wn 0 m (upd H1 D (.lst []))) ∧ ∀ k n H, Wn k n H →
      (J.stop k H ∧ Q (.ref D) H) ∨ (J.go k H ∧ ∃ Nx : Hp → Prop, (∀ H', Nx H' → ∃ m', m' < n ∧ Wn (k + 1) m' H') ∧ ∀ x H', J.yld k H x H' → gName i x (wipe σ [i]) H' fun σ2 H2 => wipe σ2 [i] = wipe σ [i] ∧ tt σ2 H2 fun b H3 =>
        if b = true then te σ2 H3 fun y H4 => ∃ acc, H4 D = some (.lst acc) ∧ acc.length < sizeLine ∧ Nx (upd H4 D (.lst (acc ++ [y]))) else Nx H3) := by
  intro D hD
  have s0 : Same H1 (upd H1 D (.lst [])) := new_same hD
  have wf0 : Wf (upd H1 D (.lst [])) (labD w D ms.length) := fun a l z => by
    by_cases ha : a = D
    · subst ha; exact ⟨_, upd_same, rfl⟩
    · rw [labD_ne ha] at z
      rw [upd_ne ha]
      exact st.wf a l z
  have st0 := st.relabelS s0 (w' := labD w D ms.length) (fun a o z => labD_ne (ne_of_none z hD)) rfl wf0
  let Wn : Nat → Nat → Hp → Prop := fun k n H => n + k = ds.length ∧ ∃ w1 acc outs rest B, H D = some (.lst acc) ∧ acc.length ≤ k ∧ w1 D = some (.ow ms.length) ∧ (D :: B).Nodup ∧ (∀ a ∈ B, H1 a = none) ∧ TrL cl H (Fz w1) (fun a => w1 a = some (.ow ms.length)) s outs acc B ∧ StOk cl H w1 ms σ env ∧ (∀ a o, H1 a = some o → w1 a = w a) ∧ (∀ a o, H1 a = some o → H a = some o) ∧ lcF i ft g (ds.drop k) env = some rest ∧ outs ++ rest = ys
  refine ⟨Wn, ⟨ds.length, by simp, labD w D ms.length, [], [], ys, [], upd_same, Nat.le_refl _, labD_eq, by simp, fun a m => absurd m List.not_mem_nil, .nil, st0, fun a o z => labD_ne (ne_of_none z hD), fun a o z => s0 a o z, by simpa using e, rfl⟩, fun k n H hW => ?_⟩
  obtain ⟨hk, w1, acc, outs, rest, B, hHD, hacc, hwD, ndB, frB, rl, stk, hw1, old, erest, hys⟩ := hW
  by_cases hlt : k < ds.length
  · right
    have hd : ds[k]? = some ds[k] := List.getElem?_eq_getElem hlt
    obtain ⟨g1, g2⟩ := hgo k H w1 _ old hw1 hd
    refine ⟨g1, fun H' => Wn (k + 1) (n - 1) H', fun H' h => ⟨n - 1, by omega, h⟩, fun x H2 y => ?_⟩
    obtain ⟨rfl, rx⟩ := g2 x H2 y
    have w2 : wipe ((wipe σ [i]).set i (some x)) [i] = wipe σ [i] := by
      show (((σ.set i none).set i (some x)).set i none) = σ.set i none
      rw [List.set_set, List.set_set]
    refine ⟨w2, ?_⟩
    rw [List.drop_eq_getElem_cons hlt] at erest
    have erest' : (okO (ft (env.set i ds[k]))).bind (fun b => if b = true then (okO (g (env.set i ds[k]))).bind fun y => (lcF i ft g (ds.drop (k + 1)) env).map (y :: ·) else lcF i ft g (ds.drop (k + 1)) env) = some rest := erest
    have st3 : StOk cl H2 w1 (ms.set i bm) ((wipe σ [i]).set i (some x)) (env.set i ds[k]) := hset stk.gone rx
    cases eb : okO (ft (env.set i ds[k])) with
    | none => rw [eb] at erest'; exact nomatch erest'
    | some b =>
      rw [eb] at erest'
      have hft := okO_some eb
      refine ht H2 _ _ _ st3 _ hft (fun z hz => nomatch hz) _ fun b' hb' H3 s3 => ?_
      cases hb'
      have erest2 : (if b = true then (okO (g (env.set i ds[k]))).bind fun y => (lcF i ft g (ds.drop (k + 1)) env).map (y :: ·) else lcF i ft g (ds.drop (k + 1)) env) = some rest := erest'
      have mono3 : ∀ {H3 : Hp}, Same H2 H3 → TrL cl H3 (Fz w1) (fun a => w1 a = some (.ow ms.length)) s outs acc B := fun s3 => rl.mono (fun a o e q => ⟨s3 _ _ e, q⟩) (fun a xs e => s3 _ _ e) fun a m o e q => ⟨s3 _ _ e, q⟩
      cases b with
      | false =>
        rw [if_neg Bool.false_ne_true] at erest2
        rw [if_neg Bool.false_ne_true]
        exact ⟨by omega, w1, acc, outs, rest, B, s3 _ _ hHD, by omega, hwD, ndB, frB, mono3 s3, stk.same s3, hw1, fun a o z => s3 _ _ (old a o z), erest2, hys⟩
      | true =>
        rw [if_pos rfl] at erest2
        rw [if_pos rfl]
        cases eg : okO (g (env.set i ds[k])) with
        | none => rw [eg] at erest2; exact nomatch erest2
        | some yd =>
          rw [eg] at erest2
          have hg := okO_some eg
          have erest3 : (lcF i ft g (ds.drop (k + 1)) env).map (yd :: ·) = some rest := erest2
          obtain ⟨rest', er, rfl⟩ := Option.map_eq_some_iff.mp erest3
          refine he H3 _ _ _ (st3.same s3) _ hg (fun z hz => nomatch hz) _ fun d' hd' H4 yv s4 ry => ?_
          cases hd'
          have s34 := s3.trans s4
          have st4 := stk.same s34
          -- the new item, with labels
          have item : ∃ w5 A, StOk cl H4 w5 ms σ env ∧ (∀ a o, H3 a = some o → w5 a = w1 a) ∧ A.Nodup ∧ (∀ a ∈ A, H3 a = none) ∧ Tr cl H4 (Fz w5) (fun a => w5 a = some (.ow ms.length)) s yd yv A := by
            have puc : toPu c2 = true → s = .fz → ∃ w5 A, StOk cl H4 w5 ms σ env ∧ (∀ a o, H3 a = some o → w5 a = w1 a) ∧ A.Nodup ∧ (∀ a ∈ A, H3 a = none) ∧ Tr cl H4 (Fz w5) (fun a => w5 a = some (.ow ms.length)) s yd yv A := fun h1 h2 => by
              subst h2
              exact ⟨w1, [], st4, fun _ _ _ => rfl, List.nodup_nil, fun a m => absurd m List.not_mem_nil, .fz (ry.pu (stk.wf.same s3) h1)⟩
            cases c2 with
            | pu => exact puc rfl (of_decide_eq_true hc2)
            | lo => cases hc2
            | an => cases hc2
            | al js => cases hc2
            | fr s' =>
              have hh : s = s' ∨ s = .fz := by simpa [itOk] using hc2
              rcases hh with rfl | h2
              · obtain ⟨w5, a1, a2, a3, a4, A, a5, a6, a7⟩ := (stk.same s3).labX s4 ry
                exact ⟨w5, A, a1, a4, a5, a6, a7⟩
              · exact puc rfl h2
          obtain ⟨w5, A, st5, hw5, nA, frA, tA⟩ := item
          have hD3 : H3 D = some (.lst acc) := s3 _ _ hHD
          have hwD5 : w5 D = some (.ow ms.length) := (hw5 _ _ hD3).trans hwD
          obtain ⟨m1, m2⟩ := st5.mutO (o' := .lst (acc ++ [yv])) hwD5 (Nat.le_refl _) rfl
          have hAD : ∀ a ∈ A, a ≠ D := fun a m z => by subst z; rw [frA a m] at hD3; cases hD3
          have hBD : ∀ a ∈ B, a ≠ D := fun a m z => by subst z; exact (List.nodup_cons.mp ndB).1 m
          have hBe : ∀ a ∈ B, ∃ o, H3 a = some o := fun a m => by
            obtain ⟨_, o, e, _⟩ := rl.ob a m
            exact ⟨o, s3 _ _ e⟩
          have up : ∀ a, a ≠ D → upd H4 D (.lst (acc ++ [yv])) a = H4 a := fun a h => upd_ne h
          have fzU : ∀ a o, H4 a = some o → Fz w5 a → upd H4 D (.lst (acc ++ [yv])) a = some o ∧ Fz w5 a := fun a o e q => ⟨by rw [up a fun z => by subst z; rw [show w5 a = none from q] at hwD5; cases hwD5]; exact e, q⟩
          have tupU : ∀ a xs, H4 a = some (.tup xs) → upd H4 D (.lst (acc ++ [yv])) a = some (.tup xs) := fun a xs e => m2.tup st5.wf a xs e
          have t1 : TrL cl (upd H4 D (.lst (acc ++ [yv]))) (Fz w5) (fun a => w5 a = some (.ow ms.length)) s outs acc B := rl.mono (fun a o e q => ⟨by
            rw [up a fun z => by subst z; have q' : w1 a = none := q; rw [hwD] at q'; cases q']
            exact s34 _ _ e, (hw5 a o (s3 _ _ e)).trans q⟩) (fun a xs e => tupU a xs (s34 _ _ e)) fun a m o e q => ⟨by rw [up a (hBD a m)]; exact s34 _ _ e, (hw5 a o (s3 _ _ e)).trans q⟩
          have t2 : Tr cl (upd H4 D (.lst (acc ++ [yv]))) (Fz w5) (fun a => w5 a = some (.ow ms.length)) s yd yv A := tA.mono fzU tupU fun a m o e q => ⟨by rw [up a (hAD a m)]; exact e, q⟩
          refine ⟨acc, s34 _ _ hHD, LIM_lt (by omega), by omega, w5, acc ++ [yv], outs ++ [yd], rest', B ++ A, upd_same, by simp; omega, hwD5, ?_, fun a m => ?_, ?_, m1, fun a o z => (hw5 a o (s3 _ _ (old a o z))).trans (hw1 a o z), fun a o z => ?_, er, by simpa using hys⟩
          · obtain ⟨n1, n2⟩ := List.nodup_cons.mp ndB
            refine List.nodup_cons.mpr ⟨fun m => ?_, List.nodup_append.mpr ⟨n2, nA, fun a m b m2 z => ?_⟩⟩
            · rcases List.mem_append.mp m with m | m
              · exact n1 m
              · exact hAD D m rfl
            · subst z
              obtain ⟨o3, e3⟩ := hBe a m
              rw [frA a m2] at e3
              cases e3
          · rcases List.mem_append.mp m with m | m
            · exact frB a m
            · cases h : H1 a with
              | none => rfl
              | some o => have := s3 _ _ (old a o h); rw [frA a m] at this; cases this
          · have z := TrL.cons t2 (TrL.nil (s := s))
            rw [List.append_nil] at z
            exact t1.append z
          · rw [upd_ne (ne_of_none z hD)]
            exact s34 _ _ (old a o z)
  · left
    have hz : ds.drop k = [] := List.drop_eq_nil_of_le (by omega)
    rw [hz] at erest
    have er : rest = [] := (Option.some.inj (show some [] = some rest from erest)).symm
    subst er
    rw [List.append_nil] at hys
    subst hys
    refine ⟨hstop k H old (by omega), q H _ (fun a o z => old a o z) ⟨D :: B, ndB, mem_cn hD frB, .ls hHD trivial (rl.mono (fun a o e q => ⟨e, ?_, ?_⟩) (fun _ _ e => e) fun a m o e _ => ⟨e, trivial⟩)⟩⟩
    · cases h1 : H1 a with
      | none => exact st.wf.fresh h1
      | some o1 => rw [← hw1 a o1 h1]; exact q
    · intro m
      have q' : w1 a = none := q
      rcases List.mem_cons.mp m with rfl | m
      · rw [hwD] at q'; cases q'
      · have z : w1 a = some (.ow ms.length) := (rl.ob a m).1
        rw [q'] at z; cases z
def eLc (i : Nat) (f : List D → M D) (ft : List D → M Bool) (g : List D → M D) : List D → M D := fun env => bd (f env) fun d => match d with
  | .lst ds => if ds.length ≤ LIM then lift ((lcF i ft g ds env).map D.lst) else none
  | _ => none
theorem eLc_of {i : Nat} {ds : List D} {r : R D} (e : (if ds.length ≤ LIM then lift ((lcF i ft g ds env).map D.lst) else none) = some r) : ds.length ≤ LIM ∧ ∃ ys, lcF i ft g ds env = some ys ∧ r = .ok (.lst ys) := by
  by_cases h : ds.length ≤ LIM
  · rw [if_pos h] at e
    obtain ⟨z, e1, rfl⟩ := lift_ok e
    obtain ⟨ys, e2, rfl⟩ := Option.map_eq_some_iff.mp e1
    exact ⟨h, ys, e2, rfl⟩
  · rw [if_neg h] at e
    exact nomatch e
theorem se_lc {i : Nat} {s : Sh} (hc : toPu c1 = true) (h : SE cl W ms c1 tf f) (ht : SEt cl WF (ms.set i .pu) tt ft) (he : SE cl WF (ms.set i .pu) c2 te g) (hc2 : itOk c2 s = true) : SE cl W ms (.fr (.ls s)) (tLc (iList K tf) (gName i) tt te [i]) (eLc i f ft g) := fun H w σ env st r e x Q q =>
  h.bind st e x fun d H1 v s1 r1 e => by
    have rp := r1.pu st.wf hc
    cases rp with
    | @lst a vs ds h1 hp ra =>
      obtain ⟨hlim, ys, e1, rfl⟩ := eLc_of e
      refine ⟨a, rfl, ⟨vs, .inl (.inl h1)⟩, lc_gen (P0 := fun w => Fz w) (bm := .pu) (fun st r => by have z := st.setPu (i := i) r; rw [List.set_set] at z; exact z) (st.same s1) e1 hlim (fun k H' old hk => ⟨vs, .inl (.inl (old _ _ h1)), by rw [← ra.length]; exact hk⟩) (fun k H' w1 d old hw1 hd => ?_) ht he hc2 fun H' v s fr => q _ rfl H' v (s1.trans s) (fr.base s1)⟩
      obtain ⟨v, hv, rv⟩ := ra.get hd
      refine ⟨⟨vs, v, .inl (.inl (old _ _ h1)), hv⟩, fun x H2 y => ?_⟩
      obtain ⟨rfl, y⟩ := y
      have hx := y vs (.inl (.inl (old _ _ h1)))
      rw [hv] at hx
      cases hx
      exact ⟨rfl, rv.mono (fun a o z p => ⟨old a o z, (hw1 a o z).trans p⟩) fun a xs z => old a _ z⟩
    | _ => simp only at e; exact nomatch e
theorem se_lcLo {i : Nat} {s : Sh} (hc : toLo c1 = true) (h : SE cl W ms c1 tf f) (ht : SEt cl WF (ms.set i .lo) tt ft) (he : SE cl WF (ms.set i .lo) c2 te g) (hc2 : itOk c2 s = true) : SE cl W ms (.fr (.ls s)) (tLc (iList K tf) (gName i) tt te [i]) (eLc i f ft g) := fun H w σ env st r e x Q q =>
  h.bind st e x fun d H1 v s1 r1 e => by
    have rp := r1.lo st.wf hc
    cases rp with
    | @lst a vs ds h1 hp ra =>
      obtain ⟨hlim, ys, e1, rfl⟩ := eLc_of e
      refine ⟨a, rfl, ⟨vs, .inl (.inl h1)⟩, lc_gen (P0 := fun w => Lf w) (bm := .lo) (fun st r => by have z := st.setLo (i := i) r; rw [List.set_set] at z; exact z) (st.same s1) e1 hlim (fun k H' old hk => ⟨vs, .inl (.inl (old _ _ h1)), by rw [← ra.length]; exact hk⟩) (fun k H' w1 d old hw1 hd => ?_) ht he hc2 fun H' v s fr => q _ rfl H' v (s1.trans s) (fr.base s1)⟩
      obtain ⟨v, hv, rv⟩ := ra.get hd
      refine ⟨⟨vs, v, .inl (.inl (old _ _ h1)), hv⟩, fun x H2 y => ?_⟩
      obtain ⟨rfl, y⟩ := y
      have hx := y vs (.inl (.inl (old _ _ h1)))
      rw [hv] at hx
      cases hx
      exact ⟨rfl, rv.mono (fun a o z p => ⟨old a o z, p.elim (fun p => .inl ((hw1 a o z).trans p)) fun p => .inr ((hw1 a o z).trans p)⟩) fun a xs z => old a _ z⟩
    | _ => simp only at e; exact nomatch e
def eLcR (i : Nat) (fs : List (List D → M D)) (ft : List D → M Bool) (g : List D → M D) : List D → M D := fun env => bd (eArgs fs env) fun d => match d with
  | [.int j] => if bndL j = true then lift ((lcF i ft g (rngL 0 j.toNat) env).map D.lst) else none
  | [.int l, .int j] => if bnd62 l = true ∧ bnd62 j = true ∧ (j - l).toNat ≤ LIM then lift ((lcF i ft g (rngL l (j - l).toNat) env).map D.lst) else none
  | _ => none
theorem se_slSc {i : Nat} {th : TO} {hi : Option (List D → M D)} (hm : ms[i]? = some .sc) (hh : SEo cl W ms th hi) : SE cl W ms (.fr (.ls .fz)) (tSl (rSlL cl.K) (tVar i) tNoPart th) (eSl (eVar i) none hi) := fun H w σ env st r e x Q q => by
  obtain ⟨v, d, a, b, p, ns, rfl, rfl, sc⟩ := st.sl i .sc hm (by decide)
  refine ⟨_, a, ?_⟩
  have e2 : bd (eOpt hi env) (fun h => lift (dCut (.lst (ns.map D.int)) none h)) = some r := by
    unfold eSl eVar at e
    rw [b] at e
    exact e
  refine hh H w σ env st e2 x _ fun h H3 s3 e => ?_
  obtain ⟨z, e1, rfl⟩ := lift_ok e
  have im : ∀ l : List Int, immL (l.map D.int) = true := fun l => by
    induction l with
    | nil => rfl
    | cons y r ih => exact Bool.and_eq_true_iff.mpr ⟨rfl, ih⟩
  have e3 : some (D.lst (cutD (ns.map D.int) none h)) = some z := by
    have e4 : (if immL (ns.map D.int) = true then some (D.lst (cutD (ns.map D.int) none h)) else none) = some z := e1
    rw [if_pos (im ns)] at e4
    exact e4
  cases e3
  have rr : ∀ l : List Int, RepL cl H3 (Fz w) (l.map D.int) (l.map V.int) := fun l => by
    induction l with
    | nil => exact .nil
    | cons y r ih => exact .cons (.int y) ih
  have sq : SqL cl.K H3 p (ns.map V.int) := s3.seq sc.sq
  refine ⟨p, ns.map V.int, rfl, sq, fun n hn => ?_⟩
  have s4 := new_same (o := .lst (cutV (ns.map V.int) none h)) hn
  exact q _ rfl _ _ (s3.trans s4) (FrT.l1 (s3.free hn) upd_same ((RepL.im (by
    unfold cutD
    rw [← List.map_drop, ← List.map_take]
    exact im _) (RepL.cut (rr ns) none h)).same s4 fun _ z => z))
theorem se_fnSc {i : Nat} {rc : RC} {G : List D → Option Out} {E : XK} (hm : ms[i]? = some .sc) (hb : SE cl W ms c2 tb g) : SE cl W ms (resC rc) (tCall (spOf cl [.sc, .pn] rc G) [] E (tCons (tVar i) (tCons tb tNil))) (fun env => bd (lift env[i]?) fun s => bd (g env) fun y => ofOutN (G [s, y])) := fun H w σ env st r e x Q q => by
  obtain ⟨v, d, a, b, p, ns, rfl, rfl, sc⟩ := st.sl i .sc hm (by decide)
  have e0 : bd (lift env[i]?) (fun s => bd (g env) fun y => ofOutN (G [s, y])) = some r := e
  rw [b] at e0
  refine ⟨_, a, ?_⟩
  refine hb.bind st e0 x fun y H1 u s1 r1 e => ?_
  obtain ⟨d, e', hG, rfl⟩ := ofOutN_ok e
  have wf1 := st.wf.same s1
  show spOf cl [.sc, .pn] rc G ([V.ref p, u] ++ []) H1 Q E
  rw [List.append_nil]
  refine ⟨lent w [V.ref p, u] [D.lst (ns.map D.int), y], [_, y], .rt d e', rfl, rfl, fun a l e => ?_, fun k m e n => ?_, hG, fun H' w' v k _ rr _ => q d rfl H' v (s1.trans (kp_same k)) ((ret_res wf1 k rr).base s1)⟩
  · obtain ⟨_, l', q⟩ := lent_fo e
    exact wf1 a l' q
  · match k, e with
    | 0, e =>
      have e' : Mo.sc = m := Option.some.inj e
      subst e'
      refine ⟨_, _, rfl, rfl, p, ns, rfl, rfl, ?_⟩
      rcases sc with ⟨r, l⟩ | z
      · refine .inl ⟨?_, ?_⟩
        · rcases r with r | ⟨o, r⟩
          · exact .inl (s1 _ _ r)
          · exact .inr ⟨o, s1 _ _ r⟩
        · rcases l with l | l
          · exact .inl (lent_none.mpr l)
          · exact .inr (lent_some l)
      · exact .inr z
    | 1, e =>
      have e' : Mo.pn = m := Option.some.inj e
      subst e'
      exact ⟨_, _, rfl, rfl, ⟨rfl, rfl⟩, rep_lent (r1.an st.wf)⟩
    | k + 2, e => simp at e
def tyN : D → String
  | .non => "NoneType"
  | .bl _ => "bool"
  | .int _ => "int"
  | .str _ => "str"
  | .lst _ => "list"
  | .tup _ => "tuple"
  | .dct _ => "dict"
  | .dctT _ => "dict"
  | .ins _ _ => ""
def isTy (t n : String) : Bool := t == n || (t == "bool" && n == "int")
def kOk (n : String) : Bool := n == "bool" || n == "int" || n == "str" || n == "list" || n == "tuple"
def dIsi (n : String) : D → Option D
  | .ins _ _ => none
  | d => some (.bl (isTy (tyN d) n))
def tIsi (K : PySem.W.Frag) (n : String) (ta : TE) : TE := tCB (rIsi K) (tCons ta (tCons (tC (.ty n)) tNil))
end
end Mv

namespace Mv
open PySem L2
variable {cl : Nv}
def Cal (P : Program) (w : World) (cl : Nv) (mg : Str → Option Value) (base : Heap) (CX : CXT) (k : Nat) (x : Str) (ps : List Str) (sp : Sp) : Prop :=
  ∃ (f : Addr) (fd : FuncData), mg x = some (.ref f) ∧ PySem.W.keepIn cl.K (.ref f) = true ∧ Binds cl.K fd ps [] ∧ FnOk P w cl.K mg base CX k f fd ps sp
section
variable {H H' H1 : Hp} {w w' : Om} {ms ms' mn mx : List Mo} {σ : L2.St} {env : List D} {W : WX} {m : Md} {c c1 c2 : RC} {te ta tb tf ti tg : TE} {f g fi : List D → M D} {K : PySem.W.Frag} {tt : TT} {ft : List D → M Bool} {s : Sh} {i : Nat} {fe : List D → RE} {tr : TA} {fs : List (List D → M D)}
def eLcV (i : Nat) (f : List D → M D) (ft : List D → M Bool) (g : List D → M D) : List D → M D := fun env => bd (f env) fun d => match d with
  | .lst ds => if ds.length ≤ LIM then lift ((lcF i ft g ds.reverse env).map D.lst) else none
  | _ => none
theorem ss_frz {k : Nat} {t : TS} {g : List D → Option Out} (hm : ms[k]? = some (.ow s)) (h : SS cl W (ms.set k .pu) m t g) : SS cl W ms m t g := by
  intro H w σ env st o e D p
  obtain ⟨v, d, a, b, st2, t⟩ := st.out hm
  obtain ⟨w2, st3, k2, r⟩ := st2.frz t
  have hk : k < ms.length := (List.getElem?_eq_some_iff.mp hm).1
  have st4 := st3.put (i := k) (mo := .pu) (d := d) (v := v) r
  rw [List.set_set, set_self a, set_self b] at st4
  exact h H w2 σ env st4 o e D (p.trans k2)
def shs : List AK → Sh
  | [] => .tn
  | .m _ s :: r => .tc s (shs r)
  | _ :: r => .tc .fz (shs r)
def onlyM : List AK → Bool
  | [] => true
  | .m _ _ :: r => onlyM r
  | .v c :: r => toPu c && onlyM r
  | _ => false
noncomputable def sAppF (f g : List D → M D) : List D → Option Out := fun env => sX (f env) env fun d => match d with
  | .lst ds => if ds.length < LIM then sX (g env) env fun _ => some (.nx env) else none
  | _ => none
end
end Mv

namespace Mv
open PySem L2
variable {cl : Nv}
section
variable {W : WX} {ms : List Mo} {m : Md} {c c1 c2 c3 : RC} {te ta tb : TE} {f g : List D → M D} {K : PySem.W.Frag}
def chD (c : Nat) : D := .str ⟨#[c]⟩
def sForS (i : Nat) (f : List D → M D) (b : List D → Option Out) : List D → Option Out := fun env => sX (f env) env fun d => match d with
  | .str z => forF i b (z.cps.toList.map chD) env
  | _ => none
def oneC : D → Option Nat
  | .str s => match s.cps.toList with
    | [c] => some c
    | _ => none
  | _ => none
@[simp] theorem oneC_ch {c : Nat} : oneC (chD c) = some c := rfl
def rSgI : R2 := fun x y H Q => ∃ (c : Nat) (z : Str), x = .str ⟨#[c]⟩ ∧ y = .str z ∧ Q (.bl (decide (c ∈ z.cps.toList))) H
def rSgN : R2 := fun x y H Q => ∃ (c : Nat) (z : Str), x = .str ⟨#[c]⟩ ∧ y = .str z ∧ Q (.bl (!decide (c ∈ z.cps.toList))) H
def dSgI : D → D → Option D
  | d, .str z => (oneC d).map fun c => .bl (decide (c ∈ z.cps.toList))
  | _, _ => none
def dSgN : D → D → Option D
  | d, .str z => (oneC d).map fun c => .bl (!decide (c ∈ z.cps.toList))
  | _, _ => none
def rFnd : V → List V → Hp → VK → Prop := fun x xs H Q => ∃ a b, x = .str a ∧ xs = [.str b] ∧ Q (.int (Txt.find a b)) H
def eFind (f g : List D → M D) : List D → M D := fun env => bd (f env) fun x => match x with
  | .str a => bd (g env) fun y => match y with
    | .str b => some (.ok (.int (Txt.find a b)))
    | _ => none
  | _ => none
def strL : List D → Option (List Str)
  | [] => some []
  | .str a :: r => (strL r).map (a :: ·)
  | _ => none
@[simp] theorem strL_map (l : List Str) : strL (l.map D.str) = some l := by
  induction l with
  | nil => rfl
  | cons a r ih => show (strL (r.map D.str)).map (a :: ·) = _; rw [ih]; rfl
def rJn (K : PySem.W.Frag) : V → List V → Hp → VK → Prop := fun x xs H Q => ∃ a p, ∃ ys : List Str, x = .str a ∧ xs = [.ref p] ∧ (SqL K H p (ys.map V.str) ∨ SqT K H p (ys.map V.str)) ∧
    (ys.map (·.length)).sum + ys.length * a.length ≤ 16777216 ∧ Q (.str (Txt.join a ys)) H
def dJn (a : Str) (ds : List D) : Option D := (strL ds).bind fun ys => if (ys.map (·.length)).sum + ys.length * a.length ≤ 16777216 then some (.str (Txt.join a ys)) else none
def eJoin (f g : List D → M D) : List D → M D := fun env => bd (f env) fun x => match x with
  | .str a => bd (g env) fun y => match y with
    | .lst ds => lift (dJn a ds)
    | _ => none
  | _ => none
abbrev rIntA : List V → Hp → VK → Prop := fun xs H Q => (∃ i, xs = [.int i] ∧ Q (.int i) H) ∨ ∃ k, xs = [.bl k] ∧ Q (.int (if k then 1 else 0)) H
def dInt : List D → Option D
  | [.int i] => some (.int i)
  | [.bl k] => some (.int (if k then 1 else 0))
  | _ => none
theorem ca_int : CaS0 cl rIntA [c] .pu dInt := by
  intro H0 H w ds vs z Q wf s r e q
  obtain ⟨d, v, rfl, rfl, rr⟩ := r.one wf
  cases rr with
  | int i => cases e; exact .inl ⟨i, rfl, q H _ (Same.refl H) (.int _)⟩
  | bl k => cases e; exact .inr ⟨k, rfl, q H _ (Same.refl H) (.int _)⟩
  | _ => cases e
def sRaise (x : String) : List D → Option Out := fun env => some (.ex x env)
def tRaise (W : WX) (C : Addr) : TS := fun _ σ H => W (.ref C) none σ H
theorem ss_raise {x : String} (hx : wk ms m.ex = true) : SS cl W ms m (tRaise W (cl x)) (sRaise x) := by
  intro H w σ env st o e D p
  cases e
  exact p H w σ (st.weak hx) Kp.refl
def sNo : List D → Option Out := fun _ => none
def tNo : TS := fun _ _ _ => False
end
end Mv

namespace Mv
open PySem L2
variable {cl : Nv}
def b1 (cl : Nv) : List V := [.ty "ValueError", .ref (cl "NoKind"), .ref (cl "NoWay"), .ref (cl "NoMark")]
def b2 (cl : Nv) : List V := [.ref (cl "NoEntry"), .ref (cl "NoHold"), .ref (cl "NoChamber"), .ref (cl "NoChart")]
def b3 (cl : Nv) : List V := [.ref (cl "NoCave"), .ref (cl "NoHome"), .ref (cl "Barred"), .ref (cl "Full")]
def c1 (x : String) : List Bool := [true, x == "NoKind", x == "NoWay", x == "NoMark"]
def c2 (x : String) : List Bool := [x == "NoEntry", x == "NoHold", x == "NoChamber", x == "NoChart"]
def c3 (x : String) : List Bool := [x == "NoCave", x == "NoHome", x == "Barred", x == "Full"]
def cvB (K : PySem.W.Frag) (D : Addr) : List V → List Bool → Bool
  | [], [] => true
  | .ty s :: r, b :: t => decide (PySem.W.kitOne K (.ref D) (.type s) = some b) && cvB K D r t
  | .ref p :: r, b :: t => decide (PySem.W.kitOne K (.ref D) (.ref p) = some b) && cvB K D r t
  | _, _ => false
def exOk (cl : Nv) (x : String) : Bool := decide (PySem.W.exmOne cl.K (.ref (cl x)) (.ref (cl "CaveError")) = some true) && (He.eqO (PySem.W.findIn cl.K (.ref (cl x)) "__getattribute__") (some (some (.builtin "BaseException.__getattribute__"))) &&
  (He.eqO (PySem.W.findIn cl.K (.ref (cl x)) "__getattr__") (some none) && (decide (PySem.W.subIn cl.K (.ref (cl x)) (.type "BaseException") = some true) && (PySem.W.hasDictIn cl.K (cl x) && (He.eqO (PySem.W.findIn cl.K (.ref (cl x)) "__class__") (some (some (.builtin "object.__class__"))) &&
  (He.eqO (PySem.W.specialIn cl.K (.builtin "object.__class__") "__get__") (some (some (.builtin "getset_descriptor.__get__"))) && (decide (PySem.W.takesIn cl.K (.builtin "object.__class__") = some true) && (decide (PySem.W.mroIn cl.K (cl x) (.type "object") = some true) &&
  (cvB cl.K (cl x) (b1 cl) (c1 x) && (cvB cl.K (cl x) (b2 cl) (c2 x) && cvB cl.K (cl x) (b3 cl) (c3 x)))))))))))
structure ExF (cl : Nv) (x : String) : Prop where
  exm : PySem.W.exmOne cl.K (.ref (cl x)) (.ref (cl "CaveError")) = some true
  exc : ExcC cl.K (cl x)
  k1 : cvB cl.K (cl x) (b1 cl) (c1 x) = true
  k2 : cvB cl.K (cl x) (b2 cl) (c2 x) = true
  k3 : cvB cl.K (cl x) (b3 cl) (c3 x) = true
theorem exF_of {x : String} (h : exOk cl x = true) : ExF cl x := by
  obtain ⟨h1, h⟩ := He.ba h
  obtain ⟨h2, h⟩ := He.ba h
  obtain ⟨h3, h⟩ := He.ba h
  obtain ⟨h4, h⟩ := He.ba h
  obtain ⟨h5, h⟩ := He.ba h
  obtain ⟨h6, h⟩ := He.ba h
  obtain ⟨h7, h⟩ := He.ba h
  obtain ⟨h8, h⟩ := He.ba h
  obtain ⟨h9, h⟩ := He.ba h
  obtain ⟨h10, h⟩ := He.ba h
  obtain ⟨h11, h12⟩ := He.ba h
  exact ⟨of_decide_eq_true h1, ⟨He.eqO_ok h2, He.eqO_ok h3, of_decide_eq_true h4, h5, He.eqO_ok h6, He.eqO_ok h7, of_decide_eq_true h8, of_decide_eq_true h9⟩, h10, h11, h12⟩
def tIsx (K : PySem.W.Frag) (D a : Addr) (i : Nat) (c : V) : TE := tCB (rIsE K D a) (tCons (tVar i) (tCons (tC c) tNil))
def tIsL (K : PySem.W.Frag) (D a : Addr) (i : Nat) : List V → TA
  | [] => tNil
  | c :: r => tCons (tIsx K D a i c) (tIsL K D a i r)
theorem isL_run {K : PySem.W.Frag} {D a : Addr} {i : Nat} {σ : L2.St} {H : Hp} (hσ : σ[i]? = some (some (.ref a))) : ∀ (l : List V) (bs : List Bool) {Q : List V → Hp → Prop}, cvB K D l bs = true → Q (bs.map V.bl) H → tIsL K D a i l σ H Q := by
  intro l
  induction l with
  | nil =>
    intro bs Q h q
    cases bs with
    | nil => exact q
    | cons b t => cases h
  | cons c r ih =>
    intro bs Q h q
    cases bs with
    | nil => cases c <;> cases h
    | cons b t =>
      cases c with
      | ty s =>
        obtain ⟨h1, h2⟩ := He.ba h
        exact ⟨_, hσ, .ty s, .type s, b, rfl, fun u ru => by cases ru; rfl, of_decide_eq_true h1, ih t h2 q⟩
      | ref p =>
        obtain ⟨h1, h2⟩ := He.ba h
        exact ⟨_, hσ, .ref p, .ref p, b, rfl, fun u ru => by cases ru; rfl, of_decide_eq_true h1, ih t h2 q⟩
      | _ => cases h
def tBad (K : PySem.W.Frag) (D a : Addr) (i j : Nat) (l1 l2 l3 : List V) : TS :=
  tSeq (tAsg (tLst (tIsL K D a i l1)) (gName j)) (tSeq (tAsg (tOp (rAddA K) (tVar j) (tLst (tIsL K D a i l2))) (gName j)) (tAsg (tOp (rAddA K) (tVar j) (tLst (tIsL K D a i l3))) (gName j)))
def bitsOf (x : String) : List Bool := c1 x ++ c2 x ++ c3 x
theorem repL_bl {H : Hp} {P : Addr → Prop} : ∀ bs : List Bool, RepL cl H P (bs.map D.bl) (bs.map V.bl)
  | [] => .nil
  | _ :: r => .cons (.bl _) (repL_bl r)
theorem immL_bl : ∀ bs : List Bool, immL (bs.map D.bl) = true
  | [] => rfl
  | _ :: r => immL_bl r
theorem StOk.setUnV {H : Hp} {w : Om} {ms : List Mo} {σ : L2.St} {env : List D} {i : Nat} {o : Option V} (h : StOk cl H w ms σ env) (hi : ms[i]? = some .un) : StOk cl H w ms (σ.set i o) env := by
  refine ⟨h.wf, by simp [h.ls], h.le, fun j m e n => ?_⟩
  by_cases hj : j = i
  · subst hj
    rw [hi] at e
    cases e
    exact absurd rfl n
  · obtain ⟨v', d', a, b, c⟩ := h.sl j m e n
    exact ⟨v', d', by rw [List.getElem?_set_ne (Ne.symm hj)]; exact a, b, c⟩
theorem dAdd_bl {a b : List Bool} (h : a.length + b.length ≤ 100) : dAdd (.lst (a.map D.bl)) (.lst (b.map D.bl)) = some (.lst ((a ++ b).map D.bl)) := by
  show (if (a.map D.bl).length + (b.map D.bl).length ≤ LIM ∧ immL (a.map D.bl) = true ∧ immL (b.map D.bl) = true then some (D.lst (a.map D.bl ++ b.map D.bl)) else none) = _
  rw [if_pos ⟨by simp [LIM]; omega, immL_bl a, immL_bl b⟩, ← List.map_append]
theorem lst_run {K : PySem.W.Frag} {C a : Addr} {i : Nat} {σ : L2.St} {H : Hp} {w : Om} {l : List V} {bs : List Bool} {Q : VK} (hσ : σ[i]? = some (some (.ref a))) (wf : Wf H w) (hl : bs.length ≤ 100) (k : cvB K C l bs = true)
    (q : ∀ H' v, Same H H' → Rep cl H' (Fz w) (.lst (bs.map D.bl)) v → Q v H') : tLst (tIsL K C a i l) σ H Q := by
  have lim : (bs.map V.bl).length ≤ sizeLine := LIM_le (by rw [List.length_map]; simp only [LIM]; omega)
  show tIsL K C a i l σ H _
  refine isL_run hσ l bs k ?_
  refine ⟨lim, fun p n => ?_⟩
  exact q _ _ (new_same n) (.lst upd_same (wf.fresh n) (repL_bl _))
theorem add_run {K : PySem.W.Frag} {C a : Addr} {i j : Nat} {σ : L2.St} {H : Hp} {w : Om} {l : List V} {as bs : List Bool} {v : V} {Q : VK} (hσ : σ[i]? = some (some (.ref a))) (wf : Wf H w) (hv : σ[j]? = some (some v)) (rv : Rep cl H (Fz w) (.lst (as.map D.bl)) v) (hl : as.length + bs.length ≤ 100) (k : cvB K C l bs = true)
    (q : ∀ H' v, Same H H' → Rep cl H' (Fz w) (.lst ((as ++ bs).map D.bl)) v → Q v H') : tOp (rAddA K) (tVar j) (tLst (tIsL K C a i l)) σ H Q := by
  show tVar j σ H _
  refine ⟨v, hv, ?_⟩
  refine lst_run (cl := cl) hσ wf (by omega) k fun H1 v1 s1 r1 => ?_
  exact ops_add (cl := cl) H1 w _ _ _ _ _ _ (wf.same s1) ((rv.same s1 fun _ z => z).any fun _ _ => trivial) (r1.any fun _ _ => trivial) (dAdd_bl hl) fun H2 v2 s2 r2 => q H2 v2 (s1.trans s2) r2
theorem bad_run {H : Hp} {w : Om} {ms : List Mo} {σ : L2.St} {env : List D} {i j : Nat} {x : String} {a : Addr} {Dn : Ends} (F : ExF cl x) (st : StOk cl H w ms σ env) (hσ : σ[i]? = some (some (.ref a))) (hij : j ≠ i) (hjl : j < ms.length)
    (q : ∀ H' v, StOk cl H' w (ms.set j .pu) (σ.set j (some v)) (env.set j (.lst ((bitsOf x).map D.bl))) → Same H H' → Dn.nx (σ.set j (some v)) H') : tBad cl.K (cl x) a i j (b1 cl) (b2 cl) (b3 cl) Dn σ H := by
  have hj : ∀ (o : Option V), (σ.set j o)[i]? = some (some (.ref a)) := fun o => by rw [List.getElem?_set_ne hij]; exact hσ
  have hjj : ∀ (v : V), (σ.set j (some v))[j]? = some (some v) := fun v => List.getElem?_set_self (by rw [st.ls]; exact hjl)
  have hss : ∀ (u v : V), (σ.set j (some u)).set j (some v) = σ.set j (some v) := fun u v => List.set_set ..
  unfold tBad tSeq tAsg gName
  refine lst_run (cl := cl) hσ st.wf (bs := c1 x) (Nat.le_of_ble_eq_true rfl) F.k1 fun H1 v1 s1 r1 => ?_
  refine add_run (cl := cl) (hj _) (st.wf.same s1) (hjj v1) r1 (bs := c2 x) (Nat.le_of_ble_eq_true rfl) F.k2 fun H2 v2 s2 r2 => ?_
  dsimp only
  rw [hss]
  refine add_run (cl := cl) (hj _) ((st.wf.same s1).same s2) (hjj v2) r2 (bs := c3 x) (Nat.le_of_ble_eq_true rfl) F.k3 fun H3 v3 s3 r3 => ?_
  rw [hss]
  exact q H3 v3 (((st.same s1).same s2).same s3 |>.setPu (i := j) r3) ((s1.trans s2).trans s3)
def wNo : WX := fun _ _ _ _ => False
def tsBad (cl : Nv) (L : List String) (i j : Nat) : Addr → Value → Option Addr → TS := fun a cls d Dn σ H => ∃ x, x ∈ L ∧ cls = .ref (cl x) ∧ d = none ∧ tBad cl.K (cl x) a i j (b1 cl) (b2 cl) (b3 cl) Dn σ H
def tTryBad (cl : Nv) (L : List String) (i j : Nat) (tb : WX → TS) : TS := fun Dn σ H => tb (wAs cl.K (.ref (cl "CaveError")) i (tsBad cl L i j) wNo Dn) Dn σ H
def exTo (j : Nat) (L : List String) : Option Out → Option Out
  | some (.ex c e) => if c ∈ L then some (.nx (e.set j (.lst ((bitsOf c).map D.bl)))) else none
  | o => o
def sTryBad (j : Nat) (L : List String) (g : List D → Option Out) : List D → Option Out := fun env => exTo j L (g env)
theorem ss_tryBad {W : WX} {ms : List Mo} {m : Md} {i j : Nat} (mx : List Mo) {L : List String} {tb : WX → TS} {g : List D → Option Out} (hi : mx[i]? = some .un) (hij : j ≠ i) (hj : j < mx.length) (hn : wk (mx.set j .pu) m.nx = true) (hnu : m.nx[i]? = some .un)
    (F : ∀ x ∈ L, ExF cl x) (hb : ∀ W', SS cl W' ms { m with ex := mx } (tb W') g) : SS cl W ms m (tTryBad cl L i j tb) (sTryBad j L g) := by
  intro H w σ env st o e Dn p
  unfold sTryBad at e
  cases eg : g env with
  | none => rw [eg] at e; cases e
  | some o1 =>
    rw [eg] at e
    refine hb _ H w σ env st o1 eg Dn ?_
    cases o1 with
    | nx e1 => cases e; exact p
    | rt d e1 => cases e; exact p
    | bk e1 => cases e; exact p
    | ct e1 => cases e; exact p
    | ex c e1 =>
      have e' : (if c ∈ L then some (Out.nx (e1.set j (.lst ((bitsOf c).map D.bl)))) else none) = some o := e
      split at e'
      · rename_i hc
        cases e'
        intro H' w' σ' st' kp
        have hl : i < σ'.length := by rw [st'.ls]; exact (List.getElem?_eq_some_iff.mp hi).1
        refine ⟨true, (F c hc).exm, fun _ a _ => ⟨c, hc, rfl, rfl, ?_⟩, fun q => nomatch q⟩
        refine bad_run (F c hc) (st'.setUnV hi (o := some (.ref a))) (List.getElem?_set_self hl) hij hj fun H2 v st2 s2 => ?_
        exact p H2 w' _ ((st2.weak hn).setUnV hnu) (kp.trans (Kp.same s2))
      · cases e'
theorem pss_known {X : Cx} {body : List Stmt} {L : List String} {t : String → TS} {cls : Value} {d : Option Addr} (h : ∀ x ∈ L, cls = .ref (cl x) → d = none → PSs X body (t x)) : PSs X body (fun Dn σ H => ∃ x, x ∈ L ∧ cls = .ref (cl x) ∧ d = none ∧ t x Dn σ H) :=
  ⟨fun pins s σ H Dn I ⟨x, hx, e1, e2, q⟩ => (h x hx e1 e2).run pins s σ H Dn I q⟩
def obsQ (n : Nat) (fa : List He.Fa) (fn : List He.DefD) (ex : PySem.W.Frag → Bool) (g : Addr → Option Obj) : He.AlD × Bool := (He.obsD fa fn (He.frG g (He.asD g n)), ex (He.frG g (He.asD g n)))
def hookQ (n : Nat) (fa : List He.Fa) (fn : List He.DefD) (ex : PySem.W.Frag → Bool) : PySem.W.Hook where
  α := He.AlD × Bool
  obs := fun s => obsQ n fa fn ex s.heap.get?
  val := fun _ => (He.valD fn, true)
  says := fun _ h => ∃ K : PySem.W.Frag, K.In h ∧ He.SaysD fa fn K ∧ ex K = true
  of := fun _ _ e => ⟨_, He.frG_in, congrArg (fun z : He.AlD × Bool => z.1) e, congrArg (fun z : He.AlD × Bool => z.2) e⟩
  keeps := fun _ _ _ ⟨K, hK, c⟩ k => ⟨K, PySem.W.Frag.In.keeps hK k, c⟩
theorem obsQ_eq {n : Nat} {fa : List He.Fa} {fn : List He.DefD} {ex : PySem.W.Frag → Bool} {g : Addr → Option Obj} {s : Shared} (h : ∀ a, g a = s.heap.get? a) : obsQ n fa fn ex g = (hookQ n fa fn ex).obs s := by
  have e : g = s.heap.get? := funext h
  rw [e] <;> rfl
def eSlS (f : List D → M D) (lo hi : Option (List D → M D)) : List D → M D := fun env => bd (f env) fun d => bd (eOpt lo env) fun l => bd (eOpt hi env) fun h => match d with
  | .str z => if z.length ≤ LIM then some (.ok (.str (cutS z l h))) else none
  | _ => none
end Mv

namespace Mv
open PySem L2 PySem.Spec
variable {cl : Nv}
def CalM (P : Program) (w : World) (cl : Nv) (mg : Str → Option Value) (base : Heap) (CX : CXT) (k : Nat) (C : String) (m : Str) (ps : List Str) (sp : Sp) : Prop :=
  ∃ (f : Addr) (fd : FuncData), Meth cl.K (cl C) m f ∧ Binds cl.K fd ps [] ∧ FnOk P w cl.K mg base CX k f fd ps sp
def CalI (P : Program) (w : World) (cl : Nv) (mg : Str → Option Value) (base : Heap) (CX : CXT) (k : Nat) (C : String) (ps : List Str) (sp : Sp) : Prop :=
  ∃ (f : Addr) (fd : FuncData), mg (C : Str) = some (.ref (cl C)) ∧ Mk cl.K (cl C) f ∧ Binds cl.K fd ps [] ∧ FnOk P w cl.K mg base CX k f fd ps sp
theorem passF {X : Cx} : Passes (L2.CX X.prog X.w) X E0 := fun _ _ _ _ _ _ _ ⟨_, _, _, _, _, _, _, _, _, _, _, _, h⟩ => h.elim
section
variable {H H' H1 : Hp} {w w' : Om} {ms ms' mn mx : List Mo} {σ : L2.St} {env : List D} {W : WX} {m : Md} {c c1 c2 : RC} {te ta tb tf ti tg : TE} {f g fi : List D → M D} {fe : List D → RE} {t1 t2 : TS} {g1 g2 : List D → Option Out}
def sIfE (fe : List D → RE) (a b : List D → Option Out) : List D → Option Out := fun env => sE (fe env) fun d e => match d with
  | .bl true => a e
  | .bl false => b e
  | _ => none
def sIfEN (fe : List D → RE) (a b : List D → Option Out) : List D → Option Out := fun env => sE (fe env) fun d e => match d with
  | .bl true => b e
  | .bl false => a e
  | _ => none
theorem ss_ifE (h : SEE cl W ms mn m.ex c te fe) (h1 : SS cl W mn m t1 g1) (h2 : SS cl W mn m t2 g2) : SS cl W ms m (tIfS (tB te) t1 t2) (sIfE fe g1 g2) := by
  intro H w σ env st o e D p
  refine h.stm st e p fun d e1 H' w' v st' k r e => ?_
  have rb : Rep cl H' An d v := by
    cases c with
    | pu => exact Rep.any r fun _ _ => trivial
    | lo => exact Rep.any r fun _ _ => trivial
    | an => exact r
    | al js => exact r
    | fr s => obtain ⟨n, _, t⟩ := r; exact t.rep
  cases rb with
  | bl b =>
    cases b with
    | true =>
      refine ⟨true, rfl, ?_⟩
      show (if true = true then _ else _)
      rw [if_pos rfl]
      exact h1 H' w' σ _ st' o e D (p.trans k)
    | false =>
      refine ⟨false, rfl, ?_⟩
      show (if false = true then _ else _)
      rw [if_neg Bool.false_ne_true]
      exact h2 H' w' σ _ st' o e D (p.trans k)
  | _ => cases e
def dListR : D → Option D
  | .int n => if bndL n = true then some (.lst (rngL 0 n.toNat)) else none
  | _ => none
theorem rngV {H : Hp} {P : Addr → Prop} : ∀ (n : Nat) (lo : Int), RepL cl H P (rngL lo n) ((List.range n).map fun i => V.int (lo + (i : Nat)))
  | 0, _ => .nil
  | n + 1, lo => by
    rw [List.range_succ_eq_map, List.map_cons, List.map_map]
    have e : (fun i : Nat => V.int (lo + (i : Nat))) ∘ Nat.succ = fun i : Nat => V.int ((lo + 1) + (i : Nat)) := by
      funext i
      show V.int (lo + ((i + 1 : Nat) : Int)) = _
      congr 1
      push_cast
      omega
    rw [e]
    refine .cons ?_ (rngV n (lo + 1))
    have : lo + ((0 : Nat) : Int) = lo := by omega
    rw [this]
    exact .int lo
theorem se_listR (ha : SE cl W ms c ta f) : SE cl W ms (.fr (.ls .fz)) (tLstRg (tRg1 ta)) (eUn dListR f) := fun H w σ env st r e x Q q =>
  ha.bind st e x fun d1 H1 v1 s1 r1 e => by
    obtain ⟨z, e1, rfl⟩ := lift_ok e
    have rr := r1.an st.wf
    cases rr with
    | int n =>
      have e2 : (if bndL n = true then some (D.lst (rngL 0 n.toNat)) else none) = some z := e1
      split at e2
      · rename_i hb
        cases e2
        have hb2 := bndL_of hb
        refine ⟨n, rfl, ⟨by decide, by decide, hb2.1, by omega, by omega⟩, fun p hp => ?_⟩
        have s2 := new_same (o := .lst (rgV 0 n)) hp
        refine q _ rfl _ _ (s1.trans s2) (FrT.l1 (s1.free hp) upd_same ?_)
        have : rgV 0 n = (List.range n.toNat).map fun i => V.int (0 + (i : Nat)) := by unfold rgV; rw [show (n - 0).toNat = n.toNat by rw [Int.sub_zero]]
        rw [this]
        exact rngV _ _
      · cases e2
    | _ => cases e1
theorem se_nilT {s : Sh} : SE cl W ms (.fr (.ls s)) (tLst tNil) (eLst []) := fun H w σ env st r e x Q q => by
  cases e
  refine ⟨Nat.zero_le _, fun p hp => q _ rfl _ _ (new_same hp) ⟨[p], by simp, fun a m => by rw [List.mem_singleton.mp m]; exact hp, .ls upd_same trivial .nil⟩⟩
end
end Mv

namespace Mv
open PySem L2
variable {cl : Nv}
section
variable {H H' H1 : Hp} {P O : Addr → Prop} {w w' : Om} {ms ms' : List Mo} {σ : L2.St} {env : List D} {W : WX} {m : Md} {c c1 c2 : RC} {te ta tb ti : TE} {f g fi : List D → M D} {K : PySem.W.Frag}
def shAt : Sh → Nat → Option Sh
  | .tc s _, 0 => some s
  | .tc _ r, n + 1 => shAt r n
  | _, _ => none
theorem TrP.focN : ∀ {n : Nat} {s : Sh} {ds : List D} {vs : List V} {A : List Addr} {d0 : D} {s0 : Sh}, shAt s n = some s0 → TrP cl H P O s ds vs A → ds[n]? = some d0 →
    ∃ v0 L A0 R, vs[n]? = some v0 ∧ A = L ++ A0 ++ R ∧ Tr cl H P O s0 d0 v0 A0 ∧ ∀ {H' : Hp} {P' O' : Addr → Prop} {d1 : D} {v1 : V} {A1 : List Addr}, (∀ a o, H a = some o → P a → H' a = some o ∧ P' a) → (∀ a xs, H a = some (.tup xs) → H' a = some (.tup xs)) →
      (∀ a ∈ L ++ R, ∀ o, H a = some o → O a → H' a = some o ∧ O' a) → Tr cl H' P' O' s0 d1 v1 A1 → TrP cl H' P' O' s (ds.set n d1) (vs.set n v1) (L ++ A1 ++ R)
  | _, _, _, _, _, _, _, hs, .nil, e => by simp at e
  | 0, _, _, _, _, _, _, hs, .cons (A := A) (B := B) a r, e => by
    cases (show _ = _ from Option.some.inj e)
    cases (show _ = _ from Option.some.inj hs)
    exact ⟨_, [], A, B, rfl, rfl, a, fun g t q x => .cons x (r.mono g t fun y m => q y m)⟩
  | n + 1, _, _, _, _, d0, s0, hs, .cons (A := A) (B := B) a r, e => by
    obtain ⟨v0, L, A0, R, h1, h2, h3, h4⟩ := TrP.focN (n := n) (d0 := d0) (s0 := s0) hs r (by simpa using e)
    refine ⟨v0, A ++ L, A0, R, by simpa using h1, by rw [h2]; simp [List.append_assoc], h3, fun g t q x => ?_⟩
    have z := TrP.cons (a.mono g t fun y m => q y (by simp [m])) (h4 g t (fun y m => q y (by
      rcases List.mem_append.mp m with m | m <;> simp [m])) x)
    rw [List.append_assoc, List.append_assoc]
    rw [List.append_assoc] at z
    exact z
theorem Plc.tp {i : Nat} {s s0 : Sh} {ds : List D} {v0 : V} {Rf : D → D} {n : Nat} {d1 : D} (h : Plc cl H w ms σ env i (.tp s) (.tup ds) v0 Rf) (hs : shAt s n = some s0) (hn : ds[n]? = some d1) :
    ∃ p vs v1, v0 = .ref p ∧ H p = some (.tup vs) ∧ vs[n]? = some v1 ∧ Plc cl H w ms σ env i s0 d1 v1 (fun z => Rf (.tup (ds.set n z))) := by
  obtain ⟨mo, s', l, d, v, L, A0, R, h1, h2, h3, h4, h5, h6, h7, h8⟩ := h
  cases h7 with
  | @tp _ p vs _ A00 hp tl =>
    have ob := tl.ob
    obtain ⟨v1, L2, A1, R2, k1, k2, k3, k4⟩ := tl.focN hs hn
    subst k2
    refine ⟨p, vs, v1, rfl, hp, k1, mo, s', l, d, v, L ++ L2, A1, R2 ++ R, h1, h2, h3, h4, ?_, ?_, k3, fun {H2} {P'} {O'} {d2} {A2} g t q x => ?_⟩
    · have z : L ++ (L2 ++ A1 ++ R2) ++ R = L ++ L2 ++ A1 ++ (R2 ++ R) := by simp [List.append_assoc]
      rw [← z]; exact h5
    · intro a ma
      simp only [List.mem_append] at ma ob h6
      rcases ma with (ma | ma) | ma | ma
      · exact h6 a (.inl ma)
      · exact (ob a (.inl (.inl ma))).1
      · exact (ob a (.inr ma)).1
      · exact h6 a (.inr ma)
    · have z := h8 (A1 := L2 ++ A2 ++ R2) (d1 := .tup (ds.set n d2)) (H' := H2) (P' := P') (O' := O') g t (fun a ma o e y => q a (by
        simp only [List.mem_append] at ma ⊢
        rcases ma with ma | ma
        · exact .inl (.inl ma)
        · exact .inr (.inr ma)) o e y) (.tp (t _ _ hp) (by
          have k5 := k4 (v1 := v1) g t (fun a ma o e y => q a (by
            simp only [List.mem_append] at ma ⊢
            rcases ma with ma | ma
            · exact .inl (.inr ma)
            · exact .inr (.inl ma)) o e y) x
          rw [set_self k1] at k5
          exact k5))
      have z2 : L ++ (L2 ++ A2 ++ R2) ++ R = L ++ L2 ++ A2 ++ (R2 ++ R) := by simp [List.append_assoc]
      rw [← z2]; exact z
def pTx (n : Nat) (f : List D → M D) (pf : List D → Option (D → D)) : List D → Option (D → D) := fun env => match pf env, f env with
  | some R, some (.ok (.tup ds)) => some fun z => R (.tup (ds.set n z))
  | _, _ => none
end
end Mv
namespace Mv
open PySem L2
variable {cl : Nv}
section
variable {H H' H1 : Hp} {P O : Addr → Prop} {w w' : Om} {ms ms' : List Mo} {σ : L2.St} {env : List D} {W : WX} {c c1 c2 : RC} {ta tb : TE} {f g : List D → M D} {K : PySem.W.Frag}
def intsD : List D → Option (List Int)
  | [] => some []
  | .int i :: r => (intsD r).map (i :: ·)
  | _ :: _ => none
def idxI (l : List Int) (x : Int) : Option Nat := l.findIdx? fun y => y == x
def dIndex : D → D → Option D
  | .lst ds, .int i => (intsD ds).bind fun l => (idxI l i).map fun n : Nat => .int (n : Int)
  | _, _ => none
def isLst : D → Bool
  | .lst _ => true
  | _ => false
def eIdx (f g : List D → M D) : List D → M D := fun env => bd (f env) fun d => if isLst d = true then bd (g env) fun y => lift (dIndex d y) else none
end
end Mv

namespace Mv
open PySem L2 PySem.Spec PyProof.Rows
variable {cl : Nv}
def toInts : List D → Option (List Int)
  | [] => some []
  | .int i :: r => (toInts r).map (i :: ·)
  | _ => none
def ins1 (x : Int) : List Int → List Int
  | [] => [x]
  | y :: r => if x ≤ y then x :: y :: r else y :: ins1 x r
def isort : List Int → List Int
  | [] => []
  | x :: r => ins1 x (isort r)
def dSort : List D → Option D
  | [.lst ds] => (toInts ds).map fun ns => .lst ((isort ns).map D.int)
  | _ => none
section
variable {H H' H1 : Hp} {P P' : Addr → Prop} {w w' : Om} {ms mn mx ms' : List Mo} {σ : L2.St} {env : List D} {W : WX} {m : Md} {c c1 c2 : RC} {te ta tb ti tg td ty tv : TE} {f g fi fk : List D → M D} {K : PySem.W.Frag}
def dInL (neg : Bool) (x y : D) : Option D := match y with
  | .lst ds => (toInts ds).bind fun l => match x with
    | .int i => some (.bl (if neg then !decide (i ∈ l) else decide (i ∈ l)))
    | .non => some (.bl neg)
    | _ => none
  | _ => none
def ddp (ns : List Int) : List Int := firstMet (fun i => ns.getD i 0) ns.length
def dLenSet : D → Option D
  | .lst ds => (toInts ds).bind fun ns => if ns.length < 4000 then some (.int (ddp ns).length) else none
  | _ => none
def tLenSetN (K : PySem.W.Frag) (ta : TE) : TE := fun σ H Q => ta σ H fun x H1 => ∃ (l : Addr) (ns : List Int), x = V.ref l ∧ SqL K H1 l (ns.map V.int) ∧ ns.length < 4000 ∧ Q (.int (ddp ns).length) H1
def dAddF : D → D → Option D
  | .lst a, .lst b => if a.length + b.length ≤ LIM then some (.lst (a ++ b)) else none
  | _, _ => none
def dSng (d : D) : D → Option D := fun y => (keyD y).map fun k => .dct [(k, d)]
def dFmt : D → Option D
  | .str y => if y.length ≤ LIM then some (.str y) else none
  | .int i => if i.natAbs.log2 < 1920 then some (.str (toString i)) else none
  | _ => none
def eJs : List (List D → M D) → Str → List D → M D
  | [], acc, _ => some (.ok (.str acc))
  | f :: fs, acc, env => bd (f env) fun d => match d with
    | .str y => if (acc ++ y).length ≤ LIM then eJs fs (acc ++ y) env else none
    | _ => none
inductive SEj (cl : Nv) (W : WX) (ms : List Mo) : List TE → List (List D → M D) → Prop
  | nil : SEj cl W ms [] []
  | cons {c t f ts fs} (h : SE cl W ms c t f) (r : SEj cl W ms ts fs) : SEj cl W ms (t :: ts) (f :: fs)
abbrev tJoin (ts : List TE) : TE := fun σ H Q => tJs ts Str.empty σ H fun out H1 => Q (.str out) H1
def dStr : List D → Option D
  | [.int i] => if i.natAbs.log2 < 1920 then some (.str (toString i)) else none
  | _ => none
abbrev rStrI : List V → Hp → VK → Prop := fun xs H Q => ∃ i, xs = [V.int i] ∧ i.natAbs.log2 < 1920 ∧ Q (.str (toString i)) H
end
end Mv

namespace Mv
open PySem L2 PySem.Spec
variable {cl : Nv}
abbrev RB := Option (R Bool × List D)
def STE (cl : Nv) (W : WX) (ms mn mx : List Mo) (tt : TT) (ft : List D → RB) : Prop :=
  ∀ H w σ env, StOk cl H w ms σ env → ∀ r e, ft env = some (r, e) → (∀ x, r = .ex x → ∀ H' w', StOk cl H' w' mx σ e → Kp H w H' w' → W (.ref (cl x)) none σ H') → ∀ Q : Bool → Hp → Prop,
    (∀ b, r = .ok b → ∀ H' w', StOk cl H' w' mn σ e → Kp H w H' w' → Q b H') → tt σ H Q
def pureT (f : List D → M Bool) : List D → RB := fun env => (f env).map fun r => (r, env)
def eTE (fe : List D → RE) : List D → RB := fun env => bE (fe env) fun d e => match d with
  | .bl b => some (.ok b, e)
  | _ => none
def eNotE (ft : List D → RB) : List D → RB := fun env => match ft env with
  | some (.ok b, e) => some (.ok (!b), e)
  | o => o
def eOrE (fa fb : List D → RB) : List D → RB := fun env => match fa env with
  | some (.ok true, e) => some (.ok true, e)
  | some (.ok false, e) => fb e
  | o => o
def eAndE (fa fb : List D → RB) : List D → RB := fun env => match fa env with
  | some (.ok true, e) => fb e
  | some (.ok false, e) => some (.ok false, e)
  | o => o
def sIfT (ft : List D → RB) (a b : List D → Option Out) : List D → Option Out := fun env => match ft env with
  | none => none
  | some (.ex c, e) => some (.ex c e)
  | some (.ok c, e) => if c = true then a e else b e
def eOpE (op : D → D → Option D) (fa : List D → RE) (g : List D → M D) : List D → RE := fun env => bE (fa env) fun x e => match g e with
  | some (.ok y) => (op x y).map fun z => (.ok z, e)
  | some (.ex c) => some (.ex c, e)
  | none => none
section
variable {H H' H1 : Hp} {w w' : Om} {ms mn mx ms' : List Mo} {σ : L2.St} {env : List D} {W : WX} {m : Md} {c c1 c2 : RC} {te ta tb : TE} {tt ua ub : TT} {f g : List D → M D} {fe fa : List D → RE} {ft fb : List D → RB} {t1 t2 : TS} {g1 g2 : List D → Option Out}
theorem ResE.an {H : Hp} {w : Om} {ms : List Mo} {d : D} {v : V} (r : ResE cl H w ms c d v) : Rep cl H An d v := by
  cases c with
  | pu => exact Rep.any r fun _ _ => trivial
  | lo => exact Rep.any r fun _ _ => trivial
  | an => exact r
  | al js => exact r
  | fr s => obtain ⟨n, _, t⟩ := r; exact t.rep
theorem ste_T (h : SEE cl W ms mn mx c te fe) : STE cl W ms mn mx (tTest te) (eTE fe) := fun H w σ env st r e he x Q q =>
  h.bind st he x fun d e1 H' w' v st' k rr he => by
    have rb := rr.an
    cases rb with
    | bl b => cases he; exact ⟨b, rfl, q b rfl H' w' st' k⟩
    | _ => cases he
theorem ste_or (ha : STE cl W ms ms mx ua ft) (hb : STE cl W ms ms mx ub fb) : STE cl W ms ms mx (tOr ua ub) (eOrE ft fb) := fun H w σ env st r e he x Q q => by
  unfold eOrE at he
  cases e1 : ft env with
  | none => rw [e1] at he; cases he
  | some p =>
    obtain ⟨r1, e2⟩ := p
    rw [e1] at he
    cases r1 with
    | ex y => cases he; exact ha H w σ env st _ _ e1 x _ fun b hb => nomatch hb
    | ok b =>
      refine ha H w σ env st _ _ e1 (fun z hz => nomatch hz) _ fun b' hb' H' w' st' k => ?_
      cases hb'
      cases b with
      | true => cases he; rw [if_pos rfl]; exact q true rfl H' w' st' k
      | false =>
        rw [if_neg (by decide)]
        exact hb H' w' σ e2 st' r e he (fun z hz H2 w2 s2 k2 => x z hz H2 w2 s2 (k.trans k2)) Q fun b2 h2 H2 w2 s2 k2 => q b2 h2 H2 w2 s2 (k.trans k2)
theorem ss_ifT (h : STE cl W ms mn m.ex tt ft) (h1 : SS cl W mn m t1 g1) (h2 : SS cl W mn m t2 g2) : SS cl W ms m (tIfS tt t1 t2) (sIfT ft g1 g2) := by
  intro H w σ env st o e D p
  unfold sIfT at e
  cases e1 : ft env with
  | none => rw [e1] at e; cases e
  | some q =>
    obtain ⟨r1, e2⟩ := q
    rw [e1] at e
    cases r1 with
    | ex y =>
      cases e
      exact h H w σ env st _ _ e1 (fun z hz H' w' st' k' => by cases hz; exact p H' w' σ st' k') _ fun d hd => nomatch hd
    | ok b =>
      refine h H w σ env st _ _ e1 (fun z hz => nomatch hz) _ fun b' hb' H' w' st' k => ?_
      cases hb'
      cases b with
      | true => rw [if_pos rfl]; exact h1 H' w' σ _ st' o (by simpa using e) D (p.trans k)
      | false => rw [if_neg (by decide)]; exact h2 H' w' σ _ st' o (by simpa using e) D (p.trans k)
theorem see_op {r : R2} {op : D → D → Option D} (ho : OpS cl r op) (ha : SEE cl W ms mn mx c1 ta fa) (hb : SE cl W mn c2 tb g) (hx : wk mn mx = true) : SEE cl W ms mn mx .pu (tOp r ta tb) (eOpE op fa g) := fun H w σ env st rr e he x Q q =>
  ha.bind st he x fun d1 e1 H' w' v1 st' k1 r1 he => by
    have ra := r1.an
    have hm : ∀ y, g e1 = some y → (match (some y : M D) with
      | some (.ok y) => (op d1 y).map fun z => (R.ok z, e1)
      | some (.ex c) => some (.ex c, e1)
      | none => none) = some (rr, e) := fun y hy => by rw [← hy]; exact he
    cases eg : g e1 with
    | none =>
      have he' : (match g e1 with
        | some (.ok y) => (op d1 y).map fun z => (R.ok z, e1)
        | some (.ex c) => some (.ex c, e1)
        | none => none) = some (rr, e) := he
      rw [eg] at he'
      cases he'
    | some y =>
      have he' := hm y eg
      cases y with
      | ex z =>
        cases he'
        exact hb H' w' σ _ st' _ eg (fun y hy H2 s => by cases hy; exact x _ rfl H2 w' ((st'.same s).weak hx) (k1.trans (Kp.same s))) _ fun d hd => nomatch hd
      | ok d2 =>
        obtain ⟨z, hz, he2⟩ := Option.map_eq_some_iff.mp (show (op d1 d2).map (fun z => (R.ok z, e1)) = some (rr, e) from he')
        cases he2
        refine hb H' w' σ _ st' _ eg (fun y hy => nomatch hy) _ fun d hd H2 v2 s r2 => ?_
        cases hd
        exact ho H2 w' d1 v1 d2 v2 z Q (st'.wf.same s) (ra.same s fun _ z => z) (r2.an st'.wf) hz fun H3 v s3 r3 => q z rfl H3 w' v ((st'.same s).same s3) (k1.trans (Kp.same (s.trans s3))) r3
end
def sForU (i : Nat) (f : List D → M D) (b : List D → Option Out) : List D → Option Out := fun env => sX (f env) env fun d => match d with
  | .tup ds => if immL ds = true then forF i b ds env else none
  | _ => none
section
variable {W : WX} {ms : List Mo} {m : Md} {c : RC} {te ta : TE} {f : List D → M D} {K : PySem.W.Frag}
def dCutT (d : D) (lo hi : Option Int) : Option D := match d with
  | .tup ds => if immL ds = true then some (.tup (cutD ds lo hi)) else none
  | _ => none
def eSlT (f : List D → M D) (lo hi : Option (List D → M D)) : List D → M D := fun env => bd (f env) fun d => bd (eOpt lo env) fun l => bd (eOpt hi env) fun h => lift (dCutT d l h)
end
section
variable {W : WX} {ms : List Mo} {ta : TE} {f : List D → M D} {K : PySem.W.Frag} {i : Nat} {pf : List D → Option (D → D)} {H : Hp} {w : Om} {σ : L2.St} {env : List D}
theorem Plc.lz {d0 : D} {v0 : V} {Rf : D → D} (h : Plc cl H w ms σ env i (.ls .fz) d0 v0 Rf) : ∃ p vs ds, v0 = .ref p ∧ d0 = .lst ds ∧ H p = some (.lst vs) ∧ RepL cl H (Fz w) ds vs := by
  obtain ⟨mo, s', l, d, v, L, A0, R, h1, h2, h3, h4, h5, h6, h7, h8⟩ := h
  obtain ⟨p, vs, ds, e1, e2, _, e4, _, e6⟩ := h7.unlz
  exact ⟨p, vs, ds, e1, e2, e4, e6⟩
theorem se_slP {tl th : TO} {lo hi : Option (List D → M D)} (ha : SP cl W ms i (.ls .fz) ta f pf) (hl : SEo cl W ms tl lo) (hh : SEo cl W ms th hi) : SE cl W ms (.fr (.ls .fz)) (tSl (rSlL K) ta tl th) (eSlF f lo hi) := fun H w σ env st r e x Q q =>
  ha.bind st e x fun d1 H1 v1 Rf s1 hp hf pl e => hl H1 w σ env (st.same s1) e (x.same s1) _ fun l H2 s2 e => hh H2 w σ env ((st.same s1).same s2) e ((x.same s1).same s2) _ fun h H3 s3 e => by
    obtain ⟨z, e1, rfl⟩ := lift_ok e
    have s13 := (s1.trans (s2.trans s3))
    obtain ⟨p, vs, ds, rfl, rfl, h1, ra⟩ := (pl.same (s2.trans s3) (st.wf.same s1)).lz
    cases e1
    refine ⟨p, vs, rfl, .inl (.inl h1), fun n hn => ?_⟩
    have s4 := new_same (o := .lst (cutV vs l h)) hn
    exact q _ rfl _ _ (s13.trans s4) (FrT.l1 (s13.free hn) upd_same ((RepL.cut ra l h).mono (fun a o e1 z => ⟨s4 a o e1, z, ne_of_none e1 hn⟩) fun a xs e1 => s4 a _ e1))
theorem se_lcP {c2 : RC} {tf te : TE} {tt : TT} {ft : List D → M Bool} {g : List D → M D} {k : Nat} {s : Sh} (h : SP cl W ms i (.ls .fz) tf f pf) (ht : SEt cl WF (ms.set k .pu) tt ft) (he : SE cl WF (ms.set k .pu) c2 te g) (hc2 : itOk c2 s = true) : SE cl W ms (.fr (.ls s)) (tLc (iList K tf) (gName k) tt te [k]) (eLc k f ft g) := fun H w σ env st r e x Q q =>
  h.bind st e x fun d H1 v Rf s1 hp hf pl e => by
    obtain ⟨a, vs, ds, rfl, rfl, h1, ra⟩ := pl.lz
    obtain ⟨hlim, ys, e1, rfl⟩ := eLc_of e
    refine ⟨a, rfl, ⟨vs, .inl (.inl h1)⟩, lc_gen (P0 := fun w => Fz w) (bm := .pu) (fun st r => by have z := st.setPu (i := k) r; rw [List.set_set] at z; exact z) (st.same s1) e1 hlim (fun k H' old hk => ⟨vs, .inl (.inl (old _ _ h1)), by rw [← ra.length]; exact hk⟩) (fun k H' w1 d old hw1 hd => ?_) ht he hc2 fun H' v s2 r2 => q _ rfl H' v (s1.trans s2) (r2.base s1)⟩
    obtain ⟨v, hv, rv⟩ := ra.get hd
    refine ⟨⟨vs, v, .inl (.inl (old _ _ h1)), hv⟩, fun x H2 y => ?_⟩
    obtain ⟨rfl, y⟩ := y
    have hx := y vs (.inl (.inl (old _ _ h1)))
    rw [hv] at hx
    cases hx
    exact ⟨rfl, rv.mono (fun a o z p => ⟨old a o z, (hw1 a o z).trans p⟩) fun a xs z => old a _ z⟩
def dListR2 : D → D → Option D
  | .int l, .int j => if bnd62 l = true ∧ bnd62 j = true ∧ (j - l).toNat ≤ LIM then some (.lst (rngL l (j - l).toNat)) else none
  | _, _ => none
def dListF : D → Option D
  | .lst ds => some (.lst ds)
  | _ => none
theorem se_listP (ha : SP cl W ms i (.ls .fz) ta f pf) : SE cl W ms (.fr (.ls .fz)) (tCB (rListA K) (tCons ta tNil)) (eUn dListF f) := fun H w σ env st r e x Q q => by
  show ta σ H _
  refine ha.bind st e x fun d1 H1 v1 Rf s1 hp hf pl e => ?_
  obtain ⟨z, e1, rfl⟩ := lift_ok e
  obtain ⟨p, vs, ds, rfl, rfl, h1, ra⟩ := pl.lz
  cases e1
  refine ⟨p, vs, rfl, .inl (.inl (.inl h1)), fun n hn => ?_⟩
  have s4 := new_same (o := .lst vs) hn
  exact q _ rfl _ _ (s1.trans s4) (FrT.l1 (s1.free hn) upd_same (ra.mono (fun a o e1 z => ⟨s4 a o e1, z, ne_of_none e1 hn⟩) fun a xs e1 => s4 a _ e1))
end
def tTryOne (cl : Nv) (x : String) (tb : WX → TS) (t2 : TS) : TS := fun Dn σ H => tb (wOnly cl.K (.ref (cl x)) (fun _ _ _ => t2) wNo Dn) Dn σ H
def sTryOne (x : String) (g g2 : List D → Option Out) : List D → Option Out := fun env => match g env with
  | some (.ex c e) => if c = x then g2 e else none
  | o => o
def exm1 (cl : Nv) (x : String) : Bool := PySem.W.exmOne cl.K (.ref (cl x)) (.ref (cl x)) == some true
end Mv

namespace L2
open PySem PySem.Spec PyProof.Rows
def tDisp1T (tk tv : TE) : TE := fun σ H Q => ∀ p, H p = none → tPairs [(tk, tv)] σ (upd H p (.dT [])) fun ps H2 => H2 p = some (.dT []) ∧ ∃ (k : List Key) (b : Addr) (v : V), ps = [(.ref b, v)] ∧ H2 b = some (.tup (k.map kV)) ∧ Q (.ref p) (upd H2 p (.dT [(k, v)]))
end L2
namespace Mv
open PySem L2 PySem.Spec PyProof.Rows
variable {cl : Nv}
def dInD (x y : D) : Option D := match y with
  | .lst ds => if SeqAt.shaped (toPy x) = true ∧ SeqAt.shaped (toPy (.lst ds)) = true then some (.bl ((toPyL ds).any fun z => PyData.eqv z (toPy x))) else none
  | _ => none
def dNiD (x y : D) : Option D := match y with
  | .lst ds => if SeqAt.shaped (toPy x) = true ∧ SeqAt.shaped (toPy (.lst ds)) = true then some (.bl (!(toPyL ds).any fun z => PyData.eqv z (toPy x))) else none
  | _ => none
def dIndexD (d y : D) : Option D := match d with
  | .lst ds => if SeqAt.shaped (toPy y) = true ∧ SeqAt.shaped (toPy (.lst ds)) = true then ((toPyL ds).findIdx? fun z => PyData.eqv z (toPy y)).map fun n : Nat => .int (n : Int) else none
  | _ => none
def eIdxD (f g : List D → M D) : List D → M D := fun env => bd (f env) fun d => if isLst d = true then bd (g env) fun y => lift (dIndexD d y) else none
section
variable {H H' H1 : Hp} {w w' : Om} {ms mn mx ms' : List Mo} {σ : L2.St} {env : List D} {W : WX} {m : Md} {c c1 c2 : RC} {te ta tb ty : TE} {f g fk : List D → M D} {K : PySem.W.Frag}
def maxI : List Int → Int
  | [] => 0
  | [x] => x
  | x :: r => if maxI r < x then x else maxI r
def dMaxL : List D → Option D
  | [.lst ds] => (toInts ds).bind fun ns => if 0 < ns.length then some (.int (maxI ns)) else none
  | _ => none
def dLenT : List D → Option D
  | [.dctT kds] => some (.int (kds.length : Int))
  | _ => none
def dIsB : D → D → Option D
  | .bl a, .bl b => some (.bl (decide (a = b)))
  | _, _ => none
def dNotB : D → D → Option D
  | .bl a, .bl b => some (.bl (!decide (a = b)))
  | _, _ => none
def keyT : D → Option (List Key)
  | .tup ds => keyL ds
  | _ => none
def dSngT (d : D) : D → Option D := fun y => (keyT y).map fun k => .dctT [(k, d)]
def eMeth1N (cc : String) (mt : Str) (G : List D → Option Out) (k : Nat) (fa : List D → RE) : List D → RE := fun env => match env[k]? with
  | some o => if insOf cc mt o = true then bE (fa env) fun d e1 => match e1[k]? with
    | some o2 => behLN [some (k, pVar), none] e1 (G [o2, d])
    | none => none else none
  | none => none
end
def rngR (hi : Int) : Nat → List D
  | 0 => []
  | n + 1 => .int hi :: rngR (hi - 1) n
def sRevR (i : Nat) (fs : List (List D → M D)) (b : List D → Option Out) : List D → Option Out := match fs with
  | [fa, fb] => fun env => sX (fa env) env fun x => sX (fb env) env fun y => match x, y with
    | .int l, .int j => if bnd62 l = true ∧ bnd62 j = true then forF i b (rngR (j - 1) (j - l).toNat) env else none
    | _, _ => none
  | _ => fun _ => none
section
variable {W : WX} {ms : List Mo} {m : Md} {c c1 c2 : RC} {ta tb0 : TE} {f g : List D → M D}
end
end Mv

namespace Mv
open PySem L2 PySem.Spec
variable {cl : Nv}
section
variable {H H' H1 : Hp} {w w' : Om} {ms mn mx ms' : List Mo} {σ : L2.St} {env : List D} {W : WX} {m : Md} {c c1 c2 : RC} {te ta tb : TE} {f g : List D → M D} {fe fa : List D → RE} {K : PySem.W.Frag}
def eTup1E (fa : List D → RE) : List D → RE := fun env => bE (fa env) fun x e => some (.ok (.tup [x]), e)
def sRetAl (j : Nat) (fe : List D → RE) : List D → Option Out := fun env => sE (fe env) fun d e => (e[j]?).map fun d0 => Out.rt (.tup [d0, d]) e
def AlR (cl : Nv) (H' : Hp) (w' : Om) (ms : List Mo) (ks : List AK) (js : List Nat) (d : D) (v : V) : Prop :=
  ∃ (p : Addr) (v0 v1 : V) (d0 d1 : D) (j k : Nat) (s s0 : Sh) (pf : List D → Option (D → D)), d = .tup [d0, d1] ∧ v = .ref p ∧ H' p = some (.tup [v0, v1]) ∧ j ∈ js ∧ ks[j]? = some (.l k s0 pf) ∧ OwnT cl H' w' (lk ms k) s d0 v0 ∧ Rep cl H' (Fz w') d1 v1
def pinW (w : Om) (k : Nat) (v : V) (d : D) : Om := ⟨fun a => if w a = some (.ow k) then some .fo else w a, fun j => if j = k then (v, d) else w.pin j⟩
def dnM (k : Nat) (s : Sh) (m : Md) : Md := ⟨dn k s m.nx, dn k s m.bk, dn k s m.ct, dn k s m.rt, dn k s m.ex, m.rc⟩
def okpM (k : Nat) (s : Sh) (ms : List Mo) (m : Md) : Bool := okp k s ms m.nx && (okp k s ms m.bk && (okp k s ms m.ct && (okp k s ms m.rt && okp k s ms m.ex)))
def alOk (kb kt : Nat) (s : Sh) (ms : List Mo) (ks : List AK) (js : List Nat) : Bool := js.all fun j => match ks[j]? with
  | some (.l k _ _) => (decide (k = kb) || decide (k = kt)) && decide (ms[k]? = some (.ow s))
  | _ => false
end
end Mv

namespace Mv
open PySem L2
def iKeysL (td : TE) : TI := fun σ H R => td σ H fun x H1 => ∃ d kvs, x = .ref d ∧ H1 d = some (.dT kvs) ∧ ∀ o, R (Itkt d o kvs) (upd H1 d (.frz o (.dT kvs)))
def kD : Key → D
  | .inl i => .int i
  | .inr s => .str s
def dKeysT : D → Option D
  | .dctT kds => some (.lst (kds.map fun p => .tup (p.1.map kD)))
  | _ => none
variable {cl : Nv}
section
variable {H H' H1 : Hp} {w w' : Om} {ms ml : List Mo} {σ : L2.St} {env : List D} {W : WX} {m : Md} {c : RC} {te : TE} {f : List D → M D} {K : PySem.W.Frag}
end
end Mv

namespace Mv
open PySem L2
variable {cl : Nv}
def eFn1E (G : List D → Option Out) (f : List D → M D) (fe : List D → RE) : List D → RE := fun env => match f env with
  | some (.ok x) => bE (fe env) fun y e => (ofOutN (G [x, y])).map fun r => (r, e)
  | _ => none
section
variable {ms mn mx : List Mo} {W : WX} {ta tb : TE} {f : List D → M D} {fe : List D → RE}
end
end Mv

namespace Mv
open PySem L2
variable {cl : Nv}
def appC (c : Int) : D → Option D
  | .lst l => if l.length < LIM then some (.lst (l ++ [.int c])) else none
  | _ => none
def mapD (f : D → Option D) : List D → Option (List D)
  | [] => some []
  | d :: ds => (f d).bind fun x => (mapD f ds).map fun r => x :: r
def sForApp (i : Nat) (c : Int) : List D → Option Out := fun env => match env[i]? with
  | some (.lst ds) => (mapD (appC c) ds).map fun r => .nx (env.set i (.lst r))
  | _ => none
section
variable {ms : List Mo} {m : Md} {W : WX} {K : PySem.W.Frag}
end
end Mv
namespace Mv
open PySem L2
variable {cl : Nv}
def dAddL : D → D → Option D
  | .lst a, .lst b => if a.length + b.length ≤ LIM ∧ immL a = true ∧ immL b = true then some (.lst (a ++ b)) else none
  | _, _ => none
section
variable {W : WX} {ms : List Mo} {c1 c2 : RC} {ta tb : TE} {f g : List D → M D} {K : PySem.W.Frag}
end
end Mv
namespace Mv
open PySem L2
variable {cl : Nv}
section
variable {W : WX} {ms : List Mo} {c : RC} {ta : TE} {f : List D → M D} {K : PySem.W.Frag}
end
end Mv

namespace Mv
open PySem L2
variable {cl : Nv}
section
variable {ms mn mx : List Mo} {m : Md} {W : WX} {te : TE} {f : List D → M D} {fe : List D → RE} {s : Sh}
def eNn (f : List D → M D) : List D → M D := fun env => match f env with | some (.ok .non) => none | r => r
end
end Mv

namespace L2
open PySem PySem.Spec PyProof.Rows PySem.W
def rSortD (K : PySem.W.Frag) : List V → Hp → VK → Prop := fun vs H Q => ∃ (a : Addr) (us : List V) (ds : List PyData), vs = [V.ref a] ∧ SqL K H a us ∧ DpAll K H us ds ∧ AllAlike ds ∧ Sortable ds ∧ (∀ d ∈ ds, d.depth ≤ 60) ∧
  ∀ (p : Addr), H p = none → Q (.ref p) (upd H p (.lst (((us.zip ds).mergeSort (dataLe false fun z => z.2)).map (·.1))))
section
variable {X : Cx}
end
end L2
namespace Mv
open PySem L2 PySem.W PyProof.Rows
variable {cl : Nv}
def tup1 : D → Bool
  | .tup (_ :: _) => true
  | _ => false
def srtOk (ds : List D) : Bool := ds.all fun d => tup1 d && imm d && (toPy d).canLay0 && decide ((toPy d).depth ≤ 60) && ds.all fun e => alike (toPy d) (toPy e)
def dSortD : List D → Option D
  | [.lst ds] => if srtOk ds = true then some (.lst (ds.mergeSort (dataLe false toPy))) else none
  | _ => none
end Mv

namespace Mv
open PySem L2
variable {cl : Nv}
section
variable {H H' H1 : Hp} {w w' : Om} {ms : List Mo} {σ : L2.St} {env : List D} {W : WX} {m : Md} {K : PySem.W.Frag} {s : Sh} {i j : Nat}
def swN (i j k : Nat) : Nat := if k = i then j else if k = j then i else k
def swL (i j : Nat) : Option Lb → Option Lb
  | some (.ow k) => some (.ow (swN i j k))
  | o => o
def swO (i j : Nat) (w : Om) : Om := ⟨fun a => swL i j (w a), w.pin⟩
theorem sw_none {o : Option Lb} : swL i j o = none ↔ o = none := by
  cases o with
  | none => exact ⟨fun _ => rfl, fun _ => rfl⟩
  | some l => cases l <;> exact ⟨fun h => (nomatch h), fun h => (nomatch h)⟩
theorem sw_fo {o : Option Lb} (h : o = some .fo) : swL i j o = some .fo := by rw [h]; rfl
theorem sw_kp : Kp H w H (swO i j w) := ⟨⟨fun a o e h => ⟨e, sw_none.mpr h⟩, fun a o e h => ⟨e, sw_fo h⟩, rfl⟩, fun a k h => by
  show swL i j (w a) = _
  rw [h]; rfl, fun a k h => ⟨a, by
  have h : swL i j (w a) = some (.bo k) := h
  cases q : w a with
  | none => rw [q] at h; cases h
  | some l =>
    rw [q] at h
    cases l with
    | fo => cases h
    | bo n => exact h
    | ow n => cases h⟩⟩
theorem sw_own {k n : Nat} {d : D} {v : V} (hk : swN i j k = n) (h : OwnT cl H w (.ow k) s d v) : OwnT cl H (swO i j w) (.ow n) s d v := by
  obtain ⟨A, nd, t⟩ := h
  refine ⟨A, nd, t.mono (fun a o e q => ⟨e, sw_none.mpr q⟩) (fun a xs e => e) fun a _ o e q => ⟨e, ?_⟩⟩
  show swL i j (w a) = _
  have q : w a = some (.ow k) := q
  rw [q]
  show some (Lb.ow (swN i j k)) = _
  rw [hk]
theorem StOk.swap (h : StOk cl H w ms σ env) (hij : i ≠ j) (hi : ms[i]? = some (.ow s)) (hj : ms[j]? = some (.ow s)) {v1 v2 : V} {d1 d2 : D} (a1 : σ[i]? = some (some v1)) (a2 : σ[j]? = some (some v2)) (b1 : env[i]? = some d1) (b2 : env[j]? = some d2) : StOk cl H (swO i j w) ms ((σ.set i (some v2)).set j (some v1)) ((env.set i d2).set j d1) := by
  have li := (List.getElem?_eq_some_iff.mp hi).1
  have lj := (List.getElem?_eq_some_iff.mp hj).1
  have sl := h.ls
  have el := h.le
  refine ⟨fun a l e => ?_, by simp [sl], by simp [el], fun k mo e n => ?_⟩
  · have e : swL i j (w a) = some l := e
    cases q : w a with
    | none => rw [q] at e; cases e
    | some l' => exact h.wf a l' q
  · by_cases kj : k = j
    · subst kj
      rw [hj] at e
      cases e
      obtain ⟨v, d, x1, x2, o⟩ := h.sl i _ hi (by intro z; cases z)
      rw [a1] at x1
      cases x1
      rw [b1] at x2
      cases x2
      exact ⟨v1, d1, List.getElem?_set_self (by simp; omega), List.getElem?_set_self (by simp; omega), sw_own (show swN i k i = k from if_pos rfl) o⟩
    · rw [List.getElem?_set_ne (Ne.symm kj), List.getElem?_set_ne (Ne.symm kj)]
      by_cases ki : k = i
      · subst ki
        rw [hi] at e
        cases e
        obtain ⟨v, d, x1, x2, o⟩ := h.sl j _ hj (by intro z; cases z)
        rw [a2] at x1
        cases x1
        rw [b2] at x2
        cases x2
        exact ⟨v2, d2, List.getElem?_set_self (by omega), List.getElem?_set_self (by omega), sw_own (show swN k j j = k by unfold swN; rw [if_neg (Ne.symm kj), if_pos rfl]) o⟩
      · rw [List.getElem?_set_ne (Ne.symm ki), List.getElem?_set_ne (Ne.symm ki)]
        obtain ⟨v, d, x1, x2, o⟩ := h.sl k _ e n
        refine ⟨v, d, x1, x2, o.keep (sw_kp (i := i) (j := j)).keep h.wf fun a ob q e => ⟨e, ?_⟩⟩
        show swL i j (w a) = w a
        rcases q with q | q
        · rw [q]
          show some (Lb.ow (swN i j k)) = _
          unfold swN
          rw [if_neg ki, if_neg kj]
        · rw [q]; rfl
theorem StOk.any {x : Option V} (h : StOk cl H w ms σ env) (hj : ms[j]? = some .un) : StOk cl H w ms (σ.set j x) env := ⟨h.wf, by simp [h.ls], h.le, fun k mo e n => by
  by_cases kj : k = j
  · subst kj
    rw [hj] at e
    cases e
    exact absurd rfl n
  · rw [List.getElem?_set_ne (Ne.symm kj)]
    exact h.sl k mo e n⟩
def swD (i j : Nat) (e : List D) : List D := (e.set i (e.getD j .non)).set j (e.getD i .non)
def sSwp (i j : Nat) : List D → Option Out := fun env => some (.nx (swD i j env))
def rtOnly : Option Out → Option Out
  | some (.rt d e) => some (.rt d e)
  | _ => none
def sFor2 (i j : Nat) (fe : List D → RE) (ft : List D → RB) (gb : List D → Option Out) : List D → Option Out := fun env => match fe env with
  | some (.ok d2, e1) => match ft (swD i j (e1.set j d2)) with
    | some (.ok true, e2) => rtOnly (gb (swD i j e2))
    | some (.ok false, e2) => match ft (swD i j e2) with
      | some (.ok true, e3) => rtOnly (gb e3)
      | some (.ok false, e3) => some (.nx e3)
      | _ => none
    | _ => none
  | _ => none
theorem StOk.swd (h : StOk cl H w ms σ env) (hij : i ≠ j) (hi : ms[i]? = some (.ow s)) (hj : ms[j]? = some (.ow s)) {v1 v2 : V} (a1 : σ[i]? = some (some v1)) (a2 : σ[j]? = some (some v2)) : StOk cl H (swO i j w) ms ((σ.set i (some v2)).set j (some v1)) (swD i j env) := by
  obtain ⟨_, d1, _, b1, _⟩ := h.sl i _ hi (by intro z; cases z)
  obtain ⟨_, d2, _, b2, _⟩ := h.sl j _ hj (by intro z; cases z)
  have := h.swap hij hi hj a1 a2 b1 b2
  unfold swD
  rw [List.getD_eq_getElem?_getD, List.getD_eq_getElem?_getD, b1, b2]
  exact this
theorem ss_for2 {te : TE} {fe : List D → RE} {tt : TT} {ft : List D → RB} {tb : TS} {gb : List D → Option Out} (hij : i ≠ j) (hi : ms[i]? = some (.ow s)) (hj : j < ms.length) (h2 : SEE cl W ms ms m.ex (.fr s) te fe) (hI : ∀ (σ : L2.St) (x : Option V), tt (σ.set i x) = tt σ)
    (ht : STE cl W (ms.set j (.ow s)) (ms.set j (.ow s)) (ms.set j (.ow s)) tt ft) (hb : SS cl W (ms.set j .un) m tb gb) (hw : wk (ms.set j (.ow s)) (ms.set j .un) = true) (hn : wk (ms.set j (.ow s)) m.nx = true) :
    SS cl W ms m (tFor (iList K (tLst (tCons (tVar i) (tCons te tNil)))) (gName j) (tIfS tt tb tNext)) (sFor2 i j fe ft gb) := by
  intro H w σ env st o e De p
  obtain ⟨v1, d1, a1, b1, _⟩ := st.sl i _ hi (by intro z; cases z)
  have li := (List.getElem?_eq_some_iff.mp hi).1
  have sl := st.ls
  have hiM : (ms.set j (.ow s))[i]? = some (.ow s) := by rw [List.getElem?_set_ne (Ne.symm hij)]; exact hi
  have hjM : (ms.set j (.ow s))[j]? = some (.ow s) := List.getElem?_set_self hj
  unfold sFor2 at e
  cases e1 : fe env with
  | none => rw [e1] at e; cases e
  | some r1 =>
    obtain ⟨r1, e1'⟩ := r1
    rw [e1] at e
    cases r1 with
    | ex c => cases e
    | ok d2 =>
      dsimp only at e
      refine ⟨v1, a1, h2 H w σ env st _ _ e1 (fun x hx => nomatch hx) _ fun d hd H1 w1 v2 st1 k1 r => ?_⟩
      cases hd
      obtain ⟨w2, st2, k2⟩ := st1.take (i := j) r
      refine ⟨(by decide : 2 ≤ sizeLine), fun L hL => ⟨L, rfl, ⟨[v1, v2], .inl (.inl upd_same)⟩, ?_⟩⟩
      have s2 : Same H1 (upd H1 L (.lst [v1, v2])) := new_same hL
      have hL2 : upd H1 L (.lst [v1, v2]) L = some (.lst [v1, v2]) := upd_same
      generalize hH2 : upd H1 L (.lst [v1, v2]) = H2 at s2 hL2
      have st3 := st2.same s2
      have k3 : Kp H w H2 w2 := (k1.trans k2).trans (Kp.same s2)
      have wL : w2 L = none := st2.wf.fresh hL
      have x1 : (σ.set j (some v2))[i]? = some (some v1) := by rw [List.getElem?_set_ne (Ne.symm hij)]; exact a1
      have x2 : (σ.set j (some v2))[j]? = some (some v2) := List.getElem?_set_self (by omega)
      have stg := st3.swd hij hiM hjM x1 x2
      have eg : (((σ.set j (some v2)).set i (some v2)).set j (some v1)) = (σ.set j (some v1)).set i (some v2) := by rw [List.set_comm _ _ hij, List.set_set]
      rw [eg] at stg
      -- the state behind the first turn
      let G : Om → Hp → List D → Prop := fun w' H' e' => StOk cl H' w' (ms.set j (.ow s)) ((σ.set j (some v1)).set i (some v2)) e' ∧ Kp H w H' w' ∧ H' L = some (.lst [v1, v2]) ∧ w' L = none
      have back : ∀ {w' H' e'}, G w' H' e' → StOk cl H' (swO i j w') (ms.set j (.ow s)) (σ.set j (some v2)) (swD i j e') ∧ Kp H w H' (swO i j w') := fun {w' H' e'} g => by
        have y1 : ((σ.set j (some v1)).set i (some v2))[i]? = some (some v2) := List.getElem?_set_self (by simp; omega)
        have y2 : ((σ.set j (some v1)).set i (some v2))[j]? = some (some v1) := by rw [List.getElem?_set_ne hij, List.getElem?_set_self (by omega)]
        have z := g.1.swd hij hiM hjM y1 y2
        have ez : ((((σ.set j (some v1)).set i (some v2)).set i (some v1)).set j (some v2)) = σ.set j (some v2) := by
          rw [List.set_set, List.set_comm _ _ hij, List.set_set]
          refine List.ext_getElem? fun n => ?_
          by_cases hn : n = i
          · subst hn
            rw [List.getElem?_set_self (by simp; omega), x1]
          · rw [List.getElem?_set_ne (Ne.symm hn)]
        rw [ez] at z
        exact ⟨z, g.2.1.trans sw_kp⟩
      let Wn : Nat → Nat → L2.St → Hp → Prop := fun k n σ' H' => (k = 0 ∧ n = 2 ∧ σ' = σ ∧ H' = H2) ∨ (k = 1 ∧ n = 1 ∧ σ' = σ.set j (some v1) ∧ ∃ w' e', G w' H' e' ∧ (match ft (swD i j e') with
          | some (.ok true, e3) => rtOnly (gb e3)
          | some (.ok false, e3) => some (.nx e3)
          | _ => none) = some o) ∨ (k = 2 ∧ n = 0 ∧ H' L = some (.lst [v1, v2]) ∧ ∃ w' e3, StOk cl H' w' (ms.set j (.ow s)) σ' e3 ∧ Kp H w H' w' ∧ o = .nx e3)
      refine ⟨Wn, ⟨2, .inl ⟨rfl, rfl, rfl, rfl⟩⟩, fun k n σ' H' hW => ?_⟩
      rcases hW with ⟨rfl, rfl, rfl, rfl⟩ | ⟨rfl, rfl, rfl, w', e', g, e⟩ | ⟨rfl, rfl, hl, w', e3, st', kp, rfl⟩
      · right
        refine ⟨⟨[v1, v2], v1, .inl (.inl hL2), rfl⟩, fun σ2 H2 => Wn 1 1 σ2 H2, fun σ2 H2 h => ⟨1, by omega, h⟩, fun x H3 y => ?_⟩
        obtain ⟨rfl, y⟩ := y
        cases (y [v1, v2] (.inl (.inl hL2)))
        show tt (σ'.set j (some v1)) H3 _
        rw [← hI (σ'.set j (some v1)) (some v2)]
        cases e2 : ft (swD i j (e1'.set j d2)) with
        | none => rw [e2] at e; cases e
        | some r2 =>
          obtain ⟨r2, e2'⟩ := r2
          rw [e2] at e
          cases r2 with
          | ex c => cases e
          | ok b =>
            refine ht _ _ _ _ stg _ _ e2 (fun x hx => nomatch hx) _ fun b' hb' H4 w4 st4 k4 => ?_
            cases hb'
            have g : G w4 H4 e2' := ⟨st4, (k3.trans sw_kp).trans k4, k4.keep.fz L _ hL2 (sw_none.mpr wL)⟩
            cases b with
            | true =>
              rw [if_pos rfl]
              have e : rtOnly (gb (swD i j e2')) = some o := e
              cases eb : gb (swD i j e2') with
              | none => rw [eb] at e; cases e
              | some ob =>
                rw [eb] at e
                cases ob with
                | rt d ee =>
                  cases e
                  obtain ⟨bk1, bk2⟩ := back g
                  have stz := (bk1.weak hw).any (j := j) (x := some v1) (List.getElem?_set_self hj)
                  rw [List.set_set] at stz
                  exact hb _ _ _ _ stz _ eb _ (p.trans bk2)
                | _ => cases e
            | false =>
              rw [if_neg (by decide)]
              exact .inr (.inl ⟨rfl, rfl, rfl, w4, e2', g, e⟩)
      · right
        refine ⟨⟨[v1, v2], v2, .inl (.inl g.2.2.1), rfl⟩, fun σ2 H2 => Wn 2 0 σ2 H2, fun σ2 H2 h => ⟨0, by omega, h⟩, fun x H3 y => ?_⟩
        obtain ⟨rfl, y⟩ := y
        cases (y [v1, v2] (.inl (.inl g.2.2.1)))
        show tt ((σ.set j (some v1)).set j (some v2)) H3 _
        rw [List.set_set]
        obtain ⟨bk1, bk2⟩ := back g
        have gL : H3 L = some (.lst [v1, v2]) := g.2.2.1
        have wL3 : (swO i j w') L = none := sw_none.mpr g.2.2.2
        cases e2 : ft (swD i j e') with
        | none => rw [e2] at e; cases e
        | some r2 =>
          obtain ⟨r2, e2'⟩ := r2
          rw [e2] at e
          cases r2 with
          | ex c => cases e
          | ok b =>
            refine ht _ _ _ _ bk1 _ _ e2 (fun x hx => nomatch hx) _ fun b' hb' H4 w4 st4 k4 => ?_
            cases hb'
            cases b with
            | true =>
              rw [if_pos rfl]
              have e : rtOnly (gb e2') = some o := e
              cases eb : gb e2' with
              | none => rw [eb] at e; cases e
              | some ob =>
                rw [eb] at e
                cases ob with
                | rt d ee =>
                  cases e
                  exact hb _ _ _ _ (st4.weak hw) _ eb _ (p.trans (bk2.trans k4))
                | _ => cases e
            | false =>
              rw [if_neg (by decide)]
              cases e
              exact .inr (.inr ⟨rfl, rfl, (k4.keep.fz L _ gL wL3).1, w4, e2', st4, bk2.trans k4, rfl⟩)
      · left
        exact ⟨⟨[v1, v2], .inl (.inl hl), Nat.le_refl 2⟩, p H' w' σ' (st'.weak hn) kp⟩
end
end Mv

namespace Mv
open PySem L2

@[simp] theorem getE0 {a : D} {l : List D} : (a :: l)[0]? = some a := rfl
@[simp] theorem dAdd_int {i j : Int} : dAdd (.int i) (.int j) = some (.int (i + j)) := rfl
@[simp] theorem dSub_int {i j : Int} : dSub (.int i) (.int j) = some (.int (i - j)) := rfl
@[simp] theorem dNeg_int {i : Int} : dNeg (.int i) = some (.int (-i)) := rfl
@[simp] theorem dLt_int {i j : Int} : dLt (.int i) (.int j) = some (.bl (decide (i < j))) := rfl
@[simp] theorem dLe_int {i j : Int} : dLe (.int i) (.int j) = some (.bl (decide (i ≤ j))) := rfl
@[simp] theorem dGt_int {i j : Int} : dGt (.int i) (.int j) = some (.bl (decide (j < i))) := rfl
@[simp] theorem dGe_int {i j : Int} : dGe (.int i) (.int j) = some (.bl (decide (j ≤ i))) := rfl
@[simp] theorem dNot_bl {b : Bool} : dNot (.bl b) = some (.bl (!b)) := rfl
theorem shaped_int {i : Int} : SeqAt.shaped (toPy (.int i)) = true := by simp [toPy, SeqAt.shaped, PyData.canLay0, PyData.depth]
theorem eq_intL : ∀ {a b : List Int}, PyData.eqvAll (toPyL (a.map D.int)) (toPyL (b.map D.int)) = decide (a = b)
  | [], [] => by simp [toPyL, PyData.eqvAll]
  | [], _ :: _ => by simp [toPyL, PyData.eqvAll]
  | _ :: _, [] => by simp [toPyL, PyData.eqvAll]
  | x :: a, y :: b => by
    have ih := eq_intL (a := a) (b := b)
    show (PyData.eqv (toPy (.int x)) (toPy (.int y)) && PyData.eqvAll (toPyL (a.map D.int)) (toPyL (b.map D.int))) = _
    rw [ih]
    show ((x == y) && decide (a = b)) = decide (x :: a = y :: b)
    by_cases h : x = y <;> by_cases h2 : a = b <;> simp [h, h2]
theorem lay_ints : ∀ (a : List Int), PyData.canLayAll0 (toPyL (a.map D.int)) = true ∧ PyData.depthAll (toPyL (a.map D.int)) = 0
  | [] => by simp [toPyL, PyData.canLayAll0, PyData.depthAll]
  | x :: a => by
    obtain ⟨h1, h2⟩ := lay_ints a
    refine ⟨?_, ?_⟩
    · show (PyData.canLay0 (toPy (.int x)) && PyData.canLayAll0 (toPyL (a.map D.int))) = true
      rw [h1] <;> rfl
    · show max (PyData.depth (toPy (.int x))) (PyData.depthAll (toPyL (a.map D.int))) = 0
      rw [h2] <;> rfl
theorem shaped_ints (a : List Int) : SeqAt.shaped (toPy (.lst (a.map D.int))) = true := by
  obtain ⟨h1, h2⟩ := lay_ints a
  show (PyData.canLayAll0 (toPyL (a.map D.int)) && decide (PyData.depthAll (toPyL (a.map D.int)) + 1 ≤ 64)) = true
  rw [h1, h2] <;> rfl
@[simp] theorem dEq_int {i j : Int} : dEq (.int i) (.int j) = some (.bl (decide (i = j))) := by
  unfold dEq
  rw [if_pos ⟨shaped_int, shaped_int⟩]
  show some (D.bl (i == j)) = _
  rw [Bool.beq_eq_decide_eq]
@[simp] theorem dNe_int {i j : Int} : dNe (.int i) (.int j) = some (.bl (!decide (i = j))) := by
  unfold dNe
  rw [if_pos ⟨shaped_int, shaped_int⟩]
  show some (D.bl (!(i == j))) = _
  rw [Bool.beq_eq_decide_eq]
abbrev iL (l : List Int) : D := .lst (l.map D.int)
@[simp] theorem dEq_ints {a b : List Int} : dEq (iL a) (iL b) = some (.bl (decide (a = b))) := by
  unfold dEq
  rw [if_pos ⟨shaped_ints a, shaped_ints b⟩]
  show some (D.bl (PyData.eqvAll (toPyL (a.map D.int)) (toPyL (b.map D.int)))) = _
  rw [eq_intL]
@[simp] theorem dNe_ints {a b : List Int} : dNe (iL a) (iL b) = some (.bl (!decide (a = b))) := by
  unfold dNe
  rw [if_pos ⟨shaped_ints a, shaped_ints b⟩]
  show some (D.bl (!PyData.eqvAll (toPyL (a.map D.int)) (toPyL (b.map D.int)))) = _
  rw [eq_intL]
theorem immL_ints (l : List Int) : immL (l.map D.int) = true := by
  induction l with
  | nil => rfl
  | cons y r ih => exact Bool.and_eq_true_iff.mpr ⟨rfl, ih⟩
@[simp] theorem imm_int {i : Int} : imm (.int i) = true := rfl
@[simp] theorem imm_bl {i : Bool} : imm (.bl i) = true := rfl
@[simp] theorem imm_str {i : Str} : imm (.str i) = true := rfl
@[simp] theorem imm_non : imm .non = true := rfl
@[simp] theorem dLen_ints {l : List Int} : dLen [iL l] = some (.int l.length) := by simp [dLen]
@[simp] theorem dList_ints {l : List Int} : dList [iL l] = some (iL l) := if_pos (immL_ints l)
@[simp] theorem dRev_ints {l : List Int} : dRev (iL l) = some (iL l.reverse) := by
  show (if immL (l.map D.int) = true then some (D.lst (l.map D.int).reverse) else none) = _
  rw [if_pos (immL_ints l), ← List.map_reverse]
def cutI (l : List Int) (lo hi : Option Int) : List Int := (l.drop (HT.sIx l.length 0 lo)).take (HT.sIx l.length l.length hi - HT.sIx l.length 0 lo)
@[simp] theorem dCut_ints {l : List Int} {lo hi : Option Int} : dCut (iL l) lo hi = some (iL (cutI l lo hi)) := by
  show (if immL (l.map D.int) = true then some (D.lst (cutD (l.map D.int) lo hi)) else none) = _
  rw [if_pos (immL_ints l)]
  unfold cutD cutI
  rw [← List.map_drop, ← List.map_take, List.length_map]
theorem rngL_map (n : Nat) (lo : Int) : rngL lo n = (List.range n).map fun k : Nat => D.int (lo + (k : Int)) := by
  apply List.ext_getElem?
  intro k
  by_cases h : k < n
  · have h2 := rngL_get n lo k h
    have h3 : ((rngL lo n).drop k)[0]? = some (.int (lo + k)) := by rw [h2]; rfl
    rw [List.getElem?_drop, Nat.add_zero] at h3
    rw [h3]
    simp [h]
  · rw [List.getElem?_eq_none (by rw [rngL_len]; omega), List.getElem?_eq_none (by simp; omega)]
theorem fn_rt {g : List D → Option Out} {n : Nat} {rp : Bool} {ds : List D} {d : D} {e : List D} (h : g (ds ++ List.replicate (n - ds.length) .non) = some (.rt d e)) : fnOf g n rp ds = some (.rt d e) := by
  unfold fnOf
  rw [h]
theorem fn_nx {g : List D → Option Out} {n : Nat} {ds : List D} {e : List D} (h : g (ds ++ List.replicate (n - ds.length) .non) = some (.nx e)) : fnOf g n true ds = some (.rt .non e) := by
  unfold fnOf
  rw [h]
  rfl
theorem law_sp {cl : Nv} {G : List D → Option Out} {H : Hp} {a : Addr} {ns : List Int} (hS : SqL cl.K H a (ns.map V.int)) (hG : ∃ e, G [iL ns] = some (.rt (.bl true) e)) :
    spOf cl [.sc] .pu G [.ref a] H (fun v _ => v = .bl true) fun _ _ _ => False := by
  obtain ⟨e, hG⟩ := hG
  refine ⟨⟨fun _ => none, fun _ => (.non, .non)⟩, [iL ns], _, rfl, rfl, fun _ _ z => absurd z (by simp), fun i m hi hm => ?_, hG, fun H' w' v k wf r _ => ?_⟩
  · match i, hi with
    | 0, hi =>
      have e' : Mo.sc = m := Option.some.inj hi
      subst e'
      refine ⟨_, _, rfl, rfl, a, ns, rfl, rfl, ?_⟩
      rcases hS with r | z
      · exact .inl ⟨r, .inl rfl⟩
      · exact .inr z
    | i + 1, hi => simp at hi
  · have r' : Rep cl H' (Fz w') (.bl true) v := r
    cases r'
    rfl
end Mv

namespace Mv
open PySem L2
abbrev eL {α : Type} (e : α → D) (l : List α) : D := .lst (l.map e)
def eO {α : Type} (e : α → D) : Option α → D
  | none => .non
  | some x => e x
abbrev eU (_ : Unit) : D := .non
abbrev e2 {α β : Type} (a : α → D) (b : β → D) (p : α × β) : D := .tup [a p.1, b p.2]
abbrev e3 {α β γ : Type} (a : α → D) (b : β → D) (c : γ → D) (p : α × β × γ) : D := .tup [a p.1, b p.2.1, c p.2.2]
abbrev e4 {α β γ δ : Type} (a : α → D) (b : β → D) (c : γ → D) (d : δ → D) (p : α × β × γ × δ) : D := .tup [a p.1, b p.2.1, c p.2.2.1, d p.2.2.2]
abbrev e5 {α β γ δ ε : Type} (a : α → D) (b : β → D) (c : γ → D) (d : δ → D) (f : ε → D) (p : α × β × γ × δ × ε) : D := .tup [a p.1, b p.2.1, c p.2.2.1, d p.2.2.2.1, f p.2.2.2.2]
def Ev {α : Type} (e : α → D) (x : Option α) (m : M D) : Prop := ∀ a, x = some a → m = some (.ok (e a))
def EvB (x : Option Bool) (m : M Bool) : Prop := ∀ a, x = some a → m = some (.ok a)
def EvL {α : Type} (e : α → D) (x : Option (List α)) (m : M (List D)) : Prop := ∀ l, x = some l → m = some (.ok (l.map e))
def Sm {Ω : Type} (Ro : Ω → Out → Prop) (T : Option Ω) (g : Option Out) : Prop := ∀ c, T = some c → ∃ o, g = some o ∧ Ro c o
def isLv : Out → Bool
  | .rt _ _ => true
  | .ex _ _ => true
  | _ => false
def RoF {σ : Type} (mk : σ → (Nat → D) → List D) (s : σ) (o : Out) : Prop := ∃ δ, o = .nx (mk s δ)
def RoX {Ω : Type} (Ro : Ω → Out → Prop) (c : Ω) (o : Out) : Prop := Ro c o ∧ isLv o = true
def RoC {σ Ω : Type} (mk : σ → (Nat → D) → List D) (Ro : Ω → Out → Prop) : σ ⊕ Ω → Out → Prop
  | .inl s, o => RoF mk s o
  | .inr c, o => RoX Ro c o
def onS {σ Ω γ : Type} (k : σ → Option γ) (j : Ω → Option γ) : σ ⊕ Ω → Option γ
  | .inl s => k s
  | .inr c => j c
@[simp] theorem onS_l {σ Ω γ : Type} {k : σ → Option γ} {j : Ω → Option γ} {s : σ} : onS k j (.inl s) = k s := rfl
@[simp] theorem onS_r {σ Ω γ : Type} {k : σ → Option γ} {j : Ω → Option γ} {s : Ω} : onS k j (.inr s) = j s := rfl
def thenC {σ Ω : Type} (L : Option (σ ⊕ Ω)) (K : σ → Option Ω) : Option Ω := L.bind (onS K some)
def forO {σ α : Type} (B : σ → α → Option σ) : List α → σ → Option σ
  | [], s => some s
  | x :: l, s => (B s x).bind fun t => forO B l t
def forC {σ α Ω : Type} (B : σ → α → Option (σ ⊕ Ω)) : List α → σ → Option (σ ⊕ Ω)
  | [], s => some (.inl s)
  | x :: l, s => (B s x).bind (onS (fun t => forC B l t) fun c => some (.inr c))
def whN {σ : Type} (t : σ → Option Bool) (B : σ → Option σ) : Nat → σ → Option σ
  | 0, _ => none
  | n + 1, s => (t s).bind fun c => if c = true then (B s).bind fun s' => whN t B n s' else some s
def whNC {σ Ω : Type} (t : σ → Option Bool) (B : σ → Option (σ ⊕ Ω)) : Nat → σ → Option (σ ⊕ Ω)
  | 0, _ => none
  | n + 1, s => (t s).bind fun c => if c = true then (B s).bind (onS (fun s' => whNC t B n s') fun c => some (.inr c)) else some (.inl s)
open Classical in
noncomputable def whO {σ : Type} (t : σ → Option Bool) (B : σ → Option σ) (s : σ) : Option σ := if h : ∃ n r, whN t B n s = some r then some (choose (choose_spec h)) else none
open Classical in
noncomputable def whC {σ Ω : Type} (t : σ → Option Bool) (B : σ → Option (σ ⊕ Ω)) (s : σ) : Option (σ ⊕ Ω) := if h : ∃ n r, whNC t B n s = some r then some (choose (choose_spec h)) else none
theorem whN_mono {σ : Type} {t : σ → Option Bool} {B : σ → Option σ} : ∀ {n k : Nat} {s r : σ}, n ≤ k → whN t B n s = some r → whN t B k s = some r
  | 0, _, _, _, _, h => by cases h
  | n + 1, 0, _, _, hk, _ => absurd hk (Nat.not_succ_le_zero _)
  | n + 1, k + 1, s, r, hk, h => by
    unfold whN at h ⊢
    cases e : t s with
    | none => rw [e] at h; cases h
    | some c =>
      rw [e] at h
      cases c with
      | false => exact h
      | true =>
        simp only [Option.bind_some, if_true] at h ⊢
        cases e1 : B s with
        | none => rw [e1] at h; cases h
        | some s' => rw [e1] at h; exact whN_mono (Nat.le_of_succ_le_succ hk) h
theorem whO_eq {σ : Type} {t : σ → Option Bool} {B : σ → Option σ} {n : Nat} {s r : σ} (h : whN t B n s = some r) : whO t B s = some r := by
  have h' : ∃ n r, whN t B n s = some r := ⟨n, r, h⟩
  unfold whO
  rw [dif_pos h']
  have q := Classical.choose_spec (Classical.choose_spec h')
  have q1 := whN_mono (Nat.le_max_left n (Classical.choose h')) h
  have q2 := whN_mono (Nat.le_max_right n (Classical.choose h')) q
  rw [q1] at q2
  exact congrArg some (Option.some.inj q2).symm
theorem whO_of {σ : Type} {t : σ → Option Bool} {B : σ → Option σ} {s r : σ} (h : whO t B s = some r) : ∃ n, whN t B n s = some r := by
  unfold whO at h
  split at h
  · rename_i h'
    refine ⟨Classical.choose h', ?_⟩
    rw [← h]
    exact Classical.choose_spec (Classical.choose_spec h')
  · cases h
section
variable {Ω σ α β : Type} {Ro : Ω → Out → Prop} {e : α → D} {X : Option α} {i : Nat} {f g fi : List D → M D} {rest a b s1 : List D → Option Out} {env : List D} {mk : σ → (Nat → D) → List D} {t : List D → M Bool} {C : Option Bool}
theorem sm_end {T : Option Ω} (h : Sm Ro T (sSeq a sNext env)) : Sm Ro T (a env) := fun c hc => by
  obtain ⟨o, h1, h2⟩ := h c hc
  refine ⟨o, ?_, h2⟩
  rw [← h1]
  unfold sSeq
  cases a env with
  | none => rfl
  | some o => cases o <;> rfl
theorem sm_next {c : Ω} (h : Ro c (.nx env)) : Sm Ro (some c) (sNext env) := fun _ hc => by cases hc; exact ⟨_, rfl, h⟩
theorem sm_if {A B : Option σ} {K : σ → Option Ω} (mk : σ → (Nat → D) → List D) (ht : EvB C (t env)) (ha : Sm (RoF mk) A (a env)) (hb : Sm (RoF mk) B (b env)) (k : ∀ s δ, Sm Ro (K s) (rest (mk s δ))) : Sm Ro ((C.bind fun c => if c = true then A else B).bind K) (sSeq (sIf t a b) rest env) := fun c hc => by
  obtain ⟨s, h1, h2⟩ := Option.bind_eq_some_iff.mp hc
  obtain ⟨y, h3, h4⟩ := Option.bind_eq_some_iff.mp h1
  have key : ∃ δ, sIf t a b env = some (.nx (mk s δ)) := by
    unfold sIf
    rw [ht y h3]
    cases y with
    | true =>
      obtain ⟨o, h5, δ, rfl⟩ := ha s (by simpa using h4)
      exact ⟨δ, h5⟩
    | false =>
      obtain ⟨o, h5, δ, rfl⟩ := hb s (by simpa using h4)
      exact ⟨δ, h5⟩
  obtain ⟨δ, h6⟩ := key
  obtain ⟨o, h7, h8⟩ := k s δ c h2
  refine ⟨o, ?_, h8⟩
  unfold sSeq
  rw [h6]
  exact h7
theorem sm_ifA {A B : Option Ω} (ht : EvB C (t env)) (ha : Sm (RoX Ro) A (a env)) (hb : Sm Ro B (sSeq b rest env)) : Sm Ro (C.bind fun c => if c = true then A else B) (sSeq (sIf t a b) rest env) := fun c hc => by
  obtain ⟨y, h3, h4⟩ := Option.bind_eq_some_iff.mp hc
  cases y with
  | true =>
    obtain ⟨o, h5, h6, h7⟩ := ha c (by simpa using h4)
    refine ⟨o, ?_, h6⟩
    unfold sSeq sIf
    rw [ht _ h3]
    simp only [h5]
    cases o with
    | rt d e => rfl
    | ex c e => rfl
    | _ => cases h7
  | false =>
    obtain ⟨o, h5, h6⟩ := hb c (by simpa using h4)
    refine ⟨o, ?_, h6⟩
    rw [← h5]
    unfold sSeq sIf
    rw [ht _ h3]
theorem sm_ifE {A B : Option Ω} (ht : EvB C (t env)) (ha : Sm Ro A (a env)) (hb : Sm Ro B (b env)) : Sm Ro (C.bind fun c => if c = true then A else B) (sIf t a b env) := fun c hc => by
  obtain ⟨y, h3, h4⟩ := Option.bind_eq_some_iff.mp hc
  cases y with
  | true =>
    obtain ⟨o, h5, h6⟩ := ha c (by simpa using h4)
    exact ⟨o, by unfold sIf; rw [ht _ h3]; exact h5, h6⟩
  | false =>
    obtain ⟨o, h5, h6⟩ := hb c (by simpa using h4)
    exact ⟨o, by unfold sIf; rw [ht _ h3]; exact h5, h6⟩
theorem sm_seqC {L : Option (σ ⊕ Ω)} {K : σ → Option Ω} (mk : σ → (Nat → D) → List D) (h : Sm (RoC mk Ro) L (a env)) (k : ∀ s δ, Sm Ro (K s) (rest (mk s δ))) : Sm Ro (thenC L K) (sSeq a rest env) := fun c hc => by
  obtain ⟨z, h1, h2⟩ := Option.bind_eq_some_iff.mp hc
  obtain ⟨o, h3, h4⟩ := h z h1
  cases z with
  | inl s =>
    obtain ⟨δ, rfl⟩ := h4
    obtain ⟨o, h5, h6⟩ := k s δ c h2
    refine ⟨o, ?_, h6⟩
    unfold sSeq
    rw [h3]
    exact h5
  | inr w =>
    cases h2
    obtain ⟨h5, h6⟩ := h4
    refine ⟨o, ?_, h5⟩
    unfold sSeq
    rw [h3]
    cases o with
    | rt d e => rfl
    | ex c e => rfl
    | _ => cases h6
theorem sm_seqF {O : Option σ} {K : σ → Option Ω} (mk : σ → (Nat → D) → List D) (h : Sm (RoF mk) O (a env)) (k : ∀ s δ, Sm Ro (K s) (rest (mk s δ))) : Sm Ro (O.bind K) (sSeq a rest env) := fun c hc => by
  obtain ⟨s, h1, h2⟩ := Option.bind_eq_some_iff.mp hc
  obtain ⟨o, h3, δ, rfl⟩ := h s h1
  obtain ⟨o, h5, h6⟩ := k s δ c h2
  refine ⟨o, ?_, h6⟩
  unfold sSeq
  rw [h3]
  exact h5
theorem forF_O {B : σ → α → Option σ} {b : List D → Option Out} (mk : σ → (Nat → D) → List D) (hb : ∀ s x δ, Sm (RoF mk) (B s x) (b ((mk s δ).set i (e x)))) : ∀ (l : List α) (s : σ) (δ : Nat → D), Sm (RoF mk) (forO B l s) (forF i b (l.map e) (mk s δ))
  | [], s, δ => fun c hc => by cases hc; exact ⟨_, rfl, δ, rfl⟩
  | x :: l, s, δ => fun c hc => by
    obtain ⟨t, h1, h2⟩ := Option.bind_eq_some_iff.mp hc
    obtain ⟨o, h3, δ', rfl⟩ := hb s x δ t h1
    obtain ⟨o, h4, h5⟩ := forF_O mk hb l t δ' c h2
    refine ⟨o, ?_, h5⟩
    show forF i b (e x :: l.map e) (mk s δ) = _
    unfold forF
    rw [h3]
    exact h4
theorem forF_C {B : σ → α → Option (σ ⊕ Ω)} {b : List D → Option Out} (mk : σ → (Nat → D) → List D) (hb : ∀ s x δ, Sm (RoC mk Ro) (B s x) (b ((mk s δ).set i (e x)))) : ∀ (l : List α) (s : σ) (δ : Nat → D), Sm (RoC mk Ro) (forC B l s) (forF i b (l.map e) (mk s δ))
  | [], s, δ => fun c hc => by cases hc; exact ⟨_, rfl, δ, rfl⟩
  | x :: l, s, δ => fun c hc => by
    obtain ⟨z, h1, h2⟩ := Option.bind_eq_some_iff.mp hc
    obtain ⟨o, h3, h4⟩ := hb s x δ z h1
    cases z with
    | inl t =>
      obtain ⟨δ', rfl⟩ := h4
      obtain ⟨o, h5, h6⟩ := forF_C mk hb l t δ' c h2
      refine ⟨o, ?_, h6⟩
      show forF i b (e x :: l.map e) (mk s δ) = _
      unfold forF
      rw [h3]
      exact h5
    | inr w =>
      cases h2
      obtain ⟨h5, h6⟩ := h4
      refine ⟨o, ?_, h5, h6⟩
      show forF i b (e x :: l.map e) (mk s δ) = _
      unfold forF
      rw [h3]
      cases o with
      | rt d e => rfl
      | ex c e => rfl
      | _ => cases h6
theorem forT_O {is : List Nat} {B : σ → α → Option σ} {b : List D → Option Out} (fl : α → List D) (mk : σ → (Nat → D) → List D) (st : α → σ → (Nat → D) → List D) (hs : ∀ s x δ, setAll is (fl x) (mk s δ) = some (st x s δ)) (hb : ∀ s x δ, Sm (RoF mk) (B s x) (b (st x s δ))) : ∀ (l : List α) (s : σ) (δ : Nat → D), Sm (RoF mk) (forO B l s) (forT is b (l.map fun x => .tup (fl x)) (mk s δ))
  | [], s, δ => fun c hc => by cases hc; exact ⟨_, rfl, δ, rfl⟩
  | x :: l, s, δ => fun c hc => by
    obtain ⟨t, h1, h2⟩ := Option.bind_eq_some_iff.mp hc
    obtain ⟨o, h3, δ', rfl⟩ := hb s x δ t h1
    obtain ⟨o, h4, h5⟩ := forT_O fl mk st hs hb l t δ' c h2
    refine ⟨o, ?_, h5⟩
    show forT is b (.tup (fl x) :: l.map fun x => .tup (fl x)) (mk s δ) = _
    unfold forT
    rw [hs]
    simp only [h3]
    exact h4
def rgI (lo : Int) (n : Nat) : List Int := (List.range n).map fun k : Nat => lo + (k : Int)
theorem rgI_map (lo : Int) (n : Nat) : (rgI lo n).map D.int = rngL lo n := by rw [rngL_map]; simp [rgI]
def rg1T (j : Int) : Option (List Int) := if bnd62 j = true then some (rgI 0 j.toNat) else none
def rg2T (l j : Int) : Option (List Int) := if bnd62 l = true ∧ bnd62 j = true then some (rgI l (j - l).toNat) else none
def Src (e : α → D) (X : Option (List α)) (i : Nat) (S : (List D → Option Out) → List D → Option Out) (env : List D) : Prop := ∀ l, X = some l → ∀ b, S b env = forF i b (l.map e) env
theorem src_list {X : Option (List α)} (h : Ev (eL e) X (f env)) : Src e X i (sFor i f) env := fun l hl b => by
  unfold sFor
  rw [h l hl]
  rfl
theorem src_r1 {X : Option Int} (h : Ev D.int X (f env)) : Src D.int (X.bind rg1T) i (sRng i [f]) env := fun l hl b => by
  obtain ⟨j, h1, h2⟩ := Option.bind_eq_some_iff.mp hl
  unfold rg1T at h2
  split at h2
  · rename_i hb
    cases h2
    have h3 := h j h1
    unfold sRng eArgs eArgs
    rw [h3]
    simp only [bd_ok, hb, if_true, rgI_map]
  · cases h2
theorem sm_for {S : (List D → Option Out) → List D → Option Out} {X : Option (List α)} {B : σ → α → Option σ} {s0 : σ} {δ0 : Nat → D} {K : σ → Option Ω} {b : List D → Option Out} (mk : σ → (Nat → D) → List D) (hs : Src e X i S env) (h0 : env = mk s0 δ0) (hb : ∀ s x δ, Sm (RoF mk) (B s x) (b ((mk s δ).set i (e x)))) (k : ∀ s δ, Sm Ro (K s) (rest (mk s δ))) :
    Sm Ro ((X.bind fun l => forO B l s0).bind K) (sSeq (S b) rest env) := sm_seqF mk (fun c hc => by
  obtain ⟨l, h1, h2⟩ := Option.bind_eq_some_iff.mp hc
  rw [hs l h1, h0]
  exact forF_O mk hb l s0 δ0 c h2) k
theorem sm_forC {S : (List D → Option Out) → List D → Option Out} {X : Option (List α)} {B : σ → α → Option (σ ⊕ Ω)} {s0 : σ} {δ0 : Nat → D} {K : σ → Option Ω} {b : List D → Option Out} (mk : σ → (Nat → D) → List D) (hs : Src e X i S env) (h0 : env = mk s0 δ0) (hb : ∀ s x δ, Sm (RoC mk Ro) (B s x) (b ((mk s δ).set i (e x)))) (k : ∀ s δ, Sm Ro (K s) (rest (mk s δ))) :
    Sm Ro (thenC (X.bind fun l => forC B l s0) K) (sSeq (S b) rest env) := sm_seqC mk (fun c hc => by
  obtain ⟨l, h1, h2⟩ := Option.bind_eq_some_iff.mp hc
  rw [hs l h1, h0]
  exact forF_C mk hb l s0 δ0 c h2) k
theorem sm_forT {is : List Nat} {X : Option (List α)} {B : σ → α → Option σ} {s0 : σ} {δ0 : Nat → D} {K : σ → Option Ω} {b : List D → Option Out} (fl : α → List D) (mk : σ → (Nat → D) → List D) (st : α → σ → (Nat → D) → List D) (hs : ∀ s x δ, setAll is (fl x) (mk s δ) = some (st x s δ)) (hx : Ev (eL fun x => .tup (fl x)) X (f env)) (h0 : env = mk s0 δ0) (hb : ∀ s x δ, Sm (RoF mk) (B s x) (b (st x s δ))) (k : ∀ s δ, Sm Ro (K s) (rest (mk s δ))) :
    Sm Ro ((X.bind fun l => forO B l s0).bind K) (sSeq (sForT is f b) rest env) := sm_seqF mk (fun c hc => by
  obtain ⟨l, h1, h2⟩ := Option.bind_eq_some_iff.mp hc
  unfold sForT
  rw [hx l h1]
  subst h0
  exact forT_O fl mk st hs hb l s0 δ0 c h2) k
theorem sm_while {B : σ → Option σ} {tt : σ → Option Bool} {s0 : σ} {δ0 : Nat → D} {K : σ → Option Ω} {b : List D → Option Out} (mk : σ → (Nat → D) → List D) (h0 : env = mk s0 δ0) (ht : ∀ s δ, EvB (tt s) (t (mk s δ))) (hb : ∀ s δ, Sm (RoF mk) (B s) (b (mk s δ))) (k : ∀ s δ, Sm Ro (K s) (rest (mk s δ))) :
    Sm Ro ((whO tt B s0).bind K) (sSeq (sWhile t b) rest env) := sm_seqF mk (fun c hc => by
  obtain ⟨n, h1⟩ := whO_of hc
  have key : ∀ (n : Nat) (s : σ) (δ : Nat → D), whN tt B n s = some c → ∃ δ', whF t b n (mk s δ) = some (.nx (mk c δ')) := by
    intro n
    induction n with
    | zero => intro s δ h; cases h
    | succ n ih =>
      intro s δ h
      obtain ⟨y, h2, h3⟩ := Option.bind_eq_some_iff.mp h
      unfold whF
      rw [ht s δ y h2]
      cases y with
      | false =>
        have : s = c := by simpa using h3
        subst this
        exact ⟨δ, rfl⟩
      | true =>
        obtain ⟨s', h4, h5⟩ := Option.bind_eq_some_iff.mp (show (B s).bind (fun s' => whN tt B n s') = some c from by simpa using h3)
        obtain ⟨o, h6, δ', rfl⟩ := hb s δ s' h4
        obtain ⟨δ2, h7⟩ := ih s' δ' h5
        refine ⟨δ2, ?_⟩
        simp only [h6]
        exact h7
  obtain ⟨δ', h2⟩ := key n s0 δ0 h1
  refine ⟨_, ?_, δ', rfl⟩
  rw [h0]
  exact sWhile_eq h2) k
end
end Mv

namespace Mv
open PySem L2
section
variable {α β γ : Type} {e e' : α → D} {ea : α → D} {eb : β → D} {ec : γ → D} {X : Option α} {Y : Option β} {f g : List D → M D} {env : List D} {i : Nat}
def toIntD : D → Option Int
  | .int i => some i
  | _ => none
theorem toIntD_ok (a : D) (b : Int) (h : toIntD a = some b) : D.int b = a := by
  cases a <;> cases h
  rfl
def Im (e : α → D) : Prop := ∀ a, imm (e a) = true
theorem im_int : Im D.int := fun _ => rfl
theorem im_str : Im D.str := fun _ => rfl
theorem im_bl : Im D.bl := fun _ => rfl
theorem im_L (h : Im e) : ∀ l : List α, immL (l.map e) = true
  | [] => rfl
  | x :: l => Bool.and_eq_true_iff.mpr ⟨h x, im_L h l⟩
theorem im_4 {δ ε : Type} {ed : δ → D} {ee : ε → D} (ha : Im ea) (hb : Im eb) (hc : Im ed) (hd : Im ee) : Im (e4 ea eb ed ee) := fun p => by
  show (imm (ea p.1) && (imm (eb p.2.1) && (imm (ed p.2.2.1) && (imm (ee p.2.2.2) && true)))) = true
  rw [ha, hb, hc, hd] <;> rfl
def mulT (i j : Int) : Option Int := if CMul i j then some (i * j) else none
theorem mulT_ok (a b c : Int) (h : mulT a b = some c) : dMul (.int a) (.int b) = some (.int c) := by
  unfold mulT at h
  split at h
  · rename_i hc; cases h; exact if_pos hc
  · cases h
def divT (i j : Int) : Option Int := if 0 < j ∧ j < 1073741824 then some (i / j) else none
theorem divT_ok (a b c : Int) (h : divT a b = some c) : dDiv (.int a) (.int b) = some (.int c) := by
  unfold divT at h
  split at h
  · rename_i hc; cases h; exact if_pos hc
  · cases h
def modT (i j : Int) : Option Int := if 0 < j then some (i % j) else none
theorem modT_ok (a b c : Int) (h : modT a b = some c) : dMod (.int a) (.int b) = some (.int c) := by
  unfold modT at h
  split at h
  · rename_i hc; cases h; exact if_pos hc
  · cases h
def addT (a b : List α) : Option (List α) := if a.length + b.length ≤ LIM then some (a ++ b) else none
theorem addT_ok (hi : Im e) (a b c : List α) (h : addT a b = some c) : dAdd (eL e a) (eL e b) = some (eL e c) := by
  unfold addT at h
  split at h
  · rename_i hl
    cases h
    show (if (a.map e).length + (b.map e).length ≤ LIM ∧ immL (a.map e) = true ∧ immL (b.map e) = true then some (D.lst (a.map e ++ b.map e)) else none) = _
    rw [if_pos ⟨by simpa using hl, im_L hi a, im_L hi b⟩, ← List.map_append]
  · cases h
def adsT (a b : Str) : Option Str := if a.length + b.length ≤ LIM then some (a ++ b) else none
def repT (a : List α) (k : Int) : Option (List α) := if a.length * k.toNat ≤ LIM ∧ bnd63 k = true then some (List.replicate k.toNat a).flatten else none
def ixT (l : List α) (k : Int) : Option α := (ixN l.length k).bind fun n => l[n]?
theorem ixT_ok (a : List α) (k : Int) (c : α) (h : ixT a k = some c) : dIx (eL e a) (.int k) = some (e c) := by
  obtain ⟨n, h1, h2⟩ := Option.bind_eq_some_iff.mp h
  show atI (a.map e) k = _
  exact atI_of (by rw [List.length_map]; exact h1) (by rw [List.getElem?_map, h2]; rfl)
def cutL (l : List α) (lo hi : Option Int) : List α := (l.drop (HT.sIx l.length 0 lo)).take (HT.sIx l.length l.length hi - HT.sIx l.length 0 lo)
theorem cutL_map (l : List α) (lo hi : Option Int) : cutD (l.map e) lo hi = (cutL l lo hi).map e := by
  unfold cutD cutL
  rw [List.length_map, List.map_take, List.map_drop]
theorem ev_sl {X : Option (List α)} {lo hi : Option (List D → M D)} {l h : Option Int} (hi' : Im e) (hx : Ev (eL e) X (f env)) (hl : eOpt lo env = some (.ok l)) (hh : eOpt hi env = some (.ok h)) : Ev (eL e) (X.bind fun a => some (cutL a l h)) (eSl f lo hi env) := fun c hc => by
  obtain ⟨a, h1, h2⟩ := Option.bind_eq_some_iff.mp hc
  cases h2
  unfold eSl
  rw [hx a h1, bd_ok, hl, bd_ok, hh, bd_ok]
  show lift (if immL (a.map e) = true then some (D.lst (cutD (a.map e) l h)) else none) = _
  rw [if_pos (im_L hi' a), cutL_map]
  rfl
theorem dListR_ok (a : Int) (c : List Int) (h : (if bndL a = true then some (rgI 0 a.toNat) else none) = some c) : dListR (.int a) = some (eL D.int c) := by
  split at h
  · rename_i hb
    cases h
    show (if bndL a = true then some (D.lst (rngL 0 a.toNat)) else none) = _
    rw [if_pos hb, ← rgI_map]
  · cases h
def lrgT (a : Int) : Option (List Int) := if bndL a = true then some (rgI 0 a.toNat) else none
structure Eqb [DecidableEq α] (e : α → D) (n : Nat) : Prop where
  lay : ∀ a, (toPy (e a)).canLay0 = true
  dep : ∀ a, PyData.depth (toPy (e a)) ≤ n
  eqv : ∀ a b, PyData.eqv (toPy (e a)) (toPy (e b)) = decide (a = b)
theorem eqb_int : Eqb D.int 0 := ⟨fun _ => rfl, fun _ => Nat.le_refl _, fun a b => rfl⟩
theorem eqb_bl : Eqb D.bl 0 := ⟨fun _ => rfl, fun _ => Nat.le_refl _, fun a b => by cases a <;> cases b <;> rfl⟩
theorem eqb_O [DecidableEq α] {n : Nat} (h : Eqb e n) (hn : ∀ a, PyData.eqv .none (toPy (e a)) = false ∧ PyData.eqv (toPy (e a)) .none = false) : Eqb (eO e) n := ⟨fun a => by
  cases a with
  | none => rfl
  | some x => exact h.lay x, fun a => by
  cases a with
  | none => exact Nat.zero_le _
  | some x => exact h.dep x, fun a b => by
  cases a with
  | none =>
    cases b with
    | none => rfl
    | some y => exact (hn y).1.trans (by simp)
  | some x =>
    cases b with
    | none => exact (hn x).2.trans (by simp)
    | some y => exact (h.eqv x y).trans (by simp)⟩
theorem eqb_L [DecidableEq α] {n : Nat} (h : Eqb e n) : Eqb (eL e) (n + 1) := by
  have k1 : ∀ l : List α, PyData.canLayAll0 (toPyL (l.map e)) = true := fun l => by
    induction l with
    | nil => rfl
    | cons x l ih => show ((toPy (e x)).canLay0 && PyData.canLayAll0 (toPyL (l.map e))) = true; rw [h.lay, ih]; rfl
  have k2 : ∀ l : List α, PyData.depthAll (toPyL (l.map e)) ≤ n := fun l => by
    induction l with
    | nil => exact Nat.zero_le _
    | cons x l ih => show max (PyData.depth (toPy (e x))) (PyData.depthAll (toPyL (l.map e))) ≤ n; have := h.dep x; omega
  have k3 : ∀ a b : List α, PyData.eqvAll (toPyL (a.map e)) (toPyL (b.map e)) = decide (a = b) := fun a => by
    induction a with
    | nil => intro b; cases b <;> simp [toPyL, PyData.eqvAll]
    | cons x a ih =>
      intro b
      cases b with
      | nil => simp [toPyL, PyData.eqvAll]
      | cons y b =>
        show (PyData.eqv (toPy (e x)) (toPy (e y)) && PyData.eqvAll (toPyL (a.map e)) (toPyL (b.map e))) = _
        rw [ih, h.eqv]
        by_cases h1 : x = y <;> by_cases h2 : a = b <;> simp [h1, h2]
  exact ⟨k1, fun l => Nat.succ_le_succ (k2 l), k3⟩
theorem eqb_2 [DecidableEq α] [DecidableEq β] {n : Nat} (ha : Eqb ea n) (hb : Eqb eb n) : Eqb (e2 ea eb) (n + 1) := ⟨fun p => by
  show ((toPy (ea p.1)).canLay0 && ((toPy (eb p.2)).canLay0 && true)) = true
  rw [ha.lay, hb.lay]; rfl, fun p => by
  show max (PyData.depth (toPy (ea p.1))) (max (PyData.depth (toPy (eb p.2))) 0) + 1 ≤ n + 1
  have := ha.dep p.1; have := hb.dep p.2; omega, fun p q => by
  show (PyData.eqv (toPy (ea p.1)) (toPy (ea q.1)) && (PyData.eqv (toPy (eb p.2)) (toPy (eb q.2)) && true)) = _
  rw [ha.eqv, hb.eqv]
  obtain ⟨p1, p2⟩ := p
  obtain ⟨q1, q2⟩ := q
  by_cases h1 : p1 = q1 <;> by_cases h2 : p2 = q2 <;> simp [h1, h2]⟩
theorem Eqb.le [DecidableEq α] {n k : Nat} (h : Eqb e n) (hk : n ≤ k) : Eqb e k := ⟨h.lay, fun a => Nat.le_trans (h.dep a) hk, h.eqv⟩
theorem Eqb.sh [DecidableEq α] {n : Nat} (h : Eqb e n) (hn : n ≤ 64) (a : α) : SeqAt.shaped (toPy (e a)) = true := by
  show ((toPy (e a)).canLay0 && decide (PyData.depth (toPy (e a)) ≤ 64)) = true
  rw [h.lay, decide_eq_true (Nat.le_trans (h.dep a) hn)] <;> rfl
theorem Eqb.eq [DecidableEq α] {n : Nat} (h : Eqb e n) (hn : n ≤ 64 := by decide) (a b : α) : dEq (e a) (e b) = some (.bl (decide (a = b))) := by
  unfold dEq
  rw [if_pos ⟨h.sh hn a, h.sh hn b⟩, h.eqv]
theorem Eqb.ne [DecidableEq α] {n : Nat} (h : Eqb e n) (hn : n ≤ 64 := by decide) (a b : α) : dNe (e a) (e b) = some (.bl (!decide (a = b))) := by
  unfold dNe
  rw [if_pos ⟨h.sh hn a, h.sh hn b⟩, h.eqv]
def seqT (a b : Str) : Option Bool := if PyData.strOk a = true ∧ PyData.strOk b = true then some (decide (a = b)) else none
def sneT (a b : Str) : Option Bool := if PyData.strOk a = true ∧ PyData.strOk b = true then some (!decide (a = b)) else none
theorem shaped_s {s : Str} (h : PyData.strOk s = true) : SeqAt.shaped (toPy (.str s)) = true := by simp [toPy, SeqAt.shaped, PyData.canLay0, PyData.depth, h]
theorem seqT_ok (a b : Str) (c : Bool) (h : seqT a b = some c) : dEq (.str a) (.str b) = some (.bl c) := by
  unfold seqT at h
  split at h
  · rename_i hq
    cases h
    unfold dEq
    rw [if_pos ⟨shaped_s hq.1, shaped_s hq.2⟩]
    show some (D.bl (a == b)) = _
    rw [Bool.beq_eq_decide_eq]
  · cases h
def Nn (e : α → D) : Prop := ∀ a, isNon (e a) = false
theorem isN_ok (h : Nn e) (a : Option α) (b : Unit) : dIsN (eO e a) (eU b) = some (.bl a.isNone) := by
  cases a with
  | none => rfl
  | some x => show some (D.bl (isNon (e x))) = _; rw [h]; rfl
theorem notN_ok (h : Nn e) (a : Option α) (b : Unit) : dNotN (eO e a) (eU b) = some (.bl a.isSome) := by
  cases a with
  | none => rfl
  | some x => show some (D.bl (!isNon (e x))) = _; rw [h]; rfl
variable {t u : List D → M Bool} {A B : Option Bool}
end
section
variable {α β γ δ ε ρ : Type} {ea : α → D} {eb : β → D} {ec : γ → D} {ed : δ → D} {ee : ε → D} {er : ρ → D} {X : Option α} {Y : Option β} {Z : Option γ} {U : Option δ} {V' : Option ε} {f1 f2 f3 f4 f5 f6 : List D → M D} {env : List D}
def EvA (P : List D → Option ρ) (m : M (List D)) (X : Option ρ) : Prop := ∀ r, X = some r → ∃ ds, m = some (.ok ds) ∧ P ds = some r
def AA (X : Option (List D)) (m : M (List D)) : Prop := ∀ ds, X = some ds → m = some (.ok ds)
def Fn (er : ρ → D) (T : Option ρ) (o : Option Out) : Prop := ∀ r, T = some r → ∃ e, o = some (.rt (er r) e)
theorem sm_bind {Ω : Type} {Ro : Ω → Out → Prop} {T : α → Option Ω} {g : Option Out} (hx : ∀ a, X = some a → Sm Ro (T a) g) : Sm Ro (X.bind T) g := fun r hr => by
  obtain ⟨a, h1, h2⟩ := Option.bind_eq_some_iff.mp hr
  exact hx a h1 r h2
end
end Mv

namespace Mv
open PySem L2
section
variable {α β γ ρ Ω : Type} {Ro : Ω → Out → Prop} {e : α → D} {ea : α → D} {eb : β → D} {ec : γ → D} {er : ρ → D} {X : Option α} {Y : Option β} {f g fi fk : List D → M D} {env : List D} {i : Nat} {rest : List D → Option Out} {a b : List D → Option Out}
def mapO (y : α → Option β) : List α → Option (List β)
  | [] => some []
  | x :: l => (y x).bind fun z => (mapO y l).bind fun r => some (z :: r)
def filO (t : α → Option Bool) (y : α → Option β) : List α → Option (List β)
  | [] => some []
  | x :: l => (t x).bind fun c => if c = true then (y x).bind fun z => (filO t y l).bind fun r => some (z :: r) else filO t y l
theorem lcF_O {t : List D → M Bool} {T : α → Option Bool} {y : α → Option β} (ht : ∀ x, EvB (T x) (t (env.set i (ea x)))) (hg : ∀ x, Ev eb (y x) (g (env.set i (ea x)))) : ∀ (l : List α) (r : List β), filO T y l = some r → lcF i t g (l.map ea) env = some (r.map eb)
  | [], r, h => by cases h; rfl
  | x :: l, r, h => by
    obtain ⟨c, h1, h2⟩ := Option.bind_eq_some_iff.mp h
    show (okO (t (env.set i (ea x)))).bind (fun b => if b = true then (okO (g (env.set i (ea x)))).bind fun y => (lcF i t g (l.map ea) env).map (y :: ·) else lcF i t g (l.map ea) env) = _
    rw [ht x c h1]
    cases c with
    | false => exact lcF_O ht hg l r (by simpa using h2)
    | true =>
      obtain ⟨z, h3, h4⟩ := Option.bind_eq_some_iff.mp (show (y x).bind (fun z => (filO T y l).bind fun r => some (z :: r)) = some r from by simpa using h2)
      obtain ⟨r', h5, h6⟩ := Option.bind_eq_some_iff.mp h4
      cases h6
      show (okO (g (env.set i (ea x)))).bind (fun y => (lcF i t g (l.map ea) env).map (y :: ·)) = _
      rw [hg x z h3, lcF_O ht hg l r' h5]
      rfl
theorem filO_yes {y : α → Option β} : ∀ l : List α, filO (fun _ => some true) y l = mapO y l
  | [] => rfl
  | x :: l => by unfold filO mapO; simp only [Option.bind_some, if_true]; rw [filO_yes l]
theorem tT_ok {env : List D} : EvB (some true) (tT env) := fun c hc => by cases hc; rfl
def lcT (t : α → Option Bool) (y : α → Option β) (l : List α) : Option (List β) := if l.length ≤ LIM then filO t y l else none
def lcM (y : α → Option β) (l : List α) : Option (List β) := if l.length ≤ LIM then mapO y l else none
def lcP (y : α → β) (l : List α) : Option (List β) := if l.length ≤ LIM then some (l.map y) else none
theorem lc_all {t : List D → M Bool} {T : α → Option Bool} {y : α → Option β} (ht : ∀ x, EvB (T x) (t (env.set i (ea x)))) (hg : ∀ x, Ev eb (y x) (g (env.set i (ea x)))) {l : List α} {r : List β} (h : lcT T y l = some r) {n : Nat} (hn : n = l.length) : (if n ≤ LIM then lift ((lcF i t g (l.map ea) env).map D.lst) else none) = some (.ok (eL eb r)) := by
  unfold lcT at h
  split at h
  · rename_i hl
    rw [if_pos (by rw [hn]; exact hl), lcF_O ht hg l r h]
    rfl
  · cases h
theorem ev_lcT {t : List D → M Bool} {T : α → Option Bool} {y : α → Option β} {X : Option (List α)} (hx : Ev (eL ea) X (f env)) (ht : ∀ x, EvB (T x) (t (env.set i (ea x)))) (hg : ∀ x, Ev eb (y x) (g (env.set i (ea x)))) : Ev (eL eb) (X.bind fun l => lcT T y l) (eLc i f t g env) := fun r hr => by
  obtain ⟨l, h1, h2⟩ := Option.bind_eq_some_iff.mp hr
  unfold eLc
  rw [hx l h1]
  exact lc_all ht hg h2 (by simp)
theorem lcM_T {y : α → Option β} {l : List α} : lcM y l = lcT (fun _ => some true) y l := by unfold lcM lcT; rw [filO_yes]
theorem ev_lcM {y : α → Option β} {X : Option (List α)} (hx : Ev (eL ea) X (f env)) (hg : ∀ x, Ev eb (y x) (g (env.set i (ea x)))) : Ev (eL eb) (X.bind fun l => lcM y l) (eLc i f tT g env) := fun r hr => by
  obtain ⟨l, h1, h2⟩ := Option.bind_eq_some_iff.mp hr
  rw [lcM_T] at h2
  exact ev_lcT hx (fun _ => tT_ok) hg r (Option.bind_eq_some_iff.mpr ⟨l, h1, h2⟩)
def lr1 (j : Int) : Option (List Int) := if bndL j = true then some (rgI 0 j.toNat) else none
def lr2 (l j : Int) : Option (List Int) := if bnd62 l = true ∧ bnd62 j = true ∧ (j - l).toNat ≤ LIM then some (rgI l (j - l).toNat) else none
theorem rgI_len (lo : Int) (n : Nat) : (rgI lo n).length = n := by simp [rgI]
def Mkd (er : ρ → D) (T : Option ρ) (o : Option Out) : Prop := ∀ r, T = some r → ∃ e, o = some (.rt .non e) ∧ e[0]? = some (er r)
def appT (l : List α) (x : α) : Option (List α) := if l.length < LIM then some (l ++ [x]) else none
def setI (l : List α) (k : Int) (x : α) : List α := match ixN l.length k with
  | some n => l.set n x
  | none => l
def inR (l : List α) (k : Int) : Bool := (ixN l.length k).isSome
def setT (l : List α) (k : Int) (x : α) : Option (List α) := if inR l k = true then some (setI l k x) else none
def EvE (er : ρ → D) (mk : ρ → List D) (T : Option ρ) (r : RE) : Prop := ∀ c, T = some c → r = some (.ok (er c), mk c)
def popAtT (l : List α) (k : Int) : Option (α × List α) := if bnd63 k = true then (ixN l.length k).bind fun n => l[n]?.bind fun x => some (x, l.eraseIdx n) else none
def popT (l : List α) : Option (α × List α) := l[l.length - 1]?.bind fun x => some (x, l.dropLast)
def dropT (l : List α) : Option (List α) := if l.length = 0 then none else some l.dropLast
end
end Mv

namespace Mv
open PySem L2
abbrev Yi (m : M D) (d : D) : Prop := m = some (.ok d)
abbrev Te (m : M Bool) (b : Bool) : Prop := m = some (.ok b)
abbrev Ya (m : M (List D)) (ds : List D) : Prop := m = some (.ok ds)
section
variable {α β γ ρ Ω σ : Type} {Ro : Ω → Out → Prop} {e : α → D} {ea : α → D} {eb : β → D} {ec : γ → D} {er : ρ → D} {f g fi : List D → M D} {t u : List D → M Bool} {env env' : List D} {i : Nat} {rest a b : List D → Option Out} {d d' x y z : D} {fs : List (List D → M D)} {ds : List D} {A B c : Bool}
theorem yi_c : Yi (eC d env) d := rfl
theorem yi_var (h : env[i]? = some d) : Yi (eVar i env) d := by unfold Yi eVar; rw [h]; rfl
theorem yi_op {op : D → D → Option D} (h : Yi (f env) x) (h' : Yi (g env) y) (ho : op x y = some z) : Yi (eOp op f g env) z := by
  unfold Yi eOp; rw [h, bd_ok, h', bd_ok, ho]; rfl
theorem yi_un {op : D → Option D} (h : Yi (f env) x) (ho : op x = some z) : Yi (eUn op f env) z := by
  unfold Yi eUn; rw [h, bd_ok, ho]; rfl
theorem yi_imm (h : Yi (f env) x) (hi : imm x = true) : Yi (eImm f env) x := by
  unfold Yi eImm; rw [h, bd_ok, if_pos hi]
theorem ya_nil : Ya (eArgs [] env) [] := rfl
theorem ya_cons (h : Yi (f env) x) (h' : Ya (eArgs fs env) ds) : Ya (eArgs (f :: fs) env) (x :: ds) := by
  unfold Ya eArgs; rw [h, bd_ok, h']; rfl
theorem yi_lst (h : Ya (eArgs fs env) ds) (hl : ds.length ≤ 100 := by decide) : Yi (eLst fs env) (.lst ds) := by
  unfold Yi eLst; rw [h, bd_ok, if_pos (by unfold LIM; omega)]
theorem yi_tup (h : Ya (eArgs fs env) ds) (hl : ds.length ≤ 100 := by decide) : Yi (eTup fs env) (.tup ds) := by
  unfold Yi eTup; rw [h, bd_ok, if_pos (by unfold LIM; omega)]
theorem yi_call {op : List D → Option D} (h : Ya (eArgs fs env) ds) (ho : op ds = some z) : Yi (eCall op fs env) z := by
  unfold Yi eCall; rw [h, bd_ok, ho]; rfl
theorem yi_nm {v w : α} {m : M D} (h : some v = some w) (p : Yi m (e v)) : Yi m (e w) := by cases h; exact p
theorem yi_get {m : M D} {X : Option α} {v : α} (h : X = some v) (p : Yi m (eO e X)) : Yi m (e v) := by subst h; exact p
theorem yi_cv {m : M D} (p : Yi m d) (h : d = d') : Yi m d' := h ▸ p
theorem te_nm {m : M Bool} {v w : Bool} (h : some v = some w) (p : Te m v) : Te m w := by cases h; exact p
theorem bindE {X : Option α} {K : α → Option β} {r : β} {P : Prop} (h : X.bind K = some r) (k : ∀ x, X = some x → K x = some r → P) : P := by
  obtain ⟨a, h1, h2⟩ := Option.bind_eq_some_iff.mp h
  exact k a h1 h2
theorem te_T (h : Yi (f env) (.bl A)) : Te (eT f env) A := by unfold Te eT; rw [h]; rfl
theorem te_not (h : Te (t env) A) : Te (eNot t env) (!A) := by unfold Te eNot; rw [h]; rfl
theorem te_or (h : Te (t env) A) (h' : Te (u env) B) : Te (eOr t u env) (A || B) := by
  unfold Te eOr; rw [h]; cases A
  · exact h'
  · rfl
theorem te_andB {Z : Option Bool} (h : Te (t env) A) (h' : ∀ b, Z = some b → Te (u env) b) (hc : (if A = true then Z else some false) = some c) : Te (eAnd t u env) c := by
  unfold Te eAnd; rw [h]
  cases A with
  | true => exact h' c (by simpa using hc)
  | false => cases (show some false = some c by simpa using hc); rfl
theorem yo_n : eOpt none env = some (.ok none) := rfl
theorem yo_s {k : Int} (h : Yi (f env) (.int k)) : eOpt (some f) env = some (.ok (some k)) := by
  show bd (f env) toI = _
  rw [h]
  rfl
theorem yi_sl {v : List α} {lo hi : Option (List D → M D)} {l h : Option Int} (hi' : Im e) (hx : Yi (f env) (eL e v)) (hl : eOpt lo env = some (.ok l)) (hh : eOpt hi env = some (.ok h)) : Yi (eSl f lo hi env) (eL e (cutL v l h)) :=
  ev_sl (X := some v) hi' (fun a ha => by cases ha; exact hx) hl hh _ rfl
def FnP (o : Option Out) (d : D) (P : List D → Prop) : Prop := ∃ e, o = some (.rt d e) ∧ P e
theorem yi_fnN {G : List D → Option Out} {P : List D → Prop} (h : Ya (eArgs fs env) ds) (hg : FnP (G ds) d P) : Yi (eFnN G fs env) d := by
  obtain ⟨e, h1, _⟩ := hg
  unfold Yi eFnN; rw [h, bd_ok, h1]; rfl
theorem yi_meN {G : List D → Option Out} {P : List D → Prop} {cc : String} {mt : Str} (ho : Yi (f env) x) (hi : insOf cc mt x = true) (h : Ya (eArgs fs env) ds) (hg : FnP (G (x :: ds)) d P) : Yi (eMeN cc mt G f fs env) d := by
  obtain ⟨e, h1, _⟩ := hg
  unfold Yi eMeN; rw [ho, bd_ok, if_pos hi, h, bd_ok, h1]; rfl
theorem yi_me {G : List D → Option Out} {P : List D → Prop} {cc : String} {mt : Str} (ho : Yi (f env) x) (hi : insOf cc mt x = true) (h : Ya (eArgs fs env) ds) (hg : FnP (G (x :: ds)) d P) : Yi (eMe cc mt G f fs env) d := by
  obtain ⟨e, h1, _⟩ := hg
  unfold Yi eMe; rw [ho, bd_ok, if_pos hi, h, bd_ok, h1]; rfl
theorem yi_mkN {G : List D → Option Out} {cc : String} (h : Ya (eArgs fs env) ds) (hg : FnP (G (.ins cc [] :: ds)) .non fun e => e[0]? = some d) : Yi (eMakeN cc G fs env) d := by
  obtain ⟨e, h1, h2⟩ := hg
  unfold Yi eMakeN; rw [h, bd_ok, h1]; show lift e[0]? = _; rw [h2]; rfl
theorem yi_mk {G : List D → Option Out} {cc : String} (h : Ya (eArgs fs env) ds) (hg : FnP (G (.ins cc [] :: ds)) .non fun e => e[0]? = some d) : Yi (eMake cc G fs env) d := by
  obtain ⟨e, h1, h2⟩ := hg
  unfold Yi eMake; rw [h, bd_ok, h1]; show lift e[0]? = _; rw [h2]; rfl
theorem yi_scr {G : List D → Option Out} {P : List D → Prop} {s : D} (hs : env[i]? = some s) (h : Yi (f env) y) (hg : FnP (G [s, y]) d P) : Yi ((fun env => bd (lift env[i]?) fun s => bd (f env) fun y => ofOutN (G [s, y])) env) d := by
  obtain ⟨e, h1, _⟩ := hg
  show bd (lift env[i]?) (fun s => bd (f env) fun y => ofOutN (G [s, y])) = _
  rw [hs]
  simp only [lift_some, bd_ok]
  rw [h, bd_ok, h1]; rfl
def lcFP (p : α → Bool) (y : α → β) (l : List α) : Option (List β) := if l.length ≤ LIM then some ((l.filter p).map y) else none
theorem yi_lcT {T : α → Option Bool} {Y : α → Option β} {l : List α} {r : List β} (hx : Yi (f env) (eL ea l)) (ht : ∀ x b, T x = some b → Te (t (env.set i (ea x))) b) (hg : ∀ x r, Y x = some r → Yi (g (env.set i (ea x))) (eb r)) (h : lcT T Y l = some r) : Yi (eLc i f t g env) (eL eb r) :=
  ev_lcT (X := some l) (fun a ha => by cases ha; exact hx) (fun x b hb => ht x b hb) (fun x r hr => hg x r hr) r h
theorem yi_lcM {Y : α → Option β} {l : List α} {r : List β} (hx : Yi (f env) (eL ea l)) (hg : ∀ x r, Y x = some r → Yi (g (env.set i (ea x))) (eb r)) (h : lcM Y l = some r) : Yi (eLc i f tT g env) (eL eb r) :=
  ev_lcM (X := some l) (fun a ha => by cases ha; exact hx) (fun x r hr => hg x r hr) r h
structure Pt (env : List D) (f : List D → M D) (pf : List D → Option (D → D)) (d : D) (R : D → D) : Prop where
  val : Yi (f env) d
  wr : pf env = some R
theorem pt_var (h : env[i]? = some d) : Pt env (eVar i) pVar d fun z => z := ⟨yi_var h, rfl⟩
def ixn (n : Nat) (k : Int) : Nat := (ixN n k).getD 0
theorem pt_fld {pf : List D → Option (D → D)} {R : D → D} {cc : String} {nm : Str} {fl : List (Str × D)} (h : Pt env f pf (.ins cc fl) R) (hx : dFld cc nm (.ins cc fl) = some x) : Pt env (eUn (dFld cc nm) f) (pFd nm f pf) x fun z => R (.ins cc (putD nm z fl)) := by
  refine ⟨yi_un h.val hx, ?_⟩
  unfold pFd
  rw [h.wr, h.val]
theorem sm_env {T : Option Ω} {g : List D → Option Out} (h : env = env') (k : Sm Ro T (g env')) : Sm Ro T (g env) := h ▸ k
theorem sn_set {T : Option Ω} (d : D) (env' : List D) (h : Yi (f env) d) (he : env.set i d = env') (k : Sm Ro T (rest env')) : Sm Ro T (sSeq (sSet i f) rest env) := fun c hc => by
  obtain ⟨o, h3, h4⟩ := k c hc
  refine ⟨o, ?_, h4⟩
  unfold sSeq sSet
  rw [h]
  show rest (env.set i d) = _
  rw [he]; exact h3
theorem sn_drop {T : Option Ω} (h : Yi (f env) d) (k : Sm Ro T (rest env)) : Sm Ro T (sSeq (sDrop f) rest env) := fun c hc => by
  obtain ⟨o, h3, h4⟩ := k c hc
  refine ⟨o, ?_, h4⟩
  unfold sSeq sDrop
  rw [h]; exact h3
theorem sn_ret {c : Ω} (d : D) (h : Yi (f env) d) (k : Ro c (.rt d env)) : Sm Ro (some c) (sRet f env) := fun c' hc => by
  cases hc
  refine ⟨_, ?_, k⟩
  unfold sRet
  rw [h]; rfl
theorem sn_fall {s : σ} (mk : σ → (Nat → D) → List D) (h : env = mk s fun j => env.getD j .non) : Sm (RoF mk) (some s) (sNext env) := sm_next ⟨_, congrArg _ h⟩
theorem sn_fallC {s : σ} (mk : σ → (Nat → D) → List D) (h : env = mk s fun j => env.getD j .non) : Sm (RoC mk Ro) (some (.inl s)) (sNext env) := sm_next ⟨_, congrArg _ h⟩
theorem rc_in {mk : σ → (Nat → D) → List D} {c : Ω} {o : Out} (h : Ro c o) (hl : isLv o = true) : RoC mk Ro (.inr c) o := ⟨h, hl⟩
theorem rx_in {c : Ω} {o : Out} (h : Ro c o) (hl : isLv o = true) : RoX Ro c o := ⟨h, hl⟩
theorem sn_if {P Q : Option σ} {K : σ → Option Ω} (mk : σ → (Nat → D) → List D) (ht : Te (t env) c) (ha : Sm (RoF mk) P (a env)) (hb : Sm (RoF mk) Q (b env)) (k : ∀ s δ, Sm Ro (K s) (rest (mk s δ))) : Sm Ro ((if c = true then P else Q).bind K) (sSeq (sIf t a b) rest env) :=
  sm_if (C := some c) mk (fun _ h => by cases h; exact ht) ha hb k
theorem sn_ifA {P Q : Option Ω} (ht : Te (t env) c) (ha : Sm (RoX Ro) P (a env)) (hb : Sm Ro Q (sSeq b rest env)) : Sm Ro (if c = true then P else Q) (sSeq (sIf t a b) rest env) :=
  sm_ifA (C := some c) (fun _ h => by cases h; exact ht) ha hb
theorem sn_ifE {P Q : Option Ω} (ht : Te (t env) c) (ha : Sm Ro P (a env)) (hb : Sm Ro Q (b env)) : Sm Ro (if c = true then P else Q) (sIf t a b env) :=
  sm_ifE (C := some c) (fun _ h => by cases h; exact ht) ha hb
theorem sn_skip {T : Option Ω} (k : Sm Ro T (rest env)) : Sm Ro T (sSeq sNext rest env) := k
theorem sq_assoc {T : Option Ω} {s1 : List D → Option Out} (k : Sm Ro T (sSeq a (sSeq b rest) env)) : Sm Ro T (sSeq (sSeq a b) rest env) := fun c hc => by
  obtain ⟨o, h1, h2⟩ := k c hc
  refine ⟨o, ?_, h2⟩
  rw [← h1]
  unfold sSeq
  cases a env with
  | none => rfl
  | some o => cases o <;> rfl
def SrcE (e : α → D) (l : List α) (i : Nat) (S : (List D → Option Out) → List D → Option Out) (env : List D) : Prop := ∀ b, S b env = forF i b (l.map e) env
theorem sr_list {l : List α} (h : Yi (f env) (eL e l)) : SrcE e l i (sFor i f) env := fun b => src_list (X := some l) (fun a ha => by cases ha; exact h) l rfl b
theorem sr_r1 {j : Int} {l : List Int} (h : Yi (f env) (.int j)) (hl : rg1T j = some l) : SrcE D.int l i (sRng i [f]) env := fun b => src_r1 (X := some j) (fun a ha => by cases ha; exact h) l hl b
theorem sn_for {S : (List D → Option Out) → List D → Option Out} {l : List α} {B : σ → α → Option σ} {s0 : σ} {K : σ → Option Ω} {b : List D → Option Out} (mk : σ → (Nat → D) → List D) (hs : SrcE e l i S env) (h0 : env = mk s0 fun j => env.getD j .non) (hb : ∀ s x δ, Sm (RoF mk) (B s x) (b ((mk s δ).set i (e x)))) (k : ∀ s δ, Sm Ro (K s) (rest (mk s δ))) :
    Sm Ro ((forO B l s0).bind K) (sSeq (S b) rest env) :=
  sm_for (X := some l) mk (fun l' hl b => by cases hl; exact hs b) h0 hb k
theorem sn_forC {S : (List D → Option Out) → List D → Option Out} {l : List α} {B : σ → α → Option (σ ⊕ Ω)} {s0 : σ} {K : σ → Option Ω} {b : List D → Option Out} (mk : σ → (Nat → D) → List D) (hs : SrcE e l i S env) (h0 : env = mk s0 fun j => env.getD j .non) (hb : ∀ s x δ, Sm (RoC mk Ro) (B s x) (b ((mk s δ).set i (e x)))) (k : ∀ s δ, Sm Ro (K s) (rest (mk s δ))) :
    Sm Ro (thenC (forC B l s0) K) (sSeq (S b) rest env) :=
  sm_forC (X := some l) mk (fun l' hl b => by cases hl; exact hs b) h0 hb k
theorem sn_forT {is : List Nat} {l : List α} {B : σ → α → Option σ} {s0 : σ} {K : σ → Option Ω} {b : List D → Option Out} (fl : α → List D) (mk : σ → (Nat → D) → List D) (st : α → σ → (Nat → D) → List D) (hs : ∀ s x δ, setAll is (fl x) (mk s δ) = some (st x s δ)) (hx : Yi (f env) (eL (fun x => .tup (fl x)) l)) (h0 : env = mk s0 fun j => env.getD j .non) (hb : ∀ s x δ, Sm (RoF mk) (B s x) (b (st x s δ))) (k : ∀ s δ, Sm Ro (K s) (rest (mk s δ))) :
    Sm Ro ((forO B l s0).bind K) (sSeq (sForT is f b) rest env) :=
  sm_forT (X := some l) fl mk st hs (fun a ha => by cases ha; exact hx) h0 hb k
theorem sn_while {B : σ → Option σ} {tt : σ → Option Bool} {s0 : σ} {K : σ → Option Ω} {b : List D → Option Out} (mk : σ → (Nat → D) → List D) (h0 : env = mk s0 fun j => env.getD j .non) (ht : ∀ s δ c, tt s = some c → Te (t (mk s δ)) c) (hb : ∀ s δ, Sm (RoF mk) (B s) (b (mk s δ))) (k : ∀ s δ, Sm Ro (K s) (rest (mk s δ))) :
    Sm Ro ((whO tt B s0).bind K) (sSeq (sWhile t b) rest env) := sm_while mk h0 (fun s δ c h => ht s δ c h) hb k
theorem appT_of {l l' : List α} {v : α} (h : appT l v = some l') : l.length < LIM ∧ l' = l ++ [v] := by
  unfold appT at h
  split at h
  · rename_i hl; cases h; exact ⟨hl, rfl⟩
  · cases h
theorem sn_app {T : Option Ω} {pf : List D → Option (D → D)} {R : D → D} {l l' : List α} {v : α} (env' : List D) (hp : Pt env f pf (eL e l) R) (hg : Yi (g env) (e v)) (h : appT l v = some l') (he : env.set i (R (eL e l')) = env') (k : Sm Ro T (rest env')) : Sm Ro T (sSeq (sAppP i f pf g) rest env) := fun c hc => by
  obtain ⟨hl, rfl⟩ := appT_of h
  obtain ⟨o, h5, h6⟩ := k c hc
  refine ⟨o, ?_, h6⟩
  have : sAppP i f pf g env = some (.nx env') := by
    unfold sAppP
    rw [hp.val]
    simp only [sX_ok]
    rw [hg]
    simp only [sX_ok, hp.wr]
    rw [if_pos (by simpa using hl), ← he]
    simp [eL]
  unfold sSeq
  rw [this]
  exact h5
def sTT (l : List α) (k : Int) (v : α) : Option (List α) := (ixN l.length k).map fun n => l.set n v
theorem sn_set1 {T : Option Ω} {pf : List D → Option (D → D)} {R : D → D} {l l' : List α} {v : α} {k : Int} (env' : List D) (hg : Yi (g env) (e v)) (hp : Pt env f pf (eL e l) R) (hk : Yi (fi env) (.int k)) (h : sTT l k v = some l') (he : env.set i (R (eL e l')) = env') (k' : Sm Ro T (rest env')) : Sm Ro T (sSeq (sSetP i f fi pf g) rest env) := fun c hc => by
  obtain ⟨n, hn, rfl⟩ := Option.map_eq_some_iff.mp h
  obtain ⟨o, h5, h6⟩ := k' c hc
  refine ⟨o, ?_, h6⟩
  have : sSetP i f fi pf g env = some (.nx env') := by
    unfold sSetP
    rw [hg]
    simp only [sX_ok]
    rw [hp.val]
    simp only [sX_ok, eL]
    rw [hk]
    simp only [sX_ok, hp.wr, List.length_map, hn]
    rw [← he]
    simp [eL, List.map_set]
  unfold sSeq
  rw [this]
  exact h5
theorem sn_unp {T : Option Ω} {is : List Nat} (env' : List D) (hx : Yi (f env) (.tup ds)) (hs : setAll is ds env = some env') (k : Sm Ro T (rest env')) : Sm Ro T (sSeq (sUnp is f) rest env) := fun c hc => by
  obtain ⟨o, h3, h4⟩ := k c hc
  refine ⟨o, ?_, h4⟩
  unfold sSeq sUnp
  rw [hx]
  simp only [sX_ok, hs, Option.map_some]
  exact h3
abbrev Ye (r : RE) (d : D) (env' : List D) : Prop := r = some (.ok d, env')
variable {fe : List D → RE}
theorem sn_setE {T : Option Ω} (env1 env' : List D) (h : Ye (fe env) d env1) (he : env1.set i d = env') (k : Sm Ro T (rest env')) : Sm Ro T (sSeq (sSetE i fe) rest env) := fun c hc => by
  obtain ⟨o, h3, h4⟩ := k c hc
  refine ⟨o, ?_, h4⟩
  unfold sSeq sSetE
  rw [h]
  show rest (env1.set i d) = _
  rw [he]; exact h3
theorem sn_dropE {T : Option Ω} (env1 : List D) (h : Ye (fe env) d env1) (k : Sm Ro T (rest env1)) : Sm Ro T (sSeq (sDropE fe) rest env) := fun c hc => by
  obtain ⟨o, h3, h4⟩ := k c hc
  refine ⟨o, ?_, h4⟩
  unfold sSeq sDropE
  rw [h]; exact h3
theorem sn_retE {c : Ω} (d : D) (env1 : List D) (h : Ye (fe env) d env1) (k : Ro c (.rt d env1)) : Sm Ro (some c) (sRetE fe env) := fun c' hc => by
  cases hc
  refine ⟨_, ?_, k⟩
  unfold sRetE
  rw [h]; rfl
theorem sIfE_eq (env1 : List D) (h : Ye (fe env) (.bl c) env1) : sIfE fe a b env = sIf (fun _ => some (.ok c)) a b env1 := by
  unfold sIfE sIf
  rw [h]
  cases c <;> rfl
theorem sn_ifEq {T : Option Ω} (env1 : List D) (h : Ye (fe env) (.bl c) env1) (k : Sm Ro T (sSeq (sIf (fun _ => some (.ok c)) a b) rest env1)) : Sm Ro T (sSeq (sIfE fe a b) rest env) := by
  unfold sSeq at k ⊢
  rw [sIfE_eq env1 h]
  exact k
theorem ye_mv (h : env[i]? = some d) : Ye (eMv i env) d env := by unfold Ye eMv; rw [h]; rfl
theorem up_n {ls : Lds} {j : Nat} {e env0 e' e2 : List D} (h : updL ls (j + 1) e env0 e' = some e2) : updL (none :: ls) j e env0 e' = some e2 := h
theorem up_s {ls : Lds} {j k : Nat} {e env0 e' e2 : List D} {pf : List D → Option (D → D)} {R : D → D} (hp : pf env0 = some R) (he : e[j]? = some d) (h : updL ls (j + 1) e env0 (e'.set k (R d)) = some e2) : updL (some (k, pf) :: ls) j e env0 e' = some e2 := by
  show (match pf env0, e[j]? with
    | some R, some d => updL ls (j + 1) e env0 (e'.set k (R d))
    | _, _ => none) = _
  rw [hp, he]
  exact h
theorem ye_callN {G : List D → Option Out} {ls : Lds} {P : List D → Prop} (env' : List D) (h : Ya (eArgs fs env) ds) (hg : FnP (G ds) d P) (hu : ∀ e, P e → updL ls 0 e env env = some env') : Ye (eCallLN G fs ls env) d env' := by
  obtain ⟨e, h1, h2⟩ := hg
  unfold Ye eCallLN
  rw [h]
  simp only [h1, behLN, hu e h2, Option.map_some]
theorem ye_meN {G : List D → Option Out} {ls : Lds} {P : List D → Prop} {cc : String} {mt : Str} (env' : List D) (ho : Yi (f env) x) (hi : insOf cc mt x = true) (h : Ya (eArgs fs env) ds) (hg : FnP (G (x :: ds)) d P) (hu : ∀ e, P e → updL ls 0 e env env = some env') : Ye (eMethLN cc mt G f fs ls env) d env' := by
  obtain ⟨e, h1, h2⟩ := hg
  unfold Ye eMethLN
  rw [ho]
  simp only [hi, if_true]
  rw [h]
  simp only [h1, behLN, hu e h2, Option.map_some]
theorem ye_me {G : List D → Option Out} {ls : Lds} {P : List D → Prop} {cc : String} {mt : Str} (env' : List D) (ho : Yi (f env) x) (hi : insOf cc mt x = true) (h : Ya (eArgs fs env) ds) (hg : FnP (G (x :: ds)) d P) (hu : ∀ e, P e → updL ls 0 e env env = some env') : Ye (eMethL cc mt G f fs ls env) d env' := by
  obtain ⟨e, h1, h2⟩ := hg
  unfold Ye eMethL
  rw [ho]
  simp only [hi, if_true]
  rw [h]
  simp only [h1, behL, hu e h2, Option.map_some]
theorem sn_fld {T : Option Ω} {pf : List D → Option (D → D)} {R : D → D} {cc : String} {nm : Str} {fl : List (Str × D)} (env' : List D) (hg : Yi (g env) x) (hp : Pt env f pf (.ins cc fl) R) (hl : fl.length < 900) (he : env.set i (R (.ins cc (putD nm x fl))) = env') (k : Sm Ro T (rest env')) : Sm Ro T (sSeq (sFldP i cc nm f pf g) rest env) := fun c hc => by
  obtain ⟨o, h3, h4⟩ := k c hc
  refine ⟨o, ?_, h4⟩
  have : sFldP i cc nm f pf g env = some (.nx env') := by
    unfold sFldP
    rw [hg]
    simp only [sX_ok]
    rw [hp.val]
    simp only [sX_ok, hp.wr, hl, and_self, if_true, true_and, he]
  unfold sSeq
  rw [this]
  exact h3
theorem sn_fldE {T : Option Ω} {cc : String} {nm : Str} {fl : List (Str × D)} (env1 env' : List D) (hg : Ye (fe env) x env1) (h1 : env1[i]? = some (.ins cc fl)) (hl : fl.length < 900) (he : env1.set i (.ins cc (putD nm x fl)) = env') (k : Sm Ro T (rest env')) : Sm Ro T (sSeq (sFldE i cc nm fe) rest env) := fun c hc => by
  obtain ⟨o, h3, h4⟩ := k c hc
  refine ⟨o, ?_, h4⟩
  have : sFldE i cc nm fe env = some (.nx env') := by
    unfold sFldE
    rw [hg]
    simp only [sE_ok, h1, hl, and_self, if_true, true_and, he]
  unfold sSeq
  rw [this]
  exact h3
def RoV (er : ρ → D) (P : ρ → List D → Prop) (c : ρ) (o : Out) : Prop := ∃ e, o = .rt (er c) e ∧ P c e
def RoN (er : ρ → D) (P : ρ → List D → Prop) (c : ρ) (o : Out) : Prop := RoV er P c o ∨ (er c = .non ∧ ∃ e, o = .nx e ∧ P c e)
theorem rv {P : ρ → List D → Prop} {c : ρ} {e : List D} (h : P c e) : RoV er P c (.rt (er c) e) := ⟨e, rfl, h⟩
theorem rn_end {P : ρ → List D → Prop} {c : ρ} {e : List D} (h0 : er c = .non) (h : P c e) : RoN er P c (.nx e) := .inr ⟨h0, e, rfl, h⟩
theorem fnV {n : Nat} {rp : Bool} {P : ρ → List D → Prop} {T : Option ρ} {r : ρ} {g : List D → Option Out} (h : Sm (RoV er P) T (g (ds ++ List.replicate (n - ds.length) .non))) (hT : T = some r) : FnP (fnOf g n rp ds) (er r) (P r) := by
  obtain ⟨o, h1, e, h2, h3⟩ := h r hT
  subst h2
  exact ⟨e, fn_rt h1, h3⟩
theorem fnN {n : Nat} {P : ρ → List D → Prop} {T : Option ρ} {r : ρ} {g : List D → Option Out} (h : Sm (RoN er P) T (g (ds ++ List.replicate (n - ds.length) .non))) (hT : T = some r) : FnP (fnOf g n true ds) (er r) (P r) := by
  obtain ⟨o, h1, h2⟩ := h r hT
  rcases h2 with ⟨e, h2, h3⟩ | ⟨h0, e, h2, h3⟩
  · subst h2
    exact ⟨e, fn_rt h1, h3⟩
  · subst h2
    rw [h0]
    exact ⟨e, fn_nx h1, h3⟩
end
end Mv
namespace Mv
open PySem L2
section
variable {α : Type} {e : α → D}
theorem dLen_L (l : List α) : dLen [eL e l] = some (.int l.length) := by show some (D.int (l.map e).length) = _; rw [List.length_map]
def lenS (s : Str) : Option Int := if s.length ≤ LIM then some s.length else none
theorem addT_e {l k r : List α} (hi : Im e) (h : addT l k = some r) : dAdd (eL e l) (eL e k) = some (eL e r) := addT_ok hi l k r h
end
end Mv

namespace Mv
open PySem L2
def Ok {α : Type} (T : Option α) (Q : α → Prop) : Prop := ∃ r, T = some r ∧ Q r
section
variable {α β σ Ω : Type} {X : Option α} {Q Q' : α → Prop} {R : β → Prop} {K : α → Option β}
theorem ok_some {r : α} (h : Q r) : Ok (some r) Q := ⟨r, rfl, h⟩
theorem ok_bind (h : Ok X Q) (k : ∀ x, Q x → Ok (K x) R) : Ok (X.bind K) R := by
  obtain ⟨x, rfl, q⟩ := h
  exact k x q
theorem ok_eq {x : α} (h : X = some x) (k : Ok (K x) R) : Ok (X.bind K) R := by subst h; exact k
theorem ok_mono (h : Ok X Q) (k : ∀ x, Q x → Q' x) : Ok X Q' := by
  obtain ⟨x, h, q⟩ := h
  exact ⟨x, h, k x q⟩
theorem ok_get {x : α} (h : Ok X fun y => y = x) : X = some x := by
  obtain ⟨y, h, rfl⟩ := h
  exact h
theorem ok_ite {c : Prop} [Decidable c] {A B : Option α} (h : c → Ok A Q) (h' : ¬c → Ok B Q) : Ok (if c then A else B) Q := by
  by_cases q : c
  · rw [if_pos q]; exact h q
  · rw [if_neg q]; exact h' q
theorem ok_forN {B : σ → α → Option σ} (I : Nat → σ → Prop) : ∀ (l : List α) (n : Nat) (s : σ), I n s → (∀ k (h : k < l.length) s, I (n + k) s → Ok (B s l[k]) (I (n + k + 1))) → Ok (forO B l s) (I (n + l.length))
  | [], n, s, h, _ => ok_some h
  | x :: l, n, s, h, hb => by
    refine ok_bind (hb 0 (Nat.zero_lt_succ _) s h) fun t ht => ?_
    have := ok_forN I l (n + 1) t ht fun k hk s hs => by
      have := hb (k + 1) (Nat.succ_lt_succ hk) s (by rw [← Nat.add_assoc, Nat.add_right_comm]; exact hs)
      rw [show n + 1 + k + 1 = n + (k + 1) + 1 by omega]
      exact this
    rw [show n + (x :: l).length = n + 1 + l.length by simp; omega]
    exact this
theorem ok_for {B : σ → α → Option σ} {l : List α} {s : σ} (I : Nat → σ → Prop) (h0 : I 0 s) (hb : ∀ k (h : k < l.length) s, I k s → Ok (B s l[k]) (I (k + 1))) : Ok (forO B l s) (I l.length) := by
  have := ok_forN I l 0 s h0 fun k h s hs => by rw [Nat.zero_add] at hs ⊢; exact hb k h s hs
  rw [Nat.zero_add] at this
  exact this
def orR (I : σ → Prop) (R : Ω → Prop) : σ ⊕ Ω → Prop
  | .inl s => I s
  | .inr c => R c
theorem ok_inl {I : σ → Prop} {R : Ω → Prop} {s : σ} (h : I s) : Ok (some (.inl s)) (orR I R) := ⟨_, rfl, h⟩
theorem ok_inr {I : σ → Prop} {R : Ω → Prop} {s : Ω} (h : R s) : Ok (some (.inr s)) (orR I R) := ⟨_, rfl, h⟩
theorem ok_then {L : Option (σ ⊕ Ω)} {K : σ → Option Ω} {I : σ → Prop} {R : Ω → Prop} (h : Ok L (orR I R)) (k : ∀ s, I s → Ok (K s) R) : Ok (thenC L K) R := by
  obtain ⟨z, rfl, q⟩ := h
  cases z with
  | inl s => exact k s q
  | inr c => exact ⟨c, rfl, q⟩
theorem ok_forCN {B : σ → α → Option (σ ⊕ Ω)} {R : Ω → Prop} (I : Nat → σ → Prop) : ∀ (l : List α) (n : Nat) (s : σ), I n s → (∀ k (h : k < l.length) s, I (n + k) s → Ok (B s l[k]) (orR (I (n + k + 1)) R)) → Ok (forC B l s) (orR (I (n + l.length)) R)
  | [], n, s, h, _ => ok_inl h
  | x :: l, n, s, h, hb => by
    obtain ⟨z, h1, q⟩ := hb 0 (Nat.zero_lt_succ _) s h
    unfold forC
    rw [show (x :: l)[0] = x from rfl] at h1
    rw [h1]
    cases z with
    | inr c => exact ok_inr q
    | inl t =>
      have := ok_forCN I l (n + 1) t q fun k hk s hs => by
        have := hb (k + 1) (Nat.succ_lt_succ hk) s (by rw [← Nat.add_assoc, Nat.add_right_comm]; exact hs)
        rw [show n + 1 + k + 1 = n + (k + 1) + 1 by omega]
        exact this
      rw [show n + (x :: l).length = n + 1 + l.length by simp; omega]
      exact this
theorem ok_forC {B : σ → α → Option (σ ⊕ Ω)} {l : List α} {s : σ} {R : Ω → Prop} (I : Nat → σ → Prop) (h0 : I 0 s) (hb : ∀ k (h : k < l.length) s, I k s → Ok (B s l[k]) (orR (I (k + 1)) R)) : Ok (forC B l s) (orR (I l.length) R) := by
  have := ok_forCN I l 0 s h0 fun k h s hs => by rw [Nat.zero_add] at hs ⊢; exact hb k h s hs
  rw [Nat.zero_add] at this
  exact this
theorem forC_pass {B : Unit → α → Option (Unit ⊕ Ω)} : ∀ {l : List α}, (∀ x ∈ l, B () x = some (.inl ())) → forC B l () = some (.inl ())
  | [], _ => rfl
  | x :: l, h => by
    unfold forC
    rw [h x List.mem_cons_self]
    exact forC_pass fun y hy => h y (List.mem_cons_of_mem _ hy)
theorem thenC_l {L : Option (σ ⊕ Ω)} {K : σ → Option Ω} {s : σ} (h : L = some (.inl s)) : thenC L K = K s := by rw [h]; rfl
theorem thenC_r {L : Option (σ ⊕ Ω)} {K : σ → Option Ω} {s : Ω} (h : L = some (.inr s)) : thenC L K = some s := by rw [h]; rfl
@[simp] theorem thenC_inl {K : σ → Option Ω} {s : σ} : thenC (some (.inl s)) K = K s := rfl
@[simp] theorem thenC_inr {K : σ → Option Ω} {c : Ω} : thenC (some (.inr c)) K = some c := rfl
theorem whN_ok {t : σ → Option Bool} {B : σ → Option σ} (I : σ → Prop) (m : σ → Nat) (ht : ∀ s, I s → Ok (t s) fun c => c = true → Ok (B s) fun s' => I s' ∧ m s' < m s) : ∀ (n : Nat) (s : σ), m s < n → I s → Ok (whN t B n s) fun s => I s ∧ t s = some false
  | 0, s, h, _ => absurd h (Nat.not_lt_zero _)
  | n + 1, s, h, hi => by
    obtain ⟨c, h1, h2⟩ := ht s hi
    unfold whN
    rw [h1]
    cases c with
    | false => exact ok_some ⟨hi, h1⟩
    | true =>
      obtain ⟨s', h3, h4, h5⟩ := h2 rfl
      simp only [Option.bind_some, if_true]
      rw [h3]
      exact whN_ok I m ht n s' (by omega) h4
theorem ok_while {t : σ → Option Bool} {B : σ → Option σ} {s : σ} (I : σ → Prop) (m : σ → Nat) (h0 : I s) (ht : ∀ s, I s → Ok (t s) fun c => c = true → Ok (B s) fun s' => I s' ∧ m s' < m s) : Ok (whO t B s) fun s => I s ∧ t s = some false := by
  obtain ⟨r, h1, h2⟩ := whN_ok I m ht (m s + 1) s (Nat.lt_succ_self _) h0
  exact ⟨r, whO_eq h1, h2⟩
end
theorem modT_of {i j : Int} (h : 0 < j) : modT i j = some (i % j) := if_pos h
theorem divT_of {i j : Int} (h : 0 < j ∧ j < 1073741824) : divT i j = some (i / j) := if_pos h
theorem mulT_of {i j : Int} (h : CMul i j) : mulT i j = some (i * j) := if_pos h
theorem appT_of' {α : Type} {l : List α} {x : α} (h : l.length < LIM) : appT l x = some (l ++ [x]) := if_pos h
theorem addT_of {α : Type} {l k : List α} (h : l.length + k.length ≤ LIM) : addT l k = some (l ++ k) := if_pos h
theorem rg1T_of {j : Int} (h : bnd62 j = true) : rg1T j = some (rgI 0 j.toNat) := if_pos h
theorem lrgT_of {j : Int} (h : bndL j = true) : lrgT j = some (rgI 0 j.toNat) := if_pos h
theorem ixN_nn {n : Nat} {k : Int} (h0 : 0 ≤ k) (h : k.toNat < n) : ixN n k = some k.toNat := by
  unfold ixN
  rw [if_pos h0, if_pos (by omega)]
theorem ixT_of {α : Type} {l : List α} {k : Int} {x : α} (h0 : 0 ≤ k) (h : l[k.toNat]? = some x) : ixT l k = some x := by
  obtain ⟨h1, h2⟩ := List.getElem?_eq_some_iff.mp h
  unfold ixT
  rw [ixN_nn h0 h1]
  exact h
theorem ixT_lt {α : Type} {l : List α} {k : Int} (h0 : 0 ≤ k) (h : k.toNat < l.length) : ixT l k = some l[k.toNat] := ixT_of h0 (List.getElem?_eq_getElem h)
theorem sTT_of {α : Type} {l : List α} {k : Int} {v : α} (h0 : 0 ≤ k) (h : k.toNat < l.length) : sTT l k v = some (l.set k.toNat v) := by
  unfold sTT
  rw [ixN_nn h0 h]
  rfl
theorem cutL_hi {α : Type} {l : List α} {k : Int} (h : 0 ≤ k) : cutL l none (some k) = l.take k.toNat := by
  unfold cutL HT.sIx
  simp only [if_neg (show ¬k < 0 by omega), List.drop_zero, Nat.sub_zero]
  by_cases q : k.toNat ≤ l.length
  · rw [Nat.min_eq_left q]
  · rw [Nat.min_eq_right (by omega), List.take_of_length_le (by omega), List.take_of_length_le (by omega)]
theorem cutL_mem {α : Type} {l : List α} {lo hi : Option Int} {x : α} (h : x ∈ cutL l lo hi) : x ∈ l := List.mem_of_mem_drop (List.mem_of_mem_take h)
theorem rgI_eq (lo : Int) (n : Nat) : rgI lo n = (List.range n).map fun k : Nat => lo + (k : Int) := rfl
@[simp] theorem rgI_length (lo : Int) (n : Nat) : (rgI lo n).length = n := rgI_len lo n
theorem rgI_get {lo : Int} {n k : Nat} (h : k < (rgI lo n).length) : (rgI lo n)[k] = lo + k := by
  have : (rgI lo n)[k]? = some (lo + k) := by
    rw [rgI_eq, List.getElem?_map, List.getElem?_range (by simpa using h)]
    rfl
  exact Option.some.inj ((List.getElem?_eq_getElem h).symm.trans this)
theorem rgI_mem {lo x : Int} {n : Nat} (h : x ∈ rgI lo n) : lo ≤ x ∧ x < lo + n := by
  rw [rgI_eq, List.mem_map] at h
  obtain ⟨k, h1, rfl⟩ := h
  have := List.mem_range.mp h1
  omega
end Mv
namespace Mv
open PySem L2
theorem bind_eq {α β : Type} {X : Option α} {K : α → Option β} {x : α} {r : β} (h : X = some x) (k : K x = some r) : X.bind K = some r := by subst h; exact k
theorem if_f {α : Type} {c : Bool} {A B : α} (h : c = false) : (if c = true then A else B) = B := if_neg (by rw [h]; decide)
end Mv
namespace Mv
end Mv
namespace Mv
end Mv

namespace Mv
open PySem L2
def caseE {α β : Type} (x : Except String α) (a : String → β) (b : α → β) : β := match x with
  | .error c => a c
  | .ok v => b v
@[simp] theorem caseE_ok {α β : Type} {a : String → β} {b : α → β} {v : α} : caseE (.ok v) a b = b v := rfl
@[simp] theorem caseE_er {α β : Type} {a : String → β} {b : α → β} {c : String} : caseE (.error c) a b = a c := rfl
def FnX (o : Option Out) (c : String) (Q : List D → Prop) : Prop := ∃ e, o = some (.ex c e) ∧ Q e
section
variable {α ρ L Ω σ : Type} {Ro : Ω → Out → Prop} {e : α → D} {er : ρ → D} {f g fi : List D → M D} {env env' : List D} {i : Nat} {rest a b : List D → Option Out} {d x : D} {fs : List (List D → M D)} {ds : List D} {c : String} {P : ρ → L → List D → Prop} {Q : L → List D → Prop} {fe : List D → RE}
theorem sm_case {X : Except String α} {A : String → Option Ω} {B : α → Option Ω} {g : Option Out} (ha : ∀ c, X = .error c → Sm Ro (A c) g) (hb : ∀ v, X = .ok v → Sm Ro (B v) g) : Sm Ro (caseE X A B) g := by
  cases X with
  | error c => exact ha c rfl
  | ok v => exact hb v rfl
def RoE (er : ρ → D) (P : ρ → L → List D → Prop) (Q : L → List D → Prop) (r : Except String ρ × L) (o : Out) : Prop := match r.1 with
  | .ok v => ∃ e, (o = .rt (er v) e ∨ (er v = .non ∧ o = .nx e)) ∧ P v r.2 e
  | .error c => ∃ e, o = .ex c e ∧ Q r.2 e
theorem re_ok {v : ρ} {l : L} {e : List D} (h : P v l e) : RoE er P Q (.ok v, l) (.rt (er v) e) := ⟨e, .inl rfl, h⟩
theorem re_end {v : ρ} {l : L} {e : List D} (h0 : er v = .non) (h : P v l e) : RoE er P Q (.ok v, l) (.nx e) := ⟨e, .inr ⟨h0, rfl⟩, h⟩
theorem re_ex {l : L} {e : List D} (h : Q l e) : RoE er P Q (.error c, l) (.ex c e) := ⟨e, rfl, h⟩
theorem fnE {n : Nat} {rp : Bool} {T : Option (Except String ρ × L)} {r : Except String ρ × L} {g : List D → Option Out} (h : Sm (RoE er P Q) T (g (ds ++ List.replicate (n - ds.length) .non))) (hT : T = some r) (hr : rp = true ∨ ∀ v, er v ≠ .non) :
    (∀ v, r.1 = .ok v → FnP (fnOf g n rp ds) (er v) (P v r.2)) ∧ ∀ c, r.1 = .error c → FnX (fnOf g n rp ds) c (Q r.2) := by
  obtain ⟨o, h1, h2⟩ := h r hT
  unfold RoE at h2
  constructor
  · intro v hv
    rw [hv] at h2
    obtain ⟨e, h3 | ⟨h0, h3⟩, h4⟩ := h2
    · subst h3
      exact ⟨e, fn_rt h1, h4⟩
    · subst h3
      rcases hr with rfl | hr
      · rw [h0]
        exact ⟨e, fn_nx h1, h4⟩
      · exact absurd h0 (hr v)
  · intro c hc
    rw [hc] at h2
    obtain ⟨e, h3, h4⟩ := h2
    subst h3
    refine ⟨e, ?_, h4⟩
    unfold fnOf
    rw [h1]
theorem yx_me {G : List D → Option Out} {Q : List D → Prop} {cc : String} {mt : Str} (ho : Yi (f env) x) (hi : insOf cc mt x = true) (h : Ya (eArgs fs env) ds) (hg : FnX (G (x :: ds)) c Q) : eMe cc mt G f fs env = some (.ex c) := by
  obtain ⟨e, h1, _⟩ := hg
  unfold eMe; rw [ho, bd_ok, if_pos hi, h, bd_ok, h1]; rfl
theorem yx_mk {G : List D → Option Out} {Q : List D → Prop} {cc : String} (h : Ya (eArgs fs env) ds) (hg : FnX (G (.ins cc [] :: ds)) c Q) : eMake cc G fs env = some (.ex c) := by
  obtain ⟨e, h1, _⟩ := hg
  unfold eMake; rw [h, bd_ok, h1]; rfl
theorem yxe_me {G : List D → Option Out} {ls : Lds} {Q : List D → Prop} {cc : String} {mt : Str} (env' : List D) (ho : Yi (f env) x) (hi : insOf cc mt x = true) (h : Ya (eArgs fs env) ds) (hg : FnX (G (x :: ds)) c Q) (hu : ∀ e, Q e → updL ls 0 e env env = some env') : eMethL cc mt G f fs ls env = some (.ex c, env') := by
  obtain ⟨e, h1, h2⟩ := hg
  unfold eMethL
  rw [ho]
  simp only [hi, if_true]
  rw [h]
  simp only [h1, behL, hu e h2, Option.map_some]
def okT {ρ L : Type} (r : Except String ρ × L) : Option ρ := caseE r.1 (fun _ => none) some
def okLT {ρ L : Type} (r : Except String ρ × L) : Option (ρ × L) := caseE r.1 (fun _ => none) fun v => some (v, r.2)
theorem okLT_of {ρ L : Type} {T : Option (Except String ρ × L)} {r : ρ × L} (h : T.bind okLT = some r) : ∃ x, T = some x ∧ x.1 = .ok r.1 ∧ x.2 = r.2 := by
  obtain ⟨⟨x, l⟩, h1, h2⟩ := Option.bind_eq_some_iff.mp h
  cases x with
  | error c => cases h2
  | ok v => cases h2; exact ⟨_, h1, rfl, rfl⟩
theorem okT_of {ρ L : Type} {T : Option (Except String ρ × L)} {r : ρ} (h : T.bind okT = some r) : ∃ x, T = some x ∧ x.1 = .ok r := by
  obtain ⟨⟨x, l⟩, h1, h2⟩ := Option.bind_eq_some_iff.mp h
  cases x with
  | error c => cases h2
  | ok v => cases h2; exact ⟨_, h1, rfl⟩
theorem sx_set {w : Ω} (h : f env = some (.ex c)) (k : Ro w (.ex c env)) : Sm Ro (some w) (sSeq (sSet i f) rest env) := fun c' hc => by
  cases hc
  exact ⟨_, by unfold sSeq sSet; rw [h]; rfl, k⟩
theorem sx_drop {w : Ω} (h : f env = some (.ex c)) (k : Ro w (.ex c env)) : Sm Ro (some w) (sSeq (sDrop f) rest env) := fun c' hc => by
  cases hc
  exact ⟨_, by unfold sSeq sDrop; rw [h]; rfl, k⟩
theorem sx_setE {w : Ω} (env' : List D) (h : fe env = some (.ex c, env')) (k : Ro w (.ex c env')) : Sm Ro (some w) (sSeq (sSetE i fe) rest env) := fun c' hc => by
  cases hc
  exact ⟨_, by unfold sSeq sSetE; rw [h]; rfl, k⟩
theorem sx_raise {w : Ω} (k : Ro w (.ex c env)) : Sm Ro (some w) (sRaise c env) := fun c' hc => by
  cases hc
  exact ⟨_, rfl, k⟩
def RoT (mk : σ → (Nat → D) → List D) : σ ⊕ (String × σ) → Out → Prop
  | .inl s, o => ∃ δ, o = .nx (mk s δ)
  | .inr (c, s), o => ∃ δ, o = .ex c (mk s δ)
theorem sn_fallT {s : σ} (mk : σ → (Nat → D) → List D) (h : env = mk s fun j => env.getD j .non) : Sm (RoT mk) (some (.inl s)) (sNext env) := sm_next ⟨_, congrArg _ h⟩
theorem rt_ex {s : σ} (mk : σ → (Nat → D) → List D) (h : env = mk s fun j => env.getD j .non) : RoT mk (.inr (c, s)) (.ex c env) := ⟨_, congrArg _ h⟩
def tryB (LL : List String) (bad : List Bool) (T : Option (σ ⊕ (String × σ))) : Option (σ × List Bool) := T.bind fun z => match z with
  | .inl s => some (s, bad)
  | .inr (c, s) => if c ∈ LL then some (s, bitsOf c) else none
theorem sn_try {LL : List String} {bad : List Bool} {j : Nat} {T : Option (σ ⊕ (String × σ))} {K : σ × List Bool → Option Ω} (mk : σ → (Nat → D) → List D) (hb : Sm (RoT mk) T (a env)) (hj : ∀ s δ, mk s δ = (mk s δ).set j (eL D.bl bad)) (k : ∀ (p : σ × List Bool) δ, Sm Ro (K p) (rest ((mk p.1 δ).set j (eL D.bl p.2)))) : Sm Ro ((tryB LL bad T).bind K) (sSeq (sTryBad j LL a) rest env) := fun w hw => by
  obtain ⟨⟨s, bb⟩, h1, h2⟩ := Option.bind_eq_some_iff.mp hw
  obtain ⟨z, h3, h4⟩ := Option.bind_eq_some_iff.mp h1
  obtain ⟨o, h5, h6⟩ := hb z h3
  cases z with
  | inl s =>
    cases h4
    obtain ⟨δ, rfl⟩ := h6
    obtain ⟨o, h7, h8⟩ := k (s, bad) δ w h2
    refine ⟨o, ?_, h8⟩
    unfold sSeq sTryBad
    rw [h5]
    show rest (mk s δ) = _
    rw [hj]
    exact h7
  | inr cs =>
    obtain ⟨c, s⟩ := cs
    simp only at h4
    split at h4
    · rename_i hc
      cases h4
      obtain ⟨δ, rfl⟩ := h6
      obtain ⟨o, h7, h8⟩ := k (s, bitsOf c) δ w h2
      refine ⟨o, ?_, h8⟩
      unfold sSeq sTryBad
      rw [h5]
      show (match (if c ∈ LL then some (Out.nx ((mk s δ).set j (.lst ((bitsOf c).map D.bl)))) else none) with
        | some (.nx e) => rest e
        | o => o) = _
      rw [if_pos hc]
      exact h7
    · cases h4
end
end Mv

namespace Mv
open PySem L2
abbrev kI (i : Int) : Key := .inl i
abbrev kS (i : Str) : Key := .inr i
abbrev kII (p : Int × Int) : List Key := [.inl p.1, .inl p.2]
abbrev eK {α : Type} (e : α → D) (l : List (Int × α)) : D := .dct (l.map fun p => (kI p.1, e p.2))
abbrev eKS {α : Type} (e : α → D) (l : List (Str × α)) : D := .dct (l.map fun p => (kS p.1, e p.2))
abbrev eKT {α : Type} (e : α → D) (l : List ((Int × Int) × α)) : D := .dctT (l.map fun p => (kII p.1, e p.2))
section
variable {α κ κ' : Type} [DecidableEq κ] [DecidableEq κ'] {e : α → D} {f : κ → κ'}
theorem valG_map (hf : ∀ a b, f a = f b → a = b) (l : List (κ × α)) (k : κ) : valG (l.map fun p => (f p.1, e p.2)) (f k) = (valG l k).map e := by
  unfold valG
  induction l with
  | nil => rfl
  | cons p l ih =>
    rw [List.map_cons, List.find?_cons, List.find?_cons]
    by_cases h : p.1 = k
    · have h1 : decide (f p.1 = f k) = true := decide_eq_true (congrArg f h)
      have h2 : decide (p.1 = k) = true := decide_eq_true h
      simp only [h1, h2]
      rfl
    · have h1 : decide (f p.1 = f k) = false := decide_eq_false fun q => h (hf _ _ q)
      have h2 : decide (p.1 = k) = false := decide_eq_false h
      simp only [h1, h2]
      exact ih
theorem putG_map (hf : ∀ a b, f a = f b → a = b) (l : List (κ × α)) (k : κ) (v : α) : putG (l.map fun p => (f p.1, e p.2)) (f k) (e v) = (putG l k v).map fun p => (f p.1, e p.2) := by
  unfold putG
  have ha : ((l.map fun p => (f p.1, e p.2)).any fun kv => decide (kv.1 = f k)) = l.any fun kv => decide (kv.1 = k) := by
    rw [List.any_map]
    congr 1
    funext p
    show decide (f p.1 = f k) = decide (p.1 = k)
    by_cases h : p.1 = k
    · rw [decide_eq_true h, decide_eq_true (congrArg f h)]
    · rw [decide_eq_false h, decide_eq_false fun q => h (hf _ _ q)]
  rw [ha]
  by_cases h : (l.any fun kv => decide (kv.1 = k)) = true
  · rw [if_pos h, if_pos h, List.map_map, List.map_map]
    apply List.map_congr_left
    intro p _
    show (if f p.1 = f k then (f p.1, e v) else (f p.1, e p.2)) = (f (if p.1 = k then (p.1, v) else p).1, e (if p.1 = k then (p.1, v) else p).2)
    by_cases q : p.1 = k
    · rw [if_pos (congrArg f q), if_pos q]
    · rw [if_neg (fun z => q (hf _ _ z)), if_neg q]
  · rw [if_neg h, if_neg h, List.map_append]
    rfl
end
theorem kII_inj (a b : Int × Int) (h : kII a = kII b) : a = b := by
  obtain ⟨a1, a2⟩ := a
  obtain ⟨b1, b2⟩ := b
  cases h
  rfl
section
variable {α κ : Type} [DecidableEq κ] {e : α → D}
def putT (l : List (κ × α)) (k : κ) (v : α) : Option (List (κ × α)) := if l.length < LIM then some (putG l k v) else none
theorem putT_of {l : List (κ × α)} {k : κ} {v : α} (h : l.length < LIM) : putT l k v = some (putG l k v) := if_pos h
structure Dk (eD : List (κ × α) → D) (ek : κ → D) (e : α → D) : Prop where
  get : ∀ l k, dGet (eD l) (ek k) = some ((valG l k).map e)
  isd : ∀ l, isDct (eD l) = true
  put : ∀ l k v l', putT l k v = some l' → dPut (eD l) (ek k) (e v) = some (eD l')
end
section
variable {α : Type} {e : α → D}
theorem dk_II : Dk (eKT e) (e2 D.int D.int) e := ⟨fun l k => by
  show some (valG (l.map fun p => (kII p.1, e p.2)) (kII k)) = _
  rw [valG_map kII_inj], fun _ => rfl, fun l k v l' h => by
  unfold putT at h
  split at h
  · rename_i hl
    cases h
    show (if (l.map fun p => (kII p.1, e p.2)).length < LIM then some (D.dctT (putG (l.map fun p => (kII p.1, e p.2)) (kII k) (e v))) else none) = _
    rw [if_pos (by simpa using hl), putG_map kII_inj]
  · cases h⟩
end
section
variable {α κ Ω : Type} [DecidableEq κ] {e : α → D} {eD : List (κ × α) → D} {ek : κ → D} {Ro : Ω → Out → Prop} {l l' : List (κ × α)} {k : κ} {v : α} {f g fk fv : List D → M D} {env : List D} {i : Nat} {rest : List D → Option Out}
theorem dAt_ok (h : Dk eD ek e) (hv : valG l k = some v) : dAtK (eD l) (ek k) = some (e v) := by
  unfold dAtK
  rw [h.get, hv]
  rfl
theorem dNi_ok (h : Dk eD ek e) (l : List (κ × α)) (k : κ) : dNiK (ek k) (eD l) = some (.bl (!(valG l k).isSome)) := by
  unfold dNiK
  rw [h.get]
  simp
theorem sn_dput {T : Option Ω} {pf : List D → Option (D → D)} {R : D → D} (env' : List D) (h : Dk eD ek e) (hv : Yi (fv env) (e v)) (hp : Pt env f pf (eD l) R) (hk : Yi (fk env) (ek k)) (hl : putT l k v = some l') (he : env.set i (R (eD l')) = env') (k' : Sm Ro T (rest env')) : Sm Ro T (sSeq (sDPutP i f pf fk fv) rest env) := fun c hc => by
  obtain ⟨o, h5, h6⟩ := k' c hc
  refine ⟨o, ?_, h6⟩
  have : sDPutP i f pf fk fv env = some (.nx env') := by
    unfold sDPutP
    rw [hv]
    simp only [sX_ok]
    rw [hp.val]
    simp only [sX_ok]
    rw [hk]
    simp only [sX_ok, hp.wr, h.put l k v l' hl, he]
  unfold sSeq
  rw [this]
  exact h5
end
end Mv
namespace Mv
open PySem L2
abbrev eH2 {α β : Type} (a : α → D) (b : β → D) (p : α × β) : D := .lst [a p.1, b p.2]
end Mv
namespace Mv
section
variable {α κ : Type} [DecidableEq κ]
theorem valG_nil (k : κ) : valG ([] : List (κ × α)) k = none := rfl
theorem valG_cons (p : κ × α) (l : List (κ × α)) (k : κ) : valG (p :: l) k = if p.1 = k then some p.2 else valG l k := by
  unfold valG
  rw [List.find?_cons]
  by_cases h : p.1 = k
  · rw [if_pos h, decide_eq_true h]; rfl
  · rw [if_neg h, decide_eq_false h]
theorem valG_append (l : List (κ × α)) (k k' : κ) (v : α) (h : (l.any fun kv => decide (kv.1 = k)) = false) : valG (l ++ [(k, v)]) k' = if k' = k then some v else valG l k' := by
  induction l with
  | nil =>
    rw [List.nil_append, valG_cons, valG_nil]
    by_cases q : k = k'
    · rw [if_pos q, if_pos q.symm]
    · rw [if_neg q, if_neg (Ne.symm q)]
  | cons p l ih =>
    rw [List.any_cons, Bool.or_eq_false_iff] at h
    rw [List.cons_append, valG_cons, valG_cons, ih h.2]
    have hp := of_decide_eq_false h.1
    by_cases q : p.1 = k'
    · rw [if_pos q, if_pos q, if_neg (fun z => hp (q.trans z))]
    · rw [if_neg q, if_neg q]
theorem valG_upd (l : List (κ × α)) (k k' : κ) (v : α) : valG (l.map fun kv => if kv.1 = k then (kv.1, v) else kv) k' = if k' = k ∧ (valG l k').isSome = true then some v else valG l k' := by
  induction l with
  | nil => simp [valG_nil]
  | cons p l ih =>
    rw [List.map_cons, valG_cons, valG_cons, ih]
    by_cases q : p.1 = k
    · rw [if_pos q]
      by_cases z : p.1 = k'
      · rw [if_pos z, if_pos z, if_pos ⟨z.symm.trans q, rfl⟩]
      · rw [if_neg z, if_neg z]
    · rw [if_neg q]
      by_cases z : p.1 = k'
      · rw [if_pos z, if_pos z, if_neg (fun y => q (z.trans y.1))]
      · rw [if_neg z, if_neg z]
theorem valG_some {l : List (κ × α)} {k : κ} (h : (l.any fun kv => decide (kv.1 = k)) = true) : (valG l k).isSome = true := by
  induction l with
  | nil => cases h
  | cons p l ih =>
    rw [valG_cons]
    by_cases q : p.1 = k
    · rw [if_pos q]; rfl
    · rw [if_neg q]
      refine ih ?_
      rw [List.any_cons, decide_eq_false q] at h
      exact h
theorem valG_put (l : List (κ × α)) (k k' : κ) (v : α) : valG (putG l k v) k' = if k' = k then some v else valG l k' := by
  unfold putG
  by_cases h : (l.any fun kv => decide (kv.1 = k)) = true
  · rw [if_pos h, valG_upd]
    by_cases q : k' = k
    · subst q
      rw [if_pos ⟨rfl, valG_some h⟩, if_pos rfl]
    · rw [if_neg (fun z => q z.1), if_neg q]
  · rw [if_neg h, valG_append _ _ _ _ (Bool.eq_false_iff.mpr h)]
theorem putG_len (l : List (κ × α)) (k : κ) (v : α) : (putG l k v).length ≤ l.length + 1 := by
  unfold putG
  split
  · rw [List.length_map]; omega
  · simp
end
end Mv
namespace Mv
open PySem L2
abbrev eH3 {α β γ : Type} (a : α → D) (b : β → D) (c : γ → D) (p : α × β × γ) : D := .lst [a p.1, b p.2.1, c p.2.2]
end Mv
namespace Mv
open PySem L2
end Mv
namespace Mv
open PySem L2
def idxT (l : List Int) (x : Int) : Option Int := (idxI l x).map fun n : Nat => (n : Int)
end Mv

namespace Mv
open PySem L2
def inO (x : Option Int) (l : List Int) : Bool := match x with
  | none => false
  | some i => decide (i ∈ l)
def lenSetT (l : List Int) : Option Int := if l.length < 4000 then some ((ddp l).length : Int) else none
theorem yi_slF {α : Type} {e : α → D} {f : List D → M D} {env : List D} {v : List α} {lo hi : Option (List D → M D)} {l h : Option Int} (hx : Yi (f env) (eL e v)) (hl : eOpt lo env = some (.ok l)) (hh : eOpt hi env = some (.ok h)) : Yi (eSlF f lo hi env) (eL e (cutL v l h)) := by
  unfold Yi eSlF
  rw [hx, bd_ok, hl, bd_ok, hh, bd_ok]
  show lift (some (D.lst (cutD (v.map e) l h))) = some (.ok (D.lst ((cutL v l h).map e)))
  unfold cutD cutL
  rw [List.map_take, List.map_drop, List.length_map]
  rfl
def fmtI (i : Int) : Option Str := if i.natAbs.log2 < 1920 then some (toString i) else none
def fmtS (y : Str) : Option Str := if y.length ≤ LIM then some y else none
def jsG : List Str → Str → Option Str
  | [], acc => some acc
  | y :: r, acc => if (acc ++ y).length ≤ LIM then jsG r (acc ++ y) else none
def jsT (l : List Str) : Option Str := jsG l Str.empty
end Mv

namespace Mv
open PySem L2
section
variable {α σ Ω : Type} {Ro : Ω → Out → Prop} {T : Option (Bool × σ)} {mk : σ → List D} {o : RB} {t : List D → M Bool} {env env1 : List D} {fe fa : List D → RE} {ft fb ga gb : List D → RB} {b ba : Bool} {s : σ} {g : List D → M D} {rest a1 b1 : List D → Option Out}
def TeE (T : Option (Bool × σ)) (mk : σ → List D) (o : RB) : Prop := ∀ p, T = some p → o = some (.ok p.1, mk p.2)
theorem tt_bind {X : Option α} {K : α → Option (Bool × σ)} (h : ∀ x, X = some x → TeE (K x) mk o) : TeE (X.bind K) mk o := fun p hp => by
  obtain ⟨x, h1, h2⟩ := Option.bind_eq_some_iff.mp hp
  exact h x h1 p h2
theorem tt_eff (h : Ye (fe env) (.bl b) env1) (he : env1 = mk s) : TeE (some (b, s)) mk (eTE fe env) := fun p hp => by
  cases hp
  unfold eTE
  rw [h]
  exact congrArg (fun e => some (R.ok b, e)) he
theorem tt_or (ha : TeE (some (ba, s)) mk (ga env)) (hb : TeE T mk (gb (mk s))) : TeE (if ba = true then some (true, s) else T) mk (eOrE ga gb env) := fun p hp => by
  unfold eOrE
  rw [ha _ rfl]
  cases ba with
  | true => cases hp; rfl
  | false => exact hb p (by simpa using hp)
theorem sn_ifT {K : Bool × σ → Option Ω} (mk : σ → List D) (h : TeE T mk (ft env)) (k : ∀ p : Bool × σ, Sm Ro (K p) (sSeq (sIf (fun _ => some (.ok p.1)) a1 b1) rest (mk p.2))) : Sm Ro (T.bind K) (sSeq (sIfT ft a1 b1) rest env) := fun c hc => by
  obtain ⟨p, h1, h2⟩ := Option.bind_eq_some_iff.mp hc
  obtain ⟨o, h3, h4⟩ := k p c h2
  refine ⟨o, ?_, h4⟩
  rw [← h3]
  unfold sSeq sIfT sIf
  rw [h p h1]
  obtain ⟨b, s⟩ := p
  cases b <;> rfl
theorem yi_k {x : D} : Yi ((fun _ => some (.ok x) : List D → M D) env) x := rfl
theorem ye_op {op : D → D → Option D} {x z : D} (h : Ye (fa env) x env1) (k : Yi (eOp op (fun _ => some (.ok x)) g env1) z) : Ye (eOpE op fa g env) z env1 := by
  unfold Ye eOpE
  rw [h, bE_ok]
  unfold Yi eOp at k
  rw [bd_ok] at k
  cases hg : g env1 with
  | none => rw [hg] at k; cases k
  | some y =>
    rw [hg] at k
    cases y with
    | ex c => cases k
    | ok y =>
      have k' : lift (op x y) = some (.ok z) := k
      cases ho : op x y with
      | none => rw [ho] at k'; cases k'
      | some z' => rw [ho] at k'; cases k'; show (op x y).map _ = _; rw [ho]; rfl
end
def tryO {σ : Type} (x : String) (T : Option (σ ⊕ (String × σ))) (S : σ → Option σ) : Option σ := T.bind fun z => match z with
  | .inl s => some s
  | .inr (c, s) => if c = x then S s else none
abbrev e1 {α : Type} (f : α → D) (x : α) : D := .tup [f x]
def lrg2T (l j : Int) : Option (List Int) := if bnd62 l = true ∧ bnd62 j = true ∧ (j - l).toNat ≤ LIM then some (rgI l (j - l).toNat) else none
theorem sn_fldAug {Ω : Type} {Ro : Ω → Out → Prop} {T : Option Ω} {i : Nat} {pf : List D → Option (D → D)} {R : D → D} {f g : List D → M D} {rest : List D → Option Out} {cc : String} {nm : Str} {fl : List (Str × D)} {env : List D} {a b : Int} (env' : List D) (hp : Pt env f pf (.ins cc fl) R) (hl : fl.length < 900) (hv : fl.lookup nm = some (.int a)) (hg : Yi (g env) (.int b)) (he : env.set i (R (.ins cc (putD nm (.int (a + b)) fl))) = env') (k : Sm Ro T (rest env')) : Sm Ro T (sSeq (sFldAugP i cc nm f pf g) rest env) := fun c hc => by
  obtain ⟨o, h3, h4⟩ := k c hc
  refine ⟨o, ?_, h4⟩
  have : sFldAugP i cc nm f pf g env = some (.nx env') := by
    unfold sFldAugP
    rw [hp.val]
    simp only [sX_ok, hl, and_self, if_true, true_and, hv]
    rw [hg]
    simp only [sX_ok, hp.wr, he]
  unfold sSeq
  rw [this]
  exact h3
def toBoolD : D → Option Bool
  | .bl b => some b
  | _ => none
def toStrD : D → Option Str
  | .str b => some b
  | _ => none
theorem toStrD_ok (a : D) (b : Str) (h : toStrD a = some b) : D.str b = a := by
  cases a <;> cases h
  rfl
def tupD : D → Option (List D)
  | .tup ds => if immL ds = true then some ds else none
  | _ => none
def immT (l : List D) : Option (List D) := if immL l = true then some l else none
theorem eLid (l : List D) : eL (id : D → D) l = .lst l := by show D.lst (l.map id) = _; rw [List.map_id]
theorem dListD_ok {l r : List D} (h : immT l = some r) : dList [eL (id : D → D) l] = some (eL (id : D → D) r) := by
  rw [eLid, eLid]
  unfold immT at h
  split at h
  · rename_i q
    cases h
    show (if immL l = true then some (D.lst l) else none) = _
    rw [if_pos q]
  · cases h
def addD (a b : List D) : Option (List D) := if a.length + b.length ≤ LIM ∧ immL a = true ∧ immL b = true then some (a ++ b) else none
def cutD' (a : List D) (lo hi : Option Int) : Option (List D) := if immL a = true then some (cutL a lo hi) else none
def immD (x : D) : Option D := if imm x = true then some x else none
section
variable {Ω : Type} {Ro : Ω → Out → Prop} {f g : List D → M D} {env : List D} {c : String} {x : D} {fs : List (List D → M D)} {ds : List D} {a b rest : List D → Option Out} {t u : List D → M Bool}
theorem yx_opL {op : D → D → Option D} (h : f env = some (.ex c)) : eOp op f g env = some (.ex c) := by unfold eOp; rw [h]; rfl
theorem yx_T (h : f env = some (.ex c)) : eT f env = some (.ex c) := by unfold eT; rw [h]; rfl
theorem sx_if {w : Ω} (h : t env = some (.ex c)) (k : Ro w (.ex c env)) : Sm Ro (some w) (sSeq (sIf t a b) rest env) := fun c' hc => by
  cases hc
  exact ⟨_, by unfold sSeq sIf; rw [h], k⟩
end
def toI2D : D → Option (Int × Int)
  | .tup [.int a, .int b] => some (a, b)
  | _ => none
def toI3D : D → Option (Int × Int × Int)
  | .tup [.int a, .int b, .int c] => some (a, b, c)
  | _ => none
def toI4D : D → Option (Int × Int × Int × Int)
  | .tup [.int a, .int b, .int c, .int d] => some (a, b, c, d)
  | _ => none
end Mv

namespace Mv
open PySem L2
def maxT (l : List Int) : Option Int := if 0 < l.length then some (maxI l) else none
section
variable {α : Type} [DecidableEq α] {e : α → D}
def inG (x : α) (l : List α) : Bool := decide (x ∈ l)
def idxG (l : List α) (x : α) : Option Int := (l.findIdx? fun y => decide (y = x)).map fun n : Nat => (n : Int)
end
def rgR (hi : Int) : Nat → List Int
  | 0 => []
  | n + 1 => hi :: rgR (hi - 1) n
def rgRT (l j : Int) : Option (List Int) := if bnd62 l = true ∧ bnd62 j = true then some (rgR (j - 1) (j - l).toNat) else none
end Mv

namespace Mv
open PySem L2
section
variable {Ω : Type} {Ro : Ω → Out → Prop} {fe : List D → RE} {env env1 : List D} {d d0 : D} {j : Nat} {c : Ω}
end
end Mv

namespace Mv
open PySem L2
end Mv

namespace Mv
open PySem L2
def appAllT (l : List (List Int)) (c : Int) : Option (List (List Int)) := if ∀ x ∈ l, x.length < LIM then some (l.map (· ++ [c])) else none
end Mv
namespace Mv
open PySem L2
end Mv

namespace Mv
open PySem L2
abbrev SO := {s : Str // PyData.strOk s = true}
def inST (x : Str) (l : List Str) : Option Bool := if PyData.strOk x = true ∧ ∀ y ∈ l, PyData.strOk y = true then some (decide (x ∈ l)) else none
section
variable {ρ L : Type} {er : ρ → D} {P : ρ → L → List D → Prop} {Q : L → List D → Prop} {ds : List D} {c : String}
def RoE2 (er : ρ → D) (P : ρ → L → List D → Prop) (Q : L → List D → Prop) (r : Except String ρ × L) (o : Out) : Prop := match r.1 with
  | .ok v => ∃ e, o = .rt (er v) e ∧ P v r.2 e
  | .error c => ∃ e, o = .ex c e ∧ Q r.2 e
end
end Mv

namespace Mv
open PySem L2 PySem.W
noncomputable def srtT (l : List D) : Option (List D) := if srtOk l = true then some (l.mergeSort (dataLe false toPy)) else none
end Mv

namespace Mv
open PySem L2
section
variable {Ω : Type} {Ro : Ω → Out → Prop} {T : Option Ω} {env env' : List D} {i j : Nat} {fe : List D → RE} {ft : List D → RB} {gb rest : List D → Option Out}
theorem sn_swp (he : swD i j env = env') (k : Sm Ro T (rest env')) : Sm Ro T (sSeq (sSwp i j) rest env) := fun c hc => by
  obtain ⟨o, h1, h2⟩ := k c hc
  refine ⟨o, ?_, h2⟩
  show rest (swD i j env) = _
  rw [he]
  exact h1
theorem sn_for2 (hR : ∀ c o, Ro c o → ∀ x e, o ≠ .ex x e) (hg : ∀ e o, gb e = some o → ∃ d e', o = .rt d e') (k : Sm Ro T (sSeq (sSetE j fe) (sSeq (sSwp i j) (sSeq (sIfT ft (sSeq (sSwp i j) gb) (sSeq (sSwp i j) (sIfT ft gb sNext))) rest)) env)) : Sm Ro T (sSeq (sFor2 i j fe ft gb) rest env) := fun c hc => by
  obtain ⟨o, h1, h2⟩ := k c hc
  have nex := hR c o h2
  refine ⟨o, ?_, h2⟩
  unfold sSeq sSetE at h1
  unfold sSeq sFor2
  cases e1 : fe env with
  | none => rw [e1] at h1; cases h1
  | some r1 =>
    obtain ⟨r1, e1'⟩ := r1
    rw [e1] at h1
    cases r1 with
    | ex x => cases h1; exact absurd rfl (nex _ _)
    | ok d2 =>
      have h1 : (match (sIfT ft (fun env => match sSwp i j env with | some (.nx e) => gb e | o => o) (fun env => match sSwp i j env with | some (.nx e) => sIfT ft gb sNext e | o => o)) (swD i j (e1'.set j d2)) with | some (.nx e) => rest e | o => o) = some o := h1
      unfold sIfT at h1
      dsimp only
      cases e2 : ft (swD i j (e1'.set j d2)) with
      | none => rw [e2] at h1; cases h1
      | some r2 =>
        obtain ⟨r2, e2'⟩ := r2
        rw [e2] at h1
        cases r2 with
        | ex x => cases h1; exact absurd rfl (nex _ _)
        | ok b =>
          cases b with
          | true =>
            have h1 : (match gb (swD i j e2') with | some (.nx e) => rest e | o => o) = some o := h1
            cases eb : gb (swD i j e2') with
            | none => rw [eb] at h1; cases h1
            | some ob =>
              obtain ⟨d, e', rfl⟩ := hg _ _ eb
              rw [eb] at h1
              cases h1
              show (match rtOnly (gb (swD i j e2')) with | some (.nx e) => rest e | o => o) = _
              rw [eb]
              rfl
          | false =>
            have h1 : (match (match ft (swD i j e2') with | none => none | some (.ex c, e) => some (Out.ex c e) | some (.ok c, e) => if c = true then gb e else sNext e) with | some (.nx e) => rest e | o => o) = some o := h1
            dsimp only
            cases e3 : ft (swD i j e2') with
            | none => rw [e3] at h1; cases h1
            | some r3 =>
              obtain ⟨r3, e3'⟩ := r3
              rw [e3] at h1
              cases r3 with
              | ex x => cases h1; exact absurd rfl (nex _ _)
              | ok b =>
                cases b with
                | true =>
                  have h1 : (match gb e3' with | some (.nx e) => rest e | o => o) = some o := h1
                  cases eb : gb e3' with
                  | none => rw [eb] at h1; cases h1
                  | some ob =>
                    obtain ⟨d, e', rfl⟩ := hg _ _ eb
                    rw [eb] at h1
                    cases h1
                    show (match rtOnly (gb e3') with | some (.nx e) => rest e | o => o) = _
                    rw [eb]
                    rfl
                | false => exact h1
end
end Mv

namespace Lw
open PySem PySem.Spec PyProof.Rows L2 Mv

def top (i : Nat) : Stmt := PySem.Challenge.pw_chalkcave_k36_a_book_without_room.main.body.getD i (.Pass ⟨0, 0, 0, 0⟩)
def inClass (st : Stmt) (j : Nat) : Stmt := match st with
  | .ClassDef (body := b) .. => b.getD j (.Pass ⟨0, 0, 0, 0⟩)
  | _ => .Pass ⟨0, 0, 0, 0⟩
abbrev sT_law_numbers : Stmt := top 28
abbrev sT_Survey_init : Stmt := inClass (top 26) 0
abbrev sT_Survey_chalk : Stmt := inClass (top 26) 5
abbrev sT_Survey_need_marks : Stmt := inClass (top 26) 1
abbrev sT_Survey_need_room : Stmt := inClass (top 26) 2
abbrev sT_Survey_rows_now : Stmt := inClass (top 26) 3
abbrev sT_join : Stmt := top 17
abbrev sT_sweep : Stmt := top 18
abbrev sT_folded : Stmt := top 19
abbrev sT_Survey_labels_now : Stmt := inClass (top 26) 14
abbrev sT_Survey_same : Stmt := inClass (top 26) 16
abbrev sT_Survey_enter : Stmt := inClass (top 26) 4
abbrev sT_Survey_apart : Stmt := inClass (top 26) 7
abbrev sT_lettered : Stmt := top 15
abbrev sT_Survey_need_way : Stmt := inClass (top 26) 22
abbrev sT_trail : Stmt := top 20
abbrev sT_Survey_broken : Stmt := inClass (top 26) 23
abbrev sT_Survey_never_paper : Stmt := inClass (top 26) 26
abbrev sT_Survey_row : Stmt := inClass (top 26) 6
abbrev sT_law_told : Stmt := top 30
abbrev sT_law_due : Stmt := top 29
abbrev sT_Survey_hold : Stmt := inClass (top 26) 11
abbrev sT_Survey_strike : Stmt := inClass (top 26) 8
abbrev sT_Survey_back : Stmt := inClass (top 26) 12
abbrev sT_Survey_twin : Stmt := inClass (top 26) 13
abbrev sT_law : Stmt := top 31
def dN : List He.DefD := [⟨("_law_numbers", none), "_law_numbers", "_law_numbers", defArgs sT_law_numbers, defBody sT_law_numbers, defScope sT_law_numbers, [], []⟩,
  ⟨("Survey", some "__init__"), "__init__", "Survey.__init__", defArgs sT_Survey_init, defBody sT_Survey_init, defScope sT_Survey_init, [], []⟩,
  ⟨("Survey", some "chalk"), "chalk", "Survey.chalk", defArgs sT_Survey_chalk, defBody sT_Survey_chalk, defScope sT_Survey_chalk, [], []⟩,
  ⟨("Survey", some "need_marks"), "need_marks", "Survey.need_marks", defArgs sT_Survey_need_marks, defBody sT_Survey_need_marks, defScope sT_Survey_need_marks, [], []⟩,
  ⟨("Survey", some "need_room"), "need_room", "Survey.need_room", defArgs sT_Survey_need_room, defBody sT_Survey_need_room, defScope sT_Survey_need_room, [], []⟩,
  ⟨("Survey", some "rows_now"), "rows_now", "Survey.rows_now", defArgs sT_Survey_rows_now, defBody sT_Survey_rows_now, defScope sT_Survey_rows_now, [], []⟩,
  ⟨("join", none), "join", "join", defArgs sT_join, defBody sT_join, defScope sT_join, [], []⟩,
  ⟨("sweep", none), "sweep", "sweep", defArgs sT_sweep, defBody sT_sweep, defScope sT_sweep, [], []⟩,
  ⟨("folded", none), "folded", "folded", defArgs sT_folded, defBody sT_folded, defScope sT_folded, [], []⟩,
  ⟨("Survey", some "labels_now"), "labels_now", "Survey.labels_now", defArgs sT_Survey_labels_now, defBody sT_Survey_labels_now, defScope sT_Survey_labels_now, [], []⟩,
  ⟨("Survey", some "same"), "same", "Survey.same", defArgs sT_Survey_same, defBody sT_Survey_same, defScope sT_Survey_same, [], []⟩,
  ⟨("Survey", some "enter"), "enter", "Survey.enter", defArgs sT_Survey_enter, defBody sT_Survey_enter, defScope sT_Survey_enter, [], []⟩,
  ⟨("Survey", some "apart"), "apart", "Survey.apart", defArgs sT_Survey_apart, defBody sT_Survey_apart, defScope sT_Survey_apart, [], []⟩,
  ⟨("lettered", none), "lettered", "lettered", defArgs sT_lettered, defBody sT_lettered, defScope sT_lettered, [], []⟩,
  ⟨("Survey", some "need_way"), "need_way", "Survey.need_way", defArgs sT_Survey_need_way, defBody sT_Survey_need_way, defScope sT_Survey_need_way, [], []⟩,
  ⟨("trail", none), "trail", "trail", defArgs sT_trail, defBody sT_trail, defScope sT_trail, [], []⟩,
  ⟨("Survey", some "broken"), "broken", "Survey.broken", defArgs sT_Survey_broken, defBody sT_Survey_broken, defScope sT_Survey_broken, [], []⟩,
  ⟨("Survey", some "never_paper"), "never_paper", "Survey.never_paper", defArgs sT_Survey_never_paper, defBody sT_Survey_never_paper, defScope sT_Survey_never_paper, [], []⟩,
  ⟨("Survey", some "row"), "row", "Survey.row", defArgs sT_Survey_row, defBody sT_Survey_row, defScope sT_Survey_row, [], []⟩,
  ⟨("_law_told", none), "_law_told", "_law_told", defArgs sT_law_told, defBody sT_law_told, defScope sT_law_told, [], []⟩,
  ⟨("_law_due", none), "_law_due", "_law_due", defArgs sT_law_due, defBody sT_law_due, defScope sT_law_due, [], []⟩,
  ⟨("Survey", some "hold"), "hold", "Survey.hold", defArgs sT_Survey_hold, defBody sT_Survey_hold, defScope sT_Survey_hold, [], []⟩,
  ⟨("Survey", some "strike"), "strike", "Survey.strike", defArgs sT_Survey_strike, defBody sT_Survey_strike, defScope sT_Survey_strike, [], []⟩,
  ⟨("Survey", some "back"), "back", "Survey.back", defArgs sT_Survey_back, defBody sT_Survey_back, defScope sT_Survey_back, [], []⟩,
  ⟨("Survey", some "twin"), "twin", "Survey.twin", defArgs sT_Survey_twin, defBody sT_Survey_twin, defScope sT_Survey_twin, [], []⟩,
  ⟨("law", none), "law", "law", defArgs sT_law, defBody sT_law, defScope sT_law, [], []⟩]
def fA : List He.Fa := [.glo "_law_numbers", .mkr "Survey", .meth "Survey" "chalk", .meth "Survey" "need_marks", .meth "Survey" "need_room", .meth "Survey" "rows_now", .glo "join", .glo "sweep", .glo "folded", .meth "Survey" "labels_now", .meth "Survey" "same", .meth "Survey" "enter", .meth "Survey" "apart", .glo "lettered", .meth "Survey" "need_way", .glo "trail", .meth "Survey" "broken", .meth "Survey" "never_paper", .meth "Survey" "row", .glo "_law_told", .glo "_law_due", .meth "Survey" "hold", .meth "Survey" "strike", .meth "Survey" "back", .meth "Survey" "twin", .glo "law", .free "range", .free "len", .free "min", .free "max", .free "list", .free "abs", .free "isinstance", .free "ValueError", .free "int", .int "MOST_KINDS" 5, .int "MOST_MARKS" 24, .int "MOST_ENTRIES" 40, .glo "NoKind", .exc "NoKind", .glo "Full", .exc "Full", .glo "NoMark", .exc "NoMark", .glo "Barred", .exc "Barred", .glo "NoEntry", .exc "NoEntry", .glo "NoHold", .exc "NoHold", .glo "NoMark", .glo "NoWay", .glo "NoKind", .glo "NoChart", .glo "NoChamber", .glo "NoHold", .glo "NoEntry", .glo "Full", .glo "Barred", .glo "NoHome", .glo "NoCave", .glo "CaveError", .cls "Survey", .noat "Survey" "kinds", .noat "Survey" "many", .noat "Survey" "kept", .noat "Survey" "coming", .noat "Survey" "held", .glo "Survey"]
abbrev Rw : PySem.W.OpenRow := PySem.W.OpenLaw.row PySem.Challenge.rw_chalkcave_k36_a_book_without_room
def exq (K : PySem.W.Frag) : Bool := ((["Barred", "Full", "NoMark", "NoKind"] : List String).all fun x => exOk ⟨fun x => He.ga K (x : Str), K⟩ x) && (([] : List String).all fun x => exm1 ⟨fun x => He.ga K (x : Str), K⟩ x)
abbrev hk : PySem.W.Hook := hookQ 4 fA dN exq
def ob (s : PySem.W.SharedT) : He.AlD × Bool := obsQ 4 fA dN exq (HandSHeadRun.getT s)
theorem ob_eq (s : PySem.W.SharedT) : ob s = hk.obs s.abs := obsQ_eq (HandSHeadRun.getT_eq s)
def loose : List Str := [("_wall" : Str), ("CaveError" : Str), ("NoKind" : Str), ("NoWay" : Str), ("NoMark" : Str), ("NoEntry" : Str), ("NoHold" : Str), ("NoChamber" : Str), ("NoChart" : Str), ("NoCave" : Str), ("NoHome" : Str), ("Barred" : Str), ("Full" : Str), ("lettered" : Str), ("join" : Str), ("sweep" : Str), ("folded" : Str), ("trail" : Str), ("chambers_of" : Str), ("MOST_KINDS" : Str), ("MOST_MARKS" : Str), ("MOST_ENTRIES" : Str), ("Survey" : Str), ("_law_numbers" : Str), ("_law_due" : Str), ("_law_told" : Str)]
theorem run (w : World) : HandSHeadRun.RunEq Rw (PySem.W.view Rw.prog [31]) hk ob 8000 loose w := by
  intro os
  kernel_rfl
end Lw

namespace Lw
open PySem L2 Mv

noncomputable def g_law_numbers_b1 : List D → Option Out := (sIf (eT (eOp dGt (eVar 5) (eC (.int 0)))) (sSeq (sAppP 2 (eVar 2) pVar (eOp dMod (eVar 5) (eC (.int 1000)))) (sSet 5 (eOp dDiv (eVar 5) (eC (.int 1000))))) sNext)
noncomputable def g_law_numbers_b2 : List D → Option Out := (sSeq (sSet 3 (eOp dMod (eOp dAdd (eOp dAdd (eOp dMul (eVar 3) (eC (.int 48271))) (eOp dMod (eVar 4) (eC (.int 1000003)))) (eC (.int 11))) (eC (.int 2147483647)))) (sSeq (sSet 5 (eOp dSub (eVar 4) (eOp dPow (eC (.int 10)) (eC (.int 18))))) (sSeq (sIf (eT (eOp dLt (eVar 5) (eC (.int 0)))) (sAppP 2 (eVar 2) pVar (eOp dMod (eVar 4) (eC (.int 1000)))) sNext) (sRng 6 [(eC (.int 60))] g_law_numbers_b1))))
noncomputable def g_law_numbers_b3 : List D → Option Out := (sSeq (sSet 3 (eOp dMod (eOp dAdd (eOp dAdd (eOp dAdd (eOp dMul (eVar 3) (eVar 3)) (eOp dMul (eC (.int 69621)) (eVar 3))) (eOp dMul (eC (.int 7)) (eCall dLen [(eVar 2)]))) (eC (.int 5))) (eC (.int 2147483629)))) (sAppP 2 (eVar 2) pVar (eOp dMod (eOp dDiv (eVar 3) (eC (.int 1009))) (eC (.int 1000)))))
noncomputable def g_law_numbers_r1 : List D → Option Out := (sRet (eSl (eVar 2) none (some (eVar 1))))
noncomputable def g_law_numbers_r2 : List D → Option Out := (sSeq (sWhile (eT (eOp dLt (eCall dLen [(eVar 2)]) (eVar 1))) g_law_numbers_b3) g_law_numbers_r1)
noncomputable def g_law_numbers_r3 : List D → Option Out := (sSeq (sFor 4 (eSl (eVar 0) none (some (eC (.int 63)))) g_law_numbers_b2) g_law_numbers_r2)
noncomputable def g_law_numbers_r4 : List D → Option Out := (sSeq (sSet 3 (eC (.int 17))) g_law_numbers_r3)
noncomputable def g_law_numbers : List D → Option Out := (sSeq (sSet 2 (eLst [])) g_law_numbers_r4)
noncomputable def G_law_numbers : List D → Option Out := fnOf g_law_numbers 7 false
noncomputable def t_law_numbers (cl : Nv) : TS := (tSeq (tAsg (tLst tNil) (gName 2)) (tSeq (tAsg (tC (.int 17)) (gName 3)) (tSeq (tFor (iList cl.K (tSl (rSlL cl.K) (tVar 0) tNoPart (tPart (tC (.int 63))))) (gName 4) (tSeq (tAsg (tOp (rI (fun _ j => 0 < j) fun i j => .int (i % j)) (tOp (rAddA cl.K) (tOp (rAddA cl.K) (tOp rMulA (tVar 3) (tC (.int 48271))) (tOp (rI (fun _ j => 0 < j) fun i j => .int (i % j)) (tVar 4) (tC (.int 1000003)))) (tC (.int 11))) (tC (.int 2147483647))) (gName 3)) (tSeq (tAsg (tOp (rI0 fun i j => .int (i - j)) (tVar 4) (tOp (rI CPow fun i j => .int (i ^ j.toNat)) (tC (.int 10)) (tC (.int 18)))) (gName 5)) (tSeq (tIfS (tTest (tOp (rI0 fun i j => .bl (decide (i < j))) (tVar 5) (tC (.int 0)))) (tDrop (tBM cl.K "list" rAppend (tVar 2) (tCons (tOp (rI (fun _ j => 0 < j) fun i j => .int (i % j)) (tVar 4) (tC (.int 1000))) tNil))) tNext) (tFor (iRng1 (tCons (tC (.int 60)) tNil)) (gName 6) (tIfS (tTest (tOp (rI0 fun i j => .bl (decide (j < i))) (tVar 5) (tC (.int 0)))) (tSeq (tDrop (tBM cl.K "list" rAppend (tVar 2) (tCons (tOp (rI (fun _ j => 0 < j) fun i j => .int (i % j)) (tVar 5) (tC (.int 1000))) tNil))) (tAsg (tOp (rI CDiv fun i j => .int (i / j)) (tVar 5) (tC (.int 1000))) (gName 5))) tNext)))))) (tSeq (tWhile (tTest (tOp (rI0 fun i j => .bl (decide (i < j))) (tCB (rLenA cl.K) (tCons (tVar 2) tNil)) (tVar 1))) (tSeq (tAsg (tOp (rI (fun _ j => 0 < j) fun i j => .int (i % j)) (tOp (rAddA cl.K) (tOp (rAddA cl.K) (tOp (rAddA cl.K) (tOp rMulA (tVar 3) (tVar 3)) (tOp rMulA (tC (.int 69621)) (tVar 3))) (tOp rMulA (tC (.int 7)) (tCB (rLenA cl.K) (tCons (tVar 2) tNil)))) (tC (.int 5))) (tC (.int 2147483629))) (gName 3)) (tDrop (tBM cl.K "list" rAppend (tVar 2) (tCons (tOp (rI (fun _ j => 0 < j) fun i j => .int (i % j)) (tOp (rI CDiv fun i j => .int (i / j)) (tVar 3) (tC (.int 1009))) (tC (.int 1000))) tNil))))) (tRet (tSl (rSlL cl.K) (tVar 2) tNoPart (tPart (tVar 1))))))))
theorem ss_law_numbers (cl : Nv) (W : WX) : SS cl W [.sc, .pn, .un, .un, .un, .un, .un] (mdOf [.sc, .pn] 7 (.fr (.ls .fz))) (t_law_numbers cl) g_law_numbers := (ss_seq [.sc, .pn, (.ow (.ls .fz)), .un, .un, .un, .un] (ss_setO (se_nilT (s := .fz)) (by decide) (by decide)) (ss_seq [.sc, .pn, (.ow (.ls .fz)), .pu, .un, .un, .un] (ss_set rfl se_int (by decide) (by decide)) (ss_seq [.sc, .pn, (.ow (.ls .fz)), .pu, .un, .un, .un] (ss_for [.sc, .pn, (.ow (.ls .fz)), .pu, .un, .un, .un] rfl (se_slSc (by rfl) (seo_some se_int)) (by decide) (by decide) (by decide) (ss_seq [.sc, .pn, (.ow (.ls .fz)), .pu, .pu, .un, .un] (ss_set rfl (se_op ops_Ic (se_op ops_add (se_op ops_add (se_op ops_mul (se_var_pu (by rfl)) se_int) (se_op ops_Ic (se_var_pu (by rfl)) se_int)) se_int) se_int) (by decide) (by decide)) (ss_seq [.sc, .pn, (.ow (.ls .fz)), .pu, .pu, .pu, .un] (ss_set rfl (se_op ops_I0 (se_var_pu (by rfl)) (se_op ops_Ic se_int se_int)) (by decide) (by decide)) (ss_seq [.sc, .pn, (.ow (.ls .fz)), .pu, .pu, .pu, .un] (ss_if (set_T (se_op ops_B0 (se_var_pu (by rfl)) se_int)) (ss_appP (sp_var (s := (.ls .fz)) (by rfl)) rfl (se_op ops_Ic (se_var_pu (by rfl)) se_int) (by decide) (by decide)) (ss_next (by decide)) (by decide)) (ss_rng1 [.sc, .pn, (.ow (.ls .fz)), .pu, .pu, .pu, .un] (sea_cons se_int sea_nil) (by decide) (by decide) (by decide) (ss_if (set_T (se_op ops_B0 (se_var_pu (by rfl)) se_int)) (ss_seq [.sc, .pn, (.ow (.ls .fz)), .pu, .pu, .pu, .pu] (ss_appP (sp_var (s := (.ls .fz)) (by rfl)) rfl (se_op ops_Ic (se_var_pu (by rfl)) se_int) (by decide) (by decide)) (ss_set rfl (se_op ops_Ic (se_var_pu (by rfl)) se_int) (by decide) (by decide))) (ss_next (by decide)) (by decide))))))) (ss_seq [.sc, .pn, (.ow (.ls .fz)), .pu, .un, .un, .un] (ss_while [.sc, .pn, (.ow (.ls .fz)), .pu, .un, .un, .un] (set_T (se_op ops_B0 (se_call0 ca_len (sea_cons (se_var (m := (.ow (.ls .fz))) (by rfl) rfl) sea_nil)) (se_var_pn (by rfl)))) (by decide) (by decide) (by decide) (ss_seq [.sc, .pn, (.ow (.ls .fz)), .pu, .un, .un, .un] (ss_set rfl (se_op ops_Ic (se_op ops_add (se_op ops_add (se_op ops_add (se_op ops_mul (se_var_pu (by rfl)) (se_var_pu (by rfl))) (se_op ops_mul se_int (se_var_pu (by rfl)))) (se_op ops_mul se_int (se_call0 ca_len (sea_cons (se_var (m := (.ow (.ls .fz))) (by rfl) rfl) sea_nil)))) se_int) se_int) (by decide) (by decide)) (ss_appP (sp_var (s := (.ls .fz)) (by rfl)) rfl (se_op ops_Ic (se_op ops_Ic (se_var_pu (by rfl)) se_int) se_int) (by decide) (by decide)))) (ss_retF (se_sl (se_var (m := (.ow (.ls .fz))) (by rfl) rfl) seo_none (seo_some (se_var_pn (by rfl)))) (by decide) (by decide))))))
abbrev N_law_numbers : List Str := [("_law_script" : Str), ("_law_many" : Str), ("_law_row" : Str), ("_law_seed" : Str), ("_law_cell" : Str), ("_law_rest" : Str), ("_law_k" : Str)]
abbrev P_law_numbers : List Str := [("_law_script" : Str), ("_law_many" : Str)]

noncomputable def g_Survey_init_r1 : List D → Option Out := (sFldP 0 "Survey" "held" (eVar 0) pVar (eLst []))
noncomputable def g_Survey_init_r2 : List D → Option Out := (sSeq (sFldP 0 "Survey" "coming" (eVar 0) pVar (eC (.int 1))) g_Survey_init_r1)
noncomputable def g_Survey_init_r3 : List D → Option Out := (sSeq (sFldP 0 "Survey" "kept" (eVar 0) pVar (eLst [])) g_Survey_init_r2)
noncomputable def g_Survey_init_r4 : List D → Option Out := (sSeq (sFldP 0 "Survey" "many" (eVar 0) pVar (eC (.int 0))) g_Survey_init_r3)
noncomputable def g_Survey_init_r5 : List D → Option Out := (sSeq (sFldP 0 "Survey" "kinds" (eVar 0) pVar (eImm (eVar 1))) g_Survey_init_r4)
noncomputable def g_Survey_init : List D → Option Out := (sSeq (sIf (eOr (eT (eOp dLt (eVar 1) (eC (.int 1)))) (eT (eOp dGt (eVar 1) (eC (.int 5))))) (sRaise "NoKind") sNext) g_Survey_init_r5)
noncomputable def G_Survey_init : List D → Option Out := fnOf g_Survey_init 2 true
noncomputable def t_Survey_init (cl : Nv) (W : WX) : TS := (tSeq (tIfS (tOr (tTest (tOp (rI0 fun i j => .bl (decide (i < j))) (tVar 1) (tC (.int 1)))) (tTest (tOp (rI0 fun i j => .bl (decide (j < i))) (tVar 1) (tC (.int 5))))) (tRaise W (cl "NoKind")) tNext) (tSeq (sFld cl.K (tVar 0) (tVar 1) "kinds") (tSeq (sFld cl.K (tVar 0) (tC (.int 0)) "many") (tSeq (sFld cl.K (tVar 0) (tLst tNil) "kept") (tSeq (sFld cl.K (tVar 0) (tC (.int 1)) "coming") (sFld cl.K (tVar 0) (tLst tNil) "held"))))))
theorem ss_Survey_init (cl : Nv) (W : WX) (h0 : Cls cl.K (cl "Survey")) (h1 : NoAttr cl.K (cl "Survey") "kinds") (h2 : NoAttr cl.K (cl "Survey") "many") (h3 : NoAttr cl.K (cl "Survey") "kept") (h4 : NoAttr cl.K (cl "Survey") "coming") (h5 : NoAttr cl.K (cl "Survey") "held") : SS cl W [(.bo (.io 1)), .pn] (mdOf [(.bo (.io 1)), .pn] 2 .pu) (t_Survey_init cl W) g_Survey_init := (ss_seq [(.bo (.io 1)), .pn] (ss_if (set_or (set_T (se_op ops_B0 (se_var_pn (by rfl)) se_int)) (set_T (se_op ops_B0 (se_var_pn (by rfl)) se_int))) (ss_raise (by decide)) (ss_next (by decide)) (by decide)) (ss_seq [(.bo (.io 1)), .pn] (ss_fldP (cc := "Survey") h0 h1 (show fldT 1 "kinds" = .fz from by decide +kernel) (sp_varB (s := (.io 1)) (by rfl)) rfl (se_imm (se_var_pn (by rfl))) (by decide) (by decide)) (ss_seq [(.bo (.io 1)), .pn] (ss_fldP (cc := "Survey") h0 h2 (show fldT 1 "many" = .fz from by decide +kernel) (sp_varB (s := (.io 1)) (by rfl)) rfl se_int (by decide) (by decide)) (ss_seq [(.bo (.io 1)), .pn] (ss_fldPT (cc := "Survey") h0 h3 (show fldT 1 "kept" = (.ls .fz) from by decide +kernel) (sp_varB (s := (.io 1)) (by rfl)) (se_nilT (s := .fz)) (by decide) (by decide)) (ss_seq [(.bo (.io 1)), .pn] (ss_fldP (cc := "Survey") h0 h4 (show fldT 1 "coming" = .fz from by decide +kernel) (sp_varB (s := (.io 1)) (by rfl)) rfl se_int (by decide) (by decide)) (ss_fldPT (cc := "Survey") h0 h5 (show fldT 1 "held" = (.ls .fz) from by decide +kernel) (sp_varB (s := (.io 1)) (by rfl)) (se_nilT (s := .fz)) (by decide) (by decide)))))))
abbrev N_Survey_init : List Str := [("self" : Str), ("kinds" : Str)]
abbrev P_Survey_init : List Str := [("self" : Str), ("kinds" : Str)]

noncomputable def g_Survey_chalk_r1 : List D → Option Out := (sRet (eOp dSub (eUn (dFld "Survey" "many") (eVar 0)) (eC (.int 1))))
noncomputable def g_Survey_chalk_r2 : List D → Option Out := (sSeq (sFldAugP 0 "Survey" "many" (eVar 0) pVar (eC (.int 1))) g_Survey_chalk_r1)
noncomputable def g_Survey_chalk : List D → Option Out := (sSeq (sIf (eT (eOp dGe (eUn (dFld "Survey" "many") (eVar 0)) (eC (.int 24)))) (sRaise "Full") sNext) g_Survey_chalk_r2)
noncomputable def G_Survey_chalk : List D → Option Out := fnOf g_Survey_chalk 1 true
noncomputable def t_Survey_chalk (cl : Nv) (W : WX) : TS := (tSeq (tIfS (tTest (tOp (rI0 fun i j => .bl (decide (j ≤ i))) (tFld cl.K (tVar 0) "many") (tC (.int 24)))) (tRaise W (cl "Full")) tNext) (tSeq (sFldAug cl.K (tVar 0) (tC (.int 1)) rAdd "many") (tRet (tOp (rI0 fun i j => .int (i - j)) (tFld cl.K (tVar 0) "many") (tC (.int 1))))))
theorem ss_Survey_chalk (cl : Nv) (W : WX) (h0 : Cls cl.K (cl "Survey")) (h1 : NoAttr cl.K (cl "Survey") "kinds") (h2 : NoAttr cl.K (cl "Survey") "many") (h3 : NoAttr cl.K (cl "Survey") "kept") (h4 : NoAttr cl.K (cl "Survey") "coming") (h5 : NoAttr cl.K (cl "Survey") "held") : SS cl W [(.bo (.io 1))] (mdOf [(.bo (.io 1))] 1 .pu) (t_Survey_chalk cl W) g_Survey_chalk := (ss_seq [(.bo (.io 1))] (ss_if (set_T (se_op ops_B0 (SP.pu (sp_fld (cc := "Survey") h0 h2 (show fldT 1 "many" = .fz from by decide +kernel) (sp_varB (s := (.io 1)) (by rfl)))) se_int)) (ss_raise (by decide)) (ss_next (by decide)) (by decide)) (ss_seq [(.bo (.io 1))] (ss_fldAugP (cc := "Survey") h0 h2 (show fldT 1 "many" = .fz from by decide +kernel) (sp_varB (s := (.io 1)) (by rfl)) se_int (by decide) (by decide)) (ss_ret rfl (se_op ops_I0 (SP.pu (sp_fld (cc := "Survey") h0 h2 (show fldT 1 "many" = .fz from by decide +kernel) (sp_varB (s := (.io 1)) (by rfl)))) se_int) (by decide) (by decide))))
abbrev N_Survey_chalk : List Str := [("self" : Str)]
abbrev P_Survey_chalk : List Str := [("self" : Str)]

noncomputable def g_Survey_need_marks : List D → Option Out := (sIf (eOr (eT (eOp dLt (eVar 1) (eC (.int 0)))) (eOr (eT (eOp dGe (eVar 1) (eUn (dFld "Survey" "many") (eVar 0)))) (eOr (eT (eOp dLt (eVar 2) (eC (.int 0)))) (eT (eOp dGe (eVar 2) (eUn (dFld "Survey" "many") (eVar 0))))))) (sRaise "NoMark") sNext)
noncomputable def G_Survey_need_marks : List D → Option Out := fnOf g_Survey_need_marks 3 true
noncomputable def t_Survey_need_marks (cl : Nv) (W : WX) : TS := (tIfS (tOr (tTest (tOp (rI0 fun i j => .bl (decide (i < j))) (tVar 1) (tC (.int 0)))) (tOr (tTest (tOp (rI0 fun i j => .bl (decide (j ≤ i))) (tVar 1) (tFld cl.K (tVar 0) "many"))) (tOr (tTest (tOp (rI0 fun i j => .bl (decide (i < j))) (tVar 2) (tC (.int 0)))) (tTest (tOp (rI0 fun i j => .bl (decide (j ≤ i))) (tVar 2) (tFld cl.K (tVar 0) "many")))))) (tRaise W (cl "NoMark")) tNext)
theorem ss_Survey_need_marks (cl : Nv) (W : WX) (h0 : Cls cl.K (cl "Survey")) (h1 : NoAttr cl.K (cl "Survey") "kinds") (h2 : NoAttr cl.K (cl "Survey") "many") (h3 : NoAttr cl.K (cl "Survey") "kept") (h4 : NoAttr cl.K (cl "Survey") "coming") (h5 : NoAttr cl.K (cl "Survey") "held") : SS cl W [.pn, .pn, .pn] (mdOf [.pn, .pn, .pn] 3 .pu) (t_Survey_need_marks cl W) g_Survey_need_marks := (ss_if (set_or (set_T (se_op ops_B0 (se_var_pn (by rfl)) se_int)) (set_or (set_T (se_op ops_B0 (se_var_pn (by rfl)) (se_fld (cc := "Survey") h0 h2 (se_var_pn (by rfl))))) (set_or (set_T (se_op ops_B0 (se_var_pn (by rfl)) se_int)) (set_T (se_op ops_B0 (se_var_pn (by rfl)) (se_fld (cc := "Survey") h0 h2 (se_var_pn (by rfl)))))))) (ss_raise (by decide)) (ss_next (by decide)) (by decide))
abbrev N_Survey_need_marks : List Str := [("self" : Str), ("a" : Str), ("b" : Str)]
abbrev P_Survey_need_marks : List Str := [("self" : Str), ("a" : Str), ("b" : Str)]

noncomputable def g_Survey_need_room : List D → Option Out := (sIf (eT (eOp dGe (eCall dLen [(eUn (dFld "Survey" "kept") (eVar 0))]) (eC (.int 40)))) (sRaise "Full") sNext)
noncomputable def G_Survey_need_room : List D → Option Out := fnOf g_Survey_need_room 1 true
noncomputable def t_Survey_need_room (cl : Nv) (W : WX) : TS := (tIfS (tTest (tOp (rI0 fun i j => .bl (decide (j ≤ i))) (tCB (rLenA cl.K) (tCons (tFld cl.K (tVar 0) "kept") tNil)) (tC (.int 40)))) (tRaise W (cl "Full")) tNext)
theorem ss_Survey_need_room (cl : Nv) (W : WX) (h0 : Cls cl.K (cl "Survey")) (h1 : NoAttr cl.K (cl "Survey") "kinds") (h2 : NoAttr cl.K (cl "Survey") "many") (h3 : NoAttr cl.K (cl "Survey") "kept") (h4 : NoAttr cl.K (cl "Survey") "coming") (h5 : NoAttr cl.K (cl "Survey") "held") : SS cl W [.pn] (mdOf [.pn] 1 .pu) (t_Survey_need_room cl W) g_Survey_need_room := (ss_if (set_T (se_op ops_B0 (se_call0 ca_len (sea_cons (se_fld (cc := "Survey") h0 h3 (se_var_pn (by rfl))) sea_nil)) se_int)) (ss_raise (by decide)) (ss_next (by decide)) (by decide))
abbrev N_Survey_need_room : List Str := [("self" : Str)]
abbrev P_Survey_need_room : List Str := [("self" : Str)]

noncomputable def g_Survey_rows_now : List D → Option Out := (sRet (eLc 1 (eUn (dFld "Survey" "kept") (eVar 0)) (eT (eOp dEq (eOp dIx (eVar 1) (eC (.int 1))) (eC (.str ("row" : Str))))) (eTup [(eImm (eOp dIx (eVar 1) (eC (.int 0)))), (eImm (eOp dIx (eVar 1) (eC (.int 2)))), (eImm (eOp dIx (eVar 1) (eC (.int 3)))), (eImm (eOp dIx (eVar 1) (eC (.int 4))))])))
noncomputable def G_Survey_rows_now : List D → Option Out := fnOf g_Survey_rows_now 2 false
noncomputable def t_Survey_rows_now (cl : Nv) : TS := (tRet (tLc (iList cl.K (tFld cl.K (tVar 0) "kept")) (gName 1) (tTest (tOp (rEqD cl.K) (tOp (rIx cl.K) (tVar 1) (tC (.int 1))) (tC (.str ("row" : Str))))) (tTup (tCons (tOp (rIx cl.K) (tVar 1) (tC (.int 0))) (tCons (tOp (rIx cl.K) (tVar 1) (tC (.int 2))) (tCons (tOp (rIx cl.K) (tVar 1) (tC (.int 3))) (tCons (tOp (rIx cl.K) (tVar 1) (tC (.int 4))) tNil))))) [1]))
theorem ss_Survey_rows_now (cl : Nv) (W : WX) (h0 : Cls cl.K (cl "Survey")) (h1 : NoAttr cl.K (cl "Survey") "kinds") (h2 : NoAttr cl.K (cl "Survey") "many") (h3 : NoAttr cl.K (cl "Survey") "kept") (h4 : NoAttr cl.K (cl "Survey") "coming") (h5 : NoAttr cl.K (cl "Survey") "held") : SS cl W [.pn, .un] (mdOf [.pn] 2 (.fr (.ls .fz))) (t_Survey_rows_now cl) g_Survey_rows_now := (ss_retF (se_lcLo (s := .fz) rfl (se_fld (cc := "Survey") h0 h3 (se_var_pn (by rfl))) (set_T (se_op ops_eq (se_ix (se_var_lo (by rfl)) se_int) se_str)) (se_tup rfl (sea_cons (se_imm (se_ix (se_var_lo (by rfl)) se_int)) (sea_cons (se_imm (se_ix (se_var_lo (by rfl)) se_int)) (sea_cons (se_imm (se_ix (se_var_lo (by rfl)) se_int)) (sea_cons (se_imm (se_ix (se_var_lo (by rfl)) se_int)) sea_nil))))) rfl) (by decide) (by decide))
abbrev N_Survey_rows_now : List Str := [("self" : Str), ("entry" : Str)]
abbrev P_Survey_rows_now : List Str := [("self" : Str)]

noncomputable def g_join_b1 : List D → Option Out := (sIf (eT (eOp dEq (eOp dIx (eVar 0) (eVar 5)) (eVar 4))) (sSetP 0 (eVar 0) (eVar 5) pVar (eVar 3)) sNext)
noncomputable def g_join_r1 : List D → Option Out := (sRng 5 [(eCall dLen [(eVar 0)])] g_join_b1)
noncomputable def g_join_r2 : List D → Option Out := (sSeq (sSet 4 (eCall dMax2 [(eOp dIx (eVar 0) (eVar 1)), (eOp dIx (eVar 0) (eVar 2))])) g_join_r1)
noncomputable def g_join : List D → Option Out := (sSeq (sSet 3 (eCall dMin2 [(eOp dIx (eVar 0) (eVar 1)), (eOp dIx (eVar 0) (eVar 2))])) g_join_r2)
noncomputable def G_join : List D → Option Out := fnOf g_join 6 true
noncomputable def t_join (cl : Nv) : TS := (tSeq (tAsg (tCB (fun xs H Q => ∃ i j, xs = [.int i, .int j] ∧ Q (.int (if j < i then j else i)) H) (tCons (tOp (rIx cl.K) (tVar 0) (tVar 1)) (tCons (tOp (rIx cl.K) (tVar 0) (tVar 2)) tNil))) (gName 3)) (tSeq (tAsg (tCB (fun xs H Q => ∃ i j, xs = [.int i, .int j] ∧ Q (.int (if j > i then j else i)) H) (tCons (tOp (rIx cl.K) (tVar 0) (tVar 1)) (tCons (tOp (rIx cl.K) (tVar 0) (tVar 2)) tNil))) (gName 4)) (tFor (iRng1 (tCons (tCB (rLenA cl.K) (tCons (tVar 0) tNil)) tNil)) (gName 5) (tIfS (tTest (tOp (rEqD cl.K) (tOp (rIx cl.K) (tVar 0) (tVar 5)) (tVar 4))) (tAsg (tVar 3) (gSub (tVar 0) (tVar 5) rSetL)) tNext))))
theorem ss_join (cl : Nv) (W : WX) (h0 : Cls cl.K (cl "Survey")) (h1 : NoAttr cl.K (cl "Survey") "kinds") (h2 : NoAttr cl.K (cl "Survey") "many") (h3 : NoAttr cl.K (cl "Survey") "kept") (h4 : NoAttr cl.K (cl "Survey") "coming") (h5 : NoAttr cl.K (cl "Survey") "held") : SS cl W [(.bo (.ls .fz)), .pn, .pn, .un, .un, .un] (mdOf [(.bo (.ls .fz)), .pn, .pn] 6 .pu) (t_join cl) g_join := (ss_seq [(.bo (.ls .fz)), .pn, .pn, .pu, .un, .un] (ss_set rfl (se_call0 ca_int2 (sea_cons (SP.pu (sp_ix (s := .fz) (sp_varB (s := (.ls .fz)) (by rfl)) (se_var_pn (by rfl)))) (sea_cons (SP.pu (sp_ix (s := .fz) (sp_varB (s := (.ls .fz)) (by rfl)) (se_var_pn (by rfl)))) sea_nil))) (by decide) (by decide)) (ss_seq [(.bo (.ls .fz)), .pn, .pn, .pu, .pu, .un] (ss_set rfl (se_call0 ca_int2 (sea_cons (SP.pu (sp_ix (s := .fz) (sp_varB (s := (.ls .fz)) (by rfl)) (se_var_pn (by rfl)))) (sea_cons (SP.pu (sp_ix (s := .fz) (sp_varB (s := (.ls .fz)) (by rfl)) (se_var_pn (by rfl)))) sea_nil))) (by decide) (by decide)) (ss_rng1 [(.bo (.ls .fz)), .pn, .pn, .pu, .pu, .un] (sea_cons (se_call0 ca_len (sea_cons (se_var (m := (.bo (.ls .fz))) (by rfl) rfl) sea_nil)) sea_nil) (by decide) (by decide) (by decide) (ss_if (set_T (se_op ops_eq (SP.pu (sp_ix (s := .fz) (sp_varB (s := (.ls .fz)) (by rfl)) (se_var_pu (by rfl)))) (se_var_pu (by rfl)))) (ss_setP (sp_varB (s := (.ls .fz)) (by rfl)) rfl (se_var_pu (by rfl)) (se_var_pu (by rfl)) (by decide) (by decide)) (ss_next (by decide)) (by decide)))))
abbrev N_join : List Str := [("labels" : Str), ("one" : Str), ("two" : Str), ("least" : Str), ("most" : Str), ("at" : Str)]
abbrev P_join : List Str := [("labels" : Str), ("one" : Str), ("two" : Str)]

noncomputable def g_sweep_b1 : List D → Option Out := (sSeq (sSet 10 (eImm (eVar 7))) (sSeq (sSet 11 (eImm (eVar 9))) (sSeq (sIf (eT (eOp dEq (eVar 2) (eUn dNeg (eC (.int 1))))) (sSeq (sSet 10 (eImm (eVar 9))) (sSet 11 (eImm (eVar 7)))) sNext) (sSeq (sSet 12 (eTup [(eOp dIx (eVar 0) (eVar 10)), (eImm (eVar 8))])) (sIf (eT (eOp dNiK (eVar 12) (eVar 4))) (sDPutP 4 (eVar 4) pVar (eVar 12) (eTup [(eImm (eVar 6)), (eVar 11)])) (sSeq (sUnp [13, 14] (eOp dAtK (eVar 4) (eVar 12))) (sIf (eT (eOp dNe (eOp dIx (eVar 0) (eVar 14)) (eOp dIx (eVar 0) (eVar 11)))) (sSeq (sDropE (eCallLN G_join [(eVar 0), (eVar 14), (eVar 11)] [some (0, pVar), none, none])) (sSeq (sAppP 3 (eVar 3) pVar (eTup [(eVar 13), (eImm (eVar 6)), (eImm (eVar 2))])) (sSet 5 (eC (.bl true))))) sNext)))))))
noncomputable def g_sweep_r1 : List D → Option Out := (sRet (eVar 5))
noncomputable def g_sweep_r2 : List D → Option Out := (sSeq (sForT [6, 7, 8, 9] (eVar 1) g_sweep_b1) g_sweep_r1)
noncomputable def g_sweep_r3 : List D → Option Out := (sSeq (sSet 5 (eC (.bl false))) g_sweep_r2)
noncomputable def g_sweep : List D → Option Out := (sSeq (sSet 4 (eC (.dctT []))) g_sweep_r3)
noncomputable def G_sweep : List D → Option Out := fnOf g_sweep 15 true
noncomputable def t_sweep (cl : Nv) : TS := (tSeq (tAsg tDNewT (gName 4)) (tSeq (tAsg (tC (.bl false)) (gName 5)) (tSeq (tFor (iList cl.K (tVar 1)) (gTup cl.K 4 (gNames [6, 7, 8, 9])) (tSeq (tAsg (tVar 7) (gName 10)) (tSeq (tAsg (tVar 9) (gName 11)) (tSeq (tIfS (tTest (tOp (rEqD cl.K) (tVar 2) (tUn (rU fun i => .int (-i)) (tC (.int 1))))) (tSeq (tAsg (tVar 9) (gName 10)) (tAsg (tVar 7) (gName 11))) tNext) (tSeq (tAsg (tTup (tCons (tOp (rIx cl.K) (tVar 0) (tVar 10)) (tCons (tVar 8) tNil))) (gName 12)) (tIfS (tB (tDNotIn (tVar 12) (tVar 4))) (sDPut (tVar 4) (tVar 12) (tTup (tCons (tVar 6) (tCons (tVar 11) tNil)))) (tSeq (tAsg (tDGet (tVar 4) (tVar 12)) (gTup cl.K 2 (gNames [13, 14]))) (tIfS (tTest (tOp (rNeD cl.K) (tOp (rIx cl.K) (tVar 0) (tVar 14)) (tOp (rIx cl.K) (tVar 0) (tVar 11)))) (tSeq (tDrop (tCall (spOf cl [(.bo (.ls .fz)), .pn, .pn] .pu G_join) [] E0 (tCons (tVar 0) (tCons (tVar 14) (tCons (tVar 11) tNil))))) (tSeq (tDrop (tBM cl.K "list" rAppend (tVar 3) (tCons (tTup (tCons (tVar 13) (tCons (tVar 6) (tCons (tVar 2) tNil)))) tNil))) (tAsg (tC (.bl true)) (gName 5)))) tNext)))))))) (tRet (tVar 5)))))
theorem ss_sweep (cl : Nv) (W : WX) (h0 : Cls cl.K (cl "Survey")) (h1 : NoAttr cl.K (cl "Survey") "kinds") (h2 : NoAttr cl.K (cl "Survey") "many") (h3 : NoAttr cl.K (cl "Survey") "kept") (h4 : NoAttr cl.K (cl "Survey") "coming") (h5 : NoAttr cl.K (cl "Survey") "held") : SS cl W [(.bo (.ls .fz)), .pn, .pn, (.bo (.ls .fz)), .un, .un, .un, .un, .un, .un, .un, .un, .un, .un, .un] (mdOf [(.bo (.ls .fz)), .pn, .pn, (.bo (.ls .fz))] 15 .pu) (t_sweep cl) g_sweep := (ss_seq [(.bo (.ls .fz)), .pn, .pn, (.bo (.ls .fz)), (.ow .dt), .un, .un, .un, .un, .un, .un, .un, .un, .un, .un] (ss_setO se_dnewT (by decide) (by decide)) (ss_seq [(.bo (.ls .fz)), .pn, .pn, (.bo (.ls .fz)), (.ow .dt), .pu, .un, .un, .un, .un, .un, .un, .un, .un, .un] (ss_set rfl se_bl (by decide) (by decide)) (ss_seq [(.bo (.ls .fz)), .pn, .pn, (.bo (.ls .fz)), (.ow .dt), .pu, .un, .un, .un, .un, .un, .un, .un, .un, .un] (ss_forTLo [(.bo (.ls .fz)), .pn, .pn, (.bo (.ls .fz)), (.ow .dt), .pu, .un, .un, .un, .un, .un, .un, .un, .un, .un] rfl rfl (se_var_pn (by rfl)) (by decide) (by decide) (by decide) (ss_seq [(.bo (.ls .fz)), .pn, .pn, (.bo (.ls .fz)), (.ow .dt), .pu, .lo, .lo, .lo, .lo, .pu, .un, .un, .un, .un] (ss_set rfl (se_imm (se_var_lo (by rfl))) (by decide) (by decide)) (ss_seq [(.bo (.ls .fz)), .pn, .pn, (.bo (.ls .fz)), (.ow .dt), .pu, .lo, .lo, .lo, .lo, .pu, .pu, .un, .un, .un] (ss_set rfl (se_imm (se_var_lo (by rfl))) (by decide) (by decide)) (ss_seq [(.bo (.ls .fz)), .pn, .pn, (.bo (.ls .fz)), (.ow .dt), .pu, .lo, .lo, .lo, .lo, .pu, .pu, .un, .un, .un] (ss_if (set_T (se_op ops_eq (se_var_pn (by rfl)) (se_un uns_neg se_int))) (ss_seq [(.bo (.ls .fz)), .pn, .pn, (.bo (.ls .fz)), (.ow .dt), .pu, .lo, .lo, .lo, .lo, .pu, .pu, .un, .un, .un] (ss_set rfl (se_imm (se_var_lo (by rfl))) (by decide) (by decide)) (ss_set rfl (se_imm (se_var_lo (by rfl))) (by decide) (by decide))) (ss_next (by decide)) (by decide)) (ss_seq [(.bo (.ls .fz)), .pn, .pn, (.bo (.ls .fz)), (.ow .dt), .pu, .lo, .lo, .lo, .lo, .pu, .pu, .pu, .un, .un] (ss_set rfl (se_tup rfl (sea_cons (SP.pu (sp_ix (s := .fz) (sp_varB (s := (.ls .fz)) (by rfl)) (se_var_pu (by rfl)))) (sea_cons (se_imm (se_var_lo (by rfl))) sea_nil))) (by decide) (by decide)) (ss_if (set_B (se_dni (se_var_pu (by rfl)) (se_var (m := (.ow .dt)) (by rfl) rfl))) (ss_dputT (sp_var (s := .dt) (by rfl)) rfl (se_tup rfl (sea_cons (se_imm (se_var_lo (by rfl))) (sea_cons (se_var_pu (by rfl)) sea_nil))) (se_var_pu (by rfl)) (by decide) (by decide)) (ss_seq [(.bo (.ls .fz)), .pn, .pn, (.bo (.ls .fz)), (.ow .dt), .pu, .lo, .lo, .lo, .lo, .pu, .pu, .pu, .pu, .pu] (ss_unp rfl rfl (se_dgetT (sp_var (s := .dt) (by rfl)) (se_var_pu (by rfl))) (by decide) (by decide)) (ss_if (set_T (se_op ops_ne (SP.pu (sp_ix (s := .fz) (sp_varB (s := (.ls .fz)) (by rfl)) (se_var_pu (by rfl)))) (SP.pu (sp_ix (s := .fz) (sp_varB (s := (.ls .fz)) (by rfl)) (se_var_pu (by rfl)))))) (ss_seq [(.bo (.ls .fz)), .pn, .pn, (.bo (.ls .fz)), (.ow .dt), .pu, .lo, .lo, .lo, .lo, .pu, .pu, .pu, .pu, .pu] (ss_dropE (see_fnLN (pm := [(.bo (.ls .fz)), .pn, .pn]) (rc := .pu) (ks := [.l 0 (.ls .fz) pVar, .v .pu, .v .pu]) (by decide) (by decide) (by decide) (sel_l (sp_varB (s := (.ls .fz)) (by rfl)) (sel_v (se_var_pu (by rfl)) (sel_v (se_var_pu (by rfl)) sel_nil)))) (by decide)) (ss_seq [(.bo (.ls .fz)), .pn, .pn, (.bo (.ls .fz)), (.ow .dt), .pu, .lo, .lo, .lo, .lo, .pu, .pu, .pu, .pu, .pu] (ss_appP (sp_varB (s := (.ls .fz)) (by rfl)) rfl (se_tup rfl (sea_cons (se_var_pu (by rfl)) (sea_cons (se_imm (se_var_lo (by rfl))) (sea_cons (se_imm (se_var_pn (by rfl))) sea_nil)))) (by decide) (by decide)) (ss_set rfl se_bl (by decide) (by decide)))) (ss_next (by decide)) (by decide))) (by decide))))))) (ss_ret rfl (se_var_pu (by rfl)) (by decide) (by decide)))))
abbrev N_sweep : List Str := [("labels" : Str), ("rows" : Str), ("side" : Str), ("paper" : Str), ("first" : Str), ("moving" : Str), ("number" : Str), ("a" : Str), ("kind" : Str), ("b" : Str), ("near" : Str), ("far" : Str), ("key" : Str), ("other" : Str), ("end" : Str)]
abbrev P_sweep : List Str := [("labels" : Str), ("rows" : Str), ("side" : Str), ("paper" : Str)]

noncomputable def g_folded_b1 : List D → Option Out := (sIf (eT (eOp dNe (eOp dIx (eVar 3) (eVar 4)) (eOp dIx (eVar 3) (eVar 5)))) (sDropE (eCallLN G_join [(eVar 3), (eVar 4), (eVar 5)] [some (3, pVar), none, none])) sNext)
noncomputable def g_folded_b2 : List D → Option Out := (sSeq (sSetE 7 (eCallLN G_sweep [(eVar 3), (eVar 1), (eC (.int 1)), (eVar 6)] [some (3, pVar), none, none, some (6, pVar)])) (sIfE (eCallLN G_sweep [(eVar 3), (eVar 1), (eUn dNeg (eC (.int 1))), (eVar 6)] [some (3, pVar), none, none, some (6, pVar)]) (sSet 7 (eC (.bl true))) sNext))
noncomputable def g_folded_r1 : List D → Option Out := (sRet (eTup [(eVar 3), (eVar 6)]))
noncomputable def g_folded_r2 : List D → Option Out := (sSeq (sWhile (eT (eVar 7)) g_folded_b2) g_folded_r1)
noncomputable def g_folded_r3 : List D → Option Out := (sSeq (sSet 7 (eC (.bl true))) g_folded_r2)
noncomputable def g_folded_r4 : List D → Option Out := (sSeq (sSet 6 (eLst [])) g_folded_r3)
noncomputable def g_folded_r5 : List D → Option Out := (sSeq (sForT [4, 5] (eVar 2) g_folded_b1) g_folded_r4)
noncomputable def g_folded : List D → Option Out := (sSeq (sSet 3 (eUn dListR (eVar 0))) g_folded_r5)
noncomputable def G_folded : List D → Option Out := fnOf g_folded 8 true
noncomputable def t_folded (cl : Nv) : TS := (tSeq (tAsg (tLstRg (tRg1 (tVar 0))) (gName 3)) (tSeq (tFor (iList cl.K (tVar 2)) (gTup cl.K 2 (gNames [4, 5])) (tIfS (tTest (tOp (rNeD cl.K) (tOp (rIx cl.K) (tVar 3) (tVar 4)) (tOp (rIx cl.K) (tVar 3) (tVar 5)))) (tDrop (tCall (spOf cl [(.bo (.ls .fz)), .pn, .pn] .pu G_join) [] E0 (tCons (tVar 3) (tCons (tVar 4) (tCons (tVar 5) tNil))))) tNext)) (tSeq (tAsg (tLst tNil) (gName 6)) (tSeq (tAsg (tC (.bl true)) (gName 7)) (tSeq (tWhile (tB (tVar 7)) (tSeq (tAsg (tCall (spOf cl [(.bo (.ls .fz)), .pn, .pn, (.bo (.ls .fz))] .pu G_sweep) [] E0 (tCons (tVar 3) (tCons (tVar 1) (tCons (tC (.int 1)) (tCons (tVar 6) tNil))))) (gName 7)) (tIfS (tB (tCall (spOf cl [(.bo (.ls .fz)), .pn, .pn, (.bo (.ls .fz))] .pu G_sweep) [] E0 (tCons (tVar 3) (tCons (tVar 1) (tCons (tUn (rU fun i => .int (-i)) (tC (.int 1))) (tCons (tVar 6) tNil)))))) (tAsg (tC (.bl true)) (gName 7)) tNext))) (tRet (tTup (tCons (tVar 3) (tCons (tVar 6) tNil)))))))))
theorem ss_folded (cl : Nv) (W : WX) (h0 : Cls cl.K (cl "Survey")) (h1 : NoAttr cl.K (cl "Survey") "kinds") (h2 : NoAttr cl.K (cl "Survey") "many") (h3 : NoAttr cl.K (cl "Survey") "kept") (h4 : NoAttr cl.K (cl "Survey") "coming") (h5 : NoAttr cl.K (cl "Survey") "held") : SS cl W [.pn, .pn, .pn, .un, .un, .un, .un, .un] (mdOf [.pn, .pn, .pn] 8 .pu) (t_folded cl) g_folded := (ss_seq [.pn, .pn, .pn, (.ow (.ls .fz)), .un, .un, .un, .un] (ss_setO (se_listR (se_var_pn (by rfl))) (by decide) (by decide)) (ss_seq [.pn, .pn, .pn, (.ow (.ls .fz)), .un, .un, .un, .un] (ss_forTLo [.pn, .pn, .pn, (.ow (.ls .fz)), .un, .un, .un, .un] rfl rfl (se_var_pn (by rfl)) (by decide) (by decide) (by decide) (ss_if (set_T (se_op ops_ne (SP.pu (sp_ix (s := .fz) (sp_var (s := (.ls .fz)) (by rfl)) (se_var_lo (by rfl)))) (SP.pu (sp_ix (s := .fz) (sp_var (s := (.ls .fz)) (by rfl)) (se_var_lo (by rfl)))))) (ss_dropE (see_fnLN (pm := [(.bo (.ls .fz)), .pn, .pn]) (rc := .pu) (ks := [.l 3 (.ls .fz) pVar, .v .lo, .v .lo]) (by decide) (by decide) (by decide) (sel_l (sp_var (s := (.ls .fz)) (by rfl)) (sel_v (se_var_lo (by rfl)) (sel_v (se_var_lo (by rfl)) sel_nil)))) (by decide)) (ss_next (by decide)) (by decide))) (ss_seq [.pn, .pn, .pn, (.ow (.ls .fz)), .un, .un, (.ow (.ls .fz)), .un] (ss_setO (se_nilT (s := .fz)) (by decide) (by decide)) (ss_seq [.pn, .pn, .pn, (.ow (.ls .fz)), .un, .un, (.ow (.ls .fz)), .pu] (ss_set rfl se_bl (by decide) (by decide)) (ss_seq [.pn, .pn, .pn, (.ow (.ls .fz)), .un, .un, (.ow (.ls .fz)), .pu] (ss_while [.pn, .pn, .pn, (.ow (.ls .fz)), .un, .un, (.ow (.ls .fz)), .pu] (set_B (se_var_pu (by rfl))) (by decide) (by decide) (by decide) (ss_seq [.pn, .pn, .pn, (.ow (.ls .fz)), .un, .un, (.ow (.ls .fz)), .pu] (ss_setE (see_fnLN (pm := [(.bo (.ls .fz)), .pn, .pn, (.bo (.ls .fz))]) (rc := .pu) (ks := [.l 3 (.ls .fz) pVar, .v .lo, .v .pu, .l 6 (.ls .fz) pVar]) (by decide) (by decide) (by decide) (sel_l (sp_var (s := (.ls .fz)) (by rfl)) (sel_v (se_var_pn (by rfl)) (sel_v se_int (sel_l (sp_var (s := (.ls .fz)) (by rfl)) sel_nil))))) (by decide)) (ss_ifE (see_fnLN (pm := [(.bo (.ls .fz)), .pn, .pn, (.bo (.ls .fz))]) (rc := .pu) (ks := [.l 3 (.ls .fz) pVar, .v .lo, .v .pu, .l 6 (.ls .fz) pVar]) (by decide) (by decide) (by decide) (sel_l (sp_var (s := (.ls .fz)) (by rfl)) (sel_v (se_var_pn (by rfl)) (sel_v (se_un uns_neg se_int) (sel_l (sp_var (s := (.ls .fz)) (by rfl)) sel_nil))))) (ss_set rfl se_bl (by decide) (by decide)) (ss_next (by decide))))) (ss_frz (k := 3) (by rfl) (ss_frz (k := 6) (by rfl) (ss_ret rfl (se_tup rfl (sea_cons (se_var_pu (by rfl)) (sea_cons (se_var_pu (by rfl)) sea_nil))) (by decide) (by decide)))))))))
abbrev N_folded : List Str := [("marks" : Str), ("rows" : Str), ("start" : Str), ("labels" : Str), ("a" : Str), ("b" : Str), ("paper" : Str), ("moving" : Str)]
abbrev P_folded : List Str := [("marks" : Str), ("rows" : Str), ("start" : Str)]

noncomputable def g_Survey_labels_now : List D → Option Out := (sRet (eOp dIx (eFnN G_folded [(eUn (dFld "Survey" "many") (eVar 0)), (eMeN "Survey" "rows_now" G_Survey_rows_now (eVar 0) []), (eLst [])]) (eC (.int 0))))
noncomputable def G_Survey_labels_now : List D → Option Out := fnOf g_Survey_labels_now 1 true
noncomputable def t_Survey_labels_now (cl : Nv) : TS := (tRet (tOp (rIx cl.K) (tCall (spOf cl [.pn, .pn, .pn] .pu G_folded) [] E0 (tCons (tFld cl.K (tVar 0) "many") (tCons (tMeth (cl "Survey") "rows_now" (spOf cl [.pn] (.fr (.ls .fz)) G_Survey_rows_now) [] E0 (tVar 0) tNil) (tCons (tLst tNil) tNil)))) (tC (.int 0))))
theorem ss_Survey_labels_now (cl : Nv) (W : WX) (h0 : Cls cl.K (cl "Survey")) (h1 : NoAttr cl.K (cl "Survey") "kinds") (h2 : NoAttr cl.K (cl "Survey") "many") (h3 : NoAttr cl.K (cl "Survey") "kept") (h4 : NoAttr cl.K (cl "Survey") "coming") (h5 : NoAttr cl.K (cl "Survey") "held") : SS cl W [.pn] (mdOf [.pn] 1 .pu) (t_Survey_labels_now cl) g_Survey_labels_now := (ss_ret rfl (se_ix (se_fnN (pm := [.pn, .pn, .pn]) (rc := .pu) rfl (sea_cons (se_fld (cc := "Survey") h0 h2 (se_var_pn (by rfl))) (sea_cons (se_meN (pm := [.pn]) (rc := (.fr (.ls .fz))) (cs := []) rfl (se_var_pn (by rfl)) sea_nil) (sea_cons (se_lst rfl sea_nil) sea_nil)))) se_int) (by decide) (by decide))
abbrev N_Survey_labels_now : List Str := [("self" : Str)]
abbrev P_Survey_labels_now : List Str := [("self" : Str)]

noncomputable def g_Survey_same_r1 : List D → Option Out := (sRet (eOp dEq (eOp dIx (eVar 3) (eVar 1)) (eOp dIx (eVar 3) (eVar 2))))
noncomputable def g_Survey_same_r2 : List D → Option Out := (sSeq (sSet 3 (eMeN "Survey" "labels_now" G_Survey_labels_now (eVar 0) [])) g_Survey_same_r1)
noncomputable def g_Survey_same : List D → Option Out := (sSeq (sDrop (eMe "Survey" "need_marks" G_Survey_need_marks (eVar 0) [(eVar 1), (eVar 2)])) g_Survey_same_r2)
noncomputable def G_Survey_same : List D → Option Out := fnOf g_Survey_same 4 true
noncomputable def t_Survey_same (cl : Nv) (W : WX) : TS := (tSeq (tDrop (tMethS (cl "Survey") "need_marks" (spOf cl [.pn, .pn, .pn] .pu G_Survey_need_marks) (WE W) (tVar 0) (tCons (tVar 1) (tCons (tVar 2) tNil)))) (tSeq (tAsg (tMeth (cl "Survey") "labels_now" (spOf cl [.pn] .pu G_Survey_labels_now) [] E0 (tVar 0) tNil) (gName 3)) (tRet (tOp (rEqD cl.K) (tOp (rIx cl.K) (tVar 3) (tVar 1)) (tOp (rIx cl.K) (tVar 3) (tVar 2))))))
theorem ss_Survey_same (cl : Nv) (W : WX) (h0 : Cls cl.K (cl "Survey")) (h1 : NoAttr cl.K (cl "Survey") "kinds") (h2 : NoAttr cl.K (cl "Survey") "many") (h3 : NoAttr cl.K (cl "Survey") "kept") (h4 : NoAttr cl.K (cl "Survey") "coming") (h5 : NoAttr cl.K (cl "Survey") "held") : SS cl W [.pn, .pn, .pn, .un] (mdOf [.pn, .pn, .pn] 4 .pu) (t_Survey_same cl W) g_Survey_same := (ss_seq [.pn, .pn, .pn, .un] (ss_drop (se_me (pm := [.pn, .pn, .pn]) (rc := .pu) (cs := [.lo, .lo]) rfl (se_var_pn (by rfl)) (sea_cons (se_var_pn (by rfl)) (sea_cons (se_var_pn (by rfl)) sea_nil))) (by decide) (by decide)) (ss_seq [.pn, .pn, .pn, .pu] (ss_set rfl (se_meN (pm := [.pn]) (rc := .pu) (cs := []) rfl (se_var_pn (by rfl)) sea_nil) (by decide) (by decide)) (ss_ret rfl (se_op ops_eq (se_ix (se_var_pu (by rfl)) (se_var_pn (by rfl))) (se_ix (se_var_pu (by rfl)) (se_var_pn (by rfl)))) (by decide) (by decide))))
abbrev N_Survey_same : List Str := [("self" : Str), ("a" : Str), ("b" : Str), ("labels" : Str)]
abbrev P_Survey_same : List Str := [("self" : Str), ("a" : Str), ("b" : Str)]

noncomputable def g_Survey_enter_r1 : List D → Option Out := (sRet (eVar 3))
noncomputable def g_Survey_enter_r2 : List D → Option Out := (sSeq (sFldP 0 "Survey" "coming" (eVar 0) pVar (eOp dAdd (eVar 3) (eC (.int 1)))) g_Survey_enter_r1)
noncomputable def g_Survey_enter_r3 : List D → Option Out := (sSeq (sAppP 0 (eUn (dFld "Survey" "kept") (eVar 0)) (pFd "kept" (eVar 0) pVar) (eOp dAdd (eTup [(eVar 3), (eImm (eVar 1))]) (eVar 2))) g_Survey_enter_r2)
noncomputable def g_Survey_enter : List D → Option Out := (sSeq (sSet 3 (eUn (dFld "Survey" "coming") (eVar 0))) g_Survey_enter_r3)
noncomputable def G_Survey_enter : List D → Option Out := fnOf g_Survey_enter 4 true
noncomputable def t_Survey_enter (cl : Nv) : TS := (tSeq (tAsg (tFld cl.K (tVar 0) "coming") (gName 3)) (tSeq (tDrop (tBM cl.K "list" rAppend (tFld cl.K (tVar 0) "kept") (tCons (tOp (rAddA cl.K) (tTup (tCons (tVar 3) (tCons (tVar 1) tNil))) (tVar 2)) tNil))) (tSeq (sFld cl.K (tVar 0) (tOp (rAddA cl.K) (tVar 3) (tC (.int 1))) "coming") (tRet (tVar 3)))))
theorem ss_Survey_enter (cl : Nv) (W : WX) (h0 : Cls cl.K (cl "Survey")) (h1 : NoAttr cl.K (cl "Survey") "kinds") (h2 : NoAttr cl.K (cl "Survey") "many") (h3 : NoAttr cl.K (cl "Survey") "kept") (h4 : NoAttr cl.K (cl "Survey") "coming") (h5 : NoAttr cl.K (cl "Survey") "held") : SS cl W [(.bo (.io 1)), .pn, .pn, .un] (mdOf [(.bo (.io 1)), .pn, .pn] 4 .pu) (t_Survey_enter cl) g_Survey_enter := (ss_seq [(.bo (.io 1)), .pn, .pn, .pu] (ss_set rfl (SP.pu (sp_fld (cc := "Survey") h0 h4 (show fldT 1 "coming" = .fz from by decide +kernel) (sp_varB (s := (.io 1)) (by rfl)))) (by decide) (by decide)) (ss_seq [(.bo (.io 1)), .pn, .pn, .pu] (ss_appP (sp_fld (cc := "Survey") h0 h3 (show fldT 1 "kept" = (.ls .fz) from by decide +kernel) (sp_varB (s := (.io 1)) (by rfl))) rfl (se_op ops_add (se_tup rfl (sea_cons (se_var_pu (by rfl)) (sea_cons (se_imm (se_var_pn (by rfl))) sea_nil))) (se_var_pn (by rfl))) (by decide) (by decide)) (ss_seq [(.bo (.io 1)), .pn, .pn, .pu] (ss_fldP (cc := "Survey") h0 h4 (show fldT 1 "coming" = .fz from by decide +kernel) (sp_varB (s := (.io 1)) (by rfl)) rfl (se_op ops_add (se_var_pu (by rfl)) se_int) (by decide) (by decide)) (ss_ret rfl (se_var_pu (by rfl)) (by decide) (by decide)))))
abbrev N_Survey_enter : List Str := [("self" : Str), ("deed" : Str), ("things" : Str), ("number" : Str)]
abbrev P_Survey_enter : List Str := [("self" : Str), ("deed" : Str), ("things" : Str)]

noncomputable def g_Survey_apart_r1 : List D → Option Out := (sRetE (eMethLN "Survey" "enter" G_Survey_enter (eVar 0) [(eC (.str ("apart" : Str))), (eTup [(eImm (eVar 1)), (eImm (eVar 2))])] [some (0, pVar), none, none]))
noncomputable def g_Survey_apart_r2 : List D → Option Out := (sSeq (sIf (eT (eMe "Survey" "same" G_Survey_same (eVar 0) [(eVar 1), (eVar 2)])) (sRaise "Barred") sNext) g_Survey_apart_r1)
noncomputable def g_Survey_apart_r3 : List D → Option Out := (sSeq (sDrop (eMe "Survey" "need_room" G_Survey_need_room (eVar 0) [])) g_Survey_apart_r2)
noncomputable def g_Survey_apart : List D → Option Out := (sSeq (sDrop (eMe "Survey" "need_marks" G_Survey_need_marks (eVar 0) [(eVar 1), (eVar 2)])) g_Survey_apart_r3)
noncomputable def G_Survey_apart : List D → Option Out := fnOf g_Survey_apart 3 true
noncomputable def t_Survey_apart (cl : Nv) (W : WX) : TS := (tSeq (tDrop (tMethS (cl "Survey") "need_marks" (spOf cl [.pn, .pn, .pn] .pu G_Survey_need_marks) (WE W) (tVar 0) (tCons (tVar 1) (tCons (tVar 2) tNil)))) (tSeq (tDrop (tMethS (cl "Survey") "need_room" (spOf cl [.pn] .pu G_Survey_need_room) (WE W) (tVar 0) tNil)) (tSeq (tIfS (tB (tMethS (cl "Survey") "same" (spOf cl [.pn, .pn, .pn] .pu G_Survey_same) (WE W) (tVar 0) (tCons (tVar 1) (tCons (tVar 2) tNil)))) (tRaise W (cl "Barred")) tNext) (tRet (tMeth (cl "Survey") "enter" (spOf cl [(.bo (.io 1)), .pn, .pn] .pu G_Survey_enter) [] E0 (tVar 0) (tCons (tC (.str ("apart" : Str))) (tCons (tTup (tCons (tVar 1) (tCons (tVar 2) tNil))) tNil)))))))
theorem ss_Survey_apart (cl : Nv) (W : WX) (h0 : Cls cl.K (cl "Survey")) (h1 : NoAttr cl.K (cl "Survey") "kinds") (h2 : NoAttr cl.K (cl "Survey") "many") (h3 : NoAttr cl.K (cl "Survey") "kept") (h4 : NoAttr cl.K (cl "Survey") "coming") (h5 : NoAttr cl.K (cl "Survey") "held") : SS cl W [(.bo (.io 1)), .pn, .pn] (mdOf [(.bo (.io 1)), .pn, .pn] 3 .pu) (t_Survey_apart cl W) g_Survey_apart := (ss_seq [(.bo (.io 1)), .pn, .pn] (ss_drop (se_me (pm := [.pn, .pn, .pn]) (rc := .pu) (cs := [.lo, .lo]) rfl (se_var (m := (.bo (.io 1))) (by rfl) rfl) (sea_cons (se_var_pn (by rfl)) (sea_cons (se_var_pn (by rfl)) sea_nil))) (by decide) (by decide)) (ss_seq [(.bo (.io 1)), .pn, .pn] (ss_drop (se_me (pm := [.pn]) (rc := .pu) (cs := []) rfl (se_var (m := (.bo (.io 1))) (by rfl) rfl) sea_nil) (by decide) (by decide)) (ss_seq [(.bo (.io 1)), .pn, .pn] (ss_if (set_B (se_me (pm := [.pn, .pn, .pn]) (rc := .pu) (cs := [.lo, .lo]) rfl (se_var (m := (.bo (.io 1))) (by rfl) rfl) (sea_cons (se_var_pn (by rfl)) (sea_cons (se_var_pn (by rfl)) sea_nil)))) (ss_raise (by decide)) (ss_next (by decide)) (by decide)) (ss_retE (see_meLN (cc := "Survey") (mt := "enter") (pm := [(.bo (.io 1)), .pn, .pn]) (rc := .pu) (ks := [.v .pu, .v .pu]) (by decide) (by decide) (by decide) (sp_varB (s := (.io 1)) (by rfl)) (sel_v se_str (sel_v (se_tup rfl (sea_cons (se_imm (se_var_pn (by rfl))) (sea_cons (se_imm (se_var_pn (by rfl))) sea_nil))) sel_nil))) (by decide)))))
abbrev N_Survey_apart : List Str := [("self" : Str), ("a" : Str), ("b" : Str)]
abbrev P_Survey_apart : List Str := [("self" : Str), ("a" : Str), ("b" : Str)]

noncomputable def g_lettered_b1 : List D → Option Out := (sIf (eOr (eT (eOp dEq (eVar 2) (eC (.int 0)))) (eT (eOp dGt (eCall dAbs [(eVar 2)]) (eVar 1)))) (sRet (eC (.bl false))) sNext)
noncomputable def g_lettered_r1 : List D → Option Out := (sRet (eC (.bl true)))
noncomputable def g_lettered : List D → Option Out := (sSeq (sFor 2 (eVar 0) g_lettered_b1) g_lettered_r1)
noncomputable def G_lettered : List D → Option Out := fnOf g_lettered 3 true
noncomputable def t_lettered (cl : Nv) : TS := (tSeq (tFor (iList cl.K (tVar 0)) (gName 2) (tIfS (tOr (tTest (tOp (rEqD cl.K) (tVar 2) (tC (.int 0)))) (tTest (tOp (rI0 fun i j => .bl (decide (j < i))) (tCB (fun xs H Q => ∃ i, xs = [.int i] ∧ Q (.int (if i < 0 then -i else i)) H) (tCons (tVar 2) tNil)) (tVar 1)))) (tRet (tC (.bl false))) tNext)) (tRet (tC (.bl true))))
theorem ss_lettered (cl : Nv) (W : WX) (h0 : Cls cl.K (cl "Survey")) (h1 : NoAttr cl.K (cl "Survey") "kinds") (h2 : NoAttr cl.K (cl "Survey") "many") (h3 : NoAttr cl.K (cl "Survey") "kept") (h4 : NoAttr cl.K (cl "Survey") "coming") (h5 : NoAttr cl.K (cl "Survey") "held") : SS cl W [.pn, .pn, .un] (mdOf [.pn, .pn] 3 .pu) (t_lettered cl) g_lettered := (ss_seq [.pn, .pn, .un] (ss_forLo [.pn, .pn, .un] rfl (se_var_pn (by rfl)) (by decide) (by decide) (by decide) (ss_if (set_or (set_T (se_op ops_eq (se_var_lo (by rfl)) se_int)) (set_T (se_op ops_B0 (se_call0 ca_int1 (sea_cons (se_var_lo (by rfl)) sea_nil)) (se_var_pn (by rfl))))) (ss_ret rfl se_bl (by decide) (by decide)) (ss_next (by decide)) (by decide))) (ss_ret rfl se_bl (by decide) (by decide)))
abbrev N_lettered : List Str := [("way" : Str), ("kinds" : Str), ("letter" : Str)]
abbrev P_lettered : List Str := [("way" : Str), ("kinds" : Str)]

noncomputable def g_Survey_need_way_r1 : List D → Option Out := (sIf (eNot (eT (eFnN G_lettered [(eVar 2), (eUn (dFld "Survey" "kinds") (eVar 0))]))) (sRaise "NoKind") sNext)
noncomputable def g_Survey_need_way : List D → Option Out := (sSeq (sDrop (eMe "Survey" "need_marks" G_Survey_need_marks (eVar 0) [(eVar 1), (eVar 3)])) g_Survey_need_way_r1)
noncomputable def G_Survey_need_way : List D → Option Out := fnOf g_Survey_need_way 4 true
noncomputable def t_Survey_need_way (cl : Nv) (W : WX) : TS := (tSeq (tDrop (tMethS (cl "Survey") "need_marks" (spOf cl [.pn, .pn, .pn] .pu G_Survey_need_marks) (WE W) (tVar 0) (tCons (tVar 1) (tCons (tVar 3) tNil)))) (tIfS (tNot (tB (tCall (spOf cl [.pn, .pn] .pu G_lettered) [] E0 (tCons (tVar 2) (tCons (tFld cl.K (tVar 0) "kinds") tNil))))) (tRaise W (cl "NoKind")) tNext))
theorem ss_Survey_need_way (cl : Nv) (W : WX) (h0 : Cls cl.K (cl "Survey")) (h1 : NoAttr cl.K (cl "Survey") "kinds") (h2 : NoAttr cl.K (cl "Survey") "many") (h3 : NoAttr cl.K (cl "Survey") "kept") (h4 : NoAttr cl.K (cl "Survey") "coming") (h5 : NoAttr cl.K (cl "Survey") "held") : SS cl W [.pn, .pn, .pn, .pn] (mdOf [.pn, .pn, .pn, .pn] 4 .pu) (t_Survey_need_way cl W) g_Survey_need_way := (ss_seq [.pn, .pn, .pn, .pn] (ss_drop (se_me (pm := [.pn, .pn, .pn]) (rc := .pu) (cs := [.lo, .lo]) rfl (se_var_pn (by rfl)) (sea_cons (se_var_pn (by rfl)) (sea_cons (se_var_pn (by rfl)) sea_nil))) (by decide) (by decide)) (ss_if (set_not (set_B (se_fnN (pm := [.pn, .pn]) (rc := .pu) rfl (sea_cons (se_var_pn (by rfl)) (sea_cons (se_fld (cc := "Survey") h0 h1 (se_var_pn (by rfl))) sea_nil))))) (ss_raise (by decide)) (ss_next (by decide)) (by decide)))
abbrev N_Survey_need_way : List Str := [("self" : Str), ("a" : Str), ("way" : Str), ("b" : Str)]
abbrev P_Survey_need_way : List Str := [("self" : Str), ("a" : Str), ("way" : Str), ("b" : Str)]

noncomputable def g_trail_b1 : List D → Option Out := (sSeq (sSet 6 (eOp dAdd (eVar 0) (eVar 5))) (sSeq (sIf (eT (eOp dGt (eOp dIx (eVar 2) (eVar 5)) (eC (.int 0)))) (sAppP 3 (eVar 3) pVar (eTup [(eOp dSub (eUn dNeg (eC (.int 1))) (eVar 5)), (eVar 4), (eImm (eOp dIx (eVar 2) (eVar 5))), (eVar 6)])) (sAppP 3 (eVar 3) pVar (eTup [(eOp dSub (eUn dNeg (eC (.int 1))) (eVar 5)), (eVar 6), (eUn dNeg (eOp dIx (eVar 2) (eVar 5))), (eVar 4)]))) (sSet 4 (eVar 6))))
noncomputable def g_trail_r1 : List D → Option Out := (sRet (eTup [(eVar 3), (eVar 4)]))
noncomputable def g_trail_r2 : List D → Option Out := (sSeq (sRng 5 [(eCall dLen [(eVar 2)])] g_trail_b1) g_trail_r1)
noncomputable def g_trail_r3 : List D → Option Out := (sSeq (sSet 4 (eImm (eVar 1))) g_trail_r2)
noncomputable def g_trail : List D → Option Out := (sSeq (sSet 3 (eLst [])) g_trail_r3)
noncomputable def G_trail : List D → Option Out := fnOf g_trail 7 true
noncomputable def t_trail (cl : Nv) : TS := (tSeq (tAsg (tLst tNil) (gName 3)) (tSeq (tAsg (tVar 1) (gName 4)) (tSeq (tFor (iRng1 (tCons (tCB (rLenA cl.K) (tCons (tVar 2) tNil)) tNil)) (gName 5) (tSeq (tAsg (tOp (rAddA cl.K) (tVar 0) (tVar 5)) (gName 6)) (tSeq (tIfS (tTest (tOp (rI0 fun i j => .bl (decide (j < i))) (tOp (rIx cl.K) (tVar 2) (tVar 5)) (tC (.int 0)))) (tDrop (tBM cl.K "list" rAppend (tVar 3) (tCons (tTup (tCons (tOp (rI0 fun i j => .int (i - j)) (tUn (rU fun i => .int (-i)) (tC (.int 1))) (tVar 5)) (tCons (tVar 4) (tCons (tOp (rIx cl.K) (tVar 2) (tVar 5)) (tCons (tVar 6) tNil))))) tNil))) (tDrop (tBM cl.K "list" rAppend (tVar 3) (tCons (tTup (tCons (tOp (rI0 fun i j => .int (i - j)) (tUn (rU fun i => .int (-i)) (tC (.int 1))) (tVar 5)) (tCons (tVar 6) (tCons (tUn (rU fun i => .int (-i)) (tOp (rIx cl.K) (tVar 2) (tVar 5))) (tCons (tVar 4) tNil))))) tNil)))) (tAsg (tVar 6) (gName 4))))) (tRet (tTup (tCons (tVar 3) (tCons (tVar 4) tNil)))))))
theorem ss_trail (cl : Nv) (W : WX) (h0 : Cls cl.K (cl "Survey")) (h1 : NoAttr cl.K (cl "Survey") "kinds") (h2 : NoAttr cl.K (cl "Survey") "many") (h3 : NoAttr cl.K (cl "Survey") "kept") (h4 : NoAttr cl.K (cl "Survey") "coming") (h5 : NoAttr cl.K (cl "Survey") "held") : SS cl W [.pn, .pn, .pn, .un, .un, .un, .un] (mdOf [.pn, .pn, .pn] 7 .pu) (t_trail cl) g_trail := (ss_seq [.pn, .pn, .pn, (.ow (.ls .fz)), .un, .un, .un] (ss_setO (se_nilT (s := .fz)) (by decide) (by decide)) (ss_seq [.pn, .pn, .pn, (.ow (.ls .fz)), .pu, .un, .un] (ss_set rfl (se_imm (se_var_pn (by rfl))) (by decide) (by decide)) (ss_seq [.pn, .pn, .pn, (.ow (.ls .fz)), .pu, .un, .un] (ss_rng1 [.pn, .pn, .pn, (.ow (.ls .fz)), .pu, .un, .un] (sea_cons (se_call0 ca_len (sea_cons (se_var_pn (by rfl)) sea_nil)) sea_nil) (by decide) (by decide) (by decide) (ss_seq [.pn, .pn, .pn, (.ow (.ls .fz)), .pu, .pu, .pu] (ss_set rfl (se_op ops_add (se_var_pn (by rfl)) (se_var_pu (by rfl))) (by decide) (by decide)) (ss_seq [.pn, .pn, .pn, (.ow (.ls .fz)), .pu, .pu, .pu] (ss_if (set_T (se_op ops_B0 (se_ix (se_var_pn (by rfl)) (se_var_pu (by rfl))) se_int)) (ss_appP (sp_var (s := (.ls .fz)) (by rfl)) rfl (se_tup rfl (sea_cons (se_op ops_I0 (se_un uns_neg se_int) (se_var_pu (by rfl))) (sea_cons (se_var_pu (by rfl)) (sea_cons (se_imm (se_ix (se_var_pn (by rfl)) (se_var_pu (by rfl)))) (sea_cons (se_var_pu (by rfl)) sea_nil))))) (by decide) (by decide)) (ss_appP (sp_var (s := (.ls .fz)) (by rfl)) rfl (se_tup rfl (sea_cons (se_op ops_I0 (se_un uns_neg se_int) (se_var_pu (by rfl))) (sea_cons (se_var_pu (by rfl)) (sea_cons (se_un uns_neg (se_ix (se_var_pn (by rfl)) (se_var_pu (by rfl)))) (sea_cons (se_var_pu (by rfl)) sea_nil))))) (by decide) (by decide)) (by decide)) (ss_set rfl (se_var_pu (by rfl)) (by decide) (by decide))))) (ss_frz (k := 3) (by rfl) (ss_ret rfl (se_tup rfl (sea_cons (se_var_pu (by rfl)) (sea_cons (se_var_pu (by rfl)) sea_nil))) (by decide) (by decide))))))
abbrev N_trail : List Str := [("first" : Str), ("a" : Str), ("way" : Str), ("rows" : Str), ("here" : Str), ("at" : Str), ("fresh" : Str)]
abbrev P_trail : List Str := [("first" : Str), ("a" : Str), ("way" : Str)]

noncomputable def g_Survey_broken_b1 : List D → Option Out := (sIf (eAnd (eT (eOp dEq (eOp dIx (eVar 2) (eC (.int 1))) (eC (.str ("apart" : Str))))) (eT (eOp dEq (eOp dIx (eVar 1) (eOp dIx (eVar 2) (eC (.int 2)))) (eOp dIx (eVar 1) (eOp dIx (eVar 2) (eC (.int 3))))))) (sRet (eImm (eOp dIx (eVar 2) (eC (.int 0))))) sNext)
noncomputable def g_Survey_broken_r1 : List D → Option Out := (sRet (eC .non))
noncomputable def g_Survey_broken : List D → Option Out := (sSeq (sFor 2 (eUn (dFld "Survey" "kept") (eVar 0)) g_Survey_broken_b1) g_Survey_broken_r1)
noncomputable def G_Survey_broken : List D → Option Out := fnOf g_Survey_broken 3 true
noncomputable def t_Survey_broken (cl : Nv) : TS := (tSeq (tFor (iList cl.K (tFld cl.K (tVar 0) "kept")) (gName 2) (tIfS (tAnd (tTest (tOp (rEqD cl.K) (tOp (rIx cl.K) (tVar 2) (tC (.int 1))) (tC (.str ("apart" : Str))))) (tTest (tOp (rEqD cl.K) (tOp (rIx cl.K) (tVar 1) (tOp (rIx cl.K) (tVar 2) (tC (.int 2)))) (tOp (rIx cl.K) (tVar 1) (tOp (rIx cl.K) (tVar 2) (tC (.int 3))))))) (tRet (tOp (rIx cl.K) (tVar 2) (tC (.int 0)))) tNext)) (tRet (tC .non)))
theorem ss_Survey_broken (cl : Nv) (W : WX) (h0 : Cls cl.K (cl "Survey")) (h1 : NoAttr cl.K (cl "Survey") "kinds") (h2 : NoAttr cl.K (cl "Survey") "many") (h3 : NoAttr cl.K (cl "Survey") "kept") (h4 : NoAttr cl.K (cl "Survey") "coming") (h5 : NoAttr cl.K (cl "Survey") "held") : SS cl W [.pn, .pn, .un] (mdOf [.pn, .pn] 3 .pu) (t_Survey_broken cl) g_Survey_broken := (ss_seq [.pn, .pn, .un] (ss_forLo [.pn, .pn, .un] rfl (se_fld (cc := "Survey") h0 h3 (se_var_pn (by rfl))) (by decide) (by decide) (by decide) (ss_if (set_and (set_T (se_op ops_eq (se_ix (se_var_lo (by rfl)) se_int) se_str)) (set_T (se_op ops_eq (se_ix (se_var_pn (by rfl)) (se_ix (se_var_lo (by rfl)) se_int)) (se_ix (se_var_pn (by rfl)) (se_ix (se_var_lo (by rfl)) se_int))))) (ss_ret rfl (se_imm (se_ix (se_var_lo (by rfl)) se_int)) (by decide) (by decide)) (ss_next (by decide)) (by decide))) (ss_ret rfl se_non (by decide) (by decide)))
abbrev N_Survey_broken : List Str := [("self" : Str), ("labels" : Str), ("entry" : Str)]
abbrev P_Survey_broken : List Str := [("self" : Str), ("labels" : Str)]

noncomputable def g_Survey_never_paper_r1 : List D → Option Out := (sRet (eTup [(eVar 8), (eVar 7)]))
noncomputable def g_Survey_never_paper_r2 : List D → Option Out := (sSeq (sIf (eT (eOp dIsN (eVar 8) (eC .non))) (sRet (eC .non)) sNext) g_Survey_never_paper_r1)
noncomputable def g_Survey_never_paper_r3 : List D → Option Out := (sSeq (sSet 8 (eMeN "Survey" "broken" G_Survey_broken (eVar 0) [(eVar 6)])) g_Survey_never_paper_r2)
noncomputable def g_Survey_never_paper_r4 : List D → Option Out := (sSeq (sUnp [6, 7] (eFnN G_folded [(eOp dAdd (eUn (dFld "Survey" "many") (eVar 0)) (eCall dLen [(eVar 2)])), (eOp dAdd (eMeN "Survey" "rows_now" G_Survey_rows_now (eVar 0) []) (eVar 4)), (eLst [(eTup [(eVar 5), (eImm (eVar 3))])])])) g_Survey_never_paper_r3)
noncomputable def g_Survey_never_paper_r5 : List D → Option Out := (sSeq (sUnp [4, 5] (eFnN G_trail [(eUn (dFld "Survey" "many") (eVar 0)), (eVar 1), (eVar 2)])) g_Survey_never_paper_r4)
noncomputable def g_Survey_never_paper : List D → Option Out := (sSeq (sDrop (eMe "Survey" "need_way" G_Survey_need_way (eVar 0) [(eVar 1), (eVar 2), (eVar 3)])) g_Survey_never_paper_r5)
noncomputable def G_Survey_never_paper : List D → Option Out := fnOf g_Survey_never_paper 9 true
noncomputable def t_Survey_never_paper (cl : Nv) (W : WX) : TS := (tSeq (tDrop (tMethS (cl "Survey") "need_way" (spOf cl [.pn, .pn, .pn, .pn] .pu G_Survey_need_way) (WE W) (tVar 0) (tCons (tVar 1) (tCons (tVar 2) (tCons (tVar 3) tNil))))) (tSeq (tAsg (tCall (spOf cl [.pn, .pn, .pn] .pu G_trail) [] E0 (tCons (tFld cl.K (tVar 0) "many") (tCons (tVar 1) (tCons (tVar 2) tNil)))) (gTup cl.K 2 (gNames [4, 5]))) (tSeq (tAsg (tCall (spOf cl [.pn, .pn, .pn] .pu G_folded) [] E0 (tCons (tOp (rAddA cl.K) (tFld cl.K (tVar 0) "many") (tCB (rLenA cl.K) (tCons (tVar 2) tNil))) (tCons (tOp (rAddA cl.K) (tMeth (cl "Survey") "rows_now" (spOf cl [.pn] (.fr (.ls .fz)) G_Survey_rows_now) [] E0 (tVar 0) tNil) (tVar 4)) (tCons (tLst (tCons (tTup (tCons (tVar 5) (tCons (tVar 3) tNil))) tNil)) tNil)))) (gTup cl.K 2 (gNames [6, 7]))) (tSeq (tAsg (tMeth (cl "Survey") "broken" (spOf cl [.pn, .pn] .pu G_Survey_broken) [] E0 (tVar 0) (tCons (tVar 6) tNil)) (gName 8)) (tSeq (tIfS (tTest (tOp Mv.rIsN (tVar 8) (tC .non))) (tRet (tC .non)) tNext) (tRet (tTup (tCons (tVar 8) (tCons (tVar 7) tNil)))))))))
theorem ss_Survey_never_paper (cl : Nv) (W : WX) (h0 : Cls cl.K (cl "Survey")) (h1 : NoAttr cl.K (cl "Survey") "kinds") (h2 : NoAttr cl.K (cl "Survey") "many") (h3 : NoAttr cl.K (cl "Survey") "kept") (h4 : NoAttr cl.K (cl "Survey") "coming") (h5 : NoAttr cl.K (cl "Survey") "held") : SS cl W [.pn, .pn, .pn, .pn, .un, .un, .un, .un, .un] (mdOf [.pn, .pn, .pn, .pn] 9 .pu) (t_Survey_never_paper cl W) g_Survey_never_paper := (ss_seq [.pn, .pn, .pn, .pn, .un, .un, .un, .un, .un] (ss_drop (se_me (pm := [.pn, .pn, .pn, .pn]) (rc := .pu) (cs := [.lo, .lo, .lo]) rfl (se_var_pn (by rfl)) (sea_cons (se_var_pn (by rfl)) (sea_cons (se_var_pn (by rfl)) (sea_cons (se_var_pn (by rfl)) sea_nil)))) (by decide) (by decide)) (ss_seq [.pn, .pn, .pn, .pn, .pu, .pu, .un, .un, .un] (ss_unp rfl rfl (se_fnN (pm := [.pn, .pn, .pn]) (rc := .pu) rfl (sea_cons (se_fld (cc := "Survey") h0 h2 (se_var_pn (by rfl))) (sea_cons (se_var_pn (by rfl)) (sea_cons (se_var_pn (by rfl)) sea_nil)))) (by decide) (by decide)) (ss_seq [.pn, .pn, .pn, .pn, .pu, .pu, .pu, .pu, .un] (ss_unp rfl rfl (se_fnN (pm := [.pn, .pn, .pn]) (rc := .pu) rfl (sea_cons (se_op ops_add (se_fld (cc := "Survey") h0 h2 (se_var_pn (by rfl))) (se_call0 ca_len (sea_cons (se_var_pn (by rfl)) sea_nil))) (sea_cons (se_op ops_add (se_meN (pm := [.pn]) (rc := (.fr (.ls .fz))) (cs := []) rfl (se_var_pn (by rfl)) sea_nil) (se_var_pu (by rfl))) (sea_cons (se_lst rfl (sea_cons (se_tup rfl (sea_cons (se_var_pu (by rfl)) (sea_cons (se_imm (se_var_pn (by rfl))) sea_nil))) sea_nil)) sea_nil)))) (by decide) (by decide)) (ss_seq [.pn, .pn, .pn, .pn, .pu, .pu, .pu, .pu, .pu] (ss_set rfl (se_meN (pm := [.pn, .pn]) (rc := .pu) (cs := [.pu]) rfl (se_var_pn (by rfl)) (sea_cons (se_var_pu (by rfl)) sea_nil)) (by decide) (by decide)) (ss_seq [.pn, .pn, .pn, .pn, .pu, .pu, .pu, .pu, .pu] (ss_if (set_T (se_op ops_isN (se_var_pu (by rfl)) se_non)) (ss_ret rfl se_non (by decide) (by decide)) (ss_next (by decide)) (by decide)) (ss_ret rfl (se_tup rfl (sea_cons (se_var_pu (by rfl)) (sea_cons (se_var_pu (by rfl)) sea_nil))) (by decide) (by decide)))))))
abbrev N_Survey_never_paper : List Str := [("self" : Str), ("a" : Str), ("way" : Str), ("b" : Str), ("rows" : Str), ("end" : Str), ("labels" : Str), ("paper" : Str), ("number" : Str)]
abbrev P_Survey_never_paper : List Str := [("self" : Str), ("a" : Str), ("way" : Str), ("b" : Str)]

noncomputable def g_Survey_row_r1 : List D → Option Out := (sRetE (eMethLN "Survey" "enter" G_Survey_enter (eVar 0) [(eC (.str ("row" : Str))), (eTup [(eImm (eVar 1)), (eImm (eVar 2)), (eImm (eVar 3))])] [some (0, pVar), none, none]))
noncomputable def g_Survey_row_r2 : List D → Option Out := (sSeq (sIf (eT (eOp dNotN (eMe "Survey" "never_paper" G_Survey_never_paper (eVar 0) [(eVar 1), (eLst [(eImm (eVar 2))]), (eVar 3)]) (eC .non))) (sRaise "Barred") sNext) g_Survey_row_r1)
noncomputable def g_Survey_row_r3 : List D → Option Out := (sSeq (sDrop (eMe "Survey" "need_room" G_Survey_need_room (eVar 0) [])) g_Survey_row_r2)
noncomputable def g_Survey_row_r4 : List D → Option Out := (sSeq (sIf (eOr (eT (eOp dLt (eVar 2) (eC (.int 1)))) (eT (eOp dGt (eVar 2) (eUn (dFld "Survey" "kinds") (eVar 0))))) (sRaise "NoKind") sNext) g_Survey_row_r3)
noncomputable def g_Survey_row : List D → Option Out := (sSeq (sDrop (eMe "Survey" "need_marks" G_Survey_need_marks (eVar 0) [(eVar 1), (eVar 3)])) g_Survey_row_r4)
noncomputable def G_Survey_row : List D → Option Out := fnOf g_Survey_row 4 true
noncomputable def t_Survey_row (cl : Nv) (W : WX) : TS := (tSeq (tDrop (tMethS (cl "Survey") "need_marks" (spOf cl [.pn, .pn, .pn] .pu G_Survey_need_marks) (WE W) (tVar 0) (tCons (tVar 1) (tCons (tVar 3) tNil)))) (tSeq (tIfS (tOr (tTest (tOp (rI0 fun i j => .bl (decide (i < j))) (tVar 2) (tC (.int 1)))) (tTest (tOp (rI0 fun i j => .bl (decide (j < i))) (tVar 2) (tFld cl.K (tVar 0) "kinds")))) (tRaise W (cl "NoKind")) tNext) (tSeq (tDrop (tMethS (cl "Survey") "need_room" (spOf cl [.pn] .pu G_Survey_need_room) (WE W) (tVar 0) tNil)) (tSeq (tIfS (tTest (tOp Mv.rNotN (tMethS (cl "Survey") "never_paper" (spOf cl [.pn, .pn, .pn, .pn] .pu G_Survey_never_paper) (WE W) (tVar 0) (tCons (tVar 1) (tCons (tLst (tCons (tVar 2) tNil)) (tCons (tVar 3) tNil)))) (tC .non))) (tRaise W (cl "Barred")) tNext) (tRet (tMeth (cl "Survey") "enter" (spOf cl [(.bo (.io 1)), .pn, .pn] .pu G_Survey_enter) [] E0 (tVar 0) (tCons (tC (.str ("row" : Str))) (tCons (tTup (tCons (tVar 1) (tCons (tVar 2) (tCons (tVar 3) tNil)))) tNil))))))))
theorem ss_Survey_row (cl : Nv) (W : WX) (h0 : Cls cl.K (cl "Survey")) (h1 : NoAttr cl.K (cl "Survey") "kinds") (h2 : NoAttr cl.K (cl "Survey") "many") (h3 : NoAttr cl.K (cl "Survey") "kept") (h4 : NoAttr cl.K (cl "Survey") "coming") (h5 : NoAttr cl.K (cl "Survey") "held") : SS cl W [(.bo (.io 1)), .pn, .pn, .pn] (mdOf [(.bo (.io 1)), .pn, .pn, .pn] 4 .pu) (t_Survey_row cl W) g_Survey_row := (ss_seq [(.bo (.io 1)), .pn, .pn, .pn] (ss_drop (se_me (pm := [.pn, .pn, .pn]) (rc := .pu) (cs := [.lo, .lo]) rfl (se_var (m := (.bo (.io 1))) (by rfl) rfl) (sea_cons (se_var_pn (by rfl)) (sea_cons (se_var_pn (by rfl)) sea_nil))) (by decide) (by decide)) (ss_seq [(.bo (.io 1)), .pn, .pn, .pn] (ss_if (set_or (set_T (se_op ops_B0 (se_var_pn (by rfl)) se_int)) (set_T (se_op ops_B0 (se_var_pn (by rfl)) (SP.pu (sp_fld (cc := "Survey") h0 h1 (show fldT 1 "kinds" = .fz from by decide +kernel) (sp_varB (s := (.io 1)) (by rfl))))))) (ss_raise (by decide)) (ss_next (by decide)) (by decide)) (ss_seq [(.bo (.io 1)), .pn, .pn, .pn] (ss_drop (se_me (pm := [.pn]) (rc := .pu) (cs := []) rfl (se_var (m := (.bo (.io 1))) (by rfl) rfl) sea_nil) (by decide) (by decide)) (ss_seq [(.bo (.io 1)), .pn, .pn, .pn] (ss_if (set_T (se_op ops_notN (se_me (pm := [.pn, .pn, .pn, .pn]) (rc := .pu) (cs := [.lo, (.fr (.ls .fz)), .lo]) rfl (se_var (m := (.bo (.io 1))) (by rfl) rfl) (sea_cons (se_var_pn (by rfl)) (sea_cons (se_lst rfl (sea_cons (se_imm (se_var_pn (by rfl))) sea_nil)) (sea_cons (se_var_pn (by rfl)) sea_nil)))) se_non)) (ss_raise (by decide)) (ss_next (by decide)) (by decide)) (ss_retE (see_meLN (cc := "Survey") (mt := "enter") (pm := [(.bo (.io 1)), .pn, .pn]) (rc := .pu) (ks := [.v .pu, .v .pu]) (by decide) (by decide) (by decide) (sp_varB (s := (.io 1)) (by rfl)) (sel_v se_str (sel_v (se_tup rfl (sea_cons (se_imm (se_var_pn (by rfl))) (sea_cons (se_imm (se_var_pn (by rfl))) (sea_cons (se_imm (se_var_pn (by rfl))) sea_nil)))) sel_nil))) (by decide))))))
abbrev N_Survey_row : List Str := [("self" : Str), ("a" : Str), ("kind" : Str), ("b" : Str)]
abbrev P_Survey_row : List Str := [("self" : Str), ("a" : Str), ("kind" : Str), ("b" : Str)]

noncomputable def g_law_told_r1 : List D → Option Out := (sRet (eTup [(eVar 5), (eVar 6)]))
noncomputable def g_law_told_r2 : List D → Option Out := (sSeq (sTryBad 6 ["Barred", "Full", "NoMark", "NoKind"] (sIf (eT (eVar 1)) (sSetE 5 (eMethL "Survey" "apart" G_Survey_apart (eVar 0) [(eVar 2), (eVar 4)] [some (0, pVar), none, none])) (sSetE 5 (eMethL "Survey" "row" G_Survey_row (eVar 0) [(eVar 2), (eVar 3), (eVar 4)] [some (0, pVar), none, none, none])))) g_law_told_r1)
noncomputable def g_law_told_r3 : List D → Option Out := (sSeq (sSet 6 (eLst [])) g_law_told_r2)
noncomputable def g_law_told : List D → Option Out := (sSeq (sSet 5 (eC .non)) g_law_told_r3)
noncomputable def G_law_told : List D → Option Out := fnOf g_law_told 8 true
noncomputable def t_law_told (cl : Nv) : TS := (tSeq (tAsg (tC .non) (gName 5)) (tSeq (tAsg (tLst tNil) (gName 6)) (tSeq (tTryBad cl ["Barred", "Full", "NoMark", "NoKind"] 7 6 (fun W => (tIfS (tB (tVar 1)) (tAsg (tMethS (cl "Survey") "apart" (spOf cl [(.bo (.io 1)), .pn, .pn] .pu G_Survey_apart) (WE W) (tVar 0) (tCons (tVar 2) (tCons (tVar 4) tNil))) (gName 5)) (tAsg (tMethS (cl "Survey") "row" (spOf cl [(.bo (.io 1)), .pn, .pn, .pn] .pu G_Survey_row) (WE W) (tVar 0) (tCons (tVar 2) (tCons (tVar 3) (tCons (tVar 4) tNil)))) (gName 5))))) (tRet (tTup (tCons (tVar 5) (tCons (tVar 6) tNil)))))))
theorem ss_law_told (cl : Nv) (W : WX) (h0 : Cls cl.K (cl "Survey")) (h1 : NoAttr cl.K (cl "Survey") "kinds") (h2 : NoAttr cl.K (cl "Survey") "many") (h3 : NoAttr cl.K (cl "Survey") "kept") (h4 : NoAttr cl.K (cl "Survey") "coming") (h5 : NoAttr cl.K (cl "Survey") "held") (F : ∀ x ∈ (["Barred", "Full", "NoMark", "NoKind"] : List String), ExF cl x) : SS cl W [(.bo (.io 1)), .pn, .pn, .pn, .pn, .un, .un, .un] (mdOf [(.bo (.io 1)), .pn, .pn, .pn, .pn] 8 .pu) (t_law_told cl) g_law_told := (ss_seq [(.bo (.io 1)), .pn, .pn, .pn, .pn, .pu, .un, .un] (ss_set rfl se_non (by decide) (by decide)) (ss_seq [(.bo (.io 1)), .pn, .pn, .pn, .pn, .pu, .pu, .un] (ss_set rfl (se_lst rfl sea_nil) (by decide) (by decide)) (ss_seq [(.bo (.io 1)), .pn, .pn, .pn, .pn, .pu, .pu, .un] (ss_tryBad [(.bo (.io 1)), .pn, .pn, .pn, .pn, .pu, .pu, .un] (by rfl) (by decide) (by decide) (by decide) (by rfl) F (fun W => (ss_if (set_B (se_var_pn (by rfl))) (ss_setE (see_meL (cc := "Survey") (mt := "apart") (pm := [(.bo (.io 1)), .pn, .pn]) (rc := .pu) (ks := [.v .lo, .v .lo]) (by decide) (by decide) (by decide) (by decide) (sp_varB (s := (.io 1)) (by rfl)) (sel_v (se_var_pn (by rfl)) (sel_v (se_var_pn (by rfl)) sel_nil))) (by decide)) (ss_setE (see_meL (cc := "Survey") (mt := "row") (pm := [(.bo (.io 1)), .pn, .pn, .pn]) (rc := .pu) (ks := [.v .lo, .v .lo, .v .lo]) (by decide) (by decide) (by decide) (by decide) (sp_varB (s := (.io 1)) (by rfl)) (sel_v (se_var_pn (by rfl)) (sel_v (se_var_pn (by rfl)) (sel_v (se_var_pn (by rfl)) sel_nil)))) (by decide)) (by decide)))) (ss_ret rfl (se_tup rfl (sea_cons (se_var_pu (by rfl)) (sea_cons (se_var_pu (by rfl)) sea_nil))) (by decide) (by decide)))))
abbrev N_law_told : List Str := [("_law_book" : Str), ("_law_oath" : Str), ("_law_a" : Str), ("_law_kind" : Str), ("_law_b" : Str), ("_law_found" : Str), ("_law_bad" : Str), ("e" : Str)]
abbrev P_law_told : List Str := [("_law_book" : Str), ("_law_oath" : Str), ("_law_a" : Str), ("_law_kind" : Str), ("_law_b" : Str)]

noncomputable def g_law_due_r1 : List D → Option Out := (sRet (eOp dAdd (eLst [(eC (.bl true))]) (eLc 2 (eOp dAdd (eVar 1) (eLst [(eC (.str ("Full" : Str)))])) tT (eOp dEq (eVar 2) (eVar 0)))))
noncomputable def g_law_due : List D → Option Out := (sSeq (sSet 1 (eLst [(eC (.str ("NoKind" : Str))), (eC (.str ("NoWay" : Str))), (eC (.str ("NoMark" : Str))), (eC (.str ("NoEntry" : Str))), (eC (.str ("NoHold" : Str))), (eC (.str ("NoChamber" : Str))), (eC (.str ("NoChart" : Str))), (eC (.str ("NoCave" : Str))), (eC (.str ("NoHome" : Str))), (eC (.str ("Barred" : Str)))])) g_law_due_r1)
noncomputable def G_law_due : List D → Option Out := fnOf g_law_due 3 true
noncomputable def t_law_due (cl : Nv) : TS := (tSeq (tAsg (tLst (tCons (tC (.str ("NoKind" : Str))) (tCons (tC (.str ("NoWay" : Str))) (tCons (tC (.str ("NoMark" : Str))) (tCons (tC (.str ("NoEntry" : Str))) (tCons (tC (.str ("NoHold" : Str))) (tCons (tC (.str ("NoChamber" : Str))) (tCons (tC (.str ("NoChart" : Str))) (tCons (tC (.str ("NoCave" : Str))) (tCons (tC (.str ("NoHome" : Str))) (tCons (tC (.str ("Barred" : Str))) tNil))))))))))) (gName 1)) (tRet (tOp (rAddA cl.K) (tLst (tCons (tC (.bl true)) tNil)) (tLc (iList cl.K (tOp (rAddA cl.K) (tVar 1) (tLst (tCons (tC (.str ("Full" : Str))) tNil)))) (gName 2) tYes (tOp (rEqD cl.K) (tVar 2) (tVar 0)) [2]))))
theorem ss_law_due (cl : Nv) (W : WX) (h0 : Cls cl.K (cl "Survey")) (h1 : NoAttr cl.K (cl "Survey") "kinds") (h2 : NoAttr cl.K (cl "Survey") "many") (h3 : NoAttr cl.K (cl "Survey") "kept") (h4 : NoAttr cl.K (cl "Survey") "coming") (h5 : NoAttr cl.K (cl "Survey") "held") : SS cl W [.pn, .un, .un] (mdOf [.pn] 3 .pu) (t_law_due cl) g_law_due := (ss_seq [.pn, .pu, .un] (ss_set rfl (se_lst rfl (sea_cons se_str (sea_cons se_str (sea_cons se_str (sea_cons se_str (sea_cons se_str (sea_cons se_str (sea_cons se_str (sea_cons se_str (sea_cons se_str (sea_cons se_str sea_nil))))))))))) (by decide) (by decide)) (ss_ret rfl (se_op ops_add (se_lst rfl (sea_cons se_bl sea_nil)) (se_lc (s := .fz) rfl (se_op ops_add (se_var_pu (by rfl)) (se_lst rfl (sea_cons se_str sea_nil))) set_yes (se_op ops_eq (se_var_pu (by rfl)) (se_var_pn (by rfl))) rfl)) (by decide) (by decide)))
abbrev N_law_due : List Str := [("_law_want" : Str), ("_law_names" : Str), ("_law_name" : Str)]
abbrev P_law_due : List Str := [("_law_want" : Str)]

noncomputable def g_Survey_hold_r1 : List D → Option Out := (sRet (eCall dLen [(eUn (dFld "Survey" "held") (eVar 0))]))
noncomputable def g_Survey_hold : List D → Option Out := (sSeq (sAppP 0 (eUn (dFld "Survey" "held") (eVar 0)) (pFd "held" (eVar 0) pVar) (eTup [(eUn (dFld "Survey" "many") (eVar 0)), (eUn dListF (eUn (dFld "Survey" "kept") (eVar 0))), (eUn (dFld "Survey" "coming") (eVar 0))])) g_Survey_hold_r1)
noncomputable def G_Survey_hold : List D → Option Out := fnOf g_Survey_hold 1 true
noncomputable def t_Survey_hold (cl : Nv) : TS := (tSeq (tDrop (tBM cl.K "list" rAppend (tFld cl.K (tVar 0) "held") (tCons (tTup (tCons (tFld cl.K (tVar 0) "many") (tCons (tCB (rListA cl.K) (tCons (tFld cl.K (tVar 0) "kept") tNil)) (tCons (tFld cl.K (tVar 0) "coming") tNil)))) tNil))) (tRet (tCB (rLenA cl.K) (tCons (tFld cl.K (tVar 0) "held") tNil))))
theorem ss_Survey_hold (cl : Nv) (W : WX) (h0 : Cls cl.K (cl "Survey")) (h1 : NoAttr cl.K (cl "Survey") "kinds") (h2 : NoAttr cl.K (cl "Survey") "many") (h3 : NoAttr cl.K (cl "Survey") "kept") (h4 : NoAttr cl.K (cl "Survey") "coming") (h5 : NoAttr cl.K (cl "Survey") "held") : SS cl W [(.bo (.io 1))] (mdOf [(.bo (.io 1))] 1 .pu) (t_Survey_hold cl) g_Survey_hold := (ss_seq [(.bo (.io 1))] (ss_appP (sp_fld (cc := "Survey") h0 h5 (show fldT 1 "held" = (.ls .fz) from by decide +kernel) (sp_varB (s := (.io 1)) (by rfl))) rfl (se_tup rfl (sea_cons (SP.pu (sp_fld (cc := "Survey") h0 h2 (show fldT 1 "many" = .fz from by decide +kernel) (sp_varB (s := (.io 1)) (by rfl)))) (sea_cons (SE.toPu rfl (se_listP (sp_fld (cc := "Survey") h0 h3 (show fldT 1 "kept" = (.ls .fz) from by decide +kernel) (sp_varB (s := (.io 1)) (by rfl))))) (sea_cons (SP.pu (sp_fld (cc := "Survey") h0 h4 (show fldT 1 "coming" = .fz from by decide +kernel) (sp_varB (s := (.io 1)) (by rfl)))) sea_nil)))) (by decide) (by decide)) (ss_ret rfl (se_call0 ca_len (sea_cons (SP.an (sp_fld (cc := "Survey") h0 h5 (show fldT 1 "held" = (.ls .fz) from by decide +kernel) (sp_varB (s := (.io 1)) (by rfl)))) sea_nil)) (by decide) (by decide)))
abbrev N_Survey_hold : List Str := [("self" : Str)]
abbrev P_Survey_hold : List Str := [("self" : Str)]

noncomputable def g_Survey_strike_r1 : List D → Option Out := (sRet (eImm (eVar 1)))
noncomputable def g_Survey_strike_r2 : List D → Option Out := (sSeq (sFldE 0 "Survey" "kept" (eMv 2)) g_Survey_strike_r1)
noncomputable def g_Survey_strike_r3 : List D → Option Out := (sSeq (sIf (eT (eOp dEq (eCall dLen [(eVar 2)]) (eCall dLen [(eUn (dFld "Survey" "kept") (eVar 0))]))) (sRaise "NoEntry") sNext) g_Survey_strike_r2)
noncomputable def g_Survey_strike : List D → Option Out := (sSeq (sSet 2 (eLc 3 (eUn (dFld "Survey" "kept") (eVar 0)) (eT (eOp dNe (eOp dIx (eVar 3) (eC (.int 0))) (eVar 1))) (eVar 3))) g_Survey_strike_r3)
noncomputable def G_Survey_strike : List D → Option Out := fnOf g_Survey_strike 4 true
noncomputable def t_Survey_strike (cl : Nv) (W : WX) : TS := (tSeq (tAsg (tLc (iList cl.K (tFld cl.K (tVar 0) "kept")) (gName 3) (tTest (tOp (rNeD cl.K) (tOp (rIx cl.K) (tVar 3) (tC (.int 0))) (tVar 1))) (tVar 3) [3]) (gName 2)) (tSeq (tIfS (tTest (tOp (rEqD cl.K) (tCB (rLenA cl.K) (tCons (tVar 2) tNil)) (tCB (rLenA cl.K) (tCons (tFld cl.K (tVar 0) "kept") tNil)))) (tRaise W (cl "NoEntry")) tNext) (tSeq (sFld cl.K (tVar 0) (tVar 2) "kept") (tRet (tVar 1)))))
theorem ss_Survey_strike (cl : Nv) (W : WX) (h0 : Cls cl.K (cl "Survey")) (h1 : NoAttr cl.K (cl "Survey") "kinds") (h2 : NoAttr cl.K (cl "Survey") "many") (h3 : NoAttr cl.K (cl "Survey") "kept") (h4 : NoAttr cl.K (cl "Survey") "coming") (h5 : NoAttr cl.K (cl "Survey") "held") : SS cl W [(.bo (.io 1)), .pn, .un, .un] (mdOf [(.bo (.io 1)), .pn] 4 .pu) (t_Survey_strike cl W) g_Survey_strike := (ss_seq [(.bo (.io 1)), .pn, (.ow (.ls .fz)), .un] (ss_setO (se_lcP (s := .fz) (sp_fld (cc := "Survey") h0 h3 (show fldT 1 "kept" = (.ls .fz) from by decide +kernel) (sp_varB (s := (.io 1)) (by rfl))) (set_T (se_op ops_ne (se_ix (se_var_pu (by rfl)) se_int) (se_var_pn (by rfl)))) (se_var_pu (by rfl)) rfl) (by decide) (by decide)) (ss_seq [(.bo (.io 1)), .pn, (.ow (.ls .fz)), .un] (ss_if (set_T (se_op ops_eq (se_call0 ca_len (sea_cons (se_var (m := (.ow (.ls .fz))) (by rfl) rfl) sea_nil)) (se_call0 ca_len (sea_cons (SP.an (sp_fld (cc := "Survey") h0 h3 (show fldT 1 "kept" = (.ls .fz) from by decide +kernel) (sp_varB (s := (.io 1)) (by rfl)))) sea_nil)))) (ss_raise (by decide)) (ss_next (by decide)) (by decide)) (ss_seq [(.bo (.io 1)), .pn, .un, .un] (ss_fldE (cc := "Survey") (mo := (.bo (.io 1))) h0 h3 (show fldT 1 "kept" = (.ls .fz) from by decide +kernel) (by rfl) (Or.inr rfl) (see_mv (by rfl)) (by decide)) (ss_ret rfl (se_imm (se_var_pn (by rfl))) (by decide) (by decide)))))
abbrev N_Survey_strike : List Str := [("self" : Str), ("number" : Str), ("left" : Str), ("entry" : Str)]
abbrev P_Survey_strike : List Str := [("self" : Str), ("number" : Str)]

noncomputable def g_Survey_back_r1 : List D → Option Out := (sRet (eImm (eVar 1)))
noncomputable def g_Survey_back_r2 : List D → Option Out := (sSeq (sFldP 0 "Survey" "held" (eVar 0) pVar (eSlF (eUn (dFld "Survey" "held") (eVar 0)) none (some (eVar 1)))) g_Survey_back_r1)
noncomputable def g_Survey_back_r3 : List D → Option Out := (sSeq (sFldP 0 "Survey" "coming" (eVar 0) pVar (eVar 4)) g_Survey_back_r2)
noncomputable def g_Survey_back_r4 : List D → Option Out := (sSeq (sFldP 0 "Survey" "kept" (eVar 0) pVar (eCall dList [(eVar 3)])) g_Survey_back_r3)
noncomputable def g_Survey_back_r5 : List D → Option Out := (sSeq (sFldP 0 "Survey" "many" (eVar 0) pVar (eVar 2)) g_Survey_back_r4)
noncomputable def g_Survey_back_r6 : List D → Option Out := (sSeq (sUnp [2, 3, 4] (eOp dIx (eUn (dFld "Survey" "held") (eVar 0)) (eOp dSub (eVar 1) (eC (.int 1))))) g_Survey_back_r5)
noncomputable def g_Survey_back : List D → Option Out := (sSeq (sIf (eOr (eT (eOp dLt (eVar 1) (eC (.int 1)))) (eT (eOp dGt (eVar 1) (eCall dLen [(eUn (dFld "Survey" "held") (eVar 0))])))) (sRaise "NoHold") sNext) g_Survey_back_r6)
noncomputable def G_Survey_back : List D → Option Out := fnOf g_Survey_back 5 true
noncomputable def t_Survey_back (cl : Nv) (W : WX) : TS := (tSeq (tIfS (tOr (tTest (tOp (rI0 fun i j => .bl (decide (i < j))) (tVar 1) (tC (.int 1)))) (tTest (tOp (rI0 fun i j => .bl (decide (j < i))) (tVar 1) (tCB (rLenA cl.K) (tCons (tFld cl.K (tVar 0) "held") tNil))))) (tRaise W (cl "NoHold")) tNext) (tSeq (tAsg (tOp (rIx cl.K) (tFld cl.K (tVar 0) "held") (tOp (rI0 fun i j => .int (i - j)) (tVar 1) (tC (.int 1)))) (gTup cl.K 3 (gNames [2, 3, 4]))) (tSeq (sFld cl.K (tVar 0) (tVar 2) "many") (tSeq (sFld cl.K (tVar 0) (tCB (rListA cl.K) (tCons (tVar 3) tNil)) "kept") (tSeq (sFld cl.K (tVar 0) (tVar 4) "coming") (tSeq (sFld cl.K (tVar 0) (tSl (rSlL cl.K) (tFld cl.K (tVar 0) "held") tNoPart (tPart (tVar 1))) "held") (tRet (tVar 1))))))))
theorem ss_Survey_back (cl : Nv) (W : WX) (h0 : Cls cl.K (cl "Survey")) (h1 : NoAttr cl.K (cl "Survey") "kinds") (h2 : NoAttr cl.K (cl "Survey") "many") (h3 : NoAttr cl.K (cl "Survey") "kept") (h4 : NoAttr cl.K (cl "Survey") "coming") (h5 : NoAttr cl.K (cl "Survey") "held") : SS cl W [(.bo (.io 1)), .pn, .un, .un, .un] (mdOf [(.bo (.io 1)), .pn] 5 .pu) (t_Survey_back cl W) g_Survey_back := (ss_seq [(.bo (.io 1)), .pn, .un, .un, .un] (ss_if (set_or (set_T (se_op ops_B0 (se_var_pn (by rfl)) se_int)) (set_T (se_op ops_B0 (se_var_pn (by rfl)) (se_call0 ca_len (sea_cons (SP.an (sp_fld (cc := "Survey") h0 h5 (show fldT 1 "held" = (.ls .fz) from by decide +kernel) (sp_varB (s := (.io 1)) (by rfl)))) sea_nil))))) (ss_raise (by decide)) (ss_next (by decide)) (by decide)) (ss_seq [(.bo (.io 1)), .pn, .pu, .pu, .pu] (ss_unp rfl rfl (SP.pu (sp_ix (s := .fz) (sp_fld (cc := "Survey") h0 h5 (show fldT 1 "held" = (.ls .fz) from by decide +kernel) (sp_varB (s := (.io 1)) (by rfl))) (se_op ops_I0 (se_var_pn (by rfl)) se_int))) (by decide) (by decide)) (ss_seq [(.bo (.io 1)), .pn, .pu, .pu, .pu] (ss_fldP (cc := "Survey") h0 h2 (show fldT 1 "many" = .fz from by decide +kernel) (sp_varB (s := (.io 1)) (by rfl)) rfl (se_var_pu (by rfl)) (by decide) (by decide)) (ss_seq [(.bo (.io 1)), .pn, .pu, .pu, .pu] (ss_fldPT (cc := "Survey") h0 h3 (show fldT 1 "kept" = (.ls .fz) from by decide +kernel) (sp_varB (s := (.io 1)) (by rfl)) (se_call0 ca_list (sea_cons (se_var_pu (by rfl)) sea_nil)) (by decide) (by decide)) (ss_seq [(.bo (.io 1)), .pn, .pu, .pu, .pu] (ss_fldP (cc := "Survey") h0 h4 (show fldT 1 "coming" = .fz from by decide +kernel) (sp_varB (s := (.io 1)) (by rfl)) rfl (se_var_pu (by rfl)) (by decide) (by decide)) (ss_seq [(.bo (.io 1)), .pn, .pu, .pu, .pu] (ss_fldPT (cc := "Survey") h0 h5 (show fldT 1 "held" = (.ls .fz) from by decide +kernel) (sp_varB (s := (.io 1)) (by rfl)) (se_slP (sp_fld (cc := "Survey") h0 h5 (show fldT 1 "held" = (.ls .fz) from by decide +kernel) (sp_varB (s := (.io 1)) (by rfl))) seo_none (seo_some (se_var_pn (by rfl)))) (by decide) (by decide)) (ss_ret rfl (se_imm (se_var_pn (by rfl))) (by decide) (by decide))))))))
abbrev N_Survey_back : List Str := [("self" : Str), ("number" : Str), ("many" : Str), ("kept" : Str), ("coming" : Str)]
abbrev P_Survey_back : List Str := [("self" : Str), ("number" : Str)]

noncomputable def g_Survey_twin_r1 : List D → Option Out := (sRet (eVar 1))
noncomputable def g_Survey_twin_r2 : List D → Option Out := (sSeq (sFldP 1 "Survey" "held" (eVar 1) pVar (eUn dListF (eUn (dFld "Survey" "held") (eVar 0)))) g_Survey_twin_r1)
noncomputable def g_Survey_twin_r3 : List D → Option Out := (sSeq (sFldP 1 "Survey" "coming" (eVar 1) pVar (eUn (dFld "Survey" "coming") (eVar 0))) g_Survey_twin_r2)
noncomputable def g_Survey_twin_r4 : List D → Option Out := (sSeq (sFldP 1 "Survey" "kept" (eVar 1) pVar (eUn dListF (eUn (dFld "Survey" "kept") (eVar 0)))) g_Survey_twin_r3)
noncomputable def g_Survey_twin_r5 : List D → Option Out := (sSeq (sFldP 1 "Survey" "many" (eVar 1) pVar (eUn (dFld "Survey" "many") (eVar 0))) g_Survey_twin_r4)
noncomputable def g_Survey_twin : List D → Option Out := (sSeq (sSet 1 (eMake "Survey" G_Survey_init [(eUn (dFld "Survey" "kinds") (eVar 0))])) g_Survey_twin_r5)
noncomputable def G_Survey_twin : List D → Option Out := fnOf g_Survey_twin 2 false
noncomputable def t_Survey_twin (cl : Nv) (W : WX) : TS := (tSeq (tAsg (tMakeS (cl "Survey") (spOf cl (.bo (.io 1) :: [.pn]) .pu G_Survey_init) (WE W) (tCons (tFld cl.K (tVar 0) "kinds") tNil)) (gName 1)) (tSeq (sFld cl.K (tVar 1) (tFld cl.K (tVar 0) "many") "many") (tSeq (sFld cl.K (tVar 1) (tCB (rListA cl.K) (tCons (tFld cl.K (tVar 0) "kept") tNil)) "kept") (tSeq (sFld cl.K (tVar 1) (tFld cl.K (tVar 0) "coming") "coming") (tSeq (sFld cl.K (tVar 1) (tCB (rListA cl.K) (tCons (tFld cl.K (tVar 0) "held") tNil)) "held") (tRet (tVar 1)))))))
theorem ss_Survey_twin (cl : Nv) (W : WX) (h0 : Cls cl.K (cl "Survey")) (h1 : NoAttr cl.K (cl "Survey") "kinds") (h2 : NoAttr cl.K (cl "Survey") "many") (h3 : NoAttr cl.K (cl "Survey") "kept") (h4 : NoAttr cl.K (cl "Survey") "coming") (h5 : NoAttr cl.K (cl "Survey") "held") : SS cl W [(.bo (.io 1)), .un] (mdOf [(.bo (.io 1))] 2 (.fr (.io 1))) (t_Survey_twin cl W) g_Survey_twin := (ss_seq [(.bo (.io 1)), (.ow (.io 1))] (ss_setO (se_make (pm := [.pn]) rfl (sea_cons (SP.pu (sp_fld (cc := "Survey") h0 h1 (show fldT 1 "kinds" = .fz from by decide +kernel) (sp_varB (s := (.io 1)) (by rfl)))) sea_nil)) (by decide) (by decide)) (ss_seq [(.bo (.io 1)), (.ow (.io 1))] (ss_fldP (cc := "Survey") h0 h2 (show fldT 1 "many" = .fz from by decide +kernel) (sp_var (s := (.io 1)) (by rfl)) rfl (SP.pu (sp_fld (cc := "Survey") h0 h2 (show fldT 1 "many" = .fz from by decide +kernel) (sp_varB (s := (.io 1)) (by rfl)))) (by decide) (by decide)) (ss_seq [(.bo (.io 1)), (.ow (.io 1))] (ss_fldPT (cc := "Survey") h0 h3 (show fldT 1 "kept" = (.ls .fz) from by decide +kernel) (sp_var (s := (.io 1)) (by rfl)) (se_listP (sp_fld (cc := "Survey") h0 h3 (show fldT 1 "kept" = (.ls .fz) from by decide +kernel) (sp_varB (s := (.io 1)) (by rfl)))) (by decide) (by decide)) (ss_seq [(.bo (.io 1)), (.ow (.io 1))] (ss_fldP (cc := "Survey") h0 h4 (show fldT 1 "coming" = .fz from by decide +kernel) (sp_var (s := (.io 1)) (by rfl)) rfl (SP.pu (sp_fld (cc := "Survey") h0 h4 (show fldT 1 "coming" = .fz from by decide +kernel) (sp_varB (s := (.io 1)) (by rfl)))) (by decide) (by decide)) (ss_seq [(.bo (.io 1)), (.ow (.io 1))] (ss_fldPT (cc := "Survey") h0 h5 (show fldT 1 "held" = (.ls .fz) from by decide +kernel) (sp_var (s := (.io 1)) (by rfl)) (se_listP (sp_fld (cc := "Survey") h0 h5 (show fldT 1 "held" = (.ls .fz) from by decide +kernel) (sp_varB (s := (.io 1)) (by rfl)))) (by decide) (by decide)) (ss_retO (k := (.io 1)) (by rfl) (by decide)))))))
abbrev N_Survey_twin : List Str := [("self" : Str), ("other" : Str)]
abbrev P_Survey_twin : List Str := [("self" : Str)]

noncomputable def g_law_b1 : List D → Option Out := (sDropE (eMethLN "Survey" "chalk" G_Survey_chalk (eVar 4) [] [some (4, pVar)]))
noncomputable def g_law_b2 : List D → Option Out := (sDropE (eMethLN "Survey" "row" G_Survey_row (eVar 4) [(eC (.int 0)), (eOp dAdd (eC (.int 1)) (eOp dMod (eOp dMul (eVar 5) (eOp dIx (eVar 1) (eC (.int 3)))) (eVar 2))), (eC (.int 0))] [some (4, pVar), none, none, none]))
noncomputable def g_law_r1 : List D → Option Out := (sRetE (eOpE dEq (eCallLN G_law_told [(eVar 4), (eVar 8), (eC (.int 0)), (eC (.int 1)), (eCall dInt [(eVar 8)])] [some (4, pVar), none, none, none, none]) (eTup [(eOp dSub (eOp dAdd (eVar 6) (eC (.int 3))) (eCall dInt [(eVar 7)])), (eLst [])])))
noncomputable def g_law_r2 : List D → Option Out := (sSeq (sIfT (eTE (eOpE dNe (eMethLN "Survey" "strike" G_Survey_strike (eVar 4) [(eVar 10)] [some (4, pVar), none]) (eVar 10))) (sRet (eC (.bl false))) sNext) g_law_r1)
noncomputable def g_law_r3 : List D → Option Out := (sSeq (sFor2 4 12 (eMethLN "Survey" "twin" G_Survey_twin (eVar 4) [] [some (4, pVar)]) (eOrE (eTE (eOpE dNe (eCallLN G_law_told [(eVar 12), (eVar 8), (eC (.int 0)), (eC (.int 1)), (eCall dInt [(eVar 8)])] [some (12, pVar), none, none, none, none]) (eVar 11))) (eTE (eOpE dNe (eCallLN G_law_told [(eVar 12), (eC (.bl true)), (eC (.int 0)), (eC (.int 1)), (eC (.int 1))] [some (12, pVar), none, none, none, none]) (eVar 11)))) (sRet (eC (.bl false)))) g_law_r2)
noncomputable def g_law_r4 : List D → Option Out := (sSeq (sIfT (eOrE (eTE (eOpE dNe (eMethLN "Survey" "hold" G_Survey_hold (eVar 4) [] [some (4, pVar)]) (eC (.int 1)))) (eOrE (eTE (eOpE dNe (eMethLN "Survey" "strike" G_Survey_strike (eVar 4) [(eVar 10)] [some (4, pVar), none]) (eVar 10))) (eTE (eOpE dNe (eMethLN "Survey" "back" G_Survey_back (eVar 4) [(eC (.int 1))] [some (4, pVar), none]) (eC (.int 1)))))) (sRet (eC (.bl false))) sNext) g_law_r3)
noncomputable def g_law_r5 : List D → Option Out := (sSeq (sSet 11 (eTup [(eC .non), (eFnN G_law_due [(eC (.str ("Full" : Str)))])])) g_law_r4)
noncomputable def g_law_r6 : List D → Option Out := (sSeq (sSet 10 (eOp dAdd (eC (.int 2)) (eOp dMod (eOp dIx (eVar 1) (eC (.int 6))) (eVar 6)))) g_law_r5)
noncomputable def g_law_r7 : List D → Option Out := (sSeq (sIfT (eTE (eOpE dNe (eCallLN G_law_told [(eVar 4), (eVar 8), (eC (.int 0)), (eC (.int 1)), (eCall dInt [(eVar 8)])] [some (4, pVar), none, none, none, none]) (eVar 9))) (sRet (eC (.bl false))) sNext) g_law_r6)
noncomputable def g_law_r8 : List D → Option Out := (sSeq (sIf (eT (eVar 7)) (sSet 9 (eTup [(eC .non), (eFnN G_law_due [(eC (.str ("Full" : Str)))])])) sNext) g_law_r7)
noncomputable def g_law_r9 : List D → Option Out := (sSeq (sSet 9 (eTup [(eOp dAdd (eVar 6) (eC (.int 2))), (eLst [])])) g_law_r8)
noncomputable def g_law_r10 : List D → Option Out := (sSeq (sIfT (eOrE (eTE (eOpE dNe (eCallLN G_law_told [(eVar 4), (eC (.bl true)), (eC (.int 1)), (eC (.int 1)), (eC (.int 1))] [some (4, pVar), none, none, none, none]) (eVar 9))) (eTE (eOpE dNe (eCallLN G_law_told [(eVar 4), (eC (.bl false)), (eC (.int 0)), (eC (.int 1)), (eC (.int 1))] [some (4, pVar), none, none, none, none]) (eVar 9)))) (sRet (eC (.bl false))) sNext) g_law_r9)
noncomputable def g_law_r11 : List D → Option Out := (sSeq (sIf (eT (eVar 7)) (sSet 9 (eTup [(eC .non), (eFnN G_law_due [(eC (.str ("Full" : Str)))])])) sNext) g_law_r10)
noncomputable def g_law_r12 : List D → Option Out := (sSeq (sSet 9 (eTup [(eC .non), (eFnN G_law_due [(eC (.str ("Barred" : Str)))])])) g_law_r11)
noncomputable def g_law_r13 : List D → Option Out := (sSeq (sIfT (eTE (eOpE dNe (eCallLN G_law_told [(eVar 4), (eC (.bl false)), (eC (.int 0)), (eOp dAdd (eVar 2) (eC (.int 1))), (eC (.int 0))] [some (4, pVar), none, none, none, none]) (eTup [(eC .non), (eFnN G_law_due [(eC (.str ("NoKind" : Str)))])]))) (sRet (eC (.bl false))) sNext) g_law_r12)
noncomputable def g_law_r14 : List D → Option Out := (sSeq (sIfT (eTE (eOpE dNe (eCallLN G_law_told [(eVar 4), (eVar 8), (eVar 3), (eOp dAdd (eC (.int 1)) (eOp dMod (eOp dIx (eVar 1) (eC (.int 5))) (eVar 2))), (eC (.int 0))] [some (4, pVar), none, none, none, none]) (eTup [(eC .non), (eFnN G_law_due [(eC (.str ("NoMark" : Str)))])]))) (sRet (eC (.bl false))) sNext) g_law_r13)
noncomputable def g_law_r15 : List D → Option Out := (sSeq (sSet 8 (eOp dEq (eOp dMod (eOp dIx (eVar 1) (eC (.int 4))) (eC (.int 2))) (eC (.int 1)))) g_law_r14)
noncomputable def g_law_r16 : List D → Option Out := (sSeq (sSet 7 (eOp dEq (eVar 6) (eC (.int 39)))) g_law_r15)
noncomputable def g_law_r17 : List D → Option Out := (sSeq (sRng 5 [(eVar 6)] g_law_b2) g_law_r16)
noncomputable def g_law_r18 : List D → Option Out := (sSeq (sSet 6 (eOp dAdd (eC (.int 38)) (eOp dMod (eOp dIx (eVar 1) (eC (.int 2))) (eC (.int 2))))) g_law_r17)
noncomputable def g_law_r19 : List D → Option Out := (sSeq (sDropE (eMethLN "Survey" "apart" G_Survey_apart (eVar 4) [(eC (.int 0)), (eC (.int 1))] [some (4, pVar), none, none])) g_law_r18)
noncomputable def g_law_r20 : List D → Option Out := (sSeq (sRng 5 [(eVar 3)] g_law_b1) g_law_r19)
noncomputable def g_law_r21 : List D → Option Out := (sSeq (sSet 4 (eMakeN "Survey" G_Survey_init [(eVar 2)])) g_law_r20)
noncomputable def g_law_r22 : List D → Option Out := (sSeq (sSet 3 (eOp dAdd (eC (.int 2)) (eOp dMod (eOp dIx (eVar 1) (eC (.int 1))) (eC (.int 23))))) g_law_r21)
noncomputable def g_law_r23 : List D → Option Out := (sSeq (sSet 2 (eOp dAdd (eC (.int 1)) (eOp dMod (eOp dIx (eVar 1) (eC (.int 0))) (eC (.int 5))))) g_law_r22)
noncomputable def g_law : List D → Option Out := (sSeq (sSet 1 (fun env => bd (lift env[0]?) fun s => bd ((eC (.int 20)) env) fun y => ofOutN (G_law_numbers [s, y]))) g_law_r23)
noncomputable def G_law : List D → Option Out := fnOf g_law 13 true
noncomputable def t_law (cl : Nv) : TS := (tSeq (tAsg (tCall (spOf cl [.sc, .pn] (.fr (.ls .fz)) G_law_numbers) [] E0 (tCons (tVar 0) (tCons (tC (.int 20)) tNil))) (gName 1)) (tSeq (tAsg (tOp (rAddA cl.K) (tC (.int 1)) (tOp (rI (fun _ j => 0 < j) fun i j => .int (i % j)) (tOp (rIx cl.K) (tVar 1) (tC (.int 0))) (tC (.int 5)))) (gName 2)) (tSeq (tAsg (tOp (rAddA cl.K) (tC (.int 2)) (tOp (rI (fun _ j => 0 < j) fun i j => .int (i % j)) (tOp (rIx cl.K) (tVar 1) (tC (.int 1))) (tC (.int 23)))) (gName 3)) (tSeq (tAsg (tMake (cl "Survey") (spOf cl (.bo (.io 1) :: [.pn]) .pu G_Survey_init) [] E0 (tCons (tVar 2) tNil)) (gName 4)) (tSeq (tFor (iRng1 (tCons (tVar 3) tNil)) (gName 5) (tDrop (tMeth (cl "Survey") "chalk" (spOf cl [(.bo (.io 1))] .pu G_Survey_chalk) [] E0 (tVar 4) tNil))) (tSeq (tDrop (tMeth (cl "Survey") "apart" (spOf cl [(.bo (.io 1)), .pn, .pn] .pu G_Survey_apart) [] E0 (tVar 4) (tCons (tC (.int 0)) (tCons (tC (.int 1)) tNil)))) (tSeq (tAsg (tOp (rAddA cl.K) (tC (.int 38)) (tOp (rI (fun _ j => 0 < j) fun i j => .int (i % j)) (tOp (rIx cl.K) (tVar 1) (tC (.int 2))) (tC (.int 2)))) (gName 6)) (tSeq (tFor (iRng1 (tCons (tVar 6) tNil)) (gName 5) (tDrop (tMeth (cl "Survey") "row" (spOf cl [(.bo (.io 1)), .pn, .pn, .pn] .pu G_Survey_row) [] E0 (tVar 4) (tCons (tC (.int 0)) (tCons (tOp (rAddA cl.K) (tC (.int 1)) (tOp (rI (fun _ j => 0 < j) fun i j => .int (i % j)) (tOp rMulA (tVar 5) (tOp (rIx cl.K) (tVar 1) (tC (.int 3)))) (tVar 2))) (tCons (tC (.int 0)) tNil)))))) (tSeq (tAsg (tOp (rEqD cl.K) (tVar 6) (tC (.int 39))) (gName 7)) (tSeq (tAsg (tOp (rEqD cl.K) (tOp (rI (fun _ j => 0 < j) fun i j => .int (i % j)) (tOp (rIx cl.K) (tVar 1) (tC (.int 4))) (tC (.int 2))) (tC (.int 1))) (gName 8)) (tSeq (tIfS (tTest (tOp (rNeD cl.K) (tCall (spOf cl [(.bo (.io 1)), .pn, .pn, .pn, .pn] .pu G_law_told) [] E0 (tCons (tVar 4) (tCons (tVar 8) (tCons (tVar 3) (tCons (tOp (rAddA cl.K) (tC (.int 1)) (tOp (rI (fun _ j => 0 < j) fun i j => .int (i % j)) (tOp (rIx cl.K) (tVar 1) (tC (.int 5))) (tVar 2))) (tCons (tC (.int 0)) tNil)))))) (tTup (tCons (tC .non) (tCons (tCall (spOf cl [.pn] .pu G_law_due) [] E0 (tCons (tC (.str ("NoMark" : Str))) tNil)) tNil))))) (tRet (tC (.bl false))) tNext) (tSeq (tIfS (tTest (tOp (rNeD cl.K) (tCall (spOf cl [(.bo (.io 1)), .pn, .pn, .pn, .pn] .pu G_law_told) [] E0 (tCons (tVar 4) (tCons (tC (.bl false)) (tCons (tC (.int 0)) (tCons (tOp (rAddA cl.K) (tVar 2) (tC (.int 1))) (tCons (tC (.int 0)) tNil)))))) (tTup (tCons (tC .non) (tCons (tCall (spOf cl [.pn] .pu G_law_due) [] E0 (tCons (tC (.str ("NoKind" : Str))) tNil)) tNil))))) (tRet (tC (.bl false))) tNext) (tSeq (tAsg (tTup (tCons (tC .non) (tCons (tCall (spOf cl [.pn] .pu G_law_due) [] E0 (tCons (tC (.str ("Barred" : Str))) tNil)) tNil))) (gName 9)) (tSeq (tIfS (tB (tVar 7)) (tAsg (tTup (tCons (tC .non) (tCons (tCall (spOf cl [.pn] .pu G_law_due) [] E0 (tCons (tC (.str ("Full" : Str))) tNil)) tNil))) (gName 9)) tNext) (tSeq (tIfS (tOr (tTest (tOp (rNeD cl.K) (tCall (spOf cl [(.bo (.io 1)), .pn, .pn, .pn, .pn] .pu G_law_told) [] E0 (tCons (tVar 4) (tCons (tC (.bl true)) (tCons (tC (.int 1)) (tCons (tC (.int 1)) (tCons (tC (.int 1)) tNil)))))) (tVar 9))) (tTest (tOp (rNeD cl.K) (tCall (spOf cl [(.bo (.io 1)), .pn, .pn, .pn, .pn] .pu G_law_told) [] E0 (tCons (tVar 4) (tCons (tC (.bl false)) (tCons (tC (.int 0)) (tCons (tC (.int 1)) (tCons (tC (.int 1)) tNil)))))) (tVar 9)))) (tRet (tC (.bl false))) tNext) (tSeq (tAsg (tTup (tCons (tOp (rAddA cl.K) (tVar 6) (tC (.int 2))) (tCons (tLst tNil) tNil))) (gName 9)) (tSeq (tIfS (tB (tVar 7)) (tAsg (tTup (tCons (tC .non) (tCons (tCall (spOf cl [.pn] .pu G_law_due) [] E0 (tCons (tC (.str ("Full" : Str))) tNil)) tNil))) (gName 9)) tNext) (tSeq (tIfS (tTest (tOp (rNeD cl.K) (tCall (spOf cl [(.bo (.io 1)), .pn, .pn, .pn, .pn] .pu G_law_told) [] E0 (tCons (tVar 4) (tCons (tVar 8) (tCons (tC (.int 0)) (tCons (tC (.int 1)) (tCons (tCB rIntA (tCons (tVar 8) tNil)) tNil)))))) (tVar 9))) (tRet (tC (.bl false))) tNext) (tSeq (tAsg (tOp (rAddA cl.K) (tC (.int 2)) (tOp (rI (fun _ j => 0 < j) fun i j => .int (i % j)) (tOp (rIx cl.K) (tVar 1) (tC (.int 6))) (tVar 6))) (gName 10)) (tSeq (tAsg (tTup (tCons (tC .non) (tCons (tCall (spOf cl [.pn] .pu G_law_due) [] E0 (tCons (tC (.str ("Full" : Str))) tNil)) tNil))) (gName 11)) (tSeq (tIfS (tOr (tTest (tOp (rNeD cl.K) (tMeth (cl "Survey") "hold" (spOf cl [(.bo (.io 1))] .pu G_Survey_hold) [] E0 (tVar 4) tNil) (tC (.int 1)))) (tOr (tTest (tOp (rNeD cl.K) (tMeth (cl "Survey") "strike" (spOf cl [(.bo (.io 1)), .pn] .pu G_Survey_strike) [] E0 (tVar 4) (tCons (tVar 10) tNil)) (tVar 10))) (tTest (tOp (rNeD cl.K) (tMeth (cl "Survey") "back" (spOf cl [(.bo (.io 1)), .pn] .pu G_Survey_back) [] E0 (tVar 4) (tCons (tC (.int 1)) tNil)) (tC (.int 1)))))) (tRet (tC (.bl false))) tNext) (tSeq (tFor (iList cl.K (tLst (tCons (tVar 4) (tCons (tMeth (cl "Survey") "twin" (spOf cl [(.bo (.io 1))] (.fr (.io 1)) G_Survey_twin) [] E0 (tVar 4) tNil) tNil)))) (gName 12) (tIfS (tOr (tTest (tOp (rNeD cl.K) (tCall (spOf cl [(.bo (.io 1)), .pn, .pn, .pn, .pn] .pu G_law_told) [] E0 (tCons (tVar 12) (tCons (tVar 8) (tCons (tC (.int 0)) (tCons (tC (.int 1)) (tCons (tCB rIntA (tCons (tVar 8) tNil)) tNil)))))) (tVar 11))) (tTest (tOp (rNeD cl.K) (tCall (spOf cl [(.bo (.io 1)), .pn, .pn, .pn, .pn] .pu G_law_told) [] E0 (tCons (tVar 12) (tCons (tC (.bl true)) (tCons (tC (.int 0)) (tCons (tC (.int 1)) (tCons (tC (.int 1)) tNil)))))) (tVar 11)))) (tRet (tC (.bl false))) tNext)) (tSeq (tIfS (tTest (tOp (rNeD cl.K) (tMeth (cl "Survey") "strike" (spOf cl [(.bo (.io 1)), .pn] .pu G_Survey_strike) [] E0 (tVar 4) (tCons (tVar 10) tNil)) (tVar 10))) (tRet (tC (.bl false))) tNext) (tRet (tOp (rEqD cl.K) (tCall (spOf cl [(.bo (.io 1)), .pn, .pn, .pn, .pn] .pu G_law_told) [] E0 (tCons (tVar 4) (tCons (tVar 8) (tCons (tC (.int 0)) (tCons (tC (.int 1)) (tCons (tCB rIntA (tCons (tVar 8) tNil)) tNil)))))) (tTup (tCons (tOp (rI0 fun i j => .int (i - j)) (tOp (rAddA cl.K) (tVar 6) (tC (.int 3))) (tCB rIntA (tCons (tVar 7) tNil))) (tCons (tLst tNil) tNil))))))))))))))))))))))))))))
theorem ss_law (cl : Nv) (W : WX) (h0 : Cls cl.K (cl "Survey")) (h1 : NoAttr cl.K (cl "Survey") "kinds") (h2 : NoAttr cl.K (cl "Survey") "many") (h3 : NoAttr cl.K (cl "Survey") "kept") (h4 : NoAttr cl.K (cl "Survey") "coming") (h5 : NoAttr cl.K (cl "Survey") "held") : SS cl W [.sc, .un, .un, .un, .un, .un, .un, .un, .un, .un, .un, .un, .un] (mdOf [.sc] 13 .pu) (t_law cl) g_law := (ss_seq [.sc, .pu, .un, .un, .un, .un, .un, .un, .un, .un, .un, .un, .un] (ss_set rfl (se_fnSc (rc := (.fr (.ls .fz))) (by rfl) se_int) (by decide) (by decide)) (ss_seq [.sc, .pu, .pu, .un, .un, .un, .un, .un, .un, .un, .un, .un, .un] (ss_set rfl (se_op ops_add se_int (se_op ops_Ic (se_ix (se_var_pu (by rfl)) se_int) se_int)) (by decide) (by decide)) (ss_seq [.sc, .pu, .pu, .pu, .un, .un, .un, .un, .un, .un, .un, .un, .un] (ss_set rfl (se_op ops_add se_int (se_op ops_Ic (se_ix (se_var_pu (by rfl)) se_int) se_int)) (by decide) (by decide)) (ss_seq [.sc, .pu, .pu, .pu, (.ow (.io 1)), .un, .un, .un, .un, .un, .un, .un, .un] (ss_setO (se_makeN (pm := [.pn]) rfl (sea_cons (se_var_pu (by rfl)) sea_nil)) (by decide) (by decide)) (ss_seq [.sc, .pu, .pu, .pu, (.ow (.io 1)), .un, .un, .un, .un, .un, .un, .un, .un] (ss_rng1 [.sc, .pu, .pu, .pu, (.ow (.io 1)), .un, .un, .un, .un, .un, .un, .un, .un] (sea_cons (se_var_pu (by rfl)) sea_nil) (by decide) (by decide) (by decide) (ss_dropE (see_meLN (cc := "Survey") (mt := "chalk") (pm := [(.bo (.io 1))]) (rc := .pu) (ks := []) (by decide) (by decide) (by decide) (sp_var (s := (.io 1)) (by rfl)) sel_nil) (by decide))) (ss_seq [.sc, .pu, .pu, .pu, (.ow (.io 1)), .un, .un, .un, .un, .un, .un, .un, .un] (ss_dropE (see_meLN (cc := "Survey") (mt := "apart") (pm := [(.bo (.io 1)), .pn, .pn]) (rc := .pu) (ks := [.v .pu, .v .pu]) (by decide) (by decide) (by decide) (sp_var (s := (.io 1)) (by rfl)) (sel_v se_int (sel_v se_int sel_nil))) (by decide)) (ss_seq [.sc, .pu, .pu, .pu, (.ow (.io 1)), .un, .pu, .un, .un, .un, .un, .un, .un] (ss_set rfl (se_op ops_add se_int (se_op ops_Ic (se_ix (se_var_pu (by rfl)) se_int) se_int)) (by decide) (by decide)) (ss_seq [.sc, .pu, .pu, .pu, (.ow (.io 1)), .un, .pu, .un, .un, .un, .un, .un, .un] (ss_rng1 [.sc, .pu, .pu, .pu, (.ow (.io 1)), .un, .pu, .un, .un, .un, .un, .un, .un] (sea_cons (se_var_pu (by rfl)) sea_nil) (by decide) (by decide) (by decide) (ss_dropE (see_meLN (cc := "Survey") (mt := "row") (pm := [(.bo (.io 1)), .pn, .pn, .pn]) (rc := .pu) (ks := [.v .pu, .v .pu, .v .pu]) (by decide) (by decide) (by decide) (sp_var (s := (.io 1)) (by rfl)) (sel_v se_int (sel_v (se_op ops_add se_int (se_op ops_Ic (se_op ops_mul (se_var_pu (by rfl)) (se_ix (se_var_pu (by rfl)) se_int)) (se_var_pu (by rfl)))) (sel_v se_int sel_nil)))) (by decide))) (ss_seq [.sc, .pu, .pu, .pu, (.ow (.io 1)), .un, .pu, .pu, .un, .un, .un, .un, .un] (ss_set rfl (se_op ops_eq (se_var_pu (by rfl)) se_int) (by decide) (by decide)) (ss_seq [.sc, .pu, .pu, .pu, (.ow (.io 1)), .un, .pu, .pu, .pu, .un, .un, .un, .un] (ss_set rfl (se_op ops_eq (se_op ops_Ic (se_ix (se_var_pu (by rfl)) se_int) se_int) se_int) (by decide) (by decide)) (ss_seq [.sc, .pu, .pu, .pu, (.ow (.io 1)), .un, .pu, .pu, .pu, .un, .un, .un, .un] (ss_ifT (ste_T (see_op ops_ne (see_fnLN (pm := [(.bo (.io 1)), .pn, .pn, .pn, .pn]) (rc := .pu) (ks := [.l 4 (.io 1) pVar, .v .pu, .v .pu, .v .pu, .v .pu]) (by decide) (by decide) (by decide) (sel_l (sp_var (s := (.io 1)) (by rfl)) (sel_v (se_var_pu (by rfl)) (sel_v (se_var_pu (by rfl)) (sel_v (se_op ops_add se_int (se_op ops_Ic (se_ix (se_var_pu (by rfl)) se_int) (se_var_pu (by rfl)))) (sel_v se_int sel_nil)))))) (se_tup rfl (sea_cons se_non (sea_cons (se_fnN (pm := [.pn]) (rc := .pu) rfl (sea_cons se_str sea_nil)) sea_nil))) (by decide))) (ss_ret rfl se_bl (by decide) (by decide)) (ss_next (by decide))) (ss_seq [.sc, .pu, .pu, .pu, (.ow (.io 1)), .un, .pu, .pu, .pu, .un, .un, .un, .un] (ss_ifT (ste_T (see_op ops_ne (see_fnLN (pm := [(.bo (.io 1)), .pn, .pn, .pn, .pn]) (rc := .pu) (ks := [.l 4 (.io 1) pVar, .v .pu, .v .pu, .v .pu, .v .pu]) (by decide) (by decide) (by decide) (sel_l (sp_var (s := (.io 1)) (by rfl)) (sel_v se_bl (sel_v se_int (sel_v (se_op ops_add (se_var_pu (by rfl)) se_int) (sel_v se_int sel_nil)))))) (se_tup rfl (sea_cons se_non (sea_cons (se_fnN (pm := [.pn]) (rc := .pu) rfl (sea_cons se_str sea_nil)) sea_nil))) (by decide))) (ss_ret rfl se_bl (by decide) (by decide)) (ss_next (by decide))) (ss_seq [.sc, .pu, .pu, .pu, (.ow (.io 1)), .un, .pu, .pu, .pu, .pu, .un, .un, .un] (ss_set rfl (se_tup rfl (sea_cons se_non (sea_cons (se_fnN (pm := [.pn]) (rc := .pu) rfl (sea_cons se_str sea_nil)) sea_nil))) (by decide) (by decide)) (ss_seq [.sc, .pu, .pu, .pu, (.ow (.io 1)), .un, .pu, .pu, .pu, .pu, .un, .un, .un] (ss_if (set_B (se_var_pu (by rfl))) (ss_set rfl (se_tup rfl (sea_cons se_non (sea_cons (se_fnN (pm := [.pn]) (rc := .pu) rfl (sea_cons se_str sea_nil)) sea_nil))) (by decide) (by decide)) (ss_next (by decide)) (by decide)) (ss_seq [.sc, .pu, .pu, .pu, (.ow (.io 1)), .un, .pu, .pu, .pu, .pu, .un, .un, .un] (ss_ifT (ste_or (ste_T (see_op ops_ne (see_fnLN (pm := [(.bo (.io 1)), .pn, .pn, .pn, .pn]) (rc := .pu) (ks := [.l 4 (.io 1) pVar, .v .pu, .v .pu, .v .pu, .v .pu]) (by decide) (by decide) (by decide) (sel_l (sp_var (s := (.io 1)) (by rfl)) (sel_v se_bl (sel_v se_int (sel_v se_int (sel_v se_int sel_nil)))))) (se_var_pu (by rfl)) (by decide))) (ste_T (see_op ops_ne (see_fnLN (pm := [(.bo (.io 1)), .pn, .pn, .pn, .pn]) (rc := .pu) (ks := [.l 4 (.io 1) pVar, .v .pu, .v .pu, .v .pu, .v .pu]) (by decide) (by decide) (by decide) (sel_l (sp_var (s := (.io 1)) (by rfl)) (sel_v se_bl (sel_v se_int (sel_v se_int (sel_v se_int sel_nil)))))) (se_var_pu (by rfl)) (by decide)))) (ss_ret rfl se_bl (by decide) (by decide)) (ss_next (by decide))) (ss_seq [.sc, .pu, .pu, .pu, (.ow (.io 1)), .un, .pu, .pu, .pu, .pu, .un, .un, .un] (ss_set rfl (se_tup rfl (sea_cons (se_op ops_add (se_var_pu (by rfl)) se_int) (sea_cons (SE.toPu rfl (se_lst rfl sea_nil)) sea_nil))) (by decide) (by decide)) (ss_seq [.sc, .pu, .pu, .pu, (.ow (.io 1)), .un, .pu, .pu, .pu, .pu, .un, .un, .un] (ss_if (set_B (se_var_pu (by rfl))) (ss_set rfl (se_tup rfl (sea_cons se_non (sea_cons (se_fnN (pm := [.pn]) (rc := .pu) rfl (sea_cons se_str sea_nil)) sea_nil))) (by decide) (by decide)) (ss_next (by decide)) (by decide)) (ss_seq [.sc, .pu, .pu, .pu, (.ow (.io 1)), .un, .pu, .pu, .pu, .pu, .un, .un, .un] (ss_ifT (ste_T (see_op ops_ne (see_fnLN (pm := [(.bo (.io 1)), .pn, .pn, .pn, .pn]) (rc := .pu) (ks := [.l 4 (.io 1) pVar, .v .pu, .v .pu, .v .pu, .v .pu]) (by decide) (by decide) (by decide) (sel_l (sp_var (s := (.io 1)) (by rfl)) (sel_v (se_var_pu (by rfl)) (sel_v se_int (sel_v se_int (sel_v (se_call0 ca_int (sea_cons (se_var_pu (by rfl)) sea_nil)) sel_nil)))))) (se_var_pu (by rfl)) (by decide))) (ss_ret rfl se_bl (by decide) (by decide)) (ss_next (by decide))) (ss_seq [.sc, .pu, .pu, .pu, (.ow (.io 1)), .un, .pu, .pu, .pu, .pu, .pu, .un, .un] (ss_set rfl (se_op ops_add se_int (se_op ops_Ic (se_ix (se_var_pu (by rfl)) se_int) (se_var_pu (by rfl)))) (by decide) (by decide)) (ss_seq [.sc, .pu, .pu, .pu, (.ow (.io 1)), .un, .pu, .pu, .pu, .pu, .pu, .pu, .un] (ss_set rfl (se_tup rfl (sea_cons se_non (sea_cons (se_fnN (pm := [.pn]) (rc := .pu) rfl (sea_cons se_str sea_nil)) sea_nil))) (by decide) (by decide)) (ss_seq [.sc, .pu, .pu, .pu, (.ow (.io 1)), .un, .pu, .pu, .pu, .pu, .pu, .pu, .un] (ss_ifT (ste_or (ste_T (see_op ops_ne (see_meLN (cc := "Survey") (mt := "hold") (pm := [(.bo (.io 1))]) (rc := .pu) (ks := []) (by decide) (by decide) (by decide) (sp_var (s := (.io 1)) (by rfl)) sel_nil) se_int (by decide))) (ste_or (ste_T (see_op ops_ne (see_meLN (cc := "Survey") (mt := "strike") (pm := [(.bo (.io 1)), .pn]) (rc := .pu) (ks := [.v .pu]) (by decide) (by decide) (by decide) (sp_var (s := (.io 1)) (by rfl)) (sel_v (se_var_pu (by rfl)) sel_nil)) (se_var_pu (by rfl)) (by decide))) (ste_T (see_op ops_ne (see_meLN (cc := "Survey") (mt := "back") (pm := [(.bo (.io 1)), .pn]) (rc := .pu) (ks := [.v .pu]) (by decide) (by decide) (by decide) (sp_var (s := (.io 1)) (by rfl)) (sel_v se_int sel_nil)) se_int (by decide))))) (ss_ret rfl se_bl (by decide) (by decide)) (ss_next (by decide))) (ss_seq [.sc, .pu, .pu, .pu, (.ow (.io 1)), .un, .pu, .pu, .pu, .pu, .pu, .pu, .un] (ss_for2 (i := 4) (j := 12) (s := (.io 1)) (by decide) (by rfl) (by decide) (see_meLN (cc := "Survey") (mt := "twin") (pm := [(.bo (.io 1))]) (rc := (.fr (.io 1))) (ks := []) (by decide) (by decide) (by decide) (sp_var (s := (.io 1)) (by rfl)) sel_nil) (fun σ x => by funext H Q; simp only [tOr, tAnd, tNot, tTest, tB, tOp, tUn, tCall, tCB, tCons, tNil, tVar, tC, tTup, tLst, tFld, tMeth, List.getElem?_set_ne (show 4 ≠ 8 from by decide), List.getElem?_set_ne (show 4 ≠ 11 from by decide), List.getElem?_set_ne (show 4 ≠ 12 from by decide)]) (ste_or (ste_T (see_op ops_ne (see_fnLN (pm := [(.bo (.io 1)), .pn, .pn, .pn, .pn]) (rc := .pu) (ks := [.l 12 (.io 1) pVar, .v .pu, .v .pu, .v .pu, .v .pu]) (by decide) (by decide) (by decide) (sel_l (sp_var (s := (.io 1)) (by rfl)) (sel_v (se_var_pu (by rfl)) (sel_v se_int (sel_v se_int (sel_v (se_call0 ca_int (sea_cons (se_var_pu (by rfl)) sea_nil)) sel_nil)))))) (se_var_pu (by rfl)) (by decide))) (ste_T (see_op ops_ne (see_fnLN (pm := [(.bo (.io 1)), .pn, .pn, .pn, .pn]) (rc := .pu) (ks := [.l 12 (.io 1) pVar, .v .pu, .v .pu, .v .pu, .v .pu]) (by decide) (by decide) (by decide) (sel_l (sp_var (s := (.io 1)) (by rfl)) (sel_v se_bl (sel_v se_int (sel_v se_int (sel_v se_int sel_nil)))))) (se_var_pu (by rfl)) (by decide)))) (ss_ret rfl se_bl (by decide) (by decide)) (by decide) (by decide)) (ss_seq [.sc, .pu, .pu, .pu, (.ow (.io 1)), .un, .pu, .pu, .pu, .pu, .pu, .pu, .un] (ss_ifT (ste_T (see_op ops_ne (see_meLN (cc := "Survey") (mt := "strike") (pm := [(.bo (.io 1)), .pn]) (rc := .pu) (ks := [.v .pu]) (by decide) (by decide) (by decide) (sp_var (s := (.io 1)) (by rfl)) (sel_v (se_var_pu (by rfl)) sel_nil)) (se_var_pu (by rfl)) (by decide))) (ss_ret rfl se_bl (by decide) (by decide)) (ss_next (by decide))) (ss_retE (see_op ops_eq (see_fnLN (pm := [(.bo (.io 1)), .pn, .pn, .pn, .pn]) (rc := .pu) (ks := [.l 4 (.io 1) pVar, .v .pu, .v .pu, .v .pu, .v .pu]) (by decide) (by decide) (by decide) (sel_l (sp_var (s := (.io 1)) (by rfl)) (sel_v (se_var_pu (by rfl)) (sel_v se_int (sel_v se_int (sel_v (se_call0 ca_int (sea_cons (se_var_pu (by rfl)) sea_nil)) sel_nil)))))) (se_tup rfl (sea_cons (se_op ops_I0 (se_op ops_add (se_var_pu (by rfl)) se_int) (se_call0 ca_int (sea_cons (se_var_pu (by rfl)) sea_nil))) (sea_cons (SE.toPu rfl (se_lst rfl sea_nil)) sea_nil))) (by decide)) (by decide)))))))))))))))))))))))))
abbrev N_law : List Str := [("_law_script" : Str), ("_law_numbers_here" : Str), ("_law_kinds" : Str), ("_law_marks" : Str), ("_law_book" : Str), ("_law_k" : Str), ("_law_many" : Str), ("_law_brimming" : Str), ("_law_oath" : Str), ("_law_due_here" : Str), ("_law_struck" : Str), ("_law_full" : Str), ("_law_other" : Str)]
abbrev P_law : List Str := [("_law_script" : Str)]

end Lw

namespace Lw
open PySem L2 Mv
noncomputable def T_law_numbers_b2 (s12 : ((List Int) × Int)) (k : Int) : Option ((List Int) × Int) :=
  (if (decide ((0 : Int) < s12.2)) = true then
    (modT s12.2 (1000 : Int)).bind fun x16 =>
    (appT s12.1 x16).bind fun x17 =>
    (divT s12.2 (1000 : Int)).bind fun x18 =>
    some (x17, x18)
    else
    some (s12.1, s12.2)).bind fun s14 : ((List Int) × Int) =>
  some (s14.1, s14.2)
noncomputable def T_law_numbers_b1 (s1 : ((List Int) × Int)) (cell : Int) : Option ((List Int) × Int) :=
  (mulT s1.2 (48271 : Int)).bind fun x3 =>
  (modT cell (1000003 : Int)).bind fun x4 =>
  (modT ((x3 + x4) + (11 : Int)) (2147483647 : Int)).bind fun x5 =>
  (some (cell - (1000000000000000000 : Int))).bind fun x6 =>
  (if (decide (x6 < (0 : Int))) = true then
    (modT cell (1000 : Int)).bind fun x9 =>
    (appT s1.1 x9).bind fun x10 =>
    some x10
    else
    some s1.1).bind fun s7 : (List Int) =>
  (rg1T (60 : Int)).bind fun x11 =>
  (forO T_law_numbers_b2 x11 (s7, x6)).bind fun s12 : ((List Int) × Int) =>
  some (s12.1, x5)
noncomputable def T_law_numbers_t3 (many : Int) (s19 : ((List Int) × Int)) : Option Bool :=
  (some (decide ((s19.1.length : Int) < many)))
noncomputable def T_law_numbers_b3 (many : Int) (s19 : ((List Int) × Int)) : Option ((List Int) × Int) :=
  (mulT s19.2 s19.2).bind fun x22 =>
  (mulT (69621 : Int) s19.2).bind fun x23 =>
  (mulT (7 : Int) (s19.1.length : Int)).bind fun x24 =>
  (modT (((x22 + x23) + x24) + (5 : Int)) (2147483629 : Int)).bind fun x25 =>
  (divT x25 (1009 : Int)).bind fun x26 =>
  (modT x26 (1000 : Int)).bind fun x27 =>
  (appT s19.1 x27).bind fun x28 =>
  some (x28, x25)
noncomputable def T_law_numbers (script : (List Int)) (many : Int) : Option (List Int) :=
  (forO T_law_numbers_b1 (cutL script none (some (63 : Int))) (([] : (List Int)), (17 : Int))).bind fun s1 : ((List Int) × Int) =>
  (whO (T_law_numbers_t3 many) (T_law_numbers_b3 many) (s1.1, s1.2)).bind fun s19 : ((List Int) × Int) =>
  some (cutL s19.1 none (some many))
theorem ts_law_numbers (script : (List Int)) (many : Int) : Sm (RoV (eL D.int) (fun _ _ => True)) (T_law_numbers script many) (g_law_numbers [((eL D.int) script), (D.int many), .non, .non, .non, .non, .non]) := by
  unfold T_law_numbers
  exact (sn_set ((eL D.int) ([] : (List Int))) [((eL D.int) script), (D.int many), ((eL D.int) ([] : (List Int))), .non, .non, .non, .non] (yi_lst ya_nil) rfl (sn_set (D.int (17 : Int)) [((eL D.int) script), (D.int many), ((eL D.int) ([] : (List Int))), (D.int (17 : Int)), .non, .non, .non] yi_c rfl (sn_for (e := D.int) (B := T_law_numbers_b1) (s0 := (([] : (List Int)), (17 : Int))) (fun (s1 : ((List Int) × Int)) (δ2 : Nat → D) => [((eL D.int) script), (D.int many), ((eL D.int) s1.1), (D.int s1.2), (δ2 4), (δ2 5), (δ2 6)]) (sr_list (yi_sl im_int (yi_var rfl) yo_n (yo_s yi_c))) (by first | rfl | (simp [eL, List.map_set, List.map_append, List.map_map, Function.comp_def]; done) | (simp [eL, eO, List.map_set, List.map_append, List.map_map, Function.comp_def]; rfl)) (fun s1 cell δ2 => sm_env (env' := [((eL D.int) script), (D.int many), ((eL D.int) s1.1), (D.int s1.2), (D.int cell), (δ2 5), (δ2 6)]) rfl (sm_bind fun x3 h_x3 => (sm_bind fun x4 h_x4 => (sm_bind fun x5 h_x5 => (sn_set (D.int x5) [((eL D.int) script), (D.int many), ((eL D.int) s1.1), (D.int x5), (D.int cell), (δ2 5), (δ2 6)] (yi_op (yi_op (yi_op (yi_op (yi_var rfl) yi_c (mulT_ok _ _ _ h_x3)) (yi_op (yi_var rfl) yi_c (modT_ok _ _ _ h_x4)) rfl) yi_c rfl) yi_c (modT_ok _ _ _ h_x5)) rfl (sm_bind fun x6 h_x6 => (sn_set (D.int x6) [((eL D.int) script), (D.int many), ((eL D.int) s1.1), (D.int x5), (D.int cell), (D.int x6), (δ2 6)] (yi_nm (e := D.int) h_x6 (yi_op (yi_var rfl) (yi_op yi_c yi_c rfl) rfl)) rfl (sn_if (fun (s7 : (List Int)) (δ8 : Nat → D) => [((eL D.int) script), (D.int many), ((eL D.int) s7), (D.int x5), (D.int cell), (D.int x6), (δ2 6)]) (te_T (yi_op (yi_var rfl) yi_c rfl)) (sm_bind fun x9 h_x9 => (sm_bind fun x10 h_x10 => (sm_end (sn_app (e := D.int) (v := x9) [((eL D.int) script), (D.int many), ((eL D.int) x10), (D.int x5), (D.int cell), (D.int x6), (δ2 6)] (pt_var rfl) (yi_op (yi_var rfl) yi_c (modT_ok _ _ _ h_x9)) h_x10 (by first | rfl | (simp [eL, List.map_set, List.map_append, List.map_map, Function.comp_def]; done) | (simp [eL, eO, List.map_set, List.map_append, List.map_map, Function.comp_def]; rfl)) (sn_fall _ (by first | rfl | (simp [eL, List.map_set, List.map_append, List.map_map, Function.comp_def]; done) | (simp [eL, eO, List.map_set, List.map_append, List.map_map, Function.comp_def]; rfl))))))) (sn_fall _ (by first | rfl | (simp [eL, List.map_set, List.map_append, List.map_map, Function.comp_def]; done) | (simp [eL, eO, List.map_set, List.map_append, List.map_map, Function.comp_def]; rfl))) (fun s7 δ8 => (sm_bind fun x11 h_x11 => (sm_end (sn_for (e := D.int) (B := T_law_numbers_b2) (s0 := (s7, x6)) (fun (s12 : ((List Int) × Int)) (δ13 : Nat → D) => [((eL D.int) script), (D.int many), ((eL D.int) s12.1), (D.int x5), (D.int cell), (D.int s12.2), (δ13 6)]) (sr_r1 yi_c h_x11) (by first | rfl | (simp [eL, List.map_set, List.map_append, List.map_map, Function.comp_def]; done) | (simp [eL, eO, List.map_set, List.map_append, List.map_map, Function.comp_def]; rfl)) (fun s12 k δ13 => sm_env (env' := [((eL D.int) script), (D.int many), ((eL D.int) s12.1), (D.int x5), (D.int cell), (D.int s12.2), (D.int k)]) rfl (sm_end (sn_if (fun (s14 : ((List Int) × Int)) (δ15 : Nat → D) => [((eL D.int) script), (D.int many), ((eL D.int) s14.1), (D.int x5), (D.int cell), (D.int s14.2), (D.int k)]) (te_T (yi_op (yi_var rfl) yi_c rfl)) (sm_bind fun x16 h_x16 => (sm_bind fun x17 h_x17 => (sn_app (e := D.int) (v := x16) [((eL D.int) script), (D.int many), ((eL D.int) x17), (D.int x5), (D.int cell), (D.int s12.2), (D.int k)] (pt_var rfl) (yi_op (yi_var rfl) yi_c (modT_ok _ _ _ h_x16)) h_x17 (by first | rfl | (simp [eL, List.map_set, List.map_append, List.map_map, Function.comp_def]; done) | (simp [eL, eO, List.map_set, List.map_append, List.map_map, Function.comp_def]; rfl)) (sm_bind fun x18 h_x18 => (sm_end (sn_set (D.int x18) [((eL D.int) script), (D.int many), ((eL D.int) x17), (D.int x5), (D.int cell), (D.int x18), (D.int k)] (yi_op (yi_var rfl) yi_c (divT_ok _ _ _ h_x18)) rfl (sn_fall _ (by first | rfl | (simp [eL, List.map_set, List.map_append, List.map_map, Function.comp_def]; done) | (simp [eL, eO, List.map_set, List.map_append, List.map_map, Function.comp_def]; rfl))))))))) (sn_fall _ (by first | rfl | (simp [eL, List.map_set, List.map_append, List.map_map, Function.comp_def]; done) | (simp [eL, eO, List.map_set, List.map_append, List.map_map, Function.comp_def]; rfl))) (fun s14 δ15 => (sn_fall _ (by first | rfl | (simp [eL, List.map_set, List.map_append, List.map_map, Function.comp_def]; done) | (simp [eL, eO, List.map_set, List.map_append, List.map_map, Function.comp_def]; rfl))))))) (fun s12 δ13 => (sn_fall _ (by first | rfl | (simp [eL, List.map_set, List.map_append, List.map_map, Function.comp_def]; done) | (simp [eL, eO, List.map_set, List.map_append, List.map_map, Function.comp_def]; rfl)))))))))))))))) (fun s1 δ2 => (sn_while (tt := T_law_numbers_t3 many) (B := T_law_numbers_b3 many) (s0 := (s1.1, s1.2)) (fun (s19 : ((List Int) × Int)) (δ20 : Nat → D) => [((eL D.int) script), (D.int many), ((eL D.int) s19.1), (D.int s19.2), (δ2 4), (δ2 5), (δ2 6)]) (by first | rfl | (simp [eL, List.map_set, List.map_append, List.map_map, Function.comp_def]; done) | (simp [eL, eO, List.map_set, List.map_append, List.map_map, Function.comp_def]; rfl)) (fun s19 δ20 => (fun r21 h_r21 => (te_nm h_r21 (te_T (yi_op (yi_call (ya_cons (yi_var rfl) ya_nil) (dLen_L _)) (yi_var rfl) rfl))))) (fun s19 δ20 => (sm_bind fun x22 h_x22 => (sm_bind fun x23 h_x23 => (sm_bind fun x24 h_x24 => (sm_bind fun x25 h_x25 => (sn_set (D.int x25) [((eL D.int) script), (D.int many), ((eL D.int) s19.1), (D.int x25), (δ2 4), (δ2 5), (δ2 6)] (yi_op (yi_op (yi_op (yi_op (yi_op (yi_var rfl) (yi_var rfl) (mulT_ok _ _ _ h_x22)) (yi_op yi_c (yi_var rfl) (mulT_ok _ _ _ h_x23)) rfl) (yi_op yi_c (yi_call (ya_cons (yi_var rfl) ya_nil) (dLen_L _)) (mulT_ok _ _ _ h_x24)) rfl) yi_c rfl) yi_c (modT_ok _ _ _ h_x25)) rfl (sm_bind fun x26 h_x26 => (sm_bind fun x27 h_x27 => (sm_bind fun x28 h_x28 => (sm_end (sn_app (e := D.int) (v := x27) [((eL D.int) script), (D.int many), ((eL D.int) x28), (D.int x25), (δ2 4), (δ2 5), (δ2 6)] (pt_var rfl) (yi_op (yi_op (yi_var rfl) yi_c (divT_ok _ _ _ h_x26)) yi_c (modT_ok _ _ _ h_x27)) h_x28 (by first | rfl | (simp [eL, List.map_set, List.map_append, List.map_map, Function.comp_def]; done) | (simp [eL, eO, List.map_set, List.map_append, List.map_map, Function.comp_def]; rfl)) (sn_fall _ (by first | rfl | (simp [eL, List.map_set, List.map_append, List.map_map, Function.comp_def]; done) | (simp [eL, eO, List.map_set, List.map_append, List.map_map, Function.comp_def]; rfl)))))))))))))) (fun s19 δ20 => (sn_ret ((eL D.int) (cutL s19.1 none (some many))) (yi_sl im_int (yi_var rfl) yo_n (yo_s (yi_var rfl))) (rv trivial))))))))
theorem tf_law_numbers (script : (List Int)) (many : Int) {r : (List Int)} (h : T_law_numbers script many = some r) : FnP (G_law_numbers [((eL D.int) script), (D.int many)]) ((eL D.int) r) ((fun _ _ => True) r) := fnV (er := (eL D.int)) (P := (fun _ _ => True)) (ts_law_numbers script many) h
structure S_Survey where
  kinds : Int
  many : Int
  kept : (List D)
  coming : Int
  held : (List (Int × (List D) × Int))
abbrev em_Survey (x : S_Survey) : D := .ins "Survey" [(("kinds" : Str), D.int x.kinds), (("many" : Str), D.int x.many), (("kept" : Str), (eL (id : D → D)) x.kept), (("coming" : Str), D.int x.coming), (("held" : Str), (eL (e3 D.int (eL (id : D → D)) D.int)) x.held)]
theorem fl_Survey_kinds (x : S_Survey) : dFld "Survey" "kinds" (em_Survey x) = some (D.int x.kinds) := by rfl
theorem fl_Survey_many (x : S_Survey) : dFld "Survey" "many" (em_Survey x) = some (D.int x.many) := by rfl
theorem fl_Survey_kept (x : S_Survey) : dFld "Survey" "kept" (em_Survey x) = some ((eL (id : D → D)) x.kept) := by rfl
theorem fl_Survey_coming (x : S_Survey) : dFld "Survey" "coming" (em_Survey x) = some (D.int x.coming) := by rfl
theorem fl_Survey_held (x : S_Survey) : dFld "Survey" "held" (em_Survey x) = some ((eL (e3 D.int (eL (id : D → D)) D.int)) x.held) := by rfl
theorem io_Survey_chalk (x : S_Survey) : insOf "Survey" "chalk" (em_Survey x) = true := by rfl
theorem io_Survey_need_marks (x : S_Survey) : insOf "Survey" "need_marks" (em_Survey x) = true := by rfl
theorem io_Survey_need_room (x : S_Survey) : insOf "Survey" "need_room" (em_Survey x) = true := by rfl
theorem io_Survey_rows_now (x : S_Survey) : insOf "Survey" "rows_now" (em_Survey x) = true := by rfl
theorem io_Survey_labels_now (x : S_Survey) : insOf "Survey" "labels_now" (em_Survey x) = true := by rfl
theorem io_Survey_same (x : S_Survey) : insOf "Survey" "same" (em_Survey x) = true := by rfl
theorem io_Survey_enter (x : S_Survey) : insOf "Survey" "enter" (em_Survey x) = true := by rfl
theorem io_Survey_apart (x : S_Survey) : insOf "Survey" "apart" (em_Survey x) = true := by rfl
theorem io_Survey_need_way (x : S_Survey) : insOf "Survey" "need_way" (em_Survey x) = true := by rfl
theorem io_Survey_broken (x : S_Survey) : insOf "Survey" "broken" (em_Survey x) = true := by rfl
theorem io_Survey_never_paper (x : S_Survey) : insOf "Survey" "never_paper" (em_Survey x) = true := by rfl
theorem io_Survey_row (x : S_Survey) : insOf "Survey" "row" (em_Survey x) = true := by rfl
theorem io_Survey_hold (x : S_Survey) : insOf "Survey" "hold" (em_Survey x) = true := by rfl
theorem io_Survey_strike (x : S_Survey) : insOf "Survey" "strike" (em_Survey x) = true := by rfl
theorem io_Survey_back (x : S_Survey) : insOf "Survey" "back" (em_Survey x) = true := by rfl
theorem io_Survey_twin (x : S_Survey) : insOf "Survey" "twin" (em_Survey x) = true := by rfl
noncomputable def T_Survey_init (kinds : Int) : Option (Except String S_Survey × Unit) :=
  if ((decide (kinds < (1 : Int))) || (decide ((5 : Int) < kinds))) = true then
    some (.error "NoKind", ())
  else
  some (.ok ({ kinds := kinds, many := (0 : Int), kept := ([] : (List D)), coming := (1 : Int), held := ([] : (List (Int × (List D) × Int))) } : S_Survey), ())
theorem ts_Survey_init (kinds : Int) : Sm (RoE (fun _ : S_Survey => D.non) (fun (r : S_Survey) (l : Unit) (e : List D) => e[0]? = some (em_Survey r)) (fun (l : Unit) (e : List D) => True)) (T_Survey_init kinds) (g_Survey_init [(.ins "Survey" []), (D.int kinds)]) := by
  unfold T_Survey_init
  exact (sn_ifA (te_or (te_T (yi_op (yi_var rfl) yi_c rfl)) (te_T (yi_op (yi_var rfl) yi_c rfl))) (sx_raise (rx_in (re_ex trivial) rfl)) (sn_skip (sn_fld (x := (D.int kinds)) (fl := []) [(.ins "Survey" [(("kinds" : Str), (D.int kinds))]), (D.int kinds)] (yi_imm (yi_var rfl) (im_int _)) (pt_var rfl) (show 0 < 900 from by decide) rfl (sn_fld (x := (D.int (0 : Int))) (fl := [(("kinds" : Str), (D.int kinds))]) [(.ins "Survey" [(("kinds" : Str), (D.int kinds)), (("many" : Str), (D.int (0 : Int)))]), (D.int kinds)] yi_c (pt_var rfl) (show 1 < 900 from by decide) rfl (sn_fld (x := ((eL (id : D → D)) ([] : (List D)))) (fl := [(("kinds" : Str), (D.int kinds)), (("many" : Str), (D.int (0 : Int)))]) [(.ins "Survey" [(("kinds" : Str), (D.int kinds)), (("many" : Str), (D.int (0 : Int))), (("kept" : Str), ((eL (id : D → D)) ([] : (List D))))]), (D.int kinds)] (yi_lst ya_nil) (pt_var rfl) (show 2 < 900 from by decide) rfl (sn_fld (x := (D.int (1 : Int))) (fl := [(("kinds" : Str), (D.int kinds)), (("many" : Str), (D.int (0 : Int))), (("kept" : Str), ((eL (id : D → D)) ([] : (List D))))]) [(.ins "Survey" [(("kinds" : Str), (D.int kinds)), (("many" : Str), (D.int (0 : Int))), (("kept" : Str), ((eL (id : D → D)) ([] : (List D)))), (("coming" : Str), (D.int (1 : Int)))]), (D.int kinds)] yi_c (pt_var rfl) (show 3 < 900 from by decide) rfl (sm_end (sn_fld (x := ((eL (e3 D.int (eL (id : D → D)) D.int)) ([] : (List (Int × (List D) × Int))))) (fl := [(("kinds" : Str), (D.int kinds)), (("many" : Str), (D.int (0 : Int))), (("kept" : Str), ((eL (id : D → D)) ([] : (List D)))), (("coming" : Str), (D.int (1 : Int)))]) [(.ins "Survey" [(("kinds" : Str), (D.int kinds)), (("many" : Str), (D.int (0 : Int))), (("kept" : Str), ((eL (id : D → D)) ([] : (List D)))), (("coming" : Str), (D.int (1 : Int))), (("held" : Str), ((eL (e3 D.int (eL (id : D → D)) D.int)) ([] : (List (Int × (List D) × Int)))))]), (D.int kinds)] (yi_lst ya_nil) (pt_var rfl) (show 4 < 900 from by decide) rfl (sm_next (re_end rfl (by exact rfl)))))))))))
theorem tf_Survey_init (kinds : Int) {r : Except String S_Survey × Unit} (h : T_Survey_init kinds = some r) : (∀ v, r.1 = .ok v → FnP (G_Survey_init [(.ins "Survey" []), (D.int kinds)]) .non ((fun (r : S_Survey) (l : Unit) (e : List D) => e[0]? = some (em_Survey r)) v r.2)) ∧ ∀ c, r.1 = .error c → FnX (G_Survey_init [(.ins "Survey" []), (D.int kinds)]) c ((fun (l : Unit) (e : List D) => True) r.2) := fnE (er := (fun _ : S_Survey => D.non)) (P := (fun (r : S_Survey) (l : Unit) (e : List D) => e[0]? = some (em_Survey r))) (Q := (fun (l : Unit) (e : List D) => True)) (ts_Survey_init kinds) h (Or.inl rfl)
theorem tn_Survey_init (kinds : Int) {r : S_Survey} (h : (T_Survey_init kinds).bind okT = some r) : FnP (G_Survey_init [(.ins "Survey" []), (D.int kinds)]) .non ((fun (r : S_Survey) (l : Unit) (e : List D) => e[0]? = some (em_Survey r)) r ()) := by
  obtain ⟨x, h1, h2⟩ := okT_of h
  exact (tf_Survey_init kinds h1).1 _ h2
noncomputable def T_Survey_chalk (self : S_Survey) : Option (Except String Int × S_Survey) :=
  if (decide ((24 : Int) ≤ self.many)) = true then
    some (.error "Full", self)
  else
  some (.ok (({ self with many := self.many + (1 : Int) }).many - (1 : Int)), { self with many := self.many + (1 : Int) })
theorem ts_Survey_chalk (self : S_Survey) : Sm (RoE D.int (fun (r : Int) (l : S_Survey) (e : List D) => e[0]? = some (em_Survey l)) (fun (l : S_Survey) (e : List D) => e[0]? = some (em_Survey l))) (T_Survey_chalk self) (g_Survey_chalk [(em_Survey self)]) := by
  unfold T_Survey_chalk
  exact (sn_ifA (te_T (yi_op (yi_un (yi_var rfl) (fl_Survey_many _)) yi_c rfl)) (sx_raise (rx_in (re_ex (by exact rfl)) rfl)) (sn_skip (sn_fldAug [(em_Survey ({ self with many := self.many + (1 : Int) }))] (pt_var rfl) (show 5 < 900 from by decide) (by rfl) yi_c (by first | rfl | (simp [eL, List.map_set, List.map_append, List.map_map, Function.comp_def]; done) | (simp [eL, eO, List.map_set, List.map_append, List.map_map, Function.comp_def]; rfl)) (sn_ret (D.int (({ self with many := self.many + (1 : Int) }).many - (1 : Int))) (yi_op (yi_un (yi_var rfl) (fl_Survey_many _)) yi_c rfl) (re_ok (by exact rfl))))))
theorem tf_Survey_chalk (self : S_Survey) {r : Except String Int × S_Survey} (h : T_Survey_chalk self = some r) : (∀ v, r.1 = .ok v → FnP (G_Survey_chalk [(em_Survey self)]) (D.int v) ((fun (r : Int) (l : S_Survey) (e : List D) => e[0]? = some (em_Survey l)) v r.2)) ∧ ∀ c, r.1 = .error c → FnX (G_Survey_chalk [(em_Survey self)]) c ((fun (l : S_Survey) (e : List D) => e[0]? = some (em_Survey l)) r.2) := fnE (er := D.int) (P := (fun (r : Int) (l : S_Survey) (e : List D) => e[0]? = some (em_Survey l))) (Q := (fun (l : S_Survey) (e : List D) => e[0]? = some (em_Survey l))) (ts_Survey_chalk self) h (Or.inl rfl)
theorem tn_Survey_chalk (self : S_Survey) {r : Int × S_Survey} (h : (T_Survey_chalk self).bind okLT = some r) : FnP (G_Survey_chalk [(em_Survey self)]) (D.int r.1) ((fun (r : Int) (l : S_Survey) (e : List D) => e[0]? = some (em_Survey l)) r.1 r.2) := by
  obtain ⟨x, h1, h2, h3⟩ := okLT_of h
  have := (tf_Survey_chalk self h1).1 _ h2
  rw [h3] at this
  exact this
noncomputable def T_Survey_need_marks (self : S_Survey) (a : Int) (b : Int) : Option (Except String Unit × Unit) :=
  if ((decide (a < (0 : Int))) || ((decide (self.many ≤ a)) || ((decide (b < (0 : Int))) || (decide (self.many ≤ b))))) = true then
    some (.error "NoMark", ())
  else
  some (.ok (), ())
theorem ts_Survey_need_marks (self : S_Survey) (a : Int) (b : Int) : Sm (RoE eU (fun (r : Unit) (l : Unit) (e : List D) => True) (fun (l : Unit) (e : List D) => True)) (T_Survey_need_marks self a b) (g_Survey_need_marks [(em_Survey self), (D.int a), (D.int b)]) := by
  unfold T_Survey_need_marks
  exact (sm_end (sn_ifA (te_or (te_T (yi_op (yi_var rfl) yi_c rfl)) (te_or (te_T (yi_op (yi_var rfl) (yi_un (yi_var rfl) (fl_Survey_many _)) rfl)) (te_or (te_T (yi_op (yi_var rfl) yi_c rfl)) (te_T (yi_op (yi_var rfl) (yi_un (yi_var rfl) (fl_Survey_many _)) rfl))))) (sx_raise (rx_in (re_ex trivial) rfl)) (sn_skip (sm_next (re_end rfl trivial)))))
theorem tf_Survey_need_marks (self : S_Survey) (a : Int) (b : Int) {r : Except String Unit × Unit} (h : T_Survey_need_marks self a b = some r) : (∀ v, r.1 = .ok v → FnP (G_Survey_need_marks [(em_Survey self), (D.int a), (D.int b)]) (eU v) ((fun (r : Unit) (l : Unit) (e : List D) => True) v r.2)) ∧ ∀ c, r.1 = .error c → FnX (G_Survey_need_marks [(em_Survey self), (D.int a), (D.int b)]) c ((fun (l : Unit) (e : List D) => True) r.2) := fnE (er := eU) (P := (fun (r : Unit) (l : Unit) (e : List D) => True)) (Q := (fun (l : Unit) (e : List D) => True)) (ts_Survey_need_marks self a b) h (Or.inl rfl)
noncomputable def T_Survey_need_room (self : S_Survey) : Option (Except String Unit × Unit) :=
  if (decide ((40 : Int) ≤ (self.kept.length : Int))) = true then
    some (.error "Full", ())
  else
  some (.ok (), ())
theorem ts_Survey_need_room (self : S_Survey) : Sm (RoE eU (fun (r : Unit) (l : Unit) (e : List D) => True) (fun (l : Unit) (e : List D) => True)) (T_Survey_need_room self) (g_Survey_need_room [(em_Survey self)]) := by
  unfold T_Survey_need_room
  exact (sm_end (sn_ifA (te_T (yi_op (yi_call (ya_cons (yi_un (yi_var rfl) (fl_Survey_kept _)) ya_nil) (dLen_L _)) yi_c rfl)) (sx_raise (rx_in (re_ex trivial) rfl)) (sn_skip (sm_next (re_end rfl trivial)))))
theorem tf_Survey_need_room (self : S_Survey) {r : Except String Unit × Unit} (h : T_Survey_need_room self = some r) : (∀ v, r.1 = .ok v → FnP (G_Survey_need_room [(em_Survey self)]) (eU v) ((fun (r : Unit) (l : Unit) (e : List D) => True) v r.2)) ∧ ∀ c, r.1 = .error c → FnX (G_Survey_need_room [(em_Survey self)]) c ((fun (l : Unit) (e : List D) => True) r.2) := fnE (er := eU) (P := (fun (r : Unit) (l : Unit) (e : List D) => True)) (Q := (fun (l : Unit) (e : List D) => True)) (ts_Survey_need_room self) h (Or.inl rfl)
noncomputable def T_Survey_rows_now (self : S_Survey) : Option (List (Int × Int × Int × Int)) :=
  (lcT (fun c1 : D => ((dIx c1 (D.int (1 : Int))).bind fun x2 => (toStrD x2).bind fun x3 => (seqT x3 ("row" : Str)).bind fun x4 => some x4)) (fun c1 : D => ((dIx c1 (D.int (0 : Int))).bind fun x5 => (toIntD x5).bind fun x6 => (dIx c1 (D.int (2 : Int))).bind fun x7 => (toIntD x7).bind fun x8 => (dIx c1 (D.int (3 : Int))).bind fun x9 => (toIntD x9).bind fun x10 => (dIx c1 (D.int (4 : Int))).bind fun x11 => (toIntD x11).bind fun x12 => some (x6, x8, x10, x12))) self.kept).bind fun x15 =>
  some x15
theorem ts_Survey_rows_now (self : S_Survey) : Sm (RoV (eL (e4 D.int D.int D.int D.int)) (fun _ _ => True)) (T_Survey_rows_now self) (g_Survey_rows_now [(em_Survey self), .non]) := by
  unfold T_Survey_rows_now
  exact (sm_bind fun x15 h_x15 => (sn_ret ((eL (e4 D.int D.int D.int D.int)) x15) (yi_lcT (ea := (id : D → D)) (eb := (e4 D.int D.int D.int D.int)) (yi_un (yi_var rfl) (fl_Survey_kept _)) (fun c1 => (fun r14 h_r14 => (bindE h_r14 fun x2 h_x2 h_r14_1 => (bindE h_r14_1 fun x3 h_x3 h_r14_2 => (bindE h_r14_2 fun x4 h_x4 h_r14_3 => (te_nm h_r14_3 (te_T (yi_op (yi_cv (yi_op (x := c1) (y := (D.int (1 : Int))) (yi_var rfl) yi_c h_x2) (toStrD_ok _ _ h_x3).symm) yi_c (seqT_ok _ _ _ h_x4))))))))) (fun c1 => (fun r13 h_r13 => (bindE h_r13 fun x5 h_x5 h_r13_1 => (bindE h_r13_1 fun x6 h_x6 h_r13_2 => (bindE h_r13_2 fun x7 h_x7 h_r13_3 => (bindE h_r13_3 fun x8 h_x8 h_r13_4 => (bindE h_r13_4 fun x9 h_x9 h_r13_5 => (bindE h_r13_5 fun x10 h_x10 h_r13_6 => (bindE h_r13_6 fun x11 h_x11 h_r13_7 => (bindE h_r13_7 fun x12 h_x12 h_r13_8 => (yi_nm (e := (e4 D.int D.int D.int D.int)) h_r13_8 (yi_tup (ds := [(D.int x6), (D.int x8), (D.int x10), (D.int x12)]) (ya_cons (x := (D.int x6)) (yi_imm (yi_cv (yi_op (x := c1) (y := (D.int (0 : Int))) (yi_var rfl) yi_c h_x5) (toIntD_ok _ _ h_x6).symm) (im_int _)) (ya_cons (x := (D.int x8)) (yi_imm (yi_cv (yi_op (x := c1) (y := (D.int (2 : Int))) (yi_var rfl) yi_c h_x7) (toIntD_ok _ _ h_x8).symm) (im_int _)) (ya_cons (x := (D.int x10)) (yi_imm (yi_cv (yi_op (x := c1) (y := (D.int (3 : Int))) (yi_var rfl) yi_c h_x9) (toIntD_ok _ _ h_x10).symm) (im_int _)) (ya_cons (x := (D.int x12)) (yi_imm (yi_cv (yi_op (x := c1) (y := (D.int (4 : Int))) (yi_var rfl) yi_c h_x11) (toIntD_ok _ _ h_x12).symm) (im_int _)) ya_nil)))) (show 4 ≤ 100 from by decide))))))))))))) h_x15) (rv trivial)))
theorem tf_Survey_rows_now (self : S_Survey) {r : (List (Int × Int × Int × Int))} (h : T_Survey_rows_now self = some r) : FnP (G_Survey_rows_now [(em_Survey self)]) ((eL (e4 D.int D.int D.int D.int)) r) ((fun _ _ => True) r) := fnV (er := (eL (e4 D.int D.int D.int D.int))) (P := (fun _ _ => True)) (ts_Survey_rows_now self) h
noncomputable def T_join_b1 (x1 : Int) (x2 : Int) (x3 : Int) (x4 : Int) (s6 : (List Int)) (at' : Int) : Option (List Int) :=
  (ixT s6 at').bind fun x8 =>
    (if (decide (x8 = (if x4 > x3 then x4 else x3))) = true then
    (sTT s6 at' (if x2 < x1 then x2 else x1)).bind fun x11 =>
    some x11
    else
    some s6).bind fun s9 : (List Int) =>
  some s9
noncomputable def T_join (labels : (List Int)) (one : Int) (two : Int) : Option (Unit × (List Int)) :=
  (ixT labels one).bind fun x1 =>
  (ixT labels two).bind fun x2 =>
  (ixT labels one).bind fun x3 =>
  (ixT labels two).bind fun x4 =>
  (rg1T (labels.length : Int)).bind fun x5 =>
  (forO (T_join_b1 x1 x2 x3 x4) x5 labels).bind fun s6 : (List Int) =>
  some ((), s6)
theorem ts_join (labels : (List Int)) (one : Int) (two : Int) : Sm (RoN (fun r : Unit × (List Int) => (eU r.1)) (fun (r : Unit × (List Int)) (e : List D) => e[0]? = some ((eL D.int) r.2))) (T_join labels one two) (g_join [((eL D.int) labels), (D.int one), (D.int two), .non, .non, .non]) := by
  unfold T_join
  exact (sm_bind fun x1 h_x1 => (sm_bind fun x2 h_x2 => (sn_set (D.int (if x2 < x1 then x2 else x1)) [((eL D.int) labels), (D.int one), (D.int two), (D.int (if x2 < x1 then x2 else x1)), .non, .non] (yi_call (ya_cons (x := (D.int x1)) (yi_op (yi_var rfl) (yi_var rfl) (ixT_ok _ _ _ h_x1)) (ya_cons (x := (D.int x2)) (yi_op (yi_var rfl) (yi_var rfl) (ixT_ok _ _ _ h_x2)) ya_nil)) rfl) rfl (sm_bind fun x3 h_x3 => (sm_bind fun x4 h_x4 => (sn_set (D.int (if x4 > x3 then x4 else x3)) [((eL D.int) labels), (D.int one), (D.int two), (D.int (if x2 < x1 then x2 else x1)), (D.int (if x4 > x3 then x4 else x3)), .non] (yi_call (ya_cons (x := (D.int x3)) (yi_op (yi_var rfl) (yi_var rfl) (ixT_ok _ _ _ h_x3)) (ya_cons (x := (D.int x4)) (yi_op (yi_var rfl) (yi_var rfl) (ixT_ok _ _ _ h_x4)) ya_nil)) rfl) rfl (sm_bind fun x5 h_x5 => (sm_end (sn_for (e := D.int) (B := T_join_b1 x1 x2 x3 x4) (s0 := labels) (fun (s6 : (List Int)) (δ7 : Nat → D) => [((eL D.int) s6), (D.int one), (D.int two), (D.int (if x2 < x1 then x2 else x1)), (D.int (if x4 > x3 then x4 else x3)), (δ7 5)]) (sr_r1 (yi_call (ya_cons (yi_var rfl) ya_nil) (dLen_L _)) h_x5) (by first | rfl | (simp [eL, List.map_set, List.map_append, List.map_map, Function.comp_def]; done) | (simp [eL, eO, List.map_set, List.map_append, List.map_map, Function.comp_def]; rfl)) (fun s6 at' δ7 => sm_env (env' := [((eL D.int) s6), (D.int one), (D.int two), (D.int (if x2 < x1 then x2 else x1)), (D.int (if x4 > x3 then x4 else x3)), (D.int at')]) rfl (sm_bind fun x8 h_x8 => (sm_end (sn_if (fun (s9 : (List Int)) (δ10 : Nat → D) => [((eL D.int) s9), (D.int one), (D.int two), (D.int (if x2 < x1 then x2 else x1)), (D.int (if x4 > x3 then x4 else x3)), (D.int at')]) (te_T (yi_op (x := (D.int x8)) (y := (D.int (if x4 > x3 then x4 else x3))) (yi_op (yi_var rfl) (yi_var rfl) (ixT_ok _ _ _ h_x8)) (yi_var rfl) (Eqb.eq eqb_int (by decide) x8 (if x4 > x3 then x4 else x3)))) (sm_bind fun x11 h_x11 => (sm_end (sn_set1 (e := D.int) (v := (if x2 < x1 then x2 else x1)) [((eL D.int) x11), (D.int one), (D.int two), (D.int (if x2 < x1 then x2 else x1)), (D.int (if x4 > x3 then x4 else x3)), (D.int at')] (yi_var rfl) (pt_var rfl) (yi_var rfl) h_x11 (by first | rfl | (simp [eL, List.map_set, List.map_append, List.map_map, Function.comp_def]; done) | (simp [eL, eO, List.map_set, List.map_append, List.map_map, Function.comp_def]; rfl)) (sn_fall _ (by first | rfl | (simp [eL, List.map_set, List.map_append, List.map_map, Function.comp_def]; done) | (simp [eL, eO, List.map_set, List.map_append, List.map_map, Function.comp_def]; rfl)))))) (sn_fall _ (by first | rfl | (simp [eL, List.map_set, List.map_append, List.map_map, Function.comp_def]; done) | (simp [eL, eO, List.map_set, List.map_append, List.map_map, Function.comp_def]; rfl))) (fun s9 δ10 => (sn_fall _ (by first | rfl | (simp [eL, List.map_set, List.map_append, List.map_map, Function.comp_def]; done) | (simp [eL, eO, List.map_set, List.map_append, List.map_map, Function.comp_def]; rfl)))))))) (fun s6 δ7 => (sm_next (rn_end rfl (by exact rfl)))))))))))))
theorem tf_join (labels : (List Int)) (one : Int) (two : Int) {r : Unit × (List Int)} (h : T_join labels one two = some r) : FnP (G_join [((eL D.int) labels), (D.int one), (D.int two)]) ((fun r : Unit × (List Int) => (eU r.1)) r) ((fun (r : Unit × (List Int)) (e : List D) => e[0]? = some ((eL D.int) r.2)) r) := fnN (er := (fun r : Unit × (List Int) => (eU r.1))) (P := (fun (r : Unit × (List Int)) (e : List D) => e[0]? = some ((eL D.int) r.2))) (ts_join labels one two) h
noncomputable def T_sweep_b1 (side : Int) (s1 : ((List Int) × (List (Int × Int × Int)) × (List ((Int × Int) × (Int × Int))) × Bool)) (x3 : (Int × Int × Int × Int)) : Option ((List Int) × (List (Int × Int × Int)) × (List ((Int × Int) × (Int × Int))) × Bool) :=
  (if (decide (side = (-(1 : Int)))) = true then
    some (x3.2.2.2, x3.2.1)
    else
    some (x3.2.1, x3.2.2.2)).bind fun s4 : (Int × Int) =>
  (ixT s1.1 s4.1).bind fun x6 =>
  (if (!(valG s1.2.2.1 (x6, x3.2.2.1)).isSome) = true then
    (putT s1.2.2.1 (x6, x3.2.2.1) (x3.1, s4.2)).bind fun x9 =>
    some (s1.1, s1.2.1, x9, s1.2.2.2)
    else
    (valG s1.2.2.1 (x6, x3.2.2.1)).bind fun x10 =>
    (ixT s1.1 x10.2).bind fun x11 =>
      (ixT s1.1 s4.2).bind fun x12 =>
      (if (!decide (x11 = x12)) = true then
      (T_join s1.1 x10.2 s4.2).bind fun x15 =>
      (appT s1.2.1 (x10.1, x3.1, side)).bind fun x16 =>
      some (x15.2, x16, true)
      else
      some (s1.1, s1.2.1, s1.2.2.2)).bind fun s13 : ((List Int) × (List (Int × Int × Int)) × Bool) =>
    some (s13.1, s13.2.1, s1.2.2.1, s13.2.2)).bind fun s7 : ((List Int) × (List (Int × Int × Int)) × (List ((Int × Int) × (Int × Int))) × Bool) =>
  some (s7.1, s7.2.1, s7.2.2.1, s7.2.2.2)
noncomputable def T_sweep (labels : (List Int)) (rows : (List (Int × Int × Int × Int))) (side : Int) (paper : (List (Int × Int × Int))) : Option (Bool × (List Int) × (List (Int × Int × Int))) :=
  (forO (T_sweep_b1 side) rows (labels, paper, ([] : (List ((Int × Int) × (Int × Int)))), false)).bind fun s1 : ((List Int) × (List (Int × Int × Int)) × (List ((Int × Int) × (Int × Int))) × Bool) =>
  some (s1.2.2.2, s1.1, s1.2.1)
theorem ts_sweep (labels : (List Int)) (rows : (List (Int × Int × Int × Int))) (side : Int) (paper : (List (Int × Int × Int))) : Sm (RoV (fun r : Bool × (List Int) × (List (Int × Int × Int)) => (D.bl r.1)) (fun (r : Bool × (List Int) × (List (Int × Int × Int))) (e : List D) => e[0]? = some ((eL D.int) r.2.1) ∧ e[3]? = some ((eL (e3 D.int D.int D.int)) r.2.2))) (T_sweep labels rows side paper) (g_sweep [((eL D.int) labels), ((eL (e4 D.int D.int D.int D.int)) rows), (D.int side), ((eL (e3 D.int D.int D.int)) paper), .non, .non, .non, .non, .non, .non, .non, .non, .non, .non, .non]) := by
  unfold T_sweep
  exact (sn_set ((eKT (e2 D.int D.int)) ([] : (List ((Int × Int) × (Int × Int))))) [((eL D.int) labels), ((eL (e4 D.int D.int D.int D.int)) rows), (D.int side), ((eL (e3 D.int D.int D.int)) paper), ((eKT (e2 D.int D.int)) ([] : (List ((Int × Int) × (Int × Int))))), .non, .non, .non, .non, .non, .non, .non, .non, .non, .non] yi_c rfl (sn_set (D.bl false) [((eL D.int) labels), ((eL (e4 D.int D.int D.int D.int)) rows), (D.int side), ((eL (e3 D.int D.int D.int)) paper), ((eKT (e2 D.int D.int)) ([] : (List ((Int × Int) × (Int × Int))))), (D.bl false), .non, .non, .non, .non, .non, .non, .non, .non, .non] yi_c rfl (sn_forT (B := T_sweep_b1 side) (s0 := (labels, paper, ([] : (List ((Int × Int) × (Int × Int)))), false)) (fun x3 : (Int × Int × Int × Int) => [(D.int x3.1), (D.int x3.2.1), (D.int x3.2.2.1), (D.int x3.2.2.2)]) (fun (s1 : ((List Int) × (List (Int × Int × Int)) × (List ((Int × Int) × (Int × Int))) × Bool)) (δ2 : Nat → D) => [((eL D.int) s1.1), ((eL (e4 D.int D.int D.int D.int)) rows), (D.int side), ((eL (e3 D.int D.int D.int)) s1.2.1), ((eKT (e2 D.int D.int)) s1.2.2.1), (D.bl s1.2.2.2), (δ2 6), (δ2 7), (δ2 8), (δ2 9), (δ2 10), (δ2 11), (δ2 12), (δ2 13), (δ2 14)]) (fun (x3 : (Int × Int × Int × Int)) (s1 : ((List Int) × (List (Int × Int × Int)) × (List ((Int × Int) × (Int × Int))) × Bool)) (δ2 : Nat → D) => [((eL D.int) s1.1), ((eL (e4 D.int D.int D.int D.int)) rows), (D.int side), ((eL (e3 D.int D.int D.int)) s1.2.1), ((eKT (e2 D.int D.int)) s1.2.2.1), (D.bl s1.2.2.2), (D.int x3.1), (D.int x3.2.1), (D.int x3.2.2.1), (D.int x3.2.2.2), (δ2 10), (δ2 11), (δ2 12), (δ2 13), (δ2 14)]) (fun _ _ _ => rfl) (yi_var rfl) (by first | rfl | (simp [eL, List.map_set, List.map_append, List.map_map, Function.comp_def]; done) | (simp [eL, eO, List.map_set, List.map_append, List.map_map, Function.comp_def]; rfl)) (fun s1 x3 δ2 => (sn_set (D.int x3.2.1) [((eL D.int) s1.1), ((eL (e4 D.int D.int D.int D.int)) rows), (D.int side), ((eL (e3 D.int D.int D.int)) s1.2.1), ((eKT (e2 D.int D.int)) s1.2.2.1), (D.bl s1.2.2.2), (D.int x3.1), (D.int x3.2.1), (D.int x3.2.2.1), (D.int x3.2.2.2), (D.int x3.2.1), (δ2 11), (δ2 12), (δ2 13), (δ2 14)] (yi_imm (yi_var rfl) (im_int _)) rfl (sn_set (D.int x3.2.2.2) [((eL D.int) s1.1), ((eL (e4 D.int D.int D.int D.int)) rows), (D.int side), ((eL (e3 D.int D.int D.int)) s1.2.1), ((eKT (e2 D.int D.int)) s1.2.2.1), (D.bl s1.2.2.2), (D.int x3.1), (D.int x3.2.1), (D.int x3.2.2.1), (D.int x3.2.2.2), (D.int x3.2.1), (D.int x3.2.2.2), (δ2 12), (δ2 13), (δ2 14)] (yi_imm (yi_var rfl) (im_int _)) rfl (sn_if (fun (s4 : (Int × Int)) (δ5 : Nat → D) => [((eL D.int) s1.1), ((eL (e4 D.int D.int D.int D.int)) rows), (D.int side), ((eL (e3 D.int D.int D.int)) s1.2.1), ((eKT (e2 D.int D.int)) s1.2.2.1), (D.bl s1.2.2.2), (D.int x3.1), (D.int x3.2.1), (D.int x3.2.2.1), (D.int x3.2.2.2), (D.int s4.1), (D.int s4.2), (δ2 12), (δ2 13), (δ2 14)]) (te_T (yi_op (x := (D.int side)) (y := (D.int (-(1 : Int)))) (yi_var rfl) (yi_un yi_c rfl) (Eqb.eq eqb_int (by decide) side (-(1 : Int))))) (sn_set (D.int x3.2.2.2) [((eL D.int) s1.1), ((eL (e4 D.int D.int D.int D.int)) rows), (D.int side), ((eL (e3 D.int D.int D.int)) s1.2.1), ((eKT (e2 D.int D.int)) s1.2.2.1), (D.bl s1.2.2.2), (D.int x3.1), (D.int x3.2.1), (D.int x3.2.2.1), (D.int x3.2.2.2), (D.int x3.2.2.2), (D.int x3.2.2.2), (δ2 12), (δ2 13), (δ2 14)] (yi_imm (yi_var rfl) (im_int _)) rfl (sm_end (sn_set (D.int x3.2.1) [((eL D.int) s1.1), ((eL (e4 D.int D.int D.int D.int)) rows), (D.int side), ((eL (e3 D.int D.int D.int)) s1.2.1), ((eKT (e2 D.int D.int)) s1.2.2.1), (D.bl s1.2.2.2), (D.int x3.1), (D.int x3.2.1), (D.int x3.2.2.1), (D.int x3.2.2.2), (D.int x3.2.2.2), (D.int x3.2.1), (δ2 12), (δ2 13), (δ2 14)] (yi_imm (yi_var rfl) (im_int _)) rfl (sn_fall _ (by first | rfl | (simp [eL, List.map_set, List.map_append, List.map_map, Function.comp_def]; done) | (simp [eL, eO, List.map_set, List.map_append, List.map_map, Function.comp_def]; rfl)))))) (sn_fall _ (by first | rfl | (simp [eL, List.map_set, List.map_append, List.map_map, Function.comp_def]; done) | (simp [eL, eO, List.map_set, List.map_append, List.map_map, Function.comp_def]; rfl))) (fun s4 δ5 => (sm_bind fun x6 h_x6 => (sn_set ((e2 D.int D.int) (x6, x3.2.2.1)) [((eL D.int) s1.1), ((eL (e4 D.int D.int D.int D.int)) rows), (D.int side), ((eL (e3 D.int D.int D.int)) s1.2.1), ((eKT (e2 D.int D.int)) s1.2.2.1), (D.bl s1.2.2.2), (D.int x3.1), (D.int x3.2.1), (D.int x3.2.2.1), (D.int x3.2.2.2), (D.int s4.1), (D.int s4.2), ((e2 D.int D.int) (x6, x3.2.2.1)), (δ2 13), (δ2 14)] (yi_tup (ds := [(D.int x6), (D.int x3.2.2.1)]) (ya_cons (x := (D.int x6)) (yi_op (yi_var rfl) (yi_var rfl) (ixT_ok _ _ _ h_x6)) (ya_cons (x := (D.int x3.2.2.1)) (yi_imm (yi_var rfl) (im_int _)) ya_nil)) (show 2 ≤ 100 from by decide)) rfl (sm_end (sn_if (fun (s7 : ((List Int) × (List (Int × Int × Int)) × (List ((Int × Int) × (Int × Int))) × Bool)) (δ8 : Nat → D) => [((eL D.int) s7.1), ((eL (e4 D.int D.int D.int D.int)) rows), (D.int side), ((eL (e3 D.int D.int D.int)) s7.2.1), ((eKT (e2 D.int D.int)) s7.2.2.1), (D.bl s7.2.2.2), (D.int x3.1), (D.int x3.2.1), (D.int x3.2.2.1), (D.int x3.2.2.2), (D.int s4.1), (D.int s4.2), ((e2 D.int D.int) (x6, x3.2.2.1)), (δ8 13), (δ8 14)]) (te_T (yi_op (x := ((e2 D.int D.int) (x6, x3.2.2.1))) (y := ((eKT (e2 D.int D.int)) s1.2.2.1)) (yi_var rfl) (yi_var rfl) (dNi_ok dk_II _ _))) (sm_bind fun x9 h_x9 => (sm_end (sn_dput (e := (e2 D.int D.int)) (v := (x3.1, s4.2)) [((eL D.int) s1.1), ((eL (e4 D.int D.int D.int D.int)) rows), (D.int side), ((eL (e3 D.int D.int D.int)) s1.2.1), ((eKT (e2 D.int D.int)) x9), (D.bl s1.2.2.2), (D.int x3.1), (D.int x3.2.1), (D.int x3.2.2.1), (D.int x3.2.2.2), (D.int s4.1), (D.int s4.2), ((e2 D.int D.int) (x6, x3.2.2.1)), (δ2 13), (δ2 14)] dk_II (yi_tup (ds := [(D.int x3.1), (D.int s4.2)]) (ya_cons (x := (D.int x3.1)) (yi_imm (yi_var rfl) (im_int _)) (ya_cons (x := (D.int s4.2)) (yi_var rfl) ya_nil)) (show 2 ≤ 100 from by decide)) (pt_var rfl) (yi_var rfl) h_x9 (by first | rfl | (simp [eL, List.map_set, List.map_append, List.map_map, Function.comp_def]; done) | (simp [eL, eO, List.map_set, List.map_append, List.map_map, Function.comp_def]; rfl)) (sn_fall _ (by first | rfl | (simp [eL, List.map_set, List.map_append, List.map_map, Function.comp_def]; done) | (simp [eL, eO, List.map_set, List.map_append, List.map_map, Function.comp_def]; rfl)))))) (sm_bind fun x10 h_x10 => (sn_unp [((eL D.int) s1.1), ((eL (e4 D.int D.int D.int D.int)) rows), (D.int side), ((eL (e3 D.int D.int D.int)) s1.2.1), ((eKT (e2 D.int D.int)) s1.2.2.1), (D.bl s1.2.2.2), (D.int x3.1), (D.int x3.2.1), (D.int x3.2.2.1), (D.int x3.2.2.2), (D.int s4.1), (D.int s4.2), ((e2 D.int D.int) (x6, x3.2.2.1)), (D.int x10.1), (D.int x10.2)] (yi_op (x := ((eKT (e2 D.int D.int)) s1.2.2.1)) (y := ((e2 D.int D.int) (x6, x3.2.2.1))) (yi_var rfl) (yi_var rfl) (dAt_ok dk_II h_x10)) rfl (sm_bind fun x11 h_x11 => (sm_bind fun x12 h_x12 => (sm_end (sn_if (fun (s13 : ((List Int) × (List (Int × Int × Int)) × Bool)) (δ14 : Nat → D) => [((eL D.int) s13.1), ((eL (e4 D.int D.int D.int D.int)) rows), (D.int side), ((eL (e3 D.int D.int D.int)) s13.2.1), ((eKT (e2 D.int D.int)) s1.2.2.1), (D.bl s13.2.2), (D.int x3.1), (D.int x3.2.1), (D.int x3.2.2.1), (D.int x3.2.2.2), (D.int s4.1), (D.int s4.2), ((e2 D.int D.int) (x6, x3.2.2.1)), (D.int x10.1), (D.int x10.2)]) (te_T (yi_op (x := (D.int x11)) (y := (D.int x12)) (yi_op (yi_var rfl) (yi_var rfl) (ixT_ok _ _ _ h_x11)) (yi_op (yi_var rfl) (yi_var rfl) (ixT_ok _ _ _ h_x12)) (Eqb.ne eqb_int (by decide) x11 x12))) (sm_bind fun x15 h_x15 => (sn_dropE [((eL D.int) x15.2), ((eL (e4 D.int D.int D.int D.int)) rows), (D.int side), ((eL (e3 D.int D.int D.int)) s1.2.1), ((eKT (e2 D.int D.int)) s1.2.2.1), (D.bl s1.2.2.2), (D.int x3.1), (D.int x3.2.1), (D.int x3.2.2.1), (D.int x3.2.2.2), (D.int s4.1), (D.int s4.2), ((e2 D.int D.int) (x6, x3.2.2.1)), (D.int x10.1), (D.int x10.2)] (ye_callN [((eL D.int) x15.2), ((eL (e4 D.int D.int D.int D.int)) rows), (D.int side), ((eL (e3 D.int D.int D.int)) s1.2.1), ((eKT (e2 D.int D.int)) s1.2.2.1), (D.bl s1.2.2.2), (D.int x3.1), (D.int x3.2.1), (D.int x3.2.2.1), (D.int x3.2.2.2), (D.int s4.1), (D.int s4.2), ((e2 D.int D.int) (x6, x3.2.2.1)), (D.int x10.1), (D.int x10.2)] (ya_cons (x := ((eL D.int) s1.1)) (pt_var rfl).val (ya_cons (x := (D.int x10.2)) (yi_var rfl) (ya_cons (x := (D.int s4.2)) (yi_var rfl) ya_nil))) (tf_join _ _ _ h_x15) (fun e h => (up_s rfl h (up_n (up_n (show updL [] _ _ _ _ = _ from congrArg some (by first | rfl | (simp [eL, List.map_set, List.map_append, List.map_map, Function.comp_def]; done) | (simp [eL, eO, List.map_set, List.map_append, List.map_map, Function.comp_def]; rfl)))))))) (sm_bind fun x16 h_x16 => (sn_app (e := (e3 D.int D.int D.int)) (v := (x10.1, x3.1, side)) [((eL D.int) x15.2), ((eL (e4 D.int D.int D.int D.int)) rows), (D.int side), ((eL (e3 D.int D.int D.int)) x16), ((eKT (e2 D.int D.int)) s1.2.2.1), (D.bl s1.2.2.2), (D.int x3.1), (D.int x3.2.1), (D.int x3.2.2.1), (D.int x3.2.2.2), (D.int s4.1), (D.int s4.2), ((e2 D.int D.int) (x6, x3.2.2.1)), (D.int x10.1), (D.int x10.2)] (pt_var rfl) (yi_tup (ds := [(D.int x10.1), (D.int x3.1), (D.int side)]) (ya_cons (x := (D.int x10.1)) (yi_var rfl) (ya_cons (x := (D.int x3.1)) (yi_imm (yi_var rfl) (im_int _)) (ya_cons (x := (D.int side)) (yi_imm (yi_var rfl) (im_int _)) ya_nil))) (show 3 ≤ 100 from by decide)) h_x16 (by first | rfl | (simp [eL, List.map_set, List.map_append, List.map_map, Function.comp_def]; done) | (simp [eL, eO, List.map_set, List.map_append, List.map_map, Function.comp_def]; rfl)) (sm_end (sn_set (D.bl true) [((eL D.int) x15.2), ((eL (e4 D.int D.int D.int D.int)) rows), (D.int side), ((eL (e3 D.int D.int D.int)) x16), ((eKT (e2 D.int D.int)) s1.2.2.1), (D.bl true), (D.int x3.1), (D.int x3.2.1), (D.int x3.2.2.1), (D.int x3.2.2.2), (D.int s4.1), (D.int s4.2), ((e2 D.int D.int) (x6, x3.2.2.1)), (D.int x10.1), (D.int x10.2)] yi_c rfl (sn_fall _ (by first | rfl | (simp [eL, List.map_set, List.map_append, List.map_map, Function.comp_def]; done) | (simp [eL, eO, List.map_set, List.map_append, List.map_map, Function.comp_def]; rfl))))))))) (sn_fall _ (by first | rfl | (simp [eL, List.map_set, List.map_append, List.map_map, Function.comp_def]; done) | (simp [eL, eO, List.map_set, List.map_append, List.map_map, Function.comp_def]; rfl))) (fun s13 δ14 => (sn_fall _ (by first | rfl | (simp [eL, List.map_set, List.map_append, List.map_map, Function.comp_def]; done) | (simp [eL, eO, List.map_set, List.map_append, List.map_map, Function.comp_def]; rfl)))))))))) (fun s7 δ8 => (sn_fall _ (by first | rfl | (simp [eL, List.map_set, List.map_append, List.map_map, Function.comp_def]; done) | (simp [eL, eO, List.map_set, List.map_append, List.map_map, Function.comp_def]; rfl))))))))))))) (fun s1 δ2 => (sn_ret (D.bl s1.2.2.2) (yi_var rfl) (rv ⟨by exact rfl, by exact rfl⟩))))))
theorem tf_sweep (labels : (List Int)) (rows : (List (Int × Int × Int × Int))) (side : Int) (paper : (List (Int × Int × Int))) {r : Bool × (List Int) × (List (Int × Int × Int))} (h : T_sweep labels rows side paper = some r) : FnP (G_sweep [((eL D.int) labels), ((eL (e4 D.int D.int D.int D.int)) rows), (D.int side), ((eL (e3 D.int D.int D.int)) paper)]) ((fun r : Bool × (List Int) × (List (Int × Int × Int)) => (D.bl r.1)) r) ((fun (r : Bool × (List Int) × (List (Int × Int × Int))) (e : List D) => e[0]? = some ((eL D.int) r.2.1) ∧ e[3]? = some ((eL (e3 D.int D.int D.int)) r.2.2)) r) := fnV (er := (fun r : Bool × (List Int) × (List (Int × Int × Int)) => (D.bl r.1))) (P := (fun (r : Bool × (List Int) × (List (Int × Int × Int))) (e : List D) => e[0]? = some ((eL D.int) r.2.1) ∧ e[3]? = some ((eL (e3 D.int D.int D.int)) r.2.2))) (ts_sweep labels rows side paper) h
noncomputable def T_folded_b1 (s2 : (List Int)) (x4 : (Int × Int)) : Option (List Int) :=
  (ixT s2 x4.1).bind fun x5 =>
    (ixT s2 x4.2).bind fun x6 =>
    (if (!decide (x5 = x6)) = true then
    (T_join s2 x4.1 x4.2).bind fun x9 =>
    some x9.2
    else
    some s2).bind fun s7 : (List Int) =>
  some s7
noncomputable def T_folded_t2 (rows : (List (Int × Int × Int × Int))) (s10 : ((List Int) × (List (Int × Int × Int)) × Bool)) : Option Bool :=
  (some s10.2.2)
noncomputable def T_folded_b2 (rows : (List (Int × Int × Int × Int))) (s10 : ((List Int) × (List (Int × Int × Int)) × Bool)) : Option ((List Int) × (List (Int × Int × Int)) × Bool) :=
  (T_sweep s10.1 rows (1 : Int) s10.2.1).bind fun x13 =>
  (T_sweep x13.2.1 rows (-(1 : Int)) x13.2.2).bind fun x14 =>
    (if x14.1 = true then
    some true
    else
    some x13.1).bind fun s15 : Bool =>
  some (x14.2.1, x14.2.2, s15)
noncomputable def T_folded (marks : Int) (rows : (List (Int × Int × Int × Int))) (start : (List (Int × Int))) : Option ((List Int) × (List (Int × Int × Int))) :=
  (lrgT marks).bind fun x1 =>
  (forO T_folded_b1 start x1).bind fun s2 : (List Int) =>
  (whO (T_folded_t2 rows) (T_folded_b2 rows) (s2, ([] : (List (Int × Int × Int))), true)).bind fun s10 : ((List Int) × (List (Int × Int × Int)) × Bool) =>
  some (s10.1, s10.2.1)
theorem ts_folded (marks : Int) (rows : (List (Int × Int × Int × Int))) (start : (List (Int × Int))) : Sm (RoV (e2 (eL D.int) (eL (e3 D.int D.int D.int))) (fun _ _ => True)) (T_folded marks rows start) (g_folded [(D.int marks), ((eL (e4 D.int D.int D.int D.int)) rows), ((eL (e2 D.int D.int)) start), .non, .non, .non, .non, .non]) := by
  unfold T_folded
  exact (sm_bind fun x1 h_x1 => (sn_set ((eL D.int) x1) [(D.int marks), ((eL (e4 D.int D.int D.int D.int)) rows), ((eL (e2 D.int D.int)) start), ((eL D.int) x1), .non, .non, .non, .non] (yi_un (yi_var rfl) (dListR_ok _ _ h_x1)) rfl (sn_forT (B := T_folded_b1) (s0 := x1) (fun x4 : (Int × Int) => [(D.int x4.1), (D.int x4.2)]) (fun (s2 : (List Int)) (δ3 : Nat → D) => [(D.int marks), ((eL (e4 D.int D.int D.int D.int)) rows), ((eL (e2 D.int D.int)) start), ((eL D.int) s2), (δ3 4), (δ3 5), .non, .non]) (fun (x4 : (Int × Int)) (s2 : (List Int)) (δ3 : Nat → D) => [(D.int marks), ((eL (e4 D.int D.int D.int D.int)) rows), ((eL (e2 D.int D.int)) start), ((eL D.int) s2), (D.int x4.1), (D.int x4.2), .non, .non]) (fun _ _ _ => rfl) (yi_var rfl) (by first | rfl | (simp [eL, List.map_set, List.map_append, List.map_map, Function.comp_def]; done) | (simp [eL, eO, List.map_set, List.map_append, List.map_map, Function.comp_def]; rfl)) (fun s2 x4 δ3 => (sm_bind fun x5 h_x5 => (sm_bind fun x6 h_x6 => (sm_end (sn_if (fun (s7 : (List Int)) (δ8 : Nat → D) => [(D.int marks), ((eL (e4 D.int D.int D.int D.int)) rows), ((eL (e2 D.int D.int)) start), ((eL D.int) s7), (D.int x4.1), (D.int x4.2), .non, .non]) (te_T (yi_op (x := (D.int x5)) (y := (D.int x6)) (yi_op (yi_var rfl) (yi_var rfl) (ixT_ok _ _ _ h_x5)) (yi_op (yi_var rfl) (yi_var rfl) (ixT_ok _ _ _ h_x6)) (Eqb.ne eqb_int (by decide) x5 x6))) (sm_bind fun x9 h_x9 => (sm_end (sn_dropE [(D.int marks), ((eL (e4 D.int D.int D.int D.int)) rows), ((eL (e2 D.int D.int)) start), ((eL D.int) x9.2), (D.int x4.1), (D.int x4.2), .non, .non] (ye_callN [(D.int marks), ((eL (e4 D.int D.int D.int D.int)) rows), ((eL (e2 D.int D.int)) start), ((eL D.int) x9.2), (D.int x4.1), (D.int x4.2), .non, .non] (ya_cons (x := ((eL D.int) s2)) (pt_var rfl).val (ya_cons (x := (D.int x4.1)) (yi_var rfl) (ya_cons (x := (D.int x4.2)) (yi_var rfl) ya_nil))) (tf_join _ _ _ h_x9) (fun e h => (up_s rfl h (up_n (up_n (show updL [] _ _ _ _ = _ from congrArg some (by first | rfl | (simp [eL, List.map_set, List.map_append, List.map_map, Function.comp_def]; done) | (simp [eL, eO, List.map_set, List.map_append, List.map_map, Function.comp_def]; rfl)))))))) (sn_fall _ (by first | rfl | (simp [eL, List.map_set, List.map_append, List.map_map, Function.comp_def]; done) | (simp [eL, eO, List.map_set, List.map_append, List.map_map, Function.comp_def]; rfl)))))) (sn_fall _ (by first | rfl | (simp [eL, List.map_set, List.map_append, List.map_map, Function.comp_def]; done) | (simp [eL, eO, List.map_set, List.map_append, List.map_map, Function.comp_def]; rfl))) (fun s7 δ8 => (sn_fall _ (by first | rfl | (simp [eL, List.map_set, List.map_append, List.map_map, Function.comp_def]; done) | (simp [eL, eO, List.map_set, List.map_append, List.map_map, Function.comp_def]; rfl))))))))) (fun s2 δ3 => (sn_set ((eL (e3 D.int D.int D.int)) ([] : (List (Int × Int × Int)))) [(D.int marks), ((eL (e4 D.int D.int D.int D.int)) rows), ((eL (e2 D.int D.int)) start), ((eL D.int) s2), (δ3 4), (δ3 5), ((eL (e3 D.int D.int D.int)) ([] : (List (Int × Int × Int)))), .non] (yi_lst ya_nil) rfl (sn_set (D.bl true) [(D.int marks), ((eL (e4 D.int D.int D.int D.int)) rows), ((eL (e2 D.int D.int)) start), ((eL D.int) s2), (δ3 4), (δ3 5), ((eL (e3 D.int D.int D.int)) ([] : (List (Int × Int × Int)))), (D.bl true)] yi_c rfl (sn_while (tt := T_folded_t2 rows) (B := T_folded_b2 rows) (s0 := (s2, ([] : (List (Int × Int × Int))), true)) (fun (s10 : ((List Int) × (List (Int × Int × Int)) × Bool)) (δ11 : Nat → D) => [(D.int marks), ((eL (e4 D.int D.int D.int D.int)) rows), ((eL (e2 D.int D.int)) start), ((eL D.int) s10.1), (δ3 4), (δ3 5), ((eL (e3 D.int D.int D.int)) s10.2.1), (D.bl s10.2.2)]) (by first | rfl | (simp [eL, List.map_set, List.map_append, List.map_map, Function.comp_def]; done) | (simp [eL, eO, List.map_set, List.map_append, List.map_map, Function.comp_def]; rfl)) (fun s10 δ11 => (fun r12 h_r12 => (te_nm h_r12 (te_T (yi_var rfl))))) (fun s10 δ11 => (sm_bind fun x13 h_x13 => (sn_setE [(D.int marks), ((eL (e4 D.int D.int D.int D.int)) rows), ((eL (e2 D.int D.int)) start), ((eL D.int) x13.2.1), (δ3 4), (δ3 5), ((eL (e3 D.int D.int D.int)) x13.2.2), (D.bl s10.2.2)] [(D.int marks), ((eL (e4 D.int D.int D.int D.int)) rows), ((eL (e2 D.int D.int)) start), ((eL D.int) x13.2.1), (δ3 4), (δ3 5), ((eL (e3 D.int D.int D.int)) x13.2.2), (D.bl x13.1)] (ye_callN [(D.int marks), ((eL (e4 D.int D.int D.int D.int)) rows), ((eL (e2 D.int D.int)) start), ((eL D.int) x13.2.1), (δ3 4), (δ3 5), ((eL (e3 D.int D.int D.int)) x13.2.2), (D.bl s10.2.2)] (ya_cons (x := ((eL D.int) s10.1)) (pt_var rfl).val (ya_cons (x := ((eL (e4 D.int D.int D.int D.int)) rows)) (yi_var rfl) (ya_cons (x := (D.int (1 : Int))) yi_c (ya_cons (x := ((eL (e3 D.int D.int D.int)) s10.2.1)) (pt_var rfl).val ya_nil)))) (tf_sweep _ _ _ _ h_x13) (fun e h => (up_s rfl h.1 (up_n (up_n (up_s rfl h.2 (show updL [] _ _ _ _ = _ from congrArg some (by first | rfl | (simp [eL, List.map_set, List.map_append, List.map_map, Function.comp_def]; done) | (simp [eL, eO, List.map_set, List.map_append, List.map_map, Function.comp_def]; rfl))))))))) rfl (sm_bind fun x14 h_x14 => (sm_end (sn_ifEq [(D.int marks), ((eL (e4 D.int D.int D.int D.int)) rows), ((eL (e2 D.int D.int)) start), ((eL D.int) x14.2.1), (δ3 4), (δ3 5), ((eL (e3 D.int D.int D.int)) x14.2.2), (D.bl x13.1)] (ye_callN [(D.int marks), ((eL (e4 D.int D.int D.int D.int)) rows), ((eL (e2 D.int D.int)) start), ((eL D.int) x14.2.1), (δ3 4), (δ3 5), ((eL (e3 D.int D.int D.int)) x14.2.2), (D.bl x13.1)] (ya_cons (x := ((eL D.int) x13.2.1)) (pt_var rfl).val (ya_cons (x := ((eL (e4 D.int D.int D.int D.int)) rows)) (yi_var rfl) (ya_cons (x := (D.int (-(1 : Int)))) (yi_un yi_c rfl) (ya_cons (x := ((eL (e3 D.int D.int D.int)) x13.2.2)) (pt_var rfl).val ya_nil)))) (tf_sweep _ _ _ _ h_x14) (fun e h => (up_s rfl h.1 (up_n (up_n (up_s rfl h.2 (show updL [] _ _ _ _ = _ from congrArg some (by first | rfl | (simp [eL, List.map_set, List.map_append, List.map_map, Function.comp_def]; done) | (simp [eL, eO, List.map_set, List.map_append, List.map_map, Function.comp_def]; rfl))))))))) (sn_if (fun (s15 : Bool) (δ16 : Nat → D) => [(D.int marks), ((eL (e4 D.int D.int D.int D.int)) rows), ((eL (e2 D.int D.int)) start), ((eL D.int) x14.2.1), (δ3 4), (δ3 5), ((eL (e3 D.int D.int D.int)) x14.2.2), (D.bl s15)]) rfl (sm_end (sn_set (D.bl true) [(D.int marks), ((eL (e4 D.int D.int D.int D.int)) rows), ((eL (e2 D.int D.int)) start), ((eL D.int) x14.2.1), (δ3 4), (δ3 5), ((eL (e3 D.int D.int D.int)) x14.2.2), (D.bl true)] yi_c rfl (sn_fall _ (by first | rfl | (simp [eL, List.map_set, List.map_append, List.map_map, Function.comp_def]; done) | (simp [eL, eO, List.map_set, List.map_append, List.map_map, Function.comp_def]; rfl))))) (sn_fall _ (by first | rfl | (simp [eL, List.map_set, List.map_append, List.map_map, Function.comp_def]; done) | (simp [eL, eO, List.map_set, List.map_append, List.map_map, Function.comp_def]; rfl))) (fun s15 δ16 => (sn_fall _ (by first | rfl | (simp [eL, List.map_set, List.map_append, List.map_map, Function.comp_def]; done) | (simp [eL, eO, List.map_set, List.map_append, List.map_map, Function.comp_def]; rfl))))))))))) (fun s10 δ11 => (sn_ret ((e2 (eL D.int) (eL (e3 D.int D.int D.int))) (s10.1, s10.2.1)) (yi_tup (ds := [((eL D.int) s10.1), ((eL (e3 D.int D.int D.int)) s10.2.1)]) (ya_cons (x := ((eL D.int) s10.1)) (yi_var rfl) (ya_cons (x := ((eL (e3 D.int D.int D.int)) s10.2.1)) (yi_var rfl) ya_nil)) (show 2 ≤ 100 from by decide)) (rv trivial))))))))))
theorem tf_folded (marks : Int) (rows : (List (Int × Int × Int × Int))) (start : (List (Int × Int))) {r : ((List Int) × (List (Int × Int × Int)))} (h : T_folded marks rows start = some r) : FnP (G_folded [(D.int marks), ((eL (e4 D.int D.int D.int D.int)) rows), ((eL (e2 D.int D.int)) start)]) ((e2 (eL D.int) (eL (e3 D.int D.int D.int))) r) ((fun _ _ => True) r) := fnV (er := (e2 (eL D.int) (eL (e3 D.int D.int D.int)))) (P := (fun _ _ => True)) (ts_folded marks rows start) h
noncomputable def T_Survey_labels_now (self : S_Survey) : Option (List Int) :=
  (T_Survey_rows_now self).bind fun x1 =>
  (T_folded self.many x1 ([] : (List (Int × Int)))).bind fun x2 =>
  some x2.1
theorem ts_Survey_labels_now (self : S_Survey) : Sm (RoV (eL D.int) (fun _ _ => True)) (T_Survey_labels_now self) (g_Survey_labels_now [(em_Survey self)]) := by
  unfold T_Survey_labels_now
  exact (sm_bind fun x1 h_x1 => (sm_bind fun x2 h_x2 => (sn_ret ((eL D.int) x2.1) (yi_op (yi_fnN (ya_cons (x := (D.int self.many)) (yi_un (yi_var rfl) (fl_Survey_many _)) (ya_cons (x := ((eL (e4 D.int D.int D.int D.int)) x1)) (yi_meN (x := (em_Survey self)) (yi_var rfl) (io_Survey_rows_now _) ya_nil (tf_Survey_rows_now _ h_x1)) (ya_cons (x := ((eL (e2 D.int D.int)) ([] : (List (Int × Int))))) (yi_lst ya_nil) ya_nil))) (tf_folded _ _ _ h_x2)) yi_c rfl) (rv trivial))))
theorem tf_Survey_labels_now (self : S_Survey) {r : (List Int)} (h : T_Survey_labels_now self = some r) : FnP (G_Survey_labels_now [(em_Survey self)]) ((eL D.int) r) ((fun _ _ => True) r) := fnV (er := (eL D.int)) (P := (fun _ _ => True)) (ts_Survey_labels_now self) h
noncomputable def T_Survey_same (self : S_Survey) (a : Int) (b : Int) : Option (Except String Bool × Unit) :=
  (T_Survey_need_marks self a b).bind fun x1 =>
  caseE x1.1 (fun c_v2 => some (.error c_v2, ())) fun v2 =>
  (T_Survey_labels_now self).bind fun x3 =>
  (ixT x3 a).bind fun x4 =>
  (ixT x3 b).bind fun x5 =>
  some (.ok (decide (x4 = x5)), ())
theorem ts_Survey_same (self : S_Survey) (a : Int) (b : Int) : Sm (RoE D.bl (fun (r : Bool) (l : Unit) (e : List D) => True) (fun (l : Unit) (e : List D) => True)) (T_Survey_same self a b) (g_Survey_same [(em_Survey self), (D.int a), (D.int b), .non]) := by
  unfold T_Survey_same
  exact (sm_bind fun x1 h_x1 => (sm_case (fun c_v2 h_v2 => (sx_drop (yx_me (x := (em_Survey self)) (yi_var rfl) (io_Survey_need_marks _) (ya_cons (x := (D.int a)) (yi_var rfl) (ya_cons (x := (D.int b)) (yi_var rfl) ya_nil)) ((tf_Survey_need_marks _ _ _ h_x1).2 c_v2 h_v2)) (re_ex trivial))) (fun v2 h_v2 => (sn_drop (yi_me (x := (em_Survey self)) (yi_var rfl) (io_Survey_need_marks _) (ya_cons (x := (D.int a)) (yi_var rfl) (ya_cons (x := (D.int b)) (yi_var rfl) ya_nil)) ((tf_Survey_need_marks _ _ _ h_x1).1 v2 h_v2)) (sm_bind fun x3 h_x3 => (sn_set ((eL D.int) x3) [(em_Survey self), (D.int a), (D.int b), ((eL D.int) x3)] (yi_meN (x := (em_Survey self)) (yi_var rfl) (io_Survey_labels_now _) ya_nil (tf_Survey_labels_now _ h_x3)) rfl (sm_bind fun x4 h_x4 => (sm_bind fun x5 h_x5 => (sn_ret (D.bl (decide (x4 = x5))) (yi_op (x := (D.int x4)) (y := (D.int x5)) (yi_op (yi_var rfl) (yi_var rfl) (ixT_ok _ _ _ h_x4)) (yi_op (yi_var rfl) (yi_var rfl) (ixT_ok _ _ _ h_x5)) (Eqb.eq eqb_int (by decide) x4 x5)) (re_ok trivial))))))))))
theorem tf_Survey_same (self : S_Survey) (a : Int) (b : Int) {r : Except String Bool × Unit} (h : T_Survey_same self a b = some r) : (∀ v, r.1 = .ok v → FnP (G_Survey_same [(em_Survey self), (D.int a), (D.int b)]) (D.bl v) ((fun (r : Bool) (l : Unit) (e : List D) => True) v r.2)) ∧ ∀ c, r.1 = .error c → FnX (G_Survey_same [(em_Survey self), (D.int a), (D.int b)]) c ((fun (l : Unit) (e : List D) => True) r.2) := fnE (er := D.bl) (P := (fun (r : Bool) (l : Unit) (e : List D) => True)) (Q := (fun (l : Unit) (e : List D) => True)) (ts_Survey_same self a b) h (Or.inl rfl)
noncomputable def T_Survey_enter (self : S_Survey) (deed : Str) (things : D) : Option (Int × S_Survey) :=
  (dAdd ((e2 D.int D.str) (self.coming, deed)) things).bind fun x1 =>
  (appT self.kept x1).bind fun x2 =>
  some (self.coming, { { self with kept := x2 } with coming := (self.coming + (1 : Int)) })
theorem ts_Survey_enter (self : S_Survey) (deed : Str) (things : D) : Sm (RoV (fun r : Int × S_Survey => (D.int r.1)) (fun (r : Int × S_Survey) (e : List D) => e[0]? = some (em_Survey r.2))) (T_Survey_enter self deed things) (g_Survey_enter [(em_Survey self), (D.str deed), things, .non]) := by
  unfold T_Survey_enter
  exact (sn_set (D.int self.coming) [(em_Survey self), (D.str deed), things, (D.int self.coming)] (yi_un (yi_var rfl) (fl_Survey_coming _)) rfl (sm_bind fun x1 h_x1 => (sm_bind fun x2 h_x2 => (sn_app (e := (id : D → D)) (v := x1) [(em_Survey ({ self with kept := x2 })), (D.str deed), things, (D.int self.coming)] (pt_fld (pt_var rfl) (fl_Survey_kept _)) (yi_op (x := ((e2 D.int D.str) (self.coming, deed))) (y := things) (yi_tup (ds := [(D.int self.coming), (D.str deed)]) (ya_cons (x := (D.int self.coming)) (yi_var rfl) (ya_cons (x := (D.str deed)) (yi_imm (yi_var rfl) (im_str _)) ya_nil)) (show 2 ≤ 100 from by decide)) (yi_var rfl) h_x1) h_x2 (by first | rfl | (simp [eL, List.map_set, List.map_append, List.map_map, Function.comp_def]; done) | (simp [eL, eO, List.map_set, List.map_append, List.map_map, Function.comp_def]; rfl)) (sn_fld (x := (D.int (self.coming + (1 : Int)))) [(em_Survey ({ { self with kept := x2 } with coming := (self.coming + (1 : Int)) })), (D.str deed), things, (D.int self.coming)] (yi_op (yi_var rfl) yi_c rfl) (pt_var rfl) (show 5 < 900 from by decide) (by first | rfl | (simp [eL, List.map_set, List.map_append, List.map_map, Function.comp_def]; done) | (simp [eL, eO, List.map_set, List.map_append, List.map_map, Function.comp_def]; rfl)) (sn_ret (D.int self.coming) (yi_var rfl) (rv (by exact rfl))))))))
theorem tf_Survey_enter (self : S_Survey) (deed : Str) (things : D) {r : Int × S_Survey} (h : T_Survey_enter self deed things = some r) : FnP (G_Survey_enter [(em_Survey self), (D.str deed), things]) ((fun r : Int × S_Survey => (D.int r.1)) r) ((fun (r : Int × S_Survey) (e : List D) => e[0]? = some (em_Survey r.2)) r) := fnV (er := (fun r : Int × S_Survey => (D.int r.1))) (P := (fun (r : Int × S_Survey) (e : List D) => e[0]? = some (em_Survey r.2))) (ts_Survey_enter self deed things) h
noncomputable def T_Survey_apart (self : S_Survey) (a : Int) (b : Int) : Option (Except String Int × S_Survey) :=
  (T_Survey_need_marks self a b).bind fun x1 =>
  caseE x1.1 (fun c_v2 => some (.error c_v2, self)) fun v2 =>
  (T_Survey_need_room self).bind fun x3 =>
  caseE x3.1 (fun c_v4 => some (.error c_v4, self)) fun v4 =>
  (T_Survey_same self a b).bind fun x5 =>
    caseE x5.1 (fun c_v6 => some (.error c_v6, self)) fun v6 =>
    if v6 = true then
    some (.error "Barred", self)
  else
  (T_Survey_enter self ("apart" : Str) ((e2 D.int D.int) (a, b))).bind fun x7 =>
  some (.ok x7.1, x7.2)
theorem ts_Survey_apart (self : S_Survey) (a : Int) (b : Int) : Sm (RoE D.int (fun (r : Int) (l : S_Survey) (e : List D) => e[0]? = some (em_Survey l)) (fun (l : S_Survey) (e : List D) => e[0]? = some (em_Survey l))) (T_Survey_apart self a b) (g_Survey_apart [(em_Survey self), (D.int a), (D.int b)]) := by
  unfold T_Survey_apart
  exact (sm_bind fun x1 h_x1 => (sm_case (fun c_v2 h_v2 => (sx_drop (yx_me (x := (em_Survey self)) (yi_var rfl) (io_Survey_need_marks _) (ya_cons (x := (D.int a)) (yi_var rfl) (ya_cons (x := (D.int b)) (yi_var rfl) ya_nil)) ((tf_Survey_need_marks _ _ _ h_x1).2 c_v2 h_v2)) (re_ex (by exact rfl)))) (fun v2 h_v2 => (sn_drop (yi_me (x := (em_Survey self)) (yi_var rfl) (io_Survey_need_marks _) (ya_cons (x := (D.int a)) (yi_var rfl) (ya_cons (x := (D.int b)) (yi_var rfl) ya_nil)) ((tf_Survey_need_marks _ _ _ h_x1).1 v2 h_v2)) (sm_bind fun x3 h_x3 => (sm_case (fun c_v4 h_v4 => (sx_drop (yx_me (x := (em_Survey self)) (yi_var rfl) (io_Survey_need_room _) ya_nil ((tf_Survey_need_room _ h_x3).2 c_v4 h_v4)) (re_ex (by exact rfl)))) (fun v4 h_v4 => (sn_drop (yi_me (x := (em_Survey self)) (yi_var rfl) (io_Survey_need_room _) ya_nil ((tf_Survey_need_room _ h_x3).1 v4 h_v4)) (sm_bind fun x5 h_x5 => (sm_case (fun c_v6 h_v6 => (sx_if (yx_T (yx_me (x := (em_Survey self)) (yi_var rfl) (io_Survey_same _) (ya_cons (x := (D.int a)) (yi_var rfl) (ya_cons (x := (D.int b)) (yi_var rfl) ya_nil)) ((tf_Survey_same _ _ _ h_x5).2 c_v6 h_v6))) (re_ex (by exact rfl)))) (fun v6 h_v6 => (sn_ifA (te_T (yi_me (x := (em_Survey self)) (yi_var rfl) (io_Survey_same _) (ya_cons (x := (D.int a)) (yi_var rfl) (ya_cons (x := (D.int b)) (yi_var rfl) ya_nil)) ((tf_Survey_same _ _ _ h_x5).1 v6 h_v6))) (sx_raise (rx_in (re_ex (by exact rfl)) rfl)) (sn_skip (sm_bind fun x7 h_x7 => (sn_retE (D.int x7.1) [(em_Survey x7.2), (D.int a), (D.int b)] (ye_meN (x := (em_Survey self)) [(em_Survey x7.2), (D.int a), (D.int b)] (pt_var rfl).val (io_Survey_enter _) (ya_cons (x := (D.str ("apart" : Str))) yi_c (ya_cons (x := ((e2 D.int D.int) (a, b))) (yi_tup (ds := [(D.int a), (D.int b)]) (ya_cons (x := (D.int a)) (yi_imm (yi_var rfl) (im_int _)) (ya_cons (x := (D.int b)) (yi_imm (yi_var rfl) (im_int _)) ya_nil)) (show 2 ≤ 100 from by decide)) ya_nil)) (tf_Survey_enter _ _ _ h_x7) (fun e h => (up_s rfl h (up_n (up_n (show updL [] _ _ _ _ = _ from congrArg some (by first | rfl | (simp [eL, List.map_set, List.map_append, List.map_map, Function.comp_def]; done) | (simp [eL, eO, List.map_set, List.map_append, List.map_map, Function.comp_def]; rfl)))))))) (re_ok (by exact rfl)))))))))))))))))
theorem tf_Survey_apart (self : S_Survey) (a : Int) (b : Int) {r : Except String Int × S_Survey} (h : T_Survey_apart self a b = some r) : (∀ v, r.1 = .ok v → FnP (G_Survey_apart [(em_Survey self), (D.int a), (D.int b)]) (D.int v) ((fun (r : Int) (l : S_Survey) (e : List D) => e[0]? = some (em_Survey l)) v r.2)) ∧ ∀ c, r.1 = .error c → FnX (G_Survey_apart [(em_Survey self), (D.int a), (D.int b)]) c ((fun (l : S_Survey) (e : List D) => e[0]? = some (em_Survey l)) r.2) := fnE (er := D.int) (P := (fun (r : Int) (l : S_Survey) (e : List D) => e[0]? = some (em_Survey l))) (Q := (fun (l : S_Survey) (e : List D) => e[0]? = some (em_Survey l))) (ts_Survey_apart self a b) h (Or.inl rfl)
theorem tn_Survey_apart (self : S_Survey) (a : Int) (b : Int) {r : Int × S_Survey} (h : (T_Survey_apart self a b).bind okLT = some r) : FnP (G_Survey_apart [(em_Survey self), (D.int a), (D.int b)]) (D.int r.1) ((fun (r : Int) (l : S_Survey) (e : List D) => e[0]? = some (em_Survey l)) r.1 r.2) := by
  obtain ⟨x, h1, h2, h3⟩ := okLT_of h
  have := (tf_Survey_apart self a b h1).1 _ h2
  rw [h3] at this
  exact this
noncomputable def T_lettered_b1 (kinds : Int) (s1 : Unit) (letter : Int) : Option (Unit ⊕ Bool) :=
  if ((decide (letter = (0 : Int))) || (decide (kinds < (if letter < 0 then -letter else letter)))) = true then
    some (.inr false)
  else
  some (.inl ())
noncomputable def T_lettered (way : (List Int)) (kinds : Int) : Option Bool :=
  thenC (forC (T_lettered_b1 kinds) way ()) fun s1 : Unit =>
  some true
theorem ts_lettered (way : (List Int)) (kinds : Int) : Sm (RoV D.bl (fun _ _ => True)) (T_lettered way kinds) (g_lettered [((eL D.int) way), (D.int kinds), .non]) := by
  unfold T_lettered
  exact (sn_forC (e := D.int) (B := T_lettered_b1 kinds) (s0 := ()) (fun (s1 : Unit) (δ2 : Nat → D) => [((eL D.int) way), (D.int kinds), (δ2 2)]) (sr_list (yi_var rfl)) (by first | rfl | (simp [eL, List.map_set, List.map_append, List.map_map, Function.comp_def]; done) | (simp [eL, eO, List.map_set, List.map_append, List.map_map, Function.comp_def]; rfl)) (fun s1 letter δ2 => sm_env (env' := [((eL D.int) way), (D.int kinds), (D.int letter)]) rfl (sm_end (sn_ifA (te_or (te_T (yi_op (x := (D.int letter)) (y := (D.int (0 : Int))) (yi_var rfl) yi_c (Eqb.eq eqb_int (by decide) letter (0 : Int)))) (te_T (yi_op (yi_call (ya_cons (x := (D.int letter)) (yi_var rfl) ya_nil) rfl) (yi_var rfl) rfl))) (sn_ret (D.bl false) yi_c (rx_in (rc_in (rv trivial) rfl) rfl)) (sn_skip (sn_fallC _ (by first | rfl | (simp [eL, List.map_set, List.map_append, List.map_map, Function.comp_def]; done) | (simp [eL, eO, List.map_set, List.map_append, List.map_map, Function.comp_def]; rfl))))))) (fun s1 δ2 => (sn_ret (D.bl true) yi_c (rv trivial))))
theorem tf_lettered (way : (List Int)) (kinds : Int) {r : Bool} (h : T_lettered way kinds = some r) : FnP (G_lettered [((eL D.int) way), (D.int kinds)]) (D.bl r) ((fun _ _ => True) r) := fnV (er := D.bl) (P := (fun _ _ => True)) (ts_lettered way kinds) h
noncomputable def T_Survey_need_way (self : S_Survey) (a : Int) (way : (List Int)) (b : Int) : Option (Except String Unit × Unit) :=
  (T_Survey_need_marks self a b).bind fun x1 =>
  caseE x1.1 (fun c_v2 => some (.error c_v2, ())) fun v2 =>
  (T_lettered way self.kinds).bind fun x3 =>
    if (!x3) = true then
    some (.error "NoKind", ())
  else
  some (.ok (), ())
theorem ts_Survey_need_way (self : S_Survey) (a : Int) (way : (List Int)) (b : Int) : Sm (RoE eU (fun (r : Unit) (l : Unit) (e : List D) => True) (fun (l : Unit) (e : List D) => True)) (T_Survey_need_way self a way b) (g_Survey_need_way [(em_Survey self), (D.int a), ((eL D.int) way), (D.int b)]) := by
  unfold T_Survey_need_way
  exact (sm_bind fun x1 h_x1 => (sm_case (fun c_v2 h_v2 => (sx_drop (yx_me (x := (em_Survey self)) (yi_var rfl) (io_Survey_need_marks _) (ya_cons (x := (D.int a)) (yi_var rfl) (ya_cons (x := (D.int b)) (yi_var rfl) ya_nil)) ((tf_Survey_need_marks _ _ _ h_x1).2 c_v2 h_v2)) (re_ex trivial))) (fun v2 h_v2 => (sn_drop (yi_me (x := (em_Survey self)) (yi_var rfl) (io_Survey_need_marks _) (ya_cons (x := (D.int a)) (yi_var rfl) (ya_cons (x := (D.int b)) (yi_var rfl) ya_nil)) ((tf_Survey_need_marks _ _ _ h_x1).1 v2 h_v2)) (sm_bind fun x3 h_x3 => (sm_end (sn_ifA (te_not (te_T (yi_fnN (ya_cons (x := ((eL D.int) way)) (yi_var rfl) (ya_cons (x := (D.int self.kinds)) (yi_un (yi_var rfl) (fl_Survey_kinds _)) ya_nil)) (tf_lettered _ _ h_x3)))) (sx_raise (rx_in (re_ex trivial) rfl)) (sn_skip (sm_next (re_end rfl trivial))))))))))
theorem tf_Survey_need_way (self : S_Survey) (a : Int) (way : (List Int)) (b : Int) {r : Except String Unit × Unit} (h : T_Survey_need_way self a way b = some r) : (∀ v, r.1 = .ok v → FnP (G_Survey_need_way [(em_Survey self), (D.int a), ((eL D.int) way), (D.int b)]) (eU v) ((fun (r : Unit) (l : Unit) (e : List D) => True) v r.2)) ∧ ∀ c, r.1 = .error c → FnX (G_Survey_need_way [(em_Survey self), (D.int a), ((eL D.int) way), (D.int b)]) c ((fun (l : Unit) (e : List D) => True) r.2) := fnE (er := eU) (P := (fun (r : Unit) (l : Unit) (e : List D) => True)) (Q := (fun (l : Unit) (e : List D) => True)) (ts_Survey_need_way self a way b) h (Or.inl rfl)
noncomputable def T_trail_b1 (first : Int) (way : (List Int)) (s2 : ((List (Int × Int × Int × Int)) × Int)) (at' : Int) : Option ((List (Int × Int × Int × Int)) × Int) :=
  (ixT way at').bind fun x4 =>
    (if (decide ((0 : Int) < x4)) = true then
    (ixT way at').bind fun x7 =>
    (appT s2.1 (((-(1 : Int)) - at'), s2.2, x7, (first + at'))).bind fun x8 =>
    some x8
    else
    (ixT way at').bind fun x9 =>
    (appT s2.1 (((-(1 : Int)) - at'), (first + at'), (-x9), s2.2)).bind fun x10 =>
    some x10).bind fun s5 : (List (Int × Int × Int × Int)) =>
  some (s5, (first + at'))
noncomputable def T_trail (first : Int) (a : Int) (way : (List Int)) : Option ((List (Int × Int × Int × Int)) × Int) :=
  (rg1T (way.length : Int)).bind fun x1 =>
  (forO (T_trail_b1 first way) x1 (([] : (List (Int × Int × Int × Int))), a)).bind fun s2 : ((List (Int × Int × Int × Int)) × Int) =>
  some (s2.1, s2.2)
theorem ts_trail (first : Int) (a : Int) (way : (List Int)) : Sm (RoV (e2 (eL (e4 D.int D.int D.int D.int)) D.int) (fun _ _ => True)) (T_trail first a way) (g_trail [(D.int first), (D.int a), ((eL D.int) way), .non, .non, .non, .non]) := by
  unfold T_trail
  exact (sn_set ((eL (e4 D.int D.int D.int D.int)) ([] : (List (Int × Int × Int × Int)))) [(D.int first), (D.int a), ((eL D.int) way), ((eL (e4 D.int D.int D.int D.int)) ([] : (List (Int × Int × Int × Int)))), .non, .non, .non] (yi_lst ya_nil) rfl (sn_set (D.int a) [(D.int first), (D.int a), ((eL D.int) way), ((eL (e4 D.int D.int D.int D.int)) ([] : (List (Int × Int × Int × Int)))), (D.int a), .non, .non] (yi_imm (yi_var rfl) (im_int _)) rfl (sm_bind fun x1 h_x1 => (sn_for (e := D.int) (B := T_trail_b1 first way) (s0 := (([] : (List (Int × Int × Int × Int))), a)) (fun (s2 : ((List (Int × Int × Int × Int)) × Int)) (δ3 : Nat → D) => [(D.int first), (D.int a), ((eL D.int) way), ((eL (e4 D.int D.int D.int D.int)) s2.1), (D.int s2.2), (δ3 5), (δ3 6)]) (sr_r1 (yi_call (ya_cons (yi_var rfl) ya_nil) (dLen_L _)) h_x1) (by first | rfl | (simp [eL, List.map_set, List.map_append, List.map_map, Function.comp_def]; done) | (simp [eL, eO, List.map_set, List.map_append, List.map_map, Function.comp_def]; rfl)) (fun s2 at' δ3 => sm_env (env' := [(D.int first), (D.int a), ((eL D.int) way), ((eL (e4 D.int D.int D.int D.int)) s2.1), (D.int s2.2), (D.int at'), (δ3 6)]) rfl (sn_set (D.int (first + at')) [(D.int first), (D.int a), ((eL D.int) way), ((eL (e4 D.int D.int D.int D.int)) s2.1), (D.int s2.2), (D.int at'), (D.int (first + at'))] (yi_op (yi_var rfl) (yi_var rfl) rfl) rfl (sm_bind fun x4 h_x4 => (sn_if (fun (s5 : (List (Int × Int × Int × Int))) (δ6 : Nat → D) => [(D.int first), (D.int a), ((eL D.int) way), ((eL (e4 D.int D.int D.int D.int)) s5), (D.int s2.2), (D.int at'), (D.int (first + at'))]) (te_T (yi_op (yi_op (yi_var rfl) (yi_var rfl) (ixT_ok _ _ _ h_x4)) yi_c rfl)) (sm_bind fun x7 h_x7 => (sm_bind fun x8 h_x8 => (sm_end (sn_app (e := (e4 D.int D.int D.int D.int)) (v := (((-(1 : Int)) - at'), s2.2, x7, (first + at'))) [(D.int first), (D.int a), ((eL D.int) way), ((eL (e4 D.int D.int D.int D.int)) x8), (D.int s2.2), (D.int at'), (D.int (first + at'))] (pt_var rfl) (yi_tup (ds := [(D.int ((-(1 : Int)) - at')), (D.int s2.2), (D.int x7), (D.int (first + at'))]) (ya_cons (x := (D.int ((-(1 : Int)) - at'))) (yi_op (yi_un yi_c rfl) (yi_var rfl) rfl) (ya_cons (x := (D.int s2.2)) (yi_var rfl) (ya_cons (x := (D.int x7)) (yi_imm (yi_op (yi_var rfl) (yi_var rfl) (ixT_ok _ _ _ h_x7)) (im_int _)) (ya_cons (x := (D.int (first + at'))) (yi_var rfl) ya_nil)))) (show 4 ≤ 100 from by decide)) h_x8 (by first | rfl | (simp [eL, List.map_set, List.map_append, List.map_map, Function.comp_def]; done) | (simp [eL, eO, List.map_set, List.map_append, List.map_map, Function.comp_def]; rfl)) (sn_fall _ (by first | rfl | (simp [eL, List.map_set, List.map_append, List.map_map, Function.comp_def]; done) | (simp [eL, eO, List.map_set, List.map_append, List.map_map, Function.comp_def]; rfl))))))) (sm_bind fun x9 h_x9 => (sm_bind fun x10 h_x10 => (sm_end (sn_app (e := (e4 D.int D.int D.int D.int)) (v := (((-(1 : Int)) - at'), (first + at'), (-x9), s2.2)) [(D.int first), (D.int a), ((eL D.int) way), ((eL (e4 D.int D.int D.int D.int)) x10), (D.int s2.2), (D.int at'), (D.int (first + at'))] (pt_var rfl) (yi_tup (ds := [(D.int ((-(1 : Int)) - at')), (D.int (first + at')), (D.int (-x9)), (D.int s2.2)]) (ya_cons (x := (D.int ((-(1 : Int)) - at'))) (yi_op (yi_un yi_c rfl) (yi_var rfl) rfl) (ya_cons (x := (D.int (first + at'))) (yi_var rfl) (ya_cons (x := (D.int (-x9))) (yi_un (yi_op (yi_var rfl) (yi_var rfl) (ixT_ok _ _ _ h_x9)) rfl) (ya_cons (x := (D.int s2.2)) (yi_var rfl) ya_nil)))) (show 4 ≤ 100 from by decide)) h_x10 (by first | rfl | (simp [eL, List.map_set, List.map_append, List.map_map, Function.comp_def]; done) | (simp [eL, eO, List.map_set, List.map_append, List.map_map, Function.comp_def]; rfl)) (sn_fall _ (by first | rfl | (simp [eL, List.map_set, List.map_append, List.map_map, Function.comp_def]; done) | (simp [eL, eO, List.map_set, List.map_append, List.map_map, Function.comp_def]; rfl))))))) (fun s5 δ6 => (sm_end (sn_set (D.int (first + at')) [(D.int first), (D.int a), ((eL D.int) way), ((eL (e4 D.int D.int D.int D.int)) s5), (D.int (first + at')), (D.int at'), (D.int (first + at'))] (yi_var rfl) rfl (sn_fall _ (by first | rfl | (simp [eL, List.map_set, List.map_append, List.map_map, Function.comp_def]; done) | (simp [eL, eO, List.map_set, List.map_append, List.map_map, Function.comp_def]; rfl)))))))))) (fun s2 δ3 => (sn_ret ((e2 (eL (e4 D.int D.int D.int D.int)) D.int) (s2.1, s2.2)) (yi_tup (ds := [((eL (e4 D.int D.int D.int D.int)) s2.1), (D.int s2.2)]) (ya_cons (x := ((eL (e4 D.int D.int D.int D.int)) s2.1)) (yi_var rfl) (ya_cons (x := (D.int s2.2)) (yi_var rfl) ya_nil)) (show 2 ≤ 100 from by decide)) (rv trivial)))))))
theorem tf_trail (first : Int) (a : Int) (way : (List Int)) {r : ((List (Int × Int × Int × Int)) × Int)} (h : T_trail first a way = some r) : FnP (G_trail [(D.int first), (D.int a), ((eL D.int) way)]) ((e2 (eL (e4 D.int D.int D.int D.int)) D.int) r) ((fun _ _ => True) r) := fnV (er := (e2 (eL (e4 D.int D.int D.int D.int)) D.int)) (P := (fun _ _ => True)) (ts_trail first a way) h
noncomputable def T_Survey_broken_b1 (labels : (List Int)) (s1 : Unit) (entry : D) : Option (Unit ⊕ (Option Int)) :=
  (dIx entry (D.int (1 : Int))).bind fun x3 =>
    (toStrD x3).bind fun x4 =>
    (seqT x4 ("apart" : Str)).bind fun x5 =>
    (if x5 = true then ((dIx entry (D.int (2 : Int))).bind fun x6 => (toIntD x6).bind fun x7 => (ixT labels x7).bind fun x8 => (dIx entry (D.int (3 : Int))).bind fun x9 => (toIntD x9).bind fun x10 => (ixT labels x10).bind fun x11 => some (decide (x8 = x11))) else some false).bind fun x13 =>
    if x13 = true then
    (dIx entry (D.int (0 : Int))).bind fun x14 =>
    (toIntD x14).bind fun x15 =>
    some (.inr (some x15))
  else
  some (.inl ())
noncomputable def T_Survey_broken (self : S_Survey) (labels : (List Int)) : Option (Option Int) :=
  thenC (forC (T_Survey_broken_b1 labels) self.kept ()) fun s1 : Unit =>
  some (none : (Option Int))
theorem ts_Survey_broken (self : S_Survey) (labels : (List Int)) : Sm (RoV (eO D.int) (fun _ _ => True)) (T_Survey_broken self labels) (g_Survey_broken [(em_Survey self), ((eL D.int) labels), .non]) := by
  unfold T_Survey_broken
  exact (sn_forC (e := (id : D → D)) (B := T_Survey_broken_b1 labels) (s0 := ()) (fun (s1 : Unit) (δ2 : Nat → D) => [(em_Survey self), ((eL D.int) labels), (δ2 2)]) (sr_list (yi_un (yi_var rfl) (fl_Survey_kept _))) (by first | rfl | (simp [eL, List.map_set, List.map_append, List.map_map, Function.comp_def]; done) | (simp [eL, eO, List.map_set, List.map_append, List.map_map, Function.comp_def]; rfl)) (fun s1 entry δ2 => sm_env (env' := [(em_Survey self), ((eL D.int) labels), entry]) rfl (sm_bind fun x3 h_x3 => (sm_bind fun x4 h_x4 => (sm_bind fun x5 h_x5 => (sm_bind fun x13 h_x13 => (sm_end (sn_ifA (te_andB (te_T (yi_op (yi_cv (yi_op (x := entry) (y := (D.int (1 : Int))) (yi_var rfl) yi_c h_x3) (toStrD_ok _ _ h_x4).symm) yi_c (seqT_ok _ _ _ h_x5))) (fun r12 h_r12 => (bindE h_r12 fun x6 h_x6 h_r12_1 => (bindE h_r12_1 fun x7 h_x7 h_r12_2 => (bindE h_r12_2 fun x8 h_x8 h_r12_3 => (bindE h_r12_3 fun x9 h_x9 h_r12_4 => (bindE h_r12_4 fun x10 h_x10 h_r12_5 => (bindE h_r12_5 fun x11 h_x11 h_r12_6 => (te_nm h_r12_6 (te_T (yi_op (x := (D.int x8)) (y := (D.int x11)) (yi_op (yi_var rfl) (yi_cv (yi_op (x := entry) (y := (D.int (2 : Int))) (yi_var rfl) yi_c h_x6) (toIntD_ok _ _ h_x7).symm) (ixT_ok _ _ _ h_x8)) (yi_op (yi_var rfl) (yi_cv (yi_op (x := entry) (y := (D.int (3 : Int))) (yi_var rfl) yi_c h_x9) (toIntD_ok _ _ h_x10).symm) (ixT_ok _ _ _ h_x11)) (Eqb.eq eqb_int (by decide) x8 x11))))))))))) h_x13) (sm_bind fun x14 h_x14 => (sm_bind fun x15 h_x15 => (sn_ret ((eO D.int) (some x15)) (yi_imm (yi_cv (yi_op (x := entry) (y := (D.int (0 : Int))) (yi_var rfl) yi_c h_x14) (toIntD_ok _ _ h_x15).symm) (im_int _)) (rx_in (rc_in (rv trivial) rfl) rfl)))) (sn_skip (sn_fallC _ (by first | rfl | (simp [eL, List.map_set, List.map_append, List.map_map, Function.comp_def]; done) | (simp [eL, eO, List.map_set, List.map_append, List.map_map, Function.comp_def]; rfl))))))))))) (fun s1 δ2 => (sn_ret ((eO D.int) (none : (Option Int))) yi_c (rv trivial))))
theorem tf_Survey_broken (self : S_Survey) (labels : (List Int)) {r : (Option Int)} (h : T_Survey_broken self labels = some r) : FnP (G_Survey_broken [(em_Survey self), ((eL D.int) labels)]) ((eO D.int) r) ((fun _ _ => True) r) := fnV (er := (eO D.int)) (P := (fun _ _ => True)) (ts_Survey_broken self labels) h
noncomputable def T_Survey_never_paper (self : S_Survey) (a : Int) (way : (List Int)) (b : Int) : Option (Except String (Option (Int × (List (Int × Int × Int)))) × Unit) :=
  (T_Survey_need_way self a way b).bind fun x1 =>
  caseE x1.1 (fun c_v2 => some (.error c_v2, ())) fun v2 =>
  (T_trail self.many a way).bind fun x3 =>
  (T_Survey_rows_now self).bind fun x4 =>
  (addT x4 x3.1).bind fun x5 =>
  (T_folded (self.many + (way.length : Int)) x5 ([(x3.2, b)])).bind fun x6 =>
  (T_Survey_broken self x6.1).bind fun x7 =>
  if x7.isNone = true then
    some (.ok (none : (Option (Int × (List (Int × Int × Int))))), ())
  else
  (x7).bind fun x8 =>
  some (.ok (some (x8, x6.2)), ())
theorem ts_Survey_never_paper (self : S_Survey) (a : Int) (way : (List Int)) (b : Int) : Sm (RoE (eO (e2 D.int (eL (e3 D.int D.int D.int)))) (fun (r : (Option (Int × (List (Int × Int × Int))))) (l : Unit) (e : List D) => True) (fun (l : Unit) (e : List D) => True)) (T_Survey_never_paper self a way b) (g_Survey_never_paper [(em_Survey self), (D.int a), ((eL D.int) way), (D.int b), .non, .non, .non, .non, .non]) := by
  unfold T_Survey_never_paper
  exact (sm_bind fun x1 h_x1 => (sm_case (fun c_v2 h_v2 => (sx_drop (yx_me (x := (em_Survey self)) (yi_var rfl) (io_Survey_need_way _) (ya_cons (x := (D.int a)) (yi_var rfl) (ya_cons (x := ((eL D.int) way)) (yi_var rfl) (ya_cons (x := (D.int b)) (yi_var rfl) ya_nil))) ((tf_Survey_need_way _ _ _ _ h_x1).2 c_v2 h_v2)) (re_ex trivial))) (fun v2 h_v2 => (sn_drop (yi_me (x := (em_Survey self)) (yi_var rfl) (io_Survey_need_way _) (ya_cons (x := (D.int a)) (yi_var rfl) (ya_cons (x := ((eL D.int) way)) (yi_var rfl) (ya_cons (x := (D.int b)) (yi_var rfl) ya_nil))) ((tf_Survey_need_way _ _ _ _ h_x1).1 v2 h_v2)) (sm_bind fun x3 h_x3 => (sn_unp [(em_Survey self), (D.int a), ((eL D.int) way), (D.int b), ((eL (e4 D.int D.int D.int D.int)) x3.1), (D.int x3.2), .non, .non, .non] (yi_fnN (ya_cons (x := (D.int self.many)) (yi_un (yi_var rfl) (fl_Survey_many _)) (ya_cons (x := (D.int a)) (yi_var rfl) (ya_cons (x := ((eL D.int) way)) (yi_var rfl) ya_nil))) (tf_trail _ _ _ h_x3)) rfl (sm_bind fun x4 h_x4 => (sm_bind fun x5 h_x5 => (sm_bind fun x6 h_x6 => (sn_unp [(em_Survey self), (D.int a), ((eL D.int) way), (D.int b), ((eL (e4 D.int D.int D.int D.int)) x3.1), (D.int x3.2), ((eL D.int) x6.1), ((eL (e3 D.int D.int D.int)) x6.2), .non] (yi_fnN (ya_cons (x := (D.int (self.many + (way.length : Int)))) (yi_op (yi_un (yi_var rfl) (fl_Survey_many _)) (yi_call (ya_cons (yi_var rfl) ya_nil) (dLen_L _)) rfl) (ya_cons (x := ((eL (e4 D.int D.int D.int D.int)) x5)) (yi_op (x := ((eL (e4 D.int D.int D.int D.int)) x4)) (y := ((eL (e4 D.int D.int D.int D.int)) x3.1)) (yi_meN (x := (em_Survey self)) (yi_var rfl) (io_Survey_rows_now _) ya_nil (tf_Survey_rows_now _ h_x4)) (yi_var rfl) (addT_e (im_4 im_int im_int im_int im_int) h_x5)) (ya_cons (x := ((eL (e2 D.int D.int)) ([(x3.2, b)]))) (yi_lst (ds := [((e2 D.int D.int) (x3.2, b))]) (ya_cons (x := ((e2 D.int D.int) (x3.2, b))) (yi_tup (ds := [(D.int x3.2), (D.int b)]) (ya_cons (x := (D.int x3.2)) (yi_var rfl) (ya_cons (x := (D.int b)) (yi_imm (yi_var rfl) (im_int _)) ya_nil)) (show 2 ≤ 100 from by decide)) ya_nil) (show 1 ≤ 100 from by decide)) ya_nil))) (tf_folded _ _ _ h_x6)) rfl (sm_bind fun x7 h_x7 => (sn_set ((eO D.int) x7) [(em_Survey self), (D.int a), ((eL D.int) way), (D.int b), ((eL (e4 D.int D.int D.int D.int)) x3.1), (D.int x3.2), ((eL D.int) x6.1), ((eL (e3 D.int D.int D.int)) x6.2), ((eO D.int) x7)] (yi_meN (x := (em_Survey self)) (yi_var rfl) (io_Survey_broken _) (ya_cons (x := ((eL D.int) x6.1)) (yi_var rfl) ya_nil) (tf_Survey_broken _ _ h_x7)) rfl (sn_ifA (te_T (yi_op (yi_var rfl) yi_c (isN_ok (fun a => by first | rfl | (cases a; rfl)) x7 ()))) (sn_ret ((eO (e2 D.int (eL (e3 D.int D.int D.int)))) (none : (Option (Int × (List (Int × Int × Int)))))) yi_c (rx_in (re_ok trivial) rfl)) (sn_skip (sm_bind fun x8 h_x8 => (sn_ret ((eO (e2 D.int (eL (e3 D.int D.int D.int)))) (some (x8, x6.2))) (yi_tup (ds := [(D.int x8), ((eL (e3 D.int D.int D.int)) x6.2)]) (ya_cons (x := (D.int x8)) (yi_get (e := D.int) h_x8 (yi_var rfl)) (ya_cons (x := ((eL (e3 D.int D.int D.int)) x6.2)) (yi_var rfl) ya_nil)) (show 2 ≤ 100 from by decide)) (re_ok trivial)))))))))))))))))
theorem tf_Survey_never_paper (self : S_Survey) (a : Int) (way : (List Int)) (b : Int) {r : Except String (Option (Int × (List (Int × Int × Int)))) × Unit} (h : T_Survey_never_paper self a way b = some r) : (∀ v, r.1 = .ok v → FnP (G_Survey_never_paper [(em_Survey self), (D.int a), ((eL D.int) way), (D.int b)]) ((eO (e2 D.int (eL (e3 D.int D.int D.int)))) v) ((fun (r : (Option (Int × (List (Int × Int × Int))))) (l : Unit) (e : List D) => True) v r.2)) ∧ ∀ c, r.1 = .error c → FnX (G_Survey_never_paper [(em_Survey self), (D.int a), ((eL D.int) way), (D.int b)]) c ((fun (l : Unit) (e : List D) => True) r.2) := fnE (er := (eO (e2 D.int (eL (e3 D.int D.int D.int))))) (P := (fun (r : (Option (Int × (List (Int × Int × Int))))) (l : Unit) (e : List D) => True)) (Q := (fun (l : Unit) (e : List D) => True)) (ts_Survey_never_paper self a way b) h (Or.inl rfl)
noncomputable def T_Survey_row (self : S_Survey) (a : Int) (kind : Int) (b : Int) : Option (Except String Int × S_Survey) :=
  (T_Survey_need_marks self a b).bind fun x1 =>
  caseE x1.1 (fun c_v2 => some (.error c_v2, self)) fun v2 =>
  if ((decide (kind < (1 : Int))) || (decide (self.kinds < kind))) = true then
    some (.error "NoKind", self)
  else
  (T_Survey_need_room self).bind fun x3 =>
  caseE x3.1 (fun c_v4 => some (.error c_v4, self)) fun v4 =>
  (T_Survey_never_paper self a ([kind]) b).bind fun x5 =>
    caseE x5.1 (fun c_v6 => some (.error c_v6, self)) fun v6 =>
    if v6.isSome = true then
    some (.error "Barred", self)
  else
  (T_Survey_enter self ("row" : Str) ((e3 D.int D.int D.int) (a, kind, b))).bind fun x7 =>
  some (.ok x7.1, x7.2)
theorem ts_Survey_row (self : S_Survey) (a : Int) (kind : Int) (b : Int) : Sm (RoE D.int (fun (r : Int) (l : S_Survey) (e : List D) => e[0]? = some (em_Survey l)) (fun (l : S_Survey) (e : List D) => e[0]? = some (em_Survey l))) (T_Survey_row self a kind b) (g_Survey_row [(em_Survey self), (D.int a), (D.int kind), (D.int b)]) := by
  unfold T_Survey_row
  exact (sm_bind fun x1 h_x1 => (sm_case (fun c_v2 h_v2 => (sx_drop (yx_me (x := (em_Survey self)) (yi_var rfl) (io_Survey_need_marks _) (ya_cons (x := (D.int a)) (yi_var rfl) (ya_cons (x := (D.int b)) (yi_var rfl) ya_nil)) ((tf_Survey_need_marks _ _ _ h_x1).2 c_v2 h_v2)) (re_ex (by exact rfl)))) (fun v2 h_v2 => (sn_drop (yi_me (x := (em_Survey self)) (yi_var rfl) (io_Survey_need_marks _) (ya_cons (x := (D.int a)) (yi_var rfl) (ya_cons (x := (D.int b)) (yi_var rfl) ya_nil)) ((tf_Survey_need_marks _ _ _ h_x1).1 v2 h_v2)) (sn_ifA (te_or (te_T (yi_op (yi_var rfl) yi_c rfl)) (te_T (yi_op (yi_var rfl) (yi_un (yi_var rfl) (fl_Survey_kinds _)) rfl))) (sx_raise (rx_in (re_ex (by exact rfl)) rfl)) (sn_skip (sm_bind fun x3 h_x3 => (sm_case (fun c_v4 h_v4 => (sx_drop (yx_me (x := (em_Survey self)) (yi_var rfl) (io_Survey_need_room _) ya_nil ((tf_Survey_need_room _ h_x3).2 c_v4 h_v4)) (re_ex (by exact rfl)))) (fun v4 h_v4 => (sn_drop (yi_me (x := (em_Survey self)) (yi_var rfl) (io_Survey_need_room _) ya_nil ((tf_Survey_need_room _ h_x3).1 v4 h_v4)) (sm_bind fun x5 h_x5 => (sm_case (fun c_v6 h_v6 => (sx_if (yx_T (yx_opL (yx_me (x := (em_Survey self)) (yi_var rfl) (io_Survey_never_paper _) (ya_cons (x := (D.int a)) (yi_var rfl) (ya_cons (x := ((eL D.int) ([kind]))) (yi_lst (ds := [(D.int kind)]) (ya_cons (x := (D.int kind)) (yi_imm (yi_var rfl) (im_int _)) ya_nil) (show 1 ≤ 100 from by decide)) (ya_cons (x := (D.int b)) (yi_var rfl) ya_nil))) ((tf_Survey_never_paper _ _ _ _ h_x5).2 c_v6 h_v6)))) (re_ex (by exact rfl)))) (fun v6 h_v6 => (sn_ifA (te_T (yi_op (yi_me (x := (em_Survey self)) (yi_var rfl) (io_Survey_never_paper _) (ya_cons (x := (D.int a)) (yi_var rfl) (ya_cons (x := ((eL D.int) ([kind]))) (yi_lst (ds := [(D.int kind)]) (ya_cons (x := (D.int kind)) (yi_imm (yi_var rfl) (im_int _)) ya_nil) (show 1 ≤ 100 from by decide)) (ya_cons (x := (D.int b)) (yi_var rfl) ya_nil))) ((tf_Survey_never_paper _ _ _ _ h_x5).1 v6 h_v6)) yi_c (notN_ok (fun a => by first | rfl | (cases a; rfl)) v6 ()))) (sx_raise (rx_in (re_ex (by exact rfl)) rfl)) (sn_skip (sm_bind fun x7 h_x7 => (sn_retE (D.int x7.1) [(em_Survey x7.2), (D.int a), (D.int kind), (D.int b)] (ye_meN (x := (em_Survey self)) [(em_Survey x7.2), (D.int a), (D.int kind), (D.int b)] (pt_var rfl).val (io_Survey_enter _) (ya_cons (x := (D.str ("row" : Str))) yi_c (ya_cons (x := ((e3 D.int D.int D.int) (a, kind, b))) (yi_tup (ds := [(D.int a), (D.int kind), (D.int b)]) (ya_cons (x := (D.int a)) (yi_imm (yi_var rfl) (im_int _)) (ya_cons (x := (D.int kind)) (yi_imm (yi_var rfl) (im_int _)) (ya_cons (x := (D.int b)) (yi_imm (yi_var rfl) (im_int _)) ya_nil))) (show 3 ≤ 100 from by decide)) ya_nil)) (tf_Survey_enter _ _ _ h_x7) (fun e h => (up_s rfl h (up_n (up_n (show updL [] _ _ _ _ = _ from congrArg some (by first | rfl | (simp [eL, List.map_set, List.map_append, List.map_map, Function.comp_def]; done) | (simp [eL, eO, List.map_set, List.map_append, List.map_map, Function.comp_def]; rfl)))))))) (re_ok (by exact rfl)))))))))))))))))))
theorem tf_Survey_row (self : S_Survey) (a : Int) (kind : Int) (b : Int) {r : Except String Int × S_Survey} (h : T_Survey_row self a kind b = some r) : (∀ v, r.1 = .ok v → FnP (G_Survey_row [(em_Survey self), (D.int a), (D.int kind), (D.int b)]) (D.int v) ((fun (r : Int) (l : S_Survey) (e : List D) => e[0]? = some (em_Survey l)) v r.2)) ∧ ∀ c, r.1 = .error c → FnX (G_Survey_row [(em_Survey self), (D.int a), (D.int kind), (D.int b)]) c ((fun (l : S_Survey) (e : List D) => e[0]? = some (em_Survey l)) r.2) := fnE (er := D.int) (P := (fun (r : Int) (l : S_Survey) (e : List D) => e[0]? = some (em_Survey l))) (Q := (fun (l : S_Survey) (e : List D) => e[0]? = some (em_Survey l))) (ts_Survey_row self a kind b) h (Or.inl rfl)
theorem tn_Survey_row (self : S_Survey) (a : Int) (kind : Int) (b : Int) {r : Int × S_Survey} (h : (T_Survey_row self a kind b).bind okLT = some r) : FnP (G_Survey_row [(em_Survey self), (D.int a), (D.int kind), (D.int b)]) (D.int r.1) ((fun (r : Int) (l : S_Survey) (e : List D) => e[0]? = some (em_Survey l)) r.1 r.2) := by
  obtain ⟨x, h1, h2, h3⟩ := okLT_of h
  have := (tf_Survey_row self a kind b h1).1 _ h2
  rw [h3] at this
  exact this
noncomputable def T_law_told (book : S_Survey) (oath : Bool) (a : Int) (kind : Int) (b : Int) : Option (((Option Int) × (List Bool)) × S_Survey) :=
  (tryB ["Barred", "Full", "NoMark", "NoKind"] ([] : List Bool) (
    thenC (if oath = true then
      (T_Survey_apart book a b).bind fun x6 =>
      caseE x6.1 (fun c_v7 => some (.inr (.inr (c_v7, (x6.2, (none : (Option Int))))))) fun v7 =>
      some (.inl (x6.2, (some v7)))
      else
      (T_Survey_row book a kind b).bind fun x8 =>
      caseE x8.1 (fun c_v9 => some (.inr (.inr (c_v9, (x8.2, (none : (Option Int))))))) fun v9 =>
      some (.inl (x8.2, (some v9)))) fun s4 : (S_Survey × (Option Int)) =>
    some (.inl (s4.1, s4.2)))).bind fun s3 : (S_Survey × (Option Int)) × List Bool =>
  some ((s3.1.2, s3.2), s3.1.1)
theorem ts_law_told (book : S_Survey) (oath : Bool) (a : Int) (kind : Int) (b : Int) : Sm (RoV (fun r : ((Option Int) × (List Bool)) × S_Survey => ((e2 (eO D.int) (eL D.bl)) r.1)) (fun (r : ((Option Int) × (List Bool)) × S_Survey) (e : List D) => e[0]? = some (em_Survey r.2))) (T_law_told book oath a kind b) (g_law_told [(em_Survey book), (D.bl oath), (D.int a), (D.int kind), (D.int b), .non, .non, .non]) := by
  unfold T_law_told
  exact (sn_set (eU ()) [(em_Survey book), (D.bl oath), (D.int a), (D.int kind), (D.int b), (eU ()), .non, .non] yi_c rfl (sn_set ((eL D.bl) ([] : (List Bool))) [(em_Survey book), (D.bl oath), (D.int a), (D.int kind), (D.int b), (eU ()), ((eL D.bl) ([] : (List Bool))), .non] (yi_lst ya_nil) rfl (sn_try (bad := ([] : List Bool)) (fun (s1 : (S_Survey × (Option Int))) (δ2 : Nat → D) => [(em_Survey s1.1), (D.bl oath), (D.int a), (D.int kind), (D.int b), ((eO D.int) s1.2), (eL D.bl ([] : List Bool)), .non]) (sm_end (sm_seqC (fun (s4 : (S_Survey × (Option Int))) (δ5 : Nat → D) => [(em_Survey s4.1), (D.bl oath), (D.int a), (D.int kind), (D.int b), ((eO D.int) s4.2), (eL D.bl ([] : List Bool)), .non]) (sn_ifE (te_T (yi_var rfl)) (sm_bind fun x6 h_x6 => (sm_case (fun c_v7 h_v7 => (sm_end (sx_setE [(em_Survey x6.2), (D.bl oath), (D.int a), (D.int kind), (D.int b), (eU ()), (eL D.bl ([] : List Bool)), .non] (yxe_me (x := (em_Survey book)) [(em_Survey x6.2), (D.bl oath), (D.int a), (D.int kind), (D.int b), (eU ()), (eL D.bl ([] : List Bool)), .non] (pt_var rfl).val (io_Survey_apart _) (ya_cons (x := (D.int a)) (yi_var rfl) (ya_cons (x := (D.int b)) (yi_var rfl) ya_nil)) ((tf_Survey_apart _ _ _ h_x6).2 c_v7 h_v7) (fun e h => (up_s rfl h (up_n (up_n (show updL [] _ _ _ _ = _ from congrArg some (by first | rfl | (simp [eL, List.map_set, List.map_append, List.map_map, Function.comp_def]; done) | (simp [eL, eO, List.map_set, List.map_append, List.map_map, Function.comp_def]; rfl)))))))) (rc_in (rt_ex _ (by first | rfl | (simp [eL, List.map_set, List.map_append, List.map_map, Function.comp_def]; done) | (simp [eL, eO, List.map_set, List.map_append, List.map_map, Function.comp_def]; rfl))) rfl)))) (fun v7 h_v7 => (sm_end (sn_setE [(em_Survey x6.2), (D.bl oath), (D.int a), (D.int kind), (D.int b), (eU ()), (eL D.bl ([] : List Bool)), .non] [(em_Survey x6.2), (D.bl oath), (D.int a), (D.int kind), (D.int b), (D.int v7), (eL D.bl ([] : List Bool)), .non] (ye_me (x := (em_Survey book)) [(em_Survey x6.2), (D.bl oath), (D.int a), (D.int kind), (D.int b), (eU ()), (eL D.bl ([] : List Bool)), .non] (pt_var rfl).val (io_Survey_apart _) (ya_cons (x := (D.int a)) (yi_var rfl) (ya_cons (x := (D.int b)) (yi_var rfl) ya_nil)) ((tf_Survey_apart _ _ _ h_x6).1 v7 h_v7) (fun e h => (up_s rfl h (up_n (up_n (show updL [] _ _ _ _ = _ from congrArg some (by first | rfl | (simp [eL, List.map_set, List.map_append, List.map_map, Function.comp_def]; done) | (simp [eL, eO, List.map_set, List.map_append, List.map_map, Function.comp_def]; rfl)))))))) rfl (sn_fallC _ (by first | rfl | (simp [eL, List.map_set, List.map_append, List.map_map, Function.comp_def]; done) | (simp [eL, eO, List.map_set, List.map_append, List.map_map, Function.comp_def]; rfl)))))))) (sm_bind fun x8 h_x8 => (sm_case (fun c_v9 h_v9 => (sm_end (sx_setE [(em_Survey x8.2), (D.bl oath), (D.int a), (D.int kind), (D.int b), (eU ()), (eL D.bl ([] : List Bool)), .non] (yxe_me (x := (em_Survey book)) [(em_Survey x8.2), (D.bl oath), (D.int a), (D.int kind), (D.int b), (eU ()), (eL D.bl ([] : List Bool)), .non] (pt_var rfl).val (io_Survey_row _) (ya_cons (x := (D.int a)) (yi_var rfl) (ya_cons (x := (D.int kind)) (yi_var rfl) (ya_cons (x := (D.int b)) (yi_var rfl) ya_nil))) ((tf_Survey_row _ _ _ _ h_x8).2 c_v9 h_v9) (fun e h => (up_s rfl h (up_n (up_n (up_n (show updL [] _ _ _ _ = _ from congrArg some (by first | rfl | (simp [eL, List.map_set, List.map_append, List.map_map, Function.comp_def]; done) | (simp [eL, eO, List.map_set, List.map_append, List.map_map, Function.comp_def]; rfl))))))))) (rc_in (rt_ex _ (by first | rfl | (simp [eL, List.map_set, List.map_append, List.map_map, Function.comp_def]; done) | (simp [eL, eO, List.map_set, List.map_append, List.map_map, Function.comp_def]; rfl))) rfl)))) (fun v9 h_v9 => (sm_end (sn_setE [(em_Survey x8.2), (D.bl oath), (D.int a), (D.int kind), (D.int b), (eU ()), (eL D.bl ([] : List Bool)), .non] [(em_Survey x8.2), (D.bl oath), (D.int a), (D.int kind), (D.int b), (D.int v9), (eL D.bl ([] : List Bool)), .non] (ye_me (x := (em_Survey book)) [(em_Survey x8.2), (D.bl oath), (D.int a), (D.int kind), (D.int b), (eU ()), (eL D.bl ([] : List Bool)), .non] (pt_var rfl).val (io_Survey_row _) (ya_cons (x := (D.int a)) (yi_var rfl) (ya_cons (x := (D.int kind)) (yi_var rfl) (ya_cons (x := (D.int b)) (yi_var rfl) ya_nil))) ((tf_Survey_row _ _ _ _ h_x8).1 v9 h_v9) (fun e h => (up_s rfl h (up_n (up_n (up_n (show updL [] _ _ _ _ = _ from congrArg some (by first | rfl | (simp [eL, List.map_set, List.map_append, List.map_map, Function.comp_def]; done) | (simp [eL, eO, List.map_set, List.map_append, List.map_map, Function.comp_def]; rfl))))))))) rfl (sn_fallC _ (by first | rfl | (simp [eL, List.map_set, List.map_append, List.map_map, Function.comp_def]; done) | (simp [eL, eO, List.map_set, List.map_append, List.map_map, Function.comp_def]; rfl))))))))) (fun s4 δ5 => (sn_fallT _ (by first | rfl | (simp [eL, List.map_set, List.map_append, List.map_map, Function.comp_def]; done) | (simp [eL, eO, List.map_set, List.map_append, List.map_map, Function.comp_def]; rfl)))))) (fun _ _ => rfl) (fun s3 δ2 => sm_env (env' := [(em_Survey s3.1.1), (D.bl oath), (D.int a), (D.int kind), (D.int b), ((eO D.int) s3.1.2), ((eL D.bl) s3.2), .non]) rfl (sn_ret ((e2 (eO D.int) (eL D.bl)) (s3.1.2, s3.2)) (yi_tup (ds := [((eO D.int) s3.1.2), ((eL D.bl) s3.2)]) (ya_cons (x := ((eO D.int) s3.1.2)) (yi_var rfl) (ya_cons (x := ((eL D.bl) s3.2)) (yi_var rfl) ya_nil)) (show 2 ≤ 100 from by decide)) (rv (by exact rfl)))))))
theorem tf_law_told (book : S_Survey) (oath : Bool) (a : Int) (kind : Int) (b : Int) {r : ((Option Int) × (List Bool)) × S_Survey} (h : T_law_told book oath a kind b = some r) : FnP (G_law_told [(em_Survey book), (D.bl oath), (D.int a), (D.int kind), (D.int b)]) ((fun r : ((Option Int) × (List Bool)) × S_Survey => ((e2 (eO D.int) (eL D.bl)) r.1)) r) ((fun (r : ((Option Int) × (List Bool)) × S_Survey) (e : List D) => e[0]? = some (em_Survey r.2)) r) := fnV (er := (fun r : ((Option Int) × (List Bool)) × S_Survey => ((e2 (eO D.int) (eL D.bl)) r.1))) (P := (fun (r : ((Option Int) × (List Bool)) × S_Survey) (e : List D) => e[0]? = some (em_Survey r.2))) (ts_law_told book oath a kind b) h
noncomputable def T_law_due (want : Str) : Option (List Bool) :=
  (some ([("NoKind" : Str), ("NoWay" : Str), ("NoMark" : Str), ("NoEntry" : Str), ("NoHold" : Str), ("NoChamber" : Str), ("NoChart" : Str), ("NoCave" : Str), ("NoHome" : Str), ("Barred" : Str)])).bind fun x1 =>
  (addT x1 ([("Full" : Str)])).bind fun x2 =>
  (lcM (fun c3 : Str => ((seqT c3 want).bind fun x4 => some x4)) x2).bind fun x6 =>
  (addT ([true]) x6).bind fun x7 =>
  some x7
theorem ts_law_due (want : Str) : Sm (RoV (eL D.bl) (fun _ _ => True)) (T_law_due want) (g_law_due [(D.str want), .non, .non]) := by
  unfold T_law_due
  exact (sm_bind fun x1 h_x1 => (sn_set ((eL D.str) x1) [(D.str want), ((eL D.str) x1), .non] (yi_nm (e := (eL D.str)) h_x1 (yi_lst (ds := [(D.str ("NoKind" : Str)), (D.str ("NoWay" : Str)), (D.str ("NoMark" : Str)), (D.str ("NoEntry" : Str)), (D.str ("NoHold" : Str)), (D.str ("NoChamber" : Str)), (D.str ("NoChart" : Str)), (D.str ("NoCave" : Str)), (D.str ("NoHome" : Str)), (D.str ("Barred" : Str))]) (ya_cons (x := (D.str ("NoKind" : Str))) yi_c (ya_cons (x := (D.str ("NoWay" : Str))) yi_c (ya_cons (x := (D.str ("NoMark" : Str))) yi_c (ya_cons (x := (D.str ("NoEntry" : Str))) yi_c (ya_cons (x := (D.str ("NoHold" : Str))) yi_c (ya_cons (x := (D.str ("NoChamber" : Str))) yi_c (ya_cons (x := (D.str ("NoChart" : Str))) yi_c (ya_cons (x := (D.str ("NoCave" : Str))) yi_c (ya_cons (x := (D.str ("NoHome" : Str))) yi_c (ya_cons (x := (D.str ("Barred" : Str))) yi_c ya_nil)))))))))) (show 10 ≤ 100 from by decide))) rfl (sm_bind fun x2 h_x2 => (sm_bind fun x6 h_x6 => (sm_bind fun x7 h_x7 => (sn_ret ((eL D.bl) x7) (yi_op (x := ((eL D.bl) ([true]))) (y := ((eL D.bl) x6)) (yi_lst (ds := [(D.bl true)]) (ya_cons (x := (D.bl true)) yi_c ya_nil) (show 1 ≤ 100 from by decide)) (yi_lcM (ea := D.str) (eb := D.bl) (yi_op (x := ((eL D.str) x1)) (y := ((eL D.str) ([("Full" : Str)]))) (yi_var rfl) (yi_lst (ds := [(D.str ("Full" : Str))]) (ya_cons (x := (D.str ("Full" : Str))) yi_c ya_nil) (show 1 ≤ 100 from by decide)) (addT_e im_str h_x2)) (fun c3 => (fun r5 h_r5 => (bindE h_r5 fun x4 h_x4 h_r5_1 => (yi_nm (e := D.bl) h_r5_1 (yi_op (yi_var rfl) (yi_var rfl) (seqT_ok _ _ _ h_x4)))))) h_x6) (addT_e im_bl h_x7)) (rv trivial)))))))
theorem tf_law_due (want : Str) {r : (List Bool)} (h : T_law_due want = some r) : FnP (G_law_due [(D.str want)]) ((eL D.bl) r) ((fun _ _ => True) r) := fnV (er := (eL D.bl)) (P := (fun _ _ => True)) (ts_law_due want) h
noncomputable def T_Survey_hold (self : S_Survey) : Option (Int × S_Survey) :=
  (appT self.held (self.many, self.kept, self.coming)).bind fun x1 =>
  some (((({ self with held := x1 }).held).length : Int), { self with held := x1 })
theorem ts_Survey_hold (self : S_Survey) : Sm (RoV (fun r : Int × S_Survey => (D.int r.1)) (fun (r : Int × S_Survey) (e : List D) => e[0]? = some (em_Survey r.2))) (T_Survey_hold self) (g_Survey_hold [(em_Survey self)]) := by
  unfold T_Survey_hold
  exact (sm_bind fun x1 h_x1 => (sn_app (e := (e3 D.int (eL (id : D → D)) D.int)) (v := (self.many, self.kept, self.coming)) [(em_Survey ({ self with held := x1 }))] (pt_fld (pt_var rfl) (fl_Survey_held _)) (yi_tup (ds := [(D.int self.many), ((eL (id : D → D)) self.kept), (D.int self.coming)]) (ya_cons (x := (D.int self.many)) (yi_un (yi_var rfl) (fl_Survey_many _)) (ya_cons (x := ((eL (id : D → D)) self.kept)) (yi_un (yi_un (yi_var rfl) (fl_Survey_kept _)) rfl) (ya_cons (x := (D.int self.coming)) (yi_un (yi_var rfl) (fl_Survey_coming _)) ya_nil))) (show 3 ≤ 100 from by decide)) h_x1 (by first | rfl | (simp [eL, List.map_set, List.map_append, List.map_map, Function.comp_def]; done) | (simp [eL, eO, List.map_set, List.map_append, List.map_map, Function.comp_def]; rfl)) (sn_ret (D.int ((({ self with held := x1 }).held).length : Int)) (yi_call (ya_cons (yi_un (yi_var rfl) (fl_Survey_held _)) ya_nil) (dLen_L _)) (rv (by exact rfl)))))
theorem tf_Survey_hold (self : S_Survey) {r : Int × S_Survey} (h : T_Survey_hold self = some r) : FnP (G_Survey_hold [(em_Survey self)]) ((fun r : Int × S_Survey => (D.int r.1)) r) ((fun (r : Int × S_Survey) (e : List D) => e[0]? = some (em_Survey r.2)) r) := fnV (er := (fun r : Int × S_Survey => (D.int r.1))) (P := (fun (r : Int × S_Survey) (e : List D) => e[0]? = some (em_Survey r.2))) (ts_Survey_hold self) h
noncomputable def T_Survey_strike (self : S_Survey) (number : Int) : Option (Except String Int × S_Survey) :=
  (lcT (fun c1 : D => ((dIx c1 (D.int (0 : Int))).bind fun x2 => (toIntD x2).bind fun x3 => some (!decide (x3 = number)))) (fun c1 : D => (some c1)) self.kept).bind fun x6 =>
  if (decide ((x6.length : Int) = (self.kept.length : Int))) = true then
    some (.error "NoEntry", self)
  else
  some (.ok number, { self with kept := x6 })
theorem ts_Survey_strike (self : S_Survey) (number : Int) : Sm (RoE D.int (fun (r : Int) (l : S_Survey) (e : List D) => e[0]? = some (em_Survey l)) (fun (l : S_Survey) (e : List D) => e[0]? = some (em_Survey l))) (T_Survey_strike self number) (g_Survey_strike [(em_Survey self), (D.int number), .non, .non]) := by
  unfold T_Survey_strike
  exact (sm_bind fun x6 h_x6 => (sn_set ((eL (id : D → D)) x6) [(em_Survey self), (D.int number), ((eL (id : D → D)) x6), .non] (yi_lcT (ea := (id : D → D)) (eb := (id : D → D)) (yi_un (yi_var rfl) (fl_Survey_kept _)) (fun c1 => (fun r5 h_r5 => (bindE h_r5 fun x2 h_x2 h_r5_1 => (bindE h_r5_1 fun x3 h_x3 h_r5_2 => (te_nm h_r5_2 (te_T (yi_op (x := (D.int x3)) (y := (D.int number)) (yi_cv (yi_op (x := c1) (y := (D.int (0 : Int))) (yi_var rfl) yi_c h_x2) (toIntD_ok _ _ h_x3).symm) (yi_var rfl) (Eqb.ne eqb_int (by decide) x3 number)))))))) (fun c1 => (fun r4 h_r4 => (yi_nm (e := (id : D → D)) h_r4 (yi_var rfl)))) h_x6) rfl (sn_ifA (te_T (yi_op (x := (D.int (x6.length : Int))) (y := (D.int (self.kept.length : Int))) (yi_call (ya_cons (yi_var rfl) ya_nil) (dLen_L _)) (yi_call (ya_cons (yi_un (yi_var rfl) (fl_Survey_kept _)) ya_nil) (dLen_L _)) (Eqb.eq eqb_int (by decide) (x6.length : Int) (self.kept.length : Int)))) (sx_raise (rx_in (re_ex (by exact rfl)) rfl)) (sn_skip (sn_fldE (x := ((eL (id : D → D)) x6)) [(em_Survey self), (D.int number), ((eL (id : D → D)) x6), .non] [(em_Survey ({ self with kept := x6 })), (D.int number), ((eL (id : D → D)) x6), .non] (ye_mv rfl) rfl (show 5 < 900 from by decide) rfl (sn_ret (D.int number) (yi_imm (yi_var rfl) (im_int _)) (re_ok (by exact rfl))))))))
theorem tf_Survey_strike (self : S_Survey) (number : Int) {r : Except String Int × S_Survey} (h : T_Survey_strike self number = some r) : (∀ v, r.1 = .ok v → FnP (G_Survey_strike [(em_Survey self), (D.int number)]) (D.int v) ((fun (r : Int) (l : S_Survey) (e : List D) => e[0]? = some (em_Survey l)) v r.2)) ∧ ∀ c, r.1 = .error c → FnX (G_Survey_strike [(em_Survey self), (D.int number)]) c ((fun (l : S_Survey) (e : List D) => e[0]? = some (em_Survey l)) r.2) := fnE (er := D.int) (P := (fun (r : Int) (l : S_Survey) (e : List D) => e[0]? = some (em_Survey l))) (Q := (fun (l : S_Survey) (e : List D) => e[0]? = some (em_Survey l))) (ts_Survey_strike self number) h (Or.inl rfl)
theorem tn_Survey_strike (self : S_Survey) (number : Int) {r : Int × S_Survey} (h : (T_Survey_strike self number).bind okLT = some r) : FnP (G_Survey_strike [(em_Survey self), (D.int number)]) (D.int r.1) ((fun (r : Int) (l : S_Survey) (e : List D) => e[0]? = some (em_Survey l)) r.1 r.2) := by
  obtain ⟨x, h1, h2, h3⟩ := okLT_of h
  have := (tf_Survey_strike self number h1).1 _ h2
  rw [h3] at this
  exact this
noncomputable def T_Survey_back (self : S_Survey) (number : Int) : Option (Except String Int × S_Survey) :=
  if ((decide (number < (1 : Int))) || (decide ((self.held.length : Int) < number))) = true then
    some (.error "NoHold", self)
  else
  (ixT self.held (number - (1 : Int))).bind fun x1 =>
  (immT x1.2.1).bind fun x2 =>
  some (.ok number, { { { { self with many := x1.1 } with kept := x2 } with coming := x1.2.2 } with held := (cutL (({ { { self with many := x1.1 } with kept := x2 } with coming := x1.2.2 }).held) none (some number)) })
theorem ts_Survey_back (self : S_Survey) (number : Int) : Sm (RoE D.int (fun (r : Int) (l : S_Survey) (e : List D) => e[0]? = some (em_Survey l)) (fun (l : S_Survey) (e : List D) => e[0]? = some (em_Survey l))) (T_Survey_back self number) (g_Survey_back [(em_Survey self), (D.int number), .non, .non, .non]) := by
  unfold T_Survey_back
  exact (sn_ifA (te_or (te_T (yi_op (yi_var rfl) yi_c rfl)) (te_T (yi_op (yi_var rfl) (yi_call (ya_cons (yi_un (yi_var rfl) (fl_Survey_held _)) ya_nil) (dLen_L _)) rfl))) (sx_raise (rx_in (re_ex (by exact rfl)) rfl)) (sn_skip (sm_bind fun x1 h_x1 => (sn_unp [(em_Survey self), (D.int number), (D.int x1.1), ((eL (id : D → D)) x1.2.1), (D.int x1.2.2)] (yi_op (yi_un (yi_var rfl) (fl_Survey_held _)) (yi_op (yi_var rfl) yi_c rfl) (ixT_ok _ _ _ h_x1)) rfl (sn_fld (x := (D.int x1.1)) [(em_Survey ({ self with many := x1.1 })), (D.int number), (D.int x1.1), ((eL (id : D → D)) x1.2.1), (D.int x1.2.2)] (yi_var rfl) (pt_var rfl) (show 5 < 900 from by decide) (by first | rfl | (simp [eL, List.map_set, List.map_append, List.map_map, Function.comp_def]; done) | (simp [eL, eO, List.map_set, List.map_append, List.map_map, Function.comp_def]; rfl)) (sm_bind fun x2 h_x2 => (sn_fld (x := ((eL (id : D → D)) x2)) [(em_Survey ({ { self with many := x1.1 } with kept := x2 })), (D.int number), (D.int x1.1), ((eL (id : D → D)) x1.2.1), (D.int x1.2.2)] (yi_call (ya_cons (yi_var rfl) ya_nil) (dListD_ok h_x2)) (pt_var rfl) (show 5 < 900 from by decide) (by first | rfl | (simp [eL, List.map_set, List.map_append, List.map_map, Function.comp_def]; done) | (simp [eL, eO, List.map_set, List.map_append, List.map_map, Function.comp_def]; rfl)) (sn_fld (x := (D.int x1.2.2)) [(em_Survey ({ { { self with many := x1.1 } with kept := x2 } with coming := x1.2.2 })), (D.int number), (D.int x1.1), ((eL (id : D → D)) x1.2.1), (D.int x1.2.2)] (yi_var rfl) (pt_var rfl) (show 5 < 900 from by decide) (by first | rfl | (simp [eL, List.map_set, List.map_append, List.map_map, Function.comp_def]; done) | (simp [eL, eO, List.map_set, List.map_append, List.map_map, Function.comp_def]; rfl)) (sn_fld (x := ((eL (e3 D.int (eL (id : D → D)) D.int)) (cutL (({ { { self with many := x1.1 } with kept := x2 } with coming := x1.2.2 }).held) none (some number)))) [(em_Survey ({ { { { self with many := x1.1 } with kept := x2 } with coming := x1.2.2 } with held := (cutL (({ { { self with many := x1.1 } with kept := x2 } with coming := x1.2.2 }).held) none (some number)) })), (D.int number), (D.int x1.1), ((eL (id : D → D)) x1.2.1), (D.int x1.2.2)] (yi_slF (yi_un (yi_var rfl) (fl_Survey_held _)) yo_n (yo_s (yi_var rfl))) (pt_var rfl) (show 5 < 900 from by decide) (by first | rfl | (simp [eL, List.map_set, List.map_append, List.map_map, Function.comp_def]; done) | (simp [eL, eO, List.map_set, List.map_append, List.map_map, Function.comp_def]; rfl)) (sn_ret (D.int number) (yi_imm (yi_var rfl) (im_int _)) (re_ok (by exact rfl))))))))))))
theorem tf_Survey_back (self : S_Survey) (number : Int) {r : Except String Int × S_Survey} (h : T_Survey_back self number = some r) : (∀ v, r.1 = .ok v → FnP (G_Survey_back [(em_Survey self), (D.int number)]) (D.int v) ((fun (r : Int) (l : S_Survey) (e : List D) => e[0]? = some (em_Survey l)) v r.2)) ∧ ∀ c, r.1 = .error c → FnX (G_Survey_back [(em_Survey self), (D.int number)]) c ((fun (l : S_Survey) (e : List D) => e[0]? = some (em_Survey l)) r.2) := fnE (er := D.int) (P := (fun (r : Int) (l : S_Survey) (e : List D) => e[0]? = some (em_Survey l))) (Q := (fun (l : S_Survey) (e : List D) => e[0]? = some (em_Survey l))) (ts_Survey_back self number) h (Or.inl rfl)
theorem tn_Survey_back (self : S_Survey) (number : Int) {r : Int × S_Survey} (h : (T_Survey_back self number).bind okLT = some r) : FnP (G_Survey_back [(em_Survey self), (D.int number)]) (D.int r.1) ((fun (r : Int) (l : S_Survey) (e : List D) => e[0]? = some (em_Survey l)) r.1 r.2) := by
  obtain ⟨x, h1, h2, h3⟩ := okLT_of h
  have := (tf_Survey_back self number h1).1 _ h2
  rw [h3] at this
  exact this
noncomputable def T_Survey_twin (self : S_Survey) : Option (Except String S_Survey × S_Survey) :=
  (T_Survey_init self.kinds).bind fun x1 =>
  caseE x1.1 (fun c_v2 => some (.error c_v2, self)) fun v2 =>
  some (.ok ({ { { { v2 with many := self.many } with kept := self.kept } with coming := self.coming } with held := self.held }), self)
theorem ts_Survey_twin (self : S_Survey) : Sm (RoE em_Survey (fun (r : S_Survey) (l : S_Survey) (e : List D) => e[0]? = some (em_Survey l)) (fun (l : S_Survey) (e : List D) => e[0]? = some (em_Survey l))) (T_Survey_twin self) (g_Survey_twin [(em_Survey self), .non]) := by
  unfold T_Survey_twin
  exact (sm_bind fun x1 h_x1 => (sm_case (fun c_v2 h_v2 => (sx_set (yx_mk (ya_cons (x := (D.int self.kinds)) (yi_un (yi_var rfl) (fl_Survey_kinds _)) ya_nil) ((tf_Survey_init _ h_x1).2 c_v2 h_v2)) (re_ex (by exact rfl)))) (fun v2 h_v2 => (sn_set (em_Survey v2) [(em_Survey self), (em_Survey v2)] (yi_mk (ya_cons (x := (D.int self.kinds)) (yi_un (yi_var rfl) (fl_Survey_kinds _)) ya_nil) ((tf_Survey_init _ h_x1).1 v2 h_v2)) rfl (sn_fld (x := (D.int self.many)) [(em_Survey self), (em_Survey ({ v2 with many := self.many }))] (yi_un (yi_var rfl) (fl_Survey_many _)) (pt_var rfl) (show 5 < 900 from by decide) (by first | rfl | (simp [eL, List.map_set, List.map_append, List.map_map, Function.comp_def]; done) | (simp [eL, eO, List.map_set, List.map_append, List.map_map, Function.comp_def]; rfl)) (sn_fld (x := ((eL (id : D → D)) self.kept)) [(em_Survey self), (em_Survey ({ { v2 with many := self.many } with kept := self.kept }))] (yi_un (yi_un (yi_var rfl) (fl_Survey_kept _)) rfl) (pt_var rfl) (show 5 < 900 from by decide) (by first | rfl | (simp [eL, List.map_set, List.map_append, List.map_map, Function.comp_def]; done) | (simp [eL, eO, List.map_set, List.map_append, List.map_map, Function.comp_def]; rfl)) (sn_fld (x := (D.int self.coming)) [(em_Survey self), (em_Survey ({ { { v2 with many := self.many } with kept := self.kept } with coming := self.coming }))] (yi_un (yi_var rfl) (fl_Survey_coming _)) (pt_var rfl) (show 5 < 900 from by decide) (by first | rfl | (simp [eL, List.map_set, List.map_append, List.map_map, Function.comp_def]; done) | (simp [eL, eO, List.map_set, List.map_append, List.map_map, Function.comp_def]; rfl)) (sn_fld (x := ((eL (e3 D.int (eL (id : D → D)) D.int)) self.held)) [(em_Survey self), (em_Survey ({ { { { v2 with many := self.many } with kept := self.kept } with coming := self.coming } with held := self.held }))] (yi_un (yi_un (yi_var rfl) (fl_Survey_held _)) rfl) (pt_var rfl) (show 5 < 900 from by decide) (by first | rfl | (simp [eL, List.map_set, List.map_append, List.map_map, Function.comp_def]; done) | (simp [eL, eO, List.map_set, List.map_append, List.map_map, Function.comp_def]; rfl)) (sn_ret (em_Survey ({ { { { v2 with many := self.many } with kept := self.kept } with coming := self.coming } with held := self.held })) (yi_var rfl) (re_ok (by exact rfl)))))))))))
theorem tf_Survey_twin (self : S_Survey) {r : Except String S_Survey × S_Survey} (h : T_Survey_twin self = some r) : (∀ v, r.1 = .ok v → FnP (G_Survey_twin [(em_Survey self)]) (em_Survey v) ((fun (r : S_Survey) (l : S_Survey) (e : List D) => e[0]? = some (em_Survey l)) v r.2)) ∧ ∀ c, r.1 = .error c → FnX (G_Survey_twin [(em_Survey self)]) c ((fun (l : S_Survey) (e : List D) => e[0]? = some (em_Survey l)) r.2) := fnE (er := em_Survey) (P := (fun (r : S_Survey) (l : S_Survey) (e : List D) => e[0]? = some (em_Survey l))) (Q := (fun (l : S_Survey) (e : List D) => e[0]? = some (em_Survey l))) (ts_Survey_twin self) h (Or.inr fun v h => by cases h)
theorem tn_Survey_twin (self : S_Survey) {r : S_Survey × S_Survey} (h : (T_Survey_twin self).bind okLT = some r) : FnP (G_Survey_twin [(em_Survey self)]) (em_Survey r.1) ((fun (r : S_Survey) (l : S_Survey) (e : List D) => e[0]? = some (em_Survey l)) r.1 r.2) := by
  obtain ⟨x, h1, h2, h3⟩ := okLT_of h
  have := (tf_Survey_twin self h1).1 _ h2
  rw [h3] at this
  exact this
noncomputable def T_law_b1 (s8 : S_Survey) (k : Int) : Option S_Survey :=
  ((T_Survey_chalk s8).bind okLT).bind fun x10 =>
  some x10.2
noncomputable def T_law_b2 (x1 : (List Int)) (x3 : Int) (s15 : S_Survey) (k_2 : Int) : Option S_Survey :=
  (ixT x1 (3 : Int)).bind fun x17 =>
  (mulT k_2 x17).bind fun x18 =>
  (modT x18 ((1 : Int) + x3)).bind fun x19 =>
  ((T_Survey_row s15 (0 : Int) ((1 : Int) + x19) (0 : Int)).bind okLT).bind fun x20 =>
  some x20.2
noncomputable def T_law (script : (List Int)) : Option Bool :=
  (T_law_numbers script (20 : Int)).bind fun x1 =>
  (ixT x1 (0 : Int)).bind fun x2 =>
  (modT x2 (5 : Int)).bind fun x3 =>
  (ixT x1 (1 : Int)).bind fun x4 =>
  (modT x4 (23 : Int)).bind fun x5 =>
  ((T_Survey_init ((1 : Int) + x3)).bind okT).bind fun x6 =>
  (rg1T ((2 : Int) + x5)).bind fun x7 =>
  (forO T_law_b1 x7 x6).bind fun s8 : S_Survey =>
  ((T_Survey_apart s8 (0 : Int) (1 : Int)).bind okLT).bind fun x11 =>
  (ixT x1 (2 : Int)).bind fun x12 =>
  (modT x12 (2 : Int)).bind fun x13 =>
  (rg1T ((38 : Int) + x13)).bind fun x14 =>
  (forO (T_law_b2 x1 x3) x14 x11.2).bind fun s15 : S_Survey =>
  (some (decide (((38 : Int) + x13) = (39 : Int)))).bind fun x21 =>
  (ixT x1 (4 : Int)).bind fun x22 =>
  (modT x22 (2 : Int)).bind fun x23 =>
  ((ixT x1 (5 : Int)).bind fun x25 => (modT x25 ((1 : Int) + x3)).bind fun x26 => (T_law_told s15 (decide (x23 = (1 : Int))) ((2 : Int) + x5) ((1 : Int) + x26) (0 : Int)).bind fun x27 => (T_law_due ("NoMark" : Str)).bind fun x28 => some ((!decide (x27.1 = ((none : (Option Int)), x28))), x27.2)).bind fun s24 : Bool × S_Survey =>
  if s24.1 = true then
    some false
  else
  ((T_law_told s24.2 false (0 : Int) (((1 : Int) + x3) + (1 : Int)) (0 : Int)).bind fun x30 => (T_law_due ("NoKind" : Str)).bind fun x31 => some ((!decide (x30.1 = ((none : (Option Int)), x31))), x30.2)).bind fun s29 : Bool × S_Survey =>
  if s29.1 = true then
    some false
  else
  (T_law_due ("Barred" : Str)).bind fun x32 =>
  (if x21 = true then
    (T_law_due ("Full" : Str)).bind fun x35 =>
    some ((none : (Option Int)), x35)
    else
    some ((none : (Option Int)), x32)).bind fun s33 : ((Option Int) × (List Bool)) =>
  ((T_law_told s29.2 true (1 : Int) (1 : Int) (1 : Int)).bind fun x37 => (if (!decide (x37.1 = s33)) = true then some (true, x37.2) else ((T_law_told x37.2 false (0 : Int) (1 : Int) (1 : Int)).bind fun x38 => some ((!decide (x38.1 = s33)), x38.2)))).bind fun s36 : Bool × S_Survey =>
  if s36.1 = true then
    some false
  else
  (some ((some (((38 : Int) + x13) + (2 : Int))), ([] : (List Bool)))).bind fun x39 =>
  (if x21 = true then
    (T_law_due ("Full" : Str)).bind fun x42 =>
    some ((none : (Option Int)), x42)
    else
    some x39).bind fun s40 : ((Option Int) × (List Bool)) =>
  ((T_law_told s36.2 (decide (x23 = (1 : Int))) (0 : Int) (1 : Int) (if (decide (x23 = (1 : Int))) = true then (1 : Int) else 0)).bind fun x44 => some ((!decide (x44.1 = s40)), x44.2)).bind fun s43 : Bool × S_Survey =>
  if s43.1 = true then
    some false
  else
  (ixT x1 (6 : Int)).bind fun x45 =>
  (modT x45 ((38 : Int) + x13)).bind fun x46 =>
  (T_law_due ("Full" : Str)).bind fun x47 =>
  ((T_Survey_hold s43.2).bind fun x49 => (if (!decide (x49.1 = (1 : Int))) = true then some (true, x49.2) else (((T_Survey_strike x49.2 ((2 : Int) + x46)).bind okLT).bind fun x50 => (if (!decide (x50.1 = ((2 : Int) + x46))) = true then some (true, x50.2) else (((T_Survey_back x50.2 (1 : Int)).bind okLT).bind fun x51 => some ((!decide (x51.1 = (1 : Int))), x51.2)))))).bind fun s48 : Bool × S_Survey =>
  if s48.1 = true then
    some false
  else
  ((T_Survey_twin s48.2).bind okLT).bind fun x52 =>
  ((T_law_told x52.2 (decide (x23 = (1 : Int))) (0 : Int) (1 : Int) (if (decide (x23 = (1 : Int))) = true then (1 : Int) else 0)).bind fun x54 => (if (!decide (x54.1 = ((none : (Option Int)), x47))) = true then some (true, x54.2) else ((T_law_told x54.2 true (0 : Int) (1 : Int) (1 : Int)).bind fun x55 => some ((!decide (x55.1 = ((none : (Option Int)), x47))), x55.2)))).bind fun s53 : Bool × S_Survey =>
  if s53.1 = true then
    some false
  else
  ((T_law_told x52.1 (decide (x23 = (1 : Int))) (0 : Int) (1 : Int) (if (decide (x23 = (1 : Int))) = true then (1 : Int) else 0)).bind fun x57 => (if (!decide (x57.1 = ((none : (Option Int)), x47))) = true then some (true, x57.2) else ((T_law_told x57.2 true (0 : Int) (1 : Int) (1 : Int)).bind fun x58 => some ((!decide (x58.1 = ((none : (Option Int)), x47))), x58.2)))).bind fun s56 : Bool × S_Survey =>
  if s56.1 = true then
    some false
  else
  (((T_Survey_strike s53.2 ((2 : Int) + x46)).bind okLT).bind fun x60 => some ((!decide (x60.1 = ((2 : Int) + x46))), x60.2)).bind fun s59 : Bool × S_Survey =>
  if s59.1 = true then
    some false
  else
  (T_law_told s59.2 (decide (x23 = (1 : Int))) (0 : Int) (1 : Int) (if (decide (x23 = (1 : Int))) = true then (1 : Int) else 0)).bind fun x61 =>
  some (decide (x61.1 = ((some ((((38 : Int) + x13) + (3 : Int)) - (if x21 = true then (1 : Int) else 0))), ([] : (List Bool)))))
theorem ts_law (script : (List Int)) : Sm (RoV D.bl (fun _ _ => True)) (T_law script) (g_law [((eL D.int) script), .non, .non, .non, .non, .non, .non, .non, .non, .non, .non, .non, .non]) := by
  unfold T_law
  exact (sm_bind fun x1 h_x1 => (sn_set ((eL D.int) x1) [((eL D.int) script), ((eL D.int) x1), .non, .non, .non, .non, .non, .non, .non, .non, .non, .non, .non] (yi_scr rfl yi_c (tf_law_numbers _ _ h_x1)) rfl (sm_bind fun x2 h_x2 => (sm_bind fun x3 h_x3 => (sn_set (D.int ((1 : Int) + x3)) [((eL D.int) script), ((eL D.int) x1), (D.int ((1 : Int) + x3)), .non, .non, .non, .non, .non, .non, .non, .non, .non, .non] (yi_op yi_c (yi_op (yi_op (yi_var rfl) yi_c (ixT_ok _ _ _ h_x2)) yi_c (modT_ok _ _ _ h_x3)) rfl) rfl (sm_bind fun x4 h_x4 => (sm_bind fun x5 h_x5 => (sn_set (D.int ((2 : Int) + x5)) [((eL D.int) script), ((eL D.int) x1), (D.int ((1 : Int) + x3)), (D.int ((2 : Int) + x5)), .non, .non, .non, .non, .non, .non, .non, .non, .non] (yi_op yi_c (yi_op (yi_op (yi_var rfl) yi_c (ixT_ok _ _ _ h_x4)) yi_c (modT_ok _ _ _ h_x5)) rfl) rfl (sm_bind fun x6 h_x6 => (sn_set (em_Survey x6) [((eL D.int) script), ((eL D.int) x1), (D.int ((1 : Int) + x3)), (D.int ((2 : Int) + x5)), (em_Survey x6), .non, .non, .non, .non, .non, .non, .non, .non] (yi_mkN (ya_cons (x := (D.int ((1 : Int) + x3))) (yi_var rfl) ya_nil) (tn_Survey_init _ h_x6)) rfl (sm_bind fun x7 h_x7 => (sn_for (e := D.int) (B := T_law_b1) (s0 := x6) (fun (s8 : S_Survey) (δ9 : Nat → D) => [((eL D.int) script), ((eL D.int) x1), (D.int ((1 : Int) + x3)), (D.int ((2 : Int) + x5)), (em_Survey s8), (δ9 5), .non, .non, .non, .non, .non, .non, .non]) (sr_r1 (yi_var rfl) h_x7) (by first | rfl | (simp [eL, List.map_set, List.map_append, List.map_map, Function.comp_def]; done) | (simp [eL, eO, List.map_set, List.map_append, List.map_map, Function.comp_def]; rfl)) (fun s8 k δ9 => sm_env (env' := [((eL D.int) script), ((eL D.int) x1), (D.int ((1 : Int) + x3)), (D.int ((2 : Int) + x5)), (em_Survey s8), (D.int k), .non, .non, .non, .non, .non, .non, .non]) rfl (sm_bind fun x10 h_x10 => (sm_end (sn_dropE [((eL D.int) script), ((eL D.int) x1), (D.int ((1 : Int) + x3)), (D.int ((2 : Int) + x5)), (em_Survey x10.2), (D.int k), .non, .non, .non, .non, .non, .non, .non] (ye_meN (x := (em_Survey s8)) [((eL D.int) script), ((eL D.int) x1), (D.int ((1 : Int) + x3)), (D.int ((2 : Int) + x5)), (em_Survey x10.2), (D.int k), .non, .non, .non, .non, .non, .non, .non] (pt_var rfl).val (io_Survey_chalk _) ya_nil (tn_Survey_chalk _ h_x10) (fun e h => (up_s rfl h (show updL [] _ _ _ _ = _ from congrArg some (by first | rfl | (simp [eL, List.map_set, List.map_append, List.map_map, Function.comp_def]; done) | (simp [eL, eO, List.map_set, List.map_append, List.map_map, Function.comp_def]; rfl)))))) (sn_fall _ (by first | rfl | (simp [eL, List.map_set, List.map_append, List.map_map, Function.comp_def]; done) | (simp [eL, eO, List.map_set, List.map_append, List.map_map, Function.comp_def]; rfl))))))) (fun s8 δ9 => (sm_bind fun x11 h_x11 => (sn_dropE [((eL D.int) script), ((eL D.int) x1), (D.int ((1 : Int) + x3)), (D.int ((2 : Int) + x5)), (em_Survey x11.2), (δ9 5), .non, .non, .non, .non, .non, .non, .non] (ye_meN (x := (em_Survey s8)) [((eL D.int) script), ((eL D.int) x1), (D.int ((1 : Int) + x3)), (D.int ((2 : Int) + x5)), (em_Survey x11.2), (δ9 5), .non, .non, .non, .non, .non, .non, .non] (pt_var rfl).val (io_Survey_apart _) (ya_cons (x := (D.int (0 : Int))) yi_c (ya_cons (x := (D.int (1 : Int))) yi_c ya_nil)) (tn_Survey_apart _ _ _ h_x11) (fun e h => (up_s rfl h (up_n (up_n (show updL [] _ _ _ _ = _ from congrArg some (by first | rfl | (simp [eL, List.map_set, List.map_append, List.map_map, Function.comp_def]; done) | (simp [eL, eO, List.map_set, List.map_append, List.map_map, Function.comp_def]; rfl)))))))) (sm_bind fun x12 h_x12 => (sm_bind fun x13 h_x13 => (sn_set (D.int ((38 : Int) + x13)) [((eL D.int) script), ((eL D.int) x1), (D.int ((1 : Int) + x3)), (D.int ((2 : Int) + x5)), (em_Survey x11.2), (δ9 5), (D.int ((38 : Int) + x13)), .non, .non, .non, .non, .non, .non] (yi_op yi_c (yi_op (yi_op (yi_var rfl) yi_c (ixT_ok _ _ _ h_x12)) yi_c (modT_ok _ _ _ h_x13)) rfl) rfl (sm_bind fun x14 h_x14 => (sn_for (e := D.int) (B := T_law_b2 x1 x3) (s0 := x11.2) (fun (s15 : S_Survey) (δ16 : Nat → D) => [((eL D.int) script), ((eL D.int) x1), (D.int ((1 : Int) + x3)), (D.int ((2 : Int) + x5)), (em_Survey s15), (δ16 5), (D.int ((38 : Int) + x13)), .non, .non, .non, .non, .non, .non]) (sr_r1 (yi_var rfl) h_x14) (by first | rfl | (simp [eL, List.map_set, List.map_append, List.map_map, Function.comp_def]; done) | (simp [eL, eO, List.map_set, List.map_append, List.map_map, Function.comp_def]; rfl)) (fun s15 k_2 δ16 => sm_env (env' := [((eL D.int) script), ((eL D.int) x1), (D.int ((1 : Int) + x3)), (D.int ((2 : Int) + x5)), (em_Survey s15), (D.int k_2), (D.int ((38 : Int) + x13)), .non, .non, .non, .non, .non, .non]) rfl (sm_bind fun x17 h_x17 => (sm_bind fun x18 h_x18 => (sm_bind fun x19 h_x19 => (sm_bind fun x20 h_x20 => (sm_end (sn_dropE [((eL D.int) script), ((eL D.int) x1), (D.int ((1 : Int) + x3)), (D.int ((2 : Int) + x5)), (em_Survey x20.2), (D.int k_2), (D.int ((38 : Int) + x13)), .non, .non, .non, .non, .non, .non] (ye_meN (x := (em_Survey s15)) [((eL D.int) script), ((eL D.int) x1), (D.int ((1 : Int) + x3)), (D.int ((2 : Int) + x5)), (em_Survey x20.2), (D.int k_2), (D.int ((38 : Int) + x13)), .non, .non, .non, .non, .non, .non] (pt_var rfl).val (io_Survey_row _) (ya_cons (x := (D.int (0 : Int))) yi_c (ya_cons (x := (D.int ((1 : Int) + x19))) (yi_op yi_c (yi_op (yi_op (yi_var rfl) (yi_op (yi_var rfl) yi_c (ixT_ok _ _ _ h_x17)) (mulT_ok _ _ _ h_x18)) (yi_var rfl) (modT_ok _ _ _ h_x19)) rfl) (ya_cons (x := (D.int (0 : Int))) yi_c ya_nil))) (tn_Survey_row _ _ _ _ h_x20) (fun e h => (up_s rfl h (up_n (up_n (up_n (show updL [] _ _ _ _ = _ from congrArg some (by first | rfl | (simp [eL, List.map_set, List.map_append, List.map_map, Function.comp_def]; done) | (simp [eL, eO, List.map_set, List.map_append, List.map_map, Function.comp_def]; rfl))))))))) (sn_fall _ (by first | rfl | (simp [eL, List.map_set, List.map_append, List.map_map, Function.comp_def]; done) | (simp [eL, eO, List.map_set, List.map_append, List.map_map, Function.comp_def]; rfl)))))))))) (fun s15 δ16 => (sm_bind fun x21 h_x21 => (sn_set (D.bl x21) [((eL D.int) script), ((eL D.int) x1), (D.int ((1 : Int) + x3)), (D.int ((2 : Int) + x5)), (em_Survey s15), (δ16 5), (D.int ((38 : Int) + x13)), (D.bl x21), .non, .non, .non, .non, .non] (yi_nm (e := D.bl) h_x21 (yi_op (x := (D.int ((38 : Int) + x13))) (y := (D.int (39 : Int))) (yi_var rfl) yi_c (Eqb.eq eqb_int (by decide) ((38 : Int) + x13) (39 : Int)))) rfl (sm_bind fun x22 h_x22 => (sm_bind fun x23 h_x23 => (sn_set (D.bl (decide (x23 = (1 : Int)))) [((eL D.int) script), ((eL D.int) x1), (D.int ((1 : Int) + x3)), (D.int ((2 : Int) + x5)), (em_Survey s15), (δ16 5), (D.int ((38 : Int) + x13)), (D.bl x21), (D.bl (decide (x23 = (1 : Int)))), .non, .non, .non, .non] (yi_op (x := (D.int x23)) (y := (D.int (1 : Int))) (yi_op (yi_op (yi_var rfl) yi_c (ixT_ok _ _ _ h_x22)) yi_c (modT_ok _ _ _ h_x23)) yi_c (Eqb.eq eqb_int (by decide) x23 (1 : Int))) rfl (sn_ifT (fun z : S_Survey => [((eL D.int) script), ((eL D.int) x1), (D.int ((1 : Int) + x3)), (D.int ((2 : Int) + x5)), (em_Survey z), (δ16 5), (D.int ((38 : Int) + x13)), (D.bl x21), (D.bl (decide (x23 = (1 : Int)))), .non, .non, .non, .non]) (tt_bind fun x25 h_x25 => (tt_bind fun x26 h_x26 => (tt_bind fun x27 h_x27 => (tt_bind fun x28 h_x28 => (tt_eff (ye_op (x := ((e2 (eO D.int) (eL D.bl)) x27.1)) (ye_callN [((eL D.int) script), ((eL D.int) x1), (D.int ((1 : Int) + x3)), (D.int ((2 : Int) + x5)), (em_Survey x27.2), (δ16 5), (D.int ((38 : Int) + x13)), (D.bl x21), (D.bl (decide (x23 = (1 : Int)))), .non, .non, .non, .non] (ya_cons (x := (em_Survey s15)) (pt_var rfl).val (ya_cons (x := (D.bl (decide (x23 = (1 : Int))))) (yi_var rfl) (ya_cons (x := (D.int ((2 : Int) + x5))) (yi_var rfl) (ya_cons (x := (D.int ((1 : Int) + x26))) (yi_op yi_c (yi_op (yi_op (yi_var rfl) yi_c (ixT_ok _ _ _ h_x25)) (yi_var rfl) (modT_ok _ _ _ h_x26)) rfl) (ya_cons (x := (D.int (0 : Int))) yi_c ya_nil))))) (tf_law_told _ _ _ _ _ h_x27) (fun e h => (up_s rfl h (up_n (up_n (up_n (up_n (show updL [] _ _ _ _ = _ from congrArg some (by first | rfl | (simp [eL, List.map_set, List.map_append, List.map_map, Function.comp_def]; done) | (simp [eL, eO, List.map_set, List.map_append, List.map_map, Function.comp_def]; rfl)))))))))) (yi_op (x := ((e2 (eO D.int) (eL D.bl)) x27.1)) (y := ((e2 (eO D.int) (eL D.bl)) ((none : (Option Int)), x28))) (yi_k (env := [((eL D.int) script), ((eL D.int) x1), (D.int ((1 : Int) + x3)), (D.int ((2 : Int) + x5)), (em_Survey x27.2), (δ16 5), (D.int ((38 : Int) + x13)), (D.bl x21), (D.bl (decide (x23 = (1 : Int)))), .non, .non, .non, .non])) (yi_tup (ds := [((eO D.int) (none : (Option Int))), ((eL D.bl) x28)]) (ya_cons (x := ((eO D.int) (none : (Option Int)))) yi_c (ya_cons (x := ((eL D.bl) x28)) (yi_fnN (ya_cons (x := (D.str ("NoMark" : Str))) yi_c ya_nil) (tf_law_due _ h_x28)) ya_nil)) (show 2 ≤ 100 from by decide)) (Eqb.ne (eqb_2 (Eqb.le (eqb_O eqb_int (fun _ => ⟨rfl, rfl⟩)) (by decide : 0 ≤ 1)) (Eqb.le (eqb_L eqb_bl) (by decide : 1 ≤ 1))) (by decide) x27.1 ((none : (Option Int)), x28)))) (by first | rfl | (simp [eL, List.map_set, List.map_append, List.map_map, Function.comp_def]; done) | (simp [eL, eO, List.map_set, List.map_append, List.map_map, Function.comp_def]; rfl))))))) (fun s24 => (sn_ifA rfl (sn_ret (D.bl false) yi_c (rx_in (rv trivial) rfl)) (sn_skip (sn_ifT (fun z : S_Survey => [((eL D.int) script), ((eL D.int) x1), (D.int ((1 : Int) + x3)), (D.int ((2 : Int) + x5)), (em_Survey z), (δ16 5), (D.int ((38 : Int) + x13)), (D.bl x21), (D.bl (decide (x23 = (1 : Int)))), .non, .non, .non, .non]) (tt_bind fun x30 h_x30 => (tt_bind fun x31 h_x31 => (tt_eff (ye_op (x := ((e2 (eO D.int) (eL D.bl)) x30.1)) (ye_callN [((eL D.int) script), ((eL D.int) x1), (D.int ((1 : Int) + x3)), (D.int ((2 : Int) + x5)), (em_Survey x30.2), (δ16 5), (D.int ((38 : Int) + x13)), (D.bl x21), (D.bl (decide (x23 = (1 : Int)))), .non, .non, .non, .non] (ya_cons (x := (em_Survey s24.2)) (pt_var rfl).val (ya_cons (x := (D.bl false)) yi_c (ya_cons (x := (D.int (0 : Int))) yi_c (ya_cons (x := (D.int (((1 : Int) + x3) + (1 : Int)))) (yi_op (yi_var rfl) yi_c rfl) (ya_cons (x := (D.int (0 : Int))) yi_c ya_nil))))) (tf_law_told _ _ _ _ _ h_x30) (fun e h => (up_s rfl h (up_n (up_n (up_n (up_n (show updL [] _ _ _ _ = _ from congrArg some (by first | rfl | (simp [eL, List.map_set, List.map_append, List.map_map, Function.comp_def]; done) | (simp [eL, eO, List.map_set, List.map_append, List.map_map, Function.comp_def]; rfl)))))))))) (yi_op (x := ((e2 (eO D.int) (eL D.bl)) x30.1)) (y := ((e2 (eO D.int) (eL D.bl)) ((none : (Option Int)), x31))) (yi_k (env := [((eL D.int) script), ((eL D.int) x1), (D.int ((1 : Int) + x3)), (D.int ((2 : Int) + x5)), (em_Survey x30.2), (δ16 5), (D.int ((38 : Int) + x13)), (D.bl x21), (D.bl (decide (x23 = (1 : Int)))), .non, .non, .non, .non])) (yi_tup (ds := [((eO D.int) (none : (Option Int))), ((eL D.bl) x31)]) (ya_cons (x := ((eO D.int) (none : (Option Int)))) yi_c (ya_cons (x := ((eL D.bl) x31)) (yi_fnN (ya_cons (x := (D.str ("NoKind" : Str))) yi_c ya_nil) (tf_law_due _ h_x31)) ya_nil)) (show 2 ≤ 100 from by decide)) (Eqb.ne (eqb_2 (Eqb.le (eqb_O eqb_int (fun _ => ⟨rfl, rfl⟩)) (by decide : 0 ≤ 1)) (Eqb.le (eqb_L eqb_bl) (by decide : 1 ≤ 1))) (by decide) x30.1 ((none : (Option Int)), x31)))) (by first | rfl | (simp [eL, List.map_set, List.map_append, List.map_map, Function.comp_def]; done) | (simp [eL, eO, List.map_set, List.map_append, List.map_map, Function.comp_def]; rfl))))) (fun s29 => (sn_ifA rfl (sn_ret (D.bl false) yi_c (rx_in (rv trivial) rfl)) (sn_skip (sm_bind fun x32 h_x32 => (sn_set ((e2 (eO D.int) (eL D.bl)) ((none : (Option Int)), x32)) [((eL D.int) script), ((eL D.int) x1), (D.int ((1 : Int) + x3)), (D.int ((2 : Int) + x5)), (em_Survey s29.2), (δ16 5), (D.int ((38 : Int) + x13)), (D.bl x21), (D.bl (decide (x23 = (1 : Int)))), ((e2 (eO D.int) (eL D.bl)) ((none : (Option Int)), x32)), .non, .non, .non] (yi_tup (ds := [((eO D.int) (none : (Option Int))), ((eL D.bl) x32)]) (ya_cons (x := ((eO D.int) (none : (Option Int)))) yi_c (ya_cons (x := ((eL D.bl) x32)) (yi_fnN (ya_cons (x := (D.str ("Barred" : Str))) yi_c ya_nil) (tf_law_due _ h_x32)) ya_nil)) (show 2 ≤ 100 from by decide)) rfl (sn_if (fun (s33 : ((Option Int) × (List Bool))) (δ34 : Nat → D) => [((eL D.int) script), ((eL D.int) x1), (D.int ((1 : Int) + x3)), (D.int ((2 : Int) + x5)), (em_Survey s29.2), (δ16 5), (D.int ((38 : Int) + x13)), (D.bl x21), (D.bl (decide (x23 = (1 : Int)))), ((e2 (eO D.int) (eL D.bl)) s33), .non, .non, .non]) (te_T (yi_var rfl)) (sm_bind fun x35 h_x35 => (sm_end (sn_set ((e2 (eO D.int) (eL D.bl)) ((none : (Option Int)), x35)) [((eL D.int) script), ((eL D.int) x1), (D.int ((1 : Int) + x3)), (D.int ((2 : Int) + x5)), (em_Survey s29.2), (δ16 5), (D.int ((38 : Int) + x13)), (D.bl x21), (D.bl (decide (x23 = (1 : Int)))), ((e2 (eO D.int) (eL D.bl)) ((none : (Option Int)), x35)), .non, .non, .non] (yi_tup (ds := [((eO D.int) (none : (Option Int))), ((eL D.bl) x35)]) (ya_cons (x := ((eO D.int) (none : (Option Int)))) yi_c (ya_cons (x := ((eL D.bl) x35)) (yi_fnN (ya_cons (x := (D.str ("Full" : Str))) yi_c ya_nil) (tf_law_due _ h_x35)) ya_nil)) (show 2 ≤ 100 from by decide)) rfl (sn_fall _ (by first | rfl | (simp [eL, List.map_set, List.map_append, List.map_map, Function.comp_def]; done) | (simp [eL, eO, List.map_set, List.map_append, List.map_map, Function.comp_def]; rfl)))))) (sn_fall _ (by first | rfl | (simp [eL, List.map_set, List.map_append, List.map_map, Function.comp_def]; done) | (simp [eL, eO, List.map_set, List.map_append, List.map_map, Function.comp_def]; rfl))) (fun s33 δ34 => (sn_ifT (fun z : S_Survey => [((eL D.int) script), ((eL D.int) x1), (D.int ((1 : Int) + x3)), (D.int ((2 : Int) + x5)), (em_Survey z), (δ16 5), (D.int ((38 : Int) + x13)), (D.bl x21), (D.bl (decide (x23 = (1 : Int)))), ((e2 (eO D.int) (eL D.bl)) s33), .non, .non, .non]) (tt_bind fun x37 h_x37 => (tt_or (tt_eff (ye_op (x := ((e2 (eO D.int) (eL D.bl)) x37.1)) (ye_callN [((eL D.int) script), ((eL D.int) x1), (D.int ((1 : Int) + x3)), (D.int ((2 : Int) + x5)), (em_Survey x37.2), (δ16 5), (D.int ((38 : Int) + x13)), (D.bl x21), (D.bl (decide (x23 = (1 : Int)))), ((e2 (eO D.int) (eL D.bl)) s33), .non, .non, .non] (ya_cons (x := (em_Survey s29.2)) (pt_var rfl).val (ya_cons (x := (D.bl true)) yi_c (ya_cons (x := (D.int (1 : Int))) yi_c (ya_cons (x := (D.int (1 : Int))) yi_c (ya_cons (x := (D.int (1 : Int))) yi_c ya_nil))))) (tf_law_told _ _ _ _ _ h_x37) (fun e h => (up_s rfl h (up_n (up_n (up_n (up_n (show updL [] _ _ _ _ = _ from congrArg some (by first | rfl | (simp [eL, List.map_set, List.map_append, List.map_map, Function.comp_def]; done) | (simp [eL, eO, List.map_set, List.map_append, List.map_map, Function.comp_def]; rfl)))))))))) (yi_op (x := ((e2 (eO D.int) (eL D.bl)) x37.1)) (y := ((e2 (eO D.int) (eL D.bl)) s33)) (yi_k (env := [((eL D.int) script), ((eL D.int) x1), (D.int ((1 : Int) + x3)), (D.int ((2 : Int) + x5)), (em_Survey x37.2), (δ16 5), (D.int ((38 : Int) + x13)), (D.bl x21), (D.bl (decide (x23 = (1 : Int)))), ((e2 (eO D.int) (eL D.bl)) s33), .non, .non, .non])) (yi_var rfl) (Eqb.ne (eqb_2 (Eqb.le (eqb_O eqb_int (fun _ => ⟨rfl, rfl⟩)) (by decide : 0 ≤ 1)) (Eqb.le (eqb_L eqb_bl) (by decide : 1 ≤ 1))) (by decide) x37.1 s33))) (by first | rfl | (simp [eL, List.map_set, List.map_append, List.map_map, Function.comp_def]; done) | (simp [eL, eO, List.map_set, List.map_append, List.map_map, Function.comp_def]; rfl))) (tt_bind fun x38 h_x38 => (tt_eff (ye_op (x := ((e2 (eO D.int) (eL D.bl)) x38.1)) (ye_callN [((eL D.int) script), ((eL D.int) x1), (D.int ((1 : Int) + x3)), (D.int ((2 : Int) + x5)), (em_Survey x38.2), (δ16 5), (D.int ((38 : Int) + x13)), (D.bl x21), (D.bl (decide (x23 = (1 : Int)))), ((e2 (eO D.int) (eL D.bl)) s33), .non, .non, .non] (ya_cons (x := (em_Survey x37.2)) (pt_var rfl).val (ya_cons (x := (D.bl false)) yi_c (ya_cons (x := (D.int (0 : Int))) yi_c (ya_cons (x := (D.int (1 : Int))) yi_c (ya_cons (x := (D.int (1 : Int))) yi_c ya_nil))))) (tf_law_told _ _ _ _ _ h_x38) (fun e h => (up_s rfl h (up_n (up_n (up_n (up_n (show updL [] _ _ _ _ = _ from congrArg some (by first | rfl | (simp [eL, List.map_set, List.map_append, List.map_map, Function.comp_def]; done) | (simp [eL, eO, List.map_set, List.map_append, List.map_map, Function.comp_def]; rfl)))))))))) (yi_op (x := ((e2 (eO D.int) (eL D.bl)) x38.1)) (y := ((e2 (eO D.int) (eL D.bl)) s33)) (yi_k (env := [((eL D.int) script), ((eL D.int) x1), (D.int ((1 : Int) + x3)), (D.int ((2 : Int) + x5)), (em_Survey x38.2), (δ16 5), (D.int ((38 : Int) + x13)), (D.bl x21), (D.bl (decide (x23 = (1 : Int)))), ((e2 (eO D.int) (eL D.bl)) s33), .non, .non, .non])) (yi_var rfl) (Eqb.ne (eqb_2 (Eqb.le (eqb_O eqb_int (fun _ => ⟨rfl, rfl⟩)) (by decide : 0 ≤ 1)) (Eqb.le (eqb_L eqb_bl) (by decide : 1 ≤ 1))) (by decide) x38.1 s33))) (by first | rfl | (simp [eL, List.map_set, List.map_append, List.map_map, Function.comp_def]; done) | (simp [eL, eO, List.map_set, List.map_append, List.map_map, Function.comp_def]; rfl)))))) (fun s36 => (sn_ifA rfl (sn_ret (D.bl false) yi_c (rx_in (rv trivial) rfl)) (sn_skip (sm_bind fun x39 h_x39 => (sn_set ((e2 (eO D.int) (eL D.bl)) x39) [((eL D.int) script), ((eL D.int) x1), (D.int ((1 : Int) + x3)), (D.int ((2 : Int) + x5)), (em_Survey s36.2), (δ16 5), (D.int ((38 : Int) + x13)), (D.bl x21), (D.bl (decide (x23 = (1 : Int)))), ((e2 (eO D.int) (eL D.bl)) x39), .non, .non, .non] (yi_nm (e := (e2 (eO D.int) (eL D.bl))) h_x39 (yi_tup (ds := [((eO D.int) (some (((38 : Int) + x13) + (2 : Int)))), ((eL D.bl) ([] : (List Bool)))]) (ya_cons (x := ((eO D.int) (some (((38 : Int) + x13) + (2 : Int))))) (yi_op (yi_var rfl) yi_c rfl) (ya_cons (x := ((eL D.bl) ([] : (List Bool)))) (yi_lst ya_nil) ya_nil)) (show 2 ≤ 100 from by decide))) rfl (sn_if (fun (s40 : ((Option Int) × (List Bool))) (δ41 : Nat → D) => [((eL D.int) script), ((eL D.int) x1), (D.int ((1 : Int) + x3)), (D.int ((2 : Int) + x5)), (em_Survey s36.2), (δ16 5), (D.int ((38 : Int) + x13)), (D.bl x21), (D.bl (decide (x23 = (1 : Int)))), ((e2 (eO D.int) (eL D.bl)) s40), .non, .non, .non]) (te_T (yi_var rfl)) (sm_bind fun x42 h_x42 => (sm_end (sn_set ((e2 (eO D.int) (eL D.bl)) ((none : (Option Int)), x42)) [((eL D.int) script), ((eL D.int) x1), (D.int ((1 : Int) + x3)), (D.int ((2 : Int) + x5)), (em_Survey s36.2), (δ16 5), (D.int ((38 : Int) + x13)), (D.bl x21), (D.bl (decide (x23 = (1 : Int)))), ((e2 (eO D.int) (eL D.bl)) ((none : (Option Int)), x42)), .non, .non, .non] (yi_tup (ds := [((eO D.int) (none : (Option Int))), ((eL D.bl) x42)]) (ya_cons (x := ((eO D.int) (none : (Option Int)))) yi_c (ya_cons (x := ((eL D.bl) x42)) (yi_fnN (ya_cons (x := (D.str ("Full" : Str))) yi_c ya_nil) (tf_law_due _ h_x42)) ya_nil)) (show 2 ≤ 100 from by decide)) rfl (sn_fall _ (by first | rfl | (simp [eL, List.map_set, List.map_append, List.map_map, Function.comp_def]; done) | (simp [eL, eO, List.map_set, List.map_append, List.map_map, Function.comp_def]; rfl)))))) (sn_fall _ (by first | rfl | (simp [eL, List.map_set, List.map_append, List.map_map, Function.comp_def]; done) | (simp [eL, eO, List.map_set, List.map_append, List.map_map, Function.comp_def]; rfl))) (fun s40 δ41 => (sn_ifT (fun z : S_Survey => [((eL D.int) script), ((eL D.int) x1), (D.int ((1 : Int) + x3)), (D.int ((2 : Int) + x5)), (em_Survey z), (δ16 5), (D.int ((38 : Int) + x13)), (D.bl x21), (D.bl (decide (x23 = (1 : Int)))), ((e2 (eO D.int) (eL D.bl)) s40), .non, .non, .non]) (tt_bind fun x44 h_x44 => (tt_eff (ye_op (x := ((e2 (eO D.int) (eL D.bl)) x44.1)) (ye_callN [((eL D.int) script), ((eL D.int) x1), (D.int ((1 : Int) + x3)), (D.int ((2 : Int) + x5)), (em_Survey x44.2), (δ16 5), (D.int ((38 : Int) + x13)), (D.bl x21), (D.bl (decide (x23 = (1 : Int)))), ((e2 (eO D.int) (eL D.bl)) s40), .non, .non, .non] (ya_cons (x := (em_Survey s36.2)) (pt_var rfl).val (ya_cons (x := (D.bl (decide (x23 = (1 : Int))))) (yi_var rfl) (ya_cons (x := (D.int (0 : Int))) yi_c (ya_cons (x := (D.int (1 : Int))) yi_c (ya_cons (x := (D.int (if (decide (x23 = (1 : Int))) = true then (1 : Int) else 0))) (yi_call (ya_cons (yi_var rfl) ya_nil) rfl) ya_nil))))) (tf_law_told _ _ _ _ _ h_x44) (fun e h => (up_s rfl h (up_n (up_n (up_n (up_n (show updL [] _ _ _ _ = _ from congrArg some (by first | rfl | (simp [eL, List.map_set, List.map_append, List.map_map, Function.comp_def]; done) | (simp [eL, eO, List.map_set, List.map_append, List.map_map, Function.comp_def]; rfl)))))))))) (yi_op (x := ((e2 (eO D.int) (eL D.bl)) x44.1)) (y := ((e2 (eO D.int) (eL D.bl)) s40)) (yi_k (env := [((eL D.int) script), ((eL D.int) x1), (D.int ((1 : Int) + x3)), (D.int ((2 : Int) + x5)), (em_Survey x44.2), (δ16 5), (D.int ((38 : Int) + x13)), (D.bl x21), (D.bl (decide (x23 = (1 : Int)))), ((e2 (eO D.int) (eL D.bl)) s40), .non, .non, .non])) (yi_var rfl) (Eqb.ne (eqb_2 (Eqb.le (eqb_O eqb_int (fun _ => ⟨rfl, rfl⟩)) (by decide : 0 ≤ 1)) (Eqb.le (eqb_L eqb_bl) (by decide : 1 ≤ 1))) (by decide) x44.1 s40))) (by first | rfl | (simp [eL, List.map_set, List.map_append, List.map_map, Function.comp_def]; done) | (simp [eL, eO, List.map_set, List.map_append, List.map_map, Function.comp_def]; rfl)))) (fun s43 => (sn_ifA rfl (sn_ret (D.bl false) yi_c (rx_in (rv trivial) rfl)) (sn_skip (sm_bind fun x45 h_x45 => (sm_bind fun x46 h_x46 => (sn_set (D.int ((2 : Int) + x46)) [((eL D.int) script), ((eL D.int) x1), (D.int ((1 : Int) + x3)), (D.int ((2 : Int) + x5)), (em_Survey s43.2), (δ16 5), (D.int ((38 : Int) + x13)), (D.bl x21), (D.bl (decide (x23 = (1 : Int)))), ((e2 (eO D.int) (eL D.bl)) s40), (D.int ((2 : Int) + x46)), .non, .non] (yi_op yi_c (yi_op (yi_op (yi_var rfl) yi_c (ixT_ok _ _ _ h_x45)) (yi_var rfl) (modT_ok _ _ _ h_x46)) rfl) rfl (sm_bind fun x47 h_x47 => (sn_set ((e2 eU (eL D.bl)) ((), x47)) [((eL D.int) script), ((eL D.int) x1), (D.int ((1 : Int) + x3)), (D.int ((2 : Int) + x5)), (em_Survey s43.2), (δ16 5), (D.int ((38 : Int) + x13)), (D.bl x21), (D.bl (decide (x23 = (1 : Int)))), ((e2 (eO D.int) (eL D.bl)) s40), (D.int ((2 : Int) + x46)), ((e2 eU (eL D.bl)) ((), x47)), .non] (yi_tup (ds := [(eU ()), ((eL D.bl) x47)]) (ya_cons (x := (eU ())) yi_c (ya_cons (x := ((eL D.bl) x47)) (yi_fnN (ya_cons (x := (D.str ("Full" : Str))) yi_c ya_nil) (tf_law_due _ h_x47)) ya_nil)) (show 2 ≤ 100 from by decide)) rfl (sn_ifT (fun z : S_Survey => [((eL D.int) script), ((eL D.int) x1), (D.int ((1 : Int) + x3)), (D.int ((2 : Int) + x5)), (em_Survey z), (δ16 5), (D.int ((38 : Int) + x13)), (D.bl x21), (D.bl (decide (x23 = (1 : Int)))), ((e2 (eO D.int) (eL D.bl)) s40), (D.int ((2 : Int) + x46)), ((e2 eU (eL D.bl)) ((), x47)), .non]) (tt_bind fun x49 h_x49 => (tt_or (tt_eff (ye_op (x := (D.int x49.1)) (ye_meN (x := (em_Survey s43.2)) [((eL D.int) script), ((eL D.int) x1), (D.int ((1 : Int) + x3)), (D.int ((2 : Int) + x5)), (em_Survey x49.2), (δ16 5), (D.int ((38 : Int) + x13)), (D.bl x21), (D.bl (decide (x23 = (1 : Int)))), ((e2 (eO D.int) (eL D.bl)) s40), (D.int ((2 : Int) + x46)), ((e2 eU (eL D.bl)) ((), x47)), .non] (pt_var rfl).val (io_Survey_hold _) ya_nil (tf_Survey_hold _ h_x49) (fun e h => (up_s rfl h (show updL [] _ _ _ _ = _ from congrArg some (by first | rfl | (simp [eL, List.map_set, List.map_append, List.map_map, Function.comp_def]; done) | (simp [eL, eO, List.map_set, List.map_append, List.map_map, Function.comp_def]; rfl)))))) (yi_op (x := (D.int x49.1)) (y := (D.int (1 : Int))) (yi_k (env := [((eL D.int) script), ((eL D.int) x1), (D.int ((1 : Int) + x3)), (D.int ((2 : Int) + x5)), (em_Survey x49.2), (δ16 5), (D.int ((38 : Int) + x13)), (D.bl x21), (D.bl (decide (x23 = (1 : Int)))), ((e2 (eO D.int) (eL D.bl)) s40), (D.int ((2 : Int) + x46)), ((e2 eU (eL D.bl)) ((), x47)), .non])) yi_c (Eqb.ne eqb_int (by decide) x49.1 (1 : Int)))) (by first | rfl | (simp [eL, List.map_set, List.map_append, List.map_map, Function.comp_def]; done) | (simp [eL, eO, List.map_set, List.map_append, List.map_map, Function.comp_def]; rfl))) (tt_bind fun x50 h_x50 => (tt_or (tt_eff (ye_op (x := (D.int x50.1)) (ye_meN (x := (em_Survey x49.2)) [((eL D.int) script), ((eL D.int) x1), (D.int ((1 : Int) + x3)), (D.int ((2 : Int) + x5)), (em_Survey x50.2), (δ16 5), (D.int ((38 : Int) + x13)), (D.bl x21), (D.bl (decide (x23 = (1 : Int)))), ((e2 (eO D.int) (eL D.bl)) s40), (D.int ((2 : Int) + x46)), ((e2 eU (eL D.bl)) ((), x47)), .non] (pt_var rfl).val (io_Survey_strike _) (ya_cons (x := (D.int ((2 : Int) + x46))) (yi_var rfl) ya_nil) (tn_Survey_strike _ _ h_x50) (fun e h => (up_s rfl h (up_n (show updL [] _ _ _ _ = _ from congrArg some (by first | rfl | (simp [eL, List.map_set, List.map_append, List.map_map, Function.comp_def]; done) | (simp [eL, eO, List.map_set, List.map_append, List.map_map, Function.comp_def]; rfl))))))) (yi_op (x := (D.int x50.1)) (y := (D.int ((2 : Int) + x46))) (yi_k (env := [((eL D.int) script), ((eL D.int) x1), (D.int ((1 : Int) + x3)), (D.int ((2 : Int) + x5)), (em_Survey x50.2), (δ16 5), (D.int ((38 : Int) + x13)), (D.bl x21), (D.bl (decide (x23 = (1 : Int)))), ((e2 (eO D.int) (eL D.bl)) s40), (D.int ((2 : Int) + x46)), ((e2 eU (eL D.bl)) ((), x47)), .non])) (yi_var rfl) (Eqb.ne eqb_int (by decide) x50.1 ((2 : Int) + x46)))) (by first | rfl | (simp [eL, List.map_set, List.map_append, List.map_map, Function.comp_def]; done) | (simp [eL, eO, List.map_set, List.map_append, List.map_map, Function.comp_def]; rfl))) (tt_bind fun x51 h_x51 => (tt_eff (ye_op (x := (D.int x51.1)) (ye_meN (x := (em_Survey x50.2)) [((eL D.int) script), ((eL D.int) x1), (D.int ((1 : Int) + x3)), (D.int ((2 : Int) + x5)), (em_Survey x51.2), (δ16 5), (D.int ((38 : Int) + x13)), (D.bl x21), (D.bl (decide (x23 = (1 : Int)))), ((e2 (eO D.int) (eL D.bl)) s40), (D.int ((2 : Int) + x46)), ((e2 eU (eL D.bl)) ((), x47)), .non] (pt_var rfl).val (io_Survey_back _) (ya_cons (x := (D.int (1 : Int))) yi_c ya_nil) (tn_Survey_back _ _ h_x51) (fun e h => (up_s rfl h (up_n (show updL [] _ _ _ _ = _ from congrArg some (by first | rfl | (simp [eL, List.map_set, List.map_append, List.map_map, Function.comp_def]; done) | (simp [eL, eO, List.map_set, List.map_append, List.map_map, Function.comp_def]; rfl))))))) (yi_op (x := (D.int x51.1)) (y := (D.int (1 : Int))) (yi_k (env := [((eL D.int) script), ((eL D.int) x1), (D.int ((1 : Int) + x3)), (D.int ((2 : Int) + x5)), (em_Survey x51.2), (δ16 5), (D.int ((38 : Int) + x13)), (D.bl x21), (D.bl (decide (x23 = (1 : Int)))), ((e2 (eO D.int) (eL D.bl)) s40), (D.int ((2 : Int) + x46)), ((e2 eU (eL D.bl)) ((), x47)), .non])) yi_c (Eqb.ne eqb_int (by decide) x51.1 (1 : Int)))) (by first | rfl | (simp [eL, List.map_set, List.map_append, List.map_map, Function.comp_def]; done) | (simp [eL, eO, List.map_set, List.map_append, List.map_map, Function.comp_def]; rfl)))))))) (fun s48 => (sn_ifA rfl (sn_ret (D.bl false) yi_c (rx_in (rv trivial) rfl)) (sn_skip (sn_for2 (fun c o h x e z => by obtain ⟨_, rfl, _⟩ := h; cases z) (fun e o h => by cases h; exact ⟨_, _, rfl⟩) (sm_bind fun x52 h_x52 => (sn_setE [((eL D.int) script), ((eL D.int) x1), (D.int ((1 : Int) + x3)), (D.int ((2 : Int) + x5)), (em_Survey x52.2), (δ16 5), (D.int ((38 : Int) + x13)), (D.bl x21), (D.bl (decide (x23 = (1 : Int)))), ((e2 (eO D.int) (eL D.bl)) s40), (D.int ((2 : Int) + x46)), ((e2 eU (eL D.bl)) ((), x47)), .non] [((eL D.int) script), ((eL D.int) x1), (D.int ((1 : Int) + x3)), (D.int ((2 : Int) + x5)), (em_Survey x52.2), (δ16 5), (D.int ((38 : Int) + x13)), (D.bl x21), (D.bl (decide (x23 = (1 : Int)))), ((e2 (eO D.int) (eL D.bl)) s40), (D.int ((2 : Int) + x46)), ((e2 eU (eL D.bl)) ((), x47)), (em_Survey x52.1)] (ye_meN (x := (em_Survey s48.2)) [((eL D.int) script), ((eL D.int) x1), (D.int ((1 : Int) + x3)), (D.int ((2 : Int) + x5)), (em_Survey x52.2), (δ16 5), (D.int ((38 : Int) + x13)), (D.bl x21), (D.bl (decide (x23 = (1 : Int)))), ((e2 (eO D.int) (eL D.bl)) s40), (D.int ((2 : Int) + x46)), ((e2 eU (eL D.bl)) ((), x47)), .non] (pt_var rfl).val (io_Survey_twin _) ya_nil (tn_Survey_twin _ h_x52) (fun e h => (up_s rfl h (show updL [] _ _ _ _ = _ from congrArg some (by first | rfl | (simp [eL, List.map_set, List.map_append, List.map_map, Function.comp_def]; done) | (simp [eL, eO, List.map_set, List.map_append, List.map_map, Function.comp_def]; rfl)))))) rfl (sn_swp (env' := [((eL D.int) script), ((eL D.int) x1), (D.int ((1 : Int) + x3)), (D.int ((2 : Int) + x5)), (em_Survey x52.1), (δ16 5), (D.int ((38 : Int) + x13)), (D.bl x21), (D.bl (decide (x23 = (1 : Int)))), ((e2 (eO D.int) (eL D.bl)) s40), (D.int ((2 : Int) + x46)), ((e2 eU (eL D.bl)) ((), x47)), (em_Survey x52.2)]) rfl (sn_ifT (fun z : S_Survey => [((eL D.int) script), ((eL D.int) x1), (D.int ((1 : Int) + x3)), (D.int ((2 : Int) + x5)), (em_Survey x52.1), (δ16 5), (D.int ((38 : Int) + x13)), (D.bl x21), (D.bl (decide (x23 = (1 : Int)))), ((e2 (eO D.int) (eL D.bl)) s40), (D.int ((2 : Int) + x46)), ((e2 eU (eL D.bl)) ((), x47)), (em_Survey z)]) (tt_bind fun x54 h_x54 => (tt_or (tt_eff (ye_op (x := ((e2 (eO D.int) (eL D.bl)) x54.1)) (ye_callN [((eL D.int) script), ((eL D.int) x1), (D.int ((1 : Int) + x3)), (D.int ((2 : Int) + x5)), (em_Survey x52.1), (δ16 5), (D.int ((38 : Int) + x13)), (D.bl x21), (D.bl (decide (x23 = (1 : Int)))), ((e2 (eO D.int) (eL D.bl)) s40), (D.int ((2 : Int) + x46)), ((e2 eU (eL D.bl)) ((), x47)), (em_Survey x54.2)] (ya_cons (x := (em_Survey x52.2)) (pt_var rfl).val (ya_cons (x := (D.bl (decide (x23 = (1 : Int))))) (yi_var rfl) (ya_cons (x := (D.int (0 : Int))) yi_c (ya_cons (x := (D.int (1 : Int))) yi_c (ya_cons (x := (D.int (if (decide (x23 = (1 : Int))) = true then (1 : Int) else 0))) (yi_call (ya_cons (yi_var rfl) ya_nil) rfl) ya_nil))))) (tf_law_told _ _ _ _ _ h_x54) (fun e h => (up_s rfl h (up_n (up_n (up_n (up_n (show updL [] _ _ _ _ = _ from congrArg some (by first | rfl | (simp [eL, List.map_set, List.map_append, List.map_map, Function.comp_def]; done) | (simp [eL, eO, List.map_set, List.map_append, List.map_map, Function.comp_def]; rfl)))))))))) (yi_op (x := ((e2 (eO D.int) (eL D.bl)) x54.1)) (y := ((e2 (eO D.int) (eL D.bl)) ((none : (Option Int)), x47))) (yi_k (env := [((eL D.int) script), ((eL D.int) x1), (D.int ((1 : Int) + x3)), (D.int ((2 : Int) + x5)), (em_Survey x52.1), (δ16 5), (D.int ((38 : Int) + x13)), (D.bl x21), (D.bl (decide (x23 = (1 : Int)))), ((e2 (eO D.int) (eL D.bl)) s40), (D.int ((2 : Int) + x46)), ((e2 eU (eL D.bl)) ((), x47)), (em_Survey x54.2)])) (yi_cv (yi_var rfl) rfl) (Eqb.ne (eqb_2 (Eqb.le (eqb_O eqb_int (fun _ => ⟨rfl, rfl⟩)) (by decide : 0 ≤ 1)) (Eqb.le (eqb_L eqb_bl) (by decide : 1 ≤ 1))) (by decide) x54.1 ((none : (Option Int)), x47)))) (by first | rfl | (simp [eL, List.map_set, List.map_append, List.map_map, Function.comp_def]; done) | (simp [eL, eO, List.map_set, List.map_append, List.map_map, Function.comp_def]; rfl))) (tt_bind fun x55 h_x55 => (tt_eff (ye_op (x := ((e2 (eO D.int) (eL D.bl)) x55.1)) (ye_callN [((eL D.int) script), ((eL D.int) x1), (D.int ((1 : Int) + x3)), (D.int ((2 : Int) + x5)), (em_Survey x52.1), (δ16 5), (D.int ((38 : Int) + x13)), (D.bl x21), (D.bl (decide (x23 = (1 : Int)))), ((e2 (eO D.int) (eL D.bl)) s40), (D.int ((2 : Int) + x46)), ((e2 eU (eL D.bl)) ((), x47)), (em_Survey x55.2)] (ya_cons (x := (em_Survey x54.2)) (pt_var rfl).val (ya_cons (x := (D.bl true)) yi_c (ya_cons (x := (D.int (0 : Int))) yi_c (ya_cons (x := (D.int (1 : Int))) yi_c (ya_cons (x := (D.int (1 : Int))) yi_c ya_nil))))) (tf_law_told _ _ _ _ _ h_x55) (fun e h => (up_s rfl h (up_n (up_n (up_n (up_n (show updL [] _ _ _ _ = _ from congrArg some (by first | rfl | (simp [eL, List.map_set, List.map_append, List.map_map, Function.comp_def]; done) | (simp [eL, eO, List.map_set, List.map_append, List.map_map, Function.comp_def]; rfl)))))))))) (yi_op (x := ((e2 (eO D.int) (eL D.bl)) x55.1)) (y := ((e2 (eO D.int) (eL D.bl)) ((none : (Option Int)), x47))) (yi_k (env := [((eL D.int) script), ((eL D.int) x1), (D.int ((1 : Int) + x3)), (D.int ((2 : Int) + x5)), (em_Survey x52.1), (δ16 5), (D.int ((38 : Int) + x13)), (D.bl x21), (D.bl (decide (x23 = (1 : Int)))), ((e2 (eO D.int) (eL D.bl)) s40), (D.int ((2 : Int) + x46)), ((e2 eU (eL D.bl)) ((), x47)), (em_Survey x55.2)])) (yi_cv (yi_var rfl) rfl) (Eqb.ne (eqb_2 (Eqb.le (eqb_O eqb_int (fun _ => ⟨rfl, rfl⟩)) (by decide : 0 ≤ 1)) (Eqb.le (eqb_L eqb_bl) (by decide : 1 ≤ 1))) (by decide) x55.1 ((none : (Option Int)), x47)))) (by first | rfl | (simp [eL, List.map_set, List.map_append, List.map_map, Function.comp_def]; done) | (simp [eL, eO, List.map_set, List.map_append, List.map_map, Function.comp_def]; rfl)))))) (fun s53 => (sn_ifA rfl (sn_swp (env' := [((eL D.int) script), ((eL D.int) x1), (D.int ((1 : Int) + x3)), (D.int ((2 : Int) + x5)), (em_Survey s53.2), (δ16 5), (D.int ((38 : Int) + x13)), (D.bl x21), (D.bl (decide (x23 = (1 : Int)))), ((e2 (eO D.int) (eL D.bl)) s40), (D.int ((2 : Int) + x46)), ((e2 eU (eL D.bl)) ((), x47)), (em_Survey x52.1)]) rfl (sn_ret (D.bl false) yi_c (rx_in (rv trivial) rfl))) (sq_assoc (s1 := sNext) (sn_swp (env' := [((eL D.int) script), ((eL D.int) x1), (D.int ((1 : Int) + x3)), (D.int ((2 : Int) + x5)), (em_Survey s53.2), (δ16 5), (D.int ((38 : Int) + x13)), (D.bl x21), (D.bl (decide (x23 = (1 : Int)))), ((e2 (eO D.int) (eL D.bl)) s40), (D.int ((2 : Int) + x46)), ((e2 eU (eL D.bl)) ((), x47)), (em_Survey x52.1)]) rfl (sn_ifT (fun z : S_Survey => [((eL D.int) script), ((eL D.int) x1), (D.int ((1 : Int) + x3)), (D.int ((2 : Int) + x5)), (em_Survey s53.2), (δ16 5), (D.int ((38 : Int) + x13)), (D.bl x21), (D.bl (decide (x23 = (1 : Int)))), ((e2 (eO D.int) (eL D.bl)) s40), (D.int ((2 : Int) + x46)), ((e2 eU (eL D.bl)) ((), x47)), (em_Survey z)]) (tt_bind fun x57 h_x57 => (tt_or (tt_eff (ye_op (x := ((e2 (eO D.int) (eL D.bl)) x57.1)) (ye_callN [((eL D.int) script), ((eL D.int) x1), (D.int ((1 : Int) + x3)), (D.int ((2 : Int) + x5)), (em_Survey s53.2), (δ16 5), (D.int ((38 : Int) + x13)), (D.bl x21), (D.bl (decide (x23 = (1 : Int)))), ((e2 (eO D.int) (eL D.bl)) s40), (D.int ((2 : Int) + x46)), ((e2 eU (eL D.bl)) ((), x47)), (em_Survey x57.2)] (ya_cons (x := (em_Survey x52.1)) (pt_var rfl).val (ya_cons (x := (D.bl (decide (x23 = (1 : Int))))) (yi_var rfl) (ya_cons (x := (D.int (0 : Int))) yi_c (ya_cons (x := (D.int (1 : Int))) yi_c (ya_cons (x := (D.int (if (decide (x23 = (1 : Int))) = true then (1 : Int) else 0))) (yi_call (ya_cons (yi_var rfl) ya_nil) rfl) ya_nil))))) (tf_law_told _ _ _ _ _ h_x57) (fun e h => (up_s rfl h (up_n (up_n (up_n (up_n (show updL [] _ _ _ _ = _ from congrArg some (by first | rfl | (simp [eL, List.map_set, List.map_append, List.map_map, Function.comp_def]; done) | (simp [eL, eO, List.map_set, List.map_append, List.map_map, Function.comp_def]; rfl)))))))))) (yi_op (x := ((e2 (eO D.int) (eL D.bl)) x57.1)) (y := ((e2 (eO D.int) (eL D.bl)) ((none : (Option Int)), x47))) (yi_k (env := [((eL D.int) script), ((eL D.int) x1), (D.int ((1 : Int) + x3)), (D.int ((2 : Int) + x5)), (em_Survey s53.2), (δ16 5), (D.int ((38 : Int) + x13)), (D.bl x21), (D.bl (decide (x23 = (1 : Int)))), ((e2 (eO D.int) (eL D.bl)) s40), (D.int ((2 : Int) + x46)), ((e2 eU (eL D.bl)) ((), x47)), (em_Survey x57.2)])) (yi_cv (yi_var rfl) rfl) (Eqb.ne (eqb_2 (Eqb.le (eqb_O eqb_int (fun _ => ⟨rfl, rfl⟩)) (by decide : 0 ≤ 1)) (Eqb.le (eqb_L eqb_bl) (by decide : 1 ≤ 1))) (by decide) x57.1 ((none : (Option Int)), x47)))) (by first | rfl | (simp [eL, List.map_set, List.map_append, List.map_map, Function.comp_def]; done) | (simp [eL, eO, List.map_set, List.map_append, List.map_map, Function.comp_def]; rfl))) (tt_bind fun x58 h_x58 => (tt_eff (ye_op (x := ((e2 (eO D.int) (eL D.bl)) x58.1)) (ye_callN [((eL D.int) script), ((eL D.int) x1), (D.int ((1 : Int) + x3)), (D.int ((2 : Int) + x5)), (em_Survey s53.2), (δ16 5), (D.int ((38 : Int) + x13)), (D.bl x21), (D.bl (decide (x23 = (1 : Int)))), ((e2 (eO D.int) (eL D.bl)) s40), (D.int ((2 : Int) + x46)), ((e2 eU (eL D.bl)) ((), x47)), (em_Survey x58.2)] (ya_cons (x := (em_Survey x57.2)) (pt_var rfl).val (ya_cons (x := (D.bl true)) yi_c (ya_cons (x := (D.int (0 : Int))) yi_c (ya_cons (x := (D.int (1 : Int))) yi_c (ya_cons (x := (D.int (1 : Int))) yi_c ya_nil))))) (tf_law_told _ _ _ _ _ h_x58) (fun e h => (up_s rfl h (up_n (up_n (up_n (up_n (show updL [] _ _ _ _ = _ from congrArg some (by first | rfl | (simp [eL, List.map_set, List.map_append, List.map_map, Function.comp_def]; done) | (simp [eL, eO, List.map_set, List.map_append, List.map_map, Function.comp_def]; rfl)))))))))) (yi_op (x := ((e2 (eO D.int) (eL D.bl)) x58.1)) (y := ((e2 (eO D.int) (eL D.bl)) ((none : (Option Int)), x47))) (yi_k (env := [((eL D.int) script), ((eL D.int) x1), (D.int ((1 : Int) + x3)), (D.int ((2 : Int) + x5)), (em_Survey s53.2), (δ16 5), (D.int ((38 : Int) + x13)), (D.bl x21), (D.bl (decide (x23 = (1 : Int)))), ((e2 (eO D.int) (eL D.bl)) s40), (D.int ((2 : Int) + x46)), ((e2 eU (eL D.bl)) ((), x47)), (em_Survey x58.2)])) (yi_cv (yi_var rfl) rfl) (Eqb.ne (eqb_2 (Eqb.le (eqb_O eqb_int (fun _ => ⟨rfl, rfl⟩)) (by decide : 0 ≤ 1)) (Eqb.le (eqb_L eqb_bl) (by decide : 1 ≤ 1))) (by decide) x58.1 ((none : (Option Int)), x47)))) (by first | rfl | (simp [eL, List.map_set, List.map_append, List.map_map, Function.comp_def]; done) | (simp [eL, eO, List.map_set, List.map_append, List.map_map, Function.comp_def]; rfl)))))) (fun s56 => (sn_ifA rfl (sn_ret (D.bl false) yi_c (rx_in (rv trivial) rfl)) (sn_skip (sn_ifT (fun z : S_Survey => [((eL D.int) script), ((eL D.int) x1), (D.int ((1 : Int) + x3)), (D.int ((2 : Int) + x5)), (em_Survey z), (δ16 5), (D.int ((38 : Int) + x13)), (D.bl x21), (D.bl (decide (x23 = (1 : Int)))), ((e2 (eO D.int) (eL D.bl)) s40), (D.int ((2 : Int) + x46)), ((e2 eU (eL D.bl)) ((), x47)), (em_Survey s56.2)]) (tt_bind fun x60 h_x60 => (tt_eff (ye_op (x := (D.int x60.1)) (ye_meN (x := (em_Survey s53.2)) [((eL D.int) script), ((eL D.int) x1), (D.int ((1 : Int) + x3)), (D.int ((2 : Int) + x5)), (em_Survey x60.2), (δ16 5), (D.int ((38 : Int) + x13)), (D.bl x21), (D.bl (decide (x23 = (1 : Int)))), ((e2 (eO D.int) (eL D.bl)) s40), (D.int ((2 : Int) + x46)), ((e2 eU (eL D.bl)) ((), x47)), (em_Survey s56.2)] (pt_var rfl).val (io_Survey_strike _) (ya_cons (x := (D.int ((2 : Int) + x46))) (yi_var rfl) ya_nil) (tn_Survey_strike _ _ h_x60) (fun e h => (up_s rfl h (up_n (show updL [] _ _ _ _ = _ from congrArg some (by first | rfl | (simp [eL, List.map_set, List.map_append, List.map_map, Function.comp_def]; done) | (simp [eL, eO, List.map_set, List.map_append, List.map_map, Function.comp_def]; rfl))))))) (yi_op (x := (D.int x60.1)) (y := (D.int ((2 : Int) + x46))) (yi_k (env := [((eL D.int) script), ((eL D.int) x1), (D.int ((1 : Int) + x3)), (D.int ((2 : Int) + x5)), (em_Survey x60.2), (δ16 5), (D.int ((38 : Int) + x13)), (D.bl x21), (D.bl (decide (x23 = (1 : Int)))), ((e2 (eO D.int) (eL D.bl)) s40), (D.int ((2 : Int) + x46)), ((e2 eU (eL D.bl)) ((), x47)), (em_Survey s56.2)])) (yi_var rfl) (Eqb.ne eqb_int (by decide) x60.1 ((2 : Int) + x46)))) (by first | rfl | (simp [eL, List.map_set, List.map_append, List.map_map, Function.comp_def]; done) | (simp [eL, eO, List.map_set, List.map_append, List.map_map, Function.comp_def]; rfl)))) (fun s59 => (sn_ifA rfl (sn_ret (D.bl false) yi_c (rx_in (rv trivial) rfl)) (sn_skip (sm_bind fun x61 h_x61 => (sn_retE (D.bl (decide (x61.1 = ((some ((((38 : Int) + x13) + (3 : Int)) - (if x21 = true then (1 : Int) else 0))), ([] : (List Bool)))))) [((eL D.int) script), ((eL D.int) x1), (D.int ((1 : Int) + x3)), (D.int ((2 : Int) + x5)), (em_Survey x61.2), (δ16 5), (D.int ((38 : Int) + x13)), (D.bl x21), (D.bl (decide (x23 = (1 : Int)))), ((e2 (eO D.int) (eL D.bl)) s40), (D.int ((2 : Int) + x46)), ((e2 eU (eL D.bl)) ((), x47)), (em_Survey s56.2)] (ye_op (x := ((e2 (eO D.int) (eL D.bl)) x61.1)) (ye_callN [((eL D.int) script), ((eL D.int) x1), (D.int ((1 : Int) + x3)), (D.int ((2 : Int) + x5)), (em_Survey x61.2), (δ16 5), (D.int ((38 : Int) + x13)), (D.bl x21), (D.bl (decide (x23 = (1 : Int)))), ((e2 (eO D.int) (eL D.bl)) s40), (D.int ((2 : Int) + x46)), ((e2 eU (eL D.bl)) ((), x47)), (em_Survey s56.2)] (ya_cons (x := (em_Survey s59.2)) (pt_var rfl).val (ya_cons (x := (D.bl (decide (x23 = (1 : Int))))) (yi_var rfl) (ya_cons (x := (D.int (0 : Int))) yi_c (ya_cons (x := (D.int (1 : Int))) yi_c (ya_cons (x := (D.int (if (decide (x23 = (1 : Int))) = true then (1 : Int) else 0))) (yi_call (ya_cons (yi_var rfl) ya_nil) rfl) ya_nil))))) (tf_law_told _ _ _ _ _ h_x61) (fun e h => (up_s rfl h (up_n (up_n (up_n (up_n (show updL [] _ _ _ _ = _ from congrArg some (by first | rfl | (simp [eL, List.map_set, List.map_append, List.map_map, Function.comp_def]; done) | (simp [eL, eO, List.map_set, List.map_append, List.map_map, Function.comp_def]; rfl)))))))))) (yi_op (x := ((e2 (eO D.int) (eL D.bl)) x61.1)) (y := ((e2 (eO D.int) (eL D.bl)) ((some ((((38 : Int) + x13) + (3 : Int)) - (if x21 = true then (1 : Int) else 0))), ([] : (List Bool))))) (yi_k (env := [((eL D.int) script), ((eL D.int) x1), (D.int ((1 : Int) + x3)), (D.int ((2 : Int) + x5)), (em_Survey x61.2), (δ16 5), (D.int ((38 : Int) + x13)), (D.bl x21), (D.bl (decide (x23 = (1 : Int)))), ((e2 (eO D.int) (eL D.bl)) s40), (D.int ((2 : Int) + x46)), ((e2 eU (eL D.bl)) ((), x47)), (em_Survey s56.2)])) (yi_tup (ds := [((eO D.int) (some ((((38 : Int) + x13) + (3 : Int)) - (if x21 = true then (1 : Int) else 0)))), ((eL D.bl) ([] : (List Bool)))]) (ya_cons (x := ((eO D.int) (some ((((38 : Int) + x13) + (3 : Int)) - (if x21 = true then (1 : Int) else 0))))) (yi_op (yi_op (yi_var rfl) yi_c rfl) (yi_call (ya_cons (yi_var rfl) ya_nil) rfl) rfl) (ya_cons (x := ((eL D.bl) ([] : (List Bool)))) (yi_lst ya_nil) ya_nil)) (show 2 ≤ 100 from by decide)) (Eqb.eq (eqb_2 (Eqb.le (eqb_O eqb_int (fun _ => ⟨rfl, rfl⟩)) (by decide : 0 ≤ 1)) (Eqb.le (eqb_L eqb_bl) (by decide : 1 ≤ 1))) (by decide) x61.1 ((some ((((38 : Int) + x13) + (3 : Int)) - (if x21 = true then (1 : Int) else 0))), ([] : (List Bool)))))) (rv trivial)))))))))))))))))))))))))))))))))))))))))))))))))))))))))))))))))))))))))))))))
theorem tf_law (script : (List Int)) {r : Bool} (h : T_law script = some r) : FnP (G_law [((eL D.int) script)]) (D.bl r) ((fun _ _ => True) r) := fnV (er := D.bl) (P := (fun _ _ => True)) (ts_law script) h
end Lw

namespace Lw
open PySem L2 Mv
def NumOk (l : List Int) : Prop := ∀ x ∈ l, 0 ≤ x ∧ x < 1000
theorem LIM_eq : LIM = 1000000 := rfl
theorem cmul_r {i j : Int} (h0 : -1000000000000000000 < j) (h : j < 1000000000000000000) : CMul i j := Or.inr ⟨by omega, by omega⟩
theorem cmul_l {i j : Int} (h0 : -1000000000000000000 < i) (h : i < 1000000000000000000) : CMul i j := Or.inl ⟨by omega, by omega⟩
theorem NumOk.app {l : List Int} {x : Int} (h : NumOk l) (h0 : 0 ≤ x) (h1 : x < 1000) : NumOk (l ++ [x]) := fun y hy => by
  rcases List.mem_append.mp hy with q | q
  · exact h y q
  · rw [List.mem_singleton.mp q]; exact ⟨h0, h1⟩
theorem numbers_b2 (s : List Int × Int) (k : Int) (h : NumOk s.1) (hl : s.1.length < 900000) : Ok (T_law_numbers_b2 s k) fun t => NumOk t.1 ∧ t.1.length ≤ s.1.length + 1 := by
  unfold T_law_numbers_b2
  refine ok_bind (Q := fun t => NumOk t.1 ∧ t.1.length ≤ s.1.length + 1) ?_ fun t ht => ok_some ht
  refine ok_ite (fun _ => ?_) fun _ => ok_some ⟨h, Nat.le_succ _⟩
  refine ok_eq (modT_of (by decide)) (ok_eq (appT_of' (by rw [LIM_eq]; omega)) (ok_eq (divT_of (by decide)) (ok_some ⟨h.app (by omega) (by omega), by simp⟩)))
theorem numbers_b1 (s : List Int × Int) (c : Int) (h : NumOk s.1) (hl : s.1.length < 800000) : Ok (T_law_numbers_b1 s c) fun t => NumOk t.1 ∧ t.1.length ≤ s.1.length + 61 ∧ 0 ≤ t.2 ∧ t.2 < 2147483648 := by
  unfold T_law_numbers_b1
  refine ok_eq (mulT_of (cmul_r (by decide) (by decide))) (ok_eq (modT_of (by decide)) (ok_eq (modT_of (by decide)) (ok_eq rfl ?_)))
  refine ok_bind (Q := fun t => NumOk t ∧ t.length ≤ s.1.length + 1) ?_ fun t ht => ?_
  · refine ok_ite (fun _ => ?_) fun _ => ok_some ⟨h, Nat.le_succ _⟩
    exact ok_eq (modT_of (by decide)) (ok_eq (appT_of' (by rw [LIM_eq]; omega)) (ok_some ⟨h.app (by omega) (by omega), by simp⟩))
  refine ok_eq (rg1T_of (by decide)) ?_
  refine ok_bind (ok_for (fun n (t : List Int × Int) => NumOk t.1 ∧ t.1.length ≤ s.1.length + 1 + n) ⟨ht.1, ht.2⟩ fun k hk t ht => ?_) fun t ht => ok_some ⟨ht.1, ?_, ?_, ?_⟩
  · have q : k < 60 := by simpa using hk
    exact ok_mono (numbers_b2 t _ ht.1 (by omega)) fun u hu => ⟨hu.1, by omega⟩
  · have := ht.2
    have q : (rgI 0 (60 : Int).toNat).length = 60 := by simp
    rw [q] at this
    show t.1.length ≤ _
    omega
  · show 0 ≤ _ % _
    omega
  · show _ % _ < _
    omega
theorem numbers_ok (script : List Int) (many : Int) (h0 : 0 ≤ many) (h1 : many ≤ 100000) : Ok (T_law_numbers script many) fun r => r.length = many.toNat ∧ NumOk r := by
  unfold T_law_numbers
  have hc : (cutL script none (some 63)).length ≤ 63 := by
    rw [cutL_hi (by decide)]
    exact List.length_take_le _ _
  refine ok_bind (ok_for (fun n (t : List Int × Int) => NumOk t.1 ∧ t.1.length ≤ 61 * n ∧ 0 ≤ t.2 ∧ t.2 < 2147483648) ⟨fun x hx => (nomatch hx), Nat.le_refl _, by decide, by decide⟩ fun k hk t ht => ?_) fun t ht => ?_
  · exact ok_mono (numbers_b1 t _ ht.1 (by omega)) fun u hu => ⟨hu.1, by omega, hu.2.2⟩
  refine ok_bind (ok_while (fun t : List Int × Int => NumOk t.1 ∧ 0 ≤ t.2 ∧ t.2 < 2147483648) (fun t => many.toNat - t.1.length) ⟨ht.1, ht.2.2⟩ fun u hu => ?_) fun u hu => ok_some ?_
  · unfold T_law_numbers_t3
    refine ok_some fun q => ?_
    have q := of_decide_eq_true q
    unfold T_law_numbers_b3
    refine ok_eq (mulT_of (cmul_r (by omega) (by omega))) (ok_eq (mulT_of (cmul_l (by decide) (by decide))) (ok_eq (mulT_of (cmul_l (by decide) (by decide))) (ok_eq (modT_of (by decide)) (ok_eq (divT_of (by decide)) (ok_eq (modT_of (by decide)) (ok_eq (appT_of' (by rw [LIM_eq]; omega)) (ok_some ⟨⟨hu.1.app (by omega) (by omega), ?_, ?_⟩, ?_⟩)))))))
    · show 0 ≤ _ % _
      omega
    · show _ % _ < _
      omega
    · show many.toNat - List.length (_ ++ _) < _
      rw [List.length_append]
      simp only [List.length_cons, List.length_nil]
      omega
  · obtain ⟨⟨q1, q2⟩, q3⟩ := hu
    unfold T_law_numbers_t3 at q3
    have q4 : ¬((u.1.length : Int) < many) := of_decide_eq_false (Option.some.inj q3)
    refine ⟨?_, fun x hx => q1 x (cutL_mem hx)⟩
    rw [cutL_hi h0, List.length_take]
    omega
theorem NumOk.at {l : List Int} {n : Nat} {k : Int} (h : NumOk l) (hl : l.length = n) (h0 : 0 ≤ k) (hk : k.toNat < n) : ∃ x, ixT l k = some x ∧ 0 ≤ x ∧ x < 1000 := ⟨_, ixT_lt h0 (by omega), h _ (List.getElem_mem _)⟩

def good (k x : Int) : Bool := !(decide (x = 0) || decide (k < (if x < 0 then -x else x)))
abbrev Row := Int × Int × Int × Int
def lb (l : List Int) (i : Nat) : Int := l.getD i 0
theorem lb_get {l : List Int} {i : Nat} (h : i < l.length) : l[i]? = some (lb l i) := by
  unfold lb
  rw [List.getD_eq_getElem?_getD, List.getElem?_eq_getElem h]
  rfl
theorem ixT_lb {l : List Int} {k : Int} (h0 : 0 ≤ k) (h : k.toNat < l.length) : ixT l k = some (lb l k.toNat) := ixT_of h0 (lb_get h)
theorem lb_ext {l l' : List Int} (h : l.length = l'.length) (e : ∀ i < l.length, lb l i = lb l' i) : l = l' := by
  apply List.ext_getElem? 
  intro i
  by_cases q : i < l.length
  · rw [lb_get q, lb_get (h ▸ q), e i q]
  · rw [List.getElem?_eq_none (by omega), List.getElem?_eq_none (by omega)]
theorem lb_set {l : List Int} {k : Nat} {x : Int} (hk : k < l.length) (i : Nat) : lb (l.set k x) i = if i = k then x else lb l i := by
  unfold lb
  rw [List.getD_eq_getElem?_getD, List.getD_eq_getElem?_getD]
  by_cases e : i = k
  · subst e
    rw [List.getElem?_set_self hk, if_pos rfl]
    rfl
  · rw [List.getElem?_set_ne (Ne.symm e), if_neg e]
def jm (x y v : Int) : Int := if v = (if y > x then y else x) then (if y < x then y else x) else v
def jn (l : List Int) (a b : Nat) : List Int := l.map (jm (lb l a) (lb l b))
theorem jn_len (l : List Int) (a b : Nat) : (jn l a b).length = l.length := List.length_map _
theorem lb_map {l : List Int} {f : Int → Int} {i : Nat} (h : i < l.length) : lb (l.map f) i = f (lb l i) := by
  have := lb_get (l := l.map f) (by simpa using h)
  rw [List.getElem?_map, lb_get h] at this
  exact (Option.some.inj this).symm
theorem lb_jn {l : List Int} {a b i : Nat} (h : i < l.length) : lb (jn l a b) i = jm (lb l a) (lb l b) (lb l i) := lb_map h
theorem join_ok {l : List Int} {a b : Int} (ha0 : 0 ≤ a) (ha : a.toNat < l.length) (hb0 : 0 ≤ b) (hb : b.toNat < l.length) (hl : l.length ≤ 100000) : T_join l a b = some ((), jn l a.toNat b.toNat) := by
  refine ok_get (?_ : Ok _ fun y => y = _)
  unfold T_join
  refine ok_eq (ixT_lb ha0 ha) (ok_eq (ixT_lb hb0 hb) (ok_eq (ixT_lb ha0 ha) (ok_eq (ixT_lb hb0 hb) (ok_eq (rg1T_of (bnd62_ok (by omega) (by omega))) ?_))))
  have hn : (rgI 0 ((l.length : Int)).toNat).length = l.length := by simp
  refine ok_bind (ok_for (fun k (s : List Int) => s.length = l.length ∧ ∀ i < l.length, lb s i = if i < k then jm (lb l a.toNat) (lb l b.toNat) (lb l i) else lb l i) ⟨rfl, fun i _ => by rw [if_neg (Nat.not_lt_zero _)]⟩ fun k hk s hs => ?_) fun s hs => ok_some ?_
  · rw [rgI_get hk, Int.zero_add]
    have hk' : k < s.length := by rw [hs.1]; omega
    have e := hs.2 k (by omega)
    rw [if_neg (Nat.lt_irrefl _)] at e
    unfold T_join_b1
    refine ok_eq (ixT_lb (by omega) (by rw [Int.toNat_natCast]; exact hk')) ?_
    rw [Int.toNat_natCast, e]
    refine ok_bind (Q := fun s' : List Int => s' = s.set k (jm (lb l a.toNat) (lb l b.toNat) (lb l k))) ?_ fun s' hs' => ok_some ?_
    · refine ok_ite (fun q => ?_) fun q => ok_some ?_
      · refine ok_eq (sTT_of (by omega) (by rw [Int.toNat_natCast]; exact hk')) (ok_some ?_)
        rw [Int.toNat_natCast]
        unfold jm
        rw [if_pos (of_decide_eq_true q)]
      · unfold jm
        rw [if_neg (fun z => q (decide_eq_true z)), ← e]
        refine lb_ext (by simp) fun i hi => ?_
        rw [lb_set hk']
        by_cases z : i = k
        · rw [if_pos z, z]
        · rw [if_neg z]
    · subst hs'
      refine ⟨by rw [List.length_set]; exact hs.1, fun i hi => ?_⟩
      rw [lb_set hk']
      by_cases z : i = k
      · rw [if_pos z, if_pos (by omega), z]
      · rw [if_neg z, hs.2 i hi]
        by_cases q : i < k
        · rw [if_pos q, if_pos (by omega)]
        · rw [if_neg q, if_neg (by omega)]
  · rw [hn] at hs
    refine congrArg (fun z => ((), z)) (lb_ext (by rw [hs.1, jn_len]) fun i hi => ?_)
    rw [hs.1] at hi
    rw [hs.2 i hi, if_pos hi, lb_jn hi]
def Can (l : List Int) : Prop := ∀ i < l.length, 0 ≤ lb l i ∧ (lb l i).toNat ≤ i ∧ lb l (lb l i).toNat = lb l i
theorem Can.lt {l : List Int} (h : Can l) {i : Nat} (hi : i < l.length) : (lb l i).toNat < l.length := Nat.lt_of_le_of_lt (h i hi).2.1 hi
theorem Can.jn {l : List Int} (h : Can l) {a b : Nat} (ha : a < l.length) (hb : b < l.length) : Can (jn l a b) := by
  intro i hi
  rw [jn_len] at hi
  rw [lb_jn hi]
  obtain ⟨a0, a1, a2⟩ := h a ha
  obtain ⟨b0, b1, b2⟩ := h b hb
  obtain ⟨i0, i1, i2⟩ := h i hi
  have la := h.lt ha
  have lb' := h.lt hb
  have li := h.lt hi
  by_cases q : lb l i = (if lb l b > lb l a then lb l b else lb l a)
  · have e : jm (lb l a) (lb l b) (lb l i) = (if lb l b < lb l a then lb l b else lb l a) := by unfold jm; rw [if_pos q]
    rw [e]
    by_cases z : lb l b < lb l a
    · rw [if_pos z]
      rw [if_neg (by omega)] at q
      refine ⟨b0, by omega, ?_⟩
      rw [lb_jn lb', b2]
      unfold jm
      rw [if_neg (by rw [if_neg (by omega)]; omega)]
    · rw [if_neg z]
      by_cases y : lb l b > lb l a
      · rw [if_pos y] at q
        refine ⟨a0, by omega, ?_⟩
        rw [lb_jn la, a2]
        unfold jm
        rw [if_neg (by rw [if_pos y]; omega)]
      · rw [if_neg y] at q
        refine ⟨a0, by omega, ?_⟩
        rw [lb_jn la, a2]
        unfold jm
        rw [if_pos (by rw [if_neg y]), if_neg z]
  · have e : jm (lb l a) (lb l b) (lb l i) = lb l i := by unfold jm; rw [if_neg q]
    rw [e]
    refine ⟨i0, i1, ?_⟩
    rw [lb_jn li, i2, e]
inductive EE (st : List (Int × Int)) (rows : List Row) : Nat → Nat → Prop
  | refl (i : Nat) : EE st rows i i
  | symm {i j : Nat} : EE st rows i j → EE st rows j i
  | trans {i j k : Nat} : EE st rows i j → EE st rows j k → EE st rows i k
  | start {p : Int × Int} : p ∈ st → EE st rows p.1.toNat p.2.toNat
  | fwd {r q : Row} : r ∈ rows → q ∈ rows → r.2.2.1 = q.2.2.1 → EE st rows r.2.1.toNat q.2.1.toNat → EE st rows r.2.2.2.toNat q.2.2.2.toNat
  | bwd {r q : Row} : r ∈ rows → q ∈ rows → r.2.2.1 = q.2.2.1 → EE st rows r.2.2.2.toNat q.2.2.2.toNat → EE st rows r.2.1.toNat q.2.1.toNat
def Sub (l : List Int) (E : Nat → Nat → Prop) : Prop := ∀ i < l.length, ∀ j < l.length, lb l i = lb l j → E i j
theorem Sub.jn {l : List Int} {st : List (Int × Int)} {rows : List Row} (h : Sub l (EE st rows)) {a b : Nat} (ha : a < l.length) (hb : b < l.length) (e : EE st rows a b) : Sub (jn l a b) (EE st rows) := by
  intro i hi j hj q
  rw [jn_len] at hi hj
  rw [lb_jn hi, lb_jn hj] at q
  have key : ∀ i < l.length, lb l i = jm (lb l a) (lb l b) (lb l i) ∨ (EE st rows i a ∧ (jm (lb l a) (lb l b) (lb l i) = lb l a ∨ jm (lb l a) (lb l b) (lb l i) = lb l b)) := by
    intro i hi
    unfold jm
    by_cases z : lb l i = (if lb l b > lb l a then lb l b else lb l a)
    · rw [if_pos z]
      right
      constructor
      · by_cases y : lb l b > lb l a
        · rw [if_pos y] at z
          exact (h i hi b hb z).trans e.symm
        · rw [if_neg y] at z
          exact h i hi a ha z
      · by_cases y : lb l b < lb l a
        · rw [if_pos y]; exact .inr rfl
        · rw [if_neg y]; exact .inl rfl
    · rw [if_neg z]; exact .inl rfl
  have fin : ∀ i < l.length, (jm (lb l a) (lb l b) (lb l i) = lb l a ∨ jm (lb l a) (lb l b) (lb l i) = lb l b) → lb l i = jm (lb l a) (lb l b) (lb l i) → EE st rows i a := by
    intro i hi hz hy
    rcases hz with hz | hz
    · exact h i hi a ha (hy.trans hz)
    · exact (h i hi b hb (hy.trans hz)).trans e.symm
  rcases key i hi with ki | ⟨ki, zi⟩
  · rcases key j hj with kj | ⟨kj, zj⟩
    · exact h i hi j hj (ki.trans (q.trans kj.symm))
    · rw [← q] at zj
      exact (fin i hi zj ki).trans kj.symm
  · rcases key j hj with kj | ⟨kj, zj⟩
    · rw [q] at zi
      exact ki.trans (fin j hj zi kj).symm
    · exact ki.trans kj.symm
structure Keeps (st : List (Int × Int)) (rows : List Row) (l : List Int) : Prop where
  st : ∀ p ∈ st, lb l p.1.toNat = lb l p.2.toNat
  fwd : ∀ r ∈ rows, ∀ q ∈ rows, r.2.2.1 = q.2.2.1 → lb l r.2.1.toNat = lb l q.2.1.toNat → lb l r.2.2.2.toNat = lb l q.2.2.2.toNat
  bwd : ∀ r ∈ rows, ∀ q ∈ rows, r.2.2.1 = q.2.2.1 → lb l r.2.2.2.toNat = lb l q.2.2.2.toNat → lb l r.2.1.toNat = lb l q.2.1.toNat
theorem Keeps.of {st : List (Int × Int)} {rows : List Row} {l : List Int} (h : Keeps st rows l) {i j : Nat} (e : EE st rows i j) : lb l i = lb l j := by
  induction e with
  | refl i => rfl
  | symm _ ih => exact ih.symm
  | trans _ _ ih1 ih2 => exact ih1.trans ih2
  | start hp => exact h.st _ hp
  | fwd hr hq hk _ ih => exact h.fwd _ hr _ hq hk ih
  | bwd hr hq hk _ ih => exact h.bwd _ hr _ hq hk ih
structure Fold (st : List (Int × Int)) (rows : List Row) (n : Nat) (l : List Int) : Prop where
  len : l.length = n
  can : Can l
  sub : Sub l (EE st rows)
  keeps : Keeps st rows l
def mu (l : List Int) : Nat := (l.map Int.toNat).sum
theorem mu_le {f : Int → Int} : ∀ {l : List Int}, (∀ v ∈ l, (f v).toNat ≤ v.toNat) → mu (l.map f) ≤ mu l
  | [], _ => Nat.le_refl _
  | x :: l, h => by
    have := mu_le (l := l) fun v hv => h v (List.mem_cons_of_mem _ hv)
    have := h x List.mem_cons_self
    simp only [mu, List.map_cons, List.sum_cons] at *
    omega
theorem mu_lt {f : Int → Int} : ∀ {l : List Int}, (∀ v ∈ l, (f v).toNat ≤ v.toNat) → ∀ {w : Int}, w ∈ l → (f w).toNat < w.toNat → mu (l.map f) < mu l
  | [], _, _, hw, _ => nomatch hw
  | x :: l, h, w, hw, hlt => by
    have hr : ∀ v ∈ l, (f v).toNat ≤ v.toNat := fun v hv => h v (List.mem_cons_of_mem _ hv)
    have q1 := mu_le hr
    have q2 := h x List.mem_cons_self
    rcases List.mem_cons.mp hw with rfl | hw'
    · simp only [mu, List.map_cons, List.sum_cons] at *
      omega
    · have q3 := mu_lt hr hw' hlt
      simp only [mu, List.map_cons, List.sum_cons] at *
      omega
theorem jm_le {x y v : Int} (hx : 0 ≤ x) (hy : 0 ≤ y) : (jm x y v).toNat ≤ v.toNat := by
  unfold jm
  by_cases y1 : y > x
  · rw [if_pos y1, if_neg (show ¬y < x by omega)]
    split <;> omega
  · rw [if_neg y1]
    by_cases y2 : y < x
    · rw [if_pos y2]
      split <;> omega
    · rw [if_neg y2]
      split <;> omega
theorem lb_mem {l : List Int} {i : Nat} (h : i < l.length) : lb l i ∈ l := List.mem_of_getElem? (lb_get h)
theorem mu_jn_le {l : List Int} (h : Can l) {a b : Nat} (ha : a < l.length) (hb : b < l.length) : mu (jn l a b) ≤ mu l := mu_le fun v _ => jm_le (h a ha).1 (h b hb).1
theorem mu_jn_lt {l : List Int} (h : Can l) {a b : Nat} (ha : a < l.length) (hb : b < l.length) (e : lb l a ≠ lb l b) : mu (jn l a b) < mu l := by
  have a0 := (h a ha).1
  have b0 := (h b hb).1
  by_cases z : lb l b > lb l a
  · refine mu_lt (fun v _ => jm_le a0 b0) (lb_mem hb) ?_
    unfold jm
    rw [if_pos z, if_pos rfl, if_neg (by omega)]
    omega
  · refine mu_lt (fun v _ => jm_le a0 b0) (lb_mem ha) ?_
    unfold jm
    rw [if_neg z, if_pos rfl, if_pos (by omega)]
    omega
theorem lb_rg {n i : Nat} (h : i < n) : lb (rgI 0 n) i = i := by
  have h1 : i < (rgI 0 n).length := by simpa using h
  have := lb_get h1
  rw [List.getElem?_eq_getElem h1, rgI_get h1] at this
  have := Option.some.inj this
  omega
theorem can_rg (n : Nat) : Can (rgI 0 n) := fun i hi => by
  have hi : i < n := by simpa using hi
  rw [lb_rg hi, Int.toNat_natCast]
  exact ⟨by omega, Nat.le_refl _, lb_rg hi⟩
theorem sub_rg (n : Nat) (st : List (Int × Int)) (rows : List Row) : Sub (rgI 0 n) (EE st rows) := fun i hi j hj e => by
  have hi : i < n := by simpa using hi
  have hj : j < n := by simpa using hj
  rw [lb_rg hi, lb_rg hj] at e
  have : i = j := by omega
  rw [this]
  exact .refl _
theorem mu_rg (n : Nat) : mu (rgI 0 n) ≤ n * n := by
  have : ∀ (l : List Int), (∀ v ∈ l, v.toNat ≤ n) → mu l ≤ n * l.length := by
    intro l
    induction l with
    | nil => intro _; exact Nat.zero_le _
    | cons x l ih =>
      intro h
      have q1 := ih fun v hv => h v (List.mem_cons_of_mem _ hv)
      have q2 := h x List.mem_cons_self
      simp only [mu, List.map_cons, List.sum_cons, List.length_cons, Nat.mul_succ] at *
      omega
  have q := this (rgI 0 n) fun v hv => by
    have := rgI_mem hv
    omega
  simpa using q
def RowsIn (n : Nat) (rows : List Row) : Prop := ∀ r ∈ rows, 0 ≤ r.2.1 ∧ r.2.1.toNat < n ∧ 0 ≤ r.2.2.2 ∧ r.2.2.2.toNat < n
def StIn (n : Nat) (st : List (Int × Int)) : Prop := ∀ p ∈ st, 0 ≤ p.1 ∧ p.1.toNat < n ∧ 0 ≤ p.2 ∧ p.2.toNat < n
structure Half (st : List (Int × Int)) (rows : List Row) (n : Nat) (l : List Int) : Prop where
  len : l.length = n
  can : Can l
  sub : Sub l (EE st rows)
theorem Half.jn {st : List (Int × Int)} {rows : List Row} {n a b : Nat} {l : List Int} (h : Half st rows n l) (ha : a < n) (hb : b < n) (e : EE st rows a b) : Half st rows n (jn l a b) := ⟨(jn_len _ _ _).trans h.len, h.can.jn (h.len ▸ ha) (h.len ▸ hb), h.sub.jn (h.len ▸ ha) (h.len ▸ hb) e⟩
theorem jn_keep {l : List Int} {a b i j : Nat} (hi : i < l.length) (hj : j < l.length) (e : lb l i = lb l j) : lb (jn l a b) i = lb (jn l a b) j := by rw [lb_jn hi, lb_jn hj, e]
theorem jn_eq {l : List Int} {a b : Nat} (ha : a < l.length) (hb : b < l.length) : lb (jn l a b) a = lb (jn l a b) b := by
  rw [lb_jn ha, lb_jn hb]
  unfold jm
  by_cases y1 : lb l b > lb l a
  · rw [if_pos y1, if_neg (show ¬lb l b < lb l a by omega), if_neg (show ¬lb l a = lb l b by omega), if_pos rfl]
  · rw [if_neg y1, if_pos rfl]
    by_cases y2 : lb l b < lb l a
    · rw [if_pos y2, if_neg (show ¬lb l b = lb l a by omega)]
    · rw [if_neg y2]
      have : lb l b = lb l a := by omega
      rw [if_pos this]

def nr (side : Int) (r : Row) : Int := if side = -1 then r.2.2.2 else r.2.1
def fr (side : Int) (r : Row) : Int := if side = -1 then r.2.1 else r.2.2.2
theorem EE.dir {st : List (Int × Int)} {rows : List Row} (side : Int) {r q : Row} (hr : r ∈ rows) (hq : q ∈ rows) (hk : r.2.2.1 = q.2.2.1) (e : EE st rows (nr side r).toNat (nr side q).toNat) : EE st rows (fr side r).toNat (fr side q).toNat := by
  unfold nr at e
  unfold fr
  by_cases h : side = -1
  · rw [if_pos h, if_pos h] at *
    exact .bwd hr hq hk e
  · rw [if_neg h, if_neg h] at *
    exact .fwd hr hq hk e
theorem RowsIn.nr {n : Nat} {rows : List Row} (h : RowsIn n rows) {r : Row} (hr : r ∈ rows) (side : Int) : 0 ≤ nr side r ∧ (nr side r).toNat < n := by
  have := h r hr
  unfold Lw.nr
  split
  · exact ⟨this.2.2.1, this.2.2.2⟩
  · exact ⟨this.1, this.2.1⟩
theorem RowsIn.fr {n : Nat} {rows : List Row} (h : RowsIn n rows) {r : Row} (hr : r ∈ rows) (side : Int) : 0 ≤ fr side r ∧ (fr side r).toNat < n := by
  have := h r hr
  unfold Lw.fr
  split
  · exact ⟨this.1, this.2.1⟩
  · exact ⟨this.2.2.1, this.2.2.2⟩

theorem jn_same {l : List Int} {a b : Nat} (e : lb l a = lb l b) : jn l a b = l := by
  unfold jn
  rw [e]
  have : jm (lb l b) (lb l b) = id := by
    funext v
    unfold jm
    rw [if_neg (show ¬lb l b > lb l b by omega)]
    by_cases h : v = lb l b
    · rw [if_pos h, h]; rfl
    · rw [if_neg h]; rfl
  rw [this, List.map_id]

def stl (st : List (Int × Int)) (l : List Int) : List Int := st.foldl (fun l p => jn l p.1.toNat p.2.toNat) l
theorem stl_can {n : Nat} : ∀ {st : List (Int × Int)} {l : List Int}, StIn n st → l.length = n → Can l → (stl st l).length = n ∧ Can (stl st l) ∧ mu (stl st l) ≤ mu l
  | [], l, _, h, c => ⟨h, c, Nat.le_refl _⟩
  | p :: st, l, hs, h, c => by
    obtain ⟨p1, p2, p3, p4⟩ := hs p List.mem_cons_self
    have q := stl_can (st := st) (fun r hr => hs r (List.mem_cons_of_mem _ hr)) ((jn_len l p.1.toNat p.2.toNat).trans h) (c.jn (h.symm ▸ p2) (h.symm ▸ p4))
    exact ⟨q.1, q.2.1, Nat.le_trans q.2.2 (mu_jn_le c (h.symm ▸ p2) (h.symm ▸ p4))⟩
theorem st_fold {n : Nat} {B : List Int → Int × Int → Option (List Int)} (hB : ∀ l : List Int, l.length = n → ∀ p : Int × Int, 0 ≤ p.1 → p.1.toNat < n → 0 ≤ p.2 → p.2.toNat < n → B l p = some (jn l p.1.toNat p.2.toNat)) : ∀ {st : List (Int × Int)} {l : List Int}, StIn n st → l.length = n → forO B st l = some (stl st l)
  | [], l, _, _ => rfl
  | p :: st, l, hs, h => by
    obtain ⟨p1, p2, p3, p4⟩ := hs p List.mem_cons_self
    unfold forO
    exact bind_eq (hB l h p p1 p2 p3 p4) (st_fold hB (fun r hr => hs r (List.mem_cons_of_mem _ hr)) ((jn_len _ _ _).trans h))
theorem stl_half {st0 : List (Int × Int)} {rows : List Row} {n : Nat} : ∀ {st : List (Int × Int)} {l : List Int}, StIn n st → (∀ p ∈ st, p ∈ st0) → Half st0 rows n l → Half st0 rows n (stl st l) ∧ (∀ i < n, ∀ j < n, lb l i = lb l j → lb (stl st l) i = lb (stl st l) j) ∧ ∀ p ∈ st, lb (stl st l) p.1.toNat = lb (stl st l) p.2.toNat
  | [], l, _, _, h => ⟨h, fun _ _ _ _ e => e, fun p hp => nomatch hp⟩
  | p :: st, l, hs, hm, h => by
    obtain ⟨p1, p2, p3, p4⟩ := hs p List.mem_cons_self
    have hl := h.len
    obtain ⟨a, b, c⟩ := stl_half (st := st) (fun r hr => hs r (List.mem_cons_of_mem _ hr)) (fun r hr => hm r (List.mem_cons_of_mem _ hr)) (h.jn p2 p4 (.start (hm p List.mem_cons_self)))
    refine ⟨a, fun i hi j hj e => b i hi j hj (jn_keep (hl.symm ▸ hi) (hl.symm ▸ hj) e), fun q hq => ?_⟩
    rcases List.mem_cons.mp hq with rfl | z
    · exact b _ p2 _ p4 (jn_eq (hl.symm ▸ p2) (hl.symm ▸ p4))
    · exact c q z

def Stp (rows : List Row) (n : Nat) (Rp : List (Int × Int × Int) → List Int → Prop) : Prop := ∀ (paper : List (Int × Int × Int)) (l : List Int) (r q : Row) (side : Int), Rp paper l → l.length = n → (side = 1 ∨ side = -1) → r ∈ rows → q ∈ rows → r.2.2.1 = q.2.2.1 → lb l (nr side r).toNat = lb l (nr side q).toNat → lb l (fr side r).toNat ≠ lb l (fr side q).toNat → Rp (paper ++ [(r.1, q.1, side)]) (jn l (fr side r).toNat (fr side q).toNat)
abbrev SwS := List Int × List (Int × Int × Int) × List ((Int × Int) × (Int × Int)) × Bool
structure SwI (Rp : List (Int × Int × Int) → List Int → Prop) (st : List (Int × Int)) (rows : List Row) (n : Nat) (side : Int) (l0 : List Int) (C m : Nat) (s : SwS) : Prop where
  half : Half st rows n s.1
  mu : s.2.1.length + mu s.1 ≤ C
  len : s.2.2.1.length ≤ m
  first : ∀ x k num far, valG s.2.2.1 (x, k) = some (num, far) → 0 ≤ x ∧ x.toNat < n ∧ ∃ r ∈ rows, r.1 = num ∧ r.2.2.1 = k ∧ fr side r = far ∧ lb s.1 (nr side r).toNat = lb s.1 x.toNat
  rp : Rp s.2.1 s.1
  mono : ∀ i < n, ∀ j < n, lb l0 i = lb l0 j → lb s.1 i = lb s.1 j
  low : Lw.mu s.1 ≤ Lw.mu l0
  mv : s.2.2.2 = true → Lw.mu s.1 < Lw.mu l0
  st : s.2.2.2 = false → s.1 = l0 ∧ ∀ j < m, ∀ r, rows[j]? = some r → ∃ num far, valG s.2.2.1 (lb l0 (nr side r).toNat, r.2.2.1) = some (num, far) ∧ lb l0 far.toNat = lb l0 (fr side r).toNat
theorem sweep_b1 {Rp : List (Int × Int × Int) → List Int → Prop} {st : List (Int × Int)} {rows : List Row} {n : Nat} {side : Int} {l0 : List Int} {C m : Nat} (hn : n ≤ 1000) (hC : C ≤ 900000) (hR : RowsIn n rows) (hRp : Stp rows n Rp) (hside : side = 1 ∨ side = -1) (hm : m < rows.length) (hm2 : rows.length ≤ 100000) {s : SwS} (h : SwI Rp st rows n side l0 C m s) : Ok (T_sweep_b1 side s rows[m]) (SwI Rp st rows n side l0 C (m + 1)) := by
  obtain ⟨q, hq⟩ : ∃ q, q = rows[m] := ⟨_, rfl⟩
  have hqm : q ∈ rows := by rw [hq]; exact List.getElem_mem hm
  have hq' : rows[m]? = some q := by rw [hq]; exact List.getElem?_eq_getElem hm
  rw [← hq]
  have hl := h.half.len
  have hnr := hR.nr hqm side
  have hfr := hR.fr hqm side
  have stj : ∀ {P : Row → Prop}, (∀ j < m, ∀ r, rows[j]? = some r → P r) → P q → ∀ j < m + 1, ∀ r, rows[j]? = some r → P r := by
    intro P a b j hj r hr
    by_cases e : j = m
    · subst e
      rw [hq'] at hr
      cases hr
      exact b
    · exact a j (by omega) r hr
  have hroot : lb s.1 (lb s.1 (nr side q).toNat).toNat = lb s.1 (nr side q).toNat := (h.half.can _ (hl.symm ▸ hnr.2)).2.2
  have hrl := h.half.can.lt (i := (nr side q).toNat) (hl.symm ▸ hnr.2)
  have hr0 : 0 ≤ lb s.1 (nr side q).toNat := (h.half.can _ (hl.symm ▸ hnr.2)).1
  unfold T_sweep_b1
  refine ok_bind (Q := fun p : Int × Int => p = (nr side q, fr side q)) ?_ fun p hp => ?_
  · refine ok_ite (fun z => ok_some ?_) fun z => ok_some ?_
    · have z := of_decide_eq_true z
      unfold nr fr
      rw [if_pos z, if_pos z]
    · have z : ¬side = -1 := fun y => z (decide_eq_true y)
      unfold nr fr
      rw [if_neg z, if_neg z]
  subst hp
  refine ok_eq (ixT_lb hnr.1 (hl.symm ▸ hnr.2)) ?_
  refine ok_bind (Q := SwI Rp st rows n side l0 C (m + 1)) ?_ fun s' hs' => ok_some hs'
  cases hv : valG s.2.2.1 (lb s.1 (nr side q).toNat, q.2.2.1) with
  | none =>
    rw [if_pos (by rfl)]
    refine ok_eq (putT_of (by rw [LIM_eq]; have := h.len; omega)) (ok_some ⟨h.half, h.mu, ?_, fun x k num far e => ?_, h.rp, h.mono, h.low, h.mv, fun e => ⟨(h.st e).1, ?_⟩⟩)
    · exact Nat.le_trans (putG_len _ _ _) (Nat.succ_le_succ h.len)
    · have e2 : valG (putG s.2.2.1 (lb s.1 (nr side q).toNat, q.2.2.1) (q.1, fr side q)) (x, k) = some (num, far) := e
      clear e
      rw [valG_put] at e2
      by_cases z : (x, k) = (lb s.1 (nr side q).toNat, q.2.2.1)
      · rw [if_pos z] at e2
        obtain ⟨z1, z2⟩ := Prod.mk.inj z
        obtain ⟨y1, y2⟩ := Prod.mk.inj (Option.some.inj e2)
        rw [z1]
        exact ⟨hr0, hl ▸ hrl, q, hqm, y1, z2.symm, y2, hroot.symm⟩
      · rw [if_neg z] at e2
        exact h.first x k num far e2
    · have e1 := (h.st e).1
      refine stj (P := fun r => ∃ num far, valG (putG s.2.2.1 (lb s.1 (nr side q).toNat, q.2.2.1) (q.1, fr side q)) (lb l0 (nr side r).toNat, r.2.2.1) = some (num, far) ∧ lb l0 far.toNat = lb l0 (fr side r).toNat) (fun j hj r hr => ?_) ?_
      · obtain ⟨num, far, a, b⟩ := (h.st e).2 j hj r hr
        refine ⟨num, far, ?_, b⟩
        rw [valG_put, if_neg ?_]
        · exact a
        · intro z
          rw [z, hv] at a
          cases a
      · refine ⟨q.1, fr side q, ?_, rfl⟩
        rw [valG_put, if_pos (by rw [e1])]
  | some v =>
    obtain ⟨num, far⟩ := v
    obtain ⟨_, _, r, hr, hnum, hk, hf, hE⟩ := h.first _ _ _ _ hv
    have hNr : lb s.1 (nr side r).toNat = lb s.1 (nr side q).toNat := hE.trans hroot
    have hnr2 := hR.nr hr side
    have hfar := hR.fr hr side
    rw [hf] at hfar
    have hEf : EE st rows far.toNat (fr side q).toNat := by
      rw [← hf]
      exact EE.dir side hr hqm hk (h.half.sub _ (hl.symm ▸ hnr2.2) _ (hl.symm ▸ hnr.2) hNr)
    rw [if_neg (by simp)]
    refine ok_eq rfl (ok_eq (ixT_lb hfar.1 (hl.symm ▸ hfar.2)) (ok_eq (ixT_lb hfr.1 (hl.symm ▸ hfr.2)) ?_))
    refine ok_bind (Q := fun s' : List Int × List (Int × Int × Int) × Bool => SwI Rp st rows n side l0 C (m + 1) (s'.1, s'.2.1, s.2.2.1, s'.2.2)) ?_ fun s' hs' => ok_some hs'
    by_cases z : lb s.1 far.toNat = lb s.1 (fr side q).toNat
    · rw [if_neg (by simpa using z)]
      refine ok_some ⟨h.half, h.mu, Nat.le_succ_of_le h.len, h.first, h.rp, h.mono, h.low, h.mv, fun e => ⟨(h.st e).1, stj (h.st e).2 ⟨num, far, ?_, ?_⟩⟩⟩
      · rw [← (h.st e).1]; exact hv
      · rw [← (h.st e).1]; exact z
    · rw [if_pos (by simpa using z)]
      have mlt := mu_jn_lt h.half.can (hl.symm ▸ hfar.2) (hl.symm ▸ hfr.2) z
      have hmu := h.mu
      have hlow := h.low
      refine ok_eq (join_ok hfar.1 (hl.symm ▸ hfar.2) hfr.1 (hl.symm ▸ hfr.2) (by omega)) (ok_eq (appT_of' (by rw [LIM_eq]; omega)) (ok_some ⟨h.half.jn hfar.2 hfr.2 hEf, ?_, Nat.le_succ_of_le h.len, fun x k num' far' e => ?_, ?_, fun i hi j hj e => ?_, ?_, fun _ => ?_, fun e => nomatch e⟩))
      · show (s.2.1 ++ [_]).length + mu (jn s.1 far.toNat (fr side q).toNat) ≤ C
        rw [List.length_append]
        simp only [List.length_cons, List.length_nil]
        omega
      · obtain ⟨x0, x1, r', g1, g2, g3, g4, g5⟩ := h.first x k num' far' e
        exact ⟨x0, x1, r', g1, g2, g3, g4, jn_keep (hl.symm ▸ (hR.nr g1 side).2) (hl.symm ▸ x1) g5⟩
      · rw [← hf] at z ⊢
        show Rp (s.2.1 ++ [(num, q.1, side)]) (jn s.1 (fr side r).toNat (fr side q).toNat)
        rw [← hnum]
        exact hRp _ _ r q side h.rp hl hside hr hqm hk hNr z
      · exact jn_keep (hl.symm ▸ hi) (hl.symm ▸ hj) (h.mono i hi j hj e)
      · show mu (jn s.1 far.toNat (fr side q).toNat) ≤ _
        omega
      · show mu (jn s.1 far.toNat (fr side q).toNat) < _
        omega
theorem sweep_ok {Rp : List (Int × Int × Int) → List Int → Prop} {st : List (Int × Int)} {rows : List Row} {n : Nat} (side : Int) {l : List Int} {paper : List (Int × Int × Int)} {C : Nat} (hn : n ≤ 1000) (hC : C ≤ 900000) (hR : RowsIn n rows) (hRp : Stp rows n Rp) (hside : side = 1 ∨ side = -1) (hm : rows.length ≤ 100000) (h : Half st rows n l) (hrp : Rp paper l) (hmu : paper.length + mu l ≤ C) : Ok (T_sweep l rows side paper) fun r => Half st rows n r.2.1 ∧ Rp r.2.2 r.2.1 ∧ r.2.2.length + mu r.2.1 ≤ C ∧ (∀ i < n, ∀ j < n, lb l i = lb l j → lb r.2.1 i = lb r.2.1 j) ∧ mu r.2.1 ≤ mu l ∧ (r.1 = true → mu r.2.1 < mu l) ∧ (r.1 = false → r.2.1 = l ∧ ∀ q ∈ rows, ∀ q' ∈ rows, q.2.2.1 = q'.2.2.1 → lb l (nr side q).toNat = lb l (nr side q').toNat → lb l (fr side q).toNat = lb l (fr side q').toNat) := by
  unfold T_sweep
  refine ok_bind (ok_for (SwI Rp st rows n side l C) ⟨h, hmu, Nat.le_refl _, fun x k num far e => (nomatch e), hrp, fun _ _ _ _ e => e, Nat.le_refl _, fun e => (nomatch e), fun _ => ⟨rfl, fun j hj => absurd hj (Nat.not_lt_zero _)⟩⟩ fun m hm' s hs => sweep_b1 hn hC hR hRp hside hm' hm hs) fun s hs => ok_some ⟨hs.half, hs.rp, hs.mu, hs.mono, hs.low, hs.mv, fun e => ⟨(hs.st e).1, fun q hq q' hq' hk e1 => ?_⟩⟩
  obtain ⟨j, hj, rfl⟩ := List.getElem_of_mem hq
  obtain ⟨j', hj', rfl⟩ := List.getElem_of_mem hq'
  obtain ⟨num, far, a, b⟩ := (hs.st e).2 j hj _ (List.getElem?_eq_getElem hj)
  obtain ⟨num', far', a', b'⟩ := (hs.st e).2 j' hj' _ (List.getElem?_eq_getElem hj')
  rw [e1, hk, a'] at a
  cases a
  exact b.symm.trans b'
theorem folded_b1 {n : Nat} (hn : n ≤ 1000) (l : List Int) (h : l.length = n) (p : Int × Int) (p1 : 0 ≤ p.1) (p2 : p.1.toNat < n) (p3 : 0 ≤ p.2) (p4 : p.2.toNat < n) : T_folded_b1 l p = some (jn l p.1.toNat p.2.toNat) := by
  unfold T_folded_b1
  refine bind_eq (ixT_lb p1 (h.symm ▸ p2)) (bind_eq (ixT_lb p3 (h.symm ▸ p4)) (bind_eq (x := jn l p.1.toNat p.2.toNat) ?_ rfl))
  by_cases z : lb l p.1.toNat = lb l p.2.toNat
  · rw [if_neg (by simpa using z), jn_same z]
  · rw [if_pos (by simpa using z)]
    exact bind_eq (join_ok p1 (h.symm ▸ p2) p3 (h.symm ▸ p4) (by omega)) rfl
theorem folded_ok {Rp : List (Int × Int × Int) → List Int → Prop} {st : List (Int × Int)} {rows : List Row} {n : Nat} (hn : n ≤ 900) (hR : RowsIn n rows) (hS : StIn n st) (hm : rows.length ≤ 100000) (hRp : Stp rows n Rp) (h0 : Rp [] (stl st (rgI 0 n))) : Ok (T_folded n rows st) fun r => Fold st rows n r.1 ∧ Rp r.2 r.1 ∧ r.2.length ≤ 900000 := by
  unfold T_folded
  have e0 : ((n : Int)).toNat = n := Int.toNat_natCast _
  have hl0 : (rgI 0 n).length = n := by simp
  refine ok_eq (lrgT_of (bndL_ok (by omega) (by omega))) ?_
  rw [e0]
  refine ok_eq (st_fold (folded_b1 (by omega)) hS hl0) ?_
  obtain ⟨h1, _, hst⟩ := stl_half (st0 := st) (rows := rows) hS (fun p hp => hp) ⟨hl0, can_rg _, sub_rg _ _ _⟩
  have m0 := mu_rg n
  have m1 := (stl_can hS hl0 (can_rg n)).2.2
  have hnn : n * n ≤ 900 * 900 := Nat.mul_le_mul hn hn
  generalize stl st (rgI 0 n) = l at h1 hst m1 h0
  refine ok_bind (ok_while (fun s : List Int × List (Int × Int × Int) × Bool => Half st rows n s.1 ∧ Rp s.2.1 s.1 ∧ (∀ p ∈ st, lb s.1 p.1.toNat = lb s.1 p.2.toNat) ∧ s.2.1.length + mu s.1 ≤ 900000 ∧ (s.2.2 = false → Keeps st rows s.1)) (fun s => if s.2.2 = true then mu s.1 + 1 else 0) ⟨h1, h0, hst, by show 0 + mu l ≤ _; omega, fun e => nomatch e⟩ fun s hs => ?_) fun s hs => ok_some ?_
  · unfold T_folded_t2
    refine ok_some fun hmv => ?_
    unfold T_folded_b2
    obtain ⟨s1, s0, s2, s3, _⟩ := hs
    refine ok_bind (sweep_ok 1 (by omega) (Nat.le_refl _) hR hRp (.inl rfl) hm s1 s0 s3) fun a ha => ?_
    obtain ⟨a1, a0, a2, a3, a4, a5, a6⟩ := ha
    refine ok_bind (sweep_ok (-1) (by omega) (Nat.le_refl _) hR hRp (.inr rfl) hm a1 a0 a2) fun b hb => ?_
    obtain ⟨b1, b0, b2, b3, b4, b5, b6⟩ := hb
    refine ok_bind (Q := fun c : Bool => c = (b.1 || a.1)) ?_ fun c hc => ok_some ⟨⟨b1, b0, fun p hp => ?_, b2, fun e => ?_⟩, ?_⟩
    · refine ok_ite (fun z => ok_some ?_) fun z => ok_some ?_
      · rw [z]; rfl
      · rw [Bool.eq_false_iff.mpr z]; rfl
    · obtain ⟨r1, r2, r3, r4⟩ := hS p hp
      exact b3 _ r2 _ r4 (a3 _ r2 _ r4 (s2 p hp))
    · have e : c = false := e
      rw [hc, Bool.or_eq_false_iff] at e
      obtain ⟨b7, b8⟩ := b6 e.1
      obtain ⟨a7, a8⟩ := a6 e.2
      rw [a7] at b7 b8
      show Keeps st rows b.2.1
      rw [b7]
      refine ⟨s2, fun r hr q hq hk e => ?_, fun r hr q hq hk e => ?_⟩
      · exact a8 r hr q hq hk e
      · exact b8 r hr q hq hk e
    · show (if c = true then mu b.2.1 + 1 else 0) < if s.2.2 = true then mu s.1 + 1 else 0
      rw [if_pos hmv]
      by_cases z : c = true
      · rw [if_pos z]
        rw [hc, Bool.or_eq_true] at z
        rcases z with z | z
        · have := b5 z; omega
        · have := a5 z; omega
      · rw [if_neg z]; omega
  · obtain ⟨⟨s1, s0, s2, s3, s4⟩, s5⟩ := hs
    unfold T_folded_t2 at s5
    exact ⟨⟨s1.len, s1.can, s1.sub, s4 (Option.some.inj s5)⟩, s0, by show s.2.1.length ≤ _; omega⟩

inductive En where
  | row (n a k b : Int)
  | ap (n a b : Int)
  deriving DecidableEq
def En.num : En → Int
  | .row n .. => n
  | .ap n .. => n
def enD : En → D
  | .row n a k b => .tup [.int n, .str ("row" : Str), .int a, .int k, .int b]
  | .ap n a b => .tup [.int n, .str ("apart" : Str), .int a, .int b]
def enRow : En → Option Row
  | .row n a k b => some (n, a, k, b)
  | _ => none
def rowsE (es : List En) : List Row := es.filterMap enRow
def EnOk (K m : Nat) : En → Prop
  | .row _ a k b => 0 ≤ a ∧ a.toNat < m ∧ 1 ≤ k ∧ k ≤ K ∧ 0 ≤ b ∧ b.toNat < m
  | .ap _ a b => 0 ≤ a ∧ a.toNat < m ∧ 0 ≤ b ∧ b.toNat < m
structure BookOk (K m : Nat) (es : List En) (c : Int) (b : S_Survey) : Prop where
  kinds : b.kinds = K
  many : b.many = m
  kept : b.kept = es.map enD
  coming : b.coming = c
  ok : ∀ e ∈ es, EnOk K m e
  len : es.length ≤ 40
theorem row_row : seqT ("row" : Str) ("row" : Str) = some true := by decide +kernel
theorem ap_row : seqT ("apart" : Str) ("row" : Str) = some false := by decide +kernel
theorem row_ap : seqT ("row" : Str) ("apart" : Str) = some false := by decide +kernel
theorem ap_ap : seqT ("apart" : Str) ("apart" : Str) = some true := by decide +kernel
theorem dAdd_tup {a b : List D} (h : a.length + b.length ≤ 1000) (i : immL a = true) (j : immL b = true) (ha : a ≠ []) (hb : b ≠ []) : dAdd (.tup a) (.tup b) = some (.tup (a ++ b)) := by
  show (if a.length + b.length ≤ LIM ∧ immL a = true ∧ immL b = true ∧ a ≠ [] ∧ b ≠ [] then some (D.tup (a ++ b)) else none) = _
  rw [if_pos ⟨by rw [LIM_eq]; omega, i, j, ha, hb⟩]
theorem filO_map {α β : Type} {t : D → Option Bool} {y : D → Option β} {f : α → D} {g : α → Option β} : ∀ {es : List α}, (∀ e ∈ es, (∃ v, g e = some v ∧ t (f e) = some true ∧ y (f e) = some v) ∨ (g e = none ∧ t (f e) = some false)) → filO t y (es.map f) = some (es.filterMap g)
  | [], _ => rfl
  | e :: es, h => by
    have ih := filO_map fun x hx => h x (List.mem_cons_of_mem _ hx)
    unfold filO
    rw [List.map_cons]
    rcases h e List.mem_cons_self with ⟨v, h1, h2, h3⟩ | ⟨h1, h2⟩
    · simp [h1, h2, h3, ih]
    · simp [h1, h2, ih]
theorem rows_of {es : List En} (h : es.length ≤ 1000) {t : D → Option Bool} {y : D → Option Row} (ht : ∀ e, t (enD e) = some (enRow e).isSome) (hy : ∀ n a k b, y (enD (.row n a k b)) = some (n, a, k, b)) : lcT t y (es.map enD) = some (rowsE es) := by
  unfold lcT
  rw [if_pos (by rw [LIM_eq, List.length_map]; omega)]
  refine filO_map fun e _ => ?_
  cases e with
  | row n a k b => exact .inl ⟨_, rfl, ht _, hy n a k b⟩
  | ap n a b => exact .inr ⟨rfl, ht _⟩
theorem rows_now {K m : Nat} {es : List En} {c : Int} {b : S_Survey} (h : BookOk K m es c b) : T_Survey_rows_now b = some (rowsE es) := by
  have hl := h.len
  unfold T_Survey_rows_now
  rw [h.kept]
  refine bind_eq (rows_of (by omega) (fun e => ?_) fun n a k b => ?_) rfl
  · cases e with
    | row n a k b => exact bind_eq (x := .str ("row" : Str)) rfl (bind_eq (x := ("row" : Str)) rfl (bind_eq row_row rfl))
    | ap n a b => exact bind_eq (x := .str ("apart" : Str)) rfl (bind_eq (x := ("apart" : Str)) rfl (bind_eq ap_row rfl))
  · exact bind_eq (x := .int n) rfl (bind_eq (x := n) rfl (bind_eq (x := .int a) rfl (bind_eq (x := a) rfl (bind_eq (x := .int k) rfl (bind_eq (x := k) rfl (bind_eq (x := .int b) rfl (bind_eq (x := b) rfl rfl)))))))
theorem rowsE_mem {es : List En} {r : Row} (h : r ∈ rowsE es) : ∃ n a k b, En.row n a k b ∈ es ∧ r = (n, a, k, b) := by
  obtain ⟨e, h1, h2⟩ := List.mem_filterMap.mp h
  cases e with
  | row n a k b => cases h2; exact ⟨n, a, k, b, h1, rfl⟩
  | ap n a b => cases h2
theorem rowsE_len (es : List En) : (rowsE es).length ≤ es.length := List.length_filterMap_le _ _
theorem BookOk.rowsIn {K m : Nat} {es : List En} {c : Int} {b : S_Survey} (h : BookOk K m es c b) : RowsIn m (rowsE es) := fun r hr => by
  obtain ⟨n, a, k, b, h1, rfl⟩ := rowsE_mem hr
  obtain ⟨q1, q2, _, _, q5, q6⟩ := h.ok _ h1
  exact ⟨q1, q2, q5, q6⟩
theorem folded_any {st : List (Int × Int)} {rows : List Row} {n : Nat} (hn : n ≤ 900) (hR : RowsIn n rows) (hS : StIn n st) (hm : rows.length ≤ 100000) : Ok (T_folded n rows st) fun r => Fold st rows n r.1 :=
  ok_mono (folded_ok (Rp := fun _ _ => True) hn hR hS hm (fun _ _ _ _ _ _ _ _ _ _ _ _ _ => trivial) trivial) fun r hr => hr.1
theorem labels_now {K m : Nat} {es : List En} {c : Int} {b : S_Survey} (h : BookOk K m es c b) (hm : m ≤ 100) : Ok (T_Survey_labels_now b) (Fold [] (rowsE es) m) := by
  have hl := h.len
  have := rowsE_len es
  unfold T_Survey_labels_now
  refine ok_eq (rows_now h) ?_
  rw [h.many]
  exact ok_bind (folded_any (by omega) h.rowsIn (fun p hp => (nomatch hp)) (by omega)) fun r hr => ok_some hr
theorem need_marks {K m : Nat} {es : List En} {c : Int} {b : S_Survey} (h : BookOk K m es c b) {a d : Int} (ha : 0 ≤ a ∧ a.toNat < m) (hd : 0 ≤ d ∧ d.toNat < m) : T_Survey_need_marks b a d = some (.ok (), ()) := by
  unfold T_Survey_need_marks
  rw [h.many, if_neg (by simp; omega)]
theorem need_room {K m : Nat} {es : List En} {c : Int} {b : S_Survey} (h : BookOk K m es c b) (hr : es.length < 40) : T_Survey_need_room b = some (.ok (), ()) := by
  unfold T_Survey_need_room
  rw [h.kept, if_neg (by simp; omega)]
theorem same_ok {K m : Nat} {es : List En} {c : Int} {b : S_Survey} (h : BookOk K m es c b) (hm : m ≤ 100) {a d : Int} (ha : 0 ≤ a ∧ a.toNat < m) (hd : 0 ≤ d ∧ d.toNat < m) : Ok (T_Survey_same b a d) fun r => ∃ l, Fold [] (rowsE es) m l ∧ r = (.ok (decide (lb l a.toNat = lb l d.toNat)), ()) := by
  unfold T_Survey_same
  refine ok_eq (need_marks h ha hd) ?_
  rw [caseE_ok]
  refine ok_bind (labels_now h hm) fun l hl => ?_
  have hll := hl.len
  exact ok_eq (ixT_lb ha.1 (by omega)) (ok_eq (ixT_lb hd.1 (by omega)) (ok_some ⟨l, hl, rfl⟩))
def brk (l : List Int) : En → Bool
  | .ap _ a b => decide (lb l a.toNat = lb l b.toNat)
  | _ => false
theorem broken_ok {K m : Nat} {es : List En} {c : Int} {b : S_Survey} (h : BookOk K m es c b) {l : List Int} (hl : m ≤ l.length) : Ok (T_Survey_broken b l) fun r => r.isSome = es.any (brk l) := by
  unfold T_Survey_broken
  rw [h.kept]
  have : Ok (forC (T_Survey_broken_b1 l) (es.map enD) ()) (orR (fun _ => es.any (brk l) = false) fun r : Option Int => r.isSome = true ∧ es.any (brk l) = true) := by
    refine ok_mono (ok_forC (R := fun r : Option Int => r.isSome = true ∧ es.any (brk l) = true) (B := T_Survey_broken_b1 l) (l := es.map enD) (s := ()) (fun k _ => (es.take k).any (brk l) = false) rfl fun k hk s hs => ?_) fun z hz => ?_
    · have hk' : k < es.length := by simpa using hk
      have e1 : (es.take (k + 1)).any (brk l) = ((es.take k).any (brk l) || brk l es[k]) := by
        rw [List.take_succ, List.any_append, List.getElem?_eq_getElem hk']
        simp
      rw [List.getElem_map]
      have hok := h.ok _ (List.getElem_mem hk')
      have hm := List.getElem_mem hk'
      unfold T_Survey_broken_b1
      cases he : es[k] with
      | row n a k' d =>
        refine ok_eq (x := .str ("row" : Str)) rfl (ok_eq (x := ("row" : Str)) rfl (ok_eq row_ap (ok_eq (x := false) rfl (ok_inl ?_))))
        rw [e1, hs, he]
        rfl
      | ap n a d =>
        rw [he] at hok hm
        obtain ⟨q1, q2, q3, q4⟩ := hok
        refine ok_eq (x := .str ("apart" : Str)) rfl (ok_eq (x := ("apart" : Str)) rfl (ok_eq ap_ap ?_))
        refine ok_eq (x := decide (lb l a.toNat = lb l d.toNat)) ?_ ?_
        · rw [if_pos rfl]
          exact bind_eq (x := .int a) rfl (bind_eq (x := a) rfl (bind_eq (ixT_lb q1 (by omega)) (bind_eq (x := .int d) rfl (bind_eq (x := d) rfl (bind_eq (ixT_lb q3 (by omega)) rfl)))))
        · by_cases q : lb l a.toNat = lb l d.toNat
          · rw [decide_eq_true q, if_pos rfl]
            exact ok_eq (x := .int n) rfl (ok_eq (x := n) rfl (ok_inr ⟨rfl, List.any_eq_true.mpr ⟨_, hm, decide_eq_true q⟩⟩))
          · rw [decide_eq_false q, if_neg (by decide)]
            refine ok_inl ?_
            rw [e1, hs, he]
            show (false || decide _) = false
            rw [decide_eq_false q]
            rfl
    · cases z with
      | inl s =>
        have hz : (es.take (es.map enD).length).any (brk l) = false := hz
        rw [List.length_map, List.take_length] at hz
        exact hz
      | inr r => exact hz
  refine ok_then (I := fun _ => es.any (brk l) = false) (R := fun r : Option Int => r.isSome = es.any (brk l)) (ok_mono this fun z hz => ?_) fun s hs => ok_some hs.symm
  cases z with
  | inl s => exact hz
  | inr r => exact hz.1.trans hz.2.symm
theorem lettered_one {K : Nat} {k : Int} (h : 1 ≤ k ∧ k ≤ K) : T_lettered [k] K = some true := by
  unfold T_lettered
  rw [thenC_l (s := ()) (forC_pass fun x hx => ?_)]
  have : x = k := by simpa using hx
  subst this
  unfold T_lettered_b1
  rw [if_neg (by simp; omega)]
theorem trail_one {first a k : Int} (h : 1 ≤ k) : T_trail first a [k] = some ([(-1, a, k, first)], first) := by
  unfold T_trail
  refine bind_eq (x := [0]) ((rg1T_of (bnd62_ok (by simp) (by simp))).trans rfl) (bind_eq (x := ([(-1, a, k, first)], first)) ?_ rfl)
  unfold forO
  refine bind_eq (x := ([(-1, a, k, first)], first)) ?_ rfl
  unfold T_trail_b1
  refine bind_eq (x := k) rfl ?_
  rw [if_pos (by simp; omega)]
  refine bind_eq (x := [(-1, a, k, first)]) (bind_eq (x := k) rfl ?_) (by simp)
  refine bind_eq (appT_of' (by show 0 < _; rw [LIM_eq]; decide)) ?_
  simp
def rowX (es : List En) (m : Nat) (a k : Int) : List Row := rowsE es ++ [(-1, a, k, (m : Int))]
theorem never_one {K m : Nat} {es : List En} {c : Int} {b : S_Survey} (h : BookOk K m es c b) (hm : m ≤ 100) {a k d : Int} (ha : 0 ≤ a ∧ a.toNat < m) (hk : 1 ≤ k ∧ k ≤ K) (hd : 0 ≤ d ∧ d.toNat < m) : Ok (T_Survey_never_paper b a [k] d) fun r => ∃ o l, r = (.ok o, ()) ∧ Fold [((m : Int), d)] (rowX es m a k) (m + 1) l ∧ o.isSome = es.any (brk l) := by
  have hl := h.len
  have hrl := rowsE_len es
  unfold T_Survey_never_paper
  refine ok_eq (x := (.ok (), ())) ?_ ?_
  · unfold T_Survey_need_way
    refine bind_eq (need_marks h ha hd) ?_
    rw [caseE_ok, h.kinds]
    exact bind_eq (lettered_one hk) rfl
  rw [caseE_ok, h.many]
  refine ok_eq (trail_one hk.1) (ok_eq (rows_now h) (ok_eq (addT_of (by rw [LIM_eq]; simp; omega)) ?_))
  have hR : RowsIn (m + 1) (rowX es m a k) := fun r hr => by
    rcases List.mem_append.mp hr with z | z
    · have := h.rowsIn r z
      omega
    · rw [List.mem_singleton.mp z]
      refine ⟨ha.1, ?_, ?_, ?_⟩
      · show a.toNat < m + 1
        omega
      · show 0 ≤ (m : Int)
        omega
      · show ((m : Int)).toNat < m + 1
        omega
  have hS : StIn (m + 1) [((m : Int), d)] := fun p hp => by
    rw [List.mem_singleton.mp hp]
    refine ⟨?_, ?_, hd.1, ?_⟩
    · show 0 ≤ (m : Int)
      omega
    · show ((m : Int)).toNat < m + 1
      omega
    · show d.toNat < m + 1
      omega
  refine ok_bind (Q := fun r => Fold [((m : Int), d)] (rowX es m a k) (m + 1) r.1) (folded_any (n := m + 1) (by omega) hR hS (by show (rowsE es ++ [_]).length ≤ 100000; simp; omega)) fun r hr => ?_
  refine ok_bind (broken_ok h (by rw [hr.len]; omega)) fun o ho => ?_
  cases o with
  | none => exact ok_some ⟨none, r.1, rfl, hr, ho⟩
  | some n => exact ok_some ⟨some (n, r.2), r.1, rfl, hr, ho⟩
theorem BookOk.add {K m : Nat} {es : List En} {c : Int} {b : S_Survey} (h : BookOk K m es c b) {e : En} (he : EnOk K m e) (hr : es.length < 40) : BookOk K m (es ++ [e]) (c + 1) { { b with kept := es.map enD ++ [enD e] } with coming := c + 1 } := ⟨h.kinds, h.many, by simp, rfl, fun x hx => by
  rcases List.mem_append.mp hx with z | z
  · exact h.ok x z
  · rw [List.mem_singleton.mp z]; exact he, by simp; omega⟩
theorem row_ok {K m : Nat} {es : List En} {c : Int} {b : S_Survey} (h : BookOk K m es c b) (hm : m ≤ 100) (hr : es.length < 40) {a k d : Int} (ha : 0 ≤ a ∧ a.toNat < m) (hk : 1 ≤ k ∧ k ≤ K) (hd : 0 ≤ d ∧ d.toNat < m) : Ok (T_Survey_row b a k d) fun r => ∃ l, Fold [((m : Int), d)] (rowX es m a k) (m + 1) l ∧
    ((es.any (brk l) = true ∧ r = (.error "Barred", b)) ∨ (es.any (brk l) = false ∧ ∃ b2, r = (.ok c, b2) ∧ BookOk K m (es ++ [.row c a k d]) (c + 1) b2 ∧ b2.held = b.held)) := by
  unfold T_Survey_row
  refine ok_eq (need_marks h ha hd) ?_
  rw [caseE_ok, h.kinds, if_neg (by simp; omega)]
  refine ok_eq (need_room h hr) ?_
  rw [caseE_ok]
  refine ok_bind (never_one h hm ha hk hd) fun x hx => ?_
  obtain ⟨o, l, rfl, hf, ho⟩ := hx
  rw [caseE_ok]
  cases o with
  | some n =>
    rw [if_pos (by rfl)]
    exact ok_some ⟨l, hf, .inl ⟨ho.symm, rfl⟩⟩
  | none =>
    rw [if_neg (by simp)]
    refine ok_eq (x := (c, { { b with kept := es.map enD ++ [enD (.row c a k d)] } with coming := c + 1 })) ?_ (ok_some ⟨l, hf, .inr ⟨ho.symm, _, rfl, h.add (e := .row c a k d) (show 0 ≤ a ∧ a.toNat < m ∧ 1 ≤ k ∧ k ≤ (K : Int) ∧ 0 ≤ d ∧ d.toNat < m from ⟨ha.1, ha.2, hk.1, hk.2, hd.1, hd.2⟩) hr, rfl⟩⟩)
    unfold T_Survey_enter
    rw [h.coming, h.kept]
    refine bind_eq (x := enD (.row c a k d)) ?_ (bind_eq (appT_of' (by rw [LIM_eq, List.length_map]; omega)) rfl)
    exact dAdd_tup (by simp) rfl rfl (by simp) (by simp)
theorem apart_ok {K m : Nat} {es : List En} {c : Int} {b : S_Survey} (h : BookOk K m es c b) (hm : m ≤ 100) (hr : es.length < 40) {a d : Int} (ha : 0 ≤ a ∧ a.toNat < m) (hd : 0 ≤ d ∧ d.toNat < m) : Ok (T_Survey_apart b a d) fun r => ∃ l, Fold [] (rowsE es) m l ∧
    ((lb l a.toNat = lb l d.toNat ∧ r = (.error "Barred", b)) ∨ (lb l a.toNat ≠ lb l d.toNat ∧ ∃ b2, r = (.ok c, b2) ∧ BookOk K m (es ++ [.ap c a d]) (c + 1) b2 ∧ b2.held = b.held)) := by
  unfold T_Survey_apart
  refine ok_eq (need_marks h ha hd) ?_
  rw [caseE_ok]
  refine ok_eq (need_room h hr) ?_
  rw [caseE_ok]
  refine ok_bind (same_ok h hm ha hd) fun x hx => ?_
  obtain ⟨l, hf, rfl⟩ := hx
  rw [caseE_ok]
  by_cases q : lb l a.toNat = lb l d.toNat
  · rw [if_pos (decide_eq_true q)]
    exact ok_some ⟨l, hf, .inl ⟨q, rfl⟩⟩
  · rw [if_neg (by simpa using q)]
    refine ok_eq (x := (c, { { b with kept := es.map enD ++ [enD (.ap c a d)] } with coming := c + 1 })) ?_ (ok_some ⟨l, hf, .inr ⟨q, _, rfl, h.add (e := .ap c a d) (show 0 ≤ a ∧ a.toNat < m ∧ 0 ≤ d ∧ d.toNat < m from ⟨ha.1, ha.2, hd.1, hd.2⟩) hr, rfl⟩⟩)
    unfold T_Survey_enter
    rw [h.coming, h.kept]
    refine bind_eq (x := enD (.ap c a d)) ?_ (bind_eq (appT_of' (by rw [LIM_eq, List.length_map]; omega)) rfl)
    exact dAdd_tup (by simp) rfl rfl (by simp) (by simp)

theorem init_ok {K : Nat} (h : 1 ≤ K ∧ K ≤ 5) : Ok ((T_Survey_init K).bind okT) fun b => BookOk K 0 [] 1 b ∧ b.held = [] := by
  unfold T_Survey_init
  rw [if_neg (by simp; omega)]
  exact ok_eq rfl (ok_some ⟨⟨rfl, rfl, rfl, rfl, fun e he => (nomatch he), Nat.zero_le _⟩, rfl⟩)

theorem immL_en (es : List En) : immL (es.map enD) = true := by
  induction es with
  | nil => rfl
  | cons e es ih =>
    show (imm (enD e) && immL (es.map enD)) = true
    rw [ih]
    cases e <;> rfl

def left (es : List En) (n : Int) : List En := es.filter fun e => !decide (e.num = n)
theorem fil_en {t : D → Option Bool} {y : D → Option D} {n : Int} (ht : ∀ e, t (enD e) = some (!decide (e.num = n))) (hy : ∀ d, y d = some d) : ∀ {es : List En}, filO t y (es.map enD) = some ((left es n).map enD)
  | [] => rfl
  | e :: es => by
    have ih := fil_en ht hy (es := es)
    rw [List.map_cons]
    unfold filO
    unfold left at ih ⊢
    by_cases q : e.num = n
    · simp [ht e, q, ih]
    · simp [ht e, q, ih, hy]
theorem lc_en {t : D → Option Bool} {y : D → Option D} {n : Int} {es : List En} (hl : es.length ≤ 1000) (ht : ∀ e, t (enD e) = some (!decide (e.num = n))) (hy : ∀ d, y d = some d) : lcT t y (es.map enD) = some ((left es n).map enD) := by
  unfold lcT
  rw [if_pos (by rw [LIM_eq, List.length_map]; omega)]
  exact fil_en ht hy
theorem left_len {es : List En} {n : Int} : (left es n).length = es.length ↔ n ∉ es.map En.num := by
  unfold left
  rw [List.length_filter_eq_length_iff]
  constructor
  · intro h m
    obtain ⟨e, h1, h2⟩ := List.mem_map.mp m
    have := h e h1
    rw [decide_eq_true h2] at this
    cases this
  · intro h e he
    rw [decide_eq_false fun q => h (List.mem_map.mpr ⟨e, he, q⟩)]
    rfl
theorem en_num0 (e : En) : dIx (enD e) (.int 0) = some (.int e.num) := by cases e <;> rfl
theorem strike_ok {K m : Nat} {es : List En} {c : Int} {b : S_Survey} (h : BookOk K m es c b) (n : Int) : ∃ b2, T_Survey_strike b n = some (if n ∈ es.map En.num then (.ok n, b2) else (.error "NoEntry", b)) ∧ BookOk K m (left es n) c b2 ∧ b2.held = b.held := by
  have hl := h.len
  refine ⟨{ b with kept := (left es n).map enD }, ?_, ⟨h.kinds, h.many, rfl, h.coming, fun e he => h.ok e (List.mem_filter.mp he).1, Nat.le_trans (List.length_filter_le _ _) hl⟩, rfl⟩
  unfold T_Survey_strike
  rw [h.kept]
  refine bind_eq (lc_en (n := n) (by omega) (fun e => bind_eq (en_num0 e) (bind_eq (x := e.num) rfl rfl)) fun d => rfl) ?_
  rw [List.length_map, List.length_map]
  by_cases q : n ∈ es.map En.num
  · rw [if_pos q, if_neg (by simp; exact fun z => (left_len.mp (by omega)) q)]
  · rw [if_neg q, if_pos (by simp [left_len.mpr q])]

structure Hd where
  m : Nat
  es : List En
  c : Int
def hdD (h : Hd) : Int × List D × Int := ((h.m : Int), h.es.map enD, h.c)
def HdOk (K N : Nat) (h : Hd) : Prop := h.m ≤ 24 ∧ (∀ e ∈ h.es, EnOk K h.m e) ∧ h.es.length ≤ N
structure BookH (K m : Nat) (es : List En) (c : Int) (hs : List Hd) (N : Nat) (b : S_Survey) : Prop where
  ok : BookOk K m es c b
  m24 : m ≤ 24
  len : es.length ≤ N
  n40 : N ≤ 40
  held : b.held = hs.map hdD
  hok : ∀ h ∈ hs, HdOk K N h
  hlen : hs.length ≤ N
theorem EnOk.up {K m m' : Nat} (h : m ≤ m') {e : En} (he : EnOk K m e) : EnOk K m' e := by
  cases e with
  | row n a k b => obtain ⟨q1, q2, q3, q4, q5, q6⟩ := he; exact ⟨q1, by omega, q3, q4, q5, by omega⟩
  | ap n a b => obtain ⟨q1, q2, q5, q6⟩ := he; exact ⟨q1, by omega, q5, by omega⟩
structure Nums (es : List En) (c : Int) : Prop where
  nd : (es.map En.num).Nodup
  low : ∀ e ∈ es, e.num < c
  pos : ∀ e ∈ es, 0 ≤ e.num
  c0 : 0 ≤ c
theorem Nums.add {es : List En} {c : Int} (h : Nums es c) {e : En} (he : e.num = c) : Nums (es ++ [e]) (c + 1) := ⟨by
  rw [List.map_append]
  refine List.nodup_append.mpr ⟨h.nd, by simp, fun x hx y hy z => ?_⟩
  obtain ⟨f, f1, f2⟩ := List.mem_map.mp hx
  have hy : y = c := by simpa [he] using hy
  have := h.low f f1
  omega, fun x hx => by
  rcases List.mem_append.mp hx with z | z
  · have := h.low x z
    omega
  · rw [List.mem_singleton.mp z, he]
    omega, fun x hx => by
  rcases List.mem_append.mp hx with z | z
  · exact h.pos x z
  · rw [List.mem_singleton.mp z, he]
    exact h.c0, by have := h.c0; omega⟩
theorem Nums.up {es : List En} {c d : Int} (h : Nums es c) (hd : c ≤ d) : Nums es d := ⟨h.nd, fun e he => Int.lt_of_lt_of_le (h.low e he) hd, h.pos, by have := h.c0; omega⟩

theorem erase_filter : ∀ {es : List En} {i : Nat} (hi : i < es.length), (es.map En.num).Nodup → left es es[i].num = es.eraseIdx i
  | e :: es, 0, _, h => by
    rw [List.map_cons] at h
    obtain ⟨h1, _⟩ := List.nodup_cons.mp h
    show (e :: es).filter (fun x => !decide (x.num = e.num)) = es
    rw [List.filter_cons_of_neg (by simp)]
    refine List.filter_eq_self.mpr fun x hx => ?_
    rw [decide_eq_false fun z => h1 (List.mem_map.mpr ⟨x, hx, z⟩)]
    rfl
  | e :: es, i + 1, hi, h => by
    rw [List.map_cons] at h
    obtain ⟨h1, h2⟩ := List.nodup_cons.mp h
    have hi' : i < es.length := by simpa using hi
    have ih := erase_filter hi' h2
    show (e :: es).filter (fun x => !decide (x.num = es[i].num)) = e :: es.eraseIdx i
    have hne : ¬e.num = es[i].num := fun z => h1 (List.mem_map.mpr ⟨es[i], List.getElem_mem hi', z.symm⟩)
    rw [List.filter_cons_of_pos (by simp [hne]), ← ih]
    rfl
theorem bar_iff {es : List En} {m : Nat} {a k d x : Int} {l1 l2 : List Int} (h1 : Fold [((m : Int), d)] (rowX es m a k) (m + 1) l1) (h2 : Fold [] (rowsE es ++ [(x, a, k, d)]) m l2) (hR : RowsIn m (rowsE es)) (ha : a.toNat < m) (hd : d.toNat < m) {i j : Nat} (hi : i < m) (hj : j < m) : lb l1 i = lb l1 j ↔ lb l2 i = lb l2 j := by
  have hmn : ((m : Int)).toNat = m := Int.toNat_natCast m
  constructor
  · intro e
    have e1 := h1.sub i (by rw [h1.len]; omega) j (by rw [h1.len]; omega) e
    let φ : Nat → Nat := fun i => if i = m then d.toNat else i
    have row : ∀ r ∈ rowX es m a k, ∃ r' ∈ rowsE es ++ [(x, a, k, d)], r'.2.2.1 = r.2.2.1 ∧ r'.2.1.toNat = φ r.2.1.toNat ∧ r'.2.2.2.toNat = φ r.2.2.2.toNat := fun r hr => by
      rcases List.mem_append.mp hr with z | z
      · have q := hR r z
        refine ⟨r, List.mem_append_left _ z, rfl, ?_, ?_⟩
        · show _ = if r.2.1.toNat = m then d.toNat else r.2.1.toNat
          rw [if_neg (by omega)]
        · show _ = if r.2.2.2.toNat = m then d.toNat else r.2.2.2.toNat
          rw [if_neg (by omega)]
      · rw [List.mem_singleton.mp z]
        refine ⟨(x, a, k, d), by simp, rfl, ?_, ?_⟩
        · show a.toNat = if a.toNat = m then d.toNat else a.toNat
          rw [if_neg (by omega)]
        · show d.toNat = if ((m : Int)).toNat = m then d.toNat else _
          rw [if_pos hmn]
    have key : ∀ {i j : Nat}, EE [((m : Int), d)] (rowX es m a k) i j → EE [] (rowsE es ++ [(x, a, k, d)]) (φ i) (φ j) := fun {i j} e => by
      induction e with
      | refl i => exact .refl _
      | symm _ ih => exact ih.symm
      | trans _ _ ih1 ih2 => exact ih1.trans ih2
      | start hp =>
        rw [List.mem_singleton.mp hp]
        have q1 : φ ((m : Int)).toNat = d.toNat := if_pos hmn
        have q2 : φ d.toNat = d.toNat := if_neg (by omega)
        show EE _ _ (φ ((m : Int)).toNat) (φ d.toNat)
        rw [q1, q2]
        exact .refl _
      | fwd hr hq hk _ ih =>
        obtain ⟨r', r1, r2, r3, r4⟩ := row _ hr
        obtain ⟨q', q1, q2, q3, q4⟩ := row _ hq
        rw [← r4, ← q4]
        exact .fwd r1 q1 (by rw [r2, q2, hk]) (by rw [r3, q3]; exact ih)
      | bwd hr hq hk _ ih =>
        obtain ⟨r', r1, r2, r3, r4⟩ := row _ hr
        obtain ⟨q', q1, q2, q3, q4⟩ := row _ hq
        rw [← r3, ← q3]
        exact .bwd r1 q1 (by rw [r2, q2, hk]) (by rw [r4, q4]; exact ih)
    have := h2.keeps.of (key e1)
    have q1 : φ i = i := if_neg (by omega)
    have q2 : φ j = j := if_neg (by omega)
    rw [q1, q2] at this
    exact this
  · intro e
    have e1 := h2.sub i (by rw [h2.len]; omega) j (by rw [h2.len]; omega) e
    have hmd : lb l1 m = lb l1 d.toNat := by
      have := h1.keeps.st ((m : Int), d) (by simp)
      rw [hmn] at this
      exact this
    have row : ∀ r ∈ rowsE es ++ [(x, a, k, d)], ∃ r' ∈ rowX es m a k, r'.2.2.1 = r.2.2.1 ∧ r'.2.1 = r.2.1 ∧ lb l1 r'.2.2.2.toNat = lb l1 r.2.2.2.toNat := fun r hr => by
      rcases List.mem_append.mp hr with z | z
      · exact ⟨r, List.mem_append_left _ z, rfl, rfl, rfl⟩
      · rw [List.mem_singleton.mp z]
        refine ⟨(-1, a, k, (m : Int)), by unfold rowX; simp, rfl, rfl, ?_⟩
        show lb l1 ((m : Int)).toNat = lb l1 d.toNat
        rw [hmn, hmd]
    have kp : Keeps [] (rowsE es ++ [(x, a, k, d)]) l1 := ⟨fun p hp => (nomatch hp), fun r hr q hq hk e => by
      obtain ⟨r', r1, r2, r3, r4⟩ := row r hr
      obtain ⟨q', q1, q2, q3, q4⟩ := row q hq
      rw [← r4, ← q4]
      exact h1.keeps.fwd r' r1 q' q1 (by rw [r2, q2, hk]) (by rw [r3, q3]; exact e), fun r hr q hq hk e => by
      obtain ⟨r', r1, r2, r3, r4⟩ := row r hr
      obtain ⟨q', q1, q2, q3, q4⟩ := row q hq
      rw [← r3, ← q3]
      exact h1.keeps.bwd r' r1 q' q1 (by rw [r2, q2, hk]) (by rw [r4, q4]; exact e)⟩
    exact kp.of e1
theorem brk_same {K m : Nat} {l1 l2 : List Int} (h : ∀ i j : Nat, i < m → j < m → (lb l1 i = lb l1 j ↔ lb l2 i = lb l2 j)) {es : List En} (ho : ∀ e ∈ es, EnOk K m e) : es.any (brk l1) = es.any (brk l2) := by
  induction es with
  | nil => rfl
  | cons e es ih =>
    rw [List.any_cons, List.any_cons, ih fun x hx => ho x (List.mem_cons_of_mem _ hx)]
    congr 1
    have := ho e List.mem_cons_self
    cases e with
    | row n a k b => rfl
    | ap n a b =>
      obtain ⟨_, q2, _, q4⟩ := this
      show decide _ = decide _
      exact decide_eq_decide.mpr (h _ _ q2 q4)

theorem EE.up {st st' : List (Int × Int)} {R R' : List Row} (hs : ∀ p ∈ st, p ∈ st') (hR : ∀ r ∈ R, r ∈ R') {i j : Nat} (e : EE st R i j) : EE st' R' i j := by
  induction e with
  | refl i => exact .refl _
  | symm _ ih => exact ih.symm
  | trans _ _ ih1 ih2 => exact ih1.trans ih2
  | start hp => exact .start (hs _ hp)
  | fwd hr hq hk _ ih => exact .fwd (hR _ hr) (hR _ hq) hk ih
  | bwd hr hq hk _ ih => exact .bwd (hR _ hr) (hR _ hq) hk ih
theorem Fold.ee {st : List (Int × Int)} {R : List Row} {n : Nat} {l : List Int} (h : Fold st R n l) {i j : Nat} (hi : i < n) (hj : j < n) : lb l i = lb l j ↔ EE st R i j := ⟨h.sub i (h.len ▸ hi) j (h.len ▸ hj), h.keeps.of⟩
def Gd (es : List En) : Prop := ∀ n a b, En.ap n a b ∈ es → ¬EE [] (rowsE es) a.toNat b.toNat
theorem rowsE_sub {es es' : List En} (h : ∀ e ∈ es, e ∈ es') : ∀ r ∈ rowsE es, r ∈ rowsE es' := fun r hr => by
  obtain ⟨e, h1, h2⟩ := List.mem_filterMap.mp hr
  exact List.mem_filterMap.mpr ⟨e, h e h1, h2⟩
theorem Gd.sub {es es' : List En} (h : Gd es') (hs : ∀ e ∈ es, e ∈ es') : Gd es := fun n a b hm e => h n a b (hs _ hm) (e.up (fun _ z => z) (rowsE_sub hs))
theorem gd_brk {K m : Nat} {es : List En} (ho : ∀ e ∈ es, EnOk K m e) {st : List (Int × Int)} {R : List Row} {l : List Int} (hl : Fold st R m l) : es.any (brk l) = true ↔ ∃ n a b, En.ap n a b ∈ es ∧ EE st R a.toNat b.toNat := by
  rw [List.any_eq_true]
  constructor
  · rintro ⟨e, he, hb⟩
    cases e with
    | row n a k b => cases hb
    | ap n a b =>
      obtain ⟨q1, q2, q3, q4⟩ := ho _ he
      exact ⟨n, a, b, he, (hl.ee q2 q4).mp (of_decide_eq_true hb)⟩
  · rintro ⟨n, a, b, he, h⟩
    obtain ⟨q1, q2, q3, q4⟩ := ho _ he
    exact ⟨_, he, decide_eq_true ((hl.ee q2 q4).mpr h)⟩
structure BookQ (K m : Nat) (es : List En) (c : Int) (hs : List Hd) (b : S_Survey) : Prop where
  ok : BookOk K m es c b
  m24 : m ≤ 24
  gd : Gd es
  nums : Nums es c
  held : b.held = hs.map hdD
  hok : ∀ h ∈ hs, HdOk K 40 h ∧ Gd h.es ∧ Nums h.es h.c
  hlen : hs.length ≤ 1000
theorem BookQ.of {K m : Nat} {es es' : List En} {c c' : Int} {hs : List Hd} {b b' : S_Survey} (h : BookQ K m es c hs b) (h' : BookOk K m es' c' b') (hg : Gd es') (hn : Nums es' c') (hb : b'.held = b.held) : BookQ K m es' c' hs b' := ⟨h', h.m24, hg, hn, hb.trans h.held, h.hok, h.hlen⟩
theorem rowsE_app (es : List En) (e : En) : rowsE (es ++ [e]) = rowsE es ++ (enRow e).toList := by
  unfold rowsE
  rw [List.filterMap_append]
  cases e <;> rfl
theorem rowQ {K m : Nat} {es : List En} {c : Int} {hs : List Hd} {b : S_Survey} (h : BookQ K m es c hs b) (hr : es.length < 40) {a k d : Int} (ha : 0 ≤ a ∧ a.toNat < m) (hk : 1 ≤ k ∧ k ≤ K) (hd : 0 ≤ d ∧ d.toNat < m) : (¬Gd (es ++ [.row c a k d]) ∧ T_Survey_row b a k d = some (.error "Barred", b)) ∨ ∃ b2, T_Survey_row b a k d = some (.ok c, b2) ∧ BookQ K m (es ++ [.row c a k d]) (c + 1) hs b2 := by
  have hm := h.m24
  have hrl := rowsE_len es
  obtain ⟨x, hx, l1, hl1, hb⟩ := row_ok h.ok (by omega) hr ha hk hd
  obtain ⟨r2, hr2, hl2⟩ := folded_any (st := []) (rows := rowsE es ++ [(c, a, k, d)]) (n := m) (by omega) (fun r hr => by
    rcases List.mem_append.mp hr with z | z
    · exact h.ok.rowsIn r z
    · rw [List.mem_singleton.mp z]
      exact ⟨ha.1, ha.2, hd.1, hd.2⟩) (fun p hp => (nomatch hp)) (by simp; omega)
  have e : es.any (brk l1) = es.any (brk r2.1) := brk_same (K := K) (fun i j hi hj => bar_iff hl1 hl2 h.ok.rowsIn ha.2 hd.2 hi hj) h.ok.ok
  have eR : rowsE (es ++ [.row c a k d]) = rowsE es ++ [(c, a, k, d)] := rowsE_app es _
  have gd := gd_brk h.ok.ok hl2
  rcases hb with ⟨q, rfl⟩ | ⟨q, b2, rfl, hb2, hh⟩
  · refine .inl ⟨fun g => ?_, hx⟩
    rw [e] at q
    obtain ⟨n, i, j, h1, h2⟩ := gd.mp q
    exact g n i j (List.mem_append_left _ h1) (by rw [eR]; exact h2)
  · refine .inr ⟨b2, hx, h.of hb2 (fun n i j hm' hE => ?_) (h.nums.add rfl) hh⟩
    rw [e] at q
    rcases List.mem_append.mp hm' with z | z
    · rw [eR] at hE
      rw [gd.mpr ⟨n, i, j, z, hE⟩] at q
      cases q
    · cases List.mem_singleton.mp z
theorem apartQ {K m : Nat} {es : List En} {c : Int} {hs : List Hd} {b : S_Survey} (h : BookQ K m es c hs b) (hr : es.length < 40) {a d : Int} (ha : 0 ≤ a ∧ a.toNat < m) (hd : 0 ≤ d ∧ d.toNat < m) : (¬Gd (es ++ [.ap c a d]) ∧ T_Survey_apart b a d = some (.error "Barred", b)) ∨ ∃ b2, T_Survey_apart b a d = some (.ok c, b2) ∧ BookQ K m (es ++ [.ap c a d]) (c + 1) hs b2 := by
  have hm := h.m24
  obtain ⟨x, hx, l, hl, hb⟩ := apart_ok h.ok (by omega) hr ha hd
  have eR : rowsE (es ++ [.ap c a d]) = rowsE es := by rw [rowsE_app]; exact List.append_nil _
  rcases hb with ⟨q, rfl⟩ | ⟨q, b2, rfl, hb2, hh⟩
  · refine .inl ⟨fun g => g c a d (by simp) (by rw [eR]; exact (hl.ee ha.2 hd.2).mp q), hx⟩
  · refine .inr ⟨b2, hx, h.of hb2 (fun n i j hm' hE => ?_) (h.nums.add rfl) hh⟩
    rw [eR] at hE
    rcases List.mem_append.mp hm' with z | z
    · exact h.gd n i j z hE
    · cases List.mem_singleton.mp z
      exact q ((hl.ee ha.2 hd.2).mpr hE)

theorem strikeQ {K m : Nat} {es : List En} {c : Int} {hs : List Hd} {b : S_Survey} (h : BookQ K m es c hs b) {n : Int} (hn : n ∈ es.map En.num) : ∃ b2, T_Survey_strike b n = some (.ok n, b2) ∧ BookQ K m (left es n) c hs b2 := by
  obtain ⟨b2, g1, g2, g3⟩ := strike_ok h.ok n
  rw [if_pos hn] at g1
  refine ⟨b2, g1, h.of g2 (h.gd.sub fun e he => (List.mem_filter.mp he).1) ⟨?_, fun e he => h.nums.low e (List.mem_filter.mp he).1, fun e he => h.nums.pos e (List.mem_filter.mp he).1, h.nums.c0⟩ g3⟩
  exact h.nums.nd.sublist (List.Sublist.map _ List.filter_sublist)

theorem holdQ {K m : Nat} {es : List En} {c : Int} {hs : List Hd} {b : S_Survey} (h : BookQ K m es c hs b) (hN : hs.length < 1000) : ∃ b2, T_Survey_hold b = some ((hs.length : Int) + 1, b2) ∧ BookQ K m es c (hs ++ [⟨m, es, c⟩]) b2 := by
  refine ⟨{ b with held := hs.map hdD ++ [hdD ⟨m, es, c⟩] }, ?_, ⟨h.ok.kinds, h.ok.many, h.ok.kept, h.ok.coming, h.ok.ok, h.ok.len⟩, h.m24, h.gd, h.nums, by simp, fun x hx => ?_, by simp; omega⟩
  · unfold T_Survey_hold
    rw [h.held, h.ok.many, h.ok.kept, h.ok.coming]
    refine bind_eq (appT_of' (by rw [LIM_eq]; simp; omega)) ?_
    simp [hdD]
  · rcases List.mem_append.mp hx with z | z
    · exact h.hok x z
    · rw [List.mem_singleton.mp z]
      exact ⟨⟨h.m24, h.ok.ok, h.ok.len⟩, h.gd, h.nums⟩
theorem backQ {K m : Nat} {es : List En} {c : Int} {hs : List Hd} {b : S_Survey} (h : BookQ K m es c hs b) (n : Int) :
    (¬(1 ≤ n ∧ n ≤ (hs.length : Int)) → T_Survey_back b n = some (.error "NoHold", b)) ∧
    (1 ≤ n ∧ n ≤ (hs.length : Int) → ∃ b2 H, hs[(n - 1).toNat]? = some H ∧ T_Survey_back b n = some (.ok n, b2) ∧ BookQ K H.m H.es H.c (hs.take n.toNat) b2) := by
  unfold T_Survey_back
  have hlen : (b.held.length : Int) = (hs.length : Int) := by rw [h.held]; simp
  constructor
  · intro q
    rw [if_pos (by rw [hlen]; simp; omega)]
  · intro q
    have hj : (n - 1).toNat < hs.length := by omega
    refine ⟨{ { { { b with many := (hs[(n - 1).toNat].m : Int) } with kept := hs[(n - 1).toNat].es.map enD } with coming := hs[(n - 1).toNat].c } with held := (hs.take n.toNat).map hdD }, hs[(n - 1).toNat], List.getElem?_eq_getElem hj, ?_, ?_⟩
    · rw [if_neg (by rw [hlen]; simp; omega)]
      refine bind_eq (x := hdD hs[(n - 1).toNat]) (ixT_of (by omega) (by rw [h.held, List.getElem?_map, List.getElem?_eq_getElem hj]; rfl)) (bind_eq (x := hs[(n - 1).toNat].es.map enD) (if_pos (immL_en _)) ?_)
      rw [h.held, cutL_hi (by omega), List.map_take]
      rfl
    · obtain ⟨⟨q1, q2, q3⟩, q4, q5⟩ := h.hok _ (List.getElem_mem hj)
      exact ⟨⟨h.ok.kinds, rfl, rfl, rfl, q2, q3⟩, q1, q4, q5, rfl, fun x hx => h.hok x (List.mem_of_mem_take hx), by have := h.hlen; rw [List.length_take]; omega⟩

theorem twinQ {K m : Nat} {es : List En} {c : Int} {hs : List Hd} {b : S_Survey} (h : BookQ K m es c hs b) (hK : 1 ≤ K ∧ K ≤ 5) : ∃ b2, T_Survey_twin b = some (.ok b2, b) ∧ BookQ K m es c hs b2 := by
  refine ⟨{ kinds := K, many := b.many, kept := b.kept, coming := b.coming, held := b.held }, ?_, ⟨rfl, h.ok.many, h.ok.kept, h.ok.coming, h.ok.ok, h.ok.len⟩, h.m24, h.gd, h.nums, h.held, h.hok, h.hlen⟩
  unfold T_Survey_twin T_Survey_init
  rw [h.ok.kinds, if_neg (by simp; omega)]
  rfl
abbrev LL36 : List String := ["Barred", "Full", "NoMark", "NoKind"]
theorem due_x {x : String} (hx : x ∈ LL36) : T_law_due (x : Str) = some (bitsOf x) := by
  simp only [List.mem_cons, List.not_mem_nil, or_false] at hx
  rcases hx with rfl | rfl | rfl | rfl
  · decide +kernel
  · decide +kernel
  · decide +kernel
  · decide +kernel
theorem ap_good {b b2 : S_Survey} {a k d v : Int} (h : T_Survey_apart b a d = some (.ok v, b2)) : T_law_told b true a k d = some ((some v, []), b2) := by
  unfold T_law_told tryB
  refine bind_eq (x := ((b2, some v), [])) (bind_eq (x := .inl (b2, some v)) ?_ rfl) rfl
  refine (thenC_l (s := (b2, some v)) ?_).trans rfl
  rw [if_pos rfl]
  exact bind_eq h rfl
theorem row_good {b b2 : S_Survey} {a k d v : Int} (h : T_Survey_row b a k d = some (.ok v, b2)) : T_law_told b false a k d = some ((some v, []), b2) := by
  unfold T_law_told tryB
  refine bind_eq (x := ((b2, some v), [])) (bind_eq (x := .inl (b2, some v)) ?_ rfl) rfl
  refine (thenC_l (s := (b2, some v)) ?_).trans rfl
  rw [if_neg (by decide)]
  exact bind_eq h rfl
theorem ap_bad {b : S_Survey} {a k d : Int} {x : String} (hx : x ∈ LL36) (h : T_Survey_apart b a d = some (.error x, b)) : T_law_told b true a k d = some ((none, bitsOf x), b) := by
  unfold T_law_told tryB
  refine bind_eq (x := ((b, none), bitsOf x)) (bind_eq (x := (Sum.inr (x, (b, (none : Option Int))) : (S_Survey × Option Int) ⊕ (String × (S_Survey × Option Int)))) ?_ (if_pos hx)) rfl
  refine thenC_r (s := (Sum.inr (x, (b, none)) : (S_Survey × Option Int) ⊕ (String × (S_Survey × Option Int)))) ?_
  rw [if_pos rfl]
  exact bind_eq h rfl
theorem row_bad {b : S_Survey} {a k d : Int} {x : String} (hx : x ∈ LL36) (h : T_Survey_row b a k d = some (.error x, b)) : T_law_told b false a k d = some ((none, bitsOf x), b) := by
  unfold T_law_told tryB
  refine bind_eq (x := ((b, none), bitsOf x)) (bind_eq (x := (Sum.inr (x, (b, (none : Option Int))) : (S_Survey × Option Int) ⊕ (String × (S_Survey × Option Int)))) ?_ (if_pos hx)) rfl
  refine thenC_r (s := (Sum.inr (x, (b, none)) : (S_Survey × Option Int) ⊕ (String × (S_Survey × Option Int)))) ?_
  rw [if_neg (by decide)]
  exact bind_eq h rfl
def Slf (es : List En) : Prop := (∀ r ∈ rowsE es, r.2.1 = 0 ∧ r.2.2.2 = 0) ∧ ∀ n a b, En.ap n a b ∈ es → a.toNat ≠ b.toNat
theorem slf_ee {R : List Row} (h : ∀ r ∈ R, r.2.1 = 0 ∧ r.2.2.2 = 0) {i j : Nat} (e : EE [] R i j) : i = j := by
  induction e with
  | refl i => rfl
  | symm _ ih => exact ih.symm
  | trans _ _ ih1 ih2 => exact ih1.trans ih2
  | start hp => cases hp
  | fwd hr hq _ _ _ => rw [(h _ hr).2, (h _ hq).2]
  | bwd hr hq _ _ _ => rw [(h _ hr).1, (h _ hq).1]
theorem Slf.gd {es : List En} (h : Slf es) : Gd es := fun n a b hm e => h.2 n a b hm (slf_ee h.1 e)
theorem Slf.row {es : List En} (h : Slf es) (n k : Int) : Slf (es ++ [.row n 0 k 0]) := ⟨fun r hr => by
  rw [rowsE_app] at hr
  rcases List.mem_append.mp hr with z | z
  · exact h.1 r z
  · rw [List.mem_singleton.mp z]; exact ⟨rfl, rfl⟩, fun n a b hm => by
  rcases List.mem_append.mp hm with z | z
  · exact h.2 n a b z
  · cases List.mem_singleton.mp z⟩
theorem Slf.ap {es : List En} (h : Slf es) (n : Int) : Slf (es ++ [.ap n 0 1]) := ⟨fun r hr => by
  rw [rowsE_app] at hr
  rcases List.mem_append.mp hr with z | z
  · exact h.1 r z
  · exact absurd z List.not_mem_nil, fun n a b hm => by
  rcases List.mem_append.mp hm with z | z
  · exact h.2 n a b z
  · cases List.mem_singleton.mp z
    decide⟩
theorem Slf.sub {es es' : List En} (h : Slf es') (hs : ∀ e ∈ es, e ∈ es') : Slf es := ⟨fun r hr => h.1 r (rowsE_sub hs r hr), fun n a b hm => h.2 n a b (hs _ hm)⟩
section
variable {K m : Nat} {es : List En} {c : Int} {hs : List Hd} {b : S_Survey}
theorem t_mark (h : BookQ K m es c hs b) (oath : Bool) (k : Int) : T_law_told b oath m k 0 = some ((none, bitsOf "NoMark"), b) := by
  have e : T_Survey_need_marks b m 0 = some (.error "NoMark", ()) := by
    unfold T_Survey_need_marks
    rw [if_pos (by rw [h.ok.many]; simp)]
  cases oath with
  | true =>
    refine ap_bad (by simp) ?_
    unfold T_Survey_apart
    exact bind_eq e rfl
  | false =>
    refine row_bad (by simp) ?_
    unfold T_Survey_row
    exact bind_eq e rfl
theorem t_kind (h : BookQ K m es c hs b) (hm : 2 ≤ m) : T_law_told b false 0 ((K : Int) + 1) 0 = some ((none, bitsOf "NoKind"), b) := by
  refine row_bad (by simp) ?_
  unfold T_Survey_row
  refine bind_eq (need_marks h.ok (a := 0) (d := 0) ⟨by decide, by show (0 : Nat) < m; omega⟩ ⟨by decide, by show (0 : Nat) < m; omega⟩) ?_
  rw [caseE_ok, h.ok.kinds, if_pos (by simp; omega)]
theorem t_full_ap (h : BookQ K m es c hs b) (h40 : es.length = 40) {a d : Int} (k : Int) (ha : 0 ≤ a ∧ a.toNat < m) (hd : 0 ≤ d ∧ d.toNat < m) : T_law_told b true a k d = some ((none, bitsOf "Full"), b) := by
  refine ap_bad (by simp) ?_
  unfold T_Survey_apart
  refine bind_eq (need_marks h.ok ha hd) ?_
  rw [caseE_ok]
  refine bind_eq (x := (.error "Full", ())) ?_ rfl
  unfold T_Survey_need_room
  rw [h.ok.kept, if_pos (by simp; omega)]
theorem t_full_row (h : BookQ K m es c hs b) (h40 : es.length = 40) {a k d : Int} (hk : 1 ≤ k ∧ k ≤ K) (ha : 0 ≤ a ∧ a.toNat < m) (hd : 0 ≤ d ∧ d.toNat < m) : T_law_told b false a k d = some ((none, bitsOf "Full"), b) := by
  refine row_bad (by simp) ?_
  unfold T_Survey_row
  refine bind_eq (need_marks h.ok ha hd) ?_
  rw [caseE_ok, h.ok.kinds, if_neg (by simp; omega)]
  refine bind_eq (x := (.error "Full", ())) ?_ rfl
  unfold T_Survey_need_room
  rw [h.ok.kept, if_pos (by simp; omega)]
theorem t_bar_ap (h : BookQ K m es c hs b) (hl : es.length < 40) (hm : 2 ≤ m) : T_law_told b true 1 1 1 = some ((none, bitsOf "Barred"), b) := by
  have h1 : (0 : Int) ≤ 1 ∧ (1 : Int).toNat < m := ⟨by decide, by show (1 : Nat) < m; omega⟩
  rcases apartQ h hl h1 h1 with ⟨_, z⟩ | ⟨b2, _, z⟩
  · exact ap_bad (by simp) z
  · exact absurd (.refl _) (z.gd c 1 1 (by simp))
theorem t_bar_row (h : BookQ K m es c hs b) (hl : es.length < 40) (hm : 2 ≤ m) (hK : 1 ≤ K) (h1 : ∃ n, En.ap n 0 1 ∈ es) (h2 : ∃ n, En.row n 0 1 0 ∈ es) : T_law_told b false 0 1 1 = some ((none, bitsOf "Barred"), b) := by
  have q0 : (0 : Int) ≤ 0 ∧ (0 : Int).toNat < m := ⟨by decide, by show (0 : Nat) < m; omega⟩
  have q1 : (0 : Int) ≤ 1 ∧ (1 : Int).toNat < m := ⟨by decide, by show (1 : Nat) < m; omega⟩
  rcases rowQ h hl q0 (k := 1) ⟨by decide, by omega⟩ q1 with ⟨_, z⟩ | ⟨b2, _, z⟩
  · exact row_bad (by simp) z
  · obtain ⟨n, hn⟩ := h1
    obtain ⟨n2, hn2⟩ := h2
    refine absurd ?_ (z.gd n 0 1 (List.mem_append_left _ hn))
    have r1 : (n2, (0 : Int), (1 : Int), (0 : Int)) ∈ rowsE (es ++ [.row c 0 1 1]) := List.mem_filterMap.mpr ⟨_, List.mem_append_left _ hn2, rfl⟩
    have r2 : (c, (0 : Int), (1 : Int), (1 : Int)) ∈ rowsE (es ++ [.row c 0 1 1]) := List.mem_filterMap.mpr ⟨.row c 0 1 1, by simp, rfl⟩
    exact .fwd r1 r2 rfl (.refl _)
def addE (oath : Bool) (c : Int) : En := if oath = true then .ap c 0 1 else .row c 0 1 0
theorem t_ok (h : BookQ K m es c hs b) (hS : Slf es) (hl : es.length < 40) (hm : 2 ≤ m) (hK : 1 ≤ K) (oath : Bool) : ∃ b2, T_law_told b oath 0 1 (if oath = true then (1 : Int) else 0) = some ((some c, []), b2) ∧ BookQ K m (es ++ [addE oath c]) (c + 1) hs b2 ∧ Slf (es ++ [addE oath c]) := by
  have q0 : (0 : Int) ≤ 0 ∧ (0 : Int).toNat < m := ⟨by decide, by show (0 : Nat) < m; omega⟩
  have q1 : (0 : Int) ≤ 1 ∧ (1 : Int).toNat < m := ⟨by decide, by show (1 : Nat) < m; omega⟩
  cases oath with
  | true =>
    rw [if_pos rfl]
    rcases apartQ h hl q0 q1 with ⟨z, _⟩ | ⟨b2, z1, z⟩
    · exact absurd (hS.ap c).gd z
    · exact ⟨b2, ap_good z1, z, hS.ap c⟩
  | false =>
    rw [if_neg (by decide)]
    rcases rowQ h hl q0 (k := 1) ⟨by decide, by omega⟩ q0 with ⟨z, _⟩ | ⟨b2, z1, z⟩
    · exact absurd (hS.row c 1).gd z
    · exact ⟨b2, row_good z1, z, hS.row c 1⟩
theorem t_full (h : BookQ K m es c hs b) (h40 : es.length = 40) (hm : 2 ≤ m) (hK : 1 ≤ K) (oath : Bool) : T_law_told b oath 0 1 (if oath = true then (1 : Int) else 0) = some ((none, bitsOf "Full"), b) := by
  have q0 : (0 : Int) ≤ 0 ∧ (0 : Int).toNat < m := ⟨by decide, by show (0 : Nat) < m; omega⟩
  have q1 : (0 : Int) ≤ 1 ∧ (1 : Int).toNat < m := ⟨by decide, by show (1 : Nat) < m; omega⟩
  cases oath with
  | true => exact t_full_ap h h40 1 q0 q1
  | false => exact t_full_row h h40 ⟨by decide, by omega⟩ q0 q0
end
theorem chalk36 {K m : Nat} (hm : m ≤ 24) {b : S_Survey} (h : BookOk K 0 [] 1 b) (hh : b.held = []) : Ok (forO T_law_b1 (rgI 0 m) b) fun b2 => BookOk K m [] 1 b2 ∧ b2.held = [] := by
  refine ok_mono (ok_for (fun n (b2 : S_Survey) => BookOk K n [] 1 b2 ∧ b2.held = []) ⟨h, hh⟩ fun n hn b2 hb2 => ?_) fun b2 hb2 => ?_
  · have hn' : n < m := by simpa using hn
    obtain ⟨⟨q1, q2, q3, q4, q5, q6⟩, q7⟩ := hb2
    unfold T_law_b1
    refine ok_eq (x := ((n : Int), { b2 with many := b2.many + 1 })) ?_ (ok_some ⟨⟨q1, ?_, q3, q4, fun e he => (nomatch he), q6⟩, q7⟩)
    · refine bind_eq (x := (.ok (n : Int), { b2 with many := b2.many + 1 })) ?_ rfl
      unfold T_Survey_chalk
      rw [if_neg (by rw [q2]; simp; omega)]
      show some (Except.ok (b2.many + 1 - 1), _) = _
      rw [q2]
      congr 3
      omega
    · show b2.many + 1 = _
      rw [q2]
      rfl
  · rw [rgI_length] at hb2
    exact hb2
theorem law_ok (ns : List Int) : Ok (T_law ns) fun r => r = true := by
  unfold T_law
  refine ok_bind (numbers_ok ns 20 (by decide) (by decide)) fun x1 hx => ?_
  obtain ⟨hl, hn⟩ := hx
  obtain ⟨a0, e0, _, _⟩ := hn.at hl (k := 0) (by decide) (by decide)
  obtain ⟨a1, e1', _, _⟩ := hn.at hl (k := 1) (by decide) (by decide)
  obtain ⟨a2, e2', _, _⟩ := hn.at hl (k := 2) (by decide) (by decide)
  obtain ⟨a3, e3', p3, q3⟩ := hn.at hl (k := 3) (by decide) (by decide)
  obtain ⟨a4, e4', _, _⟩ := hn.at hl (k := 4) (by decide) (by decide)
  obtain ⟨a5, e5', _, _⟩ := hn.at hl (k := 5) (by decide) (by decide)
  obtain ⟨a6, e6', _, _⟩ := hn.at hl (k := 6) (by decide) (by decide)
  obtain ⟨K, hK, hK1, hK2⟩ : ∃ K : Nat, (1 : Int) + a0 % 5 = K ∧ 1 ≤ K ∧ K ≤ 5 := ⟨(1 + a0 % 5).toNat, by omega, by omega, by omega⟩
  obtain ⟨m, hM, hM1, hM2⟩ : ∃ m : Nat, (2 : Int) + a1 % 23 = m ∧ 2 ≤ m ∧ m ≤ 24 := ⟨(2 + a1 % 23).toNat, by omega, by omega, by omega⟩
  obtain ⟨t, hT, hT1⟩ : ∃ t : Nat, (38 : Int) + a2 % 2 = t ∧ (t = 38 ∨ t = 39) := ⟨(38 + a2 % 2).toNat, by omega, by omega⟩
  have hB : T_law_b2 x1 (a0 % 5) = T_law_b2 x1 ((K : Int) - 1) := by rw [show a0 % 5 = (K : Int) - 1 by omega]
  have mK : ∀ a : Int, modT a (K : Int) = some (a % (K : Int)) := fun a => modT_of (by omega)
  refine ok_eq e0 (ok_eq (modT_of (by decide)) (ok_eq e1' (ok_eq (modT_of (by decide)) ?_)))
  rw [hB, hK, hM]
  refine ok_bind (init_ok ⟨hK1, hK2⟩) fun b0 hb0 => ?_
  refine ok_eq (rg1T_of (bnd62_ok (by omega) (by omega))) ?_
  rw [Int.toNat_natCast]
  refine ok_bind (chalk36 hM2 hb0.1 hb0.2) fun b1 hb1 => ?_
  have B1 : BookQ K m [] 1 [] b1 := ⟨hb1.1, by omega, fun n a b z => (nomatch z), ⟨.nil, fun e he => (nomatch he), fun e he => (nomatch he), by decide⟩, hb1.2, fun x hx => (nomatch hx), by simp⟩
  have q0 : (0 : Int) ≤ 0 ∧ (0 : Int).toNat < m := ⟨by decide, by show (0 : Nat) < m; omega⟩
  have q1 : (0 : Int) ≤ 1 ∧ (1 : Int).toNat < m := ⟨by decide, by show (1 : Nat) < m; omega⟩
  have S0 : Slf [.ap 1 0 1] := (show Slf [] from ⟨fun r hr => (nomatch hr), fun n a b hm => (nomatch hm)⟩).ap 1
  obtain ⟨b2, g2, B2⟩ : ∃ b2, T_Survey_apart b1 0 1 = some (.ok 1, b2) ∧ BookQ K m [.ap 1 0 1] 2 [] b2 := by
    rcases apartQ B1 (by simp) q0 q1 with ⟨z, _⟩ | ⟨b2, z1, z⟩
    · exact absurd S0.gd z
    · exact ⟨b2, z1, z⟩
  refine ok_eq (x := (1, b2)) (bind_eq g2 rfl) (ok_eq e2' (ok_eq (modT_of (by decide)) ?_))
  rw [hT]
  refine ok_eq (rg1T_of (bnd62_ok (by omega) (by omega))) ?_
  rw [Int.toNat_natCast]
  refine ok_bind (Q := fun b3 : S_Survey => ∃ es, BookQ K m es ((t : Int) + 2) [] b3 ∧ Slf es ∧ es.length = t + 1 ∧ (∃ n, En.ap n 0 1 ∈ es) ∧ (∃ n, En.row n 0 1 0 ∈ es) ∧ ∀ n : Int, 1 ≤ n → n ≤ t + 1 → n ∈ es.map En.num) (ok_mono (ok_for (fun k (b3 : S_Survey) => ∃ es, BookQ K m es ((k : Int) + 2) [] b3 ∧ Slf es ∧ es.length = k + 1 ∧ (∃ n, En.ap n 0 1 ∈ es) ∧ (0 < k → ∃ n, En.row n 0 1 0 ∈ es) ∧ ∀ n : Int, 1 ≤ n → n ≤ k + 1 → n ∈ es.map En.num) ⟨[.ap 1 0 1], by simpa using B2, S0, rfl, ⟨1, by simp⟩, fun z => absurd z (by decide), fun n n1 n2 => by
    have n2 : n ≤ (0 : Int) + 1 := n2
    have : n = 1 := by omega
    rw [this]
    simp [En.num]⟩ fun k hk b3 hb3 => ?_) fun b3 hb3 => ?_) fun b3 hb3 => ?_
  · obtain ⟨es, g1, g3, g4, g5, g6, g7⟩ := hb3
    have hk' : k < t := by simpa using hk
    rw [rgI_get hk, Int.zero_add]
    unfold T_law_b2
    rw [show (1 : Int) + ((K : Int) - 1) = K by omega]
    have pp : 0 ≤ (k : Int) * a3 := Int.mul_nonneg (by omega) p3
    refine ok_eq e3' (ok_eq (mulT_of (cmul_l (by omega) (by omega))) (ok_eq (mK _) ?_))
    have hk0 := Int.emod_nonneg ((k : Int) * a3) (show (K : Int) ≠ 0 by omega)
    have hk1 := Int.emod_lt_of_pos ((k : Int) * a3) (show (0 : Int) < K by omega)
    obtain ⟨kd, hkd⟩ : ∃ kd, (1 : Int) + (k : Int) * a3 % (K : Int) = kd := ⟨_, rfl⟩
    rw [hkd]
    rcases rowQ g1 (by omega) q0 (k := kd) ⟨by omega, by omega⟩ q0 with ⟨z, _⟩ | ⟨b4, z1, z⟩
    · exact absurd (g3.row _ kd).gd z
    · refine ok_eq (x := ((k : Int) + 2, b4)) (bind_eq z1 rfl) (ok_some ⟨es ++ [.row ((k : Int) + 2) 0 kd 0], ?_, g3.row _ kd, by simp; omega, ?_, fun _ => ?_, fun n n1 n2 => ?_⟩)
      · rw [show (((k + 1 : Nat) : Int) + 2) = (k : Int) + 2 + 1 by omega]
        exact z
      · obtain ⟨n, hn⟩ := g5
        exact ⟨n, List.mem_append_left _ hn⟩
      · by_cases zk : k = 0
        · subst zk
          have : kd = 1 := by
            rw [← hkd]
            simp
          rw [this]
          exact ⟨((0 : Nat) : Int) + 2, List.mem_append_right _ (List.mem_singleton.mpr rfl)⟩
        · obtain ⟨n, hn⟩ := g6 (by omega)
          exact ⟨n, List.mem_append_left _ hn⟩
      · rw [List.map_append]
        by_cases zn : n = (k : Int) + 2
        · exact List.mem_append_right _ (by rw [zn]; simp [En.num])
        · exact List.mem_append_left _ (g7 n n1 (by omega))
  · rw [rgI_length] at hb3
    obtain ⟨es, g1, g3, g4, g5, g6, g7⟩ := hb3
    exact ⟨es, g1, g3, g4, g5, g6 (by omega), g7⟩
  obtain ⟨es, B3, S3, l3, ap3, rw3, nm3⟩ := hb3
  have hbr : decide ((t : Int) = 39) = decide (t = 39) := by
    refine decide_eq_decide.mpr ?_
    omega
  refine ok_eq (x := decide (t = 39)) (congrArg some hbr) (ok_eq e4' (ok_eq (modT_of (by decide)) ?_))
  generalize hO : decide (a4 % 2 = 1) = oath
  refine ok_eq (x := (false, b3)) (bind_eq e5' (bind_eq (mK _) (bind_eq (t_mark B3 oath _) (bind_eq (due_x (by simp)) (by simp))))) ?_
  rw [if_f rfl]
  refine ok_eq (x := (false, b3)) (bind_eq (t_kind B3 (by omega)) (bind_eq (due_x (x := "NoKind") (by simp)) (by simp))) ?_
  rw [if_f rfl]
  refine ok_eq (due_x (x := "Barred") (by simp)) ?_
  have FU : T_law_due ("Full" : Str) = some (bitsOf "Full") := due_x (x := "Full") (by simp)
  -- the two kinds of book
  have main : ∀ (es' : List En) (b4 : S_Survey), BookQ K m es' 41 [] b4 → Slf es' → es'.length = 40 → (∀ n : Int, 2 ≤ n → n ≤ t + 1 → n ∈ es'.map En.num) → Ok ((ixT x1 (6 : Int)).bind fun x45 =>
      (modT x45 (t : Int)).bind fun x46 =>
      (T_law_due ("Full" : Str)).bind fun x47 =>
      ((T_Survey_hold b4).bind fun x49 => (if (!decide (x49.1 = (1 : Int))) = true then some (true, x49.2) else (((T_Survey_strike x49.2 ((2 : Int) + x46)).bind okLT).bind fun x50 => (if (!decide (x50.1 = ((2 : Int) + x46))) = true then some (true, x50.2) else (((T_Survey_back x50.2 (1 : Int)).bind okLT).bind fun x51 => some ((!decide (x51.1 = (1 : Int))), x51.2)))))).bind fun s48 : Bool × S_Survey =>
      if s48.1 = true then
        some false
      else
      ((T_Survey_twin s48.2).bind okLT).bind fun x52 =>
      ((T_law_told x52.2 oath (0 : Int) (1 : Int) (if oath = true then (1 : Int) else 0)).bind fun x54 => (if (!decide (x54.1 = ((none : (Option Int)), x47))) = true then some (true, x54.2) else ((T_law_told x54.2 true (0 : Int) (1 : Int) (1 : Int)).bind fun x55 => some ((!decide (x55.1 = ((none : (Option Int)), x47))), x55.2)))).bind fun s53 : Bool × S_Survey =>
      if s53.1 = true then
        some false
      else
      ((T_law_told x52.1 oath (0 : Int) (1 : Int) (if oath = true then (1 : Int) else 0)).bind fun x57 => (if (!decide (x57.1 = ((none : (Option Int)), x47))) = true then some (true, x57.2) else ((T_law_told x57.2 true (0 : Int) (1 : Int) (1 : Int)).bind fun x58 => some ((!decide (x58.1 = ((none : (Option Int)), x47))), x58.2)))).bind fun s56 : Bool × S_Survey =>
      if s56.1 = true then
        some false
      else
      (((T_Survey_strike s53.2 ((2 : Int) + x46)).bind okLT).bind fun x60 => some ((!decide (x60.1 = ((2 : Int) + x46))), x60.2)).bind fun s59 : Bool × S_Survey =>
      if s59.1 = true then
        some false
      else
      (T_law_told s59.2 oath (0 : Int) (1 : Int) (if oath = true then (1 : Int) else 0)).bind fun x61 =>
      some (decide (x61.1 = ((some (((t : Int) + (3 : Int)) - (if decide (t = 39) = true then (1 : Int) else 0))), ([] : (List Bool)))))) fun r => r = true := fun es' b4 B4 S4 l4 nm4 => by
    have hm6 := Int.emod_nonneg a6 (show (t : Int) ≠ 0 by omega)
    have hm7 := Int.emod_lt_of_pos a6 (show (0 : Int) < t by omega)
    obtain ⟨n, hnn⟩ : ∃ n : Int, (2 : Int) + a6 % (t : Int) = n := ⟨_, rfl⟩
    have hn1 := nm4 n (by omega) (by omega)
    obtain ⟨b5, g5, B5⟩ := holdQ B4 (by simp)
    obtain ⟨b6, g6, B6⟩ := strikeQ B5 hn1
    obtain ⟨_, k2⟩ := backQ B6 1
    obtain ⟨b7, H, k3, k4, k5⟩ := k2 ⟨by decide, by simp⟩
    have eH : H = ⟨m, es', 41⟩ := by
      have : (([] ++ [⟨m, es', 41⟩] : List Hd))[0]? = some H := k3
      exact (Option.some.inj this).symm
    subst eH
    have B7 : BookQ K m es' 41 _ b7 := k5
    obtain ⟨tw, t1, TW⟩ := twinQ B7 ⟨hK1, hK2⟩
    obtain ⟨b8, g8, B8⟩ := strikeQ B7 hn1
    have l8 : (left es' n).length < 40 := by
      obtain ⟨e, he, rfl⟩ := List.mem_map.mp hn1
      obtain ⟨i, hi, rfl⟩ := List.getElem_of_mem he
      rw [erase_filter hi B4.nums.nd, List.length_eraseIdx_of_lt hi]
      omega
    obtain ⟨b9, g9, _, _⟩ := t_ok B8 (S4.sub fun e he => (List.mem_filter.mp he).1) l8 (by omega) hK1 oath
    refine ok_eq e6' (ok_eq (modT_of (by omega)) (ok_eq FU ?_))
    rw [hnn]
    refine ok_eq (x := (false, b7)) (bind_eq g5 ?_) ?_
    · rw [if_neg (by simp)]
      refine bind_eq (x := (n, b6)) (bind_eq g6 rfl) ?_
      rw [if_neg (by simp)]
      exact bind_eq (x := (1, b7)) (bind_eq k4 rfl) rfl
    rw [if_f rfl]
    refine ok_eq (x := (tw, b7)) (bind_eq t1 rfl) ?_
    refine ok_eq (x := (false, b7)) (bind_eq (t_full B7 l4 (by omega) hK1 oath) ?_) ?_
    · rw [if_neg (by simp)]
      exact bind_eq (t_full_ap B7 l4 1 q0 q1) (by simp)
    rw [if_f rfl]
    refine ok_eq (x := (false, tw)) (bind_eq (t_full TW l4 (by omega) hK1 oath) ?_) ?_
    · rw [if_neg (by simp)]
      exact bind_eq (t_full_ap TW l4 1 q0 q1) (by simp)
    rw [if_f rfl]
    refine ok_eq (x := (false, b8)) (bind_eq (x := (n, b8)) (bind_eq g8 rfl) (by simp)) ?_
    rw [if_f rfl]
    refine ok_eq g9 (ok_some ?_)
    refine decide_eq_true ?_
    have : (t : Int) + 3 - (if decide (t = 39) = true then (1 : Int) else 0) = 41 := by
      rcases hT1 with z | z
      · rw [z]; rfl
      · rw [z]; rfl
    rw [this]
  rcases hT1 with z | z
  · have l39 : es.length < 40 := by omega
    have c40 : (t : Int) + 2 = 40 := by omega
    rw [c40] at B3
    obtain ⟨b4, g4, B4, S4⟩ := t_ok B3 S3 l39 (by omega) hK1 oath
    have dt : decide (t = 39) = false := decide_eq_false (by omega)
    rw [dt]
    rw [dt] at main
    rw [if_f rfl]
    refine ok_eq rfl (ok_eq (x := (false, b3)) (bind_eq (t_bar_ap B3 l39 (by omega)) ?_) ?_)
    · rw [if_neg (by simp)]
      exact bind_eq (t_bar_row B3 l39 (by omega) hK1 ap3 rw3) (by simp)
    rw [if_f rfl]
    refine ok_eq rfl (ok_eq rfl ?_)
    refine ok_eq (x := (false, b4)) (bind_eq g4 ?_) ?_
    · rw [c40]
      simp
    rw [if_f rfl]
    refine main _ b4 B4 S4 (by simp; omega) fun n n1 n2 => ?_
    rw [List.map_append]
    exact List.mem_append_left _ (nm3 n (by omega) n2)
  · have l40 : es.length = 40 := by omega
    have c41 : (t : Int) + 2 = 41 := by omega
    rw [c41] at B3
    have dt : decide (t = 39) = true := decide_eq_true z
    rw [dt]
    rw [dt] at main
    rw [if_pos rfl]
    refine ok_eq (bind_eq FU rfl) (ok_eq (x := (false, b3)) (bind_eq (t_full_ap B3 l40 1 q1 q1) ?_) ?_)
    · rw [if_neg (by simp)]
      exact bind_eq (t_full_row B3 l40 ⟨by decide, by omega⟩ q0 q1) (by simp)
    rw [if_f rfl]
    refine ok_eq rfl ?_
    rw [if_pos rfl]
    refine ok_eq (bind_eq FU rfl) ?_
    refine ok_eq (x := (false, b3)) (bind_eq (t_full B3 l40 (by omega) hK1 oath) ?_) ?_
    · simp
    rw [if_f rfl]
    exact main _ b3 B3 S3 l40 fun n n1 n2 => nm3 n (by omega) n2
theorem law_eq (ns : List Int) : ∃ e, G_law [iL ns] = some (.rt (.bl true) e) := by
  obtain ⟨r, h, rfl⟩ := law_ok ns
  obtain ⟨e, h1, _⟩ := tf_law ns h
  exact ⟨e, h1⟩

end Lw

namespace Lw
open PySem PySem.Spec PyProof.Rows L2 Mv
structure Tx (cl : Nv) (mg : Str → Option Value) : Prop where
  f_range : mg "range" = none
  f_len : mg "len" = none
  f_min : mg "min" = none
  f_max : mg "max" = none
  f_list : mg "list" = none
  f_abs : mg "abs" = none
  f_isinstance : mg "isinstance" = none
  f_ValueError : mg "ValueError" = none
  f_int : mg "int" = none
  c_MOST_KINDS : ∃ t, mg "MOST_KINDS" = some (.int 5 t)
  c_MOST_MARKS : ∃ t, mg "MOST_MARKS" = some (.int 24 t)
  c_MOST_ENTRIES : ∃ t, mg "MOST_ENTRIES" = some (.int 40 t)
  g_NoKind : mg "NoKind" = some (.ref (cl "NoKind"))
  x_NoKind : PySem.W.excIn cl.K (cl "NoKind") He.veBase "ValueError.__new__" = true ∧ PySem.W.keepIn cl.K (.ref (cl "NoKind")) = true ∧ PySem.W.subIn cl.K (.ref (cl "NoKind")) (.type "BaseException") = some true ∧ PySem.W.typeIn cl.K (.ref (cl "NoKind")) = some (.type "type")
  g_Full : mg "Full" = some (.ref (cl "Full"))
  x_Full : PySem.W.excIn cl.K (cl "Full") He.veBase "ValueError.__new__" = true ∧ PySem.W.keepIn cl.K (.ref (cl "Full")) = true ∧ PySem.W.subIn cl.K (.ref (cl "Full")) (.type "BaseException") = some true ∧ PySem.W.typeIn cl.K (.ref (cl "Full")) = some (.type "type")
  g_NoMark : mg "NoMark" = some (.ref (cl "NoMark"))
  x_NoMark : PySem.W.excIn cl.K (cl "NoMark") He.veBase "ValueError.__new__" = true ∧ PySem.W.keepIn cl.K (.ref (cl "NoMark")) = true ∧ PySem.W.subIn cl.K (.ref (cl "NoMark")) (.type "BaseException") = some true ∧ PySem.W.typeIn cl.K (.ref (cl "NoMark")) = some (.type "type")
  g_Barred : mg "Barred" = some (.ref (cl "Barred"))
  x_Barred : PySem.W.excIn cl.K (cl "Barred") He.veBase "ValueError.__new__" = true ∧ PySem.W.keepIn cl.K (.ref (cl "Barred")) = true ∧ PySem.W.subIn cl.K (.ref (cl "Barred")) (.type "BaseException") = some true ∧ PySem.W.typeIn cl.K (.ref (cl "Barred")) = some (.type "type")
  g_NoEntry : mg "NoEntry" = some (.ref (cl "NoEntry"))
  x_NoEntry : PySem.W.excIn cl.K (cl "NoEntry") He.veBase "ValueError.__new__" = true ∧ PySem.W.keepIn cl.K (.ref (cl "NoEntry")) = true ∧ PySem.W.subIn cl.K (.ref (cl "NoEntry")) (.type "BaseException") = some true ∧ PySem.W.typeIn cl.K (.ref (cl "NoEntry")) = some (.type "type")
  g_NoHold : mg "NoHold" = some (.ref (cl "NoHold"))
  x_NoHold : PySem.W.excIn cl.K (cl "NoHold") He.veBase "ValueError.__new__" = true ∧ PySem.W.keepIn cl.K (.ref (cl "NoHold")) = true ∧ PySem.W.subIn cl.K (.ref (cl "NoHold")) (.type "BaseException") = some true ∧ PySem.W.typeIn cl.K (.ref (cl "NoHold")) = some (.type "type")
  n_NoMark : mg "NoMark" = some (.ref (cl "NoMark"))
  n_NoWay : mg "NoWay" = some (.ref (cl "NoWay"))
  n_NoKind : mg "NoKind" = some (.ref (cl "NoKind"))
  n_NoChart : mg "NoChart" = some (.ref (cl "NoChart"))
  n_NoChamber : mg "NoChamber" = some (.ref (cl "NoChamber"))
  n_NoHold : mg "NoHold" = some (.ref (cl "NoHold"))
  n_NoEntry : mg "NoEntry" = some (.ref (cl "NoEntry"))
  n_Full : mg "Full" = some (.ref (cl "Full"))
  n_Barred : mg "Barred" = some (.ref (cl "Barred"))
  n_NoHome : mg "NoHome" = some (.ref (cl "NoHome"))
  n_NoCave : mg "NoCave" = some (.ref (cl "NoCave"))
  n_CaveError : mg "CaveError" = some (.ref (cl "CaveError"))
  k_Survey : Cls cl.K (cl "Survey")
  a_Survey_kinds : NoAttr cl.K (cl "Survey") "kinds"
  a_Survey_many : NoAttr cl.K (cl "Survey") "many"
  a_Survey_kept : NoAttr cl.K (cl "Survey") "kept"
  a_Survey_coming : NoAttr cl.K (cl "Survey") "coming"
  a_Survey_held : NoAttr cl.K (cl "Survey") "held"
  bad : ∀ x ∈ (["Barred", "Full", "NoMark", "NoKind"] : List String), ExF cl x
  z : True
theorem sc_law_numbers : FnScope N_law_numbers P_law_numbers (defScope sT_law_numbers) := ⟨rfl, rfl, rfl, by decide +kernel, rfl, by decide +kernel, by decide +kernel⟩
theorem ok_law_numbers {P : Program} {w : World} {cl : Nv} {mg : Str → Option Value} {base : Heap} {f : Addr} {fd : FuncData} (F : FunD cl.K "_law_numbers" "_law_numbers" (defArgs sT_law_numbers) (defBody sT_law_numbers) (defScope sT_law_numbers) [] [] f fd) (T : Tx cl mg)  : FnOk P w cl.K mg base CX0 1 f fd P_law_numbers (spOf cl [.sc, .pn] (.fr (.ls .fz)) G_law_numbers) := by
  have S := sc_law_numbers
  refine fn_ok (k := 0) (t := t_law_numbers cl) F S rfl (by decide) (fun W => ss_law_numbers cl W) fun cdv A outer s H E hr => ?_
  exact (pss_cons (ps_set (i := 2) S.nd rfl (by first | exact Or.inl rfl | exact Or.inr rfl) (pe_lst pa_nil)) (pss_cons (ps_set (i := 3) S.nd rfl (by first | exact Or.inl rfl | exact Or.inr rfl) pe_int) (pss_cons (ps_for PassesOwn.never rfl (pi_list (pe_slice sl_list (pv 0) po_none (po_some pe_int))) (pg_name (i := 4) S.nd rfl (by first | exact Or.inl rfl | exact Or.inr rfl)) (pss_cons (ps_set (i := 3) S.nd rfl (by first | exact Or.inl rfl | exact Or.inr rfl) (pe_op op_mod (pe_op op_addA (pe_op op_addA (pe_op op_mulA (pv 3) pe_int) (pe_op op_mod (pv 4) pe_int)) pe_int) pe_int)) (pss_cons (ps_set (i := 5) S.nd rfl (by first | exact Or.inl rfl | exact Or.inr rfl) (pe_op op_sub (pv 4) (pe_op op_pow pe_int pe_int))) (pss_cons (ps_if (pt_cmpR op_lt (pv 5) pe_int (nomark _)) (pss_one (ps_expr (pe_bm PySem.F.plainAttrs_list PySem.F.slot_list_append PySem.F.type_list_append mt_append (pv 2) (pa_cons (pe_op op_mod (pv 4) pe_int) pa_nil)))) pss_nil) (pss_one (ps_for PassesOwn.never rfl (pi_range1 rfl T.f_range (pa_cons pe_int pa_nil)) (pg_name (i := 6) S.nd rfl (by first | exact Or.inl rfl | exact Or.inr rfl)) (pss_one (ps_if (pt_cmpR op_gt (pv 5) pe_int (nomark _)) (pss_cons (ps_expr (pe_bm PySem.F.plainAttrs_list PySem.F.slot_list_append PySem.F.type_list_append mt_append (pv 2) (pa_cons (pe_op op_mod (pv 5) pe_int) pa_nil))) (pss_one (ps_set (i := 5) S.nd rfl (by first | exact Or.inl rfl | exact Or.inr rfl) (pe_op op_fdiv (pv 5) pe_int)))) pss_nil)))))))) (pss_cons (ps_while PassesOwn.never (pt_cmpR op_lt (pe_callB call_lenA (by rfl) T.f_len (by decide +kernel) (pa_cons (pv 2) pa_nil)) (pv 1) (nomark _)) (pss_cons (ps_set (i := 3) S.nd rfl (by first | exact Or.inl rfl | exact Or.inr rfl) (pe_op op_mod (pe_op op_addA (pe_op op_addA (pe_op op_addA (pe_op op_mulA (pv 3) (pv 3)) (pe_op op_mulA pe_int (pv 3))) (pe_op op_mulA pe_int (pe_callB call_lenA (by rfl) T.f_len (by decide +kernel) (pa_cons (pv 2) pa_nil)))) pe_int) pe_int)) (pss_one (ps_expr (pe_bm PySem.F.plainAttrs_list PySem.F.slot_list_append PySem.F.type_list_append mt_append (pv 2) (pa_cons (pe_op op_mod (pe_op op_fdiv (pv 3) pe_int) pe_int) pa_nil)))))) (pss_one (ps_ret (pe_slice sl_list (pv 2) po_none (po_some (pv 1)))))))))
theorem cal_law_numbers {P : Program} {w : World} {cl : Nv} {mg : Str → Option Value} {base : Heap} {f : Addr} {fd : FuncData} (F : FunD cl.K "_law_numbers" "_law_numbers" (defArgs sT_law_numbers) (defBody sT_law_numbers) (defScope sT_law_numbers) [] [] f fd) (T : Tx cl mg)  (gm : mg "_law_numbers" = some (.ref f)) : Cal P w cl mg base CX0 1 "_law_numbers" P_law_numbers (spOf cl [.sc, .pn] (.fr (.ls .fz)) G_law_numbers) :=
  ⟨f, fd, gm, F.kp, F.bindsN fun _ _ _ _ _ _ us hl => (match us, hl with | [_, _], _ => rfl), ok_law_numbers F T ⟩

theorem sc_Survey_init : FnScope N_Survey_init P_Survey_init (defScope sT_Survey_init) := ⟨rfl, rfl, rfl, by decide +kernel, rfl, by decide +kernel, by decide +kernel⟩
theorem ok_Survey_init {P : Program} {w : World} {cl : Nv} {mg : Str → Option Value} {base : Heap} {f : Addr} {fd : FuncData} (F : FunD cl.K "__init__" "Survey.__init__" (defArgs sT_Survey_init) (defBody sT_Survey_init) (defScope sT_Survey_init) [] [] f fd) (T : Tx cl mg)  : FnOk P w cl.K mg base (L2.CX P w) 1 f fd P_Survey_init (spOf cl [(.bo (.io 1)), .pn] .pu G_Survey_init) := by
  have S := sc_Survey_init
  refine fn_okX (k := 0) (t := t_Survey_init cl) F S rfl (by decide) (fun W => ss_Survey_init cl W T.k_Survey T.a_Survey_kinds T.a_Survey_many T.a_Survey_kept T.a_Survey_coming T.a_Survey_held) fun cdv A outer s H E hr => ?_
  exact (pss_cons (ps_if (PW.pt (pw_or (pt_cmpR op_lt (pv 1) pe_int (nomark _)) (pw_or1 (pt_cmpR op_gt (pv 1) (pe_glob rfl T.c_MOST_KINDS.choose_spec ⟨_, rfl⟩) (nomark _))))) (pss_one (ps_raise rfl (takes_of rfl rfl rfl rfl) (pmk_own PySem.F.excBase_ValueError T.x_NoKind.1 T.g_NoKind T.x_NoKind.2.1 (raises_own T.x_NoKind.2.2.1 T.x_NoKind.2.2.2) (by exact rfl)))) pss_nil) (pss_cons (ps_fld (pv 0) (pv 1) rfl) (pss_cons (ps_fld (pv 0) pe_int rfl) (pss_cons (ps_fld (pv 0) (pe_lst pa_nil) rfl) (pss_cons (ps_fld (pv 0) pe_int rfl) (pss_one (ps_fld (pv 0) (pe_lst pa_nil) rfl)))))))
theorem cal_Survey_init {P : Program} {w : World} {cl : Nv} {mg : Str → Option Value} {base : Heap} {f : Addr} {fd : FuncData} (F : FunD cl.K "__init__" "Survey.__init__" (defArgs sT_Survey_init) (defBody sT_Survey_init) (defScope sT_Survey_init) [] [] f fd) (T : Tx cl mg)  (gm : mg "Survey" = some (.ref (cl "Survey"))) (mk : Mk cl.K (cl "Survey") f) : CalI P w cl mg base (L2.CX P w) 1 "Survey" P_Survey_init (spOf cl [(.bo (.io 1)), .pn] .pu G_Survey_init) :=
  ⟨f, fd, gm, mk, F.bindsN fun _ _ _ _ _ _ us hl => (match us, hl with | [_, _], _ => rfl), ok_Survey_init F T ⟩

theorem sc_Survey_chalk : FnScope N_Survey_chalk P_Survey_chalk (defScope sT_Survey_chalk) := ⟨rfl, rfl, rfl, by decide +kernel, rfl, by decide +kernel, by decide +kernel⟩
theorem ok_Survey_chalk {P : Program} {w : World} {cl : Nv} {mg : Str → Option Value} {base : Heap} {f : Addr} {fd : FuncData} (F : FunD cl.K "chalk" "Survey.chalk" (defArgs sT_Survey_chalk) (defBody sT_Survey_chalk) (defScope sT_Survey_chalk) [] [] f fd) (T : Tx cl mg)  : FnOk P w cl.K mg base (L2.CX P w) 1 f fd P_Survey_chalk (spOf cl [(.bo (.io 1))] .pu G_Survey_chalk) := by
  have S := sc_Survey_chalk
  refine fn_okX (k := 0) (t := t_Survey_chalk cl) F S rfl (by decide) (fun W => ss_Survey_chalk cl W T.k_Survey T.a_Survey_kinds T.a_Survey_many T.a_Survey_kept T.a_Survey_coming T.a_Survey_held) fun cdv A outer s H E hr => ?_
  exact (pss_cons (ps_if (pt_cmpR op_ge (pe_fld (pv 0) rfl) (pe_glob rfl T.c_MOST_MARKS.choose_spec ⟨_, rfl⟩) (nomark _)) (pss_one (ps_raise rfl (takes_of rfl rfl rfl rfl) (pmk_own PySem.F.excBase_ValueError T.x_Full.1 T.g_Full T.x_Full.2.1 (raises_own T.x_Full.2.2.1 T.x_Full.2.2.2) (by exact rfl)))) pss_nil) (pss_cons (ps_fldaug (pv 0) pe_int in_add) (pss_one (ps_ret (pe_op op_sub (pe_fld (pv 0) rfl) pe_int)))))
theorem cal_Survey_chalk {P : Program} {w : World} {cl : Nv} {mg : Str → Option Value} {base : Heap} {f : Addr} {fd : FuncData} (F : FunD cl.K "chalk" "Survey.chalk" (defArgs sT_Survey_chalk) (defBody sT_Survey_chalk) (defScope sT_Survey_chalk) [] [] f fd) (T : Tx cl mg)  (mt : Meth cl.K (cl "Survey") "chalk" f) : CalM P w cl mg base (L2.CX P w) 1 "Survey" "chalk" P_Survey_chalk (spOf cl [(.bo (.io 1))] .pu G_Survey_chalk) :=
  ⟨f, fd, mt, F.bindsN fun _ _ _ _ _ _ us hl => (match us, hl with | [_], _ => rfl), ok_Survey_chalk F T ⟩

theorem sc_Survey_need_marks : FnScope N_Survey_need_marks P_Survey_need_marks (defScope sT_Survey_need_marks) := ⟨rfl, rfl, rfl, by decide +kernel, rfl, by decide +kernel, by decide +kernel⟩
theorem ok_Survey_need_marks {P : Program} {w : World} {cl : Nv} {mg : Str → Option Value} {base : Heap} {f : Addr} {fd : FuncData} (F : FunD cl.K "need_marks" "Survey.need_marks" (defArgs sT_Survey_need_marks) (defBody sT_Survey_need_marks) (defScope sT_Survey_need_marks) [] [] f fd) (T : Tx cl mg)  : FnOk P w cl.K mg base (L2.CX P w) 1 f fd P_Survey_need_marks (spOf cl [.pn, .pn, .pn] .pu G_Survey_need_marks) := by
  have S := sc_Survey_need_marks
  refine fn_okX (k := 0) (t := t_Survey_need_marks cl) F S rfl (by decide) (fun W => ss_Survey_need_marks cl W T.k_Survey T.a_Survey_kinds T.a_Survey_many T.a_Survey_kept T.a_Survey_coming T.a_Survey_held) fun cdv A outer s H E hr => ?_
  exact (pss_one (ps_if (PW.pt (pw_or (pt_cmpR op_lt (pv 1) pe_int (nomark _)) (pw_or (pt_cmpR op_ge (pv 1) (pe_fld (pv 0) rfl) (nomark _)) (pw_or (pt_cmpR op_lt (pv 2) pe_int (nomark _)) (pw_or1 (pt_cmpR op_ge (pv 2) (pe_fld (pv 0) rfl) (nomark _))))))) (pss_one (ps_raise rfl (takes_of rfl rfl rfl rfl) (pmk_own PySem.F.excBase_ValueError T.x_NoMark.1 T.g_NoMark T.x_NoMark.2.1 (raises_own T.x_NoMark.2.2.1 T.x_NoMark.2.2.2) (by exact rfl)))) pss_nil))
theorem cal_Survey_need_marks {P : Program} {w : World} {cl : Nv} {mg : Str → Option Value} {base : Heap} {f : Addr} {fd : FuncData} (F : FunD cl.K "need_marks" "Survey.need_marks" (defArgs sT_Survey_need_marks) (defBody sT_Survey_need_marks) (defScope sT_Survey_need_marks) [] [] f fd) (T : Tx cl mg)  (mt : Meth cl.K (cl "Survey") "need_marks" f) : CalM P w cl mg base (L2.CX P w) 1 "Survey" "need_marks" P_Survey_need_marks (spOf cl [.pn, .pn, .pn] .pu G_Survey_need_marks) :=
  ⟨f, fd, mt, F.bindsN fun _ _ _ _ _ _ us hl => (match us, hl with | [_, _, _], _ => rfl), ok_Survey_need_marks F T ⟩

theorem sc_Survey_need_room : FnScope N_Survey_need_room P_Survey_need_room (defScope sT_Survey_need_room) := ⟨rfl, rfl, rfl, by decide +kernel, rfl, by decide +kernel, by decide +kernel⟩
theorem ok_Survey_need_room {P : Program} {w : World} {cl : Nv} {mg : Str → Option Value} {base : Heap} {f : Addr} {fd : FuncData} (F : FunD cl.K "need_room" "Survey.need_room" (defArgs sT_Survey_need_room) (defBody sT_Survey_need_room) (defScope sT_Survey_need_room) [] [] f fd) (T : Tx cl mg)  : FnOk P w cl.K mg base (L2.CX P w) 1 f fd P_Survey_need_room (spOf cl [.pn] .pu G_Survey_need_room) := by
  have S := sc_Survey_need_room
  refine fn_okX (k := 0) (t := t_Survey_need_room cl) F S rfl (by decide) (fun W => ss_Survey_need_room cl W T.k_Survey T.a_Survey_kinds T.a_Survey_many T.a_Survey_kept T.a_Survey_coming T.a_Survey_held) fun cdv A outer s H E hr => ?_
  exact (pss_one (ps_if (pt_cmpR op_ge (pe_callB call_lenA (by rfl) T.f_len (by decide +kernel) (pa_cons (pe_fld (pv 0) rfl) pa_nil)) (pe_glob rfl T.c_MOST_ENTRIES.choose_spec ⟨_, rfl⟩) (nomark _)) (pss_one (ps_raise rfl (takes_of rfl rfl rfl rfl) (pmk_own PySem.F.excBase_ValueError T.x_Full.1 T.g_Full T.x_Full.2.1 (raises_own T.x_Full.2.2.1 T.x_Full.2.2.2) (by exact rfl)))) pss_nil))
theorem cal_Survey_need_room {P : Program} {w : World} {cl : Nv} {mg : Str → Option Value} {base : Heap} {f : Addr} {fd : FuncData} (F : FunD cl.K "need_room" "Survey.need_room" (defArgs sT_Survey_need_room) (defBody sT_Survey_need_room) (defScope sT_Survey_need_room) [] [] f fd) (T : Tx cl mg)  (mt : Meth cl.K (cl "Survey") "need_room" f) : CalM P w cl mg base (L2.CX P w) 1 "Survey" "need_room" P_Survey_need_room (spOf cl [.pn] .pu G_Survey_need_room) :=
  ⟨f, fd, mt, F.bindsN fun _ _ _ _ _ _ us hl => (match us, hl with | [_], _ => rfl), ok_Survey_need_room F T ⟩

theorem sc_Survey_rows_now : FnScope N_Survey_rows_now P_Survey_rows_now (defScope sT_Survey_rows_now) := ⟨rfl, rfl, rfl, by decide +kernel, rfl, by decide +kernel, by decide +kernel⟩
theorem ok_Survey_rows_now {P : Program} {w : World} {cl : Nv} {mg : Str → Option Value} {base : Heap} {f : Addr} {fd : FuncData} (F : FunD cl.K "rows_now" "Survey.rows_now" (defArgs sT_Survey_rows_now) (defBody sT_Survey_rows_now) (defScope sT_Survey_rows_now) [] [] f fd) (T : Tx cl mg)  : FnOk P w cl.K mg base CX0 1 f fd P_Survey_rows_now (spOf cl [.pn] (.fr (.ls .fz)) G_Survey_rows_now) := by
  have S := sc_Survey_rows_now
  refine fn_ok (k := 0) (t := t_Survey_rows_now cl) F S rfl (by decide) (fun W => ss_Survey_rows_now cl W T.k_Survey T.a_Survey_kinds T.a_Survey_many T.a_Survey_kept T.a_Survey_coming T.a_Survey_held) fun cdv A outer s H E hr => ?_
  exact (pss_one (ps_ret (pe_lc (own := [(("entry" : Str), 1)]) (g := gName 1) rfl S.nd (pi_list (pe_fld (pv 0) rfl)) (blkOk_by (N := N_Survey_rows_now) (sc := defScope sT_Survey_rows_now) (own := [(("entry" : Str), 1)]) (by decide +kernel)) (fun _ _ _ _ _ => pg_name (i := 1) S.nd rfl (by first | exact Or.inl rfl | exact Or.inr rfl)) (fun _ _ _ _ _ => pts_one (pt_cmpR (op_eqD hr.units) (pe_ix ix_seq (pv 1) pe_int (fun _ _ => rfl)) pe_str (nomark _))) (fun _ _ _ _ _ => (pe_tup (pa_cons (pe_ix ix_seq (pv 1) pe_int (fun _ _ => rfl)) (pa_cons (pe_ix ix_seq (pv 1) pe_int (fun _ _ => rfl)) (pa_cons (pe_ix ix_seq (pv 1) pe_int (fun _ _ => rfl)) (pa_cons (pe_ix ix_seq (pv 1) pe_int (fun _ _ => rfl)) pa_nil)))))))))
theorem cal_Survey_rows_now {P : Program} {w : World} {cl : Nv} {mg : Str → Option Value} {base : Heap} {f : Addr} {fd : FuncData} (F : FunD cl.K "rows_now" "Survey.rows_now" (defArgs sT_Survey_rows_now) (defBody sT_Survey_rows_now) (defScope sT_Survey_rows_now) [] [] f fd) (T : Tx cl mg)  (mt : Meth cl.K (cl "Survey") "rows_now" f) : CalM P w cl mg base CX0 1 "Survey" "rows_now" P_Survey_rows_now (spOf cl [.pn] (.fr (.ls .fz)) G_Survey_rows_now) :=
  ⟨f, fd, mt, F.bindsN fun _ _ _ _ _ _ us hl => (match us, hl with | [_], _ => rfl), ok_Survey_rows_now F T ⟩

theorem sc_join : FnScope N_join P_join (defScope sT_join) := ⟨rfl, rfl, rfl, by decide +kernel, rfl, by decide +kernel, by decide +kernel⟩
theorem ok_join {P : Program} {w : World} {cl : Nv} {mg : Str → Option Value} {base : Heap} {f : Addr} {fd : FuncData} (F : FunD cl.K "join" "join" (defArgs sT_join) (defBody sT_join) (defScope sT_join) [] [] f fd) (T : Tx cl mg)  : FnOk P w cl.K mg base CX0 1 f fd P_join (spOf cl [(.bo (.ls .fz)), .pn, .pn] .pu G_join) := by
  have S := sc_join
  refine fn_ok (k := 0) (t := t_join cl) F S rfl (by decide) (fun W => ss_join cl W T.k_Survey T.a_Survey_kinds T.a_Survey_many T.a_Survey_kept T.a_Survey_coming T.a_Survey_held) fun cdv A outer s H E hr => ?_
  exact (pss_cons (ps_set (i := 3) S.nd rfl (by first | exact Or.inl rfl | exact Or.inr rfl) (pe_callB (call_min2 rfl) (by rfl) T.f_min (by decide +kernel) (pa_cons (pe_ix ix_seq (pv 0) (pv 1) (fun _ _ => rfl)) (pa_cons (pe_ix ix_seq (pv 0) (pv 2) (fun _ _ => rfl)) pa_nil)))) (pss_cons (ps_set (i := 4) S.nd rfl (by first | exact Or.inl rfl | exact Or.inr rfl) (pe_callB (call_max2 rfl) (by rfl) T.f_max (by decide +kernel) (pa_cons (pe_ix ix_seq (pv 0) (pv 1) (fun _ _ => rfl)) (pa_cons (pe_ix ix_seq (pv 0) (pv 2) (fun _ _ => rfl)) pa_nil)))) (pss_one (ps_for PassesOwn.never rfl (pi_range1 rfl T.f_range (pa_cons (pe_callB call_lenA (by rfl) T.f_len (by decide +kernel) (pa_cons (pv 0) pa_nil)) pa_nil)) (pg_name (i := 5) S.nd rfl (by first | exact Or.inl rfl | exact Or.inr rfl)) (pss_one (ps_if (pt_cmpR (op_eqD hr.units) (pe_ix ix_seq (pv 0) (pv 5) (fun _ _ => rfl)) (pv 4) (nomark _)) (pss_one (ps_asg (pv 3) (pg_sub (pv 0) (pv 5) set_list))) pss_nil))))))
theorem cal_join {P : Program} {w : World} {cl : Nv} {mg : Str → Option Value} {base : Heap} {f : Addr} {fd : FuncData} (F : FunD cl.K "join" "join" (defArgs sT_join) (defBody sT_join) (defScope sT_join) [] [] f fd) (T : Tx cl mg)  (gm : mg "join" = some (.ref f)) : Cal P w cl mg base CX0 1 "join" P_join (spOf cl [(.bo (.ls .fz)), .pn, .pn] .pu G_join) :=
  ⟨f, fd, gm, F.kp, F.bindsN fun _ _ _ _ _ _ us hl => (match us, hl with | [_, _, _], _ => rfl), ok_join F T ⟩

theorem sc_sweep : FnScope N_sweep P_sweep (defScope sT_sweep) := ⟨rfl, rfl, rfl, by decide +kernel, rfl, by decide +kernel, by decide +kernel⟩
theorem ok_sweep {P : Program} {w : World} {cl : Nv} {mg : Str → Option Value} {base : Heap} {f : Addr} {fd : FuncData} (F : FunD cl.K "sweep" "sweep" (defArgs sT_sweep) (defBody sT_sweep) (defScope sT_sweep) [] [] f fd) (T : Tx cl mg) (hjoin : Cal P w cl mg base CX0 1 "join" P_join (spOf cl [(.bo (.ls .fz)), .pn, .pn] .pu G_join)) : FnOk P w cl.K mg base CX0 2 f fd P_sweep (spOf cl [(.bo (.ls .fz)), .pn, .pn, (.bo (.ls .fz))] .pu G_sweep) := by
  obtain ⟨fjoin, fdjoin, gjoin, kjoin, bjoin, Gjoin⟩ := hjoin
  have S := sc_sweep
  refine fn_ok (k := 1) (t := t_sweep cl) F S rfl (by decide) (fun W => ss_sweep cl W T.k_Survey T.a_Survey_kinds T.a_Survey_many T.a_Survey_kept T.a_Survey_coming T.a_Survey_held) fun cdv A outer s H E hr => ?_
  exact (pss_cons (ps_set (i := 4) S.nd rfl (by first | exact Or.inl rfl | exact Or.inr rfl) pe_dnewT) (pss_cons (ps_set (i := 5) S.nd rfl (by first | exact Or.inl rfl | exact Or.inr rfl) pe_bl) (pss_cons (ps_for PassesOwn.never rfl (pi_list (pv 1)) (pg_tup rfl (pgs_cons (pg_name (i := 6) S.nd rfl (by first | exact Or.inl rfl | exact Or.inr rfl)) (pgs_cons (pg_name (i := 7) S.nd rfl (by first | exact Or.inl rfl | exact Or.inr rfl)) (pgs_cons (pg_name (i := 8) S.nd rfl (by first | exact Or.inl rfl | exact Or.inr rfl)) (pgs_cons (pg_name (i := 9) S.nd rfl (by first | exact Or.inl rfl | exact Or.inr rfl)) pgs_nil))))) (pss_cons (ps_set (i := 10) S.nd rfl (by first | exact Or.inl rfl | exact Or.inr rfl) (pv 7)) (pss_cons (ps_set (i := 11) S.nd rfl (by first | exact Or.inl rfl | exact Or.inr rfl) (pv 9)) (pss_cons (ps_if (pt_cmpR (op_eqD hr.units) (pv 2) (pe_un un_neg pe_int) (nomark _)) (pss_cons (ps_set (i := 10) S.nd rfl (by first | exact Or.inl rfl | exact Or.inr rfl) (pv 9)) (pss_one (ps_set (i := 11) S.nd rfl (by first | exact Or.inl rfl | exact Or.inr rfl) (pv 7)))) pss_nil) (pss_cons (ps_set (i := 12) S.nd rfl (by first | exact Or.inl rfl | exact Or.inr rfl) (pe_tup (pa_cons (pe_ix ix_seq (pv 0) (pv 10) (fun _ _ => rfl)) (pa_cons (pv 8) pa_nil)))) (pss_one (ps_if (pt_cmp (pc_dnotin (hu_of hr) (pv 12) (pv 4))) (pss_one (ps_dput (hu_of hr) (pv 4) (pv 12) (pe_tup (pa_cons (pv 6) (pa_cons (pv 11) pa_nil))) rfl)) (pss_cons (ps_asg (pe_dget (hu_of hr) (pv 4) (pv 12) (fun _ _ => rfl)) (pg_tup rfl (pgs_cons (pg_name (i := 13) S.nd rfl (by first | exact Or.inl rfl | exact Or.inr rfl)) (pgs_cons (pg_name (i := 14) S.nd rfl (by first | exact Or.inl rfl | exact Or.inr rfl)) pgs_nil)))) (pss_one (ps_if (pt_cmpR (op_neD hr.units) (pe_ix ix_seq (pv 0) (pv 14) (fun _ _ => rfl)) (pe_ix ix_seq (pv 0) (pv 11) (fun _ _ => rfl)) (nomark _)) (pss_cons (ps_expr (pe_call Gjoin (hr.mono (by decide)) (by rfl) gjoin kjoin bjoin .nil pass0 (pa_cons (pv 0) (pa_cons (pv 14) (pa_cons (pv 11) pa_nil))))) (pss_cons (ps_expr (pe_bm PySem.F.plainAttrs_list PySem.F.slot_list_append PySem.F.type_list_append mt_append (pv 3) (pa_cons (pe_tup (pa_cons (pv 13) (pa_cons (pv 6) (pa_cons (pv 2) pa_nil)))) pa_nil))) (pss_one (ps_set (i := 5) S.nd rfl (by first | exact Or.inl rfl | exact Or.inr rfl) pe_bl)))) pss_nil)))))))))) (pss_one (ps_ret (pv 5))))))
theorem cal_sweep {P : Program} {w : World} {cl : Nv} {mg : Str → Option Value} {base : Heap} {f : Addr} {fd : FuncData} (F : FunD cl.K "sweep" "sweep" (defArgs sT_sweep) (defBody sT_sweep) (defScope sT_sweep) [] [] f fd) (T : Tx cl mg) (hjoin : Cal P w cl mg base CX0 1 "join" P_join (spOf cl [(.bo (.ls .fz)), .pn, .pn] .pu G_join)) (gm : mg "sweep" = some (.ref f)) : Cal P w cl mg base CX0 2 "sweep" P_sweep (spOf cl [(.bo (.ls .fz)), .pn, .pn, (.bo (.ls .fz))] .pu G_sweep) :=
  ⟨f, fd, gm, F.kp, F.bindsN fun _ _ _ _ _ _ us hl => (match us, hl with | [_, _, _, _], _ => rfl), ok_sweep F T hjoin⟩

theorem sc_folded : FnScope N_folded P_folded (defScope sT_folded) := ⟨rfl, rfl, rfl, by decide +kernel, rfl, by decide +kernel, by decide +kernel⟩
theorem ok_folded {P : Program} {w : World} {cl : Nv} {mg : Str → Option Value} {base : Heap} {f : Addr} {fd : FuncData} (F : FunD cl.K "folded" "folded" (defArgs sT_folded) (defBody sT_folded) (defScope sT_folded) [] [] f fd) (T : Tx cl mg) (hjoin : Cal P w cl mg base CX0 1 "join" P_join (spOf cl [(.bo (.ls .fz)), .pn, .pn] .pu G_join)) (hsweep : Cal P w cl mg base CX0 2 "sweep" P_sweep (spOf cl [(.bo (.ls .fz)), .pn, .pn, (.bo (.ls .fz))] .pu G_sweep)) : FnOk P w cl.K mg base CX0 3 f fd P_folded (spOf cl [.pn, .pn, .pn] .pu G_folded) := by
  obtain ⟨fjoin, fdjoin, gjoin, kjoin, bjoin, Gjoin⟩ := hjoin
  obtain ⟨fsweep, fdsweep, gsweep, ksweep, bsweep, Gsweep⟩ := hsweep
  have S := sc_folded
  refine fn_ok (k := 2) (t := t_folded cl) F S rfl (by decide) (fun W => ss_folded cl W T.k_Survey T.a_Survey_kinds T.a_Survey_many T.a_Survey_kept T.a_Survey_coming T.a_Survey_held) fun cdv A outer s H E hr => ?_
  exact (pss_cons (ps_set (i := 3) S.nd rfl (by first | exact Or.inl rfl | exact Or.inr rfl) (pe_listRg rfl (by rfl) T.f_list (prg_1 (by rfl) T.f_range (pv 0)))) (pss_cons (ps_for PassesOwn.never rfl (pi_list (pv 2)) (pg_tup rfl (pgs_cons (pg_name (i := 4) S.nd rfl (by first | exact Or.inl rfl | exact Or.inr rfl)) (pgs_cons (pg_name (i := 5) S.nd rfl (by first | exact Or.inl rfl | exact Or.inr rfl)) pgs_nil))) (pss_one (ps_if (pt_cmpR (op_neD hr.units) (pe_ix ix_seq (pv 3) (pv 4) (fun _ _ => rfl)) (pe_ix ix_seq (pv 3) (pv 5) (fun _ _ => rfl)) (nomark _)) (pss_one (ps_expr (pe_call Gjoin (hr.mono (by decide)) (by rfl) gjoin kjoin bjoin .nil pass0 (pa_cons (pv 3) (pa_cons (pv 4) (pa_cons (pv 5) pa_nil)))))) pss_nil))) (pss_cons (ps_set (i := 6) S.nd rfl (by first | exact Or.inl rfl | exact Or.inr rfl) (pe_lst pa_nil)) (pss_cons (ps_set (i := 7) S.nd rfl (by first | exact Or.inl rfl | exact Or.inr rfl) pe_bl) (pss_cons (ps_while PassesOwn.never (pt_val (pv 7)) (pss_cons (ps_set (i := 7) S.nd rfl (by first | exact Or.inl rfl | exact Or.inr rfl) (pe_call Gsweep (hr.mono (by decide)) (by rfl) gsweep ksweep bsweep .nil pass0 (pa_cons (pv 3) (pa_cons (pv 1) (pa_cons pe_int (pa_cons (pv 6) pa_nil)))))) (pss_one (ps_if (pt_val (pe_call Gsweep (hr.mono (by decide)) (by rfl) gsweep ksweep bsweep .nil pass0 (pa_cons (pv 3) (pa_cons (pv 1) (pa_cons (pe_un un_neg pe_int) (pa_cons (pv 6) pa_nil)))))) (pss_one (ps_set (i := 7) S.nd rfl (by first | exact Or.inl rfl | exact Or.inr rfl) pe_bl)) pss_nil)))) (pss_one (ps_ret (pe_tup (pa_cons (pv 3) (pa_cons (pv 6) pa_nil))))))))))
theorem cal_folded {P : Program} {w : World} {cl : Nv} {mg : Str → Option Value} {base : Heap} {f : Addr} {fd : FuncData} (F : FunD cl.K "folded" "folded" (defArgs sT_folded) (defBody sT_folded) (defScope sT_folded) [] [] f fd) (T : Tx cl mg) (hjoin : Cal P w cl mg base CX0 1 "join" P_join (spOf cl [(.bo (.ls .fz)), .pn, .pn] .pu G_join)) (hsweep : Cal P w cl mg base CX0 2 "sweep" P_sweep (spOf cl [(.bo (.ls .fz)), .pn, .pn, (.bo (.ls .fz))] .pu G_sweep)) (gm : mg "folded" = some (.ref f)) : Cal P w cl mg base CX0 3 "folded" P_folded (spOf cl [.pn, .pn, .pn] .pu G_folded) :=
  ⟨f, fd, gm, F.kp, F.bindsN fun _ _ _ _ _ _ us hl => (match us, hl with | [_, _, _], _ => rfl), ok_folded F T hjoin hsweep⟩

theorem sc_Survey_labels_now : FnScope N_Survey_labels_now P_Survey_labels_now (defScope sT_Survey_labels_now) := ⟨rfl, rfl, rfl, by decide +kernel, rfl, by decide +kernel, by decide +kernel⟩
theorem ok_Survey_labels_now {P : Program} {w : World} {cl : Nv} {mg : Str → Option Value} {base : Heap} {f : Addr} {fd : FuncData} (F : FunD cl.K "labels_now" "Survey.labels_now" (defArgs sT_Survey_labels_now) (defBody sT_Survey_labels_now) (defScope sT_Survey_labels_now) [] [] f fd) (T : Tx cl mg) (hfolded : Cal P w cl mg base CX0 3 "folded" P_folded (spOf cl [.pn, .pn, .pn] .pu G_folded)) (hSurvey_rows_now : CalM P w cl mg base CX0 1 "Survey" "rows_now" P_Survey_rows_now (spOf cl [.pn] (.fr (.ls .fz)) G_Survey_rows_now)) : FnOk P w cl.K mg base CX0 4 f fd P_Survey_labels_now (spOf cl [.pn] .pu G_Survey_labels_now) := by
  obtain ⟨ffolded, fdfolded, gfolded, kfolded, bfolded, Gfolded⟩ := hfolded
  obtain ⟨fSurvey_rows_now, fdSurvey_rows_now, mSurvey_rows_now, bSurvey_rows_now, GSurvey_rows_now⟩ := hSurvey_rows_now
  have S := sc_Survey_labels_now
  refine fn_ok (k := 3) (t := t_Survey_labels_now cl) F S rfl (by decide) (fun W => ss_Survey_labels_now cl W T.k_Survey T.a_Survey_kinds T.a_Survey_many T.a_Survey_kept T.a_Survey_coming T.a_Survey_held) fun cdv A outer s H E hr => ?_
  exact (pss_one (ps_ret (pe_ix ix_seq (pe_call Gfolded (hr.mono (by decide)) (by rfl) gfolded kfolded bfolded .nil pass0 (pa_cons (pe_fld (pv 0) rfl) (pa_cons (pe_meth0 (pv 0) T.k_Survey mSurvey_rows_now GSurvey_rows_now (hr.mono (by decide)) bSurvey_rows_now .nil pass0) (pa_cons (pe_lst pa_nil) pa_nil)))) pe_int (fun _ _ => rfl))))
theorem cal_Survey_labels_now {P : Program} {w : World} {cl : Nv} {mg : Str → Option Value} {base : Heap} {f : Addr} {fd : FuncData} (F : FunD cl.K "labels_now" "Survey.labels_now" (defArgs sT_Survey_labels_now) (defBody sT_Survey_labels_now) (defScope sT_Survey_labels_now) [] [] f fd) (T : Tx cl mg) (hfolded : Cal P w cl mg base CX0 3 "folded" P_folded (spOf cl [.pn, .pn, .pn] .pu G_folded)) (hSurvey_rows_now : CalM P w cl mg base CX0 1 "Survey" "rows_now" P_Survey_rows_now (spOf cl [.pn] (.fr (.ls .fz)) G_Survey_rows_now)) (mt : Meth cl.K (cl "Survey") "labels_now" f) : CalM P w cl mg base CX0 4 "Survey" "labels_now" P_Survey_labels_now (spOf cl [.pn] .pu G_Survey_labels_now) :=
  ⟨f, fd, mt, F.bindsN fun _ _ _ _ _ _ us hl => (match us, hl with | [_], _ => rfl), ok_Survey_labels_now F T hfolded hSurvey_rows_now⟩

theorem sc_Survey_same : FnScope N_Survey_same P_Survey_same (defScope sT_Survey_same) := ⟨rfl, rfl, rfl, by decide +kernel, rfl, by decide +kernel, by decide +kernel⟩
theorem ok_Survey_same {P : Program} {w : World} {cl : Nv} {mg : Str → Option Value} {base : Heap} {f : Addr} {fd : FuncData} (F : FunD cl.K "same" "Survey.same" (defArgs sT_Survey_same) (defBody sT_Survey_same) (defScope sT_Survey_same) [] [] f fd) (T : Tx cl mg) (hSurvey_need_marks : CalM P w cl mg base (L2.CX P w) 1 "Survey" "need_marks" P_Survey_need_marks (spOf cl [.pn, .pn, .pn] .pu G_Survey_need_marks)) (hSurvey_labels_now : CalM P w cl mg base CX0 4 "Survey" "labels_now" P_Survey_labels_now (spOf cl [.pn] .pu G_Survey_labels_now)) : FnOk P w cl.K mg base (L2.CX P w) 5 f fd P_Survey_same (spOf cl [.pn, .pn, .pn] .pu G_Survey_same) := by
  obtain ⟨fSurvey_need_marks, fdSurvey_need_marks, mSurvey_need_marks, bSurvey_need_marks, GSurvey_need_marks⟩ := hSurvey_need_marks
  obtain ⟨fSurvey_labels_now, fdSurvey_labels_now, mSurvey_labels_now, bSurvey_labels_now, GSurvey_labels_now⟩ := hSurvey_labels_now
  have S := sc_Survey_same
  refine fn_okX (k := 4) (t := t_Survey_same cl) F S rfl (by decide) (fun W => ss_Survey_same cl W T.k_Survey T.a_Survey_kinds T.a_Survey_many T.a_Survey_kept T.a_Survey_coming T.a_Survey_held) fun cdv A outer s H E hr => ?_
  exact (pss_cons (ps_expr (pe_methE (pv 0) T.k_Survey mSurvey_need_marks GSurvey_need_marks (hr.mono (by decide)) bSurvey_need_marks (fun σ => passAt (takes_of rfl rfl rfl rfl) σ) (pa_cons (pv 1) (pa_cons (pv 2) pa_nil)))) (pss_cons (ps_set (i := 3) S.nd rfl (by first | exact Or.inl rfl | exact Or.inr rfl) (pe_meth0 (pv 0) T.k_Survey mSurvey_labels_now GSurvey_labels_now (hr.mono (by decide)) bSurvey_labels_now .nil pass0)) (pss_one (ps_ret (pe_cmpR (op_eqD hr.units) (pe_ix ix_seq (pv 3) (pv 1) (fun _ _ => rfl)) (pe_ix ix_seq (pv 3) (pv 2) (fun _ _ => rfl)) (nomark _))))))
theorem cal_Survey_same {P : Program} {w : World} {cl : Nv} {mg : Str → Option Value} {base : Heap} {f : Addr} {fd : FuncData} (F : FunD cl.K "same" "Survey.same" (defArgs sT_Survey_same) (defBody sT_Survey_same) (defScope sT_Survey_same) [] [] f fd) (T : Tx cl mg) (hSurvey_need_marks : CalM P w cl mg base (L2.CX P w) 1 "Survey" "need_marks" P_Survey_need_marks (spOf cl [.pn, .pn, .pn] .pu G_Survey_need_marks)) (hSurvey_labels_now : CalM P w cl mg base CX0 4 "Survey" "labels_now" P_Survey_labels_now (spOf cl [.pn] .pu G_Survey_labels_now)) (mt : Meth cl.K (cl "Survey") "same" f) : CalM P w cl mg base (L2.CX P w) 5 "Survey" "same" P_Survey_same (spOf cl [.pn, .pn, .pn] .pu G_Survey_same) :=
  ⟨f, fd, mt, F.bindsN fun _ _ _ _ _ _ us hl => (match us, hl with | [_, _, _], _ => rfl), ok_Survey_same F T hSurvey_need_marks hSurvey_labels_now⟩

theorem sc_Survey_enter : FnScope N_Survey_enter P_Survey_enter (defScope sT_Survey_enter) := ⟨rfl, rfl, rfl, by decide +kernel, rfl, by decide +kernel, by decide +kernel⟩
theorem ok_Survey_enter {P : Program} {w : World} {cl : Nv} {mg : Str → Option Value} {base : Heap} {f : Addr} {fd : FuncData} (F : FunD cl.K "enter" "Survey.enter" (defArgs sT_Survey_enter) (defBody sT_Survey_enter) (defScope sT_Survey_enter) [] [] f fd) (T : Tx cl mg)  : FnOk P w cl.K mg base CX0 1 f fd P_Survey_enter (spOf cl [(.bo (.io 1)), .pn, .pn] .pu G_Survey_enter) := by
  have S := sc_Survey_enter
  refine fn_ok (k := 0) (t := t_Survey_enter cl) F S rfl (by decide) (fun W => ss_Survey_enter cl W T.k_Survey T.a_Survey_kinds T.a_Survey_many T.a_Survey_kept T.a_Survey_coming T.a_Survey_held) fun cdv A outer s H E hr => ?_
  exact (pss_cons (ps_set (i := 3) S.nd rfl (by first | exact Or.inl rfl | exact Or.inr rfl) (pe_fld (pv 0) rfl)) (pss_cons (ps_expr (pe_bm PySem.F.plainAttrs_list PySem.F.slot_list_append PySem.F.type_list_append mt_append (pe_fld (pv 0) rfl) (pa_cons (pe_op op_addA (pe_tup (pa_cons (pv 3) (pa_cons (pv 1) pa_nil))) (pv 2)) pa_nil))) (pss_cons (ps_fld (pv 0) (pe_op op_addA (pv 3) pe_int) rfl) (pss_one (ps_ret (pv 3))))))
theorem cal_Survey_enter {P : Program} {w : World} {cl : Nv} {mg : Str → Option Value} {base : Heap} {f : Addr} {fd : FuncData} (F : FunD cl.K "enter" "Survey.enter" (defArgs sT_Survey_enter) (defBody sT_Survey_enter) (defScope sT_Survey_enter) [] [] f fd) (T : Tx cl mg)  (mt : Meth cl.K (cl "Survey") "enter" f) : CalM P w cl mg base CX0 1 "Survey" "enter" P_Survey_enter (spOf cl [(.bo (.io 1)), .pn, .pn] .pu G_Survey_enter) :=
  ⟨f, fd, mt, F.bindsN fun _ _ _ _ _ _ us hl => (match us, hl with | [_, _, _], _ => rfl), ok_Survey_enter F T ⟩

theorem sc_Survey_apart : FnScope N_Survey_apart P_Survey_apart (defScope sT_Survey_apart) := ⟨rfl, rfl, rfl, by decide +kernel, rfl, by decide +kernel, by decide +kernel⟩
theorem ok_Survey_apart {P : Program} {w : World} {cl : Nv} {mg : Str → Option Value} {base : Heap} {f : Addr} {fd : FuncData} (F : FunD cl.K "apart" "Survey.apart" (defArgs sT_Survey_apart) (defBody sT_Survey_apart) (defScope sT_Survey_apart) [] [] f fd) (T : Tx cl mg) (hSurvey_need_marks : CalM P w cl mg base (L2.CX P w) 1 "Survey" "need_marks" P_Survey_need_marks (spOf cl [.pn, .pn, .pn] .pu G_Survey_need_marks)) (hSurvey_need_room : CalM P w cl mg base (L2.CX P w) 1 "Survey" "need_room" P_Survey_need_room (spOf cl [.pn] .pu G_Survey_need_room)) (hSurvey_same : CalM P w cl mg base (L2.CX P w) 5 "Survey" "same" P_Survey_same (spOf cl [.pn, .pn, .pn] .pu G_Survey_same)) (hSurvey_enter : CalM P w cl mg base CX0 1 "Survey" "enter" P_Survey_enter (spOf cl [(.bo (.io 1)), .pn, .pn] .pu G_Survey_enter)) : FnOk P w cl.K mg base (L2.CX P w) 6 f fd P_Survey_apart (spOf cl [(.bo (.io 1)), .pn, .pn] .pu G_Survey_apart) := by
  obtain ⟨fSurvey_need_marks, fdSurvey_need_marks, mSurvey_need_marks, bSurvey_need_marks, GSurvey_need_marks⟩ := hSurvey_need_marks
  obtain ⟨fSurvey_need_room, fdSurvey_need_room, mSurvey_need_room, bSurvey_need_room, GSurvey_need_room⟩ := hSurvey_need_room
  obtain ⟨fSurvey_same, fdSurvey_same, mSurvey_same, bSurvey_same, GSurvey_same⟩ := hSurvey_same
  obtain ⟨fSurvey_enter, fdSurvey_enter, mSurvey_enter, bSurvey_enter, GSurvey_enter⟩ := hSurvey_enter
  have S := sc_Survey_apart
  refine fn_okX (k := 5) (t := t_Survey_apart cl) F S rfl (by decide) (fun W => ss_Survey_apart cl W T.k_Survey T.a_Survey_kinds T.a_Survey_many T.a_Survey_kept T.a_Survey_coming T.a_Survey_held) fun cdv A outer s H E hr => ?_
  exact (pss_cons (ps_expr (pe_methE (pv 0) T.k_Survey mSurvey_need_marks GSurvey_need_marks (hr.mono (by decide)) bSurvey_need_marks (fun σ => passAt (takes_of rfl rfl rfl rfl) σ) (pa_cons (pv 1) (pa_cons (pv 2) pa_nil)))) (pss_cons (ps_expr (pe_methE0 (pv 0) T.k_Survey mSurvey_need_room GSurvey_need_room (hr.mono (by decide)) bSurvey_need_room (fun σ => passAt (takes_of rfl rfl rfl rfl) σ))) (pss_cons (ps_if (pt_val (pe_methE (pv 0) T.k_Survey mSurvey_same GSurvey_same (hr.mono (by decide)) bSurvey_same (fun σ => passAt (takes_of rfl rfl rfl rfl) σ) (pa_cons (pv 1) (pa_cons (pv 2) pa_nil)))) (pss_one (ps_raise rfl (takes_of rfl rfl rfl rfl) (pmk_own PySem.F.excBase_ValueError T.x_Barred.1 T.g_Barred T.x_Barred.2.1 (raises_own T.x_Barred.2.2.1 T.x_Barred.2.2.2) (by exact rfl)))) pss_nil) (pss_one (ps_ret (pe_meth (pv 0) T.k_Survey mSurvey_enter GSurvey_enter (hr.mono (by decide)) bSurvey_enter .nil pass0 (pa_cons pe_str (pa_cons (pe_tup (pa_cons (pv 1) (pa_cons (pv 2) pa_nil))) pa_nil))))))))
theorem cal_Survey_apart {P : Program} {w : World} {cl : Nv} {mg : Str → Option Value} {base : Heap} {f : Addr} {fd : FuncData} (F : FunD cl.K "apart" "Survey.apart" (defArgs sT_Survey_apart) (defBody sT_Survey_apart) (defScope sT_Survey_apart) [] [] f fd) (T : Tx cl mg) (hSurvey_need_marks : CalM P w cl mg base (L2.CX P w) 1 "Survey" "need_marks" P_Survey_need_marks (spOf cl [.pn, .pn, .pn] .pu G_Survey_need_marks)) (hSurvey_need_room : CalM P w cl mg base (L2.CX P w) 1 "Survey" "need_room" P_Survey_need_room (spOf cl [.pn] .pu G_Survey_need_room)) (hSurvey_same : CalM P w cl mg base (L2.CX P w) 5 "Survey" "same" P_Survey_same (spOf cl [.pn, .pn, .pn] .pu G_Survey_same)) (hSurvey_enter : CalM P w cl mg base CX0 1 "Survey" "enter" P_Survey_enter (spOf cl [(.bo (.io 1)), .pn, .pn] .pu G_Survey_enter)) (mt : Meth cl.K (cl "Survey") "apart" f) : CalM P w cl mg base (L2.CX P w) 6 "Survey" "apart" P_Survey_apart (spOf cl [(.bo (.io 1)), .pn, .pn] .pu G_Survey_apart) :=
  ⟨f, fd, mt, F.bindsN fun _ _ _ _ _ _ us hl => (match us, hl with | [_, _, _], _ => rfl), ok_Survey_apart F T hSurvey_need_marks hSurvey_need_room hSurvey_same hSurvey_enter⟩

theorem sc_lettered : FnScope N_lettered P_lettered (defScope sT_lettered) := ⟨rfl, rfl, rfl, by decide +kernel, rfl, by decide +kernel, by decide +kernel⟩
theorem ok_lettered {P : Program} {w : World} {cl : Nv} {mg : Str → Option Value} {base : Heap} {f : Addr} {fd : FuncData} (F : FunD cl.K "lettered" "lettered" (defArgs sT_lettered) (defBody sT_lettered) (defScope sT_lettered) [] [] f fd) (T : Tx cl mg)  : FnOk P w cl.K mg base CX0 1 f fd P_lettered (spOf cl [.pn, .pn] .pu G_lettered) := by
  have S := sc_lettered
  refine fn_ok (k := 0) (t := t_lettered cl) F S rfl (by decide) (fun W => ss_lettered cl W T.k_Survey T.a_Survey_kinds T.a_Survey_many T.a_Survey_kept T.a_Survey_coming T.a_Survey_held) fun cdv A outer s H E hr => ?_
  exact (pss_cons (ps_for PassesOwn.never rfl (pi_list (pv 0)) (pg_name (i := 2) S.nd rfl (by first | exact Or.inl rfl | exact Or.inr rfl)) (pss_one (ps_if (PW.pt (pw_or (pt_cmpR (op_eqD hr.units) (pv 2) pe_int (nomark _)) (pw_or1 (pt_cmpR op_gt (pe_callB call_abs (by rfl) T.f_abs (by decide +kernel) (pa_cons (pv 2) pa_nil)) (pv 1) (nomark _))))) (pss_one (ps_ret pe_bl)) pss_nil))) (pss_one (ps_ret pe_bl)))
theorem cal_lettered {P : Program} {w : World} {cl : Nv} {mg : Str → Option Value} {base : Heap} {f : Addr} {fd : FuncData} (F : FunD cl.K "lettered" "lettered" (defArgs sT_lettered) (defBody sT_lettered) (defScope sT_lettered) [] [] f fd) (T : Tx cl mg)  (gm : mg "lettered" = some (.ref f)) : Cal P w cl mg base CX0 1 "lettered" P_lettered (spOf cl [.pn, .pn] .pu G_lettered) :=
  ⟨f, fd, gm, F.kp, F.bindsN fun _ _ _ _ _ _ us hl => (match us, hl with | [_, _], _ => rfl), ok_lettered F T ⟩

theorem sc_Survey_need_way : FnScope N_Survey_need_way P_Survey_need_way (defScope sT_Survey_need_way) := ⟨rfl, rfl, rfl, by decide +kernel, rfl, by decide +kernel, by decide +kernel⟩
theorem ok_Survey_need_way {P : Program} {w : World} {cl : Nv} {mg : Str → Option Value} {base : Heap} {f : Addr} {fd : FuncData} (F : FunD cl.K "need_way" "Survey.need_way" (defArgs sT_Survey_need_way) (defBody sT_Survey_need_way) (defScope sT_Survey_need_way) [] [] f fd) (T : Tx cl mg) (hSurvey_need_marks : CalM P w cl mg base (L2.CX P w) 1 "Survey" "need_marks" P_Survey_need_marks (spOf cl [.pn, .pn, .pn] .pu G_Survey_need_marks)) (hlettered : Cal P w cl mg base CX0 1 "lettered" P_lettered (spOf cl [.pn, .pn] .pu G_lettered)) : FnOk P w cl.K mg base (L2.CX P w) 2 f fd P_Survey_need_way (spOf cl [.pn, .pn, .pn, .pn] .pu G_Survey_need_way) := by
  obtain ⟨fSurvey_need_marks, fdSurvey_need_marks, mSurvey_need_marks, bSurvey_need_marks, GSurvey_need_marks⟩ := hSurvey_need_marks
  obtain ⟨flettered, fdlettered, glettered, klettered, blettered, Glettered⟩ := hlettered
  have S := sc_Survey_need_way
  refine fn_okX (k := 1) (t := t_Survey_need_way cl) F S rfl (by decide) (fun W => ss_Survey_need_way cl W T.k_Survey T.a_Survey_kinds T.a_Survey_many T.a_Survey_kept T.a_Survey_coming T.a_Survey_held) fun cdv A outer s H E hr => ?_
  exact (pss_cons (ps_expr (pe_methE (pv 0) T.k_Survey mSurvey_need_marks GSurvey_need_marks (hr.mono (by decide)) bSurvey_need_marks (fun σ => passAt (takes_of rfl rfl rfl rfl) σ) (pa_cons (pv 1) (pa_cons (pv 3) pa_nil)))) (pss_one (ps_if (pt_not (pt_val (pe_call Glettered (hr.mono (by decide)) (by rfl) glettered klettered blettered .nil pass0 (pa_cons (pv 2) (pa_cons (pe_fld (pv 0) rfl) pa_nil))))) (pss_one (ps_raise rfl (takes_of rfl rfl rfl rfl) (pmk_own PySem.F.excBase_ValueError T.x_NoKind.1 T.g_NoKind T.x_NoKind.2.1 (raises_own T.x_NoKind.2.2.1 T.x_NoKind.2.2.2) (by exact rfl)))) pss_nil)))
theorem cal_Survey_need_way {P : Program} {w : World} {cl : Nv} {mg : Str → Option Value} {base : Heap} {f : Addr} {fd : FuncData} (F : FunD cl.K "need_way" "Survey.need_way" (defArgs sT_Survey_need_way) (defBody sT_Survey_need_way) (defScope sT_Survey_need_way) [] [] f fd) (T : Tx cl mg) (hSurvey_need_marks : CalM P w cl mg base (L2.CX P w) 1 "Survey" "need_marks" P_Survey_need_marks (spOf cl [.pn, .pn, .pn] .pu G_Survey_need_marks)) (hlettered : Cal P w cl mg base CX0 1 "lettered" P_lettered (spOf cl [.pn, .pn] .pu G_lettered)) (mt : Meth cl.K (cl "Survey") "need_way" f) : CalM P w cl mg base (L2.CX P w) 2 "Survey" "need_way" P_Survey_need_way (spOf cl [.pn, .pn, .pn, .pn] .pu G_Survey_need_way) :=
  ⟨f, fd, mt, F.bindsN fun _ _ _ _ _ _ us hl => (match us, hl with | [_, _, _, _], _ => rfl), ok_Survey_need_way F T hSurvey_need_marks hlettered⟩

theorem sc_trail : FnScope N_trail P_trail (defScope sT_trail) := ⟨rfl, rfl, rfl, by decide +kernel, rfl, by decide +kernel, by decide +kernel⟩
theorem ok_trail {P : Program} {w : World} {cl : Nv} {mg : Str → Option Value} {base : Heap} {f : Addr} {fd : FuncData} (F : FunD cl.K "trail" "trail" (defArgs sT_trail) (defBody sT_trail) (defScope sT_trail) [] [] f fd) (T : Tx cl mg)  : FnOk P w cl.K mg base CX0 1 f fd P_trail (spOf cl [.pn, .pn, .pn] .pu G_trail) := by
  have S := sc_trail
  refine fn_ok (k := 0) (t := t_trail cl) F S rfl (by decide) (fun W => ss_trail cl W T.k_Survey T.a_Survey_kinds T.a_Survey_many T.a_Survey_kept T.a_Survey_coming T.a_Survey_held) fun cdv A outer s H E hr => ?_
  exact (pss_cons (ps_set (i := 3) S.nd rfl (by first | exact Or.inl rfl | exact Or.inr rfl) (pe_lst pa_nil)) (pss_cons (ps_set (i := 4) S.nd rfl (by first | exact Or.inl rfl | exact Or.inr rfl) (pv 1)) (pss_cons (ps_for PassesOwn.never rfl (pi_range1 rfl T.f_range (pa_cons (pe_callB call_lenA (by rfl) T.f_len (by decide +kernel) (pa_cons (pv 2) pa_nil)) pa_nil)) (pg_name (i := 5) S.nd rfl (by first | exact Or.inl rfl | exact Or.inr rfl)) (pss_cons (ps_set (i := 6) S.nd rfl (by first | exact Or.inl rfl | exact Or.inr rfl) (pe_op op_addA (pv 0) (pv 5))) (pss_cons (ps_if (pt_cmpR op_gt (pe_ix ix_seq (pv 2) (pv 5) (fun _ _ => rfl)) pe_int (nomark _)) (pss_one (ps_expr (pe_bm PySem.F.plainAttrs_list PySem.F.slot_list_append PySem.F.type_list_append mt_append (pv 3) (pa_cons (pe_tup (pa_cons (pe_op op_sub (pe_un un_neg pe_int) (pv 5)) (pa_cons (pv 4) (pa_cons (pe_ix ix_seq (pv 2) (pv 5) (fun _ _ => rfl)) (pa_cons (pv 6) pa_nil))))) pa_nil)))) (pss_one (ps_expr (pe_bm PySem.F.plainAttrs_list PySem.F.slot_list_append PySem.F.type_list_append mt_append (pv 3) (pa_cons (pe_tup (pa_cons (pe_op op_sub (pe_un un_neg pe_int) (pv 5)) (pa_cons (pv 6) (pa_cons (pe_un un_neg (pe_ix ix_seq (pv 2) (pv 5) (fun _ _ => rfl))) (pa_cons (pv 4) pa_nil))))) pa_nil))))) (pss_one (ps_set (i := 4) S.nd rfl (by first | exact Or.inl rfl | exact Or.inr rfl) (pv 6)))))) (pss_one (ps_ret (pe_tup (pa_cons (pv 3) (pa_cons (pv 4) pa_nil))))))))
theorem cal_trail {P : Program} {w : World} {cl : Nv} {mg : Str → Option Value} {base : Heap} {f : Addr} {fd : FuncData} (F : FunD cl.K "trail" "trail" (defArgs sT_trail) (defBody sT_trail) (defScope sT_trail) [] [] f fd) (T : Tx cl mg)  (gm : mg "trail" = some (.ref f)) : Cal P w cl mg base CX0 1 "trail" P_trail (spOf cl [.pn, .pn, .pn] .pu G_trail) :=
  ⟨f, fd, gm, F.kp, F.bindsN fun _ _ _ _ _ _ us hl => (match us, hl with | [_, _, _], _ => rfl), ok_trail F T ⟩

theorem sc_Survey_broken : FnScope N_Survey_broken P_Survey_broken (defScope sT_Survey_broken) := ⟨rfl, rfl, rfl, by decide +kernel, rfl, by decide +kernel, by decide +kernel⟩
theorem ok_Survey_broken {P : Program} {w : World} {cl : Nv} {mg : Str → Option Value} {base : Heap} {f : Addr} {fd : FuncData} (F : FunD cl.K "broken" "Survey.broken" (defArgs sT_Survey_broken) (defBody sT_Survey_broken) (defScope sT_Survey_broken) [] [] f fd) (T : Tx cl mg)  : FnOk P w cl.K mg base CX0 1 f fd P_Survey_broken (spOf cl [.pn, .pn] .pu G_Survey_broken) := by
  have S := sc_Survey_broken
  refine fn_ok (k := 0) (t := t_Survey_broken cl) F S rfl (by decide) (fun W => ss_Survey_broken cl W T.k_Survey T.a_Survey_kinds T.a_Survey_many T.a_Survey_kept T.a_Survey_coming T.a_Survey_held) fun cdv A outer s H E hr => ?_
  exact (pss_cons (ps_for PassesOwn.never rfl (pi_list (pe_fld (pv 0) rfl)) (pg_name (i := 2) S.nd rfl (by first | exact Or.inl rfl | exact Or.inr rfl)) (pss_one (ps_if (PW.pt (pw_and (pt_cmpR (op_eqD hr.units) (pe_ix ix_seq (pv 2) pe_int (fun _ _ => rfl)) pe_str (nomark _)) (pw_and1 (pt_cmpR (op_eqD hr.units) (pe_ix ix_seq (pv 1) (pe_ix ix_seq (pv 2) pe_int (fun _ _ => rfl)) (fun _ _ => rfl)) (pe_ix ix_seq (pv 1) (pe_ix ix_seq (pv 2) pe_int (fun _ _ => rfl)) (fun _ _ => rfl)) (nomark _))))) (pss_one (ps_ret (pe_ix ix_seq (pv 2) pe_int (fun _ _ => rfl)))) pss_nil))) (pss_one (ps_ret pe_non)))
theorem cal_Survey_broken {P : Program} {w : World} {cl : Nv} {mg : Str → Option Value} {base : Heap} {f : Addr} {fd : FuncData} (F : FunD cl.K "broken" "Survey.broken" (defArgs sT_Survey_broken) (defBody sT_Survey_broken) (defScope sT_Survey_broken) [] [] f fd) (T : Tx cl mg)  (mt : Meth cl.K (cl "Survey") "broken" f) : CalM P w cl mg base CX0 1 "Survey" "broken" P_Survey_broken (spOf cl [.pn, .pn] .pu G_Survey_broken) :=
  ⟨f, fd, mt, F.bindsN fun _ _ _ _ _ _ us hl => (match us, hl with | [_, _], _ => rfl), ok_Survey_broken F T ⟩

theorem sc_Survey_never_paper : FnScope N_Survey_never_paper P_Survey_never_paper (defScope sT_Survey_never_paper) := ⟨rfl, rfl, rfl, by decide +kernel, rfl, by decide +kernel, by decide +kernel⟩
theorem ok_Survey_never_paper {P : Program} {w : World} {cl : Nv} {mg : Str → Option Value} {base : Heap} {f : Addr} {fd : FuncData} (F : FunD cl.K "never_paper" "Survey.never_paper" (defArgs sT_Survey_never_paper) (defBody sT_Survey_never_paper) (defScope sT_Survey_never_paper) [] [] f fd) (T : Tx cl mg) (hSurvey_need_way : CalM P w cl mg base (L2.CX P w) 2 "Survey" "need_way" P_Survey_need_way (spOf cl [.pn, .pn, .pn, .pn] .pu G_Survey_need_way)) (htrail : Cal P w cl mg base CX0 1 "trail" P_trail (spOf cl [.pn, .pn, .pn] .pu G_trail)) (hfolded : Cal P w cl mg base CX0 3 "folded" P_folded (spOf cl [.pn, .pn, .pn] .pu G_folded)) (hSurvey_rows_now : CalM P w cl mg base CX0 1 "Survey" "rows_now" P_Survey_rows_now (spOf cl [.pn] (.fr (.ls .fz)) G_Survey_rows_now)) (hSurvey_broken : CalM P w cl mg base CX0 1 "Survey" "broken" P_Survey_broken (spOf cl [.pn, .pn] .pu G_Survey_broken)) : FnOk P w cl.K mg base (L2.CX P w) 4 f fd P_Survey_never_paper (spOf cl [.pn, .pn, .pn, .pn] .pu G_Survey_never_paper) := by
  obtain ⟨fSurvey_need_way, fdSurvey_need_way, mSurvey_need_way, bSurvey_need_way, GSurvey_need_way⟩ := hSurvey_need_way
  obtain ⟨ftrail, fdtrail, gtrail, ktrail, btrail, Gtrail⟩ := htrail
  obtain ⟨ffolded, fdfolded, gfolded, kfolded, bfolded, Gfolded⟩ := hfolded
  obtain ⟨fSurvey_rows_now, fdSurvey_rows_now, mSurvey_rows_now, bSurvey_rows_now, GSurvey_rows_now⟩ := hSurvey_rows_now
  obtain ⟨fSurvey_broken, fdSurvey_broken, mSurvey_broken, bSurvey_broken, GSurvey_broken⟩ := hSurvey_broken
  have S := sc_Survey_never_paper
  refine fn_okX (k := 3) (t := t_Survey_never_paper cl) F S rfl (by decide) (fun W => ss_Survey_never_paper cl W T.k_Survey T.a_Survey_kinds T.a_Survey_many T.a_Survey_kept T.a_Survey_coming T.a_Survey_held) fun cdv A outer s H E hr => ?_
  exact (pss_cons (ps_expr (pe_methE (pv 0) T.k_Survey mSurvey_need_way GSurvey_need_way (hr.mono (by decide)) bSurvey_need_way (fun σ => passAt (takes_of rfl rfl rfl rfl) σ) (pa_cons (pv 1) (pa_cons (pv 2) (pa_cons (pv 3) pa_nil))))) (pss_cons (ps_asg (pe_call Gtrail (hr.mono (by decide)) (by rfl) gtrail ktrail btrail .nil pass0 (pa_cons (pe_fld (pv 0) rfl) (pa_cons (pv 1) (pa_cons (pv 2) pa_nil)))) (pg_tup rfl (pgs_cons (pg_name (i := 4) S.nd rfl (by first | exact Or.inl rfl | exact Or.inr rfl)) (pgs_cons (pg_name (i := 5) S.nd rfl (by first | exact Or.inl rfl | exact Or.inr rfl)) pgs_nil)))) (pss_cons (ps_asg (pe_call Gfolded (hr.mono (by decide)) (by rfl) gfolded kfolded bfolded .nil pass0 (pa_cons (pe_op op_addA (pe_fld (pv 0) rfl) (pe_callB call_lenA (by rfl) T.f_len (by decide +kernel) (pa_cons (pv 2) pa_nil))) (pa_cons (pe_op op_addA (pe_meth0 (pv 0) T.k_Survey mSurvey_rows_now GSurvey_rows_now (hr.mono (by decide)) bSurvey_rows_now .nil pass0) (pv 4)) (pa_cons (pe_lst (pa_cons (pe_tup (pa_cons (pv 5) (pa_cons (pv 3) pa_nil))) pa_nil)) pa_nil)))) (pg_tup rfl (pgs_cons (pg_name (i := 6) S.nd rfl (by first | exact Or.inl rfl | exact Or.inr rfl)) (pgs_cons (pg_name (i := 7) S.nd rfl (by first | exact Or.inl rfl | exact Or.inr rfl)) pgs_nil)))) (pss_cons (ps_set (i := 8) S.nd rfl (by first | exact Or.inl rfl | exact Or.inr rfl) (pe_meth (pv 0) T.k_Survey mSurvey_broken GSurvey_broken (hr.mono (by decide)) bSurvey_broken .nil pass0 (pa_cons (pv 6) pa_nil))) (pss_cons (ps_if (pt_cmpR op_isN (pv 8) pe_non (nomark _)) (pss_one (ps_ret pe_non)) pss_nil) (pss_one (ps_ret (pe_tup (pa_cons (pv 8) (pa_cons (pv 7) pa_nil))))))))))
theorem cal_Survey_never_paper {P : Program} {w : World} {cl : Nv} {mg : Str → Option Value} {base : Heap} {f : Addr} {fd : FuncData} (F : FunD cl.K "never_paper" "Survey.never_paper" (defArgs sT_Survey_never_paper) (defBody sT_Survey_never_paper) (defScope sT_Survey_never_paper) [] [] f fd) (T : Tx cl mg) (hSurvey_need_way : CalM P w cl mg base (L2.CX P w) 2 "Survey" "need_way" P_Survey_need_way (spOf cl [.pn, .pn, .pn, .pn] .pu G_Survey_need_way)) (htrail : Cal P w cl mg base CX0 1 "trail" P_trail (spOf cl [.pn, .pn, .pn] .pu G_trail)) (hfolded : Cal P w cl mg base CX0 3 "folded" P_folded (spOf cl [.pn, .pn, .pn] .pu G_folded)) (hSurvey_rows_now : CalM P w cl mg base CX0 1 "Survey" "rows_now" P_Survey_rows_now (spOf cl [.pn] (.fr (.ls .fz)) G_Survey_rows_now)) (hSurvey_broken : CalM P w cl mg base CX0 1 "Survey" "broken" P_Survey_broken (spOf cl [.pn, .pn] .pu G_Survey_broken)) (mt : Meth cl.K (cl "Survey") "never_paper" f) : CalM P w cl mg base (L2.CX P w) 4 "Survey" "never_paper" P_Survey_never_paper (spOf cl [.pn, .pn, .pn, .pn] .pu G_Survey_never_paper) :=
  ⟨f, fd, mt, F.bindsN fun _ _ _ _ _ _ us hl => (match us, hl with | [_, _, _, _], _ => rfl), ok_Survey_never_paper F T hSurvey_need_way htrail hfolded hSurvey_rows_now hSurvey_broken⟩

theorem sc_Survey_row : FnScope N_Survey_row P_Survey_row (defScope sT_Survey_row) := ⟨rfl, rfl, rfl, by decide +kernel, rfl, by decide +kernel, by decide +kernel⟩
theorem ok_Survey_row {P : Program} {w : World} {cl : Nv} {mg : Str → Option Value} {base : Heap} {f : Addr} {fd : FuncData} (F : FunD cl.K "row" "Survey.row" (defArgs sT_Survey_row) (defBody sT_Survey_row) (defScope sT_Survey_row) [] [] f fd) (T : Tx cl mg) (hSurvey_need_marks : CalM P w cl mg base (L2.CX P w) 1 "Survey" "need_marks" P_Survey_need_marks (spOf cl [.pn, .pn, .pn] .pu G_Survey_need_marks)) (hSurvey_need_room : CalM P w cl mg base (L2.CX P w) 1 "Survey" "need_room" P_Survey_need_room (spOf cl [.pn] .pu G_Survey_need_room)) (hSurvey_never_paper : CalM P w cl mg base (L2.CX P w) 4 "Survey" "never_paper" P_Survey_never_paper (spOf cl [.pn, .pn, .pn, .pn] .pu G_Survey_never_paper)) (hSurvey_enter : CalM P w cl mg base CX0 1 "Survey" "enter" P_Survey_enter (spOf cl [(.bo (.io 1)), .pn, .pn] .pu G_Survey_enter)) : FnOk P w cl.K mg base (L2.CX P w) 5 f fd P_Survey_row (spOf cl [(.bo (.io 1)), .pn, .pn, .pn] .pu G_Survey_row) := by
  obtain ⟨fSurvey_need_marks, fdSurvey_need_marks, mSurvey_need_marks, bSurvey_need_marks, GSurvey_need_marks⟩ := hSurvey_need_marks
  obtain ⟨fSurvey_need_room, fdSurvey_need_room, mSurvey_need_room, bSurvey_need_room, GSurvey_need_room⟩ := hSurvey_need_room
  obtain ⟨fSurvey_never_paper, fdSurvey_never_paper, mSurvey_never_paper, bSurvey_never_paper, GSurvey_never_paper⟩ := hSurvey_never_paper
  obtain ⟨fSurvey_enter, fdSurvey_enter, mSurvey_enter, bSurvey_enter, GSurvey_enter⟩ := hSurvey_enter
  have S := sc_Survey_row
  refine fn_okX (k := 4) (t := t_Survey_row cl) F S rfl (by decide) (fun W => ss_Survey_row cl W T.k_Survey T.a_Survey_kinds T.a_Survey_many T.a_Survey_kept T.a_Survey_coming T.a_Survey_held) fun cdv A outer s H E hr => ?_
  exact (pss_cons (ps_expr (pe_methE (pv 0) T.k_Survey mSurvey_need_marks GSurvey_need_marks (hr.mono (by decide)) bSurvey_need_marks (fun σ => passAt (takes_of rfl rfl rfl rfl) σ) (pa_cons (pv 1) (pa_cons (pv 3) pa_nil)))) (pss_cons (ps_if (PW.pt (pw_or (pt_cmpR op_lt (pv 2) pe_int (nomark _)) (pw_or1 (pt_cmpR op_gt (pv 2) (pe_fld (pv 0) rfl) (nomark _))))) (pss_one (ps_raise rfl (takes_of rfl rfl rfl rfl) (pmk_own PySem.F.excBase_ValueError T.x_NoKind.1 T.g_NoKind T.x_NoKind.2.1 (raises_own T.x_NoKind.2.2.1 T.x_NoKind.2.2.2) (by exact rfl)))) pss_nil) (pss_cons (ps_expr (pe_methE0 (pv 0) T.k_Survey mSurvey_need_room GSurvey_need_room (hr.mono (by decide)) bSurvey_need_room (fun σ => passAt (takes_of rfl rfl rfl rfl) σ))) (pss_cons (ps_if (pt_cmpR op_notN (pe_methE (pv 0) T.k_Survey mSurvey_never_paper GSurvey_never_paper (hr.mono (by decide)) bSurvey_never_paper (fun σ => passAt (takes_of rfl rfl rfl rfl) σ) (pa_cons (pv 1) (pa_cons (pe_lst (pa_cons (pv 2) pa_nil)) (pa_cons (pv 3) pa_nil)))) pe_non (nomark _)) (pss_one (ps_raise rfl (takes_of rfl rfl rfl rfl) (pmk_own PySem.F.excBase_ValueError T.x_Barred.1 T.g_Barred T.x_Barred.2.1 (raises_own T.x_Barred.2.2.1 T.x_Barred.2.2.2) (by exact rfl)))) pss_nil) (pss_one (ps_ret (pe_meth (pv 0) T.k_Survey mSurvey_enter GSurvey_enter (hr.mono (by decide)) bSurvey_enter .nil pass0 (pa_cons pe_str (pa_cons (pe_tup (pa_cons (pv 1) (pa_cons (pv 2) (pa_cons (pv 3) pa_nil)))) pa_nil)))))))))
theorem cal_Survey_row {P : Program} {w : World} {cl : Nv} {mg : Str → Option Value} {base : Heap} {f : Addr} {fd : FuncData} (F : FunD cl.K "row" "Survey.row" (defArgs sT_Survey_row) (defBody sT_Survey_row) (defScope sT_Survey_row) [] [] f fd) (T : Tx cl mg) (hSurvey_need_marks : CalM P w cl mg base (L2.CX P w) 1 "Survey" "need_marks" P_Survey_need_marks (spOf cl [.pn, .pn, .pn] .pu G_Survey_need_marks)) (hSurvey_need_room : CalM P w cl mg base (L2.CX P w) 1 "Survey" "need_room" P_Survey_need_room (spOf cl [.pn] .pu G_Survey_need_room)) (hSurvey_never_paper : CalM P w cl mg base (L2.CX P w) 4 "Survey" "never_paper" P_Survey_never_paper (spOf cl [.pn, .pn, .pn, .pn] .pu G_Survey_never_paper)) (hSurvey_enter : CalM P w cl mg base CX0 1 "Survey" "enter" P_Survey_enter (spOf cl [(.bo (.io 1)), .pn, .pn] .pu G_Survey_enter)) (mt : Meth cl.K (cl "Survey") "row" f) : CalM P w cl mg base (L2.CX P w) 5 "Survey" "row" P_Survey_row (spOf cl [(.bo (.io 1)), .pn, .pn, .pn] .pu G_Survey_row) :=
  ⟨f, fd, mt, F.bindsN fun _ _ _ _ _ _ us hl => (match us, hl with | [_, _, _, _], _ => rfl), ok_Survey_row F T hSurvey_need_marks hSurvey_need_room hSurvey_never_paper hSurvey_enter⟩

theorem sc_law_told : FnScope N_law_told P_law_told (defScope sT_law_told) := ⟨rfl, rfl, rfl, by decide +kernel, rfl, by decide +kernel, by decide +kernel⟩
theorem ok_law_told {P : Program} {w : World} {cl : Nv} {mg : Str → Option Value} {base : Heap} {f : Addr} {fd : FuncData} (F : FunD cl.K "_law_told" "_law_told" (defArgs sT_law_told) (defBody sT_law_told) (defScope sT_law_told) [] [] f fd) (T : Tx cl mg) (hSurvey_apart : CalM P w cl mg base (L2.CX P w) 6 "Survey" "apart" P_Survey_apart (spOf cl [(.bo (.io 1)), .pn, .pn] .pu G_Survey_apart)) (hSurvey_row : CalM P w cl mg base (L2.CX P w) 5 "Survey" "row" P_Survey_row (spOf cl [(.bo (.io 1)), .pn, .pn, .pn] .pu G_Survey_row)) : FnOk P w cl.K mg base CX0 7 f fd P_law_told (spOf cl [(.bo (.io 1)), .pn, .pn, .pn, .pn] .pu G_law_told) := by
  obtain ⟨fSurvey_apart, fdSurvey_apart, mSurvey_apart, bSurvey_apart, GSurvey_apart⟩ := hSurvey_apart
  obtain ⟨fSurvey_row, fdSurvey_row, mSurvey_row, bSurvey_row, GSurvey_row⟩ := hSurvey_row
  have S := sc_law_told
  refine fn_ok (k := 6) (t := t_law_told cl) F S rfl (by decide) (fun W => ss_law_told cl W T.k_Survey T.a_Survey_kinds T.a_Survey_many T.a_Survey_kept T.a_Survey_coming T.a_Survey_held T.bad) fun cdv A outer s H E hr => ?_
  exact (pss_cons (ps_set (i := 5) S.nd rfl (by first | exact Or.inl rfl | exact Or.inr rfl) pe_non) (pss_cons (ps_set (i := 6) S.nd rfl (by first | exact Or.inl rfl | exact Or.inr rfl) (pe_lst pa_nil)) (pss_cons (ps_try_as (i := 7) (tb := fun W => (tIfS (tB (tVar 1)) (tAsg (tMethS (cl "Survey") "apart" (spOf cl [(.bo (.io 1)), .pn, .pn] .pu G_Survey_apart) (WE W) (tVar 0) (tCons (tVar 2) (tCons (tVar 4) tNil))) (gName 5)) (tAsg (tMethS (cl "Survey") "row" (spOf cl [(.bo (.io 1)), .pn, .pn, .pn] .pu G_Survey_row) (WE W) (tVar 0) (tCons (tVar 2) (tCons (tVar 3) (tCons (tVar 4) tNil)))) (gName 5)))) (ts := tsBad cl ["Barred", "Full", "NoMark", "NoKind"] 7 6) (Wout := wNo) rfl rfl S.nd rfl rfl ⟨rfl, by decide, .inl T.n_CaveError⟩ takes0 (fun W pn xe tk _ => (pss_one (ps_if (pt_val (pv 1)) (pss_one (ps_set (i := 5) S.nd rfl (by first | exact Or.inl rfl | exact Or.inr rfl) (pe_methE (pv 0) T.k_Survey mSurvey_apart GSurvey_apart (hr.mono (by decide)) bSurvey_apart (fun σ => passAt tk σ) (pa_cons (pv 2) (pa_cons (pv 4) pa_nil))))) (pss_one (ps_set (i := 5) S.nd rfl (by first | exact Or.inl rfl | exact Or.inr rfl) (pe_methE (pv 0) T.k_Survey mSurvey_row GSurvey_row (hr.mono (by decide)) bSurvey_row (fun σ => passAt tk σ) (pa_cons (pv 2) (pa_cons (pv 3) (pa_cons (pv 4) pa_nil))))))))) (fun a oe cls d pn hz hf => pss_known fun x hx e1 e2 => by subst e1 e2; exact (pss_cons (ps_set (i := 6) S.nd rfl (by first | exact Or.inl rfl | exact Or.inr rfl) (pe_lst (pa_cons (pe_callB (call_isE (T.bad x hx).exc hz hf) (by rfl) T.f_isinstance (by decide +kernel) (pa_cons (pv 7) (pa_cons (pe_bltn (v := .ty "ValueError") (by rfl) T.f_ValueError (by decide +kernel) rfl) pa_nil))) (pa_cons (pe_callB (call_isE (T.bad x hx).exc hz hf) (by rfl) T.f_isinstance (by decide +kernel) (pa_cons (pv 7) (pa_cons (pe_glob (by rfl) T.n_NoKind rfl) pa_nil))) (pa_cons (pe_callB (call_isE (T.bad x hx).exc hz hf) (by rfl) T.f_isinstance (by decide +kernel) (pa_cons (pv 7) (pa_cons (pe_glob (by rfl) T.n_NoWay rfl) pa_nil))) (pa_cons (pe_callB (call_isE (T.bad x hx).exc hz hf) (by rfl) T.f_isinstance (by decide +kernel) (pa_cons (pv 7) (pa_cons (pe_glob (by rfl) T.n_NoMark rfl) pa_nil))) pa_nil)))))) (pss_cons (ps_set (i := 6) S.nd rfl (by first | exact Or.inl rfl | exact Or.inr rfl) (pe_op op_addA (pv 6) (pe_lst (pa_cons (pe_callB (call_isE (T.bad x hx).exc hz hf) (by rfl) T.f_isinstance (by decide +kernel) (pa_cons (pv 7) (pa_cons (pe_glob (by rfl) T.n_NoEntry rfl) pa_nil))) (pa_cons (pe_callB (call_isE (T.bad x hx).exc hz hf) (by rfl) T.f_isinstance (by decide +kernel) (pa_cons (pv 7) (pa_cons (pe_glob (by rfl) T.n_NoHold rfl) pa_nil))) (pa_cons (pe_callB (call_isE (T.bad x hx).exc hz hf) (by rfl) T.f_isinstance (by decide +kernel) (pa_cons (pv 7) (pa_cons (pe_glob (by rfl) T.n_NoChamber rfl) pa_nil))) (pa_cons (pe_callB (call_isE (T.bad x hx).exc hz hf) (by rfl) T.f_isinstance (by decide +kernel) (pa_cons (pv 7) (pa_cons (pe_glob (by rfl) T.n_NoChart rfl) pa_nil))) pa_nil))))))) (pss_one (ps_set (i := 6) S.nd rfl (by first | exact Or.inl rfl | exact Or.inr rfl) (pe_op op_addA (pv 6) (pe_lst (pa_cons (pe_callB (call_isE (T.bad x hx).exc hz hf) (by rfl) T.f_isinstance (by decide +kernel) (pa_cons (pv 7) (pa_cons (pe_glob (by rfl) T.n_NoCave rfl) pa_nil))) (pa_cons (pe_callB (call_isE (T.bad x hx).exc hz hf) (by rfl) T.f_isinstance (by decide +kernel) (pa_cons (pv 7) (pa_cons (pe_glob (by rfl) T.n_NoHome rfl) pa_nil))) (pa_cons (pe_callB (call_isE (T.bad x hx).exc hz hf) (by rfl) T.f_isinstance (by decide +kernel) (pa_cons (pv 7) (pa_cons (pe_glob (by rfl) T.n_Barred rfl) pa_nil))) (pa_cons (pe_callB (call_isE (T.bad x hx).exc hz hf) (by rfl) T.f_isinstance (by decide +kernel) (pa_cons (pv 7) (pa_cons (pe_glob (by rfl) T.n_Full rfl) pa_nil))) pa_nil)))))))))))) (pss_one (ps_ret (pe_tup (pa_cons (pv 5) (pa_cons (pv 6) pa_nil))))))))
theorem cal_law_told {P : Program} {w : World} {cl : Nv} {mg : Str → Option Value} {base : Heap} {f : Addr} {fd : FuncData} (F : FunD cl.K "_law_told" "_law_told" (defArgs sT_law_told) (defBody sT_law_told) (defScope sT_law_told) [] [] f fd) (T : Tx cl mg) (hSurvey_apart : CalM P w cl mg base (L2.CX P w) 6 "Survey" "apart" P_Survey_apart (spOf cl [(.bo (.io 1)), .pn, .pn] .pu G_Survey_apart)) (hSurvey_row : CalM P w cl mg base (L2.CX P w) 5 "Survey" "row" P_Survey_row (spOf cl [(.bo (.io 1)), .pn, .pn, .pn] .pu G_Survey_row)) (gm : mg "_law_told" = some (.ref f)) : Cal P w cl mg base CX0 7 "_law_told" P_law_told (spOf cl [(.bo (.io 1)), .pn, .pn, .pn, .pn] .pu G_law_told) :=
  ⟨f, fd, gm, F.kp, F.bindsN fun _ _ _ _ _ _ us hl => (match us, hl with | [_, _, _, _, _], _ => rfl), ok_law_told F T hSurvey_apart hSurvey_row⟩

theorem sc_law_due : FnScope N_law_due P_law_due (defScope sT_law_due) := ⟨rfl, rfl, rfl, by decide +kernel, rfl, by decide +kernel, by decide +kernel⟩
theorem ok_law_due {P : Program} {w : World} {cl : Nv} {mg : Str → Option Value} {base : Heap} {f : Addr} {fd : FuncData} (F : FunD cl.K "_law_due" "_law_due" (defArgs sT_law_due) (defBody sT_law_due) (defScope sT_law_due) [] [] f fd) (T : Tx cl mg)  : FnOk P w cl.K mg base CX0 1 f fd P_law_due (spOf cl [.pn] .pu G_law_due) := by
  have S := sc_law_due
  refine fn_ok (k := 0) (t := t_law_due cl) F S rfl (by decide) (fun W => ss_law_due cl W T.k_Survey T.a_Survey_kinds T.a_Survey_many T.a_Survey_kept T.a_Survey_coming T.a_Survey_held) fun cdv A outer s H E hr => ?_
  exact (pss_cons (ps_set (i := 1) S.nd rfl (by first | exact Or.inl rfl | exact Or.inr rfl) (pe_lst (pa_cons pe_str (pa_cons pe_str (pa_cons pe_str (pa_cons pe_str (pa_cons pe_str (pa_cons pe_str (pa_cons pe_str (pa_cons pe_str (pa_cons pe_str (pa_cons pe_str pa_nil)))))))))))) (pss_one (ps_ret (pe_op op_addA (pe_lst (pa_cons pe_bl pa_nil)) (pe_lc (own := [(("_law_name" : Str), 2)]) (g := gName 2) rfl S.nd (pi_list (pe_op op_addA (pv 1) (pe_lst (pa_cons pe_str pa_nil)))) (blkOk_by (N := N_law_due) (sc := defScope sT_law_due) (own := [(("_law_name" : Str), 2)]) (by decide +kernel)) (fun _ _ _ _ _ => pg_name (i := 2) S.nd rfl (by first | exact Or.inl rfl | exact Or.inr rfl)) (fun _ _ _ _ _ => pts_nil) (fun _ _ _ _ _ => (pe_cmpR (op_eqD hr.units) (pv 2) (pv 0) (nomark _))))))))
theorem cal_law_due {P : Program} {w : World} {cl : Nv} {mg : Str → Option Value} {base : Heap} {f : Addr} {fd : FuncData} (F : FunD cl.K "_law_due" "_law_due" (defArgs sT_law_due) (defBody sT_law_due) (defScope sT_law_due) [] [] f fd) (T : Tx cl mg)  (gm : mg "_law_due" = some (.ref f)) : Cal P w cl mg base CX0 1 "_law_due" P_law_due (spOf cl [.pn] .pu G_law_due) :=
  ⟨f, fd, gm, F.kp, F.bindsN fun _ _ _ _ _ _ us hl => (match us, hl with | [_], _ => rfl), ok_law_due F T ⟩

theorem sc_Survey_hold : FnScope N_Survey_hold P_Survey_hold (defScope sT_Survey_hold) := ⟨rfl, rfl, rfl, by decide +kernel, rfl, by decide +kernel, by decide +kernel⟩
theorem ok_Survey_hold {P : Program} {w : World} {cl : Nv} {mg : Str → Option Value} {base : Heap} {f : Addr} {fd : FuncData} (F : FunD cl.K "hold" "Survey.hold" (defArgs sT_Survey_hold) (defBody sT_Survey_hold) (defScope sT_Survey_hold) [] [] f fd) (T : Tx cl mg)  : FnOk P w cl.K mg base CX0 1 f fd P_Survey_hold (spOf cl [(.bo (.io 1))] .pu G_Survey_hold) := by
  have S := sc_Survey_hold
  refine fn_ok (k := 0) (t := t_Survey_hold cl) F S rfl (by decide) (fun W => ss_Survey_hold cl W T.k_Survey T.a_Survey_kinds T.a_Survey_many T.a_Survey_kept T.a_Survey_coming T.a_Survey_held) fun cdv A outer s H E hr => ?_
  exact (pss_cons (ps_expr (pe_bm PySem.F.plainAttrs_list PySem.F.slot_list_append PySem.F.type_list_append mt_append (pe_fld (pv 0) rfl) (pa_cons (pe_tup (pa_cons (pe_fld (pv 0) rfl) (pa_cons (pe_callTy call_list_of (by rfl) T.f_list (by decide +kernel) (pa_cons (pe_fld (pv 0) rfl) pa_nil)) (pa_cons (pe_fld (pv 0) rfl) pa_nil)))) pa_nil))) (pss_one (ps_ret (pe_callB call_lenA (by rfl) T.f_len (by decide +kernel) (pa_cons (pe_fld (pv 0) rfl) pa_nil)))))
theorem cal_Survey_hold {P : Program} {w : World} {cl : Nv} {mg : Str → Option Value} {base : Heap} {f : Addr} {fd : FuncData} (F : FunD cl.K "hold" "Survey.hold" (defArgs sT_Survey_hold) (defBody sT_Survey_hold) (defScope sT_Survey_hold) [] [] f fd) (T : Tx cl mg)  (mt : Meth cl.K (cl "Survey") "hold" f) : CalM P w cl mg base CX0 1 "Survey" "hold" P_Survey_hold (spOf cl [(.bo (.io 1))] .pu G_Survey_hold) :=
  ⟨f, fd, mt, F.bindsN fun _ _ _ _ _ _ us hl => (match us, hl with | [_], _ => rfl), ok_Survey_hold F T ⟩

theorem sc_Survey_strike : FnScope N_Survey_strike P_Survey_strike (defScope sT_Survey_strike) := ⟨rfl, rfl, rfl, by decide +kernel, rfl, by decide +kernel, by decide +kernel⟩
theorem ok_Survey_strike {P : Program} {w : World} {cl : Nv} {mg : Str → Option Value} {base : Heap} {f : Addr} {fd : FuncData} (F : FunD cl.K "strike" "Survey.strike" (defArgs sT_Survey_strike) (defBody sT_Survey_strike) (defScope sT_Survey_strike) [] [] f fd) (T : Tx cl mg)  : FnOk P w cl.K mg base (L2.CX P w) 1 f fd P_Survey_strike (spOf cl [(.bo (.io 1)), .pn] .pu G_Survey_strike) := by
  have S := sc_Survey_strike
  refine fn_okX (k := 0) (t := t_Survey_strike cl) F S rfl (by decide) (fun W => ss_Survey_strike cl W T.k_Survey T.a_Survey_kinds T.a_Survey_many T.a_Survey_kept T.a_Survey_coming T.a_Survey_held) fun cdv A outer s H E hr => ?_
  exact (pss_cons (ps_setLc (i := 2) (own := [(("entry" : Str), 3)]) (g := gName 3) rfl S.nd rfl rfl (sw_true rfl rfl rfl (by decide +kernel)) (pi_list (pe_fld (pv 0) rfl)) (blkOk_by (N := N_Survey_strike) (sc := defScope sT_Survey_strike) (own := [(("entry" : Str), 3)]) (by decide +kernel)) (fun _ _ _ _ _ => pg_name (i := 3) S.nd rfl (by first | exact Or.inl rfl | exact Or.inr rfl)) (fun _ _ _ _ _ => pts_one (pt_cmpR (op_neD hr.units) (pe_ix ix_seq (pv 3) pe_int (fun _ _ => rfl)) (pv 1) (nomark _))) (fun _ _ _ _ _ => (pv 3))) (pss_cons (ps_if (pt_cmpR (op_eqD hr.units) (pe_callB call_lenA (by rfl) T.f_len (by decide +kernel) (pa_cons (pv 2) pa_nil)) (pe_callB call_lenA (by rfl) T.f_len (by decide +kernel) (pa_cons (pe_fld (pv 0) rfl) pa_nil)) (nomark _)) (pss_one (ps_raise rfl (takes_of rfl rfl rfl rfl) (pmk_own PySem.F.excBase_ValueError T.x_NoEntry.1 T.g_NoEntry T.x_NoEntry.2.1 (raises_own T.x_NoEntry.2.2.1 T.x_NoEntry.2.2.2) (by exact rfl)))) pss_nil) (pss_cons (ps_fld (pv 0) (pv 2) rfl) (pss_one (ps_ret (pv 1))))))
theorem cal_Survey_strike {P : Program} {w : World} {cl : Nv} {mg : Str → Option Value} {base : Heap} {f : Addr} {fd : FuncData} (F : FunD cl.K "strike" "Survey.strike" (defArgs sT_Survey_strike) (defBody sT_Survey_strike) (defScope sT_Survey_strike) [] [] f fd) (T : Tx cl mg)  (mt : Meth cl.K (cl "Survey") "strike" f) : CalM P w cl mg base (L2.CX P w) 1 "Survey" "strike" P_Survey_strike (spOf cl [(.bo (.io 1)), .pn] .pu G_Survey_strike) :=
  ⟨f, fd, mt, F.bindsN fun _ _ _ _ _ _ us hl => (match us, hl with | [_, _], _ => rfl), ok_Survey_strike F T ⟩

theorem sc_Survey_back : FnScope N_Survey_back P_Survey_back (defScope sT_Survey_back) := ⟨rfl, rfl, rfl, by decide +kernel, rfl, by decide +kernel, by decide +kernel⟩
theorem ok_Survey_back {P : Program} {w : World} {cl : Nv} {mg : Str → Option Value} {base : Heap} {f : Addr} {fd : FuncData} (F : FunD cl.K "back" "Survey.back" (defArgs sT_Survey_back) (defBody sT_Survey_back) (defScope sT_Survey_back) [] [] f fd) (T : Tx cl mg)  : FnOk P w cl.K mg base (L2.CX P w) 1 f fd P_Survey_back (spOf cl [(.bo (.io 1)), .pn] .pu G_Survey_back) := by
  have S := sc_Survey_back
  refine fn_okX (k := 0) (t := t_Survey_back cl) F S rfl (by decide) (fun W => ss_Survey_back cl W T.k_Survey T.a_Survey_kinds T.a_Survey_many T.a_Survey_kept T.a_Survey_coming T.a_Survey_held) fun cdv A outer s H E hr => ?_
  exact (pss_cons (ps_if (PW.pt (pw_or (pt_cmpR op_lt (pv 1) pe_int (nomark _)) (pw_or1 (pt_cmpR op_gt (pv 1) (pe_callB call_lenA (by rfl) T.f_len (by decide +kernel) (pa_cons (pe_fld (pv 0) rfl) pa_nil)) (nomark _))))) (pss_one (ps_raise rfl (takes_of rfl rfl rfl rfl) (pmk_own PySem.F.excBase_ValueError T.x_NoHold.1 T.g_NoHold T.x_NoHold.2.1 (raises_own T.x_NoHold.2.2.1 T.x_NoHold.2.2.2) (by exact rfl)))) pss_nil) (pss_cons (ps_asg (pe_ix ix_seq (pe_fld (pv 0) rfl) (pe_op op_sub (pv 1) pe_int) (fun _ _ => rfl)) (pg_tup rfl (pgs_cons (pg_name (i := 2) S.nd rfl (by first | exact Or.inl rfl | exact Or.inr rfl)) (pgs_cons (pg_name (i := 3) S.nd rfl (by first | exact Or.inl rfl | exact Or.inr rfl)) (pgs_cons (pg_name (i := 4) S.nd rfl (by first | exact Or.inl rfl | exact Or.inr rfl)) pgs_nil))))) (pss_cons (ps_fld (pv 0) (pv 2) rfl) (pss_cons (ps_fld (pv 0) (pe_callTy call_list_of (by rfl) T.f_list (by decide +kernel) (pa_cons (pv 3) pa_nil)) rfl) (pss_cons (ps_fld (pv 0) (pv 4) rfl) (pss_cons (ps_fld (pv 0) (pe_slice sl_list (pe_fld (pv 0) rfl) po_none (po_some (pv 1))) rfl) (pss_one (ps_ret (pv 1)))))))))
theorem cal_Survey_back {P : Program} {w : World} {cl : Nv} {mg : Str → Option Value} {base : Heap} {f : Addr} {fd : FuncData} (F : FunD cl.K "back" "Survey.back" (defArgs sT_Survey_back) (defBody sT_Survey_back) (defScope sT_Survey_back) [] [] f fd) (T : Tx cl mg)  (mt : Meth cl.K (cl "Survey") "back" f) : CalM P w cl mg base (L2.CX P w) 1 "Survey" "back" P_Survey_back (spOf cl [(.bo (.io 1)), .pn] .pu G_Survey_back) :=
  ⟨f, fd, mt, F.bindsN fun _ _ _ _ _ _ us hl => (match us, hl with | [_, _], _ => rfl), ok_Survey_back F T ⟩

theorem sc_Survey_twin : FnScope N_Survey_twin P_Survey_twin (defScope sT_Survey_twin) := ⟨rfl, rfl, rfl, by decide +kernel, rfl, by decide +kernel, by decide +kernel⟩
theorem ok_Survey_twin {P : Program} {w : World} {cl : Nv} {mg : Str → Option Value} {base : Heap} {f : Addr} {fd : FuncData} (F : FunD cl.K "twin" "Survey.twin" (defArgs sT_Survey_twin) (defBody sT_Survey_twin) (defScope sT_Survey_twin) [] [] f fd) (T : Tx cl mg) (hSurvey_init : CalI P w cl mg base (L2.CX P w) 1 "Survey" P_Survey_init (spOf cl [(.bo (.io 1)), .pn] .pu G_Survey_init)) : FnOk P w cl.K mg base (L2.CX P w) 3 f fd P_Survey_twin (spOf cl [(.bo (.io 1))] (.fr (.io 1)) G_Survey_twin) := by
  obtain ⟨fSurvey_init, fdSurvey_init, gSurvey_init, MSurvey_init, bSurvey_init, GSurvey_init⟩ := hSurvey_init
  have S := sc_Survey_twin
  refine fn_okX (k := 2) (t := t_Survey_twin cl) F S rfl (by decide) (fun W => ss_Survey_twin cl W T.k_Survey T.a_Survey_kinds T.a_Survey_many T.a_Survey_kept T.a_Survey_coming T.a_Survey_held) fun cdv A outer s H E hr => ?_
  exact (pss_cons (ps_set (i := 1) S.nd rfl (by first | exact Or.inl rfl | exact Or.inr rfl) (pe_makeE MSurvey_init GSurvey_init (hr.mono (by decide)) (by rfl) gSurvey_init bSurvey_init (fun σ => passAt (takes_of rfl rfl rfl rfl) σ) (pa_cons (pe_fld (pv 0) rfl) pa_nil))) (pss_cons (ps_fld (pv 1) (pe_fld (pv 0) rfl) rfl) (pss_cons (ps_fld (pv 1) (pe_callTy call_list_of (by rfl) T.f_list (by decide +kernel) (pa_cons (pe_fld (pv 0) rfl) pa_nil)) rfl) (pss_cons (ps_fld (pv 1) (pe_fld (pv 0) rfl) rfl) (pss_cons (ps_fld (pv 1) (pe_callTy call_list_of (by rfl) T.f_list (by decide +kernel) (pa_cons (pe_fld (pv 0) rfl) pa_nil)) rfl) (pss_one (ps_ret (pv 1))))))))
theorem cal_Survey_twin {P : Program} {w : World} {cl : Nv} {mg : Str → Option Value} {base : Heap} {f : Addr} {fd : FuncData} (F : FunD cl.K "twin" "Survey.twin" (defArgs sT_Survey_twin) (defBody sT_Survey_twin) (defScope sT_Survey_twin) [] [] f fd) (T : Tx cl mg) (hSurvey_init : CalI P w cl mg base (L2.CX P w) 1 "Survey" P_Survey_init (spOf cl [(.bo (.io 1)), .pn] .pu G_Survey_init)) (mt : Meth cl.K (cl "Survey") "twin" f) : CalM P w cl mg base (L2.CX P w) 3 "Survey" "twin" P_Survey_twin (spOf cl [(.bo (.io 1))] (.fr (.io 1)) G_Survey_twin) :=
  ⟨f, fd, mt, F.bindsN fun _ _ _ _ _ _ us hl => (match us, hl with | [_], _ => rfl), ok_Survey_twin F T hSurvey_init⟩

theorem sc_law : FnScope N_law P_law (defScope sT_law) := ⟨rfl, rfl, rfl, by decide +kernel, rfl, by decide +kernel, by decide +kernel⟩
theorem ok_law {P : Program} {w : World} {cl : Nv} {mg : Str → Option Value} {base : Heap} {f : Addr} {fd : FuncData} (F : FunD cl.K "law" "law" (defArgs sT_law) (defBody sT_law) (defScope sT_law) [] [] f fd) (T : Tx cl mg) (hlaw_numbers : Cal P w cl mg base CX0 1 "_law_numbers" P_law_numbers (spOf cl [.sc, .pn] (.fr (.ls .fz)) G_law_numbers)) (hSurvey_init : CalI P w cl mg base (L2.CX P w) 1 "Survey" P_Survey_init (spOf cl [(.bo (.io 1)), .pn] .pu G_Survey_init)) (hSurvey_chalk : CalM P w cl mg base (L2.CX P w) 1 "Survey" "chalk" P_Survey_chalk (spOf cl [(.bo (.io 1))] .pu G_Survey_chalk)) (hSurvey_apart : CalM P w cl mg base (L2.CX P w) 6 "Survey" "apart" P_Survey_apart (spOf cl [(.bo (.io 1)), .pn, .pn] .pu G_Survey_apart)) (hSurvey_row : CalM P w cl mg base (L2.CX P w) 5 "Survey" "row" P_Survey_row (spOf cl [(.bo (.io 1)), .pn, .pn, .pn] .pu G_Survey_row)) (hlaw_told : Cal P w cl mg base CX0 7 "_law_told" P_law_told (spOf cl [(.bo (.io 1)), .pn, .pn, .pn, .pn] .pu G_law_told)) (hlaw_due : Cal P w cl mg base CX0 1 "_law_due" P_law_due (spOf cl [.pn] .pu G_law_due)) (hSurvey_hold : CalM P w cl mg base CX0 1 "Survey" "hold" P_Survey_hold (spOf cl [(.bo (.io 1))] .pu G_Survey_hold)) (hSurvey_strike : CalM P w cl mg base (L2.CX P w) 1 "Survey" "strike" P_Survey_strike (spOf cl [(.bo (.io 1)), .pn] .pu G_Survey_strike)) (hSurvey_back : CalM P w cl mg base (L2.CX P w) 1 "Survey" "back" P_Survey_back (spOf cl [(.bo (.io 1)), .pn] .pu G_Survey_back)) (hSurvey_twin : CalM P w cl mg base (L2.CX P w) 3 "Survey" "twin" P_Survey_twin (spOf cl [(.bo (.io 1))] (.fr (.io 1)) G_Survey_twin)) : FnOk P w cl.K mg base CX0 8 f fd P_law (spOf cl [.sc] .pu G_law) := by
  obtain ⟨flaw_numbers, fdlaw_numbers, glaw_numbers, klaw_numbers, blaw_numbers, Glaw_numbers⟩ := hlaw_numbers
  obtain ⟨fSurvey_init, fdSurvey_init, gSurvey_init, MSurvey_init, bSurvey_init, GSurvey_init⟩ := hSurvey_init
  obtain ⟨fSurvey_chalk, fdSurvey_chalk, mSurvey_chalk, bSurvey_chalk, GSurvey_chalk⟩ := hSurvey_chalk
  obtain ⟨fSurvey_apart, fdSurvey_apart, mSurvey_apart, bSurvey_apart, GSurvey_apart⟩ := hSurvey_apart
  obtain ⟨fSurvey_row, fdSurvey_row, mSurvey_row, bSurvey_row, GSurvey_row⟩ := hSurvey_row
  obtain ⟨flaw_told, fdlaw_told, glaw_told, klaw_told, blaw_told, Glaw_told⟩ := hlaw_told
  obtain ⟨flaw_due, fdlaw_due, glaw_due, klaw_due, blaw_due, Glaw_due⟩ := hlaw_due
  obtain ⟨fSurvey_hold, fdSurvey_hold, mSurvey_hold, bSurvey_hold, GSurvey_hold⟩ := hSurvey_hold
  obtain ⟨fSurvey_strike, fdSurvey_strike, mSurvey_strike, bSurvey_strike, GSurvey_strike⟩ := hSurvey_strike
  obtain ⟨fSurvey_back, fdSurvey_back, mSurvey_back, bSurvey_back, GSurvey_back⟩ := hSurvey_back
  obtain ⟨fSurvey_twin, fdSurvey_twin, mSurvey_twin, bSurvey_twin, GSurvey_twin⟩ := hSurvey_twin
  have S := sc_law
  refine fn_ok (k := 7) (t := t_law cl) F S rfl (by decide) (fun W => ss_law cl W T.k_Survey T.a_Survey_kinds T.a_Survey_many T.a_Survey_kept T.a_Survey_coming T.a_Survey_held) fun cdv A outer s H E hr => ?_
  exact (pss_cons (ps_set (i := 1) S.nd rfl (by first | exact Or.inl rfl | exact Or.inr rfl) (pe_call Glaw_numbers (hr.mono (by decide)) (by rfl) glaw_numbers klaw_numbers blaw_numbers .nil pass0 (pa_cons (pv 0) (pa_cons pe_int pa_nil)))) (pss_cons (ps_set (i := 2) S.nd rfl (by first | exact Or.inl rfl | exact Or.inr rfl) (pe_op op_addA pe_int (pe_op op_mod (pe_ix ix_seq (pv 1) pe_int (fun _ _ => rfl)) pe_int))) (pss_cons (ps_set (i := 3) S.nd rfl (by first | exact Or.inl rfl | exact Or.inr rfl) (pe_op op_addA pe_int (pe_op op_mod (pe_ix ix_seq (pv 1) pe_int (fun _ _ => rfl)) pe_int))) (pss_cons (ps_set (i := 4) S.nd rfl (by first | exact Or.inl rfl | exact Or.inr rfl) (pe_make MSurvey_init GSurvey_init (hr.mono (by decide)) (by rfl) gSurvey_init bSurvey_init .nil passF (pa_cons (pv 2) pa_nil))) (pss_cons (ps_for PassesOwn.never rfl (pi_range1 rfl T.f_range (pa_cons (pv 3) pa_nil)) (pg_name (i := 5) S.nd rfl (by first | exact Or.inl rfl | exact Or.inr rfl)) (pss_one (ps_expr (pe_meth0 (pv 4) T.k_Survey mSurvey_chalk GSurvey_chalk (hr.mono (by decide)) bSurvey_chalk .nil passF)))) (pss_cons (ps_expr (pe_meth (pv 4) T.k_Survey mSurvey_apart GSurvey_apart (hr.mono (by decide)) bSurvey_apart .nil passF (pa_cons pe_int (pa_cons pe_int pa_nil)))) (pss_cons (ps_set (i := 6) S.nd rfl (by first | exact Or.inl rfl | exact Or.inr rfl) (pe_op op_addA pe_int (pe_op op_mod (pe_ix ix_seq (pv 1) pe_int (fun _ _ => rfl)) pe_int))) (pss_cons (ps_for PassesOwn.never rfl (pi_range1 rfl T.f_range (pa_cons (pv 6) pa_nil)) (pg_name (i := 5) S.nd rfl (by first | exact Or.inl rfl | exact Or.inr rfl)) (pss_one (ps_expr (pe_meth (pv 4) T.k_Survey mSurvey_row GSurvey_row (hr.mono (by decide)) bSurvey_row .nil passF (pa_cons pe_int (pa_cons (pe_op op_addA pe_int (pe_op op_mod (pe_op op_mulA (pv 5) (pe_ix ix_seq (pv 1) pe_int (fun _ _ => rfl))) (pv 2))) (pa_cons pe_int pa_nil))))))) (pss_cons (ps_set (i := 7) S.nd rfl (by first | exact Or.inl rfl | exact Or.inr rfl) (pe_cmpR (op_eqD hr.units) (pv 6) pe_int (nomark _))) (pss_cons (ps_set (i := 8) S.nd rfl (by first | exact Or.inl rfl | exact Or.inr rfl) (pe_cmpR (op_eqD hr.units) (pe_op op_mod (pe_ix ix_seq (pv 1) pe_int (fun _ _ => rfl)) pe_int) pe_int (nomark _))) (pss_cons (ps_if (pt_cmpR (op_neD hr.units) (pe_call Glaw_told (hr.mono (by decide)) (by rfl) glaw_told klaw_told blaw_told .nil pass0 (pa_cons (pv 4) (pa_cons (pv 8) (pa_cons (pv 3) (pa_cons (pe_op op_addA pe_int (pe_op op_mod (pe_ix ix_seq (pv 1) pe_int (fun _ _ => rfl)) (pv 2))) (pa_cons pe_int pa_nil)))))) (pe_tup (pa_cons pe_non (pa_cons (pe_call Glaw_due (hr.mono (by decide)) (by rfl) glaw_due klaw_due blaw_due .nil pass0 (pa_cons pe_str pa_nil)) pa_nil))) (nomark _)) (pss_one (ps_ret pe_bl)) pss_nil) (pss_cons (ps_if (pt_cmpR (op_neD hr.units) (pe_call Glaw_told (hr.mono (by decide)) (by rfl) glaw_told klaw_told blaw_told .nil pass0 (pa_cons (pv 4) (pa_cons pe_bl (pa_cons pe_int (pa_cons (pe_op op_addA (pv 2) pe_int) (pa_cons pe_int pa_nil)))))) (pe_tup (pa_cons pe_non (pa_cons (pe_call Glaw_due (hr.mono (by decide)) (by rfl) glaw_due klaw_due blaw_due .nil pass0 (pa_cons pe_str pa_nil)) pa_nil))) (nomark _)) (pss_one (ps_ret pe_bl)) pss_nil) (pss_cons (ps_set (i := 9) S.nd rfl (by first | exact Or.inl rfl | exact Or.inr rfl) (pe_tup (pa_cons pe_non (pa_cons (pe_call Glaw_due (hr.mono (by decide)) (by rfl) glaw_due klaw_due blaw_due .nil pass0 (pa_cons pe_str pa_nil)) pa_nil)))) (pss_cons (ps_if (pt_val (pv 7)) (pss_one (ps_set (i := 9) S.nd rfl (by first | exact Or.inl rfl | exact Or.inr rfl) (pe_tup (pa_cons pe_non (pa_cons (pe_call Glaw_due (hr.mono (by decide)) (by rfl) glaw_due klaw_due blaw_due .nil pass0 (pa_cons pe_str pa_nil)) pa_nil))))) pss_nil) (pss_cons (ps_if (PW.pt (pw_or (pt_cmpR (op_neD hr.units) (pe_call Glaw_told (hr.mono (by decide)) (by rfl) glaw_told klaw_told blaw_told .nil pass0 (pa_cons (pv 4) (pa_cons pe_bl (pa_cons pe_int (pa_cons pe_int (pa_cons pe_int pa_nil)))))) (pv 9) (nomark _)) (pw_or1 (pt_cmpR (op_neD hr.units) (pe_call Glaw_told (hr.mono (by decide)) (by rfl) glaw_told klaw_told blaw_told .nil pass0 (pa_cons (pv 4) (pa_cons pe_bl (pa_cons pe_int (pa_cons pe_int (pa_cons pe_int pa_nil)))))) (pv 9) (nomark _))))) (pss_one (ps_ret pe_bl)) pss_nil) (pss_cons (ps_set (i := 9) S.nd rfl (by first | exact Or.inl rfl | exact Or.inr rfl) (pe_tup (pa_cons (pe_op op_addA (pv 6) pe_int) (pa_cons (pe_lst pa_nil) pa_nil)))) (pss_cons (ps_if (pt_val (pv 7)) (pss_one (ps_set (i := 9) S.nd rfl (by first | exact Or.inl rfl | exact Or.inr rfl) (pe_tup (pa_cons pe_non (pa_cons (pe_call Glaw_due (hr.mono (by decide)) (by rfl) glaw_due klaw_due blaw_due .nil pass0 (pa_cons pe_str pa_nil)) pa_nil))))) pss_nil) (pss_cons (ps_if (pt_cmpR (op_neD hr.units) (pe_call Glaw_told (hr.mono (by decide)) (by rfl) glaw_told klaw_told blaw_told .nil pass0 (pa_cons (pv 4) (pa_cons (pv 8) (pa_cons pe_int (pa_cons pe_int (pa_cons (pe_callTy call_int1 (by rfl) T.f_int (by decide +kernel) (pa_cons (pv 8) pa_nil)) pa_nil)))))) (pv 9) (nomark _)) (pss_one (ps_ret pe_bl)) pss_nil) (pss_cons (ps_set (i := 10) S.nd rfl (by first | exact Or.inl rfl | exact Or.inr rfl) (pe_op op_addA pe_int (pe_op op_mod (pe_ix ix_seq (pv 1) pe_int (fun _ _ => rfl)) (pv 6)))) (pss_cons (ps_set (i := 11) S.nd rfl (by first | exact Or.inl rfl | exact Or.inr rfl) (pe_tup (pa_cons pe_non (pa_cons (pe_call Glaw_due (hr.mono (by decide)) (by rfl) glaw_due klaw_due blaw_due .nil pass0 (pa_cons pe_str pa_nil)) pa_nil)))) (pss_cons (ps_if (PW.pt (pw_or (pt_cmpR (op_neD hr.units) (pe_meth0 (pv 4) T.k_Survey mSurvey_hold GSurvey_hold (hr.mono (by decide)) bSurvey_hold .nil pass0) pe_int (nomark _)) (pw_or (pt_cmpR (op_neD hr.units) (pe_meth (pv 4) T.k_Survey mSurvey_strike GSurvey_strike (hr.mono (by decide)) bSurvey_strike .nil passF (pa_cons (pv 10) pa_nil)) (pv 10) (nomark _)) (pw_or1 (pt_cmpR (op_neD hr.units) (pe_meth (pv 4) T.k_Survey mSurvey_back GSurvey_back (hr.mono (by decide)) bSurvey_back .nil passF (pa_cons pe_int pa_nil)) pe_int (nomark _)))))) (pss_one (ps_ret pe_bl)) pss_nil) (pss_cons (ps_for PassesOwn.never rfl (pi_list (pe_lst (pa_cons (pv 4) (pa_cons (pe_meth0 (pv 4) T.k_Survey mSurvey_twin GSurvey_twin (hr.mono (by decide)) bSurvey_twin .nil passF) pa_nil)))) (pg_name (i := 12) S.nd rfl (by first | exact Or.inl rfl | exact Or.inr rfl)) (pss_one (ps_if (PW.pt (pw_or (pt_cmpR (op_neD hr.units) (pe_call Glaw_told (hr.mono (by decide)) (by rfl) glaw_told klaw_told blaw_told .nil pass0 (pa_cons (pv 12) (pa_cons (pv 8) (pa_cons pe_int (pa_cons pe_int (pa_cons (pe_callTy call_int1 (by rfl) T.f_int (by decide +kernel) (pa_cons (pv 8) pa_nil)) pa_nil)))))) (pv 11) (nomark _)) (pw_or1 (pt_cmpR (op_neD hr.units) (pe_call Glaw_told (hr.mono (by decide)) (by rfl) glaw_told klaw_told blaw_told .nil pass0 (pa_cons (pv 12) (pa_cons pe_bl (pa_cons pe_int (pa_cons pe_int (pa_cons pe_int pa_nil)))))) (pv 11) (nomark _))))) (pss_one (ps_ret pe_bl)) pss_nil))) (pss_cons (ps_if (pt_cmpR (op_neD hr.units) (pe_meth (pv 4) T.k_Survey mSurvey_strike GSurvey_strike (hr.mono (by decide)) bSurvey_strike .nil passF (pa_cons (pv 10) pa_nil)) (pv 10) (nomark _)) (pss_one (ps_ret pe_bl)) pss_nil) (pss_one (ps_ret (pe_cmpR (op_eqD hr.units) (pe_call Glaw_told (hr.mono (by decide)) (by rfl) glaw_told klaw_told blaw_told .nil pass0 (pa_cons (pv 4) (pa_cons (pv 8) (pa_cons pe_int (pa_cons pe_int (pa_cons (pe_callTy call_int1 (by rfl) T.f_int (by decide +kernel) (pa_cons (pv 8) pa_nil)) pa_nil)))))) (pe_tup (pa_cons (pe_op op_sub (pe_op op_addA (pv 6) pe_int) (pe_callTy call_int1 (by rfl) T.f_int (by decide +kernel) (pa_cons (pv 7) pa_nil))) (pa_cons (pe_lst pa_nil) pa_nil))) (nomark _)))))))))))))))))))))))))))
theorem facts {P : Program} {w : World} {K : PySem.W.Frag} {h : Heap} {mg : Str → Option Value} {f : Addr} (X : K.In h) (G : h.Ns mainGlobals mg) (hfa : mg ("law" : Str) = some (.ref f)) (c : He.SaysD fA dN K) (cq : exq K = true) :
    ∃ fd : FuncData, (∀ (s : Shared) (v : Value), BindsTo s fd ⟨[v], []⟩ [("_law_script", v)]) ∧ ∀ base : Heap, K.In base → base.Ns mainGlobals mg → FnOk P w K mg base CX0 8 f fd ["_law_script"] (spOf ⟨fun x => He.ga K (x : Str), K⟩ [.sc] .pu G_law) := by
  let cl : Nv := ⟨fun x => He.ga K (x : Str), K⟩
  obtain ⟨fd0, F0⟩ := c.def_ 0 rfl
  have g0 := He.glo_ok X G (c.fact 0 (f := .glo "_law_numbers") rfl)
  obtain ⟨fd1, F1⟩ := c.def_ 1 rfl
  have g1 := He.mkr_ok (c.fact 1 (f := .mkr "Survey") rfl)
  obtain ⟨fd2, F2⟩ := c.def_ 2 rfl
  have g2 := He.meth_ok (c.fact 2 (f := .meth "Survey" "chalk") rfl)
  obtain ⟨fd3, F3⟩ := c.def_ 3 rfl
  have g3 := He.meth_ok (c.fact 3 (f := .meth "Survey" "need_marks") rfl)
  obtain ⟨fd4, F4⟩ := c.def_ 4 rfl
  have g4 := He.meth_ok (c.fact 4 (f := .meth "Survey" "need_room") rfl)
  obtain ⟨fd5, F5⟩ := c.def_ 5 rfl
  have g5 := He.meth_ok (c.fact 5 (f := .meth "Survey" "rows_now") rfl)
  obtain ⟨fd6, F6⟩ := c.def_ 6 rfl
  have g6 := He.glo_ok X G (c.fact 6 (f := .glo "join") rfl)
  obtain ⟨fd7, F7⟩ := c.def_ 7 rfl
  have g7 := He.glo_ok X G (c.fact 7 (f := .glo "sweep") rfl)
  obtain ⟨fd8, F8⟩ := c.def_ 8 rfl
  have g8 := He.glo_ok X G (c.fact 8 (f := .glo "folded") rfl)
  obtain ⟨fd9, F9⟩ := c.def_ 9 rfl
  have g9 := He.meth_ok (c.fact 9 (f := .meth "Survey" "labels_now") rfl)
  obtain ⟨fd10, F10⟩ := c.def_ 10 rfl
  have g10 := He.meth_ok (c.fact 10 (f := .meth "Survey" "same") rfl)
  obtain ⟨fd11, F11⟩ := c.def_ 11 rfl
  have g11 := He.meth_ok (c.fact 11 (f := .meth "Survey" "enter") rfl)
  obtain ⟨fd12, F12⟩ := c.def_ 12 rfl
  have g12 := He.meth_ok (c.fact 12 (f := .meth "Survey" "apart") rfl)
  obtain ⟨fd13, F13⟩ := c.def_ 13 rfl
  have g13 := He.glo_ok X G (c.fact 13 (f := .glo "lettered") rfl)
  obtain ⟨fd14, F14⟩ := c.def_ 14 rfl
  have g14 := He.meth_ok (c.fact 14 (f := .meth "Survey" "need_way") rfl)
  obtain ⟨fd15, F15⟩ := c.def_ 15 rfl
  have g15 := He.glo_ok X G (c.fact 15 (f := .glo "trail") rfl)
  obtain ⟨fd16, F16⟩ := c.def_ 16 rfl
  have g16 := He.meth_ok (c.fact 16 (f := .meth "Survey" "broken") rfl)
  obtain ⟨fd17, F17⟩ := c.def_ 17 rfl
  have g17 := He.meth_ok (c.fact 17 (f := .meth "Survey" "never_paper") rfl)
  obtain ⟨fd18, F18⟩ := c.def_ 18 rfl
  have g18 := He.meth_ok (c.fact 18 (f := .meth "Survey" "row") rfl)
  obtain ⟨fd19, F19⟩ := c.def_ 19 rfl
  have g19 := He.glo_ok X G (c.fact 19 (f := .glo "_law_told") rfl)
  obtain ⟨fd20, F20⟩ := c.def_ 20 rfl
  have g20 := He.glo_ok X G (c.fact 20 (f := .glo "_law_due") rfl)
  obtain ⟨fd21, F21⟩ := c.def_ 21 rfl
  have g21 := He.meth_ok (c.fact 21 (f := .meth "Survey" "hold") rfl)
  obtain ⟨fd22, F22⟩ := c.def_ 22 rfl
  have g22 := He.meth_ok (c.fact 22 (f := .meth "Survey" "strike") rfl)
  obtain ⟨fd23, F23⟩ := c.def_ 23 rfl
  have g23 := He.meth_ok (c.fact 23 (f := .meth "Survey" "back") rfl)
  obtain ⟨fd24, F24⟩ := c.def_ 24 rfl
  have g24 := He.meth_ok (c.fact 24 (f := .meth "Survey" "twin") rfl)
  obtain ⟨fd25, F25⟩ := c.def_ 25 rfl
  have g25 := He.glo_ok X G (c.fact 25 (f := .glo "law") rfl)
  have i_Survey_init := He.glo_ok X G (c.fact 68 (f := .glo "Survey") rfl)
  have T : Tx cl mg := ⟨He.free_ok X G (c.fact 26 (f := .free "range") rfl), He.free_ok X G (c.fact 27 (f := .free "len") rfl), He.free_ok X G (c.fact 28 (f := .free "min") rfl), He.free_ok X G (c.fact 29 (f := .free "max") rfl), He.free_ok X G (c.fact 30 (f := .free "list") rfl), He.free_ok X G (c.fact 31 (f := .free "abs") rfl), He.free_ok X G (c.fact 32 (f := .free "isinstance") rfl), He.free_ok X G (c.fact 33 (f := .free "ValueError") rfl), He.free_ok X G (c.fact 34 (f := .free "int") rfl), He.int_ok X G (c.fact 35 (f := .int "MOST_KINDS" 5) rfl), He.int_ok X G (c.fact 36 (f := .int "MOST_MARKS" 24) rfl), He.int_ok X G (c.fact 37 (f := .int "MOST_ENTRIES" 40) rfl), He.glo_ok X G (c.fact 38 (f := .glo "NoKind") rfl), He.exc_ok (c.fact 39 (f := .exc "NoKind") rfl), He.glo_ok X G (c.fact 40 (f := .glo "Full") rfl), He.exc_ok (c.fact 41 (f := .exc "Full") rfl), He.glo_ok X G (c.fact 42 (f := .glo "NoMark") rfl), He.exc_ok (c.fact 43 (f := .exc "NoMark") rfl), He.glo_ok X G (c.fact 44 (f := .glo "Barred") rfl), He.exc_ok (c.fact 45 (f := .exc "Barred") rfl), He.glo_ok X G (c.fact 46 (f := .glo "NoEntry") rfl), He.exc_ok (c.fact 47 (f := .exc "NoEntry") rfl), He.glo_ok X G (c.fact 48 (f := .glo "NoHold") rfl), He.exc_ok (c.fact 49 (f := .exc "NoHold") rfl), He.glo_ok X G (c.fact 50 (f := .glo "NoMark") rfl), He.glo_ok X G (c.fact 51 (f := .glo "NoWay") rfl), He.glo_ok X G (c.fact 52 (f := .glo "NoKind") rfl), He.glo_ok X G (c.fact 53 (f := .glo "NoChart") rfl), He.glo_ok X G (c.fact 54 (f := .glo "NoChamber") rfl), He.glo_ok X G (c.fact 55 (f := .glo "NoHold") rfl), He.glo_ok X G (c.fact 56 (f := .glo "NoEntry") rfl), He.glo_ok X G (c.fact 57 (f := .glo "Full") rfl), He.glo_ok X G (c.fact 58 (f := .glo "Barred") rfl), He.glo_ok X G (c.fact 59 (f := .glo "NoHome") rfl), He.glo_ok X G (c.fact 60 (f := .glo "NoCave") rfl), He.glo_ok X G (c.fact 61 (f := .glo "CaveError") rfl), He.cls_ok (c.fact 62 (f := .cls "Survey") rfl), He.noat_ok (c.fact 63 (f := .noat "Survey" "kinds") rfl), He.noat_ok (c.fact 64 (f := .noat "Survey" "many") rfl), He.noat_ok (c.fact 65 (f := .noat "Survey" "kept") rfl), He.noat_ok (c.fact 66 (f := .noat "Survey" "coming") rfl), He.noat_ok (c.fact 67 (f := .noat "Survey" "held") rfl), fun x hx => exF_of (List.all_eq_true.mp (He.ba cq).1 x hx), trivial⟩
  have e := hfa.symm.trans g25
  cases e
  have b := FunD.bindsA (ps := ["_law_script"]) F25 fun _ _ _ _ _ _ us hl => (match us, hl with | [_], _ => rfl)
  refine ⟨fd25, fun s v => b s [v] rfl, fun base _ _ => ?_⟩
  have c_law_numbers := cal_law_numbers (P := P) (w := w) (cl := cl) (base := base) F0 T  g0
  have c_Survey_init := cal_Survey_init (P := P) (w := w) (cl := cl) (base := base) F1 T  i_Survey_init g1
  have c_Survey_chalk := cal_Survey_chalk (P := P) (w := w) (cl := cl) (base := base) F2 T  g2
  have c_Survey_need_marks := cal_Survey_need_marks (P := P) (w := w) (cl := cl) (base := base) F3 T  g3
  have c_Survey_need_room := cal_Survey_need_room (P := P) (w := w) (cl := cl) (base := base) F4 T  g4
  have c_Survey_rows_now := cal_Survey_rows_now (P := P) (w := w) (cl := cl) (base := base) F5 T  g5
  have c_join := cal_join (P := P) (w := w) (cl := cl) (base := base) F6 T  g6
  have c_sweep := cal_sweep (P := P) (w := w) (cl := cl) (base := base) F7 T c_join g7
  have c_folded := cal_folded (P := P) (w := w) (cl := cl) (base := base) F8 T c_join c_sweep g8
  have c_Survey_labels_now := cal_Survey_labels_now (P := P) (w := w) (cl := cl) (base := base) F9 T c_folded c_Survey_rows_now g9
  have c_Survey_same := cal_Survey_same (P := P) (w := w) (cl := cl) (base := base) F10 T c_Survey_need_marks c_Survey_labels_now g10
  have c_Survey_enter := cal_Survey_enter (P := P) (w := w) (cl := cl) (base := base) F11 T  g11
  have c_Survey_apart := cal_Survey_apart (P := P) (w := w) (cl := cl) (base := base) F12 T c_Survey_need_marks c_Survey_need_room c_Survey_same c_Survey_enter g12
  have c_lettered := cal_lettered (P := P) (w := w) (cl := cl) (base := base) F13 T  g13
  have c_Survey_need_way := cal_Survey_need_way (P := P) (w := w) (cl := cl) (base := base) F14 T c_Survey_need_marks c_lettered g14
  have c_trail := cal_trail (P := P) (w := w) (cl := cl) (base := base) F15 T  g15
  have c_Survey_broken := cal_Survey_broken (P := P) (w := w) (cl := cl) (base := base) F16 T  g16
  have c_Survey_never_paper := cal_Survey_never_paper (P := P) (w := w) (cl := cl) (base := base) F17 T c_Survey_need_way c_trail c_folded c_Survey_rows_now c_Survey_broken g17
  have c_Survey_row := cal_Survey_row (P := P) (w := w) (cl := cl) (base := base) F18 T c_Survey_need_marks c_Survey_need_room c_Survey_never_paper c_Survey_enter g18
  have c_law_told := cal_law_told (P := P) (w := w) (cl := cl) (base := base) F19 T c_Survey_apart c_Survey_row g19
  have c_law_due := cal_law_due (P := P) (w := w) (cl := cl) (base := base) F20 T  g20
  have c_Survey_hold := cal_Survey_hold (P := P) (w := w) (cl := cl) (base := base) F21 T  g21
  have c_Survey_strike := cal_Survey_strike (P := P) (w := w) (cl := cl) (base := base) F22 T  g22
  have c_Survey_back := cal_Survey_back (P := P) (w := w) (cl := cl) (base := base) F23 T  g23
  have c_Survey_twin := cal_Survey_twin (P := P) (w := w) (cl := cl) (base := base) F24 T c_Survey_init g24
  exact ok_law (cl := cl) F25 T c_law_numbers c_Survey_init c_Survey_chalk c_Survey_apart c_Survey_row c_law_told c_law_due c_Survey_hold c_Survey_strike c_Survey_back c_Survey_twin
end Lw
open PySem PySem.W PySem.Calls PyProof.Rows
set_option maxHeartbeats 0 in
theorem PySem.Challenge.cw_chalkcave_k36_a_book_without_room_holds : PySem.Challenge.rw_chalkcave_k36_a_book_without_room.Holds := by
  w_on; o_law
  refine HandSHeadRun.head_any (r := OpenLaw.row PySem.Challenge.rw_chalkcave_k36_a_book_without_room) (q := view (OpenLaw.row PySem.Challenge.rw_chalkcave_k36_a_book_without_room).prog [31]) (H := Lw.hk) (ob := Lw.ob) (M := 8000) (loose := Lw.loose) (d := HandSHeadRun.topDef (OpenLaw.row PySem.Challenge.rw_chalkcave_k36_a_book_without_room).prog 31) (kwd := []) Lw.ob_eq
    (by kernel_rfl) (fun s => by kernel_rfl) Lw.run (by kernel_rfl) (by kernel_rfl) (by kernel_rfl) (by rfl) (by first | assumption | decide +kernel) (by decide +kernel) ⟨rfl, rfl, rfl, rfl, rfl, by decide +kernel⟩ ?hw ?hc
  case hw => w_witness2
  case hc =>
    refine L2.walk_ofE (l := PySem.Challenge.rw_chalkcave_k36_a_book_without_room) (n := 63) (k := 8) (x := "_law_script") (CX := L2.CX0) rfl (by decide) (by kernel_rfl) ⟨rfl, by decide, by decide⟩ ?F (fun _ _ _ _ z => z)
    intro w mg fa h Y G hmg0
    obtain ⟨K, KX, c, cq⟩ := Y
    have hmg : mg ("law" : PySem.Str) = some (.ref fa) := by
      have e : (HandSHeadRun.topDef (OpenLaw.row PySem.Challenge.rw_chalkcave_k36_a_book_without_room).prog 31).name = ("law" : PySem.Str) := by kernel_rfl
      rw [← e]
      exact hmg0
    obtain ⟨fd, hb, hF⟩ := Lw.facts (P := (PySem.Challenge.rw_chalkcave_k36_a_book_without_room).prog) (w := w) KX G hmg c cq
    exact ⟨K, fd, _, KX, hb, fun H a ns _ _ hS => Mv.law_sp (cl := ⟨fun x => He.ga K (x : PySem.Str), K⟩) hS (Lw.law_eq ns), hF⟩

